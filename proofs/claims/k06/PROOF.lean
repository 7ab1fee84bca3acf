import PyProof.Rows.All
import Wide.All
import OpenK.AllK
import Wide.FinOn
import HandS.ForMost
import HandS.Deep
import HandS.IsInst
import HandS.TupAny
import HandS.TupLe
import HandS.Style
import HandS.SortRule
import HandS.SortInts
import HandS.Flow
import HandS.More
import HandS.Wide
import PySem.Challenge.RW_manylines_k06_texts_cut_in_pieces
set_option Elab.async false
set_option linter.all false
set_option maxRecDepth 100000
namespace DL
open PySem L2

/-- data by value -/
inductive D where
  | non | bl (b : Bool) | int (i : Int) | str (x : Str) | lst (xs : List D) | tup (xs : List D)
  /-- the script -/
  | scr (ns : List Int)

mutual
inductive Rp (K : PySem.W.Frag) (B : Hp) : V → D → Prop
  | non : Rp K B .non .non
  | bl (b : Bool) : Rp K B (.bl b) (.bl b)
  | int (i : Int) : Rp K B (.int i) (.int i)
  | str (x : Str) : Rp K B (.str x) (.str x)
  | lst {a : Addr} {xs : List V} {ds : List D} : B a = some (.lst xs) → RpL K B xs ds → Rp K B (.ref a) (.lst ds)
  | tup {a : Addr} {xs : List V} {ds : List D} : SqT K B a xs → RpL K B xs ds → Rp K B (.ref a) (.tup ds)
  | scr {a : Addr} {ns : List Int} : SqL K B a (ns.map V.int) → Rp K B (.ref a) (.scr ns)
inductive RpL (K : PySem.W.Frag) (B : Hp) : List V → List D → Prop
  | nil : RpL K B [] []
  | cons {v : V} {vs : List V} {d : D} {ds : List D} : Rp K B v d → RpL K B vs ds → RpL K B (v :: vs) (d :: ds)
end

theorem same_t {K : PySem.W.Frag} {H H' : Hp} {a : Addr} {xs : List V} (e : Same H H') (h : SqT K H a xs) : SqT K H' a xs := by
  rcases h with (h | ⟨o, h⟩) | h
  · exact .inl (.inl (e _ _ h))
  · exact .inl (.inr ⟨o, e _ _ h⟩)
  · exact .inr h

mutual
theorem Rp.mono {K : PySem.W.Frag} {B B' : Hp} (s : Same B B') : ∀ (d : D) (v : V), Rp K B v d → Rp K B' v d
  | .non, _, h => by cases h; exact .non
  | .bl b, _, h => by cases h; exact .bl b
  | .int b, _, h => by cases h; exact .int b
  | .str b, _, h => by cases h; exact .str b
  | .lst ds, _, h => by
    cases h with
    | lst h1 h2 => exact .lst (s _ _ h1) (RpL.mono s ds _ h2)
  | .tup ds, _, h => by
    cases h with
    | tup h1 h2 => exact .tup (same_t s h1) (RpL.mono s ds _ h2)
  | .scr ns, _, h => by
    cases h with
    | scr h1 => exact .scr (s.seq h1)
theorem RpL.mono {K : PySem.W.Frag} {B B' : Hp} (s : Same B B') : ∀ (ds : List D) (vs : List V), RpL K B vs ds → RpL K B' vs ds
  | [], _, h => by cases h; exact .nil
  | d :: ds, _, h => by
    cases h with
    | cons h1 h2 => exact .cons (Rp.mono s d _ h1) (RpL.mono s ds _ h2)
end
theorem Rp.up {K : PySem.W.Frag} {B B' : Hp} {d : D} {v : V} (h : Rp K B v d) (s : Same B B') : Rp K B' v d := Rp.mono s d v h
theorem RpL.up {K : PySem.W.Frag} {B B' : Hp} {ds : List D} {vs : List V} (h : RpL K B vs ds) (s : Same B B') : RpL K B' vs ds := RpL.mono s ds vs h

section
variable {K : PySem.W.Frag} {B : Hp}
theorem RpL.length : ∀ {vs : List V} {ds : List D}, RpL K B vs ds → vs.length = ds.length
  | _, _, .nil => rfl
  | _, _, .cons _ t => by rw [List.length_cons, List.length_cons, RpL.length t]
theorem RpL.append : ∀ {vs us : List V} {ds es : List D}, RpL K B vs ds → RpL K B us es → RpL K B (vs ++ us) (ds ++ es)
  | _, _, _, _, .nil, h => h
  | _, _, _, _, .cons h t, h' => .cons h (RpL.append t h')
theorem RpL.one {v : V} {d : D} (h : Rp K B v d) : RpL K B [v] [d] := .cons h .nil
theorem RpL.get : ∀ {vs : List V} {ds : List D} {i : Nat} {d : D}, RpL K B vs ds → ds[i]? = some d → ∃ v, vs[i]? = some v ∧ Rp K B v d
  | _, _, _, _, .nil, e => by simp at e
  | _, _, 0, _, .cons h _, e => by
    simp at e
    subst e
    exact ⟨_, rfl, h⟩
  | _, _, i + 1, d, .cons _ t, e => by
    obtain ⟨v, h1, h2⟩ := RpL.get (i := i) (d := d) t (by simpa using e)
    exact ⟨v, by simpa using h1, h2⟩
theorem RpL.getV : ∀ {vs : List V} {ds : List D} {i : Nat} {v : V}, RpL K B vs ds → vs[i]? = some v → ∃ d, ds[i]? = some d ∧ Rp K B v d
  | _, _, _, _, .nil, e => by simp at e
  | _, _, 0, _, .cons h _, e => by
    simp at e
    subst e
    exact ⟨_, rfl, h⟩
  | _, _, i + 1, d, .cons _ t, e => by
    obtain ⟨v, h1, h2⟩ := RpL.getV (i := i) (v := d) t (by simpa using e)
    exact ⟨v, by simpa using h1, h2⟩
theorem RpL.set : ∀ {vs : List V} {ds : List D} (i : Nat) {v : V} {d : D}, RpL K B vs ds → Rp K B v d → RpL K B (vs.set i v) (ds.set i d)
  | _, _, _, _, _, .nil, _ => .nil
  | _, _, 0, _, _, .cons _ t, h' => .cons h' t
  | _, _, i + 1, _, _, .cons h t, h' => .cons h (RpL.set i t h')
theorem RpL.take : ∀ {vs : List V} {ds : List D} (n : Nat), RpL K B vs ds → RpL K B (vs.take n) (ds.take n)
  | _, _, 0, _ => .nil
  | _, _, _ + 1, .nil => .nil
  | _, _, n + 1, .cons r t => .cons r (RpL.take n t)
theorem RpL.drop : ∀ {vs : List V} {ds : List D} (n : Nat), RpL K B vs ds → RpL K B (vs.drop n) (ds.drop n)
  | _, _, 0, r => r
  | _, _, _ + 1, .nil => .nil
  | _, _, n + 1, .cons _ t => RpL.drop n t
theorem RpL.reverse : ∀ {vs : List V} {ds : List D}, RpL K B vs ds → RpL K B vs.reverse ds.reverse
  | _, _, .nil => .nil
  | _, _, .cons r t => by
    rw [List.reverse_cons, List.reverse_cons]
    exact (RpL.reverse t).append (.one r)
theorem RpL.dropLast {vs : List V} {ds : List D} (h : RpL K B vs ds) : RpL K B vs.dropLast ds.dropLast := by
  rw [List.dropLast_eq_take, List.dropLast_eq_take, h.length]
  exact h.take _
theorem RpL.erase : ∀ {vs : List V} {ds : List D} (i : Nat), RpL K B vs ds → RpL K B (vs.eraseIdx i) (ds.eraseIdx i)
  | _, _, _, .nil => .nil
  | _, _, 0, .cons _ t => t
  | _, _, i + 1, .cons h t => .cons h (RpL.erase i t)
theorem RpL.ints : ∀ {vs : List V} {ns : List Int}, RpL K B vs (ns.map D.int) → vs = ns.map V.int
  | _, [], h => by cases h; rfl
  | _, n :: ns, h => by
    cases h with
    | cons h t =>
      cases h
      rw [RpL.ints t]
      rfl
theorem RpL.of_ints : ∀ {ns : List Int}, RpL K B (ns.map V.int) (ns.map D.int)
  | [] => .nil
  | _ :: _ => .cons (.int _) RpL.of_ints
theorem RpL.strs : ∀ {vs : List V} {ns : List Str}, RpL K B vs (ns.map D.str) → vs = ns.map V.str
  | _, [], h => by cases h; rfl
  | _, n :: ns, h => by
    cases h with
    | cons h t =>
      cases h
      rw [RpL.strs t]
      rfl
theorem RpL.of_strs : ∀ {ns : List Str}, RpL K B (ns.map V.str) (ns.map D.str)
  | [] => .nil
  | _ :: _ => .cons (.str _) RpL.of_strs
theorem RpL.bls : ∀ {vs : List V} {ns : List Bool}, RpL K B vs (ns.map D.bl) → vs = ns.map V.bl
  | _, [], h => by cases h; rfl
  | _, n :: ns, h => by
    cases h with
    | cons h t =>
      cases h
      rw [RpL.bls t]
      rfl
end

/-- a slot's content: frozen data, or a list of the def's own at p -/
inductive C where
  | fz (d : D)
  | own (p : Addr) (ds : List D)
abbrev DEnv := List (Option C)

structure RE (K : PySem.W.Frag) (F B H : Hp) (σ : St) (δ : DEnv) : Prop where
  sB : Same B H
  sF : Same F H
  dj : ∀ a o, B a = some o → F a = none
  len : σ.length = δ.length
  fz : ∀ (i : Nat) (d : D), δ[i]? = some (some (.fz d)) → ∃ v, σ[i]? = some (some v) ∧ Rp K B v d
  own : ∀ (i : Nat) (p : Addr) (ds : List D), δ[i]? = some (some (.own p ds)) → σ[i]? = some (some (.ref p)) ∧ B p = none ∧ F p = none ∧ ∃ xs, H p = some (.lst xs) ∧ RpL K B xs ds
  sep : ∀ (i j : Nat) (p : Addr) (ds es : List D), δ[i]? = some (some (.own p ds)) → δ[j]? = some (some (.own p es)) → i = j

theorem same_new {H : Hp} {p : Addr} {o : HO} (h : H p = none) : Same H (upd H p o) := fun b x e => by
  rw [upd_ne (ne_of_none e h)]
  exact e
theorem same_upd {B H : Hp} {p : Addr} {o : HO} (s : Same B H) (h : B p = none) : Same B (upd H p o) := fun b x e => by
  rw [upd_ne (ne_of_none e h)]
  exact s _ _ e
theorem same_both {B H : Hp} {p : Addr} {o : HO} (s : Same B H) : Same (upd B p o) (upd H p o) := fun b x e => by
  by_cases hb : b = p
  · subst hb
    rw [upd_same] at e ⊢
    exact e
  · rw [upd_ne hb] at e ⊢
    exact s _ _ e

section
variable {K : PySem.W.Frag} {F B H : Hp} {σ : St} {δ : DEnv}
/-- a new frozen object -/
theorem RE.alloc (R : RE K F B H σ δ) {p : Addr} {o : HO} (hp : H p = none) : RE K F (upd B p o) (upd H p o) σ δ where
  sB := same_both R.sB
  sF := same_upd R.sF (R.sF.free hp)
  dj := fun a u e => by
    by_cases ha : a = p
    · subst ha
      exact R.sF.free hp
    · rw [upd_ne ha] at e
      exact R.dj a u e
  len := R.len
  fz := fun i d e => by
    obtain ⟨v, h1, h2⟩ := R.fz i d e
    exact ⟨v, h1, h2.up (same_new (R.sB.free hp))⟩
  own := fun i q ds e => by
    obtain ⟨h1, h2, h3, xs, h4, h5⟩ := R.own i q ds e
    have ne : q ≠ p := ne_of_none h4 hp
    exact ⟨h1, by rw [upd_ne ne]; exact h2, h3, xs, by rw [upd_ne ne]; exact h4, h5.up (same_new (R.sB.free hp))⟩
  sep := R.sep
/-- a new object that no slot holds yet (a list to be one's own) -/
theorem RE.allocN (R : RE K F B H σ δ) {p : Addr} {o : HO} (hp : H p = none) : RE K F B (upd H p o) σ δ where
  sB := same_upd R.sB (R.sB.free hp)
  sF := same_upd R.sF (R.sF.free hp)
  dj := R.dj
  len := R.len
  fz := R.fz
  own := fun i q ds e => by
    obtain ⟨h1, h2, h3, xs, h4, h5⟩ := R.own i q ds e
    have ne : q ≠ p := ne_of_none h4 hp
    exact ⟨h1, h2, h3, xs, by rw [upd_ne ne]; exact h4, h5⟩
  sep := R.sep
theorem RE.lt (R : RE K F B H σ δ) {i : Nat} {c : Option C} (h : δ[i]? = some c) : i < σ.length := by
  rw [R.len]
  exact (List.getElem?_eq_some_iff.mp h).1
/-- a slot stored with frozen data -/
theorem RE.setF (R : RE K F B H σ δ) {i : Nat} {v : V} {d : D} (h : Rp K B v d) : RE K F B H (σ.set i (some v)) (δ.set i (some (.fz d))) where
  sB := R.sB
  sF := R.sF
  dj := R.dj
  len := by rw [List.length_set, List.length_set, R.len]
  fz := fun j e he => by
    by_cases hj : i = j
    · subst hj
      by_cases hl : i < δ.length
      · rw [List.getElem?_set_self hl] at he
        cases he
        exact ⟨v, List.getElem?_set_self (by rw [R.len]; exact hl), h⟩
      · rw [List.getElem?_eq_none (by rw [List.length_set]; omega)] at he
        cases he
    · rw [List.getElem?_set_ne hj] at he ⊢
      exact R.fz j e he
  own := fun j q ds he => by
    by_cases hj : i = j
    · subst hj
      by_cases hl : i < δ.length
      · rw [List.getElem?_set_self hl] at he
        cases he
      · rw [List.getElem?_eq_none (by rw [List.length_set]; omega)] at he
        cases he
    · rw [List.getElem?_set_ne hj] at he ⊢
      exact R.own j q ds he
  sep := fun a b q ds es ha hb => by
    have na : i ≠ a := fun z => by
      subst z
      by_cases hl : i < δ.length
      · rw [List.getElem?_set_self hl] at ha
        cases ha
      · rw [List.getElem?_eq_none (by rw [List.length_set]; omega)] at ha
        cases ha
    have nb : i ≠ b := fun z => by
      subst z
      by_cases hl : i < δ.length
      · rw [List.getElem?_set_self hl] at hb
        cases hb
      · rw [List.getElem?_eq_none (by rw [List.length_set]; omega)] at hb
        cases hb
    rw [List.getElem?_set_ne na] at ha
    rw [List.getElem?_set_ne nb] at hb
    exact R.sep a b q ds es ha hb
/-- a slot stored with a new list of one's own -/
theorem RE.setO (R : RE K F B H σ δ) {i : Nat} {p : Addr} {xs : List V} {ds : List D} (hB : B p = none) (hF : F p = none) (hH : H p = some (.lst xs)) (h : RpL K B xs ds)
    (hn : ∀ (j : Nat) (es : List D), δ[j]? ≠ some (some (C.own p es))) : RE K F B H (σ.set i (some (.ref p))) (δ.set i (some (.own p ds))) where
  sB := R.sB
  sF := R.sF
  dj := R.dj
  len := by rw [List.length_set, List.length_set, R.len]
  fz := fun j e he => by
    by_cases hj : i = j
    · subst hj
      by_cases hl : i < δ.length
      · rw [List.getElem?_set_self hl] at he
        cases he
      · rw [List.getElem?_eq_none (by rw [List.length_set]; omega)] at he
        cases he
    · rw [List.getElem?_set_ne hj] at he ⊢
      exact R.fz j e he
  own := fun j q es he => by
    by_cases hj : i = j
    · subst hj
      by_cases hl : i < δ.length
      · rw [List.getElem?_set_self hl] at he
        cases he
        exact ⟨List.getElem?_set_self (by rw [R.len]; exact hl), hB, hF, xs, hH, h⟩
      · rw [List.getElem?_eq_none (by rw [List.length_set]; omega)] at he
        cases he
    · rw [List.getElem?_set_ne hj] at he ⊢
      exact R.own j q es he
  sep := fun a b q es fs ha hb => by
    by_cases na : i = a
    · by_cases nb : i = b
      · exact na.symm.trans nb
      · subst na
        rw [List.getElem?_set_ne nb] at hb
        by_cases hl : i < δ.length
        · rw [List.getElem?_set_self hl] at ha
          cases ha
          exact absurd hb (hn b fs)
        · rw [List.getElem?_eq_none (by rw [List.length_set]; omega)] at ha
          cases ha
    · rw [List.getElem?_set_ne na] at ha
      by_cases nb : i = b
      · subst nb
        by_cases hl : i < δ.length
        · rw [List.getElem?_set_self hl] at hb
          cases hb
          exact absurd ha (hn a es)
        · rw [List.getElem?_eq_none (by rw [List.length_set]; omega)] at hb
          cases hb
      · rw [List.getElem?_set_ne nb] at hb
        exact R.sep a b q es fs ha hb
/-- the own list in slot i is changed -/
theorem RE.chg (R : RE K F B H σ δ) {i : Nat} {p : Addr} {ds ds' : List D} {xs' : List V} (h : δ[i]? = some (some (.own p ds))) (h' : RpL K B xs' ds') :
    RE K F B (upd H p (.lst xs')) σ (δ.set i (some (.own p ds'))) where
  sB := same_upd R.sB (R.own i p ds h).2.1
  sF := same_upd R.sF (R.own i p ds h).2.2.1
  dj := R.dj
  len := by rw [List.length_set, R.len]
  fz := fun j e he => by
    have hl := (List.getElem?_eq_some_iff.mp h).1
    by_cases hj : i = j
    · subst hj
      rw [List.getElem?_set_self hl] at he
      cases he
    · rw [List.getElem?_set_ne hj] at he
      exact R.fz j e he
  own := fun j q es he => by
    have hl := (List.getElem?_eq_some_iff.mp h).1
    obtain ⟨h1, h2, h3, xs, h4, h5⟩ := R.own i p ds h
    by_cases hj : i = j
    · subst hj
      rw [List.getElem?_set_self hl] at he
      cases he
      exact ⟨h1, h2, h3, xs', upd_same, h'⟩
    · rw [List.getElem?_set_ne hj] at he
      obtain ⟨g1, g2, g3, ys, g4, g5⟩ := R.own j q es he
      have ne : q ≠ p := fun z => by
        subst z
        exact hj (R.sep i j q ds es h he)
      exact ⟨g1, g2, g3, ys, by rw [upd_ne ne]; exact g4, g5⟩
  sep := fun a b q es fs ha hb => by
    have hl := (List.getElem?_eq_some_iff.mp h).1
    have key : ∀ (a : Nat) (q : Addr) (es : List D), (δ.set i (some (.own p ds')))[a]? = some (some (.own q es)) → ∃ es', δ[a]? = some (some (.own q es')) := fun a q es ha => by
      by_cases na : i = a
      · subst na
        rw [List.getElem?_set_self hl] at ha
        cases ha
        exact ⟨ds, h⟩
      · rw [List.getElem?_set_ne na] at ha
        exact ⟨es, ha⟩
    obtain ⟨es', ha'⟩ := key a q es ha
    obtain ⟨fs', hb'⟩ := key b q fs hb
    exact R.sep a b q es' fs' ha' hb'
/-- the own list in slot i is frozen from now on -/
theorem RE.freeze (R : RE K F B H σ δ) {i : Nat} {p : Addr} {ds : List D} (h : δ[i]? = some (some (.own p ds))) :
    ∃ B', Same B B' ∧ RE K F B' H σ (δ.set i (some (.fz (.lst ds)))) ∧ Rp K B' (.ref p) (.lst ds) := by
  obtain ⟨h1, h2, h3, xs, h4, h5⟩ := R.own i p ds h
  have hl := (List.getElem?_eq_some_iff.mp h).1
  have sm : Same B (upd B p (.lst xs)) := same_new h2
  have rp : Rp K (upd B p (.lst xs)) (.ref p) (.lst ds) := .lst upd_same (h5.up sm)
  refine ⟨upd B p (.lst xs), sm, ⟨fun b o e => ?_, R.sF, fun a o e => ?_, by rw [List.length_set, R.len], fun j e he => ?_, fun j q es he => ?_, fun a b q es fs ha hb => ?_⟩, rp⟩
  · by_cases hb : b = p
    · subst hb
      rw [upd_same] at e
      rw [h4, e]
    · rw [upd_ne hb] at e
      exact R.sB _ _ e
  · by_cases ha : a = p
    · subst ha
      exact h3
    · rw [upd_ne ha] at e
      exact R.dj a o e
  · by_cases hj : i = j
    · subst hj
      rw [List.getElem?_set_self hl] at he
      cases he
      exact ⟨_, h1, rp⟩
    · rw [List.getElem?_set_ne hj] at he
      obtain ⟨v, g1, g2⟩ := R.fz j e he
      exact ⟨v, g1, g2.up sm⟩
  · by_cases hj : i = j
    · subst hj
      rw [List.getElem?_set_self hl] at he
      cases he
    · rw [List.getElem?_set_ne hj] at he
      obtain ⟨g1, g2, g3, ys, g4, g5⟩ := R.own j q es he
      have ne : q ≠ p := fun z => by
        subst z
        exact hj (R.sep i j q ds es h he)
      exact ⟨g1, by rw [upd_ne ne]; exact g2, g3, ys, g4, g5.up sm⟩
  · by_cases na : i = a
    · subst na
      rw [List.getElem?_set_self hl] at ha
      cases ha
    · by_cases nb : i = b
      · subst nb
        rw [List.getElem?_set_self hl] at hb
        cases hb
      · rw [List.getElem?_set_ne na] at ha
        rw [List.getElem?_set_ne nb] at hb
        exact R.sep a b q es fs ha hb
/-- slots forgotten -/
theorem RE.weak (R : RE K F B H σ δ) {σ' : St} {δ' : DEnv} (hl : σ'.length = δ'.length) (h : ∀ (i : Nat) c, δ'[i]? = some (some c) → δ[i]? = some (some c) ∧ σ'[i]? = σ[i]?) : RE K F B H σ' δ' where
  sB := R.sB
  sF := R.sF
  dj := R.dj
  len := hl
  fz := fun j e he => by
    obtain ⟨h1, h2⟩ := h j _ he
    rw [h2]
    exact R.fz j e h1
  own := fun j q ds he => by
    obtain ⟨h1, h2⟩ := h j _ he
    rw [h2]
    exact R.own j q ds h1
  sep := fun a b q ds es ha hb => R.sep a b q ds es (h a _ ha).1 (h b _ hb).1
end
end DL

namespace DL
open PySem L2

/-! ### semantic readings -/
def WE (X : Cx) (e : Expr) (σ : St) (H : Hp) (Q : VK) : Prop := ∀ (pins : List (Addr × Obj)) (s : Shared), Inv X pins σ H s → wpAny (model X.prog X.w) X.A (eval e X.env) (EP X pins σ Q) X.xe s
def WT (X : Cx) (e : Expr) (σ : St) (H : Hp) (Q : Bool → Hp → Prop) : Prop := ∀ (pins : List (Addr × Obj)) (s : Shared), Inv X pins σ H s → wpAny (model X.prog X.w) X.A (isTrue e X.env (eval e X.env)) (TP X pins σ Q) X.xe s
def WA (X : Cx) (es : List Expr) (σ : St) (H : Hp) (Q : List V → Hp → Prop) : Prop := ∀ (pos : Pos) (pins : List (Addr × Obj)) (s : Shared), Inv X pins σ H s → wpAny (model X.prog X.w) X.A (spliced (backTo pos (starEach es X.env))) (AP X pins σ Q) X.xe s
def WS (X : Cx) (st : Stmt) (D : Ends) (σ : St) (H : Hp) : Prop := ∀ (pins : List (Addr × Obj)) (s : Shared), Inv X pins σ H s → wpAny (model X.prog X.w) X.A (exec st X.env) (SP X pins D) X.xe s
def WSs (X : Cx) (st : List Stmt) (D : Ends) (σ : St) (H : Hp) : Prop := ∀ (pins : List (Addr × Obj)) (s : Shared), Inv X pins σ H s → wpAny (model X.prog X.w) X.A (execs st X.env) (SP X pins D) X.xe s
def WG (X : Cx) (tg : Expr) (v : V) (σ : St) (H : Hp) (Q : St → Hp → Prop) : Prop := ∀ (pins : List (Addr × Obj)) (s : Shared) (u : Value), Inv X pins σ H s → RelV v u → wpAny (model X.prog X.w) X.A (assign tg X.env u) (fun _ s' => ∃ σ' H', Inv X pins σ' H' s' ∧ Q σ' H') X.xe s
def WI (X : Cx) (tg iter : Expr) (σ : St) (H : Hp) (R : It → Hp → Prop) : Prop := ∀ (pins : List (Addr × Obj)) (s : Shared), Inv X pins σ H s →
    wpAny (model X.prog X.w) X.A (eval iter X.env) (fun v s1 => wpAny (model X.prog X.w) X.A (pyIter v) (PIE X pins σ tg R) X.xe s1) X.xe s
section
variable {X : Cx} {e tg iter : Expr} {es : List Expr} {st : Stmt} {sts : List Stmt} {σ : St} {H : Hp}
theorem we_pe : PE X e (WE X e) := ⟨fun pins s _ _ _ I h => h pins s I⟩
theorem wt_pt : PT X e (WT X e) := ⟨fun pins s _ _ _ I h => h pins s I⟩
theorem wa_pa : PA X es (WA X es) := ⟨fun pos pins s _ _ _ I h => h pos pins s I⟩
theorem ws_ps : PS X st (WS X st) := ⟨fun pins s _ _ _ I h => h pins s I⟩
theorem wss_pss : PSs X sts (WSs X sts) := ⟨fun pins s _ _ _ I h => h pins s I⟩
theorem wg_pg : PG X tg (WG X tg) := ⟨fun pins s _ _ _ u _ I r h => h pins s u I r⟩
theorem wi_pi : PI X tg iter (WI X tg iter) := ⟨fun pins s _ _ _ I h => h pins s I⟩
theorem pe_we {t : TE} {Q : VK} (h : PE X e t) (q : t σ H Q) : WE X e σ H Q := fun pins s I => h.run pins s σ H Q I q
theorem pt_wt {t : TT} {Q : Bool → Hp → Prop} (h : PT X e t) (q : t σ H Q) : WT X e σ H Q := fun pins s I => h.run pins s σ H Q I q
theorem pa_wa {t : TA} {Q : List V → Hp → Prop} (h : PA X es t) (q : t σ H Q) : WA X es σ H Q := fun pos pins s I => h.run pos pins s σ H Q I q
theorem ps_ws {t : TS} {D : Ends} (h : PS X st t) (q : t D σ H) : WS X st D σ H := fun pins s I => h.run pins s σ H D I q
theorem pss_wss {t : TS} {D : Ends} (h : PSs X sts t) (q : t D σ H) : WSs X sts D σ H := fun pins s I => h.run pins s σ H D I q
theorem pg_wg {t : TG} {v : V} {Q : St → Hp → Prop} (h : PG X tg t) (q : t v σ H Q) : WG X tg v σ H Q := fun pins s u I r => h.run pins s σ H v u Q I r q
theorem pi_wi {t : TI} {Q : It → Hp → Prop} (h : PI X tg iter t) (q : t σ H Q) : WI X tg iter σ H Q := fun pins s I => h.run pins s σ H Q I q
theorem WE.imp {Q Q' : VK} (h : WE X e σ H Q) (k : ∀ v H', Q v H' → Q' v H') : WE X e σ H Q' := fun pins s I => thn (h pins s I) fun _ _ ⟨v, H', I', r, q⟩ => ⟨v, H', I', r, k v H' q⟩
theorem WT.imp {Q Q' : Bool → Hp → Prop} (h : WT X e σ H Q) (k : ∀ v H', Q v H' → Q' v H') : WT X e σ H Q' := fun pins s I => thn (h pins s I) fun b _ ⟨H', I', q⟩ => ⟨H', I', k b H' q⟩
theorem WA.imp {Q Q' : List V → Hp → Prop} (h : WA X es σ H Q) (k : ∀ v H', Q v H' → Q' v H') : WA X es σ H Q' := fun pos pins s I => thn (h pos pins s I) fun _ _ ⟨v, H', I', r, q⟩ => ⟨v, H', I', r, k v H' q⟩
theorem WG.imp {v : V} {Q Q' : St → Hp → Prop} (h : WG X tg v σ H Q) (k : ∀ v H', Q v H' → Q' v H') : WG X tg v σ H Q' := fun pins s u I r => thn (h pins s u I r) fun _ _ ⟨σ', H', I', q⟩ => ⟨σ', H', I', k σ' H' q⟩
theorem sp_imp {pins : List (Addr × Obj)} {D D' : Ends} {f : Flow} {s' : Shared} (h : SP X pins D f s') (kn : ∀ σ H, D.nx σ H → D'.nx σ H) (kr : ∀ v H, D.rt v H → D'.rt v H) (kb : ∀ σ H, D.bk σ H → D'.bk σ H) (kc : ∀ σ H, D.ct σ H → D'.ct σ H) : SP X pins D' f s' := by
  cases f with
  | next => obtain ⟨σ', H', I, q⟩ := h; exact ⟨σ', H', I, kn _ _ q⟩
  | brk => obtain ⟨σ', H', I, q⟩ := h; exact ⟨σ', H', I, kb _ _ q⟩
  | cont => obtain ⟨σ', H', I, q⟩ := h; exact ⟨σ', H', I, kc _ _ q⟩
  | ret u => obtain ⟨v, σ', H', I, r, q⟩ := h; exact ⟨v, σ', H', I, r, kr _ _ q⟩
theorem WS.imp {D D' : Ends} (h : WS X st D σ H) (kn : ∀ σ H, D.nx σ H → D'.nx σ H) (kr : ∀ v H, D.rt v H → D'.rt v H) (kb : ∀ σ H, D.bk σ H → D'.bk σ H) (kc : ∀ σ H, D.ct σ H → D'.ct σ H) : WS X st D' σ H :=
  fun pins s I => thn (h pins s I) fun _ _ q => sp_imp q kn kr kb kc
theorem WSs.imp {D D' : Ends} (h : WSs X sts D σ H) (kn : ∀ σ H, D.nx σ H → D'.nx σ H) (kr : ∀ v H, D.rt v H → D'.rt v H) (kb : ∀ σ H, D.bk σ H → D'.bk σ H) (kc : ∀ σ H, D.ct σ H → D'.ct σ H) : WSs X sts D' σ H :=
  fun pins s I => thn (h pins s I) fun _ _ q => sp_imp q kn kr kb kc
end

/-! ### data -/
def C.d : C → D
  | .fz d => d
  | .own _ ds => .lst ds
def live : C → DEnv → Prop
  | .fz _, _ => True
  | .own p ds, δ => ∃ i : Nat, δ[i]? = some (some (.own p ds))
def lives : List C → DEnv → Prop
  | [], _ => True
  | c :: cs, δ => live c δ ∧ lives cs δ
/-- .. and what then follows -/
def lv (c : C) (δ : DEnv) (X : Prop) : Prop := match c with
  | .fz _ => X
  | .own p ds => (∃ i : Nat, δ[i]? = some (some (.own p ds))) ∧ X
def lvs : List C → DEnv → Prop → Prop
  | [], _, X => X
  | c :: cs, δ, X => lv c δ (lvs cs δ X)
theorem lv_ok {c : C} {δ : DEnv} {X : Prop} (h : lv c δ X) : live c δ ∧ X := by
  cases c with
  | fz d => exact ⟨trivial, h⟩
  | own p ds => exact h
theorem lvs_ok : ∀ {cs : List C} {δ : DEnv} {X : Prop}, lvs cs δ X → lives cs δ ∧ X
  | [], _, _, h => ⟨trivial, h⟩
  | _ :: _, _, _, h => let ⟨a, b⟩ := lv_ok h; let ⟨c, d⟩ := lvs_ok b; ⟨⟨a, c⟩, d⟩
/-- a value that a part of the state stands for -/
def RC (K : PySem.W.Frag) (F B H : Hp) (v : V) : C → Prop
  | .fz d => Rp K B v d
  | .own p ds => v = .ref p ∧ B p = none ∧ F p = none ∧ ∃ xs, H p = some (.lst xs) ∧ RpL K B xs ds
/-- data at hand, be it frozen or a list of one's own -/
def RW (K : PySem.W.Frag) (B H : Hp) (v : V) (d : D) : Prop := Rp K B v d ∨ ∃ p xs ds, v = .ref p ∧ d = .lst ds ∧ H p = some (.lst xs) ∧ RpL K B xs ds
inductive RWL (K : PySem.W.Frag) (B H : Hp) : List V → List D → Prop
  | nil : RWL K B H [] []
  | cons {v : V} {vs : List V} {d : D} {ds : List D} : RW K B H v d → RWL K B H vs ds → RWL K B H (v :: vs) (d :: ds)
/-- what is known of a value whatever comes -/
def RC0 (K : PySem.W.Frag) (B : Hp) (v : V) : C → Prop
  | .fz d => Rp K B v d
  | .own p _ => v = .ref p
inductive RCL (K : PySem.W.Frag) (B : Hp) : List V → List C → Prop
  | nil : RCL K B [] []
  | cons {v : V} {vs : List V} {c : C} {cs : List C} : RC0 K B v c → RCL K B vs cs → RCL K B (v :: vs) (c :: cs)
section
variable {K : PySem.W.Frag} {F B B' H H' : Hp} {v : V} {d : D} {ds : List D} {σ : St} {δ : DEnv} {c : C}
theorem RC.c0 (h : RC K F B H v c) : RC0 K B v c := by
  cases c with
  | fz d => exact h
  | own p ds => exact h.1
theorem RC0.up (h : RC0 K B v c) (s : Same B B') : RC0 K B' v c := by
  cases c with
  | fz d => exact Rp.up h s
  | own p ds => exact h
theorem RCL.up (s : Same B B') : ∀ {vs : List V} {cs : List C}, RCL K B vs cs → RCL K B' vs cs
  | _, _, .nil => .nil
  | _, _, .cons h t => .cons (h.up s) (RCL.up s t)
theorem RE.live0 (R : RE K F B H σ δ) (h : RC0 K B v c) (l : live c δ) : RW K B H v c.d := by
  cases c with
  | fz d => exact .inl h
  | own p ds =>
    obtain ⟨i, hi⟩ := l
    obtain ⟨_, _, _, xs, h4, h5⟩ := R.own i p ds hi
    exact .inr ⟨p, xs, ds, h, rfl, h4, h5⟩
theorem RE.live (R : RE K F B' H' σ δ) (s : Same B B') (h : RC K F B H v c) (l : live c δ) : RW K B' H' v c.d := R.live0 (h.c0.up s) l
theorem RE.lives (R : RE K F B H σ δ) : ∀ {vs : List V} {cs : List C}, RCL K B vs cs → lives cs δ → RWL K B H vs (cs.map C.d)
  | _, _, .nil, _ => .nil
  | _, _, .cons h t, l => .cons (R.live0 h l.1) (RE.lives R t l.2)
theorem RC.now (h : RC K F B H v c) : RW K B H v c.d := by
  cases c with
  | fz d => exact .inl h
  | own p ds =>
    obtain ⟨h1, _, _, xs, h4, h5⟩ := h
    exact .inr ⟨p, xs, ds, h1, rfl, h4, h5⟩
theorem RW.lst (sB : Same B H) (h : RW K B H v (.lst ds)) : ∃ p xs, v = .ref p ∧ H p = some (.lst xs) ∧ RpL K B xs ds := by
  rcases h with h | ⟨p, xs, es, h1, h2, h3, h4⟩
  · cases h with
    | lst h1 h2 => exact ⟨_, _, rfl, sB _ _ h1, h2⟩
  · cases h2
    exact ⟨p, xs, h1, h3, h4⟩
theorem RW.tup (sB : Same B H) (h : RW K B H v (.tup ds)) : ∃ p xs, v = .ref p ∧ SqT K H p xs ∧ RpL K B xs ds := by
  rcases h with h | ⟨p, xs, es, h1, h2, h3, h4⟩
  · cases h with
    | tup h1 h2 => exact ⟨_, _, rfl, same_t sB h1, h2⟩
  · cases h2
theorem RW.int {i : Int} (h : RW K B H v (.int i)) : v = .int i := by
  rcases h with h | ⟨p, xs, es, h1, h2, h3, h4⟩
  · cases h; rfl
  · cases h2
theorem RW.str {i : Str} (h : RW K B H v (.str i)) : v = .str i := by
  rcases h with h | ⟨p, xs, es, h1, h2, h3, h4⟩
  · cases h; rfl
  · cases h2
theorem RW.bl {i : Bool} (h : RW K B H v (.bl i)) : v = .bl i := by
  rcases h with h | ⟨p, xs, es, h1, h2, h3, h4⟩
  · cases h; rfl
  · cases h2
theorem RW.non (h : RW K B H v .non) : v = .non := by
  rcases h with h | ⟨p, xs, es, h1, h2, h3, h4⟩
  · cases h; rfl
  · cases h2
end

/-- a test's two ways -/
def kIf (b : Bool) (A B : Prop) : Prop := match b with
  | true => A
  | false => B
theorem kIf_b {b : Bool} {A B : Prop} (h1 : b = true → A) (h2 : b = false → B) : kIf b A B := by
  cases b with
  | true => exact h1 rfl
  | false => exact h2 rfl
theorem kIf_dec {p : Prop} [Decidable p] {A B : Prop} (h1 : p → A) (h2 : ¬ p → B) : kIf (decide p) A B := kIf_b (fun h => h1 (of_decide_eq_true h)) fun h => h2 (of_decide_eq_false h)
theorem kIf_ndec {p : Prop} [Decidable p] {A B : Prop} (h1 : ¬ p → A) (h2 : p → B) : kIf (!decide p) A B := kIf_b (fun h => h1 (of_decide_eq_false (by simpa using h))) fun h => h2 (of_decide_eq_true (by simpa using h))
theorem kIf_nb {b : Bool} {A B : Prop} (h1 : b = false → A) (h2 : b = true → B) : kIf (!b) A B := kIf_b (fun h => h1 (by simpa using h)) fun h => h2 (by simpa using h)
/-! ### judgements -/
structure XOk (X : Cx) : Prop where
  calm : X.calm = true
  nd : X.N.Nodup
  un : X.A.units + 128 < cLine
abbrev DTE := DEnv → (C → DEnv → Prop) → Prop
abbrev DTT := DEnv → (Bool → DEnv → Prop) → Prop
abbrev DTA := DEnv → (List C → DEnv → Prop) → Prop
abbrev DTN := DEnv → (List D → DEnv → Prop) → Prop
abbrev DTG := D → DEnv → (DEnv → Prop) → Prop
structure DEnds where
  nx : DEnv → Prop
  rt : C → DEnv → Prop
  bk : DEnv → Prop := fun _ => False
  ct : DEnv → Prop := fun _ => False
abbrev DTS := DEnds → DEnv → Prop
def QE (K : PySem.W.Frag) (F B : Hp) (σ : St) (Q : C → DEnv → Prop) : VK := fun v H' => ∃ B' δ' c, Same B B' ∧ RE K F B' H' σ δ' ∧ RC K F B' H' v c ∧ Q c δ'
def QT (K : PySem.W.Frag) (F B : Hp) (σ : St) (Q : Bool → DEnv → Prop) : Bool → Hp → Prop := fun b H' => ∃ B' δ', Same B B' ∧ RE K F B' H' σ δ' ∧ Q b δ'
def QA (K : PySem.W.Frag) (F B : Hp) (σ : St) (n : Nat) (Q : List C → DEnv → Prop) : List V → Hp → Prop := fun vs H' => ∃ B' δ' cs, vs.length = n ∧ Same B B' ∧ RE K F B' H' σ δ' ∧ RCL K B' vs cs ∧ lives cs δ' ∧ Q cs δ'
def NewL (K : PySem.W.Frag) (F B H : Hp) (δ : DEnv) (v : V) (ds : List D) : Prop := ∃ p xs, v = .ref p ∧ B p = none ∧ F p = none ∧ (∀ (j : Nat) (es : List D), δ[j]? ≠ some (some (C.own p es))) ∧ H p = some (.lst xs) ∧ RpL K B xs ds
def QN (K : PySem.W.Frag) (F B : Hp) (σ : St) (Q : List D → DEnv → Prop) : VK := fun v H' => ∃ B' δ' ds, Same B B' ∧ RE K F B' H' σ δ' ∧ NewL K F B' H' δ' v ds ∧ Q ds δ'
/-- what a def hands back: frozen data, or a new list that no slot holds any more -/
def RR (K : PySem.W.Frag) (F B H : Hp) (δ : DEnv) (v : V) : C → Prop
  | .fz d => Rp K B v d
  | .own p ds => ∃ xs, v = .ref p ∧ B p = none ∧ F p = none ∧ (∀ (j : Nat) (es : List D), δ[j]? ≠ some (some (C.own p es))) ∧ H p = some (.lst xs) ∧ RpL K B xs ds
def lift (K : PySem.W.Frag) (F B : Hp) (D : DEnds) : Ends where
  nx := fun σ' H' => ∃ B' δ', Same B B' ∧ RE K F B' H' σ' δ' ∧ D.nx δ'
  rt := fun v H' => ∃ B' σ' δ' c, Same B B' ∧ RE K F B' H' σ' δ' ∧ RR K F B' H' δ' v c ∧ D.rt c δ'
  bk := fun σ' H' => ∃ B' δ', Same B B' ∧ RE K F B' H' σ' δ' ∧ D.bk δ'
  ct := fun σ' H' => ∃ B' δ', Same B B' ∧ RE K F B' H' σ' δ' ∧ D.ct δ'
structure DE (X : Cx) (e : Expr) (t : DTE) : Prop where
  run : ∀ (F B H : Hp) (σ : St) (δ : DEnv) (Q : C → DEnv → Prop), RE X.K F B H σ δ → t δ Q → WE X e σ H (QE X.K F B σ Q)
structure DT (X : Cx) (e : Expr) (t : DTT) : Prop where
  run : ∀ (F B H : Hp) (σ : St) (δ : DEnv) (Q : Bool → DEnv → Prop), RE X.K F B H σ δ → t δ Q → WT X e σ H (QT X.K F B σ Q)
structure DN (X : Cx) (e : Expr) (t : DTN) : Prop where
  run : ∀ (F B H : Hp) (σ : St) (δ : DEnv) (Q : List D → DEnv → Prop), RE X.K F B H σ δ → t δ Q → WE X e σ H (QN X.K F B σ Q)
structure DA (X : Cx) (es : List Expr) (t : DTA) : Prop where
  run : ∀ (F B H : Hp) (σ : St) (δ : DEnv) (Q : List C → DEnv → Prop), RE X.K F B H σ δ → t δ Q → WA X es σ H (QA X.K F B σ es.length Q)
structure DS (X : Cx) (st : Stmt) (t : DTS) : Prop where
  run : ∀ (F B H : Hp) (σ : St) (δ : DEnv) (D : DEnds), RE X.K F B H σ δ → t D δ → WS X st (lift X.K F B D) σ H
structure DSs (X : Cx) (st : List Stmt) (t : DTS) : Prop where
  run : ∀ (F B H : Hp) (σ : St) (δ : DEnv) (D : DEnds), RE X.K F B H σ δ → t D δ → WSs X st (lift X.K F B D) σ H
/-- results of an operation by values -/
def QV (K : PySem.W.Frag) (F B : Hp) (σ : St) (δ : DEnv) (Q : D → Prop) : VK := fun v H' => ∃ B' d, Same B B' ∧ RE K F B' H' σ δ ∧ Rp K B' v d ∧ Q d
def QNV (K : PySem.W.Frag) (F B : Hp) (σ : St) (δ : DEnv) (Q : List D → Prop) : VK := fun v H' => ∃ B' ds, Same B B' ∧ RE K F B' H' σ δ ∧ NewL K F B' H' δ v ds ∧ Q ds
abbrev G2 := D → D → (D → Prop) → Prop
def OpS (X : Cx) (f : Value → Value → Sem Value) (g : G2) : Prop :=
  ∀ (F B H : Hp) (σ : St) (δ : DEnv) (v1 v2 : V) (d1 d2 : D) (Q : D → Prop), RE X.K F B H σ δ → RW X.K B H v1 d1 → RW X.K B H v2 d2 → g d1 d2 Q → ∃ r, OpR X f r ∧ r v1 v2 H (QV X.K F B σ δ Q)
abbrev GN := List D → (D → Prop) → Prop
def CallS (X : Cx) (f : Value) (g : GN) : Prop :=
  ∀ (F B H : Hp) (σ : St) (δ : DEnv) (vs : List V) (ds : List D) (Q : D → Prop), RE X.K F B H σ δ → RWL X.K B H vs ds → g ds Q → ∃ r, CallR X f r ∧ r vs H (QV X.K F B σ δ Q)
def CallN (X : Cx) (f : Value) (g : List D → (List D → Prop) → Prop) : Prop :=
  ∀ (F B H : Hp) (σ : St) (δ : DEnv) (vs : List V) (ds : List D) (Q : List D → Prop), RE X.K F B H σ δ → RWL X.K B H vs ds → g ds Q → ∃ r, CallR X f r ∧ r vs H (QNV X.K F B σ δ Q)
/-- weakest by values -/
def WO (X : Cx) (f : Value → Value → Sem Value) : R2 := fun x y H Q => ∃ r, OpR X f r ∧ r x y H Q
theorem wo_ok {X : Cx} {f : Value → Value → Sem Value} : OpR X f (WO X f) := fun pins s σ H x y v u Q I rx ry ⟨_, hr, q⟩ => hr pins s σ H x y v u Q I rx ry q
def WC (X : Cx) (f : Value) : List V → Hp → VK → Prop := fun vs H Q => ∃ r, CallR X f r ∧ r vs H Q
theorem wc_ok {X : Cx} {f : Value} : CallR X f (WC X f) := fun pins s σ H xs us Q I rx ⟨_, hr, q⟩ => hr pins s σ H xs us Q I rx q

section
variable {X : Cx} {a b e : Expr} {pos : Pos}
/-! ### names and constants -/
def dName (i : Nat) : DTE := fun δ Q => match δ[i]? with
  | some (some c) => Q c δ
  | _ => False
theorem e_name (i : Nat) {x : Str} (hN : X.N[i]? = some x := by rfl) (hv : Vis X.env.scope x := by first | exact Or.inl rfl | exact Or.inr (Or.inl rfl) | exact Or.inr (Or.inr rfl)) (hd : (x == ("__debug__" : Str)) = false := by decide)
    (hcd : (x == ("__classdict__" : Str)) = false := by decide) : DE X (.Name x pos) (dName i) := ⟨fun F B H σ δ Q R h => by
  unfold dName at h
  split at h
  case h_1 c hc =>
    cases c with
    | fz d =>
      obtain ⟨v, h1, h2⟩ := R.fz i d hc
      exact pe_we (pe_var hN hv hd hcd) ⟨v, h1, B, δ, .fz d, Same.refl B, R, h2, h⟩
    | own p ds =>
      obtain ⟨h1, h2⟩ := R.own i p ds hc
      exact pe_we (pe_var hN hv hd hcd) ⟨_, h1, B, δ, .own p ds, Same.refl B, R, ⟨rfl, h2⟩, h⟩
  case h_2 => exact h.elim⟩
/-- the list in slot i is frozen from now on -/
def dNameF (i : Nat) : DTE := fun δ Q => match δ[i]? with
  | some (some c) => Q (.fz c.d) (δ.set i (some (.fz c.d)))
  | _ => False
theorem e_nameF (i : Nat) {x : Str} (hN : X.N[i]? = some x := by rfl) (hv : Vis X.env.scope x := by first | exact Or.inl rfl | exact Or.inr (Or.inl rfl) | exact Or.inr (Or.inr rfl)) (hd : (x == ("__debug__" : Str)) = false := by decide)
    (hcd : (x == ("__classdict__" : Str)) = false := by decide) : DE X (.Name x pos) (dNameF i) := ⟨fun F B H σ δ Q R h => by
  unfold dNameF at h
  split at h
  case h_1 c hc =>
    cases c with
    | fz d =>
      obtain ⟨v, h1, h2⟩ := R.fz i d hc
      refine pe_we (pe_var hN hv hd hcd) ⟨v, h1, B, _, .fz d, Same.refl B, ?_, h2, h⟩
      have e : δ.set i (some (.fz (C.fz d).d)) = δ := by
        apply List.ext_getElem?
        intro j
        by_cases hj : i = j
        · subst hj
          rw [List.getElem?_set_self (List.getElem?_eq_some_iff.mp hc).1, hc]
          rfl
        · rw [List.getElem?_set_ne hj]
      rw [e]
      exact R
    | own p ds =>
      obtain ⟨h1, _⟩ := R.own i p ds hc
      obtain ⟨B', sB, R', rp⟩ := R.freeze hc
      exact pe_we (pe_var hN hv hd hcd) ⟨_, h1, B', _, .fz (.lst ds), sB, R', rp, h⟩
  case h_2 => exact h.elim⟩
def dC (d : D) : DTE := fun δ Q => Q (.fz d) δ
theorem e_int {i j pos} : DE X (.Constant (.int i) j pos) (dC (.int i)) := ⟨fun F B H σ δ Q R h => pe_we pe_int ⟨B, δ, .fz (.int i), Same.refl B, R, Rp.int i, h⟩⟩
theorem e_str {i j pos} : DE X (.Constant (.str i) j pos) (dC (.str i)) := ⟨fun F B H σ δ Q R h => pe_we pe_str ⟨B, δ, .fz (.str i), Same.refl B, R, Rp.str i, h⟩⟩
theorem e_bl {i j pos} : DE X (.Constant (.bool i) j pos) (dC (.bl i)) := ⟨fun F B H σ δ Q R h => pe_we pe_bl ⟨B, δ, .fz (.bl i), Same.refl B, R, Rp.bl i, h⟩⟩
theorem e_non {j pos} : DE X (.Constant .none j pos) (dC .non) := ⟨fun F B H σ δ Q R h => pe_we pe_non ⟨B, δ, .fz .non, Same.refl B, R, Rp.non, h⟩⟩
/-- a module's int or text -/
theorem e_globI {x : Str} {i : Int} {t : Tok} (hm : X.mg x = some (.int i t)) (hg : Gl X x := by rfl) (hd : (x == ("__debug__" : Str)) = false := by decide) : DE X (.Name x pos) (dC (.int i)) :=
  ⟨fun F B H σ δ Q R h => pe_we (pe_glob (v := .int i) hg hm ⟨t, rfl⟩ hd) ⟨B, δ, .fz (.int i), Same.refl B, R, Rp.int i, h⟩⟩
theorem e_globS {x : Str} {i : Str} {t : Tok} (hm : X.mg x = some (.str i t)) (hg : Gl X x := by rfl) (hd : (x == ("__debug__" : Str)) = false := by decide) : DE X (.Name x pos) (dC (.str i)) :=
  ⟨fun F B H σ δ Q R h => pe_we (pe_glob (v := .str i) hg hm ⟨t, rfl⟩ hd) ⟨B, δ, .fz (.str i), Same.refl B, R, Rp.str i, h⟩⟩
theorem e_globT {x : Str} {p : Addr} {xs : List V} {ds : List D} (hm : X.mg x = some (.ref p)) (hT : ∀ H, SqT X.K H p xs) (hds : ∀ B, RpL X.K B xs ds) (hg : Gl X x := by rfl) (hd : (x == ("__debug__" : Str)) = false := by decide) : DE X (.Name x pos) (dC (.tup ds)) :=
  ⟨fun F B H σ δ Q R h => pe_we (pe_glob (v := .ref p) hg hm rfl hd) ⟨B, δ, .fz (.tup ds), Same.refl B, R, Rp.tup (hT B) (hds B), h⟩⟩

/-! ### two operands -/
def dBin (g : G2) (ta tb : DTE) : DTE := fun δ Q => ta δ fun ca δ1 => tb δ1 fun cb δ2 => lv ca δ2 (g ca.d cb.d fun d => Q (.fz d) δ2)
theorem bin_core {f : Value → Value → Sem Value} {g : G2} {ta tb : DTE} (ho : OpS X f g) (ha : DE X a ta) (hb : DE X b tb) {F B H : Hp} {σ : St} {δ : DEnv} {Q : C → DEnv → Prop} {Qe : VK} (R : RE X.K F B H σ δ) (h : dBin g ta tb δ Q) (k : ∀ v H', QE X.K F B σ Q v H' → Qe v H') :
    tOp (WO X f) (WE X a) (WE X b) σ H Qe := by
  refine (ha.run F B H σ δ _ R h).imp fun v1 H1 ⟨B1, δ1, c1, s1, R1, r1, h1⟩ => ?_
  refine (hb.run F B1 H1 σ δ1 _ R1 h1).imp fun v2 H2 ⟨B2, δ2, c2, s2, R2, r2, h2⟩ => ?_
  obtain ⟨l, h2⟩ := lv_ok h2
  obtain ⟨r, hr, q⟩ := ho F B2 H2 σ δ2 v1 v2 c1.d c2.d (fun d => Q (.fz d) δ2) R2 (R2.live s2 r1 l) r2.now h2
  refine ⟨fun x y H' Q' => ∃ Q0 : VK, r x y H' Q0 ∧ ∀ v H'', Q0 v H'' → Q' v H'', fun pins s σ H x y v u Q' I rx ry ⟨Q0, q0, k⟩ => ?_, _, q, ?_⟩
  · exact thn (hr pins s σ H x y v u Q0 I rx ry q0) fun _ _ ⟨v, H', I', r, q⟩ => ⟨v, H', I', r, k v H' q⟩
  · rintro v H' ⟨B', d, sB, R', rp, q'⟩
    exact k _ _ ⟨B', δ2, .fz d, (s1.trans s2).trans sB, R', rp, q'⟩
theorem e_bin {op : Operator} {g : G2} {ta tb : DTE} (ho : OpS X (binaryOp op) g) (ha : DE X a ta) (hb : DE X b tb) : DE X (.BinOp a op b pos) (dBin g ta tb) :=
  ⟨fun F B H σ δ Q R h => pe_we (pe_op wo_ok we_pe we_pe) (bin_core ho ha hb R h fun _ _ z => z)⟩
theorem e_cmp {op : CmpOp} {g : G2} {ta tb : DTE} (ho : OpS X (compareOp op) g) (ha : DE X a ta) (hb : DE X b tb) (hm : behindInMarks op b = false := by first | exact nomark _ | rfl | with_unfolding_all rfl) : DE X (.Compare a [op] [b] pos) (dBin g ta tb) :=
  ⟨fun F B H σ δ Q R h => pe_we (pe_cmpR wo_ok we_pe we_pe hm) (bin_core ho ha hb R h fun _ _ z => z)⟩
/-- a test of a value that is a bool -/
def kB (Q : Bool → DEnv → Prop) (c : C) (δ' : DEnv) : Prop := match c with
  | .fz (.bl b) => Q b δ'
  | _ => False
def dB (t : DTE) : DTT := fun δ Q => t δ (kB Q)
theorem kB_ok {K : PySem.W.Frag} {F B H' : Hp} {σ : St} {Q : Bool → DEnv → Prop} {v : V} (h : QE K F B σ (kB Q) v H') : ∃ k, v = .bl k ∧ QT K F B σ Q k H' := by
  obtain ⟨B1, δ1, c1, s1, R1, r1, h1⟩ := h
  match c1, r1, h1 with
  | .fz (.bl b), r1, h1 =>
    cases r1
    exact ⟨b, rfl, B1, δ1, s1, R1, h1⟩
theorem t_val {t : DTE} (h : DE X e t) (he : ∀ whole, isTrue e X.env whole = (do let v ← whole; standAt e.pos; holding [v] (truthy v)) := by intro _; rfl) : DT X e (dB t) :=
  ⟨fun F B H σ δ Q R q => pt_wt (pt_val we_pe he) ((h.run F B H σ δ _ R q).imp fun _ _ z => kB_ok z)⟩
theorem t_cmp {op : CmpOp} {g : G2} {ta tb : DTE} (ho : OpS X (compareOp op) g) (ha : DE X a ta) (hb : DE X b tb) (hm : behindInMarks op b = false := by first | exact nomark _ | rfl | with_unfolding_all rfl) : DT X (.Compare a [op] [b] pos) (dB (dBin g ta tb)) :=
  ⟨fun F B H σ δ Q R h => pt_wt (pt_cmpR wo_ok we_pe we_pe hm) (bin_core ho ha hb R h fun _ _ z => kB_ok z)⟩
end
end DL

namespace DL
open PySem L2

/-! ### data as the library's -/
mutual
def toPy : D → PyData
  | .non => .none
  | .bl b => .bool b
  | .int i => .int i
  | .str x => .str x
  | .lst ds => .list (toPyL ds)
  | .tup ds => .tuple (toPyL ds)
  | .scr ns => .list (ns.map PyData.int)
def toPyL : List D → List PyData
  | [] => []
  | d :: ds => toPy d :: toPyL ds
end
theorem dp_ints {K : PySem.W.Frag} {H : Hp} : ∀ ns : List Int, DpAll K H (ns.map V.int) (ns.map PyData.int)
  | [] => .nil
  | _ :: ns => .cons (.int _) (dp_ints ns)
mutual
theorem Rp.dp {K : PySem.W.Frag} {B H : Hp} (s : Same B H) : ∀ (d : D) (v : V), Rp K B v d → Dp K H v (toPy d)
  | .non, _, h => by cases h; exact .non
  | .bl b, _, h => by cases h; exact .bl b
  | .int b, _, h => by cases h; exact .int b
  | .str b, _, h => by cases h; exact .str b
  | .lst ds, _, h => by
    cases h with
    | lst h1 h2 => exact .lst (SqL.of (s _ _ h1)) (RpL.dp s ds _ h2)
  | .tup ds, _, h => by
    cases h with
    | tup h1 h2 => exact .tup (same_t s h1) (RpL.dp s ds _ h2)
  | .scr ns, _, h => by
    cases h with
    | scr h1 => exact .lst (s.seq h1) (dp_ints ns)
theorem RpL.dp {K : PySem.W.Frag} {B H : Hp} (s : Same B H) : ∀ (ds : List D) (vs : List V), RpL K B vs ds → DpAll K H vs (toPyL ds)
  | [], _, h => by cases h; exact .nil
  | d :: ds, _, h => by
    cases h with
    | cons h1 h2 => exact .cons (Rp.dp s d _ h1) (RpL.dp s ds _ h2)
end
theorem RW.dp {K : PySem.W.Frag} {B H : Hp} {v : V} {d : D} (s : Same B H) (h : RW K B H v d) : Dp K H v (toPy d) := by
  rcases h with h | ⟨p, xs, ds, rfl, rfl, h3, h4⟩
  · exact Rp.dp s d v h
  · exact .lst (SqL.of h3) (RpL.dp s ds xs h4)
def shD (d : D) : Bool := SeqAt.shaped (toPy d)
def eqD (d e : D) : Bool := PyData.eqv (toPy d) (toPy e)

section
variable {K : PySem.W.Frag} {F B H : Hp} {σ : St} {δ : DEnv} {Q : D → Prop}
theorem qv {v : V} {d : D} (R : RE K F B H σ δ) (rp : Rp K B v d) (q : Q d) : QV K F B σ δ Q v H := ⟨B, d, Same.refl B, R, rp, q⟩
theorem qv_lst {xs : List V} {ds : List D} {p : Addr} (R : RE K F B H σ δ) (hp : H p = none) (hx : RpL K B xs ds) (q : Q (.lst ds)) : QV K F B σ δ Q (.ref p) (upd H p (.lst xs)) :=
  ⟨upd B p (.lst xs), .lst ds, same_new (R.sB.free hp), R.alloc hp, .lst upd_same (hx.up (same_new (R.sB.free hp))), q⟩
theorem qv_tup {xs : List V} {ds : List D} {p : Addr} (R : RE K F B H σ δ) (hp : H p = none) (hx : RpL K B xs ds) (q : Q (.tup ds)) : QV K F B σ δ Q (.ref p) (upd H p (.tup xs)) :=
  ⟨upd B p (.tup xs), .tup ds, same_new (R.sB.free hp), R.alloc hp, .tup (SqT.of upd_same) (hx.up (same_new (R.sB.free hp))), q⟩
theorem newL {xs : List V} {ds : List D} {p : Addr} (R : RE K F B H σ δ) (hp : H p = none) (hx : RpL K B xs ds) : NewL K F B (upd H p (.lst xs)) δ (.ref p) ds :=
  ⟨p, xs, rfl, R.sB.free hp, R.sF.free hp, (fun j es e => by
    obtain ⟨_, _, _, ys, h4, _⟩ := R.own j p es e
    rw [hp] at h4
    exact (nomatch h4)), upd_same, hx⟩
theorem qnv {Q : List D → Prop} {xs : List V} {ds : List D} {p : Addr} (R : RE K F B H σ δ) (hp : H p = none) (hx : RpL K B xs ds) (q : Q ds) : QNV K F B σ δ Q (.ref p) (upd H p (.lst xs)) :=
  ⟨B, ds, Same.refl B, R.allocN hp, newL R hp hx, q⟩
/-- a new list is frozen -/
theorem freezeN {ds : List D} {v : V} (R : RE K F B H σ δ) (n : NewL K F B H δ v ds) : ∃ B', Same B B' ∧ RE K F B' H σ δ ∧ Rp K B' v (.lst ds) := by
  obtain ⟨p, xs, rfl, h2, h3, hn, h4, h5⟩ := n
  have sm : Same B (upd B p (.lst xs)) := same_new h2
  refine ⟨upd B p (.lst xs), sm, ⟨fun b o e => ?_, R.sF, fun a o e => ?_, R.len, fun j e he => ?_, fun j q es he => ?_, R.sep⟩, .lst upd_same (h5.up sm)⟩
  · by_cases hb : b = p
    · subst hb
      rw [upd_same] at e
      rw [h4, e]
    · rw [upd_ne hb] at e
      exact R.sB _ _ e
  · by_cases ha : a = p
    · subst ha
      exact h3
    · rw [upd_ne ha] at e
      exact R.dj a o e
  · obtain ⟨v, g1, g2⟩ := R.fz j e he
    exact ⟨v, g1, g2.up sm⟩
  · obtain ⟨g1, g2, g3, ys, g4, g5⟩ := R.own j q es he
    have ne : q ≠ p := fun z => by
      subst z
      exact hn j es he
    exact ⟨g1, by rw [upd_ne ne]; exact g2, g3, ys, g4, g5.up sm⟩
end

/-! ### operators -/
def gAdd : G2 := fun x y Q => match x, y with
  | .int i, .int j => Q (.int (i + j))
  | .str a, .str b => a.length + b.length ≤ sizeLine ∧ Q (.str (a ++ b))
  | .lst a, .lst b => a.length + b.length ≤ sizeLine ∧ Q (.lst (a ++ b))
  | .tup a, .tup b => a.length + b.length ≤ sizeLine ∧ Q (.tup (a ++ b))
  | .int i, .bl k => Q (.int (i + PyProof.Rows.b2i k))
  | _, _ => False
def gSub : G2 := fun x y Q => match x, y with
  | .int i, .int j => Q (.int (i - j))
  | _, _ => False
def gMul : G2 := fun x y Q => match x, y with
  | .int i, .int j => CMul i j ∧ Q (.int (i * j))
  | .lst a, .int k => (-(2 ^ 63) ≤ k ∧ k < 2 ^ 63 ∧ a.length * k.toNat ≤ sizeLine) ∧ Q (.lst (List.replicate k.toNat a).flatten)
  | .str a, .int k => MulOk a k ∧ Q (.str (Txt.mul a k))
  | _, _ => False
def gFdiv : G2 := fun x y Q => match x, y with
  | .int i, .int j => CDiv i j ∧ Q (.int (i / j))
  | _, _ => False
def gMod : G2 := fun x y Q => match x, y with
  | .int i, .int j => 0 < j ∧ Q (.int (i % j))
  | _, _ => False
def gPow : G2 := fun x y Q => match x, y with
  | .int i, .int j => CPow i j ∧ Q (.int (i ^ j.toNat))
  | _, _ => False
def gLt : G2 := fun x y Q => match x, y with
  | .int i, .int j => Q (.bl (decide (i < j)))
  | .str i, .str j => Q (.bl (decide (i.cps.toList < j.cps.toList)))
  | _, _ => False
def gLe : G2 := fun x y Q => match x, y with
  | .int i, .int j => Q (.bl (decide (i ≤ j)))
  | .str i, .str j => Q (.bl (!decide (j.cps.toList < i.cps.toList)))
  | _, _ => False
def gGt : G2 := fun x y Q => match x, y with
  | .int i, .int j => Q (.bl (decide (j < i)))
  | .str i, .str j => Q (.bl (decide (j.cps.toList < i.cps.toList)))
  | _, _ => False
def gGe : G2 := fun x y Q => match x, y with
  | .int i, .int j => Q (.bl (decide (j ≤ i)))
  | .str i, .str j => Q (.bl (!decide (i.cps.toList < j.cps.toList)))
  | _, _ => False
def gEq : G2 := fun x y Q => match x, y with
  | .int i, .int j => Q (.bl (decide (i = j)))
  | .str i, .str j => Q (.bl (decide (i = j)))
  | .bl i, .bl j => Q (.bl (decide (i = j)))
  | x, y => shD x = true ∧ shD y = true ∧ Q (.bl (eqD x y))
def gNe : G2 := fun x y Q => match x, y with
  | .int i, .int j => Q (.bl (!decide (i = j)))
  | .str i, .str j => Q (.bl (!decide (i = j)))
  | .bl i, .bl j => Q (.bl (!decide (i = j)))
  | x, y => shD x = true ∧ shD y = true ∧ Q (.bl (!eqD x y))
/-- one sign within a text; anything within a list -/
def gIn : G2 := fun x y Q => match x, y with
  | .str a, .str z => match a.cps.toList with
    | [c] => Q (.bl (decide (c ∈ z.cps.toList)))
    | _ => Q (.bl (!(Builtin.Str.occurrences z a 0 z.length 1).isEmpty))
  | x, .lst ys => shD x = true ∧ shD (.lst ys) = true ∧ Q (.bl (ys.any fun z => eqD z x))
  | _, _ => False
def gNotIn : G2 := fun x y Q => match x, y with
  | .str a, .str z => match a.cps.toList with
    | [c] => Q (.bl (!decide (c ∈ z.cps.toList)))
    | _ => Q (.bl (!(!(Builtin.Str.occurrences z a 0 z.length 1).isEmpty)))
  | x, .lst ys => shD x = true ∧ shD (.lst ys) = true ∧ Q (.bl (!ys.any fun z => eqD z x))
  | _, _ => False
def D.isNon : D → Bool
  | .non => true
  | _ => false
def gIsN : G2 := fun x y Q => match y with
  | .non => Q (.bl x.isNon)
  | .bl b => match x with
    | .bl a => Q (.bl (decide (a = b)))
    | _ => False
  | _ => False
def gNotN : G2 := fun x y Q => match y with
  | .non => Q (.bl (!x.isNon))
  | .bl b => match x with
    | .bl a => Q (.bl (!decide (a = b)))
    | _ => False
  | _ => False
section
variable {X : Cx}
theorem o_add : OpS X (binaryOp .Add) gAdd := by
  intro F B H σ δ v1 v2 d1 d2 Q R h1 h2 g
  cases d1 <;> cases d2 <;> try exact False.elim g
  case int.int i j => rw [h1.int, h2.int]; exact ⟨_, op_add, i, j, rfl, rfl, qv R (.int _) g⟩
  case int.bl i j => rw [h1.int, h2.bl]; exact ⟨_, op_add_ib, i, j, rfl, rfl, qv R (.int _) g⟩
  case str.str i j => rw [h1.str, h2.str]; exact ⟨_, op_add_str, i, j, rfl, rfl, g.1, qv R (.str _) g.2⟩
  case lst.lst i j =>
    obtain ⟨p, xs, rfl, hp, hx⟩ := h1.lst R.sB
    obtain ⟨q, ys, rfl, hq, hy⟩ := h2.lst R.sB
    exact ⟨_, op_cat, p, q, xs, ys, rfl, rfl, hp, hq, by rw [hx.length, hy.length]; exact g.1, fun l hl => qv_lst R hl (hx.append hy) g.2⟩
  case tup.tup i j =>
    obtain ⟨p, xs, rfl, hp, hx⟩ := h1.tup R.sB
    obtain ⟨q, ys, rfl, hq, hy⟩ := h2.tup R.sB
    have g1 := g.1
    have g2 := g.2
    refine ⟨_, op_catA, p, q, xs, ys, rfl, rfl, hp, hq, by rw [hx.length, hy.length]; exact g1, fun e => ?_, fun _ e => ?_, fun _ _ l hl => qv_tup R hl (hx.append hy) g2⟩
    · subst e
      have e2 := hx.length
      have e3 : i = [] := List.length_eq_zero_iff.mp e2.symm
      subst e3
      rcases h2 with h2 | ⟨_, _, _, _, z, _⟩
      · exact qv R h2 g2
      · cases z
    · subst e
      have e2 := hy.length
      have e3 : j = [] := List.length_eq_zero_iff.mp e2.symm
      subst e3
      rw [List.append_nil] at g2
      rcases h1 with h1 | ⟨_, _, _, _, z, _⟩
      · exact qv R h1 g2
      · cases z
theorem o_sub : OpS X (binaryOp .Sub) gSub := by
  intro F B H σ δ v1 v2 d1 d2 Q R h1 h2 g
  cases d1 <;> cases d2 <;> try exact False.elim g
  case int.int i j => rw [h1.int, h2.int]; exact ⟨_, op_sub, i, j, rfl, rfl, qv R (.int _) g⟩
theorem op_mul_str : OpR X (binaryOp .Mult) (fun x y H Q => ∃ a k, x = .str a ∧ y = .int k ∧ MulOk a k ∧ Q (.str (Txt.mul a k)) H) := by
  intro pins s σ H x y v u Q I rx ry h
  obtain ⟨a, k, rfl, rfl, hk, q⟩ := h
  obtain ⟨t, rfl⟩ := rx
  obtain ⟨t', rfl⟩ := ry
  exact SB.mul hk fun t' k => ⟨.str _, H, I.tok _, ⟨_, rfl⟩, q⟩
theorem RpL.rep {K : PySem.W.Frag} {B : Hp} {xs : List V} {ds : List D} (h : RpL K B xs ds) : ∀ k : Nat, RpL K B (List.replicate k xs).flatten (List.replicate k ds).flatten
  | 0 => .nil
  | k + 1 => by
    rw [List.replicate_succ, List.replicate_succ, List.flatten_cons, List.flatten_cons]
    exact h.append (RpL.rep h k)
theorem o_mul : OpS X (binaryOp .Mult) gMul := by
  intro F B H σ δ v1 v2 d1 d2 Q R h1 h2 g
  cases d1 <;> cases d2 <;> try exact False.elim g
  case int.int i j => rw [h1.int, h2.int]; exact ⟨_, op_mul, i, j, rfl, rfl, g.1, qv R (.int _) g.2⟩
  case str.int i j => rw [h1.str, h2.int]; exact ⟨_, op_mul_str, i, j, rfl, rfl, g.1, qv R (.str _) g.2⟩
  case lst.int i j =>
    obtain ⟨p, xs, rfl, hp, hx⟩ := h1.lst R.sB
    rw [h2.int]
    exact ⟨_, op_rep, p, j, xs, rfl, rfl, hp, g.1.1, g.1.2.1, by rw [hx.length]; exact g.1.2.2, fun l hl => qv_lst R hl (hx.rep _) g.2⟩
theorem o_fdiv : OpS X (binaryOp .FloorDiv) gFdiv := by
  intro F B H σ δ v1 v2 d1 d2 Q R h1 h2 g
  cases d1 <;> cases d2 <;> try exact False.elim g
  case int.int i j => rw [h1.int, h2.int]; exact ⟨_, op_fdiv, i, j, rfl, rfl, g.1, qv R (.int _) g.2⟩
theorem o_mod : OpS X (binaryOp .Mod) gMod := by
  intro F B H σ δ v1 v2 d1 d2 Q R h1 h2 g
  cases d1 <;> cases d2 <;> try exact False.elim g
  case int.int i j => rw [h1.int, h2.int]; exact ⟨_, op_mod, i, j, rfl, rfl, g.1, qv R (.int _) g.2⟩
theorem o_pow : OpS X (binaryOp .Pow) gPow := by
  intro F B H σ δ v1 v2 d1 d2 Q R h1 h2 g
  cases d1 <;> cases d2 <;> try exact False.elim g
  case int.int i j => rw [h1.int, h2.int]; exact ⟨_, op_pow, i, j, rfl, rfl, g.1, qv R (.int _) g.2⟩
theorem o_lt : OpS X (compareOp .Lt) gLt := by
  intro F B H σ δ v1 v2 d1 d2 Q R h1 h2 g
  cases d1 <;> cases d2 <;> try exact False.elim g
  case int.int i j => rw [h1.int, h2.int]; exact ⟨_, op_lt, i, j, rfl, rfl, qv R (.bl _) g⟩
  case str.str i j => rw [h1.str, h2.str]; exact ⟨_, op_lt_str, i, j, rfl, rfl, qv R (.bl _) g⟩
theorem o_le : OpS X (compareOp .LtE) gLe := by
  intro F B H σ δ v1 v2 d1 d2 Q R h1 h2 g
  cases d1 <;> cases d2 <;> try exact False.elim g
  case int.int i j => rw [h1.int, h2.int]; exact ⟨_, op_le, i, j, rfl, rfl, qv R (.bl _) g⟩
  case str.str i j => rw [h1.str, h2.str]; exact ⟨_, op_le_str, i, j, rfl, rfl, qv R (.bl _) g⟩
theorem o_gt : OpS X (compareOp .Gt) gGt := by
  intro F B H σ δ v1 v2 d1 d2 Q R h1 h2 g
  cases d1 <;> cases d2 <;> try exact False.elim g
  case int.int i j => rw [h1.int, h2.int]; exact ⟨_, op_gt, i, j, rfl, rfl, qv R (.bl _) g⟩
  case str.str i j => rw [h1.str, h2.str]; exact ⟨_, op_gt_str, i, j, rfl, rfl, qv R (.bl _) g⟩
theorem o_ge : OpS X (compareOp .GtE) gGe := by
  intro F B H σ δ v1 v2 d1 d2 Q R h1 h2 g
  cases d1 <;> cases d2 <;> try exact False.elim g
  case int.int i j => rw [h1.int, h2.int]; exact ⟨_, op_ge, i, j, rfl, rfl, qv R (.bl _) g⟩
  case str.str i j => rw [h1.str, h2.str]; exact ⟨_, op_ge_str, i, j, rfl, rfl, qv R (.bl _) g⟩
theorem dec_vint {i j : Int} : decide (V.int i = V.int j) = decide (i = j) := by simp
theorem dec_vstr {i j : Str} : decide (V.str i = V.str j) = decide (i = j) := by simp
theorem dec_vbl {i j : Bool} : decide (V.bl i = V.bl j) = decide (i = j) := by simp
theorem o_eq (o : XOk X) : OpS X (compareOp .Eq) gEq := by
  intro F B H σ δ v1 v2 d1 d2 Q R h1 h2 g
  have hu : X.A.units + 64 < cLine := by have := o.un; omega
  cases d1 <;> cases d2 <;> try exact ⟨_, op_eqD hu, _, _, h1.dp R.sB, h2.dp R.sB, g.1, g.2.1, qv R (.bl _) g.2.2⟩
  case int.int i j => rw [h1.int, h2.int]; exact ⟨_, op_eq, rfl, by rw [dec_vint]; exact qv R (.bl _) g⟩
  case str.str i j => rw [h1.str, h2.str]; exact ⟨_, op_eq, rfl, by rw [dec_vstr]; exact qv R (.bl _) g⟩
  case bl.bl i j => rw [h1.bl, h2.bl]; exact ⟨_, op_eq, rfl, by rw [dec_vbl]; exact qv R (.bl _) g⟩
theorem o_ne (o : XOk X) : OpS X (compareOp .NotEq) gNe := by
  intro F B H σ δ v1 v2 d1 d2 Q R h1 h2 g
  have hu : X.A.units + 64 < cLine := by have := o.un; omega
  cases d1 <;> cases d2 <;> try exact ⟨_, op_neD hu, _, _, h1.dp R.sB, h2.dp R.sB, g.1, g.2.1, qv R (.bl _) g.2.2⟩
  case int.int i j => rw [h1.int, h2.int]; exact ⟨_, op_ne, rfl, by rw [dec_vint]; exact qv R (.bl _) g⟩
  case str.str i j => rw [h1.str, h2.str]; exact ⟨_, op_ne, rfl, by rw [dec_vstr]; exact qv R (.bl _) g⟩
  case bl.bl i j => rw [h1.bl, h2.bl]; exact ⟨_, op_ne, rfl, by rw [dec_vbl]; exact qv R (.bl _) g⟩
theorem any_toPy (x : D) : ∀ ys : List D, ((toPyL ys).any fun z => PyData.eqv z (toPy x)) = ys.any fun z => eqD z x
  | [] => rfl
  | y :: ys => by
    show (PyData.eqv (toPy y) (toPy x) || (toPyL ys).any _) = (eqD y x || ys.any _)
    rw [any_toPy x ys]
    rfl
theorem o_in (o : XOk X) : OpS X (compareOp .In) gIn := by
  intro F B H σ δ v1 v2 d1 d2 Q R h1 h2 g
  have hu : X.A.units + 65 < cLine := by have := o.un; omega
  cases d2 with
  | lst ys => cases d1 <;> exact ⟨_, op_inD hu, _, _, h1.dp R.sB, h2.dp R.sB, g.1, g.2.1, by rw [any_toPy]; exact qv R (.bl _) g.2.2⟩
  | str z =>
    cases d1 <;> try exact False.elim g
    rename_i a
    rw [h1.str, h2.str]
    have g : (match a.cps.toList with
      | [c] => Q (.bl (decide (c ∈ z.cps.toList)))
      | _ => Q (.bl (!(Builtin.Str.occurrences z a 0 z.length 1).isEmpty))) := g
    split at g
    case h_1 c hc =>
      have ea : a = ⟨#[c]⟩ := by
        cases a
        simp at hc
        rw [← hc]
      rw [ea]
      exact ⟨_, op_in_sign, c, z, rfl, rfl, qv R (.bl _) g⟩
    case h_2 => exact ⟨_, op_in_str, _, _, rfl, rfl, qv R (.bl _) g⟩
  | _ => cases d1 <;> exact False.elim g
theorem o_notIn (o : XOk X) : OpS X (compareOp .NotIn) gNotIn := by
  intro F B H σ δ v1 v2 d1 d2 Q R h1 h2 g
  have hu : X.A.units + 65 < cLine := by have := o.un; omega
  cases d2 with
  | lst ys => cases d1 <;> exact ⟨_, op_notInD hu, _, _, h1.dp R.sB, h2.dp R.sB, g.1, g.2.1, by rw [any_toPy]; exact qv R (.bl _) g.2.2⟩
  | str z =>
    cases d1 <;> try exact False.elim g
    rename_i a
    rw [h1.str, h2.str]
    have g : (match a.cps.toList with
      | [c] => Q (.bl (!decide (c ∈ z.cps.toList)))
      | _ => Q (.bl (!(!(Builtin.Str.occurrences z a 0 z.length 1).isEmpty)))) := g
    split at g
    case h_1 c hc =>
      have ea : a = ⟨#[c]⟩ := by
        cases a
        simp at hc
        rw [← hc]
      rw [ea]
      exact ⟨_, op_notIn_sign, c, z, rfl, rfl, qv R (.bl _) g⟩
    case h_2 => exact ⟨_, op_notin_str, _, _, rfl, rfl, qv R (.bl _) g⟩
  | _ => cases d1 <;> exact False.elim g
theorem RW.isNon {K : PySem.W.Frag} {B H : Hp} {v : V} {d : D} (h : RW K B H v d) : decide (v = .non) = d.isNon := by
  rcases h with h | ⟨p, xs, ds, rfl, rfl, h3, h4⟩
  · cases h <;> rfl
  · rfl
theorem o_is : OpS X (compareOp .Is) gIsN := by
  intro F B H σ δ v1 v2 d1 d2 Q R h1 h2 g
  cases d2 <;> try exact False.elim g
  case non => rw [h2.non]; exact ⟨_, op_isN, rfl, by rw [h1.isNon]; exact qv R (.bl _) g⟩
  case bl b =>
    cases d1 <;> try exact False.elim g
    rw [h1.bl, h2.bl]; exact ⟨_, op_is_bl, _, _, rfl, rfl, qv R (.bl _) g⟩
theorem o_isNot : OpS X (compareOp .IsNot) gNotN := by
  intro F B H σ δ v1 v2 d1 d2 Q R h1 h2 g
  cases d2 <;> try exact False.elim g
  case non => rw [h2.non]; exact ⟨_, op_notN, rfl, by rw [h1.isNon]; exact qv R (.bl _) g⟩
  case bl b =>
    cases d1 <;> try exact False.elim g
    rw [h1.bl, h2.bl]; exact ⟨_, op_isnot_bl, _, _, rfl, rfl, qv R (.bl _) g⟩
end
end DL

namespace DL
open PySem L2

section
variable {X : Cx} {a b c d e : Expr} {es : List Expr} {pos : Pos}
theorem wo_imp {f : Value → Value → Sem Value} {x y : V} {H : Hp} {Q Q' : VK} (h : ∃ r, OpR X f r ∧ r x y H Q) (k : ∀ v H', Q v H' → Q' v H') : WO X f x y H Q' := by
  obtain ⟨r, hr, q⟩ := h
  exact ⟨fun x y H' Q' => ∃ Q0 : VK, r x y H' Q0 ∧ ∀ v H'', Q0 v H'' → Q' v H'', fun pins s σ H x y v u Q' I rx ry ⟨Q0, q0, k⟩ =>
    thn (hr pins s σ H x y v u Q0 I rx ry q0) fun _ _ ⟨v, H', I', r, q⟩ => ⟨v, H', I', r, k v H' q⟩, Q, q, k⟩
theorem wc_imp {f : Value} {xs : List V} {H : Hp} {Q Q' : VK} (h : ∃ r, CallR X f r ∧ r xs H Q) (k : ∀ v H', Q v H' → Q' v H') : WC X f xs H Q' := by
  obtain ⟨r, hr, q⟩ := h
  exact ⟨fun x H' Q' => ∃ Q0 : VK, r x H' Q0 ∧ ∀ v H'', Q0 v H'' → Q' v H'', fun pins s σ H x us Q' I rx ⟨Q0, q0, k⟩ =>
    thn (hr pins s σ H x us Q0 I rx q0) fun _ _ ⟨v, H', I', r, q⟩ => ⟨v, H', I', r, k v H' q⟩, Q, q, k⟩

/-! ### chains -/
def kLink (tc : (Bool → Prop)) : D → Prop
  | .bl k => tc k
  | _ => False
def dChain (g g' : G2) (ta tb tc : DTE) : DTE := fun δ Q => ta δ fun ca δ1 => tb δ1 fun cb δ2 => lv ca δ2 (g ca.d cb.d (kLink fun k =>
  kIf k (tc δ2 fun cc δ3 => lv cb δ3 (g' cb.d cc.d fun d => Q (.fz d) δ3)) (Q (.fz (.bl false)) δ2)))
def dChain3 (g g' g'' : G2) (ta tb tc td : DTE) : DTE := fun δ Q => ta δ fun ca δ1 => tb δ1 fun cb δ2 => lv ca δ2 (g ca.d cb.d (kLink fun k =>
  kIf k (tc δ2 fun cc δ3 => lv cb δ3 (g' cb.d cc.d (kLink fun k =>
    kIf k (td δ3 fun cd δ4 => lv cc δ4 (g'' cc.d cd.d fun d => Q (.fz d) δ4)) (Q (.fz (.bl false)) δ3)))) (Q (.fz (.bl false)) δ2)))
theorem chain_core {f f' : Value → Value → Sem Value} {g g' : G2} {ta tb tc : DTE} (ho : OpS X f g) (ho' : OpS X f' g') (ha : DE X a ta) (hb : DE X b tb) (hc : DE X c tc) {F B H : Hp} {σ : St} {δ : DEnv} {Q : C → DEnv → Prop} {Qe : VK}
    (R : RE X.K F B H σ δ) (h : dChain g g' ta tb tc δ Q) (k : ∀ v H', QE X.K F B σ Q v H' → Qe v H') : tChain (WO X f) (WO X f') (WE X a) (WE X b) (WE X c) σ H Qe := by
  refine (ha.run F B H σ δ _ R h).imp fun v1 H1 ⟨B1, δ1, c1, s1, R1, r1, h1⟩ => ?_
  refine (hb.run F B1 H1 σ δ1 _ R1 h1).imp fun v2 H2 ⟨B2, δ2, c2, s2, R2, r2, h2⟩ => ?_
  obtain ⟨l, h2⟩ := lv_ok h2
  refine wo_imp (ho F B2 H2 σ δ2 v1 v2 c1.d c2.d _ R2 (R2.live s2 r1 l) r2.now h2) fun v H' ⟨B3, d, s3, R3, rp, q3⟩ => ?_
  cases d <;> try exact False.elim q3
  rename_i bb
  cases rp
  refine ⟨bb, rfl, ?_⟩
  cases bb with
  | false =>
    rw [if_neg Bool.false_ne_true]
    exact k _ _ ⟨B3, δ2, .fz (.bl false), (s1.trans s2).trans s3, R3, Rp.bl false, q3⟩
  | true =>
    rw [if_pos rfl]
    refine (hc.run F B3 H' σ δ2 _ R3 q3).imp fun v4 H4 ⟨B4, δ4, c4, s4, R4, r4, h4⟩ => ?_
    obtain ⟨l4, h4⟩ := lv_ok h4
    refine wo_imp (ho' F B4 H4 σ δ4 v2 v4 c2.d c4.d _ R4 (R4.live (s3.trans s4) r2 l4) r4.now h4) fun v H5 ⟨B5, d5, s5, R5, rp5, q5⟩ => ?_
    exact k _ _ ⟨B5, δ4, .fz d5, ((s1.trans s2).trans s3).trans (s4.trans s5), R5, rp5, q5⟩
theorem e_chain {op op' : CmpOp} {g g' : G2} {ta tb tc : DTE} (ho : OpS X (compareOp op) g) (ho' : OpS X (compareOp op') g') (ha : DE X a ta) (hb : DE X b tb) (hc : DE X c tc)
    (hm : lastMarks [op, op'] [b, c] = false := by with_unfolding_all rfl) : DE X (.Compare a [op, op'] [b, c] pos) (dChain g g' ta tb tc) :=
  ⟨fun F B H σ δ Q R h => pe_we (pe_chain wo_ok wo_ok we_pe we_pe we_pe hm) (chain_core ho ho' ha hb hc R h fun _ _ z => z)⟩
theorem t_chain {op op' : CmpOp} {g g' : G2} {ta tb tc : DTE} (ho : OpS X (compareOp op) g) (ho' : OpS X (compareOp op') g') (ha : DE X a ta) (hb : DE X b tb) (hc : DE X c tc)
    (hm : lastMarks [op, op'] [b, c] = false := by with_unfolding_all rfl) : DT X (.Compare a [op, op'] [b, c] pos) (dB (dChain g g' ta tb tc)) :=
  ⟨fun F B H σ δ Q R h => pt_wt (pt_chain wo_ok wo_ok we_pe we_pe we_pe hm) (chain_core ho ho' ha hb hc R h fun _ _ z => kB_ok z)⟩
/-- three comparisons -/
def tChain3 (r r' r'' : R2) (ta tb tc td : TE) : TE := fun σ H Q => ta σ H fun x H1 => tb σ H1 fun y H2 => r x y H2 fun z H3 => ∃ k, z = .bl k ∧
  (if k = true then tc σ H3 fun w' H4 => r' y w' H4 fun z2 H5 => ∃ k2, z2 = .bl k2 ∧ (if k2 = true then td σ H5 fun w2 H6 => r'' w' w2 H6 Q else Q (.bl false) H5) else Q (.bl false) H3)
theorem pe_chain3 {op op' op'' : CmpOp} {r r' r'' : R2} {ta tb tc td : TE} (ho : OpR X (compareOp op) r) (ho' : OpR X (compareOp op') r') (ho'' : OpR X (compareOp op'') r'') (ha : PE X a ta) (hb : PE X b tb) (hc : PE X c tc) (hd : PE X d td)
    (hm : lastMarks [op, op', op''] [b, c, d] = false := by with_unfolding_all rfl) : PE X (.Compare a [op, op', op''] [b, c, d] pos) (tChain3 r r' r'' ta tb tc td) := by
  refine ⟨fun pins s σ H Q I h => ?_⟩
  refine PyProof.Rows.Compare_chain (thn (ha.run pins s σ H _ I h) fun v s1 ⟨x, H1, I1, r1, q1⟩ => PyProof.Rows.chain_link (thn (hb.run pins s1 σ H1 _ I1 q1) fun u s2 ⟨y, H2, I2, r2, q2⟩ =>
    thn (ho pins s2 σ H2 x y v u _ I2 r1 r2 q2) fun d s3 ⟨z, H3, I3, r3, k, e, q3⟩ => ?_)) hm
  subst e
  cases r3
  refine wpAny_truthy_bool ?_
  cases k with
  | false => exact PyProof.Rows.ite_ff ⟨.bl false, H3, I3, rfl, q3⟩
  | true =>
    refine PyProof.Rows.ite_tt (PyProof.Rows.chain_link (thn (hc.run pins s3 σ H3 _ I3 q3) fun w' s4 ⟨z', H4, I4, r4, q4⟩ => thn (ho' pins s4 σ H4 y z' u w' _ I4 r2 r4 q4) fun d s5 ⟨z, H5, I5, r5, k, e, q5⟩ => ?_))
    subst e
    cases r5
    refine wpAny_truthy_bool ?_
    cases k with
    | false => exact PyProof.Rows.ite_ff ⟨.bl false, H5, I5, rfl, q5⟩
    | true => exact PyProof.Rows.ite_tt (PyProof.Rows.chain_last (thn (hd.run pins s5 σ H5 _ I5 q5) fun w2 s6 ⟨z2, H6, I6, r6, q6⟩ => ho'' pins s6 σ H6 z' z2 w' w2 Q I6 r4 r6 q6))
theorem e_chain3 {op op' op'' : CmpOp} {g g' g'' : G2} {ta tb tc td : DTE} (ho : OpS X (compareOp op) g) (ho' : OpS X (compareOp op') g') (ho'' : OpS X (compareOp op'') g'') (ha : DE X a ta) (hb : DE X b tb) (hc : DE X c tc) (hd : DE X d td)
    (hm : lastMarks [op, op', op''] [b, c, d] = false := by with_unfolding_all rfl) : DE X (.Compare a [op, op', op''] [b, c, d] pos) (dChain3 g g' g'' ta tb tc td) :=
  ⟨fun F B H σ δ Q R h => pe_we (pe_chain3 wo_ok wo_ok wo_ok we_pe we_pe we_pe we_pe hm) (by
    refine (ha.run F B H σ δ _ R h).imp fun v1 H1 ⟨B1, δ1, c1, s1, R1, r1, h1⟩ => ?_
    refine (hb.run F B1 H1 σ δ1 _ R1 h1).imp fun v2 H2 ⟨B2, δ2, c2, s2, R2, r2, h2⟩ => ?_
    obtain ⟨l, h2⟩ := lv_ok h2
    refine wo_imp (ho F B2 H2 σ δ2 v1 v2 c1.d c2.d _ R2 (R2.live s2 r1 l) r2.now h2) fun v H' ⟨B3, d, s3, R3, rp, q3⟩ => ?_
    cases d <;> try exact False.elim q3
    rename_i bb
    cases rp
    refine ⟨bb, rfl, ?_⟩
    cases bb with
    | false =>
      rw [if_neg Bool.false_ne_true]
      exact ⟨B3, δ2, .fz (.bl false), (s1.trans s2).trans s3, R3, Rp.bl false, q3⟩
    | true =>
      rw [if_pos rfl]
      refine (hc.run F B3 H' σ δ2 _ R3 q3).imp fun v4 H4 ⟨B4, δ4, c4, s4, R4, r4, h4⟩ => ?_
      obtain ⟨l4, h4⟩ := lv_ok h4
      refine wo_imp (ho' F B4 H4 σ δ4 v2 v4 c2.d c4.d _ R4 (R4.live (s3.trans s4) r2 l4) r4.now h4) fun v H5 ⟨B5, d5, s5, R5, rp5, q5⟩ => ?_
      cases d5 <;> try exact False.elim q5
      rename_i bb
      cases rp5
      refine ⟨bb, rfl, ?_⟩
      cases bb with
      | false =>
        rw [if_neg Bool.false_ne_true]
        exact ⟨B5, δ4, .fz (.bl false), ((s1.trans s2).trans s3).trans (s4.trans s5), R5, Rp.bl false, q5⟩
      | true =>
        rw [if_pos rfl]
        refine (hd.run F B5 H5 σ δ4 _ R5 q5).imp fun v6 H6 ⟨B6, δ6, c6, s6, R6, r6, h6⟩ => ?_
        obtain ⟨l6, h6⟩ := lv_ok h6
        refine wo_imp (ho'' F B6 H6 σ δ6 v4 v6 c4.d c6.d _ R6 (R6.live (s5.trans s6) r4 l6) r6.now h6) fun v H7 ⟨B7, d7, s7, R7, rp7, q7⟩ => ?_
        exact ⟨B7, δ6, .fz d7, ((s1.trans s2).trans s3).trans ((s4.trans s5).trans (s6.trans s7)), R7, rp7, q7⟩)⟩

/-! ### and, or, not, if -/
def WW (X : Cx) (e : Expr) (σ : St) (H : Hp) (Q : Bool → Hp → Prop) : Prop := ∀ (whole : Sem Value) (pins : List (Addr × Obj)) (s : Shared), Inv X pins σ H s → wpAny (model X.prog X.w) X.A (isTrue e X.env whole) (TP X pins σ Q) X.xe s
theorem ww_pw : PW X e (WW X e) := ⟨fun wh pins s _ _ _ I h => h wh pins s I⟩
theorem pw_ww {t : TT} {σ : St} {H : Hp} {Q : Bool → Hp → Prop} (h : PW X e t) (q : t σ H Q) : WW X e σ H Q := fun wh pins s I => h.run wh pins s σ H Q I q
structure DW (X : Cx) (e : Expr) (t : DTT) : Prop where
  run : ∀ (F B H : Hp) (σ : St) (δ : DEnv) (Q : Bool → DEnv → Prop), RE X.K F B H σ δ → t δ Q → WW X e σ H (QT X.K F B σ Q)
def dAnd (t u : DTT) : DTT := fun δ Q => t δ fun c δ1 => kIf c (u δ1 Q) (Q false δ1)
def dOr (t u : DTT) : DTT := fun δ Q => t δ fun c δ1 => kIf c (Q true δ1) (u δ1 Q)
def dNot (t : DTT) : DTT := fun δ Q => t δ fun c δ1 => Q (!c) δ1
variable {ta tb : DTT} {rest : List Expr}
theorem w_and1 (ha : DT X a ta) : DW X (.BoolOp .And [a] pos) ta := ⟨fun F B H σ δ Q R h => pw_ww (pw_and1 wt_pt) (ha.run F B H σ δ Q R h)⟩
theorem w_or1 (ha : DT X a ta) : DW X (.BoolOp .Or [a] pos) ta := ⟨fun F B H σ δ Q R h => pw_ww (pw_or1 wt_pt) (ha.run F B H σ δ Q R h)⟩
theorem w_and (ha : DT X a ta) (hb : DW X (.BoolOp .And (b :: rest) pos) tb) : DW X (.BoolOp .And (a :: b :: rest) pos) (dAnd ta tb) := ⟨fun F B H σ δ Q R h => pw_ww (pw_and wt_pt ww_pw) (by
  refine (ha.run F B H σ δ _ R h).imp fun k H1 ⟨B1, δ1, s1, R1, h1⟩ => ?_
  cases k with
  | true =>
    rw [if_pos rfl]
    exact fun wh pins s I => thn (hb.run F B1 H1 σ δ1 Q R1 h1 wh pins s I) fun _ _ ⟨H', I', B', δ', sB, R', q⟩ => ⟨H', I', B', δ', s1.trans sB, R', q⟩
  | false =>
    rw [if_neg Bool.false_ne_true]
    exact ⟨B1, δ1, s1, R1, h1⟩)⟩
theorem w_or (ha : DT X a ta) (hb : DW X (.BoolOp .Or (b :: rest) pos) tb) : DW X (.BoolOp .Or (a :: b :: rest) pos) (dOr ta tb) := ⟨fun F B H σ δ Q R h => pw_ww (pw_or wt_pt ww_pw) (by
  refine (ha.run F B H σ δ _ R h).imp fun k H1 ⟨B1, δ1, s1, R1, h1⟩ => ?_
  cases k with
  | true =>
    rw [if_pos rfl]
    exact ⟨B1, δ1, s1, R1, h1⟩
  | false =>
    rw [if_neg Bool.false_ne_true]
    exact fun wh pins s I => thn (hb.run F B1 H1 σ δ1 Q R1 h1 wh pins s I) fun _ _ ⟨H', I', B', δ', sB, R', q⟩ => ⟨H', I', B', δ', s1.trans sB, R', q⟩)⟩
theorem t_w (h : DW X e ta) : DT X e ta := ⟨fun F B H σ δ Q R q => h.run F B H σ δ Q R q _⟩
theorem t_not (ha : DT X a ta) : DT X (.UnaryOp .Not a pos) (dNot ta) := ⟨fun F B H σ δ Q R h => pt_wt (pt_not wt_pt) (ha.run F B H σ δ _ R h)⟩
def kBV (Q : Bool → DEnv → Prop) : C → DEnv → Prop := kB Q
def dAndV (ta tb : DTE) : DTE := fun δ Q => ta δ (kB fun k δ1 => kIf k (tb δ1 Q) (Q (.fz (.bl false)) δ1))
def dOrV (ta tb : DTE) : DTE := fun δ Q => ta δ (kB fun k δ1 => kIf k (Q (.fz (.bl true)) δ1) (tb δ1 Q))
def dNotV (ta : DTE) : DTE := fun δ Q => ta δ (kB fun k δ1 => Q (.fz (.bl (!k))) δ1)
theorem QE.up {K : PySem.W.Frag} {F B B1 : Hp} {σ : St} {Q : C → DEnv → Prop} {v : V} {H' : Hp} (s1 : Same B B1) (h : QE K F B1 σ Q v H') : QE K F B σ Q v H' := by
  obtain ⟨B', δ', c, sB, R', r, q⟩ := h
  exact ⟨B', δ', c, s1.trans sB, R', r, q⟩
theorem QN.up {K : PySem.W.Frag} {F B B1 : Hp} {σ : St} {Q : List D → DEnv → Prop} {v : V} {H' : Hp} (s1 : Same B B1) (h : QN K F B1 σ Q v H') : QN K F B σ Q v H' := by
  obtain ⟨B', δ', c, sB, R', r, q⟩ := h
  exact ⟨B', δ', c, s1.trans sB, R', r, q⟩
theorem e_one {op} {t : DTE} (h : DE X a t) : DE X (.BoolOp op [a] pos) t := ⟨fun F B H σ δ Q R q => pe_we (pe_one we_pe) (h.run F B H σ δ Q R q)⟩
theorem e_and {ta tb : DTE} (ha : DE X a ta) (hb : DE X (.BoolOp .And (b :: rest) pos) tb) : DE X (.BoolOp .And (a :: b :: rest) pos) (dAndV ta tb) := ⟨fun F B H σ δ Q R h => pe_we (pe_and we_pe we_pe) (by
  refine (ha.run F B H σ δ _ R h).imp fun v H1 z => ?_
  obtain ⟨k, rfl, B1, δ1, s1, R1, h1⟩ := kB_ok z
  refine ⟨k, rfl, ?_⟩
  cases k with
  | true =>
    rw [if_pos rfl]
    exact (hb.run F B1 H1 σ δ1 Q R1 h1).imp fun _ _ q => q.up s1
  | false =>
    rw [if_neg Bool.false_ne_true]
    exact ⟨B1, δ1, .fz (.bl false), s1, R1, Rp.bl _, h1⟩)⟩
theorem e_or {ta tb : DTE} (ha : DE X a ta) (hb : DE X (.BoolOp .Or (b :: rest) pos) tb) : DE X (.BoolOp .Or (a :: b :: rest) pos) (dOrV ta tb) := ⟨fun F B H σ δ Q R h => pe_we (pe_or we_pe we_pe) (by
  refine (ha.run F B H σ δ _ R h).imp fun v H1 z => ?_
  obtain ⟨k, rfl, B1, δ1, s1, R1, h1⟩ := kB_ok z
  refine ⟨k, rfl, ?_⟩
  cases k with
  | true =>
    rw [if_pos rfl]
    exact ⟨B1, δ1, .fz (.bl true), s1, R1, Rp.bl _, h1⟩
  | false =>
    rw [if_neg Bool.false_ne_true]
    exact (hb.run F B1 H1 σ δ1 Q R1 h1).imp fun _ _ q => q.up s1)⟩
theorem e_not {ta : DTE} (ha : DE X a ta) : DE X (.UnaryOp .Not a pos) (dNotV ta) := ⟨fun F B H σ δ Q R h => pe_we (pe_not we_pe) (by
  refine (ha.run F B H σ δ _ R h).imp fun v H1 z => ?_
  obtain ⟨k, rfl, B1, δ1, s1, R1, h1⟩ := kB_ok z
  exact ⟨k, rfl, B1, δ1, .fz (.bl (!k)), s1, R1, Rp.bl _, h1⟩)⟩
def dIf (tc : DTT) (ta tb : DTE) : DTE := fun δ Q => tc δ fun k δ1 => kIf k (ta δ1 Q) (tb δ1 Q)
theorem e_if {tc : DTT} {ta tb : DTE} (hc : DT X c tc) (ha : DE X a ta) (hb : DE X b tb) : DE X (.IfExp c a b pos) (dIf tc ta tb) := ⟨fun F B H σ δ Q R h => pe_we (pe_ifExp wt_pt we_pe we_pe) (by
  refine (hc.run F B H σ δ _ R h).imp fun k H1 ⟨B1, δ1, s1, R1, h1⟩ => ?_
  cases k with
  | true =>
    rw [if_pos rfl]
    exact (ha.run F B1 H1 σ δ1 Q R1 h1).imp fun _ _ q => q.up s1
  | false =>
    rw [if_neg Bool.false_ne_true]
    exact (hb.run F B1 H1 σ δ1 Q R1 h1).imp fun _ _ q => q.up s1)⟩
def dIfN (tc : DTT) (ta tb : DTN) : DTN := fun δ Q => tc δ fun k δ1 => kIf k (ta δ1 Q) (tb δ1 Q)
theorem n_if {tc : DTT} {ta tb : DTN} (hc : DT X c tc) (ha : DN X a ta) (hb : DN X b tb) : DN X (.IfExp c a b pos) (dIfN tc ta tb) := ⟨fun F B H σ δ Q R h => pe_we (pe_ifExp wt_pt we_pe we_pe) (by
  refine (hc.run F B H σ δ _ R h).imp fun k H1 ⟨B1, δ1, s1, R1, h1⟩ => ?_
  cases k with
  | true =>
    rw [if_pos rfl]
    exact (ha.run F B1 H1 σ δ1 Q R1 h1).imp fun _ _ q => q.up s1
  | false =>
    rw [if_neg Bool.false_ne_true]
    exact (hb.run F B1 H1 σ δ1 Q R1 h1).imp fun _ _ q => q.up s1)⟩
def dNeg (ta : DTE) : DTE := fun δ Q => ta δ fun c δ1 => match c with
  | .fz (.int i) => Q (.fz (.int (-i))) δ1
  | _ => False
theorem e_neg {ta : DTE} (ha : DE X a ta) : DE X (.UnaryOp .USub a pos) (dNeg ta) := ⟨fun F B H σ δ Q R h => pe_we (pe_un un_neg we_pe) (by
  refine (ha.run F B H σ δ _ R h).imp fun v H1 ⟨B1, δ1, c1, s1, R1, r1, h1⟩ => ?_
  match c1, r1, h1 with
  | .fz (.int i), r1, h1 =>
    cases r1
    exact ⟨i, rfl, B1, δ1, .fz (.int (-i)), s1, R1, Rp.int _, h1⟩)⟩

/-! ### a new list as a value -/
def dOfN (t : DTN) : DTE := fun δ Q => t δ fun ds δ' => Q (.fz (.lst ds)) δ'
theorem e_ofN {t : DTN} (h : DN X e t) : DE X e (dOfN t) := ⟨fun F B H σ δ Q R q => (h.run F B H σ δ _ R q).imp fun v H' ⟨B1, δ1, ds, s1, R1, n, q1⟩ => by
  obtain ⟨B2, s2, R2, rp⟩ := freezeN R1 n
  exact ⟨B2, δ1, .fz (.lst ds), s1.trans s2, R2, rp, q1⟩⟩

/-! ### argument lists -/
def dNil : DTA := fun δ Q => Q [] δ
def dCons (te : DTE) (tr : DTA) : DTA := fun δ Q => te δ fun c δ1 => tr δ1 fun cs δ2 => lv c δ2 (Q (c :: cs) δ2)
theorem a_nil : DA X [] dNil := ⟨fun F B H σ δ Q R h => pa_wa pa_nil ⟨B, δ, [], rfl, Same.refl B, R, .nil, trivial, h⟩⟩
theorem a_cons {te : DTE} {tr : DTA} (he : DE X e te) (hr : DA X es tr) (hs : starEach (e :: es) X.env = (false, eval e X.env) :: starEach es X.env := by rfl) : DA X (e :: es) (dCons te tr) := ⟨fun F B H σ δ Q R h => pa_wa (pa_cons we_pe wa_pa hs) (by
  refine (he.run F B H σ δ _ R h).imp fun v H1 ⟨B1, δ1, c1, s1, R1, r1, h1⟩ => ?_
  refine (hr.run F B1 H1 σ δ1 _ R1 h1).imp fun vs H2 ⟨B2, δ2, cs, hle, s2, R2, r2, l2, h2⟩ => ?_
  obtain ⟨l1, h2⟩ := lv_ok h2
  exact ⟨B2, δ2, c1 :: cs, by rw [List.length_cons, List.length_cons, hle], s1.trans s2, R2, .cons (r1.c0.up s2) r2, ⟨l1, l2⟩, h2⟩)⟩
/-- all frozen -/
def fzs : List C → Option (List D)
  | [] => some []
  | .fz d :: cs => match fzs cs with
    | some ds => some (d :: ds)
    | none => none
  | .own _ _ :: _ => none
theorem fzs_ok {K : PySem.W.Frag} {B : Hp} : ∀ {vs : List V} {cs : List C} {ds : List D}, RCL K B vs cs → fzs cs = some ds → RpL K B vs ds
  | _, _, ds, .nil, e => by
    cases e
    exact .nil
  | _, _, ds, .cons (c := .fz d) h t, e => by
    unfold fzs at e
    split at e
    case h_1 es he =>
      cases e
      exact .cons h (fzs_ok t he)
    case h_2 => cases e
  | _, _, ds, .cons (c := .own p d) h t, e => by cases e
def kFz (Q : List D → Prop) (cs : List C) : Prop := match fzs cs with
  | some ds => Q ds
  | none => False
theorem kFz_ok {Q : List D → Prop} {cs : List C} (h : kFz Q cs) : ∃ ds, fzs cs = some ds ∧ Q ds := by
  unfold kFz at h
  split at h
  case h_1 ds hd => exact ⟨ds, hd, h⟩
  case h_2 => exact h.elim
def dTup (t : DTA) : DTE := fun δ Q => t δ fun cs δ' => kFz (fun ds => Q (.fz (.tup ds)) δ') cs
def dLst (t : DTA) : DTN := fun δ Q => t δ fun cs δ' => kFz (fun ds => Q ds δ') cs
theorem e_tup {x1} {t : DTA} (h : DA X es t) (hl : es.length ≤ 1000 := by decide) : DE X (.Tuple es x1 pos) (dTup t) := ⟨fun F B H σ δ Q R q => pe_we (pe_tup wa_pa) (by
  refine (h.run F B H σ δ _ R q).imp fun vs H1 ⟨B1, δ1, cs, hle, s1, R1, r1, l1, h1⟩ => ?_
  obtain ⟨ds, e, q⟩ := kFz_ok h1
  have rp := fzs_ok r1 e
  refine ⟨by rw [hle]; exact Nat.le_of_lt (small1000 hl), fun p hp => ?_⟩
  obtain ⟨B2, d, s2, R2, rp2, hq⟩ := qv_tup (Q := fun d => Q (.fz d) δ1) R1 hp rp q
  exact ⟨B2, δ1, .fz d, s1.trans s2, R2, rp2, hq⟩)⟩
theorem n_lst {t : DTA} (h : DA X es t) (hl : es.length ≤ 1000 := by decide) : DN X (.List es pos) (dLst t) := ⟨fun F B H σ δ Q R q => pe_we (pe_lst wa_pa) (by
  refine (h.run F B H σ δ _ R q).imp fun vs H1 ⟨B1, δ1, cs, hle, s1, R1, r1, l1, h1⟩ => ?_
  obtain ⟨ds, e, q⟩ := kFz_ok h1
  have rp := fzs_ok r1 e
  refine ⟨by rw [hle]; exact Nat.le_of_lt (small1000 hl), fun p hp => ?_⟩
  obtain ⟨B2, ds', s2, R2, n2, hq⟩ := qnv (Q := fun d => Q d δ1) R1 hp rp q
  exact ⟨B2, δ1, ds', s1.trans s2, R2, n2, hq⟩)⟩
/-! ### calls of built-ins -/
def dCall (g : GN) (t : DTA) : DTE := fun δ Q => t δ fun cs δ' => g (cs.map C.d) fun d => Q (.fz d) δ'
def dCallN (g : List D → (List D → Prop) → Prop) (t : DTA) : DTN := fun δ Q => t δ fun cs δ' => g (cs.map C.d) fun ds => Q ds δ'
theorem call_core {f : Value} {g : GN} {t : DTA} (hc : CallS X f g) (ha : DA X es t) {F B H : Hp} {σ : St} {δ : DEnv} {Q : C → DEnv → Prop} (R : RE X.K F B H σ δ) (h : dCall g t δ Q) : tCB (WC X f) (WA X es) σ H (QE X.K F B σ Q) := by
  refine (ha.run F B H σ δ _ R h).imp fun vs H1 ⟨B1, δ1, cs, _, s1, R1, r1, l1, h1⟩ => ?_
  exact wc_imp (hc F B1 H1 σ δ1 vs _ _ R1 (R1.lives r1 l1) h1) fun v H' ⟨B', d, sB, R', rp, q'⟩ => ⟨B', δ1, .fz d, s1.trans sB, R', rp, q'⟩
theorem callN_core {f : Value} {g : List D → (List D → Prop) → Prop} {t : DTA} (hc : CallN X f g) (ha : DA X es t) {F B H : Hp} {σ : St} {δ : DEnv} {Q : List D → DEnv → Prop} (R : RE X.K F B H σ δ) (h : dCallN g t δ Q) : tCB (WC X f) (WA X es) σ H (QN X.K F B σ Q) := by
  refine (ha.run F B H σ δ _ R h).imp fun vs H1 ⟨B1, δ1, cs, _, s1, R1, r1, l1, h1⟩ => ?_
  exact wc_imp (hc F B1 H1 σ δ1 vs _ _ R1 (R1.lives r1 l1) h1) fun v H' ⟨B', d, sB, R', rp, q'⟩ => ⟨B', δ1, d, s1.trans sB, R', rp, q'⟩
variable {x : Str} {p : Pos} {id T : String}
theorem e_callB {g : GN} {t : DTA} (hc : CallS X (.builtin id) g) (hm : X.mg x = none) (ha : DA X (e :: es) t) (hg : Gl X x := by rfl) (hv : bootBuiltins x = some (.builtin id) := by decide +kernel) (hn : x ≠ "__name__" := by decide) (hdb : (x == ("__debug__" : Str)) = false := by decide)
    (he : starEach (e :: es) X.env = (false, eval e X.env) :: starEach es X.env := by rfl) (hpl : (backTo pos (starEach es X.env)).any (·.1) = false := by rfl) : DE X (.Call (.Name x p) (e :: es) [] pos) (dCall g t) :=
  ⟨fun F B H σ δ Q R h => pe_we (pe_callB wc_ok hg hm hv wa_pa hn hdb he hpl) (call_core hc ha R h)⟩
theorem e_callTy {g : GN} {t : DTA} (hc : CallS X (.type T) g) (hm : X.mg x = none) (ha : DA X (e :: es) t) (hg : Gl X x := by rfl) (hv : bootBuiltins x = some (.type T) := by decide +kernel) (hn : x ≠ "__name__" := by decide) (hdb : (x == ("__debug__" : Str)) = false := by decide)
    (he : starEach (e :: es) X.env = (false, eval e X.env) :: starEach es X.env := by rfl) (hpl : (backTo pos (starEach es X.env)).any (·.1) = false := by rfl) : DE X (.Call (.Name x p) (e :: es) [] pos) (dCall g t) :=
  ⟨fun F B H σ δ Q R h => pe_we (pe_callTy wc_ok hg hm hv wa_pa hn hdb he hpl) (call_core hc ha R h)⟩
theorem n_callB {g : List D → (List D → Prop) → Prop} {t : DTA} (hc : CallN X (.builtin id) g) (hm : X.mg x = none) (ha : DA X (e :: es) t) (hg : Gl X x := by rfl) (hv : bootBuiltins x = some (.builtin id) := by decide +kernel) (hn : x ≠ "__name__" := by decide) (hdb : (x == ("__debug__" : Str)) = false := by decide)
    (he : starEach (e :: es) X.env = (false, eval e X.env) :: starEach es X.env := by rfl) (hpl : (backTo pos (starEach es X.env)).any (·.1) = false := by rfl) : DN X (.Call (.Name x p) (e :: es) [] pos) (dCallN g t) :=
  ⟨fun F B H σ δ Q R h => pe_we (pe_callB wc_ok hg hm hv wa_pa hn hdb he hpl) (callN_core hc ha R h)⟩
theorem n_callTy {g : List D → (List D → Prop) → Prop} {t : DTA} (hc : CallN X (.type T) g) (hm : X.mg x = none) (ha : DA X (e :: es) t) (hg : Gl X x := by rfl) (hv : bootBuiltins x = some (.type T) := by decide +kernel) (hn : x ≠ "__name__" := by decide) (hdb : (x == ("__debug__" : Str)) = false := by decide)
    (he : starEach (e :: es) X.env = (false, eval e X.env) :: starEach es X.env := by rfl) (hpl : (backTo pos (starEach es X.env)).any (·.1) = false := by rfl) : DN X (.Call (.Name x p) (e :: es) [] pos) (dCallN g t) :=
  ⟨fun F B H σ δ Q R h => pe_we (pe_callTy wc_ok hg hm hv wa_pa hn hdb he hpl) (callN_core hc ha R h)⟩
end
end DL

namespace DL
open PySem L2

section
variable {X : Cx} {a b c e tg iter : Expr} {es : List Expr} {pos : Pos} {st : Stmt} {rest body : List Stmt}

/-! ### targets -/
structure DG (X : Cx) (tg : Expr) (t : DTG) (is : List Nat) : Prop where
  run : ∀ (F B H : Hp) (σ : St) (δ : DEnv) (v : V) (d : D) (Q : DEnv → Prop), RE X.K F B H σ δ → Rp X.K B v d → t d δ Q →
    WG X tg v σ H (fun σ' H' => ∃ B' δ', Same B B' ∧ RE X.K F B' H' σ' δ' ∧ (σ'.length = σ.length ∧ ∀ j : Nat, j ∉ is → σ'[j]? = σ[j]?) ∧ Q δ')
structure DGs (X : Cx) (ts : List Expr) (t : List D → DEnv → (DEnv → Prop) → Prop) (is : List Nat) : Prop where
  run : ∀ (F B H : Hp) (σ : St) (δ : DEnv) (vs : List V) (ds : List D) (Q : DEnv → Prop), RE X.K F B H σ δ → RpL X.K B vs ds → t ds δ Q →
    ∀ (pins : List (Addr × Obj)) (s : Shared) (us : List Value), Inv X pins σ H s → Vals vs us →
      wpAny (model X.prog X.w) X.A (assignInOrder ((assignEach ts X.env).map (·.2)) us) (fun _ s' => ∃ σ' H', Inv X pins σ' H' s' ∧ ∃ B' δ', Same B B' ∧ RE X.K F B' H' σ' δ' ∧ (σ'.length = σ.length ∧ ∀ j : Nat, j ∉ is → σ'[j]? = σ[j]?) ∧ Q δ') X.xe s
def dgName (i : Nat) : DTG := fun d δ Q => Q (δ.set i (some (.fz d)))
theorem g_name (i : Nat) {x : Str} (o : XOk X) (hi : X.N[i]? = some x := by rfl) (hx : Loc X.env.scope x := by first | exact Or.inl rfl | exact Or.inr rfl) (hf : X.fn x = true ∨ X.env.scope.names.lookup x = some .local := by first | exact .inl rfl | exact .inr rfl | assumption) : DG X (.Name x pos) (dgName i) [i] :=
  ⟨fun F B H σ δ v d Q R r q => pg_wg (pg_name o.nd hi hx hf) ⟨B, _, Same.refl B, R.setF r, ⟨List.length_set, fun j hj => List.getElem?_set_ne (fun z => hj (by rw [z]; exact List.mem_cons_self))⟩, q⟩⟩
def dgNil : List D → DEnv → (DEnv → Prop) → Prop := fun ds δ Q => match ds with
  | [] => Q δ
  | _ => False
def dgCons (t : DTG) (u : List D → DEnv → (DEnv → Prop) → Prop) : List D → DEnv → (DEnv → Prop) → Prop := fun ds δ Q => match ds with
  | d :: ds => t d δ fun δ1 => u ds δ1 Q
  | [] => False
theorem gs_nil : DGs X [] dgNil [] := ⟨fun F B H σ δ vs ds Q R r q pins s us I rv => by
  cases r with
  | nil =>
    cases rv
    exact PyProof.Rows.assignInOrder_nil ⟨σ, H, I, B, δ, Same.refl B, R, ⟨rfl, fun _ _ => rfl⟩, q⟩
  | cons => exact False.elim q⟩
theorem gs_cons {t : DTG} {u : List D → DEnv → (DEnv → Prop) → Prop} {is js : List Nat} (h1 : DG X e t is) (h2 : DGs X es u js) (hs : (assignEach (e :: es) X.env).map (·.2) = assign e X.env :: (assignEach es X.env).map (·.2) := by rfl) : DGs X (e :: es) (dgCons t u) (is ++ js) :=
  ⟨fun F B H σ δ vs ds Q R r q pins s us I rv => by
    cases r with
    | nil => exact False.elim q
    | cons r1 r2 =>
      cases rv with
      | cons v1 v2 =>
        rw [hs]
        refine PyProof.Rows.assignInOrder_cons (thn (h1.run F B H σ δ _ _ _ R r1 q pins s _ I v1) fun _ s1 ⟨σ1, H1, I1, B1, δ1, s1', R1, k1, q1⟩ => ?_)
        refine thn (h2.run F B1 H1 σ1 δ1 _ _ Q R1 (r2.up s1') q1 pins s1 _ I1 v2) fun _ s2 ⟨σ2, H2, I2, B2, δ2, s2', R2, k2, q2⟩ => ?_
        exact ⟨σ2, H2, I2, B2, δ2, s1'.trans s2', R2, ⟨k2.1.trans k1.1, fun j hj => (k2.2 j fun z => hj (List.mem_append_right _ z)).trans (k1.2 j fun z => hj (List.mem_append_left _ z))⟩, q2⟩⟩
def dgTup (t : List D → DEnv → (DEnv → Prop) → Prop) (n : Nat) : DTG := fun d δ Q => match d with
  | .tup ds => ds.length = n ∧ t ds δ Q
  | _ => False
theorem g_tup {k : Nat} {t : List D → DEnv → (DEnv → Prop) → Prop} {is : List Nat} {n : Nat} (o : XOk X) (h : DGs X es t is) (hn : (assignEach es X.env).length = n := by rfl) (hst : (assignEach es X.env).findIdx? (·.1) = none := by rfl) : DG X (.Tuple es k pos) (dgTup t n) is :=
  ⟨fun F B H σ δ v d Q R r q => by
    cases d <;> try exact False.elim q
    rename_i ds
    cases r with
    | tup h1 h2 =>
      refine pg_wg (pg_tup (t := fun xs σ' H' Q' => ∀ (pins : List (Addr × Obj)) (s : Shared) (us : List Value), Inv X pins σ' H' s → Vals xs us → wpAny (model X.prog X.w) X.A (assignInOrder ((assignEach es X.env).map (·.2)) us) (fun _ s' => ∃ σ' H', Inv X pins σ' H' s' ∧ Q' σ' H') X.xe s)
        o.calm ⟨fun pins s σ' H' vs us Q' I rv z => z pins s us I rv⟩ hn hst) ⟨_, _, rfl, same_t R.sB h1, by rw [h2.length]; exact q.1, fun pins s us I rv => h.run F B H σ δ _ _ Q R h2 q.2 pins s us I rv⟩⟩
/-- x[i] = .., x a list of one's own in slot j -/
def kSet (j : Nat) (d : D) (Q : DEnv → Prop) (c : C) (δ1 : DEnv) : Prop := match δ1[j]?, c with
  | some (some (.own p ds)), .fz (.int k) => match ixN ds.length k with
    | some n => Q (δ1.set j (some (.own p (ds.set n d))))
    | none => False
  | _, _ => False
def dgSub (j : Nat) (ti : DTE) : DTG := fun d δ Q => match δ[j]? with
  | some (some (.own _ _)) => ti δ (kSet j d Q)
  | _ => False
theorem g_sub (j : Nat) {x : Str} {i : Expr} {p2 : Pos} {ti : DTE} (hi : DE X i ti) (hN : X.N[j]? = some x := by rfl) (hv : Vis X.env.scope x := by first | exact Or.inl rfl | exact Or.inr (Or.inl rfl) | exact Or.inr (Or.inr rfl)) (hd : (x == ("__debug__" : Str)) = false := by decide)
    (hcd : (x == ("__classdict__" : Str)) = false := by decide) (ha : ∀ v, assign (.Subscript (.Name x p2) i pos) X.env v = (do
      let ov ← holding [v] (eval (.Name x p2) X.env)
      let iv ← holding [v, ov] (eval i X.env)
      standAt pos
      holding [v, ov, iv] (setItem ov iv v)
      release [v, ov, iv] []) := by intro _; rfl) : DG X (.Subscript (.Name x p2) i pos) (dgSub j ti) [] :=
  ⟨fun F B H σ δ v d Q R r q => pg_wg (pg_sub (ti := WE X i) (pe_var hN hv hd hcd) we_pe set_list ha) (by
    unfold dgSub at q
    split at q
    case h_2 => exact q.elim
    case h_1 p0 ds0 h0 =>
    obtain ⟨hw, _⟩ := R.own j p0 ds0 h0
    refine ⟨_, hw, ?_⟩
    refine (hi.run F B H σ δ _ R q).imp fun v2 H2 ⟨B2, δ2, c2, s2, R2, r2, h2⟩ => ?_
    unfold kSet at h2
    split at h2
    case h_1 p ds k hs =>
      split at h2
      case h_2 => exact h2.elim
      case h_1 n hn =>
      obtain ⟨g1, g2, g3, xs, g4, g5⟩ := R2.own j p ds hs
      rw [hw] at g1
      cases g1
      cases r2
      exact ⟨p0, xs, k, n, rfl, rfl, g4, by rw [g5.length]; exact hn, B2, _, s2, R2.chg hs (g5.set n (r.up s2)), ⟨rfl, fun _ _ => rfl⟩, h2⟩
    case h_2 => exact h2.elim)⟩
end
end DL

namespace DL
open PySem L2

def gIAdd : G2 := fun x y Q => match x, y with
  | .int i, .int j => Q (.int (i + j))
  | .str a, .str b => a.length + b.length ≤ sizeLine ∧ Q (.str (a ++ b))
  | _, _ => False
section
variable {X : Cx} {a b c e tg iter : Expr} {es : List Expr} {pos : Pos} {st : Stmt} {rest body orelse : List Stmt}
theorem lift_up {K : PySem.W.Frag} {F B B1 : Hp} {D : DEnds} (s1 : Same B B1) : (∀ σ H, (lift K F B1 D).nx σ H → (lift K F B D).nx σ H) ∧ (∀ v H, (lift K F B1 D).rt v H → (lift K F B D).rt v H) ∧ (∀ σ H, (lift K F B1 D).bk σ H → (lift K F B D).bk σ H) ∧ (∀ σ H, (lift K F B1 D).ct σ H → (lift K F B D).ct σ H) :=
  ⟨fun _ _ ⟨B', δ', sB, h⟩ => ⟨B', δ', s1.trans sB, h⟩, fun _ _ ⟨B', σ', δ', c, sB, h⟩ => ⟨B', σ', δ', c, s1.trans sB, h⟩, fun _ _ ⟨B', δ', sB, h⟩ => ⟨B', δ', s1.trans sB, h⟩, fun _ _ ⟨B', δ', sB, h⟩ => ⟨B', δ', s1.trans sB, h⟩⟩
theorem WSs.up {σ : St} {H : Hp} {F B B1 : Hp} {D : DEnds} (s1 : Same B B1) (h : WSs X body (lift X.K F B1 D) σ H) : WSs X body (lift X.K F B D) σ H :=
  let ⟨a, b, c, d⟩ := lift_up (K := X.K) (F := F) (D := D) s1
  h.imp a b c d
def dNext : DTS := fun D δ => D.nx δ
def dSeq (t u : DTS) : DTS := fun D δ => t { D with nx := u D } δ
theorem ss_nil : DSs X [] dNext := ⟨fun F B H σ δ D R h => pss_wss pss_nil ⟨B, δ, Same.refl B, R, h⟩⟩
theorem ss_cons {t u : DTS} (h1 : DS X st t) (h2 : DSs X rest u) : DSs X (st :: rest) (dSeq t u) := ⟨fun F B H σ δ D R h => pss_wss (pss_cons ws_ps wss_pss)
  ((h1.run F B H σ δ { D with nx := u D } R h).imp (fun σ' H' ⟨B', δ', sB, R', q⟩ => (h2.run F B' H' σ' δ' D R' q).up sB) (fun _ _ z => z) (fun _ _ z => z) (fun _ _ z => z))⟩
theorem ss_one {t : DTS} (h1 : DS X st t) : DSs X [st] t := ⟨fun F B H σ δ D R h => pss_wss (pss_one ws_ps) (h1.run F B H σ δ D R h)⟩
theorem ss_never {sts : List Stmt} : DSs X sts (fun _ _ => False) := ⟨fun _ _ _ _ _ _ _ h => h.elim⟩
theorem s_never : DS X st (fun _ _ => False) := ⟨fun _ _ _ _ _ _ _ h => h.elim⟩
def dBreak : DTS := fun D δ => D.bk δ
def dCont : DTS := fun D δ => D.ct δ
theorem s_pass : DS X (.Pass pos) dNext := ⟨fun F B H σ δ D R h => ps_ws ps_pass ⟨B, δ, Same.refl B, R, h⟩⟩
theorem s_doc {x j pos pos'} : DS X (.Expr (.Constant (.str x) j pos) pos') dNext := ⟨fun F B H σ δ D R h => ps_ws ps_doc ⟨B, δ, Same.refl B, R, h⟩⟩
theorem s_break : DS X (.Break pos) dBreak := ⟨fun F B H σ δ D R h => ps_ws ps_break ⟨B, δ, Same.refl B, R, h⟩⟩
theorem s_continue : DS X (.Continue pos) dCont := ⟨fun F B H σ δ D R h => ps_ws ps_continue ⟨B, δ, Same.refl B, R, h⟩⟩
def dDrop (te : DTE) : DTS := fun D δ => te δ fun _ δ1 => D.nx δ1
theorem s_expr {te : DTE} (he : DE X e te) (hs : swapsWith e none pos.line X.env = pure false := by rfl) : DS X (.Expr e pos) (dDrop te) := ⟨fun F B H σ δ D R h => ps_ws (ps_expr we_pe hs)
  ((he.run F B H σ δ _ R h).imp fun v H' ⟨B', δ', c, sB, R', r, q⟩ => ⟨B', δ', sB, R', q⟩)⟩
def dRet (te : DTE) : DTS := fun D δ => te δ fun c δ1 => match c with
  | .fz d => D.rt (.fz d) δ1
  | _ => False
theorem s_ret {te : DTE} (he : DE X e te) : DS X (.Return (some e) pos) (dRet te) := ⟨fun F B H σ δ D R h => ps_ws (ps_ret we_pe)
  ((he.run F B H σ δ _ R h).imp fun v H' ⟨B', δ', c, sB, R', r, q⟩ => by
    match c, r, q with
    | .fz d, r, q => exact ⟨B', σ, δ', .fz d, sB, R', r, q⟩)⟩
/-- return x, x a list of one's own in slot i -/
def dRetO (i : Nat) : DTS := fun D δ => match δ[i]? with
  | some (some (.own p ds)) => D.rt (.own p ds) (δ.set i none)
  | _ => False
theorem RE.clear {K : PySem.W.Frag} {F B H : Hp} {σ : St} {δ : DEnv} (R : RE K F B H σ δ) (i : Nat) : RE K F B H σ (δ.set i none) :=
  R.weak (by rw [List.length_set, R.len]) fun j c h => by
    by_cases hj : i = j
    · subst hj
      by_cases hl : i < δ.length
      · rw [List.getElem?_set_self hl] at h
        cases h
      · rw [List.getElem?_eq_none (by rw [List.length_set]; omega)] at h
        cases h
    · rw [List.getElem?_set_ne hj] at h
      exact ⟨h, rfl⟩
theorem s_retO (i : Nat) {x : Str} {p2 : Pos} (hN : X.N[i]? = some x := by rfl) (hv : Vis X.env.scope x := by first | exact Or.inl rfl | exact Or.inr (Or.inl rfl) | exact Or.inr (Or.inr rfl)) (hd : (x == ("__debug__" : Str)) = false := by decide)
    (hcd : (x == ("__classdict__" : Str)) = false := by decide) : DS X (.Return (some (.Name x p2)) pos) (dRetO i) := ⟨fun F B H σ δ D R h => by
  unfold dRetO at h
  split at h
  case h_2 => exact h.elim
  case h_1 p ds hs =>
  obtain ⟨h1, h2, h3, xs, h4, h5⟩ := R.own i p ds hs
  refine ps_ws (ps_ret (pe_var hN hv hd hcd)) ⟨_, h1, B, σ, _, .own p ds, Same.refl B, R.clear i, ⟨xs, rfl, h2, h3, fun j es e => ?_, h4, h5⟩, h⟩
  by_cases hj : i = j
  · subst hj
    rw [List.getElem?_set_self (List.getElem?_eq_some_iff.mp hs).1] at e
    cases e
  · rw [List.getElem?_set_ne hj] at e
    exact hj (R.sep i j p ds es hs e)⟩
def dRetN (t : DTN) : DTS := fun D δ => t δ fun ds δ1 => ∀ p, D.rt (.own p ds) δ1
theorem s_retN {t : DTN} (he : DN X e t) : DS X (.Return (some e) pos) (dRetN t) := ⟨fun F B H σ δ D R h => ps_ws (ps_ret we_pe)
  ((he.run F B H σ δ _ R h).imp fun v H' ⟨B', δ', ds, sB, R', ⟨p, xs, n⟩, q⟩ => ⟨B', σ, δ', .own p ds, sB, R', ⟨xs, n⟩, q p⟩)⟩
def dRet0 : DTS := fun D δ => D.rt (.fz .non) δ
theorem s_ret0 : DS X (.Return none pos) dRet0 := ⟨fun F B H σ δ D R h => ps_ws ps_retN ⟨B, σ, δ, .fz .non, Same.refl B, R, Rp.non, h⟩⟩
def dIfS (c : DTT) (t u : DTS) : DTS := fun D δ => c δ fun b δ1 => kIf b (t D δ1) (u D δ1)
theorem s_if {tc : DTT} {t u : DTS} (hc : DT X c tc) (ha : DSs X body t) (hb : DSs X orelse u) : DS X (.If c body orelse pos) (dIfS tc t u) := ⟨fun F B H σ δ D R h => ps_ws (ps_if wt_pt wss_pss wss_pss)
  ((hc.run F B H σ δ _ R h).imp fun k H' ⟨B', δ', sB, R', q⟩ => by
    cases k with
    | true =>
      rw [if_pos rfl]
      exact (ha.run F B' H' σ δ' D R' q).up sB
    | false =>
      rw [if_neg Bool.false_ne_true]
      exact (hb.run F B' H' σ δ' D R' q).up sB)⟩
/-! ### assignments -/
def kFzD (Q : D → DEnv → Prop) : C → DEnv → Prop := fun c δ => match c with
  | .fz d => Q d δ
  | _ => False
def dSet (i : Nat) (te : DTE) : DTS := fun D δ => te δ (kFzD fun d δ1 => D.nx (δ1.set i (some (.fz d))))
theorem s_set (i : Nat) {x : Str} {te : DTE} {pos' : Pos} (o : XOk X) (he : DE X e te) (hi : X.N[i]? = some x := by rfl) (hx : Loc X.env.scope x := by first | exact Or.inl rfl | exact Or.inr rfl) (hs : swapsWith e (some (.Name x pos')) pos.line X.env = pure false := by rfl)
    (hf : X.fn x = true ∨ X.env.scope.names.lookup x = some .local := by first | exact .inl rfl | exact .inr rfl | assumption) : DS X (.Assign [.Name x pos'] e pos) (dSet i te) := ⟨fun F B H σ δ D R h => ps_ws (ps_set o.nd hi hx we_pe hs hf)
  ((he.run F B H σ δ _ R h).imp fun v H' ⟨B', δ', c, sB, R', r, q⟩ => by
    match c, r, q with
    | .fz d, r, q => exact ⟨B', _, sB, R'.setF r, q⟩)⟩
def dSetN (i : Nat) (t : DTN) : DTS := fun D δ => t δ fun ds δ1 => ∀ p, D.nx (δ1.set i (some (.own p ds)))
theorem s_setN (i : Nat) {x : Str} {t : DTN} {pos' : Pos} (o : XOk X) (he : DN X e t) (hi : X.N[i]? = some x := by rfl) (hx : Loc X.env.scope x := by first | exact Or.inl rfl | exact Or.inr rfl) (hs : swapsWith e (some (.Name x pos')) pos.line X.env = pure false := by rfl)
    (hf : X.fn x = true ∨ X.env.scope.names.lookup x = some .local := by first | exact .inl rfl | exact .inr rfl | assumption) : DS X (.Assign [.Name x pos'] e pos) (dSetN i t) := ⟨fun F B H σ δ D R h => ps_ws (ps_set o.nd hi hx we_pe hs hf)
  ((he.run F B H σ δ _ R h).imp fun v H' ⟨B', δ', ds, sB, R', ⟨p, xs, e1, h1, h2, hn, h3, h4⟩, q⟩ => by
    subst e1
    exact ⟨B', _, sB, R'.setO h1 h2 h3 h4 hn, q p⟩)⟩
def dAsg (te : DTE) (g : DTG) : DTS := fun D δ => te δ (kFzD fun d δ1 => g d δ1 D.nx)
theorem s_asg {te : DTE} {g : DTG} {is : List Nat} (he : DE X e te) (hg : DG X tg g is) (hs : swapsWithSole [tg] e pos.line X.env = pure false := by rfl) (hw : swappedStores [tg] e X.env = pure none := by rfl)
    (h1 : (assignEach [tg] X.env).map (·.2) = [assign tg X.env] := by rfl) : DS X (.Assign [tg] e pos) (dAsg te g) := ⟨fun F B H σ δ D R h => ps_ws (ps_asg we_pe wg_pg hs hw h1)
  ((he.run F B H σ δ _ R h).imp fun v H' ⟨B', δ', c, sB, R', r, q⟩ => by
    match c, r, q with
    | .fz d, r, q => exact (hg.run F B' H' σ δ' v d _ R' r q).imp fun σ2 H2 ⟨B2, δ2, s2, R2, _, q2⟩ => ⟨B2, δ2, sB.trans s2, R2, q2⟩)⟩
def kPar (i j : Nat) (D : DEnds) : List C → DEnv → Prop := fun cs δ => match cs with
  | [.fz a, .fz b] => D.nx ((δ.set i (some (.fz a))).set j (some (.fz b)))
  | _ => False
def dPar (i j : Nat) (t : DTA) : DTS := fun D δ => t δ (kPar i j D)
theorem s_par (i j : Nat) {x y : Str} {t : DTA} {px py pt : Pos} {kt k2 pt2} (o : XOk X) (ha : DA X [a, b] t) (hi : X.N[i]? = some x := by rfl) (hj : X.N[j]? = some y := by rfl) (hij : i ≠ j := by decide) (hx : X.env.scope.names.lookup x = some .local := by rfl) (hy : X.env.scope.names.lookup y = some .local := by rfl)
    (hP : ∀ {ta : TA}, PA X [a, b] ta → PS X (.Assign [.Tuple [.Name x px, .Name y py] kt pt] (.Tuple [a, b] k2 pt2) pos) (tPar i j ta)) : DS X (.Assign [.Tuple [.Name x px, .Name y py] kt pt] (.Tuple [a, b] k2 pt2) pos) (dPar i j t) := ⟨fun F B H σ δ D R h => ps_ws (hP wa_pa)
  ((ha.run F B H σ δ _ R h).imp fun vs H' ⟨B', δ', cs, _, sB, R', r, l, q⟩ => by
    match cs, r, q with
    | [.fz a, .fz b], .cons (v := v) r1 (.cons (v := w) r2 .nil), q => exact ⟨v, w, rfl, B', _, sB, (R'.setF r1).setF r2, q⟩)⟩
/-- x op= e -/
def dAug (i : Nat) (g : G2) (te : DTE) : DTS := fun D δ => match δ[i]? with
  | some (some (.fz x)) => te δ fun c δ1 => g x c.d fun d => D.nx (δ1.set i (some (.fz d)))
  | _ => False
theorem s_aug (i : Nat) {x : Str} {te : DTE} {op : Operator} {g : G2} {pos' : Pos} (o : XOk X) (he : DE X e te) (ho : OpS X (inplaceOp op) g) (hi : X.N[i]? = some x := by rfl) (hx : Loc X.env.scope x := by first | exact Or.inl rfl | exact Or.inr rfl)
    (hf : X.fn x = true ∨ X.env.scope.names.lookup x = some .local := by first | exact .inl rfl | exact .inr rfl | assumption) : DS X (.AugAssign (.Name x pos') op e pos) (dAug i g te) := ⟨fun F B H σ δ D R h => ps_ws (ps_aug o.nd hi hx we_pe (ti := WO X (inplaceOp op)) wo_ok hf) (by
    unfold dAug at h
    split at h
    case h_2 => exact h.elim
    case h_1 d0 h0 =>
    obtain ⟨v, hv, rv⟩ := R.fz i d0 h0
    refine ⟨v, hv, ?_⟩
    refine (he.run F B H σ δ _ R h).imp fun v2 H2 ⟨B2, δ2, c2, s2, R2, r2, q2⟩ => ?_
    refine wo_imp (ho F B2 H2 σ δ2 v v2 d0 c2.d _ R2 (.inl (rv.up s2)) r2.now q2) fun v3 H3 ⟨B3, d, s3, R3, rp, q3⟩ => ?_
    exact ⟨B3, _, s2.trans s3, R3.setF rp, q3⟩)⟩
theorem io_add : OpS X (inplaceOp .Add) gIAdd := by
  intro F B H σ δ v1 v2 d1 d2 Q R h1 h2 g
  cases d1 <;> cases d2 <;> try exact False.elim g
  case int.int i j => rw [h1.int, h2.int]; exact ⟨_, iop_add, i, j, rfl, rfl, qv R (.int _) g⟩
  case str.str i j => rw [h1.str, h2.str]; exact ⟨_, iop_add_str, i, j, rfl, rfl, g.1, qv R (.str _) g.2⟩
theorem io_sub : OpS X (inplaceOp .Sub) gSub := by
  intro F B H σ δ v1 v2 d1 d2 Q R h1 h2 g
  cases d1 <;> cases d2 <;> try exact False.elim g
  case int.int i j => rw [h1.int, h2.int]; exact ⟨_, iop_sub, i, j, rfl, rfl, qv R (.int _) g⟩

/-! ### what is walked -/
def ItOk (K : PySem.W.Frag) (F B0 : Hp) (J : It) (src : List C) (ds : List D) : Prop := ∀ (i : Nat) (F' B H : Hp) (σ : St) (δ : DEnv), (∀ a o, F a = some o → F' a = some o) → Same B0 B → RE K F' B H σ δ → lives src δ →
  (∀ d, ds[i]? = some d → J.go i H ∧ ∀ x H', J.yld i H x H' → ∃ B', Same B B' ∧ RE K F' B' H' σ δ ∧ Rp K B' x d) ∧ (ds[i]? = none → J.stop i H)
abbrev DTI := DEnv → (List C → List D → DEnv → Prop) → Prop
structure DI (X : Cx) (tg iter : Expr) (t : DTI) : Prop where
  run : ∀ (F B H : Hp) (σ : St) (δ : DEnv) (Q : List C → List D → DEnv → Prop), RE X.K F B H σ δ → t δ Q →
    WI X tg iter σ H (fun J H' => ∃ B' δ' src ds, Same B B' ∧ RE X.K F B' H' σ δ' ∧ ItOk X.K F B' J src ds ∧ Q src ds δ')
def forD0 (src : List C) (g : DTG) (tb : DTS) (E : DEnds) : List D → DEnv → Prop
  | [], δ => lvs src δ (E.nx δ)
  | d :: ds, δ => lvs src δ (g d δ fun δ2 => tb { E with nx := forD0 src g tb E ds, ct := forD0 src g tb E ds, bk := E.nx } δ2)
@[irreducible] def forD (src : List C) (g : DTG) (tb : DTS) (E : DEnds) (ds : List D) (δ : DEnv) : Prop := forD0 src g tb E ds δ
theorem for_eq {src : List C} {g : DTG} {tb : DTS} {E : DEnds} {ds : List D} : forD src g tb E ds = forD0 src g tb E ds := by
  funext δ
  unfold forD
  rfl
theorem for_nil {src : List C} {g : DTG} {tb : DTS} {E : DEnds} {δ : DEnv} : forD src g tb E [] δ = lvs src δ (E.nx δ) := by
  rw [for_eq]
  rfl
theorem for_cons {src : List C} {g : DTG} {tb : DTS} {E : DEnds} {d : D} {ds : List D} {δ : DEnv} : forD src g tb E (d :: ds) δ = lvs src δ (g d δ fun δ2 => tb { E with nx := forD src g tb E ds, ct := forD src g tb E ds, bk := E.nx } δ2) := by
  rw [for_eq, for_eq]
  rfl
def dFor (ti : DTI) (g : DTG) (tb : DTS) : DTS := fun D δ => ti δ fun src ds δ1 => forD src g tb D ds δ1
theorem s_for {ti : DTI} {g : DTG} {is : List Nat} {tb : DTS} (o : XOk X) (hp : PassesOwn (model X.prog X.w) X.A X.env X.xe) (hi : DI X tg iter ti) (hg : DG X tg g is) (hb : DSs X body tb)
    (hs : ∀ x, foldedSetIterable iter X.env x = pure x := by intro _; rfl) : DS X (.For tg iter body [] pos) (dFor ti g tb) := ⟨fun F B H σ δ D R h => ps_ws (ps_for (wi := WI X tg iter) (g := WG X tg) hp o.calm wi_pi wg_pg wss_pss hs) (by
    refine fun pins s I => thn (hi.run F B H σ δ _ R h pins s I) fun v s1 h1 => thn h1 fun itv s2 ⟨it, fp, tn, J, H', e, I', T, st2, f2, B1, δ1, src, ds, s1', R1, ok, q⟩ => ?_
    refine ⟨it, fp, tn, J, H', e, I', T, st2, f2, fun i m σ2 H2 => m = ds.length - i ∧ ∃ B2 δ2, Same B1 B2 ∧ RE X.K F B2 H2 σ2 δ2 ∧ forD src g tb D (ds.drop i) δ2, ⟨ds.length, rfl, B1, δ1, Same.refl _, R1, q⟩, ?_⟩
    rintro i m σ2 H2 ⟨rfl, B2, δ2, s2, R2, q2⟩
    by_cases hlt : i < ds.length
    · rw [List.drop_eq_getElem_cons hlt, for_cons] at q2
      obtain ⟨lv, q2⟩ := lvs_ok q2
      obtain ⟨go, yl⟩ := (ok i F B2 H2 σ2 δ2 (fun _ _ z => z) s2 R2 lv).1 ds[i] (List.getElem?_eq_getElem hlt)
      refine .inr ⟨go, fun σ3 H3 => ∃ B3 δ3, Same B1 B3 ∧ RE X.K F B3 H3 σ3 δ3 ∧ forD src g tb D (ds.drop (i + 1)) δ3, fun σ3 H3 ⟨B3, δ3, s3, R3, q3⟩ => ⟨ds.length - (i + 1), by omega, rfl, B3, δ3, s3, R3, q3⟩, fun x H3 hy => ?_⟩
      obtain ⟨B3, s3, R3, rx⟩ := yl x H3 hy
      refine (hg.run F B3 H3 σ2 δ2 x ds[i] _ R3 rx q2).imp fun σ4 H4 ⟨B4, δ4, s4, R4, _, q4⟩ => ?_
      have sm : Same B1 B4 := s2.trans (s3.trans s4)
      exact (hb.run F B4 H4 σ4 δ4 _ R4 q4).imp (fun σ5 H5 ⟨B5, δ5, s5, R5, q5⟩ => ⟨B5, δ5, sm.trans s5, R5, q5⟩) (fun v5 H5 ⟨B5, σ5, δ5, c5, s5, R5, r5, q5⟩ => ⟨B5, σ5, δ5, c5, s1'.trans (sm.trans s5), R5, r5, q5⟩)
        (fun σ5 H5 ⟨B5, δ5, s5, R5, q5⟩ => ⟨B5, δ5, s1'.trans (sm.trans s5), R5, q5⟩) (fun σ5 H5 ⟨B5, δ5, s5, R5, q5⟩ => ⟨B5, δ5, sm.trans s5, R5, q5⟩)
    · rw [List.drop_eq_nil_of_le (by omega), for_nil] at q2
      have q2 := lvs_ok q2
      exact .inl ⟨(ok i F B2 H2 σ2 δ2 (fun _ _ z => z) s2 R2 q2.1).2 (List.getElem?_eq_none (by omega)), B2, δ2, s1'.trans s2, R2, q2.2⟩)⟩
def dWhile (tc : DTT) (tb : DTS) : DTS := fun D δ => ∃ W : Nat → DEnv → Prop, (∃ m, W m δ) ∧ ∀ m δ, W m δ →
  tc δ fun b δ1 => kIf b (∃ N : DEnv → Prop, (∀ δ', N δ' → ∃ m', m' < m ∧ W m' δ') ∧ tb { D with nx := N, ct := N, bk := D.nx } δ1) (D.nx δ1)
theorem s_while {tc : DTT} {tb : DTS} (hp : PassesOwn (model X.prog X.w) X.A X.env X.xe) (hc : DT X c tc) (hb : DSs X body tb) : DS X (.While c body [] pos) (dWhile tc tb) := ⟨fun F B H σ δ D R h => ps_ws (ps_while hp wt_pt wss_pss) (by
    obtain ⟨W, ⟨m0, w0⟩, turn⟩ := h
    refine ⟨fun m σ2 H2 => ∃ B2 δ2, Same B B2 ∧ RE X.K F B2 H2 σ2 δ2 ∧ W m δ2, ⟨m0, B, δ, Same.refl B, R, w0⟩, ?_⟩
    rintro m σ2 H2 ⟨B2, δ2, s2, R2, w2⟩
    refine (hc.run F B2 H2 σ2 δ2 _ R2 (turn m δ2 w2)).imp fun k H3 ⟨B3, δ3, s3, R3, q3⟩ => ?_
    cases k with
    | true =>
      rw [if_pos rfl]
      obtain ⟨N, hN, q3⟩ := q3
      refine ⟨fun σ4 H4 => ∃ B4 δ4, Same B B4 ∧ RE X.K F B4 H4 σ4 δ4 ∧ N δ4, fun σ4 H4 ⟨B4, δ4, s4, R4, q4⟩ => ?_, ?_⟩
      · obtain ⟨m', hm, w4⟩ := hN δ4 q4
        exact ⟨m', hm, B4, δ4, s4, R4, w4⟩
      · have sm : Same B B3 := s2.trans s3
        exact (hb.run F B3 H3 σ2 δ3 _ R3 q3).imp (fun σ5 H5 ⟨B5, δ5, s5, R5, q5⟩ => ⟨B5, δ5, sm.trans s5, R5, q5⟩) (fun v5 H5 ⟨B5, σ5, δ5, c5, s5, R5, r5, q5⟩ => ⟨B5, σ5, δ5, c5, sm.trans s5, R5, r5, q5⟩)
          (fun σ5 H5 ⟨B5, δ5, s5, R5, q5⟩ => ⟨B5, δ5, sm.trans s5, R5, q5⟩) (fun σ5 H5 ⟨B5, δ5, s5, R5, q5⟩ => ⟨B5, δ5, sm.trans s5, R5, q5⟩)
    | false =>
      rw [if_neg Bool.false_ne_true]
      exact ⟨B3, δ3, s2.trans s3, R3, q3⟩)⟩
end
end DL

namespace DL
open PySem L2

section
variable {X : Cx} {a b c e tg iter : Expr} {es : List Expr} {pos p : Pos} {st : Stmt} {rest body orelse : List Stmt}
/-! ### iterables -/
def srcs : C → List C
  | .fz _ => []
  | c => [c]
theorem srcs_live {c : C} {δ : DEnv} (h : lives (srcs c) δ) : live c δ := by
  cases c with
  | fz d => trivial
  | own p ds => exact h.1
def kLst (Q : List C → List D → DEnv → Prop) (c : C) (δ1 : DEnv) : Prop := match c.d with
  | .lst ds => Q (srcs c) ds δ1
  | _ => False
def dIt (te : DTE) : DTI := fun δ Q => te δ (kLst Q)
theorem item_list {K : PySem.W.Frag} {F B H : Hp} {σ : St} {δ : DEnv} {c : C} {ds : List D} {a : Addr} (R : RE K F B H σ δ) (r : RC0 K B (.ref a) c) (l : live c δ) (e : c.d = .lst ds) : ∃ xs, H a = some (.lst xs) ∧ RpL K B xs ds := by
  have w := R.live0 r l
  rw [e] at w
  obtain ⟨p, xs, h1, h2, h3⟩ := w.lst R.sB
  cases h1
  exact ⟨xs, h2, h3⟩
theorem SqL.inj_tr {K : PySem.W.Frag} {H : Hp} {a : Addr} {xs ys : List V} (h : H a = some (.lst xs)) (hx : SqL K H a ys) (nk : K.lookup a = none) : xs = ys := by
  rcases hx with (hx | ⟨o, hx⟩) | ⟨o, its, n, hk, _⟩
  · rw [h] at hx
    cases hx
    rfl
  · rw [h] at hx
    cases hx
  · rw [nk] at hk
    cases hk
theorem i_list {te : DTE} (he : DE X e te) : DI X tg e (dIt te) := ⟨fun F B H σ δ Q R q => pi_wi (pi_list we_pe) (by
  refine (he.run F B H σ δ _ R q).imp fun v H1 ⟨B1, δ1, c1, s1, R1, r1, h1⟩ => ?_
  unfold kLst at h1
  split at h1
  case h_2 => exact h1.elim
  case h_1 ds hd =>
  have w := r1.now
  rw [hd] at w
  obtain ⟨a, xs, rfl, h2, h3⟩ := w.lst R1.sB
  refine ⟨a, rfl, ⟨xs, SqL.of h2⟩, B1, δ1, srcs c1, ds, s1, R1, fun i F' B2 H2 σ2 δ2 hF sB R2 lv => ?_, h1⟩
  obtain ⟨ys, g1, g2⟩ := item_list R2 (r1.c0.up sB) (srcs_live lv) hd
  refine ⟨fun d hdi => ?_, fun hn => ⟨ys, SqL.of g1, ?_⟩⟩
  · obtain ⟨y, hy, ry⟩ := g2.get hdi
    refine ⟨⟨ys, y, SqL.of g1, hy⟩, fun x H' ⟨e1, e2⟩ => ?_⟩
    subst e1
    have := e2 ys (SqL.of g1)
    rw [hy] at this
    cases this
    exact ⟨B2, Same.refl B2, R2, ry⟩
  · rw [g2.length]
    exact List.getElem?_eq_none_iff.mp hn)⟩
def kTup (Q : List C → List D → DEnv → Prop) (c : C) (δ1 : DEnv) : Prop := match c with
  | .fz (.tup ds) => Q [] ds δ1
  | _ => False
def dItT (te : DTE) : DTI := fun δ Q => te δ (kTup Q)
theorem i_tup {te : DTE} (he : DE X e te) : DI X tg e (dItT te) := ⟨fun F B H σ δ Q R q => pi_wi (pi_tup we_pe) (by
  refine (he.run F B H σ δ _ R q).imp fun v H1 ⟨B1, δ1, c1, s1, R1, r1, h1⟩ => ?_
  unfold kTup at h1
  split at h1
  case h_2 => exact h1.elim
  case h_1 ds =>
  cases r1 with
  | @tup a xs _ h2 h3 =>
  refine ⟨a, rfl, ⟨xs, same_t R1.sB h2⟩, B1, δ1, [], ds, s1, R1, fun i F' B2 H2 σ2 δ2 hF sB R2 lv => ?_, h1⟩
  have g1 : SqT X.K H2 a xs := same_t (sB.trans R2.sB) h2
  have g2 := h3.up sB
  refine ⟨fun d hdi => ?_, fun hn => ⟨xs, g1, ?_⟩⟩
  · obtain ⟨y, hy, ry⟩ := g2.get hdi
    refine ⟨⟨xs, y, g1, hy⟩, fun x H' ⟨e1, e2⟩ => ?_⟩
    subst e1
    have := e2 xs g1
    rw [hy] at this
    cases this
    exact ⟨B2, Same.refl B2, R2, ry⟩
  · rw [g2.length]
    exact List.getElem?_eq_none_iff.mp hn)⟩
def signs (x : Str) : List D := x.cps.toList.map fun c => .str ⟨#[c]⟩
def kStr (Q : List C → List D → DEnv → Prop) (c : C) (δ1 : DEnv) : Prop := match c with
  | .fz (.str x) => Q [] (signs x) δ1
  | _ => False
def dItS (te : DTE) : DTI := fun δ Q => te δ (kStr Q)
theorem i_str {te : DTE} (he : DE X e te) : DI X tg e (dItS te) := ⟨fun F B H σ δ Q R q => pi_wi (pi_str we_pe) (by
  refine (he.run F B H σ δ _ R q).imp fun v H1 ⟨B1, δ1, c1, s1, R1, r1, h1⟩ => ?_
  unfold kStr at h1
  split at h1
  case h_2 => exact h1.elim
  case h_1 x =>
  cases r1
  refine ⟨x, rfl, B1, δ1, [], signs x, s1, R1, fun i F' B2 H2 σ2 δ2 hF sB R2 lv => ⟨fun d hdi => ?_, fun hn => ?_⟩, h1⟩
  · unfold signs at hdi
    rw [List.getElem?_map] at hdi
    cases hc : x.cps.toList[i]? with
    | none =>
      rw [hc] at hdi
      cases hdi
    | some cc =>
      rw [hc] at hdi
      have hlt := (List.getElem?_eq_some_iff.mp hc).1
      refine ⟨show i < x.cps.size by simpa using hlt, fun y H' ⟨e1, c2, e2, e3⟩ => ?_⟩
      subst e1 e3
      have : x.cps[i]? = some cc := by simpa using hc
      rw [this] at e2
      cases e2
      cases hdi
      exact ⟨B2, Same.refl B2, R2, Rp.str _⟩
  · unfold signs at hn
    have := List.getElem?_eq_none_iff.mp hn
    show x.cps.size ≤ i
    simpa using this)⟩
def rngD (lo : Int) (n : Nat) : List D := (List.range n).map fun k : Nat => .int (lo + (k : Int))
def rngC (lo c : Int) (n : Nat) : List D := (List.range n).map fun k : Nat => .int (lo + (k : Int) * c)
def kR1 (Q : List C → List D → DEnv → Prop) (cs : List C) (δ1 : DEnv) : Prop := match cs with
  | [.fz (.int n)] => (-(2 ^ 62) ≤ n ∧ n < 2 ^ 62) ∧ Q [] (rngD 0 n.toNat) δ1
  | _ => False
def kR2 (Q : List C → List D → DEnv → Prop) (cs : List C) (δ1 : DEnv) : Prop := match cs with
  | [.fz (.int a), .fz (.int n)] => (-(2 ^ 62) ≤ a ∧ a < 2 ^ 62 ∧ -(2 ^ 62) ≤ n ∧ n < 2 ^ 62) ∧ Q [] (rngD a (n - a).toNat) δ1
  | _ => False
def kR3 (Q : List C → List D → DEnv → Prop) (cs : List C) (δ1 : DEnv) : Prop := match cs with
  | [.fz (.int a), .fz (.int b), .fz (.int c)] => ∃ n, RgC a b c n ∧ Q [] (rngC a c n) δ1
  | _ => False
theorem itr_ok {K : PySem.W.Frag} {F B0 : Hp} {lo : Int} {n : Nat} : ItOk K F B0 (Itr lo n) [] (rngD lo n) := fun i F' B2 H2 σ2 δ2 hF sB R2 lv => by
  unfold rngD
  refine ⟨fun d hdi => ?_, fun hn => ?_⟩
  · rw [List.getElem?_map] at hdi
    by_cases hi : i < n
    · rw [List.getElem?_range hi] at hdi
      cases hdi
      refine ⟨hi, fun x H' ⟨e1, e2⟩ => ?_⟩
      subst e1 e2
      exact ⟨B2, Same.refl B2, R2, Rp.int _⟩
    · rw [List.getElem?_eq_none (by simpa using hi)] at hdi
      cases hdi
  · have := List.getElem?_eq_none_iff.mp hn
    show n ≤ i
    simpa using this
theorem itc_ok {K : PySem.W.Frag} {F B0 : Hp} {lo c : Int} {n : Nat} : ItOk K F B0 (Itc lo c n) [] (rngC lo c n) := fun i F' B2 H2 σ2 δ2 hF sB R2 lv => by
  unfold rngC
  refine ⟨fun d hdi => ?_, fun hn => ?_⟩
  · rw [List.getElem?_map] at hdi
    by_cases hi : i < n
    · rw [List.getElem?_range hi] at hdi
      cases hdi
      refine ⟨hi, fun x H' ⟨e1, e2⟩ => ?_⟩
      subst e1 e2
      exact ⟨B2, Same.refl B2, R2, Rp.int _⟩
    · rw [List.getElem?_eq_none (by simpa using hi)] at hdi
      cases hdi
  · have := List.getElem?_eq_none_iff.mp hn
    show n ≤ i
    simpa using this
def dRng1 (t : DTA) : DTI := fun δ Q => t δ (kR1 Q)
theorem i_rng1 {t : DTA} (hm : X.mg "range" = none) (ha : DA X [a] t) (hg : Gl X "range" := by rfl) (hs : starEach [a] X.env = [(false, eval a X.env)] := by rfl) : DI X tg (.Call (.Name "range" p) [a] [] pos) (dRng1 t) := ⟨fun F B H σ δ Q R q => pi_wi (pi_range1 hg hm wa_pa hs) (by
  refine (ha.run F B H σ δ _ R q).imp fun vs H1 ⟨B1, δ1, cs, _, s1, R1, r1, l1, h1⟩ => ?_
  unfold kR1 at h1
  split at h1
  case h_2 => exact h1.elim
  case h_1 n =>
  cases r1 with
  | cons r1 r2 =>
  cases r1
  cases r2
  exact ⟨n, rfl, h1.1.1, h1.1.2, B1, δ1, [], _, s1, R1, itr_ok, h1.2⟩)⟩
def dRng2 (t : DTA) : DTI := fun δ Q => t δ (kR2 Q)
theorem i_rng2 {t : DTA} (hm : X.mg "range" = none) (ha : DA X [a, b] t) (hg : Gl X "range" := by rfl) (hs : starEach [a, b] X.env = [(false, eval a X.env), (false, eval b X.env)] := by rfl) (hs2 : starEach [b] X.env = [(false, eval b X.env)] := by rfl) : DI X tg (.Call (.Name "range" p) [a, b] [] pos) (dRng2 t) := ⟨fun F B H σ δ Q R q => pi_wi (pi_range2 hg hm wa_pa hs hs2) (by
  refine (ha.run F B H σ δ _ R q).imp fun vs H1 ⟨B1, δ1, cs, _, s1, R1, r1, l1, h1⟩ => ?_
  unfold kR2 at h1
  split at h1
  case h_2 => exact h1.elim
  case h_1 a n =>
  cases r1 with
  | cons r1 r2 =>
  cases r1
  cases r2 with
  | cons r2 r3 =>
  cases r2
  cases r3
  exact ⟨a, n, rfl, h1.1, B1, δ1, [], _, s1, R1, itr_ok, h1.2⟩)⟩
def dRng3 (t : DTA) : DTI := fun δ Q => t δ (kR3 Q)
theorem i_rng3 {t : DTA} (hm : X.mg "range" = none) (ha : DA X [a, b, c] t) (hg : Gl X "range" := by rfl) (hs : starEach [a, b, c] X.env = (false, eval a X.env) :: starEach [b, c] X.env := by rfl) (hpl : (backTo pos (starEach [b, c] X.env)).any (·.1) = false := by rfl) : DI X tg (.Call (.Name "range" p) [a, b, c] [] pos) (dRng3 t) := ⟨fun F B H σ δ Q R q => pi_wi (pi_range3 hg hm wa_pa hs hpl) (by
  refine (ha.run F B H σ δ _ R q).imp fun vs H1 ⟨B1, δ1, cs, _, s1, R1, r1, l1, h1⟩ => ?_
  unfold kR3 at h1
  split at h1
  case h_2 => exact h1.elim
  case h_1 a b c =>
  obtain ⟨n, hn, h1⟩ := h1
  cases r1 with
  | cons r1 r2 =>
  cases r1
  cases r2 with
  | cons r2 r3 =>
  cases r2
  cases r3 with
  | cons r3 r4 =>
  cases r3
  cases r4
  exact ⟨a, b, c, n, rfl, hn, B1, δ1, [], _, s1, R1, itc_ok, h1⟩)⟩
def enumD : Nat → List D → List D
  | _, [] => []
  | k, d :: ds => .tup [.int (k : Int), d] :: enumD (k + 1) ds
theorem enumD_get : ∀ (ds : List D) (k i : Nat), (enumD k ds)[i]? = (ds[i]?).map fun d => .tup [.int ((k + i : Nat) : Int), d]
  | [], k, i => by simp [enumD]
  | d :: ds, k, 0 => by simp [enumD]
  | d :: ds, k, i + 1 => by
    show (enumD (k + 1) ds)[i]? = _
    rw [enumD_get ds (k + 1) i]
    simp only [List.getElem?_cons_succ]
    rw [show k + 1 + i = k + (i + 1) by omega]
def kEnum (Q : List C → List D → DEnv → Prop) (cs : List C) (δ1 : DEnv) : Prop := match cs with
  | [c] => kLst (fun s ds δ => Q s (enumD 0 ds) δ) c δ1
  | _ => False
def dEnum (t : DTA) : DTI := fun δ Q => t δ (kEnum Q)
theorem i_enum {t : DTA} {elts : List Expr} {kk : Nat} {tpos : Pos} (hm : X.mg "enumerate" = none) (ha : DA X [a] t) (hg : Gl X "enumerate" := by rfl) (hs : starEach [a] X.env = [(false, eval a X.env)] := by rfl) : DI X (.Tuple elts kk tpos) (.Call (.Name "enumerate" p) [a] [] pos) (dEnum t) := ⟨fun F B H σ δ Q R q => pi_wi (pi_enum hg hm wa_pa hs) (by
  refine (ha.run F B H σ δ _ R q).imp fun vs H1 ⟨B1, δ1, cs, _, s1, R1, r1, l1, h1⟩ => ?_
  unfold kEnum at h1
  split at h1
  case h_2 => exact h1.elim
  case h_1 c1 =>
  unfold kLst at h1
  split at h1
  case h_2 => exact h1.elim
  case h_1 ds hd =>
  cases r1 with
  | cons r1 r2 =>
  cases r2
  have w := R1.live0 r1 l1.1
  rw [hd] at w
  obtain ⟨a, xs, rfl, h2, h3⟩ := w.lst R1.sB
  refine ⟨a, xs, rfl, SqL.of h2, B1, δ1, srcs c1, _, s1, R1, fun i F' B2 H2 σ2 δ2 hF sB R2 lv => ?_, h1⟩
  obtain ⟨ys, g1, g2⟩ := item_list R2 (r1.up sB) (srcs_live lv) hd
  refine ⟨fun d hdi => ?_, fun hn => ⟨ys, SqL.of g1, ?_⟩⟩
  · rw [enumD_get] at hdi
    cases hc : ds[i]? with
    | none =>
      rw [hc] at hdi
      cases hdi
    | some d0 =>
    rw [hc] at hdi
    cases hdi
    obtain ⟨y, hy, ry⟩ := g2.get hc
    refine ⟨⟨ys, y, SqL.of g1, hy⟩, fun x H' ⟨T, x2, e0, hT, e1, e2⟩ => ?_⟩
    subst e0 e1
    have := e2 ys (SqL.of g1)
    rw [hy] at this
    cases this
    have sm := same_new (o := HO.tup [.int ((i : Nat) : Int), y]) (R2.sB.free hT)
    refine ⟨_, sm, R2.alloc hT, .tup (SqT.of upd_same) (.cons ?_ (.one (ry.up sm)))⟩
    rw [Nat.zero_add]
    exact Rp.int _
  · rw [enumD_get] at hn
    rw [g2.length]
    refine List.getElem?_eq_none_iff.mp ?_
    cases hc : ds[i]? with
    | none => rfl
    | some d0 =>
      rw [hc] at hn
      cases hn)⟩
def zipD (xs ys : List D) : List D := List.zipWith (fun a b => .tup [a, b]) xs ys
def kZip (Q : List C → List D → DEnv → Prop) (cs : List C) (δ1 : DEnv) : Prop := match cs with
  | [c, c'] => kLst (fun s ds δ => kLst (fun s' ds' δ => Q (s ++ s') (zipD ds ds') δ) c' δ) c δ1
  | _ => False
def dZip (t : DTA) : DTI := fun δ Q => t δ (kZip Q)
theorem lives_app {δ : DEnv} : ∀ {cs es : List C}, lives (cs ++ es) δ → lives cs δ ∧ lives es δ
  | [], _, h => ⟨trivial, h⟩
  | c :: cs, es, h => ⟨⟨h.1, (lives_app h.2).1⟩, (lives_app h.2).2⟩
theorem i_zip {t : DTA} {elts : List Expr} {kk : Nat} {tpos : Pos} (hm : X.mg "zip" = none) (ha : DA X [a, b] t) (hg : Gl X "zip" := by rfl) (hs : starEach [a, b] X.env = (false, eval a X.env) :: starEach [b] X.env := by rfl) (hpl : (backTo pos (starEach [b] X.env)).any (·.1) = false := by rfl) : DI X (.Tuple elts kk tpos) (.Call (.Name "zip" p) [a, b] [] pos) (dZip t) := ⟨fun F B H σ δ Q R q => pi_wi (pi_zip hg hm wa_pa hs hpl) (by
  refine (ha.run F B H σ δ _ R q).imp fun vs H1 ⟨B1, δ1, cs, _, s1, R1, r1, l1, h1⟩ => ?_
  unfold kZip at h1
  split at h1
  case h_2 => exact h1.elim
  case h_1 c1 c2 =>
  unfold kLst at h1
  split at h1
  case h_2 => exact h1.elim
  case h_1 ds hd =>
  split at h1
  case h_2 => exact h1.elim
  case h_1 ds' hd' =>
  cases r1 with
  | cons r1 r2 =>
  cases r2 with
  | cons r2 r3 =>
  cases r3
  have w := R1.live0 r1 l1.1
  rw [hd] at w
  obtain ⟨a, xs, rfl, h2, h3⟩ := w.lst R1.sB
  have w' := R1.live0 r2 l1.2.1
  rw [hd'] at w'
  obtain ⟨a', xs', rfl, h2', h3'⟩ := w'.lst R1.sB
  refine ⟨a, a', xs, xs', rfl, SqL.of h2, SqL.of h2', B1, δ1, srcs c1 ++ srcs c2, _, s1, R1, fun i F' B2 H2 σ2 δ2 hF sB R2 lv => ?_, h1⟩
  obtain ⟨ys, g1, g2⟩ := item_list R2 (r1.up sB) (srcs_live (lives_app lv).1) hd
  obtain ⟨ys', g1', g2'⟩ := item_list R2 (r2.up sB) (srcs_live (lives_app lv).2) hd'
  unfold zipD
  rw [List.getElem?_zipWith]
  refine ⟨fun d hdi => ?_, fun hn => ⟨ys, ys', SqL.of g1, SqL.of g1', ?_⟩⟩
  · cases hc : ds[i]? with
    | none =>
      rw [hc] at hdi
      cases hdi
    | some d0 =>
    cases hc' : ds'[i]? with
    | none =>
      rw [hc, hc'] at hdi
      cases hdi
    | some d1 =>
    rw [hc, hc'] at hdi
    cases hdi
    obtain ⟨y, hy, ry⟩ := g2.get hc
    obtain ⟨y', hy', ry'⟩ := g2'.get hc'
    refine ⟨⟨ys, ys', y, y', SqL.of g1, SqL.of g1', hy, hy'⟩, fun x H' ⟨T, x2, x3, e0, hT, e1, e2, e3⟩ => ?_⟩
    subst e0 e1
    have := e2 ys (SqL.of g1)
    rw [hy] at this
    cases this
    have := e3 ys' (SqL.of g1')
    rw [hy'] at this
    cases this
    have sm := same_new (o := HO.tup [y, y']) (R2.sB.free hT)
    exact ⟨_, sm, R2.alloc hT, .tup (SqT.of upd_same) (.cons (ry.up sm) (.one (ry'.up sm)))⟩
  · rw [g2.length, g2'.length]
    cases hc : ds[i]? with
    | none => exact .inl (List.getElem?_eq_none_iff.mp hc)
    | some d0 =>
    cases hc' : ds'[i]? with
    | none => exact .inr (List.getElem?_eq_none_iff.mp hc')
    | some d1 =>
      rw [hc, hc'] at hn
      cases hn)⟩
end
end DL

namespace DL
open PySem L2

def wipeD (δ : DEnv) : List Nat → DEnv
  | [] => δ
  | v :: vs => (wipeD δ vs).set v none
theorem wipeD_length (δ : DEnv) : ∀ vs : List Nat, (wipeD δ vs).length = δ.length
  | [] => rfl
  | v :: vs => by unfold wipeD; rw [List.length_set, wipeD_length δ vs]
theorem wipeD_some {δ : DEnv} {i : Nat} {x : C} : ∀ {vs : List Nat}, (wipeD δ vs)[i]? = some (some x) → δ[i]? = some (some x) ∧ i ∉ vs
  | [], h => ⟨h, by simp⟩
  | v :: vs, h => by
    unfold wipeD at h
    by_cases hi : v = i
    · subst hi
      by_cases hv : v < (wipeD δ vs).length
      · rw [List.getElem?_set_self hv] at h; cases h
      · rw [List.getElem?_eq_none (by simpa using hv)] at h; cases h
    · rw [List.getElem?_set_ne hi] at h
      obtain ⟨h1, h2⟩ := wipeD_some h
      exact ⟨h1, by simp only [List.mem_cons, not_or]; exact ⟨fun e => hi e.symm, h2⟩⟩
theorem wipe_in {σ : St} {i : Nat} (hl : i < σ.length) : ∀ {vs : List Nat}, i ∈ vs → (wipe σ vs)[i]? = some none
  | v :: vs, h => by
    unfold wipe
    by_cases hi : v = i
    · subst hi
      exact List.getElem?_set_self (by rw [wipe_length]; exact hl)
    · rw [List.getElem?_set_ne hi]
      rcases List.mem_cons.mp h with z | z
      · exact absurd z.symm hi
      · exact wipe_in hl z
theorem wipe_eq {σ σ2 : St} {vs : List Nat} (hl : σ2.length = σ.length) (h : ∀ j, j ∉ vs → σ2[j]? = (wipe σ vs)[j]?) : wipe σ2 vs = wipe σ vs := by
  apply List.ext_getElem?
  intro j
  by_cases hj : j ∈ vs
  · by_cases hlt : j < σ.length
    · rw [wipe_in (by omega) hj, wipe_in hlt hj]
    · rw [List.getElem?_eq_none (by rw [wipe_length]; omega), List.getElem?_eq_none (by rw [wipe_length]; omega)]
  · rw [wipe_out hj, h j hj]
section
variable {K : PySem.W.Frag} {F B H : Hp} {σ σ2 : St} {δ : DEnv}
theorem RE.wiped (R : RE K F B H σ δ) (vs : List Nat) : RE K F B H (wipe σ vs) (wipeD δ vs) :=
  R.weak (by rw [wipe_length, wipeD_length, R.len]) fun i c h => ⟨(wipeD_some h).1, wipe_out (wipeD_some h).2⟩
theorem RE.rewipe {vs : List Nat} (R : RE K F B H σ2 δ) (e : wipe σ2 vs = wipe σ vs) : RE K F B H (wipe σ vs) (wipeD δ vs) := by
  rw [← e]
  exact R.wiped vs
theorem RE.unwipe {vs : List Nat} (R : RE K F B H (wipe σ vs) (wipeD δ vs)) : RE K F B H σ (wipeD δ vs) :=
  R.weak (by rw [← R.len, wipe_length]) fun i c h => ⟨h, (wipe_out (wipeD_some h).2).symm⟩
theorem RE.addF (R : RE K F B H σ δ) {L : Addr} {o : HO} (hB : B L = none) (hF : F L = none) (hH : H L = some o) (hn : ∀ (j : Nat) (es : List D), δ[j]? ≠ some (some (C.own L es))) : RE K (upd F L o) B H σ δ where
  sB := R.sB
  sF := fun b u e => by
    by_cases hb : b = L
    · subst hb
      rw [upd_same] at e
      rw [hH, e]
    · rw [upd_ne hb] at e
      exact R.sF _ _ e
  dj := fun a u e => by
    have ne : a ≠ L := fun z => by
      subst z
      rw [hB] at e
      cases e
    rw [upd_ne ne]
    exact R.dj a u e
  len := R.len
  fz := R.fz
  own := fun i q ds e => by
    obtain ⟨h1, h2, h3, h4⟩ := R.own i q ds e
    have ne : q ≠ L := fun z => by
      subst z
      exact hn i ds e
    exact ⟨h1, h2, by rw [upd_ne ne]; exact h3, h4⟩
  sep := R.sep
theorem RE.dropF {L : Addr} {o : HO} (hF : F L = none) (R : RE K (upd F L o) B H σ δ) : RE K F B H σ δ ∧ B L = none ∧ H L = some o ∧ (∀ (j : Nat) (es : List D), δ[j]? ≠ some (some (C.own L es))) := by
  have bl : B L = none := by
    cases e : B L with
    | none => rfl
    | some u =>
      have := R.dj L u e
      rw [upd_same] at this
      cases this
  have no : ∀ (i : Nat) (es : List D), δ[i]? ≠ some (some (C.own L es)) := fun i es e => by
    obtain ⟨_, _, h3, _⟩ := R.own i L es e
    rw [upd_same] at h3
    cases h3
  refine ⟨⟨R.sB, fun b u e => ?_, fun a u e => ?_, R.len, R.fz, fun i q ds e => ?_, R.sep⟩, bl, R.sF L o upd_same, no⟩
  · have ne : b ≠ L := fun z => by
      subst z
      rw [hF] at e
      cases e
    exact R.sF b u (by rw [upd_ne ne]; exact e)
  · have ne : a ≠ L := fun z => by
      subst z
      rw [bl] at e
      cases e
    have := R.dj a u e
    rw [upd_ne ne] at this
    exact this
  · obtain ⟨h1, h2, h3, h4⟩ := R.own i q ds e
    have ne : q ≠ L := fun z => by
      subst z
      exact no i ds e
    rw [upd_ne ne] at h3
    exact ⟨h1, h2, h3, h4⟩
theorem RE.writeN (R : RE K F B H σ δ) {L : Addr} {o : HO} (hB : B L = none) (hF : F L = none) (hn : ∀ (j : Nat) (es : List D), δ[j]? ≠ some (some (C.own L es))) : RE K F B (upd H L o) σ δ where
  sB := same_upd R.sB hB
  sF := same_upd R.sF hF
  dj := R.dj
  len := R.len
  fz := R.fz
  own := fun i q ds e => by
    obtain ⟨h1, h2, h3, xs, h4, h5⟩ := R.own i q ds e
    have ne : q ≠ L := fun z => by
      subst z
      exact hn i ds e
    exact ⟨h1, h2, h3, xs, by rw [upd_ne ne]; exact h4, h5⟩
  sep := R.sep
end

def fzo : Option (Option C) → Option C
  | some (some (.fz d)) => some (.fz d)
  | _ => none
/-- the block's own names as they stood ahead of it -/
def backD (δ1 : DEnv) : List Nat → DEnv → DEnv
  | [], δ => δ
  | v :: vs, δ => (backD δ1 vs δ).set v (fzo δ1[v]?)
theorem RE.putF {K : PySem.W.Frag} {F B H : Hp} {σ : St} {δ : DEnv} (R : RE K F B H σ δ) {i : Nat} {v : V} {d : D} (hs : σ[i]? = some (some v)) (h : Rp K B v d) : RE K F B H σ (δ.set i (some (.fz d))) := by
  have e : σ.set i (some v) = σ := by
    apply List.ext_getElem?
    intro j
    by_cases hj : i = j
    · subst hj
      rw [List.getElem?_set_self (List.getElem?_eq_some_iff.mp hs).1, hs]
    · rw [List.getElem?_set_ne hj]
  have := R.setF (i := i) h
  rw [e] at this
  exact this
theorem RE.back {K : PySem.W.Frag} {F B1 H1 B H : Hp} {σ : St} {δ1 δ : DEnv} (R1 : RE K F B1 H1 σ δ1) (s : Same B1 B) (R : RE K F B H σ δ) : ∀ vs : List Nat, RE K F B H σ (backD δ1 vs δ)
  | [] => R
  | v :: vs => by
    have ih := RE.back R1 s R vs
    show RE K F B H σ ((backD δ1 vs δ).set v (fzo δ1[v]?))
    unfold fzo
    split
    case h_1 d hd =>
      obtain ⟨u, h1, h2⟩ := R1.fz v d hd
      exact ih.putF h1 (h2.up s)
    case h_2 => exact ih.clear v
section
variable {X : Cx} {elt tg iter : Expr} {ifs : List Expr} {scope : Scope} {pos spos : Pos}
def WTs (X : Cx) (ifs : List Expr) (σ : St) (H : Hp) (Q : Bool → Hp → Prop) : Prop := ∀ (pins : List (Addr × Obj)) (s : Shared), Inv X pins σ H s → wpAny (model X.prog X.w) X.A (forIn ifs true fun c r => if r = true then do let ok ← isTrue c X.env (eval c X.env); pure (ForInStep.yield ok) else pure (ForInStep.yield r)) (TP X pins σ Q) X.xe s
theorem wts_pts : PTs X ifs (WTs X ifs) := ⟨fun pins s _ _ _ I h => h pins s I⟩
theorem pts_wts {t : TT} {σ : St} {H : Hp} {Q : Bool → Hp → Prop} (h : PTs X ifs t) (q : t σ H Q) : WTs X ifs σ H Q := fun pins s I => h.run pins s σ H Q I q
theorem WTs.imp {σ : St} {H : Hp} {Q Q' : Bool → Hp → Prop} (h : WTs X ifs σ H Q) (k : ∀ v H', Q v H' → Q' v H') : WTs X ifs σ H Q' := fun pins s I => thn (h pins s I) fun b _ ⟨H', I', q⟩ => ⟨H', I', k b H' q⟩
structure DTs (X : Cx) (ifs : List Expr) (t : DTT) : Prop where
  run : ∀ (F B H : Hp) (σ : St) (δ : DEnv) (Q : Bool → DEnv → Prop), RE X.K F B H σ δ → t δ Q → WTs X ifs σ H (QT X.K F B σ Q)
def dYes : DTT := fun δ Q => Q true δ
theorem ts_nil : DTs X [] dYes := ⟨fun F B H σ δ Q R h => pts_wts pts_nil ⟨B, δ, Same.refl B, R, h⟩⟩
theorem ts_one {c : Expr} {t : DTT} (h : DT X c t) : DTs X [c] t := ⟨fun F B H σ δ Q R q => pts_wts (pts_one wt_pt) (h.run F B H σ δ Q R q)⟩
def lcD0 (src : List C) (g : DTG) (tt : DTT) (te : DTE) (vs : List Nat) : List D → List D → DEnv → (List D → DEnv → Prop) → Prop
  | [], acc, δ, Q => lvs src δ (Q acc δ)
  | d :: ds, acc, δ, Q => lvs src δ (g d δ fun δ2 => tt δ2 fun b δ3 => kIf b (te δ3 (kFzD fun x δ4 => lcD0 src g tt te vs ds (acc ++ [x]) (wipeD δ4 vs) Q)) (lcD0 src g tt te vs ds acc (wipeD δ3 vs) Q))
@[irreducible] def lcD (src : List C) (g : DTG) (tt : DTT) (te : DTE) (vs : List Nat) (ds acc : List D) (δ : DEnv) (Q : List D → DEnv → Prop) : Prop := lcD0 src g tt te vs ds acc δ Q
theorem lc_eq {src : List C} {g : DTG} {tt : DTT} {te : DTE} {vs : List Nat} {ds : List D} : lcD src g tt te vs ds = lcD0 src g tt te vs ds := by
  funext acc δ Q
  unfold lcD
  rfl
theorem lc_nil {src : List C} {g : DTG} {tt : DTT} {te : DTE} {vs : List Nat} {acc : List D} {δ : DEnv} {Q : List D → DEnv → Prop} : lcD src g tt te vs [] acc δ Q = lvs src δ (Q acc δ) := by
  rw [lc_eq]
  rfl
theorem lc_cons {src : List C} {g : DTG} {tt : DTT} {te : DTE} {vs : List Nat} {d : D} {ds acc : List D} {δ : DEnv} {Q : List D → DEnv → Prop} : lcD src g tt te vs (d :: ds) acc δ Q = lvs src δ (g d δ fun δ2 => tt δ2 fun b δ3 => kIf b (te δ3 (kFzD fun x δ4 => lcD src g tt te vs ds (acc ++ [x]) (wipeD δ4 vs) Q)) (lcD src g tt te vs ds acc (wipeD δ3 vs) Q)) := by
  rw [lc_eq, lc_eq]
  rfl
def dLc (ti : DTI) (g : DTG) (tt : DTT) (te : DTE) (vs : List Nat) : DTN := fun δ Q => ti δ fun src ds δ1 => ds.length ≤ sizeLine ∧ lcD src g tt te vs ds [] (wipeD δ1 vs) fun acc δ2 => Q acc (backD δ1 vs δ2)
variable {own : List (Str × Nat)}
theorem lc_D {ti : DTI} {g : DTG} {is : List Nat} {tt : DTT} {te : DTE} (hi : DI X tg iter ti)
    (hg : ∀ (s : Shared) (H : Hp) (C : Addr) (cl : List (Str × Addr)) (fp : List Addr), DG (X.blk s H scope (compEnvC scope cl C X.env) fp) tg g is) (hsub : ∀ i ∈ is, i ∈ own.map (·.2))
    (ht : ∀ (s : Shared) (H : Hp) (C : Addr) (cl : List (Str × Addr)) (fp : List Addr), DTs (X.blk s H scope (compEnvC scope cl C X.env) fp) ifs tt)
    (he : ∀ (s : Shared) (H : Hp) (C : Addr) (cl : List (Str × Addr)) (fp : List Addr), DE (X.blk s H scope (compEnvC scope cl C X.env) fp) elt te)
    {F B H : Hp} {σ : St} {δ : DEnv} {Q : List D → DEnv → Prop} {Qe : VK} (R : RE X.K F B H σ δ) (h : dLc ti g tt te (own.map (·.2)) δ Q) (k : ∀ v H', QN X.K F B σ Q v H' → Qe v H') :
    tLc (WI X tg iter) (fun v σ H Q => ∀ s H0 C cl fp, WG (X.blk s H0 scope (compEnvC scope cl C X.env) fp) tg v σ H Q)
      (fun σ H Q => ∀ s H0 C cl fp, WTs (X.blk s H0 scope (compEnvC scope cl C X.env) fp) ifs σ H Q)
      (fun σ H Q => ∀ s H0 C cl fp, WE (X.blk s H0 scope (compEnvC scope cl C X.env) fp) elt σ H Q) (own.map (·.2)) σ H Qe := by
  refine fun pins s I => thn (hi.run F B H σ δ _ R h pins s I) fun v s1 h1 => thn h1 fun itv s2 ⟨it, fp, tn, J, H', e, I', T, st2, f2, B1, δ1, src, ds, s1', R1, ok, hz, q⟩ => ?_
  refine ⟨it, fp, tn, J, H', e, I', T, st2, f2, fun L hL => ?_⟩
  have hFL : F L = none := R1.sF.free hL
  generalize hQ : (fun acc δ2 => Q acc (backD δ1 (own.map (·.2)) δ2)) = Q' at q
  have hF' : ∀ (o : HO) a u, F a = some u → upd F L o a = some u := fun o a u e => by
    rw [upd_ne (fun z => by subst z; rw [hFL] at e; cases e)]
    exact e
  refine ⟨fun i m H2 => m = ds.length - i ∧ ∃ B2 δ2 acc xs, Same B1 B2 ∧ RE X.K (upd F L (.lst xs)) B2 H2 (wipe σ (own.map (·.2))) (wipeD δ2 (own.map (·.2))) ∧ RpL X.K B2 xs acc ∧ acc.length ≤ i ∧ lcD src g tt te (own.map (·.2)) (ds.drop i) acc (wipeD δ2 (own.map (·.2))) Q',
    ⟨ds.length, rfl, B1, δ1, [], [], Same.refl _, ?_, .nil, Nat.le_refl _, q⟩, ?_⟩
  · refine ((R1.allocN hL).wiped _).addF (R1.sB.free hL) hFL upd_same fun j es e => ?_
    obtain ⟨_, _, _, ys, h4, _⟩ := R1.own j L es (wipeD_some e).1
    rw [hL] at h4
    cases h4
  · rintro i m H2 ⟨rfl, B2, δ2, acc, xs, s2, R2, rl, hal, q2⟩
    by_cases hlt : i < ds.length
    · rw [List.drop_eq_getElem_cons hlt, lc_cons] at q2
      obtain ⟨lv, q2⟩ := lvs_ok q2
      obtain ⟨go, yl⟩ := (ok i _ B2 H2 _ _ (hF' _) s2 R2 lv).1 ds[i] (List.getElem?_eq_getElem hlt)
      refine .inr ⟨go, fun H3 => ∃ B3 δ3 acc xs, Same B1 B3 ∧ RE X.K (upd F L (.lst xs)) B3 H3 (wipe σ (own.map (·.2))) (wipeD δ3 (own.map (·.2))) ∧ RpL X.K B3 xs acc ∧ acc.length ≤ i + 1 ∧ lcD src g tt te (own.map (·.2)) (ds.drop (i + 1)) acc (wipeD δ3 (own.map (·.2))) Q',
        fun H3 ⟨B3, δ3, acc3, xs3, s3, R3, rl3, ha3, q3⟩ => ⟨ds.length - (i + 1), by omega, rfl, B3, δ3, acc3, xs3, s3, R3, rl3, ha3, q3⟩, fun x H3 hy => ?_⟩
      obtain ⟨B3, s3, R3, rx⟩ := yl x H3 hy
      intro sa Ha Ca cla fpa
      refine ((hg sa Ha Ca cla fpa).run _ B3 H3 _ _ x ds[i] _ R3 rx q2).imp fun σ4 H4 ⟨B4, δ4, s4, R4, k4, q4⟩ => ?_
      have we : wipe σ4 (own.map (·.2)) = wipe σ (own.map (·.2)) := wipe_eq (by rw [k4.1, wipe_length]) fun j hj => k4.2 j fun z => hj (hsub j z)
      refine ⟨we, fun sb Hb Cb clb fpb => ?_⟩
      refine ((ht sb Hb Cb clb fpb).run _ B4 H4 σ4 δ4 _ R4 q4).imp fun kb H5 ⟨B5, δ5, s5, R5, q5⟩ => ?_
      have sm : Same B1 B5 := s2.trans (s3.trans (s4.trans s5))
      cases kb with
      | false =>
        rw [if_neg Bool.false_ne_true]
        exact ⟨B5, δ5, acc, xs, sm, R5.rewipe we, rl.up (s3.trans (s4.trans s5)), Nat.le_succ_of_le hal, q5⟩
      | true =>
        rw [if_pos rfl]
        intro sc Hc Cc clc fpc
        refine ((he sc Hc Cc clc fpc).run _ B5 H5 σ4 δ5 _ R5 q5).imp fun y H6 ⟨B6, δ6, c6, s6, R6, r6, q6⟩ => ?_
        match c6, r6, q6 with
        | .fz d6, r6, q6 =>
          obtain ⟨R7, bl, hl, no⟩ := RE.dropF hFL R6
          have rl6 := rl.up (s3.trans (s4.trans (s5.trans s6)))
          refine ⟨xs, hl, ?_, B6, δ6, acc ++ [d6], xs ++ [y], sm.trans s6, ?_, rl6.append (.one r6), by rw [List.length_append, List.length_singleton]; omega, q6⟩
          · rw [rl.length]
            omega
          · refine ((R7.writeN bl hFL no).addF bl hFL upd_same no).rewipe we
    · rw [List.drop_eq_nil_of_le (by omega), lc_nil] at q2
      have q2 := lvs_ok q2
      have stop := (ok i _ B2 H2 _ _ (hF' _) s2 R2 q2.1).2 (List.getElem?_eq_none (by omega))
      obtain ⟨R3, bl, hl, no⟩ := RE.dropF hFL R2
      subst hQ
      refine .inl ⟨stop, k _ _ ⟨B2, _, acc, s1'.trans s2, R1.back s2 R3.unwipe _, ⟨L, xs, rfl, bl, hFL, fun j es e => ?_, hl, rl⟩, q2.2⟩⟩
      obtain ⟨_, _, _, ys, h4, _⟩ := (R1.back s2 R3.unwipe (own.map (·.2))).own j L es e
      have key : ∀ vs : List Nat, (backD δ1 vs (wipeD δ2 (own.map (·.2))))[j]? = some (some (.own L es)) → (wipeD δ2 (own.map (·.2)))[j]? = some (some (.own L es)) := fun vs => by
        induction vs with
        | nil => exact id
        | cons v vs ih =>
          intro e
          unfold backD at e
          by_cases hj : v = j
          · subst hj
            by_cases hlt : v < (backD δ1 vs (wipeD δ2 (own.map (·.2)))).length
            · rw [List.getElem?_set_self hlt] at e
              unfold fzo at e
              split at e <;> cases e
            · rw [List.getElem?_eq_none (by rw [List.length_set]; omega)] at e
              cases e
          · rw [List.getElem?_set_ne hj] at e
            exact ih e
      exact no j es (key _ e)
theorem n_lc {ti : DTI} {g : DTG} {is : List Nat} {tt : DTT} {te : DTE} (o : XOk X) (own : List (Str × Nat)) (ok : BlkOk X.N X.env.scope scope own) (hi : DI X tg iter ti)
    (hg : ∀ (s : Shared) (H : Hp) (C : Addr) (cl : List (Str × Addr)) (fp : List Addr), DG (X.blk s H scope (compEnvC scope cl C X.env) fp) tg g is)
    (ht : ∀ (s : Shared) (H : Hp) (C : Addr) (cl : List (Str × Addr)) (fp : List Addr), DTs (X.blk s H scope (compEnvC scope cl C X.env) fp) ifs tt)
    (he : ∀ (s : Shared) (H : Hp) (C : Addr) (cl : List (Str × Addr)) (fp : List Addr), DE (X.blk s H scope (compEnvC scope cl C X.env) fp) elt te) (hsub : ∀ i ∈ is, i ∈ own.map (·.2) := by decide) (hs : ∀ x, foldedSetIterable iter X.env x = pure x := by intro _; rfl) :
    DN X (.ListComp elt [⟨tg, iter, ifs, 0⟩] scope pos) (dLc ti g tt te (own.map (·.2))) := ⟨fun F B H σ δ Q R h =>
  pe_we (pe_lc o.calm o.nd wi_pi ok (fun s H C cl fp => ⟨fun pins s1 σ1 H1 v u Q1 I r z => z s H C cl fp pins s1 u I r⟩) (fun s H C cl fp => ⟨fun pins s1 σ1 H1 Q1 I z => z s H C cl fp pins s1 I⟩) (fun s H C cl fp => ⟨fun pins s1 σ1 H1 Q1 I z => z s H C cl fp pins s1 I⟩) hs)
    (lc_D hi hg hsub ht he R h fun _ _ z => z)⟩
/-- name = [..] on one line, the name a local -/
theorem s_setLcN (i : Nat) {y : Str} {py : Pos} {ti : DTI} {g : DTG} {is : List Nat} {tt : DTT} {te : DTE} (o : XOk X) (own : List (Str × Nat)) (ok : BlkOk X.N X.env.scope scope own) (hi : DI X tg iter ti)
    (hg : ∀ (s : Shared) (H : Hp) (C : Addr) (cl : List (Str × Addr)) (fp : List Addr), DG (X.blk s H scope (compEnvC scope cl C X.env) fp) tg g is)
    (ht : ∀ (s : Shared) (H : Hp) (C : Addr) (cl : List (Str × Addr)) (fp : List Addr), DTs (X.blk s H scope (compEnvC scope cl C X.env) fp) ifs tt)
    (he : ∀ (s : Shared) (H : Hp) (C : Addr) (cl : List (Str × Addr)) (fp : List Addr), DE (X.blk s H scope (compEnvC scope cl C X.env) fp) elt te) (hsub : ∀ i ∈ is, i ∈ own.map (·.2) := by decide) (hy : X.N[i]? = some y := by rfl) (hyl : X.env.scope.names.lookup y = some .local := by rfl)
    (hsw : swapsWith (.ListComp elt [⟨tg, iter, ifs, 0⟩] scope pos) (some (.Name y py)) spos.line X.env = pure true := by exact sw_true rfl rfl rfl (by decide +kernel)) (hs : ∀ x, foldedSetIterable iter X.env x = pure x := by intro _; rfl) :
    DS X (.Assign [.Name y py] (.ListComp elt [⟨tg, iter, ifs, 0⟩] scope pos) spos) (dSetN i (dLc ti g tt te (own.map (·.2)))) := ⟨fun F B H σ δ D R h =>
  ps_ws (ps_setLc o.calm o.nd hy hyl hsw wi_pi ok (fun s H C cl fp => ⟨fun pins s1 σ1 H1 v u Q1 I r z => z s H C cl fp pins s1 u I r⟩) (fun s H C cl fp => ⟨fun pins s1 σ1 H1 Q1 I z => z s H C cl fp pins s1 I⟩) (fun s H C cl fp => ⟨fun pins s1 σ1 H1 Q1 I z => z s H C cl fp pins s1 I⟩) hs)
    (lc_D hi hg hsub ht he R h fun v H' ⟨B', δ', ds, sB, R', ⟨p, xs, e1, h1, h2, hn, h3, h4⟩, q⟩ => by
      subst e1
      exact ⟨B', _, sB, R'.setO h1 h2 h3 h4 hn, q p⟩)⟩
theorem s_setLc (i : Nat) {y : Str} {py : Pos} {ti : DTI} {g : DTG} {is : List Nat} {tt : DTT} {te : DTE} (o : XOk X) (own : List (Str × Nat)) (ok : BlkOk X.N X.env.scope scope own) (hi : DI X tg iter ti)
    (hg : ∀ (s : Shared) (H : Hp) (C : Addr) (cl : List (Str × Addr)) (fp : List Addr), DG (X.blk s H scope (compEnvC scope cl C X.env) fp) tg g is)
    (ht : ∀ (s : Shared) (H : Hp) (C : Addr) (cl : List (Str × Addr)) (fp : List Addr), DTs (X.blk s H scope (compEnvC scope cl C X.env) fp) ifs tt)
    (he : ∀ (s : Shared) (H : Hp) (C : Addr) (cl : List (Str × Addr)) (fp : List Addr), DE (X.blk s H scope (compEnvC scope cl C X.env) fp) elt te) (hsub : ∀ i ∈ is, i ∈ own.map (·.2) := by decide) (hy : X.N[i]? = some y := by rfl) (hyl : X.env.scope.names.lookup y = some .local := by rfl)
    (hsw : swapsWith (.ListComp elt [⟨tg, iter, ifs, 0⟩] scope pos) (some (.Name y py)) spos.line X.env = pure true := by exact sw_true rfl rfl rfl (by decide +kernel)) (hs : ∀ x, foldedSetIterable iter X.env x = pure x := by intro _; rfl) :
    DS X (.Assign [.Name y py] (.ListComp elt [⟨tg, iter, ifs, 0⟩] scope pos) spos) (dSet i (dOfN (dLc ti g tt te (own.map (·.2))))) := ⟨fun F B H σ δ D R h =>
  ps_ws (ps_setLc o.calm o.nd hy hyl hsw wi_pi ok (fun s H C cl fp => ⟨fun pins s1 σ1 H1 v u Q1 I r z => z s H C cl fp pins s1 u I r⟩) (fun s H C cl fp => ⟨fun pins s1 σ1 H1 Q1 I z => z s H C cl fp pins s1 I⟩) (fun s H C cl fp => ⟨fun pins s1 σ1 H1 Q1 I z => z s H C cl fp pins s1 I⟩) hs)
    (lc_D hi hg hsub ht he R h fun v H' ⟨B', δ', ds, sB, R', n, q⟩ => by
      obtain ⟨B2, s2, R2, rp⟩ := freezeN R' n
      exact ⟨B2, _, sB.trans s2, R2.setF rp, q⟩)⟩
end
end DL

namespace DL
open PySem L2

section
variable {X : Cx} {a b c e tg iter : Expr} {es : List Expr} {pos p : Pos}
/-! ### built-ins by data -/
def gLen : GN := fun ds Q => match ds with
  | [.lst xs] => Q (.int (xs.length : Nat))
  | [.tup xs] => Q (.int (xs.length : Nat))
  | [.str x] => x.length ≤ sizeLine ∧ Q (.int (x.length : Nat))
  | [.scr ns] => Q (.int (ns.length : Nat))
  | _ => False
theorem c_len : CallS X (.builtin "len") gLen := by
  intro F B H σ δ vs ds Q R h g
  match ds, h, g with
  | [.lst xs], .cons h1 .nil, g =>
    obtain ⟨p, ys, rfl, h2, h3⟩ := h1.lst R.sB
    exact ⟨_, call_len, _, xs.length, rfl, .inl ⟨ys, SqL.of h2, h3.length.symm⟩, qv R (.int _) g⟩
  | [.tup xs], .cons h1 .nil, g =>
    obtain ⟨p, ys, rfl, h2, h3⟩ := h1.tup R.sB
    exact ⟨_, call_len, _, xs.length, rfl, .inr ⟨ys, h2, h3.length.symm⟩, qv R (.int _) g⟩
  | [.str x], .cons h1 .nil, g =>
    rw [h1.str]
    exact ⟨_, call_len, _, x.length, rfl, ⟨g.1, rfl⟩, qv R (.int _) g.2⟩
  | [.scr ns], .cons h1 .nil, g =>
    rcases h1 with h1 | ⟨_, _, _, _, z, _⟩
    · cases h1 with
      | scr h2 => exact ⟨_, call_len, _, ns.length, rfl, .inl ⟨_, R.sB.seq h2, (List.length_map _).symm⟩, qv R (.int _) g⟩
    · cases z
def gAbs : GN := fun ds Q => match ds with
  | [.int i] => Q (.int (if i < 0 then -i else i))
  | _ => False
theorem c_abs : CallS X (.builtin "abs") gAbs := by
  intro F B H σ δ vs ds Q R h g
  match ds, h, g with
  | [.int i], .cons h1 .nil, g =>
    rw [h1.int]
    exact ⟨_, call_abs, i, rfl, qv R (.int _) g⟩
def gInt : GN := fun ds Q => match ds with
  | [.int i] => Q (.int i)
  | [.bl k] => Q (.int (if k then 1 else 0))
  | [.str x] => ∃ n, PySem.intText? x = some n ∧ x.length ≤ 640 ∧ Q (.int n)
  | _ => False
theorem c_int : CallS X (.type "int") gInt := by
  intro F B H σ δ vs ds Q R h g
  match ds, h, g with
  | [.int i], .cons h1 .nil, g =>
    rw [h1.int]
    exact ⟨_, call_int1, .inl ⟨i, rfl, qv R (.int _) g⟩⟩
  | [.bl i], .cons h1 .nil, g =>
    rw [h1.bl]
    exact ⟨_, call_int1, .inr ⟨i, rfl, qv R (.int _) g⟩⟩
  | [.str i], .cons h1 .nil, g =>
    rw [h1.str]
    obtain ⟨n, g1, g2, g3⟩ := g
    exact ⟨_, call_int_str, i, n, rfl, g1, g2, qv R (.int _) g3⟩
def gStr : GN := fun ds Q => match ds with
  | [.int i] => i.natAbs.log2 < 1920 ∧ Q (.str (toString i))
  | _ => False
theorem c_str : CallS X (.type "str") gStr := by
  intro F B H σ δ vs ds Q R h g
  match ds, h, g with
  | [.int i], .cons h1 .nil, g =>
    rw [h1.int]
    exact ⟨_, call_str_int, i, rfl, g.1, qv R (.str _) g.2⟩
def gMax2 : GN := fun ds Q => match ds with
  | [.int i, .int j] => Q (.int (if j > i then j else i))
  | _ => False
def gMin2 : GN := fun ds Q => match ds with
  | [.int i, .int j] => Q (.int (if j < i then j else i))
  | _ => False
theorem c_max2 (o : XOk X) : CallS X (.builtin "max") gMax2 := by
  intro F B H σ δ vs ds Q R h g
  match ds, h, g with
  | [.int i, .int j], .cons h1 (.cons h2 .nil), g =>
    rw [h1.int, h2.int]
    exact ⟨_, call_max2 o.calm, i, j, rfl, qv R (.int _) g⟩
theorem c_min2 (o : XOk X) : CallS X (.builtin "min") gMin2 := by
  intro F B H σ δ vs ds Q R h g
  match ds, h, g with
  | [.int i, .int j], .cons h1 (.cons h2 .nil), g =>
    rw [h1.int, h2.int]
    exact ⟨_, call_min2 o.calm, i, j, rfl, qv R (.int _) g⟩
def gMax1 : GN := fun ds Q => match ds with
  | [.lst xs] => ∃ ns : List Int, xs = ns.map .int ∧ 0 < ns.length ∧ ∀ m, m ∈ ns → (∀ y, y ∈ ns → y ≤ m) → Q (.int m)
  | _ => False
def gMin1 : GN := fun ds Q => match ds with
  | [.lst xs] => ∃ ns : List Int, xs = ns.map .int ∧ 0 < ns.length ∧ ∀ m, m ∈ ns → (∀ y, y ∈ ns → m ≤ y) → Q (.int m)
  | _ => False
theorem c_max1 (o : XOk X) : CallS X (.builtin "max") gMax1 := by
  intro F B H σ δ vs ds Q R h g
  match ds, h, g with
  | [.lst xs], .cons h1 .nil, g =>
    obtain ⟨p, ys, rfl, h2, h3⟩ := h1.lst R.sB
    obtain ⟨ns, rfl, g1, g2⟩ := g
    have := h3.ints
    subst this
    exact ⟨_, cr_max o.calm, p, ns, rfl, SqL.of h2, g1, fun m m1 m2 => qv R (.int _) (g2 m m1 m2)⟩
theorem c_min1 (o : XOk X) : CallS X (.builtin "min") gMin1 := by
  intro F B H σ δ vs ds Q R h g
  match ds, h, g with
  | [.lst xs], .cons h1 .nil, g =>
    obtain ⟨p, ys, rfl, h2, h3⟩ := h1.lst R.sB
    obtain ⟨ns, rfl, g1, g2⟩ := g
    have := h3.ints
    subst this
    exact ⟨_, cr_min o.calm, p, ns, rfl, SqL.of h2, g1, fun m m1 m2 => qv R (.int _) (g2 m m1 m2)⟩
def gSum : GN := fun ds Q => match ds with
  | [.lst xs] => ∃ ns : List Int, xs = ns.map .int ∧ Q (.int ns.sum)
  | _ => False
theorem c_sum (o : XOk X) : CallS X (.builtin "sum") gSum := by
  intro F B H σ δ vs ds Q R h g
  match ds, h, g with
  | [.lst xs], .cons h1 .nil, g =>
    obtain ⟨p, ys, rfl, h2, h3⟩ := h1.lst R.sB
    obtain ⟨ns, rfl, g2⟩ := g
    have := h3.ints
    subst this
    exact ⟨_, cr_sum o.calm, p, ns, rfl, SqL.of h2, qv R (.int _) g2⟩
def gAll : GN := fun ds Q => match ds with
  | [.lst xs] => ∃ bs : List Bool, xs = bs.map .bl ∧ Q (.bl (bs.all id))
  | _ => False
def gAny : GN := fun ds Q => match ds with
  | [.lst xs] => ∃ bs : List Bool, xs = bs.map .bl ∧ Q (.bl (bs.any id))
  | _ => False
theorem c_all (o : XOk X) : CallS X (.builtin "all") gAll := by
  intro F B H σ δ vs ds Q R h g
  match ds, h, g with
  | [.lst xs], .cons h1 .nil, g =>
    obtain ⟨p, ys, rfl, h2, h3⟩ := h1.lst R.sB
    obtain ⟨ns, rfl, g2⟩ := g
    have := h3.bls
    subst this
    exact ⟨_, cr_all o.calm, p, ns, rfl, SqL.of h2, qv R (.bl _) g2⟩
theorem c_any (o : XOk X) : CallS X (.builtin "any") gAny := by
  intro F B H σ δ vs ds Q R h g
  match ds, h, g with
  | [.lst xs], .cons h1 .nil, g =>
    obtain ⟨p, ys, rfl, h2, h3⟩ := h1.lst R.sB
    obtain ⟨ns, rfl, g2⟩ := g
    have := h3.bls
    subst this
    exact ⟨_, cr_any o.calm, p, ns, rfl, SqL.of h2, qv R (.bl _) g2⟩
def gTuple : GN := fun ds Q => match ds with
  | [.lst xs] => Q (.tup xs)
  | [.tup xs] => Q (.tup xs)
  | _ => False
theorem c_tuple : CallS X (.type "tuple") gTuple := by
  intro F B H σ δ vs ds Q R h g
  match ds, h, g with
  | [.lst xs], .cons h1 .nil, g =>
    obtain ⟨p, ys, rfl, h2, h3⟩ := h1.lst R.sB
    exact ⟨_, call_tuple_of, p, ys, rfl, .inl ⟨SqL.of h2, fun l hl => qv_tup R hl h3 g⟩⟩
  | [.tup xs], .cons h1 .nil, g =>
    rcases h1 with h1 | ⟨_, _, _, _, z, _⟩
    · cases h1 with
      | tup h2 h3 => exact ⟨_, call_tuple_of, _, _, rfl, .inr ⟨same_t R.sB h2, qv R (.tup h2 h3) g⟩⟩
    · cases z
def gDivmod : GN := fun ds Q => match ds with
  | [.int i, .int j] => CDiv i j ∧ Q (.tup [.int (i / j), .int (i % j)])
  | _ => False
theorem c_divmod : CallS X (.builtin "divmod") gDivmod := by
  intro F B H σ δ vs ds Q R h g
  match ds, h, g with
  | [.int i, .int j], .cons h1 (.cons h2 .nil), g =>
    rw [h1.int, h2.int]
    exact ⟨_, call_divmod, i, j, rfl, g.1, fun p hp => qv_tup R hp (.cons (.int _) (.one (.int _))) g.2⟩
abbrev GL := List D → (List D → Prop) → Prop
def gList : GL := fun ds Q => match ds with
  | [.lst xs] => Q xs
  | [.tup xs] => Q xs
  | _ => False
theorem c_list : CallN X (.type "list") gList := by
  intro F B H σ δ vs ds Q R h g
  match ds, h, g with
  | [.lst xs], .cons h1 .nil, g =>
    obtain ⟨p, ys, rfl, h2, h3⟩ := h1.lst R.sB
    exact ⟨_, call_list_of, p, ys, rfl, .inl (SqL.of h2), fun l hl => qnv R hl h3 g⟩
  | [.tup xs], .cons h1 .nil, g =>
    obtain ⟨p, ys, rfl, h2, h3⟩ := h1.tup R.sB
    exact ⟨_, call_list_of, p, ys, rfl, .inr h2, fun l hl => qnv R hl h3 g⟩
def gSortI : GL := fun ds Q => match ds with
  | [.lst xs] => ∃ ns : List Int, xs = ns.map .int ∧ ∀ ms : List Int, ms.Perm ns → ms.Pairwise (· ≤ ·) → Q (ms.map .int)
  | _ => False
theorem c_sortI : CallN X (.builtin "sorted") gSortI := by
  intro F B H σ δ vs ds Q R h g
  match ds, h, g with
  | [.lst xs], .cons h1 .nil, g =>
    obtain ⟨p, ys, rfl, h2, h3⟩ := h1.lst R.sB
    obtain ⟨ns, rfl, g⟩ := g
    have := h3.ints
    subst this
    exact ⟨_, cr_sortedI, p, ns, rfl, SqL.of h2, fun ms l hp hs hl => qnv R hl RpL.of_ints (g ms hp hs)⟩

/-! ### isinstance -/
def tyN : D → String
  | .non => "NoneType"
  | .bl _ => "bool"
  | .int _ => "int"
  | .str _ => "str"
  | .lst _ => "list"
  | .tup _ => "tuple"
  | .scr _ => "list"
theorem RW.ty {K : PySem.W.Frag} {B H : Hp} {v : V} {d : D} (s : Same B H) (h : RW K B H v d) : TyX K H v (.type (tyN d)) := by
  cases d with
  | non => rw [h.non]; exact .base .non
  | bl b => rw [h.bl]; exact .base (.bl b)
  | int b => rw [h.int]; exact .base (.int b)
  | str b => rw [h.str]; exact .base (.str b)
  | lst ds =>
    obtain ⟨p, xs, rfl, h2, _⟩ := h.lst s
    exact .base (.lst h2)
  | tup ds =>
    obtain ⟨p, xs, rfl, h2, _⟩ := h.tup s
    rcases h2 with (h2 | ⟨o, h2⟩) | ⟨o, its, n, hk, hc, _⟩
    · exact .base (.tup h2)
    · exact .fTuple h2
    · exact .kTuple hk hc
  | scr ns =>
    rcases h with h | ⟨_, _, _, _, z, _⟩
    · cases h with
      | scr h2 =>
        rcases s.seq h2 with (h2 | ⟨o, h2⟩) | ⟨o, its, n, hk, hc, _⟩
        · exact .base (.lst h2)
        · exact .base (.frz h2)
        · exact .kList hk hc
    · cases z
def isT (T : String) (d : D) : Bool := (kitB (tyN d) T).getD false
theorem isT_int {d : D} : isT "int" d = (match d with | .int _ => true | .bl _ => true | _ => false) := by
  cases d with
  | non => exact (by decide +kernel : (kitB "NoneType" "int").getD false = false)
  | bl _ => exact (by decide +kernel : (kitB "bool" "int").getD false = true)
  | int _ => exact (by decide +kernel : (kitB "int" "int").getD false = true)
  | str _ => exact (by decide +kernel : (kitB "str" "int").getD false = false)
  | lst _ => exact (by decide +kernel : (kitB "list" "int").getD false = false)
  | tup _ => exact (by decide +kernel : (kitB "tuple" "int").getD false = false)
  | scr _ => exact (by decide +kernel : (kitB "list" "int").getD false = false)
theorem isT_bool {d : D} : isT "bool" d = (match d with | .bl _ => true | _ => false) := by
  cases d with
  | non => exact (by decide +kernel : (kitB "NoneType" "bool").getD false = false)
  | bl _ => exact (by decide +kernel : (kitB "bool" "bool").getD false = true)
  | int _ => exact (by decide +kernel : (kitB "int" "bool").getD false = false)
  | str _ => exact (by decide +kernel : (kitB "str" "bool").getD false = false)
  | lst _ => exact (by decide +kernel : (kitB "list" "bool").getD false = false)
  | tup _ => exact (by decide +kernel : (kitB "tuple" "bool").getD false = false)
  | scr _ => exact (by decide +kernel : (kitB "list" "bool").getD false = false)
theorem isT_str {d : D} : isT "str" d = (match d with | .str _ => true | _ => false) := by
  cases d with
  | non => exact (by decide +kernel : (kitB "NoneType" "str").getD false = false)
  | bl _ => exact (by decide +kernel : (kitB "bool" "str").getD false = false)
  | int _ => exact (by decide +kernel : (kitB "int" "str").getD false = false)
  | str _ => exact (by decide +kernel : (kitB "str" "str").getD false = true)
  | lst _ => exact (by decide +kernel : (kitB "list" "str").getD false = false)
  | tup _ => exact (by decide +kernel : (kitB "tuple" "str").getD false = false)
  | scr _ => exact (by decide +kernel : (kitB "list" "str").getD false = false)
theorem isT_list {d : D} : isT "list" d = (match d with | .lst _ => true | .scr _ => true | _ => false) := by
  cases d with
  | non => exact (by decide +kernel : (kitB "NoneType" "list").getD false = false)
  | bl _ => exact (by decide +kernel : (kitB "bool" "list").getD false = false)
  | int _ => exact (by decide +kernel : (kitB "int" "list").getD false = false)
  | str _ => exact (by decide +kernel : (kitB "str" "list").getD false = false)
  | lst _ => exact (by decide +kernel : (kitB "list" "list").getD false = true)
  | tup _ => exact (by decide +kernel : (kitB "tuple" "list").getD false = false)
  | scr _ => exact (by decide +kernel : (kitB "list" "list").getD false = true)
theorem isT_tuple {d : D} : isT "tuple" d = (match d with | .tup _ => true | _ => false) := by
  cases d with
  | non => exact (by decide +kernel : (kitB "NoneType" "tuple").getD false = false)
  | bl _ => exact (by decide +kernel : (kitB "bool" "tuple").getD false = false)
  | int _ => exact (by decide +kernel : (kitB "int" "tuple").getD false = false)
  | str _ => exact (by decide +kernel : (kitB "str" "tuple").getD false = false)
  | lst _ => exact (by decide +kernel : (kitB "list" "tuple").getD false = false)
  | tup _ => exact (by decide +kernel : (kitB "tuple" "tuple").getD false = true)
  | scr _ => exact (by decide +kernel : (kitB "list" "tuple").getD false = false)
def dIsi (T : String) (te : DTE) : DTE := fun δ Q => te δ fun c δ1 => Q (.fz (.bl (isT T c.d))) δ1
def kitsT (T : String) : Bool := ["NoneType", "bool", "int", "str", "list", "tuple"].all fun n => (kitB n T).isSome
theorem kits_of {T : String} (h : kitsT T = true) (d : D) : kitB (tyN d) T = some (isT T d) := by
  have k : ∀ n ∈ ["NoneType", "bool", "int", "str", "list", "tuple"], (kitB n T).isSome = true := by simpa [kitsT] using h
  have hs : (kitB (tyN d) T).isSome = true := k _ (by cases d <;> simp [tyN])
  unfold isT
  cases q : kitB (tyN d) T with
  | none =>
    rw [q] at hs
    cases hs
  | some b => rfl
theorem e_isi {T : String} {tn : Str} {te : DTE} {p1 p2 : Pos} (hm : X.mg "isinstance" = none) (hmt : X.mg tn = none) (he : DE X e te) (hk : kitsT T = true := by decide +kernel) (hT : bootBuiltins tn = some (.type T) := by decide +kernel) (hg : Gl X "isinstance" := by rfl) (hgt : Gl X tn := by rfl)
    (hn : tn ≠ "__name__" := by decide) (hdb : (tn == ("__debug__" : Str)) = false := by decide)
    (hs : starEach [e, .Name tn p2] X.env = (false, eval e X.env) :: starEach [.Name tn p2] X.env := by rfl) (hs2 : starEach [.Name tn p2] X.env = (false, eval (.Name tn p2) X.env) :: starEach [] X.env := by rfl) (hpl : (backTo pos (starEach [.Name tn p2] X.env)).any (·.1) = false := by rfl) :
    DE X (.Call (.Name "isinstance" p1) [e, .Name tn p2] [] pos) (dIsi T te) := ⟨fun F B H σ δ Q R h =>
  pe_we (pe_callB call_isi hg hm (by decide +kernel) (pa_cons we_pe (pa_cons (pe_bltn (v := .ty T) hgt hmt hT rfl hn hdb) pa_nil hs2) hs) (by decide) (by decide) hs hpl) (by
    refine (he.run F B H σ δ _ R h).imp fun v H1 ⟨B1, δ1, c1, s1, R1, r1, h1⟩ => ?_
    exact ⟨v, .ty T, .type (tyN c1.d), .type T, isT T c1.d, rfl, .ty T, r1.now.ty R1.sB, kit_ty (kits_of hk _), B1, δ1, .fz (.bl _), s1, R1, Rp.bl _, h1⟩)⟩

/-! ### subscripts, slices -/
def kSome {α : Type} (o : Option α) (Q : α → Prop) : Prop := match o with
  | some a => Q a
  | none => False
theorem kSome_ok {α : Type} {o : Option α} {Q : α → Prop} (h : kSome o Q) : ∃ a, o = some a ∧ Q a := by
  cases o with
  | none => exact h.elim
  | some a => exact ⟨a, rfl, h⟩
def ixD (x i : D) (Q : D → Prop) : Prop := match x, i with
  | .lst ds, .int k => kSome (atI ds k) Q
  | .tup ds, .int k => kSome (atI ds k) Q
  | .scr ns, .int k => kSome (atI ns k) fun i => Q (.int i)
  | .str z, .int k => z.length ≤ sizeLine ∧ kSome (atI z.cps.toList k) fun c => Q (.str ⟨#[c]⟩)
  | _, _ => False
theorem atI_rp {K : PySem.W.Frag} {B : Hp} {xs : List V} {ds : List D} {k : Int} {d : D} (h : RpL K B xs ds) (e : atI ds k = some d) : ∃ v, atI xs k = some v ∧ Rp K B v d := by
  unfold atI at e ⊢
  rw [h.length]
  cases q : ixN ds.length k with
  | none =>
    rw [q] at e
    cases e
  | some j =>
    rw [q] at e
    obtain ⟨v, h1, h2⟩ := h.get (show ds[j]? = some d from e)
    exact ⟨v, h1, h2⟩
def dIx (ta tb : DTE) : DTE := dBin ixD ta tb
def WX (X : Cx) : R2 := fun x y H Q => ∃ r, IxR X r ∧ r x y H Q
theorem wx_ok : IxR X (WX X) := fun value slice pins s σ H x y v u Q I rx ry ⟨_, hr, q⟩ hs => hr value slice pins s σ H x y v u Q I rx ry q hs
theorem e_ix {ta tb : DTE} (ha : DE X a ta) (hb : DE X b tb) (hs : PlainIx b := by exact fun _ _ => rfl) : DE X (.Subscript a b pos) (dIx ta tb) := ⟨fun F B H σ δ Q R h => pe_we (pe_ix wx_ok we_pe we_pe hs) (by
  refine (ha.run F B H σ δ _ R h).imp fun v1 H1 ⟨B1, δ1, c1, s1, R1, r1, h1⟩ => ?_
  refine (hb.run F B1 H1 σ δ1 _ R1 h1).imp fun v2 H2 ⟨B2, δ2, c2, s2, R2, r2, h2⟩ => ?_
  obtain ⟨l, h2⟩ := lv_ok h2
  have w1 := R2.live s2 r1 l
  have w2 := r2.now
  generalize c1.d = d1 at h2 w1
  generalize c2.d = d2 at h2 w2
  have sm := s1.trans s2
  cases d1 <;> cases d2 <;> try exact False.elim h2
  case str.int z k =>
    rw [w1.str, w2.int]
    obtain ⟨g1, h2⟩ := h2
    obtain ⟨cc, g2, g3⟩ := kSome_ok h2
    exact ⟨_, ix_str, z, k, cc, rfl, rfl, g1, g2, B2, δ2, .fz (.str _), sm, R2, Rp.str _, g3⟩
  case scr.int ns k =>
    rw [w2.int]
    rcases w1 with w1 | ⟨_, _, _, _, z, _⟩
    · cases w1 with
      | @scr p _ g1 =>
      obtain ⟨i, g3, g4⟩ := kSome_ok h2
      have g5 : atI (ns.map V.int) k = some (.int i) := by
        unfold atI at g3 ⊢
        rw [List.length_map]
        cases q : ixN ns.length k with
        | none =>
          rw [q] at g3
          cases g3
        | some j =>
          rw [q] at g3
          show (ns.map V.int)[j]? = some (.int i)
          rw [List.getElem?_map, show ns[j]? = some i from g3]
          rfl
      exact ⟨_, ix_list, p, _, k, _, rfl, rfl, R2.sB.seq g1, g5, B2, δ2, .fz (.int i), sm, R2, Rp.int _, g4⟩
    · cases z
  case lst.int ds k =>
    rw [w2.int]
    obtain ⟨p, xs, rfl, g1, g2⟩ := w1.lst R2.sB
    obtain ⟨d, g3, g4⟩ := kSome_ok h2
    obtain ⟨v, g5, g6⟩ := atI_rp g2 g3
    exact ⟨_, ix_list, p, xs, k, v, rfl, rfl, SqL.of g1, g5, B2, δ2, .fz d, sm, R2, g6, g4⟩
  case tup.int ds k =>
    rw [w2.int]
    obtain ⟨p, xs, rfl, g1, g2⟩ := w1.tup R2.sB
    obtain ⟨d, g3, g4⟩ := kSome_ok h2
    obtain ⟨v, g5, g6⟩ := atI_rp g2 g3
    exact ⟨_, ix_tup, p, xs, k, v, rfl, rfl, g1, g5, B2, δ2, .fz d, sm, R2, g6, g4⟩)⟩
abbrev DTO := DEnv → (Option Int → DEnv → Prop) → Prop
structure DO (X : Cx) (e : Option Expr) (t : DTO) : Prop where
  run : ∀ (F B H : Hp) (σ : St) (δ : DEnv) (Q : Option Int → DEnv → Prop), RE X.K F B H σ δ → t δ Q → ∃ to, PO X e to ∧ (∀ {Q1 Q2 : Option Int → Hp → Prop}, (∀ o H', Q1 o H' → Q2 o H') → to σ H Q1 → to σ H Q2) ∧ to σ H (fun o H' => ∃ B' δ', Same B B' ∧ RE X.K F B' H' σ δ' ∧ Q o δ')
def dNoPart : DTO := fun δ Q => Q none δ
def kPart (Q : Option Int → DEnv → Prop) (c : C) (δ : DEnv) : Prop := match c with
  | .fz (.int i) => Q (some i) δ
  | _ => False
def dPart (t : DTE) : DTO := fun δ Q => t δ (kPart Q)
theorem po_no : DO X none dNoPart := ⟨fun F B H σ δ Q R h => ⟨_, po_none, fun k z => k _ _ z, B, δ, Same.refl B, R, h⟩⟩
theorem po_e {t : DTE} (he : DE X e t) : DO X (some e) (dPart t) := ⟨fun F B H σ δ Q R h => ⟨_, po_some we_pe, fun k z => WE.imp z fun v H' ⟨i, e, q⟩ => ⟨i, e, k _ _ q⟩, by
  refine (he.run F B H σ δ _ R h).imp fun v H1 ⟨B1, δ1, c1, s1, R1, r1, h1⟩ => ?_
  unfold kPart at h1
  split at h1
  case h_2 => exact h1.elim
  case h_1 i =>
  cases r1
  exact ⟨i, rfl, B1, δ1, s1, R1, h1⟩⟩⟩
def cutD (xs : List D) (lo hi : Option Int) : List D := (xs.drop (HT.sIx xs.length 0 lo)).take (HT.sIx xs.length xs.length hi - HT.sIx xs.length 0 lo)
theorem RpL.cut {K : PySem.W.Frag} {B : Hp} {xs : List V} {ds : List D} (h : RpL K B xs ds) (lo hi : Option Int) : RpL K B (cutV xs lo hi) (cutD ds lo hi) := by
  unfold cutV cutD
  rw [h.length]
  exact (h.drop _).take _
/-- slices: a text's, a tuple's part (values); a list's (new) -/
def gSl (d : D) (lo hi : Option Int) (Q : D → Prop) : Prop := match d with
  | .str z => z.length ≤ sizeLine ∧ Q (.str (cutS z lo hi))
  | .tup ds => ¬ (HT.sIx ds.length 0 lo = 0 ∧ HT.sIx ds.length ds.length hi = ds.length) ∧ Q (.tup (cutD ds lo hi))
  | .lst ds => Q (.lst (cutD ds lo hi))
  | .scr ns => Q (.lst (cutD (ns.map .int) lo hi))
  | _ => False
def WSl (X : Cx) : V → Option Int → Option Int → Hp → VK → Prop := fun x lo hi H Q => ∃ r, SlR X r ∧ r x lo hi H Q
theorem wsl_ok : SlR X (WSl X) := fun pins s σ H x v vl vu lo hi sl Q I rx hs pl pu ⟨_, hr, q⟩ => hr pins s σ H x v vl vu lo hi sl Q I rx hs pl pu q
def dSl (te : DTE) (tl th : DTO) : DTE := fun δ Q => te δ fun c δ1 => tl δ1 fun lo δ2 => th δ2 fun hi δ3 => lv c δ3 (gSl c.d lo hi fun d => Q (.fz d) δ3)
theorem wpo_ok {lo : Option Expr} : PO X lo (fun σ H Q => ∀ (pins : List (Addr × Obj)) (s : Shared), Inv X pins σ H s → wpAny (model X.prog X.w) X.A (evalPart lo X.env) (fun u s' => ∃ o H', Inv X pins σ H' s' ∧ IsPart u o ∧ Q o H') X.xe s) := ⟨fun pins s _ _ _ I h => h pins s I⟩
theorem do_core {lo : Option Expr} {t : DTO} (h : DO X lo t) {F B H : Hp} {σ : St} {δ : DEnv} {Q : Option Int → DEnv → Prop} {Qe : Option Int → Hp → Prop} (R : RE X.K F B H σ δ) (q : t δ Q) (k : ∀ o H', (∃ B' δ', Same B B' ∧ RE X.K F B' H' σ δ' ∧ Q o δ') → Qe o H') :
    ∀ (pins : List (Addr × Obj)) (s : Shared), Inv X pins σ H s → wpAny (model X.prog X.w) X.A (evalPart lo X.env) (fun u s' => ∃ o H', Inv X pins σ H' s' ∧ IsPart u o ∧ Qe o H') X.xe s := fun pins s I => by
  obtain ⟨to, hp, mono, z⟩ := h.run F B H σ δ Q R q
  exact hp.run pins s σ H _ I (mono k z)
theorem e_sl {lo hi : Option Expr} {te : DTE} {tl th : DTO} {p2 : Pos} (he : DE X e te) (hl : DO X lo tl) (hu : DO X hi th) : DE X (.Subscript e (.Slice lo hi none p2) pos) (dSl te tl th) := ⟨fun F B H σ δ Q R h => pe_we (pe_slice wsl_ok we_pe wpo_ok wpo_ok) (by
  refine (he.run F B H σ δ _ R h).imp fun v1 H1 ⟨B1, δ1, c1, s1, R1, r1, h1⟩ => ?_
  refine do_core hl R1 h1 fun o2 H2 ⟨B2, δ2, s2, R2, h2⟩ => ?_
  refine do_core hu R2 h2 fun o3 H3 ⟨B3, δ3, s3, R3, h3⟩ => ?_
  obtain ⟨l, h3⟩ := lv_ok h3
  have w1 := R3.live (s2.trans s3) r1 l
  have sm := s1.trans (s2.trans s3)
  generalize c1.d = d1 at h3 w1
  cases d1 <;> try exact False.elim h3
  case str z =>
    rw [w1.str]
    exact ⟨_, sl_str, z, rfl, h3.1, B3, δ3, .fz (.str _), sm, R3, Rp.str _, h3.2⟩
  case lst ds =>
    obtain ⟨p, xs, rfl, g1, g2⟩ := w1.lst R3.sB
    refine ⟨_, sl_list, p, xs, rfl, SqL.of g1, fun l hl => ?_⟩
    obtain ⟨B4, d, s4, R4, rp, q⟩ := qv_lst (Q := fun d => Q (.fz d) δ3) R3 hl (g2.cut o2 o3) h3
    exact ⟨B4, δ3, .fz d, sm.trans s4, R4, rp, q⟩
  case scr ns =>
    rcases w1 with w1 | ⟨_, _, _, _, z, _⟩
    · cases w1 with
      | @scr p _ w2 =>
      refine ⟨_, sl_list, p, _, rfl, R3.sB.seq w2, fun l hl => ?_⟩
      obtain ⟨B4, d, s4, R4, rp, q⟩ := qv_lst (Q := fun d => Q (.fz d) δ3) R3 hl (RpL.of_ints.cut o2 o3) h3
      exact ⟨B4, δ3, .fz d, sm.trans s4, R4, rp, q⟩
    · cases z
  case tup ds =>
    obtain ⟨p, xs, rfl, g1, g2⟩ := w1.tup R3.sB
    refine ⟨_, sl_tup, p, xs, rfl, g1, by rw [g2.length]; exact h3.1, fun l hl => ?_⟩
    obtain ⟨B4, d, s4, R4, rp, q⟩ := qv_tup (Q := fun d => Q (.fz d) δ3) R3 hl (g2.cut o2 o3) h3.2
    exact ⟨B4, δ3, .fz d, sm.trans s4, R4, rp, q⟩)⟩
def gSlN (d : D) (lo hi : Option Int) (Q : List D → Prop) : Prop := match d with
  | .lst ds => Q (cutD ds lo hi)
  | _ => False
def dSlN (te : DTE) (tl th : DTO) : DTN := fun δ Q => te δ fun c δ1 => tl δ1 fun lo δ2 => th δ2 fun hi δ3 => lv c δ3 (gSlN c.d lo hi fun ds => Q ds δ3)
theorem n_sl {lo hi : Option Expr} {te : DTE} {tl th : DTO} {p2 : Pos} (he : DE X e te) (hl : DO X lo tl) (hu : DO X hi th) : DN X (.Subscript e (.Slice lo hi none p2) pos) (dSlN te tl th) := ⟨fun F B H σ δ Q R h => pe_we (pe_slice wsl_ok we_pe wpo_ok wpo_ok) (by
  refine (he.run F B H σ δ _ R h).imp fun v1 H1 ⟨B1, δ1, c1, s1, R1, r1, h1⟩ => ?_
  refine do_core hl R1 h1 fun o2 H2 ⟨B2, δ2, s2, R2, h2⟩ => ?_
  refine do_core hu R2 h2 fun o3 H3 ⟨B3, δ3, s3, R3, h3⟩ => ?_
  obtain ⟨l, h3⟩ := lv_ok h3
  have w1 := R3.live (s2.trans s3) r1 l
  have sm := s1.trans (s2.trans s3)
  generalize c1.d = d1 at h3 w1
  cases d1 <;> try exact False.elim h3
  case lst ds =>
    obtain ⟨p, xs, rfl, g1, g2⟩ := w1.lst R3.sB
    refine ⟨_, sl_list, p, xs, rfl, SqL.of g1, fun l hl => ?_⟩
    obtain ⟨B4, d, s4, R4, rp, q⟩ := qnv (Q := fun d => Q d δ3) R3 hl (g2.cut o2 o3) h3
    exact ⟨B4, δ3, d, sm.trans s4, R4, rp, q⟩)⟩
/-- xs[::-1] -/
def kRev (Q : List D → DEnv → Prop) (c : C) (δ : DEnv) : Prop := match c.d with
  | .lst ds => Q ds.reverse δ
  | _ => False
def dRev (te : DTE) : DTN := fun δ Q => te δ (kRev Q)
theorem n_rev {te : DTE} {k : Nat} {p1 p2 p3 : Pos} (he : DE X e te) : DN X (.Subscript e (.Slice none none (some (.UnaryOp .USub (.Constant (.int 1) k p1) p2)) p3) pos) (dRev te) := ⟨fun F B H σ δ Q R h => pe_we (pe_revL we_pe) (by
  refine (he.run F B H σ δ _ R h).imp fun v1 H1 ⟨B1, δ1, c1, s1, R1, r1, h1⟩ => ?_
  unfold kRev at h1
  split at h1
  case h_2 => exact h1.elim
  case h_1 ds hd =>
  have w := r1.now
  rw [hd] at w
  obtain ⟨a, xs, rfl, h2, h3⟩ := w.lst R1.sB
  refine ⟨a, xs, rfl, SqL.of h2, fun p hp => ?_⟩
  obtain ⟨B4, d, s4, R4, rp, q⟩ := qnv (Q := fun d => Q d δ1) R1 hp h3.reverse h1
  exact ⟨B4, δ1, d, s1.trans s4, R4, rp, q⟩)⟩
/-- xs + ys, a new list -/
def gCat (x y : D) (Q : List D → Prop) : Prop := match x, y with
  | .lst xs, .lst ys => xs.length + ys.length ≤ sizeLine ∧ Q (xs ++ ys)
  | _, _ => False
def dCatN (ta tb : DTE) : DTN := fun δ Q => ta δ fun ca δ1 => tb δ1 fun cb δ2 => lv ca δ2 (gCat ca.d cb.d fun ds => Q ds δ2)
theorem n_cat {ta tb : DTE} (ha : DE X a ta) (hb : DE X b tb) : DN X (.BinOp a .Add b pos) (dCatN ta tb) := ⟨fun F B H σ δ Q R h => pe_we (pe_op op_cat we_pe we_pe) (by
  refine (ha.run F B H σ δ _ R h).imp fun v1 H1 ⟨B1, δ1, c1, s1, R1, r1, h1⟩ => ?_
  refine (hb.run F B1 H1 σ δ1 _ R1 h1).imp fun v2 H2 ⟨B2, δ2, c2, s2, R2, r2, h2⟩ => ?_
  obtain ⟨l, h2⟩ := lv_ok h2
  have w1 := R2.live s2 r1 l
  have w2 := r2.now
  generalize c1.d = d1 at h2 w1
  generalize c2.d = d2 at h2 w2
  cases d1 <;> cases d2 <;> try exact False.elim h2
  obtain ⟨p, xs, rfl, g1, g2⟩ := w1.lst R2.sB
  obtain ⟨q, ys, rfl, g3, g4⟩ := w2.lst R2.sB
  refine ⟨p, q, xs, ys, rfl, rfl, g1, g3, by rw [g2.length, g4.length]; exact h2.1, fun l hl => ?_⟩
  obtain ⟨B4, d, s4, R4, rp, q⟩ := qnv (Q := fun d => Q d δ2) R2 hl (g2.append g4) h2.2
  exact ⟨B4, δ2, d, (s1.trans s2).trans s4, R4, rp, q⟩)⟩

/-! ### texts -/
def kStrX (Q : Str → DEnv → Prop) (c : C) (δ : DEnv) : Prop := match c with
  | .fz (.str x) => Q x δ
  | _ => False
theorem kStrX_ok {K : PySem.W.Frag} {F B H : Hp} {v : V} {Q : Str → DEnv → Prop} {c : C} {δ : DEnv} (r : RC K F B H v c) (h : kStrX Q c δ) : ∃ x, v = .str x ∧ Q x δ := by
  match c, r, h with
  | .fz (.str x), r, h =>
    cases r
    exact ⟨x, rfl, h⟩
def gJoin (a : Str) (e : D) (Q : D → Prop) : Prop := match e with
  | .lst xs => ∃ ys : List Str, xs = ys.map .str ∧ (ys.map (·.length)).sum + ys.length * a.length ≤ 16777216 ∧ Q (.str (Txt.join a ys))
  | _ => False
def dJoin (to te : DTE) : DTE := fun δ Q => to δ (kStrX fun x δ1 => te δ1 fun c2 δ2 => gJoin x c2.d fun d => Q (.fz d) δ2)
theorem e_join {to te : DTE} {apos : Pos} (ho : DE X a to) (he : DE X e te) (hs : starEach [e] X.env = [(false, eval e X.env)] := by rfl) (hbase : attributeBase a "join" X.env (eval a X.env) = eval a X.env := by rfl) (hline : (apos.endLine == pos.line) = true := by rfl) :
    DE X (.Call (.Attribute a "join" apos) [e] [] pos) (dJoin to te) := ⟨fun F B H σ δ Q R h => pe_we (pe_join we_pe we_pe hs hbase hline) (by
  refine (ho.run F B H σ δ _ R h).imp fun v1 H1 ⟨B1, δ1, c1, s1, R1, r1, h1⟩ => ?_
  obtain ⟨x, rfl, h1⟩ := kStrX_ok r1 h1
  refine ⟨⟨x, rfl⟩, (he.run F B1 H1 σ δ1 _ R1 h1).imp fun v2 H2 ⟨B2, δ2, c2, s2, R2, r2, h2⟩ => ?_⟩
  have w2 := r2.now
  have h2 : gJoin x c2.d (fun d => Q (.fz d) δ2) := h2
  generalize c2.d = d2 at h2 w2
  cases d2 <;> try exact False.elim h2
  obtain ⟨ys, rfl, h3, h4⟩ := h2
  obtain ⟨p, xs, rfl, g1, g2⟩ := w2.lst R2.sB
  have := g2.strs
  subst this
  exact ⟨x, p, ys, rfl, rfl, .inl (SqL.of g1), h3, B2, δ2, .fz (.str _), s1.trans s2, R2, Rp.str _, h4⟩)⟩
def dSplit (to te : DTE) : DTN := fun δ Q => to δ (kStrX fun x δ1 => te δ1 (kStrX fun y δ2 => ((y.length == 0) = false ∧ x.length + 2 ≤ sizeLine) ∧ Q ((Txt.split x y).map .str) δ2))
theorem n_split {to te : DTE} {apos : Pos} (ho : DE X a to) (he : DE X e te) (hs : starEach [e] X.env = [(false, eval e X.env)] := by rfl) (hbase : attributeBase a "split" X.env (eval a X.env) = eval a X.env := by rfl) (hline : (apos.endLine == pos.line) = true := by rfl) :
    DN X (.Call (.Attribute a "split" apos) [e] [] pos) (dSplit to te) := ⟨fun F B H σ δ Q R h => pe_we (pe_split we_pe we_pe hs hbase hline) (by
  refine (ho.run F B H σ δ _ R h).imp fun v1 H1 ⟨B1, δ1, c1, s1, R1, r1, h1⟩ => ?_
  obtain ⟨x, rfl, h1⟩ := kStrX_ok r1 h1
  refine ⟨⟨x, rfl⟩, (he.run F B1 H1 σ δ1 _ R1 h1).imp fun v2 H2 ⟨B2, δ2, c2, s2, R2, r2, h2⟩ => ?_⟩
  obtain ⟨y, rfl, h2⟩ := kStrX_ok r2 h2
  refine ⟨x, y, rfl, rfl, h2.1.1, h2.1.2, fun p hp => ?_⟩
  obtain ⟨B4, d, s4, R4, rp, q⟩ := qnv (Q := fun d => Q d δ2) R2 hp RpL.of_strs h2.2
  exact ⟨B4, δ2, d, (s1.trans s2).trans s4, R4, rp, q⟩)⟩

/-! ### methods of a list of one's own in slot i -/
def kOwn (i : Nat) (Q : Addr → List D → Prop) (δ : DEnv) : Prop := match δ[i]? with
  | some (some (.own p ds)) => Q p ds
  | _ => False
theorem kOwn_ok {i : Nat} {Q : Addr → List D → Prop} {δ : DEnv} (h : kOwn i Q δ) : ∃ p ds, δ[i]? = some (some (.own p ds)) ∧ Q p ds := by
  unfold kOwn at h
  split at h
  case h_2 => exact h.elim
  case h_1 p ds hd => exact ⟨p, ds, hd, h⟩
def dAppend (i : Nat) (te : DTE) : DTE := fun δ Q => kOwn i (fun _ _ => te δ (kFzD fun d δ1 => kOwn i (fun p ds => ds.length < sizeLine ∧ Q (.fz .non) (δ1.set i (some (.own p (ds ++ [d]))))) δ1)) δ
theorem e_append (i : Nat) {x : Str} {te : DTE} {apos p2 : Pos} (he : DE X e te) (hN : X.N[i]? = some x := by rfl) (hv : Vis X.env.scope x := by first | exact Or.inl rfl | exact Or.inr (Or.inl rfl) | exact Or.inr (Or.inr rfl)) (hd : (x == ("__debug__" : Str)) = false := by decide) (hcd : (x == ("__classdict__" : Str)) = false := by decide)
    (hbase : attributeBase (.Name x p2) "append" X.env (eval (.Name x p2) X.env) = eval (.Name x p2) X.env := by rfl) (hfew : ((backTo pos (starEach [e] X.env)).all (fun x => !x.1) && (backToKw pos (keywordEach [] X.env)).all (fun x => x.1.isSome) && decide ([e].length + ([] : List Keyword).length + (if ([] : List Keyword).isEmpty then 0 else 1) < 30)) = true := by rfl)
    (hline : (apos.endLine == pos.line) = true := by rfl) (hs : starEach [e] X.env = (false, eval e X.env) :: starEach [] X.env := by rfl) (hplain : (backTo pos (starEach [] X.env)).any (·.1) = false := by rfl) :
    DE X (.Call (.Attribute (.Name x p2) "append" apos) [e] [] pos) (dAppend i te) := ⟨fun F B H σ δ Q R h => pe_we (pe_bm PySem.F.plainAttrs_list PySem.F.slot_list_append PySem.F.type_list_append mt_append (pe_var hN hv hd hcd) (pa_cons we_pe pa_nil hs) hbase hfew hline hs hplain) (by
  obtain ⟨p, ds, h0, h⟩ := kOwn_ok h
  obtain ⟨g1, g2, g3, xs, g4, g5⟩ := R.own i p ds h0
  refine ⟨_, g1, .inl ⟨rfl, _, SqL.of g4⟩, (he.run F B H σ δ _ R h).imp fun v1 H1 ⟨B1, δ1, c1, s1, R1, r1, h1⟩ => ?_⟩
  match c1, r1, h1 with
  | .fz d, r1, h1 =>
    obtain ⟨p', ds', h0', h2, h3⟩ := kOwn_ok h1
    obtain ⟨k1, k2, k3, ys, k4, k5⟩ := R1.own i p' ds' h0'
    rw [g1] at k1
    cases k1
    exact ⟨p, ys, v1, rfl, rfl, k4, by rw [k5.length]; exact h2, B1, _, .fz .non, s1, R1.chg h0' (k5.append (.one r1)), Rp.non, h3⟩)⟩
def dExtend (i : Nat) (te : DTE) : DTE := fun δ Q => kOwn i (fun _ _ => te δ (kFzD fun d δ1 => kOwn i (fun p ds => match d with
  | .lst es => ds.length + es.length ≤ sizeLine ∧ Q (.fz .non) (δ1.set i (some (.own p (ds ++ es))))
  | _ => False) δ1)) δ
theorem e_extend (i : Nat) {x : Str} {te : DTE} {apos p2 : Pos} (he : DE X e te) (hN : X.N[i]? = some x := by rfl) (hv : Vis X.env.scope x := by first | exact Or.inl rfl | exact Or.inr (Or.inl rfl) | exact Or.inr (Or.inr rfl)) (hd : (x == ("__debug__" : Str)) = false := by decide) (hcd : (x == ("__classdict__" : Str)) = false := by decide)
    (hbase : attributeBase (.Name x p2) "extend" X.env (eval (.Name x p2) X.env) = eval (.Name x p2) X.env := by rfl) (hfew : ((backTo pos (starEach [e] X.env)).all (fun x => !x.1) && (backToKw pos (keywordEach [] X.env)).all (fun x => x.1.isSome) && decide ([e].length + ([] : List Keyword).length + (if ([] : List Keyword).isEmpty then 0 else 1) < 30)) = true := by rfl)
    (hline : (apos.endLine == pos.line) = true := by rfl) (hs : starEach [e] X.env = (false, eval e X.env) :: starEach [] X.env := by rfl) (hplain : (backTo pos (starEach [] X.env)).any (·.1) = false := by rfl) :
    DE X (.Call (.Attribute (.Name x p2) "extend" apos) [e] [] pos) (dExtend i te) := ⟨fun F B H σ δ Q R h => pe_we (pe_bm PySem.F.plainAttrs_list PySem.F.slot_list_extend PySem.F.type_list_extend mt_extend (pe_var hN hv hd hcd) (pa_cons we_pe pa_nil hs) hbase hfew hline hs hplain) (by
  obtain ⟨p, ds, h0, h⟩ := kOwn_ok h
  obtain ⟨g1, g2, g3, xs, g4, g5⟩ := R.own i p ds h0
  refine ⟨_, g1, .inl ⟨rfl, _, SqL.of g4⟩, (he.run F B H σ δ _ R h).imp fun v1 H1 ⟨B1, δ1, c1, s1, R1, r1, h1⟩ => ?_⟩
  match c1, r1, h1 with
  | .fz d, r1, h1 =>
    obtain ⟨p', ds', h0', h2⟩ := kOwn_ok h1
    obtain ⟨k1, k2, k3, ys, k4, k5⟩ := R1.own i p' ds' h0'
    rw [g1] at k1
    cases k1
    cases d <;> try exact False.elim h2
    cases r1 with
    | @lst b zs es hb hz =>
      exact ⟨p, b, ys, zs, rfl, rfl, k4, R1.sB _ _ hb, by rw [k5.length, hz.length]; exact h2.1, B1, _, .fz .non, s1, R1.chg h0' (k5.append hz), Rp.non, h2.2⟩)⟩
end
end DL

namespace DL
open PySem L2

/-- a def by data: the arguments, what is wanted of the result and of the own lists handed in -/
abbrev DSp := List C → (C → DEnv → Prop) → Prop
def spD (K : PySem.W.Frag) (n : Nat) (φ : DSp) : Sp := fun vs H Q _ => ∃ F B cs, vs.length = n ∧ RE K F B H (vs.map some) (cs.map some) ∧
  φ cs fun c as => ∀ v H' B', Same B B' → RE K F B' H' (vs.map some) as → RR K F B' H' as v c → Q v H'
def CalF (P : Program) (w : World) (K : PySem.W.Frag) (mg : Str → Option Value) (base : Heap) (k : Nat) (x : Str) (n : Nat) (φ : DSp) : Prop :=
  ∃ f fd ps, FnOk P w K mg base CX0 k f fd ps (spD K n φ) ∧ mg x = some (.ref f) ∧ PySem.W.keepIn K (.ref f) = true ∧ Binds K fd ps []

/-- all that is not frozen -/
def restH (B H : Hp) : Hp := fun a => match B a with
  | none => H a
  | some _ => none
section
variable {K : PySem.W.Frag} {F B B' H H' : Hp} {σ σa : St} {δ as : DEnv}
theorem restH_of {a : Addr} {o : HO} (hb : B a = none) (h : H a = some o) : restH B H a = some o := by
  unfold restH
  rw [hb]
  exact h
theorem restH_b {a : Addr} {o : HO} (hb : B a = some o) : restH B H a = none := by
  unfold restH
  rw [hb]
theorem restH_le : Same (restH B H) H := fun a o e => by
  unfold restH at e
  cases q : B a with
  | none =>
    rw [q] at e
    exact e
  | some u =>
    rw [q] at e
    cases e
theorem RE.notB (R : RE K F B H σ δ) {a : Addr} {o : HO} (h : F a = some o) : B a = none := by
  cases e : B a with
  | none => rfl
  | some u =>
    rw [R.dj a u e] at h
    cases h
theorem RE.after (R : RE K F B H σ δ) (s : Same B B') (R' : RE K (restH B H) B' H' σa as) : RE K F B' H' σ δ where
  sB := R'.sB
  sF := fun a o e => R'.sF a o (restH_of (R.notB e) (R.sF a o e))
  dj := fun a o e => by
    cases q : F a with
    | none => rfl
    | some u =>
      have := restH_of (R.notB q) (R.sF a u q)
      rw [R'.dj a o e] at this
      cases this
  len := R.len
  fz := fun i d e => by
    obtain ⟨v, h1, h2⟩ := R.fz i d e
    exact ⟨v, h1, h2.up s⟩
  own := fun i p ds e => by
    obtain ⟨h1, h2, h3, xs, h4, h5⟩ := R.own i p ds e
    have hr := restH_of h2 h4
    exact ⟨h1, R'.notB hr, h3, xs, R'.sF _ _ hr, h5.up s⟩
  sep := R.sep
theorem RR.after {v : V} {c : C} (R : RE K F B H σ δ) (h : RR K (restH B H) B' H' as v c) : RR K F B' H' δ v c := by
  cases c with
  | fz d => exact h
  | own p ds =>
    obtain ⟨xs, h1, h2, h3, _, h4, h5⟩ := h
    refine ⟨xs, h1, h2, ?_, fun j es e => ?_, h4, h5⟩
    · cases q : F p with
      | none => rfl
      | some u =>
        have := restH_of (R.notB q) (R.sF p u q)
        rw [h3] at this
        cases this
    · obtain ⟨_, g2, _, ys, g4, _⟩ := R.own j p es e
      rw [restH_of g2 g4] at h3
      cases h3
/-- the own list at p is handed on -/
def restX (B H : Hp) (p : Addr) : Hp := fun a => if a = p then none else restH B H a
theorem restX_of {a p : Addr} {o : HO} (hb : B a = none) (h : H a = some o) (hn : a ≠ p) : restX B H p a = some o := by
  unfold restX
  rw [if_neg hn]
  exact restH_of hb h
theorem restX_p {p : Addr} : restX B H p p = none := by
  unfold restX
  rw [if_pos rfl]
theorem restX_le {p : Addr} : Same (restX B H p) H := fun a o e => by
  unfold restX at e
  split at e
  · cases e
  · exact restH_le a o e
theorem RE.afterX {i : Nat} {p : Addr} {b b' : List D} (R : RE K F B H σ δ) (hi : δ[i]? = some (some (.own p b))) (s : Same B B') (R' : RE K (restX B H p) B' H' (some (.ref p) :: σa) (some (.own p b') :: as)) : RE K F B' H' σ (δ.set i (some (.own p b'))) := by
  obtain ⟨q1, q2, q3, xs, q4, q5⟩ := R.own i p b hi
  obtain ⟨_, r2, _, ys, r4, r5⟩ := R'.own 0 p b' rfl
  have hl := (List.getElem?_eq_some_iff.mp hi).1
  refine ⟨R'.sB, fun a o e => ?_, fun a o e => ?_, by rw [List.length_set, R.len], fun j d e => ?_, fun j q ds e => ?_, fun j l q es fs ha hb => ?_⟩
  · have ne : a ≠ p := fun z => by
      subst z
      rw [q3] at e
      cases e
    exact R'.sF a o (restX_of (R.notB e) (R.sF a o e) ne)
  · cases q : F a with
    | none => rfl
    | some u =>
      have ne : a ≠ p := fun z => by
        subst z
        rw [q3] at q
        cases q
      have := restX_of (R.notB q) (R.sF a u q) ne
      rw [R'.dj a o e] at this
      cases this
  · by_cases hj : i = j
    · subst hj
      rw [List.getElem?_set_self hl] at e
      cases e
    · rw [List.getElem?_set_ne hj] at e
      obtain ⟨v, h1, h2⟩ := R.fz j d e
      exact ⟨v, h1, h2.up s⟩
  · by_cases hj : i = j
    · subst hj
      rw [List.getElem?_set_self hl] at e
      cases e
      exact ⟨q1, r2, q3, ys, r4, r5⟩
    · rw [List.getElem?_set_ne hj] at e
      obtain ⟨h1, h2, h3, zs, h4, h5⟩ := R.own j q ds e
      have ne : q ≠ p := fun z => by
        subst z
        exact hj (R.sep i j q b ds hi e)
      have hr := restX_of h2 h4 ne
      exact ⟨h1, R'.notB hr, h3, zs, R'.sF _ _ hr, h5.up s⟩
  · have key : ∀ (j : Nat) (q : Addr) (es : List D), (δ.set i (some (.own p b')))[j]? = some (some (.own q es)) → ∃ es', δ[j]? = some (some (.own q es')) := fun j q es e => by
      by_cases hj : i = j
      · subst hj
        rw [List.getElem?_set_self hl] at e
        cases e
        exact ⟨b, hi⟩
      · rw [List.getElem?_set_ne hj] at e
        exact ⟨es, e⟩
    obtain ⟨es', ha'⟩ := key j q es ha
    obtain ⟨fs', hb'⟩ := key l q fs hb
    exact R.sep j l q es' fs' ha' hb'
theorem RR.afterX {i : Nat} {p : Addr} {b b' : List D} {v : V} {c : C} (R : RE K F B H σ δ) (hi : δ[i]? = some (some (.own p b))) (h : RR K (restX B H p) B' H' (some (.own p b') :: as) v c) : RR K F B' H' (δ.set i (some (.own p b'))) v c := by
  cases c with
  | fz d => exact h
  | own q ds =>
    obtain ⟨xs, h1, h2, h3, hn, h4, h5⟩ := h
    have hl := (List.getElem?_eq_some_iff.mp hi).1
    have nqp : q ≠ p := fun z => by
      subst z
      exact hn 0 b' rfl
    refine ⟨xs, h1, h2, ?_, fun j es e => ?_, h4, h5⟩
    · cases f : F q with
      | none => rfl
      | some u =>
        have := restX_of (R.notB f) (R.sF q u f) nqp
        rw [h3] at this
        cases this
    · by_cases hj : i = j
      · subst hj
        rw [List.getElem?_set_self hl] at e
        cases e
        exact nqp rfl
      · rw [List.getElem?_set_ne hj] at e
        obtain ⟨_, g2, _, ys, g4, _⟩ := R.own j q es e
        rw [restX_of g2 g4 nqp] at h3
        cases h3
theorem RpL.re0 {vs : List V} {ds : List D} (sB : Same B H) (h : RpL K B vs ds) : RE K (restH B H) B H (vs.map some) ((ds.map C.fz).map some) where
  sB := sB
  sF := restH_le
  dj := fun a o e => restH_b e
  len := by rw [List.length_map, List.length_map, List.length_map, h.length]
  fz := fun i d e => by
    rw [List.getElem?_map, List.getElem?_map] at e
    cases q : ds[i]? with
    | none =>
      rw [q] at e
      cases e
    | some d' =>
      rw [q] at e
      cases e
      obtain ⟨v, h1, h2⟩ := h.get q
      exact ⟨v, by rw [List.getElem?_map, h1]; rfl, h2⟩
  own := fun i p es e => by
    rw [List.getElem?_map, List.getElem?_map] at e
    cases q : ds[i]? with
    | none =>
      rw [q] at e
      cases e
    | some d' =>
      rw [q] at e
      cases e
  sep := fun i j p es fs e _ => by
    rw [List.getElem?_map, List.getElem?_map] at e
    cases q : ds[i]? with
    | none =>
      rw [q] at e
      cases e
    | some d' =>
      rw [q] at e
      cases e
theorem RpL.reX {vs : List V} {ds : List D} {p : Addr} {xs : List V} {b : List D} (sB : Same B H) (hB : B p = none) (hH : H p = some (.lst xs)) (hb : RpL K B xs b) (h : RpL K B vs ds) : RE K (restX B H p) B H ((V.ref p :: vs).map some) ((C.own p b :: ds.map C.fz).map some) := by
  have R := h.re0 sB
  refine ⟨sB, restX_le, fun a o e => ?_, ?_, fun i d e => ?_, fun i q es e => ?_, fun i j q es fs ha hb' => ?_⟩
  · unfold restX
    split
    · rfl
    · exact restH_b e
  · rw [List.length_map, List.length_map, List.length_cons, List.length_cons, List.length_map, h.length]
  · cases i with
    | zero => cases e
    | succ i => exact R.fz i d (by simpa using e)
  · cases i with
    | zero =>
      cases e
      exact ⟨rfl, hB, restX_p, xs, hH, hb⟩
    | succ i =>
      have := R.own i q es (by simpa using e)
      have e' : ((ds.map C.fz).map some)[i]? = some (some (.own q es)) := by simpa using e
      rw [List.getElem?_map, List.getElem?_map] at e'
      cases z : ds[i]? with
      | none =>
        rw [z] at e'
        cases e'
      | some d' =>
        rw [z] at e'
        cases e'
  · have key : ∀ (i : Nat) (es : List D), ((C.own p b :: ds.map C.fz).map some)[i]? = some (some (.own q es)) → i = 0 := fun i es e => by
      cases i with
      | zero => rfl
      | succ i =>
        have e' : ((ds.map C.fz).map some)[i]? = some (some (.own q es)) := by simpa using e
        rw [List.getElem?_map, List.getElem?_map] at e'
        cases z : ds[i]? with
        | none =>
          rw [z] at e'
          cases e'
        | some d' =>
          rw [z] at e'
          cases e'
    rw [key i es ha, key j fs hb']
theorem RE.pad (R : RE K F B H σ δ) (k : Nat) : RE K F B H (σ ++ List.replicate k none) (δ ++ List.replicate k none) := by
  have key : ∀ {i : Nat} {c : C}, (δ ++ List.replicate k none)[i]? = some (some c) → δ[i]? = some (some c) ∧ i < δ.length := fun {i c} e => by
    by_cases hi : i < δ.length
    · rw [List.getElem?_append_left hi] at e
      exact ⟨e, hi⟩
    · rw [List.getElem?_append_right (by omega), List.getElem?_replicate] at e
      split at e <;> cases e
  refine ⟨R.sB, R.sF, R.dj, by rw [List.length_append, List.length_append, R.len, List.length_replicate, List.length_replicate], fun i d e => ?_, fun i p ds e => ?_, fun i j p ds es ha hb => R.sep i j p ds es (key ha).1 (key hb).1⟩
  · obtain ⟨h1, h2⟩ := key e
    rw [List.getElem?_append_left (by rw [R.len]; exact h2)]
    exact R.fz i d h1
  · obtain ⟨h1, h2⟩ := key e
    rw [List.getElem?_append_left (by rw [R.len]; exact h2)]
    exact R.own i p ds h1
end

/-! ### a def by its body -/
def startD (m : Nat) (cs : List C) : DEnv := cs.map some ++ List.replicate (m - cs.length) none
/-- what is handed back of the own lists that were handed in -/
def AsOk (n : Nat) (cs : List C) (δ as : DEnv) : Prop := as.length = n ∧ ∀ (j : Nat) c, as[j]? = some (some c) → ∃ p ds ds', c = .own p ds' ∧ cs[j]? = some (.own p ds) ∧ δ[j]? = some (some (.own p ds'))
def rtD (n : Nat) (cs : List C) (Post : C → DEnv → Prop) (c : C) (δ : DEnv) : Prop := ∃ as, AsOk n cs δ as ∧ Post c as
def endD (R : C → DEnv → Prop) : DEnds := { nx := fun δ => R (.fz .non) δ, rt := R }
section
variable {P : Program} {w : World} {K : PySem.W.Frag} {mg : Str → Option Value} {base : Heap}
theorem okD {x : Str} {st : Stmt} {f : Addr} {fd : FuncData} {N ps : List Str} {k n : Nat} {φ : DSp} (F : Fun K x x st f fd) (hm : mg x = some (.ref f)) (hb : Binds K fd ps []) (S : FnScope N ps (defScope st)) (hn : ps.length = n)
    (hbody : ∀ (cdv : Value) (A : Around) (outer : List Env) (s : Shared) (H : Hp) (E : XK), Room k (A.deeper (PyProof.Rows.envOfC x (defScope st) s.heap.objs.size f cdv)) →
      ∃ t, DSs (cxOf CX0 P w K mg base N x (defScope st) f cdv A outer s H E).nox (defBody st) t ∧ ∀ cs Post, φ cs Post → t (endD (rtD n cs Post)) (startD N.length cs)) : CalF P w K mg base (k + 1) x n φ := by
  refine ⟨f, fd, ps, F.ok S (fun vs H Q E ⟨_, _, _, h, _⟩ => h.trans hn.symm) fun cdv A outer s H vs Q E hr ⟨F', B, cs, hl, R, hφ⟩ => ?_, hm, F.kp, hb⟩
  obtain ⟨t, hd, ht⟩ := hbody cdv A outer s H E hr
  have hcl : cs.length = n := by
    have := R.len
    rw [List.length_map, List.length_map] at this
    omega
  refine ⟨_, wss_pss, ?_⟩
  have R0 : RE K F' B H (L2.start N vs) (startD N.length cs) := by
    unfold L2.start startD
    rw [hcl, hl]
    exact R.pad _
  have fin : ∀ (v : V) (H' B' : Hp) (σ' : St) (δ' : DEnv) (c : C), Same B B' → RE K F' B' H' σ' δ' → RR K F' B' H' δ' v c → rtD n cs (fun c as => ∀ v H' B', Same B B' → RE K F' B' H' (vs.map some) as → RR K F' B' H' as v c → Q v H') c δ' → Q v H' := by
    rintro v H' B' σ' δ' c sB R' rr ⟨as, ⟨hal, ha⟩, hp⟩
    refine hp v H' B' sB (R'.weak (by rw [List.length_map, hl, hal]) fun j c' e => ?_) ?_
    · obtain ⟨p, ds, ds', rfl, hc, hd'⟩ := ha j c' e
      refine ⟨hd', ?_⟩
      obtain ⟨h1, _⟩ := R'.own j p ds' hd'
      have h2 : (cs.map some)[j]? = some (some (.own p ds)) := by rw [List.getElem?_map, hc]; rfl
      obtain ⟨h3, _⟩ := R.own j p ds h2
      rw [h1, h3]
    · cases c with
      | fz d => exact rr
      | own p ds =>
        obtain ⟨xs, h1, h2, h3, hn', h4, h5⟩ := rr
        refine ⟨xs, h1, h2, h3, fun j es e => ?_, h4, h5⟩
        obtain ⟨p', ds0, ds', e', hc, hd'⟩ := ha j _ e
        cases e'
        exact hn' j _ hd'
  exact (hd.run F' B H (L2.start N vs) (startD N.length cs) _ R0 (ht cs _ hφ)).imp (fun σ' H' ⟨B', δ', sB, R', q⟩ => fin .non H' B' σ' δ' (.fz .non) sB R' Rp.non q) (fun v H' ⟨B', σ', δ', c, sB, R', rr, q⟩ => fin v H' B' σ' δ' c sB R' rr q) (fun _ _ ⟨_, _, _, _, z⟩ => z.elim) (fun _ _ ⟨_, _, _, _, z⟩ => z.elim)
/-- frozen data alone is handed in -/
abbrev FP := List D → (C → Prop) → Prop
def phiP (n : Nat) (f : FP) : DSp := fun cs Post => ∃ (ds : List D) (Q0 : C → Prop), cs = ds.map C.fz ∧ ds.length = n ∧ f ds Q0 ∧ ∀ c, Q0 c → Post c (List.replicate n none)
/-- the first argument is a list that is changed -/
abbrev FB := List D → List D → (C → List D → Prop) → Prop
def phiB (n : Nat) (f : FB) : DSp := fun cs Post => ∃ (p : Addr) (b ds : List D) (Q0 : C → List D → Prop), cs = C.own p b :: ds.map C.fz ∧ ds.length = n ∧ f b ds Q0 ∧ ∀ c b', Q0 c b' → Post c (some (.own p b') :: List.replicate n none)
theorem asP {n : Nat} {cs : List C} {δ : DEnv} : AsOk n cs δ (List.replicate n none) := ⟨List.length_replicate, fun j c e => by
  rw [List.getElem?_replicate] at e
  split at e <;> cases e⟩
theorem asB {n : Nat} {cs : List C} {δ : DEnv} {p : Addr} {b b' : List D} (hc : cs[0]? = some (.own p b)) (hd : δ[0]? = some (some (.own p b'))) : AsOk (n + 1) cs δ (some (.own p b') :: List.replicate n none) := ⟨by rw [List.length_cons, List.length_replicate], fun j c e => by
  cases j with
  | zero =>
    cases e
    exact ⟨p, b, b', rfl, hc, hd⟩
  | succ j =>
    rw [List.getElem?_cons_succ, List.getElem?_replicate] at e
    split at e <;> cases e⟩
/-- a def's end, the first list being p -/
def rtB (p : Addr) (Post : C → List D → Prop) (c : C) (δ : DEnv) : Prop := ∃ b', δ[0]? = some (some (.own p b')) ∧ Post c b'
theorem okP {x : Str} {st : Stmt} {f : Addr} {fd : FuncData} {N ps : List Str} {k : Nat} {g : FP} (F : Fun K x x st f fd) (hm : mg x = some (.ref f)) (hb : Binds K fd ps []) (S : FnScope N ps (defScope st))
    (hbody : ∀ (cdv : Value) (A : Around) (outer : List Env) (s : Shared) (H : Hp) (E : XK), Room k (A.deeper (PyProof.Rows.envOfC x (defScope st) s.heap.objs.size f cdv)) →
      ∃ t, DSs (cxOf CX0 P w K mg base N x (defScope st) f cdv A outer s H E).nox (defBody st) t ∧ ∀ (ds : List D) Post, ds.length = ps.length → g ds Post → t (endD fun c _ => Post c) (startD N.length (ds.map C.fz)))
    : CalF P w K mg base (k + 1) x ps.length (phiP ps.length g) :=
  okD F hm hb S rfl fun cdv A outer s H E hr => by
    obtain ⟨t, hd, ht⟩ := hbody cdv A outer s H E hr
    refine ⟨fun E' δ => ∃ Post : C → Prop, (∀ c δ', Post c → E'.rt c δ') ∧ (∀ δ', Post (.fz .non) → E'.nx δ') ∧ t (endD fun c _ => Post c) δ, ⟨fun F B H σ δ D R ⟨Post, k1, k2, z⟩ => ?_⟩, ?_⟩
    · exact (hd.run F B H σ δ _ R z).imp (fun σ' H' ⟨B', δ', sB, R', q⟩ => ⟨B', δ', sB, R', k2 _ q⟩) (fun v H' ⟨B', σ', δ', c, sB, R', rr, q⟩ => ⟨B', σ', δ', c, sB, R', rr, k1 _ _ q⟩) (fun _ _ ⟨_, _, _, _, q⟩ => q.elim) (fun _ _ ⟨_, _, _, _, q⟩ => q.elim)
    · rintro cs Post ⟨ds, Q0, rfl, hl, hg, mono⟩
      exact ⟨Q0, fun c δ' q => ⟨_, asP, mono _ q⟩, fun δ' q => ⟨_, asP, mono _ q⟩, ht ds _ hl hg⟩
/-- the law itself, at its own address -/
theorem okLaw {x : Str} {st : Stmt} {f : Addr} {fd : FuncData} {N ps : List Str} {k : Nat} {g : FP} (F : Fun K x x st f fd) (hm : mg x = some (.ref f)) (hb : Binds K fd ps []) (S : FnScope N ps (defScope st))
    (hbody : ∀ (cdv : Value) (A : Around) (outer : List Env) (s : Shared) (H : Hp) (E : XK), Room k (A.deeper (PyProof.Rows.envOfC x (defScope st) s.heap.objs.size f cdv)) →
      ∃ t, DSs (cxOf CX0 P w K mg base N x (defScope st) f cdv A outer s H E).nox (defBody st) t ∧ ∀ (ds : List D) Post, ds.length = ps.length → g ds Post → t (endD fun c _ => Post c) (startD N.length (ds.map C.fz)))
    : FnOk P w K mg base CX0 (k + 1) f fd ps (spD K ps.length (phiP ps.length g)) := by
  refine F.ok S (fun vs H Q E ⟨_, _, _, h, _⟩ => h) fun cdv A outer s H vs Q E hr ⟨F', B, cs, hl, R, hφ⟩ => ?_
  obtain ⟨t, hd, ht⟩ := hbody cdv A outer s H E hr
  obtain ⟨ds, Q0, rfl, hdl, hg, mono⟩ := hφ
  refine ⟨_, wss_pss, ?_⟩
  have R0 : RE K F' B H (L2.start N vs) (startD N.length (ds.map C.fz)) := by
    unfold L2.start startD
    rw [List.length_map, hdl, hl]
    exact R.pad _
  have fin : ∀ (v : V) (H' B' : Hp) (σ' : St) (δ' : DEnv) (c : C), Same B B' → RE K F' B' H' σ' δ' → RR K F' B' H' δ' v c → Q0 c → Q v H' := by
    intro v H' B' σ' δ' c sB R' rr q
    refine mono c q v H' B' sB (R'.weak (by rw [List.length_map, hl, List.length_replicate]) fun j c' e => ?_) ?_
    · rw [List.getElem?_replicate] at e
      split at e <;> cases e
    · cases c with
      | fz d => exact rr
      | own p ds =>
        obtain ⟨xs, h1, h2, h3, hn', h4, h5⟩ := rr
        refine ⟨xs, h1, h2, h3, fun j es e => ?_, h4, h5⟩
        rw [List.getElem?_replicate] at e
        split at e <;> cases e
  exact (hd.run F' B H (L2.start N vs) _ _ R0 (ht ds Q0 hdl hg)).imp (fun σ' H' ⟨B', δ', sB, R', q⟩ => fin .non H' B' σ' δ' (.fz .non) sB R' Rp.non q) (fun v H' ⟨B', σ', δ', c, sB, R', rr, q⟩ => fin v H' B' σ' δ' c sB R' rr q) (fun _ _ ⟨_, _, _, _, z⟩ => z.elim) (fun _ _ ⟨_, _, _, _, z⟩ => z.elim)
theorem okB {x : Str} {st : Stmt} {f : Addr} {fd : FuncData} {N : List Str} {y : Str} {ps : List Str} {k : Nat} {g : FB} (F : Fun K x x st f fd) (hm : mg x = some (.ref f)) (hb : Binds K fd (y :: ps) []) (S : FnScope N (y :: ps) (defScope st))
    (hbody : ∀ (cdv : Value) (A : Around) (outer : List Env) (s : Shared) (H : Hp) (E : XK), Room k (A.deeper (PyProof.Rows.envOfC x (defScope st) s.heap.objs.size f cdv)) →
      ∃ t, DSs (cxOf CX0 P w K mg base N x (defScope st) f cdv A outer s H E).nox (defBody st) t ∧ ∀ (p : Addr) (b ds : List D) Post, ds.length = ps.length → g b ds Post → t (endD (rtB p Post)) (startD N.length (C.own p b :: ds.map C.fz))) : CalF P w K mg base (k + 1) x (ps.length + 1) (phiB ps.length g) :=
  okD F hm hb S rfl fun cdv A outer s H E hr => by
    obtain ⟨t, hd, ht⟩ := hbody cdv A outer s H E hr
    refine ⟨fun E' δ => ∃ (p : Addr) (Post : C → List D → Prop), (∀ c δ', rtB p Post c δ' → E'.rt c δ') ∧ (∀ δ', rtB p Post (.fz .non) δ' → E'.nx δ') ∧ t (endD (rtB p Post)) δ, ⟨fun F B H σ δ D R ⟨p, Post, k1, k2, z⟩ => ?_⟩, ?_⟩
    · exact (hd.run F B H σ δ _ R z).imp (fun σ' H' ⟨B', δ', sB, R', q⟩ => ⟨B', δ', sB, R', k2 _ q⟩) (fun v H' ⟨B', σ', δ', c, sB, R', rr, q⟩ => ⟨B', σ', δ', c, sB, R', rr, k1 _ _ q⟩) (fun _ _ ⟨_, _, _, _, q⟩ => q.elim) (fun _ _ ⟨_, _, _, _, q⟩ => q.elim)
    · rintro cs Post ⟨p, b, ds, Q0, rfl, hl, hg, mono⟩
      refine ⟨p, Q0, fun c δ' ⟨b', hd', q⟩ => ⟨_, asB rfl hd', mono _ _ q⟩, fun δ' ⟨b', hd', q⟩ => ⟨_, asB rfl hd', mono _ _ q⟩, ht p b ds _ hl hg⟩
end

/-! ### calls -/
section
variable {X : Cx} {e : Expr} {es : List Expr} {pos p : Pos} {x : Str} {k n : Nat}
def kRes (Q : C → DEnv → Prop) (δ : DEnv) : C → Prop
  | .fz d => Q (.fz d) δ
  | .own _ ds => Q (.fz (.lst ds)) δ
def kResN (Q : List D → DEnv → Prop) (δ : DEnv) : C → Prop
  | .fz _ => False
  | .own _ ds => Q ds δ
def dCallP (f : FP) (t : DTA) : DTE := fun δ Q => t δ fun cs δ1 => kFz (fun ds => f ds (kRes Q δ1)) cs
def dCallPN (f : FP) (t : DTA) : DTN := fun δ Q => t δ fun cs δ1 => kFz (fun ds => f ds (kResN Q δ1)) cs
theorem res_E {K : PySem.W.Frag} {F B B' H' : Hp} {σ : St} {δ : DEnv} {v : V} {c : C} {Q : C → DEnv → Prop} (s : Same B B') (R : RE K F B' H' σ δ) (rr : RR K F B' H' δ v c) (q : kRes Q δ c) : QE K F B σ Q v H' := by
  cases c with
  | fz d => exact ⟨B', δ, .fz d, s, R, rr, q⟩
  | own p ds =>
    obtain ⟨xs, h⟩ := rr
    obtain ⟨B2, s2, R2, rp⟩ := freezeN R ⟨p, xs, h⟩
    exact ⟨B2, δ, .fz (.lst ds), s.trans s2, R2, rp, q⟩
theorem res_N {K : PySem.W.Frag} {F B B' H' : Hp} {σ : St} {δ : DEnv} {v : V} {c : C} {Q : List D → DEnv → Prop} (s : Same B B') (R : RE K F B' H' σ δ) (rr : RR K F B' H' δ v c) (q : kResN Q δ c) : QN K F B σ Q v H' := by
  cases c with
  | fz d => exact q.elim
  | own p ds =>
    obtain ⟨xs, h⟩ := rr
    exact ⟨B', δ, ds, s, R, ⟨p, xs, h⟩, q⟩
theorem callP_core {f : FP} {t : DTA} (ha : DA X es t) {F B H : Hp} {σ : St} {δ : DEnv} {M : C → DEnv → Prop} {Qe : VK} (R : RE X.K F B H σ δ) (h : t δ fun cs δ1 => kFz (fun ds => f ds fun c => M c δ1) cs) (hn : es.length = n)
    (k : ∀ v H' B' δ' c, Same B B' → RE X.K F B' H' σ δ' → RR X.K F B' H' δ' v c → M c δ' → Qe v H') : tCall (spD X.K n (phiP n f)) [] E0 (WA X es) σ H Qe := by
  refine (ha.run F B H σ δ _ R h).imp fun vs H1 ⟨B1, δ1, cs, hle, s1, R1, r1, l1, h1⟩ => ?_
  obtain ⟨ds, hd, h1⟩ := kFz_ok h1
  have rp := fzs_ok r1 hd
  show spD X.K n (phiP n f) (vs ++ []) H1 Qe E0
  rw [List.append_nil]
  exact ⟨restH B1 H1, B1, ds.map C.fz, hle.trans hn, rp.re0 R1.sB, ds, _, rfl, by rw [← rp.length, hle, hn], h1, fun c m v H' B' sB R' rr => k v H' B' δ1 c (s1.trans sB) (R1.after sB R') (rr.after R1) m⟩
theorem e_callP {f : FP} {t : DTA} (cf : CalF X.prog X.w X.K X.mg X.base k x (es.length + 1) (phiP (es.length + 1) f)) (hr : Room k X.A) (ha : DA X (e :: es) t) (hg : Gl X x := by rfl) (hdb : (x == ("__debug__" : Str)) = false := by decide) (he : starEach (e :: es) X.env = (false, eval e X.env) :: starEach es X.env := by rfl) (hpl : (backTo pos (starEach es X.env)).any (·.1) = false := by rfl) :
    DE X (.Call (.Name x p) (e :: es) [] pos) (dCallP f t) := ⟨fun F B H σ δ Q R h => by
  obtain ⟨f0, fd, ps, F0, hm, hk, hb⟩ := cf
  exact pe_we (pe_call F0 hr hg hm hk hb .nil pass0 wa_pa hdb he hpl) (callP_core (M := fun c δ' => kRes Q δ' c) ha R h (by rw [List.length_cons]) fun v H' B' δ' c sB R' rr m => res_E sB R' rr m)⟩
theorem n_callP {f : FP} {t : DTA} (cf : CalF X.prog X.w X.K X.mg X.base k x (es.length + 1) (phiP (es.length + 1) f)) (hr : Room k X.A) (ha : DA X (e :: es) t) (hg : Gl X x := by rfl) (hdb : (x == ("__debug__" : Str)) = false := by decide) (he : starEach (e :: es) X.env = (false, eval e X.env) :: starEach es X.env := by rfl) (hpl : (backTo pos (starEach es X.env)).any (·.1) = false := by rfl) :
    DN X (.Call (.Name x p) (e :: es) [] pos) (dCallPN f t) := ⟨fun F B H σ δ Q R h => by
  obtain ⟨f0, fd, ps, F0, hm, hk, hb⟩ := cf
  exact pe_we (pe_call F0 hr hg hm hk hb .nil pass0 wa_pa hdb he hpl) (callP_core (M := fun c δ' => kResN Q δ' c) ha R h (by rw [List.length_cons]) fun v H' B' δ' c sB R' rr m => res_N sB R' rr m)⟩
/-- f(x, ..), x a list of one's own in slot j that f changes -/
def dCallB (j : Nat) (f : FB) (t : DTA) : DTE := fun δ Q => kOwn j (fun _ _ => t δ fun cs δ1 => kFz (fun ds => kOwn j (fun q b => f b ds fun c b' => kRes Q (δ1.set j (some (.own q b'))) c) δ1) cs) δ
def dCallBN (j : Nat) (f : FB) (t : DTA) : DTN := fun δ Q => kOwn j (fun _ _ => t δ fun cs δ1 => kFz (fun ds => kOwn j (fun q b => f b ds fun c b' => kResN Q (δ1.set j (some (.own q b'))) c) δ1) cs) δ
theorem callB_core {j : Nat} {f : FB} {t : DTA} {y : Str} {p2 : Pos} (ha : DA X es t) {F B H : Hp} {σ : St} {δ : DEnv} {M : C → DEnv → Prop} {Qe : VK} (R : RE X.K F B H σ δ) (h : kOwn j (fun _ _ => t δ fun cs δ1 => kFz (fun ds => kOwn j (fun q b => f b ds fun c b' => M c (δ1.set j (some (.own q b')))) δ1) cs) δ) (hn : es.length = n)
    (k : ∀ v H' B' δ' c, Same B B' → RE X.K F B' H' σ δ' → RR X.K F B' H' δ' v c → M c δ' → Qe v H') : tCall (spD X.K (n + 1) (phiB n f)) [] E0 (tCons (tVar j) (WA X es)) σ H Qe := by
  obtain ⟨p0, b0, hp0, h⟩ := kOwn_ok h
  obtain ⟨g1, _⟩ := R.own j p0 b0 hp0
  refine ⟨_, g1, (ha.run F B H σ δ _ R h).imp fun vs H1 ⟨B1, δ1, cs, hle, s1, R1, r1, l1, h1⟩ => ?_⟩
  obtain ⟨ds, hd, h1⟩ := kFz_ok h1
  obtain ⟨p, b, hp, h1⟩ := kOwn_ok h1
  obtain ⟨q1, q2, q3, xs, q4, q5⟩ := R1.own j p b hp
  rw [g1] at q1
  cases q1
  have rp := fzs_ok r1 hd
  show spD X.K (n + 1) (phiB n f) ((V.ref p0 :: vs) ++ []) H1 Qe E0
  rw [List.append_nil]
  exact ⟨restX B1 H1 p0, B1, C.own p0 b :: ds.map C.fz, by rw [List.length_cons, hle, hn], RpL.reX R1.sB q2 q4 q5 rp, p0, b, ds, _, rfl, by rw [← rp.length, hle, hn], h1, fun c b' m v H' B' sB R' rr => k v H' B' _ c (s1.trans sB) (R1.afterX hp sB R') (rr.afterX R1 hp) m⟩
theorem e_callM (j : Nat) {f : FB} {t : DTA} {y : Str} {p2 : Pos} (cf : CalF X.prog X.w X.K X.mg X.base k x (es.length + 1) (phiB es.length f)) (hr : Room k X.A) (ha : DA X es t)
    (hN : X.N[j]? = some y := by rfl) (hv : Vis X.env.scope y := by first | exact Or.inl rfl | exact Or.inr (Or.inl rfl) | exact Or.inr (Or.inr rfl)) (hd : (y == ("__debug__" : Str)) = false := by decide) (hcd : (y == ("__classdict__" : Str)) = false := by decide)
    (hg : Gl X x := by rfl) (hdb : (x == ("__debug__" : Str)) = false := by decide) (he : starEach (.Name y p2 :: es) X.env = (false, eval (.Name y p2) X.env) :: starEach es X.env := by rfl) (hpl : (backTo pos (starEach es X.env)).any (·.1) = false := by rfl) :
    DE X (.Call (.Name x p) (.Name y p2 :: es) [] pos) (dCallB j f t) := ⟨fun F B H σ δ Q R h => by
  obtain ⟨f0, fd, ps, F0, hm, hk, hb⟩ := cf
  exact pe_we (pe_call F0 hr hg hm hk hb .nil pass0 (pa_cons (pe_var hN hv hd hcd) wa_pa he) hdb he hpl) (callB_core (y := y) (p2 := p2) (M := fun c δ' => kRes Q δ' c) ha R h rfl fun v H' B' δ' c sB R' rr m => res_E sB R' rr m)⟩
theorem n_callM (j : Nat) {f : FB} {t : DTA} {y : Str} {p2 : Pos} (cf : CalF X.prog X.w X.K X.mg X.base k x (es.length + 1) (phiB es.length f)) (hr : Room k X.A) (ha : DA X es t)
    (hN : X.N[j]? = some y := by rfl) (hv : Vis X.env.scope y := by first | exact Or.inl rfl | exact Or.inr (Or.inl rfl) | exact Or.inr (Or.inr rfl)) (hd : (y == ("__debug__" : Str)) = false := by decide) (hcd : (y == ("__classdict__" : Str)) = false := by decide)
    (hg : Gl X x := by rfl) (hdb : (x == ("__debug__" : Str)) = false := by decide) (he : starEach (.Name y p2 :: es) X.env = (false, eval (.Name y p2) X.env) :: starEach es X.env := by rfl) (hpl : (backTo pos (starEach es X.env)).any (·.1) = false := by rfl) :
    DN X (.Call (.Name x p) (.Name y p2 :: es) [] pos) (dCallBN j f t) := ⟨fun F B H σ δ Q R h => by
  obtain ⟨f0, fd, ps, F0, hm, hk, hb⟩ := cf
  exact pe_we (pe_call F0 hr hg hm hk hb .nil pass0 (pa_cons (pe_var hN hv hd hcd) wa_pa he) hdb he hpl) (callB_core (y := y) (p2 := p2) (M := fun c δ' => kResN Q δ' c) ha R h rfl fun v H' B' δ' c sB R' rr m => res_N sB R' rr m)⟩
end

/-! ### a law -/
theorem xok {CX : CXT} {P : Program} {w : World} {K : PySem.W.Frag} {mg : Str → Option Value} {base : Heap} {N : List Str} {x : Str} {scope : Scope} {f : Addr} {cdv : Value} {A : Around} {outer : List Env} {s : Shared} {H : Hp} {E : XK} {k : Nat} (hnd : N.Nodup)
    (hr : Room k (A.deeper (PyProof.Rows.envOfC x scope s.heap.objs.size f cdv))) : XOk (cxOf CX P w K mg base N x scope f cdv A outer s H E).nox := ⟨rfl, hnd, by
  have := hr.un
  show (A.deeper (PyProof.Rows.envOfC x scope s.heap.objs.size f cdv)).units + 128 < cLine
  omega⟩
theorem XOk.blk {X : Cx} (o : XOk X) {s : Shared} {H : Hp} {scope : Scope} {env : Env} {fp : List Addr} : XOk (X.blk s H scope env fp) := ⟨o.calm, o.nd, o.un⟩
def fLaw : FP := fun ds Post => ∃ ns : List Int, ds = [.scr ns] ∧ ns.length ≤ 63 ∧ Post (.fz (.bl true))
theorem law_sp (K : PySem.W.Frag) (H : Hp) (a : Addr) (ns : List Int) (hl : ns.length ≤ 63) (hS : SqL K H a (ns.map V.int)) : spD K 1 (phiP 1 fLaw) [.ref a] H (fun v _ => v = .bl true) fun _ _ _ => False :=
  ⟨restH H H, H, [.fz (.scr ns)], rfl, RpL.re0 (ds := [.scr ns]) (Same.refl H) (.one (.scr hS)), [.scr ns], fun c => c = .fz (.bl true), rfl, rfl, ⟨ns, rfl, hl, rfl⟩, fun c e v H' B' _ _ rr => by
    subst e
    cases rr
    rfl⟩
end DL

namespace DL
open PySem L2
theorem at_zero {α : Type} (a : α) (l : List α) : atI (a :: l) 0 = some a := atI_nat (j := 0) rfl
theorem at_one {α : Type} (a b : α) (l : List α) : atI (a :: b :: l) 1 = some b := atI_nat (j := 1) rfl
theorem at_two {α : Type} (a b c : α) (l : List α) : atI (a :: b :: c :: l) 2 = some c := atI_nat (j := 2) rfl
theorem at_three {α : Type} (a b c d : α) (l : List α) : atI (a :: b :: c :: d :: l) 3 = some d := atI_nat (j := 3) rfl
theorem at_int {α : Type} {l : List α} {i : Int} (h0 : 0 ≤ i) (h : i < l.length) : ∃ x, l[i.toNat]? = some x ∧ atI l i = some x := by
  obtain ⟨k, rfl⟩ : ∃ k : Nat, i = (k : Int) := ⟨i.toNat, by omega⟩
  have hk : k < l.length := by omega
  exact ⟨l[k], List.getElem?_eq_getElem (by simpa using hk), atI_nat (List.getElem?_eq_getElem hk)⟩
theorem ixN_int {n : Nat} {k : Int} (h0 : 0 ≤ k) (h : k < n) : ixN n k = some k.toNat := by
  unfold ixN
  rw [if_pos h0, if_pos h]
theorem some_int {α : Type} {l : List α} {i : Int} {Q : α → Prop} (h0 : 0 ≤ i) (h : i < l.length) (q : ∀ x, l[i.toNat]? = some x → Q x) : kSome (atI l i) Q := by
  obtain ⟨x, h1, h2⟩ := at_int h0 h
  rw [h2]
  exact q x h1
theorem some_mem {α : Type} {l : List α} {i : Int} {Q : α → Prop} (h0 : 0 ≤ i) (h : i < l.length) (q : ∀ x, x ∈ l → Q x) : kSome (atI l i) Q := some_int h0 h fun x e => q x (List.mem_of_getElem? e)
theorem some_last {α : Type} {l : List α} {a : α} {Q : α → Prop} (q : Q a) : kSome (atI (l ++ [a]) (-1)) Q := by
  rw [atI_last]
  exact q
theorem some_nat {α : Type} {l : List α} {i : Nat} {a : α} {Q : α → Prop} (h : l[i]? = some a) (q : Q a) : kSome (atI l (i : Int)) Q := by
  rw [atI_nat h]
  exact q
/-! ### loops -/
section
variable {src : List C} {g : DTG} {tb : DTS} {E : DEnds} {ds : List D} {δ : DEnv}
/-- a loop by what holds between its turns -/
theorem for_inv (I : Nat → DEnv → Prop) (h0 : I 0 δ)
    (hs : ∀ (i : Nat) (d : D) (δ : DEnv) (N : DEnv → Prop), ds[i]? = some d → I i δ → (∀ δ', I (i + 1) δ' → N δ') → lvs src δ (g d δ fun δ2 => tb { E with nx := N, ct := N, bk := E.nx } δ2))
    (hd : ∀ δ, I ds.length δ → lvs src δ (E.nx δ)) : forD src g tb E ds δ := by
  have key : ∀ (m i : Nat) (δ : DEnv), ds.length - i = m → i ≤ ds.length → I i δ → forD src g tb E (ds.drop i) δ := by
    intro m
    induction m with
    | zero =>
      intro i δ hm hi h
      have e : i = ds.length := by omega
      subst e
      rw [List.drop_eq_nil_of_le (Nat.le_refl _), for_nil]
      exact hd δ h
    | succ m ih =>
      intro i δ hm hi h
      have hlt : i < ds.length := by omega
      rw [List.drop_eq_getElem_cons hlt, for_cons]
      exact hs i ds[i] δ _ (List.getElem?_eq_getElem hlt) h fun δ' h' => ih (i + 1) δ' (by omega) (by omega) h'
  have := key ds.length 0 δ (by omega) (by omega) h0
  rwa [List.drop_zero] at this
/-- over data that encode xs -/
theorem for_map {α : Type} {enc : α → D} {xs : List α} (I : Nat → DEnv → Prop) (h0 : I 0 δ)
    (hs : ∀ (i : Nat) (x : α) (δ : DEnv) (N : DEnv → Prop), xs[i]? = some x → I i δ → (∀ δ', I (i + 1) δ' → N δ') → lvs src δ (g (enc x) δ fun δ2 => tb { E with nx := N, ct := N, bk := E.nx } δ2))
    (hd : ∀ δ, I xs.length δ → lvs src δ (E.nx δ)) : forD src g tb E (xs.map enc) δ := by
  refine for_inv I h0 (fun i d δ N e h k => ?_) fun δ h => hd δ (by rwa [List.length_map] at h)
  rw [List.getElem?_map] at e
  cases q : xs[i]? with
  | none =>
    rw [q] at e
    cases e
  | some x =>
    rw [q] at e
    cases e
    exact hs i x δ N q h k
/-- a state s that each turn takes on -/
theorem for_fold {α S : Type} {enc : α → D} {xs : List α} (env : S → DEnv) (step : S → α → S) (s : S)
    (hs : ∀ (s : S) (x : α) (N : DEnv → Prop), x ∈ xs → N (env (step s x)) → lvs src (env s) (g (enc x) (env s) fun δ2 => tb { E with nx := N, ct := N, bk := E.nx } δ2))
    (hd : lvs src (env (xs.foldl step s)) (E.nx (env (xs.foldl step s)))) : forD src g tb E (xs.map enc) (env s) := by
  induction xs generalizing s with
  | nil =>
    rw [List.map_nil, for_nil]
    exact hd
  | cons x r ih =>
    rw [List.map_cons, for_cons]
    exact hs s x _ List.mem_cons_self (ih (step s x) (fun s x N hx => hs s x N (List.mem_cons_of_mem _ hx)) hd)
variable {tt : DTT} {te : DTE} {vs : List Nat} {acc : List D} {Q : List D → DEnv → Prop}
/-- a comprehension that leaves all else -/
theorem lc_fm (f : D → Option D)
    (hs : ∀ (d : D) (K : D → DEnv → Prop) (K0 : DEnv → Prop), d ∈ ds → (∀ x, f d = some x → K x δ) → (f d = none → K0 δ) → lvs src δ (g d δ fun δ2 => tt δ2 fun b δ3 => kIf b (te δ3 (kFzD fun x δ4 => K x (wipeD δ4 vs))) (K0 (wipeD δ3 vs))))
    (hq : lvs src δ (Q (acc ++ ds.filterMap f) δ)) : lcD src g tt te vs ds acc δ Q := by
  induction ds generalizing acc with
  | nil =>
    rw [lc_nil]
    simpa using hq
  | cons d r ih =>
    rw [lc_cons]
    have hs' : ∀ (d : D) (K : D → DEnv → Prop) (K0 : DEnv → Prop), d ∈ r → (∀ x, f d = some x → K x δ) → (f d = none → K0 δ) → lvs src δ (g d δ fun δ2 => tt δ2 fun b δ3 => kIf b (te δ3 (kFzD fun x δ4 => K x (wipeD δ4 vs))) (K0 (wipeD δ3 vs))) := fun d K K0 hd => hs d K K0 (List.mem_cons_of_mem _ hd)
    refine hs d (fun x δ' => lcD src g tt te vs r (acc ++ [x]) δ' Q) (fun δ' => lcD src g tt te vs r acc δ' Q) List.mem_cons_self (fun x e => ?_) fun e => ?_
    · refine ih (acc := acc ++ [x]) hs' ?_
      rw [List.filterMap_cons_some e] at hq
      rw [List.append_assoc]
      exact hq
    · refine ih hs' ?_
      rw [List.filterMap_cons_none e] at hq
      exact hq
/-- .. each item kept -/
theorem lc_map {α : Type} {enc : α → D} {xs : List α} (f : α → D)
    (hs : ∀ (x : α) (K : D → DEnv → Prop), x ∈ xs → K (f x) δ → lvs src δ (g (enc x) δ fun δ2 => te δ2 (kFzD fun y δ4 => K y (wipeD δ4 vs))))
    (hq : lvs src δ (Q (acc ++ xs.map f) δ)) : lcD src g dYes te vs (xs.map enc) acc δ Q := by
  induction xs generalizing acc with
  | nil =>
    rw [List.map_nil, lc_nil]
    simpa using hq
  | cons x r ih =>
    rw [List.map_cons, lc_cons]
    refine hs x (fun y δ' => lcD src g dYes te vs (r.map enc) (acc ++ [y]) δ' Q) List.mem_cons_self ?_
    refine ih (fun x K hx => hs x K (List.mem_cons_of_mem _ hx)) ?_
    rw [List.append_assoc]
    exact hq
/-- .. those that pass a test -/
theorem lc_filter {α : Type} {enc : α → D} {xs : List α} (p : α → Bool) (f : α → D)
    (hs : ∀ (x : α) (K : D → DEnv → Prop) (K0 : DEnv → Prop), x ∈ xs → (p x = true → K (f x) δ) → (p x = false → K0 δ) → lvs src δ (g (enc x) δ fun δ2 => tt δ2 fun b δ3 => kIf b (te δ3 (kFzD fun y δ4 => K y (wipeD δ4 vs))) (K0 (wipeD δ3 vs))))
    (hq : lvs src δ (Q (acc ++ (xs.filter p).map f) δ)) : lcD src g tt te vs (xs.map enc) acc δ Q := by
  induction xs generalizing acc with
  | nil =>
    rw [List.map_nil, lc_nil]
    simpa using hq
  | cons x r ih =>
    rw [List.map_cons, lc_cons]
    refine hs x (fun y δ' => lcD src g tt te vs (r.map enc) (acc ++ [y]) δ' Q) (fun δ' => lcD src g tt te vs (r.map enc) acc δ' Q) List.mem_cons_self (fun e => ?_) fun e => ?_
    · refine ih (fun x K K0 hx => hs x K K0 (List.mem_cons_of_mem _ hx)) ?_
      rw [List.filter_cons_of_pos e, List.map_cons] at hq
      rw [List.append_assoc]
      exact hq
    · refine ih (fun x K K0 hx => hs x K K0 (List.mem_cons_of_mem _ hx)) ?_
      rw [List.filter_cons_of_neg (by rw [e]; exact Bool.false_ne_true)] at hq
      exact hq
/-- a comprehension by what holds between its turns -/
theorem lc_inv (I : Nat → List D → DEnv → Prop) (h0 : I 0 [] δ)
    (hs : ∀ (i : Nat) (d : D) (acc : List D) (δ : DEnv) (K : D → DEnv → Prop) (K0 : DEnv → Prop), ds[i]? = some d → I i acc δ → (∀ x δ', I (i + 1) (acc ++ [x]) δ' → K x δ') → (∀ δ', I (i + 1) acc δ' → K0 δ') →
      lvs src δ (g d δ fun δ2 => tt δ2 fun b δ3 => kIf b (te δ3 (kFzD fun x δ4 => K x (wipeD δ4 vs))) (K0 (wipeD δ3 vs))))
    (hd : ∀ acc δ, I ds.length acc δ → lvs src δ (Q acc δ)) : lcD src g tt te vs ds [] δ Q := by
  have key : ∀ (m i : Nat) (acc : List D) (δ : DEnv), ds.length - i = m → i ≤ ds.length → I i acc δ → lcD src g tt te vs (ds.drop i) acc δ Q := by
    intro m
    induction m with
    | zero =>
      intro i acc δ hm hi h
      have e : i = ds.length := by omega
      subst e
      rw [List.drop_eq_nil_of_le (Nat.le_refl _), lc_nil]
      exact hd acc δ h
    | succ m ih =>
      intro i acc δ hm hi h
      have hlt : i < ds.length := by omega
      rw [List.drop_eq_getElem_cons hlt, lc_cons]
      exact hs i ds[i] acc δ (fun x δ' => lcD src g tt te vs (ds.drop (i + 1)) (acc ++ [x]) δ' Q) (fun δ' => lcD src g tt te vs (ds.drop (i + 1)) acc δ' Q) (List.getElem?_eq_getElem hlt) h (fun x δ' h' => ih (i + 1) _ δ' (by omega) (by omega) h') fun δ' h' => ih (i + 1) _ δ' (by omega) (by omega) h'
  have := key ds.length 0 [] δ (by omega) (by omega) h0
  rwa [List.drop_zero] at this
end
theorem rngD_get {lo : Int} {n i : Nat} {d : D} (h : (rngD lo n)[i]? = some d) : i < n ∧ d = .int (lo + i) := by
  unfold rngD at h
  rw [List.getElem?_map] at h
  by_cases hi : i < n
  · rw [List.getElem?_range hi] at h
    cases h
    exact ⟨hi, rfl⟩
  · rw [List.getElem?_eq_none (by simpa using hi)] at h
    cases h
theorem rngD_len {lo : Int} {n : Nat} : (rngD lo n).length = n := by
  unfold rngD
  rw [List.length_map, List.length_range]
theorem sz {n : Nat} (h : n ≤ 16777216) : n ≤ sizeLine := by
  rw [sizeLine_eq]
  exact h
theorem szlt {n : Nat} (h : n < 16777216) : n < sizeLine := by
  rw [sizeLine_eq]
  exact h
end DL
namespace DL
open PySem L2
theorem cutD_map {α : Type} (f : α → D) (xs : List α) (lo hi : Option Int) : cutD (xs.map f) lo hi = ((xs.drop (HT.sIx xs.length 0 lo)).take (HT.sIx xs.length xs.length hi - HT.sIx xs.length 0 lo)).map f := by
  unfold cutD
  rw [List.length_map, List.map_take, List.map_drop]
theorem cutD_len (xs : List D) (lo hi : Option Int) : (cutD xs lo hi).length ≤ xs.length := by
  unfold cutD
  rw [List.length_take, List.length_drop]
  omega
theorem sIx_int (n d : Nat) (k : Int) (h : 0 ≤ k) : HT.sIx n d (some k) = min k.toNat n := by
  obtain ⟨j, rfl⟩ : ∃ j : Nat, k = (j : Int) := ⟨k.toNat, by omega⟩
  rw [HT.sIx_nat]
  rfl
theorem cut_take {α : Type} (f : α → D) (xs : List α) (k : Int) (h : 0 ≤ k) : cutD (xs.map f) none (some k) = (xs.take k.toNat).map f := by
  rw [cutD_map, HT.sIx_none, sIx_int _ _ _ h, List.drop_zero, Nat.sub_zero]
  congr 1
  rcases Nat.le_total k.toNat xs.length with hk | hk
  · rw [Nat.min_eq_left hk]
  · rw [Nat.min_eq_right hk, List.take_length, List.take_of_length_le hk]
/-- a box that was drawn from n times at most -/
def Bx (n : Nat) (b : List D) : Prop := ∃ x y c : Int, b = [.int x, .int y, .int c] ∧ 0 ≤ x ∧ 0 ≤ y ∧ y < 2147483647 ∧ 0 ≤ c ∧ c ≤ n
theorem Bx.mono {n m : Nat} {b : List D} (h : Bx n b) (l : n ≤ m) : Bx m b := by
  obtain ⟨x, y, c, e, h1, h2, h3, h4, h5⟩ := h
  exact ⟨x, y, c, e, h1, h2, h3, h4, by omega⟩
/-- drawing a number below m -/
def fTake : FB := fun b ds Post => ∃ (n : Nat) (m : Int), Bx n b ∧ n < 100000000 ∧ ds = [.int m] ∧ 0 < m ∧ m < 1000000000 ∧ ∀ r b', 0 ≤ r → r < m → Bx (n + 1) b' → Post (.fz (.int r)) b'
theorem fTake_of {n : Nat} {m : Int} {b : List D} {Post : C → List D → Prop} (h : Bx n b) (hn : n < 100000000) (h0 : 0 < m) (hm : m < 1000000000) (k : ∀ r b', 0 ≤ r → r < m → Bx (n + 1) b' → Post (.fz (.int r)) b') : fTake b [.int m] Post := ⟨n, m, h, hn, rfl, h0, hm, k⟩
def fBox : FP := fun ds Post => ∃ (ns : List Int) (k : Nat), ds = [.lst (ns.map .int), .int k] ∧ k ≤ 1000 ∧ ∀ p b, Bx 0 b → Post (.own p b)
def fFold : FP := fun ds Post => ∃ (ns : List Int) (m : Nat), ds = [.scr ns, .int m] ∧ 0 < m ∧ m ≤ 63 ∧ ns.length ≤ 63 ∧ ∀ p (cs : List Int), cs.length ≤ m → cs.length ≤ ns.length → Post (.own p (cs.map .int))
end DL

namespace DL
open PySem L2
/-! ### texts by their signs -/
def cs (x : Str) : List Nat := x.cps.toList
theorem cs_len (x : Str) : (cs x).length = x.length := by
  unfold cs Str.length
  simp
theorem cs_ext {x y : Str} (h : cs x = cs y) : x = y := by
  cases x
  cases y
  unfold cs at h
  simp at h
  rw [h]
theorem cs_app (x y : Str) : cs (x ++ y) = cs x ++ cs y := by
  show (x.cps ++ y.cps).toList = _
  simp [cs]
theorem len_app (x y : Str) : (x ++ y).length = x.length + y.length := by
  rw [← cs_len, ← cs_len, ← cs_len, cs_app, List.length_append]
theorem cs_one (c : Nat) : cs ⟨#[c]⟩ = [c] := rfl
theorem len_one (c : Nat) : (⟨#[c]⟩ : Str).length = 1 := rfl
theorem cs_cut (x : Str) (lo hi : Option Int) : cs (cutS x lo hi) = ((cs x).drop (HT.sIx (cs x).length 0 lo)).take (HT.sIx (cs x).length (cs x).length hi - HT.sIx (cs x).length 0 lo) := by
  rw [cs_len]
  rfl
theorem len_cut (x : Str) (lo hi : Option Int) : (cutS x lo hi).length ≤ x.length := by
  rw [← cs_len, cs_cut, List.length_take, List.length_drop, cs_len]
  omega
theorem cs_empty : cs Str.empty = [] := rfl
theorem cs_lit0 : cs ("" : Str) = [] := by decide +kernel
theorem glue_nil : ∀ ys : List Str, cs (Str.join "" ys) = (ys.map cs).flatten
  | [] => rfl
  | [x] => by simp [Str.join]
  | x :: y :: r => by
    show cs (x ++ "" ++ Str.join "" (y :: r)) = _
    rw [cs_app, cs_app, cs_lit0, glue_nil (y :: r)]
    simp
theorem signs_map (x : Str) : signs x = (cs x).map fun c => .str ⟨#[c]⟩ := rfl
theorem cs_mk (l : List Nat) : cs ⟨l.toArray⟩ = l := rfl
theorem lt_sing (a b : Nat) : decide ([a] < [b]) = decide (a < b) := by
  by_cases h : a < b
  · rw [decide_eq_true h]
    exact decide_eq_true (List.Lex.rel h)
  · rw [decide_eq_false h]
    refine decide_eq_false fun z => ?_
    cases z with
    | rel h' => exact h h'
    | cons h' => cases h'
theorem lt_iff1 (a b : Nat) : ([a] < [b]) ↔ a < b := by
  have := lt_sing a b
  rwa [decide_eq_decide] at this
theorem lt_of1 (x : Str) (a : Nat) {c : Nat} (h : x.cps.toList = [a] := by decide +kernel) : ((⟨#[c]⟩ : Str).cps.toList < x.cps.toList) ↔ c < a := by
  rw [h]
  exact lt_iff1 c a
theorem of_lt1 (x : Str) (a : Nat) {c : Nat} (h : x.cps.toList = [a] := by decide +kernel) : (x.cps.toList < (⟨#[c]⟩ : Str).cps.toList) ↔ a < c := by
  rw [h]
  exact lt_iff1 a c
theorem cs_join (ys : List Str) : cs (Txt.join "" ys) = (ys.map cs).flatten := by
  show cs (Builtin.Str.glued "" ys) = _
  rw [PySem.StrLaws.glued_eq_join]
  exact glue_nil ys
/-! ### equal data -/
def OkD (k : Nat) (d : D) : Prop := (toPy d).canLay0 = true ∧ (toPy d).depth ≤ k
theorem ok_int {i : Int} : OkD 0 (.int i) := ⟨by simp [toPy, PyData.canLay0], by simp [toPy, PyData.depth]⟩
theorem ok_bl {i : Bool} : OkD 0 (.bl i) := ⟨by simp [toPy, PyData.canLay0], by simp [toPy, PyData.depth]⟩
theorem ok_non : OkD 0 .non := ⟨by simp [toPy, PyData.canLay0], by simp [toPy, PyData.depth]⟩
theorem ok_str {x : Str} (h : PyData.strOk x = true) : OkD 0 (.str x) := ⟨by simpa [toPy, PyData.canLay0] using h, by simp [toPy, PyData.depth]⟩
theorem OkD.mono {k l : Nat} {d : D} (h : OkD k d) (e : k ≤ l) : OkD l d := ⟨h.1, Nat.le_trans h.2 e⟩
theorem ok_all {k : Nat} : ∀ {ds : List D}, (∀ d ∈ ds, OkD k d) → PyData.canLayAll0 (toPyL ds) = true ∧ PyData.depthAll (toPyL ds) ≤ k
  | [], _ => ⟨by simp [toPyL, PyData.canLayAll0], by simp [toPyL, PyData.depthAll]⟩
  | d :: ds, h => by
    obtain ⟨h1, h2⟩ := h d List.mem_cons_self
    obtain ⟨h3, h4⟩ := ok_all (ds := ds) fun e he => h e (List.mem_cons_of_mem _ he)
    exact ⟨by simp [toPyL, PyData.canLayAll0, h1, h3], by simp only [toPyL, PyData.depthAll]; omega⟩
theorem ok_lst {k : Nat} {ds : List D} (h : ∀ d ∈ ds, OkD k d) : OkD (k + 1) (.lst ds) := by
  obtain ⟨h1, h2⟩ := ok_all h
  exact ⟨by simpa [toPy, PyData.canLay0] using h1, by simp only [toPy, PyData.depth]; omega⟩
theorem ok_tup {k : Nat} {ds : List D} (h : ∀ d ∈ ds, OkD k d) : OkD (k + 1) (.tup ds) := by
  obtain ⟨h1, h2⟩ := ok_all h
  exact ⟨by simpa [toPy, PyData.canLay0] using h1, by simp only [toPy, PyData.depth]; omega⟩
theorem OkD.sh {k : Nat} {d : D} (h : OkD k d) (e : k ≤ 64) : shD d = true := by
  unfold shD SeqAt.shaped
  rw [h.1, Bool.true_and]
  exact decide_eq_true (Nat.le_trans h.2 e)
theorem toPyL_map : ∀ ds : List D, toPyL ds = ds.map toPy
  | [] => rfl
  | d :: ds => by rw [toPyL, toPyL_map ds, List.map_cons]
theorem eqD_tup (xs ys : List D) : eqD (.tup xs) (.tup ys) = PyData.eqvAll (toPyL xs) (toPyL ys) := by
  unfold eqD
  rw [toPy, toPy, PyData.eqv]
theorem eqD_lst (xs ys : List D) : eqD (.lst xs) (.lst ys) = PyData.eqvAll (toPyL xs) (toPyL ys) := by
  unfold eqD
  rw [toPy, toPy, PyData.eqv]
theorem eqA_cons (x y : D) (xs ys : List D) : PyData.eqvAll (toPyL (x :: xs)) (toPyL (y :: ys)) = (eqD x y && PyData.eqvAll (toPyL xs) (toPyL ys)) := by
  rw [toPyL, toPyL, PyData.eqvAll]
  rfl
theorem eqA_nil : PyData.eqvAll (toPyL []) (toPyL []) = true := rfl
theorem eqA_cn (x : D) (xs : List D) : PyData.eqvAll (toPyL (x :: xs)) (toPyL []) = false := by
  rw [toPyL, toPyL, PyData.eqvAll]
theorem eqA_nc (x : D) (xs : List D) : PyData.eqvAll (toPyL []) (toPyL (x :: xs)) = false := by
  rw [toPyL, toPyL, PyData.eqvAll]
theorem eqD_int (i j : Int) : eqD (.int i) (.int j) = decide (i = j) := by
  unfold eqD
  rw [toPy, toPy, PyData.eqv, Bool.beq_eq_decide_eq]
theorem eqD_str (i j : Str) : eqD (.str i) (.str j) = decide (i = j) := by
  unfold eqD
  rw [toPy, toPy, PyData.eqv, Bool.beq_eq_decide_eq]
theorem eqD_bl (i j : Bool) : eqD (.bl i) (.bl j) = decide (i = j) := by
  unfold eqD
  rw [toPy, toPy, PyData.eqv, Bool.beq_eq_decide_eq]
/-- lists of like things are equal just where these are -/
theorem eqA_map {α : Type} {enc : α → D} (h : ∀ x y : α, eqD (enc x) (enc y) = true ↔ x = y) : ∀ xs ys : List α, PyData.eqvAll (toPyL (xs.map enc)) (toPyL (ys.map enc)) = true ↔ xs = ys
  | [], [] => by simp [eqA_nil]
  | x :: xs, [] => by
    rw [List.map_cons, List.map_nil, eqA_cn]
    simp
  | [], y :: ys => by
    rw [List.map_cons, List.map_nil, eqA_nc]
    simp
  | x :: xs, y :: ys => by
    rw [List.map_cons, List.map_cons, eqA_cons, Bool.and_eq_true, h, eqA_map h xs ys]
    simp
theorem eqL_map {α : Type} {enc : α → D} (h : ∀ x y : α, eqD (enc x) (enc y) = true ↔ x = y) (xs ys : List α) : eqD (.lst (xs.map enc)) (.lst (ys.map enc)) = true ↔ xs = ys := by
  rw [eqD_lst]
  exact eqA_map h xs ys
theorem eqD_refl {d : D} (h : shD d = true) : eqD d d = true := SeqAt.eqv_refl _ (SeqAt.canLay_of_shaped h)
theorem post_eq {Post : C → Prop} {b b' : Bool} (h : Post (.fz (.bl b))) (e : b' = b) : Post (.fz (.bl b')) := e ▸ h
/-! ### small letters, figures -/
def isL (c : Nat) : Bool := decide (97 ≤ c) && decide (c ≤ 122)
def isF (c : Nat) : Bool := decide (48 ≤ c) && decide (c ≤ 57)
theorem letters_cps : ("abcdefghijklmnopqrstuvwxyz" : Str).cps.toList = (List.range 26).map (· + 97) := by decide +kernel
theorem figures_cps : ("0123456789" : Str).cps.toList = (List.range 10).map (· + 48) := by decide +kernel
theorem in_letters (c : Nat) : decide (c ∈ ("abcdefghijklmnopqrstuvwxyz" : Str).cps.toList) = isL c := by
  rw [letters_cps]
  unfold isL
  rw [← Bool.decide_and]
  apply decide_eq_decide.mpr
  simp only [List.mem_map, List.mem_range]
  constructor
  · rintro ⟨k, hk, rfl⟩
    omega
  · intro h
    exact ⟨c - 97, by omega, by omega⟩
theorem in_figures (c : Nat) : decide (c ∈ ("0123456789" : Str).cps.toList) = isF c := by
  rw [figures_cps]
  unfold isF
  rw [← Bool.decide_and]
  apply decide_eq_decide.mpr
  simp only [List.mem_map, List.mem_range]
  constructor
  · rintro ⟨k, hk, rfl⟩
    omega
  · intro h
    exact ⟨c - 48, by omega, by omega⟩
/-! ### a rest of a block, held back -/
@[irreducible] def dCut (t : DTS) : DTS := t
theorem cut_eq (t : DTS) : dCut t = t := by
  unfold dCut
  rfl
theorem ss_cut {X : Cx} {sts : List Stmt} {t : DTS} (h : DSs X sts t) : DSs X sts (dCut t) := by
  rw [cut_eq]
  exact h
theorem kIf_t {b : Bool} {A B : Prop} (h : b = true) (a : A) : kIf b A B := by
  rw [h]
  exact a
theorem kIf_f {b : Bool} {A B : Prop} (h : b = false) (a : B) : kIf b A B := by
  rw [h]
  exact a
end DL

namespace DL
open PySem L2
/-! ### calls that read lists of one's own -/
mutual
def flD : D → Bool
  | .lst _ => false
  | .scr _ => false
  | .tup ds => flDs ds
  | _ => true
def flDs : List D → Bool
  | [] => true
  | d :: ds => flD d && flDs ds
end
theorem flDs_all : ∀ {ds : List D}, (∀ d ∈ ds, flD d = true) → flDs ds = true
  | [], _ => rfl
  | d :: ds, h => by
    rw [flDs, h d List.mem_cons_self, flDs_all fun e he => h e (List.mem_cons_of_mem _ he)]
    rfl
theorem flDs_map {α : Type} {enc : α → D} {xs : List α} (h : ∀ x, flD (enc x) = true) : flDs (xs.map enc) = true := flDs_all fun d hd => by
  obtain ⟨x, _, rfl⟩ := List.mem_map.mp hd
  exact h x
theorem flDs_mem : ∀ {ds : List D}, flDs ds = true → ∀ d ∈ ds, flD d = true
  | d :: ds, h, e, he => by
    rw [flDs, Bool.and_eq_true] at h
    rcases List.mem_cons.mp he with rfl | he
    · exact h.1
    · exact flDs_mem h.2 e he
/-- B1 and the tuples of B2 -/
def tupsH (B1 B2 : Hp) : Hp := fun a => match B1 a with
  | some o => some o
  | none => match B2 a with
    | some (.tup xs) => some (.tup xs)
    | some (.frz o (.tup xs)) => some (.frz o (.tup xs))
    | _ => none
theorem tupsH_1 {B1 B2 : Hp} : Same B1 (tupsH B1 B2) := fun a o e => by
  unfold tupsH
  rw [e]
theorem tupsH_2 {B1 B2 : Hp} (s : Same B1 B2) : Same (tupsH B1 B2) B2 := fun a o e => by
  unfold tupsH at e
  cases q : B1 a with
  | some u =>
    rw [q] at e
    cases e
    exact s _ _ q
  | none =>
    rw [q] at e
    dsimp only at e
    split at e
    case h_1 xs h => rw [h, ← e]
    case h_2 u xs h => rw [h, ← e]
    case h_3 => cases e
theorem tupsH_l {B1 B2 : Hp} {a : Addr} {xs : List V} (h1 : B1 a = none) (h2 : ∀ o, B2 a = some o → o = .lst xs) : tupsH B1 B2 a = none := by
  unfold tupsH
  rw [h1]
  dsimp only
  split
  case h_1 ys h => exact (nomatch h2 _ h)
  case h_2 u ys h => exact (nomatch h2 _ h)
  case h_3 => rfl
mutual
theorem Rp.tups {K : PySem.W.Frag} {B1 B2 : Hp} (s : Same B1 B2) : ∀ (d : D) (v : V), flD d = true → Rp K B2 v d → Rp K (tupsH B1 B2) v d
  | .non, _, _, h => by cases h; exact .non
  | .bl b, _, _, h => by cases h; exact .bl b
  | .int b, _, _, h => by cases h; exact .int b
  | .str b, _, _, h => by cases h; exact .str b
  | .lst ds, _, e, _ => by
    rw [flD] at e
    cases e
  | .scr ds, _, e, _ => by
    rw [flD] at e
    cases e
  | .tup ds, _, e, h => by
    rw [flD] at e
    cases h with
    | tup h1 h2 =>
      refine .tup ?_ (RpL.tups s ds _ e h2)
      rename_i a xs
      rcases h1 with (h | ⟨o, h⟩) | h
      · refine .inl (.inl ?_)
        unfold tupsH
        cases q : B1 a with
        | some u =>
          have := s _ _ q
          rw [h] at this
          cases this
          rfl
        | none => dsimp only; rw [h]
      · refine .inl (.inr ⟨o, ?_⟩)
        unfold tupsH
        cases q : B1 a with
        | some u =>
          have := s _ _ q
          rw [h] at this
          cases this
          rfl
        | none => dsimp only; rw [h]
      · exact .inr h
theorem RpL.tups {K : PySem.W.Frag} {B1 B2 : Hp} (s : Same B1 B2) : ∀ (ds : List D) (vs : List V), flDs ds = true → RpL K B2 vs ds → RpL K (tupsH B1 B2) vs ds
  | [], _, _, h => by cases h; exact .nil
  | d :: ds, _, e, h => by
    rw [flDs, Bool.and_eq_true] at e
    cases h with
    | cons h1 h2 => exact .cons (Rp.tups s d _ e.1 h1) (RpL.tups s ds _ e.2 h2)
end
section
variable {K : PySem.W.Frag} {F B B' H H' : Hp} {σ σa : St} {δ as : DEnv}
/-- own lists seen as frozen for a while -/
theorem view_E (R : RE K F B H σ δ) : ∀ {vs : List V} {cs : List C}, RCL K B vs cs → lives cs δ → ∃ B', Same B B' ∧ Same B' H ∧ (∀ a o, B' a = some o → F a = none) ∧ RpL K B' vs (cs.map C.d)
  | _, _, .nil, _ => ⟨B, Same.refl B, R.sB, R.dj, .nil⟩
  | _, _, .cons (c := c) h t, l => by
    obtain ⟨B1, s1, s2, s3, r⟩ := view_E R t l.2
    cases c with
    | fz d => exact ⟨B1, s1, s2, s3, .cons (Rp.up h s1) r⟩
    | own p ds =>
      obtain ⟨i, hi⟩ := l.1
      obtain ⟨_, h2, h3, xs, h4, h5⟩ := R.own i p ds hi
      have sm : Same B1 (upd B1 p (.lst xs)) := fun a o e => by
        by_cases ha : a = p
        · subst ha
          rw [upd_same]
          have := s2 _ _ e
          rw [h4] at this
          exact this
        · rw [upd_ne ha]
          exact e
      have hv : _ = V.ref p := h
      subst hv
      refine ⟨upd B1 p (.lst xs), s1.trans sm, fun a o e => ?_, fun a o e => ?_, .cons (.lst upd_same (h5.up (s1.trans sm))) (r.up sm)⟩
      · by_cases ha : a = p
        · subst ha
          rw [upd_same] at e
          rw [h4, e]
        · rw [upd_ne ha] at e
          exact s2 _ _ e
      · by_cases ha : a = p
        · subst ha
          exact h3
        · rw [upd_ne ha] at e
          exact s3 _ _ e
theorem RE.afterR {B1 : Hp} (R : RE K F B H σ δ) (s1 : Same B B1) (s2 : Same B1 H) (s3 : ∀ a o, B1 a = some o → F a = none) (s : Same B1 B') (R' : RE K (restH B1 H) B' H' σa as) : RE K F (tupsH B B') H' σ δ where
  sB := (tupsH_2 (s1.trans s)).trans R'.sB
  sF := fun a o e => R'.sF a o (restH_of (by
    cases q : B1 a with
    | none => rfl
    | some u =>
      rw [s3 a u q] at e
      cases e) (R.sF a o e))
  dj := fun a o e => by
    cases q : F a with
    | none => rfl
    | some u =>
      have h1 : B1 a = none := by
        cases q1 : B1 a with
        | none => rfl
        | some u =>
          rw [s3 a u q1] at q
          cases q
      have := restH_of h1 (R.sF a u q)
      rw [R'.dj a o (tupsH_2 (s1.trans s) a o e)] at this
      cases this
  len := R.len
  fz := fun i d e => by
    obtain ⟨v, h1, h2⟩ := R.fz i d e
    exact ⟨v, h1, h2.up tupsH_1⟩
  own := fun i p ds e => by
    obtain ⟨h1, h2, h3, xs, h4, h5⟩ := R.own i p ds e
    have hH : H' p = some (.lst xs) := by
      cases q : B1 p with
      | none => exact R'.sF _ _ (restH_of q h4)
      | some u =>
        have := s2 _ _ q
        rw [h4] at this
        cases this
        exact R'.sB _ _ (s _ _ q)
    exact ⟨h1, tupsH_l h2 fun o ho => by
      have := R'.sB _ _ ho
      rw [hH] at this
      cases this
      rfl, h3, xs, hH, h5.up tupsH_1⟩
  sep := R.sep
end
def kResR (Q : C → DEnv → Prop) (δ : DEnv) : C → Prop
  | .fz d => flD d = true ∧ Q (.fz d) δ
  | .own _ ds => flDs ds = true ∧ Q (.fz (.lst ds)) δ
def kResRN (Q : List D → DEnv → Prop) (δ : DEnv) : C → Prop
  | .fz _ => False
  | .own _ ds => flDs ds = true ∧ Q ds δ
def dCallR (f : FP) (t : DTA) : DTE := fun δ Q => t δ fun cs δ1 => f (cs.map C.d) (kResR Q δ1)
def dCallRN (f : FP) (t : DTA) : DTN := fun δ Q => t δ fun cs δ1 => f (cs.map C.d) (kResRN Q δ1)
def CRes (c : C) : Bool := match c with
  | .fz d => flD d
  | .own _ ds => flDs ds
section
variable {X : Cx} {e : Expr} {es : List Expr} {pos p : Pos} {x : Str} {k n : Nat}
theorem callR_core {f : FP} {t : DTA} (ha : DA X es t) {F B H : Hp} {σ : St} {δ : DEnv} {M : C → DEnv → Prop} {Qe : VK} (R : RE X.K F B H σ δ) (h : t δ fun cs δ1 => f (cs.map C.d) fun c => M c δ1) (hn : es.length = n) (hM : ∀ c δ', M c δ' → CRes c = true)
    (k : ∀ v H' B' δ' c, Same B B' → RE X.K F B' H' σ δ' → RR X.K F B' H' δ' v c → M c δ' → Qe v H') : tCall (spD X.K n (phiP n f)) [] E0 (WA X es) σ H Qe := by
  refine (ha.run F B H σ δ _ R h).imp fun vs H1 ⟨B1, δ1, cs, hle, s1, R1, r1, l1, h1⟩ => ?_
  obtain ⟨B2, t1, t2, t3, rp⟩ := view_E R1 r1 l1
  show spD X.K n (phiP n f) (vs ++ []) H1 Qe E0
  rw [List.append_nil]
  refine ⟨restH B2 H1, B2, (cs.map C.d).map C.fz, hle.trans hn, rp.re0 t2, cs.map C.d, _, rfl, by rw [← rp.length, hle, hn], h1, fun c m v H' B' sB R' rr => ?_⟩
  have R3 := R1.afterR t1 t2 t3 sB R'
  refine k v H' _ δ1 c (s1.trans tupsH_1) R3 ?_ m
  have hc := hM c δ1 m
  cases c with
  | fz d => exact Rp.tups (t1.trans sB) d v hc rr
  | own q ds =>
    obtain ⟨xs, h1, h2, h3, _, h4, h5⟩ := rr
    have q1 : B1 q = none := by
      cases z : B1 q with
      | none => rfl
      | some u =>
        rw [sB _ _ (t1 _ _ z)] at h2
        cases h2
    have q2 : B2 q = none := by
      cases z : B2 q with
      | none => rfl
      | some u =>
        rw [sB _ _ z] at h2
        cases h2
    refine ⟨xs, h1, tupsH_l (xs := xs) q1 (fun o ho => ?_), ?_, fun j es e => ?_, h4, RpL.tups (t1.trans sB) ds xs hc h5⟩
    · rw [h2] at ho
      cases ho
    · cases z : F q with
      | none => rfl
      | some u =>
        rw [restH_of q2 (R1.sF q u z)] at h3
        cases h3
    · obtain ⟨_, _, _, ys, g4, _⟩ := R1.own j q es e
      rw [restH_of q2 g4] at h3
      cases h3
theorem e_callR {f : FP} {t : DTA} (cf : CalF X.prog X.w X.K X.mg X.base k x (es.length + 1) (phiP (es.length + 1) f)) (hr : Room k X.A) (ha : DA X (e :: es) t) (hg : Gl X x := by rfl) (hdb : (x == ("__debug__" : Str)) = false := by decide) (he : starEach (e :: es) X.env = (false, eval e X.env) :: starEach es X.env := by rfl) (hpl : (backTo pos (starEach es X.env)).any (·.1) = false := by rfl) :
    DE X (.Call (.Name x p) (e :: es) [] pos) (dCallR f t) := ⟨fun F B H σ δ Q R h => by
  obtain ⟨f0, fd, ps, F0, hm, hk, hb⟩ := cf
  refine pe_we (pe_call F0 hr hg hm hk hb .nil pass0 wa_pa hdb he hpl) (callR_core (M := fun c δ' => kResR Q δ' c) ha R h (by rw [List.length_cons]) (fun c δ' m => ?_) fun v H' B' δ' c sB R' rr m => ?_)
  · cases c with
    | fz d => exact m.1
    | own q ds => exact m.1
  · exact res_E sB R' rr (by
      cases c with
      | fz d => exact m.2
      | own q ds => exact m.2)⟩
theorem n_callR {f : FP} {t : DTA} (cf : CalF X.prog X.w X.K X.mg X.base k x (es.length + 1) (phiP (es.length + 1) f)) (hr : Room k X.A) (ha : DA X (e :: es) t) (hg : Gl X x := by rfl) (hdb : (x == ("__debug__" : Str)) = false := by decide) (he : starEach (e :: es) X.env = (false, eval e X.env) :: starEach es X.env := by rfl) (hpl : (backTo pos (starEach es X.env)).any (·.1) = false := by rfl) :
    DN X (.Call (.Name x p) (e :: es) [] pos) (dCallRN f t) := ⟨fun F B H σ δ Q R h => by
  obtain ⟨f0, fd, ps, F0, hm, hk, hb⟩ := cf
  refine pe_we (pe_call F0 hr hg hm hk hb .nil pass0 wa_pa hdb he hpl) (callR_core (M := fun c δ' => kResRN Q δ' c) ha R h (by rw [List.length_cons]) (fun c δ' m => ?_) fun v H' B' δ' c sB R' rr m => ?_)
  · cases c with
    | fz d => exact m.elim
    | own q ds => exact m.1
  · exact res_N sB R' rr (by
      cases c with
      | fz d => exact m.elim
      | own q ds => exact m.2)⟩
end
theorem rgC_pos {l c : Nat} (hc : 1 ≤ c) (hc2 : c < 1073741824) (hl : l < 2 ^ 60) : RgC 0 (l : Int) (c : Int) ((l + c - 1) / c) := by
  have e : Builtin.Range.rangeSize 0 (l : Int) (c : Int) = (((l + c - 1) / c : Nat) : Int) := by
    rw [PyProof.Rows.rangeSize_pos (by omega) (by omega), show ((l : Int) + c - 1) = ((l + c - 1 : Nat) : Int) by omega]
    rfl
  have le : (l + c - 1) / c ≤ l + c - 1 := Nat.div_le_self _ _
  refine ⟨by omega, by omega, ?_, e⟩
  unfold Builtin.Range.small
  rw [e]
  generalize (l + c - 1) / c = m at le
  simp only [Builtin.Range.rangeFitsLong, Bool.and_eq_true, Bool.or_eq_true, decide_eq_true_eq, beq_iff_eq]
  have h63 : (2 : Int) ^ 63 = 9223372036854775808 := by decide
  rw [h63]
  refine ⟨⟨⟨⟨by omega, by omega⟩, by omega⟩, by omega⟩, .inr ?_⟩
  rw [if_pos (by omega)]
  simp only [Bool.and_eq_true, decide_eq_true_eq]
  omega
theorem signs_len (x : Str) : (signs x).length = x.length := by
  rw [signs_map, List.length_map, cs_len]
theorem enumD_len : ∀ (ds : List D) (k : Nat), (enumD k ds).length = ds.length
  | [], _ => rfl
  | _ :: ds, k => by
    show (enumD (k + 1) ds).length + 1 = _
    rw [enumD_len ds (k + 1)]
    rfl
theorem ok_codes {x : Str} (h : ∀ c ∈ cs x, c < 1114112) : OkD 0 (.str x) := ok_str (by
  unfold PyData.strOk
  rw [Array.all_eq_true_iff_forall_mem]
  intro c hc
  exact decide_eq_true (h c (by unfold cs; exact Array.mem_toList_iff.mpr hc)))
theorem alnum_lt {c : Nat} (h : (isL c || isF c) = true) : c < 1114112 := by
  unfold isL isF at h
  simp at h
  omega
theorem ok_map {α : Type} {k : Nat} {enc : α → D} {xs : List α} (h : ∀ x ∈ xs, OkD k (enc x)) : OkD (k + 1) (.lst (xs.map enc)) := ok_lst fun d hd => by
  obtain ⟨x, hx, rfl⟩ := List.mem_map.mp hd
  exact h x hx
end DL

set_option Elab.async false
set_option linter.all false
set_option maxRecDepth 100000
set_option maxHeartbeats 4000000
namespace Lw
open PySem L2 DL
local macro_rules | `(tactic| walk_at "wh") => `(tactic| (conv => whnf))
local macro_rules | `(tactic| walk_at "sd") => `(tactic| first | with_reducible rfl | assumption | exact True.intro | omega | exact sz (by omega) | exact szlt (by omega) | (simp only [rngD_len, signs_len, len_app, len_one, List.length_append, List.length_range, List.length_map, List.length_cons, List.length_nil, cs_len] <;> first | exact sz (by omega) | exact szlt (by omega) | omega) | (unfold CMul; omega) | (unfold CDiv; omega) | (unfold CPow; omega) | exact ⟨0, rfl⟩ | exact ⟨1, rfl⟩ | exact ⟨2, rfl⟩ | exact ⟨3, rfl⟩ | exact ⟨4, rfl⟩ | exact ⟨5, rfl⟩ | exact ⟨6, rfl⟩ | exact ⟨7, rfl⟩ | exact ⟨8, rfl⟩ | exact ⟨9, rfl⟩ | exact ⟨10, rfl⟩ | exact ⟨11, rfl⟩ | exact ⟨12, rfl⟩ | exact ⟨13, rfl⟩ | exact ⟨14, rfl⟩ | exact ⟨15, rfl⟩ | exact ⟨16, rfl⟩ | exact ⟨17, rfl⟩ | exact ⟨18, rfl⟩ | exact ⟨19, rfl⟩ | exact ⟨20, rfl⟩ | exact ⟨21, rfl⟩ | exact ⟨22, rfl⟩ | exact ⟨23, rfl⟩ | exact ⟨24, rfl⟩ | exact ⟨25, rfl⟩ | exact (rfl : _ = true) | decide)
local macro_rules | `(tactic| walk_at "go") => `(tactic| (conv => whnf); repeat ((with_reducible refine And.intro ?_ ?_); (focus (walk_at "sd"; done)); (conv => whnf)))
local macro_rules | `(tactic| walk_at "if") => `(tactic| first | refine kIf_dec ?_ ?_ | refine kIf_ndec ?_ ?_ | refine kIf_nb ?_ ?_ | refine kIf_b ?_ ?_)
local macro_rules | `(tactic| walk_at "tk") => `(tactic| refine ⟨_, _, by assumption, by omega, rfl, by omega, by omega, ?_⟩)
local macro_rules | `(tactic| walk_at "all") => `(tactic| (walk_at "go"; repeat' (walk_at "if" <;> intro h <;> walk_at "go")))
local macro_rules | `(tactic| walk_at "cut") => `(tactic| (rw [cut_eq]; walk_at "go"))
def topS (i : Nat) : Stmt := PySem.Challenge.pw_manylines_k06_texts_cut_in_pieces.main.body.getD i (.Pass ⟨0, 0, 0, 0⟩)
structure Txt (K : PySem.W.Frag) (mg : Str → Option Value) : Prop where
  z_abs : mg "abs" = none
  z_all : mg "all" = none
  z_divmod : mg "divmod" = none
  z_enumerate : mg "enumerate" = none
  z_int : mg "int" = none
  z_isinstance : mg "isinstance" = none
  z_len : mg "len" = none
  z_list : mg "list" = none
  z_max : mg "max" = none
  z_min : mg "min" = none
  z_range : mg "range" = none
  z_str : mg "str" = none
  m_FIGURES : ∃ t, mg "FIGURES" = some (.str "0123456789" t)
  m_LETTERS : ∃ t, mg "LETTERS" = some (.str "abcdefghijklmnopqrstuvwxyz" t)
  m_MOST_WORD : ∃ t, mg "MOST_WORD" = some (.int 12 t)
def wordB (w : Str) : Bool := decide (1 ≤ w.length) && decide (w.length ≤ 12) && (cs w).all fun c => isL c || isF c
def chk (l : List Nat) (s i : Nat) : List Nat := (l.drop (i * s)).take s
def pcs (t : Str) (s : Nat) : List Str := (List.range ((t.length + s - 1) / s)).map fun i => ⟨(chk (cs t) s i).toArray⟩
theorem cut_chk (t : Str) (s i : Nat) : cutS t (some ((0 : Int) + (i : Int) * (s : Int))) (some ((0 : Int) + (i : Int) * (s : Int) + (s : Int))) = ⟨(chk (cs t) s i).toArray⟩ := by
  apply cs_ext
  rw [cs_cut]
  show _ = chk (cs t) s i
  obtain ⟨k, hk⟩ : ∃ k : Nat, k = i * s := ⟨_, rfl⟩
  have e1 : (0 : Int) + (i : Int) * (s : Int) = (k : Int) := by rw [hk, Int.zero_add]; push_cast; rfl
  rw [e1]
  rw [sIx_int _ _ _ (by omega), sIx_int _ _ _ (by omega)]
  unfold chk
  rw [← hk]
  have e2 : ((k : Int)).toNat = k := by omega
  have e3 : ((k : Int) + (s : Int)).toNat = k + s := by omega
  rw [e2, e3]
  generalize cs t = l
  rcases Nat.le_total k l.length with h | h
  · rw [Nat.min_eq_left h]
    rcases Nat.le_total (k + s) l.length with h2 | h2
    · rw [Nat.min_eq_left h2]
      congr 1
      omega
    · rw [Nat.min_eq_right h2, List.take_of_length_le (by rw [List.length_drop]; omega), List.take_of_length_le (by rw [List.length_drop]; omega)]
  · rw [Nat.min_eq_right h, List.drop_eq_nil_of_le (Nat.le_refl _), List.drop_eq_nil_of_le h, List.take_nil, List.take_nil]
theorem chk_flat (l : List Nat) (s : Nat) : ∀ m : Nat, ((List.range m).map (chk l s)).flatten = l.take (m * s)
  | 0 => by simp
  | m + 1 => by
    rw [List.range_succ, List.map_append, List.flatten_append, chk_flat l s m, Nat.succ_mul, List.take_add]
    simp [chk]
theorem pcs_flat (t : Str) {s : Nat} (hs : 0 < s) : ((pcs t s).map cs).flatten = cs t := by
  unfold pcs
  rw [List.map_map]
  have e : (cs ∘ fun i => (⟨(chk (cs t) s i).toArray⟩ : Str)) = chk (cs t) s := rfl
  rw [e, chk_flat]
  apply List.take_of_length_le
  rw [cs_len]
  have h1 := Nat.div_add_mod (t.length + s - 1) s
  have h2 := Nat.mod_lt (t.length + s - 1) hs
  rw [Nat.mul_comm] at h1
  omega
theorem pcs_len (t : Str) (s : Nat) : (pcs t s).length = (t.length + s - 1) / s := by
  unfold pcs
  rw [List.length_map, List.length_range]
theorem pcs_get {t : Str} {s i : Nat} {w : Str} (h : (pcs t s)[i]? = some w) : i < (t.length + s - 1) / s ∧ w = ⟨(chk (cs t) s i).toArray⟩ := by
  unfold pcs at h
  rw [List.getElem?_map] at h
  by_cases hi : i < (t.length + s - 1) / s
  · rw [List.getElem?_range hi] at h
    cases h
    exact ⟨hi, rfl⟩
  · rw [List.getElem?_eq_none (by simpa using hi)] at h
    cases h
theorem sum_pcs (t : Str) {s : Nat} (hs : 0 < s) : ((pcs t s).map (·.length)).sum = t.length := by
  have := congrArg List.length (pcs_flat t hs)
  rw [List.length_flatten, List.map_map, cs_len] at this
  rw [← this]
  congr 1
section
variable {P : Program} {w : World} {K : PySem.W.Frag} {mg : Str → Option Value} {base : Heap}
/-! ### pieces_of -/
abbrev s_pieces_of : Stmt := topS 4
abbrev N_pieces_of : List Str := ["text", "size", "place"]
theorem sc_pieces_of : FnScope N_pieces_of ["text", "size"] (defScope s_pieces_of) := ⟨rfl, rfl, rfl, by decide +kernel, rfl, by decide +kernel, by decide +kernel⟩
def f_pieces_of : FP := fun ds Post => ∃ (t : Str) (s : Nat), ds = [.str t, .int s] ∧ 0 < s ∧ s ≤ 12 ∧ t.length ≤ 1000 ∧ ∀ p, Post (.own p ((pcs t s).map .str))
def rd_pieces_of : DTS := (dRetN (dLc (dRng3 (dCons (dC (.int 0)) (dCons (dCall gLen (dCons (dName 0) dNil)) (dCons (dName 1) dNil)))) (dgName 2) dYes (dSl (dName 0) (dPart (dName 2)) (dPart (dBin gAdd (dName 2) (dName 1)))) [2]))
theorem dv_pieces_of {f : Addr} {cdv : Value} {A : Around} {outer : List Env} {s : Shared} {H : Hp} {E : XK} (T : Txt K mg)  (hr : Room 0 (A.deeper (PyProof.Rows.envOfC "pieces_of" (defScope s_pieces_of) s.heap.objs.size f cdv))) :
    DSs (cxOf CX0 P w K mg base N_pieces_of "pieces_of" (defScope s_pieces_of) f cdv A outer s H E).nox (defBody s_pieces_of) rd_pieces_of := by
  have o := xok (CX := CX0) (P := P) (w := w) (K := K) (mg := mg) (base := base) (outer := outer) (H := H) (E := E) sc_pieces_of.nd hr
  exact (ss_one (s_retN (n_lc o [("place", 2)] (blkOk_by (N := N_pieces_of) (sc := defScope s_pieces_of) (by decide +kernel)) (i_rng3 T.z_range (a_cons e_int (a_cons (e_callB c_len T.z_len (a_cons (e_name 0) a_nil)) (a_cons (e_name 1) a_nil)))) (fun _ _ _ _ _ => (g_name 2 o.blk)) (fun _ _ _ _ _ => ts_nil) (fun _ _ _ _ _ => (e_sl (e_name 0) (po_e (e_name 2)) (po_e (e_bin o_add (e_name 2) (e_name 1))))))))
theorem pf_pieces_of : ∀ (ds : List D) (Post : C → Prop), ds.length = 2 → f_pieces_of ds Post → rd_pieces_of (endD fun c _ => Post c) (startD 3 (ds.map C.fz)) := by
  rintro ds Post - ⟨t, s, rfl, hs, hs2, ht, post⟩
  show rd_pieces_of (endD fun c _ => Post c) [some (.fz (.str t)), some (.fz (.int s)), none]
  walk_at "go"
  have h1 := Nat.div_add_mod (t.length + s - 1) s
  have h2 := Nat.mod_lt (t.length + s - 1) hs
  obtain ⟨m, hm⟩ : ∃ m, m = (t.length + s - 1) / s := ⟨_, rfl⟩
  rw [← hm] at h1
  have h3 : m ≤ 1000 := by rw [hm]; exact Nat.div_le_of_le_mul (by have : 1000 ≤ s * 1000 - (s - 1) := by omega
                                                                   omega)
  refine ⟨m, ?_, ?_⟩
  · rw [hm]
    exact rgC_pos (by omega) (by omega) (by omega)
  · unfold rngC
    refine ⟨by rw [List.length_map, List.length_range]; exact sz (by omega), lc_map (fun i : Nat => .str ⟨(chk (cs t) s i).toArray⟩) (fun i K hi k => ?_) ?_⟩
    · walk_at "go"
      rw [cut_chk]
      exact k
    · walk_at "go"
      intro p
      have := post p
      unfold pcs at this
      rw [← hm, List.map_map] at this
      exact this
theorem ok_pieces_of {f : Addr} {fd : FuncData} (F : Fun K "pieces_of" "pieces_of" s_pieces_of f fd) (hm : mg "pieces_of" = some (.ref f)) (T : Txt K mg)  : CalF P w K mg base 1 "pieces_of" 2 (phiP 2 f_pieces_of) :=
  okP F hm (F.binds fun _ _ _ _ _ _ us hl => match us, hl with | [_, _], _ => rfl) sc_pieces_of fun cdv A outer s H E hr => ⟨rd_pieces_of, dv_pieces_of T  hr, pf_pieces_of⟩
/-! ### text_of -/
abbrev s_text_of : Stmt := topS 5
abbrev N_text_of : List Str := ["words"]
theorem sc_text_of : FnScope N_text_of ["words"] (defScope s_text_of) := ⟨rfl, rfl, rfl, by decide +kernel, rfl, by decide +kernel, by decide +kernel⟩
def f_text_of : FP := fun ds Post => ∃ (ys : List Str), ds = [.lst (ys.map .str)] ∧ (ys.map (·.length)).sum ≤ 100000 ∧ ys.length ≤ 100000 ∧ Post (.fz (.str (Txt.join "" ys)))
def rd_text_of : DTS := (dRet (dJoin (dC (.str "")) (dName 0)))
theorem dv_text_of {f : Addr} {cdv : Value} {A : Around} {outer : List Env} {s : Shared} {H : Hp} {E : XK} (T : Txt K mg)  (hr : Room 0 (A.deeper (PyProof.Rows.envOfC "text_of" (defScope s_text_of) s.heap.objs.size f cdv))) :
    DSs (cxOf CX0 P w K mg base N_text_of "text_of" (defScope s_text_of) f cdv A outer s H E).nox (defBody s_text_of) rd_text_of := by
  have o := xok (CX := CX0) (P := P) (w := w) (K := K) (mg := mg) (base := base) (outer := outer) (H := H) (E := E) sc_text_of.nd hr
  exact (ss_one (s_ret (e_join e_str (e_name 0))))
theorem pf_text_of : ∀ (ds : List D) (Post : C → Prop), ds.length = 1 → f_text_of ds Post → rd_text_of (endD fun c _ => Post c) (startD 1 (ds.map C.fz)) := by
  rintro ds Post - ⟨ys, rfl, hs, hl, post⟩
  show rd_text_of (endD fun c _ => Post c) [some (.fz (.lst (ys.map .str)))]
  walk_at "go"
  have h0 : ("" : Str).length = 0 := by decide +kernel
  exact ⟨ys, rfl, by rw [h0]; omega, post⟩
theorem ok_text_of {f : Addr} {fd : FuncData} (F : Fun K "text_of" "text_of" s_text_of f fd) (hm : mg "text_of" = some (.ref f)) (T : Txt K mg)  : CalF P w K mg base 1 "text_of" 1 (phiP 1 f_text_of) :=
  okP F hm (F.binds fun _ _ _ _ _ _ us hl => match us, hl with | [_], _ => rfl) sc_text_of fun cdv A outer s H E hr => ⟨rd_text_of, dv_text_of T  hr, pf_text_of⟩
/-! ### is_word -/
abbrev s_is_word : Stmt := topS 6
abbrev N_is_word : List Str := ["word", "sign"]
theorem sc_is_word : FnScope N_is_word ["word"] (defScope s_is_word) := ⟨rfl, rfl, rfl, by decide +kernel, rfl, by decide +kernel, by decide +kernel⟩
def f_is_word : FP := fun ds Post => ∃ w : Str, ds = [.str w] ∧ w.length ≤ 1000 ∧ Post (.fz (.bl (wordB w)))
def rd_is_word : DTS := (dRet (dAndV (dChain gLe gLe (dC (.int 1)) (dCall gLen (dCons (dName 0) dNil)) (dC (.int 12))) (dCall gAll (dCons (dOfN (dLc (dItS (dName 0)) (dgName 1) dYes (dOrV (dBin gIn (dName 1) (dC (.str "abcdefghijklmnopqrstuvwxyz"))) (dBin gIn (dName 1) (dC (.str "0123456789")))) [1])) dNil))))
theorem dv_is_word {f : Addr} {cdv : Value} {A : Around} {outer : List Env} {s : Shared} {H : Hp} {E : XK} (T : Txt K mg)  (hr : Room 0 (A.deeper (PyProof.Rows.envOfC "is_word" (defScope s_is_word) s.heap.objs.size f cdv))) :
    DSs (cxOf CX0 P w K mg base N_is_word "is_word" (defScope s_is_word) f cdv A outer s H E).nox (defBody s_is_word) rd_is_word := by
  have o := xok (CX := CX0) (P := P) (w := w) (K := K) (mg := mg) (base := base) (outer := outer) (H := H) (E := E) sc_is_word.nd hr
  exact (ss_one (s_ret (e_and (e_chain o_le o_le e_int (e_callB c_len T.z_len (a_cons (e_name 0) a_nil)) (e_globI T.m_MOST_WORD.choose_spec)) (e_one (e_callB (c_all o) T.z_all (a_cons (e_ofN (n_lc o [("sign", 1)] (blkOk_by (N := N_is_word) (sc := defScope s_is_word) (by decide +kernel)) (i_str (e_name 0)) (fun _ _ _ _ _ => (g_name 1 o.blk)) (fun _ _ _ _ _ => ts_nil) (fun _ _ _ _ _ => (e_or (e_cmp (o_in o.blk) (e_name 1) (e_globS T.m_LETTERS.choose_spec)) (e_one (e_cmp (o_in o.blk) (e_name 1) (e_globS T.m_FIGURES.choose_spec))))))) a_nil))))))
theorem pf_is_word : ∀ (ds : List D) (Post : C → Prop), ds.length = 1 → f_is_word ds Post → rd_is_word (endD fun c _ => Post c) (startD 2 (ds.map C.fz)) := by
  rintro ds Post - ⟨w, rfl, hw, post⟩
  show rd_is_word (endD fun c _ => Post c) [some (.fz (.str w)), none]
  unfold wordB at post
  walk_at "go"
  walk_at "if"
  · intro h1
    rw [decide_eq_true (show 1 ≤ w.length by omega), Bool.true_and] at post
    walk_at "go"
    walk_at "if"
    · intro h2
      rw [decide_eq_true (show w.length ≤ 12 by omega), Bool.true_and] at post
      walk_at "go"
      rw [signs_map]
      refine lc_map (fun c => .bl (isL c || isF c)) (fun c K hc k => ?_) ?_
      · walk_at "go"
        rw [in_letters]
        walk_at "if"
        · intro h3
          rw [h3] at k
          exact k
        · intro h3
          rw [h3] at k
          walk_at "go"
          rw [in_figures]
          exact k
      · walk_at "go"
        refine ⟨(cs w).map fun c => isL c || isF c, by rw [List.map_map]; rfl, ?_⟩
        exact post_eq post (by rw [List.all_map]; rfl)
    · intro h2
      rw [decide_eq_false (show ¬ w.length ≤ 12 by omega), Bool.false_and] at post
      exact post
  · intro h1
    rw [decide_eq_false (show ¬ 1 ≤ w.length by omega), Bool.false_and, Bool.false_and] at post
    exact post
theorem ok_is_word {f : Addr} {fd : FuncData} (F : Fun K "is_word" "is_word" s_is_word f fd) (hm : mg "is_word" = some (.ref f)) (T : Txt K mg)  : CalF P w K mg base 1 "is_word" 1 (phiP 1 f_is_word) :=
  okP F hm (F.binds fun _ _ _ _ _ _ us hl => match us, hl with | [_], _ => rfl) sc_is_word fun cdv A outer s H E hr => ⟨rd_is_word, dv_is_word T  hr, pf_is_word⟩
/-! ### _law_box -/
abbrev s__law_box : Stmt := topS 8
abbrev N__law_box : List Str := ["_law_script", "_law_k", "_law_cell"]
theorem sc__law_box : FnScope N__law_box ["_law_script", "_law_k"] (defScope s__law_box) := ⟨rfl, rfl, rfl, by decide +kernel, rfl, by decide +kernel, by decide +kernel⟩
def f__law_box : FP := fBox
def rd__law_box : DTS := (dSeq (dSet 2 (dIf (dB (dBin gLt (dName 1) (dCall gLen (dCons (dName 0) dNil)))) (dIx (dName 0) (dName 1)) (dC (.int 0))))
    (dRetN (dLst (dCons (dBin gMul (dCall gAbs (dCons (dName 2) dNil)) (dCall gInt (dCons (dBin gGe (dCall gAbs (dCons (dName 2) dNil)) (dBin gPow (dC (.int 10)) (dC (.int 18)))) dNil))) (dCons (dBin gMod (dBin gMul (dBin gAdd (dBin gAdd (dBin gMod (dName 2) (dC (.int 2147483629))) (dBin gMul (dC (.int 15485863)) (dName 1))) (dC (.int 37))) (dC (.int 48271))) (dC (.int 2147483647))) (dCons (dC (.int 0)) dNil))))))
theorem dv__law_box {f : Addr} {cdv : Value} {A : Around} {outer : List Env} {s : Shared} {H : Hp} {E : XK} (T : Txt K mg)  (hr : Room 0 (A.deeper (PyProof.Rows.envOfC "_law_box" (defScope s__law_box) s.heap.objs.size f cdv))) :
    DSs (cxOf CX0 P w K mg base N__law_box "_law_box" (defScope s__law_box) f cdv A outer s H E).nox (defBody s__law_box) rd__law_box := by
  have o := xok (CX := CX0) (P := P) (w := w) (K := K) (mg := mg) (base := base) (outer := outer) (H := H) (E := E) sc__law_box.nd hr
  exact (ss_cons (s_set 2 o (e_if (t_cmp o_lt (e_name 1) (e_callB c_len T.z_len (a_cons (e_name 0) a_nil))) (e_ix (e_name 0) (e_name 1)) e_int))
      (ss_one (s_retN (n_lst (a_cons (e_bin o_mul (e_callB c_abs T.z_abs (a_cons (e_name 2) a_nil)) (e_callTy c_int T.z_int (a_cons (e_cmp o_ge (e_callB c_abs T.z_abs (a_cons (e_name 2) a_nil)) (e_bin o_pow e_int e_int)) a_nil))) (a_cons (e_bin o_mod (e_bin o_mul (e_bin o_add (e_bin o_add (e_bin o_mod (e_name 2) e_int) (e_bin o_mul e_int (e_name 1))) e_int) e_int) e_int) (a_cons e_int a_nil)))))))
theorem pf__law_box : ∀ (ds : List D) (Post : C → Prop), ds.length = 2 → f__law_box ds Post → rd__law_box (endD fun c _ => Post c) (startD 3 (ds.map C.fz)) := by
  rintro ds Post - ⟨ns, k, rfl, hk, post⟩
  show rd__law_box (endD fun c _ => Post c) [some (.fz (.lst (ns.map .int))), some (.fz (.int k)), none]
  have nn : ∀ (z : Int) (b : Bool), 0 ≤ (if z < 0 then -z else z) * (if b = true then 1 else 0) := fun z b => Int.mul_nonneg (by split <;> omega) (by split <;> omega)
  walk_at "go"
  walk_at "if"
  · intro h
    rw [List.length_map] at h
    walk_at "go"
    refine some_int (by omega) (by rw [List.length_map]; omega) fun x hx => ?_
    rw [List.getElem?_map] at hx
    obtain ⟨z, hz, rfl⟩ := Option.map_eq_some_iff.mp hx
    walk_at "go"
    exact fun p => post p _ ⟨_, _, _, rfl, nn _ _, Int.emod_nonneg _ (by decide), Int.emod_lt_of_pos _ (by decide), by omega, by omega⟩
  · intro h
    walk_at "go"
    exact fun p => post p _ ⟨_, _, _, rfl, nn _ _, Int.emod_nonneg _ (by decide), Int.emod_lt_of_pos _ (by decide), by omega, by omega⟩
theorem ok__law_box {f : Addr} {fd : FuncData} (F : Fun K "_law_box" "_law_box" s__law_box f fd) (hm : mg "_law_box" = some (.ref f)) (T : Txt K mg)  : CalF P w K mg base 1 "_law_box" 2 (phiP 2 f__law_box) :=
  okP F hm (F.binds fun _ _ _ _ _ _ us hl => match us, hl with | [_, _], _ => rfl) sc__law_box fun cdv A outer s H E hr => ⟨rd__law_box, dv__law_box T  hr, pf__law_box⟩
/-! ### _law_take -/
abbrev s__law_take : Stmt := topS 9
abbrev N__law_take : List Str := ["_law_box_here", "_law_many", "_law_found", "_law_step", "_law_once", "_law_twice"]
theorem sc__law_take : FnScope N__law_take ["_law_box_here", "_law_many"] (defScope s__law_take) := ⟨rfl, rfl, rfl, by decide +kernel, rfl, by decide +kernel, by decide +kernel⟩
def f__law_take : FB := fTake
def rd__law_take : DTS := (dSeq (dIfS (dB (dBin gGt (dIx (dName 0) (dC (.int 0))) (dC (.int 0)))) (dSeq (dAsg (dCall gDivmod (dCons (dIx (dName 0) (dC (.int 0))) (dCons (dName 1) dNil))) (dgTup (dgCons (dgSub 0 (dC (.int 0))) (dgCons (dgName 2) dgNil)) 2))
    (dRet (dName 2))) dNext)
    (dSeq (dAsg (dBin gAdd (dIx (dName 0) (dC (.int 2))) (dC (.int 1))) (dgSub 0 (dC (.int 2))))
    (dSeq (dSet 3 (dBin gAdd (dC (.int 69621)) (dBin gMul (dIx (dName 0) (dC (.int 2))) (dIx (dName 0) (dC (.int 2))))))
    (dSeq (dSet 4 (dBin gMod (dBin gMul (dBin gAdd (dIx (dName 0) (dC (.int 1))) (dBin gMul (dC (.int 39373)) (dIx (dName 0) (dC (.int 2))))) (dName 3)) (dC (.int 2147483587))))
    (dSeq (dSet 5 (dBin gMod (dBin gAdd (dBin gMul (dName 4) (dBin gAdd (dBin gMod (dName 4) (dC (.int 30011))) (dC (.int 5)))) (dIx (dName 0) (dC (.int 2)))) (dC (.int 2147483563))))
    (dRet (dBin gMod (dBin gFdiv (dBin gMod (dBin gMul (dName 5) (dBin gAdd (dBin gMod (dName 5) (dC (.int 1013))) (dC (.int 3)))) (dC (.int 998244353))) (dC (.int 16))) (dName 1))))))))
theorem dv__law_take {f : Addr} {cdv : Value} {A : Around} {outer : List Env} {s : Shared} {H : Hp} {E : XK} (T : Txt K mg)  (hr : Room 0 (A.deeper (PyProof.Rows.envOfC "_law_take" (defScope s__law_take) s.heap.objs.size f cdv))) :
    DSs (cxOf CX0 P w K mg base N__law_take "_law_take" (defScope s__law_take) f cdv A outer s H E).nox (defBody s__law_take) rd__law_take := by
  have o := xok (CX := CX0) (P := P) (w := w) (K := K) (mg := mg) (base := base) (outer := outer) (H := H) (E := E) sc__law_take.nd hr
  exact (ss_cons (s_if (t_cmp o_gt (e_ix (e_name 0) e_int) e_int) (ss_cons (s_asg (e_callB c_divmod T.z_divmod (a_cons (e_ix (e_name 0) e_int) (a_cons (e_name 1) a_nil))) (g_tup o (gs_cons (g_sub 0 e_int) (gs_cons (g_name 2 o) gs_nil))))
      (ss_one (s_ret (e_name 2)))) ss_nil)
      (ss_cons (s_asg (e_bin o_add (e_ix (e_name 0) e_int) e_int) (g_sub 0 e_int))
      (ss_cons (s_set 3 o (e_bin o_add e_int (e_bin o_mul (e_ix (e_name 0) e_int) (e_ix (e_name 0) e_int))))
      (ss_cons (s_set 4 o (e_bin o_mod (e_bin o_mul (e_bin o_add (e_ix (e_name 0) e_int) (e_bin o_mul e_int (e_ix (e_name 0) e_int))) (e_name 3)) e_int))
      (ss_cons (s_set 5 o (e_bin o_mod (e_bin o_add (e_bin o_mul (e_name 4) (e_bin o_add (e_bin o_mod (e_name 4) e_int) e_int)) (e_ix (e_name 0) e_int)) e_int))
      (ss_one (s_ret (e_bin o_mod (e_bin o_fdiv (e_bin o_mod (e_bin o_mul (e_name 5) (e_bin o_add (e_bin o_mod (e_name 5) e_int) e_int)) e_int) e_int) (e_name 1)))))))))
theorem pf__law_take : ∀ (p : Addr) (b ds : List D) (Post : C → List D → Prop), ds.length = 1 → f__law_take b ds Post → rd__law_take (endD (rtB p Post)) (startD 6 (C.own p b :: ds.map C.fz)) := by
  rintro p b ds Post - ⟨n, m, ⟨x, y, c, rfl, hx, hy, hy2, hc, hcn⟩, hn, rfl, hm, hm2, k⟩
  show rd__law_take (endD (rtB p Post)) [some (.own p [.int x, .int y, .int c]), some (.fz (.int m)), none, none, none, none]
  walk_at "go"
  walk_at "if"
  · intro h0
    walk_at "go"
    exact ⟨_, rfl, k _ _ (Int.emod_nonneg _ (by omega)) (Int.emod_lt_of_pos _ hm) ⟨_, _, _, rfl, Int.ediv_nonneg hx (by omega), hy, hy2, hc, by omega⟩⟩
  · intro h0
    walk_at "go"
    exact ⟨_, rfl, k _ _ (Int.emod_nonneg _ (by omega)) (Int.emod_lt_of_pos _ hm) ⟨_, _, _, rfl, hx, hy, hy2, by omega, by omega⟩⟩
theorem ok__law_take {f : Addr} {fd : FuncData} (F : Fun K "_law_take" "_law_take" s__law_take f fd) (hm : mg "_law_take" = some (.ref f)) (T : Txt K mg)  : CalF P w K mg base 1 "_law_take" 2 (phiB 1 f__law_take) :=
  okB F hm (F.binds fun _ _ _ _ _ _ us hl => match us, hl with | [_, _], _ => rfl) sc__law_take fun cdv A outer s H E hr => ⟨rd__law_take, dv__law_take T  hr, pf__law_take⟩
/-! ### _law_folded -/
abbrev s__law_folded : Stmt := topS 10
abbrev N__law_folded : List Str := ["_law_script", "_law_many", "_law_cells", "_law_k", "_law_cell"]
theorem sc__law_folded : FnScope N__law_folded ["_law_script", "_law_many"] (defScope s__law_folded) := ⟨rfl, rfl, rfl, by decide +kernel, rfl, by decide +kernel, by decide +kernel⟩
def f__law_folded : FP := fFold
def rd__law_folded : DTS := (dSeq (dSetN 2 (dCallN gList (dCons (dSl (dName 0) dNoPart (dPart (dName 1))) dNil)))
    (dSeq (dFor (dEnum (dCons (dSl (dName 0) (dPart (dName 1)) (dPart (dC (.int 63)))) dNil)) (dgTup (dgCons (dgName 3) (dgCons (dgName 4) dgNil)) 2) (dAsg (dBin gAdd (dIx (dName 2) (dBin gMod (dName 3) (dName 1))) (dBin gMul (dName 4) (dBin gAdd (dName 3) (dC (.int 2))))) (dgSub 2 (dBin gMod (dName 3) (dName 1)))))
    (dRetO 2)))
theorem dv__law_folded {f : Addr} {cdv : Value} {A : Around} {outer : List Env} {s : Shared} {H : Hp} {E : XK} (T : Txt K mg)  (hr : Room 0 (A.deeper (PyProof.Rows.envOfC "_law_folded" (defScope s__law_folded) s.heap.objs.size f cdv))) :
    DSs (cxOf CX0 P w K mg base N__law_folded "_law_folded" (defScope s__law_folded) f cdv A outer s H E).nox (defBody s__law_folded) rd__law_folded := by
  have o := xok (CX := CX0) (P := P) (w := w) (K := K) (mg := mg) (base := base) (outer := outer) (H := H) (E := E) sc__law_folded.nd hr
  exact (ss_cons (s_setN 2 o (n_callTy c_list T.z_list (a_cons (e_sl (e_name 0) po_no (po_e (e_name 1))) a_nil)))
      (ss_cons (s_for o PassesOwn.never (i_enum T.z_enumerate (a_cons (e_sl (e_name 0) (po_e (e_name 1)) (po_e e_int)) a_nil)) (g_tup o (gs_cons (g_name 3 o) (gs_cons (g_name 4 o) gs_nil))) (ss_one (s_asg (e_bin o_add (e_ix (e_name 2) (e_bin o_mod (e_name 3) (e_name 1))) (e_bin o_mul (e_name 4) (e_bin o_add (e_name 3) e_int))) (g_sub 2 (e_bin o_mod (e_name 3) (e_name 1))))))
      (ss_one (s_retO 2))))
theorem pf__law_folded : ∀ (ds : List D) (Post : C → Prop), ds.length = 2 → f__law_folded ds Post → rd__law_folded (endD fun c _ => Post c) (startD 5 (ds.map C.fz)) := by
  rintro ds Post - ⟨ns, m, rfl, hm, hm2, hl, post⟩
  show rd__law_folded (endD fun c _ => Post c) [some (.fz (.scr ns)), some (.fz (.int m)), none, none, none]
  walk_at "go"
  intro p
  rw [cut_take _ _ _ (by omega)]
  walk_at "go"
  rw [cutD_map]
  generalize hL : ((ns.drop (HT.sIx ns.length 0 (some (m : Int)))).take (HT.sIx ns.length ns.length (some 63) - HT.sIx ns.length 0 (some (m : Int)))) = L
  have hLl : L.length ≤ ns.length - m := by
    have a1 := sIx_int ns.length 0 (m : Int) (by omega)
    rw [← hL, List.length_take, List.length_drop, a1]
    omega
  refine for_inv (fun i δ => ∃ (cs : List Int) (d3 d4 : Option C), cs.length = min m ns.length ∧ δ = [some (.fz (.scr ns)), some (.fz (.int m)), some (.own p (cs.map .int)), d3, d4]) ⟨ns.take m, none, none, by rw [List.length_take], by simp⟩ ?_ ?_
  · rintro i d δ N e ⟨cs, d3, d4, hcs, rfl⟩ k
    rw [enumD_get, List.getElem?_map] at e
    obtain ⟨z, hz, rfl⟩ : ∃ z, L[i]? = some z ∧ d = .tup [.int ((0 + i : Nat) : Int), .int z] := by
      cases q : L[i]? with
      | none =>
        rw [q] at e
        cases e
      | some z =>
        rw [q] at e
        cases e
        exact ⟨z, rfl, rfl⟩
    have hi : i < L.length := (List.getElem?_eq_some_iff.mp hz).1
    have h1 : 0 ≤ ((0 + i : Nat) : Int) % (m : Int) := Int.emod_nonneg _ (by omega)
    have h2 : ((0 + i : Nat) : Int) % (m : Int) < m := Int.emod_lt_of_pos _ (by omega)
    walk_at "go"
    refine some_int h1 (by rw [List.length_map]; omega) fun x hx => ?_
    rw [List.getElem?_map] at hx
    obtain ⟨w, hw, rfl⟩ := Option.map_eq_some_iff.mp hx
    walk_at "go"
    rw [ixN_int h1 (by rw [List.length_map]; omega)]
    walk_at "go"
    refine k _ ⟨cs.set (((0 + i : Nat) : Int) % (m : Int)).toNat (w + z * (((0 + i : Nat) : Int) + 2)), some (.fz (.int ((0 + i : Nat) : Int))), some (.fz (.int z)), by rw [List.length_set, hcs], ?_⟩
    rw [List.map_set]
    rfl
  · rintro δ ⟨cs, d3, d4, hcs, rfl⟩
    walk_at "go"
    exact post p cs (by omega) (by omega)
theorem ok__law_folded {f : Addr} {fd : FuncData} (F : Fun K "_law_folded" "_law_folded" s__law_folded f fd) (hm : mg "_law_folded" = some (.ref f)) (T : Txt K mg)  : CalF P w K mg base 1 "_law_folded" 2 (phiP 2 f__law_folded) :=
  okP F hm (F.binds fun _ _ _ _ _ _ us hl => match us, hl with | [_, _], _ => rfl) sc__law_folded fun cdv A outer s H E hr => ⟨rd__law_folded, dv__law_folded T  hr, pf__law_folded⟩
/-! ### _law_text -/
abbrev s__law_text : Stmt := topS 11
abbrev N__law_text : List Str := ["_law_box_here", "_law_many", "_law_few", "_law_signs", "_law_some", "_law_k"]
theorem sc__law_text : FnScope N__law_text ["_law_box_here", "_law_many"] (defScope s__law_text) := ⟨rfl, rfl, rfl, by decide +kernel, rfl, by decide +kernel, by decide +kernel⟩
def f__law_text : FB := fun b ds Post => ∃ (n m : Nat), Bx n b ∧ n < 80000000 ∧ ds = [.int m] ∧ m ≤ 1000 ∧ ∀ (t : Str) b', t.length = m → ((cs t).all fun c => isL c || isF c) = true → Bx (n + 4 + m) b' → Post (.fz (.str t)) b'
def rd__law_text : DTS := (dSeq (dSet 2 (dBin gEq (dCallB 0 f__law_take (dCons (dC (.int 3)) dNil)) (dC (.int 0))))
    (dSeq (dSet 3 (dC (.str "abcdefghijklmnopqrstuvwxyz0123456789")))
    (dSeq (dSet 4 (dOfN (dLc (dRng1 (dCons (dC (.int 3)) dNil)) (dgName 5) dYes (dIx (dName 3) (dCallB 0 f__law_take (dCons (dC (.int 36)) dNil))) [5])))
    (dRet (dJoin (dC (.str "")) (dOfN (dLc (dRng1 (dCons (dName 1) dNil)) (dgName 5) dYes (dIf (dB (dName 2)) (dIx (dName 4) (dCallB 0 f__law_take (dCons (dC (.int 3)) dNil))) (dIx (dName 3) (dCallB 0 f__law_take (dCons (dC (.int 36)) dNil)))) [5])))))))
theorem dv__law_text {f : Addr} {cdv : Value} {A : Around} {outer : List Env} {s : Shared} {H : Hp} {E : XK} (T : Txt K mg) (c__law_take : CalF P w K mg base 1 "_law_take" 2 (phiB 1 f__law_take)) (hr : Room 1 (A.deeper (PyProof.Rows.envOfC "_law_text" (defScope s__law_text) s.heap.objs.size f cdv))) :
    DSs (cxOf CX0 P w K mg base N__law_text "_law_text" (defScope s__law_text) f cdv A outer s H E).nox (defBody s__law_text) rd__law_text := by
  have o := xok (CX := CX0) (P := P) (w := w) (K := K) (mg := mg) (base := base) (outer := outer) (H := H) (E := E) sc__law_text.nd hr
  exact (ss_cons (s_set 2 o (e_cmp (o_eq o) (e_callM 0 c__law_take (hr.mono (by decide)) (a_cons e_int a_nil)) e_int))
      (ss_cons (s_set 3 o e_str)
      (ss_cons (s_set 4 o (e_ofN (n_lc o [("_law_k", 5)] (blkOk_by (N := N__law_text) (sc := defScope s__law_text) (by decide +kernel)) (i_rng1 T.z_range (a_cons e_int a_nil)) (fun _ _ _ _ _ => (g_name 5 o.blk)) (fun _ _ _ _ _ => ts_nil) (fun _ _ _ _ _ => (e_ix (e_name 3) (e_callM 0 c__law_take (hr.mono (by decide)) (a_cons e_int a_nil)))))))
      (ss_one (s_ret (e_join e_str (e_ofN (n_lc o [("_law_k", 5)] (blkOk_by (N := N__law_text) (sc := defScope s__law_text) (by decide +kernel)) (i_rng1 T.z_range (a_cons (e_name 1) a_nil)) (fun _ _ _ _ _ => (g_name 5 o.blk)) (fun _ _ _ _ _ => ts_nil) (fun _ _ _ _ _ => (e_if (t_val (e_name 2)) (e_ix (e_name 4) (e_callM 0 c__law_take (hr.mono (by decide)) (a_cons e_int a_nil))) (e_ix (e_name 3) (e_callM 0 c__law_take (hr.mono (by decide)) (a_cons e_int a_nil)))))))))))))
theorem pf__law_text : ∀ (p : Addr) (b ds : List D) (Post : C → List D → Prop), ds.length = 1 → f__law_text b ds Post → rd__law_text (endD (rtB p Post)) (startD 6 (C.own p b :: ds.map C.fz)) := by
  rintro p b ds Post - ⟨n, m, hb, hn, rfl, hm, post⟩
  show rd__law_text (endD (rtB p Post)) [some (.own p b), some (.fz (.int m)), none, none, none, none]
  have el : ("abcdefghijklmnopqrstuvwxyz0123456789" : Str).length = 36 := by decide +kernel
  have ea : ∀ c ∈ cs "abcdefghijklmnopqrstuvwxyz0123456789", (isL c || isF c) = true := by decide +kernel
  generalize hS : ("abcdefghijklmnopqrstuvwxyz0123456789" : Str) = S at el ea
  unfold rd__law_text
  rw [hS]
  have sg : ∀ (r : Int), 0 ≤ r → r < 36 → ∀ Q : Nat → Prop, (∀ c, (isL c || isF c) = true → Q c) → kSome (atI S.cps.toList r) Q := by
    intro r h0 h1 Q q
    have := cs_len S
    unfold cs at this
    exact some_mem h0 (by omega) fun c hc => q c (ea c hc)
  walk_at "go"
  walk_at "tk"
  intro few b1 hf0 hf1 hb1
  walk_at "go"
  refine lc_inv (fun i acc δ => ∃ (b : List D) (xs : List Nat), acc = xs.map (fun c => .str ⟨#[c]⟩) ∧ (∀ c ∈ xs, (isL c || isF c) = true) ∧ xs.length = i ∧ Bx (n + 1 + i) b ∧ δ = [some (.own p b), some (.fz (.int m)), some (.fz (.bl (decide (few = 0)))), some (.fz (.str S)), none, none]) ⟨b1, [], rfl, by simp, rfl, hb1, rfl⟩ ?_ ?_
  · rintro i d acc δ K K0 e ⟨b, xs, rfl, h1, h2, h3, rfl⟩ k k0
    obtain ⟨hi, rfl⟩ := rngD_get e
    walk_at "go"
    walk_at "tk"
    intro r b' hr0 hr1 hb'
    walk_at "go"
    refine sg r hr0 hr1 _ fun c hc => ?_
    exact k _ _ ⟨b', xs ++ [c], by rw [List.map_append]; rfl, fun y hy => by
      rcases List.mem_append.mp hy with hy | hy
      · exact h1 y hy
      · rw [List.mem_singleton.mp hy]
        exact hc, by simp [h2], hb', rfl⟩
  · rintro acc δ ⟨b2, xs, rfl, hx1, hx2, hb2, rfl⟩
    rw [rngD_len] at hx2 hb2
    walk_at "go"
    refine lc_inv (fun i acc δ => ∃ (b : List D) (ys : List Nat), acc = ys.map (fun c => .str ⟨#[c]⟩) ∧ (∀ c ∈ ys, (isL c || isF c) = true) ∧ ys.length = i ∧ Bx (n + 1 + 3 + i) b ∧ δ = [some (.own p b), some (.fz (.int m)), some (.fz (.bl (decide (few = 0)))), some (.fz (.str S)), some (.fz (.lst (xs.map fun c => .str ⟨#[c]⟩))), none]) ⟨b2, [], rfl, by simp, rfl, hb2.mono (by omega), rfl⟩ ?_ ?_
    · rintro i d acc δ K K0 e ⟨b, ys, rfl, h1, h2, h3, rfl⟩ k k0
      obtain ⟨hi, rfl⟩ := rngD_get e
      have fin : ∀ (c : Nat) b', (isL c || isF c) = true → Bx (n + 1 + 3 + i + 1) b' → K (.str ⟨#[c]⟩) [some (.own p b'), some (.fz (.int m)), some (.fz (.bl (decide (few = 0)))), some (.fz (.str S)), some (.fz (.lst (xs.map fun c => .str ⟨#[c]⟩))), none] := fun c b' hc hb' => k _ _ ⟨b', ys ++ [c], by rw [List.map_append]; rfl, fun y hy => by
        rcases List.mem_append.mp hy with hy | hy
        · exact h1 y hy
        · rw [List.mem_singleton.mp hy]
          exact hc, by simp [h2], hb', rfl⟩
      walk_at "go"
      walk_at "if"
      · intro hf
        walk_at "go"
        walk_at "tk"
        intro r b' hr0 hr1 hb'
        walk_at "go"
        refine some_mem hr0 (by rw [List.length_map]; omega) fun d hd => ?_
        obtain ⟨c, hc, rfl⟩ := List.mem_map.mp hd
        exact fin c b' (hx1 c hc) hb'
      · intro hf
        walk_at "go"
        walk_at "tk"
        intro r b' hr0 hr1 hb'
        walk_at "go"
        refine sg r hr0 hr1 _ fun c hc => ?_
        exact fin c b' hc hb'
    · rintro acc δ ⟨b3, ys, rfl, h1, h2, h3, rfl⟩
      rw [rngD_len] at h2 h3
      have e0 : ("" : Str).length = 0 := by decide +kernel
      have e1 : ∀ ys : List Nat, ((ys.map fun c => (⟨#[c]⟩ : Str)).map (·.length)).sum = ys.length := by
        intro ys
        induction ys with
        | nil => rfl
        | cons c r ih =>
          simp only [List.map_cons, List.sum_cons, ih, List.length_cons, len_one]
          omega
      have e2 : cs (Txt.join "" (ys.map fun c => (⟨#[c]⟩ : Str))) = ys := by
        rw [cs_join, List.map_map]
        clear h1 h2 h3
        induction ys with
        | nil => rfl
        | cons c r ih =>
          rw [List.map_cons, List.flatten_cons, ih]
          rfl
      walk_at "go"
      refine ⟨ys.map fun c => ⟨#[c]⟩, by rw [List.map_map]; rfl, by rw [e1, e0]; omega, ?_⟩
      walk_at "go"
      refine ⟨b3, rfl, post _ _ (by rw [← cs_len, e2]; omega) (by rw [e2, List.all_eq_true]; exact h1) (h3.mono (by omega))⟩
theorem ok__law_text {f : Addr} {fd : FuncData} (F : Fun K "_law_text" "_law_text" s__law_text f fd) (hm : mg "_law_text" = some (.ref f)) (T : Txt K mg) (c__law_take : CalF P w K mg base 1 "_law_take" 2 (phiB 1 f__law_take)) : CalF P w K mg base 2 "_law_text" 2 (phiB 1 f__law_text) :=
  okB F hm (F.binds fun _ _ _ _ _ _ us hl => match us, hl with | [_, _], _ => rfl) sc__law_text fun cdv A outer s H E hr => ⟨rd__law_text, dv__law_text T c__law_take hr, pf__law_text⟩
/-! ### _law_fits -/
abbrev s__law_fits : Stmt := topS 12
abbrev N__law_fits : List Str := ["_law_text_here", "_law_size", "_law_words", "_law_place", "_law_k", "_law_word", "_law_sign"]
theorem sc__law_fits : FnScope N__law_fits ["_law_text_here", "_law_size", "_law_words"] (defScope s__law_fits) := ⟨rfl, rfl, rfl, by decide +kernel, rfl, by decide +kernel, by decide +kernel⟩
def f__law_fits : FP := fun ds Post => ∃ (t : Str) (s : Nat), ds = [.str t, .int s, .lst ((pcs t s).map .str)] ∧ 0 < s ∧ s ≤ 12 ∧ t.length ≤ 1000 ∧ ((cs t).all fun c => isL c || isF c) = true ∧ Post (.fz (.bl true))
def tl__law_fits_5 : DTS := (dSeq (dSet 3 (dC (.int 0)))
    (dSeq (dFor (dEnum (dCons (dName 2) dNil)) (dgTup (dgCons (dgName 4) (dgCons (dgName 5) dgNil)) 2) (dSeq (dIfS (dOr (dB (dBin gNe (dCall gLen (dCons (dName 5) dNil)) (dCall gMin2 (dCons (dName 1) (dCons (dBin gSub (dCall gLen (dCons (dName 0) dNil)) (dName 3)) dNil))))) (dNot (dB (dCallP f_is_word (dCons (dName 5) dNil))))) (dRet (dC (.bl false))) dNext)
    (dFor (dItS (dName 5)) (dgName 6) (dSeq (dIfS (dB (dBin gNe (dName 6) (dIx (dName 0) (dName 3)))) (dRet (dC (.bl false))) dNext)
    (dSet 3 (dBin gAdd (dName 3) (dC (.int 1))))))))
    (dRet (dBin gEq (dName 3) (dCall gLen (dCons (dName 0) dNil))))))
def rd__law_fits : DTS := (dSeq (dIfS (dOr (dNot (dB (dIsi "list" (dName 2)))) (dNot (dB (dCall gAll (dCons (dOfN (dLc (dIt (dName 2)) (dgName 5) dYes (dIsi "str" (dName 5)) [5])) dNil))))) (dRet (dC (.bl false))) dNext)
    (dSeq (dIfS (dB (dBin gNe (dCall gLen (dCons (dName 2) dNil)) (dBin gFdiv (dBin gSub (dBin gAdd (dCall gLen (dCons (dName 0) dNil)) (dName 1)) (dC (.int 1))) (dName 1)))) (dRet (dC (.bl false))) dNext)
    (dCut tl__law_fits_5)))
theorem dv__law_fits {f : Addr} {cdv : Value} {A : Around} {outer : List Env} {s : Shared} {H : Hp} {E : XK} (T : Txt K mg) (c_is_word : CalF P w K mg base 1 "is_word" 1 (phiP 1 f_is_word)) (hr : Room 1 (A.deeper (PyProof.Rows.envOfC "_law_fits" (defScope s__law_fits) s.heap.objs.size f cdv))) :
    DSs (cxOf CX0 P w K mg base N__law_fits "_law_fits" (defScope s__law_fits) f cdv A outer s H E).nox (defBody s__law_fits) rd__law_fits := by
  have o := xok (CX := CX0) (P := P) (w := w) (K := K) (mg := mg) (base := base) (outer := outer) (H := H) (E := E) sc__law_fits.nd hr
  exact (ss_cons (s_if (t_w (w_or (t_not (t_val (e_isi T.z_isinstance T.z_list (e_name 2)))) (w_or1 (t_not (t_val (e_callB (c_all o) T.z_all (a_cons (e_ofN (n_lc o [("_law_word", 5)] (blkOk_by (N := N__law_fits) (sc := defScope s__law_fits) (by decide +kernel)) (i_list (e_name 2)) (fun _ _ _ _ _ => (g_name 5 o.blk)) (fun _ _ _ _ _ => ts_nil) (fun _ _ _ _ _ => (e_isi T.z_isinstance T.z_str (e_name 5))))) a_nil))))))) (ss_one (s_ret e_bl)) ss_nil)
      (ss_cons (s_if (t_cmp (o_ne o) (e_callB c_len T.z_len (a_cons (e_name 2) a_nil)) (e_bin o_fdiv (e_bin o_sub (e_bin o_add (e_callB c_len T.z_len (a_cons (e_name 0) a_nil)) (e_name 1)) e_int) (e_name 1))) (ss_one (s_ret e_bl)) ss_nil)
      (ss_cut (ss_cons (s_set 3 o e_int)
      (ss_cons (s_for o PassesOwn.never (i_enum T.z_enumerate (a_cons (e_name 2) a_nil)) (g_tup o (gs_cons (g_name 4 o) (gs_cons (g_name 5 o) gs_nil))) (ss_cons (s_if (t_w (w_or (t_cmp (o_ne o) (e_callB c_len T.z_len (a_cons (e_name 5) a_nil)) (e_callB (c_min2 o) T.z_min (a_cons (e_name 1) (a_cons (e_bin o_sub (e_callB c_len T.z_len (a_cons (e_name 0) a_nil)) (e_name 3)) a_nil)))) (w_or1 (t_not (t_val (e_callP c_is_word (hr.mono (by decide)) (a_cons (e_name 5) a_nil))))))) (ss_one (s_ret e_bl)) ss_nil)
      (ss_one (s_for o PassesOwn.never (i_str (e_name 5)) (g_name 6 o) (ss_cons (s_if (t_cmp (o_ne o) (e_name 6) (e_ix (e_name 0) (e_name 3))) (ss_one (s_ret e_bl)) ss_nil)
      (ss_one (s_set 3 o (e_bin o_add (e_name 3) e_int))))))))
      (ss_one (s_ret (e_cmp (o_eq o) (e_name 3) (e_callB c_len T.z_len (a_cons (e_name 0) a_nil))))))))))
theorem pf__law_fits : ∀ (ds : List D) (Post : C → Prop), ds.length = 3 → f__law_fits ds Post → rd__law_fits (endD fun c _ => Post c) (startD 7 (ds.map C.fz)) := by
  rintro ds Post - ⟨t, s, rfl, hs, hs2, ht, ha, post⟩
  show rd__law_fits (endD fun c _ => Post c) [some (.fz (.str t)), some (.fz (.int s)), some (.fz (.lst ((pcs t s).map .str))), none, none, none, none]
  have pl := pcs_len t s
  have pl2 : (pcs t s).length ≤ 1000 + 12 := by
    rw [pl]
    exact Nat.le_trans (Nat.div_le_self _ _) (by omega)
  walk_at "go"
  refine lc_map (fun _ => .bl true) (fun w K hw k => ?_) ?_
  · exact k
  walk_at "go"
  refine ⟨(pcs t s).map fun _ => true, by rw [List.map_map]; rfl, ?_⟩
  refine kIf_f (by rw [List.all_map]; simp) ?_
  walk_at "go"
  refine kIf_f (by
    rw [List.length_map, pl, show ((t.length : Int) + s - 1) = ((t.length + s - 1 : Nat) : Int) by omega]
    simp) ?_
  walk_at "go"
  walk_at "cut"
  have dm := Nat.div_add_mod (t.length + s - 1) s
  have ml := Nat.mod_lt (t.length + s - 1) hs
  rw [← pl, Nat.mul_comm] at dm
  generalize hm : (pcs t s).length = m at dm pl pl2
  have ms : m * s ≤ t.length + s - 1 ∧ t.length ≤ m * s := by omega
  refine for_inv (fun i δ => ∃ d4 d5 d6, δ = [some (.fz (.str t)), some (.fz (.int s)), some (.fz (.lst ((pcs t s).map .str))), some (.fz (.int (min (i * s) t.length : Nat))), d4, d5, d6]) ⟨none, none, none, by simp; rfl⟩ ?_ ?_
  · rintro i d δ N e ⟨d4, d5, d6, rfl⟩ k
    rw [enumD_get, List.getElem?_map] at e
    obtain ⟨w, hw, rfl⟩ : ∃ w, (pcs t s)[i]? = some w ∧ d = .tup [.int ((0 + i : Nat) : Int), .str w] := by
      cases q : (pcs t s)[i]? with
      | none =>
        rw [q] at e
        cases e
      | some z =>
        rw [q] at e
        cases e
        exact ⟨z, rfl, rfl⟩
    obtain ⟨hi, rfl⟩ := pcs_get hw
    rw [← pl] at hi
    have his : i * s < t.length := by
      have : (i + 1) * s ≤ m * s := Nat.mul_le_mul_right s hi
      rw [Nat.succ_mul] at this
      omega
    have wl : (⟨(chk (cs t) s i).toArray⟩ : Str).length = min s (t.length - i * s) := by
      show (chk (cs t) s i).length = _
      unfold chk
      rw [List.length_take, List.length_drop, cs_len]
    have wa : wordB ⟨(chk (cs t) s i).toArray⟩ = true := by
      unfold wordB
      rw [wl, decide_eq_true (by omega), decide_eq_true (by omega)]
      show (chk (cs t) s i).all _ = true
      rw [List.all_eq_true] at ha ⊢
      intro c hc
      exact ha c (List.mem_of_mem_drop (List.mem_of_mem_take hc))
    have wi : ∀ j c, (chk (cs t) s i)[j]? = some c → t.cps.toList[i * s + j]? = some c ∧ j < min s (t.length - i * s) := by
      intro j c hc
      have hj := (List.getElem?_eq_some_iff.mp hc).1
      have : (chk (cs t) s i).length = _ := wl
      unfold chk at hc hj this
      rw [this] at hj
      rw [List.getElem?_take, if_pos (by omega), List.getElem?_drop] at hc
      exact ⟨hc, hj⟩
    rw [Nat.min_eq_left (Nat.le_of_lt his)]
    generalize hW : (⟨(chk (cs t) s i).toArray⟩ : Str) = W at wl wa
    walk_at "go"
    refine kIf_f ?_ ?_
    · rw [wl]
      simp
      split <;> omega
    walk_at "go"
    refine ⟨W, rfl, by omega, ?_⟩
    refine kIf_f ?_ ?_
    · rw [wa]
      rfl
    walk_at "go"
    have hWs : cs W = chk (cs t) s i := by rw [← hW]; rfl
    rw [signs_map, hWs]
    refine for_map (fun j δ => ∃ d6, δ = [some (.fz (.str t)), some (.fz (.int s)), some (.fz (.lst ((pcs t s).map .str))), some (.fz (.int ((i * s + j : Nat) : Int))), some (.fz (.int ((0 + i : Nat) : Int))), some (.fz (.str W)), d6]) ⟨d6, rfl⟩ ?_ ?_
    · rintro j c δ N e ⟨d6, rfl⟩ k
      obtain ⟨h1, h2⟩ := wi j c e
      walk_at "go"
      refine some_nat h1 ?_
      refine kIf_f ?_ ?_
      · simp
      walk_at "go"
      exact k _ ⟨_, rfl⟩
    · rintro δ ⟨d6, rfl⟩
      have e3 : (chk (cs t) s i).length = min s (t.length - i * s) := by rw [← wl, ← cs_len, hWs]
      rw [e3]
      have e4 : i * s + min s (t.length - i * s) = min ((i + 1) * s) t.length := by
        rw [Nat.succ_mul]
        omega
      rw [e4]
      exact k _ ⟨_, _, _, rfl⟩
  · rintro δ ⟨d4, d5, d6, rfl⟩
    have e5 : (enumD 0 ((pcs t s).map D.str)).length = m := by rw [enumD_len, List.length_map, hm]
    rw [e5, Nat.min_eq_right ms.2]
    walk_at "go"
    exact post_eq post (by simp)
theorem ok__law_fits {f : Addr} {fd : FuncData} (F : Fun K "_law_fits" "_law_fits" s__law_fits f fd) (hm : mg "_law_fits" = some (.ref f)) (T : Txt K mg) (c_is_word : CalF P w K mg base 1 "is_word" 1 (phiP 1 f_is_word)) : CalF P w K mg base 2 "_law_fits" 3 (phiP 3 f__law_fits) :=
  okP F hm (F.binds fun _ _ _ _ _ _ us hl => match us, hl with | [_, _, _], _ => rfl) sc__law_fits fun cdv A outer s H E hr => ⟨rd__law_fits, dv__law_fits T c_is_word hr, pf__law_fits⟩
/-! ### law -/
abbrev s_law : Stmt := topS 13
abbrev N_law : List Str := ["_law_script", "_law_cells", "_law_k", "_law_box_here", "_law_size", "_law_way", "_law_many", "_law_text_here", "_law_echo", "_law_words", "_law_kept", "_law_turned", "_law_due", "_law_word"]
theorem sc_law : FnScope N_law ["_law_script"] (defScope s_law) := ⟨rfl, rfl, rfl, by decide +kernel, rfl, by decide +kernel, by decide +kernel⟩
def f_law : FP := fLaw
def tl_law_11 : DTS := (dSeq (dSet 7 (dCallB 3 f__law_text (dCons (dName 6) dNil)))
    (dFor (dRng1 (dCons (dC (.int 2)) dNil)) (dgName 8) (dSeq (dSetN 9 (dCallPN f_pieces_of (dCons (dName 7) (dCons (dName 4) dNil))))
    (dSeq (dIfS (dNot (dB (dCallR f__law_fits (dCons (dName 7) (dCons (dName 4) (dCons (dName 9) dNil)))))) (dRet (dC (.bl false))) dNext)
    (dSeq (dSet 10 (dOfN (dCallN gList (dCons (dName 9) dNil))))
    (dSeq (dIfS (dOr (dB (dBin gNe (dCallR f_text_of (dCons (dName 9) dNil)) (dName 7))) (dOr (dB (dBin gNe (dName 9) (dName 10))) (dB (dBin gNe (dCallP f_text_of (dCons (dOfN (dLst dNil)) dNil)) (dC (.str "")))))) (dRet (dC (.bl false))) dNext)
    (dSeq (dSet 11 (dOfN (dRev (dName 9))))
    (dSeq (dSet 12 (dC (.str "")))
    (dSeq (dFor (dIt (dName 11)) (dgName 13) (dSet 12 (dBin gAdd (dName 12) (dName 13))))
    (dSeq (dIfS (dB (dBin gNe (dCallP f_text_of (dCons (dName 11) dNil)) (dName 12))) (dRet (dC (.bl false))) dNext)
    (dDrop (dAppend 9 (dC (.str "more"))))))))))))))
def tl_law_7 : DTS := (dSeq (dIfS (dB (dBin gEq (dName 5) (dC (.int 0)))) (dSet 6 (dBin gMul (dName 4) (dBin gFdiv (dName 6) (dName 4)))) dNext)
    (dSeq (dIfS (dB (dBin gEq (dName 5) (dC (.int 1)))) (dSet 6 (dBin gSub (dBin gAdd (dName 4) (dCallB 3 f__law_take (dCons (dC (.int 3)) dNil))) (dC (.int 1)))) dNext)
    (dCut tl_law_11)))
def rd_law : DTS := (dSeq (dSet 1 (dCallP f__law_folded (dCons (dName 0) (dCons (dC (.int 8)) dNil))))
    (dSeq (dFor (dRng1 (dCons (dCall gMax2 (dCons (dC (.int 1)) (dCons (dCall gLen (dCons (dName 1) dNil)) dNil))) dNil)) (dgName 2) (dSeq (dSetN 3 (dCallPN f__law_box (dCons (dName 1) (dCons (dName 2) dNil))))
    (dSeq (dSet 4 (dBin gAdd (dC (.int 1)) (dCallB 3 f__law_take (dCons (dC (.int 12)) dNil))))
    (dSeq (dSet 5 (dCallB 3 f__law_take (dCons (dC (.int 4)) dNil)))
    (dSeq (dSet 6 (dCallB 3 f__law_take (dCons (dIf (dB (dBin gEq (dCallB 3 f__law_take (dCons (dC (.int 8)) dNil)) (dC (.int 0)))) (dC (.int 401)) (dC (.int 41))) dNil)))
    (dCut tl_law_7))))))
    (dRet (dC (.bl true)))))
theorem dv_law {f : Addr} {cdv : Value} {A : Around} {outer : List Env} {s : Shared} {H : Hp} {E : XK} (T : Txt K mg) (c__law_folded : CalF P w K mg base 1 "_law_folded" 2 (phiP 2 f__law_folded)) (c__law_box : CalF P w K mg base 1 "_law_box" 2 (phiP 2 f__law_box)) (c__law_take : CalF P w K mg base 1 "_law_take" 2 (phiB 1 f__law_take)) (c__law_text : CalF P w K mg base 2 "_law_text" 2 (phiB 1 f__law_text)) (c_pieces_of : CalF P w K mg base 1 "pieces_of" 2 (phiP 2 f_pieces_of)) (c__law_fits : CalF P w K mg base 2 "_law_fits" 3 (phiP 3 f__law_fits)) (c_text_of : CalF P w K mg base 1 "text_of" 1 (phiP 1 f_text_of)) (hr : Room 2 (A.deeper (PyProof.Rows.envOfC "law" (defScope s_law) s.heap.objs.size f cdv))) :
    DSs (cxOf CX0 P w K mg base N_law "law" (defScope s_law) f cdv A outer s H E).nox (defBody s_law) rd_law := by
  have o := xok (CX := CX0) (P := P) (w := w) (K := K) (mg := mg) (base := base) (outer := outer) (H := H) (E := E) sc_law.nd hr
  exact (ss_cons (s_set 1 o (e_callP c__law_folded (hr.mono (by decide)) (a_cons (e_name 0) (a_cons e_int a_nil))))
      (ss_cons (s_for o PassesOwn.never (i_rng1 T.z_range (a_cons (e_callB (c_max2 o) T.z_max (a_cons e_int (a_cons (e_callB c_len T.z_len (a_cons (e_name 1) a_nil)) a_nil))) a_nil)) (g_name 2 o) (ss_cons (s_setN 3 o (n_callP c__law_box (hr.mono (by decide)) (a_cons (e_name 1) (a_cons (e_name 2) a_nil))))
      (ss_cons (s_set 4 o (e_bin o_add e_int (e_callM 3 c__law_take (hr.mono (by decide)) (a_cons e_int a_nil))))
      (ss_cons (s_set 5 o (e_callM 3 c__law_take (hr.mono (by decide)) (a_cons e_int a_nil)))
      (ss_cons (s_set 6 o (e_callM 3 c__law_take (hr.mono (by decide)) (a_cons (e_if (t_cmp (o_eq o) (e_callM 3 c__law_take (hr.mono (by decide)) (a_cons e_int a_nil)) e_int) e_int e_int) a_nil)))
      (ss_cut (ss_cons (s_if (t_cmp (o_eq o) (e_name 5) e_int) (ss_one (s_set 6 o (e_bin o_mul (e_name 4) (e_bin o_fdiv (e_name 6) (e_name 4))))) ss_nil)
      (ss_cons (s_if (t_cmp (o_eq o) (e_name 5) e_int) (ss_one (s_set 6 o (e_bin o_sub (e_bin o_add (e_name 4) (e_callM 3 c__law_take (hr.mono (by decide)) (a_cons e_int a_nil))) e_int))) ss_nil)
      (ss_cut (ss_cons (s_set 7 o (e_callM 3 c__law_text (hr.mono (by decide)) (a_cons (e_name 6) a_nil)))
      (ss_one (s_for o PassesOwn.never (i_rng1 T.z_range (a_cons e_int a_nil)) (g_name 8 o) (ss_cons (s_setN 9 o (n_callP c_pieces_of (hr.mono (by decide)) (a_cons (e_name 7) (a_cons (e_name 4) a_nil))))
      (ss_cons (s_if (t_not (t_val (e_callR c__law_fits (hr.mono (by decide)) (a_cons (e_name 7) (a_cons (e_name 4) (a_cons (e_name 9) a_nil)))))) (ss_one (s_ret e_bl)) ss_nil)
      (ss_cons (s_set 10 o (e_ofN (n_callTy c_list T.z_list (a_cons (e_name 9) a_nil))))
      (ss_cons (s_if (t_w (w_or (t_cmp (o_ne o) (e_callR c_text_of (hr.mono (by decide)) (a_cons (e_name 9) a_nil)) (e_name 7)) (w_or (t_cmp (o_ne o) (e_name 9) (e_name 10)) (w_or1 (t_cmp (o_ne o) (e_callP c_text_of (hr.mono (by decide)) (a_cons (e_ofN (n_lst a_nil)) a_nil)) e_str))))) (ss_one (s_ret e_bl)) ss_nil)
      (ss_cons (s_set 11 o (e_ofN (n_rev (e_name 9))))
      (ss_cons (s_set 12 o e_str)
      (ss_cons (s_for o PassesOwn.never (i_list (e_name 11)) (g_name 13 o) (ss_one (s_set 12 o (e_bin o_add (e_name 12) (e_name 13)))))
      (ss_cons (s_if (t_cmp (o_ne o) (e_callP c_text_of (hr.mono (by decide)) (a_cons (e_name 11) a_nil)) (e_name 12)) (ss_one (s_ret e_bl)) ss_nil)
      (ss_one (s_expr (e_append 9 e_str)))))))))))))))))))))))
      (ss_one (s_ret e_bl))))
theorem pf_law : ∀ (ds : List D) (Post : C → Prop), ds.length = 1 → f_law ds Post → rd_law (endD fun c _ => Post c) (startD 14 (ds.map C.fz)) := by
  rintro ds Post - ⟨ns, rfl, hl, post⟩
  show rd_law (endD fun c _ => Post c) [some (.fz (.scr ns)), none, none, none, none, none, none, none, none, none, none, none, none, none]
  walk_at "go"
  refine ⟨ns, 8, rfl, by decide, by decide, hl, fun pc cells hc1 hc2 => ?_⟩
  have rest : ∀ (E : DEnds) (i : Int) (pb : Addr) (b : List D) (size : Nat) (way : Int) (many : Nat) d7 d8 d9 d10 d11 d12 d13, Bx 10 b → 0 < size → size ≤ 12 → many ≤ 400 →
      (∀ d2 d3 d4 d5 d6 d7 d8 d9 d10 d11 d12 d13, E.nx [some (.fz (.scr ns)), some (.fz (.lst (cells.map .int))), d2, d3, d4, d5, d6, d7, d8, d9, d10, d11, d12, d13]) →
      dCut tl_law_11 E [some (.fz (.scr ns)), some (.fz (.lst (cells.map .int))), some (.fz (.int i)), some (.own pb b), some (.fz (.int size)), some (.fz (.int way)), some (.fz (.int many)), d7, d8, d9, d10, d11, d12, d13] := by
    intro E i pb b size way many d7 d8 d9 d10 d11 d12 d13 hb hs1 hs2 hm k
    walk_at "cut"
    refine ⟨_, many, hb, by omega, rfl, by omega, fun t b' ht ha hb' => ?_⟩
    walk_at "go"
    refine for_inv (fun j δ => ∃ d8 d9 d10 d11 d12 d13, δ = [some (.fz (.scr ns)), some (.fz (.lst (cells.map .int))), some (.fz (.int i)), some (.own pb b'), some (.fz (.int size)), some (.fz (.int way)), some (.fz (.int many)), some (.fz (.str t)), d8, d9, d10, d11, d12, d13]) ⟨_, _, _, _, _, _, rfl⟩ ?_ ?_
    · rintro j d δ N e ⟨d8, d9, d10, d11, d12, d13, rfl⟩ k2
      obtain ⟨hj, rfl⟩ := rngD_get e
      walk_at "go"
      refine ⟨t, size, rfl, hs1, hs2, by omega, fun p0 => ?_⟩
      walk_at "go"
      intro pw
      walk_at "go"
      refine ⟨t, size, rfl, hs1, hs2, by omega, ha, ?_⟩
      walk_at "go"
      have le := sum_pcs t hs1
      have pl := pcs_len t size
      have pl2 : (pcs t size).length ≤ 1000 + 12 := by
        rw [pl]
        exact Nat.le_trans (Nat.div_le_self _ _) (by omega)
      refine ⟨pcs t size, rfl, by omega, by omega, ?_⟩
      walk_at "go"
      refine kIf_f ?_ ?_
      · rw [show Txt.join "" (pcs t size) = t from cs_ext (by rw [cs_join, pcs_flat t hs1])]
        simp
      have okw : shD (.lst ((pcs t size).map .str)) = true := (ok_map (k := 0) fun w hw => by
        obtain ⟨i, hi⟩ := List.mem_iff_getElem?.mp hw
        obtain ⟨_, rfl⟩ := pcs_get hi
        refine ok_codes fun c hc => alnum_lt ?_
        rw [List.all_eq_true] at ha
        exact ha c (List.mem_of_mem_drop (List.mem_of_mem_take hc))).sh (by decide)
      walk_at "go"
      refine kIf_f (congrArg not (eqD_refl okw)) ?_
      walk_at "go"
      refine ⟨[], rfl, by simp, by simp, ?_⟩
      walk_at "go"
      rw [← List.map_reverse]
      have tl : (((pcs t size).reverse.map cs).flatten).length = t.length := by
        rw [List.length_flatten, List.map_map, List.map_reverse, List.sum_reverse]
        rw [← le]
        congr 1
      generalize hY : (pcs t size).reverse = ys at tl
      have yl : ys.length = (pcs t size).length := by rw [← hY, List.length_reverse]
      refine for_map (fun j2 δ => ∃ (x : Str) (d13 : Option C), cs x = ((ys.take j2).map cs).flatten ∧ δ = [some (.fz (.scr ns)), some (.fz (.lst (cells.map .int))), some (.fz (.int i)), some (.own pb b'), some (.fz (.int size)), some (.fz (.int way)), some (.fz (.int many)), some (.fz (.str t)), some (.fz (.int (0 + j))), some (.own pw ((pcs t size).map .str)), some (.fz (.lst ((pcs t size).map .str))), some (.fz (.lst (ys.map .str))), some (.fz (.str x)), d13]) ⟨"", d13, rfl, rfl⟩ ?_ ?_
      · rintro j2 w δ N e ⟨x, d13, hx, rfl⟩ k3
        have e1 : ys.take (j2 + 1) = ys.take j2 ++ [w] := by
          rw [List.take_add_one, e]
          rfl
        have e2 : cs (x ++ w) = ((ys.take (j2 + 1)).map cs).flatten := by
          rw [cs_app, hx, e1, List.map_append, List.flatten_append]
          simp
        have e3 : x.length + w.length ≤ t.length := by
          rw [← len_app, ← cs_len, e2, ← tl]
          have : ((ys.map cs).flatten) = ((ys.take (j2 + 1)).map cs).flatten ++ ((ys.drop (j2 + 1)).map cs).flatten := by
            rw [← List.flatten_append, ← List.map_append, List.take_append_drop]
          rw [this, List.length_append]
          omega
        walk_at "go"
        exact k3 _ ⟨x ++ w, _, e2, rfl⟩
      · rintro δ ⟨x, d13, hx, rfl⟩
        rw [List.take_length] at hx
        have es : (ys.map (·.length)).sum = t.length := by
          rw [← tl, List.length_flatten, List.map_map]
          congr 1
        walk_at "go"
        refine ⟨ys, rfl, by omega, by omega, ?_⟩
        walk_at "go"
        refine kIf_f ?_ ?_
        · rw [show Txt.join "" ys = x from cs_ext (by rw [cs_join, hx])]
          simp
        walk_at "go"
        exact k2 _ ⟨_, _, _, _, _, _, rfl⟩
    · rintro δ ⟨d8, d9, d10, d11, d12, d13, rfl⟩
      exact k _ _ _ _ _ _ _ _ _ _ _ _
  have rest7 : ∀ (E : DEnds) (i : Int) (pb : Addr) (b : List D) (size : Int) (way : Int) (many : Int) d7 d8 d9 d10 d11 d12 d13, 0 < size → size ≤ 12 → 0 ≤ many → many ≤ 400 → Bx (0 + 1 + 1 + 1 + 1) b →
      (∀ d2 d3 d4 d5 d6 d7 d8 d9 d10 d11 d12 d13, E.nx [some (.fz (.scr ns)), some (.fz (.lst (cells.map .int))), d2, d3, d4, d5, d6, d7, d8, d9, d10, d11, d12, d13]) →
      dCut tl_law_7 E [some (.fz (.scr ns)), some (.fz (.lst (cells.map .int))), some (.fz (.int i)), some (.own pb b), some (.fz (.int size)), some (.fz (.int way)), some (.fz (.int many)), d7, d8, d9, d10, d11, d12, d13] := by
    intro E i pb b size way many d7 d8 d9 d10 d11 d12 d13 hs1 hs2 hm0 hm1 hb k
    obtain ⟨size, rfl⟩ : ∃ z : Nat, size = z := ⟨size.toNat, by omega⟩
    have go : ∀ (many : Int) b, 0 ≤ many → many ≤ 400 → Bx 10 b → dCut tl_law_11 E [some (.fz (.scr ns)), some (.fz (.lst (cells.map .int))), some (.fz (.int i)), some (.own pb b), some (.fz (.int size)), some (.fz (.int way)), some (.fz (.int many)), d7, d8, d9, d10, d11, d12, d13] := by
      intro many b hm0 hm1 hb
      obtain ⟨many, rfl⟩ : ∃ z : Nat, many = z := ⟨many.toNat, by omega⟩
      exact rest _ _ _ _ _ _ _ _ _ _ _ _ _ _ hb (by omega) (by omega) (by omega) k
    have d1 : 0 ≤ (size : Int) * (many / (size : Int)) := Int.mul_nonneg (by omega) (Int.ediv_nonneg hm0 (by omega))
    have d2 : (size : Int) * (many / (size : Int)) ≤ many := Int.mul_ediv_self_le (by omega)
    have d3 : 0 ≤ many / (size : Int) := Int.ediv_nonneg hm0 (by omega)
    have d4 : many / (size : Int) ≤ many := Int.ediv_le_self _ hm0
    walk_at "cut"
    walk_at "if"
    · intro h
      subst h
      walk_at "go"
      exact go _ _ d1 (by omega) (hb.mono (by omega))
    · intro h
      walk_at "go"
      walk_at "if"
      · intro h2
        walk_at "go"
        walk_at "tk"
        intro r b' hr0 hr1 hb'
        walk_at "go"
        exact go _ _ (by omega) (by omega) (hb'.mono (by omega))
      · intro h2
        walk_at "go"
        exact go _ _ hm0 hm1 (hb.mono (by omega))
  walk_at "go"
  refine for_inv (fun i δ => ∃ d2 d3 d4 d5 d6 d7 d8 d9 d10 d11 d12 d13, δ = [some (.fz (.scr ns)), some (.fz (.lst (cells.map .int))), d2, d3, d4, d5, d6, d7, d8, d9, d10, d11, d12, d13]) ⟨_, _, _, _, _, _, _, _, _, _, _, _, rfl⟩ ?_ ?_
  · rintro i d δ N e ⟨d2, d3, d4, d5, d6, d7, d8, d9, d10, d11, d12, d13, rfl⟩ k
    obtain ⟨hi, rfl⟩ := rngD_get e
    rw [List.length_map] at hi
    have hi : i ≤ 63 := by split at hi <;> omega
    have k' : ∀ d2 d3 d4 d5 d6 d7 d8 d9 d10 d11 d12 d13, N [some (.fz (.scr ns)), some (.fz (.lst (cells.map .int))), d2, d3, d4, d5, d6, d7, d8, d9, d10, d11, d12, d13] := fun _ _ _ _ _ _ _ _ _ _ _ _ => k _ ⟨_, _, _, _, _, _, _, _, _, _, _, _, rfl⟩
    walk_at "go"
    refine ⟨cells, i, by rw [Int.zero_add], by omega, fun p0 b hb => ?_⟩
    walk_at "go"
    intro pb
    walk_at "go"
    walk_at "tk"
    intro size b1 hs0 hs1 hb1
    walk_at "go"
    walk_at "tk"
    intro way b2 hw0 hw1 hb2
    walk_at "go"
    walk_at "tk"
    intro r b3 hr0 hr1 hb3
    walk_at "go"
    walk_at "if"
    · intro h
      walk_at "go"
      walk_at "tk"
      intro many b4 hm0 hm1 hb4
      walk_at "go"
      exact rest7 _ _ _ _ _ _ _ _ _ _ _ _ _ _ (by omega) (by omega) hm0 (by omega) hb4 k'
    · intro h
      walk_at "go"
      walk_at "tk"
      intro many b4 hm0 hm1 hb4
      walk_at "go"
      exact rest7 _ _ _ _ _ _ _ _ _ _ _ _ _ _ (by omega) (by omega) hm0 (by omega) hb4 k'
  · rintro δ ⟨d2, d3, d4, d5, d6, d7, d8, d9, d10, d11, d12, d13, rfl⟩
    exact post
theorem ok_law {f : Addr} {fd : FuncData} (F : Fun K "law" "law" s_law f fd) (hm : mg "law" = some (.ref f)) (T : Txt K mg) (c__law_folded : CalF P w K mg base 1 "_law_folded" 2 (phiP 2 f__law_folded)) (c__law_box : CalF P w K mg base 1 "_law_box" 2 (phiP 2 f__law_box)) (c__law_take : CalF P w K mg base 1 "_law_take" 2 (phiB 1 f__law_take)) (c__law_text : CalF P w K mg base 2 "_law_text" 2 (phiB 1 f__law_text)) (c_pieces_of : CalF P w K mg base 1 "pieces_of" 2 (phiP 2 f_pieces_of)) (c__law_fits : CalF P w K mg base 2 "_law_fits" 3 (phiP 3 f__law_fits)) (c_text_of : CalF P w K mg base 1 "text_of" 1 (phiP 1 f_text_of)) : CalF P w K mg base 3 "law" 1 (phiP 1 f_law) :=
  okP F hm (F.binds fun _ _ _ _ _ _ us hl => match us, hl with | [_], _ => rfl) sc_law fun cdv A outer s H E hr => ⟨rd_law, dv_law T c__law_folded c__law_box c__law_take c__law_text c_pieces_of c__law_fits c_text_of hr, pf_law⟩
end
theorem all_mk {l : PySem.W.OpenLaw} {w : World} {K : PySem.W.Frag} {h : Heap} {mg : Str → Option Value} {fa f0 f1 f2 f3 f4 f5 f6 f7 f8 : Addr} (X : K.In h) (G : h.Ns mainGlobals mg) (hfa : mg "law" = some (.ref fa))
    {od0 od1 od2 od3 od4 od5 od6 od7 od8 an0 an1 an2 an3 an4 an5 an6 an7 an8 : Option Addr} {sl0 sl1 sl2 sl3 sl4 sl5 sl6 sl7 sl8 : Array (Option Value)} {oc0 kV0 dc0 pm0 cd0 ct0 oc1 kV1 dc1 pm1 cd1 ct1 oc2 kV2 dc2 pm2 cd2 ct2 oc3 kV3 dc3 pm3 cd3 ct3 oc4 kV4 dc4 pm4 cd4 ct4 oc5 kV5 dc5 pm5 cd5 ct5 oc6 kV6 dc6 pm6 cd6 ct6 oc7 kV7 dc7 pm7 cd7 ct7 oc8 kV8 dc8 pm8 cd8 ct8 : Value} {tk_FIGURES tk_LETTERS tk_MOST_WORD : Tok}
    (a0 : PySem.W.nsIn K mainGlobals "pieces_of" = some (some (.ref f0))) (l0 : K.lookup f0 = some ⟨oc0, od0, .func (PySem.W.fnOf "pieces_of" "pieces_of" (defArgs s_pieces_of) (defBody s_pieces_of) (defScope s_pieces_of) .none kV0 dc0 pm0 an0 cd0 ct0), sl0⟩) (c0 : PySem.W.codeIn K cd0 "pieces_of" = true) (k0 : PySem.W.keepIn K (.ref f0) = true)
    (a1 : PySem.W.nsIn K mainGlobals "text_of" = some (some (.ref f1))) (l1 : K.lookup f1 = some ⟨oc1, od1, .func (PySem.W.fnOf "text_of" "text_of" (defArgs s_text_of) (defBody s_text_of) (defScope s_text_of) .none kV1 dc1 pm1 an1 cd1 ct1), sl1⟩) (c1 : PySem.W.codeIn K cd1 "text_of" = true) (k1 : PySem.W.keepIn K (.ref f1) = true)
    (a2 : PySem.W.nsIn K mainGlobals "is_word" = some (some (.ref f2))) (l2 : K.lookup f2 = some ⟨oc2, od2, .func (PySem.W.fnOf "is_word" "is_word" (defArgs s_is_word) (defBody s_is_word) (defScope s_is_word) .none kV2 dc2 pm2 an2 cd2 ct2), sl2⟩) (c2 : PySem.W.codeIn K cd2 "is_word" = true) (k2 : PySem.W.keepIn K (.ref f2) = true)
    (a3 : PySem.W.nsIn K mainGlobals "_law_box" = some (some (.ref f3))) (l3 : K.lookup f3 = some ⟨oc3, od3, .func (PySem.W.fnOf "_law_box" "_law_box" (defArgs s__law_box) (defBody s__law_box) (defScope s__law_box) .none kV3 dc3 pm3 an3 cd3 ct3), sl3⟩) (c3 : PySem.W.codeIn K cd3 "_law_box" = true) (k3 : PySem.W.keepIn K (.ref f3) = true)
    (a4 : PySem.W.nsIn K mainGlobals "_law_take" = some (some (.ref f4))) (l4 : K.lookup f4 = some ⟨oc4, od4, .func (PySem.W.fnOf "_law_take" "_law_take" (defArgs s__law_take) (defBody s__law_take) (defScope s__law_take) .none kV4 dc4 pm4 an4 cd4 ct4), sl4⟩) (c4 : PySem.W.codeIn K cd4 "_law_take" = true) (k4 : PySem.W.keepIn K (.ref f4) = true)
    (a5 : PySem.W.nsIn K mainGlobals "_law_folded" = some (some (.ref f5))) (l5 : K.lookup f5 = some ⟨oc5, od5, .func (PySem.W.fnOf "_law_folded" "_law_folded" (defArgs s__law_folded) (defBody s__law_folded) (defScope s__law_folded) .none kV5 dc5 pm5 an5 cd5 ct5), sl5⟩) (c5 : PySem.W.codeIn K cd5 "_law_folded" = true) (k5 : PySem.W.keepIn K (.ref f5) = true)
    (a6 : PySem.W.nsIn K mainGlobals "_law_text" = some (some (.ref f6))) (l6 : K.lookup f6 = some ⟨oc6, od6, .func (PySem.W.fnOf "_law_text" "_law_text" (defArgs s__law_text) (defBody s__law_text) (defScope s__law_text) .none kV6 dc6 pm6 an6 cd6 ct6), sl6⟩) (c6 : PySem.W.codeIn K cd6 "_law_text" = true) (k6 : PySem.W.keepIn K (.ref f6) = true)
    (a7 : PySem.W.nsIn K mainGlobals "_law_fits" = some (some (.ref f7))) (l7 : K.lookup f7 = some ⟨oc7, od7, .func (PySem.W.fnOf "_law_fits" "_law_fits" (defArgs s__law_fits) (defBody s__law_fits) (defScope s__law_fits) .none kV7 dc7 pm7 an7 cd7 ct7), sl7⟩) (c7 : PySem.W.codeIn K cd7 "_law_fits" = true) (k7 : PySem.W.keepIn K (.ref f7) = true)
    (a8 : PySem.W.nsIn K mainGlobals "law" = some (some (.ref f8))) (l8 : K.lookup f8 = some ⟨oc8, od8, .func (PySem.W.fnOf "law" "law" (defArgs s_law) (defBody s_law) (defScope s_law) .none kV8 dc8 pm8 an8 cd8 ct8), sl8⟩) (c8 : PySem.W.codeIn K cd8 "law" = true) (k8 : PySem.W.keepIn K (.ref f8) = true)
    (z_abs : PySem.W.nsIn K mainGlobals "abs" = some none)
    (z_all : PySem.W.nsIn K mainGlobals "all" = some none)
    (z_divmod : PySem.W.nsIn K mainGlobals "divmod" = some none)
    (z_enumerate : PySem.W.nsIn K mainGlobals "enumerate" = some none)
    (z_int : PySem.W.nsIn K mainGlobals "int" = some none)
    (z_isinstance : PySem.W.nsIn K mainGlobals "isinstance" = some none)
    (z_len : PySem.W.nsIn K mainGlobals "len" = some none)
    (z_list : PySem.W.nsIn K mainGlobals "list" = some none)
    (z_max : PySem.W.nsIn K mainGlobals "max" = some none)
    (z_min : PySem.W.nsIn K mainGlobals "min" = some none)
    (z_range : PySem.W.nsIn K mainGlobals "range" = some none)
    (z_str : PySem.W.nsIn K mainGlobals "str" = some none)
    (m_FIGURES : PySem.W.nsIn K mainGlobals "FIGURES" = some (some (.str "0123456789" tk_FIGURES)))
    (m_LETTERS : PySem.W.nsIn K mainGlobals "LETTERS" = some (some (.str "abcdefghijklmnopqrstuvwxyz" tk_LETTERS)))
    (m_MOST_WORD : PySem.W.nsIn K mainGlobals "MOST_WORD" = some (some (.int 12 tk_MOST_WORD)))
    : ∃ fd : FuncData, (∀ (s : Shared) (v : Value), BindsTo s fd ⟨[v], []⟩ [("_law_script", v)]) ∧ ∀ base : Heap, K.In base → base.Ns mainGlobals mg → FnOk l.prog w K mg base CX0 3 fa fd ["_law_script"] (spD K 1 (phiP 1 fLaw)) := by
  have T : Txt K mg := ⟨PySem.W.mg_none_of X G z_abs, PySem.W.mg_none_of X G z_all, PySem.W.mg_none_of X G z_divmod, PySem.W.mg_none_of X G z_enumerate, PySem.W.mg_none_of X G z_int, PySem.W.mg_none_of X G z_isinstance, PySem.W.mg_none_of X G z_len, PySem.W.mg_none_of X G z_list, PySem.W.mg_none_of X G z_max, PySem.W.mg_none_of X G z_min, PySem.W.mg_none_of X G z_range, PySem.W.mg_none_of X G z_str, ⟨_, PySem.W.mg_of X G m_FIGURES⟩, ⟨_, PySem.W.mg_of X G m_LETTERS⟩, ⟨_, PySem.W.mg_of X G m_MOST_WORD⟩⟩
  have e := hfa.symm.trans (PySem.W.mg_of X G a8)
  cases e
  refine ⟨PySem.W.fnOf "law" "law" (defArgs s_law) (defBody s_law) (defScope s_law) .none kV8 dc8 pm8 an8 cd8 ct8, fun s v => .of_eq rfl, fun base _ _ => ?_⟩
  have C0 := ok_pieces_of (P := l.prog) (w := w) (base := base) (fun_mk (st := s_pieces_of) l0 c0 k0) (PySem.W.mg_of X G a0) T 
  have C1 := ok_text_of (P := l.prog) (w := w) (base := base) (fun_mk (st := s_text_of) l1 c1 k1) (PySem.W.mg_of X G a1) T 
  have C2 := ok_is_word (P := l.prog) (w := w) (base := base) (fun_mk (st := s_is_word) l2 c2 k2) (PySem.W.mg_of X G a2) T 
  have C3 := ok__law_box (P := l.prog) (w := w) (base := base) (fun_mk (st := s__law_box) l3 c3 k3) (PySem.W.mg_of X G a3) T 
  have C4 := ok__law_take (P := l.prog) (w := w) (base := base) (fun_mk (st := s__law_take) l4 c4 k4) (PySem.W.mg_of X G a4) T 
  have C5 := ok__law_folded (P := l.prog) (w := w) (base := base) (fun_mk (st := s__law_folded) l5 c5 k5) (PySem.W.mg_of X G a5) T 
  have C6 := ok__law_text (P := l.prog) (w := w) (base := base) (fun_mk (st := s__law_text) l6 c6 k6) (PySem.W.mg_of X G a6) T C4
  have C7 := ok__law_fits (P := l.prog) (w := w) (base := base) (fun_mk (st := s__law_fits) l7 c7 k7) (PySem.W.mg_of X G a7) T C2
  have FL := fun_mk (st := s_law) l8 c8 k8
  have mono : ∀ {f fd ps}, FnOk l.prog w K mg base CX0 3 f fd ps (spD K 1 (phiP 1 f_law)) → FnOk l.prog w K mg base CX0 3 f fd ps (spD K 1 (phiP 1 fLaw)) := fun z => z
  exact okLaw FL (PySem.W.mg_of X G a8) (FL.binds fun _ _ _ _ _ _ us hl => match us, hl with | [_], _ => rfl) sc_law fun cdv A outer s H E hr => ⟨rd_law, dv_law T C5 C3 C4 C6 C0 C7 C1 hr, pf_law⟩
end Lw
open PySem PySem.W PyProof.Rows in
set_option maxRecDepth 100000 in
set_option maxHeartbeats 0 in
theorem PySem.Challenge.cw_manylines_k06_texts_cut_in_pieces_holds : PySem.Challenge.rw_manylines_k06_texts_cut_in_pieces.Holds := by
  w_on; o_law; k_head; (case hw => w_witness2)
  k_fill
  refine L2.walk_ofK (l := PySem.Challenge.rw_manylines_k06_texts_cut_in_pieces) (n := 63) (k := 3) (x := "_law_script") (CX := L2.CX0) (sp := fun K => DL.spD K 1 (DL.phiP 1 DL.fLaw)) rfl (by decide) rfl ⟨rfl, by decide, by decide⟩ (fun w h Y => PySem.W.kIn_of Y) ?F (fun K H a ns hl _ hS => DL.law_sp K H a ns hl hS) (fun _ _ _ _ z => z)
  case F =>
    intro w mg fa h KX G hmg
    refine' Lw.all_mk KX G hmg ?a0 ?l0 ?c0 ?k0 ?a1 ?l1 ?c1 ?k1 ?a2 ?l2 ?c2 ?k2 ?a3 ?l3 ?c3 ?k3 ?a4 ?l4 ?c4 ?k4 ?a5 ?l5 ?c5 ?k5 ?a6 ?l6 ?c6 ?k6 ?a7 ?l7 ?c7 ?k7 ?a8 ?l8 ?c8 ?k8 ?z_abs ?z_all ?z_divmod ?z_enumerate ?z_int ?z_isinstance ?z_len ?z_list ?z_max ?z_min ?z_range ?z_str ?m_FIGURES ?m_LETTERS ?m_MOST_WORD
    (case a0 => k_is)
    (case l0 => k_is)
    (case c0 => k_is)
    (case k0 => k_is)
    (case a1 => k_is)
    (case l1 => k_is)
    (case c1 => k_is)
    (case k1 => k_is)
    (case a2 => k_is)
    (case l2 => k_is)
    (case c2 => k_is)
    (case k2 => k_is)
    (case a3 => k_is)
    (case l3 => k_is)
    (case c3 => k_is)
    (case k3 => k_is)
    (case a4 => k_is)
    (case l4 => k_is)
    (case c4 => k_is)
    (case k4 => k_is)
    (case a5 => k_is)
    (case l5 => k_is)
    (case c5 => k_is)
    (case k5 => k_is)
    (case a6 => k_is)
    (case l6 => k_is)
    (case c6 => k_is)
    (case k6 => k_is)
    (case a7 => k_is)
    (case l7 => k_is)
    (case c7 => k_is)
    (case k7 => k_is)
    (case a8 => k_is)
    (case l8 => k_is)
    (case c8 => k_is)
    (case k8 => k_is)
    (case z_abs => k_is)
    (case z_all => k_is)
    (case z_divmod => k_is)
    (case z_enumerate => k_is)
    (case z_int => k_is)
    (case z_isinstance => k_is)
    (case z_len => k_is)
    (case z_list => k_is)
    (case z_max => k_is)
    (case z_min => k_is)
    (case z_range => k_is)
    (case z_str => k_is)
    (case m_FIGURES => k_is)
    (case m_LETTERS => k_is)
    (case m_MOST_WORD => k_is)
#print axioms PySem.Challenge.cw_manylines_k06_texts_cut_in_pieces_holds
