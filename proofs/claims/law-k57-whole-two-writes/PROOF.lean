import PyProof.Rows.All
import Wide.All
import OpenK.AllK
import Wide.FinOn
import PyProof.EqAt
import PyProof.EqKinds
import PyProof.TupleCall
import KE.KExcIs
import KE.KExcSuper
import HandS.ForMost
import HandS.Exc
import HandS.ExcOwn
import HandS.WordsExc
import HandS.ExcInit
import HandS.ExcField
import HandS.IsInst
import HandS.Conv
import HandS.Style
import HandS.More
import HandS.Star
import HandS.Evl
import HandS.ExcIs
import KE.RegKIsAll
import KE.RegKSuper
import PySem.Challenge.RW_fieldrides_k57_whole_two_writes
set_option Elab.async false
set_option linter.all false
set_option autoImplicit false
set_option maxRecDepth 100000
set_option maxHeartbeats 4000000
/-! # FrMath -/
namespace FR

inductive Kd where
  | up | down | first | last
  deriving DecidableEq

abbrev Par := List (Option Nat)
def par (ps : Par) (f : Nat) : Option Nat := (ps[f]?).getD none

structure Wf (ps : Par) (r : Nat → Nat) : Prop where
  lt : ∀ i p, par ps i = some p → i < ps.length ∧ p < ps.length ∧ r p < r i
  bd : ∀ i, r i ≤ ps.length
  bs : ∀ i, i < ps.length → r i < ps.length

def lstep (ps : Par) (l : List Nat) : List Nat :=
  match par ps (l.headD 0) with
  | none => l
  | some p => p :: l
def up (ps : Par) : Nat → List Nat → List Nat
  | 0, l => l
  | k + 1, l => up ps k (lstep ps l)
def pathL (ps : Par) (f : Nat) : List Nat := up ps ps.length [f]

theorem lstep_none {ps : Par} {l : List Nat} (h : par ps (l.headD 0) = none) : lstep ps l = l := by
  unfold lstep; rw [h]
theorem lstep_some {ps : Par} {l : List Nat} {p : Nat} (h : par ps (l.headD 0) = some p) : lstep ps l = p :: l := by
  unfold lstep; rw [h]
theorem lstep_ne {ps : Par} {l : List Nat} (h : l ≠ []) : lstep ps l ≠ [] := by
  unfold lstep; split
  · exact h
  · simp
theorem up_succ (ps : Par) : ∀ (k : Nat) (l : List Nat), up ps (k + 1) l = lstep ps (up ps k l)
  | 0, _ => rfl
  | k + 1, l => up_succ ps k (lstep ps l)
theorem up_fix {ps : Par} {l : List Nat} (h : par ps (l.headD 0) = none) : ∀ k, up ps k l = l
  | 0 => rfl
  | k + 1 => by show up ps k (lstep ps l) = l; rw [lstep_none h]; exact up_fix h k
theorem up_top {ps : Par} {r : Nat → Nat} (W : Wf ps r) : ∀ (k : Nat) (l : List Nat), r (l.headD 0) ≤ k → par ps ((up ps k l).headD 0) = none
  | 0, l, h => by
    show par ps (l.headD 0) = none
    cases e : par ps (l.headD 0) with
    | none => rfl
    | some p => have := (W.lt _ _ e).2.2; omega
  | k + 1, l, h => by
    show par ps ((up ps k (lstep ps l)).headD 0) = none
    cases e : par ps (l.headD 0) with
    | none => rw [lstep_none e, up_fix e k]; exact e
    | some p =>
      rw [lstep_some e]
      exact up_top W k (p :: l) (by have := (W.lt _ _ e).2.2; show r p ≤ k; omega)
theorem up_full {ps : Par} {r : Nat → Nat} (W : Wf ps r) (l : List Nat) : par ps ((up ps ps.length l).headD 0) = none := by
  exact up_top W _ l (W.bd _)
theorem up_lstep {ps : Par} {r : Nat → Nat} (W : Wf ps r) (l : List Nat) : up ps ps.length (lstep ps l) = up ps ps.length l := by
  have h : up ps (ps.length + 1) l = lstep ps (up ps ps.length l) := up_succ ps ps.length l
  have h2 : up ps (ps.length + 1) l = up ps ps.length (lstep ps l) := rfl
  rw [← h2, h, lstep_none (up_full W l)]
theorem up_append {ps : Par} (m : List Nat) : ∀ (k : Nat) (l : List Nat), l ≠ [] → up ps k (l ++ m) = up ps k l ++ m
  | 0, _, _ => rfl
  | k + 1, l, h => by
    show up ps k (lstep ps (l ++ m)) = up ps k (lstep ps l) ++ m
    have e : lstep ps (l ++ m) = lstep ps l ++ m := by
      cases l with
      | nil => exact absurd rfl h
      | cons a t =>
        unfold lstep
        show (match par ps a with | none => a :: t ++ m | some p => p :: (a :: t ++ m)) = (match par ps a with | none => a :: t | some p => p :: (a :: t)) ++ m
        cases par ps a <;> rfl
    rw [e]
    exact up_append m k (lstep ps l) (lstep_ne h)
theorem path_root {ps : Par} {f : Nat} (h : par ps f = none) : pathL ps f = [f] := up_fix (l := [f]) h _
theorem path_some {ps : Par} {r : Nat → Nat} (W : Wf ps r) {f p : Nat} (h : par ps f = some p) : pathL ps f = pathL ps p ++ [f] := by
  unfold pathL
  rw [← up_lstep W [f], lstep_some (l := [f]) h]
  exact up_append [f] ps.length [p] (by simp)
theorem path_lt {ps : Par} {r : Nat → Nat} (W : Wf ps r) : ∀ (k : Nat) (l : List Nat), (∀ x ∈ l, x < ps.length) → ∀ x ∈ up ps k l, x < ps.length
  | 0, _, h => h
  | k + 1, l, h => path_lt W k (lstep ps l) fun x hx => by
    unfold lstep at hx
    cases e : par ps (l.headD 0) with
    | none => rw [e] at hx; exact h x hx
    | some p =>
      rw [e] at hx
      rcases List.mem_cons.mp hx with rfl | hx
      · exact (W.lt _ _ e).2.1
      · exact h x hx
theorem path_mem_lt {ps : Par} {r : Nat → Nat} (W : Wf ps r) {f g : Nat} (hf : f < ps.length) (h : g ∈ pathL ps f) : g < ps.length :=
  path_lt W _ _ (fun x hx => by rw [List.mem_singleton.mp hx]; exact hf) g h
theorem path_split {ps : Par} {r : Nat → Nat} (W : Wf ps r) (f : Nat) : ∃ t, pathL ps f = t ++ [f] := by
  cases e : par ps f with
  | none => exact ⟨[], path_root e⟩
  | some p => exact ⟨_, path_some W e⟩
theorem self_mem {ps : Par} {r : Nat → Nat} (W : Wf ps r) (f : Nat) : f ∈ pathL ps f := by
  obtain ⟨t, e⟩ := path_split W f
  rw [e]; simp
theorem path_len {ps : Par} : ∀ (k : Nat) (l : List Nat), (up ps k l).length ≤ l.length + k
  | 0, l => Nat.le_refl _
  | k + 1, l => by
    show (up ps k (lstep ps l)).length ≤ _
    have h := path_len (ps := ps) k (lstep ps l)
    have h2 : (lstep ps l).length ≤ l.length + 1 := by unfold lstep; split <;> simp
    omega
theorem path_length (ps : Par) (f : Nat) : (pathL ps f).length ≤ ps.length + 1 := by
  have := path_len (ps := ps) ps.length [f]
  simp only [List.length_cons, List.length_nil] at this
  unfold pathL; omega
theorem up_ne {ps : Par} : ∀ (k : Nat) (l : List Nat), l ≠ [] → up ps k l ≠ []
  | 0, _, h => h
  | k + 1, l, h => up_ne k (lstep ps l) (lstep_ne h)
theorem path_ne (ps : Par) (f : Nat) : pathL ps f ≠ [] := up_ne _ _ (by simp)
theorem path_pre {ps : Par} {r : Nat → Nat} (W : Wf ps r) (g : Nat) : ∀ (m f : Nat), r f ≤ m → g ∈ pathL ps f → ∃ t, pathL ps f = pathL ps g ++ t := by
  intro m
  induction m with
  | zero =>
    intro f hm hg
    cases e : par ps f with
    | none =>
      rw [path_root e] at hg
      rw [List.mem_singleton.mp hg]; exact ⟨[], by simp⟩
    | some p => have := (W.lt _ _ e).2.2; omega
  | succ m ih =>
    intro f hm hg
    cases e : par ps f with
    | none =>
      rw [path_root e] at hg
      rw [List.mem_singleton.mp hg]; exact ⟨[], by simp⟩
    | some p =>
      have hr := (W.lt _ _ e).2.2
      rw [path_some W e] at hg
      rcases List.mem_append.mp hg with hg | hg
      · obtain ⟨t, ht⟩ := ih p (by omega) hg
        exact ⟨t ++ [f], by rw [path_some W e, ht, List.append_assoc]⟩
      · rw [List.mem_singleton.mp hg]; exact ⟨[], by simp⟩
theorem path_prefix {ps : Par} {r : Nat → Nat} (W : Wf ps r) {f g : Nat} (h : g ∈ pathL ps f) : ∃ t, pathL ps f = pathL ps g ++ t := path_pre W g (r f) f (Nat.le_refl _) h

/-! ### records, merges -/
def rg (a : List Int) (p : Nat) : Int := a.getD p 0
def kd (ks : List Kd) (p : Nat) : Kd := ks.getD p .up
def bet : Kd → Int → Int → Bool
  | .up, x, y => decide (x > y)
  | .down, x, y => decide (x < y)
  | _, _, _ => false
def fu (ps : Par) (a b : List Int) (f : Nat) : Option Nat := (pathL ps f).find? fun p => rg a p != rg b p
def olderAt (ks : List Kd) (a b : List Int) : Option Nat → Bool
  | none => true
  | some p => decide (kd ks p = .first) || bet (kd ks p) (rg a p) (rg b p)
def older (ps : Par) (ks : List Kd) (a b : List Int) (f : Nat) : Bool := olderAt ks a b (fu ps a b f)
def merge (ps : Par) (ks : List Kd) (a b : List Int) : List Int := (List.range ps.length).map fun f => if older ps ks a b f then rg a f else rg b f
theorem merge_length (ps : Par) (ks : List Kd) (a b : List Int) : (merge ps ks a b).length = ps.length := by
  unfold merge; rw [List.length_map, List.length_range]
theorem rg_merge {ps : Par} {ks : List Kd} {a b : List Int} {f : Nat} (h : f < ps.length) : rg (merge ps ks a b) f = if older ps ks a b f then rg a f else rg b f := by
  unfold merge
  show ((List.range ps.length).map _).getD f 0 = _
  rw [List.getD_eq_getElem?_getD, List.getElem?_map, List.getElem?_range h]
  rfl
def fairK : Kd → Bool
  | .up => true
  | .down => true
  | _ => false
def Fair (ks : List Kd) : Prop := ∀ p, fairK (kd ks p) = true
theorem fair_first {ks : List Kd} (F : Fair ks) (p : Nat) : decide (kd ks p = .first) = false := by
  have h := F p
  cases e : kd ks p <;> rw [e] at h <;> first | rfl | exact absurd h (by decide)
theorem bet_swap {k : Kd} (h : fairK k = true) {x y : Int} (hne : x ≠ y) : bet k x y = !bet k y x := by
  cases k with
  | up =>
    show decide (x > y) = !decide (y > x)
    by_cases h1 : x > y
    · have h2 : ¬ y > x := by omega
      simp [h1, h2]
    · have h2 : y > x := by omega
      simp [h1, h2]
  | down =>
    show decide (x < y) = !decide (y < x)
    by_cases h1 : x < y
    · have h2 : ¬ y < x := by omega
      simp [h1, h2]
    · have h2 : y < x := by omega
      simp [h1, h2]
  | first => exact absurd h (by decide)
  | last => exact absurd h (by decide)
theorem fu_swap (ps : Par) (a b : List Int) (f : Nat) : fu ps a b f = fu ps b a f := by
  unfold fu
  congr 1
  funext p
  by_cases h : rg a p = rg b p
  · rw [h]
  · have h1 : (rg a p != rg b p) = true := by simpa using h
    have h2 : (rg b p != rg a p) = true := by simpa using fun q => h q.symm
    rw [h1, h2]
theorem fu_some {ps : Par} {a b : List Int} {f p : Nat} (h : fu ps a b f = some p) : rg a p ≠ rg b p := by
  have := List.find?_some h
  simpa using this
theorem fu_mem {ps : Par} {a b : List Int} {f p : Nat} (h : fu ps a b f = some p) : p ∈ pathL ps f := List.mem_of_find?_eq_some h
theorem fu_none {ps : Par} {a b : List Int} {f : Nat} (h : fu ps a b f = none) : ∀ p ∈ pathL ps f, rg a p = rg b p := by
  intro p hp
  have := List.find?_eq_none.mp h p hp
  simpa using this
theorem merge_comm {ps : Par} {ks : List Kd} {a b : List Int} {r : Nat → Nat} (W : Wf ps r) (F : Fair ks) : merge ps ks a b = merge ps ks b a := by
  unfold merge
  refine List.map_congr_left fun f _ => ?_
  unfold older
  rw [fu_swap ps b a f]
  cases e : fu ps a b f with
  | none =>
    show rg a f = rg b f
    exact fu_none e f (self_mem W f)
  | some p =>
    have hne := fu_some e
    show (if (decide (kd ks p = .first) || bet (kd ks p) (rg a p) (rg b p)) = true then rg a f else rg b f) = (if (decide (kd ks p = .first) || bet (kd ks p) (rg b p) (rg a p)) = true then rg b f else rg a f)
    rw [fair_first F p, Bool.false_or, Bool.false_or, bet_swap (F p) hne]
    cases bet (kd ks p) (rg b p) (rg a p) <;> rfl

/-! ### writes -/
def newR (base : List Int) (cs : List (Nat × Int)) : List Int := (List.range base.length).map fun f => (cs.lookup f).getD (rg base f)
theorem newR_length (base : List Int) (cs : List (Nat × Int)) : (newR base cs).length = base.length := by
  unfold newR; rw [List.length_map, List.length_range]
theorem rg_newR {base : List Int} {cs : List (Nat × Int)} {f : Nat} (h : f < base.length) : rg (newR base cs) f = (cs.lookup f).getD (rg base f) := by
  unfold newR
  show ((List.range base.length).map _).getD f 0 = _
  rw [List.getD_eq_getElem?_getD, List.getElem?_map, List.getElem?_range h]
  rfl
theorem lookup_none_iff {cs : List (Nat × Int)} {k : Nat} : cs.lookup k = none ↔ k ∉ cs.map (·.1) := by
  induction cs with
  | nil => simp
  | cons p t ih =>
    obtain ⟨a, v⟩ := p
    by_cases h : k = a
    · subst h; simp [List.lookup]
    · have hb : (k == a) = false := by simpa using h
      simp only [List.lookup, hb, List.map_cons, List.mem_cons]
      rw [ih]
      constructor
      · intro q q2
        rcases q2 with q2 | q2
        · exact h q2
        · exact q q2
      · intro q q2; exact q (Or.inr q2)
theorem lookup_mem {cs : List (Nat × Int)} {k : Nat} {v : Int} (h : cs.lookup k = some v) : (k, v) ∈ cs := by
  induction cs with
  | nil => cases h
  | cons p t ih =>
    obtain ⟨a, w⟩ := p
    by_cases e : k = a
    · subst e
      have q : some w = some v := by simpa [List.lookup] using h
      cases q; simp
    · have hb : (k == a) = false := by simpa using e
      simp only [List.lookup, hb] at h
      exact List.mem_cons_of_mem _ (ih h)
theorem lookup_append (cs ds : List (Nat × Int)) (k : Nat) : (cs ++ ds).lookup k = (cs.lookup k).or (ds.lookup k) := by
  induction cs with
  | nil => rfl
  | cons p t ih =>
    obtain ⟨a, w⟩ := p
    by_cases e : k = a
    · subst e; simp [List.lookup]
    · have hb : (k == a) = false := by simpa using e
      show List.lookup k ((a, w) :: (t ++ ds)) = _
      simp only [List.lookup, hb]
      exact ih
theorem newR_snoc {base : List Int} {cs : List (Nat × Int)} {k : Nat} {v : Int} (hn : k ∉ cs.map (·.1)) : newR base (cs ++ [(k, v)]) = (newR base cs).set k v := by
  apply List.ext_getElem?
  intro i
  by_cases hi : i < base.length
  · rw [List.getElem?_set]
    unfold newR
    rw [List.getElem?_map, List.getElem?_range hi, Option.map_some, lookup_append]
    by_cases e : k = i
    · subst e
      rw [if_pos rfl, if_pos (by rw [List.length_map, List.length_range]; exact hi), lookup_none_iff.mpr hn]
      simp [List.lookup]
    · rw [if_neg e, List.getElem?_map, List.getElem?_range hi]
      have hb : (i == k) = false := by simpa using fun q => e q.symm
      have h0 : List.lookup i [(k, v)] = none := by simp [List.lookup, hb]
      rw [h0, Option.map_some, Option.or_none]
  · rw [List.getElem?_eq_none (by rw [newR_length]; omega), List.getElem?_eq_none (by rw [List.length_set, newR_length]; omega)]
theorem newR_nil (base : List Int) : newR base [] = base := by
  apply List.ext_getElem?
  intro i
  by_cases hi : i < base.length
  · unfold newR
    rw [List.getElem?_map, List.getElem?_range hi]
    show some (rg base i) = base[i]?
    rw [List.getElem?_eq_getElem hi]
    unfold rg
    rw [List.getD_eq_getElem?_getD, List.getElem?_eq_getElem hi]
    rfl
  · rw [List.getElem?_eq_none (by rw [newR_length]; omega), List.getElem?_eq_none (by omega)]

/-! ### the question's lists -/
def inL (l : List Int) (p : Nat) : Bool := l.contains (p : Int)
theorem inL_iff {l : List Int} {p : Nat} : inL l p = true ↔ (p : Int) ∈ l := by unfold inL; simp
def half (ps : Par) (A B : List Int) : Bool := A.all fun x => !((pathL ps x.toNat).any fun p => inL B p)
def apt (ps : Par) (A B : List Int) : Bool := half ps A B && half ps B A
def hasAbove (ps : Par) (U L : List Int) : Bool := L.any fun x => (pathL ps x.toNat).dropLast.any fun p => inL U p
def ans (ps : Par) (A B : List Int) : Bool := !hasAbove ps A B && !hasAbove ps B A
theorem apt_comm (ps : Par) (A B : List Int) : apt ps A B = apt ps B A := Bool.and_comm _ _
def Valid (n : Nat) (A : List Int) : Prop := ∀ x ∈ A, 0 ≤ x ∧ x < (n : Int)
def Apart (A B : List Int) : Prop := ∀ x ∈ A, x ∉ B
theorem half_eq {ps : Par} {r : Nat → Nat} (W : Wf ps r) {A B : List Int} (vA : Valid ps.length A) (d : Apart A B) : half ps A B = !hasAbove ps B A := by
  unfold half hasAbove
  rw [List.not_any_eq_all_not]
  rw [Bool.eq_iff_iff, List.all_eq_true, List.all_eq_true]
  have key : ∀ x ∈ A, ((pathL ps x.toNat).any fun p => inL B p) = ((pathL ps x.toNat).dropLast.any fun p => inL B p) := by
    intro x hx
    obtain ⟨t, e⟩ := path_split W x.toNat
    rw [e, List.dropLast_concat, List.any_append]
    have h0 : inL B x.toNat = false := by
      cases q : inL B x.toNat with
      | false => rfl
      | true =>
        have q' := inL_iff.mp q
        have hz : ((x.toNat : Nat) : Int) = x := Int.toNat_of_nonneg (vA x hx).1
        rw [hz] at q'
        exact absurd q' (d x hx)
    simp [h0]
  constructor
  · intro h x hx
    have := h x hx
    rw [key x hx] at this
    exact this
  · intro h x hx
    have := h x hx
    rw [key x hx]
    exact this
theorem ans_eq {ps : Par} {r : Nat → Nat} (W : Wf ps r) {A B : List Int} (vA : Valid ps.length A) (vB : Valid ps.length B) (d : Apart A B) : ans ps A B = apt ps A B := by
  have d' : Apart B A := fun x hx hy => d x hy hx
  unfold ans apt
  rw [half_eq W vA d, half_eq W vB d', Bool.and_comm]

/-! ### what is due -/
inductive Due where
  | notFair (f : Nat) | badPlace (x : Int) | overlap (f : Nat)
def unf (ks : List Kd) : Option Nat := (List.range ks.length).find? fun f => !fairK (kd ks f)
def okP (n : Nat) (x : Int) : Bool := decide (0 ≤ x) && decide (x < (n : Int))
def badp (n : Nat) (l : List Int) : Option Int := l.find? fun x => !okP n x
def ovl (n : Nat) (A B : List Int) : Option Nat := (List.range n).find? fun f => inL A f && inL B f
def due (ks : List Kd) (A B : List Int) : Option Due :=
  match unf ks with
  | some f => some (.notFair f)
  | none => match badp ks.length (A ++ B) with
    | some x => some (.badPlace x)
    | none => match ovl ks.length A B with
      | some f => some (.overlap f)
      | none => none
theorem badp_none {n : Nat} {l : List Int} (h : badp n l = none) : Valid n l := by
  intro x hx
  have := List.find?_eq_none.mp h x hx
  unfold okP at this
  simpa using this
theorem badp_append (n : Nat) (A B : List Int) : badp n (A ++ B) = (badp n A).or (badp n B) := by
  unfold badp; rw [List.find?_append]
theorem ovl_none {n : Nat} {A B : List Int} (vA : Valid n A) (h : ovl n A B = none) : Apart A B := by
  intro x hx hy
  have hv := vA x hx
  have hz : ((x.toNat : Nat) : Int) = x := Int.toNat_of_nonneg hv.1
  have := List.find?_eq_none.mp h x.toNat (List.mem_range.mpr (by omega))
  apply this
  rw [Bool.and_eq_true]
  exact ⟨inL_iff.mpr (by rw [hz]; exact hx), inL_iff.mpr (by rw [hz]; exact hy)⟩
theorem due_none {ps : Par} {r : Nat → Nat} (W : Wf ps r) {ks : List Kd} (hk : ks.length = ps.length) {A B : List Int} (h : due ks A B = none) : ans ps A B = apt ps A B := by
  unfold due at h
  cases h1 : unf ks with
  | some f => rw [h1] at h; cases h
  | none =>
    rw [h1] at h
    cases h2 : badp ks.length (A ++ B) with
    | some x => rw [h2] at h; cases h
    | none =>
      rw [h2] at h
      cases h3 : ovl ks.length A B with
      | some f => rw [h3] at h; cases h
      | none =>
        have v := badp_none h2
        have vA : Valid ps.length A := fun x hx => by rw [← hk]; exact v x (List.mem_append_left _ hx)
        have vB : Valid ps.length B := fun x hx => by rw [← hk]; exact v x (List.mem_append_right _ hx)
        rw [hk] at h3
        exact ans_eq W vA vB (ovl_none vA h3)

/-! ### two writes -/
structure Chg (n : Nat) (A : List Int) (base : List Int) (cs : List (Nat × Int)) : Prop where
  nd : (cs.map (·.1)).Nodup
  key : ∀ k : Nat, k ∈ cs.map (·.1) ↔ (k : Int) ∈ A
  ne : ∀ k v, (k, v) ∈ cs → v ≠ rg base k
theorem Chg.off {n : Nat} {A base : List Int} {cs : List (Nat × Int)} (c : Chg n A base cs) {k : Nat} (hk : k < base.length) (h : (k : Int) ∉ A) : rg (newR base cs) k = rg base k := by
  rw [rg_newR hk, lookup_none_iff.mpr fun q => h ((c.key k).mp q)]
  rfl
theorem Chg.on {n : Nat} {A base : List Int} {cs : List (Nat × Int)} (c : Chg n A base cs) {k : Nat} (hk : k < base.length) (h : (k : Int) ∈ A) : rg (newR base cs) k ≠ rg base k := by
  rw [rg_newR hk]
  cases e : cs.lookup k with
  | none => exact absurd ((c.key k).mpr h) (lookup_none_iff.mp e)
  | some v => exact c.ne k v (lookup_mem e)
def lostOf (E R : List Int) (cs : List (Nat × Int)) : List Nat := (cs.map (·.1)).filter fun f => rg E f != rg R f
theorem lost_mem {E R : List Int} {cs : List (Nat × Int)} {f : Nat} (h : f ∈ cs.map (·.1)) (hne : rg E f ≠ rg R f) : lostOf E R cs ≠ [] := by
  intro e
  have : f ∈ lostOf E R cs := List.mem_filter.mpr ⟨h, by simpa using hne⟩
  rw [e] at this
  cases this

theorem not_half {ps : Par} {A B : List Int} (h : half ps A B = false) : ∃ x ∈ A, ∃ p ∈ pathL ps x.toNat, (p : Int) ∈ B := by
  unfold half at h
  rw [List.all_eq_false] at h
  obtain ⟨x, hx, h2⟩ := h
  have h3 : ((pathL ps x.toNat).any fun p => inL B p) = true := by
    cases q : ((pathL ps x.toNat).any fun p => inL B p) with
    | true => rfl
    | false => rw [q] at h2; exact absurd rfl h2
  obtain ⟨p, hp, h4⟩ := List.any_eq_true.mp h3
  exact ⟨x, hx, p, hp, inL_iff.mp h4⟩

section
variable {ps : Par} {ks : List Kd} {r : Nat → Nat} {A B base : List Int} {c1 c2 : List (Nat × Int)}
/-- a field of one list lies above a field of the other: something is lost -/
theorem lost_of_above (W : Wf ps r) (hb : base.length = ps.length) (vA : Valid ps.length A) (vB : Valid ps.length B) (d : Apart A B) (C1 : Chg ps.length A base c1) (C2 : Chg ps.length B base c2) (h : apt ps A B = false) :
    lostOf (merge ps ks (newR base c1) (newR base c2)) (newR base c1) c1 ++ lostOf (merge ps ks (newR base c1) (newR base c2)) (newR base c2) c2 ≠ [] := by
  have core : ∀ f g : Nat, f < ps.length → g ∈ pathL ps f → g < ps.length → rg (newR base c1) g ≠ rg (newR base c2) g →
      older ps ks (newR base c1) (newR base c2) f = older ps ks (newR base c1) (newR base c2) g := by
    intro f g hf hg hgl hne
    obtain ⟨t, e⟩ := path_prefix W hg
    have e2 : fu ps (newR base c1) (newR base c2) f = fu ps (newR base c1) (newR base c2) g := by
      cases q : fu ps (newR base c1) (newR base c2) g with
      | none => exact absurd (fu_none q g (self_mem W g)) hne
      | some p =>
        unfold fu at q ⊢
        rw [e, List.find?_append, q]
        rfl
    unfold older
    rw [e2]
  have left : ∀ k : Nat, k < ps.length → (k : Int) ∈ A → rg (newR base c1) k ≠ rg base k ∧ rg (newR base c2) k = rg base k := fun k hk hA =>
    ⟨C1.on (by omega) hA, C2.off (by omega) (d _ hA)⟩
  have right : ∀ k : Nat, k < ps.length → (k : Int) ∈ B → rg (newR base c2) k ≠ rg base k ∧ rg (newR base c1) k = rg base k := fun k hk hB =>
    ⟨C2.on (by omega) hB, C1.off (by omega) fun hA => d _ hA hB⟩
  -- f of A, g of B: whoever wins, one is lost
  have fin : ∀ f g : Nat, f < ps.length → g < ps.length → (f : Int) ∈ A → (g : Int) ∈ B → older ps ks (newR base c1) (newR base c2) f = older ps ks (newR base c1) (newR base c2) g →
      lostOf (merge ps ks (newR base c1) (newR base c2)) (newR base c1) c1 ++ lostOf (merge ps ks (newR base c1) (newR base c2)) (newR base c2) c2 ≠ [] := by
    intro f g hf hg hA hB e
    obtain ⟨l1, l2⟩ := left f hf hA
    obtain ⟨r1, r2⟩ := right g hg hB
    cases q : older ps ks (newR base c1) (newR base c2) f with
    | true =>
      have h1 : rg (merge ps ks (newR base c1) (newR base c2)) g ≠ rg (newR base c2) g := by
        rw [rg_merge hg, ← e, q, if_pos rfl, r2]
        exact fun z => r1 z.symm
      have h2 := lost_mem ((C2.key g).mpr hB) h1
      intro z
      exact h2 (List.append_eq_nil_iff.mp z).2
    | false =>
      have h1 : rg (merge ps ks (newR base c1) (newR base c2)) f ≠ rg (newR base c1) f := by
        rw [rg_merge hf, q, if_neg (by decide), l2]
        exact fun z => l1 z.symm
      have h2 := lost_mem ((C1.key f).mpr hA) h1
      intro z
      exact h2 (List.append_eq_nil_iff.mp z).1
  have toN : ∀ {L : List Int} {x : Int}, Valid ps.length L → x ∈ L → x.toNat < ps.length ∧ ((x.toNat : Nat) : Int) = x := fun {L x} v hx => by
    have := v x hx
    exact ⟨by omega, Int.toNat_of_nonneg this.1⟩
  unfold apt at h
  cases h1 : half ps A B with
  | false =>
    obtain ⟨x, hx, g, hg, hB⟩ := not_half h1
    obtain ⟨hxl, hxe⟩ := toN vA hx
    have hgl := path_mem_lt W hxl hg
    obtain ⟨r1, r2⟩ := right g hgl hB
    exact fin x.toNat g hxl hgl (by rw [hxe]; exact hx) hB (core x.toNat g hxl hg hgl (by rw [r2]; exact fun z => r1 z.symm))
  | true =>
    rw [h1, Bool.true_and] at h
    obtain ⟨x, hx, g, hg, hA⟩ := not_half h
    obtain ⟨hxl, hxe⟩ := toN vB hx
    have hgl := path_mem_lt W hxl hg
    obtain ⟨l1, l2⟩ := left g hgl hA
    exact fin g x.toNat hgl hxl hA (by rw [hxe]; exact hx) (core x.toNat g hxl hg hgl (by rw [l2]; exact l1)).symm

theorem half_mem {L M : List Int} (h : half ps L M = true) {x : Int} (hx : x ∈ L) {p : Nat} (hp : p ∈ pathL ps x.toNat) : (p : Int) ∉ M := by
  intro hM
  unfold half at h
  have h2 := List.all_eq_true.mp h x hx
  have h3 : ((pathL ps x.toNat).any fun p => inL M p) = true := List.any_eq_true.mpr ⟨p, hp, inL_iff.mpr hM⟩
  rw [h3] at h2
  exact absurd h2 (by decide)
theorem fu_congr {a b a' b' : List Int} {f : Nat} (h : ∀ p ∈ pathL ps f, rg a p = rg a' p ∧ rg b p = rg b' p) : fu ps a b f = fu ps a' b' f := by
  unfold fu
  generalize pathL ps f = l at h
  induction l with
  | nil => rfl
  | cons p t ih =>
    obtain ⟨h1, h2⟩ := h p List.mem_cons_self
    rw [List.find?_cons, List.find?_cons, h1, h2, ih fun q hq => h q (List.mem_cons_of_mem _ hq)]

/-- both land and the lists lie apart: nothing is lost -/
theorem none_lost (W : Wf ps r) (F : Fair ks) (hb : base.length = ps.length) (vA : Valid ps.length A) (vB : Valid ps.length B) (C1 : Chg ps.length A base c1) (C2 : Chg ps.length B base c2) (h : apt ps A B = true)
    (l1 : merge ps ks base (newR base c1) = newR base c1) (l2 : merge ps ks base (newR base c2) = newR base c2) :
    lostOf (merge ps ks (newR base c1) (newR base c2)) (newR base c1) c1 ++ lostOf (merge ps ks (newR base c1) (newR base c2)) (newR base c2) c2 = [] := by
  unfold apt at h
  obtain ⟨hA, hB⟩ := Bool.and_eq_true_iff.mp h
  have key1 : ∀ f, f ∈ c1.map (·.1) → rg (merge ps ks (newR base c1) (newR base c2)) f = rg (newR base c1) f := by
    intro f hf
    have hfA := (C1.key f).mp hf
    have hv := vA _ hfA
    have hlt : f < ps.length := by omega
    have hoff : ∀ p ∈ pathL ps f, rg (newR base c2) p = rg base p := fun p hp => by
      have hp' : p ∈ pathL ps ((f : Int)).toNat := hp
      exact C2.off (by have := path_mem_lt W hlt hp; omega) (half_mem hA hfA hp')
    have on := C1.on (k := f) (by omega) hfA
    have e1 : fu ps (newR base c1) (newR base c2) f = fu ps base (newR base c1) f := by
      rw [fu_swap ps base]
      exact fu_congr fun p hp => ⟨rfl, hoff p hp⟩
    have hl : rg (merge ps ks base (newR base c1)) f = rg (newR base c1) f := by rw [l1]
    rw [rg_merge hlt] at hl
    rw [rg_merge hlt]
    unfold older at hl ⊢
    rw [e1]
    cases q : fu ps base (newR base c1) f with
    | none => exact absurd (fu_none q f (self_mem W f)).symm on
    | some p =>
      rw [q] at hl
      have hne := fu_some q
      have hpm := fu_mem q
      show (if (decide (kd ks p = .first) || bet (kd ks p) (rg (newR base c1) p) (rg (newR base c2) p)) = true then rg (newR base c1) f else rg (newR base c2) f) = _
      have hl' : (if (decide (kd ks p = .first) || bet (kd ks p) (rg base p) (rg (newR base c1) p)) = true then rg base f else rg (newR base c1) f) = rg (newR base c1) f := hl
      rw [fair_first F p, Bool.false_or] at hl' ⊢
      rw [hoff p hpm, bet_swap (F p) (fun z => hne z.symm)]
      cases z : bet (kd ks p) (rg base p) (rg (newR base c1) p) with
      | true =>
        rw [z, if_pos rfl] at hl'
        exact absurd hl'.symm on
      | false => rfl
  have key2 : ∀ f, f ∈ c2.map (·.1) → rg (merge ps ks (newR base c1) (newR base c2)) f = rg (newR base c2) f := by
    intro f hf
    have hfB := (C2.key f).mp hf
    have hv := vB _ hfB
    have hlt : f < ps.length := by omega
    have hoff : ∀ p ∈ pathL ps f, rg (newR base c1) p = rg base p := fun p hp => by
      have hp' : p ∈ pathL ps ((f : Int)).toNat := hp
      exact C1.off (by have := path_mem_lt W hlt hp; omega) (half_mem hB hfB hp')
    have on := C2.on (k := f) (by omega) hfB
    have e1 : fu ps (newR base c1) (newR base c2) f = fu ps base (newR base c2) f := fu_congr fun p hp => ⟨hoff p hp, rfl⟩
    have hl : rg (merge ps ks base (newR base c2)) f = rg (newR base c2) f := by rw [l2]
    rw [rg_merge hlt] at hl
    rw [rg_merge hlt]
    unfold older at hl ⊢
    rw [e1]
    cases q : fu ps base (newR base c2) f with
    | none => exact absurd (fu_none q f (self_mem W f)).symm on
    | some p =>
      rw [q] at hl
      have hpm := fu_mem q
      show (if (decide (kd ks p = .first) || bet (kd ks p) (rg (newR base c1) p) (rg (newR base c2) p)) = true then rg (newR base c1) f else rg (newR base c2) f) = _
      have hl' : (if (decide (kd ks p = .first) || bet (kd ks p) (rg base p) (rg (newR base c2) p)) = true then rg base f else rg (newR base c2) f) = rg (newR base c2) f := hl
      rw [hoff p hpm]
      cases z : (decide (kd ks p = .first) || bet (kd ks p) (rg base p) (rg (newR base c2) p)) with
      | true =>
        rw [z, if_pos rfl] at hl'
        exact absurd hl'.symm on
      | false => rfl
  have nil1 : ∀ {R : List Int} {cs : List (Nat × Int)}, (∀ f, f ∈ cs.map (·.1) → rg (merge ps ks (newR base c1) (newR base c2)) f = rg R f) → lostOf (merge ps ks (newR base c1) (newR base c2)) R cs = [] := fun {R cs} k => by
    unfold lostOf
    rw [List.filter_eq_nil_iff]
    intro f hf
    rw [k f hf]
    simp
  rw [nil1 key1, nil1 key2]
  rfl
end
end FR

/-! # FrBase -/
namespace Fr
open PySem PySem.Spec PyProof.Rows L2 FR
/-! ## the text by places -/
def top (i : Nat) : Stmt := PySem.Challenge.pw_fieldrides_k57_whole_two_writes.main.body.getD i (.Pass ⟨0, 0, 0, 0⟩)

abbrev s_better : Stmt := top 16
theorem sc_better : FnScope ["kind", "value", "other"] ["kind", "value", "other"] (defScope s_better) := ⟨rfl, rfl, rfl, by decide +kernel, rfl, by decide +kernel, by decide +kernel⟩
abbrev s_path_of : Stmt := top 17
theorem sc_path_of : FnScope ["parents", "field", "path"] ["parents", "field"] (defScope s_path_of) := ⟨rfl, rfl, rfl, by decide +kernel, rfl, by decide +kernel, by decide +kernel⟩
abbrev s_first_unlike_on : Stmt := top 18
theorem sc_first_unlike_on : FnScope ["path", "first", "second", "field"] ["path", "first", "second"] (defScope s_first_unlike_on) := ⟨rfl, rfl, rfl, by decide +kernel, rfl, by decide +kernel, by decide +kernel⟩
abbrev s_merged_record : Stmt := top 19
theorem sc_merged_record : FnScope ["parents", "kinds", "older", "newer", "result", "field", "place"] ["parents", "kinds", "older", "newer"] (defScope s_merged_record) := ⟨rfl, rfl, rfl, by decide +kernel, rfl, by decide +kernel, by decide +kernel⟩
abbrev s_check_record : Stmt := top 20
theorem sc_check_record : FnScope ["fields", "record"] ["fields", "record"] (defScope s_check_record) := ⟨rfl, rfl, rfl, by decide +kernel, rfl, by decide +kernel, by decide +kernel⟩
abbrev s_check_place : Stmt := top 21
theorem sc_check_place : FnScope ["fields", "place"] ["fields", "place"] (defScope s_check_place) := ⟨rfl, rfl, rfl, by decide +kernel, rfl, by decide +kernel, by decide +kernel⟩
abbrev s_check_places : Stmt := top 22
theorem sc_check_places : FnScope ["fields", "places", "place"] ["fields", "places"] (defScope s_check_places) := ⟨rfl, rfl, rfl, by decide +kernel, rfl, by decide +kernel, by decide +kernel⟩
abbrev s_check_fair : Stmt := top 23
theorem sc_check_fair : FnScope ["forest", "field"] ["forest"] (defScope s_check_fair) := ⟨rfl, rfl, rfl, by decide +kernel, rfl, by decide +kernel, by decide +kernel⟩
abbrev s_check_write : Stmt := top 25
theorem sc_check_write : FnScope ["forest", "base", "changes"] ["forest", "base", "changes"] (defScope s_check_write) := ⟨rfl, rfl, rfl, by decide +kernel, rfl, by decide +kernel, by decide +kernel⟩
abbrev s_with_values : Stmt := top 26
theorem sc_with_values : FnScope ["base", "changes", "field"] ["base", "changes"] (defScope s_with_values) := ⟨rfl, rfl, rfl, by decide +kernel, rfl, by decide +kernel, by decide +kernel⟩
abbrev s_fields_above : Stmt := top 27
theorem sc_fields_above : FnScope ["forest", "field"] ["forest", "field"] (defScope s_fields_above) := ⟨rfl, rfl, rfl, by decide +kernel, rfl, by decide +kernel, by decide +kernel⟩
abbrev s_written : Stmt := top 28
theorem sc_written : FnScope ["forest", "base", "changes"] ["forest", "base", "changes"] (defScope s_written) := ⟨rfl, rfl, rfl, by decide +kernel, rfl, by decide +kernel, by decide +kernel⟩
abbrev s_lands : Stmt := top 29
theorem sc_lands : FnScope ["forest", "base", "changes", "new"] ["forest", "base", "changes"] (defScope s_lands) := ⟨rfl, rfl, rfl, by decide +kernel, rfl, by decide +kernel, by decide +kernel⟩
abbrev s_has_above : Stmt := top 30
theorem sc_has_above : FnScope ["forest", "upper", "lower", "field", "place"] ["forest", "upper", "lower"] (defScope s_has_above) := ⟨rfl, rfl, rfl, by decide +kernel, rfl, by decide +kernel, by decide +kernel⟩
abbrev s_both_stay : Stmt := top 31
theorem sc_both_stay : FnScope ["forest", "first", "second", "one", "two", "field"] ["forest", "first", "second"] (defScope s_both_stay) := ⟨rfl, rfl, rfl, by decide +kernel, rfl, by decide +kernel, by decide +kernel⟩
abbrev s_never_ends : Stmt := top 34
theorem sc_never_ends : FnScope ["parents", "field", "place", "_"] ["parents", "field"] (defScope s_never_ends) := ⟨rfl, rfl, rfl, by decide +kernel, rfl, by decide +kernel, by decide +kernel⟩
abbrev s_check_shape : Stmt := top 35
theorem sc_check_shape : FnScope ["parents", "kinds", "fields", "field"] ["parents", "kinds"] (defScope s_check_shape) := ⟨rfl, rfl, rfl, by decide +kernel, rfl, by decide +kernel, by decide +kernel⟩
abbrev s_Forest___init__ : Stmt := inClass (top 36) 0
theorem sc_Forest___init__ : FnScope ["self", "parents", "kinds"] ["self", "parents", "kinds"] (defScope s_Forest___init__) := ⟨rfl, rfl, rfl, by decide +kernel, rfl, by decide +kernel, by decide +kernel⟩
abbrev s_Forest___call__ : Stmt := inClass (top 36) 1
theorem sc_Forest___call__ : FnScope ["self", "older", "newer"] ["self", "older", "newer"] (defScope s_Forest___call__) := ⟨rfl, rfl, rfl, by decide +kernel, rfl, by decide +kernel, by decide +kernel⟩
abbrev s_law_tape : Stmt := top 38
theorem sc_law_tape : FnScope ["_law_script", "_law_k"] ["_law_script", "_law_k"] (defScope s_law_tape) := ⟨rfl, rfl, rfl, by decide +kernel, rfl, by decide +kernel, by decide +kernel⟩
abbrev s_law_take : Stmt := top 39
theorem sc_law_take : FnScope ["_law_tape_here", "_law_size_here", "_law_cell", "_law_k", "_law_mixed"] ["_law_tape_here", "_law_size_here"] (defScope s_law_take) := ⟨rfl, rfl, rfl, by decide +kernel, rfl, by decide +kernel, by decide +kernel⟩
abbrev s_law_value : Stmt := top 40
theorem sc_law_value : FnScope ["_law_tape_here", "_law_span", "_law_pick"] ["_law_tape_here", "_law_span"] (defScope s_law_value) := ⟨rfl, rfl, rfl, by decide +kernel, rfl, by decide +kernel, by decide +kernel⟩
abbrev s_law_record : Stmt := top 41
theorem sc_law_record : FnScope ["_law_tape_here", "_law_n", "_law_span", "_law_k"] ["_law_tape_here", "_law_n", "_law_span"] (defScope s_law_record) := ⟨rfl, rfl, rfl, by decide +kernel, rfl, by decide +kernel, by decide +kernel⟩
abbrev s_law_turns : Stmt := top 42
theorem sc_law_turns : FnScope ["_law_tape_here", "_law_n", "_law_left", "_law_turns_here", "_law_k"] ["_law_tape_here", "_law_n"] (defScope s_law_turns) := ⟨rfl, rfl, rfl, by decide +kernel, rfl, by decide +kernel, by decide +kernel⟩
abbrev s_law_parents : Stmt := top 43
theorem sc_law_parents : FnScope ["_law_tape_here", "_law_n", "_law_turns_here", "_law_bend", "_law_parents_here", "_law_k", "_law_pick"] ["_law_tape_here", "_law_n"] (defScope s_law_parents) := ⟨rfl, rfl, rfl, by decide +kernel, rfl, by decide +kernel, by decide +kernel⟩
abbrev s_law_kinds : Stmt := top 44
theorem sc_law_kinds : FnScope ["_law_tape_here", "_law_parents_here", "_law_fair", "_law_kinds_here", "_law_field", "_law_pick"] ["_law_tape_here", "_law_parents_here", "_law_fair"] (defScope s_law_kinds) := ⟨rfl, rfl, rfl, by decide +kernel, rfl, by decide +kernel, by decide +kernel⟩
abbrev s_law_path : Stmt := top 45
theorem sc_law_path : FnScope ["_law_parents_here", "_law_field", "_law_path_here", "_law_k"] ["_law_parents_here", "_law_field"] (defScope s_law_path) := ⟨rfl, rfl, rfl, by decide +kernel, rfl, by decide +kernel, by decide +kernel⟩
abbrev s_law_side : Stmt := top 46
theorem sc_law_side : FnScope ["_law_parents_here", "_law_kinds_here", "_law_field", "_law_older", "_law_newer", "_law_place"] ["_law_parents_here", "_law_kinds_here", "_law_field", "_law_older", "_law_newer"] (defScope s_law_side) := ⟨rfl, rfl, rfl, by decide +kernel, rfl, by decide +kernel, by decide +kernel⟩
abbrev s_law_merge : Stmt := top 47
theorem sc_law_merge : FnScope ["_law_parents_here", "_law_kinds_here", "_law_older", "_law_newer", "_law_pair", "_law_f"] ["_law_parents_here", "_law_kinds_here", "_law_older", "_law_newer"] (defScope s_law_merge) := ⟨rfl, rfl, rfl, by decide +kernel, rfl, by decide +kernel, by decide +kernel⟩
abbrev s_law_is_integer : Stmt := top 48
theorem sc_law_is_integer : FnScope ["_law_actual"] ["_law_actual"] (defScope s_law_is_integer) := ⟨rfl, rfl, rfl, by decide +kernel, rfl, by decide +kernel, by decide +kernel⟩
abbrev s_law_is_record : Stmt := top 49
theorem sc_law_is_record : FnScope ["_law_actual", "_law_n", "_law_value_here"] ["_law_actual", "_law_n"] (defScope s_law_is_record) := ⟨rfl, rfl, rfl, by decide +kernel, rfl, by decide +kernel, by decide +kernel⟩
abbrev s_law_size : Stmt := top 50
theorem sc_law_size : FnScope ["_law_tape_here", "_law_size_here"] ["_law_tape_here"] (defScope s_law_size) := ⟨rfl, rfl, rfl, by decide +kernel, rfl, by decide +kernel, by decide +kernel⟩
abbrev s_law_raised : Stmt := top 51
theorem sc_law_raised : FnScope ["_law_kind", "_law_value_here", "_law_by"] ["_law_kind", "_law_value_here", "_law_by"] (defScope s_law_raised) := ⟨rfl, rfl, rfl, by decide +kernel, rfl, by decide +kernel, by decide +kernel⟩
abbrev s_law_no_field : Stmt := top 52
theorem sc_law_no_field : FnScope ["_law_tape_here", "_law_n"] ["_law_tape_here", "_law_n"] (defScope s_law_no_field) := ⟨rfl, rfl, rfl, by decide +kernel, rfl, by decide +kernel, by decide +kernel⟩
abbrev s_law_level : Stmt := top 53
theorem sc_law_level : FnScope ["_law_kinds_here", "_law_level_here", "_law_kind"] ["_law_kinds_here"] (defScope s_law_level) := ⟨rfl, rfl, rfl, by decide +kernel, rfl, by decide +kernel, by decide +kernel⟩
abbrev s_law_unfair : Stmt := top 54
theorem sc_law_unfair : FnScope ["_law_kinds_here", "_law_field"] ["_law_kinds_here"] (defScope s_law_unfair) := ⟨rfl, rfl, rfl, by decide +kernel, rfl, by decide +kernel, by decide +kernel⟩
abbrev s_law_stays : Stmt := top 55
theorem sc_law_stays : FnScope ["_law_forest", "_law_parents_here", "_law_kinds_here"] ["_law_forest", "_law_parents_here", "_law_kinds_here"] (defScope s_law_stays) := ⟨rfl, rfl, rfl, by decide +kernel, rfl, by decide +kernel, by decide +kernel⟩
abbrev s_law_new : Stmt := top 56
theorem sc_law_new : FnScope ["_law_base", "_law_changes_here", "_law_new_here", "_law_field"] ["_law_base", "_law_changes_here"] (defScope s_law_new) := ⟨rfl, rfl, rfl, by decide +kernel, rfl, by decide +kernel, by decide +kernel⟩
abbrev s_law_lists : Stmt := top 57
theorem sc_law_lists : FnScope ["_law_tape_here", "_law_n", "_law_lists_here", "_law_field", "_law_pick", "_law_row"] ["_law_tape_here", "_law_n"] (defScope s_law_lists) := ⟨rfl, rfl, rfl, by decide +kernel, rfl, by decide +kernel, by decide +kernel⟩
abbrev s_law_spoilt : Stmt := top 58
theorem sc_law_spoilt : FnScope ["_law_tape_here", "_law_n", "_law_lists_here", "_law_spoilt_here", "_law_place", "_law_m", "_law_k", "_law_row", "_law_at"] ["_law_tape_here", "_law_n", "_law_lists_here"] (defScope s_law_spoilt) := ⟨rfl, rfl, rfl, by decide +kernel, rfl, by decide +kernel, by decide +kernel⟩
abbrev s_law_changes : Stmt := top 59
theorem sc_law_changes : FnScope ["_law_tape_here", "_law_parents_here", "_law_kinds_here", "_law_base", "_law_fields", "_law_changes_here", "_law_calm", "_law_field", "_law_by", "_law_above", "_law_place"] ["_law_tape_here", "_law_parents_here", "_law_kinds_here", "_law_base", "_law_fields"] (defScope s_law_changes) := ⟨rfl, rfl, rfl, by decide +kernel, rfl, by decide +kernel, by decide +kernel⟩
abbrev s_law_question : Stmt := top 60
theorem sc_law_question : FnScope ["_law_script", "_law_turn", "_law_parents_here", "_law_kinds_here", "_law_n", "_law_tape_here", "_law_lists_here", "_law_spoilt_here", "_law_base", "_law_first", "_law_second"] ["_law_script", "_law_turn", "_law_parents_here", "_law_kinds_here"] (defScope s_law_question) := ⟨rfl, rfl, rfl, by decide +kernel, rfl, by decide +kernel, by decide +kernel⟩
abbrev s_law_refusal : Stmt := top 61
theorem sc_law_refusal : FnScope ["_law_kinds_here", "_law_first", "_law_second", "_law_unfair_here", "_law_place", "_law_field"] ["_law_kinds_here", "_law_first", "_law_second"] (defScope s_law_refusal) := ⟨rfl, rfl, rfl, by decide +kernel, rfl, by decide +kernel, by decide +kernel⟩
abbrev s_law_ask : Stmt := top 62
theorem sc_law_ask : FnScope ["_law_forest", "_law_first", "_law_second", "_law_found", "e"] ["_law_forest", "_law_first", "_law_second"] (defScope s_law_ask) := ⟨rfl, rfl, rfl, by decide +kernel, rfl, by decide +kernel, by decide +kernel⟩
abbrev s_law_is_refusal : Stmt := top 63
theorem sc_law_is_refusal : FnScope ["_law_told", "_law_due"] ["_law_told", "_law_due"] (defScope s_law_is_refusal) := ⟨rfl, rfl, rfl, by decide +kernel, rfl, by decide +kernel, by decide +kernel⟩
abbrev s_law_apart : Stmt := top 64
theorem sc_law_apart : FnScope ["_law_parents_here", "_law_first", "_law_second", "_law_pair", "_law_field", "_law_place"] ["_law_parents_here", "_law_first", "_law_second"] (defScope s_law_apart) := ⟨rfl, rfl, rfl, by decide +kernel, rfl, by decide +kernel, by decide +kernel⟩
abbrev s_law_holds : Stmt := top 65
theorem sc_law_holds : FnScope ["_law_forest", "_law_parents_here", "_law_kinds_here", "_law_first", "_law_second", "_law_pair", "_law_due", "_law_handed", "_law_told"] ["_law_forest", "_law_parents_here", "_law_kinds_here", "_law_first", "_law_second"] (defScope s_law_holds) := ⟨rfl, rfl, rfl, by decide +kernel, rfl, by decide +kernel, by decide +kernel⟩
abbrev s_law_written : Stmt := top 66
theorem sc_law_written : FnScope ["_law_forest", "_law_parents_here", "_law_kinds_here", "_law_base", "_law_changes_here", "_law_new_here", "_law_told"] ["_law_forest", "_law_parents_here", "_law_kinds_here", "_law_base", "_law_changes_here"] (defScope s_law_written) := ⟨rfl, rfl, rfl, by decide +kernel, rfl, by decide +kernel, by decide +kernel⟩
abbrev s_law_both : Stmt := top 67
theorem sc_law_both : FnScope ["_law_forest", "_law_parents_here", "_law_kinds_here", "_law_question_here", "_law_base", "_law_records", "_law_end", "_law_pair", "_law_merged", "_law_landing", "_law_lost", "_law_record_here", "_law_field"] ["_law_forest", "_law_parents_here", "_law_kinds_here", "_law_question_here"] (defScope s_law_both) := ⟨rfl, rfl, rfl, by decide +kernel, rfl, by decide +kernel, by decide +kernel⟩
abbrev s_law : Stmt := top 68
theorem sc_law : FnScope ["_law_script", "_law_tape_here", "_law_n", "_law_parents_here", "_law_fair", "_law_kinds_here", "_law_level_here", "_law_ranks", "_law_forests", "_law_turns_here", "_law_at", "_law_question_here", "_law_asked", "_law_k", "_law_pick", "_law_changes_here"] ["_law_script"] (defScope s_law) := ⟨rfl, rfl, rfl, by decide +kernel, rfl, by decide +kernel, by decide +kernel⟩
/-! ## data -/
def kS : Kd → Str
  | .up => "up"
  | .down => "down"
  | .first => "first"
  | .last => "last"
def pV : Option Nat → V
  | none => .non
  | some p => .int (p : Int)
def vI (l : List Int) : List V := l.map V.int
def vN (l : List Nat) : List V := l.map fun (n : Nat) => V.int (n : Int)
def vP (ps : Par) : List V := ps.map pV
def vK (ks : List Kd) : List V := ks.map fun k => V.str (kS k)
theorem vI_at {l : List Int} {i : Nat} (h : i < l.length) : (vI l)[i]? = some (.int (rg l i)) := by
  unfold vI rg
  rw [List.getElem?_map, List.getElem?_eq_getElem h, List.getD_eq_getElem?_getD, List.getElem?_eq_getElem h]
  rfl
theorem vK_at {ks : List Kd} {i : Nat} (h : i < ks.length) : (vK ks)[i]? = some (.str (kS (kd ks i))) := by
  unfold vK kd
  rw [List.getElem?_map, List.getElem?_eq_getElem h, List.getD_eq_getElem?_getD, List.getElem?_eq_getElem h]
  rfl
theorem vP_at {ps : Par} {i : Nat} (h : i < ps.length) : (vP ps)[i]? = some (pV (par ps i)) := by
  unfold vP par
  rw [List.getElem?_map, List.getElem?_eq_getElem h]
  rfl
theorem vN_at {l : List Nat} {i : Nat} {x : Nat} (h : l[i]? = some x) : (vN l)[i]? = some (.int (x : Int)) := by
  unfold vN; rw [List.getElem?_map, h]; rfl
theorem vI_len (l : List Int) : (vI l).length = l.length := List.length_map _
theorem vN_len (l : List Nat) : (vN l).length = l.length := List.length_map _
theorem vP_len (l : Par) : (vP l).length = l.length := List.length_map _
theorem vK_len (l : List Kd) : (vK l).length = l.length := List.length_map _
theorem kS_first (k : Kd) : decide (V.str (kS k) = V.str "first") = decide (k = .first) := by cases k <;> decide +kernel
theorem kS_up (k : Kd) : decide (V.str (kS k) = V.str "up") = decide (k = .up) := by cases k <;> decide +kernel
theorem kS_down (k : Kd) : decide (V.str (kS k) = V.str "down") = decide (k = .down) := by cases k <;> decide +kernel
theorem kS_last (k : Kd) : decide (V.str (kS k) = V.str "last") = decide (k = .last) := by cases k <;> decide +kernel
theorem atN {xs : List V} {n : Nat} {v : V} (h : xs[n]? = some v) : atI xs (n : Int) = some v := atI_nat h
/-- the last one -/
theorem at_last {xs : List V} {v : V} : atI (xs ++ [v]) (-1) = some v := by
  have hl : (xs ++ [v]).length = xs.length + 1 := by simp
  unfold atI ixN
  rw [if_neg (by decide), if_pos (by rw [hl]; omega)]
  show (xs ++ [v])[((-1 : Int) + ((xs ++ [v]).length : Nat)).toNat]? = some v
  have e : ((-1 : Int) + ((xs ++ [v]).length : Nat)).toNat = xs.length := by rw [hl]; omega
  rw [e]
  simp
theorem small {n : Nat} (h : n ≤ 1000) : n ≤ sizeLine := Nat.le_trans h (by decide)
theorem smallL {n : Nat} (h : n ≤ 1000) : n < sizeLine := Nat.lt_of_le_of_lt h (by decide)

/-! ## heaps -/
theorem Same.new {H : Hp} {p : Addr} {o : HO} (h : H p = none) : Same H (upd H p o) := fun a u e => by
  rw [upd_ne (ne_of_none e h)]
  exact e
theorem Same.sl {K : PySem.W.Frag} {H H' : Hp} {a : Addr} {xs : List V} (e : Same H H') (h : SqL K H a xs) : SqL K H' a xs := Same.seq e h
theorem Same.st {K : PySem.W.Frag} {H H' : Hp} {a : Addr} {xs : List V} (e : Same H H') (h : SqT K H a xs) : SqT K H' a xs := by
  rcases h with (h | ⟨o, h⟩) | h
  · exact .inl (.inl (e _ _ h))
  · exact .inl (.inr ⟨o, e _ _ h⟩)
  · exact .inr h
/-- all but one is as it was -/
def But (t : Addr) (H H' : Hp) : Prop := ∀ b o, b ≠ t → H b = some o → H' b = some o
theorem But.refl (t : Addr) (H : Hp) : But t H H := fun _ _ _ h => h
theorem But.trans {t : Addr} {H H1 H2 : Hp} (a : But t H H1) (b : But t H1 H2) : But t H H2 := fun c o n h => b c o n (a c o n h)
theorem But.of {t : Addr} {H H' : Hp} (a : Same H H') : But t H H' := fun c o _ h => a c o h
theorem But.upd (t : Addr) (H : Hp) (o : HO) : But t H (upd H t o) := fun b u n h => by rw [upd_ne n]; exact h
theorem But.free {t : Addr} {H H' : Hp} (a : But t H H') {b : Addr} (n : b ≠ t) (h : H' b = none) : H b = none := by
  cases q : H b with
  | none => rfl
  | some o => rw [a b o n q] at h; cases h
/-- a tape: two ints -/
def Tp (H : Hp) (t : Addr) : Prop := ∃ c k : Int, H t = some (.lst [.int c, .int k])
theorem Tp.some {H : Hp} {t : Addr} (h : Tp H t) : ∃ o, H t = some o := let ⟨_, _, e⟩ := h; ⟨_, e⟩
theorem Tp.same {H H' : Hp} {t : Addr} (h : Tp H t) (s : Same H H') : Tp H' t := let ⟨c, k, e⟩ := h; ⟨c, k, s _ _ e⟩
theorem Tp.but {H H' : Hp} {t u : Addr} (h : Tp H t) (s : But u H H') (n : t ≠ u) : Tp H' t := let ⟨c, k, e⟩ := h; ⟨c, k, s _ _ n e⟩
theorem Tp.ne {H : Hp} {t p : Addr} (h : Tp H t) (hp : H p = none) : p ≠ t := by
  obtain ⟨c, k, e⟩ := h
  exact fun q => ne_of_none e hp q.symm

/-! ## defs, called -/
structure Df (K : PySem.W.Frag) (mg : Str → Option Value) (x : Str) (st : Stmt) (ps : List Str) : Prop where
  ex : ∃ (f : Addr) (fd : FuncData), Fun K x x st f fd ∧ mg x = some (.ref f) ∧ Binds K fd ps []
structure Ok1 (P : Program) (w : World) (K : PySem.W.Frag) (mg : Str → Option Value) (base : Heap) (CX : CXT) (k : Nat) (x : Str) (ps : List Str) (sp : Sp) : Prop where
  ex : ∃ (f : Addr) (fd : FuncData), FnOk P w K mg base CX k f fd ps sp ∧ mg x = some (.ref f) ∧ PySem.W.keepIn K (.ref f) = true ∧ Binds K fd ps []
section
variable {P : Program} {w : World} {K : PySem.W.Frag} {mg : Str → Option Value} {base : Heap}
theorem Df.ok {x : Str} {st : Stmt} {N ps : List Str} {k : Nat} {sp : Sp} (D : Df K mg x st ps) (S : FnScope N ps (defScope st)) (len : ∀ vs H Q E, sp vs H Q E → vs.length = ps.length)
    (hbody : ∀ (f : Addr) (cdv : Value) (A : Around) (outer : List Env) (s : Shared) (H : Hp) (vs : List V) (Q : VK) (E : XK), Room k (A.deeper (envOfC x (defScope st) s.heap.objs.size f cdv)) → sp vs H Q E →
      ∃ t, PSs (cxOf CX0 P w K mg base N x (defScope st) f cdv A outer s H E).nox (defBody st) t ∧ t { nx := fun _ H' => Q .non H', rt := Q } (start N vs) H) : Ok1 P w K mg base CX0 (k + 1) x ps sp := by
  obtain ⟨f, fd, F, g, b⟩ := D.ex
  exact ⟨f, fd, F.ok S len fun cdv A outer s H vs Q E hr h => hbody f cdv A outer s H vs Q E hr h, g, F.kp, b⟩
theorem Df.okX {x : Str} {st : Stmt} {N ps : List Str} {k : Nat} {sp : Sp} (D : Df K mg x st ps) (S : FnScope N ps (defScope st)) (len : ∀ vs H Q E, sp vs H Q E → vs.length = ps.length)
    (hbody : ∀ (f : Addr) (cdv : Value) (A : Around) (outer : List Env) (s : Shared) (H : Hp) (vs : List V) (Q : VK) (E : XK), Room k (A.deeper (envOfC x (defScope st) s.heap.objs.size f cdv)) → sp vs H Q E →
      ∃ t, PSs (cxOf (L2.CX P w) P w K mg base N x (defScope st) f cdv A outer s H E) (defBody st) t ∧ t { nx := fun _ H' => Q .non H', rt := Q } (start N vs) H) : Ok1 P w K mg base (L2.CX P w) (k + 1) x ps sp := by
  obtain ⟨f, fd, F, g, b⟩ := D.ex
  exact ⟨f, fd, F.okX S len fun cdv A outer s H vs Q E hr h => hbody f cdv A outer s H vs Q E hr h, g, F.kp, b⟩
/-- what a callee may let out is what this def may let out -/
theorem passC {N : List Str} {qual : Str} {sc : Scope} {f : Addr} {cd : Value} {A : Around} {outer : List Env} {s : Shared} {H : Hp} {E : XK} :
    Passes (L2.CX P w) (cxOf (L2.CX P w) P w K mg base N qual sc f cd A outer s H E) E := passes_call (takes_of rfl rfl rfl rfl) fun _ _ _ _ h => h
end
section
variable {X : Cx} {CX : CXT} {k : Nat} {x : Str} {ps : List Str} {sp : Sp} {E : XK} {e : Expr} {es : List Expr} {t : TA} {p pos : Pos}
theorem pe_c (O : Ok1 X.prog X.w X.K X.mg X.base CX k x ps sp) (hr : Room k X.A) (hx : Passes CX X E) (ha : PA X (e :: es) t) (hg : Gl X x := by rfl) (hdb : (x == ("__debug__" : Str)) = false := by decide)
    (he : starEach (e :: es) X.env = (false, eval e X.env) :: starEach es X.env := by rfl) (hpl : (backTo pos (starEach es X.env)).any (·.1) = false := by rfl) :
    PE X (.Call (.Name x p) (e :: es) [] pos) (tCall sp [] E t) := by
  obtain ⟨f, fd, F, g, kp, b⟩ := O.ex
  exact pe_call F hr hg g kp b .nil hx ha hdb he hpl
/-- dict(d) -/
theorem call_dict_copy {X : Cx} : CallR X (.type "dict") (fun xs H Q => ∃ (a : Addr) (kvs : List (Key × V)), xs = [V.ref a] ∧ Rd H a (.dK kvs) ∧ ∀ p, H p = none → Q (.ref p) (upd H p (.dK kvs))) := by
  intro pins s σ H xs us Q I r h
  obtain ⟨a, kvs, rfl, ha, q⟩ := h
  obtain ⟨u, rfl, ru⟩ := vals1 r
  cases ru
  exact d_copyOf I ha fun p s' hp I' => ⟨.ref p, _, I', rfl, q p hp⟩
end

/-! ## loops and tests in short -/
theorem iteD {c : Bool} {A B : Prop} (b : Bool) (e : c = b) (h : if b = true then A else B) : if c = true then A else B := by rw [e]; exact h
theorem if_use {c : TT} {t u : TS} {D : Ends} {σ : L2.St} {H : Hp} (b : Bool) (hT : ∀ Q' : Bool → Hp → Prop, (∀ H2, Same H H2 → Q' b H2) → c σ H Q') (h1 : b = true → ∀ H2, Same H H2 → t D σ H2) (h2 : b = false → ∀ H2, Same H H2 → u D σ H2) : tIfS c t u D σ H := by
  refine hT _ fun H2 S => ?_
  cases b with
  | true => exact iteT (h1 rfl H2 S)
  | false => exact iteF (h2 rfl H2 S)
theorem gn {i : Nat} {v : V} {σ : L2.St} {H : Hp} {Q : L2.St → Hp → Prop} (h : Q (σ.set i (some v)) H) : gName i v σ H Q := h
theorem sq {i : Nat} {te : TE} {tz : TS} {D : Ends} {σ : L2.St} {H : Hp} (h : te σ H fun x H1 => tz D (σ.set i (some x)) H1) : tSeq (tAsg te (gName i)) tz D σ H := h
theorem s1 {i : Nat} {te : TE} {D : Ends} {σ : L2.St} {H : Hp} (h : te σ H fun x H1 => D.nx (σ.set i (some x)) H1) : tAsg te (gName i) D σ H := h
theorem sqe {te : TE} {tz : TS} {D : Ends} {σ : L2.St} {H : Hp} (h : te σ H fun _ H1 => tz D σ H1) : tSeq (tDrop te) tz D σ H := h
theorem sqi {c : TT} {t u tz : TS} {D : Ends} {σ : L2.St} {H : Hp} (h : tIfS c t u { D with nx := tz D } σ H) : tSeq (tIfS c t u) tz D σ H := h
theorem sqf {wi : TI} {g : TG} {tb tz : TS} {D : Ends} {σ : L2.St} {H : Hp} (h : tFor wi g tb { D with nx := tz D } σ H) : tSeq (tFor wi g tb) tz D σ H := h
theorem sif {c : TT} {t u : TS} {D : Ends} {σ : L2.St} {H : Hp} (h : c σ H fun b H1 => if b = true then t D σ H1 else u D σ H1) : tIfS c t u D σ H := h
theorem srt {te : TE} {D : Ends} {σ : L2.St} {H : Hp} (h : te σ H D.rt) : tRet te D σ H := h
theorem snx {D : Ends} {σ : L2.St} {H : Hp} (h : D.nx σ H) : tNext D σ H := h
theorem for_rg {z : Int} {g : TG} {tb : TS} {D : Ends} {σ : L2.St} {H : Hp} (n : Nat) (e : z = (n : Int)) (Pv : Nat → L2.St → Hp → Prop) (h0 : Pv 0 σ H)
    (hs : ∀ (i : Nat) σ H, i < n → Pv i σ H → g (.int (i : Int)) σ H fun σ2 H2 => tb { D with nx := Pv (i + 1), ct := Pv (i + 1), bk := D.nx } σ2 H2) (hd : ∀ σ H, Pv n σ H → D.nx σ H) :
    ∃ W : Nat → Nat → L2.St → Hp → Prop, (∃ m, W 0 m σ H) ∧ ∀ i m σ H, W i m σ H →
      ((Itr 0 z.toNat).stop i H ∧ D.nx σ H) ∨ ((Itr 0 z.toNat).go i H ∧ ∃ N : L2.St → Hp → Prop, (∀ σ' H', N σ' H' → ∃ m', m' < m ∧ W (i + 1) m' σ' H') ∧ ∀ x H', (Itr 0 z.toNat).yld i H x H' → g x σ H' fun σ2 H2 => tb { D with nx := N, ct := N, bk := D.nx } σ2 H2) := by
  subst e
  rw [Int.toNat_natCast]
  exact for_range Pv h0 (fun i σ H hi p => by rw [Int.zero_add]; exact hs i σ H hi p) hd
/-- range(1, n) -/
theorem for_rg1 {z : Int} {g : TG} {tb : TS} {D : Ends} {σ : L2.St} {H : Hp} (n : Nat) (e : z = (n : Int)) (Pv : Nat → L2.St → Hp → Prop) (h0 : Pv 1 σ H)
    (hs : ∀ (i : Nat) σ H, 1 ≤ i → i < n → Pv i σ H → g (.int (i : Int)) σ H fun σ2 H2 => tb { D with nx := Pv (i + 1), ct := Pv (i + 1), bk := D.nx } σ2 H2) (hd : ∀ i σ H, 1 ≤ i → n ≤ i → Pv i σ H → D.nx σ H) :
    ∃ W : Nat → Nat → L2.St → Hp → Prop, (∃ m, W 0 m σ H) ∧ ∀ i m σ H, W i m σ H →
      ((Itr 1 (z - 1).toNat).stop i H ∧ D.nx σ H) ∨ ((Itr 1 (z - 1).toNat).go i H ∧ ∃ N : L2.St → Hp → Prop, (∀ σ' H', N σ' H' → ∃ m', m' < m ∧ W (i + 1) m' σ' H') ∧ ∀ x H', (Itr 1 (z - 1).toNat).yld i H x H' → g x σ H' fun σ2 H2 => tb { D with nx := N, ct := N, bk := D.nx } σ2 H2) := by
  subst e
  refine for_range (fun i σ H => Pv (i + 1) σ H) h0 (fun i σ H hi p => ?_) (fun σ H p => ?_)
  · have e : (1 : Int) + (i : Int) = ((i + 1 : Nat) : Int) := by omega
    rw [e]
    exact hs (i + 1) σ H (by omega) (by omega) p
  · exact hd _ σ H (by omega) (by omega) p
theorem lc_rg {z : Int} {g : TG} {tt : TT} {te : TE} {vs : List Nat} {σ : L2.St} {H1 : Hp} {D : Addr} {Qd : Hp → Prop} (n : Nat) (e : z = (n : Int)) (Pv : Nat → Hp → Prop) (h0 : Pv 0 (upd H1 D (.lst [])))
    (hs : ∀ (i : Nat) H, i < n → Pv i H → g (.int (i : Int)) (wipe σ vs) H fun σ2 H2 => wipe σ2 vs = wipe σ vs ∧ tt σ2 H2 fun b H3 =>
      if b = true then te σ2 H3 fun y H4 => ∃ acc, H4 D = some (.lst acc) ∧ acc.length < sizeLine ∧ Pv (i + 1) (upd H4 D (.lst (acc ++ [y]))) else Pv (i + 1) H3) (hd : ∀ H, Pv n H → Qd H) :
    ∃ W : Nat → Nat → Hp → Prop, (∃ m, W 0 m (upd H1 D (.lst []))) ∧ ∀ i m H, W i m H →
      ((Itr 0 z.toNat).stop i H ∧ Qd H) ∨ ((Itr 0 z.toNat).go i H ∧ ∃ Nx : Hp → Prop, (∀ H', Nx H' → ∃ m', m' < m ∧ W (i + 1) m' H') ∧ ∀ x H', (Itr 0 z.toNat).yld i H x H' → g x (wipe σ vs) H' fun σ2 H2 => wipe σ2 vs = wipe σ vs ∧ tt σ2 H2 fun b H3 =>
        if b = true then te σ2 H3 fun y H4 => ∃ acc, H4 D = some (.lst acc) ∧ acc.length < sizeLine ∧ Nx (upd H4 D (.lst (acc ++ [y]))) else Nx H3) := by
  subst e
  rw [Int.toNat_natCast]
  exact lc_range Pv h0 (fun i H hi p => by rw [Int.zero_add]; exact hs i H hi p) hd

/-! ## within a comprehension: the rules with the written part named -/
section
variable {X : Cx}
theorem op_inK (K : PySem.W.Frag) (h : X.K = K) : OpR X (compareOp .In) (rIn K false) := by subst h; exact op_in_seq
theorem op_notInK (K : PySem.W.Frag) (h : X.K = K) : OpR X (compareOp .NotIn) (rIn K true) := by subst h; exact op_notIn_seq
theorem ix_listK (K : PySem.W.Frag) (h : X.K = K) : IxR X (rIxL K) := by subst h; exact ix_list
theorem ix_tupK (K : PySem.W.Frag) (h : X.K = K) : IxR X (rIxT K) := by subst h; exact ix_tup
theorem op_eqDK (K : PySem.W.Frag) (h : X.K = K) (hu : X.A.units + 64 < cLine) : OpR X (compareOp .Eq) (rEqD K) := by subst h; exact op_eqD hu
end

/-! ## comprehensions that change nothing -/
theorem filter_tt {α : Type} (l : List α) : l.filter (fun _ => true) = l := List.filter_eq_self.mpr fun _ _ => rfl
theorem given_filter {α : Type} (l : List α) (d : α) (p : α → Bool) (h : α → V) : Evl.given l.length (fun i => p (l.getD i d)) (fun i => h (l.getD i d)) = (l.filter p).map h := by
  have e : (List.range l.length).map (fun i => l.getD i d) = l := by
    apply List.ext_getElem?
    intro i
    by_cases hi : i < l.length
    · rw [List.getElem?_map, List.getElem?_range hi, Option.map_some, List.getD_eq_getElem?_getD, List.getElem?_eq_getElem hi]
      rfl
    · rw [List.getElem?_eq_none (by rw [List.length_map, List.length_range]; omega), List.getElem?_eq_none (by omega)]
  unfold Evl.given
  have h2 : ((List.range l.length).filter fun i => p (l.getD i d)).map (fun i => h (l.getD i d)) = (((List.range l.length).map (fun i => l.getD i d)).filter p).map h := by
    rw [List.filter_map, List.map_map]
    rfl
  rw [h2, e]
section
variable {K : PySem.W.Frag} {a : Addr} {xs : List V} {tt : TT} {te : TE} {vs : List Nat} {σ : L2.St} {H1 : Hp} {D : Addr} {Qd : Hp → Prop} {j : Nat}
theorem lc_tupP (f : Nat → Bool) (v : Nat → V) (hx : SqT K H1 a xs) (hz : xs.length ≤ 40000) (hD : H1 D = none) (hw : ∀ x, wipe ((wipe σ vs).set j (some x)) vs = wipe σ vs)
    (ht : ∀ (i : Nat) (x : V), xs[i]? = some x → Evl.EvT tt ((wipe σ vs).set j (some x)) H1 (f i)) (he : ∀ (i : Nat) (x : V), xs[i]? = some x → f i = true → Evl.Ev te ((wipe σ vs).set j (some x)) H1 (v i))
    (hd : ∀ H, Same H1 H → H D = some (.lst (Evl.given xs.length f v)) → Qd H) :
    ∃ W : Nat → Nat → Hp → Prop, (∃ m, W 0 m (upd H1 D (.lst []))) ∧ ∀ i m H, W i m H →
      ((Itt K a).stop i H ∧ Qd H) ∨ ((Itt K a).go i H ∧ ∃ Nx : Hp → Prop, (∀ H', Nx H' → ∃ m', m' < m ∧ W (i + 1) m' H') ∧ ∀ x H', (Itt K a).yld i H x H' → gName j x (wipe σ vs) H' fun σ2 H2 => wipe σ2 vs = wipe σ vs ∧ tt σ2 H2 fun b H3 =>
        if b = true then te σ2 H3 fun y H4 => ∃ acc, H4 D = some (.lst acc) ∧ acc.length < sizeLine ∧ Nx (upd H4 D (.lst (acc ++ [y]))) else Nx H3) :=
  lc_tup (Evl.Cw H1 f v D) ⟨hD, Evl.Ex.new hD, upd_same⟩ (fun i H' _ p => Evl.ex_t p.2.1 hx) (fun i x H' hi p => ⟨hw x, Evl.cw_turn p (by have := (List.getElem?_eq_some_iff.mp hi).1; omega) (ht i x hi) (he i x hi)⟩) fun H' p => hd H' p.2.1 p.2.2
theorem lc_listP (f : Nat → Bool) (v : Nat → V) (hx : SqL K H1 a xs) (hz : xs.length ≤ 40000) (hD : H1 D = none) (hw : ∀ x, wipe ((wipe σ vs).set j (some x)) vs = wipe σ vs)
    (ht : ∀ (i : Nat) (x : V), xs[i]? = some x → Evl.EvT tt ((wipe σ vs).set j (some x)) H1 (f i)) (he : ∀ (i : Nat) (x : V), xs[i]? = some x → f i = true → Evl.Ev te ((wipe σ vs).set j (some x)) H1 (v i))
    (hd : ∀ H, Same H1 H → H D = some (.lst (Evl.given xs.length f v)) → Qd H) :
    ∃ W : Nat → Nat → Hp → Prop, (∃ m, W 0 m (upd H1 D (.lst []))) ∧ ∀ i m H, W i m H →
      ((Itl K a).stop i H ∧ Qd H) ∨ ((Itl K a).go i H ∧ ∃ Nx : Hp → Prop, (∀ H', Nx H' → ∃ m', m' < m ∧ W (i + 1) m' H') ∧ ∀ x H', (Itl K a).yld i H x H' → gName j x (wipe σ vs) H' fun σ2 H2 => wipe σ2 vs = wipe σ vs ∧ tt σ2 H2 fun b H3 =>
        if b = true then te σ2 H3 fun y H4 => ∃ acc, H4 D = some (.lst acc) ∧ acc.length < sizeLine ∧ Nx (upd H4 D (.lst (acc ++ [y]))) else Nx H3) :=
  lc_list (Evl.Cw H1 f v D) ⟨hD, Evl.Ex.new hD, upd_same⟩ (fun i H' _ p => Evl.ex_l p.2.1 hx) (fun i x H' hi p => ⟨hw x, Evl.cw_turn p (by have := (List.getElem?_eq_some_iff.mp hi).1; omega) (ht i x hi) (he i x hi)⟩) fun H' p => hd H' p.2.1 p.2.2
theorem lc_rgP {z : Int} (n : Nat) (e : z = (n : Int)) (f : Nat → Bool) (v : Nat → V) (hz : n ≤ 40000) (hD : H1 D = none) (hw : ∀ x, wipe ((wipe σ vs).set j (some x)) vs = wipe σ vs)
    (ht : ∀ (i : Nat), i < n → Evl.EvT tt ((wipe σ vs).set j (some (.int (i : Int)))) H1 (f i)) (he : ∀ (i : Nat), i < n → f i = true → Evl.Ev te ((wipe σ vs).set j (some (.int (i : Int)))) H1 (v i))
    (hd : ∀ H, Same H1 H → H D = some (.lst (Evl.given n f v)) → Qd H) :
    ∃ W : Nat → Nat → Hp → Prop, (∃ m, W 0 m (upd H1 D (.lst []))) ∧ ∀ i m H, W i m H →
      ((Itr 0 z.toNat).stop i H ∧ Qd H) ∨ ((Itr 0 z.toNat).go i H ∧ ∃ Nx : Hp → Prop, (∀ H', Nx H' → ∃ m', m' < m ∧ W (i + 1) m' H') ∧ ∀ x H', (Itr 0 z.toNat).yld i H x H' → gName j x (wipe σ vs) H' fun σ2 H2 => wipe σ2 vs = wipe σ vs ∧ tt σ2 H2 fun b H3 =>
        if b = true then te σ2 H3 fun y H4 => ∃ acc, H4 D = some (.lst acc) ∧ acc.length < sizeLine ∧ Nx (upd H4 D (.lst (acc ++ [y]))) else Nx H3) :=
  lc_rg n e (Evl.Cw H1 f v D) ⟨hD, Evl.Ex.new hD, upd_same⟩ (fun i H' hi p => ⟨hw _, Evl.cw_turn p (by omega) (ht i hi) (he i hi)⟩) fun H' p => hd H' p.2.1 p.2.2
end

/-! ## in lists of ints -/
theorem inV_int (U : List Int) (z : Int) : inV (.int z) (vI U) = U.contains z := by
  unfold inV vI
  induction U with
  | nil => rfl
  | cons a t ih =>
    rw [List.map_cons, List.any_cons, ih, List.contains_cons]
    show ((a == z) || _) = ((z == a) || _)
    by_cases h : a = z
    · rw [h]
    · have h1 : (a == z) = false := by simpa using h
      have h2 : (z == a) = false := by simpa using fun q => h q.symm
      rw [h1, h2]
theorem inV_N (U : List Int) (p : Nat) : inV (.int (p : Int)) (vI U) = inL U p := inV_int U p
theorem flat_I (U : List Int) : (vI U).all flatV = true := by unfold vI; simp [flatV]
theorem flat_N (U : List Nat) : (vN U).all flatV = true := by unfold vN; simp [flatV]

/-! ## dicts of a write -/
def vD (cs : List (Nat × Int)) : List (Key × V) := cs.map fun p => (Sum.inl (p.1 : Int), V.int p.2)
theorem vD_len (cs : List (Nat × Int)) : (vD cs).length = cs.length := List.length_map _
theorem valV_vD (cs : List (Nat × Int)) (f : Nat) : valV (vD cs) (Sum.inl (f : Int)) = (cs.lookup f).map V.int := by
  induction cs with
  | nil => rfl
  | cons p t ih =>
    obtain ⟨a, v⟩ := p
    show valV ((Sum.inl (a : Int), V.int v) :: vD t) (Sum.inl (f : Int)) = _
    by_cases e : f = a
    · subst e
      rw [valV_pos rfl]
      simp [List.lookup]
    · have hb : (f == a) = false := by simpa using e
      rw [valV_neg (fun z => e (by have z' := Sum.inl.inj z; omega)), ih]
      simp only [List.lookup, hb]
theorem dget (H : Hp) (a : Addr) (cs : List (Nat × Int)) (f : Nat) (h : Rd H a (.dK (vD cs))) : DGet H a (.int (f : Int)) ((cs.lookup f).map V.int) := by
  rw [← valV_vD]
  exact .inl ⟨_, Sum.inl (f : Int), h, rfl, rfl⟩

/-! ## a forest's object -/
def ffs (n : Nat) (pa ka : Addr) : List (Str × V) := [("fields", .int (n : Int)), ("parents", .ref pa), ("kinds", .ref ka)]
theorem ffs_f (n : Nat) (pa ka : Addr) : (ffs n pa ka).lookup ("fields" : Str) = some (V.int (n : Int)) := by rfl
theorem ffs_p (n : Nat) (pa ka : Addr) : (ffs n pa ka).lookup ("parents" : Str) = some (V.ref pa) := by rfl
theorem ffs_k (n : Nat) (pa ka : Addr) : (ffs n pa ka).lookup ("kinds" : Str) = some (V.ref ka) := by rfl
def Fo (C : Addr) (H : Hp) (a : Addr) (ps : Par) (ks : List Kd) : Prop := ∃ dx pa ka, H a = some (.ins C dx (ffs ps.length pa ka)) ∧ H pa = some (.tup (vP ps)) ∧ H ka = some (.tup (vK ks))
theorem Fo.same {C : Addr} {H H' : Hp} {a : Addr} {ps : Par} {ks : List Kd} (h : Fo C H a ps ks) (s : Same H H') : Fo C H' a ps ks := by
  obtain ⟨dx, pa, ka, h1, h2, h3⟩ := h
  exact ⟨dx, pa, ka, s _ _ h1, s _ _ h2, s _ _ h3⟩
theorem Fo.but {C : Addr} {H H' : Hp} {a t : Addr} {ps : Par} {ks : List Kd} {xs : List V} (h : Fo C H a ps ks) (s : But t H H') (ht : H t = some (.lst xs)) : Fo C H' a ps ks := by
  obtain ⟨dx, pa, ka, h1, h2, h3⟩ := h
  exact ⟨dx, pa, ka, s _ _ (ne_of h1 ht (fun z => by cases z)) h1, s _ _ (ne_of h2 ht (fun z => by cases z)) h2, s _ _ (ne_of h3 ht (fun z => by cases z)) h3⟩
structure FoC (K : PySem.W.Frag) (mg : Str → Option Value) (C : Addr) : Prop where
  mgC : mg "Forest" = some (.ref C)
  cl : Cls K C
  nF : NoAttr K C "fields"
  nP : NoAttr K C "parents"
  nK : NoAttr K C "kinds"
  init : ∃ (fI : Addr) (fd : FuncData), Fun K "__init__" "Forest.__init__" s_Forest___init__ fI fd ∧ Mk K C fI ∧ Binds K fd ["self", "parents", "kinds"] []
  call : ∃ (g : Addr) (fd : FuncData), Fun K "__call__" "Forest.__call__" s_Forest___call__ g fd ∧ StX.CallO K C g ∧ Binds K fd ["self", "older", "newer"] []

/-! ## what the written part says: the built-ins are themselves -/
structure Bl (mg : Str → Option Value) : Prop where
  z_len : mg "len" = none
  z_any : mg "any" = none
  z_sorted : mg "sorted" = none
  z_abs : mg "abs" = none
  z_isinstance : mg "isinstance" = none
  z_int : mg "int" = none
  z_tuple : mg "tuple" = none
  z_list : mg "list" = none
  z_dict : mg "dict" = none
  z_range : mg "range" = none
  z_bool : mg "bool" = none
  z_ValueError : mg "ValueError" = none
structure Tx (K : PySem.W.Frag) (mg : Str → Option Value) : Prop extends Bl mg where
  d_better : Df K mg "better" s_better ["kind", "value", "other"]
  d_path_of : Df K mg "path_of" s_path_of ["parents", "field"]
  d_first_unlike_on : Df K mg "first_unlike_on" s_first_unlike_on ["path", "first", "second"]
  d_merged_record : Df K mg "merged_record" s_merged_record ["parents", "kinds", "older", "newer"]
  d_check_record : Df K mg "check_record" s_check_record ["fields", "record"]
  d_check_place : Df K mg "check_place" s_check_place ["fields", "place"]
  d_check_places : Df K mg "check_places" s_check_places ["fields", "places"]
  d_check_fair : Df K mg "check_fair" s_check_fair ["forest"]
  d_check_write : Df K mg "check_write" s_check_write ["forest", "base", "changes"]
  d_with_values : Df K mg "with_values" s_with_values ["base", "changes"]
  d_fields_above : Df K mg "fields_above" s_fields_above ["forest", "field"]
  d_written : Df K mg "written" s_written ["forest", "base", "changes"]
  d_lands : Df K mg "lands" s_lands ["forest", "base", "changes"]
  d_has_above : Df K mg "has_above" s_has_above ["forest", "upper", "lower"]
  d_both_stay : Df K mg "both_stay" s_both_stay ["forest", "first", "second"]
  d_never_ends : Df K mg "never_ends" s_never_ends ["parents", "field"]
  d_check_shape : Df K mg "check_shape" s_check_shape ["parents", "kinds"]
  d_law_tape : Df K mg "_law_tape" s_law_tape ["_law_script", "_law_k"]
  d_law_take : Df K mg "_law_take" s_law_take ["_law_tape_here", "_law_size_here"]
  d_law_value : Df K mg "_law_value" s_law_value ["_law_tape_here", "_law_span"]
  d_law_record : Df K mg "_law_record" s_law_record ["_law_tape_here", "_law_n", "_law_span"]
  d_law_turns : Df K mg "_law_turns" s_law_turns ["_law_tape_here", "_law_n"]
  d_law_parents : Df K mg "_law_parents" s_law_parents ["_law_tape_here", "_law_n"]
  d_law_kinds : Df K mg "_law_kinds" s_law_kinds ["_law_tape_here", "_law_parents_here", "_law_fair"]
  d_law_path : Df K mg "_law_path" s_law_path ["_law_parents_here", "_law_field"]
  d_law_side : Df K mg "_law_side" s_law_side ["_law_parents_here", "_law_kinds_here", "_law_field", "_law_older", "_law_newer"]
  d_law_merge : Df K mg "_law_merge" s_law_merge ["_law_parents_here", "_law_kinds_here", "_law_older", "_law_newer"]
  d_law_is_integer : Df K mg "_law_is_integer" s_law_is_integer ["_law_actual"]
  d_law_is_record : Df K mg "_law_is_record" s_law_is_record ["_law_actual", "_law_n"]
  d_law_size : Df K mg "_law_size" s_law_size ["_law_tape_here"]
  d_law_raised : Df K mg "_law_raised" s_law_raised ["_law_kind", "_law_value_here", "_law_by"]
  d_law_no_field : Df K mg "_law_no_field" s_law_no_field ["_law_tape_here", "_law_n"]
  d_law_level : Df K mg "_law_level" s_law_level ["_law_kinds_here"]
  d_law_unfair : Df K mg "_law_unfair" s_law_unfair ["_law_kinds_here"]
  d_law_stays : Df K mg "_law_stays" s_law_stays ["_law_forest", "_law_parents_here", "_law_kinds_here"]
  d_law_new : Df K mg "_law_new" s_law_new ["_law_base", "_law_changes_here"]
  d_law_lists : Df K mg "_law_lists" s_law_lists ["_law_tape_here", "_law_n"]
  d_law_spoilt : Df K mg "_law_spoilt" s_law_spoilt ["_law_tape_here", "_law_n", "_law_lists_here"]
  d_law_changes : Df K mg "_law_changes" s_law_changes ["_law_tape_here", "_law_parents_here", "_law_kinds_here", "_law_base", "_law_fields"]
  d_law_question : Df K mg "_law_question" s_law_question ["_law_script", "_law_turn", "_law_parents_here", "_law_kinds_here"]
  d_law_refusal : Df K mg "_law_refusal" s_law_refusal ["_law_kinds_here", "_law_first", "_law_second"]
  d_law_ask : Df K mg "_law_ask" s_law_ask ["_law_forest", "_law_first", "_law_second"]
  d_law_is_refusal : Df K mg "_law_is_refusal" s_law_is_refusal ["_law_told", "_law_due"]
  d_law_apart : Df K mg "_law_apart" s_law_apart ["_law_parents_here", "_law_first", "_law_second"]
  d_law_holds : Df K mg "_law_holds" s_law_holds ["_law_forest", "_law_parents_here", "_law_kinds_here", "_law_first", "_law_second"]
  d_law_written : Df K mg "_law_written" s_law_written ["_law_forest", "_law_parents_here", "_law_kinds_here", "_law_base", "_law_changes_here"]
  d_law_both : Df K mg "_law_both" s_law_both ["_law_forest", "_law_parents_here", "_law_kinds_here", "_law_question_here"]
  d_law : Df K mg "law" s_law ["_law_script"]
end Fr

/-! # FrP1 -/
namespace Fr
open PySem PySem.Spec PyProof.Rows L2 FR
section
variable {P : Program} {w : World} {K : PySem.W.Frag} {mg : Str → Option Value} {base : Heap} (T : Tx K mg)
include T
def spBetter : Sp := fun vs H Q _ => ∃ (k : Kd) (x y : Int), vs = [.str (kS k), .int x, .int y] ∧ ∀ H', Same H H' → Q (.bl (bet k x y)) H'
theorem ok_better : Ok1 P w K mg base CX0 1 "better" ["kind", "value", "other"] spBetter := by
  refine T.d_better.ok sc_better (fun vs H Q E h => ?_) (fun f cdv A outer s H vs Q E hr h => ?_)
  · obtain ⟨k, x, y, rfl, _⟩ := h; rfl
  · obtain ⟨kk, x, y, rfl, k⟩ := h
    refine ⟨_, (pss_cons (ps_if (pt_cmpR op_eq (pv 0) pe_str (nomark _))
        (pss_one (ps_ret (pe_cmpR op_gt (pv 1) (pv 2) (nomark _))))
        pss_nil)
      (pss_cons (ps_if (pt_cmpR op_eq (pv 0) pe_str (nomark _))
        (pss_one (ps_ret (pe_cmpR op_lt (pv 1) (pv 2) (nomark _))))
        pss_nil)
      (pss_one (ps_ret pe_bl)))), ?_⟩
    have k' := k H (Same.refl H)
    refine ⟨_, rfl, rfl, _, rfl, iteD _ (kS_up kk) (ite2 (fun e => ?_) (fun e => ?_))⟩
    · have e' := of_decide_eq_true e
      subst e'
      exact ⟨_, rfl, _, rfl, _, _, rfl, rfl, k'⟩
    · refine ⟨_, rfl, rfl, _, rfl, iteD _ (kS_down kk) (ite2 (fun e2 => ?_) (fun e2 => ?_))⟩
      · have e' := of_decide_eq_true e2
        subst e'
        exact ⟨_, rfl, _, rfl, _, _, rfl, rfl, k'⟩
      · cases kk with
        | up => exact absurd rfl e
        | down => exact absurd rfl e2
        | first => exact k'
        | last => exact k'

def spFU (K : PySem.W.Frag) : Sp := fun vs H Q _ => ∃ (p a b : Addr) (l : List Nat) (x y : List Int), vs = [.ref p, .ref a, .ref b] ∧ SqT K H p (vN l) ∧ SqT K H a (vI x) ∧ SqT K H b (vI y) ∧
  (∀ q ∈ l, q < x.length ∧ q < y.length) ∧ ∀ H', Same H H' → Q (pV (l.find? fun q => rg x q != rg y q)) H'
theorem ok_fu : Ok1 P w K mg base CX0 1 "first_unlike_on" ["path", "first", "second"] (spFU K) := by
  refine T.d_first_unlike_on.ok sc_first_unlike_on (fun vs H Q E h => ?_) (fun f cdv A outer s H vs Q E hr h => ?_)
  · obtain ⟨p, a, b, l, x, y, rfl, _⟩ := h; rfl
  · obtain ⟨p, a, b, l, x, y, rfl, hp, ha, hb, hl, k⟩ := h
    refine ⟨_, (pss_cons (ps_for PassesOwn.never rfl (pi_tup (pv 0)) (pg_name (i := 3) sc_first_unlike_on.nd rfl (Or.inl rfl))
        (pss_one (ps_if (pt_cmpR op_ne (pe_ix ix_tup (pv 1) (pv 3) (fun _ _ => rfl)) (pe_ix ix_tup (pv 2) (pv 3) (fun _ _ => rfl)) (nomark _))
          (pss_one (ps_ret (pv 3)))
          pss_nil)))
      (pss_one (ps_ret pe_non))), ?_⟩
    have k' := k H (Same.refl H)
    refine ⟨_, rfl, p, rfl, ⟨_, hp⟩, for_tup (xs := vN l) (fun i σ H' => (∃ v, σ = [some (.ref p), some (.ref a), some (.ref b), v]) ∧ H' = H ∧ ∀ q ∈ l.take i, rg x q = rg y q) ⟨⟨_, rfl⟩, rfl, fun q hq => by simp at hq⟩ (fun i σ H' _ h => by obtain ⟨_, rfl, _⟩ := h; exact hp) ?_ ?_⟩
    · rintro i v σ H' hi ⟨⟨v0, rfl⟩, rfl, hpre⟩
      have hil : i < l.length := by
        have := (List.getElem?_eq_some_iff.mp hi).1
        rw [vN_len] at this; exact this
      have hq : l[i]? = some l[i] := List.getElem?_eq_getElem hil
      rw [vN_at hq] at hi
      cases hi
      obtain ⟨h1, h2⟩ := hl l[i] (List.getElem_mem hil)
      refine ⟨_, rfl, _, rfl, _, _, _, _, rfl, rfl, ha, atN (vI_at h1), _, rfl, _, rfl, _, _, _, _, rfl, rfl, hb, atN (vI_at h2), rfl, _, rfl, ite2 (fun e => ?_) (fun e => ?_)⟩
      · have e' : rg x l[i] ≠ rg y l[i] := by
          intro z
          rw [z] at e
          exact absurd e (by simp)
        have hf : l.find? (fun q => rg x q != rg y q) = some l[i] := by
          rw [List.find?_eq_some_iff_append]
          refine ⟨by simpa using e', l.take i, l.drop (i + 1), ?_, fun q hq => ?_⟩
          · rw [List.getElem_cons_drop, List.take_append_drop]
          · simpa using hpre q hq
        rw [hf] at k'
        exact ⟨_, rfl, k'⟩
      · have e' : rg x l[i] = rg y l[i] := by
          by_cases z : rg x l[i] = rg y l[i]
          · exact z
          · exfalso
            apply e
            simp [z]
        refine ⟨⟨_, rfl⟩, rfl, fun q hq => ?_⟩
        rw [List.take_succ, List.getElem?_eq_getElem hil] at hq
        rcases List.mem_append.mp hq with hq | hq
        · exact hpre q hq
        · rw [List.mem_singleton.mp hq]; exact e'
    · rintro σ H' ⟨_, rfl, hpre⟩
      rw [vN_len, List.take_length] at hpre
      have hf : l.find? (fun q => rg x q != rg y q) = none := by
        rw [List.find?_eq_none]
        intro q hq
        simpa using hpre q hq
      rw [hf] at k'
      exact k'

def spPath (K : PySem.W.Frag) : Sp := fun vs H Q _ => ∃ (pa : Addr) (ps : Par) (r : Nat → Nat) (f : Nat), vs = [.ref pa, .int (f : Int)] ∧ SqT K H pa (vP ps) ∧ Wf ps r ∧ f < ps.length ∧ ps.length ≤ 16 ∧
  ∀ H' p, Same H H' → H p = none → H' p = some (.tup (vN (pathL ps f))) → Q (.ref p) H'
theorem ok_path : Ok1 P w K mg base CX0 1 "path_of" ["parents", "field"] (spPath K) := by
  refine T.d_path_of.ok sc_path_of (fun vs H Q E h => ?_) (fun f cdv A outer s H vs Q E hr h => ?_)
  · obtain ⟨pa, ps, r, f, rfl, _⟩ := h; rfl
  · obtain ⟨pa, ps, r, g, rfl, hp, W, hg, hn, k⟩ := h
    refine ⟨_, (pss_cons (ps_set (i := 2) sc_path_of.nd rfl (Or.inl rfl) (pe_lst (pa_cons (pv 1) pa_nil)))
      (pss_cons (ps_while PassesOwn.never (pt_cmpR op_notN (pe_ix ix_tup (pv 0) (pe_ix ix_list (pv 2) (pe_un un_neg pe_int) (fun _ _ => rfl)) (fun _ _ => rfl)) pe_non (nomark _))
        (pss_one (ps_expr (pe_bm PySem.F.plainAttrs_list PySem.F.slot_list_append PySem.F.type_list_append mt_append (pv 2) (pa_cons (pe_ix ix_tup (pv 0) (pe_ix ix_list (pv 2) (pe_un un_neg pe_int) (fun _ _ => rfl)) (fun _ _ => rfl)) pa_nil)))))
      (pss_one (ps_ret (pe_callTy call_tuple_of (by rfl) T.z_tuple (by decide +kernel) (pa_cons (pe_revL (pv 2)) pa_nil)))))), ?_⟩
    refine ⟨_, rfl, by show 1 ≤ sizeLine; decide, fun l hl => ?_⟩
    have S0 : ∀ o, Same H (upd H l o) := fun o => Same.new hl
    refine ⟨fun m σ H' => ∃ q : List Nat, q ≠ [] ∧ σ = [some (.ref pa), some (.int (g : Int)), some (.ref l)] ∧ H' = upd H l (.lst (vN q.reverse)) ∧ q.headD 0 < ps.length ∧ up ps ps.length q = pathL ps g ∧ m = r (q.headD 0) ∧ q.length + m ≤ r g + 1,
      ⟨_, [g], by simp, rfl, rfl, hg, rfl, rfl, by show 1 + r g ≤ _; omega⟩, ?_⟩
    rintro m σ H' ⟨q, hq, rfl, rfl, hlt, hup, rfl, hlen⟩
    cases q with
    | nil => exact absurd rfl hq
    | cons a t =>
      have eL : vN (a :: t).reverse = vN t.reverse ++ [V.int (a : Int)] := by unfold vN; simp
      have hat : atI (vN (a :: t).reverse) (-1) = some (.int (a : Int)) := by rw [eL]; exact at_last
      have hlt : a < ps.length := hlt
      have hp' : SqT K (upd H l (.lst (vN (a :: t).reverse))) pa (vP ps) := Same.st (S0 _) hp
      refine ⟨_, rfl, _, rfl, _, rfl, _, _, _, _, rfl, rfl, SqL.of upd_same, hat, _, _, _, _, rfl, rfl, hp', atN (vP_at hlt), rfl, _, rfl, ?_⟩
      cases e : par ps a with
      | none =>
        refine iteD false (by decide) (iteF ?_)
        refine ⟨_, rfl, _, _, rfl, SqL.of upd_same, fun p2 hp2 => ⟨_, _, rfl, .inl ⟨SqL.of upd_same, fun p3 hp3 => ?_⟩⟩⟩
        have hz : pathL ps g = a :: t := by rw [← hup, up_fix (l := a :: t) e]
        have h3 : H p3 = none := Same.free (Same.trans (S0 _) (Same.new hp2)) hp3
        refine k _ _ (Same.trans (Same.trans (S0 _) (Same.new hp2)) (Same.new hp3)) h3 ?_
        rw [upd_same, hz]
        unfold vN
        simp
      | some p =>
        obtain ⟨_, w2, w3⟩ := W.lt _ _ e
        refine iteD true (by show (!decide (V.int (p : Int) = V.non)) = true; simp) (iteT ⟨_, fun _ _ h => h, ?_⟩)
        refine ⟨_, rfl, .inl ⟨rfl, _, .inl (.inl upd_same)⟩, _, rfl, _, rfl, _, rfl, _, _, _, _, rfl, rfl, SqL.of upd_same, hat, _, _, _, _, rfl, rfl, hp', atN (vP_at hlt), l, _, _, rfl, rfl, upd_same, ?_, ?_⟩
        · rw [vN_len, List.length_reverse]
          have := W.bd g
          exact smallL (by omega)
        · refine ⟨r p, w3, p :: a :: t, by simp, rfl, ?_, w2, ?_, rfl, ?_⟩
          · rw [upd_upd, e]
            unfold vN pV
            simp
          · rw [← hup, ← up_lstep W (a :: t), lstep_some (l := a :: t) e]
          · have hlen : (a :: t).length + r a ≤ r g + 1 := hlen
            show (p :: a :: t).length + r p ≤ r g + 1
            simp only [List.length_cons] at hlen ⊢
            have : r p < r a := w3
            omega
end
end Fr

/-! # FrP2 -/
namespace Fr
open PySem PySem.Spec PyProof.Rows L2 FR
section
variable {P : Program} {w : World} {K : PySem.W.Frag} {mg : Str → Option Value} {base : Heap} (T : Tx K mg)
include T
def spMerged (K : PySem.W.Frag) : Sp := fun vs H Q _ => ∃ (pa ka oa na : Addr) (ps : Par) (ks : List Kd) (r : Nat → Nat) (x y : List Int), vs = [.ref pa, .ref ka, .ref oa, .ref na] ∧ SqT K H pa (vP ps) ∧ SqT K H ka (vK ks) ∧ SqT K H oa (vI x) ∧ SqT K H na (vI y) ∧
  Wf ps r ∧ ps.length ≤ 16 ∧ ks.length = ps.length ∧ x.length = ps.length ∧ y.length = ps.length ∧ ∀ H' p, Same H H' → H p = none → H' p = some (.tup (vI (merge ps ks x y))) → Q (.ref p) H'
theorem take_merge {ps : Par} {ks : List Kd} {x y : List Int} {i : Nat} (h : i < ps.length) : vI ((merge ps ks x y).take (i + 1)) = vI ((merge ps ks x y).take i) ++ [V.int (if older ps ks x y i then rg x i else rg y i)] := by
  have hl : i < (merge ps ks x y).length := by rw [merge_length]; exact h
  rw [List.take_succ, List.getElem?_eq_getElem hl]
  unfold vI
  rw [List.map_append]
  have e := rg_merge (ks := ks) (a := x) (b := y) h
  unfold rg at e
  rw [List.getD_eq_getElem?_getD, List.getElem?_eq_getElem hl] at e
  have e2 : (merge ps ks x y)[i] = if older ps ks x y i then rg x i else rg y i := e
  rw [e2]
  rfl
theorem ok_merged : Ok1 P w K mg base CX0 2 "merged_record" ["parents", "kinds", "older", "newer"] (spMerged K) := by
  have Gpath_of : Ok1 P w K mg base CX0 1 "path_of" ["parents", "field"] (spPath K) := ok_path T
  have Gfirst_unlike_on : Ok1 P w K mg base CX0 1 "first_unlike_on" ["path", "first", "second"] (spFU K) := ok_fu T
  have Gbetter : Ok1 P w K mg base CX0 1 "better" ["kind", "value", "other"] spBetter := ok_better T
  refine T.d_merged_record.ok sc_merged_record (fun vs H Q E h => ?_) (fun f cdv A outer s H vs Q E hr h => ?_)
  · obtain ⟨pa, ka, oa, na, ps, ks, r, x, y, rfl, _⟩ := h; rfl
  · obtain ⟨pa, ka, oa, na, ps, ks, r, x, y, rfl, hp, hk, hx, hy, W, hn, lk, lx, ly, k⟩ := h
    refine ⟨_, (pss_cons (ps_set (i := 4) sc_merged_record.nd rfl (Or.inl rfl) (pe_lst pa_nil))
      (pss_cons (ps_for PassesOwn.never rfl (pi_range1 (by rfl) T.z_range (pa_cons (pe_callB call_len_seq (by rfl) T.z_len (by decide +kernel) (pa_cons (pv 0) pa_nil)) pa_nil)) (pg_name (i := 5) sc_merged_record.nd rfl (Or.inl rfl))
        (pss_cons (ps_set (i := 6) sc_merged_record.nd rfl (Or.inl rfl) (pe_c Gfirst_unlike_on (hr.mono (by decide)) pass0 (pa_cons (pe_c Gpath_of (hr.mono (by decide)) pass0 (pa_cons (pv 0) (pa_cons (pv 5) pa_nil))) (pa_cons (pv 2) (pa_cons (pv 3) pa_nil)))))
          (pss_one (ps_if (PW.pt (pw_or (pt_cmpR op_isN (pv 6) pe_non (nomark _)) (pw_or (pt_cmpR op_eq (pe_ix ix_tup (pv 1) (pv 6) (fun _ _ => rfl)) pe_str (nomark _)) (pw_or1 (pt_val (pe_c Gbetter (hr.mono (by decide)) pass0 (pa_cons (pe_ix ix_tup (pv 1) (pv 6) (fun _ _ => rfl)) (pa_cons (pe_ix ix_tup (pv 2) (pv 6) (fun _ _ => rfl)) (pa_cons (pe_ix ix_tup (pv 3) (pv 6) (fun _ _ => rfl)) pa_nil)))))))))
          (pss_one (ps_expr (pe_bm PySem.F.plainAttrs_list PySem.F.slot_list_append PySem.F.type_list_append mt_append (pv 4) (pa_cons (pe_ix ix_tup (pv 2) (pv 5) (fun _ _ => rfl)) pa_nil))))
          (pss_one (ps_expr (pe_bm PySem.F.plainAttrs_list PySem.F.slot_list_append PySem.F.type_list_append mt_append (pv 4) (pa_cons (pe_ix ix_tup (pv 3) (pv 5) (fun _ _ => rfl)) pa_nil))))))))
      (pss_one (ps_ret (pe_callTy call_tuple_of (by rfl) T.z_tuple (by decide +kernel) (pa_cons (pv 4) pa_nil)))))), ?_⟩
    refine ⟨Nat.zero_le _, fun l hl => ?_⟩
    have S0 : ∀ o, Same H (upd H l o) := fun o => Same.new hl
    refine ⟨_, rfl, _, _, rfl, .inr (Same.st (S0 _) hp), _, rfl, by rw [vP_len]; omega, by rw [vP_len]; omega,
      for_rg ps.length (by rw [vP_len]) (fun i σ H' => (∃ a b, σ = [some (.ref pa), some (.ref ka), some (.ref oa), some (.ref na), some (.ref l), a, b]) ∧ Same H H' ∧ H' l = some (.lst (vI ((merge ps ks x y).take i)))) ⟨⟨_, _, rfl⟩, S0 _, upd_same⟩ ?_ ?_⟩
    · rintro i σ H' hi ⟨⟨a, b, rfl⟩, S1, h1⟩
      refine gn (sq ⟨_, rfl, _, rfl, pa, ps, r, i, rfl, Same.st S1 hp, W, hi, hn, fun H2 q S2 hq0 hq => ⟨_, rfl, _, rfl, q, oa, na, pathL ps i, x, y, rfl, SqT.of hq, Same.st (Same.trans S1 S2) hx, Same.st (Same.trans S1 S2) hy, fun z hz => by have := path_mem_lt W hi hz; omega, fun H3 S3 => ?_⟩⟩)
      have S13 := Same.trans (Same.trans S1 S2) S3
      refine if_use (older ps ks x y i) (fun Q' q' => ?_) (fun e H4 S4 => ?_) (fun e H4 S4 => ?_)
      · unfold older fu at q'
        refine ⟨_, rfl, rfl, _, rfl, ?_⟩
        cases ef : (pathL ps i).find? (fun q => rg x q != rg y q) with
        | none =>
          rw [ef] at q'
          exact iteD true (by decide) (iteT (q' H3 (Same.refl _)))
        | some z =>
          rw [ef] at q'
          have hz := path_mem_lt W hi (List.mem_of_find?_eq_some ef)
          refine iteD false (by show decide (V.int (z : Int) = V.non) = false; simp) (iteF ?_)
          refine ⟨_, rfl, _, rfl, _, _, _, _, rfl, rfl, Same.st S13 hk, atN (vK_at (by omega)), rfl, _, rfl, iteD _ (kS_first _) ?_⟩
          unfold olderAt at q'
          dsimp only at q'
          refine ite2 (fun e1 => ?_) (fun e1 => ?_)
          · rw [e1] at q'
            exact q' H3 (Same.refl _)
          · have e1' : decide (kd ks z = Kd.first) = false := by simpa using e1
            rw [e1', Bool.false_or] at q'
            refine ⟨_, rfl, _, rfl, _, _, _, _, rfl, rfl, Same.st S13 hk, atN (vK_at (by omega)), _, rfl, _, rfl, _, _, _, _, rfl, rfl, Same.st S13 hx, atN (vI_at (by omega)), _, rfl, _, rfl, _, _, _, _, rfl, rfl, Same.st S13 hy, atN (vI_at (by omega)), ?_⟩
            exact ⟨_, _, _, rfl, fun H4 S4 => ⟨_, rfl, q' H4 S4⟩⟩
      · have h4 : H4 l = some (.lst (vI ((merge ps ks x y).take i))) := S4 _ _ (S3 _ _ (S2 _ _ h1))
        have S14 := Same.trans S13 S4
        refine ⟨_, rfl, .inl ⟨rfl, _, .inl (.inl h4)⟩, _, rfl, _, rfl, _, _, _, _, rfl, rfl, Same.st S14 hx, atN (vI_at (by omega)), l, _, _, rfl, rfl, h4, ?_, ?_⟩
        · rw [vI_len, List.length_take]; exact smallL (by omega)
        · refine ⟨⟨_, _, rfl⟩, fun b o hb => ?_, ?_⟩
          · rw [upd_ne (ne_of_none hb hl)]; exact S14 b o hb
          · rw [upd_same, take_merge T hi, e]; rfl
      · have h4 : H4 l = some (.lst (vI ((merge ps ks x y).take i))) := S4 _ _ (S3 _ _ (S2 _ _ h1))
        have S14 := Same.trans S13 S4
        refine ⟨_, rfl, .inl ⟨rfl, _, .inl (.inl h4)⟩, _, rfl, _, rfl, _, _, _, _, rfl, rfl, Same.st S14 hy, atN (vI_at (by omega)), l, _, _, rfl, rfl, h4, ?_, ?_⟩
        · rw [vI_len, List.length_take]; exact smallL (by omega)
        · refine ⟨⟨_, _, rfl⟩, fun b o hb => ?_, ?_⟩
          · rw [upd_ne (ne_of_none hb hl)]; exact S14 b o hb
          · rw [upd_same, take_merge T hi, e]; rfl
    · rintro σ H' ⟨⟨a, b, rfl⟩, S1, h1⟩
      have ht : (merge ps ks x y).take ps.length = merge ps ks x y := by rw [List.take_of_length_le (by rw [merge_length]; exact Nat.le_refl _)]
      rw [ht] at h1
      refine ⟨_, rfl, _, _, rfl, .inl ⟨SqL.of h1, fun p2 hp2 => ?_⟩⟩
      exact k _ _ (Same.trans S1 (Same.new hp2)) (Same.free S1 hp2) upd_same
end
end Fr

/-! # FrP3 -/
namespace Fr
open PySem PySem.Spec PyProof.Rows L2 FR
theorem cut_last (l : List Nat) : cutV (vN l) none (some (-1)) = vN l.dropLast := by
  unfold cutV HT.sIx
  rw [vN_len]
  show ((vN l).drop 0).take ((if (-1 : Int) < 0 then ((-1 : Int) + (l.length : Int)).toNat else min (-1 : Int).toNat l.length) - 0) = _
  rw [if_pos (by decide), List.drop_zero, List.dropLast_eq_take]
  unfold vN
  rw [List.map_take]
  congr 1
  omega
section
variable {P : Program} {w : World} {K : PySem.W.Frag} {mg : Str → Option Value} {base : Heap} (T : Tx K mg) {C : Addr} (Fc : FoC K mg C)
include T Fc
def spAbove (C : Addr) : Sp := fun vs H Q _ => ∃ (fo : Addr) (ps : Par) (ks : List Kd) (r : Nat → Nat) (g : Nat), vs = [.ref fo, .int (g : Int)] ∧ Fo C H fo ps ks ∧ Wf ps r ∧ g < ps.length ∧ ps.length ≤ 16 ∧
  ∀ H' p, Same H H' → H p = none → H' p = some (.tup (vN (pathL ps g).dropLast)) → Q (.ref p) H'
theorem ok_above : Ok1 P w K mg base CX0 2 "fields_above" ["forest", "field"] (spAbove C) := by
  have Gpath_of : Ok1 P w K mg base CX0 1 "path_of" ["parents", "field"] (spPath K) := ok_path T
  refine T.d_fields_above.ok sc_fields_above (fun vs H Q E h => ?_) (fun f cdv A outer s H vs Q E hr h => ?_)
  · obtain ⟨fo, ps, ks, r, g, rfl, _⟩ := h; rfl
  · obtain ⟨fo, ps, ks, r, g, rfl, ⟨dx, pa, ka, h1, h2, h3⟩, W, hg, hn, k⟩ := h
    refine ⟨_, (pss_one (ps_ret (pe_slice sl_tup (pe_c Gpath_of (hr.mono (by decide)) pass0 (pa_cons (pe_fld (pv 0) rfl) (pa_cons (pv 1) pa_nil))) po_none (po_some (pe_un un_neg pe_int))))), ?_⟩
    refine ⟨_, rfl, fo, C, dx, _, _, rfl, h1, Fc.cl, Fc.nP, ffs_p _ _ _, _, rfl, pa, ps, r, g, rfl, SqT.of h2, W, hg, hn, fun H1 p S1 hp0 hp => ?_⟩
    refine ⟨_, rfl, _, rfl, p, _, rfl, SqT.of hp, ?_, fun p2 hp2 => k _ p2 (Same.trans S1 (Same.new hp2)) (Same.free S1 hp2) ?_⟩
    · rintro ⟨_, z⟩
      rw [vN_len] at z
      have hl : 0 < (pathL ps g).length := List.length_pos_iff.mpr (path_ne ps g)
      unfold HT.sIx at z
      have z' : (if (-1 : Int) < 0 then ((-1 : Int) + ((pathL ps g).length : Int)).toNat else min (-1 : Int).toNat (pathL ps g).length) = (pathL ps g).length := z
      rw [if_pos (by decide)] at z'
      omega
    · rw [upd_same]
      exact congrArg (fun z => some (HO.tup z)) (cut_last _)

def spHas (C : Addr) (K : PySem.W.Frag) : Sp := fun vs H Q _ => ∃ (fo ua la : Addr) (ps : Par) (ks : List Kd) (r : Nat → Nat) (U L : List Int), vs = [.ref fo, .ref ua, .ref la] ∧ Fo C H fo ps ks ∧ SqL K H ua (vI U) ∧ SqL K H la (vI L) ∧ Wf ps r ∧ ps.length ≤ 16 ∧ Valid ps.length L ∧
  ∀ H', Same H H' → Q (.bl (hasAbove ps U L)) H'
theorem ok_has : Ok1 P w K mg base CX0 3 "has_above" ["forest", "upper", "lower"] (spHas C K) := by
  have Gfields_above : Ok1 P w K mg base CX0 2 "fields_above" ["forest", "field"] (spAbove C) := ok_above T Fc
  refine T.d_has_above.ok sc_has_above (fun vs H Q E h => ?_) (fun f cdv A outer s H vs Q E hr h => ?_)
  · obtain ⟨fo, ua, la, ps, ks, r, U, L, rfl, _⟩ := h; rfl
  · obtain ⟨fo, ua, la, ps, ks, r, U, L, rfl, hfo, hu, hl, W, hn, vL, k⟩ := h
    refine ⟨_, (pss_cons (ps_for PassesOwn.never rfl (pi_list (pv 2)) (pg_name (i := 3) sc_has_above.nd rfl (Or.inl rfl))
        (pss_one (ps_if (pt_val (pe_callB (cr_any rfl) (by rfl) T.z_any (by decide +kernel) (pa_cons (pe_lc (own := [("place", 4)]) (g := gName 4) rfl sc_has_above.nd (pi_tup (pe_c Gfields_above (hr.mono (by decide)) pass0 (pa_cons (pv 0) (pa_cons (pv 3) pa_nil)))) (blkOk_by (own := [("place", 4)]) (N := ["forest", "upper", "lower", "field", "place"]) (sc := defScope s_has_above) (by decide +kernel)) (fun _ _ _ _ _ => pg_name (i := 4) sc_has_above.nd rfl (Or.inl rfl)) (fun _ _ _ _ _ => pts_nil) (fun _ _ _ _ _ => (pe_cmpR (op_inK K rfl) (pv 4) (pv 1) (by rfl)))) pa_nil)))
          (pss_one (ps_ret pe_bl))
          pss_nil)))
      (pss_one (ps_ret pe_bl))), ?_⟩
    let P1 : Int → Bool := fun x => (pathL ps x.toNat).dropLast.any fun p => inL U p
    refine sqf ⟨_, rfl, la, rfl, ⟨_, hl⟩, for_list (xs := vI L) (fun i σ H' => (∃ a b, σ = [some (.ref fo), some (.ref ua), some (.ref la), a, b]) ∧ Same H H' ∧ (L.take i).any P1 = false) ⟨⟨_, _, rfl⟩, Same.refl H, rfl⟩ (fun i σ H' _ h => Same.sl h.2.1 hl) ?_ ?_⟩
    · rintro i v σ H' hi ⟨⟨a, b, rfl⟩, S1, hpre⟩
      have hil : i < L.length := by
        have := (List.getElem?_eq_some_iff.mp hi).1
        rw [vI_len] at this; exact this
      rw [vI_at hil] at hi
      cases hi
      have hmem : rg L i ∈ L := by
        unfold rg
        rw [List.getD_eq_getElem?_getD, List.getElem?_eq_getElem hil]
        exact List.getElem_mem hil
      obtain ⟨v0, v1⟩ := vL _ hmem
      have hz : (((rg L i).toNat : Nat) : Int) = rg L i := Int.toNat_of_nonneg v0
      have htk : (L.take (i + 1)).any P1 = (P1 (rg L i)) := by
        rw [List.take_succ, List.any_append, hpre, Bool.false_or, List.getElem?_eq_getElem hil]
        unfold rg
        rw [List.getD_eq_getElem?_getD, List.getElem?_eq_getElem hil]
        simp
      refine gn ?_
      rw [← hz]
      refine if_use (P1 (rg L i)) (fun Q' q' => ?_) (fun e H4 S4 => ?_) (fun e H4 S4 => ?_)
      · refine ⟨_, rfl, _, rfl, fo, ps, ks, r, (rg L i).toNat, rfl, hfo.same S1, W, by omega, hn, fun H2 p S2 hp0 hp => ?_⟩
        refine ⟨p, rfl, ⟨_, SqT.of hp⟩, fun D hD => ?_⟩
        refine lc_tupP (fun _ => true) (fun j => .bl (inL U ((pathL ps (rg L i).toNat).dropLast.getD j 0))) (SqT.of hp) ?_ hD (fun x => rfl) (fun j x hj => fun H3 e3 Q3 q3 => q3 H3 (Evl.Ex.refl _)) (fun j x hj _ => fun H3 e3 Q3 q3 => ?_) (fun H3 S3 h3 => ?_)
        · rw [vN_len, List.length_dropLast]
          have := path_length ps (rg L i).toNat
          omega
        · have hjl : j < (pathL ps (rg L i).toNat).dropLast.length := by
            have := (List.getElem?_eq_some_iff.mp hj).1
            rw [vN_len] at this; exact this
          rw [vN_at (List.getElem?_eq_getElem hjl)] at hj
          cases hj
          refine ⟨_, rfl, _, rfl, ua, _, rfl, .inl (Same.sl (Same.trans (Same.trans S1 S2) e3) hu), rfl, flat_I U, ?_⟩
          rw [inV_N]
          have := q3 H3 (Evl.Ex.refl _)
          rw [List.getD_eq_getElem?_getD, List.getElem?_eq_getElem hjl] at this
          exact this
        · have eg := given_filter (pathL ps (rg L i).toNat).dropLast 0 (fun _ => true) (fun z => V.bl (inL U z))
          rw [filter_tt] at eg
          rw [vN_len] at h3
          rw [eg] at h3
          refine ⟨D, ((pathL ps (rg L i).toNat).dropLast.map fun z => inL U z), rfl, SqL.of ?_, _, rfl, ?_⟩
          · rw [h3, List.map_map]; rfl
          · rw [List.any_map]
            exact q' H3 (Same.trans S2 S3)
      · have hh : hasAbove ps U L = true := by
          unfold hasAbove
          have h1 : (L.take (i + 1)).any P1 = true := by rw [htk]; exact e
          obtain ⟨x, hx, hx2⟩ := List.any_eq_true.mp h1
          exact List.any_eq_true.mpr ⟨x, List.mem_of_mem_take hx, hx2⟩
        rw [hh] at k
        exact k H4 (Same.trans S1 S4)
      · exact ⟨⟨_, _, rfl⟩, Same.trans S1 S4, by rw [htk]; exact e⟩
    · rintro σ H' ⟨⟨a, b, rfl⟩, S1, hpre⟩
      rw [vI_len, List.take_length] at hpre
      have hh : hasAbove ps U L = false := hpre
      rw [hh] at k
      exact k H' S1

def spWith (K : PySem.W.Frag) : Sp := fun vs H Q _ => ∃ (ba ca : Addr) (b : List Int) (cs : List (Nat × Int)), vs = [.ref ba, .ref ca] ∧ SqT K H ba (vI b) ∧ H ca = some (.dK (vD cs)) ∧ b.length ≤ 16 ∧
  ∀ H' p, Same H H' → H p = none → H' p = some (.tup (vI (newR b cs))) → Q (.ref p) H'
theorem ok_with : Ok1 P w K mg base CX0 1 "with_values" ["base", "changes"] (spWith K) := by
  refine T.d_with_values.ok sc_with_values (fun vs H Q E h => ?_) (fun f cdv A outer s H vs Q E hr h => ?_)
  · obtain ⟨ba, ca, b, cs, rfl, _⟩ := h; rfl
  · obtain ⟨ba, ca, b, cs, rfl, hb, hc, hn, k⟩ := h
    refine ⟨_, (pss_one (ps_ret (pe_callTy call_tuple_of (by rfl) T.z_tuple (by decide +kernel) (pa_cons (pe_lc (own := [("field", 2)]) (g := gName 2) rfl sc_with_values.nd (pi_range1 (by rfl) T.z_range (pa_cons (pe_callB call_len_seq (by rfl) T.z_len (by decide +kernel) (pa_cons (pv 0) pa_nil)) pa_nil)) (blkOk_by (own := [("field", 2)]) (N := ["base", "changes", "field"]) (sc := defScope s_with_values) (by decide +kernel)) (fun _ _ _ _ _ => pg_name (i := 2) sc_with_values.nd rfl (Or.inl rfl)) (fun _ _ _ _ _ => pts_nil) (fun _ _ _ _ _ => (pe_dget2 (hu_of hr) (pv 1) (pv 2) (pe_ix (ix_tupK K rfl) (pv 0) (pv 2) (fun _ _ => rfl)) ⟨rfl, rfl, rfl, rfl⟩))) pa_nil)))), ?_⟩
    refine ⟨_, rfl, _, _, rfl, .inr hb, _, rfl, by rw [vI_len]; omega, by rw [vI_len]; omega, fun D hD => ?_⟩
    refine lc_rgP b.length (by rw [vI_len]) (fun _ => true) (fun j => .int ((cs.lookup j).getD (rg b j))) (by omega) hD (fun x => rfl) (fun j hj => fun H3 e3 Q3 q3 => q3 H3 (Evl.Ex.refl _)) (fun j hj _ => fun H3 e3 Q3 q3 => ?_) (fun H3 S3 h3 => ?_)
    · refine ⟨_, rfl, ca, rfl, .inl ⟨_, .inl (e3 _ _ hc)⟩, _, rfl, _, rfl, _, rfl, _, _, _, _, rfl, rfl, Same.st e3 hb, atN (vI_at hj), _, dget H3 ca cs j (.inl (e3 _ _ hc)), ?_⟩
      have := q3 H3 (Evl.Ex.refl _)
      cases e : cs.lookup j with
      | none => rw [e] at this; exact this
      | some z => rw [e] at this; exact this
    · refine ⟨D, _, rfl, .inl ⟨SqL.of h3, fun p hp => k _ p (Same.trans S3 (Same.new hp)) (Same.free S3 hp) ?_⟩⟩
      rw [upd_same]
      unfold Evl.given newR vI
      rw [filter_tt, List.map_map]
      rfl
end
end Fr

/-! # FrExc -/
/-! ## an error class of the program: its __init__ says super().__init__(text) and keeps one field -/
namespace PySem
namespace FrX
open PySem.W PySem.Calls PyProof.Rows PySem.HandSPX
def iA (n : Str) (p1 p2 : Pos) : Arguments := { posonlyargs := [], args := [{ arg := "self", annotation := none, pos := p1 }, { arg := n, annotation := none, pos := p2 }], vararg := none, kwonlyargs := [], kw_defaults := [], kwarg := none, defaults := [] }
def iB (n : Str) (msg : Str) (q1 q2 q3 q4 q5 q6 q7 q8 q9 q0 : Pos) : List Stmt :=
  [.Expr (.Call (.Attribute (.Call (.Name "super" q1) [] [] q2) "__init__" q3) [.Constant (.str msg) 0 q4] [] q5) q6, .Assign [.Attribute (.Name "self" q7) n q8] (.Name n q9) q0]
def iS (n : Str) : Scope := { kind := .function, names := [(PySem.Str.ofString "self", .local), (n, .local), (PySem.Str.ofString "__class__", .free), (PySem.Str.ofString "super", .globalImplicit)], isGenerator := false, isCoroutine := false, more := [] }
/-- what the written part says of the class at C and of its __init__ at fI; the field is n -/
structure ErC (P : Program) (K : Frag) (mg : Str → Option Value) (x n : Str) (C D : Addr) : Prop where
  gC : mg x = some (.ref C)
  mS : mg "super" = none
  cls : ∃ nm q N bs sn sub ab col dd k0 k1 k2 k3 k5, K.lookup C = some (excClassObj nm q C N bs (.ref D :: veTail) true sn sub ab col dd k0 k1 k2 k3 k5 "ValueError.__new__")
  sa : findIn K (.ref C) "__setattr__" = some (some (.builtin "object.__setattr__"))
  ga : findIn K (.ref C) "__getattribute__" = some (some (.builtin "BaseException.__getattribute__"))
  gg : findIn K (.ref C) "__getattr__" = some none
  noN : findIn K (.ref C) n = some none
  kC : keepIn K (.ref C) = true
  exC : subIn K (.ref C) (.type "BaseException") = some true
  veC : subIn K (.ref C) (.type "ValueError") = some true
  tyC : typeIn K (.ref C) = some (.type "type")
  hdC : hasDictIn K C = true
  slf : mroIn K C (.ref C) = some true
  thd : nsIn K cStatics "thirdparty.any" = some none
  sup : ks_superIn K C C "__init__" = some (some (.builtin "ValueError.__init__"))
  tpS : (P.main.scope.names.lookup ("super" : Str)).isSome = false
  fn : ∃ (fI : Addr) (qual msg : Str) (oc kV : Value) (od : Option Addr) (doc pm : Value) (an : Option Addr) (cda cc : Addr) (ct : Value) (osl : Array (Option Value)) (pl : Sem Bool) (p1 p2 q1 q2 q3 q4 q5 q6 q7 q8 q9 q0 : Pos)
      (ccl : Value) (cdd : Option Addr) (vs : Array Value) (ccs : Array (Option Value)) (cl : Value) (cld : Option Addr) (csl : Array (Option Value)) (file : Str) (tf : Tok),
    findIn K (.ref C) "__init__" = some (some (.ref fI)) ∧ typeIn K (.ref fI) = some (.type "function") ∧
    K.lookup fI = some ⟨oc, od, .func (ksFn "__init__" qual (iA n p1 p2) (iB n msg q1 q2 q3 q4 q5 q6 q7 q8 q9 q0) (iS n) .none kV doc pm an (.ref cda) ct cc), osl⟩ ∧ codeIn K (.ref cda) qual = true ∧
    K.lookup cda = some ⟨ccl, cdd, .fields vs, ccs⟩ ∧ vs[2]? = some (.str file tf) ∧ ((P.main.file : Str) == file) = true ∧
    K.lookup cc = some ⟨cl, cld, .cell (some (.ref C)), csl⟩ ∧
    (∀ y ∈ (iS n).names, y.2 ≠ .cell) ∧ (iS n).names.lookup n = some .local ∧ (n == ("self" : Str)) = false ∧ (n == ("__debug__" : Str)) = false ∧ n ≠ "self" ∧
    (iS n).names.lookup ("super" : Str) = some .globalImplicit ∧ (iS n).names.lookup ("__class__" : Str) = some .free ∧ (iS n).names.lookup ("self" : Str) = some .local ∧
    (∀ a b : Value, bindArgs (ksFn "__init__" qual (iA n p1 p2) (iB n msg q1 q2 q3 q4 q5 q6 q7 q8 q9 q0) (iS n) .none kV doc pm an (.ref cda) ct cc) ⟨[a, b], []⟩ = pure [((PySem.Str.ofString "self" : Str), a), (n, b)]) ∧
    (∀ L : Addr, eval (.Call (.Attribute (.Call (.Name "super" q1) [] [] q2) "__init__" q3) [.Constant (.str msg) 0 q4] [] q5) (ksEnv qual (iS n) L fI (.ref cda) cc) = (do
      let ov ← attributeBase (.Call (.Name "super" q1) [] [] q2) "__init__" (ksEnv qual (iS n) L fI (.ref cda) cc) (eval (.Call (.Name "super" q1) [] [] q2) (ksEnv qual (iS n) L fI (.ref cda) cc))
      standAt q3.atName
      let (f, first) ← holding [ov] (getMethod ov "__init__" pl)
      callWith q5 f first (backTo q5 (starEach [.Constant (.str msg) 0 q4] (ksEnv qual (iS n) L fI (.ref cda) cc))) []))

theorem typ_init : typeOf (.builtin "ValueError.__init__") = pure (.type "wrapper_descriptor") := kxs_ValueError.typ
section
variable {prog : Program} {w : World} {A : Around} {E : Value → Shared → Prop} {h : Heap} {g : Array GenState} {d : Drawn} {t : Nat} {os : OsState}
variable {nm q : Str} {C N : Addr} {bs bm : List Value} {hdct : Bool} {sn : List Str} {sub : List Value} {ab : Bool} {col : Option Bool} {dd : Option Addr} {k0 k1 k2 k3 k5 : Option Value}
theorem call_bw {u e t0 : Addr} {rest : List Value} {Q : Value → Shared → Prop}
    (hC : h.get? C = some (excClassObj nm q C N bs bm hdct sn sub ab col dd k0 k1 k2 k3 k5 "ValueError.__new__")) (he : h.get? e = some (HandSPX.excO C t0)) (hu : h.get? u = some (kxs_mw "ValueError.__init__" e)) (hrest : rest.length ≤ sizeLine)
    (hq : ∀ h' t1, (∀ b o, b ≠ e → h.get? b = some o → h'.get? b = some o) → h'.get? e = some (HandSPX.excO C t1) → Q .none ⟨h', g, d, t, os⟩) :
    wpAny (model prog w) A (call (.ref u) rest) Q E ⟨h, g, d, t, os⟩ := by
  refine wpAny_call (codeAny_of_tree ?_)
  show wpAny _ A.in1 (callAny (.ref u) ⟨rest, []⟩) _ _ _
  simp only [callAny]
  refine wpAny_bind (wpAny_load hu ?_)
  simp only [kxs_mw, show (Value.type "method-wrapper" == Value.type "method" || Value.type "method-wrapper" == Value.type "builtin_function_or_method" || Value.type "method-wrapper" == Value.type "method-wrapper") = true by decide, if_true]
  refine W.KFB.if_so (by decide) ?_
  refine wpAny_bind (check_bound_init F.excBase_ValueError.toExcCallFacts hC he rfl ?_)
  refine wpAny_bind (wpAny_pure (wpAny_pure ?_))
  refine ⟨Code.quiet_builtin _ (by decide +kernel), codeAny_builtin F.excBase_ValueError.initEntry ?_⟩
  rw [Around.under_plainId F.excBase_ValueError.init.plain _]
  wp_walk
  refine hq _ h.objs.size (fun b o hb ho => ?_) ?_
  · rw [Heap.get?_update_other _ _ (Ne.symm hb)]
    exact Heap.get?_push_of_some _ ho
  · rw [Heap.get?_update_self _ (Heap.get?_push_of_some _ he) rfl]
    rfl
end
theorem cw1 {prog : Program} {w : World} {A : Around} {E : Value → Shared → Prop} {s : Shared} {i : String} {u x : Addr} {pos : Pos} {env : Env} {e : Expr} {rest : List Expr} {Q : Value → Shared → Prop}
    (h : wpAny (model prog w) A (spliced (backTo pos (starEach (e :: rest) env))) (fun vs s₁ => KxsAt i u x s₁.heap ∧ wpAny (model prog w) A (call (.ref u) vs) Q E s₁) E s)
    (he : starEach (e :: rest) env = (false, eval e env) :: starEach rest env := by rfl) (hplain : (backTo pos (starEach rest env)).any (·.1) = false := by rfl) :
    wpAny (model prog w) A (callWith pos (.ref u) [] (backTo pos (starEach (e :: rest) env)) []) Q E s := by
  rw [he] at h ⊢
  refine kxs_callWith (i := i) (x := x) (by show (false || (backTo pos (starEach rest env)).any (·.1)) = false; rw [hplain]; rfl) ?_
  exact evalArgs_plain h
theorem kept_but {K : Frag} {h h' : Heap} {x : Addr} (X : K.In h) (hx : K.lookup x = none) (k : ∀ b o, b ≠ x → h.get? b = some o → h'.get? b = some o) : K.In h' := fun a o e =>
  k a o (fun z => by rw [z, hx] at e; cases e) (X a o e)
/-- what __init__ leaves of a fresh exception at x -/
structure InitEnd (h h' : Heap) (x C dx : Addr) (n : Str) (v : Value) : Prop where
  keep : ∀ b o, b ≠ x → h.get? b = some o → h'.get? b = some o
  obj : ∃ t1 : Addr, h'.get? x = some { cls := .ref C, dict := some dx, data := .fields #[.ref t1, .none, .none, .none, .bool false, .none] }
  dbig : h.objs.size ≤ dx
  dne : dx ≠ x
  ns : h'.Ns1 dx (fun y => if y = n then some v else none)
section
variable {prog : Program} {w : World} {A : Around} {E : Value → Shared → Prop} {R : Result → Shared → Prop} {s : Shared} {K : Frag} {mg mb : Str → Option Value} {x n : Str} {C D : Addr}
theorem er_init (T : ErC prog K mg x n C D) {fI : Addr} (hfi : findIn K (.ref C) "__init__" = some (some (.ref fI))) {e t0 : Addr} {v : Value} (X : K.In s.heap) (G : s.heap.Ns mainGlobals mg) (B : s.heap.Ns builtinsNs mb) (hb : mb "super" = some (.type "super")) (hlim : s.heap.NoLimit)
    (hx : s.heap.get? e = some (excO C t0)) (hnx : K.lookup e = none) (hroom : A.depth < recursionLimit)
    (hq : ∀ h' tk dx, InitEnd s.heap h' e C dx n v → R (.ok (.ret .none)) { s with heap := h', toks := tk }) :
    codeAny (model prog w) A (.call (.ref fI) ⟨[.ref e, v], []⟩) R s := by
  obtain ⟨fI', qual, msg, oc, kV, od, doc, pm, an, cda, cc, ct, osl, pl, p1, p2, q1, q2, q3, q4, q5, q6, q7, q8, q9, q0, ccl, cdd, vs, ccs, cl, cld, csl, file, tf, hfi', htf, ho, hcd, hcode, hvs, hfile, hcell, nc, ln, n1, n2, n3, ls, lc, l0, hbnd, htree⟩ := T.fn
  rw [hfi] at hfi'
  cases hfi'
  obtain ⟨nm, q, N, bs, sn, sub, ab, col, dd, k0, k1, k2, k3, k5, hC⟩ := T.cls
  have hcl : clsIn K C = some { name := nm, bases := bs, mro := .ref C :: .ref D :: veTail, ns := N, qualname := q, hasDict := true, slotNames := sn, subclasses := sub, abstract := ab, collection := col, hasDel := false } := by unfold clsIn; rw [hC] <;> rfl
  refine ks_codeAny_call_defAt (fd := ksFn "__init__" qual (iA n p1 p2) (iB n msg q1 q2 q3 q4 q5 q6 q7 q8 q9 q0) (iS n) .none kV doc pm an (.ref cda) ct cc) (body := iB n msg q1 q2 q3 q4 q5 q6 q7 q8 q9 q0) (binds := [("self", .ref e), (n, v)])
    hroom (X _ _ ho) rfl hlim (codeRec_of X hcd) rfl (BindsTo.of_eq (hbnd _ _)) nc (fun y hy => ?_) (fun h1 hns hk => ?_) rfl rfl rfl
  · rcases List.mem_cons.mp hy with rfl | hy
    · exact l0
    · rw [List.mem_singleton.mp hy]; exact ln
  have X1 : K.In h1 := X.keeps hk
  have G1 := G.keeps hk
  have B1 := B.keeps hk
  have hx1 := hk _ _ hx
  obtain ⟨hp, g, dr, tk, os⟩ := s
  have I1 : W.InstAt h1 e (excO C t0) C none := ⟨hx1, rfl, rfl, trivial⟩
  -- super().__init__(msg)
  show _root_.PySem.wpAt (model prog w) (A.deeper (ksEnv qual (iS n) hp.objs.size fI (.ref cda) cc)) (.func (iB n msg q1 q2 q3 q4 q5 q6 q7 q8 q9 q0) (ksEnv qual (iS n) hp.objs.size fI (.ref cda) cc)) (execs (iB n msg q1 q2 q3 q4 q5 q6 q7 q8 q9 q0) (ksEnv qual (iS n) hp.objs.size fI (.ref cda) cc)) _ _ _
  generalize hL : hp.objs.size = L
  have hns : h1.Ns L (fun x => List.lookup x [((PySem.Str.ofString "self" : Str), Value.ref e), (n, v)].reverse) := by rw [← hL]; exact hns
  refine ks_wpAt_execs_cons (ks_wpAt_Expr_any (ks_wpAt_MethodCall (pl := pl) ?_ (htree L)) rfl (by rfl))
  have hv : (fun x => List.lookup x [((PySem.Str.ofString "self" : Str), Value.ref e), (n, v)].reverse) (PySem.Str.ofString "self") = some (.ref e) := by
    show List.lookup (PySem.Str.ofString "self") [(n, v), (PySem.Str.ofString "self", Value.ref e)] = some (Value.ref e)
    have n1' : (PySem.Str.ofString "self" == n) = false := by simpa using fun z : PySem.Str.ofString "self" = n => n3 z.symm
    simp [List.lookup, n1']
  have hCo : h1.get? C = some _ := X1 _ _ hC
  refine ks_wpAt_super_base (env := ksEnv qual (iS n) L fI (.ref cda) cc) ls lc (by decide) rfl (X1 _ _ ho) rfl rfl rfl (X1 _ _ hcode) rfl hvs hfile T.tpS ?_
  refine ks_loadName_global rfl ls (loadGlobal_builtin (env := ksEnv qual (iS n) L fI (.ref cda) cc) G1 T.mS B1 hb ⟨rfl, ?_⟩)
  refine wpAny_loadName_free rfl lc rfl ⟨_, X1 _ _ hcell, rfl⟩ ?_
  refine wpAny_loadName_local rfl l0 hns hv ?_
  refine ks_wpAny_isType_cls hCo rfl ⟨rfl, ?_⟩
  refine ks_wpAny_call_super hCo rfl hx1 rfl (fun c z => by cases z) (looks_mroIn X1 T.slf) (fun h2 hso k2 => ?_)
  have X2 : K.In h2 := X1.keeps k2
  have hx2 := k2 _ _ hx1
  have I2 : W.InstAt h2 e (excO C t0) C none := ⟨hx2, rfl, rfl, trivial⟩
  have hs := T.sup
  unfold ks_superIn at hs
  rw [hcl] at hs
  refine kxs_getMethod kxs_ValueError hso (looks_opaque X2 T.thd) (fun A Q E s k q => wpAny_bind ((looks_clsIn X2 hcl) A _ E s k (wpAny_pure q))) rfl X2 hs (I2.type.andThen (looks_subIn X2 T.veC)) (ks_ne X2 I2 hcl) (by decide) ?_
  have k3 : ∀ b o, h2.get? b = some o → (h2.push (kxs_mw "ValueError.__init__" e)).get? b = some o := fun b o z => Heap.get?_push_of_some _ z
  have hu3 : (h2.push (kxs_mw "ValueError.__init__" e)).get? h2.objs.size = some (kxs_mw "ValueError.__init__" e) := Heap.get?_push_size h2 rfl
  refine cw1 (i := "ValueError.__init__") (x := e) (spliced_cons (Constant_str (pos := q4) (k := 0) (spliced_nil ⟨hu3, ?_⟩)))
  refine call_bw (k3 _ _ (k2 _ _ hCo)) (k3 _ _ hx2) hu3 (by rw [sizeLine_eq]; exact (by decide : 1 ≤ 16777216)) (fun h4 t4 k4 hx4 => ?_)
  -- self.n = n
  have k4' : ∀ b o, b ≠ e → h1.get? b = some o → h4.get? b = some o := fun b o hb ho => k4 b o hb (k3 _ _ (k2 _ _ ho))
  have X4 : K.In h4 := kept_but X2 hnx (fun b o hb ho => k4 b o hb (k3 _ _ ho))
  have nL : L ≠ e := by rw [← hL]; exact Nat.ne_of_gt (Heap.lt_size hx)
  have hns4 : h4.Ns L (fun x => List.lookup x [((PySem.Str.ofString "self" : Str), Value.ref e), (n, v)].reverse) :=
    hns.at (fun o q => k4' _ _ nL q)
  have hvn : (fun x => List.lookup x [((PySem.Str.ofString "self" : Str), Value.ref e), (n, v)].reverse) n = some v := by
    show List.lookup n [(n, v), (PySem.Str.ofString "self", Value.ref e)] = some v
    simp [List.lookup]
  dsimp only
  refine ks_wpAt_execs_cons (wpAt_of_wpAny (plainObj_wpAny_Assign_Attribute ?_))
  refine wpAny_Name (wpAny_loadName_local rfl ln hns4 hvn ?_) n2
  refine wpAny_Name (wpAny_loadName_local rfl l0 hns4 hv ?_) (by decide)
  refine set_plain X4 (ox := excO C t4) (od := none) ⟨hx4, rfl, rfl, trivial⟩ T.sa ?_
  refine exc_osa X4 hx4 hcl (by rfl) rfl T.noN (fun h5 tk5 dx k5 dn dne hx5 hn5 => ?_)
  dsimp only
  have hsz : hp.objs.size < h4.objs.size := by rw [hL]; exact hns4.lt
  refine wpAt_of_wpAny (wpAny_execs_nil (hq h5 tk5 dx ⟨fun b o hb z => k5 b o hb (k4' b o hb (hk b o z)), ⟨t4, hx5⟩, Nat.le_of_lt (Nat.lt_of_lt_of_le hsz dn), dne, hn5⟩))
/-- a made exception with one field -/
structure ErMade (h h' : Heap) (e C d : Addr) (n : Str) (v : Value) : Prop where
  keep : ∀ b o, h.get? b = some o → h'.get? b = some o
  new : h.objs.size ≤ e
  obj : ∃ oe vs, h'.get? e = some oe ∧ oe.cls = .ref C ∧ oe.dict = some d ∧ oe.data = .fields vs ∧ vs[1]? = some .none
  dbig : h.objs.size ≤ d
  dne : d ≠ e
  ns : h'.Ns1 d (fun y => if y = n then some v else none)
theorem one_size (v : Value) : [v].length ≤ sizeLine := by
  rw [sizeLine_eq]
  exact (by decide : 1 ≤ 16777216)
theorem er_made (T : ErC prog K mg x n C D) {v : Value} (X : K.In s.heap) (G : s.heap.Ns mainGlobals mg) (B : s.heap.Ns builtinsNs mb) (hb : mb "super" = some (.type "super")) (hlim : s.heap.NoLimit) (hroom : A.depth + 1 < recursionLimit)
    (hq : ∀ h' tk e d, ErMade s.heap h' e C d n v → R (.ok (.ret (.ref e))) { s with heap := h', toks := tk }) :
    codeAny (model prog w) A (.call (.ref C) ⟨[v], []⟩) R s := by
  obtain ⟨nm, q, N, bs, sn, sub, ab, col, dd, k0, k1, k2, k3, k5, hC⟩ := T.cls
  obtain ⟨fI, qual, msg, oc, kV, od, doc, pm, an, cda, cc, ct, osl, pl, p1, p2, q1, q2, q3, q4, q5, q6, q7, q8, q9, q0, ccl, cdd, vs, ccs, cl, cld, csl, file, tf, hfi, htf, -⟩ := T.fn
  obtain ⟨hp, g, dr, tk, os⟩ := s
  have k : ∀ b o, hp.get? b = some o → ((hp.push (kdv_tup [v])).push (excO C hp.objs.size)).get? b = some o := fun b o e => Heap.get?_push_of_some _ (Heap.get?_push_of_some _ e)
  have hget : ((hp.push (kdv_tup [v])).push (excO C hp.objs.size)).get? (hp.objs.size + 1) = some (excO C hp.objs.size) := by heap_get
  have hnx : K.lookup (hp.objs.size + 1) = none := by
    cases e : K.lookup (hp.objs.size + 1) with
    | none => rfl
    | some o =>
      have z : hp.get? (hp.objs.size + 1) = some o := X _ _ e
      exact absurd (Nat.lt_of_succ_lt (Heap.lt_size z)) (Nat.lt_irrefl _)
  refine call_own F.excBase_ValueError (fun X => refsVE_contains X _ (by rfl)) (X _ _ hC) (looks_findIn X hfi) (fun self => bind_fn X self htf) (one_size v) ?_
  refine er_init (s := ⟨(hp.push (kdv_tup [v])).push (excO C hp.objs.size), g, dr, tk, os⟩) T hfi (X.keeps k) (G.keeps k) (B.keeps k) hb (hlim.keeps k) hget hnx ?_ fun h' tk' dx ⟨k', ⟨t1, hx⟩, dn, dne, hns⟩ => ?_
  · show A.depth + 1 < recursionLimit
    exact hroom
  · have old : ∀ b o, hp.get? b = some o → h'.get? b = some o := fun b o e => k' b o (Nat.ne_of_lt (Nat.lt_succ_of_lt (Heap.lt_size e))) (k b o e)
    have z : hp.objs.size + 1 + 1 ≤ dx := by
      first
        | (simpa only [Heap.size_push] using dn)
        | exact dn
        | (have q := dn; rw [Heap.size_push, Heap.size_push] at q; exact q)
    exact ⟨rfl, hq h' tk' (hp.objs.size + 1) dx ⟨old, Nat.le_succ _, ⟨_, _, hx, rfl, rfl, rfl, rfl⟩, Nat.le_trans (Nat.le_trans (Nat.le_succ _) (Nat.le_succ _)) z, dne, hns⟩⟩
end
end FrX
end PySem
namespace Fr
open PySem PySem.Spec PyProof.Rows L2 FR
open PySem.FrX (ErC)
theorem relO_er {n : Str} {v : V} {v' : Value} (r : RelV v v') (f : Str) : RelO (List.lookup f [(n, v)]) (if f = n then some v' else none) := by
  by_cases hw : f = n
  · subst hw
    rw [if_pos rfl]
    have q : List.lookup f [(f, v)] = some v := by simp [List.lookup]
    rw [q]
    exact r
  · rw [if_neg hw]
    have qw : (f == n) = false := by simpa using hw
    have q2 : List.lookup f [(n, v)] = none := by simp [List.lookup, qw]
    rw [q2]
    trivial
section
variable {X : Cx} {x n : Str} {C D : Addr}
/-- C(e) -/
def tMkEr (C : Addr) (n : Str) (ta : TA) : L2.St → Hp → XK → Prop := fun σ H Q => ta σ H fun vs H1 => ∃ v, vs = [v] ∧ ∀ d, H1 d = none → Q (.ref C) (some d) (upd H1 d (.xd [(n, v)]))
theorem pmk_er {a : Expr} {ta : TA} {p pos : Pos} {k : Nat} (T : ErC X.prog X.K X.mg x n C D) (hr : Room k X.A) (ha : PA X [a] ta) (hg : Gl X x := by rfl) (hdb : (x == ("__debug__" : Str)) = false := by decide)
    (he : starEach (a :: []) X.env = (false, eval a X.env) :: starEach [] X.env := by rfl) (hpl : (backTo pos (starEach [] X.env)).any (·.1) = false := by rfl) :
    PMk X (.Call (.Name x p) [a] [] pos) (tMkEr C n ta) := by
  intro pins s σ H Q I h
  refine wpAny_Call_Name_kw (ld_glob I hg T.gC ?_ hdb)
  refine PySem.W.callWith_K (h₀ := X.base) I.ok.mod.kin T.kC (thn (ha.run pos pins s σ H _ I h) fun us s1 hh => ?_) he hpl
  obtain ⟨vs, H1, I1, r1, v, ev, q1⟩ := hh
  subst ev
  refine ⟨I1.kIn, ?_⟩
  cases r1 with
  | cons rv rn =>
    rename_i v' us'
    cases rn
    show wpAny _ _ (call (.ref C) [v']) _ _ _
    have hlim := I1.nolimit
    obtain ⟨mb, h1, h2⟩ := I1.mod.blt
    have hG := I1.mod.glob.keeps I1.bk
    have hB := h1.keeps I1.bk
    have hsu : mb "super" = some (.type "super") := (h2 "super" (by decide)).trans (by decide +kernel)
    obtain ⟨hp, g, dr, tk, os⟩ := s1
    refine wpAny_call (PySem.FrX.er_made T I1.kIn hG hB hsu hlim (by have := hr.dp; omega) fun h' tk' e d M => ?_)
    show MkP X pins σ Q (.ref e) ⟨h', g, dr, tk', os⟩
    obtain ⟨oe, fv, hoe, hc, hd, hdat, h1⟩ := M.obj
    have hns := M.ns
    obtain ⟨G', g1, g2⟩ := restrict h' fun b => decide (b ≠ e)
    have gk : ∀ b, b ≠ e → G'.get? b = h'.get? b := fun b hb => g1 b (decide_eq_true hb)
    have ge : G'.get? e = none := g2 e (by simp)
    have old : ∀ b o, hp.get? b = some o → G'.get? b = some o := fun b o q => (gk b (Nat.ne_of_lt (Nat.lt_of_lt_of_le (Heap.lt_size q) M.new))).trans (M.keep b o q)
    have ob : ObjOk X.prog X.w (upd H1 d (.xd [(n, v)])) G' d (.xd [(n, v)]) :=
      ⟨_, hns.at (fun o q => (gk d M.dne).trans q), fun f => relO_er rv f⟩
    have J : Inv X pins σ (upd H1 d (.xd [(n, v)])) ⟨G', g, dr, tk', os⟩ := I1.laid (t' := tk') old M.dbig ob
    refine ⟨e, oe, fv, ⟨G', g, dr, tk', os⟩, _, .ref C, some d, rfl, J, fun b o q => ?_, ge, hoe, ⟨hc, hd⟩, hdat, h1, ?_, rfl, I1.bare, raises_own T.exC T.tyC, q1 d (I1.hok.fresh M.dbig)⟩
    · by_cases hb : b = e
      · have q' : G'.get? b = some o := q
        rw [hb, ge] at q'; cases q'
      · exact (gk b hb).symm.trans q
    · rw [upd_ne (Ne.symm M.dne)]
      exact I1.hok.fresh M.new
/-- raise C(e) -/
def tRaiseEr (C : Addr) (n : Str) (E : XK) (ta : TA) : TS := fun _ σ H => tMkEr C n ta σ H fun cls d H' => E cls d H'
end
section
variable {P : Program} {w : World} {K : PySem.W.Frag} {mg : Str → Option Value} {base : Heap} {N : List Str} {qual : Str} {sc : Scope} {f : Addr} {cd : Value} {A : Around} {outer : List Env} {s : Shared} {H : Hp} {E : XK} {x n : Str} {C D : Addr}
theorem ps_raiseEr {a : Expr} {ta : TA} {p pos pos2 : Pos} {k : Nat} (T : ErC P K mg x n C D) (hr : Room k (A.deeper (envOfC qual sc s.heap.objs.size f cd)))
    (ha : PA (cxOf (L2.CX P w) P w K mg base N qual sc f cd A outer s H E) [a] ta) (hg : Gl (cxOf (L2.CX P w) P w K mg base N qual sc f cd A outer s H E) x := by rfl) (hdb : (x == ("__debug__" : Str)) = false := by decide)
    (he : starEach (a :: []) (cxOf (L2.CX P w) P w K mg base N qual sc f cd A outer s H E).env = (false, eval a (cxOf (L2.CX P w) P w K mg base N qual sc f cd A outer s H E).env) :: starEach [] (cxOf (L2.CX P w) P w K mg base N qual sc f cd A outer s H E).env := by rfl)
    (hpl : (backTo pos (starEach [] (cxOf (L2.CX P w) P w K mg base N qual sc f cd A outer s H E).env)).any (·.1) = false := by rfl) :
    PS (cxOf (L2.CX P w) P w K mg base N qual sc f cd A outer s H E) (.Raise (some (.Call (.Name x p) [a] [] pos)) none pos2) (tRaiseEr C n E ta) :=
  ps_raise (W := fun c d _ H' => E c d H') rfl (takes_of rfl rfl rfl rfl) (pmk_er T hr ha hg hdb he hpl)
end
/-! ## isinstance of the exception that the suite holds, whatever its class -/
def rIsX (K : PySem.W.Frag) (cls : Value) (d : Option Addr) (a : Addr) : List V → Hp → VK → Prop := fun xs H Q => ∃ (c : V) (cv : Value) (b : Bool) (D dd : Addr) (fs : List (Str × V)),
  xs = [.ref a, c] ∧ ClsV c cv ∧ cls = .ref D ∧ d = some dd ∧ H dd = some (.xd fs) ∧ ExcC K D ∧ PySem.W.kitOne K (.ref D) cv = some b ∧ Q (.bl b) H
def rIsXT (K : PySem.W.Frag) (cls : Value) (d : Option Addr) (a : Addr) : List V → Hp → VK → Prop := fun xs H Q => ∃ (tp : Addr) (cs : List V) (us : List Value) (b : Bool) (D dd : Addr) (fs : List (Str × V)),
  xs = [.ref a, .ref tp] ∧ H tp = some (.tup cs) ∧ Paired ClsV cs us ∧ cls = .ref D ∧ d = some dd ∧ H dd = some (.xd fs) ∧ ExcC K D ∧ PySem.W.kitAny K (.ref D) us = some b ∧ Q (.bl b) H
section
variable {X : Cx} {a : Addr} {cls : Value} {d : Option Addr} {oe : Obj} {pn : List (Addr × Obj)}
theorem held_inst {D dd : Addr} {fs : List (Str × V)} {pins : List (Addr × Obj)} {s : Shared} {σ : L2.St} {H : Hp} (I : Inv (X.suite a ((a, oe) :: pn)) pins σ H s) (hz : Zc (.ref D) (some dd) oe) (hf : ∃ vs, oe.data = .fields vs) (ea : H dd = some (.xd fs)) :
    ∃ od, PySem.W.InstAt s.heap a oe D (some od) := by
  obtain ⟨ha, _⟩ := I.pin (a, oe) (List.mem_append_left _ List.mem_cons_self)
  obtain ⟨vs, hd⟩ := hf
  have hx : ObjOk X.prog X.w H s.heap dd (.xd fs) := I.hok dd _ ea
  obtain ⟨mA, hns, hr⟩ := hx
  obtain ⟨od, ho, hl⟩ := lookIn_ns hns
  exact ⟨od, ha, hz.1, by unfold PySem.W.notCls; rw [hd] <;> rfl, by rw [hz.2]; exact ho⟩
theorem ExcC.cl {K : PySem.W.Frag} {D : Addr} (h : ExcC K D) : (PySem.W.clsIn K D).isSome = true := by
  obtain ⟨cd, hc, _⟩ := PySem.W.any_some h.hd
  rw [hc]; rfl
theorem call_isX (hz : Zc cls d oe) (hf : ∃ vs, oe.data = .fields vs) : CallR (X.suite a ((a, oe) :: pn)) (.builtin "isinstance") (rIsX X.K cls d a) := by
  intro pins s σ H xs us Q I r h
  obtain ⟨c, cv, b, D, dd, fs, rfl, k, rfl, rfl, hx, C, e, q⟩ := h
  obtain ⟨u1, u2, rfl, r1, r2⟩ := vals2 r
  cases (show u1 = Value.ref a from r1)
  have e2 := k.eq r2
  subst e2
  obtain ⟨od, J⟩ := held_inst I hz hf hx
  exact PySem.W.kia_one (PySem.W.kitx_exc (ExcC.cl C) C.hg C.hk C.hs C.ha C.hn C.ht C.hm) I.kIn J e (fun z => nomatch z) fun tk => ⟨.bl b, H, I.tok tk, rfl, q⟩
theorem call_isXT (hz : Zc cls d oe) (hf : ∃ vs, oe.data = .fields vs) : CallR (X.suite a ((a, oe) :: pn)) (.builtin "isinstance") (rIsXT X.K cls d a) := by
  intro pins s σ H xs us Q I r h
  obtain ⟨tp, cs, ws, b, D, dd, fs, rfl, hT, k, rfl, rfl, hx, C, e, q⟩ := h
  obtain ⟨u1, u2, rfl, r1, r2⟩ := vals2 r
  cases (show u1 = Value.ref a from r1)
  cases (show u2 = Value.ref tp from r2)
  obtain ⟨od, J⟩ := held_inst I hz hf hx
  obtain ⟨_, its, rv, o, h1, h2, n, h3⟩ := (show ObjOk X.prog X.w H s.heap tp (.tup cs) from I.hok tp _ hT)
  have e3 := ClsV.all k rv
  subst e3
  obtain ⟨oc, od', oda, osl⟩ := o
  simp only at h2 h3
  subst h2 h3
  exact PySem.W.kia_tup (PySem.W.kitx_exc (ExcC.cl C) C.hg C.hk C.hs C.ha C.hn C.ht C.hm) I.kIn J h1 e (fun z => nomatch z) fun tk => ⟨.bl b, H, I.tok tk, rfl, q⟩
end
end Fr

/-! # FrP4 -/
namespace Fr
open PySem PySem.Spec PyProof.Rows L2 FR
open PySem.FrX (ErC)
theorem qb {Q : Bool → Hp → Prop} {b c : Bool} {H : Hp} (h : Q b H) (e : c = b) : Q c H := by rw [e]; exact h
theorem qv {Q : V → Hp → Prop} {b c : V} {H : Hp} (h : Q b H) (e : c = b) : Q c H := by rw [e]; exact h
theorem notfair (k : Kd) : inV (.str (kS k)) [V.str "first", V.str "last"] = !fairK k := by cases k <;> decide +kernel
structure Ers (P : Program) (K : PySem.W.Frag) (mg : Str → Option Value) (c1 c2 c3 d1 d2 d3 : Addr) : Prop where
  nf : ErC P K mg "NotFair" "field" c1 d1
  ol : ErC P K mg "Overlap" "field" c2 d2
  bp : ErC P K mg "BadPlace" "place" c3 d3
theorem take_none {α : Type} {p : α → Bool} {l : List α} {i : Nat} {x : α} (hi : l[i]? = some x) (h : (l.take i).find? p = none) (hx : p x = false) : (l.take (i + 1)).find? p = none := by
  rw [List.take_succ, hi, List.find?_append, h]
  simp [hx]
theorem take_some {α : Type} {p : α → Bool} {l : List α} {i : Nat} {x : α} (hi : l[i]? = some x) (h : (l.take i).find? p = none) (hx : p x = true) : l.find? p = some x := by
  have e : l = l.take (i + 1) ++ l.drop (i + 1) := (List.take_append_drop _ _).symm
  rw [e, List.find?_append, List.take_succ, hi, List.find?_append, h]
  simp [hx]
section
variable {P : Program} {w : World} {K : PySem.W.Frag} {mg : Str → Option Value} {base : Heap} (T : Tx K mg) {C c1 c2 c3 d1 d2 d3 : Addr} (Fc : FoC K mg C) (R : Ers P K mg c1 c2 c3 d1 d2 d3)
include T
def spCr (K : PySem.W.Frag) : Sp := fun vs H Q _ => ∃ (ra : Addr) (xs : List V), vs = [.int (xs.length : Int), .ref ra] ∧ SqT K H ra xs ∧ ∀ H', Same H H' → Q .non H'
theorem ok_cr : Ok1 P w K mg base CX0 1 "check_record" ["fields", "record"] (spCr K) := by
  refine T.d_check_record.ok sc_check_record (fun vs H Q E h => ?_) (fun f cdv A outer s H vs Q E hr h => ?_)
  · obtain ⟨ra, xs, rfl, _⟩ := h; rfl
  · obtain ⟨ra, xs, rfl, h1, k⟩ := h
    refine ⟨_, (pss_one (ps_if (pt_cmpR op_ne (pe_callB call_len_seq (by rfl) T.z_len (by decide +kernel) (pa_cons (pv 1) pa_nil)) (pv 0) (nomark _))
      (pss_one ps_never)
      pss_nil)), ?_⟩
    refine if_use false (fun Q' q' => ?_) (fun e H2 S2 => by cases e) (fun e H2 S2 => snx (k _ S2))
    exact ⟨_, rfl, ra, xs, rfl, .inr h1, _, rfl, rfl, _, rfl, qb (q' H (Same.refl H)) (by simp)⟩
include R
def spPl (c3 : Addr) : Sp := fun vs H Q E => ∃ (n : Nat) (x : Int), vs = [.int (n : Int), .int x] ∧ (okP n x = true → ∀ H', Same H H' → Q .non H') ∧ (okP n x = false → ∀ H' d, Same H H' → H' d = some (.xd [("place", .int x)]) → E (.ref c3) (some d) H')
theorem ok_pl : Ok1 P w K mg base (L2.CX P w) 1 "check_place" ["fields", "place"] (spPl c3) := by
  refine T.d_check_place.okX sc_check_place (fun vs H Q E h => ?_) (fun f cdv A outer s H vs Q E hr h => ?_)
  · obtain ⟨n, x, rfl, _⟩ := h; rfl
  · obtain ⟨n, x, rfl, k1, k2⟩ := h
    refine ⟨_, (pss_one (ps_if (pt_not (pt_chain op_le op_lt pe_int (pv 1) (pv 0)))
      (pss_one (ps_raiseEr R.bp hr (pa_cons (pv 1) pa_nil)))
      pss_nil)), ?_⟩
    refine if_use (!okP n x) (fun Q' q' => ?_) (fun e H2 S2 => ?_) (fun e H2 S2 => snx (k1 (by simpa using e) _ S2))
    · refine ⟨_, rfl, _, _, rfl, rfl, _, rfl, ?_⟩
      unfold okP at q'
      have q2 := q' H (Same.refl H)
      by_cases h0 : (0 : Int) ≤ x
      · rw [decide_eq_true h0] at q2 ⊢
        exact ⟨_, rfl, _, _, rfl, rfl, _, rfl, qb q2 (by simp)⟩
      · rw [decide_eq_false h0] at q2 ⊢
        rw [if_neg (by decide)]
        exact ⟨_, rfl, q2⟩
    · refine ⟨_, rfl, _, rfl, fun d hd => k2 (by simpa using e) _ d (Same.trans S2 (Same.new hd)) ?_⟩
      rw [upd_same]
def spPls (c3 : Addr) (K : PySem.W.Frag) : Sp := fun vs H Q E => ∃ (n : Nat) (la : Addr) (L : List Int), vs = [.int (n : Int), .ref la] ∧ SqL K H la (vI L) ∧ (badp n L = none → ∀ H', Same H H' → Q .non H') ∧ (∀ x, badp n L = some x → ∀ H' d, Same H H' → H' d = some (.xd [("place", .int x)]) → E (.ref c3) (some d) H')
theorem ok_pls : Ok1 P w K mg base (L2.CX P w) 2 "check_places" ["fields", "places"] (spPls c3 K) := by
  have Gcheck_place : Ok1 P w K mg base (L2.CX P w) 1 "check_place" ["fields", "place"] (spPl c3) := ok_pl T R
  refine T.d_check_places.okX sc_check_places (fun vs H Q E h => ?_) (fun f cdv A outer s H vs Q E hr h => ?_)
  · obtain ⟨n, la, L, rfl, _⟩ := h; rfl
  · obtain ⟨n, la, L, rfl, hl, k1, k2⟩ := h
    refine ⟨_, (pss_one (ps_for (passes_of rfl) rfl (pi_list (pv 1)) (pg_name (i := 2) sc_check_places.nd rfl (Or.inl rfl))
      (pss_one (ps_expr (pe_c Gcheck_place (hr.mono (by decide)) passC (pa_cons (pv 0) (pa_cons (pv 2) pa_nil))))))), ?_⟩
    refine ⟨_, rfl, la, rfl, ⟨_, hl⟩, for_list (xs := vI L) (fun i σ H' => (∃ a, σ = [some (.int (n : Int)), some (.ref la), a]) ∧ Same H H' ∧ badp n (L.take i) = none) ⟨⟨_, rfl⟩, Same.refl H, rfl⟩ (fun i σ H' _ h => Same.sl h.2.1 hl) ?_ ?_⟩
    · rintro i v σ H' hi ⟨⟨a, rfl⟩, S1, hpre⟩
      have hil : i < L.length := by
        have := (List.getElem?_eq_some_iff.mp hi).1
        rw [vI_len] at this; exact this
      rw [vI_at hil] at hi
      cases hi
      have hx : L[i]? = some (rg L i) := by
        unfold rg
        rw [List.getD_eq_getElem?_getD, List.getElem?_eq_getElem hil]; rfl
      refine gn ?_
      refine ⟨_, rfl, _, rfl, n, rg L i, rfl, fun e H2 S2 => ⟨⟨_, rfl⟩, Same.trans S1 S2, take_none hx hpre (by rw [e]; rfl)⟩, fun e H2 d S2 hd => k2 _ (take_some hx hpre (by rw [e]; rfl)) H2 d (Same.trans S1 S2) hd⟩
    · rintro σ H' ⟨_, S1, hpre⟩
      rw [vI_len, List.take_length] at hpre
      exact k1 hpre H' S1
include Fc
def spFair (C c1 : Addr) : Sp := fun vs H Q E => ∃ (fo : Addr) (ps : Par) (ks : List Kd), vs = [.ref fo] ∧ Fo C H fo ps ks ∧ ks.length = ps.length ∧ ps.length ≤ 16 ∧ (unf ks = none → ∀ H', Same H H' → Q .non H') ∧ (∀ f, unf ks = some f → ∀ H' d, Same H H' → H' d = some (.xd [("field", .int ((f : Nat) : Int))]) → E (.ref c1) (some d) H')
theorem ok_fair : Ok1 P w K mg base (L2.CX P w) 1 "check_fair" ["forest"] (spFair C c1) := by
  refine T.d_check_fair.okX sc_check_fair (fun vs H Q E h => ?_) (fun f cdv A outer s H vs Q E hr h => ?_)
  · obtain ⟨fo, ps, ks, rfl, _⟩ := h; rfl
  · obtain ⟨fo, ps, ks, rfl, hfo, hk, hn, k1, k2⟩ := h
    have hfo0 := hfo
    obtain ⟨dx, pa, ka, h1, h2, h3⟩ := hfo
    refine ⟨_, (pss_one (ps_for (passes_of rfl) rfl (pi_range1 (by rfl) T.z_range (pa_cons (pe_fld (pv 0) rfl) pa_nil)) (pg_name (i := 1) sc_check_fair.nd rfl (Or.inl rfl))
      (pss_one (ps_if (pt_cmpR op_in_seq (pe_ix ix_tup (pe_fld (pv 0) rfl) (pv 1) (fun _ _ => rfl)) (pe_tup (pa_cons pe_str (pa_cons pe_str pa_nil))) (by rfl))
        (pss_one (ps_raiseEr R.nf hr (pa_cons (pv 1) pa_nil)))
        pss_nil)))), ?_⟩
    refine ⟨_, rfl, fo, C, dx, _, _, rfl, h1, Fc.cl, Fc.nF, ffs_f _ _ _, _, rfl, by omega, by omega, for_rg ps.length rfl (fun i σ H' => (∃ a, σ = [some (.ref fo), a]) ∧ Same H H' ∧ ((List.range ks.length).take i).find? (fun f => !fairK (kd ks f)) = none) ⟨⟨_, rfl⟩, Same.refl H, rfl⟩ ?_ ?_⟩
    · rintro i σ H' hi ⟨⟨a, rfl⟩, S1, hpre⟩
      have hx : (List.range ks.length)[i]? = some i := List.getElem?_range (by omega)
      refine gn ?_
      refine if_use (!fairK (kd ks i)) (fun Q' q' => ?_) (fun e H2 S2 => ?_) (fun e H2 S2 => ⟨⟨_, rfl⟩, Same.trans S1 S2, take_none hx hpre e⟩)
      · refine ⟨_, rfl, fo, C, dx, _, _, rfl, S1 _ _ h1, Fc.cl, Fc.nK, ffs_k _ _ _, _, rfl, _, _, _, _, rfl, rfl, SqT.of (S1 _ _ h3), atN (vK_at (by omega)), smallL (by decide), fun p hp => ⟨p, _, rfl, .inr (SqT.of upd_same), rfl, rfl, _, rfl, qb (q' _ (Same.new hp)) (notfair (kd ks i))⟩⟩
      · refine ⟨_, rfl, _, rfl, fun d hd => k2 _ (take_some hx hpre e) _ d (Same.trans S1 (Same.trans S2 (Same.new hd))) ?_⟩
        rw [upd_same]
    · rintro σ H' ⟨_, S1, hpre⟩
      rw [← hk, List.take_of_length_le (by rw [List.length_range]; exact Nat.le_refl _)] at hpre
      exact k1 hpre H' S1
end
end Fr

/-! # FrEq -/
namespace Fr
open PySem PySem.Spec PyProof.Rows L2 FR
/-! ## data, compared -/
def Shp (k : Nat) (d : PyData) : Prop := d.canLay0 = true ∧ d.depth ≤ k
def ShpA (k : Nat) (ds : List PyData) : Prop := ∀ d ∈ ds, Shp k d
theorem shpA_lay {k : Nat} : ∀ {ds : List PyData}, ShpA k ds → PyData.canLayAll0 ds = true ∧ PyData.depthAll ds ≤ k
  | [], _ => ⟨by simp only [PyData.canLayAll0], by simp only [PyData.depthAll]; exact Nat.zero_le _⟩
  | d :: ds, h => by
    obtain ⟨a, b⟩ := h d List.mem_cons_self
    obtain ⟨c, e⟩ := shpA_lay (ds := ds) fun x hx => h x (List.mem_cons_of_mem _ hx)
    simp only [PyData.canLayAll0, PyData.depthAll]
    refine ⟨by rw [a, c]; rfl, ?_⟩
    omega
theorem shp_list {k : Nat} {ds : List PyData} (h : ShpA k ds) : Shp (k + 1) (.list ds) := by
  obtain ⟨a, b⟩ := shpA_lay h
  unfold Shp
  simp only [PyData.canLay0, PyData.depth]
  exact ⟨a, by omega⟩
theorem shp_tup {k : Nat} {ds : List PyData} (h : ShpA k ds) : Shp (k + 1) (.tuple ds) := by
  obtain ⟨a, b⟩ := shpA_lay h
  unfold Shp
  simp only [PyData.canLay0, PyData.depth]
  exact ⟨a, by omega⟩
theorem shp_ok {k : Nat} {d : PyData} (h : Shp k d) (hk : k ≤ 64 := by decide) : SeqAt.shaped d = true := by
  unfold SeqAt.shaped
  rw [h.1, decide_eq_true (Nat.le_trans h.2 hk)]; rfl
theorem shp_int (i : Int) : Shp 0 (.int i) := ⟨by simp only [PyData.canLay0], by simp only [PyData.depth]; exact Nat.le_refl _⟩
theorem shp_non : Shp 0 .none := ⟨by simp only [PyData.canLay0], by simp only [PyData.depth]; exact Nat.le_refl _⟩
theorem shp_str (x : Str) (h : PyData.strOk x = true) : Shp 0 (.str x) := ⟨by simp only [PyData.canLay0]; exact h, by simp only [PyData.depth]; exact Nat.le_refl _⟩
def dI (l : List Int) : List PyData := l.map PyData.int
def dO : Option Nat → PyData
  | none => .none
  | some p => .int (p : Int)
def dP (ps : Par) : List PyData := ps.map dO
def dK (ks : List Kd) : List PyData := ks.map fun k => PyData.str (kS k)
theorem shpA_I (l : List Int) : ShpA 0 (dI l) := fun d hd => by
  obtain ⟨i, _, rfl⟩ := List.mem_map.mp hd
  exact shp_int i
theorem shpA_P (l : Par) : ShpA 0 (dP l) := fun d hd => by
  obtain ⟨i, _, rfl⟩ := List.mem_map.mp hd
  cases i with
  | none => exact shp_non
  | some p => exact shp_int _
theorem shpA_K (l : List Kd) : ShpA 0 (dK l) := fun d hd => by
  obtain ⟨i, _, rfl⟩ := List.mem_map.mp hd
  exact shp_str _ (by cases i <;> decide +kernel)
section
variable {K : PySem.W.Frag} {H : Hp}
theorem dpA_I : ∀ (l : List Int), DpAll K H (vI l) (dI l)
  | [] => .nil
  | i :: l => .cons (.int i) (dpA_I l)
theorem dpA_P : ∀ (l : Par), DpAll K H (vP l) (dP l)
  | [] => .nil
  | none :: l => .cons .non (dpA_P l)
  | some p :: l => .cons (.int _) (dpA_P l)
theorem dpA_K : ∀ (l : List Kd), DpAll K H (vK l) (dK l)
  | [] => .nil
  | k :: l => .cons (.str _) (dpA_K l)
end
theorem eqvAll_I : ∀ (a b : List Int), PyData.eqvAll (dI a) (dI b) = decide (a = b)
  | [], [] => by simp [dI, PyData.eqvAll]
  | [], _ :: _ => by simp [dI, PyData.eqvAll]
  | _ :: _, [] => by simp [dI, PyData.eqvAll]
  | i :: a, j :: b => by
    show PyData.eqvAll (.int i :: dI a) (.int j :: dI b) = _
    simp only [PyData.eqvAll, PyData.eqv]
    rw [eqvAll_I a b]
    by_cases h : i = j
    · subst h; simp
    · simp [h]
theorem eqvAll_P : ∀ (a : Par), PyData.eqvAll (dP a) (dP a) = true
  | [] => by simp [dP, PyData.eqvAll]
  | o :: a => by
    show PyData.eqvAll (dO o :: dP a) (dO o :: dP a) = _
    simp only [PyData.eqvAll]
    rw [eqvAll_P a]
    cases o <;> simp [dO, PyData.eqv]
theorem eqvAll_K : ∀ (a : List Kd), PyData.eqvAll (dK a) (dK a) = true
  | [] => by simp [dK, PyData.eqvAll]
  | o :: a => by
    show PyData.eqvAll (.str (kS o) :: dK a) (.str (kS o) :: dK a) = _
    simp only [PyData.eqvAll, PyData.eqv]
    rw [eqvAll_K a]
    simp
theorem eqv_tI (a b : List Int) : PyData.eqv (.tuple (dI a)) (.tuple (dI b)) = decide (a = b) := by simp only [PyData.eqv]; exact eqvAll_I a b
theorem eqv_lI (a b : List Int) : PyData.eqv (.list (dI a)) (.list (dI b)) = decide (a = b) := by simp only [PyData.eqv]; exact eqvAll_I a b
theorem eqv_tP (a : Par) : PyData.eqv (.tuple (dP a)) (.tuple (dP a)) = true := by simp only [PyData.eqv]; exact eqvAll_P a
theorem eqv_tK (a : List Kd) : PyData.eqv (.tuple (dK a)) (.tuple (dK a)) = true := by simp only [PyData.eqv]; exact eqvAll_K a
end Fr

/-! # FrP5 -/
namespace Fr
open PySem PySem.Spec PyProof.Rows L2 FR
open PySem.FrX (ErC)
theorem keys_vD (cs : List (Nat × Int)) : (vD cs).map (fun kv => kV kv.1) = vI (cs.map fun p => ((p.1 : Nat) : Int)) := by
  unfold vD vI
  rw [List.map_map, List.map_map]
  rfl
theorem badp_valid {n : Nat} {l : List Int} (h : Valid n l) : badp n l = none := by
  unfold badp
  rw [List.find?_eq_none]
  intro x hx
  have := h x hx
  simp [okP, this]
section
variable {P : Program} {w : World} {K : PySem.W.Frag} {mg : Str → Option Value} {base : Heap} (T : Tx K mg) {C c1 c2 c3 d1 d2 d3 : Addr} (Fc : FoC K mg C) (R : Ers P K mg c1 c2 c3 d1 d2 d3)
include T R Fc
/-- a write that is in order -/
structure Wr (C : Addr) (K : PySem.W.Frag) (H : Hp) (fo ba ca : Addr) (ps : Par) (ks : List Kd) (b : List Int) (cs : List (Nat × Int)) : Prop where
  fo : Fo C H fo ps ks
  hk : ks.length = ps.length
  hn : ps.length ≤ 16
  hf : unf ks = none
  hb : SqT K H ba (vI b)
  lb : b.length = ps.length
  hc : H ca = some (.dK (vD cs))
  lc : cs.length < 64
  key : ∀ p ∈ cs, p.1 < ps.length
def spCw (C : Addr) (K : PySem.W.Frag) : Sp := fun vs H Q _ => ∃ (fo ba ca : Addr) (ps : Par) (ks : List Kd) (b : List Int) (cs : List (Nat × Int)), vs = [.ref fo, .ref ba, .ref ca] ∧ Wr C K H fo ba ca ps ks b cs ∧ ∀ H', Same H H' → Q .non H'
theorem ok_cw : Ok1 P w K mg base CX0 3 "check_write" ["forest", "base", "changes"] (spCw C K) := by
  have Gcheck_fair : Ok1 P w K mg base (L2.CX P w) 1 "check_fair" ["forest"] (spFair C c1) := ok_fair T Fc R
  have Gcheck_record : Ok1 P w K mg base CX0 1 "check_record" ["fields", "record"] (spCr K) := ok_cr T
  have Gcheck_places : Ok1 P w K mg base (L2.CX P w) 2 "check_places" ["fields", "places"] (spPls c3 K) := ok_pls T R
  refine T.d_check_write.ok sc_check_write (fun vs H Q E h => ?_) (fun f cdv A outer s H vs Q E hr h => ?_)
  · obtain ⟨fo, ba, ca, ps, ks, b, cs, rfl, _⟩ := h; rfl
  · obtain ⟨fo, ba, ca, ps, ks, b, cs, rfl, W, k⟩ := h
    refine ⟨_, (pss_cons (ps_expr (pe_c Gcheck_fair (hr.mono (by decide)) passL (pa_cons (pv 0) pa_nil)))
      (pss_cons (ps_expr (pe_c Gcheck_record (hr.mono (by decide)) pass0 (pa_cons (pe_fld (pv 0) rfl) (pa_cons (pv 1) pa_nil))))
      (pss_one (ps_expr (pe_c Gcheck_places (hr.mono (by decide)) passL (pa_cons (pe_fld (pv 0) rfl) (pa_cons (pe_callB cr_sorted (by rfl) T.z_sorted (by decide +kernel) (pa_cons (pe_callTy (call_listD rfl) (by rfl) T.z_list (by decide +kernel) (pa_cons (pv 2) pa_nil)) pa_nil)) pa_nil))))))), ?_⟩
    refine sqe ⟨_, rfl, fo, ps, ks, rfl, W.fo, W.hk, W.hn, fun _ H1 S1 => ?_, fun f e => ?_⟩
    · obtain ⟨dx, pa, ka, h1, h2, h3⟩ := W.fo.same S1
      refine sqe ⟨_, rfl, fo, C, dx, _, _, rfl, h1, Fc.cl, Fc.nF, ffs_f _ _ _, _, rfl, ba, vI b, ?_, Same.st S1 W.hb, fun H2 S2 => ?_⟩
      · rw [vI_len, W.lb]; rfl
      · have S02 := Same.trans S1 S2
        refine ⟨_, rfl, fo, C, dx, _, _, rfl, S2 _ _ h1, Fc.cl, Fc.nF, ffs_f _ _ _, _, rfl, ca, _, rfl, .inl (S02 _ _ W.hc), fun p hp => ?_⟩
        refine ⟨p, (cs.map fun p => ((p.1 : Nat) : Int)), rfl, SqL.of (by rw [upd_same, keys_vD]; rfl), by rw [List.length_map]; exact W.lc, fun ns q pm _ hq => ?_⟩
        have S3 : Same H (upd (upd H2 p (.lst ((vD cs).map fun kv => kV kv.1))) q (.lst (ns.map V.int))) := Same.trans S02 (Same.trans (Same.new hp) (Same.new hq))
        refine ⟨ps.length, q, ns, rfl, SqL.of upd_same, fun _ H4 S4 => k H4 (Same.trans S3 S4), fun x e => ?_⟩
        have hv : Valid ps.length ns := fun x hx => by
          obtain ⟨p, hp, rfl⟩ := List.mem_map.mp (pm.mem_iff.mp hx)
          have := W.key p hp
          omega
        rw [badp_valid hv] at e
        cases e
    · rw [W.hf] at e; cases e
def spWr (C : Addr) (K : PySem.W.Frag) : Sp := fun vs H Q _ => ∃ (fo ba ca : Addr) (ps : Par) (ks : List Kd) (b : List Int) (cs : List (Nat × Int)), vs = [.ref fo, .ref ba, .ref ca] ∧ Wr C K H fo ba ca ps ks b cs ∧
  ∀ H' p, Same H H' → H p = none → H' p = some (.tup (vI (newR b cs))) → Q (.ref p) H'
theorem ok_wr : Ok1 P w K mg base CX0 4 "written" ["forest", "base", "changes"] (spWr C K) := by
  have Gcheck_write : Ok1 P w K mg base CX0 3 "check_write" ["forest", "base", "changes"] (spCw C K) := ok_cw T Fc R
  have Gwith_values : Ok1 P w K mg base CX0 1 "with_values" ["base", "changes"] (spWith K) := ok_with T Fc
  refine T.d_written.ok sc_written (fun vs H Q E h => ?_) (fun f cdv A outer s H vs Q E hr h => ?_)
  · obtain ⟨fo, ba, ca, ps, ks, b, cs, rfl, _⟩ := h; rfl
  · obtain ⟨fo, ba, ca, ps, ks, b, cs, rfl, W, k⟩ := h
    refine ⟨_, (pss_cons (ps_expr (pe_c Gcheck_write (hr.mono (by decide)) pass0 (pa_cons (pv 0) (pa_cons (pv 1) (pa_cons (pv 2) pa_nil)))))
      (pss_one (ps_ret (pe_c Gwith_values (hr.mono (by decide)) pass0 (pa_cons (pv 1) (pa_cons (pv 2) pa_nil)))))), ?_⟩
    refine sqe ⟨_, rfl, _, rfl, _, rfl, fo, ba, ca, ps, ks, b, cs, rfl, W, fun H1 S1 => ?_⟩
    exact ⟨_, rfl, _, rfl, ba, ca, b, cs, rfl, Same.st S1 W.hb, S1 _ _ W.hc, by rw [W.lb]; exact W.hn, fun H2 p S2 hp hp2 => k H2 p (Same.trans S1 S2) (Same.free S1 hp) hp2⟩
def spLa (C : Addr) (K : PySem.W.Frag) : Sp := fun vs H Q _ => ∃ (fo ba ca : Addr) (ps : Par) (ks : List Kd) (r : Nat → Nat) (b : List Int) (cs : List (Nat × Int)), vs = [.ref fo, .ref ba, .ref ca] ∧ Wr C K H fo ba ca ps ks b cs ∧ Wf ps r ∧
  ∀ H', Same H H' → Q (.bl (decide (merge ps ks b (newR b cs) = newR b cs))) H'
theorem ok_la : Ok1 P w K mg base CX0 4 "lands" ["forest", "base", "changes"] (spLa C K) := by
  have Gcheck_write : Ok1 P w K mg base CX0 3 "check_write" ["forest", "base", "changes"] (spCw C K) := ok_cw T Fc R
  have Gwith_values : Ok1 P w K mg base CX0 1 "with_values" ["base", "changes"] (spWith K) := ok_with T Fc
  have Gmerged_record : Ok1 P w K mg base CX0 2 "merged_record" ["parents", "kinds", "older", "newer"] (spMerged K) := ok_merged T
  refine T.d_lands.ok sc_lands (fun vs H Q E h => ?_) (fun f cdv A outer s H vs Q E hr h => ?_)
  · obtain ⟨fo, ba, ca, ps, ks, r, b, cs, rfl, _⟩ := h; rfl
  · obtain ⟨fo, ba, ca, ps, ks, r, b, cs, rfl, W, Wq, k⟩ := h
    refine ⟨_, (pss_cons (ps_expr (pe_c Gcheck_write (hr.mono (by decide)) pass0 (pa_cons (pv 0) (pa_cons (pv 1) (pa_cons (pv 2) pa_nil)))))
      (pss_cons (ps_set (i := 3) sc_lands.nd rfl (Or.inl rfl) (pe_c Gwith_values (hr.mono (by decide)) pass0 (pa_cons (pv 1) (pa_cons (pv 2) pa_nil))))
      (pss_one (ps_ret (pe_cmpR (op_eqD hr.units) (pe_c Gmerged_record (hr.mono (by decide)) pass0 (pa_cons (pe_fld (pv 0) rfl) (pa_cons (pe_fld (pv 0) rfl) (pa_cons (pv 1) (pa_cons (pv 3) pa_nil))))) (pv 3) (nomark _)))))), ?_⟩
    refine sqe ⟨_, rfl, _, rfl, _, rfl, fo, ba, ca, ps, ks, b, cs, rfl, W, fun H1 S1 => ?_⟩
    refine sq ⟨_, rfl, _, rfl, ba, ca, b, cs, rfl, Same.st S1 W.hb, S1 _ _ W.hc, by rw [W.lb]; exact W.hn, fun H2 p S2 hp hp2 => ?_⟩
    have S02 := Same.trans S1 S2
    obtain ⟨dx, pa, ka, h1, h2, h3⟩ := W.fo.same S02
    have hW := W.hk
    have hB := W.lb
    refine srt ⟨_, rfl, fo, C, dx, _, _, rfl, h1, Fc.cl, Fc.nP, ffs_p _ _ _, _, rfl, fo, C, dx, _, _, rfl, h1, Fc.cl, Fc.nK, ffs_k _ _ _, _, rfl, _, rfl, pa, ka, ba, p, ps, ks, r, b, newR b cs, rfl, SqT.of h2, SqT.of h3, Same.st S02 W.hb, SqT.of hp2, Wq, W.hn, by omega, by omega, by rw [newR_length]; omega, fun H3 q S3 hq hq2 => ?_⟩
    exact ⟨_, rfl, .tuple (dI (merge ps ks b (newR b cs))), .tuple (dI (newR b cs)), .tup (SqT.of hq2) (dpA_I _), .tup (SqT.of (S3 _ _ hp2)) (dpA_I _), shp_ok (shp_tup (shpA_I _)), shp_ok (shp_tup (shpA_I _)), qv (k H3 (Same.trans S02 S3)) (by rw [eqv_tI])⟩
def dueE (c1 c2 c3 : Addr) (H : Hp) (E : XK) : FR.Due → Prop
  | .notFair f => ∀ H' d, Same H H' → H' d = some (.xd [("field", .int ((f : Nat) : Int))]) → E (.ref c1) (some d) H'
  | .badPlace x => ∀ H' d, Same H H' → H' d = some (.xd [("place", .int x)]) → E (.ref c3) (some d) H'
  | .overlap f => ∀ H' d, Same H H' → H' d = some (.xd [("field", .int ((f : Nat) : Int))]) → E (.ref c2) (some d) H'
def spBs (C c1 c2 c3 : Addr) (K : PySem.W.Frag) : Sp := fun vs H Q E => ∃ (fo fa sa : Addr) (ps : Par) (ks : List Kd) (r : Nat → Nat) (A B : List Int), vs = [.ref fo, .ref fa, .ref sa] ∧ Fo C H fo ps ks ∧ Wf ps r ∧ ks.length = ps.length ∧ ps.length ≤ 16 ∧ SqL K H fa (vI A) ∧ SqL K H sa (vI B) ∧
  (due ks A B = none → ∀ H', Same H H' → Q (.bl (ans ps A B)) H') ∧ ∀ x, due ks A B = some x → dueE c1 c2 c3 H E x
theorem ok_bs : Ok1 P w K mg base (L2.CX P w) 4 "both_stay" ["forest", "first", "second"] (spBs C c1 c2 c3 K) := by
  have Gcheck_fair : Ok1 P w K mg base (L2.CX P w) 1 "check_fair" ["forest"] (spFair C c1) := ok_fair T Fc R
  have Gcheck_places : Ok1 P w K mg base (L2.CX P w) 2 "check_places" ["fields", "places"] (spPls c3 K) := ok_pls T R
  have Ghas_above : Ok1 P w K mg base CX0 3 "has_above" ["forest", "upper", "lower"] (spHas C K) := ok_has T Fc
  refine T.d_both_stay.okX sc_both_stay (fun vs H Q E h => ?_) (fun f cdv Ar outer s H vs Q E hr h => ?_)
  · obtain ⟨fo, fa, sa, ps, ks, r, A, B, rfl, _⟩ := h; rfl
  · obtain ⟨fo, fa, sa, ps, ks, r, A, B, rfl, hfo, W, hk, hn, hA, hB, k1, k2⟩ := h
    refine ⟨_, (pss_cons (ps_expr (pe_c Gcheck_fair (hr.mono (by decide)) passC (pa_cons (pv 0) pa_nil)))
      (pss_cons (ps_par (i := 3) (j := 4) (by rfl) sc_both_stay.nd rfl rfl (by decide) rfl rfl (pa_cons (pe_callTy call_list_of (by rfl) T.z_list (by decide +kernel) (pa_cons (pv 1) pa_nil)) (pa_cons (pe_callTy call_list_of (by rfl) T.z_list (by decide +kernel) (pa_cons (pv 2) pa_nil)) pa_nil)) (by rfl))
      (pss_cons (ps_expr (pe_c Gcheck_places (hr.mono (by decide)) passC (pa_cons (pe_fld (pv 0) rfl) (pa_cons (pv 3) pa_nil))))
      (pss_cons (ps_expr (pe_c Gcheck_places (hr.mono (by decide)) passC (pa_cons (pe_fld (pv 0) rfl) (pa_cons (pv 4) pa_nil))))
      (pss_cons (ps_for (passes_of rfl) rfl (pi_range1 (by rfl) T.z_range (pa_cons (pe_fld (pv 0) rfl) pa_nil)) (pg_name (i := 5) sc_both_stay.nd rfl (Or.inl rfl))
        (pss_one (ps_if (PW.pt (pw_and (pt_cmpR op_in_seq (pv 5) (pv 3) (by rfl)) (pw_and1 (pt_cmpR op_in_seq (pv 5) (pv 4) (by rfl)))))
          (pss_one (ps_raiseEr R.ol hr (pa_cons (pv 5) pa_nil)))
          pss_nil)))
      (pss_one (ps_ret (pe_and (pe_not (pe_c Ghas_above (hr.mono (by decide)) pass0 (pa_cons (pv 0) (pa_cons (pv 3) (pa_cons (pv 4) pa_nil))))) (pe_one (pe_not (pe_c Ghas_above (hr.mono (by decide)) pass0 (pa_cons (pv 0) (pa_cons (pv 4) (pa_cons (pv 3) pa_nil)))))))))))))), ?_⟩
    refine sqe ⟨_, rfl, fo, ps, ks, rfl, hfo, hk, hn, fun e1 H1 S1 => ?_, fun f e H' d S' hd => k2 (.notFair f) (by unfold due; rw [e]) H' d S' hd⟩
    refine ⟨_, rfl, _, _, rfl, .inl (Same.sl S1 hA), fun o ho => ⟨_, rfl, _, _, rfl, .inl (Same.sl (Same.trans S1 (Same.new ho)) hB), fun t ht => ⟨_, _, rfl, ?_⟩⟩⟩
    have S2 : Same H (upd (upd H1 o (.lst (vI A))) t (.lst (vI B))) := Same.trans S1 (Same.trans (Same.new ho) (Same.new ht))
    have ho2 : upd (upd H1 o (.lst (vI A))) t (.lst (vI B)) o = some (.lst (vI A)) := Same.new ht _ _ upd_same
    have ht2 : upd (upd H1 o (.lst (vI A))) t (.lst (vI B)) t = some (.lst (vI B)) := upd_same
    generalize upd (upd H1 o (.lst (vI A))) t (.lst (vI B)) = H2 at S2 ho2 ht2 ⊢
    obtain ⟨dx, pa, ka, h1, h2, h3⟩ := hfo.same S2
    have hdue : ∀ {x : FR.Due}, (match badp ps.length (A ++ B) with
      | some x => some (FR.Due.badPlace x)
      | none => match ovl ps.length A B with
        | some f => some (FR.Due.overlap f)
        | none => none) = some x → due ks A B = some x := fun {x} h => by unfold due; rw [e1, hk]; exact h
    dsimp only
    refine sqe ⟨_, rfl, fo, C, dx, _, _, rfl, h1, Fc.cl, Fc.nF, ffs_f _ _ _, _, rfl, ps.length, o, A, rfl, SqL.of ho2, fun e2 H3 S3 => ?_, fun x e H' d S' hd => k2 (.badPlace x) (hdue (by rw [badp_append, e]; rfl)) H' d (Same.trans S2 S') hd⟩
    refine sqe ⟨_, rfl, fo, C, dx, _, _, rfl, S3 _ _ h1, Fc.cl, Fc.nF, ffs_f _ _ _, _, rfl, ps.length, t, B, rfl, SqL.of (S3 _ _ ht2), fun e3 H4 S4 => ?_, fun x e H' d S' hd => k2 (.badPlace x) (hdue (by rw [badp_append, e2, e]; rfl)) H' d (Same.trans (Same.trans S2 S3) S') hd⟩
    have S34 := Same.trans S3 S4
    have e4 : badp ps.length (A ++ B) = none := by rw [badp_append, e2, e3]; rfl
    have vA : Valid ps.length A := badp_none e2
    have vB : Valid ps.length B := badp_none e3
    refine sqf ⟨_, rfl, fo, C, dx, _, _, rfl, S34 _ _ h1, Fc.cl, Fc.nF, ffs_f _ _ _, _, rfl, by omega, by omega, for_rg ps.length rfl (fun i σ H' => (∃ a, σ = [some (.ref fo), some (.ref fa), some (.ref sa), some (.ref o), some (.ref t), a]) ∧ Same H2 H' ∧ ((List.range ps.length).take i).find? (fun f => inL A f && inL B f) = none) ⟨⟨_, rfl⟩, S34, rfl⟩ ?_ ?_⟩
    · rintro i σ H' hi ⟨⟨a, rfl⟩, S5, hpre⟩
      have hx : (List.range ps.length)[i]? = some i := List.getElem?_range (by omega)
      refine gn ?_
      refine if_use (inL A i && inL B i) (fun Q' q' => ?_) (fun e H6 S6 => ?_) (fun e H6 S6 => ⟨⟨_, rfl⟩, Same.trans S5 S6, take_none hx hpre e⟩)
      · have q2 := q' H' (Same.refl H')
        refine ⟨_, rfl, _, rfl, o, vI A, rfl, .inl (SqL.of (S5 _ _ ho2)), rfl, flat_I A, _, rfl, ?_⟩
        rw [if_neg (by decide), inV_N]
        cases hA2 : inL A i with
        | false =>
          rw [if_neg (by decide)]
          rw [hA2] at q2
          exact q2
        | true =>
          rw [hA2, Bool.true_and] at q2
          rw [if_pos rfl]
          refine ⟨_, rfl, _, rfl, t, vI B, rfl, .inl (SqL.of (S5 _ _ ht2)), rfl, flat_I B, _, rfl, ?_⟩
          rw [if_neg (by decide), inV_N]
          exact q2
      · refine ⟨_, rfl, _, rfl, fun d hd => k2 (.overlap i) (hdue ?_) _ d (Same.trans S2 (Same.trans S5 (Same.trans S6 (Same.new hd)))) upd_same⟩
        rw [e4]
        have : ovl ps.length A B = some i := take_some hx hpre e
        rw [this]
    · rintro σ H' ⟨⟨a, rfl⟩, S5, hpre⟩
      rw [List.take_of_length_le (by rw [List.length_range]; exact Nat.le_refl _)] at hpre
      have hov : ovl ps.length A B = none := hpre
      have hd : due ks A B = none := by unfold due; rw [e1, hk, e4, hov]
      have S6 := Same.trans S2 S5
      dsimp only
      have q1 := k1 hd
      unfold ans at q1
      refine srt ⟨_, rfl, _, rfl, _, rfl, fo, o, t, ps, ks, r, A, B, rfl, ⟨dx, pa, ka, S5 _ _ h1, S5 _ _ h2, S5 _ _ h3⟩, SqL.of (S5 _ _ ho2), SqL.of (S5 _ _ ht2), W, hn, vB, fun H6 S6' => ⟨_, rfl, _, rfl, ?_⟩⟩
      have S56 := Same.trans S5 S6'
      cases hh : hasAbove ps A B with
      | true =>
        rw [hh] at q1
        exact q1 H6 (Same.trans S2 S56)
      | false =>
        rw [hh, Bool.not_false, Bool.true_and] at q1
        refine ⟨_, rfl, _, rfl, _, rfl, fo, t, o, ps, ks, r, B, A, rfl, ⟨dx, pa, ka, S56 _ _ h1, S56 _ _ h2, S56 _ _ h3⟩, SqL.of (S56 _ _ ht2), SqL.of (S56 _ _ ho2), W, hn, vA, fun H7 S7 => ⟨_, rfl, ?_⟩⟩
        exact q1 H7 (Same.trans S2 (Same.trans S56 S7))
end
end Fr

/-! # FrP6 -/
namespace Fr
open PySem PySem.Spec PyProof.Rows L2 FR
/-- who is asked whole has no child -/
def Lf (ps : Par) (ks : List Kd) : Prop := ∀ i j, fairK (kd ks i) = false → par ps j ≠ some i
theorem inV_P (ps : Par) (i : Nat) (h : ∀ j, par ps j ≠ some i) : inV (.int (i : Int)) (vP ps) = false := by
  unfold inV vP
  rw [List.any_map]
  rw [List.any_eq_false]
  intro o ho e
  obtain ⟨j, hj, hj2⟩ := List.getElem_of_mem ho
  have hp : par ps j = o := by unfold par; rw [List.getElem?_eq_getElem hj, hj2]; rfl
  cases o with
  | none => exact absurd (show (false : Bool) = true from e) (by decide)
  | some p =>
    have e' : ((p : Int) == (i : Int)) = true := e
    have : p = i := by have := beq_iff_eq.mp e'; omega
    subst this
    exact h j hp
theorem flat_P (U : Par) : (vP U).all flatV = true := by
  unfold vP
  rw [List.all_map, List.all_eq_true]
  intro o _
  cases o <;> rfl
section
variable {P : Program} {w : World} {K : PySem.W.Frag} {mg : Str → Option Value} {base : Heap} (T : Tx K mg) {C c1 c2 c3 d1 d2 d3 : Addr} (Fc : FoC K mg C) (R : Ers P K mg c1 c2 c3 d1 d2 d3) {tm : Tok} (Tm : mg "MOST_FIELDS" = some (.int 16 tm))
include T
def spNe (K : PySem.W.Frag) : Sp := fun vs H Q _ => ∃ (pa : Addr) (ps : Par) (r : Nat → Nat) (f : Nat), vs = [.ref pa, .int (f : Int)] ∧ SqL K H pa (vP ps) ∧ Wf ps r ∧ f < ps.length ∧ ps.length ≤ 16 ∧ ∀ H', Same H H' → Q (.bl false) H'
theorem ok_ne : Ok1 P w K mg base CX0 1 "never_ends" ["parents", "field"] (spNe K) := by
  refine T.d_never_ends.ok sc_never_ends (fun vs H Q E h => ?_) (fun f cdv A outer s H vs Q E hr h => ?_)
  · obtain ⟨pa, ps, r, g, rfl, _⟩ := h; rfl
  · obtain ⟨pa, ps, r, g, rfl, hp, W, hg, hn, k⟩ := h
    refine ⟨_, (pss_cons (ps_set (i := 2) sc_never_ends.nd rfl (Or.inl rfl) (pv 1))
      (pss_cons (ps_for PassesOwn.never rfl (pi_range1 (by rfl) T.z_range (pa_cons (pe_callB call_len_seq (by rfl) T.z_len (by decide +kernel) (pa_cons (pv 0) pa_nil)) pa_nil)) (pg_name (i := 3) sc_never_ends.nd rfl (Or.inl rfl))
        (pss_cons (ps_if (pt_cmpR op_isN (pv 2) pe_non (nomark _))
            (pss_one (ps_ret pe_bl))
            pss_nil)
          (pss_one (ps_set (i := 2) sc_never_ends.nd rfl (Or.inl rfl) (pe_ix ix_list (pv 0) (pv 2) (fun _ _ => rfl))))))
      (pss_one (ps_ret (pe_cmpR op_notN (pv 2) pe_non (nomark _)))))), ?_⟩
    refine sq ⟨_, rfl, ?_⟩
    refine sqf ⟨_, rfl, pa, vP ps, rfl, .inl hp, _, rfl, by rw [vP_len]; omega, by rw [vP_len]; omega, for_rg ps.length (by rw [vP_len]) (fun i σ H' => ∃ (a : Option V) (o : Option Nat), σ = [some (.ref pa), some (.int (g : Int)), some (pV o), a] ∧ Same H H' ∧ ∀ p, o = some p → p < ps.length ∧ r p + i ≤ r g) ⟨_, some g, rfl, Same.refl H, fun p e => by cases e; exact ⟨hg, by omega⟩⟩ ?_ ?_⟩
    · rintro i σ H' hi ⟨a, o, rfl, S1, ho⟩
      refine gn (sqi ?_)
      cases o with
      | none => exact ⟨_, rfl, rfl, _, rfl, iteD true (by decide) (iteT (k H' S1))⟩
      | some p =>
        obtain ⟨h1, h2⟩ := ho p rfl
        refine ⟨_, rfl, rfl, _, rfl, iteD false (by show decide (V.int (p : Int) = V.non) = false; simp) (iteF (snx ?_))⟩
        dsimp only
        refine s1 ⟨_, rfl, _, rfl, _, _, _, _, rfl, rfl, Same.sl S1 hp, atN (vP_at h1), _, par ps p, rfl, S1, fun q hq => ?_⟩
        obtain ⟨_, w2, w3⟩ := W.lt _ _ hq
        exact ⟨w2, by omega⟩
    · rintro σ H' ⟨a, o, rfl, S1, ho⟩
      cases o with
      | none =>
        dsimp only
        exact srt ⟨_, rfl, rfl, k H' S1⟩
      | some p =>
        have := ho p rfl
        have := W.bs g hg
        omega
include Tm
def spSh (K : PySem.W.Frag) : Sp := fun vs H Q _ => ∃ (pa ka : Addr) (ps : Par) (ks : List Kd) (r : Nat → Nat), vs = [.ref pa, .ref ka] ∧ SqL K H pa (vP ps) ∧ SqL K H ka (vK ks) ∧ Wf ps r ∧ ks.length = ps.length ∧ 1 ≤ ps.length ∧ ps.length ≤ 16 ∧ Lf ps ks ∧ ∀ H', Same H H' → Q .non H'
theorem ok_sh : Ok1 P w K mg base CX0 2 "check_shape" ["parents", "kinds"] (spSh K) := by
  have Gnever_ends : Ok1 P w K mg base CX0 1 "never_ends" ["parents", "field"] (spNe K) := ok_ne T
  refine T.d_check_shape.ok sc_check_shape (fun vs H Q E h => ?_) (fun f cdv A outer s H vs Q E hr h => ?_)
  · obtain ⟨pa, ka, ps, ks, r, rfl, _⟩ := h; rfl
  · obtain ⟨pa, ka, ps, ks, r, rfl, hp, hk, W, lk, h1, hn, hl, k⟩ := h
    refine ⟨_, (pss_cons (ps_set (i := 2) sc_check_shape.nd rfl (Or.inl rfl) (pe_callB call_len_seq (by rfl) T.z_len (by decide +kernel) (pa_cons (pv 0) pa_nil)))
      (pss_cons (ps_if (PW.pt (pw_or (pt_cmpR op_ne (pv 2) (pe_callB call_len_seq (by rfl) T.z_len (by decide +kernel) (pa_cons (pv 1) pa_nil)) (nomark _)) (pw_or1 (pt_not (pt_chain op_le op_le pe_int (pv 2) (pe_glob (v := .int 16) rfl Tm ⟨_, rfl⟩))))))
        (pss_one ps_never)
        pss_nil)
      (pss_cons (ps_for PassesOwn.never rfl (pi_range1 (by rfl) T.z_range (pa_cons (pv 2) pa_nil)) (pg_name (i := 3) sc_check_shape.nd rfl (Or.inl rfl))
        (pss_one (ps_if (PW.pt (pw_and (pt_cmpR op_notN (pe_ix ix_list (pv 0) (pv 3) (fun _ _ => rfl)) pe_non (nomark _)) (pw_and1 (pt_not (pt_chain op_le op_lt pe_int (pe_ix ix_list (pv 0) (pv 3) (fun _ _ => rfl)) (pv 2))))))
          (pss_one ps_never)
          pss_nil)))
      (pss_cons (ps_for PassesOwn.never rfl (pi_range1 (by rfl) T.z_range (pa_cons (pv 2) pa_nil)) (pg_name (i := 3) sc_check_shape.nd rfl (Or.inl rfl))
        (pss_one (ps_if (pt_val (pe_c Gnever_ends (hr.mono (by decide)) pass0 (pa_cons (pv 0) (pa_cons (pv 3) pa_nil))))
          (pss_one ps_never)
          pss_nil)))
      (pss_one (ps_for PassesOwn.never rfl (pi_range1 (by rfl) T.z_range (pa_cons (pv 2) pa_nil)) (pg_name (i := 3) sc_check_shape.nd rfl (Or.inl rfl))
      (pss_one (ps_if (PW.pt (pw_and (pt_cmpR op_in_seq (pe_ix ix_list (pv 1) (pv 3) (fun _ _ => rfl)) (pe_tup (pa_cons pe_str (pa_cons pe_str pa_nil))) (by rfl)) (pw_and1 (pt_cmpR op_in_seq (pv 3) (pv 0) (by rfl)))))
        (pss_one ps_never)
        pss_nil)))))))), ?_⟩
    refine sq ⟨_, rfl, pa, vP ps, rfl, .inl hp, ?_⟩
    rw [vP_len]
    refine sqi (if_use false (fun Q' q' => ?_) (fun e _ _ => by cases e) (fun _ H1 S1 => ?_))
    · refine ⟨_, rfl, _, rfl, ka, vK ks, rfl, .inl hk, rfl, _, rfl, ?_⟩
      refine iteD false (by rw [vK_len, lk]; simp) (iteF ?_)
      refine ⟨_, rfl, _, _, rfl, rfl, _, rfl, ?_⟩
      refine iteD true (by simp; omega) (iteT ?_)
      exact ⟨_, _, rfl, rfl, _, rfl, qb (q' H (Same.refl H)) (by simp; omega)⟩
    · have z : ∀ σ : L2.St, (∃ a, σ = [some (.ref pa), some (.ref ka), some (.int (ps.length : Int)), a]) ↔ (∃ a, σ = [some (.ref pa), some (.ref ka), some (.int (ps.length : Int)), a]) := fun _ => Iff.rfl
      refine snx ?_
      dsimp only
      refine (sqf ⟨_, rfl, _, rfl, by omega, by omega, for_rg ps.length rfl (fun i σ H' => (∃ a, σ = [some (.ref pa), some (.ref ka), some (.int (ps.length : Int)), a]) ∧ Same H H') ⟨⟨_, rfl⟩, S1⟩ ?_ ?_⟩)
      · rintro i σ H' hi ⟨⟨a, rfl⟩, S2⟩
        refine gn (if_use false (fun Q' q' => ?_) (fun e _ _ => by cases e) (fun _ H3 S3 => ⟨⟨_, rfl⟩, Same.trans S2 S3⟩))
        refine ⟨_, rfl, _, rfl, _, _, _, _, rfl, rfl, Same.sl S2 hp, atN (vP_at hi), rfl, _, rfl, ?_⟩
        cases e : par ps i with
        | none => exact iteD false (by decide) (iteF (q' H' (Same.refl H')))
        | some p =>
          obtain ⟨_, w2, _⟩ := W.lt _ _ e
          refine iteD true (by show (!decide (V.int (p : Int) = V.non)) = true; simp) (iteT ?_)
          refine ⟨_, rfl, _, rfl, _, _, _, _, rfl, rfl, Same.sl S2 hp, atN (vP_at hi), ?_⟩
          rw [e]
          refine ⟨_, _, rfl, rfl, _, rfl, iteD true (by simp) (iteT ⟨_, rfl, _, _, rfl, rfl, _, rfl, qb (q' H' (Same.refl H')) (by simp; omega)⟩)⟩
      · rintro σ H' ⟨⟨a, rfl⟩, S2⟩
        dsimp only
        refine sqf ⟨_, rfl, _, rfl, by omega, by omega, for_rg ps.length rfl (fun i σ H' => (∃ a, σ = [some (.ref pa), some (.ref ka), some (.int (ps.length : Int)), a]) ∧ Same H H') ⟨⟨_, rfl⟩, S2⟩ ?_ ?_⟩
        · rintro i σ H' hi ⟨⟨a, rfl⟩, S2⟩
          refine gn (if_use false (fun Q' q' => ?_) (fun e _ _ => by cases e) (fun _ H3 S3 => ⟨⟨_, rfl⟩, Same.trans S2 S3⟩))
          exact ⟨_, rfl, _, rfl, pa, ps, r, i, rfl, Same.sl S2 hp, W, hi, hn, fun H3 S3 => ⟨_, rfl, q' H3 S3⟩⟩
        · rintro σ H' ⟨⟨a, rfl⟩, S2⟩
          dsimp only
          refine ⟨_, rfl, _, rfl, by omega, by omega, for_rg ps.length rfl (fun i σ H' => (∃ a, σ = [some (.ref pa), some (.ref ka), some (.int (ps.length : Int)), a]) ∧ Same H H') ⟨⟨_, rfl⟩, S2⟩ ?_ ?_⟩
          · rintro i σ H' hi ⟨⟨a, rfl⟩, S2⟩
            refine gn (if_use false (fun Q' q' => ?_) (fun e _ _ => by cases e) (fun _ H3 S3 => ⟨⟨_, rfl⟩, Same.trans S2 S3⟩))
            refine ⟨_, rfl, _, rfl, _, _, _, _, rfl, rfl, Same.sl S2 hk, atN (vK_at (by omega)), smallL (by decide), fun p hp0 => ⟨p, _, rfl, .inr (SqT.of upd_same), rfl, rfl, _, rfl, ?_⟩⟩
            have S4 := Same.new (o := HO.tup [V.str "first", V.str "last"]) hp0
            have e0 : (if false = true then !inV (V.str (kS (kd ks i))) [V.str "first", V.str "last"] else inV (V.str (kS (kd ks i))) [V.str "first", V.str "last"]) = !fairK (kd ks i) := by rw [if_neg (by decide)]; exact notfair _
            refine iteD _ e0 ?_
            cases e : fairK (kd ks i) with
            | true => exact iteF (q' _ S4)
            | false =>
              refine iteT ⟨_, rfl, _, rfl, pa, vP ps, rfl, .inl (Same.sl (Same.trans S2 S4) hp), rfl, flat_P ps, _, rfl, ?_⟩
              rw [if_neg (by decide), inV_P ps i (hl i · e)]
              exact q' _ S4
          · rintro σ H' ⟨⟨a, rfl⟩, S2⟩
            exact k H' S2
end
end Fr

/-! # FrP7 -/
namespace Fr
open PySem PySem.Spec PyProof.Rows L2 FR
theorem But.sl {K : PySem.W.Frag} {H H' : Hp} {x a : Addr} {o : HO} {xs : List V} (e : But x H H') (hx : H x = some o) (no : ∀ z, o ≠ .lst z) (nf : ∀ z u, o ≠ .frz z u) (h : SqL K H a xs) : SqL K H' a xs := by
  rcases h with (h | ⟨z, h⟩) | h
  · exact .inl (.inl (e _ _ (fun q => by rw [q, hx] at h; exact no _ (Option.some.inj h)) h))
  · exact .inl (.inr ⟨z, e _ _ (fun q => by rw [q, hx] at h; exact nf _ _ (Option.some.inj h)) h⟩)
  · exact .inr h
section
variable {P : Program} {w : World} {K : PySem.W.Frag} {mg : Str → Option Value} {base : Heap} (T : Tx K mg) {C c1 c2 c3 d1 d2 d3 : Addr} (Fc : FoC K mg C) (R : Ers P K mg c1 c2 c3 d1 d2 d3) {tm : Tok} (Tm : mg "MOST_FIELDS" = some (.int 16 tm))
include T Fc
def spCa (C : Addr) (K : PySem.W.Frag) : Sp := fun vs H Q _ => ∃ (fo oa na : Addr) (ps : Par) (ks : List Kd) (r : Nat → Nat) (x y : List Int), vs = [.ref fo, .ref oa, .ref na] ∧ Fo C H fo ps ks ∧ SqT K H oa (vI x) ∧ SqT K H na (vI y) ∧ Wf ps r ∧ ps.length ≤ 16 ∧ ks.length = ps.length ∧ x.length = ps.length ∧ y.length = ps.length ∧
  ∀ H' p, Same H H' → H p = none → H' p = some (.tup (vI (merge ps ks x y))) → Q (.ref p) H'
theorem ok_ca : ∃ g, StX.CallO K C g ∧ FnR P w K mg base CX0 3 g (spCa C K) := by
  have Gcheck_record : Ok1 P w K mg base CX0 1 "check_record" ["fields", "record"] (spCr K) := ok_cr T
  have Gmerged_record : Ok1 P w K mg base CX0 2 "merged_record" ["parents", "kinds", "older", "newer"] (spMerged K) := ok_merged T
  obtain ⟨g, fd, F, c, b⟩ := Fc.call
  refine ⟨g, c, ?_⟩
  have G : FnOk P w K mg base CX0 3 g fd ["self", "older", "newer"] (spCa C K) := by
    refine F.ok (k := 2) sc_Forest___call__ (fun vs H Q E h => ?_) (fun cdv A outer s H vs Q E hr h => ?_)
    · obtain ⟨fo, oa, na, ps, ks, r, x, y, rfl, _⟩ := h; rfl
    · obtain ⟨fo, oa, na, ps, ks, r, x, y, rfl, hfo, hx, hy, W, hn, lk, lx, ly, k⟩ := h
      obtain ⟨dx, pa, ka, h1, h2, h3⟩ := hfo
      refine ⟨_, (pss_cons (ps_expr (pe_c Gcheck_record (hr.mono (by decide)) pass0 (pa_cons (pe_fld (pv 0) rfl) (pa_cons (pv 1) pa_nil))))
      (pss_cons (ps_expr (pe_c Gcheck_record (hr.mono (by decide)) pass0 (pa_cons (pe_fld (pv 0) rfl) (pa_cons (pv 2) pa_nil))))
      (pss_one (ps_ret (pe_c Gmerged_record (hr.mono (by decide)) pass0 (pa_cons (pe_fld (pv 0) rfl) (pa_cons (pe_fld (pv 0) rfl) (pa_cons (pv 1) (pa_cons (pv 2) pa_nil))))))))), ?_⟩
      refine sqe ⟨_, rfl, fo, C, dx, _, _, rfl, h1, Fc.cl, Fc.nF, ffs_f _ _ _, _, rfl, oa, vI x, by rw [vI_len, lx]; rfl, hx, fun H1 S1 => ?_⟩
      refine sqe ⟨_, rfl, fo, C, dx, _, _, rfl, S1 _ _ h1, Fc.cl, Fc.nF, ffs_f _ _ _, _, rfl, na, vI y, by rw [vI_len, ly]; rfl, Same.st S1 hy, fun H2 S2 => ?_⟩
      have S := Same.trans S1 S2
      exact ⟨_, rfl, fo, C, dx, _, _, rfl, S _ _ h1, Fc.cl, Fc.nP, ffs_p _ _ _, _, rfl, fo, C, dx, _, _, rfl, S _ _ h1, Fc.cl, Fc.nK, ffs_k _ _ _, _, rfl, _, rfl, pa, ka, oa, na, ps, ks, r, x, y, rfl, SqT.of (S _ _ h2), SqT.of (S _ _ h3), Same.st S hx, Same.st S hy, W, hn, lk, lx, ly, fun H3 q S3 hq hq2 => k H3 q (Same.trans S S3) (Same.free S hq) hq2⟩
  have G2 := G.raw b .nil
  intro A outer s H us vs Q E hr e0 r hs
  exact G2 A outer s H us vs Q E hr e0 r (by show spCa C K (vs ++ []) H Q E; rw [List.append_nil]; exact hs)
include Tm
def spIn (C : Addr) (K : PySem.W.Frag) : Sp := fun vs H Q _ => ∃ (x dx pa ka : Addr) (ps : Par) (ks : List Kd) (r : Nat → Nat), vs = [.ref x, .ref pa, .ref ka] ∧ H x = some (.ins C dx []) ∧ SqL K H pa (vP ps) ∧ SqL K H ka (vK ks) ∧ Wf ps r ∧ ks.length = ps.length ∧ 1 ≤ ps.length ∧ ps.length ≤ 16 ∧ Lf ps ks ∧
  ∀ H', But x H H' → Fo C H' x ps ks → Q .non H'
theorem ok_in : ∃ g fd, Mk K C g ∧ Binds K fd ["self", "parents", "kinds"] [] ∧ FnOk P w K mg base CX0 3 g fd ["self", "parents", "kinds"] (spIn C K) := by
  have Gcheck_shape : Ok1 P w K mg base CX0 2 "check_shape" ["parents", "kinds"] (spSh K) := ok_sh T Tm
  obtain ⟨g, fd, F, c, b⟩ := Fc.init
  refine ⟨g, fd, c, b, ?_⟩
  refine F.ok (k := 2) sc_Forest___init__ (fun vs H Q E h => ?_) (fun cdv A outer s H vs Q E hr h => ?_)
  · obtain ⟨x, dx, pa, ka, ps, ks, r, rfl, _⟩ := h; rfl
  · obtain ⟨x, dx, pa, ka, ps, ks, r, rfl, hx, hp, hk, W, lk, h1, hn, hl, k⟩ := h
    refine ⟨_, (pss_cons (ps_expr (pe_c Gcheck_shape (hr.mono (by decide)) pass0 (pa_cons (pv 1) (pa_cons (pv 2) pa_nil))))
      (pss_cons (ps_fld (pv 0) (pe_callB call_len_seq (by rfl) T.z_len (by decide +kernel) (pa_cons (pv 1) pa_nil)) rfl)
      (pss_cons (ps_fld (pv 0) (pe_callTy call_tuple_of (by rfl) T.z_tuple (by decide +kernel) (pa_cons (pv 1) pa_nil)) rfl)
      (pss_one (ps_fld (pv 0) (pe_callTy call_tuple_of (by rfl) T.z_tuple (by decide +kernel) (pa_cons (pv 2) pa_nil)) rfl))))), ?_⟩
    refine sqe ⟨_, rfl, _, rfl, pa, ka, ps, ks, r, rfl, hp, hk, W, lk, h1, hn, hl, fun H1 S1 => ?_⟩
    have hx1 := S1 _ _ hx
    refine ⟨_, rfl, pa, vP ps, rfl, .inl (Same.sl S1 hp), _, rfl, x, C, dx, [], rfl, hx1, Fc.cl, Fc.nF, by decide, ?_⟩
    dsimp only
    have n1 : ∀ (z : List V), HO.ins C dx [] ≠ .lst z := fun _ h => by cases h
    have n2 : ∀ z u, HO.ins C dx [] ≠ .frz z u := fun _ _ h => by cases h
    have B1 : But x H1 (upd H1 x (.ins C dx (putF "fields" (.int ((vP ps).length : Int)) []))) := But.upd x H1 _
    refine ⟨_, rfl, pa, vP ps, rfl, .inl ⟨But.sl B1 hx1 n1 n2 (Same.sl S1 hp), fun l1 hl1 => ⟨_, rfl, x, C, dx, putF "fields" (.int ((vP ps).length : Int)) [], rfl, ?_, Fc.cl, Fc.nP, (show 1 < 1000 by decide), ?_⟩⟩⟩
    · exact Same.new hl1 _ _ upd_same
    dsimp only
    have hl0 : H1 l1 = none ∧ l1 ≠ x := by
      have z : l1 ≠ x := fun q => by rw [q, upd_same] at hl1; cases hl1
      rw [upd_ne z] at hl1
      exact ⟨hl1, z⟩
    have B2 : But x H1 (upd (upd (upd H1 x (.ins C dx (putF "fields" (.int ((vP ps).length : Int)) []))) l1 (.tup (vP ps))) x (.ins C dx (putF "parents" (.ref l1) (putF "fields" (.int ((vP ps).length : Int)) [])))) := But.trans (But.trans B1 (But.of (Same.new hl1))) (But.upd x _ _)
    refine ⟨_, rfl, ka, vK ks, rfl, .inl ⟨But.sl B2 hx1 n1 n2 (Same.sl S1 hk), fun l2 hl2 => ⟨_, rfl, x, C, dx, putF "parents" (.ref l1) (putF "fields" (.int ((vP ps).length : Int)) []), rfl, ?_, Fc.cl, Fc.nK, (show 2 < 1000 by decide), ?_⟩⟩⟩
    · exact Same.new hl2 _ _ upd_same
    dsimp only
    have z2 : l2 ≠ x := fun q => by rw [q, upd_same] at hl2; cases hl2
    have z3 : l2 ≠ l1 := fun q => by rw [q, upd_ne hl0.2, upd_same] at hl2; cases hl2
    refine k _ (But.trans (But.of S1) (But.trans B2 (But.trans (But.of (Same.new hl2)) (But.upd x _ _)))) ⟨dx, l1, l2, ?_, ?_, ?_⟩
    · rw [upd_same, vP_len]; rfl
    · rw [upd_ne hl0.2, upd_ne (Ne.symm z3), upd_ne hl0.2, upd_same]
    · rw [upd_ne z2, upd_same]
end
end Fr

/-! # FrL1 -/
namespace Fr
open PySem PySem.Spec PyProof.Rows L2 FR
section
variable {P : Program} {w : World} {K : PySem.W.Frag} {mg : Str → Option Value} {base : Heap} (T : Tx K mg)
include T
/-! ## the tape -/
def spTape (K : PySem.W.Frag) : Sp := fun vs H Q _ => ∃ (sa : Addr) (S : List Int) (k : Nat), vs = [.ref sa, .int (k : Int)] ∧ SqL K H sa (vI S) ∧ ∀ H' t, Same H H' → H t = none → Tp H' t → Q (.ref t) H'
theorem ok_tape : Ok1 P w K mg base CX0 1 "_law_tape" ["_law_script", "_law_k"] (spTape K) := by
  refine T.d_law_tape.ok sc_law_tape (fun vs H Q E h => ?_) (fun f cdv A outer s H vs Q E hr h => ?_)
  · obtain ⟨sa, S, k, rfl, _⟩ := h; rfl
  · obtain ⟨sa, S, k, rfl, h1, q⟩ := h
    refine ⟨_, (pss_cons (ps_if (pt_cmpR op_lt (pv 1) (pe_callB call_len_seq (by rfl) T.z_len (by decide +kernel) (pa_cons (pv 0) pa_nil)) (nomark _))
        (pss_one (ps_ret (pe_lst (pa_cons (pe_callB call_abs (by rfl) T.z_abs (by decide +kernel) (pa_cons (pe_ix ix_list (pv 0) (pv 1) (fun _ _ => rfl)) pa_nil)) (pa_cons pe_int pa_nil)))))
        pss_nil)
      (pss_one (ps_ret (pe_lst (pa_cons (pv 1) (pa_cons pe_int pa_nil)))))), ?_⟩
    refine ⟨_, rfl, _, rfl, sa, vI S, rfl, .inl h1, _, _, rfl, rfl, _, rfl, ?_⟩
    by_cases hk : k < S.length
    · refine iteD true (by rw [vI_len]; simp; omega) (iteT ?_)
      refine ⟨_, rfl, _, rfl, _, _, _, _, rfl, rfl, h1, atN (vI_at hk), _, rfl, smallL (by decide), fun p hp => q _ p (Same.new hp) hp ⟨_, _, upd_same⟩⟩
    · refine iteD false (by rw [vI_len]; simp; omega) (iteF ?_)
      exact ⟨_, rfl, smallL (by decide), fun p hp => q _ p (Same.new hp) hp ⟨_, _, upd_same⟩⟩
def spTk : Sp := fun vs H Q _ => ∃ (t : Addr) (n : Nat), vs = [.ref t, .int (n : Int)] ∧ Tp H t ∧ 0 < n ∧ n < 1073741824 ∧ ∀ H' (r : Nat), But t H H' → Tp H' t → r < n → Q (.int (r : Int)) H'
theorem ok_tk : Ok1 P w K mg base CX0 1 "_law_take" ["_law_tape_here", "_law_size_here"] spTk := by
  refine T.d_law_take.ok sc_law_take (fun vs H Q E h => ?_) (fun f cdv A outer s H vs Q E hr h => ?_)
  · obtain ⟨t, n, rfl, _⟩ := h; rfl
  · obtain ⟨t, n, rfl, ⟨c, k, ht⟩, h0, h1, q⟩ := h
    refine ⟨_, (pss_cons (ps_set (i := 2) sc_law_take.nd rfl (Or.inl rfl) (pe_ix ix_list (pv 0) pe_int (fun _ _ => rfl)))
      (pss_cons (ps_asg (pe_op op_add (pe_ix ix_list (pv 0) pe_int (fun _ _ => rfl)) pe_int) (pg_sub (pv 0) pe_int set_list))
      (pss_cons (ps_set (i := 3) sc_law_take.nd rfl (Or.inl rfl) (pe_ix ix_list (pv 0) pe_int (fun _ _ => rfl)))
      (pss_cons (ps_if (pt_cmpR op_ge (pv 2) (pe_op op_pow pe_int pe_int) (nomark _))
        (pss_cons (ps_asg (pe_op op_fdiv (pv 2) (pv 1)) (pg_sub (pv 0) pe_int set_list))
          (pss_one (ps_ret (pe_op op_mod (pe_callTy call_int1 (by rfl) T.z_int (by decide +kernel) (pa_cons (pv 2) pa_nil)) (pv 1)))))
        pss_nil)
      (pss_cons (ps_set (i := 4) sc_law_take.nd rfl (Or.inl rfl) (pe_op op_mod (pe_callTy call_int1 (by rfl) T.z_int (by decide +kernel) (pa_cons (pe_op op_add (pe_op op_add (pv 2) (pe_op op_mul pe_int (pv 3))) pe_int) pa_nil)) pe_int))
      (pss_cons (ps_set (i := 4) sc_law_take.nd rfl (Or.inl rfl) (pe_op op_mod (pe_callTy call_int1 (by rfl) T.z_int (by decide +kernel) (pa_cons (pe_op op_mul (pv 4) (pe_op op_add (pv 4) pe_int)) pa_nil)) pe_int))
      (pss_cons (ps_set (i := 4) sc_law_take.nd rfl (Or.inl rfl) (pe_op op_mod (pe_callTy call_int1 (by rfl) T.z_int (by decide +kernel) (pa_cons (pe_op op_add (pe_op op_mul (pv 4) (pe_op op_add (pv 4) pe_int)) (pe_op op_mul pe_int (pv 3))) pa_nil)) pe_int))
      (pss_one (ps_ret (pe_op op_mod (pe_callTy call_int1 (by rfl) T.z_int (by decide +kernel) (pa_cons (pe_op op_fdiv (pv 4) pe_int) pa_nil)) (pv 1))))))))))), ?_⟩
    have fin : ∀ (z : Int) H', But t H H' → Tp H' t → Q (.int (z % (n : Int))) H' := fun z H' b tp => by
      have e : z % (n : Int) = (((z % (n : Int)).toNat : Nat) : Int) := (Int.toNat_of_nonneg (Int.emod_nonneg z (by omega))).symm
      have l := Int.emod_lt_of_pos z (show (0 : Int) < (n : Int) by omega)
      rw [e]
      exact q H' _ b tp (by omega)
    refine sq ⟨_, rfl, _, _, _, _, rfl, rfl, SqL.of ht, (by rfl), ?_⟩
    refine ⟨_, rfl, _, _, _, _, rfl, rfl, SqL.of ht, (by rfl), _, _, rfl, rfl, _, rfl, _, _, _, 1, rfl, rfl, ht, (by rfl), ?_⟩
    have e1 : ([V.int c, V.int k] : List V).set 1 (V.int (k + 1)) = [V.int c, V.int (k + 1)] := rfl
    have b1 : But t H (upd H t (.lst [V.int c, V.int (k + 1)])) := But.upd t H _
    have t1 : upd H t (.lst [V.int c, V.int (k + 1)]) t = some (.lst [V.int c, V.int (k + 1)]) := upd_same
    dsimp only
    rw [e1]
    generalize upd H t (.lst [V.int c, V.int (k + 1)]) = H1 at b1 t1 ⊢
    refine sq ⟨_, rfl, _, _, _, _, rfl, rfl, SqL.of t1, (by rfl), ?_⟩
    refine sqi ⟨_, rfl, _, _, rfl, rfl, ⟨by decide, by decide, by decide⟩, _, _, rfl, rfl, _, rfl, ?_⟩
    by_cases hc : c ≥ 10 ^ 18
    · refine iteD true (by simpa using hc) (iteT ?_)
      refine ⟨_, rfl, _, rfl, _, _, rfl, rfl, ⟨by omega, by omega⟩, _, rfl, _, _, _, _, rfl, rfl, t1, (by rfl), ?_⟩
      dsimp only
      exact srt ⟨_, rfl, .inl ⟨_, rfl, _, rfl, _, _, rfl, rfl, by omega, fin _ _ (But.trans b1 (But.upd t H1 _)) ⟨_, _, upd_same⟩⟩⟩
    · refine iteD false (by simpa using hc) (iteF (snx ?_))
      dsimp only
      have c64 : ∀ i j : Int, 0 ≤ i → i < 2147483648 → CMul i j := fun i j h0 h1 => .inl ⟨Int.lt_of_lt_of_le (by decide) h0, Int.lt_trans h1 (by decide)⟩
      have m47 : ∀ z : Int, 0 ≤ z % 2147483647 ∧ z % 2147483647 < 2147483648 := fun z => ⟨Int.emod_nonneg z (by decide), Int.lt_trans (Int.emod_lt_of_pos z (by decide)) (by decide)⟩
      have m29 : ∀ z : Int, 0 ≤ z % 2147483629 ∧ z % 2147483629 < 2147483648 := fun z => ⟨Int.emod_nonneg z (by decide), Int.lt_trans (Int.emod_lt_of_pos z (by decide)) (by decide)⟩
      refine sq ⟨_, rfl, _, rfl, _, _, rfl, rfl, c64 _ _ (by decide) (by decide), _, _, rfl, rfl, _, _, rfl, rfl, .inl ⟨_, rfl, _, _, rfl, rfl, (show (0 : Int) < _ by decide), ?_⟩⟩
      obtain ⟨a0, a1⟩ := m47 (c + 7919 * (k + 1) + 13)
      dsimp only
      generalize (c + 7919 * (k + 1) + 13) % 2147483647 = z1 at a0 a1 ⊢
      refine sq ⟨_, rfl, _, rfl, _, _, rfl, rfl, _, _, rfl, rfl, c64 _ _ a0 a1, .inl ⟨_, rfl, _, _, rfl, rfl, (show (0 : Int) < _ by decide), ?_⟩⟩
      obtain ⟨b0, b2⟩ := m29 (z1 * (z1 + 48271))
      dsimp only
      generalize (z1 * (z1 + 48271)) % 2147483629 = z2 at b0 b2 ⊢
      refine sq ⟨_, rfl, _, rfl, _, _, rfl, rfl, _, _, rfl, rfl, c64 _ _ b0 b2, _, rfl, _, _, rfl, rfl, c64 _ _ (by decide) (by decide), _, _, rfl, rfl, .inl ⟨_, rfl, _, _, rfl, rfl, (show (0 : Int) < _ by decide), ?_⟩⟩
      dsimp only
      generalize (z2 * (z2 + 69621) + 31 * (k + 1)) % 2147483647 = z3
      exact srt ⟨_, rfl, _, _, rfl, rfl, ⟨by decide, by decide⟩, .inl ⟨_, rfl, _, rfl, _, _, rfl, rfl, by omega, fin _ _ b1 ⟨_, _, t1⟩⟩⟩
end
end Fr

/-! # FrL2 -/
namespace Fr
open PySem PySem.Spec PyProof.Rows L2 FR
theorem But.fresh {t D : Addr} {H H' : Hp} {o : HO} (a : But t H H') (h : H D = none) : But t H (L2.upd H' D o) := fun b u n e => by
  rw [upd_ne (ne_of_none e h)]
  exact a b u n e
theorem yes {σ : L2.St} {H : Hp} {Q : Bool → Hp → Prop} (h : Q true H) : tYes σ H Q := h
theorem Tp.upd {H : Hp} {t p : Addr} {o : HO} (h : Tp H t) (n : p ≠ t) : Tp (L2.upd H p o) t := by
  obtain ⟨c, k, e⟩ := h
  exact ⟨c, k, by rw [upd_ne (Ne.symm n)]; exact e⟩
section
variable {P : Program} {w : World} {K : PySem.W.Frag} {mg : Str → Option Value} {base : Heap} (T : Tx K mg)
include T
def spVal : Sp := fun vs H Q _ => ∃ (t : Addr) (n : Nat), vs = [.ref t, .int (n : Int)] ∧ Tp H t ∧ 0 < n ∧ n < 1073741824 ∧ ∀ H' (z : Int), But t H H' → Tp H' t → Q (.int z) H'
theorem ok_val : Ok1 P w K mg base CX0 2 "_law_value" ["_law_tape_here", "_law_span"] spVal := by
  have Glaw_take : Ok1 P w K mg base CX0 1 "_law_take" ["_law_tape_here", "_law_size_here"] spTk := ok_tk T
  refine T.d_law_value.ok sc_law_value (fun vs H Q E h => ?_) (fun f cdv A outer s H vs Q E hr h => ?_)
  · obtain ⟨t, n, rfl, _⟩ := h; rfl
  · obtain ⟨t, n, rfl, ht, h0, h1, q⟩ := h
    refine ⟨_, (pss_cons (ps_set (i := 2) sc_law_value.nd rfl (Or.inl rfl) (pe_c Glaw_take (hr.mono (by decide)) pass0 (pa_cons (pv 0) (pa_cons pe_int pa_nil))))
      (pss_cons (ps_if (pt_cmpR op_eq (pv 2) pe_int (nomark _))
        (pss_one (ps_ret (pe_op op_sub (pe_op op_mul (pe_c Glaw_take (hr.mono (by decide)) pass0 (pa_cons (pv 0) (pa_cons (pe_op op_pow pe_int pe_int) pa_nil))) (pe_op op_pow pe_int pe_int)) (pe_c Glaw_take (hr.mono (by decide)) pass0 (pa_cons (pv 0) (pa_cons (pe_op op_pow pe_int pe_int) pa_nil))))))
        pss_nil)
      (pss_cons (ps_if (pt_cmpR op_eq (pv 2) pe_int (nomark _))
        (pss_one (ps_ret (pe_op op_sub pe_int (pe_c Glaw_take (hr.mono (by decide)) pass0 (pa_cons (pv 0) (pa_cons (pv 1) pa_nil))))))
        pss_nil)
      (pss_one (ps_ret (pe_c Glaw_take (hr.mono (by decide)) pass0 (pa_cons (pv 0) (pa_cons (pv 1) pa_nil)))))))), ?_⟩
    refine sq ⟨_, rfl, t, 8, rfl, ht, by decide, by decide, fun H1 r1 B1 T1 l1 => ?_⟩
    have c64 : ∀ (i : Nat) (j : Int), i < 1000000000 → CMul (i : Int) j := fun i j h => .inl ⟨by omega, by omega⟩
    refine sqi ⟨_, rfl, rfl, _, rfl, ?_⟩
    by_cases e1 : r1 = 0
    · refine iteD true (by subst e1; decide) (iteT ?_)
      refine ⟨_, rfl, _, _, rfl, rfl, ⟨by decide, by decide, by decide⟩, t, 1000000000, by rfl, T1, by decide, by decide, fun H2 r2 B2 T2 l2 => ?_⟩
      refine ⟨_, _, rfl, rfl, ⟨by decide, by decide, by decide⟩, _, _, rfl, rfl, c64 _ _ l2, ?_⟩
      exact ⟨_, rfl, _, _, rfl, rfl, ⟨by decide, by decide, by decide⟩, t, 1000000000, by rfl, T2, by decide, by decide, fun H3 r3 B3 T3 l3 => ⟨_, _, rfl, rfl, q _ _ (But.trans (But.trans B1 B2) B3) T3⟩⟩
    · refine iteD false (by simp; omega) (iteF (snx ?_))
      dsimp only
      refine sqi ⟨_, rfl, rfl, _, rfl, ?_⟩
      by_cases e2 : r1 = 1
      · refine iteD true (by subst e2; decide) (iteT ?_)
        exact ⟨_, rfl, _, rfl, t, n, rfl, T1, h0, h1, fun H2 r2 B2 T2 l2 => ⟨_, _, rfl, rfl, q _ _ (But.trans B1 B2) T2⟩⟩
      · refine iteD false (by simp; omega) (iteF (snx ?_))
        dsimp only
        exact srt ⟨_, rfl, _, rfl, t, n, rfl, T1, h0, h1, fun H2 r2 B2 T2 l2 => q _ _ (But.trans B1 B2) T2⟩
def spRec : Sp := fun vs H Q _ => ∃ (t : Addr) (k n : Nat), vs = [.ref t, .int (k : Int), .int (n : Int)] ∧ Tp H t ∧ k ≤ 16 ∧ 0 < n ∧ n < 1073741824 ∧ ∀ H' p (l : List Int), But t H H' → Tp H' t → H p = none → H' p = some (.tup (vI l)) → l.length = k → Q (.ref p) H'
theorem ok_rec : Ok1 P w K mg base CX0 3 "_law_record" ["_law_tape_here", "_law_n", "_law_span"] spRec := by
  have Glaw_value : Ok1 P w K mg base CX0 2 "_law_value" ["_law_tape_here", "_law_span"] spVal := ok_val T
  refine T.d_law_record.ok sc_law_record (fun vs H Q E h => ?_) (fun f cdv A outer s H vs Q E hr h => ?_)
  · obtain ⟨t, k, n, rfl, _⟩ := h; rfl
  · obtain ⟨t, k, n, rfl, ht, hk, h0, h1, q⟩ := h
    refine ⟨_, (pss_one (ps_ret (pe_callTy call_tuple_of (by rfl) T.z_tuple (by decide +kernel) (pa_cons (pe_lc (own := [("_law_k", 3)]) (g := gName 3) rfl sc_law_record.nd (pi_range1 (by rfl) T.z_range (pa_cons (pv 1) pa_nil)) (blkOk_by (own := [("_law_k", 3)]) (N := ["_law_tape_here", "_law_n", "_law_span", "_law_k"]) (sc := defScope s_law_record) (by decide +kernel)) (fun _ _ _ _ _ => pg_name (i := 3) sc_law_record.nd rfl (Or.inl rfl)) (fun _ _ _ _ _ => pts_nil) (fun _ _ _ _ _ => (pe_c Glaw_value (hr.mono (by decide)) pass0 (pa_cons (pv 0) (pa_cons (pv 2) pa_nil))))) pa_nil)))), ?_⟩
    refine ⟨_, rfl, _, rfl, by omega, by omega, fun D hD => ?_⟩
    have nD : D ≠ t := ht.ne hD
    refine lc_rg k rfl (fun i H' => ∃ l : List Int, l.length = i ∧ But t H H' ∧ Tp H' t ∧ H' D = some (.lst (vI l))) ⟨[], rfl, But.fresh (But.refl t H) hD, ht.upd nD, upd_same⟩ ?_ ?_
    · rintro i H' hi ⟨l, hl, B1, T1, hDl⟩
      refine ⟨rfl, ?_⟩
      refine yes (iteT ?_)
      refine ⟨_, rfl, _, rfl, t, n, rfl, T1, h0, h1, fun H2 z B2 T2 => ⟨vI l, B2 _ _ nD hDl, by rw [vI_len]; exact smallL (by omega), l ++ [z], by rw [List.length_append, hl]; rfl, But.fresh (But.trans B1 B2) hD, T2.upd nD, ?_⟩⟩
      rw [upd_same]
      unfold vI
      rw [List.map_append]
      rfl
    · rintro H' ⟨l, hl, B1, T1, hDl⟩
      exact ⟨D, vI l, rfl, .inl ⟨SqL.of hDl, fun p hp => q _ p l (But.fresh B1 (But.free B1 (T1.ne hp) hp)) (T1.upd (T1.ne hp)) (But.free B1 (T1.ne hp) hp) upd_same hl⟩⟩
end
end Fr

/-! # FrL3 -/
namespace Fr
open PySem PySem.Spec PyProof.Rows L2 FR
theorem rgV_N (n : Nat) : rgV 0 (n : Int) = vN (List.range n) := by
  unfold rgV vN
  rw [Int.sub_zero, Int.toNat_natCast]
  refine List.map_congr_left fun i _ => ?_
  rw [Int.zero_add]
theorem vN_erase (l : List Nat) (i : Nat) : (vN l).eraseIdx i = vN (l.eraseIdx i) := by
  unfold vN
  induction l generalizing i with
  | nil => rfl
  | cons x t ih =>
    cases i with
    | zero => rfl
    | succ i => simp only [List.map_cons, List.eraseIdx_cons_succ]; rw [ih]
theorem vN_app (l : List Nat) (x : Nat) : vN l ++ [V.int (x : Int)] = vN (l ++ [x]) := by
  unfold vN
  rw [List.map_append]; rfl
theorem erase_perm : ∀ (l : List Nat) (i : Nat) (h : i < l.length), (l[i] :: l.eraseIdx i).Perm l
  | [], _, h => absurd h (Nat.not_lt_zero _)
  | a :: t, 0, _ => List.Perm.refl _
  | a :: t, i + 1, h => by
    have h' : i < t.length := Nat.lt_of_succ_lt_succ h
    show (t[i] :: a :: t.eraseIdx i).Perm (a :: t)
    exact (List.Perm.swap a t[i] _).trans ((erase_perm t i h').cons a)
section
variable {P : Program} {w : World} {K : PySem.W.Frag} {mg : Str → Option Value} {base : Heap} (T : Tx K mg)
include T
def spTurns : Sp := fun vs H Q _ => ∃ (t : Addr) (n : Nat), vs = [.ref t, .int (n : Int)] ∧ Tp H t ∧ n ≤ 16 ∧ ∀ H' p (l : List Nat), But t H H' → Tp H' t → H p = none → H' p = some (.lst (vN l)) → l.Perm (List.range n) → Q (.ref p) H'
theorem ok_turns : Ok1 P w K mg base CX0 2 "_law_turns" ["_law_tape_here", "_law_n"] spTurns := by
  have Glaw_take : Ok1 P w K mg base CX0 1 "_law_take" ["_law_tape_here", "_law_size_here"] spTk := ok_tk T
  refine T.d_law_turns.ok sc_law_turns (fun vs H Q E h => ?_) (fun f cdv A outer s H vs Q E hr h => ?_)
  · obtain ⟨t, n, rfl, _⟩ := h; rfl
  · obtain ⟨t, n, rfl, ht, hn, q⟩ := h
    refine ⟨_, (pss_cons (ps_set (i := 2) sc_law_turns.nd rfl (Or.inl rfl) (pe_listRg rfl rfl T.z_list (prg_1 rfl T.z_range (pv 1))))
      (pss_cons (ps_set (i := 3) sc_law_turns.nd rfl (Or.inl rfl) (pe_lst pa_nil))
      (pss_cons (ps_for PassesOwn.never rfl (pi_range1 (by rfl) T.z_range (pa_cons (pv 1) pa_nil)) (pg_name (i := 4) sc_law_turns.nd rfl (Or.inl rfl))
        (pss_one (ps_expr (pe_bm PySem.F.plainAttrs_list PySem.F.slot_list_append PySem.F.type_list_append mt_append (pv 3) (pa_cons (pe_bm PySem.F.plainAttrs_list PySem.F.slot_list_pop PySem.F.type_list_pop mt_popAt (pv 2) (pa_cons (pe_c Glaw_take (hr.mono (by decide)) pass0 (pa_cons (pv 0) (pa_cons (pe_callB call_len_seq (by rfl) T.z_len (by decide +kernel) (pa_cons (pv 2) pa_nil)) pa_nil))) pa_nil)) pa_nil)))))
      (pss_one (ps_ret (pv 3)))))), ?_⟩
    refine sq ⟨_, rfl, _, rfl, RgOk.of_le (by decide) (by omega) (by decide) (by omega), fun a ha => ?_⟩
    rw [rgV_N]
    have na : a ≠ t := ht.ne ha
    have ha1 : L2.upd H a (.lst (vN (List.range n))) a = some (.lst (vN (List.range n))) := upd_same
    have B0 : But t H (L2.upd H a (.lst (vN (List.range n)))) := But.fresh (But.refl t H) ha
    have T0 := ht.upd (o := .lst (vN (List.range n))) na
    generalize L2.upd H a (.lst (vN (List.range n))) = H0 at ha1 B0 T0 ⊢
    refine sq ⟨Nat.zero_le _, fun b hb => ?_⟩
    have nb : b ≠ t := T0.ne hb
    have nab : a ≠ b := fun e => by rw [e, hb] at ha1; cases ha1
    have hbH : H b = none := But.free B0 nb hb
    refine sqf ⟨_, rfl, _, rfl, by omega, by omega, for_rg n rfl (fun i σ H' => (∃ v, σ = [some (.ref t), some (.int (n : Int)), some (.ref a), some (.ref b), v]) ∧ ∃ (L M : List Nat), H' a = some (.lst (vN L)) ∧ H' b = some (.lst (vN M)) ∧ (M ++ L).Perm (List.range n) ∧ L.length + i = n ∧ But t H H' ∧ Tp H' t)
      ⟨⟨_, rfl⟩, List.range n, [], by rw [upd_ne nab]; exact ha1, upd_same, List.Perm.refl _, by rw [List.length_range]; rfl, But.fresh B0 hbH, T0.upd nb⟩ ?_ ?_⟩
    · rintro i σ H' hi ⟨⟨v, rfl⟩, L, M, hL, hM, pm, len, B1, T1⟩
      refine gn ?_
      refine ⟨_, rfl, .inl ⟨rfl, _, SqL.of hM⟩, _, rfl, .inl ⟨rfl, _, SqL.of hL⟩, _, rfl, _, rfl, a, vN L, rfl, .inl (SqL.of hL), t, L.length, by rw [vN_len]; rfl, T1, by omega, by omega, fun H2 r B2 T2 lr => ?_⟩
      have hL2 := B2 _ _ na hL
      have hM2 := B2 _ _ nb hM
      have sz : L.length < 1000 := by omega
      refine ⟨a, vN L, _, r, _, rfl, rfl, hL2, by omega, by omega, seqIndex_at (by omega) (by rw [vN_len]; omega), vN_at (List.getElem?_eq_getElem lr), ?_⟩
      have lenM : M.length < 1000 := by
        have := pm.length_eq
        rw [List.length_append, List.length_range] at this
        omega
      refine ⟨b, vN M, _, rfl, rfl, by rw [upd_ne (Ne.symm nab)]; exact hM2, by rw [vN_len]; exact smallL (by omega), ?_⟩
      refine ⟨⟨_, rfl⟩, L.eraseIdx r, M ++ [L[r]], ?_, ?_, ?_, ?_, ?_, ?_⟩
      · rw [upd_ne nab, upd_same, vN_erase]
      · rw [upd_same, vN_app]
      · rw [List.append_assoc]
        refine List.Perm.trans (List.Perm.append_left M ?_) pm
        exact erase_perm L r lr
      · rw [List.length_eraseIdx, if_pos lr]; omega
      · exact But.fresh (But.fresh (But.trans B1 B2) ha) hbH
      · exact (T2.upd na).upd nb
    · rintro σ H' ⟨⟨v, rfl⟩, L, M, hL, hM, pm, len, B1, T1⟩
      have : L = [] := List.length_eq_zero_iff.mp (by omega)
      subst this
      dsimp only
      exact srt ⟨_, rfl, q H' b M B1 T1 hbH hM (by rw [List.append_nil] at pm; exact pm)⟩
end
end Fr

/-! # FrL4 -/
namespace Fr
open PySem PySem.Spec PyProof.Rows L2 FR
def PInv (l : List Nat) (ps : Par) (k : Nat) : Prop := ∀ i q, par ps i = some q → i ∈ l ∧ q ∈ l ∧ l.idxOf q < l.idxOf i ∧ l.idxOf i < k
theorem par_set {ps : Par} {i : Nat} {o : Option Nat} (h : i < ps.length) (j : Nat) : par (ps.set i o) j = if i = j then o else par ps j := by
  unfold par
  rw [List.getElem?_set]
  by_cases e : i = j
  · rw [if_pos e, if_pos e, if_pos h]; rfl
  · rw [if_neg e, if_neg e]
theorem par_rep (n i : Nat) : par (List.replicate n none) i = none := by
  unfold par
  rw [List.getElem?_replicate]
  split <;> rfl
theorem PInv.rep (l : List Nat) (n k : Nat) : PInv l (List.replicate n none) k := fun i q e => by rw [par_rep] at e; cases e
theorem PInv.mono {l : List Nat} {ps : Par} {k : Nat} (h : PInv l ps k) : PInv l ps (k + 1) := fun i q e => by
  obtain ⟨a, b, c, d⟩ := h i q e
  exact ⟨a, b, c, by omega⟩
theorem PInv.step {l : List Nat} {ps : Par} {k p : Nat} (h : PInv l ps k) (nd : l.Nodup) (hk : k < l.length) (hp : p < k) (hi : l[k] < ps.length) : PInv l (ps.set l[k] (some (l[p]'(by omega)))) (k + 1) := by
  intro i q e
  rw [par_set hi] at e
  by_cases c : l[k] = i
  · rw [if_pos c] at e
    cases e
    subst c
    rw [nd.idxOf_getElem k hk, nd.idxOf_getElem p (by omega)]
    exact ⟨List.getElem_mem hk, List.getElem_mem (by omega), hp, by omega⟩
  · rw [if_neg c] at e
    exact h.mono i q e
theorem PInv.wf {l : List Nat} {ps : Par} (h : PInv l ps ps.length) (pm : l.Perm (List.range ps.length)) : Wf ps fun i => l.idxOf i := by
  have hl : l.length = ps.length := by rw [pm.length_eq, List.length_range]
  have hm : ∀ i, i ∈ l ↔ i < ps.length := fun i => by rw [pm.mem_iff, List.mem_range]
  refine ⟨fun i p e => ?_, fun i => ?_, fun i hi => ?_⟩
  · obtain ⟨a, b, c, d⟩ := h i p e
    exact ⟨(hm i).mp a, (hm p).mp b, c⟩
  · rw [← hl]; exact List.idxOf_le_length
  · rw [← hl]; exact List.idxOf_lt_length_of_mem ((hm i).mpr hi)
theorem vP_set (ps : Par) (i : Nat) (o : Option Nat) : (vP ps).set i (pV o) = vP (ps.set i o) := by
  unfold vP
  rw [List.map_set]
theorem vP_rep (n : Nat) : Evl.given n (fun _ => true) (fun _ => V.non) = vP (List.replicate n none) := by
  unfold Evl.given vP
  rw [filter_tt, List.map_replicate]
  exact List.map_const' .. |>.trans (by rw [List.length_range]; rfl)
/-- if c: x = e -/
theorem sq_ifset {c : TT} {te : TE} {i : Nat} {tz : TS} {D : Ends} {σ : L2.St} {H : Hp} (b : Bool) (v : V) (τ : L2.St) (hc : ∀ Q' : Bool → Hp → Prop, Q' b H → c σ H Q') (hv : b = true → ∀ Q' : V → Hp → Prop, Q' v H → te σ H Q')
    (e : (if b = true then σ.set i (some v) else σ) = τ) (h : tz D τ H) : tSeq (tIfS c (tAsg te (gName i)) tNext) tz D σ H := by
  subst e
  refine sqi (hc _ ?_)
  cases b with
  | true => exact iteT (hv rfl _ h)
  | false => exact iteF h
theorem PInv.top {l : List Nat} {ps : Par} {k : Nat} (h : PInv l ps k) : PInv l ps l.length := fun i q e => by
  obtain ⟨a, b, c, d⟩ := h i q e
  exact ⟨a, b, c, List.idxOf_lt_length_of_mem a⟩
section
variable {P : Program} {w : World} {K : PySem.W.Frag} {mg : Str → Option Value} {base : Heap} (T : Tx K mg)
include T
def spPar : Sp := fun vs H Q _ => ∃ (t : Addr) (n : Nat), vs = [.ref t, .int (n : Int)] ∧ Tp H t ∧ n ≤ 16 ∧ ∀ H' p (ps : Par) (r : Nat → Nat), But t H H' → Tp H' t → H p = none → H' p = some (.lst (vP ps)) → ps.length = n → Wf ps r → Q (.ref p) H'
theorem ok_par : Ok1 P w K mg base CX0 3 "_law_parents" ["_law_tape_here", "_law_n"] spPar := by
  have Glaw_take : Ok1 P w K mg base CX0 1 "_law_take" ["_law_tape_here", "_law_size_here"] spTk := ok_tk T
  have Glaw_turns : Ok1 P w K mg base CX0 2 "_law_turns" ["_law_tape_here", "_law_n"] spTurns := ok_turns T
  refine T.d_law_parents.ok sc_law_parents (fun vs H Q E h => ?_) (fun f cdv A outer s H vs Q E hr h => ?_)
  · obtain ⟨t, n, rfl, _⟩ := h; rfl
  · obtain ⟨t, n, rfl, ht, hn, q⟩ := h
    refine ⟨_, (pss_cons (ps_set (i := 2) sc_law_parents.nd rfl (Or.inl rfl) (pe_c Glaw_turns (hr.mono (by decide)) pass0 (pa_cons (pv 0) (pa_cons (pv 1) pa_nil))))
      (pss_cons (ps_set (i := 3) sc_law_parents.nd rfl (Or.inl rfl) (pe_c Glaw_take (hr.mono (by decide)) pass0 (pa_cons (pv 0) (pa_cons pe_int pa_nil))))
      (pss_cons (ps_setLc (i := 4) (own := [("_law_k", 5)]) (g := gName 5) rfl sc_law_parents.nd rfl rfl (sw_true rfl rfl rfl (by decide +kernel)) (pi_range1 (by rfl) T.z_range (pa_cons (pv 1) pa_nil)) (blkOk_by (own := [("_law_k", 5)]) (N := ["_law_tape_here", "_law_n", "_law_turns_here", "_law_bend", "_law_parents_here", "_law_k", "_law_pick"]) (sc := defScope s_law_parents) (by decide +kernel)) (fun _ _ _ _ _ => pg_name (i := 5) sc_law_parents.nd rfl (Or.inl rfl)) (fun _ _ _ _ _ => pts_nil) (fun _ _ _ _ _ => pe_non))
      (pss_cons (ps_for PassesOwn.never rfl (pi_range2 (by rfl) T.z_range (pa_cons pe_int (pa_cons (pv 1) pa_nil))) (pg_name (i := 5) sc_law_parents.nd rfl (Or.inl rfl))
        (pss_cons (ps_set (i := 6) sc_law_parents.nd rfl (Or.inl rfl) (pe_c Glaw_take (hr.mono (by decide)) pass0 (pa_cons (pv 0) (pa_cons (pe_op op_add (pv 5) pe_int) pa_nil))))
          (pss_cons (ps_if (pt_cmpR op_eq (pv 3) pe_int (nomark _))
            (pss_one (ps_set (i := 6) sc_law_parents.nd rfl (Or.inl rfl) (pv 5)))
            pss_nil)
          (pss_cons (ps_if (pt_cmpR op_eq (pv 3) pe_int (nomark _))
            (pss_one (ps_set (i := 6) sc_law_parents.nd rfl (Or.inl rfl) pe_int))
            pss_nil)
          (pss_one (ps_if (pt_cmpR op_gt (pv 6) pe_int (nomark _))
          (pss_one (ps_asg (pe_ix ix_list (pv 2) (pe_op op_sub (pv 6) pe_int) (fun _ _ => rfl)) (pg_sub (pv 4) (pe_ix ix_list (pv 2) (pv 5) (fun _ _ => rfl)) set_list)))
          pss_nil))))))
      (pss_one (ps_ret (pv 4))))))), ?_⟩
    refine sq ⟨_, rfl, _, rfl, t, n, rfl, ht, hn, fun H1 a l B1 T1 ha1 ha2 pm => ?_⟩
    refine sq ⟨_, rfl, t, 4, rfl, T1, by decide, by decide, fun H2 bend B2 T2 lb => ?_⟩
    have na : a ≠ t := ht.ne ha1
    refine sq ⟨_, rfl, _, rfl, by omega, by omega, fun D hD => ?_⟩
    refine lc_rgP n rfl (fun _ => true) (fun _ => .non) (by omega) hD (fun x => rfl) (fun j hj => fun H3 e3 Q3 q3 => q3 H3 (Evl.Ex.refl _)) (fun j hj _ => fun H3 e3 Q3 q3 => q3 H3 (Evl.Ex.refl _)) (fun H3 S3 h3 => ?_)
    rw [vP_rep] at h3
    have B3 : But t H H3 := But.trans (But.trans B1 B2) (But.of S3)
    have T3 := T2.same S3
    have nD : D ≠ t := T2.ne hD
    have hDH : H D = none := But.free (But.trans B1 B2) nD hD
    have ha3 : H3 a = some (.lst (vN l)) := S3 _ _ (B2 _ _ na ha2)
    have naD : a ≠ D := fun e => by have := B2 _ _ na ha2; rw [e, hD] at this; cases this
    have ll : l.length = n := by rw [pm.length_eq, List.length_range]
    have nd : l.Nodup := pm.nodup_iff.mpr List.nodup_range
    refine sqf ⟨_, rfl, _, _, rfl, ⟨by omega, by omega, by omega, by omega⟩, for_rg1 n rfl (fun k σ H' => (∃ x y, σ = [some (.ref t), some (.int (n : Int)), some (.ref a), some (.int (bend : Int)), some (.ref D), x, y]) ∧ ∃ ps : Par, ps.length = n ∧ PInv l ps k ∧ H' D = some (.lst (vP ps)) ∧ H' a = some (.lst (vN l)) ∧ But t H H' ∧ Tp H' t)
      ⟨⟨_, _, rfl⟩, List.replicate n none, by simp, PInv.rep l n 1, h3, ha3, B3, T3⟩ ?_ ?_⟩
    · rintro k σ H' hk1 hk ⟨⟨x, y, rfl⟩, ps, lp, pi, hDp, hal, B4, T4⟩
      refine gn (sq ⟨_, rfl, _, rfl, _, _, rfl, rfl, t, k + 1, rfl, T4, by omega, by omega, fun H5 r B5 T5 lr => ?_⟩)
      have hD5 := B5 _ _ nD hDp
      have ha5 := B5 _ _ na hal
      have B6 := But.trans B4 B5
      refine sq_ifset (decide (bend = 0)) (.int (k : Int)) [some (.ref t), some (.int (n : Int)), some (.ref a), some (.int (bend : Int)), some (.ref D), some (.int (k : Int)), some (.int ((if bend = 0 then k else r : Nat) : Int))]
        (fun Q' q' => ⟨_, rfl, rfl, _, rfl, qb q' (by simp)⟩) (fun _ Q' q' => ⟨_, rfl, q'⟩) (by by_cases e : bend = 0 <;> simp [e]) ?_
      refine sq_ifset (decide (bend = 1)) (.int 0) [some (.ref t), some (.int (n : Int)), some (.ref a), some (.int (bend : Int)), some (.ref D), some (.int (k : Int)), some (.int ((if bend = 1 then 0 else if bend = 0 then k else r : Nat) : Int))]
        (fun Q' q' => ⟨_, rfl, rfl, _, rfl, qb q' (by simp; omega)⟩) (fun _ Q' q' => q') (by by_cases e : bend = 1 <;> simp [e]) ?_
      have hpk : (if bend = 1 then 0 else if bend = 0 then k else r) ≤ k := by split <;> (try split) <;> omega
      generalize (if bend = 1 then 0 else if bend = 0 then k else r) = p at hpk
      refine ⟨_, rfl, _, _, rfl, rfl, _, rfl, ?_⟩
      by_cases hp : 0 < p
      · refine iteD true (by simpa using hp) (iteT ?_)
        have hil : l[k]'(by omega) < n := by
          have : l[k]'(by omega) ∈ l := List.getElem_mem _
          rw [pm.mem_iff, List.mem_range] at this
          exact this
        refine ⟨_, rfl, _, rfl, _, _, rfl, rfl, a, vN l, ((p - 1 : Nat) : Int), V.int ((l[p - 1]'(by omega) : Nat) : Int), rfl, ?_, SqL.of ha5, atN (vN_at (List.getElem?_eq_getElem (by omega))), ?_⟩
        · show V.int ((p : Int) - 1) = V.int ((p - 1 : Nat) : Int)
          congr 1; omega
        · refine ⟨_, rfl, _, rfl, _, rfl, a, vN l, _, _, rfl, rfl, SqL.of ha5, atN (vN_at (List.getElem?_eq_getElem (by omega))), D, vP ps, _, l[k]'(by omega), rfl, rfl, hD5, Evl.ixN_nat (by rw [vP_len, lp]; exact hil), ?_⟩
          refine ⟨⟨_, _, rfl⟩, ps.set (l[k]'(by omega)) (some (l[p - 1]'(by omega))), by rw [List.length_set, lp], pi.step nd (by omega) (by omega) (by rw [lp]; exact hil), ?_, ?_, But.fresh B6 hDH, T5.upd nD⟩
          · rw [upd_same, ← vP_set]; rfl
          · rw [upd_ne naD]; exact ha5
      · refine iteD false (by simpa using hp) (iteF (snx ?_))
        exact ⟨⟨_, _, rfl⟩, ps, lp, pi.mono, hD5, ha5, B6, T5⟩
    · rintro k σ H' hk1 hk ⟨⟨x, y, rfl⟩, ps, lp, pi, hDp, hal, B4, T4⟩
      dsimp only
      have pi2 := pi.top
      rw [ll, ← lp] at pi2
      exact srt ⟨_, rfl, q H' D ps _ B4 T4 hDH hDp lp (pi2.wf (by rw [lp]; exact pm))⟩
end
end Fr

/-! # FrL5 -/
namespace Fr
open PySem PySem.Spec PyProof.Rows L2 FR
theorem inV_P2 {ps : Par} {i : Nat} (h : inV (.int (i : Int)) (vP ps) = false) : ∀ j, par ps j ≠ some i := by
  intro j e
  unfold par at e
  cases q : ps[j]? with
  | none => rw [q] at e; cases e
  | some o =>
    rw [q] at e
    have e' : o = some i := e
    subst e'
    unfold inV at h
    rw [List.any_eq_false] at h
    refine h (V.int (i : Int)) ?_ ?_
    · unfold vP
      exact List.mem_map.mpr ⟨some i, List.mem_of_getElem? q, rfl⟩
    · show ((i : Int) == (i : Int)) = true
      simp
def K4 (i : Nat) : Kd := match i with
  | 0 => .up
  | 1 => .down
  | 2 => .first
  | _ => .last
theorem K4_at {r : Nat} (h : r < 4) : atI [V.str "up", V.str "down", V.str "first", V.str "last"] (r : Int) = some (.str (kS (K4 r))) := by
  refine atN ?_
  match r, h with
  | 0, _ => rfl
  | 1, _ => rfl
  | 2, _ => rfl
  | 3, _ => rfl
theorem K4_fair {r : Nat} (h : r < 2) : fairK (K4 r) = true := by
  match r, h with
  | 0, _ => rfl
  | 1, _ => rfl
theorem kd_app (ks : List Kd) (k : Kd) (j : Nat) : kd (ks ++ [k]) j = if j = ks.length then k else kd ks j := by
  unfold kd
  rw [List.getD_eq_getElem?_getD, List.getD_eq_getElem?_getD]
  by_cases e : j = ks.length
  · subst e; rw [if_pos rfl]; simp
  · rw [if_neg e]
    by_cases l : j < ks.length
    · rw [List.getElem?_append_left l]
    · rw [List.getElem?_append_right (by omega), List.getElem?_eq_none (l := ks) (by omega)]
      rw [List.getElem?_eq_none]
      simp; omega
theorem vK_app (ks : List Kd) (k : Kd) : vK ks ++ [V.str (kS k)] = vK (ks ++ [k]) := by
  unfold vK
  rw [List.map_append]; rfl
theorem Lf.nil (ps : Par) : Lf ps [] := fun i j e => by
  have : fairK (kd [] i) = true := rfl
  rw [this] at e; cases e
theorem Lf.app {ps : Par} {ks : List Kd} {k : Kd} (h : Lf ps ks) (n : fairK k = false → ∀ j, par ps j ≠ some ks.length) : Lf ps (ks ++ [k]) := fun i j e => by
  rw [kd_app] at e
  by_cases c : i = ks.length
  · rw [if_pos c] at e
    rw [c]; exact n e j
  · rw [if_neg c] at e
    exact h i j e
section
variable {P : Program} {w : World} {K : PySem.W.Frag} {mg : Str → Option Value} {base : Heap} (T : Tx K mg)
include T
def spKinds : Sp := fun vs H Q _ => ∃ (t pa : Addr) (ps : Par) (fair : Bool), vs = [.ref t, .ref pa, .bl fair] ∧ Tp H t ∧ pa ≠ t ∧ H pa = some (.lst (vP ps)) ∧ ps.length ≤ 16 ∧
  ∀ H' p (ks : List Kd), But t H H' → Tp H' t → H p = none → H' p = some (.lst (vK ks)) → ks.length = ps.length → Lf ps ks → Q (.ref p) H'
theorem ok_kinds : Ok1 P w K mg base CX0 2 "_law_kinds" ["_law_tape_here", "_law_parents_here", "_law_fair"] spKinds := by
  have Glaw_take : Ok1 P w K mg base CX0 1 "_law_take" ["_law_tape_here", "_law_size_here"] spTk := ok_tk T
  refine T.d_law_kinds.ok sc_law_kinds (fun vs H Q E h => ?_) (fun f cdv A outer s H vs Q E hr h => ?_)
  · obtain ⟨t, pa, ps, fair, rfl, _⟩ := h; rfl
  · obtain ⟨t, pa, ps, fair, rfl, ht, np, hp, hn, q⟩ := h
    refine ⟨_, (pss_cons (ps_set (i := 3) sc_law_kinds.nd rfl (Or.inl rfl) (pe_lst pa_nil))
      (pss_cons (ps_for PassesOwn.never rfl (pi_range1 (by rfl) T.z_range (pa_cons (pe_callB call_len_seq (by rfl) T.z_len (by decide +kernel) (pa_cons (pv 1) pa_nil)) pa_nil)) (pg_name (i := 4) sc_law_kinds.nd rfl (Or.inl rfl))
        (pss_cons (ps_set (i := 5) sc_law_kinds.nd rfl (Or.inl rfl) (pe_c Glaw_take (hr.mono (by decide)) pass0 (pa_cons (pv 0) (pa_cons pe_int pa_nil))))
          (pss_cons (ps_if (PW.pt (pw_or (pt_val (pv 2)) (pw_or1 (pt_cmpR op_in_seq (pv 4) (pv 1) (by rfl)))))
            (pss_one (ps_set (i := 5) sc_law_kinds.nd rfl (Or.inl rfl) (pe_op op_mod (pe_callTy call_int1 (by rfl) T.z_int (by decide +kernel) (pa_cons (pv 5) pa_nil)) pe_int)))
            pss_nil)
          (pss_one (ps_expr (pe_bm PySem.F.plainAttrs_list PySem.F.slot_list_append PySem.F.type_list_append mt_append (pv 3) (pa_cons (pe_ix ix_list (pe_lst (pa_cons pe_str (pa_cons pe_str (pa_cons pe_str (pa_cons pe_str pa_nil))))) (pv 5) (fun _ _ => rfl)) pa_nil)))))))
      (pss_one (ps_ret (pv 3))))), ?_⟩
    refine sq ⟨Nat.zero_le _, fun b hb => ?_⟩
    have nb : b ≠ t := ht.ne hb
    have nbp : pa ≠ b := fun e => by rw [e, hb] at hp; cases hp
    refine sqf ⟨_, rfl, pa, vP ps, rfl, .inl (SqL.of (by rw [upd_ne nbp]; exact hp)), _, rfl, by rw [vP_len]; omega, by rw [vP_len]; omega, for_rg ps.length (by rw [vP_len]) (fun i σ H' => (∃ x y, σ = [some (.ref t), some (.ref pa), some (.bl fair), some (.ref b), x, y]) ∧ ∃ ks : List Kd, ks.length = i ∧ Lf ps ks ∧ H' b = some (.lst (vK ks)) ∧ H' pa = some (.lst (vP ps)) ∧ But t H H' ∧ Tp H' t)
      ⟨⟨_, _, rfl⟩, [], rfl, Lf.nil ps, upd_same, by rw [upd_ne nbp]; exact hp, But.fresh (But.refl t H) hb, ht.upd nb⟩ ?_ ?_⟩
    · rintro i σ H' hi ⟨⟨x, y, rfl⟩, ks, lk, lf, hb1, hp1, B1, T1⟩
      refine gn (sq ⟨_, rfl, t, 4, rfl, T1, by decide, by decide, fun H2 r B2 T2 lr => ?_⟩)
      have hb2 := B2 _ _ nb hb1
      have hp2 := B2 _ _ np hp1
      refine sq_ifset (fair || inV (.int (i : Int)) (vP ps)) (.int ((r : Int) % 2)) [some (.ref t), some (.ref pa), some (.bl fair), some (.ref b), some (.int (i : Int)), some (.int ((if (fair || inV (.int (i : Int)) (vP ps)) = true then r % 2 else r : Nat) : Int))] (fun Q' q' => ?_) (fun _ Q' q' => ?_) ?_ ?_
      · refine ⟨_, rfl, fair, rfl, ?_⟩
        cases fair with
        | true => exact iteT q'
        | false =>
          refine iteF ⟨_, rfl, _, rfl, pa, vP ps, rfl, .inl (SqL.of hp2), rfl, flat_P ps, _, rfl, ?_⟩
          rw [if_neg (by decide)]
          exact q'
      · exact ⟨_, rfl, .inl ⟨_, rfl, _, _, rfl, rfl, (show (0 : Int) < 2 by decide), q'⟩⟩
      · cases (fair || inV (.int (i : Int)) (vP ps)) <;> simp
      · have hm : (if (fair || inV (.int (i : Int)) (vP ps)) = true then r % 2 else r) < 4 := by split <;> omega
        have hf : fairK (K4 (if (fair || inV (.int (i : Int)) (vP ps)) = true then r % 2 else r)) = false → ∀ j, par ps j ≠ some ks.length := by
          cases c : (fair || inV (.int (i : Int)) (vP ps)) with
          | true =>
            rw [if_pos rfl, K4_fair (Nat.mod_lt r (by decide))]
            intro z; cases z
          | false =>
            intro _
            rw [lk]
            exact inV_P2 (Bool.or_eq_false_iff.mp c).2
        generalize (if (fair || inV (.int (i : Int)) (vP ps)) = true then r % 2 else r) = m at hm hf
        refine ⟨_, rfl, .inl ⟨rfl, _, SqL.of hb2⟩, smallL (by decide), fun p hp => ⟨_, rfl, p, _, _, _, rfl, rfl, SqL.of upd_same, K4_at hm, ?_⟩⟩
        have npb : b ≠ p := fun e => by rw [← e, hb2] at hp; cases hp
        have npp : pa ≠ p := fun e => by rw [← e, hp2] at hp; cases hp
        have hpH : H p = none := But.free (But.trans B1 B2) (T2.ne hp) hp
        refine ⟨b, vK ks, _, rfl, rfl, by rw [upd_ne npb]; exact hb2, by rw [vK_len]; exact smallL (by omega), ?_⟩
        refine ⟨⟨_, _, rfl⟩, ks ++ [K4 m], by rw [List.length_append, lk]; rfl, lf.app hf, by rw [upd_same, vK_app], by rw [upd_ne nbp, upd_ne npp]; exact hp2, But.fresh (But.fresh (But.trans B1 B2) hpH) hb, (T2.upd (T2.ne hp)).upd nb⟩
    · rintro σ H' ⟨⟨x, y, rfl⟩, ks, lk, lf, hb1, hp1, B1, T1⟩
      dsimp only
      exact srt ⟨_, rfl, q H' b ks B1 T1 hb hb1 lk lf⟩
end
end Fr

/-! # FrL6 -/
namespace Fr
open PySem PySem.Spec PyProof.Rows L2 FR
theorem vN_cons (x : Nat) (l : List Nat) : vN (x :: l) = V.int (x : Int) :: vN l := rfl
section
variable {P : Program} {w : World} {K : PySem.W.Frag} {mg : Str → Option Value} {base : Heap} (T : Tx K mg)
include T
def spLp (K : PySem.W.Frag) : Sp := fun vs H Q _ => ∃ (pa : Addr) (ps : Par) (r : Nat → Nat) (f : Nat), vs = [.ref pa, .int (f : Int)] ∧ SqL K H pa (vP ps) ∧ Wf ps r ∧ f < ps.length ∧ ps.length ≤ 16 ∧
  ∀ H' p, Same H H' → H p = none → H' p = some (.lst (vN (pathL ps f))) → Q (.ref p) H'
theorem ok_lp : Ok1 P w K mg base CX0 1 "_law_path" ["_law_parents_here", "_law_field"] (spLp K) := by
  refine T.d_law_path.ok sc_law_path (fun vs H Q E h => ?_) (fun f cdv A outer s H vs Q E hr h => ?_)
  · obtain ⟨pa, ps, r, f, rfl, _⟩ := h; rfl
  · obtain ⟨pa, ps, r, f, rfl, hp, W, hf, hn, q⟩ := h
    refine ⟨_, (pss_cons (ps_set (i := 2) sc_law_path.nd rfl (Or.inl rfl) (pe_lst (pa_cons (pv 1) pa_nil)))
      (pss_cons (ps_for PassesOwn.never rfl (pi_range1 (by rfl) T.z_range (pa_cons (pe_callB call_len_seq (by rfl) T.z_len (by decide +kernel) (pa_cons (pv 0) pa_nil)) pa_nil)) (pg_name (i := 3) sc_law_path.nd rfl (Or.inl rfl))
        (pss_one (ps_if (pt_cmpR op_notN (pe_ix ix_list (pv 0) (pe_ix ix_list (pv 2) pe_int (fun _ _ => rfl)) (fun _ _ => rfl)) pe_non (nomark _))
          (pss_one (ps_expr (pe_bm PySem.F.plainAttrs_list PySem.F.slot_list_insert PySem.F.type_list_insert mt_insert (pv 2) (pa_cons pe_int (pa_cons (pe_ix ix_list (pv 0) (pe_ix ix_list (pv 2) pe_int (fun _ _ => rfl)) (fun _ _ => rfl)) pa_nil)))))
          pss_nil)))
      (pss_one (ps_ret (pv 2))))), ?_⟩
    refine sq ⟨_, rfl, by show 1 ≤ sizeLine; decide, fun b hb => ?_⟩
    refine sqf ⟨_, rfl, pa, vP ps, rfl, .inl (Same.sl (Same.new hb) hp), _, rfl, by rw [vP_len]; omega, by rw [vP_len]; omega, for_rg ps.length (by rw [vP_len]) (fun i σ H' => (∃ x, σ = [some (.ref pa), some (.int (f : Int)), some (.ref b), x]) ∧ Same H H' ∧ H' b = some (.lst (vN (up ps i [f]))))
      ⟨⟨_, rfl⟩, Same.new hb, upd_same⟩ ?_ ?_⟩
    · rintro i σ H' hi ⟨⟨x, rfl⟩, S1, hb1⟩
      have hx : ∃ a tl, up ps i [f] = a :: tl ∧ a < ps.length ∧ tl.length ≤ 16 := by
        have hne := up_ne (ps := ps) i [f] (by simp)
        have hlt := path_lt W i [f] (fun x hx => by rw [List.mem_singleton.mp hx]; exact hf)
        have hln := path_len (ps := ps) i [f]
        cases e : up ps i [f] with
        | nil => exact absurd e hne
        | cons a tl =>
          rw [e] at hlt hln
          refine ⟨a, tl, rfl, hlt a List.mem_cons_self, ?_⟩
          simp only [List.length_cons, List.length_nil] at hln
          omega
      obtain ⟨a, tl, e, ha, htl⟩ := hx
      have e2 : up ps (i + 1) [f] = lstep ps (a :: tl) := by rw [up_succ, e]
      rw [e] at hb1
      rw [e2]
      refine gn ?_
      refine sif ⟨_, rfl, _, rfl, _, _, _, _, rfl, rfl, SqL.of hb1, atN (n := 0) rfl, _, _, _, _, rfl, rfl, Same.sl S1 hp, atN (vP_at ha), rfl, _, rfl, ?_⟩
      cases c : par ps a with
      | none =>
        refine iteD false (by decide) (iteF (snx ?_))
        exact ⟨⟨_, rfl⟩, S1, by rw [lstep_none (l := a :: tl) c]; exact hb1⟩
      | some p =>
        refine iteD true (by show (!decide (V.int (p : Int) = V.non)) = true; simp) (iteT ?_)
        refine ⟨_, rfl, .inl ⟨rfl, _, SqL.of hb1⟩, _, rfl, _, rfl, _, _, _, _, rfl, rfl, SqL.of hb1, atN (n := 0) rfl, _, _, _, _, rfl, rfl, Same.sl S1 hp, atN (vP_at ha), ?_⟩
        refine ⟨b, _, _, _, rfl, rfl, hb1, by rw [vN_len]; exact smallL (by simp; omega), by decide, by decide, ?_⟩
        refine ⟨⟨_, rfl⟩, fun c o e => ?_, ?_⟩
        · rw [upd_ne (ne_of_none e hb)]; exact S1 _ _ e
        · rw [upd_same, c, lstep_some (l := a :: tl) c]; rfl
    · rintro σ H' ⟨⟨x, rfl⟩, S1, hb1⟩
      dsimp only
      exact srt ⟨_, rfl, q H' b S1 hb hb1⟩
end
end Fr

/-! # FrL7 -/
namespace Fr
open PySem PySem.Spec PyProof.Rows L2 FR
theorem sd_first {k : Kd} {a b : Int} (h : k = .first) : (decide (k = .first) || bet k a b) = true := by rw [h]; rfl
theorem sd_last {k : Kd} {a b : Int} (h : k = .last) : (decide (k = .first) || bet k a b) = false := by rw [h]; rfl
theorem sd_else {k : Kd} {a b : Int} (h1 : k ≠ .first) (h2 : k ≠ .last) (hne : a ≠ b) : (!decide (V.bl (decide (a > b)) = V.bl (decide (k = .up)))) = !(decide (k = .first) || bet k a b) := by
  cases k with
  | first => exact absurd rfl h1
  | last => exact absurd rfl h2
  | up =>
    show (!decide (V.bl (decide (a > b)) = V.bl true)) = !(false || decide (a > b))
    by_cases c : a > b <;> simp [c]
  | down =>
    show (!decide (V.bl (decide (a > b)) = V.bl false)) = !(false || decide (a < b))
    by_cases c : a > b
    · have : ¬ a < b := by omega
      simp [c, this]
    · have : a < b := by omega
      simp [c, this]
section
variable {P : Program} {w : World} {K : PySem.W.Frag} {mg : Str → Option Value} {base : Heap} (T : Tx K mg)
include T
def spSide (K : PySem.W.Frag) : Sp := fun vs H Q _ => ∃ (pa ka oa na : Addr) (ps : Par) (ks : List Kd) (r : Nat → Nat) (f : Nat) (x y : List Int), vs = [.ref pa, .ref ka, .int (f : Int), .ref oa, .ref na] ∧ SqL K H pa (vP ps) ∧ SqL K H ka (vK ks) ∧ SqT K H oa (vI x) ∧ SqT K H na (vI y) ∧
  Wf ps r ∧ f < ps.length ∧ ps.length ≤ 16 ∧ ks.length = ps.length ∧ x.length = ps.length ∧ y.length = ps.length ∧ ∀ H', Same H H' → Q (.int (if older ps ks x y f = true then 0 else 1)) H'
theorem ok_side : Ok1 P w K mg base CX0 2 "_law_side" ["_law_parents_here", "_law_kinds_here", "_law_field", "_law_older", "_law_newer"] (spSide K) := by
  have Glaw_path : Ok1 P w K mg base CX0 1 "_law_path" ["_law_parents_here", "_law_field"] (spLp K) := ok_lp T
  refine T.d_law_side.ok sc_law_side (fun vs H Q E h => ?_) (fun ff cdv A outer s H vs Q E hr h => ?_)
  · obtain ⟨pa, ka, oa, na, ps, ks, r, f, x, y, rfl, _⟩ := h; rfl
  · obtain ⟨pa, ka, oa, na, ps, ks, r, f, x, y, rfl, hp, hk, hx, hy, W, hf, hn, lk, lx, ly, q⟩ := h
    refine ⟨_, (pss_cons (ps_for PassesOwn.never rfl (pi_list (pe_c Glaw_path (hr.mono (by decide)) pass0 (pa_cons (pv 0) (pa_cons (pv 2) pa_nil)))) (pg_name (i := 5) sc_law_side.nd rfl (Or.inl rfl))
        (pss_one (ps_if (pt_cmpR op_ne (pe_ix ix_tup (pv 3) (pv 5) (fun _ _ => rfl)) (pe_ix ix_tup (pv 4) (pv 5) (fun _ _ => rfl)) (nomark _))
          (pss_cons (ps_if (pt_cmpR op_eq (pe_ix ix_list (pv 1) (pv 5) (fun _ _ => rfl)) pe_str (nomark _))
              (pss_one (ps_ret pe_int))
              pss_nil)
            (pss_cons (ps_if (pt_cmpR op_eq (pe_ix ix_list (pv 1) (pv 5) (fun _ _ => rfl)) pe_str (nomark _))
              (pss_one (ps_ret pe_int))
              pss_nil)
            (pss_one (ps_ret (pe_callTy call_int1 (by rfl) T.z_int (by decide +kernel) (pa_cons (pe_cmpR op_ne (pe_cmpR op_gt (pe_ix ix_tup (pv 3) (pv 5) (fun _ _ => rfl)) (pe_ix ix_tup (pv 4) (pv 5) (fun _ _ => rfl)) (nomark _)) (pe_cmpR op_eq (pe_ix ix_list (pv 1) (pv 5) (fun _ _ => rfl)) pe_str (nomark _)) (nomark _)) pa_nil))))))
          pss_nil)))
      (pss_one (ps_ret pe_int))), ?_⟩
    refine sqf ⟨_, rfl, _, rfl, pa, ps, r, f, rfl, hp, W, hf, hn, fun H1 a S1 ha hpa => ⟨a, rfl, ⟨_, SqL.of hpa⟩, ?_⟩⟩
    refine for_list (xs := vN (pathL ps f)) (fun i σ H' => (∃ v, σ = [some (.ref pa), some (.ref ka), some (.int (f : Int)), some (.ref oa), some (.ref na), v]) ∧ Same H1 H' ∧ (((pathL ps f).take i).find? fun p => rg x p != rg y p) = none) ⟨⟨_, rfl⟩, Same.refl H1, rfl⟩ (fun i σ H' _ h => SqL.of (h.2.1 _ _ hpa)) ?_ ?_
    · rintro i v σ H' hi ⟨⟨v0, rfl⟩, S2, hpre⟩
      have hil : i < (pathL ps f).length := by
        have := (List.getElem?_eq_some_iff.mp hi).1
        rw [vN_len] at this; exact this
      have hq : (pathL ps f)[i]? = some ((pathL ps f)[i]) := List.getElem?_eq_getElem hil
      rw [vN_at hq] at hi
      cases hi
      have hpl : (pathL ps f)[i] < ps.length := path_mem_lt W hf (List.getElem_mem hil)
      generalize (pathL ps f)[i] = p at hq hpl
      have S := Same.trans S1 S2
      have hx2 := Same.st S hx
      have hy2 := Same.st S hy
      have hk2 := Same.sl S hk
      have ax := atN (vI_at (l := x) (i := p) (by omega))
      have ay := atN (vI_at (l := y) (i := p) (by omega))
      have ak := atN (vK_at (ks := ks) (i := p) (by omega))
      refine gn ?_
      refine sif ⟨_, rfl, _, rfl, _, _, _, _, rfl, rfl, hx2, ax, _, rfl, _, rfl, _, _, _, _, rfl, rfl, hy2, ay, rfl, _, rfl, ?_⟩
      by_cases hne : rg x p = rg y p
      · refine iteD false (by rw [hne]; simp) (iteF (snx ?_))
        exact ⟨⟨_, rfl⟩, S2, take_none hq hpre (by simpa using hne)⟩
      · have hfu : older ps ks x y f = (decide (kd ks p = .first) || bet (kd ks p) (rg x p) (rg y p)) := by
          have : fu ps x y f = some p := take_some hq hpre (by simpa using hne)
          unfold older
          rw [this]; rfl
        have qq := q H' S
        rw [hfu] at qq
        refine iteD true (by simpa using hne) (iteT ?_)
        refine sqi ⟨_, rfl, _, rfl, _, _, _, _, rfl, rfl, hk2, ak, rfl, _, rfl, iteD _ (kS_first _) ?_⟩
        by_cases c1 : kd ks p = .first
        · rw [sd_first c1, if_pos rfl] at qq
          exact iteD true (by simpa using c1) (iteT qq)
        · refine iteD false (by simpa using c1) (iteF (snx ?_))
          dsimp only
          refine sqi ⟨_, rfl, _, rfl, _, _, _, _, rfl, rfl, hk2, ak, rfl, _, rfl, iteD _ (kS_last _) ?_⟩
          by_cases c2 : kd ks p = .last
          · rw [sd_last c2, if_neg (by decide)] at qq
            exact iteD true (by simpa using c2) (iteT qq)
          · refine iteD false (by simpa using c2) (iteF (snx ?_))
            dsimp only
            refine srt ⟨_, rfl, _, rfl, _, _, _, _, rfl, rfl, hx2, ax, _, rfl, _, rfl, _, _, _, _, rfl, rfl, hy2, ay, _, _, rfl, rfl, _, rfl, _, rfl, _, _, _, _, rfl, rfl, hk2, ak, rfl, rfl, .inr ⟨_, rfl, qv qq ?_⟩⟩
            rw [kS_up, sd_else c1 c2 hne]
            cases (decide (kd ks p = .first) || bet (kd ks p) (rg x p) (rg y p)) <;> rfl
    · rintro σ H' ⟨⟨v, rfl⟩, S2, hpre⟩
      rw [vN_len, List.take_length] at hpre
      have hfu : older ps ks x y f = true := by
        have : fu ps x y f = none := hpre
        unfold older
        rw [this]; rfl
      have qq := q H' (Same.trans S1 S2)
      rw [hfu, if_pos rfl] at qq
      dsimp only
      exact srt qq
def spLm (K : PySem.W.Frag) : Sp := fun vs H Q _ => ∃ (pa ka oa na : Addr) (ps : Par) (ks : List Kd) (r : Nat → Nat) (x y : List Int), vs = [.ref pa, .ref ka, .ref oa, .ref na] ∧ SqL K H pa (vP ps) ∧ SqL K H ka (vK ks) ∧ SqT K H oa (vI x) ∧ SqT K H na (vI y) ∧
  Wf ps r ∧ ps.length ≤ 16 ∧ ks.length = ps.length ∧ x.length = ps.length ∧ y.length = ps.length ∧ ∀ H' p, Same H H' → H p = none → H' p = some (.tup (vI (merge ps ks x y))) → Q (.ref p) H'
theorem ok_lm : Ok1 P w K mg base CX0 3 "_law_merge" ["_law_parents_here", "_law_kinds_here", "_law_older", "_law_newer"] (spLm K) := by
  have Glaw_side : Ok1 P w K mg base CX0 2 "_law_side" ["_law_parents_here", "_law_kinds_here", "_law_field", "_law_older", "_law_newer"] (spSide K) := ok_side T
  refine T.d_law_merge.ok sc_law_merge (fun vs H Q E h => ?_) (fun ff cdv A outer s H vs Q E hr h => ?_)
  · obtain ⟨pa, ka, oa, na, ps, ks, r, x, y, rfl, _⟩ := h; rfl
  · obtain ⟨pa, ka, oa, na, ps, ks, r, x, y, rfl, hp, hk, hx, hy, W, hn, lk, lx, ly, q⟩ := h
    refine ⟨_, (pss_cons (ps_set (i := 4) sc_law_merge.nd rfl (Or.inr rfl) (pe_lst (pa_cons (pv 2) (pa_cons (pv 3) pa_nil))))
      (pss_one (ps_ret (pe_callTy call_tuple_of (by rfl) T.z_tuple (by decide +kernel) (pa_cons (pe_lc (own := [("_law_f", 5)]) (g := gName 5) rfl sc_law_merge.nd (pi_range1 (by rfl) T.z_range (pa_cons (pe_callB call_len_seq (by rfl) T.z_len (by decide +kernel) (pa_cons (pv 0) pa_nil)) pa_nil)) (blkOk_by (own := [("_law_f", 5)]) (N := ["_law_parents_here", "_law_kinds_here", "_law_older", "_law_newer", "_law_pair", "_law_f"]) (sc := defScope s_law_merge) (by decide +kernel)) (fun _ _ _ _ _ => pg_name (i := 5) sc_law_merge.nd rfl (Or.inl rfl)) (fun _ _ _ _ _ => pts_nil) (fun _ _ _ _ _ => (pe_ix (ix_tupK K rfl) (pe_ix (ix_listK K rfl) (pv 4) (pe_c Glaw_side (hr.mono (by decide)) pass0 (pa_cons (pv 0) (pa_cons (pv 1) (pa_cons (pv 5) (pa_cons (pv 2) (pa_cons (pv 3) pa_nil)))))) (fun _ _ => rfl)) (pv 5) (fun _ _ => rfl)))) pa_nil))))), ?_⟩
    refine sq ⟨_, rfl, _, rfl, by show 2 ≤ sizeLine; decide, fun b hb => ?_⟩
    have S0 := Same.new (o := .lst [V.ref oa, V.ref na]) hb
    have hb1 : L2.upd H b (.lst [V.ref oa, V.ref na]) b = some (.lst [V.ref oa, V.ref na]) := upd_same
    generalize L2.upd H b (.lst [V.ref oa, V.ref na]) = H1 at S0 hb1 ⊢
    refine srt ⟨_, rfl, pa, vP ps, rfl, .inl (Same.sl S0 hp), _, rfl, by rw [vP_len]; omega, by rw [vP_len]; omega, fun D hD => ?_⟩
    refine lc_rgP ps.length (by rw [vP_len]) (fun _ => true) (fun j => .int (if older ps ks x y j then rg x j else rg y j)) (by omega) hD (fun x => rfl) (fun j hj => fun H3 e3 Q3 q3 => q3 H3 (Evl.Ex.refl _)) (fun j hj _ => fun H3 e3 Q3 q3 => ?_) (fun H3 S3 h3 => ?_)
    · have S3 := Same.trans S0 e3
      refine ⟨_, rfl, _, rfl, _, rfl, _, rfl, _, rfl, _, rfl, pa, ka, oa, na, ps, ks, r, j, x, y, rfl, Same.sl S3 hp, Same.sl S3 hk, Same.st S3 hx, Same.st S3 hy, W, hj, hn, lk, lx, ly, fun H4 S4 => ?_⟩
      cases c : older ps ks x y j with
      | true =>
        have := q3 H4 S4
        rw [c, if_pos rfl] at this
        exact ⟨b, _, (0 : Int), V.ref oa, rfl, rfl, SqL.of (S4 _ _ (e3 _ _ hb1)), atN (n := 0) rfl, _, rfl, _, _, _, _, rfl, rfl, Same.st (Same.trans S3 S4) hx, atN (vI_at (by omega)), this⟩
      | false =>
        have := q3 H4 S4
        rw [c, if_neg (by decide)] at this
        exact ⟨b, _, (1 : Int), V.ref na, rfl, rfl, SqL.of (S4 _ _ (e3 _ _ hb1)), atN (n := 1) rfl, _, rfl, _, _, _, _, rfl, rfl, Same.st (Same.trans S3 S4) hy, atN (vI_at (by omega)), this⟩
    · refine ⟨D, _, rfl, .inl ⟨SqL.of h3, fun p hp => q _ p (Same.trans S0 (Same.trans S3 (Same.new hp))) (Same.free (Same.trans S0 S3) hp) ?_⟩⟩
      rw [upd_same]
      unfold Evl.given merge vI
      rw [filter_tt, List.map_map]
      rfl
end
end Fr

/-! # FrL8 -/
namespace Fr
open PySem PySem.Spec PyProof.Rows L2 FR
theorem unf_two (k : Kd) : (decide (k = .first) || decide (k = .last)) = !fairK k := by cases k <;> rfl
section
variable {P : Program} {w : World} {K : PySem.W.Frag} {mg : Str → Option Value} {base : Heap} (T : Tx K mg)
include T
def spIs : Sp := fun vs H Q _ => ∃ (z : Int), vs = [.int z] ∧ ∀ H', Same H H' → Q (.bl true) H'
theorem ok_is : Ok1 P w K mg base CX0 1 "_law_is_integer" ["_law_actual"] spIs := by
  refine T.d_law_is_integer.ok sc_law_is_integer (fun vs H Q E h => ?_) (fun ff cdv A outer s H vs Q E hr h => ?_)
  · obtain ⟨z, rfl, _⟩ := h; rfl
  · obtain ⟨z, rfl, q⟩ := h
    refine ⟨_, (pss_one (ps_ret (pe_and (pe_callB call_isi (by rfl) T.z_isinstance (by decide +kernel) (pa_cons (pv 0) (pa_cons (pe_bltn (v := .ty "int") (by rfl) T.z_int (by decide +kernel) rfl) pa_nil))) (pe_one (pe_not (pe_callB call_isi (by rfl) T.z_isinstance (by decide +kernel) (pa_cons (pv 0) (pa_cons (pe_bltn (v := .ty "bool") (by rfl) T.z_bool (by decide +kernel) rfl) pa_nil)))))))), ?_⟩
    refine srt ⟨_, rfl, _, _, _, _, true, rfl, .ty "int", .base (.int z), kit_ty (by decide +kernel), _, rfl, ?_⟩
    exact iteT ⟨_, rfl, _, _, _, _, false, rfl, .ty "bool", .base (.int z), kit_ty (by decide +kernel), _, rfl, q H (Same.refl H)⟩
def spIr : Sp := fun vs H Q _ => ∃ (a : Addr) (l : List Int), vs = [.ref a, .int (l.length : Int)] ∧ H a = some (.tup (vI l)) ∧ ∀ H', Same H H' → Q (.bl true) H'
theorem ok_ir : Ok1 P w K mg base CX0 2 "_law_is_record" ["_law_actual", "_law_n"] spIr := by
  have Glaw_is_integer : Ok1 P w K mg base CX0 1 "_law_is_integer" ["_law_actual"] spIs := ok_is T
  refine T.d_law_is_record.ok sc_law_is_record (fun vs H Q E h => ?_) (fun ff cdv A outer s H vs Q E hr h => ?_)
  · obtain ⟨a, l, rfl, _⟩ := h; rfl
  · obtain ⟨a, l, rfl, ha, q⟩ := h
    refine ⟨_, (pss_cons (ps_if (PW.pt (pw_or (pt_not (pt_val (pe_callB call_isi (by rfl) T.z_isinstance (by decide +kernel) (pa_cons (pv 0) (pa_cons (pe_bltn (v := .ty "tuple") (by rfl) T.z_tuple (by decide +kernel) rfl) pa_nil))))) (pw_or1 (pt_cmpR op_ne (pe_callB call_len_seq (by rfl) T.z_len (by decide +kernel) (pa_cons (pv 0) pa_nil)) (pv 1) (nomark _)))))
        (pss_one (ps_ret pe_bl))
        pss_nil)
      (pss_cons (ps_for PassesOwn.never rfl (pi_tup (pv 0)) (pg_name (i := 2) sc_law_is_record.nd rfl (Or.inl rfl))
        (pss_one (ps_if (pt_not (pt_val (pe_c Glaw_is_integer (hr.mono (by decide)) pass0 (pa_cons (pv 2) pa_nil))))
          (pss_one (ps_ret pe_bl))
          pss_nil)))
      (pss_one (ps_ret pe_bl)))), ?_⟩
    refine sqi ⟨_, rfl, _, _, _, _, true, rfl, .ty "tuple", .base (.tup ha), kit_ty (by decide +kernel), _, rfl, iteD false rfl (iteF ?_)⟩
    refine ⟨_, rfl, a, vI l, rfl, .inr (SqT.of ha), _, rfl, rfl, _, rfl, ?_⟩
    rw [vI_len]
    refine iteD false (by simp) (iteF (snx ?_))
    dsimp only
    refine sqf ⟨_, rfl, a, rfl, ⟨_, SqT.of ha⟩, for_tup (xs := vI l) (fun i σ H' => (∃ v, σ = [some (.ref a), some (.int (l.length : Int)), v]) ∧ Same H H') ⟨⟨_, rfl⟩, Same.refl H⟩ (fun i σ H' _ h => SqT.of (h.2 _ _ ha)) ?_ ?_⟩
    · rintro i v σ H' hi ⟨⟨v0, rfl⟩, S1⟩
      have hil : i < l.length := by
        have := (List.getElem?_eq_some_iff.mp hi).1
        rw [vI_len] at this; exact this
      rw [vI_at hil] at hi
      cases hi
      refine gn ?_
      refine sif ⟨_, rfl, _, rfl, fun H2 S2 => ⟨_, rfl, iteD false rfl (iteF (snx ⟨⟨_, rfl⟩, Same.trans S1 S2⟩))⟩⟩
    · rintro σ H' ⟨⟨v, rfl⟩, S1⟩
      dsimp only
      exact srt (q H' S1)
def spSize : Sp := fun vs H Q _ => ∃ (t : Addr), vs = [.ref t] ∧ Tp H t ∧ ∀ H' (n : Nat), But t H H' → Tp H' t → 1 ≤ n → n ≤ 8 → Q (.int (n : Int)) H'
theorem ok_size : Ok1 P w K mg base CX0 2 "_law_size" ["_law_tape_here"] spSize := by
  have Glaw_take : Ok1 P w K mg base CX0 1 "_law_take" ["_law_tape_here", "_law_size_here"] spTk := ok_tk T
  refine T.d_law_size.ok sc_law_size (fun vs H Q E h => ?_) (fun ff cdv A outer s H vs Q E hr h => ?_)
  · obtain ⟨t, rfl, _⟩ := h; rfl
  · obtain ⟨t, rfl, ht, q⟩ := h
    refine ⟨_, (pss_cons (ps_set (i := 1) sc_law_size.nd rfl (Or.inl rfl) (pe_op op_add pe_int (pe_c Glaw_take (hr.mono (by decide)) pass0 (pa_cons (pv 0) (pa_cons pe_int pa_nil)))))
      (pss_cons (ps_if (pt_cmpR op_eq (pe_c Glaw_take (hr.mono (by decide)) pass0 (pa_cons (pv 0) (pa_cons pe_int pa_nil))) pe_int (nomark _))
        (pss_one (ps_set (i := 1) sc_law_size.nd rfl (Or.inl rfl) (pe_op op_add pe_int (pe_c Glaw_take (hr.mono (by decide)) pass0 (pa_cons (pv 0) (pa_cons pe_int pa_nil))))))
        pss_nil)
      (pss_one (ps_ret (pv 1))))), ?_⟩
    refine sq ⟨_, rfl, t, 6, rfl, ht, by decide, by decide, fun H1 r1 B1 T1 l1 => ⟨_, _, rfl, rfl, ?_⟩⟩
    refine sqi ⟨_, rfl, t, 8, rfl, T1, by decide, by decide, fun H2 r2 B2 T2 l2 => ⟨rfl, _, rfl, ?_⟩⟩
    have B := But.trans B1 B2
    by_cases e : r2 = 0
    · refine iteD true (by subst e; rfl) (iteT ?_)
      refine s1 ⟨_, rfl, t, 2, rfl, T2, by decide, by decide, fun H3 r3 B3 T3 l3 => ⟨_, _, rfl, rfl, ?_⟩⟩
      dsimp only
      refine srt ⟨_, rfl, ?_⟩
      have : (7 : Int) + (r3 : Int) = ((7 + r3 : Nat) : Int) := by omega
      rw [this]
      exact q H3 (7 + r3) (But.trans B B3) T3 (by omega) (by omega)
    · refine iteD false (by simp; omega) (iteF (snx ?_))
      dsimp only
      refine srt ⟨_, rfl, ?_⟩
      have : (1 : Int) + (r1 : Int) = ((1 + r1 : Nat) : Int) := by omega
      rw [this]
      exact q H2 (1 + r1) B T2 (by omega) (by omega)
def spRaised : Sp := fun vs H Q _ => ∃ (k : Kd) (v b : Int), vs = [.str (kS k), .int v, .int b] ∧ b ≠ 0 ∧ ∀ H' z, Same H H' → z ≠ v → Q (.int z) H'
theorem ok_raised : Ok1 P w K mg base CX0 1 "_law_raised" ["_law_kind", "_law_value_here", "_law_by"] spRaised := by
  refine T.d_law_raised.ok sc_law_raised (fun vs H Q E h => ?_) (fun ff cdv A outer s H vs Q E hr h => ?_)
  · obtain ⟨k, v, b, rfl, _⟩ := h; rfl
  · obtain ⟨k, v, b, rfl, hb, q⟩ := h
    refine ⟨_, (pss_cons (ps_if (pt_cmpR op_eq (pv 0) pe_str (nomark _))
        (pss_one (ps_ret (pe_op op_sub (pv 1) (pv 2))))
        pss_nil)
      (pss_one (ps_ret (pe_op op_add (pv 1) (pv 2))))), ?_⟩
    refine sqi ⟨_, rfl, rfl, _, rfl, iteD _ (kS_down _) (ite2 (fun e => ?_) (fun e => ?_))⟩
    · exact ⟨_, rfl, _, rfl, _, _, rfl, rfl, q H _ (Same.refl H) (by omega)⟩
    · refine snx ?_
      dsimp only
      exact srt ⟨_, rfl, _, rfl, _, _, rfl, rfl, q H _ (Same.refl H) (by omega)⟩
def spNf : Sp := fun vs H Q _ => ∃ (t : Addr) (n : Int), vs = [.ref t, .int n] ∧ Tp H t ∧ ∀ H' (z : Int), But t H H' → Tp H' t → Q (.int z) H'
theorem ok_nf : Ok1 P w K mg base CX0 2 "_law_no_field" ["_law_tape_here", "_law_n"] spNf := by
  have Glaw_take : Ok1 P w K mg base CX0 1 "_law_take" ["_law_tape_here", "_law_size_here"] spTk := ok_tk T
  refine T.d_law_no_field.ok sc_law_no_field (fun vs H Q E h => ?_) (fun ff cdv A outer s H vs Q E hr h => ?_)
  · obtain ⟨t, n, rfl, _⟩ := h; rfl
  · obtain ⟨t, n, rfl, ht, q⟩ := h
    refine ⟨_, (pss_one (ps_ret (pe_ix ix_list (pe_lst (pa_cons (pe_op op_sub pe_int pe_int) (pa_cons (pv 1) (pa_cons (pe_op op_add (pv 1) pe_int) (pa_cons (pe_op op_sub pe_int (pv 1)) (pa_cons (pe_op op_sub (pe_op op_sub pe_int (pv 1)) pe_int) (pa_cons (pe_op op_pow pe_int pe_int) pa_nil))))))) (pe_c Glaw_take (hr.mono (by decide)) pass0 (pa_cons (pv 0) (pa_cons pe_int pa_nil))) (fun _ _ => rfl)))), ?_⟩
    refine srt ⟨_, _, rfl, rfl, _, rfl, _, rfl, _, _, rfl, rfl, _, rfl, _, _, rfl, rfl, _, rfl, _, _, rfl, rfl, _, _, rfl, rfl, _, _, rfl, rfl, ⟨by decide, by decide, by decide⟩, small (show 6 ≤ 1000 by decide), fun p hp => ?_⟩
    have np := ht.ne hp
    refine ⟨_, rfl, t, 6, rfl, ht.upd np, by decide, by decide, fun H1 r B1 T1 lr => ?_⟩
    have hp1 := B1 _ _ np upd_same
    have B := But.trans (But.fresh (o := _) (But.refl t H) hp) B1
    have fin : ∀ z : Int, _ → Q (.int z) H1 := fun z (_ : True) => q H1 z B T1
    refine ⟨p, _, _, V.int (rg [0 - 1, n, n + 1, 0 - n, 0 - n - 1, 10 ^ (20 : Nat)] r), rfl, rfl, SqL.of hp1, atN ?_, fin _ trivial⟩
    match r, lr with
    | 0, _ => rfl
    | 1, _ => rfl
    | 2, _ => rfl
    | 3, _ => rfl
    | 4, _ => rfl
    | 5, _ => rfl
def lvl : Kd → Kd
  | .first => .up
  | .last => .down
  | k => k
theorem lvl_fair (k : Kd) : fairK (lvl k) = true := by cases k <;> rfl
def spLevel (K : PySem.W.Frag) : Sp := fun vs H Q _ => ∃ (ka : Addr) (ks : List Kd), vs = [.ref ka] ∧ SqL K H ka (vK ks) ∧ ks.length ≤ 16 ∧ ∀ H' p, Same H H' → H p = none → H' p = some (.lst (vK (ks.map lvl))) → Q (.ref p) H'
theorem ok_level : Ok1 P w K mg base CX0 1 "_law_level" ["_law_kinds_here"] (spLevel K) := by
  refine T.d_law_level.ok sc_law_level (fun vs H Q E h => ?_) (fun ff cdv A outer s H vs Q E hr h => ?_)
  · obtain ⟨ka, ks, rfl, _⟩ := h; rfl
  · obtain ⟨ka, ks, rfl, hk, hn, q⟩ := h
    refine ⟨_, (pss_cons (ps_set (i := 1) sc_law_level.nd rfl (Or.inl rfl) (pe_lst pa_nil))
      (pss_cons (ps_for PassesOwn.never rfl (pi_list (pv 0)) (pg_name (i := 2) sc_law_level.nd rfl (Or.inl rfl))
        (pss_one (ps_if (pt_cmpR op_eq (pv 2) pe_str (nomark _))
          (pss_one (ps_expr (pe_bm PySem.F.plainAttrs_list PySem.F.slot_list_append PySem.F.type_list_append mt_append (pv 1) (pa_cons pe_str pa_nil))))
          (pss_one (ps_if (pt_cmpR op_eq (pv 2) pe_str (nomark _))
            (pss_one (ps_expr (pe_bm PySem.F.plainAttrs_list PySem.F.slot_list_append PySem.F.type_list_append mt_append (pv 1) (pa_cons pe_str pa_nil))))
            (pss_one (ps_expr (pe_bm PySem.F.plainAttrs_list PySem.F.slot_list_append PySem.F.type_list_append mt_append (pv 1) (pa_cons (pv 2) pa_nil)))))))))
      (pss_one (ps_ret (pv 1))))), ?_⟩
    refine sq ⟨Nat.zero_le _, fun b hb => ?_⟩
    have S0 := Same.new (o := .lst []) hb
    refine sqf ⟨_, rfl, ka, rfl, ⟨_, Same.sl S0 hk⟩, for_list (xs := vK ks) (fun i σ H' => (∃ v, σ = [some (.ref ka), some (.ref b), v]) ∧ Same H H' ∧ H' b = some (.lst (vK ((ks.take i).map lvl)))) ⟨⟨_, rfl⟩, S0, upd_same⟩ (fun i σ H' _ h => Same.sl h.2.1 hk) ?_ ?_⟩
    · rintro i v σ H' hi ⟨⟨v0, rfl⟩, S1, hb1⟩
      have hil : i < ks.length := by
        have := (List.getElem?_eq_some_iff.mp hi).1
        rw [vK_len] at this; exact this
      rw [vK_at hil] at hi
      cases hi
      have hz : ((ks.take (i + 1)).map lvl) = (ks.take i).map lvl ++ [lvl (kd ks i)] := by
        rw [List.take_succ, List.map_append]
        unfold kd
        rw [List.getD_eq_getElem?_getD, List.getElem?_eq_getElem hil]
        rfl
      have lt : (vK ((ks.take i).map lvl)).length < sizeLine := by
        rw [vK_len, List.length_map, List.length_take]
        exact smallL (by omega)
      have fin : ∀ k : Kd, lvl (kd ks i) = k → (∃ v, [some (V.ref ka), some (V.ref b), some (V.str (kS (kd ks i)))] = [some (.ref ka), some (.ref b), v]) ∧ Same H (L2.upd H' b (.lst (vK ((ks.take i).map lvl) ++ [V.str (kS k)]))) ∧ L2.upd H' b (.lst (vK ((ks.take i).map lvl) ++ [V.str (kS k)])) b = some (.lst (vK ((ks.take (i + 1)).map lvl))) := fun k e =>
        ⟨⟨_, rfl⟩, fun c o z => by rw [upd_ne (ne_of_none z hb)]; exact S1 _ _ z, by rw [upd_same, hz, e, vK_app]⟩
      refine gn ?_
      refine sif ⟨_, rfl, rfl, _, rfl, iteD _ (kS_first _) (ite2 (fun e => ?_) (fun e => ?_))⟩
      · exact ⟨_, rfl, .inl ⟨rfl, _, SqL.of hb1⟩, b, _, _, rfl, rfl, hb1, lt, fin .up (by rw [of_decide_eq_true e]; rfl)⟩
      · refine sif ⟨_, rfl, rfl, _, rfl, iteD _ (kS_last _) (ite2 (fun e2 => ?_) (fun e2 => ?_))⟩
        · exact ⟨_, rfl, .inl ⟨rfl, _, SqL.of hb1⟩, b, _, _, rfl, rfl, hb1, lt, fin .down (by rw [of_decide_eq_true e2]; rfl)⟩
        · refine ⟨_, rfl, .inl ⟨rfl, _, SqL.of hb1⟩, _, rfl, b, _, _, rfl, rfl, hb1, lt, fin (kd ks i) ?_⟩
          cases c : kd ks i with
          | up => rfl
          | down => rfl
          | first => exact absurd (decide_eq_true c) e
          | last => exact absurd (decide_eq_true c) e2
    · rintro σ H' ⟨⟨v, rfl⟩, S1, hb1⟩
      rw [vK_len, List.take_length] at hb1
      dsimp only
      exact srt ⟨_, rfl, q H' b S1 hb hb1⟩
end
end Fr

/-! # FrL9 -/
namespace Fr
open PySem PySem.Spec PyProof.Rows L2 FR
/-! ## the keys of a dict, walked -/
theorem for_keys {d : Addr} {o : Obj} {kvs : List (Key × V)} {g : TG} {tb : TS} {D : Ends} {σ : L2.St} {H : Hp} (Pv : Nat → L2.St → Hp → Prop) (h0 : Pv 0 σ H) (hl : ∀ i σ H, i ≤ kvs.length → Pv i σ H → H d = some (.frz o (.dK kvs)))
    (hs : ∀ i k v σ H, kvs[i]? = some (k, v) → Pv i σ H → g (kV k) σ H fun σ2 H2 => tb { D with nx := Pv (i + 1), ct := Pv (i + 1), bk := D.nx } σ2 H2) (hd : ∀ σ H, Pv kvs.length σ H → D.nx σ H) :
    ∃ W : Nat → Nat → L2.St → Hp → Prop, (∃ m, W 0 m σ H) ∧ ∀ i m σ H, W i m σ H →
      ((Itk d o kvs).stop i H ∧ D.nx σ H) ∨ ((Itk d o kvs).go i H ∧ ∃ N : L2.St → Hp → Prop, (∀ σ' H', N σ' H' → ∃ m', m' < m ∧ W (i + 1) m' σ' H') ∧ ∀ x H', (Itk d o kvs).yld i H x H' → g x σ H' fun σ2 H2 => tb { D with nx := N, ct := N, bk := D.nx } σ2 H2) := by
  refine ⟨fun i m σ H => m = kvs.length - i ∧ i ≤ kvs.length ∧ Pv i σ H, ⟨kvs.length, by simp, Nat.zero_le _, h0⟩, ?_⟩
  rintro i m σ H ⟨rfl, hi, p⟩
  have q := hl i σ H hi p
  by_cases hlt : i < kvs.length
  · refine .inr ⟨⟨q, hlt⟩, Pv (i + 1), fun σ' H' p' => ⟨kvs.length - (i + 1), by omega, rfl, hlt, p'⟩, fun x H' y => ?_⟩
    obtain ⟨e, k, v, hk, hx⟩ := y
    subst e
    subst hx
    exact hs i k v σ _ hk p
  · have e : i = kvs.length := by omega
    subst e
    exact .inl ⟨⟨q, Nat.le_refl _⟩, hd σ H p⟩
theorem lc_keys {d : Addr} {o : Obj} {kvs : List (Key × V)} {g : TG} {tt : TT} {te : TE} {vs : List Nat} {σ : L2.St} {H1 : Hp} {D : Addr} {Qd : Hp → Prop} (Pv : Nat → Hp → Prop) (h0 : Pv 0 (upd H1 D (.lst []))) (hl : ∀ i H, i ≤ kvs.length → Pv i H → H d = some (.frz o (.dK kvs)))
    (hs : ∀ i k v H, kvs[i]? = some (k, v) → Pv i H → g (kV k) (wipe σ vs) H fun σ2 H2 => wipe σ2 vs = wipe σ vs ∧ tt σ2 H2 fun b H3 =>
      if b = true then te σ2 H3 fun y H4 => ∃ acc, H4 D = some (.lst acc) ∧ acc.length < sizeLine ∧ Pv (i + 1) (upd H4 D (.lst (acc ++ [y]))) else Pv (i + 1) H3) (hd : ∀ H, Pv kvs.length H → Qd H) :
    ∃ W : Nat → Nat → Hp → Prop, (∃ m, W 0 m (upd H1 D (.lst []))) ∧ ∀ i m H, W i m H →
      ((Itk d o kvs).stop i H ∧ Qd H) ∨ ((Itk d o kvs).go i H ∧ ∃ Nx : Hp → Prop, (∀ H', Nx H' → ∃ m', m' < m ∧ W (i + 1) m' H') ∧ ∀ x H', (Itk d o kvs).yld i H x H' → g x (wipe σ vs) H' fun σ2 H2 => wipe σ2 vs = wipe σ vs ∧ tt σ2 H2 fun b H3 =>
        if b = true then te σ2 H3 fun y H4 => ∃ acc, H4 D = some (.lst acc) ∧ acc.length < sizeLine ∧ Nx (upd H4 D (.lst (acc ++ [y]))) else Nx H3) := by
  refine ⟨fun i m H => m = kvs.length - i ∧ i ≤ kvs.length ∧ Pv i H, ⟨kvs.length, by simp, Nat.zero_le _, h0⟩, ?_⟩
  rintro i m H ⟨rfl, hi, p⟩
  have q := hl i H hi p
  by_cases hlt : i < kvs.length
  · refine .inr ⟨⟨q, hlt⟩, Pv (i + 1), fun H' p' => ⟨kvs.length - (i + 1), by omega, rfl, hlt, p'⟩, fun x H' y => ?_⟩
    obtain ⟨e, k, v, hk, hx⟩ := y
    subst e
    subst hx
    exact hs i k v _ hk p
  · have e : i = kvs.length := by omega
    subst e
    exact .inl ⟨⟨q, Nat.le_refl _⟩, hd H p⟩
theorem lock_same {H H' : Hp} {d : Addr} {u : HO} {od : Obj} (hd : H d = some u) (S : Same (L2.upd H d (.frz od u)) H') : Same H (L2.upd H' d u) := fun b o e => by
  by_cases c : b = d
  · subst c; rw [upd_same, ← hd]; exact e
  · rw [upd_ne c]
    exact S _ _ (by rw [upd_ne c]; exact e)
theorem vD_at {cs : List (Nat × Int)} {i : Nat} {k : Key} {v : V} (h : (vD cs)[i]? = some (k, v)) : ∃ p, cs[i]? = some p ∧ k = Sum.inl (p.1 : Int) ∧ v = .int p.2 := by
  unfold vD at h
  rw [List.getElem?_map] at h
  cases q : cs[i]? with
  | none => rw [q] at h; cases h
  | some p => rw [q] at h; cases h; exact ⟨p, rfl, rfl, rfl⟩
section
variable {P : Program} {w : World} {K : PySem.W.Frag} {mg : Str → Option Value} {base : Heap} (T : Tx K mg) {C : Addr} (Fc : FoC K mg C)
include T
def spUnf (K : PySem.W.Frag) : Sp := fun vs H Q _ => ∃ (ka : Addr) (ks : List Kd), vs = [.ref ka] ∧ SqL K H ka (vK ks) ∧ ks.length ≤ 16 ∧ (unf ks = none → ∀ H', Same H H' → Q .non H') ∧
  ∀ f, unf ks = some f → ∀ H' p, Same H H' → H p = none → H' p = some (.tup [.str "NotFair", .int ((f : Nat) : Int)]) → Q (.ref p) H'
theorem ok_unf : Ok1 P w K mg base CX0 1 "_law_unfair" ["_law_kinds_here"] (spUnf K) := by
  refine T.d_law_unfair.ok sc_law_unfair (fun vs H Q E h => ?_) (fun ff cdv A outer s H vs Q E hr h => ?_)
  · obtain ⟨ka, ks, rfl, _⟩ := h; rfl
  · obtain ⟨ka, ks, rfl, hk, hn, q1, q2⟩ := h
    refine ⟨_, (pss_cons (ps_for PassesOwn.never rfl (pi_range1 (by rfl) T.z_range (pa_cons (pe_callB call_len_seq (by rfl) T.z_len (by decide +kernel) (pa_cons (pv 0) pa_nil)) pa_nil)) (pg_name (i := 1) sc_law_unfair.nd rfl (Or.inl rfl))
        (pss_one (ps_if (PW.pt (pw_or (pt_cmpR op_eq (pe_ix ix_list (pv 0) (pv 1) (fun _ _ => rfl)) pe_str (nomark _)) (pw_or1 (pt_cmpR op_eq (pe_ix ix_list (pv 0) (pv 1) (fun _ _ => rfl)) pe_str (nomark _)))))
          (pss_one (ps_ret (pe_tup (pa_cons pe_str (pa_cons (pv 1) pa_nil)))))
          pss_nil)))
      (pss_one (ps_ret pe_non))), ?_⟩
    refine sqf ⟨_, rfl, ka, vK ks, rfl, .inl hk, _, rfl, by rw [vK_len]; omega, by rw [vK_len]; omega, for_rg ks.length (by rw [vK_len]) (fun i σ H' => (∃ v, σ = [some (.ref ka), v]) ∧ Same H H' ∧ ((List.range ks.length).take i).find? (fun f => !fairK (kd ks f)) = none) ⟨⟨_, rfl⟩, Same.refl H, rfl⟩ ?_ ?_⟩
    · rintro i σ H' hi ⟨⟨v0, rfl⟩, S1, hpre⟩
      have hx : (List.range ks.length)[i]? = some i := List.getElem?_range (by omega)
      refine gn ?_
      refine if_use (!fairK (kd ks i)) (fun Q' q' => ?_) (fun e H2 S2 => ?_) (fun e H2 S2 => snx ⟨⟨_, rfl⟩, Same.trans S1 S2, take_none hx hpre e⟩)
      · have q3 := q' H' (Same.refl H')
        rw [← unf_two] at q3
        refine ⟨_, rfl, _, rfl, _, _, _, _, rfl, rfl, Same.sl S1 hk, atN (vK_at hi), rfl, _, rfl, iteD _ (kS_first _) (ite2 (fun e => ?_) (fun e => ?_))⟩
        · rw [e, Bool.true_or] at q3
          exact q3
        · rw [Bool.eq_false_iff.mpr e, Bool.false_or] at q3
          exact ⟨_, rfl, _, rfl, _, _, _, _, rfl, rfl, Same.sl S1 hk, atN (vK_at hi), rfl, _, rfl, qb q3 (kS_last _)⟩
      · have S := Same.trans S1 S2
        exact ⟨_, rfl, small (show 2 ≤ 1000 by decide), fun p hp => q2 i (take_some hx hpre e) _ p (Same.trans S (Same.new hp)) (Same.free S hp) upd_same⟩
    · rintro σ H' ⟨⟨v, rfl⟩, S1, hpre⟩
      rw [List.take_of_length_le (by rw [List.length_range]; exact Nat.le_refl _)] at hpre
      dsimp only
      exact q1 hpre H' S1
def spNew (K : PySem.W.Frag) : Sp := fun vs H Q _ => ∃ (ba ca : Addr) (b : List Int) (cs : List (Nat × Int)), vs = [.ref ba, .ref ca] ∧ SqT K H ba (vI b) ∧ H ca = some (.dK (vD cs)) ∧ b.length ≤ 16 ∧ (cs.map (·.1)).Nodup ∧ (∀ p ∈ cs, p.1 < b.length) ∧
  ∀ H' p, Same H H' → H p = none → H' p = some (.tup (vI (newR b cs))) → Q (.ref p) H'
theorem ok_new : Ok1 P w K mg base CX0 1 "_law_new" ["_law_base", "_law_changes_here"] (spNew K) := by
  refine T.d_law_new.ok sc_law_new (fun vs H Q E h => ?_) (fun ff cdv A outer s H vs Q E hr h => ?_)
  · obtain ⟨ba, ca, b, cs, rfl, _⟩ := h; rfl
  · obtain ⟨ba, ca, b, cs, rfl, hb, hc, hn, nd, hk, q⟩ := h
    refine ⟨_, (pss_cons (ps_set (i := 2) sc_law_new.nd rfl (Or.inl rfl) (pe_callTy call_list_of (by rfl) T.z_list (by decide +kernel) (pa_cons (pv 0) pa_nil)))
      (pss_cons (ps_lock (ps_for PassesOwn.never rfl (pi_keys (pv 1)) (pg_name (i := 3) sc_law_new.nd rfl (Or.inl rfl))
        (pss_one (ps_asg (pe_dget (hu_of hr) (pv 1) (pv 3) (fun _ _ => rfl)) (pg_sub (pv 2) (pv 3) set_list)))))
      (pss_one (ps_ret (pe_callTy call_tuple_of (by rfl) T.z_tuple (by decide +kernel) (pa_cons (pv 2) pa_nil)))))), ?_⟩
    refine sq ⟨_, rfl, _, _, rfl, .inr hb, fun a ha => ?_⟩
    have S0 := Same.new (o := .lst (vI b)) ha
    have nac : a ≠ ca := fun e => by rw [e, hc] at ha; cases ha
    have ha1 : L2.upd H a (.lst (vI b)) a = some (.lst (vI b)) := upd_same
    generalize L2.upd H a (.lst (vI b)) = H0 at S0 ha1 ⊢
    refine ⟨ca, _, S0 _ _ hc, trivial, fun od => ?_⟩
    have hf : L2.upd H0 ca (.frz od (.dK (vD cs))) ca = some (.frz od (.dK (vD cs))) := upd_same
    have hfa : L2.upd H0 ca (.frz od (.dK (vD cs))) a = some (.lst (vI b)) := by rw [upd_ne nac]; exact ha1
    refine ⟨_, rfl, ca, od, rfl, .inl ⟨vD cs, hf, ?_⟩⟩
    refine for_keys (fun i σ H' => (∃ v, σ = [some (.ref ba), some (.ref ca), some (.ref a), v]) ∧ But a (L2.upd H0 ca (.frz od (.dK (vD cs)))) H' ∧ H' a = some (.lst (vI (newR b (cs.take i))))) ⟨⟨_, rfl⟩, But.refl _ _, by rw [List.take_zero, newR_nil]; exact hfa⟩ (fun i σ H' _ h => h.2.1 _ _ (Ne.symm nac) hf) ?_ ?_
    · rintro i k v σ H' hi ⟨⟨v0, rfl⟩, B1, ha2⟩
      obtain ⟨⟨f, z⟩, hp, rfl, rfl⟩ := vD_at hi
      have hil : i < cs.length := (List.getElem?_eq_some_iff.mp hp).1
      have hpi : cs[i] = (f, z) := (List.getElem?_eq_some_iff.mp hp).2
      have hmem : (f, z) ∈ cs := List.mem_of_getElem? hp
      have hfb : f < b.length := hk _ hmem
      have htk : cs.take (i + 1) = cs.take i ++ [(f, z)] := by rw [List.take_succ, hp]; rfl
      have hnot : f ∉ (cs.take i).map (·.1) := by
        intro hm
        have e1 : (cs.take (i + 1)).map (·.1) = (cs.take i).map (·.1) ++ [f] := by rw [htk, List.map_append]; rfl
        have nd2 : ((cs.take (i + 1)).map (·.1)).Nodup := nd.sublist ((List.take_sublist _ _).map _)
        rw [e1, List.nodup_append] at nd2
        exact nd2.2.2 f hm f (List.mem_singleton.mpr rfl) rfl
      have hlk : cs.lookup f = some z := by
        have e1 : cs = cs.take i ++ (f, z) :: cs.drop (i + 1) := by
          have := (List.getElem_cons_drop (as := cs) (i := i) hil)
          rw [hpi] at this
          rw [this, List.take_append_drop]
        rw [e1, lookup_append, lookup_none_iff.mpr hnot]
        simp [List.lookup]
      have hdg := dget H' ca cs f (.inr ⟨od, B1 _ _ (Ne.symm nac) hf⟩)
      rw [hlk] at hdg
      refine gn ⟨_, rfl, _, rfl, ca, _, rfl, hdg, ?_⟩
      refine ⟨_, rfl, _, rfl, a, _, _, f, rfl, rfl, ha2, Evl.ixN_nat (by rw [vI_len, newR_length]; exact hfb), ⟨_, rfl⟩, But.trans B1 (But.upd a H' _), ?_⟩
      rw [upd_same, htk, newR_snoc hnot]
      unfold vI
      rw [List.map_set]
    · rintro σ H' ⟨⟨v, rfl⟩, B1, ha2⟩
      rw [vD_len, List.take_length] at ha2
      refine ⟨B1 _ _ (Ne.symm nac) hf, ?_⟩
      have S2 : Same H (L2.upd H' ca (.dK (vD cs))) := fun x o e => by
        have e0 := S0 _ _ e
        by_cases c : x = ca
        · subst c; rw [upd_same]; rw [hc] at e; exact e
        · rw [upd_ne c]
          refine B1 _ _ (fun z => by rw [z, ha] at e; cases e) (by rw [upd_ne c]; exact e0)
      dsimp only
      exact srt ⟨_, rfl, a, _, rfl, .inl ⟨SqL.of (by rw [upd_ne nac]; exact ha2), fun p hp => q _ p (Same.trans S2 (Same.new hp)) (Same.free S2 hp) upd_same⟩⟩
include Fc
def spStays (C : Addr) (K : PySem.W.Frag) : Sp := fun vs H Q _ => ∃ (fo pa ka : Addr) (ps : Par) (ks : List Kd), vs = [.ref fo, .ref pa, .ref ka] ∧ Fo C H fo ps ks ∧ SqL K H pa (vP ps) ∧ SqL K H ka (vK ks) ∧ ∀ H', Same H H' → Q (.bl true) H'
theorem ok_stays : Ok1 P w K mg base CX0 1 "_law_stays" ["_law_forest", "_law_parents_here", "_law_kinds_here"] (spStays C K) := by
  refine T.d_law_stays.ok sc_law_stays (fun vs H Q E h => ?_) (fun ff cdv A outer s H vs Q E hr h => ?_)
  · obtain ⟨fo, pa, ka, ps, ks, rfl, _⟩ := h; rfl
  · obtain ⟨fo, pa, ka, ps, ks, rfl, ⟨dx, ta, tk, h1, h2, h3⟩, hp, hk, q⟩ := h
    refine ⟨_, (pss_one (ps_ret (pe_and (pe_cmpR (op_eqD hr.units) (pe_fld (pv 0) rfl) (pe_callTy call_tuple_of (by rfl) T.z_tuple (by decide +kernel) (pa_cons (pv 1) pa_nil)) (nomark _)) (pe_one (pe_cmpR (op_eqD hr.units) (pe_fld (pv 0) rfl) (pe_callTy call_tuple_of (by rfl) T.z_tuple (by decide +kernel) (pa_cons (pv 2) pa_nil)) (nomark _)))))), ?_⟩
    refine srt ⟨_, rfl, fo, C, dx, _, _, rfl, h1, Fc.cl, Fc.nP, ffs_p _ _ _, _, rfl, pa, _, rfl, .inl ⟨hp, fun a ha => ?_⟩⟩
    have S0 := Same.new (o := .tup (vP ps)) ha
    refine ⟨.tuple (dP ps), .tuple (dP ps), .tup (SqT.of (S0 _ _ h2)) (dpA_P _), .tup (SqT.of upd_same) (dpA_P _), shp_ok (shp_tup (shpA_P _)), shp_ok (shp_tup (shpA_P _)), _, rfl, ?_⟩
    rw [eqv_tP]
    refine iteT ⟨_, rfl, fo, C, dx, _, _, rfl, S0 _ _ h1, Fc.cl, Fc.nK, ffs_k _ _ _, _, rfl, ka, _, rfl, .inl ⟨Same.sl S0 hk, fun b hb => ?_⟩⟩
    have S1 := Same.new (o := .tup (vK ks)) hb
    have S := Same.trans S0 S1
    exact ⟨.tuple (dK ks), .tuple (dK ks), .tup (SqT.of (S _ _ h3)) (dpA_K _), .tup (SqT.of upd_same) (dpA_K _), shp_ok (shp_tup (shpA_K _)), shp_ok (shp_tup (shpA_K _)), qv (q _ S) (by rw [eqv_tK])⟩
end
end Fr

/-! # FrL10 -/
namespace Fr
open PySem PySem.Spec PyProof.Rows L2 FR
structure LI (l : List Nat) (i : Nat) (A B : List Int) : Prop where
  sA : ∀ x ∈ A, ∃ y ∈ l.take i, x = ((y : Nat) : Int)
  sB : ∀ x ∈ B, ∃ y ∈ l.take i, x = ((y : Nat) : Int)
  ap : Apart A B
  lA : A.length ≤ i
  lB : B.length ≤ i
theorem LI.nil (l : List Nat) : LI l 0 [] [] := ⟨fun _ h => (by cases h), fun _ h => (by cases h), fun _ h => (by cases h), Nat.le_refl _, Nat.le_refl _⟩
theorem mem_take_succ {l : List Nat} {i y : Nat} (h : y ∈ l.take i) : y ∈ l.take (i + 1) := by
  rw [List.take_succ]; exact List.mem_append_left _ h
theorem LI.skip {l : List Nat} {i : Nat} {A B : List Int} (h : LI l i A B) : LI l (i + 1) A B :=
  ⟨fun x hx => by obtain ⟨y, a, b⟩ := h.sA x hx; exact ⟨y, mem_take_succ a, b⟩, fun x hx => by obtain ⟨y, a, b⟩ := h.sB x hx; exact ⟨y, mem_take_succ a, b⟩, h.ap, by have := h.lA; omega, by have := h.lB; omega⟩
theorem LI.fresh {l : List Nat} {i : Nat} (nd : l.Nodup) (hi : i < l.length) : l[i] ∉ l.take i := by
  intro hm
  have e1 : l.take (i + 1) = l.take i ++ [l[i]] := by rw [List.take_succ, List.getElem?_eq_getElem hi]; rfl
  have nd2 : (l.take (i + 1)).Nodup := nd.sublist (List.take_sublist _ _)
  rw [e1, List.nodup_append] at nd2
  exact nd2.2.2 _ hm _ (List.mem_singleton.mpr rfl) rfl
theorem LI.left {l : List Nat} {i : Nat} {A B : List Int} (h : LI l i A B) (nd : l.Nodup) (hi : i < l.length) : LI l (i + 1) (A ++ [((l[i] : Nat) : Int)]) B := by
  have hm : l[i] ∈ l.take (i + 1) := by rw [List.take_succ, List.getElem?_eq_getElem hi]; exact List.mem_append_right _ (List.mem_singleton.mpr rfl)
  have k := h.skip
  refine ⟨fun x hx => ?_, k.sB, fun x hx => ?_, by rw [List.length_append]; have := h.lA; simp; omega, k.lB⟩
  · rcases List.mem_append.mp hx with hx | hx
    · exact k.sA x hx
    · exact ⟨_, hm, List.mem_singleton.mp hx⟩
  · rcases List.mem_append.mp hx with hx | hx
    · exact h.ap x hx
    · intro hB
      obtain ⟨y, hy, e⟩ := h.sB x hB
      have e2 : l[i] = y := by have := (List.mem_singleton.mp hx).symm.trans e; omega
      exact LI.fresh nd hi (e2 ▸ hy)
theorem LI.right {l : List Nat} {i : Nat} {A B : List Int} (h : LI l i A B) (nd : l.Nodup) (hi : i < l.length) : LI l (i + 1) A (B ++ [((l[i] : Nat) : Int)]) := by
  have hs : LI l i B A := ⟨h.sB, h.sA, fun x hx hy => h.ap x hy hx, h.lB, h.lA⟩
  have k := hs.left nd hi
  exact ⟨k.sB, k.sA, fun x hx hy => k.ap x hy hx, k.lB, k.lA⟩
theorem vI_app (l : List Int) (x : Int) : vI l ++ [V.int x] = vI (l ++ [x]) := by
  unfold vI
  rw [List.map_append]; rfl
/-- two lists of a question -/
structure Two (n : Nat) (A B : List Int) : Prop where
  vA : Valid n A
  vB : Valid n B
  ap : Apart A B
  lA : A.length ≤ 18
  lB : B.length ≤ 18
/-- where a pair of new lists stands -/
structure Rz (H : Hp) (t p a b : Addr) : Prop where
  ha : H a = none
  hb : H b = none
  hp : H p = none
  na : a ≠ t
  nb : b ≠ t
  np : p ≠ t
  ab : a ≠ b
  ap : a ≠ p
  bp : b ≠ p
structure Rw (H H' : Hp) (t p a b : Addr) (A B : List Int) : Prop where
  bt : But t H H'
  tp : Tp H' t
  hp : H' p = some (.lst [.ref a, .ref b])
  ha : H' a = some (.lst (vI A))
  hb : H' b = some (.lst (vI B))
theorem Rw.go {H H' H2 : Hp} {t p a b : Addr} {A B : List Int} (h : Rw H H' t p a b A B) (z : Rz H t p a b) (B1 : But t H' H2) (T1 : Tp H2 t) : Rw H H2 t p a b A B :=
  ⟨But.trans h.bt B1, T1, B1 _ _ z.np h.hp, B1 _ _ z.na h.ha, B1 _ _ z.nb h.hb⟩
theorem Rw.setA {H H' : Hp} {t p a b : Addr} {A B A' : List Int} (h : Rw H H' t p a b A B) (z : Rz H t p a b) : Rw H (L2.upd H' a (.lst (vI A'))) t p a b A' B :=
  ⟨But.fresh h.bt z.ha, h.tp.upd z.na, by rw [upd_ne (Ne.symm z.ap)]; exact h.hp, upd_same, by rw [upd_ne (Ne.symm z.ab)]; exact h.hb⟩
theorem Rw.setB {H H' : Hp} {t p a b : Addr} {A B B' : List Int} (h : Rw H H' t p a b A B) (z : Rz H t p a b) : Rw H (L2.upd H' b (.lst (vI B'))) t p a b A B' :=
  ⟨But.fresh h.bt z.hb, h.tp.upd z.nb, by rw [upd_ne (Ne.symm z.bp)]; exact h.hp, by rw [upd_ne z.ab]; exact h.ha, upd_same⟩
/-- lists within lists -/
structure Ext (A B A' B' : List Int) (m : Nat) : Prop where
  sA : ∀ x ∈ A', x ∈ A
  sB : ∀ x ∈ B', x ∈ B
  lA : A'.length ≤ m
  lB : B'.length ≤ m
theorem rg_mem {l : List Int} {i : Nat} (h : i < l.length) : rg l i ∈ l := by
  unfold rg
  rw [List.getD_eq_getElem?_getD, List.getElem?_eq_getElem h]
  exact List.getElem_mem h
section
variable {P : Program} {w : World} {K : PySem.W.Frag} {mg : Str → Option Value} {base : Heap} (T : Tx K mg)
include T
def spLists : Sp := fun vs H Q _ => ∃ (t : Addr) (n : Nat), vs = [.ref t, .int (n : Int)] ∧ Tp H t ∧ n ≤ 16 ∧
  ∀ H' p a b A B, But t H H' → Tp H' t → H p = none → H a = none → H b = none → a ≠ b → H' p = some (.lst [.ref a, .ref b]) → H' a = some (.lst (vI A)) → H' b = some (.lst (vI B)) → Two n A B → Q (.ref p) H'
theorem ok_lists : Ok1 P w K mg base CX0 3 "_law_lists" ["_law_tape_here", "_law_n"] spLists := by
  have Glaw_take : Ok1 P w K mg base CX0 1 "_law_take" ["_law_tape_here", "_law_size_here"] spTk := ok_tk T
  have Glaw_turns : Ok1 P w K mg base CX0 2 "_law_turns" ["_law_tape_here", "_law_n"] spTurns := ok_turns T
  refine T.d_law_lists.ok sc_law_lists (fun vs H Q E h => ?_) (fun ff cdv Ar outer s H vs Q E hr h => ?_)
  · obtain ⟨t, n, rfl, _⟩ := h; rfl
  · obtain ⟨t, n, rfl, ht, hn, q⟩ := h
    refine ⟨_, (pss_cons (ps_set (i := 2) sc_law_lists.nd rfl (Or.inl rfl) (pe_lst (pa_cons (pe_lst pa_nil) (pa_cons (pe_lst pa_nil) pa_nil))))
      (pss_cons (ps_for PassesOwn.never rfl (pi_list (pe_c Glaw_turns (hr.mono (by decide)) pass0 (pa_cons (pv 0) (pa_cons (pv 1) pa_nil)))) (pg_name (i := 3) sc_law_lists.nd rfl (Or.inl rfl))
        (pss_cons (ps_set (i := 4) sc_law_lists.nd rfl (Or.inl rfl) (pe_c Glaw_take (hr.mono (by decide)) pass0 (pa_cons (pv 0) (pa_cons pe_int pa_nil))))
          (pss_one (ps_if (pt_cmpR op_lt (pv 4) pe_int (nomark _))
          (pss_one (ps_expr (pe_bm PySem.F.plainAttrs_list PySem.F.slot_list_append PySem.F.type_list_append mt_append (pe_ix ix_list (pv 2) (pv 4) (fun _ _ => rfl)) (pa_cons (pv 3) pa_nil))))
          pss_nil))))
      (pss_cons (ps_for PassesOwn.never rfl (pi_list (pv 2)) (pg_name (i := 5) sc_law_lists.nd rfl (Or.inl rfl))
        (pss_one (ps_if (PW.pt (pw_and (pt_cmpR (op_neD hr.units) (pv 5) (pe_lst pa_nil) (nomark _)) (pw_and1 (pt_cmpR op_eq (pe_c Glaw_take (hr.mono (by decide)) pass0 (pa_cons (pv 0) (pa_cons pe_int pa_nil))) pe_int (nomark _)))))
          (pss_one (ps_expr (pe_bm PySem.F.plainAttrs_list PySem.F.slot_list_append PySem.F.type_list_append mt_append (pv 5) (pa_cons (pe_ix ix_list (pv 5) (pe_c Glaw_take (hr.mono (by decide)) pass0 (pa_cons (pv 0) (pa_cons (pe_callB call_len_seq (by rfl) T.z_len (by decide +kernel) (pa_cons (pv 5) pa_nil)) pa_nil))) (fun _ _ => rfl)) pa_nil))))
          pss_nil)))
      (pss_one (ps_ret (pv 2)))))), ?_⟩
    refine sq ⟨Nat.zero_le _, fun a ha => ⟨Nat.zero_le _, fun b hb => ⟨small (show 2 ≤ 1000 by decide), fun p hp => ?_⟩⟩⟩
    have na := ht.ne ha
    have hab : a ≠ b := fun e => by rw [← e, upd_same] at hb; cases hb
    have hap : a ≠ p := fun e => by rw [← e, upd_ne hab, upd_same] at hp; cases hp
    have hbp : b ≠ p := fun e => by rw [← e, upd_same] at hp; cases hp
    have hbH : H b = none := by rw [upd_ne (Ne.symm hab)] at hb; exact hb
    have hpH : H p = none := by rw [upd_ne (Ne.symm hbp), upd_ne (Ne.symm hap)] at hp; exact hp
    have nb := ht.ne hbH
    have np := ht.ne hpH
    have z : Rz H t p a b := ⟨ha, hbH, hpH, na, nb, np, hab, hap, hbp⟩
    have R0 : Rw H (L2.upd (L2.upd (L2.upd H a (.lst [])) b (.lst [])) p (.lst [.ref a, .ref b])) t p a b [] [] :=
      ⟨But.fresh (But.fresh (But.fresh (But.refl t H) ha) hbH) hpH, ((ht.upd na).upd nb).upd np, upd_same, by rw [upd_ne hap, upd_ne hab]; exact upd_same, by rw [upd_ne hbp]; exact upd_same⟩
    dsimp only
    generalize L2.upd (L2.upd (L2.upd H a (.lst [])) b (.lst [])) p (.lst [.ref a, .ref b]) = H0 at R0 ⊢
    refine sqf ⟨_, rfl, _, rfl, t, n, rfl, R0.tp, hn, fun H1 c l B1 T1 hc0 hc pm => ⟨c, rfl, ⟨_, SqL.of hc⟩, ?_⟩⟩
    have R1 := R0.go z B1 T1
    have nc := R0.tp.ne hc0
    have nca : c ≠ a := fun e => by rw [e, R0.ha] at hc0; cases hc0
    have ncb : c ≠ b := fun e => by rw [e, R0.hb] at hc0; cases hc0
    have ll : l.length = n := by rw [pm.length_eq, List.length_range]
    have nd : l.Nodup := pm.nodup_iff.mpr List.nodup_range
    refine for_list (xs := vN l) (fun i σ H' => (∃ x y, σ = [some (.ref t), some (.int (n : Int)), some (.ref p), x, y, none]) ∧ H' c = some (.lst (vN l)) ∧ ∃ A B, Rw H H' t p a b A B ∧ LI l i A B) ⟨⟨_, _, rfl⟩, hc, [], [], R1, LI.nil l⟩ (fun i σ H' _ h => SqL.of h.2.1) ?_ ?_
    · rintro i v σ H' hi ⟨⟨x, y, rfl⟩, hc1, A, B, R2, li⟩
      have hil : i < l.length := by
        have := (List.getElem?_eq_some_iff.mp hi).1
        rw [vN_len] at this; exact this
      rw [vN_at (List.getElem?_eq_getElem hil)] at hi
      cases hi
      refine gn (sq ⟨_, rfl, t, 4, rfl, R2.tp, by decide, by decide, fun H3 r B3 T3 lr => ?_⟩)
      have R3 := R2.go z B3 T3
      have hc3 := B3 _ _ nc hc1
      refine ⟨_, rfl, _, _, rfl, rfl, _, rfl, ?_⟩
      by_cases h2 : r < 2
      · refine iteD true (by simpa using (show (r : Int) < 2 by omega)) (iteT ?_)
        have hlA : A.length ≤ 1000 := by have := li.lA; omega
        have hlB : B.length ≤ 1000 := by have := li.lB; omega
        match r, h2 with
        | 0, _ =>
          refine ⟨_, rfl, _, rfl, p, _, (0 : Int), .ref a, rfl, rfl, SqL.of R3.hp, atN (n := 0) rfl, .inl ⟨rfl, _, SqL.of R3.ha⟩, _, rfl, a, vI A, _, rfl, rfl, R3.ha, by rw [vI_len]; exact smallL (by have := li.lA; omega), ⟨_, _, rfl⟩, ?_, A ++ [((l[i] : Nat) : Int)], B, ?_, li.left nd hil⟩
          · rw [upd_ne nca]; exact hc3
          · rw [vI_app]; exact R3.setA z
        | 1, _ =>
          refine ⟨_, rfl, _, rfl, p, _, (1 : Int), .ref b, rfl, rfl, SqL.of R3.hp, atN (n := 1) rfl, .inl ⟨rfl, _, SqL.of R3.hb⟩, _, rfl, b, vI B, _, rfl, rfl, R3.hb, by rw [vI_len]; exact smallL (by have := li.lB; omega), ⟨_, _, rfl⟩, ?_, A, B ++ [((l[i] : Nat) : Int)], ?_, li.right nd hil⟩
          · rw [upd_ne ncb]; exact hc3
          · rw [vI_app]; exact R3.setB z
      · refine iteD false (by simpa using (show (2 : Int) ≤ (r : Int) by omega)) (iteF (snx ?_))
        exact ⟨⟨_, _, rfl⟩, hc3, A, B, R3, li.skip⟩
    · rintro σ H' ⟨⟨x, y, rfl⟩, hc1, A, B, R2, li⟩
      dsimp only
      rw [vN_len] at li
      refine sqf ⟨_, rfl, p, rfl, ⟨_, SqL.of R2.hp⟩, for_list (xs := [.ref a, .ref b]) (fun i σ H' => (∃ v, σ = [some (.ref t), some (.int (n : Int)), some (.ref p), x, y, v]) ∧ ∃ A' B', Rw H H' t p a b A' B' ∧ Ext A B A' B' (n + i)) ⟨⟨_, rfl⟩, A, B, R2, fun _ h => h, fun _ h => h, by have := li.lA; omega, by have := li.lB; omega⟩ (fun i σ H' _ h => by obtain ⟨_, A', B', R, _⟩ := h; exact SqL.of R.hp) ?_ ?_⟩
      · rintro i v σ H3 hi ⟨⟨v0, rfl⟩, A', B', R3, ex⟩
        have hu : ∃ (u : Addr) (L : List Int), v = .ref u ∧ H3 u = some (.lst (vI L)) ∧ u ≠ t ∧ L.length ≤ n + i ∧ (∀ H4, But t H3 H4 → Tp H4 t → ∃ A' B', Rw H H4 t p a b A' B' ∧ Ext A B A' B' (n + (i + 1))) ∧
            ∀ H4 x, But t H3 H4 → Tp H4 t → x ∈ L → ∃ A' B', Rw H (L2.upd H4 u (.lst (vI (L ++ [x])))) t p a b A' B' ∧ Ext A B A' B' (n + (i + 1)) := by
          have stay : ∀ H4, But t H3 H4 → Tp H4 t → ∃ A' B', Rw H H4 t p a b A' B' ∧ Ext A B A' B' (n + (i + 1)) := fun H4 B4 T4 =>
            ⟨A', B', R3.go z B4 T4, ex.sA, ex.sB, by have := ex.lA; omega, by have := ex.lB; omega⟩
          match i, hi with
          | 0, hi =>
            cases hi
            refine ⟨a, A', rfl, R3.ha, na, ex.lA, stay, fun H4 x B4 T4 hx => ⟨A' ++ [x], B', (R3.go z B4 T4).setA z, fun y hy => ?_, ex.sB, by rw [List.length_append]; have := ex.lA; simp; omega, by have := ex.lB; omega⟩⟩
            rcases List.mem_append.mp hy with hy | hy
            · exact ex.sA y hy
            · rw [List.mem_singleton.mp hy]; exact ex.sA x hx
          | 1, hi =>
            cases hi
            refine ⟨b, B', rfl, R3.hb, nb, ex.lB, stay, fun H4 x B4 T4 hx => ⟨A', B' ++ [x], (R3.go z B4 T4).setB z, ex.sA, fun y hy => ?_, by have := ex.lA; omega, by rw [List.length_append]; have := ex.lB; simp; omega⟩⟩
            rcases List.mem_append.mp hy with hy | hy
            · exact ex.sB y hy
            · rw [List.mem_singleton.mp hy]; exact ex.sB x hx
        have hi2 : i < 2 := (List.getElem?_eq_some_iff.mp hi).1
        obtain ⟨u, L, rfl, huL, nu, lL, k1, k2⟩ := hu
        refine gn (sif ⟨_, rfl, Nat.zero_le _, fun e he => ?_⟩)
        have ue : u ≠ e := fun q => by rw [q, he] at huL; cases huL
        have Be : But t H3 (L2.upd H3 e (.lst [])) := But.of (Same.new he)
        have Te : Tp (L2.upd H3 e (.lst [])) t := R3.tp.upd (R3.tp.ne he)
        have hu4 : L2.upd H3 e (.lst []) u = some (.lst (vI L)) := by rw [upd_ne ue]; exact huL
        refine ⟨.list (dI L), .list (dI []), .lst (SqL.of hu4) (dpA_I _), .lst (SqL.of upd_same) (dpA_I []), shp_ok (shp_list (shpA_I _)), shp_ok (shp_list (shpA_I [])), _, rfl, ?_⟩
        rw [eqv_lI]
        generalize L2.upd H3 e (.lst []) = H4 at Be Te hu4 ⊢
        by_cases eL : L = []
        · refine iteD false (by simp [eL]) (iteF (iteF (snx ?_)))
          exact ⟨⟨_, rfl⟩, k1 _ Be Te⟩
        · refine iteD true (by simp [eL]) (iteT ?_)
          have lpos : 0 < L.length := List.length_pos_iff.mpr eL
          refine ⟨_, rfl, t, 3, rfl, Te, by decide, by decide, fun H5 r5 B5 T5 l5 => ⟨rfl, _, rfl, ite2 (fun e5 => ?_) (fun e5 => ?_)⟩⟩
          · have hu5 := B5 _ _ nu hu4
            refine ⟨_, rfl, .inl ⟨rfl, _, SqL.of hu5⟩, _, rfl, _, rfl, _, rfl, u, vI L, rfl, .inl (SqL.of hu5), t, L.length, by rw [vI_len]; rfl, T5, lpos, by omega, fun H6 r6 B6 T6 l6 => ?_⟩
            have hu6 := B6 _ _ nu hu5
            refine ⟨_, _, _, _, rfl, rfl, SqL.of hu6, atN (vI_at l6), u, vI L, _, rfl, rfl, hu6, by rw [vI_len]; exact smallL (by omega), ⟨_, rfl⟩, ?_⟩
            rw [vI_app]
            exact k2 H6 _ (But.trans (But.trans Be B5) B6) T6 (rg_mem l6)
          · exact snx ⟨⟨_, rfl⟩, k1 _ (But.trans Be B5) T5⟩
      · rintro σ H3 ⟨⟨v0, rfl⟩, A', B', R3, ex⟩
        dsimp only
        have hm : ∀ x : Int, (∃ y ∈ l.take l.length, x = ((y : Nat) : Int)) → 0 ≤ x ∧ x < (n : Int) := fun x ⟨y, hy, e⟩ => by
          have := pm.mem_iff.mp (List.mem_of_mem_take hy)
          rw [List.mem_range] at this
          omega
        refine srt ⟨_, rfl, q H3 p a b A' B' R3.bt R3.tp hpH ha hbH hab R3.hp R3.ha R3.hb ⟨fun x hx => hm x (li.sA x (ex.sA x hx)), fun x hx => hm x (li.sB x (ex.sB x hx)), fun x hx hy => li.ap x (ex.sA x hx) (ex.sB x hy), ?_, ?_⟩⟩
        · have := ex.lA; simp at this; omega
        · have := ex.lB; simp at this; omega
end
end Fr

/-! # FrL11 -/
namespace Fr
open PySem PySem.Spec PyProof.Rows L2 FR
theorem Rw.row {H H' : Hp} {t p a b : Addr} {A B : List Int} {M i : Nat} (R : Rw H H' t p a b A B) (z : Rz H t p a b) (lA : A.length ≤ M) (lB : B.length ≤ M) (hi : i < 2) :
    ∃ (u : Addr) (L : List Int), ([V.ref a, V.ref b] : List V)[i]? = some (.ref u) ∧ H' u = some (.lst (vI L)) ∧ u ≠ t ∧ L.length ≤ M ∧
      ∀ H4 (L' : List Int), But t H' H4 → Tp H4 t → L'.length ≤ M + 1 → ∃ A' B', Rw H (L2.upd H4 u (.lst (vI L'))) t p a b A' B' ∧ A'.length ≤ M + 1 ∧ B'.length ≤ M + 1 := by
  match i, hi with
  | 0, _ => exact ⟨a, A, rfl, R.ha, z.na, lA, fun H4 L' B4 T4 l => ⟨L', B, (R.go z B4 T4).setA z, l, by omega⟩⟩
  | 1, _ => exact ⟨b, B, rfl, R.hb, z.nb, lB, fun H4 L' B4 T4 l => ⟨A, L', (R.go z B4 T4).setB z, by omega, l⟩⟩
def SpM (H : Hp) (t la p a b : Addr) (n m : Nat) (σ : L2.St) (H' : Hp) : Prop :=
  (∃ x4 x5 x6 x7 x8, σ = [some (.ref t), some (.int (n : Int)), some (.ref la), some (.ref p), x4, x5, x6, x7, x8]) ∧ ∃ A B, Rw H H' t p a b A B ∧ A.length ≤ m ∧ B.length ≤ m
theorem vI_ins (L : List Int) (i : Nat) (x : Int) : (vI L).take i ++ [V.int x] ++ (vI L).drop i = vI (L.take i ++ [x] ++ L.drop i) := by
  unfold vI
  rw [List.map_append, List.map_append, List.map_take, List.map_drop]
  rfl
theorem ins_len (L : List Int) (i : Nat) (x : Int) : (L.take i ++ [x] ++ L.drop i).length = L.length + 1 := by
  rw [List.length_append, List.length_append, List.length_take, List.length_drop, List.length_singleton]
  omega
section
variable {P : Program} {w : World} {K : PySem.W.Frag} {mg : Str → Option Value} {base : Heap} (T : Tx K mg)
include T
def spSpoilt (K : PySem.W.Frag) : Sp := fun vs H Q _ => ∃ (t la xa ya : Addr) (n : Nat) (A0 B0 : List Int), vs = [.ref t, .int (n : Int), .ref la] ∧ Tp H t ∧ 1 ≤ n ∧ n ≤ 16 ∧ H la = some (.lst [.ref xa, .ref ya]) ∧ H xa = some (.lst (vI A0)) ∧ H ya = some (.lst (vI B0)) ∧ A0.length ≤ 18 ∧ B0.length ≤ 18 ∧
  ∀ H' p a b (A B : List Int), But t H H' → Tp H' t → H p = none → H a = none → H b = none → a ≠ b → H' p = some (.lst [.ref a, .ref b]) → H' a = some (.lst (vI A)) → H' b = some (.lst (vI B)) → A.length ≤ 30 → B.length ≤ 30 → Q (.ref p) H'
theorem ok_spoilt : Ok1 P w K mg base CX0 3 "_law_spoilt" ["_law_tape_here", "_law_n", "_law_lists_here"] (spSpoilt K) := by
  have Glaw_take : Ok1 P w K mg base CX0 1 "_law_take" ["_law_tape_here", "_law_size_here"] spTk := ok_tk T
  have Glaw_no_field : Ok1 P w K mg base CX0 2 "_law_no_field" ["_law_tape_here", "_law_n"] spNf := ok_nf T
  refine T.d_law_spoilt.ok sc_law_spoilt (fun vs H Q E h => ?_) (fun ff cdv Ar outer s H vs Q E hr h => ?_)
  · obtain ⟨t, la, xa, ya, n, A0, B0, rfl, _⟩ := h; rfl
  · obtain ⟨t, la, xa, ya, n, A0, B0, rfl, ht, h1, hn, hla, hxa, hya, lA0, lB0, q⟩ := h
    refine ⟨_, (pss_cons (ps_set (i := 3) sc_law_spoilt.nd rfl (Or.inl rfl) (pe_lst (pa_cons (pe_callTy call_list_of (by rfl) T.z_list (by decide +kernel) (pa_cons (pe_ix ix_list (pv 2) pe_int (fun _ _ => rfl)) pa_nil)) (pa_cons (pe_callTy call_list_of (by rfl) T.z_list (by decide +kernel) (pa_cons (pe_ix ix_list (pv 2) pe_int (fun _ _ => rfl)) pa_nil)) pa_nil))))
      (Evl.pss_cut (ps_if (pt_cmpR op_eq (pe_c Glaw_take (hr.mono (by decide)) pass0 (pa_cons (pv 0) (pa_cons pe_int pa_nil))) pe_int (nomark _))
        (pss_cons (ps_set (i := 4) sc_law_spoilt.nd rfl (Or.inl rfl) (pe_c Glaw_take (hr.mono (by decide)) pass0 (pa_cons (pv 0) (pa_cons (pv 1) pa_nil))))
          (pss_one (ps_for PassesOwn.never rfl (pi_range1 (by rfl) T.z_range (pa_cons pe_int pa_nil)) (pg_name (i := 5) sc_law_spoilt.nd rfl (Or.inl rfl))
          (pss_one (ps_if (pt_cmpR op_notIn_seq (pv 4) (pe_ix ix_list (pv 3) (pv 5) (fun _ _ => rfl)) (by rfl))
            (pss_one (ps_expr (pe_bm PySem.F.plainAttrs_list PySem.F.slot_list_insert PySem.F.type_list_insert mt_insert (pe_ix ix_list (pv 3) (pv 5) (fun _ _ => rfl)) (pa_cons (pe_c Glaw_take (hr.mono (by decide)) pass0 (pa_cons (pv 0) (pa_cons (pe_op op_add (pe_callB call_len_seq (by rfl) T.z_len (by decide +kernel) (pa_cons (pe_ix ix_list (pv 3) (pv 5) (fun _ _ => rfl)) pa_nil)) pe_int) pa_nil))) (pa_cons (pv 4) pa_nil)))))
            pss_nil)))))
        pss_nil)
      (Evl.pss_cut (ps_if (pt_cmpR op_eq (pe_c Glaw_take (hr.mono (by decide)) pass0 (pa_cons (pv 0) (pa_cons pe_int pa_nil))) pe_int (nomark _))
        (pss_one (ps_for PassesOwn.never rfl (pi_range1 (by rfl) T.z_range (pa_cons (pe_op op_add pe_int (pe_c Glaw_take (hr.mono (by decide)) pass0 (pa_cons (pv 0) (pa_cons pe_int pa_nil)))) pa_nil)) (pg_name (i := 6) sc_law_spoilt.nd rfl (Or.inl rfl))
          (pss_cons (ps_set (i := 7) sc_law_spoilt.nd rfl (Or.inl rfl) (pe_ix ix_list (pv 3) (pe_c Glaw_take (hr.mono (by decide)) pass0 (pa_cons (pv 0) (pa_cons pe_int pa_nil))) (fun _ _ => rfl)))
            (pss_cons (ps_set (i := 8) sc_law_spoilt.nd rfl (Or.inl rfl) (pe_c Glaw_take (hr.mono (by decide)) pass0 (pa_cons (pv 0) (pa_cons (pe_op op_add (pe_callB call_len_seq (by rfl) T.z_len (by decide +kernel) (pa_cons (pv 7) pa_nil)) pe_int) pa_nil))))
            (pss_one (ps_expr (pe_bm PySem.F.plainAttrs_list PySem.F.slot_list_insert PySem.F.type_list_insert mt_insert (pv 7) (pa_cons (pv 8) (pa_cons (pe_c Glaw_no_field (hr.mono (by decide)) pass0 (pa_cons (pv 0) (pa_cons (pv 1) pa_nil))) pa_nil)))))))))
        pss_nil)
      (pss_cons (ps_for PassesOwn.never rfl (pi_range1 (by rfl) T.z_range (pa_cons (pe_ix ix_list (pe_lst (pa_cons pe_int (pa_cons pe_int (pa_cons pe_int (pa_cons pe_int (pa_cons pe_int pa_nil)))))) (pe_c Glaw_take (hr.mono (by decide)) pass0 (pa_cons (pv 0) (pa_cons pe_int pa_nil))) (fun _ _ => rfl)) pa_nil)) (pg_name (i := 6) sc_law_spoilt.nd rfl (Or.inl rfl))
        (pss_cons (ps_set (i := 4) sc_law_spoilt.nd rfl (Or.inl rfl) (pe_c Glaw_take (hr.mono (by decide)) pass0 (pa_cons (pv 0) (pa_cons (pv 1) pa_nil))))
          (pss_one (ps_for PassesOwn.never rfl (pi_range1 (by rfl) T.z_range (pa_cons pe_int pa_nil)) (pg_name (i := 5) sc_law_spoilt.nd rfl (Or.inl rfl))
          (pss_one (ps_if (pt_cmpR op_notIn_seq (pv 4) (pe_ix ix_list (pv 3) (pv 5) (fun _ _ => rfl)) (by rfl))
            (pss_one (ps_expr (pe_bm PySem.F.plainAttrs_list PySem.F.slot_list_insert PySem.F.type_list_insert mt_insert (pe_ix ix_list (pv 3) (pv 5) (fun _ _ => rfl)) (pa_cons (pe_c Glaw_take (hr.mono (by decide)) pass0 (pa_cons (pv 0) (pa_cons (pe_op op_add (pe_callB call_len_seq (by rfl) T.z_len (by decide +kernel) (pa_cons (pe_ix ix_list (pv 3) (pv 5) (fun _ _ => rfl)) pa_nil)) pe_int) pa_nil))) (pa_cons (pv 4) pa_nil)))))
            pss_nil))))))
      (pss_one (ps_ret (pv 3))))))), ?_⟩
    refine sq ⟨_, rfl, _, _, _, _, rfl, rfl, SqL.of hla, atN (n := 0) rfl, _, _, rfl, .inl (SqL.of hxa), fun a ha => ?_⟩
    have S1 := Same.new (o := .lst (vI A0)) ha
    refine ⟨_, rfl, _, _, _, _, rfl, rfl, SqL.of (S1 _ _ hla), atN (n := 1) rfl, _, _, rfl, .inl (SqL.of (S1 _ _ hya)), fun b hb => ⟨small (show 2 ≤ 1000 by decide), fun p hp => ?_⟩⟩
    have na := ht.ne ha
    have hab : a ≠ b := fun e => by rw [← e, upd_same] at hb; cases hb
    have hap : a ≠ p := fun e => by rw [← e, upd_ne hab, upd_same] at hp; cases hp
    have hbp : b ≠ p := fun e => by rw [← e, upd_same] at hp; cases hp
    have hbH : H b = none := by rw [upd_ne (Ne.symm hab)] at hb; exact hb
    have hpH : H p = none := by rw [upd_ne (Ne.symm hbp), upd_ne (Ne.symm hap)] at hp; exact hp
    have nb := ht.ne hbH
    have np := ht.ne hpH
    have z : Rz H t p a b := ⟨ha, hbH, hpH, na, nb, np, hab, hap, hbp⟩
    have R0 : Rw H (L2.upd (L2.upd (L2.upd H a (.lst (vI A0))) b (.lst (vI B0))) p (.lst [.ref a, .ref b])) t p a b A0 B0 :=
      ⟨But.fresh (But.fresh (But.fresh (But.refl t H) ha) hbH) hpH, ((ht.upd na).upd nb).upd np, upd_same, by rw [upd_ne hap, upd_ne hab]; exact upd_same, by rw [upd_ne hbp]; exact upd_same⟩
    dsimp only
    generalize L2.upd (L2.upd (L2.upd H a (.lst (vI A0))) b (.lst (vI B0))) p (.lst [.ref a, .ref b]) = H0 at R0 ⊢
    -- one place, put into both
    refine ⟨SpM H t la p a b n 20, ?_, ?_⟩
    · refine sif ⟨_, rfl, t, 3, rfl, R0.tp, by decide, by decide, fun H1 r1 B1 T1 l1 => ⟨rfl, _, rfl, ite2 (fun e1 => ?_) (fun e1 => snx ⟨⟨_, _, _, _, _, rfl⟩, _, _, R0.go z B1 T1, by omega, by omega⟩)⟩⟩
      have R1 := R0.go z B1 T1
      have lA1 : A0.length ≤ 18 + 0 := lA0
      have lB1 : B0.length ≤ 18 + 0 := lB0
      refine sq ⟨_, rfl, _, rfl, t, n, rfl, R1.tp, by omega, by omega, fun H1a pl B1a T1a lpl => ?_⟩
      have R1a := R1.go z B1a T1a
      refine ⟨_, rfl, by decide, by decide, for_rg 2 rfl (fun i σ H' => (∃ x5 x6 x7 x8, σ = [some (.ref t), some (.int (n : Int)), some (.ref la), some (.ref p), some (.int (pl : Int)), x5, x6, x7, x8]) ∧ ∃ A B, Rw H H' t p a b A B ∧ A.length ≤ 18 + i ∧ B.length ≤ 18 + i) ⟨⟨_, _, _, _, rfl⟩, _, _, R1a, lA1, lB1⟩ ?_ ?_⟩
      · rintro i σ H' hi ⟨⟨x5, x6, x7, x8, rfl⟩, A', B', R', lA', lB'⟩
        obtain ⟨u, L, hu, huL, nu, lL, fin⟩ := R'.row z lA' lB' hi
        refine gn (sif ⟨_, rfl, _, rfl, _, rfl, p, _, _, _, rfl, rfl, SqL.of R'.hp, atN hu, u, vI L, rfl, .inl (SqL.of huL), rfl, flat_I L, _, rfl, ?_⟩)
        rw [if_pos rfl]
        cases inV (.int (pl : Int)) (vI L) with
        | true => exact iteF (snx ⟨⟨_, _, _, _, rfl⟩, A', B', R', by omega, by omega⟩)
        | false =>
          refine iteT ?_
          refine ⟨_, rfl, _, rfl, p, _, _, _, rfl, rfl, SqL.of R'.hp, atN hu, .inl ⟨rfl, _, SqL.of huL⟩, _, rfl, _, rfl, _, rfl, p, _, _, _, rfl, rfl, SqL.of R'.hp, atN hu, u, vI L, rfl, .inl (SqL.of huL), _, _, rfl, rfl, t, L.length + 1, by rw [vI_len]; rfl, R'.tp, by omega, by omega, fun H6 r6 B6 T6 l6 => ?_⟩
          refine ⟨_, rfl, u, vI L, (r6 : Int), _, rfl, rfl, B6 _ _ nu huL, by rw [vI_len]; exact smallL (by omega), by omega, by omega, ⟨_, _, _, _, rfl⟩, ?_⟩
          rw [Int.toNat_natCast, vI_ins]
          exact fin H6 _ B6 T6 (by rw [ins_len]; omega)
      · rintro σ H' ⟨⟨x5, x6, x7, x8, rfl⟩, A', B', R', lA', lB'⟩
        exact ⟨⟨_, _, _, _, _, rfl⟩, A', B', R', by omega, by omega⟩
    rintro σ H2 ⟨⟨x4, x5, x6, x7, x8, rfl⟩, A2, B2, R2, lA2, lB2⟩
    refine ⟨SpM H t la p a b n 22, ?_, ?_⟩
    · refine sif ⟨_, rfl, t, 3, rfl, R2.tp, by decide, by decide, fun H3 r3 B3 T3 l3 => ⟨rfl, _, rfl, ite2 (fun e1 => ?_) (fun e1 => snx ⟨⟨_, _, _, _, _, rfl⟩, _, _, R2.go z B3 T3, by omega, by omega⟩)⟩⟩
      have R3 := R2.go z B3 T3
      refine ⟨_, rfl, t, 2, rfl, R3.tp, by decide, by decide, fun H4 r4 B4 T4 l4 => ⟨_, _, rfl, rfl, ?_⟩⟩
      have R4 := R3.go z B4 T4
      refine ⟨_, rfl, by omega, by omega, for_rg (1 + r4) rfl (fun i σ H' => (∃ x4 x5 x6 x7 x8, σ = [some (.ref t), some (.int (n : Int)), some (.ref la), some (.ref p), x4, x5, x6, x7, x8]) ∧ ∃ A B, Rw H H' t p a b A B ∧ A.length ≤ 20 + i ∧ B.length ≤ 20 + i) ⟨⟨_, _, _, _, _, rfl⟩, _, _, R4, lA2, lB2⟩ ?_ ?_⟩
      · rintro i σ H' hi ⟨⟨x4, x5, x6, x7, x8, rfl⟩, A', B', R', lA', lB'⟩
        refine gn (sq ⟨_, rfl, _, rfl, t, 2, rfl, R'.tp, by decide, by decide, fun H5 r5 B5 T5 l5 => ?_⟩)
        have R5 := R'.go z B5 T5
        obtain ⟨u, L, hu, huL, nu, lL, fin⟩ := R5.row z lA' lB' l5
        refine ⟨p, _, _, _, rfl, rfl, SqL.of R5.hp, atN hu, ?_⟩
        refine sq ⟨_, rfl, _, rfl, u, vI L, rfl, .inl (SqL.of huL), _, _, rfl, rfl, t, L.length + 1, by rw [vI_len]; rfl, R5.tp, by omega, by omega, fun H6 r6 B6 T6 l6 => ?_⟩
        have hu6 := B6 _ _ nu huL
        refine ⟨_, rfl, .inl ⟨rfl, _, SqL.of hu6⟩, _, rfl, _, rfl, _, rfl, t, (n : Int), rfl, T6, fun H7 x7 B7 T7 => ?_⟩
        refine ⟨u, vI L, (r6 : Int), _, rfl, rfl, B7 _ _ nu hu6, by rw [vI_len]; exact smallL (by omega), by omega, by omega, ⟨_, _, _, _, _, rfl⟩, ?_⟩
        rw [Int.toNat_natCast, vI_ins]
        exact fin H7 _ (But.trans B6 B7) T7 (by rw [ins_len]; omega)
      · rintro σ H' ⟨⟨x4, x5, x6, x7, x8, rfl⟩, A', B', R', lA', lB'⟩
        exact ⟨⟨_, _, _, _, _, rfl⟩, A', B', R', by omega, by omega⟩
    rintro σ H4 ⟨⟨x4, x5, x6, x7, x8, rfl⟩, A4, B4, R4, lA4, lB4⟩
    refine sqf ⟨small (show 5 ≤ 1000 by decide), fun e he => ?_⟩
    have ne := R4.tp.ne he
    have Be : But t H4 (L2.upd H4 e (.lst [.int 0, .int 0, .int 0, .int 1, .int 2])) := But.of (Same.new he)
    have Te : Tp (L2.upd H4 e (.lst [.int 0, .int 0, .int 0, .int 1, .int 2])) t := R4.tp.upd ne
    have R5 := R4.go z Be Te
    have he5 : L2.upd H4 e (.lst [.int 0, .int 0, .int 0, .int 1, .int 2]) e = some (.lst [.int 0, .int 0, .int 0, .int 1, .int 2]) := upd_same
    refine ⟨_, rfl, t, 5, rfl, Te, by decide, by decide, fun H6 r6 B6 T6 l6 => ?_⟩
    have R6 := R5.go z B6 T6
    obtain ⟨w2, hw2, hw3⟩ : ∃ m : Nat, m ≤ 2 ∧ ([.int 0, .int 0, .int 0, .int 1, .int 2] : List V)[r6]? = some (.int (m : Int)) := by
      match r6, l6 with
      | 0, _ => exact ⟨0, by decide, rfl⟩
      | 1, _ => exact ⟨0, by decide, rfl⟩
      | 2, _ => exact ⟨0, by decide, rfl⟩
      | 3, _ => exact ⟨1, by decide, rfl⟩
      | 4, _ => exact ⟨2, by decide, rfl⟩
    refine ⟨e, _, _, _, rfl, rfl, SqL.of (B6 _ _ ne he5), atN hw3, _, rfl, by omega, by omega, for_rg w2 rfl (fun j σ H' => (∃ x4 x5 x6 x7 x8, σ = [some (.ref t), some (.int (n : Int)), some (.ref la), some (.ref p), x4, x5, x6, x7, x8]) ∧ ∃ A B, Rw H H' t p a b A B ∧ A.length ≤ 22 + 2 * j ∧ B.length ≤ 22 + 2 * j) ⟨⟨_, _, _, _, _, rfl⟩, _, _, R6, lA4, lB4⟩ ?_ ?_⟩
    · rintro j σ H7 hj ⟨⟨x4, x5, x6, x7, x8, rfl⟩, A7, B7, R7, lA7, lB7⟩
      refine gn ?_
      refine sq ⟨_, rfl, _, rfl, t, n, rfl, R7.tp, by omega, by omega, fun H7a pl B7a T7a lpl => ?_⟩
      have R7a := R7.go z B7a T7a
      refine ⟨_, rfl, by decide, by decide, for_rg 2 rfl (fun i σ H' => (∃ x5 x6 x7 x8, σ = [some (.ref t), some (.int (n : Int)), some (.ref la), some (.ref p), some (.int (pl : Int)), x5, x6, x7, x8]) ∧ ∃ A B, Rw H H' t p a b A B ∧ A.length ≤ (22 + 2 * j) + i ∧ B.length ≤ (22 + 2 * j) + i) ⟨⟨_, _, _, _, rfl⟩, _, _, R7a, lA7, lB7⟩ ?_ ?_⟩
      · rintro i σ H' hi ⟨⟨x5, x6, x7, x8, rfl⟩, A', B', R', lA', lB'⟩
        obtain ⟨u, L, hu, huL, nu, lL, fin⟩ := R'.row z lA' lB' hi
        refine gn (sif ⟨_, rfl, _, rfl, _, rfl, p, _, _, _, rfl, rfl, SqL.of R'.hp, atN hu, u, vI L, rfl, .inl (SqL.of huL), rfl, flat_I L, _, rfl, ?_⟩)
        rw [if_pos rfl]
        cases inV (.int (pl : Int)) (vI L) with
        | true => exact iteF (snx ⟨⟨_, _, _, _, rfl⟩, A', B', R', by omega, by omega⟩)
        | false =>
          refine iteT ?_
          refine ⟨_, rfl, _, rfl, p, _, _, _, rfl, rfl, SqL.of R'.hp, atN hu, .inl ⟨rfl, _, SqL.of huL⟩, _, rfl, _, rfl, _, rfl, p, _, _, _, rfl, rfl, SqL.of R'.hp, atN hu, u, vI L, rfl, .inl (SqL.of huL), _, _, rfl, rfl, t, L.length + 1, by rw [vI_len]; rfl, R'.tp, by omega, by omega, fun H6 r6 B6 T6 l6 => ?_⟩
          refine ⟨_, rfl, u, vI L, (r6 : Int), _, rfl, rfl, B6 _ _ nu huL, by rw [vI_len]; exact smallL (by omega), by omega, by omega, ⟨_, _, _, _, rfl⟩, ?_⟩
          rw [Int.toNat_natCast, vI_ins]
          exact fin H6 _ B6 T6 (by rw [ins_len]; omega)
      · rintro σ H' ⟨⟨x5, x6, x7, x8, rfl⟩, A', B', R', lA', lB'⟩
        exact ⟨⟨_, _, _, _, _, rfl⟩, A', B', R', by omega, by omega⟩
    · rintro σ H7 ⟨⟨x4, x5, x6, x7, x8, rfl⟩, A7, B7, R7, lA7, lB7⟩
      dsimp only
      exact srt ⟨_, rfl, q H7 p a b A7 B7 R7.bt R7.tp hpH ha hbH hab R7.hp R7.ha R7.hb (by omega) (by omega)⟩
end
end Fr

/-! # FrL12 -/
namespace Fr
open PySem PySem.Spec PyProof.Rows L2 FR
theorem sq_ifset2 {c : TT} {te : TE} {i : Nat} {tz : TS} {D : Ends} {σ : L2.St} {H : Hp} (PH : Bool → Hp → Prop) (v : V) (hc : ∀ Q' : Bool → Hp → Prop, (∀ b H2, PH b H2 → Q' b H2) → c σ H Q') (hv : ∀ H2, PH true H2 → ∀ Q' : V → Hp → Prop, Q' v H2 → te σ H2 Q')
    (h : ∀ b H2, PH b H2 → tz D (if b = true then σ.set i (some v) else σ) H2) : tSeq (tIfS c (tAsg te (gName i)) tNext) tz D σ H := by
  refine sqi (hc _ fun b H2 p => ?_)
  have hz := h b H2 p
  cases b with
  | true => exact iteT (hv H2 p _ (by rw [if_pos rfl] at hz; exact hz))
  | false => exact iteF (by rw [if_neg (by decide)] at hz; exact hz)
def putC (cs : List (Nat × Int)) (f : Nat) (z : Int) : List (Nat × Int) := if (cs.any fun p => decide (p.1 = f)) = true then cs.map (fun p => if p.1 = f then (p.1, z) else p) else cs ++ [(f, z)]
theorem putK_vD (cs : List (Nat × Int)) (f : Nat) (z : Int) : putK (vD cs) (Sum.inl (f : Int)) (V.int z) = vD (putC cs f z) := by
  have hk : ∀ p : Nat × Int, ((Sum.inl (p.1 : Int) : Key) = Sum.inl (f : Int)) ↔ p.1 = f := fun p => ⟨fun e => by have := Sum.inl.inj e; omega, fun e => by rw [e]⟩
  have ha : ((vD cs).any fun kv => decide (kv.1 = (Sum.inl (f : Int) : Key))) = cs.any fun p => decide (p.1 = f) := by
    unfold vD
    rw [List.any_map]
    congr 1
    funext p
    exact decide_eq_decide.mpr (hk p)
  unfold putK putC
  rw [ha]
  by_cases c : (cs.any fun p => decide (p.1 = f)) = true
  · rw [if_pos c, if_pos c]
    unfold vD
    rw [List.map_map, List.map_map]
    refine List.map_congr_left fun p _ => ?_
    show (if (Sum.inl (p.1 : Int) : Key) = Sum.inl (f : Int) then _ else _) = _
    by_cases e : p.1 = f
    · rw [if_pos ((hk p).mpr e)]
      show _ = (fun p : Nat × Int => ((Sum.inl (p.1 : Int) : Key), V.int p.2)) (if p.1 = f then (p.1, z) else p)
      rw [if_pos e]
    · rw [if_neg (fun q => e ((hk p).mp q))]
      show _ = (fun p : Nat × Int => ((Sum.inl (p.1 : Int) : Key), V.int p.2)) (if p.1 = f then (p.1, z) else p)
      rw [if_neg e]
  · rw [if_neg c, if_neg c]
    unfold vD
    rw [List.map_append]
    rfl
theorem putC_keys (cs : List (Nat × Int)) (f : Nat) (z : Int) : (putC cs f z).map (·.1) = if f ∈ cs.map (·.1) then cs.map (·.1) else cs.map (·.1) ++ [f] := by
  have ha : ((cs.any fun p => decide (p.1 = f)) = true) ↔ f ∈ cs.map (·.1) := by
    rw [List.any_eq_true, List.mem_map]
    constructor
    · rintro ⟨p, h1, h2⟩; exact ⟨p, h1, of_decide_eq_true h2⟩
    · rintro ⟨p, h1, h2⟩; exact ⟨p, h1, decide_eq_true h2⟩
  unfold putC
  by_cases c : f ∈ cs.map (·.1)
  · rw [if_pos (ha.mpr c), if_pos c, List.map_map]
    refine List.map_congr_left fun p _ => ?_
    show (if p.1 = f then (p.1, z) else p).1 = p.1
    split <;> rfl
  · rw [if_neg (fun q => c (ha.mp q)), if_neg c, List.map_append]; rfl
theorem putC_mem {cs : List (Nat × Int)} {f : Nat} {z : Int} {k : Nat} {v : Int} (h : (k, v) ∈ putC cs f z) : (k = f ∧ v = z) ∨ (k, v) ∈ cs := by
  unfold putC at h
  split at h
  · obtain ⟨p, hp, e⟩ := List.mem_map.mp h
    by_cases c : p.1 = f
    · rw [if_pos c] at e
      cases e
      exact .inl ⟨c, rfl⟩
    · rw [if_neg c] at e
      subst e
      exact .inr hp
  · rcases List.mem_append.mp h with h | h
    · exact .inr h
    · cases List.mem_singleton.mp h
      exact .inl ⟨rfl, rfl⟩
theorem putC_len (cs : List (Nat × Int)) (f : Nat) (z : Int) : (putC cs f z).length ≤ cs.length + 1 := by
  unfold putC
  split
  · rw [List.length_map]; omega
  · rw [List.length_append]; simp
theorem Chg.nil (n : Nat) (b : List Int) : Chg n [] b [] := ⟨List.nodup_nil, fun k => ⟨fun h => (by cases h), fun h => (by cases h)⟩, fun k v h => (by cases h)⟩
theorem Chg.put {n : Nat} {A b : List Int} {cs : List (Nat × Int)} {f : Nat} {z : Int} (h : Chg n A b cs) (hz : z ≠ rg b f) : Chg n (A ++ [(f : Int)]) b (putC cs f z) := by
  refine ⟨?_, fun k => ?_, fun k v hk => ?_⟩
  · rw [putC_keys]
    split
    · exact h.nd
    · rename_i c
      rw [List.nodup_append]
      refine ⟨h.nd, by simp, fun a ha b hb e => ?_⟩
      rw [List.mem_singleton.mp hb] at e
      subst e
      exact c ha
  · rw [putC_keys, List.mem_append, List.mem_singleton]
    split
    · rename_i c
      rw [h.key]
      constructor
      · exact .inl
      · rintro (q | q)
        · exact q
        · have : k = f := by omega
          subst this
          exact (h.key k).mp c
    · rw [List.mem_append, List.mem_singleton, h.key]
      constructor
      · rintro (q | q)
        · exact .inl q
        · subst q; exact .inr rfl
      · rintro (q | q)
        · exact .inl q
        · exact .inr (by omega)
  · rcases putC_mem hk with ⟨rfl, rfl⟩ | hk
    · exact hz
    · exact h.ne k v hk
section
variable {P : Program} {w : World} {K : PySem.W.Frag} {mg : Str → Option Value} {base : Heap} (T : Tx K mg)
include T
def spChg (K : PySem.W.Frag) : Sp := fun vs H Q _ => ∃ (t pa ka ba fa : Addr) (ps : Par) (ks : List Kd) (r : Nat → Nat) (b A : List Int), vs = [.ref t, .ref pa, .ref ka, .ref ba, .ref fa] ∧ Tp H t ∧ pa ≠ t ∧ ka ≠ t ∧ fa ≠ t ∧ H pa = some (.lst (vP ps)) ∧ H ka = some (.lst (vK ks)) ∧ H ba = some (.tup (vI b)) ∧ H fa = some (.lst (vI A)) ∧
  Wf ps r ∧ ps.length ≤ 16 ∧ ks.length = ps.length ∧ b.length = ps.length ∧ Valid ps.length A ∧ A.length ≤ 18 ∧
  ∀ H' p (cs : List (Nat × Int)), But t H H' → Tp H' t → H p = none → H' p = some (.dK (vD cs)) → Chg ps.length A b cs → cs.length ≤ 18 → Q (.ref p) H'
theorem ok_chg : Ok1 P w K mg base CX0 2 "_law_changes" ["_law_tape_here", "_law_parents_here", "_law_kinds_here", "_law_base", "_law_fields"] (spChg K) := by
  have Glaw_take : Ok1 P w K mg base CX0 1 "_law_take" ["_law_tape_here", "_law_size_here"] spTk := ok_tk T
  have Glaw_path : Ok1 P w K mg base CX0 1 "_law_path" ["_law_parents_here", "_law_field"] (spLp K) := ok_lp T
  have Glaw_raised : Ok1 P w K mg base CX0 1 "_law_raised" ["_law_kind", "_law_value_here", "_law_by"] spRaised := ok_raised T
  refine T.d_law_changes.ok sc_law_changes (fun vs H Q E h => ?_) (fun ff cdv Ar outer s H vs Q E hr h => ?_)
  · obtain ⟨t, pa, ka, ba, fa, ps, ks, r, b, A, rfl, _⟩ := h; rfl
  · obtain ⟨t, pa, ka, ba, fa, ps, ks, r, b, A, rfl, ht, npa, nka, nfa, hpa, hka, hba, hfa, W, hn, lk, lb, vA, lA, q⟩ := h
    refine ⟨_, (pss_cons (ps_set (i := 5) sc_law_changes.nd rfl (Or.inl rfl) pe_dnewK)
      (pss_cons (ps_set (i := 6) sc_law_changes.nd rfl (Or.inl rfl) (pe_c Glaw_take (hr.mono (by decide)) pass0 (pa_cons (pv 0) (pa_cons pe_int pa_nil))))
      (pss_cons (ps_for PassesOwn.never rfl (pi_list (pv 4)) (pg_name (i := 7) sc_law_changes.nd rfl (Or.inl rfl))
        (pss_cons (ps_set (i := 8) sc_law_changes.nd rfl (Or.inl rfl) (pe_op op_add pe_int (pe_c Glaw_take (hr.mono (by decide)) pass0 (pa_cons (pv 0) (pa_cons pe_int pa_nil)))))
          (pss_cons (ps_if (pt_cmpR op_eq (pe_c Glaw_take (hr.mono (by decide)) pass0 (pa_cons (pv 0) (pa_cons pe_int pa_nil))) pe_int (nomark _))
            (pss_one (ps_set (i := 8) sc_law_changes.nd rfl (Or.inl rfl) (pe_op op_mul (pv 8) (pe_op op_pow pe_int pe_int))))
            pss_nil)
          (pss_cons (ps_setLc (i := 9) (own := [("_law_place", 10)]) (g := gName 10) rfl sc_law_changes.nd rfl rfl (sw_true rfl rfl rfl (by decide +kernel)) (pi_list (pe_c Glaw_path (hr.mono (by decide)) pass0 (pa_cons (pv 1) (pa_cons (pv 7) pa_nil)))) (blkOk_by (own := [("_law_place", 10)]) (N := ["_law_tape_here", "_law_parents_here", "_law_kinds_here", "_law_base", "_law_fields", "_law_changes_here", "_law_calm", "_law_field", "_law_by", "_law_above", "_law_place"]) (sc := defScope s_law_changes) (by decide +kernel)) (fun _ _ _ _ _ => pg_name (i := 10) sc_law_changes.nd rfl (Or.inl rfl)) (fun _ _ _ _ _ => (pts_one (pt_cmpR (op_inK K rfl) (pv 10) (pv 4) (by rfl)))) (fun _ _ _ _ _ => (pv 10)))
          (pss_cons (ps_if (PW.pt (pw_and (pt_cmpR op_eq (pe_c Glaw_take (hr.mono (by decide)) pass0 (pa_cons (pv 0) (pa_cons pe_int pa_nil))) pe_int (nomark _)) (pw_and1 (PW.pt (pw_or (pt_cmpR op_eq (pv 6) pe_int (nomark _)) (pw_or1 (pt_cmpR op_gt (pe_callB call_len_seq (by rfl) T.z_len (by decide +kernel) (pa_cons (pv 9) pa_nil)) pe_int (nomark _))))))))
            (pss_one (ps_set (i := 8) sc_law_changes.nd rfl (Or.inl rfl) (pe_op op_sub pe_int (pv 8))))
            pss_nil)
          (pss_one (ps_dput (hu_of hr) (pv 5) (pv 7) (pe_c Glaw_raised (hr.mono (by decide)) pass0 (pa_cons (pe_ix ix_list (pv 2) (pv 7) (fun _ _ => rfl)) (pa_cons (pe_ix ix_tup (pv 3) (pv 7) (fun _ _ => rfl)) (pa_cons (pv 8) pa_nil)))) rfl)))))))
      (pss_one (ps_ret (pv 5)))))), ?_⟩
    refine sq fun p hp => ?_
    have np := ht.ne hp
    have B0 : But t H (L2.upd H p (.dK [])) := But.of (Same.new hp)
    have T0 := ht.upd (o := .dK []) np
    have hp0 : L2.upd H p (.dK []) p = some (.dK (vD [])) := upd_same
    generalize L2.upd H p (.dK []) = H0 at B0 T0 hp0 ⊢
    refine sq ⟨_, rfl, t, 2, rfl, T0, by decide, by decide, fun H1 calm B1 T1 lc => ?_⟩
    have nba : ba ≠ t := fun e => by obtain ⟨c, k, e2⟩ := ht; rw [← e, hba] at e2; cases e2
    have B01 := But.trans B0 B1
    refine sqf ⟨_, rfl, fa, rfl, ⟨_, SqL.of (B01 _ _ nfa hfa)⟩, for_list (xs := vI A) (fun i σ H' => (∃ x7 x8 x9 x10, σ = [some (.ref t), some (.ref pa), some (.ref ka), some (.ref ba), some (.ref fa), some (.ref p), some (.int (calm : Int)), x7, x8, x9, x10]) ∧ But t H H' ∧ Tp H' t ∧ ∃ cs, H' p = some (.dK (vD cs)) ∧ Chg ps.length (A.take i) b cs ∧ cs.length ≤ i)
      ⟨⟨_, _, _, _, rfl⟩, B01, T1, [], B1 _ _ np hp0, Chg.nil _ _, Nat.le_refl _⟩ (fun i σ H' _ h => SqL.of (h.2.1 _ _ nfa hfa)) ?_ ?_⟩
    · rintro i v σ H' hi ⟨⟨x7, x8, x9, x10, rfl⟩, B2, T2, cs, hp2, chg, lcs⟩
      have hil : i < A.length := by
        have := (List.getElem?_eq_some_iff.mp hi).1
        rw [vI_len] at this; exact this
      rw [vI_at hil] at hi
      cases hi
      have hx := vA _ (rg_mem hil)
      obtain ⟨f, hf⟩ : ∃ f : Nat, rg A i = (f : Int) := ⟨(rg A i).toNat, by omega⟩
      have htk : A.take (i + 1) = A.take i ++ [(f : Int)] := by
        rw [List.take_succ, ← hf]
        unfold rg
        rw [List.getD_eq_getElem?_getD, List.getElem?_eq_getElem hil]
        rfl
      rw [hf] at hx ⊢
      have hfl : f < ps.length := by omega
      refine gn (sq ⟨_, rfl, t, 3, rfl, T2, by decide, by decide, fun H3 r3 B3 T3 l3 => ⟨_, _, rfl, rfl, ?_⟩⟩)
      have B03 := But.trans B2 B3
      refine sq_ifset2 (fun _ H2 => But t H3 H2 ∧ Tp H2 t) (.int ((1 + (r3 : Int)) * 10 ^ (30 : Nat))) (fun Q' q' => ⟨_, rfl, t, 8, rfl, T3, by decide, by decide, fun H4 r4 B4 T4 l4 => ⟨rfl, _, rfl, q' _ _ ⟨B4, T4⟩⟩⟩)
        (fun H2 _ Q' q' => ⟨_, rfl, _, _, rfl, rfl, ⟨by decide, by decide, by decide⟩, _, _, rfl, rfl, .inl ⟨by omega, by omega⟩, q'⟩) ?_
      rintro b1 H4 ⟨B4, T4⟩
      obtain ⟨z1, hz1, e1⟩ : ∃ z : Int, z ≠ 0 ∧ (if b1 = true then ([some (V.ref t), some (V.ref pa), some (V.ref ka), some (V.ref ba), some (V.ref fa), some (V.ref p), some (V.int (calm : Int)), some (V.int (f : Int)), some (V.int (1 + (r3 : Int))), x9, x10]).set 8 (some (.int ((1 + (r3 : Int)) * 10 ^ (30 : Nat)))) else [some (V.ref t), some (V.ref pa), some (V.ref ka), some (V.ref ba), some (V.ref fa), some (V.ref p), some (V.int (calm : Int)), some (V.int (f : Int)), some (V.int (1 + (r3 : Int))), x9, x10]) = [some (V.ref t), some (V.ref pa), some (V.ref ka), some (V.ref ba), some (V.ref fa), some (V.ref p), some (V.int (calm : Int)), some (V.int (f : Int)), some (V.int z), x9, x10] := by
        cases b1 with
        | true => exact ⟨_, Int.mul_ne_zero (by omega) (by decide), rfl⟩
        | false => exact ⟨_, by omega, rfl⟩
      show tSeq _ _ _ (if b1 = true then ([some (V.ref t), some (V.ref pa), some (V.ref ka), some (V.ref ba), some (V.ref fa), some (V.ref p), some (V.int (calm : Int)), some (V.int (f : Int)), some (V.int (1 + (r3 : Int))), x9, x10] : L2.St).set 8 (some (.int ((1 + (r3 : Int)) * 10 ^ (30 : Nat)))) else [some (V.ref t), some (V.ref pa), some (V.ref ka), some (V.ref ba), some (V.ref fa), some (V.ref p), some (V.int (calm : Int)), some (V.int (f : Int)), some (V.int (1 + (r3 : Int))), x9, x10]) _
      rw [e1]
      have B04 := But.trans B03 B4
      refine sq ⟨_, rfl, _, rfl, pa, ps, r, f, rfl, SqL.of (B04 _ _ npa hpa), W, hfl, hn, fun H5 a5 S5 ha5 hpath => ⟨a5, rfl, ⟨_, SqL.of hpath⟩, fun D hD => ?_⟩⟩
      have B05 := But.trans B04 (But.of S5)
      have T5 := T4.same S5
      refine lc_listP (fun j => inV (.int (((pathL ps f).getD j 0 : Nat) : Int)) (vI A)) (fun j => .int (((pathL ps f).getD j 0 : Nat) : Int)) (SqL.of hpath) (by rw [vN_len]; have := path_length ps f; omega) hD (fun x => rfl) (fun j x hj => fun H6 e6 Q6 q6 => ?_) (fun j x hj _ => fun H6 e6 Q6 q6 => ?_) (fun H6 S6 h6 => ?_)
      · have hjl : j < (pathL ps f).length := by
          have := (List.getElem?_eq_some_iff.mp hj).1
          rw [vN_len] at this; exact this
        rw [vN_at (List.getElem?_eq_getElem hjl)] at hj
        cases hj
        refine ⟨_, rfl, _, rfl, fa, vI A, rfl, .inl (SqL.of (e6 _ _ (B05 _ _ nfa hfa))), rfl, flat_I A, _, rfl, ?_⟩
        have := q6 H6 (Evl.Ex.refl _)
        rw [List.getD_eq_getElem?_getD, List.getElem?_eq_getElem hjl] at this
        exact this
      · have hjl : j < (pathL ps f).length := by
          have := (List.getElem?_eq_some_iff.mp hj).1
          rw [vN_len] at this; exact this
        rw [vN_at (List.getElem?_eq_getElem hjl)] at hj
        cases hj
        have := q6 H6 (Evl.Ex.refl _)
        rw [List.getD_eq_getElem?_getD, List.getElem?_eq_getElem hjl] at this
        exact ⟨_, rfl, this⟩
      have B06 := But.trans B05 (But.of S6)
      have T6 := T5.same S6
      have nD : D ≠ t := T5.ne hD
      generalize Evl.given (vN (pathL ps f)).length (fun j => inV (.int (((pathL ps f).getD j 0 : Nat) : Int)) (vI A)) (fun j => .int (((pathL ps f).getD j 0 : Nat) : Int)) = abv at h6
      refine sq_ifset2 (fun _ H2 => But t H6 H2 ∧ Tp H2 t) (.int (0 - z1)) (fun Q' q' => ⟨_, rfl, t, 2, rfl, T6, by decide, by decide, fun H7 r7 B7 T7 l7 => ⟨rfl, _, rfl, ite2 (fun e => ⟨_, rfl, rfl, _, rfl, ite2 (fun e => q' _ _ ⟨B7, T7⟩) (fun e => ⟨_, rfl, D, abv, rfl, .inl (SqL.of (B7 _ _ nD h6)), _, _, rfl, rfl, _, rfl, q' _ _ ⟨B7, T7⟩⟩)⟩) (fun e => q' _ _ ⟨B7, T7⟩)⟩⟩)
        (fun H2 _ Q' q' => ⟨_, rfl, _, _, rfl, rfl, q'⟩) ?_
      rintro b2 H7 ⟨B7, T7⟩
      have B07 := But.trans B06 B7
      obtain ⟨z2, hz2, e2⟩ : ∃ z : Int, z ≠ 0 ∧ (if b2 = true then ([some (V.ref t), some (V.ref pa), some (V.ref ka), some (V.ref ba), some (V.ref fa), some (V.ref p), some (V.int (calm : Int)), some (V.int (f : Int)), some (V.int z1), some (V.ref D), x10]).set 8 (some (.int (0 - z1))) else [some (V.ref t), some (V.ref pa), some (V.ref ka), some (V.ref ba), some (V.ref fa), some (V.ref p), some (V.int (calm : Int)), some (V.int (f : Int)), some (V.int z1), some (V.ref D), x10]) = [some (V.ref t), some (V.ref pa), some (V.ref ka), some (V.ref ba), some (V.ref fa), some (V.ref p), some (V.int (calm : Int)), some (V.int (f : Int)), some (V.int z), some (V.ref D), x10] := by
        cases b2 with
        | true => exact ⟨0 - z1, by omega, rfl⟩
        | false => exact ⟨_, hz1, rfl⟩
      show sDPut _ _ _ _ (if b2 = true then ([some (V.ref t), some (V.ref pa), some (V.ref ka), some (V.ref ba), some (V.ref fa), some (V.ref p), some (V.int (calm : Int)), some (V.int (f : Int)), some (V.int z1), some (V.ref D), x10] : L2.St).set 8 (some (.int (0 - z1))) else [some (V.ref t), some (V.ref pa), some (V.ref ka), some (V.ref ba), some (V.ref fa), some (V.ref p), some (V.int (calm : Int)), some (V.int (f : Int)), some (V.int z1), some (V.ref D), x10]) _
      rw [e2]
      have hp7 : H7 p = some (.dK (vD cs)) := B7 _ _ np (S6 _ _ (S5 _ _ (B4 _ _ np (B3 _ _ np hp2))))
      refine ⟨_, rfl, _, rfl, _, _, _, _, rfl, rfl, SqL.of (B07 _ _ nka hka), atN (vK_at (by omega)), _, rfl, _, rfl, _, _, _, _, rfl, rfl, SqT.of (B07 _ _ nba hba), atN (vI_at (by omega)), _, rfl, kd ks f, rg b f, z2, rfl, hz2, fun H9 zz S9 hne => ?_⟩
      refine ⟨_, rfl, _, rfl, p, _, rfl, .inl ⟨vD cs, Sum.inl (f : Int), S9 _ _ hp7, rfl, by rw [vD_len]; exact smallL (by omega), rfl⟩, ⟨_, _, _, _, rfl⟩, But.fresh (But.trans B07 (But.of S9)) hp, (T7.same S9).upd np, putC cs f zz, ?_, ?_, ?_⟩
      · rw [upd_same, putK_vD]
      · rw [htk]; exact Chg.put chg hne
      · have := putC_len cs f zz; omega
    · rintro σ H' ⟨⟨x7, x8, x9, x10, rfl⟩, B2, T2, cs, hp2, chg, lcs⟩
      rw [vI_len, List.take_length] at chg
      rw [vI_len] at lcs
      dsimp only
      exact srt ⟨_, rfl, q H' p cs B2 T2 hp hp2 chg (by omega)⟩
end
end Fr

/-! # FrL13 -/
namespace Fr
open PySem PySem.Spec PyProof.Rows L2 FR
theorem But.same {t : Addr} {H H1 H' : Hp} (S : Same H H1) (B : But t H1 H') (h : H t = none) : Same H H' := fun b o e => B b o (ne_of_none e h) (S b o e)
/-- a question -/
structure Qn (H : Hp) (q : Addr) (n : Nat) (A B X Y bs : List Int) (c1 c2 : List (Nat × Int)) (l s ba f1 f2 a b x y : Addr) : Prop where
  hq : H q = some (.lst [.ref l, .ref s, .ref ba, .ref f1, .ref f2])
  hl : H l = some (.lst [.ref a, .ref b])
  hs : H s = some (.lst [.ref x, .ref y])
  hb : H ba = some (.tup (vI bs))
  h1 : H f1 = some (.dK (vD c1))
  h2 : H f2 = some (.dK (vD c2))
  ha : H a = some (.lst (vI A))
  hB : H b = some (.lst (vI B))
  hx : H x = some (.lst (vI X))
  hy : H y = some (.lst (vI Y))
  two : Two n A B
  lX : X.length ≤ 30
  lY : Y.length ≤ 30
  lb : bs.length = n
  C1 : Chg n A bs c1
  C2 : Chg n B bs c2
  l1 : c1.length ≤ 18
  l2 : c2.length ≤ 18
theorem Qn.same {H H' : Hp} {q : Addr} {n : Nat} {A B X Y bs : List Int} {c1 c2 : List (Nat × Int)} {l s ba f1 f2 a b x y : Addr} (h : Qn H q n A B X Y bs c1 c2 l s ba f1 f2 a b x y) (S : Same H H') : Qn H' q n A B X Y bs c1 c2 l s ba f1 f2 a b x y :=
  ⟨S _ _ h.hq, S _ _ h.hl, S _ _ h.hs, S _ _ h.hb, S _ _ h.h1, S _ _ h.h2, S _ _ h.ha, S _ _ h.hB, S _ _ h.hx, S _ _ h.hy, h.two, h.lX, h.lY, h.lb, h.C1, h.C2, h.l1, h.l2⟩
section
variable {P : Program} {w : World} {K : PySem.W.Frag} {mg : Str → Option Value} {base : Heap} (T : Tx K mg)
include T
def spQn (K : PySem.W.Frag) : Sp := fun vs H Q _ => ∃ (sa pa ka : Addr) (S : List Int) (m : Nat) (ps : Par) (ks : List Kd) (r : Nat → Nat), vs = [.ref sa, .int (m : Int), .ref pa, .ref ka] ∧ SqL K H sa (vI S) ∧ m ≤ 1000 ∧ H pa = some (.lst (vP ps)) ∧ H ka = some (.lst (vK ks)) ∧
  Wf ps r ∧ 1 ≤ ps.length ∧ ps.length ≤ 16 ∧ ks.length = ps.length ∧
  ∀ H' q A B X Y bs c1 c2 l s ba f1 f2 a b x y, Same H H' → H q = none → Qn H' q ps.length A B X Y bs c1 c2 l s ba f1 f2 a b x y → Q (.ref q) H'
theorem ok_qn : Ok1 P w K mg base CX0 4 "_law_question" ["_law_script", "_law_turn", "_law_parents_here", "_law_kinds_here"] (spQn K) := by
  have Glaw_tape : Ok1 P w K mg base CX0 1 "_law_tape" ["_law_script", "_law_k"] (spTape K) := ok_tape T
  have Glaw_lists : Ok1 P w K mg base CX0 3 "_law_lists" ["_law_tape_here", "_law_n"] spLists := ok_lists T
  have Glaw_spoilt : Ok1 P w K mg base CX0 3 "_law_spoilt" ["_law_tape_here", "_law_n", "_law_lists_here"] (spSpoilt K) := ok_spoilt T
  have Glaw_record : Ok1 P w K mg base CX0 3 "_law_record" ["_law_tape_here", "_law_n", "_law_span"] spRec := ok_rec T
  have Glaw_changes : Ok1 P w K mg base CX0 2 "_law_changes" ["_law_tape_here", "_law_parents_here", "_law_kinds_here", "_law_base", "_law_fields"] (spChg K) := ok_chg T
  refine T.d_law_question.ok sc_law_question (fun vs H Q E h => ?_) (fun ff cdv Ar outer s0 H vs Q E hr h => ?_)
  · obtain ⟨sa, pa, ka, S, m, ps, ks, r, rfl, _⟩ := h; rfl
  · obtain ⟨sa, pa, ka, S, m, ps, ks, r, rfl, hS, hm, hpa, hka, W, h1, hn, lk, q⟩ := h
    refine ⟨_, (pss_cons (ps_set (i := 4) sc_law_question.nd rfl (Or.inl rfl) (pe_callB call_len_seq (by rfl) T.z_len (by decide +kernel) (pa_cons (pv 3) pa_nil)))
      (pss_cons (ps_set (i := 5) sc_law_question.nd rfl (Or.inl rfl) (pe_c Glaw_tape (hr.mono (by decide)) pass0 (pa_cons (pv 0) (pa_cons (pe_op op_add pe_int (pe_op op_mul pe_int (pv 1))) pa_nil))))
      (pss_cons (ps_set (i := 6) sc_law_question.nd rfl (Or.inl rfl) (pe_c Glaw_lists (hr.mono (by decide)) pass0 (pa_cons (pv 5) (pa_cons (pv 4) pa_nil))))
      (pss_cons (ps_set (i := 7) sc_law_question.nd rfl (Or.inl rfl) (pe_c Glaw_spoilt (hr.mono (by decide)) pass0 (pa_cons (pv 5) (pa_cons (pv 4) (pa_cons (pv 6) pa_nil)))))
      (pss_cons (ps_set (i := 8) sc_law_question.nd rfl (Or.inl rfl) (pe_c Glaw_record (hr.mono (by decide)) pass0 (pa_cons (pe_c Glaw_tape (hr.mono (by decide)) pass0 (pa_cons (pv 0) (pa_cons (pe_op op_add pe_int (pe_op op_mul pe_int (pv 1))) pa_nil))) (pa_cons (pv 4) (pa_cons pe_int pa_nil)))))
      (pss_cons (ps_set (i := 9) sc_law_question.nd rfl (Or.inl rfl) (pe_c Glaw_changes (hr.mono (by decide)) pass0 (pa_cons (pe_c Glaw_tape (hr.mono (by decide)) pass0 (pa_cons (pv 0) (pa_cons (pe_op op_add pe_int (pe_op op_mul pe_int (pv 1))) pa_nil))) (pa_cons (pv 2) (pa_cons (pv 3) (pa_cons (pv 8) (pa_cons (pe_ix ix_list (pv 6) pe_int (fun _ _ => rfl)) pa_nil)))))))
      (pss_cons (ps_set (i := 10) sc_law_question.nd rfl (Or.inl rfl) (pe_c Glaw_changes (hr.mono (by decide)) pass0 (pa_cons (pe_c Glaw_tape (hr.mono (by decide)) pass0 (pa_cons (pv 0) (pa_cons (pe_op op_add pe_int (pe_op op_mul pe_int (pv 1))) pa_nil))) (pa_cons (pv 2) (pa_cons (pv 3) (pa_cons (pv 8) (pa_cons (pe_ix ix_list (pv 6) pe_int (fun _ _ => rfl)) pa_nil)))))))
      (pss_one (ps_ret (pe_lst (pa_cons (pv 6) (pa_cons (pv 7) (pa_cons (pv 8) (pa_cons (pv 9) (pa_cons (pv 10) pa_nil))))))))))))))), ?_⟩
    have cm : ∀ j : Int, CMul 4 j := fun j => .inl ⟨by decide, by decide⟩
    have em : ∀ c : Nat, (V.int ((c : Int) + 4 * (m : Int))) = V.int ((c + 4 * m : Nat) : Int) := fun c => by congr 1
    refine sq ⟨_, rfl, ka, vK ks, rfl, .inl (SqL.of hka), ?_⟩
    rw [vK_len, lk]
    refine sq ⟨_, rfl, _, rfl, _, _, rfl, rfl, cm _, _, _, rfl, rfl, sa, S, 2 + 4 * m, rfl, hS, fun H1 t1 S1 ht1 tp1 => ?_⟩
    refine sq ⟨_, rfl, _, rfl, t1, ps.length, rfl, tp1, hn, fun H2 l a b A B B2 T2 hl0 ha0 hb0 nab hl ha hb two => ?_⟩
    have S2 : Same H H2 := But.same S1 B2 ht1
    have nl := tp1.ne hl0
    have na := tp1.ne ha0
    have nb := tp1.ne hb0
    refine sq ⟨_, rfl, _, rfl, _, rfl, t1, l, a, b, ps.length, A, B, rfl, T2, h1, hn, hl, ha, hb, two.lA, two.lB, fun H3 s x y X Y B3 T3 hs0 hx0 hy0 nxy hs hx hy lX lY => ?_⟩
    have S3 : Same H H3 := But.same S2 B3 ht1
    have hl3 := B3 _ _ nl hl
    have ha3 := B3 _ _ na ha
    have hb3 := B3 _ _ nb hb
    refine sq ⟨_, rfl, _, rfl, _, _, rfl, rfl, cm _, _, _, rfl, rfl, sa, S, 3 + 4 * m, rfl, Same.sl S3 hS, fun H4 t2 S4 ht2 tp2 => ?_⟩
    refine ⟨_, rfl, t2, ps.length, 3, rfl, tp2, hn, by decide, by decide, fun H5 ba bs B5 T5 hba0 hba lbs => ?_⟩
    have S35 : Same H3 H5 := But.same S4 B5 ht2
    have S5 := Same.trans S3 S35
    dsimp only
    refine sq ⟨_, rfl, _, rfl, _, _, rfl, rfl, cm _, _, _, rfl, rfl, sa, S, 4 + 4 * m, rfl, Same.sl S5 hS, fun H6 t3 S6 ht3 tp3 => ?_⟩
    have S06 := Same.trans S5 S6
    have ne3 : ∀ {c : Addr} {o : HO}, H5 c = some o → c ≠ t3 := fun e => ne_of_none e ht3
    have hl6 := S6 _ _ (S35 _ _ hl3)
    have ha6 := S6 _ _ (S35 _ _ ha3)
    have hb6 := S6 _ _ (S35 _ _ hb3)
    refine ⟨_, rfl, _, rfl, _, rfl, _, rfl, l, _, (0 : Int), .ref a, rfl, rfl, SqL.of hl6, atN (n := 0) rfl, t3, pa, ka, ba, a, ps, ks, r, bs, A, rfl, tp3, ne3 (S5 _ _ hpa), ne3 (S5 _ _ hka), ne3 (S35 _ _ ha3), S06 _ _ hpa, S06 _ _ hka, S6 _ _ hba, ha6, W, hn, lk, lbs, two.vA, two.lA, fun H7 f1 c1 B7 T7 hf10 hf1 chg1 lc1 => ?_⟩
    have S57 : Same H5 H7 := But.same S6 B7 ht3
    have S7 := Same.trans S5 S57
    have S37 := Same.trans S35 S57
    dsimp only
    refine sq ⟨_, rfl, _, rfl, _, _, rfl, rfl, cm _, _, _, rfl, rfl, sa, S, 5 + 4 * m, rfl, Same.sl S7 hS, fun H8 t4 S8 ht4 tp4 => ?_⟩
    have S08 := Same.trans S7 S8
    have ne4 : ∀ {c : Addr} {o : HO}, H7 c = some o → c ≠ t4 := fun e => ne_of_none e ht4
    have hl8 := S8 _ _ (S37 _ _ hl3)
    have hb8 := S8 _ _ (S37 _ _ hb3)
    refine ⟨_, rfl, _, rfl, _, rfl, _, rfl, l, _, (1 : Int), .ref b, rfl, rfl, SqL.of hl8, atN (n := 1) rfl, t4, pa, ka, ba, b, ps, ks, r, bs, B, rfl, tp4, ne4 (S7 _ _ hpa), ne4 (S7 _ _ hka), ne4 (S37 _ _ hb3), S08 _ _ hpa, S08 _ _ hka, S8 _ _ (S57 _ _ hba), hb8, W, hn, lk, lbs, two.vB, two.lB, fun H9 f2 c2 B9 T9 hf20 hf2 chg2 lc2 => ?_⟩
    have S79 : Same H7 H9 := But.same S8 B9 ht4
    have S9 := Same.trans S7 S79
    have S39 := Same.trans S37 S79
    dsimp only
    refine srt ⟨_, rfl, _, rfl, _, rfl, _, rfl, _, rfl, small (show 5 ≤ 1000 by decide), fun z hz => ?_⟩
    have Sz := Same.new (o := .lst [.ref l, .ref s, .ref ba, .ref f1, .ref f2]) hz
    have S3z := Same.trans S39 Sz
    refine q _ z A B X Y bs c1 c2 l s ba f1 f2 a b x y (Same.trans S9 Sz) (Same.free S9 hz) ⟨upd_same, S3z _ _ hl3, S3z _ _ hs, Sz _ _ (S79 _ _ (S57 _ _ hba)), Sz _ _ (S79 _ _ hf1), Sz _ _ hf2, S3z _ _ ha3, S3z _ _ hb3, S3z _ _ hx, S3z _ _ hy, two, lX, lY, lbs, chg1, chg2, lc1, lc2⟩
end
end Fr

/-! # FrL14 -/
namespace Fr
open PySem PySem.Spec PyProof.Rows L2 FR
def dueV : FR.Due → List V
  | .notFair f => [.str "NotFair", .int ((f : Nat) : Int)]
  | .badPlace x => [.str "BadPlace", .int x]
  | .overlap f => [.str "Overlap", .int ((f : Nat) : Int)]
theorem vN_I (l : List Nat) : vN l = vI (l.map fun (n : Nat) => (n : Int)) := by
  unfold vN vI
  rw [List.map_map]; rfl
section
variable {P : Program} {w : World} {K : PySem.W.Frag} {mg : Str → Option Value} {base : Heap} (T : Tx K mg)
include T
def spIf : Sp := fun vs H Q _ => ∃ (ta ea da : Addr) (nm : Str) (z : Int), vs = [.ref ta, .ref da] ∧ H ta = some (.tup [.ref ea]) ∧ H ea = some (.tup [.str nm, .int z]) ∧ H da = some (.tup [.str nm, .int z]) ∧ ∀ H', Same H H' → Q (.bl true) H'
theorem ok_if : Ok1 P w K mg base CX0 2 "_law_is_refusal" ["_law_told", "_law_due"] spIf := by
  have Glaw_is_integer : Ok1 P w K mg base CX0 1 "_law_is_integer" ["_law_actual"] spIs := ok_is T
  refine T.d_law_is_refusal.ok sc_law_is_refusal (fun vs H Q E h => ?_) (fun ff cdv Ar outer s0 H vs Q E hr h => ?_)
  · obtain ⟨ta, ea, da, nm, z, rfl, _⟩ := h; rfl
  · obtain ⟨ta, ea, da, nm, z, rfl, h1, h2, h3, q⟩ := h
    refine ⟨_, (pss_cons (ps_if (PW.pt (pw_or (pt_not (pt_val (pe_callB call_isi (by rfl) T.z_isinstance (by decide +kernel) (pa_cons (pv 0) (pa_cons (pe_bltn (v := .ty "tuple") (by rfl) T.z_tuple (by decide +kernel) rfl) pa_nil))))) (pw_or (pt_cmpR op_ne (pe_callB call_len_seq (by rfl) T.z_len (by decide +kernel) (pa_cons (pv 0) pa_nil)) pe_int (nomark _)) (pw_or1 (pt_cmpR op_ne (pe_ix ix_tup (pe_ix ix_tup (pv 0) pe_int (fun _ _ => rfl)) pe_int (fun _ _ => rfl)) (pe_ix ix_tup (pv 1) pe_int (fun _ _ => rfl)) (nomark _))))))
        (pss_one (ps_ret pe_bl))
        pss_nil)
      (pss_one (ps_ret (pe_and (pe_c Glaw_is_integer (hr.mono (by decide)) pass0 (pa_cons (pe_ix ix_tup (pe_ix ix_tup (pv 0) pe_int (fun _ _ => rfl)) pe_int (fun _ _ => rfl)) pa_nil)) (pe_one (pe_cmpR op_eq (pe_ix ix_tup (pe_ix ix_tup (pv 0) pe_int (fun _ _ => rfl)) pe_int (fun _ _ => rfl)) (pe_ix ix_tup (pv 1) pe_int (fun _ _ => rfl)) (nomark _))))))), ?_⟩
    refine sqi ⟨_, rfl, _, _, _, _, true, rfl, .ty "tuple", .base (.tup h1), kit_ty (by decide +kernel), _, rfl, iteD false rfl (iteF ?_)⟩
    refine ⟨_, rfl, ta, _, rfl, .inr (SqT.of h1), rfl, _, rfl, iteD false rfl (iteF ?_)⟩
    refine ⟨_, rfl, _, _, (0 : Int), .ref ea, rfl, rfl, SqT.of h1, atN (n := 0) rfl, _, _, (0 : Int), .str nm, rfl, rfl, SqT.of h2, atN (n := 0) rfl, _, rfl, _, _, (0 : Int), .str nm, rfl, rfl, SqT.of h3, atN (n := 0) rfl, rfl, _, rfl, iteD false (by simp) (iteF (snx ?_))⟩
    dsimp only
    refine srt ⟨_, rfl, _, _, (0 : Int), .ref ea, rfl, rfl, SqT.of h1, atN (n := 0) rfl, _, _, (1 : Int), .int z, rfl, rfl, SqT.of h2, atN (n := 1) rfl, z, rfl, fun H2 S2 => ⟨_, rfl, iteT ?_⟩⟩
    refine ⟨_, rfl, _, _, (0 : Int), .ref ea, rfl, rfl, SqT.of (S2 _ _ h1), atN (n := 0) rfl, _, _, (1 : Int), .int z, rfl, rfl, SqT.of (S2 _ _ h2), atN (n := 1) rfl, _, rfl, _, _, (1 : Int), .int z, rfl, rfl, SqT.of (S2 _ _ h3), atN (n := 1) rfl, rfl, qv (q H2 S2) (by simp)⟩
def spRf (K : PySem.W.Frag) : Sp := fun vs H Q _ => ∃ (ka fa sa : Addr) (ks : List Kd) (A B : List Int), vs = [.ref ka, .ref fa, .ref sa] ∧ SqL K H ka (vK ks) ∧ H fa = some (.lst (vI A)) ∧ H sa = some (.lst (vI B)) ∧ ks.length ≤ 16 ∧ A.length ≤ 30 ∧ B.length ≤ 30 ∧
  (due ks A B = none → ∀ H', Same H H' → Q .non H') ∧ ∀ d, due ks A B = some d → ∀ H' p, Same H H' → H p = none → H' p = some (.tup (dueV d)) → Q (.ref p) H'
theorem ok_rf : Ok1 P w K mg base CX0 2 "_law_refusal" ["_law_kinds_here", "_law_first", "_law_second"] (spRf K) := by
  have Glaw_unfair : Ok1 P w K mg base CX0 1 "_law_unfair" ["_law_kinds_here"] (spUnf K) := ok_unf T
  refine T.d_law_refusal.ok sc_law_refusal (fun vs H Q E h => ?_) (fun ff cdv Ar outer s0 H vs Q E hr h => ?_)
  · obtain ⟨ka, fa, sa, ks, A, B, rfl, _⟩ := h; rfl
  · obtain ⟨ka, fa, sa, ks, A, B, rfl, hk, hA, hB, hn, lA, lB, q1, q2⟩ := h
    refine ⟨_, (pss_cons (ps_set (i := 3) sc_law_refusal.nd rfl (Or.inl rfl) (pe_c Glaw_unfair (hr.mono (by decide)) pass0 (pa_cons (pv 0) pa_nil)))
      (pss_cons (ps_if (pt_cmpR op_notN (pv 3) pe_non (nomark _))
        (pss_one (ps_ret (pv 3)))
        pss_nil)
      (pss_cons (ps_for PassesOwn.never rfl (pi_list (pe_op op_cat (pv 1) (pv 2))) (pg_name (i := 4) sc_law_refusal.nd rfl (Or.inl rfl))
        (pss_one (ps_if (pt_not (pt_chain op_le op_lt pe_int (pv 4) (pe_callB call_len_seq (by rfl) T.z_len (by decide +kernel) (pa_cons (pv 0) pa_nil))))
          (pss_one (ps_ret (pe_tup (pa_cons pe_str (pa_cons (pv 4) pa_nil)))))
          pss_nil)))
      (pss_cons (ps_for PassesOwn.never rfl (pi_range1 (by rfl) T.z_range (pa_cons (pe_callB call_len_seq (by rfl) T.z_len (by decide +kernel) (pa_cons (pv 0) pa_nil)) pa_nil)) (pg_name (i := 5) sc_law_refusal.nd rfl (Or.inl rfl))
        (pss_one (ps_if (PW.pt (pw_and (pt_cmpR op_in_seq (pv 5) (pv 1) (by rfl)) (pw_and1 (pt_cmpR op_in_seq (pv 5) (pv 2) (by rfl)))))
          (pss_one (ps_ret (pe_tup (pa_cons pe_str (pa_cons (pv 5) pa_nil)))))
          pss_nil)))
      (pss_one (ps_ret pe_non)))))), ?_⟩
    refine sq ⟨_, rfl, ka, ks, rfl, hk, hn, fun e0 H1 S1 => ?_, fun f e0 H1 p S1 hp0 hp => ?_⟩
    · refine sqi ⟨_, rfl, rfl, _, rfl, iteD false rfl (iteF (snx ?_))⟩
      dsimp only
      have hA1 := S1 _ _ hA
      have hB1 := S1 _ _ hB
      have hdue : ∀ {x : Option FR.Due}, (match badp ks.length (A ++ B) with
        | some x => some (FR.Due.badPlace x)
        | none => match ovl ks.length A B with
          | some f => some (FR.Due.overlap f)
          | none => none) = x → due ks A B = x := fun {x} h => by unfold due; rw [e0]; exact h
      refine sqf ⟨_, rfl, _, rfl, fa, sa, _, _, rfl, rfl, hA1, hB1, by rw [vI_len, vI_len]; exact small (by omega), fun u hu => ⟨u, rfl, ⟨vI (A ++ B), SqL.of ?_⟩, ?_⟩⟩
      · rw [upd_same]; unfold vI; rw [List.map_append]
      have Su := Same.new (o := .lst (vI A ++ vI B)) hu
      have hu1 : L2.upd H1 u (.lst (vI A ++ vI B)) u = some (.lst (vI (A ++ B))) := by rw [upd_same]; unfold vI; rw [List.map_append]
      generalize L2.upd H1 u (.lst (vI A ++ vI B)) = H2 at Su hu1 ⊢
      have S2 := Same.trans S1 Su
      refine for_list (xs := vI (A ++ B)) (fun i σ H' => (∃ x, σ = [some (.ref ka), some (.ref fa), some (.ref sa), some .non, x, none]) ∧ Same H2 H' ∧ badp ks.length ((A ++ B).take i) = none) ⟨⟨_, rfl⟩, Same.refl H2, rfl⟩ (fun i σ H' _ h => SqL.of (h.2.1 _ _ hu1)) ?_ ?_
      · rintro i v σ H' hi ⟨⟨a, rfl⟩, S3, hpre⟩
        have hil : i < (A ++ B).length := by
          have := (List.getElem?_eq_some_iff.mp hi).1
          rw [vI_len] at this; exact this
        rw [vI_at hil] at hi
        cases hi
        have hx : (A ++ B)[i]? = some (rg (A ++ B) i) := by
          unfold rg
          rw [List.getD_eq_getElem?_getD, List.getElem?_eq_getElem hil]; rfl
        have S03 := Same.trans S2 S3
        generalize rg (A ++ B) i = x at hx
        refine gn (if_use (!okP ks.length x) (fun Q' q' => ?_) (fun e H4 S4 => ?_) (fun e H4 S4 => snx ⟨⟨_, rfl⟩, Same.trans S3 S4, take_none hx hpre e⟩))
        · have q3 := q' H' (Same.refl H')
          unfold okP at q3
          refine ⟨_, rfl, _, _, rfl, rfl, _, rfl, ?_⟩
          by_cases h0 : (0 : Int) ≤ x
          · rw [decide_eq_true h0] at q3 ⊢
            exact ⟨_, rfl, ka, vK ks, rfl, .inl (Same.sl S03 hk), _, _, rfl, rfl, _, rfl, qb q3 (by rw [vK_len]; simp)⟩
          · rw [decide_eq_false h0] at q3 ⊢
            rw [if_neg (by decide)]
            exact ⟨_, rfl, q3⟩
        · have hb : badp ks.length (A ++ B) = some x := take_some hx hpre e
          exact ⟨_, rfl, small (show 2 ≤ 1000 by decide), fun p hp => q2 (.badPlace x) (hdue (by rw [hb])) _ p (Same.trans S03 (Same.trans S4 (Same.new hp))) (Same.free (Same.trans S03 S4) hp) upd_same⟩
      · rintro σ H' ⟨⟨a, rfl⟩, S3, hpre⟩
        rw [vI_len, List.take_length] at hpre
        have S03 := Same.trans S2 S3
        dsimp only
        refine sqf ⟨_, rfl, ka, vK ks, rfl, .inl (Same.sl S03 hk), _, rfl, by rw [vK_len]; omega, by rw [vK_len]; omega, for_rg ks.length (by rw [vK_len]) (fun i σ H5 => (∃ x y, σ = [some (.ref ka), some (.ref fa), some (.ref sa), some .non, x, y]) ∧ Same H' H5 ∧ ((List.range ks.length).take i).find? (fun f => inL A f && inL B f) = none) ⟨⟨_, _, rfl⟩, Same.refl H', rfl⟩ ?_ ?_⟩
        · rintro i σ H5 hi ⟨⟨x, y, rfl⟩, S5, hpre5⟩
          have hx : (List.range ks.length)[i]? = some i := List.getElem?_range (by omega)
          have S05 := Same.trans S03 S5
          refine gn (if_use (inL A i && inL B i) (fun Q' q' => ?_) (fun e H6 S6 => ?_) (fun e H6 S6 => snx ⟨⟨_, _, rfl⟩, Same.trans S5 S6, take_none hx hpre5 e⟩))
          · have q3 := q' H5 (Same.refl H5)
            refine ⟨_, rfl, _, rfl, fa, vI A, rfl, .inl (SqL.of (S05 _ _ hA)), rfl, flat_I A, _, rfl, ?_⟩
            rw [if_neg (by decide), inV_N]
            cases hA2 : inL A i with
            | false =>
              rw [if_neg (by decide)]
              rw [hA2] at q3
              exact q3
            | true =>
              rw [hA2, Bool.true_and] at q3
              rw [if_pos rfl]
              refine ⟨_, rfl, _, rfl, sa, vI B, rfl, .inl (SqL.of (S05 _ _ hB)), rfl, flat_I B, _, rfl, ?_⟩
              rw [if_neg (by decide), inV_N]
              exact q3
          · have ho : ovl ks.length A B = some i := take_some hx hpre5 e
            exact ⟨_, rfl, small (show 2 ≤ 1000 by decide), fun p hp => q2 (.overlap i) (hdue (by rw [hpre, ho])) _ p (Same.trans S05 (Same.trans S6 (Same.new hp))) (Same.free (Same.trans S05 S6) hp) upd_same⟩
        · rintro σ H5 ⟨⟨x, y, rfl⟩, S5, hpre5⟩
          rw [List.take_of_length_le (by rw [List.length_range]; exact Nat.le_refl _)] at hpre5
          have ho : ovl ks.length A B = none := hpre5
          dsimp only
          exact srt (q1 (hdue (by rw [hpre, ho])) H5 (Same.trans S03 S5))
    · refine sqi ⟨_, rfl, rfl, _, rfl, iteD true rfl (iteT ?_)⟩
      exact ⟨_, rfl, q2 (.notFair f) (by unfold due; rw [e0]) H1 p S1 hp0 hp⟩
def spAp (K : PySem.W.Frag) : Sp := fun vs H Q _ => ∃ (pa fa sa : Addr) (ps : Par) (r : Nat → Nat) (A B : List Int), vs = [.ref pa, .ref fa, .ref sa] ∧ SqL K H pa (vP ps) ∧ SqL K H fa (vI A) ∧ SqL K H sa (vI B) ∧ Wf ps r ∧ ps.length ≤ 16 ∧ Valid ps.length A ∧ Valid ps.length B ∧
  ∀ H', Same H H' → Q (.bl (apt ps A B)) H'
theorem ok_ap : Ok1 P w K mg base CX0 2 "_law_apart" ["_law_parents_here", "_law_first", "_law_second"] (spAp K) := by
  have Glaw_path : Ok1 P w K mg base CX0 1 "_law_path" ["_law_parents_here", "_law_field"] (spLp K) := ok_lp T
  refine T.d_law_apart.ok sc_law_apart (fun vs H Q E h => ?_) (fun ff cdv Ar outer s0 H vs Q E hr h => ?_)
  · obtain ⟨pa, fa, sa, ps, r, A, B, rfl, _⟩ := h; rfl
  · obtain ⟨pa, fa, sa, ps, r, A, B, rfl, hp, hA, hB, W, hn, vA, vB, q⟩ := h
    refine ⟨_, (pss_cons (ps_for PassesOwn.never rfl (pi_list (pe_lst (pa_cons (pe_lst (pa_cons (pv 1) (pa_cons (pv 2) pa_nil))) (pa_cons (pe_lst (pa_cons (pv 2) (pa_cons (pv 1) pa_nil))) pa_nil)))) (pg_name (i := 3) sc_law_apart.nd rfl (Or.inr rfl))
        (pss_one (ps_for PassesOwn.never rfl (pi_list (pe_ix ix_list (pv 3) pe_int (fun _ _ => rfl))) (pg_name (i := 4) sc_law_apart.nd rfl (Or.inl rfl))
          (pss_one (ps_if (pt_cmpR (op_neD hr.units) (pe_lc (own := [("_law_place", 5)]) (g := gName 5) rfl sc_law_apart.nd (pi_list (pe_c Glaw_path (hr.mono (by decide)) pass0 (pa_cons (pv 0) (pa_cons (pv 4) pa_nil)))) (blkOk_by (own := [("_law_place", 5)]) (N := ["_law_parents_here", "_law_first", "_law_second", "_law_pair", "_law_field", "_law_place"]) (sc := defScope s_law_apart) (by decide +kernel)) (fun _ _ _ _ _ => pg_name (i := 5) sc_law_apart.nd rfl (Or.inl rfl)) (fun _ _ _ _ _ => (pts_one (pt_cmpR (op_inK K rfl) (pv 5) (pe_ix (ix_listK K rfl) (pv 3) pe_int (fun _ _ => rfl)) (by rfl)))) (fun _ _ _ _ _ => (pv 5))) (pe_lst pa_nil) (nomark _))
            (pss_one (ps_ret pe_bl))
            pss_nil)))))
      (pss_one (ps_ret pe_bl))), ?_⟩
    refine sqf ⟨_, rfl, _, rfl, small (show 2 ≤ 1000 by decide), fun o1 ho1 => ?_⟩
    have Sa := Same.new (o := .lst [.ref fa, .ref sa]) ho1
    refine ⟨_, rfl, _, rfl, small (show 2 ≤ 1000 by decide), fun o2 ho2 => ⟨small (show 2 ≤ 1000 by decide), fun o3 ho3 => ⟨o3, rfl, ⟨_, SqL.of upd_same⟩, ?_⟩⟩⟩
    have Sb := Same.new (o := .lst [.ref sa, .ref fa]) ho2
    have Sc := Same.new (o := .lst [.ref o1, .ref o2]) ho3
    have g1 : L2.upd (L2.upd (L2.upd H o1 (.lst [.ref fa, .ref sa])) o2 (.lst [.ref sa, .ref fa])) o3 (.lst [.ref o1, .ref o2]) o1 = some (.lst [.ref fa, .ref sa]) := Sc _ _ (Sb _ _ upd_same)
    have g2 : L2.upd (L2.upd (L2.upd H o1 (.lst [.ref fa, .ref sa])) o2 (.lst [.ref sa, .ref fa])) o3 (.lst [.ref o1, .ref o2]) o2 = some (.lst [.ref sa, .ref fa]) := Sc _ _ upd_same
    have g3 : L2.upd (L2.upd (L2.upd H o1 (.lst [.ref fa, .ref sa])) o2 (.lst [.ref sa, .ref fa])) o3 (.lst [.ref o1, .ref o2]) o3 = some (.lst [.ref o1, .ref o2]) := upd_same
    have S0 := Same.trans Sa (Same.trans Sb Sc)
    generalize L2.upd (L2.upd (L2.upd H o1 (.lst [.ref fa, .ref sa])) o2 (.lst [.ref sa, .ref fa])) o3 (.lst [.ref o1, .ref o2]) = H0 at g1 g2 g3 S0 ⊢
    refine for_list (xs := [.ref o1, .ref o2]) (fun i σ H' => (∃ x y z, σ = [some (.ref pa), some (.ref fa), some (.ref sa), x, y, z]) ∧ Same H0 H' ∧ (1 ≤ i → half ps A B = true) ∧ (2 ≤ i → half ps B A = true)) ⟨⟨_, _, _, rfl⟩, Same.refl H0, fun h => absurd h (by omega), fun h => absurd h (by omega)⟩ (fun i σ H' _ h => SqL.of (h.2.1 _ _ g3)) ?_ ?_
    · rintro i v σ H1 hi ⟨⟨x, y, z, rfl⟩, S1, p1, p2⟩
      have S01 := Same.trans S0 S1
      obtain ⟨o, la, ma, L, M, rfl, ho, hl, hm, vL, fin, bad⟩ : ∃ (o la ma : Addr) (L M : List Int), v = .ref o ∧ H1 o = some (.lst [.ref la, .ref ma]) ∧ SqL K H1 la (vI L) ∧ SqL K H1 ma (vI M) ∧ Valid ps.length L ∧
          (half ps L M = true → (1 ≤ i + 1 → half ps A B = true) ∧ (2 ≤ i + 1 → half ps B A = true)) ∧ (half ps L M = false → apt ps A B = false) := by
        match i, hi with
        | 0, hi =>
          cases hi
          exact ⟨o1, fa, sa, A, B, rfl, S1 _ _ g1, Same.sl S01 hA, Same.sl S01 hB, vA, fun h => ⟨fun _ => h, fun h2 => absurd h2 (by omega)⟩, fun h => by unfold apt; rw [h]; rfl⟩
        | 1, hi =>
          cases hi
          exact ⟨o2, sa, fa, B, A, rfl, S1 _ _ g2, Same.sl S01 hB, Same.sl S01 hA, vB, fun h => ⟨fun _ => p1 (by omega), fun _ => h⟩, fun h => by unfold apt; rw [h, Bool.and_false]⟩
      have hp1 := Same.sl S01 hp
      clear hi p1 p2
      refine gn ⟨_, rfl, _, _, (0 : Int), .ref la, rfl, rfl, SqL.of ho, atN (n := 0) rfl, la, rfl, ⟨_, hl⟩, ?_⟩
      refine for_list (xs := vI L) (fun j σ H' => (∃ y z, σ = [some (.ref pa), some (.ref fa), some (.ref sa), some (.ref o), y, z]) ∧ Same H1 H' ∧ ((L.take j).all fun x => !((pathL ps x.toNat).any fun p => inL M p)) = true) ⟨⟨_, _, rfl⟩, Same.refl H1, rfl⟩ (fun j σ H' _ h => Same.sl h.2.1 hl) ?_ ?_
      · rintro j v σ H2 hj ⟨⟨y, z, rfl⟩, S2, hpre⟩
        have hjl : j < L.length := by
          have := (List.getElem?_eq_some_iff.mp hj).1
          rw [vI_len] at this; exact this
        rw [vI_at hjl] at hj
        cases hj
        have hxm := rg_mem hjl
        have hx := vL _ hxm
        have htk : L.take (j + 1) = L.take j ++ [rg L j] := by
          rw [List.take_succ]
          unfold rg
          rw [List.getD_eq_getElem?_getD, List.getElem?_eq_getElem hjl]
          rfl
        obtain ⟨f, hf⟩ : ∃ f : Nat, rg L j = (f : Int) := ⟨(rg L j).toNat, by omega⟩
        rw [hf] at hx hxm htk ⊢
        have hfl : f < ps.length := by omega
        refine gn (if_use ((pathL ps f).any fun p => inL M p) (fun Q' q' => ?_) (fun e H6 S6 => ?_) (fun e H6 S6 => snx ⟨⟨_, _, rfl⟩, Same.trans S2 S6, ?_⟩))
        · refine ⟨_, rfl, _, rfl, pa, ps, r, f, rfl, Same.sl S2 hp1, W, hfl, hn, fun H3 a3 S3 ha3 hpath => ⟨a3, rfl, ⟨_, SqL.of hpath⟩, fun D hD => ?_⟩⟩
          have S23 := Same.trans S2 S3
          refine lc_listP (fun j => inL M ((pathL ps f).getD j 0)) (fun j => .int (((pathL ps f).getD j 0 : Nat) : Int)) (SqL.of hpath) (by rw [vN_len]; have := path_length ps f; omega) hD (fun x => rfl) (fun j x hj => fun H6 e6 Q6 q6 => ?_) (fun j x hj _ => fun H6 e6 Q6 q6 => ?_) (fun H4 S4 h4 => ?_)
          · have hjl : j < (pathL ps f).length := by
              have := (List.getElem?_eq_some_iff.mp hj).1
              rw [vN_len] at this; exact this
            rw [vN_at (List.getElem?_eq_getElem hjl)] at hj
            cases hj
            have S6 := Same.trans S23 e6
            refine ⟨_, rfl, _, rfl, _, _, (1 : Int), .ref ma, rfl, rfl, SqL.of (S6 _ _ ho), atN (n := 1) rfl, ma, vI M, rfl, .inl (Same.sl S6 hm), rfl, flat_I M, _, rfl, ?_⟩
            have := q6 H6 (Evl.Ex.refl _)
            rw [List.getD_eq_getElem?_getD, List.getElem?_eq_getElem hjl] at this
            rw [if_neg (by decide), inV_N]
            exact this
          · have hjl : j < (pathL ps f).length := by
              have := (List.getElem?_eq_some_iff.mp hj).1
              rw [vN_len] at this; exact this
            rw [vN_at (List.getElem?_eq_getElem hjl)] at hj
            cases hj
            have := q6 H6 (Evl.Ex.refl _)
            rw [List.getD_eq_getElem?_getD, List.getElem?_eq_getElem hjl] at this
            exact ⟨_, rfl, this⟩
          · have eg := given_filter (pathL ps f) 0 (fun z => inL M z) (fun z => V.int (z : Int))
            rw [vN_len] at h4
            rw [eg] at h4
            have h4' : H4 D = some (.lst (vI (((pathL ps f).filter fun z => inL M z).map fun (n : Nat) => (n : Int)))) := by
              rw [h4]; unfold vI; rw [List.map_map]; rfl
            refine ⟨Nat.zero_le _, fun e he => ?_⟩
            have De : D ≠ e := fun z => by rw [z, he] at h4; cases h4
            refine ⟨_, .list (dI []), .lst (SqL.of (by rw [upd_ne De]; exact h4')) (dpA_I _), .lst (SqL.of upd_same) (dpA_I []), shp_ok (shp_list (shpA_I _)), shp_ok (shp_list (shpA_I [])), _, rfl, qb (q' _ (Same.trans S3 (Same.trans S4 (Same.new he)))) ?_⟩
            rw [eqv_lI]
            cases c : (pathL ps f).any fun p => inL M p with
            | true =>
              obtain ⟨x, hx1, hx2⟩ := List.any_eq_true.mp c
              have : ¬ (((pathL ps f).filter fun z => inL M z).map fun (n : Nat) => (n : Int)) = [] := by
                intro z
                have z2 := List.map_eq_nil_iff.mp z
                have hm2 : x ∈ (pathL ps f).filter fun z => inL M z := List.mem_filter.mpr ⟨hx1, hx2⟩
                rw [z2] at hm2
                cases hm2
              rw [decide_eq_false this]; rfl
            | false =>
              have : (((pathL ps f).filter fun z => inL M z).map fun (n : Nat) => (n : Int)) = [] := by
                rw [List.map_eq_nil_iff, List.filter_eq_nil_iff]
                intro x hx1 hx2
                have := List.any_eq_false.mp c x hx1
                exact this hx2
              rw [decide_eq_true this]; rfl
        · have hb : half ps L M = false := by
            unfold half
            rw [List.all_eq_false]
            refine ⟨_, hxm, ?_⟩
            rw [Int.toNat_natCast, e]
            decide
          have qq := q H6 (Same.trans S01 (Same.trans S2 S6))
          rw [bad hb] at qq
          exact qq
        · rw [htk, List.all_append, hpre, Bool.true_and]
          simp only [List.all_cons, List.all_nil, Bool.and_true]
          rw [Int.toNat_natCast, e]
          rfl
      · rintro σ H2 ⟨⟨y, z, rfl⟩, S2, hpre⟩
        rw [vI_len, List.take_length] at hpre
        obtain ⟨f1, f2⟩ := fin hpre
        exact ⟨⟨_, _, _, rfl⟩, Same.trans S1 S2, f1, f2⟩
    · rintro σ H1 ⟨⟨x, y, z, rfl⟩, S1, p1, p2⟩
      have qq := q H1 (Same.trans S0 S1)
      have e : apt ps A B = true := by
        unfold apt
        rw [p1 (show 1 ≤ 2 by decide), p2 (show 2 ≤ 2 by decide)]; rfl
      rw [e] at qq
      dsimp only
      exact srt qq
end
end Fr

/-! # FrL15 -/
namespace Fr
open PySem PySem.Spec PyProof.Rows L2 FR
open PySem.FrX (ErC)
theorem xf_of {P : Program} {K : PySem.W.Frag} {mg : Str → Option Value} {x n : Str} {c d : Addr} (E : ErC P K mg x n c d) : XfC K c := ⟨E.ga, E.gg, E.exC, E.hdC⟩
theorem pe_bmK {X : Cx} {e : Expr} {T : String} {r : V → List V → Hp → VK → Prop} {to : TE} {t : TA} (K : PySem.W.Frag) (h : X.K = K) (H : PE X e (tBM X.K T r to t)) : PE X e (tBM K T r to t) := by subst h; exact H
def suiteOf : Stmt → List Stmt
  | .Try _ [.ExceptHandler _ _ l _] _ _ _ => l
  | _ => []
def askSuite : List Stmt := suiteOf ((defBody s_law_ask).getD 1 (.Pass ⟨0, 0, 0, 0⟩))
section
variable {X : Cx} {CX : CXT} {k : Nat} {x : Str} {ps : List Str} {sp : Sp} {E : L2.St → XK} {e : Expr} {es : List Expr} {t : TA} {p pos : Pos}
theorem pe_cS (O : Ok1 X.prog X.w X.K X.mg X.base CX k x ps sp) (hr : Room k X.A) (hx : ∀ σ, PassesAt CX X σ (E σ)) (ha : PA X (e :: es) t) (hg : Gl X x := by rfl) (hdb : (x == ("__debug__" : Str)) = false := by decide)
    (he : starEach (e :: es) X.env = (false, eval e X.env) :: starEach es X.env := by rfl) (hpl : (backTo pos (starEach es X.env)).any (·.1) = false := by rfl) :
    PE X (.Call (.Name x p) (e :: es) [] pos) (tCallS sp E t) := by
  obtain ⟨f, fd, F, g, kp, b⟩ := O.ex
  exact pe_callS F hr hg g kp b hx ha hdb he hpl
end
/-- the classes that the clause and its tests name -/
structure Ces (mg : Str → Option Value) (c1 c2 c3 aMk aBF aBA aBL aBR aBT aCL aFD aHO aFE : Addr) : Prop where
  NotFair : mg "NotFair" = some (.ref c1)
  Overlap : mg "Overlap" = some (.ref c2)
  BadPlace : mg "BadPlace" = some (.ref c3)
  Marked : mg "Marked" = some (.ref aMk)
  BadForest : mg "BadForest" = some (.ref aBF)
  BadAnswer : mg "BadAnswer" = some (.ref aBA)
  BadLetter : mg "BadLetter" = some (.ref aBL)
  BadRecord : mg "BadRecord" = some (.ref aBR)
  BadTree : mg "BadTree" = some (.ref aBT)
  CannotLand : mg "CannotLand" = some (.ref aCL)
  FieldsDiffer : mg "FieldsDiffer" = some (.ref aFD)
  HangsOn : mg "HangsOn" = some (.ref aHO)
  FieldridesError : mg "FieldridesError" = some (.ref aFE)
/-- what a raised error's class D is and is not -/
structure Cdf (K : PySem.W.Frag) (D : Addr) (b1 b2 b3 : Bool) (c1 c2 c3 aMk aBF aBA aBL aBR aBT aCL aFD aHO aFE : Addr) : Prop where
  exc : ExcC K D
  ve : PySem.W.kitOne K (.ref D) (.type "ValueError") = some true
  mkd : PySem.W.kitOne K (.ref D) (.ref aMk) = some false
  bf : PySem.W.kitOne K (.ref D) (.ref aBF) = some false
  ot : PySem.W.kitAny K (.ref D) [.ref aBA, .ref aBL, .ref aBR, .ref aBT, .ref aCL, .ref aFD, .ref aHO] = some false
  k1 : PySem.W.kitOne K (.ref D) (.ref c1) = some b1
  k2 : PySem.W.kitOne K (.ref D) (.ref c2) = some b2
  k3 : PySem.W.kitOne K (.ref D) (.ref c3) = some b3
  ex : PySem.W.exmOne K (.ref D) (.ref aFE) = some true
def dueC (c1 c2 c3 : Addr) : FR.Due → Addr
  | .notFair _ => c1
  | .badPlace _ => c3
  | .overlap _ => c2
def dueF : FR.Due → List (Str × V)
  | .notFair f => [("field", .int ((f : Nat) : Int))]
  | .badPlace x => [("place", .int x)]
  | .overlap f => [("field", .int ((f : Nat) : Int))]
section
variable {P : Program} {w : World} {K : PySem.W.Frag} {mg : Str → Option Value} {base : Heap} (T : Tx K mg) {C c1 c2 c3 d1 d2 d3 : Addr} (Fc : FoC K mg C) (R : Ers P K mg c1 c2 c3 d1 d2 d3)
  {aMk aBF aBA aBL aBR aBT aCL aFD aHO aFE : Addr} (Ce : Ces mg c1 c2 c3 aMk aBF aBA aBL aBR aBT aCL aFD aHO aFE)
  (D1 : Cdf K c1 true false false c1 c2 c3 aMk aBF aBA aBL aBR aBT aCL aFD aHO aFE) (D2 : Cdf K c2 false true false c1 c2 c3 aMk aBF aBA aBL aBR aBT aCL aFD aHO aFE) (D3 : Cdf K c3 false false true c1 c2 c3 aMk aBF aBA aBL aBR aBT aCL aFD aHO aFE)
include T Fc R Ce D1 D2 D3
def spAsk (C : Addr) (K : PySem.W.Frag) : Sp := fun vs H Q _ => ∃ (fo fa sa : Addr) (ps : Par) (ks : List Kd) (r : Nat → Nat) (A B : List Int), vs = [.ref fo, .ref fa, .ref sa] ∧ Fo C H fo ps ks ∧ Wf ps r ∧ ks.length = ps.length ∧ ps.length ≤ 16 ∧ SqL K H fa (vI A) ∧ SqL K H sa (vI B) ∧
  (due ks A B = none → ∀ H' p, Same H H' → H p = none → H' p = some (.lst [.bl (ans ps A B)]) → Q (.ref p) H') ∧
  ∀ d, due ks A B = some d → ∀ H' p e, Same H H' → H p = none → H' p = some (.tup [.ref e]) → H' e = some (.tup (dueV d)) → Q (.ref p) H'
theorem ok_ask : Ok1 P w K mg base CX0 5 "_law_ask" ["_law_forest", "_law_first", "_law_second"] (spAsk C K) := by
  have Gboth_stay : Ok1 P w K mg base (L2.CX P w) 4 "both_stay" ["forest", "first", "second"] (spBs C c1 c2 c3 K) := ok_bs T Fc R
  refine T.d_law_ask.ok sc_law_ask (fun vs H Q E h => ?_) (fun ff cdv Ar outer s0 H vs Q E hr h => ?_)
  · obtain ⟨fo, fa, sa, ps, ks, r, A, B, rfl, _⟩ := h; rfl
  · obtain ⟨fo, fa, sa, ps, ks, r, A, B, rfl, hfo, W, lk, hn, hA, hB, q1, q2⟩ := h
    have key : ∀ (a : Addr) (cls : Value) (d : Option Addr), ∃ t : TS, (∀ (oe : Obj) (pn : List (Addr × Obj)), Zc cls d oe → (∃ vs, oe.data = .fields vs) → PSs ((cxOf CX0 P w K mg base ["_law_forest", "_law_first", "_law_second", "_law_found", "e"] "_law_ask" (defScope s_law_ask) ff cdv Ar outer s0 H E).nox.suite a ((a, oe) :: pn)) askSuite t) ∧
        ∀ (x : FR.Due) (b : Addr) (dd : Addr) (H1 : Hp) (D : Ends), cls = .ref (dueC c1 c2 c3 x) → d = some dd → H1 dd = some (.xd (dueF x)) → H1 b = some (.lst []) → (∀ H2 e, But b H1 H2 → H2 b = some (.lst [.ref e]) → H2 e = some (.tup (dueV x)) → D.nx [some (.ref fo), some (.ref fa), some (.ref sa), some (.ref b), some (.ref a)] H2) →
          t D [some (.ref fo), some (.ref fa), some (.ref sa), some (.ref b), some (.ref a)] H1 := by
      intro a cls d
      refine ⟨_, fun oe pn hz hf => by exact (pss_cons (ps_if (PW.pt (pw_or (pt_not (pt_val (pe_callB (call_isX hz hf) (by rfl) T.z_isinstance (by decide +kernel) (pa_cons (pv 4) (pa_cons (pe_bltn (v := .ty "ValueError") (by rfl) T.z_ValueError (by decide +kernel) rfl) pa_nil))))) (pw_or (pt_val (pe_callB (call_isX hz hf) (by rfl) T.z_isinstance (by decide +kernel) (pa_cons (pv 4) (pa_cons (pe_glob (v := .ref _) rfl Ce.Marked rfl) pa_nil)))) (pw_or1 (pt_val (pe_callB (call_isX hz hf) (by rfl) T.z_isinstance (by decide +kernel) (pa_cons (pv 4) (pa_cons (pe_glob (v := .ref _) rfl Ce.BadForest rfl) pa_nil))))))))
        (pss_one (ps_expr (pe_bmK K rfl (pe_bm PySem.F.plainAttrs_list PySem.F.slot_list_append PySem.F.type_list_append mt_append (pv 3) (pa_cons (pe_tup (pa_cons pe_str (pa_cons pe_int pa_nil))) pa_nil)))))
        pss_nil)
      (pss_cons (ps_if (pt_val (pe_callB (call_isXT hz hf) (by rfl) T.z_isinstance (by decide +kernel) (pa_cons (pv 4) (pa_cons (pe_tup (pa_cons (pe_glob (v := .ref _) rfl Ce.BadAnswer rfl) (pa_cons (pe_glob (v := .ref _) rfl Ce.BadLetter rfl) (pa_cons (pe_glob (v := .ref _) rfl Ce.BadRecord rfl) (pa_cons (pe_glob (v := .ref _) rfl Ce.BadTree rfl) (pa_cons (pe_glob (v := .ref _) rfl Ce.CannotLand rfl) (pa_cons (pe_glob (v := .ref _) rfl Ce.FieldsDiffer rfl) (pa_cons (pe_glob (v := .ref _) rfl Ce.HangsOn rfl) pa_nil)))))))) pa_nil))))
        (pss_one (ps_expr (pe_bmK K rfl (pe_bm PySem.F.plainAttrs_list PySem.F.slot_list_append PySem.F.type_list_append mt_append (pv 3) (pa_cons (pe_tup (pa_cons pe_str (pa_cons pe_int pa_nil))) pa_nil)))))
        pss_nil)
      (pss_cons (ps_if (pt_val (pe_callB (call_isX hz hf) (by rfl) T.z_isinstance (by decide +kernel) (pa_cons (pv 4) (pa_cons (pe_glob (v := .ref _) rfl Ce.NotFair rfl) pa_nil))))
        (pss_one (ps_expr (pe_bmK K rfl (pe_bm PySem.F.plainAttrs_list PySem.F.slot_list_append PySem.F.type_list_append mt_append (pv 3) (pa_cons (pe_tup (pa_cons pe_str (pa_cons (pe_xf (xf_of R.nf) R.nf.noN hz hf (pv 4) rfl) pa_nil))) pa_nil)))))
        pss_nil)
      (pss_cons (ps_if (pt_val (pe_callB (call_isX hz hf) (by rfl) T.z_isinstance (by decide +kernel) (pa_cons (pv 4) (pa_cons (pe_glob (v := .ref _) rfl Ce.BadPlace rfl) pa_nil))))
        (pss_one (ps_expr (pe_bmK K rfl (pe_bm PySem.F.plainAttrs_list PySem.F.slot_list_append PySem.F.type_list_append mt_append (pv 3) (pa_cons (pe_tup (pa_cons pe_str (pa_cons (pe_xf (xf_of R.bp) R.bp.noN hz hf (pv 4) rfl) pa_nil))) pa_nil)))))
        pss_nil)
      (pss_one (ps_if (pt_val (pe_callB (call_isX hz hf) (by rfl) T.z_isinstance (by decide +kernel) (pa_cons (pv 4) (pa_cons (pe_glob (v := .ref _) rfl Ce.Overlap rfl) pa_nil))))
      (pss_one (ps_expr (pe_bmK K rfl (pe_bm PySem.F.plainAttrs_list PySem.F.slot_list_append PySem.F.type_list_append mt_append (pv 3) (pa_cons (pe_tup (pa_cons pe_str (pa_cons (pe_xf (xf_of R.ol) R.ol.noN hz hf (pv 4) rfl) pa_nil))) pa_nil)))))
      pss_nil)))))), fun x b dd H1 D hcls hd hdd hb k => ?_⟩
      cases x with
      | notFair f =>
        have hcls : cls = .ref c1 := hcls
        subst hcls
        subst hd
        have hdd : H1 dd = some (.xd [("field", .int ((f : Nat) : Int))]) := hdd
        have ndb : dd ≠ b := fun z => by rw [z, hb] at hdd; cases hdd
        refine sqi ⟨_, rfl, _, _, _, _, dd, _, rfl, .ty "ValueError", rfl, rfl, hdd, D1.exc, D1.ve, _, rfl, iteD false rfl (iteF ⟨_, rfl, _, _, _, _, dd, _, rfl, .own aMk, rfl, rfl, hdd, D1.exc, D1.mkd, _, rfl, iteF ⟨_, rfl, _, _, _, _, dd, _, rfl, .own aBF, rfl, rfl, hdd, D1.exc, D1.bf, _, rfl, iteF (snx ?_)⟩⟩)⟩
        dsimp only
        refine sqi ⟨_, rfl, small (show 7 ≤ 1000 by decide), fun p hp => ?_⟩
        have npb : b ≠ p := fun z => by rw [z, hp] at hb; cases hb
        have npd : dd ≠ p := fun z => by rw [z, hp] at hdd; cases hdd
        have B2 : But b H1 (L2.upd H1 p (.tup [.ref aBA, .ref aBL, .ref aBR, .ref aBT, .ref aCL, .ref aFD, .ref aHO])) := But.of (Same.new hp)
        have hb2 : L2.upd H1 p (.tup [.ref aBA, .ref aBL, .ref aBR, .ref aBT, .ref aCL, .ref aFD, .ref aHO]) b = some (.lst []) := by rw [upd_ne npb]; exact hb
        have hd2 : L2.upd H1 p (.tup [.ref aBA, .ref aBL, .ref aBR, .ref aBT, .ref aCL, .ref aFD, .ref aHO]) dd = some (.xd [("field", .int ((f : Nat) : Int))]) := by rw [upd_ne npd]; exact hdd
        refine ⟨p, _, _, _, _, dd, _, rfl, upd_same, .cons (.own _) (.cons (.own _) (.cons (.own _) (.cons (.own _) (.cons (.own _) (.cons (.own _) (.cons (.own _) .nil)))))), rfl, rfl, hd2, D1.exc, D1.ot, _, rfl, iteF (snx ?_)⟩
        dsimp only
        generalize L2.upd H1 p (.tup [.ref aBA, .ref aBL, .ref aBR, .ref aBT, .ref aCL, .ref aFD, .ref aHO]) = H2 at B2 hb2 hd2 ⊢
        refine sqi ⟨_, rfl, _, _, _, _, dd, _, rfl, .own c1, rfl, rfl, hd2, D1.exc, D1.k1, _, rfl, iteT ?_⟩
        refine ⟨_, rfl, .inl ⟨rfl, _, SqL.of hb2⟩, _, rfl, rfl, rfl, dd, _, _, rfl, hd2, rfl, small (show 2 ≤ 1000 by decide), fun q hq => ?_⟩
        have nqb : b ≠ q := fun z => by rw [z, hq] at hb2; cases hb2
        have nqd : dd ≠ q := fun z => by rw [z, hq] at hd2; cases hd2
        refine ⟨b, [], _, rfl, rfl, by rw [upd_ne nqb]; exact hb2, smallL (by decide), ?_⟩
        have B3 : But b H1 (L2.upd (L2.upd H2 q (.tup (dueV (.notFair f)))) b (.lst [.ref q])) := But.trans B2 (But.trans (But.of (Same.new hq)) (But.upd b _ _))
        have hb3 : L2.upd (L2.upd H2 q (.tup (dueV (.notFair f)))) b (.lst [.ref q]) b = some (.lst [.ref q]) := upd_same
        have hq3 : L2.upd (L2.upd H2 q (.tup (dueV (.notFair f)))) b (.lst [.ref q]) q = some (.tup (dueV (.notFair f))) := by rw [upd_ne (Ne.symm nqb)]; exact upd_same
        have hd3 : L2.upd (L2.upd H2 q (.tup (dueV (.notFair f)))) b (.lst [.ref q]) dd = some (.xd [("field", .int ((f : Nat) : Int))]) := B3 _ _ ndb hdd
        have KK := k _ q B3 hb3 hq3
        dsimp only
        refine sqi ⟨_, rfl, _, _, _, _, dd, _, rfl, .own c3, rfl, rfl, hd3, D1.exc, D1.k3, _, rfl, iteF (snx ?_)⟩
        dsimp only
        refine sif ⟨_, rfl, _, _, _, _, dd, _, rfl, .own c2, rfl, rfl, hd3, D1.exc, D1.k2, _, rfl, iteF (snx ?_)⟩
        exact KK
      | badPlace z =>
        have hcls : cls = .ref c3 := hcls
        subst hcls
        subst hd
        have hdd : H1 dd = some (.xd [("place", .int z)]) := hdd
        have ndb : dd ≠ b := fun z => by rw [z, hb] at hdd; cases hdd
        refine sqi ⟨_, rfl, _, _, _, _, dd, _, rfl, .ty "ValueError", rfl, rfl, hdd, D3.exc, D3.ve, _, rfl, iteD false rfl (iteF ⟨_, rfl, _, _, _, _, dd, _, rfl, .own aMk, rfl, rfl, hdd, D3.exc, D3.mkd, _, rfl, iteF ⟨_, rfl, _, _, _, _, dd, _, rfl, .own aBF, rfl, rfl, hdd, D3.exc, D3.bf, _, rfl, iteF (snx ?_)⟩⟩)⟩
        dsimp only
        refine sqi ⟨_, rfl, small (show 7 ≤ 1000 by decide), fun p hp => ?_⟩
        have npb : b ≠ p := fun z => by rw [z, hp] at hb; cases hb
        have npd : dd ≠ p := fun z => by rw [z, hp] at hdd; cases hdd
        have B2 : But b H1 (L2.upd H1 p (.tup [.ref aBA, .ref aBL, .ref aBR, .ref aBT, .ref aCL, .ref aFD, .ref aHO])) := But.of (Same.new hp)
        have hb2 : L2.upd H1 p (.tup [.ref aBA, .ref aBL, .ref aBR, .ref aBT, .ref aCL, .ref aFD, .ref aHO]) b = some (.lst []) := by rw [upd_ne npb]; exact hb
        have hd2 : L2.upd H1 p (.tup [.ref aBA, .ref aBL, .ref aBR, .ref aBT, .ref aCL, .ref aFD, .ref aHO]) dd = some (.xd [("place", .int z)]) := by rw [upd_ne npd]; exact hdd
        refine ⟨p, _, _, _, _, dd, _, rfl, upd_same, .cons (.own _) (.cons (.own _) (.cons (.own _) (.cons (.own _) (.cons (.own _) (.cons (.own _) (.cons (.own _) .nil)))))), rfl, rfl, hd2, D3.exc, D3.ot, _, rfl, iteF (snx ?_)⟩
        dsimp only
        generalize L2.upd H1 p (.tup [.ref aBA, .ref aBL, .ref aBR, .ref aBT, .ref aCL, .ref aFD, .ref aHO]) = H2 at B2 hb2 hd2 ⊢
        refine sqi ⟨_, rfl, _, _, _, _, dd, _, rfl, .own c1, rfl, rfl, hd2, D3.exc, D3.k1, _, rfl, iteF (snx ?_)⟩
        dsimp only
        refine sqi ⟨_, rfl, _, _, _, _, dd, _, rfl, .own c3, rfl, rfl, hd2, D3.exc, D3.k3, _, rfl, iteT ?_⟩
        refine ⟨_, rfl, .inl ⟨rfl, _, SqL.of hb2⟩, _, rfl, rfl, rfl, dd, _, _, rfl, hd2, rfl, small (show 2 ≤ 1000 by decide), fun q hq => ?_⟩
        have nqb : b ≠ q := fun z => by rw [z, hq] at hb2; cases hb2
        have nqd : dd ≠ q := fun z => by rw [z, hq] at hd2; cases hd2
        refine ⟨b, [], _, rfl, rfl, by rw [upd_ne nqb]; exact hb2, smallL (by decide), ?_⟩
        have B3 : But b H1 (L2.upd (L2.upd H2 q (.tup (dueV (.badPlace z)))) b (.lst [.ref q])) := But.trans B2 (But.trans (But.of (Same.new hq)) (But.upd b _ _))
        have hb3 : L2.upd (L2.upd H2 q (.tup (dueV (.badPlace z)))) b (.lst [.ref q]) b = some (.lst [.ref q]) := upd_same
        have hq3 : L2.upd (L2.upd H2 q (.tup (dueV (.badPlace z)))) b (.lst [.ref q]) q = some (.tup (dueV (.badPlace z))) := by rw [upd_ne (Ne.symm nqb)]; exact upd_same
        have hd3 : L2.upd (L2.upd H2 q (.tup (dueV (.badPlace z)))) b (.lst [.ref q]) dd = some (.xd [("place", .int z)]) := B3 _ _ ndb hdd
        have KK := k _ q B3 hb3 hq3
        dsimp only
        refine sif ⟨_, rfl, _, _, _, _, dd, _, rfl, .own c2, rfl, rfl, hd3, D3.exc, D3.k2, _, rfl, iteF (snx ?_)⟩
        exact KK
      | overlap f =>
        have hcls : cls = .ref c2 := hcls
        subst hcls
        subst hd
        have hdd : H1 dd = some (.xd [("field", .int ((f : Nat) : Int))]) := hdd
        have ndb : dd ≠ b := fun z => by rw [z, hb] at hdd; cases hdd
        refine sqi ⟨_, rfl, _, _, _, _, dd, _, rfl, .ty "ValueError", rfl, rfl, hdd, D2.exc, D2.ve, _, rfl, iteD false rfl (iteF ⟨_, rfl, _, _, _, _, dd, _, rfl, .own aMk, rfl, rfl, hdd, D2.exc, D2.mkd, _, rfl, iteF ⟨_, rfl, _, _, _, _, dd, _, rfl, .own aBF, rfl, rfl, hdd, D2.exc, D2.bf, _, rfl, iteF (snx ?_)⟩⟩)⟩
        dsimp only
        refine sqi ⟨_, rfl, small (show 7 ≤ 1000 by decide), fun p hp => ?_⟩
        have npb : b ≠ p := fun z => by rw [z, hp] at hb; cases hb
        have npd : dd ≠ p := fun z => by rw [z, hp] at hdd; cases hdd
        have B2 : But b H1 (L2.upd H1 p (.tup [.ref aBA, .ref aBL, .ref aBR, .ref aBT, .ref aCL, .ref aFD, .ref aHO])) := But.of (Same.new hp)
        have hb2 : L2.upd H1 p (.tup [.ref aBA, .ref aBL, .ref aBR, .ref aBT, .ref aCL, .ref aFD, .ref aHO]) b = some (.lst []) := by rw [upd_ne npb]; exact hb
        have hd2 : L2.upd H1 p (.tup [.ref aBA, .ref aBL, .ref aBR, .ref aBT, .ref aCL, .ref aFD, .ref aHO]) dd = some (.xd [("field", .int ((f : Nat) : Int))]) := by rw [upd_ne npd]; exact hdd
        refine ⟨p, _, _, _, _, dd, _, rfl, upd_same, .cons (.own _) (.cons (.own _) (.cons (.own _) (.cons (.own _) (.cons (.own _) (.cons (.own _) (.cons (.own _) .nil)))))), rfl, rfl, hd2, D2.exc, D2.ot, _, rfl, iteF (snx ?_)⟩
        dsimp only
        generalize L2.upd H1 p (.tup [.ref aBA, .ref aBL, .ref aBR, .ref aBT, .ref aCL, .ref aFD, .ref aHO]) = H2 at B2 hb2 hd2 ⊢
        refine sqi ⟨_, rfl, _, _, _, _, dd, _, rfl, .own c1, rfl, rfl, hd2, D2.exc, D2.k1, _, rfl, iteF (snx ?_)⟩
        dsimp only
        refine sqi ⟨_, rfl, _, _, _, _, dd, _, rfl, .own c3, rfl, rfl, hd2, D2.exc, D2.k3, _, rfl, iteF (snx ?_)⟩
        dsimp only
        refine sif ⟨_, rfl, _, _, _, _, dd, _, rfl, .own c2, rfl, rfl, hd2, D2.exc, D2.k2, _, rfl, iteT ?_⟩
        refine ⟨_, rfl, .inl ⟨rfl, _, SqL.of hb2⟩, _, rfl, rfl, rfl, dd, _, _, rfl, hd2, rfl, small (show 2 ≤ 1000 by decide), fun q hq => ?_⟩
        have nqb : b ≠ q := fun z => by rw [z, hq] at hb2; cases hb2
        have nqd : dd ≠ q := fun z => by rw [z, hq] at hd2; cases hd2
        refine ⟨b, [], _, rfl, rfl, by rw [upd_ne nqb]; exact hb2, smallL (by decide), ?_⟩
        have B3 : But b H1 (L2.upd (L2.upd H2 q (.tup (dueV (.overlap f)))) b (.lst [.ref q])) := But.trans B2 (But.trans (But.of (Same.new hq)) (But.upd b _ _))
        have hb3 : L2.upd (L2.upd H2 q (.tup (dueV (.overlap f)))) b (.lst [.ref q]) b = some (.lst [.ref q]) := upd_same
        have hq3 : L2.upd (L2.upd H2 q (.tup (dueV (.overlap f)))) b (.lst [.ref q]) q = some (.tup (dueV (.overlap f))) := by rw [upd_ne (Ne.symm nqb)]; exact upd_same
        have hd3 : L2.upd (L2.upd H2 q (.tup (dueV (.overlap f)))) b (.lst [.ref q]) dd = some (.xd [("field", .int ((f : Nat) : Int))]) := B3 _ _ ndb hdd
        have KK := k _ q B3 hb3 hq3
        exact KK
    refine ⟨_, (pss_cons (ps_set (i := 3) sc_law_ask.nd rfl (Or.inl rfl) (pe_lst pa_nil))
      (pss_cons (ps_try_as (i := 4) (tb := fun W => tRet (tLst (tCons (tCallS (spBs C c1 c2 c3 K) (WE W) (tCons (tVar 0) (tCons (tVar 1) (tCons (tVar 2) tNil)))) tNil))) (ts := fun a cls d => Classical.choose (key a cls d)) (Wout := fun _ _ _ _ => False)
        rfl rfl sc_law_ask.nd rfl rfl ⟨rfl, by decide, .inl Ce.FieldridesError⟩ takes0
        (fun W pn xe tk _ => pss_one (ps_ret (by exact (pe_lst (pa_cons (pe_cS Gboth_stay (hr.mono (by decide)) (fun σ => passAt tk σ) (pa_cons (pv 0) (pa_cons (pv 1) (pa_cons (pv 2) pa_nil)))) pa_nil)))))
        (fun a oe cls d pn hz hf => (Classical.choose_spec (key a cls d)).1 oe pn hz hf))
      (pss_one (ps_ret (pe_callTy call_tuple_of (by rfl) T.z_tuple (by decide +kernel) (pa_cons (pv 3) pa_nil)))))), ?_⟩
    refine sq ⟨Nat.zero_le _, fun b hb => ?_⟩
    have S1 := Same.new (o := .lst []) hb
    have hb1 : L2.upd H b (.lst []) b = some (.lst []) := upd_same
    generalize L2.upd H b (.lst []) = H1 at S1 hb1 ⊢
    refine ⟨_, rfl, _, rfl, _, rfl, fo, fa, sa, ps, ks, r, A, B, rfl, hfo.same S1, W, lk, hn, Same.sl S1 hA, Same.sl S1 hB, fun hd H2 S2 => ⟨small (show 1 ≤ 1000 by decide), fun p hp => q1 hd _ p (Same.trans S1 (Same.trans S2 (Same.new hp))) (Same.free (Same.trans S1 S2) hp) upd_same⟩, fun x hx => ?_⟩
    have fin : ∀ (a : Addr) (H' H2 : Hp) (e : Addr), Same H1 H' → But b H' H2 → H2 b = some (.lst [.ref e]) → H2 e = some (.tup (dueV x)) → ∀ p, H2 p = none → Q (.ref p) (L2.upd H2 p (.tup [.ref e])) := fun a H' H2 e S' B2 hb2 he2 p hp => by
      have S2 : Same H H2 := But.same (Same.trans S1 S') B2 hb
      exact q2 x hx _ p e (Same.trans S2 (Same.new hp)) (Same.free S2 hp) upd_same (Same.new hp _ _ he2)
    cases x with
    | notFair f =>
      intro H' d S' hd
      exact ⟨true, D1.ex, fun _ a ha => (Classical.choose_spec (key a (.ref c1) (some d))).2 (.notFair f) b d H' _ rfl rfl hd (S' _ _ hb1) fun H2 e B2 hb2 he2 => ⟨_, rfl, b, _, rfl, .inl ⟨SqL.of hb2, fin a H' H2 e S' B2 hb2 he2⟩⟩, fun q => by cases q⟩
    | badPlace z =>
      intro H' d S' hd
      exact ⟨true, D3.ex, fun _ a ha => (Classical.choose_spec (key a (.ref c3) (some d))).2 (.badPlace z) b d H' _ rfl rfl hd (S' _ _ hb1) fun H2 e B2 hb2 he2 => ⟨_, rfl, b, _, rfl, .inl ⟨SqL.of hb2, fin a H' H2 e S' B2 hb2 he2⟩⟩, fun q => by cases q⟩
    | overlap f =>
      intro H' d S' hd
      exact ⟨true, D2.ex, fun _ a ha => (Classical.choose_spec (key a (.ref c2) (some d))).2 (.overlap f) b d H' _ rfl rfl hd (S' _ _ hb1) fun H2 e B2 hb2 he2 => ⟨_, rfl, b, _, rfl, .inl ⟨SqL.of hb2, fin a H' H2 e S' B2 hb2 he2⟩⟩, fun q => by cases q⟩
end
end Fr

/-! # FrL16 -/
namespace Fr
open PySem PySem.Spec PyProof.Rows L2 FR
open PySem.FrX (ErC)
theorem due_valid {ks : List Kd} {A B : List Int} (h : due ks A B = none) : Valid ks.length A ∧ Valid ks.length B := by
  unfold due at h
  cases h1 : unf ks with
  | some f => rw [h1] at h; cases h
  | none =>
    rw [h1] at h
    cases h2 : badp ks.length (A ++ B) with
    | some x => rw [h2] at h; cases h
    | none =>
      have v := badp_none h2
      exact ⟨fun x hx => v x (List.mem_append_left _ hx), fun x hx => v x (List.mem_append_right _ hx)⟩
theorem eqv_two (A B : List Int) : PyData.eqv (.list [.list (dI A), .list (dI B)]) (.list [.list (dI A), .list (dI B)]) = true := by
  simp only [PyData.eqv, PyData.eqvAll]
  rw [eqvAll_I, eqvAll_I]
  simp
theorem shp_two (A B : List Int) : Shp 2 (.list [.list (dI A), .list (dI B)]) := shp_list fun d hd => by
  rcases List.mem_cons.mp hd with rfl | hd
  · exact shp_list (shpA_I _)
  · rw [List.mem_singleton.mp hd]
    exact shp_list (shpA_I _)
section
variable {P : Program} {w : World} {K : PySem.W.Frag} {mg : Str → Option Value} {base : Heap} (T : Tx K mg) {C c1 c2 c3 d1 d2 d3 : Addr} (Fc : FoC K mg C) (R : Ers P K mg c1 c2 c3 d1 d2 d3)
  {aMk aBF aBA aBL aBR aBT aCL aFD aHO aFE : Addr} (Ce : Ces mg c1 c2 c3 aMk aBF aBA aBL aBR aBT aCL aFD aHO aFE)
  (D1 : Cdf K c1 true false false c1 c2 c3 aMk aBF aBA aBL aBR aBT aCL aFD aHO aFE) (D2 : Cdf K c2 false true false c1 c2 c3 aMk aBF aBA aBL aBR aBT aCL aFD aHO aFE) (D3 : Cdf K c3 false false true c1 c2 c3 aMk aBF aBA aBL aBR aBT aCL aFD aHO aFE)
include T Fc R Ce D1 D2 D3
def spHo (C : Addr) (K : PySem.W.Frag) : Sp := fun vs H Q _ => ∃ (fo pa ka fa sa : Addr) (ps : Par) (ks : List Kd) (r : Nat → Nat) (A B : List Int), vs = [.ref fo, .ref pa, .ref ka, .ref fa, .ref sa] ∧ Fo C H fo ps ks ∧ Wf ps r ∧ ks.length = ps.length ∧ ps.length ≤ 16 ∧ SqL K H pa (vP ps) ∧ SqL K H ka (vK ks) ∧ H fa = some (.lst (vI A)) ∧ H sa = some (.lst (vI B)) ∧ A.length ≤ 30 ∧ B.length ≤ 30 ∧
  ∀ H', Same H H' → Q (.bl true) H'
theorem ok_ho : Ok1 P w K mg base CX0 6 "_law_holds" ["_law_forest", "_law_parents_here", "_law_kinds_here", "_law_first", "_law_second"] (spHo C K) := by
  have Glaw_refusal : Ok1 P w K mg base CX0 2 "_law_refusal" ["_law_kinds_here", "_law_first", "_law_second"] (spRf K) := ok_rf T
  have Glaw_ask : Ok1 P w K mg base CX0 5 "_law_ask" ["_law_forest", "_law_first", "_law_second"] (spAsk C K) := ok_ask T Fc R Ce D1 D2 D3
  have Glaw_is_refusal : Ok1 P w K mg base CX0 2 "_law_is_refusal" ["_law_told", "_law_due"] spIf := ok_if T
  have Glaw_apart : Ok1 P w K mg base CX0 2 "_law_apart" ["_law_parents_here", "_law_first", "_law_second"] (spAp K) := ok_ap T
  refine T.d_law_holds.ok sc_law_holds (fun vs H Q E h => ?_) (fun ff cdv Ar outer s0 H vs Q E hr h => ?_)
  · obtain ⟨fo, pa, ka, fa, sa, ps, ks, r, A, B, rfl, _⟩ := h; rfl
  · obtain ⟨fo, pa, ka, fa, sa, ps, ks, r, A, B, rfl, hfo, W, lk, hn, hp, hk, hA, hB, lA, lB, q⟩ := h
    refine ⟨_, (pss_cons (ps_for PassesOwn.never rfl (pi_list (pe_lst (pa_cons (pe_lst (pa_cons (pv 3) (pa_cons (pv 4) pa_nil))) (pa_cons (pe_lst (pa_cons (pv 4) (pa_cons (pv 3) pa_nil))) pa_nil)))) (pg_name (i := 5) sc_law_holds.nd rfl (Or.inl rfl))
        (pss_cons (ps_set (i := 6) sc_law_holds.nd rfl (Or.inl rfl) (pe_c Glaw_refusal (hr.mono (by decide)) pass0 (pa_cons (pv 2) (pa_cons (pe_ix ix_list (pv 5) pe_int (fun _ _ => rfl)) (pa_cons (pe_ix ix_list (pv 5) pe_int (fun _ _ => rfl)) pa_nil)))))
          (pss_cons (ps_set (i := 7) sc_law_holds.nd rfl (Or.inl rfl) (pe_lst (pa_cons (pe_callTy call_list_of (by rfl) T.z_list (by decide +kernel) (pa_cons (pe_ix ix_list (pv 5) pe_int (fun _ _ => rfl)) pa_nil)) (pa_cons (pe_callTy call_list_of (by rfl) T.z_list (by decide +kernel) (pa_cons (pe_ix ix_list (pv 5) pe_int (fun _ _ => rfl)) pa_nil)) pa_nil))))
          (pss_cons (ps_set (i := 8) sc_law_holds.nd rfl (Or.inl rfl) (pe_c Glaw_ask (hr.mono (by decide)) pass0 (pa_cons (pv 0) (pa_cons (pe_ix ix_list (pv 7) pe_int (fun _ _ => rfl)) (pa_cons (pe_ix ix_list (pv 7) pe_int (fun _ _ => rfl)) pa_nil)))))
          (pss_cons (ps_if (pt_cmpR (op_neD hr.units) (pv 7) (pv 5) (nomark _))
            (pss_one (ps_ret pe_bl))
            pss_nil)
          (pss_one (ps_if (pt_cmpR op_notN (pv 6) pe_non (nomark _))
          (pss_one (ps_if (pt_not (pt_val (pe_c Glaw_is_refusal (hr.mono (by decide)) pass0 (pa_cons (pv 8) (pa_cons (pv 6) pa_nil)))))
            (pss_one (ps_ret pe_bl))
            pss_nil))
          (pss_one (ps_if (pt_not (pt_val (pe_callB call_isi (by rfl) T.z_isinstance (by decide +kernel) (pa_cons (pv 8) (pa_cons (pe_bltn (v := .ty "list") (by rfl) T.z_list (by decide +kernel) rfl) pa_nil)))))
            (pss_one (ps_ret pe_bl))
            (pss_one (ps_if (pt_val (pe_c Glaw_apart (hr.mono (by decide)) pass0 (pa_cons (pv 1) (pa_cons (pv 3) (pa_cons (pv 4) pa_nil)))))
              (pss_one (ps_if (pt_cmpR op_notBl (pe_ix ix_list (pv 8) pe_int (fun _ _ => rfl)) pe_bl (nomark _))
                (pss_one (ps_ret pe_bl))
                pss_nil))
              (pss_one (ps_if (pt_cmpR op_notBl (pe_ix ix_list (pv 8) pe_int (fun _ _ => rfl)) pe_bl (nomark _))
                (pss_one (ps_ret pe_bl))
                pss_nil)))))))))))))
      (pss_one (ps_ret pe_bl))), ?_⟩
    refine sqf ⟨_, rfl, _, rfl, small (show 2 ≤ 1000 by decide), fun o1 ho1 => ?_⟩
    have Sa := Same.new (o := .lst [.ref fa, .ref sa]) ho1
    refine ⟨_, rfl, _, rfl, small (show 2 ≤ 1000 by decide), fun o2 ho2 => ⟨small (show 2 ≤ 1000 by decide), fun o3 ho3 => ⟨o3, rfl, ⟨_, SqL.of upd_same⟩, ?_⟩⟩⟩
    have Sb := Same.new (o := .lst [.ref sa, .ref fa]) ho2
    have Sc := Same.new (o := .lst [.ref o1, .ref o2]) ho3
    have g1 : L2.upd (L2.upd (L2.upd H o1 (.lst [.ref fa, .ref sa])) o2 (.lst [.ref sa, .ref fa])) o3 (.lst [.ref o1, .ref o2]) o1 = some (.lst [.ref fa, .ref sa]) := Sc _ _ (Sb _ _ upd_same)
    have g2 : L2.upd (L2.upd (L2.upd H o1 (.lst [.ref fa, .ref sa])) o2 (.lst [.ref sa, .ref fa])) o3 (.lst [.ref o1, .ref o2]) o2 = some (.lst [.ref sa, .ref fa]) := Sc _ _ upd_same
    have g3 : L2.upd (L2.upd (L2.upd H o1 (.lst [.ref fa, .ref sa])) o2 (.lst [.ref sa, .ref fa])) o3 (.lst [.ref o1, .ref o2]) o3 = some (.lst [.ref o1, .ref o2]) := upd_same
    have S0 := Same.trans Sa (Same.trans Sb Sc)
    generalize L2.upd (L2.upd (L2.upd H o1 (.lst [.ref fa, .ref sa])) o2 (.lst [.ref sa, .ref fa])) o3 (.lst [.ref o1, .ref o2]) = H0 at g1 g2 g3 S0 ⊢
    refine for_list (xs := [.ref o1, .ref o2]) (fun i σ H' => (∃ x y z u, σ = [some (.ref fo), some (.ref pa), some (.ref ka), some (.ref fa), some (.ref sa), x, y, z, u]) ∧ Same H0 H') ⟨⟨_, _, _, _, rfl⟩, Same.refl H0⟩ (fun i σ H' _ h => SqL.of (h.2 _ _ g3)) ?_ ?_
    · rintro i v σ H1 hi ⟨⟨x, y, z, u, rfl⟩, S1⟩
      have S01 := Same.trans S0 S1
      obtain ⟨o, la, ma, L, M, rfl, ho, hl, hm, lL, lM, hap⟩ : ∃ (o la ma : Addr) (L M : List Int), v = .ref o ∧ H1 o = some (.lst [.ref la, .ref ma]) ∧ H1 la = some (.lst (vI L)) ∧ H1 ma = some (.lst (vI M)) ∧ L.length ≤ 30 ∧ M.length ≤ 30 ∧ (due ks L M = none → ans ps L M = apt ps A B ∧ Valid ps.length A ∧ Valid ps.length B) := by
        match i, hi with
        | 0, hi =>
          cases hi
          exact ⟨o1, fa, sa, A, B, rfl, S1 _ _ g1, S01 _ _ hA, S01 _ _ hB, lA, lB, fun h => ⟨due_none W lk h, by have := due_valid h; rw [lk] at this; exact this⟩⟩
        | 1, hi =>
          cases hi
          exact ⟨o2, sa, fa, B, A, rfl, S1 _ _ g2, S01 _ _ hB, S01 _ _ hA, lB, lA, fun h => ⟨by rw [due_none W lk h, apt_comm], by have := due_valid h; rw [lk] at this; exact this.symm⟩⟩
      clear hi
      refine gn ?_
      refine sq ⟨_, rfl, _, rfl, _, _, (0 : Int), .ref la, rfl, rfl, SqL.of ho, atN (n := 0) rfl, _, rfl, _, _, (1 : Int), .ref ma, rfl, rfl, SqL.of ho, atN (n := 1) rfl, ka, la, ma, ks, L, M, rfl, Same.sl S01 hk, hl, hm, by omega, lL, lM, fun e2 H2 S2 => ?_, fun d e2 H2 dp S2 hdp0 hdp => ?_⟩
      · -- nothing is due
        refine sq ⟨_, rfl, _, _, (0 : Int), .ref la, rfl, rfl, SqL.of (S2 _ _ ho), atN (n := 0) rfl, la, _, rfl, .inl (SqL.of (S2 _ _ hl)), fun x1 hx1 => ⟨_, rfl, _, _, (1 : Int), .ref ma, rfl, rfl, SqL.of (Same.new hx1 _ _ (S2 _ _ ho)), atN (n := 1) rfl, ma, _, rfl, .inl (SqL.of (Same.new hx1 _ _ (S2 _ _ hm))), fun x2 hx2 => ⟨small (show 2 ≤ 1000 by decide), fun x3 hx3 => ?_⟩⟩⟩
        have T1 := Same.new (o := .lst (vI L)) hx1
        have T2 := Same.new (o := .lst (vI M)) hx2
        have T3 := Same.new (o := .lst [.ref x1, .ref x2]) hx3
        have y1 : L2.upd (L2.upd (L2.upd H2 x1 (.lst (vI L))) x2 (.lst (vI M))) x3 (.lst [.ref x1, .ref x2]) x1 = some (.lst (vI L)) := T3 _ _ (T2 _ _ upd_same)
        have y2 : L2.upd (L2.upd (L2.upd H2 x1 (.lst (vI L))) x2 (.lst (vI M))) x3 (.lst [.ref x1, .ref x2]) x2 = some (.lst (vI M)) := T3 _ _ upd_same
        have y3 : L2.upd (L2.upd (L2.upd H2 x1 (.lst (vI L))) x2 (.lst (vI M))) x3 (.lst [.ref x1, .ref x2]) x3 = some (.lst [.ref x1, .ref x2]) := upd_same
        have T4 := Same.trans T1 (Same.trans T2 T3)
        dsimp only
        generalize L2.upd (L2.upd (L2.upd H2 x1 (.lst (vI L))) x2 (.lst (vI M))) x3 (.lst [.ref x1, .ref x2]) = H3 at y1 y2 y3 T4 ⊢
        have S3 := Same.trans S2 T4
        have S03 := Same.trans S01 S3
        refine sq ⟨_, rfl, _, rfl, _, _, (0 : Int), .ref x1, rfl, rfl, SqL.of y3, atN (n := 0) rfl, _, rfl, _, _, (1 : Int), .ref x2, rfl, rfl, SqL.of y3, atN (n := 1) rfl, fo, x1, x2, ps, ks, r, L, M, rfl, hfo.same S03, W, lk, hn, SqL.of y1, SqL.of y2, fun e5 H5 p S5 hp0 hp5 => ?_, fun d5 e5 H5 p e S5 hp0 hp5 he5 => ?_⟩
        · obtain ⟨ea, vA, vB⟩ := hap e2
          refine sqi ⟨_, rfl, _, rfl, .list [.list (dI L), .list (dI M)], .list [.list (dI L), .list (dI M)], .lst (SqL.of (S5 _ _ y3)) (.cons (.lst (SqL.of (S5 _ _ y1)) (dpA_I _)) (.cons (.lst (SqL.of (S5 _ _ y2)) (dpA_I _)) .nil)), .lst (SqL.of (S5 _ _ (S3 _ _ ho))) (.cons (.lst (SqL.of (S5 _ _ (S3 _ _ hl))) (dpA_I _)) (.cons (.lst (SqL.of (S5 _ _ (S3 _ _ hm))) (dpA_I _)) .nil)), shp_ok (shp_two _ _), shp_ok (shp_two _ _), _, rfl, iteD false (by rw [eqv_two]; rfl) (iteF (snx ?_))⟩
          dsimp only
          have S05 := Same.trans S03 S5
          have S15 := Same.trans S3 S5
          refine sif ⟨_, rfl, rfl, _, rfl, iteD false rfl (iteF ?_)⟩
          refine sif ⟨_, rfl, _, _, _, _, true, rfl, .ty "list", .base (.lst hp5), kit_ty (by decide +kernel), _, rfl, iteD false rfl (iteF ?_)⟩
          refine sif ⟨_, rfl, _, rfl, _, rfl, pa, fa, sa, ps, r, A, B, rfl, Same.sl S05 hp, SqL.of (S05 _ _ hA), SqL.of (S05 _ _ hB), W, hn, vA, vB, fun H6 S6 => ⟨_, rfl, ?_⟩⟩
          have hp6 := S6 _ _ hp5
          rw [ea] at hp6
          have N : Same H0 H6 := Same.trans S1 (Same.trans S15 S6)
          cases c : apt ps A B with
          | true =>
            rw [c] at hp6
            refine iteT (sif ⟨_, rfl, _, _, (0 : Int), .bl true, rfl, rfl, SqL.of hp6, atN (n := 0) rfl, true, true, rfl, rfl, _, rfl, iteD false rfl (iteF (snx ⟨⟨_, _, _, _, rfl⟩, N⟩))⟩)
          | false =>
            rw [c] at hp6
            refine iteF (sif ⟨_, rfl, _, _, (0 : Int), .bl false, rfl, rfl, SqL.of hp6, atN (n := 0) rfl, false, false, rfl, rfl, _, rfl, iteD false rfl (iteF (snx ⟨⟨_, _, _, _, rfl⟩, N⟩))⟩)
        · rw [e2] at e5; cases e5
      · -- d is due
        refine sq ⟨_, rfl, _, _, (0 : Int), .ref la, rfl, rfl, SqL.of (S2 _ _ ho), atN (n := 0) rfl, la, _, rfl, .inl (SqL.of (S2 _ _ hl)), fun x1 hx1 => ⟨_, rfl, _, _, (1 : Int), .ref ma, rfl, rfl, SqL.of (Same.new hx1 _ _ (S2 _ _ ho)), atN (n := 1) rfl, ma, _, rfl, .inl (SqL.of (Same.new hx1 _ _ (S2 _ _ hm))), fun x2 hx2 => ⟨small (show 2 ≤ 1000 by decide), fun x3 hx3 => ?_⟩⟩⟩
        have T1 := Same.new (o := .lst (vI L)) hx1
        have T2 := Same.new (o := .lst (vI M)) hx2
        have T3 := Same.new (o := .lst [.ref x1, .ref x2]) hx3
        have y1 : L2.upd (L2.upd (L2.upd H2 x1 (.lst (vI L))) x2 (.lst (vI M))) x3 (.lst [.ref x1, .ref x2]) x1 = some (.lst (vI L)) := T3 _ _ (T2 _ _ upd_same)
        have y2 : L2.upd (L2.upd (L2.upd H2 x1 (.lst (vI L))) x2 (.lst (vI M))) x3 (.lst [.ref x1, .ref x2]) x2 = some (.lst (vI M)) := T3 _ _ upd_same
        have y3 : L2.upd (L2.upd (L2.upd H2 x1 (.lst (vI L))) x2 (.lst (vI M))) x3 (.lst [.ref x1, .ref x2]) x3 = some (.lst [.ref x1, .ref x2]) := upd_same
        have T4 := Same.trans T1 (Same.trans T2 T3)
        dsimp only
        generalize L2.upd (L2.upd (L2.upd H2 x1 (.lst (vI L))) x2 (.lst (vI M))) x3 (.lst [.ref x1, .ref x2]) = H3 at y1 y2 y3 T4 ⊢
        have S3 := Same.trans S2 T4
        have S03 := Same.trans S01 S3
        refine sq ⟨_, rfl, _, rfl, _, _, (0 : Int), .ref x1, rfl, rfl, SqL.of y3, atN (n := 0) rfl, _, rfl, _, _, (1 : Int), .ref x2, rfl, rfl, SqL.of y3, atN (n := 1) rfl, fo, x1, x2, ps, ks, r, L, M, rfl, hfo.same S03, W, lk, hn, SqL.of y1, SqL.of y2, fun e5 H5 p S5 hp0 hp5 => ?_, fun d5 e5 H5 p e S5 hp0 hp5 he5 => ?_⟩
        · rw [e2] at e5; cases e5
        · rw [e2] at e5
          cases e5
          refine sqi ⟨_, rfl, _, rfl, .list [.list (dI L), .list (dI M)], .list [.list (dI L), .list (dI M)], .lst (SqL.of (S5 _ _ y3)) (.cons (.lst (SqL.of (S5 _ _ y1)) (dpA_I _)) (.cons (.lst (SqL.of (S5 _ _ y2)) (dpA_I _)) .nil)), .lst (SqL.of (S5 _ _ (S3 _ _ ho))) (.cons (.lst (SqL.of (S5 _ _ (S3 _ _ hl))) (dpA_I _)) (.cons (.lst (SqL.of (S5 _ _ (S3 _ _ hm))) (dpA_I _)) .nil)), shp_ok (shp_two _ _), shp_ok (shp_two _ _), _, rfl, iteD false (by rw [eqv_two]; rfl) (iteF (snx ?_))⟩
          dsimp only
          have S05 := Same.trans S03 S5
          have S15 := Same.trans S3 S5
          refine sif ⟨_, rfl, rfl, _, rfl, iteD true rfl (iteT ?_)⟩
          have hdp5 := S5 _ _ (T4 _ _ hdp)
          have N : ∀ H6, Same H5 H6 → Same H0 H6 := fun H6 S6 => Same.trans S1 (Same.trans S15 S6)
          cases d with
          | notFair f => exact sif ⟨_, rfl, _, rfl, p, e, dp, _, _, rfl, hp5, he5, hdp5, fun H6 S6 => ⟨_, rfl, iteD false rfl (iteF (snx ⟨⟨_, _, _, _, rfl⟩, N H6 S6⟩))⟩⟩
          | badPlace z => exact sif ⟨_, rfl, _, rfl, p, e, dp, _, _, rfl, hp5, he5, hdp5, fun H6 S6 => ⟨_, rfl, iteD false rfl (iteF (snx ⟨⟨_, _, _, _, rfl⟩, N H6 S6⟩))⟩⟩
          | overlap f => exact sif ⟨_, rfl, _, rfl, p, e, dp, _, _, rfl, hp5, he5, hdp5, fun H6 S6 => ⟨_, rfl, iteD false rfl (iteF (snx ⟨⟨_, _, _, _, rfl⟩, N H6 S6⟩))⟩⟩
    · rintro σ H1 ⟨⟨x, y, z, u, rfl⟩, S1⟩
      dsimp only
      exact srt (q H1 (Same.trans S0 S1))
end
end Fr

/-! # FrL17 -/
namespace Fr
open PySem PySem.Spec PyProof.Rows L2 FR
open PySem.FrX (ErC)
theorem Wr.same {C : Addr} {K : PySem.W.Frag} {H H' : Hp} {fo ba ca : Addr} {ps : Par} {ks : List Kd} {b : List Int} {cs : List (Nat × Int)} (h : Wr C K H fo ba ca ps ks b cs) (S : Same H H') {ca' : Addr} (hc : H' ca' = some (.dK (vD cs))) : Wr C K H' fo ba ca' ps ks b cs :=
  ⟨h.fo.same S, h.hk, h.hn, h.hf, Same.st S h.hb, h.lb, hc, h.lc, h.key⟩
section
variable {P : Program} {w : World} {K : PySem.W.Frag} {mg : Str → Option Value} {base : Heap} (T : Tx K mg) {C c1 c2 c3 d1 d2 d3 : Addr} (Fc : FoC K mg C) (R : Ers P K mg c1 c2 c3 d1 d2 d3)
include T Fc R
def spLw (C : Addr) (K : PySem.W.Frag) : Sp := fun vs H Q _ => ∃ (fo pa ka ba ca : Addr) (ps : Par) (ks : List Kd) (r : Nat → Nat) (b : List Int) (cs : List (Nat × Int)), vs = [.ref fo, .ref pa, .ref ka, .ref ba, .ref ca] ∧ Wr C K H fo ba ca ps ks b cs ∧ Wf ps r ∧ SqL K H pa (vP ps) ∧ SqL K H ka (vK ks) ∧ (cs.map (·.1)).Nodup ∧ ∀ H', Same H H' → Q (.bl true) H'
theorem ok_lw : Ok1 P w K mg base CX0 5 "_law_written" ["_law_forest", "_law_parents_here", "_law_kinds_here", "_law_base", "_law_changes_here"] (spLw C K) := by
  have Glaw_new : Ok1 P w K mg base CX0 1 "_law_new" ["_law_base", "_law_changes_here"] (spNew K) := ok_new T
  have Gwritten : Ok1 P w K mg base CX0 4 "written" ["forest", "base", "changes"] (spWr C K) := ok_wr T Fc R
  have Glands : Ok1 P w K mg base CX0 4 "lands" ["forest", "base", "changes"] (spLa C K) := ok_la T Fc R
  have Glaw_is_record : Ok1 P w K mg base CX0 2 "_law_is_record" ["_law_actual", "_law_n"] spIr := ok_ir T
  have Glaw_merge : Ok1 P w K mg base CX0 3 "_law_merge" ["_law_parents_here", "_law_kinds_here", "_law_older", "_law_newer"] (spLm K) := ok_lm T
  refine T.d_law_written.ok sc_law_written (fun vs H Q E h => ?_) (fun ff cdv Ar outer s0 H vs Q E hr h => ?_)
  · obtain ⟨fo, pa, ka, ba, ca, ps, ks, r, b, cs, rfl, _⟩ := h; rfl
  · obtain ⟨fo, pa, ka, ba, ca, ps, ks, r, b, cs, rfl, Wc, W, hp, hk, nd, q⟩ := h
    have hbn : b.length ≤ 16 := by rw [Wc.lb]; exact Wc.hn
    have lk := Wc.hk
    have lb := Wc.lb
    refine ⟨_, (pss_cons (ps_set (i := 5) sc_law_written.nd rfl (Or.inl rfl) (pe_c Glaw_new (hr.mono (by decide)) pass0 (pa_cons (pv 3) (pa_cons (pv 4) pa_nil))))
      (pss_cons (ps_set (i := 6) sc_law_written.nd rfl (Or.inl rfl) (pe_c Gwritten (hr.mono (by decide)) pass0 (pa_cons (pv 0) (pa_cons (pv 3) (pa_cons (pe_callTy call_dict_copy (by rfl) T.z_dict (by decide +kernel) (pa_cons (pv 4) pa_nil)) pa_nil)))))
      (pss_cons (ps_if (PW.pt (pw_or (pt_not (pt_val (pe_c Glaw_is_record (hr.mono (by decide)) pass0 (pa_cons (pv 6) (pa_cons (pe_callB call_len_seq (by rfl) T.z_len (by decide +kernel) (pa_cons (pv 2) pa_nil)) pa_nil))))) (pw_or1 (pt_cmpR (op_neD hr.units) (pv 6) (pv 5) (nomark _)))))
        (pss_one (ps_ret pe_bl))
        pss_nil)
      (pss_cons (ps_if (pt_cmpR (op_eqD hr.units) (pe_c Glaw_merge (hr.mono (by decide)) pass0 (pa_cons (pv 1) (pa_cons (pv 2) (pa_cons (pv 3) (pa_cons (pv 5) pa_nil))))) (pv 5) (nomark _))
        (pss_one (ps_ret (pe_cmpR op_isBl (pe_c Glands (hr.mono (by decide)) pass0 (pa_cons (pv 0) (pa_cons (pv 3) (pa_cons (pe_callTy call_dict_copy (by rfl) T.z_dict (by decide +kernel) (pa_cons (pv 4) pa_nil)) pa_nil)))) pe_bl (nomark _))))
        pss_nil)
      (pss_one (ps_ret (pe_cmpR op_isBl (pe_c Glands (hr.mono (by decide)) pass0 (pa_cons (pv 0) (pa_cons (pv 3) (pa_cons (pe_callTy call_dict_copy (by rfl) T.z_dict (by decide +kernel) (pa_cons (pv 4) pa_nil)) pa_nil)))) pe_bl (nomark _)))))))), ?_⟩
    refine sq ⟨_, rfl, _, rfl, ba, ca, b, cs, rfl, Wc.hb, Wc.hc, hbn, nd, fun p hp => by rw [Wc.lb]; exact Wc.key p hp, fun H1 np S1 hn0 hn1 => ?_⟩
    refine sq ⟨_, rfl, _, rfl, _, rfl, ca, _, rfl, .inl (S1 _ _ Wc.hc), fun u hu => ?_⟩
    have S2 := Same.new (o := .dK (vD cs)) hu
    have hu1 : L2.upd H1 u (.dK (vD cs)) u = some (.dK (vD cs)) := upd_same
    generalize L2.upd H1 u (.dK (vD cs)) = H2 at S2 hu1 ⊢
    have S02 := Same.trans S1 S2
    refine ⟨fo, ba, u, ps, ks, b, cs, rfl, Wc.same S02 hu1, fun H3 tp S3 ht0 ht1 => ?_⟩
    have S03 := Same.trans S02 S3
    have hn3 := S3 _ _ (S2 _ _ hn1)
    have hlen : (newR b cs).length = ks.length := by rw [newR_length]; omega
    dsimp only
    refine sqi ⟨_, rfl, _, rfl, ka, vK ks, rfl, .inl (Same.sl S03 hk), tp, newR b cs, by rw [vK_len, hlen]; rfl, ht1, fun H4 S4 => ⟨_, rfl, iteD false rfl (iteF ?_)⟩⟩
    refine ⟨_, rfl, _, rfl, .tuple (dI (newR b cs)), .tuple (dI (newR b cs)), .tup (SqT.of (S4 _ _ ht1)) (dpA_I _), .tup (SqT.of (S4 _ _ hn3)) (dpA_I _), shp_ok (shp_tup (shpA_I _)), shp_ok (shp_tup (shpA_I _)), _, rfl, iteD false (by rw [eqv_tI]; simp) (iteF (snx ?_))⟩
    dsimp only
    have S04 := Same.trans S03 S4
    refine sqi ⟨_, rfl, _, rfl, _, rfl, _, rfl, pa, ka, ba, np, ps, ks, r, b, newR b cs, rfl, Same.sl S04 hp, Same.sl S04 hk, Same.st S04 Wc.hb, SqT.of (S4 _ _ hn3), W, Wc.hn, lk, lb, by omega, fun H5 mp S5 hm0 hm1 => ?_⟩
    have S05 := Same.trans S04 S5
    refine ⟨_, rfl, .tuple (dI (merge ps ks b (newR b cs))), .tuple (dI (newR b cs)), .tup (SqT.of hm1) (dpA_I _), .tup (SqT.of (S5 _ _ (S4 _ _ hn3))) (dpA_I _), shp_ok (shp_tup (shpA_I _)), shp_ok (shp_tup (shpA_I _)), _, rfl, iteD _ (eqv_tI _ _) (ite2 (fun e => ?_) (fun e => ?_))⟩
    · refine srt ⟨_, rfl, _, rfl, _, rfl, ca, _, rfl, .inl (S05 _ _ Wc.hc), fun u2 hu2 => ?_⟩
      have S6 := Same.new (o := .dK (vD cs)) hu2
      refine ⟨fo, ba, u2, ps, ks, r, b, cs, rfl, Wc.same (Same.trans S05 S6) upd_same, W, fun H7 S7 => ⟨_, true, rfl, rfl, qv (q H7 (Same.trans S05 (Same.trans S6 S7))) (by rw [e]; rfl)⟩⟩
    · refine snx ?_
      dsimp only
      refine srt ⟨_, rfl, _, rfl, _, rfl, ca, _, rfl, .inl (S05 _ _ Wc.hc), fun u2 hu2 => ?_⟩
      have S6 := Same.new (o := .dK (vD cs)) hu2
      refine ⟨fo, ba, u2, ps, ks, r, b, cs, rfl, Wc.same (Same.trans S05 S6) upd_same, W, fun H7 S7 => ⟨_, false, rfl, rfl, qv (q H7 (Same.trans S05 (Same.trans S6 S7))) (by rw [Bool.eq_false_iff.mpr e]; rfl)⟩⟩
end
end Fr

/-! # FrL18 -/
namespace Fr
open PySem PySem.Spec PyProof.Rows L2 FR
open PySem.FrX (ErC)
theorem lc_keysP {d : Addr} {o : Obj} {kvs : List (Key × V)} {tt : TT} {te : TE} {vs : List Nat} {σ : L2.St} {H1 : Hp} {D : Addr} {Qd : Hp → Prop} {j : Nat} (f : Nat → Bool) (v : Nat → V) (hx : H1 d = some (.frz o (.dK kvs))) (hz : kvs.length ≤ 40000) (hD : H1 D = none) (hw : ∀ x, wipe ((wipe σ vs).set j (some x)) vs = wipe σ vs)
    (ht : ∀ (i : Nat) (k : Key) (u : V), kvs[i]? = some (k, u) → Evl.EvT tt ((wipe σ vs).set j (some (kV k))) H1 (f i)) (he : ∀ (i : Nat) (k : Key) (u : V), kvs[i]? = some (k, u) → f i = true → Evl.Ev te ((wipe σ vs).set j (some (kV k))) H1 (v i))
    (hd : ∀ H, Same H1 H → H D = some (.lst (Evl.given kvs.length f v)) → Qd H) :
    ∃ W : Nat → Nat → Hp → Prop, (∃ m, W 0 m (L2.upd H1 D (.lst []))) ∧ ∀ i m H, W i m H →
      ((Itk d o kvs).stop i H ∧ Qd H) ∨ ((Itk d o kvs).go i H ∧ ∃ Nx : Hp → Prop, (∀ H', Nx H' → ∃ m', m' < m ∧ W (i + 1) m' H') ∧ ∀ x H', (Itk d o kvs).yld i H x H' → gName j x (wipe σ vs) H' fun σ2 H2 => wipe σ2 vs = wipe σ vs ∧ tt σ2 H2 fun b H3 =>
        if b = true then te σ2 H3 fun y H4 => ∃ acc, H4 D = some (.lst acc) ∧ acc.length < sizeLine ∧ Nx (L2.upd H4 D (.lst (acc ++ [y]))) else Nx H3) :=
  lc_keys (Evl.Cw H1 f v D) ⟨hD, Evl.Ex.new hD, upd_same⟩ (fun i H' _ p => p.2.1 _ _ hx) (fun i k u H' hi p => ⟨hw _, Evl.cw_turn p (by have := (List.getElem?_eq_some_iff.mp hi).1; omega) (ht i k u hi) (he i k u hi)⟩) fun H' p => hd H' p.2.1 p.2.2
theorem two_len (f : Nat → Bool) (v : Nat → V) : (Evl.given 2 f v).length < 2 ∨ (f 0 = true ∧ f 1 = true) := by
  unfold Evl.given
  rw [List.length_map]
  have e : List.range 2 = [0, 1] := rfl
  rw [e]
  cases h0 : f 0 <;> cases h1 : f 1 <;> simp [List.filter, h0, h1]
theorem lost_given (cs : List (Nat × Int)) (E R : List Int) : Evl.given (vD cs).length (fun i => rg E ((cs.map (·.1)).getD i 0) != rg R ((cs.map (·.1)).getD i 0)) (fun i => V.int (((cs.map (·.1)).getD i 0 : Nat) : Int)) = vN (lostOf E R cs) := by
  have h := given_filter (cs.map (·.1)) 0 (fun f => rg E f != rg R f) (fun z => V.int (z : Int))
  rw [List.length_map] at h
  rw [vD_len]
  exact h
theorem key_at {cs : List (Nat × Int)} {i : Nat} {k : Key} {u : V} (h : (vD cs)[i]? = some (k, u)) : i < cs.length ∧ k = Sum.inl (((cs.map (·.1)).getD i 0 : Nat) : Int) ∧ ((cs.map (·.1)).getD i 0) ∈ cs.map (·.1) := by
  obtain ⟨p, hp, rfl, rfl⟩ := vD_at h
  have e : (cs.map (·.1)).getD i 0 = p.1 := by
    rw [List.getD_eq_getElem?_getD, List.getElem?_map, hp]; rfl
  refine ⟨(List.getElem?_eq_some_iff.mp hp).1, by rw [e], ?_⟩
  rw [e]
  exact List.mem_map.mpr ⟨p, List.mem_of_getElem? hp, rfl⟩
theorem Chg.lt {n : Nat} {A b : List Int} {cs : List (Nat × Int)} (h : Chg n A b cs) (v : Valid n A) {k : Nat} (hk : k ∈ cs.map (·.1)) : k < n := by
  have := v _ ((h.key k).mp hk)
  omega
section
variable {P : Program} {w : World} {K : PySem.W.Frag} {mg : Str → Option Value} {base : Heap} (T : Tx K mg) {C c1 c2 c3 d1 d2 d3 : Addr} (Fc : FoC K mg C)
include T Fc
def spBo (C : Addr) (K : PySem.W.Frag) : Sp := fun vs H Q _ => ∃ (fo pa ka q : Addr) (ps : Par) (ks : List Kd) (r : Nat → Nat) (A B X Y bs : List Int) (e1 e2 : List (Nat × Int)) (l s ba f1 f2 a b x y : Addr), vs = [.ref fo, .ref pa, .ref ka, .ref q] ∧ Fo C H fo ps ks ∧ Wf ps r ∧ Fair ks ∧ ks.length = ps.length ∧ ps.length ≤ 16 ∧ SqL K H pa (vP ps) ∧ SqL K H ka (vK ks) ∧
  Qn H q ps.length A B X Y bs e1 e2 l s ba f1 f2 a b x y ∧ ∀ H', Same H H' → Q (.bl true) H'
theorem ok_bo : Ok1 P w K mg base CX0 4 "_law_both" ["_law_forest", "_law_parents_here", "_law_kinds_here", "_law_question_here"] (spBo C K) := by
  have Glaw_new : Ok1 P w K mg base CX0 1 "_law_new" ["_law_base", "_law_changes_here"] (spNew K) := ok_new T
  have Glaw_merge : Ok1 P w K mg base CX0 3 "_law_merge" ["_law_parents_here", "_law_kinds_here", "_law_older", "_law_newer"] (spLm K) := ok_lm T
  have Glaw_is_record : Ok1 P w K mg base CX0 2 "_law_is_record" ["_law_actual", "_law_n"] spIr := ok_ir T
  have Glaw_apart : Ok1 P w K mg base CX0 2 "_law_apart" ["_law_parents_here", "_law_first", "_law_second"] (spAp K) := ok_ap T
  obtain ⟨gO, cO, FO⟩ := ok_ca (P := P) (w := w) (base := base) T Fc
  refine T.d_law_both.ok sc_law_both (fun vs H Q E h => ?_) (fun ff cdv Ar outer s0 H vs Q E hr h => ?_)
  · obtain ⟨fo, pa, ka, q, ps, ks, r, A, B, X, Y, bs, e1, e2, l, s, ba, f1, f2, a, b, x, y, rfl, _⟩ := h; rfl
  · obtain ⟨fo, pa, ka, q, ps, ks, r, A, B, X, Y, bs, e1, e2, l, s, ba, f1, f2, a, b, x, y, rfl, hfo, W, F, lk, hn, hp, hk, qn, k⟩ := h
    refine ⟨_, (pss_cons (ps_set (i := 4) sc_law_both.nd rfl (Or.inr rfl) (pe_ix ix_list (pv 3) pe_int (fun _ _ => rfl)))
      (pss_cons (ps_set (i := 5) sc_law_both.nd rfl (Or.inr rfl) (pe_lst (pa_cons (pe_c Glaw_new (hr.mono (by decide)) pass0 (pa_cons (pv 4) (pa_cons (pe_ix ix_list (pv 3) pe_int (fun _ _ => rfl)) pa_nil))) (pa_cons (pe_c Glaw_new (hr.mono (by decide)) pass0 (pa_cons (pv 4) (pa_cons (pe_ix ix_list (pv 3) pe_int (fun _ _ => rfl)) pa_nil))) pa_nil))))
      (pss_cons (ps_set (i := 6) sc_law_both.nd rfl (Or.inr rfl) (pe_c Glaw_merge (hr.mono (by decide)) pass0 (pa_cons (pv 1) (pa_cons (pv 2) (pa_cons (pe_ix ix_list (pv 5) pe_int (fun _ _ => rfl)) (pa_cons (pe_ix ix_list (pv 5) pe_int (fun _ _ => rfl)) pa_nil))))))
      (pss_cons (ps_for PassesOwn.never rfl (pi_list (pe_lst (pa_cons (pe_tup (pa_cons (pe_ix ix_list (pv 5) pe_int (fun _ _ => rfl)) (pa_cons (pe_ix ix_list (pv 5) pe_int (fun _ _ => rfl)) pa_nil))) (pa_cons (pe_tup (pa_cons (pe_ix ix_list (pv 5) pe_int (fun _ _ => rfl)) (pa_cons (pe_ix ix_list (pv 5) pe_int (fun _ _ => rfl)) pa_nil))) pa_nil)))) (pg_name (i := 7) sc_law_both.nd rfl (Or.inl rfl))
        (pss_cons (ps_set (i := 8) sc_law_both.nd rfl (Or.inl rfl) (StX.pe_callO (pv 0) cO FO (hr.mono (by decide)) pass0 (pa_cons (pe_ix ix_tup (pv 7) pe_int (fun _ _ => rfl)) (pa_cons (pe_ix ix_tup (pv 7) pe_int (fun _ _ => rfl)) pa_nil))))
          (pss_one (ps_if (PW.pt (pw_or (pt_not (pt_val (pe_c Glaw_is_record (hr.mono (by decide)) pass0 (pa_cons (pv 8) (pa_cons (pe_callB call_len_seq (by rfl) T.z_len (by decide +kernel) (pa_cons (pv 2) pa_nil)) pa_nil))))) (pw_or1 (pt_cmpR (op_neD hr.units) (pv 8) (pv 6) (nomark _)))))
          (pss_one (ps_ret pe_bl))
          pss_nil))))
      (pss_cons (ps_setLc (i := 9) (own := [("_law_record_here", 11)]) (g := gName 11) rfl sc_law_both.nd rfl rfl (sw_true rfl rfl rfl (by decide +kernel)) (pi_list (pv 5)) (blkOk_by (own := [("_law_record_here", 11)]) (N := ["_law_forest", "_law_parents_here", "_law_kinds_here", "_law_question_here", "_law_base", "_law_records", "_law_end", "_law_pair", "_law_merged", "_law_landing", "_law_lost", "_law_record_here", "_law_field"]) (sc := defScope s_law_both) (by decide +kernel)) (fun _ _ _ _ _ => pg_name (i := 11) sc_law_both.nd rfl (Or.inl rfl)) (fun _ _ _ _ _ => (pts_one (pt_cmpR (op_eqDK K rfl hr.units) (pe_c Glaw_merge (hr.mono (by decide)) pass0 (pa_cons (pv 1) (pa_cons (pv 2) (pa_cons (pv 4) (pa_cons (pv 11) pa_nil))))) (pv 11) (nomark _)))) (fun _ _ _ _ _ => (pv 11)))
      (pss_cons (ps_lock (ps_setLc (i := 10) (own := [("_law_field", 12)]) (g := gName 12) rfl sc_law_both.nd rfl rfl (sw_true rfl rfl rfl (by decide +kernel)) (pi_keys (pe_ix ix_list (pv 3) pe_int (fun _ _ => rfl))) (blkOk_by (own := [("_law_field", 12)]) (N := ["_law_forest", "_law_parents_here", "_law_kinds_here", "_law_question_here", "_law_base", "_law_records", "_law_end", "_law_pair", "_law_merged", "_law_landing", "_law_lost", "_law_record_here", "_law_field"]) (sc := defScope s_law_both) (by decide +kernel)) (fun _ _ _ _ _ => pg_name (i := 12) sc_law_both.nd rfl (Or.inl rfl)) (fun _ _ _ _ _ => (pts_one (pt_cmpR op_ne (pe_ix (ix_tupK K rfl) (pv 6) (pv 12) (fun _ _ => rfl)) (pe_ix (ix_tupK K rfl) (pe_ix (ix_listK K rfl) (pv 5) pe_int (fun _ _ => rfl)) (pv 12) (fun _ _ => rfl)) (nomark _)))) (fun _ _ _ _ _ => (pv 12))))
      (pss_cons (ps_set (i := 10) sc_law_both.nd rfl (Or.inl rfl) (pe_op op_cat (pv 10) (pe_lock (pe_lc (own := [("_law_field", 12)]) (g := gName 12) rfl sc_law_both.nd (pi_keys (pe_ix ix_list (pv 3) pe_int (fun _ _ => rfl))) (blkOk_by (own := [("_law_field", 12)]) (N := ["_law_forest", "_law_parents_here", "_law_kinds_here", "_law_question_here", "_law_base", "_law_records", "_law_end", "_law_pair", "_law_merged", "_law_landing", "_law_lost", "_law_record_here", "_law_field"]) (sc := defScope s_law_both) (by decide +kernel)) (fun _ _ _ _ _ => pg_name (i := 12) sc_law_both.nd rfl (Or.inl rfl)) (fun _ _ _ _ _ => (pts_one (pt_cmpR op_ne (pe_ix (ix_tupK K rfl) (pv 6) (pv 12) (fun _ _ => rfl)) (pe_ix (ix_tupK K rfl) (pe_ix (ix_listK K rfl) (pv 5) pe_int (fun _ _ => rfl)) (pv 12) (fun _ _ => rfl)) (nomark _)))) (fun _ _ _ _ _ => (pv 12))))))
      (pss_cons (ps_if (pt_not (pt_val (pe_c Glaw_apart (hr.mono (by decide)) pass0 (pa_cons (pv 1) (pa_cons (pe_ix ix_list (pe_ix ix_list (pv 3) pe_int (fun _ _ => rfl)) pe_int (fun _ _ => rfl)) (pa_cons (pe_ix ix_list (pe_ix ix_list (pv 3) pe_int (fun _ _ => rfl)) pe_int (fun _ _ => rfl)) pa_nil))))))
        (pss_one (ps_ret (pe_cmpR (op_neD hr.units) (pv 10) (pe_lst pa_nil) (nomark _))))
        pss_nil)
      (pss_one (ps_ret (pe_or (pe_cmpR (op_eqD hr.units) (pv 10) (pe_lst pa_nil) (nomark _)) (pe_one (pe_cmpR op_lt (pe_callB call_len_seq (by rfl) T.z_len (by decide +kernel) (pa_cons (pv 9) pa_nil)) pe_int (nomark _)))))))))))))), ?_⟩
    have vA := qn.two.vA
    have vB := qn.two.vB
    have lb := qn.lb
    have k1 : ∀ p ∈ e1, p.1 < bs.length := fun p hp => by rw [lb]; exact Chg.lt qn.C1 vA (List.mem_map.mpr ⟨p, hp, rfl⟩)
    have k2 : ∀ p ∈ e2, p.1 < bs.length := fun p hp => by rw [lb]; exact Chg.lt qn.C2 vB (List.mem_map.mpr ⟨p, hp, rfl⟩)
    refine sq ⟨_, rfl, _, _, (2 : Int), .ref ba, rfl, rfl, SqL.of qn.hq, atN (n := 2) rfl, ?_⟩
    refine sq ⟨_, rfl, _, rfl, _, _, (3 : Int), .ref f1, rfl, rfl, SqL.of qn.hq, atN (n := 3) rfl, ba, f1, bs, e1, rfl, SqT.of qn.hb, qn.h1, by omega, qn.C1.nd, k1, fun H1 r1 S1 h10 h11 => ?_⟩
    refine ⟨_, rfl, _, rfl, _, _, (4 : Int), .ref f2, rfl, rfl, SqL.of (S1 _ _ qn.hq), atN (n := 4) rfl, ba, f2, bs, e2, rfl, SqT.of (S1 _ _ qn.hb), S1 _ _ qn.h2, by omega, qn.C2.nd, k2, fun H2 r2 S2 h20 h21 => ⟨small (show 2 ≤ 1000 by decide), fun rc hrc => ?_⟩⟩
    have Sx := Same.new (o := .lst [.ref r1, .ref r2]) hrc
    have hrc3 : L2.upd H2 rc (.lst [.ref r1, .ref r2]) rc = some (.lst [.ref r1, .ref r2]) := upd_same
    have h13 := Sx _ _ (S2 _ _ h11)
    have h23 := Sx _ _ h21
    have S3 := Same.trans S1 (Same.trans S2 Sx)
    dsimp only
    generalize L2.upd H2 rc (.lst [.ref r1, .ref r2]) = H3 at Sx hrc3 h13 h23 S3 ⊢
    have l1 : (newR bs e1).length = ps.length := by rw [newR_length, lb]
    have l2 : (newR bs e2).length = ps.length := by rw [newR_length, lb]
    refine sq ⟨_, rfl, _, rfl, _, rfl, _, _, (0 : Int), .ref r1, rfl, rfl, SqL.of hrc3, atN (n := 0) rfl, _, rfl, _, _, (1 : Int), .ref r2, rfl, rfl, SqL.of hrc3, atN (n := 1) rfl, pa, ka, r1, r2, ps, ks, r, newR bs e1, newR bs e2, rfl, Same.sl S3 hp, Same.sl S3 hk, SqT.of h13, SqT.of h23, W, hn, lk, l1, l2, fun H4 en S4 hen0 hen => ?_⟩
    have S34 := Same.trans S3 S4
    have hrc4 := S4 _ _ hrc3
    refine sqf ⟨_, rfl, _, _, (0 : Int), .ref r1, rfl, rfl, SqL.of hrc4, atN (n := 0) rfl, _, rfl, _, _, (1 : Int), .ref r2, rfl, rfl, SqL.of hrc4, atN (n := 1) rfl, small (show 2 ≤ 1000 by decide), fun t1 ht1 => ?_⟩
    have Sa := Same.new (o := .tup [.ref r1, .ref r2]) ht1
    refine ⟨_, rfl, _, _, (1 : Int), .ref r2, rfl, rfl, SqL.of (Sa _ _ hrc4), atN (n := 1) rfl, _, rfl, _, _, (0 : Int), .ref r1, rfl, rfl, SqL.of (Sa _ _ hrc4), atN (n := 0) rfl, small (show 2 ≤ 1000 by decide), fun t2 ht2 => ⟨small (show 2 ≤ 1000 by decide), fun t3 ht3 => ⟨t3, rfl, ⟨_, SqL.of upd_same⟩, ?_⟩⟩⟩
    have Sb := Same.new (o := .tup [.ref r2, .ref r1]) ht2
    have Sc := Same.new (o := .lst [.ref t1, .ref t2]) ht3
    have g1 : L2.upd (L2.upd (L2.upd H4 t1 (.tup [.ref r1, .ref r2])) t2 (.tup [.ref r2, .ref r1])) t3 (.lst [.ref t1, .ref t2]) t1 = some (.tup [.ref r1, .ref r2]) := Sc _ _ (Sb _ _ upd_same)
    have g2 : L2.upd (L2.upd (L2.upd H4 t1 (.tup [.ref r1, .ref r2])) t2 (.tup [.ref r2, .ref r1])) t3 (.lst [.ref t1, .ref t2]) t2 = some (.tup [.ref r2, .ref r1]) := Sc _ _ upd_same
    have g3 : L2.upd (L2.upd (L2.upd H4 t1 (.tup [.ref r1, .ref r2])) t2 (.tup [.ref r2, .ref r1])) t3 (.lst [.ref t1, .ref t2]) t3 = some (.lst [.ref t1, .ref t2]) := upd_same
    have S45 := Same.trans Sa (Same.trans Sb Sc)
    generalize L2.upd (L2.upd (L2.upd H4 t1 (.tup [.ref r1, .ref r2])) t2 (.tup [.ref r2, .ref r1])) t3 (.lst [.ref t1, .ref t2]) = H5 at g1 g2 g3 S45 ⊢
    have S5 := Same.trans S34 S45
    have h15 := S45 _ _ (S4 _ _ h13)
    have h25 := S45 _ _ (S4 _ _ h23)
    have hen5 := S45 _ _ hen
    have hrc5 := S45 _ _ hrc4
    refine for_list (xs := [.ref t1, .ref t2]) (fun i σ H' => (∃ u v w2 z2 y2 x2, σ = [some (.ref fo), some (.ref pa), some (.ref ka), some (.ref q), some (.ref ba), some (.ref rc), some (.ref en), u, v, w2, z2, y2, x2]) ∧ Same H5 H') ⟨⟨_, _, _, _, _, _, rfl⟩, Same.refl H5⟩ (fun i σ H' _ h => SqL.of (h.2 _ _ g3)) ?_ ?_
    · rintro i v σ H6 hi ⟨⟨u, v2, w2, z2, y2, x2, rfl⟩, S6⟩
      have S06 := Same.trans S5 S6
      obtain ⟨t, ua, va, U, V0, rfl, ht, hu, hv, lU, lV, hmg⟩ : ∃ (t ua va : Addr) (U V0 : List Int), v = .ref t ∧ H6 t = some (.tup [.ref ua, .ref va]) ∧ H6 ua = some (.tup (vI U)) ∧ H6 va = some (.tup (vI V0)) ∧ U.length = ps.length ∧ V0.length = ps.length ∧ merge ps ks U V0 = merge ps ks (newR bs e1) (newR bs e2) := by
        match i, hi with
        | 0, hi =>
          cases hi
          exact ⟨t1, r1, r2, _, _, rfl, S6 _ _ g1, S6 _ _ h15, S6 _ _ h25, l1, l2, rfl⟩
        | 1, hi =>
          cases hi
          exact ⟨t2, r2, r1, _, _, rfl, S6 _ _ g2, S6 _ _ h25, S6 _ _ h15, l2, l1, merge_comm W F⟩
      clear hi
      have hfo6 := hfo.same S06
      obtain ⟨dx, ta, tk, hf1, hf2, hf3⟩ := hfo6
      refine gn (sq ⟨_, rfl, fo, rfl, _, rfl, _, _, (0 : Int), .ref ua, rfl, rfl, SqT.of ht, atN (n := 0) rfl, _, rfl, _, _, (1 : Int), .ref va, rfl, rfl, SqT.of ht, atN (n := 1) rfl, .inr ⟨dx, _, hf1⟩, fo, ua, va, ps, ks, r, U, V0, rfl, ⟨dx, ta, tk, hf1, hf2, hf3⟩, SqT.of hu, SqT.of hv, W, hn, lk, lU, lV, fun H7 mp S7 hm0 hm1 => ?_⟩)
      rw [hmg] at hm1
      have S07 := Same.trans S06 S7
      refine sif ⟨_, rfl, _, rfl, ka, vK ks, rfl, .inl (Same.sl S07 hk), mp, _, by rw [vK_len, merge_length, lk]; rfl, hm1, fun H8 S8 => ⟨_, rfl, iteD false rfl (iteF ?_)⟩⟩
      refine ⟨_, rfl, _, rfl, .tuple (dI (merge ps ks (newR bs e1) (newR bs e2))), .tuple (dI (merge ps ks (newR bs e1) (newR bs e2))), .tup (SqT.of (S8 _ _ hm1)) (dpA_I _), .tup (SqT.of (S8 _ _ (S7 _ _ (S6 _ _ hen5)))) (dpA_I _), shp_ok (shp_tup (shpA_I _)), shp_ok (shp_tup (shpA_I _)), _, rfl, iteD false (by rw [eqv_tI]; simp) (iteF (snx ⟨⟨_, _, _, _, _, _, rfl⟩, Same.trans S6 (Same.trans S7 S8)⟩))⟩
    · rintro σ H6 ⟨⟨u, v2, w2, z2, y2, x2, rfl⟩, S6⟩
      have S06 := Same.trans S5 S6
      have h16 := S6 _ _ h15
      have h26 := S6 _ _ h25
      have hen6 := S6 _ _ hen5
      have hrc6 := S6 _ _ hrc5
      dsimp only
      refine sq ⟨_, rfl, rc, rfl, ⟨_, SqL.of hrc6⟩, fun D hD => ?_⟩
      refine lc_listP (xs := [.ref r1, .ref r2]) (fun i => decide (merge ps ks bs (if i = 0 then newR bs e1 else newR bs e2) = (if i = 0 then newR bs e1 else newR bs e2))) (fun i => if i = 0 then .ref r1 else .ref r2) (SqL.of hrc6) (show 2 ≤ 40000 by decide) hD (fun x => rfl) (fun j v hj => fun H7 e7 Q7 q7 => ?_) (fun j v hj _ => fun H7 e7 Q7 q7 => ?_) (fun H7 S7 h7 => ?_)
      · have S07 := Same.trans S06 e7
        obtain ⟨ra, hra, hrv, hrl⟩ : ∃ ra, v = .ref ra ∧ H7 ra = some (.tup (vI (if j = 0 then newR bs e1 else newR bs e2))) ∧ (if j = 0 then newR bs e1 else newR bs e2).length = ps.length := by
          match j, hj with
          | 0, hj => cases hj; exact ⟨r1, rfl, e7 _ _ h16, l1⟩
          | 1, hj => cases hj; exact ⟨r2, rfl, e7 _ _ h26, l2⟩
        subst hra
        generalize (if j = 0 then newR bs e1 else newR bs e2) = RR at hrv hrl q7
        refine ⟨_, rfl, _, rfl, _, rfl, _, rfl, pa, ka, ba, ra, ps, ks, r, bs, RR, rfl, Same.sl S07 hp, Same.sl S07 hk, SqT.of (S07 _ _ qn.hb), SqT.of hrv, W, hn, lk, lb, hrl, fun H8 mp S8 hm0 hm1 => ?_⟩
        exact ⟨_, rfl, .tuple (dI (merge ps ks bs RR)), .tuple (dI RR), .tup (SqT.of hm1) (dpA_I _), .tup (SqT.of (S8 _ _ hrv)) (dpA_I _), shp_ok (shp_tup (shpA_I _)), shp_ok (shp_tup (shpA_I _)), _, rfl, qb (q7 H8 S8) (eqv_tI _ _)⟩
      · match j, hj with
        | 0, hj => cases hj; exact ⟨_, rfl, q7 H7 (Evl.Ex.refl _)⟩
        | 1, hj => cases hj; exact ⟨_, rfl, q7 H7 (Evl.Ex.refl _)⟩
      have land := two_len (fun i => decide (merge ps ks bs (if i = 0 then newR bs e1 else newR bs e2) = (if i = 0 then newR bs e1 else newR bs e2))) (fun i => if i = 0 then V.ref r1 else .ref r2)
      have h7' : H7 D = some (.lst (Evl.given 2 (fun i => decide (merge ps ks bs (if i = 0 then newR bs e1 else newR bs e2) = (if i = 0 then newR bs e1 else newR bs e2))) (fun i => if i = 0 then V.ref r1 else .ref r2))) := h7
      generalize Evl.given 2 (fun i => decide (merge ps ks bs (if i = 0 then newR bs e1 else newR bs e2) = (if i = 0 then newR bs e1 else newR bs e2))) (fun i => if i = 0 then V.ref r1 else .ref r2) = LD at h7' land
      clear h7
      have S07 := Same.trans S06 S7
      have q7 := qn.same S07
      have h17 := S7 _ _ h16
      have h27 := S7 _ _ h26
      have hen7 := S7 _ _ hen6
      have hrc7 := S7 _ _ hrc6
      generalize hE : merge ps ks (newR bs e1) (newR bs e2) = EE at hen7
      have lE : EE.length = ps.length := by rw [← hE, merge_length]
      -- the first list of what is lost
      refine ⟨f1, _, q7.h1, trivial, fun od => ?_⟩
      have up1 : ∀ {c : Addr} {o : HO}, H7 c = some o → o ≠ .dK (vD e1) → L2.upd H7 f1 (.frz od (.dK (vD e1))) c = some o := fun {c o} e n => by
        have : c ≠ f1 := fun z => by rw [z, q7.h1] at e; exact n (Option.some.inj e).symm
        rw [upd_ne this]; exact e
      refine ⟨_, rfl, _, _, (3 : Int), .ref f1, rfl, rfl, SqL.of (up1 q7.hq (by intro z; cases z)), atN (n := 3) rfl, f1, od, rfl, .inl ⟨vD e1, upd_same, fun D1 hD1 => ?_⟩⟩
      refine lc_keysP (fun i => rg EE ((e1.map (·.1)).getD i 0) != rg (newR bs e1) ((e1.map (·.1)).getD i 0)) (fun i => V.int (((e1.map (·.1)).getD i 0 : Nat) : Int)) upd_same (by rw [vD_len]; have := qn.l1; omega) hD1 (fun x => rfl) (fun j kk u hj => fun H8 e8 Q8 q8 => ?_) (fun j kk u hj _ => fun H8 e8 Q8 q8 => ?_) (fun H8 S8 h8 => ?_)
      · obtain ⟨hj1, rfl, hj2⟩ := key_at hj
        have hlt := Chg.lt qn.C1 vA hj2
        have q9 := q8 H8 (Evl.Ex.refl _)
        generalize (e1.map (·.1)).getD j 0 = g at hlt q9
        refine ⟨_, rfl, _, rfl, _, _, _, _, rfl, rfl, SqT.of (e8 _ _ (up1 hen7 (by intro z; cases z))), atN (vI_at (by omega)), _, rfl, _, _, (0 : Int), .ref r1, rfl, rfl, SqL.of (e8 _ _ (up1 hrc7 (by intro z; cases z))), atN (n := 0) rfl, _, rfl, _, _, _, _, rfl, rfl, SqT.of (e8 _ _ (up1 h17 (by intro z; cases z))), atN (vI_at (by omega)), rfl, _, rfl, qb q9 ?_⟩
        by_cases c : rg EE g = rg (newR bs e1) g <;> simp [c]
      · obtain ⟨hj1, rfl, hj2⟩ := key_at hj
        exact ⟨_, rfl, q8 H8 (Evl.Ex.refl _)⟩
      rw [lost_given] at h8
      have nD1 : D1 ≠ f1 := fun z => by rw [z, upd_same] at hD1; cases hD1
      have S8' : Same H7 (L2.upd H8 f1 (.dK (vD e1))) := lock_same q7.h1 S8
      refine ⟨S8 _ _ upd_same, ?_⟩
      have hD18 : L2.upd H8 f1 (.dK (vD e1)) D1 = some (.lst (vN (lostOf EE (newR bs e1) e1))) := by rw [upd_ne nD1]; exact h8
      dsimp only
      generalize L2.upd H8 f1 (.dK (vD e1)) = H9 at S8' hD18 ⊢
      have S09 := Same.trans S07 S8'
      have q9 := qn.same S09
      have h19 := S8' _ _ h17
      have h29 := S8' _ _ h27
      have hen9 := S8' _ _ hen7
      have hrc9 := S8' _ _ hrc7
      have hland9 := S8' _ _ h7'
      -- the second
      refine sq ⟨_, rfl, f2, _, q9.h2, trivial, fun od2 => ?_⟩
      have up2 : ∀ {c : Addr} {o : HO}, H9 c = some o → o ≠ .dK (vD e2) → L2.upd H9 f2 (.frz od2 (.dK (vD e2))) c = some o := fun {c o} e n => by
        have : c ≠ f2 := fun z => by rw [z, q9.h2] at e; exact n (Option.some.inj e).symm
        rw [upd_ne this]; exact e
      refine ⟨_, rfl, _, _, (4 : Int), .ref f2, rfl, rfl, SqL.of (up2 q9.hq (by intro z; cases z)), atN (n := 4) rfl, f2, od2, rfl, .inl ⟨vD e2, upd_same, fun D2 hD2 => ?_⟩⟩
      refine lc_keysP (fun i => rg EE ((e2.map (·.1)).getD i 0) != rg (newR bs e2) ((e2.map (·.1)).getD i 0)) (fun i => V.int (((e2.map (·.1)).getD i 0 : Nat) : Int)) upd_same (by rw [vD_len]; have := qn.l2; omega) hD2 (fun x => rfl) (fun j kk u hj => fun H8 e8 Q8 q8 => ?_) (fun j kk u hj _ => fun H8 e8 Q8 q8 => ?_) (fun Ha Sa2 ha2 => ?_)
      · obtain ⟨hj1, rfl, hj2⟩ := key_at hj
        have hlt := Chg.lt qn.C2 vB hj2
        have q9 := q8 H8 (Evl.Ex.refl _)
        generalize (e2.map (·.1)).getD j 0 = g at hlt q9
        refine ⟨_, rfl, _, rfl, _, _, _, _, rfl, rfl, SqT.of (e8 _ _ (up2 hen9 (by intro z; cases z))), atN (vI_at (by omega)), _, rfl, _, _, (1 : Int), .ref r2, rfl, rfl, SqL.of (e8 _ _ (up2 hrc9 (by intro z; cases z))), atN (n := 1) rfl, _, rfl, _, _, _, _, rfl, rfl, SqT.of (e8 _ _ (up2 h29 (by intro z; cases z))), atN (vI_at (by omega)), rfl, _, rfl, qb q9 ?_⟩
        by_cases c : rg EE g = rg (newR bs e2) g <;> simp [c]
      · obtain ⟨hj1, rfl, hj2⟩ := key_at hj
        exact ⟨_, rfl, q8 H8 (Evl.Ex.refl _)⟩
      rw [lost_given] at ha2
      have nD2 : D2 ≠ f2 := fun z => by rw [z, upd_same] at hD2; cases hD2
      have Sb2 : Same H9 (L2.upd Ha f2 (.dK (vD e2))) := lock_same q9.h2 Sa2
      refine ⟨Sa2 _ _ upd_same, ?_⟩
      have hD2b : L2.upd Ha f2 (.dK (vD e2)) D2 = some (.lst (vN (lostOf EE (newR bs e2) e2))) := by rw [upd_ne nD2]; exact ha2
      generalize L2.upd Ha f2 (.dK (vD e2)) = Hb at Sb2 hD2b ⊢
      have hD1b := Sb2 _ _ hD18
      have len1 : (vN (lostOf EE (newR bs e1) e1)).length ≤ 18 := by
        rw [vN_len]
        refine Nat.le_trans (List.length_filter_le _ _) ?_
        rw [List.length_map]; exact qn.l1
      have len2 : (vN (lostOf EE (newR bs e2) e2)).length ≤ 18 := by
        rw [vN_len]
        refine Nat.le_trans (List.length_filter_le _ _) ?_
        rw [List.length_map]; exact qn.l2
      refine ⟨D1, D2, _, _, rfl, rfl, hD1b, hD2b, small (by omega), fun D3 hD3 => ?_⟩
      have Sc2 := Same.new (o := .lst (vN (lostOf EE (newR bs e1) e1) ++ vN (lostOf EE (newR bs e2) e2))) hD3
      have hD3c : L2.upd Hb D3 (.lst (vN (lostOf EE (newR bs e1) e1) ++ vN (lostOf EE (newR bs e2) e2))) D3 = some (.lst (vI ((lostOf EE (newR bs e1) e1 ++ lostOf EE (newR bs e2) e2).map fun (n : Nat) => (n : Int)))) := by
        rw [upd_same, ← vN_I]; unfold vN; rw [List.map_append]
      generalize L2.upd Hb D3 (.lst (vN (lostOf EE (newR bs e1) e1) ++ vN (lostOf EE (newR bs e2) e2))) = Hc at Sc2 hD3c ⊢
      have S9c := Same.trans Sb2 Sc2
      have S0c := Same.trans S09 S9c
      have qc := qn.same S0c
      have hlandc := S9c _ _ hland9
      have enil : ∀ {l : List Nat}, decide ((l.map fun (n : Nat) => (n : Int)) = []) = decide (l = []) := fun {l} => by
        cases l <;> simp
      refine sqi ⟨_, rfl, _, rfl, _, _, (0 : Int), .ref l, rfl, rfl, SqL.of qc.hq, atN (n := 0) rfl, _, _, (0 : Int), .ref a, rfl, rfl, SqL.of qc.hl, atN (n := 0) rfl, _, rfl, _, _, (0 : Int), .ref l, rfl, rfl, SqL.of qc.hq, atN (n := 0) rfl, _, _, (1 : Int), .ref b, rfl, rfl, SqL.of qc.hl, atN (n := 1) rfl, pa, a, b, ps, r, A, B, rfl, Same.sl S0c hp, SqL.of qc.ha, SqL.of qc.hB, W, hn, vA, vB, fun Hd Sd => ⟨_, rfl, ?_⟩⟩
      have S0d := Same.trans S0c Sd
      have hD3d := Sd _ _ hD3c
      have hlandd := Sd _ _ hlandc
      cases ap : apt ps A B with
      | false =>
        have hl := lost_of_above (ks := ks) W lb vA vB qn.two.ap qn.C1 qn.C2 ap
        rw [hE] at hl
        refine iteT (srt ⟨_, rfl, Nat.zero_le _, fun e he => ?_⟩)
        have ne : D3 ≠ e := fun z => by rw [z, he] at hD3d; cases hD3d
        refine ⟨.list (dI _), .list (dI []), .lst (SqL.of (by rw [upd_ne ne]; exact hD3d)) (dpA_I _), .lst (SqL.of upd_same) (dpA_I []), shp_ok (shp_list (shpA_I _)), shp_ok (shp_list (shpA_I [])), qv (k _ (Same.trans S0d (Same.new he))) ?_⟩
        rw [eqv_lI, enil, decide_eq_false hl]; rfl
      | true =>
        refine iteF (snx ?_)
        dsimp only
        refine srt ⟨_, rfl, Nat.zero_le _, fun e he => ?_⟩
        have ne : D3 ≠ e := fun z => by rw [z, he] at hD3d; cases hD3d
        have nld : D ≠ e := fun z => by rw [z, he] at hlandd; cases hlandd
        have Se := Same.trans S0d (Same.new (o := .lst []) he)
        refine ⟨.list (dI _), .list (dI []), .lst (SqL.of (by rw [upd_ne ne]; exact hD3d)) (dpA_I _), .lst (SqL.of upd_same) (dpA_I []), shp_ok (shp_list (shpA_I _)), shp_ok (shp_list (shpA_I [])), _, rfl, iteD _ (by rw [eqv_lI, enil]) ?_⟩
        by_cases hl : lostOf EE (newR bs e1) e1 ++ lostOf EE (newR bs e2) e2 = []
        · exact iteD true (decide_eq_true hl) (iteT (k _ Se))
        · refine iteD false (decide_eq_false hl) (iteF ?_)
          have short : LD.length < 2 := by
            rcases land with h | ⟨ha, hb⟩
            · exact h
            · have m1 := of_decide_eq_true ha
              have m2 := of_decide_eq_true hb
              rw [if_pos rfl] at m1
              rw [if_neg (by decide)] at m2
              have nl := none_lost W F lb vA vB qn.C1 qn.C2 ap m1 m2
              rw [hE] at nl
              exact absurd nl hl
          exact ⟨_, rfl, D, LD, rfl, .inl (SqL.of (by rw [upd_ne nld]; exact hlandd)), _, _, rfl, rfl, qv (k _ Se) (by simp; omega)⟩
end
end Fr

/-! # FrL19 -/
namespace Fr
open PySem PySem.Spec PyProof.Rows L2 FR
open PySem.FrX (ErC)
theorem lvl_fair2 (k : Kd) : fairK (lvl k) = true := by cases k <;> rfl
theorem fair_lvl (ks : List Kd) : Fair (ks.map lvl) := fun p => by
  unfold kd
  rw [List.getD_eq_getElem?_getD, List.getElem?_map]
  cases ks[p]? with
  | none => rfl
  | some k => exact lvl_fair2 k
theorem unf_fair {ks : List Kd} (F : Fair ks) : unf ks = none := by
  unfold unf
  rw [List.find?_eq_none]
  intro x _
  rw [F x]
  simp
theorem Lf.fair {ps : Par} {ks : List Kd} (F : Fair ks) : Lf ps ks := fun i j e => by rw [F i] at e; cases e
theorem make_same {H H' : Hp} {x dx C : Addr} (hx : H x = none) (hd : H dx = none) (B : But x (L2.upd (L2.upd H dx (.own x)) x (.ins C dx [])) H') : Same H H' := fun b o e =>
  B b o (ne_of_none e hx) (by rw [upd_ne (ne_of_none e hx), upd_ne (ne_of_none e hd)]; exact e)
section
variable {P : Program} {w : World} {K : PySem.W.Frag} {mg : Str → Option Value} {base : Heap} (T : Tx K mg) {C c1 c2 c3 d1 d2 d3 : Addr} (Fc : FoC K mg C) (R : Ers P K mg c1 c2 c3 d1 d2 d3)
  {aMk aBF aBA aBL aBR aBT aCL aFD aHO aFE : Addr} (Ce : Ces mg c1 c2 c3 aMk aBF aBA aBL aBR aBT aCL aFD aHO aFE)
  (D1 : Cdf K c1 true false false c1 c2 c3 aMk aBF aBA aBL aBR aBT aCL aFD aHO aFE) (D2 : Cdf K c2 false true false c1 c2 c3 aMk aBF aBA aBL aBR aBT aCL aFD aHO aFE) (D3 : Cdf K c3 false false true c1 c2 c3 aMk aBF aBA aBL aBR aBT aCL aFD aHO aFE)
  {tm : Tok} (Tm : mg "MOST_FIELDS" = some (.int 16 tm))
include T Fc R Ce D1 D2 D3 Tm
def spLaw (K : PySem.W.Frag) : Sp := fun vs H Q _ => ∃ (sa : Addr) (S : List Int), vs = [.ref sa] ∧ SqL K H sa (vI S) ∧ ∀ H', Q (.bl true) H'
theorem law_body (f : Addr) (cdv : Value) (Ar : Around) (outer : List Env) (s0 : Shared) (H : Hp) (vs : List V) (Q : VK) (E : XK) (hr : Room 6 (Ar.deeper (envOfC "law" (defScope s_law) s0.heap.objs.size f cdv))) (h : spLaw K vs H Q E) :
    ∃ t, PSs (cxOf CX0 P w K mg base ["_law_script", "_law_tape_here", "_law_n", "_law_parents_here", "_law_fair", "_law_kinds_here", "_law_level_here", "_law_ranks", "_law_forests", "_law_turns_here", "_law_at", "_law_question_here", "_law_asked", "_law_k", "_law_pick", "_law_changes_here"] "law" (defScope s_law) f cdv Ar outer s0 H E).nox (defBody s_law) t ∧ t { nx := fun _ H' => Q .non H', rt := Q } (L2.start ["_law_script", "_law_tape_here", "_law_n", "_law_parents_here", "_law_fair", "_law_kinds_here", "_law_level_here", "_law_ranks", "_law_forests", "_law_turns_here", "_law_at", "_law_question_here", "_law_asked", "_law_k", "_law_pick", "_law_changes_here"] vs) H := by
  have Glaw_tape : Ok1 P w K mg base CX0 1 "_law_tape" ["_law_script", "_law_k"] (spTape K) := ok_tape T
  have Glaw_size : Ok1 P w K mg base CX0 2 "_law_size" ["_law_tape_here"] spSize := ok_size T
  have Glaw_parents : Ok1 P w K mg base CX0 3 "_law_parents" ["_law_tape_here", "_law_n"] spPar := ok_par T
  have Glaw_take : Ok1 P w K mg base CX0 1 "_law_take" ["_law_tape_here", "_law_size_here"] spTk := ok_tk T
  have Glaw_kinds : Ok1 P w K mg base CX0 2 "_law_kinds" ["_law_tape_here", "_law_parents_here", "_law_fair"] spKinds := ok_kinds T
  have Glaw_level : Ok1 P w K mg base CX0 1 "_law_level" ["_law_kinds_here"] (spLevel K) := ok_level T
  have Glaw_question : Ok1 P w K mg base CX0 4 "_law_question" ["_law_script", "_law_turn", "_law_parents_here", "_law_kinds_here"] (spQn K) := ok_qn T
  have Glaw_holds : Ok1 P w K mg base CX0 6 "_law_holds" ["_law_forest", "_law_parents_here", "_law_kinds_here", "_law_first", "_law_second"] (spHo C K) := ok_ho T Fc R Ce D1 D2 D3
  have Glaw_both : Ok1 P w K mg base CX0 4 "_law_both" ["_law_forest", "_law_parents_here", "_law_kinds_here", "_law_question_here"] (spBo C K) := ok_bo T Fc
  have Glaw_written : Ok1 P w K mg base CX0 5 "_law_written" ["_law_forest", "_law_parents_here", "_law_kinds_here", "_law_base", "_law_changes_here"] (spLw C K) := ok_lw T Fc R
  have Glaw_stays : Ok1 P w K mg base CX0 1 "_law_stays" ["_law_forest", "_law_parents_here", "_law_kinds_here"] (spStays C K) := ok_stays T Fc
  obtain ⟨gI, fdI, MkF, bI, FI⟩ := ok_in (P := P) (w := w) (base := base) T Fc Tm
  · obtain ⟨sa, S, rfl, hS, q⟩ := h
    refine ⟨_, (pss_cons (ps_set (i := 1) sc_law.nd rfl (Or.inl rfl) (pe_c Glaw_tape (hr.mono (by decide)) pass0 (pa_cons (pv 0) (pa_cons pe_int pa_nil))))
      (pss_cons (ps_set (i := 2) sc_law.nd rfl (Or.inl rfl) (pe_c Glaw_size (hr.mono (by decide)) pass0 (pa_cons (pv 1) pa_nil)))
      (pss_cons (ps_set (i := 3) sc_law.nd rfl (Or.inl rfl) (pe_c Glaw_parents (hr.mono (by decide)) pass0 (pa_cons (pv 1) (pa_cons (pv 2) pa_nil))))
      (pss_cons (ps_set (i := 1) sc_law.nd rfl (Or.inl rfl) (pe_c Glaw_tape (hr.mono (by decide)) pass0 (pa_cons (pv 0) (pa_cons pe_int pa_nil))))
      (pss_cons (ps_set (i := 4) sc_law.nd rfl (Or.inl rfl) (pe_cmpR op_gt (pe_c Glaw_take (hr.mono (by decide)) pass0 (pa_cons (pv 1) (pa_cons pe_int pa_nil))) pe_int (nomark _)))
      (pss_cons (ps_set (i := 5) sc_law.nd rfl (Or.inl rfl) (pe_c Glaw_kinds (hr.mono (by decide)) pass0 (pa_cons (pv 1) (pa_cons (pv 3) (pa_cons (pv 4) pa_nil)))))
      (pss_cons (ps_set (i := 6) sc_law.nd rfl (Or.inl rfl) (pe_c Glaw_level (hr.mono (by decide)) pass0 (pa_cons (pv 5) pa_nil)))
      (pss_cons (ps_set (i := 7) sc_law.nd rfl (Or.inl rfl) (pe_lst (pa_cons (pv 5) (pa_cons (pv 6) pa_nil))))
      (pss_cons (ps_set (i := 8) sc_law.nd rfl (Or.inl rfl) (pe_lst (pa_cons (pe_make MkF FI (hr.mono (by decide)) rfl Fc.mgC bI .nil pass0 (pa_cons (pe_callTy call_list_of (by rfl) T.z_list (by decide +kernel) (pa_cons (pv 3) pa_nil)) (pa_cons (pe_callTy call_list_of (by rfl) T.z_list (by decide +kernel) (pa_cons (pv 5) pa_nil)) pa_nil))) (pa_cons (pe_make MkF FI (hr.mono (by decide)) rfl Fc.mgC bI .nil pass0 (pa_cons (pe_callTy call_list_of (by rfl) T.z_list (by decide +kernel) (pa_cons (pv 3) pa_nil)) (pa_cons (pe_callTy call_list_of (by rfl) T.z_list (by decide +kernel) (pa_cons (pv 6) pa_nil)) pa_nil))) pa_nil))))
      (pss_cons (ps_set (i := 9) sc_law.nd rfl (Or.inl rfl) (pe_lst (pa_cons pe_int (pa_cons pe_int (pa_cons pe_int (pa_cons pe_int pa_nil))))))
      (pss_cons (ps_for PassesOwn.never rfl (pi_range1 (by rfl) T.z_range (pa_cons (pe_callB call_len_seq (by rfl) T.z_len (by decide +kernel) (pa_cons (pv 9) pa_nil)) pa_nil)) (pg_name (i := 10) sc_law.nd rfl (Or.inl rfl))
        (pss_cons (ps_set (i := 11) sc_law.nd rfl (Or.inl rfl) (pe_c Glaw_question (hr.mono (by decide)) pass0 (pa_cons (pv 0) (pa_cons (pe_ix ix_list (pv 9) (pv 10) (fun _ _ => rfl)) (pa_cons (pv 3) (pa_cons (pv 6) pa_nil))))))
          (pss_cons (ps_set (i := 12) sc_law.nd rfl (Or.inl rfl) (pe_lst (pa_cons (pe_ix ix_list (pv 11) pe_int (fun _ _ => rfl)) (pa_cons (pe_ix ix_list (pv 11) pe_int (fun _ _ => rfl)) pa_nil))))
          (pss_cons (ps_for PassesOwn.never rfl (pi_range1 (by rfl) T.z_range (pa_cons pe_int pa_nil)) (pg_name (i := 13) sc_law.nd rfl (Or.inl rfl))
            (pss_cons (ps_set (i := 14) sc_law.nd rfl (Or.inl rfl) (pe_op op_mod (pe_callTy call_int1 (by rfl) T.z_int (by decide +kernel) (pa_cons (pe_op op_add (pv 13) (pv 10)) pa_nil)) pe_int))
              (pss_one (ps_if (pt_not (pt_val (pe_c Glaw_holds (hr.mono (by decide)) pass0 (pa_cons (pe_ix ix_list (pv 8) (pv 14) (fun _ _ => rfl)) (pa_cons (pv 3) (pa_cons (pe_ix ix_list (pv 7) (pv 14) (fun _ _ => rfl)) (pa_cons (pe_ix ix_list (pe_ix ix_list (pv 12) (pv 13) (fun _ _ => rfl)) pe_int (fun _ _ => rfl)) (pa_cons (pe_ix ix_list (pe_ix ix_list (pv 12) (pv 13) (fun _ _ => rfl)) pe_int (fun _ _ => rfl)) pa_nil))))))))
              (pss_one (ps_ret pe_bl))
              pss_nil))))
          (pss_cons (ps_if (pt_not (pt_val (pe_c Glaw_both (hr.mono (by decide)) pass0 (pa_cons (pe_ix ix_list (pv 8) pe_int (fun _ _ => rfl)) (pa_cons (pv 3) (pa_cons (pv 6) (pa_cons (pv 11) pa_nil)))))))
            (pss_one (ps_ret pe_bl))
            pss_nil)
          (pss_one (ps_for PassesOwn.never rfl (pi_list (pe_slice sl_list (pv 11) (po_some pe_int) po_none)) (pg_name (i := 15) sc_law.nd rfl (Or.inl rfl))
          (pss_one (ps_if (pt_not (pt_val (pe_c Glaw_written (hr.mono (by decide)) pass0 (pa_cons (pe_ix ix_list (pv 8) pe_int (fun _ _ => rfl)) (pa_cons (pv 3) (pa_cons (pv 6) (pa_cons (pe_ix ix_list (pv 11) pe_int (fun _ _ => rfl)) (pa_cons (pv 15) pa_nil))))))))
            (pss_one (ps_ret pe_bl))
            pss_nil)))))))))
      (pss_one (ps_ret (pe_and (pe_c Glaw_stays (hr.mono (by decide)) pass0 (pa_cons (pe_ix ix_list (pv 8) pe_int (fun _ _ => rfl)) (pa_cons (pv 3) (pa_cons (pv 5) pa_nil)))) (pe_one (pe_c Glaw_stays (hr.mono (by decide)) pass0 (pa_cons (pe_ix ix_list (pv 8) pe_int (fun _ _ => rfl)) (pa_cons (pv 3) (pa_cons (pv 6) pa_nil))))))))))))))))))), ?_⟩
    refine sq ⟨_, rfl, sa, S, 0, rfl, hS, fun H1 t1 S1 ht1 tp1 => ?_⟩
    refine sq ⟨_, rfl, t1, rfl, tp1, fun H2 n B2 T2 n1 n8 => ?_⟩
    refine sq ⟨_, rfl, _, rfl, t1, n, rfl, T2, by omega, fun H3 pa ps r B3 T3 hpa0 hpa lps W => ?_⟩
    have S3 : Same H H3 := But.same S1 (But.trans B2 B3) ht1
    refine sq ⟨_, rfl, sa, S, 1, rfl, Same.sl S3 hS, fun H4 t2 S4 ht2 tp2 => ?_⟩
    have S04 := Same.trans S3 S4
    have npa : pa ≠ t2 := ne_of_none hpa ht2
    refine sq ⟨_, rfl, t2, 6, rfl, tp2, by decide, by decide, fun H5 rf B5 T5 lf => ⟨_, _, rfl, rfl, ?_⟩⟩
    have hpa5 := B5 _ _ npa (S4 _ _ hpa)
    refine sq ⟨_, rfl, _, rfl, _, rfl, t2, pa, ps, _, rfl, T5, npa, hpa5, by omega, fun H6 ka ks B6 T6 hka0 hka lk lfk => ?_⟩
    have S36 : Same H3 H6 := But.same S4 (But.trans B5 B6) ht2
    have S6 := Same.trans S3 S36
    have hpa6 := S36 _ _ hpa
    refine sq ⟨_, rfl, ka, ks, rfl, SqL.of hka, by omega, fun H7 le S7 hle0 hle => ?_⟩
    have hka7 := S7 _ _ hka
    have hpa7 := S7 _ _ hpa6
    have S07 := Same.trans S6 S7
    refine sq ⟨_, rfl, _, rfl, small (show 2 ≤ 1000 by decide), fun ra hra0 => ?_⟩
    have Sr := Same.new (o := .lst [.ref ka, .ref le]) hra0
    have hra : L2.upd H7 ra (.lst [.ref ka, .ref le]) ra = some (.lst [.ref ka, .ref le]) := upd_same
    generalize L2.upd H7 ra (.lst [.ref ka, .ref le]) = H8 at Sr hra ⊢
    have S08 := Same.trans S07 Sr
    have hka8 := Sr _ _ hka7
    have hpa8 := Sr _ _ hpa7
    have hle8 := Sr _ _ hle
    have F := fair_lvl ks
    have lkl : (ks.map lvl).length = ps.length := by rw [List.length_map, lk]
    -- the two forests
    refine sq ⟨_, rfl, pa, _, rfl, .inl (SqL.of hpa8), fun u1 hu1 => ?_⟩
    have Su1 := Same.new (o := .lst (vP ps)) hu1
    refine ⟨_, rfl, ka, _, rfl, .inl (SqL.of (Su1 _ _ hka8)), fun u2 hu2 => ?_⟩
    have Su2 := Same.new (o := .lst (vK ks)) hu2
    intro x0 dx0 hx0 hdx0 ndx0
    have gu1 := Su2 _ _ (show L2.upd H8 u1 (.lst (vP ps)) u1 = some (.lst (vP ps)) from upd_same)
    have gu2 : L2.upd (L2.upd H8 u1 (.lst (vP ps))) u2 (.lst (vK ks)) u2 = some (.lst (vK ks)) := upd_same
    generalize L2.upd (L2.upd H8 u1 (.lst (vP ps))) u2 (.lst (vK ks)) = Hm at hx0 hdx0 gu1 gu2 Su2 ⊢
    have S8m := Same.trans Su1 Su2
    have Sm0 : Same Hm (L2.upd (L2.upd Hm dx0 (.own x0)) x0 (.ins C dx0 [])) := Same.trans (Same.new hdx0) (Same.new (by rw [upd_ne (Ne.symm ndx0)]; exact hx0))
    refine ⟨x0, dx0, u1, u2, ps, ks, r, rfl, upd_same, SqL.of (Sm0 _ _ gu1), SqL.of (Sm0 _ _ gu2), W, lk, by omega, by omega, lfk, fun H9 Bx hf0 => ⟨rfl, ?_⟩⟩
    have S89 := Same.trans S8m (make_same hx0 hdx0 Bx)
    have S09 := Same.trans S08 S89
    have hka9 := S89 _ _ hka8
    have hpa9 := S89 _ _ hpa8
    have hle9 := S89 _ _ hle8
    have hra9 := S89 _ _ hra
    refine ⟨_, rfl, pa, _, rfl, .inl (SqL.of hpa9), fun u3 hu3 => ?_⟩
    have Su3 := Same.new (o := .lst (vP ps)) hu3
    refine ⟨_, rfl, le, _, rfl, .inl (SqL.of (Su3 _ _ hle9)), fun u4 hu4 => ?_⟩
    have Su4 := Same.new (o := .lst (vK (ks.map lvl))) hu4
    intro x1 dx1 hx1 hdx1 ndx1
    have gu3 := Su4 _ _ (show L2.upd H9 u3 (.lst (vP ps)) u3 = some (.lst (vP ps)) from upd_same)
    have gu4 : L2.upd (L2.upd H9 u3 (.lst (vP ps))) u4 (.lst (vK (ks.map lvl))) u4 = some (.lst (vK (ks.map lvl))) := upd_same
    generalize L2.upd (L2.upd H9 u3 (.lst (vP ps))) u4 (.lst (vK (ks.map lvl))) = Hn at hx1 hdx1 gu3 gu4 Su4 ⊢
    have S9n := Same.trans Su3 Su4
    have Sn0 : Same Hn (L2.upd (L2.upd Hn dx1 (.own x1)) x1 (.ins C dx1 [])) := Same.trans (Same.new hdx1) (Same.new (by rw [upd_ne (Ne.symm ndx1)]; exact hx1))
    refine ⟨x1, dx1, u3, u4, ps, ks.map lvl, r, rfl, upd_same, SqL.of (Sn0 _ _ gu3), SqL.of (Sn0 _ _ gu4), W, lkl, by omega, by omega, Lf.fair F, fun Ha By hf1 => ⟨rfl, small (show 2 ≤ 1000 by decide), fun fs hfs0 => ?_⟩⟩
    have S9a := Same.trans S9n (make_same hx1 hdx1 By)
    have Sf := Same.new (o := .lst [.ref x0, .ref x1]) hfs0
    have hfs : L2.upd Ha fs (.lst [.ref x0, .ref x1]) fs = some (.lst [.ref x0, .ref x1]) := upd_same
    dsimp only
    generalize L2.upd Ha fs (.lst [.ref x0, .ref x1]) = Hb at Sf hfs ⊢
    have S9b := Same.trans S9a Sf
    refine sq ⟨small (show 4 ≤ 1000 by decide), fun tu htu0 => ?_⟩
    have St := Same.new (o := .lst [.int 0, .int 1, .int 2, .int 0]) htu0
    have htu : L2.upd Hb tu (.lst [.int 0, .int 1, .int 2, .int 0]) tu = some (.lst [.int 0, .int 1, .int 2, .int 0]) := upd_same
    generalize L2.upd Hb tu (.lst [.int 0, .int 1, .int 2, .int 0]) = Hc at St htu ⊢
    have S9c := Same.trans S9b St
    have S0c := Same.trans S09 S9c
    have hkac := S9c _ _ hka9
    have hpac := S9c _ _ hpa9
    have hlec := S9c _ _ hle9
    have hrac := S9c _ _ hra9
    have hfsc := St _ _ hfs
    have hf0c := hf0.same S9c
    have hf1c := hf1.same (Same.trans Sf St)
    refine sqf ⟨_, rfl, tu, _, rfl, .inl (SqL.of htu), _, rfl, (show -(2 ^ 62) ≤ (4 : Int) by decide), (show (4 : Int) < 2 ^ 62 by decide), for_rg 4 rfl (fun i σ H' => (∃ y10 y11 y12 y13 y14 y15, σ = [some (.ref sa), some (.ref t2), some (.int (n : Int)), some (.ref pa), some (.bl (decide ((0 : Int) < (rf : Int)))), some (.ref ka), some (.ref le), some (.ref ra), some (.ref fs), some (.ref tu), y10, y11, y12, y13, y14, y15]) ∧ Same Hc H') ⟨⟨_, _, _, _, _, _, rfl⟩, Same.refl Hc⟩ ?_ ?_⟩
    · rintro i σ H' hi ⟨⟨y10, y11, y12, y13, y14, y15, rfl⟩, Si⟩
      obtain ⟨m, hm2, hm⟩ : ∃ m : Nat, m ≤ 2 ∧ ([.int 0, .int 1, .int 2, .int 0] : List V)[i]? = some (.int (m : Int)) := by
        match i, hi with
        | 0, _ => exact ⟨0, by decide, rfl⟩
        | 1, _ => exact ⟨1, by decide, rfl⟩
        | 2, _ => exact ⟨2, by decide, rfl⟩
        | 3, _ => exact ⟨0, by decide, rfl⟩
      have S0i := Same.trans S0c Si
      refine gn (sq ⟨_, rfl, _, rfl, _, rfl, tu, _, _, _, rfl, rfl, SqL.of (Si _ _ htu), atN hm, _, rfl, _, rfl, sa, pa, le, S, m, ps, ks.map lvl, r, rfl, Same.sl S0i hS, by omega, Si _ _ hpac, Si _ _ hlec, W, by omega, by omega, lkl, fun Hd qu A B X Y bs e1 e2 l s ba f1 f2 a b x y Sd hqu0 qn => ?_⟩)
      refine sq ⟨_, rfl, _, _, (1 : Int), .ref s, rfl, rfl, SqL.of qn.hq, atN (n := 1) rfl, _, rfl, _, _, (0 : Int), .ref l, rfl, rfl, SqL.of qn.hq, atN (n := 0) rfl, small (show 2 ≤ 1000 by decide), fun as has0 => ?_⟩
      have Sas := Same.new (o := .lst [.ref s, .ref l]) has0
      have has : L2.upd Hd as (.lst [.ref s, .ref l]) as = some (.lst [.ref s, .ref l]) := upd_same
      generalize L2.upd Hd as (.lst [.ref s, .ref l]) = He at Sas has ⊢
      have Sde := Same.trans Si (Same.trans Sd Sas)
      have qe := qn.same Sas
      refine sqf ⟨_, rfl, (show -(2 ^ 62) ≤ (2 : Int) by decide), (show (2 : Int) < 2 ^ 62 by decide), for_rg 2 rfl (fun kq σ H' => (∃ y13 y14, σ = [some (.ref sa), some (.ref t2), some (.int (n : Int)), some (.ref pa), some (.bl (decide ((0 : Int) < (rf : Int)))), some (.ref ka), some (.ref le), some (.ref ra), some (.ref fs), some (.ref tu), some (.int (i : Int)), some (.ref qu), some (.ref as), y13, y14, y15]) ∧ Same He H') ⟨⟨_, _, rfl⟩, Same.refl He⟩ ?_ ?_⟩
      · rintro kq σ H1' hk2 ⟨⟨y13, y14, rfl⟩, Sk⟩
        have Sck := Same.trans Sde Sk
        have qk := qe.same Sk
        have hpk : ((kq : Int) + (i : Int)) % 2 = (((kq + i) % 2 : Nat) : Int) := by omega
        refine gn (sq ⟨_, rfl, _, rfl, _, _, rfl, rfl, .inl ⟨_, rfl, _, _, rfl, rfl, (show (0 : Int) < 2 by decide), ?_⟩⟩)
        dsimp only
        rw [hpk]
        have hp2 : (kq + i) % 2 < 2 := Nat.mod_lt _ (by decide)
        generalize (kq + i) % 2 = pk at hp2
        obtain ⟨fo, kk, kks, hfo1, hkk1, hFo, hkk, lkk⟩ : ∃ (fo kk : Addr) (kks : List Kd), ([.ref x0, .ref x1] : List V)[pk]? = some (.ref fo) ∧ ([.ref ka, .ref le] : List V)[pk]? = some (.ref kk) ∧ Fo C H1' fo ps kks ∧ H1' kk = some (.lst (vK kks)) ∧ kks.length = ps.length := by
          match pk, hp2 with
          | 0, _ => exact ⟨x0, ka, ks, rfl, rfl, hf0c.same Sck, Sck _ _ hkac, lk⟩
          | 1, _ => exact ⟨x1, le, ks.map lvl, rfl, rfl, hf1c.same Sck, Sck _ _ hlec, lkl⟩
        obtain ⟨o, u, v, U, V0, ho1, ho, hu, hv, lU, lV⟩ : ∃ (o u v : Addr) (U V0 : List Int), ([.ref s, .ref l] : List V)[kq]? = some (.ref o) ∧ H1' o = some (.lst [.ref u, .ref v]) ∧ H1' u = some (.lst (vI U)) ∧ H1' v = some (.lst (vI V0)) ∧ U.length ≤ 30 ∧ V0.length ≤ 30 := by
          match kq, hk2 with
          | 0, _ => exact ⟨s, x, y, X, Y, rfl, qk.hs, qk.hx, qk.hy, qk.lX, qk.lY⟩
          | 1, _ => exact ⟨l, a, b, A, B, rfl, qk.hl, qk.ha, qk.hB, by have := qk.two.lA; omega, by have := qk.two.lB; omega⟩
        have hask := Sk _ _ has
        refine sif ⟨_, rfl, _, rfl, fs, _, _, _, rfl, rfl, SqL.of (Sck _ _ hfsc), atN hfo1, _, rfl, _, rfl, _, rfl, ra, _, _, _, rfl, rfl, SqL.of (Sck _ _ hrac), atN hkk1, _, rfl, _, rfl, as, _, _, _, rfl, rfl, SqL.of hask, atN ho1, o, _, (0 : Int), .ref u, rfl, rfl, SqL.of ho, atN (n := 0) rfl, _, rfl, _, rfl, as, _, _, _, rfl, rfl, SqL.of hask, atN ho1, o, _, (1 : Int), .ref v, rfl, rfl, SqL.of ho, atN (n := 1) rfl, fo, pa, kk, u, v, ps, kks, r, U, V0, rfl, hFo, W, lkk, by omega, SqL.of (Sck _ _ hpac), SqL.of hkk, hu, hv, lU, lV, fun Hf Sf2 => ⟨_, rfl, iteD false rfl (iteF (snx ⟨⟨_, _, rfl⟩, Same.trans Sk Sf2⟩))⟩⟩
      · rintro σ H1' ⟨⟨y13, y14, rfl⟩, Sk⟩
        dsimp only
        have Sck := Same.trans Sde Sk
        have qk := qe.same Sk
        refine sqi ⟨_, rfl, _, _, (1 : Int), .ref x1, rfl, rfl, SqL.of (Sck _ _ hfsc), atN (n := 1) rfl, _, rfl, _, rfl, _, rfl, x1, pa, le, qu, ps, ks.map lvl, r, A, B, X, Y, bs, e1, e2, l, s, ba, f1, f2, a, b, x, y, rfl, hf1c.same Sck, W, F, lkl, by omega, SqL.of (Sck _ _ hpac), SqL.of (Sck _ _ hlec), qk, fun Hg Sg => ⟨_, rfl, iteD false rfl (iteF (snx ?_))⟩⟩
        dsimp only
        have Scg := Same.trans Sck Sg
        have qg := qk.same Sg
        refine ⟨_, rfl, _, rfl, qu, _, rfl, SqL.of qg.hq, fun sl hsl0 => ⟨sl, rfl, ⟨[.ref f1, .ref f2], SqL.of (by rw [upd_same]; rfl)⟩, ?_⟩⟩
        have hsl : L2.upd Hg sl (.lst (cutV [.ref l, .ref s, .ref ba, .ref f1, .ref f2] (some 3) none)) sl = some (.lst [.ref f1, .ref f2]) := by rw [upd_same]; rfl
        have Ssl := Same.new (o := .lst (cutV [.ref l, .ref s, .ref ba, .ref f1, .ref f2] (some 3) none)) hsl0
        generalize L2.upd Hg sl (.lst (cutV [.ref l, .ref s, .ref ba, .ref f1, .ref f2] (some 3) none)) = Hh at hsl Ssl ⊢
        refine for_list (xs := [.ref f1, .ref f2]) (fun j σ H' => (∃ y13 y14 y15, σ = [some (.ref sa), some (.ref t2), some (.int (n : Int)), some (.ref pa), some (.bl (decide ((0 : Int) < (rf : Int)))), some (.ref ka), some (.ref le), some (.ref ra), some (.ref fs), some (.ref tu), some (.int (i : Int)), some (.ref qu), some (.ref as), y13, y14, y15]) ∧ Same Hh H') ⟨⟨_, _, _, rfl⟩, Same.refl Hh⟩ (fun j σ H' _ h => SqL.of (h.2 _ _ hsl)) ?_ ?_
        · rintro j v σ Hj hj ⟨⟨y13, y14, y15, rfl⟩, Sj⟩
          have Scj := Same.trans Scg (Same.trans Ssl Sj)
          have qj := qg.same (Same.trans Ssl Sj)
          obtain ⟨ca, cs, Z, hv, hca, hch, lc, vZ⟩ : ∃ (ca : Addr) (cs : List (Nat × Int)) (Z : List Int), v = .ref ca ∧ Hj ca = some (.dK (vD cs)) ∧ Chg ps.length Z bs cs ∧ cs.length ≤ 18 ∧ Valid ps.length Z := by
            match j, hj with
            | 0, hj => cases hj; exact ⟨f1, e1, A, rfl, qj.h1, qj.C1, qj.l1, qj.two.vA⟩
            | 1, hj => cases hj; exact ⟨f2, e2, B, rfl, qj.h2, qj.C2, qj.l2, qj.two.vB⟩
          subst hv
          refine gn (sif ⟨_, rfl, _, _, (1 : Int), .ref x1, rfl, rfl, SqL.of (Scj _ _ hfsc), atN (n := 1) rfl, _, rfl, _, rfl, _, rfl, _, _, (2 : Int), .ref ba, rfl, rfl, SqL.of qj.hq, atN (n := 2) rfl, _, rfl, x1, pa, le, ba, ca, ps, ks.map lvl, r, bs, cs, rfl, ⟨hf1c.same Scj, lkl, by omega, unf_fair F, SqT.of qj.hb, qj.lb, hca, by omega, fun p hp => Chg.lt hch vZ (List.mem_map.mpr ⟨p, hp, rfl⟩)⟩, W, SqL.of (Scj _ _ hpac), SqL.of (Scj _ _ hlec), hch.nd, fun Hk Sk2 => ⟨_, rfl, iteD false rfl (iteF (snx ⟨⟨_, _, _, rfl⟩, Same.trans Sj Sk2⟩))⟩⟩)
        · rintro σ Hj ⟨⟨y13, y14, y15, rfl⟩, Sj⟩
          exact ⟨⟨_, _, _, _, _, _, rfl⟩, Same.trans Si (Same.trans (Same.trans Sd Sas) (Same.trans Sk (Same.trans Sg (Same.trans Ssl Sj))))⟩
    · rintro σ H' ⟨⟨y10, y11, y12, y13, y14, y15, rfl⟩, Si⟩
      dsimp only
      refine srt ⟨_, rfl, _, _, (0 : Int), .ref x0, rfl, rfl, SqL.of (Si _ _ hfsc), atN (n := 0) rfl, _, rfl, _, rfl, x0, pa, ka, ps, ks, rfl, hf0c.same Si, SqL.of (Si _ _ hpac), SqL.of (Si _ _ hkac), fun Hy Sy => ⟨_, rfl, iteT ?_⟩⟩
      have Siy := Same.trans Si Sy
      exact ⟨_, rfl, _, _, (1 : Int), .ref x1, rfl, rfl, SqL.of (Siy _ _ hfsc), atN (n := 1) rfl, _, rfl, _, rfl, x1, pa, le, ps, ks.map lvl, rfl, hf1c.same Siy, SqL.of (Siy _ _ hpac), SqL.of (Siy _ _ hlec), fun Hz Sz => q Hz⟩
end
end Fr

/-! # FrEnd -/
namespace Fr
open PySem PySem.Spec PyProof.Rows L2 FR
open PySem.FrX (ErC iA iB iS)
theorem bd_better (kV doc pm : Value) (an : Option Addr) (cdv ct : Value) (us : List Value) (hl : us.length = (["kind", "value", "other"] : List Str).length) : bindArgs (PySem.W.fnOf "better" "better" (defArgs s_better) (defBody s_better) (defScope s_better) .none kV doc pm an cdv ct) ⟨us, []⟩ = pure ((["kind", "value", "other"] : List Str).zip us) := match us, hl with | [_, _, _], _ => rfl
theorem bd_path_of (kV doc pm : Value) (an : Option Addr) (cdv ct : Value) (us : List Value) (hl : us.length = (["parents", "field"] : List Str).length) : bindArgs (PySem.W.fnOf "path_of" "path_of" (defArgs s_path_of) (defBody s_path_of) (defScope s_path_of) .none kV doc pm an cdv ct) ⟨us, []⟩ = pure ((["parents", "field"] : List Str).zip us) := match us, hl with | [_, _], _ => rfl
theorem bd_first_unlike_on (kV doc pm : Value) (an : Option Addr) (cdv ct : Value) (us : List Value) (hl : us.length = (["path", "first", "second"] : List Str).length) : bindArgs (PySem.W.fnOf "first_unlike_on" "first_unlike_on" (defArgs s_first_unlike_on) (defBody s_first_unlike_on) (defScope s_first_unlike_on) .none kV doc pm an cdv ct) ⟨us, []⟩ = pure ((["path", "first", "second"] : List Str).zip us) := match us, hl with | [_, _, _], _ => rfl
theorem bd_merged_record (kV doc pm : Value) (an : Option Addr) (cdv ct : Value) (us : List Value) (hl : us.length = (["parents", "kinds", "older", "newer"] : List Str).length) : bindArgs (PySem.W.fnOf "merged_record" "merged_record" (defArgs s_merged_record) (defBody s_merged_record) (defScope s_merged_record) .none kV doc pm an cdv ct) ⟨us, []⟩ = pure ((["parents", "kinds", "older", "newer"] : List Str).zip us) := match us, hl with | [_, _, _, _], _ => rfl
theorem bd_check_record (kV doc pm : Value) (an : Option Addr) (cdv ct : Value) (us : List Value) (hl : us.length = (["fields", "record"] : List Str).length) : bindArgs (PySem.W.fnOf "check_record" "check_record" (defArgs s_check_record) (defBody s_check_record) (defScope s_check_record) .none kV doc pm an cdv ct) ⟨us, []⟩ = pure ((["fields", "record"] : List Str).zip us) := match us, hl with | [_, _], _ => rfl
theorem bd_check_place (kV doc pm : Value) (an : Option Addr) (cdv ct : Value) (us : List Value) (hl : us.length = (["fields", "place"] : List Str).length) : bindArgs (PySem.W.fnOf "check_place" "check_place" (defArgs s_check_place) (defBody s_check_place) (defScope s_check_place) .none kV doc pm an cdv ct) ⟨us, []⟩ = pure ((["fields", "place"] : List Str).zip us) := match us, hl with | [_, _], _ => rfl
theorem bd_check_places (kV doc pm : Value) (an : Option Addr) (cdv ct : Value) (us : List Value) (hl : us.length = (["fields", "places"] : List Str).length) : bindArgs (PySem.W.fnOf "check_places" "check_places" (defArgs s_check_places) (defBody s_check_places) (defScope s_check_places) .none kV doc pm an cdv ct) ⟨us, []⟩ = pure ((["fields", "places"] : List Str).zip us) := match us, hl with | [_, _], _ => rfl
theorem bd_check_fair (kV doc pm : Value) (an : Option Addr) (cdv ct : Value) (us : List Value) (hl : us.length = (["forest"] : List Str).length) : bindArgs (PySem.W.fnOf "check_fair" "check_fair" (defArgs s_check_fair) (defBody s_check_fair) (defScope s_check_fair) .none kV doc pm an cdv ct) ⟨us, []⟩ = pure ((["forest"] : List Str).zip us) := match us, hl with | [_], _ => rfl
theorem bd_check_write (kV doc pm : Value) (an : Option Addr) (cdv ct : Value) (us : List Value) (hl : us.length = (["forest", "base", "changes"] : List Str).length) : bindArgs (PySem.W.fnOf "check_write" "check_write" (defArgs s_check_write) (defBody s_check_write) (defScope s_check_write) .none kV doc pm an cdv ct) ⟨us, []⟩ = pure ((["forest", "base", "changes"] : List Str).zip us) := match us, hl with | [_, _, _], _ => rfl
theorem bd_with_values (kV doc pm : Value) (an : Option Addr) (cdv ct : Value) (us : List Value) (hl : us.length = (["base", "changes"] : List Str).length) : bindArgs (PySem.W.fnOf "with_values" "with_values" (defArgs s_with_values) (defBody s_with_values) (defScope s_with_values) .none kV doc pm an cdv ct) ⟨us, []⟩ = pure ((["base", "changes"] : List Str).zip us) := match us, hl with | [_, _], _ => rfl
theorem bd_fields_above (kV doc pm : Value) (an : Option Addr) (cdv ct : Value) (us : List Value) (hl : us.length = (["forest", "field"] : List Str).length) : bindArgs (PySem.W.fnOf "fields_above" "fields_above" (defArgs s_fields_above) (defBody s_fields_above) (defScope s_fields_above) .none kV doc pm an cdv ct) ⟨us, []⟩ = pure ((["forest", "field"] : List Str).zip us) := match us, hl with | [_, _], _ => rfl
theorem bd_written (kV doc pm : Value) (an : Option Addr) (cdv ct : Value) (us : List Value) (hl : us.length = (["forest", "base", "changes"] : List Str).length) : bindArgs (PySem.W.fnOf "written" "written" (defArgs s_written) (defBody s_written) (defScope s_written) .none kV doc pm an cdv ct) ⟨us, []⟩ = pure ((["forest", "base", "changes"] : List Str).zip us) := match us, hl with | [_, _, _], _ => rfl
theorem bd_lands (kV doc pm : Value) (an : Option Addr) (cdv ct : Value) (us : List Value) (hl : us.length = (["forest", "base", "changes"] : List Str).length) : bindArgs (PySem.W.fnOf "lands" "lands" (defArgs s_lands) (defBody s_lands) (defScope s_lands) .none kV doc pm an cdv ct) ⟨us, []⟩ = pure ((["forest", "base", "changes"] : List Str).zip us) := match us, hl with | [_, _, _], _ => rfl
theorem bd_has_above (kV doc pm : Value) (an : Option Addr) (cdv ct : Value) (us : List Value) (hl : us.length = (["forest", "upper", "lower"] : List Str).length) : bindArgs (PySem.W.fnOf "has_above" "has_above" (defArgs s_has_above) (defBody s_has_above) (defScope s_has_above) .none kV doc pm an cdv ct) ⟨us, []⟩ = pure ((["forest", "upper", "lower"] : List Str).zip us) := match us, hl with | [_, _, _], _ => rfl
theorem bd_both_stay (kV doc pm : Value) (an : Option Addr) (cdv ct : Value) (us : List Value) (hl : us.length = (["forest", "first", "second"] : List Str).length) : bindArgs (PySem.W.fnOf "both_stay" "both_stay" (defArgs s_both_stay) (defBody s_both_stay) (defScope s_both_stay) .none kV doc pm an cdv ct) ⟨us, []⟩ = pure ((["forest", "first", "second"] : List Str).zip us) := match us, hl with | [_, _, _], _ => rfl
theorem bd_never_ends (kV doc pm : Value) (an : Option Addr) (cdv ct : Value) (us : List Value) (hl : us.length = (["parents", "field"] : List Str).length) : bindArgs (PySem.W.fnOf "never_ends" "never_ends" (defArgs s_never_ends) (defBody s_never_ends) (defScope s_never_ends) .none kV doc pm an cdv ct) ⟨us, []⟩ = pure ((["parents", "field"] : List Str).zip us) := match us, hl with | [_, _], _ => rfl
theorem bd_check_shape (kV doc pm : Value) (an : Option Addr) (cdv ct : Value) (us : List Value) (hl : us.length = (["parents", "kinds"] : List Str).length) : bindArgs (PySem.W.fnOf "check_shape" "check_shape" (defArgs s_check_shape) (defBody s_check_shape) (defScope s_check_shape) .none kV doc pm an cdv ct) ⟨us, []⟩ = pure ((["parents", "kinds"] : List Str).zip us) := match us, hl with | [_, _], _ => rfl
theorem bd_law_tape (kV doc pm : Value) (an : Option Addr) (cdv ct : Value) (us : List Value) (hl : us.length = (["_law_script", "_law_k"] : List Str).length) : bindArgs (PySem.W.fnOf "_law_tape" "_law_tape" (defArgs s_law_tape) (defBody s_law_tape) (defScope s_law_tape) .none kV doc pm an cdv ct) ⟨us, []⟩ = pure ((["_law_script", "_law_k"] : List Str).zip us) := match us, hl with | [_, _], _ => rfl
theorem bd_law_take (kV doc pm : Value) (an : Option Addr) (cdv ct : Value) (us : List Value) (hl : us.length = (["_law_tape_here", "_law_size_here"] : List Str).length) : bindArgs (PySem.W.fnOf "_law_take" "_law_take" (defArgs s_law_take) (defBody s_law_take) (defScope s_law_take) .none kV doc pm an cdv ct) ⟨us, []⟩ = pure ((["_law_tape_here", "_law_size_here"] : List Str).zip us) := match us, hl with | [_, _], _ => rfl
theorem bd_law_value (kV doc pm : Value) (an : Option Addr) (cdv ct : Value) (us : List Value) (hl : us.length = (["_law_tape_here", "_law_span"] : List Str).length) : bindArgs (PySem.W.fnOf "_law_value" "_law_value" (defArgs s_law_value) (defBody s_law_value) (defScope s_law_value) .none kV doc pm an cdv ct) ⟨us, []⟩ = pure ((["_law_tape_here", "_law_span"] : List Str).zip us) := match us, hl with | [_, _], _ => rfl
theorem bd_law_record (kV doc pm : Value) (an : Option Addr) (cdv ct : Value) (us : List Value) (hl : us.length = (["_law_tape_here", "_law_n", "_law_span"] : List Str).length) : bindArgs (PySem.W.fnOf "_law_record" "_law_record" (defArgs s_law_record) (defBody s_law_record) (defScope s_law_record) .none kV doc pm an cdv ct) ⟨us, []⟩ = pure ((["_law_tape_here", "_law_n", "_law_span"] : List Str).zip us) := match us, hl with | [_, _, _], _ => rfl
theorem bd_law_turns (kV doc pm : Value) (an : Option Addr) (cdv ct : Value) (us : List Value) (hl : us.length = (["_law_tape_here", "_law_n"] : List Str).length) : bindArgs (PySem.W.fnOf "_law_turns" "_law_turns" (defArgs s_law_turns) (defBody s_law_turns) (defScope s_law_turns) .none kV doc pm an cdv ct) ⟨us, []⟩ = pure ((["_law_tape_here", "_law_n"] : List Str).zip us) := match us, hl with | [_, _], _ => rfl
theorem bd_law_parents (kV doc pm : Value) (an : Option Addr) (cdv ct : Value) (us : List Value) (hl : us.length = (["_law_tape_here", "_law_n"] : List Str).length) : bindArgs (PySem.W.fnOf "_law_parents" "_law_parents" (defArgs s_law_parents) (defBody s_law_parents) (defScope s_law_parents) .none kV doc pm an cdv ct) ⟨us, []⟩ = pure ((["_law_tape_here", "_law_n"] : List Str).zip us) := match us, hl with | [_, _], _ => rfl
theorem bd_law_kinds (kV doc pm : Value) (an : Option Addr) (cdv ct : Value) (us : List Value) (hl : us.length = (["_law_tape_here", "_law_parents_here", "_law_fair"] : List Str).length) : bindArgs (PySem.W.fnOf "_law_kinds" "_law_kinds" (defArgs s_law_kinds) (defBody s_law_kinds) (defScope s_law_kinds) .none kV doc pm an cdv ct) ⟨us, []⟩ = pure ((["_law_tape_here", "_law_parents_here", "_law_fair"] : List Str).zip us) := match us, hl with | [_, _, _], _ => rfl
theorem bd_law_path (kV doc pm : Value) (an : Option Addr) (cdv ct : Value) (us : List Value) (hl : us.length = (["_law_parents_here", "_law_field"] : List Str).length) : bindArgs (PySem.W.fnOf "_law_path" "_law_path" (defArgs s_law_path) (defBody s_law_path) (defScope s_law_path) .none kV doc pm an cdv ct) ⟨us, []⟩ = pure ((["_law_parents_here", "_law_field"] : List Str).zip us) := match us, hl with | [_, _], _ => rfl
theorem bd_law_side (kV doc pm : Value) (an : Option Addr) (cdv ct : Value) (us : List Value) (hl : us.length = (["_law_parents_here", "_law_kinds_here", "_law_field", "_law_older", "_law_newer"] : List Str).length) : bindArgs (PySem.W.fnOf "_law_side" "_law_side" (defArgs s_law_side) (defBody s_law_side) (defScope s_law_side) .none kV doc pm an cdv ct) ⟨us, []⟩ = pure ((["_law_parents_here", "_law_kinds_here", "_law_field", "_law_older", "_law_newer"] : List Str).zip us) := match us, hl with | [_, _, _, _, _], _ => rfl
theorem bd_law_merge (kV doc pm : Value) (an : Option Addr) (cdv ct : Value) (us : List Value) (hl : us.length = (["_law_parents_here", "_law_kinds_here", "_law_older", "_law_newer"] : List Str).length) : bindArgs (PySem.W.fnOf "_law_merge" "_law_merge" (defArgs s_law_merge) (defBody s_law_merge) (defScope s_law_merge) .none kV doc pm an cdv ct) ⟨us, []⟩ = pure ((["_law_parents_here", "_law_kinds_here", "_law_older", "_law_newer"] : List Str).zip us) := match us, hl with | [_, _, _, _], _ => rfl
theorem bd_law_is_integer (kV doc pm : Value) (an : Option Addr) (cdv ct : Value) (us : List Value) (hl : us.length = (["_law_actual"] : List Str).length) : bindArgs (PySem.W.fnOf "_law_is_integer" "_law_is_integer" (defArgs s_law_is_integer) (defBody s_law_is_integer) (defScope s_law_is_integer) .none kV doc pm an cdv ct) ⟨us, []⟩ = pure ((["_law_actual"] : List Str).zip us) := match us, hl with | [_], _ => rfl
theorem bd_law_is_record (kV doc pm : Value) (an : Option Addr) (cdv ct : Value) (us : List Value) (hl : us.length = (["_law_actual", "_law_n"] : List Str).length) : bindArgs (PySem.W.fnOf "_law_is_record" "_law_is_record" (defArgs s_law_is_record) (defBody s_law_is_record) (defScope s_law_is_record) .none kV doc pm an cdv ct) ⟨us, []⟩ = pure ((["_law_actual", "_law_n"] : List Str).zip us) := match us, hl with | [_, _], _ => rfl
theorem bd_law_size (kV doc pm : Value) (an : Option Addr) (cdv ct : Value) (us : List Value) (hl : us.length = (["_law_tape_here"] : List Str).length) : bindArgs (PySem.W.fnOf "_law_size" "_law_size" (defArgs s_law_size) (defBody s_law_size) (defScope s_law_size) .none kV doc pm an cdv ct) ⟨us, []⟩ = pure ((["_law_tape_here"] : List Str).zip us) := match us, hl with | [_], _ => rfl
theorem bd_law_raised (kV doc pm : Value) (an : Option Addr) (cdv ct : Value) (us : List Value) (hl : us.length = (["_law_kind", "_law_value_here", "_law_by"] : List Str).length) : bindArgs (PySem.W.fnOf "_law_raised" "_law_raised" (defArgs s_law_raised) (defBody s_law_raised) (defScope s_law_raised) .none kV doc pm an cdv ct) ⟨us, []⟩ = pure ((["_law_kind", "_law_value_here", "_law_by"] : List Str).zip us) := match us, hl with | [_, _, _], _ => rfl
theorem bd_law_no_field (kV doc pm : Value) (an : Option Addr) (cdv ct : Value) (us : List Value) (hl : us.length = (["_law_tape_here", "_law_n"] : List Str).length) : bindArgs (PySem.W.fnOf "_law_no_field" "_law_no_field" (defArgs s_law_no_field) (defBody s_law_no_field) (defScope s_law_no_field) .none kV doc pm an cdv ct) ⟨us, []⟩ = pure ((["_law_tape_here", "_law_n"] : List Str).zip us) := match us, hl with | [_, _], _ => rfl
theorem bd_law_level (kV doc pm : Value) (an : Option Addr) (cdv ct : Value) (us : List Value) (hl : us.length = (["_law_kinds_here"] : List Str).length) : bindArgs (PySem.W.fnOf "_law_level" "_law_level" (defArgs s_law_level) (defBody s_law_level) (defScope s_law_level) .none kV doc pm an cdv ct) ⟨us, []⟩ = pure ((["_law_kinds_here"] : List Str).zip us) := match us, hl with | [_], _ => rfl
theorem bd_law_unfair (kV doc pm : Value) (an : Option Addr) (cdv ct : Value) (us : List Value) (hl : us.length = (["_law_kinds_here"] : List Str).length) : bindArgs (PySem.W.fnOf "_law_unfair" "_law_unfair" (defArgs s_law_unfair) (defBody s_law_unfair) (defScope s_law_unfair) .none kV doc pm an cdv ct) ⟨us, []⟩ = pure ((["_law_kinds_here"] : List Str).zip us) := match us, hl with | [_], _ => rfl
theorem bd_law_stays (kV doc pm : Value) (an : Option Addr) (cdv ct : Value) (us : List Value) (hl : us.length = (["_law_forest", "_law_parents_here", "_law_kinds_here"] : List Str).length) : bindArgs (PySem.W.fnOf "_law_stays" "_law_stays" (defArgs s_law_stays) (defBody s_law_stays) (defScope s_law_stays) .none kV doc pm an cdv ct) ⟨us, []⟩ = pure ((["_law_forest", "_law_parents_here", "_law_kinds_here"] : List Str).zip us) := match us, hl with | [_, _, _], _ => rfl
theorem bd_law_new (kV doc pm : Value) (an : Option Addr) (cdv ct : Value) (us : List Value) (hl : us.length = (["_law_base", "_law_changes_here"] : List Str).length) : bindArgs (PySem.W.fnOf "_law_new" "_law_new" (defArgs s_law_new) (defBody s_law_new) (defScope s_law_new) .none kV doc pm an cdv ct) ⟨us, []⟩ = pure ((["_law_base", "_law_changes_here"] : List Str).zip us) := match us, hl with | [_, _], _ => rfl
theorem bd_law_lists (kV doc pm : Value) (an : Option Addr) (cdv ct : Value) (us : List Value) (hl : us.length = (["_law_tape_here", "_law_n"] : List Str).length) : bindArgs (PySem.W.fnOf "_law_lists" "_law_lists" (defArgs s_law_lists) (defBody s_law_lists) (defScope s_law_lists) .none kV doc pm an cdv ct) ⟨us, []⟩ = pure ((["_law_tape_here", "_law_n"] : List Str).zip us) := match us, hl with | [_, _], _ => rfl
theorem bd_law_spoilt (kV doc pm : Value) (an : Option Addr) (cdv ct : Value) (us : List Value) (hl : us.length = (["_law_tape_here", "_law_n", "_law_lists_here"] : List Str).length) : bindArgs (PySem.W.fnOf "_law_spoilt" "_law_spoilt" (defArgs s_law_spoilt) (defBody s_law_spoilt) (defScope s_law_spoilt) .none kV doc pm an cdv ct) ⟨us, []⟩ = pure ((["_law_tape_here", "_law_n", "_law_lists_here"] : List Str).zip us) := match us, hl with | [_, _, _], _ => rfl
theorem bd_law_changes (kV doc pm : Value) (an : Option Addr) (cdv ct : Value) (us : List Value) (hl : us.length = (["_law_tape_here", "_law_parents_here", "_law_kinds_here", "_law_base", "_law_fields"] : List Str).length) : bindArgs (PySem.W.fnOf "_law_changes" "_law_changes" (defArgs s_law_changes) (defBody s_law_changes) (defScope s_law_changes) .none kV doc pm an cdv ct) ⟨us, []⟩ = pure ((["_law_tape_here", "_law_parents_here", "_law_kinds_here", "_law_base", "_law_fields"] : List Str).zip us) := match us, hl with | [_, _, _, _, _], _ => rfl
theorem bd_law_question (kV doc pm : Value) (an : Option Addr) (cdv ct : Value) (us : List Value) (hl : us.length = (["_law_script", "_law_turn", "_law_parents_here", "_law_kinds_here"] : List Str).length) : bindArgs (PySem.W.fnOf "_law_question" "_law_question" (defArgs s_law_question) (defBody s_law_question) (defScope s_law_question) .none kV doc pm an cdv ct) ⟨us, []⟩ = pure ((["_law_script", "_law_turn", "_law_parents_here", "_law_kinds_here"] : List Str).zip us) := match us, hl with | [_, _, _, _], _ => rfl
theorem bd_law_refusal (kV doc pm : Value) (an : Option Addr) (cdv ct : Value) (us : List Value) (hl : us.length = (["_law_kinds_here", "_law_first", "_law_second"] : List Str).length) : bindArgs (PySem.W.fnOf "_law_refusal" "_law_refusal" (defArgs s_law_refusal) (defBody s_law_refusal) (defScope s_law_refusal) .none kV doc pm an cdv ct) ⟨us, []⟩ = pure ((["_law_kinds_here", "_law_first", "_law_second"] : List Str).zip us) := match us, hl with | [_, _, _], _ => rfl
theorem bd_law_ask (kV doc pm : Value) (an : Option Addr) (cdv ct : Value) (us : List Value) (hl : us.length = (["_law_forest", "_law_first", "_law_second"] : List Str).length) : bindArgs (PySem.W.fnOf "_law_ask" "_law_ask" (defArgs s_law_ask) (defBody s_law_ask) (defScope s_law_ask) .none kV doc pm an cdv ct) ⟨us, []⟩ = pure ((["_law_forest", "_law_first", "_law_second"] : List Str).zip us) := match us, hl with | [_, _, _], _ => rfl
theorem bd_law_is_refusal (kV doc pm : Value) (an : Option Addr) (cdv ct : Value) (us : List Value) (hl : us.length = (["_law_told", "_law_due"] : List Str).length) : bindArgs (PySem.W.fnOf "_law_is_refusal" "_law_is_refusal" (defArgs s_law_is_refusal) (defBody s_law_is_refusal) (defScope s_law_is_refusal) .none kV doc pm an cdv ct) ⟨us, []⟩ = pure ((["_law_told", "_law_due"] : List Str).zip us) := match us, hl with | [_, _], _ => rfl
theorem bd_law_apart (kV doc pm : Value) (an : Option Addr) (cdv ct : Value) (us : List Value) (hl : us.length = (["_law_parents_here", "_law_first", "_law_second"] : List Str).length) : bindArgs (PySem.W.fnOf "_law_apart" "_law_apart" (defArgs s_law_apart) (defBody s_law_apart) (defScope s_law_apart) .none kV doc pm an cdv ct) ⟨us, []⟩ = pure ((["_law_parents_here", "_law_first", "_law_second"] : List Str).zip us) := match us, hl with | [_, _, _], _ => rfl
theorem bd_law_holds (kV doc pm : Value) (an : Option Addr) (cdv ct : Value) (us : List Value) (hl : us.length = (["_law_forest", "_law_parents_here", "_law_kinds_here", "_law_first", "_law_second"] : List Str).length) : bindArgs (PySem.W.fnOf "_law_holds" "_law_holds" (defArgs s_law_holds) (defBody s_law_holds) (defScope s_law_holds) .none kV doc pm an cdv ct) ⟨us, []⟩ = pure ((["_law_forest", "_law_parents_here", "_law_kinds_here", "_law_first", "_law_second"] : List Str).zip us) := match us, hl with | [_, _, _, _, _], _ => rfl
theorem bd_law_written (kV doc pm : Value) (an : Option Addr) (cdv ct : Value) (us : List Value) (hl : us.length = (["_law_forest", "_law_parents_here", "_law_kinds_here", "_law_base", "_law_changes_here"] : List Str).length) : bindArgs (PySem.W.fnOf "_law_written" "_law_written" (defArgs s_law_written) (defBody s_law_written) (defScope s_law_written) .none kV doc pm an cdv ct) ⟨us, []⟩ = pure ((["_law_forest", "_law_parents_here", "_law_kinds_here", "_law_base", "_law_changes_here"] : List Str).zip us) := match us, hl with | [_, _, _, _, _], _ => rfl
theorem bd_law_both (kV doc pm : Value) (an : Option Addr) (cdv ct : Value) (us : List Value) (hl : us.length = (["_law_forest", "_law_parents_here", "_law_kinds_here", "_law_question_here"] : List Str).length) : bindArgs (PySem.W.fnOf "_law_both" "_law_both" (defArgs s_law_both) (defBody s_law_both) (defScope s_law_both) .none kV doc pm an cdv ct) ⟨us, []⟩ = pure ((["_law_forest", "_law_parents_here", "_law_kinds_here", "_law_question_here"] : List Str).zip us) := match us, hl with | [_, _, _, _], _ => rfl
theorem bd_law (kV doc pm : Value) (an : Option Addr) (cdv ct : Value) (us : List Value) (hl : us.length = (["_law_script"] : List Str).length) : bindArgs (PySem.W.fnOf "law" "law" (defArgs s_law) (defBody s_law) (defScope s_law) .none kV doc pm an cdv ct) ⟨us, []⟩ = pure ((["_law_script"] : List Str).zip us) := match us, hl with | [_], _ => rfl
theorem bd_Forest___init__ (kV doc pm : Value) (an : Option Addr) (cdv ct : Value) (us : List Value) (hl : us.length = (["self", "parents", "kinds"] : List Str).length) : bindArgs (PySem.W.fnOf "__init__" "Forest.__init__" (defArgs s_Forest___init__) (defBody s_Forest___init__) (defScope s_Forest___init__) .none kV doc pm an cdv ct) ⟨us, []⟩ = pure ((["self", "parents", "kinds"] : List Str).zip us) := match us, hl with | [_, _, _], _ => rfl
theorem bd_Forest___call__ (kV doc pm : Value) (an : Option Addr) (cdv ct : Value) (us : List Value) (hl : us.length = (["self", "older", "newer"] : List Str).length) : bindArgs (PySem.W.fnOf "__call__" "Forest.__call__" (defArgs s_Forest___call__) (defBody s_Forest___call__) (defScope s_Forest___call__) .none kV doc pm an cdv ct) ⟨us, []⟩ = pure ((["self", "older", "newer"] : List Str).zip us) := match us, hl with | [_, _, _], _ => rfl
section
variable {K : PySem.W.Frag} {h : Heap} {mg : Str → Option Value} (X : K.In h) (G : h.Ns mainGlobals mg)
include X G
theorem df_mk {x : Str} {st : Stmt} {f : Addr} {oc : Value} {od an : Option Addr} {osl : Array (Option Value)} {kV doc pm cdv ct : Value} {ps : List Str} (a : PySem.W.nsIn K mainGlobals x = some (some (.ref f)))
    (l : K.lookup f = some ⟨oc, od, .func (PySem.W.fnOf x x (defArgs st) (defBody st) (defScope st) .none kV doc pm an cdv ct), osl⟩) (c : PySem.W.codeIn K cdv x = true) (k : PySem.W.keepIn K (.ref f) = true)
    (hb : ∀ (kV doc pm : Value) (an : Option Addr) (cdv ct : Value) (us : List Value), us.length = ps.length → bindArgs (PySem.W.fnOf x x (defArgs st) (defBody st) (defScope st) .none kV doc pm an cdv ct) ⟨us, []⟩ = pure (ps.zip us)) : Df K mg x st ps :=
  ⟨_, _, fun_mk l c k, PySem.W.mg_of X G a, (fun_mk l c k).binds hb⟩
theorem er_mk {P : Program} {x n qual msg : Str} {C D : Addr} {nm q : Str} {N : Addr} {bs : List Value} {sn : List Str} {sub : List Value} {ab : Bool} {col : Option Bool} {dd : Option Addr} {m0 m1 m2 m3 m5 : Option Value}
    {fI cda cc : Addr} {oc kV doc pm ct : Value} {od an : Option Addr} {osl : Array (Option Value)} {pl : Sem Bool} {p1 p2 q1 q2 q3 q4 q5 q6 q7 q8 q9 q0 : Pos} {ccl : Value} {cdd : Option Addr} {vs : Array Value} {ccs : Array (Option Value)} {cl : Value} {cld : Option Addr} {csl : Array (Option Value)} {file : Str} {tf : Tok}
    (aC : PySem.W.nsIn K mainGlobals x = some (some (.ref C))) (aS : PySem.W.nsIn K mainGlobals "super" = some none)
    (xL : K.lookup C = some (excClassObj nm q C N bs [.ref D, .type "ValueError", .type "Exception", .type "BaseException", .type "object"] true sn sub ab col dd m0 m1 m2 m3 m5 "ValueError.__new__"))
    (sa : PySem.W.findIn K (.ref C) "__setattr__" = some (some (.builtin "object.__setattr__"))) (ga : PySem.W.findIn K (.ref C) "__getattribute__" = some (some (.builtin "BaseException.__getattribute__"))) (gg : PySem.W.findIn K (.ref C) "__getattr__" = some none)
    (nN : PySem.W.findIn K (.ref C) n = some none) (kC : PySem.W.keepIn K (.ref C) = true) (eC : PySem.W.subIn K (.ref C) (.type "BaseException") = some true) (vC : PySem.W.subIn K (.ref C) (.type "ValueError") = some true)
    (tC : PySem.W.typeIn K (.ref C) = some (.type "type")) (hC : PySem.W.hasDictIn K C = true) (mC : PySem.W.mroIn K C (.ref C) = some true) (th : PySem.W.nsIn K cStatics "thirdparty.any" = some none)
    (su : PySem.W.ks_superIn K C C "__init__" = some (some (.builtin "ValueError.__init__"))) (i1 : PySem.W.findIn K (.ref C) "__init__" = some (some (.ref fI))) (t1 : PySem.W.typeIn K (.ref fI) = some (.type "function"))
    (l1 : K.lookup fI = some ⟨oc, od, .func (PySem.W.ksFn "__init__" qual (iA n p1 p2) (iB n msg q1 q2 q3 q4 q5 q6 q7 q8 q9 q0) (iS n) .none kV doc pm an (.ref cda) ct cc), osl⟩) (c1 : PySem.W.codeIn K (.ref cda) qual = true)
    (l2 : K.lookup cda = some ⟨ccl, cdd, .fields vs, ccs⟩) (l3 : K.lookup cc = some ⟨cl, cld, .cell (some (.ref C)), csl⟩) (hv : vs[2]? = some (.str file tf)) (hf : ((P.main.file : Str) == file) = true) (tp : (P.main.scope.names.lookup ("super" : Str)).isSome = false)
    (nc : ∀ y ∈ (iS n).names, y.2 ≠ .cell) (ln : (iS n).names.lookup n = some .local) (n1 : (n == ("self" : Str)) = false) (n2 : (n == ("__debug__" : Str)) = false) (n3 : n ≠ "self")
    (ls : (iS n).names.lookup ("super" : Str) = some .globalImplicit) (lc : (iS n).names.lookup ("__class__" : Str) = some .free) (l0 : (iS n).names.lookup ("self" : Str) = some .local)
    (hb : ∀ a b : Value, bindArgs (PySem.W.ksFn "__init__" qual (iA n p1 p2) (iB n msg q1 q2 q3 q4 q5 q6 q7 q8 q9 q0) (iS n) .none kV doc pm an (.ref cda) ct cc) ⟨[a, b], []⟩ = pure [((PySem.Str.ofString "self" : Str), a), (n, b)])
    (ht : ∀ L : Addr, eval (.Call (.Attribute (.Call (.Name "super" q1) [] [] q2) "__init__" q3) [.Constant (.str msg) 0 q4] [] q5) (PySem.W.ksEnv qual (iS n) L fI (.ref cda) cc) = (do
      let ov ← attributeBase (.Call (.Name "super" q1) [] [] q2) "__init__" (PySem.W.ksEnv qual (iS n) L fI (.ref cda) cc) (eval (.Call (.Name "super" q1) [] [] q2) (PySem.W.ksEnv qual (iS n) L fI (.ref cda) cc))
      standAt q3.atName
      let (f, first) ← holding [ov] (getMethod ov "__init__" pl)
      callWith q5 f first (backTo q5 (starEach [.Constant (.str msg) 0 q4] (PySem.W.ksEnv qual (iS n) L fI (.ref cda) cc))) [])) : ErC P K mg x n C D where
  gC := PySem.W.mg_of X G aC
  mS := PySem.W.mg_none_of X G aS
  cls := ⟨nm, q, N, bs, sn, sub, ab, col, dd, m0, m1, m2, m3, m5, xL⟩
  sa := sa
  ga := ga
  gg := gg
  noN := nN
  kC := kC
  exC := eC
  veC := vC
  tyC := tC
  hdC := hC
  slf := mC
  thd := th
  sup := su
  tpS := tp
  fn := ⟨fI, qual, msg, oc, kV, od, doc, pm, an, cda, cc, ct, osl, pl, p1, p2, q1, q2, q3, q4, q5, q6, q7, q8, q9, q0, ccl, cdd, vs, ccs, cl, cld, csl, file, tf, i1, t1, l1, c1, l2, hv, hf, l3, nc, ln, n1, n2, n3, ls, lc, l0, hb, ht⟩
theorem fo_mk {C f g : Addr} {oc oc2 : Value} {od an od2 an2 : Option Addr} {osl osl2 : Array (Option Value)} {kV doc pm cdv ct kV2 doc2 pm2 cdv2 ct2 : Value} (aC : PySem.W.nsIn K mainGlobals "Forest" = some (some (.ref C)))
    (pg : PySem.W.plainGet K C Str.empty = true) (hd : PySem.W.hasDictIn K C = true) (po : PySem.W.plainOver K C = true) (sa : PySem.W.findIn K (.ref C) "__setattr__" = some (some (.builtin "object.__setattr__")))
    (nF : PySem.W.findIn K (.ref C) "fields" = some none) (nP : PySem.W.findIn K (.ref C) "parents" = some none) (nK : PySem.W.findIn K (.ref C) "kinds" = some none)
    (mk : PySem.W.makesIn K C = true) (i1 : PySem.W.findIn K (.ref C) "__init__" = some (some (.ref f))) (f1 : PySem.W.isFn K (.ref f) = true) (kC : PySem.W.keepIn K (.ref C) = true)
    (l1 : K.lookup f = some ⟨oc, od, .func (PySem.W.fnOf "__init__" "Forest.__init__" (defArgs s_Forest___init__) (defBody s_Forest___init__) (defScope s_Forest___init__) .none kV doc pm an cdv ct), osl⟩) (c1 : PySem.W.codeIn K cdv "Forest.__init__" = true) (k1 : PySem.W.keepIn K (.ref f) = true)
    (i2 : PySem.W.findIn K (.ref C) "__call__" = some (some (.ref g))) (f2 : PySem.W.isFn K (.ref g) = true) (g2 : PySem.W.fnIn K g = true)
    (l2 : K.lookup g = some ⟨oc2, od2, .func (PySem.W.fnOf "__call__" "Forest.__call__" (defArgs s_Forest___call__) (defBody s_Forest___call__) (defScope s_Forest___call__) .none kV2 doc2 pm2 an2 cdv2 ct2), osl2⟩) (c2 : PySem.W.codeIn K cdv2 "Forest.__call__" = true) (k2 : PySem.W.keepIn K (.ref g) = true) : FoC K mg C where
  mgC := PySem.W.mg_of X G aC
  cl := ⟨pg, hd, po, sa⟩
  nF := nF
  nP := nP
  nK := nK
  init := ⟨f, _, fun_mk l1 c1 k1, ⟨mk, i1, f1, kC⟩, (fun_mk l1 c1 k1).binds bd_Forest___init__⟩
  call := ⟨g, _, fun_mk l2 c2 k2, ⟨i2, f2, g2⟩, (fun_mk l2 c2 k2).binds bd_Forest___call__⟩
end
theorem cdf_mk {K : PySem.W.Frag} {h : Heap} {mg : Str → Option Value} {x : Str} {D : Addr} {b1 b2 b3 : Bool} {c1 c2 c3 aMk aBF aBA aBL aBR aBT aCL aFD aHO aFE : Addr} (X : K.In h) (Ce : Ces mg c1 c2 c3 aMk aBF aBA aBL aBR aBT aCL aFD aHO aFE) (hD : mg x = some (.ref D))
    (g1 : PySem.W.findIn K (.ref D) "__getattribute__" = some (some (.builtin "BaseException.__getattribute__"))) (g2 : PySem.W.findIn K (.ref D) "__getattr__" = some none) (g3 : PySem.W.subIn K (.ref D) (.type "BaseException") = some true) (g4 : PySem.W.hasDictIn K D = true)
    (g5 : PySem.W.findIn K (.ref D) "__class__" = some (some (.builtin "object.__class__"))) (g6 : PySem.W.specialIn K (.builtin "object.__class__") "__get__" = some (some (.builtin "getset_descriptor.__get__"))) (g7 : PySem.W.takesIn K (.builtin "object.__class__") = some true) (g8 : PySem.W.mroIn K D (.type "object") = some true)
    (e1 : PySem.W.kitOne K (.ref D) (.type "ValueError") = some true) (e2 : PySem.W.kitOne K (.ref D) (.ref aMk) = some false) (e3 : PySem.W.kitOne K (.ref D) (.ref aBF) = some false) (e4 : PySem.W.kitAny K (.ref D) [.ref aBA, .ref aBL, .ref aBR, .ref aBT, .ref aCL, .ref aFD, .ref aHO] = some false)
    (e5 : PySem.W.kitOne K (.ref D) (.ref c1) = some b1) (e6 : PySem.W.kitOne K (.ref D) (.ref c2) = some b2) (e7 : PySem.W.kitOne K (.ref D) (.ref c3) = some b3)
    (x1 : PySem.W.subIn K (.ref aFE) (.type "BaseException") = some true) (x2 : PySem.W.hasDictIn K aFE = true) (x3 : PySem.W.typeIn K (.ref aFE) = some (.type "type")) (x4 : PySem.W.subIn K (.ref D) (.ref aFE) = some true) : Cdf K D b1 b2 b3 c1 c2 c3 aMk aBF aBA aBL aBR aBT aCL aFD aHO aFE :=
  ⟨⟨g1, g2, g3, g4, g5, g6, g7, g8⟩, e1, e2, e3, e4, e5, e6, e7, PySem.W.exm_ref x1 x2 x3 x4⟩
/-- the law, called -/
theorem fin {P : Program} {w : World} {K : PySem.W.Frag} {mg : Str → Option Value} {fa : Addr} (hfa : mg "law" = some (.ref fa)) (T : Tx K mg) {C c1 c2 c3 d1 d2 d3 : Addr} (Fc : FoC K mg C) (R : Ers P K mg c1 c2 c3 d1 d2 d3)
    {aMk aBF aBA aBL aBR aBT aCL aFD aHO aFE : Addr} (Ce : Ces mg c1 c2 c3 aMk aBF aBA aBL aBR aBT aCL aFD aHO aFE)
    (D1 : Cdf K c1 true false false c1 c2 c3 aMk aBF aBA aBL aBR aBT aCL aFD aHO aFE) (D2 : Cdf K c2 false true false c1 c2 c3 aMk aBF aBA aBL aBR aBT aCL aFD aHO aFE) (D3 : Cdf K c3 false false true c1 c2 c3 aMk aBF aBA aBL aBR aBT aCL aFD aHO aFE)
    {tm : Tok} (Tm : mg "MOST_FIELDS" = some (.int 16 tm)) :
    ∃ fd : FuncData, (∀ (s : Shared) (u : Value), BindsTo s fd ⟨[u], []⟩ [("_law_script", u)]) ∧ ∀ base : Heap, K.In base → base.Ns mainGlobals mg → FnOk P w K mg base CX0 7 fa fd ["_law_script"] (spLaw K) := by
  obtain ⟨f, fd, F, g, b⟩ := T.d_law.ex
  have e := hfa.symm.trans g
  cases e
  refine ⟨fd, fun s u => ?_, fun base _ _ => ?_⟩
  · obtain ⟨oc, od, kV, doc, pm, an, cdv, ct, osl, rfl, -, -⟩ := F.ex
    exact .of_eq (bd_law kV doc pm an cdv ct [u] rfl)
  · exact F.ok sc_law (fun vs H Q E h => by obtain ⟨sa, S, rfl, _⟩ := h; rfl) fun cdv A outer s H vs Q E hr h => law_body T Fc R Ce D1 D2 D3 Tm _ cdv A outer s H vs Q E hr h
end Fr

/-! # the head and the end -/
open PySem PySem.W PyProof.Rows
set_option maxHeartbeats 0
open_top frhead for PySem.Challenge.rw_fieldrides_k57_whole_two_writes
theorem PySem.Challenge.cw_fieldrides_k57_whole_two_writes_holds : PySem.Challenge.rw_fieldrides_k57_whole_two_writes.Holds := by
  exact frhead (by
    k_fill
    refine L2.walk_ofK (l := PySem.Challenge.rw_fieldrides_k57_whole_two_writes) (n := 63) (k := 7) (CX := L2.CX0) (sp := Fr.spLaw) (x := "_law_script") rfl (by decide) rfl ⟨rfl, by decide, by decide⟩ (fun w h Y => PySem.W.kIn_of Y) ?F (fun K H a ns h1 h2 h3 => ⟨a, ns, rfl, h3, fun H' => rfl⟩) (fun _ _ _ _ z => z)
    case F =>
      intro w mg fa h KX G hmg
      refine' have t_better := Fr.df_mk KX G ?a0 ?l0 ?c0 ?k0 Fr.bd_better; ?_
      (case a0 => k_is)
      (case l0 => k_is)
      (case c0 => k_is)
      (case k0 => k_is)
      refine' have t_path_of := Fr.df_mk KX G ?a1 ?l1 ?c1 ?k1 Fr.bd_path_of; ?_
      (case a1 => k_is)
      (case l1 => k_is)
      (case c1 => k_is)
      (case k1 => k_is)
      refine' have t_first_unlike_on := Fr.df_mk KX G ?a2 ?l2 ?c2 ?k2 Fr.bd_first_unlike_on; ?_
      (case a2 => k_is)
      (case l2 => k_is)
      (case c2 => k_is)
      (case k2 => k_is)
      refine' have t_merged_record := Fr.df_mk KX G ?a3 ?l3 ?c3 ?k3 Fr.bd_merged_record; ?_
      (case a3 => k_is)
      (case l3 => k_is)
      (case c3 => k_is)
      (case k3 => k_is)
      refine' have t_check_record := Fr.df_mk KX G ?a4 ?l4 ?c4 ?k4 Fr.bd_check_record; ?_
      (case a4 => k_is)
      (case l4 => k_is)
      (case c4 => k_is)
      (case k4 => k_is)
      refine' have t_check_place := Fr.df_mk KX G ?a5 ?l5 ?c5 ?k5 Fr.bd_check_place; ?_
      (case a5 => k_is)
      (case l5 => k_is)
      (case c5 => k_is)
      (case k5 => k_is)
      refine' have t_check_places := Fr.df_mk KX G ?a6 ?l6 ?c6 ?k6 Fr.bd_check_places; ?_
      (case a6 => k_is)
      (case l6 => k_is)
      (case c6 => k_is)
      (case k6 => k_is)
      refine' have t_check_fair := Fr.df_mk KX G ?a7 ?l7 ?c7 ?k7 Fr.bd_check_fair; ?_
      (case a7 => k_is)
      (case l7 => k_is)
      (case c7 => k_is)
      (case k7 => k_is)
      refine' have t_check_write := Fr.df_mk KX G ?a8 ?l8 ?c8 ?k8 Fr.bd_check_write; ?_
      (case a8 => k_is)
      (case l8 => k_is)
      (case c8 => k_is)
      (case k8 => k_is)
      refine' have t_with_values := Fr.df_mk KX G ?a9 ?l9 ?c9 ?k9 Fr.bd_with_values; ?_
      (case a9 => k_is)
      (case l9 => k_is)
      (case c9 => k_is)
      (case k9 => k_is)
      refine' have t_fields_above := Fr.df_mk KX G ?a10 ?l10 ?c10 ?k10 Fr.bd_fields_above; ?_
      (case a10 => k_is)
      (case l10 => k_is)
      (case c10 => k_is)
      (case k10 => k_is)
      refine' have t_written := Fr.df_mk KX G ?a11 ?l11 ?c11 ?k11 Fr.bd_written; ?_
      (case a11 => k_is)
      (case l11 => k_is)
      (case c11 => k_is)
      (case k11 => k_is)
      refine' have t_lands := Fr.df_mk KX G ?a12 ?l12 ?c12 ?k12 Fr.bd_lands; ?_
      (case a12 => k_is)
      (case l12 => k_is)
      (case c12 => k_is)
      (case k12 => k_is)
      refine' have t_has_above := Fr.df_mk KX G ?a13 ?l13 ?c13 ?k13 Fr.bd_has_above; ?_
      (case a13 => k_is)
      (case l13 => k_is)
      (case c13 => k_is)
      (case k13 => k_is)
      refine' have t_both_stay := Fr.df_mk KX G ?a14 ?l14 ?c14 ?k14 Fr.bd_both_stay; ?_
      (case a14 => k_is)
      (case l14 => k_is)
      (case c14 => k_is)
      (case k14 => k_is)
      refine' have t_never_ends := Fr.df_mk KX G ?a15 ?l15 ?c15 ?k15 Fr.bd_never_ends; ?_
      (case a15 => k_is)
      (case l15 => k_is)
      (case c15 => k_is)
      (case k15 => k_is)
      refine' have t_check_shape := Fr.df_mk KX G ?a16 ?l16 ?c16 ?k16 Fr.bd_check_shape; ?_
      (case a16 => k_is)
      (case l16 => k_is)
      (case c16 => k_is)
      (case k16 => k_is)
      refine' have t_law_tape := Fr.df_mk KX G ?a17 ?l17 ?c17 ?k17 Fr.bd_law_tape; ?_
      (case a17 => k_is)
      (case l17 => k_is)
      (case c17 => k_is)
      (case k17 => k_is)
      refine' have t_law_take := Fr.df_mk KX G ?a18 ?l18 ?c18 ?k18 Fr.bd_law_take; ?_
      (case a18 => k_is)
      (case l18 => k_is)
      (case c18 => k_is)
      (case k18 => k_is)
      refine' have t_law_value := Fr.df_mk KX G ?a19 ?l19 ?c19 ?k19 Fr.bd_law_value; ?_
      (case a19 => k_is)
      (case l19 => k_is)
      (case c19 => k_is)
      (case k19 => k_is)
      refine' have t_law_record := Fr.df_mk KX G ?a20 ?l20 ?c20 ?k20 Fr.bd_law_record; ?_
      (case a20 => k_is)
      (case l20 => k_is)
      (case c20 => k_is)
      (case k20 => k_is)
      refine' have t_law_turns := Fr.df_mk KX G ?a21 ?l21 ?c21 ?k21 Fr.bd_law_turns; ?_
      (case a21 => k_is)
      (case l21 => k_is)
      (case c21 => k_is)
      (case k21 => k_is)
      refine' have t_law_parents := Fr.df_mk KX G ?a22 ?l22 ?c22 ?k22 Fr.bd_law_parents; ?_
      (case a22 => k_is)
      (case l22 => k_is)
      (case c22 => k_is)
      (case k22 => k_is)
      refine' have t_law_kinds := Fr.df_mk KX G ?a23 ?l23 ?c23 ?k23 Fr.bd_law_kinds; ?_
      (case a23 => k_is)
      (case l23 => k_is)
      (case c23 => k_is)
      (case k23 => k_is)
      refine' have t_law_path := Fr.df_mk KX G ?a24 ?l24 ?c24 ?k24 Fr.bd_law_path; ?_
      (case a24 => k_is)
      (case l24 => k_is)
      (case c24 => k_is)
      (case k24 => k_is)
      refine' have t_law_side := Fr.df_mk KX G ?a25 ?l25 ?c25 ?k25 Fr.bd_law_side; ?_
      (case a25 => k_is)
      (case l25 => k_is)
      (case c25 => k_is)
      (case k25 => k_is)
      refine' have t_law_merge := Fr.df_mk KX G ?a26 ?l26 ?c26 ?k26 Fr.bd_law_merge; ?_
      (case a26 => k_is)
      (case l26 => k_is)
      (case c26 => k_is)
      (case k26 => k_is)
      refine' have t_law_is_integer := Fr.df_mk KX G ?a27 ?l27 ?c27 ?k27 Fr.bd_law_is_integer; ?_
      (case a27 => k_is)
      (case l27 => k_is)
      (case c27 => k_is)
      (case k27 => k_is)
      refine' have t_law_is_record := Fr.df_mk KX G ?a28 ?l28 ?c28 ?k28 Fr.bd_law_is_record; ?_
      (case a28 => k_is)
      (case l28 => k_is)
      (case c28 => k_is)
      (case k28 => k_is)
      refine' have t_law_size := Fr.df_mk KX G ?a29 ?l29 ?c29 ?k29 Fr.bd_law_size; ?_
      (case a29 => k_is)
      (case l29 => k_is)
      (case c29 => k_is)
      (case k29 => k_is)
      refine' have t_law_raised := Fr.df_mk KX G ?a30 ?l30 ?c30 ?k30 Fr.bd_law_raised; ?_
      (case a30 => k_is)
      (case l30 => k_is)
      (case c30 => k_is)
      (case k30 => k_is)
      refine' have t_law_no_field := Fr.df_mk KX G ?a31 ?l31 ?c31 ?k31 Fr.bd_law_no_field; ?_
      (case a31 => k_is)
      (case l31 => k_is)
      (case c31 => k_is)
      (case k31 => k_is)
      refine' have t_law_level := Fr.df_mk KX G ?a32 ?l32 ?c32 ?k32 Fr.bd_law_level; ?_
      (case a32 => k_is)
      (case l32 => k_is)
      (case c32 => k_is)
      (case k32 => k_is)
      refine' have t_law_unfair := Fr.df_mk KX G ?a33 ?l33 ?c33 ?k33 Fr.bd_law_unfair; ?_
      (case a33 => k_is)
      (case l33 => k_is)
      (case c33 => k_is)
      (case k33 => k_is)
      refine' have t_law_stays := Fr.df_mk KX G ?a34 ?l34 ?c34 ?k34 Fr.bd_law_stays; ?_
      (case a34 => k_is)
      (case l34 => k_is)
      (case c34 => k_is)
      (case k34 => k_is)
      refine' have t_law_new := Fr.df_mk KX G ?a35 ?l35 ?c35 ?k35 Fr.bd_law_new; ?_
      (case a35 => k_is)
      (case l35 => k_is)
      (case c35 => k_is)
      (case k35 => k_is)
      refine' have t_law_lists := Fr.df_mk KX G ?a36 ?l36 ?c36 ?k36 Fr.bd_law_lists; ?_
      (case a36 => k_is)
      (case l36 => k_is)
      (case c36 => k_is)
      (case k36 => k_is)
      refine' have t_law_spoilt := Fr.df_mk KX G ?a37 ?l37 ?c37 ?k37 Fr.bd_law_spoilt; ?_
      (case a37 => k_is)
      (case l37 => k_is)
      (case c37 => k_is)
      (case k37 => k_is)
      refine' have t_law_changes := Fr.df_mk KX G ?a38 ?l38 ?c38 ?k38 Fr.bd_law_changes; ?_
      (case a38 => k_is)
      (case l38 => k_is)
      (case c38 => k_is)
      (case k38 => k_is)
      refine' have t_law_question := Fr.df_mk KX G ?a39 ?l39 ?c39 ?k39 Fr.bd_law_question; ?_
      (case a39 => k_is)
      (case l39 => k_is)
      (case c39 => k_is)
      (case k39 => k_is)
      refine' have t_law_refusal := Fr.df_mk KX G ?a40 ?l40 ?c40 ?k40 Fr.bd_law_refusal; ?_
      (case a40 => k_is)
      (case l40 => k_is)
      (case c40 => k_is)
      (case k40 => k_is)
      refine' have t_law_ask := Fr.df_mk KX G ?a41 ?l41 ?c41 ?k41 Fr.bd_law_ask; ?_
      (case a41 => k_is)
      (case l41 => k_is)
      (case c41 => k_is)
      (case k41 => k_is)
      refine' have t_law_is_refusal := Fr.df_mk KX G ?a42 ?l42 ?c42 ?k42 Fr.bd_law_is_refusal; ?_
      (case a42 => k_is)
      (case l42 => k_is)
      (case c42 => k_is)
      (case k42 => k_is)
      refine' have t_law_apart := Fr.df_mk KX G ?a43 ?l43 ?c43 ?k43 Fr.bd_law_apart; ?_
      (case a43 => k_is)
      (case l43 => k_is)
      (case c43 => k_is)
      (case k43 => k_is)
      refine' have t_law_holds := Fr.df_mk KX G ?a44 ?l44 ?c44 ?k44 Fr.bd_law_holds; ?_
      (case a44 => k_is)
      (case l44 => k_is)
      (case c44 => k_is)
      (case k44 => k_is)
      refine' have t_law_written := Fr.df_mk KX G ?a45 ?l45 ?c45 ?k45 Fr.bd_law_written; ?_
      (case a45 => k_is)
      (case l45 => k_is)
      (case c45 => k_is)
      (case k45 => k_is)
      refine' have t_law_both := Fr.df_mk KX G ?a46 ?l46 ?c46 ?k46 Fr.bd_law_both; ?_
      (case a46 => k_is)
      (case l46 => k_is)
      (case c46 => k_is)
      (case k46 => k_is)
      refine' have t_law := Fr.df_mk KX G ?a47 ?l47 ?c47 ?k47 Fr.bd_law; ?_
      (case a47 => k_is)
      (case l47 => k_is)
      (case c47 => k_is)
      (case k47 => k_is)
      refine' have z_len := PySem.W.mg_none_of (n := "len") KX G ?zlen; ?_
      (case zlen => k_is)
      refine' have z_any := PySem.W.mg_none_of (n := "any") KX G ?zany; ?_
      (case zany => k_is)
      refine' have z_sorted := PySem.W.mg_none_of (n := "sorted") KX G ?zsorted; ?_
      (case zsorted => k_is)
      refine' have z_abs := PySem.W.mg_none_of (n := "abs") KX G ?zabs; ?_
      (case zabs => k_is)
      refine' have z_isinstance := PySem.W.mg_none_of (n := "isinstance") KX G ?zisinstance; ?_
      (case zisinstance => k_is)
      refine' have z_int := PySem.W.mg_none_of (n := "int") KX G ?zint; ?_
      (case zint => k_is)
      refine' have z_tuple := PySem.W.mg_none_of (n := "tuple") KX G ?ztuple; ?_
      (case ztuple => k_is)
      refine' have z_list := PySem.W.mg_none_of (n := "list") KX G ?zlist; ?_
      (case zlist => k_is)
      refine' have z_dict := PySem.W.mg_none_of (n := "dict") KX G ?zdict; ?_
      (case zdict => k_is)
      refine' have z_range := PySem.W.mg_none_of (n := "range") KX G ?zrange; ?_
      (case zrange => k_is)
      refine' have z_bool := PySem.W.mg_none_of (n := "bool") KX G ?zbool; ?_
      (case zbool => k_is)
      refine' have z_ValueError := PySem.W.mg_none_of (n := "ValueError") KX G ?zValueError; ?_
      (case zValueError => k_is)
      refine' have tm := PySem.W.mg_of (n := "MOST_FIELDS") KX G ?tm; ?_
      (case tm => k_is)
      refine' have fc := Fr.fo_mk KX G ?foaC ?fopg ?fohd ?fopo ?fosa ?fonF ?fonP ?fonK ?fomk ?foi1 ?fof1 ?fokC ?fol1 ?foc1 ?fok1 ?foi2 ?fof2 ?fog2 ?fol2 ?foc2 ?fok2; ?_
      (case foaC => k_is)
      (case fopg => k_is)
      (case fohd => k_is)
      (case fopo => k_is)
      (case fosa => k_is)
      (case fonF => k_is)
      (case fonP => k_is)
      (case fonK => k_is)
      (case fomk => k_is)
      (case foi1 => k_is)
      (case fof1 => k_is)
      (case fokC => k_is)
      (case fol1 => k_is)
      (case foc1 => k_is)
      (case fok1 => k_is)
      (case foi2 => k_is)
      (case fof2 => k_is)
      (case fog2 => k_is)
      (case fol2 => k_is)
      (case foc2 => k_is)
      (case fok2 => k_is)
      refine' have erN := Fr.er_mk (P := PySem.Challenge.pw_fieldrides_k57_whole_two_writes) (x := "NotFair") (n := "field") (qual := "NotFair.__init__") KX G ?aCN ?aSN ?xLN ?saN ?gaN ?ggN ?nNN ?kCN ?eCN ?vCN ?tCN ?hCN ?mCN ?thN ?suN ?i1N ?t1N ?l1N ?c1N ?l2N ?l3N ?hvN ?hfN (by decide +kernel) (by decide) rfl (by decide) (by decide) (by decide) rfl rfl rfl ?hbN ?htN; ?_
      (case aCN => k_is)
      (case aSN => k_is)
      (case xLN => k_is)
      (case saN => k_is)
      (case gaN => k_is)
      (case ggN => k_is)
      (case nNN => k_is)
      (case kCN => k_is)
      (case eCN => k_is)
      (case vCN => k_is)
      (case tCN => k_is)
      (case hCN => k_is)
      (case mCN => k_is)
      (case thN => k_is)
      (case suN => ks_is)
      (case i1N => k_is)
      (case t1N => k_is)
      (case l1N => k_is)
      (case c1N => k_is)
      (case l2N => k_is)
      (case l3N => k_is)
      (case hvN => rfl)
      (case hfN => rfl)
      (case hbN => exact fun a b => rfl)
      (case htN => exact fun L => rfl)
      refine' have erO := Fr.er_mk (P := PySem.Challenge.pw_fieldrides_k57_whole_two_writes) (x := "Overlap") (n := "field") (qual := "Overlap.__init__") KX G ?aCO ?aSO ?xLO ?saO ?gaO ?ggO ?nNO ?kCO ?eCO ?vCO ?tCO ?hCO ?mCO ?thO ?suO ?i1O ?t1O ?l1O ?c1O ?l2O ?l3O ?hvO ?hfO (by decide +kernel) (by decide) rfl (by decide) (by decide) (by decide) rfl rfl rfl ?hbO ?htO; ?_
      (case aCO => k_is)
      (case aSO => k_is)
      (case xLO => k_is)
      (case saO => k_is)
      (case gaO => k_is)
      (case ggO => k_is)
      (case nNO => k_is)
      (case kCO => k_is)
      (case eCO => k_is)
      (case vCO => k_is)
      (case tCO => k_is)
      (case hCO => k_is)
      (case mCO => k_is)
      (case thO => k_is)
      (case suO => ks_is)
      (case i1O => k_is)
      (case t1O => k_is)
      (case l1O => k_is)
      (case c1O => k_is)
      (case l2O => k_is)
      (case l3O => k_is)
      (case hvO => rfl)
      (case hfO => rfl)
      (case hbO => exact fun a b => rfl)
      (case htO => exact fun L => rfl)
      refine' have erB := Fr.er_mk (P := PySem.Challenge.pw_fieldrides_k57_whole_two_writes) (x := "BadPlace") (n := "place") (qual := "BadPlace.__init__") KX G ?aCB ?aSB ?xLB ?saB ?gaB ?ggB ?nNB ?kCB ?eCB ?vCB ?tCB ?hCB ?mCB ?thB ?suB ?i1B ?t1B ?l1B ?c1B ?l2B ?l3B ?hvB ?hfB (by decide +kernel) (by decide) rfl (by decide) (by decide) (by decide) rfl rfl rfl ?hbB ?htB; ?_
      (case aCB => k_is)
      (case aSB => k_is)
      (case xLB => k_is)
      (case saB => k_is)
      (case gaB => k_is)
      (case ggB => k_is)
      (case nNB => k_is)
      (case kCB => k_is)
      (case eCB => k_is)
      (case vCB => k_is)
      (case tCB => k_is)
      (case hCB => k_is)
      (case mCB => k_is)
      (case thB => k_is)
      (case suB => ks_is)
      (case i1B => k_is)
      (case t1B => k_is)
      (case l1B => k_is)
      (case c1B => k_is)
      (case l2B => k_is)
      (case l3B => k_is)
      (case hvB => rfl)
      (case hfB => rfl)
      (case hbB => exact fun a b => rfl)
      (case htB => exact fun L => rfl)
      refine' have n_NotFair := PySem.W.mg_of (n := "NotFair") KX G ?nNotFair; ?_
      (case nNotFair => k_is)
      refine' have n_Overlap := PySem.W.mg_of (n := "Overlap") KX G ?nOverlap; ?_
      (case nOverlap => k_is)
      refine' have n_BadPlace := PySem.W.mg_of (n := "BadPlace") KX G ?nBadPlace; ?_
      (case nBadPlace => k_is)
      refine' have n_Marked := PySem.W.mg_of (n := "Marked") KX G ?nMarked; ?_
      (case nMarked => k_is)
      refine' have n_BadForest := PySem.W.mg_of (n := "BadForest") KX G ?nBadForest; ?_
      (case nBadForest => k_is)
      refine' have n_BadAnswer := PySem.W.mg_of (n := "BadAnswer") KX G ?nBadAnswer; ?_
      (case nBadAnswer => k_is)
      refine' have n_BadLetter := PySem.W.mg_of (n := "BadLetter") KX G ?nBadLetter; ?_
      (case nBadLetter => k_is)
      refine' have n_BadRecord := PySem.W.mg_of (n := "BadRecord") KX G ?nBadRecord; ?_
      (case nBadRecord => k_is)
      refine' have n_BadTree := PySem.W.mg_of (n := "BadTree") KX G ?nBadTree; ?_
      (case nBadTree => k_is)
      refine' have n_CannotLand := PySem.W.mg_of (n := "CannotLand") KX G ?nCannotLand; ?_
      (case nCannotLand => k_is)
      refine' have n_FieldsDiffer := PySem.W.mg_of (n := "FieldsDiffer") KX G ?nFieldsDiffer; ?_
      (case nFieldsDiffer => k_is)
      refine' have n_HangsOn := PySem.W.mg_of (n := "HangsOn") KX G ?nHangsOn; ?_
      (case nHangsOn => k_is)
      refine' have n_FieldridesError := PySem.W.mg_of (n := "FieldridesError") KX G ?nFieldridesError; ?_
      (case nFieldridesError => k_is)
      refine' have ces : Fr.Ces mg _ _ _ _ _ _ _ _ _ _ _ _ _ := ⟨n_NotFair, n_Overlap, n_BadPlace, n_Marked, n_BadForest, n_BadAnswer, n_BadLetter, n_BadRecord, n_BadTree, n_CannotLand, n_FieldsDiffer, n_HangsOn, n_FieldridesError⟩; ?_
      refine' have cdN := Fr.cdf_mk KX ces n_NotFair ?g1cN ?g2cN ?g3cN ?g4cN ?g5cN ?g6cN ?g7cN ?g8cN ?e1cN ?e2cN ?e3cN ?e4cN ?e5cN ?e6cN ?e7cN ?x1cN ?x2cN ?x3cN ?x4cN; ?_
      (case g1cN => k_is)
      (case g2cN => k_is)
      (case g3cN => k_is)
      (case g4cN => k_is)
      (case g5cN => k_is)
      (case g6cN => k_is)
      (case g7cN => k_is)
      (case g8cN => k_is)
      (case e1cN => kit_is)
      (case e2cN => kit_is)
      (case e3cN => kit_is)
      (case e4cN => kit_is)
      (case e5cN => kit_is)
      (case e6cN => kit_is)
      (case e7cN => kit_is)
      (case x1cN => k_is)
      (case x2cN => k_is)
      (case x3cN => k_is)
      (case x4cN => k_is)
      refine' have cdO := Fr.cdf_mk KX ces n_Overlap ?g1cO ?g2cO ?g3cO ?g4cO ?g5cO ?g6cO ?g7cO ?g8cO ?e1cO ?e2cO ?e3cO ?e4cO ?e5cO ?e6cO ?e7cO ?x1cO ?x2cO ?x3cO ?x4cO; ?_
      (case g1cO => k_is)
      (case g2cO => k_is)
      (case g3cO => k_is)
      (case g4cO => k_is)
      (case g5cO => k_is)
      (case g6cO => k_is)
      (case g7cO => k_is)
      (case g8cO => k_is)
      (case e1cO => kit_is)
      (case e2cO => kit_is)
      (case e3cO => kit_is)
      (case e4cO => kit_is)
      (case e5cO => kit_is)
      (case e6cO => kit_is)
      (case e7cO => kit_is)
      (case x1cO => k_is)
      (case x2cO => k_is)
      (case x3cO => k_is)
      (case x4cO => k_is)
      refine' have cdB := Fr.cdf_mk KX ces n_BadPlace ?g1cB ?g2cB ?g3cB ?g4cB ?g5cB ?g6cB ?g7cB ?g8cB ?e1cB ?e2cB ?e3cB ?e4cB ?e5cB ?e6cB ?e7cB ?x1cB ?x2cB ?x3cB ?x4cB; ?_
      (case g1cB => k_is)
      (case g2cB => k_is)
      (case g3cB => k_is)
      (case g4cB => k_is)
      (case g5cB => k_is)
      (case g6cB => k_is)
      (case g7cB => k_is)
      (case g8cB => k_is)
      (case e1cB => kit_is)
      (case e2cB => kit_is)
      (case e3cB => kit_is)
      (case e4cB => kit_is)
      (case e5cB => kit_is)
      (case e6cB => kit_is)
      (case e7cB => kit_is)
      (case x1cB => k_is)
      (case x2cB => k_is)
      (case x3cB => k_is)
      (case x4cB => k_is)
      exact Fr.fin hmg ⟨⟨z_len, z_any, z_sorted, z_abs, z_isinstance, z_int, z_tuple, z_list, z_dict, z_range, z_bool, z_ValueError⟩, t_better, t_path_of, t_first_unlike_on, t_merged_record, t_check_record, t_check_place, t_check_places, t_check_fair, t_check_write, t_with_values, t_fields_above, t_written, t_lands, t_has_above, t_both_stay, t_never_ends, t_check_shape, t_law_tape, t_law_take, t_law_value, t_law_record, t_law_turns, t_law_parents, t_law_kinds, t_law_path, t_law_side, t_law_merge, t_law_is_integer, t_law_is_record, t_law_size, t_law_raised, t_law_no_field, t_law_level, t_law_unfair, t_law_stays, t_law_new, t_law_lists, t_law_spoilt, t_law_changes, t_law_question, t_law_refusal, t_law_ask, t_law_is_refusal, t_law_apart, t_law_holds, t_law_written, t_law_both, t_law⟩ fc ⟨erN, erO, erB⟩ ces cdN cdO cdB tm)
