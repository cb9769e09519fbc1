import PyProof.Rows.All
import Wide.All
import OpenK.AllK
import Wide.FinOn
import PyProof.TupleCall
import KE.KNest
import KE.GoesMore
import KE.GoesEnum
import KE.KDictDisplayH
import HandS.ForMost
import HandS.Conv
import HandS.Deep
import HandS.Star
import HandS.Style
import HandS.TupMul
import HandS.TupAny
import HandS.DictComp
import HandS.Lambda
import HandS.AnyAll
import HandS.EndTab
import HandS.IsInst
import HandS.TupLen
import HandS.Flow
import PySem.Challenge.RW_bellcopies_k56_across_beats
import HandS.More
import HandS.Nested
import HandS.EndOwn
section
set_option Elab.async false
/-! The mathematics of law k56: beats, logs, reach; no program in sight. -/
namespace K56

/-! ### lists -/
theorem ph1 {α : Type} [DecidableEq α] : ∀ (l m : List α), l.Nodup → (∀ x ∈ l, x ∈ m) → l.length ≤ m.length
  | [], _, _, _ => Nat.zero_le _
  | a :: l, m, hn, hs => by
    have ha : a ∈ m := hs a List.mem_cons_self
    have hn' := List.nodup_cons.mp hn
    have h := ph1 l (m.erase a) hn'.2 fun x hx => by
      have hne : x ≠ a := fun e => hn'.1 (e ▸ hx)
      exact (List.mem_erase_of_ne hne).mpr (hs x (List.mem_cons_of_mem _ hx))
    rw [List.length_erase_of_mem ha] at h
    have hp : 0 < m.length := List.length_pos_of_mem ha
    simp only [List.length_cons]
    omega
theorem ph2 {α : Type} [DecidableEq α] (l m : List α) (hn : l.Nodup) (hs : ∀ x ∈ l, x ∈ m) (hl : m.length ≤ l.length) : ∀ x ∈ m, x ∈ l := fun x hx => by
  refine Classical.byContradiction fun hx' => ?_
  have h := ph1 (x :: l) m (List.nodup_cons.mpr ⟨hx', hn⟩) fun y hy => by
    rcases List.mem_cons.mp hy with e | hy
    · rw [e]; exact hx
    · exact hs y hy
  simp only [List.length_cons] at h
  omega
/-- the numbers 1 .. n -/
def ppl (n : Nat) : List Int := (List.range n).map fun (k : Nat) => (k : Int) + 1
theorem ppl_len (n : Nat) : (ppl n).length = n := by simp [ppl]
theorem ppl_mem {n : Nat} {x : Int} : x ∈ ppl n ↔ 1 ≤ x ∧ x ≤ n := by
  unfold ppl
  rw [List.mem_map]
  constructor
  · rintro ⟨k, hk, rfl⟩
    have := List.mem_range.mp hk
    omega
  · rintro ⟨h1, h2⟩
    exact ⟨(x - 1).toNat, List.mem_range.mpr (by omega), by omega⟩
theorem ppl_get {n k : Nat} (h : k < n) : (ppl n)[k]? = some ((k : Int) + 1) := by
  unfold ppl
  rw [List.getElem?_map, List.getElem?_range h]
  rfl
theorem ppl_getD {n k : Nat} (h : k < n) : (ppl n).getD k 0 = (k : Int) + 1 := by
  rw [List.getD_eq_getElem?_getD, ppl_get h]
  rfl
theorem ppl_nodup (n : Nat) : (ppl n).Nodup := by
  unfold ppl
  refine List.Pairwise.map _ ?_ List.nodup_range
  intro a b h e
  exact h (by omega)
/-- two lists of one length that agree at each place -/
theorem ext_getD {l m : List Int} (hl : l.length = m.length) (h : ∀ k, k < l.length → l.getD k 0 = m.getD k 0) : l = m := by
  refine List.ext_getElem hl fun k h1 h2 => ?_
  have e := h k h1
  rw [List.getD_eq_getElem?_getD, List.getD_eq_getElem?_getD, List.getElem?_eq_getElem h1, List.getElem?_eq_getElem h2] at e
  exact e
theorem getD_some {l : List Int} {k : Nat} {x : Int} (h : l[k]? = some x) : l.getD k 0 = x := by
  rw [List.getD_eq_getElem?_getD, h]
  rfl
theorem get_getD {l : List Int} {k : Nat} (h : k < l.length) : l[k]? = some (l.getD k 0) := by
  rw [List.getD_eq_getElem?_getD, List.getElem?_eq_getElem h]
  rfl
theorem getD_mem {l : List Int} {k : Nat} (h : k < l.length) : l.getD k 0 ∈ l := List.mem_of_getElem? (get_getD h)

/-! ### webs -/
abbrev Arcs := List (Int × Int)
structure WebOk (n : Nat) (arcs : Arcs) : Prop where
  pos : 1 ≤ n
  le : n ≤ 4
  few : arcs.length ≤ 12
  nd : arcs.Nodup
  ok : ∀ p ∈ arcs, (1 ≤ p.1 ∧ p.1 ≤ n) ∧ (1 ≤ p.2 ∧ p.2 ≤ n) ∧ p.1 ≠ p.2
structure RowOk (n : Nat) (r : List Int) : Prop where
  len : r.length = n
  ok : ∀ x ∈ r, 1 ≤ x ∧ x ≤ n
theorem ppl_ok (n : Nat) : RowOk n (ppl n) := ⟨ppl_len n, fun _ h => ppl_mem.mp h⟩

/-- one arc used -/
def tk (r : List Int) (s g : Int) : List Int := r.set (g - 1).toNat (r.getD (s - 1).toNat 0)
def tkA (arcs : Arcs) (r : List Int) (i : Nat) : List Int := match arcs[i]? with
  | some p => tk r p.1 p.2
  | none => r
def runL (arcs : Arcs) (r : List Int) (l : List Nat) : List Int := l.foldl (tkA arcs) r
theorem tk_len (r : List Int) (s g : Int) : (tk r s g).length = r.length := by simp [tk]
theorem tkA_len (arcs : Arcs) (r : List Int) (i : Nat) : (tkA arcs r i).length = r.length := by
  unfold tkA
  split
  · exact tk_len _ _ _
  · rfl
theorem runL_len (arcs : Arcs) : ∀ (l : List Nat) (r : List Int), (runL arcs r l).length = r.length
  | [], _ => rfl
  | i :: l, r => (runL_len arcs l (tkA arcs r i)).trans (tkA_len arcs r i)
theorem runL_snoc (arcs : Arcs) (r : List Int) (l : List Nat) (i : Nat) : runL arcs r (l ++ [i]) = tkA arcs (runL arcs r l) i := by
  unfold runL
  rw [List.foldl_append]
  rfl
theorem tkA_ok {n : Nat} {arcs : Arcs} {r : List Int} (W : WebOk n arcs) (R : RowOk n r) (i : Nat) : RowOk n (tkA arcs r i) := by
  refine ⟨(tkA_len _ _ _).trans R.len, ?_⟩
  unfold tkA
  split
  · rename_i p hp
    intro x hx
    unfold tk at hx
    rcases List.mem_or_eq_of_mem_set hx with h | h
    · exact R.ok x h
    · have q := (W.ok p (List.mem_of_getElem? hp)).1
      rw [h]
      refine R.ok _ (getD_mem ?_)
      rw [R.len]
      omega
  · exact R.ok
theorem runL_ok {n : Nat} {arcs : Arcs} (W : WebOk n arcs) : ∀ (l : List Nat) {r : List Int}, RowOk n r → RowOk n (runL arcs r l)
  | [], _, R => R
  | i :: l, _, R => runL_ok W l (tkA_ok W R i)

/-- one beat -/
def Beat (n : Nat) (arcs : Arcs) (r r' : List Int) : Prop :=
  r'.length = n ∧ ∀ k : Nat, k < n → r'.getD k 0 = r.getD k 0 ∨ ∃ s, (s, (k : Int) + 1) ∈ arcs ∧ r'.getD k 0 = r.getD (s - 1).toNat 0
theorem Beat.refl {n : Nat} {arcs : Arcs} {r : List Int} (h : r.length = n) : Beat n arcs r r := ⟨h, fun _ _ => .inl rfl⟩
theorem Beat.ok {n : Nat} {arcs : Arcs} {r r' : List Int} (W : WebOk n arcs) (R : RowOk n r) (b : Beat n arcs r r') : RowOk n r' := by
  refine ⟨b.1, fun x hx => ?_⟩
  obtain ⟨k, hk, e⟩ := List.getElem_of_mem hx
  rw [b.1] at hk
  have e' : r'.getD k 0 = x := getD_some (by rw [List.getElem?_eq_getElem (by rw [b.1]; exact hk), e])
  rcases b.2 k hk with h | ⟨s, hs, h⟩
  · rw [← e', h]
    exact R.ok _ (getD_mem (by rw [R.len]; exact hk))
  · rw [← e', h]
    have q := (W.ok _ hs).1
    exact R.ok _ (getD_mem (by rw [R.len]; dsimp only at q; omega))
theorem tk_beat {n : Nat} {arcs : Arcs} {r : List Int} {s g : Int} (h : r.length = n) (hm : (s, g) ∈ arcs) (hg : 1 ≤ g) : Beat n arcs r (tk r s g) := by
  refine ⟨(tk_len _ _ _).trans h, fun k hk => ?_⟩
  by_cases e : (g - 1).toNat = k
  · refine .inr ⟨s, ?_, ?_⟩
    · have : (k : Int) + 1 = g := by omega
      rw [this]; exact hm
    · unfold tk
      rw [e]
      refine getD_some ?_
      rw [List.getElem?_set_self (by rw [h]; exact hk)]
  · refine .inl ?_
    unfold tk
    rw [List.getD_eq_getElem?_getD, List.getElem?_set_ne e, ← List.getD_eq_getElem?_getD]
/-- rows that k beats reach -/
def BK (n : Nat) (arcs : Arcs) : Nat → List Int → Prop
  | 0, r => r = ppl n
  | k + 1, r => ∃ r0, BK n arcs k r0 ∧ Beat n arcs r0 r
theorem BK.len {n : Nat} {arcs : Arcs} : ∀ {k : Nat} {r : List Int}, BK n arcs k r → r.length = n
  | 0, _, h => by rw [show _ = ppl n from h]; exact ppl_len n
  | _ + 1, _, ⟨_, _, b⟩ => b.1
theorem BK.ok {n : Nat} {arcs : Arcs} (W : WebOk n arcs) : ∀ {k : Nat} {r : List Int}, BK n arcs k r → RowOk n r
  | 0, _, h => by rw [show _ = ppl n from h]; exact ppl_ok n
  | _ + 1, _, ⟨_, b0, b⟩ => b.ok W (BK.ok W b0)
theorem BK.up {n : Nat} {arcs : Arcs} {k : Nat} {r : List Int} (h : BK n arcs k r) : BK n arcs (k + 1) r := ⟨r, h, .refl h.len⟩
theorem bk_from {n : Nat} {arcs : Arcs} (W : WebOk n arcs) : ∀ (l : List Nat) (k : Nat) (r : List Int), BK n arcs k r → BK n arcs (k + l.length) (runL arcs r l)
  | [], _, _, h => h
  | i :: l, k, r, h => by
    have h1 : BK n arcs (k + 1) (tkA arcs r i) := by
      unfold tkA
      split
      · rename_i p hp
        have hm := List.mem_of_getElem? hp
        exact ⟨_, h, tk_beat h.len hm (W.ok p hm).2.1.1⟩
      · exact h.up
    have q := bk_from W l (k + 1) _ h1
    have e : k + (i :: l).length = k + 1 + l.length := by
      rw [List.length_cons]
      omega
    rw [e]
    exact q
theorem bk_log {n : Nat} {arcs : Arcs} (W : WebOk n arcs) (l : List Nat) : BK n arcs l.length (runL arcs (ppl n) l) := by
  have q := bk_from W l 0 (ppl n) rfl
  rw [Nat.zero_add] at q
  exact q

/-- whom p's sign reaches in k beats -/
def RK (arcs : Arcs) (p : Int) : Nat → Int → Prop
  | 0, x => x = p
  | k + 1, x => RK arcs p k x ∨ ∃ s, RK arcs p k s ∧ (s, x) ∈ arcs
theorem RK.mono {arcs : Arcs} {p x : Int} {j : Nat} (h : RK arcs p j x) : ∀ k, j ≤ k → RK arcs p k x := by
  intro k
  induction k with
  | zero =>
    intro hk
    have : j = 0 := by omega
    subst this
    exact h
  | succ k ih =>
    intro hk
    rcases Nat.lt_or_ge j (k + 1) with q | q
    · exact .inl (ih (by omega))
    · have : j = k + 1 := by omega
      subst this
      exact h
theorem RK.ok {n : Nat} {arcs : Arcs} {p : Int} (W : WebOk n arcs) (hp : 1 ≤ p ∧ p ≤ n) : ∀ {k : Nat} {x : Int}, RK arcs p k x → 1 ≤ x ∧ x ≤ n
  | 0, _, h => by rw [show _ = p from h]; exact hp
  | _ + 1, _, .inl h => RK.ok W hp h
  | _ + 1, _, .inr ⟨_, _, h⟩ => (W.ok _ h).2.1
def AllK (n : Nat) (arcs : Arcs) (p : Int) (k : Nat) : Prop := ∀ x : Int, 1 ≤ x → x ≤ n → RK arcs p k x
/-- p can win -/
def Wins (n : Nat) (arcs : Arcs) (p : Int) : Prop := ∀ x : Int, 1 ≤ x → x ≤ n → ∃ k, RK arcs p k x
theorem wins_all {n : Nat} {arcs : Arcs} {p : Int} (h : Wins n arcs p) : ∃ k, AllK n arcs p k := by
  have key : ∀ m : Nat, m ≤ n → ∃ k, ∀ x : Int, 1 ≤ x → x ≤ m → RK arcs p k x := by
    intro m
    induction m with
    | zero => exact fun _ => ⟨0, fun x h1 h2 => absurd (Int.le_trans h1 h2) (by decide)⟩
    | succ m ih =>
      intro hm
      obtain ⟨k, hk⟩ := ih (by omega)
      obtain ⟨j, hj⟩ := h ((m : Int) + 1) (by omega) (by omega)
      refine ⟨max k j, fun x h1 h2 => ?_⟩
      by_cases e : x ≤ m
      · exact (hk x h1 e).mono _ (Nat.le_max_left _ _)
      · have : x = (m : Int) + 1 := by omega
        rw [this]
        exact hj.mono _ (Nat.le_max_right _ _)
  exact key n (Nat.le_refl _)
theorem all_wins {n : Nat} {arcs : Arcs} {p : Int} {k : Nat} (h : AllK n arcs p k) : Wins n arcs p := fun x h1 h2 => ⟨k, h x h1 h2⟩
theorem bk_rk {n : Nat} {arcs : Arcs} (W : WebOk n arcs) : ∀ {k : Nat} {r : List Int}, BK n arcs k r → ∀ i, i < n → RK arcs (r.getD i 0) k ((i : Int) + 1)
  | 0, r, h, i, hi => by
    rw [show r = ppl n from h, ppl_getD hi]
    rfl
  | k + 1, r, ⟨r0, b0, b⟩, i, hi => by
    rcases b.2 i hi with e | ⟨s, hs, e⟩
    · rw [e]
      exact .inl (bk_rk W b0 i hi)
    · rw [e]
      have q := (W.ok _ hs).1
      have hq : (s - 1).toNat < n := by dsimp only at q; omega
      have z := bk_rk W b0 (s - 1).toNat hq
      have es : (((s - 1).toNat : Nat) : Int) + 1 = s := by dsimp only at q; omega
      rw [es] at z
      exact .inr ⟨s, z, hs⟩
open Classical in
noncomputable def rowK (n : Nat) (arcs : Arcs) (p : Int) (k : Nat) : List Int := (ppl n).map fun x => if RK arcs p k x then p else x
theorem rowK_len (n : Nat) (arcs : Arcs) (p : Int) (k : Nat) : (rowK n arcs p k).length = n := by simp [rowK, ppl_len]
theorem rowK_in {n : Nat} {arcs : Arcs} {p : Int} {k i : Nat} (hi : i < n) (h : RK arcs p k ((i : Int) + 1)) : (rowK n arcs p k).getD i 0 = p := by
  refine getD_some ?_
  unfold rowK
  rw [List.getElem?_map, ppl_get hi]
  simp [h]
theorem rowK_out {n : Nat} {arcs : Arcs} {p : Int} {k i : Nat} (hi : i < n) (h : ¬ RK arcs p k ((i : Int) + 1)) : (rowK n arcs p k).getD i 0 = (i : Int) + 1 := by
  refine getD_some ?_
  unfold rowK
  rw [List.getElem?_map, ppl_get hi]
  simp [h]
theorem rowK_bk {n : Nat} {arcs : Arcs} {p : Int} (W : WebOk n arcs) (hp : 1 ≤ p ∧ p ≤ n) : ∀ k, BK n arcs k (rowK n arcs p k)
  | 0 => by
    show rowK n arcs p 0 = ppl n
    refine ext_getD (by rw [rowK_len, ppl_len]) fun i hi => ?_
    rw [rowK_len] at hi
    rw [ppl_getD hi]
    by_cases h : RK arcs p 0 ((i : Int) + 1)
    · rw [rowK_in hi h]
      exact (show (i : Int) + 1 = p from h).symm
    · rw [rowK_out hi h]
  | k + 1 => by
    refine ⟨_, rowK_bk W hp k, rowK_len _ _ _ _, fun i hi => ?_⟩
    by_cases h : RK arcs p k ((i : Int) + 1)
    · refine .inl ?_
      have h3 : RK arcs p (k + 1) ((i : Int) + 1) := Or.inl h
      rw [rowK_in hi h, rowK_in hi h3]
    · by_cases h2 : RK arcs p (k + 1) ((i : Int) + 1)
      · rcases id h2 with z | ⟨s, hs, hm⟩
        · exact absurd z h
        · refine .inr ⟨s, hm, ?_⟩
          have q := (W.ok _ hm).1
          have hq : (s - 1).toNat < n := by dsimp only at q; omega
          have es : (((s - 1).toNat : Nat) : Int) + 1 = s := by dsimp only at q; omega
          rw [rowK_in hi h2, rowK_in hq (by rw [es]; exact hs)]
      · refine .inl ?_
        rw [rowK_out hi h, rowK_out hi h2]
theorem const_iff {n : Nat} {arcs : Arcs} {p : Int} (W : WebOk n arcs) (hp : 1 ≤ p ∧ p ≤ n) (k : Nat) : BK n arcs k (List.replicate n p) ↔ AllK n arcs p k := by
  constructor
  · intro h x h1 h2
    have hx : (x - 1).toNat < n := by omega
    have q := bk_rk W h (x - 1).toNat hx
    have e1 : (List.replicate n p).getD (x - 1).toNat 0 = p := getD_some (by rw [List.getElem?_replicate, if_pos hx])
    have e2 : (((x - 1).toNat : Nat) : Int) + 1 = x := by omega
    rw [e1, e2] at q
    exact q
  · intro h
    have e : rowK n arcs p k = List.replicate n p := by
      refine ext_getD (by rw [rowK_len, List.length_replicate]) fun i hi => ?_
      rw [rowK_len] at hi
      rw [rowK_in hi (h _ (by omega) (by omega))]
      exact (getD_some (by rw [List.getElem?_replicate, if_pos hi])).symm
    rw [← e]
    exact rowK_bk W hp k

/-! ### the least -/
def Least (P : Nat → Prop) : Option Nat → Prop
  | some d => P d ∧ ∀ k, k < d → ¬ P k
  | none => ∀ k, ¬ P k
theorem Least.one {P : Nat → Prop} : ∀ {o o' : Option Nat}, Least P o → Least P o' → o = o'
  | none, none, _, _ => rfl
  | none, some d, a, b => absurd b.1 (a d)
  | some d, none, a, b => absurd a.1 (b d)
  | some d, some e, a, b => by
    rcases Nat.lt_trichotomy d e with h | h | h
    · exact absurd a.1 (b.2 d h)
    · rw [h]
    · exact absurd b.1 (a.2 e h)
theorem Least.congr {P R : Nat → Prop} (h : ∀ k, P k ↔ R k) : ∀ {o : Option Nat}, Least P o → Least R o
  | none, a => fun k z => a k ((h k).mpr z)
  | some _, a => ⟨(h _).mp a.1, fun k hk z => a.2 k hk ((h k).mpr z)⟩
theorem Least.le {P : Nat → Prop} {o : Option Nat} {k : Nat} (h : Least P o) (hk : P k) : ∃ d, o = some d ∧ d ≤ k := by
  cases o with
  | none => exact absurd hk (h k)
  | some d =>
    refine ⟨d, rfl, ?_⟩
    rcases Nat.lt_or_ge k d with z | z
    · exact absurd hk (h.2 k z)
    · exact z

/-! ### the whole web, the line -/
def fullA (n : Nat) : Arcs := (ppl n).flatMap fun s => ((ppl n).filter fun g => decide (g ≠ s)).map fun g => (s, g)
theorem fullA_mem {n : Nat} {s g : Int} : (s, g) ∈ fullA n ↔ (1 ≤ s ∧ s ≤ n) ∧ (1 ≤ g ∧ g ≤ n) ∧ g ≠ s := by
  unfold fullA
  rw [List.mem_flatMap]
  constructor
  · rintro ⟨a, ha, h⟩
    obtain ⟨b, hb, e⟩ := List.mem_map.mp h
    obtain ⟨hb1, hb2⟩ := List.mem_filter.mp hb
    cases e
    exact ⟨ppl_mem.mp ha, ppl_mem.mp hb1, of_decide_eq_true hb2⟩
  · rintro ⟨h1, h2, h3⟩
    exact ⟨s, ppl_mem.mpr h1, List.mem_map.mpr ⟨g, List.mem_filter.mpr ⟨ppl_mem.mpr h2, decide_eq_true h3⟩, rfl⟩⟩
theorem full_ok {n : Nat} (h1 : 1 ≤ n) (h2 : n ≤ 4) : WebOk n (fullA n) := by
  refine ⟨h1, h2, ?_, ?_, fun p hp => ?_⟩
  · rcases (show n = 1 ∨ n = 2 ∨ n = 3 ∨ n = 4 by omega) with rfl | rfl | rfl | rfl <;> decide +kernel
  · rcases (show n = 1 ∨ n = 2 ∨ n = 3 ∨ n = 4 by omega) with rfl | rfl | rfl | rfl <;> decide +kernel
  · obtain ⟨a, b, c⟩ := fullA_mem.mp (show (p.1, p.2) ∈ fullA n from hp)
    exact ⟨a, b, fun e => c e.symm⟩
theorem full_bk {n : Nat} {r : List Int} (R : RowOk n r) : BK n (fullA n) 1 r := by
  refine ⟨ppl n, rfl, R.len, fun k hk => ?_⟩
  have hx := R.ok _ (getD_mem (l := r) (k := k) (by rw [R.len]; exact hk))
  by_cases e : r.getD k 0 = (k : Int) + 1
  · refine .inl ?_
    rw [e, ppl_getD hk]
  · refine .inr ⟨r.getD k 0, fullA_mem.mpr ⟨hx, ⟨by omega, by omega⟩, fun z => e z.symm⟩, ?_⟩
    rw [ppl_getD (by omega)]
    omega
theorem full_win {n : Nat} (h1 : 1 ≤ n) : Least (AllK n (fullA n) 1) (some (if 1 < n then 1 else 0)) := by
  by_cases h : 1 < n
  · rw [if_pos h]
    refine ⟨fun x a b => ?_, fun k hk z => ?_⟩
    · by_cases e : x = 1
      · exact .inl e
      · exact .inr ⟨1, rfl, fullA_mem.mpr ⟨⟨by omega, by omega⟩, ⟨a, b⟩, e⟩⟩
    · have : k = 0 := by omega
      subst this
      have q : (2 : Int) = 1 := z 2 (by omega) (by omega)
      omega
  · rw [if_neg h]
    refine ⟨fun x a b => ?_, fun k hk => absurd hk (by omega)⟩
    show x = 1
    omega
def upsA (n : Nat) : Arcs := (List.range (n - 1)).map fun (k : Nat) => ((k : Int) + 1, (k : Int) + 1 + 1)
theorem upsA_mem {n : Nat} {s g : Int} : (s, g) ∈ upsA n ↔ 1 ≤ s ∧ s + 1 ≤ n ∧ g = s + 1 := by
  unfold upsA
  rw [List.mem_map]
  constructor
  · rintro ⟨k, hk, e⟩
    have := List.mem_range.mp hk
    cases e
    omega
  · rintro ⟨h1, h2, rfl⟩
    refine ⟨(s - 1).toNat, List.mem_range.mpr (by omega), ?_⟩
    have : (((s - 1).toNat : Nat) : Int) + 1 = s := by omega
    rw [this]
theorem ups_ok {n : Nat} (h1 : 1 ≤ n) (h2 : n ≤ 4) : WebOk n (upsA n) := by
  refine ⟨h1, h2, ?_, ?_, fun p hp => ?_⟩
  · simp only [upsA, List.length_map, List.length_range]
    omega
  · rcases (show n = 1 ∨ n = 2 ∨ n = 3 ∨ n = 4 by omega) with rfl | rfl | rfl | rfl <;> decide +kernel
  · obtain ⟨a, b, c⟩ := upsA_mem.mp (show (p.1, p.2) ∈ upsA n from hp)
    omega
theorem ups_rk {n : Nat} : ∀ {k : Nat} {x : Int}, RK (upsA n) 1 k x → x ≤ (k : Int) + 1
  | 0, x, h => by
    rw [show x = 1 from h]
    decide
  | k + 1, x, .inl h => by
    have := ups_rk h
    omega
  | k + 1, x, .inr ⟨s, h, hm⟩ => by
    have := ups_rk h
    obtain ⟨_, _, e⟩ := upsA_mem.mp hm
    omega
theorem ups_rk2 {n : Nat} : ∀ (k : Nat) (x : Int), 1 ≤ x → x ≤ n → x ≤ (k : Int) + 1 → RK (upsA n) 1 k x
  | 0, x, h1, _, h3 => by
    show x = 1
    omega
  | k + 1, x, h1, h2, h3 => by
    by_cases e : x ≤ (k : Int) + 1
    · exact .inl (ups_rk2 k x h1 h2 e)
    · refine .inr ⟨x - 1, ups_rk2 k (x - 1) (by omega) (by omega) (by omega), upsA_mem.mpr ⟨by omega, by omega, by omega⟩⟩
theorem ups_win {n : Nat} (h1 : 1 ≤ n) : Least (AllK n (upsA n) 1) (some (n - 1)) := by
  refine ⟨fun x a b => ups_rk2 _ x a b (by omega), fun k hk z => ?_⟩
  have q := ups_rk (z n (by omega) (Int.le_refl _))
  omega

/-! ### few rows -/
def allR (n : Nat) : Nat → List (List Int)
  | 0 => [[]]
  | m + 1 => (ppl n).flatMap fun x => (allR n m).map fun r => x :: r
theorem allR_len (n : Nat) : ∀ m, (allR n m).length = n ^ m
  | 0 => rfl
  | m + 1 => by
    unfold allR
    rw [List.length_flatMap]
    simp only [List.length_map, allR_len n m]
    have e : ∀ l : List Int, (l.map fun _ => n ^ m).sum = l.length * n ^ m := by
      intro l
      induction l with
      | nil => simp
      | cons a l ih => simp [ih, Nat.add_mul, Nat.add_comm]
    rw [e, ppl_len, Nat.pow_succ, Nat.mul_comm]
theorem allR_mem {n : Nat} : ∀ {m : Nat} {r : List Int}, r.length = m → (∀ x ∈ r, 1 ≤ x ∧ x ≤ n) → r ∈ allR n m
  | 0, r, h, _ => by
    have : r = [] := List.length_eq_zero_iff.mp h
    subst this
    exact List.mem_singleton.mpr rfl
  | m + 1, [], h, _ => by simp at h
  | m + 1, x :: r, h, hx => by
    unfold allR
    refine List.mem_flatMap.mpr ⟨x, ppl_mem.mpr (hx x List.mem_cons_self), List.mem_map.mpr ⟨r, allR_mem (by simpa using h) fun y hy => hx y (List.mem_cons_of_mem _ hy), rfl⟩⟩
theorem rows_few {n : Nat} (h : n ≤ 4) {ks : List (List Int)} (nd : ks.Nodup) (ok : ∀ r ∈ ks, RowOk n r) : ks.length ≤ 256 := by
  have q := ph1 ks (allR n n) nd fun r hr => allR_mem (ok r hr).len (ok r hr).ok
  rw [allR_len] at q
  have : n ^ n ≤ 256 := by
    rcases (show n = 0 ∨ n = 1 ∨ n = 2 ∨ n = 3 ∨ n = 4 by omega) with rfl | rfl | rfl | rfl | rfl <;> decide +kernel
  omega
end K56
end
section
set_option Elab.async false
set_option linter.all false
set_option maxRecDepth 100000
set_option maxHeartbeats 4000000
/-! Rules of our own over the hand layer. -/
namespace K56
open PySem PySem.Spec PyProof.Rows L2

/-! ### enumerate over a tuple -/
def IteT (a : Addr) : It :=
  ⟨fun i H => ∃ (xs : List V) (x : V), H a = some (.tup xs) ∧ xs[i]? = some x, fun i H v H' => ∃ T x, v = .ref T ∧ H T = none ∧ H' = upd H T (.tup [.int (i : Nat), x]) ∧ ∀ xs, H a = some (.tup xs) → xs[i]? = some x, fun i H => ∃ xs : List V, H a = some (.tup xs) ∧ xs.length ≤ i⟩
theorem turn_enumT {P : Program} {w : World} {K : PySem.W.Frag} {elts : List Expr} {kk : Nat} {tpos : Pos} (a e it : Addr) :
    Turn P w K (.Tuple elts kk tpos) (IteT a) [e, it] e (fun i h => (∃ old, IsEnum h e it ((i : Nat) : Int) old) ∧ h.IsTupleIter it a i ∧ e ≠ it) where
  mem := by simp
  obj := fun i h st b hb => by
    obtain ⟨⟨old, he⟩, ⟨o, ho, hc, hd⟩, _⟩ := st
    have e' : b = e ∨ b = it := by simpa using hb
    rcases e' with z | z
    · rw [z]; exact ⟨_, he, fun v q => nomatch q⟩
    · rw [z]; exact ⟨o, ho, fun v q => by rw [hd] at q; cases q⟩
  keep := fun i h h' st k => let ⟨⟨old, he⟩, hi, hne⟩ := st; ⟨⟨old, k e (by simp) _ he⟩, hi.at fun o q => k it (by simp) o q, hne⟩
  item := by
    intro X hP hw hK hc i pins s σ H E I hf st hg
    subst hP hw hK
    obtain ⟨⟨old, he⟩, hit, hne⟩ := st
    obtain ⟨xs, x, hq, hx⟩ := hg
    obtain ⟨its, rv, p, hz⟩ := I.tuple (SqT.of hq)
    obtain ⟨u, hu, ru⟩ := rv.get hx
    have hel : e < s.heap.objs.size := Heap.lt_size he
    have hil : it < s.heap.objs.size := by obtain ⟨_, q, _⟩ := hit; exact Heap.lt_size q
    have nae : a ≠ e := ne_of_none hq (hf e (by simp)).1
    have nai : a ≠ it := ne_of_none hq (hf it (by simp)).1
    have D := Draws.tuple (prog := X.prog) (w := X.w) (A := X.A.in1) (I.ok.hd hc) it a nai its.toArray
    have hlt : i < its.toArray.size := by
      have q := (List.getElem?_eq_some_iff.mp hu).1
      simpa using q
    have hei : e ∉ [it, a] := fun z => by
      rcases List.mem_cons.mp z with z | z
      · exact hne z
      · rcases List.mem_cons.mp z with z | z
        · exact nae z.symm
        · cases z
    refine wpAny_pyNext_enum_itemD D he ⟨hit, (show s.heap.IsTuple a its.toArray from p)⟩ hlt hne hei fun x' h' tk hx' ho hst' hT hsz hk => ?_
    obtain rfl : x' = u := by
      have e1 : its.toArray[i]? = some u := by simpa using hu
      rw [e1] at hx'
      exact (Option.some.inj hx').symm
    refine ⟨_, rfl, wpAny_letOwnedTupleGo_enum (s := { s with heap := h', toks := tk + 1 }) ho fun h'' he' sb => ?_⟩
    have hT2 : h''.get? s.heap.objs.size = some { cls := .type "tuple", data := .seq #[.int i tk, x'] } := (sb.2 _ (Nat.ne_of_gt hel)).trans hT
    have new : ObjOk X.prog X.w (upd H s.heap.objs.size (.tup [.int (i : Nat), x])) h'' s.heap.objs.size (.tup [.int (i : Nat), x]) :=
      ⟨by show 2 ≤ sizeLine; decide, [.int i tk, x'], .cons ⟨_, rfl⟩ (.cons ru .nil), ⟨_, hT2, rfl, _, rfl⟩⟩
    have I1 : Inv X pins σ (upd H s.heap.objs.size (.tup [.int (i : Nat), x])) { s with heap := h'', toks := tk + 1 } :=
      I.turnedNew (ch := [e, it]) (fun b ob hb q => (sb.2 b (fun z => hb (by simp [z]))).trans (hk b ob (fun z => hb (by simp [z])) (fun z => hb (by simp [z])) q)) hf (Nat.le_refl _) new
    refine ⟨.ref s.heap.objs.size, _, I1, rfl, ⟨_, x, rfl, I.hok.fresh (Nat.le_refl _), rfl, fun ys hy => by rw [hq] at hy; cases hy; exact hx⟩, ⟨⟨x', ?_⟩, hst'.1.at fun o q => (sb.2 it (Ne.symm hne)).trans q, hne⟩, fun b hb => ?_⟩
    · have e1 : ((i + 1 : Nat) : Int) = (i : Int) + 1 := by omega
      rw [e1]; exact he'
    · have hb' : b < s.heap.objs.size := by
        have e' : b = e ∨ b = it := by simpa using hb
        rcases e' with z | z
        · rw [z]; exact hel
        · rw [z]; exact hil
      rw [upd_ne (Nat.ne_of_lt hb')]
      exact (hf b hb).1
  done := by
    intro X hP hw hK hc i pins s σ H E I hf st hg
    subst hP hw hK
    obtain ⟨⟨old, he⟩, hit, hne⟩ := st
    obtain ⟨xs, hq, hx⟩ := hg
    obtain ⟨its, rv, p, hz⟩ := I.tuple (SqT.of hq)
    obtain ⟨f0, f1, f2, f3, f4, f5⟩ := hf it (by simp)
    have hl := rv.length
    have nai : a ≠ it := ne_of_none hq f0
    unfold pyNext
    have hT : s.TypeIs (.ref e) "enumerate" := ⟨_, he, rfl⟩
    refine wpAny_bind (wpAny_attempt (wpAny_callSpecial?_slot (name := Str.ofString "__next__") hT F.slot_enumerate_next
      (wpAny_call_entry F.slot_enumerate_next hT F.entry_enumerate_next ?_ (F.args_enumerate_next_1 _))))
    show wpAny _ _ (field (.ref e) 2 >>= _) _ _ _
    refine wpAny_bind (wpAny_field he rfl (x := .ref it) rfl ?_)
    refine wpAny_bind (wpAny_nextOf_tuple_end (I.ok.hd hc) hit (show s.heap.IsTuple a its.toArray from p) (by simp; omega) fun h' x he' hx' => ?_)
    obtain ⟨o, ho, hcl⟩ := hx'
    refine wpAny_bind (wpAny_isInstance (T := "StopIteration") (b := true) ⟨o, ho, hcl⟩ isSubtype_stop ?_)
    exact wpAny_pure ⟨rfl, I.turned (t' := s.toks) (fun b o hb q => he' b o hb q) f0 f1 f3 f4 f5⟩
  self := fun A i s Q E st h => let ⟨⟨_, he⟩, _⟩ := st; wpAny_pyIter_enum he h
set_option maxHeartbeats 4000000 in
theorem meets_enumerate_newB1 {v : Value} {o : Obj} {H : Heap → Prop} (B : Begins v o H) :
    Meets (Builtin.«enumerate.__new__» ⟨[.type "enumerate", v], []⟩) (fun _ R s => H s.heap ∧
      R (.ok (.ret (.ref (s.heap.push o).objs.size))) { s with heap := (s.heap.push o).push { cls := .type "enumerate", data := .fields #[.none, .bool false, .ref s.heap.objs.size, rawInt 0, .none, .none] } }) :=
  .of_wp fun prog w A R s h => by
    obtain ⟨hp, g, d, tk, os⟩ := s; obtain ⟨h1, h⟩ := h
    have hsub := sub_enumerate
    have q1 : ∀ {A' : Around} {E : Value → Shared → Prop} {Q : Value → Shared → Prop}, Q (.ref hp.objs.size) ⟨hp.push o, g, d, tk, os⟩ → wpAny (model prog w) A' (pyIter v) Q E ⟨hp, g, d, tk, os⟩ :=
      fun q => B.iter prog w _ _ ⟨hp, g, d, tk, os⟩ _ h1 q
    wp_walk using q1
    refine wpAny_stack_any fun st => wpAny_pure ?_
    split
    · rename_i c _ _ _ _ _
      cases (c == Value.type "enumerate")
      · wp_walk using q1
        exact ⟨_, rfl, h⟩
      · wp_walk using q1
        exact ⟨_, rfl, h⟩
    · wp_walk using q1
      exact ⟨_, rfl, h⟩
theorem call_enumerate_B {prog : Program} {w : World} {A : Around} {E : Value → Shared → Prop} {s : Shared} {v : Value} {o : Obj} {H : Heap → Prop} {Q : Value → Shared → Prop} (B : Begins v o H) (h1 : H s.heap)
    (h : ∀ h', IsEnum h' (s.heap.objs.size + 1) s.heap.objs.size 0 .none → h'.get? s.heap.objs.size = some o → h'.objs.size = s.heap.objs.size + 2 →
      (∀ b o, s.heap.get? b = some o → h'.get? b = some o) → Q (.ref (s.heap.objs.size + 1)) { s with heap := h' }) :
    wpAny (model prog w) A (call (.type "enumerate") [v]) Q E s := by
  refine callType_new F.called_enumerate (by decide) (F.typeCall_enumerate_1 _) (F.newCall_enumerate_1 _) (fun obj => F.args_object_init_2 obj _) F.entry_enumerate_new
    (meets_enumerate_newB1 B) ⟨h1, ?_⟩
  have hz : (s.heap.push o).objs.size = s.heap.objs.size + 1 := Heap.size_push ..
  show _ ∧ _
  rw [hz]
  have he : IsEnum ((s.heap.push o).push { cls := .type "enumerate", data := .fields #[.none, .bool false, .ref s.heap.objs.size, rawInt 0, .none, .none] }) (s.heap.objs.size + 1) s.heap.objs.size 0 .none := by
    have := Heap.get?_push_size (s.heap.push o) (o := { cls := .type "enumerate", data := .fields #[.none, .bool false, .ref s.heap.objs.size, rawInt 0, .none, .none] }) rfl
    rw [hz] at this; exact this
  refine ⟨⟨_, he, rfl⟩, h _ he (Heap.get?_push_of_some _ (Heap.get?_push_size _ B.free)) (by rw [Heap.size_push, hz]) fun b o x => Heap.get?_push_of_some _ (Heap.get?_push_of_some _ x)⟩
def iEnumT (ta : TA) : TI := fun σ H R => ta σ H fun vs H1 => ∃ a xs, vs = [.ref a] ∧ H1 a = some (.tup xs) ∧ R (IteT a) H1
theorem pi_enumT {X : Cx} {e : Expr} {ta : TA} {p pos tpos : Pos} {elts : List Expr} {kk : Nat} (hg : Gl X "enumerate") (hm : X.mg "enumerate" = none) (ha : PA X [e] ta) (hs : starEach [e] X.env = [(false, eval e X.env)] := by rfl) :
    PI X (.Tuple elts kk tpos) (.Call (.Name "enumerate" p) [e] [] pos) (iEnumT ta) := by
  refine ⟨fun pins s σ H R I h => ?_⟩
  refine Call_ (ld_blt I hg hm boot_enumerate (PyProof.Rows.callWith_type1 (thn (ha.run pos pins s σ H _ I h) fun us s1 ⟨vs, H1, I1, r1, q1⟩ => ?_) hs rfl))
  obtain ⟨a, xs, ex, hq, q⟩ := q1
  subst ex
  cases r1 with
  | cons r rr =>
    cases rr
    cases r
    obtain ⟨its, rv, p', hz⟩ := I1.tuple (SqT.of hq)
    refine call_enumerate_B (begins_tuple a its.toArray) (show s1.heap.IsTuple a its.toArray from p') fun h' he hit hsz hk => wpAny_pyIter_enum he ?_
    have I2 : Inv X pins σ H1 { s1 with heap := h' } := I1.kept (t' := s1.toks) hk
    refine ⟨s1.heap.objs.size + 1, [s1.heap.objs.size + 1, s1.heap.objs.size], _, _, H1, rfl, I2, turn_enumT a (s1.heap.objs.size + 1) s1.heap.objs.size, ⟨⟨.none, he⟩, ⟨_, hit, rfl, rfl⟩, Nat.succ_ne_self _⟩, fun b hb => ?_, q⟩
    have e' : b = s1.heap.objs.size + 1 ∨ b = s1.heap.objs.size := by simpa using hb
    have hle : s1.heap.objs.size ≤ b := by
      rcases e' with z | z
      · rw [z]; exact Nat.le_add_right _ _
      · rw [z]; exact Nat.le_refl _
    exact I1.fpOk hle (I1.hok.fresh hle)
/-- over enumerate(tuple): one turn has its new pair at T -/
theorem for_enumT {a : Addr} {xs : List V} {g : TG} {tb : TS} {D : Ends} {σ : L2.St} {H : Hp} (Pv : Nat → L2.St → Hp → Prop) (h0 : Pv 0 σ H) (hl : ∀ i σ H, i ≤ xs.length → Pv i σ H → H a = some (.tup xs))
    (hs : ∀ i x σ H T, xs[i]? = some x → Pv i σ H → H T = none → g (.ref T) σ (upd H T (.tup [.int (i : Nat), x])) fun σ2 H2 => tb { D with nx := Pv (i + 1), ct := Pv (i + 1), bk := D.nx } σ2 H2) (hd : ∀ σ H, Pv xs.length σ H → D.nx σ H) :
    ∃ W : Nat → Nat → L2.St → Hp → Prop, (∃ m, W 0 m σ H) ∧ ∀ i m σ H, W i m σ H →
      ((IteT a).stop i H ∧ D.nx σ H) ∨ ((IteT a).go i H ∧ ∃ N : L2.St → Hp → Prop, (∀ σ' H', N σ' H' → ∃ m', m' < m ∧ W (i + 1) m' σ' H') ∧ ∀ x H', (IteT a).yld i H x H' → g x σ H' fun σ2 H2 => tb { D with nx := N, ct := N, bk := D.nx } σ2 H2) := by
  refine ⟨fun i m σ H => m = xs.length - i ∧ i ≤ xs.length ∧ Pv i σ H, ⟨xs.length, by simp, Nat.zero_le _, h0⟩, ?_⟩
  rintro i m σ H ⟨rfl, hi, p⟩
  have q := hl i σ H hi p
  by_cases hlt : i < xs.length
  · refine .inr ⟨⟨xs, xs[i], q, by simp [hlt]⟩, Pv (i + 1), fun σ' H' p' => ⟨xs.length - (i + 1), by omega, rfl, hlt, p'⟩, fun x H' y => ?_⟩
    obtain ⟨T, x', ex, hT, eH, y⟩ := y
    subst ex eH
    exact hs i x' σ _ T (y xs q) p hT
  · have e : i = xs.length := by omega
    subst e
    exact .inl ⟨⟨xs, q, Nat.le_refl _⟩, hd σ H p⟩
end K56
end
section
set_option Elab.async false
set_option linter.all false
set_option maxRecDepth 100000
set_option maxHeartbeats 4000000
namespace K56
open PySem PySem.Spec PyProof.Rows L2
/-! ### the text by places -/
def top (i : Nat) : Stmt := PySem.Challenge.pw_bellcopies_k56_across_beats.main.body.getD i (.Pass ⟨0, 0, 0, 0⟩)
abbrev sIsIn : Stmt := top 8
abbrev sIsArc : Stmt := top 13
abbrev sNeedWeb : Stmt := top 14
abbrev sIsLog : Stmt := top 15
abbrev sNeedLog : Stmt := top 16
abbrev sNeedPerson : Stmt := top 17
abbrev sPeople : Stmt := top 18
abbrev sTaken : Stmt := top 19
abbrev sBehind : Stmt := top 20
abbrev sWebRing : Stmt := top 21
abbrev sNeedGoal : Stmt := top 24
abbrev sNeedSmall : Stmt := top 25
abbrev sFirstLog : Stmt := top 26
abbrev sLogTo : Stmt := top 27
abbrev sBeatWin : Stmt := top 29
abbrev sBeaten : Stmt := top 30
abbrev sBeatsTo : Stmt := top 31
abbrev sHearers : Stmt := top 33
abbrev sWinnersOf : Stmt := top 34
abbrev sWinners : Stmt := top 35
abbrev sWinLog : Stmt := top 36
abbrev sLTaken : Stmt := top 38
abbrev sLWeb : Stmt := top 41
abbrev sLLog : Stmt := top 42
abbrev sLPeople : Stmt := top 45
abbrev sLaw : Stmt := top 47

/-! ### the built-ins that the text leaves as they are -/
structure Txt (mg : Str → Option Value) : Prop where
  isi : mg "isinstance" = none
  int : mg "int" = none
  bool : mg "bool" = none
  tuple : mg "tuple" = none
  len : mg "len" = none
  all : mg "all" = none
  enumerate : mg "enumerate" = none
  range : mg "range" = none
  sorted : mg "sorted" = none
  list : mg "list" = none
  mP : ∃ t, mg "MOST_PEOPLE" = some (.int 6 t)
  mA : ∃ t, mg "MOST_ARCS" = some (.int 12 t)
  mL : ∃ t, mg "MOST_LOG" = some (.int 60 t)
  mS : ∃ t, mg "MOST_SMALL" = some (.int 4 t)

/-! ### the module's facts over any heap that has grown -/
theorem Mod.keeps {K : PySem.W.Frag} {mg : Str → Option Value} {h h' : Heap} (M : Mod K mg h) (k : ∀ b o, h.get? b = some o → h'.get? b = some o) : Mod K mg h' :=
  ⟨M.kin.keeps k, M.glob.keeps k, let ⟨mb, a, b⟩ := M.blt; ⟨mb, a.keeps k, b⟩, M.nolimit.keeps k⟩
theorem keeps_refl (s : Shared) : Keeps s s := ⟨s.heap, s.toks, rfl, fun _ _ e => e⟩
theorem keeps_tok (s : Shared) (k : Nat) : Keeps s { s with toks := k } := ⟨s.heap, k, rfl, fun _ _ e => e⟩
theorem Keeps.trans {a b c : Shared} (x : Keeps a b) (y : Keeps b c) : Keeps a c := by
  obtain ⟨h1, t1, rfl, k1⟩ := x
  obtain ⟨h2, t2, rfl, k2⟩ := y
  exact ⟨h2, t2, rfl, fun p o e => k2 p o (k1 p o e)⟩

/-! ### a frame, whatever runs around -/
/-- the frame of env at the heap h: the module's facts, the local names' map m -/
structure LFr (K : PySem.W.Frag) (mg : Str → Option Value) (env : Env) (h : Heap) (m : Str → Option Value) : Prop where
  kind : env.scope.kind = .function
  glob : env.globals = mainGlobals
  blt : env.builtins = builtinsNs
  mod : Mod K mg h
  ns : h.Ns env.locals m
theorem LFr.keeps {K : PySem.W.Frag} {mg : Str → Option Value} {env : Env} {s s' : Shared} {m : Str → Option Value} (L : LFr K mg env s.heap m) (k : Keeps s s') : LFr K mg env s'.heap m := by
  obtain ⟨h1, t1, rfl, k1⟩ := k
  exact ⟨L.kind, L.glob, L.blt, Mod.keeps L.mod k1, L.ns.keeps k1⟩
section
variable {P : Program} {w : World} {K : PySem.W.Frag} {mg : Str → Option Value} {A : Around} {E : Value → Shared → Prop} {s : Shared} {env : Env} {m : Str → Option Value} {Q : Value → Shared → Prop}
theorem LFr.loc (L : LFr K mg env s.heap m) {x : Str} {pos : Pos} {u : Value} (hk : env.kindOf x = some .local) (hm : m x = some u) (h : Q u s) (hd : (x == ("__debug__" : Str)) = false := by decide) : wpAny (model P w) A (eval (.Name x pos) env) Q E s :=
  wpAny_Name (wpAny_loadName_local L.kind hk L.ns hm h) hd
theorem LFr.free (L : LFr K mg env s.heap m) {x : Str} {pos : Pos} {u : Value} {c : Addr} (hk : env.kindOf x = some .free) (hc : env.cells.lookup x = some c) (hz : s.heap.IsCell c (some u)) (h : Q u s) (hd : (x == ("__debug__" : Str)) = false := by decide) (hcd : (x == ("__classdict__" : Str)) = false := by decide) : wpAny (model P w) A (eval (.Name x pos) env) Q E s :=
  wpAny_Name (wpAny_loadName_free L.kind hk hc hz h hcd) hd
theorem LFr.glb (L : LFr K mg env s.heap m) {x : Str} {pos : Pos} {u : Value} (hk : env.kindOf x = some .globalImplicit) (hm : mg x = some u) (h : Q u s) (hd : (x == ("__debug__" : Str)) = false := by decide) : wpAny (model P w) A (eval (.Name x pos) env) Q E s :=
  Calls.Name_function_global L.kind hk (Calls.loadGlobal_global (by rw [L.glob]; exact L.mod.glob) hm h) hd
theorem LFr.bltn (L : LFr K mg env s.heap m) {x : Str} {pos : Pos} {u : Value} (hk : env.kindOf x = some .globalImplicit) (hm : mg x = none) (hv : bootBuiltins x = some u) (h : Q u s) (hn : x ≠ "__name__" := by decide) (hd : (x == ("__debug__" : Str)) = false := by decide) : wpAny (model P w) A (eval (.Name x pos) env) Q E s := by
  obtain ⟨mb, h1, h2⟩ := L.mod.blt
  exact Calls.Name_function_global L.kind hk (Calls.loadGlobal_builtin (by rw [L.glob]; exact L.mod.glob) hm (by rw [L.blt]; exact h1) ((h2 x hn).trans hv) h) hd
/-- isinstance(x, T), x an int at a local name -/
theorem LFr.isi (L : LFr K mg env s.heap m) {x T : Str} {t : String} {p1 p2 p3 p4 : Pos} {i : Int} {tk : Tok} {b : Bool} (hi : env.kindOf "isinstance" = some .globalImplicit) (hmi : mg "isinstance" = none) (hx : env.kindOf x = some .local) (hm : m x = some (.int i tk)) (hT : env.kindOf T = some .globalImplicit) (hmT : mg T = none)
    (hv : bootBuiltins T = some (.type t)) (e : kitB "int" t = some b) (h : ∀ k, Q (.bool b) { s with toks := k }) (hn : T ≠ "__name__" := by decide) (hd1 : (x == ("__debug__" : Str)) = false := by decide) (hd2 : (T == ("__debug__" : Str)) = false := by decide) :
    wpAny (model P w) A (eval (.Call (.Name "isinstance" p1) [.Name x p2, .Name T p3] [] p4) env) Q E s := by
  refine wpAny_Call_Name_kw (L.bltn hi hmi (u := .builtin "isinstance") (by decide +kernel) ?_)
  refine PyProof.Rows.callWith_builtin1 ?_ (by rfl) (by rfl)
  show wpAny _ _ (spliced ((false, eval (.Name x p2) env) :: (false, eval (.Name T p3) env) :: [])) _ _ s
  refine Calls.spliced_cons (L.loc hx hm ?_ hd1)
  refine Calls.spliced_cons (L.bltn hT hmT hv ?_ hn hd2)
  refine Calls.spliced_nil ?_
  exact PySem.W.kia_one PySem.W.kitx_int L.mod.kin True.intro (kit_ty e) (fun z => nomatch z) h
end

/-! ### is_in, whatever runs around -/
section
variable {P : Program} {w : World} {K : PySem.W.Frag} {mg : Str → Option Value}
theorem scIsIn : FnScope ["value", "least", "most"] ["value", "least", "most"] (defScope sIsIn) := ⟨rfl, rfl, rfl, by decide +kernel, rfl, by decide +kernel, by decide +kernel⟩
theorem isin_body {A : Around} {E : Value → Shared → Prop} {s : Shared} {env : Env} {m : Str → Option Value} {v lo hi : Int} {t1 t2 t3 : Tok} {bv : Bool} (T : Txt mg) (hs : env.scope = defScope sIsIn) (L : LFr K mg env s.heap m) (h1 : m "value" = some (.int v t1)) (h2 : m "least" = some (.int lo t2)) (h3 : m "most" = some (.int hi t3))
    (hb : bv = decide (lo ≤ v ∧ v ≤ hi)) : wpAny (model P w) A (execs (defBody sIsIn) env) (fun fl s' => fl = .ret (.bool bv) ∧ Keeps s s') E s := by
  have kd : ∀ x, env.kindOf x = (defScope sIsIn).names.lookup x := fun x => by
    show env.scope.names.lookup x = _
    rw [hs]
  have k1 : env.kindOf "value" = some .local := by rw [kd]; decide +kernel
  have k2 : env.kindOf "least" = some .local := by rw [kd]; decide +kernel
  have k3 : env.kindOf "most" = some .local := by rw [kd]; decide +kernel
  have k4 : env.kindOf "isinstance" = some .globalImplicit := by rw [kd]; decide +kernel
  have k5 : env.kindOf "int" = some .globalImplicit := by rw [kd]; decide +kernel
  have k6 : env.kindOf "bool" = some .globalImplicit := by rw [kd]; decide +kernel
  refine wpAny_execs_cons (wpAny_Return_some ?_)
  refine BoolOp_and (L.isi k4 T.isi k1 h1 k5 T.int (t := "int") (b := true) (by decide +kernel) (by decide +kernel) fun q1 => wpAny_truthy_bool (ite_tt ?_))
  have L1 : LFr K mg env ({ s with toks := q1 } : Shared).heap m := L
  refine BoolOp_and (UnaryOp_ (L1.isi (s := { s with toks := q1 }) k4 T.isi k1 h1 k6 T.bool (t := "bool") (b := false) (by decide +kernel) (by decide +kernel) fun q2 => not_of (wpAny_truthy_bool (wpAny_truthy_bool (ite_tt ?_)))))
  have L2 : LFr K mg env ({ s with toks := q2 } : Shared).heap m := L
  refine BoolOp_one ?_
  refine Compare_chain (L2.loc (s := { s with toks := q2 }) k2 h2 (chain_link (L2.loc (s := { s with toks := q2 }) k1 h1 (PyProof.Rows.le_int (wpAny_truthy_bool ?_)))))
  have kt : ∀ q, Keeps s { s with toks := q } := keeps_tok s
  by_cases c1 : lo ≤ v
  · rw [decide_eq_true c1]
    refine ite_tt (chain_last (L2.loc (s := { s with toks := q2 }) k3 h3 (PyProof.Rows.le_int ⟨?_, kt _⟩)))
    rw [hb]
    by_cases c2 : v ≤ hi
    · rw [decide_eq_true c2, decide_eq_true ⟨c1, c2⟩]
    · rw [decide_eq_false c2, decide_eq_false (fun z => c2 z.2)]
  · rw [decide_eq_false c1]
    refine ite_ff ⟨?_, kt _⟩
    rw [hb, decide_eq_false (fun z => c1 z.1)]
theorem isin_low {f : Addr} {fd : FuncData} {A : Around} {s : Shared} {v lo hi : Int} {t1 t2 t3 : Tok} {bv : Bool} (F : Fun K "is_in" "is_in" sIsIn f fd) (T : Txt mg) (hdep : A.depth < recursionLimit) (M : Mod K mg s.heap)
    (hb : bv = decide (lo ≤ v ∧ v ≤ hi)) :
    codeAny (model P w) A (.call (.ref f) ⟨[.int v t1, .int lo t2, .int hi t3], []⟩) (fun r s' => r = .ok (.ret (.bool bv)) ∧ Keeps s s') s := by
  obtain ⟨oc, od, kV, doc, pm, an, cdv, ct, osl, rfl, lk, hcd⟩ := F.ex
  have hbind : BindsTo s (PySem.W.fnOf "is_in" "is_in" (defArgs sIsIn) (defBody sIsIn) (defScope sIsIn) .none kV doc pm an cdv ct) ⟨[.int v t1, .int lo t2, .int hi t3], []⟩ [("value", .int v t1), ("least", .int lo t2), ("most", .int hi t3)] := .of_eq rfl
  refine codeAny_call_function hdep (M.kin _ _ lk) rfl rfl rfl rfl (PySem.W.codeRec_of M.kin hcd) (hbind _ _ _ _ ?_)
  have hkind : ∀ y ∈ ([(("value" : Str), Value.int v t1), (("least" : Str), Value.int lo t2), (("most" : Str), Value.int hi t3)] : List (Str × Value)), (defScope sIsIn).names.lookup y.1 = some .local ∨ ((defScope sIsIn).names.lookup y.1 = some .cell ∧ ((cellsFrom (s.heap.objs.size + 1) (defScope sIsIn).names []).lookup y.1).isSome = true) := fun ⟨n, u⟩ hy => by
    rcases scIsIn.par n (List.of_mem_zip (l₁ := (["value", "least", "most"] : List Str)) (l₂ := [Value.int v t1, Value.int lo t2, Value.int hi t3]) hy).1 with q | q
    · exact .inl q
    · exact .inr ⟨q, PySem.W.cellsFrom_some _ _ _ (.inl q)⟩
  refine wpAny_newFunctionEnv_cells rfl hkind fun env he s1 x => ?_
  have hs : env.scope = defScope sIsIn := by rw [he]; rfl
  have hg : env.globals = mainGlobals := by rw [he]; rfl
  have hbl : env.builtins = builtinsNs := by rw [he]; rfl
  refine ⟨M.nolimit.keeps x.toInCall.keep, codeAny_func ?_⟩
  obtain ⟨h1, tk, rfl, hk⟩ := x.done
  have hns := x.toInCall.ns
  have M1 : Mod K mg h1 := Mod.keeps M hk
  have L : LFr K mg env h1 _ := ⟨by rw [hs]; rfl, hg, hbl, M1, hns⟩
  have kd : ∀ y, env.kindOf y = (defScope sIsIn).names.lookup y := fun y => by
    show env.scope.names.lookup y = _
    rw [hs]
  have gt : ∀ (i : Nat) (y : Str) (u : Value), (["value", "least", "most"] : List Str)[i]? = some y → ([.int v t1, .int lo t2, .int hi t3] : List Value)[i]? = some u → env.kindOf y = some .local →
      bindL env.kindOf ((["value", "least", "most"] : List Str).zip [.int v t1, .int lo t2, .int hi t3]) (fun _ => none) y = some u := fun i y u a b c => bindL_get (by decide) a b c
  refine wpAny_mono (isin_body (P := P) (w := w) (E := fun _ _ => False) T hs L (gt 0 _ _ rfl rfl (by rw [kd]; decide +kernel)) (gt 1 _ _ rfl rfl (by rw [kd]; decide +kernel)) (gt 2 _ _ rfl rfl (by rw [kd]; decide +kernel)) hb) (fun fl s' hq => ?_) fun _ _ z => z.elim
  obtain ⟨rfl, k⟩ := hq
  exact ⟨rfl, Keeps.trans ⟨h1, tk, rfl, hk⟩ k⟩
end
end K56
end
section
set_option Elab.async false
set_option linter.all false
set_option maxRecDepth 100000
set_option maxHeartbeats 4000000
namespace K56
open PySem PySem.Spec PyProof.Rows L2 GxR
/-! ### all(test for x in a tuple), each test true -/
structure GenT (sc scope : Scope) (x : Str) : Prop where
  kind : scope.kind = .function
  co : scope.isCoroutine = false
  cell : ∀ y ∈ scope.names, y.2 ≠ .cell
  dot : scope.names.lookup (".0" : Str) = some NameKind.local
  loc : scope.names.lookup x = some .local
  free : ∀ y ∈ scope.names, y.2 = .free → sc.names.lookup y.1 = some .cell
/-- what the element may lean on: the generator's frame cenv, over s1 (where the def stood when the tuple was ready) -/
structure GFr (X : Cx) (Pt : Addr) (scope : Scope) (s1 : Shared) (cenv : Env) (A' : Around) (s2 : Shared) (m2 : Str → Option Value) : Prop where
  sc : cenv.scope = scope
  cells : cenv.cells = cloFrom X.env.cells scope.names []
  fr : LFr X.K X.mg cenv s2.heap m2
  hd : A'.handled = none
  dp : A'.depth ≤ X.A.depth + 1
  kp : ∀ b o, b ≠ Pt → s1.heap.get? b = some o → s2.heap.get? b = some o
def ElT (X : Cx) (Pt : Addr) (scope : Scope) (x : Str) (elt : Expr) (xs : List V) (s1 : Shared) : Prop :=
  ∀ (cenv : Env) (A' : Around) (E' : Value → Shared → Prop) (i : Nat) (xv : V) (u : Value) (s2 : Shared) (m2 : Str → Option Value), GFr X Pt scope s1 cenv A' s2 m2 → xs[i]? = some xv → RelV xv u → m2 x = some u →
    wpAny (model X.prog X.w) A' (eval elt cenv) (fun y s3 => y = .bool true ∧ Keeps s2 s3) E' s2
def tAllT (Pt : Addr) (te : TE) (R : List V → L2.St → Hp → Prop) : TE := fun σ H Q => te σ H fun v H1 => ∃ a xs, v = .ref a ∧ H1 a = some (.tup xs) ∧ TabG H1 Pt ∧ R xs σ H1 ∧ ∀ H2, Tabbed Pt H1 H2 → Q (.bl true) H2
section
variable {X : Cx} {pins : List (Addr × Obj)} {σ : L2.St} {H : Hp} {s : Shared}
theorem gen_tup {c Pt : Addr} {elt iter : Expr} {x : Str} {px gpos : Pos} {scope : Scope} {te : TE} {k : Nat} {Q' : Value → Shared → Prop} {R : List V → L2.St → Hp → Prop} {Qh : Hp → Prop}
    (hr : Room k X.A) (TB : TabB X.base X.mg c Pt) (hcode : X.env.code = .ref c) (S : GenT X.env.scope scope x) (hi : PE X iter te) (hel : ∀ s1 σ H1 xs, Inv X pins σ H1 s1 → R xs σ H1 → TabG H1 Pt → ElT X Pt scope x elt xs s1)
    (hs : ∀ v, genFold iter X.env v = pure v) (I : Inv X pins σ H s) (h : te σ H fun v H1 => ∃ a xs, v = .ref a ∧ H1 a = some (.tup xs) ∧ TabG H1 Pt ∧ R xs σ H1 ∧ ∀ H2, Tabbed Pt H1 H2 → Qh H2)
    (hQ : ∀ (g n : Nat) s5, (∃ (fp wr : List Addr) (G : Array GenState → Array GenState → Prop) (F : Nat → Value → Prop) (St : Nat → Shared → Prop), WalksS X.prog X.w X.A.in1 g fp wr G n F St ∧ St 0 s5 ∧ TruthOf X.prog X.w X.A.in1 F (fun _ => true) ∧ ∀ s', Moved wr G s5 s' → ∃ H2, Qh H2 ∧ Inv X pins σ H2 s') → Q' (.ref g) s5) :
    wpAny (model X.prog X.w) X.A (eval (.GeneratorExp elt [⟨.Name x px, iter, [], 0⟩] scope gpos) X.env) Q' X.xe s := by
  have hfree : ∀ y ∈ scope.names, y.2 = .free → ∃ c, X.env.cells.lookup y.1 = some c := fun y hy e => I.ok.has y.1 (.inl (S.free y hy e))
  refine wpAny_GeneratorExp_walksQD hr.hd S.co (closure_ok hfree) S.cell S.dot S.loc S.kind (by have := hr.dp; omega) ?_ hs
  refine thn (hi.run pins s σ H _ I h) fun xv s1 ⟨v, H1, I1, r1, q1⟩ => ?_
  obtain ⟨a, xs, rfl, hq, ⟨ps, hP, ht⟩, hR, q1⟩ := q1
  cases r1
  obtain ⟨its, rv, p, hz⟩ := I1.tuple (SqT.of hq)
  have ptu : s1.heap.IsTuple a its.toArray := p
  refine wpAny_pyIter_tuple ptu ?_
  generalize ho : ({ cls := .type "tuple_iterator", data := .fields #[.ref a, .int 0 0] } : Obj) = o
  have hPs : s1.heap.get? Pt = some { cls := .none, data := .fields ps } := I1.hok Pt _ hP
  have hPlt : Pt < s1.heap.objs.size := Heap.lt_size hPs
  have hP2 : (s1.heap.push o).get? Pt = some { cls := .none, data := .fields ps } := Heap.get?_push_of_some _ hPs
  have cd : PySem.W.CodeHd (s1.heap.push o) c Pt := TB.code.keeps fun b u e => Heap.get?_push_of_some _ (I1.bk b u e)
  have lim2 : (s1.heap.push o).NoLimit := I1.nolimit.push o
  have hal : a < s1.heap.objs.size := I1.hok.lt hq
  have haI : a ≠ s1.heap.objs.size := Nat.ne_of_lt hal
  have haP : a ≠ Pt := ne_of hq hP (fun z => by cases z)
  have hit : (s1.heap.push o).IsTupleIter s1.heap.objs.size a 0 := by
    rw [← ho]
    exact ⟨_, Heap.get?_push_size _ rfl, rfl, rfl⟩
  have W : ∀ A' : Around, A'.handled = none → Walks X.prog X.w A' s1.heap.objs.size [s1.heap.objs.size, a] [s1.heap.objs.size] its.toArray.size (fun i v => its.toArray[i]? = some v) (fun i h => h.IsTupleIter s1.heap.objs.size a i ∧ h.IsTuple a its.toArray) := fun A' hA => Walks.tuple hA _ _ haI _
  have elT : ElT X Pt scope x elt xs s1 := hel s1 σ H1 xs I1 hR ⟨ps, hP, ht⟩
  have cont : ∀ (code : Value) (h3 : Heap) (tk : Nat) (ps' : Array Value), Heap.ExtBut Pt (s1.heap.push o) h3 → (s1.heap.push o).objs.size ≤ h3.objs.size → h3.get? Pt = some { cls := .none, data := .fields ps' } → (∃ more, ps' = ps ++ more) → TriplesOk ps'.toList →
      wpAny (model X.prog X.w) X.A (builtinsFor X.env.globals X.env.builtins) (fun bi s₄ =>
        ∃ Ia fp wr n₀ Pf St₀ pz F, Value.ref s1.heap.objs.size = .ref Ia ∧ (∀ A' : Around, A'.handled = none → Walks X.prog X.w A' Ia fp wr n₀ Pf St₀) ∧ St₀ 0 s₄.heap ∧ (∀ b ∈ fp, b < s₄.heap.objs.size) ∧ s₄.heap.NoLimit ∧ cStatics ∉ wr ∧
          (∀ href : Heap, (∀ b o, s₄.heap.get? b = some o → href.get? b = some o) →
            QuietGenD X.prog X.w (genEnv scope (cloFrom X.env.cells scope.names []) s₄.heap.objs.size code bi X.env) x [] elt (List.range s₄.heap.objs.size) wr Pf pz F href (X.A.depth + 1) (X.A.units + 8)) ∧
          (∀ a h₅ tk gs, gs.bare = true → s₄.heap.objs.size < a → h₅.objs.size = a + 1 → (∀ b o, s₄.heap.get? b = some o → h₅.get? b = some o) →
            WalksS X.prog X.w X.A.in4 a (a :: s₄.heap.objs.size :: List.range s₄.heap.objs.size) (s₄.heap.objs.size :: wr) (GenOnlyQ s₄.gens.size) (passing pz n₀ 0).length
              (fun j y => ∃ i, (passing pz n₀ 0)[j]? = some i ∧ F i y) (GenAt X.prog X.w X.A.in4 a s₄.gens.size s₄.heap.objs.size (List.range s₄.heap.objs.size) wr pz n₀ F) →
            GenAt X.prog X.w X.A.in4 a s₄.gens.size s₄.heap.objs.size (List.range s₄.heap.objs.size) wr pz n₀ F 0 { s₄ with gens := s₄.gens.push gs, toks := tk, heap := h₅ } →
            Q' (.ref a) { s₄ with gens := s₄.gens.push gs, toks := tk, heap := h₅ })) X.xe { s1 with heap := h3, toks := tk } := by
    intro code h3 tk ps' hx hsz hP3 hmore ht3
    obtain ⟨bm, ob, e1, e2, e3, e4, e5, e6, e7, e8⟩ := TB.bm
    have hcP : cStatics ≠ Pt := fun e => by
      obtain ⟨_, hns, _⟩ := I1.nolimit
      obtain ⟨o', es, ep, ho, hd, _⟩ := hns
      rw [e, hPs] at ho
      cases ho
      cases hd
    have hcl : cStatics < s1.heap.objs.size := let ⟨_, hns, _⟩ := I1.nolimit; hns.lt
    have sz2 : (s1.heap.push o).objs.size = s1.heap.objs.size + 1 := Heap.size_push ..
    have hsz' : s1.heap.objs.size + 1 ≤ h3.objs.size := by rw [← sz2]; exact hsz
    have low : ∀ b : Addr, b < s1.heap.objs.size → b < h3.objs.size := fun b hb => Nat.lt_of_lt_of_le (Nat.lt_succ_of_lt hb) hsz'
    have keep3 : ∀ b u, b ≠ Pt → s1.heap.get? b = some u → h3.get? b = some u := fun b u hb e => hx b u hb (Heap.get?_push_of_some _ e)
    have kB : ∀ b u, X.base.get? b = some u → s1.heap.get? b = some u ∧ b ≠ Pt := fun b u e => by
      obtain ⟨q1, q2⟩ := I1.bs b u e
      exact ⟨q1, fun z => by rw [z, hP] at q2; cases q2⟩
    refine wpAny_builtinsFor (m := X.mg) (by rw [I1.ok.glob]; exact ((I1.mod.glob.keeps I1.bk).push o).extBut hx TB.gP) e1 e2 (keep3 _ _ e4 (I1.bk _ _ e5)) e6 e7 e8 ?_
    refine ⟨s1.heap.objs.size, [s1.heap.objs.size, a], [s1.heap.objs.size], its.toArray.size, (fun i v => its.toArray[i]? = some v), (fun i h => h.IsTupleIter s1.heap.objs.size a i ∧ h.IsTuple a its.toArray), (fun _ => true), (fun i y => y = .bool true), rfl, W, ?_, ?_, lim2.extBut hx hcP, ?_, ?_, ?_⟩
    · refine ⟨hit.at fun u e => hx _ u (Nat.ne_of_gt hPlt) e, ptu.at fun u e => keep3 _ u haP e⟩
    · intro b hb
      rcases List.mem_cons.mp hb with z | z
      · rw [z]
        exact hsz'
      · rcases List.mem_cons.mp z with z | z
        · rw [z]
          exact low a hal
        · cases z
    · intro z
      rcases List.mem_cons.mp z with z | z
      · exact Nat.ne_of_lt hcl z
      · cases z
    · intro href hhref
      refine ⟨fun A' E' i v s₂ m₂ hA hdA huA hPv hn hm hk => ?_, fun A' E' i v s₂ m₂ hA hdA huA hPv hp hn hm hk => ?_⟩
      · simp only [List.forIn_nil]
        exact wpAny_pure ⟨rfl, keeps_tok s₂ s₂.toks⟩
      · have kp2 : ∀ b u, b ≠ Pt → s1.heap.get? b = some u → s₂.heap.get? b = some u := fun b u hb e => by
          have hlt := Heap.lt_size e
          refine hk b (List.mem_range.mpr ?_) (fun z => ?_) u (hhref b u (keep3 b u hb e))
          · exact low b hlt
          · rcases List.mem_cons.mp z with z | z
            · rw [z] at hlt
              exact Nat.lt_irrefl _ hlt
            · cases z
        have hvL : xs.length = its.length := rv.length
        have hv' : its[i]? = some v := by simpa using hPv
        obtain ⟨xv, hxv, rxv⟩ : ∃ xv, xs[i]? = some xv ∧ RelV xv v := by
          have hi := (List.getElem?_eq_some_iff.mp hv').1
          obtain ⟨u', hu', ru'⟩ := rv.get (List.getElem?_eq_getElem (show i < xs.length by omega))
          rw [hv'] at hu'
          cases hu'
          exact ⟨_, List.getElem?_eq_getElem (by omega), ru'⟩
        refine elT _ A' E' i xv v s₂ m₂ ⟨rfl, rfl, ⟨S.kind, I1.ok.glob, rfl, ?_, hn⟩, hA, hdA, kp2⟩ hxv rxv hm
        exact Mod.keeps I1.mod fun b u e => kp2 b u (kB b u e).2 (kB b u e).1
    · intro g h5 tk5 gs hgb hag hsz5 hk5 W5 hat
      simp only [GxR.passing_true, List.length_range] at W5
      refine hQ g _ _ ⟨_, _, _, _, _, W5.in4_1, hat, ?_, fun s' hm => ?_⟩
      · intro j y sj Qj Ej hy hQj
        obtain ⟨i, hij, rfl⟩ := hy
        exact wpAny_truthy_bool hQj
      · obtain ⟨more, em⟩ := hmore
        have nwr : ∀ b u, s1.heap.get? b = some u → b ∉ h3.objs.size :: [s1.heap.objs.size] := fun b u e hb => by
          have hl := Heap.lt_size e
          rcases List.mem_cons.mp hb with z | z
          · rw [z] at hl
            exact Nat.lt_irrefl _ (Nat.lt_of_lt_of_le hl (Nat.le_of_succ_le hsz'))
          · rcases List.mem_cons.mp z with z | z
            · rw [z] at hl
              exact Nat.lt_irrefl _ hl
            · cases z
        have J := inv_tab (more := more) (h' := s'.heap) (g' := s'.gens) (d' := s'.drawn) (t' := s'.toks) I1 hP (fun b u hb e => hm.heap b u (nwr b u e) (hk5 b u (keep3 b u hb e)))
          (by rw [← em]; exact hm.heap Pt _ (nwr Pt _ hPs) (hk5 Pt _ hP3)) (AllBare.movedS (I1.bare.push hgb) hm)
        rw [sh_eta s1 s' hm.os] at J
        refine ⟨upd H1 Pt (.tbl (ps ++ more)), q1 _ ⟨⟨ps ++ more, upd_same, by rw [← em]; exact ht3⟩, fun b hb => upd_ne hb⟩, J⟩
  refine ⟨lim2, ?_⟩
  cases hf : codeAmong gpos ps.toList with
  | none =>
    refine wpAny_genexprCodeX hcode (cd.code hP2 ht) (cd.tab hP2) hf fun c' h' tk hx hge hlt hco' _ htab' _ => ?_
    obtain ⟨o1, vs, f1, tf, fl, tg, inF, tx, tt, op, _, _, _, _, _, _, _, _, _, htr, _⟩ := hco'
    exact cont _ h' tk _ hx (Nat.le_trans hge (Nat.le_of_lt hlt)) htab'.2 ⟨_, rfl⟩ htr
  | some cv =>
    refine wpAny_genexprCode_hit hcode (cd.code hP2 ht) hf ?_
    exact cont cv (s1.heap.push o) s1.toks ps (Heap.ExtBut.refl _ _) (Nat.le_refl _) hP2 ⟨#[], by simp⟩ ht
theorem pe_allT {c Pt : Addr} {elt iter : Expr} {x : Str} {px p pos gpos : Pos} {scope : Scope} {te : TE} {k : Nat} {R : List V → L2.St → Hp → Prop}
    (hr : Room k X.A) (hg : Gl X "all") (hm : X.mg "all" = none) (TB : TabB X.base X.mg c Pt) (hcode : X.env.code = .ref c) (S : GenT X.env.scope scope x) (hi : PE X iter te) (hel : ∀ pins s1 σ H1 xs, Inv X pins σ H1 s1 → R xs σ H1 → TabG H1 Pt → ElT X Pt scope x elt xs s1)
    (hs : ∀ v, genFold iter X.env v = pure v)
    (he : starEach [.GeneratorExp elt [⟨.Name x px, iter, [], 0⟩] scope gpos] X.env = (false, eval (.GeneratorExp elt [⟨.Name x px, iter, [], 0⟩] scope gpos) X.env) :: starEach [] X.env := by rfl) :
    PE X (.Call (.Name "all" p) [.GeneratorExp elt [⟨.Name x px, iter, [], 0⟩] scope gpos] [] pos) (tAllT Pt te R) := by
  refine ⟨fun pins s σ H Q I h => ?_⟩
  refine wpAny_Call_Name_kw (ld_blt I hg hm (u := .builtin "all") (by decide +kernel) ?_)
  refine PyProof.Rows.callWith_builtin1 ?_ he (by rfl)
  rw [he]
  show wpAny _ _ (spliced ((false, eval (.GeneratorExp elt [⟨.Name x px, iter, [], 0⟩] scope gpos) X.env) :: backTo pos (starEach [] X.env))) _ _ s
  refine Calls.spliced_cons (gen_tup (Qh := fun H2 => Q (.bl true) H2) hr TB hcode S hi (hel pins) hs I h fun g n s5 hG => ?_)
  obtain ⟨fp, wr, G, F, St, W, hst, htr, hI⟩ := hG
  refine Calls.spliced_nil ?_
  refine call_all_walkS (W.self 0 _ _ _ hst ⟨g, fp, wr, G, _, F, St, _, rfl, W, hst, htr, fun s' hmv => ?_⟩)
  obtain ⟨H2, hT, J⟩ := hI s' hmv
  refine ⟨.bl _, H2, J, rfl, ?_⟩
  have e : ((List.range n).all fun _ => true) = true := by simp
  rw [e]
  exact hT
end
end K56
end
section
set_option Elab.async false
set_option linter.all false
set_option maxRecDepth 100000
set_option maxHeartbeats 4000000
namespace K56
open PySem PySem.Spec PyProof.Rows L2 GxR
/-! ### the data as they stand -/
def Row (H : Hp) (a : Addr) (xs : List Int) : Prop := H a = some (.tup (xs.map V.int))
abbrev PairsAt (H : Hp) : List Addr → Arcs → Prop := Paired fun p q => H p = some (.tup [.int q.1, .int q.2])
def Web (H : Hp) (a : Addr) (n : Nat) (arcs : Arcs) : Prop := ∃ c ps, H a = some (.tup [.int n, .ref c]) ∧ H c = some (.tup (ps.map V.ref)) ∧ PairsAt H ps arcs
abbrev RowsAt (H : Hp) : List Addr → List (List Int) → Prop := Paired fun p r => Row H p r
theorem Paired.get {α β : Type} {F : α → β → Prop} : ∀ {l : List α} {m : List β} {i : Nat} {b : β}, Paired F l m → m[i]? = some b → ∃ a, l[i]? = some a ∧ F a b
  | _, _, _, _, .nil, e => by simp at e
  | _, _, 0, _, .cons r _, e => by simp at e; subst e; exact ⟨_, rfl, r⟩
  | _, _, i + 1, _, .cons _ t, e => by
    obtain ⟨a, h1, h2⟩ := Paired.get (i := i) t (by simpa using e)
    exact ⟨a, by simpa using h1, h2⟩
theorem Paired.get' {α β : Type} {F : α → β → Prop} : ∀ {l : List α} {m : List β} {i : Nat} {a : α}, Paired F l m → l[i]? = some a → ∃ b, m[i]? = some b ∧ F a b
  | _, _, _, _, .nil, e => by simp at e
  | _, _, 0, _, .cons r _, e => by simp at e; subst e; exact ⟨_, rfl, r⟩
  | _, _, i + 1, _, .cons _ t, e => by
    obtain ⟨a, h1, h2⟩ := Paired.get' (i := i) t (by simpa using e)
    exact ⟨a, by simpa using h1, h2⟩
theorem Paired.snoc {α β : Type} {F : α → β → Prop} : ∀ {l : List α} {m : List β} {a : α} {b : β}, Paired F l m → F a b → Paired F (l ++ [a]) (m ++ [b])
  | _, _, _, _, .nil, h => .cons h .nil
  | _, _, _, _, .cons r t, h => .cons r (Paired.snoc t h)
theorem Paired.app {α β : Type} {F : α → β → Prop} : ∀ {l l' : List α} {m m' : List β}, Paired F l m → Paired F l' m' → Paired F (l ++ l') (m ++ m')
  | _, _, _, _, .nil, h => h
  | _, _, _, _, .cons r t, h => .cons r (Paired.app t h)
/-- the tuples stay -/
def TupS (H H' : Hp) : Prop := ∀ b xs, H b = some (.tup xs) → H' b = some (.tup xs)
theorem TupS.row {H H' : Hp} (t : TupS H H') {a : Addr} {xs : List Int} (h : Row H a xs) : Row H' a xs := t _ _ h
theorem TupS.pairs {H H' : Hp} (t : TupS H H') {ps : List Addr} {arcs : Arcs} (h : PairsAt H ps arcs) : PairsAt H' ps arcs := L2.Paired.mapP h fun _ _ z => t _ _ z
theorem TupS.rows {H H' : Hp} (t : TupS H H') {ps : List Addr} {rs : List (List Int)} (h : RowsAt H ps rs) : RowsAt H' ps rs := L2.Paired.mapP h fun _ _ z => t _ _ z
theorem TupS.web {H H' : Hp} (t : TupS H H') {a : Addr} {n : Nat} {arcs : Arcs} (h : Web H a n arcs) : Web H' a n arcs := by
  obtain ⟨c, ps, h1, h2, h3⟩ := h
  exact ⟨c, ps, t _ _ h1, t _ _ h2, t.pairs h3⟩
theorem TupS.trans {H H1 H2 : Hp} (a : TupS H H1) (b : TupS H1 H2) : TupS H H2 := fun c o h => b c o (a c o h)
theorem same_tups {H H' : Hp} (s : Same H H') : TupS H H' := fun b xs e => s b _ e
theorem same_new {H0 H : Hp} {p : Addr} {o : HO} (s : Same H0 H) (h : H p = none) : Same H0 (upd H p o) := fun b u e => by
  have e1 := s b u e
  rw [upd_ne (ne_of_none e1 h)]
  exact e1
theorem same_own {H0 H : Hp} {p : Addr} {o : HO} (s : Same H0 H) (h : H0 p = none) : Same H0 (upd H p o) := fun b u e => by
  have e1 := s b u e
  rw [upd_ne (ne_of_none e h)]
  exact e1
theorem same_mk1 {H : Hp} {p : Addr} {o : HO} (h : H p = none) : Same H (upd H p o) := same_new (Same.refl H) h

/-! ### the tables of code objects -/
structure Tabs4 where
  pArc : Addr
  pLog : Addr
  pGoal : Addr
  pLam : Addr
structure Tabs4.Ok (T : Tabs4) : Prop where
  a : T.pArc ≠ T.pLam
  l : T.pLog ≠ T.pLam
  g : T.pGoal ≠ T.pLam
abbrev qLam : Str := "log_to.<locals>.<lambda>"
structure Tb (T : Tabs4) (H : Hp) : Prop where
  arc : TabG H T.pArc
  log : TabG H T.pLog
  goal : TabG H T.pGoal
  lam : LamX.TabS H T.pLam qLam
/-- from H0 to H: all but the tables as it was, the tables well -/
structure Sit (T : Tabs4) (H0 H : Hp) : Prop where
  ext : LamX.ExtN H0 H
  tb : Tb T H
section
variable {T : Tabs4} {H0 H H1 : Hp}
theorem Sit.refl (t : Tb T H) : Sit T H H := ⟨LamX.ExtN.refl H, t⟩
theorem Sit.trans (a : Sit T H0 H) (b : Sit T H H1) : Sit T H0 H1 := ⟨a.ext.trans b.ext, b.tb⟩
theorem Sit.tups (a : Sit T H0 H) : TupS H0 H := fun b xs e => a.ext b _ e (fun ps z => by cases z)
theorem tabG_same {P : Addr} (t : TabG H P) (s : Same H H1) : TabG H1 P := let ⟨ps, a, b⟩ := t; ⟨ps, s _ _ a, b⟩
theorem Tb.same (t : Tb T H) (s : Same H H1) : Tb T H1 := ⟨tabG_same t.arc s, tabG_same t.log s, tabG_same t.goal s, t.lam.ext s⟩
theorem Sit.same (a : Sit T H0 H) (s : Same H H1) : Sit T H0 H1 := ⟨a.ext.trans (LamX.ExtN.of s), a.tb.same s⟩
theorem Sit.of_same (t : Tb T H) (s : Same H H1) : Sit T H H1 := (Sit.refl t).same s
theorem Sit.new {p : Addr} {o : HO} (a : Sit T H0 H) (h : H p = none) : Sit T H0 (upd H p o) := a.same (same_mk1 h)
theorem tabG_upd {P p : Addr} {o : HO} (t : TabG H P) (h : ∀ ps, H p ≠ some (.tbl ps)) : TabG (upd H p o) P := by
  obtain ⟨ps, a, b⟩ := t
  refine ⟨ps, ?_, b⟩
  rw [upd_ne (fun z => h ps (by rw [← z]; exact a))]
  exact a
theorem TabS.upd {P p : Addr} {q : Str} {o : HO} (t : LamX.TabS H P q) (h : ∀ ps, H p ≠ some (.tbl ps)) (h2 : ∀ c q, H p ≠ some (LamX.CodeO c q)) : LamX.TabS (upd H p o) P q := by
  obtain ⟨ps, a, b, c⟩ := t
  refine ⟨ps, ?_, b, fun pos cv hc => ?_⟩
  · rw [upd_ne (fun z => h ps (by rw [← z]; exact a))]
    exact a
  · obtain ⟨d, e1, e2⟩ := c pos cv hc
    refine ⟨d, e1, ?_⟩
    rw [upd_ne (fun z => h2 _ _ (by rw [← z]; exact e2))]
    exact e2
theorem Tb.upd {p : Addr} {o : HO} (t : Tb T H) (h : ∀ ps, H p ≠ some (.tbl ps)) (h2 : ∀ c q, H p ≠ some (LamX.CodeO c q)) : Tb T (upd H p o) := ⟨tabG_upd t.arc h, tabG_upd t.log h, tabG_upd t.goal h, TabS.upd t.lam h h2⟩
theorem no_tbl {p : Addr} {u : HO} (h : H p = some u) (n : ∀ ps, u ≠ .tbl ps := by intro ps z; cases z) : ∀ ps, H p ≠ some (.tbl ps) := fun ps z => by
  rw [h] at z
  exact n ps (Option.some.inj z)
theorem no_code {p : Addr} {u : HO} (h : H p = some u) (n : ∀ f, u ≠ .ext f := by intro ps z; cases z) : ∀ c q, H p ≠ some (LamX.CodeO c q) := fun c q z => by
  rw [h] at z
  exact n _ (Option.some.inj z)
/-- nothing but perhaps a table stands at p -/
def Fre (H0 : Hp) (p : Addr) : Prop := ∀ u, H0 p = some u → ∃ ps, u = .tbl ps
theorem Sit.fre (a : Sit T H0 H) {p : Addr} (h : H p = none) : Fre H0 p := fun u e => by
  refine Classical.byContradiction fun n => ?_
  have := a.ext p u e (fun ps z => n ⟨ps, z⟩)
  rw [h] at this
  cases this
/-- an object of our own is changed -/
theorem Sit.own {p : Addr} {u o : HO} (a : Sit T H0 H) (h0 : Fre H0 p) (h : H p = some u) (n : ∀ ps, u ≠ .tbl ps := by intro ps z; cases z) (n2 : ∀ f, u ≠ .ext f := by intro ps z; cases z) : Sit T H0 (upd H p o) := by
  refine ⟨fun b w e k => ?_, a.tb.upd (no_tbl h n) (no_code h n2)⟩
  have nb : b ≠ p := fun z => by
    rw [z] at e
    obtain ⟨ps, e2⟩ := h0 w e
    exact k ps e2
  rw [upd_ne nb]
  exact a.ext b w e k
theorem Sit.tabbed {P : Addr} (ok : P ≠ T.pLam) (a : Sit T H0 H) (hP : TabG H P) (t : Tabbed P H H1) : Sit T H0 H1 := by
  obtain ⟨⟨ps, h1, h2⟩, h3⟩ := t
  have tg : ∀ R, TabG H R → TabG H1 R := fun R ⟨qs, q1, q2⟩ => by
    by_cases e : R = P
    · rw [e]; exact ⟨ps, h1, h2⟩
    · exact ⟨qs, by rw [h3 R e]; exact q1, q2⟩
  obtain ⟨p0, hP0, _⟩ := hP
  have ex : LamX.ExtN H H1 := fun b o e n => by
    rw [h3 b (fun z => n p0 (Option.some.inj (e.symm.trans (by rw [z]; exact hP0))))]
    exact e
  refine ⟨a.ext.trans ex, tg _ a.tb.arc, tg _ a.tb.log, tg _ a.tb.goal, ?_⟩
  obtain ⟨qs, q1, q2, q3⟩ := a.tb.lam
  refine ⟨qs, by rw [h3 _ (Ne.symm ok)]; exact q1, q2, fun pos cv hc => ?_⟩
  obtain ⟨c, e1, e2⟩ := q3 pos cv hc
  exact ⟨c, e1, ex _ _ e2 LamX.codeO_ne⟩
end

/-! ### a def whose code object is told -/
structure FunC (K : PySem.W.Frag) (x qual : Str) (st : Stmt) (f : Addr) (fd : FuncData) (c : Addr) : Prop where
  ex : ∃ (oc : Value) (od : Option Addr) (kV doc pm : Value) (an : Option Addr) (ct : Value) (osl : Array (Option Value)),
    fd = PySem.W.fnOf x qual (defArgs st) (defBody st) (defScope st) .none kV doc pm an (.ref c) ct ∧ K.lookup f = some ⟨oc, od, .func fd, osl⟩ ∧ PySem.W.codeIn K (.ref c) qual = true
  kp : PySem.W.keepIn K (.ref f) = true
section
variable {P : Program} {w : World} {K : PySem.W.Frag} {mg : Str → Option Value} {base : Heap}
theorem FunC.fn {x qual : Str} {st : Stmt} {f : Addr} {fd : FuncData} {c : Addr} (F : FunC K x qual st f fd c) : Fun K x qual st f fd := by
  obtain ⟨oc, od, kV, doc, pm, an, ct, osl, h1, h2, h3⟩ := F.ex
  exact ⟨⟨oc, od, kV, doc, pm, an, .ref c, ct, osl, h1, h2, h3⟩, F.kp⟩
theorem FunC.ok {x qual : Str} {st : Stmt} {f : Addr} {fd : FuncData} {c : Addr} {N ps : List Str} {k : Nat} {sp : Sp} (F : FunC K x qual st f fd c) (S : FnScope N ps (defScope st)) (len : ∀ vs H Q E, sp vs H Q E → vs.length = ps.length)
    (hbody : ∀ (A : Around) (outer : List Env) (s : Shared) (H : Hp) (vs : List V) (Q : VK) (E : XK), Room k (A.deeper (envOfC qual (defScope st) s.heap.objs.size f (.ref c))) → sp vs H Q E →
      ∃ t, PSs (cxOf CX0 P w K mg base N qual (defScope st) f (.ref c) A outer s H E).nox (defBody st) t ∧ t { nx := fun _ H' => Q .non H', rt := Q } (L2.start N vs) H) : FnOk P w K mg base CX0 (k + 1) f fd ps sp := by
  obtain ⟨oc, od, kV, doc, pm, an, ct, osl, rfl, lk, hcd⟩ := F.ex
  refine fn_of lk hcd S len fun A outer s H vs Q E hr hsp => ?_
  obtain ⟨t, h, q⟩ := hbody A outer s H vs Q E hr hsp
  exact ⟨t, h.nox, q⟩

/-! ### is_in -/
def spIsIn : Sp := fun vs H Q _ => ∃ v lo hi : Int, vs = [.int v, .int lo, .int hi] ∧ Q (.bl (decide (lo ≤ v ∧ v ≤ hi))) H
theorem ok_isin {f : Addr} {fd : FuncData} (F : Fun K "is_in" "is_in" sIsIn f fd) (T : Txt mg) : FnOk P w K mg base CX0 1 f fd ["value", "least", "most"] spIsIn := by
  refine F.ok scIsIn (fun vs H Q E h => ?_) (fun cdv A outer s H vs Q E hr h => ?_)
  · obtain ⟨v, lo, hi, rfl, _⟩ := h
    rfl
  · obtain ⟨v, lo, hi, rfl, k⟩ := h
    refine ⟨_, pss_one (ps_ret (pe_and (pe_callB call_isi (by rfl) T.isi (by decide +kernel) (pa_cons (pv 0) (pa_cons (pe_bltn (v := .ty "int") (u := .type "int") (by rfl) T.int (by decide +kernel) rfl) pa_nil)))
      (pe_and (pe_not (pe_callB call_isi (by rfl) T.isi (by decide +kernel) (pa_cons (pv 0) (pa_cons (pe_bltn (v := .ty "bool") (u := .type "bool") (by rfl) T.bool (by decide +kernel) rfl) pa_nil))))
        (pe_one (pe_chain op_le op_le (pv 1) (pv 0) (pv 2)))))), ?_⟩
    refine ⟨_, rfl, _, _, _, _, true, rfl, .ty _, .base (.int _), kit_ty (by decide +kernel), true, rfl, iteT ?_⟩
    refine ⟨_, rfl, _, _, _, _, false, rfl, .ty _, .base (.int _), kit_ty (by decide +kernel), false, rfl, true, rfl, iteT ?_⟩
    refine ⟨_, rfl, _, rfl, _, _, rfl, rfl, _, rfl, ?_⟩
    refine ite2 (fun c1 => ?_) (fun c1 => ?_)
    · refine ⟨_, rfl, _, _, rfl, rfl, ?_⟩
      have c1' := of_decide_eq_true c1
      have e : decide (lo ≤ v ∧ v ≤ hi) = decide (v ≤ hi) := by simp [c1']
      rw [e] at k
      exact k
    · have c1' : ¬ lo ≤ v := fun z => c1 (decide_eq_true z)
      have e : decide (lo ≤ v ∧ v ≤ hi) = false := by simp [c1']
      rw [e] at k
      exact k
end
end K56
end
section
set_option Elab.async false
set_option linter.all false
set_option maxRecDepth 100000
set_option maxHeartbeats 1000000
namespace K56
open PySem PySem.Spec PyProof.Rows L2 GxR
/-! ### the elements of the generator expressions -/
def genTB (sc scope : Scope) (x : Str) : Bool :=
  decide (scope.kind = .function) && !scope.isCoroutine && decide (scope.names.lookup (".0" : Str) = some NameKind.local) && decide (scope.names.lookup x = some NameKind.local) &&
    scope.names.all fun y => !decide (y.2 = .cell) && (!decide (y.2 = .free) || decide (sc.names.lookup y.1 = some .cell))
theorem genT_by {sc scope : Scope} {x : Str} (h : genTB sc scope x = true) : GenT sc scope x := by
  unfold genTB at h
  simp only [Bool.and_eq_true, Bool.or_eq_true, Bool.not_eq_true', decide_eq_true_eq, decide_eq_false_iff_not, List.all_eq_true] at h
  obtain ⟨⟨⟨⟨h1, h2⟩, h3⟩, h4⟩, h5⟩ := h
  exact ⟨h1, h2, fun y hy => (h5 y hy).1, h3, h4, fun y hy e => (h5 y hy).2.elim (fun z => absurd e z) id⟩
section
variable {X : Cx} {Pt : Addr} {scope : Scope} {s1 : Shared} {cenv : Env} {A' : Around} {s2 : Shared} {m2 : Str → Option Value}
/-- a captured name's value -/
theorem free_val {pins : List (Addr × Obj)} {σ : L2.St} {H1 : Hp} {i : Nat} {x : Str} {v : V} (I : Inv X pins σ H1 s1) (hP : TabG H1 Pt) (G : GFr X Pt scope s1 cenv A' s2 m2) (hN : X.N[i]? = some x) (hσ : σ[i]? = some (some v)) (hc : X.env.scope.names.lookup x = some .cell)
    (hf : scope.names.lookup x = some .free) : ∃ u c, RelV v u ∧ cenv.cells.lookup x = some c ∧ s2.heap.IsCell c (some u) := by
  obtain ⟨m, hn, hl⟩ := I.loc
  obtain ⟨u, r, l⟩ := hl i x v hN hσ (.inr (.inl hc))
  rcases l with ⟨k, _⟩ | ⟨_, c, hcl, o, ho, hd⟩
  · have k : X.env.scope.names.lookup x = some .local := k
    rw [hc] at k
    cases k
  · have hy : (x, NameKind.free) ∈ scope.names := PySem.mem_of_lookup hf
    obtain ⟨c2, h2⟩ := mem_lookup (cloFrom_has (cells := X.env.cells) (acc := []) hy)
    have e : c2 = c := by
      rcases cloFrom_mem (PySem.mem_of_lookup h2) with hm | ⟨_, h3⟩
      · cases hm
      · rw [h3, hcl] <;> rfl
    refine ⟨u, c, r, by rw [G.cells, h2, e], o, G.kp c o (fun z => ?_) ho, hd⟩
    obtain ⟨ps, q, _⟩ := hP
    have := I.freeC x c hcl
    rw [z, q] at this
    cases this
/-- t[j], t a captured tuple, j written -/
theorem low_ix {pins : List (Addr × Obj)} {σ : L2.St} {H1 : Hp} {i : Nat} {x : Str} {a : Addr} {xs : List V} {j : Nat} {v : V} {p1 p2 p3 : Pos} {kk : Nat} {E : Value → Shared → Prop} {Q : Value → Shared → Prop} (I : Inv X pins σ H1 s1) (hP : TabG H1 Pt) (G : GFr X Pt scope s1 cenv A' s2 m2) (hN : X.N[i]? = some x) (hσ : σ[i]? = some (some (.ref a)))
    (hc : X.env.scope.names.lookup x = some .cell) (hf : scope.names.lookup x = some .free) (ha : H1 a = some (.tup xs)) (hx : xs[j]? = some v) (hj : j < 1000)
    (h : ∀ u tk, RelV v u → Q u { s2 with toks := tk }) (hd : (x == ("__debug__" : Str)) = false := by decide) (hcd : (x == ("__classdict__" : Str)) = false := by decide) :
    wpAny (model X.prog X.w) A' (eval (.Subscript (.Name x p1) (.Constant (.int (j : Int)) kk p2) p3) cenv) Q E s2 := by
  obtain ⟨u0, c, r0, hcl, hz⟩ := free_val I hP G hN hσ hc hf
  cases r0
  obtain ⟨its, rv, ⟨o, ho, hcls, n, hdt⟩, hsz⟩ := I.tuple (SqT.of ha)
  have naP : a ≠ Pt := by
    obtain ⟨ps, q, _⟩ := hP
    exact ne_of ha q (fun z => by cases z)
  have ht : IsTup s2.heap a its.toArray := ⟨o, G.kp a o naP ho, hcls, n, hdt⟩
  obtain ⟨u, hu, ru⟩ := rv.get hx
  have hl := rv.length
  have hjl := (List.getElem?_eq_some_iff.mp hx).1
  refine Subscript_ (G.fr.free (by rw [show cenv.kindOf x = cenv.scope.names.lookup x from rfl, G.sc]; exact hf) hcl hz ?_ hd hcd)
  refine wpAny_Constant_int ?_
  have ht' : IsTup ({ s2 with toks := s2.toks + 1 } : Shared).heap a its.toArray := ht
  have hsi : seqIndex? (j : Int) its.toArray.size = some j := by
    rw [List.size_toArray, ← hl]
    exact (ixN_seq (n := xs.length) (i := (j : Int)) (j := j) (by unfold ixN; rw [if_pos (by omega), if_pos (by omega)]; simp)).1
  refine subscriptTail_builtinR (x := u) ht'.typeIs slot_tuple_getitem.lookup ?_ rfl
  exact getItem_tuple (k := (j : Int)) (j := j) (Q := fun r s' => r = u ∧ Q r s') ht' (by omega) (by omega) hsi (by simpa using hu) ⟨rfl, h u _ ru⟩
/-- is_in(one, lo, HI) -/
theorem el_isin {f : Addr} {fd : FuncData} {xs : List V} {lo hi : Int} {hiE : Expr} {p1 p2 p3 p4 : Pos} {j : Nat} (F : Fun X.K "is_in" "is_in" sIsIn f fd) (gF : X.mg "is_in" = some (.ref f)) (T : Txt X.mg) (k1 : scope.names.lookup ("is_in" : Str) = some .globalImplicit) (k2 : scope.names.lookup ("one" : Str) = some .local)
    {k : Nat} (hr : Room k X.A) (hv : ∀ v ∈ xs, ∃ i, v = .int i ∧ lo ≤ i ∧ i ≤ hi)
    (hHI : ∀ (cenv : Env) (A' : Around) (E' : Value → Shared → Prop) (s2 : Shared) (m2 : Str → Option Value) (Q : Value → Shared → Prop), GFr X Pt scope s1 cenv A' s2 m2 → (∀ t tk, Q (.int hi t) { s2 with toks := tk }) → wpAny (model X.prog X.w) A' (eval hiE cenv) Q E' s2)
    (hse : ∀ env, starEach [(.Name "one" p2), (.Constant (.int lo) j p3), hiE] env = [(false, eval (.Name "one" p2) env), (false, eval (.Constant (.int lo) j p3) env), (false, eval hiE env)] := by intro _; rfl)
    (hse2 : ∀ env, starEach [(.Constant (.int lo) j p3), hiE] env = [(false, eval (.Constant (.int lo) j p3) env), (false, eval hiE env)] := by intro _; rfl) :
    ElT X Pt scope "one" (.Call (.Name "is_in" p1) [.Name "one" p2, .Constant (.int lo) j p3, hiE] [] p4) xs s1 := by
  intro cenv A' E' i xv u s2 m2 G hxv rxv hm
  obtain ⟨n, rfl, h1, h2⟩ := hv xv (List.mem_of_getElem? hxv)
  obtain ⟨t, rfl⟩ := rxv
  have kd : ∀ y, cenv.kindOf y = scope.names.lookup y := fun y => by
    show cenv.scope.names.lookup y = _
    rw [G.sc]
  refine wpAny_Call_Name_kw (G.fr.glb (by rw [kd]; exact k1) gF ?_)
  refine PySem.W.callWith_K (h₀ := s2.heap) G.fr.mod.kin F.kp ?_ (by rw [hse, hse2]) (by rw [hse2]; rfl)
  rw [hse]
  show wpAny _ _ (spliced ((false, eval (.Name "one" p2) cenv) :: (false, eval (.Constant (.int lo) j p3) cenv) :: (false, eval hiE cenv) :: [])) _ _ s2
  refine Calls.spliced_cons (G.fr.loc (by rw [kd]; exact k2) hm ?_)
  refine Calls.spliced_cons (wpAny_Constant_int ?_)
  have G2 : GFr X Pt scope s1 cenv A' { s2 with toks := s2.toks + 1 } m2 := ⟨G.sc, G.cells, ⟨G.fr.kind, G.fr.glob, G.fr.blt, G.fr.mod, G.fr.ns⟩, G.hd, G.dp, G.kp⟩
  refine Calls.spliced_cons (hHI cenv A' E' _ m2 _ G2 fun t3 tk3 => ?_)
  refine Calls.spliced_nil ⟨G.fr.mod.kin, ?_⟩
  have M : Mod X.K X.mg ({ s2 with toks := tk3 } : Shared).heap := G.fr.mod
  have hdd : A'.depth < recursionLimit := by have := G.dp; have := hr.dp; omega
  refine wpAny_call (codeAny_mono (isin_low (bv := true) F T hdd M (by simp [h1, h2])) fun r s' hq => ?_)
  obtain ⟨rfl, k⟩ := hq
  exact ⟨rfl, Keeps.trans (keeps_tok s2 tk3) k⟩
end

section
variable {P : Program} {w : World} {K : PySem.W.Frag} {mg : Str → Option Value} {base : Heap} {T4 : Tabs4}
/-! ### is_arc -/
def spIsArc (T4 : Tabs4) : Sp := fun vs H Q _ => ∃ (n : Nat) (a b : Int) (p : Addr), vs = [.int n, .ref p] ∧ H p = some (.tup [.int a, .int b]) ∧ (1 ≤ a ∧ a ≤ n) ∧ (1 ≤ b ∧ b ≤ n) ∧ a ≠ b ∧ Tb T4 H ∧ ∀ H', Sit T4 H H' → Q (.bl true) H'
theorem scIsArc : FnScope ["size", "value"] ["size", "value"] (defScope sIsArc) := ⟨rfl, rfl, rfl, by decide +kernel, rfl, by decide +kernel, by decide +kernel⟩
theorem ok_isarc {f c fI : Addr} {fd fdI : FuncData} (F : FunC K "is_arc" "is_arc" sIsArc f fd c) (T : Txt mg) (FI : Fun K "is_in" "is_in" sIsIn fI fdI) (gI : mg "is_in" = some (.ref fI)) (TB : TabB base mg c T4.pArc) (O : T4.Ok) :
    FnOk P w K mg base CX0 1 f fd ["size", "value"] (spIsArc T4) := by
  refine F.ok scIsArc (fun vs H Q E h => ?_) (fun A outer s H vs Q E hr h => ?_)
  · obtain ⟨n, a, b, p, rfl, _⟩ := h
    rfl
  · obtain ⟨n, a, b, p, rfl, hp, ha, hb, hab, tb, k⟩ := h
    refine ⟨_, pss_cons (ps_if (PW.pt (pw_or (pt_not (pt_val (pe_callB call_isi (by rfl) T.isi (by decide +kernel) (pa_cons (pv 1) (pa_cons (pe_bltn (v := .ty "tuple") (u := .type "tuple") (by rfl) T.tuple (by decide +kernel) rfl) pa_nil)))))
        (pw_or (pt_cmpR op_ne (pe_callB call_len_seq (by rfl) T.len PySem.boot_len (pa_cons (pv 1) pa_nil)) pe_int (nomark _))
          (pw_or1 (pt_not (pt_val (pe_allT (R := fun xs σ H1 => xs = [.int a, .int b] ∧ σ[0]? = some (some (.int n))) (k := 0) hr (by rfl) T.all TB rfl (genT_by (sc := defScope sIsArc) (by decide +kernel)) (pv 1) ?_ (by intro _; rfl)))))))) pss_never pss_nil)
      (pss_one (ps_ret (pe_cmpR op_ne (pe_ix ix_tup (pv 1) pe_int (fun _ _ => rfl)) (pe_ix ix_tup (pv 1) pe_int (fun _ _ => rfl)) (nomark _)))), ?_⟩
    · intro pins s1 σ H1 xs I hR hP
      obtain ⟨rfl, hσ⟩ := hR
      refine el_isin (lo := 1) (hi := n) FI gI T (by decide +kernel) (by decide +kernel) hr (fun v hv => ?_) (fun cenv A' E' s2 m2 Q G hQ => ?_)
      · rcases List.mem_cons.mp hv with e | hv
        · exact ⟨a, e, ha⟩
        · rcases List.mem_cons.mp hv with e | hv
          · exact ⟨b, e, hb⟩
          · cases hv
      · obtain ⟨u, cc, r, hcl, hz⟩ := free_val (i := 0) (x := "size") I hP G rfl hσ (show (defScope sIsArc).names.lookup ("size" : Str) = some .cell by decide +kernel) (by decide +kernel)
        obtain ⟨t, rfl⟩ := r
        refine G.fr.free ?_ hcl hz (hQ t s2.toks)
        rw [show cenv.kindOf "size" = cenv.scope.names.lookup ("size" : Str) from rfl, G.sc]
        decide +kernel
    · refine ⟨_, rfl, _, _, _, _, true, rfl, .ty _, .base (.tup hp), kit_ty (by decide +kernel), true, rfl, iteF ?_⟩
      refine ⟨_, rfl, p, _, rfl, .inr (SqT.of hp), rfl, _, rfl, iteF ?_⟩
      refine ⟨_, rfl, p, _, rfl, hp, tb.arc, ⟨rfl, rfl⟩, fun H2 t2 => ⟨true, rfl, iteF ?_⟩⟩
      have S2 : Sit T4 H H2 := (Sit.refl tb).tabbed O.a tb.arc t2
      have hp2 := S2.tups _ _ hp
      refine ⟨_, rfl, p, _, _, _, rfl, rfl, SqT.of hp2, atI_nat (j := 0) rfl, _, rfl, p, _, _, _, rfl, rfl, SqT.of hp2, atI_nat (j := 1) rfl, rfl, ?_⟩
      have e : (!decide (V.int a = V.int b)) = true := by
        have : ¬ V.int a = V.int b := fun z => hab (V.int.inj z)
        rw [decide_eq_false this]
        rfl
      show Q (V.bl (!decide (V.int a = V.int b))) H2
      rw [e]
      exact k H2 S2
end
end K56
end
section
set_option Elab.async false
set_option linter.all false
set_option maxRecDepth 100000
set_option maxHeartbeats 1000000
namespace K56
open PySem PySem.Spec PyProof.Rows L2 GxR
/-! ### pairs as data -/
def prI (z : Int × Int) : PyData := .tuple [.int z.1, .int z.2]
theorem prI_lay (z : Int × Int) : (prI z).canLay0 = true := by simp [prI, PyData.canLay0, PyData.canLayAll0]
theorem prI_depth (z : Int × Int) : (prI z).depth = 1 := by simp [prI, PyData.depth, PyData.depthAll]
theorem prIs_lay : ∀ zs : Arcs, PyData.canLayAll0 (zs.map prI) = true
  | [] => by simp [PyData.canLayAll0]
  | z :: zs => by simp [PyData.canLayAll0, prI_lay z, prIs_lay zs]
theorem prIs_depth : ∀ zs : Arcs, PyData.depthAll (zs.map prI) ≤ 1
  | [] => by simp [PyData.depthAll]
  | z :: zs => by
    have h1 := prIs_depth zs
    have h2 := prI_depth z
    simp only [List.map_cons, PyData.depthAll]
    omega
theorem prI_shaped (z : Int × Int) : SeqAt.shaped (prI z) = true := by
  have h := prI_depth z
  show ((prI z).canLay0 && decide ((prI z).depth ≤ 64)) = true
  rw [Bool.and_eq_true]
  exact ⟨prI_lay z, decide_eq_true (by omega)⟩
theorem prT_shaped (zs : Arcs) : SeqAt.shaped (.tuple (zs.map prI)) = true := by
  have h1 := prIs_depth zs
  have h2 : PyData.depth (.tuple (zs.map prI)) ≤ 64 := by
    simp only [PyData.depth]
    omega
  show (PyData.canLay0 (.tuple (zs.map prI)) && decide (PyData.depth (.tuple (zs.map prI)) ≤ 64)) = true
  rw [Bool.and_eq_true]
  exact ⟨by simp only [PyData.canLay0]; exact prIs_lay zs, decide_eq_true h2⟩
theorem prL_shaped (zs : Arcs) : SeqAt.shaped (.list (zs.map prI)) = true := by
  have h1 := prIs_depth zs
  have h2 : PyData.depth (.list (zs.map prI)) ≤ 64 := by
    simp only [PyData.depth]
    omega
  show (PyData.canLay0 (.list (zs.map prI)) && decide (PyData.depth (.list (zs.map prI)) ≤ 64)) = true
  rw [Bool.and_eq_true]
  exact ⟨by simp only [PyData.canLay0]; exact prIs_lay zs, decide_eq_true h2⟩
theorem prI_eqv (z y : Int × Int) : PyData.eqv (prI z) (prI y) = decide (z = y) := by
  obtain ⟨a, b⟩ := z
  obtain ⟨c, d⟩ := y
  have e : PyData.eqv (prI (a, b)) (prI (c, d)) = ((a == c) && ((b == d) && true)) := by simp only [prI, PyData.eqv, PyData.eqvAll]
  rw [e]
  by_cases h1 : a = c
  · by_cases h2 : b = d
    · subst h1 h2; simp
    · rw [decide_eq_false (fun q => h2 (by cases q; rfl)), beq_eq_false_iff_ne.mpr h2]; simp
  · rw [decide_eq_false (fun q => h1 (by cases q; rfl)), beq_eq_false_iff_ne.mpr h1]; simp
theorem prI_any (q : Int × Int) : ∀ zs : Arcs, ((zs.map prI).any fun z => PyData.eqv z (prI q)) = decide (q ∈ zs)
  | [] => by simp
  | z :: zs => by
    rw [List.map_cons, List.any_cons, prI_any q zs, prI_eqv]
    by_cases h : z = q
    · subst h; simp
    · rw [decide_eq_false h]
      by_cases h2 : q ∈ zs
      · simp [h2]
      · have : ¬ q ∈ z :: zs := fun m => (List.mem_cons.mp m).elim (fun e => h e.symm) h2
        rw [decide_eq_false h2, decide_eq_false this]
        rfl
theorem dp_pair {K : PySem.W.Frag} {H : Hp} {p : Addr} {q : Int × Int} (h : H p = some (.tup [.int q.1, .int q.2])) : Dp K H (.ref p) (prI q) := .tup (SqT.of h) (.cons (.int _) (.cons (.int _) .nil))
theorem dp_pairs {K : PySem.W.Frag} {H : Hp} : ∀ {ps : List Addr} {arcs : Arcs}, PairsAt H ps arcs → DpAll K H (ps.map V.ref) (arcs.map prI)
  | _, _, .nil => .nil
  | _, _, .cons r t => .cons (dp_pair r) (dp_pairs t)
theorem PairsAt.take {H : Hp} : ∀ {ps : List Addr} {arcs : Arcs} (n : Nat), PairsAt H ps arcs → PairsAt H (ps.take n) (arcs.take n)
  | _, _, 0, _ => .nil
  | _, _, _ + 1, .nil => .nil
  | _, _, n + 1, .cons r t => .cons r (PairsAt.take n t)
section
variable {X : Cx}
def rInDT (K : PySem.W.Frag) : R2 := fun x y H Q => ∃ d ds, Dp K H x d ∧ Dp K H y (.tuple ds) ∧ SeqAt.shaped d = true ∧ SeqAt.shaped (.tuple ds) = true ∧ Q (.bl (ds.any fun z => PyData.eqv z d)) H
theorem op_inDT (hu : X.A.units + 65 < cLine) : OpR X (compareOp .In) (rInDT X.K) := by
  intro pins s σ H x y v u Q I rx ry h
  obtain ⟨d, ds, hd, he, sd, se, q⟩ := h
  obtain ⟨as, r1⟩ := Dp.reads I d x v hd rx
  obtain ⟨bs, r2⟩ := Dp.reads I (.tuple ds) y u he ry
  exact SeqAt.in_tuple_reads r2 r1 (SeqAt.canLay_of_shaped se) (SeqAt.canLay_of_shaped sd) (room_in_shaped sd hu) ⟨.bl _, H, I, rfl, q⟩
end
theorem hu65 {A : Around} {k : Nat} (hr : Room k A) : A.units + 65 < cLine := by have := hr.un; omega
/-! ### cuts -/
theorem cut_take (xs : List V) (k : Nat) (h : k ≤ xs.length) : cutV xs none (some (k : Int)) = xs.take k := by
  unfold cutV
  rw [HT.sIx_none, HT.sIx_nat, Nat.min_eq_left h, List.drop_zero, Nat.sub_zero]
theorem cut_drop (xs : List V) (k : Nat) (h : k ≤ xs.length) : cutV xs (some (k : Int)) none = xs.drop k := by
  unfold cutV
  rw [HT.sIx_none, HT.sIx_nat, Nat.min_eq_left h]
  exact List.take_of_length_le (by rw [List.length_drop]; exact Nat.le_refl _)
theorem part_take {n k : Nat} (h : k < n) : ¬ (HT.sIx n 0 none = 0 ∧ HT.sIx n n (some (k : Int)) = n) := fun z => by
  rw [HT.sIx_nat] at z
  omega
theorem part_drop {n k : Nat} (h : 1 ≤ k) (hn : 1 ≤ n) : ¬ (HT.sIx n 0 (some (k : Int)) = 0 ∧ HT.sIx n n none = n) := fun z => by
  rw [HT.sIx_nat] at z
  omega

/-! ### short words -/
section
variable {X : Cx} {e i : Expr} {te ti : TE} {A B C : Expr} {tA tB' tC' : TT} {pos p1 p2 : Pos}
theorem or2 (ha : PT X A tA) (hb : PT X B tB') : PT X (.BoolOp .Or [A, B] pos) (tOr tA tB') := PW.pt (pw_or ha (pw_or1 hb))
theorem or3 (ha : PT X A tA) (hb : PT X B tB') (hc : PT X C tC') : PT X (.BoolOp .Or [A, B, C] pos) (tOr tA (tOr tB' tC')) := PW.pt (pw_or ha (pw_or hb (pw_or1 hc)))
theorem and2 (ha : PT X A tA) (hb : PT X B tB') : PT X (.BoolOp .And [A, B] pos) (tAnd tA tB') := PW.pt (pw_and ha (pw_and1 hb))
/-- isinstance(e, tuple) -/
theorem pe_isT (T : Txt X.mg) (he : PE X e te) (g1 : Gl X "isinstance" := by rfl) (g2 : Gl X "tuple" := by rfl) (h1 : starEach [e, .Name "tuple" p2] X.env = (false, eval e X.env) :: starEach [.Name "tuple" p2] X.env := by rfl) :
    PE X (.Call (.Name "isinstance" p1) [e, .Name "tuple" p2] [] pos) (tCB (rIsi X.K) (tCons te (tCons (tC (.ty "tuple")) tNil))) :=
  pe_callB call_isi g1 T.isi (by decide +kernel) (pa_cons he (pa_cons (pe_bltn (v := .ty "tuple") (u := .type "tuple") g2 T.tuple (by decide +kernel) rfl) pa_nil) h1) (he := h1)
/-- len(e) of a tuple, of a list -/
theorem pe_len (T : Txt X.mg) (he : PE X e te) (g1 : Gl X "len" := by rfl) (h1 : starEach [e] X.env = (false, eval e X.env) :: starEach [] X.env := by rfl) :
    PE X (.Call (.Name "len" p1) [e] [] pos) (tCB (fun xs H Q => ∃ p ys, xs = [.ref p] ∧ (SqL X.K H p ys ∨ SqT X.K H p ys) ∧ Q (.int ys.length) H) (tCons te tNil)) :=
  pe_callB call_len_seq g1 T.len PySem.boot_len (pa_cons he pa_nil h1) (he := h1)
/-- t[i] of a tuple -/
theorem pe_at (he : PE X e te) (hi : PE X i ti) (hs : PlainIx i := by exact fun _ _ => rfl) : PE X (.Subscript e i pos) (tOp (rIxT X.K) te ti) := pe_ix ix_tup he hi hs
end

section
variable {P : Program} {w : World} {K : PySem.W.Frag} {mg : Str → Option Value} {base : Heap} {T4 : Tabs4}
/-! ### need_web -/
def spNeedWeb (T4 : Tabs4) : Sp := fun vs H Q _ => ∃ (a : Addr) (n : Nat) (arcs : Arcs), vs = [.ref a] ∧ Web H a n arcs ∧ WebOk n arcs ∧ Tb T4 H ∧ ∀ H', Sit T4 H H' → Q .non H'
theorem scNeedWeb : FnScope ["web", "index", "arc"] ["web"] (defScope sNeedWeb) := ⟨rfl, rfl, rfl, by decide +kernel, rfl, by decide +kernel, by decide +kernel⟩
theorem ok_needweb {f fI fA : Addr} {fd fdI fdA : FuncData} (F : Fun K "need_web" "need_web" sNeedWeb f fd) (T : Txt mg) (GI : FnOk P w K mg base CX0 1 fI fdI ["value", "least", "most"] spIsIn) (gI : mg "is_in" = some (.ref fI)) (kI : PySem.W.keepIn K (.ref fI) = true) (bI : Binds K fdI ["value", "least", "most"] [])
    (GA : FnOk P w K mg base CX0 1 fA fdA ["size", "value"] (spIsArc T4)) (gA : mg "is_arc" = some (.ref fA)) (kA : PySem.W.keepIn K (.ref fA) = true) (bA : Binds K fdA ["size", "value"] []) :
    FnOk P w K mg base CX0 2 f fd ["web"] (spNeedWeb T4) := by
  refine F.ok scNeedWeb (fun vs H Q E h => ?_) (fun cdv A outer s H vs Q E hr h => ?_)
  · obtain ⟨a, n, arcs, rfl, _⟩ := h
    rfl
  · obtain ⟨a, n, arcs, rfl, hw, W, tb, k⟩ := h
    obtain ⟨tP, mP⟩ := T.mP
    obtain ⟨tA, mA⟩ := T.mA
    obtain ⟨c, ps, h1, h2, h3⟩ := id hw
    have hl : ps.length = arcs.length := Paired.length h3
    refine ⟨_, pss_cons (ps_if (or3 (pt_not (pt_val (pe_isT T (pv 0)))) (pt_cmpR op_ne (pe_len T (pv 0)) pe_int (nomark _))
          (pt_not (pt_val (pe_call GI hr (by rfl) gI kI bI .nil pass0 (pa_cons (pe_at (pv 0) pe_int) (pa_cons pe_int (pa_cons (pe_glob (v := .int 6) (by rfl) mP ⟨_, rfl⟩) pa_nil))))))) pss_never pss_nil)
      (pss_cons (ps_if (or2 (pt_not (pt_val (pe_isT T (pe_at (pv 0) pe_int)))) (pt_cmpR op_gt (pe_len T (pe_at (pv 0) pe_int)) (pe_glob (v := .int 12) (by rfl) mA ⟨_, rfl⟩) (nomark _))) pss_never pss_nil)
      (pss_one (ps_for PassesOwn.never rfl (pi_enumT (by rfl) T.enumerate (pa_cons (pe_at (pv 0) pe_int) pa_nil))
        (pg_tup rfl (pgs_cons (pg_name (i := 1) scNeedWeb.nd rfl (.inl rfl)) (pgs_cons (pg_name (i := 2) scNeedWeb.nd rfl (.inl rfl)) pgs_nil)))
        (pss_one (ps_if (or2 (pt_not (pt_val (pe_call GA hr (by rfl) gA kA bA .nil pass0 (pa_cons (pe_at (pv 0) pe_int) (pa_cons (pv 2) pa_nil)))))
          (pt_cmpR (op_inDT (hu65 hr)) (pv 2) (pe_slice sl_tupA (pe_at (pv 0) pe_int) po_none (po_some (pv 1))) (by rfl))) pss_never pss_nil))))), ?_⟩
    refine ⟨_, rfl, _, _, _, _, true, rfl, .ty _, .base (.tup h1), kit_ty (by decide +kernel), true, rfl, iteF ?_⟩
    refine ⟨_, rfl, a, _, rfl, .inr (SqT.of h1), rfl, _, rfl, iteF ?_⟩
    refine ⟨_, rfl, a, _, _, _, rfl, rfl, SqT.of h1, atI_nat (j := 0) rfl, n, 1, 6, rfl, true, ?_, iteF ?_⟩
    · have := W.pos
      have := W.le
      have e : decide ((1 : Int) ≤ n ∧ (n : Int) ≤ 6) = true := decide_eq_true ⟨by omega, by omega⟩
      rw [e]
    refine ⟨_, rfl, a, _, _, _, rfl, rfl, SqT.of h1, atI_nat (j := 1) rfl, _, _, _, _, true, rfl, .ty _, .base (.tup h2), kit_ty (by decide +kernel), true, rfl, iteF ?_⟩
    refine ⟨_, rfl, a, _, _, _, rfl, rfl, SqT.of h1, atI_nat (j := 1) rfl, c, _, rfl, .inr (SqT.of h2), _, _, rfl, rfl, _, rfl, ?_⟩
    have few := W.few
    rw [List.length_map, hl, decide_eq_false (show ¬ (12 : Int) < (arcs.length : Nat) by omega)]
    refine iteF ?_
    refine ⟨_, rfl, a, _, _, _, rfl, rfl, SqT.of h1, atI_nat (j := 1) rfl, c, _, rfl, h2, for_enumT (xs := ps.map V.ref) (fun i σ H' => ∃ v1 v2 : Option V, σ = [some (.ref a), v1, v2] ∧ Sit T4 H H') ⟨none, none, rfl, Sit.refl tb⟩ (fun i σ H' _ ⟨_, _, _, S⟩ => S.tups _ _ h2) ?_ (fun σ H' ⟨_, _, _, S⟩ => k _ S)⟩
    rintro i x σ H' Tp hx ⟨v1, v2, rfl, S⟩ hT
    obtain ⟨p, hp, rfl⟩ : ∃ p, ps[i]? = some p ∧ x = V.ref p := by
      rw [List.getElem?_map] at hx
      cases e : ps[i]? with
      | none => rw [e] at hx; cases hx
      | some p => rw [e] at hx; exact ⟨p, rfl, (Option.some.inj hx).symm⟩
    obtain ⟨q, hq, hpq⟩ := Paired.get' h3 hp
    have hqm := W.ok q (List.mem_of_getElem? hq)
    have S1 : Sit T4 H (upd H' Tp (.tup [.int (i : Nat), .ref p])) := S.new hT
    have a1 := S1.tups _ _ h1
    have a2 := S1.tups _ _ h2
    have a3 := S1.tups.pairs h3
    have ap := S1.tups _ _ hpq
    refine ⟨Tp, _, rfl, SqT.of upd_same, rfl, _, _, rfl, _, _, rfl, rfl, ?_⟩
    refine ⟨_, rfl, a, _, _, _, rfl, rfl, SqT.of a1, atI_nat (j := 0) rfl, _, rfl, n, q.1, q.2, p, rfl, ap, hqm.1, hqm.2.1, hqm.2.2, S1.tb, fun H2 S2 => ⟨true, rfl, iteF ?_⟩⟩
    have S3 : Sit T4 H H2 := S1.trans S2
    have b1 := S3.tups _ _ h1
    have b2 := S3.tups _ _ h2
    have b3 := S3.tups.pairs h3
    have bp := S3.tups _ _ hpq
    have hi : i < ps.length := (List.getElem?_eq_some_iff.mp hp).1
    refine ⟨_, rfl, _, rfl, a, _, _, _, rfl, rfl, SqT.of b1, atI_nat (j := 1) rfl, ?_⟩
    refine ⟨_, rfl, _, rfl, c, _, rfl, SqT.of b2, fun z => absurd z (part_take (by rw [List.length_map]; exact hi)), fun _ p2 np2 => ?_⟩
    rw [cut_take _ _ (by rw [List.length_map]; omega), ← List.map_take]
    have S4 : Sit T4 H (upd H2 p2 (.tup ((ps.take i).map V.ref))) := S3.new np2
    refine ⟨prI q, _, dp_pair (S4.tups _ _ hpq), .tup (SqT.of upd_same) (dp_pairs (PairsAt.take i (S4.tups.pairs h3))), prI_shaped q, prT_shaped _, _, rfl, ?_⟩
    rw [prI_any]
    have hnot : ¬ q ∈ arcs.take i := fun m => by
      obtain ⟨j, hj, e⟩ := List.getElem_of_mem m
      rw [List.length_take] at hj
      rw [List.getElem_take] at e
      have e1 : arcs[j]? = some q := by rw [List.getElem?_eq_getElem (by omega), e]
      have := nd_ix W.nd e1 hq
      omega
    rw [decide_eq_false hnot]
    exact iteF ⟨_, _, rfl, S4⟩
end
end K56
end
section
set_option Elab.async false
set_option linter.all false
set_option maxRecDepth 100000
set_option maxHeartbeats 1000000
namespace K56
open PySem PySem.Spec PyProof.Rows L2 GxR
def LogAt (H : Hp) (l : Addr) (ls : List Nat) : Prop := H l = some (.tup (ls.map fun (k : Nat) => V.int (k : Int)))
theorem rgV_ppl (n : Nat) : rgV 1 ((n : Int) + 1) = (ppl n).map V.int := by
  unfold rgV ppl
  have e : ((n : Int) + 1 - 1).toNat = n := by omega
  rw [e, List.map_map]
  refine List.map_congr_left fun k _ => ?_
  show V.int (1 + (k : Int)) = V.int ((k : Int) + 1)
  rw [Int.add_comm]
theorem tk_cut {xs : List Int} {s g : Int} {n : Nat} (hl : xs.length = n) (hg : 1 ≤ g ∧ g ≤ n) (hs : 1 ≤ s ∧ s ≤ n) :
    (xs.map V.int).take (g - 1).toNat ++ (V.int (xs.getD (s - 1).toNat 0) :: ((xs.map V.int).drop g.toNat ++ [])) = (tk xs s g).map V.int := by
  unfold tk
  have hi : (g - 1).toNat < xs.length := by omega
  rw [List.set_eq_take_append_cons_drop, if_pos hi, List.append_nil, List.map_append, List.map_cons, List.map_take, List.map_drop]
  have e : (g - 1).toNat + 1 = g.toNat := by omega
  rw [e]
section
variable {X : Cx} {Pt : Addr} {scope : Scope} {s1 : Shared} {cenv : Env} {A' : Around} {s2 : Shared} {m2 : Str → Option Value}
/-- len(t[j]) - 1, t a captured tuple of tuples -/
theorem low_len1 {pins : List (Addr × Obj)} {σ : L2.St} {H1 : Hp} {i : Nat} {x : Str} {a c : Addr} {xs ys : List V} {j : Nat} {p1 p2 p3 p4 p5 p6 p7 : Pos} {kk k2 : Nat} {E : Value → Shared → Prop} {Q : Value → Shared → Prop} (T : Txt X.mg) (I : Inv X pins σ H1 s1) (hP : TabG H1 Pt) (G : GFr X Pt scope s1 cenv A' s2 m2) (hN : X.N[i]? = some x) (hσ : σ[i]? = some (some (.ref a)))
    (hc : X.env.scope.names.lookup x = some .cell) (hf : scope.names.lookup x = some .free) (kl : scope.names.lookup ("len" : Str) = some .globalImplicit) (ha : H1 a = some (.tup xs)) (hx : xs[j]? = some (.ref c)) (hj : j < 1000) (hy : H1 c = some (.tup ys))
    (h : ∀ t tk, Q (.int ((ys.length : Nat) - 1 : Int) t) { s2 with toks := tk }) (hd : (x == ("__debug__" : Str)) = false := by decide) (hcd : (x == ("__classdict__" : Str)) = false := by decide) :
    wpAny (model X.prog X.w) A' (eval (.BinOp (.Call (.Name "len" p1) [.Subscript (.Name x p2) (.Constant (.int (j : Int)) kk p3) p4] [] p5) .Sub (.Constant (.int 1) k2 p6) p7) cenv) Q E s2 := by
  refine wpAny_BinOp ?_
  refine wpAny_Call_Name_kw (G.fr.bltn (by rw [show cenv.kindOf "len" = cenv.scope.names.lookup ("len" : Str) from rfl, G.sc]; exact kl) T.len (u := .builtin "len") PySem.boot_len ?_)
  refine PyProof.Rows.callWith_builtin1 ?_ (by rfl) (by rfl)
  show wpAny _ _ (spliced ((false, eval (.Subscript (.Name x p2) (.Constant (.int (j : Int)) kk p3) p4) cenv) :: [])) _ _ s2
  refine Calls.spliced_cons (low_ix I hP G hN hσ hc hf ha hx hj (fun u tk ru => ?_) hd hcd)
  cases ru
  refine Calls.spliced_nil ?_
  obtain ⟨its, rv, ⟨o, ho, hcls, n, hdt⟩, hsz⟩ := I.tuple (SqT.of hy)
  have ncP : c ≠ Pt := by
    obtain ⟨ps, q, _⟩ := hP
    exact ne_of hy q (fun z => by cases z)
  have ht : IsTup ({ s2 with toks := tk } : Shared).heap c its.toArray := ⟨o, G.kp c o ncP ho, hcls, n, hdt⟩
  have hl := rv.length
  have hn := line63
  refine len_tuple ht (by simp only [List.size_toArray] <;> omega) ?_
  refine wpAny_Constant_int ?_
  refine sub_int ?_
  have e : ((its.toArray.size : Nat) : Int) = ((ys.length : Nat) : Int) := by rw [List.size_toArray, hl]
  rw [e]
  exact h _ _
end

section
variable {P : Program} {w : World} {K : PySem.W.Frag} {mg : Str → Option Value} {base : Heap} {T4 : Tabs4}
/-! ### is_log -/
def spIsLog (T4 : Tabs4) : Sp := fun vs H Q _ => ∃ (a l : Addr) (n : Nat) (arcs : Arcs) (ls : List Nat), vs = [.ref a, .ref l] ∧ Web H a n arcs ∧ LogAt H l ls ∧ (∀ k ∈ ls, k < arcs.length) ∧ ls.length ≤ 60 ∧ Tb T4 H ∧ ∀ H', Sit T4 H H' → Q (.bl true) H'
theorem scIsLog : FnScope ["web", "value"] ["web", "value"] (defScope sIsLog) := ⟨rfl, rfl, rfl, by decide +kernel, rfl, by decide +kernel, by decide +kernel⟩
theorem ok_islog {f c0 fI : Addr} {fd fdI : FuncData} (F : FunC K "is_log" "is_log" sIsLog f fd c0) (T : Txt mg) (FI : Fun K "is_in" "is_in" sIsIn fI fdI) (gI : mg "is_in" = some (.ref fI)) (TB : TabB base mg c0 T4.pLog) (O : T4.Ok) :
    FnOk P w K mg base CX0 1 f fd ["web", "value"] (spIsLog T4) := by
  refine F.ok scIsLog (fun vs H Q E h => ?_) (fun A outer s H vs Q E hr h => ?_)
  · obtain ⟨a, l, n, arcs, ls, rfl, _⟩ := h
    rfl
  · obtain ⟨a, l, n, arcs, ls, rfl, hw, hl, hk, hlen, tb, k⟩ := h
    obtain ⟨tL, mL⟩ := T.mL
    obtain ⟨c, ps, h1, h2, h3⟩ := id hw
    have hpl : ps.length = arcs.length := Paired.length h3
    refine ⟨_, pss_cons (ps_if (or2 (pt_not (pt_val (pe_isT T (pv 1)))) (pt_cmpR op_gt (pe_len T (pv 1)) (pe_glob (v := .int 60) (by rfl) mL ⟨_, rfl⟩) (nomark _))) pss_never pss_nil)
      (pss_one (ps_ret (pe_allT (R := fun xs σ H1 => xs = (ls.map fun (k : Nat) => V.int (k : Int)) ∧ σ[0]? = some (some (.ref a)) ∧ H1 a = some (.tup [.int n, .ref c]) ∧ H1 c = some (.tup (ps.map V.ref))) (k := 0) hr (by rfl) T.all TB rfl (genT_by (sc := defScope sIsLog) (by decide +kernel)) (pv 1) ?_ (by intro _; rfl)))), ?_⟩
    · intro pins s1 σ H1 xs I hR hP
      obtain ⟨rfl, hσ, ha, hc⟩ := hR
      refine el_isin (lo := 0) (hi := ((ps.map V.ref).length : Nat) - 1) FI gI T (by decide +kernel) (by decide +kernel) hr (fun v hv => ?_) (fun cenv A' E' s2 m2 Q G hQ => ?_)
      · obtain ⟨j, hj, rfl⟩ := List.mem_map.mp hv
        have := hk j hj
        refine ⟨_, rfl, by omega, ?_⟩
        rw [List.length_map, hpl]
        omega
      · exact low_len1 (i := 0) (x := "web") (j := 1) T I hP G rfl hσ (show (defScope sIsLog).names.lookup ("web" : Str) = some .cell by decide +kernel) (by decide +kernel) (by decide +kernel) ha rfl (by decide) hc hQ
    · refine ⟨_, rfl, _, _, _, _, true, rfl, .ty _, .base (.tup hl), kit_ty (by decide +kernel), true, rfl, iteF ?_⟩
      refine ⟨_, rfl, l, _, rfl, .inr (SqT.of hl), _, _, rfl, rfl, _, rfl, ?_⟩
      rw [List.length_map, decide_eq_false (show ¬ (60 : Int) < (ls.length : Nat) by omega)]
      refine iteF ?_
      exact ⟨_, rfl, l, _, rfl, hl, tb.log, ⟨rfl, rfl, h1, h2⟩, fun H2 t2 => k H2 ((Sit.refl tb).tabbed O.l tb.log t2)⟩
/-! ### need_log -/
def spNeedLog (T4 : Tabs4) : Sp := fun vs H Q _ => ∃ (a l : Addr) (n : Nat) (arcs : Arcs) (ls : List Nat), vs = [.ref a, .ref l] ∧ Web H a n arcs ∧ WebOk n arcs ∧ LogAt H l ls ∧ (∀ k ∈ ls, k < arcs.length) ∧ ls.length ≤ 60 ∧ Tb T4 H ∧ ∀ H', Sit T4 H H' → Q .non H'
theorem scNeedLog : FnScope ["web", "log"] ["web", "log"] (defScope sNeedLog) := ⟨rfl, rfl, rfl, by decide +kernel, rfl, by decide +kernel, by decide +kernel⟩
theorem ok_needlog {f fW fL : Addr} {fd fdW fdL : FuncData} (F : Fun K "need_log" "need_log" sNeedLog f fd) (GW : FnOk P w K mg base CX0 2 fW fdW ["web"] (spNeedWeb T4)) (gW : mg "need_web" = some (.ref fW)) (kW : PySem.W.keepIn K (.ref fW) = true) (bW : Binds K fdW ["web"] [])
    (GL : FnOk P w K mg base CX0 1 fL fdL ["web", "value"] (spIsLog T4)) (gL : mg "is_log" = some (.ref fL)) (kL : PySem.W.keepIn K (.ref fL) = true) (bL : Binds K fdL ["web", "value"] []) :
    FnOk P w K mg base CX0 3 f fd ["web", "log"] (spNeedLog T4) := by
  refine F.ok scNeedLog (fun vs H Q E h => ?_) (fun cdv A outer s H vs Q E hr h => ?_)
  · obtain ⟨a, l, n, arcs, ls, rfl, _⟩ := h
    rfl
  · obtain ⟨a, l, n, arcs, ls, rfl, hw, W, hl, hk, hlen, tb, k⟩ := h
    refine ⟨_, pss_cons (ps_expr (pe_call GW hr (by rfl) gW kW bW .nil pass0 (pa_cons (pv 0) pa_nil)))
      (pss_one (ps_if (pt_not (pt_val (pe_call GL (hr.mono (by decide)) (by rfl) gL kL bL .nil pass0 (pa_cons (pv 0) (pa_cons (pv 1) pa_nil))))) pss_never pss_nil)), ?_⟩
    refine ⟨_, rfl, a, n, arcs, rfl, hw, W, tb, fun H1 S1 => ?_⟩
    exact ⟨_, rfl, _, rfl, a, l, n, arcs, ls, rfl, S1.tups.web hw, S1.tups _ _ hl, hk, hlen, S1.tb, fun H2 S2 => ⟨true, rfl, iteF (k _ (S1.trans S2))⟩⟩
/-! ### need_person -/
def spNeedPerson : Sp := fun vs H Q _ => ∃ (a : Addr) (n : Nat) (arcs : Arcs) (p : Int), vs = [.ref a, .int p] ∧ Web H a n arcs ∧ 1 ≤ p ∧ p ≤ n ∧ Q .non H
theorem scNeedPerson : FnScope ["web", "person"] ["web", "person"] (defScope sNeedPerson) := ⟨rfl, rfl, rfl, by decide +kernel, rfl, by decide +kernel, by decide +kernel⟩
theorem ok_needperson {f fI : Addr} {fd fdI : FuncData} (F : Fun K "need_person" "need_person" sNeedPerson f fd) (GI : FnOk P w K mg base CX0 1 fI fdI ["value", "least", "most"] spIsIn) (gI : mg "is_in" = some (.ref fI)) (kI : PySem.W.keepIn K (.ref fI) = true) (bI : Binds K fdI ["value", "least", "most"] []) :
    FnOk P w K mg base CX0 2 f fd ["web", "person"] spNeedPerson := by
  refine F.ok scNeedPerson (fun vs H Q E h => ?_) (fun cdv A outer s H vs Q E hr h => ?_)
  · obtain ⟨a, n, arcs, p, rfl, _⟩ := h
    rfl
  · obtain ⟨a, n, arcs, p, rfl, hw, h1, h2, k⟩ := h
    obtain ⟨c, ps, w1, w2, w3⟩ := id hw
    refine ⟨_, pss_one (ps_if (pt_not (pt_val (pe_call GI hr (by rfl) gI kI bI .nil pass0 (pa_cons (pv 1) (pa_cons pe_int (pa_cons (pe_at (pv 0) pe_int) pa_nil)))))) pss_never pss_nil), ?_⟩
    refine ⟨_, rfl, _, rfl, a, _, _, _, rfl, rfl, SqT.of w1, atI_nat (j := 0) rfl, p, 1, n, rfl, true, ?_, iteF k⟩
    rw [decide_eq_true ⟨h1, h2⟩]
/-! ### people -/
def spPeople : Sp := fun vs H Q _ => ∃ (a : Addr) (n : Nat) (arcs : Arcs), vs = [.ref a] ∧ Web H a n arcs ∧ n ≤ 1000 ∧ ∀ p, H p = none → Q (.ref p) (upd H p (.tup ((ppl n).map V.int)))
theorem scPeople : FnScope ["web"] ["web"] (defScope sPeople) := ⟨rfl, rfl, rfl, by decide +kernel, rfl, by decide +kernel, by decide +kernel⟩
theorem ok_people {f : Addr} {fd : FuncData} (F : Fun K "people" "people" sPeople f fd) (T : Txt mg) : FnOk P w K mg base CX0 1 f fd ["web"] spPeople := by
  refine F.ok scPeople (fun vs H Q E h => ?_) (fun cdv A outer s H vs Q E hr h => ?_)
  · obtain ⟨a, n, arcs, rfl, _⟩ := h
    rfl
  · obtain ⟨a, n, arcs, rfl, hw, hn, k⟩ := h
    obtain ⟨c, ps, w1, w2, w3⟩ := id hw
    refine ⟨_, pss_one (ps_ret (pe_tupRg rfl (by rfl) T.tuple (prg_2 (by rfl) T.range pe_int (pe_op op_add (pe_at (pv 0) pe_int) pe_int)))), ?_⟩
    refine ⟨_, rfl, a, _, _, _, rfl, rfl, SqT.of w1, atI_nat (j := 0) rfl, _, _, rfl, rfl, _, _, rfl, rfl, RgOk.of_le (by decide) (by omega) (by decide) (by omega), fun q hq => ?_⟩
    rw [rgV_ppl]
    exact k q hq
/-! ### taken -/
def spTaken : Sp := fun vs H Q _ => ∃ (a r : Addr) (n : Nat) (arcs : Arcs) (xs : List Int) (k : Nat), vs = [.ref a, .ref r, .int k] ∧ Web H a n arcs ∧ WebOk n arcs ∧ Row H r xs ∧ xs.length = n ∧ k < arcs.length ∧
  ∀ H' p, Same H H' → H p = none → Row H' p (tkA arcs xs k) → Q (.ref p) H'
theorem scTaken : FnScope ["web", "some", "index", "source", "goal"] ["web", "some", "index"] (defScope sTaken) := ⟨rfl, rfl, rfl, by decide +kernel, rfl, by decide +kernel, by decide +kernel⟩
theorem ok_taken {f : Addr} {fd : FuncData} (F : Fun K "taken" "taken" sTaken f fd) (T : Txt mg) : FnOk P w K mg base CX0 1 f fd ["web", "some", "index"] spTaken := by
  refine F.ok scTaken (fun vs H Q E h => ?_) (fun cdv A outer s H vs Q E hr h => ?_)
  · obtain ⟨a, r, n, arcs, xs, k, rfl, _⟩ := h
    rfl
  · obtain ⟨a, r, n, arcs, xs, k, rfl, hw, W, hx, hxl, hk, q⟩ := h
    obtain ⟨c, ps, w1, w2, w3⟩ := id hw
    have hpl : ps.length = arcs.length := Paired.length w3
    obtain ⟨p, hp, hpq⟩ := Paired.get w3 (List.getElem?_eq_getElem hk)
    generalize hqq : arcs[k] = pr at hpq
    have hak : arcs[k]? = some pr := by rw [List.getElem?_eq_getElem hk, hqq]
    obtain ⟨sI, gI⟩ := pr
    have hok := W.ok _ (List.mem_of_getElem? hak)
    dsimp only at hok hpq
    refine ⟨_, pss_cons (ps_asg (pe_at (pe_at (pv 0) pe_int) (pv 2)) (pg_tup rfl (pgs_cons (pg_name (i := 3) scTaken.nd rfl (.inl rfl)) (pgs_cons (pg_name (i := 4) scTaken.nd rfl (.inl rfl)) pgs_nil))))
      (pss_one (ps_ret (pe_tup (StX.pa_star (pe_slice sl_tup (pv 1) po_none (po_some (pe_op op_sub (pv 4) pe_int))) (pa_cons (pe_at (pv 1) (pe_op op_sub (pv 3) pe_int)) (StX.pa_star (pe_slice sl_tup (pv 1) (po_some (pv 4)) po_none) pa_nil)))))), ?_⟩
    refine ⟨_, rfl, a, _, _, _, rfl, rfl, SqT.of w1, atI_nat (j := 1) rfl, _, rfl, c, _, _, _, rfl, rfl, SqT.of w2, atI_nat (j := k) (by rw [List.getElem?_map, hp]; rfl), ?_⟩
    refine ⟨p, _, rfl, SqT.of hpq, rfl, _, _, rfl, _, _, rfl, rfl, ?_⟩
    have eg : (gI - 1 : Int) = (((gI - 1).toNat : Nat) : Int) := by omega
    have eg2 : (gI : Int) = ((gI.toNat : Nat) : Int) := by omega
    refine ⟨_, rfl, _, rfl, _, _, rfl, rfl, _, rfl, r, _, rfl, SqT.of hx, ?_, fun p1 np1 => ?_⟩
    · rw [eg]
      exact part_take (by rw [List.length_map]; omega)
    have S1 := same_mk1 (o := .tup (cutV (xs.map V.int) none (some (gI - 1)))) np1
    refine ⟨p1, _, rfl, .inl (SqT.of upd_same), _, rfl, _, rfl, _, _, rfl, rfl, r, _, _, _, rfl, rfl, SqT.of (S1 _ _ hx), at_of (j := (sI - 1).toNat) (v := .int (xs.getD (sI - 1).toNat 0)) (by omega) (by rw [List.getElem?_map, get_getD (by omega)]; rfl), ?_⟩
    refine ⟨_, rfl, _, rfl, _, rfl, r, _, rfl, SqT.of (S1 _ _ hx), ?_, fun p2 np2 => ?_⟩
    · rw [eg2]
      exact part_drop (by omega) (by rw [List.length_map]; omega)
    have S2 := same_new (o := .tup (cutV (xs.map V.int) (some gI) none)) S1 np2
    refine ⟨p2, _, rfl, .inl (SqT.of upd_same), ?_, fun p3 np3 => ?_⟩
    · rw [eg, cut_take _ _ (by rw [List.length_map]; omega), eg2, cut_drop _ _ (by rw [List.length_map]; omega)]
      simp only [List.length_append, List.length_cons, List.length_take, List.length_drop, List.length_map, List.length_nil]
      have := W.le
      have e := sizeLine_eq
      omega
    · have S3 := same_new (o := .tup (cutV (xs.map V.int) none (some (gI - 1)) ++ V.int (xs.getD (sI - 1).toNat 0) :: (cutV (xs.map V.int) (some gI) none ++ []))) S2 np3
      refine q _ p3 S3 (S2.free np3) ?_
      show upd _ p3 _ p3 = some (.tup ((tkA arcs xs k).map V.int))
      rw [upd_same]
      have e1 : tkA arcs xs k = tk xs sI gI := by
        unfold tkA
        rw [hak]
      have e2 : cutV (xs.map V.int) none (some (gI - 1)) = (xs.map V.int).take (gI - 1).toNat := by
        rw [eg]
        exact cut_take _ _ (by rw [List.length_map]; omega)
      have e3 : cutV (xs.map V.int) (some gI) none = (xs.map V.int).drop gI.toNat := by
        rw [eg2]
        exact cut_drop _ _ (by rw [List.length_map]; omega)
      rw [e1, e2, e3, tk_cut hxl hok.2.1 hok.1]
end
end K56
end
section
set_option Elab.async false
set_option linter.all false
set_option maxRecDepth 100000
set_option maxHeartbeats 1000000
namespace K56
open PySem PySem.Spec PyProof.Rows L2 GxR
theorem runL_take {arcs : Arcs} {xs : List Int} {ls : List Nat} {i k : Nat} (h : ls[i]? = some k) : runL arcs xs (ls.take (i + 1)) = tkA arcs (runL arcs xs (ls.take i)) k := by
  have hi := (List.getElem?_eq_some_iff.mp h).1
  have e := (List.getElem?_eq_some_iff.mp h).2
  rw [List.take_succ_eq_append_getElem hi, e, runL_snoc]
section
variable {P : Program} {w : World} {K : PySem.W.Frag} {mg : Str → Option Value} {base : Heap} {T4 : Tabs4}
/-! ### behind -/
def spBehind : Sp := fun vs H Q _ => ∃ (a r l : Addr) (n : Nat) (arcs : Arcs) (xs : List Int) (ls : List Nat), vs = [.ref a, .ref r, .ref l] ∧ Web H a n arcs ∧ WebOk n arcs ∧ Row H r xs ∧ xs.length = n ∧ LogAt H l ls ∧ (∀ k ∈ ls, k < arcs.length) ∧
  ∀ H' p, Same H H' → Row H' p (runL arcs xs ls) → Q (.ref p) H'
theorem scBehind : FnScope ["web", "some", "log", "index"] ["web", "some", "log"] (defScope sBehind) := ⟨rfl, rfl, rfl, by decide +kernel, rfl, by decide +kernel, by decide +kernel⟩
theorem ok_behind {f fT : Addr} {fd fdT : FuncData} (F : Fun K "behind" "behind" sBehind f fd) (GT : FnOk P w K mg base CX0 1 fT fdT ["web", "some", "index"] spTaken) (gT : mg "taken" = some (.ref fT)) (kT : PySem.W.keepIn K (.ref fT) = true) (bT : Binds K fdT ["web", "some", "index"] []) :
    FnOk P w K mg base CX0 2 f fd ["web", "some", "log"] spBehind := by
  refine F.ok scBehind (fun vs H Q E h => ?_) (fun cdv A outer s H vs Q E hr h => ?_)
  · obtain ⟨a, r, l, n, arcs, xs, ls, rfl, _⟩ := h
    rfl
  · obtain ⟨a, r, l, n, arcs, xs, ls, rfl, hw, W, hx, hxl, hl, hk, q⟩ := h
    refine ⟨_, pss_cons (ps_for PassesOwn.never rfl (pi_tup (pv 2)) (pg_name (i := 3) scBehind.nd rfl (.inl rfl))
        (pss_one (ps_set (i := 1) scBehind.nd rfl (.inl rfl) (pe_call GT hr (by rfl) gT kT bT .nil pass0 (pa_cons (pv 0) (pa_cons (pv 1) (pa_cons (pv 3) pa_nil)))))))
      (pss_one (ps_ret (pv 1))), ?_⟩
    refine ⟨_, rfl, l, rfl, ⟨_, SqT.of hl⟩, for_tup (K := K) (a := l) (xs := ls.map fun (k : Nat) => V.int (k : Int)) (fun i σ H' => ∃ (p : Addr) (v : Option V), σ = [some (.ref a), some (.ref p), some (.ref l), v] ∧ Same H H' ∧ Row H' p (runL arcs xs (ls.take i)))
      ⟨r, none, rfl, Same.refl H, hx⟩ (fun i σ H' _ ⟨_, _, _, S, _⟩ => SqT.of (S _ _ hl)) ?_ ?_⟩
    · rintro i x σ H' hi ⟨p, v, rfl, S, hp⟩
      rw [List.getElem?_map] at hi
      cases e : ls[i]? with
      | none => rw [e] at hi; cases hi
      | some j =>
        rw [e] at hi
        cases hi
        refine ⟨_, rfl, _, rfl, _, rfl, a, p, n, arcs, _, j, rfl, (same_tups S).web hw, W, hp, by rw [runL_len]; exact hxl, hk j (List.mem_of_getElem? e), fun H2 p2 S2 np2 hp2 => ?_⟩
        refine ⟨p2, _, rfl, S.trans S2, ?_⟩
        rw [runL_take e]
        exact hp2
    · rintro σ H' ⟨p, v, rfl, S, hp⟩
      rw [List.length_map, List.take_length] at hp
      exact ⟨_, rfl, q H' p S hp⟩
/-! ### web_ring -/
def spWebRing (T4 : Tabs4) : Sp := fun vs H Q _ => ∃ (a l : Addr) (n : Nat) (arcs : Arcs) (ls : List Nat), vs = [.ref a, .ref l] ∧ Web H a n arcs ∧ WebOk n arcs ∧ LogAt H l ls ∧ (∀ k ∈ ls, k < arcs.length) ∧ ls.length ≤ 60 ∧ Tb T4 H ∧
  ∀ H' p, Sit T4 H H' → Row H' p (runL arcs (ppl n) ls) → Q (.ref p) H'
theorem scWebRing : FnScope ["web", "log"] ["web", "log"] (defScope sWebRing) := ⟨rfl, rfl, rfl, by decide +kernel, rfl, by decide +kernel, by decide +kernel⟩
theorem ok_webring {f fN fP fB : Addr} {fd fdN fdP fdB : FuncData} (F : Fun K "web_ring" "web_ring" sWebRing f fd) (GN : FnOk P w K mg base CX0 3 fN fdN ["web", "log"] (spNeedLog T4)) (gN : mg "need_log" = some (.ref fN)) (kN : PySem.W.keepIn K (.ref fN) = true) (bN : Binds K fdN ["web", "log"] [])
    (GP : FnOk P w K mg base CX0 1 fP fdP ["web"] spPeople) (gP : mg "people" = some (.ref fP)) (kP : PySem.W.keepIn K (.ref fP) = true) (bP : Binds K fdP ["web"] [])
    (GB : FnOk P w K mg base CX0 2 fB fdB ["web", "some", "log"] spBehind) (gB : mg "behind" = some (.ref fB)) (kB : PySem.W.keepIn K (.ref fB) = true) (bB : Binds K fdB ["web", "some", "log"] []) :
    FnOk P w K mg base CX0 4 f fd ["web", "log"] (spWebRing T4) := by
  refine F.ok scWebRing (fun vs H Q E h => ?_) (fun cdv A outer s H vs Q E hr h => ?_)
  · obtain ⟨a, l, n, arcs, ls, rfl, _⟩ := h
    rfl
  · obtain ⟨a, l, n, arcs, ls, rfl, hw, W, hl, hk, hlen, tb, q⟩ := h
    refine ⟨_, pss_cons (ps_expr (pe_call GN hr (by rfl) gN kN bN .nil pass0 (pa_cons (pv 0) (pa_cons (pv 1) pa_nil))))
      (pss_one (ps_ret (pe_call GB (hr.mono (by decide)) (by rfl) gB kB bB .nil pass0 (pa_cons (pv 0) (pa_cons (pe_call GP (hr.mono (by decide)) (by rfl) gP kP bP .nil pass0 (pa_cons (pv 0) pa_nil)) (pa_cons (pv 1) pa_nil)))))), ?_⟩
    refine ⟨_, rfl, _, rfl, a, l, n, arcs, ls, rfl, hw, W, hl, hk, hlen, tb, fun H1 S1 => ?_⟩
    have := W.le
    refine ⟨_, rfl, _, rfl, a, n, arcs, rfl, S1.tups.web hw, by omega, fun p np => ?_⟩
    have S2 : Sit T4 H (upd H1 p (.tup ((ppl n).map V.int))) := S1.new np
    refine ⟨_, rfl, a, p, l, n, arcs, ppl n, ls, rfl, S2.tups.web hw, W, upd_same, ppl_len n, S2.tups _ _ hl, hk, fun H3 p3 S3 hp3 => ?_⟩
    exact q H3 p3 (S2.same S3) hp3
/-! ### need_goal, need_small -/
def spNeedGoal (T4 : Tabs4) : Sp := fun vs H Q _ => ∃ (a g : Addr) (n : Nat) (arcs : Arcs) (gs : List Int), vs = [.ref a, .ref g] ∧ Web H a n arcs ∧ WebOk n arcs ∧ Row H g gs ∧ RowOk n gs ∧ Tb T4 H ∧ ∀ H', Sit T4 H H' → Q .non H'
theorem scNeedGoal : FnScope ["web", "goal"] ["web", "goal"] (defScope sNeedGoal) := ⟨rfl, rfl, rfl, by decide +kernel, rfl, by decide +kernel, by decide +kernel⟩
theorem ok_needgoal {f c0 fI fW : Addr} {fd fdI fdW : FuncData} (F : FunC K "need_goal" "need_goal" sNeedGoal f fd c0) (T : Txt mg) (FI : Fun K "is_in" "is_in" sIsIn fI fdI) (gI : mg "is_in" = some (.ref fI)) (TB : TabB base mg c0 T4.pGoal) (O : T4.Ok)
    (GW : FnOk P w K mg base CX0 2 fW fdW ["web"] (spNeedWeb T4)) (gW : mg "need_web" = some (.ref fW)) (kW : PySem.W.keepIn K (.ref fW) = true) (bW : Binds K fdW ["web"] []) :
    FnOk P w K mg base CX0 3 f fd ["web", "goal"] (spNeedGoal T4) := by
  refine F.ok scNeedGoal (fun vs H Q E h => ?_) (fun A outer s H vs Q E hr h => ?_)
  · obtain ⟨a, g, n, arcs, gs, rfl, _⟩ := h
    rfl
  · obtain ⟨a, g, n, arcs, gs, rfl, hw, W, hg, R, tb, k⟩ := h
    obtain ⟨c, ps, h1, h2, h3⟩ := id hw
    refine ⟨_, pss_cons (ps_expr (pe_call GW hr (by rfl) gW kW bW .nil pass0 (pa_cons (pv 0) pa_nil)))
      (pss_one (ps_if (or3 (pt_not (pt_val (pe_isT T (pv 1)))) (pt_cmpR op_ne (pe_len T (pv 1)) (pe_at (pv 0) pe_int) (nomark _))
        (pt_not (pt_val (pe_allT (R := fun xs σ H1 => xs = gs.map V.int ∧ σ[0]? = some (some (.ref a)) ∧ H1 a = some (.tup [.int n, .ref c])) (k := 2) hr (by rfl) T.all TB rfl (genT_by (sc := defScope sNeedGoal) (by decide +kernel)) (pv 1) ?_ (by intro _; rfl))))) pss_never pss_nil)), ?_⟩
    · intro pins s1 σ H1 xs I hR hP
      obtain ⟨rfl, hσ, ha⟩ := hR
      refine el_isin (lo := 1) (hi := n) FI gI T (by decide +kernel) (by decide +kernel) hr (fun v hv => ?_) (fun cenv A' E' s2 m2 Q G hQ => ?_)
      · obtain ⟨j, hj, rfl⟩ := List.mem_map.mp hv
        exact ⟨j, rfl, R.ok j hj⟩
      · refine low_ix (i := 0) (x := "web") (j := 0) I hP G rfl hσ (show (defScope sNeedGoal).names.lookup ("web" : Str) = some .cell by decide +kernel) (by decide +kernel) ha rfl (by decide) fun u tk ru => ?_
        obtain ⟨t, rfl⟩ := ru
        exact hQ t tk
    · refine ⟨_, rfl, a, n, arcs, rfl, hw, W, tb, fun H1 S1 => ?_⟩
      have g1 := S1.tups _ _ hg
      have a1 := S1.tups _ _ h1
      refine ⟨_, rfl, _, _, _, _, true, rfl, .ty _, .base (.tup g1), kit_ty (by decide +kernel), true, rfl, iteF ?_⟩
      refine ⟨_, rfl, g, _, rfl, .inr (SqT.of g1), _, rfl, a, _, _, _, rfl, rfl, SqT.of a1, atI_nat (j := 0) rfl, rfl, _, rfl, ?_⟩
      rw [List.length_map, R.len]
      have e : (!decide (V.int ((n : Nat) : Int) = V.int (n : Int))) = false := by simp
      rw [e]
      refine iteF ?_
      refine ⟨_, rfl, g, _, rfl, g1, S1.tb.goal, ⟨rfl, rfl, a1⟩, fun H2 t2 => ⟨true, rfl, iteF ?_⟩⟩
      exact k H2 (S1.tabbed O.g S1.tb.goal t2)
def spNeedSmall : Sp := fun vs H Q _ => ∃ (a : Addr) (n : Nat) (arcs : Arcs), vs = [.ref a] ∧ Web H a n arcs ∧ n ≤ 4 ∧ Q .non H
theorem scNeedSmall : FnScope ["web"] ["web"] (defScope sNeedSmall) := ⟨rfl, rfl, rfl, by decide +kernel, rfl, by decide +kernel, by decide +kernel⟩
theorem ok_needsmall {f : Addr} {fd : FuncData} (F : Fun K "need_small" "need_small" sNeedSmall f fd) (T : Txt mg) : FnOk P w K mg base CX0 1 f fd ["web"] spNeedSmall := by
  refine F.ok scNeedSmall (fun vs H Q E h => ?_) (fun cdv A outer s H vs Q E hr h => ?_)
  · obtain ⟨a, n, arcs, rfl, _⟩ := h
    rfl
  · obtain ⟨a, n, arcs, rfl, hw, hn, k⟩ := h
    obtain ⟨c, ps, h1, h2, h3⟩ := id hw
    obtain ⟨tS, mS⟩ := T.mS
    refine ⟨_, pss_one (ps_if (pt_cmpR op_gt (pe_at (pv 0) pe_int) (pe_glob (v := .int 4) (by rfl) mS ⟨_, rfl⟩) (nomark _)) pss_never pss_nil), ?_⟩
    refine ⟨_, rfl, a, _, _, _, rfl, rfl, SqT.of h1, atI_nat (j := 0) rfl, _, _, rfl, rfl, _, rfl, ?_⟩
    rw [decide_eq_false (show ¬ (4 : Int) < (n : Int) by omega)]
    exact iteF k
end
end K56
end
section
set_option Elab.async false
/-! The mathematics of the searches. -/
namespace K56
/-- all of 1 .. n is in a list that has as many -/
theorem full_of {n : Nat} {ss : List Int} (nd : ss.Nodup) (hs : ∀ x ∈ ss, 1 ≤ x ∧ x ≤ n) (hl : n ≤ ss.length) : ∀ x : Int, 1 ≤ x → x ≤ n → x ∈ ss := fun x h1 h2 =>
  ph2 ss (ppl n) nd (fun y hy => ppl_mem.mpr (hs y hy)) (by rw [ppl_len]; exact hl) x (ppl_mem.mpr ⟨h1, h2⟩)
theorem len_of {n : Nat} {ss : List Int} (h : ∀ x : Int, 1 ≤ x → x ≤ n → x ∈ ss) : n ≤ ss.length := by
  have q := ph1 (ppl n) ss (ppl_nodup n) fun x hx => h x (ppl_mem.mp hx).1 (ppl_mem.mp hx).2
  rw [ppl_len] at q
  exact q
theorem len_le {n : Nat} {ss : List Int} (nd : ss.Nodup) (hs : ∀ x ∈ ss, 1 ≤ x ∧ x ≤ n) : ss.length ≤ n := by
  have q := ph1 ss (ppl n) nd fun x hx => ppl_mem.mpr (hs x hx)
  rw [ppl_len] at q
  exact q
/-! ### beat_win -/
structure BW (n : Nat) (arcs : Arcs) (p : Int) (ss : List Int) (f : Nat) : Prop where
  nd : ss.Nodup
  mem : ∀ x, x ∈ ss ↔ RK arcs p f x
  len : f + 1 ≤ ss.length
  no : ∀ k, k < f → ¬ AllK n arcs p k
section
variable {n : Nat} {arcs : Arcs} {p : Int} {ss ms : List Int} {f : Nat}
theorem BW.start (n : Nat) (arcs : Arcs) (p : Int) : BW n arcs p [p] 0 := ⟨by simp, fun x => by rw [List.mem_singleton]; exact Iff.rfl, Nat.le_refl _, fun k hk => absurd hk (Nat.not_lt_zero _)⟩
theorem BW.ok (W : WebOk n arcs) (hp : 1 ≤ p ∧ p ≤ n) (b : BW n arcs p ss f) : ∀ x ∈ ss, 1 ≤ x ∧ x ≤ n := fun _ hx => RK.ok W hp ((b.mem _).mp hx)
theorem BW.few (W : WebOk n arcs) (hp : 1 ≤ p ∧ p ≤ n) (b : BW n arcs p ss f) : ss.length ≤ n := len_le b.nd (b.ok W hp)
theorem BW.done (W : WebOk n arcs) (hp : 1 ≤ p ∧ p ≤ n) (b : BW n arcs p ss f) (h : n ≤ ss.length) : Least (AllK n arcs p) (some f) ∧ f + 1 ≤ n :=
  ⟨⟨fun x h1 h2 => (b.mem x).mp (full_of b.nd (b.ok W hp) h x h1 h2), b.no⟩, Nat.le_trans b.len (b.few W hp)⟩
/-- the people that are new -/
def NewOf (arcs : Arcs) (ss ms : List Int) : Prop := ∀ g, g ∈ ms ↔ ∃ s, (s, g) ∈ arcs ∧ s ∈ ss ∧ g ∉ ss
theorem BW.not_all (b : BW n arcs p ss f) (h : ss.length < n) : ¬ AllK n arcs p f := fun z => by
  have := len_of (n := n) (ss := ss) fun x h1 h2 => (b.mem x).mpr (z x h1 h2)
  omega
theorem BW.stuck (b : BW n arcs p ss f) (h : ss.length < n) (hm : NewOf arcs ss []) : Least (AllK n arcs p) none := by
  have cl : ∀ (k : Nat) (x : Int), RK arcs p k x → x ∈ ss := by
    intro k
    induction k with
    | zero =>
      intro x hx
      have hx : x = p := hx
      rw [hx]
      exact (b.mem p).mpr (RK.mono (j := 0) rfl f (Nat.zero_le _))
    | succ k ih =>
      intro x hx
      rcases hx with hx | ⟨s, hs, ha⟩
      · exact ih x hx
      · refine Classical.byContradiction fun hn => ?_
        have := (hm x).mpr ⟨s, ha, ih s hs, hn⟩
        cases this
  intro k z
  have := len_of (n := n) (ss := ss) fun x h1 h2 => cl k x (z x h1 h2)
  omega
theorem BW.step {ss' : List Int} (b : BW n arcs p ss f) (h : ss.length < n) (hm : NewOf arcs ss ms) (hne : ms ≠ []) (nd : ss'.Nodup) (hs : ∀ x, x ∈ ss' ↔ x ∈ ss ∨ x ∈ ms) : BW n arcs p ss' (f + 1) ∧ ss.length < ss'.length := by
  obtain ⟨g, r, rfl⟩ := List.exists_cons_of_ne_nil hne
  obtain ⟨s0, _, _, hg⟩ := (hm g).mp List.mem_cons_self
  have hlen : (g :: ss).length ≤ ss'.length := ph1 _ _ (List.nodup_cons.mpr ⟨hg, b.nd⟩) fun y hy => by
    rcases List.mem_cons.mp hy with e | hy
    · rw [e]; exact (hs g).mpr (.inr List.mem_cons_self)
    · exact (hs y).mpr (.inl hy)
  rw [List.length_cons] at hlen
  refine ⟨⟨nd, fun x => ?_, by have := b.len; omega, fun k hk => ?_⟩, by omega⟩
  · rw [hs x]
    constructor
    · rintro (hx | hx)
      · exact .inl ((b.mem x).mp hx)
      · obtain ⟨s, ha, hss, _⟩ := (hm x).mp hx
        exact .inr ⟨s, (b.mem s).mp hss, ha⟩
    · rintro (hx | ⟨s, hss, ha⟩)
      · exact .inl ((b.mem x).mpr hx)
      · by_cases hx : x ∈ ss
        · exact .inl hx
        · exact .inr ((hm x).mpr ⟨s, ha, (b.mem s).mpr hss, hx⟩)
  · rcases Nat.lt_or_ge k f with q | q
    · exact b.no k q
    · have : k = f := by omega
      subst this
      exact b.not_all h
end
/-! ### beats_to -/
structure BT (n : Nat) (arcs : Arcs) (goal : List Int) (ks rs : List (List Int)) (f : Nat) : Prop where
  nd : ks.Nodup
  mem : ∀ r, r ∈ ks ↔ BK n arcs f r
  cl : ∀ r ∈ ks, r ∉ rs → ∀ r', Beat n arcs r r' → r' ∈ ks
  sub : ∀ r ∈ rs, r ∈ ks
  no : ∀ k, k < f → ¬ BK n arcs k goal
section
variable {n : Nat} {arcs : Arcs} {goal : List Int} {ks rs : List (List Int)} {f : Nat}
theorem BT.start (n : Nat) (arcs : Arcs) (goal : List Int) : BT n arcs goal [ppl n] [ppl n] 0 :=
  ⟨by simp, fun r => by rw [List.mem_singleton]; exact Iff.rfl, fun r h1 h2 => absurd h1 h2, fun r h => h, fun k hk => absurd hk (Nat.not_lt_zero _)⟩
theorem BT.ok (W : WebOk n arcs) (b : BT n arcs goal ks rs f) : ∀ r ∈ ks, RowOk n r := fun r hr => BK.ok W ((b.mem r).mp hr)
theorem BT.few (W : WebOk n arcs) (b : BT n arcs goal ks rs f) : ks.length ≤ 256 := rows_few W.le b.nd (b.ok W)
theorem BT.done (b : BT n arcs goal ks rs f) (h : goal ∈ ks) : Least (fun k => BK n arcs k goal) (some f) := ⟨(b.mem goal).mp h, b.no⟩
theorem BT.stuck (b : BT n arcs goal ks [] f) (h : goal ∉ ks) : Least (fun k => BK n arcs k goal) none := by
  have key : ∀ (k : Nat) (r : List Int), BK n arcs k r → r ∈ ks := by
    intro k
    induction k with
    | zero =>
      intro r hr
      have hr : r = ppl n := hr
      refine (b.mem r).mpr ?_
      rw [hr]
      have up : ∀ j, BK n arcs j (ppl n) := fun j => by
        induction j with
        | zero => rfl
        | succ j ih => exact ih.up
      exact up f
    | succ k ih =>
      intro r hr
      obtain ⟨r0, h0, hb⟩ := hr
      exact b.cl r0 (ih r0 h0) (by simp) r hb
  exact fun k z => h (key k goal z)
/-- inside one beat: the rows done, the keys, the new rows -/
structure BTi (n : Nat) (arcs : Arcs) (ks ks' more done : List (List Int)) : Prop where
  nd : ks'.Nodup
  mem : ∀ r', r' ∈ ks' ↔ r' ∈ ks ∨ ∃ r ∈ done, Beat n arcs r r'
  newr : ∀ r', r' ∈ more ↔ r' ∈ ks' ∧ r' ∉ ks
  len : ks'.length = ks.length + more.length
theorem BTi.start {ks : List (List Int)} (h : ks.Nodup) : BTi n arcs ks ks [] [] := ⟨h, fun r' => ⟨.inl, fun z => z.elim id fun ⟨r, hr, _⟩ => (nomatch hr)⟩, fun r' => ⟨fun z => (nomatch z), fun z => absurd z.1 z.2⟩, rfl⟩
theorem BT.step {ks' more : List (List Int)} (b : BT n arcs goal ks rs f) (hg : goal ∉ ks) (i : BTi n arcs ks ks' more rs) : BT n arcs goal ks' more (f + 1) := by
  refine ⟨i.nd, fun r' => ?_, fun r hr hm r' hb => ?_, fun r hr => ((i.newr r).mp hr).1, fun k hk => ?_⟩
  · rw [i.mem]
    constructor
    · rintro (h | ⟨r, hr, hb⟩)
      · exact ((b.mem r').mp h).up
      · exact ⟨r, (b.mem r).mp (b.sub r hr), hb⟩
    · rintro ⟨r, hr, hb⟩
      have hk := (b.mem r).mpr hr
      by_cases h : r ∈ rs
      · exact .inr ⟨r, h, hb⟩
      · exact .inl (b.cl r hk h r' hb)
  · have hk : r ∈ ks := Classical.byContradiction fun z => hm ((i.newr r).mpr ⟨hr, z⟩)
    by_cases h : r ∈ rs
    · exact (i.mem r').mpr (.inr ⟨r, h, hb⟩)
    · exact (i.mem r').mpr (.inl (b.cl r hk h r' hb))
  · rcases Nat.lt_or_ge k f with q | q
    · exact b.no k q
    · have : k = f := by omega
      subst this
      exact fun z => hg ((b.mem goal).mpr z)
end
/-! ### hearers -/
structure HR (n : Nat) (arcs : Arcs) (p : Int) (ks rs : List Int) : Prop where
  nd : ks.Nodup
  me : p ∈ ks
  mem : ∀ x ∈ ks, ∃ k, RK arcs p k x
  cl : ∀ s ∈ ks, s ∉ rs → ∀ g, (s, g) ∈ arcs → g ∈ ks
  sub : ∀ s ∈ rs, s ∈ ks
/-- inside one round: the first arcs are done -/
structure HRi (arcs : Arcs) (p : Int) (ks rs ks' more : List Int) (i : Nat) : Prop where
  nd : ks'.Nodup
  old : ∀ x ∈ ks, x ∈ ks'
  mem : ∀ x ∈ ks', ∃ k, RK arcs p k x
  did : ∀ s g, (s, g) ∈ arcs.take i → s ∈ rs → g ∈ ks'
  new : ∀ x ∈ ks', x ∈ ks ∨ x ∈ more
  sub : ∀ x ∈ more, x ∈ ks'
  len : ks'.length = ks.length + more.length
section
variable {n : Nat} {arcs : Arcs} {p : Int} {ks rs ks' more : List Int} {i : Nat}
theorem HR.start (n : Nat) (arcs : Arcs) (p : Int) : HR n arcs p [p] [p] :=
  ⟨by simp, by simp, fun x hx => ⟨0, List.mem_singleton.mp hx⟩, fun s h1 h2 => absurd h1 h2, fun s h => h⟩
theorem HR.inner (h : HR n arcs p ks rs) : HRi arcs p ks rs ks [] 0 := ⟨h.nd, fun _ z => z, h.mem, fun s g z => by simp at z, fun x z => .inl z, fun x z => (nomatch z), rfl⟩
theorem HRi.keep {s g : Int} (h : HRi arcs p ks rs ks' more i) (he : arcs[i]? = some (s, g)) (hn : s ∈ rs → g ∈ ks') : HRi arcs p ks rs ks' more (i + 1) := by
  refine ⟨h.nd, h.old, h.mem, fun s' g' z hs' => ?_, h.new, h.sub, h.len⟩
  have hi := (List.getElem?_eq_some_iff.mp he).1
  have e := (List.getElem?_eq_some_iff.mp he).2
  rw [List.take_succ_eq_append_getElem hi, e, List.mem_append, List.mem_singleton] at z
  rcases z with z | z
  · exact h.did s' g' z hs'
  · cases z
    exact hn hs'
theorem HRi.add {s g : Int} (h : HRi arcs p ks rs ks' more i) (hsub : ∀ s ∈ rs, s ∈ ks) (he : arcs[i]? = some (s, g)) (hs : s ∈ rs) (hg : g ∉ ks') : HRi arcs p ks rs (ks' ++ [g]) (more ++ [g]) (i + 1) := by
  have hi := (List.getElem?_eq_some_iff.mp he).1
  have e := (List.getElem?_eq_some_iff.mp he).2
  refine ⟨?_, fun x hx => List.mem_append_left _ (h.old x hx), fun x hx => ?_, fun s' g' z hs' => ?_, fun x hx => ?_, fun x hx => ?_, ?_⟩
  · refine List.nodup_append.mpr ⟨h.nd, by simp, fun a ha b hb z => ?_⟩
    rw [List.mem_singleton.mp hb] at z
    exact hg (z ▸ ha)
  · rcases List.mem_append.mp hx with hx | hx
    · exact h.mem x hx
    · rw [List.mem_singleton.mp hx]
      obtain ⟨k, hk⟩ := h.mem s (h.old s (hsub s hs))
      exact ⟨k + 1, .inr ⟨s, hk, List.mem_of_getElem? he⟩⟩
  · rw [List.take_succ_eq_append_getElem hi, e, List.mem_append, List.mem_singleton] at z
    rcases z with z | z
    · exact List.mem_append_left _ (h.did s' g' z hs')
    · cases z
      exact List.mem_append_right _ (List.mem_singleton.mpr rfl)
  · rcases List.mem_append.mp hx with hx | hx
    · exact (h.new x hx).imp id fun z => List.mem_append_left _ z
    · exact .inr (List.mem_append_right _ hx)
  · rcases List.mem_append.mp hx with hx | hx
    · exact List.mem_append_left _ (h.sub x hx)
    · exact List.mem_append_right _ hx
  · rw [List.length_append, List.length_append, h.len]
    simp only [List.length_singleton]
    omega
theorem HR.next (h : HR n arcs p ks rs) (j : HRi arcs p ks rs ks' more arcs.length) : HR n arcs p ks' more := by
  refine ⟨j.nd, j.old p h.me, j.mem, fun s hs hm g ha => ?_, j.sub⟩
  have hk : s ∈ ks := (j.new s hs).elim id fun z => absurd z hm
  by_cases hr : s ∈ rs
  · exact j.did s g (by rw [List.take_length]; exact ha) hr
  · exact j.old g (h.cl s hk hr g ha)
theorem HR.ok (W : WebOk n arcs) (hp : 1 ≤ p ∧ p ≤ n) (h : HR n arcs p ks rs) : ∀ x ∈ ks, 1 ≤ x ∧ x ≤ n := fun x hx => let ⟨_, hk⟩ := h.mem x hx; RK.ok W hp hk
theorem HR.few (W : WebOk n arcs) (hp : 1 ≤ p ∧ p ≤ n) (h : HR n arcs p ks rs) : ks.length ≤ n := len_le h.nd (h.ok W hp)
theorem HR.done (W : WebOk n arcs) (hp : 1 ≤ p ∧ p ≤ n) (h : HR n arcs p ks []) : ks.length = n ↔ Wins n arcs p := by
  have cl : ∀ (k : Nat) (x : Int), RK arcs p k x → x ∈ ks := by
    intro k
    induction k with
    | zero =>
      intro x hx
      have hx : x = p := hx
      rw [hx]
      exact h.me
    | succ k ih =>
      intro x hx
      rcases hx with hx | ⟨s, hs, ha⟩
      · exact ih x hx
      · exact h.cl s (ih s hs) (by simp) x ha
  constructor
  · intro e x h1 h2
    exact h.mem x (full_of h.nd (h.ok W hp) (by omega) x h1 h2)
  · intro hw
    have h1 := h.few W hp
    have h2 := len_of (n := n) (ss := ks) fun x a b => let ⟨k, hk⟩ := hw x a b; cl k x hk
    omega
end
/-! ### win_log -/
theorem win_more {n : Nat} {arcs : Arcs} {p : Int} {ss : List Int} (hw : Wins n arcs p) (hp : p ∈ ss) (nd : ss.Nodup) (hl : ss.length < n) : ∃ s g, (s, g) ∈ arcs ∧ s ∈ ss ∧ g ∉ ss := by
  refine Classical.byContradiction fun hn => ?_
  have cl : ∀ (k : Nat) (x : Int), RK arcs p k x → x ∈ ss := by
    intro k
    induction k with
    | zero =>
      intro x hx
      have hx : x = p := hx
      rw [hx]
      exact hp
    | succ k ih =>
      intro x hx
      rcases hx with hx | ⟨s, hs, ha⟩
      · exact ih x hx
      · exact Classical.byContradiction fun z => hn ⟨s, x, ha, ih s hs, z⟩
  have := len_of (n := n) (ss := ss) fun x a b => let ⟨k, hk⟩ := hw x a b; cl k x hk
  omega
/-! ### first_log -/
/-- the rows that one entry makes -/
structure FL (n : Nat) (arcs : Arcs) (goal : List Int) (ks : List (List Int)) (rs : List (List Int × List Nat)) : Prop where
  nd : ks.Nodup
  ok : ∀ r ∈ ks, RowOk n r
  me : ppl n ∈ ks
  log : ∀ q ∈ rs, q.1 ∈ ks ∧ runL arcs (ppl n) q.2 = q.1 ∧ ∀ k ∈ q.2, k < arcs.length
  cl : ∀ r ∈ ks, r ∉ rs.map (·.1) → r ≠ goal ∧ ∀ k, k < arcs.length → tkA arcs r k ∈ ks
/-- within a round: dn rows are done (not the goal), of the next one i arcs -/
structure FLi (n : Nat) (arcs : Arcs) (goal : List Int) (ks : List (List Int)) (rs : List (List Int × List Nat)) (ks' : List (List Int)) (more : List (List Int × List Nat)) (dn i : Nat) : Prop where
  nd : ks'.Nodup
  ok : ∀ r ∈ ks', RowOk n r
  old : ∀ r ∈ ks, r ∈ ks'
  did : ∀ q ∈ rs.take dn, q.1 ≠ goal ∧ ∀ k, k < arcs.length → tkA arcs q.1 k ∈ ks'
  part : ∀ q, rs[dn]? = some q → ∀ k, k < i → tkA arcs q.1 k ∈ ks'
  new : ∀ r ∈ ks', r ∈ ks ∨ r ∈ more.map (·.1)
  log : ∀ q ∈ more, q.1 ∈ ks' ∧ runL arcs (ppl n) q.2 = q.1 ∧ ∀ k ∈ q.2, k < arcs.length
  len : ks'.length = ks.length + more.length
section
variable {n : Nat} {arcs : Arcs} {goal : List Int} {ks ks' : List (List Int)} {rs more : List (List Int × List Nat)} {dn i : Nat}
theorem FL.start (n : Nat) (arcs : Arcs) (goal : List Int) : FL n arcs goal [ppl n] [(ppl n, [])] :=
  ⟨by simp, fun r hr => by rw [List.mem_singleton.mp hr]; exact ppl_ok n, by simp, fun q hq => by rw [List.mem_singleton.mp hq]; exact ⟨by simp, rfl, fun k hk => (nomatch hk)⟩, fun r h1 h2 => by simp at h1 h2; exact absurd h1 h2⟩
theorem FL.inner (h : FL n arcs goal ks rs) : FLi n arcs goal ks rs ks [] 0 0 :=
  ⟨h.nd, h.ok, fun _ z => z, fun q hq => by simp at hq, fun q _ k hk => absurd hk (Nat.not_lt_zero _), fun r z => .inl z, fun q hq => (nomatch hq), rfl⟩
theorem FLi.keep {q : List Int × List Nat} (h : FLi n arcs goal ks rs ks' more dn i) (hq : rs[dn]? = some q) (hi : tkA arcs q.1 i ∈ ks') : FLi n arcs goal ks rs ks' more dn (i + 1) := by
  refine ⟨h.nd, h.ok, h.old, h.did, fun q' e k hk => ?_, h.new, h.log, h.len⟩
  rw [hq] at e
  cases e
  rcases Nat.lt_or_ge k i with z | z
  · exact h.part q hq k z
  · have : k = i := by omega
    rw [this]
    exact hi
theorem FLi.add {q : List Int × List Nat} (W : WebOk n arcs) (h : FLi n arcs goal ks rs ks' more dn i) (hq : rs[dn]? = some q) (hrow : RowOk n q.1) (hlog : runL arcs (ppl n) q.2 = q.1) (hlk : ∀ k ∈ q.2, k < arcs.length) (hil : i < arcs.length) (hi : tkA arcs q.1 i ∉ ks') :
    FLi n arcs goal ks rs (ks' ++ [tkA arcs q.1 i]) (more ++ [(tkA arcs q.1 i, q.2 ++ [i])]) dn (i + 1) := by
  refine ⟨?_, fun r hr => ?_, fun r hr => List.mem_append_left _ (h.old r hr), fun q' e => ⟨(h.did q' e).1, fun k hk => List.mem_append_left _ ((h.did q' e).2 k hk)⟩, fun q' e k hk => ?_, fun r hr => ?_, fun q' hm => ?_, ?_⟩
  · refine List.nodup_append.mpr ⟨h.nd, by simp, fun a ha b hb z => ?_⟩
    rw [List.mem_singleton.mp hb] at z
    exact hi (z ▸ ha)
  · rcases List.mem_append.mp hr with hr | hr
    · exact h.ok r hr
    · rw [List.mem_singleton.mp hr]
      exact tkA_ok W hrow i
  · rw [hq] at e
    cases e
    rcases Nat.lt_or_ge k i with z | z
    · exact List.mem_append_left _ (h.part q hq k z)
    · have : k = i := by omega
      rw [this]
      exact List.mem_append_right _ (List.mem_singleton.mpr rfl)
  · rw [List.map_append]
    rcases List.mem_append.mp hr with hr | hr
    · exact (h.new r hr).imp id fun z => List.mem_append_left _ z
    · rw [List.mem_singleton.mp hr]
      exact .inr (List.mem_append_right _ (by simp))
  · rcases List.mem_append.mp hm with hm | hm
    · exact ⟨List.mem_append_left _ (h.log q' hm).1, (h.log q' hm).2⟩
    · rw [List.mem_singleton.mp hm]
      refine ⟨List.mem_append_right _ (List.mem_singleton.mpr rfl), ?_, fun k hk => ?_⟩
      · show runL arcs (ppl n) (q.2 ++ [i]) = tkA arcs q.1 i
        rw [runL_snoc, hlog]
      · rcases List.mem_append.mp hk with hk | hk
        · exact hlk k hk
        · rw [List.mem_singleton.mp hk]; exact hil
  · rw [List.length_append, List.length_append, h.len]
    simp only [List.length_singleton]
    omega
theorem FLi.turn {q : List Int × List Nat} (h : FLi n arcs goal ks rs ks' more dn arcs.length) (hq : rs[dn]? = some q) (hg : q.1 ≠ goal) : FLi n arcs goal ks rs ks' more (dn + 1) 0 := by
  refine ⟨h.nd, h.ok, h.old, fun q' hq' => ?_, fun q' _ k hk => absurd hk (Nat.not_lt_zero _), h.new, h.log, h.len⟩
  have hi := (List.getElem?_eq_some_iff.mp hq).1
  have e := (List.getElem?_eq_some_iff.mp hq).2
  rw [List.take_succ_eq_append_getElem hi, e, List.mem_append, List.mem_singleton] at hq'
  rcases hq' with z | z
  · exact h.did q' z
  · rw [z]
    exact ⟨hg, h.part q hq⟩
theorem FL.next (h : FL n arcs goal ks rs) (j : FLi n arcs goal ks rs ks' more rs.length 0) : FL n arcs goal ks' more := by
  refine ⟨j.nd, j.ok, j.old _ h.me, j.log, fun r hr hm => ?_⟩
  have hk : r ∈ ks := (j.new r hr).elim id fun z => absurd z hm
  by_cases hx : r ∈ rs.map (·.1)
  · obtain ⟨q, hq, rfl⟩ := List.mem_map.mp hx
    exact j.did q (by rw [List.take_length]; exact hq)
  · exact ⟨(h.cl r hk hx).1, fun k hkk => j.old _ ((h.cl r hk hx).2 k hkk)⟩
theorem FL.few (W : WebOk n arcs) (h : FL n arcs goal ks rs) : ks.length ≤ 256 := rows_few W.le h.nd h.ok
theorem FLi.few (W : WebOk n arcs) (h : FLi n arcs goal ks rs ks' more dn i) : ks'.length ≤ 256 := rows_few W.le h.nd h.ok
theorem FL.stuck (h : FL n arcs goal ks []) {l : List Nat} (hl : ∀ k ∈ l, k < arcs.length) : runL arcs (ppl n) l ≠ goal := by
  have key : ∀ (l : List Nat) (r : List Int), r ∈ ks → (∀ k ∈ l, k < arcs.length) → runL arcs r l ∈ ks := by
    intro l
    induction l with
    | nil => exact fun r hr _ => hr
    | cons k l ih => exact fun r hr hk => ih _ ((h.cl r hr (by simp)).2 k (hk k List.mem_cons_self)) fun j hj => hk j (List.mem_cons_of_mem _ hj)
  exact (h.cl _ (key l _ h.me hl) (by simp)).1
end
end K56
end
section
set_option Elab.async false
set_option linter.all false
set_option maxRecDepth 100000
set_option maxHeartbeats 1000000
namespace K56
open PySem PySem.Spec PyProof.Rows L2 GxR
/-! ### dicts whose values are True: their keys -/
def insK {α : Type} [DecidableEq α] (ks : List α) (k : α) : List α := if k ∈ ks then ks else ks ++ [k]
section
variable {α κ : Type} [DecidableEq α] [DecidableEq κ]
theorem insK_mem {ks : List α} {k x : α} : x ∈ insK ks k ↔ x ∈ ks ∨ x = k := by
  unfold insK
  by_cases h : k ∈ ks
  · rw [if_pos h]
    exact ⟨.inl, fun z => z.elim id fun e => e ▸ h⟩
  · rw [if_neg h, List.mem_append, List.mem_singleton]
theorem insK_nodup {ks : List α} {k : α} (h : ks.Nodup) : (insK ks k).Nodup := by
  unfold insK
  by_cases e : k ∈ ks
  · rw [if_pos e]; exact h
  · rw [if_neg e]
    refine List.nodup_append.mpr ⟨h, List.nodup_cons.mpr ⟨by simp, List.nodup_nil⟩, fun a ha b hb z => ?_⟩
    rw [List.mem_singleton.mp hb] at z
    exact e (z ▸ ha)
theorem insK_len (ks : List α) (k : α) : (insK ks k).length ≤ ks.length + 1 := by
  unfold insK
  split
  · omega
  · simp
def keysG (φ : α → κ) (ks : List α) : List (κ × V) := ks.map fun k => (φ k, .bl true)
theorem keysG_keys (φ : α → κ) (ks : List α) : (keysG φ ks).map (·.1) = ks.map φ := by
  unfold keysG
  rw [List.map_map]
  rfl
theorem keysG_len (φ : α → κ) (ks : List α) : (keysG φ ks).length = ks.length := by simp [keysG]
theorem keysG_any {φ : α → κ} (inj : ∀ a b, φ a = φ b → a = b) (k : α) : ∀ ks : List α, ((keysG φ ks).any fun kv => decide (kv.1 = φ k)) = decide (k ∈ ks)
  | [] => by simp [keysG]
  | a :: r => by
    have ih := keysG_any inj k r
    unfold keysG at ih ⊢
    rw [List.map_cons, List.any_cons, ih]
    by_cases e : a = k
    · subst e; simp
    · have e2 : ¬ φ a = φ k := fun z => e (inj _ _ z)
      rw [decide_eq_false e2, Bool.false_or]
      by_cases h : k ∈ r
      · rw [decide_eq_true h, decide_eq_true (List.mem_cons_of_mem _ h)]
      · rw [decide_eq_false h, decide_eq_false (fun m => (List.mem_cons.mp m).elim (fun z => e z.symm) h)]
theorem keysG_put {φ : α → κ} (inj : ∀ a b, φ a = φ b → a = b) (ks : List α) (k : α) : putK (keysG φ ks) (φ k) (.bl true) = keysG φ (insK ks k) := by
  unfold putK
  rw [keysG_any inj]
  unfold insK
  by_cases h : k ∈ ks
  · rw [if_pos (decide_eq_true h), if_pos h]
    unfold keysG
    rw [List.map_map]
    refine List.map_congr_left fun a _ => ?_
    show (if φ a = φ k then (φ a, V.bl true) else (φ a, V.bl true)) = (φ a, V.bl true)
    split <;> rfl
  · rw [if_neg (by rw [decide_eq_false h]; exact Bool.false_ne_true), if_neg h]
    unfold keysG
    rw [List.map_append]
    rfl
theorem keysG_val {φ : α → κ} (inj : ∀ a b, φ a = φ b → a = b) (ks : List α) (k : α) : (valV (keysG φ ks) (φ k)).isSome = decide (k ∈ ks) := by
  rw [← valV_any, keysG_any inj]
end
abbrev kI : Int → Key := Sum.inl
abbrev kT : List Int → List Key := List.map Sum.inl
theorem kI_inj : ∀ a b : Int, kI a = kI b → a = b := fun a b h => Sum.inl.inj h
theorem kT_inj : ∀ a b : List Int, kT a = kT b → a = b
  | [], [], _ => rfl
  | [], _ :: _, h => by simp [kT] at h
  | _ :: _, [], h => by simp [kT] at h
  | a :: r, b :: s, h => by
    have h' : Sum.inl a :: kT r = (Sum.inl b : Key) :: kT s := h
    injection h' with h1 h2
    rw [Sum.inl.inj h1, kT_inj r s h2]
theorem kT_kV (r : List Int) : (kT r).map kV = r.map V.int := by
  unfold kT
  rw [List.map_map]
  rfl
theorem row_kT {H : Hp} {a : Addr} {r : List Int} (h : Row H a r) : H a = some (.tup ((kT r).map kV)) := by
  rw [kT_kV]
  exact h
/-! ### ints in lists -/
theorem inV_ints (x : Int) : ∀ ss : List Int, inV (.int x) (ss.map V.int) = decide (x ∈ ss)
  | [] => by simp [inV]
  | a :: r => by
    have ih := inV_ints x r
    unfold inV at ih ⊢
    rw [List.map_cons, List.any_cons, ih]
    show ((a == x) || decide (x ∈ r)) = decide (x ∈ a :: r)
    by_cases e : a = x
    · subst e; simp
    · rw [beq_eq_false_iff_ne.mpr e, Bool.false_or]
      by_cases h : x ∈ r
      · rw [decide_eq_true h, decide_eq_true (List.mem_cons_of_mem _ h)]
      · rw [decide_eq_false h, decide_eq_false (fun m => (List.mem_cons.mp m).elim (fun z => e z.symm) h)]
theorem flat_ints (ss : List Int) : (ss.map V.int).all flatV = true := by
  rw [List.all_eq_true]
  intro v hv
  obtain ⟨x, _, rfl⟩ := List.mem_map.mp hv
  rfl
theorem map_get {α β : Type} {f : α → β} {l : List α} {i : Nat} {y : β} (h : (l.map f)[i]? = some y) : ∃ x, l[i]? = some x ∧ y = f x := by
  rw [List.getElem?_map] at h
  cases e : l[i]? with
  | none => rw [e] at h; cases h
  | some x => rw [e] at h; exact ⟨x, rfl, (Option.some.inj h).symm⟩
theorem mem_take_succ {α : Type} {l : List α} {i : Nat} {x y : α} (h : l[i]? = some x) : y ∈ l.take (i + 1) ↔ y ∈ l.take i ∨ y = x := by
  have hi := (List.getElem?_eq_some_iff.mp h).1
  have e := (List.getElem?_eq_some_iff.mp h).2
  rw [List.take_succ_eq_append_getElem hi, e, List.mem_append, List.mem_singleton]
theorem small_line {n : Nat} (h : n ≤ 100000) : n ≤ sizeLine := by
  have := sizeLine_eq
  omega
theorem small_lt {n : Nat} (h : n ≤ 100000) : n < sizeLine := by
  have := sizeLine_eq
  omega
/-- {one: True for one in ns} -/
theorem dcW {K : PySem.W.Frag} {a D : Addr} {ns : List Int} {i : Nat} {σ : L2.St} {H1 : Hp} {Qd : Hp → Prop} (hS : SqL K H1 a (ns.map V.int)) (hl : ∀ H, (∀ b o, b ≠ D → H1 b = some o → H b = some o) → SqL K H a (ns.map V.int)) (hD : H1 D = none) (hi : i < σ.length) (hn : ns.length ≤ 1000) (hQ : ∀ ks : List Int, ks.Nodup → (∀ x, x ∈ ks ↔ x ∈ ns) → Qd (upd H1 D (.dK (keysG kI ks)))) :
    ∃ W : Nat → Nat → Hp → Prop, (∃ m, W 0 m (upd H1 D (.dK []))) ∧ ∀ j m H, W j m H →
      ((Itl K a).stop j H ∧ Qd H) ∨ ((Itl K a).go j H ∧ ∃ Nx : Hp → Prop, (∀ H', Nx H' → ∃ m', m' < m ∧ W (j + 1) m' H') ∧ ∀ x H', (Itl K a).yld j H x H' → gName i x (wipe σ [i]) H' fun σ2 H2 => wipe σ2 [i] = wipe σ [i] ∧ tYes σ2 H2 fun b H3 =>
        if b = true then tVar i σ2 H3 fun y H4 => tC (.bl true) σ2 H4 fun z H5 => ∃ kvs k, y = kV k ∧ H5 D = some (.dK kvs) ∧ kvs.length < sizeLine ∧ Nx (upd H5 D (.dK (putK kvs k z))) else Nx H3) := by
  refine ⟨fun j m H => m = ns.length - j ∧ j ≤ ns.length ∧ ∃ ks : List Int, H = upd H1 D (.dK (keysG kI ks)) ∧ ks.Nodup ∧ ks.length ≤ j ∧ ∀ x, x ∈ ks ↔ x ∈ ns.take j, ⟨ns.length, by simp, Nat.zero_le _, [], rfl, List.nodup_nil, Nat.le_refl _, by simp⟩, ?_⟩
  rintro j m H ⟨rfl, hj, ks, rfl, nd, hkl, hm⟩
  have q := hl (upd H1 D (.dK (keysG kI ks))) (fun b o nb e => by rw [upd_ne nb]; exact e)
  by_cases hlt : j < ns.length
  · have hx : ns[j]? = some ns[j] := List.getElem?_eq_getElem hlt
    refine .inr ⟨⟨_, .int ns[j], q, by rw [List.getElem?_map, hx]; rfl⟩, fun H' => ∃ ks' : List Int, H' = upd H1 D (.dK (keysG kI ks')) ∧ ks'.Nodup ∧ ks'.length ≤ j + 1 ∧ ∀ x, x ∈ ks' ↔ x ∈ ns.take (j + 1), fun H' p' => ⟨ns.length - (j + 1), by omega, rfl, hlt, p'⟩, fun x H' y => ?_⟩
    obtain ⟨e, y⟩ := y
    subst e
    have y' := y _ q
    rw [List.getElem?_map, hx] at y'
    cases y'
    refine ⟨?_, ?_⟩
    · show ((σ.set i none).set i (some (.int ns[j]))).set i none = σ.set i none
      rw [List.set_set, List.set_set]
    dsimp only [tYes]
    rw [if_pos rfl]
    refine ⟨.int ns[j], ?_, keysG kI ks, kI ns[j], rfl, upd_same, by rw [keysG_len]; exact small_lt (by omega), insK ks ns[j], ?_, insK_nodup nd, Nat.le_trans (insK_len _ _) (by omega), fun x => ?_⟩
    · show ((σ.set i none).set i (some (.int ns[j])))[i]? = some (some (.int ns[j]))
      rw [List.getElem?_set_self (by rw [List.length_set]; exact hi)]
    · rw [upd_upd, keysG_put kI_inj]
    · rw [insK_mem, hm, mem_take_succ hx]
  · have e : j = ns.length := by omega
    subst e
    rw [List.take_length] at hm
    exact .inl ⟨⟨_, q, by rw [List.length_map]; exact Nat.le_refl _⟩, hQ ks nd hm⟩
end K56
end
section
set_option Elab.async false
set_option linter.all false
set_option maxRecDepth 100000
set_option maxHeartbeats 1000000
namespace K56
open PySem PySem.Spec PyProof.Rows L2 GxR
/-- an int or None -/
def oV : Option Nat → V
  | some d => .int d
  | none => .non
section
variable {P : Program} {w : World} {K : PySem.W.Frag} {mg : Str → Option Value} {base : Heap} {T4 : Tabs4}
/-! ### beat_win -/
def spBeatWin (T4 : Tabs4) : Sp := fun vs H Q _ => ∃ (a : Addr) (n : Nat) (arcs : Arcs) (p : Int), vs = [.ref a, .int p] ∧ Web H a n arcs ∧ WebOk n arcs ∧ (1 ≤ p ∧ p ≤ n) ∧ Tb T4 H ∧
  ∀ H' (o : Option Nat), Sit T4 H H' → Least (AllK n arcs p) o → (∀ d, o = some d → d + 1 ≤ n) → Q (oV o) H'
abbrev nBW : List Str := ["web", "person", "seen", "found", "more", "source", "goal", "one"]
theorem scBeatWin : FnScope nBW ["web", "person"] (defScope sBeatWin) := ⟨rfl, rfl, rfl, by decide +kernel, rfl, by decide +kernel, by decide +kernel⟩
theorem ok_beatwin {f fW fP : Addr} {fd fdW fdP : FuncData} (F : Fun K "beat_win" "beat_win" sBeatWin f fd) (T : Txt mg) (GW : FnOk P w K mg base CX0 2 fW fdW ["web"] (spNeedWeb T4)) (gW : mg "need_web" = some (.ref fW)) (kW : PySem.W.keepIn K (.ref fW) = true) (bW : Binds K fdW ["web"] [])
    (GP : FnOk P w K mg base CX0 2 fP fdP ["web", "person"] spNeedPerson) (gP : mg "need_person" = some (.ref fP)) (kP : PySem.W.keepIn K (.ref fP) = true) (bP : Binds K fdP ["web", "person"] []) :
    FnOk P w K mg base CX0 3 f fd ["web", "person"] (spBeatWin T4) := by
  refine F.ok scBeatWin (fun vs H Q E h => ?_) (fun cdv A outer s H vs Q E hr h => ?_)
  · obtain ⟨a, n, arcs, p, rfl, _⟩ := h
    rfl
  · obtain ⟨a, n, arcs, p, rfl, hw, W, hp, tb, k⟩ := h
    obtain ⟨c, ps, w1, w2, w3⟩ := id hw
    have hpl : ps.length = arcs.length := Paired.length w3
    refine ⟨_, pss_cons (ps_expr (pe_call GW hr (by rfl) gW kW bW .nil pass0 (pa_cons (pv 0) pa_nil)))
      (pss_cons (ps_expr (pe_call GP hr (by rfl) gP kP bP .nil pass0 (pa_cons (pv 0) (pa_cons (pv 1) pa_nil))))
      (pss_cons (ps_asg (pe_tup (pa_cons (pe_lst (pa_cons (pv 1) pa_nil)) (pa_cons pe_int pa_nil))) (pg_tup rfl (pgs_cons (pg_name (i := 2) scBeatWin.nd rfl (.inr rfl)) (pgs_cons (pg_name (i := 3) scBeatWin.nd rfl (.inl rfl)) pgs_nil))))
      (pss_cons (ps_while PassesOwn.never (pt_cmpR op_lt (pe_len T (pv 2)) (pe_at (pv 0) pe_int) (nomark _))
        (pss_cons (ps_setLc (i := 4) (own := [("source", 5), ("goal", 6)]) (g := gTup K 2 (gCons (gName 5) (gCons (gName 6) gNil))) (tt := tAnd (tTest (tOp (rIn K false) (tVar 5) (tVar 2))) (tTest (tOp (rIn K true) (tVar 6) (tVar 2)))) (te := tVar 6) rfl scBeatWin.nd rfl rfl (sw_true rfl rfl rfl (by decide +kernel)) (pi_tup (pe_at (pv 0) pe_int)) (blkOk_by (own := [("source", 5), ("goal", 6)]) (N := nBW) (sc := defScope sBeatWin) (by decide +kernel))
            (fun _ _ _ _ _ => pg_tup rfl (pgs_cons (pg_name (i := 5) scBeatWin.nd rfl (Or.inl rfl) (Or.inr rfl)) (pgs_cons (pg_name (i := 6) scBeatWin.nd rfl (Or.inl rfl) (Or.inr rfl)) pgs_nil)))
            (fun _ _ _ _ _ => pts_one (and2 (pt_cmpR (r := rIn K false) op_in_seq (pv 5) (pv 2) (by rfl)) (pt_cmpR (r := rIn K true) op_notIn_seq (pv 6) (pv 2) (by rfl)))) (fun _ _ _ _ _ => pv 6))
        (pss_cons (ps_if (pt_not (pt_truth (pv 4) (by intro _; rfl))) (pss_one (ps_ret pe_non)) pss_nil)
        (pss_cons (ps_set (i := 2) scBeatWin.nd rfl (Or.inr rfl) (pe_callB (call_sortedDI rfl) (by rfl) T.sorted (by decide +kernel) (pa_cons (pe_dc (own := [("one", 7)]) (g := gName 7) (tt := tYes) (tk := tVar 7) (tv := tC (.bl true)) rfl scBeatWin.nd (pi_list (pe_lst (StX.pa_star (pv 2) (StX.pa_star (pv 4) pa_nil))))
            (blkOk_by (own := [("one", 7)]) (N := nBW) (sc := defScope sBeatWin) (by decide +kernel)) (fun _ _ _ _ _ => pg_name (i := 7) scBeatWin.nd rfl (Or.inl rfl)) (fun _ _ _ _ _ => pts_nil) (fun _ _ _ _ _ => pv 7) (fun _ _ _ _ _ => pe_bl)) pa_nil)))
        (pss_one (ps_set (i := 3) scBeatWin.nd rfl (Or.inl rfl) (pe_op op_add (pv 3) pe_int)))))))
      (pss_one (ps_ret (pv 3)))))), ?_⟩
    refine ⟨_, rfl, a, n, arcs, rfl, hw, W, tb, fun H1 S1 => ?_⟩
    refine ⟨_, rfl, _, rfl, a, n, arcs, p, rfl, S1.tups.web hw, hp.1, hp.2, ?_⟩
    refine ⟨_, rfl, Nat.succ_le_succ (Nat.zero_le _), fun q0 nq0 => ?_⟩
    refine ⟨by show 2 ≤ sizeLine; decide, fun t0 nt0 => ?_⟩
    have S2 : Sit T4 H (upd H1 q0 (.lst [.int p])) := S1.new nq0
    have S3 := S2.new (o := .tup [.ref q0, .int 0]) nt0
    refine ⟨t0, _, rfl, SqT.of upd_same, rfl, _, _, rfl, _, _, rfl, rfl, ?_⟩
    refine ⟨fun m σ H' => ∃ (q : Addr) (ss : List Int) (ff : Nat) (v4 v5 v6 v7 : Option V), m = n - ss.length ∧ σ = [some (.ref a), some (.int p), some (.ref q), some (.int ff), v4, v5, v6, v7] ∧ Sit T4 H H' ∧ H' q = some (.lst (ss.map V.int)) ∧ BW n arcs p ss ff,
      ⟨_, q0, [p], 0, none, none, none, none, rfl, rfl, S3, ?_, BW.start n arcs p⟩, ?_⟩
    · rw [upd_ne (ne_of_none upd_same nt0), upd_same]
      rfl
    rintro m σ H' ⟨q, ss, ff, v4, v5, v6, v7, rfl, rfl, S, hq, b⟩
    have a1 := S.tups _ _ w1
    have a2 := S.tups _ _ w2
    have a3 := S.tups.pairs w3
    refine ⟨_, rfl, q, _, rfl, .inl (SqL.of hq), _, rfl, a, _, _, _, rfl, rfl, SqT.of a1, atI_nat (j := 0) rfl, _, _, rfl, rfl, _, rfl, ?_⟩
    rw [List.length_map]
    by_cases hlt : ss.length < n
    · rw [decide_eq_true (show ((ss.length : Nat) : Int) < (n : Int) by omega)]
      refine iteT ⟨fun σ' H2 => ∃ m', m' < n - ss.length ∧ ∃ (q : Addr) (ss : List Int) (ff : Nat) (v4 v5 v6 v7 : Option V), m' = n - ss.length ∧ σ' = [some (.ref a), some (.int p), some (.ref q), some (.int ff), v4, v5, v6, v7] ∧ Sit T4 H H2 ∧ H2 q = some (.lst (ss.map V.int)) ∧ BW n arcs p ss ff, fun _ _ z => z, ?_⟩
      -- more = [goal for source, goal in web[1] if source in seen and goal not in seen]
      refine ⟨_, rfl, a, _, _, _, rfl, rfl, SqT.of a1, atI_nat (j := 1) rfl, c, rfl, ⟨_, SqT.of a2⟩, fun D nD => lc_tup (K := K) (a := c) (xs := ps.map V.ref)
        (fun i H2 => ∃ ms : List Int, H2 D = some (.lst (ms.map V.int)) ∧ Same H' H2 ∧ ms.length ≤ i ∧ ∀ g, g ∈ ms ↔ ∃ s, (s, g) ∈ arcs.take i ∧ s ∈ ss ∧ g ∉ ss)
        ⟨[], upd_same, same_mk1 nD, Nat.le_refl _, fun g => by simp⟩ (fun i H2 _ ⟨_, _, S2, _⟩ => SqT.of (S2 _ _ a2)) ?_ ?_⟩
      · rintro i x H2 hi ⟨ms, hD, S2, hml, hm⟩
        obtain ⟨pa, hpa, rfl⟩ := map_get hi
        obtain ⟨⟨si, gi⟩, hsg, hpp⟩ := Paired.get' a3 hpa
        have hq2 := S2 _ _ hq
        have hii := (List.getElem?_eq_some_iff.mp hsg).1
        refine ⟨pa, _, rfl, SqT.of (S2 _ _ hpp), rfl, _, _, rfl, _, _, rfl, rfl, rfl, ?_⟩
        refine ⟨_, rfl, _, rfl, q, _, rfl, .inl (SqL.of hq2), rfl, flat_ints ss, _, rfl, ?_⟩
        have mt : ∀ y : Int × Int, y ∈ arcs.take (i + 1) ↔ y ∈ arcs.take i ∨ y = (si, gi) := fun y => mem_take_succ hsg
        rw [if_neg Bool.false_ne_true, inV_ints]
        refine ite2 (fun c1 => ?_) (fun c1 => ?_)
        · refine ⟨_, rfl, _, rfl, q, _, rfl, .inl (SqL.of hq2), rfl, flat_ints ss, _, rfl, ?_⟩
          rw [if_pos rfl, inV_ints]
          have c1' := of_decide_eq_true c1
          by_cases c2 : gi ∈ ss
          · rw [decide_eq_true c2]
            refine iteF ⟨ms, hD, S2, by omega, fun g => ?_⟩
            rw [hm g]
            constructor
            · rintro ⟨s, h1, h2, h3⟩
              exact ⟨s, (mt _).mpr (.inl h1), h2, h3⟩
            · rintro ⟨s, h1, h2, h3⟩
              rcases (mt _).mp h1 with z | z
              · exact ⟨s, z, h2, h3⟩
              · cases z
                exact absurd c2 h3
          · rw [decide_eq_false c2]
            refine iteT ⟨_, rfl, _, hD, by rw [List.length_map]; exact small_lt (by have := W.few; omega), ms ++ [gi], by rw [upd_same, List.map_append]; rfl, same_own S2 nD, by rw [List.length_append]; simp; omega, fun g => ?_⟩
            rw [List.mem_append, hm g, List.mem_singleton]
            constructor
            · rintro (⟨s, h1, h2, h3⟩ | rfl)
              · exact ⟨s, (mt _).mpr (.inl h1), h2, h3⟩
              · exact ⟨si, (mt _).mpr (.inr rfl), c1', c2⟩
            · rintro ⟨s, h1, h2, h3⟩
              rcases (mt _).mp h1 with z | z
              · exact .inl ⟨s, z, h2, h3⟩
              · cases z
                exact .inr rfl
        · have c1' : ¬ si ∈ ss := fun z => c1 (decide_eq_true z)
          refine iteF ⟨ms, hD, S2, by omega, fun g => ?_⟩
          rw [hm g]
          constructor
          · rintro ⟨s, h1, h2, h3⟩
            exact ⟨s, (mt _).mpr (.inl h1), h2, h3⟩
          · rintro ⟨s, h1, h2, h3⟩
            rcases (mt _).mp h1 with z | z
            · exact ⟨s, z, h2, h3⟩
            · cases z
              exact absurd h2 c1'
      · rintro H2 ⟨ms, hD, S2, hml, hm⟩
        rw [List.length_map, hpl, List.take_length] at hm
        have hN : NewOf arcs ss ms := hm
        have SS : Sit T4 H H2 := S.same S2
        -- if not more: return None
        refine ⟨_, rfl, _, .inl ⟨_, SqL.of hD, rfl⟩, ?_⟩
        by_cases he : ms = []
        · subst he
          refine iteT ?_
          exact k H2 none SS (b.stuck hlt hN) (fun d z => nomatch z)
        · have e1 : (!(ms.map V.int).isEmpty) = true := by
            cases ms with
            | nil => exact absurd rfl he
            | cons x r => rfl
          rw [e1]
          refine iteF ?_
          -- seen = sorted({one: True for one in [*seen, *more]})
          have hq2 := S2 _ _ hq
          refine ⟨_, rfl, q, _, rfl, .inr (SqL.of hq2), _, rfl, D, _, rfl, .inr (SqL.of hD), ?_, fun L nL => ?_⟩
          · rw [List.append_nil, List.length_append, List.length_map, List.length_map]
            have := W.few
            have := W.le
            exact small_line (by rw [List.length_map] at hml; omega)
          have eL : ss.map V.int ++ (ms.map V.int ++ []) = (ss ++ ms).map V.int := by simp
          rw [eL]
          refine ⟨L, rfl, ⟨_, SqL.of upd_same⟩, fun D2 nD2 => dcW (ns := ss ++ ms) (SqL.of upd_same) (fun H3 h3 => SqL.of (h3 _ _ (ne_of_none upd_same nD2) upd_same)) nD2 (by show 7 < 8; decide) (by
            rw [List.length_append]
            have := W.few
            have := W.le
            rw [List.length_map] at hml
            omega) fun ks knd km => ?_⟩
          have hks : ∀ x ∈ ks, 1 ≤ x ∧ x ≤ n := fun x hx => by
            rcases List.mem_append.mp ((km x).mp hx) with z | z
            · exact b.ok W hp x z
            · obtain ⟨s, ha, _, _⟩ := (hN x).mp z
              exact (W.ok _ ha).2.1
          have hk4 : ks.length ≤ n := len_le knd hks
          have := W.le
          refine ⟨D2, _, ks, rfl, .inl upd_same, keysG_keys _ _, by omega, fun ys p2 perm pw np2 => ?_⟩
          refine ⟨_, rfl, _, _, rfl, rfl, ?_⟩
          obtain ⟨b2, blt⟩ := b.step (ss' := ys) hlt hN he (perm.nodup_iff.mpr knd) (fun x => by rw [perm.mem_iff, km, List.mem_append])
          have hyn : ys.length = ks.length := perm.length_eq
          exact ⟨n - ys.length, by omega, p2, ys, ff + 1, _, _, _, _, rfl, rfl, ((SS.new nL).new nD2).new np2, upd_same, b2⟩
    · rw [decide_eq_false (show ¬ ((ss.length : Nat) : Int) < (n : Int) by omega)]
      refine iteF ?_
      obtain ⟨l1, l2⟩ := b.done W hp (by omega)
      exact ⟨_, rfl, k H' (some ff) S l1 fun d z => by cases z; exact l2⟩
end
end K56
end
section
set_option Elab.async false
/-! The rows that one beat makes, person by person. -/
namespace K56
def PB (arcs : Arcs) (xs : List Int) (j : Nat) (q : List Int) : Prop :=
  q.length = j ∧ ∀ k : Nat, k < j → q.getD k 0 = xs.getD k 0 ∨ ∃ s, (s, (k : Int) + 1) ∈ arcs ∧ q.getD k 0 = xs.getD (s - 1).toNat 0
theorem PB.zero (arcs : Arcs) (xs q : List Int) : q ∈ [([] : List Int)] ↔ PB arcs xs 0 q := by
  rw [List.mem_singleton]
  constructor
  · rintro rfl
    exact ⟨rfl, fun k hk => absurd hk (Nat.not_lt_zero _)⟩
  · rintro ⟨h, _⟩
    exact List.length_eq_zero_iff.mp h
theorem getD_app {q : List Int} {y : Int} {k : Nat} (h : k < q.length) : (q ++ [y]).getD k 0 = q.getD k 0 := by
  rw [List.getD_eq_getElem?_getD, List.getElem?_append_left h, ← List.getD_eq_getElem?_getD]
theorem getD_last {q : List Int} {y : Int} : (q ++ [y]).getD q.length 0 = y := by
  rw [List.getD_eq_getElem?_getD, List.getElem?_append_right (Nat.le_refl _), Nat.sub_self]
  rfl
theorem PB.step {arcs : Arcs} {xs : List Int} {j : Nat} {rs rs' : List (List Int)} {sg : List Int} (hr : ∀ q, q ∈ rs ↔ PB arcs xs j q) (hs : ∀ y, y ∈ sg ↔ y = xs.getD j 0 ∨ ∃ s, (s, (j : Int) + 1) ∈ arcs ∧ y = xs.getD (s - 1).toNat 0)
    (h : ∀ q, q ∈ rs' ↔ ∃ q0 ∈ rs, ∃ y ∈ sg, q = q0 ++ [y]) (q : List Int) : q ∈ rs' ↔ PB arcs xs (j + 1) q := by
  rw [h]
  constructor
  · rintro ⟨q0, hq, y, hy, rfl⟩
    obtain ⟨hl, hp⟩ := (hr q0).mp hq
    refine ⟨by rw [List.length_append, hl]; rfl, fun k hk => ?_⟩
    rcases Nat.lt_or_ge k j with z | z
    · rw [getD_app (by omega)]
      exact hp k z
    · have e : k = q0.length := by omega
      rw [e, getD_last, hl]
      exact (hs y).mp hy
  · rintro ⟨hl, hp⟩
    refine ⟨q.take j, (hr _).mpr ⟨by rw [List.length_take]; omega, fun k hk => ?_⟩, q.getD j 0, (hs _).mpr (hp j (Nat.lt_succ_self j)), ?_⟩
    · have e : (q.take j).getD k 0 = q.getD k 0 := by
        rw [List.getD_eq_getElem?_getD, List.getElem?_take_of_lt hk, ← List.getD_eq_getElem?_getD]
      rw [e]
      exact hp k (by omega)
    · have hj : j < q.length := by omega
      have e2 : q.take (j + 1) = q := List.take_of_length_le (by omega)
      have e3 : q.getD j 0 = q[j] := getD_some (List.getElem?_eq_getElem hj)
      rw [e3, ← List.take_succ_eq_append_getElem hj, e2]
theorem PB.beat {n : Nat} {arcs : Arcs} {xs q : List Int} : PB arcs xs n q ↔ Beat n arcs xs q := Iff.rfl
/-- entry by entry of a list of lists, each with one more sign -/
theorem mem_take_ext {rs : List (List Int)} {sg : List Int} {i : Nat} {q0 : List Int} {ms qs : List (List Int)} (h : rs[i]? = some q0) (hm : ∀ q, q ∈ ms ↔ ∃ q0 ∈ rs.take i, ∃ y ∈ sg, q = q0 ++ [y]) (hq : ∀ q, q ∈ qs ↔ ∃ y ∈ sg, q = q0 ++ [y]) (q : List Int) :
    q ∈ ms ++ qs ↔ ∃ q0 ∈ rs.take (i + 1), ∃ y ∈ sg, q = q0 ++ [y] := by
  have hi := (List.getElem?_eq_some_iff.mp h).1
  have e := (List.getElem?_eq_some_iff.mp h).2
  rw [List.mem_append, hm, hq, List.take_succ_eq_append_getElem hi, e]
  constructor
  · rintro (⟨a, ha, z⟩ | z)
    · exact ⟨a, List.mem_append_left _ ha, z⟩
    · exact ⟨q0, List.mem_append_right _ (List.mem_singleton.mpr rfl), z⟩
  · rintro ⟨a, ha, z⟩
    rcases List.mem_append.mp ha with ha | ha
    · exact .inl ⟨a, ha, z⟩
    · rw [List.mem_singleton.mp ha] at z
      exact .inr z
end K56
end
section
set_option Elab.async false
set_option linter.all false
set_option maxRecDepth 100000
set_option maxHeartbeats 2000000
namespace K56
open PySem PySem.Spec PyProof.Rows L2 GxR
/-- {k(one): True for one in ns} -/
theorem dcWf {K : PySem.W.Frag} {a D : Addr} {ns : List Int} {i : Nat} {σ : L2.St} {H1 : Hp} {Qd : Hp → Prop} {tk : TE} (kf : Int → Int) (hS : SqL K H1 a (ns.map V.int)) (hl : ∀ H, (∀ b o, b ≠ D → H1 b = some o → H b = some o) → SqL K H a (ns.map V.int)) (hD : H1 D = none) (hi : i < σ.length) (hn : ns.length ≤ 1000)
    (htk : ∀ (x : Int) (H : Hp) (R : VK), x ∈ ns → (∀ b o, b ≠ D → H1 b = some o → H b = some o) → R (.int (kf x)) H → tk ((wipe σ [i]).set i (some (.int x))) H R)
    (hQ : ∀ ks : List Int, ks.Nodup → (∀ x, x ∈ ks ↔ ∃ y ∈ ns, x = kf y) → Qd (upd H1 D (.dK (keysG kI ks)))) :
    ∃ W : Nat → Nat → Hp → Prop, (∃ m, W 0 m (upd H1 D (.dK []))) ∧ ∀ j m H, W j m H →
      ((Itl K a).stop j H ∧ Qd H) ∨ ((Itl K a).go j H ∧ ∃ Nx : Hp → Prop, (∀ H', Nx H' → ∃ m', m' < m ∧ W (j + 1) m' H') ∧ ∀ x H', (Itl K a).yld j H x H' → gName i x (wipe σ [i]) H' fun σ2 H2 => wipe σ2 [i] = wipe σ [i] ∧ tYes σ2 H2 fun b H3 =>
        if b = true then tk σ2 H3 fun y H4 => tC (.bl true) σ2 H4 fun z H5 => ∃ kvs k, y = kV k ∧ H5 D = some (.dK kvs) ∧ kvs.length < sizeLine ∧ Nx (upd H5 D (.dK (putK kvs k z))) else Nx H3) := by
  refine ⟨fun j m H => m = ns.length - j ∧ j ≤ ns.length ∧ ∃ ks : List Int, H = upd H1 D (.dK (keysG kI ks)) ∧ ks.Nodup ∧ ks.length ≤ j ∧ ∀ x, x ∈ ks ↔ ∃ y ∈ ns.take j, x = kf y, ⟨ns.length, by simp, Nat.zero_le _, [], rfl, List.nodup_nil, Nat.le_refl _, by simp⟩, ?_⟩
  rintro j m H ⟨rfl, hj, ks, rfl, nd, hkl, hm⟩
  have kp : ∀ b o, b ≠ D → H1 b = some o → (upd H1 D (.dK (keysG kI ks))) b = some o := fun b o nb e => by rw [upd_ne nb]; exact e
  have q := hl (upd H1 D (.dK (keysG kI ks))) kp
  by_cases hlt : j < ns.length
  · have hx : ns[j]? = some ns[j] := List.getElem?_eq_getElem hlt
    refine .inr ⟨⟨_, .int ns[j], q, by rw [List.getElem?_map, hx]; rfl⟩, fun H' => ∃ ks' : List Int, H' = upd H1 D (.dK (keysG kI ks')) ∧ ks'.Nodup ∧ ks'.length ≤ j + 1 ∧ ∀ x, x ∈ ks' ↔ ∃ y ∈ ns.take (j + 1), x = kf y, fun H' p' => ⟨ns.length - (j + 1), by omega, rfl, hlt, p'⟩, fun x H' y => ?_⟩
    obtain ⟨e, y⟩ := y
    subst e
    have y' := y _ q
    rw [List.getElem?_map, hx] at y'
    cases y'
    refine ⟨?_, ?_⟩
    · show ((σ.set i none).set i (some (.int ns[j]))).set i none = σ.set i none
      rw [List.set_set, List.set_set]
    dsimp only [tYes]
    rw [if_pos rfl]
    refine htk ns[j] _ _ (List.getElem_mem hlt) kp ⟨keysG kI ks, kI (kf ns[j]), rfl, upd_same, by rw [keysG_len]; exact small_lt (by omega), insK ks (kf ns[j]), ?_, insK_nodup nd, Nat.le_trans (insK_len _ _) (by omega), fun x => ?_⟩
    · rw [upd_upd, keysG_put kI_inj]
    · rw [insK_mem, hm]
      constructor
      · rintro (⟨y, hy, e⟩ | e)
        · exact ⟨y, (mem_take_succ hx).mpr (.inl hy), e⟩
        · exact ⟨ns[j], (mem_take_succ hx).mpr (.inr rfl), e⟩
      · rintro ⟨y, hy, e⟩
        rcases (mem_take_succ hx).mp hy with z | z
        · exact .inl ⟨y, z, e⟩
        · rw [z] at e
          exact .inr e
  · have e : j = ns.length := by omega
    subst e
    rw [List.take_length] at hm
    exact .inl ⟨⟨_, q, by rw [List.length_map]; exact Nat.le_refl _⟩, hQ ks nd hm⟩
theorem tups_new {H : Hp} {p : Addr} {o : HO} (h : H p = none) : TupS H (upd H p o) := same_tups (same_mk1 h)
theorem tups_lst {H : Hp} {p : Addr} {xs : List V} {o : HO} (h : H p = some (.lst xs)) : TupS H (upd H p o) := fun b ys e => by
  rw [upd_ne (ne_of e h (fun z => by cases z))]
  exact e
section
variable {P : Program} {w : World} {K : PySem.W.Frag} {mg : Str → Option Value} {base : Heap}
/-! ### beaten -/
def spBeaten : Sp := fun vs H Q _ => ∃ (a r : Addr) (n : Nat) (arcs : Arcs) (xs : List Int), vs = [.ref a, .ref r] ∧ Web H a n arcs ∧ WebOk n arcs ∧ Row H r xs ∧ RowOk n xs ∧
  ∀ H' L as rs, Same H H' → H L = none → H' L = some (.lst (as.map V.ref)) → RowsAt H' as rs → (∀ r', r' ∈ rs ↔ Beat n arcs xs r') → Q (.ref L) H'
abbrev nBn : List Str := ["web", "some", "found", "person", "heard", "signs", "more", "row", "source", "goal", "one", "sign"]
theorem scBeaten : FnScope nBn ["web", "some"] (defScope sBeaten) := ⟨rfl, rfl, rfl, by decide +kernel, rfl, by decide +kernel, by decide +kernel⟩
theorem ok_beaten {f fP : Addr} {fd fdP : FuncData} (F : Fun K "beaten" "beaten" sBeaten f fd) (T : Txt mg)
    (GP : FnOk P w K mg base CX0 1 fP fdP ["web"] spPeople) (gP : mg "people" = some (.ref fP)) (kP : PySem.W.keepIn K (.ref fP) = true) (bP : Binds K fdP ["web"] []) :
    FnOk P w K mg base CX0 2 f fd ["web", "some"] spBeaten := by
  refine F.ok scBeaten (fun vs H Q E h => ?_) (fun cdv A outer s H vs Q E hr h => ?_)
  · obtain ⟨a, r, n, arcs, xs, rfl, _⟩ := h
    rfl
  · obtain ⟨a, r, n, arcs, xs, rfl, hw, W, hx, R, k⟩ := h
    obtain ⟨c, ps, w1, w2, w3⟩ := id hw
    have hpl : ps.length = arcs.length := Paired.length w3
    have nd := scBeaten.nd
    refine ⟨_, pss_cons (ps_set (i := 2) nd rfl (Or.inl rfl) (pe_lst (pa_cons (pe_tup pa_nil) pa_nil)))
      (pss_cons (ps_for PassesOwn.never rfl (pi_tup (pe_call GP hr (by rfl) gP kP bP .nil pass0 (pa_cons (pv 0) pa_nil))) (pg_name (i := 3) nd rfl (.inr rfl))
        (pss_cons (ps_set (i := 4) nd rfl (Or.inl rfl) (pe_lst (pa_cons (pv 3) (StX.pa_star (pe_lc (own := [("source", 8), ("goal", 9)]) (g := gTup K 2 (gCons (gName 8) (gCons (gName 9) gNil))) (tt := tTest (tOp rEq (tVar 9) (tVar 3))) (te := tVar 8) rfl nd (pi_tup (pe_at (pv 0) pe_int))
            (blkOk_by (own := [("source", 8), ("goal", 9)]) (N := nBn) (sc := defScope sBeaten) (by decide +kernel))
            (fun _ _ _ _ _ => pg_tup rfl (pgs_cons (pg_name (i := 8) nd rfl (Or.inl rfl) (Or.inr rfl)) (pgs_cons (pg_name (i := 9) nd rfl (Or.inl rfl) (Or.inr rfl)) pgs_nil)))
            (fun _ _ _ _ _ => pts_one (pt_cmpR op_eq (pv 9) (pv 3) (nomark _))) (fun _ _ _ _ _ => pv 8)) pa_nil))))
        (pss_cons (ps_set (i := 5) nd rfl (Or.inl rfl) (pe_callB (call_sortedDI rfl) (by rfl) T.sorted (by decide +kernel) (pa_cons (pe_dc (own := [("one", 10)]) (g := gName 10) (tt := tYes) (tk := tOp (rIxT K) (tVar 1) (tOp (rI0 fun i j => .int (i - j)) (tVar 10) (tC (.int 1)))) (tv := tC (.bl true)) rfl nd (pi_list (pv 4))
            (blkOk_by (own := [("one", 10)]) (N := nBn) (sc := defScope sBeaten) (by decide +kernel)) (fun _ _ _ _ _ => pg_name (i := 10) nd rfl (Or.inl rfl)) (fun _ _ _ _ _ => pts_nil) (fun _ _ _ _ _ => pe_at (pv 1) (pe_op op_sub (pv 10) pe_int)) (fun _ _ _ _ _ => pe_bl)) pa_nil)))
        (pss_cons (ps_set (i := 6) nd rfl (Or.inl rfl) (pe_lst pa_nil))
        (pss_cons (ps_for PassesOwn.never rfl (pi_list (pv 2)) (pg_name (i := 7) nd rfl (.inr rfl))
          (pss_one (ps_set (i := 6) nd rfl (Or.inl rfl) (pe_op op_cat (pv 6) (pe_lc (own := [("sign", 11)]) (g := gName 11) (tt := tYes) (te := tTup (StX.tStar K (tVar 7) (tCons (tVar 11) tNil))) rfl nd (pi_list (pv 5))
            (blkOk_by (own := [("sign", 11)]) (N := nBn) (sc := defScope sBeaten) (by decide +kernel)) (fun _ _ _ _ _ => pg_name (i := 11) nd rfl (Or.inl rfl)) (fun _ _ _ _ _ => pts_nil) (fun _ _ _ _ _ => pe_tup (StX.pa_star (pv 7) (pa_cons (pv 11) pa_nil))))))))
        (pss_one (ps_set (i := 2) nd rfl (Or.inl rfl) (pv 6))))))))
      (pss_one (ps_ret (pv 2)))), ?_⟩
    -- found = [()]
    refine ⟨Nat.zero_le _, fun e0 ne0 => ⟨by show 1 ≤ sizeLine; decide, fun L0 nL0 => ?_⟩⟩
    have S0 := same_new (o := .lst [.ref e0]) (same_mk1 (o := .tup []) ne0) nL0
    have wle := W.le
    -- for person in people(web)
    refine ⟨_, rfl, a, n, arcs, rfl, (same_tups S0).web hw, by omega, fun pp npp => ?_⟩
    have S1 := same_new (o := .tup ((ppl n).map V.int)) S0 npp
    refine ⟨pp, rfl, ⟨_, SqT.of upd_same⟩, ?_⟩
    generalize hH1 : upd (upd (upd H e0 (.tup [])) L0 (.lst [.ref e0])) pp (.tup ((ppl n).map V.int)) = H1 at S1 ⊢
    have hpp : H1 pp = some (.tup ((ppl n).map V.int)) := by rw [← hH1]; exact upd_same
    have hL0 : H1 L0 = some (.lst (([e0] : List Addr).map V.ref)) := by
      rw [← hH1, upd_ne (ne_of_none upd_same npp), upd_same]
      rfl
    have he0 : Row H1 e0 [] := by
      show H1 e0 = _
      rw [← hH1, upd_ne (ne_of_none (by rw [upd_ne (ne_of_none upd_same nL0)]; exact upd_same) npp), upd_ne (ne_of_none upd_same nL0), upd_same]
      rfl
    refine for_tup (K := K) (a := pp) (xs := (ppl n).map V.int) (fun j σ H' => ∃ (L : Addr) (as : List Addr) (rs : List (List Int)) (v3 v4 v5 v6 v7 v8 v9 v10 v11 : Option V), σ = [some (.ref a), some (.ref r), some (.ref L), v3, v4, v5, v6, v7, v8, v9, v10, v11] ∧ Same H1 H' ∧ H L = none ∧ H' L = some (.lst (as.map V.ref)) ∧
        RowsAt H' as rs ∧ rs.length ≤ 4 ^ j ∧ ∀ q, q ∈ rs ↔ PB arcs xs j q)
      ⟨L0, [e0], [[]], none, none, none, none, none, none, none, none, none, rfl, Same.refl H1, (same_mk1 ne0).free nL0, hL0, .cons he0 .nil, Nat.le_refl _, PB.zero arcs xs⟩ (fun j σ H' _ h => by
        obtain ⟨_, _, _, _, _, _, _, _, _, _, _, _, _, S, _⟩ := h
        exact SqT.of (S _ _ hpp)) ?_ ?_
    · rintro j x σ H' hj ⟨L, as, rs, v3, v4, v5, v6, v7, v8, v9, v10, v11, rfl, S, fL, hL, hrs, hrl, hPB⟩
      obtain ⟨pj, hpj, rfl⟩ := map_get hj
      have hjn : j < n := by
        have := (List.getElem?_eq_some_iff.mp hpj).1
        rw [ppl_len] at this
        exact this
      rw [ppl_get hjn] at hpj
      obtain rfl := Option.some.inj hpj
      have SH := S1.trans S
      have a1 := SH _ _ w1
      have a2 := SH _ _ w2
      have a3 := (same_tups SH).pairs w3
      have ar := SH _ _ hx
      have few := W.few
      -- heard
      refine ⟨_, rfl, _, rfl, a, _, _, _, rfl, rfl, SqT.of a1, atI_nat (j := 1) rfl, c, rfl, ⟨_, SqT.of a2⟩, fun D nD => lc_tup (K := K) (a := c) (xs := ps.map V.ref)
        (fun i H2 => ∃ hs : List Int, H2 D = some (.lst (hs.map V.int)) ∧ Same H' H2 ∧ hs.length ≤ i ∧ ∀ s, s ∈ hs ↔ (s, (j : Int) + 1) ∈ arcs.take i)
        ⟨[], upd_same, same_mk1 nD, Nat.le_refl _, fun g => by simp⟩ (fun i H2 _ ⟨_, _, S2, _⟩ => SqT.of (S2 _ _ a2)) ?_ ?_⟩
      · rintro i x H2 hi ⟨hs, hD, S2, hml, hm⟩
        obtain ⟨pa, hpa, rfl⟩ := map_get hi
        obtain ⟨⟨si, gi⟩, hsg, hpp2⟩ := Paired.get' a3 hpa
        have hii := (List.getElem?_eq_some_iff.mp hsg).1
        have mt : ∀ y : Int × Int, y ∈ arcs.take (i + 1) ↔ y ∈ arcs.take i ∨ y = (si, gi) := fun y => mem_take_succ hsg
        refine ⟨pa, _, rfl, SqT.of (S2 _ _ hpp2), rfl, _, _, rfl, _, _, rfl, rfl, rfl, ?_⟩
        refine ⟨_, rfl, _, rfl, rfl, _, rfl, ?_⟩
        refine ite2 (fun c1 => ?_) (fun c1 => ?_)
        · have c1' := V.int.inj (of_decide_eq_true c1)
          refine ⟨_, rfl, _, hD, by rw [List.length_map]; exact small_lt (by omega), hs ++ [si], by rw [upd_same, List.map_append]; rfl, same_own S2 nD, by rw [List.length_append]; simp; omega, fun s => ?_⟩
          rw [List.mem_append, hm s, List.mem_singleton, mt]
          constructor
          · rintro (z | rfl)
            · exact .inl z
            · exact .inr (Prod.ext rfl c1'.symm)
          · rintro (z | z)
            · exact .inl z
            · exact .inr (by cases z; rfl)
        · refine ⟨hs, hD, S2, by omega, fun s => ?_⟩
          rw [hm s, mt]
          constructor
          · exact .inl
          · rintro (z | z)
            · exact z
            · cases z
              exact absurd (decide_eq_true rfl) c1
      · rintro H2 ⟨hs, hD, S2, hml, hm⟩
        rw [List.length_map, hpl, List.take_length] at hm
        rw [List.length_map, hpl] at hml
        refine ⟨D, _, rfl, .inr (SqL.of hD), ?_, fun Lh nLh => ?_⟩
        · rw [List.append_nil, List.length_cons, List.length_map]
          exact small_line (by omega)
        have eL : V.int ((j : Int) + 1) :: (hs.map V.int ++ []) = (((j : Int) + 1) :: hs).map V.int := by simp
        rw [eL]
        have S3 := same_new (o := .lst ((((j : Int) + 1) :: hs).map V.int)) S2 nLh
        have hin : ∀ y ∈ ((j : Int) + 1) :: hs, 1 ≤ y ∧ y ≤ n := fun y hy => by
          rcases List.mem_cons.mp hy with e | hy
          · omega
          · exact (W.ok _ ((hm y).mp hy)).1
        -- signs
        refine ⟨_, rfl, Lh, rfl, ⟨_, SqL.of upd_same⟩, fun D2 nD2 => dcWf (ns := ((j : Int) + 1) :: hs) (fun y => xs.getD (y - 1).toNat 0) (SqL.of upd_same) (fun H3 h3 => SqL.of (h3 _ _ (ne_of_none upd_same nD2) upd_same)) nD2 (by show 10 < 12; decide) (by
          rw [List.length_cons]
          omega) (fun y H3 R0 hy kp q => ?_) (fun ks knd km => ?_)⟩
        · have hy1 := hin y hy
          have hrow : H3 r = some (.tup (xs.map V.int)) := kp r _ (ne_of_none (S3 _ _ ar) nD2) (S3 _ _ ar)
          exact ⟨_, rfl, _, rfl, _, _, rfl, rfl, r, _, _, _, rfl, rfl, SqT.of hrow, at_of (j := (y - 1).toNat) (by omega) (by rw [List.getElem?_map, get_getD (by rw [R.len]; omega)]; rfl), q⟩
        have hks : ∀ x ∈ ks, 1 ≤ x ∧ x ≤ n := fun x hx => by
          obtain ⟨y, hy, e⟩ := (km x).mp hx
          have hy1 := hin y hy
          rw [e]
          exact R.ok _ (getD_mem (by rw [R.len]; omega))
        have hk4 : ks.length ≤ n := len_le knd hks
        refine ⟨D2, _, ks, rfl, .inl upd_same, keysG_keys _ _, by omega, fun sg Ls perm pw nLs => ?_⟩
        have S4 := same_new (o := .dK (keysG kI ks)) S3 nD2
        have S5 := same_new (o := .lst (sg.map V.int)) S4 nLs
        have hsg : ∀ y, y ∈ sg ↔ y = xs.getD j 0 ∨ ∃ s, (s, (j : Int) + 1) ∈ arcs ∧ y = xs.getD (s - 1).toNat 0 := fun y => by
          rw [perm.mem_iff, km]
          have ej : ((j : Int) + 1 - 1).toNat = j := by omega
          constructor
          · rintro ⟨z, hz, e⟩
            rcases List.mem_cons.mp hz with e2 | hz
            · rw [e2, ej] at e
              exact .inl e
            · exact .inr ⟨z, (hm z).mp hz, e⟩
          · rintro (e | ⟨z, hz, e⟩)
            · exact ⟨(j : Int) + 1, List.mem_cons_self, by rw [ej]; exact e⟩
            · exact ⟨z, List.mem_cons_of_mem _ ((hm z).mpr hz), e⟩
        have hsl : sg.length ≤ 4 := by rw [perm.length_eq]; omega
        -- more = []
        refine ⟨Nat.zero_le _, fun M0 nM0 => ?_⟩
        have S6 := same_new (o := .lst []) S5 nM0
        have hLs : (upd (upd (upd (upd H2 Lh (.lst ((((j : Int) + 1) :: hs).map V.int))) D2 (.dK (keysG kI ks))) Ls (.lst (sg.map V.int))) M0 (.lst [])) Ls = some (.lst (sg.map V.int)) := by
          rw [upd_ne (ne_of_none upd_same nM0), upd_same]
        have hM0 : (upd (upd (upd (upd H2 Lh (.lst ((((j : Int) + 1) :: hs).map V.int))) D2 (.dK (keysG kI ks))) Ls (.lst (sg.map V.int))) M0 (.lst [])) M0 = some (.lst []) := upd_same
        have fM0 : H M0 = none := (SH.trans S5).free nM0
        generalize upd (upd (upd (upd H2 Lh (.lst ((((j : Int) + 1) :: hs).map V.int))) D2 (.dK (keysG kI ks))) Ls (.lst (sg.map V.int))) M0 (.lst []) = Hb at S6 hLs hM0 ⊢
        have hLb := S6 _ _ hL
        have hrsb := (same_tups S6).rows hrs
        have hal : as.length = rs.length := Paired.length hrs
        have h256 : rs.length ≤ 256 := Nat.le_trans hrl (Nat.le_trans (Nat.pow_le_pow_right (by decide) (show j ≤ 4 by omega)) (by decide))
        -- for row in found
        refine ⟨_, rfl, L, rfl, ⟨_, SqL.of hLb⟩, for_list (K := K) (a := L) (xs := as.map V.ref) (fun i σ H3 => ∃ (M : Addr) (ams : List Addr) (rms : List (List Int)) (v7 v8 v9 v10 v11 : Option V), σ = [some (.ref a), some (.ref r), some (.ref L), some (.int ((j : Int) + 1)), some (.ref Lh), some (.ref Ls), some (.ref M), v7, v8, v9, v10, v11] ∧ Same Hb H3 ∧ H M = none ∧
            H3 M = some (.lst (ams.map V.ref)) ∧ RowsAt H3 ams rms ∧ rms.length = i * sg.length ∧ ∀ q, q ∈ rms ↔ ∃ q0 ∈ rs.take i, ∃ y ∈ sg, q = q0 ++ [y])
          ⟨M0, [], [], _, _, _, _, _, rfl, Same.refl Hb, fM0, hM0, .nil, by simp, fun q => by simp⟩ (fun i σ H3 _ h => by
            obtain ⟨_, _, _, _, _, _, _, _, _, S7, _⟩ := h
            exact SqL.of (S7 _ _ hLb)) ?_ ?_⟩
        · rintro i x σ H3 hi ⟨M, ams, rms, u7, u8, u9, u10, u11, rfl, S7, fM, hM, hrm, hrml, hmem⟩
          obtain ⟨pr, hpr, rfl⟩ := map_get hi
          obtain ⟨q0, hq0, hrow⟩ := Paired.get' hrsb hpr
          have hrow3 : Row H3 pr q0 := S7 _ _ hrow
          have hq0l : q0.length = j := ((hPB q0).mp (List.mem_of_getElem? hq0)).1
          have hirs := (List.getElem?_eq_some_iff.mp hq0).1
          refine ⟨_, rfl, _, rfl, Ls, rfl, ⟨_, SqL.of (S7 _ _ hLs)⟩, fun D3 nD3 => lc_list (K := K) (a := Ls) (xs := sg.map V.int)
            (fun m H4 => ∃ (bs : List Addr) (qs : List (List Int)), H4 D3 = some (.lst (bs.map V.ref)) ∧ Same H3 H4 ∧ RowsAt H4 bs qs ∧ qs.length = m ∧ ∀ q, q ∈ qs ↔ ∃ y ∈ sg.take m, q = q0 ++ [y])
            ⟨[], [], upd_same, same_mk1 nD3, .nil, rfl, fun q => by simp⟩ (fun m H4 _ ⟨_, _, _, S8, _⟩ => SqL.of (S8 _ _ (S7 _ _ hLs))) ?_ ?_⟩
          · rintro m x H4 hm4 ⟨bs, qs, hD3, S8, hqs, hql, hqm⟩
            obtain ⟨y, hy, rfl⟩ := map_get hm4
            have hym := (List.getElem?_eq_some_iff.mp hy).1
            refine ⟨rfl, ?_⟩
            dsimp only [tYes]
            rw [if_pos rfl]
            refine ⟨_, rfl, pr, _, rfl, .inl (SqT.of (S8 _ _ hrow3)), _, rfl, ?_, fun pt npt => ?_⟩
            · rw [List.length_append, List.length_map, hq0l]
              exact small_line (by simp; omega)
            have hbl : bs.length = qs.length := Paired.length hqs
            have hD3' : (upd H4 pt (.tup (q0.map V.int ++ [.int y]))) D3 = some (.lst (bs.map V.ref)) := by
              rw [upd_ne (ne_of_none hD3 npt)]
              exact hD3
            have t1 : TupS H4 (upd H4 pt (.tup (q0.map V.int ++ [.int y]))) := tups_new npt
            have t2 : TupS (upd H4 pt (.tup (q0.map V.int ++ [.int y]))) (upd (upd H4 pt (.tup (q0.map V.int ++ [.int y]))) D3 (.lst (bs.map V.ref ++ [.ref pt]))) := tups_lst hD3'
            refine ⟨_, hD3', by rw [List.length_map, hbl, hql]; exact small_lt (by omega), bs ++ [pt], qs ++ [q0 ++ [y]], by rw [upd_same, List.map_append]; rfl, same_own (same_new S8 npt) nD3, Paired.snoc ((t1.trans t2).rows hqs) (t2 _ _ ?_), by rw [List.length_append, hql]; rfl, fun q => ?_⟩
            · rw [upd_same, List.map_append]
              rfl
            · rw [List.mem_append, hqm, List.mem_singleton]
              constructor
              · rintro (⟨z, hz, e⟩ | e)
                · exact ⟨z, (mem_take_succ hy).mpr (.inl hz), e⟩
                · exact ⟨y, (mem_take_succ hy).mpr (.inr rfl), e⟩
              · rintro ⟨z, hz, e⟩
                rcases (mem_take_succ hy).mp hz with h | h
                · exact .inl ⟨z, h, e⟩
                · rw [h] at e
                  exact .inr e
          · rintro H4 ⟨bs, qs, hD3, S8, hqs, hql, hqm⟩
            rw [List.length_map] at hql hqm
            rw [List.take_length] at hqm
            have hbl : bs.length = qs.length := Paired.length hqs
            have haml : ams.length = rms.length := Paired.length hrm
            have himul : i * sg.length ≤ 256 * 4 := Nat.mul_le_mul (by omega) hsl
            refine ⟨M, D3, _, _, rfl, rfl, S8 _ _ hM, hD3, ?_, fun M' nM' => ?_⟩
            · rw [List.length_map, List.length_map, haml, hrml, hbl, hql]
              exact small_line (by omega)
            have S9 : Same Hb (upd H4 M' (.lst (ams.map V.ref ++ bs.map V.ref))) := same_new (S7.trans S8) nM'
            have t9 : TupS H4 (upd H4 M' (.lst (ams.map V.ref ++ bs.map V.ref))) := tups_new nM'
            refine ⟨M', ams ++ bs, rms ++ qs, _, _, _, _, _, rfl, S9, ((SH.trans S6).trans (S7.trans S8)).free nM', by rw [upd_same, List.map_append], Paired.app (((same_tups S8).trans t9).rows hrm) (t9.rows hqs), ?_, mem_take_ext hq0 hmem hqm⟩
            rw [List.length_append, hrml, hql, Nat.add_mul, Nat.one_mul]
        · rintro σ H3 ⟨M, ams, rms, u7, u8, u9, u10, u11, rfl, S7, fM, hM, hrm, hrml, hmem⟩
          rw [List.length_map, hal] at hrml hmem
          rw [List.take_length] at hmem
          refine ⟨_, rfl, M, ams, rms, _, _, _, _, _, _, _, _, _, rfl, S.trans (S6.trans S7), fM, hM, hrm, ?_, PB.step hPB hsg hmem⟩
          rw [hrml, Nat.pow_succ]
          exact Nat.mul_le_mul hrl hsl
    · rintro σ H' ⟨L, as, rs, v3, v4, v5, v6, v7, v8, v9, v10, v11, rfl, S, fL, hL, hrs, hrl, hPB⟩
      rw [List.length_map, ppl_len] at hPB
      exact ⟨_, rfl, k H' L as rs (S1.trans S) fL hL hrs hPB⟩
end
end K56
end
section
set_option Elab.async false
set_option linter.all false
set_option maxRecDepth 100000
set_option maxHeartbeats 1000000
namespace K56
open PySem PySem.Spec PyProof.Rows L2 GxR
/-! ### {t: v}, t a tuple -/
def tDispT1 (tk tv : TE) : TE := fun σ H Q => ∀ p, H p = none → tk σ (upd H p (.dT [])) fun x H1 => tv σ H1 fun y H2 => H2 p = some (.dT []) ∧ ∃ (b : Addr) (ks : List L2.Key), x = .ref b ∧ H2 b = some (.tup (ks.map kV)) ∧ Q (.ref p) (upd H2 p (.dT [(ks, y)]))
theorem pe_dispT1 {X : Cx} {k v : Expr} {tk tv : TE} {pos : Pos} (hu : X.A.units + 1 < cLine) (hk : PE X k tk) (hv : PE X v tv) : PE X (.Dict [some k] [v] pos) (tDispT1 tk tv) := by
  refine ⟨fun pins s σ H Q I q => ?_⟩
  have hn := I.hok.fresh (Nat.le_refl s.heap.objs.size)
  have I1 := I.laid (a := s.heap.objs.size) (o := .dT []) (h' := s.heap.push { cls := .type "dict", data := .dict #[] }) (t' := s.toks) (fun _ _ q => Heap.get?_push_of_some _ q) (Nat.le_refl _) (dt_empty s.heap I.big)
  have h := pps_cons hk hv (pps_nil (X := X) (pos := pos))
  have hlen : (pairTrees [some k] [v] X.env pos).length = 1 := rfl
  rw [arm_eval_Dict, zip_pairTrees [some k] [v] X.env pos rfl rfl, dictDisplay_pairs (pairTrees [some k] [v] X.env pos) (fun z => by rw [z] at hlen; cases hlen) (by rw [hlen]; decide)]
  refine wpAny_bind (wpAny_standAt (wpAny_bind (wpAny_subDictH (knd := tupleKind (mixKind X.prog X.w)) (Q := fun d s' => wpAny (model X.prog X.w) X.A (pure (Value.ref d)) (EP X pins σ Q) X.xe s') (Nat.lt_of_succ_lt hu) (by rw [hlen]; decide) ?_)))
  refine pairTrees_cons_walk (thn (hk.run pins _ σ _ _ I1 (q _ hn)) fun w1 s1 ⟨x, H1, I1', rx, q1⟩ => thn (hv.run pins s1 σ H1 _ I1' q1) fun w2 s2 ⟨y, H2, I2, ry, e, b, ks, ex, eb, q2⟩ => pairTrees_nil_walk ?_)
  · subst ex
    obtain rfl : w1 = Value.ref b := rx
    obtain ⟨z, hd, xs0, r0, dd⟩ := dt_of I2.hok e
    cases r0
    refine ⟨[(ks, b, w2)], ⟨rfl, rfl, key_of I2.hok eb, True.intro⟩, dd, fun h' tk2 dd' hs => wpAny_pure ⟨.ref s.heap.objs.size, _, ?_, rfl, q2⟩⟩
    obtain ⟨o, es, ep, hq, h2, h3, h4, _, h5⟩ := dd'
    refine d_write I2 (by rw [e]; exact True.intro) hs ⟨o, hq⟩ ⟨by show 1 ≤ sizeLine; decide, hd, [(ks, b, w2)], .cons ⟨rfl, ?_, ry⟩ .nil, o, es, ep, hq, h2, h3, h4, h5⟩
    rw [upd_ne (ne_of eb e (fun z => nomatch z))]
    exact eb
/-! ### (x,) * 1 -/
set_option maxHeartbeats 4000000 in
theorem tuple_mul1 (l : Addr) (items : Array Value) (n : Nat) (dd : Option Addr) (sl : Array (Option Value)) (u : Tok) :
    Meets (Builtin.«tuple.__mul__» ⟨[.ref l, .int 1 u], []⟩) (fun _ R s => s.heap.get? l = some { cls := .type "tuple", dict := dd, data := .seq items n, slots := sl } ∧ R (.ok (.ret (Value.ref l))) s) :=
  .of_wp fun prog w A R s h => by
    obtain ⟨hp, g, d, tk, os⟩ := s
    obtain ⟨hl, h⟩ := h
    have f1 := AutoSeq1.idx_int
    wp_walk using wpAny_loadPart' hl
    exact ⟨_, rfl, h⟩
theorem op_repT1 {X : Cx} : OpR X (binaryOp .Mult) (fun x y H Q => ∃ l xs, x = .ref l ∧ y = .int 1 ∧ SqT X.K H l xs ∧ Q (.ref l) H) := by
  intro pins s σ H x y v u Q I rx ry h
  obtain ⟨l, xs, rfl, rfl, hT, q⟩ := h
  cases rx
  obtain ⟨t, rfl⟩ := ry
  obtain ⟨its, r, ⟨⟨cls, dd, data, sl⟩, ho, hc, n, hd⟩, hs⟩ := I.tuple hT
  simp only at hc hd
  subst hc hd
  exact wpAny_binaryOp_repeat_ref (T := "tuple") (U := "int") (by decide) ⟨_, ho, rfl⟩ (fun s' => typeIs_int s' 1 t) noFill_tuple_mul F.fills_int_mul F.slot_int_rmul repeat_tuple F.slot_int_index.lookup
    (call_meets F.slot_int_rmul (typeIs_int s 1 t) F.entry_int_rmul (F.args_int_rmul_2 _ _) (int_rmul_tuple 1 t l its.toArray n dd sl)
      ⟨ho, rfl, ⟨_, ho, rfl⟩, call_meets F.slot_tuple_mul ⟨_, ho, rfl⟩ F.entry_tuple_mul (F.args_tuple_mul_2 _ _) (tuple_mul1 l its.toArray n dd sl t) ⟨ho, ⟨.ref l, H, I, rfl, q⟩⟩⟩)
end K56
end
section
set_option Elab.async false
set_option linter.all false
set_option maxRecDepth 100000
set_option maxHeartbeats 2000000
namespace K56
open PySem PySem.Spec PyProof.Rows L2 GxR
theorem val_in {ks : List (List Int)} {r : List Int} [Decidable (r ∈ ks)] : (valV (keysG kT ks) (kT r)).isSome = decide (r ∈ ks) := by
  rw [keysG_val kT_inj]
  exact decide_eq_decide.mpr Iff.rfl
theorem bl_in {ks : List (List Int)} {r : List Int} [Decidable (r ∈ ks)] : V.bl (valV (keysG kT ks) (kT r)).isSome = V.bl (decide (r ∈ ks)) := by rw [val_in]
theorem bl_notin {ks : List (List Int)} {r : List Int} [Decidable (r ∈ ks)] : V.bl (!(valV (keysG kT ks) (kT r)).isSome) = V.bl (!decide (r ∈ ks)) := by rw [val_in]
/-- inside the innermost loop of a search over rows -/
structure BTj (n : Nat) (ks ks' kk mm dn : List (List Int)) : Prop where
  nd : kk.Nodup
  ok : ∀ r ∈ kk, RowOk n r
  mem : ∀ r', r' ∈ kk ↔ r' ∈ ks' ∨ r' ∈ dn
  newr : ∀ r', r' ∈ mm ↔ r' ∈ kk ∧ r' ∉ ks
  len : kk.length = ks.length + mm.length
theorem BTj.keep {n : Nat} {ks ks' kk mm : List (List Int)} {rs : List (List Int)} {j : Nat} {r : List Int} (b : BTj n ks ks' kk mm (rs.take j)) (hr : rs[j]? = some r) (h : r ∈ kk) : BTj n ks ks' kk mm (rs.take (j + 1)) :=
  ⟨b.nd, b.ok, fun r' => by
    rw [b.mem, mem_take_succ hr]
    constructor
    · rintro (z | z)
      · exact .inl z
      · exact .inr (.inl z)
    · rintro (z | z | z)
      · exact .inl z
      · exact .inr z
      · rw [z]; exact (b.mem r).mp h, b.newr, b.len⟩
theorem BTj.add {n : Nat} {ks ks' kk mm : List (List Int)} {rs : List (List Int)} {j : Nat} {r : List Int} (b : BTj n ks ks' kk mm (rs.take j)) (hsub : ∀ r ∈ ks, r ∈ ks') (hr : rs[j]? = some r) (hok : RowOk n r) (h : r ∉ kk) : BTj n ks ks' (kk ++ [r]) (mm ++ [r]) (rs.take (j + 1)) := by
  refine ⟨?_, fun r' hr' => ?_, fun r' => ?_, fun r' => ?_, ?_⟩
  · refine List.nodup_append.mpr ⟨b.nd, by simp, fun a ha c hc z => ?_⟩
    rw [List.mem_singleton.mp hc] at z
    exact h (z ▸ ha)
  · rcases List.mem_append.mp hr' with z | z
    · exact b.ok r' z
    · rw [List.mem_singleton.mp z]; exact hok
  · rw [List.mem_append, List.mem_singleton, b.mem, mem_take_succ hr, or_assoc]
  · rw [List.mem_append, List.mem_singleton, List.mem_append, List.mem_singleton, b.newr]
    have hk : r ∉ ks := fun z => h ((b.mem r).mpr (.inl (hsub r z)))
    constructor
    · rintro (⟨z1, z2⟩ | z)
      · exact ⟨.inl z1, z2⟩
      · exact ⟨.inr z, by rw [z]; exact hk⟩
    · rintro ⟨z1 | z1, z2⟩
      · exact .inl ⟨z1, z2⟩
      · exact .inr z1
  · rw [List.length_append, List.length_append, b.len]
    simp only [List.length_singleton]
    omega
section
variable {P : Program} {w : World} {K : PySem.W.Frag} {mg : Str → Option Value} {base : Heap} {T4 : Tabs4}
/-! ### beats_to -/
def spBeatsTo (T4 : Tabs4) : Sp := fun vs H Q _ => ∃ (a g : Addr) (n : Nat) (arcs : Arcs) (gs : List Int), vs = [.ref a, .ref g] ∧ Web H a n arcs ∧ WebOk n arcs ∧ Row H g gs ∧ RowOk n gs ∧ Tb T4 H ∧
  ∀ H' (o : Option Nat), Sit T4 H H' → Least (fun k => BK n arcs k gs) o → Q (oV o) H'
abbrev nBT : List Str := ["web", "goal", "rows", "seen", "found", "more", "here", "there"]
theorem scBeatsTo : FnScope nBT ["web", "goal"] (defScope sBeatsTo) := ⟨rfl, rfl, rfl, by decide +kernel, rfl, by decide +kernel, by decide +kernel⟩
/-- between two rounds -/
def InvBT (T4 : Tabs4) (H : Hp) (n : Nat) (arcs : Arcs) (gs : List Int) (a g : Addr) : Nat → L2.St → Hp → Prop := fun m σ H' => ∃ (Lr Sd : Addr) (as : List Addr) (rs ks : List (List Int)) (ff : Nat) (v5 v6 v7 : Option V), m = 2 * (256 - ks.length) + (if rs = [] then 0 else 1) ∧
  σ = [some (.ref a), some (.ref g), some (.ref Lr), some (.ref Sd), some (.int ff), v5, v6, v7] ∧ Sit T4 H H' ∧ Fre H Sd ∧ H' Lr = some (.lst (as.map V.ref)) ∧ RowsAt H' as rs ∧ H' Sd = some (.dT (keysG kT ks)) ∧ BT n arcs gs ks rs ff
theorem isE_map {α β : Type} (f : α → β) (l : List α) : (l.map f).isEmpty = l.isEmpty := by cases l <;> rfl
theorem ok_beatsto {f fG fS fP fB : Addr} {fd fdG fdS fdP fdB : FuncData} (F : Fun K "beats_to" "beats_to" sBeatsTo f fd) (T : Txt mg)
    (GG : FnOk P w K mg base CX0 3 fG fdG ["web", "goal"] (spNeedGoal T4)) (gG : mg "need_goal" = some (.ref fG)) (kG : PySem.W.keepIn K (.ref fG) = true) (bG : Binds K fdG ["web", "goal"] [])
    (GS : FnOk P w K mg base CX0 1 fS fdS ["web"] spNeedSmall) (gS : mg "need_small" = some (.ref fS)) (kS : PySem.W.keepIn K (.ref fS) = true) (bS : Binds K fdS ["web"] [])
    (GP : FnOk P w K mg base CX0 1 fP fdP ["web"] spPeople) (gP : mg "people" = some (.ref fP)) (kP : PySem.W.keepIn K (.ref fP) = true) (bP : Binds K fdP ["web"] [])
    (GB : FnOk P w K mg base CX0 2 fB fdB ["web", "some"] spBeaten) (gB : mg "beaten" = some (.ref fB)) (kB : PySem.W.keepIn K (.ref fB) = true) (bB : Binds K fdB ["web", "some"] []) :
    FnOk P w K mg base CX0 4 f fd ["web", "goal"] (spBeatsTo T4) := by
  refine F.ok scBeatsTo (fun vs H Q E h => ?_) (fun cdv A outer s H vs Q E hr h => ?_)
  · obtain ⟨a, g, n, arcs, gs, rfl, _⟩ := h
    rfl
  · obtain ⟨a, g, n, arcs, gs, rfl, hw, W, hg, R, tb, k⟩ := h
    obtain ⟨c, ps, w1, w2, w3⟩ := id hw
    have nd := scBeatsTo.nd
    have hr1 : Room 1 _ := hr.mono (by decide)
    have hr2 : Room 2 _ := hr.mono (by decide)
    have wle := W.le
    refine ⟨_, pss_cons (ps_expr (pe_call GG hr (by rfl) gG kG bG .nil pass0 (pa_cons (pv 0) (pa_cons (pv 1) pa_nil))))
      (pss_cons (ps_expr (pe_call GS hr1 (by rfl) gS kS bS .nil pass0 (pa_cons (pv 0) pa_nil)))
      (pss_cons (ps_par3 (i := 2) (j := 3) (l := 4) rfl nd rfl rfl rfl (by decide) (by decide) (by decide) rfl rfl rfl
          (pa_cons (pe_lst (pa_cons (pe_call GP hr1 (by rfl) gP kP bP .nil pass0 (pa_cons (pv 0) pa_nil)) pa_nil)) (pa_cons (pe_dispT1 (hu_of hr) (pe_call GP hr1 (by rfl) gP kP bP .nil pass0 (pa_cons (pv 0) pa_nil)) pe_bl) (pa_cons pe_int pa_nil))) (by rfl))
      (pss_cons (ps_while PassesOwn.never (and2 (pt_truth (pv 2) (by intro _; rfl)) (pt_cmp (pc_dnotin (hu_of hr) (pv 1) (pv 3)) (by rfl)))
        (pss_cons (ps_set (i := 5) nd rfl (Or.inl rfl) (pe_lst pa_nil))
        (pss_cons (ps_for PassesOwn.never rfl (pi_list (pv 2)) (pg_name (i := 6) nd rfl (.inl rfl))
          (pss_one (ps_for PassesOwn.never rfl (pi_list (pe_call GB hr2 (by rfl) gB kB bB .nil pass0 (pa_cons (pv 0) (pa_cons (pv 6) pa_nil)))) (pg_name (i := 7) nd rfl (.inl rfl))
            (pss_one (ps_if (pt_cmp (pc_dnotin (hu_of hr) (pv 7) (pv 3)) (by rfl))
              (pss_cons (ps_dput (hu_of hr) (pv 3) (pv 7) pe_bl rfl)
              (pss_one (ps_expr (pe_bm PySem.F.plainAttrs_list PySem.F.slot_list_append PySem.F.type_list_append mt_append (pv 5) (pa_cons (pv 7) pa_nil))))) pss_nil)))))
        (pss_one (ps_par (i := 2) (j := 4) rfl nd rfl rfl (by decide) rfl rfl (pa_cons (pv 5) (pa_cons (pe_op op_add (pv 4) pe_int) pa_nil)) (by rfl))))))
      (pss_one (ps_ret (pe_ifExp (pt_cmp (pc_din (hu_of hr) (pv 1) (pv 3)) (by rfl)) (pv 4) pe_non)))))), ?_⟩
    refine ⟨_, rfl, _, rfl, a, g, n, arcs, gs, rfl, hw, W, hg, R, tb, fun H1 S1 => ?_⟩
    refine ⟨_, rfl, a, n, arcs, rfl, S1.tups.web hw, wle, ?_⟩
    -- rows, seen, found
    refine ⟨_, rfl, a, n, arcs, rfl, S1.tups.web hw, by omega, fun p1 np1 => ⟨by show 1 ≤ sizeLine; decide, fun L0 nL0 => ?_⟩⟩
    have S2 := S1.new (o := .tup ((ppl n).map V.int)) np1
    have S3 := S2.new (o := .lst [.ref p1]) nL0
    intro D0 nD0
    have S4 := S3.new (o := .dT []) nD0
    refine ⟨_, rfl, a, n, arcs, rfl, S4.tups.web hw, by omega, fun p2 np2 => ?_⟩
    have S5 := S4.new (o := .tup ((ppl n).map V.int)) np2
    have hD5 : (upd (upd (upd (upd H1 p1 (.tup ((ppl n).map V.int))) L0 (.lst [.ref p1])) D0 (.dT [])) p2 (.tup ((ppl n).map V.int))) D0 = some (.dT []) := by
      rw [upd_ne (ne_of_none upd_same np2), upd_same]
    have hL5 : (upd (upd (upd (upd H1 p1 (.tup ((ppl n).map V.int))) L0 (.lst [.ref p1])) D0 (.dT [])) p2 (.tup ((ppl n).map V.int))) L0 = some (.lst (([p1] : List Addr).map V.ref)) := by
      have e1 : (upd (upd H1 p1 (.tup ((ppl n).map V.int))) L0 (.lst [.ref p1])) L0 = some (.lst [.ref p1]) := upd_same
      have n1 := ne_of_none e1 nD0
      rw [upd_ne (ne_of_none (show (upd (upd (upd H1 p1 (.tup ((ppl n).map V.int))) L0 (.lst [.ref p1])) D0 (.dT [])) L0 = some (.lst [.ref p1]) by rw [upd_ne n1]; exact e1) np2), upd_ne n1]
      exact e1
    have fD0 : Fre H D0 := S3.fre nD0
    have hP5 : Row (upd (upd (upd (upd H1 p1 (.tup ((ppl n).map V.int))) L0 (.lst [.ref p1])) D0 (.dT [])) p2 (.tup ((ppl n).map V.int))) p1 (ppl n) := by
      have t1 : TupS (upd H1 p1 (.tup ((ppl n).map V.int))) (upd (upd H1 p1 (.tup ((ppl n).map V.int))) L0 (.lst [.ref p1])) := tups_new nL0
      exact ((t1.trans (tups_new nD0)).trans (tups_new np2)) _ _ upd_same
    refine ⟨hD5, p2, kT (ppl n), rfl, row_kT upd_same, _, _, _, rfl, ?_⟩
    have S6 := S5.own (o := .dT (keysG kT [ppl n])) fD0 hD5
    have L6 : L0 ≠ D0 := ne_of hL5 hD5 (fun z => by cases z)
    refine ⟨InvBT T4 H n arcs gs a g, ⟨_, L0, D0, [p1], [ppl n], [ppl n], 0, none, none, none, rfl, rfl, S6, fD0, by rw [upd_ne L6]; exact hL5, .cons ?_ .nil, upd_same, BT.start n arcs gs⟩, ?_⟩
    · show upd _ D0 _ p1 = _
      rw [upd_ne (ne_of hP5 hD5 (fun z => by cases z))]
      exact hP5
    rintro m σ H' ⟨Lr, Sd, as, rs, ks, ff, v5, v6, v7, rfl, rfl, S, fS, hL, hrs, hS, b⟩
    have hal : as.length = rs.length := Paired.length hrs
    have hg' : Row H' g gs := S.tups _ _ hg
    have fin : ∀ (o : Option Nat) (v : V), v = oV o → Least (fun k => BK n arcs k gs) o → Q v H' := fun o v e l => by rw [e]; exact k H' o S l
    have out : (rs = [] ∨ gs ∈ ks) → tRet (tIf (tB (tDIn (tVar 1) (tVar 3))) (tVar 4) (tC V.non)) { nx := fun _ H' => Q .non H', rt := Q } [some (.ref a), some (.ref g), some (.ref Lr), some (.ref Sd), some (.int ff), v5, v6, v7] H' := fun h => by
      refine ⟨_, rfl, _, rfl, Sd, _, rfl, DGet.t hS (row_kT hg'), decide (gs ∈ ks), bl_in, ?_⟩
      by_cases hm : gs ∈ ks
      · rw [decide_eq_true hm]
        exact iteT ⟨_, rfl, fin (some ff) _ rfl (b.done hm)⟩
      · rw [decide_eq_false hm]
        have hz : rs = [] := h.elim id fun z => absurd z hm
        rw [hz] at b
        exact iteF (fin none _ rfl (b.stuck hm))
    by_cases he : as = []
    · have hr0 : rs = [] := by
        rw [he] at hal
        exact List.length_eq_zero_iff.mp hal.symm
      exact ⟨_, rfl, false, .inl ⟨_, SqL.of hL, by rw [he]; rfl⟩, iteF (iteF (out (.inl hr0)))⟩
    · have hr0 : rs ≠ [] := fun z => he (by
        rw [z] at hal
        exact List.length_eq_zero_iff.mp hal)
      refine ⟨_, rfl, true, .inl ⟨_, SqL.of hL, by rw [isE_map]; cases as with
        | nil => exact absurd rfl he
        | cons x r => rfl⟩, iteT ?_⟩
      refine ⟨_, rfl, _, rfl, Sd, _, rfl, DGet.t hS (row_kT hg'), !decide (gs ∈ ks), bl_notin, ?_⟩
      by_cases hm : gs ∈ ks
      · rw [decide_eq_true hm]
        exact iteF (out (.inr hm))
      · rw [decide_eq_false hm]
        refine iteT ⟨fun σ' H2 => ∃ m', m' < 2 * (256 - ks.length) + (if rs = [] then 0 else 1) ∧ InvBT T4 H n arcs gs a g m' σ' H2, fun _ _ z => z, ?_⟩
        -- more = []
        refine ⟨Nat.zero_le _, fun M0 nM0 => ?_⟩
        have T1 := S.new (o := .lst []) nM0
        have fM : Fre H M0 := S.fre nM0
        have nML : M0 ≠ Lr := (ne_of_none hL nM0).symm
        have nMS : M0 ≠ Sd := (ne_of_none hS nM0).symm
        have nLS : Lr ≠ Sd := ne_of hL hS (fun z => by cases z)
        -- for here in rows
        refine ⟨_, rfl, Lr, rfl, ⟨_, SqL.of (by rw [upd_ne nML.symm]; exact hL)⟩, for_list (K := K) (a := Lr) (xs := as.map V.ref)
          (fun i σ H2 => ∃ (ks' : List (List Int)) (ams : List Addr) (mms : List (List Int)) (v6 v7 : Option V), σ = [some (.ref a), some (.ref g), some (.ref Lr), some (.ref Sd), some (.int ff), some (.ref M0), v6, v7] ∧ Sit T4 H H2 ∧ H2 Lr = some (.lst (as.map V.ref)) ∧ RowsAt H2 as rs ∧
            H2 Sd = some (.dT (keysG kT ks')) ∧ H2 M0 = some (.lst (ams.map V.ref)) ∧ RowsAt H2 ams mms ∧ BTi n arcs ks ks' mms (rs.take i))
          ⟨ks, [], [], v6, v7, rfl, T1, by rw [upd_ne nML.symm]; exact hL, (tups_new nM0).rows hrs, by rw [upd_ne nMS.symm]; exact hS, upd_same, .nil, BTi.start b.nd⟩ (fun i σ H2 _ h => by
            obtain ⟨_, _, _, _, _, _, _, h1, _⟩ := h
            exact SqL.of h1) ?_ ?_⟩
        · rintro i x σ H2 hi ⟨ks', ams, mms, u6, u7, rfl, S2, hL2, hrs2, hS2, hM2, hams, bi⟩
          obtain ⟨pr, hpr, rfl⟩ := map_get hi
          obtain ⟨r0, hr0i, hrow⟩ := Paired.get' hrs2 hpr
          have hr0k : r0 ∈ ks := b.sub r0 (List.mem_of_getElem? hr0i)
          have Rr0 : RowOk n r0 := b.ok W r0 hr0k
          -- for there in beaten(web, here)
          refine ⟨_, rfl, _, rfl, a, pr, n, arcs, r0, rfl, S2.tups.web hw, W, hrow, Rr0, fun H3 L as2 rs2 S3 fL hL3 hrs3 hmem => ?_⟩
          have SS3 := S2.same S3
          have nLM : L ≠ M0 := (ne_of_none hM2 fL).symm
          have nLSd : L ≠ Sd := (ne_of_none hS2 fL).symm
          have bj0 : BTj n ks ks' ks' mms (rs2.take 0) := ⟨bi.nd, fun r hr => by
            rcases (bi.mem r).mp hr with z | ⟨r1, hr1, hb⟩
            · exact b.ok W r z
            · exact hb.ok W (b.ok W r1 (b.sub r1 (List.mem_of_mem_take hr1))), fun r' => by simp, bi.newr, bi.len⟩
          refine ⟨L, rfl, ⟨_, SqL.of hL3⟩, for_list (K := K) (a := L) (xs := as2.map V.ref)
            (fun j σ H4 => ∃ (kk : List (List Int)) (ams : List Addr) (mm : List (List Int)) (v7 : Option V), σ = [some (.ref a), some (.ref g), some (.ref Lr), some (.ref Sd), some (.int ff), some (.ref M0), some (.ref pr), v7] ∧ Sit T4 H H4 ∧ H4 Lr = some (.lst (as.map V.ref)) ∧ RowsAt H4 as rs ∧
              H4 L = some (.lst (as2.map V.ref)) ∧ RowsAt H4 as2 rs2 ∧ H4 Sd = some (.dT (keysG kT kk)) ∧ H4 M0 = some (.lst (ams.map V.ref)) ∧ RowsAt H4 ams mm ∧ BTj n ks ks' kk mm (rs2.take j))
            ⟨ks', ams, mms, u7, rfl, SS3, S3 _ _ hL2, (same_tups S3).rows hrs2, hL3, hrs3, S3 _ _ hS2, S3 _ _ hM2, (same_tups S3).rows hams, bj0⟩ (fun j σ H4 _ h => by
              obtain ⟨_, _, _, _, _, _, _, _, h1, _⟩ := h
              exact SqL.of h1) ?_ ?_⟩
          · rintro j x σ H4 hj ⟨kk, am4, mm, w7, rfl, S4', hLr4, hrs4, hL4, hrs24, hSd4, hM4, ham4, bj⟩
            obtain ⟨pt, hpt, rfl⟩ := map_get hj
            obtain ⟨rt, hrt, hrowt⟩ := Paired.get' hrs24 hpt
            have Rt : RowOk n rt := ((hmem rt).mp (List.mem_of_getElem? hrt)).ok W Rr0
            have kfew : kk.length ≤ 256 := rows_few W.le bj.nd bj.ok
            refine ⟨_, rfl, _, rfl, Sd, _, rfl, DGet.t hSd4 (row_kT hrowt), !decide (rt ∈ kk), bl_notin, ?_⟩
            by_cases hin : rt ∈ kk
            · rw [decide_eq_true hin]
              exact iteF ⟨kk, am4, mm, _, rfl, S4', hLr4, hrs4, hL4, hrs24, hSd4, hM4, ham4, bj.keep hrt hin⟩
            · rw [decide_eq_false hin]
              refine iteT ⟨_, rfl, _, rfl, Sd, _, rfl, DPut.t hSd4 (row_kT hrowt) (by rw [keysG_len]; exact small_lt (by omega)), ?_⟩
              rw [keysG_put kT_inj, show insK kk rt = kk ++ [rt] from if_neg hin]
              have hM5 : (upd H4 Sd (.dT (keysG kT (kk ++ [rt])))) M0 = some (.lst (am4.map V.ref)) := by
                rw [upd_ne nMS]
                exact hM4
              have ham : am4.length = mm.length := Paired.length ham4
              have hml : mm.length ≤ 256 := by have := bj.len; omega
              refine ⟨_, rfl, .inl ⟨rfl, _, SqL.of hM5⟩, _, rfl, M0, _, _, rfl, rfl, hM5, by rw [List.length_map, ham]; exact small_lt (by omega), ?_⟩
              have S5' := S4'.own (o := .dT (keysG kT (kk ++ [rt]))) fS hSd4
              have S6' := S5'.own (o := .lst (am4.map V.ref ++ [.ref pt])) fM hM5
              have t1 : TupS H4 (upd H4 Sd (.dT (keysG kT (kk ++ [rt])))) := fun c ys e => by
                rw [upd_ne (ne_of e hSd4 (fun z => by cases z))]
                exact e
              have t2 : TupS H4 (upd (upd H4 Sd (.dT (keysG kT (kk ++ [rt])))) M0 (.lst (am4.map V.ref ++ [.ref pt]))) := t1.trans (tups_lst hM5)
              refine ⟨kk ++ [rt], am4 ++ [pt], mm ++ [rt], _, rfl, S6', by rw [upd_ne nML.symm, upd_ne nLS]; exact hLr4, t2.rows hrs4, by rw [upd_ne nLM, upd_ne nLSd]; exact hL4, t2.rows hrs24, by rw [upd_ne nMS.symm, upd_same], by rw [upd_same, List.map_append]; rfl, Paired.snoc (t2.rows ham4) (t2.row hrowt), bj.add (fun r hr => (bi.mem r).mpr (.inl hr)) hrt Rt hin⟩
          · rintro σ H4 ⟨kk, am4, mm, w7, rfl, S4', hLr4, hrs4, hL4, hrs24, hSd4, hM4, ham4, bj⟩
            have hl2 : as2.length = rs2.length := Paired.length hrs3
            rw [List.length_map, hl2, List.take_length] at bj
            refine ⟨kk, am4, mm, _, _, rfl, S4', hLr4, hrs4, hSd4, hM4, ham4, bj.nd, fun r' => ?_, bj.newr, bj.len⟩
            rw [bj.mem, bi.mem, hmem]
            constructor
            · rintro ((z | ⟨r1, h1, h2⟩) | z)
              · exact .inl z
              · exact .inr ⟨r1, (mem_take_succ hr0i).mpr (.inl h1), h2⟩
              · exact .inr ⟨r0, (mem_take_succ hr0i).mpr (.inr rfl), z⟩
            · rintro (z | ⟨r1, h1, h2⟩)
              · exact .inl (.inl z)
              · rcases (mem_take_succ hr0i).mp h1 with q | q
                · exact .inl (.inr ⟨r1, q, h2⟩)
                · rw [q] at h2
                  exact .inr h2
        · rintro σ H2 ⟨ks', ams, mms, u6, u7, rfl, S2, hL2, hrs2, hS2, hM2, hams, bi⟩
          rw [List.length_map, hal, List.take_length] at bi
          have b2 := b.step hm bi
          have f2 := b2.few W
          have hlen := bi.len
          refine ⟨_, rfl, _, rfl, _, _, rfl, rfl, _, _, rfl, 2 * (256 - ks'.length) + (if mms = [] then 0 else 1), ?_, M0, Sd, ams, mms, ks', ff + 1, _, _, _, rfl, rfl, S2, fS, hM2, hams, hS2, b2⟩
          rw [if_neg hr0]
          by_cases hz : mms = []
          · rw [if_pos hz]
            rw [hz] at hlen
            simp only [List.length_nil] at hlen
            omega
          · rw [if_neg hz]
            have := List.length_pos_iff.mpr hz
            omega
end
end K56
end
section
set_option Elab.async false
set_option linter.all false
set_option maxRecDepth 100000
set_option maxHeartbeats 2000000
namespace K56
open PySem PySem.Spec PyProof.Rows L2 GxR
theorem val_inI {ks : List Int} {x : Int} [Decidable (x ∈ ks)] : (valV (keysG kI ks) (kI x)).isSome = decide (x ∈ ks) := by
  rw [keysG_val kI_inj]
  exact decide_eq_decide.mpr Iff.rfl
theorem bl_notinI {ks : List Int} {x : Int} [Decidable (x ∈ ks)] : V.bl (!(valV (keysG kI ks) (kI x)).isSome) = V.bl (!decide (x ∈ ks)) := by rw [val_inI]
theorem inV_dec {x : Int} {ss : List Int} [Decidable (x ∈ ss)] : inV (.int x) (ss.map V.int) = decide (x ∈ ss) := by
  rw [inV_ints]
  exact decide_eq_decide.mpr Iff.rfl
section
variable {P : Program} {w : World} {K : PySem.W.Frag} {mg : Str → Option Value} {base : Heap} {T4 : Tabs4}
/-! ### hearers -/
def spHearers : Sp := fun vs H Q _ => ∃ (a bl : Addr) (n : Nat) (arcs : Arcs) (p : Int), vs = [.ref a, .ref bl] ∧ Web H a n arcs ∧ WebOk n arcs ∧ H bl = some (.lst [.int p]) ∧ (1 ≤ p ∧ p ≤ n) ∧
  ∀ H' D (ks : List Int), Same H H' → H D = none → H' D = some (.dK (keysG kI ks)) → (ks.length = n ↔ Wins n arcs p) → Q (.ref D) H'
abbrev nHe : List Str := ["web", "begin", "seen", "rows", "more", "source", "goal", "one"]
theorem scHearers : FnScope nHe ["web", "begin"] (defScope sHearers) := ⟨rfl, rfl, rfl, by decide +kernel, rfl, by decide +kernel, by decide +kernel⟩
def InvHR (H : Hp) (n : Nat) (arcs : Arcs) (p : Int) (a bl : Addr) : Nat → L2.St → Hp → Prop := fun m σ H' => ∃ (Sd Lr : Addr) (ks rs : List Int) (v4 v5 v6 v7 : Option V), m = 2 * (n - ks.length) + (if rs = [] then 0 else 1) ∧
  σ = [some (.ref a), some (.ref bl), some (.ref Sd), some (.ref Lr), v4, v5, v6, v7] ∧ Same H H' ∧ H Sd = none ∧ H' Sd = some (.dK (keysG kI ks)) ∧ H' Lr = some (.lst (rs.map V.int)) ∧ HR n arcs p ks rs
theorem ok_hearers {f : Addr} {fd : FuncData} (F : Fun K "hearers" "hearers" sHearers f fd) (T : Txt mg) : FnOk P w K mg base CX0 1 f fd ["web", "begin"] spHearers := by
  refine F.ok scHearers (fun vs H Q E h => ?_) (fun cdv A outer s H vs Q E hr h => ?_)
  · obtain ⟨a, bl, n, arcs, p, rfl, _⟩ := h
    rfl
  · obtain ⟨a, bl, n, arcs, p, rfl, hw, W, hbl, hp, k⟩ := h
    obtain ⟨c, ps, w1, w2, w3⟩ := id hw
    have hpl : ps.length = arcs.length := Paired.length w3
    have nd := scHearers.nd
    have few := W.few
    refine ⟨_, pss_cons (ps_par (i := 2) (j := 3) rfl nd rfl rfl (by decide) rfl rfl
        (pa_cons (pe_dc (own := [("one", 7)]) (g := gName 7) (tt := tYes) (tk := tVar 7) (tv := tC (.bl true)) rfl nd (pi_list (pv 1)) (blkOk_by (own := [("one", 7)]) (N := nHe) (sc := defScope sHearers) (by decide +kernel)) (fun _ _ _ _ _ => pg_name (i := 7) nd rfl (Or.inl rfl)) (fun _ _ _ _ _ => pts_nil) (fun _ _ _ _ _ => pv 7) (fun _ _ _ _ _ => pe_bl))
        (pa_cons (pe_callTy call_list_of (by rfl) T.list (by decide +kernel) (pa_cons (pv 1) pa_nil)) pa_nil)) (by rfl))
      (pss_cons (ps_while PassesOwn.never (pt_truth (pv 3) (by intro _; rfl))
        (pss_cons (ps_set (i := 4) nd rfl (Or.inl rfl) (pe_lst pa_nil))
        (pss_cons (ps_for PassesOwn.never rfl (pi_tup (pe_at (pv 0) pe_int)) (pg_tup rfl (pgs_cons (pg_name (i := 5) nd rfl (Or.inl rfl)) (pgs_cons (pg_name (i := 6) nd rfl (Or.inl rfl)) pgs_nil)))
          (pss_one (ps_if (and2 (pt_cmpR op_in_seq (pv 5) (pv 3) (by rfl)) (pt_cmp (pc_dnotin (hu_of hr) (pv 6) (pv 2)) (by rfl)))
            (pss_cons (ps_dput (hu_of hr) (pv 2) (pv 6) pe_bl rfl)
            (pss_one (ps_expr (pe_bm PySem.F.plainAttrs_list PySem.F.slot_list_append PySem.F.type_list_append mt_append (pv 4) (pa_cons (pv 6) pa_nil))))) pss_nil)))
        (pss_one (ps_set (i := 3) nd rfl (Or.inl rfl) (pv 4))))))
      (pss_one (ps_ret (pv 2)))), ?_⟩
    refine ⟨_, rfl, bl, rfl, ⟨_, SqL.of hbl⟩, fun D nD => dcW (ns := [p]) (SqL.of hbl) (fun H3 h3 => SqL.of (h3 _ _ (ne_of_none hbl nD) hbl)) nD (by show 7 < 8; decide) (by show 1 ≤ 1000; decide) fun ks knd km => ?_⟩
    have S1 := same_mk1 (o := .dK (keysG kI ks)) nD
    refine ⟨_, rfl, bl, _, rfl, .inl (SqL.of (S1 _ _ hbl)), fun Lr nLr => ?_⟩
    have S2 := same_new (o := .lst [.int p]) S1 nLr
    have eks : ks = [p] := by
      cases ks with
      | nil => exact absurd ((km p).mpr (by simp)) (by simp)
      | cons x r =>
        have hx : x = p := by simpa using (km x).mp List.mem_cons_self
        cases r with
        | nil => rw [hx]
        | cons y r =>
          have hy : y = p := by simpa using (km y).mp (List.mem_cons_of_mem _ List.mem_cons_self)
          have := (List.nodup_cons.mp knd).1
          rw [hx, hy] at this
          exact absurd List.mem_cons_self this
    subst eks
    have nDL : D ≠ Lr := ne_of_none upd_same nLr
    refine ⟨_, _, rfl, InvHR H n arcs p a bl, ⟨_, D, Lr, [p], [p], none, none, none, none, rfl, rfl, S2, nD, by rw [upd_ne nDL]; exact upd_same, upd_same, HR.start n arcs p⟩, ?_⟩
    rintro m σ H' ⟨Sd, Lq, ks, rs, v4, v5, v6, v7, rfl, rfl, S, fS, hS, hL, b⟩
    by_cases he : rs = []
    · refine ⟨_, rfl, false, .inl ⟨_, SqL.of hL, by rw [he]; rfl⟩, iteF ?_⟩
      rw [he] at b
      exact ⟨_, rfl, k H' Sd ks S fS hS (b.done W hp)⟩
    · refine ⟨_, rfl, true, .inl ⟨_, SqL.of hL, by cases rs with
        | nil => exact absurd rfl he
        | cons x r => rfl⟩, iteT ?_⟩
      refine ⟨fun σ' H2 => ∃ m', m' < 2 * (n - ks.length) + (if rs = [] then 0 else 1) ∧ InvHR H n arcs p a bl m' σ' H2, fun _ _ z => z, ?_⟩
      refine ⟨Nat.zero_le _, fun M0 nM0 => ?_⟩
      have fM : H M0 = none := S.free nM0
      have nMS : M0 ≠ Sd := (ne_of_none hS nM0).symm
      have nML : M0 ≠ Lq := (ne_of_none hL nM0).symm
      have nLS : Lq ≠ Sd := ne_of hL hS (fun z => by cases z)
      have S3 := same_new (o := .lst []) S nM0
      refine ⟨_, rfl, a, _, _, _, rfl, rfl, SqT.of (S3 _ _ w1), atI_nat (j := 1) rfl, c, rfl, ⟨_, SqT.of (S3 _ _ w2)⟩, for_tup (K := K) (a := c) (xs := ps.map V.ref)
        (fun i σ H2 => ∃ (ks' mms : List Int) (v5 v6 : Option V), σ = [some (.ref a), some (.ref bl), some (.ref Sd), some (.ref Lq), some (.ref M0), v5, v6, v7] ∧ Same H H2 ∧ H2 Sd = some (.dK (keysG kI ks')) ∧ H2 Lq = some (.lst (rs.map V.int)) ∧ H2 M0 = some (.lst (mms.map V.int)) ∧ mms.length ≤ i ∧ HRi arcs p ks rs ks' mms i)
        ⟨ks, [], _, _, rfl, S3, by rw [upd_ne nMS.symm]; exact hS, by rw [upd_ne nML.symm]; exact hL, upd_same, Nat.le_refl _, b.inner⟩ (fun i σ H2 _ h => by
          obtain ⟨_, _, _, _, _, S4, _⟩ := h
          exact SqT.of (S4 _ _ w2)) ?_ ?_⟩
      · rintro i x σ H2 hi ⟨ks', mms, u5, u6, rfl, S4, hS4, hL4, hM4, hml, bi⟩
        obtain ⟨pa, hpa, rfl⟩ := map_get hi
        obtain ⟨⟨si, gi⟩, hsg, hpp⟩ := Paired.get' w3 hpa
        have hii := (List.getElem?_eq_some_iff.mp hsg).1
        refine ⟨pa, _, rfl, SqT.of (S4 _ _ hpp), rfl, _, _, rfl, _, _, rfl, rfl, ?_⟩
        refine ⟨_, rfl, _, rfl, Lq, _, rfl, .inl (SqL.of hL4), rfl, flat_ints rs, decide (si ∈ rs), by rw [if_neg Bool.false_ne_true, inV_dec], ?_⟩
        by_cases c1 : si ∈ rs
        · rw [decide_eq_true c1]
          refine iteT ⟨_, rfl, _, rfl, Sd, _, rfl, DGet.k (k := kI gi) hS4, !decide (gi ∈ ks'), bl_notinI, ?_⟩
          by_cases c2 : gi ∈ ks'
          · rw [decide_eq_true c2]
            exact iteF ⟨ks', mms, _, _, rfl, S4, hS4, hL4, hM4, by omega, bi.keep hsg fun _ => c2⟩
          · rw [decide_eq_false c2]
            have hkl : ks'.length ≤ n + 12 := by
              have := bi.len
              have := b.few W hp
              rw [hpl.symm] at few
              omega
            have wle := W.le
            refine iteT ⟨_, rfl, _, rfl, Sd, _, rfl, DPut.k (k := kI gi) hS4 (by rw [keysG_len]; exact small_lt (by omega)), ?_⟩
            rw [keysG_put kI_inj, show insK ks' gi = ks' ++ [gi] from if_neg c2]
            have hM5 : (upd H2 Sd (.dK (keysG kI (ks' ++ [gi])))) M0 = some (.lst (mms.map V.int)) := by
              rw [upd_ne nMS]
              exact hM4
            refine ⟨_, rfl, .inl ⟨rfl, _, SqL.of hM5⟩, _, rfl, M0, _, _, rfl, rfl, hM5, by rw [List.length_map]; exact small_lt (by omega), ?_⟩
            exact ⟨ks' ++ [gi], mms ++ [gi], _, _, rfl, same_own (same_own S4 fS) fM, by rw [upd_ne nMS.symm, upd_same], by rw [upd_ne nML.symm, upd_ne nLS]; exact hL4, by rw [upd_same, List.map_append]; rfl, by rw [List.length_append]; simp; omega, bi.add b.sub hsg c1 c2⟩
        · rw [decide_eq_false c1]
          exact iteF (iteF ⟨ks', mms, _, _, rfl, S4, hS4, hL4, hM4, by omega, bi.keep hsg fun z => absurd z c1⟩)
      · rintro σ H2 ⟨ks', mms, u5, u6, rfl, S4, hS4, hL4, hM4, hml, bi⟩
        rw [List.length_map, hpl] at bi
        have b2 := b.next bi
        have f2 := b2.few W hp
        have hlen := bi.len
        refine ⟨_, rfl, 2 * (n - ks'.length) + (if mms = [] then 0 else 1), ?_, Sd, M0, ks', mms, _, _, _, _, rfl, rfl, S4, fS, hS4, hM4, b2⟩
        rw [if_neg he]
        by_cases hz : mms = []
        · rw [if_pos hz]
          rw [hz] at hlen
          simp only [List.length_nil] at hlen
          omega
        · rw [if_neg hz]
          have := List.length_pos_iff.mpr hz
          omega
end
end K56
end
section
set_option Elab.async false
set_option linter.all false
set_option maxRecDepth 100000
set_option maxHeartbeats 2000000
namespace K56
open PySem PySem.Spec PyProof.Rows L2 GxR
/-- a block over enumerate(tuple): one turn has its new pair at T -/
theorem lc_enumT {a : Addr} {xs : List V} {g : TG} {tt : TT} {te : TE} {vs : List Nat} {σ : L2.St} {H1 : Hp} {D : Addr} {Qd : Hp → Prop} (Pv : Nat → Hp → Prop) (h0 : Pv 0 (upd H1 D (.lst []))) (hl : ∀ i H, i ≤ xs.length → Pv i H → H a = some (.tup xs))
    (hs : ∀ i x H T, xs[i]? = some x → Pv i H → H T = none → g (.ref T) (wipe σ vs) (upd H T (.tup [.int (i : Nat), x])) fun σ2 H2 => wipe σ2 vs = wipe σ vs ∧ tt σ2 H2 fun b H3 =>
      if b = true then te σ2 H3 fun y H4 => ∃ acc, H4 D = some (.lst acc) ∧ acc.length < sizeLine ∧ Pv (i + 1) (upd H4 D (.lst (acc ++ [y]))) else Pv (i + 1) H3) (hd : ∀ H, Pv xs.length H → Qd H) :
    ∃ W : Nat → Nat → Hp → Prop, (∃ m, W 0 m (upd H1 D (.lst []))) ∧ ∀ i m H, W i m H →
      ((IteT a).stop i H ∧ Qd H) ∨ ((IteT a).go i H ∧ ∃ Nx : Hp → Prop, (∀ H', Nx H' → ∃ m', m' < m ∧ W (i + 1) m' H') ∧ ∀ x H', (IteT a).yld i H x H' → g x (wipe σ vs) H' fun σ2 H2 => wipe σ2 vs = wipe σ vs ∧ tt σ2 H2 fun b H3 =>
        if b = true then te σ2 H3 fun y H4 => ∃ acc, H4 D = some (.lst acc) ∧ acc.length < sizeLine ∧ Nx (upd H4 D (.lst (acc ++ [y]))) else Nx H3) := by
  refine ⟨fun i m H => m = xs.length - i ∧ i ≤ xs.length ∧ Pv i H, ⟨xs.length, by simp, Nat.zero_le _, h0⟩, ?_⟩
  rintro i m H ⟨rfl, hi, p⟩
  have q := hl i H hi p
  by_cases hlt : i < xs.length
  · refine .inr ⟨⟨xs, xs[i], q, by simp [hlt]⟩, Pv (i + 1), fun H' p' => ⟨xs.length - (i + 1), by omega, rfl, hlt, p'⟩, fun x H' y => ?_⟩
    obtain ⟨T, x', ex, hT, eH, y⟩ := y
    subst ex eH
    exact hs i x' _ T (y xs q) p hT
  · have e : i = xs.length := by omega
    subst e
    exact .inl ⟨⟨xs, q, Nat.le_refl _⟩, hd H p⟩
section
variable {P : Program} {w : World} {K : PySem.W.Frag} {mg : Str → Option Value} {base : Heap} {T4 : Tabs4}
/-! ### winners_of -/
def spWinnersOf : Sp := fun vs H Q _ => ∃ (a : Addr) (n : Nat) (arcs : Arcs), vs = [.ref a] ∧ Web H a n arcs ∧ WebOk n arcs ∧
  ∀ H' L (ws : List Int), Same H H' → H L = none → H' L = some (.lst (ws.map V.int)) → (∀ x, x ∈ ws ↔ (1 ≤ x ∧ x ≤ n) ∧ Wins n arcs x) → ws.length ≤ n → Q (.ref L) H'
abbrev nWo : List Str := ["web", "one"]
theorem scWinnersOf : FnScope nWo ["web"] (defScope sWinnersOf) := ⟨rfl, rfl, rfl, by decide +kernel, rfl, by decide +kernel, by decide +kernel⟩
theorem ok_winnersof {f fP fH : Addr} {fd fdP fdH : FuncData} (F : Fun K "winners_of" "winners_of" sWinnersOf f fd) (T : Txt mg)
    (GP : FnOk P w K mg base CX0 1 fP fdP ["web"] spPeople) (gP : mg "people" = some (.ref fP)) (kP : PySem.W.keepIn K (.ref fP) = true) (bP : Binds K fdP ["web"] [])
    (GH : FnOk P w K mg base CX0 1 fH fdH ["web", "begin"] spHearers) (gH : mg "hearers" = some (.ref fH)) (kH : PySem.W.keepIn K (.ref fH) = true) (bH : Binds K fdH ["web", "begin"] []) :
    FnOk P w K mg base CX0 2 f fd ["web"] spWinnersOf := by
  refine F.ok scWinnersOf (fun vs H Q E h => ?_) (fun cdv A outer s H vs Q E hr h => ?_)
  · obtain ⟨a, n, arcs, rfl, _⟩ := h
    rfl
  · obtain ⟨a, n, arcs, rfl, hw, W, k⟩ := h
    obtain ⟨c, ps, w1, w2, w3⟩ := id hw
    have nd := scWinnersOf.nd
    have wle := W.le
    refine ⟨_, pss_one (ps_ret (pe_lc (own := [("one", 1)]) (g := gName 1)
        (tt := tTest (tOp rEq (tCB (fun xs H Q => ∃ a kvs, xs = [V.ref a] ∧ H a = some (.dK kvs) ∧ Q (.int kvs.length) H) (tCons (tCall spHearers [] E0 (tCons (tVar 0) (tCons (tLst (tCons (tVar 1) tNil)) tNil))) tNil)) (tOp (rIxT K) (tVar 0) (tC (.int 0))))) (te := tVar 1) rfl nd
        (pi_tup (pe_call GP hr (by rfl) gP kP bP .nil pass0 (pa_cons (pv 0) pa_nil))) (blkOk_by (own := [("one", 1)]) (N := nWo) (sc := defScope sWinnersOf) (by decide +kernel))
        (fun _ _ _ _ _ => pg_name (i := 1) nd rfl (Or.inl rfl) (Or.inr rfl))
        (fun _ _ _ _ _ => pts_one (pt_cmpR op_eq (pe_callB call_lenD (by rfl) T.len PySem.boot_len (pa_cons (pe_call GH hr (by rfl) gH kH bH .nil pass0 (pa_cons (pv 0) (pa_cons (pe_lst (pa_cons (pv 1) pa_nil)) pa_nil))) pa_nil)) (pe_at (pv 0) pe_int) (nomark _)))
        (fun _ _ _ _ _ => pv 1))), ?_⟩
    refine ⟨_, rfl, a, n, arcs, rfl, hw, by omega, fun pp npp => ?_⟩
    have S1 : Same H (upd H pp (.tup ((ppl n).map V.int))) := same_mk1 npp
    refine ⟨pp, rfl, ⟨_, SqT.of upd_same⟩, fun D nD => lc_tup (K := K) (a := pp) (xs := (ppl n).map V.int)
      (fun i H2 => ∃ ws : List Int, H2 D = some (.lst (ws.map V.int)) ∧ Same (upd H pp (.tup ((ppl n).map V.int))) H2 ∧ ws.length ≤ i ∧ ∀ x, x ∈ ws ↔ x ∈ (ppl n).take i ∧ Wins n arcs x)
      ⟨[], upd_same, same_mk1 nD, Nat.le_refl _, fun g => by simp⟩ (fun i H2 _ ⟨_, _, S2, _⟩ => SqT.of (S2 _ _ upd_same)) ?_ ?_⟩
    · rintro i x H2 hi ⟨ws, hD, S2, hml, hm⟩
      obtain ⟨y, hy, rfl⟩ := map_get hi
      have hyn := ppl_mem.mp (List.mem_of_getElem? hy)
      have hil := (List.getElem?_eq_some_iff.mp hy).1
      rw [ppl_len] at hil
      refine ⟨rfl, ?_⟩
      have a1 := S2 _ _ (S1 _ _ w1)
      refine ⟨_, rfl, _, rfl, Nat.succ_le_succ (Nat.zero_le _), fun q0 nq0 => ?_⟩
      have S3 : Same H2 (upd H2 q0 (.lst [.int y])) := same_mk1 nq0
      refine ⟨a, q0, n, arcs, y, rfl, (same_tups S3).web ((same_tups S2).web ((same_tups S1).web hw)), W, upd_same, hyn, fun H3 D2 ks S4 nD2 hD2 hks => ?_⟩
      have SS := S2.trans (S3.trans S4)
      refine ⟨D2, _, rfl, hD2, _, rfl, a, _, _, _, rfl, rfl, SqT.of (S4 _ _ (S3 _ _ a1)), atI_nat (j := 0) rfl, rfl, _, rfl, ?_⟩
      rw [keysG_len]
      have hD3 : H3 D = some (.lst (ws.map V.int)) := S4 _ _ (S3 _ _ hD)
      by_cases hwn : Wins n arcs y
      · have e : ks.length = n := hks.mpr hwn
        rw [e, decide_eq_true rfl]
        refine iteT ⟨_, rfl, _, hD3, by rw [List.length_map]; exact small_lt (by omega), ws ++ [y], by rw [upd_same, List.map_append]; rfl, same_own SS nD, by rw [List.length_append]; simp; omega, fun x => ?_⟩
        rw [List.mem_append, hm x, List.mem_singleton, mem_take_succ hy]
        constructor
        · rintro (⟨h1, h2⟩ | rfl)
          · exact ⟨.inl h1, h2⟩
          · exact ⟨.inr rfl, hwn⟩
        · rintro ⟨h1 | h1, h2⟩
          · exact .inl ⟨h1, h2⟩
          · exact .inr h1
      · have e : ¬ ks.length = n := fun z => hwn (hks.mp z)
        rw [decide_eq_false (fun z => e (by have := V.int.inj z; omega))]
        refine iteF ⟨ws, hD3, SS, by omega, fun x => ?_⟩
        rw [hm x, mem_take_succ hy]
        constructor
        · rintro ⟨h1, h2⟩
          exact ⟨.inl h1, h2⟩
        · rintro ⟨h1 | h1, h2⟩
          · exact ⟨h1, h2⟩
          · rw [h1] at h2
            exact absurd h2 hwn
    · rintro H2 ⟨ws, hD, S2, hml, hm⟩
      rw [List.length_map, ppl_len] at hml hm
      refine k H2 D ws (S1.trans S2) (S1.free nD) hD (fun x => ?_) hml
      have e : (ppl n).take n = ppl n := List.take_of_length_le (by rw [ppl_len]; exact Nat.le_refl _)
      rw [hm x, e, ppl_mem]
/-! ### winners -/
def spWinners (T4 : Tabs4) : Sp := fun vs H Q _ => ∃ (a : Addr) (n : Nat) (arcs : Arcs), vs = [.ref a] ∧ Web H a n arcs ∧ WebOk n arcs ∧ Tb T4 H ∧
  ∀ H' L (ws : List Int), Sit T4 H H' → H' L = some (.tup (ws.map V.int)) → (∀ x, x ∈ ws ↔ (1 ≤ x ∧ x ≤ n) ∧ Wins n arcs x) → Q (.ref L) H'
theorem scWinners : FnScope ["web"] ["web"] (defScope sWinners) := ⟨rfl, rfl, rfl, by decide +kernel, rfl, by decide +kernel, by decide +kernel⟩
theorem ok_winners {f fW fO : Addr} {fd fdW fdO : FuncData} (F : Fun K "winners" "winners" sWinners f fd) (T : Txt mg) (GW : FnOk P w K mg base CX0 2 fW fdW ["web"] (spNeedWeb T4)) (gW : mg "need_web" = some (.ref fW)) (kW : PySem.W.keepIn K (.ref fW) = true) (bW : Binds K fdW ["web"] [])
    (GO : FnOk P w K mg base CX0 2 fO fdO ["web"] spWinnersOf) (gO : mg "winners_of" = some (.ref fO)) (kO : PySem.W.keepIn K (.ref fO) = true) (bO : Binds K fdO ["web"] []) :
    FnOk P w K mg base CX0 3 f fd ["web"] (spWinners T4) := by
  refine F.ok scWinners (fun vs H Q E h => ?_) (fun cdv A outer s H vs Q E hr h => ?_)
  · obtain ⟨a, n, arcs, rfl, _⟩ := h
    rfl
  · obtain ⟨a, n, arcs, rfl, hw, W, tb, k⟩ := h
    refine ⟨_, pss_cons (ps_expr (pe_call GW hr (by rfl) gW kW bW .nil pass0 (pa_cons (pv 0) pa_nil)))
      (pss_one (ps_ret (pe_callTy call_tuple_of (by rfl) T.tuple (by decide +kernel) (pa_cons (pe_call GO hr (by rfl) gO kO bO .nil pass0 (pa_cons (pv 0) pa_nil)) pa_nil)))), ?_⟩
    refine ⟨_, rfl, a, n, arcs, rfl, hw, W, tb, fun H1 S1 => ?_⟩
    refine ⟨_, rfl, a, n, arcs, rfl, S1.tups.web hw, W, fun H2 L ws S2 nL hL hws hwl => ?_⟩
    exact ⟨L, _, rfl, .inl ⟨SqL.of hL, fun l nl => k _ l ws ((S1.same S2).new nl) upd_same hws⟩⟩
/-! ### win_log -/
def spWinLog (T4 : Tabs4) : Sp := fun vs H Q _ => ∃ (a : Addr) (n : Nat) (arcs : Arcs) (p : Int), vs = [.ref a, .int p] ∧ Web H a n arcs ∧ WebOk n arcs ∧ (1 ≤ p ∧ p ≤ n) ∧ Tb T4 H ∧
  (∀ H', Sit T4 H H' → ¬ Wins n arcs p → Q .non H') ∧ ∀ H' l (xs : List V), Sit T4 H H' → Wins n arcs p → H' l = some (.tup xs) → xs.length + 1 = n → Q (.ref l) H'
abbrev nWl : List Str := ["web", "person", "seen", "found", "index", "k", "source", "goal"]
theorem scWinLog : FnScope nWl ["web", "person"] (defScope sWinLog) := ⟨rfl, rfl, rfl, by decide +kernel, rfl, by decide +kernel, by decide +kernel⟩
theorem ok_winlog {f fW fP fO : Addr} {fd fdW fdP fdO : FuncData} (F : Fun K "win_log" "win_log" sWinLog f fd) (T : Txt mg) (GW : FnOk P w K mg base CX0 2 fW fdW ["web"] (spNeedWeb T4)) (gW : mg "need_web" = some (.ref fW)) (kW : PySem.W.keepIn K (.ref fW) = true) (bW : Binds K fdW ["web"] [])
    (GP : FnOk P w K mg base CX0 2 fP fdP ["web", "person"] spNeedPerson) (gP : mg "need_person" = some (.ref fP)) (kP : PySem.W.keepIn K (.ref fP) = true) (bP : Binds K fdP ["web", "person"] [])
    (GO : FnOk P w K mg base CX0 2 fO fdO ["web"] spWinnersOf) (gO : mg "winners_of" = some (.ref fO)) (kO : PySem.W.keepIn K (.ref fO) = true) (bO : Binds K fdO ["web"] []) :
    FnOk P w K mg base CX0 3 f fd ["web", "person"] (spWinLog T4) := by
  refine F.ok scWinLog (fun vs H Q E h => ?_) (fun cdv A outer s H vs Q E hr h => ?_)
  · obtain ⟨a, n, arcs, p, rfl, _⟩ := h
    rfl
  · obtain ⟨a, n, arcs, p, rfl, hw, W, hp, tb, kn, k⟩ := h
    obtain ⟨c, ps, w1, w2, w3⟩ := id hw
    have hpl : ps.length = arcs.length := Paired.length w3
    have nd := scWinLog.nd
    have few := W.few
    have wle := W.le
    refine ⟨_, pss_cons (ps_expr (pe_call GW hr (by rfl) gW kW bW .nil pass0 (pa_cons (pv 0) pa_nil)))
      (pss_cons (ps_expr (pe_call GP hr (by rfl) gP kP bP .nil pass0 (pa_cons (pv 0) (pa_cons (pv 1) pa_nil))))
      (pss_cons (ps_if (pt_cmpR op_notIn_seq (pv 1) (pe_call GO hr (by rfl) gO kO bO .nil pass0 (pa_cons (pv 0) pa_nil)) (by rfl)) (pss_one (ps_ret pe_non)) pss_nil)
      (pss_cons (ps_asg (pe_tup (pa_cons (pe_lst (pa_cons (pv 1) pa_nil)) (pa_cons (pe_lst pa_nil) pa_nil))) (pg_tup rfl (pgs_cons (pg_name (i := 2) nd rfl (.inr rfl)) (pgs_cons (pg_name (i := 3) nd rfl (.inl rfl)) pgs_nil))))
      (pss_cons (ps_while PassesOwn.never (pt_cmpR op_lt (pe_len T (pv 2)) (pe_at (pv 0) pe_int) (nomark _))
        (pss_cons (ps_set (i := 4) nd rfl (Or.inl rfl) (pe_ix ix_list (pe_lc (own := [("k", 5), ("source", 6), ("goal", 7)]) (g := gTup K 2 (gCons (gName 5) (gCons (gTup K 2 (gCons (gName 6) (gCons (gName 7) gNil))) gNil)))
            (tt := tAnd (tTest (tOp (rIn K false) (tVar 6) (tVar 2))) (tTest (tOp (rIn K true) (tVar 7) (tVar 2)))) (te := tVar 5) rfl nd (pi_enumT (by rfl) T.enumerate (pa_cons (pe_at (pv 0) pe_int) pa_nil)) (blkOk_by (own := [("k", 5), ("source", 6), ("goal", 7)]) (N := nWl) (sc := defScope sWinLog) (by decide +kernel))
            (fun _ _ _ _ _ => pg_tup rfl (pgs_cons (pg_name (i := 5) nd rfl (Or.inl rfl) (Or.inr rfl)) (pgs_cons (pg_tup rfl (pgs_cons (pg_name (i := 6) nd rfl (Or.inl rfl) (Or.inr rfl)) (pgs_cons (pg_name (i := 7) nd rfl (Or.inl rfl) (Or.inr rfl)) pgs_nil))) pgs_nil)))
            (fun _ _ _ _ _ => pts_one (and2 (pt_cmpR (r := rIn K false) op_in_seq (pv 6) (pv 2) (by rfl)) (pt_cmpR (r := rIn K true) op_notIn_seq (pv 7) (pv 2) (by rfl)))) (fun _ _ _ _ _ => pv 5)) pe_int (fun _ _ => rfl)))
        (pss_cons (ps_expr (pe_bm PySem.F.plainAttrs_list PySem.F.slot_list_append PySem.F.type_list_append mt_append (pv 3) (pa_cons (pv 4) pa_nil)))
        (pss_one (ps_expr (pe_bm PySem.F.plainAttrs_list PySem.F.slot_list_append PySem.F.type_list_append mt_append (pv 2) (pa_cons (pe_at (pe_at (pe_at (pv 0) pe_int) (pv 4)) pe_int) pa_nil)))))))
      (pss_one (ps_ret (pe_callTy call_tuple_of (by rfl) T.tuple (by decide +kernel) (pa_cons (pv 3) pa_nil)))))))), ?_⟩
    refine ⟨_, rfl, a, n, arcs, rfl, hw, W, tb, fun H1 S1 => ?_⟩
    refine ⟨_, rfl, _, rfl, a, n, arcs, p, rfl, S1.tups.web hw, hp.1, hp.2, ?_⟩
    refine ⟨_, rfl, _, rfl, a, n, arcs, rfl, S1.tups.web hw, W, fun H2 L ws S2 nL hL hws hwl => ?_⟩
    have SS2 := S1.same S2
    refine ⟨L, _, rfl, .inl (SqL.of hL), rfl, flat_ints ws, _, rfl, ?_⟩
    rw [if_pos rfl, inV_ints]
    by_cases hwn : Wins n arcs p
    · rw [decide_eq_true ((hws p).mpr ⟨hp, hwn⟩)]
      refine iteF ?_
      refine ⟨_, rfl, Nat.succ_le_succ (Nat.zero_le _), fun q nq => ?_⟩
      have S3 := SS2.new (o := .lst [.int p]) nq
      refine ⟨Nat.zero_le _, fun fA nfA => ⟨by show 2 ≤ sizeLine; decide, fun t0 nt0 => ?_⟩⟩
      have S4 := S3.new (o := .lst []) nfA
      have S5 := S4.new (o := .tup [.ref q, .ref fA]) nt0
      refine ⟨t0, _, rfl, SqT.of upd_same, rfl, _, _, rfl, _, _, rfl, rfl, ?_⟩
      have fq : Fre H q := SS2.fre nq
      have ffA : Fre H fA := S3.fre nfA
      have nqf : q ≠ fA := ne_of_none upd_same nfA
      refine ⟨fun m σ H' => ∃ (ss : List Int) (fs : List V) (v4 v5 v6 v7 : Option V), m = n - ss.length ∧ σ = [some (.ref a), some (.int p), some (.ref q), some (.ref fA), v4, v5, v6, v7] ∧ Sit T4 H H' ∧ H' q = some (.lst (ss.map V.int)) ∧ H' fA = some (.lst fs) ∧ ss.Nodup ∧ p ∈ ss ∧ fs.length + 1 = ss.length ∧ ∀ x ∈ ss, 1 ≤ x ∧ x ≤ n,
        ⟨_, [p], [], none, none, none, none, rfl, rfl, S5, ?_, ?_, by simp, by simp, rfl, fun x hx => by rw [List.mem_singleton.mp hx]; exact hp⟩, ?_⟩
      · have e1 : (upd (upd H2 q (.lst [.int p])) fA (.lst [])) q = some (.lst [.int p]) := by rw [upd_ne nqf, upd_same]
        rw [upd_ne (ne_of_none e1 nt0), e1]
        rfl
      · rw [upd_ne (ne_of_none upd_same nt0), upd_same]
      rintro m σ H' ⟨ss, fs, v4, v5, v6, v7, rfl, rfl, S, hq, hf, hnd, hps, hfl, hok⟩
      have a1 := S.tups _ _ w1
      have a2 := S.tups _ _ w2
      have a3 := S.tups.pairs w3
      have hsn : ss.length ≤ n := len_le hnd hok
      refine ⟨_, rfl, q, _, rfl, .inl (SqL.of hq), _, rfl, a, _, _, _, rfl, rfl, SqT.of a1, atI_nat (j := 0) rfl, _, _, rfl, rfl, _, rfl, ?_⟩
      rw [List.length_map]
      by_cases hlt : ss.length < n
      · rw [decide_eq_true (show ((ss.length : Nat) : Int) < (n : Int) by omega)]
        refine iteT ⟨fun σ' H2 => ∃ m', m' < n - ss.length ∧ ∃ (ss : List Int) (fs : List V) (v4 v5 v6 v7 : Option V), m' = n - ss.length ∧ σ' = [some (.ref a), some (.int p), some (.ref q), some (.ref fA), v4, v5, v6, v7] ∧ Sit T4 H H2 ∧ H2 q = some (.lst (ss.map V.int)) ∧ H2 fA = some (.lst fs) ∧ ss.Nodup ∧ p ∈ ss ∧ fs.length + 1 = ss.length ∧ ∀ x ∈ ss, 1 ≤ x ∧ x ≤ n, fun _ _ z => z, ?_⟩
        -- index
        refine ⟨_, rfl, a, _, _, _, rfl, rfl, SqT.of a1, atI_nat (j := 1) rfl, c, _, rfl, a2, fun D nD => lc_enumT (a := c) (xs := ps.map V.ref)
          (fun i H2 => ∃ is : List Nat, H2 D = some (.lst (is.map fun (k : Nat) => V.int (k : Int))) ∧ Same H' H2 ∧ is.length ≤ i ∧ ∀ k, k ∈ is ↔ k < i ∧ ∃ s g, arcs[k]? = some (s, g) ∧ s ∈ ss ∧ g ∉ ss)
          ⟨[], upd_same, same_mk1 nD, Nat.le_refl _, fun g => by simp⟩ (fun i H2 _ ⟨_, _, S2, _⟩ => S2 _ _ a2) ?_ ?_⟩
        · rintro i x H3 Tp hi ⟨is, hD, S3, hml, hm⟩ nT
          obtain ⟨pa, hpa, rfl⟩ := map_get hi
          obtain ⟨⟨si, gi⟩, hsg, hpp⟩ := Paired.get' a3 hpa
          have hii := (List.getElem?_eq_some_iff.mp hsg).1
          have S4 := same_new (o := .tup [.int (i : Nat), .ref pa]) S3 nT
          have hq2 := S4 _ _ hq
          have hD4 : (upd H3 Tp (.tup [.int (i : Nat), .ref pa])) D = some (.lst (is.map fun (k : Nat) => V.int (k : Int))) := by
            rw [upd_ne (ne_of_none hD nT)]
            exact hD
          refine ⟨Tp, _, rfl, SqT.of upd_same, rfl, _, _, rfl, _, _, rfl, ⟨pa, _, rfl, SqT.of (S4 _ _ hpp), rfl, _, _, rfl, _, _, rfl, rfl, rfl, rfl, ?_⟩⟩
          refine ⟨_, rfl, _, rfl, q, _, rfl, .inl (SqL.of hq2), rfl, flat_ints ss, _, rfl, ?_⟩
          rw [if_neg Bool.false_ne_true, inV_ints]
          have keep : (¬ (si ∈ ss ∧ gi ∉ ss)) → ∀ k, k ∈ is ↔ k < i + 1 ∧ ∃ s g, arcs[k]? = some (s, g) ∧ s ∈ ss ∧ g ∉ ss := fun hno k => by
            rw [hm k]
            constructor
            · rintro ⟨h1, h2⟩
              exact ⟨by omega, h2⟩
            · rintro ⟨h1, s, g, h2, h3, h4⟩
              refine ⟨?_, s, g, h2, h3, h4⟩
              by_cases e : k = i
              · rw [e, hsg] at h2
                cases h2
                exact absurd ⟨h3, h4⟩ hno
              · omega
          refine ite2 (fun c1 => ?_) (fun c1 => ?_)
          · refine ⟨_, rfl, _, rfl, q, _, rfl, .inl (SqL.of hq2), rfl, flat_ints ss, _, rfl, ?_⟩
            rw [if_pos rfl, inV_ints]
            have c1' := of_decide_eq_true c1
            by_cases c2 : gi ∈ ss
            · rw [decide_eq_true c2]
              exact iteF ⟨is, hD4, S4, by omega, keep fun z => z.2 c2⟩
            · rw [decide_eq_false c2]
              refine iteT ⟨_, rfl, _, hD4, by rw [List.length_map]; exact small_lt (by omega), is ++ [i], by rw [upd_same, List.map_append]; rfl, same_own S4 nD, by rw [List.length_append]; simp; omega, fun k => ?_⟩
              rw [List.mem_append, hm k, List.mem_singleton]
              constructor
              · rintro (⟨h1, h2⟩ | rfl)
                · exact ⟨by omega, h2⟩
                · exact ⟨by omega, si, gi, hsg, c1', c2⟩
              · rintro ⟨h1, s, g, h2, h3, h4⟩
                by_cases e : k = i
                · exact .inr e
                · exact .inl ⟨by omega, s, g, h2, h3, h4⟩
          · have c1' : ¬ si ∈ ss := fun z => c1 (decide_eq_true z)
            exact iteF ⟨is, hD4, S4, by omega, keep fun z => c1' z.1⟩
        · rintro H3 ⟨is, hD, S3, hml, hm⟩
          rw [List.length_map, hpl] at hm
          obtain ⟨s0, g0, ha0, hs0, hg0⟩ := win_more hwn hps hnd hlt
          obtain ⟨k0, hk0, ek0⟩ := List.getElem_of_mem ha0
          have hmem : k0 ∈ is := (hm k0).mpr ⟨hk0, s0, g0, by rw [List.getElem?_eq_getElem hk0, ek0], hs0, hg0⟩
          cases is with
          | nil => exact (nomatch hmem)
          | cons kx rest =>
            obtain ⟨hkx, sx, gx, hax, hsx, hgx⟩ := (hm kx).mp List.mem_cons_self
            have SS3 := S.same S3
            have b1 := S3 _ _ a1
            have b2 := S3 _ _ a2
            obtain ⟨px, hpx, hpp⟩ := Paired.get ((same_tups S3).pairs a3) hax
            have hq3 := S3 _ _ hq
            have hf3 := S3 _ _ hf
            have hgn := (W.ok _ (List.mem_of_getElem? hax)).2.1
            refine ⟨D, _, _, _, rfl, rfl, SqL.of hD, atI_nat (j := 0) rfl, ?_⟩
            refine ⟨_, rfl, .inl ⟨rfl, _, SqL.of hf3⟩, _, rfl, fA, _, _, rfl, rfl, hf3, small_lt (by omega), ?_⟩
            have S6 := SS3.own (o := .lst (fs ++ [.int (kx : Nat)])) ffA hf3
            have t6 : TupS H3 (upd H3 fA (.lst (fs ++ [.int (kx : Nat)]))) := tups_lst hf3
            have hq6 : (upd H3 fA (.lst (fs ++ [.int (kx : Nat)]))) q = some (.lst (ss.map V.int)) := by rw [upd_ne nqf]; exact hq3
            refine ⟨_, rfl, .inl ⟨rfl, _, SqL.of hq6⟩, _, rfl, a, _, _, _, rfl, rfl, SqT.of (t6 _ _ b1), atI_nat (j := 1) rfl, _, rfl, c, _, _, _, rfl, rfl, SqT.of (t6 _ _ b2), atI_nat (j := kx) (by rw [List.getElem?_map, hpx]; rfl), px, _, _, _, rfl, rfl, SqT.of (t6 _ _ hpp), atI_nat (j := 1) rfl, ?_⟩
            refine ⟨q, _, _, rfl, rfl, hq6, by rw [List.length_map]; exact small_lt (by omega), ?_⟩
            have S7 := S6.own (o := .lst (ss.map V.int ++ [.int gx])) fq hq6
            refine ⟨n - (ss ++ [gx]).length, ?_, ss ++ [gx], fs ++ [.int (kx : Nat)], _, _, _, _, rfl, rfl, S7, by rw [upd_same, List.map_append]; rfl, by rw [upd_ne nqf.symm, upd_same], ?_, List.mem_append_left _ hps, ?_, ?_⟩
            · rw [List.length_append]
              simp only [List.length_singleton]
              omega
            · refine List.nodup_append.mpr ⟨hnd, by simp, fun x hx y hy z => ?_⟩
              rw [List.mem_singleton.mp hy] at z
              exact hgx (z ▸ hx)
            · rw [List.length_append, List.length_append]
              simp only [List.length_singleton]
              omega
            · intro x hx
              rcases List.mem_append.mp hx with hx | hx
              · exact hok x hx
              · rw [List.mem_singleton.mp hx]
                exact hgn
      · rw [decide_eq_false (show ¬ ((ss.length : Nat) : Int) < (n : Int) by omega)]
        refine iteF ?_
        exact ⟨_, rfl, fA, _, rfl, .inl ⟨SqL.of hf, fun l nl => k _ l fs (S.new nl) hwn upd_same (by omega)⟩⟩
    · rw [decide_eq_false (fun z => hwn ((hws p).mp z).2)]
      exact iteT (kn H2 SS2 hwn)
end
end K56
end
section
set_option Elab.async false
set_option linter.all false
set_option maxRecDepth 100000
set_option maxHeartbeats 2000000
namespace K56
open PySem PySem.Spec PyProof.Rows L2 GxR NdefX
/-! ### rows as data -/
def tI (xs : List Int) : PyData := .tuple (xs.map PyData.int)
theorem ints_lay : ∀ xs : List Int, PyData.canLayAll0 (xs.map PyData.int) = true
  | [] => by simp [PyData.canLayAll0]
  | x :: xs => by simp [PyData.canLayAll0, PyData.canLay0, ints_lay xs]
theorem ints_depth : ∀ xs : List Int, PyData.depthAll (xs.map PyData.int) ≤ 1
  | [] => by simp [PyData.depthAll]
  | x :: xs => by
    have h1 := ints_depth xs
    simp only [List.map_cons, PyData.depthAll, PyData.depth]
    omega
theorem tI_shaped (xs : List Int) : SeqAt.shaped (tI xs) = true := by
  have h1 := ints_depth xs
  have h2 : PyData.depth (tI xs) ≤ 64 := by
    simp only [tI, PyData.depth]
    omega
  show (PyData.canLay0 (tI xs) && decide (PyData.depth (tI xs) ≤ 64)) = true
  rw [Bool.and_eq_true]
  exact ⟨by simp only [tI, PyData.canLay0]; exact ints_lay xs, decide_eq_true h2⟩
theorem ints_eqv : ∀ xs ys : List Int, PyData.eqvAll (xs.map PyData.int) (ys.map PyData.int) = decide (xs = ys)
  | [], [] => by simp [PyData.eqvAll]
  | [], y :: ys => by simp [PyData.eqvAll]
  | x :: xs, [] => by simp [PyData.eqvAll]
  | x :: xs, y :: ys => by
    have ih := ints_eqv xs ys
    simp only [List.map_cons, PyData.eqvAll, PyData.eqv, ih]
    by_cases h1 : x = y
    · subst h1
      by_cases h2 : xs = ys
      · subst h2; simp
      · rw [decide_eq_false h2, decide_eq_false (fun q => h2 (List.cons.inj q).2)]; simp
    · rw [decide_eq_false (fun q => h1 (List.cons.inj q).1)]; simp [h1]
theorem tI_eqv (xs ys : List Int) : PyData.eqv (tI xs) (tI ys) = decide (xs = ys) := by
  have e : PyData.eqv (tI xs) (tI ys) = PyData.eqvAll (xs.map PyData.int) (ys.map PyData.int) := by simp only [tI, PyData.eqv]
  rw [e, ints_eqv]
theorem dp_ints {K : PySem.W.Frag} {H : Hp} : ∀ xs : List Int, DpAll K H (xs.map V.int) (xs.map PyData.int)
  | [] => .nil
  | x :: xs => .cons (.int x) (dp_ints xs)
theorem dp_row {K : PySem.W.Frag} {H : Hp} {p : Addr} {xs : List Int} (h : Row H p xs) : Dp K H (.ref p) (tI xs) := .tup (SqT.of h) (dp_ints xs)
/-! ### the lambda, called by the def that got it -/
abbrev nFl : List Str := ["web", "begin", "is_goal", "rows", "seen", "more", "here", "log", "index", "there"]
abbrev lamBody : Expr → Prop := fun b => ∃ q1 q2 q3, b = .Compare (.Name "here" q1) [.Eq] [.Name "goal" q2] q3
section
variable {X : Cx} {pins : List (Addr × Obj)} {σ : L2.St} {H : Hp} {s : Shared}
theorem pe_act1 {qg : Str} {sg scope : Scope} {g f c' ga : Addr} {cdg pm ctv : Value} {params : Arguments} {q1 q2 q3 : Pos} {ig : Nat} {E : XK} {p1 p2 p3 : Pos}
    (I : Inv X pins σ H s) (hσ : σ[ig]? = some (some (.ref ga))) (hNg : X.N[ig]? = some "goal") (hcl : X.env.scope.names.lookup ("goal" : Str) = some .cell) (S : NScope ["here", "goal"] ["here"] ["goal"] scope) (hfree : ∀ y ∈ scope.names, y.2 = .free → y.1 = "goal")
    (hf : s.heap.get? f = some (PySem.W.kla_obj "<lambda>" (X.env.qual ++ "<lambda>") params (.Compare (.Name "here" q1) [.Eq] [.Name "goal" q2] q3) scope (cloFrom X.env.cells scope.names []) pm c' ctv)) (hfn : H f = none) (hfr : f ∉ frs X.stack)
    (hbind : ∀ u, bindArgs (PySem.W.kla_fn "<lambda>" (X.env.qual ++ "<lambda>") params (.Compare (.Name "here" q1) [.Eq] [.Name "goal" q2] q3) scope (cloFrom X.env.cells scope.names []) pm (.ref c') ctv) ⟨[u], []⟩ = pure [(("here" : Str), u)])
    (hr : Room 1 (X.A.deeper (envOfC qg sg s.heap.objs.size g cdg))) (hv2 : Vis sg "is_goal") (hv6 : Vis sg "here") :
    PE (cxOf CX0 X.prog X.w X.K X.mg X.base nFl qg sg g cdg X.A X.stack s H E).nox (.Call (.Name "is_goal" p1) [.Name "here" p2] [] p3)
      (fun σZ HZ Q => σZ[2]? = some (some (.ref f)) ∧ HZ c' = some (LamX.CodeO c' (X.env.qual ++ "<lambda>")) ∧ ∃ hrA xs gs, σZ[6]? = some (some (.ref hrA)) ∧ Row HZ hrA xs ∧ Row HZ ga gs ∧ Q (.bl (decide (xs = gs))) HZ) := by
  refine ⟨fun pinsZ sZ σZ HZ Q IZ h => ?_⟩
  obtain ⟨hs, hc, hrA, xs, gs, hh, hx, hg, ht⟩ := h
  refine wpAny_Call_Name_kw (thn ((pe_var (pos := p1) (i := 2) rfl hv2).run pinsZ sZ σZ HZ (fun v H1 => v = .ref f ∧ H1 = HZ) IZ ⟨.ref f, hs, rfl, rfl⟩) fun u s1 ⟨v, H1, I1, r1, z1⟩ => ?_)
  obtain ⟨ev, eH⟩ := z1
  subst ev
  rw [eH] at I1
  obtain rfl : u = Value.ref f := r1
  have of0 : ∀ {s1 : Shared}, Inv (cxOf CX0 X.prog X.w X.K X.mg X.base nFl qg sg g cdg X.A X.stack s H E).nox pinsZ σZ HZ s1 → s1.heap.get? f = some (PySem.W.kla_obj "<lambda>" (X.env.qual ++ "<lambda>") params (.Compare (.Name "here" q1) [.Eq] [.Name "goal" q2] q3) scope (cloFrom X.env.cells scope.names []) pm c' ctv) := fun {s1} I1 =>
    I1.base.keep f _ hf hfn hfr (fun z => nomatch (show f ∈ ([] : List Addr) from z))
  refine PySem.W.callWith_F ⟨_, _, _, _, of0 I1⟩ ?_
  show wpAny _ _ (spliced ((false, eval (.Name "here" p2) _) :: [])) _ _ s1
  refine Calls.spliced_cons (thn ((pe_var (pos := p2) (i := 6) rfl hv6).run pinsZ s1 σZ HZ (fun v H1 => v = .ref hrA ∧ H1 = HZ) I1 ⟨.ref hrA, hh, rfl, rfl⟩) fun u2 s2 ⟨v2, H2, I2, r2, z2⟩ => ?_)
  obtain ⟨ev2, eH2⟩ := z2
  subst ev2
  rw [eH2] at I2
  obtain rfl : u2 = Value.ref hrA := r2
  refine Calls.spliced_nil ⟨⟨_, _, _, _, of0 I2⟩, ?_⟩
  have of1 := of0 I2
  have un : Un (frs X.stack) [] H HZ s.heap s2.heap := I2.base
  obtain ⟨⟨oc, vs, t, hoc, hdc, hvc⟩, _, _⟩ := I2.hok c' _ hc
  have rc : codeAny (model X.prog X.w) (X.A.deeper (envOfC qg sg s.heap.objs.size g cdg)) (.call (.ref f) ⟨[.ref hrA], []⟩) (CR CX0 (envOfC qg sg s.heap.objs.size g cdg :: X.stack) X.prog X.w HZ s2 Q E0) s2 := by
    refine PySem.W.kla_callFunE hr.depth of1 rfl S.co S.gen rfl ⟨c', oc, vs, t, rfl, hoc, hdc, hvc⟩ ?_
    rw [hbind]
    have kl : scope.names.lookup ("here" : Str) = some .local := S.par _ (List.mem_singleton.mpr rfl)
    refine wpAny_pure (wpAny_newFunctionEnv (fun y hy => S.nocell y hy) (fun y hy => by rw [List.mem_singleton.mp hy]; exact kl) (fun h₁ hns hsb => ⟨I2.nolimit.fresh _ hsb, ?_⟩) S.kind)
    have kp : ∀ b o, s2.heap.get? b = some o → h₁.get? b = some o := fun b o e => hsb.extBut b o (Nat.ne_of_lt (Heap.lt_size e)) (Heap.get?_push_of_some _ e)
    have cm : ∀ {y c}, (cloFrom X.env.cells scope.names []).lookup y = some c → X.env.cells.lookup y = some c ∧ y = "goal" := fun {y c} e => by
      rcases cloFrom_mem (PySem.mem_of_lookup e) with hm | ⟨h1, h2⟩
      · cases hm
      · have ey : y = "goal" := hfree _ h1 rfl
        obtain ⟨c1, hc1⟩ := I.ok.has y (.inl (by rw [ey]; exact hcl))
        have hc1 : X.env.cells.lookup y = some c1 := hc1
        have e2 : c = c1 := by
          rw [h2, hc1] <;> rfl
        rw [e2]
        exact ⟨hc1, ey⟩
    have cellK : ∀ {c : Addr} {v : Option Value}, H c = none → s.heap.IsCell c v → s2.heap.IsCell c v ∧ HZ c = none := fun {c v} n ⟨o, ho, hd⟩ => by
      obtain ⟨sl, q⟩ := un.any ho n (by simp)
      exact ⟨⟨_, q, hd⟩, un.free c o ho n (by simp)⟩
    obtain ⟨m, hn, hl⟩ := I.loc
    obtain ⟨ug, rg, lg⟩ := hl ig "goal" (.ref ga) hNg hσ (.inr (.inl hcl))
    have C : CellsAt (cloFrom X.env.cells scope.names []) ["goal"] [some (.ref ga)] s2.heap HZ := by
      refine ⟨rfl, fun y c e => ?_, fun x y c e1 e2 => by rw [(cm e1).2, (cm e2).2], fun i y hi => ?_⟩
      · obtain ⟨v, z⟩ := I.cell y c (cm e).1
        obtain ⟨q1, q2⟩ := cellK (I.freeC y c (cm e).1) z
        exact ⟨q2, v, q1⟩
      · have hi0 : i = 0 := by
          have := (List.getElem?_eq_some_iff.mp hi).1
          simp only [List.length_singleton] at this
          omega
        subst hi0
        obtain rfl : ("goal" : Str) = y := Option.some.inj hi
        have hy : (("goal" : Str), NameKind.free) ∈ scope.names := PySem.mem_of_lookup (S.frk _ (List.mem_singleton.mpr rfl))
        obtain ⟨c2, h2⟩ := mem_lookup (cloFrom_has (cells := X.env.cells) (acc := []) hy)
        refine ⟨c2, h2, fun v hv => ?_⟩
        cases hv
        refine ⟨ug, rg, ?_⟩
        rcases lg with ⟨k, _⟩ | ⟨_, c3, hc3, z⟩
        · rw [show X.env.scope.names.lookup ("goal" : Str) = some .local from k] at hcl
          cases hcl
        · have := (cm h2).1
          rw [hc3] at this
          cases this
          exact (cellK (I.freeC _ _ hc3) z).1
    have J : Inv (ncx CX0 X.prog X.w X.K X.mg X.base ["here", "goal"] ⟨"<lambda>", X.env.qual ++ "<lambda>", params, [], scope, cloFrom X.env.cells scope.names [], c'⟩ f (X.A.deeper (envOfC qg sg s.heap.objs.size g cdg)) (envOfC qg sg s.heap.objs.size g cdg :: X.stack) s2 HZ E0) []
        (startF ["here", "goal"] [.ref hrA] [some (.ref ga)]) HZ { s2 with heap := h₁, toks := s2.toks + ([(("here" : Str), Value.ref hrA)] : List (Str × Value)).length } := inv_startN (us := [.ref hrA]) S hr.hd I2.env0 rfl (.cons rfl .nil) C hns kp
    have pe : PE (ncx CX0 X.prog X.w X.K X.mg X.base ["here", "goal"] ⟨"<lambda>", X.env.qual ++ "<lambda>", params, [], scope, cloFrom X.env.cells scope.names [], c'⟩ f (X.A.deeper (envOfC qg sg s.heap.objs.size g cdg)) (envOfC qg sg s.heap.objs.size g cdg :: X.stack) s2 HZ E0)
        (.Compare (.Name "here" q1) [.Eq] [.Name "goal" q2] q3) (tOp (rEqD X.K) (tVar 0) (tVar 1)) := by
      refine pe_cmpR (op_eqD ?_) (pe_var (i := 0) rfl (.inl kl)) (pe_var (i := 1) rfl (.inr (.inr (S.frk _ (List.mem_singleton.mpr rfl))))) (nomark _)
      have := hr.un
      show (X.A.deeper (envOfC qg sg s.heap.objs.size g cdg)).units + 3 + 64 < _
      omega
    refine PySem.W.kla_codeExpr (wpAny_mono (pe.run [] _ _ HZ Q J ?_) (fun v s' hq => ?_) fun e s' hq => hq)
    · refine ⟨_, rfl, _, rfl, tI xs, tI gs, dp_row hx, dp_row hg, tI_shaped _, tI_shaped _, ?_⟩
      rw [tI_eqv]
      exact ht
    · obtain ⟨w', H', J', rv, q⟩ := hq
      exact ⟨w', H', J'.os, J'.bare, J'.base, J'.hok, rv, q⟩
  refine wpAny_call (codeAny_mono rc fun r s' hq => ?_)
  cases r with
  | error e => exact (show False from hq).elim
  | ok fl =>
    cases fl with
    | ret u => exact I2.after hq
    | next => exact False.elim hq
    | brk => exact False.elim hq
    | cont => exact False.elim hq
end
end K56
end
section
set_option Elab.async false
set_option linter.all false
set_option maxRecDepth 100000
set_option maxHeartbeats 2000000
namespace K56
open PySem PySem.Spec PyProof.Rows L2 GxR
theorem tups_ne {H : Hp} {p : Addr} {u o : HO} (h : H p = some u) (n : ∀ xs, u ≠ .tup xs) : TupS H (upd H p o) := fun b ys e => by
  have nb : b ≠ p := fun z => by
    rw [z, h] at e
    exact n ys (Option.some.inj e)
  rw [upd_ne nb]
  exact e
/-- rows with their logs -/
abbrev RSAt (H : Hp) : List Addr → List (List Int × List Nat) → Prop := Paired fun p q => ∃ r l, H p = some (.tup [.ref r, .ref l]) ∧ Row H r q.1 ∧ LogAt H l q.2
theorem TupS.rs {H H' : Hp} (t : TupS H H') {ps : List Addr} {qs : List (List Int × List Nat)} (h : RSAt H ps qs) : RSAt H' ps qs := L2.Paired.mapP h fun _ _ ⟨r, l, h1, h2, h3⟩ => ⟨r, l, t _ _ h1, t _ _ h2, t _ _ h3⟩
theorem tkA_row {n : Nat} {arcs : Arcs} {xs : List Int} {j : Nat} (W : WebOk n arcs) (R : RowOk n xs) : RowOk n (tkA arcs xs j) := tkA_ok W R j
section
variable {P : Program} {w : World} {K : PySem.W.Frag} {mg : Str → Option Value} {base : Heap} {T4 : Tabs4}
theorem scFirstLog : FnScope nFl ["web", "begin", "is_goal"] (defScope sFirstLog) := ⟨rfl, rfl, rfl, by decide +kernel, rfl, by decide +kernel, by decide +kernel⟩
/-- between two rounds -/
def InvFL (H : Hp) (n : Nat) (arcs : Arcs) (gs : List Int) (a b f : Addr) : Nat → L2.St → Hp → Prop := fun m σ H' => ∃ (Lr Sd : Addr) (as : List Addr) (qs : List (List Int × List Nat)) (ks : List (List Int)) (v5 v6 v7 v8 v9 : Option V), m = 2 * (256 - ks.length) + (if qs = [] then 0 else 1) ∧
  σ = [some (.ref a), some (.ref b), some (.ref f), some (.ref Lr), some (.ref Sd), v5, v6, v7, v8, v9] ∧ Same H H' ∧ H Sd = none ∧ H' Lr = some (.lst (as.map V.ref)) ∧ RSAt H' as qs ∧ H' Sd = some (.dT (keysG kT ks)) ∧ FL n arcs gs ks qs ∧ ∀ q ∈ qs, q.2.length + 1 ≤ ks.length
theorem fl_body {g f c' a b ga fT : Addr} {cdg : Value} {fdT : FuncData} {q : Str} {A : Around} {outer : List Env} {s : Shared} {H : Hp} {E : XK} {Q : VK} {n : Nat} {arcs : Arcs} {gs : List Int} {lg : List Nat} (T : Txt mg)
    (act : ∀ p1 p2 p3, PE (cxOf CX0 P w K mg base nFl "first_log" (defScope sFirstLog) g cdg A outer s H E).nox (.Call (.Name "is_goal" p1) [.Name "here" p2] [] p3)
      (fun σZ HZ Q => σZ[2]? = some (some (.ref f)) ∧ HZ c' = some (LamX.CodeO c' q) ∧ ∃ hrA xs gs, σZ[6]? = some (some (.ref hrA)) ∧ Row HZ hrA xs ∧ Row HZ ga gs ∧ Q (.bl (decide (xs = gs))) HZ))
    (GT : FnOk P w K mg base CX0 1 fT fdT ["web", "some", "index"] spTaken) (gT : mg "taken" = some (.ref fT)) (kT' : PySem.W.keepIn K (.ref fT) = true) (bT : Binds K fdT ["web", "some", "index"] [])
    (hr : Room 1 (A.deeper (envOfC "first_log" (defScope sFirstLog) s.heap.objs.size g cdg))) (hw : Web H a n arcs) (W : WebOk n arcs) (hb : Row H b (ppl n)) (hg : Row H ga gs) (hc' : H c' = some (LamX.CodeO c' q)) (hlg : ∀ k ∈ lg, k < arcs.length) (hrun : runL arcs (ppl n) lg = gs)
    (k : ∀ H' l ls, Same H H' → LogAt H' l ls → (∀ k ∈ ls, k < arcs.length) → runL arcs (ppl n) ls = gs → Q (.ref l) H') :
    ∃ t, PSs (cxOf CX0 P w K mg base nFl "first_log" (defScope sFirstLog) g cdg A outer s H E).nox (defBody sFirstLog) t ∧ t { nx := fun _ H' => Q .non H', rt := Q } (L2.start nFl [.ref a, .ref b, .ref f]) H := by
  obtain ⟨c, ps, w1, w2, w3⟩ := id hw
  have hpl : ps.length = arcs.length := Paired.length w3
  have nd := scFirstLog.nd
  have wle := W.le
  have few := W.few
  refine ⟨_, pss_cons (ps_par (i := 3) (j := 4) rfl nd rfl rfl (by decide) rfl rfl
      (pa_cons (pe_lst (pa_cons (pe_tup (pa_cons (pv 1) (pa_cons (pe_tup pa_nil) pa_nil))) pa_nil)) (pa_cons (pe_dispT1 (hu_of hr) (pv 1) pe_bl) pa_nil)) (by rfl))
    (pss_cons (ps_while PassesOwn.never (pt_truth (pv 3) (by intro _; rfl))
      (pss_cons (ps_set (i := 5) nd rfl (Or.inl rfl) (pe_lst pa_nil))
      (pss_cons (ps_for PassesOwn.never rfl (pi_list (pv 3)) (pg_tup rfl (pgs_cons (pg_name (i := 6) nd rfl (Or.inl rfl)) (pgs_cons (pg_name (i := 7) nd rfl (Or.inl rfl)) pgs_nil)))
        (pss_cons (ps_if (pt_val (act _ _ _)) (pss_one (ps_ret (pv 7))) pss_nil)
        (pss_one (ps_for PassesOwn.never rfl (pi_range1 (by rfl) T.range (pa_cons (pe_len T (pe_at (pv 0) pe_int)) pa_nil)) (pg_name (i := 8) nd rfl (Or.inl rfl))
          (pss_cons (ps_set (i := 9) nd rfl (Or.inl rfl) (pe_call GT hr (by rfl) gT kT' bT .nil pass0 (pa_cons (pv 0) (pa_cons (pv 6) (pa_cons (pv 8) pa_nil)))))
          (pss_one (ps_if (pt_cmp (pc_dnotin (hu_of hr) (pv 9) (pv 4)) (by rfl))
            (pss_cons (ps_dput (hu_of hr) (pv 4) (pv 9) pe_bl rfl)
            (pss_one (ps_expr (pe_bm PySem.F.plainAttrs_list PySem.F.slot_list_append PySem.F.type_list_append mt_append (pv 5)
              (pa_cons (pe_tup (pa_cons (pv 9) (pa_cons (pe_tup (StX.pa_star (pv 7) (pa_cons (pv 8) pa_nil))) pa_nil))) pa_nil))))) pss_nil)))))))
      (pss_one (ps_set (i := 3) nd rfl (Or.inl rfl) (pv 5))))))
    (pss_one (ps_ret pe_non))), ?_⟩
  refine ⟨_, rfl, Nat.zero_le _, fun e0 ne0 => ⟨by show 2 ≤ sizeLine; decide, fun p1 np1 => ⟨by show 1 ≤ sizeLine; decide, fun L0 nL0 => ?_⟩⟩⟩
  have S1 := same_mk1 (o := .tup []) ne0
  have S2 := same_new (o := .tup [.ref b, .ref e0]) S1 np1
  have S3 := same_new (o := .lst [.ref p1]) S2 nL0
  intro D0 nD0
  have S4 := same_new (o := .dT []) S3 nD0
  have fD0 : H D0 = none := S3.free nD0
  have S5 := same_own (o := .dT (keysG kT [ppl n])) S4 fD0
  refine ⟨_, rfl, upd_same, b, kT (ppl n), rfl, row_kT (S4 _ _ hb), _, _, rfl, ?_⟩
  have t1 : TupS (upd H e0 (.tup [])) (upd (upd H e0 (.tup [])) p1 (.tup [.ref b, .ref e0])) := tups_new np1
  have t2 := (tups_new (o := .lst [.ref p1]) nL0).trans ((tups_new (o := .dT []) nD0).trans (tups_ne (o := .dT (keysG kT [ppl n])) (upd_same) (fun xs z => by cases z)))
  have hL5 : (upd (upd (upd (upd (upd H e0 (.tup [])) p1 (.tup [.ref b, .ref e0])) L0 (.lst [.ref p1])) D0 (.dT [])) D0 (.dT (keysG kT [ppl n]))) L0 = some (.lst (([p1] : List Addr).map V.ref)) := by
    have n1 : L0 ≠ D0 := ne_of_none upd_same nD0
    rw [upd_ne n1, upd_ne n1, upd_same]
    rfl
  refine ⟨InvFL H n arcs gs a b f, ⟨_, L0, D0, [p1], [(ppl n, [])], [ppl n], none, none, none, none, none, rfl, rfl, S5, fD0, hL5, .cons ⟨b, e0, t2 _ _ upd_same, S5 _ _ hb, t2 _ _ (t1 _ _ upd_same)⟩ .nil, upd_same, FL.start n arcs gs, fun q hq => by rw [List.mem_singleton.mp hq]; exact Nat.le_refl _⟩, ?_⟩
  rintro m σ H' ⟨Lr, Sd, as, qs, ks, v5, v6, v7, v8, v9, rfl, rfl, S, fS, hL, hqs, hS, B, blen⟩
  have hal : as.length = qs.length := Paired.length hqs
  by_cases he : qs = []
  · have ha0 : as = [] := by
      rw [he] at hal
      exact List.length_eq_zero_iff.mp hal
    refine ⟨_, rfl, false, .inl ⟨_, SqL.of hL, by rw [ha0]; rfl⟩, iteF ?_⟩
    rw [he] at B
    exact absurd hrun (B.stuck hlg)
  · have ha0 : as ≠ [] := fun z => he (by
      rw [z] at hal
      exact List.length_eq_zero_iff.mp hal.symm)
    refine ⟨_, rfl, true, .inl ⟨_, SqL.of hL, by rw [isE_map]; cases as with
      | nil => exact absurd rfl ha0
      | cons x r => rfl⟩, iteT ?_⟩
    refine ⟨fun σ' H2 => ∃ m', m' < 2 * (256 - ks.length) + (if qs = [] then 0 else 1) ∧ InvFL H n arcs gs a b f m' σ' H2, fun _ _ z => z, ?_⟩
    refine ⟨Nat.zero_le _, fun M0 nM0 => ?_⟩
    have T1 := same_new (o := .lst []) S nM0
    have fM : H M0 = none := S.free nM0
    have nML : M0 ≠ Lr := (ne_of_none hL nM0).symm
    have nMS : M0 ≠ Sd := (ne_of_none hS nM0).symm
    have nLS : Lr ≠ Sd := ne_of hL hS (fun z => by cases z)
    have kfew := B.few W
    refine ⟨_, rfl, Lr, rfl, ⟨_, SqL.of (by rw [upd_ne nML.symm]; exact hL)⟩, for_list (K := K) (a := Lr) (xs := as.map V.ref)
      (fun i σ H2 => ∃ (ks' : List (List Int)) (ams : List Addr) (mms : List (List Int × List Nat)) (v6 v7 v8 v9 : Option V), σ = [some (.ref a), some (.ref b), some (.ref f), some (.ref Lr), some (.ref Sd), some (.ref M0), v6, v7, v8, v9] ∧ Same H H2 ∧ H2 Lr = some (.lst (as.map V.ref)) ∧ RSAt H2 as qs ∧
        H2 Sd = some (.dT (keysG kT ks')) ∧ H2 M0 = some (.lst (ams.map V.ref)) ∧ RSAt H2 ams mms ∧ FLi n arcs gs ks qs ks' mms i 0 ∧ ∀ q ∈ mms, q.2.length + 1 ≤ ks'.length)
      ⟨ks, [], [], v6, v7, v8, v9, rfl, T1, by rw [upd_ne nML.symm]; exact hL, (tups_new nM0).rs hqs, by rw [upd_ne nMS.symm]; exact hS, upd_same, .nil, B.inner, fun q hq => (nomatch hq)⟩ (fun i σ H2 _ h => by
        obtain ⟨_, _, _, _, _, _, _, _, _, h1, _⟩ := h
        exact SqL.of h1) ?_ ?_⟩
    · rintro i x σ H2 hi ⟨ks', ams, mms, u6, u7, u8, u9, rfl, S2, hL2, hqs2, hS2, hM2, hams, bi, mlen⟩
      obtain ⟨pa, hpa, rfl⟩ := map_get hi
      obtain ⟨q0, hq0, r, l, hpp, hrow, hlog⟩ := Paired.get' hqs2 hpa
      have hq0m := List.mem_of_getElem? hq0
      obtain ⟨hq0k, hq0r, hq0l⟩ := B.log q0 hq0m
      have Rq : RowOk n q0.1 := B.ok _ hq0k
      refine ⟨pa, _, rfl, SqT.of hpp, rfl, _, _, rfl, _, _, rfl, rfl, ?_⟩
      refine ⟨rfl, S2 _ _ hc', r, q0.1, gs, rfl, hrow, S2 _ _ hg, decide (q0.1 = gs), rfl, ?_⟩
      by_cases hq : q0.1 = gs
      · rw [decide_eq_true hq]
        exact iteT ⟨_, rfl, k H2 l q0.2 S2 hlog hq0l (hq0r.trans hq)⟩
      · rw [decide_eq_false hq]
        refine iteF ?_
        have a1 := S2 _ _ w1
        have a2 := S2 _ _ w2
        have eN : (((ps.map V.ref).length : Nat) : Int).toNat = arcs.length := by rw [List.length_map, hpl]; rfl
        refine ⟨_, rfl, a, _, _, _, rfl, rfl, SqT.of a1, atI_nat (j := 1) rfl, c, _, rfl, .inr (SqT.of a2), _, rfl, by rw [List.length_map, hpl]; omega, by rw [List.length_map, hpl]; omega, ?_⟩
        rw [eN]
        refine for_range (lo := 0) (n := arcs.length) (fun j σ H4 => ∃ (kk : List (List Int)) (am4 : List Addr) (mm : List (List Int × List Nat)) (v8 v9 : Option V), σ = [some (.ref a), some (.ref b), some (.ref f), some (.ref Lr), some (.ref Sd), some (.ref M0), some (.ref r), some (.ref l), v8, v9] ∧ Same H H4 ∧ H4 Lr = some (.lst (as.map V.ref)) ∧ RSAt H4 as qs ∧
            Row H4 r q0.1 ∧ LogAt H4 l q0.2 ∧ H4 Sd = some (.dT (keysG kT kk)) ∧ H4 M0 = some (.lst (am4.map V.ref)) ∧ RSAt H4 am4 mm ∧ FLi n arcs gs ks qs kk mm i j ∧ ∀ q ∈ mm, q.2.length + 1 ≤ kk.length)
          ⟨ks', ams, mms, u8, u9, rfl, S2, hL2, hqs2, hrow, hlog, hS2, hM2, hams, bi, mlen⟩ ?_ ?_
        · rintro j σ H4 hj ⟨kk, am4, mm, w8, w9, rfl, S4', hLr4, hqs4, hrow4, hlog4, hSd4, hM4, ham4, bj, mlj⟩
          rw [show (0 : Int) + (j : Int) = (j : Int) from Int.zero_add _]
          refine ⟨_, rfl, _, rfl, _, rfl, a, r, n, arcs, q0.1, j, rfl, (same_tups S4').web hw, W, hrow4, Rq.len, hj, fun H5 p S5' np hp => ?_⟩
          have SS5 := S4'.trans S5'
          have hSd5 := S5' _ _ hSd4
          have hM5 := S5' _ _ hM4
          have hLr5 := S5' _ _ hLr4
          have tt := same_tups S5'
          have hkl := bj.few W
          have hmlen := bj.len
          have haml : am4.length = mm.length := Paired.length ham4
          have hlq := blen q0 hq0m
          refine ⟨_, rfl, _, rfl, Sd, _, rfl, DGet.t hSd5 (row_kT hp), !decide (tkA arcs q0.1 j ∈ kk), bl_notin, ?_⟩
          by_cases hin : tkA arcs q0.1 j ∈ kk
          · rw [decide_eq_true hin]
            exact iteF ⟨kk, am4, mm, _, _, rfl, SS5, hLr5, tt.rs hqs4, tt.row hrow4, tt _ _ hlog4, hSd5, hM5, tt.rs ham4, bj.keep hq0 hin, mlj⟩
          · rw [decide_eq_false hin]
            refine iteT ⟨_, rfl, _, rfl, Sd, _, rfl, DPut.t hSd5 (row_kT hp) (by rw [keysG_len]; exact small_lt (by omega)), ?_⟩
            rw [keysG_put kT_inj, show insK kk (tkA arcs q0.1 j) = kk ++ [tkA arcs q0.1 j] from if_neg hin]
            have t6 : TupS H5 (upd H5 Sd (.dT (keysG kT (kk ++ [tkA arcs q0.1 j])))) := tups_ne hSd5 (fun xs z => by cases z)
            have S6 : Same H (upd H5 Sd (.dT (keysG kT (kk ++ [tkA arcs q0.1 j])))) := same_own SS5 fS
            have hM6 : (upd H5 Sd (.dT (keysG kT (kk ++ [tkA arcs q0.1 j])))) M0 = some (.lst (am4.map V.ref)) := by
              rw [upd_ne nMS]
              exact hM5
            have hL6 : (upd H5 Sd (.dT (keysG kT (kk ++ [tkA arcs q0.1 j])))) Lr = some (.lst (as.map V.ref)) := by
              rw [upd_ne nLS]
              exact hLr5
            have hS6 : (upd H5 Sd (.dT (keysG kT (kk ++ [tkA arcs q0.1 j])))) Sd = some (.dT (keysG kT (kk ++ [tkA arcs q0.1 j]))) := upd_same
            have tA := tt.trans t6
            have hp6 : Row (upd H5 Sd (.dT (keysG kT (kk ++ [tkA arcs q0.1 j])))) p (tkA arcs q0.1 j) := t6 _ _ hp
            generalize upd H5 Sd (.dT (keysG kT (kk ++ [tkA arcs q0.1 j]))) = H6 at S6 hM6 hL6 hS6 tA hp6 ⊢
            refine ⟨_, rfl, .inl ⟨rfl, _, SqL.of hM6⟩, _, rfl, _, rfl, l, _, rfl, .inl (SqT.of (tA _ _ hlog4)), _, rfl, ?_, fun lp nlp => ⟨by show 2 ≤ sizeLine; decide, fun tp ntp => ?_⟩⟩
            · rw [List.length_append, List.length_map]
              exact small_line (by simp; omega)
            have S7 := same_new (o := .tup ((q0.2.map fun (k : Nat) => V.int (k : Int)) ++ [.int (j : Nat)])) S6 nlp
            have S8 := same_new (o := .tup [.ref p, .ref lp]) S7 ntp
            have t7 : TupS H6 (upd H6 lp (.tup ((q0.2.map fun (k : Nat) => V.int (k : Int)) ++ [.int (j : Nat)]))) := tups_new nlp
            have t8 := t7.trans (tups_new (o := .tup [.ref p, .ref lp]) ntp)
            have sm : Same H6 (upd (upd H6 lp (.tup ((q0.2.map fun (k : Nat) => V.int (k : Int)) ++ [.int (j : Nat)]))) tp (.tup [.ref p, .ref lp])) := same_new (same_mk1 nlp) ntp
            have hM8 := sm _ _ hM6
            have hlp : LogAt (upd (upd H6 lp (.tup ((q0.2.map fun (k : Nat) => V.int (k : Int)) ++ [.int (j : Nat)]))) tp (.tup [.ref p, .ref lp])) lp (q0.2 ++ [j]) := by
              refine tups_new ntp _ _ ?_
              rw [upd_same, List.map_append]
              rfl
            have htp : (upd (upd H6 lp (.tup ((q0.2.map fun (k : Nat) => V.int (k : Int)) ++ [.int (j : Nat)]))) tp (.tup [.ref p, .ref lp])) tp = some (.tup [.ref p, .ref lp]) := upd_same
            have hL8 := sm _ _ hL6
            have hS8 := sm _ _ hS6
            have tB := tA.trans t8
            have hp8 := t8 _ _ hp6
            generalize upd (upd H6 lp (.tup ((q0.2.map fun (k : Nat) => V.int (k : Int)) ++ [.int (j : Nat)]))) tp (.tup [.ref p, .ref lp]) = H8 at S8 hM8 hlp htp hL8 hS8 tB hp8 ⊢
            refine ⟨M0, _, _, rfl, rfl, hM8, by rw [List.length_map, haml]; exact small_lt (by omega), ?_⟩
            have t9 : TupS H8 (upd H8 M0 (.lst (am4.map V.ref ++ [.ref tp]))) := tups_lst hM8
            have tC := tB.trans t9
            refine ⟨kk ++ [tkA arcs q0.1 j], am4 ++ [tp], mm ++ [(tkA arcs q0.1 j, q0.2 ++ [j])], _, _, rfl, same_own S8 fM, by rw [upd_ne nML.symm]; exact hL8, tC.rs hqs4, tC.row hrow4, tC _ _ hlog4, by rw [upd_ne nMS.symm]; exact hS8, by rw [upd_same, List.map_append]; rfl,
              Paired.snoc (tC.rs ham4) ⟨p, lp, t9 _ _ htp, t9 _ _ hp8, t9 _ _ hlp⟩, bj.add W hq0 Rq hq0r hq0l hj hin, fun q hqm => ?_⟩
            rw [List.length_append]
            rcases List.mem_append.mp hqm with z | z
            · have := mlj q z
              omega
            · rw [List.mem_singleton.mp z]
              simp only [List.length_append, List.length_singleton]
              omega
        · rintro σ H4 ⟨kk, am4, mm, w8, w9, rfl, S4', hLr4, hqs4, hrow4, hlog4, hSd4, hM4, ham4, bj, mlj⟩
          exact ⟨kk, am4, mm, _, _, _, _, rfl, S4', hLr4, hqs4, hSd4, hM4, ham4, bj.turn hq0 hq, mlj⟩
    · rintro σ H2 ⟨ks', ams, mms, u6, u7, u8, u9, rfl, S2, hL2, hqs2, hS2, hM2, hams, bi, mlen⟩
      rw [List.length_map, hal] at bi
      have b2 := B.next bi
      have f2 := b2.few W
      have hlen := bi.len
      refine ⟨_, rfl, 2 * (256 - ks'.length) + (if mms = [] then 0 else 1), ?_, M0, Sd, ams, mms, ks', _, _, _, _, _, rfl, rfl, S2, fS, hM2, hams, hS2, b2, mlen⟩
      rw [if_neg he]
      by_cases hz : mms = []
      · rw [if_pos hz]
        rw [hz] at hlen
        simp only [List.length_nil] at hlen
        omega
      · rw [if_neg hz]
        have := List.length_pos_iff.mpr hz
        omega
end
end K56
end
section
set_option Elab.async false
set_option linter.all false
set_option maxRecDepth 100000
set_option maxHeartbeats 2000000
namespace K56
open PySem PySem.Spec PyProof.Rows L2 GxR NdefX
section
variable {X : Cx} {pins : List (Addr × Obj)} {σ : L2.St} {H : Hp} {s : Shared}
/-- a lambda is made; every object but its maker's table stays -/
theorem lam_make3 {c P : Addr} {params : Arguments} {body : Expr} {scope : Scope} {pos : Pos} {E : Value → Shared → Prop} {Q : Value → Shared → Prop} (I : Inv X pins σ H s) (TB : LamX.TabB X.base X.mg c P) (hcode : X.env.code = .ref c)
    (hT : LamX.TabS H P (X.env.qual ++ "<lambda>")) (hdef : defaultsOf params X.env = ([], [])) (hfree : ∀ y ∈ scope.names, y.2 = .free → ∃ c, X.env.cells.lookup y.1 = some c)
    (h : ∀ (f c' : Addr) (pm ctv : Value) (H1 : Hp) (s' : Shared), Inv X pins σ H1 s' → (∀ b o, b ≠ P → H b = some o → H1 b = some o) → LamX.TabS H1 P (X.env.qual ++ "<lambda>") →
      s'.heap.get? f = some (PySem.W.kla_obj "<lambda>" (X.env.qual ++ "<lambda>") params body scope (cloFrom X.env.cells scope.names []) pm c' ctv) → H1 f = none → f ∉ frs X.stack → H1 c' = some (LamX.CodeO c' (X.env.qual ++ "<lambda>")) → Q (.ref f) s') :
    wpAny (model X.prog X.w) X.A (eval (.Lambda params body scope pos) X.env) Q E s := by
  obtain ⟨ps, hP, ht, ha⟩ := hT
  have hPs : s.heap.get? P = some { cls := .none, data := .fields ps } := I.hok P _ hP
  have above : ∀ f, s.heap.objs.size ≤ f → f ∉ frs X.stack := fun f hf z => by
    rcases List.mem_cons.mp (I.stkSub _ z) with e | e
    · have h1 := I.lt
      rw [← e] at h1
      exact Nat.lt_irrefl _ (Nat.lt_of_lt_of_le h1 hf)
    · exact I.nofs hf e
  refine PySem.W.kla_eval hdef ?_
  cases hc : codeAmong pos ps.toList with
  | some cv =>
    obtain ⟨c', rfl, hco⟩ := ha pos cv hc
    refine PySem.W.kla_makeFunctionHit (mg := X.mg) (c := c) (P := P) (ps := ps) (closure_ok hfree) I.ok.glob (I.mod.glob.keeps I.bk) hcode (TB.code.keeps I.bk) hPs ht hc (TB.bm.keeps I.bk) fun ctv h' tk hx hsz => ?_
    exact h h'.objs.size c' _ ctv H _ (I.kept fun b o e => Heap.get?_push_of_some _ (hx b o e)) (fun b o _ e => e) ⟨ps, hP, ht, ha⟩ (Heap.get?_push_size _ rfl) (I.hok.fresh hsz) (above _ hsz) hco
  | none =>
    refine PySem.W.kla_makeFunction (mg := X.mg) (c := c) (P := P) (ps := ps) (closure_ok hfree) I.ok.glob (I.mod.glob.keeps I.bk) hcode (TB.code.keeps I.bk) hPs ht hc TB.gP (TB.bm.keeps I.bk) fun c' ctv h' tk hx hge hlt hrec htb => ?_
    obtain ⟨c2, oc, vs, t, e2, hoc, hd, hv⟩ := hrec
    cases e2
    have hsz : s.heap.objs.size ≤ h'.objs.size := by omega
    have nC : H c' = none := I.hok.fresh hge
    have keep : ∀ b o, b ≠ P → H b = some o → (upd (upd H P (.tbl (ps ++ #[rawInt pos.line, rawInt pos.col, .ref c']))) c' (LamX.CodeO c' (X.env.qual ++ "<lambda>"))) b = some o := fun b o hb e => by
      rw [upd_ne (ne_of_none e nC), upd_ne hb]
      exact e
    have J := LamX.inv_table (t' := tk) (more := #[rawInt pos.line, rawInt pos.col, .ref c']) (h' := h'.push (PySem.W.kla_obj "<lambda>" (X.env.qual ++ "<lambda>") params body scope (cloFrom X.env.cells scope.names []) ((X.mg "__name__").getD .none) c' ctv)) I hP
      (fun b o hb e => Heap.get?_push_of_some _ (hx b o hb e)) (Heap.get?_push_of_some _ htb) hge ⟨oc, vs, t, Heap.get?_push_of_some _ hoc, hd, hv⟩
    have eL : (ps ++ #[rawInt pos.line, rawInt pos.col, .ref c']).toList = ps.toList ++ [rawInt pos.line, rawInt pos.col, .ref c'] := by simp
    refine h h'.objs.size c' _ ctv _ _ J keep ⟨_, by rw [upd_ne (ne_of_none hP nC), upd_same], by rw [eL]; exact PySem.TriplesOk_snoc _ _ _ _ ht, fun p' cv hcv => ?_⟩ (Heap.get?_push_size _ rfl) ?_ (above _ hsz) upd_same
    · rw [eL] at hcv
      rcases LamX.among_app _ ht hcv with z | z
      · obtain ⟨c0, e1, e2⟩ := ha p' cv z
        refine ⟨c0, e1, keep _ _ (fun z2 => ?_) e2⟩
        rw [z2, hP] at e2
        exact LamX.codeO_ne ps (Option.some.inj e2).symm
      · exact ⟨c', z, upd_same⟩
    · have n2 : h'.objs.size ≠ P := Nat.ne_of_gt (Nat.lt_of_lt_of_le (Heap.lt_size hPs) hsz)
      rw [upd_ne (Nat.ne_of_gt hlt), upd_ne n2]
      exact I.hok.fresh hsz
end
theorem Sit.lam {T : Tabs4} {H0 H H1 : Hp} (O : T.Ok) (a : Sit T H0 H) (k : ∀ b o, b ≠ T.pLam → H b = some o → H1 b = some o) (t : LamX.TabS H1 T.pLam qLam) : Sit T H0 H1 := by
  have tg : ∀ R, R ≠ T.pLam → TabG H R → TabG H1 R := fun R n ⟨qs, q1, q2⟩ => ⟨qs, k _ _ n q1, q2⟩
  obtain ⟨ps, hp, _, _⟩ := a.tb.lam
  refine ⟨a.ext.trans fun b o e n => k b o (fun z => ?_) e, tg _ O.a a.tb.arc, tg _ O.l a.tb.log, tg _ O.g a.tb.goal, t⟩
  rw [z, hp] at e
  exact n ps (Option.some.inj e).symm
section
variable {P : Program} {w : World} {K : PySem.W.Frag} {mg : Str → Option Value} {base : Heap} {T4 : Tabs4}
/-! ### log_to -/
def spLogTo (T4 : Tabs4) : Sp := fun vs H Q _ => ∃ (a ga : Addr) (n : Nat) (arcs : Arcs) (gs : List Int) (lg : List Nat), vs = [.ref a, .ref ga] ∧ Web H a n arcs ∧ WebOk n arcs ∧ Row H ga gs ∧ (∀ k ∈ lg, k < arcs.length) ∧ runL arcs (ppl n) lg = gs ∧ Tb T4 H ∧
  ∀ H' l ls, Sit T4 H H' → LogAt H' l ls → (∀ k ∈ ls, k < arcs.length) → runL arcs (ppl n) ls = gs → Q (.ref l) H'
abbrev nLt : List Str := ["web", "goal"]
theorem scLogTo : FnScope nLt nLt (defScope sLogTo) := ⟨rfl, rfl, rfl, by decide +kernel, rfl, by decide +kernel, by decide +kernel⟩
def tLC (T4 : Tabs4) : TE := fun σ H Q => ∃ (a ga : Addr) (n : Nat) (arcs : Arcs) (gs : List Int) (lg : List Nat), σ[0]? = some (some (.ref a)) ∧ σ[1]? = some (some (.ref ga)) ∧ Web H a n arcs ∧ WebOk n arcs ∧ Row H ga gs ∧ (∀ k ∈ lg, k < arcs.length) ∧ runL arcs (ppl n) lg = gs ∧ Tb T4 H ∧
  ∀ H' l ls, Sit T4 H H' → LogAt H' l ls → (∀ k ∈ ls, k < arcs.length) → runL arcs (ppl n) ls = gs → Q (.ref l) H'
def lsB (scope : Scope) : Bool := nscB ["here", "goal"] ["here"] ["goal"] scope
theorem pe_firstlog {fL c0 fP fT fG : Addr} {fdP fdT fdG : FuncData} {A : Around} {outer : List Env} {s : Shared} {H : Hp} {E : XK} {params : Arguments} {scope : Scope} {p p1 p2 p3 p4 q1 q2 q3 lpos pos : Pos} (T : Txt mg) (O : T4.Ok)
    (F : Fun K "first_log" "first_log" sFirstLog fG fdG) (gG : mg "first_log" = some (.ref fG)) (bG : Binds K fdG ["web", "begin", "is_goal"] [])
    (GP : FnOk P w K mg base CX0 1 fP fdP ["web"] spPeople) (gP : mg "people" = some (.ref fP)) (kP : PySem.W.keepIn K (.ref fP) = true) (bP : Binds K fdP ["web"] [])
    (GT : FnOk P w K mg base CX0 1 fT fdT ["web", "some", "index"] spTaken) (gT : mg "taken" = some (.ref fT)) (kT' : PySem.W.keepIn K (.ref fT) = true) (bT : Binds K fdT ["web", "some", "index"] [])
    (TB : LamX.TabB base mg c0 T4.pLam) (hr : Room 2 (A.deeper (envOfC "log_to" (defScope sLogTo) s.heap.objs.size fL (.ref c0)))) (S : lsB scope = true)
    (hdef : ∀ env, defaultsOf params env = ([], []))
    (hbind : ∀ (q : Str) (cl : List (Str × Addr)) (pm cv ctv : Value) (u : Value), bindArgs (PySem.W.kla_fn "<lambda>" q params (.Compare (.Name "here" q1) [.Eq] [.Name "goal" q2] q3) scope cl pm cv ctv) ⟨[u], []⟩ = pure [(("here" : Str), u)]) :
    PE (cxOf CX0 P w K mg base nLt "log_to" (defScope sLogTo) fL (.ref c0) A outer s H E).nox
      (.Call (.Name "first_log" p) [.Name "web" p1, .Call (.Name "people" p2) [.Name "web" p3] [] p4, .Lambda params (.Compare (.Name "here" q1) [.Eq] [.Name "goal" q2] q3) scope lpos] [] pos) (tLC T4) := by
  refine ⟨fun pins s1 σ H1 Q I h => ?_⟩
  obtain ⟨a, ga, n, arcs, gs, lg, h0, h1, hw, W, hg, hlg, hrun, tb, k⟩ := h
  have SN : NScope ["here", "goal"] ["here"] ["goal"] scope := nscope_by S
  have wle := W.le
  refine wpAny_Call_Name_kw (ld_glob I (by rfl) gG ?_ (by decide))
  refine PySem.W.callWith_K (h₀ := base) I.ok.mod.kin F.kp ?_ (by rfl) (by rfl)
  show wpAny _ _ (spliced ((false, eval (.Name "web" p1) _) :: (false, eval (.Call (.Name "people" p2) [.Name "web" p3] [] p4) _) :: (false, eval (.Lambda params (.Compare (.Name "here" q1) [.Eq] [.Name "goal" q2] q3) scope lpos) _) :: [])) _ _ s1
  refine Calls.spliced_cons (thn ((pe_var (pos := p1) (i := 0) rfl (.inl rfl)).run pins s1 σ H1 (fun v H2 => v = .ref a ∧ H2 = H1) I ⟨.ref a, h0, rfl, rfl⟩) fun u1 s2 ⟨v1, H2, I2, r2, z2⟩ => ?_)
  obtain ⟨ev, eH⟩ := z2
  subst ev
  rw [eH] at I2
  obtain rfl : u1 = Value.ref a := r2
  have pep : PE (cxOf CX0 P w K mg base nLt "log_to" (defScope sLogTo) fL (.ref c0) A outer s H E).nox (.Call (.Name "people" p2) [.Name "web" p3] [] p4) (tCall spPeople [] E0 (tCons (tVar 0) tNil)) :=
    pe_call GP (hr.mono (by decide)) (by rfl) gP kP bP .nil pass0 (pa_cons (pe_var (i := 0) rfl (.inl rfl)) pa_nil)
  refine Calls.spliced_cons (thn (pep.run pins s2 σ H1 (fun v H2 => ∃ b, v = .ref b ∧ H1 b = none ∧ H2 = upd H1 b (.tup ((ppl n).map V.int))) I2
    ⟨_, h0, a, n, arcs, rfl, hw, by omega, fun p np => ⟨p, rfl, np, rfl⟩⟩) fun u2 s3 ⟨v2, H3, I3, r3, z3⟩ => ?_)
  obtain ⟨b, ev, nb, eH3⟩ := z3
  subst ev
  rw [eH3] at I3
  obtain rfl : u2 = Value.ref b := r3
  have S3 : Sit T4 H1 (upd H1 b (.tup ((ppl n).map V.int))) := (Sit.refl tb).new nb
  have hb3 : Row (upd H1 b (.tup ((ppl n).map V.int))) b (ppl n) := upd_same
  generalize upd H1 b (.tup ((ppl n).map V.int)) = H3 at I3 S3 hb3
  have eq : ((cxOf CX0 P w K mg base nLt "log_to" (defScope sLogTo) fL (.ref c0) A outer s H E).nox.env.qual ++ "<lambda>") = qLam := by
    show ("log_to" : Str) ++ ".<locals>." ++ "<lambda>" = qLam
    decide +kernel
  have hfr : ∀ y ∈ scope.names, y.2 = .free → y.1 = "goal" := fun y hy e => List.mem_singleton.mp (SN.free y hy e)
  have kg : (defScope sLogTo).names.lookup ("goal" : Str) = some .cell := by decide +kernel
  refine Calls.spliced_cons (lam_make3 I3 TB rfl (by rw [eq]; exact S3.tb.lam) (hdef _) (fun y hy e => I3.ok.has y.1 (.inl (by rw [hfr y hy e]; exact kg))) fun f c' pm ctv H4 s4 I4 kp4 T4' hf hfn hfrs hco => ?_)
  refine Calls.spliced_nil ⟨I4.kIn, ?_⟩
  rw [eq] at T4'
  have S4 : Sit T4 H1 H4 := S3.lam O kp4 T4'
  have S34 : Sit T4 H3 H4 := (Sit.refl S3.tb).lam O kp4 T4'
  obtain ⟨oc, od, kV, doc, pm2, an, cdv, ct, osl, rfl, lk, hcd⟩ := F.ex
  have rc : codeAny (model P w) (A.deeper (envOfC "log_to" (defScope sLogTo) s.heap.objs.size fL (.ref c0))) (.call (.ref fG) ⟨[.ref a, .ref b, .ref f], []⟩) (CR CX0 (envOfC "log_to" (defScope sLogTo) s.heap.objs.size fL (.ref c0) :: outer) P w H4 s4 Q E0) s4 := by
    refine LamX.run_ofS (N := nFl) (ps := ["web", "begin", "is_goal"]) (us := [.ref a, .ref b, .ref f]) (vs := [.ref a, .ref b, .ref f]) lk hcd scFirstLog hr I4.env0 (bG s4 [.ref a, .ref b, .ref f] I4.kIn rfl) (.cons rfl (.cons rfl (.cons rfl .nil))) rfl fun hr' => ?_
    obtain ⟨t, ht, hq⟩ := fl_body (E := E0) (Q := Q) (q := qLam) (f := f) (c' := c') (ga := ga) (lg := lg) T (fun p1 p2 p3 => by
        have := pe_act1 (E := E0) (p1 := p1) (p2 := p2) (p3 := p3) (g := fG) (cdg := cdv) (qg := "first_log") (sg := defScope sFirstLog) I4 (ig := 1) h1 rfl kg SN hfr hf hfn hfrs (hbind _ _ _ _ _) hr' (.inl (by decide +kernel)) (.inl (by decide +kernel))
        rw [eq] at this
        exact this) GT gT kT' bT hr' (S4.tups.web hw) W (S34.tups _ _ hb3) (S4.tups _ _ hg) (by rw [← eq]; exact hco) hlg hrun
      (fun H' l ls S5 hl hls hr5 => k H' l ls (S4.same S5) hl hls hr5)
    exact ⟨t, ht.nox, hq⟩
  refine wpAny_call (codeAny_mono rc fun r s' hq => ?_)
  cases r with
  | error e => exact (show False from hq).elim
  | ok fl =>
    cases fl with
    | ret u => exact I4.after hq
    | next => exact False.elim hq
    | brk => exact False.elim hq
    | cont => exact False.elim hq
theorem ok_logto {f c0 fN fS fP fT fG : Addr} {fd fdN fdS fdP fdT fdG : FuncData} (F : FunC K "log_to" "log_to" sLogTo f fd c0) (T : Txt mg) (O : T4.Ok)
    (GN : FnOk P w K mg base CX0 3 fN fdN ["web", "goal"] (spNeedGoal T4)) (gN : mg "need_goal" = some (.ref fN)) (kN : PySem.W.keepIn K (.ref fN) = true) (bN : Binds K fdN ["web", "goal"] [])
    (GS : FnOk P w K mg base CX0 1 fS fdS ["web"] spNeedSmall) (gS : mg "need_small" = some (.ref fS)) (kS : PySem.W.keepIn K (.ref fS) = true) (bS : Binds K fdS ["web"] [])
    (FG : Fun K "first_log" "first_log" sFirstLog fG fdG) (gG : mg "first_log" = some (.ref fG)) (bG : Binds K fdG ["web", "begin", "is_goal"] [])
    (GP : FnOk P w K mg base CX0 1 fP fdP ["web"] spPeople) (gP : mg "people" = some (.ref fP)) (kP : PySem.W.keepIn K (.ref fP) = true) (bP : Binds K fdP ["web"] [])
    (GT : FnOk P w K mg base CX0 1 fT fdT ["web", "some", "index"] spTaken) (gT : mg "taken" = some (.ref fT)) (kT' : PySem.W.keepIn K (.ref fT) = true) (bT : Binds K fdT ["web", "some", "index"] [])
    (TB : LamX.TabB base mg c0 T4.pLam) : FnOk P w K mg base CX0 4 f fd nLt (spLogTo T4) := by
  refine F.ok scLogTo (fun vs H Q E h => ?_) (fun A outer s H vs Q E hr h => ?_)
  · obtain ⟨a, ga, n, arcs, gs, lg, rfl, _⟩ := h
    rfl
  · obtain ⟨a, ga, n, arcs, gs, lg, rfl, hw, W, hg, hlg, hrun, tb, k⟩ := h
    have R : RowOk n gs := by
      rw [← hrun]
      exact runL_ok W lg (ppl_ok n)
    have wle := W.le
    refine ⟨_, pss_cons (ps_expr (pe_call GN hr (by rfl) gN kN bN .nil pass0 (pa_cons (pv 0) (pa_cons (pv 1) pa_nil))))
      (pss_cons (ps_expr (pe_call GS (hr.mono (by decide)) (by rfl) gS kS bS .nil pass0 (pa_cons (pv 0) pa_nil)))
      (pss_one (ps_ret (pe_firstlog (T4 := T4) T O FG gG bG GP gP kP bP GT gT kT' bT TB (hr.mono (by decide)) (by decide +kernel) (fun env => rfl) (fun q cl pm cv ctv u => rfl))))), ?_⟩
    refine ⟨_, rfl, _, rfl, a, ga, n, arcs, gs, rfl, hw, W, hg, R, tb, fun H1 S1 => ?_⟩
    refine ⟨_, rfl, a, n, arcs, rfl, S1.tups.web hw, wle, ?_⟩
    exact ⟨a, ga, n, arcs, gs, lg, rfl, rfl, S1.tups.web hw, W, S1.tups _ _ hg, hlg, hrun, S1.tb, fun H' l ls S2 hl hls hr2 => k H' l ls (S1.trans S2) hl hls hr2⟩
end
end K56
end
section
set_option Elab.async false
set_option linter.all false
set_option maxRecDepth 100000
set_option maxHeartbeats 2000000
namespace K56
open PySem PySem.Spec PyProof.Rows L2 GxR
/-! ### the law's row of draws -/
def KeepBut (R : Addr) (H H' : Hp) : Prop := ∀ b o, b ≠ R → H b = some o → H' b = some o
theorem KeepBut.refl (R : Addr) (H : Hp) : KeepBut R H H := fun _ _ _ e => e
theorem KeepBut.trans {R : Addr} {H H1 H2 : Hp} (a : KeepBut R H H1) (b : KeepBut R H1 H2) : KeepBut R H H2 := fun c o n e => b c o n (a c o n e)
theorem KeepBut.of {R : Addr} {H H1 : Hp} (s : Same H H1) : KeepBut R H H1 := fun b o _ e => s b o e
theorem KeepBut.upd {R : Addr} {H : Hp} {o : HO} : KeepBut R H (upd H R o) := fun b u n e => by
  rw [upd_ne n]
  exact e
theorem KeepBut.own {R p : Addr} {H H1 : Hp} {o : HO} (k : KeepBut R H H1) (h : H p = none) : KeepBut R H (L2.upd H1 p o) := fun b u n e => by
  rw [upd_ne (ne_of_none e h)]
  exact k b u n e
def rowL (sc : Addr) (i : Nat) (st g : Int) : HO := .lst [.ref sc, .int i, .int st, .int g]
def RowS (K : PySem.W.Frag) (H : Hp) (R sc : Addr) (ss : List Int) : Prop := ∃ (i : Nat) (st g : Int), H R = some (rowL sc i st g) ∧ SqL K H sc (ss.map V.int) ∧ 0 ≤ st ∧ st < 2147483647
theorem row_ne {H : Hp} {R sc : Addr} {i : Nat} {st g : Int} {ss : List Int} (h : H R = some (rowL sc i st g)) (h2 : H sc = some (.lst (ss.map V.int))) : sc ≠ R := fun z => by
  rw [z, h] at h2
  injection h2 with h2
  unfold rowL at h2
  injection h2 with h2
  cases ss with
  | nil => cases h2
  | cons x r =>
    rw [List.map_cons] at h2
    injection h2 with h2 _
    cases h2
theorem row_sc {K : PySem.W.Frag} {H H' : Hp} {R sc : Addr} {i : Nat} {st g : Int} {ss : List Int} (h : H R = some (rowL sc i st g)) (h2 : SqL K H sc (ss.map V.int)) (k : KeepBut R H H') : SqL K H' sc (ss.map V.int) := by
  rcases h2 with (h2 | ⟨o, h2⟩) | h2
  · exact .inl (.inl (k _ _ (row_ne h h2) h2))
  · refine .inl (.inr ⟨o, k _ _ (fun z => ?_) h2⟩)
    rw [z, h] at h2
    cases h2
  · exact .inr h2
theorem sql_same {K : PySem.W.Frag} {H H' : Hp} {a : Addr} {xs : List V} (h : SqL K H a xs) (s : Same H H') : SqL K H' a xs := by
  rcases h with (h2 | ⟨o, h2⟩) | h2
  · exact .inl (.inl (s _ _ h2))
  · exact .inl (.inr ⟨o, s _ _ h2⟩)
  · exact .inr h2
/-- through H, an object at D that stood not at H0 -/
theorem sql_own {K : PySem.W.Frag} {H0 H : Hp} {a D : Addr} {o : HO} {xs : List V} (h0 : SqL K H0 a xs) (n : H0 D = none) (h : SqL K H a xs) : SqL K (upd H D o) a xs := by
  rcases h0 with h0 | h0
  · have na : a ≠ D := by
      rcases h0 with h0 | ⟨_, h0⟩
      · exact ne_of_none h0 n
      · exact ne_of_none h0 n
    rcases h with (h2 | ⟨o, h2⟩) | h2
    · refine .inl (.inl ?_)
      rw [upd_ne na]
      exact h2
    · refine .inl (.inr ⟨o, ?_⟩)
      rw [upd_ne na]
      exact h2
    · exact .inr h2
  · exact .inr h0
theorem RowS.keep {K : PySem.W.Frag} {H H' : Hp} {R sc : Addr} {ss : List Int} (h : RowS K H R sc ss) (s : Same H H') : RowS K H' R sc ss := by
  obtain ⟨i, st, g, h1, h2, h3⟩ := h
  exact ⟨i, st, g, s _ _ h1, sql_same h2 s, h3⟩
section
variable {P : Program} {w : World} {K : PySem.W.Frag} {mg : Str → Option Value} {base : Heap} {T4 : Tabs4}
/-! ### _law_taken -/
def spLTaken (K : PySem.W.Frag) : Sp := fun vs H Q _ => ∃ (R sc : Addr) (ss : List Int) (many : Int), vs = [.ref R, .int many] ∧ RowS K H R sc ss ∧ 0 < many ∧ many < 1000 ∧ ∀ H' v, RowS K H' R sc ss → KeepBut R H H' → 0 ≤ v → v < many → Q (.int v) H'
abbrev nLTk : List Str := ["_law_row", "_law_many", "_law_found", "_law_cell"]
theorem scLTaken : FnScope nLTk ["_law_row", "_law_many"] (defScope sLTaken) := ⟨rfl, rfl, rfl, by decide +kernel, rfl, by decide +kernel, by decide +kernel⟩
theorem ok_ltaken {f : Addr} {fd : FuncData} (F : Fun K "_law_taken" "_law_taken" sLTaken f fd) (T : Txt mg) : FnOk P w K mg base CX0 1 f fd ["_law_row", "_law_many"] (spLTaken K) := by
  refine F.ok scLTaken (fun vs H Q E h => ?_) (fun cdv A outer s H vs Q E hr h => ?_)
  · obtain ⟨R, sc, ss, many, rfl, _⟩ := h
    rfl
  · obtain ⟨R, sc, ss, many, rfl, ⟨i, st, g, hR, hsc, st0, st1⟩, m0, m1, k⟩ := h
    have nd := scLTaken.nd
    refine ⟨_, pss_cons (ps_if (pt_cmpR op_gt (pe_ix ix_list (pv 0) pe_int (fun _ _ => rfl)) pe_int (by rfl))
        (pss_cons (ps_set (i := 2) nd rfl (Or.inl rfl) (pe_op op_mod (pe_callTy call_int1 (by rfl) T.int (by decide +kernel) (pa_cons (pe_ix ix_list (pv 0) pe_int (fun _ _ => rfl)) pa_nil)) (pv 1)))
        (pss_cons (ps_asg (pe_op op_fdiv (pe_ix ix_list (pv 0) pe_int (fun _ _ => rfl)) (pv 1)) (pg_sub (pv 0) pe_int set_list))
        (pss_one (ps_ret (pv 2))))) pss_nil)
      (pss_cons (ps_asg (pe_op op_add (pe_ix ix_list (pv 0) pe_int (fun _ _ => rfl)) pe_int) (pg_sub (pv 0) pe_int set_list))
      (pss_cons (ps_if (pt_cmpR op_gt (pe_ix ix_list (pv 0) pe_int (fun _ _ => rfl)) (pe_len T (pe_ix ix_list (pv 0) pe_int (fun _ _ => rfl))) (nomark _))
        (pss_cons (ps_asg (pe_op op_mod (pe_callTy call_int1 (by rfl) T.int (by decide +kernel) (pa_cons (pe_op op_add (pe_op op_mul (pe_ix ix_list (pv 0) pe_int (fun _ _ => rfl)) pe_int) pe_int) pa_nil)) pe_int) (pg_sub (pv 0) pe_int set_list))
        (pss_one (ps_ret (pe_op op_mod (pe_callTy call_int1 (by rfl) T.int (by decide +kernel) (pa_cons (pe_op op_fdiv (pe_ix ix_list (pv 0) pe_int (fun _ _ => rfl)) pe_int) pa_nil)) (pv 1))))) pss_nil)
      (pss_cons (ps_set (i := 3) nd rfl (Or.inl rfl) (pe_ix ix_list (pe_ix ix_list (pv 0) pe_int (fun _ _ => rfl)) (pe_op op_sub (pe_ix ix_list (pv 0) pe_int (fun _ _ => rfl)) pe_int) (fun _ _ => rfl)))
      (pss_cons (ps_asg (pe_op op_mod (pe_callTy call_int1 (by rfl) T.int (by decide +kernel) (pa_cons (pe_op op_add (pe_op op_add (pe_op op_mul (pe_ix ix_list (pv 0) pe_int (fun _ _ => rfl)) pe_int) (pv 3)) pe_int) pa_nil)) pe_int) (pg_sub (pv 0) pe_int set_list))
      (pss_cons (ps_if (pt_cmpR op_ge (pv 3) (pe_op op_pow pe_int pe_int) (nomark _))
        (pss_one (ps_asg (pe_op op_fdiv (pv 3) (pv 1)) (pg_sub (pv 0) pe_int set_list))) pss_nil)
      (pss_one (ps_ret (pe_op op_mod (pe_callTy call_int1 (by rfl) T.int (by decide +kernel) (pa_cons (pv 3) pa_nil)) (pv 1))))))))), ?_⟩
    have p31 : (0 : Int) < 2147483647 := by decide
    have fin : ∀ (i' : Nat) (st' g' x : Int), 0 ≤ st' → st' < 2147483647 → Q (.int (x % many)) (upd H R (rowL sc i' st' g')) := fun i' st' g' x a b =>
      k _ _ ⟨i', st', g', upd_same, row_sc hR hsc KeepBut.upd, a, b⟩ KeepBut.upd (Int.emod_nonneg _ (by omega)) (Int.emod_lt_of_pos _ m0)
    have mds : ∀ x : Int, 0 ≤ x % 2147483647 ∧ x % 2147483647 < 2147483647 := fun x => ⟨Int.emod_nonneg _ (by decide), Int.emod_lt_of_pos _ p31⟩
    refine ⟨_, rfl, R, _, _, _, rfl, rfl, SqL.of hR, atI_nat (j := 3) rfl, _, _, rfl, rfl, _, rfl, ?_⟩
    refine ite2 (fun c1 => ?_) (fun c1 => ?_)
    · refine ⟨_, rfl, R, _, _, _, rfl, rfl, SqL.of hR, atI_nat (j := 3) rfl, .inl ⟨_, rfl, _, rfl, _, _, rfl, rfl, m0, ?_⟩⟩
      refine ⟨_, rfl, R, _, _, _, rfl, rfl, SqL.of hR, atI_nat (j := 3) rfl, _, rfl, _, _, rfl, rfl, ⟨m0, by omega⟩, _, rfl, R, _, _, 3, rfl, rfl, hR, rfl, ?_⟩
      exact ⟨_, rfl, fin i st (g / many) g st0 st1⟩
    · refine ⟨_, rfl, R, _, _, _, rfl, rfl, SqL.of hR, atI_nat (j := 1) rfl, _, _, rfl, rfl, _, rfl, R, _, _, 1, rfl, rfl, hR, rfl, ?_⟩
      have e1 : (upd H R (.lst (([.ref sc, .int i, .int st, .int g] : List V).set 1 (.int ((i : Int) + 1))))) = upd H R (rowL sc (i + 1) st g) := rfl
      rw [e1]
      have hR1 : (upd H R (rowL sc (i + 1) st g)) R = some (rowL sc (i + 1) st g) := upd_same
      have hs1 : SqL K (upd H R (rowL sc (i + 1) st g)) sc (ss.map V.int) := row_sc hR hsc KeepBut.upd
      refine ⟨_, rfl, R, _, _, _, rfl, rfl, SqL.of hR1, atI_nat (j := 1) rfl, _, rfl, R, _, _, _, rfl, rfl, SqL.of hR1, atI_nat (j := 0) rfl, sc, _, rfl, .inl hs1, _, _, rfl, rfl, _, rfl, ?_⟩
      refine ite2 (fun c2 => ?_) (fun c2 => ?_)
      · refine ⟨_, rfl, R, _, _, _, rfl, rfl, SqL.of hR1, atI_nat (j := 2) rfl, _, _, rfl, rfl, .inr ⟨by decide, by decide⟩, _, _, rfl, rfl, .inl ⟨_, rfl, _, _, rfl, rfl, p31, _, rfl, R, _, _, 2, rfl, rfl, hR1, rfl, ?_⟩⟩
        rw [upd_upd]
        have hR2 : (upd H R (rowL sc (i + 1) ((st * 48271 + 11) % 2147483647) g)) R = some (rowL sc (i + 1) ((st * 48271 + 11) % 2147483647) g) := upd_same
        refine ⟨_, rfl, R, _, _, _, rfl, rfl, SqL.of hR2, atI_nat (j := 2) rfl, _, _, rfl, rfl, ⟨by decide, by decide⟩, .inl ⟨_, rfl, _, rfl, _, _, rfl, rfl, m0, ?_⟩⟩
        exact fin (i + 1) _ g _ (mds _).1 (mds _).2
      · have hi : i < ss.length := by
          have := of_decide_eq_false (Bool.eq_false_iff.mpr c2)
          rw [List.length_map] at this
          omega
        refine ⟨_, rfl, R, _, _, _, rfl, rfl, SqL.of hR1, atI_nat (j := 0) rfl, _, rfl, R, _, _, _, rfl, rfl, SqL.of hR1, atI_nat (j := 1) rfl, _, _, rfl, rfl, sc, _, _, _, rfl, rfl, hs1, at_of (j := i) (v := .int (ss.getD i 0)) (by omega) (by rw [List.getElem?_map, get_getD hi]; rfl), ?_⟩
        refine ⟨_, rfl, R, _, _, _, rfl, rfl, SqL.of hR1, atI_nat (j := 2) rfl, _, _, rfl, rfl, .inr ⟨by decide, by decide⟩, _, rfl, _, _, rfl, rfl, _, _, rfl, rfl, .inl ⟨_, rfl, _, _, rfl, rfl, p31, _, rfl, R, _, _, 2, rfl, rfl, hR1, rfl, ?_⟩⟩
        rw [upd_upd]
        have hR2 : (upd H R (rowL sc (i + 1) ((st * 48271 + ss.getD i 0 + 11) % 2147483647) g)) R = some (rowL sc (i + 1) ((st * 48271 + ss.getD i 0 + 11) % 2147483647) g) := upd_same
        refine ⟨_, rfl, _, _, rfl, rfl, ⟨by decide, by decide, by decide⟩, _, _, rfl, rfl, _, rfl, ?_⟩
        refine ite2 (fun c3 => ?_) (fun c3 => ?_)
        · refine ⟨_, rfl, _, rfl, _, _, rfl, rfl, ⟨m0, by omega⟩, _, rfl, R, _, _, 3, rfl, rfl, hR2, rfl, ?_⟩
          rw [upd_upd]
          refine ⟨_, rfl, .inl ⟨_, rfl, _, rfl, _, _, rfl, rfl, m0, ?_⟩⟩
          exact fin (i + 1) _ _ _ (mds _).1 (mds _).2
        · refine ⟨_, rfl, .inl ⟨_, rfl, _, rfl, _, _, rfl, rfl, m0, ?_⟩⟩
          exact fin (i + 1) _ g _ (mds _).1 (mds _).2
end
end K56
end
section
set_option Elab.async false
set_option linter.all false
set_option maxRecDepth 100000
set_option maxHeartbeats 2000000
namespace K56
open PySem PySem.Spec PyProof.Rows L2 GxR
theorem prs_eqv_nil : ∀ zs : Arcs, PyData.eqv (.tuple (zs.map prI)) (.tuple []) = decide (zs = [])
  | [] => by simp [PyData.eqv, PyData.eqvAll]
  | z :: zs => by simp [PyData.eqv, PyData.eqvAll]
theorem nilT_shaped : SeqAt.shaped (.tuple []) = true := prT_shaped []
theorem lst_ne {H : Hp} {R L sc : Addr} {i : Nat} {st g : Int} {as : List Addr} (h : H R = some (rowL sc i st g)) (h2 : H L = some (.lst (as.map V.ref))) : L ≠ R := fun z => by
  rw [z, h] at h2
  injection h2 with h2
  unfold rowL at h2
  injection h2 with h2
  cases as with
  | nil => cases h2
  | cons x r =>
    rw [List.map_cons] at h2
    injection h2 with _ h2
    cases r with
    | nil => cases h2
    | cons y r2 =>
      rw [List.map_cons] at h2
      injection h2 with h2 _
      cases h2
theorem KeepBut.tups {K : PySem.W.Frag} {R sc : Addr} {H H' : Hp} {ss : List Int} (k : KeepBut R H H') (h : RowS K H R sc ss) : TupS H H' := fun b xs e => by
  obtain ⟨i, st, g, h1, _⟩ := h
  exact k b _ (ne_of e h1 (fun z => by unfold rowL at z; cases z)) e
theorem RowS.some {K : PySem.W.Frag} {H : Hp} {R sc : Addr} {ss : List Int} (h : RowS K H R sc ss) {p : Addr} (n : H p = none) : p ≠ R := by
  obtain ⟨i, st, g, h1, _⟩ := h
  exact (ne_of_none h1 n).symm
section
variable {P : Program} {w : World} {K : PySem.W.Frag} {mg : Str → Option Value} {base : Heap} {T4 : Tabs4}
/-! ### _law_web -/
def spLWeb (K : PySem.W.Frag) : Sp := fun vs H Q _ => ∃ (R sc : Addr) (ss : List Int), vs = [.ref R, .int 4] ∧ RowS K H R sc ss ∧ ∀ H' p n arcs, RowS K H' R sc ss → KeepBut R H H' → Web H' p n arcs → WebOk n arcs → Q (.ref p) H'
abbrev nLWb : List Str := ["_law_row", "_law_most", "_law_size", "_law_arcs", "_law_turn", "_law_source", "_law_goal"]
theorem scLWeb : FnScope nLWb ["_law_row", "_law_most"] (defScope sLWeb) := ⟨rfl, rfl, rfl, by decide +kernel, rfl, by decide +kernel, by decide +kernel⟩
theorem goal_ne {n s t : Int} (h1 : 2 ≤ n) (h4 : n ≤ 4) (s1 : 1 ≤ s) (s2 : s ≤ n) (t0 : 0 ≤ t) (t1 : t < n - 1) : (1 ≤ 1 + (s + t) % n ∧ 1 + (s + t) % n ≤ n) ∧ s ≠ 1 + (s + t) % n := by
  rcases (show n = 2 ∨ n = 3 ∨ n = 4 by omega) with rfl | rfl | rfl <;> omega
theorem ok_lweb {f fT : Addr} {fd fdT : FuncData} (F : Fun K "_law_web" "_law_web" sLWeb f fd) (T : Txt mg) (GT : FnOk P w K mg base CX0 1 fT fdT ["_law_row", "_law_many"] (spLTaken K)) (gT : mg "_law_taken" = some (.ref fT)) (kT' : PySem.W.keepIn K (.ref fT) = true) (bT : Binds K fdT ["_law_row", "_law_many"] []) :
    FnOk P w K mg base CX0 2 f fd ["_law_row", "_law_most"] (spLWeb K) := by
  refine F.ok scLWeb (fun vs H Q E h => ?_) (fun cdv A outer s H vs Q E hr h => ?_)
  · obtain ⟨R, sc, ss, rfl, _⟩ := h
    rfl
  · obtain ⟨R, sc, ss, rfl, hR, k⟩ := h
    have nd := scLWeb.nd
    refine ⟨_, pss_cons (ps_par (i := 2) (j := 3) rfl nd rfl rfl (by decide) rfl rfl
        (pa_cons (pe_op op_add pe_int (pe_call GT hr (by rfl) gT kT' bT .nil pass0 (pa_cons (pv 0) (pa_cons (pv 1) pa_nil)))) (pa_cons (pe_lst pa_nil) pa_nil)) (by rfl))
      (pss_cons (ps_for PassesOwn.never rfl (pi_range1 (by rfl) T.range (pa_cons (pe_call GT hr (by rfl) gT kT' bT .nil pass0 (pa_cons (pv 0) (pa_cons pe_int pa_nil))) pa_nil)) (pg_name (i := 4) nd rfl (Or.inl rfl))
        (pss_one (ps_if (pt_cmpR op_gt (pv 2) pe_int (by rfl))
          (pss_cons (ps_set (i := 5) nd rfl (Or.inl rfl) (pe_op op_add pe_int (pe_call GT hr (by rfl) gT kT' bT .nil pass0 (pa_cons (pv 0) (pa_cons (pv 2) pa_nil)))))
          (pss_cons (ps_set (i := 6) nd rfl (Or.inl rfl) (pe_op op_add pe_int (pe_op op_mod (pe_op op_add (pv 5) (pe_call GT hr (by rfl) gT kT' bT .nil pass0 (pa_cons (pv 0) (pa_cons (pe_op op_sub (pv 2) pe_int) pa_nil)))) (pv 2))))
          (pss_one (ps_set (i := 3) nd rfl (Or.inl rfl) (pe_op op_cat (pv 3) (pe_op op_rep (pe_lst (pa_cons (pe_tup (pa_cons (pv 5) (pa_cons (pv 6) pa_nil))) pa_nil))
            (pe_callTy call_int1 (by rfl) T.int (by decide +kernel) (pa_cons (pe_cmpR (op_notInD (hu65 hr)) (pe_tup (pa_cons (pv 5) (pa_cons (pv 6) pa_nil))) (pv 3) (by rfl)) pa_nil)))))))) pss_nil)))
      (pss_one (ps_ret (pe_tup (pa_cons (pv 2) (pa_cons (pe_callTy call_tuple_of (by rfl) T.tuple (by decide +kernel) (pa_cons (pv 3) pa_nil)) pa_nil)))))), ?_⟩
    refine ⟨_, rfl, _, rfl, R, sc, ss, 4, rfl, hR, by decide, by decide, fun H1 v hR1 k1 v0 v4 => ?_⟩
    refine ⟨_, _, rfl, rfl, Nat.zero_le _, fun L0 nL0 => ⟨_, _, rfl, ?_⟩⟩
    obtain ⟨n, en⟩ : ∃ n : Nat, (1 + v : Int) = n := ⟨(1 + v).toNat, by omega⟩
    dsimp only
    rw [en]
    have n1 : 1 ≤ n := by omega
    have n4 : n ≤ 4 := by omega
    have fL0 : H L0 = none := by
      cases e : H L0 with
      | none => rfl
      | some o =>
        have := k1 L0 o (hR1.some nL0) e
        rw [nL0] at this
        cases this
    have hR2 := hR1.keep (same_mk1 (o := .lst []) nL0)
    refine ⟨_, rfl, R, sc, ss, 11, rfl, hR2, by decide, by decide, fun H2 m hR3 k2 m0 m11 => ⟨m, rfl, by omega, by omega, ?_⟩⟩
    have kk : KeepBut R H H2 := (k1.trans (KeepBut.of (same_mk1 nL0))).trans k2
    have hL2 : H2 L0 = some (.lst (([] : List Addr).map V.ref)) := k2 _ _ (hR1.some nL0) upd_same
    refine for_range (lo := 0) (n := m.toNat) (fun j σ H3 => ∃ (L : Addr) (as : List Addr) (arcs : Arcs) (v4 v5 v6 : Option V), σ = [some (.ref R), some (.int 4), some (.int n), some (.ref L), v4, v5, v6] ∧ RowS K H3 R sc ss ∧ KeepBut R H H3 ∧ L ≠ R ∧ H3 L = some (.lst (as.map V.ref)) ∧ PairsAt H3 as arcs ∧
        arcs.length ≤ j ∧ arcs.Nodup ∧ ∀ p ∈ arcs, (1 ≤ p.1 ∧ p.1 ≤ (n : Int)) ∧ (1 ≤ p.2 ∧ p.2 ≤ (n : Int)) ∧ p.1 ≠ p.2)
      ⟨L0, [], [], none, none, none, rfl, hR3, kk, hR1.some nL0, hL2, .nil, Nat.le_refl _, List.nodup_nil, fun p hp => (nomatch hp)⟩ ?_ ?_
    · rintro j σ H3 hj ⟨L, as, arcs, v4, v5, v6, rfl, hR3, k3, nLR, hL, hps, hl, hnd, hok⟩
      refine ⟨_, rfl, _, _, rfl, rfl, _, rfl, ?_⟩
      refine ite2 (fun c1 => ?_) (fun c1 => ?_)
      · have hn2 : (2 : Int) ≤ n := by
          have := of_decide_eq_true c1
          omega
        refine ⟨_, rfl, _, rfl, R, sc, ss, _, rfl, hR3, by omega, by omega, fun H4 s0 hR4 k4 s00 s0n => ⟨_, _, rfl, rfl, ?_⟩⟩
        refine ⟨_, rfl, _, rfl, _, rfl, _, _, rfl, rfl, R, sc, ss, _, rfl, hR4, by omega, by omega, fun H5 t0 hR5 k5 t00 t0n => ⟨_, _, rfl, rfl, _, rfl, _, _, rfl, rfl, by omega, _, _, rfl, rfl, ?_⟩⟩
        have k35 := k4.trans k5
        have tt := k35.tups hR3
        have hL5 := k35 _ _ nLR hL
        have hps5 := tt.pairs hps
        have hal : as.length = arcs.length := Paired.length hps
        obtain ⟨g1, g2⟩ := goal_ne (n := (n : Int)) (s := 1 + s0) (t := t0) hn2 (by omega) (by omega) (by omega) t00 t0n
        dsimp only
        generalize hgd : (1 + (1 + s0 + t0) % (n : Int) : Int) = gI at g1 g2 ⊢
        generalize hsd : (1 + s0 : Int) = sI at g1 g2 ⊢
        refine ⟨_, rfl, _, rfl, _, rfl, by show 2 ≤ sizeLine; decide, fun p1 np1 => ⟨by show 1 ≤ sizeLine; decide, fun l1 nl1 => ?_⟩⟩
        have S1 : Same H5 (upd H5 p1 (.tup [.int sI, .int gI])) := same_mk1 np1
        have S2 := same_new (o := .lst [.ref p1]) S1 nl1
        refine ⟨_, rfl, _, rfl, by show 2 ≤ sizeLine; decide, fun p2 np2 => ?_⟩
        have S3 := same_new (o := .tup [.int sI, .int gI]) S2 np2
        refine ⟨_, rfl, prI (sI, gI), arcs.map prI, dp_pair (q := (sI, gI)) upd_same, .lst (SqL.of (S3 _ _ hL5)) (dp_pairs ((same_tups S3).pairs hps5)), prI_shaped _, prL_shaped _, .inr ⟨_, rfl, ?_⟩⟩
        rw [prI_any]
        have hp1 : (upd (upd (upd H5 p1 (.tup [.int sI, .int gI])) l1 (.lst [.ref p1])) p2 (.tup [.int sI, .int gI])) p1 = some (.tup [.int sI, .int gI]) := by
          have e1 : (upd (upd H5 p1 (.tup [.int sI, .int gI])) l1 (.lst [.ref p1])) p1 = some (.tup [.int sI, .int gI]) := by rw [upd_ne (ne_of_none upd_same nl1), upd_same]
          rw [upd_ne (ne_of_none e1 np2)]
          exact e1
        have hl1 : (upd (upd (upd H5 p1 (.tup [.int sI, .int gI])) l1 (.lst [.ref p1])) p2 (.tup [.int sI, .int gI])) l1 = some (.lst [.ref p1]) := by rw [upd_ne (ne_of_none upd_same np2), upd_same]
        have hL6 := S3 _ _ hL5
        have hps6 := (same_tups S3).pairs hps5
        have hR6 := hR5.keep S3
        have k6 := (k3.trans k35).trans (KeepBut.of S3)
        generalize upd (upd (upd H5 p1 (.tup [.int sI, .int gI])) l1 (.lst [.ref p1])) p2 (.tup [.int sI, .int gI]) = H6 at hp1 hl1 hL6 hps6 hR6 k6 ⊢
        by_cases hin : (sI, gI) ∈ arcs
        · rw [decide_eq_true hin]
          refine ⟨l1, _, _, rfl, rfl, hl1, by decide, by decide, small_line (by simp), fun r1 nr1 => ?_⟩
          refine ⟨L, r1, _, _, rfl, rfl, by rw [upd_ne (ne_of_none hL6 nr1)]; exact hL6, upd_same, ?_, fun r2 nr2 => ?_⟩
          · rw [List.length_map, hal]
            exact small_line (by simp; omega)
          have S7 := same_new (o := .lst (as.map V.ref ++ ([] : List V))) (same_mk1 (o := .lst ([] : List V)) nr1) nr2
          refine ⟨r2, as, arcs, _, _, _, rfl, hR6.keep S7, k6.trans (KeepBut.of S7), (hR6.keep (same_mk1 nr1)).some nr2, ?_, (same_tups S7).pairs hps6, by omega, hnd, hok⟩
          show upd _ r2 (.lst (as.map V.ref ++ ([] : List V))) r2 = _
          rw [upd_same, List.append_nil]
        · rw [decide_eq_false hin]
          refine ⟨l1, _, _, rfl, rfl, hl1, by decide, by decide, small_line (by simp), fun r1 nr1 => ?_⟩
          refine ⟨L, r1, _, _, rfl, rfl, by rw [upd_ne (ne_of_none hL6 nr1)]; exact hL6, upd_same, ?_, fun r2 nr2 => ?_⟩
          · rw [List.length_map, hal]
            exact small_line (by simp; omega)
          have S7 := same_new (o := .lst (as.map V.ref ++ [.ref p1])) (same_mk1 (o := .lst [.ref p1]) nr1) nr2
          refine ⟨r2, as ++ [p1], arcs ++ [(sI, gI)], _, _, _, rfl, hR6.keep S7, k6.trans (KeepBut.of S7), (hR6.keep (same_mk1 nr1)).some nr2, ?_, Paired.snoc ((same_tups S7).pairs hps6) (S7 _ _ hp1), by rw [List.length_append]; simp; omega, ?_, fun p hp => ?_⟩
          · show upd _ r2 (.lst (as.map V.ref ++ [.ref p1])) r2 = _
            rw [upd_same, List.map_append]
            rfl
          · refine List.nodup_append.mpr ⟨hnd, by simp, fun x hx y hy z => ?_⟩
            rw [List.mem_singleton.mp hy] at z
            exact hin (z ▸ hx)
          · rcases List.mem_append.mp hp with hp | hp
            · exact hok p hp
            · rw [List.mem_singleton.mp hp]
              exact ⟨⟨by show 1 ≤ sI; omega, by show sI ≤ (n : Int); omega⟩, g1, g2⟩
      · exact ⟨L, as, arcs, _, _, _, rfl, hR3, k3, nLR, hL, hps, by omega, hnd, hok⟩
    · rintro σ H3 ⟨L, as, arcs, v4, v5, v6, rfl, hR3, k3, nLR, hL, hps, hl, hnd, hok⟩
      refine ⟨_, rfl, _, rfl, L, _, rfl, .inl ⟨SqL.of hL, fun l nl => ⟨by show 2 ≤ sizeLine; decide, fun p np => ?_⟩⟩⟩
      have S7 := same_new (o := .tup [.int n, .ref l]) (same_mk1 (o := .tup (as.map V.ref)) nl) np
      refine k _ p n arcs (hR3.keep S7) (k3.trans (KeepBut.of S7)) ⟨l, as, upd_same, ?_, (same_tups S7).pairs hps⟩ ⟨n1, n4, by omega, hnd, hok⟩
      rw [upd_ne (ne_of_none upd_same np), upd_same]
/-! ### _law_log -/
def spLLog (K : PySem.W.Frag) : Sp := fun vs H Q _ => ∃ (R a sc : Addr) (n : Nat) (arcs : Arcs) (ss : List Int), vs = [.ref R, .ref a, .int 8] ∧ RowS K H R sc ss ∧ Web H a n arcs ∧ arcs.length ≤ 12 ∧ ∀ H' l ls, RowS K H' R sc ss → KeepBut R H H' → LogAt H' l ls → (∀ k ∈ ls, k < arcs.length) → ls.length ≤ 8 → Q (.ref l) H'
abbrev nLLg : List Str := ["_law_row", "_law_web_here", "_law_most", "_law_k"]
theorem scLLog : FnScope nLLg ["_law_row", "_law_web_here", "_law_most"] (defScope sLLog) := ⟨rfl, rfl, rfl, by decide +kernel, rfl, by decide +kernel, by decide +kernel⟩
theorem ok_llog {f fT : Addr} {fd fdT : FuncData} (F : Fun K "_law_log" "_law_log" sLLog f fd) (T : Txt mg) (GT : FnOk P w K mg base CX0 1 fT fdT ["_law_row", "_law_many"] (spLTaken K)) (gT : mg "_law_taken" = some (.ref fT)) (kT' : PySem.W.keepIn K (.ref fT) = true) (bT : Binds K fdT ["_law_row", "_law_many"] []) :
    FnOk P w K mg base CX0 2 f fd ["_law_row", "_law_web_here", "_law_most"] (spLLog K) := by
  refine F.ok scLLog (fun vs H Q E h => ?_) (fun cdv A outer s H vs Q E hr h => ?_)
  · obtain ⟨R, a, sc, n, arcs, ss, rfl, _⟩ := h
    rfl
  · obtain ⟨R, a, sc, n, arcs, ss, rfl, hR, hw, few, k⟩ := h
    obtain ⟨c, ps, w1, w2, w3⟩ := id hw
    have hpl : ps.length = arcs.length := Paired.length w3
    have nd := scLLog.nd
    have hu : ∀ {A : Around}, Room 1 A → A.units + 64 < cLine := fun hr => by have := hr.un; omega
    refine ⟨_, pss_cons (ps_if (pt_cmpR (op_eqD (hu hr)) (pe_at (pv 1) pe_int) (pe_tup pa_nil) (by rfl)) (pss_one (ps_ret (pe_tup pa_nil))) pss_nil)
      (pss_one (ps_ret (pe_callTy call_tuple_of (by rfl) T.tuple (by decide +kernel) (pa_cons (pe_lc (own := [("_law_k", 3)]) (g := gName 3) (tt := tYes)
          (te := tCall (spLTaken K) [] E0 (tCons (tVar 0) (tCons (tCB (fun xs H Q => ∃ p ys, xs = [V.ref p] ∧ (SqL K H p ys ∨ SqT K H p ys) ∧ Q (.int ys.length) H) (tCons (tOp (rIxT K) (tVar 1) (tC (.int 1))) tNil)) tNil))) rfl nd
        (pi_range1 (by rfl) T.range (pa_cons (pe_call GT hr (by rfl) gT kT' bT .nil pass0 (pa_cons (pv 0) (pa_cons (pv 2) pa_nil))) pa_nil)) (blkOk_by (own := [("_law_k", 3)]) (N := nLLg) (sc := defScope sLLog) (by decide +kernel))
        (fun _ _ _ _ _ => pg_name (i := 3) nd rfl (Or.inl rfl) (Or.inr rfl)) (fun _ _ _ _ _ => pts_nil)
        (fun _ _ _ _ _ => pe_call GT hr (by rfl) gT kT' bT .nil pass0 (pa_cons (pv 0) (pa_cons (pe_len T (pe_at (pv 1) pe_int)) pa_nil)))) pa_nil)))), ?_⟩
    refine ⟨_, rfl, a, _, _, _, rfl, rfl, SqT.of w1, atI_nat (j := 1) rfl, Nat.zero_le _, fun e0 ne0 => ?_⟩
    have S1 : Same H (upd H e0 (.tup [])) := same_mk1 ne0
    refine ⟨_, _, .tup (SqT.of (S1 _ _ w2)) (dp_pairs ((same_tups S1).pairs w3)), .tup (SqT.of upd_same) .nil, prT_shaped _, nilT_shaped, _, rfl, ?_⟩
    rw [prs_eqv_nil]
    by_cases he : arcs = []
    · rw [decide_eq_true he]
      refine iteT ⟨Nat.zero_le _, fun l nl => ?_⟩
      have S2 := same_new (o := .tup []) S1 nl
      exact k _ l [] (hR.keep S2) (KeepBut.of S2) upd_same (fun k hk => (nomatch hk)) (Nat.zero_le _)
    · rw [decide_eq_false he]
      have hlen : 0 < arcs.length := List.length_pos_iff.mpr he
      refine iteF ?_
      have hR1 := hR.keep S1
      refine ⟨_, rfl, _, rfl, R, sc, ss, 8, rfl, hR1, by decide, by decide, fun H2 m hR2 k2 m0 m8 => ⟨m, rfl, by omega, by omega, fun D nD => ?_⟩⟩
      have k02 : KeepBut R H H2 := (KeepBut.of S1).trans k2
      refine lc_range (lo := 0) (n := m.toNat) (fun i H3 => ∃ ls : List Nat, H3 D = some (.lst (ls.map fun (k : Nat) => V.int (k : Int))) ∧ RowS K H3 R sc ss ∧ KeepBut R H2 H3 ∧ ls.length = i ∧ ∀ k ∈ ls, k < arcs.length)
        ⟨[], upd_same, hR2.keep (same_mk1 nD), KeepBut.of (same_mk1 nD), rfl, fun k hk => (nomatch hk)⟩ ?_ ?_
      · rintro i H3 hi ⟨ls, hD, hR3, k3, hll, hlk⟩
        refine ⟨rfl, ?_⟩
        dsimp only [tYes]
        rw [if_pos rfl]
        have k03 := k02.trans k3
        have tt := k03.tups hR
        refine ⟨_, rfl, _, rfl, a, _, _, _, rfl, rfl, SqT.of (tt _ _ w1), atI_nat (j := 1) rfl, c, _, rfl, .inr (SqT.of (tt _ _ w2)), R, sc, ss, _, rfl, hR3, ?_, ?_, fun H4 v hR4 k4 v0 v1 => ?_⟩
        · rw [List.length_map, hpl]
          omega
        · rw [List.length_map, hpl]
          omega
        rw [List.length_map, hpl] at v1
        obtain ⟨vn, rfl⟩ : ∃ vn : Nat, v = (vn : Int) := ⟨v.toNat, by omega⟩
        have hD4 := k4 _ _ (hR2.some nD) hD
        refine ⟨_, hD4, by rw [List.length_map]; exact small_lt (by omega), ls ++ [vn], by rw [upd_same, List.map_append]; rfl, ?_, ?_, by rw [List.length_append, hll]; rfl, fun k hk => ?_⟩
        · obtain ⟨i2, st2, g2, q1, q2, q3⟩ := hR2
          obtain ⟨i', st, g, h1, h2, h3⟩ := hR4
          refine ⟨i', st, g, ?_, sql_own q2 nD h2, h3⟩
          rw [upd_ne (ne_of_none q1 nD)]
          exact h1
        · exact (k3.trans k4).own nD
        · rcases List.mem_append.mp hk with hk | hk
          · exact hlk k hk
          · rw [List.mem_singleton.mp hk]
            omega
      · rintro H3 ⟨ls, hD, hR3, k3, hll, hlk⟩
        refine ⟨D, _, rfl, .inl ⟨SqL.of hD, fun l nl => ?_⟩⟩
        exact k _ l ls (hR3.keep (same_mk1 nl)) ((k02.trans k3).trans (KeepBut.of (same_mk1 nl))) upd_same hlk (by omega)
/-! ### _law_people -/
def spLPeople : Sp := fun vs H Q _ => ∃ (a : Addr) (n : Nat) (arcs : Arcs), vs = [.ref a] ∧ Web H a n arcs ∧ n ≤ 1000 ∧ ∀ H' p, Same H H' → Row H' p (ppl n) → Q (.ref p) H'
abbrev nLPp : List Str := ["_law_web_here", "_law_k"]
theorem scLPeople : FnScope nLPp ["_law_web_here"] (defScope sLPeople) := ⟨rfl, rfl, rfl, by decide +kernel, rfl, by decide +kernel, by decide +kernel⟩
theorem ok_lpeople {f : Addr} {fd : FuncData} (F : Fun K "_law_people" "_law_people" sLPeople f fd) (T : Txt mg) : FnOk P w K mg base CX0 1 f fd ["_law_web_here"] spLPeople := by
  refine F.ok scLPeople (fun vs H Q E h => ?_) (fun cdv A outer s H vs Q E hr h => ?_)
  · obtain ⟨a, n, arcs, rfl, _⟩ := h
    rfl
  · obtain ⟨a, n, arcs, rfl, hw, hn, k⟩ := h
    obtain ⟨c, ps, w1, w2, w3⟩ := id hw
    have nd := scLPeople.nd
    refine ⟨_, pss_one (ps_ret (pe_callTy call_tuple_of (by rfl) T.tuple (by decide +kernel) (pa_cons (pe_lc (own := [("_law_k", 1)]) (g := gName 1) (tt := tYes) (te := tOp (rI0 fun i j => .int (i + j)) (tVar 1) (tC (.int 1))) rfl nd
        (pi_range1 (by rfl) T.range (pa_cons (pe_at (pv 0) pe_int) pa_nil)) (blkOk_by (own := [("_law_k", 1)]) (N := nLPp) (sc := defScope sLPeople) (by decide +kernel))
        (fun _ _ _ _ _ => pg_name (i := 1) nd rfl (Or.inl rfl) (Or.inr rfl)) (fun _ _ _ _ _ => pts_nil) (fun _ _ _ _ _ => pe_op op_add (pv 1) pe_int)) pa_nil))), ?_⟩
    refine ⟨_, rfl, a, _, _, _, rfl, rfl, SqT.of w1, atI_nat (j := 0) rfl, _, rfl, by omega, by omega, fun D nD => ?_⟩
    have eN : ((n : Nat) : Int).toNat = n := rfl
    rw [eN]
    refine lc_range (lo := 0) (n := n) (fun i H2 => H2 D = some (.lst (((ppl n).take i).map V.int)) ∧ Same H H2) ⟨upd_same, same_mk1 nD⟩ ?_ ?_
    · rintro i H2 hi ⟨hD, S2⟩
      refine ⟨rfl, ?_⟩
      dsimp only [tYes]
      rw [if_pos rfl]
      refine ⟨_, rfl, _, _, rfl, rfl, _, hD, ?_, ?_, same_own S2 nD⟩
      · rw [List.length_map, List.length_take]
        exact small_lt (by omega)
      · have e := ppl_get hi
        have hi2 := (List.getElem?_eq_some_iff.mp e).1
        have e2 := (List.getElem?_eq_some_iff.mp e).2
        rw [upd_same, List.take_succ_eq_append_getElem hi2, e2, List.map_append]
        rw [show (0 : Int) + (i : Int) = (i : Int) from Int.zero_add _]
        rfl
    · rintro H2 ⟨hD, S2⟩
      have e : (ppl n).take n = ppl n := List.take_of_length_le (by rw [ppl_len]; exact Nat.le_refl _)
      rw [e] at hD
      exact ⟨D, _, rfl, .inl ⟨SqL.of hD, fun l nl => k _ l (S2.trans (same_mk1 nl)) upd_same⟩⟩
end
end K56
end
section
set_option Elab.async false
set_option linter.all false
set_option maxRecDepth 100000
set_option maxHeartbeats 2000000
namespace K56
open PySem PySem.Spec PyProof.Rows L2 GxR
/-! ### (x,) * n -/
def rRepP (K : PySem.W.Frag) : R2 := fun x y H Q => ∃ (l : Addr) (n : Nat) (p : Int), x = .ref l ∧ y = .int n ∧ 1 ≤ n ∧ n ≤ 1000 ∧ H l = some (.tup [.int p]) ∧ ∀ H' r, Same H H' → Row H' r (List.replicate n p) → Q (.ref r) H'
theorem flat_rep (n : Nat) (p : Int) : (List.replicate n [V.int p]).flatten = (List.replicate n p).map V.int := by
  induction n with
  | zero => rfl
  | succ n ih =>
    rw [List.replicate_succ, List.replicate_succ, List.flatten_cons, ih]
    rfl
theorem op_repP {X : Cx} : OpR X (binaryOp .Mult) (rRepP X.K) := by
  intro pins s σ H x y v u Q I rx ry h
  obtain ⟨l, n, p, rfl, rfl, h1, h2, hl, q⟩ := h
  by_cases e : n = 1
  · subst e
    exact op_repT1 pins s σ H (.ref l) (.int 1) v u Q I rx ry ⟨l, _, rfl, rfl, SqT.of hl, q H l (Same.refl H) hl⟩
  · refine op_repT pins s σ H (.ref l) (.int n) v u Q I rx ry ⟨l, n, [.int p], rfl, rfl, SqT.of hl, by simp, by omega, by omega, by show 1 ≤ 1000; decide, fun r nr => q _ r (same_mk1 nr) ?_⟩
    show upd H r _ r = _
    rw [upd_same, Int.toNat_natCast, flat_rep]
/-! ### the tables under the row's change -/
theorem Tb.but {T : Tabs4} {H H' : Hp} {R : Addr} {xs : List V} (t : Tb T H) (hR : H R = some (.lst xs)) (k : KeepBut R H H') : Tb T H' := by
  have tg : ∀ P, TabG H P → TabG H' P := fun P ⟨ps, a, b⟩ => ⟨ps, k _ _ (ne_of a hR (fun z => by cases z)) a, b⟩
  obtain ⟨ps, a, b, c⟩ := t.lam
  refine ⟨tg _ t.arc, tg _ t.log, tg _ t.goal, ps, k _ _ (ne_of a hR (fun z => by cases z)) a, b, fun pos cv hc => ?_⟩
  obtain ⟨d, e1, e2⟩ := c pos cv hc
  exact ⟨d, e1, k _ _ (ne_of e2 hR (fun z => by unfold LamX.CodeO at z; cases z)) e2⟩
theorem KeepBut.web {K : PySem.W.Frag} {R sc : Addr} {H H' : Hp} {ss : List Int} (k : KeepBut R H H') (h : RowS K H R sc ss) {a : Addr} {n : Nat} {arcs : Arcs} (hw : Web H a n arcs) : Web H' a n arcs := (k.tups h).web hw
theorem RowS.tb {K : PySem.W.Frag} {T : Tabs4} {R sc : Addr} {H H' : Hp} {ss : List Int} (h : RowS K H R sc ss) (t : Tb T H) (k : KeepBut R H H') : Tb T H' := by
  obtain ⟨i, st, g, h1, _⟩ := h
  exact t.but h1 k
/-! ### the whole web by turns -/
def fullR (n : Nat) (s : Int) (j : Nat) : Arcs := (((ppl n).take j).filter fun g => decide (g ≠ s)).map fun g => (s, g)
def fullP (n i : Nat) : Arcs := ((ppl n).take i).flatMap fun s => fullR n s n
theorem take_ppl (n : Nat) : (ppl n).take n = ppl n := List.take_of_length_le (by rw [ppl_len]; exact Nat.le_refl _)
theorem take_more {α : Type} {l : List α} {i : Nat} {x : α} (h : l[i]? = some x) : l.take (i + 1) = l.take i ++ [x] := by
  have hi := (List.getElem?_eq_some_iff.mp h).1
  have e := (List.getElem?_eq_some_iff.mp h).2
  rw [List.take_succ_eq_append_getElem hi, e]
theorem fullR_more {n j : Nat} {s y : Int} (h : (ppl n)[j]? = some y) (hy : y ≠ s) : fullR n s (j + 1) = fullR n s j ++ [(s, y)] := by
  unfold fullR
  rw [take_more h, List.filter_append, List.map_append]
  simp [hy]
theorem fullR_same {n j : Nat} {s y : Int} (h : (ppl n)[j]? = some y) (hy : y = s) : fullR n s (j + 1) = fullR n s j := by
  unfold fullR
  rw [take_more h, List.filter_append, List.map_append]
  simp [hy]
theorem fullP_more {n i : Nat} {s : Int} (h : (ppl n)[i]? = some s) : fullP n (i + 1) = fullP n i ++ fullR n s n := by
  unfold fullP
  rw [take_more h, List.flatMap_append]
  simp
theorem fullP_all (n : Nat) : fullP n n = fullA n := by
  unfold fullP fullA fullR
  rw [take_ppl]
theorem upsA_more (i : Nat) : ((List.range (i + 1)).map fun (k : Nat) => ((k : Int) + 1, (k : Int) + 1 + 1)) = ((List.range i).map fun (k : Nat) => ((k : Int) + 1, (k : Int) + 1 + 1)) ++ [((i : Int) + 1, (i : Int) + 1 + 1)] := by
  rw [List.range_succ, List.map_append]
  rfl
end K56
end
section
set_option Elab.async false
set_option linter.all false
set_option maxRecDepth 100000
set_option maxHeartbeats 4000000
namespace K56
open PySem PySem.Spec PyProof.Rows L2 GxR
theorem bl_ff {b : Bool} (h : b = false) : V.bl b = V.bl false := by rw [h]
theorem bl_tt {b : Bool} (h : b = true) : V.bl b = V.bl true := by rw [h]
theorem ne_ff {x y : V} (h : x = y) : (!decide (x = y)) = false := by
  rw [decide_eq_true h]
  rfl
theorem ite_tC {b : Bool} {x y : V} {σ : L2.St} {H : Hp} {Q : VK} (h : Q (if b = true then x else y) H) : if b = true then tC x σ H Q else tC y σ H Q := by
  cases b <;> exact h
section
variable {P : Program} {w : World} {K : PySem.W.Frag} {mg : Str → Option Value} {base : Heap} {T4 : Tabs4}
def spLaw (K : PySem.W.Frag) (T4 : Tabs4) : Sp := fun vs H Q _ => ∃ (sc : Addr) (ss : List Int), vs = [.ref sc] ∧ SqL K H sc (ss.map V.int) ∧ Tb T4 H ∧ ∀ H', Q (.bl true) H'
abbrev nLw : List Str := ["_law_script", "_law_row", "_law_web_here", "_law_log_here", "_law_goal", "_law_count", "_law_short", "_law_person", "_law_found", "_law_whole", "_law_source", "_law_full", "_law_ups", "_law_other", "_law_k"]
theorem scLaw : FnScope nLw ["_law_script"] (defScope sLaw) := ⟨rfl, rfl, rfl, by decide +kernel, rfl, by decide +kernel, by decide +kernel⟩
theorem ok_law {f fWb fLg fR fB fL fP fW fN fZ : Addr} {fd fdWb fdLg fdR fdB fdL fdP fdW fdN fdZ : FuncData} (F : Fun K "law" "law" sLaw f fd) (T : Txt mg)
    (GWb : FnOk P w K mg base CX0 2 fWb fdWb ["_law_row", "_law_most"] (spLWeb K)) (gWb : mg "_law_web" = some (.ref fWb)) (kWb : PySem.W.keepIn K (.ref fWb) = true) (bWb : Binds K fdWb ["_law_row", "_law_most"] [])
    (GLg : FnOk P w K mg base CX0 2 fLg fdLg ["_law_row", "_law_web_here", "_law_most"] (spLLog K)) (gLg : mg "_law_log" = some (.ref fLg)) (kLg : PySem.W.keepIn K (.ref fLg) = true) (bLg : Binds K fdLg ["_law_row", "_law_web_here", "_law_most"] [])
    (GR : FnOk P w K mg base CX0 4 fR fdR ["web", "log"] (spWebRing T4)) (gR : mg "web_ring" = some (.ref fR)) (kR : PySem.W.keepIn K (.ref fR) = true) (bR : Binds K fdR ["web", "log"] [])
    (GB : FnOk P w K mg base CX0 4 fB fdB ["web", "goal"] (spBeatsTo T4)) (gB : mg "beats_to" = some (.ref fB)) (kB : PySem.W.keepIn K (.ref fB) = true) (bB : Binds K fdB ["web", "goal"] [])
    (GL : FnOk P w K mg base CX0 4 fL fdL nLt (spLogTo T4)) (gL : mg "log_to" = some (.ref fL)) (kL : PySem.W.keepIn K (.ref fL) = true) (bL : Binds K fdL nLt [])
    (GP : FnOk P w K mg base CX0 1 fP fdP ["_law_web_here"] spLPeople) (gP : mg "_law_people" = some (.ref fP)) (kP : PySem.W.keepIn K (.ref fP) = true) (bP : Binds K fdP ["_law_web_here"] [])
    (GW : FnOk P w K mg base CX0 3 fW fdW ["web", "person"] (spBeatWin T4)) (gW : mg "beat_win" = some (.ref fW)) (kW : PySem.W.keepIn K (.ref fW) = true) (bW : Binds K fdW ["web", "person"] [])
    (GN : FnOk P w K mg base CX0 3 fN fdN ["web"] (spWinners T4)) (gN : mg "winners" = some (.ref fN)) (kN : PySem.W.keepIn K (.ref fN) = true) (bN : Binds K fdN ["web"] [])
    (GZ : FnOk P w K mg base CX0 3 fZ fdZ ["web", "person"] (spWinLog T4)) (gZ : mg "win_log" = some (.ref fZ)) (kZ : PySem.W.keepIn K (.ref fZ) = true) (bZ : Binds K fdZ ["web", "person"] []) :
    FnOk P w K mg base CX0 5 f fd ["_law_script"] (spLaw K T4) := by
  refine F.ok scLaw (fun vs H Q E h => ?_) (fun cdv A outer s H vs Q E hr h => ?_)
  · obtain ⟨sc, ss, rfl, _⟩ := h
    rfl
  · obtain ⟨sc, ss, rfl, hsc, tb, k⟩ := h
    have nd := scLaw.nd
    have hu : ∀ {A : Around}, Room 4 A → A.units + 64 < cLine := fun hr => by have := hr.un; omega
    have hr1 : Room 1 _ := hr.mono (by decide)
    have hr2 : Room 2 _ := hr.mono (by decide)
    have hr3 : Room 3 _ := hr.mono (by decide)
    refine ⟨_, pss_cons (ps_set (i := 1) nd rfl (Or.inl rfl) (pe_lst (pa_cons (pv 0) (pa_cons pe_int (pa_cons pe_int (pa_cons pe_int pa_nil))))))
      (pss_cons (ps_set (i := 2) nd rfl (Or.inl rfl) (pe_call GWb hr2 (by rfl) gWb kWb bWb .nil pass0 (pa_cons (pv 1) (pa_cons pe_int pa_nil))))
      (pss_cons (ps_set (i := 3) nd rfl (Or.inl rfl) (pe_call GLg hr2 (by rfl) gLg kLg bLg .nil pass0 (pa_cons (pv 1) (pa_cons (pv 2) (pa_cons pe_int pa_nil)))))
      (pss_cons (ps_set (i := 4) nd rfl (Or.inl rfl) (pe_call GR hr (by rfl) gR kR bR .nil pass0 (pa_cons (pv 2) (pa_cons (pv 3) pa_nil))))
      (pss_cons (ps_par (i := 5) (j := 6) rfl nd rfl rfl (by decide) rfl rfl (pa_cons (pe_call GB hr (by rfl) gB kB bB .nil pass0 (pa_cons (pv 2) (pa_cons (pv 4) pa_nil))) (pa_cons (pe_call GL hr (by rfl) gL kL bL .nil pass0 (pa_cons (pv 2) (pa_cons (pv 4) pa_nil))) pa_nil)) (by rfl))
      (pss_cons (ps_if (or3 (pt_cmpR op_isN (pv 5) pe_non (nomark _)) (pt_cmpR op_gt (pv 5) (pe_len T (pv 6)) (nomark _)) (pt_cmpR op_ne (pe_cmpR op_eq (pv 5) pe_int (nomark _)) (pe_cmpR (op_eqD (hu hr)) (pv 4) (pe_call GP hr1 (by rfl) gP kP bP .nil pass0 (pa_cons (pv 2) pa_nil)) (by rfl)) (by rfl))) (pss_one (ps_ret pe_bl)) pss_nil)
      (pss_cons (ps_for PassesOwn.never rfl (pi_tup (pe_call GP hr1 (by rfl) gP kP bP .nil pass0 (pa_cons (pv 2) pa_nil))) (pg_name (i := 7) nd rfl (Or.inl rfl))
        (pss_cons (ps_set (i := 8) nd rfl (Or.inl rfl) (pe_call GW hr3 (by rfl) gW kW bW .nil pass0 (pa_cons (pv 2) (pa_cons (pv 7) pa_nil))))
        (pss_cons (ps_if (or2 (pt_cmpR op_ne (pe_cmpR op_isN (pv 8) pe_non (nomark _)) (pe_cmpR op_notIn_seq (pv 7) (pe_call GN hr3 (by rfl) gN kN bN .nil pass0 (pa_cons (pv 2) pa_nil)) (by rfl)) (by rfl)) (and2 (pt_cmpR op_notN (pv 8) pe_non (nomark _)) (pt_cmpR op_gt (pv 8) (pe_op op_sub (pe_at (pv 2) pe_int) pe_int) (nomark _)))) (pss_one (ps_ret pe_bl)) pss_nil)
        (pss_one (ps_if (and2 (pt_cmpR op_notN (pv 8) pe_non (nomark _)) (or2 (pt_cmpR op_gt (pv 8) (pe_len T (pe_call GZ hr3 (by rfl) gZ kZ bZ .nil pass0 (pa_cons (pv 2) (pa_cons (pv 7) pa_nil)))) (nomark _))
            (pt_cmpR op_ne (pe_call GB hr (by rfl) gB kB bB .nil pass0 (pa_cons (pv 2) (pa_cons (pe_op op_repP (pe_tup (pa_cons (pv 7) pa_nil)) (pe_at (pv 2) pe_int)) pa_nil))) (pv 8) (by rfl)))) (pss_one (ps_ret pe_bl)) pss_nil)))))
      (pss_cons (ps_set (i := 9) nd rfl (Or.inl rfl) (pe_lst pa_nil))
      (pss_cons (ps_for PassesOwn.never rfl (pi_range2 (by rfl) T.range (pa_cons pe_int (pa_cons (pe_op op_add (pe_at (pv 2) pe_int) pe_int) pa_nil))) (pg_name (i := 10) nd rfl (Or.inr rfl))
        (pss_one (ps_set (i := 9) nd rfl (Or.inl rfl) (pe_op op_cat (pv 9) (pe_lc (own := [("_law_other", 13)]) (g := gName 13) (tt := tTest (tOp rNe (tVar 13) (tVar 10))) (te := tTup (tCons (tVar 10) (tCons (tVar 13) tNil))) rfl nd
          (pi_range2 (by rfl) T.range (pa_cons pe_int (pa_cons (pe_op op_add (pe_at (pv 2) pe_int) pe_int) pa_nil))) (blkOk_by (own := [("_law_other", 13)]) (N := nLw) (sc := defScope sLaw) (by decide +kernel))
          (fun _ _ _ _ _ => pg_name (i := 13) nd rfl (Or.inl rfl)) (fun _ _ _ _ _ => pts_one (pt_cmpR op_ne (pv 13) (pv 10) (by rfl))) (fun _ _ _ _ _ => pe_tup (pa_cons (pv 10) (pa_cons (pv 13) pa_nil))))))))
      (pss_cons (ps_set (i := 11) nd rfl (Or.inl rfl) (pe_tup (pa_cons (pe_at (pv 2) pe_int) (pa_cons (pe_callTy call_tuple_of (by rfl) T.tuple (by decide +kernel) (pa_cons (pv 9) pa_nil)) pa_nil))))
      (pss_cons (ps_if (or2 (pt_cmpR op_ne (pe_call GW hr3 (by rfl) gW kW bW .nil pass0 (pa_cons (pv 11) (pa_cons pe_int pa_nil))) (pe_ifExp (pt_cmpR op_gt (pe_at (pv 2) pe_int) pe_int (nomark _)) pe_int pe_int) (by rfl)) (pt_cmpR op_gt (pe_call GB hr (by rfl) gB kB bB .nil pass0 (pa_cons (pv 11) (pa_cons (pv 4) pa_nil))) pe_int (nomark _))) (pss_one (ps_ret pe_bl)) pss_nil)
      (pss_cons (ps_set (i := 12) nd rfl (Or.inl rfl) (pe_tup (pa_cons (pe_at (pv 2) pe_int) (pa_cons (pe_callTy call_tuple_of (by rfl) T.tuple (by decide +kernel) (pa_cons (pe_lc (own := [("_law_k", 14)]) (g := gName 14) (tt := tYes) (te := tTup (tCons (tVar 14) (tCons (tOp (rI0 fun i j => .int (i + j)) (tVar 14) (tC (.int 1))) tNil))) rfl nd
          (pi_range2 (by rfl) T.range (pa_cons pe_int (pa_cons (pe_at (pv 2) pe_int) pa_nil))) (blkOk_by (own := [("_law_k", 14)]) (N := nLw) (sc := defScope sLaw) (by decide +kernel))
          (fun _ _ _ _ _ => pg_name (i := 14) nd rfl (Or.inl rfl)) (fun _ _ _ _ _ => pts_nil) (fun _ _ _ _ _ => pe_tup (pa_cons (pv 14) (pa_cons (pe_op op_add (pv 14) pe_int) pa_nil)))) pa_nil)) pa_nil))))
      (pss_one (ps_ret (pe_cmpR op_eq (pe_call GW hr3 (by rfl) gW kW bW .nil pass0 (pa_cons (pv 12) (pa_cons pe_int pa_nil))) (pe_op op_sub (pe_at (pv 2) pe_int) pe_int) (nomark _))))))))))))))), ?_⟩
    -- row
    refine ⟨_, rfl, by show 4 ≤ sizeLine; decide, fun R nR => ?_⟩
    have hR1 : RowS K (upd H R (.lst [.ref sc, .int 0, .int 8056, .int 0])) R sc ss := ⟨0, 8056, 0, upd_same, sql_same hsc (same_mk1 nR), by decide, by decide⟩
    have tb1 : Tb T4 (upd H R (.lst [.ref sc, .int 0, .int 8056, .int 0])) := tb.same (same_mk1 nR)
    generalize upd H R (.lst [.ref sc, .int 0, .int 8056, .int 0]) = H1 at hR1 tb1 ⊢
    -- web, log, goal
    refine ⟨_, rfl, R, sc, ss, rfl, hR1, fun H2 a n arcs hR2 k2 hw2 W => ?_⟩
    have tb2 := hR1.tb tb1 k2
    have few := W.few
    have npos := W.pos
    have nle := W.le
    refine ⟨_, rfl, _, rfl, R, a, sc, n, arcs, ss, rfl, hR2, hw2, few, fun H3 l ls hR3 k3 hl hlk hl8 => ?_⟩
    have tb3 := hR2.tb tb2 k3
    have hw3 := k3.web hR2 hw2
    refine ⟨_, rfl, _, rfl, a, l, n, arcs, ls, rfl, hw3, W, hl, hlk, by omega, tb3, fun H4 g S4 hg4 => ?_⟩
    have Rg : RowOk n (runL arcs (ppl n) ls) := runL_ok W ls (ppl_ok n)
    have bk := bk_log W ls
    generalize hrun : runL arcs (ppl n) ls = gs at Rg bk hg4
    -- count, short
    refine ⟨_, rfl, _, rfl, a, g, n, arcs, gs, rfl, S4.tups.web hw3, W, hg4, Rg, S4.tb, fun H5 o S5 ho => ?_⟩
    have S45 := S4.trans S5
    refine ⟨_, rfl, _, rfl, a, g, n, arcs, gs, ls, rfl, S45.tups.web hw3, W, S5.tups _ _ hg4, hlk, hrun, S45.tb, fun H6 l2 ls2 S6 hl2 hls2 hrun2 => ⟨_, _, rfl, ?_⟩⟩
    have S3 := S45.trans S6
    obtain ⟨d, rfl, hd⟩ := ho.le bk
    have bk2 := bk_log W ls2
    rw [hrun2] at bk2
    obtain ⟨d2, e2, hd2⟩ := ho.le bk2
    cases e2
    have hw6 := S3.tups.web hw3
    have hg6 : Row H6 g gs := (S5.trans S6).tups _ _ hg4
    refine ⟨_, rfl, rfl, false, bl_ff (decide_eq_false fun z => by cases z), iteF ?_⟩
    refine ⟨_, rfl, _, rfl, l2, _, rfl, .inr (SqT.of hl2), _, _, rfl, rfl, false, bl_ff (decide_eq_false (by rw [List.length_map]; omega)), iteF ?_⟩
    refine ⟨_, rfl, rfl, _, rfl, _, rfl, a, n, arcs, rfl, hw6, by omega, fun H7 p7 S7 hp7 => ⟨tI gs, tI (ppl n), dp_row (S7 _ _ hg6), dp_row hp7, tI_shaped _, tI_shaped _, rfl, false, bl_ff (ne_ff ?_), iteF ?_⟩⟩
    · rw [tI_eqv]
      refine congrArg V.bl (decide_eq_decide.mpr ⟨fun z => ?_, fun z => ?_⟩)
      · have d0 : d = 0 := by
          have := V.int.inj z
          omega
        rw [d0] at ho
        exact ho.1
      · rcases Nat.eq_zero_or_pos d with d0 | dp
        · rw [d0]
          rfl
        · exact absurd (show BK n arcs 0 gs from z) (ho.2 0 dp)
    have hw7 := (same_tups S7).web hw6
    have hg7 : Row H7 g gs := S7 _ _ hg6
    have tb7 := S3.tb.same S7
    -- each person
    refine ⟨_, rfl, a, n, arcs, rfl, hw7, by omega, fun H8 q S8 hq => ⟨q, rfl, ⟨_, SqT.of hq⟩, for_tup (K := K) (a := q) (xs := (ppl n).map V.int)
      (fun i σ H9 => ∃ v7 v8 : Option V, σ = [some (.ref sc), some (.ref R), some (.ref a), some (.ref l), some (.ref g), some (.int d), some (.ref l2), v7, v8, none, none, none, none, none, none] ∧ Sit T4 H8 H9)
      ⟨none, none, rfl, Sit.refl (tb7.same S8)⟩ (fun i σ H9 _ ⟨_, _, _, S⟩ => SqT.of (S.tups _ _ hq)) ?_ ?_⟩⟩
    · rintro i x σ H9 hi ⟨v7, v8, rfl, S⟩
      obtain ⟨p, hp, rfl⟩ := map_get hi
      have hpn := ppl_mem.mp (List.mem_of_getElem? hp)
      have hw8 := (same_tups S8).web hw7
      refine ⟨_, rfl, _, rfl, a, n, arcs, p, rfl, S.tups.web hw8, W, hpn, S.tb, fun H10 o S10 ho hod => ?_⟩
      have S11 := S.trans S10
      refine ⟨_, rfl, rfl, _, rfl, _, rfl, a, n, arcs, rfl, S11.tups.web hw8, W, S11.tb, fun H12 Lw ws S12 hLw hws => ⟨Lw, _, rfl, .inr (SqT.of hLw), rfl, flat_ints ws, rfl, false, bl_ff (ne_ff ?_), iteF ?_⟩⟩
      · rw [if_pos rfl, inV_ints]
        cases o with
        | none =>
          have hn : ¬ p ∈ ws := fun z => by
            obtain ⟨kk, hk⟩ := wins_all ((hws p).mp z).2
            exact ho kk hk
          rw [decide_eq_false hn, decide_eq_true (show oV none = V.non from rfl)]
          rfl
        | some dd =>
          have hm : p ∈ ws := (hws p).mpr ⟨hpn, all_wins ho.1⟩
          rw [decide_eq_true hm, decide_eq_false (show ¬ oV (some dd) = V.non from fun z => by cases z)]
          rfl
      have S13 := S11.trans S12
      cases o with
      | none =>
        refine ⟨_, rfl, rfl, false, bl_ff (ne_ff rfl), iteF (iteF ?_)⟩
        refine ⟨_, rfl, rfl, false, bl_ff (ne_ff rfl), iteF (iteF ?_)⟩
        exact ⟨_, _, rfl, S13⟩
      | some dd =>
        have hdd := hod dd rfl
        have hwn : Wins n arcs p := all_wins ho.1
        obtain ⟨c, ps, w1, w2, w3⟩ := S13.tups.web hw8
        refine ⟨_, rfl, rfl, true, bl_tt (by rw [decide_eq_false (show ¬ oV (some dd) = V.non from fun z => by cases z)]; rfl), iteT ?_⟩
        refine ⟨_, rfl, _, rfl, a, _, _, _, rfl, rfl, SqT.of w1, atI_nat (j := 0) rfl, _, _, rfl, rfl, _, _, rfl, rfl, false, bl_ff (decide_eq_false (by omega)), iteF ?_⟩
        refine ⟨_, rfl, rfl, true, bl_tt (by rw [decide_eq_false (show ¬ oV (some dd) = V.non from fun z => by cases z)]; rfl), iteT ?_⟩
        refine ⟨_, rfl, _, rfl, _, rfl, a, n, arcs, p, rfl, S13.tups.web hw8, W, hpn, S13.tb, fun H14 _ hno => absurd hwn hno, fun H14 lw xs S14 _ hlw hxl => ?_⟩
        have S15 := S13.trans S14
        refine ⟨lw, _, rfl, .inr (SqT.of hlw), _, _, rfl, rfl, false, bl_ff (decide_eq_false (by omega)), iteF ?_⟩
        obtain ⟨c, ps, w1, w2, w3⟩ := S15.tups.web hw8
        refine ⟨_, rfl, _, rfl, by show 1 ≤ sizeLine; decide, fun t nt => ?_⟩
        have S16 := S15.new (o := .tup [.int p]) nt
        refine ⟨_, rfl, a, _, _, _, rfl, rfl, SqT.of (tups_new nt _ _ w1), atI_nat (j := 0) rfl, t, n, p, rfl, rfl, npos, by omega, upd_same, fun H17 r S17 hr17 => ?_⟩
        have S18 := S16.same S17
        have Rr : RowOk n (List.replicate n p) := ⟨List.length_replicate, fun x hx => by rw [(List.mem_replicate.mp hx).2]; exact hpn⟩
        refine ⟨a, r, n, arcs, List.replicate n p, rfl, S18.tups.web hw8, W, hr17, Rr, S18.tb, fun H19 o2 S19 ho2 => ?_⟩
        have e2 : o2 = some dd := Least.one (Least.congr (fun k => const_iff W hpn k) ho2) ho
        subst e2
        refine ⟨_, rfl, rfl, false, bl_ff (ne_ff rfl), iteF ?_⟩
        exact ⟨_, _, rfl, S18.trans S19⟩
    · rintro σ H9 ⟨v7, v8, rfl, S⟩
      have hw9 := S.tups.web ((same_tups S8).web hw7)
      have hg9 : Row H9 g gs := S.tups _ _ (S8 _ _ hg7)
      have tb9 := S.tb
      clear S hw7 hw6 hw3 hw2
      -- the whole web
      refine ⟨Nat.zero_le _, fun L0 nL0 => ?_⟩
      obtain ⟨c, ps, w1, w2, w3⟩ := id hw9
      have T0 : Sit T4 H9 (upd H9 L0 (.lst [])) := (Sit.refl tb9).new nL0
      have eN : ((n : Int) + 1 - 1).toNat = n := by omega
      refine ⟨_, rfl, a, _, _, _, rfl, rfl, SqT.of (T0.tups _ _ w1), atI_nat (j := 0) rfl, _, _, rfl, rfl, _, _, rfl, by omega, ?_⟩
      rw [eN]
      refine for_range (lo := 1) (n := n) (fun i σ H10 => ∃ (L : Addr) (as : List Addr) (v10 : Option V), σ = [some (.ref sc), some (.ref R), some (.ref a), some (.ref l), some (.ref g), some (.int d), some (.ref l2), v7, v8, some (.ref L), v10, none, none, none, none] ∧ Same H9 H10 ∧ H10 L = some (.lst (as.map V.ref)) ∧ PairsAt H10 as (fullP n i) ∧ as.length ≤ 4 * i)
        ⟨L0, [], none, rfl, same_mk1 nL0, upd_same, .nil, Nat.le_refl _⟩ ?_ ?_
      · rintro i σ H10 hi ⟨L, as, v10, rfl, S10, hL, hps, hal⟩
        have hs := ppl_get hi
        have a1 := S10 _ _ w1
        refine ⟨_, rfl, _, rfl, a, _, _, _, rfl, rfl, SqT.of a1, atI_nat (j := 0) rfl, _, _, rfl, rfl, _, _, rfl, by omega, fun D nD => ?_⟩
        rw [eN]
        refine lc_range (lo := 1) (n := n) (fun j H11 => ∃ bs : List Addr, H11 D = some (.lst (bs.map V.ref)) ∧ Same H10 H11 ∧ PairsAt H11 bs (fullR n (1 + (i : Int)) j) ∧ bs.length ≤ j) ⟨[], upd_same, same_mk1 nD, .nil, Nat.le_refl _⟩ ?_ ?_
        · rintro j H11 hj ⟨bs, hD, S11, hbs, hbl⟩
          have hy := ppl_get hj
          refine ⟨rfl, _, rfl, _, rfl, rfl, ?_⟩
          by_cases c1 : (1 + (j : Int)) = 1 + (i : Int)
          · refine ⟨false, bl_ff (ne_ff (by rw [c1])), iteF ⟨bs, hD, S11, ?_, by omega⟩⟩
            rw [fullR_same hy (by omega)]
            exact hbs
          · refine ⟨true, bl_tt (by rw [decide_eq_false (fun z => c1 (V.int.inj z))]; rfl), iteT ?_⟩
            refine ⟨_, rfl, _, rfl, by show 2 ≤ sizeLine; decide, fun pt npt => ?_⟩
            have hD2 : (upd H11 pt (.tup [.int (1 + (i : Int)), .int (1 + (j : Int))])) D = some (.lst (bs.map V.ref)) := by
              rw [upd_ne (ne_of_none hD npt)]
              exact hD
            have t1 : TupS H11 (upd H11 pt (.tup [.int (1 + (i : Int)), .int (1 + (j : Int))])) := tups_new npt
            have t2 : TupS (upd H11 pt (.tup [.int (1 + (i : Int)), .int (1 + (j : Int))])) (upd (upd H11 pt (.tup [.int (1 + (i : Int)), .int (1 + (j : Int))])) D (.lst (bs.map V.ref ++ [.ref pt]))) := tups_lst hD2
            refine ⟨_, hD2, by rw [List.length_map]; exact small_lt (by omega), bs ++ [pt], by rw [upd_same, List.map_append]; rfl, same_own (same_new S11 npt) nD, ?_, by rw [List.length_append]; simp; omega⟩
            rw [fullR_more hy (by omega)]
            refine Paired.snoc ((t1.trans t2).pairs hbs) (t2 _ _ ?_)
            show upd H11 pt _ pt = _
            rw [upd_same, show (j : Int) + 1 = 1 + (j : Int) from Int.add_comm _ _]
        · rintro H11 ⟨bs, hD, S11, hbs, hbl⟩
          refine ⟨L, D, _, _, rfl, rfl, S11 _ _ hL, hD, by rw [List.length_map, List.length_map]; exact small_line (by omega), fun L' nL' => ?_⟩
          have S12 : Same H9 (upd H11 L' (.lst (as.map V.ref ++ bs.map V.ref))) := same_new (S10.trans S11) nL'
          have t9 : TupS H11 (upd H11 L' (.lst (as.map V.ref ++ bs.map V.ref))) := tups_new nL'
          refine ⟨L', as ++ bs, _, rfl, S12, by rw [upd_same, List.map_append], ?_, by rw [List.length_append]; omega⟩
          rw [fullP_more hs]
          have e1 : fullR n ((i : Int) + 1) n = fullR n (1 + (i : Int)) n := by rw [Int.add_comm]
          rw [e1]
          exact Paired.app (((same_tups S11).trans t9).pairs hps) (t9.pairs hbs)
      · rintro σ H10 ⟨L, as, v10, rfl, S10, hL, hps, hal⟩
        rw [fullP_all] at hps
        have a1 := S10 _ _ w1
        refine ⟨_, rfl, a, _, _, _, rfl, rfl, SqT.of a1, atI_nat (j := 0) rfl, _, rfl, L, _, rfl, .inl ⟨SqL.of hL, fun tw ntw => ⟨by show 2 ≤ sizeLine; decide, fun fu nfu => ?_⟩⟩⟩
        have S11 := same_new (o := .tup (as.map V.ref)) S10 ntw
        have S12 := same_new (o := .tup [.int n, .ref tw]) S11 nfu
        have s1 : Same H10 (upd (upd H10 tw (.tup (as.map V.ref))) fu (.tup [.int n, .ref tw])) := same_new (same_mk1 ntw) nfu
        have hwF : Web (upd (upd H10 tw (.tup (as.map V.ref))) fu (.tup [.int n, .ref tw])) fu n (fullA n) := ⟨tw, as, upd_same, by rw [upd_ne (ne_of_none upd_same nfu), upd_same], (same_tups s1).pairs hps⟩
        have WF : WebOk n (fullA n) := full_ok npos nle
        have hw12 := (same_tups S12).web hw9
        have hg12 : Row (upd (upd H10 tw (.tup (as.map V.ref))) fu (.tup [.int n, .ref tw])) g gs := S12 _ _ hg9
        have tb12 := tb9.same S12
        generalize upd (upd H10 tw (.tup (as.map V.ref))) fu (.tup [.int n, .ref tw]) = H12 at hwF hw12 hg12 tb12 ⊢
        refine ⟨_, rfl, fu, n, fullA n, 1, rfl, hwF, WF, ⟨by decide, by omega⟩, tb12, fun H13 o S13 ho hod => ?_⟩
        have e1 : o = some (if 1 < n then 1 else 0) := Least.one ho (full_win npos)
        subst e1
        obtain ⟨c2, ps2, x1, x2, x3⟩ := S13.tups.web hw12
        refine ⟨_, rfl, a, _, _, _, rfl, rfl, SqT.of x1, atI_nat (j := 0) rfl, _, _, rfl, rfl, _, rfl, ite_tC ?_⟩
        have hv : (if decide ((1 : Int) < (n : Int)) = true then V.int 1 else V.int 0) = oV (some (if 1 < n then 1 else 0)) := by
          by_cases c1 : 1 < n
          · rw [if_pos (decide_eq_true (by omega)), if_pos c1]
            rfl
          · rw [if_neg (fun z => by have := of_decide_eq_true z; omega), if_neg c1]
            rfl
        refine ⟨by rw [hv]; rfl, false, bl_ff (ne_ff hv.symm), iteF ?_⟩
        refine ⟨_, rfl, _, rfl, fu, g, n, fullA n, gs, rfl, S13.tups.web hwF, WF, S13.tups _ _ hg12, Rg, S13.tb, fun H14 o3 S14 ho3 => ?_⟩
        obtain ⟨d3, rfl, hd3⟩ := ho3.le (full_bk Rg)
        refine ⟨_, _, rfl, rfl, false, bl_ff (decide_eq_false (by omega)), iteF ?_⟩
        have S15 := S13.trans S14
        have y1 := S14.tups _ _ x1
        have hw15 := S15.tups.web hw12
        have eN2 : ((n : Int) - 1).toNat = n - 1 := by omega
        refine ⟨_, rfl, a, _, _, _, rfl, rfl, SqT.of y1, atI_nat (j := 0) rfl, _, rfl, a, _, _, _, rfl, rfl, SqT.of y1, atI_nat (j := 0) rfl, _, _, rfl, by omega, fun D nD => ?_⟩
        rw [eN2]
        refine lc_range (lo := 1) (n := n - 1) (fun i H15 => ∃ bs : List Addr, H15 D = some (.lst (bs.map V.ref)) ∧ Same H14 H15 ∧ PairsAt H15 bs ((List.range i).map fun (k : Nat) => ((k : Int) + 1, (k : Int) + 1 + 1)) ∧ bs.length ≤ i) ⟨[], upd_same, same_mk1 nD, .nil, Nat.le_refl _⟩ ?_ ?_
        · rintro i H15 hi ⟨bs, hD, S15, hbs, hbl⟩
          refine ⟨rfl, ?_⟩
          dsimp only [tYes]
          rw [if_pos rfl]
          refine ⟨_, rfl, _, rfl, _, _, rfl, rfl, by show 2 ≤ sizeLine; decide, fun pt npt => ?_⟩
          have hD2 : (upd H15 pt (.tup [.int (1 + (i : Int)), .int (1 + (i : Int) + 1)])) D = some (.lst (bs.map V.ref)) := by
            rw [upd_ne (ne_of_none hD npt)]
            exact hD
          have t1 : TupS H15 (upd H15 pt (.tup [.int (1 + (i : Int)), .int (1 + (i : Int) + 1)])) := tups_new npt
          have t2 : TupS (upd H15 pt (.tup [.int (1 + (i : Int)), .int (1 + (i : Int) + 1)])) (upd (upd H15 pt (.tup [.int (1 + (i : Int)), .int (1 + (i : Int) + 1)])) D (.lst (bs.map V.ref ++ [.ref pt]))) := tups_lst hD2
          refine ⟨_, hD2, by rw [List.length_map]; exact small_lt (by omega), bs ++ [pt], by rw [upd_same, List.map_append]; rfl, same_own (same_new S15 npt) nD, ?_, by rw [List.length_append]; simp; omega⟩
          rw [upsA_more]
          refine Paired.snoc ((t1.trans t2).pairs hbs) (t2 _ _ ?_)
          show upd H15 pt _ pt = _
          rw [upd_same, show (i : Int) + 1 = 1 + (i : Int) from Int.add_comm _ _]
        · rintro H15 ⟨bs, hD, S15, hbs, hbl⟩
          refine ⟨D, _, rfl, .inl ⟨SqL.of hD, fun tw ntw => ⟨by show 2 ≤ sizeLine; decide, fun up nup => ?_⟩⟩⟩
          have s2 : Same H15 (upd (upd H15 tw (.tup (bs.map V.ref))) up (.tup [.int n, .ref tw])) := same_new (same_mk1 ntw) nup
          have hwU : Web (upd (upd H15 tw (.tup (bs.map V.ref))) up (.tup [.int n, .ref tw])) up n (upsA n) := ⟨tw, bs, upd_same, by rw [upd_ne (ne_of_none upd_same nup), upd_same], (same_tups s2).pairs hbs⟩
          have tb16 := S14.tb.same (S15.trans s2)
          have z1 := (S15.trans s2) _ _ y1
          generalize upd (upd H15 tw (.tup (bs.map V.ref))) up (.tup [.int n, .ref tw]) = H16 at hwU tb16 z1 ⊢
          refine ⟨_, rfl, up, n, upsA n, 1, rfl, hwU, ups_ok npos nle, ⟨by decide, by omega⟩, tb16, fun H17 o S17 ho hod => ?_⟩
          have e3 : o = some (n - 1) := Least.one ho (ups_win npos)
          subst e3
          have z2 := S17.tups _ _ z1
          refine ⟨_, rfl, a, _, _, _, rfl, rfl, SqT.of z2, atI_nat (j := 0) rfl, _, _, rfl, rfl, rfl, ?_⟩
          have e4 : decide (oV (some (n - 1)) = V.int ((n : Int) - 1)) = true := decide_eq_true (by
            show V.int (((n - 1 : Nat) : Nat) : Int) = _
            congr 1
            omega)
          show Q (V.bl (decide (oV (some (n - 1)) = V.int ((n : Int) - 1)))) H17
          rw [e4]
          exact k H17
end
end K56
end
section
set_option Elab.async false
set_option linter.all false
set_option maxRecDepth 100000
set_option maxHeartbeats 4000000
namespace K56
open PySem PySem.Spec PyProof.Rows L2 GxR
/-! ### what the top has left -/
def DefAt (K : PySem.W.Frag) (x : Str) (st : Stmt) : Prop := ∃ f fd, Fun K x x st f fd ∧ PySem.W.nsIn K mainGlobals x = some (some (.ref f))
theorem defAt_mk {K : PySem.W.Frag} {x : Str} {st : Stmt} {f : Addr} {oc : Value} {od an : Option Addr} {osl : Array (Option Value)} {kV doc pm cdv ct : Value} (a : PySem.W.nsIn K mainGlobals x = some (some (.ref f)))
    (l : K.lookup f = some ⟨oc, od, .func (PySem.W.fnOf x x (defArgs st) (defBody st) (defScope st) .none kV doc pm an cdv ct), osl⟩) (c : PySem.W.codeIn K cdv x = true) (k : PySem.W.keepIn K (.ref f) = true) : DefAt K x st := ⟨f, _, fun_mk l c k, a⟩
theorem con_mk {K : PySem.W.Frag} {x : Str} {o : Option (Option Value)} {n : Int} (e : PySem.W.nsIn K mainGlobals x = o) (h : ∃ t, o = some (some (.int n t))) : ∃ t, PySem.W.nsIn K mainGlobals x = some (some (.int n t)) := h.imp fun _ z => e.trans z
/-- and its table stands at P -/
def DefTab (K : PySem.W.Frag) (x : Str) (st : Stmt) (P : Addr) : Prop := ∃ f fd c, FunC K x x st f fd c ∧ PySem.W.nsIn K mainGlobals x = some (some (.ref f)) ∧ (∃ (oc : Value) (od : Option Addr) (vs : Array Value) (sl : Array (Option Value)), K.lookup c = some ⟨oc, od, .fields vs, sl⟩ ∧ vs[11]? = some (.ref P)) ∧ K.lookup P = none
theorem defTab_mk {K : PySem.W.Frag} {x : Str} {st : Stmt} {f c P : Addr} {oc oc2 : Value} {od an od2 : Option Addr} {osl sl2 : Array (Option Value)} {kV doc pm ct : Value} {vs : Array Value} (a : PySem.W.nsIn K mainGlobals x = some (some (.ref f)))
    (l : K.lookup f = some ⟨oc, od, .func (PySem.W.fnOf x x (defArgs st) (defBody st) (defScope st) .none kV doc pm an (.ref c) ct), osl⟩) (cd : PySem.W.codeIn K (.ref c) x = true) (k : PySem.W.keepIn K (.ref f) = true)
    (lc : K.lookup c = some ⟨oc2, od2, .fields vs, sl2⟩) (v : vs[11]? = some (.ref P)) (n : K.lookup P = none) : DefTab K x st P := ⟨f, _, c, ⟨⟨oc, od, kV, doc, pm, an, ct, osl, rfl, l, cd⟩, k⟩, a, ⟨oc2, od2, vs, sl2, lc, v⟩, n⟩
/-- a def of the top, its table empty -/
def TabAt (mg : Str → Option Value) (h : Heap) (x : Str) : Prop := ∃ a o fd c P, mg x = some (.ref a) ∧ h.get? a = some o ∧ o.data = .func fd ∧ fd.code = .ref c ∧ h.IsCode c P #[] ∧ h.TableAt c P #[]
theorem tab_of {K : PySem.W.Frag} {mg : Str → Option Value} {h : Heap} {x : Str} {st : Stmt} {P f c : Addr} {fd : FuncData} (X : K.In h) (hm : mg x = some (.ref f)) (t : TabAt mg h x) (F : FunC K x x st f fd c)
    (hc : ∃ (oc : Value) (od : Option Addr) (vs : Array Value) (sl : Array (Option Value)), K.lookup c = some ⟨oc, od, .fields vs, sl⟩ ∧ vs[11]? = some (.ref P)) : h.get? P = some { cls := .none, data := .fields #[] } ∧ PySem.W.CodeHd h c P := by
  obtain ⟨a, o, fd2, c2, P2, h1, h2, h3, h4, h5, h6⟩ := t
  rw [hm] at h1
  cases h1
  obtain ⟨oc, od, kV, doc, pm, an, ct, osl, e, lk, _⟩ := F.ex
  rw [X _ _ lk] at h2
  cases h2
  cases h3
  rw [e] at h4
  cases h4
  have hd := PySem.W.CodeHd.of h5 h6
  obtain ⟨⟨o3, vc, e1, _, e3, e4⟩, hP⟩ := h6
  obtain ⟨oc2, od2, vs, sl, l2, v2⟩ := hc
  rw [X _ _ l2] at e1
  cases e1
  cases e3
  rw [v2] at e4
  cases e4
  exact ⟨hP, hd⟩
theorem walk_all {l : PySem.W.OpenLaw} {q : Program} {loose : List Str} {XP : (Str → Option Value) → Heap → Prop} {YP : World → Heap → Prop} {d : DefRec} {K : Params → PySem.W.Frag}
    (hn : l.most = some 63) (hdf : d.params.defaults = []) (hrec : (["is_arc", "is_log", "need_goal", "log_to"] : List Str).all (fun x => (recsOf q).any fun e => e.name == x) = true) (hY : ∀ (w : World) (h : Heap), YP w h → (K w.params).In h)
    (F : ∀ (w : World) (mg : Str → Option Value) (fa : Addr) (h : Heap), (K w.params).In h → h.Ns mainGlobals mg → mg d.name = some (.ref fa) → (∀ x ∈ (["is_arc", "is_log", "need_goal", "log_to"] : List Str), TabAt mg h x) → LamX.LawAtS l w (K w.params) CX0 5 63 "_law_script" mg fa h) :
    PySem.W.WalkO q loose XP YP l.row.toRowW d [] (fun f vs => PySem.call f vs) := by
  refine Att.attach_callB hn hdf fun w s₀ s₁ mg mb fa o pm cd doc a vs ns G Y ho hd hcd hmg hobj hints hlen hbits hg => ?_
  have KX := hY w _ Y
  have tabs : ∀ x ∈ (["is_arc", "is_log", "need_goal", "log_to"] : List Str), TabAt mg s₁.heap x := fun x hx => by
    obtain ⟨dL, hm, hn1⟩ := List.any_eq_true.mp (List.all_eq_true.mp hrec x hx)
    have hn2 : dL.name = x := beq_iff_eq.mp hn1
    obtain ⟨a', o', fd', c', P', h1, r⟩ := G.T.tab dL hm
    rw [hn2] at h1
    exact ⟨a', o', fd', c', P', h1, r⟩
  obtain ⟨fd, cs, sp, hT, nT, C, hb, hsp, hF⟩ := F w mg fa _ KX G.T.g hmg tabs
  exact LamX.law_callTs KX G.T.g G.T.b G.T.builtins G.T.nolimit hg hT nT C G.T.bmain hobj hints (Nat.le_trans hlen (by decide)) ⟨rfl, by decide, by decide⟩ hF hb (fun H hH hS => hsp H a ns hlen hbits hH hS) fun H e s' z => z.elim
theorem all_mk {l : PySem.W.OpenLaw} {w : World} {K : PySem.W.Frag} {h : Heap} {mg : Str → Option Value} {fa P1 P2 P3 P4 : Addr} (X : K.In h) (G : h.Ns mainGlobals mg) (hfa : mg "law" = some (.ref fa)) (tabs : ∀ x ∈ (["is_arc", "is_log", "need_goal", "log_to"] : List Str), TabAt mg h x)
    (t1 : DefTab K "is_arc" sIsArc P1)
    (t2 : DefTab K "is_log" sIsLog P2)
    (t3 : DefTab K "need_goal" sNeedGoal P3)
    (t4 : DefTab K "log_to" sLogTo P4)
    (n1 : P1 ≠ P4) (n2 : P2 ≠ P4) (n3 : P3 ≠ P4)
    (d1 : DefAt K "is_in" sIsIn)
    (d2 : DefAt K "need_web" sNeedWeb)
    (d3 : DefAt K "need_log" sNeedLog)
    (d4 : DefAt K "need_person" sNeedPerson)
    (d5 : DefAt K "people" sPeople)
    (d6 : DefAt K "taken" sTaken)
    (d7 : DefAt K "behind" sBehind)
    (d8 : DefAt K "web_ring" sWebRing)
    (d9 : DefAt K "need_small" sNeedSmall)
    (d10 : DefAt K "first_log" sFirstLog)
    (d11 : DefAt K "beat_win" sBeatWin)
    (d12 : DefAt K "beaten" sBeaten)
    (d13 : DefAt K "beats_to" sBeatsTo)
    (d14 : DefAt K "hearers" sHearers)
    (d15 : DefAt K "winners_of" sWinnersOf)
    (d16 : DefAt K "winners" sWinners)
    (d17 : DefAt K "win_log" sWinLog)
    (d18 : DefAt K "_law_taken" sLTaken)
    (d19 : DefAt K "_law_web" sLWeb)
    (d20 : DefAt K "_law_log" sLLog)
    (d21 : DefAt K "_law_people" sLPeople)
    (d22 : DefAt K "law" sLaw)
    (z1 : PySem.W.nsIn K mainGlobals "isinstance" = some none)
    (z2 : PySem.W.nsIn K mainGlobals "int" = some none)
    (z3 : PySem.W.nsIn K mainGlobals "bool" = some none)
    (z4 : PySem.W.nsIn K mainGlobals "tuple" = some none)
    (z5 : PySem.W.nsIn K mainGlobals "len" = some none)
    (z6 : PySem.W.nsIn K mainGlobals "all" = some none)
    (z7 : PySem.W.nsIn K mainGlobals "enumerate" = some none)
    (z8 : PySem.W.nsIn K mainGlobals "range" = some none)
    (z9 : PySem.W.nsIn K mainGlobals "sorted" = some none)
    (z10 : PySem.W.nsIn K mainGlobals "list" = some none)
    (m1 : ∃ t, PySem.W.nsIn K mainGlobals "MOST_PEOPLE" = some (some (.int 6 t)))
    (m2 : ∃ t, PySem.W.nsIn K mainGlobals "MOST_ARCS" = some (some (.int 12 t)))
    (m3 : ∃ t, PySem.W.nsIn K mainGlobals "MOST_LOG" = some (some (.int 60 t)))
    (m4 : ∃ t, PySem.W.nsIn K mainGlobals "MOST_SMALL" = some (some (.int 4 t)))
    : LamX.LawAtS l w K CX0 5 63 "_law_script" mg fa h := by
  obtain ⟨fxisarc, fdxisarc, cxisarc, Fxisarc, axisarc, vxisarc, oxisarc⟩ := t1
  obtain ⟨fxislog, fdxislog, cxislog, Fxislog, axislog, vxislog, oxislog⟩ := t2
  obtain ⟨fxneedgoal, fdxneedgoal, cxneedgoal, Fxneedgoal, axneedgoal, vxneedgoal, oxneedgoal⟩ := t3
  obtain ⟨fxlogto, fdxlogto, cxlogto, Fxlogto, axlogto, vxlogto, oxlogto⟩ := t4
  obtain ⟨fxisin, fdxisin, Fxisin, axisin⟩ := d1
  obtain ⟨fxneedweb, fdxneedweb, Fxneedweb, axneedweb⟩ := d2
  obtain ⟨fxneedlog, fdxneedlog, Fxneedlog, axneedlog⟩ := d3
  obtain ⟨fxneedperson, fdxneedperson, Fxneedperson, axneedperson⟩ := d4
  obtain ⟨fxpeople, fdxpeople, Fxpeople, axpeople⟩ := d5
  obtain ⟨fxtaken, fdxtaken, Fxtaken, axtaken⟩ := d6
  obtain ⟨fxbehind, fdxbehind, Fxbehind, axbehind⟩ := d7
  obtain ⟨fxwebring, fdxwebring, Fxwebring, axwebring⟩ := d8
  obtain ⟨fxneedsmall, fdxneedsmall, Fxneedsmall, axneedsmall⟩ := d9
  obtain ⟨fxfirstlog, fdxfirstlog, Fxfirstlog, axfirstlog⟩ := d10
  obtain ⟨fxbeatwin, fdxbeatwin, Fxbeatwin, axbeatwin⟩ := d11
  obtain ⟨fxbeaten, fdxbeaten, Fxbeaten, axbeaten⟩ := d12
  obtain ⟨fxbeatsto, fdxbeatsto, Fxbeatsto, axbeatsto⟩ := d13
  obtain ⟨fxhearers, fdxhearers, Fxhearers, axhearers⟩ := d14
  obtain ⟨fxwinnersof, fdxwinnersof, Fxwinnersof, axwinnersof⟩ := d15
  obtain ⟨fxwinners, fdxwinners, Fxwinners, axwinners⟩ := d16
  obtain ⟨fxwinlog, fdxwinlog, Fxwinlog, axwinlog⟩ := d17
  obtain ⟨fylawtaken, fdylawtaken, Fylawtaken, aylawtaken⟩ := d18
  obtain ⟨fylawweb, fdylawweb, Fylawweb, aylawweb⟩ := d19
  obtain ⟨fylawlog, fdylawlog, Fylawlog, aylawlog⟩ := d20
  obtain ⟨fylawpeople, fdylawpeople, Fylawpeople, aylawpeople⟩ := d21
  obtain ⟨fxlaw, fdxlaw, Fxlaw, axlaw⟩ := d22
  have g : ∀ {x : Str} {v : Value}, PySem.W.nsIn K mainGlobals x = some (some v) → mg x = some v := fun e => PySem.W.mg_of X G e
  have T : Txt mg := ⟨PySem.W.mg_none_of X G z1, PySem.W.mg_none_of X G z2, PySem.W.mg_none_of X G z3, PySem.W.mg_none_of X G z4, PySem.W.mg_none_of X G z5, PySem.W.mg_none_of X G z6, PySem.W.mg_none_of X G z7, PySem.W.mg_none_of X G z8, PySem.W.mg_none_of X G z9, PySem.W.mg_none_of X G z10, m1.imp fun _ e => g e, m2.imp fun _ e => g e, m3.imp fun _ e => g e, m4.imp fun _ e => g e⟩
  have el := hfa.symm.trans (g axlaw)
  cases el
  obtain ⟨T1, C1⟩ := tab_of X (g axisarc) (tabs "is_arc" (by decide)) Fxisarc vxisarc
  obtain ⟨T2, C2⟩ := tab_of X (g axislog) (tabs "is_log" (by decide)) Fxislog vxislog
  obtain ⟨T3, C3⟩ := tab_of X (g axneedgoal) (tabs "need_goal" (by decide)) Fxneedgoal vxneedgoal
  obtain ⟨T4, C4⟩ := tab_of X (g axlogto) (tabs "log_to" (by decide)) Fxlogto vxlogto
  have bxisarc : Binds K fdxisarc ["size", "value"] [] := (Fxisarc.fn).binds (ps := ["size", "value"]) fun _ _ _ _ _ _ us hl => match us, hl with | [_, _], _ => rfl
  have bxislog : Binds K fdxislog ["web", "value"] [] := (Fxislog.fn).binds (ps := ["web", "value"]) fun _ _ _ _ _ _ us hl => match us, hl with | [_, _], _ => rfl
  have bxneedgoal : Binds K fdxneedgoal ["web", "goal"] [] := (Fxneedgoal.fn).binds (ps := ["web", "goal"]) fun _ _ _ _ _ _ us hl => match us, hl with | [_, _], _ => rfl
  have bxlogto : Binds K fdxlogto ["web", "goal"] [] := (Fxlogto.fn).binds (ps := ["web", "goal"]) fun _ _ _ _ _ _ us hl => match us, hl with | [_, _], _ => rfl
  have bxisin : Binds K fdxisin ["value", "least", "most"] [] := (Fxisin).binds (ps := ["value", "least", "most"]) fun _ _ _ _ _ _ us hl => match us, hl with | [_, _, _], _ => rfl
  have bxneedweb : Binds K fdxneedweb ["web"] [] := (Fxneedweb).binds (ps := ["web"]) fun _ _ _ _ _ _ us hl => match us, hl with | [_], _ => rfl
  have bxneedlog : Binds K fdxneedlog ["web", "log"] [] := (Fxneedlog).binds (ps := ["web", "log"]) fun _ _ _ _ _ _ us hl => match us, hl with | [_, _], _ => rfl
  have bxneedperson : Binds K fdxneedperson ["web", "person"] [] := (Fxneedperson).binds (ps := ["web", "person"]) fun _ _ _ _ _ _ us hl => match us, hl with | [_, _], _ => rfl
  have bxpeople : Binds K fdxpeople ["web"] [] := (Fxpeople).binds (ps := ["web"]) fun _ _ _ _ _ _ us hl => match us, hl with | [_], _ => rfl
  have bxtaken : Binds K fdxtaken ["web", "some", "index"] [] := (Fxtaken).binds (ps := ["web", "some", "index"]) fun _ _ _ _ _ _ us hl => match us, hl with | [_, _, _], _ => rfl
  have bxbehind : Binds K fdxbehind ["web", "some", "log"] [] := (Fxbehind).binds (ps := ["web", "some", "log"]) fun _ _ _ _ _ _ us hl => match us, hl with | [_, _, _], _ => rfl
  have bxwebring : Binds K fdxwebring ["web", "log"] [] := (Fxwebring).binds (ps := ["web", "log"]) fun _ _ _ _ _ _ us hl => match us, hl with | [_, _], _ => rfl
  have bxneedsmall : Binds K fdxneedsmall ["web"] [] := (Fxneedsmall).binds (ps := ["web"]) fun _ _ _ _ _ _ us hl => match us, hl with | [_], _ => rfl
  have bxfirstlog : Binds K fdxfirstlog ["web", "begin", "is_goal"] [] := (Fxfirstlog).binds (ps := ["web", "begin", "is_goal"]) fun _ _ _ _ _ _ us hl => match us, hl with | [_, _, _], _ => rfl
  have bxbeatwin : Binds K fdxbeatwin ["web", "person"] [] := (Fxbeatwin).binds (ps := ["web", "person"]) fun _ _ _ _ _ _ us hl => match us, hl with | [_, _], _ => rfl
  have bxbeaten : Binds K fdxbeaten ["web", "some"] [] := (Fxbeaten).binds (ps := ["web", "some"]) fun _ _ _ _ _ _ us hl => match us, hl with | [_, _], _ => rfl
  have bxbeatsto : Binds K fdxbeatsto ["web", "goal"] [] := (Fxbeatsto).binds (ps := ["web", "goal"]) fun _ _ _ _ _ _ us hl => match us, hl with | [_, _], _ => rfl
  have bxhearers : Binds K fdxhearers ["web", "begin"] [] := (Fxhearers).binds (ps := ["web", "begin"]) fun _ _ _ _ _ _ us hl => match us, hl with | [_, _], _ => rfl
  have bxwinnersof : Binds K fdxwinnersof ["web"] [] := (Fxwinnersof).binds (ps := ["web"]) fun _ _ _ _ _ _ us hl => match us, hl with | [_], _ => rfl
  have bxwinners : Binds K fdxwinners ["web"] [] := (Fxwinners).binds (ps := ["web"]) fun _ _ _ _ _ _ us hl => match us, hl with | [_], _ => rfl
  have bxwinlog : Binds K fdxwinlog ["web", "person"] [] := (Fxwinlog).binds (ps := ["web", "person"]) fun _ _ _ _ _ _ us hl => match us, hl with | [_, _], _ => rfl
  have bylawtaken : Binds K fdylawtaken ["_law_row", "_law_many"] [] := (Fylawtaken).binds (ps := ["_law_row", "_law_many"]) fun _ _ _ _ _ _ us hl => match us, hl with | [_, _], _ => rfl
  have bylawweb : Binds K fdylawweb ["_law_row", "_law_most"] [] := (Fylawweb).binds (ps := ["_law_row", "_law_most"]) fun _ _ _ _ _ _ us hl => match us, hl with | [_, _], _ => rfl
  have bylawlog : Binds K fdylawlog ["_law_row", "_law_web_here", "_law_most"] [] := (Fylawlog).binds (ps := ["_law_row", "_law_web_here", "_law_most"]) fun _ _ _ _ _ _ us hl => match us, hl with | [_, _, _], _ => rfl
  have bylawpeople : Binds K fdylawpeople ["_law_web_here"] [] := (Fylawpeople).binds (ps := ["_law_web_here"]) fun _ _ _ _ _ _ us hl => match us, hl with | [_], _ => rfl
  have bxlaw : Binds K fdxlaw ["_law_script"] [] := (Fxlaw).binds (ps := ["_law_script"]) fun _ _ _ _ _ _ us hl => match us, hl with | [_], _ => rfl
  refine ⟨fdxlaw, [(cxisarc, P1), (cxislog, P2), (cxneedgoal, P3), (cxlogto, P4)], spLaw K ⟨P1, P2, P3, P4⟩, ?_, ?_, ?_, ?_, ?_, fun base _ _ TB => ?_⟩
  · intro p hp
    simp only [List.mem_cons, List.not_mem_nil, or_false] at hp
    rcases hp with rfl | rfl | rfl | rfl <;> assumption
  · intro p hp
    simp only [List.mem_cons, List.not_mem_nil, or_false] at hp
    rcases hp with rfl | rfl | rfl | rfl <;> assumption
  · intro p hp
    simp only [List.mem_cons, List.not_mem_nil, or_false] at hp
    rcases hp with rfl | rfl | rfl | rfl <;> assumption
  · intro s u
    obtain ⟨oc, od, kV, doc, pm, an, cdv, ct, osl, rfl, lk, hcd⟩ := Fxlaw.ex
    exact .of_eq rfl
  · intro H a ns _ _ hT hS
    have tG : ∀ P, H P = some (.tbl #[]) → TabG H P := fun P e => ⟨#[], e, True.intro⟩
    exact ⟨a, ns, rfl, hS, ⟨tG _ (hT (cxisarc, P1) (by simp)), tG _ (hT (cxislog, P2) (by simp)), tG _ (hT (cxneedgoal, P3) (by simp)), LamX.TabS.nil (hT (cxlogto, P4) (by simp))⟩, fun _ => rfl⟩
  · have O : Tabs4.Ok ⟨P1, P2, P3, P4⟩ := ⟨n1, n2, n3⟩
    have B1 := TB (cxisarc, P1) (by simp)
    have B2 := TB (cxislog, P2) (by simp)
    have B3 := TB (cxneedgoal, P3) (by simp)
    have B4 := TB (cxlogto, P4) (by simp)
    have Gxisin : FnOk l.prog w K mg base CX0 1 fxisin fdxisin ["value", "least", "most"] spIsIn := ok_isin Fxisin T
    have Gxisarc : FnOk l.prog w K mg base CX0 1 fxisarc fdxisarc ["size", "value"] (spIsArc ⟨P1, P2, P3, P4⟩) := ok_isarc (T4 := ⟨P1, P2, P3, P4⟩) Fxisarc T Fxisin (g axisin) ⟨B1.code, B1.bm, B1.gP⟩ O
    have Gxneedweb : FnOk l.prog w K mg base CX0 2 fxneedweb fdxneedweb ["web"] (spNeedWeb ⟨P1, P2, P3, P4⟩) := ok_needweb Fxneedweb T Gxisin (g axisin) Fxisin.kp bxisin Gxisarc (g axisarc) Fxisarc.kp bxisarc
    have Gxislog : FnOk l.prog w K mg base CX0 1 fxislog fdxislog ["web", "value"] (spIsLog ⟨P1, P2, P3, P4⟩) := ok_islog (T4 := ⟨P1, P2, P3, P4⟩) Fxislog T Fxisin (g axisin) ⟨B2.code, B2.bm, B2.gP⟩ O
    have Gxneedlog : FnOk l.prog w K mg base CX0 3 fxneedlog fdxneedlog ["web", "log"] (spNeedLog ⟨P1, P2, P3, P4⟩) := ok_needlog Fxneedlog Gxneedweb (g axneedweb) Fxneedweb.kp bxneedweb Gxislog (g axislog) Fxislog.kp bxislog
    have Gxneedperson : FnOk l.prog w K mg base CX0 2 fxneedperson fdxneedperson ["web", "person"] spNeedPerson := ok_needperson Fxneedperson Gxisin (g axisin) Fxisin.kp bxisin
    have Gxpeople : FnOk l.prog w K mg base CX0 1 fxpeople fdxpeople ["web"] spPeople := ok_people Fxpeople T
    have Gxtaken : FnOk l.prog w K mg base CX0 1 fxtaken fdxtaken ["web", "some", "index"] spTaken := ok_taken Fxtaken T
    have Gxbehind : FnOk l.prog w K mg base CX0 2 fxbehind fdxbehind ["web", "some", "log"] spBehind := ok_behind Fxbehind Gxtaken (g axtaken) Fxtaken.kp bxtaken
    have Gxwebring : FnOk l.prog w K mg base CX0 4 fxwebring fdxwebring ["web", "log"] (spWebRing ⟨P1, P2, P3, P4⟩) := ok_webring Fxwebring Gxneedlog (g axneedlog) Fxneedlog.kp bxneedlog Gxpeople (g axpeople) Fxpeople.kp bxpeople Gxbehind (g axbehind) Fxbehind.kp bxbehind
    have Gxneedgoal : FnOk l.prog w K mg base CX0 3 fxneedgoal fdxneedgoal ["web", "goal"] (spNeedGoal ⟨P1, P2, P3, P4⟩) := ok_needgoal (T4 := ⟨P1, P2, P3, P4⟩) Fxneedgoal T Fxisin (g axisin) ⟨B3.code, B3.bm, B3.gP⟩ O Gxneedweb (g axneedweb) Fxneedweb.kp bxneedweb
    have Gxneedsmall : FnOk l.prog w K mg base CX0 1 fxneedsmall fdxneedsmall ["web"] spNeedSmall := ok_needsmall Fxneedsmall T
    have Gxbeatwin : FnOk l.prog w K mg base CX0 3 fxbeatwin fdxbeatwin ["web", "person"] (spBeatWin ⟨P1, P2, P3, P4⟩) := ok_beatwin Fxbeatwin T Gxneedweb (g axneedweb) Fxneedweb.kp bxneedweb Gxneedperson (g axneedperson) Fxneedperson.kp bxneedperson
    have Gxbeaten : FnOk l.prog w K mg base CX0 2 fxbeaten fdxbeaten ["web", "some"] spBeaten := ok_beaten Fxbeaten T Gxpeople (g axpeople) Fxpeople.kp bxpeople
    have Gxbeatsto : FnOk l.prog w K mg base CX0 4 fxbeatsto fdxbeatsto ["web", "goal"] (spBeatsTo ⟨P1, P2, P3, P4⟩) := ok_beatsto Fxbeatsto T Gxneedgoal (g axneedgoal) Fxneedgoal.kp bxneedgoal Gxneedsmall (g axneedsmall) Fxneedsmall.kp bxneedsmall Gxpeople (g axpeople) Fxpeople.kp bxpeople Gxbeaten (g axbeaten) Fxbeaten.kp bxbeaten
    have Gxhearers : FnOk l.prog w K mg base CX0 1 fxhearers fdxhearers ["web", "begin"] spHearers := ok_hearers Fxhearers T
    have Gxwinnersof : FnOk l.prog w K mg base CX0 2 fxwinnersof fdxwinnersof ["web"] spWinnersOf := ok_winnersof Fxwinnersof T Gxpeople (g axpeople) Fxpeople.kp bxpeople Gxhearers (g axhearers) Fxhearers.kp bxhearers
    have Gxwinners : FnOk l.prog w K mg base CX0 3 fxwinners fdxwinners ["web"] (spWinners ⟨P1, P2, P3, P4⟩) := ok_winners Fxwinners T Gxneedweb (g axneedweb) Fxneedweb.kp bxneedweb Gxwinnersof (g axwinnersof) Fxwinnersof.kp bxwinnersof
    have Gxwinlog : FnOk l.prog w K mg base CX0 3 fxwinlog fdxwinlog ["web", "person"] (spWinLog ⟨P1, P2, P3, P4⟩) := ok_winlog Fxwinlog T Gxneedweb (g axneedweb) Fxneedweb.kp bxneedweb Gxneedperson (g axneedperson) Fxneedperson.kp bxneedperson Gxwinnersof (g axwinnersof) Fxwinnersof.kp bxwinnersof
    have Gxlogto : FnOk l.prog w K mg base CX0 4 fxlogto fdxlogto ["web", "goal"] (spLogTo ⟨P1, P2, P3, P4⟩) := ok_logto (T4 := ⟨P1, P2, P3, P4⟩) Fxlogto T O Gxneedgoal (g axneedgoal) Fxneedgoal.kp bxneedgoal Gxneedsmall (g axneedsmall) Fxneedsmall.kp bxneedsmall Fxfirstlog (g axfirstlog) bxfirstlog Gxpeople (g axpeople) Fxpeople.kp bxpeople Gxtaken (g axtaken) Fxtaken.kp bxtaken B4
    have Gylawtaken : FnOk l.prog w K mg base CX0 1 fylawtaken fdylawtaken ["_law_row", "_law_many"] (spLTaken K) := ok_ltaken Fylawtaken T
    have Gylawweb : FnOk l.prog w K mg base CX0 2 fylawweb fdylawweb ["_law_row", "_law_most"] (spLWeb K) := ok_lweb Fylawweb T Gylawtaken (g aylawtaken) Fylawtaken.kp bylawtaken
    have Gylawlog : FnOk l.prog w K mg base CX0 2 fylawlog fdylawlog ["_law_row", "_law_web_here", "_law_most"] (spLLog K) := ok_llog Fylawlog T Gylawtaken (g aylawtaken) Fylawtaken.kp bylawtaken
    have Gylawpeople : FnOk l.prog w K mg base CX0 1 fylawpeople fdylawpeople ["_law_web_here"] spLPeople := ok_lpeople Fylawpeople T
    exact ok_law Fxlaw T Gylawweb (g aylawweb) Fylawweb.kp bylawweb Gylawlog (g aylawlog) Fylawlog.kp bylawlog Gxwebring (g axwebring) Fxwebring.kp bxwebring Gxbeatsto (g axbeatsto) Fxbeatsto.kp bxbeatsto Gxlogto (g axlogto) Fxlogto.kp bxlogto Gylawpeople (g aylawpeople) Fylawpeople.kp bylawpeople Gxbeatwin (g axbeatwin) Fxbeatwin.kp bxbeatwin Gxwinners (g axwinners) Fxwinners.kp bxwinners Gxwinlog (g axwinlog) Fxwinlog.kp bxwinlog
end K56
end
section
set_option Elab.async false
set_option maxRecDepth 100000
open PySem PySem.W PyProof.Rows in
set_option maxRecDepth 100000 in
set_option maxHeartbeats 0 in
theorem PySem.Challenge.cw_bellcopies_k56_across_beats_holds : PySem.Challenge.rw_bellcopies_k56_across_beats.Holds := by
  w_on; o_law; k_head; (case hw => w_witness2)
  k_fill
  refine K56.walk_all (l := PySem.Challenge.rw_bellcopies_k56_across_beats) rfl rfl ?R (fun w h Y => PySem.W.km_in_of Y) ?F
  case R => decide +kernel
  case F =>
    intro w mg fa h KX G hmg tabs
    refine' K56.all_mk KX G hmg tabs ?t1 ?t2 ?t3 ?t4 ?n1 ?n2 ?n3 ?d1 ?d2 ?d3 ?d4 ?d5 ?d6 ?d7 ?d8 ?d9 ?d10 ?d11 ?d12 ?d13 ?d14 ?d15 ?d16 ?d17 ?d18 ?d19 ?d20 ?d21 ?d22 ?z1 ?z2 ?z3 ?z4 ?z5 ?z6 ?z7 ?z8 ?z9 ?z10 ?m1 ?m2 ?m3 ?m4
    (case t1 => (refine' K56.defTab_mk ?a ?l ?cd ?k ?lc ?v ?n; (case a => k_is); (case l => k_is); (case cd => k_is); (case k => k_is); (case lc => k_is); (case v => rfl); (case n => kernel_rfl)))
    (case t2 => (refine' K56.defTab_mk ?a ?l ?cd ?k ?lc ?v ?n; (case a => k_is); (case l => k_is); (case cd => k_is); (case k => k_is); (case lc => k_is); (case v => rfl); (case n => kernel_rfl)))
    (case t3 => (refine' K56.defTab_mk ?a ?l ?cd ?k ?lc ?v ?n; (case a => k_is); (case l => k_is); (case cd => k_is); (case k => k_is); (case lc => k_is); (case v => rfl); (case n => kernel_rfl)))
    (case t4 => (refine' K56.defTab_mk ?a ?l ?cd ?k ?lc ?v ?n; (case a => k_is); (case l => k_is); (case cd => k_is); (case k => k_is); (case lc => k_is); (case v => rfl); (case n => kernel_rfl)))
    (case n1 => decide)
    (case n2 => decide)
    (case n3 => decide)
    (case d1 => (refine' K56.defAt_mk ?a ?l ?c ?k; (case a => k_is); (case l => k_is); (case c => k_is); (case k => k_is)))
    (case d2 => (refine' K56.defAt_mk ?a ?l ?c ?k; (case a => k_is); (case l => k_is); (case c => k_is); (case k => k_is)))
    (case d3 => (refine' K56.defAt_mk ?a ?l ?c ?k; (case a => k_is); (case l => k_is); (case c => k_is); (case k => k_is)))
    (case d4 => (refine' K56.defAt_mk ?a ?l ?c ?k; (case a => k_is); (case l => k_is); (case c => k_is); (case k => k_is)))
    (case d5 => (refine' K56.defAt_mk ?a ?l ?c ?k; (case a => k_is); (case l => k_is); (case c => k_is); (case k => k_is)))
    (case d6 => (refine' K56.defAt_mk ?a ?l ?c ?k; (case a => k_is); (case l => k_is); (case c => k_is); (case k => k_is)))
    (case d7 => (refine' K56.defAt_mk ?a ?l ?c ?k; (case a => k_is); (case l => k_is); (case c => k_is); (case k => k_is)))
    (case d8 => (refine' K56.defAt_mk ?a ?l ?c ?k; (case a => k_is); (case l => k_is); (case c => k_is); (case k => k_is)))
    (case d9 => (refine' K56.defAt_mk ?a ?l ?c ?k; (case a => k_is); (case l => k_is); (case c => k_is); (case k => k_is)))
    (case d10 => (refine' K56.defAt_mk ?a ?l ?c ?k; (case a => k_is); (case l => k_is); (case c => k_is); (case k => k_is)))
    (case d11 => (refine' K56.defAt_mk ?a ?l ?c ?k; (case a => k_is); (case l => k_is); (case c => k_is); (case k => k_is)))
    (case d12 => (refine' K56.defAt_mk ?a ?l ?c ?k; (case a => k_is); (case l => k_is); (case c => k_is); (case k => k_is)))
    (case d13 => (refine' K56.defAt_mk ?a ?l ?c ?k; (case a => k_is); (case l => k_is); (case c => k_is); (case k => k_is)))
    (case d14 => (refine' K56.defAt_mk ?a ?l ?c ?k; (case a => k_is); (case l => k_is); (case c => k_is); (case k => k_is)))
    (case d15 => (refine' K56.defAt_mk ?a ?l ?c ?k; (case a => k_is); (case l => k_is); (case c => k_is); (case k => k_is)))
    (case d16 => (refine' K56.defAt_mk ?a ?l ?c ?k; (case a => k_is); (case l => k_is); (case c => k_is); (case k => k_is)))
    (case d17 => (refine' K56.defAt_mk ?a ?l ?c ?k; (case a => k_is); (case l => k_is); (case c => k_is); (case k => k_is)))
    (case d18 => (refine' K56.defAt_mk ?a ?l ?c ?k; (case a => k_is); (case l => k_is); (case c => k_is); (case k => k_is)))
    (case d19 => (refine' K56.defAt_mk ?a ?l ?c ?k; (case a => k_is); (case l => k_is); (case c => k_is); (case k => k_is)))
    (case d20 => (refine' K56.defAt_mk ?a ?l ?c ?k; (case a => k_is); (case l => k_is); (case c => k_is); (case k => k_is)))
    (case d21 => (refine' K56.defAt_mk ?a ?l ?c ?k; (case a => k_is); (case l => k_is); (case c => k_is); (case k => k_is)))
    (case d22 => (refine' K56.defAt_mk ?a ?l ?c ?k; (case a => k_is); (case l => k_is); (case c => k_is); (case k => k_is)))
    (case z1 => k_is)
    (case z2 => k_is)
    (case z3 => k_is)
    (case z4 => k_is)
    (case z5 => k_is)
    (case z6 => k_is)
    (case z7 => k_is)
    (case z8 => k_is)
    (case z9 => k_is)
    (case z10 => k_is)
    (case m1 => (refine' K56.con_mk ?e ?h; (case e => k_is); (case h => exact ⟨_, rfl⟩)))
    (case m2 => (refine' K56.con_mk ?e ?h; (case e => k_is); (case h => exact ⟨_, rfl⟩)))
    (case m3 => (refine' K56.con_mk ?e ?h; (case e => k_is); (case h => exact ⟨_, rfl⟩)))
    (case m4 => (refine' K56.con_mk ?e ?h; (case e => k_is); (case h => exact ⟨_, rfl⟩)))
end
