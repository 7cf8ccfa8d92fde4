import PyProof.Rows.All
import Wide.All
import OpenK.AllK
import Wide.FinOn
import HandS.ForMost
import HandS.ForExc
import HandS.Nested
import HandS.NestedK
import HandS.DictComp
import HandS.DictEq
import HandS.IsInst
import HandS.ExcInit
import HandS.ExcSuper
import HandS.SortKw
import HandS.Evl
import HandS.Walk
import HandS.More
import HandS.Style
import HandS.Wide
import HandS.EndTab
import HandS.FStr
import KE.SortKeyHeap
import HandS.WordsDict
import KE.KExcSuper
import HandS.HotCalls
import HandS.ExcIs
import HandS.ExcField
import KE.KExcIs
import HandS.Conv
import KE.KNestM
import PySem.Challenge.RW_knewbetter_k82_fewest_syncs_and_their_fo
set_option Elab.async false
set_option linter.all false
section
/-! The plain law of k82: the greedy choice of syncs is the least one. No program in sight. -/
set_option autoImplicit false
namespace K82
section
variable {κ : Type}
open Classical
/-- numbers of packages -/
abbrev Fn (κ : Type) := κ → Int
def Le (f g : Fn κ) : Prop := ∀ p, f p ≤ g p
theorem Le.refl (f : Fn κ) : Le f f := fun _ => Int.le_refl _
theorem Le.trans {f g h : Fn κ} (a : Le f g) (b : Le g h) : Le f h := fun p => Int.le_trans (a p) (b p)
def zeroF : Fn κ := fun _ => 0
/-- a row: a hearing (true) or an answer, with its numbers -/
abbrev Rw (κ : Type) := Bool × Fn κ
/-- the rows fit behind what was heard -/
def Good : Fn κ → List (Rw κ) → Prop
  | _, [] => True
  | h, (true, f) :: r => Le h f ∧ Good f r
  | h, (false, f) :: r => Le zeroF f ∧ Le f h ∧ Good h r
/-- how many syncs the greedy choice makes -/
noncomputable def greedyN : Fn κ → Fn κ → List (Rw κ) → Nat
  | _, _, [] => 0
  | _, g, (true, f) :: r => greedyN f g r
  | h, g, (false, f) :: r => if Le f g then greedyN h g r else greedyN h h r + 1
/-- do syncs at these rows keep the course? (i: the first row's place) -/
def Keeps (P : Nat → Bool) : Nat → Fn κ → Fn κ → List (Rw κ) → Prop
  | _, _, _, [] => True
  | i, h, s, (true, f) :: r => Keeps P (i + 1) f (if P i then h else s) r
  | i, h, s, (false, f) :: r => Le f (if P i then h else s) ∧ Keeps P (i + 1) h (if P i then h else s) r
/-- how many of the n places from i on are taken -/
def cnt (P : Nat → Bool) : Nat → Nat → Nat
  | _, 0 => 0
  | i, n + 1 => (if P i then 1 else 0) + cnt P (i + 1) n
theorem greedy_least (P : Nat → Bool) : ∀ (r : List (Rw κ)) (i : Nat) (h g s : Fn κ), Good h r → Le s h → Keeps P i h s r → greedyN h g r ≤ cnt P i r.length + (if Le s g then 0 else 1)
  | [], i, h, g, s, _, _, _ => Nat.zero_le _
  | (true, f) :: r, i, h, g, s, ⟨hf, gd⟩, hs, k => by
    show greedyN f g r ≤ ((if P i then 1 else 0) + cnt P (i + 1) r.length) + _
    have k' : Keeps P (i + 1) f (if P i then h else s) r := k
    cases hp : P i with
    | true =>
      rw [hp] at k'
      have q := greedy_least P r (i + 1) f g h gd hf k'
      have q1 : (if Le h g then 0 else 1) ≤ 1 := by split <;> omega
      simp only [if_true]
      omega
    | false =>
      rw [hp] at k'
      have q := greedy_least P r (i + 1) f g s gd (hs.trans hf) k'
      simp only [Bool.false_eq_true, if_false]
      omega
  | (false, f) :: r, i, h, g, s, ⟨hz, hf, gd⟩, hs, ⟨k1, k⟩ => by
    show (if Le f g then greedyN h g r else greedyN h h r + 1) ≤ ((if P i then 1 else 0) + cnt P (i + 1) r.length) + _
    cases hp : P i with
    | true =>
      rw [hp] at k k1
      simp only [if_true] at k k1 ⊢
      by_cases hg : Le f g
      · rw [if_pos hg]
        have q := greedy_least P r (i + 1) h g h gd (Le.refl h) k
        have q1 : (if Le h g then 0 else 1) ≤ 1 := by split <;> omega
        omega
      · rw [if_neg hg]
        have q := greedy_least P r (i + 1) h h h gd (Le.refl h) k
        rw [if_pos (Le.refl h)] at q
        omega
    | false =>
      rw [hp] at k k1
      simp only [Bool.false_eq_true, if_false] at k k1 ⊢
      by_cases hg : Le f g
      · rw [if_pos hg]
        have q := greedy_least P r (i + 1) h g s gd hs k
        omega
      · rw [if_neg hg]
        have q := greedy_least P r (i + 1) h h s gd hs k
        rw [if_pos hs] at q
        have n : ¬ Le s g := fun z => hg (k1.trans z)
        rw [if_neg n]
        omega
/-- the greedy choice's places -/
noncomputable def greedyL : Nat → Fn κ → Fn κ → List (Rw κ) → List Nat
  | _, _, _, [] => []
  | i, _, g, (true, f) :: r => greedyL (i + 1) f g r
  | i, h, g, (false, f) :: r => if Le f g then greedyL (i + 1) h g r else i :: greedyL (i + 1) h h r
theorem greedyL_len : ∀ (r : List (Rw κ)) (i : Nat) (h g : Fn κ), (greedyL i h g r).length = greedyN h g r
  | [], _, _, _ => rfl
  | (true, f) :: r, i, h, g => greedyL_len r (i + 1) f g
  | (false, f) :: r, i, h, g => by
    show List.length (ite _ _ _) = ite _ _ _
    split
    · exact greedyL_len r (i + 1) h g
    · rw [List.length_cons, greedyL_len r (i + 1) h h]
theorem greedyL_ge : ∀ (r : List (Rw κ)) (i : Nat) (h g : Fn κ), ∀ p ∈ greedyL i h g r, i ≤ p ∧ p < i + r.length
  | [], _, _, _, p, m => by simp [greedyL] at m
  | (true, f) :: r, i, h, g, p, m => by
    have q := greedyL_ge r (i + 1) f g p m
    rw [List.length_cons]; omega
  | (false, f) :: r, i, h, g, p, m => by
    have m : p ∈ (ite _ _ _ : List Nat) := m
    rw [List.length_cons]
    split at m
    · have q := greedyL_ge r (i + 1) h g p m
      omega
    · rcases List.mem_cons.mp m with e | m
      · omega
      · have q := greedyL_ge r (i + 1) h h p m
        omega
theorem greedyL_asc : ∀ (r : List (Rw κ)) (i : Nat) (h g : Fn κ), (greedyL i h g r).Pairwise (· < ·)
  | [], _, _, _ => List.Pairwise.nil
  | (true, f) :: r, i, h, g => greedyL_asc r (i + 1) f g
  | (false, f) :: r, i, h, g => by
    show List.Pairwise _ (ite _ _ _)
    split
    · exact greedyL_asc r (i + 1) h g
    · refine List.pairwise_cons.mpr ⟨fun p m => ?_, greedyL_asc r (i + 1) h h⟩
      have q := greedyL_ge r (i + 1) h h p m
      omega
/-- what is told of a place: outside the rows told nothing is asked -/
theorem keeps_congr {P P' : Nat → Bool} : ∀ (r : List (Rw κ)) (i : Nat) (h s : Fn κ), (∀ j, i ≤ j → P j = P' j) → Keeps P i h s r → Keeps P' i h s r
  | [], _, _, _, _, _ => trivial
  | (true, f) :: r, i, h, s, e, k => by
    show Keeps P' (i + 1) f (if P' i then h else s) r
    rw [← e i (Nat.le_refl _)]
    exact keeps_congr r (i + 1) _ _ (fun j hj => e j (by omega)) k
  | (false, f) :: r, i, h, s, e, ⟨k1, k2⟩ => by
    show Le f (if P' i then h else s) ∧ Keeps P' (i + 1) h (if P' i then h else s) r
    rw [← e i (Nat.le_refl _)]
    exact ⟨k1, keeps_congr r (i + 1) _ _ (fun j hj => e j (by omega)) k2⟩
/-- the greedy choice keeps the course -/
theorem greedy_keeps : ∀ (r : List (Rw κ)) (i : Nat) (h g : Fn κ) (P : Nat → Bool), Good h r → (∀ j, i ≤ j → (P j = true ↔ j ∈ greedyL i h g r)) → Keeps P i h g r
  | [], _, _, _, _, _, _ => trivial
  | (true, f) :: r, i, h, g, P, ⟨hf, gd⟩, e => by
    have n : P i = false := by
      cases q : P i with
      | false => rfl
      | true =>
        have z := greedyL_ge r (i + 1) f g i ((e i (Nat.le_refl _)).mp q)
        omega
    show Keeps P (i + 1) f (if P i then h else g) r
    rw [n]
    exact greedy_keeps r (i + 1) f g P gd fun j hj => e j (by omega)
  | (false, f) :: r, i, h, g, P, ⟨hz, hf, gd⟩, e => by
    show Le f (if P i then h else g) ∧ Keeps P (i + 1) h (if P i then h else g) r
    by_cases hg : Le f g
    · have eL : greedyL i h g ((false, f) :: r) = greedyL (i + 1) h g r := if_pos hg
      have n : P i = false := by
        cases q : P i with
        | false => rfl
        | true =>
          have z := (e i (Nat.le_refl _)).mp q
          rw [eL] at z
          have z := greedyL_ge r (i + 1) h g i z
          omega
      rw [n]
      refine ⟨hg, greedy_keeps r (i + 1) h g P gd fun j hj => ?_⟩
      rw [← eL]
      exact e j (by omega)
    · have eL : greedyL i h g ((false, f) :: r) = i :: greedyL (i + 1) h h r := if_neg hg
      have y : P i = true := (e i (Nat.le_refl _)).mpr (by rw [eL]; exact List.mem_cons_self)
      rw [y]
      refine ⟨hf, greedy_keeps r (i + 1) h h P gd fun j hj => ?_⟩
      rw [e j (by omega), eL, List.mem_cons]
      constructor
      · rintro (z | z)
        · omega
        · exact z
      · exact .inr
/-- what is heard ahead of row j (counted from the first) -/
def heardAt : Fn κ → List (Rw κ) → Nat → Fn κ
  | h, [], _ => h
  | h, _, 0 => h
  | _, (true, f) :: r, j + 1 => heardAt f r j
  | h, (false, _) :: r, j + 1 => heardAt h r j
theorem heard_up : ∀ (r : List (Rw κ)) (h : Fn κ) (j : Nat), Good h r → Le h (heardAt h r j)
  | [], h, j, _ => Le.refl h
  | _ :: _, h, 0, _ => by
    rename_i a r g
    show Le h (heardAt h (a :: r) 0)
    rcases a with ⟨b, f⟩
    cases b <;> exact Le.refl h
  | (true, f) :: r, h, j + 1, ⟨hf, gd⟩ => hf.trans (heard_up r f j gd)
  | (false, f) :: r, h, j + 1, ⟨_, _, gd⟩ => heard_up r h j gd
theorem heard_mono : ∀ (r : List (Rw κ)) (h : Fn κ) (i j : Nat), Good h r → i ≤ j → Le (heardAt h r i) (heardAt h r j)
  | [], h, i, j, _, _ => by cases i <;> cases j <;> exact Le.refl h
  | a :: r, h, 0, j, g, _ => by
    have e : heardAt h (a :: r) 0 = h := by rcases a with ⟨b, f⟩; cases b <;> rfl
    rw [e]
    exact heard_up (a :: r) h j g
  | _ :: _, _, i + 1, 0, _, l => by omega
  | (true, f) :: r, h, i + 1, j + 1, ⟨_, gd⟩, l => heard_mono r f i j gd (by omega)
  | (false, f) :: r, h, i + 1, j + 1, ⟨_, _, gd⟩, l => heard_mono r h i j gd (by omega)
/-- a later answer of the greedy choice is not below what was heard at an earlier one; each is below what is heard at it -/
theorem greedy_apart : ∀ (r : List (Rw κ)) (i : Nat) (h g : Fn κ), Good h r → Le g h →
    (∀ q ∈ greedyL i h g r, ∃ f, r[q - i]? = some (false, f) ∧ ¬ Le f g ∧ Le f (heardAt h r (q - i))) ∧
    (greedyL i h g r).Pairwise fun p q => ∀ f, r[q - i]? = some (false, f) → ¬ Le f (heardAt h r (p - i))
  | [], _, _, _, _, _ => ⟨fun q m => absurd m (by simp [greedyL]), List.Pairwise.nil⟩
  | (true, f) :: r, i, h, g, ⟨hf, gd⟩, hgh => by
    obtain ⟨a, b⟩ := greedy_apart r (i + 1) f g gd (hgh.trans hf)
    have low := greedyL_ge r (i + 1) f g
    have sh : ∀ q ∈ greedyL (i + 1) f g r, ((true, f) :: r)[q - i]? = r[q - (i + 1)]? ∧ heardAt h ((true, f) :: r) (q - i) = heardAt f r (q - (i + 1)) := fun q m => by
      have l := low q m
      have e : q - i = (q - (i + 1)) + 1 := by omega
      rw [e]
      exact ⟨List.getElem?_cons_succ, rfl⟩
    refine ⟨fun q m => ?_, ?_⟩
    · have m : q ∈ greedyL (i + 1) f g r := m
      obtain ⟨e1, e2⟩ := sh q m
      rw [e1, e2]
      exact a q m
    · show List.Pairwise _ (greedyL (i + 1) f g r)
      refine List.Pairwise.imp_of_mem (fun {p q} mp mq z => ?_) b
      rw [(sh q mq).1, (sh p mp).2]
      exact z
  | (false, f) :: r, i, h, g, ⟨hz, hf, gd⟩, hgh => by
    have shf : ∀ (g' : Fn κ), ∀ q ∈ greedyL (i + 1) h g' r, ((false, f) :: r)[q - i]? = r[q - (i + 1)]? ∧ heardAt h ((false, f) :: r) (q - i) = heardAt h r (q - (i + 1)) := fun g' q m => by
      have l := greedyL_ge r (i + 1) h g' q m
      have e : q - i = (q - (i + 1)) + 1 := by omega
      rw [e]
      exact ⟨List.getElem?_cons_succ, rfl⟩
    by_cases hg : Le f g
    · have eL : greedyL i h g ((false, f) :: r) = greedyL (i + 1) h g r := if_pos hg
      obtain ⟨a, b⟩ := greedy_apart r (i + 1) h g gd hgh
      rw [eL]
      refine ⟨fun q m => ?_, List.Pairwise.imp_of_mem (fun {p q} mp mq z => ?_) b⟩
      · obtain ⟨e1, e2⟩ := shf g q m
        rw [e1, e2]
        exact a q m
      · rw [(shf g q mq).1, (shf g p mp).2]
        exact z
    · have eL : greedyL i h g ((false, f) :: r) = i :: greedyL (i + 1) h h r := if_neg hg
      obtain ⟨a, b⟩ := greedy_apart r (i + 1) h h gd (Le.refl h)
      rw [eL]
      have e0 : i - i = 0 := Nat.sub_self i
      refine ⟨fun q m => ?_, List.pairwise_cons.mpr ⟨fun q m f' e => ?_, List.Pairwise.imp_of_mem (fun {p q} mp mq z => ?_) b⟩⟩
      · rcases List.mem_cons.mp m with e | m
        · subst e
          rw [e0]
          exact ⟨f, rfl, hg, hf⟩
        · obtain ⟨e1, e2⟩ := shf h q m
          rw [e1, e2]
          obtain ⟨f', k1, k2, k3⟩ := a q m
          exact ⟨f', k1, fun z => k2 (z.trans hgh), k3⟩
      · obtain ⟨e1, e2⟩ := shf h q m
        rw [e1] at e
        obtain ⟨f'', k1, k2, _⟩ := a q m
        rw [k1] at e
        cases e
        rw [e0]
        exact k2
      · rw [(shf h q mq).1, (shf h p mp).2]
        exact z
end
end K82
end
section
set_option maxRecDepth 100000
/-! k82, the texts by places, the data, what all defs share. -/
namespace K82
open PySem L2 Evl
def top (i : Nat) : Stmt := PySem.Challenge.pw_knewbetter_k82_fewest_syncs_and_their_fo.main.body.getD i (.Pass ⟨0, 0, 0, 0⟩)
abbrev sHostInit : Stmt := inClass (top 2) 0
abbrev sRaiseTo : Stmt := top 4
abbrev sBare : Stmt := top 6
abbrev sUnder : Stmt := top 7
abbrev sJoin : Stmt := top 8
abbrev sRow : Stmt := top 10
abbrev sCourse : Stmt := top 11
abbrev sFewest : Stmt := top 12
abbrev sFoe : Stmt := top 14
abbrev sSource : Stmt := top 16
abbrev sPick : Stmt := top 17
abbrev sSame : Stmt := top 18
abbrev sFault : Stmt := top 19
abbrev sLUnder : Stmt := top 20
abbrev sLBare : Stmt := top 21
abbrev sFails : Stmt := top 22
abbrev sMasks : Stmt := top 23
abbrev sAhead : Stmt := top 24
abbrev sKeeps : Stmt := top 25
abbrev sServes : Stmt := top 26
abbrev sRising : Stmt := top 27
abbrev sRule : Stmt := top 28
abbrev sPlay : Stmt := top 29
abbrev sLCourse : Stmt := top 30
abbrev sRefused : Stmt := top 31
abbrev sLaw : Stmt := top 32

/-! ### numbers of packages: a dict of texts and ints -/
abbrev Num := List (Str × Int)
def kv (a : Num) : List (Key × V) := a.map fun p => (Sum.inr p.1, V.int p.2)
def val (a : Num) (p : Str) : Int := (a.lookup p).getD 0
theorem kv_len (a : Num) : (kv a).length = a.length := List.length_map _
theorem kv_keys (a : Num) : (kv a).map (·.1) = (a.map (·.1)).map Sum.inr := by
  unfold kv
  rw [List.map_map, List.map_map]
  rfl
theorem kv_get {a : Num} {i : Nat} {p : Str × Int} (h : a[i]? = some p) : (kv a)[i]? = some (Sum.inr p.1, V.int p.2) := by
  unfold kv
  rw [List.getElem?_map, h]
  rfl
theorem kv_of {a : Num} {i : Nat} {k : Key} {v : V} (h : (kv a)[i]? = some (k, v)) : ∃ p, a[i]? = some p ∧ k = Sum.inr p.1 ∧ v = V.int p.2 := by
  unfold kv at h
  rw [List.getElem?_map] at h
  cases e : a[i]? with
  | none => rw [e] at h; cases h
  | some p =>
    rw [e] at h
    have h : (Sum.inr p.1, V.int p.2) = (k, v) := Option.some.inj h
    cases h
    exact ⟨p, rfl, rfl, rfl⟩
theorem valV_kv : ∀ (a : Num) (p : Str), valV (kv a) (Sum.inr p) = (a.lookup p).map V.int
  | [], p => rfl
  | (q, z) :: r, p => by
    by_cases e : p = q
    · subst e
      have h : valV (kv ((p, z) :: r)) (Sum.inr p) = some (V.int z) := valV_pos rfl
      rw [h]
      simp [List.lookup]
    · have h : valV (kv ((q, z) :: r)) (Sum.inr p) = valV (kv r) (Sum.inr p) := valV_neg (fun z => e (Sum.inr.inj z).symm)
      have e' : (p == q) = false := by simpa using e
      rw [h, valV_kv r p]
      simp [List.lookup, e']
theorem valV_getD (a : Num) (p : Str) : (valV (kv a) (Sum.inr p)).getD (V.int 0) = V.int (val a p) := by
  rw [valV_kv]
  unfold val
  cases a.lookup p <;> rfl
theorem lookup_mem : ∀ {a : Num} {p : Str × Int}, (a.map (·.1)).Nodup → p ∈ a → a.lookup p.1 = some p.2
  | (q, z) :: r, p, nd, h => by
    obtain ⟨n1, n2⟩ := List.nodup_cons.mp nd
    rcases List.mem_cons.mp h with e | h
    · subst e
      simp [List.lookup]
    · have ne : ¬ p.1 = q := fun e => n1 (by rw [← e]; exact List.mem_map.mpr ⟨p, h, rfl⟩)
      have e' : (p.1 == q) = false := by simpa using ne
      simp only [List.lookup, e']
      exact lookup_mem n2 h
/-- one lies below other -/
def under (a b : Num) : Bool := a.all fun p => decide (p.2 ≤ val b p.1)
/-- what is read may be locked meanwhile -/
theorem rd_lock {H : Hp} {d p : Addr} {o : Obj} {a b : Num} (h : H d = some (.dK (kv a))) (r : Rd H p (.dK (kv b))) : Rd (upd H d (.frz o (.dK (kv a)))) p (.dK (kv b)) := by
  by_cases e : p = d
  · subst e
    rcases r with r | ⟨o', r⟩
    · rw [h] at r
      injection r with r
      injection r with r
      rw [← r]
      exact .inr ⟨o, upd_same⟩
    · rw [h] at r
      cases r
  · rcases r with r | ⟨o', r⟩
    · exact .inl ((upd_ne e).trans r)
    · exact .inr ⟨o', (upd_ne e).trans r⟩
/-- behind a lock: what was there is there -/
theorem ex_unlock {H H' : Hp} {d : Addr} {o : Obj} {u : HO} (h : H d = some u) (e : Ex (upd H d (.frz o u)) H') : Ex H (upd H' d u) := fun b w q => by
  by_cases hb : b = d
  · subst hb
    rw [upd_same]
    exact (h.symm.trans q)
  · rw [upd_ne hb]
    exact e b w ((upd_ne hb).trans q)
theorem free_lock {H : Hp} {d p : Addr} {o : HO} (h : upd H d o p = none) : H p = none := by
  unfold upd at h
  split at h
  · cases h
  · exact h
end K82
end
section
set_option maxRecDepth 100000
/-! What more readings evaluate to (behind HandS.Evl). -/
namespace K82
open PySem L2 Evl
/-- some value of which R is true in the heap behind -/
def EvP (te : TE) (σ : L2.St) (H : Hp) (R : V → Hp → Prop) : Prop := ∀ H1, Ex H H1 → ∀ Q : VK, (∀ v H2, Ex H1 H2 → R v H2 → Q v H2) → te σ H1 Q
/-- a new dict -/
def EvD (te : TE) (σ : L2.St) (H : Hp) (kvs : List (Key × V)) : Prop := ∀ H1, Ex H H1 → ∀ Q : VK, (∀ p H2, H1 p = none → Ex H1 H2 → H2 p = some (.dK kvs) → Q (.ref p) H2) → te σ H1 Q
section
variable {K : PySem.W.Frag} {σ : L2.St} {H H' : Hp} {ta tb te tx td ty : TE} {t u : TT} {x y z v : V} {r : R2}
theorem EvP.mono {R : V → Hp → Prop} (e : Ex H H') (h : EvP te σ H R) : EvP te σ H' R := fun H1 a Q q => h H1 (e.trans a) Q q
theorem EvD.mono {kvs : List (Key × V)} (e : Ex H H') (h : EvD te σ H kvs) : EvD te σ H' kvs := fun H1 a Q q => h H1 (e.trans a) Q q
theorem EvU.mono {xs : List V} (e : Ex H H') (h : EvU te σ H xs) : EvU te σ H' xs := fun H1 a Q q => h H1 (e.trans a) Q q
theorem evp_of (h : Ev te σ H v) : EvP te σ H fun x _ => x = v := fun H1 e Q q => h H1 e Q fun H2 e2 => q v H2 e2 rfl
theorem evp_d {kvs : List (Key × V)} (h : EvD te σ H kvs) : EvP te σ H fun x H2 => ∃ p, x = .ref p ∧ H2 p = some (.dK kvs) := fun H1 e Q q => h H1 e Q fun p H2 _ e2 h2 => q _ H2 e2 ⟨p, rfl, h2⟩
theorem evp_l {xs : List V} (h : EvL te σ H xs) : EvP te σ H fun x H2 => ∃ p, x = .ref p ∧ H2 p = some (.lst xs) := fun H1 e Q q => h H1 e Q fun p H2 _ e2 h2 => q _ H2 e2 ⟨p, rfl, h2⟩
theorem evp_u {xs : List V} (h : EvU te σ H xs) : EvP te σ H fun x H2 => ∃ p, x = .ref p ∧ H2 p = some (.tup xs) := fun H1 e Q q => h H1 e Q fun p H2 _ e2 h2 => q _ H2 e2 ⟨p, rfl, h2⟩
/-! ### dicts -/
theorem ev_dget {d : Addr} {a : Num} {p : Str} {n : Int} (h : Ev td σ H (.ref d)) (hk : Ev ty σ H (.str p)) (hr : Rd H d (.dK (kv a))) (hl : a.lookup p = some n) : Ev (tDGet td ty) σ H (.int n) := fun H1 e Q q =>
  h H1 e _ fun H2 e2 => hk H2 (e.trans e2) _ fun H3 e3 => ⟨d, .int n, rfl, .inl ⟨kv a, Sum.inr p, ex_rd ((e.trans e2).trans e3) hr, rfl, by rw [valV_kv, hl] <;> rfl⟩, q H3 (e2.trans e3)⟩
theorem ev_dget2 {d : Addr} {a : Num} {p : Str} (h : Ev td σ H (.ref d)) (hk : Ev ty σ H (.str p)) (hx : Ev tx σ H (.int 0)) (hr : Rd H d (.dK (kv a))) : Ev (tDGet2 td ty tx) σ H (.int (val a p)) := fun H1 e Q q =>
  h H1 e _ fun H2 e2 => ⟨d, rfl, .inl ⟨kv a, ex_rd (e.trans e2) hr⟩, hk H2 (e.trans e2) _ fun H3 e3 => hx H3 ((e.trans e2).trans e3) _ fun H4 e4 =>
    ⟨valV (kv a) (Sum.inr p), .inl ⟨kv a, Sum.inr p, ex_rd (((e.trans e2).trans e3).trans e4) hr, rfl, rfl⟩, by rw [valV_getD]; exact q H4 ((e2.trans e3).trans e4)⟩⟩
theorem ev_all {bs : List Bool} (h : EvL ta σ H (bs.map V.bl)) : Ev (tCB (rAll K) (tCons ta tNil)) σ H (.bl (bs.all id)) := fun H1 e Q q =>
  h H1 e _ fun p H2 _ e2 h2 => ⟨p, bs, rfl, sq_of h2, q H2 e2⟩
theorem ev_any {bs : List Bool} (h : EvL ta σ H (bs.map V.bl)) : Ev (tCB (rAny K) (tCons ta tNil)) σ H (.bl (bs.any id)) := fun H1 e Q q =>
  h H1 e _ fun p H2 _ e2 h2 => ⟨p, bs, rfl, sq_of h2, q H2 e2⟩
theorem ev_sumL {ns : List Int} {r : List V → Hp → VK → Prop} (h : EvL ta σ H (ns.map V.int)) (hr : ∀ p H1, H1 p = some (.lst (ns.map V.int)) → ∀ Q : VK, Q z H1 → r [.ref p] H1 Q) : Ev (tCB r (tCons ta tNil)) σ H z := fun H1 e Q q =>
  h H1 e _ fun p H2 _ e2 h2 => hr p H2 h2 Q (q H2 e2)
/-- [elt for name in d if t], d a dict of texts, locked meanwhile -/
theorem el_lcK {d : Addr} {a : Num} {j : Nat} {vs : List Nat} (f : Nat → Bool) (v : Nat → V) (h : ∀ H1, Ev td σ H1 (.ref d)) (hd : H d = some (.dK (kv a))) (hz : a.length ≤ 40000) (hw : ∀ x, wipe ((wipe σ vs).set j (some x)) vs = wipe σ vs)
    (ht : ∀ (i : Nat) (p : Str × Int) (o : Obj) H1, Ex (upd H d (.frz o (.dK (kv a)))) H1 → a[i]? = some p → EvT t ((wipe σ vs).set j (some (.str p.1))) H1 (f i))
    (he : ∀ (i : Nat) (p : Str × Int) (o : Obj) H1, Ex (upd H d (.frz o (.dK (kv a)))) H1 → a[i]? = some p → f i = true → Ev te ((wipe σ vs).set j (some (.str p.1))) H1 (v i)) :
    EvL (tLockE (tLc (iKeys td) (gName j) t te vs)) σ H (given a.length f v) := fun H0 e0 Q q => by
  have hd0 : H0 d = some (.dK (kv a)) := e0 d _ hd
  refine ⟨d, _, hd0, trivial, fun od => ?_⟩
  have up : ∀ {H1 : Hp}, Ex (upd H0 d (.frz od (.dK (kv a)))) H1 → Ex (upd H d (.frz od (.dK (kv a)))) H1 := fun {H1} e b o hb => by
    refine e b o ?_
    by_cases eb : b = d
    · subst eb
      rw [upd_same] at hb ⊢
      exact hb
    · rw [upd_ne eb] at hb ⊢
      exact e0 b o hb
  refine h _ _ (Ex.refl _) _ fun H1 e1 => ?_
  have hf : H1 d = some (.frz od (.dK (kv a))) := e1 d _ upd_same
  refine ⟨d, od, rfl, .inl ⟨kv a, hf, fun Dl hD => ?_⟩⟩
  have nd : Dl ≠ d := fun z => by rw [z, hf] at hD; cases hD
  refine lc_it (walk_keys (kvs := kv a)) (Cw H1 f v Dl) ⟨hD, Ex.new hD, upd_same⟩ (fun i H' _ p => p.2.1 d _ hf) (fun i x H2 H3 hi p y => ?_) (fun H2 p => ?_)
  · obtain ⟨e3, k, w, hk, ex⟩ := y
    subst e3
    obtain ⟨q, hq, e4, e5⟩ := kv_of hk
    subst ex
    subst e4
    refine ⟨hw _, ?_⟩
    have hi' : i < a.length := (List.getElem?_eq_some_iff.mp hq).1
    exact cw_turn p (by omega) (ht i q od H1 (up e1) hq) fun hf => he i q od H1 (up e1) hq hf
  · rw [kv_len] at p
    obtain ⟨p1, p2, p3⟩ := p
    refine ⟨p2 d _ hf, q Dl _ (free_lock (fresh_back e1 p1)) (ex_unlock hd0 (e1.trans p2)) ?_⟩
    rw [upd_ne nd]
    exact p3
/-- no test -/
theorem et_yes : EvT tYes σ H true := fun H1 _ _ q => q H1 (Ex.refl H1)
theorem given_all {n : Nat} {v : Nat → V} : given n (fun _ => true) v = (List.range n).map v := by
  unfold given
  rw [List.filter_eq_self.mpr (fun _ _ => rfl)]
end
/-- a map over a range that reads a list by its places -/
theorem range_map {α β : Type} (l : List α) (f : Nat → β) (g : α → β) (h : ∀ i x, l[i]? = some x → f i = g x) : (List.range l.length).map f = l.map g := by
  apply List.ext_getElem?
  intro i
  rw [List.getElem?_map, List.getElem?_map]
  by_cases hi : i < l.length
  · rw [List.getElem?_range hi, List.getElem?_eq_getElem hi]
    show some (f i) = some (g l[i])
    rw [h i l[i] (List.getElem?_eq_getElem hi)]
  · rw [List.getElem?_eq_none (by simpa using hi), List.getElem?_eq_none (by simpa using hi)]
    rfl
end K82
end
section
set_option maxRecDepth 100000
/-! Comprehensions whose elements are new objects: what is true of each. -/
namespace K82
open PySem L2 Evl
/-- what was made just now and what is known from before stands in H3 -/
def Foot (H H1 H2 H3 : Hp) : Prop := ∀ a o, H2 a = some o → (H1 a = none ∨ H a ≠ none) → H3 a = some o
/-- a value of which R is true wherever what was made for it, and what was known, stands -/
def EvF (te : TE) (σ : L2.St) (H : Hp) (R : V → Hp → Prop) : Prop := ∀ H1, Ex H H1 → ∀ Q : VK, (∀ v H2, Ex H1 H2 → (∀ H3, Foot H H1 H2 H3 → R v H3) → Q v H2) → te σ H1 Q
/-- all but p stands -/
def But (p : Addr) (H H' : Hp) : Prop := ∀ a o, a ≠ p → H a = some o → H' a = some o
/-- a new list whose items are, place by place, as R tells (of the places in ix) -/
def EvC (te : TE) (σ : L2.St) (H : Hp) (ix : List Nat) (R : Nat → V → Hp → Prop) : Prop := ∀ H1, Ex H H1 → ∀ Q : VK,
  (∀ p H2 acc, H1 p = none → Ex H1 H2 → H2 p = some (.lst acc) → Paired (fun i x => ∀ H3, But p H2 H3 → R i x H3) ix acc → Q (.ref p) H2) → te σ H1 Q
section
variable {K : PySem.W.Frag} {σ : L2.St} {H H' : Hp} {ta tb te tx td ty : TE} {t u : TT} {x y z v : V} {r : R2}
theorem Foot.new {H H1 H2 H3 : Hp} {p : Addr} {o : HO} (f : Foot H H1 H2 H3) (n : H1 p = none) (h : H2 p = some o) : H3 p = some o := f p o h (.inl n)
theorem evf_u {xs : List V} (h : EvU te σ H xs) : EvF te σ H fun x H3 => ∃ p, x = .ref p ∧ H3 p = some (.tup xs) := fun H1 e Q q => h H1 e Q fun p H2 n e2 h2 => q _ H2 e2 fun H3 f => ⟨p, rfl, f.new n h2⟩
theorem evf_l {xs : List V} (h : EvL te σ H xs) : EvF te σ H fun x H3 => ∃ p, x = .ref p ∧ H3 p = some (.lst xs) := fun H1 e Q q => h H1 e Q fun p H2 n e2 h2 => q _ H2 e2 fun H3 f => ⟨p, rfl, f.new n h2⟩
theorem evf_d {xs : List (Key × V)} (h : EvD te σ H xs) : EvF te σ H fun x H3 => ∃ p, x = .ref p ∧ H3 p = some (.dK xs) := fun H1 e Q q => h H1 e Q fun p H2 n e2 h2 => q _ H2 e2 fun H3 f => ⟨p, rfl, f.new n h2⟩
theorem evf_v (h : Ev te σ H v) : EvF te σ H fun x _ => x = v := fun H1 e Q q => h H1 e Q fun H2 e2 => q _ H2 e2 fun _ _ => rfl
theorem EvF.imp {R R' : V → Hp → Prop} (h : EvF te σ H R) (i : ∀ v H3, R v H3 → R' v H3) : EvF te σ H R' := fun H1 e Q q => h H1 e Q fun v H2 e2 f => q v H2 e2 fun H3 g => i v H3 (f H3 g)
/-- (a, b), b a new dict -/
theorem evf_tupD {kvs : List (Key × V)} (ha : Ev ta σ H x) (hb : EvD tb σ H kvs) : EvF (tTup (tCons ta (tCons tb tNil))) σ H fun v H3 => ∃ p d, v = .ref p ∧ H3 p = some (.tup [x, .ref d]) ∧ H3 d = some (.dK kvs) := fun H1 e Q q =>
  ha H1 e _ fun H2 e2 => hb H2 (e.trans e2) _ fun d H3 hd e3 h3 => ⟨by show 2 ≤ sizeLine; decide, fun p hp => by
    have ndp : d ≠ p := fun z => by rw [← z, h3] at hp; cases hp
    refine q _ _ ((e2.trans e3).trans (Ex.new hp)) fun H4 f => ⟨p, d, rfl, ?_, ?_⟩
    · exact f.new (fresh_back (e2.trans e3) hp) upd_same
    · exact f.new (fresh_back e2 hd) ((upd_ne ndp).trans h3)⟩
/-- the turns of a comprehension: what holds between them -/
def Cc (H : Hp) (f : Nat → Bool) (R : Nat → V → Hp → Prop) (D : Addr) (i : Nat) (H' : Hp) : Prop :=
  H D = none ∧ Ex H H' ∧ ∃ acc, H' D = some (.lst acc) ∧ acc.length ≤ i ∧ Paired (fun i x => ∀ H3, But D H' H3 → R i x H3) ((List.range i).filter f) acc
theorem paired_snoc {α β : Type} {F : α → β → Prop} : ∀ {l : List α} {m : List β} {a : α} {b : β}, Paired F l m → F a b → Paired F (l ++ [a]) (m ++ [b])
  | _, _, _, _, .nil, h => .cons h .nil
  | _, _, _, _, .cons r t, h => .cons r (paired_snoc t h)
theorem paired_mono {α β : Type} {F G : α → β → Prop} : ∀ {l : List α} {m : List β}, Paired F l m → (∀ a b, F a b → G a b) → Paired G l m
  | _, _, .nil, _ => .nil
  | _, _, .cons r t, h => .cons (h _ _ r) (paired_mono t h)
theorem cc_start {f : Nat → Bool} {R : Nat → V → Hp → Prop} {D : Addr} (hD : H D = none) : Cc H f R D 0 (upd H D (.lst [])) := ⟨hD, Ex.new hD, [], upd_same, Nat.le_refl _, .nil⟩
theorem cc_turn {f : Nat → Bool} {R : Nat → V → Hp → Prop} {D : Addr} {i : Nat} {σ2 : L2.St} (p : Cc H f R D i H') (hi : i < 50000) (ht : EvT t σ2 H (f i)) (he : f i = true → EvF te σ2 H (R i)) :
    t σ2 H' fun b H3 => if b = true then te σ2 H3 fun y H4 => ∃ acc, H4 D = some (.lst acc) ∧ acc.length < sizeLine ∧ Cc H f R D (i + 1) (upd H4 D (.lst (acc ++ [y]))) else Cc H f R D (i + 1) H3 := by
  obtain ⟨p1, p2, acc, p3, p4, p5⟩ := p
  refine ht H' p2 _ fun H3 e3 => ?_
  have h3 : H3 D = some (.lst acc) := e3 D _ p3
  cases hf : f i with
  | true =>
    show te σ2 H3 fun y H4 => ∃ acc, H4 D = some (.lst acc) ∧ acc.length < sizeLine ∧ Cc H f R D (i + 1) (upd H4 D (.lst (acc ++ [y])))
    refine he hf H3 (p2.trans e3) _ fun v H4 e4 hv => ⟨acc, e4 D _ h3, sz_lt (by omega), p1, Ex.mut ((p2.trans e3).trans e4) p1, acc ++ [v], upd_same, by simp; omega, ?_⟩
    have eR : (List.range (i + 1)).filter f = (List.range i).filter f ++ [i] := by
      rw [List.range_succ, List.filter_append, List.filter_cons, if_pos hf]
      rfl
    rw [eR]
    refine paired_snoc (paired_mono p5 fun j x hx H5 b => hx H5 fun a o na ha => b a o na ?_) fun H5 b => hv H5 fun a o ha hn => b a o ?_ ?_
    · rw [upd_ne na]
      exact e4 a o (e3 a o ha)
    · rintro rfl
      rcases hn with hn | hn
      · rw [h3] at hn; cases hn
      · exact hn p1
    · have na : a ≠ D := by
        rintro rfl
        rcases hn with hn | hn
        · rw [h3] at hn; cases hn
        · exact hn p1
      rw [upd_ne na]
      exact ha
  | false =>
    show Cc H f R D (i + 1) H3
    have eR : (List.range (i + 1)).filter f = (List.range i).filter f := by
      rw [List.range_succ, List.filter_append, List.filter_cons, if_neg (by rw [hf]; decide)]
      exact List.append_nil _
    refine ⟨p1, p2.trans e3, acc, h3, by omega, ?_⟩
    rw [eR]
    exact paired_mono p5 fun j x hx H5 b => hx H5 fun a o na ha => b a o na (e3 a o ha)
/-- [elt for x in xs if t], xs a list that stands -/
theorem ec_lcL {a : Addr} {xs : List V} {tl : TE} {j : Nat} {vs : List Nat} (f : Nat → Bool) (R : Nat → V → Hp → Prop) (h : Ev tl σ H (.ref a)) (hx : SqL K H a xs) (hz : xs.length ≤ 40000) (hw : ∀ x, wipe ((wipe σ vs).set j (some x)) vs = wipe σ vs)
    (ht : ∀ (i : Nat) (x : V) H1, Ex H H1 → xs[i]? = some x → EvT t ((wipe σ vs).set j (some x)) H1 (f i)) (he : ∀ (i : Nat) (x : V) H1, Ex H H1 → xs[i]? = some x → f i = true → EvF te ((wipe σ vs).set j (some x)) H1 (R i)) :
    EvC (tLc (iList K tl) (gName j) t te vs) σ H ((List.range xs.length).filter f) R := fun H0 e Q q => h H0 e _ fun H1 e1 => ⟨a, rfl, ⟨xs, ex_l (e.trans e1) hx⟩, fun Dl hD =>
  lc_list (xs := xs) (Cc H1 f R Dl) (cc_start hD) (fun i H' _ p => ex_l ((e.trans e1).trans p.2.1) hx) (fun i x H' hi p => ⟨hw x, cc_turn p (by have := (List.getElem?_eq_some_iff.mp hi).1; omega) (ht i x H1 (e.trans e1) hi) (fun hf => he i x H1 (e.trans e1) hi hf)⟩)
    (fun H' ⟨p1, p2, acc, p3, _, p5⟩ => q Dl H' acc (fresh_back e1 p1) (e1.trans p2) p3 p5)⟩
/-- .. over a list that is made in its place -/
theorem ec_lcNL {xs : List V} {tl : TE} {j : Nat} {vs : List Nat} (f : Nat → Bool) (R : Nat → V → Hp → Prop) (h : EvL tl σ H xs) (hz : xs.length ≤ 40000) (hw : ∀ x, wipe ((wipe σ vs).set j (some x)) vs = wipe σ vs)
    (ht : ∀ (i : Nat) (x : V) H1, Ex H H1 → xs[i]? = some x → EvT t ((wipe σ vs).set j (some x)) H1 (f i)) (he : ∀ (i : Nat) (x : V) H1, Ex H H1 → xs[i]? = some x → f i = true → EvF te ((wipe σ vs).set j (some x)) H1 (R i)) :
    EvC (tLc (iList K tl) (gName j) t te vs) σ H ((List.range xs.length).filter f) R := fun H0 e Q q => h H0 e _ fun a H1 ha e1 hx => ⟨a, rfl, ⟨xs, sq_of hx⟩, fun Dl hD =>
  lc_list (xs := xs) (Cc H1 f R Dl) (cc_start hD) (fun i H' _ p => sq_of (p.2.1 a _ hx)) (fun i x H' hi p => ⟨hw x, cc_turn p (by have := (List.getElem?_eq_some_iff.mp hi).1; omega) (ht i x H1 (e.trans e1) hi) (fun hf => he i x H1 (e.trans e1) hi hf)⟩)
    (fun H' ⟨p1, p2, acc, p3, _, p5⟩ => q Dl H' acc (fresh_back e1 p1) (e1.trans p2) p3 p5)⟩
/-- .. over a locked dict of texts -/
theorem ec_lcK {d : Addr} {a : Num} {j : Nat} {vs : List Nat} (f : Nat → Bool) (R : Nat → V → Hp → Prop) (h : ∀ H1, Ev td σ H1 (.ref d)) (hd : H d = some (.dK (kv a))) (hz : a.length ≤ 40000) (hw : ∀ x, wipe ((wipe σ vs).set j (some x)) vs = wipe σ vs)
    (hR : ∀ i x H1 o, R i x (upd H1 d (.frz o (.dK (kv a)))) → R i x (upd H1 d (.dK (kv a))))
    (ht : ∀ (i : Nat) (p : Str × Int) (o : Obj) H1, Ex (upd H d (.frz o (.dK (kv a)))) H1 → a[i]? = some p → EvT t ((wipe σ vs).set j (some (.str p.1))) H1 (f i))
    (he : ∀ (i : Nat) (p : Str × Int) (o : Obj) H1, Ex (upd H d (.frz o (.dK (kv a)))) H1 → a[i]? = some p → f i = true → EvF te ((wipe σ vs).set j (some (.str p.1))) H1 (R i)) :
    EvC (tLockE (tLc (iKeys td) (gName j) t te vs)) σ H ((List.range a.length).filter f) R := fun H0 e0 Q q => by
  have hd0 : H0 d = some (.dK (kv a)) := e0 d _ hd
  refine ⟨d, _, hd0, trivial, fun od => ?_⟩
  have up : ∀ {H1 : Hp}, Ex (upd H0 d (.frz od (.dK (kv a)))) H1 → Ex (upd H d (.frz od (.dK (kv a)))) H1 := fun {H1} e b o hb => by
    refine e b o ?_
    by_cases eb : b = d
    · subst eb
      rw [upd_same] at hb ⊢
      exact hb
    · rw [upd_ne eb] at hb ⊢
      exact e0 b o hb
  refine h _ _ (Ex.refl _) _ fun H1 e1 => ?_
  have hf : H1 d = some (.frz od (.dK (kv a))) := e1 d _ upd_same
  refine ⟨d, od, rfl, .inl ⟨kv a, hf, fun Dl hD => ?_⟩⟩
  have nd : Dl ≠ d := fun z => by rw [z, hf] at hD; cases hD
  refine lc_it (walk_keys (kvs := kv a)) (Cc H1 f R Dl) (cc_start hD) (fun i H' _ p => p.2.1 d _ hf) (fun i x H2 H3 hi p y => ?_) (fun H2 p => ?_)
  · obtain ⟨e3, k, w, hk, ex⟩ := y
    subst e3
    obtain ⟨q, hq, e4, e5⟩ := kv_of hk
    subst ex
    subst e4
    refine ⟨hw _, ?_⟩
    have hi' : i < a.length := (List.getElem?_eq_some_iff.mp hq).1
    exact cc_turn p (by omega) (ht i q od H1 (up e1) hq) fun hf => he i q od H1 (up e1) hq hf
  · rw [kv_len] at p
    obtain ⟨p1, p2, acc, p3, _, p5⟩ := p
    refine ⟨p2 d _ hf, q Dl _ acc (free_lock (fresh_back e1 p1)) (ex_unlock hd0 (e1.trans p2)) ((upd_ne nd).trans p3) (paired_mono p5 fun i x hx H5 b => ?_)⟩
    have k1 : R i x (upd H5 d (.frz od (.dK (kv a)))) := hx _ fun b' o' nb hb => by
      by_cases eb : b' = d
      · subst eb
        rw [p2 _ _ hf] at hb
        rw [upd_same]
        exact hb
      · rw [upd_ne eb]
        exact b b' o' nb ((upd_ne eb).trans hb)
    have k2 := hR i x H5 od k1
    have e5 : upd H5 d (.dK (kv a)) = H5 := by
      funext c
      by_cases ec : c = d
      · subst ec
        rw [upd_same]
        exact (b c _ (Ne.symm nd) upd_same).symm
      · rw [upd_ne ec]
    rw [e5] at k2
    exact k2
end
end K82
end
section
set_option maxRecDepth 100000
/-! bare: the numbers without zeros, by their names. -/
namespace K82
open PySem L2 Evl PyProof.Rows PySem.Spec
/-! ### the one order of texts -/
def leS (x y : Str) : Prop := x.cps.toList ≤ y.cps.toList
instance (x y : Str) : Decidable (leS x y) := inferInstanceAs (Decidable (x.cps.toList ≤ y.cps.toList))
theorem leS_trans {x y z : Str} (a : leS x y) (b : leS y z) : leS x z := List.le_trans a b
theorem leS_total (x y : Str) : leS x y ∨ leS y x := List.le_total _ _
theorem leS_anti {x y : Str} (a : leS x y) (b : leS y x) : x = y := by
  have e : x.cps.toList = y.cps.toList := List.le_antisymm a b
  cases x
  cases y
  have e' := Array.toList_inj.mp e
  simp only at e'
  rw [e']
def sortK (ks : List Str) : List Str := ks.mergeSort fun x y => decide (leS x y)
theorem sortK_perm (ks : List Str) : (sortK ks).Perm ks := List.mergeSort_perm _ _
theorem sortK_asc (ks : List Str) : (sortK ks).Pairwise leS := by
  have h := List.pairwise_mergeSort (le := fun x y : Str => decide (leS x y)) (fun a b c h1 h2 => decide_eq_true (leS_trans (of_decide_eq_true h1) (of_decide_eq_true h2)))
    (fun a b => by rcases leS_total a b with h | h <;> simp [h]) ks
  exact h.imp fun h => of_decide_eq_true h
theorem rising_asc : ∀ (l : List Str) (p : Str), risingS p l = true → (∀ x ∈ l, leS p x) ∧ l.Pairwise leS
  | [], p, _ => ⟨fun x h => absurd h (by simp), List.Pairwise.nil⟩
  | y :: r, p, h => by
    have h : (!ltCps y.cps.toList p.cps.toList && risingS y r) = true := h
    rw [Bool.and_eq_true, Bool.not_eq_true'] at h
    obtain ⟨h1, h2⟩ := h
    obtain ⟨a, b⟩ := rising_asc r y h2
    have py : leS p y := by
      rw [ltCps_eq] at h1
      exact of_decide_eq_false h1
    refine ⟨fun x hx => ?_, List.pairwise_cons.mpr ⟨a, b⟩⟩
    rcases List.mem_cons.mp hx with e | hx
    · rw [e]; exact py
    · exact leS_trans py (a x hx)
theorem sortedS_asc : ∀ {l : List Str}, sortedS l = true → l.Pairwise leS
  | [], _ => List.Pairwise.nil
  | x :: r, h => List.pairwise_cons.mpr (rising_asc r x h)
theorem sortK_only {ys ks : List Str} (p : ys.Perm ks) (s : sortedS ys = true) : ys = sortK ks :=
  List.Perm.eq_of_pairwise (le := leS) (fun a b _ _ h1 h2 => leS_anti h1 h2) (sortedS_asc s) (sortK_asc ks) (p.trans (sortK_perm ks).symm)
/-! ### the numbers without zeros -/
abbrev names (a : Num) : List Str := a.map (·.1)
def bareOf (a : Num) : Num := ((sortK (names a)).filter fun k => !decide (val a k = 0)).map fun k => (k, val a k)
theorem sortK_nodup {ks : List Str} (h : ks.Nodup) : (sortK ks).Nodup := (sortK_perm ks).nodup_iff.mpr h
theorem bare_names (a : Num) : names (bareOf a) = (sortK (names a)).filter fun k => !decide (val a k = 0) := by
  unfold names bareOf
  rw [List.map_map]
  exact List.map_id _
theorem bare_nodup {a : Num} (h : (names a).Nodup) : (names (bareOf a)).Nodup := by
  rw [bare_names]
  exact (sortK_nodup h).sublist List.filter_sublist
theorem bare_len (a : Num) : (bareOf a).length ≤ a.length := by
  unfold bareOf
  rw [List.length_map]
  refine Nat.le_trans (List.length_filter_le _ _) ?_
  rw [(sortK_perm _).length_eq, List.length_map]
  exact Nat.le_refl _
theorem lookup_none : ∀ {a : Num} {p : Str}, p ∉ names a → a.lookup p = none
  | [], p, _ => rfl
  | (q, z) :: r, p, h => by
    have ne : ¬ p = q := fun e => h (by rw [e]; exact List.mem_cons_self)
    have e' : (p == q) = false := by simpa using ne
    simp only [List.lookup, e']
    exact lookup_none fun m => h (List.mem_cons_of_mem _ m)
theorem val_mem {a : Num} {p : Str × Int} (nd : (names a).Nodup) (h : p ∈ a) : val a p.1 = p.2 := by
  unfold val
  rw [lookup_mem nd h]
  rfl
theorem val_out {a : Num} {p : Str} (h : p ∉ names a) : val a p = 0 := by
  unfold val
  rw [lookup_none h]
  rfl
theorem val_bare {a : Num} (nd : (names a).Nodup) (p : Str) : val (bareOf a) p = val a p := by
  by_cases h : p ∈ names (bareOf a)
  · obtain ⟨q, hq, e⟩ := List.mem_map.mp h
    have e2 := val_mem (bare_nodup nd) hq
    have e : q.1 = p := e
    rw [e] at e2
    rw [e2]
    unfold bareOf at hq
    obtain ⟨k, hk, e3⟩ := List.mem_map.mp hq
    subst e3
    have e : k = p := e
    rw [e]
  · rw [val_out h]
    rw [bare_names] at h
    by_cases h2 : p ∈ names a
    · have h3 : p ∈ sortK (names a) := (sortK_perm _).mem_iff.mpr h2
      by_cases e : val a p = 0
      · exact e.symm
      · exact absurd (List.mem_filter.mpr ⟨h3, by simp [e]⟩) h
    · exact (val_out h2).symm
/-! ### the readings -/
abbrev rSortD : List V → Hp → VK → Prop := fun xs H Q => ∃ (a : Addr) (kvs : List (Key × V)) (ks : List Str), xs = [.ref a] ∧ Rd H a (.dK kvs) ∧ kvs.map (·.1) = ks.map Sum.inr ∧ ks.length < 64 ∧
    ∀ ys p, ys.Perm ks → sortedS ys = true → H p = none → Q (.ref p) (upd H p (.lst (ys.map V.str)))
section
variable {K : PySem.W.Frag} {σ : L2.St} {H H' : Hp} {ta tb te tx td ty tk tv tl : TE} {t u : TT} {x y z v : V} {r : R2}
theorem el_sortD {d : Addr} {a : Num} (h : Ev ta σ H (.ref d)) (hr : Rd H d (.dK (kv a))) (hz : a.length < 64) : EvL (tCB rSortD (tCons ta tNil)) σ H ((sortK (names a)).map V.str) := fun H1 e Q q =>
  h H1 e _ fun H2 e2 => ⟨d, kv a, names a, rfl, ex_rd (e.trans e2) hr, kv_keys a, by rw [List.length_map]; exact hz, fun ys p hp hs hn => by
    rw [sortK_only hp hs]
    exact q p _ (fresh_back e2 hn) (e2.trans (Ex.new hn)) upd_same⟩
def DcW (H : Hp) (ys : List Str) (f : Str → Bool) (g : Str → Int) (D : Addr) (i : Nat) (H' : Hp) : Prop :=
  H D = none ∧ Ex H H' ∧ H' D = some (.dK (kv (((ys.take i).filter f).map fun k => (k, g k))))
theorem kv_put {a : Num} {k : Str} {n : Int} (h : k ∉ names a) : putK (kv a) (Sum.inr k) (V.int n) = kv (a ++ [(k, n)]) := by
  have e : valV (kv a) (Sum.inr k) = none := by rw [valV_kv, lookup_none h] <;> rfl
  rw [putK_new _ e]
  unfold kv
  rw [List.map_append]
  rfl
/-- {name: n for name in names if t}, the names a list that is made in its place -/
theorem ed_dcNames {ys : List Str} {j : Nat} {vs : List Nat} (f : Str → Bool) (g : Str → Int) (nd : ys.Nodup) (hz : ys.length ≤ 40000) (h : EvL tl σ H (ys.map V.str)) (hw : ∀ x, wipe ((wipe σ vs).set j (some x)) vs = wipe σ vs)
    (ht : ∀ k H1, Ex H H1 → k ∈ ys → EvT t ((wipe σ vs).set j (some (.str k))) H1 (f k)) (hk : ∀ k H1, Ex H H1 → k ∈ ys → f k = true → Ev tk ((wipe σ vs).set j (some (.str k))) H1 (.str k))
    (he : ∀ k H1, Ex H H1 → k ∈ ys → f k = true → Ev tv ((wipe σ vs).set j (some (.str k))) H1 (.int (g k))) :
    EvD (tDc (iList K tl) (gName j) t tk tv vs) σ H (kv ((ys.filter f).map fun k => (k, g k))) := fun H0 e0 Q q => h H0 e0 _ fun a H1 ha e1 hx => ⟨a, rfl, ⟨_, sq_of hx⟩, fun D hD => by
  refine ⟨fun i m H' => m = ys.length - i ∧ i ≤ ys.length ∧ DcW H1 ys f g D i H', ⟨ys.length, by simp, Nat.zero_le _, hD, Ex.new hD, upd_same⟩, ?_⟩
  rintro i m H' ⟨rfl, hi, p1, p2, p3⟩
  have hl : SqL K H' a (ys.map V.str) := sq_of (p2 a _ hx)
  by_cases hlt : i < ys.length
  · refine .inr ⟨⟨ys.map V.str, V.str ys[i], hl, by simp [hlt]⟩, fun H2 => DcW H1 ys f g D (i + 1) H2, fun H2 p' => ⟨ys.length - (i + 1), by omega, rfl, hlt, p'⟩, fun x H2 y => ?_⟩
    obtain ⟨e2, y⟩ := y
    subst e2
    have y := y _ hl
    rw [List.getElem?_map, List.getElem?_eq_getElem hlt] at y
    have ex : V.str ys[i] = x := Option.some.inj y
    subst ex
    have hm : ys[i] ∈ ys := List.getElem_mem hlt
    have et : ys.take (i + 1) = ys.take i ++ [ys[i]] := by rw [List.take_add_one, List.getElem?_eq_getElem hlt]; rfl
    refine ⟨hw _, ?_⟩
    refine ht _ _ (e0.trans e1) hm H2 p2 _ fun H3 e3 => ?_
    cases hf : f ys[i] with
    | true =>
      show tk _ H3 fun y H4 => tv _ H4 fun z H5 => ∃ kvs k, y = kV k ∧ H5 D = some (.dK kvs) ∧ kvs.length < sizeLine ∧ DcW H1 ys f g D (i + 1) (upd H5 D (.dK (putK kvs k z)))
      refine hk _ _ (e0.trans e1) hm hf H3 (p2.trans e3) _ fun H4 e4 => ?_
      refine he _ _ (e0.trans e1) hm hf H4 ((p2.trans e3).trans e4) _ fun H5 e5 => ?_
      have h5 : H5 D = some (.dK (kv (((ys.take i).filter f).map fun k => (k, g k)))) := e5 D _ (e4 D _ (e3 D _ p3))
      refine ⟨_, Sum.inr ys[i], rfl, h5, ?_, p1, Ex.mut (((p2.trans e3).trans e4).trans e5) p1, ?_⟩
      · rw [kv_len, List.length_map]
        refine sz_lt ?_
        have := List.length_filter_le f (ys.take i)
        rw [List.length_take] at this
        omega
      · rw [upd_same, kv_put ?_, et, List.filter_append, List.filter_cons, if_pos hf]
        · show some (HO.dK (kv (_ ++ _))) = some (HO.dK (kv (List.map _ (_ ++ [_]))))
          rw [List.map_append]
          rfl
        · intro m
          unfold names at m
          rw [List.map_map] at m
          have m : ys[i] ∈ (ys.take i).filter f := by simpa using m
          have m := (List.mem_filter.mp m).1
          obtain ⟨j', hj, ej⟩ := List.mem_take_iff_getElem.mp m
          have hjl : j' < ys.length := by omega
          have := (List.getElem_inj (h₀ := hjl) (h₁ := hlt) nd).mp ej
          omega
    | false =>
      show DcW H1 ys f g D (i + 1) H3
      refine ⟨p1, p2.trans e3, ?_⟩
      rw [et, List.filter_append, List.filter_cons, if_neg (by rw [hf]; decide)]
      show H3 D = some (HO.dK (kv (List.map _ (_ ++ []))))
      rw [List.append_nil]
      exact e3 D _ p3
  · have ei : i = ys.length := by omega
    subst ei
    rw [List.take_length] at p3
    exact .inl ⟨⟨_, hl, by simp⟩, q D H' (fresh_back e1 p1) (e1.trans p2) p3⟩⟩
end
end K82
end
section
set_option maxRecDepth 100000
namespace K82
open PySem L2 Evl
/-- is_under, _law_is_under: one's numbers are not above other's -/
def spUnder : Sp := fun vs H Q _ => ∃ (one other : Addr) (a b : Num), vs = [.ref one, .ref other] ∧ H one = some (.dK (kv a)) ∧ (a.map (·.1)).Nodup ∧ a.length ≤ 40000 ∧ Rd H other (.dK (kv b)) ∧ RetV (.bl (under a b)) H Q
structure TxtU (mg : Str → Option Value) : Prop where
  all : mg "all" = none
section
variable {P : Program} {w : World} {K : PySem.W.Frag} {mg : Str → Option Value} {base : Heap}
theorem scUnder : FnScope ["one", "other", "package"] ["one", "other"] (defScope sUnder) := ⟨rfl, rfl, rfl, by decide +kernel, rfl, by decide +kernel, by decide +kernel⟩
theorem ok_under {f : Addr} {fd : FuncData} (F : Fun K "is_under" "is_under" sUnder f fd) (T : TxtU mg) : FnOk P w K mg base CX0 1 f fd ["one", "other"] spUnder := by
  refine F.ok scUnder (fun vs H Q E h => ?_) (fun cdv A outer s H vs Q E hr h => ?_)
  · obtain ⟨one, other, a, b, rfl, _⟩ := h
    rfl
  · obtain ⟨one, other, a, b, rfl, h1, nd, hz, h2, k⟩ := h
    have hu := hu_of hr
    refine ⟨_, pss_one (ps_ret (pe_callB (cr_all rfl) (by rfl) T.all (by decide +kernel) (pa_cons (pe_lock (pe_lc (own := [("package", 2)]) (g := gName 2) (tt := tYes) rfl scUnder.nd (pi_keys (pv 0)) (blkOk_by (N := ["one", "other", "package"]) (sc := defScope sUnder) (by decide +kernel))
      (fun _ _ _ _ _ => pg_name (i := 2) scUnder.nd rfl (Or.inl rfl)) (fun _ _ _ _ _ => pts_nil)
      (fun _ _ _ _ _ => pe_cmpR op_le (pe_dget hu (pv 0) (pv 2) (fun _ _ => rfl)) (pe_dget2 hu (pv 1) (pv 2) pe_int ⟨rfl, rfl, rfl, rfl⟩) (nomark _)))) pa_nil))), ?_⟩
    refine s_ret (v := .bl (under a b)) ?_ k
    have eU : (List.range a.length).map (fun i => V.bl (decide ((a.getD i default).2 ≤ val b (a.getD i default).1))) = (a.map fun p => decide (p.2 ≤ val b p.1)).map V.bl := by
      rw [List.map_map]
      exact range_map a _ _ fun i x hx => by
        have e : a.getD i default = x := by rw [List.getD_eq_getElem?_getD, hx] <;> rfl
        rw [e]
        rfl
    have e2 : (a.map fun p => decide (p.2 ≤ val b p.1)).all id = under a b := by
      unfold under
      rw [List.all_map]
      rfl
    rw [← e2]
    refine ev_all ?_
    rw [← eU, ← given_all]
    refine el_lcK (fun _ => true) (fun i => V.bl (decide ((a.getD i default).2 ≤ val b (a.getD i default).1))) (fun H1 => ev_var rfl) h1 hz (fun _ => rfl) (fun i p o H1 _ _ => et_yes) (fun i p o H1 e1 hp _ => ?_)
    have e : a.getD i default = p := by rw [List.getD_eq_getElem?_getD, hp] <;> rfl
    rw [e]
    refine ev_op (x := .int p.2) (y := .int (val b p.1)) ?_ ?_ rv_I0
    · exact ev_dget (a := a) (ev_var rfl) (ev_var rfl) (.inr ⟨o, e1 one _ upd_same⟩) (lookup_mem nd (List.mem_of_getElem? hp))
    · exact ev_dget2 (a := b) (ev_var rfl) (ev_var rfl) ev_c (ex_rd e1 (rd_lock h1 h2))
theorem scLUnder : FnScope ["one", "other", "package"] ["one", "other"] (defScope sLUnder) := ⟨rfl, rfl, rfl, by decide +kernel, rfl, by decide +kernel, by decide +kernel⟩
theorem ok_lunder {f : Addr} {fd : FuncData} (F : Fun K "_law_is_under" "_law_is_under" sLUnder f fd) (T : TxtU mg) : FnOk P w K mg base CX0 1 f fd ["one", "other"] spUnder := by
  refine F.ok scLUnder (fun vs H Q E h => ?_) (fun cdv A outer s H vs Q E hr h => ?_)
  · obtain ⟨one, other, a, b, rfl, _⟩ := h
    rfl
  · obtain ⟨one, other, a, b, rfl, h1, nd, hz, h2, k⟩ := h
    have hu := hu_of hr
    refine ⟨_, pss_one (ps_ret (pe_callB (cr_all rfl) (by rfl) T.all (by decide +kernel) (pa_cons (pe_lock (pe_lc (own := [("package", 2)]) (g := gName 2) (tt := tYes) rfl scLUnder.nd (pi_keys (pv 0)) (blkOk_by (N := ["one", "other", "package"]) (sc := defScope sLUnder) (by decide +kernel))
      (fun _ _ _ _ _ => pg_name (i := 2) scLUnder.nd rfl (Or.inl rfl)) (fun _ _ _ _ _ => pts_nil)
      (fun _ _ _ _ _ => pe_cmpR op_le (pe_dget hu (pv 0) (pv 2) (fun _ _ => rfl)) (pe_dget2 hu (pv 1) (pv 2) pe_int ⟨rfl, rfl, rfl, rfl⟩) (nomark _)))) pa_nil))), ?_⟩
    refine s_ret (v := .bl (under a b)) ?_ k
    have eU : (List.range a.length).map (fun i => V.bl (decide ((a.getD i default).2 ≤ val b (a.getD i default).1))) = (a.map fun p => decide (p.2 ≤ val b p.1)).map V.bl := by
      rw [List.map_map]
      exact range_map a _ _ fun i x hx => by
        have e : a.getD i default = x := by rw [List.getD_eq_getElem?_getD, hx] <;> rfl
        rw [e]
        rfl
    have e2 : (a.map fun p => decide (p.2 ≤ val b p.1)).all id = under a b := by
      unfold under
      rw [List.all_map]
      rfl
    rw [← e2]
    refine ev_all ?_
    rw [← eU, ← given_all]
    refine el_lcK (fun _ => true) (fun i => V.bl (decide ((a.getD i default).2 ≤ val b (a.getD i default).1))) (fun H1 => ev_var rfl) h1 hz (fun _ => rfl) (fun i p o H1 _ _ => et_yes) (fun i p o H1 e1 hp _ => ?_)
    have e : a.getD i default = p := by rw [List.getD_eq_getElem?_getD, hp] <;> rfl
    rw [e]
    refine ev_op (x := .int p.2) (y := .int (val b p.1)) ?_ ?_ rv_I0
    · exact ev_dget (a := a) (ev_var rfl) (ev_var rfl) (.inr ⟨o, e1 one _ upd_same⟩) (lookup_mem nd (List.mem_of_getElem? hp))
    · exact ev_dget2 (a := b) (ev_var rfl) (ev_var rfl) ev_c (ex_rd e1 (rd_lock h1 h2))
end
end K82
end
section
set_option maxRecDepth 100000
/-! bare, raise_to, join_states, _law_bare. -/
namespace K82
open PySem L2 Evl
/-- a new dict is handed back -/
def RetD (kvs : List (Key × V)) (H : Hp) (Q : VK) : Prop := ∀ p H2, H p = none → Ex H H2 → H2 p = some (.dK kvs) → Q (.ref p) H2
/-- bare, _law_bare -/
def spBare : Sp := fun vs H Q _ => ∃ (d : Addr) (a : Num), vs = [.ref d] ∧ Rd H d (.dK (kv a)) ∧ (names a).Nodup ∧ a.length < 64 ∧ RetD (kv (bareOf a)) H Q
structure TxtB (mg : Str → Option Value) : Prop where
  srt : mg "sorted" = none
  dct : mg "dict" = none
section
variable {K : PySem.W.Frag} {σ : L2.St} {H H' : Hp} {ta tb te tx td ty tk tv tl : TE} {t u : TT} {x y z v : V} {r : R2}
variable {D : Ends}
theorem s_retD {kvs : List (Key × V)} (h : EvD te σ H kvs) (k : ∀ p H1, H p = none → Ex H H1 → H1 p = some (.dK kvs) → D.rt (.ref p) H1) : tRet te D σ H := h H (Ex.refl H) _ fun p H1 hp e h1 => k p H1 hp e h1
theorem lookup_has : ∀ {a : Num} {k : Str}, k ∈ names a → ∃ n, a.lookup k = some n
  | (q, z) :: r, k, h => by
    by_cases e : k = q
    · subst e
      exact ⟨z, by simp [List.lookup]⟩
    · have e' : (k == q) = false := by simpa using e
      have h' : k ∈ names r := (List.mem_cons.mp h).resolve_left e
      obtain ⟨n, hn⟩ := lookup_has h'
      exact ⟨n, by simp only [List.lookup, e']; exact hn⟩
theorem lookup_val {a : Num} {k : Str} (h : k ∈ names a) : a.lookup k = some (val a k) := by
  obtain ⟨n, hn⟩ := lookup_has h
  unfold val
  rw [hn]
  rfl
end
section
variable {P : Program} {w : World} {K : PySem.W.Frag} {mg : Str → Option Value} {base : Heap}
theorem scBare : FnScope ["numbers", "package"] ["numbers"] (defScope sBare) := ⟨rfl, rfl, rfl, by decide +kernel, rfl, by decide +kernel, by decide +kernel⟩
theorem ok_bare {f : Addr} {fd : FuncData} (F : Fun K "bare" "bare" sBare f fd) (T : TxtB mg) : FnOk P w K mg base CX0 1 f fd ["numbers"] spBare := by
  refine F.ok scBare (fun vs H Q E h => ?_) (fun cdv A outer s H vs Q E hr h => ?_)
  · obtain ⟨d, a, rfl, _⟩ := h
    rfl
  · obtain ⟨d, a, rfl, h1, nd, hz, k⟩ := h
    have hu := hu_of hr
    refine ⟨_, pss_one (ps_ret (pe_dc (own := [("package", 1)]) (g := gName 1) rfl scBare.nd (pi_list (pe_callB (call_sortedD rfl) (by rfl) T.srt (by decide +kernel) (pa_cons (pv 0) pa_nil))) (blkOk_by (N := ["numbers", "package"]) (sc := defScope sBare) (by decide +kernel))
      (fun _ _ _ _ _ => pg_name (i := 1) scBare.nd rfl (Or.inl rfl)) (fun _ _ _ _ _ => pts_one (pt_cmpR op_ne (pe_dget hu (pv 0) (pv 1) (fun _ _ => rfl)) pe_int (nomark _)))
      (fun _ _ _ _ _ => pv 1) (fun _ _ _ _ _ => pe_dget hu (pv 0) (pv 1) (fun _ _ => rfl)))), ?_⟩
    refine s_retD (kvs := kv (bareOf a)) ?_ k
    have hl : (sortK (names a)).length = a.length := by rw [(sortK_perm _).length_eq, List.length_map]
    have hin : ∀ k ∈ sortK (names a), k ∈ names a := fun k h => (sortK_perm _).mem_iff.mp h
    refine ed_dcNames (ys := sortK (names a)) (fun k => !decide (val a k = 0)) (fun k => val a k) (sortK_nodup nd) (by omega) (el_sortD (a := a) (ev_var rfl) h1 hz) (fun _ => rfl) (fun k H1 e1 hk => ?_) (fun k H1 e1 hk _ => ev_var rfl) (fun k H1 e1 hk _ => ?_)
    · refine et_is (et_test (ev_op (x := .int (val a k)) (y := .int 0) (ev_dget (a := a) (ev_var rfl) (ev_var rfl) (ex_rd e1 h1) (lookup_val (hin k hk))) ev_c (rv_ne rfl))) ?_
      rw [dec_int]
      by_cases e : val a k = 0 <;> simp [e]
    · exact ev_dget (a := a) (ev_var rfl) (ev_var rfl) (ex_rd e1 h1) (lookup_val (hin k hk))
/-- raise_to(numbers, {}) -/
def spRaise : Sp := fun vs H Q _ => ∃ (n m : Addr), vs = [.ref n, .ref m] ∧ H m = some (.dK []) ∧ RetV .non H Q
theorem scRaise : FnScope ["numbers", "more", "name"] ["numbers", "more"] (defScope sRaiseTo) := ⟨rfl, rfl, rfl, by decide +kernel, rfl, by decide +kernel, by decide +kernel⟩
theorem ok_raise {f : Addr} {fd : FuncData} (F : Fun K "raise_to" "raise_to" sRaiseTo f fd) : FnOk P w K mg base CX0 1 f fd ["numbers", "more"] spRaise := by
  refine F.ok scRaise (fun vs H Q E h => ?_) (fun cdv A outer s H vs Q E hr h => ?_)
  · obtain ⟨n, m, rfl, _⟩ := h
    rfl
  · obtain ⟨n, m, rfl, h1, k⟩ := h
    refine ⟨_, pss_one (ps_lock (ps_for PassesOwn.never rfl (pi_keys (pv 1)) (pg_name (i := 2) scRaise.nd rfl (Or.inl rfl)) pss_never)), ?_⟩
    refine ⟨m, _, h1, trivial, fun od => ?_⟩
    refine ⟨_, rfl, m, od, rfl, .inl ⟨[], upd_same, ?_⟩⟩
    refine for_it (walk_keys (kvs := [])) (fun i σ H' => H' = upd H m (.frz od (.dK []))) rfl (fun i σ H' _ e => by rw [e]; exact upd_same) (fun i x σ H' H2 hi => absurd hi (Nat.not_lt_zero _)) (fun σ H' e => ?_)
    subst e
    refine ⟨upd_same, ?_⟩
    rw [upd_upd]
    refine k _ fun b o hb => ?_
    by_cases e : b = m
    · subst e
      rw [upd_same, ← hb, h1]
    · rw [upd_ne e]
      exact hb
/-- join_states(one, {}) -/
def spJoin : Sp := fun vs H Q _ => ∃ (d m : Addr) (a : Num), vs = [.ref d, .ref m] ∧ Rd H d (.dK (kv a)) ∧ H m = some (.dK []) ∧ (names a).Nodup ∧ a.length < 64 ∧ RetD (kv (bareOf a)) H Q
structure TxtJ (K : PySem.W.Frag) (mg : Str → Option Value) (fR fB : Addr) : Prop where
  dct : mg "dict" = none
  mR : mg "raise_to" = some (.ref fR)
  kR : PySem.W.keepIn K (.ref fR) = true
  mB : mg "bare" = some (.ref fB)
  kB : PySem.W.keepIn K (.ref fB) = true
theorem scJoin : FnScope ["one", "other", "numbers"] ["one", "other"] (defScope sJoin) := ⟨rfl, rfl, rfl, by decide +kernel, rfl, by decide +kernel, by decide +kernel⟩
theorem ok_join {f fR fB : Addr} {fd fdR fdB : FuncData} (F : Fun K "join_states" "join_states" sJoin f fd) (T : TxtJ K mg fR fB) (GR : FnOk P w K mg base CX0 1 fR fdR ["numbers", "more"] spRaise) (bR : Binds K fdR ["numbers", "more"] [])
    (GB : FnOk P w K mg base CX0 1 fB fdB ["numbers"] spBare) (bB : Binds K fdB ["numbers"] []) : FnOk P w K mg base CX0 2 f fd ["one", "other"] spJoin := by
  refine F.ok scJoin (fun vs H Q E h => ?_) (fun cdv A outer s H vs Q E hr h => ?_)
  · obtain ⟨d, m, a, rfl, _⟩ := h
    rfl
  · obtain ⟨d, m, a, rfl, h1, h2, nd, hz, k⟩ := h
    refine ⟨_, pss_cons (ps_set (i := 2) scJoin.nd rfl (Or.inl rfl) (pe_callTy call_dictD (by rfl) T.dct (by decide +kernel) (pa_cons (pv 0) pa_nil)))
      (pss_cons (ps_expr (pe_call GR hr rfl T.mR T.kR bR .nil pass0 (pa_cons (pv 2) (pa_cons (pv 1) pa_nil))))
      (pss_one (ps_ret (pe_call GB hr rfl T.mB T.kB bB .nil pass0 (pa_cons (pv 2) pa_nil))))), ?_⟩
    refine ⟨_, rfl, d, kv a, rfl, h1, fun p hp => ?_⟩
    have e1 : Ex H (upd H p (.dK (kv a))) := Ex.new hp
    refine ⟨_, rfl, _, rfl, p, m, rfl, e1 m _ h2, fun H2 e2 => ?_⟩
    have h3 : H2 p = some (.dK (kv a)) := e2 p _ upd_same
    refine ⟨_, rfl, p, a, rfl, .inl h3, nd, hz, fun q H3 hq e3 h4 => ?_⟩
    exact k q H3 (fresh_back (e1.trans e2) hq) ((e1.trans e2).trans e3) h4
end
end K82
end
section
set_option maxRecDepth 100000
/-! _law_bare: the same numbers, by a list of pairs. -/
namespace K82
open PySem L2 Evl
theorem range_filter_map {α β : Type} (f : α → Bool) (g : α → β) : ∀ (l : List α) (f' : Nat → Bool) (g' : Nat → β), (∀ i x, l[i]? = some x → f' i = f x ∧ g' i = g x) → ((List.range l.length).filter f').map g' = (l.filter f).map g
  | [], _, _, _ => rfl
  | x :: l, f', g', h => by
    have h0 := h 0 x rfl
    have ih := range_filter_map f g l (fun i => f' (i + 1)) (fun i => g' (i + 1)) fun i y hy => h (i + 1) y hy
    rw [List.length_cons, List.range_succ_eq_map, List.filter_cons, List.filter_cons, h0.1, List.filter_map]
    cases f x
    · show List.map g' (List.map Nat.succ _) = _
      rw [List.map_map]
      exact ih
    · show g' 0 :: List.map g' (List.map Nat.succ _) = g x :: _
      rw [List.map_map, h0.2]
      exact congrArg (List.cons _) ih
/-- items that are pairs -/
theorem pairs_of {ix : List Nat} {acc : List V} {kf : Nat → Key × V} {H : Hp} (h : Paired (fun i x => ∃ T, x = V.ref T ∧ H T = some (.tup [kV (kf i).1, (kf i).2])) ix acc) (K : PySem.W.Frag) :
    ∃ ps : List Addr, acc = ps.map V.ref ∧ Paired (fun p kv => SqT K H p [kV kv.1, kv.2]) ps (ix.map kf) := by
  induction h with
  | nil => exact ⟨[], rfl, .nil⟩
  | cons r _ ih =>
    obtain ⟨T, e, hT⟩ := r
    obtain ⟨ps, e2, hp⟩ := ih
    subst e
    subst e2
    exact ⟨T :: ps, rfl, .cons (.inl (.inl hT)) hp⟩
theorem merge_kv : ∀ (a b : Num), (names (a ++ b)).Nodup → mergeK (kv a) (kv b) = kv (a ++ b)
  | a, [], _ => by rw [List.append_nil]; rfl
  | a, (k, n) :: r, nd => by
    have h : k ∉ names a := fun m => by
      unfold names at nd
      rw [List.map_append, List.nodup_append] at nd
      exact nd.2.2 k m k List.mem_cons_self rfl
    show mergeK (putK (kv a) (Sum.inr k) (V.int n)) (kv r) = _
    rw [kv_put h, merge_kv (a ++ [(k, n)]) r (by rw [List.append_assoc]; exact nd), List.append_assoc]
    rfl
abbrev rDictP (K : PySem.W.Frag) : List V → Hp → VK → Prop := fun xs H Q => ∃ (a : Addr) (ps : List Addr) (kvs : List (Key × V)), xs = [.ref a] ∧ SqL K H a (ps.map V.ref) ∧ Paired (fun p kv => SqT K H p [kV kv.1, kv.2]) ps kvs ∧
    ∀ p, H p = none → Q (.ref p) (upd H p (.dK (mergeK [] kvs)))
/-- dict([pairs]) -/
theorem ed_dictC {K : PySem.W.Frag} {σ : L2.St} {H : Hp} {ta : TE} {ix : List Nat} {kf : Nat → Key × V} (hc : EvC ta σ H ix fun i x H3 => ∃ T, x = V.ref T ∧ H3 T = some (.tup [kV (kf i).1, (kf i).2])) :
    EvD (tCB (rDictP K) (tCons ta tNil)) σ H (mergeK [] (ix.map kf)) := fun H1 e Q q => hc H1 e _ fun p H2 acc hp e2 h2 hR => by
  have hR := paired_mono hR fun i x z => z H2 fun _ _ _ z => z
  obtain ⟨ps, ea, hps⟩ := pairs_of hR K
  subst ea
  exact ⟨p, ps, _, rfl, sq_of h2, hps, fun r hr => q r _ (fresh_back e2 hr) (e2.trans (Ex.new hr)) upd_same⟩
section
variable {P : Program} {w : World} {K : PySem.W.Frag} {mg : Str → Option Value} {base : Heap}
theorem scLBare : FnScope ["numbers", "package"] ["numbers"] (defScope sLBare) := ⟨rfl, rfl, rfl, by decide +kernel, rfl, by decide +kernel, by decide +kernel⟩
theorem ok_lbare {f : Addr} {fd : FuncData} (F : Fun K "_law_bare" "_law_bare" sLBare f fd) (T : TxtB mg) : FnOk P w K mg base CX0 1 f fd ["numbers"] spBare := by
  refine F.ok scLBare (fun vs H Q E h => ?_) (fun cdv A outer s H vs Q E hr h => ?_)
  · obtain ⟨d, a, rfl, _⟩ := h
    rfl
  · obtain ⟨d, a, rfl, h1, nd, hz, k⟩ := h
    have hu := hu_of hr
    refine ⟨_, pss_one (ps_ret (pe_callTy (call_dictP rfl) (by rfl) T.dct (by decide +kernel) (pa_cons (pe_lc (own := [("package", 1)]) (g := gName 1) rfl scLBare.nd (pi_list (pe_callB (call_sortedD rfl) (by rfl) T.srt (by decide +kernel) (pa_cons (pv 0) pa_nil))) (blkOk_by (N := ["numbers", "package"]) (sc := defScope sLBare) (by decide +kernel))
      (fun _ _ _ _ _ => pg_name (i := 1) scLBare.nd rfl (Or.inl rfl)) (fun _ _ _ _ _ => pts_one (pt_cmpR op_ne (pe_dget hu (pv 0) (pv 1) (fun _ _ => rfl)) pe_int (nomark _)))
      (fun _ _ _ _ _ => pe_tup (pa_cons (pv 1) (pa_cons (pe_dget hu (pv 0) (pv 1) (fun _ _ => rfl)) pa_nil)))) pa_nil))), ?_⟩
    have hl : (sortK (names a)).length = a.length := by rw [(sortK_perm _).length_eq, List.length_map]
    have hin : ∀ k ∈ sortK (names a), k ∈ names a := fun k h => (sortK_perm _).mem_iff.mp h
    let nm : Nat → Str := fun i => (sortK (names a)).getD i default
    have hnm : ∀ i (x : V), ((sortK (names a)).map V.str)[i]? = some x → x = V.str (nm i) ∧ nm i ∈ names a := fun i x h => by
      rw [List.getElem?_map] at h
      cases e : (sortK (names a))[i]? with
      | none => rw [e] at h; cases h
      | some q =>
        rw [e] at h
        have e2 : nm i = q := by show (sortK (names a)).getD i default = q; rw [List.getD_eq_getElem?_getD, e]; rfl
        rw [e2]
        exact ⟨(Option.some.inj h).symm, hin q (List.mem_of_getElem? e)⟩
    have hc : EvC (tLc (iList K (tCB rSortD (tCons (tVar 0) tNil))) (gName 1) (tTest (tOp rNe (tDGet (tVar 0) (tVar 1)) (tC (.int 0)))) (tTup (tCons (tVar 1) (tCons (tDGet (tVar 0) (tVar 1)) tNil))) [1]) (L2.start ["numbers", "package"] [.ref d]) H
        ((List.range ((sortK (names a)).map V.str).length).filter fun i => !decide (val a (nm i) = 0)) (fun i x H3 => ∃ T, x = V.ref T ∧ H3 T = some (.tup [V.str (nm i), V.int (val a (nm i))])) := by
      refine ec_lcNL _ _ (el_sortD (a := a) (ev_var rfl) h1 hz) (by rw [List.length_map]; omega) (fun _ => rfl) (fun i x H1 e1 hx => ?_) (fun i x H1 e1 hx _ => ?_)
      · obtain ⟨ex, hm⟩ := hnm i x hx
        subst ex
        refine et_is (et_test (ev_op (x := .int (val a (nm i))) (y := .int 0) (ev_dget (a := a) (ev_var rfl) (ev_var rfl) (ex_rd e1 h1) (lookup_val hm)) ev_c (rv_ne rfl))) ?_
        rw [dec_int]
        by_cases e : val a (nm i) = 0 <;> simp [e]
      · obtain ⟨ex, hm⟩ := hnm i x hx
        subst ex
        exact evf_u (eu_tup (ea_cons (ev_var rfl) (ea_cons (ev_dget (a := a) (ev_var rfl) (ev_var rfl) (ex_rd e1 h1) (lookup_val hm)) ea_nil)) (by show 2 ≤ 100000; decide))
    refine s_retD (kvs := kv (bareOf a)) ?_ k
    have hd := ed_dictC (K := K) (kf := fun i => (Sum.inr (nm i), V.int (val a (nm i)))) hc
    have e3 := range_filter_map (fun k : Str => !decide (val a k = 0)) (fun k => ((Sum.inr k : Key), V.int (val a k))) (sortK (names a)) (fun i => !decide (val a (nm i) = 0)) (fun i => (Sum.inr (nm i), V.int (val a (nm i)))) fun i x hx => by
      have e : nm i = x := by show (sortK (names a)).getD i default = x; rw [List.getD_eq_getElem?_getD, hx]; rfl
      rw [e]
      exact ⟨rfl, rfl⟩
    have e4 : ((sortK (names a)).filter fun k : Str => !decide (val a k = 0)).map (fun k => ((Sum.inr k : Key), V.int (val a k))) = kv (bareOf a) := by
      unfold bareOf kv
      rw [List.map_map]
      rfl
    rw [List.length_map, e3, e4] at hd
    have e5 : mergeK [] (kv (bareOf a)) = kv (bareOf a) := merge_kv [] (bareOf a) (bare_nodup nd)
    rw [e5] at hd
    exact hd
end
end K82
end
section
set_option maxRecDepth 100000
set_option maxHeartbeats 4000000
/-! check_row: what a row may be. -/
namespace K82
open PySem L2 Evl
/-- a row: its word and its numbers -/
abbrev Row := Str × Num
def RowAt (H : Hp) (t : Addr) (r : Row) : Prop := ∃ d, H t = some (.tup [.str r.1, .ref d]) ∧ H d = some (.dK (kv r.2))
theorem RowAt.ex {H H' : Hp} {t : Addr} {r : Row} (e : Ex H H') (h : RowAt H t r) : RowAt H' t r := by
  obtain ⟨d, h1, h2⟩ := h
  exact ⟨d, e _ _ h1, e _ _ h2⟩
/-- numbers that a dict may hold here -/
structure NumOk (a : Num) : Prop where
  nd : (names a).Nodup
  few : a.length < 64
/-- BadHost(what), made to be raised -/
def tMkHost (C : Addr) (m : Str) : L2.St → Hp → XK → Prop := fun _ H Q => ∀ d, H d = none → Q (.ref C) (some d) (upd H d (.xd [("what", .str m)]))
def HostRule (P : Program) (w : World) (K : PySem.W.Frag) (mg : Str → Option Value) (base : Heap) (C : Addr) : Prop :=
  ∀ (X : Cx), X.prog = P → X.w = w → X.K = K → X.mg = mg → X.base = base → Room 2 X.A → Gl X "BadHost" → ∀ (m : Str) (p p2 pos : Pos) (j : Nat), m.length ≤ 1000 → PMk X (.Call (.Name "BadHost" p) [.Constant (.str m) j p2] [] pos) (tMkHost C m)
/-- the word of the error that a row raises -/
def rowWord (r : Row) (b : Num) : Option Str :=
  if ¬ (r.1 = "hear" ∨ r.1 = "tell") then some "rows"
  else if r.1 = "hear" ∧ under b r.2 = false then some "back"
  else if r.1 = "tell" ∧ under r.2 b = false then some "rows"
  else none
/-- the error's way out: BadHost with this word -/
def Out (C : Addr) (m : Str) (H : Hp) (E : XK) : Prop := ∀ d H', Ex H H' → H' d = some (.xd [("what", .str m)]) → E (.ref C) (some d) H'
def spRow (C : Addr) : Sp := fun vs H Q E => ∃ (t h : Addr) (r : Row) (b : Num), vs = [.ref t, .ref h] ∧ RowAt H t r ∧ H h = some (.dK (kv b)) ∧ NumOk r.2 ∧ NumOk b ∧
  (rowWord r b = none → RetV .non H Q) ∧ (∀ m, rowWord r b = some m → Out C m H E)
structure TxtR (K : PySem.W.Frag) (mg : Str → Option Value) (fU : Addr) : Prop where
  isi : mg "isinstance" = none
  tup : mg "tuple" = none
  len : mg "len" = none
  dct : mg "dict" = none
  mU : mg "is_under" = some (.ref fU)
  kU : PySem.W.keepIn K (.ref fU) = true
section
variable {K : PySem.W.Frag} {σ : L2.St} {H H' : Hp} {ta tb te tx td ty tk tv tl : TE} {t u : TT} {x y z v : V} {r : R2}
theorem ev_isi {a b : String} {c : Bool} (h : Ev ta σ H x) (ty : ∀ H1, Ex H H1 → TyX K H1 x (.type a)) (e : kitB a b = some c) : Ev (tCB (rIsi K) (tCons ta (tCons (tC (.ty b)) tNil))) σ H (.bl c) := fun H1 e1 Q q =>
  h H1 e1 _ fun H2 e2 => ⟨x, .ty b, .type a, .type b, c, rfl, .ty b, ty H2 (e1.trans e2), kit_ty e, q H2 e2⟩
theorem ty_tup {p : Addr} {xs : List V} (h : H p = some (.tup xs)) : ∀ H1, Ex H H1 → TyX K H1 (.ref p) (.type "tuple") := fun H1 e => .base (.tup (e _ _ h))
theorem ty_dK {p : Addr} {xs : List (Key × V)} (h : H p = some (.dK xs)) : ∀ H1, Ex H H1 → TyX K H1 (.ref p) (.type "dict") := fun H1 e => .base (.dK (e _ _ h))
theorem ty_lst {p : Addr} {xs : List V} (h : H p = some (.lst xs)) : ∀ H1, Ex H H1 → TyX K H1 (.ref p) (.type "list") := fun H1 e => .base (.lst (e _ _ h))
theorem ty_int {i : Int} : ∀ H1, Ex H H1 → TyX K H1 (.int i) (.type "int") := fun H1 e => .base (.int i)
theorem ty_str {i : Str} : ∀ H1, Ex H H1 → TyX K H1 (.str i) (.type "str") := fun H1 e => .base (.str i)
theorem ty_bl {i : Bool} : ∀ H1, Ex H H1 → TyX K H1 (.bl i) (.type "bool") := fun H1 e => .base (.bl i)
theorem ev_ixT {p : Addr} {xs : List V} {i : Int} (h : Ev ta σ H (.ref p)) (hi : Ev tb σ H (.int i)) (hx : H p = some (.tup xs)) (ha : atI xs i = some v) : Ev (tOp (rIxT K) ta tb) σ H v := ev_op h hi (rv_ixT (st_of hx) ha)
theorem ev_ixL {p : Addr} {xs : List V} {i : Int} (h : Ev ta σ H (.ref p)) (hi : Ev tb σ H (.int i)) (hx : SqL K H p xs) (ha : atI xs i = some v) : Ev (tOp (rIxL K) ta tb) σ H v := ev_op h hi (rv_ixL hx ha)
theorem ev_lenT {p : Addr} {xs : List V} (ha : Ev ta σ H (.ref p)) (h : SqT K H p xs) : Ev (tCB (rLenS K) (tCons ta tNil)) σ H (.int (xs.length : Int)) := fun H1 e Q q =>
  ha H1 e _ fun H2 e2 => ⟨p, xs, rfl, Or.inr (ex_t (e.trans e2) h), q H2 e2⟩
end
theorem beq_dec {a b : Str} : (a == b) = decide (a = b) := by
  by_cases h : a = b
  · subst h; simp
  · simp [h]
theorem four_yes {b : Bool} (e : (!true || (!decide ((2 : Int) = 2) || ((!b) || !true))) = true) : b = false := by
  cases b
  · rfl
  · simp at e
theorem four_no {b : Bool} (e : (!true || (!decide ((2 : Int) = 2) || ((!b) || !true))) = false) : b = true := by
  cases b
  · simp at e
  · rfl
theorem in2 (k a b : Str) : inV (.str k) [.str a, .str b] = decide (k = a ∨ k = b) := by
  show ((a == k) || ((b == k) || false)) = _
  rw [Bool.or_false]
  have e : ∀ x : Str, (x == k) = decide (k = x) := fun x => by
    by_cases h : k = x
    · subst h; simp
    · have h' : ¬ x = k := fun z => h z.symm
      simp [h, h']
  rw [e, e, ← Bool.decide_or]
section
variable {P : Program} {w : World} {K : PySem.W.Frag} {mg : Str → Option Value} {base : Heap}
theorem scRow : FnScope ["row", "heard"] ["row", "heard"] (defScope sRow) := ⟨rfl, rfl, rfl, by decide +kernel, rfl, by decide +kernel, by decide +kernel⟩
theorem spUnder_v {H : Hp} {one other : Addr} {a b : Num} (h1 : H one = some (.dK (kv a))) (ok : NumOk a) (h2 : Rd H other (.dK (kv b))) : SpV spUnder [.ref one, .ref other] H (.bl (under a b)) := fun H1 e Q q _ =>
  ⟨one, other, a, b, rfl, e _ _ h1, ok.nd, by have := ok.few; omega, ex_rd e h2, q⟩
theorem ok_row {f fU C : Addr} {fd fdU : FuncData} (F : Fun K "check_row" "check_row" sRow f fd) (T : TxtR K mg fU) (HR : HostRule P w K mg base C) (GU : FnOk P w K mg base CX0 1 fU fdU ["one", "other"] spUnder) (bU : Binds K fdU ["one", "other"] []) :
    FnOk P w K mg base (L2.CX P w) 3 f fd ["row", "heard"] (spRow C) := by
  refine F.okX scRow (fun vs H Q E h => ?_) (fun cdv A outer s H vs Q E hr h => ?_)
  · obtain ⟨t, h, r, b, rfl, _⟩ := h
    rfl
  · obtain ⟨t, h, ⟨kd, a⟩, b, rfl, ⟨d, ht, hd⟩, hh, oka, okb, k1, k2⟩ := h
    have hr1 : Room 1 _ := hr.mono (by decide)
    refine ⟨_, pss_cons (ps_if (PW.pt (pw_or (pt_not (pt_val (pe_callB call_isi (by rfl) T.isi (by decide +kernel) (pa_cons (pv 0) (pa_cons (pe_bltn (v := .ty "tuple") (u := .type "tuple") (by rfl) T.tup (by decide +kernel) rfl) pa_nil))))) (pw_or (pt_cmpR op_ne (pe_callB call_len_seq (by rfl) T.len (by decide +kernel) (pa_cons (pv 0) pa_nil)) pe_int (nomark _)) (pw_or (pt_cmpR op_notIn_seq (pe_ix ix_tup (pv 0) pe_int (fun _ _ => rfl)) (pe_tup (pa_cons pe_str (pa_cons pe_str pa_nil))) (by rfl)) (pw_or1 (pt_not (pt_val (pe_callB call_isi (by rfl) T.isi (by decide +kernel) (pa_cons (pe_ix ix_tup (pv 0) pe_int (fun _ _ => rfl)) (pa_cons (pe_bltn (v := .ty "dict") (u := .type "dict") (by rfl) T.dct (by decide +kernel) rfl) pa_nil))))))))))
        (pss_one (ps_raise rfl (takes_of rfl rfl rfl rfl) (HR _ rfl rfl rfl rfl rfl hr (by rfl) "rows" _ _ _ _ (by decide +kernel))))
        pss_nil)
        (pss_cons (ps_if (PW.pt (pw_and (pt_cmpR op_eq (pe_ix ix_tup (pv 0) pe_int (fun _ _ => rfl)) pe_str (nomark _)) (pw_and1 (pt_not (pt_val (pe_call GU hr1 rfl T.mU T.kU bU .nil pass0 (pa_cons (pv 1) (pa_cons (pe_ix ix_tup (pv 0) pe_int (fun _ _ => rfl)) pa_nil))))))))
        (pss_one (ps_raise rfl (takes_of rfl rfl rfl rfl) (HR _ rfl rfl rfl rfl rfl hr (by rfl) "back" _ _ _ _ (by decide +kernel))))
        pss_nil)
        (pss_one (ps_if (PW.pt (pw_and (pt_cmpR op_eq (pe_ix ix_tup (pv 0) pe_int (fun _ _ => rfl)) pe_str (nomark _)) (pw_and1 (pt_not (pt_val (pe_call GU hr1 rfl T.mU T.kU bU .nil pass0 (pa_cons (pe_ix ix_tup (pv 0) pe_int (fun _ _ => rfl)) (pa_cons (pv 1) pa_nil))))))))
        (pss_one (ps_raise rfl (takes_of rfl rfl rfl rfl) (HR _ rfl rfl rfl rfl rfl hr (by rfl) "rows" _ _ _ _ (by decide +kernel))))
        pss_nil))), ?_⟩
    have hin : inV (.str kd) [.str "hear", .str "tell"] = decide (kd = "hear" ∨ kd = "tell") := in2 _ _ _
    refine q_when (b := !true || (!decide ((2 : Int) = 2) || ((!inV (.str kd) [.str "hear", .str "tell"]) || !true)))
      (et_or (et_not (et_B (ev_isi (K := K) (a := "tuple") (b := "tuple") (ev_var (i := 0) rfl) (ty_tup ht) (by decide +kernel)))) fun _ =>
      et_or (et_is (et_test (ev_op (ev_lenT (K := K) (ev_var (i := 0) rfl) (st_of ht)) ev_c (rv_ne rfl))) (by rw [dec_int]; rfl)) fun _ =>
      et_or (et_test (ev_niU (K := K) (ev_ixT (K := K) (i := 0) (ev_var (i := 0) rfl) ev_c ht rfl) (eu_tup (ea_cons ev_c (ea_cons ev_c ea_nil)) (by show 2 ≤ 100000; decide)) rfl rfl)) fun _ =>
      et_not (et_B (ev_isi (K := K) (a := "dict") (b := "dict") (ev_ixT (K := K) (i := 1) (ev_var (i := 0) rfl) ev_c ht rfl) (ty_dK hd) (by decide +kernel)))) (fun e H1 e1 => ?_) (fun e H1 e1 => ?_)
    · have nk : ¬ (kd = "hear" ∨ kd = "tell") := by
        have e := four_yes e
        rw [hin] at e
        exact of_decide_eq_false e
      exact fun d' hd' => k2 "rows" (if_pos nk) d' _ (e1.trans (Ex.new hd')) upd_same
    have yk : kd = "hear" ∨ kd = "tell" := by
      have e := four_no e
      rw [hin] at e
      exact of_decide_eq_true e
    refine q_when (b := decide (kd = "hear") && !under b a) (et_and (et_is (et_test (ev_op (ev_ixT (K := K) (i := 0) (ev_var (i := 0) rfl) ev_c (e1 _ _ ht) rfl) ev_c (rv_eq rfl))) (by rw [dec_str]; exact beq_dec)) fun _ =>
      et_not (et_B (ev_call (ea_cons (ev_var (i := 1) rfl) (ea_cons (ev_ixT (K := K) (i := 1) (ev_var (i := 0) rfl) ev_c (e1 _ _ ht) rfl) ea_nil)) (spUnder_v (e1 _ _ hh) okb (.inl (e1 _ _ hd)))))) (fun e2 H2 e3 => ?_) (fun e2 H2 e3 => ?_)
    · rw [Bool.and_eq_true, decide_eq_true_eq, Bool.not_eq_true'] at e2
      refine fun d' hd' => k2 "back" ?_ d' _ ((e1.trans e3).trans (Ex.new hd')) upd_same
      exact (if_neg (not_not_intro yk)).trans (if_pos e2)
    have n2 : ¬ (kd = "hear" ∧ under b a = false) := fun z => by
      rw [z.2, decide_eq_true z.1] at e2
      cases e2
    have e4 := e1.trans e3
    refine s_when (b := decide (kd = "tell") && !under a b) (et_and (et_is (et_test (ev_op (ev_ixT (K := K) (i := 0) (ev_var (i := 0) rfl) ev_c (e4 _ _ ht) rfl) ev_c (rv_eq rfl))) (by rw [dec_str]; exact beq_dec)) fun _ =>
      et_not (et_B (ev_call (ea_cons (ev_ixT (K := K) (i := 1) (ev_var (i := 0) rfl) ev_c (e4 _ _ ht) rfl) (ea_cons (ev_var (i := 1) rfl) ea_nil)) (spUnder_v (e4 _ _ hd) oka (.inl (e4 _ _ hh)))))) (fun e5 H3 e6 => ?_) (fun e5 H3 e6 => ?_)
    · rw [Bool.and_eq_true, decide_eq_true_eq, Bool.not_eq_true'] at e5
      refine fun d' hd' => k2 "rows" ?_ d' _ ((e4.trans e6).trans (Ex.new hd')) upd_same
      exact (if_neg (not_not_intro yk)).trans ((if_neg n2).trans (if_pos e5))
    · have n3 : ¬ (kd = "tell" ∧ under a b = false) := fun z => by
        rw [z.2, decide_eq_true z.1] at e5
        cases e5
      exact k1 ((if_neg (not_not_intro yk)).trans ((if_neg n2).trans (if_neg n3))) _ (e4.trans e6)
end
end K82
end
section
set_option maxRecDepth 100000
set_option maxHeartbeats 4000000
/-! check_course, fewest_syncs. -/
namespace K82
open PySem L2 Evl
/-- a course: a list of rows -/
def CourseAt (H : Hp) (c : Addr) (C : List Row) : Prop := ∃ ts : List Addr, H c = some (.lst (ts.map V.ref)) ∧ Paired (RowAt H) ts C
theorem CourseAt.ex {H H' : Hp} {c : Addr} {C : List Row} (e : Ex H H') (h : CourseAt H c C) : CourseAt H' c C := by
  obtain ⟨ts, h1, h2⟩ := h
  exact ⟨ts, e _ _ h1, paired_mono h2 fun _ _ r => r.ex e⟩
theorem paired_len {α β : Type} {F : α → β → Prop} : ∀ {l : List α} {m : List β}, Paired F l m → l.length = m.length
  | _, _, .nil => rfl
  | _, _, .cons _ t => by rw [List.length_cons, List.length_cons, paired_len t]
theorem paired_at {α β : Type} {F : α → β → Prop} : ∀ {l : List α} {m : List β} {i : Nat} {b : β}, Paired F l m → m[i]? = some b → ∃ a, l[i]? = some a ∧ F a b
  | _, _, _, _, .nil, h => by simp at h
  | _, _, 0, b, .cons r t, h => by
    simp at h
    subst h
    exact ⟨_, rfl, r⟩
  | _, _, i + 1, b, .cons r t, h => by
    obtain ⟨a, h1, h2⟩ := paired_at (i := i) t (by simpa using h)
    exact ⟨a, by simpa using h1, h2⟩
theorem paired_ata {α β : Type} {F : α → β → Prop} : ∀ {l : List α} {m : List β} {i : Nat} {a : α}, Paired F l m → l[i]? = some a → ∃ b, m[i]? = some b ∧ F a b
  | _, _, _, _, .nil, h => by simp at h
  | _, _, 0, b, .cons r t, h => by
    simp at h
    subst h
    exact ⟨_, rfl, r⟩
  | _, _, i + 1, b, .cons r t, h => by
    obtain ⟨a, h1, h2⟩ := paired_ata (i := i) t (by simpa using h)
    exact ⟨a, by simpa using h1, h2⟩
/-- what a heard row leaves -/
def heardBy (r : Row) (b : Num) : Num := if r.1 = "hear" then bareOf r.2 else b
def checkFrom : Num → List Row → Option Str
  | _, [] => none
  | b, r :: rs => match rowWord r b with
    | some m => some m
    | none => checkFrom (heardBy r b) rs
theorem bare_ok {a : Num} (h : NumOk a) : NumOk (bareOf a) := ⟨bare_nodup h.nd, Nat.lt_of_le_of_lt (bare_len a) h.few⟩
theorem heardBy_ok {r : Row} {b : Num} (h : NumOk r.2) (hb : NumOk b) : NumOk (heardBy r b) := by
  unfold heardBy
  split
  · exact bare_ok h
  · exact hb
theorem nil_ok : NumOk [] := ⟨List.nodup_nil, by decide⟩
def RowsOk (C : List Row) : Prop := (∀ r ∈ C, NumOk r.2) ∧ C.length ≤ 1000
def spCourse (CH : Addr) : Sp := fun vs H Q E => ∃ (c : Addr) (C : List Row), vs = [.ref c] ∧ CourseAt H c C ∧ RowsOk C ∧
  (checkFrom [] C = none → RetV .non H Q) ∧ (∀ m, checkFrom [] C = some m → Out CH m H E)
structure TxtC (K : PySem.W.Frag) (mg : Str → Option Value) (fR fJ : Addr) : Prop where
  mR : mg "check_row" = some (.ref fR)
  kR : PySem.W.keepIn K (.ref fR) = true
  mJ : mg "join_states" = some (.ref fJ)
  kJ : PySem.W.keepIn K (.ref fJ) = true
section
variable {K : PySem.W.Frag} {σ : L2.St} {H H' : Hp} {ta tb te tx td ty tk tv tl : TE} {t u : TT} {x y z v : V} {r : R2}
theorem ed_new : EvD tDNewK σ H [] := fun H1 e Q q p hp => q p _ hp (Ex.new hp) upd_same
theorem ed_join {d : Addr} {a : Num} {E : XK} (h : Ev ta σ H (.ref d)) (hd : Rd H d (.dK (kv a))) (ok : NumOk a) : EvD (tCall spJoin [] E (tCons ta (tCons tDNewK tNil))) σ H (kv (bareOf a)) := fun H1 e Q q =>
  h H1 e _ fun H2 e2 m hm => ⟨d, m, a, rfl, ex_rd ((e.trans e2).trans (Ex.new hm)) hd, upd_same, ok.nd, ok.few, fun p H3 hp e3 h3 => q p H3 (fresh_back (e2.trans (Ex.new hm)) hp) ((e2.trans (Ex.new hm)).trans e3) h3⟩
end
section
variable {P : Program} {w : World} {K : PySem.W.Frag} {mg : Str → Option Value} {base : Heap}
theorem scCourse : FnScope ["course", "heard", "row"] ["course"] (defScope sCourse) := ⟨rfl, rfl, rfl, by decide +kernel, rfl, by decide +kernel, by decide +kernel⟩
theorem ok_course {f fR fJ CH : Addr} {fd fdR fdJ : FuncData} (F : Fun K "check_course" "check_course" sCourse f fd) (T : TxtC K mg fR fJ) (GR : FnOk P w K mg base (L2.CX P w) 3 fR fdR ["row", "heard"] (spRow CH)) (bR : Binds K fdR ["row", "heard"] [])
    (GJ : FnOk P w K mg base CX0 2 fJ fdJ ["one", "other"] spJoin) (bJ : Binds K fdJ ["one", "other"] []) : FnOk P w K mg base (L2.CX P w) 4 f fd ["course"] (spCourse CH) := by
  refine F.okX scCourse (fun vs H Q E h => ?_) (fun cdv A outer s H vs Q E hr h => ?_)
  · obtain ⟨c, C, rfl, _⟩ := h
    rfl
  · obtain ⟨c, C, rfl, hC, okC, k1, k2⟩ := h
    have hr2 : Room 2 _ := hr.mono (by decide)
    refine ⟨_, pss_cons (ps_set (i := 1) scCourse.nd rfl (Or.inl rfl) pe_dnewK)
      (pss_one (ps_for (passes_of rfl) rfl (pi_list (pv 0)) (pg_name (i := 2) scCourse.nd rfl (Or.inl rfl))
        (pss_cons (ps_expr (pe_call (E := E) GR hr rfl T.mR T.kR bR .nil (passes_call (takes_of rfl rfl rfl rfl) (fun _ _ _ _ h => h)) (pa_cons (pv 2) (pa_cons (pv 1) pa_nil))))
        (pss_one (ps_if (pt_cmpR op_eq (pe_ix ix_tup (pv 2) pe_int (fun _ _ => rfl)) pe_str (nomark _))
          (pss_one (ps_set (i := 1) scCourse.nd rfl (Or.inl rfl) (pe_call GJ hr2 rfl T.mJ T.kJ bJ .nil pass0 (pa_cons (pe_ix ix_tup (pv 2) pe_int (fun _ _ => rfl)) (pa_cons pe_dnewK pa_nil))))) pss_nil))))), ?_⟩
    obtain ⟨ts, hc, hts⟩ := hC
    have hl : ts.length = C.length := paired_len hts
    intro hd hhd
    have e0 : Ex H (upd H hd (.dK [])) := Ex.new hhd
    refine s_forLn (xs := ts.map V.ref) (a := c) (ev_var (i := 0) rfl) (sq_of (e0 _ _ hc)) (fun i σ H' => ∃ (h : Addr) (b : Num) (v : Option V), σ = [some (.ref c), some (.ref h), v] ∧ Ex H H' ∧ H' h = some (.dK (kv b)) ∧ NumOk b ∧ checkFrom [] C = checkFrom b (C.drop i))
      (fun H1 e1 => ⟨hd, [], none, rfl, e0.trans e1, e1 _ _ upd_same, nil_ok, rfl⟩) (fun i σ H' _ ⟨_, _, _, _, e, _⟩ => sq_of (e _ _ hc)) ?_ ?_
    · rintro i x σ H' hi ⟨h, b, v, rfl, e, hh, okb, ck⟩
      obtain ⟨t, hti, rfl⟩ : ∃ t, ts[i]? = some t ∧ x = V.ref t := by
        rw [List.getElem?_map] at hi
        cases q : ts[i]? with
        | none => rw [q] at hi; cases hi
        | some t => rw [q] at hi; exact ⟨t, rfl, (Option.some.inj hi).symm⟩
      obtain ⟨r, hri, hr0⟩ := paired_ata hts hti
      have hrt := hr0.ex e
      have okr : NumOk r.2 := okC.1 r (List.mem_of_getElem? hri)
      have hdr : C.drop i = r :: C.drop (i + 1) := by
        obtain ⟨hlt, he⟩ := List.getElem?_eq_some_iff.mp hri
        rw [List.drop_eq_getElem_cons hlt, he]
      rw [hdr] at ck
      have ck : checkFrom [] C = match rowWord r b with | some m => some m | none => checkFrom (heardBy r b) (C.drop (i + 1)) := ck
      refine ⟨_, rfl, _, rfl, t, h, r, b, rfl, hrt, hh, okr, okb, fun hw H2 e2 => ?_, fun m hw => ?_⟩
      · rw [hw] at ck
        obtain ⟨d, ht, hd'⟩ := hrt.ex e2
        refine s_when (b := decide (r.1 = "hear")) (et_is (et_test (ev_op (ev_ixT (K := K) (i := 0) (ev_var (i := 2) rfl) ev_c ht rfl) ev_c (rv_eq rfl))) (by rw [dec_str]; exact beq_dec)) (fun hk H3 e3 => ?_) (fun hk H3 e3 => ?_)
        · refine ed_join (a := r.2) (ev_ixT (K := K) (i := 1) (ev_var (i := 2) rfl) ev_c (e3 _ _ ht) rfl) (.inl (e3 _ _ hd')) okr H3 (Ex.refl _) _ fun p H4 _ e4 h4 => ?_
          have eh : heardBy r b = bareOf r.2 := if_pos (of_decide_eq_true hk)
          rw [eh] at ck
          exact ⟨p, bareOf r.2, _, rfl, ((e.trans e2).trans e3).trans e4, h4, bare_ok okr, ck⟩
        · have eh : heardBy r b = b := if_neg (of_decide_eq_false hk)
          rw [eh] at ck
          exact ⟨h, b, _, rfl, (e.trans e2).trans e3, e3 _ _ (e2 _ _ hh), okb, ck⟩
      · rw [hw] at ck
        exact fun d H2 e2 h2 => k2 m ck d H2 (e.trans e2) h2
    · rintro σ H' ⟨h, b, v, rfl, e, hh, okb, ck⟩
      rw [List.length_map, hl, List.drop_length] at ck
      exact k1 ck _ e
end
end K82
end
section
set_option maxRecDepth 100000
set_option maxHeartbeats 4000000
/-! fewest_syncs. -/
namespace K82
open PySem L2 Evl
def greedyP : Nat → Num → Num → List Row → List Nat
  | _, _, _, [] => []
  | i, h, g, r :: rs => if r.1 = "hear" then greedyP (i + 1) (bareOf r.2) g rs else if under r.2 g = true then greedyP (i + 1) h g rs else i :: greedyP (i + 1) h h rs
theorem greedyP_len : ∀ (C : List Row) (i : Nat) (h g : Num), (greedyP i h g C).length ≤ C.length
  | [], _, _, _ => Nat.le_refl _
  | r :: rs, i, h, g => by
    show (ite _ _ _ : List Nat).length ≤ _
    rw [List.length_cons]
    split
    · have := greedyP_len rs (i + 1) (bareOf r.2) g; omega
    · split
      · have := greedyP_len rs (i + 1) h g; omega
      · have := greedyP_len rs (i + 1) h h; rw [List.length_cons]; omega
def intsV (l : List Nat) : List V := l.map fun n : Nat => V.int (Int.ofNat n)
/-- (number, places, places again) -/
def RetF (l : List Nat) (H : Hp) (Q : VK) : Prop := ∀ (t p q : Addr) (H2 : Hp), H t = none → H p = none → H q = none → p ≠ q → Ex H H2 → H2 t = some (.tup [.int (l.length : Int), .ref p, .ref q]) → H2 p = some (.lst (intsV l)) → H2 q = some (.lst (intsV l)) → Q (.ref t) H2
def spFewest (CH : Addr) : Sp := fun vs H Q E => ∃ (c : Addr) (C : List Row), vs = [.ref c] ∧ CourseAt H c C ∧ RowsOk C ∧
  (checkFrom [] C = none → RetF (greedyP 0 [] [] C) H Q) ∧ (∀ m, checkFrom [] C = some m → Out CH m H E)
structure TxtF (K : PySem.W.Frag) (mg : Str → Option Value) (fC fJ fU : Addr) : Prop where
  len : mg "len" = none
  range : mg "range" = none
  dct : mg "dict" = none
  lst : mg "list" = none
  mC : mg "check_course" = some (.ref fC)
  kC : PySem.W.keepIn K (.ref fC) = true
  mJ : mg "join_states" = some (.ref fJ)
  kJ : PySem.W.keepIn K (.ref fJ) = true
  mU : mg "is_under" = some (.ref fU)
  kU : PySem.W.keepIn K (.ref fU) = true
section
variable {K : PySem.W.Frag} {σ : L2.St} {H H' : Hp} {ta tb te tx td ty tk tv tl : TE} {t u : TT} {x y z v : V} {r : R2}
abbrev rDictD : List V → Hp → VK → Prop := fun xs H Q => ∃ (a : Addr) (kvs : List (Key × V)), xs = [.ref a] ∧ Rd H a (.dK kvs) ∧ ∀ p, H p = none → Q (.ref p) (upd H p (.dK kvs))
theorem ed_copy {d : Addr} {kvs : List (Key × V)} (h : Ev ta σ H (.ref d)) (hd : Rd H d (.dK kvs)) : EvD (tCB rDictD (tCons ta tNil)) σ H kvs := fun H1 e Q q =>
  h H1 e _ fun H2 e2 => ⟨d, kvs, rfl, ex_rd (e.trans e2) hd, fun p hp => q p _ (fresh_back e2 hp) (e2.trans (Ex.new hp)) upd_same⟩
end
section
variable {P : Program} {w : World} {K : PySem.W.Frag} {mg : Str → Option Value} {base : Heap}
theorem scFewest : FnScope ["course", "heard", "safe", "places", "at", "kind", "state"] ["course"] (defScope sFewest) := ⟨rfl, rfl, rfl, by decide +kernel, rfl, by decide +kernel, by decide +kernel⟩
theorem ok_fewest {f fC fJ fU CH : Addr} {fd fdC fdJ fdU : FuncData} (F : Fun K "fewest_syncs" "fewest_syncs" sFewest f fd) (T : TxtF K mg fC fJ fU) (GC : FnOk P w K mg base (L2.CX P w) 4 fC fdC ["course"] (spCourse CH)) (bC : Binds K fdC ["course"] [])
    (GJ : FnOk P w K mg base CX0 2 fJ fdJ ["one", "other"] spJoin) (bJ : Binds K fdJ ["one", "other"] []) (GU : FnOk P w K mg base CX0 1 fU fdU ["one", "other"] spUnder) (bU : Binds K fdU ["one", "other"] []) :
    FnOk P w K mg base (L2.CX P w) 5 f fd ["course"] (spFewest CH) := by
  refine F.okX scFewest (fun vs H Q E h => ?_) (fun cdv A outer s H vs Q E hr h => ?_)
  · obtain ⟨c, C, rfl, _⟩ := h
    rfl
  · obtain ⟨c, C, rfl, hC, okC, k1, k2⟩ := h
    have hr2 : Room 2 _ := hr.mono (by decide)
    have hr1 : Room 1 _ := hr.mono (by decide)
    refine ⟨_, pss_cons (ps_expr (pe_call (E := E) GC hr rfl T.mC T.kC bC .nil (passes_call (takes_of rfl rfl rfl rfl) (fun _ _ _ _ h => h)) (pa_cons (pv 0) pa_nil)))
        (pss_cons (ps_set (i := 1) scFewest.nd rfl (Or.inl rfl) pe_dnewK)
        (pss_cons (ps_set (i := 2) scFewest.nd rfl (Or.inl rfl) pe_dnewK)
        (pss_cons (ps_set (i := 3) scFewest.nd rfl (Or.inl rfl) (pe_lst pa_nil))
        (pss_cons (ps_for (passes_of rfl) rfl (pi_range1 rfl T.range (pa_cons (pe_callB call_len_seq (by rfl) T.len (by decide +kernel) (pa_cons (pv 0) pa_nil)) pa_nil)) (pg_name (i := 4) scFewest.nd rfl (Or.inl rfl))
        (pss_cons (ps_asg (pe_ix ix_list (pv 0) (pv 4) (fun _ _ => rfl)) (pg_tup rfl (pgs_cons (pg_name (i := 5) scFewest.nd rfl (Or.inl rfl)) (pgs_cons (pg_name (i := 6) scFewest.nd rfl (Or.inl rfl)) pgs_nil))))
        (pss_one (ps_if (pt_cmpR op_eq (pv 5) pe_str (nomark _))
        (pss_one (ps_set (i := 1) scFewest.nd rfl (Or.inl rfl) (pe_call GJ hr2 rfl T.mJ T.kJ bJ .nil pass0 (pa_cons (pv 6) (pa_cons pe_dnewK pa_nil)))))
        (pss_one (ps_if (pt_not (pt_val (pe_call GU hr1 rfl T.mU T.kU bU .nil pass0 (pa_cons (pv 6) (pa_cons (pv 2) pa_nil)))))
        (pss_cons (ps_set (i := 2) scFewest.nd rfl (Or.inl rfl) (pe_callTy call_dictD (by rfl) T.dct (by decide +kernel) (pa_cons (pv 1) pa_nil)))
        (pss_one (ps_expr (pe_bm PySem.F.plainAttrs_list PySem.F.slot_list_append PySem.F.type_list_append mt_append (pv 3) (pa_cons (pv 4) pa_nil)))))
        pss_nil))))))
        (pss_one (ps_ret (pe_tup (pa_cons (pe_callB call_len_seq (by rfl) T.len (by decide +kernel) (pa_cons (pv 3) pa_nil)) (pa_cons (pv 3) (pa_cons (pe_callTy call_list_of (by rfl) T.lst (by decide +kernel) (pa_cons (pv 3) pa_nil)) pa_nil)))))))))), ?_⟩
    refine ⟨_, rfl, c, C, rfl, hC, okC, fun hw H0 e0 => ?_, fun m hm d H2 e2 h2 => k2 m hm d H2 e2 h2⟩
    have k1 := k1 hw
    obtain ⟨ts, hc, hts⟩ := hC
    have hl : ts.length = C.length := paired_len hts
    intro hd hhd sd hsd
    refine ⟨Nat.zero_le _, fun pl hpl => ?_⟩
    have e1 : Ex H (upd H0 hd (.dK [])) := e0.trans (Ex.new hhd)
    have e2 : Ex H (upd (upd H0 hd (.dK [])) sd (.dK [])) := e1.trans (Ex.new hsd)
    have e3 : Ex H (upd (upd (upd H0 hd (.dK [])) sd (.dK [])) pl (.lst [])) := e2.trans (Ex.new hpl)
    have nhs : hd ≠ sd := ne_of_none upd_same hsd
    have nhp : hd ≠ pl := ne_of_none ((upd_ne nhs).trans upd_same) hpl
    have nsp : sd ≠ pl := ne_of_none upd_same hpl
    have hlen := okC.2
    refine q_forR1 (n := (C.length : Int)) (ea_cons (by rw [← hl]; exact ev_is (ev_len (K := K) (ev_var (i := 0) rfl) (sq_of (e3 _ _ hc))) (by rw [List.length_map])) ea_nil) ⟨by omega, by omega⟩
      (fun i σ H' => ∃ (h g : Addr) (b b2 : Num) (acc : List Nat) (v1 v2 v3 : Option V), σ = [some (.ref c), some (.ref h), some (.ref g), some (.ref pl), v1, v2, v3] ∧ H pl = none ∧ Ex H H' ∧ H' h = some (.dK (kv b)) ∧ H' g = some (.dK (kv b2)) ∧ NumOk b ∧ NumOk b2 ∧ H' pl = some (.lst (intsV acc)) ∧
        acc.length ≤ i ∧ greedyP 0 [] [] C = acc ++ greedyP i b b2 (C.drop i))
      (fun H1 e4 => ⟨hd, sd, [], [], [], none, none, none, rfl, fresh_back e2 hpl, e3.trans e4, e4 _ _ ((upd_ne nhp).trans ((upd_ne nhs).trans upd_same)), e4 _ _ ((upd_ne nsp).trans upd_same), nil_ok, nil_ok, e4 _ _ upd_same, Nat.le_refl _, rfl⟩) ?_ ?_
    · rintro i σ H' hi ⟨h, g, b, b2, acc, v1, v2, v3, rfl, p0, e, hh, hg, okb, okb2, hp, hacc, ck⟩
      have hiC : i < C.length := by omega
      obtain ⟨r, hri⟩ : ∃ r, C[i]? = some r := ⟨_, List.getElem?_eq_getElem hiC⟩
      obtain ⟨t, hti, hr0⟩ := paired_at hts hri
      obtain ⟨d, ht, hd'⟩ := hr0.ex e
      have okr : NumOk r.2 := okC.1 r (List.mem_of_getElem? hri)
      have hdr : C.drop i = r :: C.drop (i + 1) := by
        obtain ⟨hlt, he⟩ := List.getElem?_eq_some_iff.mp hri
        rw [List.drop_eq_getElem_cons hlt, he]
      rw [hdr] at ck
      have ck : greedyP 0 [] [] C = acc ++ (if r.1 = "hear" then greedyP (i + 1) (bareOf r.2) b2 (C.drop (i + 1)) else if under r.2 b2 = true then greedyP (i + 1) b b2 (C.drop (i + 1)) else i :: greedyP (i + 1) b b (C.drop (i + 1))) := ck
      have hat : atI (ts.map V.ref) (i : Int) = some (.ref t) := atI_nat (by rw [List.getElem?_map, hti]; rfl)
      refine ev_ixL (K := K) (ev_var (i := 0) rfl) (ev_var (i := 4) rfl) (sq_of (e _ _ hc)) hat H' (Ex.refl _) _ fun H1 e1 => ?_
      refine ⟨t, _, rfl, st_of (e1 _ _ ht), rfl, _, _, rfl, _, _, rfl, rfl, ?_⟩
      have E1 := e.trans e1
      refine s_if (b := decide (r.1 = "hear")) (et_is (et_test (ev_op (ev_var (i := 5) rfl) ev_c (rv_eq rfl))) (by rw [dec_str]; exact beq_dec)) (fun hk H2 e2 => ?_) (fun hk H2 e2 => ?_)
      · rw [if_pos (of_decide_eq_true hk)] at ck
        refine ed_join (a := r.2) (ev_var (i := 6) rfl) (.inl (e2 _ _ (e1 _ _ hd'))) okr H2 (Ex.refl _) _ fun p H3 _ e3 h3 => ?_
        exact ⟨p, g, bareOf r.2, b2, acc, _, _, _, rfl, p0, (E1.trans e2).trans e3, h3, e3 _ _ (e2 _ _ (e1 _ _ hg)), bare_ok okr, okb2, e3 _ _ (e2 _ _ (e1 _ _ hp)), by omega, ck⟩
      · rw [if_neg (of_decide_eq_false hk)] at ck
        refine s_when (b := !under r.2 b2) (et_not (et_B (ev_call (ea_cons (ev_var (i := 6) rfl) (ea_cons (ev_var (i := 2) rfl) ea_nil)) (spUnder_v (e2 _ _ (e1 _ _ hd')) okr (.inl (e2 _ _ (e1 _ _ hg))))))) (fun hu H3 e3 => ?_) (fun hu H3 e3 => ?_)
        · have hu : under r.2 b2 = false := by simpa using hu
          rw [if_neg (by rw [hu]; decide)] at ck
          refine ⟨_, rfl, h, kv b, rfl, .inl (e3 _ _ (e2 _ _ (e1 _ _ hh))), fun p hpn => ?_⟩
          have e4 : Ex H3 (upd H3 p (.dK (kv b))) := Ex.new hpn
          have h4 : upd H3 p (.dK (kv b)) p = some (.dK (kv b)) := upd_same
          have E4 := (((e1.trans e2).trans e3).trans e4)
          refine s_app (l := pl) (xs := intsV acc) (v := .int (i : Int)) (K := K) (E4 _ _ hp) (ev_var (i := 3) rfl) (ev_var (i := 4) rfl) (by unfold intsV; rw [List.length_map]; omega) fun H5 e5 => ?_
          have nph : h ≠ pl := ne_of hh hp (by intro z; cases z)
          have npp : p ≠ pl := ne_of h4 (E4 _ _ hp) (by intro z; cases z)
          refine ⟨h, p, b, b, acc ++ [i], _, _, _, rfl, p0, Ex.mut ((e.trans E4).trans e5) p0, (upd_ne nph).trans (e5 _ _ (E4 _ _ hh)), (upd_ne npp).trans (e5 _ _ h4), okb, okb, ?_, by rw [List.length_append, List.length_singleton]; omega, ?_⟩
          · rw [upd_same]
            unfold intsV
            rw [List.map_append]
            rfl
          · rw [ck, List.append_assoc]
            rfl
        · have hu : under r.2 b2 = true := by simpa using hu
          rw [if_pos hu] at ck
          exact ⟨h, g, b, b2, acc, _, _, _, rfl, p0, (E1.trans e2).trans e3, e3 _ _ (e2 _ _ (e1 _ _ hh)), e3 _ _ (e2 _ _ (e1 _ _ hg)), okb, okb2, e3 _ _ (e2 _ _ (e1 _ _ hp)), by omega, ck⟩
    · rintro σ H' ⟨h, g, b, b2, acc, v1, v2, v3, rfl, p0, e, hh, hg, okb, okb2, hp, hacc, ck⟩
      have en : (C.length : Int).toNat = C.length := by omega
      rw [en, List.drop_length] at ck
      have ck : greedyP 0 [] [] C = acc := ck.trans (List.append_nil _)
      rw [ck] at k1
      refine ⟨_, rfl, pl, _, rfl, .inl (sq_of hp), _, rfl, _, rfl, pl, _, rfl, .inl (sq_of hp), fun q hq => ⟨by show 3 ≤ sizeLine; decide, fun t ht => ?_⟩⟩
      have e2 : Ex H' (upd H' q (.lst (intsV acc))) := Ex.new hq
      have h2 : upd H' q (.lst (intsV acc)) q = some (.lst (intsV acc)) := upd_same
      have nq : pl ≠ q := ne_of_none hp hq
      have ntq : q ≠ t := ne_of_none h2 ht
      have ntp : pl ≠ t := ne_of_none (e2 _ _ hp) ht
      refine k1 t pl q _ (fresh_back (e.trans e2) ht) p0 (fresh_back e hq) nq ((e.trans e2).trans (Ex.new ht)) ?_ ((upd_ne ntp).trans (e2 _ _ hp)) ((upd_ne ntq).trans h2)
      rw [upd_same]
      have ez : (intsV acc).length = acc.length := List.length_map _
      rw [ez]
end
end K82
end
section
set_option maxRecDepth 100000
set_option maxHeartbeats 4000000
/-! dicts unlike; captured cells behind their frame; calls of functions held as values. -/
namespace K82
open PySem L2 Evl NdefX LamX
/-! ### == of dicts of numbers -/
def hitN (b : Num) : Num → Bool
  | [] => true
  | p :: r => match b.lookup p.1 with
    | none => false
    | some m => (p.2 == m) && hitN b r
def eqN (a b : Num) : Bool := a.length == b.length && hitN b a
theorem hits_num {A : Around} {s : Shared} {b : Num} {vb : List (Key × Value)} (rb : KV (kv b) vb) : ∀ {a : Num} {va : List (Key × Value)}, KV (kv a) va → PySem.W.KeqHits A s vb va (hitN b a)
  | [], _, .nil => .nil
  | p :: r, _, .cons (b := q) h t => by
    obtain ⟨h1, t1, h2⟩ := h
    obtain ⟨k, v⟩ := q
    have h1 : Sum.inr p.1 = k := h1
    have h2 : v = Value.int p.2 t1 := h2
    subst h1
    subst h2
    have rr : RelO (valV (kv b) (Sum.inr p.1)) (valueAt vb (Sum.inr p.1)) := rb.val _
    rw [valV_kv] at rr
    unfold hitN
    cases e : b.lookup p.1 with
    | none =>
      rw [e] at rr
      refine .miss ?_
      cases e2 : valueAt vb (Sum.inr p.1) with
      | none => rfl
      | some y => rw [e2] at rr; exact rr.elim
    | some m =>
      rw [e] at rr
      obtain ⟨y, hy, ry⟩ := (show RelO (some (V.int m)) _ from rr).some_of
      obtain ⟨t2, rfl⟩ := ry
      exact .hit hy (SeqAt.EqAt.int_int p.2 t1 m t2) (hits_num rb t)
def rNeN : R2 := fun x y H Q => ∃ a b n m, x = .ref a ∧ y = .ref b ∧ Rd H a (.dK (kv n)) ∧ Rd H b (.dK (kv m)) ∧ Q (.bl (!eqN n m)) H
def rEqN : R2 := fun x y H Q => ∃ a b n m, x = .ref a ∧ y = .ref b ∧ Rd H a (.dK (kv n)) ∧ Rd H b (.dK (kv m)) ∧ Q (.bl (eqN n m)) H
section
variable {X : Cx}
theorem op_neN (hu : X.A.units < cLine) : OpR X (compareOp .NotEq) rNeN := by
  intro pins s σ H x y v u Q I rx ry h
  obtain ⟨a, b, n, m, rfl, rfl, ea, eb, q⟩ := h
  obtain rfl : v = Value.ref a := rx
  obtain rfl : u = Value.ref b := ry
  obtain ⟨_, ya, va, ra, da⟩ := (show ObjOk X.prog X.w H s.heap a (.dK (kv n)) from ea.ok I.hok)
  obtain ⟨_, yb, vb, rb, db⟩ := (show ObjOk X.prog X.w H s.heap b (.dK (kv m)) from eb.ok I.hok)
  have la : va.length = n.length := by rw [← ra.length, kv_len]
  have lb : vb.length = m.length := by rw [← rb.length, kv_len]
  refine PySem.W.keq_ne (knd := mixKind X.prog X.w) (r := hitN m n) ya yb da db hu (fun _ => hits_num rb ra) (fin_bl I q ?_)
  rw [la, lb]
  rfl
theorem op_eqN (hu : X.A.units < cLine) : OpR X (compareOp .Eq) rEqN := by
  intro pins s σ H x y v u Q I rx ry h
  obtain ⟨a, b, n, m, rfl, rfl, ea, eb, q⟩ := h
  obtain rfl : v = Value.ref a := rx
  obtain rfl : u = Value.ref b := ry
  obtain ⟨_, ya, va, ra, da⟩ := (show ObjOk X.prog X.w H s.heap a (.dK (kv n)) from ea.ok I.hok)
  obtain ⟨_, yb, vb, rb, db⟩ := (show ObjOk X.prog X.w H s.heap b (.dK (kv m)) from eb.ok I.hok)
  have la : va.length = n.length := by rw [← ra.length, kv_len]
  have lb : vb.length = m.length := by rw [← rb.length, kv_len]
  refine PySem.W.keq_eq (knd := mixKind X.prog X.w) (r := hitN m n) ya yb da db hu (fun _ => hits_num rb ra) (fin_bl I q ?_)
  rw [la, lb]
  rfl
end
/-! ### a cell behind its frame -/
def CellO (c : Addr) (v : V) : HO := .ext fun h => ∃ u, RelV v u ∧ h.IsCell c (some u)
def off (H : Hp) (c : Addr) : Hp := fun b => if b = c then none else H b
theorem off_ne {H : Hp} {b c : Addr} (h : b ≠ c) : off H c b = H b := if_neg h
theorem off_same {H : Hp} {c : Addr} : off H c c = none := if_pos rfl
theorem off_some {H : Hp} {b c : Addr} {o : HO} (h : off H c b = some o) : b ≠ c ∧ H b = some o := by
  by_cases e : b = c
  · rw [e, off_same] at h; cases h
  · rw [off_ne e] at h; exact ⟨e, h⟩
theorem off_none {H : Hp} {b c : Addr} (h : H b = none) : off H c b = none := by
  by_cases e : b = c
  · rw [e]; exact off_same
  · rw [off_ne e]; exact h
theorem cellO_at {P : Program} {w : World} {H : Hp} {h : Heap} {c : Addr} {v : V} (ok : HOk P w H h) (e : H c = some (CellO c v)) : ∃ u, RelV v u ∧ h.IsCell c (some u) := by
  obtain ⟨z, _, _⟩ := ok c _ e
  exact z
theorem cellO_of {P : Program} {w : World} {H : Hp} {h : Heap} {c : Addr} {v : V} {u : Value} (r : RelV v u) (e : h.IsCell c (some u)) : ObjOk P w H h c (CellO c v) := by
  refine ⟨⟨u, r, e⟩, ?_, fun h1 h2 ⟨u, r, o, a, b⟩ st => ⟨u, r, o, st _ a, b⟩⟩
  obtain ⟨o, a, _⟩ := e
  exact ⟨o, a⟩
section
variable {P : Program} {w : World} {K : PySem.W.Frag} {mg : Str → Option Value} {base : Heap} {A : Around} {outer : List Env} {s : Shared} {H : Hp} {c : Addr} {v : V}
theorem off_ok (ok : HOk P w H s.heap) (e : H c = some (CellO c v)) : HOk P w (off H c) s.heap := fun b o q => by
  obtain ⟨n, q⟩ := off_some q
  refine (ok b o q).stay (fun _ _ _ z => z) (fun d z => ?_) fun d xs z => ?_
  · refine (off_ne fun ee => ?_).trans z
    rw [ee, e] at z
    cases z
  · refine (off_ne fun ee => ?_).trans z
    rw [ee, e] at z
    cases z
theorem Env0.off (e0 : Env0 P w K mg base A outer s H) (e : H c = some (CellO c v)) : Env0 P w K mg base A outer s (off H c) :=
  ⟨e0.frames, e0.mod, fun b o q => ⟨(e0.bs b o q).1, off_none (e0.bs b o q).2⟩, e0.bsz, e0.funs, fun b hb => off_none (e0.frf b hb), off_ok e0.hok e, e0.bare⟩
theorem ce_on {Q : VK} {u : Value} {s' : Shared} (ok : HOk P w H s.heap) (e : H c = some (CellO c v)) (h : CE outer P w (off H c) s (fun x H2 => Q x (upd H2 c (CellO c v))) u s') : CE outer P w H s Q u s' := by
  obtain ⟨x, H2, os, bare, un, hok, r, q⟩ := h
  have nx : ∀ b : Addr, b ∉ ([] : List Addr) := fun b z => by cases z
  obtain ⟨vu, rv, oc, hc, dc⟩ := cellO_at ok e
  have ne : ∀ {b : Addr} {o : HO}, H b = some o → (∀ φ, o ≠ .ext φ) → b ≠ c := fun {b o} q nn z => by
    rw [z, e] at q
    exact nn _ (Option.some.inj q).symm
  have nn : ∀ {b : Addr}, H b = none → b ≠ c := fun {b} q z => by
    rw [z, e] at q
    cases q
  have n2 : H2 c = none := un.free c oc hc off_same (nx c)
  obtain ⟨sl, hc2⟩ := un.any hc off_same (nx c)
  refine ⟨x, _, os, bare, ⟨fun b o hb n hf hx => un.keep b o hb (off_none n) hf hx, fun b o hb n hf hx => un.slot b o hb (off_none n) hf hx, fun b o hb n hx => (upd_ne (nn n)).trans (un.free b o hb (off_none n) hx), un.there, fun b xs z => ?_, fun b o u z => ?_, fun b ps z => ?_⟩, fun b o q => ?_, r, q⟩
  · have k := ne z fun φ => by intro z; cases z
    exact (upd_ne k).trans (un.tups b xs ((off_ne k).trans z))
  · have k := ne z fun φ => by intro z; cases z
    exact (upd_ne k).trans (un.frzs b o u ((off_ne k).trans z))
  · have k := ne z fun φ => by intro z; cases z
    obtain ⟨more, z2⟩ := un.tbls b ps ((off_ne k).trans z)
    exact ⟨more, (upd_ne k).trans z2⟩
  · have q : upd H2 c (CellO c v) b = some o := q
    show ObjOk P w (upd H2 c (CellO c v)) _ _ _
    by_cases hb : b = c
    · rw [hb, upd_same] at q
      rw [← Option.some.inj q, hb]
      exact cellO_of rv ⟨_, hc2, dc⟩
    · rw [upd_ne hb] at q
      refine (hok b o q).stay (fun _ _ _ z => z) (fun d z => (upd_ne fun ee => ?_).trans z) fun d xs z => (upd_ne fun ee => ?_).trans z
      · rw [ee, n2] at z; cases z
      · rw [ee, n2] at z; cases z
end
/-! ### a call of a value that is a function -/
def Runs (P : Program) (w : World) (K : PySem.W.Frag) (mg : Str → Option Value) (base : Heap) (k : Nat) (f : Addr) (vs : List V) (H : Hp) (Q : VK) : Prop :=
  ∀ (A : Around) (outer : List Env) (s : Shared) (us : List Value), Room k A → Env0 P w K mg base A outer s H → Vals vs us → codeAny (model P w) A (.call (.ref f) ⟨us, []⟩) (CR CX0 outer P w H s Q E0) s
def tCallR (P : Program) (w : World) (K : PySem.W.Frag) (mg : Str → Option Value) (base : Heap) (k : Nat) (tg : TE) (t : TA) : TE := fun σ H Q => tg σ H fun v H1 => ∃ f F, v = .ref f ∧ H1 f = some (FnO f F) ∧
  t σ H1 fun vs H2 => H2 f = some (FnO f F) ∧ Runs P w K mg base k f vs H2 Q
section
variable {X : Cx} {k : Nat} {g e : Expr} {es : List Expr} {pos : Pos} {tg : TE} {t : TA}
theorem run_r {pins : List (Addr × Obj)} {σ : L2.St} {H : Hp} {s : Shared} {Q : VK} {f : Addr} {us : List Value} {vs : List V} (hr : Room k X.A) (I : Inv X pins σ H s) (r : Vals vs us) (q : Runs X.prog X.w X.K X.mg X.base k f vs H Q) :
    wpAny (model X.prog X.w) X.A (call (.ref f) us) (EP X pins σ Q) X.xe s := by
  refine wpAny_call (codeAny_mono (q X.A X.stack s us hr I.env0 r) fun r s' hq => ?_)
  cases r with
  | error e => exact False.elim hq
  | ok fl =>
    cases fl with
    | ret u => exact I.after hq
    | next => exact False.elim hq
    | brk => exact False.elim hq
    | cont => exact False.elim hq
theorem pe_callR (hr : Room k X.A) (hg : PE X g tg) (ha : PA X (e :: es) t) (heq : eval (.Call g (e :: es) [] pos) X.env = (eval g X.env >>= fun f => callWith pos f [] (backTo pos (starEach (e :: es) X.env)) (backToKw pos (keywordEach [] X.env))) := by rfl)
    (he : starEach (e :: es) X.env = (false, eval e X.env) :: starEach es X.env := by rfl) (hpl : (backTo pos (starEach es X.env)).any (·.1) = false := by rfl) :
    PE X (.Call g (e :: es) [] pos) (tCallR X.prog X.w X.K X.mg X.base k tg t) := by
  refine ⟨fun pins s σ H Q I h => ?_⟩
  rw [heq]
  refine wpAny_bind (thn (hg.run pins s σ H _ I h) fun u s1 ⟨v, H1, I1, r1, f, F, ev, hf, ht⟩ => ?_)
  subst ev
  obtain rfl : u = Value.ref f := r1
  refine PySem.W.callWith_F (first := []) (fnAt_of I1 hf) (thn (ha.run pos pins s1 σ H1 _ I1 ht) fun us s2 ⟨vs, H2, I2, r, h1, q⟩ => ⟨fnAt_of I2 h1, ?_⟩) he hpl
  show wpAny _ _ (call (.ref f) us) _ _ _
  exact run_r hr I2 r q
theorem pe_callR0 (hr : Room k X.A) (hg : PE X g tg) (heq : eval (.Call g [] [] pos) X.env = (eval g X.env >>= fun f => callWith pos f [] (backTo pos (starEach [] X.env)) (backToKw pos (keywordEach [] X.env))) := by rfl) :
    PE X (.Call g [] [] pos) (tCallR X.prog X.w X.K X.mg X.base k tg tNil) := by
  refine ⟨fun pins s σ H Q I h => ?_⟩
  rw [heq]
  refine wpAny_bind (thn (hg.run pins s σ H _ I h) fun u s1 ⟨v, H1, I1, r1, f, F, ev, hf, h1, q⟩ => ?_)
  subst ev
  obtain rfl : u = Value.ref f := r1
  refine PySem.W.callWith_F0 (first := []) (fnAt_of I1 hf) ?_
  show wpAny _ _ (call (.ref f) []) _ _ _
  exact run_r hr I1 .nil q
end
/-! ### the two functions of a rule -/
def sOpens : Stmt := (defBody sRule).getD 0 (.Pass ⟨0, 0, 0, 0⟩)
def sHears : Stmt := (defBody sRule).getD 1 (.Pass ⟨0, 0, 0, 0⟩)
def qOpens : Str := "_law_rule.<locals>._law_opens"
def qHears : Str := "_law_rule.<locals>._law_hears"
def mkOpens (c' : Addr) : NF := NF.of sOpens "_law_opens" qOpens [] c'
def mkHears (c c' : Addr) : NF := NF.of sHears "_law_hears" qHears [("kind", c)] c'
def asksAll (after : Bool) (h s : Num) (r : Row) : List Bool := [true, false, after, !eqN h s, decide (r.1 = "tell") && !under (bareOf r.2) s]
def asksOf (k : Nat) (after : Bool) (h s : Num) (r : Row) : Bool := (asksAll after h s r).getD k false
/-- what is remembered: heard, safe, whether a hear was just ahead -/
structure Mem where
  h : Num
  s : Num
  after : Bool
def MemAt (H : Hp) (m : Addr) (M : Mem) : Prop := ∃ h s, H m = some (.tup [.ref h, .ref s, .bl M.after]) ∧ H h = some (.dK (kv M.h)) ∧ H s = some (.dK (kv M.s))
def Mem.asks (k : Nat) (M : Mem) (r : Row) : Bool := asksOf k M.after M.h M.s r
def Mem.next (k : Nat) (M : Mem) (r : Row) : Mem := ⟨if r.1 = "hear" then bareOf r.2 else M.h, if M.asks k r = true then M.h else M.s, decide (r.1 = "hear")⟩
def spOpens : List (Option V) → Sp := fun _ vs H Q _ => vs = [] ∧ ∀ m H2, H m = none → Ex H H2 → MemAt H2 m ⟨[], [], false⟩ → Q (.ref m) H2
def spHears : List (Option V) → Sp := fun ws vs H Q _ => ∃ (m row : Addr) (M : Mem) (k : Nat) (r : Row), ws = [some (.int (k : Int))] ∧ k < 5 ∧ vs = [.ref m, .ref row] ∧ MemAt H m M ∧ RowAt H row r ∧ NumOk r.2 ∧
  ∀ t m2 H2, Ex H H2 → H2 t = some (.tup [.ref m2, .bl (M.asks k r)]) → MemAt H2 m2 (M.next k r) → Q (.ref t) H2
section
variable {K : PySem.W.Frag} {σ : L2.St} {H H' : Hp} {ta tb te tx td ty tk tv tl : TE} {t u : TT} {x y z v : V} {r : R2}
theorem evp_if {b : Bool} {R : V → Hp → Prop} (h : EvT t σ H b) (h1 : b = true → EvP ta σ H R) (h2 : b = false → EvP tb σ H R) : EvP (tIf t ta tb) σ H R := fun H1 e Q q => h H1 e _ fun H2 e2 => by
  cases b with
  | true => exact iteT (h1 rfl H2 (e.trans e2) Q fun v H3 e3 => q v H3 (e2.trans e3))
  | false => exact iteF (h2 rfl H2 (e.trans e2) Q fun v H3 e3 => q v H3 (e2.trans e3))
theorem ed_lbare {d : Addr} {a : Num} {E : XK} (h : Ev ta σ H (.ref d)) (hd : Rd H d (.dK (kv a))) (ok : NumOk a) : EvD (tCall spBare [] E (tCons ta tNil)) σ H (kv (bareOf a)) := fun H1 e Q q =>
  h H1 e _ fun H2 e2 => ⟨d, a, rfl, ex_rd (e.trans e2) hd, ok.nd, ok.few, fun p H3 hp e3 h3 => q p H3 (fresh_back e2 hp) (e2.trans e3) h3⟩
theorem ev_underBare {d o : Addr} {a b : Num} {E E' : XK} (h : Ev ta σ H (.ref d)) (hd : Rd H d (.dK (kv a))) (ok : NumOk a) (hb : Ev tb σ H (.ref o)) (ho : Rd H o (.dK (kv b))) :
    Ev (tCall spUnder [] E (tCons (tCall spBare [] E' (tCons ta tNil)) (tCons tb tNil))) σ H (.bl (under (bareOf a) b)) := fun H1 e Q q =>
  ed_lbare h hd ok H1 e _ fun p H3 hp e3 h3 => hb H3 (e.trans e3) _ fun H4 e4 => spUnder_v (e4 _ _ h3) (bare_ok ok) (ex_rd ((e.trans e3).trans e4) ho) H4 (Ex.refl _) _ (fun H5 e5 => q H5 ((e3.trans e4).trans e5)) E
end
theorem asks_at {k : Nat} (hk : k < 5) (M : Mem) (r : Row) : atI ((asksAll M.after M.h M.s r).map V.bl) (k : Int) = some (.bl (M.asks k r)) := by
  refine atI_nat ?_
  have hl : k < (asksAll M.after M.h M.s r).length := hk
  rw [List.getElem?_map, List.getElem?_eq_getElem hl]
  show some (V.bl _) = some (V.bl ((asksAll M.after M.h M.s r).getD k false))
  rw [List.getD_eq_getElem?_getD, List.getElem?_eq_getElem hl]
  rfl
theorem scOpens : NScope [] [] [] (C8.fnScope sOpens) := nscope_by (by decide +kernel)
theorem scHears : NScope ["memory", "row", "kind", "heard", "safe", "after", "asks"] ["memory", "row"] ["kind"] (C8.fnScope sHears) := nscope_by (by decide +kernel)
structure TxtH (K : PySem.W.Frag) (mg : Str → Option Value) (fU fB : Addr) : Prop where
  mU : mg "_law_is_under" = some (.ref fU)
  kU : PySem.W.keepIn K (.ref fU) = true
  mB : mg "_law_bare" = some (.ref fB)
  kB : PySem.W.keepIn K (.ref fB) = true
section
variable {P : Program} {w : World} {K : PySem.W.Frag} {mg : Str → Option Value} {base : Heap}
theorem ok_opens (f c' : Addr) : NOk P w K mg base CX0 1 f (mkOpens c') [] [] spOpens := by
  refine nok_of scOpens (fun doc pm ctv us hl => match us, hl with | [], _ => rfl) (fun ws vs H Q E h => by rw [h.1] <;> rfl) (fun A outer s H vs ws Q E hr hf hc hl h => ?_)
  refine ⟨_, pss_one (ps_ret (pe_tup (pa_cons pe_dnewK (pa_cons pe_dnewK (pa_cons pe_bl pa_nil))))), ?_⟩
  obtain ⟨rfl, h⟩ := h
  intro h0 hh0 s0 hs0
  refine ⟨by show 3 ≤ sizeLine; decide, fun m hm => ?_⟩
  have n1 : h0 ≠ s0 := ne_of_none upd_same hs0
  have n2 : h0 ≠ m := ne_of_none ((upd_ne n1).trans upd_same) hm
  have n3 : s0 ≠ m := ne_of_none upd_same hm
  have e2 : Ex H (upd (upd H h0 (.dK [])) s0 (.dK [])) := (Ex.new hh0).trans (Ex.new hs0)
  exact h m _ (fresh_back e2 hm) (e2.trans (Ex.new hm)) ⟨h0, s0, upd_same, (upd_ne n2).trans ((upd_ne n1).trans upd_same), (upd_ne n3).trans upd_same⟩
theorem ok_hears {fU fB : Addr} {fdU fdB : FuncData} (T : TxtH K mg fU fB) (GU : FnOk P w K mg base CX0 1 fU fdU ["one", "other"] spUnder) (bU : Binds K fdU ["one", "other"] []) (GB : FnOk P w K mg base CX0 1 fB fdB ["numbers"] spBare) (bB : Binds K fdB ["numbers"] [])
    (f c c' : Addr) : NOk P w K mg base CX0 2 f (mkHears c c') ["memory", "row"] ["kind"] spHears := by
  refine nok_of scHears (fun doc pm ctv us hl => match us, hl with | [_, _], _ => rfl) (fun ws vs H Q E h => by obtain ⟨_, _, _, _, _, _, _, rfl, _⟩ := h; rfl) (fun A outer s H vs ws Q E hr hf hc hl h => ?_)
  have hu := hr.units
  have hu' := hu_of hr
  refine ⟨_, pss_cons (ps_asg (pv 0) (pg_tup rfl (pgs_cons (pg_name (i := 3) scHears.nd rfl (Or.inl rfl)) (pgs_cons (pg_name (i := 4) scHears.nd rfl (Or.inl rfl)) (pgs_cons (pg_name (i := 5) scHears.nd rfl (Or.inl rfl)) pgs_nil)))))
        (pss_cons (ps_set (i := 6) scHears.nd rfl (Or.inl rfl) (pe_ix ix_list (pe_lst (pa_cons pe_bl (pa_cons pe_bl (pa_cons (pv 5) (pa_cons (pe_cmpR (op_neN (Nat.lt_of_le_of_lt (Nat.le_add_right _ _) hu)) (pv 3) (pv 4) (nomark _)) (pa_cons (pe_and (pe_cmpR op_eq (pe_ix ix_tup (pv 1) pe_int (fun _ _ => rfl)) pe_str (nomark _)) (pe_one (pe_not (pe_call GU hr rfl T.mU T.kU bU .nil pass0 (pa_cons (pe_call GB hr rfl T.mB T.kB bB .nil pass0 (pa_cons (pe_ix ix_tup (pv 1) pe_int (fun _ _ => rfl)) pa_nil)) (pa_cons (pv 4) pa_nil)))))) pa_nil)))))) (pv 2) (fun _ _ => rfl)))
        (pss_cons (ps_if (pt_val (pv 6))
        (pss_one (ps_set (i := 4) scHears.nd rfl (Or.inl rfl) (pv 3)))
        pss_nil)
        (pss_one (ps_ret (pe_tup (pa_cons (pe_tup (pa_cons (pe_ifExp (pt_cmpR op_eq (pe_ix ix_tup (pv 1) pe_int (fun _ _ => rfl)) pe_str (nomark _)) (pe_call GB hr rfl T.mB T.kB bB .nil pass0 (pa_cons (pe_ix ix_tup (pv 1) pe_int (fun _ _ => rfl)) pa_nil)) (pv 3)) (pa_cons (pv 4) (pa_cons (pe_cmpR op_eq (pe_ix ix_tup (pv 1) pe_int (fun _ _ => rfl)) pe_str (nomark _)) pa_nil)))) (pa_cons (pv 6) pa_nil))))))), ?_⟩
  obtain ⟨m, row, M, k, r, rfl, hk, rfl, hm, hrow, okr, h⟩ := h
  obtain ⟨ha, sa, hm0, hh, hs⟩ := hm
  obtain ⟨d, ht, hd⟩ := hrow
  refine ⟨_, rfl, m, _, rfl, st_of hm0, rfl, _, _, rfl, _, _, rfl, _, _, rfl, rfl, ?_⟩
  have row0 : ∀ (σ : L2.St) (H' : Hp), σ[1]? = some (some (.ref row)) → Ex H H' → Ev (tOp (rIxT K) (tVar 1) (tC (V.int 0))) σ H' (.str r.1) := fun σ H' e1 e2 => ev_ixT (i := 0) (ev_var e1) ev_c (e2 _ _ ht) rfl
  have row1 : ∀ (σ : L2.St) (H' : Hp), σ[1]? = some (some (.ref row)) → Ex H H' → Ev (tOp (rIxT K) (tVar 1) (tC (V.int 1))) σ H' (.ref d) := fun σ H' e1 e2 => ev_ixT (i := 1) (ev_var e1) ev_c (e2 _ _ ht) rfl
  refine s_asg (v := .bl (M.asks k r)) (ev_opL1 (xs := (asksAll M.after M.h M.s r).map V.bl) (y := .int (k : Int)) (el_lst (ea_cons ev_c (ea_cons ev_c (ea_cons (ev_var rfl) (ea_cons (x := .bl (!eqN M.h M.s)) (ev_op (ev_var rfl) (ev_var rfl) (rv_val fun H1 e Q q => ⟨ha, sa, _, _, rfl, rfl, .inl (e _ _ hh), .inl (e _ _ hs), q⟩))
    (ea_cons (x := .bl (decide (r.1 = "tell") && !under (bareOf r.2) M.s)) (ev_andV (ev_is (ev_op (row0 _ _ rfl (Ex.refl _)) ev_c (rv_eq rfl)) (by rw [dec_str, beq_dec])) fun _ => ev_notV (ev_underBare (row1 _ _ rfl (Ex.refl _)) (.inl hd) okr (ev_var rfl) (.inl hs))) ea_nil))))) (by show 5 ≤ 100000; decide))
    (fun H1 e => ev_var rfl) (fun p H1 h1 e => rv_ixL (sq_of h1) (asks_at hk M r))) fun H1 e1 => ?_
  refine q_ifAsg (b := M.asks k r) (v := .ref (if M.asks k r = true then ha else sa)) (et_B (ev_var rfl)) (fun hb => ev_is (ev_var rfl) (by rw [if_pos hb])) (fun hb => by rw [hb] <;> rfl) fun H2 e2 => ?_
  have E2 := e1.trans e2
  have evh : EvP (tIf (tTest (tOp rEq (tOp (rIxT K) (tVar 1) (tC (V.int 0))) (tC (V.str "hear")))) (tCall spBare [] E0 (tCons (tOp (rIxT K) (tVar 1) (tC (V.int 1))) tNil)) (tVar 3)) [some (.ref m), some (.ref row), some (.int (k : Int)), some (.ref ha), some (.ref (if M.asks k r = true then ha else sa)), some (.bl M.after), some (.bl (M.asks k r))] H2 fun x H3 => ∃ p, x = .ref p ∧ H3 p = some (.dK (kv (if r.1 = "hear" then bareOf r.2 else M.h))) := by
    refine evp_if (b := decide (r.1 = "hear")) (et_is (et_test (ev_op (row0 _ _ rfl E2) ev_c (rv_eq rfl))) (by rw [dec_str, beq_dec])) (fun hb => ?_) fun hb => ?_
    · rw [if_pos (of_decide_eq_true hb)]
      exact evp_d (ed_lbare (row1 _ _ rfl E2) (.inl (E2 _ _ hd)) okr)
    · rw [if_neg (of_decide_eq_false hb)]
      intro H3 e3 Q q
      exact (ev_var (i := 3) (v := .ref ha) rfl) H3 e3 Q fun H4 e4 => q _ H4 e4 ⟨ha, rfl, (e3.trans e4) _ _ (E2 _ _ hh)⟩
  refine evh H2 (Ex.refl _) _ fun x H3 e3 ⟨p, ex, hp⟩ => ?_
  subst ex
  refine ⟨_, rfl, ?_⟩
  have E3 := E2.trans e3
  refine (ev_op (z := .bl (decide (r.1 = "hear"))) (row0 _ _ rfl E3) ev_c (by
    have q := rv_eq (H := H3) (x := .str r.1) (y := .str "hear") rfl
    rw [dec_str, beq_dec] at q
    exact q)) H3 (Ex.refl _) _ fun H4 e4 => ?_
  refine ⟨by show 3 ≤ sizeLine; decide, fun m2 hm2 => ⟨_, rfl, by show 2 ≤ sizeLine; decide, fun t2 ht2 => ?_⟩⟩
  have E4 : Ex H3 (upd (upd H4 m2 (.tup [.ref p, .ref (if M.asks k r = true then ha else sa), .bl (decide (r.1 = "hear"))])) t2 (.tup [.ref m2, .bl (M.asks k r)])) := (e4.trans (Ex.new hm2)).trans (Ex.new ht2)
  have nm : m2 ≠ t2 := ne_of_none upd_same ht2
  refine h t2 m2 _ (E3.trans E4) upd_same ⟨p, _, (upd_ne nm).trans upd_same, E4 _ _ hp, E4 _ _ (e3 _ _ (E2 _ _ ?_))⟩
  show H (if M.asks k r = true then ha else sa) = some (.dK (kv (if M.asks k r = true then M.h else M.s)))
  cases M.asks k r with
  | true => exact hh
  | false => exact hs
end
end K82
end
section
set_option maxRecDepth 100000
set_option maxHeartbeats 4000000
/-! _law_rule: the two functions are made, the captured number lives on. -/
namespace K82
open PySem PySem.Spec PyProof.Rows L2 Evl NdefX LamX
/-- a def of the text whose code object has an address -/
structure FunC (K : PySem.W.Frag) (x qual : Str) (st : Stmt) (f : Addr) (fd : FuncData) (c : Addr) : Prop where
  ex : ∃ (oc : Value) (od : Option Addr) (kV doc pm : Value) (an : Option Addr) (ct : Value) (osl : Array (Option Value)),
    fd = PySem.W.fnOf x qual (defArgs st) (defBody st) (defScope st) .none kV doc pm an (.ref c) ct ∧ K.lookup f = some ⟨oc, od, .func fd, osl⟩ ∧ PySem.W.codeIn K (.ref c) qual = true
  kp : PySem.W.keepIn K (.ref f) = true
theorem FunC.fn {K : PySem.W.Frag} {x qual : Str} {st : Stmt} {f c : Addr} {fd : FuncData} (F : FunC K x qual st f fd c) : Fun K x qual st f fd := by
  obtain ⟨oc, od, kV, doc, pm, an, ct, osl, h1, h2, h3⟩ := F.ex
  exact ⟨⟨oc, od, kV, doc, pm, an, .ref c, ct, osl, h1, h2, h3⟩, F.kp⟩
section
variable {P : Program} {w : World} {K : PySem.W.Frag} {mg : Str → Option Value} {base : Heap} {fs ex : List Addr} {H H2 : Hp} {h h' : Heap} {c : Addr} {o : HO}
theorem un_on (u : Un fs ex H H2 h h') (n : H2 c = none) (f : h.get? c = none) : Un fs ex H (upd H2 c o) h h' :=
  ⟨u.keep, u.slot, fun b ob hb n2 hx => (upd_ne fun z => by rw [z, f] at hb; cases hb).trans (u.free b ob hb n2 hx), u.there, fun b xs z => (upd_ne (ne_of_none (u.tups b xs z) n)).trans (u.tups b xs z),
    fun b ob v z => (upd_ne (ne_of_none (u.frzs b ob v z) n)).trans (u.frzs b ob v z), fun b ps z => by
      obtain ⟨more, z2⟩ := u.tbls b ps z
      exact ⟨more, (upd_ne (ne_of_none z2 n)).trans z2⟩⟩
theorem hok_on {v : V} {u : Value} (ok : HOk P w H2 h') (n : H2 c = none) (r : RelV v u) (e : h'.IsCell c (some u)) : HOk P w (upd H2 c (CellO c v)) h' := fun b o q => by
  by_cases hb : b = c
  · rw [hb, upd_same] at q
    rw [← Option.some.inj q, hb]
    exact cellO_of r e
  · rw [upd_ne hb] at q
    exact (ok b o q).stay (fun _ _ _ z => z) (fun d z => (upd_ne (ne_of_none z n)).trans z) fun d xs z => (upd_ne (ne_of_none z n)).trans z
/-- a def's promise by a run of its body of which all is told -/
theorem fn_run {CX : CXT} {k : Nat} {f cc : Addr} {x qual : Str} {st : Stmt} {fd : FuncData} {N ps : List Str} {sp : Sp} (F : FunC K x qual st f fd cc) (S : FnScope N ps (defScope st)) (len : ∀ vs H Q E, sp vs H Q E → vs.length = ps.length)
    (hbody : ∀ (A : Around) (outer : List Env) (s : Shared) (H : Hp) (vs : List V) (Q : VK) (E : XK), Room k (A.deeper (envOfC qual (defScope st) s.heap.objs.size f (.ref cc))) → sp vs H Q E → ∀ s1, Inv (cxOf CX P w K mg base N qual (defScope st) f (.ref cc) A outer s H E) [] (start N vs) H s1 →
      wpAny (model P w) (A.deeper (envOfC qual (defScope st) s.heap.objs.size f (.ref cc))) (execs (defBody st) (envOfC qual (defScope st) s.heap.objs.size f (.ref cc))) (fun fl s' => ∃ u, fl = .ret u ∧ CE outer P w H s Q u s') (cxOf CX P w K mg base N qual (defScope st) f (.ref cc) A outer s H E).xe s1) :
    FnOk P w K mg base CX (k + 1) f fd ps sp := by
  obtain ⟨oc, od, kV, doc, pm, an, ct, osl, rfl, lk, hcd⟩ := F.ex
  refine ⟨len, fun A outer s H args us vs Q E hr e0 hb r hsp => ?_⟩
  have KX : K.In s.heap := e0.mod.kin.keeps fun b o e => (e0.bs b o e).1
  have lim : s.heap.NoLimit := e0.mod.nolimit.keeps fun b o e => (e0.bs b o e).1
  have hkind : ∀ y ∈ ps.zip us, (defScope st).names.lookup y.1 = some .local ∨ ((defScope st).names.lookup y.1 = some .cell ∧ ((cellsFrom (s.heap.objs.size + 1) (defScope st).names []).lookup y.1).isSome = true) := fun ⟨n, v⟩ hy => by
    rcases S.par n (List.of_mem_zip hy).1 with q | q
    · exact .inl q
    · exact .inr ⟨q, PySem.W.cellsFrom_some _ _ _ (.inl q)⟩
  refine codeAny_call_function hr.depth (KX _ _ lk) rfl S.co S.gen rfl (PySem.W.codeRec_of KX hcd) (hb _ _ _ _ ?_)
  refine wpAny_newFunctionEnv_cells S.kind hkind fun env he s1 x => ?_
  subst he
  refine ⟨lim.keeps x.toInCall.keep, codeAny_func ?_⟩
  have I := inv_start (CX := CX) (E := E) (f := f) (cd := .ref cc) S hr.hd e0 (len _ _ _ _ hsp) r x
  refine wpAny_mono (hbody A outer s H vs Q E (hr.deeper _) hsp s1 I) (fun fl s' hs => ?_) fun e s' hs => hs
  obtain ⟨u, rfl, q⟩ := hs
  exact q
end
/-- a rule of the kind k -/
def RuleAt (H : Hp) (r : Addr) (k : Nat) : Prop := ∃ f1 f2 c1 c2 c, H r = some (.tup [.ref f1, .ref f2]) ∧ H f1 = some (FnO f1 (mkOpens c1)) ∧ H c1 = some (CodeO c1 qOpens) ∧ H f2 = some (FnO f2 (mkHears c c2)) ∧ H c2 = some (CodeO c2 qHears) ∧ H c = some (CellO c (.int (k : Int)))
theorem cellO_ne {c : Addr} {v : V} (ps : Array Value) : CellO c v ≠ .tbl ps := fun z => by
  unfold CellO at z
  cases z
theorem RuleAt.ext {H H' : Hp} {r : Addr} {k : Nat} (h : RuleAt H r k) (e : ExtN H H') : RuleAt H' r k := by
  obtain ⟨f1, f2, c1, c2, c, h1, h2, h3, h4, h5, h6⟩ := h
  exact ⟨f1, f2, c1, c2, c, e _ _ h1 (fun ps z => by cases z), e _ _ h2 fnO_ne, e _ _ h3 codeO_ne, e _ _ h4 fnO_ne, e _ _ h5 codeO_ne, e _ _ h6 cellO_ne⟩
/-- the names by their places -/
def nmRule (l c : Nat) : Str := if l = 146 then qOpens else qHears
def spRule (T : List NTab) : Sp := fun vs H Q _ => ∃ k : Nat, vs = [.int (k : Int)] ∧ TabsN T H ∧ ∀ r H2, ExtN H H2 → (∀ b, H2 b = none → H b = none) → TabsN T H2 → RuleAt H2 r k → Q (.ref r) H2
section
variable {P : Program} {w : World} {K : PySem.W.Frag} {mg : Str → Option Value} {base : Heap}
theorem scRule : FnScope ["kind", "_law_opens", "_law_hears"] ["kind"] (defScope sRule) := ⟨rfl, rfl, rfl, by decide +kernel, rfl, by decide +kernel, by decide +kernel⟩
theorem ok_rule {T : List NTab} {f c Pt : Addr} {fd : FuncData} (F : FunC K "_law_rule" "_law_rule" sRule f fd c) (TB : TabB base mg c Pt) (hm : (Pt, nmRule) ∈ T) (hu : ∀ p ∈ T, p.1 = Pt → p.2 = nmRule) :
    FnOk P w K mg base CX0 1 f fd ["kind"] (spRule T) := by
  refine fn_run F scRule (fun vs H Q E h => by obtain ⟨_, rfl, _⟩ := h; rfl) (fun A outer s H vs Q E hr h s1 I => ?_)
  obtain ⟨k, rfl, hT, h⟩ := h
  have p1 := ps_ndefMS (X := cxOf CX0 P w K mg base ["kind", "_law_opens", "_law_hears"] "_law_rule" (defScope sRule) f (.ref c) A outer s H E) (st := sOpens) (T := T) (nm := nmRule) (c := c) (P := Pt) (name := "_law_opens") (i := 1) rfl TB rfl hm rfl hu (ndef_free (fr := []) (show ndefB (defScope sRule) (C8.fnScope sOpens) [] = true by decide +kernel)) rfl rfl rfl scRule.nd rfl (.inl rfl) (.inl rfl)
  have p2 := ps_ndefMS (X := cxOf CX0 P w K mg base ["kind", "_law_opens", "_law_hears"] "_law_rule" (defScope sRule) f (.ref c) A outer s H E) (st := sHears) (T := T) (nm := nmRule) (c := c) (P := Pt) (name := "_law_hears") (i := 2) rfl TB rfl hm rfl hu (ndef_free (fr := ["kind"]) (show ndefB (defScope sRule) (C8.fnScope sHears) ["kind"] = true by decide +kernel)) rfl rfl rfl scRule.nd rfl (.inl rfl) (.inl rfl)
  have hcells : cellsFrom (s.heap.objs.size + 1) (defScope sRule).names [] = [(("kind" : Str), s.heap.objs.size + 1)] := rfl
  have hbody : defBody sRule = [sOpens, sHears, (defBody sRule).getD 2 (.Pass ⟨0, 0, 0, 0⟩)] := rfl
  rw [hbody]
  refine wpAny_execs_cons (thn (p1.run [] s1 (start ["kind", "_law_opens", "_law_hears"] [.int (k : Int)]) H { nx := fun σ' H1 => ∃ f1 c1, σ' = [some (.int (k : Int)), some (.ref f1), none] ∧ ExtN H H1 ∧ (∀ b, H1 b = none → H b = none) ∧ TabsN T H1 ∧ H1 f1 = some (FnO f1 (mkOpens c1)) ∧ H1 c1 = some (CodeO c1 qOpens), rt := fun _ _ => False } I
    ⟨hT, fun f1 c1 H1 e1 n1 T1 f0 h1 hc1 => ⟨f1, c1, rfl, e1, n1, T1, h1, hc1⟩⟩) fun fl s2 q2 => ?_)
  cases fl with
  | ret u => obtain ⟨_, _, _, _, _, z⟩ := q2; exact z.elim
  | brk => obtain ⟨_, _, _, z⟩ := q2; exact z.elim
  | cont => obtain ⟨_, _, _, z⟩ := q2; exact z.elim
  | next =>
  obtain ⟨σ1, H1, I1, f1, c1, rfl, e1, n1, T1, hf1, hc1⟩ := q2
  refine wpAny_execs_cons (thn (p2.run [] s2 _ H1 { nx := fun σ' H2 => ∃ f2 c2, σ' = [some (.int (k : Int)), some (.ref f1), some (.ref f2)] ∧ ExtN H1 H2 ∧ (∀ b, H2 b = none → H1 b = none) ∧ TabsN T H2 ∧ H2 f2 = some (FnO f2 (mkHears (s.heap.objs.size + 1) c2)) ∧ H2 c2 = some (CodeO c2 qHears), rt := fun _ _ => False } I1
    ⟨T1, fun f2 c2 H2 e2 n2 T2 f0 h2 hc2 => ⟨f2, c2, rfl, e2, n2, T2, h2, hc2⟩⟩) fun fl s3 q3 => ?_)
  cases fl with
  | ret u => obtain ⟨_, _, _, _, _, z⟩ := q3; exact z.elim
  | brk => obtain ⟨_, _, _, z⟩ := q3; exact z.elim
  | cont => obtain ⟨_, _, _, z⟩ := q3; exact z.elim
  | next =>
  obtain ⟨σ2, H2, I2, f2, c2, rfl, e2, n2, T2, hf2, hc2⟩ := q3
  obtain ⟨er, pr, her, pe⟩ : ∃ er pr, (defBody sRule).getD 2 (.Pass ⟨0, 0, 0, 0⟩) = .Return (some er) pr ∧ PE (cxOf CX0 P w K mg base ["kind", "_law_opens", "_law_hears"] "_law_rule" (defScope sRule) f (.ref c) A outer s H E) er (tTup (tCons (tVar 1) (tCons (tVar 2) tNil))) :=
    ⟨_, _, rfl, pe_tup (pa_cons (pv 1) (pa_cons (pv 2) pa_nil))⟩
  rw [her]
  refine wpAny_execs_cons (wpAny_Return_some (thn (pe.run [] s3 _ H2 (fun v H3 => ∃ r, v = .ref r ∧ H2 r = none ∧ H3 = upd H2 r (.tup [.ref f1, .ref f2])) I2 ?_) fun v s4 q4 => ?_))
  · exact ⟨_, rfl, _, rfl, by show 2 ≤ sizeLine; decide, fun p hp => ⟨p, rfl, hp, rfl⟩⟩
  · obtain ⟨x, H3, I3, rv, r, rfl, hr0, rfl⟩ := q4
    obtain rfl : v = Value.ref r := rv
    obtain ⟨m, hns, hl⟩ := I3.loc
    obtain ⟨u, ru, hk⟩ := hl 0 "kind" (.int (k : Int)) rfl rfl (.inr (.inl rfl))
    have hk : ∃ a, ([(("kind" : Str), s.heap.objs.size + 1)] : List (Str × Addr)).lookup ("kind" : Str) = some a ∧ s4.heap.IsCell a (some u) := by
      rcases hk with ⟨z, _⟩ | ⟨_, z⟩
      · cases z
      · exact z
    obtain ⟨a, ea, hcell⟩ := hk
    cases ea
    have nC : upd H2 r (.tup [.ref f1, .ref f2]) (s.heap.objs.size + 1) = none := I3.freeC "kind" (s.heap.objs.size + 1) rfl
    have n0 : s.heap.get? (s.heap.objs.size + 1) = none := Heap.get?_none_of_le (Nat.le_succ _)
    have e3 : ExtN H2 (upd (upd H2 r (.tup [.ref f1, .ref f2])) (s.heap.objs.size + 1) (CellO (s.heap.objs.size + 1) (.int (k : Int)))) := fun b o e _ => (upd_ne (ne_of_none ((upd_ne (ne_of_none e hr0)).trans e) nC)).trans ((upd_ne (ne_of_none e hr0)).trans e)
    refine ⟨_, rfl, .ref r, upd (upd H2 r (.tup [.ref f1, .ref f2])) (s.heap.objs.size + 1) (CellO (s.heap.objs.size + 1) (.int (k : Int))), I3.os, I3.bare, un_on I3.base nC n0, hok_on I3.hok nC ru hcell, rfl, ?_⟩
    refine h r _ ((e1.trans e2).trans e3) (fun b hb => n1 b (n2 b (upd_none (upd_none hb)))) (T2.ext fun b o e => (upd_ne (ne_of_none ((upd_ne (ne_of_none e hr0)).trans e) nC)).trans ((upd_ne (ne_of_none e hr0)).trans e)) ?_
    exact ⟨f1, f2, c1, c2, _, (upd_ne (ne_of_none upd_same nC)).trans upd_same, e3 _ _ (e2 _ _ hf1 fnO_ne) fnO_ne, e3 _ _ (e2 _ _ hc1 codeO_ne) codeO_ne, e3 _ _ hf2 fnO_ne, e3 _ _ hc2 codeO_ne, upd_same⟩
end
end K82
end
section
set_option maxRecDepth 100000
set_option maxHeartbeats 4000000
/-! the functions of a rule, called. -/
namespace K82
open PySem PySem.Spec PyProof.Rows L2 Evl NdefX LamX
section
variable {P : Program} {w : World} {K : PySem.W.Frag} {mg : Str → Option Value} {base : Heap}
theorem ce_on' {outer : List Env} {s s' : Shared} {H : Hp} {c : Addr} {v : V} {Q : VK} {u : Value} (ok : HOk P w H s.heap) (e : H c = some (CellO c v)) (h : CE outer P w (off H c) s (fun x H2 => H2 c = none → Q x (upd H2 c (CellO c v))) u s') : CE outer P w H s Q u s' := by
  obtain ⟨x, H2, os, bare, un, hok, r, q⟩ := h
  obtain ⟨vu, rv, oc, hc, dc⟩ := cellO_at ok e
  have n2 : H2 c = none := un.free c oc hc off_same (fun z => by cases z)
  exact ce_on ok e ⟨x, H2, os, bare, un, hok, r, q n2⟩
theorem runs_opens {f c' : Addr} {H : Hp} {Q : VK} (hf : H f = some (FnO f (mkOpens c'))) (hc : H c' = some (CodeO c' qOpens)) (q : ∀ m H2, H m = none → Ex H H2 → MemAt H2 m ⟨[], [], false⟩ → Q (.ref m) H2) : Runs P w K mg base 1 f [] H Q := fun A outer s us hr e0 r =>
  (ok_opens f c').run A outer s H us [] [] Q E0 hr e0 hf hc ⟨rfl, fun y c e => (by cases e), fun x y c e => (by cases e), fun i y e => (by cases e)⟩ r ⟨rfl, q⟩
theorem runs_hears {fU fB : Addr} {fdU fdB : FuncData} (T : TxtH K mg fU fB) (GU : FnOk P w K mg base CX0 1 fU fdU ["one", "other"] spUnder) (bU : Binds K fdU ["one", "other"] []) (GB : FnOk P w K mg base CX0 1 fB fdB ["numbers"] spBare) (bB : Binds K fdB ["numbers"] [])
    {f c c' m row : Addr} {H : Hp} {Q : VK} {k : Nat} {M : Mem} {r : Row} (hf : H f = some (FnO f (mkHears c c'))) (hc : H c' = some (CodeO c' qHears)) (hcell : H c = some (CellO c (.int (k : Int)))) (hk : k < 5) (hm : MemAt H m M) (hrow : RowAt H row r) (okr : NumOk r.2)
    (q : ∀ t m2 H2, Ex H H2 → H2 t = some (.tup [.ref m2, .bl (M.asks k r)]) → MemAt H2 m2 (M.next k r) → Q (.ref t) H2) : Runs P w K mg base 2 f [.ref m, .ref row] H Q := fun A outer s us hr e0 rv => by
  obtain ⟨vu, ru, oc, hoc, dc⟩ := cellO_at e0.hok hcell
  have ne : ∀ {b : Addr} {o : HO}, H b = some o → (∀ φ, o ≠ .ext φ) → b ≠ c := fun {b o} q nn z => by
    rw [z, hcell] at q
    exact nn _ (Option.some.inj q).symm
  have nf : f ≠ c := fun z => by
    obtain ⟨od, sl, doc, pm, ctv, ho⟩ := fnO_at e0.hok hf
    rw [z, hoc] at ho
    cases ho
    cases dc
  have nc : c' ≠ c := fun z => by
    obtain ⟨c2, oc2, vs, t, h1, h2, h3, h4⟩ := codeO_at e0.hok hc
    cases h1
    rw [z, hoc] at h2
    cases h2
    rw [dc] at h3
    cases h3
  obtain ⟨ha, sa, hm0, hh, hs⟩ := hm
  obtain ⟨d, ht, hd⟩ := hrow
  have of_ : ∀ {b : Addr} {o : HO}, H b = some o → (∀ φ, o ≠ .ext φ) → off H c b = some o := fun q nn => (off_ne (ne q nn)).trans q
  have C : CellsAt (mkHears c c').cl ["kind"] [some (.int (k : Int))] s.heap (off H c) := by
    refine ⟨rfl, fun y a e => ?_, fun x y a e1 e2 => ?_, fun i y e => ?_⟩
    · have e : ([(("kind" : Str), c)] : List (Str × Addr)).lookup y = some a := e
      have e2 : a = c := by
        simp only [List.lookup] at e
        split at e
        · exact (Option.some.inj e).symm
        · cases e
      rw [e2]
      exact ⟨off_same, _, oc, hoc, dc⟩
    · have e1 : ([(("kind" : Str), c)] : List (Str × Addr)).lookup x = some a := e1
      have e2 : ([(("kind" : Str), c)] : List (Str × Addr)).lookup y = some a := e2
      simp only [List.lookup] at e1 e2
      split at e1
      · rename_i h1
        split at e2
        · rename_i h2
          rw [eq_of_beq h1, eq_of_beq h2]
        · cases e2
      · cases e1
    · cases i with
      | zero =>
        obtain rfl : ("kind" : Str) = y := Option.some.inj e
        refine ⟨c, rfl, fun v ev => ?_⟩
        obtain rfl : V.int (k : Int) = v := Option.some.inj (Option.some.inj ev)
        exact ⟨vu, ru, oc, hoc, dc⟩
      | succ i => simp at e
  refine codeAny_mono ((ok_hears T GU bU GB bB f c c').run A outer s (off H c) us [.ref m, .ref row] [some (.int (k : Int))] (fun x H2 => H2 c = none → Q x (upd H2 c (CellO c (.int (k : Int))))) E0 hr (Env0.off e0 hcell) ((off_ne nf).trans hf) ((off_ne nc).trans hc) C rv ?_) fun r s' hq => ?_
  · refine ⟨m, row, M, k, r, rfl, hk, rfl, ⟨ha, sa, of_ hm0 (fun φ z => by cases z), of_ hh (fun φ z => by cases z), of_ hs (fun φ z => by cases z)⟩, ⟨d, of_ ht (fun φ z => by cases z), of_ hd (fun φ z => by cases z)⟩, okr, fun t m2 H2 e2 h2 hm2 n2 => ?_⟩
    have on : ∀ {b : Addr} {o : HO}, H2 b = some o → upd H2 c (CellO c (.int (k : Int))) b = some o := fun q => (upd_ne (ne_of_none q n2)).trans q
    obtain ⟨a1, a2, a3, a4, a5⟩ := hm2
    refine q t m2 _ (fun b o e => ?_) (on h2) ⟨a1, a2, on a3, on a4, on a5⟩
    by_cases hb : b = c
    · rw [hb, upd_same, ← hcell, ← hb]
      exact e
    · exact on (e2 _ _ ((off_ne hb).trans e))
  · cases r with
    | error e => exact hq
    | ok fl =>
      cases fl with
      | ret u => exact ce_on' e0.hok hcell hq
      | next => exact hq
      | brk => exact hq
      | cont => exact hq
end
end K82
end
section
set_option maxRecDepth 100000
set_option maxHeartbeats 4000000
/-! sync_foe. -/
namespace K82
open PySem L2 Evl NdefX LamX
inductive Res where
  | caught (place : Nat) (safe : Num)
  | done (many : Nat)
/-- a rule plays a course: u tells whether a told state lies under what is safe -/
def goR (u : Num → Num → Bool) (k : Nat) : Nat → Mem → Num → Num → Nat → List Row → Res
  | _, _, _, _, many, [] => .done many
  | i, M, h, s, many, r :: rs =>
    if r.1 = "hear" then goR u k (i + 1) (M.next k r) (bareOf r.2) (if M.asks k r = true then h else s) (if M.asks k r = true then many + 1 else many) rs
    else if u r.2 (if M.asks k r = true then h else s) = true then goR u k (i + 1) (M.next k r) h (if M.asks k r = true then h else s) (if M.asks k r = true then many + 1 else many) rs
    else .caught i (if M.asks k r = true then h else s)
def ResAt (H : Hp) (t : Addr) (n : Nat) : Res → Prop
  | .caught i s => ∃ d, H t = some (.tup [.str "caught", .int (i : Int), .ref d]) ∧ H d = some (.dK (kv s))
  | .done m => H t = some (.tup (if m > n then [.str "wasteful", .int (m : Int), .int (n : Int)] else [.str "right", .int (m : Int)]))
def mem0 : Mem := ⟨[], [], false⟩
def NonNeg (C : List Row) : Prop := ∀ r ∈ C, ∀ p ∈ r.2, 0 ≤ p.2
def spFoe (CH : Addr) : Sp := fun vs H Q E => ∃ (c rl : Addr) (C : List Row) (k : Nat), vs = [.ref c, .ref rl] ∧ CourseAt H c C ∧ RowsOk C ∧ RuleAt H rl k ∧ k < 5 ∧
  (checkFrom [] C = none → NonNeg C ∧ ∀ t H2, Ex H H2 → ResAt H2 t (greedyP 0 [] [] C).length (goR under k 0 mem0 [] [] 0 C) → Q (.ref t) H2) ∧ (∀ m, checkFrom [] C = some m → Out CH m H E)
structure TxtE (K : PySem.W.Frag) (mg : Str → Option Value) (fF fU : Addr) : Prop where
  enumerate : mg "enumerate" = none
  dct : mg "dict" = none
  srt : mg "sorted" = none
  mF : mg "fewest_syncs" = some (.ref fF)
  kF : PySem.W.keepIn K (.ref fF) = true
  mU : mg "is_under" = some (.ref fU)
  kU : PySem.W.keepIn K (.ref fU) = true
section
variable {K : PySem.W.Frag} {σ : L2.St} {H H' : Hp} {ta tb te tx td ty tk tv tl : TE} {t u : TT} {x y z v : V} {r : R2} {g : TG} {tu tz : TS} {D : Ends}
theorem q_forE {a : Addr} {xs : List V} {tl : TE} (h : Ev tl σ H (.ref a)) (hx : SqL K H a xs) (Pv : Nat → L2.St → Hp → Prop) (h0 : ∀ H1, Ex H H1 → Pv 0 σ H1) (hl : ∀ i σ' H', i ≤ xs.length → Pv i σ' H' → SqL K H' a xs)
    (hs : ∀ i x p σ' H', xs[i]? = some x → Pv i σ' H' → H' p = none → g (.ref p) σ' (upd H' p (.tup [.int (i : Nat), x])) fun σ2 H2 => tu { D with nx := Pv (i + 1), ct := Pv (i + 1), bk := tz D } σ2 H2) (hd : ∀ σ' H', Pv xs.length σ' H' → tz D σ' H') :
    tSeq (tFor (iEnum K (tCons tl tNil)) g tu) tz D σ H := by
  refine h H (Ex.refl H) _ fun H1 e => ⟨a, xs, rfl, ex_l e hx, fun i m σ H => m = xs.length - i ∧ i ≤ xs.length ∧ Pv i σ H, ⟨xs.length, by simp, Nat.zero_le _, h0 H1 e⟩, ?_⟩
  rintro i m σ H ⟨rfl, hi, p⟩
  have q := hl i σ H hi p
  by_cases hlt : i < xs.length
  · refine .inr ⟨⟨xs, xs[i], q, by simp [hlt]⟩, Pv (i + 1), fun σ' H' p' => ⟨xs.length - (i + 1), by omega, rfl, hlt, p'⟩, fun x H' y => ?_⟩
    obtain ⟨T, x0, rfl, n, rfl, y⟩ := y
    exact hs i x0 T σ _ (y xs q) p n
  · have e : i = xs.length := by omega
    subst e
    exact .inl ⟨⟨xs, q, Nat.le_refl _⟩, hd σ H p⟩
theorem q_ifM {b : Bool} (M : L2.St → Hp → Prop) (h : EvT t σ H b) (h1 : b = true → ∀ H1, Ex H H1 → (∀ σ' H', M σ' H' → tz D σ' H') → tu { D with nx := tz D } σ H1) (h2 : b = false → ∀ H1, Ex H H1 → M σ H1) (k : ∀ σ' H', M σ' H' → tz D σ' H') : tSeq (tIfS t tu tNext) tz D σ H :=
  h H (Ex.refl H) _ fun H1 e => by
    cases b with
    | true => exact iteT (h1 rfl H1 e k)
    | false => exact iteF (k _ _ (h2 rfl H1 e))
end
theorem lookup_in : ∀ {a : Num} {k : Str} {n : Int}, a.lookup k = some n → (k, n) ∈ a
  | (q, z) :: r, k, n, h => by
    simp only [List.lookup] at h
    split at h
    · rename_i e
      rw [eq_of_beq e, Option.some.inj h]
      exact List.mem_cons_self
    · exact List.mem_cons_of_mem _ (lookup_in h)
theorem val_nonneg {a : Num} (h : ∀ p ∈ a, 0 ≤ p.2) (k : Str) : 0 ≤ val a k := by
  unfold val
  cases e : a.lookup k with
  | none => exact Int.le_refl _
  | some n => exact h _ (lookup_in e)
theorem eu_if {t : TT} {ta tb : TE} {σ : L2.St} {H : Hp} {xs : List V} {b : Bool} (h : EvT t σ H b) (h1 : b = true → EvU ta σ H xs) (h2 : b = false → EvU tb σ H xs) : EvU (tIf t ta tb) σ H xs := fun H1 e Q q => h H1 e _ fun H2 e2 => by
  cases b with
  | true => exact iteT (h1 rfl H2 (e.trans e2) Q fun p H3 hp e3 => q p H3 (fresh_back e2 hp) (e2.trans e3))
  | false => exact iteF (h2 rfl H2 (e.trans e2) Q fun p H3 hp e3 => q p H3 (fresh_back e2 hp) (e2.trans e3))
theorem s_asgD {σ : L2.St} {H : Hp} {D : Ends} {te : TE} {i : Nat} {kvs : List (Key × V)} (h : EvD te σ H kvs) (k : ∀ p H1, H p = none → Ex H H1 → H1 p = some (.dK kvs) → D.nx (σ.set i (some (.ref p))) H1) : tAsg te (gName i) D σ H := h H (Ex.refl H) _ fun p H1 hp e h1 => k p H1 hp e h1
theorem bare_pos {a : Num} (h : ∀ p ∈ a, 0 ≤ p.2) : bareOf a = ((sortK (names a)).filter fun k => decide (0 < val a k)).map fun k => (k, val a k) := by
  unfold bareOf
  refine congrArg (List.map _) (List.filter_congr fun k _ => ?_)
  have z := val_nonneg h k
  by_cases e : val a k = 0
  · rw [e]; rfl
  · have : 0 < val a k := by omega
    simp [e, this]
section
open PySem.Spec PyProof.Rows
variable {X : Cx}
/-- name = {..} on one line, the name a local -/
theorem ps_setDc {i : Nat} {y : Str} {py : Pos} {kx vx tg iter : Expr} {ifs : List Expr} {scope : Scope} {own : List (Str × Nat)} {pos spos : Pos} {wi : TI} {g : TG} {tt : TT} {tk tv : TE} (hc : X.calm = true) (hN : X.N.Nodup) (hy : X.N[i]? = some y) (hyl : X.env.scope.names.lookup y = some .local)
    (hsw : swapsWith (.DictComp kx vx [⟨tg, iter, ifs, 0⟩] scope pos) (some (.Name y py)) spos.line X.env = pure true) (hi : PI X tg iter wi) (ok : BlkOk X.N X.env.scope scope own)
    (hg : ∀ (s : Shared) (H : Hp) (C : Addr) (cl : List (Str × Addr)) (fp : List Addr), PG (X.blk s H scope (compEnvC scope cl C X.env) fp) tg g) (ht : ∀ (s : Shared) (H : Hp) (C : Addr) (cl : List (Str × Addr)) (fp : List Addr), PTs (X.blk s H scope (compEnvC scope cl C X.env) fp) ifs tt)
    (hk : ∀ (s : Shared) (H : Hp) (C : Addr) (cl : List (Str × Addr)) (fp : List Addr), PE (X.blk s H scope (compEnvC scope cl C X.env) fp) kx tk)
    (he : ∀ (s : Shared) (H : Hp) (C : Addr) (cl : List (Str × Addr)) (fp : List Addr), PE (X.blk s H scope (compEnvC scope cl C X.env) fp) vx tv) (hs : ∀ x, foldedSetIterable iter X.env x = pure x := by intro _; rfl) :
    PS X (.Assign [.Name y py] (.DictComp kx vx [⟨tg, iter, ifs, 0⟩] scope pos) spos) (tAsg (tDc wi g tt tk tv (own.map (·.2))) (gName i)) := by
  refine ⟨fun pins s σ H D I h => ?_⟩
  rw [exec_Assign_Name_used _ _ _ _ hsw]
  refine wpAny_bind (wpAny_standAt (wpAny_bind ?_))
  show wpAny _ X.A (do let _ ← comprehension (.DictComp kx vx [⟨tg, iter, ifs, 0⟩] scope pos) scope X.env (firstIterPos [⟨tg, iter, ifs, 0⟩] pos) newDict false (eval iter X.env) (some (assign (.Name y py) X.env))) _ _ s
  have h : tDc wi g tt tk tv (own.map (·.2)) σ H (fun x H1 => gName i x σ H1 D.nx) := h
  refine wpAny_bind (thn (dc_core (Qf := fun _ s' => SP X pins D .next s') hc hN I hi ok hg ht hk he hs h fun L C s' m H' I' q hn f => ?_) fun _ s' hq => wpAny_pure (wpAny_pure hq))
  show wpAny _ _ (assign (.Name y py) X.env (.ref L)) _ _ _
  refine wpAny_assign_Name (store_ok2 (v := V.ref L) I' hN hy (.inl hyl) rfl (fun s2 I2 ⟨a, sb, ha⟩ => ?_) (.inr hyl))
  obtain ⟨f0, f1, f2, f3, f4, f5⟩ := f
  have haC : C ≠ a := by
    rcases ha with z | z
    · rw [z]; exact f1
    · exact fun e => f4 y a z e.symm
  refine ⟨m, hn.sameBut sb haC, fun h3 sb3 => ?_⟩
  exact ⟨_, H', I2.turned (t' := s2.toks) (fun b o hb e => (sb3.2 b hb).trans e) f0 f1 f3 f4 f5, q⟩
theorem sw_trueD {kx vx : Expr} {gs : List Comprehension} {scope : Scope} {pos py : Pos} {y : Str} {l : Nat} {env : Env} (hk : env.scope.kind = .function) (hy : env.scope.names.lookup y = some .local) (hl : (py.line == pos.line) = true)
    (ha : (scope.names.any fun (n, k) => n == y && (k == .local || k == .cell)) = false) : swapsWith (.DictComp kx vx gs scope pos) (some (.Name y py)) l env = pure true := by
  have ky : env.kindOf y = some .local := hy
  have hb : env.blockKind = .function := by unfold Env.blockKind; rw [hk]; rfl
  unfold swapsWith
  simp only [hb, ky, ha, Expr.pos, hl]
  rfl
end
section
variable {P : Program} {w : World} {K : PySem.W.Frag} {mg : Str → Option Value} {base : Heap}
theorem scFoe : FnScope ["course", "rule", "fewest", "opens", "hears", "memory", "heard", "safe", "many", "place", "kind", "state", "synced", "package"] ["course", "rule"] (defScope sFoe) := ⟨rfl, rfl, rfl, by decide +kernel, rfl, by decide +kernel, by decide +kernel⟩
theorem ok_foe {f fF fU fLU fLB CH : Addr} {fd fdF fdU fdLU fdLB : FuncData} (F : Fun K "sync_foe" "sync_foe" sFoe f fd) (T : TxtE K mg fF fU) (GF : FnOk P w K mg base (L2.CX P w) 5 fF fdF ["course"] (spFewest CH)) (bF : Binds K fdF ["course"] [])
    (GU : FnOk P w K mg base CX0 1 fU fdU ["one", "other"] spUnder) (bU : Binds K fdU ["one", "other"] [])
    (TH : TxtH K mg fLU fLB) (GLU : FnOk P w K mg base CX0 1 fLU fdLU ["one", "other"] spUnder) (bLU : Binds K fdLU ["one", "other"] []) (GLB : FnOk P w K mg base CX0 1 fLB fdLB ["numbers"] spBare) (bLB : Binds K fdLB ["numbers"] []) :
    FnOk P w K mg base (L2.CX P w) 6 f fd ["course", "rule"] (spFoe CH) := by
  refine F.okX scFoe (fun vs H Q E h => ?_) (fun cdv A outer s H vs Q E hr h => ?_)
  · obtain ⟨c, rl, C, k, rfl, _⟩ := h
    rfl
  · obtain ⟨c, rl, C, k, rfl, hC, okC, hrl, hk, k1, k2⟩ := h
    have hr2 : Room 2 _ := hr.mono (by decide)
    have hr1 : Room 1 _ := hr.mono (by decide)
    have hu := hu_of hr
    refine ⟨_, pss_cons (ps_set (i := 2) scFoe.nd rfl (Or.inl rfl) (pe_ix ix_tup (pe_call (E := E) GF hr rfl T.mF T.kF bF .nil (passes_call (takes_of rfl rfl rfl rfl) (fun _ _ _ _ h => h)) (pa_cons (pv 0) pa_nil)) pe_int (fun _ _ => rfl)))
        (pss_cons (ps_set (i := 3) scFoe.nd rfl (Or.inl rfl) (pe_ix ix_tup (pv 1) pe_int (fun _ _ => rfl)))
        (pss_cons (ps_set (i := 4) scFoe.nd rfl (Or.inl rfl) (pe_ix ix_tup (pv 1) pe_int (fun _ _ => rfl)))
        (pss_cons (ps_set (i := 5) scFoe.nd rfl (Or.inl rfl) (pe_callR0 hr1 (pv 3)))
        (pss_cons (ps_set (i := 6) scFoe.nd rfl (Or.inl rfl) pe_dnewK)
        (pss_cons (ps_set (i := 7) scFoe.nd rfl (Or.inl rfl) pe_dnewK)
        (pss_cons (ps_set (i := 8) scFoe.nd rfl (Or.inl rfl) pe_int)
        (pss_cons (ps_for (passes_of rfl) rfl (pi_enum rfl T.enumerate (pa_cons (pv 0) pa_nil)) (pg_tup rfl (pgs_cons (pg_name (i := 9) scFoe.nd rfl (Or.inl rfl)) (pgs_cons (pg_tup rfl (pgs_cons (pg_name (i := 10) scFoe.nd rfl (Or.inl rfl)) (pgs_cons (pg_name (i := 11) scFoe.nd rfl (Or.inr rfl)) pgs_nil))) pgs_nil)))
        (pss_cons (ps_asg (pe_callR hr2 (pv 4) (pa_cons (pv 5) (pa_cons (pe_tup (pa_cons (pv 10) (pa_cons (pe_callTy call_dictD (by rfl) T.dct (by decide +kernel) (pa_cons (pv 11) pa_nil)) pa_nil))) pa_nil))) (pg_tup rfl (pgs_cons (pg_name (i := 5) scFoe.nd rfl (Or.inl rfl)) (pgs_cons (pg_name (i := 12) scFoe.nd rfl (Or.inl rfl)) pgs_nil))))
        (pss_cons (ps_if (pt_val (pv 12))
        (pss_cons (ps_set (i := 7) scFoe.nd rfl (Or.inl rfl) (pe_callTy call_dictD (by rfl) T.dct (by decide +kernel) (pa_cons (pv 6) pa_nil)))
        (pss_one (ps_aug (i := 8) scFoe.nd rfl (Or.inl rfl) pe_int ip_add)))
        pss_nil)
        (pss_one (ps_if (pt_cmpR op_eq (pv 10) pe_str (nomark _))
        (pss_one (ps_setDc (i := 6) (own := [("package", 13)]) (g := gName 13) rfl scFoe.nd rfl rfl (sw_trueD rfl rfl rfl (by decide +kernel)) (pi_list (pe_callB (call_sortedD rfl) (by rfl) T.srt (by decide +kernel) (pa_cons (pv 11) pa_nil))) (blkOk_by (N := ["course", "rule", "fewest", "opens", "hears", "memory", "heard", "safe", "many", "place", "kind", "state", "synced", "package"]) (sc := (defScope sFoe)) (by decide +kernel)) (fun _ _ _ _ _ => pg_name (i := 13) scFoe.nd rfl (Or.inl rfl)) (fun _ _ _ _ _ => pts_one (pt_cmpR op_gt (pe_dget hu (pv 11) (pv 13) (fun _ _ => rfl)) pe_int (nomark _))) (fun _ _ _ _ _ => pv 13) (fun _ _ _ _ _ => pe_dget hu (pv 11) (pv 13) (fun _ _ => rfl))))
        (pss_one (ps_if (pt_not (pt_val (pe_call GU hr1 rfl T.mU T.kU bU .nil pass0 (pa_cons (pv 11) (pa_cons (pv 7) pa_nil)))))
        (pss_one (ps_ret (pe_tup (pa_cons pe_str (pa_cons (pv 9) (pa_cons (pv 7) pa_nil))))))
        pss_nil)))))))
        (pss_one (ps_ret (pe_ifExp (pt_cmpR op_gt (pv 8) (pv 2) (nomark _)) (pe_tup (pa_cons pe_str (pa_cons (pv 8) (pa_cons (pv 2) pa_nil)))) (pe_tup (pa_cons pe_str (pa_cons (pv 8) pa_nil))))))))))))), ?_⟩
    obtain ⟨f1, f2, c1, c2, cc, hrl0, hf1, hc1, hf2, hc2, hcc⟩ := hrl
    refine ⟨_, rfl, c, C, rfl, hC, okC, fun hw t0 p0 q0 H0 _ _ _ _ e0 ht0 _ _ => ⟨t0, _, _, _, rfl, rfl, st_of ht0, rfl, ?_⟩, fun m hm d H2 e2 h2 => k2 m hm d H2 e2 h2⟩
    obtain ⟨nn, k1⟩ := k1 hw
    refine s_asg (ev_ixT (i := 0) (ev_var rfl) ev_c (e0 _ _ hrl0) rfl) fun H1 e1 => ?_
    refine s_asg (ev_ixT (i := 1) (ev_var rfl) ev_c (e1 _ _ (e0 _ _ hrl0)) rfl) fun H2 e2 => ?_
    have E2 := (e0.trans e1).trans e2
    refine ⟨_, rfl, f1, _, rfl, E2 _ _ hf1, E2 _ _ hf1, runs_opens (E2 _ _ hf1) (E2 _ _ hc1) fun m0 H3 _ e3 hm0 => ?_⟩
    intro hd hhd sd hsd
    have E3 := E2.trans e3
    have E4 := E3.trans (Ex.new (o := .dK []) hhd)
    have E5 := E4.trans (Ex.new (o := .dK []) hsd)
    have nhs : hd ≠ sd := ne_of_none upd_same hsd
    obtain ⟨ts, hc, hts⟩ := hC
    have hl : ts.length = C.length := paired_len hts
    have memEx : ∀ {m : Addr} {M : Mem} {A B : Hp}, Ex A B → MemAt A m M → MemAt B m M := fun e ⟨a, b, h1, h2, h3⟩ => ⟨a, b, e _ _ h1, e _ _ h2, e _ _ h3⟩
    refine q_forE (ev_var rfl) (sq_of (E5 _ _ hc))
      (fun i σ H' => ∃ (m h g : Addr) (M : Mem) (a b : Num) (many : Nat) (v1 v2 v3 v4 v5 : Option V), σ = [some (.ref c), some (.ref rl), some (.int ((greedyP 0 [] [] C).length : Int)), some (.ref f1), some (.ref f2), some (.ref m), some (.ref h), some (.ref g), some (.int (many : Int)), v1, v2, v3, v4, v5] ∧
        Ex H H' ∧ MemAt H' m M ∧ H' h = some (.dK (kv a)) ∧ H' g = some (.dK (kv b)) ∧ NumOk a ∧ NumOk b ∧ goR under k 0 mem0 [] [] 0 C = goR under k i M a b many (C.drop i))
      (fun H1 e => ⟨m0, hd, sd, mem0, [], [], 0, none, none, none, none, none, rfl, E5.trans e, memEx (((Ex.new hhd).trans (Ex.new hsd)).trans e) hm0, e _ _ ((upd_ne nhs).trans upd_same), e _ _ upd_same, nil_ok, nil_ok, rfl⟩) ?_ ?_ ?_
    · rintro i σ H' hi ⟨m, h, g, M, a, b, many, v1, v2, v3, v4, v5, rfl, e, _⟩
      exact sq_of (e _ _ hc)
    · rintro i x p σ H' hx ⟨m, h, g, M, a, b, many, v1, v2, v3, v4, v5, rfl, e, hm, hh, hg, oka, okb, ck⟩ hp
      obtain ⟨t, hti, rfl⟩ : ∃ t, ts[i]? = some t ∧ V.ref t = x := by
        rw [List.getElem?_map] at hx
        cases et : ts[i]? with
        | none => rw [et] at hx; cases hx
        | some t => rw [et] at hx; exact ⟨t, rfl, Option.some.inj hx⟩
      obtain ⟨r, hri, hr0⟩ := paired_ata hts hti
      obtain ⟨d, ht, hd'⟩ := hr0.ex e
      have okr : NumOk r.2 := okC.1 r (List.mem_of_getElem? hri)
      have nnr : ∀ p ∈ r.2, 0 ≤ p.2 := nn r (List.mem_of_getElem? hri)
      have hdr : C.drop i = r :: C.drop (i + 1) := by
        obtain ⟨hlt, he⟩ := List.getElem?_eq_some_iff.mp hri
        rw [List.drop_eq_getElem_cons hlt, he]
      rw [hdr] at ck
      have ep : Ex H' (upd H' p (.tup [.int (i : Nat), .ref t])) := Ex.new hp
      refine ⟨p, _, rfl, st_of upd_same, rfl, _, _, rfl, _, _, rfl, t, _, rfl, st_of (ep _ _ ht), rfl, _, _, rfl, _, _, rfl, rfl, rfl, ?_⟩
      refine ⟨_, rfl, f2, _, rfl, ep _ _ (e _ _ hf2), _, rfl, _, rfl, _, rfl, d, kv r.2, rfl, .inl (ep _ _ hd'), fun d2 hd2 => ⟨by show 2 ≤ sizeLine; decide, fun row hrow => ?_⟩⟩
      have e1 := (ep.trans (Ex.new (o := .dK (kv r.2)) hd2)).trans (Ex.new (o := .tup [.str r.1, .ref d2]) hrow)
      have ndr : d2 ≠ row := ne_of_none upd_same hrow
      refine ⟨e1 _ _ (e _ _ hf2), runs_hears TH GLU bLU GLB bLB (M := M) (r := r) (k := k) (e1 _ _ (e _ _ hf2)) (e1 _ _ (e _ _ hc2)) (e1 _ _ (e _ _ hcc)) hk (memEx e1 hm) ⟨d2, upd_same, (upd_ne ndr).trans upd_same⟩ okr fun t2 m2 H5 e5 ht2 hm2 => ?_⟩
      refine ⟨t2, _, rfl, st_of ht2, rfl, _, _, rfl, _, _, rfl, rfl, ?_⟩
      have E5 := (e.trans e1).trans e5
      have hh5 := e5 _ _ (e1 _ _ hh)
      have hg5 := e5 _ _ (e1 _ _ hg)
      have hd5 := e5 _ _ (e1 _ _ (hd'))
      refine q_ifM (b := M.asks k r) (fun σ' H6 => ∃ g2, σ' = [some (.ref c), some (.ref rl), some (.int ((greedyP 0 [] [] C).length : Int)), some (.ref f1), some (.ref f2), some (.ref m2), some (.ref h), some (.ref g2), some (.int ((if M.asks k r = true then many + 1 else many : Nat) : Int)), some (.int (i : Nat)), some (.str r.1), some (.ref d), some (.bl (M.asks k r)), v5] ∧
        Ex H5 H6 ∧ H6 g2 = some (.dK (kv (if M.asks k r = true then a else b)))) (et_B (ev_var rfl)) (fun hb H6 e6 kk => ?_) (fun hb H6 e6 => ?_) ?_
      · refine ⟨_, rfl, h, kv a, rfl, .inl (e6 _ _ hh5), fun g2 hg2 => ?_⟩
        refine s_aug (a := (many : Int)) (b := 1) rfl ev_c fun H7 e7 => ?_
        refine kk _ _ ⟨g2, ?_, (e6.trans (Ex.new hg2)).trans e7, ?_⟩
        · rw [if_pos hb]
          rfl
        · rw [if_pos hb]
          exact e7 _ _ upd_same
      · refine ⟨g, ?_, e6, ?_⟩
        · rw [if_neg (by rw [hb]; decide)]
          rfl
        · rw [if_neg (by rw [hb]; decide)]
          exact e6 _ _ hg5
      · rintro σ' H6 ⟨g2, rfl, e6, hg6⟩
        have E6 := E5.trans e6
        have okg : NumOk (if M.asks k r = true then a else b) := by
          split
          · exact oka
          · exact okb
        refine s_if (b := decide (r.1 = "hear")) (et_is (et_test (ev_op (ev_var (i := 10) rfl) ev_c (rv_eq rfl))) (by rw [dec_str]; exact beq_dec)) (fun hk2 H7 e7 => ?_) (fun hk2 H7 e7 => ?_)
        · have hk2 := of_decide_eq_true hk2
          have ck : goR under k 0 mem0 [] [] 0 C = (if r.1 = "hear" then goR under k (i + 1) (M.next k r) (bareOf r.2) (if M.asks k r = true then a else b) (if M.asks k r = true then many + 1 else many) (C.drop (i + 1)) else _) := ck
          rw [if_pos hk2] at ck
          have hlz : (sortK (names r.2)).length = r.2.length := by rw [(sortK_perm _).length_eq, List.length_map]
          have hin : ∀ k ∈ sortK (names r.2), k ∈ names r.2 := fun k h => (sortK_perm _).mem_iff.mp h
          have hfew := okr.few
          refine s_asgD (kvs := kv (bareOf r.2)) ?_ fun p2 H8 hp2 e8 h8 => ?_
          · rw [bare_pos nnr]
            refine ed_dcNames (ys := sortK (names r.2)) (fun k => decide (0 < val r.2 k)) (fun k => val r.2 k) (sortK_nodup okr.nd) (by omega) (el_sortD (a := r.2) (ev_var rfl) (.inl (e7 _ _ (e6 _ _ hd5))) hfew) (fun _ => rfl) (fun k H1 e1 hk => ?_) (fun k H1 e1 hk _ => ev_var rfl) (fun k H1 e1 hk _ => ?_)
            · exact et_test (ev_op (x := .int (val r.2 k)) (y := .int 0) (ev_dget (a := r.2) (ev_var rfl) (ev_var rfl) (ex_rd e1 (.inl (e7 _ _ (e6 _ _ hd5)))) (lookup_val (hin k hk))) ev_c rv_I0)
            · exact ev_dget (a := r.2) (ev_var rfl) (ev_var rfl) (ex_rd e1 (.inl (e7 _ _ (e6 _ _ hd5)))) (lookup_val (hin k hk))
          · exact ⟨m2, p2, g2, M.next k r, bareOf r.2, if M.asks k r = true then a else b, if M.asks k r = true then many + 1 else many, _, _, _, _, _, rfl, (E6.trans e7).trans e8, memEx ((e6.trans e7).trans e8) hm2, h8, e8 _ _ (e7 _ _ hg6), bare_ok okr, okg, ck⟩
        · have hk2 := of_decide_eq_false hk2
          have ck : goR under k 0 mem0 [] [] 0 C = (if r.1 = "hear" then _ else if under r.2 (if M.asks k r = true then a else b) = true then goR under k (i + 1) (M.next k r) a (if M.asks k r = true then a else b) (if M.asks k r = true then many + 1 else many) (C.drop (i + 1)) else .caught i (if M.asks k r = true then a else b)) := ck
          rw [if_neg hk2] at ck
          refine s_when (b := !under r.2 (if M.asks k r = true then a else b)) (et_not (et_B (ev_call (ea_cons (ev_var (i := 11) rfl) (ea_cons (ev_var (i := 7) rfl) ea_nil)) (spUnder_v (e7 _ _ (e6 _ _ hd5)) okr (.inl (e7 _ _ hg6)))))) (fun hu H8 e8 => ?_) (fun hu H8 e8 => ?_)
          · have hu : under r.2 (if M.asks k r = true then a else b) = false := by simpa using hu
            rw [if_neg (by rw [hu]; decide)] at ck
            refine s_retU (xs := [.str "caught", .int (i : Int), .ref g2]) (eu_tup (ea_cons ev_c (ea_cons (ev_var (i := 9) rfl) (ea_cons (ev_var (i := 7) rfl) ea_nil))) (by show 3 ≤ 100000; decide)) fun q H9 _ e9 h9 => k1 q H9 (((E6.trans e7).trans e8).trans e9) ?_
            rw [ck]
            exact ⟨g2, h9, e9 _ _ (e8 _ _ (e7 _ _ hg6))⟩
          · have hu : under r.2 (if M.asks k r = true then a else b) = true := by simpa using hu
            rw [if_pos hu] at ck
            exact ⟨m2, h, g2, M.next k r, a, if M.asks k r = true then a else b, if M.asks k r = true then many + 1 else many, _, _, _, _, _, rfl, (E6.trans e7).trans e8, memEx ((e6.trans e7).trans e8) hm2, e8 _ _ (e7 _ _ (e6 _ _ hh5)), e8 _ _ (e7 _ _ hg6), oka, okg, ck⟩
    · rintro σ H' ⟨m, h, g, M, a, b, many, v1, v2, v3, v4, v5, rfl, e, hm, hh, hg, oka, okb, ck⟩
      rw [List.length_map, hl, List.drop_length] at ck
      have ck : goR under k 0 mem0 [] [] 0 C = .done many := ck
      rw [ck] at k1
      refine s_retU (xs := if many > (greedyP 0 [] [] C).length then [.str "wasteful", .int (many : Int), .int ((greedyP 0 [] [] C).length : Int)] else [.str "right", .int (many : Int)]) ?_ fun q H9 _ e9 h9 => k1 q H9 (e.trans e9) h9
      refine eu_if (b := decide ((((greedyP 0 [] [] C).length : Nat) : Int) < (many : Int))) (et_test (ev_op (ev_var (i := 8) rfl) (ev_var (i := 2) rfl) rv_I0)) (fun hb => ?_) (fun hb => ?_)
      · have hb := of_decide_eq_true hb
        rw [if_pos (show many > (greedyP 0 [] [] C).length by omega)]
        exact eu_tup (ea_cons ev_c (ea_cons (ev_var (i := 8) rfl) (ea_cons (ev_var (i := 2) rfl) ea_nil))) (by show 3 ≤ 100000; decide)
      · have hb := of_decide_eq_false hb
        rw [if_neg (show ¬ many > (greedyP 0 [] [] C).length by omega)]
        exact eu_tup (ea_cons ev_c (ea_cons (ev_var (i := 8) rfl) ea_nil)) (by show 2 ≤ 100000; decide)
end
end K82
end
section
set_option maxRecDepth 100000
set_option maxHeartbeats 4000000
/-! _law_play. -/
namespace K82
open PySem L2 Evl NdefX LamX
theorem CourseAt.ext {H H' : Hp} {c : Addr} {C : List Row} (e : ExtN H H') (h : CourseAt H c C) : CourseAt H' c C := by
  obtain ⟨ts, h1, h2⟩ := h
  refine ⟨ts, e _ _ h1 (fun ps z => by cases z), paired_mono h2 fun t r ⟨d, a, b⟩ => ⟨d, e _ _ a (fun ps z => by cases z), e _ _ b (fun ps z => by cases z)⟩⟩
theorem ExtN.ex {H H' : Hp} (e : Ex H H') : ExtN H H' := fun b o h _ => e b o h
theorem TabsN.ex {T : List NTab} {H H' : Hp} (t : TabsN T H) (e : Ex H H') : TabsN T H' := TabsN.ext t e
def underB (a b : Num) : Bool := under (bareOf a) b
def spPlay (T : List NTab) : Sp := fun vs H Q _ => ∃ (c : Addr) (C : List Row) (k n : Nat), vs = [.ref c, .int (k : Int), .int (n : Int)] ∧ CourseAt H c C ∧ RowsOk C ∧ k < 5 ∧ TabsN T H ∧
  ∀ t H2, ExtN H H2 → TabsN T H2 → ResAt H2 t n (goR underB k 0 mem0 [] [] 0 C) → Q (.ref t) H2
structure TxtP (K : PySem.W.Frag) (mg : Str → Option Value) (fR : Addr) : Prop where
  len : mg "len" = none
  range : mg "range" = none
  mR : mg "_law_rule" = some (.ref fR)
  kR : PySem.W.keepIn K (.ref fR) = true
section
variable {P : Program} {w : World} {K : PySem.W.Frag} {mg : Str → Option Value} {base : Heap}
theorem scPlay : FnScope ["course", "kind", "fewest", "rule", "memory", "heard", "safe", "many", "at", "asks"] ["course", "kind", "fewest"] (defScope sPlay) := ⟨rfl, rfl, rfl, by decide +kernel, rfl, by decide +kernel, by decide +kernel⟩
theorem ok_play {N : List NTab} {f fR fU fB : Addr} {fd fdR fdU fdB : FuncData} (F : Fun K "_law_play" "_law_play" sPlay f fd) (T : TxtP K mg fR) (GR : FnOk P w K mg base CX0 1 fR fdR ["kind"] (spRule N)) (bR : Binds K fdR ["kind"] [])
    (TH : TxtH K mg fU fB) (GU : FnOk P w K mg base CX0 1 fU fdU ["one", "other"] spUnder) (bU : Binds K fdU ["one", "other"] []) (GB : FnOk P w K mg base CX0 1 fB fdB ["numbers"] spBare) (bB : Binds K fdB ["numbers"] []) :
    FnOk P w K mg base CX0 3 f fd ["course", "kind", "fewest"] (spPlay N) := by
  refine F.ok scPlay (fun vs H Q E h => ?_) (fun cdv A outer s H vs Q E hr h => ?_)
  · obtain ⟨c, C, k, n, rfl, _⟩ := h
    rfl
  · obtain ⟨c, C, k, n, rfl, hC, okC, hk, hT, k1⟩ := h
    have hr1 : Room 1 _ := hr.mono (by decide)
    have hr2 : Room 2 _ := hr.mono (by decide)
    refine ⟨_, pss_cons (ps_set (i := 3) scPlay.nd rfl (Or.inl rfl) (pe_call GR hr1 rfl T.mR T.kR bR .nil pass0 (pa_cons (pv 1) pa_nil)))
        (pss_cons (ps_set (i := 4) scPlay.nd rfl (Or.inl rfl) (pe_callR0 hr1 (pe_ix ix_tup (pv 3) pe_int (fun _ _ => rfl))))
        (pss_cons (ps_par3 (i := 5) (j := 6) (l := 7) rfl scPlay.nd rfl rfl rfl (by decide) (by decide) (by decide) rfl rfl rfl (pa_cons pe_dnewK (pa_cons pe_dnewK (pa_cons pe_int pa_nil))) (by rfl))
        (pss_cons (ps_for PassesOwn.never rfl (pi_range1 rfl T.range (pa_cons (pe_callB call_len_seq (by rfl) T.len (by decide +kernel) (pa_cons (pv 0) pa_nil)) pa_nil)) (pg_name (i := 8) scPlay.nd rfl (Or.inl rfl))
        (pss_cons (ps_asg (pe_callR hr2 (pe_ix ix_tup (pv 3) pe_int (fun _ _ => rfl)) (pa_cons (pv 4) (pa_cons (pe_ix ix_list (pv 0) (pv 8) (fun _ _ => rfl)) pa_nil))) (pg_tup rfl (pgs_cons (pg_name (i := 4) scPlay.nd rfl (Or.inl rfl)) (pgs_cons (pg_name (i := 9) scPlay.nd rfl (Or.inl rfl)) pgs_nil))))
        (pss_cons (ps_if (pt_val (pv 9))
        (pss_one (ps_par (i := 6) (j := 7) rfl scPlay.nd rfl rfl (by decide) rfl rfl (pa_cons (pv 5) (pa_cons (pe_op op_add (pv 7) pe_int) pa_nil)) (by rfl)))
        pss_nil)
        (pss_one (ps_if (pt_cmpR op_eq (pe_ix ix_tup (pe_ix ix_list (pv 0) (pv 8) (fun _ _ => rfl)) pe_int (fun _ _ => rfl)) pe_str (nomark _))
        (pss_one (ps_set (i := 5) scPlay.nd rfl (Or.inl rfl) (pe_call GB hr1 rfl TH.mB TH.kB bB .nil pass0 (pa_cons (pe_ix ix_tup (pe_ix ix_list (pv 0) (pv 8) (fun _ _ => rfl)) pe_int (fun _ _ => rfl)) pa_nil))))
        (pss_one (ps_if (pt_not (pt_val (pe_call GU hr1 rfl TH.mU TH.kU bU .nil pass0 (pa_cons (pe_call GB hr1 rfl TH.mB TH.kB bB .nil pass0 (pa_cons (pe_ix ix_tup (pe_ix ix_list (pv 0) (pv 8) (fun _ _ => rfl)) pe_int (fun _ _ => rfl)) pa_nil)) (pa_cons (pv 6) pa_nil)))))
        (pss_one (ps_ret (pe_tup (pa_cons pe_str (pa_cons (pv 8) (pa_cons (pv 6) pa_nil))))))
        pss_nil)))))))
        (pss_one (ps_ret (pe_ifExp (pt_cmpR op_gt (pv 7) (pv 2) (nomark _)) (pe_tup (pa_cons pe_str (pa_cons (pv 7) (pa_cons (pv 2) pa_nil)))) (pe_tup (pa_cons pe_str (pa_cons (pv 7) pa_nil))))))))), ?_⟩
    refine ⟨_, rfl, k, rfl, hT, fun rl H0 e0 _ hT0 hrl => ?_⟩
    obtain ⟨f1, f2, c1, c2, cc, hrl0, hf1, hc1, hf2, hc2, hcc⟩ := hrl
    refine ⟨_, rfl, rl, _, _, _, rfl, rfl, st_of hrl0, rfl, f1, _, rfl, hf1, hf1, runs_opens hf1 hc1 fun m0 H3 _ e3 hm0 => ?_⟩
    intro hd hhd sd hsd
    refine ⟨_, _, _, rfl, ?_⟩
    have E5 : Ex H0 (upd (upd H3 hd (.dK [])) sd (.dK [])) := (e3.trans (Ex.new (o := .dK []) hhd)).trans (Ex.new (o := .dK []) hsd)
    have nhs : hd ≠ sd := ne_of_none upd_same hsd
    obtain ⟨ts, hc, hts⟩ := hC.ext e0
    have hl : ts.length = C.length := paired_len hts
    have memEx : ∀ {m : Addr} {M : Mem} {A B : Hp}, Ex A B → MemAt A m M → MemAt B m M := fun e ⟨a, b, h1, h2, h3⟩ => ⟨a, b, e _ _ h1, e _ _ h2, e _ _ h3⟩
    have hlen := okC.2
    refine q_forR1 (n := (C.length : Int)) (ea_cons (by rw [← hl]; exact ev_is (ev_len (K := K) (ev_var (i := 0) rfl) (sq_of (E5 _ _ hc))) (by rw [List.length_map])) ea_nil) ⟨by omega, by omega⟩
      (fun i σ H' => ∃ (m h g : Addr) (M : Mem) (a b : Num) (many : Nat) (v1 v2 : Option V), σ = [some (.ref c), some (.int (k : Int)), some (.int (n : Int)), some (.ref rl), some (.ref m), some (.ref h), some (.ref g), some (.int (many : Int)), v1, v2] ∧
        Ex H0 H' ∧ MemAt H' m M ∧ H' h = some (.dK (kv a)) ∧ H' g = some (.dK (kv b)) ∧ NumOk a ∧ NumOk b ∧ goR underB k 0 mem0 [] [] 0 C = goR underB k i M a b many (C.drop i))
      (fun H1 e => ⟨m0, hd, sd, mem0, [], [], 0, none, none, rfl, E5.trans e, memEx (((Ex.new hhd).trans (Ex.new hsd)).trans e) hm0, e _ _ ((upd_ne nhs).trans upd_same), e _ _ upd_same, nil_ok, nil_ok, rfl⟩) ?_ ?_
    · rintro i σ H' hi ⟨m, h, g, M, a, b, many, v1, v2, rfl, e, hm, hh, hg, oka, okb, ck⟩
      have hiC : i < C.length := by omega
      obtain ⟨r, hri⟩ : ∃ r, C[i]? = some r := ⟨_, List.getElem?_eq_getElem hiC⟩
      obtain ⟨t, hti, hr0⟩ := paired_at hts hri
      obtain ⟨d, ht, hd'⟩ := hr0.ex e
      have okr : NumOk r.2 := okC.1 r (List.mem_of_getElem? hri)
      have hdr : C.drop i = r :: C.drop (i + 1) := by
        obtain ⟨hlt, he⟩ := List.getElem?_eq_some_iff.mp hri
        rw [List.drop_eq_getElem_cons hlt, he]
      rw [hdr] at ck
      have hat : atI (ts.map V.ref) (i : Int) = some (.ref t) := atI_nat (by rw [List.getElem?_map, hti]; rfl)
      refine ⟨_, rfl, rl, _, _, _, rfl, rfl, st_of (e _ _ hrl0), rfl, f2, _, rfl, e _ _ hf2, _, rfl, _, rfl, _, rfl, c, _, _, _, rfl, rfl, sq_of (e _ _ hc), hat, e _ _ hf2, ?_⟩
      refine runs_hears TH GU bU GB bB (M := M) (r := r) (k := k) (e _ _ hf2) (e _ _ hc2) (e _ _ hcc) hk hm ⟨d, ht, hd'⟩ okr fun t2 m2 H5 e5 ht2 hm2 => ?_
      refine ⟨t2, _, rfl, st_of ht2, rfl, _, _, rfl, _, _, rfl, rfl, ?_⟩
      have E5 := e.trans e5
      have hh5 := e5 _ _ hh
      have hg5 := e5 _ _ hg
      have hd5 := e5 _ _ hd'
      have row0 : ∀ (σ : L2.St) (H' : Hp), σ[0]? = some (some (.ref c)) → σ[8]? = some (some (.int (i : Int))) → Ex H5 H' → Ev (tOp (rIxT K) (tOp (rIxL K) (tVar 0) (tVar 8)) (tC (V.int 0))) σ H' (.str r.1) := fun σ H' a1 a2 a3 =>
        ev_ixT (i := 0) (ev_ixL (i := (i : Int)) (ev_var a1) (ev_var a2) (sq_of (a3 _ _ (E5 _ _ hc))) hat) ev_c (a3 _ _ (e5 _ _ ht)) rfl
      have row1 : ∀ (σ : L2.St) (H' : Hp), σ[0]? = some (some (.ref c)) → σ[8]? = some (some (.int (i : Int))) → Ex H5 H' → Ev (tOp (rIxT K) (tOp (rIxL K) (tVar 0) (tVar 8)) (tC (V.int 1))) σ H' (.ref d) := fun σ H' a1 a2 a3 =>
        ev_ixT (i := 1) (ev_ixL (i := (i : Int)) (ev_var a1) (ev_var a2) (sq_of (a3 _ _ (E5 _ _ hc))) hat) ev_c (a3 _ _ (e5 _ _ ht)) rfl
      refine q_ifM (b := M.asks k r) (fun σ' H6 => ∃ g2, σ' = [some (.ref c), some (.int (k : Int)), some (.int (n : Int)), some (.ref rl), some (.ref m2), some (.ref h), some (.ref g2), some (.int ((if M.asks k r = true then many + 1 else many : Nat) : Int)), some (.int (i : Nat)), some (.bl (M.asks k r))] ∧
        Ex H5 H6 ∧ H6 g2 = some (.dK (kv (if M.asks k r = true then a else b)))) (et_B (ev_var rfl)) (fun hb H6 e6 kk => ?_) (fun hb H6 e6 => ?_) ?_
      · refine ⟨_, rfl, _, rfl, _, _, rfl, rfl, _, _, rfl, ?_⟩
        refine kk _ _ ⟨h, ?_, e6, ?_⟩
        · rw [if_pos hb]
          rfl
        · rw [if_pos hb]
          exact e6 _ _ hh5
      · refine ⟨g, ?_, e6, ?_⟩
        · rw [if_neg (by rw [hb]; decide)]
          rfl
        · rw [if_neg (by rw [hb]; decide)]
          exact e6 _ _ hg5
      · rintro σ' H6 ⟨g2, rfl, e6, hg6⟩
        have E6 := E5.trans e6
        have okg : NumOk (if M.asks k r = true then a else b) := by
          split
          · exact oka
          · exact okb
        refine s_if (b := decide (r.1 = "hear")) (et_is (et_test (ev_op (row0 _ _ rfl rfl e6) ev_c (rv_eq rfl))) (by rw [dec_str]; exact beq_dec)) (fun hk2 H7 e7 => ?_) (fun hk2 H7 e7 => ?_)
        · have hk2 := of_decide_eq_true hk2
          have ck : goR underB k 0 mem0 [] [] 0 C = (if r.1 = "hear" then goR underB k (i + 1) (M.next k r) (bareOf r.2) (if M.asks k r = true then a else b) (if M.asks k r = true then many + 1 else many) (C.drop (i + 1)) else _) := ck
          rw [if_pos hk2] at ck
          refine s_asgD (kvs := kv (bareOf r.2)) (ed_lbare (row1 _ _ rfl rfl (e6.trans e7)) (.inl (e7 _ _ (e6 _ _ hd5))) okr) fun p2 H8 hp2 e8 h8 => ?_
          exact ⟨m2, p2, g2, M.next k r, bareOf r.2, if M.asks k r = true then a else b, if M.asks k r = true then many + 1 else many, _, _, rfl, (E6.trans e7).trans e8, memEx ((e6.trans e7).trans e8) hm2, h8, e8 _ _ (e7 _ _ hg6), bare_ok okr, okg, ck⟩
        · have hk2 := of_decide_eq_false hk2
          have ck : goR underB k 0 mem0 [] [] 0 C = (if r.1 = "hear" then _ else if under (bareOf r.2) (if M.asks k r = true then a else b) = true then goR underB k (i + 1) (M.next k r) a (if M.asks k r = true then a else b) (if M.asks k r = true then many + 1 else many) (C.drop (i + 1)) else .caught i (if M.asks k r = true then a else b)) := ck
          rw [if_neg hk2] at ck
          refine s_when (b := !under (bareOf r.2) (if M.asks k r = true then a else b)) (et_not (et_B (ev_underBare (row1 _ _ rfl rfl (e6.trans e7)) (.inl (e7 _ _ (e6 _ _ hd5))) okr (ev_var (i := 6) rfl) (.inl (e7 _ _ hg6))))) (fun hu H8 e8 => ?_) (fun hu H8 e8 => ?_)
          · have hu : under (bareOf r.2) (if M.asks k r = true then a else b) = false := by simpa using hu
            rw [if_neg (by rw [hu]; decide)] at ck
            refine s_retU (xs := [.str "caught", .int (i : Int), .ref g2]) (eu_tup (ea_cons ev_c (ea_cons (ev_var (i := 8) rfl) (ea_cons (ev_var (i := 6) rfl) ea_nil))) (by show 3 ≤ 100000; decide)) fun q H9 _ e9 h9 => ?_
            have EE := (((E6.trans e7).trans e8).trans e9)
            refine k1 q H9 (e0.trans (ExtN.ex EE)) (TabsN.ex hT0 EE) ?_
            rw [ck]
            exact ⟨g2, h9, e9 _ _ (e8 _ _ (e7 _ _ hg6))⟩
          · have hu : under (bareOf r.2) (if M.asks k r = true then a else b) = true := by simpa using hu
            rw [if_pos hu] at ck
            exact ⟨m2, h, g2, M.next k r, a, if M.asks k r = true then a else b, if M.asks k r = true then many + 1 else many, _, _, rfl, (E6.trans e7).trans e8, memEx ((e6.trans e7).trans e8) hm2, e8 _ _ (e7 _ _ (e6 _ _ hh5)), e8 _ _ (e7 _ _ hg6), oka, okg, ck⟩
    · rintro σ H' ⟨m, h, g, M, a, b, many, v1, v2, rfl, e, hm, hh, hg, oka, okb, ck⟩
      have en : (C.length : Int).toNat = C.length := by omega
      rw [en, List.drop_length] at ck
      have ck : goR underB k 0 mem0 [] [] 0 C = .done many := ck
      rw [ck] at k1
      refine s_retU (xs := if many > n then [.str "wasteful", .int (many : Int), .int (n : Int)] else [.str "right", .int (many : Int)]) ?_ fun q H9 _ e9 h9 => k1 q H9 (e0.trans (ExtN.ex (e.trans e9))) (TabsN.ex hT0 (e.trans e9)) h9
      refine eu_if (b := decide (((n : Nat) : Int) < (many : Int))) (et_test (ev_op (ev_var (i := 7) rfl) (ev_var (i := 2) rfl) rv_I0)) (fun hb => ?_) (fun hb => ?_)
      · have hb := of_decide_eq_true hb
        rw [if_pos (show many > n by omega)]
        exact eu_tup (ea_cons ev_c (ea_cons (ev_var (i := 7) rfl) (ea_cons (ev_var (i := 2) rfl) ea_nil))) (by show 3 ≤ 100000; decide)
      · have hb := of_decide_eq_false hb
        rw [if_neg (show ¬ many > n by omega)]
        exact eu_tup (ea_cons ev_c (ea_cons (ev_var (i := 7) rfl) ea_nil)) (by show 2 ≤ 100000; decide)
end
end K82
end
section
set_option maxRecDepth 100000
set_option maxHeartbeats 4000000
/-! the law's small helpers. -/
namespace K82
open PySem L2 Evl NdefX LamX
/-- a list of dicts of numbers -/
def NumsAt (H : Hp) (p : Addr) (L : List Num) : Prop := ∃ ts : List Addr, H p = some (.lst (ts.map V.ref)) ∧ Paired (fun a n => H a = some (.dK (kv n))) ts L
theorem NumsAt.ext {H H' : Hp} {p : Addr} {L : List Num} (e : ExtN H H') (h : NumsAt H p L) : NumsAt H' p L := by
  obtain ⟨ts, h1, h2⟩ := h
  exact ⟨ts, e _ _ h1 (fun ps z => by cases z), paired_mono h2 fun t r a => e _ _ a (fun ps z => by cases z)⟩
def aheadGo : Num → List Row → List Num
  | _, [] => []
  | h, r :: rs => h :: aheadGo (heardBy r h) rs
theorem ahead_len : ∀ (C : List Row) (h : Num), (aheadGo h C).length = C.length
  | [], _ => rfl
  | r :: rs, h => congrArg Nat.succ (ahead_len rs _)
def spAhead : Sp := fun vs H Q _ => ∃ (c : Addr) (C : List Row), vs = [.ref c] ∧ CourseAt H c C ∧ RowsOk C ∧ ∀ p H2, H p = none → Ex H H2 → NumsAt H2 p (aheadGo [] C) → Q (.ref p) H2
structure TxtA (K : PySem.W.Frag) (mg : Str → Option Value) (fB : Addr) : Prop where
  mB : mg "_law_bare" = some (.ref fB)
  kB : PySem.W.keepIn K (.ref fB) = true
section
variable {P : Program} {w : World} {K : PySem.W.Frag} {mg : Str → Option Value} {base : Heap}
theorem scAhead : FnScope ["course", "told", "heard", "kind", "state"] ["course"] (defScope sAhead) := ⟨rfl, rfl, rfl, by decide +kernel, rfl, by decide +kernel, by decide +kernel⟩
theorem ok_ahead {f fB : Addr} {fd fdB : FuncData} (F : Fun K "_law_heard_ahead" "_law_heard_ahead" sAhead f fd) (T : TxtA K mg fB) (GB : FnOk P w K mg base CX0 1 fB fdB ["numbers"] spBare) (bB : Binds K fdB ["numbers"] []) :
    FnOk P w K mg base CX0 2 f fd ["course"] spAhead := by
  refine F.ok scAhead (fun vs H Q E h => ?_) (fun cdv A outer s H vs Q E hr h => ?_)
  · obtain ⟨c, C, rfl, _⟩ := h
    rfl
  · obtain ⟨c, C, rfl, hC, okC, k1⟩ := h
    refine ⟨_, pss_cons (ps_set (i := 1) scAhead.nd rfl (Or.inl rfl) (pe_lst pa_nil))
        (pss_cons (ps_set (i := 2) scAhead.nd rfl (Or.inl rfl) pe_dnewK)
        (pss_cons (ps_for PassesOwn.never rfl (pi_list (pv 0)) (pg_tup rfl (pgs_cons (pg_name (i := 3) scAhead.nd rfl (Or.inl rfl)) (pgs_cons (pg_name (i := 4) scAhead.nd rfl (Or.inl rfl)) pgs_nil)))
        (pss_cons (ps_expr (pe_bm PySem.F.plainAttrs_list PySem.F.slot_list_append PySem.F.type_list_append mt_append (pv 1) (pa_cons (pv 2) pa_nil)))
        (pss_one (ps_if (pt_cmpR op_eq (pv 3) pe_str (nomark _))
        (pss_one (ps_set (i := 2) scAhead.nd rfl (Or.inl rfl) (pe_call GB hr rfl T.mB T.kB bB .nil pass0 (pa_cons (pv 4) pa_nil))))
        pss_nil))))
        (pss_one (ps_ret (pv 1))))), ?_⟩
    refine ⟨Nat.zero_le _, fun pl hpl => ?_⟩
    intro hd hhd
    have e2 : Ex H (upd (upd H pl (.lst [])) hd (.dK [])) := (Ex.new hpl).trans (Ex.new hhd)
    have npd : pl ≠ hd := ne_of_none upd_same hhd
    obtain ⟨ts, hc, hts⟩ := hC
    have hl : ts.length = C.length := paired_len hts
    have hlen := okC.2
    refine q_forL (ev_var rfl) (sq_of (e2 _ _ hc))
      (fun i σ H' => ∃ (h : Addr) (b : Num) (acc : List Addr) (done : List Num) (v1 v2 : Option V), σ = [some (.ref c), some (.ref pl), some (.ref h), v1, v2] ∧ H pl = none ∧ Ex H H' ∧ H' h = some (.dK (kv b)) ∧ H' pl = some (.lst (acc.map V.ref)) ∧ Paired (fun a n => H' a = some (.dK (kv n))) acc done ∧ acc.length ≤ i ∧ aheadGo [] C = done ++ aheadGo b (C.drop i))
      (fun H1 e => ⟨hd, [], [], [], none, none, rfl, hpl, e2.trans e, e _ _ upd_same, e _ _ ((upd_ne npd).trans upd_same), .nil, Nat.le_refl _, rfl⟩) ?_ ?_ ?_
    · rintro i σ H' hi ⟨h, b, acc, done, v1, v2, rfl, p0, e, _⟩
      exact sq_of (e _ _ hc)
    · rintro i x σ H' hx ⟨h, b, acc, done, v1, v2, rfl, p0, e, hh, hp, hpd, hacc, ck⟩
      obtain ⟨t, hti, rfl⟩ : ∃ t, ts[i]? = some t ∧ V.ref t = x := by
        rw [List.getElem?_map] at hx
        cases et : ts[i]? with
        | none => rw [et] at hx; cases hx
        | some t => rw [et] at hx; exact ⟨t, rfl, Option.some.inj hx⟩
      obtain ⟨r, hri, hr0⟩ := paired_ata hts hti
      obtain ⟨d, ht, hd'⟩ := hr0.ex e
      have okr : NumOk r.2 := okC.1 r (List.mem_of_getElem? hri)
      have hdr : C.drop i = r :: C.drop (i + 1) := by
        obtain ⟨hlt, he⟩ := List.getElem?_eq_some_iff.mp hri
        rw [List.drop_eq_getElem_cons hlt, he]
      rw [hdr] at ck
      have ck : aheadGo [] C = done ++ (b :: aheadGo (heardBy r b) (C.drop (i + 1))) := ck
      have hiC : i < C.length := (List.getElem?_eq_some_iff.mp hri).1
      refine ⟨t, _, rfl, st_of ht, rfl, _, _, rfl, _, _, rfl, rfl, ?_⟩
      refine q_app (l := pl) (xs := acc.map V.ref) (v := .ref h) (K := K) hp (ev_var (i := 1) rfl) (ev_var (i := 2) rfl) (by rw [List.length_map]; omega) fun H1 e1 => ?_
      have nph : h ≠ pl := ne_of hh hp (by intro z; cases z)
      have E1 : Ex H (upd H1 pl (.lst (acc.map V.ref ++ [.ref h]))) := Ex.mut (e.trans e1) p0
      have old : ∀ {a : Addr} {kvs : List (Key × V)}, H' a = some (.dK kvs) → upd H1 pl (.lst (acc.map V.ref ++ [.ref h])) a = some (.dK kvs) := fun q => (upd_ne (ne_of q hp (by intro z; cases z))).trans (e1 _ _ q)
      have hpd2 := paired_snoc (paired_mono hpd fun a n q => old q) (old hh)
      have hp2 : upd H1 pl (.lst (acc.map V.ref ++ [.ref h])) pl = some (.lst ((acc ++ [h]).map V.ref)) := by rw [upd_same, List.map_append]; rfl
      refine s_if (b := decide (r.1 = "hear")) (et_is (et_test (ev_op (ev_var (i := 3) rfl) ev_c (rv_eq rfl))) (by rw [dec_str]; exact beq_dec)) (fun hk2 H7 e7 => ?_) (fun hk2 H7 e7 => ?_)
      · have hk2 := of_decide_eq_true hk2
        have hb : heardBy r b = bareOf r.2 := if_pos hk2
        rw [hb] at ck
        refine s_asgD (kvs := kv (bareOf r.2)) (ed_lbare (ev_var (i := 4) rfl) (.inl (e7 _ _ (old hd'))) okr) fun p2 H8 hp3 e8 h8 => ?_
        exact ⟨p2, bareOf r.2, acc ++ [h], done ++ [b], _, _, rfl, p0, (E1.trans e7).trans e8, h8, e8 _ _ (e7 _ _ hp2), paired_mono hpd2 fun a n q => e8 _ _ (e7 _ _ q), by rw [List.length_append, List.length_singleton]; omega, by rw [ck, List.append_assoc]; rfl⟩
      · have hk2 := of_decide_eq_false hk2
        have hb : heardBy r b = b := if_neg hk2
        rw [hb] at ck
        exact ⟨h, b, acc ++ [h], done ++ [b], _, _, rfl, p0, E1.trans e7, e7 _ _ (old hh), e7 _ _ hp2, paired_mono hpd2 fun a n q => e7 _ _ q, by rw [List.length_append, List.length_singleton]; omega, by rw [ck, List.append_assoc]; rfl⟩
    · rintro σ H' ⟨h, b, acc, done, v1, v2, rfl, p0, e, hh, hp, hpd, hacc, ck⟩
      rw [List.length_map, hl, List.drop_length] at ck
      have ck : aheadGo [] C = done := ck.trans (List.append_nil _)
      rw [ck] at k1
      exact ⟨_, rfl, k1 pl H' p0 e ⟨acc, hp, hpd⟩⟩
end
end K82
end
section
set_option maxRecDepth 100000
set_option maxHeartbeats 4000000
/-! _law_keeps, _law_serves, _law_rising. -/
namespace K82
open PySem L2 Evl NdefX LamX
def safeAt (L : List Num) (pl : List Nat) (i : Nat) (s : Num) : Num := if i ∈ pl then L.getD i [] else s
def keepsGo (L : List Num) (pl : List Nat) : Nat → Num → List Row → Bool
  | _, _, [] => true
  | i, s, r :: rs => if r.1 = "tell" ∧ under (bareOf r.2) (safeAt L pl i s) = false then false else keepsGo L pl (i + 1) (safeAt L pl i s) rs
theorem flat_ints (l : List Nat) : (intsV l).all flatV = true := by
  unfold intsV
  rw [List.all_map]
  exact List.all_eq_true.mpr fun _ _ => rfl
theorem inV_ints (n : Nat) : ∀ l : List Nat, inV (.int (n : Int)) (intsV l) = decide (n ∈ l)
  | [] => rfl
  | m :: l => by
    have ih := inV_ints n l
    have e : inV (.int (n : Int)) (intsV (m :: l)) = (((m : Int) == (n : Int)) || inV (.int (n : Int)) (intsV l)) := rfl
    rw [e, ih]
    by_cases h : n = m
    · subst h
      simp
    · have h2 : ((m : Int) == (n : Int)) = false := by
        have : ¬ (m : Int) = (n : Int) := by omega
        simpa using this
      rw [h2, Bool.false_or]
      by_cases h3 : n ∈ l <;> simp [h, h3]
def spKeeps : Sp := fun vs H Q _ => ∃ (c hp pp : Addr) (C : List Row) (L : List Num) (pl : List Nat), vs = [.ref c, .ref hp, .ref pp] ∧ CourseAt H c C ∧ RowsOk C ∧ NumsAt H hp L ∧ L.length = C.length ∧ H pp = some (.lst (intsV pl)) ∧ (∀ n ∈ L, NumOk n) ∧ RetV (.bl (keepsGo L pl 0 [] C)) H Q
structure TxtK (K : PySem.W.Frag) (mg : Str → Option Value) (fU fB : Addr) : Prop extends TxtH K mg fU fB where
  len : mg "len" = none
  range : mg "range" = none
theorem nums_at {H : Hp} {p : Addr} {L : List Num} {ts : List Addr} {i : Nat} (h2 : Paired (fun a n => H a = some (.dK (kv n))) ts L) (hi : i < L.length) : ∃ a, ts[i]? = some a ∧ H a = some (.dK (kv (L.getD i []))) := by
  obtain ⟨a, h3, h4⟩ := paired_at h2 (List.getElem?_eq_getElem hi)
  refine ⟨a, h3, ?_⟩
  rw [List.getD_eq_getElem?_getD, List.getElem?_eq_getElem hi]
  exact h4
section
variable {P : Program} {w : World} {K : PySem.W.Frag} {mg : Str → Option Value} {base : Heap}
theorem scKeeps : FnScope ["course", "heard", "places", "safe", "at"] ["course", "heard", "places"] (defScope sKeeps) := ⟨rfl, rfl, rfl, by decide +kernel, rfl, by decide +kernel, by decide +kernel⟩
theorem ok_keeps {f fU fB : Addr} {fd fdU fdB : FuncData} (F : Fun K "_law_keeps" "_law_keeps" sKeeps f fd) (T : TxtK K mg fU fB) (GU : FnOk P w K mg base CX0 1 fU fdU ["one", "other"] spUnder) (bU : Binds K fdU ["one", "other"] []) (GB : FnOk P w K mg base CX0 1 fB fdB ["numbers"] spBare) (bB : Binds K fdB ["numbers"] []) :
    FnOk P w K mg base CX0 2 f fd ["course", "heard", "places"] spKeeps := by
  refine F.ok scKeeps (fun vs H Q E h => ?_) (fun cdv A outer s H vs Q E hr h => ?_)
  · obtain ⟨c, hp, pp, C, L, pl, rfl, _⟩ := h
    rfl
  · obtain ⟨c, hp, pp, C, L, pl, rfl, hC, okC, hL, lenL, hpl, okL, k1⟩ := h
    refine ⟨_, pss_cons (ps_set (i := 3) scKeeps.nd rfl (Or.inl rfl) pe_dnewK)
        (pss_cons (ps_for PassesOwn.never rfl (pi_range1 rfl T.range (pa_cons (pe_callB call_len_seq (by rfl) T.len (by decide +kernel) (pa_cons (pv 0) pa_nil)) pa_nil)) (pg_name (i := 4) scKeeps.nd rfl (Or.inl rfl))
        (pss_cons (ps_if (pt_cmpR op_in_seq (pv 4) (pv 2) (by rfl))
        (pss_one (ps_set (i := 3) scKeeps.nd rfl (Or.inl rfl) (pe_ix ix_list (pv 1) (pv 4) (fun _ _ => rfl))))
        pss_nil)
        (pss_one (ps_if (PW.pt (pw_and (pt_cmpR op_eq (pe_ix ix_tup (pe_ix ix_list (pv 0) (pv 4) (fun _ _ => rfl)) pe_int (fun _ _ => rfl)) pe_str (nomark _)) (pw_and1 (pt_not (pt_val (pe_call GU hr rfl T.mU T.kU bU .nil pass0 (pa_cons (pe_call GB hr rfl T.mB T.kB bB .nil pass0 (pa_cons (pe_ix ix_tup (pe_ix ix_list (pv 0) (pv 4) (fun _ _ => rfl)) pe_int (fun _ _ => rfl)) pa_nil)) (pa_cons (pv 3) pa_nil))))))))
        (pss_one (ps_ret pe_bl))
        pss_nil))))
        (pss_one (ps_ret pe_bl))), ?_⟩
    intro sd hsd
    obtain ⟨ts, hc, hts⟩ := hC
    obtain ⟨hs, hh, hhs⟩ := hL
    have hl : ts.length = C.length := paired_len hts
    have hlen := okC.2
    have e1 : Ex H (upd H sd (.dK [])) := Ex.new hsd
    refine q_forR1 (n := (C.length : Int)) (ea_cons (by rw [← hl]; exact ev_is (ev_len (K := K) (ev_var (i := 0) rfl) (sq_of (e1 _ _ hc))) (by rw [List.length_map])) ea_nil) ⟨by omega, by omega⟩
      (fun i σ H' => ∃ (g : Addr) (b : Num) (v1 : Option V), σ = [some (.ref c), some (.ref hp), some (.ref pp), some (.ref g), v1] ∧ Ex H H' ∧ H' g = some (.dK (kv b)) ∧ NumOk b ∧ keepsGo L pl 0 [] C = keepsGo L pl i b (C.drop i))
      (fun H1 e => ⟨sd, [], none, rfl, e1.trans e, e _ _ upd_same, nil_ok, rfl⟩) ?_ ?_
    · rintro i σ H' hi ⟨g, b, v1, rfl, e, hg, okb, ck⟩
      have hiC : i < C.length := by omega
      obtain ⟨r, hri⟩ : ∃ r, C[i]? = some r := ⟨_, List.getElem?_eq_getElem hiC⟩
      obtain ⟨t, hti, hr0⟩ := paired_at hts hri
      obtain ⟨d, ht, hd'⟩ := hr0.ex e
      have okr : NumOk r.2 := okC.1 r (List.mem_of_getElem? hri)
      have hdr : C.drop i = r :: C.drop (i + 1) := by
        obtain ⟨hlt, he⟩ := List.getElem?_eq_some_iff.mp hri
        rw [List.drop_eq_getElem_cons hlt, he]
      rw [hdr] at ck
      have ck : keepsGo L pl 0 [] C = (if r.1 = "tell" ∧ under (bareOf r.2) (safeAt L pl i b) = false then false else keepsGo L pl (i + 1) (safeAt L pl i b) (C.drop (i + 1))) := ck
      have hat : atI (ts.map V.ref) (i : Int) = some (.ref t) := atI_nat (by rw [List.getElem?_map, hti]; rfl)
      obtain ⟨ha, hai, hha⟩ := nums_at (p := hp) hhs (show i < L.length by omega)
      have hath : atI (hs.map V.ref) (i : Int) = some (.ref ha) := atI_nat (by rw [List.getElem?_map, hai]; rfl)
      have row0 : ∀ (σ : L2.St) (H2 : Hp), σ[0]? = some (some (.ref c)) → σ[4]? = some (some (.int (i : Int))) → Ex H' H2 → Ev (tOp (rIxT K) (tOp (rIxL K) (tVar 0) (tVar 4)) (tC (V.int 0))) σ H2 (.str r.1) := fun σ H2 a1 a2 a3 =>
        ev_ixT (i := 0) (ev_ixL (i := (i : Int)) (ev_var a1) (ev_var a2) (sq_of (a3 _ _ (e _ _ hc))) hat) ev_c (a3 _ _ ht) rfl
      have row1 : ∀ (σ : L2.St) (H2 : Hp), σ[0]? = some (some (.ref c)) → σ[4]? = some (some (.int (i : Int))) → Ex H' H2 → Ev (tOp (rIxT K) (tOp (rIxL K) (tVar 0) (tVar 4)) (tC (V.int 1))) σ H2 (.ref d) := fun σ H2 a1 a2 a3 =>
        ev_ixT (i := 1) (ev_ixL (i := (i : Int)) (ev_var a1) (ev_var a2) (sq_of (a3 _ _ (e _ _ hc))) hat) ev_c (a3 _ _ ht) rfl
      have okg : NumOk (safeAt L pl i b) := by
        unfold safeAt
        split
        · rw [List.getD_eq_getElem?_getD, List.getElem?_eq_getElem (show i < L.length by omega)]
          exact okL _ (List.getElem_mem _)
        · exact okb
      refine q_ifM (b := decide (i ∈ pl)) (fun σ' H6 => ∃ g2, σ' = [some (.ref c), some (.ref hp), some (.ref pp), some (.ref g2), some (.int (i : Nat))] ∧ Ex H' H6 ∧ H6 g2 = some (.dK (kv (safeAt L pl i b))))
        (et_is (et_test (ev_op (ev_var (i := 4) rfl) (ev_var (i := 2) rfl) (rv_isL (sq_of (e _ _ hpl)) rfl (flat_ints pl)))) (inV_ints i pl)) (fun hb H6 e6 kk => ?_) (fun hb H6 e6 => ?_) ?_
      · refine s_asg (ev_ixL (i := (i : Int)) (ev_var (i := 1) rfl) (ev_var (i := 4) rfl) (sq_of (e6 _ _ (e _ _ hh))) hath) fun H7 e7 => ?_
        refine kk _ _ ⟨ha, rfl, e6.trans e7, ?_⟩
        have z : safeAt L pl i b = L.getD i [] := if_pos (of_decide_eq_true hb)
        rw [z]
        exact (e.trans (e6.trans e7)) _ _ hha
      · refine ⟨g, rfl, e6, ?_⟩
        have z : safeAt L pl i b = b := if_neg (of_decide_eq_false hb)
        rw [z]
        exact e6 _ _ hg
      · rintro σ' H6 ⟨g2, rfl, e6, hg6⟩
        refine s_when (b := decide (r.1 = "tell") && !under (bareOf r.2) (safeAt L pl i b)) (et_and (et_is (et_test (ev_op (row0 _ _ rfl rfl e6) ev_c (rv_eq rfl))) (by rw [dec_str]; exact beq_dec)) fun _ => et_not (et_B (ev_underBare (row1 _ _ rfl rfl e6) (.inl (e6 _ _ hd')) okr (ev_var (i := 3) rfl) (.inl hg6)))) (fun hu H8 e8 => ?_) (fun hu H8 e8 => ?_)
        · rw [Bool.and_eq_true, decide_eq_true_eq] at hu
          rw [if_pos ⟨hu.1, by simpa using hu.2⟩] at ck
          rw [ck] at k1
          exact k1 _ ((e.trans e6).trans e8)
        · have hu2 : ¬ (r.1 = "tell" ∧ under (bareOf r.2) (safeAt L pl i b) = false) := fun ⟨z1, z2⟩ => by
            rw [z2, decide_eq_true z1] at hu
            cases hu
          rw [if_neg hu2] at ck
          exact ⟨g2, safeAt L pl i b, _, rfl, (e.trans e6).trans e8, e8 _ _ hg6, okg, ck⟩
    · rintro σ H' ⟨g, b, v1, rfl, e, hg, okb, ck⟩
      have en : (C.length : Int).toNat = C.length := by omega
      rw [en, List.drop_length] at ck
      have ck : keepsGo L pl 0 [] C = true := ck
      rw [ck] at k1
      exact k1 _ e
end
end K82
end
section
set_option maxRecDepth 100000
set_option maxHeartbeats 4000000
/-! _law_serves, _law_rising. -/
namespace K82
open PySem L2 Evl NdefX LamX
def servesB (C : List Row) (L : List Num) (row at_ : Nat) : Bool := decide (row ≤ at_) && (!eqN (bareOf (C.getD at_ ("", [])).2) [] && under (bareOf (C.getD at_ ("", [])).2) (L.getD row []))
def spServes : Sp := fun vs H Q _ => ∃ (c hp : Addr) (C : List Row) (L : List Num) (row at_ : Nat), vs = [.ref c, .ref hp, .int (row : Int), .int (at_ : Int)] ∧ CourseAt H c C ∧ RowsOk C ∧ NumsAt H hp L ∧ row < L.length ∧ at_ < C.length ∧ RetV (.bl (servesB C L row at_)) H Q
def spRising : Sp := fun vs H Q _ => ∃ (p : Addr) (l : List Nat) (most : Nat), vs = [.ref p, .int (most : Int)] ∧ H p = some (.lst (intsV l)) ∧ l.length ≤ 1000 ∧ (∀ n ∈ l, n < most) ∧ l.Pairwise (· < ·) ∧ RetV (.bl true) H Q
structure TxtG (mg : Str → Option Value) : Prop where
  len : mg "len" = none
  range : mg "range" = none
  isi : mg "isinstance" = none
  lst : mg "list" = none
  int : mg "int" = none
  bol : mg "bool" = none
  all : mg "all" = none
theorem el_lcR0 {ta : TA} {t : TT} {te : TE} {σ : L2.St} {H : Hp} {j : Nat} {vs : List Nat} {n : Int} (h : EvA ta σ H [.int n]) (hn : -1 ≤ n ∧ n ≤ 0) : EvL (tLc (iRng1 ta) (gName j) t te vs) σ H [] := fun H0 e Q q => h H0 e _ fun H1 e1 => ⟨n, rfl, by omega, by omega, fun Dl hD =>
  lc_range (lo := 0) (n := n.toNat) (fun i H' => i = 0 ∧ H' = upd H1 Dl (.lst [])) ⟨rfl, rfl⟩ (fun i H' hi p => absurd hi (by omega)) (fun H' p => by
    rw [p.2]
    exact q Dl _ (fresh_back e1 hD) (e1.trans (Ex.new hD)) upd_same)⟩
theorem q_asgD {σ : L2.St} {H : Hp} {D : Ends} {te : TE} {tz : TS} {i : Nat} {kvs : List (Key × V)} (h : EvD te σ H kvs) (k : ∀ p H1, H p = none → Ex H H1 → H1 p = some (.dK kvs) → tz D (σ.set i (some (.ref p))) H1) : tSeq (tAsg te (gName i)) tz D σ H := h H (Ex.refl H) _ fun p H1 hp e h1 => k p H1 hp e h1
section
variable {P : Program} {w : World} {K : PySem.W.Frag} {mg : Str → Option Value} {base : Heap}
theorem scServes : FnScope ["course", "heard", "row", "at", "least"] ["course", "heard", "row", "at"] (defScope sServes) := ⟨rfl, rfl, rfl, by decide +kernel, rfl, by decide +kernel, by decide +kernel⟩
theorem ok_serves {f fU fB : Addr} {fd fdU fdB : FuncData} (F : Fun K "_law_serves" "_law_serves" sServes f fd) (T : TxtH K mg fU fB) (GU : FnOk P w K mg base CX0 1 fU fdU ["one", "other"] spUnder) (bU : Binds K fdU ["one", "other"] []) (GB : FnOk P w K mg base CX0 1 fB fdB ["numbers"] spBare) (bB : Binds K fdB ["numbers"] []) :
    FnOk P w K mg base CX0 2 f fd ["course", "heard", "row", "at"] spServes := by
  refine F.ok scServes (fun vs H Q E h => ?_) (fun cdv A outer s H vs Q E hr h => ?_)
  · obtain ⟨c, hp, C, L, row, at_, rfl, _⟩ := h
    rfl
  · obtain ⟨c, hp, C, L, row, at_, rfl, hC, okC, hL, hrow, hat, k1⟩ := h
    have hu := hr.units
    refine ⟨_, pss_cons (ps_set (i := 4) scServes.nd rfl (Or.inl rfl) (pe_call GB hr rfl T.mB T.kB bB .nil pass0 (pa_cons (pe_ix ix_tup (pe_ix ix_list (pv 0) (pv 3) (fun _ _ => rfl)) pe_int (fun _ _ => rfl)) pa_nil)))
        (pss_one (ps_ret (pe_and (pe_cmpR op_le (pv 2) (pv 3) (nomark _)) (pe_and (pe_cmpR (op_neN (Nat.lt_of_le_of_lt (Nat.le_add_right _ _) hu)) (pv 4) pe_dnewK (nomark _)) (pe_one (pe_call GU hr rfl T.mU T.kU bU .nil pass0 (pa_cons (pv 4) (pa_cons (pe_ix ix_list (pv 1) (pv 2) (fun _ _ => rfl)) pa_nil)))))))), ?_⟩
    obtain ⟨ts, hc, hts⟩ := hC
    obtain ⟨hs, hh, hhs⟩ := hL
    obtain ⟨t, hti, hr0⟩ := paired_at hts (List.getElem?_eq_getElem hat)
    have eC : C.getD at_ ("", []) = C[at_] := by rw [List.getD_eq_getElem?_getD, List.getElem?_eq_getElem hat]; rfl
    unfold servesB at k1
    rw [eC] at k1
    have okr : NumOk (C[at_]).2 := okC.1 _ (List.getElem_mem hat)
    generalize C[at_] = r at hr0 k1 okr
    obtain ⟨d, ht, hd⟩ := hr0
    have hat2 : atI (ts.map V.ref) (at_ : Int) = some (.ref t) := atI_nat (by rw [List.getElem?_map, hti]; rfl)
    obtain ⟨ha, hai, hha⟩ := nums_at (p := hp) hhs hrow
    have hath : atI (hs.map V.ref) (row : Int) = some (.ref ha) := atI_nat (by rw [List.getElem?_map, hai]; rfl)
    refine q_asgD (kvs := kv (bareOf r.2)) (ed_lbare (ev_ixT (i := 1) (ev_ixL (i := (at_ : Int)) (ev_var (i := 0) rfl) (ev_var (i := 3) rfl) (sq_of hc) hat2) ev_c ht rfl) (.inl hd) okr) fun a H1 _ e1 h1 => ?_
    have b1 : (decide ((row : Int) ≤ (at_ : Int))) = decide (row ≤ at_) := by
      by_cases z : row ≤ at_
      · rw [decide_eq_true z, decide_eq_true (by omega)]
      · rw [decide_eq_false z, decide_eq_false (by omega)]
    refine s_ret (v := .bl (decide (row ≤ at_) && (!eqN (bareOf r.2) [] && under (bareOf r.2) (L.getD row [])))) ?_ fun H2 e2 => k1 H2 (e1.trans e2)
    refine ev_andV (ev_is (ev_op (ev_var (i := 2) rfl) (ev_var (i := 3) rfl) rv_I0) (congrArg V.bl b1)) fun _ => ev_andV (fun H2 e2 Q2 q2 => ⟨_, rfl, fun p hp => ⟨a, p, bareOf r.2, [], rfl, rfl, .inl ((e2.trans (Ex.new hp)) _ _ h1), .inl upd_same, q2 _ (Ex.new hp)⟩⟩) fun _ => ?_
    exact ev_call (ea_cons (ev_var (i := 4) rfl) (ea_cons (ev_ixL (i := (row : Int)) (ev_var (i := 1) rfl) (ev_var (i := 2) rfl) (sq_of (e1 _ _ hh)) hath) ea_nil)) (spUnder_v h1 (bare_ok okr) (.inl (e1 _ _ hha)))
theorem scRising : FnScope ["value", "most", "one", "at"] ["value", "most"] (defScope sRising) := ⟨rfl, rfl, rfl, by decide +kernel, rfl, by decide +kernel, by decide +kernel⟩
theorem ok_rising {f : Addr} {fd : FuncData} (F : Fun K "_law_rising" "_law_rising" sRising f fd) (T : TxtG mg) : FnOk P w K mg base CX0 1 f fd ["value", "most"] spRising := by
  refine F.ok scRising (fun vs H Q E h => ?_) (fun cdv A outer s H vs Q E hr h => ?_)
  · obtain ⟨p, l, most, rfl, _⟩ := h
    rfl
  · obtain ⟨p, l, most, rfl, hp, hl, hm, ha, k1⟩ := h
    refine ⟨_, pss_cons (ps_if (PW.pt (pw_or (pt_not (pt_val (pe_callB call_isi (by rfl) T.isi (by decide +kernel) (pa_cons (pv 0) (pa_cons (pe_bltn (v := .ty "list") (u := .type "list") (by rfl) T.lst (by decide +kernel) rfl) pa_nil))))) (pw_or1 (pt_not (pt_val (pe_callB (cr_all rfl) (by rfl) T.all (by decide +kernel) (pa_cons (pe_lc (own := [("one", 2)]) (g := gName 2) (tt := tYes) rfl scRising.nd (pi_list (pv 0)) (blkOk_by (N := ["value", "most", "one", "at"]) (sc := (defScope sRising)) (by decide +kernel)) (fun _ _ _ _ _ => pg_name (i := 2) scRising.nd rfl (Or.inl rfl)) (fun _ _ _ _ _ => pts_nil) (fun _ _ _ _ _ => pe_and (pe_callB (id := "isinstance") (show CallR _ _ (rIsi K) from call_isi) (by rfl) T.isi (by decide +kernel) (pa_cons (pv 2) (pa_cons (pe_bltn (v := .ty "int") (u := .type "int") (by rfl) T.int (by decide +kernel) rfl) pa_nil))) (pe_and (pe_not (pe_callB (id := "isinstance") (show CallR _ _ (rIsi K) from call_isi) (by rfl) T.isi (by decide +kernel) (pa_cons (pv 2) (pa_cons (pe_bltn (v := .ty "bool") (u := .type "bool") (by rfl) T.bol (by decide +kernel) rfl) pa_nil)))) (pe_one (pe_chain op_le op_lt pe_int (pv 2) (pv 1)))))) pa_nil)))))))
        (pss_one (ps_ret pe_bl))
        pss_nil)
        (pss_one (ps_ret (pe_callB (cr_all rfl) (by rfl) T.all (by decide +kernel) (pa_cons (pe_lc (own := [("at", 3)]) (g := gName 3) (tt := tYes) rfl scRising.nd (pi_range1 rfl T.range (pa_cons (pe_op op_sub (pe_callB call_len_seq (by rfl) T.len (by decide +kernel) (pa_cons (pv 0) pa_nil)) pe_int) pa_nil)) (blkOk_by (N := ["value", "most", "one", "at"]) (sc := (defScope sRising)) (by decide +kernel)) (fun _ _ _ _ _ => pg_name (i := 3) scRising.nd rfl (Or.inl rfl)) (fun _ _ _ _ _ => pts_nil) (fun _ _ _ _ _ => pe_cmpR op_lt (pe_ix (show IxR _ (rIxL K) from ix_list) (pv 0) (pv 3) (fun _ _ => rfl)) (pe_ix (show IxR _ (rIxL K) from ix_list) (pv 0) (pe_op op_add (pv 3) pe_int) (fun _ _ => rfl)) (nomark _))) pa_nil)))), ?_⟩
    have et : ∀ n : Nat, n < most → ∀ (σ : L2.St) (H1 : Hp), σ[2]? = some (some (.int (n : Int))) → σ[1]? = some (some (.int (most : Int))) → Ev (tAndV (tCB (rIsi K) (tCons (tVar 2) (tCons (tC (V.ty "int")) tNil))) (tAndV (tNotV (tCB (rIsi K) (tCons (tVar 2) (tCons (tC (V.ty "bool")) tNil)))) (tChain (rI0 fun i j => V.bl (decide (i ≤ j))) (rI0 fun i j => V.bl (decide (i < j))) (tC (V.int 0)) (tVar 2) (tVar 1)))) σ H1 (.bl true) := fun n hn σ H1 a1 a2 => by
      refine ev_andV (a := true) (b := true) (ev_isi (ev_var a1) ty_int (by decide +kernel)) fun _ => ev_andV (a := true) (b := true) (ev_notV (a := false) (ev_isi (ev_var a1) ty_int (by decide +kernel))) fun _ => ?_
      intro H2 e2 Q2 q2
      refine ⟨_, a1, _, _, rfl, rfl, _, rfl, ?_⟩
      rw [if_pos (decide_eq_true (by omega))]
      refine ⟨_, a2, _, _, rfl, rfl, ?_⟩
      show Q2 (.bl (decide ((n : Int) < (most : Int)))) H2
      rw [decide_eq_true (by omega : (n : Int) < (most : Int))]
      exact q2 _ (Ex.refl _)
    have all1 : ∀ n : Nat, ((List.replicate n true)).all id = true := fun n => List.all_eq_true.mpr fun x hx => (List.eq_of_mem_replicate hx)
    have hgiv : ∀ n : Nat, given n (fun _ => true) (fun _ => V.bl true) = (List.replicate n true).map V.bl := fun n => by
      rw [given_all, List.map_replicate]
      exact List.ext_getElem (by simp) (fun i h1 h2 => by simp)
    refine q_when (b := (!true || !((List.replicate l.length true).all id))) (et_or (et_not (et_B (ev_isi (ev_var rfl) (ty_lst hp) (by decide +kernel)))) fun _ => et_not (et_B (ev_all ?_))) (fun hb H1 e1 => ?_) (fun hb H1 e1 => ?_)
    · have z := el_lcL (K := K) (σ := [some (.ref p), some (.int (most : Int)), none, none]) (H := H) (j := 2) (t := tYes) (te := (tAndV (tCB (rIsi K) (tCons (tVar 2) (tCons (tC (V.ty "int")) tNil))) (tAndV (tNotV (tCB (rIsi K) (tCons (tVar 2) (tCons (tC (V.ty "bool")) tNil)))) (tChain (rI0 fun i j => V.bl (decide (i ≤ j))) (rI0 fun i j => V.bl (decide (i < j))) (tC (V.int 0)) (tVar 2) (tVar 1))))) (tl := tVar 0) (vs := [2]) (fun _ => true) (fun _ => V.bl true) (ev_var rfl) (sq_of hp) (by unfold intsV; rw [List.length_map]; omega) (fun _ => rfl) (fun i x H1 _ _ => et_yes) (fun i x H1 _ hx _ => by
        have hx : ((l.map fun n : Nat => V.int (Int.ofNat n)) : List V)[i]? = some x := hx
        rw [List.getElem?_map] at hx
        cases el : l[i]? with
        | none => rw [el] at hx; cases hx
        | some n =>
          rw [el] at hx
          obtain rfl := Option.some.inj hx
          exact et n (hm n (List.mem_of_getElem? el)) _ _ rfl rfl)
      rw [hgiv] at z
      have ez : (intsV l).length = l.length := List.length_map _
      rw [ez] at z
      exact z
    · rw [all1] at hb
      cases hb
    · have kk : ∀ H2, Ex H1 H2 → Q (.bl true) H2 := fun H2 e2 => k1 H2 (e1.trans e2)
      refine s_ret (v := .bl true) ?_ kk
      have elen : (intsV l).length = l.length := List.length_map _
      have en : EvA (tCons (tOp (rI0 fun i j => V.int (i - j)) (tCB (rLenS K) (tCons (tVar 0) tNil)) (tC (V.int 1))) tNil) [some (.ref p), some (.int (most : Int)), none, none] H1 [.int ((l.length : Int) - 1)] := ea_cons (ev_is (ev_op (ev_len (K := K) (ev_var rfl) (sq_of (e1 _ _ hp))) ev_c rv_I0) (by rw [elen])) ea_nil
      by_cases h0 : l.length = 0
      · have z := ev_all (K := K) (bs := []) (el_lcR0 (t := tYes) (te := tOp (rI0 fun i j => .bl (decide (i < j))) (tOp (rIxL K) (tVar 0) (tVar 3)) (tOp (rIxL K) (tVar 0) (tOp (rI0 fun i j => V.int (i + j)) (tVar 3) (tC (V.int 1))))) (j := 3) (vs := [3]) en (by omega))
        exact z
      · have z := el_lcR1 (t := tYes) (te := tOp (rI0 fun i j => .bl (decide (i < j))) (tOp (rIxL K) (tVar 0) (tVar 3)) (tOp (rIxL K) (tVar 0) (tOp (rI0 fun i j => V.int (i + j)) (tVar 3) (tC (V.int 1))))) (j := 3) (vs := [3]) (fun _ => true) (fun _ => V.bl true) en (by omega) (fun _ => rfl) (fun i H2 _ _ => et_yes) (fun i H2 e2 hi _ => by
          have h1 : i < l.length := by omega
          have h2 : i + 1 < l.length := by omega
          have a1 : atI (intsV l) (i : Int) = some (.int (l[i] : Nat)) := atI_nat (by unfold intsV; rw [List.getElem?_map, List.getElem?_eq_getElem h1]; rfl)
          have a2 : atI (intsV l) ((i : Int) + 1) = some (.int (l[i + 1] : Nat)) := by
            have z := atI_nat (xs := intsV l) (j := i + 1) (v := .int (l[i + 1] : Nat)) (by unfold intsV; rw [List.getElem?_map, List.getElem?_eq_getElem h2]; rfl)
            rw [← z]
            rfl
          have hlt : l[i] < l[i + 1] := List.pairwise_iff_getElem.mp ha i (i + 1) h1 h2 (Nat.lt_succ_self i)
          refine ev_is (ev_op (ev_ixL (i := (i : Int)) (ev_var (i := 0) rfl) (ev_var (i := 3) rfl) (sq_of (e2 _ _ (e1 _ _ hp))) a1) (ev_ixL (i := (i : Int) + 1) (ev_var (i := 0) rfl) (ev_op (ev_var (i := 3) rfl) ev_c rv_I0) (sq_of (e2 _ _ (e1 _ _ hp))) a2) rv_I0) ?_
          rw [decide_eq_true (by omega)])
        rw [hgiv] at z
        have z2 := ev_all (K := K) z
        rw [all1] at z2
        exact z2
end
end K82
end
section
set_option maxRecDepth 100000
set_option maxHeartbeats 4000000
/-! _law_source, _law_pick. -/
namespace K82
open PySem L2 Evl NdefX LamX
def SrcAt (H : Hp) (p : Addr) : Prop := ∃ a b c : Int, H p = some (.lst [.int a, .int b, .int c])
def spPick : Sp := fun vs H Q _ => ∃ (p : Addr) (many : Int), vs = [.ref p, .int many] ∧ SrcAt H p ∧ 1 ≤ many ∧ many ≤ 1000000 ∧ ∀ (r : Int) (H2 : Hp), 0 ≤ r → r < many → But p H H2 → SrcAt H2 p → Q (.int r) H2
def spSource : Sp := fun vs H Q _ => ∃ (s : Addr) (ns : List Int) (at_ : Nat), vs = [.ref s, .int (at_ : Int)] ∧ (∀ K, SqL K H s (ns.map V.int)) ∧ ns.length ≤ 1000 ∧ ∀ p H2, H p = none → Ex H H2 → SrcAt H2 p → Q (.ref p) H2
theorem ev_int1 {ta : TE} {σ : L2.St} {H : Hp} {i : Int} (h : Ev ta σ H (.int i)) : Ev (tCB (fun xs H Q => (∃ i, xs = [V.int i] ∧ Q (V.int i) H) ∨ ∃ k, xs = [V.bl k] ∧ Q (V.int (if k = true then 1 else 0)) H) (tCons ta tNil)) σ H (.int i) := fun H1 e Q q => h H1 e _ fun H2 e2 => .inl ⟨i, rfl, q H2 e2⟩
theorem But.of {p : Addr} {H H' : Hp} (e : Ex H H') : But p H H' := fun a o _ h => e a o h
theorem But.trans {p : Addr} {H H1 H2 : Hp} (a : But p H H1) (b : But p H1 H2) : But p H H2 := fun x o n h => b x o n (a x o n h)
theorem But.upd {p : Addr} {H H' : Hp} {u : HO} (e : But p H H') : But p H (upd H' p u) := fun a o n h => (upd_ne n).trans (e a o n h)
structure TxtS (mg : Str → Option Value) : Prop where
  len : mg "len" = none
  int : mg "int" = none
  sum : mg "sum" = none
  abs : mg "abs" = none
section
open PySem.Spec PyProof.Rows
/-- xs[i] by values, i not negative -/
def rGetL (K : PySem.W.Frag) : R2 := fun x y H Q => ∃ (p : Addr) (xs : List V) (i : Nat) (v : V), x = .ref p ∧ y = .int (i : Int) ∧ SqL K H p xs ∧ xs[i]? = some v ∧ Q v H
theorem get_list {X : Cx} : PGet X (rGetL X.K) := by
  intro pins s σ H x y v u Q I rx ry h
  obtain ⟨p, xs, i, z, rfl, rfl, hq, he, q⟩ := h
  cases rx
  obtain ⟨t, rfl⟩ := ry
  obtain ⟨its, r, pl, hz⟩ := I.list hq
  obtain ⟨w, ew, rw'⟩ := r.get he
  have hl := r.length
  have hn := line63
  have hi : i < xs.length := (List.getElem?_eq_some_iff.mp he).1
  exact wpAny_getItem_list pl.isList (by omega) (by omega) (by simpa using ew) ⟨z, H, I, rw', q⟩
end
section
variable {P : Program} {w : World} {K : PySem.W.Frag} {mg : Str → Option Value} {base : Heap}
theorem scPick : FnScope ["source", "many", "found"] ["source", "many"] (defScope sPick) := ⟨rfl, rfl, rfl, by decide +kernel, rfl, by decide +kernel, by decide +kernel⟩
theorem ok_pick {f : Addr} {fd : FuncData} (F : Fun K "_law_pick" "_law_pick" sPick f fd) (T : TxtS mg) : FnOk P w K mg base CX0 1 f fd ["source", "many"] spPick := by
  refine F.ok scPick (fun vs H Q E h => ?_) (fun cdv A outer s H vs Q E hr h => ?_)
  · obtain ⟨p, many, rfl, _⟩ := h
    rfl
  · obtain ⟨p, many, rfl, ⟨a, b, c, hp⟩, h1, h2, k1⟩ := h
    refine ⟨_, pss_cons (ps_if (pt_cmpR op_gt (pe_ix ix_list (pv 0) pe_int (fun _ _ => rfl)) pe_int (nomark _))
        (pss_cons (ps_set (i := 2) scPick.nd rfl (Or.inl rfl) (pe_op op_mod (pe_callTy call_int1 (by rfl) T.int (by decide +kernel) (pa_cons (pe_ix ix_list (pv 0) pe_int (fun _ _ => rfl)) pa_nil)) (pv 1)))
        (pss_cons (ps_asg (pe_op op_fdiv (pe_ix ix_list (pv 0) pe_int (fun _ _ => rfl)) (pv 1)) (pg_sub (pv 0) pe_int set_list))
        (pss_one (ps_ret (pv 2)))))
        pss_nil)
        (pss_cons (ps_augS (pv 0) pe_int get_list pe_int ip_add set_list)
        (pss_cons (ps_asg (pe_op op_mod (pe_callTy call_int1 (by rfl) T.int (by decide +kernel) (pa_cons (pe_op op_add (pe_op op_mul (pe_ix ix_list (pv 0) pe_int (fun _ _ => rfl)) pe_int) (pe_op op_mul (pe_ix ix_list (pv 0) pe_int (fun _ _ => rfl)) pe_int)) pa_nil)) pe_int) (pg_sub (pv 0) pe_int set_list))
        (pss_one (ps_ret (pe_op op_mod (pe_op op_fdiv (pe_op op_mod (pe_callTy call_int1 (by rfl) T.int (by decide +kernel) (pa_cons (pe_op op_add (pe_op op_mul (pe_ix ix_list (pv 0) pe_int (fun _ _ => rfl)) pe_int) (pe_op op_mul (pe_ix ix_list (pv 0) pe_int (fun _ _ => rfl)) pe_int)) pa_nil)) pe_int) pe_int) (pv 1)))))), ?_⟩
    refine q_when (b := decide (0 < a)) (et_test (ev_op (ev_ixL (i := 0) (ev_var rfl) ev_c (sq_of hp) rfl) ev_c rv_I0)) (fun hb H1 e1 => ?_) (fun hb H1 e1 => ?_)
    · refine s_asg (v := .int (a % many)) (ev_op (ev_int1 (ev_ixL (i := 0) (ev_var rfl) ev_c (sq_of (e1 _ _ hp)) rfl)) (ev_var rfl) (rv_I (by omega))) fun H2 e2 => ?_
      refine (ev_op (ev_ixL (i := 0) (K := K) (ev_var rfl) ev_c (sq_of (e2 _ _ (e1 _ _ hp))) rfl) (ev_var rfl) (rv_I (C := CDiv) (g := fun i j => .int (i / j)) ⟨by omega, by omega⟩) : Ev _ _ _ (.int (a / many))) H2 (Ex.refl _) _ fun H3 e3 => ?_
      refine ⟨_, rfl, p, _, 0, 0, rfl, rfl, e3 _ _ (e2 _ _ (e1 _ _ hp)), rfl, _, rfl, ?_⟩
      exact k1 _ _ (Int.emod_nonneg _ (by omega)) (Int.emod_lt_of_pos _ (by omega)) (But.upd (But.of ((e1.trans e2).trans e3))) ⟨_, _, _, upd_same⟩
    · refine ⟨_, rfl, p, _, 2, _, rfl, rfl, sq_of (e1 _ _ hp), rfl, c, 1, rfl, rfl, p, _, 2, 2, rfl, rfl, e1 _ _ hp, rfl, ?_⟩
      have hp1 : upd H1 p (.lst ([V.int a, .int b, .int c].set 2 (.int (c + 1)))) p = some (.lst [.int a, .int b, .int (c + 1)]) := upd_same
      have b1 : But p H (upd H1 p (.lst ([V.int a, .int b, .int c].set 2 (.int (c + 1))))) := But.upd (But.of e1)
      generalize upd H1 p (.lst ([V.int a, .int b, .int c].set 2 (.int (c + 1)))) = G1 at hp1 b1
      have s1 : (-(2 ^ 64) : Int) < 48271 ∧ (48271 : Int) < 2 ^ 64 := by decide
      have s2 : (-(2 ^ 64) : Int) < 70001 ∧ (70001 : Int) < 2 ^ 64 := by decide
      have s3 : (-(2 ^ 64) : Int) < 16807 ∧ (16807 : Int) < 2 ^ 64 := by decide
      have s4 : (-(2 ^ 64) : Int) < 6301 ∧ (6301 : Int) < 2 ^ 64 := by decide
      refine (ev_op (ev_int1 (ev_op (ev_op (ev_ixL (i := 1) (K := K) (ev_var (i := 0) rfl) ev_c (sq_of hp1) rfl) ev_c (rv_I (C := CMul) (g := fun i j => .int (i * j)) (.inr s1))) (ev_op (ev_ixL (i := 2) (K := K) (ev_var (i := 0) rfl) ev_c (sq_of hp1) rfl) ev_c (rv_I (C := CMul) (g := fun i j => .int (i * j)) (.inr s2))) (rv_I0 (g := fun i j => .int (i + j))))) ev_c (rv_I (C := fun _ j => 0 < j) (g := fun i j => .int (i % j)) (by omega)) : Ev _ _ _ (.int ((b * 48271 + (c + 1) * 70001) % 2147483647))) G1 (Ex.refl _) _ fun H3 e3 => ?_
      generalize (b * 48271 + (c + 1) * 70001) % 2147483647 = b2
      refine ⟨_, rfl, p, _, 1, 1, rfl, rfl, e3 _ _ hp1, rfl, ?_⟩
      have hp2 : upd H3 p (.lst ([V.int a, .int b, .int (c + 1)].set 1 (.int b2))) p = some (.lst [.int a, .int b2, .int (c + 1)]) := upd_same
      have b2' : But p H (upd H3 p (.lst ([V.int a, .int b, .int (c + 1)].set 1 (.int b2)))) := But.upd (b1.trans (But.of e3))
      generalize upd H3 p (.lst ([V.int a, .int b, .int (c + 1)].set 1 (.int b2))) = G2 at hp2 b2'
      refine s_ret (v := .int ((b2 * 16807 + (c + 1) * 6301) % 2147483629 / 8 % many)) (ev_op (ev_op (ev_op (ev_int1 (ev_op (ev_op (ev_ixL (i := 1) (K := K) (ev_var (i := 0) rfl) ev_c (sq_of hp2) rfl) ev_c (rv_I (C := CMul) (g := fun i j => .int (i * j)) (.inr s3))) (ev_op (ev_ixL (i := 2) (K := K) (ev_var (i := 0) rfl) ev_c (sq_of hp2) rfl) ev_c (rv_I (C := CMul) (g := fun i j => .int (i * j)) (.inr s4))) (rv_I0 (g := fun i j => .int (i + j))))) ev_c (rv_I (C := fun _ j => 0 < j) (g := fun i j => .int (i % j)) (by omega))) ev_c (rv_I (C := CDiv) (g := fun i j => .int (i / j)) ⟨by omega, by omega⟩)) (ev_var (i := 1) rfl) (rv_I (C := fun _ j => 0 < j) (g := fun i j => .int (i % j)) (by omega))) fun H4 e4 => ?_
      exact k1 _ _ (Int.emod_nonneg _ (by omega)) (Int.emod_lt_of_pos _ (by omega)) (b2'.trans (But.of e4)) ⟨_, _, _, e4 _ _ hp2⟩
end
end K82
end
section
set_option maxRecDepth 100000
set_option maxHeartbeats 4000000
/-! _law_source. -/
namespace K82
open PySem L2 Evl NdefX LamX
section
variable {P : Program} {w : World} {K : PySem.W.Frag} {mg : Str → Option Value} {base : Heap}
theorem scSource : FnScope ["script", "at", "cell", "size", "small", "one"] ["script", "at"] (defScope sSource) := ⟨rfl, rfl, rfl, by decide +kernel, rfl, by decide +kernel, by decide +kernel⟩
def spSrc (K : PySem.W.Frag) : Sp := fun vs H Q _ => ∃ (s : Addr) (ns : List Int) (at_ : Nat), vs = [.ref s, .int (at_ : Int)] ∧ SqL K H s (ns.map V.int) ∧ ns.length ≤ 1000 ∧ ∀ p H2, H p = none → Ex H H2 → SrcAt H2 p → Q (.ref p) H2
theorem ok_source {f : Addr} {fd : FuncData} (F : Fun K "_law_source" "_law_source" sSource f fd) (T : TxtS mg) : FnOk P w K mg base CX0 1 f fd ["script", "at"] (spSrc K) := by
  refine F.ok scSource (fun vs H Q E h => ?_) (fun cdv A outer s H vs Q E hr h => ?_)
  · obtain ⟨s, ns, at_, rfl, _⟩ := h
    rfl
  · obtain ⟨s, ns, at_, rfl, hs, hl, k1⟩ := h
    refine ⟨_, pss_cons (ps_set (i := 2) scSource.nd rfl (Or.inl rfl) (pe_ifExp (pt_cmpR op_lt (pv 1) (pe_callB call_len_seq (by rfl) T.len (by decide +kernel) (pa_cons (pv 0) pa_nil)) (nomark _)) (pe_callTy call_int1 (by rfl) T.int (by decide +kernel) (pa_cons (pe_ix ix_list (pv 0) (pv 1) (fun _ _ => rfl)) pa_nil)) (pe_op op_add (pe_op op_mul pe_int (pe_callB (cr_sum rfl) (by rfl) T.sum (by decide +kernel) (pa_cons (pe_lc (own := [("one", 5)]) (g := gName 5) (tt := tYes) rfl scSource.nd (pi_list (pe_slice sl_list (pv 0) po_none (po_some pe_int))) (blkOk_by (N := ["script", "at", "cell", "size", "small", "one"]) (sc := (defScope sSource)) (by decide +kernel)) (fun _ _ _ _ _ => pg_name (i := 5) scSource.nd rfl (Or.inl rfl)) (fun _ _ _ _ _ => pts_nil) (fun _ _ _ _ _ => pe_op op_mod (pe_callTy call_int1 (by rfl) T.int (by decide +kernel) (pa_cons (pv 5) pa_nil)) pe_int)) pa_nil))) pe_int)))
        (pss_cons (ps_set (i := 3) scSource.nd rfl (Or.inl rfl) (pe_op op_mod (pe_callB call_abs (by rfl) T.abs (by decide +kernel) (pa_cons (pv 2) pa_nil)) (pe_op op_mulW (pe_op op_pow pe_int pe_int) (pe_op op_pow pe_int pe_int))))
        (pss_cons (ps_set (i := 4) scSource.nd rfl (Or.inl rfl) (pe_op op_mod (pe_callTy call_int1 (by rfl) T.int (by decide +kernel) (pa_cons (pe_op op_add (pe_op op_add (pe_op op_add (pe_op op_mul pe_int (pv 3)) (pe_ifExp (pt_cmpR op_lt (pv 2) pe_int (nomark _)) pe_int pe_int)) (pe_op op_mul (pv 1) pe_int)) pe_int) pa_nil)) pe_int))
        (pss_one (ps_ret (pe_lst (pa_cons (pe_ifExp (pt_cmpR op_ge (pv 3) (pe_op op_pow pe_int pe_int) (nomark _)) (pv 3) pe_int) (pa_cons (pe_op op_mod (pe_callTy call_int1 (by rfl) T.int (by decide +kernel) (pa_cons (pe_op op_mul (pe_op op_add (pv 4) pe_int) (pe_op op_add (pv 4) pe_int)) pa_nil)) pe_int) (pa_cons (pv 1) pa_nil)))))))), ?_⟩
    have hcell : ∃ cell : Int, Ev (tIf (tTest (tOp (rI0 fun i j => V.bl (decide (i < j))) (tVar 1) (tCB (rLenS K) (tCons (tVar 0) tNil)))) (tCB (fun xs H Q => (∃ i, xs = [V.int i] ∧ Q (V.int i) H) ∨ ∃ k, xs = [V.bl k] ∧ Q (V.int (if k = true then 1 else 0)) H) (tCons (tOp (rIxL K) (tVar 0) (tVar 1)) tNil))
        (tOp (rI0 fun i j => V.int (i + j)) (tOp (rI CMul fun i j => V.int (i * j)) (tC (V.int 41)) (tCB (rSum K) (tCons (tLc (iList K (tSl (rSlL K) (tVar 0) tNoPart (tPart (tC (V.int 6))))) (gName 5) tYes (tOp (rI (fun x j => 0 < j) fun i j => V.int (i % j)) (tCB (fun xs H Q => (∃ i, xs = [V.int i] ∧ Q (V.int i) H) ∨ ∃ k, xs = [V.bl k] ∧ Q (V.int (if k = true then 1 else 0)) H) (tCons (tVar 5) tNil)) (tC (V.int 999961))) [5]) tNil))) (tC (V.int 29))))
        [some (.ref s), some (.int (at_ : Int)), none, none, none, none] H (.int cell) := by
      have et : EvT (tTest (tOp (rI0 fun i j => V.bl (decide (i < j))) (tVar 1) (tCB (rLenS K) (tCons (tVar 0) tNil)))) [some (.ref s), some (.int (at_ : Int)), none, none, none, none] H (decide ((at_ : Int) < ((ns.map V.int).length : Int))) := et_test (ev_op (ev_var rfl) (ev_len (ev_var rfl) hs) rv_I0)
      rw [List.length_map] at et
      by_cases h : at_ < ns.length
      · refine ⟨ns[at_], ev_if et (fun _ => ev_int1 (ev_ixL (i := (at_ : Int)) (ev_var rfl) (ev_var rfl) hs (atI_nat (by rw [List.getElem?_map, List.getElem?_eq_getElem h]; rfl)))) fun hb => ?_⟩
        have := of_decide_eq_false hb
        omega
      · obtain ⟨ms, hms, lms⟩ : ∃ ms : List Int, cutV (ns.map V.int) none (some 6) = ms.map V.int ∧ ms.length ≤ ns.length := by
          refine ⟨(ns.drop (HT.sIx (ns.map V.int).length 0 none)).take (HT.sIx (ns.map V.int).length (ns.map V.int).length (some 6) - HT.sIx (ns.map V.int).length 0 none), ?_, ?_⟩
          · unfold cutV
            rw [← List.map_drop, ← List.map_take]
          · rw [List.length_take, List.length_drop]
            omega
        have es : EvL (tSl (rSlL K) (tVar 0) tNoPart (tPart (tC (V.int 6)))) [some (.ref s), some (.int (at_ : Int)), none, none, none, none] H (ms.map V.int) := by
          rw [← hms]
          exact el_sl (ev_var rfl) eo_none (eo_some ev_c) hs
        have el := el_lcNL (t := tYes) (te := tOp (rI (fun x j => 0 < j) fun i j => V.int (i % j)) (tCB (fun xs H Q => (∃ i, xs = [V.int i] ∧ Q (V.int i) H) ∨ ∃ k, xs = [V.bl k] ∧ Q (V.int (if k = true then 1 else 0)) H) (tCons (tVar 5) tNil)) (tC (V.int 999961))) (j := 5) (vs := [5]) (K := K)
          (fun _ => true) (fun i => V.int ((ms.getD i 0) % 999961)) es (by rw [List.length_map]; omega) (fun _ => rfl) (fun i x H1 _ _ => et_yes) (fun i x H1 _ hx _ => by
            rw [List.getElem?_map] at hx
            cases el : ms[i]? with
            | none => rw [el] at hx; cases hx
            | some n =>
              rw [el] at hx
              obtain rfl := Option.some.inj hx
              have eg : ms.getD i 0 = n := by rw [List.getD_eq_getElem?_getD, el] <;> rfl
              rw [eg]
              exact ev_op (ev_int1 (ev_var rfl)) ev_c (rv_I (by decide)))
        rw [List.length_map, given_all] at el
        have em : (List.range ms.length).map (fun i => V.int ((ms.getD i 0) % 999961)) = ((List.range ms.length).map fun i => (ms.getD i 0) % 999961).map V.int := by rw [List.map_map]; rfl
        rw [em] at el
        refine ⟨41 * ((List.range ms.length).map fun i => (ms.getD i 0) % 999961).sum + 29, ev_if et (fun hb => ?_) fun _ => ?_⟩
        · have := of_decide_eq_true hb
          omega
        · exact ev_op (ev_op ev_c (ev_sumL el fun p H1 h1 Q q => ⟨p, _, rfl, sq_of h1, q⟩) (rv_I (C := CMul) (g := fun i j => .int (i * j)) (.inl (by decide)))) ev_c (rv_I0 (g := fun i j => .int (i + j)))
    obtain ⟨cell, hcell⟩ := hcell
    refine q_asg hcell fun H1 e1 => ?_
    have hsz : ∃ size : Int, Ev (tOp (rI (fun x j => 0 < j) fun i j => V.int (i % j)) (tCB (fun xs H Q => ∃ i, xs = [V.int i] ∧ Q (V.int (if i < 0 then -i else i)) H) (tCons (tVar 2) tNil)) (tOp (rI CMulW fun i j => V.int (i * j)) (tOp (rI CPow fun i j => V.int (i ^ j.toNat)) (tC (V.int 10)) (tC (V.int 60))) (tOp (rI CPow fun i j => V.int (i ^ j.toNat)) (tC (V.int 10)) (tC (V.int 60))))) [some (.ref s), some (.int (at_ : Int)), some (.int cell), none, none, none] H1 (.int size) :=
      ⟨_, ev_op (ev_cb (ea_cons (ev_var rfl) ea_nil) fun H1 e1 Q q => ⟨cell, rfl, q _ (Ex.refl _)⟩) (ev_op (ev_op ev_c ev_c (rv_I (C := CPow) (g := fun i j => .int (i ^ j.toNat)) ⟨by decide, by decide, by decide⟩)) (ev_op ev_c ev_c (rv_I (C := CPow) (g := fun i j => .int (i ^ j.toNat)) ⟨by decide, by decide, by decide⟩)) (rv_I (C := CMulW) (g := fun i j => .int (i * j)) (show Int.natAbs (10 ^ Int.toNat 60) |>.log2 |> (· + (Int.natAbs (10 ^ Int.toNat 60)).log2 < 1000000) from by decide +kernel))) (rv_I (C := fun _ j => 0 < j) (g := fun i j => .int (i % j)) (by decide +kernel))⟩
    obtain ⟨size, hsz⟩ := hsz
    refine q_asg hsz fun H2 e2 => ?_
    have et2 : EvT (tTest (tOp (rI0 fun i j => V.bl (decide (i < j))) (tVar 2) (tC (V.int 0)))) [some (.ref s), some (.int (at_ : Int)), some (.int cell), some (.int size), none, none] H2 (decide (cell < 0)) := et_test (ev_op (ev_var rfl) ev_c rv_I0)
    have hsm : ∃ small : Int, 0 ≤ small ∧ small < 2147483629 ∧ Ev (tOp (rI (fun x j => 0 < j) fun i j => V.int (i % j)) (tCB (fun xs H Q => (∃ i, xs = [V.int i] ∧ Q (V.int i) H) ∨ ∃ k, xs = [V.bl k] ∧ Q (V.int (if k = true then 1 else 0)) H) (tCons (tOp (rI0 fun i j => V.int (i + j)) (tOp (rI0 fun i j => V.int (i + j)) (tOp (rI0 fun i j => V.int (i + j)) (tOp (rI CMul fun i j => V.int (i * j)) (tC (V.int 2)) (tVar 3)) (tIf (tTest (tOp (rI0 fun i j => V.bl (decide (i < j))) (tVar 2) (tC (V.int 0)))) (tC (V.int 1)) (tC (V.int 0)))) (tOp (rI CMul fun i j => V.int (i * j)) (tVar 1) (tC (V.int 120011)))) (tC (V.int 70019))) tNil)) (tC (V.int 2147483629))) [some (.ref s), some (.int (at_ : Int)), some (.int cell), some (.int size), none, none] H2 (.int small) := by
      refine ⟨(2 * size + (if cell < 0 then 1 else 0) + (at_ : Int) * 120011 + 70019) % 2147483629, Int.emod_nonneg _ (by decide), Int.emod_lt_of_pos _ (by decide), ?_⟩
      refine ev_op (ev_int1 (ev_op (ev_op (ev_op (ev_op ev_c (ev_var (i := 3) rfl) (rv_I (C := CMul) (g := fun i j => .int (i * j)) (.inl (by decide)))) (ev_if et2 (fun hb => ?_) fun hb => ?_) (rv_I0 (g := fun i j => .int (i + j)))) (ev_op (ev_var (i := 1) rfl) ev_c (rv_I (C := CMul) (g := fun i j => .int (i * j)) (.inr (by decide)))) (rv_I0 (g := fun i j => .int (i + j)))) ev_c (rv_I0 (g := fun i j => .int (i + j))))) ev_c (rv_I (C := fun _ j => 0 < j) (g := fun i j => .int (i % j)) (by decide))
      · rw [if_pos (of_decide_eq_true hb)]
        exact ev_c
      · rw [if_neg (of_decide_eq_false hb)]
        exact ev_c
    obtain ⟨small, sm0, sm1, hsm⟩ := hsm
    refine q_asg hsm fun H3 e3 => ?_
    have kk : ∀ p H4, H3 p = none → Ex H3 H4 → H4 p = some (.lst [.int (if 10 ^ 18 ≤ size then size else 0), .int ((small + 6101) * (small + 90011) % 2147483629), .int (at_ : Int)]) → Q (.ref p) H4 := fun p H4 hp e4 h4 => k1 p H4 (fresh_back ((e1.trans e2).trans e3) hp) (((e1.trans e2).trans e3).trans e4) ⟨_, _, _, h4⟩
    refine s_retL (xs := [.int (if 10 ^ 18 ≤ size then size else 0), .int ((small + 6101) * (small + 90011) % 2147483629), .int (at_ : Int)]) (el_lst (ea_cons ?_ (ea_cons ?_ (ea_cons (ev_var (i := 1) rfl) ea_nil))) (by show 3 ≤ 100000; decide)) kk
    · refine ev_if (b := decide ((10 : Int) ^ 18 ≤ size)) (et_test (ev_op (ev_var (i := 3) rfl) (ev_op ev_c ev_c (rv_I (C := CPow) (g := fun i j => .int (i ^ j.toNat)) ⟨by decide, by decide, by decide⟩)) rv_I0)) (fun hb => ?_) fun hb => ?_
      · rw [if_pos (of_decide_eq_true hb)]
        exact ev_var rfl
      · rw [if_neg (of_decide_eq_false hb)]
        exact ev_c
    · exact ev_op (ev_int1 (ev_op (ev_op (ev_var (i := 4) rfl) ev_c (rv_I0 (g := fun i j => .int (i + j)))) (ev_op (ev_var (i := 4) rfl) ev_c (rv_I0 (g := fun i j => .int (i + j)))) (rv_I (C := CMul) (g := fun i j => .int (i * j)) (.inl (by omega))))) ev_c (rv_I (C := fun _ j => 0 < j) (g := fun i j => .int (i % j)) (by decide))
end
end K82
end
section
set_option maxRecDepth 100000
set_option maxHeartbeats 4000000
/-! what a made course is. -/
namespace K82
open PySem L2 Evl NdefX LamX
def allNames : List Str := ["ab", "lib", "zy9"]
def putN (a : Num) (k : Str) (n : Int) : Num := if k ∈ names a then a.map (fun p => if p.1 = k then (p.1, n) else p) else a ++ [(k, n)]
theorem kv_putN (a : Num) (k : Str) (n : Int) : putK (kv a) (Sum.inr k) (V.int n) = kv (putN a k n) := by
  unfold putN
  by_cases h : k ∈ names a
  · rw [if_pos h]
    unfold putK
    have e : ((kv a).any fun kv => decide (kv.1 = Sum.inr k)) = true := by
      rw [List.any_eq_true]
      obtain ⟨p, hp, rfl⟩ := List.mem_map.mp h
      exact ⟨_, List.mem_map.mpr ⟨p, hp, rfl⟩, by simp⟩
    rw [if_pos e]
    unfold kv
    rw [List.map_map, List.map_map]
    refine List.map_congr_left fun p _ => ?_
    show (if (Sum.inr p.1 : Key) = Sum.inr k then _ else _) = _
    by_cases e2 : p.1 = k
    · rw [if_pos (by rw [e2])]
      show _ = (Sum.inr (if p.1 = k then (p.1, n) else p).1, V.int (if p.1 = k then (p.1, n) else p).2)
      rw [if_pos e2]
    · rw [if_neg (fun z => e2 (Sum.inr.inj z))]
      show _ = (Sum.inr (if p.1 = k then (p.1, n) else p).1, V.int (if p.1 = k then (p.1, n) else p).2)
      rw [if_neg e2]
  · rw [if_neg h]
    exact kv_put h
theorem names_putN (a : Num) (k : Str) (n : Int) : names (putN a k n) = if k ∈ names a then names a else names a ++ [k] := by
  unfold putN
  by_cases h : k ∈ names a
  · rw [if_pos h, if_pos h]
    unfold names
    rw [List.map_map]
    refine List.map_congr_left fun p _ => ?_
    show (if p.1 = k then (p.1, n) else p).1 = p.1
    split <;> rfl
  · rw [if_neg h, if_neg h]
    unfold names
    rw [List.map_append]
    rfl
theorem lookup_map (k : Str) (n : Int) (q : Str) : ∀ a : Num, (a.map fun p => if p.1 = k then (p.1, n) else p).lookup q = if q = k ∧ k ∈ names a then some n else a.lookup q
  | [] => by simp [names]
  | (x, z) :: r => by
    have ih := lookup_map k n q r
    by_cases h1 : x = k
    · subst h1
      simp only [List.map_cons, if_pos, List.lookup]
      by_cases h2 : q = x
      · subst h2
        simp [names]
      · have h3 : (q == x) = false := by simpa using h2
        simp only [h3, ih]
        simp [h2]
    · simp only [List.map_cons, if_neg h1, List.lookup]
      by_cases h2 : q = x
      · subst h2
        simp [h1]
      · have h3 : (q == x) = false := by simpa using h2
        simp only [h3, ih]
        by_cases h4 : q = k
        · subst h4
          by_cases h5 : q ∈ names r
          · rw [if_pos ⟨rfl, h5⟩, if_pos ⟨rfl, List.mem_cons_of_mem _ h5⟩]
          · rw [if_neg (fun y => h5 y.2), if_neg (fun y => h5 ((List.mem_cons.mp y.2).resolve_left h2))]
        · rw [if_neg (fun y => h4 y.1), if_neg (fun y => h4 y.1)]
theorem lookup_app (k : Str) (n : Int) (q : Str) : ∀ a : Num, k ∉ names a → (a ++ [(k, n)]).lookup q = if q = k then some n else a.lookup q
  | [], _ => by
    by_cases h : q = k
    · subst h; simp [List.lookup]
    · have h3 : (q == k) = false := by simpa using h
      simp [List.lookup, h3, h]
  | (x, z) :: r, hk => by
    have ih := lookup_app k n q r fun m => hk (List.mem_cons_of_mem _ m)
    have hx : k ≠ x := fun e => hk (by rw [e]; exact List.mem_cons_self)
    simp only [List.cons_append, List.lookup]
    by_cases h2 : q = x
    · subst h2
      have h4 : ¬ q = k := fun e => hx e.symm
      simp [h4]
    · have h3 : (q == x) = false := by simpa using h2
      simp only [h3, ih]
theorem val_putN (a : Num) (k : Str) (n : Int) (q : Str) : val (putN a k n) q = if q = k then n else val a q := by
  unfold val putN
  by_cases h : k ∈ names a
  · rw [if_pos h, lookup_map]
    by_cases h2 : q = k
    · rw [if_pos ⟨h2, h⟩, if_pos h2]; rfl
    · rw [if_neg (fun z => h2 z.1), if_neg h2]
  · rw [if_neg h, lookup_app k n q a h]
    by_cases h2 : q = k
    · rw [if_pos h2, if_pos h2]; rfl
    · rw [if_neg h2, if_neg h2]
structure GoodNum (a : Num) (b : Int) : Prop where
  nd : (names a).Nodup
  sub : ∀ k ∈ names a, k ∈ allNames
  lo : ∀ k, 0 ≤ val a k
  hi : ∀ k, val a k ≤ b
theorem GoodNum.mono {a : Num} {b c : Int} (h : GoodNum a b) (l : b ≤ c) : GoodNum a c := ⟨h.nd, h.sub, h.lo, fun k => Int.le_trans (h.hi k) l⟩
theorem GoodNum.len {a : Num} {b : Int} (h : GoodNum a b) : a.length ≤ 3 := by
  have z := h.nd.length_le_of_subset (fun k hk => h.sub k hk)
  unfold names at z
  rw [List.length_map] at z
  exact z
theorem GoodNum.ok {a : Num} {b : Int} (h : GoodNum a b) : NumOk a := ⟨h.nd, by have := h.len; omega⟩
theorem GoodNum.pos {a : Num} {b : Int} (h : GoodNum a b) : ∀ p ∈ a, 0 ≤ p.2 := fun p hp => by
  rw [← val_mem h.nd hp]
  exact h.lo _
theorem good_nil {b : Int} (h : 0 ≤ b) : GoodNum [] b := ⟨List.nodup_nil, fun k z => (by cases z), fun k => Int.le_refl _, fun k => h⟩
theorem good_put {a : Num} {b n : Int} {k : Str} (h : GoodNum a b) (hk : k ∈ allNames) (h0 : 0 ≤ n) (h1 : n ≤ b) : GoodNum (putN a k n) b := by
  refine ⟨?_, fun q hq => ?_, fun q => ?_, fun q => ?_⟩
  · rw [names_putN]
    split
    · exact h.nd
    · rename_i z
      exact List.nodup_append.mpr ⟨h.nd, List.nodup_cons.mpr ⟨fun m => (by cases m), List.nodup_nil⟩, fun x hx y hy e => z (by rw [← List.mem_singleton.mp hy, ← e]; exact hx)⟩
  · rw [names_putN] at hq
    split at hq
    · exact h.sub q hq
    · rcases List.mem_append.mp hq with z | z
      · exact h.sub q z
      · rw [List.mem_singleton.mp z]; exact hk
  · rw [val_putN]
    split
    · exact h0
    · exact h.lo q
  · rw [val_putN]
    split
    · exact h1
    · exact h.hi q
theorem good_bare {a : Num} {b : Int} (h : GoodNum a b) : GoodNum (bareOf a) b := by
  refine ⟨bare_nodup h.nd, fun k hk => ?_, fun k => ?_, fun k => ?_⟩
  · rw [bare_names] at hk
    exact h.sub k ((sortK_perm _).mem_iff.mp (List.mem_filter.mp hk).1)
  · rw [val_bare h.nd]; exact h.lo k
  · rw [val_bare h.nd]; exact h.hi k
theorem under_iff {a b : Num} (nd : (names a).Nodup) (h : ∀ k, val a k ≤ val b k) : under a b = true := by
  unfold under
  rw [List.all_eq_true]
  intro p hp
  have z := h p.1
  rw [val_mem nd hp] at z
  exact decide_eq_true z
/-- the heard numbers behind a course -/
def lastH : Num → List Row → Num
  | b, [] => b
  | b, r :: rs => lastH (heardBy r b) rs
theorem last_app : ∀ (C D : List Row) (b : Num), lastH b (C ++ D) = lastH (lastH b C) D
  | [], _, _ => rfl
  | r :: rs, D, b => last_app rs D (heardBy r b)
theorem check_app : ∀ (C D : List Row) (b : Num), checkFrom b C = none → checkFrom b (C ++ D) = checkFrom (lastH b C) D
  | [], _, _, _ => rfl
  | r :: rs, D, b, h => by
    show (match rowWord r b with | some m => some m | none => checkFrom (heardBy r b) (rs ++ D)) = checkFrom (lastH (heardBy r b) rs) D
    have h : (match rowWord r b with | some m => some m | none => checkFrom (heardBy r b) rs) = none := h
    cases e : rowWord r b with
    | some m => rw [e] at h; cases h
    | none =>
      rw [e] at h
      exact check_app rs D (heardBy r b) h
/-- a made course: its rows are good, it is accepted -/
structure GoodC (C : List Row) : Prop where
  rows : ∀ r ∈ C, GoodNum r.2 1000
  ok : checkFrom [] C = none
  len : C.length ≤ 8
theorem GoodC.rowsOk {C : List Row} (h : GoodC C) : RowsOk C := ⟨fun r hr => (h.rows r hr).ok, by have := h.len; omega⟩
theorem GoodC.nonNeg {C : List Row} (h : GoodC C) : NonNeg C := fun r hr => (h.rows r hr).pos
end K82
end
section
set_option maxRecDepth 100000
set_option maxHeartbeats 4000000
/-! _law_course. -/
namespace K82
open PySem L2 Evl NdefX LamX
def spMade : Sp := fun vs H Q _ => ∃ (p nl : Addr) (nms : List Str), vs = [.ref p, .ref nl] ∧ p ≠ nl ∧ SrcAt H p ∧ H nl = some (.lst (nms.map V.str)) ∧ nms.length ≤ 3 ∧ (∀ k ∈ nms, k ∈ allNames) ∧
  ∀ (c : Addr) (C : List Row) (H2 : Hp), H c = none → But p H H2 → SrcAt H2 p → CourseAt H2 c C → GoodC C → Q (.ref c) H2
theorem bare_nil : bareOf [] = [] := List.eq_nil_of_length_eq_zero (Nat.le_zero.mp (bare_len []))
def CInv (p nl : Addr) (nms : List Str) (H : Hp) (cp : Addr) (i : Nat) (σ : L2.St) (H' : Hp) : Prop :=
  ∃ (h : Addr) (a : Num) (ts : List Addr) (C : List Row) (v1 v2 v3 : Option V), σ = [some (.ref p), some (.ref nl), some (.ref cp), some (.ref h), v1, v2, v3] ∧ But p H H' ∧ SrcAt H' p ∧ H' h = some (.dK (kv a)) ∧ GoodNum a (6 * (i : Int)) ∧ (i ≠ 0 → ∀ k ∈ nms, k ∈ names a) ∧
    H' cp = some (.lst (ts.map V.ref)) ∧ Paired (RowAt H') ts C ∧ (∀ r ∈ C, GoodNum r.2 1000) ∧ checkFrom [] C = none ∧ lastH [] C = bareOf a ∧ C.length = i
theorem row_hear {b s : Num} (h : under b s = true) : rowWord ("hear", s) b = none := by
  unfold rowWord
  rw [if_neg (fun z => z (.inl rfl)), if_neg (fun z => by rw [h] at z; cases z.2), if_neg (fun z => absurd z.1 (show ¬ ("hear" : Str) = "tell" by decide +kernel))]
theorem row_tell {b s : Num} (h : under s b = true) : rowWord ("tell", s) b = none := by
  unfold rowWord
  rw [if_neg (fun z => z (.inr rfl)), if_neg (fun z => absurd z.1 (show ¬ ("tell" : Str) = "hear" by decide +kernel)), if_neg (fun z => by rw [h] at z; cases z.2)]
theorem check_snoc {C : List Row} {r : Row} (h : checkFrom [] C = none) (hr : rowWord r (lastH [] C) = none) : checkFrom [] (C ++ [r]) = none := by
  rw [check_app C [r] [] h]
  show (match rowWord r (lastH [] C) with | some m => some m | none => checkFrom (heardBy r (lastH [] C)) []) = none
  rw [hr]
  rfl
theorem src_upd {H : Hp} {p q : Addr} {o : HO} (s : SrcAt H p) (n : H q = none) : SrcAt (upd H q o) p := by
  obtain ⟨a, b, c, h⟩ := s
  exact ⟨a, b, c, (upd_ne (ne_of_none h n)).trans h⟩
theorem src_upd' {H : Hp} {p q : Addr} {o : HO} (s : SrcAt H p) (n : p ≠ q) : SrcAt (upd H q o) p := by
  obtain ⟨a, b, c, h⟩ := s
  exact ⟨a, b, c, (upd_ne n).trans h⟩
theorem src_ex {H H' : Hp} {p : Addr} (s : SrcAt H p) (e : Ex H H') : SrcAt H' p := by
  obtain ⟨a, b, c, h⟩ := s
  exact ⟨a, b, c, e _ _ h⟩
theorem src_ne {H : Hp} {p q : Addr} {o : HO} (s : SrcAt H p) (h : H q = some o) (n : ∀ xs, o ≠ .lst xs) : q ≠ p := fun z => by
  obtain ⟨a, b, c, h2⟩ := s
  rw [z, h2] at h
  exact n _ (Option.some.inj h).symm
structure TxtM (K : PySem.W.Frag) (mg : Str → Option Value) (fP fB : Addr) : Prop where
  range : mg "range" = none
  dct : mg "dict" = none
  mP : mg "_law_pick" = some (.ref fP)
  kP : PySem.W.keepIn K (.ref fP) = true
  mB : mg "_law_bare" = some (.ref fB)
  kB : PySem.W.keepIn K (.ref fB) = true
theorem s_ifOr {t u : TT} {T U : TS} {D : Ends} {σ : L2.St} {H : Hp} {b : Bool} (G B : Hp → Prop) (h : EvT t σ H b) (hg : b = true → ∀ H1, Ex H H1 → G H1) (h2 : b = false → ∀ H1, Ex H H1 → ∀ Q : Bool → Hp → Prop, (∀ H2, G H2 → Q true H2) → (∀ H2, B H2 → Q false H2) → u σ H1 Q)
    (hT : ∀ H1, G H1 → T D σ H1) (hU : ∀ H1, B H1 → U D σ H1) : tIfS (tOr t u) T U D σ H := h H (Ex.refl H) _ fun H1 e => by
  cases b with
  | true => exact iteT (iteT (hT H1 (hg rfl H1 e)))
  | false => exact iteF (h2 rfl H1 e _ (fun H2 g => iteT (hT H2 g)) fun H2 g => iteF (hU H2 g))
section
variable {P : Program} {w : World} {K : PySem.W.Frag} {mg : Str → Option Value} {base : Heap}
theorem scMade : FnScope ["source", "names", "course", "heard", "turn", "name", "least"] ["source", "names"] (defScope sLCourse) := ⟨rfl, rfl, rfl, by decide +kernel, rfl, by decide +kernel, by decide +kernel⟩
theorem ok_made {f fP fB : Addr} {fd fdP fdB : FuncData} (F : Fun K "_law_course" "_law_course" sLCourse f fd) (T : TxtM K mg fP fB) (GP : FnOk P w K mg base CX0 1 fP fdP ["source", "many"] spPick) (bP : Binds K fdP ["source", "many"] []) (GB : FnOk P w K mg base CX0 1 fB fdB ["numbers"] spBare) (bB : Binds K fdB ["numbers"] []) :
    FnOk P w K mg base CX0 2 f fd ["source", "names"] spMade := by
  refine F.ok scMade (fun vs H Q E h => ?_) (fun cdv A outer s H vs Q E hr h => ?_)
  · obtain ⟨p, nl, nms, rfl, _⟩ := h
    rfl
  · obtain ⟨p, nl, nms, rfl, npl, hsrc, hnl, hnms, hall, k1⟩ := h
    have hu := hu_of hr
    refine ⟨_, pss_cons (ps_set (i := 2) scMade.nd rfl (Or.inl rfl) (pe_lst pa_nil))
        (pss_cons (ps_set (i := 3) scMade.nd rfl (Or.inl rfl) pe_dnewK)
        (pss_cons (ps_for PassesOwn.never rfl (pi_range1 rfl T.range (pa_cons (pe_op op_add pe_int (pe_call GP hr rfl T.mP T.kP bP .nil pass0 (pa_cons (pv 0) (pa_cons pe_int pa_nil)))) pa_nil)) (pg_name (i := 4) scMade.nd rfl (Or.inl rfl))
        (pss_one (ps_if (PW.pt (pw_or (pt_cmpR op_eq (pv 4) pe_int (nomark _)) (pw_or1 (pt_cmpR op_eq (pe_call GP hr rfl T.mP T.kP bP .nil pass0 (pa_cons (pv 0) (pa_cons pe_int pa_nil))) pe_int (nomark _)))))
        (pss_cons (ps_set (i := 3) scMade.nd rfl (Or.inl rfl) (pe_callTy call_dictD (by rfl) T.dct (by decide +kernel) (pa_cons (pv 3) pa_nil)))
        (pss_cons (ps_for PassesOwn.never rfl (pi_list (pv 1)) (pg_name (i := 5) scMade.nd rfl (Or.inl rfl))
        (pss_one (ps_dput hu (pv 3) (pv 5) (pe_op op_add (pe_dget2 hu (pv 3) (pv 5) pe_int ⟨rfl, rfl, rfl, rfl⟩) (pe_ix ix_list (pe_lst (pa_cons pe_int (pa_cons pe_int (pa_cons pe_int (pa_cons pe_int pa_nil))))) (pe_call GP hr rfl T.mP T.kP bP .nil pass0 (pa_cons (pv 0) (pa_cons pe_int pa_nil))) (fun _ _ => rfl))) rfl)))
        (pss_one (ps_expr (pe_bm PySem.F.plainAttrs_list PySem.F.slot_list_append PySem.F.type_list_append mt_append (pv 2) (pa_cons (pe_tup (pa_cons pe_str (pa_cons (pe_callTy call_dictD (by rfl) T.dct (by decide +kernel) (pa_cons (pv 3) pa_nil)) pa_nil))) pa_nil))))))
        (pss_cons (ps_set (i := 6) scMade.nd rfl (Or.inl rfl) pe_dnewK)
        (pss_cons (ps_for PassesOwn.never rfl (pi_list (pv 1)) (pg_name (i := 5) scMade.nd rfl (Or.inl rfl))
        (pss_one (ps_dput hu (pv 6) (pv 5) (pe_ix ix_list (pe_lst (pa_cons (pe_dget hu (pv 3) (pv 5) (fun _ _ => rfl)) (pa_cons (pe_call GP hr rfl T.mP T.kP bP .nil pass0 (pa_cons (pv 0) (pa_cons (pe_op op_add (pe_dget hu (pv 3) (pv 5) (fun _ _ => rfl)) pe_int) pa_nil))) (pa_cons pe_int pa_nil)))) (pe_call GP hr rfl T.mP T.kP bP .nil pass0 (pa_cons (pv 0) (pa_cons pe_int pa_nil))) (fun _ _ => rfl)) rfl)))
        (pss_one (ps_expr (pe_bm PySem.F.plainAttrs_list PySem.F.slot_list_append PySem.F.type_list_append mt_append (pv 2) (pa_cons (pe_tup (pa_cons pe_str (pa_cons (pe_ifExp (pt_cmpR op_eq (pe_call GP hr rfl T.mP T.kP bP .nil pass0 (pa_cons (pv 0) (pa_cons pe_int pa_nil))) pe_int (nomark _)) (pv 6) (pe_call GB hr rfl T.mB T.kB bB .nil pass0 (pa_cons (pv 6) pa_nil))) pa_nil))) pa_nil)))))))))
        (pss_one (ps_ret (pv 2))))), ?_⟩
    refine ⟨Nat.zero_le _, fun cp hcp => ?_⟩
    intro h0 hh0
    have e0 : Ex H (upd (upd H cp (.lst [])) h0 (.dK [])) := (Ex.new hcp).trans (Ex.new hh0)
    have nch : cp ≠ h0 := ne_of_none upd_same hh0
    have ncp : ∀ {x : Addr} {o : HO}, H x = some o → x ≠ cp := fun q => ne_of_none q hcp
    have ncpp : p ≠ cp := by obtain ⟨_, _, _, q⟩ := hsrc; exact ncp q
    refine ⟨_, rfl, p, 8, rfl, src_ex hsrc e0, by decide, by decide, fun r H1 hr0 hr1 b1 s1 => ⟨1, r, rfl, rfl, 1 + r, rfl, by omega, by omega, ?_⟩⟩
    refine for_range (lo := 0) (n := (1 + r).toNat) (CInv p nl nms H cp) ?_ (fun i σ H' hi hP => ?_) (fun σ H' hP => ?_)
    · refine ⟨h0, [], [], [], none, none, none, rfl, (But.of e0).trans b1, s1, b1 _ _ (src_ne (src_ex hsrc e0) upd_same (fun xs z => by cases z)) upd_same, good_nil (by omega), fun z => absurd rfl z, b1 _ _ ncpp.symm ((upd_ne nch).trans upd_same), .nil, fun r hr => (by cases hr), rfl, bare_nil.symm, rfl⟩
    · obtain ⟨h, a, ts, C, v1, v2, v3, rfl, bH, sH, hh, ga, hna, hc, hts, hrows, hck, hlast, hlen⟩ := hP
      have hi8 : i < 8 := by omega
      have e1 : (0 : Int) + (i : Int) = (i : Int) := Int.zero_add _
      rw [e1]
      refine s_ifOr (b := decide (i = 0)) (fun H1 => But p H' H1 ∧ SrcAt H1 p) (fun H1 => (But p H' H1 ∧ SrcAt H1 p) ∧ i ≠ 0) ?_ (fun _ H1 e => ⟨But.of e, src_ex sH e⟩) ?_ ?_ ?_
      · refine et_is (et_test (ev_op (ev_var (i := 4) rfl) ev_c (rv_eq rfl))) ?_
        rw [dec_int]
        by_cases z : i = 0
        · rw [z]; rfl
        · rw [decide_eq_false z]
          have : ¬ (i : Int) = 0 := by omega
          simp [z]
      · intro hz H1 e1 Q2 q1 q2
        have hz := of_decide_eq_false hz
        refine ⟨_, rfl, p, 2, rfl, src_ex sH e1, by decide, by decide, fun r2 H2 _ _ b2 s2 => ⟨rfl, _, rfl, ?_⟩⟩
        have bb : But p H' H2 := (But.of e1).trans b2
        by_cases h2 : V.int r2 = V.int 0
        · rw [decide_eq_true h2]
          exact q1 H2 ⟨bb, s2⟩
        · rw [decide_eq_false h2]
          exact q2 H2 ⟨⟨bb, s2⟩, hz⟩
      · rintro H1 ⟨b1, s1⟩
        have hh1 := b1 _ _ (src_ne sH hh (fun xs z => by cases z)) hh
        have hc1 := b1 _ _ ncpp.symm hc
        have hts1 : Paired (RowAt H1) ts C := paired_mono hts fun t r ⟨d, a1, a2⟩ => ⟨d, b1 _ _ (src_ne sH a1 (fun xs z => by cases z)) a1, b1 _ _ (src_ne sH a2 (fun xs z => by cases z)) a2⟩
        have hnl1 := b1 _ _ npl.symm (bH _ _ npl.symm hnl)
        refine ⟨_, rfl, h, kv a, rfl, .inl hh1, fun hd hhd => ?_⟩
        have npd : p ≠ hd := by obtain ⟨_, _, _, q⟩ := s1; exact ne_of_none q hhd
        have bt : ∀ {H' : Hp}, (∀ x o, x ≠ p → x ≠ hd → H1 x = some o → H' x = some o) → ∀ {x : Addr} {o : HO}, H1 x = some o → x ≠ p → H' x = some o := @fun H' k x o q n => k x o n (ne_of_none q hhd) q
        refine q_forLn (ev_var rfl) (sq_of ((upd_ne (ne_of_none hnl1 hhd)).trans hnl1))
          (fun j σ' H' => ∃ (b : Num) (v5 : Option V), σ' = [some (.ref p), some (.ref nl), some (.ref cp), some (.ref hd), some (.int (i : Int)), v5, v3] ∧ (∀ x o, x ≠ p → x ≠ hd → H1 x = some o → H' x = some o) ∧ SrcAt H' p ∧ H' hd = some (.dK (kv b)) ∧ GoodNum b (6 * (i : Int) + 2 * (j : Int)) ∧ (∀ k, val a k ≤ val b k) ∧ (∀ k ∈ names a, k ∈ names b) ∧ (∀ k ∈ nms.take j, k ∈ names b))
          (fun H2 e2 => ⟨a, v2, rfl, fun x o n1 n2 q => e2 _ _ ((upd_ne n2).trans q), src_ex (src_upd' s1 npd) e2, e2 _ _ upd_same, ga.mono (by omega), fun k => Int.le_refl _, fun k hk => hk, fun k hk => (by simp at hk)⟩) ?_ ?_ ?_
        · rintro j σ' H2 hj ⟨b, v5, rfl, kk, sH2, hb, gb, hab, hn, hn2⟩
          exact sq_of (bt kk hnl1 npl.symm)
        · rintro j x σ' H2 hx ⟨b, v5, rfl, kk, sH2, hb, gb, hab, hn, hn2⟩
          obtain ⟨k, hkj, rfl⟩ : ∃ k, nms[j]? = some k ∧ V.str k = x := by
            rw [List.getElem?_map] at hx
            cases et : nms[j]? with
            | none => rw [et] at hx; cases hx
            | some t => rw [et] at hx; exact ⟨t, rfl, Option.some.inj hx⟩
          have hka : k ∈ allNames := hall k (List.mem_of_getElem? hkj)
          unfold sDPut tOp
          refine (ev_dget2 (σ := [some (.ref p), some (.ref nl), some (.ref cp), some (.ref hd), some (.int (i : Int)), some (.str k), v3]) (a := b) (p := k) (ev_var (i := 3) rfl) (ev_var (i := 5) rfl) ev_c (.inl hb)) H2 (Ex.refl _) _ fun H3 e3 => ?_
          refine ⟨by show 4 ≤ sizeLine; decide, fun lf hlf => ?_⟩
          have s3 : SrcAt (upd H3 lf (.lst [.int 0, .int 1, .int 0, .int 2])) p := src_upd (src_ex sH2 e3) hlf
          refine ⟨_, rfl, p, 4, rfl, s3, by decide, by decide, fun r4 H4 r40 r44 b4 s4 => ?_⟩
          have nlp : lf ≠ p := fun z => by obtain ⟨_, _, _, q⟩ := src_ex sH2 e3; rw [← z, hlf] at q; cases q
          have hl4 : H4 lf = some (.lst [.int 0, .int 1, .int 0, .int 2]) := b4 _ _ nlp upd_same
          obtain ⟨w4, ha4, w40, w42⟩ : ∃ w4 : Int, atI [V.int 0, .int 1, .int 0, .int 2] r4 = some (.int w4) ∧ 0 ≤ w4 ∧ w4 ≤ 2 := by
            have z : r4 = 0 ∨ r4 = 1 ∨ r4 = 2 ∨ r4 = 3 := by omega
            rcases z with z | z | z | z <;> rw [z]
            · exact ⟨0, rfl, by decide, by decide⟩
            · exact ⟨1, rfl, by decide, by decide⟩
            · exact ⟨0, rfl, by decide, by decide⟩
            · exact ⟨2, rfl, by decide, by decide⟩
          have nhp : hd ≠ p := npd.symm
          have hd3 : H3 hd = some (.dK (kv b)) := e3 _ _ hb
          have hd4 : H4 hd = some (.dK (kv b)) := b4 _ _ nhp ((upd_ne (ne_of_none hd3 hlf)).trans hd3)
          refine ⟨lf, _, r4, _, rfl, rfl, sq_of hl4, ha4, val b k, w4, rfl, rfl, _, rfl, _, rfl, hd, _, rfl, DPut.k (k := Sum.inr k) hd4 (sz_lt (by rw [kv_len]; have := gb.len; omega)), ?_⟩
          have hlo := gb.lo k
          have hhi := gb.hi k
          refine ⟨putN b k (val b k + w4), _, rfl, fun x o n1 n2 q => (upd_ne n2).trans (b4 _ _ n1 ?_), src_upd' s4 npd, by rw [upd_same, kv_putN], good_put (gb.mono (by omega)) hka (by omega) (by omega), fun q => ?_, fun q hq => ?_, fun q hq => ?_⟩
          · have z := e3 _ _ (kk x o n1 n2 q)
            exact (upd_ne (ne_of_none z hlf)).trans z
          · have := hab q
            rw [val_putN]
            split
            · rename_i z; rw [z] at this ⊢; omega
            · exact this
          · rw [names_putN]
            have := hn q hq
            split
            · exact this
            · exact List.mem_append_left _ this
          · rw [List.take_add_one, hkj] at hq
            rw [names_putN]
            rcases List.mem_append.mp hq with z | z
            · have := hn2 q z
              split
              · exact this
              · exact List.mem_append_left _ this
            · have z : q = k := by simpa using z
              rw [z]
              split
              · assumption
              · exact List.mem_append_right _ List.mem_cons_self
        · rintro σ' H2 ⟨b, v5, rfl, kk, sH2, hb, gb, hab, hn, hn2⟩
          rw [List.length_map] at gb hn2
          rw [List.take_length] at hn2
          have hcp2 : H2 cp = some (.lst (ts.map V.ref)) := bt kk hc1 ncpp.symm
          refine ⟨_, rfl, Or.inl ⟨rfl, _, sq_of hcp2⟩, _, rfl, hd, kv b, rfl, .inl hb, fun d2 hd2 => ⟨by show 2 ≤ sizeLine; decide, fun t hnt => ?_⟩⟩
          have e2 := (Ex.new (o := .dK (kv b)) hd2).trans (Ex.new (o := .tup [.str "hear", .ref d2]) hnt)
          refine ⟨cp, _, _, rfl, rfl, e2 _ _ hcp2, sz_lt (by rw [List.length_map]; have := paired_len hts; omega), ?_⟩
          have ndt : d2 ≠ t := ne_of_none upd_same hnt
          have ok2 : ∀ {x : Addr} {o : HO}, H2 x = some o → x ≠ cp → upd (upd (upd H2 d2 (.dK (kv b))) t (.tup [.str "hear", .ref d2])) cp (.lst (ts.map V.ref ++ [.ref t])) x = some o := fun q n => (upd_ne n).trans (e2 _ _ q)
          have ntc : t ≠ cp := fun z => by rw [← z] at hcp2; have := (upd_none hnt); rw [hcp2] at this; cases this
          have ndc : d2 ≠ cp := fun z => by rw [← z] at hcp2; rw [hcp2] at hd2; cases hd2
          have kept1 : ∀ {x : Addr} {o : HO}, H1 x = some o → x ≠ p → x ≠ cp → _ := fun {x o} q n1 n2 => ok2 (bt kk q n1) n2
          refine ⟨hd, b, ts ++ [t], C ++ [(("hear", b) : Row)], _, _, _, rfl, fun x o n q => kept1 (b1 _ _ n (bH _ _ n q)) n (ncp q), src_upd' (src_ex sH2 e2) ncpp, ok2 hb (ne_of hb hcp2 (by intro z; cases z)), gb.mono (by omega), fun _ => hn2, by rw [upd_same, List.map_append]; rfl, ?_, ?_, ?_, ?_, by rw [List.length_append, hlen]; rfl⟩
          · refine paired_snoc (paired_mono hts1 fun t r ⟨d, a1, a2⟩ => ⟨d, kept1 a1 (src_ne s1 a1 (fun xs z => by cases z)) (ne_of a1 hc1 (by intro z; cases z)), kept1 a2 (src_ne s1 a2 (fun xs z => by cases z)) (ne_of a2 hc1 (by intro z; cases z))⟩) ?_
            exact ⟨d2, (upd_ne ntc).trans upd_same, (upd_ne ndc).trans ((upd_ne ndt).trans upd_same)⟩
          · intro r hr
            rcases List.mem_append.mp hr with z | z
            · exact hrows r z
            · rw [List.mem_singleton.mp z]
              exact gb.mono (by omega)
          · refine check_snoc hck (row_hear ?_)
            rw [hlast]
            exact under_iff (bare_nodup ga.nd) fun q => by rw [val_bare ga.nd]; exact hab q
          · rw [last_app]
            rfl
      · rintro H1 ⟨⟨b1, s1⟩, hi0⟩
        have hh1 := b1 _ _ (src_ne sH hh (fun xs z => by cases z)) hh
        have hc1 := b1 _ _ ncpp.symm hc
        have hts1 : Paired (RowAt H1) ts C := paired_mono hts fun t r ⟨d, a1, a2⟩ => ⟨d, b1 _ _ (src_ne sH a1 (fun xs z => by cases z)) a1, b1 _ _ (src_ne sH a2 (fun xs z => by cases z)) a2⟩
        have hnl1 := b1 _ _ npl.symm (bH _ _ npl.symm hnl)
        intro hd hhd
        have npd : p ≠ hd := by obtain ⟨_, _, _, q⟩ := s1; exact ne_of_none q hhd
        have bt : ∀ {H' : Hp}, (∀ x o, x ≠ p → x ≠ hd → H1 x = some o → H' x = some o) → ∀ {x : Addr} {o : HO}, H1 x = some o → x ≠ p → H' x = some o := @fun H' k x o q n => k x o n (ne_of_none q hhd) q
        refine q_forLn (ev_var rfl) (sq_of ((upd_ne (ne_of_none hnl1 hhd)).trans hnl1))
          (fun j σ' H' => ∃ (b : Num) (v5 : Option V), σ' = [some (.ref p), some (.ref nl), some (.ref cp), some (.ref h), some (.int (i : Int)), v5, some (.ref hd)] ∧ (∀ x o, x ≠ p → x ≠ hd → H1 x = some o → H' x = some o) ∧ SrcAt H' p ∧ H' hd = some (.dK (kv b)) ∧ GoodNum b (6 * (i : Int)) ∧ (∀ k, val b k ≤ val a k))
          (fun H2 e2 => ⟨[], v2, rfl, fun x o n1 n2 q => e2 _ _ ((upd_ne n2).trans q), src_ex (src_upd' s1 npd) e2, e2 _ _ upd_same, good_nil (by omega), fun k => ga.lo k⟩) ?_ ?_ ?_
        · rintro j σ' H2 hj ⟨b, v5, rfl, kk, sH2, hb, gb, hba⟩
          exact sq_of (bt kk hnl1 npl.symm)
        · rintro j x σ' H2 hx ⟨b, v5, rfl, kk, sH2, hb, gb, hba⟩
          obtain ⟨k, hkj, rfl⟩ : ∃ k, nms[j]? = some k ∧ V.str k = x := by
            rw [List.getElem?_map] at hx
            cases et : nms[j]? with
            | none => rw [et] at hx; cases hx
            | some t => rw [et] at hx; exact ⟨t, rfl, Option.some.inj hx⟩
          have hka : k ∈ allNames := hall k (List.mem_of_getElem? hkj)
          have hkn : k ∈ names a := hna hi0 k (List.mem_of_getElem? hkj)
          have hlo := ga.lo k
          have hhi := ga.hi k
          have hh2 : H2 h = some (.dK (kv a)) := bt kk hh1 (src_ne s1 hh1 (fun xs z => by cases z))
          unfold sDPut tOp
          refine (ev_dget (σ := [some (.ref p), some (.ref nl), some (.ref cp), some (.ref h), some (.int (i : Int)), some (.str k), some (.ref hd)]) (a := a) (p := k) (ev_var (i := 3) rfl) (ev_var (i := 5) rfl) (.inl hh2) (lookup_val hkn)) H2 (Ex.refl _) _ fun H3 e3 => ?_
          refine ⟨_, rfl, ?_⟩
          refine (ev_dget (σ := [some (.ref p), some (.ref nl), some (.ref cp), some (.ref h), some (.int (i : Int)), some (.str k), some (.ref hd)]) (a := a) (p := k) (ev_var (i := 3) rfl) (ev_var (i := 5) rfl) (.inl (e3 _ _ hh2)) (lookup_val hkn)) H3 (Ex.refl _) _ fun H4 e4 => ?_
          refine ⟨val a k, 1, rfl, rfl, p, val a k + 1, rfl, src_ex sH2 (e3.trans e4), by omega, by omega, fun r5 H5 r50 r51 b5 s5 => ?_⟩
          refine ⟨by show 3 ≤ sizeLine; decide, fun lf hlf => ?_⟩
          have s5' : SrcAt (upd H5 lf (.lst [.int (val a k), .int r5, .int 0])) p := src_upd s5 hlf
          refine ⟨_, rfl, p, 3, rfl, s5', by decide, by decide, fun r4 H6 r40 r44 b6 s6 => ?_⟩
          have nlp : lf ≠ p := fun z => by obtain ⟨_, _, _, q⟩ := s5; rw [← z, hlf] at q; cases q
          have hl6 : H6 lf = some (.lst [.int (val a k), .int r5, .int 0]) := b6 _ _ nlp upd_same
          obtain ⟨w4, ha4, w40, w42⟩ : ∃ w4 : Int, atI [V.int (val a k), .int r5, .int 0] r4 = some (.int w4) ∧ 0 ≤ w4 ∧ w4 ≤ val a k := by
            have z : r4 = 0 ∨ r4 = 1 ∨ r4 = 2 := by omega
            rcases z with z | z | z <;> rw [z]
            · exact ⟨val a k, rfl, by omega, by omega⟩
            · exact ⟨r5, rfl, by omega, by omega⟩
            · exact ⟨0, rfl, by omega, by omega⟩
          have nhp : hd ≠ p := npd.symm
          have hd5 : H5 hd = some (.dK (kv b)) := b5 _ _ nhp (e4 _ _ (e3 _ _ hb))
          have hd6 : H6 hd = some (.dK (kv b)) := b6 _ _ nhp ((upd_ne (ne_of_none hd5 hlf)).trans hd5)
          refine ⟨lf, _, r4, _, rfl, rfl, sq_of hl6, ha4, _, rfl, _, rfl, hd, _, rfl, DPut.k (k := Sum.inr k) hd6 (sz_lt (by rw [kv_len]; have := gb.len; omega)), ?_⟩
          refine ⟨putN b k w4, _, rfl, fun x o n1 n2 q => (upd_ne n2).trans (b6 _ _ n1 ?_), src_upd' s6 npd, by rw [upd_same, kv_putN], good_put gb hka (by omega) (by omega), fun q => ?_⟩
          · have z := b5 _ _ n1 (e4 _ _ (e3 _ _ (kk x o n1 n2 q)))
            exact (upd_ne (ne_of_none z hlf)).trans z
          · have := hba q
            rw [val_putN]
            split
            · rename_i z; rw [z]; omega
            · exact this
        · rintro σ' H2 ⟨b, v5, rfl, kk, sH2, hb, gb, hba⟩
          have hcp2 : H2 cp = some (.lst (ts.map V.ref)) := bt kk hc1 ncpp.symm
          refine ⟨_, rfl, Or.inl ⟨rfl, _, sq_of hcp2⟩, ?_⟩
          -- the state that is told: b itself or its bare form
          have fin : ∀ (d2 : Addr) (s2 : Num) (H3 : Hp), (s2 = b ∨ s2 = bareOf b) → But p H2 H3 → SrcAt H3 p → H3 d2 = some (.dK (kv s2)) → ∀ t, H3 t = none → CInv p nl nms H cp (i + 1) [some (.ref p), some (.ref nl), some (.ref cp), some (.ref h), some (.int (i : Int)), v5, some (.ref hd)] (upd (upd H3 t (.tup [.str "tell", .ref d2])) cp (.lst (ts.map V.ref ++ [.ref t]))) := by
            intro d2 s2 H3 hs2 b3 s3 hd3 t hnt
            have hcp3 : H3 cp = some (.lst (ts.map V.ref)) := b3 _ _ ncpp.symm hcp2
            have ok2 : ∀ {x : Addr} {o : HO}, H3 x = some o → x ≠ cp → upd (upd H3 t (.tup [.str "tell", .ref d2])) cp (.lst (ts.map V.ref ++ [.ref t])) x = some o := fun q n => (upd_ne n).trans ((upd_ne (ne_of_none q hnt)).trans q)
            have ntc : t ≠ cp := fun z => by rw [← z, hnt] at hcp3; cases hcp3
            have kept1 : ∀ {x : Addr} {o : HO}, H1 x = some o → x ≠ p → x ≠ cp → _ := fun {x o} q n1 n2 => ok2 (b3 _ _ n1 (bt kk q n1)) n2
            have gs : GoodNum s2 (6 * (i : Int)) := by
              rcases hs2 with z | z <;> rw [z]
              · exact gb
              · exact good_bare gb
            have hs : ∀ q, val s2 q ≤ val a q := fun q => by
              rcases hs2 with z | z <;> rw [z]
              · exact hba q
              · rw [val_bare gb.nd]; exact hba q
            refine ⟨h, a, ts ++ [t], C ++ [(("tell", s2) : Row)], _, _, _, rfl, fun x o n q => kept1 (b1 _ _ n (bH _ _ n q)) n (ncp q), src_upd' (src_upd s3 hnt) ncpp, kept1 hh1 (src_ne s1 hh1 (fun xs z => by cases z)) (ne_of hh1 hc1 (by intro z; cases z)), ga.mono (by omega), fun _ => hna hi0, by rw [upd_same, List.map_append]; rfl, ?_, ?_, ?_, ?_, by rw [List.length_append, hlen]; rfl⟩
            · refine paired_snoc (paired_mono hts1 fun t r ⟨d, a1, a2⟩ => ⟨d, kept1 a1 (src_ne s1 a1 (fun xs z => by cases z)) (ne_of a1 hc1 (by intro z; cases z)), kept1 a2 (src_ne s1 a2 (fun xs z => by cases z)) (ne_of a2 hc1 (by intro z; cases z))⟩) ?_
              exact ⟨d2, (upd_ne ntc).trans upd_same, ok2 hd3 (ne_of hd3 hcp3 (by intro z; cases z))⟩
            · intro r hr
              rcases List.mem_append.mp hr with z | z
              · exact hrows r z
              · rw [List.mem_singleton.mp z]
                exact gs.mono (by omega)
            · refine check_snoc hck (row_tell ?_)
              rw [hlast]
              exact under_iff gs.nd fun q => by rw [val_bare ga.nd]; exact hs q
            · rw [last_app]
              exact hlast
          refine ⟨_, rfl, p, 3, rfl, sH2, by decide, by decide, fun r7 H3 _ _ b3 s3 => ⟨rfl, _, rfl, ?_⟩⟩
          have hd3 : H3 hd = some (.dK (kv b)) := b3 _ _ npd.symm hb
          have hcp3 : H3 cp = some (.lst (ts.map V.ref)) := b3 _ _ ncpp.symm hcp2
          have hlts : (ts.map V.ref).length < 100000 := by rw [List.length_map]; have := paired_len hts; omega
          by_cases h7 : V.int r7 = V.int 0
          · rw [decide_eq_true h7]
            refine iteT ⟨_, rfl, by show 2 ≤ sizeLine; decide, fun t hnt => ⟨cp, _, _, rfl, rfl, (upd_ne (ne_of_none hcp3 hnt)).trans hcp3, sz_lt hlts, fin hd b H3 (.inl rfl) b3 s3 hd3 t hnt⟩⟩
          · rw [decide_eq_false h7]
            refine iteF ⟨_, rfl, hd, b, rfl, .inl hd3, gb.nd, by have := gb.len; omega, fun d2 H4 hd2 e4 h4 => ⟨by show 2 ≤ sizeLine; decide, fun t hnt => ?_⟩⟩
            exact ⟨cp, _, _, rfl, rfl, (upd_ne (ne_of_none (e4 _ _ hcp3) hnt)).trans (e4 _ _ hcp3), sz_lt hlts, fin d2 (bareOf b) H4 (.inr rfl) (b3.trans (But.of e4)) (src_ex s3 e4) h4 t hnt⟩
    · obtain ⟨h, a, ts, C, v1, v2, v3, rfl, bH, sH, hh, ga, hna, hc, hts, hrows, hck, hlast, hlen⟩ := hP
      exact ⟨_, rfl, k1 cp C H' hcp bH sH ⟨ts, hc, hts⟩ ⟨hrows, hck, by omega⟩⟩
end
end K82
end
section
set_option maxRecDepth 100000
set_option maxHeartbeats 4000000
/-! sorted by a key whose answers hold lists that stood before. -/
namespace K82
open PySem PySem.Calls PyProof.Rows PySem.W
section
variable {prog : Program} {w : World} {A : Around} {E : Value → Shared → Prop} {s : Shared} {a kS : Addr} {b : Bool} {vs : List Value} {keys : Array Value} {e e1 : Nat} {P : PySem.Fin → Shared → Prop} {kz : List PyData} {S : Addr → Prop}
/-- a call f(x) that keeps all that was there and gives the key k, its lists at S -/
def KeyPureS (S : Addr → Prop) (k : PyData) (s₁ : Shared) (v : Value) (s₂ : Shared) : Prop := ∃ h' tk as, s₂ = { s₁ with heap := h', toks := tk } ∧ (∀ b o, s₁.heap.get? b = some o → h'.get? b = some o) ∧ Reads h' v k as ∧ ∀ x ∈ as, S x
theorem keyS_rest {f : Value} {h₁ : Heap} (kp : KeepsBut a h₁ s.heap) (hkS : h₁.get? kS = none) (nk : s.heap.get? kS = some (seqObj "list" #[] 0)) (na : s.heap.get? a = some (seqObj "list" #[] e1)) (hka : kS ≠ a) (hSk : ∀ x, S x → kS ≠ x)
    (hlen : kz.length = vs.length) (hZ : vs.length ≤ sizeLine) (hal : AllAlike kz) (hsk : Sortable kz) (hu : ∀ d, d ∈ kz → A.units + d.depth < cLine)
    (turn : ∀ (i : Nat) (v : Value) (k : PyData), vs[i]? = some v → kz[i]? = some k → ∀ (h : Heap) (tk : Nat), KeepsBut a h₁ h →
      wpAny (model prog w) A (call f [v]) (KeyPureS S k { s with heap := h, toks := tk }) (fun _ _ => False) { s with heap := h, toks := tk })
    (h : ∀ h' tk out c, KeepsBut a h₁ h' → h'.get? a = some (seqObj "list" (List.toArray out) c) → KeyedOut b kz vs out → P (.done (.ret .none)) { s with heap := h', toks := tk }) :
    wpAny (model prog w) A (ksk_rest a f b vs.toArray e1 (.ref kS)) P E s := by
  unfold ksk_rest
  refine wpAny_bind (wpAny_rule ?_)
  first
    | rw [List.forIn_toArray]
    | (rw [← Array.forIn_toList]; simp only [List.toList_toArray])
    | rw [← Array.forIn_toList]
  refine wpAny_bind (ksk_fold (fun i s' => ∃ h' tk kA e, s' = { s with heap := h', toks := tk } ∧ KeepsBut a h₁ h' ∧ h'.get? kS = some (seqObj "list" kA e) ∧ h'.get? a = some (seqObj "list" #[] e1) ∧ EachIs (fun v k => (∃ as, Reads h' v k as ∧ ∀ x ∈ as, S x) ∧ alike k k = true) kA.toList (kz.take i)) vs 0 s
    ⟨s.heap, s.toks, #[], 0, rfl, kp, nk, na, by rw [List.take_zero]; exact EachIs.nil⟩ ?step ?done)
  case step =>
    rintro j x s' hx ⟨h', tk, kA, e, rfl, kp', nk', na', hk⟩
    simp only [Nat.zero_add] at hk ⊢
    have hj : j < vs.length := (List.getElem?_eq_some_iff.mp hx).1
    obtain ⟨k, hkj⟩ : ∃ k, kz[j]? = some k := ⟨_, List.getElem?_eq_getElem (by omega)⟩
    have hkk : alike k k = true := hal k (List.mem_of_getElem? hkj) k (List.mem_of_getElem? hkj)
    have hz : kA.size ≤ vs.length := by
      have h1 := hk.length
      rw [Array.length_toList, List.length_take] at h1
      omega
    refine wpAny_bind (wpAny_attempt (wpAny_mono (turn j x k hx hkj h' tk kp') (fun v s'' he => ?_) fun _ _ hF => hF.elim))
    obtain ⟨g, tk2, as, rfl, hg, hr, hS⟩ := he
    try dsimp only
    have nk2 : g.get? kS = some (seqObj "list" kA e) := hg _ _ nk'
    have na2 : g.get? a = some (seqObj "list" #[] e1) := hg _ _ na'
    have s1 := Heap.SameBut.update g kS (Obj.mapSeq (·.push v))
    obtain ⟨c2, hc2⟩ : ∃ c2, (g.update kS (Obj.mapSeq (·.push v))).get? kS = some (seqObj "list" (kA.push v) c2) := ⟨_, get?_update_seq nk2 (·.push v)⟩
    have ek : kz.take (j + 1) = kz.take j ++ [k] := by rw [List.take_add_one, hkj]; simp
    have ea : (kA.push v).toList = kA.toList ++ [v] := by simp
    refine wpAny_bind (listUpdate_at nk2 rfl ?_ (Nat.le_trans hz hZ) (Nat.le_trans (Nat.le_of_eq (Array.size_push ..)) (Nat.succ_le_succ (Nat.le_trans hz hZ))))
    have keepS : ∀ (u : Value) (d : PyData), (∃ as, Reads g u d as ∧ ∀ x ∈ as, S x) ∧ alike d d = true → (∃ as, Reads (g.update kS (Obj.mapSeq (·.push v))) u d as ∧ ∀ x ∈ as, S x) ∧ alike d d = true := fun u d ⟨⟨as, q, qs⟩, q2⟩ =>
      ⟨⟨as, Reads.keepBut (a := kS) (fun b o hb e => (s1.2 b hb).trans e) (fun o e => by rw [nk2] at e; rw [← Option.some.inj e]) d u as q2 q (fun z => hSk _ (qs _ z) rfl), qs⟩, q2⟩
    refine wpAny_pure ⟨rfl, _, _, kA.push v, c2, rfl, (kp'.trans_all hg).same s1 (.inr hkS), hc2, (s1.2 a hka.symm).trans na2, ?_⟩
    rw [ea, ek]
    refine each_snoc (R := fun (u : Value) (d : PyData) => (∃ as, Reads (g.update kS (Obj.mapSeq (·.push v))) u d as ∧ ∀ x ∈ as, S x) ∧ alike d d = true) (keepS v k ⟨⟨as, hr, hS⟩, hkk⟩) ?_
    exact hk.mono fun u d ⟨⟨as, q, qs⟩, q2⟩ => keepS u d ⟨⟨as, PyProof.Rows.Reads.keeps hg q, qs⟩, q2⟩
  case done =>
    rintro s' ⟨h', tk, kA, e, rfl, kp', nk', na', hk⟩
    have hk' : EachIs (fun v k => ∃ as, Reads h' v k as) kA.toList kz := by
      have e3 : kz.take (0 + vs.length) = kz := List.take_of_length_le (by omega)
      rw [e3] at hk
      exact hk.mono fun v k ⟨⟨as, q, _⟩, _⟩ => ⟨as, q⟩
    have hsz : kA.size = vs.length := by
      have h1 := hk'.length
      rw [Array.length_toList] at h1
      omega
    try dsimp only
    refine wpAny_bind (listItems_at nk' rfl ?_)
    exact keyH_end (κ := dataKind h' kz) (h₁ := h₁) kp' hkS nk' na' hka (SortsAt.data (s := { s with heap := h', toks := tk }) hk' hal hsk hu) hsz hZ fun h3 tk3 c k3 n3 => h h3 tk3 _ c k3 n3 ⟨h', kA.toList, hal, rfl, hk'⟩
theorem keyS_tree {f : Value} {n : Nat} (ho : s.heap.get? a = some (seqObj "list" vs.toArray n)) (hS : ∀ x, S x → x < s.heap.objs.size) (hlen : kz.length = vs.length) (hZ : vs.length ≤ sizeLine) (hal : AllAlike kz) (hsk : Sortable kz) (hu : ∀ d, d ∈ kz → A.units + d.depth < cLine)
    (turn : ∀ (i : Nat) (v : Value) (k : PyData), vs[i]? = some v → kz[i]? = some k → ∀ (h : Heap) (tk : Nat), KeepsBut a s.heap h →
      wpAny (model prog w) A (call f [v]) (KeyPureS S k { s with heap := h, toks := tk }) (fun _ _ => False) { s with heap := h, toks := tk })
    (h : ∀ h' tk out c, KeepsBut a s.heap h' → h'.get? a = some (seqObj "list" (List.toArray out) c) → KeyedOut b kz vs out → P (.done (.ret .none)) { s with heap := h', toks := tk }) :
    wpAny (model prog w) A (ksk_tree a f b) P E s := by
  have ha : a < s.heap.objs.size := Heap.lt_size ho
  obtain ⟨e1, ho1⟩ : ∃ e1, (s.heap.update a (Obj.mapSeq fun _ => (#[] : Array Value))).get? a = some (seqObj "list" #[] e1) := ⟨_, get?_update_seq ho fun _ => #[]⟩
  have hkS : ((s.heap.update a (Obj.mapSeq fun _ => (#[] : Array Value))).push (seqObj "tuple" vs.toArray 0)).objs.size = s.heap.objs.size + 1 := by rw [size_push', Heap.size_update]
  unfold ksk_tree
  refine wpAny_bind (listItems_at ho rfl ?_)
  refine wpAny_bind (listUpdate_at ho rfl ?_ (by rw [List.size_toArray]; exact hZ) (Nat.zero_le _))
  refine wpAny_bind (seqEpoch_at ho1 rfl ?_)
  refine wpAny_bind (wpAny_newTuple ?_ (by show vs.length ≤ _; exact hZ))
  refine wpAny_bind (wpAny_newList ?_ (Nat.zero_le _))
  refine wpAny_holding ?_
  have kp : KeepsBut a s.heap (sortingHeap s.heap a vs) := fun b o hb q => sortingHeap_old hb q
  refine keyS_rest (S := S) (kz := kz) (h₁ := s.heap) (s := { s with heap := ((s.heap.update a (Obj.mapSeq fun _ => (#[] : Array Value))).push (seqObj "tuple" vs.toArray 0)).push (seqObj "list" #[] 0) }) (kS := ((s.heap.update a (Obj.mapSeq fun _ => (#[] : Array Value))).push (seqObj "tuple" vs.toArray 0)).objs.size)
    kp (Heap.get?_none_of_le (by rw [hkS]; exact Nat.le_succ _)) (Heap.get?_push_size _ rfl) (Heap.get?_push_of_some _ (Heap.get?_push_of_some _ ho1)) (by rw [hkS]; exact Nat.ne_of_gt (Nat.lt_succ_of_lt ha)) (fun x hx => by rw [hkS]; exact Nat.ne_of_gt (Nat.lt_succ_of_lt (hS x hx))) hlen hZ hal hsk hu turn h
end
section
variable {prog : Program} {w : World} {A : Around} {E : Value → Shared → Prop} {s : Shared} {β : Type} {vs : List Value} {bs : List β} {R : Value → β → Prop}
theorem keyS_turns {S : Addr → Prop} {a : Addr} {f : Value} {k : β → PyData} {h₁ : Heap} (e : EachIs R vs bs)
    (turn : ∀ (v : Value) (x : β), R v x → x ∈ bs → ∀ (h : Heap) (tk : Nat), KeepsBut a h₁ h → wpAny (model prog w) A (call f [v]) (KeyPureS S (k x) { s with heap := h, toks := tk }) (fun _ _ => False) { s with heap := h, toks := tk }) :
    ∀ (i : Nat) (v : Value) (d : PyData), vs[i]? = some v → (bs.map k)[i]? = some d → ∀ (h : Heap) (tk : Nat), KeepsBut a h₁ h →
      wpAny (model prog w) A (call f [v]) (KeyPureS S d { s with heap := h, toks := tk }) (fun _ _ => False) { s with heap := h, toks := tk } := by
  intro i v d hv hd h tk kp
  rw [List.getElem?_map] at hd
  cases q : bs[i]? with
  | none => rw [q] at hd; simp at hd
  | some x =>
    rw [q] at hd
    have hd' : some (k x) = some d := hd
    rw [← Option.some.inj hd']
    have hz : (v, x) ∈ vs.zip bs := List.mem_of_getElem? (i := i) (by rw [List.getElem?_zip_eq_some]; exact ⟨hv, q⟩)
    exact turn v x (e.zip _ hz) (List.mem_of_getElem? q) h tk kp
/-- sorted(xs, key=f) -/
theorem sorted_keyS {l : Addr} {f : Value} {kw : List (Str × Value)} {b : Bool} {Q : Value → Shared → Prop} (k : β → PyData) (hl : s.heap.IsList l vs.toArray) (e : EachIs R vs bs) (hal : AllAlike (bs.map k)) (hk : Sortable (bs.map k)) (hL : bs.length ≤ sizeLine)
    (hu : ∀ x, x ∈ bs → A.units + 2 + (k x).depth < cLine) (ha1 : argsOk "sorted" ⟨[.ref l], kw⟩) (ha2 : ∀ x, argsOk "list.sort" ⟨[.ref x], kw⟩) (ht : ∀ x, Builtin.«list.sort» ⟨[.ref x], kw⟩ = ksk_tree x f b)
    (turn : ∀ (v : Value) (x : β), R v x → x ∈ bs → ∀ (h : Heap) (tk : Nat), (∀ b o, s.heap.get? b = some o → h.get? b = some o) →
      wpAny (model prog w) A.in1.in1 (call f [v]) (KeyPureS (fun x => x < s.heap.objs.size) (k x) { s with heap := h, toks := tk }) (fun _ _ => False) { s with heap := h, toks := tk })
    (h : ∀ out c h' tk, (∀ b o, s.heap.get? b = some o → h'.get? b = some o) → h'.get? (s.heap.objs.size + 1) = some (seqObj "list" (List.toArray out) c) → out.length = bs.length → EachIs R out (bs.mergeSort (dataLe b k)) →
      Q (.ref (s.heap.objs.size + 1)) { s with heap := h', toks := tk }) :
    wpAny (model prog w) A (call (.builtin "sorted") [.ref l] kw) Q E s := by
  have up : ∀ {g : Heap}, KeepsBut (s.heap.objs.size + 1) (copyHeap s.heap vs) g → ∀ b o, s.heap.get? b = some o → g.get? b = some o := fun {g} kp b o q =>
    kp b o (Nat.ne_of_lt (Nat.lt_succ_of_lt (Heap.lt_size q))) (copyHeap_old q)
  refine sorted_of_sort hl (by rw [e.length]; exact hL) ha1 ha2 fun E' => ?_
  rw [ht]
  refine keyS_tree (S := fun x => x < s.heap.objs.size) (kz := bs.map k) (s := { s with heap := copyHeap s.heap vs }) (copyHeap_at s.heap vs) (fun x hx => Nat.lt_trans hx (Nat.lt_trans (Nat.lt_succ_self _) (Heap.lt_size (copyHeap_at s.heap vs)))) (by rw [List.length_map]; exact e.length.symm) (by rw [e.length]; exact hL) hal hk (bound_map (A := A.in1.in1) hu)
    (keyS_turns (s := { s with heap := copyHeap s.heap vs }) e fun v x hR hx h tk kp => turn v x hR hx h tk (up kp)) fun h' tk out c kp hD ko => ⟨rfl, ?_⟩
  exact h out c h' tk (up kp) hD ((ko.length (by rw [List.length_map]; exact e.length.symm)).trans e.length) (keyedOut_each k ko e)
end
end K82
end
section
set_option maxRecDepth 100000
set_option maxHeartbeats 4000000
/-! lambdas: their making told of all tables; the key (len(x), x). -/
namespace K82
open PySem PySem.Spec PyProof.Rows L2 Evl NdefX LamX
section
variable {X : Cx} {pins : List (Addr × Obj)} {σ : L2.St} {H : Hp} {s : Shared}
/-- a lambda is made: its code object is new or found; every table is told -/
theorem lam_makeN {T : List NTab} {nm : Nat → Nat → Str} {c P : Addr} {params : Arguments} {body : Expr} {scope : Scope} {pos : Pos} {E : Value → Shared → Prop} {Q : Value → Shared → Prop} (I : Inv X pins σ H s) (TB : TabB X.base X.mg c P) (hcode : X.env.code = .ref c)
    (hm : (P, nm) ∈ T) (hn : nm pos.line pos.col = X.env.qual ++ "<lambda>") (hu : ∀ p ∈ T, p.1 = P → p.2 = nm) (hT : TabsN T H) (hdef : defaultsOf params X.env = ([], [])) (hfree : ∀ y ∈ scope.names, y.2 = .free → ∃ c, X.env.cells.lookup y.1 = some c)
    (h : ∀ (f c' : Addr) (pm ctv : Value) (H1 : Hp) (s' : Shared), Inv X pins σ H1 s' → ExtN H H1 → (∀ b, H1 b = none → H b = none) → TabsN T H1 →
      s'.heap.get? f = some (PySem.W.kla_obj "<lambda>" (X.env.qual ++ "<lambda>") params body scope (cloFrom X.env.cells scope.names []) pm c' ctv) → H1 f = none → f ∉ frs X.stack → H1 c' = some (CodeO c' (X.env.qual ++ "<lambda>")) → Q (.ref f) s') :
    wpAny (model X.prog X.w) X.A (eval (.Lambda params body scope pos) X.env) Q E s := by
  obtain ⟨ps, hP, ht, ha⟩ := (show TabN H P nm from hT _ hm)
  refine PySem.W.kla_eval hdef ?_
  have bP : s.heap.BuiltinsAt X.mg P := TB.bm.keeps I.bk
  have hP' : s.heap.get? P = some { cls := .none, data := .fields ps } := I.hok P _ hP
  have nofr : ∀ f, s.heap.objs.size ≤ f → f ∉ frs X.stack := fun f hf z => by
    rcases List.mem_cons.mp (I.stkSub _ z) with e | e
    · have h1 := I.lt
      rw [← e] at h1
      exact Nat.lt_irrefl _ (Nat.lt_of_lt_of_le h1 hf)
    · exact I.nofs hf e
  cases hc : codeAmong pos ps.toList with
  | none =>
    refine PySem.W.kla_makeFunction (mg := X.mg) (c := c) (P := P) (ps := ps) (closure_ok hfree) I.ok.glob (I.mod.glob.keeps I.bk) hcode (TB.code.keeps I.bk) hP' ht hc TB.gP bP fun c' ctv h' tk hx hge hlt hrec htb => ?_
    obtain ⟨c2, oc, vs, t, e2, hoc, hd, hv⟩ := hrec
    cases e2
    have hsz : s.heap.objs.size ≤ h'.objs.size := Nat.le_trans hge (Nat.le_of_lt hlt)
    have nC : H c' = none := I.hok.fresh hge
    have I1 := inv_table (t' := tk) (more := #[rawInt pos.line, rawInt pos.col, .ref c']) (h' := h'.push (PySem.W.kla_obj "<lambda>" (X.env.qual ++ "<lambda>") params body scope (cloFrom X.env.cells scope.names []) ((X.mg "__name__").getD .none) c' ctv)) I hP
      (fun b o hb e => Heap.get?_push_of_some _ (hx b o hb e)) (Heap.get?_push_of_some _ htb) hge ⟨oc, vs, t, Heap.get?_push_of_some _ hoc, hd, hv⟩
    have hE : ExtN H (upd (upd H P (.tbl (ps ++ #[rawInt pos.line, rawInt pos.col, .ref c']))) c' (CodeO c' (X.env.qual ++ "<lambda>"))) := fun b o e n => by
      rw [upd_ne (ne_of_none e nC), upd_ne (fun z => n ps (Option.some.inj (e.symm.trans (by rw [z]; exact hP))))]
      exact e
    have eL : (ps ++ #[rawInt pos.line, rawInt pos.col, .ref c']).toList = ps.toList ++ [rawInt pos.line, rawInt pos.col, .ref c'] := by simp
    refine h h'.objs.size c' ((X.mg "__name__").getD .none) ctv _ _ I1 hE (fun b e => upd_none (upd_none e)) (fun p hp => ?_) (Heap.get?_push_size _ rfl) ?_ (nofr _ hsz) upd_same
    · by_cases hb : p.1 = P
      · rw [hu p hp hb, hb]
        refine ⟨_, by rw [upd_ne (ne_of_none hP nC), upd_same], by rw [eL]; exact PySem.TriplesOk_snoc _ _ _ _ ht, fun p' cv hcv => ?_⟩
        rw [eL] at hcv
        rcases among_app2 _ ht hcv with z | ⟨z, z1, z2⟩
        · obtain ⟨c0, e1, e2⟩ := ha p' cv z
          exact ⟨c0, e1, hE _ _ e2 codeO_ne⟩
        · refine ⟨c', z, ?_⟩
          rw [← z1, ← z2, hn]
          exact upd_same
      · obtain ⟨ps', a1, a2, a3⟩ := hT p hp
        refine ⟨ps', by rw [upd_ne (ne_of_none a1 nC), upd_ne hb]; exact a1, a2, fun p' cv hcv => ?_⟩
        obtain ⟨c0, e1, e2⟩ := a3 p' cv hcv
        exact ⟨c0, e1, hE _ _ e2 codeO_ne⟩
    · have n1 : h'.objs.size ≠ c' := Nat.ne_of_gt hlt
      have n2 : h'.objs.size ≠ P := Nat.ne_of_gt (Nat.lt_of_lt_of_le (Heap.lt_size hP') hsz)
      rw [upd_ne n1, upd_ne n2]
      exact I.hok.fresh hsz
  | some cv =>
    obtain ⟨c', e, hco⟩ := ha pos cv hc
    subst e
    rw [hn] at hco
    refine PySem.W.kla_makeFunctionHit (mg := X.mg) (c := c) (P := P) (ps := ps) (closure_ok hfree) I.ok.glob (I.mod.glob.keeps I.bk) hcode (TB.code.keeps I.bk) hP' ht hc bP fun ctv h' tk hx hsz => ?_
    have I1 : Inv X pins σ H { s with heap := h'.push (PySem.W.kla_obj "<lambda>" (X.env.qual ++ "<lambda>") params body scope (cloFrom X.env.cells scope.names []) ((X.mg "__name__").getD .none) c' ctv), toks := tk } := I.kept fun b o e => Heap.get?_push_of_some _ (hx b o e)
    exact h h'.objs.size c' ((X.mg "__name__").getD .none) ctv H _ I1 (ExtN.refl H) (fun b e => e) hT (Heap.get?_push_size _ rfl) (I.hok.fresh hsz) (nofr _ hsz) hco
end
/-! ### the key -/
def keyD (l : List Nat) : PyData := .tuple [.int (l.length : Int), .list (l.map fun n : Nat => PyData.int (Int.ofNat n))]
theorem reads_ints {h : Heap} : ∀ {l : List Nat} {its : List Value}, Vals (intsV l) its → ReadsAll h its (l.map fun n : Nat => PyData.int (Int.ofNat n)) []
  | [], [], _ => .nil
  | [], _ :: _, r => by cases r
  | n :: l, its, r => by
    cases r with
    | cons q t =>
      obtain ⟨t1, rfl⟩ := q
      exact .cons (as := []) (bs := []) (.int _ _) (reads_ints t)
theorem key_turn {prog : Program} {w : World} {A : Around} {mg : Str → Option Value} {mb : Str → Option Value} {s : Shared} {h : Heap} {tk : Nat} {f c' p : Addr} {q : Str} {params : Arguments} {scope : Scope} {cl : List (Str × Addr)} {pm ctv : Value} {l : List Nat} {its : List Value} {n k : Nat} {p1 p2 p3 p4 p5 : Pos} {x1}
    (hr : Room k A) (hu : A.units + 20 < cLine) (hf : h.get? f = some (PySem.W.kla_obj "<lambda>" q params (.Tuple [.Call (.Name "len" p1) [.Name "lot" p2] [] p3, .Name "lot" p4] x1 p5) scope cl pm c' ctv)) (hco : h.CodeRec (.ref c') q) (hlim : h.NoLimit)
    (hk : scope.kind = .function) (hcr : scope.isCoroutine = false) (hge : scope.isGenerator = false) (hcell : ∀ y ∈ scope.names, y.2 ≠ .cell) (hl1 : scope.names.lookup ("lot" : Str) = some .local) (hl2 : scope.names.lookup ("len" : Str) = some .globalImplicit)
    (hbind : ∀ v : Value, bindArgs (PySem.W.kla_fn "<lambda>" q params (.Tuple [.Call (.Name "len" p1) [.Name "lot" p2] [] p3, .Name "lot" p4] x1 p5) scope cl pm (.ref c') ctv) ⟨[v], []⟩ = pure [(("lot" : Str), v)])
    (hg : h.Ns mainGlobals mg) (hmg : mg "len" = none) (hb : h.Ns builtinsNs mb) (hmb : mb "len" = some (.builtin "len")) (hp : h.get? p = some { cls := .type "list", data := .seq its.toArray n }) (hps : p < s.heap.objs.size) (hv : Vals (intsV l) its) (hsz : its.length ≤ sizeLine) :
    wpAny (model prog w) A (call (.ref f) [.ref p]) (KeyPureS (fun x => x < s.heap.objs.size) (keyD l) { s with heap := h, toks := tk }) (fun _ _ => False) { s with heap := h, toks := tk } := by
  refine wpAny_call (codeAny_mono (R := fun r s' => ∃ v, r = .ok (.ret v) ∧ KeyPureS (fun x => x < s.heap.objs.size) (keyD l) { s with heap := h, toks := tk } v s') ?_ fun r s' hq => ?_)
  · refine PySem.W.kla_callFunE (s := { s with heap := h, toks := tk }) hr.depth hf rfl hcr hge rfl hco ?_
    rw [hbind]
    refine wpAny_pure (wpAny_newFunctionEnv hcell (fun y hy => by rw [List.mem_singleton.mp hy]; exact hl1) (fun h₁ hns hsb => ⟨hlim.fresh _ hsb, ?_⟩) hk)
    refine PySem.W.kla_codeExpr ?_
    have kp : ∀ b o, h.get? b = some o → h₁.get? b = some o := fun b o e => hsb.extBut b o (Nat.ne_of_lt (Heap.lt_size e)) (Heap.get?_push_of_some _ e)
    have hg1 := hg.keeps kp
    have hb1 := hb.keeps kp
    have hp1 := kp _ _ hp
    refine wpAny_Tuple_spliced (Calls.spliced_cons ?_)
    refine wpAny_Call_Name_kw (Calls.Name_function_global hk hl2 (Calls.loadGlobal_builtin hg1 hmg hb1 hmb ?_))
    refine PyProof.Rows.callWith_builtin1 (Calls.spliced_cons (wpAny_Name (wpAny_loadName_local hk hl1 hns rfl (Calls.spliced_nil ?_))))
    have hl := hv.length
    have hll : (intsV l).length = l.length := List.length_map _
    have hn := line63
    refine Calls.call_len_list (items := its.toArray) ⟨_, hp1, rfl, n, rfl⟩ (by rw [List.size_toArray]; omega) ?_
    refine Calls.spliced_cons (wpAny_Name (wpAny_loadName_local hk hl1 hns rfl (Calls.spliced_nil ⟨by show 2 ≤ sizeLine; decide, _, rfl, ?_⟩)))
    have e0 : ((its.toArray.size : Nat) : Int) = (l.length : Int) := by rw [List.size_toArray, ← hl, hll]
    refine ⟨_, _, [p], rfl, fun b o e => Heap.get?_push_of_some _ (kp b o e), ?_, fun x hx => by rw [List.mem_singleton.mp hx]; exact hps⟩
    refine Reads.tuple (Heap.get?_push_size _ rfl) rfl rfl ?_
    show ReadsAll _ [Value.int ((its.toArray.size : Nat) : Int) _, .ref p] [.int (l.length : Int), .list (l.map fun n : Nat => PyData.int (Int.ofNat n))] [p]
    rw [e0]
    refine ReadsAll.cons (as := []) (bs := [p]) (.int _ _) (ReadsAll.cons (as := [p]) (bs := []) (Reads.list (as := []) (Heap.get?_push_of_some _ hp1) rfl rfl (reads_ints hv)) .nil)
  · obtain ⟨v, rfl, hq⟩ := hq
    exact hq
end K82
end
section
set_option maxRecDepth 100000
set_option maxHeartbeats 4000000
/-! _law_masks. -/
namespace K82
open PySem PySem.Spec PyProof.Rows L2 Evl NdefX LamX
def masksOf : List Nat → List (List Nat) → List (List Nat)
  | [], L => L
  | n :: r, L => masksOf r (L ++ L.map fun m => m ++ [n])
abbrev Lots := List (Addr × List Nat)
def LotsAt (H : Hp) (q : Addr) (bs : Lots) : Prop := H q = some (.lst (bs.map fun b => V.ref b.1)) ∧ ∀ b ∈ bs, H b.1 = some (.lst (intsV b.2))
theorem LotsAt.ext {H H' : Hp} {q : Addr} {bs : Lots} (e : ExtN H H') (h : LotsAt H q bs) : LotsAt H' q bs := ⟨e _ _ h.1 (fun ps z => by cases z), fun b hb => e _ _ (h.2 b hb) (fun ps z => by cases z)⟩
theorem key_le {a b : List Nat} (h : PySem.W.dataLe false (fun x : Addr × List Nat => keyD x.2) (0, a) (0, b) = true) : a.length ≤ b.length := by
  rw [PySem.W.dataLe_eq] at h
  have h : (!PySem.W.dataLt (keyD b) (keyD a)) = true := h
  unfold keyD at h
  rw [PySem.W.dataLt_pair (by simp [PySem.W.alike]) (by
    simp only [PySem.W.alike]
    have := PySem.W.alike_ints (b.map fun n : Nat => Int.ofNat n) (a.map fun n : Nat => Int.ofNat n)
    rw [List.map_map, List.map_map] at this
    exact this)] at h
  by_cases e : a.length ≤ b.length
  · exact e
  · exfalso
    have e1 : PyData.eqv (.int (b.length : Int)) (.int (a.length : Int)) = false := by
      have : ¬ (b.length : Int) = (a.length : Int) := by omega
      simp [PyData.eqv, this]
    rw [e1, if_neg (by decide), PySem.W.dataLt_int, decide_eq_true (by omega)] at h
    cases h
def tSortL (T : List NTab) (te : TE) : TE := fun σ H Q => te σ H fun x H1 => ∃ (a : Addr) (bs : Lots), x = .ref a ∧ LotsAt H1 a bs ∧ (∀ b ∈ bs, b.2.length ≤ 1000) ∧ bs.length ≤ 100000 ∧ TabsN T H1 ∧
  ∀ (bs' : Lots) q H2, bs'.Perm bs → bs'.Pairwise (fun x y => x.2.length ≤ y.2.length) → ExtN H1 H2 → (∀ b, H2 b = none → H1 b = none) → TabsN T H2 → LotsAt H2 q bs' → H1 q = none → Q (.ref q) H2
theorem each_refs : ∀ {bs : Lots} {its : List Value}, Vals (bs.map fun b => V.ref b.1) its → PySem.W.EachIs (fun (v : Value) (b : Addr × List Nat) => v = .ref b.1) its bs
  | [], [], _ => .nil
  | [], _ :: _, r => by cases r
  | b :: r, its, h => by
    cases h with
    | cons q t => exact .cons q (each_refs t)
theorem each_out : ∀ {bs : Lots} {its : List Value}, PySem.W.EachIs (fun (v : Value) (b : Addr × List Nat) => v = .ref b.1) its bs → its = bs.map fun b => Value.ref b.1
  | [], _, .nil => rfl
  | b :: r, _, .cons q t => by rw [q, each_out t]; rfl
theorem vals_refs : ∀ bs : Lots, Vals (bs.map fun b => V.ref b.1) (bs.map fun b => Value.ref b.1)
  | [] => .nil
  | b :: r => .cons rfl (vals_refs r)
theorem key_alike {a b : List Nat} : PySem.W.alike (keyD a) (keyD b) = true := by
  unfold keyD
  have h := PySem.W.alike_ints (a.map fun n : Nat => Int.ofNat n) (b.map fun n : Nat => Int.ofNat n)
  rw [List.map_map, List.map_map] at h
  have h : PySem.W.alikeAll (a.map fun n : Nat => PyData.int (Int.ofNat n)) (b.map fun n : Nat => PyData.int (Int.ofNat n)) = true := h
  simp only [PySem.W.alike, PySem.W.alikeAll, Bool.true_and, Bool.and_true, h]
section
variable {X : Cx} {K : PySem.W.Frag}
theorem pe_sortLam {T : List NTab} {nm : Nat → Nat → Str} {c P : Addr} {k : Nat} {e : Expr} {te : TE} {params : Arguments} {scope : Scope} {lpos kpos np pos p1 p2 p3 p4 p5 : Pos} {x1} (TB : TabB X.base X.mg c P) (hcode : X.env.code = .ref c) (hm : (P, nm) ∈ T) (hn : nm lpos.line lpos.col = X.env.qual ++ "<lambda>") (hu : ∀ p ∈ T, p.1 = P → p.2 = nm)
    (hr : Room (k + 2) X.A) (hgs : Gl X "sorted") (hms : X.mg "sorted" = none) (hml : X.mg "len" = none) (he : PE X e te) (hdef : defaultsOf params X.env = ([], []))
    (hk : scope.kind = .function) (hcr : scope.isCoroutine = false) (hge : scope.isGenerator = false) (hcell : ∀ y ∈ scope.names, y.2 ≠ .cell) (hfree : ∀ y ∈ scope.names, y.2 ≠ .free) (hl1 : scope.names.lookup ("lot" : Str) = some .local) (hl2 : scope.names.lookup ("len" : Str) = some .globalImplicit)
    (hbind : ∀ (q : Str) (cl : List (Str × Addr)) (pm cv ctv v : Value), bindArgs (PySem.W.kla_fn "<lambda>" q params (.Tuple [.Call (.Name "len" p1) [.Name "lot" p2] [] p3, .Name "lot" p4] x1 p5) scope cl pm cv ctv) ⟨[v], []⟩ = pure [(("lot" : Str), v)])
    (hst : backTo pos (starEach [e] X.env) = (false, eval e X.env) :: backTo pos (starEach [] X.env) := by rfl) (hpl : (backTo pos (starEach [e] X.env)).any (·.1) = false := by rfl)
    (hkw : backToKw pos (keywordEach [⟨some "key", .Lambda params (.Tuple [.Call (.Name "len" p1) [.Name "lot" p2] [] p3, .Name "lot" p4] x1 p5) scope lpos, kpos⟩] X.env) = [(some ("key" : Str), do let v ← eval (.Lambda params (.Tuple [.Call (.Name "len" p1) [.Name "lot" p2] [] p3, .Name "lot" p4] x1 p5) scope lpos) X.env; standAt pos; pure v)] := by rfl) :
    PE X (.Call (.Name "sorted" np) [e] [⟨some "key", .Lambda params (.Tuple [.Call (.Name "len" p1) [.Name "lot" p2] [] p3, .Name "lot" p4] x1 p5) scope lpos, kpos⟩] pos) (tSortL T te) := by
  refine ⟨fun pins s σ H Q I h => ?_⟩
  refine wpAny_Call_Name_kw (ld_blt I hgs hms (u := .builtin "sorted") (by decide +kernel) ?_)
  refine PyProof.Rows.callWith_kw ?_ hst hpl (by rw [hkw] <;> rfl) (by rw [hkw] <;> rfl)
  rw [hst, hkw]
  refine Calls.spliced_cons (thn (he.run pins s σ H _ I h) fun u s1 ⟨v, H1, I1, r1, a, bs, ev, hb, hlen, hbl, hT, q⟩ => ?_)
  subst ev
  obtain rfl : u = Value.ref a := r1
  refine Calls.spliced_nil ?_
  refine wpAny_evalAll_cons (wpAny_bind (lam_makeN I1 TB hcode hm hn hu hT hdef (fun y hy e => absurd e (hfree y hy)) fun f c' pm ctv H2 s2 I2 e2 n2 T2 hf hfn hfr hco => ?_))
  refine wpAny_bind (wpAny_standAt (wpAny_pure (wpAny_evalAll_nil ?_)))
  show wpAny _ _ (call (.builtin "sorted") [.ref a] [(Str.ofString "key", .ref f)]) _ _ s2
  obtain ⟨hba, hbb⟩ := hb.ext e2
  obtain ⟨hz, its, n, rv, hoa⟩ := I2.hok a _ hba
  obtain ⟨mb, hmb1, hmb2⟩ := I2.mod.blt
  have hrec : s2.heap.CodeRec (.ref c') (X.env.qual ++ "<lambda>") := codeO_at I2.hok hco
  have lotObj : ∀ b ∈ bs, ∃ (us : List Value) (m : Nat), Vals (intsV b.2) us ∧ s2.heap.get? b.1 = some { cls := .type "list", data := .seq us.toArray m } ∧ us.length ≤ sizeLine := fun b hb => by
    obtain ⟨z1, us, m, r, ho⟩ := I2.hok _ _ (hbb b hb)
    exact ⟨us, m, r, ho, by rw [← r.length]; exact z1⟩
  have hR := each_refs rv
  have lz : bs.length ≤ sizeLine := by rw [List.length_map] at hz; exact hz
  refine sorted_keyS (s := s2) (b := false) (R := fun v x => v = Value.ref x.1) (fun x : Addr × List Nat => keyD x.2) ⟨_, hoa, rfl, n, rfl⟩ hR (PySem.W.AllAlike.of fun b b' => key_alike) (PySem.W.Sortable.tuples fun b => ⟨_, _, rfl⟩) lz (fun x hx => ?_) (PyProof.Rows.ksk_s1 _ _) (fun _ => PyProof.Rows.ksk_l1 _ _) (fun _ => PyProof.Rows.ksk_t1 _ _) (fun v x hv hx h tk kp => ?_) fun out cc h' tk kp hD hlo heo => ?_
  · have := hr.units
    have hd : (keyD x.2).depth ≤ 2 := by
      unfold keyD
      have := PySem.W.depth_ints (x.2.map fun n : Nat => Int.ofNat n)
      rw [List.map_map] at this
      have e : PyData.depthAll (List.map (fun n : Nat => PyData.int (Int.ofNat n)) x.2) = 0 := this
      simp only [PyData.depth, PyData.depthAll, e]; decide
    omega
  · subst hv
    obtain ⟨us, m, r, ho, hus⟩ := lotObj x hx
    exact key_turn (hr.in1.in1) (by have := hr.units; show X.A.units + 1 + 1 + 20 < _; omega) (kp _ _ hf) (hrec.keeps kp) (I2.nolimit.keeps kp) hk hcr hge hcell hl1 hl2 (hbind _ _ _ _ _) ((I2.mod.glob.keeps I2.bk).keeps kp) hml ((hmb1.keeps I2.bk).keeps kp) ((hmb2 _ (by decide +kernel)).trans (by decide +kernel)) (kp _ _ ho) (Heap.lt_size ho) r hus
  · obtain rfl := each_out heo
    have pw := PySem.W.sort_pairwise (PySem.W.sortLe_total (listOrd itemOrd) false fun x : Addr × List Nat => PySem.W.keyToks (keyD x.2)) bs
    have perm : (bs.mergeSort (PySem.W.dataLe false fun x : Addr × List Nat => keyD x.2)).Perm bs := List.mergeSort_perm bs _
    have nq : H2 (s2.heap.objs.size + 1) = none := I2.hok.fresh (Nat.le_succ _)
    refine ⟨.ref (s2.heap.objs.size + 1), upd H2 (s2.heap.objs.size + 1) (.lst ((bs.mergeSort (PySem.W.dataLe false fun x : Addr × List Nat => keyD x.2)).map fun b => V.ref b.1)), I2.laid (t' := tk) kp (Nat.le_succ _) ⟨by rw [List.length_map, perm.length_eq]; exact lz, _, cc, vals_refs _, hD⟩, rfl, ?_⟩
    have ex : ∀ b o, H2 b = some o → upd H2 (s2.heap.objs.size + 1) (.lst ((bs.mergeSort (PySem.W.dataLe false fun x : Addr × List Nat => keyD x.2)).map fun b => V.ref b.1)) b = some o := fun b o e => (upd_ne (ne_of_none e nq)).trans e
    refine q _ _ _ perm (pw.imp fun {x y} h => key_le (a := x.2) (b := y.2) h) (e2.trans (ExtN.of ex)) (fun b e => n2 b (upd_none e)) (T2.ext ex) ⟨upd_same, fun b hb => ex _ _ (hbb b (perm.mem_iff.mp hb))⟩ (n2 _ nq)
end
end K82
end
section
set_option maxRecDepth 100000
set_option maxHeartbeats 4000000
/-! _law_masks. -/
namespace K82
open PySem PySem.Spec PyProof.Rows L2 Evl NdefX LamX
theorem FunC.ok {P : Program} {w : World} {K : PySem.W.Frag} {mg : Str → Option Value} {base : Heap} {x qual : Str} {st : Stmt} {f c : Addr} {fd : FuncData} {N ps : List Str} {k : Nat} {sp : Sp} (F : FunC K x qual st f fd c) (S : FnScope N ps (defScope st)) (len : ∀ vs H Q E, sp vs H Q E → vs.length = ps.length)
    (hbody : ∀ (A : Around) (outer : List Env) (s : Shared) (H : Hp) (vs : List V) (Q : VK) (E : XK), Room k (A.deeper (envOfC qual (defScope st) s.heap.objs.size f (.ref c))) → sp vs H Q E →
      ∃ t, PSs (cxOf CX0 P w K mg base N qual (defScope st) f (.ref c) A outer s H E).nox (defBody st) t ∧ t { nx := fun _ H' => Q .non H', rt := Q } (L2.start N vs) H) : FnOk P w K mg base CX0 (k + 1) f fd ps sp := by
  obtain ⟨oc, od, kV, doc, pm, an, ct, osl, rfl, lk, hcd⟩ := F.ex
  refine fn_of lk hcd S len fun A outer s H vs Q E hr hsp => ?_
  obtain ⟨t, h, q⟩ := hbody A outer s H vs Q E hr hsp
  exact ⟨t, h.nox, q⟩
section
variable {K : PySem.W.Frag} {σ : L2.St} {H H' : Hp} {ta tb te tx td ty tk tv tl : TE} {t u : TT} {x y z v : V} {r : R2}
theorem el_cat {a : Addr} {xs ys : List V} (h : Ev ta σ H (.ref a)) (ha : H a = some (.lst xs)) (hb : EvL tb σ H ys) (hz : xs.length + ys.length ≤ 100000) : EvL (tOp rCat ta tb) σ H (xs ++ ys) := fun H1 e Q q =>
  h H1 e _ fun H2 e2 => hb H2 (e.trans e2) _ fun p H3 hp e3 h3 => ⟨a, p, xs, ys, rfl, rfl, ((e.trans e2).trans e3) _ _ ha, h3, sz_of hz, fun r hr => q r _ (fresh_back (e2.trans e3) hr) ((e2.trans e3).trans (Ex.new hr)) upd_same⟩
end
theorem lots_of {H : Hp} {g : Nat → List Nat} : ∀ {ix : List Nat} {acc : List V}, Paired (fun i x => ∃ q, x = V.ref q ∧ H q = some (.lst (intsV (g i)))) ix acc → ∃ bs : Lots, acc = bs.map (fun b => V.ref b.1) ∧ bs.map (·.2) = ix.map g ∧ ∀ b ∈ bs, H b.1 = some (.lst (intsV b.2))
  | [], _, .nil => ⟨[], rfl, rfl, fun b hb => by cases hb⟩
  | i :: r, _, .cons ⟨q, e, h⟩ t => by
    obtain ⟨bs, h1, h2, h3⟩ := lots_of t
    refine ⟨(q, g i) :: bs, by rw [e, h1]; rfl, by rw [List.map_cons, h2]; rfl, fun b hb => ?_⟩
    rcases List.mem_cons.mp hb with z | z
    · rw [z]; exact h
    · exact h3 b z
def spMasks (T : List NTab) : Sp := fun vs H Q _ => ∃ (p : Addr) (nms : List Nat), vs = [.ref p] ∧ H p = some (.lst (intsV nms)) ∧ nms.length ≤ 8 ∧ TabsN T H ∧
  ∀ (bs : Lots) q H2, (bs.map (·.2)).Perm (masksOf nms [[]]) → bs.Pairwise (fun x y => x.2.length ≤ y.2.length) → (∀ b ∈ bs, b.2.length ≤ 8) → bs.length ≤ 256 → ExtN H H2 → (∀ b, H2 b = none → H b = none) → TabsN T H2 → LotsAt H2 q bs → Q (.ref q) H2
structure TxtMs (mg : Str → Option Value) : Prop where
  srt : mg "sorted" = none
  len : mg "len" = none
def nmMasks (l c : Nat) : Str := ("_law_masks" : Str) ++ ".<locals>." ++ "<lambda>"
section
variable {P : Program} {w : World} {K : PySem.W.Frag} {mg : Str → Option Value} {base : Heap}
theorem scMasks : FnScope ["names", "lots", "name", "lot"] ["names"] (defScope sMasks) := ⟨rfl, rfl, rfl, by decide +kernel, rfl, by decide +kernel, by decide +kernel⟩
theorem ok_masks {N : List NTab} {f c Pt : Addr} {fd : FuncData} (F : FunC K "_law_masks" "_law_masks" sMasks f fd c) (T : TxtMs mg) (TB : TabB base mg c Pt) (hm : (Pt, nmMasks) ∈ N) (hu : ∀ p ∈ N, p.1 = Pt → p.2 = nmMasks) : FnOk P w K mg base CX0 3 f fd ["names"] (spMasks N) := by
  refine F.ok scMasks (fun vs H Q E h => ?_) (fun A outer s H vs Q E hr h => ?_)
  · obtain ⟨p, nms, rfl, _⟩ := h
    rfl
  · obtain ⟨p, nms, rfl, hp, hn, hT, k1⟩ := h
    refine ⟨_, pss_cons (ps_set (i := 1) scMasks.nd rfl (Or.inl rfl) (pe_lst (pa_cons (pe_lst pa_nil) pa_nil)))
        (pss_cons (ps_for PassesOwn.never rfl (pi_list (pv 0)) (pg_name (i := 2) scMasks.nd rfl (Or.inr rfl))
        (pss_one (ps_set (i := 1) scMasks.nd rfl (Or.inl rfl) (pe_op op_cat (pv 1) (pe_lc (own := [("lot", 3)]) (g := gName 3) (tt := tYes) rfl scMasks.nd (pi_list (pv 1)) (blkOk_by (N := ["names", "lots", "name", "lot"]) (sc := (defScope sMasks)) (by decide +kernel)) (fun _ _ _ _ _ => pg_name (i := 3) scMasks.nd rfl (Or.inl rfl)) (fun _ _ _ _ _ => pts_nil) (fun _ _ _ _ _ => pe_op op_cat (pv 3) (pe_lst (pa_cons (pv 2) pa_nil))))))))
        (pss_one (ps_ret (pe_sortLam (k := 0) (nm := nmMasks) TB rfl hm rfl hu hr rfl T.srt T.len (pv 1) rfl rfl rfl rfl (by decide +kernel) (by decide +kernel) rfl rfl (fun _ _ _ _ _ _ => rfl))))), ?_⟩
    refine ⟨Nat.zero_le _, fun l0 hl0 => ⟨by show 1 ≤ sizeLine; decide, fun lp hlp => ?_⟩⟩
    have n0 : l0 ≠ lp := ne_of_none upd_same hlp
    have e0 : Ex H (upd (upd H l0 (.lst [])) lp (.lst [.ref l0])) := (Ex.new hl0).trans (Ex.new hlp)
    have hnm : (intsV nms).length = nms.length := List.length_map _
    refine q_forLn (ev_var rfl) (sq_of (e0 _ _ hp))
      (fun i σ' H' => ∃ (lp : Addr) (bs : Lots) (v2 : Option V), σ' = [some (.ref p), some (.ref lp), v2, none] ∧ Ex H H' ∧ LotsAt H' lp bs ∧ masksOf (nms.drop i) (bs.map (·.2)) = masksOf nms [[]] ∧ bs.length = 2 ^ i ∧ ∀ b ∈ bs, b.2.length ≤ i)
      (fun H1 e => ⟨lp, [(l0, [])], none, rfl, e0.trans e, ⟨e _ _ upd_same, fun b hb => by rw [List.mem_singleton.mp hb]; exact e _ _ ((upd_ne n0).trans upd_same)⟩, rfl, rfl, fun b hb => by rw [List.mem_singleton.mp hb]; exact Nat.le_refl _⟩) ?_ ?_ ?_
    · rintro i σ' H' hi ⟨lp, bs, v2, rfl, e, _⟩
      exact sq_of (e _ _ hp)
    · rintro i x σ' H' hx ⟨lp, bs, v2, rfl, e, hb, hma, hlen, hle⟩
      obtain ⟨n, hni, rfl⟩ : ∃ n, nms[i]? = some n ∧ V.int (Int.ofNat n) = x := by
        have hx : ((nms.map fun n : Nat => V.int (Int.ofNat n)) : List V)[i]? = some x := hx
        rw [List.getElem?_map] at hx
        cases et : nms[i]? with
        | none => rw [et] at hx; cases hx
        | some t => rw [et] at hx; exact ⟨t, rfl, Option.some.inj hx⟩
      have hi8 : i < nms.length := (List.getElem?_eq_some_iff.mp hni).1
      have h256 : bs.length ≤ 128 := by
        rw [hlen]
        exact Nat.le_trans (Nat.pow_le_pow_right (by decide) (show i ≤ 7 by omega)) (by decide)
      have hbl : (bs.map fun b => V.ref b.1).length = bs.length := List.length_map _
      refine ⟨_, rfl, ?_⟩
      refine ec_lcL (K := K) (σ := [some (.ref p), some (.ref lp), some (.int (Int.ofNat n)), none]) (H := H') (tl := tVar 1) (te := tOp rCat (tVar 3) (tLst (tCons (tVar 2) tNil))) (j := 3) (vs := [3]) (fun _ => true) (fun i x H3 => ∃ q, x = V.ref q ∧ H3 q = some (.lst (intsV ((bs.getD i default).2 ++ [n])))) (ev_var rfl) (sq_of hb.1) (by omega) (fun _ => rfl) (fun i x H1 _ _ => et_yes) (fun j x H1 e1 hx _ => ?_) H' (Ex.refl _) _ fun q H2 acc hq e2 hq2 hacc => ?_
      · rw [List.getElem?_map] at hx
        cases ej : bs[j]? with
        | none => rw [ej] at hx; cases hx
        | some b =>
          rw [ej] at hx
          obtain rfl := Option.some.inj hx
          have eb : bs.getD j default = b := by rw [List.getD_eq_getElem?_getD, ej] <;> rfl
          rw [eb]
          have hbb := e1 _ _ (hb.2 b (List.mem_of_getElem? ej))
          have hi9 := hle b (List.mem_of_getElem? ej)
          have z := evf_l (el_cat (σ := [some (.ref p), some (.ref lp), some (.int (Int.ofNat n)), some (.ref b.1)]) (H := H1) (ta := tVar 3) (ev_var rfl) hbb (el_lst (ea_cons (ev_var (i := 2) rfl) ea_nil) (by show 1 ≤ 100000; decide)) (by have : (intsV b.2).length = b.2.length := List.length_map _; show (intsV b.2).length + 1 ≤ 100000; omega))
          have es : intsV (b.2 ++ [n]) = intsV b.2 ++ [V.int (Int.ofNat n)] := by unfold intsV; rw [List.map_append]; rfl
          rw [es]
          exact z
      · obtain ⟨bs2, ea, em, hb2⟩ := lots_of (H := H2) (g := fun i => (bs.getD i default).2 ++ [n]) (paired_mono hacc fun i x h => h H2 (But.of (Ex.refl _)))
        have hb2l : bs2.length = bs.length := by
          have z := congrArg List.length em
          rw [List.length_map, List.length_map, List.filter_eq_self.mpr (fun _ _ => rfl), List.length_range, hbl] at z
          exact z
        refine ⟨lp, q, _, _, rfl, rfl, e2 _ _ hb.1, hq2, sz_of (by rw [ea, List.length_map, List.length_map]; omega), fun r hr => ?_⟩
        have e3 : Ex H2 (upd H2 r (.lst (bs.map (fun b => V.ref b.1) ++ acc))) := Ex.new hr
        have em2 : bs2.map (·.2) = (bs.map (·.2)).map fun m => m ++ [n] := by
          rw [em, List.filter_eq_self.mpr (fun _ _ => rfl), hbl, List.map_map]
          exact range_map bs _ _ fun j b hj => by rw [List.getD_eq_getElem?_getD, hj] <;> rfl
        refine ⟨r, bs ++ bs2, _, rfl, (e.trans e2).trans e3, ⟨by rw [upd_same, ea, List.map_append], fun b hb' => ?_⟩, ?_, ?_, fun b hb' => ?_⟩
        · rcases List.mem_append.mp hb' with z | z
          · exact e3 _ _ (e2 _ _ (hb.2 b z))
          · exact e3 _ _ (hb2 b z)
        · rw [← hma, List.map_append, em2]
          have hd : nms.drop i = n :: nms.drop (i + 1) := by
            obtain ⟨hlt, he⟩ := List.getElem?_eq_some_iff.mp hni
            rw [List.drop_eq_getElem_cons hlt, he]
          rw [hd]
          rfl
        · rw [List.length_append, hb2l, hlen, Nat.pow_succ]
          omega
        · rcases List.mem_append.mp hb' with z | z
          · have := hle b z
            omega
          · have z2 : b.2 ∈ bs2.map (·.2) := List.mem_map.mpr ⟨b, z, rfl⟩
            rw [em2] at z2
            obtain ⟨m, hm1, hm2⟩ := List.mem_map.mp z2
            obtain ⟨b0, hb0, rfl⟩ := List.mem_map.mp hm1
            have := hle b0 hb0
            rw [← hm2, List.length_append]
            show b0.2.length + 1 ≤ i + 1
            omega
    · rintro σ' H' ⟨lp, bs, v2, rfl, e, hb, hma, hlen, hle⟩
      rw [hnm, List.drop_length] at hma
      rw [hnm] at hlen hle
      have hma : bs.map (·.2) = masksOf nms [[]] := hma
      refine ⟨_, rfl, lp, bs, rfl, hb, fun b hb' => by have := hle b hb'; omega, ?_, TabsN.ex hT e, fun bs' q H2 perm pw e2 n2 T2 hl2 _ => ?_⟩
      · rw [hlen]
        exact Nat.le_trans (Nat.pow_le_pow_right (by decide) hn) (by decide)
      · refine k1 bs' q H2 (by rw [← hma]; exact perm.map _) pw (fun b hb' => ?_) ?_ ((ExtN.ex e).trans e2) (fun b hb' => fresh_back e (n2 b hb')) T2 hl2
        · have := hle b (perm.mem_iff.mp hb')
          omega
        · rw [perm.length_eq, hlen]
          exact Nat.le_trans (Nat.pow_le_pow_right (by decide) hn) (by decide)
end
end K82
end
section
set_option maxRecDepth 100000
set_option maxHeartbeats 4000000
/-! _law_same, of things alike. -/
namespace K82
open PySem L2 Evl NdefX LamX
/-- plain data, and what represents it -/
inductive Dt where
  | int (i : Int)
  | str (x : Str)
  | num (a : Num)
  | lst (l : List Dt)
  | tup (l : List Dt)
mutual
def RepD (H : Hp) : Dt → V → Prop
  | .int i, v => v = .int i
  | .str x, v => v = .str x
  | .num a, v => ∃ p, v = .ref p ∧ H p = some (.dK (kv a)) ∧ NumOk a
  | .lst l, v => ∃ p xs, v = .ref p ∧ H p = some (.lst xs) ∧ l.length ≤ 1000 ∧ RepL H l xs
  | .tup l, v => ∃ p xs, v = .ref p ∧ H p = some (.tup xs) ∧ l.length ≤ 1000 ∧ RepL H l xs
def RepL (H : Hp) : List Dt → List V → Prop
  | [], xs => xs = []
  | d :: l, xs => ∃ x r, xs = x :: r ∧ RepD H d x ∧ RepL H l r
end
mutual
def Dt.deep : Dt → Nat
  | .int _ => 1
  | .str _ => 1
  | .num _ => 2
  | .lst l => Dt.deepL l + 1
  | .tup l => Dt.deepL l + 1
def Dt.deepL : List Dt → Nat
  | [] => 0
  | d :: l => max (Dt.deep d) (Dt.deepL l)
end
mutual
theorem RepD.ex {H H' : Hp} (e : Ex H H') : ∀ (d : Dt) (v : V), RepD H d v → RepD H' d v
  | .int _, _, h => h
  | .str _, _, h => h
  | .num _, _, ⟨p, h1, h2, h3⟩ => ⟨p, h1, e _ _ h2, h3⟩
  | .lst l, _, ⟨p, xs, h1, h2, h3, h4⟩ => ⟨p, xs, h1, e _ _ h2, h3, RepL.ex e l xs h4⟩
  | .tup l, _, ⟨p, xs, h1, h2, h3, h4⟩ => ⟨p, xs, h1, e _ _ h2, h3, RepL.ex e l xs h4⟩
theorem RepL.ex {H H' : Hp} (e : Ex H H') : ∀ (l : List Dt) (xs : List V), RepL H l xs → RepL H' l xs
  | [], _, h => h
  | d :: l, _, ⟨x, r, h1, h2, h3⟩ => ⟨x, r, h1, RepD.ex e d x h2, RepL.ex e l r h3⟩
end
theorem RepL.len {H : Hp} : ∀ {l : List Dt} {xs : List V}, RepL H l xs → xs.length = l.length
  | [], xs, h => congrArg List.length (show xs = [] from h)
  | d :: l, _, ⟨x, r, h1, h2, h3⟩ => by rw [h1, List.length_cons, List.length_cons, RepL.len h3]
theorem RepL.get {H : Hp} : ∀ {l : List Dt} {xs : List V} {i : Nat} {d : Dt}, RepL H l xs → l[i]? = some d → ∃ x, xs[i]? = some x ∧ RepD H d x
  | [], _, i, _, _, h => by simp at h
  | d :: l, _, 0, _, ⟨x, r, h1, h2, h3⟩, h => by
    obtain rfl : d = _ := by simpa using h
    exact ⟨x, by rw [h1]; rfl, h2⟩
  | d :: l, _, i + 1, d', ⟨x, r, h1, h2, h3⟩, h => by
    obtain ⟨y, k1, k2⟩ := RepL.get (i := i) h3 (by simpa using h)
    exact ⟨y, by rw [h1]; simpa using k1, k2⟩
theorem deepL_get : ∀ {l : List Dt} {i : Nat} {d : Dt}, l[i]? = some d → d.deep ≤ Dt.deepL l
  | [], i, _, h => by simp at h
  | d :: l, 0, _, h => by
    obtain rfl : d = _ := by simpa using h
    show d.deep ≤ max d.deep (Dt.deepL l)
    omega
  | d :: l, i + 1, d', h => by
    have := deepL_get (l := l) (i := i) (by simpa using h)
    show d'.deep ≤ max d.deep (Dt.deepL l)
    omega
def rIxB (K : PySem.W.Frag) : R2 := fun x y H Q => rIxL K x y H Q ∨ rIxT K x y H Q
theorem ix_both {X : Cx} : IxR X (rIxB X.K) := by
  intro value slice pins s σ H x y v u Q I rx ry h hs
  rcases h with h | h
  · exact ix_list value slice pins s σ H x y v u Q I rx ry h hs
  · exact ix_tup value slice pins s σ H x y v u Q I rx ry h hs
def SeqAt (K : PySem.W.Frag) (H : Hp) (p : Addr) (xs : List V) : Prop := SqL K H p xs ∨ SqT K H p xs
theorem SeqAt.ex {K : PySem.W.Frag} {A B : Hp} {p : Addr} {xs : List V} (e : Ex A B) (h : SeqAt K A p xs) : SeqAt K B p xs := h.imp (ex_l e) (ex_t e)
section
variable {K : PySem.W.Frag} {σ : L2.St} {H : Hp} {ta tb : TE} {v : V}
theorem ev_lenB {p : Addr} {xs : List V} (ha : Ev ta σ H (.ref p)) (h : SeqAt K H p xs) : Ev (tCB (rLenS K) (tCons ta tNil)) σ H (.int (xs.length : Nat)) := fun H1 e Q q =>
  ha H1 e _ fun H2 e2 => ⟨p, xs, rfl, h.ex (e.trans e2), q H2 e2⟩
theorem ev_ixB {p : Addr} {xs : List V} {i : Int} (h : Ev ta σ H (.ref p)) (hi : Ev tb σ H (.int i)) (hx : SeqAt K H p xs) (ha : atI xs i = some v) : Ev (tOp (rIxB K) ta tb) σ H v :=
  ev_op h hi fun H1 e Q q => (hx.ex e).imp (fun z => ⟨p, xs, i, v, rfl, rfl, z, ha, q H1 (Ex.refl _)⟩) fun z => ⟨p, xs, i, v, rfl, rfl, z, ha, q H1 (Ex.refl _)⟩
end
/-- what the tests tell of a value -/
structure Kinds (a : String) (bi bs bd bt bl : Bool) : Prop where
  b : kitB a "bool" = some false
  i : kitB a "int" = some bi
  s : kitB a "str" = some bs
  d : kitB a "dict" = some bd
  t : kitB a "tuple" = some bt
  l : kitB a "list" = some bl
theorem kinds_int : Kinds "int" true false false false false := ⟨by decide +kernel, by decide +kernel, by decide +kernel, by decide +kernel, by decide +kernel, by decide +kernel⟩
theorem kinds_str : Kinds "str" false true false false false := ⟨by decide +kernel, by decide +kernel, by decide +kernel, by decide +kernel, by decide +kernel, by decide +kernel⟩
theorem kinds_dict : Kinds "dict" false false true false false := ⟨by decide +kernel, by decide +kernel, by decide +kernel, by decide +kernel, by decide +kernel, by decide +kernel⟩
theorem kinds_tup : Kinds "tuple" false false false true false := ⟨by decide +kernel, by decide +kernel, by decide +kernel, by decide +kernel, by decide +kernel, by decide +kernel⟩
theorem kinds_lst : Kinds "list" false false false false true := ⟨by decide +kernel, by decide +kernel, by decide +kernel, by decide +kernel, by decide +kernel, by decide +kernel⟩
def spSame (n : Nat) : Sp := fun vs H Q _ => ∃ (x y : V) (d : Dt), vs = [x, y] ∧ d.deep ≤ n ∧ RepD H d x ∧ RepD H d y ∧ RetV (.bl true) H Q
structure TxtD (K : PySem.W.Frag) (mg : Str → Option Value) (fS : Addr) : Prop extends TxtG mg where
  str : mg "str" = none
  dct : mg "dict" = none
  tup : mg "tuple" = none
  mS : mg "_law_same" = some (.ref fS)
  kS : PySem.W.keepIn K (.ref fS) = true
section
variable {P : Program} {w : World} {K : PySem.W.Frag} {mg : Str → Option Value} {base : Heap}
theorem scSame : FnScope ["answer", "due", "key", "at"] ["answer", "due"] (defScope sSame) := ⟨rfl, rfl, rfl, by decide +kernel, rfl, by decide +kernel, by decide +kernel⟩
theorem ok_same1 {f : Addr} {fd : FuncData} (F : Fun K "_law_same" "_law_same" sSame f fd) (T : TxtD K mg f) (bS : Binds K fd ["answer", "due"] []) (n : Nat) (GS : FnOk P w K mg base CX0 n f fd ["answer", "due"] (spSame n)) : FnOk P w K mg base CX0 (n + 1) f fd ["answer", "due"] (spSame (n + 1)) := by
  refine F.ok scSame (fun vs H Q E h => ?_) (fun cdv A outer s H vs Q E hr h => ?_)
  · obtain ⟨x, y, d, rfl, _⟩ := h
    rfl
  · obtain ⟨x, y, d, rfl, hd, hx, hy, k1⟩ := h
    have hu := hu_of hr
    refine ⟨_, pss_cons (ps_if (PW.pt (pw_or (pt_cmpR op_isN (pv 1) pe_non (nomark _)) (pw_or1 (pt_cmpR op_isN (pv 0) pe_non (nomark _)))))
        (pss_one (ps_ret (pe_and (pe_cmpR op_isN (pv 1) pe_non (nomark _)) (pe_one (pe_cmpR op_isN (pv 0) pe_non (nomark _))))))
        pss_nil)
        (pss_cons (ps_if (PW.pt (pw_or (pt_val (pe_callB call_isi (by rfl) T.isi (by decide +kernel) (pa_cons (pv 1) (pa_cons (pe_bltn (v := .ty "bool") (u := .type "bool") (by rfl) T.bol (by decide +kernel) rfl) pa_nil)))) (pw_or1 (pt_val (pe_callB call_isi (by rfl) T.isi (by decide +kernel) (pa_cons (pv 0) (pa_cons (pe_bltn (v := .ty "bool") (u := .type "bool") (by rfl) T.bol (by decide +kernel) rfl) pa_nil)))))))
        (pss_one (ps_ret (pe_and (pe_callB call_isi (by rfl) T.isi (by decide +kernel) (pa_cons (pv 1) (pa_cons (pe_bltn (v := .ty "bool") (u := .type "bool") (by rfl) T.bol (by decide +kernel) rfl) pa_nil))) (pe_and (pe_callB call_isi (by rfl) T.isi (by decide +kernel) (pa_cons (pv 0) (pa_cons (pe_bltn (v := .ty "bool") (u := .type "bool") (by rfl) T.bol (by decide +kernel) rfl) pa_nil))) (pe_one (pe_cmpR op_eq (pv 0) (pv 1) (nomark _)))))))
        pss_nil)
        (pss_cons (ps_if (pt_val (pe_callB call_isi (by rfl) T.isi (by decide +kernel) (pa_cons (pv 1) (pa_cons (pe_bltn (v := .ty "int") (u := .type "int") (by rfl) T.int (by decide +kernel) rfl) pa_nil))))
        (pss_one (ps_ret (pe_and (pe_callB call_isi (by rfl) T.isi (by decide +kernel) (pa_cons (pv 0) (pa_cons (pe_bltn (v := .ty "int") (u := .type "int") (by rfl) T.int (by decide +kernel) rfl) pa_nil))) (pe_one (pe_cmpR op_eq (pv 0) (pv 1) (nomark _))))))
        pss_nil)
        (pss_cons (ps_if (pt_val (pe_callB call_isi (by rfl) T.isi (by decide +kernel) (pa_cons (pv 1) (pa_cons (pe_bltn (v := .ty "str") (u := .type "str") (by rfl) T.str (by decide +kernel) rfl) pa_nil))))
        (pss_one (ps_ret (pe_and (pe_callB call_isi (by rfl) T.isi (by decide +kernel) (pa_cons (pv 0) (pa_cons (pe_bltn (v := .ty "str") (u := .type "str") (by rfl) T.str (by decide +kernel) rfl) pa_nil))) (pe_one (pe_cmpR op_eq (pv 0) (pv 1) (nomark _))))))
        pss_nil)
        (pss_cons (ps_if (pt_val (pe_callB call_isi (by rfl) T.isi (by decide +kernel) (pa_cons (pv 1) (pa_cons (pe_bltn (v := .ty "dict") (u := .type "dict") (by rfl) T.dct (by decide +kernel) rfl) pa_nil))))
        (pss_cons (ps_if (PW.pt (pw_or (pt_not (pt_val (pe_callB call_isi (by rfl) T.isi (by decide +kernel) (pa_cons (pv 0) (pa_cons (pe_bltn (v := .ty "dict") (u := .type "dict") (by rfl) T.dct (by decide +kernel) rfl) pa_nil))))) (pw_or1 (pt_cmpR op_ne (pe_callB call_lenD (by rfl) T.len (by decide +kernel) (pa_cons (pv 0) pa_nil)) (pe_callB call_lenD (by rfl) T.len (by decide +kernel) (pa_cons (pv 1) pa_nil)) (nomark _)))))
        (pss_one (ps_ret pe_bl))
        pss_nil)
        (pss_one (ps_ret (pe_callB (cr_all rfl) (by rfl) T.all (by decide +kernel) (pa_cons (pe_lock (pe_lc (own := [("key", 2)]) (g := gName 2) (tt := tYes) rfl scSame.nd (pi_keys (pv 1)) (blkOk_by (N := ["answer", "due", "key", "at"]) (sc := (defScope sSame)) (by decide +kernel)) (fun _ _ _ _ _ => pg_name (i := 2) scSame.nd rfl (Or.inl rfl)) (fun _ _ _ _ _ => pts_nil) (fun _ _ _ _ _ => pe_and (pe_cmp (pc_din hu (pv 2) (pv 0)) rfl) (pe_one (pe_call GS hr rfl T.mS T.kS bS .nil pass0 (pa_cons (pe_dget hu (pv 0) (pv 2) (fun _ _ => rfl)) (pa_cons (pe_dget hu (pv 1) (pv 2) (fun _ _ => rfl)) pa_nil))))))) pa_nil)))))
        pss_nil)
        (pss_cons (ps_if (PW.pt (pw_and (pt_val (pe_callB call_isi (by rfl) T.isi (by decide +kernel) (pa_cons (pv 1) (pa_cons (pe_bltn (v := .ty "tuple") (u := .type "tuple") (by rfl) T.tup (by decide +kernel) rfl) pa_nil)))) (pw_and1 (pt_not (pt_val (pe_callB call_isi (by rfl) T.isi (by decide +kernel) (pa_cons (pv 0) (pa_cons (pe_bltn (v := .ty "tuple") (u := .type "tuple") (by rfl) T.tup (by decide +kernel) rfl) pa_nil))))))))
        (pss_one (ps_ret pe_bl))
        pss_nil)
        (pss_cons (ps_if (PW.pt (pw_and (pt_val (pe_callB call_isi (by rfl) T.isi (by decide +kernel) (pa_cons (pv 1) (pa_cons (pe_bltn (v := .ty "list") (u := .type "list") (by rfl) T.lst (by decide +kernel) rfl) pa_nil)))) (pw_and1 (pt_not (pt_val (pe_callB call_isi (by rfl) T.isi (by decide +kernel) (pa_cons (pv 0) (pa_cons (pe_bltn (v := .ty "list") (u := .type "list") (by rfl) T.lst (by decide +kernel) rfl) pa_nil))))))))
        (pss_one (ps_ret pe_bl))
        pss_nil)
        (pss_one (ps_ret (pe_and (pe_cmpR op_eq (pe_callB call_len_seq (by rfl) T.len (by decide +kernel) (pa_cons (pv 0) pa_nil)) (pe_callB call_len_seq (by rfl) T.len (by decide +kernel) (pa_cons (pv 1) pa_nil)) (nomark _)) (pe_one (pe_callB (cr_all rfl) (by rfl) T.all (by decide +kernel) (pa_cons (pe_lc (own := [("at", 3)]) (g := gName 3) (tt := tYes) rfl scSame.nd (pi_range1 rfl T.range (pa_cons (pe_callB call_len_seq (by rfl) T.len (by decide +kernel) (pa_cons (pv 1) pa_nil)) pa_nil)) (blkOk_by (N := ["answer", "due", "key", "at"]) (sc := (defScope sSame)) (by decide +kernel)) (fun _ _ _ _ _ => pg_name (i := 3) scSame.nd rfl (Or.inl rfl)) (fun _ _ _ _ _ => pts_nil) (fun _ _ _ _ _ => pe_call GS hr rfl T.mS T.kS bS .nil pass0 (pa_cons (pe_ix (show IxR _ (rIxB K) from ix_both) (pv 0) (pv 3) (fun _ _ => rfl)) (pa_cons (pe_ix (show IxR _ (rIxB K) from ix_both) (pv 1) (pv 3) (fun _ _ => rfl)) pa_nil)))) pa_nil)))))))))))), ?_⟩
    obtain ⟨a, bi, bs, bd, bt, bl, kk, tx, ty', xn, yn, cInt, cStr, cDict, cSeq⟩ : ∃ (a : String) (bi bs bd bt bl : Bool), Kinds a bi bs bd bt bl ∧ (∀ H1, Ex H H1 → TyX K H1 x (.type a)) ∧ (∀ H1, Ex H H1 → TyX K H1 y (.type a)) ∧ x ≠ .non ∧ y ≠ .non ∧
        (bi = true → ∃ i, x = .int i ∧ y = .int i) ∧ (bs = true → ∃ i, x = .str i ∧ y = .str i) ∧ (bd = true → ∃ p q a, x = .ref p ∧ y = .ref q ∧ H p = some (.dK (kv a)) ∧ H q = some (.dK (kv a)) ∧ NumOk a ∧ 1 ≤ n) ∧
        (bi = false → bs = false → bd = false → ∃ p q xs ys l, x = .ref p ∧ y = .ref q ∧ SeqAt K H p xs ∧ SeqAt K H q ys ∧ RepL H l xs ∧ RepL H l ys ∧ l.length ≤ 1000 ∧ Dt.deepL l ≤ n) := by
      have ff : ∀ {A : Prop}, false = true → A := fun z => by cases z
      have tt : ∀ {A : Prop}, true = false → A := fun z => by cases z
      cases d with
      | int i =>
        obtain rfl : x = .int i := hx
        obtain rfl : y = .int i := hy
        exact ⟨"int", _, _, _, _, _, kinds_int, ty_int, ty_int, (fun z => by cases z), (fun z => by cases z), fun _ => ⟨i, rfl, rfl⟩, ff, ff, tt⟩
      | str i =>
        obtain rfl : x = .str i := hx
        obtain rfl : y = .str i := hy
        exact ⟨"str", _, _, _, _, _, kinds_str, ty_str, ty_str, (fun z => by cases z), (fun z => by cases z), ff, fun _ => ⟨i, rfl, rfl⟩, ff, fun _ => tt⟩
      | num b =>
        obtain ⟨p, rfl, hp, ok⟩ := hx
        obtain ⟨q, rfl, hq, _⟩ := hy
        exact ⟨"dict", _, _, _, _, _, kinds_dict, ty_dK hp, ty_dK hq, (fun z => by cases z), (fun z => by cases z), ff, ff, fun _ => ⟨p, q, b, rfl, rfl, hp, hq, ok, by have : 2 ≤ n + 1 := hd; omega⟩, fun _ _ => tt⟩
      | lst l =>
        obtain ⟨p, xs, rfl, hp, hl, hr1⟩ := hx
        obtain ⟨q, ys, rfl, hq, _, hr2⟩ := hy
        exact ⟨"list", _, _, _, _, _, kinds_lst, ty_lst hp, ty_lst hq, (fun z => by cases z), (fun z => by cases z), ff, ff, ff, fun _ _ _ => ⟨p, q, xs, ys, l, rfl, rfl, .inl (sq_of hp), .inl (sq_of hq), hr1, hr2, hl, by have : Dt.deepL l + 1 ≤ n + 1 := hd; omega⟩⟩
      | tup l =>
        obtain ⟨p, xs, rfl, hp, hl, hr1⟩ := hx
        obtain ⟨q, ys, rfl, hq, _, hr2⟩ := hy
        exact ⟨"tuple", _, _, _, _, _, kinds_tup, ty_tup hp, ty_tup hq, (fun z => by cases z), (fun z => by cases z), ff, ff, ff, fun _ _ _ => ⟨p, q, xs, ys, l, rfl, rfl, .inr (st_of hp), .inr (st_of hq), hr1, hr2, hl, by have : Dt.deepL l + 1 ≤ n + 1 := hd; omega⟩⟩
    have isx : ∀ {T : String} {b : Bool}, kitB a T = some b → ∀ H1, Ex H H1 → Ev (tCB (rIsi K) (tCons (tVar 0) (tCons (tC (V.ty T)) tNil))) [some x, some y, none, none] H1 (.bl b) := fun k H1 e1 => ev_isi (ev_var rfl) (fun H2 e2 => tx H2 (e1.trans e2)) k
    have isy : ∀ {T : String} {b : Bool}, kitB a T = some b → ∀ H1, Ex H H1 → Ev (tCB (rIsi K) (tCons (tVar 1) (tCons (tC (V.ty T)) tNil))) [some x, some y, none, none] H1 (.bl b) := fun k H1 e1 => ev_isi (ev_var rfl) (fun H2 e2 => ty' H2 (e1.trans e2)) k
    refine q_when (b := decide (y = .non) || decide (x = .non)) (et_or (et_test (ev_op (ev_var rfl) ev_c (rv_val fun H1 e Q q => ⟨rfl, q⟩))) fun _ => et_test (ev_op (ev_var rfl) ev_c (rv_val fun H1 e Q q => ⟨rfl, q⟩))) (fun hz1 H1 e1 => ?_) (fun hz1 H1 e1 => ?_)
    · rw [decide_eq_false yn, decide_eq_false xn] at hz1
      cases hz1
    refine q_when (b := false || false) (et_or (et_B (isy kk.b _ e1)) fun _ => et_B (isx kk.b _ e1)) (fun hz2 H2 e2 => by cases hz2) (fun hz2 H2 e2 => ?_)
    have E2 := e1.trans e2
    refine q_when (b := bi) (et_B (isy kk.i _ E2)) (fun hb H3 e3 => ?_) (fun hb H3 e3 => ?_)
    · obtain ⟨i, rfl, rfl⟩ := cInt hb
      exact s_ret (v := .bl true) (ev_is (ev_andV (isx kk.i _ (E2.trans e3)) fun _ => ev_op (ev_var rfl) (ev_var rfl) (rv_eq rfl)) (by rw [hb]; simp)) fun H4 e4 => k1 _ ((E2.trans e3).trans e4)
    have E3 := E2.trans e3
    refine q_when (b := bs) (et_B (isy kk.s _ E3)) (fun hb' H4 e4 => ?_) (fun hb' H4 e4 => ?_)
    · obtain ⟨i, rfl, rfl⟩ := cStr hb'
      exact s_ret (v := .bl true) (ev_is (ev_andV (isx kk.s _ (E3.trans e4)) fun _ => ev_op (ev_var rfl) (ev_var rfl) (rv_eq rfl)) (by rw [hb']; simp)) fun H5 e5 => k1 _ ((E3.trans e4).trans e5)
    have E4 := E3.trans e4
    refine q_when (b := bd) (et_B (isy kk.d _ E4)) (fun hb'' H5 e5 => ?_) (fun hb'' H5 e5 => ?_)
    · obtain ⟨p, q, b, rfl, rfl, hp, hq, ok, hn1⟩ := cDict hb''
      have E5 := E4.trans e5
      have len0 : Ev (tCB (fun xs H Q => ∃ a kvs, xs = [V.ref a] ∧ H a = some (HO.dK kvs) ∧ Q (V.int (kvs.length : Nat)) H) (tCons (tVar 0) tNil)) [some (.ref p), some (.ref q), none, none] H5 (.int ((kv b).length : Nat)) := ev_cb (ea_cons (ev_var rfl) ea_nil) fun H1 e1 Q q => ⟨p, kv b, rfl, e1 _ _ (E5 _ _ hp), q _ (Ex.refl _)⟩
      have len1 : Ev (tCB (fun xs H Q => ∃ a kvs, xs = [V.ref a] ∧ H a = some (HO.dK kvs) ∧ Q (V.int (kvs.length : Nat)) H) (tCons (tVar 1) tNil)) [some (.ref p), some (.ref q), none, none] H5 (.int ((kv b).length : Nat)) := ev_cb (ea_cons (ev_var rfl) ea_nil) fun H1 e1 Q q' => ⟨q, kv b, rfl, e1 _ _ (E5 _ _ hq), q' _ (Ex.refl _)⟩
      refine q_when (b := !bd || !decide (V.int ((kv b).length : Nat) = V.int ((kv b).length : Nat))) (et_or (et_not (et_B (isx kk.d _ E5))) fun _ => et_test (ev_op len0 len1 (rv_ne rfl))) (fun hz H6 e6 => ?_) (fun _ H6 e6 => ?_)
      · rw [hb'', decide_eq_true rfl] at hz
        cases hz
      · have E6 := E5.trans e6
        have hgiv : given b.length (fun _ => true) (fun _ => V.bl true) = (List.replicate b.length true).map V.bl := by
          rw [given_all, List.map_replicate]
          exact List.ext_getElem (by simp) (fun i h1 h2 => by simp)
        have z := el_lcK (td := tVar 1) (t := tYes) (te := tAndV (tDIn (tVar 2) (tVar 0)) (tCall (spSame n) [] E0 (tCons (tDGet (tVar 0) (tVar 2)) (tCons (tDGet (tVar 1) (tVar 2)) tNil)))) (σ := [some (.ref p), some (.ref q), none, none]) (H := H6) (d := q) (a := b) (j := 2) (vs := [2]) (fun _ => true) (fun _ => V.bl true) (fun H1 => ev_var rfl) (E6 _ _ hq) (by have := ok.few; omega) (fun _ => rfl) (fun i p' o H1 _ _ => et_yes) (fun i r o H1 e1 hr _ => by
          have hlk : b.lookup r.1 = some r.2 := lookup_mem ok.nd (List.mem_of_getElem? hr)
          have rp : Rd H1 p (.dK (kv b)) := ex_rd e1 (rd_lock (E6 _ _ hq) (.inl (E6 _ _ hp)))
          have rq : Rd H1 q (.dK (kv b)) := .inr ⟨o, e1 q _ upd_same⟩
          refine ev_is (v := .bl (true && true)) (ev_andV ?_ fun _ => ?_) rfl
          · intro H2 e2 Q2 q2
            exact ⟨_, rfl, _, rfl, p, some (V.int r.2), rfl, .inl ⟨kv b, Sum.inr r.1, ex_rd e2 rp, rfl, by rw [valV_kv, hlk] <;> rfl⟩, q2 _ (Ex.refl _)⟩
          · refine ev_call (ea_cons (ev_dget (a := b) (p := r.1) (n := r.2) (ev_var rfl) (ev_var rfl) rp hlk) (ea_cons (ev_dget (a := b) (p := r.1) (n := r.2) (ev_var rfl) (ev_var rfl) rq hlk) ea_nil)) ?_
            intro H2 e2 Q2 q2 E2
            exact ⟨.int r.2, .int r.2, .int r.2, rfl, hn1, rfl, rfl, fun H3 e3 => q2 H3 e3⟩)
        rw [hgiv] at z
        have z2 := ev_all (K := K) z
        have all1 : ((List.replicate b.length true)).all id = true := List.all_eq_true.mpr fun x hx => (List.eq_of_mem_replicate hx)
        rw [all1] at z2
        exact s_ret z2 fun H7 e7 => k1 _ (E6.trans e7)
    have E5 := E4.trans e5
    obtain ⟨p, q, xs, ys, l, rfl, rfl, sx, sy, r1, r2, hl, hdl⟩ := cSeq hb hb' hb''
    refine q_when (b := bt && !bt) (et_and (et_B (isy kk.t _ E5)) fun _ => et_not (et_B (isx kk.t _ E5))) (fun hz H6 e6 => by cases bt <;> cases hz) (fun _ H6 e6 => ?_)
    have E6 := E5.trans e6
    refine q_when (b := bl && !bl) (et_and (et_B (isy kk.l _ E6)) fun _ => et_not (et_B (isx kk.l _ E6))) (fun hz H7 e7 => by cases bl <;> cases hz) (fun _ H7 e7 => ?_)
    have E7 := E6.trans e7
    have lx : xs.length = l.length := r1.len
    have ly : ys.length = l.length := r2.len
    have hgiv : given l.length (fun _ => true) (fun _ => V.bl true) = (List.replicate l.length true).map V.bl := by
      rw [given_all, List.map_replicate]
      exact List.ext_getElem (by simp) (fun i h1 h2 => by simp)
    have all1 : ((List.replicate l.length true)).all id = true := List.all_eq_true.mpr fun x hx => (List.eq_of_mem_replicate hx)
    have z := el_lcR1 (ta := tCons (tCB (rLenS K) (tCons (tVar 1) tNil)) tNil) (t := tYes) (te := tCall (spSame n) [] E0 (tCons (tOp (rIxB K) (tVar 0) (tVar 3)) (tCons (tOp (rIxB K) (tVar 1) (tVar 3)) tNil))) (σ := [some (.ref p), some (.ref q), none, none]) (H := H7) (n := (l.length : Int)) (j := 3) (vs := [3]) (fun _ => true) (fun _ => V.bl true)
      (ea_cons (by rw [← ly]; exact ev_lenB (ev_var rfl) (sy.ex E7)) ea_nil) ⟨by omega, by omega⟩ (fun _ => rfl) (fun i H1 _ _ => et_yes) (fun i H1 e1 hi _ => by
        have hi' : i < l.length := by omega
        obtain ⟨x, hx1, hx2⟩ := r1.get (List.getElem?_eq_getElem hi')
        obtain ⟨y, hy1, hy2⟩ := r2.get (List.getElem?_eq_getElem hi')
        refine ev_call (ea_cons (ev_ixB (i := (i : Int)) (ev_var rfl) (ev_var rfl) (sx.ex (E7.trans e1)) (atI_nat hx1)) (ea_cons (ev_ixB (i := (i : Int)) (ev_var rfl) (ev_var rfl) (sy.ex (E7.trans e1)) (atI_nat hy1)) ea_nil)) ?_
        intro H2 e2 Q2 q2 E2
        have ee := (E7.trans e1).trans e2
        exact ⟨x, y, l[i], rfl, Nat.le_trans (deepL_get (List.getElem?_eq_getElem hi')) hdl, hx2.ex ee, hy2.ex ee, fun H3 e3 => q2 H3 e3⟩)
    have en : (l.length : Int).toNat = l.length := by omega
    rw [en, hgiv] at z
    have z2 := ev_all (K := K) z
    rw [all1] at z2
    have zz : Ev _ [some (.ref p), some (.ref q), none, none] H7 (.bl true) := ev_is (ev_andV (a := decide (V.int (xs.length : Nat) = V.int (ys.length : Nat))) (b := true) (ev_op (ev_lenB (ev_var (i := 0) rfl) (sx.ex E7)) (ev_lenB (ev_var (i := 1) rfl) (sy.ex E7)) (rv_eq rfl)) fun _ => z2) (by rw [lx, ly, decide_eq_true rfl]; rfl)
    exact s_ret zz fun H8 e8 => k1 _ (E7.trans e8)
/-- of any depth -/
theorem ok_same {f : Addr} {fd : FuncData} (F : Fun K "_law_same" "_law_same" sSame f fd) (T : TxtD K mg f) (bS : Binds K fd ["answer", "due"] []) : ∀ n : Nat, FnOk P w K mg base CX0 n f fd ["answer", "due"] (spSame n)
  | 0 => by
    have no : ∀ d : Dt, ¬ d.deep ≤ 0 := fun d h => by
      cases d with
      | int i => exact absurd (show 1 ≤ 0 from h) (by decide)
      | str i => exact absurd (show 1 ≤ 0 from h) (by decide)
      | num i => exact absurd (show 2 ≤ 0 from h) (by decide)
      | lst l => exact absurd (show Dt.deepL l + 1 ≤ 0 from h) (by omega)
      | tup l => exact absurd (show Dt.deepL l + 1 ≤ 0 from h) (by omega)
    exact ⟨fun vs H Q E ⟨x, y, d, _, h, _⟩ => absurd h (no d), fun A outer s H args us vs Q E _ _ _ _ ⟨x, y, d, _, h, _⟩ => absurd h (no d)⟩
  | n + 1 => ok_same1 F T bS n (ok_same F T bS n)
end
end K82
end
section
set_option maxRecDepth 100000
set_option maxHeartbeats 4000000
/-! BadHost(what): its __init__ says super().__init__(..). -/
namespace K82
open PySem PySem.Spec PyProof.Rows L2 Evl NdefX LamX
abbrev hScope : Scope := C8.fnScope sHostInit
abbrev hBody : List Stmt := C8.fnBody sHostInit
abbrev hArgs : Arguments := C8.fnArgs sHostInit
abbrev hostF (cc cv : Addr) : NF := ⟨"__init__", "BadHost.__init__", hArgs, hBody, hScope, [("__class__", cc)], cv⟩
structure HostTxt (P : Program) (K : PySem.W.Frag) (mg : Str → Option Value) (C fI cc cv : Addr) : Prop where
  T : OexC K C
  noW : PySem.W.findIn K (.ref C) "what" = some none
  iC : PySem.W.findIn K (.ref C) "__init__" = some (some (.ref fI))
  tI : PySem.W.typeIn K (.ref fI) = some (.type "function")
  fn : ∃ (oc : Value) (od : Option Addr) (kV doc pm : Value) (an : Option Addr) (ct : Value) (osl : Array (Option Value)), K.lookup fI = some ⟨oc, od, .func (PySem.W.fnX "__init__" "BadHost.__init__" hArgs hBody hScope [("__class__", cc)] .none kV doc pm an (.ref cv) ct), osl⟩
  code : PySem.W.codeIn K (.ref cv) "BadHost.__init__" = true
  cell : ∃ oc : Obj, K.lookup cc = some oc ∧ oc.data = .cell (some (.ref C))
  file : ∃ (ov : Obj) (vs : Array Value) (file : Str) (tf : Tok), K.lookup cv = some ov ∧ ov.data = .fields vs ∧ vs[2]? = some (.str file tf) ∧ ((P.main.file : Str) == file) = true
  top : (P.main.scope.names.lookup ("super" : Str)).isSome = false
  sup : PySem.W.ks_superIn K C C "__init__" = some (some (.builtin "ValueError.__init__"))
  subV : PySem.W.subIn K (.ref C) (.type "ValueError") = some true
  subC : PySem.W.subIn K (.ref C) (.ref C) = some true
  stat : PySem.W.nsIn K PySem.cStatics "thirdparty.any" = some none
  mS : mg "super" = none
  mC : mg "BadHost" = some (.ref C)
def spInit (C : Addr) : Sp := fun vs H Q _ => ∃ (a : Addr) (m : Str), vs = [.ref a, .str m] ∧ m.length ≤ 1000 ∧ H a = some (exo a C none) ∧ ∀ dx, H dx = none → dx ≠ a → Q .non (upd (upd H dx (exd dx [("what", .str m)])) a (exo a C (some dx)))
theorem scInit : NScope ["self", "what", "__class__"] ["self", "what"] ["__class__"] hScope := nscope_by (by decide +kernel)
theorem loadName_glb {M : Model} {A : Around} {E : Value → Shared → Prop} {s : Shared} {env : Env} {x : Str} {Q : Value → Shared → Prop} (hk : env.scope.kind = .function) (hx : env.kindOf x = some .globalImplicit) (h : wpAny M A (loadGlobal env x) Q E s) : wpAny M A (loadName env x) Q E s := by
  unfold loadName
  simp only [Env.blockKind, hk, hx, ScopeKind.isAnnotationScope, Bool.false_and, Bool.false_eq_true, if_false]
  exact h
section
variable {P : Program} {w : World} {K : PySem.W.Frag} {mg : Str → Option Value} {base : Heap}
theorem ok_init {C fI cc cv : Addr} (T : HostTxt P K mg C fI cc cv) : ∃ fd, FnOk P w K mg base CX0 1 fI fd ["self", "what"] (spInit C) ∧ Binds K fd ["self", "what"] [] := by
  obtain ⟨oc, od, kV, doc, pm, an, ct, osl, lk⟩ := T.fn
  refine ⟨PySem.W.fnX "__init__" "BadHost.__init__" hArgs hBody hScope [("__class__", cc)] .none kV doc pm an (.ref cv) ct, ⟨fun vs H Q E h => by obtain ⟨_, _, rfl, _⟩ := h; rfl, fun A outer s H args us vs Q E hr e0 hb r hsp => ?_⟩, .all fun us hl => match us, hl with | [_, _], _ => rfl⟩
  obtain ⟨a, m, rfl, hm, ha, q⟩ := hsp
  have KX : K.In s.heap := e0.mod.kin.keeps fun b o e => (e0.bs b o e).1
  have lim : s.heap.NoLimit := e0.mod.nolimit.keeps fun b o e => (e0.bs b o e).1
  have hl : us.length = 2 := by rw [← r.length]; rfl
  obtain ⟨occ, lcc, dcc⟩ := T.cell
  have C1 : CellsAt (hostF cc cv).cl ["__class__"] [some (.ref C)] s.heap H := by
    refine ⟨rfl, fun y a e => ?_, fun x y a e1 e2 => ?_, fun i y e => ?_⟩
    · have e : ([(("__class__" : Str), cc)] : List (Str × Addr)).lookup y = some a := e
      have e2 : a = cc := by
        simp only [List.lookup] at e
        split at e
        · exact (Option.some.inj e).symm
        · cases e
      rw [e2]
      exact ⟨(e0.bs _ _ (e0.mod.kin _ _ lcc)).2, _, occ, KX _ _ lcc, dcc⟩
    · have e1 : ([(("__class__" : Str), cc)] : List (Str × Addr)).lookup x = some a := e1
      have e2 : ([(("__class__" : Str), cc)] : List (Str × Addr)).lookup y = some a := e2
      simp only [List.lookup] at e1 e2
      split at e1
      · rename_i h1
        split at e2
        · rename_i h2
          rw [eq_of_beq h1, eq_of_beq h2]
        · cases e2
      · cases e1
    · cases i with
      | zero =>
        obtain rfl : ("__class__" : Str) = y := Option.some.inj e
        refine ⟨cc, rfl, fun v ev => ?_⟩
        obtain rfl : V.ref C = v := Option.some.inj (Option.some.inj ev)
        exact ⟨_, rfl, occ, KX _ _ lcc, dcc⟩
      | succ i => simp at e
  refine codeAny_call_function hr.depth (KX _ _ lk) rfl scInit.co scInit.gen rfl (PySem.W.codeRec_of KX T.code) (hb _ _ _ _ ?_)
  refine wpAny_newFunctionEnv scInit.nocell (fun ⟨n, _⟩ hy => scInit.par n (List.of_mem_zip hy).1) (fun h₁ hns hsb => ⟨lim.fresh _ hsb, ?_⟩) scInit.kind
  have kp : ∀ b o, s.heap.get? b = some o → h₁.get? b = some o := fun b o e => hsb.extBut b o (Nat.ne_of_lt (Heap.lt_size e)) (Heap.get?_push_of_some _ e)
  have I : Inv (ncx CX0 P w K mg base ["self", "what", "__class__"] (hostF cc cv) fI A outer s H E) [] (startF ["self", "what", "__class__"] [.ref a, .str m] [some (.ref C)]) H { s with heap := h₁, toks := s.toks + ((["self", "what"] : List Str).zip us).length } := inv_startN scInit hr.hd e0 rfl r C1 hns kp
  show codeAny _ _ (.func hBody (envF (hostF cc cv) fI s.heap.objs.size)) _ _
  have hb2 : hBody = [hBody.getD 0 (.Pass ⟨0, 0, 0, 0⟩), hBody.getD 1 (.Pass ⟨0, 0, 0, 0⟩)] := rfl
  refine PySem.ks_codeAny_funcAt ?_
  obtain ⟨ov, ovs, file, tf, lv, dv, fv, hfile⟩ := T.file
  rw [hb2]
  refine PySem.ks_wpAt_execs_cons (PySem.ks_wpAt_Expr_any (PySem.ks_wpAt_MethodCall (PySem.ks_wpAt_super_base (f := fI) (cc := cv) rfl rfl rfl rfl (kp _ _ (KX _ _ lk)) rfl rfl rfl (kp _ _ (KX _ _ lv)) dv fv hfile T.top ?_)))
  obtain ⟨mb, hmb1, hmb2⟩ := I.mod.blt
  obtain ⟨cd, hcd, hsup⟩ : ∃ cd, PySem.W.clsIn K C = some cd ∧ PySem.W.alongIn K "__init__" ((cd.mro.dropWhile (· != .ref C)).drop 1) = some (some (.builtin "ValueError.__init__")) := by
    have z := T.sup
    unfold PySem.W.ks_superIn at z
    cases e : PySem.W.clsIn K C with
    | none => rw [e] at z; cases z
    | some cd => rw [e] at z; exact ⟨cd, rfl, z⟩
  obtain ⟨oC, hoC, dC⟩ : ∃ oC, K.lookup C = some oC ∧ oC.data = .cls cd := by
    unfold PySem.W.clsIn at hcd
    split at hcd
    · rename_i a1 a2 cd' a3 e
      obtain rfl := Option.some.inj hcd
      exact ⟨_, e, rfl⟩
    · cases hcd
  obtain ⟨t1, hoa⟩ := exo_at I.hok ha
  have K1 : K.In h₁ := KX.keeps kp
  refine loadName_glb rfl rfl (Calls.loadGlobal_builtin (I.mod.glob.keeps I.bk) T.mS (hmb1.keeps I.bk) ((hmb2 _ (by decide +kernel)).trans (by decide +kernel)) ⟨rfl, ?_⟩)
  refine wpAny_loadName_free rfl rfl rfl ⟨occ, K1 _ _ lcc, dcc⟩ ?_ (by decide +kernel)
  refine wpAny_loadName_local (m := fun y => ((["self", "what"] : List Str).zip us).reverse.lookup y) (v := .ref a) rfl rfl hns ?_ ?_
  · obtain ⟨u0, hu0, e0'⟩ := r.get (i := 0) (x := .ref a) rfl
    obtain rfl : u0 = Value.ref a := e0'
    exact zip_look (i := 0) (by decide +kernel) rfl hu0
  refine PySem.ks_wpAny_isType_cls (K1 _ _ hoC) dC ⟨rfl, ?_⟩
  refine PySem.ks_wpAny_call_super (D := C) (x := a) (C := C) (K1 _ _ hoC) dC hoa rfl (fun c z => by cases z) (PySem.W.looks_subIn K1 T.subC) fun h2 hso k2 => ?_
  have K2 : K.In h2 := K1.keeps k2
  have hoa2 := k2 _ _ hoa
  have inst : PySem.W.InstAt h2 a ({ cls := .ref C, dict := none, data := .fields #[.ref t1, .none, .none, .none, .bool false, .none] } : Obj) C none := ⟨hoa2, rfl, rfl, trivial⟩
  have hI2 : PySem.W.Looks (model P w) h2 (isInstance (.ref a) (.type "ValueError")) true := inst.type.andThen (PySem.W.looks_subIn K2 T.subV)
  refine PySem.W.kxs_getMethod PySem.W.kxs_ValueError hso (PySem.W.looks_opaque K2 T.stat) (l₀ := cd.mro) (l := (cd.mro.dropWhile (· != .ref C)).drop 1) ((PySem.W.looks_clsIn K2 hcd).andThen .now) rfl K2 hsup hI2 (PySem.W.ks_ne K2 inst hcd) (by decide +kernel) ?_
  have k3 : ∀ b o, h₁.get? b = some o → (h2.push (PySem.W.kxs_mw "ValueError.__init__" a)).get? b = some o := fun b o e => Heap.get?_push_of_some _ (k2 b o e)
  have I3 := I.kept (h' := h2.push (PySem.W.kxs_mw "ValueError.__init__" a)) (t' := s.toks + ((["self", "what"] : List Str).zip us).length + 1) k3
  have sz : h₁.objs.size ≤ h2.objs.size := Nat.le_of_lt_succ (by
    have z := Heap.lt_size hso
    exact Nat.lt_succ_of_lt z)
  have hu3 : (h2.push (PySem.W.kxs_mw "ValueError.__init__" a)).get? h2.objs.size = some (PySem.W.kxs_mw "ValueError.__init__" a) := Heap.get?_push_size _ rfl
  have I4 : Inv (ncx CX0 P w K mg base ["self", "what", "__class__"] (hostF cc cv) fI A outer s H E) [(h2.objs.size, PySem.W.kxs_mw "ValueError.__init__" a)] (startF ["self", "what", "__class__"] [.ref a, .str m] [some (.ref C)]) H { s with heap := h2.push (PySem.W.kxs_mw "ValueError.__init__" a), toks := s.toks + ((["self", "what"] : List Str).zip us).length + 1 } :=
    ⟨I3.ok, I3.os, I3.bare, I3.base, I3.loc, I3.cell, I3.free, I3.freeC, fun q hq => by
      have e : q = (h2.objs.size, PySem.W.kxs_mw "ValueError.__init__" a) := List.mem_singleton.mp hq
      rw [e]
      have n1 : h2.objs.size ∉ frs outer := I.nofs sz
      exact ⟨hu3, I.hok.fresh sz, fun z => absurd I.lt (by rw [← z]; exact Nat.not_lt.mpr sz), n1, fun v z => by cases z⟩, I3.hok, I3.len⟩
  refine PySem.W.kxs_callWith (i := "ValueError.__init__") (u := h2.objs.size) (x := a) rfl (Calls.evalArgs_plain ?_)
  have pa := pa_cons (X := ncx CX0 P w K mg base ["self", "what", "__class__"] (hostF cc cv) fI A outer s H E) (pe_joined (pos := ⟨7, 25, 7, 52⟩) (PJ.cons (pe_str (x := "the host refuses: ") (j := 0) (pos := ⟨7, 27, 7, 45⟩)) (PJ.cons (pe_fmt (pos := ⟨7, 45, 7, 51⟩) (pv 1 (x := "what") (pos := ⟨7, 46, 7, 50⟩))) PJ.nil))) pa_nil
  refine thn (pa.run ⟨7, 8, 7, 53⟩ _ _ _ H (fun vs H' => H' = H ∧ vs.length = 1) I4 ?_) fun us' s4 ⟨vs', H4, I5, r5, e5, l5⟩ => ?_
  · refine ⟨_, rfl, ?_, _, rfl, .inl ⟨m, rfl, sz_of (by omega), m, rfl, ?_, rfl, rfl⟩⟩
    · decide +kernel
    · have z : (Str.empty ++ ("the host refuses: " : Str)).length = 18 := by decide +kernel
      rw [Str.length_append, z]
      exact sz_of (by omega)
  · subst e5
    obtain ⟨nm, qn, NN, bs, bm, sn, sub, ab, col, dd, k0, k1, k2', k3', k5, hC, hbm⟩ := T.T.cls
    have hu5 := (I5.pin (h2.objs.size, PySem.W.kxs_mw "ValueError.__init__" a) (List.mem_append_right _ List.mem_cons_self)).1
    refine ⟨hu5, ?_⟩
    have hz5 : us'.length ≤ sizeLine := by rw [← r5.length, l5]; decide
    obtain ⟨t5, ho5⟩ := exo_at I5.hok ha
    have hC5 := I5.kIn _ _ hC
    obtain ⟨hh, g5, d5, tk5, os5⟩ := s4
    refine wpAny_call (codeAny_of_tree ?_)
    show wpAny _ _ (callAny (.ref h2.objs.size) ⟨us', []⟩) _ _ _
    simp only [callAny]
    refine wpAny_bind (wpAny_load hu5 ?_)
    simp only [PySem.W.kxs_mw, show (Value.type "method-wrapper" == Value.type "method" || Value.type "method-wrapper" == Value.type "builtin_function_or_method" || Value.type "method-wrapper" == Value.type "method-wrapper") = true by decide, if_true]
    refine PySem.W.KFB.if_so (by decide) ?_
    refine wpAny_bind (PySem.W.check_bound_init F.excBase_ValueError.toExcCallFacts hC5 ho5 rfl ?_)
    refine wpAny_bind (wpAny_pure (wpAny_pure ?_))
    refine ⟨plainId_quiet F.excBase_ValueError.init.plain _, codeAny_builtin F.excBase_ValueError.initEntry ?_⟩
    refine PySem.W.exc_init_tree (cls := .ref C) (t0 := t5) (dv := none) (c2 := .none) (c3 := .none) (b4 := .bool false) ho5 hz5 fun h6 k6 e6 t6 => ?_
    have J := I5.write (t' := tk5) (x := a) (e := a) (o := exo a C none) (by rw [ha]; exact True.intro) (.inl rfl) k6 ⟨_, e6⟩ (exo_ok e6)
    have eu : upd H4 a (exo a C none) = H4 := by
      funext b
      by_cases hb : b = a
      · rw [hb, upd_same, ha]
      · rw [upd_ne hb]
    rw [eu] at J
    refine PySem.wpAt_of_wpAny ?_
    have p2 : PSs (ncx CX0 P w K mg base ["self", "what", "__class__"] (hostF cc cv) fI A outer s H4 E) [hBody.getD 1 (.Pass ⟨0, 0, 0, 0⟩)] _ := pss_one (ps_ost (pv 0) (pv 1))
    refine wpAny_mono (p2.run _ _ _ H4 { nx := fun σ' H' => Q .non H', rt := fun _ _ => False } J ?_) (fun fl s6 hs => ?_) fun e s6 hs => hs
    · exact ⟨_, rfl, _, rfl, a, C, rfl, T.T, T.noW, .inl ⟨ha, fun dx n ne => q dx n ne⟩⟩
    · cases fl with
      | next =>
        obtain ⟨σ6, H6, J6, q6⟩ := hs
        exact ⟨.non, H6, J6.os, J6.bare, J6.base, J6.hok, rfl, q6⟩
      | ret u =>
        obtain ⟨_, _, _, _, _, z⟩ := hs
        exact z.elim
      | brk =>
        obtain ⟨_, _, _, z⟩ := hs
        exact z.elim
      | cont =>
        obtain ⟨_, _, _, z⟩ := hs
        exact z.elim
theorem pmk_imp {X : Cx} {e : Expr} {t t' : L2.St → Hp → XK → Prop} (h : PMk X e t) (i : ∀ σ H Q, t' σ H Q → t σ H Q) : PMk X e t' := fun pins s σ H Q I q => h pins s σ H Q I (i σ H Q q)
theorem host_rule {C fI cc cv : Addr} (T : HostTxt P K mg C fI cc cv) : HostRule P w K mg base C := by
  intro X hP hw hK hm hb hr hg m p p2 pos j hml
  subst hP hw hK hm hb
  obtain ⟨fd, F, bI⟩ := ok_init (w := X.w) (base := X.base) T
  refine pmk_imp (pmk_oex (k := 1) (dvs := []) T.T T.iC T.tI F hr bI .nil (fun _ _ _ _ _ _ _ z => z.elim) hg T.mC (pa_cons (pe_str (x := m) (j := j) (pos := p2)) pa_nil)) fun σ H Q q => ?_
  refine ⟨by show 1 ≤ 1000; decide, fun a ha => ⟨a, m, rfl, hml, upd_same, fun dx hdx hne => ⟨rfl, dx, [("what", .str m)], upd_same, (upd_ne hne).trans upd_same, ?_, ?_⟩⟩⟩
  · exact (upd_ne hne).symm.trans hdx
  · have hd : H dx = none := (upd_ne hne).symm.trans hdx
    have z := q dx hd
    have e : upd (del (upd (upd (upd H a (exo a C none)) dx (exd dx [("what", .str m)])) a (exo a C (some dx))) a) dx (.xd [("what", .str m)]) = upd H dx (.xd [("what", .str m)]) := by
      funext b
      by_cases h1 : b = dx
      · rw [h1, upd_same, upd_same]
      · rw [upd_ne h1, upd_ne h1]
        by_cases h2 : b = a
        · rw [h2, del_same, ha]
        · rw [del_ne h2, upd_ne h2, upd_ne h1, upd_ne h2]
    rw [e]
    exact z
end
end K82
end
section
set_option maxRecDepth 100000
set_option maxHeartbeats 4000000
/-! _law_fault, in an except suite. -/
namespace K82
open PySem PySem.Spec PyProof.Rows L2 L2H HotX Evl NdefX LamX
section
variable {X : Cx} {pins : List (Addr × Obj)} {σ : L2.St} {H : Hp} {s : Shared} {a dd C : Addr} {oe : Obj} {fs : List (Str × V)}
theorem inst_of (I : Inv X pins σ H s) (hp : (a, oe) ∈ X.pn) (hz : Zc (.ref C) (some dd) oe) (hf : ∃ vs, oe.data = .fields vs) (hd : H dd = some (.xd fs)) : ∃ od, PySem.W.InstAt s.heap a oe C (some od) ∧ ∃ mA : Str → Option Value, (∀ f, RelO (fs.lookup f) (mA f)) ∧ ∀ n, PySem.W.lookIn n od = some (mA n) := by
  obtain ⟨ha, _⟩ := I.pin (a, oe) (List.mem_append_left _ hp)
  obtain ⟨vs, hv⟩ := hf
  have hx : ObjOk X.prog X.w H s.heap dd (.xd fs) := I.hok dd _ hd
  obtain ⟨mA, hns, hr⟩ := hx
  obtain ⟨od, ho, hl⟩ := lookIn_ns hns
  exact ⟨od, ⟨ha, hz.1, by unfold PySem.W.notCls; rw [hv] <;> rfl, by rw [hz.2]; exact ho⟩, mA, hr, hl⟩
end
/-- isinstance(e, c), e the exception that is handled -/
def rIsX (K : PySem.W.Frag) (C a dd : Addr) : List V → Hp → VK → Prop := fun xs H Q => ∃ (c : V) (cv : Value) (b : Bool) (fs : List (Str × V)), xs = [.ref a, c] ∧ (∀ u, RelV c u → u = cv) ∧ PySem.W.kitOne K (.ref C) cv = some b ∧ H dd = some (.xd fs) ∧ Q (.bl b) H
theorem call_isX {X : Cx} {a dd C : Addr} {oe : Obj} (T : ExcC X.K C) (hp : (a, oe) ∈ X.pn) (hz : Zc (.ref C) (some dd) oe) (hf : ∃ vs, oe.data = .fields vs) : CallR X (.builtin "isinstance") (rIsX X.K C a dd) := by
  intro pins s σ H xs us Q I r h
  obtain ⟨c, cv, b, fs, rfl, hcv, e, hd, q⟩ := h
  cases r with
  | cons rx rr =>
    cases rr with
    | cons rt rr =>
      cases rr
      cases rx
      have ec := hcv _ rt
      subst ec
      obtain ⟨od, J, _⟩ := inst_of I hp hz hf hd
      obtain ⟨cd, hc, _⟩ := PySem.W.any_some T.hd
      exact PySem.W.kia_one (PySem.W.kitx_exc (by rw [hc]; rfl) T.hg T.hk T.hs T.ha T.hn T.ht T.hm) I.kIn J e (fun z => nomatch z) fun tk => ⟨.bl b, H, I.kept (t' := tk) fun _ _ z => z, rfl, q⟩
/-- e.what -/
def tXw (a dd : Addr) (f : Str) (te : TE) : TE := fun σ H Q => te σ H fun x H1 => x = .ref a ∧ ∃ (fs : List (Str × V)) (v : V), H1 dd = some (.xd fs) ∧ fs.lookup f = some v ∧ Q v H1
theorem pe_xw {X : Cx} {a dd C : Addr} {oe : Obj} {e : Expr} {te : TE} {pos : Pos} {n : Str} (T : XfC X.K C) (hno : PySem.W.findIn X.K (.ref C) n = some none) (hp : (a, oe) ∈ X.pn) (hz : Zc (.ref C) (some dd) oe) (hf : ∃ vs, oe.data = .fields vs) (he : PE X e te)
    (hb : attributeBase e n X.env (eval e X.env) = eval e X.env := by rfl) : PE X (.Attribute e n pos) (tXw a dd n te) := by
  refine ⟨fun pins s σ H Q I h => ?_⟩
  refine attr_of hb (thn (he.run pins s σ H _ I h) fun u s1 hh => ?_)
  obtain ⟨x, H1, I1, rx, ex, fs, v, ea, l, q⟩ := hh
  subst ex
  obtain rfl : u = Value.ref a := rx
  obtain ⟨od, J, mA, hr, hl⟩ := inst_of I1 hp hz hf ea
  obtain ⟨u, hu, ru⟩ := RelO.some_of (v := v) (o := mA n) (by rw [← l]; exact hr n)
  exact HandSPX.exc_get I1.kIn J T.ga T.gg T.exC (PySem.W.findObj_own T.hdC hno rfl (by rw [hl, hu])) (handed_of ru) ⟨v, H1, I1.tok _, ru, q⟩
structure FaultTxt (K : PySem.W.Frag) (mg : Str → Option Value) (C CK : Addr) : Prop where
  x : ExcC K C
  f : XfC K C
  noW : PySem.W.findIn K (.ref C) "what" = some none
  k1 : PySem.W.kitOne K (.ref C) (.ref C) = some true
  k2 : PySem.W.kitOne K (.ref C) (.ref CK) = some true
  k3 : PySem.W.kitOne K (.ref C) (.type "ValueError") = some true
  mC : mg "BadHost" = some (.ref C)
  mK : mg "KnewError" = some (.ref CK)
  mV : mg "ValueError" = none
  isi : mg "isinstance" = none
  len : mg "len" = none
theorem scFault : FnScope ["error", "found"] ["error"] (defScope sFault) := ⟨rfl, rfl, rfl, by decide +kernel, rfl, by decide +kernel, by decide +kernel⟩
section
variable {P : Program} {w : World} {K : PySem.W.Frag} {mg : Str → Option Value} {base : Heap}
theorem pss_fault {C CK a dd : Addr} {oe : Obj} {f : Addr} {cdv : Value} {A : Around} {outer : List Env} {s : Shared} {H : Hp} {Q : VK} {m : Str} (T : FaultTxt K mg C CK) (hz : Zc (.ref C) (some dd) oe) (hf : ∃ vs, oe.data = .fields vs) (hr : RoomH 0 (A.deeper (envOfC "_law_fault" (defScope sFault) s.heap.objs.size f cdv)))
    (hd : H dd = some (.xd [("what", .str m)])) (q : ∀ t H2, Ex H H2 → H2 t = some (.tup [.str "BadHost", .str m]) → Q (.ref t) H2) :
    ∃ t, PSs (cxH CX0 P w K mg base ["error", "found"] "_law_fault" (defScope sFault) f cdv A outer s H E0 (a, oe)) (defBody sFault) t ∧ t { nx := fun _ H' => Q .non H', rt := Q } (L2.start ["error", "found"] [.ref a]) H := by
  refine ⟨_, pss_cons (ps_set (i := 1) scFault.nd rfl (Or.inl rfl) (pe_lst pa_nil))
        (pss_cons (ps_if (pt_val (pe_callB (call_isX T.x (List.mem_singleton_self _) hz hf) (by rfl) T.isi (by decide +kernel) (pa_cons (pv 0) (pa_cons (pe_glob (v := .ref C) rfl T.mC rfl) pa_nil))))
        (pss_one (ps_expr (pe_bm PySem.F.plainAttrs_list PySem.F.slot_list_append PySem.F.type_list_append mt_append (pv 1) (pa_cons (pe_tup (pa_cons pe_str (pa_cons (pe_xw T.f T.noW (List.mem_singleton_self _) hz hf (pv 0)) pa_nil))) pa_nil))))
        pss_nil)
        (pss_one (ps_ret (pe_ifExp (PW.pt (pw_and (pt_cmpR op_eq (pe_callB call_len_seq (by rfl) T.len (by decide +kernel) (pa_cons (pv 1) pa_nil)) pe_int (nomark _)) (pw_and (pt_val (pe_callB (call_isX T.x (List.mem_singleton_self _) hz hf) (by rfl) T.isi (by decide +kernel) (pa_cons (pv 0) (pa_cons (pe_glob (v := .ref CK) rfl T.mK rfl) pa_nil)))) (pw_and1 (pt_val (pe_callB (call_isX T.x (List.mem_singleton_self _) hz hf) (by rfl) T.isi (by decide +kernel) (pa_cons (pv 0) (pa_cons (pe_bltn (v := .ty "ValueError") (u := .type "ValueError") (by rfl) T.mV (by decide +kernel) rfl) pa_nil)))))))) (pe_ix ix_list (pv 1) pe_int (fun _ _ => rfl)) (pe_tup pa_nil))))), ?_⟩
  refine ⟨Nat.zero_le _, fun l hl => ?_⟩
  have e1 : Ex H (upd H l (.lst [])) := Ex.new hl
  have isE : ∀ {c : V} {cv : Value} (x : Option V), (∀ u, RelV c u → u = cv) → PySem.W.kitOne K (.ref C) cv = some true → ∀ H', Ex H H' → Ev (tCB (rIsX K C a dd) (tCons (tVar 0) (tCons (tC c) tNil))) [some (.ref a), x] H' (.bl true) := fun {c cv} x hc k H' e' =>
    ev_cb (ea_cons (ev_var rfl) (ea_cons ev_c ea_nil)) fun H1 e Q q => ⟨c, cv, true, _, rfl, hc, k, e _ _ (e' _ _ hd), q _ (Ex.refl _)⟩
  refine q_when (b := true) (et_B (isE (c := .ref C) (cv := .ref C) _ (fun u r => r) T.k1 _ e1)) (fun _ H2 e2 => ?_) (fun hz _ _ => by cases hz)
  refine s_appU (K := K) (l := l) (xs := []) (ys := [.str "BadHost", .str m]) (e2 _ _ upd_same) (ev_var (i := 1) rfl) (eu_tup (ea_cons ev_c (ea_cons ?_ ea_nil)) (by show 2 ≤ 100000; decide)) (by decide) fun p H3 hp e3 h3 => ?_
  · intro H1 e Q q
    exact ⟨_, rfl, rfl, _, .str m, e _ _ (e2 _ _ (e1 _ _ hd)), rfl, q _ (Ex.refl _)⟩
  · have E3 : Ex H (upd H3 l (.lst ([] ++ [.ref p]))) := Ex.mut ((e1.trans e2).trans e3) hl
    have hl3 : upd H3 l (.lst ([] ++ [.ref p])) l = some (.lst [.ref p]) := upd_same
    have npl : p ≠ l := fun z => by
      have y := e3 _ _ (e2 _ _ (upd_same (H := H) (a := l) (o := .lst [])))
      rw [← z, h3] at y
      cases y
    have hp3 : upd H3 l (.lst ([] ++ [.ref p])) p = some (.tup [.str "BadHost", .str m]) := (upd_ne npl).trans h3
    refine s_ret (v := .ref p) (ev_if (b := decide (V.int (([V.ref p] : List V).length : Nat) = V.int 1) && (true && true)) (et_and (et_test (ev_op (ev_len (K := K) (ev_var (i := 1) rfl) (sq_of hl3)) ev_c (rv_eq rfl))) fun _ => et_and (et_B (isE (c := .ref CK) (cv := .ref CK) _ (fun u r => r) T.k2 _ E3)) fun _ => et_B (isE (c := .ty "ValueError") (cv := .type "ValueError") _ (fun u r => r) T.k3 _ E3))
      (fun _ => ev_ixL (i := 0) (K := K) (ev_var (i := 1) rfl) ev_c (sq_of hl3) rfl) fun hb => by cases hb) fun H4 e4 => ?_
    exact q p H4 (E3.trans e4) (e4 _ _ hp3)
end
end K82
end
section
set_option maxRecDepth 100000
set_option maxHeartbeats 4000000
/-! _law_fault called, _law_fails. -/
namespace K82
open PySem PySem.Spec PyProof.Rows L2 L2H HotX Evl NdefX LamX
section
variable {P : Program} {w : World} {K : PySem.W.Frag} {mg : Str → Option Value} {base : Heap}
theorem fault_run {f C CK a dd : Addr} {oe : Obj} {fd : FuncData} {A : Around} {outer : List Env} {s : Shared} {H : Hp} {Q : VK} {m : Str} (F : Fun K "_law_fault" "_law_fault" sFault f fd) (T : FaultTxt K mg C CK) (hr : RoomH 1 A) (hpin : PinOk outer H s (a, oe)) (e0 : Env0 P w K mg base A outer s H)
    (hb : BindsTo s fd ⟨[.ref a], []⟩ ((["error"] : List Str).zip [Value.ref a])) (hz : Zc (.ref C) (some dd) oe) (hf : ∃ vs, oe.data = .fields vs) (hd : H dd = some (.xd [("what", .str m)])) (q : ∀ t H2, Ex H H2 → H2 t = some (.tup [.str "BadHost", .str m]) → Q (.ref t) H2) :
    codeAny (model P w) A (.call (.ref f) ⟨[.ref a], []⟩) (CR CX0 outer P w H s Q E0) s := by
  obtain ⟨oc, od, kV, doc, pm, an, cdv, ct, osl, rfl, lk, hcd⟩ := F.ex
  have S := scFault
  have KX : K.In s.heap := e0.mod.kin.keeps fun b o e => (e0.bs b o e).1
  have lim : s.heap.NoLimit := e0.mod.nolimit.keeps fun b o e => (e0.bs b o e).1
  have hkind : ∀ y ∈ (["error"] : List Str).zip [Value.ref a], (defScope sFault).names.lookup y.1 = some .local ∨ ((defScope sFault).names.lookup y.1 = some .cell ∧ ((cellsFrom (s.heap.objs.size + 1) (defScope sFault).names []).lookup y.1).isSome = true) := fun ⟨n, v⟩ hy => by
    rcases S.par n (List.of_mem_zip hy).1 with q | q
    · exact .inl q
    · exact .inr ⟨q, PySem.W.cellsFrom_some _ _ _ (.inl q)⟩
  refine codeAny_call_function hr.depth (KX _ _ lk) rfl S.co S.gen rfl (PySem.W.codeRec_of KX hcd) (hb _ _ _ _ ?_)
  refine wpAny_newFunctionEnv_cells S.kind hkind fun env he s1 x => ?_
  subst he
  refine ⟨lim.keeps x.toInCall.keep, codeAny_func ?_⟩
  obtain ⟨t, ht, hq⟩ := pss_fault (P := P) (w := w) (base := base) (outer := outer) (A := A) (f := f) (cdv := cdv) (s := s) (Q := Q) T hz hf (hr.deeper _) hd q
  have I : Inv (cxH CX0 P w K mg base ["error", "found"] "_law_fault" (defScope sFault) f cdv A outer s H E0 (a, oe)) [] (L2.start ["error", "found"] [.ref a]) H s1 := inv_startH S hpin e0 rfl (.cons rfl .nil) x
  refine wpAny_mono (ht.run [] s1 _ H _ I hq) (fun fl s' hs => ?_) fun e s' hs => hs
  cases fl with
  | ret u =>
    obtain ⟨v, σ', H', J, rv, q⟩ := hs
    exact ⟨v, H', J.os, J.bare, J.base, J.hok, rv, q⟩
  | next =>
    obtain ⟨σ', H', J, q⟩ := hs
    exact ⟨.non, H', J.os, J.bare, J.base, J.hok, rfl, q⟩
  | brk => exact (let ⟨_, _, _, q⟩ := hs; False.elim q)
  | cont => exact (let ⟨_, _, _, q⟩ := hs; False.elim q)
end
/-- _law_fault(n), n the slot i of the caught exception -/
def tFaultC (C a : Addr) (cls : Value) (d : Option Addr) (i : Nat) : TE := fun σ H Q => σ[i]? = some (some (.ref a)) ∧ cls = .ref C ∧ ∃ (dd : Addr) (m : Str), d = some dd ∧ H dd = some (.xd [("what", .str m)]) ∧ ∀ t H2, Ex H H2 → H2 t = some (.tup [.str "BadHost", .str m]) → Q (.ref t) H2
theorem pe_faultC {X : Cx} {f C CK a : Addr} {oe : Obj} {cls : Value} {d : Option Addr} {pn : List (Addr × Obj)} {fd : FuncData} {i : Nat} {n : Str} {p pos : Pos} (F : Fun X.K "_law_fault" "_law_fault" sFault f fd) (b : Binds X.K fd ["error"] []) (T : FaultTxt X.K X.mg C CK) (hr : Room 1 X.A) (hz : Zc cls d oe) (hf : ∃ vs, oe.data = .fields vs)
    (hg : Gl X "_law_fault") (hm : X.mg "_law_fault" = some (.ref f)) (hN : X.N[i]? = some n) (hv : Vis X.env.scope n) (hd : (n == ("__debug__" : Str)) = false) (hcd : (n == ("__classdict__" : Str)) = false) :
    PE (X.suite a ((a, oe) :: pn)) (.Call (.Name "_law_fault" p) [.Name n pos] [] pos') (tFaultC C a cls d i) := by
  refine ⟨fun pins s σ H Q I h => ?_⟩
  obtain ⟨hs, hc, dd, m, hdd, hx, q⟩ := h
  subst hc hdd
  refine wpAny_Call_Name_kw (ld_glob (X := X.suite a ((a, oe) :: pn)) I hg hm ?_)
  have pa := pa_cons (X := X.suite a ((a, oe) :: pn)) (pe_var (i := i) (pos := pos) hN hv hd hcd) pa_nil
  refine PySem.W.callWith_K (h₀ := X.base) I.ok.mod.kin F.kp (thn (pa.run pos' pins s σ H (fun vs H1 => vs = [.ref a] ∧ H1 = H) I ⟨_, hs, rfl, rfl⟩) fun us s1 ⟨vs, H1, I1, r, ev, eH⟩ => ⟨I1.kIn, ?_⟩) (by rfl) (by rfl)
  subst ev eH
  obtain rfl : us = [.ref a] := by
    cases r with
    | cons r1 t =>
      cases t
      rw [show _ = Value.ref a from r1]
  have P1 := I1.pin (a, oe) (List.mem_append_left _ List.mem_cons_self)
  have hpin : PinOk (X.suite a ((a, oe) :: pn)).stack H1 s1 (a, oe) := ⟨P1.1, P1.2.1, fun hm => (List.mem_cons.mp (I1.stkSub a hm)).elim P1.2.2.1 P1.2.2.2.1, P1.2.2.2.2⟩
  refine wpAny_call (codeAny_mono (fault_run F T ⟨hr.dp, hr.un⟩ hpin I1.env0 (b s1 [.ref a] I1.kIn rfl) hz hf hx q) fun r s' hq => ?_)
  cases r with
  | error e => exact False.elim hq
  | ok fl =>
    cases fl with
    | ret u => exact I1.after hq
    | next => exact False.elim hq
    | brk => exact False.elim hq
    | cont => exact False.elim hq
end K82
end
section
set_option maxRecDepth 100000
set_option maxHeartbeats 4000000
/-! _law_fails(lambda: ..). -/
namespace K82
open PySem PySem.Spec PyProof.Rows L2 L2H HotX Evl NdefX LamX
/-- what _law_fails makes of what its lambda does -/
def TTf (C : Addr) : (XK → Hp → VK → Prop) → Hp → VK → Prop := fun tl H Q =>
  tl (fun cls d H' => cls = .ref C ∧ ∃ (dd : Addr) (m : Str), d = some dd ∧ H' dd = some (.xd [("what", .str m)]) ∧ ∀ t H2, Ex H' H2 → H2 t = some (.tup [.str "BadHost", .str m]) → Q (.ref t) H2) H
    (fun _ H' => 0 ≤ sizeLine ∧ ∀ p, H' p = none → Q (.ref p) (upd H' p (.tup [])))
structure FailsTxt (K : PySem.W.Frag) (mg : Str → Option Value) (C CK fF : Addr) : Prop extends FaultTxt K mg C CK where
  mF : mg "_law_fault" = some (.ref fF)
  exm : PySem.W.exmOne K (.ref C) (.ref CK) = some true
theorem scFails : FnScope ["call", "error"] ["call"] (defScope sFails) := ⟨rfl, rfl, rfl, by decide +kernel, rfl, by decide +kernel, by decide +kernel⟩
theorem fails_gives {X : Cx} {C CK fF g : Addr} {fdF : FuncData} {cdg : Value} {q : Str} (F : Fun X.K "_law_fault" "_law_fault" sFault fF fdF) (b : Binds X.K fdF ["error"] []) (T : FailsTxt X.K X.mg C CK fF) (hr : ∀ s : Shared, Room 1 (X.A.deeper (envOfC "_law_fails" (defScope sFails) s.heap.objs.size g cdg))) :
    GivesTo X ["call", "error"] "_law_fails" (defScope sFails) g cdg (defBody sFails) "call" q (TTf C) := by
  intro f c' s H Q tl act hc h
  refine ⟨_, pss_cons (ps_try_as (X := (cxOf C8.CX0 X.prog X.w X.K X.mg X.base ["call", "error"] "_law_fails" (defScope sFails) g cdg X.A X.stack s H C8.E0).nox) (x := "KnewError") (n := "error") (c := .ref CK) (i := 1)
      (tb := fun W D σ H => ∃ Ech : XK, (∀ cls d σ' H', Ech cls d H' → W cls d σ' H') ∧ σ[0]? = some (some (.ref f)) ∧ H c' = some (CodeO c' q) ∧ tl Ech H (fun _ H' => D.nx σ H')) (ts := fun a cls d D σ H => σ.length = 2 → tRet (tFaultC C a cls d 1) D σ H)
      rfl rfl scFails.nd rfl rfl ⟨rfl, by decide +kernel, .inl T.mK⟩ LamX.takes0 (fun W pn xe tk _ => ?_) (fun a oe cls d pn hz hf => ?_)) (pss_one (ps_ret (pe_tup pa_nil))), ?_⟩
  · refine ⟨fun pins s' σ H' D I h' => ?_⟩
    obtain ⟨Ech, hW, h1, h2, h3⟩ := h'
    exact (pss_one (ps_expr (act W pn xe Ech _ _ tk hW))).run pins s' σ H' D I ⟨h1, h2, h3⟩
  · refine ⟨fun pins s' σ H' D I h' => ?_⟩
    exact (pss_one (ps_ret (pe_faultC (X := (cxOf C8.CX0 X.prog X.w X.K X.mg X.base ["call", "error"] "_law_fails" (defScope sFails) g cdg X.A X.stack s H C8.E0).nox) (a := a) (oe := oe) (cls := cls) (d := d) (pn := pn) (i := 1) (n := "error") F b T.toFaultTxt (hr s) hz hf rfl T.mF rfl (.inl rfl) (by decide +kernel) (by decide +kernel)))).run pins s' σ H' D I (h' I.len)
  · refine ⟨_, fun cls d σ' H' hE => ?_, rfl, hc, h⟩
    obtain ⟨rfl, dd, m, rfl, hd, hq⟩ := hE
    refine ⟨true, T.exm, fun _ a ha hlen => ⟨?_, rfl, dd, m, rfl, hd, hq⟩, fun z => by cases z⟩
    rw [List.length_set] at hlen
    rw [List.getElem?_set_self (by omega)]
def tLamN (T : List NTab) (TT : (XK → Hp → VK → Prop) → Hp → VK → Prop) (t : XK → TE) : TE := fun σ H Q => TabsN T H ∧ ∀ H1, ExtN H H1 → (∀ b, H1 b = none → H b = none) → TabsN T H1 → TT (fun E H' Q' => t E σ H' Q') H1 Q
/-- x(lambda: body), every table told -/
theorem pe_lamcallN {X : Cx} {T : List NTab} {nm : Nat → Nat → Str} {TT : (XK → Hp → VK → Prop) → Hp → VK → Prop} {x a : Str} {g c P : Addr} {k : Nat} {fd : FuncData} {st : Stmt} {Ng : List Str}
    {params : Arguments} {body : Expr} {scope : Scope} {t : XK → TE} {p lpos pos : Pos} (hg : Gl X x) (hm : X.mg x = some (.ref g)) (F : Fun X.K x x st g fd) (hb : L2.Binds X.K fd [a] []) (Sg : FnScope Ng [a] (defScope st)) (hNg : Ng[0]? = some a) (hva : Vis (defScope st) a)
    (hG : ∀ cdv, GivesTo X Ng x (defScope st) g cdv (defBody st) a (X.env.qual ++ "<lambda>") TT)
    (TB : TabB X.base X.mg c P) (hcode : X.env.code = .ref c) (hmT : (P, nm) ∈ T) (hn : nm lpos.line lpos.col = X.env.qual ++ "<lambda>") (hu : ∀ p ∈ T, p.1 = P → p.2 = nm) (hr : Room (k + 2) X.A) (L : LamS X.env.scope scope) (hdef : defaultsOf params X.env = ([], []))
    (hbind : ∀ (q : Str) (cl : List (Str × Addr)) (pm cv ctv : Value), bindArgs (PySem.W.kla_fn "<lambda>" q params body scope cl pm cv ctv) ⟨[], []⟩ = pure [])
    (hbody : ∀ (A : Around) (outer : List Env) (s : Shared) (H : Hp) (E : XK) (f c' : Addr), Room k (A.deeper (lamEnv X scope s.heap.objs.size f c')) → PE (lamCx X A outer s H E scope f c') body (t E))
    (hdb : (x == ("__debug__" : Str)) = false := by decide) (hd : (a == ("__debug__" : Str)) = false := by decide) (hcd : (a == ("__classdict__" : Str)) = false := by decide) :
    PE X (.Call (.Name x p) [.Lambda params body scope lpos] [] pos) (tLamN T TT t) := by
  refine ⟨fun pins s σ H Q I h => ?_⟩
  obtain ⟨hT, h⟩ := h
  obtain ⟨oc, od, kV, doc, pm, an, cdv, ct, osl, rfl, lk, hcg⟩ := F.ex
  refine wpAny_Call_Name_kw (ld_glob I hg hm ?_ hdb)
  refine PySem.W.callWith_K (h₀ := X.base) I.ok.mod.kin F.kp ?_ (by rfl) (by rfl)
  show wpAny _ _ (spliced ((false, eval (.Lambda params body scope lpos) X.env) :: backTo pos (starEach [] X.env))) _ _ s
  refine Calls.spliced_cons (lam_makeN I TB hcode hmT hn hu hT hdef (L.has I.ok) fun f c' pm' ctv H1 s' I1 eN nN T1 hf hfn hfr hco => ?_)
  refine Calls.spliced_nil ⟨I1.kIn, ?_⟩
  have rc : codeAny (model X.prog X.w) X.A (.call (.ref g) ⟨[.ref f], []⟩) (CR C8.CX0 X.stack X.prog X.w H1 s' Q C8.E0) s' := by
    refine run_ofS (N := Ng) (ps := [a]) (us := [.ref f]) (vs := [.ref f]) lk hcg Sg hr I1.env0 (hb s' [.ref f] I1.kIn rfl) (.cons rfl .nil) rfl fun hr' => ?_
    obtain ⟨t', ht', hq'⟩ := hG cdv f c' s' H1 Q (fun E H' Q' => t E σ H' Q') (fun W pn xe E p1 p2 tk hW => pe_act (i := 0) I1 L hf hfn hfr (hbind _ _ _ _ _) tk hW hr' (fun A outer s H hr2 => hbody A outer s H E f c' hr2) hNg hva hd hcd) hco (h H1 eN nN T1)
    exact ⟨t', ht'.nox, hq'⟩
  refine wpAny_call (codeAny_mono rc fun r s2 hq => ?_)
  cases r with
  | error e => exact (show False from hq).elim
  | ok fl =>
    cases fl with
    | ret u => exact I1.after hq
    | next => exact False.elim hq
    | brk => exact False.elim hq
    | cont => exact False.elim hq
end K82
end
section
set_option maxRecDepth 100000
set_option maxHeartbeats 4000000
/-! what _law_refused stands on. -/
namespace K82
open PySem PySem.Spec PyProof.Rows L2 L2H HotX Evl NdefX LamX
theorem ahead_snoc : ∀ (C : List Row) (r : Row) (h : Num), aheadGo h (C ++ [r]) = aheadGo h C ++ [lastH h C]
  | [], _, _ => rfl
  | c :: C, r, h => congrArg (List.cons h) (ahead_snoc C r (heardBy c h))
theorem last_good : ∀ (C : List Row) (h : Num), (∀ r ∈ C, GoodNum r.2 1000) → GoodNum h 1000 → GoodNum (lastH h C) 1000
  | [], _, _, hh => hh
  | r :: C, h, hC, hh => by
    refine last_good C (heardBy r h) (fun x hx => hC x (List.mem_cons_of_mem _ hx)) ?_
    unfold heardBy
    split
    · exact good_bare (hC r List.mem_cons_self)
    · exact hh
theorem GoodC.last {C : List Row} (h : GoodC C) : GoodNum (lastH [] C) 1000 := last_good C [] h.rows (good_nil (by decide))
/-- every number one more -/
def more (a : Num) : Num := a.map fun p => (p.1, p.2 + 1)
theorem names_more (a : Num) : names (more a) = names a := by
  unfold names more
  rw [List.map_map]
  rfl
def greatOf (g : Num) : Num := putN (more g) ("zz" : Str) 1
theorem names_great {g : Num} {b : Int} (h : GoodNum g b) : names (greatOf g) = names g ++ [("zz" : Str)] := by
  unfold greatOf
  rw [names_putN, names_more, if_neg]
  intro z
  have := h.sub _ z
  revert this
  decide +kernel
theorem great_ok {g : Num} {b : Int} (h : GoodNum g b) : NumOk (greatOf g) := by
  have e := names_great h
  refine ⟨?_, ?_⟩
  · rw [e]
    refine List.nodup_append.mpr ⟨h.nd, List.nodup_cons.mpr ⟨fun m => (by cases m), List.nodup_nil⟩, fun x hx y hy z => ?_⟩
    have := h.sub x hx
    rw [z, List.mem_singleton.mp hy] at this
    revert this
    decide +kernel
  · have e2 := congrArg List.length e
    unfold names at e2
    rw [List.length_map, List.length_append, List.length_map] at e2
    have := h.len
    rw [e2]
    show g.length + 1 < 64
    omega
theorem great_rows {g : Num} {b : Int} (h : GoodNum g b) : rowWord ("tell", greatOf g) g = (some ("rows" : Str) : Option Str) := by
  unfold rowWord
  have e : under (greatOf g) g = false := by
    cases e : under (greatOf g) g with
    | false => rfl
    | true =>
      exfalso
      unfold under at e
      rw [List.all_eq_true] at e
      have hz : ("zz" : Str) ∈ names (greatOf g) := by rw [names_great h]; exact List.mem_append_right _ (List.mem_singleton_self _)
      obtain ⟨p, hp, hp1⟩ := List.mem_map.mp hz
      have z := of_decide_eq_true (e p hp)
      have v1 : p.2 = 1 := by
        rw [← val_mem (great_ok h).nd hp, hp1]
        unfold greatOf
        rw [val_putN, if_pos rfl]
      have v2 : val g p.1 = 0 := by
        rw [hp1]
        refine val_out fun m => ?_
        have := h.sub _ m
        revert this
        decide +kernel
      rw [v1, v2] at z
      exact absurd z (by decide)
  rw [if_neg (fun z => z (.inr rfl)), if_neg (fun z => absurd z.1 (show ¬ ("tell" : Str) = "hear" by decide +kernel)), if_pos ⟨rfl, e⟩]
theorem less_back {g : Num} {b : Int} {k : Str} (h : GoodNum g b) (hk : k ∈ names g) : rowWord ("hear", putN g k (val g k - 1)) g = (some ("back" : Str) : Option Str) := by
  have e : under g (putN g k (val g k - 1)) = false := by
    cases e : under g (putN g k (val g k - 1)) with
    | false => rfl
    | true =>
      exfalso
      unfold under at e
      rw [List.all_eq_true] at e
      obtain ⟨p, hp, hp1⟩ := List.mem_map.mp hk
      have z := of_decide_eq_true (e p hp)
      rw [val_putN, if_pos hp1, ← hp1, val_mem h.nd hp] at z
      omega
  unfold rowWord
  rw [if_neg (fun z => z (.inl rfl)), if_pos ⟨rfl, e⟩]
theorem put_ok {a : Num} {k : Str} {n : Int} (h : NumOk a) (hk : k ∈ names a) : NumOk (putN a k n) := by
  have e : names (putN a k n) = names a := by rw [names_putN, if_pos hk]
  refine ⟨by rw [e]; exact h.nd, ?_⟩
  have e2 := congrArg List.length e
  unfold names at e2
  rw [List.length_map, List.length_map] at e2
  rw [e2]
  exact h.few
theorem told_rows (g : Num) : rowWord ("told", []) g = (some ("rows" : Str) : Option Str) := by
  unfold rowWord
  rw [if_pos (show ¬ (("told" : Str) = "hear" ∨ ("told" : Str) = "tell") by decide +kernel)]
theorem TabsN.but {T : List NTab} {H H' : Hp} {x : Addr} {o : HO} (t : TabsN T H) (hx : H x = some o) (n1 : ∀ ps, o ≠ .tbl ps) (n2 : ∀ c q, o ≠ CodeO c q) (b : But x H H') : TabsN T H' := fun p hp => by
  obtain ⟨ps, h1, h2, h3⟩ := t p hp
  refine ⟨ps, b _ _ (fun z => ?_) h1, h2, fun pos cv hc => ?_⟩
  · rw [z, hx] at h1
    exact n1 _ (Option.some.inj h1)
  · obtain ⟨c, e1, e2⟩ := h3 pos cv hc
    refine ⟨c, e1, b _ _ (fun z => ?_) e2⟩
    rw [z, hx] at e2
    exact n2 _ _ (Option.some.inj e2)
theorem TabsN.src {T : List NTab} {H H' : Hp} {p : Addr} (t : TabsN T H) (s : SrcAt H p) (b : But p H H') : TabsN T H' := by
  obtain ⟨_, _, _, h⟩ := s
  exact TabsN.but t h (fun ps z => by cases z) (fun c q z => by unfold CodeO at z; cases z) b
/-- what stands all along -/
structure Core (T : List NTab) (p c : Addr) (ts : List Addr) (C : List Row) (hd gp : Addr) (g G : Num) (H : Hp) : Prop where
  src : SrcAt H p
  crs : H c = some (.lst (ts.map V.ref))
  rows : Paired (RowAt H) ts C
  hd : H hd = some (.dK (kv g))
  gp : H gp = some (.dK (kv G))
  tab : TabsN T H
  ne : c ≠ p
section
variable {T : List NTab} {p c hd gp : Addr} {ts : List Addr} {C : List Row} {g G : Num} {H H' : Hp}
theorem src_kd {x : Addr} {ks : List (Key × V)} (s : SrcAt H p) (h : H x = some (.dK ks)) : x ≠ p := src_ne s h (fun xs z => by cases z)
theorem src_tp {x : Addr} {ks : List V} (s : SrcAt H p) (h : H x = some (.tup ks)) : x ≠ p := src_ne s h (fun xs z => by cases z)
theorem row_but {t : Addr} {r : Row} (s : SrcAt H p) (b : But p H H') (h : RowAt H t r) : RowAt H' t r := by
  obtain ⟨d, h1, h2⟩ := h
  exact ⟨d, b _ _ (src_tp s h1) h1, b _ _ (src_kd s h2) h2⟩
theorem Core.but (k : Core T p c ts C hd gp g G H) (b : But p H H') (s : SrcAt H' p) : Core T p c ts C hd gp g G H' :=
  ⟨s, b _ _ k.ne k.crs, paired_mono k.rows fun t r h => row_but k.src b h, b _ _ (src_kd k.src k.hd) k.hd, b _ _ (src_kd k.src k.gp) k.gp, TabsN.src k.tab k.src b, k.ne⟩
theorem Core.ex (k : Core T p c ts C hd gp g G H) (e : Ex H H') : Core T p c ts C hd gp g G H' := k.but (But.of e) (src_ex k.src e)
/-- the wrong row, the word that is due -/
def Wr (H : Hp) (wt dt : Addr) (rw_ : Row) (m : Str) : Prop := RowAt H wt rw_ ∧ H dt = some (.tup [.str "BadHost", .str m])
theorem Wr.but {wt dt : Addr} {r : Row} {m : Str} (k : Wr H wt dt r m) (s : SrcAt H p) (b : But p H H') : Wr H' wt dt r m := ⟨row_but s b k.1, b _ _ (src_tp s k.2) k.2⟩
theorem Wr.ext {wt dt : Addr} {r : Row} {m : Str} (k : Wr H wt dt r m) (e : ExtN H H') : Wr H' wt dt r m := by
  obtain ⟨⟨d, h1, h2⟩, h3⟩ := k
  exact ⟨⟨d, e _ _ h1 (fun ps z => by cases z), e _ _ h2 (fun ps z => by cases z)⟩, e _ _ h3 (fun ps z => by cases z)⟩
theorem RowAt.ext {t : Addr} {r : Row} (e : ExtN H H') (h : RowAt H t r) : RowAt H' t r := by
  obtain ⟨d, h1, h2⟩ := h
  exact ⟨d, e _ _ h1 (fun ps z => by cases z), e _ _ h2 (fun ps z => by cases z)⟩
theorem paired_app {α β : Type} {F : α → β → Prop} : ∀ {l l' : List α} {m m' : List β}, Paired F l m → Paired F l' m' → Paired F (l ++ l') (m ++ m')
  | _, _, _, _, .nil, h => h
  | _, _, _, _, .cons r t, h => .cons r (paired_app t h)
/-- course + [wrong, after] -/
theorem course_cat {q a b : Addr} {ra rb : Row} (hc : Paired (RowAt H) ts C) (e : Ex H H') (hq : H' q = some (.lst (ts.map V.ref ++ [.ref a, .ref b]))) (ha : RowAt H a ra) (hb : RowAt H b rb) : CourseAt H' q (C ++ [ra, rb]) :=
  ⟨ts ++ [a, b], by rw [hq, List.map_append]; rfl, paired_app (paired_mono hc fun t r h => h.ex e) (.cons (ha.ex e) (.cons (hb.ex e) .nil))⟩
end
theorem atI_last {α : Type} {xs : List α} {n : Nat} {v : α} (hl : xs.length = n + 1) (h : xs[n]? = some v) : atI xs (-1) = some v := by
  unfold atI ixN
  rw [if_neg (by decide), if_pos (by omega), hl]
  have e : ((-1 : Int) + ((n + 1 : Nat) : Int)).toNat = n := by omega
  show (some ((-1 : Int) + ((n + 1 : Nat) : Int)).toNat).bind (fun j => xs[j]?) = some v
  rw [e]
  exact h
theorem merge_more {a : Num} (h : (names a).Nodup) : mergeK [] (kv (more a)) = kv (more a) := merge_kv [] (more a) (by show (names (more a)).Nodup; rw [names_more]; exact h)
/-- dict([(name, heard[name] + 1) for name in heard]) -/
theorem ed_more {K : PySem.W.Frag} {σ : L2.St} {H : Hp} {td tv : TE} {d : Addr} {g : Num} {j : Nat} {vs : List Nat} (h : ∀ H1, Ev td σ H1 (.ref d)) (hd : H d = some (.dK (kv g))) (ok : NumOk g) (hw : ∀ x, wipe ((wipe σ vs).set j (some x)) vs = wipe σ vs)
    (hx : ∀ (x : V) H1, Ev tv ((wipe σ vs).set j (some x)) H1 x) (hy : ∀ (x : V) H1, Ev td ((wipe σ vs).set j (some x)) H1 (.ref d)) :
    EvD (tCB (rDictP K) (tCons (tLockE (tLc (iKeys td) (gName j) tYes (tTup (tCons tv (tCons (tOp (rI0 fun i j => V.int (i + j)) (tDGet td tv) (tC (V.int 1))) tNil))) vs)) tNil)) σ H (kv (more g)) := by
  let nm : Nat → Str × Int := fun i => g.getD i default
  have hc : EvC (tLockE (tLc (iKeys td) (gName j) tYes (tTup (tCons tv (tCons (tOp (rI0 fun i j => V.int (i + j)) (tDGet td tv) (tC (V.int 1))) tNil))) vs)) σ H ((List.range g.length).filter fun _ => true) (fun i x H3 => ∃ T, x = V.ref T ∧ H3 T = some (.tup [V.str (nm i).1, V.int ((nm i).2 + 1)])) := by
    refine ec_lcK _ _ h hd (by have := ok.few; omega) hw (fun i x H1 o ⟨T, e, hT⟩ => ⟨T, e, ?_⟩) (fun i p o H1 e hi => et_yes) (fun i p o H1 e hi _ => ?_)
    · have n : T ≠ d := fun z => by rw [z, upd_same] at hT; cases hT
      rw [upd_ne n] at hT
      exact (upd_ne n).trans hT
    · have en : nm i = p := by show g.getD i default = p; rw [List.getD_eq_getElem?_getD, hi]; rfl
      rw [en]
      exact evf_u (eu_tup (ea_cons (hx _ _) (ea_cons (ev_op (ev_dget (a := g) (hy _ _) (hx _ _) (.inr ⟨o, e _ _ upd_same⟩) (lookup_mem ok.nd (List.mem_of_getElem? hi))) ev_c rv_I0) ea_nil)) (by show 2 ≤ 100000; decide))
  have hz := ed_dictC (K := K) (kf := fun i => (Sum.inr (nm i).1, V.int ((nm i).2 + 1))) hc
  have e3 := range_filter_map (fun _ : Str × Int => true) (fun p => ((Sum.inr p.1 : Key), V.int (p.2 + 1))) g (fun _ => true) (fun i => (Sum.inr (nm i).1, V.int ((nm i).2 + 1))) fun i x hx => by
    have e : nm i = x := by show g.getD i default = x; rw [List.getD_eq_getElem?_getD, hx]; rfl
    rw [e]
    exact ⟨rfl, rfl⟩
  have e4 : (g.filter fun _ => true).map (fun p : Str × Int => ((Sum.inr p.1 : Key), V.int (p.2 + 1))) = kv (more g) := by
    rw [List.filter_eq_self.mpr (fun _ _ => rfl)]
    unfold more kv
    rw [List.map_map]
    rfl
  rw [e3, e4, merge_more ok.nd] at hz
  exact hz
theorem rows_two {C : List Row} {ra rb : Row} (h : GoodC C) (ha : NumOk ra.2) (hb : NumOk rb.2) : RowsOk (C ++ [ra, rb]) := by
  refine ⟨fun r hr => ?_, by rw [List.length_append]; have := h.len; show C.length + 2 ≤ 1000; omega⟩
  rcases List.mem_append.mp hr with z | z
  · exact (h.rows r z).ok
  · rcases List.mem_cons.mp z with z | z
    · rw [z]; exact ha
    · rw [List.mem_singleton.mp z]; exact hb
theorem check_two {C : List Row} {ra rb : Row} {m : Str} (h : GoodC C) (hr : rowWord ra (lastH [] C) = some m) : checkFrom [] (C ++ [ra, rb]) = some m := by
  rw [check_app C [ra, rb] [] h.ok]
  show (match rowWord ra (lastH [] C) with | some m => some m | none => checkFrom (heardBy ra (lastH [] C)) [rb]) = some m
  rw [hr]
end K82
end
section
set_option maxRecDepth 100000
set_option maxHeartbeats 4000000
/-! _law_refused: its steps. -/
namespace K82
open PySem PySem.Spec PyProof.Rows L2 L2H HotX Evl NdefX LamX
def nmRefused (l c : Nat) : Str := ("_law_refused" : Str) ++ ".<locals>." ++ "<lambda>"
def tBad : TE := tOp rCat (tVar 1) (tLst (tCons (tVar 8) (tCons (tVar 7) tNil)))
def tL1 (CH : Addr) (E : XK) : TE := tCall (spFewest CH) [] E (tCons tBad tNil)
def tL2 (N : List NTab) (CH : Addr) (E : XK) : TE := tCall (spFoe CH) [] E (tCons tBad (tCons (tCall (spRule N) [] E0 (tCons (tC (.int 4)) tNil)) tNil))
theorem use_cons {ta : TE} {t : TA} {σ : L2.St} {H : Hp} {Q : List V → Hp → Prop} (h : ta σ H fun v H1 => t σ H1 fun vs H2 => Q (v :: vs) H2) : tCons ta t σ H Q := h
theorem use_tup {t : TA} {σ : L2.St} {H : Hp} {Q : VK} (h : t σ H fun xs H1 => xs.length ≤ sizeLine ∧ ∀ p, H1 p = none → Q (.ref p) (upd H1 p (.tup xs))) : tTup t σ H Q := h
theorem use_lst {t : TA} {σ : L2.St} {H : Hp} {Q : VK} (h : t σ H fun xs H1 => xs.length ≤ sizeLine ∧ ∀ p, H1 p = none → Q (.ref p) (upd H1 p (.lst xs))) : tLst t σ H Q := h
theorem use_asg {te : TE} {g : TG} {D : Ends} {σ : L2.St} {H : Hp} (h : te σ H fun x H1 => g x σ H1 D.nx) : tAsg te g D σ H := h
theorem use_seq {t u : TS} {D : Ends} {σ : L2.St} {H : Hp} (h : t { D with nx := u D } σ H) : tSeq t u D σ H := h
theorem use_op {r : R2} {ta tb : TE} {σ : L2.St} {H : Hp} {Q : VK} (h : ta σ H fun x H1 => tb σ H1 fun y H2 => r x y H2 Q) : tOp r ta tb σ H Q := h
abbrev DictIs (s : Num) : V → Hp → Prop := fun v H2 => ∃ d, v = V.ref d ∧ H2 d = some (.dK (kv s))
abbrev RowIs (r : Row) : V → Hp → Prop := fun v H2 => ∃ t, v = V.ref t ∧ RowAt H2 t r
section
variable {σ : L2.St} {H H' : Hp} {td : TE} {s : Num} {K : PySem.W.Frag}
theorem evp_dict {d : Addr} (h : Ev td σ H (.ref d)) (hd : H d = some (.dK (kv s))) : EvP td σ H (DictIs s) := fun H1 e Q q => h H1 e Q fun H2 e2 => q _ H2 e2 ⟨d, rfl, e2 _ _ (e _ _ hd)⟩
theorem evp_none : EvP tDNewK σ H (DictIs []) := fun H1 e Q q p hp => q _ _ (Ex.new hp) ⟨p, rfl, upd_same⟩
theorem evp_row {w : Str} (h : EvP td σ H (DictIs s)) : EvP (tTup (tCons (tC (V.str w)) (tCons td tNil))) σ H (RowIs (w, s)) := fun H1 e Q q => h H1 e _ fun v H2 e2 ⟨d, ev, hd⟩ => by
  subst ev
  exact ⟨by show 2 ≤ sizeLine; decide, fun t ht => q _ _ (e2.trans (Ex.new ht)) ⟨t, rfl, d, upd_same, (upd_ne (ne_of_none hd ht)).trans hd⟩⟩
theorem s_pairW {w m : Str} {D : Ends} {n : Nat} (h : EvP td σ H (DictIs s)) (k : ∀ wt dt H1, Ex H H1 → Wr H1 wt dt (w, s) m → D.nx ((σ.set 8 (some (.ref wt))).set 5 (some (.ref dt))) H1) (hn : n = 2) :
    tAsg (tTup (tCons (tTup (tCons (tC (V.str w)) (tCons td tNil))) (tCons (tTup (tCons (tC (V.str "BadHost")) (tCons (tC (V.str m)) tNil))) tNil))) (gTup K n (gCons (gName 8) (gCons (gName 5) gNil))) D σ H := by
  subst hn
  refine use_asg (use_tup (use_cons ?_))
  refine evp_row (w := w) h H (Ex.refl H) _ fun v H1 e1 ⟨wt, ev, hr⟩ => ?_
  subst ev
  refine ⟨by show 2 ≤ sizeLine; decide, fun dt hdt => ⟨by show 2 ≤ sizeLine; decide, fun u hu => ⟨u, _, rfl, st_of upd_same, rfl, ?_⟩⟩⟩
  have e2 : Ex H1 (upd H1 dt (.tup [.str "BadHost", .str m])) := Ex.new hdt
  have e3 : Ex (upd H1 dt (.tup [.str "BadHost", .str m])) (upd (upd H1 dt (.tup [.str "BadHost", .str m])) u (.tup [.ref wt, .ref dt])) := Ex.new hu
  exact ⟨_, _, rfl, _, _, rfl, rfl, k wt dt _ ((e1.trans e2).trans e3) ⟨hr.ex (e2.trans e3), e3 _ _ upd_same⟩⟩
theorem q_pairW {w m : Str} {tz : TS} {D : Ends} {n : Nat} (h : EvP td σ H (DictIs s)) (k : ∀ wt dt H1, Ex H H1 → Wr H1 wt dt (w, s) m → tz D ((σ.set 8 (some (.ref wt))).set 5 (some (.ref dt))) H1) (hn : n = 2) :
    tSeq (tAsg (tTup (tCons (tTup (tCons (tC (V.str w)) (tCons td tNil))) (tCons (tTup (tCons (tC (V.str "BadHost")) (tCons (tC (V.str m)) tNil))) tNil))) (gTup K n (gCons (gName 8) (gCons (gName 5) gNil)))) tz D σ H := s_pairW (D := { D with nx := tz D }) h k hn
/-- the three rows that may come behind -/
theorem evp_after {G : Num} (h : ∀ H1, Ex H H1 → EvP td σ H1 (DictIs G)) :
    EvP (tLst (tCons (tTup (tCons (tC (V.str "tell")) (tCons td tNil))) (tCons (tTup (tCons (tC (V.str "hear")) (tCons tDNewK tNil))) (tCons (tTup (tCons (tC (V.str "hear")) (tCons td tNil))) tNil)))) σ H
      (fun v H2 => ∃ l t1 t2 t3, v = V.ref l ∧ H2 l = some (.lst [.ref t1, .ref t2, .ref t3]) ∧ RowAt H2 t1 ("tell", G) ∧ RowAt H2 t2 ("hear", []) ∧ RowAt H2 t3 ("hear", G)) := fun H1 e Q q => by
  refine use_lst (use_cons ?_)
  refine evp_row (w := "tell") (h H (Ex.refl H)) H1 e _ fun v1 H2 e2 ⟨t1, ev1, h1⟩ => ?_
  refine use_cons ?_
  refine evp_row (w := "hear") (evp_none (H := H)) H2 (e.trans e2) _ fun v2 H3 e3 ⟨t2, ev2, h2⟩ => ?_
  refine use_cons ?_
  refine evp_row (w := "hear") (h H (Ex.refl H)) H3 ((e.trans e2).trans e3) _ fun v3 H4 e4 ⟨t3, ev3, h3⟩ => ?_
  subst ev1 ev2 ev3
  exact ⟨by show 3 ≤ sizeLine; decide, fun l hl => q _ _ (((e2.trans e3).trans e4).trans (Ex.new hl)) ⟨l, t1, t2, t3, rfl, upd_same, h1.ex ((e3.trans e4).trans (Ex.new hl)), h2.ex (e4.trans (Ex.new hl)), h3.ex (Ex.new hl)⟩⟩
end
theorem q_ifG {t : TT} {TT_ tz : TS} {D : Ends} {σ : L2.St} {H : Hp} (M : L2.St → Hp → Prop) (G B : Hp → Prop) (h : ∀ Q : Bool → Hp → Prop, (∀ H1, G H1 → Q true H1) → (∀ H1, B H1 → Q false H1) → t σ H Q)
    (h1 : ∀ H1, G H1 → (∀ σ' H', M σ' H' → tz D σ' H') → TT_ { D with nx := tz D } σ H1) (h2 : ∀ H1, B H1 → M σ H1) (k : ∀ σ' H', M σ' H' → tz D σ' H') : tSeq (tIfS t TT_ tNext) tz D σ H :=
  h _ (fun H1 g => iteT (h1 H1 g k)) fun H1 b => iteF (k _ _ (h2 H1 b))
section
variable {T : List NTab} {p c hd gp : Addr} {ts : List Addr} {C : List Row} {g G : Num} {H H' : Hp}
theorem Core.ext (k : Core T p c ts C hd gp g G H) (e : ExtN H H') (t : TabsN T H') : Core T p c ts C hd gp g G H' := by
  obtain ⟨a, b, d, hs⟩ := k.src
  exact ⟨⟨a, b, d, e _ _ hs (fun ps z => by cases z)⟩, e _ _ k.crs (fun ps z => by cases z), paired_mono k.rows fun t r h => h.ext e, e _ _ k.hd (fun ps z => by cases z), e _ _ k.gp (fun ps z => by cases z), t, k.ne⟩
/-- all that the two lambdas read -/
structure All (T : List NTab) (p c : Addr) (ts : List Addr) (C : List Row) (hd gp : Addr) (g G : Num) (wt dt at_ : Addr) (rw_ ra : Row) (m : Str) (H : Hp) : Prop where
  core : Core T p c ts C hd gp g G H
  wr : Wr H wt dt rw_ m
  aft : RowAt H at_ ra
variable {wt dt at_ : Addr} {rw_ ra : Row} {m : Str}
theorem All.ex (k : All T p c ts C hd gp g G wt dt at_ rw_ ra m H) (e : Ex H H') : All T p c ts C hd gp g G wt dt at_ rw_ ra m H' := ⟨k.core.ex e, k.wr.ext (ExtN.ex e), k.aft.ex e⟩
theorem All.ext (k : All T p c ts C hd gp g G wt dt at_ rw_ ra m H) (e : ExtN H H') (t : TabsN T H') : All T p c ts C hd gp g G wt dt at_ rw_ ra m H' := ⟨k.core.ext e t, k.wr.ext e, k.aft.ext e⟩
theorem all_bad {σ : L2.St} {Q : VK} (k : All T p c ts C hd gp g G wt dt at_ rw_ ra m H) (gC : GoodC C) (s1 : σ[1]? = some (some (.ref c))) (s8 : σ[8]? = some (some (.ref wt))) (s7 : σ[7]? = some (some (.ref at_)))
    (q : ∀ r H', Ex H H' → CourseAt H' r (C ++ [rw_, ra]) → Q (.ref r) H') : tBad σ H Q := by
  refine ⟨_, s1, _, s8, _, s7, by show 2 ≤ sizeLine; decide, fun l hl => ⟨c, l, _, _, rfl, rfl, (Ex.new hl) _ _ k.core.crs, upd_same, sz_of ?_, fun r hr => ?_⟩⟩
  · have := gC.len
    have := paired_len k.core.rows
    show (ts.map V.ref).length + 2 ≤ 100000
    rw [List.length_map]
    omega
  · exact q r _ ((Ex.new hl).trans (Ex.new hr)) (course_cat k.core.rows ((Ex.new hl).trans (Ex.new hr)) upd_same k.wr.1 k.aft)
theorem lam1 {σ : L2.St} {CH : Addr} {Q : VK} (k : All T p c ts C hd gp (lastH [] C) G wt dt at_ rw_ ra m H) (gC : GoodC C) (hw : rowWord rw_ (lastH [] C) = some m) (ow : NumOk rw_.2) (oa : NumOk ra.2) (s1 : σ[1]? = some (some (.ref c))) (s8 : σ[8]? = some (some (.ref wt))) (s7 : σ[7]? = some (some (.ref at_)))
    (q : ∀ t H', All T p c ts C hd gp (lastH [] C) G wt dt at_ rw_ ra m H' → H' t = some (.tup [.str "BadHost", .str m]) → Q (.ref t) H') : tLamN T (TTf CH) (fun E => tL1 CH E) σ H Q := by
  refine ⟨k.core.tab, fun H1 e1 n1 t1 => ?_⟩
  have k1 := k.ext e1 t1
  refine all_bad k1 gC s1 s8 s7 fun r H2 e2 hr => ⟨r, _, rfl, hr, rows_two gC ow oa, fun z => ?_, fun m' hm d H3 e3 hd3 => ⟨rfl, d, m, rfl, ?_, fun t H4 e4 ht => q t H4 (((k1.ex e2).ex e3).ex e4) ht⟩⟩
  · rw [check_two gC hw] at z
    cases z
  · rw [check_two gC hw] at hm
    rw [Option.some.inj hm]
    exact hd3
theorem lam2 {σ : L2.St} {CH : Addr} {Q : VK} (k : All T p c ts C hd gp (lastH [] C) G wt dt at_ rw_ ra m H) (gC : GoodC C) (hw : rowWord rw_ (lastH [] C) = some m) (ow : NumOk rw_.2) (oa : NumOk ra.2) (s1 : σ[1]? = some (some (.ref c))) (s8 : σ[8]? = some (some (.ref wt))) (s7 : σ[7]? = some (some (.ref at_)))
    (q : ∀ t H', All T p c ts C hd gp (lastH [] C) G wt dt at_ rw_ ra m H' → H' t = some (.tup [.str "BadHost", .str m]) → Q (.ref t) H') : tLamN T (TTf CH) (fun E => tL2 T CH E) σ H Q := by
  refine ⟨k.core.tab, fun H1 e1 n1 t1 => ?_⟩
  have k1 := k.ext e1 t1
  refine all_bad k1 gC s1 s8 s7 fun r H2 e2 hr => ⟨4, rfl, TabsN.ex t1 e2, fun rl H3 e3 n3 t3 hrl => ⟨r, rl, _, 4, rfl, hr.ext e3, rows_two gC ow oa, hrl, by decide, fun z => ?_, fun m' hm d H4 e4 hd4 => ⟨rfl, d, m, rfl, ?_, fun t H5 e5 ht => q t H5 ((((k1.ex e2).ext e3 t3).ex e4).ex e5) ht⟩⟩⟩
  · rw [check_two gC hw] at z
    cases z
  · rw [check_two gC hw] at hm
    rw [Option.some.inj hm]
    exact hd4
theorem due_eq (a b : Str) : PyData.eqv (.tuple [.str a, .str b]) (.tuple [.str a, .str b]) = true := by
  simp [PyData.eqv, PyData.eqvAll]
theorem due_shaped {r : Row} {g : Num} {m : Str} (h : rowWord r g = some m) : SeqAt.shaped (.tuple [.str "BadHost", .str m]) = true := by
  have z : m = ("rows" : Str) ∨ m = ("back" : Str) := by
    unfold rowWord at h
    split at h
    · exact .inl (Option.some.inj h).symm
    · split at h
      · exact .inr (Option.some.inj h).symm
      · split at h
        · exact .inl (Option.some.inj h).symm
        · cases h
  rcases z with z | z <;> rw [z] <;> decide +kernel
theorem due_dp {K : PySem.W.Frag} {t : Addr} {a b : Str} (h : H t = some (.tup [.str a, .str b])) : Dp K H (.ref t) (.tuple [.str a, .str b]) := .tup (st_of h) (.cons (.str a) (.cons (.str b) .nil))
end
end K82
end
section
set_option maxRecDepth 100000
set_option maxHeartbeats 4000000
/-! _law_refused. -/
namespace K82
open PySem PySem.Spec PyProof.Rows L2 L2H HotX Evl NdefX LamX
def spRefused (T : List NTab) : Sp := fun vs H Q _ => ∃ (p c : Addr) (C : List Row), vs = [.ref p, .ref c] ∧ SrcAt H p ∧ CourseAt H c C ∧ GoodC C ∧ TabsN T H ∧ ∀ H2, Q (.bl true) H2
structure TxtZ (K : PySem.W.Frag) (mg : Str → Option Value) (fP fA fW fS fR fX : Addr) : Prop where
  len : mg "len" = none
  dct : mg "dict" = none
  srt : mg "sorted" = none
  mP : mg "_law_pick" = some (.ref fP)
  kP : PySem.W.keepIn K (.ref fP) = true
  mA : mg "_law_heard_ahead" = some (.ref fA)
  kA : PySem.W.keepIn K (.ref fA) = true
  mW : mg "fewest_syncs" = some (.ref fW)
  kW : PySem.W.keepIn K (.ref fW) = true
  mS : mg "sync_foe" = some (.ref fS)
  kS : PySem.W.keepIn K (.ref fS) = true
  mR : mg "_law_rule" = some (.ref fR)
  kR : PySem.W.keepIn K (.ref fR) = true
  mX : mg "_law_fails" = some (.ref fX)
section
variable {P : Program} {w : World} {K : PySem.W.Frag} {mg : Str → Option Value} {base : Heap}
theorem scRefused : FnScope ["source", "course", "heard", "name", "great", "due", "less", "after", "wrong"] ["source", "course"] (defScope sRefused) := ⟨rfl, rfl, rfl, by decide +kernel, rfl, by decide +kernel, by decide +kernel⟩
theorem ok_refused {N : List NTab} {CH CK fF f c0 Pt fP fA fW fS fR fX : Addr} {fd fdP fdA fdW fdS fdR fdX fdF : FuncData} (F : FunC K "_law_refused" "_law_refused" sRefused f fd c0) (T : TxtZ K mg fP fA fW fS fR fX) (TF : FailsTxt K mg CH CK fF)
    (TB : TabB base mg c0 Pt) (hm : (Pt, nmRefused) ∈ N) (hun : ∀ p ∈ N, p.1 = Pt → p.2 = nmRefused)
    (GP : FnOk P w K mg base CX0 1 fP fdP ["source", "many"] spPick) (bP : Binds K fdP ["source", "many"] []) (GA : FnOk P w K mg base CX0 2 fA fdA ["course"] spAhead) (bA : Binds K fdA ["course"] [])
    (GW : FnOk P w K mg base (L2.CX P w) 5 fW fdW ["course"] (spFewest CH)) (bW : Binds K fdW ["course"] []) (GS : FnOk P w K mg base (L2.CX P w) 6 fS fdS ["course", "rule"] (spFoe CH)) (bS : Binds K fdS ["course", "rule"] [])
    (GR : FnOk P w K mg base CX0 1 fR fdR ["kind"] (spRule N)) (bR : Binds K fdR ["kind"] []) (FX : Fun K "_law_fails" "_law_fails" sFails fX fdX) (bX : Binds K fdX ["call"] []) (FF : Fun K "_law_fault" "_law_fault" sFault fF fdF) (bF : Binds K fdF ["error"] []) :
    FnOk P w K mg base CX0 9 f fd ["source", "course"] (spRefused N) := by
  refine F.ok scRefused (fun vs H Q E h => ?_) (fun A outer s H vs Q E hr h => ?_)
  · obtain ⟨p, c, C, rfl, _⟩ := h
    rfl
  · obtain ⟨p, c, C, rfl, hsrc, hC, gC, hT, k1⟩ := h
    have hu := hu_of hr
    have hr1 : Room 1 _ := hr.mono (by decide)
    have hr2 : Room 2 _ := hr.mono (by decide)
    have hr64 := hr.un
    have hd64 : (A.deeper (envOfC "_law_refused" (defScope sRefused) s.heap.objs.size f (.ref c0))).units + 64 < cLine := by omega
    have rooms : ∀ {Y : Env}, Room 1 ((A.deeper (envOfC "_law_refused" (defScope sRefused) s.heap.objs.size f (.ref c0))).deeper Y) := fun {Y} => (hr.mono (j := 2) (by decide)).deeper Y
    refine ⟨_, pss_cons (ps_set (i := 2) scRefused.nd rfl (Or.inr rfl) (pe_ix ix_list (pe_call GA hr2 rfl T.mA T.kA bA .nil pass0 (pa_cons (pe_op op_cat (pv 1) (pe_lst (pa_cons (pe_tup (pa_cons pe_str (pa_cons pe_dnewK pa_nil))) pa_nil))) pa_nil)) (pe_un un_neg pe_int) (fun _ _ => rfl)))
        (pss_cons (ps_set (i := 4) scRefused.nd rfl (Or.inl rfl) (pe_callTy (call_dictP rfl) (by rfl) T.dct (by decide +kernel) (pa_cons (pe_lock (pe_lc (own := [("name", 3)]) (g := gName 3) (tt := tYes) rfl scRefused.nd (pi_keys (pv 2)) (blkOk_by (N := ["source", "course", "heard", "name", "great", "due", "less", "after", "wrong"]) (sc := (defScope sRefused)) (by decide +kernel)) (fun _ _ _ _ _ => pg_name (i := 3) scRefused.nd rfl (Or.inl rfl)) (fun _ _ _ _ _ => pts_nil) (fun _ _ _ _ _ => pe_tup (pa_cons (pv 3) (pa_cons (pe_op op_add (pe_dget hu (pv 2) (pv 3) (fun _ _ => rfl)) pe_int) pa_nil))))) pa_nil)))
        (pss_cons (ps_dput hu (pv 4) pe_str pe_int rfl)
        (pss_cons (ps_asg (pe_tup (pa_cons (pe_tup (pa_cons pe_str (pa_cons (pv 4) pa_nil))) (pa_cons (pe_tup (pa_cons pe_str (pa_cons pe_str pa_nil))) pa_nil))) (pg_tup rfl (pgs_cons (pg_name (i := 8) scRefused.nd rfl (Or.inr rfl)) (pgs_cons (pg_name (i := 5) scRefused.nd rfl (Or.inl rfl)) pgs_nil))))
        (pss_cons (ps_if (PW.pt (pw_and (pt_cmpR op_gt (pe_callB call_lenD (by rfl) T.len (by decide +kernel) (pa_cons (pv 2) pa_nil)) pe_int (nomark _)) (pw_and1 (pt_cmpR op_eq (pe_call GP hr1 rfl T.mP T.kP bP .nil pass0 (pa_cons (pv 0) (pa_cons pe_int pa_nil))) pe_int (nomark _)))))
        (pss_cons (ps_set (i := 6) scRefused.nd rfl (Or.inl rfl) (pe_callTy call_dictD (by rfl) T.dct (by decide +kernel) (pa_cons (pv 2) pa_nil)))
        (pss_cons (ps_set (i := 3) scRefused.nd rfl (Or.inl rfl) (pe_ix ix_list (pe_callB (call_sortedD rfl) (by rfl) T.srt (by decide +kernel) (pa_cons (pv 2) pa_nil)) (pe_call GP hr1 rfl T.mP T.kP bP .nil pass0 (pa_cons (pv 0) (pa_cons (pe_callB call_lenD (by rfl) T.len (by decide +kernel) (pa_cons (pv 2) pa_nil)) pa_nil))) (fun _ _ => rfl)))
        (pss_cons (ps_dput hu (pv 6) (pv 3) (pe_op op_sub (pe_dget hu (pv 2) (pv 3) (fun _ _ => rfl)) pe_int) rfl)
        (pss_one (ps_asg (pe_tup (pa_cons (pe_tup (pa_cons pe_str (pa_cons (pv 6) pa_nil))) (pa_cons (pe_tup (pa_cons pe_str (pa_cons pe_str pa_nil))) pa_nil))) (pg_tup rfl (pgs_cons (pg_name (i := 8) scRefused.nd rfl (Or.inr rfl)) (pgs_cons (pg_name (i := 5) scRefused.nd rfl (Or.inl rfl)) pgs_nil))))))))
        pss_nil)
        (pss_cons (ps_if (pt_cmpR op_eq (pe_call GP hr1 rfl T.mP T.kP bP .nil pass0 (pa_cons (pv 0) (pa_cons pe_int pa_nil))) pe_int (nomark _))
        (pss_one (ps_asg (pe_tup (pa_cons (pe_tup (pa_cons pe_str (pa_cons pe_dnewK pa_nil))) (pa_cons (pe_tup (pa_cons pe_str (pa_cons pe_str pa_nil))) pa_nil))) (pg_tup rfl (pgs_cons (pg_name (i := 8) scRefused.nd rfl (Or.inr rfl)) (pgs_cons (pg_name (i := 5) scRefused.nd rfl (Or.inl rfl)) pgs_nil)))))
        pss_nil)
        (pss_cons (ps_set (i := 7) scRefused.nd rfl (Or.inr rfl) (pe_ix ix_list (pe_lst (pa_cons (pe_tup (pa_cons pe_str (pa_cons (pv 4) pa_nil))) (pa_cons (pe_tup (pa_cons pe_str (pa_cons pe_dnewK pa_nil))) (pa_cons (pe_tup (pa_cons pe_str (pa_cons (pv 4) pa_nil))) pa_nil)))) (pe_call GP hr1 rfl T.mP T.kP bP .nil pass0 (pa_cons (pv 0) (pa_cons pe_int pa_nil))) (fun _ _ => rfl)))
        (pss_cons (ps_if (pt_cmpR (op_neD hd64) (pe_lamcallN (T := N) (nm := nmRefused) (k := 6) (Ng := ["call", "error"]) (a := "call") (t := fun E => tL1 CH E) rfl T.mX FX bX scFails rfl (.inl rfl) (fun cdv => fails_gives FF bF TF (fun s => rooms)) TB rfl hm rfl hun hr (lamS_by (sc := defScope sRefused) (by decide +kernel)) rfl (fun _ _ _ _ _ => rfl) (fun A outer s H E f c' hr => pe_call GW (hr.mono (by decide)) rfl T.mW T.kW bW .nil (passes_call (takes_of rfl rfl rfl rfl) (fun _ _ _ _ h => h)) (pa_cons (pe_op op_cat (pv 1) (pe_lst (pa_cons (pv 8) (pa_cons (pv 7) pa_nil)))) pa_nil))) (pv 5) (nomark _))
        (pss_one (ps_ret pe_bl))
        pss_nil)
        (pss_one (ps_ret (pe_cmpR (op_eqD hd64) (pe_lamcallN (T := N) (nm := nmRefused) (k := 6) (Ng := ["call", "error"]) (a := "call") (t := fun E => tL2 N CH E) rfl T.mX FX bX scFails rfl (.inl rfl) (fun cdv => fails_gives FF bF TF (fun s => rooms)) TB rfl hm rfl hun hr (lamS_by (sc := defScope sRefused) (by decide +kernel)) rfl (fun _ _ _ _ _ => rfl) (fun A outer s H E f c' hr => pe_call GS hr rfl T.mS T.kS bS .nil (passes_call (takes_of rfl rfl rfl rfl) (fun _ _ _ _ h => h)) (pa_cons (pe_op op_cat (pv 1) (pe_lst (pa_cons (pv 8) (pa_cons (pv 7) pa_nil)))) (pa_cons (pe_call GR (hr.mono (by decide)) rfl T.mR T.kR bR .nil pass0 (pa_cons pe_int pa_nil)) pa_nil)))) (pv 5) (nomark _))))))))))), ?_⟩
    obtain ⟨ts, hc, hts⟩ := hC
    have gg := gC.last
    refine ⟨_, rfl, ?_⟩
    intro d0 hd0
    refine ⟨by show 2 ≤ sizeLine; decide, fun t0 ht0 => ⟨by show 1 ≤ sizeLine; decide, fun l0 hl0 => ?_⟩⟩
    have E0' : Ex H (upd (upd (upd H d0 (.dK [])) t0 (.tup [.str "tell", .ref d0])) l0 (.lst [.ref t0])) := ((Ex.new hd0).trans (Ex.new ht0)).trans (Ex.new hl0)
    have n1 : d0 ≠ t0 := ne_of_none upd_same ht0
    have n2 : t0 ≠ l0 := ne_of_none upd_same hl0
    have n3 : d0 ≠ l0 := ne_of_none ((upd_ne n1).trans upd_same) hl0
    have hl9 := gC.len
    have htl := paired_len hts
    refine ⟨_, l0, _, _, rfl, rfl, E0' _ _ hc, upd_same, sz_of (by show (ts.map V.ref).length + 1 ≤ 100000; rw [List.length_map]; omega), fun q0 hq0 => ?_⟩
    have E1' := E0'.trans (Ex.new (o := .lst (ts.map V.ref ++ [V.ref t0])) hq0)
    have hrow0 : RowAt (upd (upd (upd H d0 (.dK [])) t0 (.tup [.str "tell", .ref d0])) l0 (.lst [.ref t0])) t0 ("tell", []) := ⟨d0, (upd_ne n2).trans upd_same, (upd_ne n3).trans ((upd_ne n1).trans upd_same)⟩
    refine ⟨q0, C ++ [(("tell", []) : Row)], rfl, ⟨ts ++ [t0], by rw [upd_same, List.map_append]; rfl, paired_app (paired_mono hts fun t r h => h.ex E1') (.cons (hrow0.ex (Ex.new hq0)) .nil)⟩, ⟨fun r hr => ?_, by rw [List.length_append]; show C.length + 1 ≤ 1000; omega⟩, fun hl H2 hhl e2 hnums => ?_⟩
    · rcases List.mem_append.mp hr with z | z
      · exact (gC.rows r z).ok
      · rw [List.mem_singleton.mp z]; exact nil_ok
    obtain ⟨hs, hh1, hh2⟩ := hnums
    rw [ahead_snoc] at hh2
    have hhlen : hs.length = C.length + 1 := by rw [paired_len hh2, List.length_append, ahead_len]; rfl
    obtain ⟨hd, hdi, hdk⟩ := paired_at (i := C.length) hh2 (b := lastH [] C) (by rw [List.getElem?_append_right (by rw [ahead_len]; omega), ahead_len, Nat.sub_self]; rfl)
    refine ⟨1, rfl, hl, _, -1, .ref hd, rfl, rfl, sq_of hh1, ?_, ?_⟩
    · exact atI_last (by rw [List.length_map]; exact hhlen) (by rw [List.getElem?_map, hdi]; rfl)
    have EH2 : Ex H H2 := E1'.trans e2
    have hcn : c ≠ p := by
      intro z
      obtain ⟨_, _, _, q⟩ := hsrc
      rw [← z, hc] at q
      cases ts with
      | nil => cases q
      | cons a r => cases q
    refine q_asgD (kvs := kv (more (lastH [] C))) (ed_more (K := K) (td := tVar 2) (tv := tVar 3) (j := 3) (fun H1 => ev_var rfl) hdk gg.ok (fun _ => rfl) (fun _ _ => ev_var rfl) fun _ _ => ev_var rfl) fun gp H3 hgp e3 hgk => ?_
    refine ⟨_, rfl, gp, _, rfl, DPut.k (k := Sum.inr ("zz" : Str)) hgk (sz_lt (by rw [kv_len]; show (more (lastH [] C)).length < 100000; unfold more; rw [List.length_map]; have := gg.len; omega)), ?_⟩
    rw [kv_putN (more (lastH [] C)) "zz" 1, show putN (more (lastH [] C)) ("zz" : Str) 1 = greatOf (lastH [] C) from rfl]
    have core : Core N p c ts C hd gp (lastH [] C) (greatOf (lastH [] C)) (upd H3 gp (.dK (kv (greatOf (lastH [] C))))) := by
      have eU : Ex H2 (upd H3 gp (.dK (kv (greatOf (lastH [] C))))) := Ex.mut e3 hgp
      exact ⟨src_ex hsrc (EH2.trans eU), (EH2.trans eU) _ _ hc, paired_mono hts fun t r h => h.ex (EH2.trans eU), eU _ _ hdk, upd_same, TabsN.ex hT (EH2.trans eU), hcn⟩
    generalize upd H3 gp (.dK (kv (greatOf (lastH [] C)))) = G4 at core ⊢
    have wnx : ∀ {A B : Hp} {wt dt : Addr} {r : Row} {m : Str}, SrcAt A p → But p A B → Wr A wt dt r m → Wr B wt dt r m := fun s b k => k.but s b
    dsimp only
    refine q_pairW (m := "rows") (s := greatOf (lastH [] C)) (w := "tell") ?_ (fun wt dt H5 e5 wr => ?_) rfl
    · exact evp_dict (ev_var rfl) core.gp
    have core5 := core.ex e5
    let M : L2.St → Hp → Prop := fun σ' H' => ∃ (v3 v6 : Option V) (wt dt : Addr) (rw_ : Row) (m : Str), σ' = [some (.ref p), some (.ref c), some (.ref hd), v3, some (.ref gp), some (.ref dt), v6, none, some (.ref wt)] ∧
      Core N p c ts C hd gp (lastH [] C) (greatOf (lastH [] C)) H' ∧ Wr H' wt dt rw_ m ∧ rowWord rw_ (lastH [] C) = some m ∧ NumOk rw_.2
    refine q_ifG M (fun H1 => (Core N p c ts C hd gp (lastH [] C) (greatOf (lastH [] C)) H1 ∧ Wr H1 wt dt ("tell", greatOf (lastH [] C)) "rows") ∧ 0 < (lastH [] C).length) (fun H1 => Core N p c ts C hd gp (lastH [] C) (greatOf (lastH [] C)) H1 ∧ Wr H1 wt dt ("tell", greatOf (lastH [] C)) "rows") ?_ ?_ ?_ ?_
    · intro Q q1 q2
      have et : EvT (tTest (tOp (rI0 fun i j => V.bl (decide (j < i))) (tCB (fun xs H Q => ∃ a kvs, xs = [V.ref a] ∧ H a = some (HO.dK kvs) ∧ Q (V.int kvs.length) H) (tCons (tVar 2) tNil)) (tC (V.int 0)))) [some (.ref p), some (.ref c), some (.ref hd), none, some (.ref gp), some (.ref dt), none, none, some (.ref wt)] H5 (decide ((0 : Int) < ((kv (lastH [] C)).length : Int))) :=
        et_test (ev_op (ev_cb (ea_cons (ev_var rfl) ea_nil) fun H1 e Q q => ⟨hd, _, rfl, e _ _ core5.hd, q H1 (Ex.refl _)⟩) ev_c rv_I0)
      refine et H5 (Ex.refl _) _ fun H6 e6 => ?_
      by_cases hz : (0 : Int) < ((kv (lastH [] C)).length : Int)
      · rw [decide_eq_true hz]
        refine iteT ⟨_, rfl, p, 2, rfl, (core5.ex e6).src, by decide, by decide, fun r H7 _ _ b7 s7 => ⟨rfl, _, rfl, ?_⟩⟩
        have c7 := (core5.ex e6).but b7 s7
        have w7 := wnx (core5.ex e6).src b7 (wr.ext (ExtN.ex e6))
        by_cases h7 : V.int r = V.int 0
        · rw [decide_eq_true h7]
          exact q1 _ ⟨⟨c7, w7⟩, by rw [kv_len] at hz; omega⟩
        · rw [decide_eq_false h7]
          exact q2 _ ⟨c7, w7⟩
      · rw [decide_eq_false hz]
        exact iteF (q2 _ ⟨core5.ex e6, wr.ext (ExtN.ex e6)⟩)
    · rintro H6 ⟨⟨c6, w6⟩, hpos⟩ kM
      refine q_asgD (kvs := kv (lastH [] C)) (ed_copy (ev_var rfl) (.inl c6.hd)) fun lp H7 hlp e7 hlk => ?_
      have c7 := c6.ex e7
      refine use_seq (use_asg (use_op ?_))
      refine el_sortD (σ := [some (.ref p), some (.ref c), some (.ref hd), none, some (.ref gp), some (.ref dt), some (.ref lp), none, some (.ref wt)]) (ta := tVar 2) (ev_var rfl) (.inl c7.hd) gg.ok.few H7 (Ex.refl _) _ fun sp H8 hsp e8 hsk => ?_
      have c8 := c7.ex e8
      have hlen : (sortK (names (lastH [] C))).length = (lastH [] C).length := by rw [(sortK_perm _).length_eq, List.length_map]
      refine ⟨_, rfl, _, rfl, hd, _, rfl, c8.hd, p, _, rfl, c8.src, by rw [kv_len]; omega, by rw [kv_len]; have := gg.len; omega, fun r H9 r0 r1 b9 s9 => ?_⟩
      have c9 := c8.but b9 s9
      rw [kv_len] at r1
      obtain ⟨k, hk⟩ : ∃ k, (sortK (names (lastH [] C)))[r.toNat]? = some k := ⟨_, List.getElem?_eq_getElem (by rw [hlen]; omega)⟩
      have hkn : k ∈ names (lastH [] C) := (sortK_perm _).mem_iff.mp (List.mem_of_getElem? hk)
      have hr' : r = ((r.toNat : Nat) : Int) := by omega
      have sp9 : H9 sp = some (.lst ((sortK (names (lastH [] C))).map V.str)) := b9 _ _ (fun z => by
        obtain ⟨_, _, _, q⟩ := c7.src
        rw [← z, hsp] at q
        cases q) hsk
      have lp9 : H9 lp = some (.dK (kv (lastH [] C))) := b9 _ _ (src_kd c7.src hlk) (e8 _ _ hlk)
      refine ⟨sp, _, r, .str k, rfl, rfl, sq_of sp9, by rw [hr']; exact atI_nat (by rw [List.getElem?_map, hk]; rfl), ?_⟩
      refine (ev_op (ev_dget (σ := [some (.ref p), some (.ref c), some (.ref hd), some (.str k), some (.ref gp), some (.ref dt), some (.ref lp), none, some (.ref wt)]) (ev_var (i := 2) rfl) (ev_var (i := 3) rfl) (.inl c9.hd) (lookup_val hkn)) ev_c rv_I0 : Ev _ _ _ (.int (val (lastH [] C) k - 1))) H9 (Ex.refl _) _ fun H10 e10 => ?_
      refine ⟨_, rfl, _, rfl, lp, _, rfl, DPut.k (k := Sum.inr k) (e10 _ _ lp9) (sz_lt (by rw [kv_len]; have := gg.len; omega)), ?_⟩
      rw [kv_putN]
      have bb : But p H6 (upd H10 lp (.dK (kv (putN (lastH [] C) k (val (lastH [] C) k - 1))))) := fun a o n h => (upd_ne (ne_of_none h hlp)).trans (e10 _ _ (b9 _ _ n (e8 _ _ (e7 _ _ h))))
      have c11 := c6.but bb (src_upd' (src_ex s9 e10) (src_kd c7.src hlk).symm)
      dsimp only
      refine s_pairW (m := "back") (s := putN (lastH [] C) k (val (lastH [] C) k - 1)) (w := "hear") ?_ (fun wt2 dt2 H11 e11 wr2 => ?_) rfl
      · exact evp_dict (ev_var rfl) upd_same
      exact kM _ _ ⟨_, _, wt2, dt2, _, _, rfl, c11.ex e11, wr2, less_back gg hkn, put_ok gg.ok hkn⟩
    · rintro H6 ⟨c6, w6⟩
      exact ⟨_, _, wt, dt, _, _, rfl, c6, w6, great_rows gg, great_ok gg⟩
    rintro σ6 H6 ⟨v3, v6, wt, dt, rw_, m, rfl, c6, w6, hrw, okw⟩
    refine q_ifG M (fun H1 => Core N p c ts C hd gp (lastH [] C) (greatOf (lastH [] C)) H1) (fun H1 => Core N p c ts C hd gp (lastH [] C) (greatOf (lastH [] C)) H1 ∧ Wr H1 wt dt rw_ m) ?_ ?_ ?_ ?_
    · intro Q q1 q2
      refine ⟨_, rfl, p, 4, rfl, c6.src, by decide, by decide, fun r H7 _ _ b7 s7 => ⟨rfl, _, rfl, ?_⟩⟩
      have c7 := c6.but b7 s7
      by_cases h7 : V.int r = V.int 0
      · rw [decide_eq_true h7]
        exact q1 _ c7
      · rw [decide_eq_false h7]
        exact q2 _ ⟨c7, wnx c6.src b7 w6⟩
    · rintro H7 c7 kM
      dsimp only
      refine s_pairW (m := "rows") (s := []) (w := "told") evp_none (fun wt2 dt2 H8 e8 wr2 => ?_) rfl
      exact kM _ _ ⟨_, _, wt2, dt2, _, _, rfl, c7.ex e8, wr2, told_rows _, nil_ok⟩
    · rintro H7 ⟨c7, w7⟩
      exact ⟨_, _, wt, dt, _, _, rfl, c7, w7, hrw, okw⟩
    rintro σ7 H7 ⟨v3, v6, wt, dt, rw_, m, rfl, c7, w7, hrw, okw⟩
    refine use_seq (use_asg (use_op ?_))
    refine evp_after (σ := [some (.ref p), some (.ref c), some (.ref hd), v3, some (.ref gp), some (.ref dt), v6, none, some (.ref wt)]) (H := H7) (G := greatOf (lastH [] C)) (td := tVar 4) (fun H1 e => evp_dict (ev_var rfl) (e _ _ c7.gp)) H7 (Ex.refl _) _ fun v H8 e8 ⟨l, t1, t2, t3, ev, hl8, h1, h2, h3⟩ => ?_
    subst ev
    have c8 := c7.ex e8
    refine ⟨_, rfl, p, 3, rfl, c8.src, by decide, by decide, fun r H9 r0 r1 b9 s9 => ?_⟩
    have c9 := c8.but b9 s9
    have w9 := wnx c8.src b9 (w7.ext (ExtN.ex e8))
    have hlp : l ≠ p := fun z => by
      obtain ⟨_, _, _, q⟩ := c8.src
      rw [← z, hl8] at q
      cases q
    obtain ⟨at_, ra, hat, hra, oka⟩ : ∃ at_ ra, atI [V.ref t1, .ref t2, .ref t3] r = some (.ref at_) ∧ RowAt H9 at_ ra ∧ NumOk ra.2 := by
      have z : r = 0 ∨ r = 1 ∨ r = 2 := by omega
      rcases z with z | z | z <;> rw [z]
      · exact ⟨t1, _, rfl, row_but c8.src b9 h1, great_ok gg⟩
      · exact ⟨t2, _, rfl, row_but c8.src b9 h2, nil_ok⟩
      · exact ⟨t3, _, rfl, row_but c8.src b9 h3, great_ok gg⟩
    refine ⟨l, _, r, .ref at_, rfl, rfl, sq_of (b9 _ _ hlp hl8), hat, ?_⟩
    have al : All N p c ts C hd gp (lastH [] C) (greatOf (lastH [] C)) wt dt at_ rw_ ra m H9 := ⟨c9, w9, hra⟩
    refine lam1 al gC hrw okw oka rfl rfl rfl fun t H10 al10 ht => ⟨_, rfl, _, _, due_dp ht, due_dp al10.wr.2, due_shaped hrw, due_shaped hrw, _, rfl, ?_⟩
    rw [due_eq]
    refine iteF ?_
    refine lam2 al10 gC hrw okw oka rfl rfl rfl fun t H11 al11 ht => ⟨_, rfl, _, _, due_dp ht, due_dp al11.wr.2, due_shaped hrw, due_shaped hrw, ?_⟩
    rw [due_eq]
    exact k1 H11
end
end K82
end
section
set_option maxRecDepth 100000
set_option maxHeartbeats 4000000
/-! the plain law over numbers: greedyP is the least choice. -/
namespace K82
open PySem L2
theorem under_le {a b : Num} (nd : (names a).Nodup) (hb : ∀ k, 0 ≤ val b k) : under a b = true ↔ Le (val a) (val b) := by
  constructor
  · intro h k
    by_cases hk : k ∈ names a
    · obtain ⟨p, hp, rfl⟩ := List.mem_map.mp hk
      unfold under at h
      rw [List.all_eq_true] at h
      have z := of_decide_eq_true (h p hp)
      rw [val_mem nd hp]
      exact z
    · rw [val_out hk]
      exact hb k
  · exact fun h => under_iff nd h
theorem val_bareF {a : Num} (nd : (names a).Nodup) : val (bareOf a) = val a := funext fun p => val_bare nd p
def rwOf (r : Row) : Rw Str := (decide (r.1 = "hear"), val r.2)
theorem rw_hear {r : Row} (h : r.1 = "hear") : rwOf r = (true, val r.2) := by unfold rwOf; rw [decide_eq_true h]
theorem rw_tell {r : Row} (h : ¬ r.1 = "hear") : rwOf r = (false, val r.2) := by unfold rwOf; rw [decide_eq_false h]
/-- the rows of an accepted course, one by one -/
theorem check_cons {r : Row} {rs : List Row} {b : Num} (h : checkFrom b (r :: rs) = none) : rowWord r b = none ∧ checkFrom (heardBy r b) rs = none := by
  have h : (match rowWord r b with | some m => some m | none => checkFrom (heardBy r b) rs) = none := h
  cases e : rowWord r b with
  | some m => rw [e] at h; cases h
  | none => rw [e] at h; exact ⟨rfl, h⟩
theorem row_none {r : Row} {b : Num} (h : rowWord r b = none) : (r.1 = "hear" ∧ under b r.2 = true) ∨ (r.1 = "tell" ∧ ¬ r.1 = "hear" ∧ under r.2 b = true) := by
  unfold rowWord at h
  split at h
  · cases h
  · rename_i h1
    split at h
    · cases h
    · rename_i h2
      split at h
      · cases h
      · rename_i h3
        have h1 : r.1 = "hear" ∨ r.1 = "tell" := Classical.not_not.mp h1
        rcases h1 with z | z
        · exact .inl ⟨z, by cases e : under b r.2 with | true => rfl | false => exact absurd ⟨z, e⟩ h2⟩
        · exact .inr ⟨z, fun y => absurd (z.symm.trans y) (by decide +kernel), by cases e : under r.2 b with | true => rfl | false => exact absurd ⟨z, e⟩ h3⟩
def Gd (a : Num) : Prop := GoodNum a 1000
theorem gd_heard {r : Row} {b : Num} (hr : Gd r.2) (hb : Gd b) : Gd (heardBy r b) := by
  unfold heardBy
  split
  · exact good_bare hr
  · exact hb
theorem plain_good : ∀ (C : List Row) (b : Num), (∀ r ∈ C, Gd r.2) → Gd b → checkFrom b C = none → Good (val b) (C.map rwOf)
  | [], _, _, _, _ => trivial
  | r :: rs, b, hC, hb, h => by
    obtain ⟨h1, h2⟩ := check_cons h
    have hr := hC r List.mem_cons_self
    have ih := plain_good rs (heardBy r b) (fun x hx => hC x (List.mem_cons_of_mem _ hx)) (gd_heard hr hb) h2
    rcases row_none h1 with ⟨z, u⟩ | ⟨z, nz, u⟩
    · show Good (val b) (rwOf r :: rs.map rwOf)
      rw [rw_hear z]
      have e : heardBy r b = bareOf r.2 := if_pos z
      rw [e, val_bareF hr.nd] at ih
      exact ⟨(under_le hb.nd hr.lo).mp u, ih⟩
    · show Good (val b) (rwOf r :: rs.map rwOf)
      rw [rw_tell nz]
      have e : heardBy r b = b := if_neg nz
      rw [e] at ih
      exact ⟨fun k => hr.lo k, (under_le hr.nd hb.lo).mp u, ih⟩
open Classical in
theorem plain_greedy : ∀ (C : List Row) (i : Nat) (h g : Num), (∀ r ∈ C, Gd r.2) → Gd h → Gd g → greedyP i h g C = greedyL i (val h) (val g) (C.map rwOf)
  | [], _, _, _, _, _, _ => rfl
  | r :: rs, i, h, g, hC, hh, hg => by
    have hr := hC r List.mem_cons_self
    have hC' := fun x hx => hC x (List.mem_cons_of_mem r hx)
    show (if r.1 = "hear" then greedyP (i + 1) (bareOf r.2) g rs else if under r.2 g = true then greedyP (i + 1) h g rs else i :: greedyP (i + 1) h h rs) = greedyL i (val h) (val g) (rwOf r :: rs.map rwOf)
    by_cases z : r.1 = "hear"
    · rw [if_pos z, rw_hear z, plain_greedy rs (i + 1) (bareOf r.2) g hC' (good_bare hr) hg, val_bareF hr.nd]
      rfl
    · rw [if_neg z, rw_tell z]
      show _ = (ite (Le (val r.2) (val g)) _ _ : List Nat)
      by_cases u : under r.2 g = true
      · rw [if_pos u, if_pos ((under_le hr.nd hg.lo).mp u)]
        exact plain_greedy rs (i + 1) h g hC' hh hg
      · rw [if_neg u, if_neg (fun y => u ((under_le hr.nd hg.lo).mpr y)), plain_greedy rs (i + 1) h h hC' hh hh]
theorem ahead_val : ∀ (C : List Row) (h : Num) (j : Nat), (∀ r ∈ C, Gd r.2) → Gd h → j < C.length → val ((aheadGo h C).getD j []) = heardAt (val h) (C.map rwOf) j ∧ Gd ((aheadGo h C).getD j [])
  | [], _, _, _, _, h => by cases h
  | r :: rs, h, 0, _, hh, _ => by
    refine ⟨?_, hh⟩
    show val h = heardAt (val h) (rwOf r :: rs.map rwOf) 0
    rcases rwOf r with ⟨b, f⟩
    cases b <;> rfl
  | r :: rs, h, j + 1, hC, hh, hj => by
    have hr := hC r List.mem_cons_self
    have ih := ahead_val rs (heardBy r h) j (fun x hx => hC x (List.mem_cons_of_mem r hx)) (gd_heard hr hh) (by simpa using hj)
    have e : (aheadGo h (r :: rs)).getD (j + 1) [] = (aheadGo (heardBy r h) rs).getD j [] := rfl
    rw [e]
    refine ⟨?_, ih.2⟩
    rw [ih.1]
    show _ = heardAt (val h) (rwOf r :: rs.map rwOf) (j + 1)
    by_cases z : r.1 = "hear"
    · rw [rw_hear z, show heardBy r h = bareOf r.2 from if_pos z, val_bareF hr.nd]
      rfl
    · rw [rw_tell z, show heardBy r h = h from if_neg z]
      rfl
theorem plain_keeps (L : List Num) (pl : List Nat) : ∀ (C : List Row) (i : Nat) (h s : Num), (∀ r ∈ C, Gd r.2) → (∀ r ∈ C, r.1 = "hear" ∨ r.1 = "tell") → Gd h → Gd s → (∀ j, j < C.length → L.getD (i + j) [] = (aheadGo h C).getD j []) →
    (keepsGo L pl i s C = true ↔ Keeps (fun j => decide (j ∈ pl)) i (val h) (val s) (C.map rwOf))
  | [], _, _, _, _, _, _, _, _ => ⟨fun _ => trivial, fun _ => rfl⟩
  | r :: rs, i, h, s, hC, hk, hh, hs, hL => by
    have hr := hC r List.mem_cons_self
    have h0 : L.getD i [] = h := hL 0 (by simp)
    have es : safeAt L pl i s = if i ∈ pl then h else s := by unfold safeAt; rw [h0]
    have ev : val (safeAt L pl i s) = if decide (i ∈ pl) = true then val h else val s := by
      rw [es]
      by_cases z : i ∈ pl
      · rw [if_pos z, if_pos (decide_eq_true z)]
      · rw [if_neg z, if_neg (by rw [decide_eq_false z]; decide)]
    have gs : Gd (safeAt L pl i s) := by
      rw [es]
      split
      · exact hh
      · exact hs
    have ih := plain_keeps L pl rs (i + 1) (heardBy r h) (safeAt L pl i s) (fun x hx => hC x (List.mem_cons_of_mem r hx)) (fun x hx => hk x (List.mem_cons_of_mem r hx)) (gd_heard hr hh) gs (fun j hj => by
      have z := hL (j + 1) (by rw [List.length_cons]; omega)
      rw [show i + 1 + j = i + (j + 1) by omega, z]
      rfl)
    rw [ev] at ih
    show (if r.1 = "tell" ∧ under (bareOf r.2) (safeAt L pl i s) = false then false else keepsGo L pl (i + 1) (safeAt L pl i s) rs) = true ↔ Keeps (fun j => decide (j ∈ pl)) i (val h) (val s) (rwOf r :: rs.map rwOf)
    by_cases z : r.1 = "hear"
    · have nt : ¬ r.1 = "tell" := fun y => absurd (z.symm.trans y) (by decide +kernel)
      rw [if_neg (fun y => nt y.1), rw_hear z]
      rw [show heardBy r h = bareOf r.2 from if_pos z, val_bareF hr.nd] at ih
      exact ih
    · have t : r.1 = "tell" := (hk r List.mem_cons_self).resolve_left z
      rw [rw_tell z]
      rw [show heardBy r h = h from if_neg z] at ih
      have u : under (bareOf r.2) (safeAt L pl i s) = true ↔ Le (val r.2) (if decide (i ∈ pl) = true then val h else val s) := by
        rw [under_le (bare_nodup hr.nd) gs.lo, val_bareF hr.nd, ev]
      show _ ↔ Le (val r.2) (if decide (i ∈ pl) = true then val h else val s) ∧ Keeps (fun j => decide (j ∈ pl)) (i + 1) (val h) (if decide (i ∈ pl) = true then val h else val s) (rs.map rwOf)
      rw [← u, ← ih]
      cases e : under (bareOf r.2) (safeAt L pl i s) with
      | true => rw [if_neg (fun y => by cases y.2)]; simp
      | false => rw [if_pos ⟨t, rfl⟩]; simp
theorem kinds_of : ∀ (C : List Row) (b : Num), checkFrom b C = none → ∀ r ∈ C, r.1 = "hear" ∨ r.1 = "tell"
  | [], _, _, _, h => by cases h
  | r :: rs, b, h, x, hx => by
    obtain ⟨h1, h2⟩ := check_cons h
    rcases List.mem_cons.mp hx with z | z
    · rw [z]
      rcases row_none h1 with ⟨y, _⟩ | ⟨y, _⟩
      · exact .inl y
      · exact .inr y
    · exact kinds_of rs _ h2 x z
theorem gd_nil : Gd [] := good_nil (by decide)
section
variable {C : List Row} (G : GoodC C)
include G
theorem pl_good : Good (val []) (C.map rwOf) := plain_good C [] G.rows gd_nil G.ok
theorem pl_greedy : greedyP 0 [] [] C = greedyL 0 (val []) (val []) (C.map rwOf) := plain_greedy C 0 [] [] G.rows gd_nil gd_nil
theorem pl_lt : ∀ n ∈ greedyP 0 [] [] C, n < C.length := fun n hn => by
  rw [pl_greedy G] at hn
  have := greedyL_ge _ _ _ _ n hn
  rw [List.length_map] at this
  omega
theorem pl_asc : (greedyP 0 [] [] C).Pairwise (· < ·) := by
  rw [pl_greedy G]
  exact greedyL_asc _ _ _ _
theorem pl_kiff (pl : List Nat) : keepsGo (aheadGo [] C) pl 0 [] C = true ↔ Keeps (fun j => decide (j ∈ pl)) 0 (val []) (val []) (C.map rwOf) :=
  plain_keeps (aheadGo [] C) pl C 0 [] [] G.rows (kinds_of C [] G.ok) gd_nil gd_nil fun j _ => by rw [Nat.zero_add]
theorem pl_keeps : keepsGo (aheadGo [] C) (greedyP 0 [] [] C) 0 [] C = true := by
  rw [pl_kiff G]
  refine greedy_keeps (C.map rwOf) 0 (val []) (val []) _ (pl_good G) fun j _ => ?_
  rw [pl_greedy G]
  exact decide_eq_true_iff
theorem cnt_filter (P : Nat → Bool) : ∀ (n i : Nat), cnt P i n = ((List.range' i n).filter P).length
  | 0, i => rfl
  | n + 1, i => by
    show (if P i then 1 else 0) + cnt P (i + 1) n = _
    rw [cnt_filter P n (i + 1), List.range'_succ, List.filter_cons]
    cases P i with
    | true => rw [if_pos rfl, if_pos rfl, List.length_cons]; omega
    | false => simp
theorem pl_least (m : List Nat) (h : keepsGo (aheadGo [] C) m 0 [] C = true) : (greedyP 0 [] [] C).length ≤ m.length := by
  have z := greedy_least (fun j => decide (j ∈ m)) (C.map rwOf) 0 (val []) (val []) (val []) (pl_good G) (Le.refl _) ((pl_kiff G m).mp h)
  rw [if_pos (Le.refl _), ← greedyL_len _ 0, ← pl_greedy G, cnt_filter G] at z
  refine Nat.le_trans z ?_
  exact List.Nodup.length_le_of_subset ((List.nodup_range' (step := 1)).sublist List.filter_sublist) fun x hx => of_decide_eq_true (List.mem_filter.mp hx).2
end
open Classical in
theorem greedy_sub {κ : Type} : ∀ (r : List (Rw κ)) (i : Nat) (h g : Fn κ), (greedyL i h g r).Sublist (List.range' i r.length)
  | [], _, _, _ => List.Sublist.slnil
  | (true, f) :: r, i, h, g => by
    rw [List.length_cons, List.range'_succ]
    exact (greedy_sub r (i + 1) f g).cons _
  | (false, f) :: r, i, h, g => by
    rw [List.length_cons, List.range'_succ]
    show List.Sublist (ite _ _ _ : List Nat) _
    split
    · exact (greedy_sub r (i + 1) h g).cons _
    · exact (greedy_sub r (i + 1) h h).cons_cons _
theorem masks_mem : ∀ (ns : List Nat) (L : List (List Nat)) (a s : List Nat), a ∈ L → s.Sublist ns → a ++ s ∈ masksOf ns L
  | [], L, a, s, ha, hs => by
    rw [List.sublist_nil.mp hs, List.append_nil]
    exact ha
  | n :: r, L, a, s, ha, hs => by
    show a ++ s ∈ masksOf r (L ++ L.map fun m => m ++ [n])
    cases hs with
    | cons _ h => exact masks_mem r _ a s (List.mem_append_left _ ha) h
    | cons_cons _ h =>
      rename_i s'
      have z := masks_mem r (L ++ L.map fun m => m ++ [n]) (a ++ [n]) s' (List.mem_append_right _ (List.mem_map.mpr ⟨a, ha, rfl⟩)) h
      rw [List.append_assoc] at z
      exact z
section
variable {C : List Row} (G : GoodC C)
include G
theorem pl_mask : greedyP 0 [] [] C ∈ masksOf (List.range C.length) [[]] := by
  rw [pl_greedy G]
  have z := greedy_sub (C.map rwOf) 0 (val []) (val [])
  rw [List.length_map, ← List.range_eq_range'] at z
  exact masks_mem _ [[]] [] _ List.mem_cons_self z
/-- the first of the kept lots -/
theorem pl_first {bs : Lots} (hp : (bs.map (·.2)).Perm (masksOf (List.range C.length) [[]])) (hw : bs.Pairwise (fun x y => x.2.length ≤ y.2.length)) :
    ∃ b r, bs.filter (fun b => keepsGo (aheadGo [] C) b.2 0 [] C) = b :: r ∧ b.2.length = (greedyP 0 [] [] C).length := by
  obtain ⟨b0, hb0, e0⟩ := List.mem_map.mp (hp.mem_iff.mpr (pl_mask G))
  have hf : b0 ∈ bs.filter (fun b => keepsGo (aheadGo [] C) b.2 0 [] C) := List.mem_filter.mpr ⟨hb0, by rw [e0]; exact pl_keeps G⟩
  have hw2 := hw.sublist (List.filter_sublist (p := fun b : Addr × List Nat => keepsGo (aheadGo [] C) b.2 0 [] C))
  cases e : bs.filter (fun b => keepsGo (aheadGo [] C) b.2 0 [] C) with
  | nil => rw [e] at hf; cases hf
  | cons b r =>
    refine ⟨b, r, rfl, ?_⟩
    have hb : b ∈ bs.filter (fun b => keepsGo (aheadGo [] C) b.2 0 [] C) := by rw [e]; exact List.mem_cons_self
    have l1 := pl_least G b.2 (List.mem_filter.mp hb).2
    rw [e] at hf hw2
    rcases List.mem_cons.mp hf with z | z
    · rw [← z, e0]
    · have l2 := (List.pairwise_cons.mp hw2).1 b0 z
      rw [e0] at l2
      omega
/-- what an answer of the greedy choice is -/
theorem pl_tell {n : Nat} (h : n ∈ greedyP 0 [] [] C) : ∃ r, C[n]? = some r ∧ r.1 = "tell" ∧ bareOf r.2 ≠ [] := by
  have hn := h
  rw [pl_greedy G] at h
  obtain ⟨f, h1, h2, _⟩ := (greedy_apart (C.map rwOf) 0 (val []) (val []) (pl_good G) (Le.refl _)).1 n h
  rw [Nat.sub_zero, List.getElem?_map] at h1
  cases e : C[n]? with
  | none => rw [e] at h1; cases h1
  | some r =>
    rw [e] at h1
    have e2 : rwOf r = (false, f) := Option.some.inj h1
    have m := List.mem_of_getElem? e
    have nh : ¬ r.1 = "hear" := fun z => by rw [rw_hear z] at e2; cases e2
    rw [rw_tell nh] at e2
    have ef : val r.2 = f := congrArg Prod.snd e2
    refine ⟨r, rfl, (kinds_of C [] G.ok r m).resolve_left nh, fun z => h2 ?_⟩
    rw [← ef, ← val_bareF (G.rows r m).nd, z]
    exact Le.refl _
theorem eqN_nil {a : Num} (h : a ≠ []) : eqN a [] = false := by
  unfold eqN
  cases a with
  | nil => exact absurd rfl h
  | cons p r => rfl
/-- no sync serves two answers of the greedy choice -/
theorem pl_serves {row : Nat} (hrow : row < C.length) : ((greedyP 0 [] [] C).filter fun n => servesB C (aheadGo [] C) row n).length ≤ 1 := by
  have hp := (greedy_apart (C.map rwOf) 0 (val []) (val []) (pl_good G) (Le.refl _)).2
  rw [← pl_greedy G] at hp
  have hp2 := hp.sublist (List.filter_sublist (p := fun n => servesB C (aheadGo [] C) row n))
  cases e : (greedyP 0 [] [] C).filter fun n => servesB C (aheadGo [] C) row n with
  | nil => exact Nat.zero_le _
  | cons a t =>
    cases t with
    | nil => exact Nat.le_refl _
    | cons b t =>
      exfalso
      rw [e] at hp2
      have hab := (List.pairwise_cons.mp hp2).1 b List.mem_cons_self
      have ma : a ∈ (greedyP 0 [] [] C).filter fun n => servesB C (aheadGo [] C) row n := by rw [e]; exact List.mem_cons_self
      have mb : b ∈ (greedyP 0 [] [] C).filter fun n => servesB C (aheadGo [] C) row n := by rw [e]; exact List.mem_cons_of_mem _ List.mem_cons_self
      have sa := (List.mem_filter.mp ma).2
      obtain ⟨gb, sb⟩ := List.mem_filter.mp mb
      obtain ⟨r, hr, ht, _⟩ := pl_tell G gb
      have nh : ¬ r.1 = "hear" := fun z => absurd (ht.symm.trans z) (by decide +kernel)
      have gr := G.rows r (List.mem_of_getElem? hr)
      have n1 := hab (val r.2) (by rw [Nat.sub_zero, List.getElem?_map, hr]; show some (rwOf r) = _; rw [rw_tell nh])
      rw [Nat.sub_zero] at n1
      unfold servesB at sa sb
      rw [Bool.and_eq_true, Bool.and_eq_true] at sa sb
      obtain ⟨la, _⟩ := sa
      obtain ⟨_, _, ub⟩ := sb
      have la := of_decide_eq_true la
      obtain ⟨ev, gv⟩ := ahead_val C [] row G.rows gd_nil hrow
      have eg : C.getD b ("", []) = r := by rw [List.getD_eq_getElem?_getD, hr] <;> rfl
      rw [eg, under_le (bare_nodup gr.nd) gv.lo, val_bareF gr.nd, ev] at ub
      exact n1 (ub.trans (heard_mono (C.map rwOf) (val []) row a (pl_good G) la))
end
theorem under_B {a s : Num} (ha : Gd a) (hs : Gd s) : under a s = underB a s := by
  have h1 := under_le ha.nd hs.lo
  have h2 := under_le (bare_nodup ha.nd) hs.lo
  rw [val_bareF ha.nd] at h2
  unfold underB
  cases e : under a s with
  | true => exact ((h2.mpr (h1.mp e))).symm
  | false =>
    cases e2 : under (bareOf a) s with
    | false => rfl
    | true => rw [h1.mpr (h2.mp e2)] at e; cases e
theorem go_same (k : Nat) : ∀ (C : List Row) (i : Nat) (M : Mem) (h s : Num) (many : Nat), (∀ r ∈ C, Gd r.2) → Gd h → Gd s → goR under k i M h s many C = goR underB k i M h s many C
  | [], _, _, _, _, _, _, _, _ => rfl
  | r :: rs, i, M, h, s, many, hC, hh, hs => by
    have hr := hC r List.mem_cons_self
    have hC' := fun x hx => hC x (List.mem_cons_of_mem r hx)
    have gs : Gd (if M.asks k r = true then h else s) := by
      split
      · exact hh
      · exact hs
    unfold goR
    rw [under_B hr gs, go_same k rs (i + 1) _ _ _ _ hC' (good_bare hr) gs, go_same k rs (i + 1) _ _ _ _ hC' hh gs]
theorem pl_go {C : List Row} (G : GoodC C) (k : Nat) : goR under k 0 mem0 [] [] 0 C = goR underB k 0 mem0 [] [] 0 C := go_same k C 0 mem0 [] [] 0 G.rows gd_nil gd_nil
end K82
end
section
set_option maxRecDepth 100000
set_option maxHeartbeats 4000000
/-! law: its steps. -/
namespace K82
open PySem PySem.Spec PyProof.Rows L2 L2H HotX Evl NdefX LamX
/-! ### things told, as plain data -/
def dtRow (r : Row) : Dt := .tup [.str r.1, .num r.2]
def dtCourse (C : List Row) : Dt := .lst (C.map dtRow)
def dtOf (n : Nat) : Res → Dt
  | .caught i s => .tup [.str "caught", .int (i : Int), .num s]
  | .done m => .tup (if m > n then [.str "wasteful", .int (m : Int), .int (n : Int)] else [.str "right", .int (m : Int)])
theorem deep_rows : ∀ C : List Row, Dt.deepL (C.map dtRow) ≤ 3
  | [] => by decide
  | r :: C => by
    have ih := deep_rows C
    show max (dtRow r).deep (Dt.deepL (C.map dtRow)) ≤ 3
    have : (dtRow r).deep = 3 := by simp [dtRow, Dt.deep, Dt.deepL]
    omega
theorem deep_course (C : List Row) : (dtCourse C).deep ≤ 4 := by
  have := deep_rows C
  show Dt.deepL (C.map dtRow) + 1 ≤ 4
  omega
theorem deep_of (n : Nat) (r : Res) : (dtOf n r).deep ≤ 4 := by
  cases r with
  | caught i s => simp [dtOf, Dt.deep, Dt.deepL]
  | done m =>
    show (Dt.tup (if m > n then _ else _)).deep ≤ 4
    by_cases z : m > n
    · rw [if_pos z]; simp [Dt.deep, Dt.deepL]
    · rw [if_neg z]; simp [Dt.deep, Dt.deepL]
theorem rep_row {H : Hp} {t : Addr} {r : Row} (h : RowAt H t r) (ok : NumOk r.2) : RepD H (dtRow r) (.ref t) := by
  obtain ⟨d, h1, h2⟩ := h
  exact ⟨t, _, rfl, h1, by show 2 ≤ 1000; decide, .str r.1, [.ref d], rfl, rfl, .ref d, [], rfl, ⟨d, rfl, h2, ok⟩, rfl⟩
theorem rep_rows {H : Hp} : ∀ {ts : List Addr} {C : List Row}, Paired (RowAt H) ts C → (∀ r ∈ C, NumOk r.2) → RepL H (C.map dtRow) (ts.map V.ref)
  | _, _, .nil, _ => rfl
  | _, _, .cons (a := t) (b := r) h q, ok => ⟨.ref t, _, rfl, rep_row h (ok r List.mem_cons_self), rep_rows q fun x hx => ok x (List.mem_cons_of_mem _ hx)⟩
theorem rep_course {H : Hp} {c : Addr} {C : List Row} (h : CourseAt H c C) (G : GoodC C) : RepD H (dtCourse C) (.ref c) := by
  obtain ⟨ts, h1, h2⟩ := h
  exact ⟨c, _, rfl, h1, by rw [List.length_map]; have := G.len; omega, rep_rows h2 fun r hr => (G.rows r hr).ok⟩
theorem rep_res {H : Hp} {t : Addr} {n : Nat} {r : Res} (h : ResAt H t n r) (ok : ∀ i s, r = .caught i s → NumOk s) : RepD H (dtOf n r) (.ref t) := by
  cases r with
  | caught i s =>
    obtain ⟨d, h1, h2⟩ := h
    exact ⟨t, _, rfl, h1, by show 3 ≤ 1000; decide, _, _, rfl, rfl, _, _, rfl, rfl, _, _, rfl, ⟨d, rfl, h2, ok i s rfl⟩, rfl⟩
  | done m =>
    have h1 : H t = some (.tup (if m > n then [.str "wasteful", .int (m : Int), .int (n : Int)] else [.str "right", .int (m : Int)])) := h
    by_cases z : m > n
    · rw [if_pos z] at h1
      show RepD H (.tup (if m > n then _ else _)) _
      rw [if_pos z]
      exact ⟨t, _, rfl, h1, by show 3 ≤ 1000; decide, _, _, rfl, rfl, _, _, rfl, rfl, _, _, rfl, rfl, rfl⟩
    · rw [if_neg z] at h1
      show RepD H (.tup (if m > n then _ else _)) _
      rw [if_neg z]
      exact ⟨t, _, rfl, h1, by show 2 ≤ 1000; decide, _, _, rfl, rfl, _, _, rfl, rfl, rfl⟩
theorem res_ext {H H' : Hp} {t : Addr} {n : Nat} {r : Res} (e : ExtN H H') (h : ResAt H t n r) : ResAt H' t n r := by
  cases r with
  | caught i s =>
    obtain ⟨d, h1, h2⟩ := h
    exact ⟨d, e _ _ h1 (fun ps z => by cases z), e _ _ h2 (fun ps z => by cases z)⟩
  | done m => exact e _ _ (show H t = _ from h) (fun ps z => by cases z)
theorem go_good (u : Num → Num → Bool) (k : Nat) : ∀ (C : List Row) (i : Nat) (M : Mem) (h s : Num) (many : Nat), (∀ r ∈ C, Gd r.2) → Gd h → Gd s → ∀ j s', goR u k i M h s many C = .caught j s' → NumOk s'
  | [], _, _, _, _, _, _, _, _, _, _, e => by cases e
  | r :: rs, i, M, h, s, many, hC, hh, hs, j, s', e => by
    have hr := hC r List.mem_cons_self
    have hC' := fun x hx => hC x (List.mem_cons_of_mem r hx)
    have gs : Gd (if M.asks k r = true then h else s) := by
      split
      · exact hh
      · exact hs
    unfold goR at e
    by_cases z : r.1 = "hear"
    · rw [if_pos z] at e
      exact go_good u k rs (i + 1) _ _ _ _ hC' (good_bare hr) gs j s' e
    · rw [if_neg z] at e
      by_cases y : u r.2 (if M.asks k r = true then h else s) = true
      · rw [if_pos y] at e
        exact go_good u k rs (i + 1) _ _ _ _ hC' hh gs j s' e
      · rw [if_neg y] at e
        injection e with e1 e2
        rw [← e2]
        exact GoodNum.ok gs
theorem sp_same {H : Hp} {d : Dt} {x y : V} {ds : List V} (hd : d.deep ≤ 4) (hx : RepD H d x) (hy : RepD H d y) (e : ds = [x, y]) : SpV (spSame 4) ds H (.bl true) := fun H1 e1 Q q E => by
  subst e
  exact ⟨x, y, d, rfl, hd, hx.ex e1, hy.ex e1, q⟩
theorem ev_eqN {σ : L2.St} {H : Hp} {ta tb : TE} {n m : Num} (ha : EvD ta σ H (kv n)) (hb : EvD tb σ H (kv m)) : Ev (tOp rEqN ta tb) σ H (.bl (eqN n m)) := fun H1 e Q q =>
  ha H1 e _ fun p H2 _ e2 h2 => hb H2 (e.trans e2) _ fun r H3 _ e3 h3 => ⟨p, r, n, m, rfl, rfl, .inl (e3 _ _ h2), .inl h3, q H3 (e2.trans e3)⟩
theorem ints_len (l : List Nat) : (intsV l).length = l.length := List.length_map _
theorem ints_get {l : List Nat} {i : Nat} {x : V} (h : (intsV l)[i]? = some x) : ∃ n, l[i]? = some n ∧ l.getD i 0 = n ∧ x = V.int (n : Int) := by
  have h : (l.map fun n : Nat => V.int (Int.ofNat n))[i]? = some x := h
  rw [List.getElem?_map] at h
  cases e : l[i]? with
  | none => rw [e] at h; cases h
  | some b => rw [e] at h; exact ⟨b, rfl, by rw [List.getD_eq_getElem?_getD, e] <;> rfl, (Option.some.inj h).symm⟩
theorem given_len (l : List Nat) (f : Nat → Bool) (v : Nat → V) : (given (intsV l).length (fun i => f (l.getD i 0)) v).length = (l.filter f).length := by
  unfold given
  rw [List.length_map, ints_len]
  have z := congrArg List.length (range_filter_map f (fun n => n) l (fun i => f (l.getD i 0)) (fun i => l.getD i 0) fun i x hx => by
    have e : l.getD i 0 = x := by rw [List.getD_eq_getElem?_getD, hx] <;> rfl
    rw [e]
    exact ⟨rfl, rfl⟩)
  rw [List.length_map, List.length_map] at z
  exact z
theorem use_ifS {c : TT} {t u : TS} {D : Ends} {σ : L2.St} {H : Hp} (h : c σ H fun b H1 => if b = true then t D σ H1 else u D σ H1) : tIfS c t u D σ H := h
theorem use_not {t : TT} {σ : L2.St} {H : Hp} {Q : Bool → Hp → Prop} (h : t σ H fun b H1 => Q (!b) H1) : tNot t σ H Q := h
theorem use_B {te : TE} {σ : L2.St} {H : Hp} {Q : Bool → Hp → Prop} (h : te σ H fun x H1 => ∃ b, x = .bl b ∧ Q b H1) : tB te σ H Q := h
theorem use_call {sp : Sp} {ds : List V} {E : XK} {t : TA} {σ : L2.St} {H : Hp} {Q : VK} (h : t σ H fun vs H1 => sp (vs ++ ds) H1 Q E) : tCall sp ds E t σ H Q := h
/-! ### the copied course -/
theorem rows_of {H : Hp} {g : Nat → Row} : ∀ {ix : List Nat} {acc : List V}, Paired (fun i x => ∃ t, x = V.ref t ∧ RowAt H t (g i)) ix acc → ∃ ts : List Addr, acc = ts.map V.ref ∧ Paired (RowAt H) ts (ix.map g)
  | [], _, .nil => ⟨[], rfl, .nil⟩
  | i :: r, _, .cons ⟨q, e, h⟩ t => by
    obtain ⟨ts, h1, h2⟩ := rows_of t
    exact ⟨q :: ts, by rw [e, h1]; rfl, .cons h h2⟩
theorem ec_copy {K : PySem.W.Frag} {σ : L2.St} {H : Hp} {c : Addr} {C : List Row} {n1 n2 n : Nat} {vs : List Nat} (hn : C.length ≤ 1000) (h3 : σ[3]? = some (some (.ref c))) (hc : CourseAt H c C)
    (hw : ∀ x y, wipe (((wipe σ vs).set n1 (some x)).set n2 (some y)) vs = wipe σ vs) (hv1 : ∀ x y : V, (((wipe σ vs).set n1 (some x)).set n2 (some y))[n1]? = some (some x)) (hv2 : ∀ x y : V, (((wipe σ vs).set n1 (some x)).set n2 (some y))[n2]? = some (some y)) (en : n = 2) :
    ∀ H0, Ex H H0 → ∀ Q : VK, (∀ p H2, H0 p = none → Ex H0 H2 → CourseAt H2 p C → Q (.ref p) H2) →
      tLc (iList K (tVar 3)) (gTup K n (gCons (gName n1) (gCons (gName n2) gNil))) tYes (tTup (tCons (tVar n1) (tCons (tCB rDictD (tCons (tVar n2) tNil)) tNil))) vs σ H0 Q := by
  intro H0 e Q q
  subst en
  obtain ⟨ts, h1, h2⟩ := hc
  have hl := paired_len h2
  refine ⟨_, h3, c, rfl, ⟨_, sq_of (e _ _ h1)⟩, fun Dl hD => ?_⟩
  refine lc_list (xs := ts.map V.ref) (Cc H0 (fun _ => true) (fun i x H => ∃ t, x = V.ref t ∧ RowAt H t (C.getD i default)) Dl) (cc_start hD) (fun i H' _ p => sq_of (p.2.1 _ _ (e _ _ h1))) (fun i x H' hi p => ?_) (fun H' p => ?_)
  · obtain ⟨t, hti, rfl⟩ : ∃ t, ts[i]? = some t ∧ V.ref t = x := by
      rw [List.getElem?_map] at hi
      cases et : ts[i]? with
      | none => rw [et] at hi; cases hi
      | some t => rw [et] at hi; exact ⟨t, rfl, Option.some.inj hi⟩
    obtain ⟨r, hri, d, ht, hd⟩ := paired_ata h2 hti
    have er : C.getD i default = r := by rw [List.getD_eq_getElem?_getD, hri] <;> rfl
    have hiC := (List.getElem?_eq_some_iff.mp hri).1
    refine ⟨t, _, rfl, st_of (p.2.1 _ _ (e _ _ ht)), rfl, _, _, rfl, _, _, rfl, rfl, hw _ _, ?_⟩
    refine cc_turn p (by omega) et_yes fun _ => ?_
    rw [er]
    exact (evf_tupD (ev_var (hv1 _ _)) (ed_copy (ev_var (hv2 _ _)) (.inl (e _ _ hd)))).imp fun v H3 ⟨t, d, ev, a1, a2⟩ => ⟨t, ev, d, a1, a2⟩
  · obtain ⟨p1, p2, acc, p3, _, p5⟩ := p
    obtain ⟨ts', e1, e2⟩ := rows_of (H := H') (paired_mono p5 fun i x h => h H' (fun a o _ z => z))
    refine q Dl H' p1 p2 ⟨ts', by rw [p3, e1], ?_⟩
    rw [List.filter_eq_self.mpr (fun _ _ => rfl), List.length_map, hl, range_map C (fun i => C.getD i default) id fun i x hx => by rw [List.getD_eq_getElem?_getD, hx] <;> rfl, List.map_id] at e2
    exact e2
/-! ### the lots -/
theorem lc_via {K : PySem.W.Frag} {σ : L2.St} {H : Hp} {Q : VK} {tl : TE} {g : TG} {t : TT} {te : TE} {vs : List Nat} (h : tl σ H fun x H1 => tLc (iList K (tC x)) g t te vs σ H1 Q) : tLc (iList K tl) g t te vs σ H Q := h
theorem rg_ints (n : Nat) : rgV 0 (n : Int) = intsV (List.range n) := by
  unfold rgV intsV
  have e : ((n : Int) - 0).toNat = n := by omega
  rw [e]
  refine List.map_congr_left fun i _ => ?_
  rw [Int.zero_add]
  rfl
theorem given_lots (bs : Lots) (f : Addr × List Nat → Bool) : given (bs.map fun b => V.ref b.1).length (fun i => f (bs.getD i default)) (fun i => V.ref (bs.getD i default).1) = (bs.filter f).map fun b => V.ref b.1 := by
  unfold given
  rw [List.length_map]
  exact range_filter_map f (fun b => V.ref b.1) bs _ _ fun i x hx => by
    have e : bs.getD i default = x := by rw [List.getD_eq_getElem?_getD, hx] <;> rfl
    rw [e]
    exact ⟨rfl, rfl⟩
/-- what stands from the course on -/
structure Kept (K : PySem.W.Frag) (N : List NTab) (a : Addr) (ns : List Int) (c : Addr) (ts : List Addr) (C : List Row) (hp : Addr) (H : Hp) : Prop where
  scr : SqL K H a (ns.map V.int)
  crs : H c = some (.lst (ts.map V.ref))
  rows : Paired (RowAt H) ts C
  nums : NumsAt H hp (aheadGo [] C)
  tab : TabsN N H
theorem sq_ext {K : PySem.W.Frag} {H H' : Hp} {a : Addr} {xs : List V} (e : ExtN H H') (h : SqL K H a xs) : SqL K H' a xs := by
  rcases h with (h | ⟨o, h⟩) | h
  · exact .inl (.inl (e _ _ h (fun ps z => by cases z)))
  · exact .inl (.inr ⟨o, e _ _ h (fun ps z => by cases z)⟩)
  · exact .inr h
section
variable {K : PySem.W.Frag} {N : List NTab} {a c hp : Addr} {ns : List Int} {ts : List Addr} {C : List Row} {H H' : Hp}
theorem Kept.ext (k : Kept K N a ns c ts C hp H) (e : ExtN H H') (t : TabsN N H') : Kept K N a ns c ts C hp H' :=
  ⟨sq_ext e k.scr, e _ _ k.crs (fun ps z => by cases z), paired_mono k.rows fun t r h => h.ext e, k.nums.ext e, t⟩
theorem Kept.ex (k : Kept K N a ns c ts C hp H) (e : Ex H H') : Kept K N a ns c ts C hp H' := k.ext (ExtN.ex e) (TabsN.ex k.tab e)
theorem Kept.course (k : Kept K N a ns c ts C hp H) : CourseAt H c C := ⟨ts, k.crs, k.rows⟩
theorem Kept.len (k : Kept K N a ns c ts C hp H) : (ts.map V.ref).length = C.length := by rw [List.length_map, paired_len k.rows]
end
theorem but_ex {p : Addr} {H H1 H2 : Hp} (n : H p = none) (e : Ex H H1) (b : But p H1 H2) : Ex H H2 := fun x o h => b x o (ne_of_none h n) (e x o h)
theorem ahead_ok {C : List Row} (G : GoodC C) : ∀ n ∈ aheadGo [] C, NumOk n := fun n hn => by
  obtain ⟨j, hj⟩ := List.getElem?_of_mem hn
  have hl := (List.getElem?_eq_some_iff.mp hj).1
  rw [ahead_len] at hl
  have z := (ahead_val C [] j G.rows gd_nil hl).2
  rw [List.getD_eq_getElem?_getD, hj] at z
  exact GoodNum.ok z
end K82
end
section
set_option maxRecDepth 100000
set_option maxHeartbeats 4000000
/-! law. -/
namespace K82
open PySem PySem.Spec PyProof.Rows L2 L2H HotX Evl NdefX LamX
/-- a def that stands in the module -/
structure Hs (K : PySem.W.Frag) (mg : Str → Option Value) (x : Str) (f : Addr) (fd : FuncData) (ps : List Str) : Prop where
  m : mg x = some (.ref f)
  k : PySem.W.keepIn K (.ref f) = true
  b : Binds K fd ps []
def spLaw (K : PySem.W.Frag) (T : List NTab) : Sp := fun vs H Q _ => ∃ (a : Addr) (ns : List Int), vs = [.ref a] ∧ SqL K H a (ns.map V.int) ∧ ns.length ≤ 1000 ∧ TabsN T H ∧ ∀ H2, Q (.bl true) H2
structure TxtL (mg : Str → Option Value) : Prop where
  len : mg "len" = none
  dct : mg "dict" = none
  lst : mg "list" = none
  range : mg "range" = none
  isi : mg "isinstance" = none
  tup : mg "tuple" = none
  any : mg "any" = none
section
variable {P : Program} {w : World} {K : PySem.W.Frag} {mg : Str → Option Value} {base : Heap}
theorem scLaw : FnScope ["script", "source", "names", "course", "heard", "lots", "fewest", "turn", "kind", "handed", "told", "row", "lot", "state", "at", "one"] ["script"] (defScope sLaw) := ⟨rfl, rfl, rfl, by decide +kernel, rfl, by decide +kernel, by decide +kernel⟩
theorem ok_law {N : List NTab} {CH f fO fP fC fA fM fK fW fS fG fV fB fF fR fY fZ : Addr} {fd fdO fdP fdC fdA fdM fdK fdW fdS fdG fdV fdB fdF fdR fdY fdZ : FuncData} (F : Fun K "law" "law" sLaw f fd) (T : TxtL mg)
    (GO : FnOk P w K mg base CX0 1 fO fdO ["script", "at"] (spSrc K)) (hO : Hs K mg "_law_source" fO fdO ["script", "at"])
    (GP : FnOk P w K mg base CX0 1 fP fdP ["source", "many"] spPick) (hP : Hs K mg "_law_pick" fP fdP ["source", "many"])
    (GC : FnOk P w K mg base CX0 2 fC fdC ["source", "names"] spMade) (hC : Hs K mg "_law_course" fC fdC ["source", "names"])
    (GA : FnOk P w K mg base CX0 2 fA fdA ["course"] spAhead) (hA : Hs K mg "_law_heard_ahead" fA fdA ["course"])
    (GM : FnOk P w K mg base CX0 3 fM fdM ["names"] (spMasks N)) (hM : Hs K mg "_law_masks" fM fdM ["names"])
    (GK : FnOk P w K mg base CX0 2 fK fdK ["course", "heard", "places"] spKeeps) (hK : Hs K mg "_law_keeps" fK fdK ["course", "heard", "places"])
    (GW : FnOk P w K mg base (L2.CX P w) 5 fW fdW ["course"] (spFewest CH)) (hW : Hs K mg "fewest_syncs" fW fdW ["course"])
    (GS : FnOk P w K mg base CX0 4 fS fdS ["answer", "due"] (spSame 4)) (hS : Hs K mg "_law_same" fS fdS ["answer", "due"])
    (GG : FnOk P w K mg base CX0 1 fG fdG ["value", "most"] spRising) (hG : Hs K mg "_law_rising" fG fdG ["value", "most"])
    (GV : FnOk P w K mg base CX0 2 fV fdV ["course", "heard", "row", "at"] spServes) (hV : Hs K mg "_law_serves" fV fdV ["course", "heard", "row", "at"])
    (GB : FnOk P w K mg base CX0 1 fB fdB ["numbers"] spBare) (hB : Hs K mg "_law_bare" fB fdB ["numbers"])
    (GF : FnOk P w K mg base (L2.CX P w) 6 fF fdF ["course", "rule"] (spFoe CH)) (hF : Hs K mg "sync_foe" fF fdF ["course", "rule"])
    (GR : FnOk P w K mg base CX0 1 fR fdR ["kind"] (spRule N)) (hR : Hs K mg "_law_rule" fR fdR ["kind"])
    (GY : FnOk P w K mg base CX0 3 fY fdY ["course", "kind", "fewest"] (spPlay N)) (hY : Hs K mg "_law_play" fY fdY ["course", "kind", "fewest"])
    (GZ : FnOk P w K mg base CX0 9 fZ fdZ ["source", "course"] (spRefused N)) (hZ : Hs K mg "_law_refused" fZ fdZ ["source", "course"]) :
    FnOk P w K mg base CX0 10 f fd ["script"] (spLaw K N) := by
  refine F.ok scLaw (fun vs H Q E h => ?_) (fun cdv A outer s H vs Q E hr h => ?_)
  · obtain ⟨a, ns, rfl, _⟩ := h
    rfl
  · obtain ⟨a, ns, rfl, hs, hn, hT, k1⟩ := h
    have hu := hu_of hr
    have hr1 : Room 1 _ := hr.mono (by decide)
    have hr2 : Room 2 _ := hr.mono (by decide)
    have hr3 : Room 3 _ := hr.mono (by decide)
    have hr4 : Room 4 _ := hr.mono (by decide)
    have hr5 : Room 5 _ := hr.mono (by decide)
    have hr6 : Room 6 _ := hr.mono (by decide)
    refine ⟨_, pss_cons (ps_set (i := 1) scLaw.nd rfl (Or.inl rfl) (pe_call GO hr1 rfl hO.m hO.k hO.b .nil pass0 (pa_cons (pv 0) (pa_cons pe_int pa_nil))))
        (pss_cons (ps_set (i := 2) scLaw.nd rfl (Or.inl rfl) (pe_slice sl_list (pe_lst (pa_cons pe_str (pa_cons pe_str (pa_cons pe_str pa_nil)))) po_none (po_some (pe_op op_add pe_int (pe_call GP hr1 rfl hP.m hP.k hP.b .nil pass0 (pa_cons (pv 1) (pa_cons pe_int pa_nil)))))))
        (pss_cons (ps_set (i := 3) scLaw.nd rfl (Or.inr rfl) (pe_call GC hr2 rfl hC.m hC.k hC.b .nil pass0 (pa_cons (pv 1) (pa_cons (pv 2) pa_nil))))
        (pss_cons (ps_set (i := 4) scLaw.nd rfl (Or.inr rfl) (pe_call GA hr2 rfl hA.m hA.k hA.b .nil pass0 (pa_cons (pv 3) pa_nil)))
        (pss_cons (ps_setLc (i := 5) (own := [("lot", 12)]) (g := gName 12) rfl scLaw.nd rfl rfl (sw_true rfl rfl rfl (by decide +kernel)) (pi_list (pe_call GM hr3 rfl hM.m hM.k hM.b .nil pass0 (pa_cons (pe_listRg rfl rfl T.lst (prg_1 rfl T.range (pe_callB call_len_seq (by rfl) T.len (by decide +kernel) (pa_cons (pv 3) pa_nil)))) pa_nil))) (blkOk_by (N := ["script", "source", "names", "course", "heard", "lots", "fewest", "turn", "kind", "handed", "told", "row", "lot", "state", "at", "one"]) (sc := (defScope sLaw)) (by decide +kernel)) (fun _ _ _ _ _ => pg_name (i := 12) scLaw.nd rfl (Or.inl rfl)) (fun _ _ _ _ _ => pts_one (pt_val (pe_call GK hr2 rfl hK.m hK.k hK.b .nil pass0 (pa_cons (pv 3) (pa_cons (pv 4) (pa_cons (pv 12) pa_nil)))))) (fun _ _ _ _ _ => pv 12))
        (pss_cons (ps_set (i := 6) scLaw.nd rfl (Or.inl rfl) (pe_callB call_len_seq (by rfl) T.len (by decide +kernel) (pa_cons (pe_ix ix_list (pv 5) pe_int (fun _ _ => rfl)) pa_nil)))
        (pss_cons (ps_for PassesOwn.never rfl (pi_range1 rfl T.range (pa_cons pe_int pa_nil)) (pg_name (i := 7) scLaw.nd rfl (Or.inl rfl))
        (pss_cons (ps_setLc (i := 9) (own := [("kind", 8), ("state", 13)]) (g := gTup K 2 (gCons (gName 8) (gCons (gName 13) (gNil)))) (tt := tYes) rfl scLaw.nd rfl rfl (sw_true rfl rfl rfl (by decide +kernel)) (pi_list (pv 3)) (blkOk_by (N := ["script", "source", "names", "course", "heard", "lots", "fewest", "turn", "kind", "handed", "told", "row", "lot", "state", "at", "one"]) (sc := (defScope sLaw)) (by decide +kernel)) (fun _ _ _ _ _ => by exact pg_tup rfl (pgs_cons (pg_name (i := 8) scLaw.nd rfl (Or.inl rfl)) (pgs_cons (pg_name (i := 13) scLaw.nd rfl (Or.inl rfl)) pgs_nil))) (fun _ _ _ _ _ => pts_nil) (fun _ _ _ _ _ => pe_tup (pa_cons (pv 8) (pa_cons (pe_callTy call_dictD (by rfl) T.dct (by decide +kernel) (pa_cons (pv 13) pa_nil)) pa_nil))))
        (pss_cons (ps_set (i := 10) scLaw.nd rfl (Or.inl rfl) (pe_call GW hr5 rfl hW.m hW.k hW.b .nil passL (pa_cons (pv 9) pa_nil)))
        (pss_cons (ps_if (PW.pt (pw_or (pt_not (pt_val (pe_call GS hr4 rfl hS.m hS.k hS.b .nil pass0 (pa_cons (pv 9) (pa_cons (pv 3) pa_nil))))) (pw_or (pt_not (pt_val (pe_callB call_isi (by rfl) T.isi (by decide +kernel) (pa_cons (pv 10) (pa_cons (pe_bltn (v := .ty "tuple") (u := .type "tuple") (by rfl) T.tup (by decide +kernel) rfl) pa_nil))))) (pw_or (pt_cmpR op_ne (pe_callB call_len_seq (by rfl) T.len (by decide +kernel) (pa_cons (pv 10) pa_nil)) pe_int (nomark _)) (pw_or1 (pt_not (pt_val (pe_call GS hr4 rfl hS.m hS.k hS.b .nil pass0 (pa_cons (pe_ix ix_tup (pv 10) pe_int (fun _ _ => rfl)) (pa_cons (pv 6) pa_nil))))))))))
        (pss_one (ps_ret pe_bl))
        pss_nil)
        (pss_cons (ps_if (PW.pt (pw_or (pt_not (pt_val (pe_call GG hr1 rfl hG.m hG.k hG.b .nil pass0 (pa_cons (pe_ix ix_tup (pv 10) pe_int (fun _ _ => rfl)) (pa_cons (pe_callB call_len_seq (by rfl) T.len (by decide +kernel) (pa_cons (pv 3) pa_nil)) pa_nil))))) (pw_or (pt_not (pt_val (pe_call GG hr1 rfl hG.m hG.k hG.b .nil pass0 (pa_cons (pe_ix ix_tup (pv 10) pe_int (fun _ _ => rfl)) (pa_cons (pe_callB call_len_seq (by rfl) T.len (by decide +kernel) (pa_cons (pv 3) pa_nil)) pa_nil))))) (pw_or (pt_cmpR op_ne (pe_callB call_len_seq (by rfl) T.len (by decide +kernel) (pa_cons (pe_ix ix_tup (pv 10) pe_int (fun _ _ => rfl)) pa_nil)) (pv 6) (nomark _)) (pw_or1 (pt_cmpR op_ne (pe_callB call_len_seq (by rfl) T.len (by decide +kernel) (pa_cons (pe_ix ix_tup (pv 10) pe_int (fun _ _ => rfl)) pa_nil)) (pv 6) (nomark _)))))))
        (pss_one (ps_ret pe_bl))
        pss_nil)
        (pss_cons (ps_if (pt_not (pt_val (pe_call GK hr2 rfl hK.m hK.k hK.b .nil pass0 (pa_cons (pv 3) (pa_cons (pv 4) (pa_cons (pe_ix ix_tup (pv 10) pe_int (fun _ _ => rfl)) pa_nil))))))
        (pss_one (ps_ret pe_bl))
        pss_nil)
        (pss_cons (ps_for PassesOwn.never rfl (pi_range1 rfl T.range (pa_cons (pe_callB call_len_seq (by rfl) T.len (by decide +kernel) (pa_cons (pv 3) pa_nil)) pa_nil)) (pg_name (i := 11) scLaw.nd rfl (Or.inr rfl))
        (pss_one (ps_if (pt_cmpR op_gt (pe_callB call_len_seq (by rfl) T.len (by decide +kernel) (pa_cons (pe_lc (own := [("at", 14)]) (g := gName 14) rfl scLaw.nd (pi_list (pe_ix ix_tup (pv 10) pe_int (fun _ _ => rfl))) (blkOk_by (N := ["script", "source", "names", "course", "heard", "lots", "fewest", "turn", "kind", "handed", "told", "row", "lot", "state", "at", "one"]) (sc := (defScope sLaw)) (by decide +kernel)) (fun _ _ _ _ _ => pg_name (i := 14) scLaw.nd rfl (Or.inl rfl)) (fun _ _ _ _ _ => pts_one (pt_val (pe_call GV hr2 rfl hV.m hV.k hV.b .nil pass0 (pa_cons (pv 3) (pa_cons (pv 4) (pa_cons (pv 11) (pa_cons (pv 14) pa_nil))))))) (fun _ _ _ _ _ => pv 14)) pa_nil)) pe_int (nomark _))
        (pss_one (ps_ret pe_bl))
        pss_nil)))
        (pss_cons (ps_if (pt_val (pe_callB (cr_any rfl) (by rfl) T.any (by decide +kernel) (pa_cons (pe_lc (own := [("at", 14)]) (g := gName 14) (tt := tYes) rfl scLaw.nd (pi_list (pe_ix ix_tup (pv 10) pe_int (fun _ _ => rfl))) (blkOk_by (N := ["script", "source", "names", "course", "heard", "lots", "fewest", "turn", "kind", "handed", "told", "row", "lot", "state", "at", "one"]) (sc := (defScope sLaw)) (by decide +kernel)) (fun _ _ _ _ _ => pg_name (i := 14) scLaw.nd rfl (Or.inl rfl)) (fun _ _ _ _ _ => pts_nil) (fun _ _ _ _ _ => pe_or (pe_cmpR op_ne (pe_ix (show IxR _ (rIxT K) from ix_tup) (pe_ix (show IxR _ (rIxL K) from ix_list) (pv 3) (pv 14) (fun _ _ => rfl)) pe_int (fun _ _ => rfl)) pe_str (nomark _)) (pe_one (pe_cmpR (op_eqN (Nat.lt_of_le_of_lt (Nat.le_add_right _ _) hu)) (pe_call GB hr1 rfl hB.m hB.k hB.b .nil pass0 (pa_cons (pe_ix (show IxR _ (rIxT K) from ix_tup) (pe_ix (show IxR _ (rIxL K) from ix_list) (pv 3) (pv 14) (fun _ _ => rfl)) pe_int (fun _ _ => rfl)) pa_nil)) pe_dnewK (nomark _))))) pa_nil)))
        (pss_one (ps_ret pe_bl))
        pss_nil)
        (pss_one (ps_expr (pe_bm PySem.F.plainAttrs_list PySem.F.slot_list_append PySem.F.type_list_append mt_append (pe_ix ix_tup (pv 10) pe_int (fun _ _ => rfl)) (pa_cons pe_int pa_nil))))))))))))
        (pss_cons (ps_for PassesOwn.never rfl (pi_range1 rfl T.range (pa_cons pe_int pa_nil)) (pg_name (i := 8) scLaw.nd rfl (Or.inl rfl))
        (pss_one (ps_if (pt_not (pt_val (pe_call GS hr4 rfl hS.m hS.k hS.b .nil pass0 (pa_cons (pe_call GF hr6 rfl hF.m hF.k hF.b .nil passL (pa_cons (pe_lc (own := [("one", 15), ("state", 13)]) (g := gTup K 2 (gCons (gName 15) (gCons (gName 13) (gNil)))) (tt := tYes) rfl scLaw.nd (pi_list (pv 3)) (blkOk_by (N := ["script", "source", "names", "course", "heard", "lots", "fewest", "turn", "kind", "handed", "told", "row", "lot", "state", "at", "one"]) (sc := (defScope sLaw)) (by decide +kernel)) (fun _ _ _ _ _ => by exact pg_tup rfl (pgs_cons (pg_name (i := 15) scLaw.nd rfl (Or.inl rfl)) (pgs_cons (pg_name (i := 13) scLaw.nd rfl (Or.inl rfl)) pgs_nil))) (fun _ _ _ _ _ => pts_nil) (fun _ _ _ _ _ => pe_tup (pa_cons (pv 15) (pa_cons (pe_callTy call_dictD (by rfl) T.dct (by decide +kernel) (pa_cons (pv 13) pa_nil)) pa_nil)))) (pa_cons (pe_call GR hr1 rfl hR.m hR.k hR.b .nil pass0 (pa_cons (pv 8) pa_nil)) pa_nil))) (pa_cons (pe_call GY hr3 rfl hY.m hY.k hY.b .nil pass0 (pa_cons (pv 3) (pa_cons (pv 8) (pa_cons (pv 6) pa_nil)))) pa_nil)))))
        (pss_one (ps_ret pe_bl))
        pss_nil)))
        (pss_one (ps_ret (pe_and (pe_call GZ hr rfl hZ.m hZ.k hZ.b .nil pass0 (pa_cons (pe_call GO hr1 rfl hO.m hO.k hO.b .nil pass0 (pa_cons (pv 0) (pa_cons pe_int pa_nil))) (pa_cons (pv 3) pa_nil))) (pe_one (pe_call GS hr4 rfl hS.m hS.k hS.b .nil pass0 (pa_cons (pe_call GW hr5 rfl hW.m hW.k hW.b .nil passL (pa_cons (pe_lst pa_nil) pa_nil)) (pa_cons (pe_tup (pa_cons pe_int (pa_cons (pe_lst pa_nil) (pa_cons (pe_lst pa_nil) pa_nil)))) pa_nil)))))))))))))), ?_⟩
    -- the source, the names
    refine ⟨_, rfl, a, ns, 0, rfl, hs, hn, fun p H1 hp e1 s1 => ?_⟩
    have npH : ∀ {x : Addr} {o : HO}, H x = some o → x ≠ p := fun q => ne_of_none q hp
    refine ⟨by show 3 ≤ sizeLine; decide, fun l0 hl0 => ⟨_, rfl, p, 3, rfl, src_ex s1 (Ex.new hl0), by decide, by decide, fun r H2 r0 r1 b2 s2 => ?_⟩⟩
    have nl0 : l0 ≠ p := fun z => by obtain ⟨_, _, _, q⟩ := s1; rw [← z, hl0] at q; cases q
    have hl2 : H2 l0 = some (.lst [.str "ab", .str "lib", .str "zy9"]) := b2 _ _ nl0 upd_same
    refine ⟨1, r, rfl, rfl, 1 + r, rfl, l0, _, rfl, sq_of hl2, fun nl hnl => ?_⟩
    obtain ⟨nms, hcut, nmlen, nmall⟩ : ∃ nms : List Str, cutV [V.str "ab", .str "lib", .str "zy9"] none (some (1 + r)) = nms.map V.str ∧ nms.length ≤ 3 ∧ ∀ k ∈ nms, k ∈ allNames := by
      have z : r = 0 ∨ r = 1 ∨ r = 2 := by omega
      rcases z with z | z | z <;> rw [z]
      · exact ⟨["ab"], rfl, by decide, by decide +kernel⟩
      · exact ⟨["ab", "lib"], rfl, by decide, by decide +kernel⟩
      · exact ⟨["ab", "lib", "zy9"], rfl, by decide, by decide +kernel⟩
    rw [hcut]
    -- the course
    have npl : p ≠ nl := fun z => by obtain ⟨_, _, _, q⟩ := s2; rw [z, hnl] at q; cases q
    refine ⟨_, rfl, _, rfl, p, nl, nms, rfl, npl, src_upd s2 hnl, upd_same, nmlen, nmall, fun c C H3 hc b3 s3 hC3 gC => ?_⟩
    have E3 : Ex H H3 := but_ex hp ((e1.trans (Ex.new hl0))) ((b2.trans (But.of (Ex.new hnl))).trans b3)
    -- what is heard ahead
    refine ⟨_, rfl, c, C, rfl, hC3, gC.rowsOk, fun hh H4 hhh e4 hnums => ?_⟩
    obtain ⟨ts, hct, hts⟩ := hC3
    have k4 : Kept K N a ns c ts C hh H4 := ⟨ex_l (E3.trans e4) hs, e4 _ _ hct, paired_mono hts fun t r h => h.ex e4, hnums, TabsN.ex hT (E3.trans e4)⟩
    have hlen := gC.len
    -- the lots
    dsimp only
    refine use_seq (use_asg (lc_via ?_))
    refine ⟨_, rfl, c, _, rfl, .inl (sq_of k4.crs), _, rfl, RgOk.of_le (by decide) (by rw [k4.len]; omega) (by decide) (by omega), fun q0 hq0 => ?_⟩
    rw [k4.len, rg_ints]
    have e5 : Ex H4 (upd H4 q0 (.lst (intsV (List.range C.length)))) := Ex.new hq0
    refine ⟨q0, List.range C.length, rfl, upd_same, by rw [List.length_range]; exact hlen, TabsN.ex k4.tab e5, fun bs q1 H5 perm pw hle hbs eN5 n5 t5 hlots => ?_⟩
    have k5 : Kept K N a ns c ts C hh H5 := (k4.ex e5).ext eN5 t5
    have gix : ∀ {i : Nat} {x : V}, (bs.map fun b => V.ref b.1)[i]? = some x → ∃ b, bs[i]? = some b ∧ bs.getD i default = b ∧ x = V.ref b.1 := fun {i x} h => by
      rw [List.getElem?_map] at h
      cases e : bs[i]? with
      | none => rw [e] at h; cases h
      | some b => rw [e] at h; exact ⟨b, rfl, by rw [List.getD_eq_getElem?_getD, e] <;> rfl, (Option.some.inj h).symm⟩
    refine el_lcL (K := K) (σ := [some (.ref a), some (.ref p), some (.ref nl), some (.ref c), some (.ref hh), none, none, none, none, none, none, none, none, none, none, none]) (H := H5) (xs := bs.map fun b => V.ref b.1) (tl := tC (.ref q1)) (j := 12) (vs := [12])
      (fun i => keepsGo (aheadGo [] C) (bs.getD i default).2 0 [] C) (fun i => V.ref (bs.getD i default).1) ev_c (sq_of hlots.1) (by rw [List.length_map]; omega) (fun _ => rfl) (fun i x H6 e6 hx => ?_) (fun i x H6 e6 hx _ => ?_) H5 (Ex.refl _) _ fun lp H6 hlp e6 hlk => ?_
    · obtain ⟨b, hb, eb, rfl⟩ := gix hx
      rw [eb]
      have k6 := k5.ex e6
      refine et_B (ev_call (vs := [.ref c, .ref hh, .ref b.1]) (ea_cons (ev_var (i := 3) rfl) (ea_cons (ev_var (i := 4) rfl) (ea_cons (ev_var (i := 12) rfl) ea_nil))) fun H7 e7 Q q E => ?_)
      have k7 := k6.ex e7
      exact ⟨c, hh, b.1, C, aheadGo [] C, b.2, rfl, k7.course, gC.rowsOk, k7.nums, ahead_len C [], e7 _ _ (e6 _ _ (hlots.2 b (List.mem_of_getElem? hb))), ahead_ok gC, q⟩
    · obtain ⟨b, hb, eb, rfl⟩ := gix hx
      rw [eb]
      exact ev_var rfl
    rw [given_lots bs (fun b => keepsGo (aheadGo [] C) b.2 0 [] C)] at hlk
    obtain ⟨b1, brest, hbf, hb1⟩ := pl_first gC perm pw
    rw [hbf] at hlk
    have hb1m : b1 ∈ bs := (List.mem_filter.mp (show b1 ∈ bs.filter (fun b => keepsGo (aheadGo [] C) b.2 0 [] C) by rw [hbf]; exact List.mem_cons_self)).1
    have k6 := k5.ex e6
    have hl6 := e6 _ _ (hlots.2 b1 hb1m)
    -- the least number
    dsimp only
    refine q_asg (v := .int ((greedyP 0 [] [] C).length : Int)) ?_ fun H7 e7 => ?_
    · have z : (intsV b1.2).length = (greedyP 0 [] [] C).length := by rw [← hb1]; exact List.length_map _
      rw [← z]
      exact ev_len (ev_ixL (i := 0) (ev_var rfl) ev_c (sq_of hlk) (atI_nat (j := 0) rfl)) (sq_of hl6)
    have k7 := k6.ex e7
    have hgl := pl_lt gC
    have hgk := pl_keeps gC
    generalize hL : greedyP 0 [] [] C = L at hb1 hgl hgk
    have hLlen : L.length ≤ 1000 := by rw [← hL]; have := greedyP_len C 0 [] []; omega
    have hasc : L.Pairwise (· < ·) := by rw [← hL]; exact pl_asc gC
    refine q_forR1 (n := 2) (ea_cons ev_c ea_nil) ⟨by decide, by decide⟩
      (fun i σ H' => ∃ v7 v9 v10 v11 : Option V, σ = [some (.ref a), some (.ref p), some (.ref nl), some (.ref c), some (.ref hh), some (.ref lp), some (.int (L.length : Int)), v7, none, v9, v10, v11, none, none, none, none] ∧ Ex H7 H')
      (fun H8 e8 => ⟨none, none, none, none, rfl, e8⟩) ?_ ?_
    · rintro i σ H' hi ⟨v7, v9, v10, v11, rfl, e8⟩
      have k8 := k7.ex e8
      refine use_seq (use_asg (ec_copy (c := c) (C := C) (by omega) rfl k8.course (fun _ _ => rfl) (fun _ _ => rfl) (fun _ _ => rfl) rfl H' (Ex.refl _) _ fun hdl H9 _ e9 hcopy => ?_))
      have k9 := k8.ex e9
      dsimp only
      refine use_seq (use_asg ?_)
      refine ⟨_, rfl, hdl, C, rfl, hcopy, gC.rowsOk, fun _ t pl ql H10 ht hpl hql npq e10 h1 h2 h3 => ?_, fun m hm => by rw [gC.ok] at hm; cases hm⟩
      rw [hL] at h1 h2 h3
      have k10 := k9.ex e10
      have hcopy10 := hcopy.ext (ExtN.ex e10)
      have hpl7 : H7 pl = none := fresh_back (e8.trans e9) hpl
      dsimp only
      -- the first test
      refine q_when (b := false) (et_is (et_or (et_not (et_B (ev_call (vs := [.ref hdl, .ref c]) (ea_cons (ev_var (i := 9) rfl) (ea_cons (ev_var (i := 3) rfl) ea_nil)) (sp_same (deep_course C) (rep_course hcopy10 gC) (rep_course k10.course gC) rfl))))
        fun _ => et_or (et_not (et_B (ev_isi (a := "tuple") (b := "tuple") (c := true) (ev_var (i := 10) rfl) (ty_tup h1) (by decide +kernel))))
        fun _ => et_or (et_test (ev_op (ev_lenT (ev_var (i := 10) rfl) (st_of h1)) ev_c (rv_ne rfl)))
        fun _ => et_not (et_B (ev_call (vs := [.int (L.length : Int), .int (L.length : Int)]) (ea_cons (ev_ixT (i := 0) (ev_var (i := 10) rfl) ev_c h1 rfl) (ea_cons (ev_var (i := 6) rfl) ea_nil)) (sp_same (d := .int (L.length : Int)) (show 1 ≤ 4 by decide) rfl rfl rfl)))) (by rw [dec_int]; rfl)) (fun z => by cases z) (fun _ H11 e11 => ?_)
      have k11 := k10.ex e11
      have h1' := e11 _ _ h1
      have h2' := e11 _ _ h2
      have h3' := e11 _ _ h3
      have tl1 : ∀ {σ : L2.St} {G : Hp}, Ex H11 G → σ[10]? = some (some (.ref t)) → Ev (tOp (rIxT K) (tVar 10) (tC (V.int 1))) σ G (.ref pl) := fun {σ G} e hσ => ev_ixT (i := 1) (ev_var hσ) ev_c (e _ _ h1') rfl
      have tl2 : ∀ {σ : L2.St} {G : Hp}, Ex H11 G → σ[10]? = some (some (.ref t)) → Ev (tOp (rIxT K) (tVar 10) (tC (V.int 2))) σ G (.ref ql) := fun {σ G} e hσ => ev_ixT (i := 2) (ev_var hσ) ev_c (e _ _ h1') rfl
      have lenC : ∀ {σ : L2.St} {G : Hp}, Ex H11 G → σ[3]? = some (some (.ref c)) → Ev (tCB (rLenS K) (tCons (tVar 3) tNil)) σ G (.int (C.length : Int)) := fun {σ G} e hσ => by
        have z := ev_len (K := K) (σ := σ) (H := G) (ta := tVar 3) (ev_var hσ) (sq_of (e _ _ k11.crs))
        rw [k11.len] at z
        exact z
      have ris : ∀ {G : Hp} {q : Addr}, G q = some (.lst (intsV L)) → SpV spRising ([V.ref q, .int (C.length : Int)] ++ []) G (.bl true) := fun {G q} hq H12 e12 Q qq E => ⟨q, L, C.length, rfl, e12 _ _ hq, hLlen, hgl, hasc, qq⟩
      -- the second test
      refine q_when (b := false) (et_is (et_or (et_not (et_B (ev_call (vs := [.ref pl, .int (C.length : Int)]) (ea_cons (tl1 (Ex.refl _) rfl) (ea_cons (lenC (Ex.refl _) rfl) ea_nil)) (ris h2'))))
        fun _ => et_or (et_not (et_B (ev_call (vs := [.ref ql, .int (C.length : Int)]) (ea_cons (tl2 (Ex.refl _) rfl) (ea_cons (lenC (Ex.refl _) rfl) ea_nil)) (ris h3'))))
        fun _ => et_or (et_test (ev_op (ev_len (tl1 (Ex.refl _) rfl) (sq_of h2')) (ev_var (i := 6) rfl) (rv_ne rfl)))
        fun _ => et_test (ev_op (ev_len (tl2 (Ex.refl _) rfl) (sq_of h3')) (ev_var (i := 6) rfl) (rv_ne rfl))) (by rw [ints_len, dec_int]; simp)) (fun z => by cases z) (fun _ H12 e12 => ?_)
      have k12 := k11.ex e12
      have h2'' := e12 _ _ h2'
      -- the third test
      refine q_when (b := false) (et_is (et_not (et_B (ev_call (z := .bl true) (vs := [.ref c, .ref hh, .ref pl]) (ea_cons (ev_var (i := 3) rfl) (ea_cons (ev_var (i := 4) rfl) (ea_cons (tl1 e12 rfl) ea_nil))) fun H13 e13 Q qq E => ?_))) rfl) (fun z => by cases z) (fun _ H13 e13 => ?_)
      · have z := (k12.ex e13)
        refine ⟨c, hh, pl, C, aheadGo [] C, L, rfl, z.course, gC.rowsOk, z.nums, ahead_len C [], e13 _ _ h2'', ahead_ok gC, ?_⟩
        rw [hgk]
        exact qq
      have k13 := k12.ex e13
      -- no sync serves two
      refine q_forR1 (n := (C.length : Int)) (ea_cons (lenC (e12.trans e13) rfl) ea_nil) ⟨by omega, by omega⟩
        (fun j σ H' => ∃ v11 : Option V, σ = [some (.ref a), some (.ref p), some (.ref nl), some (.ref c), some (.ref hh), some (.ref lp), some (.int (L.length : Int)), some (.int (i : Int)), none, some (.ref hdl), some (.ref t), v11, none, none, none, none] ∧ Ex H13 H')
        (fun H14 e14 => ⟨_, rfl, e14⟩) ?_ ?_
      · rintro j σ H14 hj ⟨v11, rfl, e14⟩
        have k14 := k13.ex e14
        have eT := (e12.trans e13).trans e14
        have hjC : j < C.length := by omega
        have el := el_lcL (K := K) (σ := [some (.ref a), some (.ref p), some (.ref nl), some (.ref c), some (.ref hh), some (.ref lp), some (.int (L.length : Int)), some (.int (i : Int)), none, some (.ref hdl), some (.ref t), some (.int (j : Int)), none, none, none, none]) (H := H14) (xs := intsV L) (tl := tOp (rIxT K) (tVar 10) (tC (V.int 2)))
          (t := tB (tCall spServes [] E0 (tCons (tVar 3) (tCons (tVar 4) (tCons (tVar 11) (tCons (tVar 14) tNil)))))) (te := tVar 14) (j := 14) (vs := [14])
          (fun n => servesB C (aheadGo [] C) j (L.getD n 0)) (fun n => V.int ((L.getD n 0 : Nat) : Int)) (tl2 eT rfl) (sq_of (eT _ _ h3')) (by rw [ints_len]; omega) (fun _ => rfl) (fun n x H15 e15 hx => ?_) (fun n x H15 e15 hx _ => ?_)
        · refine s_when (b := false) (et_is (et_test (ev_op (ev_lenN el) ev_c rv_I0)) ?_) (fun z => by cases z) (fun _ H15 e15 => ⟨_, rfl, e14.trans e15⟩)
          rw [given_len L (fun n => servesB C (aheadGo [] C) j n)]
          have z := pl_serves gC (row := j) hjC
          rw [hL] at z
          exact decide_eq_false (by omega)
        · obtain ⟨m, hm, em, rfl⟩ := ints_get hx
          rw [em]
          refine et_B (ev_call (vs := [.ref c, .ref hh, .int (j : Int), .int (m : Int)]) (ea_cons (ev_var (i := 3) rfl) (ea_cons (ev_var (i := 4) rfl) (ea_cons (ev_var (i := 11) rfl) (ea_cons (ev_var (i := 14) rfl) ea_nil)))) fun H16 e16 Q qq E => ?_)
          have z := (k14.ex e15).ex e16
          exact ⟨c, hh, C, aheadGo [] C, j, m, rfl, z.course, gC.rowsOk, z.nums, by rw [ahead_len]; exact hjC, hgl m (List.mem_of_getElem? hm), qq⟩
        · obtain ⟨m, hm, em, rfl⟩ := ints_get hx
          rw [em]
          exact ev_var rfl
      rintro σ H14 ⟨v11, rfl, e14⟩
      have k14 := k13.ex e14
      have eT := (e12.trans e13).trans e14
      have el := el_lcL (K := K) (σ := [some (.ref a), some (.ref p), some (.ref nl), some (.ref c), some (.ref hh), some (.ref lp), some (.int (L.length : Int)), some (.int (i : Int)), none, some (.ref hdl), some (.ref t), v11, none, none, none, none]) (H := H14) (xs := intsV L) (tl := tOp (rIxT K) (tVar 10) (tC (V.int 2)))
        (t := tYes) (te := (tOrV (tOp rNe (tOp (rIxT K) (tOp (rIxL K) (tVar 3) (tVar 14)) (tC (V.int 0))) (tC (V.str "tell"))) (tOp rEqN (tCall spBare [] E0 (tCons (tOp (rIxT K) (tOp (rIxL K) (tVar 3) (tVar 14)) (tC (V.int 1))) tNil)) tDNewK))) (j := 14) (vs := [14])
        (fun n => true) (fun n => V.bl false) (tl2 eT rfl) (sq_of (eT _ _ h3')) (by rw [ints_len]; omega) (fun _ => rfl) (fun n x H15 e15 hx => et_yes) (fun n x H15 e15 hx _ => ?_)
      · have ebs : given (intsV L).length (fun _ => true) (fun _ => V.bl false) = ((List.range (intsV L).length).map fun _ => false).map V.bl := by
          unfold given
          rw [List.filter_eq_self.mpr (fun _ _ => rfl), List.map_map]
          rfl
        rw [ebs] at el
        refine q_when (b := false) (et_is (et_B (ev_any el)) ?_) (fun z => by cases z) (fun _ H15 e15 => ?_)
        · rw [List.any_map]
          simp
        refine s_app (l := pl) (xs := intsV L) (v := .int 0) (K := K) ((eT.trans e15) _ _ h2') (tl1 (eT.trans e15) rfl) ev_c (by rw [ints_len]; omega) fun H16 e16 => ?_
        exact ⟨_, _, _, _, rfl, Ex.mut ((((((e8.trans e9).trans e10).trans e11).trans eT).trans e15).trans e16) hpl7⟩
      · obtain ⟨m, hm, em, rfl⟩ := ints_get hx
        have hmL := List.mem_of_getElem? hm
        obtain ⟨r, hr, hrt, hrb⟩ := pl_tell gC (n := m) (by rw [hL]; exact hmL)
        have k15 := k14.ex e15
        obtain ⟨tm, htm, d, hd1, hd2⟩ := paired_at k15.rows hr
        have it : Ev (tOp (rIxL K) (tVar 3) (tVar 14)) _ H15 (.ref tm) := ev_ixL (i := (m : Int)) (σ := [some (.ref a), some (.ref p), some (.ref nl), some (.ref c), some (.ref hh), some (.ref lp), some (.int (L.length : Int)), some (.int (i : Int)), none, some (.ref hdl), some (.ref t), v11, none, none, some (.int (m : Int)), none]) (ev_var rfl) (ev_var rfl) (sq_of k15.crs) (atI_nat (by rw [List.getElem?_map, htm]; rfl))
        have z := ev_orV (a := false) (b := false) (tb := tOp rEqN (tCall spBare [] E0 (tCons (tOp (rIxT K) (tOp (rIxL K) (tVar 3) (tVar 14)) (tC (V.int 1))) tNil)) tDNewK) (ev_is (ev_op (ev_ixT (K := K) (i := 0) it ev_c hd1 rfl) ev_c (rv_ne (y := .str "tell") rfl)) (by rw [dec_str, hrt]; rfl))
          fun _ => ev_is (ev_eqN (m := []) (ed_lbare (ev_ixT (i := 1) it ev_c hd1 rfl) (.inl hd2) (gC.rows r (List.mem_of_getElem? hr)).ok) ed_new) (by rw [eqN_nil gC hrb])
        exact z
    rintro σ H8 ⟨v7, v9, v10, v11, rfl, e8⟩
    have k8 := k7.ex e8
    -- the rules
    refine q_forR1 (n := 5) (ea_cons ev_c ea_nil) ⟨by decide, by decide⟩
      (fun i σ H' => ∃ v8 : Option V, σ = [some (.ref a), some (.ref p), some (.ref nl), some (.ref c), some (.ref hh), some (.ref lp), some (.int (L.length : Int)), v7, v8, v9, v10, v11, none, none, none, none] ∧ Kept K N a ns c ts C hh H')
      (fun H9 e9 => ⟨none, rfl, k8.ex e9⟩) ?_ ?_
    · rintro i σ H9 hi ⟨v8, rfl, k9⟩
      have hi5 : i < 5 := by omega
      refine use_ifS (use_not (use_B (use_call (use_cons (use_call (use_cons ?_))))))
      refine ec_copy (c := c) (C := C) (by omega) rfl k9.course (fun _ _ => rfl) (fun _ _ => rfl) (fun _ _ => rfl) rfl H9 (Ex.refl _) _ fun q H10 _ e10 hq => ?_
      have k10 := k9.ex e10
      refine ⟨_, rfl, i, rfl, k10.tab, fun rl H11 e11 n11 t11 hrl => ?_⟩
      have k11 := k10.ext e11 t11
      refine ⟨q, rl, C, i, rfl, hq.ext e11, gC.rowsOk, hrl, hi5, fun _ => ⟨gC.nonNeg, fun t H12 e12 hres => ?_⟩, fun m hm => by rw [gC.ok] at hm; cases hm⟩
      have k12 := k11.ex e12
      rw [hL, pl_go gC] at hres
      refine ⟨_, rfl, _, rfl, _, rfl, c, C, i, L.length, rfl, k12.course, gC.rowsOk, hi5, k12.tab, fun t2 H13 e13 t13 hres2 => ?_⟩
      have k13 := k12.ext e13 t13
      have ok := go_good underB i C 0 mem0 [] [] 0 gC.rows gd_nil gd_nil
      refine ⟨.ref t, .ref t2, dtOf L.length (goR underB i 0 mem0 [] [] 0 C), rfl, deep_of _ _, rep_res (res_ext e13 hres) ok, rep_res hres2 ok, fun H14 e14 => ⟨true, rfl, ?_⟩⟩
      exact iteF ⟨_, rfl, k13.ex e14⟩
    rintro σ H9 ⟨v8, rfl, k9⟩
    -- the first wrong row; the empty course
    refine ⟨_, rfl, a, ns, 1, rfl, k9.scr, hn, fun p2 H10 hp2 e10 s10 => ?_⟩
    have k10 := k9.ex e10
    refine ⟨_, rfl, p2, c, C, rfl, s10, k10.course, gC, k10.tab, fun H11 => ⟨true, rfl, iteT ?_⟩⟩
    refine ⟨Nat.zero_le _, fun l hl => ⟨l, [], rfl, ⟨[], upd_same, .nil⟩, ⟨fun r hr => (by cases hr), by decide⟩, fun _ t q1 q2 H12 _ _ _ _ e12 h1 h2 h3 => ?_, fun m hm => (by cases hm)⟩⟩
    refine ⟨Nat.zero_le _, fun l1 hl1 => ⟨Nat.zero_le _, fun l2 hl2 => ⟨by show 3 ≤ sizeLine; decide, fun tt htt => ?_⟩⟩⟩
    have g1 : Ex H12 (upd H12 l1 (.lst [])) := Ex.new hl1
    have g2 : Ex (upd H12 l1 (.lst [])) (upd (upd H12 l1 (.lst [])) l2 (.lst [])) := Ex.new hl2
    have g3 : Ex (upd (upd H12 l1 (.lst [])) l2 (.lst [])) (upd (upd (upd H12 l1 (.lst [])) l2 (.lst [])) tt (.tup [.int 0, .ref l1, .ref l2])) := Ex.new htt
    have g := (g1.trans g2).trans g3
    refine ⟨.ref t, .ref tt, .tup [.int 0, .lst [], .lst []], rfl, by decide, ?_, ?_, fun H13 _ => k1 H13⟩
    · exact ⟨t, _, rfl, g _ _ h1, by decide, _, _, rfl, rfl, _, _, rfl, ⟨q1, [], rfl, g _ _ h2, by decide, rfl⟩, _, _, rfl, ⟨q2, [], rfl, g _ _ h3, by decide, rfl⟩, rfl⟩
    · exact ⟨tt, _, rfl, upd_same, by decide, _, _, rfl, rfl, _, _, rfl, ⟨l1, [], rfl, g3 _ _ (g2 _ _ upd_same), by decide, rfl⟩, _, _, rfl, ⟨l2, [], rfl, g3 _ _ upd_same, by decide, rfl⟩, rfl⟩
end
end K82
end
section
set_option maxRecDepth 100000
set_option maxHeartbeats 4000000
/-! all promises, from what the top has written. -/
namespace K82
open PySem PySem.Spec PyProof.Rows L2 L2H HotX Evl NdefX LamX
theorem funC_mk {K : PySem.W.Frag} {x qual : Str} {st : Stmt} {f c : Addr} {oc : Value} {od an : Option Addr} {osl : Array (Option Value)} {kV doc pm ct : Value} (l : K.lookup f = some ⟨oc, od, .func (PySem.W.fnOf x qual (defArgs st) (defBody st) (defScope st) .none kV doc pm an (.ref c) ct), osl⟩)
    (hc : PySem.W.codeIn K (.ref c) qual = true) (k : PySem.W.keepIn K (.ref f) = true) : FunC K x qual st f (PySem.W.fnOf x qual (defArgs st) (defBody st) (defScope st) .none kV doc pm an (.ref c) ct) c := ⟨⟨oc, od, kV, doc, pm, an, ct, osl, rfl, l, hc⟩, k⟩
theorem tabN_nil {H : Hp} {P : Addr} {nm : Nat → Nat → Str} (h : H P = some (.tbl #[])) : TabN H P nm := ⟨#[], h, True.intro, fun pos cv hc => by
  have z : codeAmong pos [] = some cv := hc
  simp [codeAmong] at z⟩
theorem all_mk {l : PySem.W.OpenLaw} {w : World} {K : PySem.W.Frag} {h : Heap} {mg : Str → Option Value} {fa C CK fI cc cv cM cR cZ PM PR PZ : Addr} {f0 f1 f2 f3 f4 f5 f6 f7 f8 f9 f10 f11 f12 f13 f14 f15 f16 f17 f18 f19 f20 f21 f22 f23 f24 : Addr}
    {od0 an0 od1 an1 od2 an2 od3 an3 od4 an4 od5 an5 od6 an6 od7 an7 od8 an8 od9 an9 od10 an10 od11 an11 od12 an12 od13 an13 od14 an14 od15 an15 od16 an16 od17 an17 od18 an18 od19 an19 od20 an20 od21 an21 od22 an22 od23 an23 od24 an24 odI anI : Option Addr} {sl0 sl1 sl2 sl3 sl4 sl5 sl6 sl7 sl8 sl9 sl10 sl11 sl12 sl13 sl14 sl15 sl16 sl17 sl18 sl19 sl20 sl21 sl22 sl23 sl24 slI : Array (Option Value)} {oc0 kV0 dc0 pm0 ct0 cd0 oc1 kV1 dc1 pm1 ct1 cd1 oc2 kV2 dc2 pm2 ct2 cd2 oc3 kV3 dc3 pm3 ct3 cd3 oc4 kV4 dc4 pm4 ct4 cd4 oc5 kV5 dc5 pm5 ct5 cd5 oc6 kV6 dc6 pm6 ct6 cd6 oc7 kV7 dc7 pm7 ct7 cd7 oc8 kV8 dc8 pm8 ct8 cd8 oc9 kV9 dc9 pm9 ct9 cd9 oc10 kV10 dc10 pm10 ct10 cd10 oc11 kV11 dc11 pm11 ct11 cd11 oc12 kV12 dc12 pm12 ct12 cd12 oc13 kV13 dc13 pm13 ct13 cd13 oc14 kV14 dc14 pm14 ct14 cd14 oc15 kV15 dc15 pm15 ct15 oc16 kV16 dc16 pm16 ct16 cd16 oc17 kV17 dc17 pm17 ct17 cd17 oc18 kV18 dc18 pm18 ct18 cd18 oc19 kV19 dc19 pm19 ct19 cd19 oc20 kV20 dc20 pm20 ct20 oc21 kV21 dc21 pm21 ct21 cd21 oc22 kV22 dc22 pm22 ct22 cd22 oc23 kV23 dc23 pm23 ct23 oc24 kV24 dc24 pm24 ct24 cd24 ocI kVI dcI pmI ctI : Value}
    {nm q : Str} {NC : Addr} {bs bm : List Value} {sn : List Str} {sub : List Value} {ab : Bool} {col : Option Bool} {dd : Option Addr} {y0 y1 y2 y3 y5 : Option Value} {ocC ocV : Value} {odC odV : Option Addr} {slC slV : Array (Option Value)} {vsV : Array Value} {file : Str} {tf : Tok}
    (X : K.In h) (G : h.Ns mainGlobals mg) (hfa : mg "law" = some (.ref fa)) (hTab : ∀ P ∈ [PZ, PR, PM], h.get? P = some (PySem.W.tabObj #[]))
    (a0 : PySem.W.nsIn K mainGlobals "raise_to" = some (some (.ref f0)))
    (l0 : K.lookup f0 = some ⟨oc0, od0, .func (PySem.W.fnOf "raise_to" "raise_to" (defArgs sRaiseTo) (defBody sRaiseTo) (defScope sRaiseTo) .none kV0 dc0 pm0 an0 cd0 ct0), sl0⟩)
    (c0 : PySem.W.codeIn K cd0 "raise_to" = true)
    (k0 : PySem.W.keepIn K (.ref f0) = true)
    (a1 : PySem.W.nsIn K mainGlobals "bare" = some (some (.ref f1)))
    (l1 : K.lookup f1 = some ⟨oc1, od1, .func (PySem.W.fnOf "bare" "bare" (defArgs sBare) (defBody sBare) (defScope sBare) .none kV1 dc1 pm1 an1 cd1 ct1), sl1⟩)
    (c1 : PySem.W.codeIn K cd1 "bare" = true)
    (k1 : PySem.W.keepIn K (.ref f1) = true)
    (a2 : PySem.W.nsIn K mainGlobals "is_under" = some (some (.ref f2)))
    (l2 : K.lookup f2 = some ⟨oc2, od2, .func (PySem.W.fnOf "is_under" "is_under" (defArgs sUnder) (defBody sUnder) (defScope sUnder) .none kV2 dc2 pm2 an2 cd2 ct2), sl2⟩)
    (c2 : PySem.W.codeIn K cd2 "is_under" = true)
    (k2 : PySem.W.keepIn K (.ref f2) = true)
    (a3 : PySem.W.nsIn K mainGlobals "join_states" = some (some (.ref f3)))
    (l3 : K.lookup f3 = some ⟨oc3, od3, .func (PySem.W.fnOf "join_states" "join_states" (defArgs sJoin) (defBody sJoin) (defScope sJoin) .none kV3 dc3 pm3 an3 cd3 ct3), sl3⟩)
    (c3 : PySem.W.codeIn K cd3 "join_states" = true)
    (k3 : PySem.W.keepIn K (.ref f3) = true)
    (a4 : PySem.W.nsIn K mainGlobals "check_row" = some (some (.ref f4)))
    (l4 : K.lookup f4 = some ⟨oc4, od4, .func (PySem.W.fnOf "check_row" "check_row" (defArgs sRow) (defBody sRow) (defScope sRow) .none kV4 dc4 pm4 an4 cd4 ct4), sl4⟩)
    (c4 : PySem.W.codeIn K cd4 "check_row" = true)
    (k4 : PySem.W.keepIn K (.ref f4) = true)
    (a5 : PySem.W.nsIn K mainGlobals "check_course" = some (some (.ref f5)))
    (l5 : K.lookup f5 = some ⟨oc5, od5, .func (PySem.W.fnOf "check_course" "check_course" (defArgs sCourse) (defBody sCourse) (defScope sCourse) .none kV5 dc5 pm5 an5 cd5 ct5), sl5⟩)
    (c5 : PySem.W.codeIn K cd5 "check_course" = true)
    (k5 : PySem.W.keepIn K (.ref f5) = true)
    (a6 : PySem.W.nsIn K mainGlobals "fewest_syncs" = some (some (.ref f6)))
    (l6 : K.lookup f6 = some ⟨oc6, od6, .func (PySem.W.fnOf "fewest_syncs" "fewest_syncs" (defArgs sFewest) (defBody sFewest) (defScope sFewest) .none kV6 dc6 pm6 an6 cd6 ct6), sl6⟩)
    (c6 : PySem.W.codeIn K cd6 "fewest_syncs" = true)
    (k6 : PySem.W.keepIn K (.ref f6) = true)
    (a7 : PySem.W.nsIn K mainGlobals "sync_foe" = some (some (.ref f7)))
    (l7 : K.lookup f7 = some ⟨oc7, od7, .func (PySem.W.fnOf "sync_foe" "sync_foe" (defArgs sFoe) (defBody sFoe) (defScope sFoe) .none kV7 dc7 pm7 an7 cd7 ct7), sl7⟩)
    (c7 : PySem.W.codeIn K cd7 "sync_foe" = true)
    (k7 : PySem.W.keepIn K (.ref f7) = true)
    (a8 : PySem.W.nsIn K mainGlobals "_law_source" = some (some (.ref f8)))
    (l8 : K.lookup f8 = some ⟨oc8, od8, .func (PySem.W.fnOf "_law_source" "_law_source" (defArgs sSource) (defBody sSource) (defScope sSource) .none kV8 dc8 pm8 an8 cd8 ct8), sl8⟩)
    (c8 : PySem.W.codeIn K cd8 "_law_source" = true)
    (k8 : PySem.W.keepIn K (.ref f8) = true)
    (a9 : PySem.W.nsIn K mainGlobals "_law_pick" = some (some (.ref f9)))
    (l9 : K.lookup f9 = some ⟨oc9, od9, .func (PySem.W.fnOf "_law_pick" "_law_pick" (defArgs sPick) (defBody sPick) (defScope sPick) .none kV9 dc9 pm9 an9 cd9 ct9), sl9⟩)
    (c9 : PySem.W.codeIn K cd9 "_law_pick" = true)
    (k9 : PySem.W.keepIn K (.ref f9) = true)
    (a10 : PySem.W.nsIn K mainGlobals "_law_same" = some (some (.ref f10)))
    (l10 : K.lookup f10 = some ⟨oc10, od10, .func (PySem.W.fnOf "_law_same" "_law_same" (defArgs sSame) (defBody sSame) (defScope sSame) .none kV10 dc10 pm10 an10 cd10 ct10), sl10⟩)
    (c10 : PySem.W.codeIn K cd10 "_law_same" = true)
    (k10 : PySem.W.keepIn K (.ref f10) = true)
    (a11 : PySem.W.nsIn K mainGlobals "_law_fault" = some (some (.ref f11)))
    (l11 : K.lookup f11 = some ⟨oc11, od11, .func (PySem.W.fnOf "_law_fault" "_law_fault" (defArgs sFault) (defBody sFault) (defScope sFault) .none kV11 dc11 pm11 an11 cd11 ct11), sl11⟩)
    (c11 : PySem.W.codeIn K cd11 "_law_fault" = true)
    (k11 : PySem.W.keepIn K (.ref f11) = true)
    (a12 : PySem.W.nsIn K mainGlobals "_law_is_under" = some (some (.ref f12)))
    (l12 : K.lookup f12 = some ⟨oc12, od12, .func (PySem.W.fnOf "_law_is_under" "_law_is_under" (defArgs sLUnder) (defBody sLUnder) (defScope sLUnder) .none kV12 dc12 pm12 an12 cd12 ct12), sl12⟩)
    (c12 : PySem.W.codeIn K cd12 "_law_is_under" = true)
    (k12 : PySem.W.keepIn K (.ref f12) = true)
    (a13 : PySem.W.nsIn K mainGlobals "_law_bare" = some (some (.ref f13)))
    (l13 : K.lookup f13 = some ⟨oc13, od13, .func (PySem.W.fnOf "_law_bare" "_law_bare" (defArgs sLBare) (defBody sLBare) (defScope sLBare) .none kV13 dc13 pm13 an13 cd13 ct13), sl13⟩)
    (c13 : PySem.W.codeIn K cd13 "_law_bare" = true)
    (k13 : PySem.W.keepIn K (.ref f13) = true)
    (a14 : PySem.W.nsIn K mainGlobals "_law_fails" = some (some (.ref f14)))
    (l14 : K.lookup f14 = some ⟨oc14, od14, .func (PySem.W.fnOf "_law_fails" "_law_fails" (defArgs sFails) (defBody sFails) (defScope sFails) .none kV14 dc14 pm14 an14 cd14 ct14), sl14⟩)
    (c14 : PySem.W.codeIn K cd14 "_law_fails" = true)
    (k14 : PySem.W.keepIn K (.ref f14) = true)
    (a15 : PySem.W.nsIn K mainGlobals "_law_masks" = some (some (.ref f15)))
    (l15 : K.lookup f15 = some ⟨oc15, od15, .func (PySem.W.fnOf "_law_masks" "_law_masks" (defArgs sMasks) (defBody sMasks) (defScope sMasks) .none kV15 dc15 pm15 an15 (.ref cM) ct15), sl15⟩)
    (c15 : PySem.W.codeIn K (.ref cM) "_law_masks" = true)
    (k15 : PySem.W.keepIn K (.ref f15) = true)
    (a16 : PySem.W.nsIn K mainGlobals "_law_heard_ahead" = some (some (.ref f16)))
    (l16 : K.lookup f16 = some ⟨oc16, od16, .func (PySem.W.fnOf "_law_heard_ahead" "_law_heard_ahead" (defArgs sAhead) (defBody sAhead) (defScope sAhead) .none kV16 dc16 pm16 an16 cd16 ct16), sl16⟩)
    (c16 : PySem.W.codeIn K cd16 "_law_heard_ahead" = true)
    (k16 : PySem.W.keepIn K (.ref f16) = true)
    (a17 : PySem.W.nsIn K mainGlobals "_law_keeps" = some (some (.ref f17)))
    (l17 : K.lookup f17 = some ⟨oc17, od17, .func (PySem.W.fnOf "_law_keeps" "_law_keeps" (defArgs sKeeps) (defBody sKeeps) (defScope sKeeps) .none kV17 dc17 pm17 an17 cd17 ct17), sl17⟩)
    (c17 : PySem.W.codeIn K cd17 "_law_keeps" = true)
    (k17 : PySem.W.keepIn K (.ref f17) = true)
    (a18 : PySem.W.nsIn K mainGlobals "_law_serves" = some (some (.ref f18)))
    (l18 : K.lookup f18 = some ⟨oc18, od18, .func (PySem.W.fnOf "_law_serves" "_law_serves" (defArgs sServes) (defBody sServes) (defScope sServes) .none kV18 dc18 pm18 an18 cd18 ct18), sl18⟩)
    (c18 : PySem.W.codeIn K cd18 "_law_serves" = true)
    (k18 : PySem.W.keepIn K (.ref f18) = true)
    (a19 : PySem.W.nsIn K mainGlobals "_law_rising" = some (some (.ref f19)))
    (l19 : K.lookup f19 = some ⟨oc19, od19, .func (PySem.W.fnOf "_law_rising" "_law_rising" (defArgs sRising) (defBody sRising) (defScope sRising) .none kV19 dc19 pm19 an19 cd19 ct19), sl19⟩)
    (c19 : PySem.W.codeIn K cd19 "_law_rising" = true)
    (k19 : PySem.W.keepIn K (.ref f19) = true)
    (a20 : PySem.W.nsIn K mainGlobals "_law_rule" = some (some (.ref f20)))
    (l20 : K.lookup f20 = some ⟨oc20, od20, .func (PySem.W.fnOf "_law_rule" "_law_rule" (defArgs sRule) (defBody sRule) (defScope sRule) .none kV20 dc20 pm20 an20 (.ref cR) ct20), sl20⟩)
    (c20 : PySem.W.codeIn K (.ref cR) "_law_rule" = true)
    (k20 : PySem.W.keepIn K (.ref f20) = true)
    (a21 : PySem.W.nsIn K mainGlobals "_law_play" = some (some (.ref f21)))
    (l21 : K.lookup f21 = some ⟨oc21, od21, .func (PySem.W.fnOf "_law_play" "_law_play" (defArgs sPlay) (defBody sPlay) (defScope sPlay) .none kV21 dc21 pm21 an21 cd21 ct21), sl21⟩)
    (c21 : PySem.W.codeIn K cd21 "_law_play" = true)
    (k21 : PySem.W.keepIn K (.ref f21) = true)
    (a22 : PySem.W.nsIn K mainGlobals "_law_course" = some (some (.ref f22)))
    (l22 : K.lookup f22 = some ⟨oc22, od22, .func (PySem.W.fnOf "_law_course" "_law_course" (defArgs sLCourse) (defBody sLCourse) (defScope sLCourse) .none kV22 dc22 pm22 an22 cd22 ct22), sl22⟩)
    (c22 : PySem.W.codeIn K cd22 "_law_course" = true)
    (k22 : PySem.W.keepIn K (.ref f22) = true)
    (a23 : PySem.W.nsIn K mainGlobals "_law_refused" = some (some (.ref f23)))
    (l23 : K.lookup f23 = some ⟨oc23, od23, .func (PySem.W.fnOf "_law_refused" "_law_refused" (defArgs sRefused) (defBody sRefused) (defScope sRefused) .none kV23 dc23 pm23 an23 (.ref cZ) ct23), sl23⟩)
    (c23 : PySem.W.codeIn K (.ref cZ) "_law_refused" = true)
    (k23 : PySem.W.keepIn K (.ref f23) = true)
    (a24 : PySem.W.nsIn K mainGlobals "law" = some (some (.ref f24)))
    (l24 : K.lookup f24 = some ⟨oc24, od24, .func (PySem.W.fnOf "law" "law" (defArgs sLaw) (defBody sLaw) (defScope sLaw) .none kV24 dc24 pm24 an24 cd24 ct24), sl24⟩)
    (c24 : PySem.W.codeIn K cd24 "law" = true)
    (k24 : PySem.W.keepIn K (.ref f24) = true)
    (z_len : PySem.W.nsIn K mainGlobals "len" = some none)
    (z_range : PySem.W.nsIn K mainGlobals "range" = some none)
    (z_dict : PySem.W.nsIn K mainGlobals "dict" = some none)
    (z_list : PySem.W.nsIn K mainGlobals "list" = some none)
    (z_isinstance : PySem.W.nsIn K mainGlobals "isinstance" = some none)
    (z_tuple : PySem.W.nsIn K mainGlobals "tuple" = some none)
    (z_any : PySem.W.nsIn K mainGlobals "any" = some none)
    (z_all : PySem.W.nsIn K mainGlobals "all" = some none)
    (z_sorted : PySem.W.nsIn K mainGlobals "sorted" = some none)
    (z_int : PySem.W.nsIn K mainGlobals "int" = some none)
    (z_bool : PySem.W.nsIn K mainGlobals "bool" = some none)
    (z_str : PySem.W.nsIn K mainGlobals "str" = some none)
    (z_sum : PySem.W.nsIn K mainGlobals "sum" = some none)
    (z_abs : PySem.W.nsIn K mainGlobals "abs" = some none)
    (z_enumerate : PySem.W.nsIn K mainGlobals "enumerate" = some none)
    (z_super : PySem.W.nsIn K mainGlobals "super" = some none)
    (z_ValueError : PySem.W.nsIn K mainGlobals "ValueError" = some none)
    (aC : PySem.W.nsIn K mainGlobals "BadHost" = some (some (.ref C)))
    (aK : PySem.W.nsIn K mainGlobals "KnewError" = some (some (.ref CK)))
    (xL : K.lookup C = some (excClassObj nm q C NC bs bm true sn sub ab col dd y0 y1 y2 y3 y5 "ValueError.__new__"))
    (xV : PySem.HandSPX.refsVE bm = true)
    (sa : PySem.W.findIn K (.ref C) "__setattr__" = some (some (.builtin "object.__setattr__")))
    (eC : PySem.W.subIn K (.ref C) (.type "BaseException") = some true)
    (tC : PySem.W.typeIn K (.ref C) = some (.type "type"))
    (kC : PySem.W.keepIn K (.ref C) = true)
    (noW : PySem.W.findIn K (.ref C) "what" = some none)
    (iC : PySem.W.findIn K (.ref C) "__init__" = some (some (.ref fI)))
    (tI : PySem.W.typeIn K (.ref fI) = some (.type "function"))
    (lI : K.lookup fI = some ⟨ocI, odI, .func (PySem.W.fnX "__init__" "BadHost.__init__" hArgs hBody hScope [("__class__", cc)] .none kVI dcI pmI anI (.ref cv) ctI), slI⟩)
    (cI : PySem.W.codeIn K (.ref cv) "BadHost.__init__" = true)
    (lc : K.lookup cc = some ⟨ocC, odC, .cell (some (.ref C)), slC⟩)
    (lv : K.lookup cv = some ⟨ocV, odV, .fields vsV, slV⟩)
    (fv : vsV[2]? = some (.str file tf))
    (ff : ((l.prog.main.file : Str) == file) = true)
    (tp : (l.prog.main.scope.names.lookup ("super" : Str)).isSome = false)
    (su : PySem.W.ks_superIn K C C "__init__" = some (some (.builtin "ValueError.__init__")))
    (sV : PySem.W.subIn K (.ref C) (.type "ValueError") = some true)
    (sC : PySem.W.subIn K (.ref C) (.ref C) = some true)
    (sK : PySem.W.subIn K (.ref C) (.ref CK) = some true)
    (st : PySem.W.nsIn K PySem.cStatics "thirdparty.any" = some none)
    (ga : PySem.W.findIn K (.ref C) "__getattribute__" = some (some (.builtin "BaseException.__getattribute__")))
    (gg : PySem.W.findIn K (.ref C) "__getattr__" = some none)
    (hD : PySem.W.hasDictIn K C = true)
    (hK : PySem.W.hasDictIn K CK = true)
    (eK : PySem.W.subIn K (.ref CK) (.type "BaseException") = some true)
    (tK : PySem.W.typeIn K (.ref CK) = some (.type "type"))
    (ha : PySem.W.findIn K (.ref C) "__class__" = some (some (.builtin "object.__class__")))
    (hn : PySem.W.specialIn K (.builtin "object.__class__") "__get__" = some (some (.builtin "getset_descriptor.__get__")))
    (ht : PySem.W.takesIn K (.builtin "object.__class__") = some true)
    (hm : PySem.W.mroIn K C (.type "object") = some true)
    (i1 : PySem.W.kitOne K (.ref C) (.ref C) = some true)
    (i2 : PySem.W.kitOne K (.ref C) (.ref CK) = some true)
    (i3 : PySem.W.kitOne K (.ref C) (.type "ValueError") = some true)
    (dcM : PySem.W.codeHdIn K cM PM = true)
    (dcR : PySem.W.codeHdIn K cR PR = true)
    (dcZ : PySem.W.codeHdIn K cZ PZ = true)
    (nPM : K.lookup PM = none)
    (nPR : K.lookup PR = none)
    (nPZ : K.lookup PZ = none)
    (ne1 : decide (PM ≠ PR) = true)
    (ne2 : decide (PM ≠ PZ) = true)
    (ne3 : decide (PR ≠ PZ) = true)
    : LawAtS l w K CX0 10 63 "script" mg fa h := by
  have e := hfa.symm.trans (PySem.W.mg_of X G a24)
  cases e
  have ne1 : PM ≠ PR := of_decide_eq_true ne1
  have ne2 : PM ≠ PZ := of_decide_eq_true ne2
  have ne3 : PR ≠ PZ := of_decide_eq_true ne3
  have z_len := PySem.W.mg_none_of X G z_len
  have z_range := PySem.W.mg_none_of X G z_range
  have z_dict := PySem.W.mg_none_of X G z_dict
  have z_list := PySem.W.mg_none_of X G z_list
  have z_isinstance := PySem.W.mg_none_of X G z_isinstance
  have z_tuple := PySem.W.mg_none_of X G z_tuple
  have z_any := PySem.W.mg_none_of X G z_any
  have z_all := PySem.W.mg_none_of X G z_all
  have z_sorted := PySem.W.mg_none_of X G z_sorted
  have z_int := PySem.W.mg_none_of X G z_int
  have z_bool := PySem.W.mg_none_of X G z_bool
  have z_str := PySem.W.mg_none_of X G z_str
  have z_sum := PySem.W.mg_none_of X G z_sum
  have z_abs := PySem.W.mg_none_of X G z_abs
  have z_enumerate := PySem.W.mg_none_of X G z_enumerate
  have z_super := PySem.W.mg_none_of X G z_super
  have z_ValueError := PySem.W.mg_none_of X G z_ValueError
  have mC := PySem.W.mg_of X G aC
  have mK := PySem.W.mg_of X G aK
  have m0 := PySem.W.mg_of X G a0
  have F0 := fun_mk (st := sRaiseTo) l0 c0 k0
  have b0 := F0.binds (ps := ["numbers", "more"]) fun _ _ _ _ _ _ us hl => match us, hl with | [_, _], _ => rfl
  have m1 := PySem.W.mg_of X G a1
  have F1 := fun_mk (st := sBare) l1 c1 k1
  have b1 := F1.binds (ps := ["numbers"]) fun _ _ _ _ _ _ us hl => match us, hl with | [_], _ => rfl
  have m2 := PySem.W.mg_of X G a2
  have F2 := fun_mk (st := sUnder) l2 c2 k2
  have b2 := F2.binds (ps := ["one", "other"]) fun _ _ _ _ _ _ us hl => match us, hl with | [_, _], _ => rfl
  have m3 := PySem.W.mg_of X G a3
  have F3 := fun_mk (st := sJoin) l3 c3 k3
  have b3 := F3.binds (ps := ["one", "other"]) fun _ _ _ _ _ _ us hl => match us, hl with | [_, _], _ => rfl
  have m4 := PySem.W.mg_of X G a4
  have F4 := fun_mk (st := sRow) l4 c4 k4
  have b4 := F4.binds (ps := ["row", "heard"]) fun _ _ _ _ _ _ us hl => match us, hl with | [_, _], _ => rfl
  have m5 := PySem.W.mg_of X G a5
  have F5 := fun_mk (st := sCourse) l5 c5 k5
  have b5 := F5.binds (ps := ["course"]) fun _ _ _ _ _ _ us hl => match us, hl with | [_], _ => rfl
  have m6 := PySem.W.mg_of X G a6
  have F6 := fun_mk (st := sFewest) l6 c6 k6
  have b6 := F6.binds (ps := ["course"]) fun _ _ _ _ _ _ us hl => match us, hl with | [_], _ => rfl
  have m7 := PySem.W.mg_of X G a7
  have F7 := fun_mk (st := sFoe) l7 c7 k7
  have b7 := F7.binds (ps := ["course", "rule"]) fun _ _ _ _ _ _ us hl => match us, hl with | [_, _], _ => rfl
  have m8 := PySem.W.mg_of X G a8
  have F8 := fun_mk (st := sSource) l8 c8 k8
  have b8 := F8.binds (ps := ["script", "at"]) fun _ _ _ _ _ _ us hl => match us, hl with | [_, _], _ => rfl
  have m9 := PySem.W.mg_of X G a9
  have F9 := fun_mk (st := sPick) l9 c9 k9
  have b9 := F9.binds (ps := ["source", "many"]) fun _ _ _ _ _ _ us hl => match us, hl with | [_, _], _ => rfl
  have m10 := PySem.W.mg_of X G a10
  have F10 := fun_mk (st := sSame) l10 c10 k10
  have b10 := F10.binds (ps := ["answer", "due"]) fun _ _ _ _ _ _ us hl => match us, hl with | [_, _], _ => rfl
  have m11 := PySem.W.mg_of X G a11
  have F11 := fun_mk (st := sFault) l11 c11 k11
  have b11 := F11.binds (ps := ["error"]) fun _ _ _ _ _ _ us hl => match us, hl with | [_], _ => rfl
  have m12 := PySem.W.mg_of X G a12
  have F12 := fun_mk (st := sLUnder) l12 c12 k12
  have b12 := F12.binds (ps := ["one", "other"]) fun _ _ _ _ _ _ us hl => match us, hl with | [_, _], _ => rfl
  have m13 := PySem.W.mg_of X G a13
  have F13 := fun_mk (st := sLBare) l13 c13 k13
  have b13 := F13.binds (ps := ["numbers"]) fun _ _ _ _ _ _ us hl => match us, hl with | [_], _ => rfl
  have m14 := PySem.W.mg_of X G a14
  have F14 := fun_mk (st := sFails) l14 c14 k14
  have b14 := F14.binds (ps := ["call"]) fun _ _ _ _ _ _ us hl => match us, hl with | [_], _ => rfl
  have m15 := PySem.W.mg_of X G a15
  have FC15 := funC_mk (st := sMasks) l15 c15 k15
  have F15 := FC15.fn
  have b15 := F15.binds (ps := ["names"]) fun _ _ _ _ _ _ us hl => match us, hl with | [_], _ => rfl
  have m16 := PySem.W.mg_of X G a16
  have F16 := fun_mk (st := sAhead) l16 c16 k16
  have b16 := F16.binds (ps := ["course"]) fun _ _ _ _ _ _ us hl => match us, hl with | [_], _ => rfl
  have m17 := PySem.W.mg_of X G a17
  have F17 := fun_mk (st := sKeeps) l17 c17 k17
  have b17 := F17.binds (ps := ["course", "heard", "places"]) fun _ _ _ _ _ _ us hl => match us, hl with | [_, _, _], _ => rfl
  have m18 := PySem.W.mg_of X G a18
  have F18 := fun_mk (st := sServes) l18 c18 k18
  have b18 := F18.binds (ps := ["course", "heard", "row", "at"]) fun _ _ _ _ _ _ us hl => match us, hl with | [_, _, _, _], _ => rfl
  have m19 := PySem.W.mg_of X G a19
  have F19 := fun_mk (st := sRising) l19 c19 k19
  have b19 := F19.binds (ps := ["value", "most"]) fun _ _ _ _ _ _ us hl => match us, hl with | [_, _], _ => rfl
  have m20 := PySem.W.mg_of X G a20
  have FC20 := funC_mk (st := sRule) l20 c20 k20
  have F20 := FC20.fn
  have b20 := F20.binds (ps := ["kind"]) fun _ _ _ _ _ _ us hl => match us, hl with | [_], _ => rfl
  have m21 := PySem.W.mg_of X G a21
  have F21 := fun_mk (st := sPlay) l21 c21 k21
  have b21 := F21.binds (ps := ["course", "kind", "fewest"]) fun _ _ _ _ _ _ us hl => match us, hl with | [_, _, _], _ => rfl
  have m22 := PySem.W.mg_of X G a22
  have F22 := fun_mk (st := sLCourse) l22 c22 k22
  have b22 := F22.binds (ps := ["source", "names"]) fun _ _ _ _ _ _ us hl => match us, hl with | [_, _], _ => rfl
  have m23 := PySem.W.mg_of X G a23
  have FC23 := funC_mk (st := sRefused) l23 c23 k23
  have F23 := FC23.fn
  have b23 := F23.binds (ps := ["source", "course"]) fun _ _ _ _ _ _ us hl => match us, hl with | [_, _], _ => rfl
  have m24 := PySem.W.mg_of X G a24
  have F24 := fun_mk (st := sLaw) l24 c24 k24
  have b24 := F24.binds (ps := ["script"]) fun _ _ _ _ _ _ us hl => match us, hl with | [_], _ => rfl
  have TU : TxtU mg := { all := z_all }
  have TB : TxtB mg := { srt := z_sorted, dct := z_dict }
  have TJ : TxtJ K mg f0 f1 := { dct := z_dict, mR := m0, kR := k0, mB := m1, kB := k1 }
  have TR : TxtR K mg f2 := { isi := z_isinstance, tup := z_tuple, len := z_len, dct := z_dict, mU := m2, kU := k2 }
  have TC : TxtC K mg f4 f3 := { mR := m4, kR := k4, mJ := m3, kJ := k3 }
  have TF : TxtF K mg f5 f3 f2 := { len := z_len, range := z_range, dct := z_dict, lst := z_list, mC := m5, kC := k5, mJ := m3, kJ := k3, mU := m2, kU := k2 }
  have TE : TxtE K mg f6 f2 := { enumerate := z_enumerate, dct := z_dict, srt := z_sorted, mF := m6, kF := k6, mU := m2, kU := k2 }
  have TH : TxtH K mg f12 f13 := { mU := m12, kU := k12, mB := m13, kB := k13 }
  have TK : TxtK K mg f12 f13 := { mU := m12, kU := k12, mB := m13, kB := k13, len := z_len, range := z_range }
  have TP : TxtP K mg f20 := { len := z_len, range := z_range, mR := m20, kR := k20 }
  have TA : TxtA K mg f13 := { mB := m13, kB := k13 }
  have TG : TxtG mg := { len := z_len, range := z_range, isi := z_isinstance, lst := z_list, int := z_int, bol := z_bool, all := z_all }
  have TD : TxtD K mg f10 := { len := z_len, range := z_range, isi := z_isinstance, lst := z_list, int := z_int, bol := z_bool, all := z_all, str := z_str, dct := z_dict, tup := z_tuple, mS := m10, kS := k10 }
  have TS : TxtS mg := { len := z_len, int := z_int, sum := z_sum, abs := z_abs }
  have TM : TxtM K mg f9 f13 := { range := z_range, dct := z_dict, mP := m9, kP := k9, mB := m13, kB := k13 }
  have TMs : TxtMs mg := { srt := z_sorted, len := z_len }
  have TL : TxtL mg := { len := z_len, dct := z_dict, lst := z_list, range := z_range, isi := z_isinstance, tup := z_tuple, any := z_any }
  have TZ : TxtZ K mg f9 f16 f6 f7 f20 f14 := { len := z_len, dct := z_dict, srt := z_sorted, mP := m9, kP := k9, mA := m16, kA := k16, mW := m6, kW := k6, mS := m7, kS := k7, mR := m20, kR := k20, mX := m14 }
  have TX : HostTxt l.prog K mg C fI cc cv := ⟨⟨⟨nm, q, NC, bs, bm, sn, sub, ab, col, dd, y0, y1, y2, y3, y5, xL, xV⟩, sa, eC, tC, kC⟩, noW, iC, tI, ⟨_, _, _, _, _, _, _, _, lI⟩, cI, ⟨_, lc, rfl⟩, ⟨_, vsV, file, tf, lv, rfl, fv, ff⟩, tp, su, sV, sC, st, z_super, mC⟩
  have TFl : FailsTxt K mg C CK f11 := { x := ⟨ga, gg, eC, hD, ha, hn, ht, hm⟩, f := ⟨ga, gg, eC, hD⟩, noW := noW, k1 := i1, k2 := i2, k3 := i3, mC := mC, mK := mK, mV := z_ValueError, isi := z_isinstance, len := z_len, mF := m11, exm := PySem.W.exm_ref eK hK tK sK }
  let N : List NTab := [(PM, nmMasks), (PR, nmRule), (PZ, nmRefused)]
  have uM : ∀ p ∈ N, p.1 = PM → p.2 = nmMasks := fun p hp e => by
    rcases List.mem_cons.mp hp with z | z
    · rw [z]
    · rcases List.mem_cons.mp z with z | z
      · rw [z] at e; exact absurd e.symm ne1
      · rw [List.mem_singleton.mp z] at e; exact absurd e.symm ne2
  have uR : ∀ p ∈ N, p.1 = PR → p.2 = nmRule := fun p hp e => by
    rcases List.mem_cons.mp hp with z | z
    · rw [z] at e; exact absurd e ne1
    · rcases List.mem_cons.mp z with z | z
      · rw [z]
      · rw [List.mem_singleton.mp z] at e; exact absurd e.symm ne3
  have uZ : ∀ p ∈ N, p.1 = PZ → p.2 = nmRefused := fun p hp e => by
    rcases List.mem_cons.mp hp with z | z
    · rw [z] at e; exact absurd e ne2
    · rcases List.mem_cons.mp z with z | z
      · rw [z] at e; exact absurd e ne3
      · rw [List.mem_singleton.mp z]
  refine ⟨PySem.W.fnOf "law" "law" (defArgs sLaw) (defBody sLaw) (defScope sLaw) .none kV24 dc24 pm24 an24 cd24 ct24, [(cM, PM), (cR, PR), (cZ, PZ)], spLaw K N, fun p hp => ?_, fun p hp => ?_, fun p hp => ?_, fun s u => .of_eq rfl, fun H a ns hl _ hT hS => ⟨a, ns, rfl, hS, Nat.le_trans hl (by decide), fun p hp => ?_, fun _ => rfl⟩, fun base KB GB hTB => ?_⟩
  · rcases List.mem_cons.mp hp with z | z
    · rw [z]; exact hTab PM (List.mem_cons_of_mem _ (List.mem_cons_of_mem _ List.mem_cons_self))
    · rcases List.mem_cons.mp z with z | z
      · rw [z]; exact hTab PR (List.mem_cons_of_mem _ List.mem_cons_self)
      · rw [List.mem_singleton.mp z]; exact hTab PZ List.mem_cons_self
  · rcases List.mem_cons.mp hp with z | z
    · rw [z]; exact nPM
    · rcases List.mem_cons.mp z with z | z
      · rw [z]; exact nPR
      · rw [List.mem_singleton.mp z]; exact nPZ
  · rcases List.mem_cons.mp hp with z | z
    · rw [z]; exact PySem.W.codeHd_of_K X dcM
    · rcases List.mem_cons.mp z with z | z
      · rw [z]; exact PySem.W.codeHd_of_K X dcR
      · rw [List.mem_singleton.mp z]; exact PySem.W.codeHd_of_K X dcZ
  · rcases List.mem_cons.mp hp with z | z
    · rw [z]; exact tabN_nil (hT (cM, PM) List.mem_cons_self)
    · rcases List.mem_cons.mp z with z | z
      · rw [z]; exact tabN_nil (hT (cR, PR) (List.mem_cons_of_mem _ List.mem_cons_self))
      · rw [List.mem_singleton.mp z]; exact tabN_nil (hT (cZ, PZ) (List.mem_cons_of_mem _ (List.mem_cons_of_mem _ List.mem_cons_self)))
  · have tM : TabB base mg cM PM := hTB (cM, PM) List.mem_cons_self
    have tR : TabB base mg cR PR := hTB (cR, PR) (List.mem_cons_of_mem _ List.mem_cons_self)
    have tZ : TabB base mg cZ PZ := hTB (cZ, PZ) (List.mem_cons_of_mem _ (List.mem_cons_of_mem _ List.mem_cons_self))
    have hM : (PM, nmMasks) ∈ N := List.mem_cons_self
    have hR : (PR, nmRule) ∈ N := List.mem_cons_of_mem _ List.mem_cons_self
    have hZ : (PZ, nmRefused) ∈ N := List.mem_cons_of_mem _ (List.mem_cons_of_mem _ List.mem_cons_self)
    have G0 := ok_raise (P := l.prog) (w := w) (mg := mg) (base := base) F0
    have G1 := ok_bare (P := l.prog) (w := w) (mg := mg) (base := base) F1 TB
    have G2 := ok_under (P := l.prog) (w := w) (mg := mg) (base := base) F2 TU
    have G3 := ok_join F3 TJ G0 b0 G1 b1
    have G4 := ok_row F4 TR (host_rule TX) G2 b2
    have G5 := ok_course F5 TC G4 b4 G3 b3
    have G6 := ok_fewest F6 TF G5 b5 G3 b3 G2 b2
    have G12 := ok_lunder (P := l.prog) (w := w) (mg := mg) (base := base) F12 TU
    have G13 := ok_lbare (P := l.prog) (w := w) (mg := mg) (base := base) F13 TB
    have G7 := ok_foe F7 TE G6 b6 G2 b2 TH G12 b12 G13 b13
    have G8 := ok_source (P := l.prog) (w := w) (mg := mg) (base := base) F8 TS
    have G9 := ok_pick (P := l.prog) (w := w) (mg := mg) (base := base) F9 TS
    have G10 := ok_same (P := l.prog) (w := w) (mg := mg) (base := base) F10 TD b10 4
    have G15 := ok_masks (P := l.prog) (w := w) FC15 TMs tM hM uM
    have G16 := ok_ahead F16 TA G13 b13
    have G17 := ok_keeps F17 TK G12 b12 G13 b13
    have G18 := ok_serves F18 TH G12 b12 G13 b13
    have G19 := ok_rising (P := l.prog) (w := w) (mg := mg) (base := base) F19 TG
    have G20 := ok_rule (P := l.prog) (w := w) FC20 tR hR uR
    have G21 := ok_play F21 TP G20 b20 TH G12 b12 G13 b13
    have G22 := ok_made F22 TM G9 b9 G13 b13
    have G23 := ok_refused FC23 TZ TFl tZ hZ uZ G9 b9 G16 b16 G6 b6 G7 b7 G20 b20 F14 b14 F11 b11
    exact ok_law F24 TL G8 ⟨m8, k8, b8⟩ G9 ⟨m9, k9, b9⟩ G22 ⟨m22, k22, b22⟩ G16 ⟨m16, k16, b16⟩ G15 ⟨m15, k15, b15⟩ G17 ⟨m17, k17, b17⟩ G6 ⟨m6, k6, b6⟩ G10 ⟨m10, k10, b10⟩ G19 ⟨m19, k19, b19⟩ G18 ⟨m18, k18, b18⟩ G13 ⟨m13, k13, b13⟩ G7 ⟨m7, k7, b7⟩ G20 ⟨m20, k20, b20⟩ G21 ⟨m21, k21, b21⟩ G23 ⟨m23, k23, b23⟩
end K82
end
open PySem PySem.W PyProof.Rows in
set_option maxRecDepth 100000 in
set_option maxHeartbeats 0 in
theorem PySem.Challenge.cw_knewbetter_k82_fewest_syncs_and_their_fo_holds : PySem.Challenge.rw_knewbetter_k82_fewest_syncs_and_their_fo.Holds := by
  w_on; o_law; k_head; (case hw => w_witness2)
  k_fill
  refine LamX.walk_ofTs (l := PySem.Challenge.rw_knewbetter_k82_fewest_syncs_and_their_fo) (n := 63) (k := 10) (x := "script") (CX := fun _ => L2.CX0) rfl (by decide) rfl ⟨rfl, by decide, by decide⟩ (fun w h Y => PySem.W.km_in_of Y) ?F (fun _ _ _ _ _ z => z)
  case F =>
    intro w mg fa h Y KX G hmg
    refine' K82.all_mk KX G hmg (PySem.W.km_tabs_of Y) ?a0 ?l0 ?c0 ?k0 ?a1 ?l1 ?c1 ?k1 ?a2 ?l2 ?c2 ?k2 ?a3 ?l3 ?c3 ?k3 ?a4 ?l4 ?c4 ?k4 ?a5 ?l5 ?c5 ?k5 ?a6 ?l6 ?c6 ?k6 ?a7 ?l7 ?c7 ?k7 ?a8 ?l8 ?c8 ?k8 ?a9 ?l9 ?c9 ?k9 ?a10 ?l10 ?c10 ?k10 ?a11 ?l11 ?c11 ?k11 ?a12 ?l12 ?c12 ?k12 ?a13 ?l13 ?c13 ?k13 ?a14 ?l14 ?c14 ?k14 ?a15 ?l15 ?c15 ?k15 ?a16 ?l16 ?c16 ?k16 ?a17 ?l17 ?c17 ?k17 ?a18 ?l18 ?c18 ?k18 ?a19 ?l19 ?c19 ?k19 ?a20 ?l20 ?c20 ?k20 ?a21 ?l21 ?c21 ?k21 ?a22 ?l22 ?c22 ?k22 ?a23 ?l23 ?c23 ?k23 ?a24 ?l24 ?c24 ?k24 ?z_len ?z_range ?z_dict ?z_list ?z_isinstance ?z_tuple ?z_any ?z_all ?z_sorted ?z_int ?z_bool ?z_str ?z_sum ?z_abs ?z_enumerate ?z_super ?z_ValueError ?aC ?aK ?xL ?xV ?sa ?eC ?tC ?kC ?noW ?iC ?tI ?lI ?cI ?lc ?lv ?fv ?ff ?tp ?su ?sV ?sC ?sK ?st ?ga ?gg ?hD ?hK ?eK ?tK ?ha ?hn ?ht ?hm ?i1 ?i2 ?i3 ?dcM ?dcR ?dcZ ?nPM ?nPR ?nPZ ?ne1 ?ne2 ?ne3
    (case a0 => first | k_is | kernel_rfl)
    (case l0 => first | k_is | kernel_rfl)
    (case c0 => first | k_is | kernel_rfl)
    (case k0 => first | k_is | kernel_rfl)
    (case a1 => first | k_is | kernel_rfl)
    (case l1 => first | k_is | kernel_rfl)
    (case c1 => first | k_is | kernel_rfl)
    (case k1 => first | k_is | kernel_rfl)
    (case a2 => first | k_is | kernel_rfl)
    (case l2 => first | k_is | kernel_rfl)
    (case c2 => first | k_is | kernel_rfl)
    (case k2 => first | k_is | kernel_rfl)
    (case a3 => first | k_is | kernel_rfl)
    (case l3 => first | k_is | kernel_rfl)
    (case c3 => first | k_is | kernel_rfl)
    (case k3 => first | k_is | kernel_rfl)
    (case a4 => first | k_is | kernel_rfl)
    (case l4 => first | k_is | kernel_rfl)
    (case c4 => first | k_is | kernel_rfl)
    (case k4 => first | k_is | kernel_rfl)
    (case a5 => first | k_is | kernel_rfl)
    (case l5 => first | k_is | kernel_rfl)
    (case c5 => first | k_is | kernel_rfl)
    (case k5 => first | k_is | kernel_rfl)
    (case a6 => first | k_is | kernel_rfl)
    (case l6 => first | k_is | kernel_rfl)
    (case c6 => first | k_is | kernel_rfl)
    (case k6 => first | k_is | kernel_rfl)
    (case a7 => first | k_is | kernel_rfl)
    (case l7 => first | k_is | kernel_rfl)
    (case c7 => first | k_is | kernel_rfl)
    (case k7 => first | k_is | kernel_rfl)
    (case a8 => first | k_is | kernel_rfl)
    (case l8 => first | k_is | kernel_rfl)
    (case c8 => first | k_is | kernel_rfl)
    (case k8 => first | k_is | kernel_rfl)
    (case a9 => first | k_is | kernel_rfl)
    (case l9 => first | k_is | kernel_rfl)
    (case c9 => first | k_is | kernel_rfl)
    (case k9 => first | k_is | kernel_rfl)
    (case a10 => first | k_is | kernel_rfl)
    (case l10 => first | k_is | kernel_rfl)
    (case c10 => first | k_is | kernel_rfl)
    (case k10 => first | k_is | kernel_rfl)
    (case a11 => first | k_is | kernel_rfl)
    (case l11 => first | k_is | kernel_rfl)
    (case c11 => first | k_is | kernel_rfl)
    (case k11 => first | k_is | kernel_rfl)
    (case a12 => first | k_is | kernel_rfl)
    (case l12 => first | k_is | kernel_rfl)
    (case c12 => first | k_is | kernel_rfl)
    (case k12 => first | k_is | kernel_rfl)
    (case a13 => first | k_is | kernel_rfl)
    (case l13 => first | k_is | kernel_rfl)
    (case c13 => first | k_is | kernel_rfl)
    (case k13 => first | k_is | kernel_rfl)
    (case a14 => first | k_is | kernel_rfl)
    (case l14 => first | k_is | kernel_rfl)
    (case c14 => first | k_is | kernel_rfl)
    (case k14 => first | k_is | kernel_rfl)
    (case a15 => first | k_is | kernel_rfl)
    (case l15 => first | k_is | kernel_rfl)
    (case c15 => first | k_is | kernel_rfl)
    (case k15 => first | k_is | kernel_rfl)
    (case a16 => first | k_is | kernel_rfl)
    (case l16 => first | k_is | kernel_rfl)
    (case c16 => first | k_is | kernel_rfl)
    (case k16 => first | k_is | kernel_rfl)
    (case a17 => first | k_is | kernel_rfl)
    (case l17 => first | k_is | kernel_rfl)
    (case c17 => first | k_is | kernel_rfl)
    (case k17 => first | k_is | kernel_rfl)
    (case a18 => first | k_is | kernel_rfl)
    (case l18 => first | k_is | kernel_rfl)
    (case c18 => first | k_is | kernel_rfl)
    (case k18 => first | k_is | kernel_rfl)
    (case a19 => first | k_is | kernel_rfl)
    (case l19 => first | k_is | kernel_rfl)
    (case c19 => first | k_is | kernel_rfl)
    (case k19 => first | k_is | kernel_rfl)
    (case a20 => first | k_is | kernel_rfl)
    (case l20 => first | k_is | kernel_rfl)
    (case c20 => first | k_is | kernel_rfl)
    (case k20 => first | k_is | kernel_rfl)
    (case a21 => first | k_is | kernel_rfl)
    (case l21 => first | k_is | kernel_rfl)
    (case c21 => first | k_is | kernel_rfl)
    (case k21 => first | k_is | kernel_rfl)
    (case a22 => first | k_is | kernel_rfl)
    (case l22 => first | k_is | kernel_rfl)
    (case c22 => first | k_is | kernel_rfl)
    (case k22 => first | k_is | kernel_rfl)
    (case a23 => first | k_is | kernel_rfl)
    (case l23 => first | k_is | kernel_rfl)
    (case c23 => first | k_is | kernel_rfl)
    (case k23 => first | k_is | kernel_rfl)
    (case a24 => first | k_is | kernel_rfl)
    (case l24 => first | k_is | kernel_rfl)
    (case c24 => first | k_is | kernel_rfl)
    (case k24 => first | k_is | kernel_rfl)
    (case z_len => first | k_is | kernel_rfl)
    (case z_range => first | k_is | kernel_rfl)
    (case z_dict => first | k_is | kernel_rfl)
    (case z_list => first | k_is | kernel_rfl)
    (case z_isinstance => first | k_is | kernel_rfl)
    (case z_tuple => first | k_is | kernel_rfl)
    (case z_any => first | k_is | kernel_rfl)
    (case z_all => first | k_is | kernel_rfl)
    (case z_sorted => first | k_is | kernel_rfl)
    (case z_int => first | k_is | kernel_rfl)
    (case z_bool => first | k_is | kernel_rfl)
    (case z_str => first | k_is | kernel_rfl)
    (case z_sum => first | k_is | kernel_rfl)
    (case z_abs => first | k_is | kernel_rfl)
    (case z_enumerate => first | k_is | kernel_rfl)
    (case z_super => first | k_is | kernel_rfl)
    (case z_ValueError => first | k_is | kernel_rfl)
    (case aC => first | k_is | kernel_rfl)
    (case aK => first | k_is | kernel_rfl)
    (case xL => first | k_is | kernel_rfl)
    (case xV => first | kernel_rfl | k_is | kernel_rfl | rfl)
    (case sa => first | k_is | kernel_rfl)
    (case eC => first | k_is | kernel_rfl)
    (case tC => first | k_is | kernel_rfl)
    (case kC => first | k_is | kernel_rfl)
    (case noW => first | k_is | kernel_rfl)
    (case iC => first | k_is | kernel_rfl)
    (case tI => first | k_is | kernel_rfl)
    (case lI => first | k_is | kernel_rfl)
    (case cI => first | k_is | kernel_rfl)
    (case lc => first | k_is | kernel_rfl)
    (case lv => first | k_is | kernel_rfl)
    (case fv => first | rfl | k_is | kernel_rfl | rfl)
    (case ff => first | kernel_rfl | k_is | kernel_rfl | rfl)
    (case tp => first | kernel_rfl | k_is | kernel_rfl | rfl)
    (case su => first | kernel_rfl | k_is | kernel_rfl | rfl)
    (case sV => first | k_is | kernel_rfl)
    (case sC => first | k_is | kernel_rfl)
    (case sK => first | k_is | kernel_rfl)
    (case st => first | k_is | kernel_rfl)
    (case ga => first | k_is | kernel_rfl)
    (case gg => first | k_is | kernel_rfl)
    (case hD => first | k_is | kernel_rfl)
    (case hK => first | k_is | kernel_rfl)
    (case eK => first | k_is | kernel_rfl)
    (case tK => first | k_is | kernel_rfl)
    (case ha => first | k_is | kernel_rfl)
    (case hn => first | k_is | kernel_rfl)
    (case ht => first | k_is | kernel_rfl)
    (case hm => first | k_is | kernel_rfl)
    (case i1 => first | kernel_rfl | k_is | kernel_rfl | rfl)
    (case i2 => first | kernel_rfl | k_is | kernel_rfl | rfl)
    (case i3 => first | kernel_rfl | k_is | kernel_rfl | rfl)
    (case dcM => first | kernel_rfl | k_is | kernel_rfl | rfl)
    (case dcR => first | kernel_rfl | k_is | kernel_rfl | rfl)
    (case dcZ => first | kernel_rfl | k_is | kernel_rfl | rfl)
    (case nPM => first | kernel_rfl | k_is | kernel_rfl | rfl)
    (case nPR => first | kernel_rfl | k_is | kernel_rfl | rfl)
    (case nPZ => first | kernel_rfl | k_is | kernel_rfl | rfl)
    (case ne1 => first | rfl | k_is | kernel_rfl | rfl)
    (case ne2 => first | rfl | k_is | kernel_rfl | rfl)
    (case ne3 => first | rfl | k_is | kernel_rfl | rfl)
