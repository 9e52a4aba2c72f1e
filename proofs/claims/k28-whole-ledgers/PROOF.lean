import PyProof.Rows.All
import Wide.All
import OpenK.AllK
import Wide.FinOn
import KE.KStateDown
import KE.SortData
import KE.LtData
import HandS.ForMost
import HandS.More
import HandS.Codes
import HandS.Property
import HandS.Defaults
import HandS.Deep
import HandS.DeepEq
import HandS.DictComp
import HandS.DictTup
import HandS.SetKeys
import HandS.Conv
import HandS.Flow
import HandS.Style
import HandS.IsInst
import HandS.IterNext
import HandS.IterVal
import HandS.OwnIter
import HandS.Exc
import HandS.Replace
import HandS.HeadHook1
import HandS.HeadHook2
import PyProof.DictMoreH
import KE.KDictPairs
import HandS.WrittenGet
import HandS.Text
import KE.DataMinMax
import HandS.TupLen
import KE.KOwnIter
import PyProof.Rows.StrMeet
import PyProof.Rows.TmSorted
import HandS.Head0
import HandS.Head1
import HandS.Head2
import HandS.HeadEnd
import HandS.HeadHook3
import PySem.Challenge.RW_lettersonce_k28_whole_ledgers_of_a_room
set_option linter.all false
set_option Elab.async false
set_option maxHeartbeats 4000000
namespace Lo
open PySem (Str)

inductive Bdy where
  | found (ms : List Str) | say | seen | add (n : Str) | cut (n : Str) | hand (n : Str)
  deriving DecidableEq
structure Ltr where
  au : Str
  num : Nat
  stamp : Nat
  seen : List (Str × Nat)
  body : Bdy
  deriving DecidableEq

def lk (ps : List (Str × Nat)) (x : Str) : Option Nat := (ps.find? fun p => decide (p.1 = x)).map (·.2)
theorem lk_nil (x : Str) : lk [] x = none := rfl
theorem lk_cons (p : Str × Nat) (r : List (Str × Nat)) (x : Str) : lk (p :: r) x = if p.1 = x then some p.2 else lk r x := by
  unfold lk
  rw [List.find?_cons]
  by_cases h : p.1 = x <;> simp [h]
theorem lk_snoc (ps : List (Str × Nat)) (y : Str) (m : Nat) (x : Str) : lk (ps ++ [(y, m)]) x = match lk ps x with | some k => some k | none => if y = x then some m else none := by
  induction ps with
  | nil => simp [lk_cons, lk_nil]
  | cons p r ih =>
    rw [List.cons_append, lk_cons, lk_cons, ih]
    by_cases h : p.1 = x <;> simp [h]
theorem lk_mem {ps : List (Str × Nat)} {x : Str} {m : Nat} (h : lk ps x = some m) : (x, m) ∈ ps := by
  induction ps with
  | nil => cases h
  | cons p r ih =>
    rw [lk_cons] at h
    by_cases e : p.1 = x
    · rw [if_pos e] at h
      cases h
      subst e
      exact List.mem_cons_self
    · rw [if_neg e] at h
      exact List.mem_cons_of_mem _ (ih h)
theorem lk_none {ps : List (Str × Nat)} {x : Str} : lk ps x = none ↔ x ∉ ps.map (·.1) := by
  induction ps with
  | nil => simp [lk_nil]
  | cons p r ih =>
    rw [lk_cons]
    by_cases e : p.1 = x
    · simp [e]
    · rw [if_neg e, ih]
      simp [Ne.symm e]

def Ltr.count (l : Ltr) (x : Str) : Nat := (lk l.seen x).getD 0
def Ltr.sees (a l : Ltr) : Bool := decide (l.num ≤ a.count l.au)
def Ltr.act (l : Ltr) : Bool := match l.body with
  | .add _ => true
  | .cut _ => true
  | .hand _ => true
  | _ => false

structure Roll where
  names : List Str
  lims : List (Str × Nat)
  keeper : Str
  deriving DecidableEq
def Roll.lim (R : Roll) (x : Str) : Option Nat := lk R.lims x
def Roll.mem (R : Roll) (x : Str) : Bool := decide (x ∈ R.names) && (R.lim x).isNone
def addN (ns : List Str) (n : Str) : List Str := if n ∈ ns then ns else ns ++ [n]
def stepR (R : Roll) (l : Ltr) : Roll × Bool := match l.body with
  | .add n => ({ R with names := addN R.names n }, false)
  | .cut n => if R.mem n = true ∧ n ≠ R.keeper then ({ R with lims := R.lims ++ [(n, l.count n)] }, false) else (R, false)
  | .hand n => if R.mem n = true ∧ n ≠ R.keeper then ({ R with keeper := n }, true) else (R, false)
  | _ => (R, false)
def act1 (R : Roll) (l : Ltr) : Roll := (stepR R l).1
def Ltr.mems (f : Ltr) : List Str := match f.body with
  | .found ms => ms
  | _ => []
def R0 (f : Ltr) : Roll := ⟨f.mems.foldl addN [f.au], [], f.au⟩
def rollS (f : Ltr) (o : List Ltr) : Roll := o.foldl act1 (R0 f)
def rowOf (o : List Ltr) (x : Str) : List Ltr := o.filter fun l => decide (l.au = x)
def heldN (o : List Ltr) (x : Str) : Nat := (rowOf o x).length

theorem rollS_snoc (f : Ltr) (o : List Ltr) (l : Ltr) : rollS f (o ++ [l]) = act1 (rollS f o) l := by
  unfold rollS
  rw [List.foldl_append]
  rfl
theorem act1_no {R : Roll} {l : Ltr} (h : l.act = false) : act1 R l = R := by
  unfold act1 stepR
  unfold Ltr.act at h
  cases e : l.body <;> rw [e] at h <;> first | rfl | cases h
theorem stepR_no {R : Roll} {l : Ltr} (h : l.act = false) : (stepR R l).2 = false := by
  unfold stepR
  unfold Ltr.act at h
  cases e : l.body <;> rw [e] at h <;> first | rfl | cases h
theorem hand_act {R : Roll} {l : Ltr} (h : (stepR R l).2 = true) : l.act = true := by
  cases e : l.act with
  | true => rfl
  | false => rw [stepR_no e] at h; cases h
theorem keep_same {R : Roll} {l : Ltr} (h : (stepR R l).2 = false) : (act1 R l).keeper = R.keeper := by
  unfold act1
  unfold stepR at h ⊢
  cases e : l.body <;> rw [e] at h <;> simp only at h ⊢
  · split <;> rfl
  · split <;> rename_i q
    · rw [if_pos q] at h
      cases h
    · rfl
theorem row_snoc (o : List Ltr) (l : Ltr) (x : Str) : rowOf (o ++ [l]) x = if l.au = x then rowOf o x ++ [l] else rowOf o x := by
  unfold rowOf
  rw [List.filter_append]
  by_cases h : l.au = x <;> simp [h]
theorem held_snoc (o : List Ltr) (l : Ltr) (x : Str) : heldN (o ++ [l]) x = heldN o x + if l.au = x then 1 else 0 := by
  unfold heldN
  rw [row_snoc]
  by_cases h : l.au = x <;> simp [h]
theorem mem_row {o : List Ltr} {x : Str} {l : Ltr} : l ∈ rowOf o x ↔ l ∈ o ∧ l.au = x := by
  unfold rowOf
  rw [List.mem_filter]
  simp
/-! ### rolls -/
structure RollOk (R : Roll) : Prop where
  kn : R.keeper ∈ R.names
  kl : R.lim R.keeper = none
  ln : ∀ x m, R.lim x = some m → x ∈ R.names
theorem mem_addN {ns : List Str} {n x : Str} : x ∈ addN ns n ↔ x ∈ ns ∨ x = n := by
  unfold addN
  split
  · rename_i h
    constructor
    · exact .inl
    · rintro (h1 | rfl)
      · exact h1
      · exact h
  · simp
theorem mem_addNs {ms ns : List Str} {x : Str} : x ∈ ms.foldl addN ns ↔ x ∈ ns ∨ x ∈ ms := by
  induction ms generalizing ns with
  | nil => simp
  | cons m r ih =>
    rw [List.foldl_cons, ih, mem_addN]
    simp [or_assoc]
theorem rollOk0 (f : Ltr) : RollOk (R0 f) := by
  refine ⟨?_, rfl, fun x m h => by cases h⟩
  show f.au ∈ f.mems.foldl addN [f.au]
  rw [mem_addNs]
  simp
theorem mem_iff {R : Roll} {x : Str} : R.mem x = true ↔ x ∈ R.names ∧ R.lim x = none := by
  unfold Roll.mem
  simp
theorem names_act {R : Roll} {l : Ltr} {x : Str} (h : x ∈ R.names) : x ∈ (act1 R l).names := by
  unfold act1 stepR
  cases l.body <;> simp only
  · exact h
  · exact h
  · exact h
  · exact mem_addN.mpr (.inl h)
  · split <;> exact h
  · split <;> exact h
theorem lim_act {R : Roll} {l : Ltr} {x : Str} {m : Nat} (h : R.lim x = some m) : (act1 R l).lim x = some m := by
  unfold act1 stepR
  cases l.body <;> simp only
  · exact h
  · exact h
  · exact h
  · exact h
  · split
    · show lk (R.lims ++ _) x = some m
      rw [lk_snoc]
      have h2 : lk R.lims x = some m := h
      rw [h2]
    · exact h
  · split <;> exact h
theorem lim_act_cut {R : Roll} {l : Ltr} {x : Str} {m : Nat} (h : (act1 R l).lim x = some m) (h0 : R.lim x = none) : l.body = .cut x ∧ m = l.count x ∧ x ≠ R.keeper := by
  unfold act1 stepR at h
  cases e : l.body <;> rw [e] at h <;> simp only at h
  · rw [h0] at h; cases h
  · rw [h0] at h; cases h
  · rw [h0] at h; cases h
  · have h2 : R.lim x = some m := h
    rw [h0] at h2; cases h2
  · rename_i n
    split at h
    · rename_i q
      have h2 : lk (R.lims ++ [(n, l.count n)]) x = some m := h
      rw [lk_snoc] at h2
      have h3 : lk R.lims x = none := h0
      rw [h3] at h2
      simp only at h2
      by_cases en : n = x
      · subst en
        rw [if_pos rfl] at h2
        exact ⟨rfl, (Option.some.inj h2).symm, q.2⟩
      · rw [if_neg en] at h2
        cases h2
    · rw [h0] at h; cases h
  · split at h
    · have h2 : R.lim x = some m := h
      rw [h0] at h2; cases h2
    · rw [h0] at h; cases h
theorem rollOk1 {R : Roll} (K : RollOk R) (l : Ltr) : RollOk (act1 R l) := by
  unfold act1 stepR
  cases l.body <;> simp only
  · exact K
  · exact K
  · exact K
  · exact ⟨mem_addN.mpr (.inl K.kn), K.kl, fun x m h => mem_addN.mpr (.inl (K.ln x m h))⟩
  · rename_i n
    split
    · rename_i q
      refine ⟨K.kn, ?_, fun x m h => ?_⟩
      · show lk (R.lims ++ [(n, l.count n)]) R.keeper = none
        rw [lk_snoc]
        have h2 : lk R.lims R.keeper = none := K.kl
        rw [h2]
        simp only
        rw [if_neg q.2]
      · have h2 : lk (R.lims ++ [(n, l.count n)]) x = some m := h
        rw [lk_snoc] at h2
        cases e : lk R.lims x with
        | some k => exact K.ln x k e
        | none =>
          rw [e] at h2
          simp only at h2
          by_cases en : n = x
          · subst en
            exact (mem_iff.mp q.1).1
          · rw [if_neg en] at h2
            cases h2
    · exact K
  · split
    · rename_i q
      exact ⟨(mem_iff.mp q.1).1, (mem_iff.mp q.1).2, K.ln⟩
    · exact K
theorem foldl_ok (o : List Ltr) : ∀ {R : Roll}, RollOk R → RollOk (o.foldl act1 R) := by
  induction o with
  | nil => exact fun K => K
  | cons l r ih => exact fun K => ih (rollOk1 K l)
theorem rollOk (f : Ltr) (o : List Ltr) : RollOk (rollS f o) := foldl_ok o (rollOk0 f)
theorem foldl_filter (o : List Ltr) : ∀ R : Roll, o.foldl act1 R = (o.filter Ltr.act).foldl act1 R := by
  induction o with
  | nil => exact fun _ => rfl
  | cons l r ih =>
    intro R
    rw [List.foldl_cons, List.filter_cons]
    cases e : l.act with
    | true => rw [if_pos rfl, List.foldl_cons, ih]
    | false => rw [if_neg (by simp), act1_no e, ih]
theorem rollS_filter (f : Ltr) (o : List Ltr) : rollS f o = (o.filter Ltr.act).foldl act1 (R0 f) := foldl_filter o _
theorem foldl_names (o : List Ltr) {x : Str} : ∀ {R : Roll}, x ∈ R.names → x ∈ (o.foldl act1 R).names := by
  induction o with
  | nil => exact fun h => h
  | cons l r ih => exact fun h => ih (names_act h)
theorem foldl_lim (o : List Ltr) {x : Str} {m : Nat} : ∀ {R : Roll}, R.lim x = some m → (o.foldl act1 R).lim x = some m := by
  induction o with
  | nil => exact fun h => h
  | cons l r ih => exact fun h => ih (lim_act h)
theorem names_pre {f : Ltr} {o G : List Ltr} (h : o.filter Ltr.act <+: G.filter Ltr.act) {x : Str} (hx : x ∈ (rollS f o).names) : x ∈ (rollS f G).names := by
  obtain ⟨t, e⟩ := h
  rw [rollS_filter] at hx ⊢
  rw [← e, List.foldl_append]
  exact foldl_names t hx
theorem lim_pre {f : Ltr} {o G : List Ltr} (h : o.filter Ltr.act <+: G.filter Ltr.act) {x : Str} {m : Nat} (hx : (rollS f o).lim x = some m) : (rollS f G).lim x = some m := by
  obtain ⟨t, e⟩ := h
  rw [rollS_filter] at hx ⊢
  rw [← e, List.foldl_append]
  exact foldl_lim t hx
/-! ### the history of all letters, in time -/
structure FoundOk (f : Ltr) : Prop where
  body : ∃ ms, f.body = .found ms
  num : f.num = 1
  own : f.count f.au = 1
  none : ∀ x, x ≠ f.au → f.count x = 0
theorem FoundOk.act {f : Ltr} (h : FoundOk f) : f.act = false := by
  obtain ⟨ms, e⟩ := h.body
  unfold Ltr.act
  rw [e]
structure Stp (f : Ltr) (G : List Ltr) (l : Ltr) : Prop where
  num : l.num = heldN G l.au + 1
  own : l.count l.au = l.num
  seen : ∀ x, x ≠ l.au → l.count x ≤ heldN G x
  mono : ∀ a ∈ G, a.au = l.au → ∀ x, a.count x ≤ l.count x
  keep : l.act = true → l.au = (rollS f G).keeper
  sees : l.act = true → ∀ a ∈ G, a.act = true → a.num ≤ l.count a.au
  known : l.au ∈ (rollS f G).names
  look : ∀ p ∈ l.seen, l.count p.1 = p.2
  nof : ∀ ms, l.body ≠ .found ms
inductive Hon (f : Ltr) : List Ltr → Prop
  | base : FoundOk f → (∀ p ∈ f.seen, f.count p.1 = p.2) → Hon f [f]
  | snoc {G : List Ltr} {l : Ltr} : Hon f G → Stp f G l → Hon f (G ++ [l])
theorem Hon.head {f : Ltr} {G : List Ltr} (h : Hon f G) : ∃ r, G = f :: r := by
  induction h with
  | base _ _ => exact ⟨[], rfl⟩
  | snoc _ _ ih =>
    obtain ⟨r, rfl⟩ := ih
    exact ⟨r ++ [_], rfl⟩
theorem Hon.found {f : Ltr} {G : List Ltr} (h : Hon f G) : FoundOk f := by
  induction h with
  | base a _ => exact a
  | snoc _ _ ih => exact ih
theorem snoc_split {α : Type} {G A B : List α} {l0 l : α} (e : G ++ [l0] = A ++ l :: B) : (B = [] ∧ A = G ∧ l = l0) ∨ ∃ B', B = B' ++ [l0] ∧ G = A ++ l :: B' := by
  rcases List.eq_nil_or_concat B with rfl | ⟨B', b, rfl⟩
  · left
    have := List.append_inj' e rfl
    exact ⟨rfl, this.1.symm, (List.cons.inj this.2).1.symm⟩
  · right
    have e2 : G ++ [l0] = (A ++ l :: B') ++ [b] := by rw [e]; simp
    have := List.append_inj' e2 rfl
    have e3 := (List.cons.inj this.2).1
    subst e3
    exact ⟨B', by simp, this.1⟩
theorem Hon.split {f : Ltr} {G : List Ltr} (h : Hon f G) : ∀ {A B : List Ltr} {l : Ltr}, G = A ++ l :: B → A ≠ [] → Stp f A l ∧ Hon f A := by
  induction h with
  | base _ _ =>
    intro A B l e hA
    cases A with
    | nil => exact absurd rfl hA
    | cons a r =>
      have := congrArg List.length e
      simp at this
  | @snoc G l0 hG hS ih =>
    intro A B l e hA
    rcases snoc_split e with ⟨rfl, rfl, rfl⟩ | ⟨B', rfl, e2⟩
    · exact ⟨hS, hG⟩
    · exact ih e2 hA
theorem Hon.look {f : Ltr} {G : List Ltr} (h : Hon f G) : ∀ l ∈ G, ∀ p ∈ l.seen, l.count p.1 = p.2 := by
  induction h with
  | base _ b =>
    intro l hl
    rw [List.mem_singleton] at hl
    subst hl
    exact b
  | snoc hG hS ih =>
    intro l hl
    rw [List.mem_append, List.mem_singleton] at hl
    rcases hl with hl | rfl
    · exact ih l hl
    · exact hS.look
theorem Hon.rown {f : Ltr} {G : List Ltr} (h : Hon f G) : ∀ (x : Str) (i : Nat) (l : Ltr), (rowOf G x)[i]? = some l → l.num = i + 1 := by
  induction h with
  | base a _ =>
    intro x i l e
    have hm := mem_row.mp (List.mem_of_getElem? e)
    have e1 := List.mem_singleton.mp hm.1
    subst e1
    have hi := (List.getElem?_eq_some_iff.mp e).1
    have : (rowOf [l] x).length ≤ 1 := List.length_filter_le _ _
    rw [a.num]
    omega
  | @snoc G l0 hG hS ih =>
    intro x i l e
    rw [row_snoc] at e
    by_cases hx : l0.au = x
    · rw [if_pos hx] at e
      by_cases hi : i < (rowOf G x).length
      · rw [List.getElem?_append_left hi] at e
        exact ih x i l e
      · have hi2 := (List.getElem?_eq_some_iff.mp e).1
        rw [List.length_append, List.length_singleton] at hi2
        have hi3 : i = (rowOf G x).length := by omega
        subst hi3
        rw [List.getElem?_append_right (Nat.le_refl _), Nat.sub_self] at e
        have e2 : l0 = l := Option.some.inj e
        subst e2
        rw [hS.num, hx]
        rfl
    · rw [if_neg hx] at e
      exact ih x i l e
theorem Hon.at_ {f : Ltr} {G : List Ltr} (h : Hon f G) {l : Ltr} (hl : l ∈ G) : ∃ i, l.num = i + 1 ∧ (rowOf G l.au)[i]? = some l := by
  obtain ⟨i, hi⟩ := List.mem_iff_getElem?.mp (mem_row.mpr ⟨hl, rfl⟩)
  exact ⟨i, h.rown _ _ _ hi, hi⟩
theorem Hon.le {f : Ltr} {G : List Ltr} (h : Hon f G) {l : Ltr} (hl : l ∈ G) : 1 ≤ l.num ∧ l.num ≤ heldN G l.au := by
  obtain ⟨i, h1, h2⟩ := h.at_ hl
  have := (List.getElem?_eq_some_iff.mp h2).1
  unfold heldN
  omega
theorem Hon.inj {f : Ltr} {G : List Ltr} (h : Hon f G) {l a : Ltr} (hl : l ∈ G) (ha : a ∈ G) (e1 : l.au = a.au) (e2 : l.num = a.num) : l = a := by
  obtain ⟨i, h1, h2⟩ := h.at_ hl
  obtain ⟨j, h3, h4⟩ := h.at_ ha
  have : i = j := by omega
  subst this
  rw [e1, h4] at h2
  exact (Option.some.inj h2).symm
theorem Hon.fresh {f : Ltr} {G : List Ltr} {l : Ltr} (h : Hon f G) (hS : Stp f G l) : l ∉ G := fun hl => by
  have := (h.le hl).2
  rw [hS.num] at this
  omega
theorem Hon.nodup {f : Ltr} {G : List Ltr} (h : Hon f G) : G.Nodup := by
  induction h with
  | base _ _ => simp
  | snoc hG hS ih =>
    rw [List.nodup_append]
    refine ⟨ih, by simp, fun a ha b hb => ?_⟩
    rw [List.mem_singleton] at hb
    subst hb
    intro e
    subst e
    exact hG.fresh hS ha
theorem Hon.num_pos {f : Ltr} {G : List Ltr} (h : Hon f G) {l : Ltr} (hl : l ∈ G) : 1 ≤ l.num := (h.le hl).1
/-- an act is never void -/
theorem Hon.never {f : Ltr} {G : List Ltr} (h : Hon f G) : ∀ a ∈ G, a.act = true → ∀ m, (rollS f G).lim a.au = some m → a.num ≤ m := by
  induction h with
  | base a _ =>
    intro b hb ha
    rw [List.mem_singleton] at hb
    subst hb
    rw [a.act] at ha
    cases ha
  | @snoc G l hG hS ih =>
    intro a ha hact m hm
    rw [rollS_snoc] at hm
    rw [List.mem_append, List.mem_singleton] at ha
    cases e0 : (rollS f G).lim a.au with
    | some k =>
      rw [lim_act e0] at hm
      cases hm
      rcases ha with ha | rfl
      · exact ih a ha hact m e0
      · rw [hS.keep hact, (rollOk f G).kl] at e0
        cases e0
    | none =>
      obtain ⟨hb, rfl, hk⟩ := lim_act_cut hm e0
      have hla : l.act = true := by unfold Ltr.act; rw [hb]
      rcases ha with ha | rfl
      · exact hS.sees hla a ha hact
      · exact absurd (hS.keep hact) hk
/-! ### how a roll is read -/
inductive Rd (o : List Ltr) : Roll → Nat → Roll → Nat → Prop
  | done {R : Roll} {i : Nat} : (rowOf o R.keeper).length ≤ i → Rd o R i R 0
  | step {R Rf : Roll} {i n : Nat} {l : Ltr} : (rowOf o R.keeper)[i]? = some l → (stepR R l).2 = false → Rd o (act1 R l) (i + 1) Rf n → Rd o R i Rf (n + 1)
  | hand {R Rf : Roll} {i n : Nat} {l : Ltr} : (rowOf o R.keeper)[i]? = some l → (stepR R l).2 = true →
      Rd o (act1 R l) ((rowOf o (act1 R l).keeper).findIdx fun a => a.sees l) Rf n → Rd o R i Rf (n + 1)
structure Nxt (f : Ltr) (o : List Ltr) (l : Ltr) : Prop where
  keep : l.act = true → l.au = (rollS f o).keeper
  sees : l.act = true → ∀ a ∈ o, a.act = true → a.num ≤ l.count a.au
  unseen : l.act = true → ∀ a ∈ o, a.count l.au < l.num
  mono : ∀ a ∈ o, a.au = l.au → ∀ x, a.count x ≤ l.count x
inductive Ord (f : Ltr) : List Ltr → Prop
  | base : FoundOk f → Ord f [f]
  | snoc {o : List Ltr} {l : Ltr} : Ord f o → Nxt f o l → Ord f (o ++ [l])
theorem findIdx_snoc {α : Type} (p : α → Bool) (xs : List α) (y : α) : (xs ++ [y]).findIdx p = if xs.findIdx p < xs.length then xs.findIdx p else if p y = true then xs.length else xs.length + 1 := by
  rw [List.findIdx_append]
  split
  · rfl
  · have : xs.findIdx p = xs.length := Nat.le_antisymm (List.findIdx_le_length) (by omega)
    rw [List.findIdx_cons]
    cases h : p y <;> simp [Nat.add_comm]
theorem rd_snoc {o : List Ltr} {l : Ltr} {R Rf : Roll} {i n : Nat} (h : Rd o R i Rf n) (hk : l.act = true → l.au = Rf.keeper) (hs : l.act = true → ∀ a ∈ o, a.act = true → a.num ≤ l.count a.au)
    (hu : l.act = true → ∀ a ∈ o, a.count l.au < l.num) : i ≤ (rowOf o R.keeper).length → ∃ n', n' ≤ n + 1 ∧ Rd (o ++ [l]) R i (act1 Rf l) n' := by
  induction h with
  | @done R i hle =>
    intro hi
    have ei : i = (rowOf o R.keeper).length := Nat.le_antisymm hi hle
    by_cases hau : l.au = R.keeper
    · have hrow : rowOf (o ++ [l]) R.keeper = rowOf o R.keeper ++ [l] := by rw [row_snoc, if_pos hau]
      have hat : (rowOf (o ++ [l]) R.keeper)[i]? = some l := by rw [hrow, ei, List.getElem?_append_right (Nat.le_refl _), Nat.sub_self]; rfl
      cases hh : (stepR R l).2 with
      | false =>
        refine ⟨1, Nat.le_refl _, .step hat hh (.done ?_)⟩
        rw [keep_same hh, hrow, List.length_append, ei]
        exact Nat.le_refl _
      | true =>
        refine ⟨1, Nat.le_refl _, .hand hat hh (.done ?_)⟩
        have hact := hand_act hh
        have : ∀ a ∈ rowOf (o ++ [l]) (act1 R l).keeper, ¬ a.sees l = true := by
          intro a ha
          obtain ⟨ha1, ha2⟩ := mem_row.mp ha
          rw [List.mem_append, List.mem_singleton] at ha1
          rcases ha1 with ha1 | rfl
          · have := hu hact a ha1
            unfold Ltr.sees
            simp
            omega
          · exfalso
            have hk' : (act1 R a).keeper ≠ R.keeper := by
              unfold act1
              unfold stepR at hh ⊢
              cases e : a.body <;> rw [e] at hh <;> simp only at hh ⊢ <;> try cases hh
              · split at hh <;> cases hh
              · split at hh
                · rename_i q
                  rw [if_pos q]
                  exact q.2
                · cases hh
            exact hk' (ha2.symm.trans hau)
        rw [List.findIdx_eq_length.mpr (fun a ha => Bool.eq_false_iff.mpr (this a ha))]
        exact Nat.le_refl _
    · have hact : l.act = false := by
        cases e : l.act with
        | false => rfl
        | true => exact absurd (hk e) hau
      rw [act1_no hact]
      refine ⟨0, Nat.zero_le _, .done ?_⟩
      rw [row_snoc, if_neg hau]
      exact hle
  | @step R Rf i n l0 hat hh _ ih =>
    intro hi
    have hlt := (List.getElem?_eq_some_iff.mp hat).1
    obtain ⟨n', h1, h2⟩ := ih hk (by rw [keep_same hh]; exact hlt)
    refine ⟨n' + 1, Nat.succ_le_succ h1, .step ?_ hh h2⟩
    rw [row_snoc]
    split
    · rw [List.getElem?_append_left hlt]
      exact hat
    · exact hat
  | @hand R Rf i n l0 hat hh hrest ih =>
    intro hi
    have hlt := (List.getElem?_eq_some_iff.mp hat).1
    have hat' : (rowOf (o ++ [l]) R.keeper)[i]? = some l0 := by
      rw [row_snoc]
      split
      · rw [List.getElem?_append_left hlt]
        exact hat
      · exact hat
    have hl0 : l0 ∈ o := (mem_row.mp (List.mem_of_getElem? hat)).1
    obtain ⟨n', h1, h2⟩ := ih hk List.findIdx_le_length
    by_cases hau : l.au = (act1 R l0).keeper
    · have hrow : rowOf (o ++ [l]) (act1 R l0).keeper = rowOf o (act1 R l0).keeper ++ [l] := by rw [row_snoc, if_pos hau]
      by_cases hj : ((rowOf o (act1 R l0).keeper).findIdx fun a => a.sees l0) < (rowOf o (act1 R l0).keeper).length
      · refine ⟨n' + 1, Nat.succ_le_succ h1, .hand hat' hh ?_⟩
        rw [hrow, findIdx_snoc, if_pos hj]
        exact h2
      · have ej : ((rowOf o (act1 R l0).keeper).findIdx fun a => a.sees l0) = (rowOf o (act1 R l0).keeper).length := Nat.le_antisymm List.findIdx_le_length (by omega)
        by_cases hsee : l.sees l0 = true
        · refine ⟨n' + 1, Nat.succ_le_succ h1, .hand hat' hh ?_⟩
          rw [hrow, findIdx_snoc, if_neg hj, if_pos hsee, ← ej]
          exact h2
        · have hact : l.act = false := by
            cases e : l.act with
            | false => rfl
            | true =>
              exfalso
              apply hsee
              unfold Ltr.sees
              exact decide_eq_true (hs e l0 hl0 (hand_act hh))
          have hRf : Rf = act1 R l0 := by
            rw [ej] at hrest
            cases hrest with
            | done _ => rfl
            | step q _ _ => exact absurd (List.getElem?_eq_some_iff.mp q).1 (Nat.lt_irrefl _)
            | hand q _ _ => exact absurd (List.getElem?_eq_some_iff.mp q).1 (Nat.lt_irrefl _)
          rw [act1_no hact, hRf]
          refine ⟨1, by omega, .hand hat' hh (.done ?_)⟩
          rw [hrow, findIdx_snoc, if_neg hj, if_neg hsee, List.length_append]
          exact Nat.le_refl _
    · refine ⟨n' + 1, Nat.succ_le_succ h1, .hand hat' hh ?_⟩
      rw [row_snoc, if_neg hau]
      exact h2
theorem Ord.head {f : Ltr} {o : List Ltr} (h : Ord f o) : ∃ r, o = f :: r := by
  induction h with
  | base _ => exact ⟨[], rfl⟩
  | snoc _ _ ih =>
    obtain ⟨r, rfl⟩ := ih
    exact ⟨r ++ [_], rfl⟩
theorem Ord.found {f : Ltr} {G : List Ltr} (h : Ord f G) : FoundOk f := by
  induction h with
  | base a => exact a
  | snoc _ _ ih => exact ih
theorem Ord.rd {f : Ltr} {o : List Ltr} (h : Ord f o) : ∃ n, n < o.length ∧ Rd o (R0 f) 1 (rollS f o) n := by
  induction h with
  | base a =>
    refine ⟨0, Nat.zero_lt_one, ?_⟩
    have e : rollS f [f] = R0 f := act1_no a.act
    rw [e]
    refine .done ?_
    exact List.length_filter_le _ _
  | @snoc o l hO hN ih =>
    obtain ⟨n, h1, h2⟩ := ih
    obtain ⟨r, hr⟩ := hO.head
    obtain ⟨n', h3, h4⟩ := rd_snoc h2 hN.keep hN.sees hN.unseen (by
      show 1 ≤ (rowOf o f.au).length
      have : f ∈ rowOf o f.au := mem_row.mpr ⟨by rw [hr]; exact List.mem_cons_self, rfl⟩
      exact List.length_pos_of_mem this)
    refine ⟨n', by rw [List.length_append, List.length_singleton]; omega, ?_⟩
    rw [rollS_snoc]
    exact h4
/-- a row's counts grow -/
theorem Ord.mono {f : Ltr} {o : List Ltr} (h : Ord f o) (x : Str) : (rowOf o x).Pairwise fun a b => ∀ y, a.count y ≤ b.count y := by
  induction h with
  | base _ =>
    unfold rowOf
    rw [List.filter_cons]
    split <;> simp
  | @snoc o l hO hN ih =>
    rw [row_snoc]
    split
    · rename_i e
      rw [List.pairwise_append]
      refine ⟨ih, by simp, fun a ha b hb => ?_⟩
      rw [List.mem_singleton] at hb
      subst hb
      obtain ⟨h1, h2⟩ := mem_row.mp ha
      exact hN.mono a h1 (h2.trans e.symm)
    · exact ih
theorem findIdx_count (l : Ltr) : ∀ {xs : List Ltr}, (xs.Pairwise fun a b => ∀ y, a.count y ≤ b.count y) → (xs.findIdx fun a => a.sees l) = (xs.filter fun a => !a.sees l).length
  | [], _ => rfl
  | a :: r, h => by
    obtain ⟨h1, h2⟩ := List.pairwise_cons.mp h
    rw [List.findIdx_cons, List.filter_cons]
    cases e : a.sees l with
    | true =>
      have : (r.filter fun b => !b.sees l) = [] := by
        rw [List.filter_eq_nil_iff]
        intro b hb
        have := h1 b hb l.au
        unfold Ltr.sees at e ⊢
        simp at e ⊢
        omega
      simp [this]
    | false =>
      rw [findIdx_count l h2]
      simp
end Lo
set_option Elab.async false
set_option maxHeartbeats 4000000
namespace Lo
open PySem (Str)
/-! ### waiting, ready, held -/
def voidR (R : Roll) (l : Ltr) : Bool := match R.lim l.au with
  | some m => decide (m < l.num)
  | none => false
def least (R : Roll) (x : Str) (c : Nat) : Nat := match R.lim x with
  | some m => min c m
  | none => c
def hasC (R : Roll) (o : List Ltr) (x : Str) (c : Nat) : Bool := decide (least R x c ≤ heldN o x)
def cntsR (R : Roll) (x : Str) (n : Nat) : Bool := decide (x ∈ R.names) && match R.lim x with
  | some m => decide (n ≤ m)
  | none => true
def can (R : Roll) (o : List Ltr) (l : Ltr) : Bool := cntsR R l.au l.num && (decide (l.num = heldN o l.au + 1) && l.seen.all fun p => decide (p.1 = l.au) || hasC R o p.1 p.2)
def slt (a b : Str) : Bool := decide (a.cps.toList < b.cps.toList)
def keyLt (a b : Ltr) : Bool := decide (a.stamp < b.stamp) || (decide (a.stamp = b.stamp) && slt a.au b.au)
def pick (b : Option Ltr) (l : Ltr) : Option Ltr := match b with
  | none => some l
  | some m => if keyLt l m = true then some l else some m
def minL (xs : List Ltr) : Option Ltr := xs.foldl pick none
def ready (f : Ltr) (o w : List Ltr) : Option Ltr := minL (w.filter (can (rollS f o) o))
def findW (w : List Ltr) (x : Str) (n : Nat) : Option Ltr := w.find? fun a => decide (a.au = x ∧ a.num = n)
def dropR (w : List Ltr) (l : Ltr) : List Ltr := w.filter fun a => !decide (a.au = l.au ∧ a.num = l.num)
def run (f : Ltr) : Nat → List Ltr → List Ltr → List Ltr × List Ltr × List Ltr
  | 0, o, w => ([], o, w)
  | n + 1, o, w => match ready f o w with
    | none => ([], o, w.filter fun l => !voidR (rollS f o) l)
    | some l => (l :: (run f n (o ++ [l]) (dropR w l)).1, (run f n (o ++ [l]) (dropR w l)).2)
def takeS (f : Ltr) (o w : List Ltr) (l : Ltr) : List Ltr × List Ltr × List Ltr :=
  if l.num ≤ heldN o l.au then ([], o, w) else if l ∈ w then ([], o, w) else if voidR (rollS f o) l = true then ([], o, w) else run f (w.length + 2) o (w ++ [l])
/-! ### the least key -/
theorem slt_trans {a b c : Str} (h1 : slt a b = true) (h2 : slt b c = true) : slt a c = true := by
  unfold slt at *
  exact decide_eq_true (List.lt_trans (of_decide_eq_true h1) (of_decide_eq_true h2))
theorem slt_irrefl (a : Str) : slt a a = false := by
  unfold slt
  exact decide_eq_false (List.lt_irrefl _)
theorem str_ext {x y : Str} (h : x.cps.toList = y.cps.toList) : x = y := by
  cases x; cases y
  simp at h
  subst h
  rfl
theorem slt_total {a b : Str} (h1 : slt a b = false) (h2 : slt b a = false) : a = b := by
  unfold slt at *
  exact str_ext (List.le_antisymm (of_decide_eq_false h2) (of_decide_eq_false h1))
theorem keyLt_iff {a b : Ltr} : keyLt a b = true ↔ a.stamp < b.stamp ∨ (a.stamp = b.stamp ∧ slt a.au b.au = true) := by
  unfold keyLt
  simp
theorem keyLt_trans {a b c : Ltr} (h1 : keyLt a b = true) (h2 : keyLt b c = true) : keyLt a c = true := by
  rw [keyLt_iff] at *
  rcases h1 with h1 | ⟨h1, h3⟩ <;> rcases h2 with h2 | ⟨h2, h4⟩
  · exact .inl (Nat.lt_trans h1 h2)
  · exact .inl (by omega)
  · exact .inl (by omega)
  · exact .inr ⟨by omega, slt_trans h3 h4⟩
theorem keyLt_irrefl (a : Ltr) : keyLt a a = false := by
  cases h : keyLt a a with
  | false => rfl
  | true =>
    rw [keyLt_iff] at h
    rcases h with h | ⟨_, h⟩
    · omega
    · rw [slt_irrefl] at h; cases h
theorem foldl_pick : ∀ (xs : List Ltr) (b : Ltr), ∃ m, xs.foldl pick (some b) = some m ∧ (m = b ∨ m ∈ xs) ∧ (m = b ∨ keyLt m b = true) ∧ ∀ y ∈ xs, keyLt y m = false
  | [], b => ⟨b, rfl, .inl rfl, .inl rfl, fun y hy => by cases hy⟩
  | x :: r, b => by
    rw [List.foldl_cons]
    by_cases h : keyLt x b = true
    · have e : pick (some b) x = some x := if_pos h
      rw [e]
      obtain ⟨m, h1, h2, h3, h4⟩ := foldl_pick r x
      refine ⟨m, h1, .inr ?_, .inr ?_, fun y hy => ?_⟩
      · rcases h2 with rfl | h2
        · exact List.mem_cons_self
        · exact List.mem_cons_of_mem _ h2
      · rcases h3 with rfl | h3
        · exact h
        · exact keyLt_trans h3 h
      · rcases List.mem_cons.mp hy with rfl | hy
        · rcases h3 with rfl | h3
          · exact keyLt_irrefl _
          · cases q : keyLt y m with
            | false => rfl
            | true =>
              have := keyLt_trans q h3
              rw [keyLt_irrefl] at this
              cases this
        · exact h4 y hy
    · have e : pick (some b) x = some b := if_neg h
      rw [e]
      obtain ⟨m, h1, h2, h3, h4⟩ := foldl_pick r b
      refine ⟨m, h1, ?_, h3, fun y hy => ?_⟩
      · rcases h2 with h2 | h2
        · exact .inl h2
        · exact .inr (List.mem_cons_of_mem _ h2)
      · rcases List.mem_cons.mp hy with rfl | hy
        · cases q : keyLt y m with
          | false => rfl
          | true =>
            rcases h3 with rfl | h3
            · exact absurd q h
            · exact absurd (keyLt_trans q h3) h
        · exact h4 y hy
theorem minL_some {xs : List Ltr} {m : Ltr} (h : minL xs = some m) : m ∈ xs ∧ ∀ y ∈ xs, keyLt y m = false := by
  cases xs with
  | nil => cases h
  | cons x r =>
    obtain ⟨m', h1, h2, h3, h4⟩ := foldl_pick r x
    have e : minL (x :: r) = some m' := h1
    rw [e] at h
    cases h
    refine ⟨?_, fun y hy => ?_⟩
    · rcases h2 with rfl | h2
      · exact List.mem_cons_self
      · exact List.mem_cons_of_mem _ h2
    · rcases List.mem_cons.mp hy with rfl | hy
      · rcases h3 with rfl | h3
        · exact keyLt_irrefl _
        · cases q : keyLt y m with
          | false => rfl
          | true =>
            have := keyLt_trans q h3
            rw [keyLt_irrefl] at this
            cases this
      · exact h4 y hy
theorem minL_none {xs : List Ltr} (h : minL xs = none) : xs = [] := by
  cases xs with
  | nil => rfl
  | cons x r =>
    obtain ⟨m', h1, _⟩ := foldl_pick r x
    have e : minL (x :: r) = some m' := h1
    rw [e] at h
    cases h
theorem minL_uniq {xs : List Ltr} {m : Ltr} (T : ∀ a ∈ xs, ∀ b ∈ xs, keyLt a b = false → keyLt b a = false → a = b) (hm : m ∈ xs) (hl : ∀ y ∈ xs, keyLt y m = false) : minL xs = some m := by
  cases h : minL xs with
  | none =>
    rw [minL_none h] at hm
    cases hm
  | some k =>
    obtain ⟨h1, h2⟩ := minL_some h
    rw [T k h1 m hm (hl k h1) (h2 m hm)]
theorem minL_congr {xs ys : List Ltr} (T : ∀ a ∈ xs, ∀ b ∈ xs, keyLt a b = false → keyLt b a = false → a = b) (e : ∀ a, a ∈ xs ↔ a ∈ ys) : minL xs = minL ys := by
  cases h : minL ys with
  | none =>
    have := minL_none h
    subst this
    have : xs = [] := by
      cases xs with
      | nil => rfl
      | cons a r => exact absurd ((e a).mp List.mem_cons_self) (by simp)
    rw [this]
    rfl
  | some m =>
    obtain ⟨h1, h2⟩ := minL_some h
    exact minL_uniq T ((e m).mpr h1) fun y hy => h2 y ((e y).mp hy)
/-! ### what a ledger keeps -/
structure GoodR (f : Ltr) (G o w : List Ltr) : Prop where
  hon : Hon f G
  ord : Ord f o
  row : ∀ x, rowOf o x <+: rowOf G x
  acts : o.filter Ltr.act <+: G.filter Ltr.act
  clo : ∀ a ∈ o, ∀ x, (rollS f o).lim x = none → a.count x ≤ heldN o x
  wG : ∀ l ∈ w, l ∈ G
  wnd : w.Nodup
  wout : ∀ l ∈ w, heldN o l.au < l.num
structure Good (f : Ltr) (G o w : List Ltr) : Prop extends GoodR f G o w where
  wvoid : ∀ l ∈ w, voidR (rollS f o) l = false
  quiet : ∀ l ∈ w, can (rollS f o) o l = false
section
variable {f : Ltr} {G o w : List Ltr}
theorem GoodR.sub (g : GoodR f G o w) {l : Ltr} (h : l ∈ o) : l ∈ G := (mem_row.mp ((g.row l.au).subset (mem_row.mpr ⟨h, rfl⟩))).1
theorem GoodR.held_le (g : GoodR f G o w) (x : Str) : heldN o x ≤ heldN G x := (g.row x).length_le
theorem GoodR.isIn (g : GoodR f G o w) {l : Ltr} (hl : l ∈ G) (h : l.num ≤ heldN o l.au) : l ∈ o := by
  obtain ⟨i, h1, h2⟩ := g.hon.at_ hl
  have hi : i < (rowOf o l.au).length := by
    show i < heldN o l.au
    omega
  have h3 := (g.row l.au).getElem hi
  have h4 : (rowOf o l.au)[i]? = some l := by
    rw [List.getElem?_eq_getElem hi, h3]
    rw [List.getElem?_eq_getElem (Nat.lt_of_lt_of_le hi (g.row l.au).length_le)] at h2
    exact h2
  exact (mem_row.mp (List.mem_of_getElem? h4)).1
theorem GoodR.numle (g : GoodR f G o w) {l : Ltr} (h : l ∈ o) : l.num ≤ heldN o l.au := by
  obtain ⟨i, h1⟩ := List.mem_iff_getElem?.mp (mem_row.mpr ⟨h, rfl⟩)
  have hi := (List.getElem?_eq_some_iff.mp h1).1
  obtain ⟨t, ht⟩ := g.row l.au
  have h2 : (rowOf G l.au)[i]? = some l := by
    rw [← ht, List.getElem?_append_left hi]
    exact h1
  have := g.hon.rown _ _ _ h2
  show l.num ≤ (rowOf o l.au).length
  omega
theorem GoodR.wno (g : GoodR f G o w) {l : Ltr} (h : l ∈ w) : l ∉ o := fun q => by
  have := g.numle q
  have := g.wout l h
  omega
theorem GoodR.inj (g : GoodR f G o w) {l a : Ltr} (hl : l ∈ G) (ha : a ∈ G) (e1 : l.au = a.au) (e2 : l.num = a.num) : l = a := g.hon.inj hl ha e1 e2
theorem GoodR.never (g : GoodR f G o w) {a : Ltr} (ha : a ∈ G) (hact : a.act = true) {m : Nat} (h : (rollS f o).lim a.au = some m) : a.num ≤ m := g.hon.never a ha hact m (lim_pre g.acts h)
theorem can_iff {R : Roll} {l : Ltr} : can R o l = true ↔ l.au ∈ R.names ∧ (∀ m, R.lim l.au = some m → l.num ≤ m) ∧ l.num = heldN o l.au + 1 ∧ ∀ p ∈ l.seen, p.1 ≠ l.au → least R p.1 p.2 ≤ heldN o p.1 := by
  unfold can cntsR hasC
  rw [Bool.and_eq_true, Bool.and_eq_true, Bool.and_eq_true, List.all_eq_true]
  constructor
  · rintro ⟨⟨h1, h2⟩, h3, h4⟩
    refine ⟨of_decide_eq_true h1, fun m hm => ?_, of_decide_eq_true h3, fun p hp hne => ?_⟩
    · rw [hm] at h2
      exact of_decide_eq_true h2
    · have := h4 p hp
      rw [decide_eq_false hne, Bool.false_or] at this
      exact of_decide_eq_true this
  · rintro ⟨h1, h2, h3, h4⟩
    refine ⟨⟨decide_eq_true h1, ?_⟩, decide_eq_true h3, fun p hp => ?_⟩
    · cases e : R.lim l.au with
      | none => rfl
      | some m => exact decide_eq_true (h2 m e)
    · by_cases hne : p.1 = l.au
      · rw [decide_eq_true hne, Bool.true_or]
      · rw [decide_eq_false hne, Bool.false_or]
        exact decide_eq_true (h4 p hp hne)
theorem dropR_mem {l a : Ltr} (g : GoodR f G o w) (hl : l ∈ w) : a ∈ dropR w l ↔ a ∈ w ∧ a ≠ l := by
  unfold dropR
  rw [List.mem_filter]
  constructor
  · rintro ⟨h1, h2⟩
    refine ⟨h1, fun e => ?_⟩
    subst e
    simp at h2
  · rintro ⟨h1, h2⟩
    refine ⟨h1, ?_⟩
    have : ¬ (a.au = l.au ∧ a.num = l.num) := fun q => h2 (g.inj (g.wG a h1) (g.wG l hl) q.1 q.2)
    rw [decide_eq_false this]
    rfl
theorem filter_split {G A B : List Ltr} {l : Ltr} (p : Ltr → Bool) (e : G.filter p = A ++ l :: B) : ∃ A' B', G = A' ++ l :: B' ∧ A'.filter p = A ∧ B'.filter p = B ∧ p l = true := by
  induction G generalizing A with
  | nil => simp at e
  | cons a r ih =>
    rw [List.filter_cons] at e
    by_cases h : p a = true
    · rw [if_pos h] at e
      cases A with
      | nil =>
        rw [List.nil_append] at e
        obtain ⟨rfl, e2⟩ := List.cons.inj e
        exact ⟨[], r, rfl, rfl, e2, h⟩
      | cons b A =>
        rw [List.cons_append] at e
        obtain ⟨rfl, e2⟩ := List.cons.inj e
        obtain ⟨A', B', h1, h2, h3, h4⟩ := ih e2
        exact ⟨a :: A', B', by rw [h1]; rfl, by rw [List.filter_cons, if_pos h, h2], h3, h4⟩
    · rw [if_neg h] at e
      obtain ⟨A', B', h1, h2, h3, h4⟩ := ih e
      exact ⟨a :: A', B', by rw [h1]; rfl, by rw [List.filter_cons, if_neg h, h2], h3, h4⟩
theorem nodup_mid {α : Type} {A B : List α} {l : α} (h : (A ++ l :: B).Nodup) : l ∉ A ∧ l ∉ B := by
  rw [List.nodup_append] at h
  obtain ⟨_, h2, h3⟩ := h
  exact ⟨fun q => h3 l q l List.mem_cons_self rfl, (List.nodup_cons.mp h2).1⟩
theorem split_uniq {α : Type} : ∀ {A A' B B' : List α} {l : α}, (A ++ l :: B).Nodup → A ++ l :: B = A' ++ l :: B' → A = A' ∧ B = B'
  | [], [], _, _, _, _, e => ⟨rfl, (List.cons.inj e).2⟩
  | [], a :: A', B, B', l, h, e => by
    obtain ⟨rfl, e2⟩ := List.cons.inj e
    have := (List.nodup_cons.mp h).1
    exact absurd (by rw [e2]; simp) this
  | a :: A, [], B, B', l, h, e => by
    obtain ⟨rfl, e2⟩ := List.cons.inj e
    have := (List.nodup_cons.mp h).1
    exact absurd (by simp) this
  | a :: A, a' :: A', B, B', l, h, e => by
    obtain ⟨rfl, e2⟩ := List.cons.inj e
    obtain ⟨h1, h2⟩ := split_uniq (List.nodup_cons.mp h).2 e2
    exact ⟨by rw [h1], h2⟩
/-- the act that is held next is the chain's next -/
theorem GoodR.next (g : GoodR f G o w) {l : Ltr} (hl : l ∈ G) (hno : l ∉ o) (hact : l.act = true) (hc : can (rollS f o) o l = true) :
    ∃ A B, G = A ++ l :: B ∧ A ≠ [] ∧ A.filter Ltr.act = o.filter Ltr.act := by
  obtain ⟨t, ht⟩ := g.acts
  have hlC : l ∈ o.filter Ltr.act ++ t := by rw [ht]; exact List.mem_filter.mpr ⟨hl, hact⟩
  have hlt : l ∈ t := by
    rcases List.mem_append.mp hlC with q | q
    · exact absurd (List.mem_filter.mp q).1 hno
    · exact q
  have hnd : (G.filter Ltr.act).Nodup := g.hon.nodup.filter _
  cases t with
  | nil => cases hlt
  | cons a t' =>
    obtain ⟨A, B, hG, hA, hB, _⟩ := filter_split Ltr.act ht.symm
    have hAne : ∀ {A B : List Ltr} {l : Ltr}, G = A ++ l :: B → l.act = true → A ≠ [] := fun {A B l} e ha q => by
      subst q
      obtain ⟨r, hr⟩ := g.hon.head
      rw [hr] at e
      have e2 : f = l := (List.cons.inj e).1
      rw [← e2, g.hon.found.act] at ha
      cases ha
    by_cases hal : a = l
    · subst hal
      exact ⟨A, B, hG, hAne hG hact, hA⟩
    · exfalso
      have hlt' : l ∈ t' := by
        rcases List.mem_cons.mp hlt with q | q
        · exact absurd q.symm hal
        · exact q
      -- a lies ahead of l
      have haact : a.act = true := by
        have : a ∈ G.filter Ltr.act := by rw [← ht]; simp
        exact (List.mem_filter.mp this).2
      obtain ⟨s, u, hsu⟩ := List.append_of_mem (show l ∈ B from (List.mem_filter.mp (by rw [hB]; exact hlt' : l ∈ B.filter Ltr.act)).1)
      have hG2 : G = (A ++ a :: s) ++ l :: u := by rw [hG, hsu]; simp
      obtain ⟨S, _⟩ := g.hon.split hG2 (by simp)
      have haG : a ∈ G := by rw [hG]; simp
      have hsee := S.sees hact a (by simp) haact
      have hano : a ∉ o := fun q => by
        rw [← ht] at hnd
        exact (nodup_mid hnd).1 (List.mem_filter.mpr ⟨q, haact⟩)
      obtain ⟨c1, c2, c3, c4⟩ := can_iff.mp hc
      by_cases hau : a.au = l.au
      · have h1 : a.num < l.num := by
          have e1 := (g.hon.split hG2 (by simp)).1.num
          have h2 := ((g.hon.split hG2 (by simp)).2.le (l := a) (by simp)).2
          rw [hau] at h2
          omega
        exact hano (g.isIn haG (by rw [hau]; omega))
      · have hpos := g.hon.num_pos haG
        have hlk : ∃ c, lk l.seen a.au = some c := by
          cases e : lk l.seen a.au with
          | none =>
            have : l.count a.au = 0 := by unfold Ltr.count; rw [e]; rfl
            omega
          | some c => exact ⟨c, rfl⟩
        obtain ⟨c, hc⟩ := hlk
        have hcount : l.count a.au = c := by unfold Ltr.count; rw [hc]; rfl
        have h3 := c4 (a.au, c) (lk_mem hc) hau
        unfold least at h3
        simp only at h3
        cases e : (rollS f o).lim a.au with
        | none =>
          rw [e] at h3
          simp only at h3
          exact hano (g.isIn haG (by omega))
        | some m =>
          rw [e] at h3
          simp only at h3
          have := g.never haG haact e
          exact hano (g.isIn haG (by omega))
theorem GoodR.hold (g : GoodR f G o w) {l : Ltr} (hw : l ∈ w) (hc : can (rollS f o) o l = true) : GoodR f G (o ++ [l]) (dropR w l) := by
  have hl := g.wG l hw
  have hno := g.wno hw
  obtain ⟨c1, c2, c3, c4⟩ := can_iff.mp hc
  have hN : Nxt f o l := by
    refine ⟨fun ha => ?_, fun ha a h1 h2 => ?_, fun ha a h1 => ?_, fun a h1 h2 => ?_⟩
    · obtain ⟨A, B, hG, hA, hf⟩ := g.next hl hno ha hc
      rw [(g.hon.split hG hA).1.keep ha, rollS_filter, hf, ← rollS_filter]
    · obtain ⟨A, B, hG, hA, hf⟩ := g.next hl hno ha hc
      have : a ∈ A := (List.mem_filter.mp (by rw [hf]; exact List.mem_filter.mpr ⟨h1, h2⟩ : a ∈ A.filter Ltr.act)).1
      exact (g.hon.split hG hA).1.sees ha a this h2
    · obtain ⟨A, B, hG, hA, hf⟩ := g.next hl hno ha hc
      have hk : l.au = (rollS f o).keeper := by rw [(g.hon.split hG hA).1.keep ha, rollS_filter, hf, ← rollS_filter]
      have := g.clo a h1 l.au (by rw [hk]; exact (rollOk f o).kl)
      omega
    · intro x
      obtain ⟨A, B, hG⟩ := List.append_of_mem hl
      have ha := g.sub h1
      have hlt : a.num < l.num := by
        have := g.numle h1
        rw [h2] at this
        omega
      by_cases hA : A = []
      · subst hA
        obtain ⟨r, hr⟩ := g.hon.head
        rw [hr] at hG
        have e2 : f = l := (List.cons.inj hG).1
        have := g.hon.num_pos ha
        rw [← e2, g.hon.found.num] at hlt
        omega
      · have haA : a ∈ A := by
          rw [hG] at ha
          rcases List.mem_append.mp ha with q | q
          · exact q
          · exfalso
            rcases List.mem_cons.mp q with rfl | q
            · omega
            · obtain ⟨s, u, rfl⟩ := List.append_of_mem q
              have hG2 : G = (A ++ l :: s) ++ a :: u := by rw [hG]; simp
              obtain ⟨S, H⟩ := g.hon.split hG2 (by simp)
              have e1 := S.num
              have e2 := (H.le (l := l) (by simp)).2
              rw [h2] at e1
              omega
        exact (g.hon.split hG hA).1.mono a haA h2 x
  refine ⟨g.hon, .snoc g.ord hN, fun x => ?_, ?_, fun a ha x hx => ?_, fun a ha => ?_, g.wnd.filter _, fun a ha => ?_⟩
  · rw [row_snoc]
    split
    · rename_i hx
      subst hx
      obtain ⟨i, h1, h2⟩ := g.hon.at_ hl
      obtain ⟨t, ht⟩ := g.row l.au
      have hi : i = (rowOf o l.au).length := by
        have e : l.num = (rowOf o l.au).length + 1 := c3
        omega
      rw [← ht, hi, List.getElem?_append_right (Nat.le_refl _), Nat.sub_self] at h2
      cases t with
      | nil => cases h2
      | cons b t' =>
        have eb : b = l := Option.some.inj h2
        subst eb
        exact ⟨t', by rw [← ht]; simp⟩
    · exact g.row x
  · rw [List.filter_append, List.filter_cons]
    cases ha : l.act with
    | false =>
      rw [if_neg (by simp), List.filter_nil, List.append_nil]
      exact g.acts
    | true =>
      rw [if_pos rfl]
      obtain ⟨A, B, hG, hA, hf⟩ := g.next hl hno ha hc
      refine ⟨B.filter Ltr.act, ?_⟩
      have e : G.filter Ltr.act = A.filter Ltr.act ++ (l :: B.filter Ltr.act) := by
        rw [hG, List.filter_append, List.filter_cons, if_pos ha]
      rw [e, ← hf]
      simp
  · have hx0 : (rollS f o).lim x = none := by
      cases e : (rollS f o).lim x with
      | none => rfl
      | some m =>
        rw [rollS_snoc, lim_act e] at hx
        cases hx
    rw [held_snoc]
    rw [List.mem_append, List.mem_singleton] at ha
    rcases ha with ha | rfl
    · exact Nat.le_trans (g.clo a ha x hx0) (Nat.le_add_right _ _)
    · by_cases hxa : a.au = x
      · subst hxa
        rw [if_pos rfl]
        have : a.count a.au = a.num := by
          obtain ⟨A, B, hG⟩ := List.append_of_mem hl
          by_cases hA : A = []
          · subst hA
            obtain ⟨r, hr⟩ := g.hon.head
            rw [hr] at hG
            have e2 : f = a := (List.cons.inj hG).1
            rw [← e2, g.hon.found.own, g.hon.found.num]
          · exact (g.hon.split hG hA).1.own
        rw [this, c3]
        exact Nat.le_refl _
      · rw [if_neg hxa]
        unfold Ltr.count
        cases e : lk a.seen x with
        | none => exact Nat.zero_le _
        | some c =>
          have h3 := c4 (x, c) (lk_mem e) (Ne.symm hxa)
          unfold least at h3
          simp only at h3
          rw [hx0] at h3
          exact h3
  · exact g.wG a ((dropR_mem g hw).mp ha).1
  · obtain ⟨h1, h2⟩ := (dropR_mem g hw).mp ha
    have h3 := g.wout a h1
    rw [held_snoc]
    by_cases hau : l.au = a.au
    · rw [if_pos hau]
      have : a.num ≠ l.num := fun e => h2 (g.inj (g.wG a h1) hl hau.symm e)
      rw [← hau] at h3 ⊢
      omega
    · rw [if_neg hau]
      omega
theorem dropR_len (g : GoodR f G o w) {l : Ltr} (hw : l ∈ w) : (dropR w l).length < w.length := by
  have hs : (dropR w l).length ≤ w.length := List.length_filter_le _ _
  rcases Nat.lt_or_eq_of_le hs with h | h
  · exact h
  · exfalso
    have e : dropR w l = w := List.filter_eq_self.mpr (List.length_filter_eq_length_iff.mp h)
    have := (dropR_mem g hw (a := l)).mp (by rw [e]; exact hw)
    exact this.2 rfl
theorem ready_some {l : Ltr} (h : ready f o w = some l) : l ∈ w ∧ can (rollS f o) o l = true := List.mem_filter.mp (minL_some h).1
theorem ready_none (h : ready f o w = none) : ∀ l ∈ w, can (rollS f o) o l = false := fun l hl => by
  have := minL_none h
  rw [List.filter_eq_nil_iff] at this
  exact Bool.eq_false_iff.mpr (this l hl)
theorem run_ok : ∀ (n : Nat) {o w : List Ltr}, GoodR f G o w → w.length < n → Good f G (run f n o w).2.1 (run f n o w).2.2 ∧ (run f n o w).2.1 = o ++ (run f n o w).1 ∧
    (∀ a ∈ (run f n o w).2.2, a ∈ w) ∧ ∀ a ∈ w, a ∈ (run f n o w).2.1 ∨ a ∈ (run f n o w).2.2 ∨ voidR (rollS f (run f n o w).2.1) a = true
  | 0, _, _, _, h => absurd h (Nat.not_lt_zero _)
  | n + 1, o, w, g, h => by
    unfold run
    cases e : ready f o w with
    | none =>
      simp only
      refine ⟨⟨⟨g.hon, g.ord, g.row, g.acts, g.clo, fun l hl => g.wG l (List.mem_filter.mp hl).1, g.wnd.filter _, fun l hl => g.wout l (List.mem_filter.mp hl).1⟩, fun l hl => ?_, fun l hl => ready_none e l (List.mem_filter.mp hl).1⟩, by simp, fun a ha => (List.mem_filter.mp ha).1, fun a ha => ?_⟩
      · have := (List.mem_filter.mp hl).2
        simpa using this
      · cases q : voidR (rollS f o) a with
        | true => exact .inr (.inr rfl)
        | false => exact .inr (.inl (List.mem_filter.mpr ⟨ha, by rw [q]; rfl⟩))
    | some l =>
      simp only
      obtain ⟨h1, h2⟩ := ready_some e
      have hlen := dropR_len g h1
      obtain ⟨i1, i2, i3, i4⟩ := run_ok n (g.hold h1 h2) (by omega)
      refine ⟨i1, by rw [i2]; simp, fun a ha => ((dropR_mem g h1).mp (i3 a ha)).1, fun a ha => ?_⟩
      by_cases hal : a = l
      · subst hal
        exact .inl (by rw [i2]; simp)
      · exact i4 a ((dropR_mem g h1).mpr ⟨ha, hal⟩)
theorem Good.add (g : Good f G o w) {l : Ltr} (hl : l ∈ G) (h1 : ¬ l.num ≤ heldN o l.au) (h2 : l ∉ w) : GoodR f G o (w ++ [l]) := by
  refine ⟨g.hon, g.ord, g.row, g.acts, g.clo, fun a ha => ?_, ?_, fun a ha => ?_⟩
  · rw [List.mem_append, List.mem_singleton] at ha
    rcases ha with ha | rfl
    · exact g.wG a ha
    · exact hl
  · rw [List.nodup_append]
    refine ⟨g.wnd, by simp, fun a ha b hb => ?_⟩
    rw [List.mem_singleton] at hb
    subst hb
    intro e
    subst e
    exact h2 ha
  · rw [List.mem_append, List.mem_singleton] at ha
    rcases ha with ha | rfl
    · exact g.wout a ha
    · omega
theorem Good.take (g : Good f G o w) {l : Ltr} (hl : l ∈ G) : Good f G (takeS f o w l).2.1 (takeS f o w l).2.2 := by
  unfold takeS
  split
  · exact g
  · split
    · exact g
    · split
      · exact g
      · rename_i h1 h2 h3
        exact (run_ok _ (g.add hl h1 h2) (by simp)).1
theorem take_app (g : Good f G o w) {l : Ltr} (hl : l ∈ G) : (takeS f o w l).2.1 = o ++ (takeS f o w l).1 := by
  unfold takeS
  split
  · simp
  · split
    · simp
    · split
      · simp
      · rename_i h1 h2 h3
        exact (run_ok _ (g.add hl h1 h2) (by simp)).2.1
theorem held_app (o r : List Ltr) (x : Str) : heldN o x ≤ heldN (o ++ r) x := by
  unfold heldN rowOf
  rw [List.filter_append, List.length_append]
  exact Nat.le_add_right _ _
/-! ### all is held or void -/
def Proc (f : Ltr) (o : List Ltr) (l : Ltr) : Prop := l ∈ o ∨ voidR (rollS f o) l = true
theorem void_iff {R : Roll} {l : Ltr} : voidR R l = true ↔ ∃ m, R.lim l.au = some m ∧ m < l.num := by
  unfold voidR
  cases R.lim l.au with
  | none => simp
  | some m => simp
theorem Proc.app {l : Ltr} (h : Proc f o l) (r : List Ltr) : Proc f (o ++ r) l := by
  rcases h with h | h
  · exact .inl (List.mem_append_left _ h)
  · obtain ⟨m, h1, h2⟩ := void_iff.mp h
    refine .inr (void_iff.mpr ⟨m, ?_, h2⟩)
    unfold rollS
    rw [List.foldl_append]
    exact foldl_lim r h1
theorem nodup_le {α : Type} [DecidableEq α] : ∀ {xs ys : List α}, xs.Nodup → (∀ a ∈ xs, a ∈ ys) → xs.length ≤ ys.length
  | [], _, _, _ => Nat.zero_le _
  | x :: r, ys, h, hs => by
    obtain ⟨h1, h2⟩ := List.nodup_cons.mp h
    have hx := hs x List.mem_cons_self
    have := nodup_le (ys := ys.erase x) h2 fun a ha => by
      have hne : a ≠ x := fun e => h1 (by rw [← e]; exact ha)
      exact (List.mem_erase_of_ne hne).mpr (hs a (List.mem_cons_of_mem _ ha))
    rw [List.length_erase_of_mem hx] at this
    have hp : 0 < ys.length := List.length_pos_of_mem hx
    rw [List.length_cons]
    omega
/-- what is read off the acts of the first letters, once they are held or void -/
theorem GoodR.actsA (g : GoodR f G o w) {A B : List Ltr} (hG : G = A ++ B) (hp : ∀ a ∈ A, Proc f o a) : A.filter Ltr.act <+: o.filter Ltr.act := by
  have hpre : A.filter Ltr.act <+: G.filter Ltr.act := ⟨B.filter Ltr.act, by rw [hG, List.filter_append]⟩
  refine List.prefix_of_prefix_length_le hpre g.acts (nodup_le ?_ fun a ha => ?_)
  · have : A.Nodup := by
      have := g.hon.nodup
      rw [hG] at this
      exact (List.nodup_append.mp this).1
    exact this.filter _
  · obtain ⟨h1, h2⟩ := List.mem_filter.mp ha
    refine List.mem_filter.mpr ⟨?_, h2⟩
    rcases hp a h1 with q | q
    · exact q
    · obtain ⟨m, h3, h4⟩ := void_iff.mp q
      have := g.never (by rw [hG]; exact List.mem_append_left _ h1) h2 h3
      omega
theorem GoodR.low (g : GoodR f G o w) {A B : List Ltr} (_hG : G = A ++ B) (hA : Hon f A) (hp : ∀ a ∈ A, Proc f o a) {x : Str} (h : heldN o x < heldN A x) : ∃ m, (rollS f o).lim x = some m ∧ m ≤ heldN o x := by
  obtain ⟨a, ha⟩ : ∃ a, (rowOf A x)[heldN o x]? = some a := ⟨_, List.getElem?_eq_getElem h⟩
  have hn := hA.rown _ _ _ ha
  obtain ⟨h1, h2⟩ := mem_row.mp (List.mem_of_getElem? ha)
  rcases hp a h1 with q | q
  · have := g.numle q
    rw [h2] at this
    omega
  · obtain ⟨m, h3, h4⟩ := void_iff.mp q
    rw [h2] at h3
    exact ⟨m, h3, by omega⟩
theorem GoodR.key (g : GoodR f G o w) {A B : List Ltr} {l : Ltr} (hG : G = A ++ l :: B) (hA : A ≠ []) (hp : ∀ a ∈ A, Proc f o a) (hn : ¬ Proc f o l) : can (rollS f o) o l = true := by
  obtain ⟨S, HA⟩ := g.hon.split hG hA
  have hl : l ∈ G := by rw [hG]; simp
  have hno : l ∉ o := fun q => hn (.inl q)
  have hnv : ∀ m, (rollS f o).lim l.au = some m → l.num ≤ m := fun m hm => by
    have : ¬ voidR (rollS f o) l = true := fun q => hn (.inr q)
    rw [void_iff] at this
    have h2 : ¬ m < l.num := fun q => this ⟨m, hm, q⟩
    omega
  have hheld : l.num = heldN o l.au + 1 := by
    have h1 : ¬ l.num ≤ heldN o l.au := fun q => hno (g.isIn hl q)
    have h2 := S.num
    rcases Nat.lt_or_ge (heldN o l.au) (heldN A l.au) with q | q
    · obtain ⟨m, h3, h4⟩ := g.low hG HA hp q
      have := hnv m h3
      omega
    · omega
  refine can_iff.mpr ⟨names_pre (g.actsA hG hp) S.known, hnv, hheld, fun p hp' hne => ?_⟩
  have h1 := S.look p hp'
  have h2 := S.seen p.1 hne
  rw [h1] at h2
  unfold least
  rcases Nat.lt_or_ge (heldN o p.1) (heldN A p.1) with q | q
  · obtain ⟨m, h3, h4⟩ := g.low hG HA hp q
    rw [h3]
    simp only
    omega
  · cases (rollS f o).lim p.1 with
    | none =>
      simp only
      omega
    | some m =>
      simp only
      omega
theorem take_proc (g : Good f G o w) {A B : List Ltr} {l : Ltr} (hG : G = A ++ l :: B) (hp : ∀ a ∈ A, Proc f o a) : ∀ a ∈ A ++ [l], Proc f (takeS f o w l).2.1 a := by
  have hl : l ∈ G := by rw [hG]; simp
  have happ := take_app g hl
  have hgood := g.take hl
  have hpA : ∀ a ∈ A, Proc f (takeS f o w l).2.1 a := fun a ha => by
    rw [happ]
    exact (hp a ha).app _
  intro a ha
  rw [List.mem_append, List.mem_singleton] at ha
  rcases ha with ha | rfl
  · exact hpA a ha
  · by_cases hA : A = []
    · subst hA
      obtain ⟨r, hr⟩ := g.hon.head
      obtain ⟨r', hr'⟩ := g.ord.head
      rw [hr] at hG
      have e2 : f = a := (List.cons.inj hG).1
      subst e2
      refine .inl ?_
      rw [happ, hr']
      simp
    · apply Classical.byContradiction
      intro hn
      have hcan := hgood.key hG hA hpA hn
      have hno : a ∉ o := fun q => hn (.inl (by rw [happ]; exact List.mem_append_left _ q))
      have hnle : ¬ a.num ≤ heldN o a.au := fun q => hno (g.isIn hl q)
      have hnv : ¬ voidR (rollS f o) a = true := fun q => hn (by rw [happ]; exact Proc.app (.inr q) _)
      by_cases hw : a ∈ w
      · have := g.quiet a hw
        have hc := g.key hG hA hp fun q => hn (by rw [happ]; exact q.app _)
        rw [hc] at this
        cases this
      · have e : takeS f o w a = run f (w.length + 2) o (w ++ [a]) := by
          unfold takeS
          rw [if_neg hnle, if_neg hw, if_neg hnv]
        obtain ⟨i1, i2, i3, i4⟩ := run_ok (w.length + 2) (g.add hl hnle hw) (by simp)
        rw [e] at hn hcan
        rcases i4 a (by simp) with q | q | q
        · exact hn (.inl q)
        · rw [i1.quiet a q] at hcan
          cases hcan
        · exact hn (.inr q)
/-! ### when all letters have been taken -/
theorem Good.waits (g : Good f G o w) (hp : ∀ a ∈ G, Proc f o a) : w = [] := by
  cases w with
  | nil => rfl
  | cons l r =>
    exfalso
    have hl : l ∈ l :: r := List.mem_cons_self
    rcases hp l (g.wG l hl) with q | q
    · exact g.wno hl q
    · rw [g.wvoid l hl] at q
      cases q
theorem Good.roll (g : Good f G o w) (hp : ∀ a ∈ G, Proc f o a) : rollS f o = rollS f G := by
  have h1 := g.actsA (A := G) (B := []) (by simp) hp
  have h2 := g.acts
  have e : o.filter Ltr.act = G.filter Ltr.act := List.IsPrefix.eq_of_length_le h2 h1.length_le
  rw [rollS_filter, e, ← rollS_filter]
theorem cnts_novoid {R : Roll} {l : Ltr} (h : cntsR R l.au l.num = true) : ¬ voidR R l = true := fun q => by
  obtain ⟨m, h1, h2⟩ := void_iff.mp q
  unfold cntsR at h
  rw [h1, Bool.and_eq_true] at h
  have := of_decide_eq_true h.2
  omega
theorem Ord.nodup (g : GoodR f G o w) : o.Nodup := by
  rw [List.nodup_iff_count]
  intro a
  by_cases ha : a ∈ o
  · have h1 : (rowOf o a.au).Nodup := by
      have := g.hon.nodup.filter (fun l => decide (l.au = a.au))
      exact (g.row a.au).sublist.nodup this
    have h2 := (List.nodup_iff_count.mp h1) a
    unfold rowOf at h2
    rw [List.count_filter (by simp)] at h2
    exact h2
  · rw [List.count_eq_zero.mpr ha]
    omega
theorem Good.counting (g : Good f G o w) (hp : ∀ a ∈ G, Proc f o a) : (o.filter fun l => cntsR (rollS f G) l.au l.num).Perm (G.filter fun l => cntsR (rollS f G) l.au l.num) := by
  rw [List.perm_ext_iff_of_nodup ((Ord.nodup g.toGoodR).filter _) (g.hon.nodup.filter _)]
  intro a
  rw [List.mem_filter, List.mem_filter]
  constructor
  · rintro ⟨h1, h2⟩
    exact ⟨g.sub h1, h2⟩
  · rintro ⟨h1, h2⟩
    refine ⟨?_, h2⟩
    rcases hp a h1 with q | q
    · exact q
    · rw [g.roll hp] at q
      exact absurd q (cnts_novoid h2)
/-! ### a new letter -/
structure Own (G o : List Ltr) (p : Str) : Prop where
  all : heldN G p ≤ heldN o p
  seen : ∀ a ∈ G, a.au = p → ∀ x, a.count x ≤ heldN o x
structure New (f : Ltr) (o : List Ltr) (p : Str) (l : Ltr) : Prop where
  au : l.au = p
  num : l.num = heldN o p + 1
  cnt : ∀ x, l.count x = if x = p then heldN o p + 1 else heldN o x
  look : ∀ q ∈ l.seen, l.count q.1 = q.2
  mem : (rollS f o).mem p = true
  keep : l.act = true → p = (rollS f o).keeper
  nof : ∀ ms, l.body ≠ .found ms
theorem New.stp {p : Str} {l : Ltr} (g : Good f G o w) (O : Own G o p) (N : New f o p l) : Stp f G l := by
  have hall : heldN o p = heldN G p := Nat.le_antisymm (g.held_le p) O.all
  have hacts : l.act = true → o.filter Ltr.act = G.filter Ltr.act := fun ha => by
    obtain ⟨t, ht⟩ := g.acts
    cases t with
    | nil => rw [← ht]; simp
    | cons a t' =>
      exfalso
      obtain ⟨A, B, hG, hA, hB, hact⟩ := filter_split Ltr.act ht.symm
      have hAne : A ≠ [] := fun q => by
        subst q
        obtain ⟨r, hr⟩ := g.hon.head
        rw [hr] at hG
        have e2 : f = a := (List.cons.inj hG).1
        rw [← e2, g.hon.found.act] at hact
        cases hact
      have hk := (g.hon.split hG hAne).1.keep hact
      rw [rollS_filter, hA, ← rollS_filter, ← N.keep ha] at hk
      have haG : a ∈ G := by rw [hG]; simp
      have hle := (g.hon.le haG).2
      rw [hk] at hle
      have hin : a ∈ o := g.isIn haG (by rw [hk]; omega)
      have hnd := g.hon.nodup.filter Ltr.act
      rw [← ht] at hnd
      exact (nodup_mid hnd).1 (List.mem_filter.mpr ⟨hin, hact⟩)
  have hroll : l.act = true → rollS f G = rollS f o := fun ha => by rw [rollS_filter, ← hacts ha, ← rollS_filter]
  refine ⟨by rw [N.num, N.au, hall], by rw [N.cnt, if_pos N.au, N.num], fun x hx => ?_, fun a ha hau x => ?_, fun ha => ?_, fun ha a h1 h2 => ?_, ?_, N.look, N.nof⟩
  · rw [N.au] at hx
    rw [N.cnt, if_neg hx]
    exact g.held_le x
  · rw [N.au] at hau
    have := O.seen a ha hau x
    rw [N.cnt]
    split
    · rename_i e
      subst e
      omega
    · exact this
  · rw [hroll ha, N.au]
    exact N.keep ha
  · have hin : a ∈ o := (List.mem_filter.mp (by rw [hacts ha]; exact List.mem_filter.mpr ⟨h1, h2⟩ : a ∈ o.filter Ltr.act)).1
    have := g.numle hin
    rw [N.cnt]
    split
    · rename_i e
      rw [e] at this
      omega
    · exact this
  · rw [N.au]
    exact names_pre g.acts (mem_iff.mp N.mem).1
theorem Good.grow (g : Good f G o w) {l : Ltr} (S : Stp f G l) : Good f (G ++ [l]) o w := by
  refine ⟨⟨.snoc g.hon S, g.ord, fun x => ?_, ?_, g.clo, fun a ha => List.mem_append_left _ (g.wG a ha), g.wnd, g.wout⟩, g.wvoid, g.quiet⟩
  · obtain ⟨t, ht⟩ := g.row x
    refine ⟨t ++ rowOf [l] x, ?_⟩
    unfold rowOf at *
    rw [List.filter_append, ← ht, List.append_assoc]
  · obtain ⟨t, ht⟩ := g.acts
    refine ⟨t ++ [l].filter Ltr.act, ?_⟩
    rw [List.filter_append, ← ht, List.append_assoc]
theorem Own.grow {p : Str} {l : Ltr} (O : Own G o p) (h : l.au ≠ p) : Own (G ++ [l]) o p := by
  refine ⟨?_, fun a ha hau => ?_⟩
  · rw [held_snoc, if_neg h]
    exact O.all
  · rw [List.mem_append, List.mem_singleton] at ha
    rcases ha with ha | rfl
    · exact O.seen a ha hau
    · exact absurd hau h
theorem Own.take {p : Str} {l : Ltr} (g : Good f G o w) (O : Own G o p) (hl : l ∈ G) : Own G (takeS f o w l).2.1 p := by
  rw [take_app g hl]
  exact ⟨Nat.le_trans O.all (held_app _ _ _), fun a ha hau x => Nat.le_trans (O.seen a ha hau x) (held_app _ _ _)⟩
theorem New.own {p : Str} {l : Ltr} (g : Good f G o w) (O : Own G o p) (N : New f o p l) : Good f (G ++ [l]) (takeS f o w l).2.1 (takeS f o w l).2.2 ∧ Own (G ++ [l]) (takeS f o w l).2.1 p ∧ l ∉ w := by
  have S := N.stp g O
  have g' := g.grow S
  have hl : l ∈ G ++ [l] := by simp
  have hnw : l ∉ w := fun q => g.hon.fresh S (g.wG l q)
  have hnum : ¬ l.num ≤ heldN o l.au := by rw [N.num, N.au]; omega
  obtain ⟨m1, m2⟩ := mem_iff.mp N.mem
  have hnv : ¬ voidR (rollS f o) l = true := fun q => by
    obtain ⟨m, h1, _⟩ := void_iff.mp q
    rw [N.au, m2] at h1
    cases h1
  have hcan : can (rollS f o) o l = true := by
    refine can_iff.mpr ⟨by rw [N.au]; exact m1, fun m hm => ?_, by rw [N.num, N.au], fun q hq hne => ?_⟩
    · rw [N.au, m2] at hm
      cases hm
    · have h1 := N.look q hq
      rw [N.au] at hne
      rw [N.cnt, if_neg hne] at h1
      unfold least
      cases (rollS f o).lim q.1 with
      | none => simp only; omega
      | some m => simp only; omega
  have e : takeS f o w l = run f (w.length + 2) o (w ++ [l]) := by
    unfold takeS
    rw [if_neg hnum, if_neg hnw, if_neg hnv]
  refine ⟨g'.take hl, ?_, hnw⟩
  have hready : ready f o (w ++ [l]) = some l := by
    unfold ready
    rw [List.filter_append, List.filter_eq_nil_iff.mpr (fun a ha => by rw [g.quiet a ha]; exact Bool.false_ne_true), List.filter_cons, if_pos hcan]
    rfl
  have hin : ∃ r, (takeS f o w l).2.1 = o ++ [l] ++ r := by
    obtain ⟨_, i2, _, _⟩ := run_ok (w.length + 2) (g'.add hl hnum hnw) (by simp)
    have e1 : (run f (w.length + 2) o (w ++ [l])).1 = l :: (run f (w.length + 1) (o ++ [l]) (dropR (w ++ [l]) l)).1 := by
      show (run f ((w.length + 1) + 1) o (w ++ [l])).1 = _
      rw [run, hready]
    rw [e, i2, e1]
    exact ⟨(run f (w.length + 1) (o ++ [l]) (dropR (w ++ [l]) l)).1, by simp⟩
  obtain ⟨r, hr⟩ := hin
  have hh : ∀ x, heldN (o ++ [l]) x ≤ heldN (takeS f o w l).2.1 x := fun x => by rw [hr]; exact held_app _ _ _
  refine ⟨?_, fun a ha hau x => ?_⟩
  · refine Nat.le_trans ?_ (hh p)
    rw [held_snoc, held_snoc, if_pos N.au]
    have := O.all
    omega
  · refine Nat.le_trans ?_ (hh x)
    rw [held_snoc]
    rw [List.mem_append, List.mem_singleton] at ha
    rcases ha with ha | rfl
    · exact Nat.le_trans (O.seen a ha hau x) (Nat.le_add_right _ _)
    · rw [N.cnt, hau]
      by_cases hx : x = p
      · subst hx
        rw [if_pos rfl, if_pos rfl]
        omega
      · rw [if_neg hx]
        exact Nat.le_add_right _ _
/-! ### the beginning -/
theorem good0 (F : FoundOk f) (hl : ∀ p ∈ f.seen, f.count p.1 = p.2) : Good f [f] [f] [] := by
  refine ⟨⟨.base F hl, .base F, fun x => List.prefix_refl _, List.prefix_refl _, fun a ha x _ => ?_, fun l h => (by cases h), List.nodup_nil, fun l h => (by cases h)⟩, fun l h => (by cases h), fun l h => (by cases h)⟩
  rw [List.mem_singleton] at ha
  subst ha
  by_cases hx : x = a.au
  · subst hx
    rw [F.own]
    unfold heldN rowOf
    simp
  · rw [F.none x hx]
    exact Nat.zero_le _
theorem own0 (F : FoundOk f) (p : Str) : Own [f] [f] p := by
  refine ⟨Nat.le_refl _, fun a ha hau x => ?_⟩
  rw [List.mem_singleton] at ha
  subst ha
  by_cases hx : x = a.au
  · subst hx
    rw [F.own]
    unfold heldN rowOf
    simp
  · rw [F.none x hx]
    exact Nat.zero_le _
/-! ### the ledger's own look for what is ready -/
def pickN (f : Ltr) (o w : List Ltr) (b : Option Ltr) (x : Str) : Option Ltr := match findW w x (heldN o x + 1) with
  | some l => if can (rollS f o) o l = true then pick b l else b
  | none => b
theorem findW_some {x : Str} {n : Nat} {l : Ltr} (h : findW w x n = some l) : l ∈ w ∧ l.au = x ∧ l.num = n := by
  unfold findW at h
  have h1 := List.mem_of_find?_eq_some h
  have h2 := List.find?_some h
  exact ⟨h1, of_decide_eq_true h2⟩
theorem findW_none {x : Str} {n : Nat} (h : findW w x n = none) : ∀ l ∈ w, ¬ (l.au = x ∧ l.num = n) := fun l hl => by
  unfold findW at h
  have := List.find?_eq_none.mp h l hl
  simpa using this
theorem findW_at (g : GoodR f G o w) {l : Ltr} (hl : l ∈ w) : findW w l.au l.num = some l := by
  cases h : findW w l.au l.num with
  | none => exact absurd ⟨rfl, rfl⟩ (findW_none h l hl)
  | some a =>
    obtain ⟨h1, h2, h3⟩ := findW_some h
    rw [g.inj (g.wG a h1) (g.wG l hl) h2 h3]
theorem foldl_pickN (ns : List Str) : ∀ b, ns.foldl (pickN f o w) b = (ns.filterMap fun x => (findW w x (heldN o x + 1)).filter (can (rollS f o) o)).foldl pick b := by
  induction ns with
  | nil => exact fun _ => rfl
  | cons x r ih =>
    intro b
    rw [List.foldl_cons, ih, List.filterMap_cons]
    unfold pickN
    cases h : findW w x (heldN o x + 1) with
    | none => rfl
    | some l =>
      simp only [Option.filter]
      split
      · rfl
      · rfl
theorem GoodR.keyT (g : GoodR f G o w) : ∀ a ∈ w.filter (can (rollS f o) o), ∀ b ∈ w.filter (can (rollS f o) o), keyLt a b = false → keyLt b a = false → a = b := by
  intro a ha b hb h1 h2
  obtain ⟨a1, a2⟩ := List.mem_filter.mp ha
  obtain ⟨b1, b2⟩ := List.mem_filter.mp hb
  obtain ⟨_, _, a3, _⟩ := can_iff.mp a2
  obtain ⟨_, _, b3, _⟩ := can_iff.mp b2
  have h1' : ¬ keyLt a b = true := by rw [h1]; exact Bool.false_ne_true
  have h2' : ¬ keyLt b a = true := by rw [h2]; exact Bool.false_ne_true
  rw [keyLt_iff] at h1' h2'
  have hs : a.stamp = b.stamp := by omega
  have e1 : slt a.au b.au = false := by
    cases q : slt a.au b.au with
    | false => rfl
    | true => exact absurd (.inr ⟨hs, q⟩) h1'
  have e2 : slt b.au a.au = false := by
    cases q : slt b.au a.au with
    | false => rfl
    | true => exact absurd (.inr ⟨hs.symm, q⟩) h2'
  have hau := slt_total e1 e2
  exact g.inj (g.wG a a1) (g.wG b b1) hau (by rw [a3, b3, hau])
theorem ready_names (g : GoodR f G o w) : (rollS f o).names.foldl (pickN f o w) none = ready f o w := by
  rw [foldl_pickN]
  symm
  refine minL_congr g.keyT fun a => ?_
  rw [List.mem_filter, List.mem_filterMap]
  constructor
  · rintro ⟨h1, h2⟩
    obtain ⟨c1, c2, c3, c4⟩ := can_iff.mp h2
    refine ⟨a.au, c1, ?_⟩
    rw [← c3, findW_at g h1]
    simp [Option.filter, h2]
  · rintro ⟨x, h1, h2⟩
    cases h : findW w x (heldN o x + 1) with
    | none => rw [h] at h2; cases h2
    | some l =>
      rw [h] at h2
      simp only [Option.filter] at h2
      split at h2
      · rename_i q
        cases h2
        exact ⟨(findW_some h).1, q⟩
      · cases h2
theorem ready_uniq (g : GoodR f G o w) {m : Ltr} (h1 : m ∈ w) (h2 : can (rollS f o) o m = true) (h3 : ∀ y ∈ w, can (rollS f o) o y = true → keyLt y m = false) : ready f o w = some m :=
  minL_uniq g.keyT (List.mem_filter.mpr ⟨h1, h2⟩) fun y hy => h3 y (List.mem_filter.mp hy).1 (List.mem_filter.mp hy).2
theorem ready_empty (h : w.filter (can (rollS f o) o) = []) : ready f o w = none := by
  unfold ready
  rw [h]
  rfl
end
end Lo
set_option Elab.async false
set_option maxHeartbeats 4000000
namespace Lo
open PySem (Str)
/-! ### limits grow, and stand once -/
theorem lims_act (R : Roll) (l : Ltr) : ∃ e, (act1 R l).lims = R.lims ++ e := by
  unfold act1 stepR
  cases l.body <;> simp only
  case cut n =>
    split
    · exact ⟨_, rfl⟩
    · exact ⟨[], (List.append_nil _).symm⟩
  case hand n =>
    split
    · exact ⟨[], (List.append_nil _).symm⟩
    · exact ⟨[], (List.append_nil _).symm⟩
  all_goals exact ⟨[], (List.append_nil _).symm⟩
theorem lims_grow (g : Ltr) (o : List Ltr) : ∀ rs : List Ltr, ∃ e, (rollS g (o ++ rs)).lims = (rollS g o).lims ++ e := by
  intro rs
  induction rs generalizing o with
  | nil => exact ⟨[], by rw [List.append_nil, List.append_nil]⟩
  | cons l r ih =>
    obtain ⟨e, he⟩ := ih (o ++ [l])
    obtain ⟨e2, he2⟩ := lims_act (rollS g o) l
    rw [rollS_snoc, he2] at he
    refine ⟨e2 ++ e, ?_⟩
    rw [List.append_assoc] at he
    rw [← List.append_assoc, ← he]
    simp
theorem lims_nd1 {R : Roll} (h : (R.lims.map (·.1)).Nodup) (l : Ltr) : ((act1 R l).lims.map (·.1)).Nodup := by
  unfold act1 stepR
  cases l.body <;> simp only
  case cut n =>
    split
    · rename_i q
      rw [List.map_append, List.map_singleton]
      have hm := q.1
      unfold Roll.mem at hm
      rw [Bool.and_eq_true] at hm
      have hn : R.lim n = none := by simpa using hm.2
      have := lk_none.mp hn
      rw [List.nodup_append]
      refine ⟨h, by simp, fun a ha b hb e => ?_⟩
      rw [List.mem_singleton] at hb
      rw [e, hb] at ha
      exact this ha
    · exact h
  case hand n =>
    split <;> exact h
  all_goals exact h
theorem lims_nd (g : Ltr) (o : List Ltr) : ((rollS g o).lims.map (·.1)).Nodup := by
  unfold rollS
  suffices h : ∀ R : Roll, (R.lims.map (·.1)).Nodup → ((o.foldl act1 R).lims.map (·.1)).Nodup by
    exact h _ List.nodup_nil
  induction o with
  | nil => exact fun _ h => h
  | cons l r ih => exact fun R h => ih _ (lims_nd1 h l)
theorem lk_nd {ls : List (Str × Nat)} (h : (ls.map (·.1)).Nodup) {p : Str × Nat} (hp : p ∈ ls) : lk ls p.1 = some p.2 := by
  induction ls with
  | nil => cases hp
  | cons a r ih =>
    rw [List.map_cons, List.nodup_cons] at h
    rw [lk_cons]
    rcases List.mem_cons.mp hp with rfl | hr
    · rw [if_pos rfl]
    · rw [if_neg, ih h.2 hr]
      intro e
      exact h.1 (List.mem_map.mpr ⟨p, hr, e.symm⟩)
theorem names_nd1 {ns : List Str} (h : ns.Nodup) (x : Str) : (addN ns x).Nodup := by
  unfold addN
  split
  · exact h
  · rename_i q
    rw [List.nodup_append]
    refine ⟨h, by simp, fun a ha b hb e => ?_⟩
    rw [List.mem_singleton] at hb
    rw [e, hb] at ha
    exact q ha
/-! ### runs -/
theorem run_none {g : Ltr} {n : Nat} {o w : List Ltr} (h : ready g o w = none) : run g (n + 1) o w = ([], o, w.filter fun l => !voidR (rollS g o) l) := by
  rw [run, h]
theorem run_some {g : Ltr} {n : Nat} {o w : List Ltr} {l : Ltr} (h : ready g o w = some l) : run g (n + 1) o w = (l :: (run g n (o ++ [l]) (dropR w l)).1, (run g n (o ++ [l]) (dropR w l)).2) := by
  rw [run, h]
theorem voidR_lims {R R' : Roll} (h : R.lims = R'.lims) (l : Ltr) : voidR R l = voidR R' l := by
  unfold voidR Roll.lim
  rw [h]
theorem GoodR.olen {f : Ltr} {G o w : List Ltr} (g : GoodR f G o w) : o.length ≤ G.length := nodup_le (Ord.nodup g) fun _ h => g.sub h
theorem GoodR.wlen {f : Ltr} {G o w : List Ltr} (g : GoodR f G o w) : w.length ≤ G.length := nodup_le g.wnd fun a h => g.wG a h
theorem dropR_sub (w : List Ltr) (l : Ltr) : ∀ a ∈ dropR w l, a ∈ w := fun a h => (List.mem_filter.mp h).1
end Lo
set_option Elab.async false
set_option maxRecDepth 100000
set_option maxHeartbeats 4000000
namespace Lo
open PySem PySem.Spec PyProof.Rows L2
open C8 (Cal Met Mak scC fnScope_by)
def top (i : Nat) : Stmt := PySem.Challenge.pw_lettersonce_k28_whole_ledgers_of_a_room.main.body.getD i (.Pass ⟨0, 0, 0, 0⟩)
/-- a def of the text that has no defaults, at f behind the top -/
structure Src (K : PySem.W.Frag) (x qual : Str) (st : Stmt) (f : Addr) : Prop where
  ex : ∃ fd, FunD K x qual (L2.defArgs st) (L2.defBody st) (L2.defScope st) [] [] f fd
abbrev BindOk (x qual : Str) (st : Stmt) (ps : List Str) : Prop := ∀ (kV doc pm : Value) (an : Option Addr) (cdv ct : Value) (us : List Value), us.length = ps.length →
  bindArgs (PySem.W.fnOf x qual (L2.defArgs st) (L2.defBody st) (L2.defScope st) .none kV doc pm an cdv ct) ⟨us, []⟩ = pure (ps.zip us)
theorem zip_lookup : ∀ {ps : List Str} {us : List Value}, ps.Nodup → us.length = ps.length → ∀ x ∈ ps, ((ps.zip us).lookup x).isSome = true
  | [], _, _, _, x, hx => by cases hx
  | p :: ps, [], _, hl, _, _ => by cases hl
  | p :: ps, u :: us, nd, hl, x, hx => by
    rw [List.zip_cons_cons, List.lookup_cons]
    cases h : x == p with
    | true => rfl
    | false =>
      have hne : x ≠ p := by simpa using h
      rcases List.mem_cons.mp hx with e | hx
      · exact absurd e hne
      · exact zip_lookup (List.nodup_cons.mp nd).2 (by simpa using hl) x hx
theorem fm_congr {α β : Type} {f g : α → Option β} : ∀ {xs : List α}, (∀ x ∈ xs, f x = g x) → xs.filterMap f = xs.filterMap g
  | [], _ => rfl
  | x :: r, h => by
    rw [List.filterMap_cons, List.filterMap_cons, h x List.mem_cons_self, fm_congr fun y hy => h y (List.mem_cons_of_mem _ hy)]
theorem zip_filterMap : ∀ {ps : List Str} {us : List Value}, ps.Nodup → us.length = ps.length → (ps.filterMap fun n => ((ps.zip us).lookup n).map fun v => (n, v)) = ps.zip us
  | [], _, _, _ => rfl
  | p :: ps, [], _, hl => by cases hl
  | p :: ps, u :: us, nd, hl => by
    obtain ⟨h1, h2⟩ := List.nodup_cons.mp nd
    rw [List.zip_cons_cons, List.filterMap_cons]
    have e : (((p, u) :: ps.zip us).lookup p) = some u := by simp
    rw [e]
    show (p, u) :: _ = _
    congr 1
    refine Eq.trans (fm_congr fun x hx => ?_) (zip_filterMap h2 (us := us) (by simpa using hl))
    have hne : (x == p) = false := by
      simp
      rintro rfl
      exact h1 hx
    rw [List.lookup_cons, hne]
theorem bind_gen {fd : FuncData} {as : List Arg} {ps : List Str} {us : List Value} (hp : fd.params = ⟨[], as, none, [], [], none, []⟩) (ha : as.map (·.arg) = ps) (hd : fd.defaults = .none) (nd : ps.Nodup) (hl : us.length = ps.length) :
    bindArgs fd ⟨us, []⟩ = pure (ps.zip us) := by
  unfold bindArgs
  rw [hp, hd]
  simp only [List.map_nil, List.nil_append, ha, hl, List.append_nil]
  have h1 : (ps.filter fun n => ((ps.zip us).lookup n).isNone) = [] := by
    rw [List.filter_eq_nil_iff]
    intro x hx
    have := zip_lookup nd hl x hx
    cases h : (ps.zip us).lookup x with
    | none => rw [h] at this; cases this
    | some v => simp
  simp [seqItems?, h1, zip_filterMap nd hl]
  rfl
theorem bindOk {x qual : Str} {st : Stmt} {ps : List Str} (as : List Arg) (hp : L2.defArgs st = ⟨[], as, none, [], [], none, []⟩) (ha : as.map (·.arg) = ps) (nd : ps.Nodup) : BindOk x qual st ps :=
  fun _ _ _ _ _ _ _ hl => bind_gen (as := as) hp ha rfl nd hl
section
variable {P : Program} {w : World} {K : PySem.W.Frag} {mg : Str → Option Value} {base : Heap} {x qual : Str} {st : Stmt} {f : Addr} {N ps : List Str} {k : Nat} {sp : Sp}
abbrev Body (P : Program) (w : World) (K : PySem.W.Frag) (mg : Str → Option Value) (base : Heap) (N : List Str) (qual : Str) (st : Stmt) (f : Addr) (k : Nat) (sp : Sp) : Prop :=
  ∀ (cdv : Value) (A : Around) (outer : List Env) (s : Shared) (H : Hp) (vs : List V) (Q : VK) (E : XK), Room k (A.deeper (envOfC qual (L2.defScope st) s.heap.objs.size f cdv)) → sp vs H Q E →
      ∃ t, PSs (cxOf CX0 P w K mg base N qual (L2.defScope st) f cdv A outer s H E).nox (L2.defBody st) t ∧ t { nx := fun _ H' => Q .non H', rt := Q } (start N vs) H
theorem src_fn (S : Src K x qual st f) (sc : scC N ps (L2.defScope st) = true) (bi : BindOk x qual st ps) (len : ∀ vs H Q E, sp vs H Q E → vs.length = ps.length) (hb : Body P w K mg base N qual st f k sp) :
    ∃ fd, FnOk P w K mg base CX0 (k + 1) f fd ps sp ∧ Binds K fd ps [] ∧ PySem.W.keepIn K (.ref f) = true := by
  obtain ⟨fd, F⟩ := S.ex
  refine ⟨fd, F.ok (fnScope_by sc) len fun cdv A outer s H vs Q E hr h => ?_, F.bindsN bi, F.kp⟩
  obtain ⟨t, h1, h2⟩ := hb cdv A outer s H vs Q E hr h
  exact ⟨t, h1.nox, h2⟩
theorem met_of {C : Addr} (S : Src K x qual st f) (c : Cls K C) (me : Meth K C x f) (sc : scC N ps (L2.defScope st) = true) (bi : BindOk x qual st ps) (len : ∀ vs H Q E, sp vs H Q E → vs.length = ps.length) (hb : Body P w K mg base N qual st f k sp) :
    Met P w K mg base (k + 1) C x sp [] := by
  obtain ⟨fd, F, b, _⟩ := src_fn S sc bi len hb
  exact ⟨f, fd, ps, [], c, me, F, b, .nil⟩
theorem cal_of (S : Src K x qual st f) (hm : mg x = some (.ref f)) (sc : scC N ps (L2.defScope st) = true) (bi : BindOk x qual st ps) (len : ∀ vs H Q E, sp vs H Q E → vs.length = ps.length) (hb : Body P w K mg base N qual st f k sp) :
    Cal P w K mg base (k + 1) x sp [] := by
  obtain ⟨fd, F, b, kp⟩ := src_fn S sc bi len hb
  exact ⟨f, fd, ps, [], F, hm, kp, b, .nil⟩
theorem mak_of {C : Addr} {y : Str} (S : Src K "__init__" qual st f) (M : Mk K C f) (hm : mg y = some (.ref C)) (sc : scC N ps (L2.defScope st) = true) (bi : BindOk "__init__" qual st ps) (len : ∀ vs H Q E, sp vs H Q E → vs.length = ps.length)
    (hb : Body P w K mg base N qual st f k sp) : Mak P w K mg base (k + 1) y C sp [] := by
  obtain ⟨fd, F, b, _⟩ := src_fn S sc bi len hb
  exact ⟨f, fd, ps, [], M, F, hm, b, .nil⟩
/-- a property of a class -/
structure Prp (P : Program) (w : World) (K : PySem.W.Frag) (mg : Str → Option Value) (base : Heap) (k : Nat) (C : Addr) (x : Str) (sp : Sp) : Prop where
  ex : ∃ (p g : Addr) (fd : FuncData) (ps : List Str), Cls K C ∧ PropOf K C x p g ∧ FnOk P w K mg base CX0 k g fd ps sp ∧ Binds K fd ps []
theorem prp_of {C p : Addr} (S : Src K x qual st f) (c : Cls K C) (hp : PropOf K C x p f) (sc : scC N ps (L2.defScope st) = true) (bi : BindOk x qual st ps) (len : ∀ vs H Q E, sp vs H Q E → vs.length = ps.length) (hb : Body P w K mg base N qual st f k sp) :
    Prp P w K mg base (k + 1) C x sp := by
  obtain ⟨fd, F, b, _⟩ := src_fn S sc bi len hb
  exact ⟨p, f, fd, ps, c, hp, F, b⟩
end
section
variable {X : Cx} {k j : Nat} {C : Addr} {f : Str} {sp : Sp} {e : Expr} {pos : Pos} {ta : TE}
theorem pe_prp (c : Prp X.prog X.w X.K X.mg X.base k C f sp) (hr : Room j X.A) (hk : k + 1 ≤ j) (he : PE X e ta) (hab : attributeBase e f X.env (eval e X.env) = eval e X.env := by rfl) : PE X (.Attribute e f pos) (tProp C sp [] E0 ta) := by
  obtain ⟨p, g, fd, ps, hc, hp, F, b⟩ := c.ex
  exact pe_prop he hc hp F (hr.mono hk) b .nil pass0 hab
end

/-! ### what stands in the heap -/
abbrev cL (K : PySem.W.Frag) : Addr := He.ga K "Letter"
abbrev cR (K : PySem.W.Frag) : Addr := He.ga K "Roll"
abbrev cG (K : PySem.W.Frag) : Addr := He.ga K "Ledger"
def lf (l : Ltr) (ts tb : Addr) : List (Str × V) := [("author", .str l.au), ("number", .int l.num), ("stamp", .int l.stamp), ("seen", .ref ts), ("body", .ref tb)]
def SeenAt (H : Hp) (t : Addr) (seen : List (Str × Nat)) : Prop := ∃ ps : List Addr, H t = some (.tup (ps.map V.ref)) ∧ Paired (fun (p : Addr) (q : Str × Nat) => H p = some (.tup [.str q.1, .int q.2])) ps seen
def bodyV (t1 : Str) (t2 : Option Str) : List V := .str t1 :: (t2.map V.str).toList
def BodyAt (H : Hp) (t : Addr) : Bdy → Prop
  | .found ms => ∃ m, H t = some (.tup [.str "found", .str "room", .ref m]) ∧ H m = some (.tup (ms.map V.str))
  | .say => H t = some (.tup [.str "say", .str "x"])
  | .seen => H t = some (.tup [.str "seen"])
  | .add n => H t = some (.tup [.str "add", .str n])
  | .cut n => H t = some (.tup [.str "cut", .str n])
  | .hand n => H t = some (.tup [.str "hand", .str n])
def LetterAt (C : Addr) (H : Hp) (a : Addr) (l : Ltr) : Prop := ∃ dx ts tb, H a = some (.ins C dx (lf l ts tb)) ∧ SeenAt H ts l.seen ∧ BodyAt H tb l.body
/-- what the walk asks of the top -/
structure Txt (K : PySem.W.Frag) (mg : Str → Option Value) : Prop where
  kL : Cls K (cL K)
  nAu : NoAttr K (cL K) "author"
  nNu : NoAttr K (cL K) "number"
  nSt : NoAttr K (cL K) "stamp"
  nSe : NoAttr K (cL K) "seen"
  nBo : NoAttr K (cL K) "body"
  kR : Cls K (cR K)
  nFo : NoAttr K (cR K) "founder"
  nKe : NoAttr K (cR K) "keeper"
  nCa : NoAttr K (cR K) "_came"
  nLi : NoAttr K (cR K) "_limits"
  kG : Cls K (cG K)
  gFo : NoAttr K (cG K) "founder"
  gRo : NoAttr K (cG K) "_rows"
  gOr : NoAttr K (cG K) "_order"
  gWa : NoAttr K (cG K) "_waiting"
  gRl : NoAttr K (cG K) "_roll"
  gTo : NoAttr K (cG K) "_top"
  neR : cR K ≠ cL K
  neG : cG K ≠ cL K
  len : mg "len" = none
  list : mg "list" = none
  dict : mg "dict" = none
  tuple : mg "tuple" = none
  sorted : mg "sorted" = none
  max : mg "max" = none
  min : mg "min" = none
  sum : mg "sum" = none
  enum : mg "enumerate" = none
  isi : mg "isinstance" = none
  str : mg "str" = none
  int : mg "int" = none
  bool : mg "bool" = none
  range : mg "range" = none
  iter : mg "iter" = none
end Lo
set_option Elab.async false
set_option maxRecDepth 100000
set_option maxHeartbeats 4000000
namespace Lo
open PySem PySem.Spec PyProof.Rows L2
open C8 (Cal Met Mak scC fnScope_by)
abbrev s_is_name : Stmt := top 8
abbrev N_is_name : List Str := ["thing", "char"]
abbrev P_is_name : List Str := ["thing"]
theorem sc_is_name : scC N_is_name P_is_name (L2.defScope s_is_name) = true := by decide +kernel
theorem bi_is_name : BindOk "is_name" "is_name" s_is_name P_is_name := bindOk _ rfl rfl (by decide +kernel)
-- slots: thing 0, char 1
abbrev s_is_number : Stmt := top 9
abbrev N_is_number : List Str := ["thing"]
abbrev P_is_number : List Str := ["thing"]
theorem sc_is_number : scC N_is_number P_is_number (L2.defScope s_is_number) = true := by decide +kernel
theorem bi_is_number : BindOk "is_number" "is_number" s_is_number P_is_number := bindOk _ rfl rfl (by decide +kernel)
-- slots: thing 0
abbrev s_is_plain : Stmt := top 10
abbrev N_is_plain : List Str := ["text", "char"]
abbrev P_is_plain : List Str := ["text"]
theorem sc_is_plain : scC N_is_plain P_is_plain (L2.defScope s_is_plain) = true := by decide +kernel
theorem bi_is_plain : BindOk "is_plain" "is_plain" s_is_plain P_is_plain := bindOk _ rfl rfl (by decide +kernel)
-- slots: text 0, char 1
abbrev s_is_text : Stmt := top 11
abbrev N_is_text : List Str := ["thing"]
abbrev P_is_text : List Str := ["thing"]
theorem sc_is_text : scC N_is_text P_is_text (L2.defScope s_is_text) = true := by decide +kernel
theorem bi_is_text : BindOk "is_text" "is_text" s_is_text P_is_text := bindOk _ rfl rfl (by decide +kernel)
-- slots: thing 0
abbrev s_is_body : Stmt := top 18
abbrev N_is_body : List Str := ["thing", "kind"]
abbrev P_is_body : List Str := ["thing"]
theorem sc_is_body : scC N_is_body P_is_body (L2.defScope s_is_body) = true := by decide +kernel
theorem bi_is_body : BindOk "is_body" "is_body" s_is_body P_is_body := bindOk _ rfl rfl (by decide +kernel)
-- slots: thing 0, kind 1
abbrev s_is_act : Stmt := top 19
abbrev N_is_act : List Str := ["body"]
abbrev P_is_act : List Str := ["body"]
theorem sc_is_act : scC N_is_act P_is_act (L2.defScope s_is_act) = true := by decide +kernel
theorem bi_is_act : BindOk "is_act" "is_act" s_is_act P_is_act := bindOk _ rfl rfl (by decide +kernel)
-- slots: body 0
abbrev s_target : Stmt := top 20
abbrev N_target : List Str := ["body"]
abbrev P_target : List Str := ["body"]
theorem sc_target : scC N_target P_target (L2.defScope s_target) = true := by decide +kernel
theorem bi_target : BindOk "target" "target" s_target P_target := bindOk _ rfl rfl (by decide +kernel)
-- slots: body 0
abbrev s_Letter_init : Stmt := inClass (top 31) 0
abbrev N_Letter_init : List Str := ["self", "author", "number", "stamp", "seen", "body"]
abbrev P_Letter_init : List Str := ["self", "author", "number", "stamp", "seen", "body"]
theorem sc_Letter_init : scC N_Letter_init P_Letter_init (L2.defScope s_Letter_init) = true := by decide +kernel
theorem bi_Letter_init : BindOk "__init__" "Letter.__init__" s_Letter_init P_Letter_init := bindOk _ rfl rfl (by decide +kernel)
-- slots: self 0, author 1, number 2, stamp 3, seen 4, body 5
abbrev s_Letter_ref : Stmt := inClass (top 31) 1
abbrev N_Letter_ref : List Str := ["self"]
abbrev P_Letter_ref : List Str := ["self"]
theorem sc_Letter_ref : scC N_Letter_ref P_Letter_ref (L2.defScope s_Letter_ref) = true := by decide +kernel
theorem bi_Letter_ref : BindOk "ref" "Letter.ref" s_Letter_ref P_Letter_ref := bindOk _ rfl rfl (by decide +kernel)
-- slots: self 0
abbrev s_Letter_key : Stmt := inClass (top 31) 2
abbrev N_Letter_key : List Str := ["self"]
abbrev P_Letter_key : List Str := ["self"]
theorem sc_Letter_key : scC N_Letter_key P_Letter_key (L2.defScope s_Letter_key) = true := by decide +kernel
theorem bi_Letter_key : BindOk "key" "Letter.key" s_Letter_key P_Letter_key := bindOk _ rfl rfl (by decide +kernel)
-- slots: self 0
abbrev s_Letter_count : Stmt := inClass (top 31) 3
abbrev N_Letter_count : List Str := ["self", "name", "author", "count"]
abbrev P_Letter_count : List Str := ["self", "name"]
theorem sc_Letter_count : scC N_Letter_count P_Letter_count (L2.defScope s_Letter_count) = true := by decide +kernel
theorem bi_Letter_count : BindOk "count" "Letter.count" s_Letter_count P_Letter_count := bindOk _ rfl rfl (by decide +kernel)
-- slots: self 0, name 1, author 2, count 3
abbrev s_Letter_has_seen : Stmt := inClass (top 31) 4
abbrev N_Letter_has_seen : List Str := ["self", "ref", "name", "number"]
abbrev P_Letter_has_seen : List Str := ["self", "ref"]
theorem sc_Letter_has_seen : scC N_Letter_has_seen P_Letter_has_seen (L2.defScope s_Letter_has_seen) = true := by decide +kernel
theorem bi_Letter_has_seen : BindOk "has_seen" "Letter.has_seen" s_Letter_has_seen P_Letter_has_seen := bindOk _ rfl rfl (by decide +kernel)
-- slots: self 0, ref 1, name 2, number 3
abbrev s_Letter_value : Stmt := inClass (top 31) 5
abbrev N_Letter_value : List Str := ["self"]
abbrev P_Letter_value : List Str := ["self"]
theorem sc_Letter_value : scC N_Letter_value P_Letter_value (L2.defScope s_Letter_value) = true := by decide +kernel
theorem bi_Letter_value : BindOk "value" "Letter.value" s_Letter_value P_Letter_value := bindOk _ rfl rfl (by decide +kernel)
-- slots: self 0
abbrev s_Roll_init : Stmt := inClass (top 33) 0
abbrev N_Roll_init : List Str := ["self", "founding", "name"]
abbrev P_Roll_init : List Str := ["self", "founding"]
theorem sc_Roll_init : scC N_Roll_init P_Roll_init (L2.defScope s_Roll_init) = true := by decide +kernel
theorem bi_Roll_init : BindOk "__init__" "Roll.__init__" s_Roll_init P_Roll_init := bindOk _ rfl rfl (by decide +kernel)
-- slots: self 0, founding 1, name 2
abbrev s_Roll_members : Stmt := inClass (top 33) 1
abbrev N_Roll_members : List Str := ["self", "name"]
abbrev P_Roll_members : List Str := ["self"]
theorem sc_Roll_members : scC N_Roll_members P_Roll_members (L2.defScope s_Roll_members) = true := by decide +kernel
theorem bi_Roll_members : BindOk "members" "Roll.members" s_Roll_members P_Roll_members := bindOk _ rfl rfl (by decide +kernel)
-- slots: self 0, name 1
abbrev s_Roll_names : Stmt := inClass (top 33) 2
abbrev N_Roll_names : List Str := ["self"]
abbrev P_Roll_names : List Str := ["self"]
theorem sc_Roll_names : scC N_Roll_names P_Roll_names (L2.defScope s_Roll_names) = true := by decide +kernel
theorem bi_Roll_names : BindOk "names" "Roll.names" s_Roll_names P_Roll_names := bindOk _ rfl rfl (by decide +kernel)
-- slots: self 0
abbrev s_Roll_cuts : Stmt := inClass (top 33) 3
abbrev N_Roll_cuts : List Str := ["self"]
abbrev P_Roll_cuts : List Str := ["self"]
theorem sc_Roll_cuts : scC N_Roll_cuts P_Roll_cuts (L2.defScope s_Roll_cuts) = true := by decide +kernel
theorem bi_Roll_cuts : BindOk "cuts" "Roll.cuts" s_Roll_cuts P_Roll_cuts := bindOk _ rfl rfl (by decide +kernel)
-- slots: self 0
abbrev s_Roll_is_known : Stmt := inClass (top 33) 4
abbrev N_Roll_is_known : List Str := ["self", "name"]
abbrev P_Roll_is_known : List Str := ["self", "name"]
theorem sc_Roll_is_known : scC N_Roll_is_known P_Roll_is_known (L2.defScope s_Roll_is_known) = true := by decide +kernel
theorem bi_Roll_is_known : BindOk "is_known" "Roll.is_known" s_Roll_is_known P_Roll_is_known := bindOk _ rfl rfl (by decide +kernel)
-- slots: self 0, name 1
abbrev s_Roll_is_member : Stmt := inClass (top 33) 5
abbrev N_Roll_is_member : List Str := ["self", "name"]
abbrev P_Roll_is_member : List Str := ["self", "name"]
theorem sc_Roll_is_member : scC N_Roll_is_member P_Roll_is_member (L2.defScope s_Roll_is_member) = true := by decide +kernel
theorem bi_Roll_is_member : BindOk "is_member" "Roll.is_member" s_Roll_is_member P_Roll_is_member := bindOk _ rfl rfl (by decide +kernel)
-- slots: self 0, name 1
abbrev s_Roll_limit : Stmt := inClass (top 33) 7
abbrev N_Roll_limit : List Str := ["self", "name"]
abbrev P_Roll_limit : List Str := ["self", "name"]
theorem sc_Roll_limit : scC N_Roll_limit P_Roll_limit (L2.defScope s_Roll_limit) = true := by decide +kernel
theorem bi_Roll_limit : BindOk "limit" "Roll.limit" s_Roll_limit P_Roll_limit := bindOk _ rfl rfl (by decide +kernel)
-- slots: self 0, name 1
abbrev s_Roll_counts : Stmt := inClass (top 33) 8
abbrev N_Roll_counts : List Str := ["self", "ref", "name", "number"]
abbrev P_Roll_counts : List Str := ["self", "ref"]
theorem sc_Roll_counts : scC N_Roll_counts P_Roll_counts (L2.defScope s_Roll_counts) = true := by decide +kernel
theorem bi_Roll_counts : BindOk "counts" "Roll.counts" s_Roll_counts P_Roll_counts := bindOk _ rfl rfl (by decide +kernel)
-- slots: self 0, ref 1, name 2, number 3
abbrev s_Roll_act : Stmt := inClass (top 33) 9
abbrev N_Roll_act : List Str := ["self", "letter", "kind", "name"]
abbrev P_Roll_act : List Str := ["self", "letter"]
theorem sc_Roll_act : scC N_Roll_act P_Roll_act (L2.defScope s_Roll_act) = true := by decide +kernel
theorem bi_Roll_act : BindOk "_act" "Roll._act" s_Roll_act P_Roll_act := bindOk _ rfl rfl (by decide +kernel)
-- slots: self 0, letter 1, kind 2, name 3
abbrev s_first_behind : Stmt := top 34
abbrev N_first_behind : List Str := ["letters", "ref", "index", "letter"]
abbrev P_first_behind : List Str := ["letters", "ref"]
theorem sc_first_behind : scC N_first_behind P_first_behind (L2.defScope s_first_behind) = true := by decide +kernel
theorem bi_first_behind : BindOk "first_behind" "first_behind" s_first_behind P_first_behind := bindOk _ rfl rfl (by decide +kernel)
-- slots: letters 0, ref 1, index 2, letter 3
abbrev s_roll_of : Stmt := top 35
abbrev N_roll_of : List Str := ["founder", "rows", "roll", "letters", "index", "letter"]
abbrev P_roll_of : List Str := ["founder", "rows"]
theorem sc_roll_of : scC N_roll_of P_roll_of (L2.defScope s_roll_of) = true := by decide +kernel
theorem bi_roll_of : BindOk "roll_of" "roll_of" s_roll_of P_roll_of := bindOk _ rfl rfl (by decide +kernel)
-- slots: founder 0, rows 1, roll 2, letters 3, index 4, letter 5
abbrev s_Ledger_init : Stmt := inClass (top 37) 0
abbrev N_Ledger_init : List Str := ["self", "founding"]
abbrev P_Ledger_init : List Str := ["self", "founding"]
theorem sc_Ledger_init : scC N_Ledger_init P_Ledger_init (L2.defScope s_Ledger_init) = true := by decide +kernel
theorem bi_Ledger_init : BindOk "__init__" "Ledger.__init__" s_Ledger_init P_Ledger_init := bindOk _ rfl rfl (by decide +kernel)
-- slots: self 0, founding 1
abbrev s_Ledger_roll : Stmt := inClass (top 37) 1
abbrev N_Ledger_roll : List Str := ["self"]
abbrev P_Ledger_roll : List Str := ["self"]
theorem sc_Ledger_roll : scC N_Ledger_roll P_Ledger_roll (L2.defScope s_Ledger_roll) = true := by decide +kernel
theorem bi_Ledger_roll : BindOk "roll" "Ledger.roll" s_Ledger_roll P_Ledger_roll := bindOk _ rfl rfl (by decide +kernel)
-- slots: self 0
abbrev s_Ledger_top : Stmt := inClass (top 37) 2
abbrev N_Ledger_top : List Str := ["self"]
abbrev P_Ledger_top : List Str := ["self"]
theorem sc_Ledger_top : scC N_Ledger_top P_Ledger_top (L2.defScope s_Ledger_top) = true := by decide +kernel
theorem bi_Ledger_top : BindOk "top" "Ledger.top" s_Ledger_top P_Ledger_top := bindOk _ rfl rfl (by decide +kernel)
-- slots: self 0
abbrev s_Ledger_held : Stmt := inClass (top 37) 3
abbrev N_Ledger_held : List Str := ["self", "name"]
abbrev P_Ledger_held : List Str := ["self", "name"]
theorem sc_Ledger_held : scC N_Ledger_held P_Ledger_held (L2.defScope s_Ledger_held) = true := by decide +kernel
theorem bi_Ledger_held : BindOk "held" "Ledger.held" s_Ledger_held P_Ledger_held := bindOk _ rfl rfl (by decide +kernel)
-- slots: self 0, name 1
abbrev s_Ledger_counts : Stmt := inClass (top 37) 5
abbrev N_Ledger_counts : List Str := ["self", "name"]
abbrev P_Ledger_counts : List Str := ["self"]
theorem sc_Ledger_counts : scC N_Ledger_counts P_Ledger_counts (L2.defScope s_Ledger_counts) = true := by decide +kernel
theorem bi_Ledger_counts : BindOk "counts" "Ledger.counts" s_Ledger_counts P_Ledger_counts := bindOk _ rfl rfl (by decide +kernel)
-- slots: self 0, name 1
abbrev s_Ledger_letter : Stmt := inClass (top 37) 6
abbrev N_Ledger_letter : List Str := ["self", "ref", "name", "number"]
abbrev P_Ledger_letter : List Str := ["self", "ref"]
theorem sc_Ledger_letter : scC N_Ledger_letter P_Ledger_letter (L2.defScope s_Ledger_letter) = true := by decide +kernel
theorem bi_Ledger_letter : BindOk "letter" "Ledger.letter" s_Ledger_letter P_Ledger_letter := bindOk _ rfl rfl (by decide +kernel)
-- slots: self 0, ref 1, name 2, number 3
abbrev s_Ledger_letters : Stmt := inClass (top 37) 7
abbrev N_Ledger_letters : List Str := ["self"]
abbrev P_Ledger_letters : List Str := ["self"]
theorem sc_Ledger_letters : scC N_Ledger_letters P_Ledger_letters (L2.defScope s_Ledger_letters) = true := by decide +kernel
theorem bi_Ledger_letters : BindOk "letters" "Ledger.letters" s_Ledger_letters P_Ledger_letters := bindOk _ rfl rfl (by decide +kernel)
-- slots: self 0
abbrev s_Ledger_waiting : Stmt := inClass (top 37) 8
abbrev N_Ledger_waiting : List Str := ["self"]
abbrev P_Ledger_waiting : List Str := ["self"]
theorem sc_Ledger_waiting : scC N_Ledger_waiting P_Ledger_waiting (L2.defScope s_Ledger_waiting) = true := by decide +kernel
theorem bi_Ledger_waiting : BindOk "waiting" "Ledger.waiting" s_Ledger_waiting P_Ledger_waiting := bindOk _ rfl rfl (by decide +kernel)
-- slots: self 0
abbrev s_Ledger_len : Stmt := inClass (top 37) 9
abbrev N_Ledger_len : List Str := ["self"]
abbrev P_Ledger_len : List Str := ["self"]
theorem sc_Ledger_len : scC N_Ledger_len P_Ledger_len (L2.defScope s_Ledger_len) = true := by decide +kernel
theorem bi_Ledger_len : BindOk "__len__" "Ledger.__len__" s_Ledger_len P_Ledger_len := bindOk _ rfl rfl (by decide +kernel)
-- slots: self 0
abbrev s_Ledger_iter : Stmt := inClass (top 37) 10
abbrev N_Ledger_iter : List Str := ["self"]
abbrev P_Ledger_iter : List Str := ["self"]
theorem sc_Ledger_iter : scC N_Ledger_iter P_Ledger_iter (L2.defScope s_Ledger_iter) = true := by decide +kernel
theorem bi_Ledger_iter : BindOk "__iter__" "Ledger.__iter__" s_Ledger_iter P_Ledger_iter := bindOk _ rfl rfl (by decide +kernel)
-- slots: self 0
abbrev s_Ledger_contains : Stmt := inClass (top 37) 11
abbrev N_Ledger_contains : List Str := ["self", "ref"]
abbrev P_Ledger_contains : List Str := ["self", "ref"]
theorem sc_Ledger_contains : scC N_Ledger_contains P_Ledger_contains (L2.defScope s_Ledger_contains) = true := by decide +kernel
theorem bi_Ledger_contains : BindOk "__contains__" "Ledger.__contains__" s_Ledger_contains P_Ledger_contains := bindOk _ rfl rfl (by decide +kernel)
-- slots: self 0, ref 1
abbrev s_Ledger_take : Stmt := inClass (top 37) 12
abbrev N_Ledger_take : List Str := ["self", "letter", "founding", "known"]
abbrev P_Ledger_take : List Str := ["self", "letter"]
theorem sc_Ledger_take : scC N_Ledger_take P_Ledger_take (L2.defScope s_Ledger_take) = true := by decide +kernel
theorem bi_Ledger_take : BindOk "take" "Ledger.take" s_Ledger_take P_Ledger_take := bindOk _ rfl rfl (by decide +kernel)
-- slots: self 0, letter 1, founding 2, known 3
abbrev s_Ledger_next_letter : Stmt := inClass (top 37) 13
abbrev N_Ledger_next_letter : List Str := ["self", "author", "body", "ref", "number", "counts", "seen", "name"]
abbrev P_Ledger_next_letter : List Str := ["self", "author", "body"]
theorem sc_Ledger_next_letter : scC N_Ledger_next_letter P_Ledger_next_letter (L2.defScope s_Ledger_next_letter) = true := by decide +kernel
theorem bi_Ledger_next_letter : BindOk "next_letter" "Ledger.next_letter" s_Ledger_next_letter P_Ledger_next_letter := bindOk _ rfl rfl (by decide +kernel)
-- slots: self 0, author 1, body 2, ref 3, number 4, counts 5, seen 6, name 7
abbrev s_Ledger_check_act : Stmt := inClass (top 37) 14
abbrev N_Ledger_check_act : List Str := ["self", "author", "body", "kind", "name"]
abbrev P_Ledger_check_act : List Str := ["self", "author", "body"]
theorem sc_Ledger_check_act : scC N_Ledger_check_act P_Ledger_check_act (L2.defScope s_Ledger_check_act) = true := by decide +kernel
theorem bi_Ledger_check_act : BindOk "_check_act" "Ledger._check_act" s_Ledger_check_act P_Ledger_check_act := bindOk _ rfl rfl (by decide +kernel)
-- slots: self 0, author 1, body 2, kind 3, name 4
abbrev s_Ledger_is_void : Stmt := inClass (top 37) 15
abbrev N_Ledger_is_void : List Str := ["self", "letter"]
abbrev P_Ledger_is_void : List Str := ["self", "letter"]
theorem sc_Ledger_is_void : scC N_Ledger_is_void P_Ledger_is_void (L2.defScope s_Ledger_is_void) = true := by decide +kernel
theorem bi_Ledger_is_void : BindOk "_is_void" "Ledger._is_void" s_Ledger_is_void P_Ledger_is_void := bindOk _ rfl rfl (by decide +kernel)
-- slots: self 0, letter 1
abbrev s_Ledger_has_count : Stmt := inClass (top 37) 16
abbrev N_Ledger_has_count : List Str := ["self", "name", "count"]
abbrev P_Ledger_has_count : List Str := ["self", "name", "count"]
theorem sc_Ledger_has_count : scC N_Ledger_has_count P_Ledger_has_count (L2.defScope s_Ledger_has_count) = true := by decide +kernel
theorem bi_Ledger_has_count : BindOk "_has_count" "Ledger._has_count" s_Ledger_has_count P_Ledger_has_count := bindOk _ rfl rfl (by decide +kernel)
-- slots: self 0, name 1, count 2
abbrev s_Ledger_can_hold : Stmt := inClass (top 37) 17
abbrev N_Ledger_can_hold : List Str := ["self", "letter", "name", "count"]
abbrev P_Ledger_can_hold : List Str := ["self", "letter"]
theorem sc_Ledger_can_hold : scC N_Ledger_can_hold P_Ledger_can_hold (L2.defScope s_Ledger_can_hold) = true := by decide +kernel
theorem bi_Ledger_can_hold : BindOk "_can_hold" "Ledger._can_hold" s_Ledger_can_hold P_Ledger_can_hold := bindOk _ rfl rfl (by decide +kernel)
-- slots: self 0, letter 1, name 2, count 3
abbrev s_Ledger_ready : Stmt := inClass (top 37) 18
abbrev N_Ledger_ready : List Str := ["self", "best", "name", "letter"]
abbrev P_Ledger_ready : List Str := ["self"]
theorem sc_Ledger_ready : scC N_Ledger_ready P_Ledger_ready (L2.defScope s_Ledger_ready) = true := by decide +kernel
theorem bi_Ledger_ready : BindOk "_ready" "Ledger._ready" s_Ledger_ready P_Ledger_ready := bindOk _ rfl rfl (by decide +kernel)
-- slots: self 0, best 1, name 2, letter 3
abbrev s_Ledger_hold_all : Stmt := inClass (top 37) 19
abbrev N_Ledger_hold_all : List Str := ["self", "refs", "cuts", "letter"]
abbrev P_Ledger_hold_all : List Str := ["self"]
theorem sc_Ledger_hold_all : scC N_Ledger_hold_all P_Ledger_hold_all (L2.defScope s_Ledger_hold_all) = true := by decide +kernel
theorem bi_Ledger_hold_all : BindOk "_hold_all" "Ledger._hold_all" s_Ledger_hold_all P_Ledger_hold_all := bindOk _ rfl rfl (by decide +kernel)
-- slots: self 0, refs 1, cuts 2, letter 3
abbrev s_Ledger_drop_void : Stmt := inClass (top 37) 20
abbrev N_Ledger_drop_void : List Str := ["self", "ref"]
abbrev P_Ledger_drop_void : List Str := ["self"]
theorem sc_Ledger_drop_void : scC N_Ledger_drop_void P_Ledger_drop_void (L2.defScope s_Ledger_drop_void) = true := by decide +kernel
theorem bi_Ledger_drop_void : BindOk "_drop_void" "Ledger._drop_void" s_Ledger_drop_void P_Ledger_drop_void := bindOk _ rfl rfl (by decide +kernel)
-- slots: self 0, ref 1
abbrev s_Ledger_hold : Stmt := inClass (top 37) 21
abbrev N_Ledger_hold : List Str := ["self", "letter"]
abbrev P_Ledger_hold : List Str := ["self", "letter"]
theorem sc_Ledger_hold : scC N_Ledger_hold P_Ledger_hold (L2.defScope s_Ledger_hold) = true := by decide +kernel
theorem bi_Ledger_hold : BindOk "_hold" "Ledger._hold" s_Ledger_hold P_Ledger_hold := bindOk _ rfl rfl (by decide +kernel)
-- slots: self 0, letter 1
abbrev s_law_stream : Stmt := top 39
abbrev N_law_stream : List Str := ["_law_cell", "_law_k", "_law_digits"]
abbrev P_law_stream : List Str := ["_law_cell", "_law_k"]
theorem sc_law_stream : scC N_law_stream P_law_stream (L2.defScope s_law_stream) = true := by decide +kernel
theorem bi_law_stream : BindOk "_law_stream" "_law_stream" s_law_stream P_law_stream := bindOk _ rfl rfl (by decide +kernel)
-- slots: _law_cell 0, _law_k 1, _law_digits 2
abbrev s_law_next : Stmt := top 40
abbrev N_law_next : List Str := ["_law_stream_here", "_law_size", "_law_drawn"]
abbrev P_law_next : List Str := ["_law_stream_here", "_law_size"]
theorem sc_law_next : scC N_law_next P_law_next (L2.defScope s_law_next) = true := by decide +kernel
theorem bi_law_next : BindOk "_law_next" "_law_next" s_law_next P_law_next := bindOk _ rfl rfl (by decide +kernel)
-- slots: _law_stream_here 0, _law_size 1, _law_drawn 2
abbrev s_law_is : Stmt := top 41
abbrev N_law_is : List Str := ["_law_actual", "_law_due"]
abbrev P_law_is : List Str := ["_law_actual", "_law_due"]
theorem sc_law_is : scC N_law_is P_law_is (L2.defScope s_law_is) = true := by decide +kernel
theorem bi_law_is : BindOk "_law_is" "_law_is" s_law_is P_law_is := bindOk _ rfl rfl (by decide +kernel)
-- slots: _law_actual 0, _law_due 1
abbrev s_law_base : Stmt := top 43
abbrev N_law_base : List Str := ["_law_stream_here", "_law_names", "_law_start", "_law_step", "_law_k"]
abbrev P_law_base : List Str := ["_law_stream_here"]
theorem sc_law_base : scC N_law_base P_law_base (L2.defScope s_law_base) = true := by decide +kernel
theorem bi_law_base : BindOk "_law_base" "_law_base" s_law_base P_law_base := bindOk _ rfl rfl (by decide +kernel)
-- slots: _law_stream_here 0, _law_names 1, _law_start 2, _law_step 3, _law_k 4
abbrev s_law_founding : Stmt := top 44
abbrev N_law_founding : List Str := ["_law_founder", "_law_members"]
abbrev P_law_founding : List Str := ["_law_founder", "_law_members"]
theorem sc_law_founding : scC N_law_founding P_law_founding (L2.defScope s_law_founding) = true := by decide +kernel
theorem bi_law_founding : BindOk "_law_founding" "_law_founding" s_law_founding P_law_founding := bindOk _ rfl rfl (by decide +kernel)
-- slots: _law_founder 0, _law_members 1
abbrev s_law_row : Stmt := top 46
abbrev N_law_row : List Str := ["_law_world", "_law_counts_here", "_law_name"]
abbrev P_law_row : List Str := ["_law_world", "_law_counts_here", "_law_name"]
theorem sc_law_row : scC N_law_row P_law_row (L2.defScope s_law_row) = true := by decide +kernel
theorem bi_law_row : BindOk "_law_row" "_law_row" s_law_row P_law_row := bindOk _ rfl rfl (by decide +kernel)
-- slots: _law_world 0, _law_counts_here 1, _law_name 2
abbrev s_law_after : Stmt := top 47
abbrev N_law_after : List Str := ["_law_row_here", "_law_ref", "_law_index", "_law_letter"]
abbrev P_law_after : List Str := ["_law_row_here", "_law_ref"]
theorem sc_law_after : scC N_law_after P_law_after (L2.defScope s_law_after) = true := by decide +kernel
theorem bi_law_after : BindOk "_law_after" "_law_after" s_law_after P_law_after := bindOk _ rfl rfl (by decide +kernel)
-- slots: _law_row_here 0, _law_ref 1, _law_index 2, _law_letter 3
abbrev s_law_roll : Stmt := top 48
abbrev N_law_roll : List Str := ["_law_world", "_law_counts_here", "_law_keeper", "_law_first", "_law_came", "_law_name", "_law_cuts", "_law_row_here", "_law_index", "_law_turn", "_law_letter", "_law_kind", "_law_fits"]
abbrev P_law_roll : List Str := ["_law_world", "_law_counts_here"]
theorem sc_law_roll : scC N_law_roll P_law_roll (L2.defScope s_law_roll) = true := by decide +kernel
theorem bi_law_roll : BindOk "_law_roll" "_law_roll" s_law_roll P_law_roll := bindOk _ rfl rfl (by decide +kernel)
-- slots: _law_world 0, _law_counts_here 1, _law_keeper 2, _law_first 3, _law_came 4, _law_name 5, _law_cuts 6, _law_row_here 7, _law_index 8, _law_turn 9, _law_letter 10, _law_kind 11, _law_fits 12
abbrev s_law_model : Stmt := top 51
abbrev N_law_model : List Str := ["_law_founding_here", "_law_author"]
abbrev P_law_model : List Str := ["_law_founding_here"]
theorem sc_law_model : scC N_law_model P_law_model (L2.defScope s_law_model) = true := by decide +kernel
theorem bi_law_model : BindOk "_law_model" "_law_model" s_law_model P_law_model := bindOk _ rfl rfl (by decide +kernel)
-- slots: _law_founding_here 0, _law_author 1
abbrev s_law_counts : Stmt := top 52
abbrev N_law_counts : List Str := ["_law_model_here", "_law_counts_here", "_law_name"]
abbrev P_law_counts : List Str := ["_law_model_here"]
theorem sc_law_counts : scC N_law_counts P_law_counts (L2.defScope s_law_counts) = true := by decide +kernel
theorem bi_law_counts : BindOk "_law_counts" "_law_counts" s_law_counts P_law_counts := bindOk _ rfl rfl (by decide +kernel)
-- slots: _law_model_here 0, _law_counts_here 1, _law_name 2
abbrev s_law_void : Stmt := top 53
abbrev N_law_void : List Str := ["_law_roll_here", "_law_letter"]
abbrev P_law_void : List Str := ["_law_roll_here", "_law_letter"]
theorem sc_law_void : scC N_law_void P_law_void (L2.defScope s_law_void) = true := by decide +kernel
theorem bi_law_void : BindOk "_law_void" "_law_void" s_law_void P_law_void := bindOk _ rfl rfl (by decide +kernel)
-- slots: _law_roll_here 0, _law_letter 1
abbrev s_law_can : Stmt := top 54
abbrev N_law_can : List Str := ["_law_model_here", "_law_roll_here", "_law_counts_here", "_law_letter", "_law_name", "_law_count", "_law_least"]
abbrev P_law_can : List Str := ["_law_model_here", "_law_roll_here", "_law_counts_here", "_law_letter"]
theorem sc_law_can : scC N_law_can P_law_can (L2.defScope s_law_can) = true := by decide +kernel
theorem bi_law_can : BindOk "_law_can" "_law_can" s_law_can P_law_can := bindOk _ rfl rfl (by decide +kernel)
-- slots: _law_model_here 0, _law_roll_here 1, _law_counts_here 2, _law_letter 3, _law_name 4, _law_count 5, _law_least 6
abbrev s_law_hold_next : Stmt := top 55
abbrev N_law_hold_next : List Str := ["_law_model_here", "_law_counts_here", "_law_roll_here", "_law_waiting", "_law_ready", "_law_ref", "_law_letter"]
abbrev P_law_hold_next : List Str := ["_law_model_here"]
theorem sc_law_hold_next : scC N_law_hold_next P_law_hold_next (L2.defScope s_law_hold_next) = true := by decide +kernel
theorem bi_law_hold_next : BindOk "_law_hold_next" "_law_hold_next" s_law_hold_next P_law_hold_next := bindOk _ rfl rfl (by decide +kernel)
-- slots: _law_model_here 0, _law_counts_here 1, _law_roll_here 2, _law_waiting 3, _law_ready 4, _law_ref 5, _law_letter 6
abbrev s_law_take : Stmt := top 56
abbrev N_law_take : List Str := ["_law_model_here", "_law_letter", "_law_row_here", "_law_known", "_law_refs", "_law_turn", "_law_ref"]
abbrev P_law_take : List Str := ["_law_model_here", "_law_letter"]
theorem sc_law_take : scC N_law_take P_law_take (L2.defScope s_law_take) = true := by decide +kernel
theorem bi_law_take : BindOk "_law_take" "_law_take" s_law_take P_law_take := bindOk _ rfl rfl (by decide +kernel)
-- slots: _law_model_here 0, _law_letter 1, _law_row_here 2, _law_known 3, _law_refs 4, _law_turn 5, _law_ref 6
abbrev s_law_asked : Stmt := top 57
abbrev N_law_asked : List Str := ["_law_ledger", "_law_letter", "e"]
abbrev P_law_asked : List Str := ["_law_ledger", "_law_letter"]
theorem sc_law_asked : scC N_law_asked P_law_asked (L2.defScope s_law_asked) = true := by decide +kernel
theorem bi_law_asked : BindOk "_law_asked" "_law_asked" s_law_asked P_law_asked := bindOk _ rfl rfl (by decide +kernel)
-- slots: _law_ledger 0, _law_letter 1, e 2
abbrev s_law_same : Stmt := top 58
abbrev N_law_same : List Str := ["_law_ledger", "_law_model_here", "_law_order", "_law_told", "_law_walked", "_law_letter", "_law_k", "_law_counts_here", "_law_name", "_law_turn", "_law_waits"]
abbrev P_law_same : List Str := ["_law_ledger", "_law_model_here"]
theorem sc_law_same : scC N_law_same P_law_same (L2.defScope s_law_same) = true := by decide +kernel
theorem bi_law_same : BindOk "_law_same" "_law_same" s_law_same P_law_same := bindOk _ rfl rfl (by decide +kernel)
-- slots: _law_ledger 0, _law_model_here 1, _law_order 2, _law_told 3, _law_walked 4, _law_letter 5, _law_k 6, _law_counts_here 7, _law_name 8, _law_turn 9, _law_waits 10
abbrev s_law_body : Stmt := top 59
abbrev N_law_body : List Str := ["_law_ledger", "_law_name", "_law_people", "_law_stream_here", "_law_other", "_law_kind", "_law_roll_here"]
abbrev P_law_body : List Str := ["_law_ledger", "_law_name", "_law_people", "_law_stream_here"]
theorem sc_law_body : scC N_law_body P_law_body (L2.defScope s_law_body) = true := by decide +kernel
theorem bi_law_body : BindOk "_law_body" "_law_body" s_law_body P_law_body := bindOk _ rfl rfl (by decide +kernel)
-- slots: _law_ledger 0, _law_name 1, _law_people 2, _law_stream_here 3, _law_other 4, _law_kind 5, _law_roll_here 6
abbrev s_law_pick : Stmt := top 60
abbrev N_law_pick : List Str := ["_law_letters", "_law_stream_here", "_law_kind", "_law_letter", "_law_other"]
abbrev P_law_pick : List Str := ["_law_letters", "_law_stream_here"]
theorem sc_law_pick : scC N_law_pick P_law_pick (L2.defScope s_law_pick) = true := by decide +kernel
theorem bi_law_pick : BindOk "_law_pick" "_law_pick" s_law_pick P_law_pick := bindOk _ rfl rfl (by decide +kernel)
-- slots: _law_letters 0, _law_stream_here 1, _law_kind 2, _law_letter 3, _law_other 4
abbrev s_law_takes : Stmt := top 61
abbrev N_law_takes : List Str := ["_law_pair", "_law_letters", "_law_letter"]
abbrev P_law_takes : List Str := ["_law_pair", "_law_letters"]
theorem sc_law_takes : scC N_law_takes P_law_takes (L2.defScope s_law_takes) = true := by decide +kernel
theorem bi_law_takes : BindOk "_law_takes" "_law_takes" s_law_takes P_law_takes := bindOk _ rfl rfl (by decide +kernel)
-- slots: _law_pair 0, _law_letters 1, _law_letter 2
abbrev s_law_final : Stmt := top 62
abbrev N_law_final : List Str := ["_law_pairs", "_law_letters", "_law_first", "_law_pair", "_law_roll_here", "_law_refs", "_law_letter", "_law_told", "_law_due", "_law_name"]
abbrev P_law_final : List Str := ["_law_pairs", "_law_letters"]
theorem sc_law_final : scC N_law_final P_law_final (L2.defScope s_law_final) = true := by decide +kernel
theorem bi_law_final : BindOk "_law_final" "_law_final" s_law_final P_law_final := bindOk _ rfl rfl (by decide +kernel)
-- slots: _law_pairs 0, _law_letters 1, _law_first 2, _law_pair 3, _law_roll_here 4, _law_refs 5, _law_letter 6, _law_told 7, _law_due 8, _law_name 9
abbrev s_law : Stmt := top 63
abbrev N_law : List Str := ["_law_script", "_law_cell", "_law_stream_here", "_law_people", "_law_founding_here", "_law_pairs", "_law_name", "_law_letters", "_law_k", "_law_place", "_law_ledger", "_law_letter"]
abbrev P_law : List Str := ["_law_script"]
theorem sc_law : scC N_law P_law (L2.defScope s_law) = true := by decide +kernel
theorem bi_law : BindOk "law" "law" s_law P_law := bindOk _ rfl rfl (by decide +kernel)
-- slots: _law_script 0, _law_cell 1, _law_stream_here 2, _law_people 3, _law_founding_here 4, _law_pairs 5, _law_name 6, _law_letters 7, _law_k 8, _law_place 9, _law_ledger 10, _law_letter 11
end Lo
set_option Elab.async false
set_option maxRecDepth 100000
set_option maxHeartbeats 4000000
namespace Lo
open PySem PySem.Spec PyProof.Rows L2
open C8 (Cal Met Mak scC fnScope_by)
/-! ### pairs -/
section
variable {α β : Type} {F : α → β → Prop}
theorem pair_l : ∀ {xs : List α} {ys : List β} {i : Nat} {x : α}, Paired F xs ys → xs[i]? = some x → ∃ y, ys[i]? = some y ∧ F x y
  | _, _, _, _, .nil, h => by simp at h
  | _, _, 0, _, .cons r _, h => by
    simp at h
    subst h
    exact ⟨_, rfl, r⟩
  | _, _, i + 1, _, .cons _ t, h => by
    obtain ⟨y, h1, h2⟩ := pair_l (i := i) t (by simpa using h)
    exact ⟨y, by simpa using h1, h2⟩
theorem pair_r : ∀ {xs : List α} {ys : List β} {i : Nat} {y : β}, Paired F xs ys → ys[i]? = some y → ∃ x, xs[i]? = some x ∧ F x y
  | _, _, _, _, .nil, h => by simp at h
  | _, _, 0, _, .cons r _, h => by
    simp at h
    subst h
    exact ⟨_, rfl, r⟩
  | _, _, i + 1, _, .cons _ t, h => by
    obtain ⟨y, h1, h2⟩ := pair_r (i := i) t (by simpa using h)
    exact ⟨y, by simpa using h1, h2⟩
theorem pair_len {xs : List α} {ys : List β} (h : Paired F xs ys) : xs.length = ys.length := Paired.length h
theorem pair_app {xs xs' : List α} {ys ys' : List β} (h : Paired F xs ys) (h' : Paired F xs' ys') : Paired F (xs ++ xs') (ys ++ ys') := by
  induction h with
  | nil => exact h'
  | cons r _ ih => exact .cons r ih
theorem pair_filter {p : α → Bool} {q : β → Bool} {xs : List α} {ys : List β} (h : Paired F xs ys) (e : ∀ a b, F a b → p a = q b) : Paired F (xs.filter p) (ys.filter q) := by
  induction h with
  | nil => exact .nil
  | @cons a b _ _ r _ ih =>
    rw [List.filter_cons, List.filter_cons, e a b r]
    split
    · exact .cons r ih
    · exact ih
theorem map_get {f : α → β} {xs : List α} {i : Nat} {y : β} (h : (xs.map f)[i]? = some y) : ∃ x, xs[i]? = some x ∧ y = f x := by
  rw [List.getElem?_map] at h
  cases e : xs[i]? with
  | none => rw [e] at h; cases h
  | some x =>
    rw [e] at h
    exact ⟨x, rfl, (Option.some.inj h).symm⟩
end
/-! ### what never changes -/
def isMut (K : PySem.W.Frag) : HO → Bool
  | .lst _ => true
  | .dK _ => true
  | .dT _ => true
  | .ins C _ _ => !decide (C = cL K)
  | _ => false
def Im (K : PySem.W.Frag) (H H' : Hp) : Prop := ∀ b o, H b = some o → isMut K o = false → H' b = some o
section
variable {K : PySem.W.Frag} {H H' H2 : Hp}
theorem Im.refl (H : Hp) : Im K H H := fun _ _ h _ => h
theorem Im.trans (a : Im K H H') (b : Im K H' H2) : Im K H H2 := fun c o h m => b c o (a c o h m) m
theorem Im.same (s : Same H H') : Im K H H' := fun b o h _ => s b o h
theorem Im.set {p : Addr} {o o' : HO} (h : H p = some o) (m : isMut K o = true) : Im K H (upd H p o') := fun b u e q => by
  rw [upd_ne]
  · exact e
  · rintro rfl
    rw [h] at e
    cases e
    rw [m] at q
    cases q
theorem same_new {p : Addr} {o : HO} (h : H p = none) : Same H (upd H p o) := fun b u e => by
  rw [upd_ne (ne_of_none e h)]
  exact e
theorem Im.new {p : Addr} {o : HO} (h : H p = none) : Im K H (upd H p o) := .same (same_new h)
theorem SeenAt.im {t : Addr} {seen : List (Str × Nat)} (i : Im K H H') (h : SeenAt H t seen) : SeenAt H' t seen := by
  obtain ⟨ps, h1, h2⟩ := h
  exact ⟨ps, i _ _ h1 rfl, Paired.mapP h2 fun a b r => i _ _ r rfl⟩
theorem BodyAt.im {t : Addr} {b : Bdy} (i : Im K H H') (h : BodyAt H t b) : BodyAt H' t b := by
  cases b with
  | found ms =>
    obtain ⟨m, h1, h2⟩ := h
    exact ⟨m, i _ _ h1 rfl, i _ _ h2 rfl⟩
  | say => exact i _ _ (show H t = some _ from h) rfl
  | seen => exact i _ _ (show H t = some _ from h) rfl
  | add n => exact i _ _ (show H t = some _ from h) rfl
  | cut n => exact i _ _ (show H t = some _ from h) rfl
  | hand n => exact i _ _ (show H t = some _ from h) rfl
theorem mut_letter (dx : Addr) (fs : List (Str × V)) : isMut K (.ins (cL K) dx fs) = false := by
  unfold isMut
  simp
theorem LetterAt.im {a : Addr} {l : Ltr} (i : Im K H H') (h : LetterAt (cL K) H a l) : LetterAt (cL K) H' a l := by
  obtain ⟨dx, ts, tb, h1, h2, h3⟩ := h
  exact ⟨dx, ts, tb, i _ _ h1 (mut_letter _ _), h2.im i, h3.im i⟩
def Ls (K : PySem.W.Frag) (H : Hp) (as : List Addr) (ls : List Ltr) : Prop := Paired (LetterAt (cL K) H) as ls
theorem Ls.im {as : List Addr} {ls : List Ltr} (i : Im K H H') (h : Ls K H as ls) : Ls K H' as ls := Paired.mapP h fun _ _ r => r.im i
end
/-! ### a roll -/
def rf (fo ke : Str) (dc dl : Addr) : List (Str × V) := [("founder", .str fo), ("keeper", .str ke), ("_came", .ref dc), ("_limits", .ref dl)]
def limK (ls : List (Str × Nat)) : List (Key × V) := ls.map fun p => (Sum.inr p.1, V.int (p.2 : Nat))
structure RollAt (K : PySem.W.Frag) (H : Hp) (r dc dl : Addr) (fo : Str) (R : Roll) : Prop where
  ob : ∃ dx, H r = some (.ins (cR K) dx (rf fo R.keeper dc dl))
  came : ∃ kc : List (Key × V), H dc = some (.dK kc) ∧ kc.map (·.1) = R.names.map Sum.inr
  lims : H dl = some (.dK (limK R.lims))
theorem RollAt.kp {K : PySem.W.Frag} {H H' : Hp} {r dc dl : Addr} {fo : Str} {R : Roll} (h : RollAt K H r dc dl fo R) (k : ∀ b o, H b = some o → b = r ∨ b = dc ∨ b = dl → H' b = some o) : RollAt K H' r dc dl fo R := by
  obtain ⟨⟨dx, h1⟩, ⟨kc, h2, h3⟩, h4⟩ := h
  exact ⟨⟨dx, k _ _ h1 (.inl rfl)⟩, ⟨kc, k _ _ h2 (.inr (.inl rfl)), h3⟩, k _ _ h4 (.inr (.inr rfl))⟩
theorem RollAt.same {K : PySem.W.Frag} {H H' : Hp} {r dc dl : Addr} {fo : Str} {R : Roll} (h : RollAt K H r dc dl fo R) (s : Same H H') : RollAt K H' r dc dl fo R := h.kp fun b o e _ => s b o e
/-! ### tables by texts -/
theorem valV_keys {κ : Type} [DecidableEq κ] (kvs : List (κ × V)) (k : κ) : (valV kvs k).isSome = decide (k ∈ kvs.map (·.1)) := by
  rw [← valV_any]
  induction kvs with
  | nil => rfl
  | cons p r ih =>
    rw [List.any_cons, ih, List.map_cons]
    by_cases e : p.1 = k
    · simp [e]
    · simp [e, Ne.symm e]
theorem inr_mem {x : Str} {ns : List Str} : (Sum.inr x : Key) ∈ ns.map (Sum.inr : Str → Key) ↔ x ∈ ns := by
  rw [List.mem_map]
  constructor
  · rintro ⟨y, h1, h2⟩
    cases h2
    exact h1
  · exact fun h => ⟨x, h, rfl⟩
theorem val_names {kc : List (Key × V)} {ns : List Str} (h : kc.map (·.1) = ns.map Sum.inr) (x : Str) : (valV kc (Sum.inr x : Key)).isSome = decide (x ∈ ns) := by
  rw [valV_keys, h]
  exact decide_eq_decide.mpr inr_mem
theorem val_lims (ls : List (Str × Nat)) (x : Str) : valV (limK ls) (Sum.inr x : Key) = (lk ls x).map fun n => V.int (n : Nat) := by
  induction ls with
  | nil => rfl
  | cons p r ih =>
    rw [lk_cons]
    show valV ((Sum.inr p.1, V.int (p.2 : Nat)) :: limK r) _ = _
    by_cases e : p.1 = x
    · rw [if_pos e, valV_pos (p := (Sum.inr p.1, V.int (p.2 : Nat))) (by rw [e])]
      rfl
    · rw [if_neg e, valV_neg (p := (Sum.inr p.1, V.int (p.2 : Nat))) (fun q => e (Sum.inr.inj q)), ih]
theorem keys_put {κ : Type} [DecidableEq κ] (kvs : List (κ × V)) (k : κ) (v : V) : (putK kvs k v).map (·.1) = if k ∈ kvs.map (·.1) then kvs.map (·.1) else kvs.map (·.1) ++ [k] := by
  have e := valV_keys kvs k
  cases q : valV kvs k with
  | none =>
    rw [q] at e
    have : ¬ k ∈ kvs.map (·.1) := by simpa using e
    rw [if_neg this, putK_new v q, List.map_append]
    rfl
  | some y =>
    rw [q] at e
    have hk : k ∈ kvs.map (·.1) := by simpa using e
    rw [if_pos hk]
    unfold putK
    rw [valV_any, q, if_pos (show (some y).isSome = true from rfl), List.map_map]
    refine List.map_congr_left fun p _ => ?_
    show (if p.1 = k then (p.1, v) else p).1 = p.1
    split <;> rfl
theorem keys_putN {kc : List (Key × V)} {ns : List Str} (h : kc.map (·.1) = ns.map Sum.inr) (x : Str) (v : V) : (putK kc (Sum.inr x : Key) v).map (·.1) = (addN ns x).map Sum.inr := by
  rw [keys_put, h]
  unfold addN
  by_cases e : x ∈ ns
  · rw [if_pos (inr_mem.mpr e), if_pos e]
  · rw [if_neg (fun q => e (inr_mem.mp q)), if_neg e, List.map_append]
    rfl
theorem addN_len (ns : List Str) (x : Str) : (addN ns x).length ≤ ns.length + 1 := by
  unfold addN
  split
  · exact Nat.le_succ _
  · rw [List.length_append]
    exact Nat.le_refl _
theorem addNs_len (ms : List Str) : ∀ ns : List Str, (ms.foldl addN ns).length ≤ ns.length + ms.length := by
  induction ms with
  | nil => exact fun ns => Nat.le_refl _
  | cons m r ih =>
    intro ns
    have h1 := ih (addN ns m)
    have h2 := addN_len ns m
    rw [List.foldl_cons, List.length_cons]
    omega
end Lo
set_option Elab.async false
set_option maxRecDepth 100000
set_option maxHeartbeats 4000000
namespace Lo
open PySem PySem.Spec PyProof.Rows L2
/-! ### loops and comprehensions by one word a turn, over anything that is walked -/
section
variable {J : It} {n : Nat} {g : TG} {tt : TT} {te : TE} {vs : List Nat} {σ : L2.St} {H H1 : Hp} {D : Addr} {Qd : Hp → Prop} {tb : TS} {Dn : Ends}
theorem lc_by (n : Nat) (Pv : Nat → Hp → Prop) (start : Pv 0 (upd H1 D (.lst []))) (goes : ∀ i H, i < n → Pv i H → J.go i H)
    (turn : ∀ i H, i < n → Pv i H → ∀ x H', J.yld i H x H' → g x (wipe σ vs) H' fun σ2 H2 => wipe σ2 vs = wipe σ vs ∧ tt σ2 H2 fun b H3 =>
      if b = true then te σ2 H3 fun y H4 => ∃ acc, H4 D = some (.lst acc) ∧ acc.length < sizeLine ∧ Pv (i + 1) (upd H4 D (.lst (acc ++ [y]))) else Pv (i + 1) H3)
    (ends : ∀ H, Pv n H → J.stop n H ∧ Qd H) :
    ∃ W : Nat → Nat → Hp → Prop, (∃ m, W 0 m (upd H1 D (.lst []))) ∧ ∀ i m H, W i m H → (J.stop i H ∧ Qd H) ∨
      (J.go i H ∧ ∃ Nx : Hp → Prop, (∀ H', Nx H' → ∃ m', m' < m ∧ W (i + 1) m' H') ∧ ∀ x H', J.yld i H x H' → g x (wipe σ vs) H' fun σ2 H2 => wipe σ2 vs = wipe σ vs ∧ tt σ2 H2 fun b H3 =>
        if b = true then te σ2 H3 fun y H4 => ∃ acc, H4 D = some (.lst acc) ∧ acc.length < sizeLine ∧ Nx (upd H4 D (.lst (acc ++ [y]))) else Nx H3) := by
  refine ⟨fun i m H => m + i = n ∧ Pv i H, ⟨n, rfl, start⟩, ?_⟩
  rintro i m H ⟨hm, p⟩
  cases m with
  | zero =>
    have e : i = n := by omega
    subst e
    exact .inl (ends H p)
  | succ m =>
    have hi : i < n := by omega
    exact .inr ⟨goes i H hi p, Pv (i + 1), fun H' p' => ⟨m, Nat.lt_succ_self m, by omega, p'⟩, turn i H hi p⟩
theorem for_by (n : Nat) (Pv : Nat → L2.St → Hp → Prop) (start : Pv 0 σ H) (goes : ∀ i σ H, i < n → Pv i σ H → J.go i H)
    (turn : ∀ i σ H, i < n → Pv i σ H → ∀ x H', J.yld i H x H' → g x σ H' fun σ2 H2 => tb { Dn with nx := Pv (i + 1), ct := Pv (i + 1), bk := Dn.nx } σ2 H2) (ends : ∀ σ H, Pv n σ H → J.stop n H ∧ Dn.nx σ H) :
    ∃ W : Nat → Nat → L2.St → Hp → Prop, (∃ m, W 0 m σ H) ∧ ∀ i m σ H, W i m σ H → (J.stop i H ∧ Dn.nx σ H) ∨
      (J.go i H ∧ ∃ N : L2.St → Hp → Prop, (∀ σ' H', N σ' H' → ∃ m', m' < m ∧ W (i + 1) m' σ' H') ∧ ∀ x H', J.yld i H x H' → g x σ H' fun σ2 H2 => tb { Dn with nx := N, ct := N, bk := Dn.nx } σ2 H2) := by
  refine ⟨fun i m σ H => m + i = n ∧ Pv i σ H, ⟨n, rfl, start⟩, ?_⟩
  rintro i m σ H ⟨hm, p⟩
  cases m with
  | zero =>
    have e : i = n := by omega
    subst e
    exact .inl (ends σ H p)
  | succ m =>
    have hi : i < n := by omega
    exact .inr ⟨goes i σ H hi p, Pv (i + 1), fun σ' H' p' => ⟨m, Nat.lt_succ_self m, by omega, p'⟩, turn i σ H hi p⟩
end
/-! ### d is locked and set free -/
theorem upd_back {H : Hp} {d : Addr} {u o : HO} (h : H d = some u) : upd (upd H d o) d u = H := by
  funext b
  by_cases hb : b = d
  · rw [hb, upd_same, h]
  · rw [upd_ne hb, upd_ne hb]
end Lo
set_option Elab.async false
set_option maxRecDepth 100000
set_option maxHeartbeats 4000000
namespace Lo
open PySem PySem.Spec PyProof.Rows L2
open C8 (Cal Met Mak scC fnScope_by pe_c pe_mk pe_mt pe_mt0)
section
variable {P : Program} {w : World} {K : PySem.W.Frag} {mg : Str → Option Value} {base : Heap} {f : Addr}
/-! ### letters -/
theorem lf_au (l : Ltr) (ts tb : Addr) : (lf l ts tb).lookup ("author" : Str) = some (.str l.au) := rfl
theorem lf_nu (l : Ltr) (ts tb : Addr) : (lf l ts tb).lookup ("number" : Str) = some (.int l.num) := rfl
theorem lf_st (l : Ltr) (ts tb : Addr) : (lf l ts tb).lookup ("stamp" : Str) = some (.int l.stamp) := rfl
theorem lf_se (l : Ltr) (ts tb : Addr) : (lf l ts tb).lookup ("seen" : Str) = some (.ref ts) := rfl
theorem lf_bo (l : Ltr) (ts tb : Addr) : (lf l ts tb).lookup ("body" : Str) = some (.ref tb) := rfl
def spLInit (K : PySem.W.Frag) : Sp := fun vs H Q _ => ∃ (p dx ts tb : Addr) (l : Ltr), vs = [.ref p, .str l.au, .int l.num, .int l.stamp, .ref ts, .ref tb] ∧ H p = some (.ins (cL K) dx []) ∧
  ∀ H' : Hp, H' p = some (.ins (cL K) dx (lf l ts tb)) → (∀ b o, H b = some o → b ≠ p → H' b = some o) → Q .non H'
theorem ok_linit (S : Src K "__init__" "Letter.__init__" s_Letter_init f) (T : Txt K mg) (M : Mk K (cL K) f) (hm : mg "Letter" = some (.ref (cL K))) : Mak P w K mg base 1 "Letter" (cL K) (spLInit K) [] := by
  refine mak_of S M hm sc_Letter_init bi_Letter_init (fun vs H Q E h => ?_) (fun cdv A outer s H vs Q E hr h => ?_)
  · obtain ⟨p, dx, ts, tb, l, rfl, _⟩ := h
    rfl
  · obtain ⟨p, dx, ts, tb, l, rfl, hp, k⟩ := h
    refine ⟨_, pss_cons (ps_fld (pv 0) (pv 1) rfl) (pss_cons (ps_fld (pv 0) (pv 2) rfl) (pss_cons (ps_fld (pv 0) (pv 3) rfl) (pss_cons (ps_fld (pv 0) (pv 4) rfl) (pss_one (ps_fld (pv 0) (pv 5) rfl))))), ?_⟩
    refine ⟨_, rfl, _, rfl, p, _, dx, [], rfl, hp, T.kL, T.nAu, (by show 0 < 1000; decide), ?_⟩
    refine ⟨_, rfl, _, rfl, p, _, dx, _, rfl, upd_same, T.kL, T.nNu, (by show 1 < 1000; decide), ?_⟩
    refine ⟨_, rfl, _, rfl, p, _, dx, _, rfl, upd_same, T.kL, T.nSt, (by show 2 < 1000; decide), ?_⟩
    refine ⟨_, rfl, _, rfl, p, _, dx, _, rfl, upd_same, T.kL, T.nSe, (by show 3 < 1000; decide), ?_⟩
    refine ⟨_, rfl, _, rfl, p, _, dx, _, rfl, upd_same, T.kL, T.nBo, (by show 4 < 1000; decide), ?_⟩
    refine k _ upd_same fun b o e hb => ?_
    rw [upd_ne hb, upd_ne hb, upd_ne hb, upd_ne hb, upd_ne hb]
    exact e
def spRef (K : PySem.W.Frag) : Sp := fun vs H Q _ => ∃ (a : Addr) (l : Ltr), vs = [.ref a] ∧ LetterAt (cL K) H a l ∧ ∀ p, H p = none → Q (.ref p) (upd H p (.tup [.str l.au, .int l.num]))
theorem ok_lref {p : Addr} (S : Src K "ref" "Letter.ref" s_Letter_ref f) (T : Txt K mg) (hp : PropOf K (cL K) "ref" p f) : Prp P w K mg base 1 (cL K) "ref" (spRef K) := by
  refine prp_of S T.kL hp sc_Letter_ref bi_Letter_ref (fun vs H Q E h => ?_) (fun cdv A outer s H vs Q E hr h => ?_)
  · obtain ⟨a, l, rfl, _⟩ := h
    rfl
  · obtain ⟨a, l, rfl, ⟨dx, ts, tb, h1, h2, h3⟩, k⟩ := h
    refine ⟨_, pss_one (ps_ret (pe_tup (pa_cons (pe_fld (pv 0) rfl) (pa_cons (pe_fld (pv 0) rfl) pa_nil)))), ?_⟩
    refine ⟨_, rfl, a, _, dx, _, _, rfl, h1, T.kL, T.nAu, lf_au _ _ _, _, rfl, a, _, dx, _, _, rfl, h1, T.kL, T.nNu, lf_nu _ _ _, (by show 2 ≤ sizeLine; decide), k⟩
def spKey (K : PySem.W.Frag) : Sp := fun vs H Q _ => ∃ (a : Addr) (l : Ltr), vs = [.ref a] ∧ LetterAt (cL K) H a l ∧ ∀ p, H p = none → Q (.ref p) (upd H p (.tup [.int l.stamp, .str l.au]))
theorem ok_lkey {p : Addr} (S : Src K "key" "Letter.key" s_Letter_key f) (T : Txt K mg) (hp : PropOf K (cL K) "key" p f) : Prp P w K mg base 1 (cL K) "key" (spKey K) := by
  refine prp_of S T.kL hp sc_Letter_key bi_Letter_key (fun vs H Q E h => ?_) (fun cdv A outer s H vs Q E hr h => ?_)
  · obtain ⟨a, l, rfl, _⟩ := h
    rfl
  · obtain ⟨a, l, rfl, ⟨dx, ts, tb, h1, h2, h3⟩, k⟩ := h
    refine ⟨_, pss_one (ps_ret (pe_tup (pa_cons (pe_fld (pv 0) rfl) (pa_cons (pe_fld (pv 0) rfl) pa_nil)))), ?_⟩
    refine ⟨_, rfl, a, _, dx, _, _, rfl, h1, T.kL, T.nSt, lf_st _ _ _, _, rfl, a, _, dx, _, _, rfl, h1, T.kL, T.nAu, lf_au _ _ _, (by show 2 ≤ sizeLine; decide), k⟩
def valT (l : Ltr) (ts tb : Addr) : HO := .tup [.str l.au, .int l.num, .int l.stamp, .ref ts, .ref tb]
def spValue (K : PySem.W.Frag) : Sp := fun vs H Q _ => ∃ (a : Addr) (l : Ltr), vs = [.ref a] ∧ LetterAt (cL K) H a l ∧ ∀ ts tb p, SeenAt H ts l.seen → BodyAt H tb l.body → H p = none → Q (.ref p) (upd H p (valT l ts tb))
theorem ok_lvalue (S : Src K "value" "Letter.value" s_Letter_value f) (T : Txt K mg) (m : Meth K (cL K) "value" f) : Met P w K mg base 1 (cL K) "value" (spValue K) [] := by
  refine met_of S T.kL m sc_Letter_value bi_Letter_value (fun vs H Q E h => ?_) (fun cdv A outer s H vs Q E hr h => ?_)
  · obtain ⟨a, l, rfl, _⟩ := h
    rfl
  · obtain ⟨a, l, rfl, ⟨dx, ts, tb, h1, h2, h3⟩, k⟩ := h
    refine ⟨_, pss_one (ps_ret (pe_tup (pa_cons (pe_fld (pv 0) rfl) (pa_cons (pe_fld (pv 0) rfl) (pa_cons (pe_fld (pv 0) rfl) (pa_cons (pe_fld (pv 0) rfl) (pa_cons (pe_fld (pv 0) rfl) pa_nil))))))), ?_⟩
    refine ⟨_, rfl, a, _, dx, _, _, rfl, h1, T.kL, T.nAu, lf_au _ _ _, _, rfl, a, _, dx, _, _, rfl, h1, T.kL, T.nNu, lf_nu _ _ _, _, rfl, a, _, dx, _, _, rfl, h1, T.kL, T.nSt, lf_st _ _ _,
      _, rfl, a, _, dx, _, _, rfl, h1, T.kL, T.nSe, lf_se _ _ _, _, rfl, a, _, dx, _, _, rfl, h1, T.kL, T.nBo, lf_bo _ _ _, (by show 5 ≤ sizeLine; decide), fun p hp => k ts tb p h2 h3 hp⟩
def spCount (K : PySem.W.Frag) : Sp := fun vs H Q _ => ∃ (a : Addr) (l : Ltr) (x : Str), vs = [.ref a, .str x] ∧ LetterAt (cL K) H a l ∧ Q (.int (l.count x : Nat)) H
theorem lk_at {seen : List (Str × Nat)} {x : Str} {i : Nat} {q : Str × Nat} (h : seen[i]? = some q) (hx : q.1 = x) (hn : ∀ j p, j < i → seen[j]? = some p → p.1 ≠ x) : lk seen x = some q.2 := by
  induction seen generalizing i with
  | nil => simp at h
  | cons p r ih =>
    rw [lk_cons]
    cases i with
    | zero =>
      simp at h
      subst h
      rw [if_pos hx]
    | succ i =>
      rw [if_neg (hn 0 p (Nat.succ_pos _) rfl)]
      exact ih (by simpa using h) fun j p' hj hp => hn (j + 1) p' (Nat.succ_lt_succ hj) (by simpa using hp)
theorem lk_not {seen : List (Str × Nat)} {x : Str} (hn : ∀ j p, j < seen.length → seen[j]? = some p → p.1 ≠ x) : lk seen x = none := by
  rw [lk_none]
  intro h
  obtain ⟨p, hp, e⟩ := List.mem_map.mp h
  obtain ⟨j, hj⟩ := List.mem_iff_getElem?.mp hp
  exact hn j p (List.getElem?_eq_some_iff.mp hj).1 hj e
theorem ok_lcount (S : Src K "count" "Letter.count" s_Letter_count f) (T : Txt K mg) (m : Meth K (cL K) "count" f) : Met P w K mg base 1 (cL K) "count" (spCount K) [] := by
  refine met_of S T.kL m sc_Letter_count bi_Letter_count (fun vs H Q E h => ?_) (fun cdv A outer s H vs Q E hr h => ?_)
  · obtain ⟨a, l, x, rfl, _⟩ := h
    rfl
  · obtain ⟨a, l, x, rfl, ⟨dx, ts, tb, h1, ⟨ps, h2, h3⟩, h4⟩, k⟩ := h
    have nd := (fnScope_by sc_Letter_count).nd
    refine ⟨_, pss_cons (ps_for PassesOwn.never rfl (pi_tup (pe_fld (pv 0) rfl)) (pg_tup (by rfl) (pgs_cons (pg_name (i := 2) nd rfl (.inl rfl)) (pgs_cons (pg_name (i := 3) nd rfl (.inl rfl)) pgs_nil)))
        (pss_one (ps_if (pt_cmpR op_eq (pv 2) (pv 1) (nomark _)) (pss_one (ps_ret (pv 3))) pss_nil)))
      (pss_one (ps_ret pe_int)), ?_⟩
    refine ⟨_, rfl, a, _, dx, _, _, rfl, h1, T.kL, T.nSe, lf_se _ _ _, ts, rfl, ⟨_, SqT.of h2⟩, for_tup (K := K) (a := ts) (xs := ps.map V.ref) (fun i σ H2 => ∃ u v : Option V, σ = [some (.ref a), some (.str x), u, v] ∧ H2 = H ∧ ∀ j p, j < i → l.seen[j]? = some p → p.1 ≠ x)
      ⟨none, none, rfl, rfl, fun j p hj => absurd hj (Nat.not_lt_zero _)⟩ ?_ ?_ ?_⟩
    · rintro i σ H2 _ ⟨u, v, rfl, rfl, _⟩
      exact SqT.of h2
    · rintro i y σ H2 hi ⟨u, v, rfl, rfl, hn⟩
      obtain ⟨p, hp, rfl⟩ := map_get hi
      obtain ⟨q, hq, hpq⟩ := pair_l h3 hp
      refine ⟨p, _, rfl, SqT.of hpq, rfl, _, _, rfl, _, _, rfl, rfl, _, rfl, _, rfl, rfl, _, rfl, ?_⟩
      refine ite2 (fun hb => ?_) (fun hb => ?_)
      · have hx : q.1 = x := V.str.inj (of_decide_eq_true hb)
        refine ⟨_, rfl, ?_⟩
        have e : l.count x = q.2 := by unfold Ltr.count; rw [lk_at hq hx hn]; rfl
        rw [e] at k
        exact k
      · have hx : q.1 ≠ x := fun z => hb (decide_eq_true (congrArg V.str z))
        refine ⟨_, _, rfl, rfl, fun j p' hj hp' => ?_⟩
        rcases Nat.lt_or_eq_of_le (Nat.lt_succ_iff.mp hj) with hj | rfl
        · exact hn j p' hj hp'
        · rw [hq] at hp'
          cases hp'
          exact hx
    · rintro σ H2 ⟨u, v, rfl, rfl, hn⟩
      have e : l.count x = 0 := by
        unfold Ltr.count
        rw [lk_not]
        · rfl
        · intro j p hj hp
          exact hn j p (by rw [List.length_map, pair_len h3]; exact hj) hp
      rw [e] at k
      exact k
def spSees (K : PySem.W.Frag) : Sp := fun vs H Q _ => ∃ (a r : Addr) (l b : Ltr), vs = [.ref a, .ref r] ∧ LetterAt (cL K) H a l ∧ H r = some (.tup [.str b.au, .int b.num]) ∧ Q (.bl (l.sees b)) H
theorem ok_lsees (S : Src K "has_seen" "Letter.has_seen" s_Letter_has_seen f) (T : Txt K mg) (m : Meth K (cL K) "has_seen" f) (mc : Met P w K mg base 1 (cL K) "count" (spCount K) []) : Met P w K mg base 2 (cL K) "has_seen" (spSees K) [] := by
  refine met_of S T.kL m sc_Letter_has_seen bi_Letter_has_seen (fun vs H Q E h => ?_) (fun cdv A outer s H vs Q E hr h => ?_)
  · obtain ⟨a, r, l, b, rfl, _⟩ := h
    rfl
  · obtain ⟨a, r, l, b, rfl, hl, hr1, k⟩ := h
    obtain ⟨dx, ts, tb, h1, h2, h3⟩ := id hl
    have nd := (fnScope_by sc_Letter_has_seen).nd
    refine ⟨_, pss_cons (ps_asg (pv 1) (pg_tup (by rfl) (pgs_cons (pg_name (i := 2) nd rfl (.inl rfl)) (pgs_cons (pg_name (i := 3) nd rfl (.inl rfl)) pgs_nil))))
      (pss_one (ps_ret (pe_cmpR op_ge (pe_mt mc hr (by decide) (pv 0) (pa_cons (pv 2) pa_nil)) (pv 3) (nomark _)))), ?_⟩
    refine ⟨_, rfl, r, _, rfl, SqT.of hr1, rfl, _, _, rfl, _, _, rfl, rfl, ?_⟩
    refine ⟨_, rfl, a, dx, _, rfl, h1, rfl, _, rfl, a, l, b.au, rfl, hl, _, rfl, _, _, rfl, rfl, ?_⟩
    have e : decide ((b.num : Int) ≤ (l.count b.au : Nat)) = l.sees b := decide_eq_decide.mpr Int.ofNat_le
    show Q (.bl (decide ((b.num : Int) ≤ (l.count b.au : Nat)))) H
    rw [e]
    exact k
end
end Lo
set_option Elab.async false
set_option maxRecDepth 100000
set_option maxHeartbeats 4000000
namespace Lo
open PySem PySem.Spec PyProof.Rows L2
open C8 (Cal Met Mak scC fnScope_by pe_c pe_mk pe_mt pe_mt0)
/-! ### bodies -/
def kindS : Bdy → Str
  | .found _ => "found"
  | .say => "say"
  | .seen => "seen"
  | .add _ => "add"
  | .cut _ => "cut"
  | .hand _ => "hand"
theorem body_tup {H : Hp} {t : Addr} {b : Bdy} (h : BodyAt H t b) : ∃ r, H t = some (.tup (.str (kindS b) :: r)) := by
  cases b with
  | found ms =>
    obtain ⟨m, h1, h2⟩ := h
    exact ⟨_, h1⟩
  | _ => exact ⟨_, h⟩
theorem in_act (b : Bdy) (l : Ltr) (e : l.body = b) : inV (.str (kindS b)) [.str "add", .str "cut", .str "hand"] = l.act := by
  unfold Ltr.act
  rw [e]
  cases b <;> rfl
theorem act_body {l : Ltr} (h : l.act = true) : ∃ n, l.body = .add n ∨ l.body = .cut n ∨ l.body = .hand n := by
  unfold Ltr.act at h
  cases e : l.body with
  | add n => exact ⟨n, .inl rfl⟩
  | cut n => exact ⟨n, .inr (.inl rfl)⟩
  | hand n => exact ⟨n, .inr (.inr rfl)⟩
  | _ => rw [e] at h; cases h
theorem cls_ne {K : PySem.W.Frag} {C D : Addr} {m : Str} {f : Addr} (h : Meth K C m f) (n : NoAttr K D m) : D ≠ C := by
  rintro rfl
  have := h.at_
  rw [n] at this
  cases this
section
variable {P : Program} {w : World} {K : PySem.W.Frag} {mg : Str → Option Value} {base : Heap} {f : Addr}
theorem rf_fo (fo ke : Str) (dc dl : Addr) : (rf fo ke dc dl).lookup ("founder" : Str) = some (.str fo) := rfl
theorem rf_ke (fo ke : Str) (dc dl : Addr) : (rf fo ke dc dl).lookup ("keeper" : Str) = some (.str ke) := rfl
theorem rf_ca (fo ke : Str) (dc dl : Addr) : (rf fo ke dc dl).lookup ("_came" : Str) = some (.ref dc) := rfl
theorem rf_li (fo ke : Str) (dc dl : Addr) : (rf fo ke dc dl).lookup ("_limits" : Str) = some (.ref dl) := rfl
/-! ### the roll's looks -/
def spKnown (K : PySem.W.Frag) : Sp := fun vs H Q _ => ∃ (r dc dl : Addr) (fo x : Str) (R : Roll), vs = [.ref r, .str x] ∧ RollAt K H r dc dl fo R ∧ Q (.bl (decide (x ∈ R.names))) H
theorem ok_known (S : Src K "is_known" "Roll.is_known" s_Roll_is_known f) (T : Txt K mg) (m : Meth K (cR K) "is_known" f) : Met P w K mg base 1 (cR K) "is_known" (spKnown K) [] := by
  refine met_of S T.kR m sc_Roll_is_known bi_Roll_is_known (fun vs H Q E h => ?_) (fun cdv A outer s H vs Q E hr h => ?_)
  · obtain ⟨r, dc, dl, fo, x, R, rfl, _⟩ := h
    rfl
  · obtain ⟨r, dc, dl, fo, x, R, rfl, ⟨⟨dx, h1⟩, ⟨kc, h2, h3⟩, h4⟩, k⟩ := h
    have hu := hu_of hr
    refine ⟨_, pss_one (ps_ret (pe_cmp (pc_din hu (pv 1) (pe_fld (pv 0) rfl)) rfl)), ?_⟩
    refine ⟨_, rfl, _, rfl, r, _, dx, _, _, rfl, h1, T.kR, T.nCa, rf_ca _ _ _ _, dc, _, rfl, DGet.k (k := Sum.inr x) h2, ?_⟩
    show Q (.bl (valV kc (Sum.inr x : Key)).isSome) H
    rw [val_names h3]
    exact k
def spMember (K : PySem.W.Frag) : Sp := fun vs H Q _ => ∃ (r dc dl : Addr) (fo x : Str) (R : Roll), vs = [.ref r, .str x] ∧ RollAt K H r dc dl fo R ∧ Q (.bl (R.mem x)) H
theorem ok_member (S : Src K "is_member" "Roll.is_member" s_Roll_is_member f) (T : Txt K mg) (m : Meth K (cR K) "is_member" f) : Met P w K mg base 1 (cR K) "is_member" (spMember K) [] := by
  refine met_of S T.kR m sc_Roll_is_member bi_Roll_is_member (fun vs H Q E h => ?_) (fun cdv A outer s H vs Q E hr h => ?_)
  · obtain ⟨r, dc, dl, fo, x, R, rfl, _⟩ := h
    rfl
  · obtain ⟨r, dc, dl, fo, x, R, rfl, ⟨⟨dx, h1⟩, ⟨kc, h2, h3⟩, h4⟩, k⟩ := h
    have hu := hu_of hr
    refine ⟨_, pss_one (ps_ret (pe_and (pe_cmp (pc_din hu (pv 1) (pe_fld (pv 0) rfl)) rfl) (pe_one (pe_cmp (pc_dnotin hu (pv 1) (pe_fld (pv 0) rfl)) rfl)))), ?_⟩
    refine ⟨_, rfl, _, rfl, r, _, dx, _, _, rfl, h1, T.kR, T.nCa, rf_ca _ _ _ _, dc, _, rfl, DGet.k (k := Sum.inr x) h2, _, rfl, ?_⟩
    have e := val_names h3 x
    have e2 := val_lims R.lims x
    unfold Roll.mem Roll.lim at k
    by_cases hx : x ∈ R.names
    · rw [decide_eq_true hx] at e k
      rw [e]
      refine iteT ⟨_, rfl, _, rfl, r, _, dx, _, _, rfl, h1, T.kR, T.nLi, rf_li _ _ _ _, dl, _, rfl, DGet.k (k := Sum.inr x) h4, ?_⟩
      show Q (.bl (!(valV (limK R.lims) (Sum.inr x : Key)).isSome)) H
      rw [e2]
      cases q : lk R.lims x with
      | none => rw [q] at k; exact k
      | some n => rw [q] at k; exact k
    · rw [decide_eq_false hx] at e k
      rw [e]
      exact iteF k
def spLimit (K : PySem.W.Frag) : Sp := fun vs H Q _ => ∃ (r dc dl : Addr) (fo x : Str) (R : Roll), vs = [.ref r, .str x] ∧ RollAt K H r dc dl fo R ∧ x ∈ R.names ∧ Q (((R.lim x).map fun n => V.int (n : Nat)).getD .non) H
theorem ok_limit (S : Src K "limit" "Roll.limit" s_Roll_limit f) (T : Txt K mg) (m : Meth K (cR K) "limit" f) : Met P w K mg base 1 (cR K) "limit" (spLimit K) [] := by
  refine met_of S T.kR m sc_Roll_limit bi_Roll_limit (fun vs H Q E h => ?_) (fun cdv A outer s H vs Q E hr h => ?_)
  · obtain ⟨r, dc, dl, fo, x, R, rfl, _⟩ := h
    rfl
  · obtain ⟨r, dc, dl, fo, x, R, rfl, ⟨⟨dx, h1⟩, ⟨kc, h2, h3⟩, h4⟩, hx, k⟩ := h
    have hu := hu_of hr
    refine ⟨_, pss_cons (ps_if (pt_cmp (pc_dnotin hu (pv 1) (pe_fld (pv 0) rfl))) (pss_one ps_never) pss_nil) (pss_one (ps_ret (pe_dget1 hu (pe_fld (pv 0) rfl) (pv 1) ⟨rfl, rfl, rfl, rfl⟩))), ?_⟩
    refine ⟨_, rfl, _, rfl, r, _, dx, _, _, rfl, h1, T.kR, T.nCa, rf_ca _ _ _ _, dc, _, rfl, DGet.k (k := Sum.inr x) h2, _, rfl, ?_⟩
    have e := val_names h3 x
    rw [decide_eq_true hx] at e
    rw [e]
    refine iteF ⟨_, rfl, r, _, dx, _, _, rfl, h1, T.kR, T.nLi, rf_li _ _ _ _, dl, rfl, .inl ⟨_, .inl h4⟩, _, rfl, _, DGet.k (k := Sum.inr x) h4, ?_⟩
    rw [val_lims]
    exact k
def spRCounts (K : PySem.W.Frag) : Sp := fun vs H Q _ => ∃ (r dc dl t : Addr) (fo : Str) (l : Ltr) (R : Roll), vs = [.ref r, .ref t] ∧ RollAt K H r dc dl fo R ∧ H t = some (.tup [.str l.au, .int l.num]) ∧ Q (.bl (cntsR R l.au l.num)) H
theorem ok_rcounts (S : Src K "counts" "Roll.counts" s_Roll_counts f) (T : Txt K mg) (m : Meth K (cR K) "counts" f) : Met P w K mg base 1 (cR K) "counts" (spRCounts K) [] := by
  refine met_of S T.kR m sc_Roll_counts bi_Roll_counts (fun vs H Q E h => ?_) (fun cdv A outer s H vs Q E hr h => ?_)
  · obtain ⟨r, dc, dl, t, fo, l, R, rfl, _⟩ := h
    rfl
  · obtain ⟨r, dc, dl, t, fo, l, R, rfl, ⟨⟨dx, h1⟩, ⟨kc, h2, h3⟩, h4⟩, ht, k⟩ := h
    have hu := hu_of hr
    have nd := (fnScope_by sc_Roll_counts).nd
    refine ⟨_, pss_cons (ps_asg (pv 1) (pg_tup (by rfl) (pgs_cons (pg_name (i := 2) nd rfl (.inl rfl)) (pgs_cons (pg_name (i := 3) nd rfl (.inl rfl)) pgs_nil))))
      (pss_cons (ps_if (pt_cmp (pc_dnotin hu (pv 2) (pe_fld (pv 0) rfl))) (pss_one (ps_ret pe_bl)) pss_nil)
      (pss_one (ps_ret (pe_or (pe_cmp (pc_dnotin hu (pv 2) (pe_fld (pv 0) rfl)) rfl) (pe_one (pe_cmpR op_le (pv 3) (pe_dget hu (pe_fld (pv 0) rfl) (pv 2) (fun _ _ => rfl)) (nomark _))))))), ?_⟩
    refine ⟨_, rfl, t, _, rfl, SqT.of ht, rfl, _, _, rfl, _, _, rfl, rfl, ?_⟩
    refine ⟨_, rfl, _, rfl, r, _, dx, _, _, rfl, h1, T.kR, T.nCa, rf_ca _ _ _ _, dc, _, rfl, DGet.k (k := Sum.inr l.au) h2, _, rfl, ?_⟩
    have e := val_names h3 l.au
    have e2 := val_lims R.lims l.au
    unfold cntsR Roll.lim at k
    by_cases hx : l.au ∈ R.names
    · rw [decide_eq_true hx] at e k
      rw [e]
      refine iteF ⟨_, rfl, _, rfl, r, _, dx, _, _, rfl, h1, T.kR, T.nLi, rf_li _ _ _ _, dl, _, rfl, DGet.k (k := Sum.inr l.au) h4, _, rfl, ?_⟩
      cases q : lk R.lims l.au with
      | none =>
        rw [q] at k e2
        rw [e2]
        exact iteT k
      | some n =>
        rw [q] at k e2
        rw [e2]
        refine iteF ⟨_, rfl, _, rfl, r, _, dx, _, _, rfl, h1, T.kR, T.nLi, rf_li _ _ _ _, _, rfl, dl, _, rfl, by have := DGet.k (k := Sum.inr l.au) h4; rw [e2] at this; exact this, _, _, rfl, rfl, ?_⟩
        have e3 : decide ((l.num : Int) ≤ (n : Nat)) = decide (l.num ≤ n) := decide_eq_decide.mpr Int.ofNat_le
        show Q (.bl (decide ((l.num : Int) ≤ (n : Nat)))) H
        rw [e3]
        exact k
    · rw [decide_eq_false hx] at e k
      rw [e]
      exact iteT k
def spNames (K : PySem.W.Frag) : Sp := fun vs H Q _ => ∃ (r dc dl : Addr) (fo : Str) (R : Roll), vs = [.ref r] ∧ RollAt K H r dc dl fo R ∧ ∀ p, H p = none → Q (.ref p) (upd H p (.lst (R.names.map V.str)))
theorem keys_strs {kc : List (Key × V)} {ns : List Str} (h : kc.map (·.1) = ns.map Sum.inr) : (kc.map fun kv => kV kv.1) = ns.map V.str := by
  have e : (kc.map fun kv => kV kv.1) = (kc.map (·.1)).map kV := by rw [List.map_map]; rfl
  rw [e, h, List.map_map]
  rfl
theorem ok_names (S : Src K "names" "Roll.names" s_Roll_names f) (T : Txt K mg) (m : Meth K (cR K) "names" f) : Met P w K mg base 1 (cR K) "names" (spNames K) [] := by
  refine met_of S T.kR m sc_Roll_names bi_Roll_names (fun vs H Q E h => ?_) (fun cdv A outer s H vs Q E hr h => ?_)
  · obtain ⟨r, dc, dl, fo, R, rfl, _⟩ := h
    rfl
  · obtain ⟨r, dc, dl, fo, R, rfl, ⟨⟨dx, h1⟩, ⟨kc, h2, h3⟩, h4⟩, k⟩ := h
    refine ⟨_, pss_one (ps_ret (pe_callTy (call_listD rfl) (by rfl) T.list (by decide +kernel) (pa_cons (pe_fld (pv 0) rfl) pa_nil))), ?_⟩
    refine ⟨_, rfl, r, _, dx, _, _, rfl, h1, T.kR, T.nCa, rf_ca _ _ _ _, dc, _, rfl, .inl h2, fun p hp => ?_⟩
    rw [keys_strs h3]
    exact k p hp
def spCuts (K : PySem.W.Frag) : Sp := fun vs H Q _ => ∃ (r dc dl : Addr) (fo : Str) (R : Roll), vs = [.ref r] ∧ RollAt K H r dc dl fo R ∧ ∀ p, H p = none → Q (.ref p) (upd H p (.dK (limK R.lims)))
theorem ok_cuts (S : Src K "cuts" "Roll.cuts" s_Roll_cuts f) (T : Txt K mg) (m : Meth K (cR K) "cuts" f) : Met P w K mg base 1 (cR K) "cuts" (spCuts K) [] := by
  refine met_of S T.kR m sc_Roll_cuts bi_Roll_cuts (fun vs H Q E h => ?_) (fun cdv A outer s H vs Q E hr h => ?_)
  · obtain ⟨r, dc, dl, fo, R, rfl, _⟩ := h
    rfl
  · obtain ⟨r, dc, dl, fo, R, rfl, ⟨⟨dx, h1⟩, ⟨kc, h2, h3⟩, h4⟩, k⟩ := h
    refine ⟨_, pss_one (ps_ret (pe_callTy (call_dictD) (by rfl) T.dict (by decide +kernel) (pa_cons (pe_fld (pv 0) rfl) pa_nil))), ?_⟩
    exact ⟨_, rfl, r, _, dx, _, _, rfl, h1, T.kR, T.nLi, rf_li _ _ _ _, dl, _, rfl, .inl h4, k⟩
def Roll.members (R : Roll) : List Str := R.names.filter fun x => (R.lim x).isNone
def spMembers (K : PySem.W.Frag) : Sp := fun vs H Q _ => ∃ (r dc dl : Addr) (fo : Str) (R : Roll), vs = [.ref r] ∧ RollAt K H r dc dl fo R ∧ R.names.length ≤ 1000 ∧ ∀ p H', H p = none → Same H H' → H' p = some (.lst (R.members.map V.str)) → Q (.ref p) H'
theorem take_succ_filter {α : Type} {p : α → Bool} {xs : List α} {i : Nat} {x : α} (h : xs[i]? = some x) : (xs.take (i + 1)).filter p = (xs.take i).filter p ++ if p x = true then [x] else [] := by
  have hi := (List.getElem?_eq_some_iff.mp h).1
  have e : xs.take (i + 1) = xs.take i ++ [x] := by rw [List.take_add_one, h]; rfl
  rw [e, List.filter_append, List.filter_cons, List.filter_nil]
theorem ok_members (S : Src K "members" "Roll.members" s_Roll_members f) (T : Txt K mg) (m : Meth K (cR K) "members" f) : Met P w K mg base 1 (cR K) "members" (spMembers K) [] := by
  refine met_of S T.kR m sc_Roll_members bi_Roll_members (fun vs H Q E h => ?_) (fun cdv A outer s H vs Q E hr h => ?_)
  · obtain ⟨r, dc, dl, fo, R, rfl, _⟩ := h
    rfl
  · obtain ⟨r, dc, dl, fo, R, rfl, ⟨⟨dx, h1⟩, ⟨kc, h2, h3⟩, h4⟩, hlen, k⟩ := h
    have hu := hu_of hr
    have nd := (fnScope_by sc_Roll_members).nd
    refine ⟨_, pss_one (ps_ret (pe_lock (pe_lc (own := [("name", 1)]) (g := gName 1) (tt := tB (tDNotIn (tVar 1) (tFld K (tVar 0) "_limits"))) (by rfl) nd (pi_keys (pe_fld (pv 0) rfl)) (blkOk_by (N := N_Roll_members) (sc := L2.defScope s_Roll_members) (by decide +kernel))
      (fun _ _ _ _ _ => pg_name (i := 1) nd rfl (Or.inl rfl)) (fun _ _ _ _ _ => pts_one (pt_cmp (pc_dnotin hu (pv 1) (pe_fld (pv 0) rfl)))) (fun _ _ _ _ _ => pv 1)))), ?_⟩
    have ncl : dl ≠ dc ∨ limK R.lims = kc := by
      by_cases e : dl = dc
      · rw [e, h2] at h4
        exact .inr (HO.dK.inj (Option.some.inj h4)).symm
      · exact .inl e
    have hrd : r ≠ dc := ne_of h1 h2 (by intro q; cases q)
    refine ⟨dc, _, h2, trivial, fun od => ?_⟩
    refine ⟨_, rfl, r, _, dx, _, _, rfl, by rw [upd_ne hrd]; exact h1, T.kR, T.nCa, rf_ca _ _ _ _, dc, od, rfl, .inl ⟨kc, upd_same, ?_⟩⟩
    intro D hD
    have hDd : D ≠ dc := fun z => by rw [z, upd_same] at hD; cases hD
    have hD0 : H D = none := by rw [upd_ne hDd] at hD; exact hD
    have hk : kc.length = R.names.length := by have := congrArg List.length h3; rwa [List.length_map, List.length_map] at this
    refine lc_by kc.length (fun i H2 => H2 = upd (upd H dc (.frz od (.dK kc))) D (.lst (((R.names.take i).filter fun x => (R.lim x).isNone).map V.str))) rfl ?_ ?_ ?_
    · rintro i H2 hi rfl
      exact ⟨by rw [upd_ne hDd.symm, upd_same], hi⟩
    · rintro i H2 hi rfl x H' ⟨rfl, key, v, hkv, rfl⟩
      have hx : ∃ x, R.names[i]? = some x ∧ key = Sum.inr x := by
        have e := congrArg (fun z => z[i]?) h3
        simp only [List.getElem?_map, hkv] at e
        cases q : R.names[i]? with
        | none => rw [q] at e; cases e
        | some x => rw [q] at e; exact ⟨x, rfl, Option.some.inj e⟩
      obtain ⟨x, hx, rfl⟩ := hx
      refine ⟨rfl, ?_⟩
      have hrD : r ≠ D := fun z => by rw [← z, h1] at hD0; cases hD0
      have hlD : dl ≠ D := fun z => by rw [← z, h4] at hD0; cases hD0
      have g1 : (upd (upd H dc (.frz od (.dK kc))) D (.lst (((R.names.take i).filter fun x => (R.lim x).isNone).map V.str))) r = some (.ins (cR K) dx (rf fo R.keeper dc dl)) := by rw [upd_ne hrD, upd_ne hrd]; exact h1
      have g2 : DGet (upd (upd H dc (.frz od (.dK kc))) D (.lst (((R.names.take i).filter fun x => (R.lim x).isNone).map V.str))) dl (.str x) (valV (limK R.lims) (Sum.inr x : Key)) := by
        refine .inl ⟨limK R.lims, Sum.inr x, ?_, rfl, rfl⟩
        rcases ncl with z | z
        · exact .inl (by rw [upd_ne hlD, upd_ne z]; exact h4)
        · by_cases z2 : dl = dc
          · exact .inr ⟨od, by rw [upd_ne hlD, z2, upd_same, z]⟩
          · exact .inl (by rw [upd_ne hlD, upd_ne z2]; exact h4)
      refine ⟨_, rfl, _, rfl, r, _, dx, _, _, rfl, g1, T.kR, T.nLi, rf_li _ _ _ _, dl, _, rfl, g2, _, rfl, ?_⟩
      have e2 := val_lims R.lims x
      have ef : (!(valV (limK R.lims) (Sum.inr x : Key)).isSome) = (R.lim x).isNone := by
        rw [e2]
        unfold Roll.lim
        cases lk R.lims x <;> rfl
      rw [ef, take_succ_filter hx]
      cases q : (R.lim x).isNone with
      | true =>
        refine iteT ⟨_, rfl, _, upd_same, ?_, ?_⟩
        · rw [List.length_map]
          refine small1000 (Nat.le_trans (List.length_filter_le _ _) (Nat.le_trans (List.length_take_le _ _) ?_))
          have := (List.getElem?_eq_some_iff.mp hx).1
          omega
        · rw [upd_upd, if_pos rfl, List.map_append]
          rfl
      | false =>
        refine iteF ?_
        rw [if_neg Bool.false_ne_true, List.append_nil]
    · rintro H2 rfl
      have eD : (upd (upd H dc (.frz od (.dK kc))) D (.lst (((R.names.take kc.length).filter fun x => (R.lim x).isNone).map V.str))) dc = some (.frz od (.dK kc)) := by rw [upd_ne hDd.symm, upd_same]
      refine ⟨⟨eD, Nat.le_refl _⟩, eD, ?_⟩
      refine k D _ hD0 (fun b o e => ?_) ?_
      · by_cases hb : b = dc
        · rw [hb, upd_same, ← h2, ← hb]
          exact e
        · rw [upd_ne hb, upd_ne (ne_of_none e hD0), upd_ne hb]
          exact e
      · rw [upd_ne hDd, upd_same, hk, List.take_length]
        rfl
end
end Lo
set_option Elab.async false
set_option maxRecDepth 100000
set_option maxHeartbeats 4000000
namespace Lo
open PySem PySem.Spec PyProof.Rows L2
open C8 (Cal Met Mak scC fnScope_by pe_c pe_mk pe_mt pe_mt0)
section
variable {P : Program} {w : World} {K : PySem.W.Frag} {mg : Str → Option Value} {base : Heap} {f : Addr}
/-! ### Roll(founding) -/
theorem atI0 {x : V} {r : List V} : atI (x :: r) 0 = some x := atI_nat (j := 0) rfl
theorem atI1 {x y : V} {r : List V} : atI (x :: y :: r) 1 = some y := atI_nat (j := 1) rfl
theorem atI2 {x y z : V} {r : List V} : atI (x :: y :: z :: r) 2 = some z := atI_nat (j := 2) rfl
def spRInit (K : PySem.W.Frag) : Sp := fun vs H Q _ => ∃ (r dx a : Addr) (g : Ltr), vs = [.ref r, .ref a] ∧ H r = some (.ins (cR K) dx []) ∧ LetterAt (cL K) H a g ∧ (∃ ms, g.body = .found ms) ∧ g.mems.length ≤ 1000 ∧
  ∀ (dc dl : Addr) (H' : Hp), RollAt K H' r dc dl g.au (R0 g) → H dc = none → H dl = none → (∀ b o, H b = some o → b ≠ r → H' b = some o) → Q .non H'
theorem take_succ_fold {α β : Type} {g : β → α → β} {xs : List α} {i : Nat} {x : α} (b : β) (h : xs[i]? = some x) : (xs.take (i + 1)).foldl g b = g ((xs.take i).foldl g b) x := by
  have e : xs.take (i + 1) = xs.take i ++ [x] := by rw [List.take_add_one, h]; rfl
  rw [e, List.foldl_append]
  rfl
theorem ok_rinit (S : Src K "__init__" "Roll.__init__" s_Roll_init f) (T : Txt K mg) (M : Mk K (cR K) f) (hm : mg "Roll" = some (.ref (cR K))) : Mak P w K mg base 1 "Roll" (cR K) (spRInit K) [] := by
  refine mak_of S M hm sc_Roll_init bi_Roll_init (fun vs H Q E h => ?_) (fun cdv A outer s H vs Q E hr h => ?_)
  · obtain ⟨r, dx, a, g, rfl, _⟩ := h
    rfl
  · obtain ⟨r, dx, a, g, rfl, hr0, ⟨dy, ts, tb, h1, h2, h3⟩, ⟨ms, hb⟩, hlen, k⟩ := h
    have hu := hu_of hr
    have nd := (fnScope_by sc_Roll_init).nd
    have em : g.mems = ms := by unfold Ltr.mems; rw [hb]
    rw [hb] at h3
    obtain ⟨m, h3, h4⟩ := h3
    refine ⟨_, pss_cons (ps_fld (pv 0) (pe_fld (pv 1) rfl) rfl) (pss_cons (ps_fld (pv 0) (pe_fld (pv 1) rfl) rfl)
      (pss_cons (ps_fld (pv 0) (pe_disp (pps_cons (pe_fld (pv 1) rfl) (pv 1) pps_nil) (by rfl) (by rfl) (fun z => by cases z) (by decide)) rfl)
      (pss_cons (ps_fld (pv 0) pe_dnewK rfl)
      (pss_one (ps_for PassesOwn.never rfl (pi_tup (pe_ix ix_tup (pe_fld (pv 1) rfl) pe_int (fun _ _ => rfl))) (pg_name (i := 2) nd rfl (.inl rfl))
        (pss_one (ps_dput hu (pe_fld (pv 0) rfl) (pv 2) (pv 1) rfl))))))), ?_⟩
    have hra : r ≠ a := by
      intro e
      rw [e, h1] at hr0
      have := HO.ins.inj (Option.some.inj hr0)
      exact T.neR this.1.symm
    have up : ∀ {H1 : Hp} {o : HO}, H1 a = some (.ins (cL K) dy (lf g ts tb)) → (upd H1 r o) a = some (.ins (cL K) dy (lf g ts tb)) := fun h => by rw [upd_ne hra.symm]; exact h
    refine ⟨_, rfl, a, _, dy, _, _, rfl, h1, T.kL, T.nAu, lf_au _ _ _, _, rfl, r, _, dx, [], rfl, hr0, T.kR, T.nFo, (by show 0 < 1000; decide), ?_⟩
    refine ⟨_, rfl, a, _, dy, _, _, rfl, up h1, T.kL, T.nAu, lf_au _ _ _, _, rfl, r, _, dx, _, rfl, upd_same, T.kR, T.nKe, (by show 1 < 1000; decide), ?_⟩
    intro dc hdc
    have hcr : dc ≠ r := fun z => by rw [z, upd_same] at hdc; cases hdc
    have hdc0 : H dc = none := by rw [upd_ne hcr, upd_ne hcr] at hdc; exact hdc
    have hca : dc ≠ a := fun z => by rw [z, h1] at hdc0; cases hdc0
    refine ⟨_, rfl, a, _, dy, _, _, rfl, by rw [upd_ne hca.symm]; exact up (up h1), T.kL, T.nAu, lf_au _ _ _, _, rfl, upd_same, [(Sum.inr g.au, .ref a)], rfl, (by show 1 ≤ 15; decide), ?_⟩
    refine ⟨_, rfl, r, _, dx, _, rfl, by rw [upd_ne hcr.symm, upd_ne hcr.symm, upd_same], T.kR, T.nCa, (by show 2 < 1000; decide), ?_⟩
    intro dl hdl
    have hlr : dl ≠ r := fun z => by rw [z, upd_same] at hdl; cases hdl
    have hlc : dl ≠ dc := fun z => by rw [z, upd_ne hcr, upd_same] at hdl; cases hdl
    have hdl0 : H dl = none := by rw [upd_ne hlr, upd_ne hlc, upd_ne hlc, upd_ne hlr, upd_ne hlr] at hdl; exact hdl
    have hla : dl ≠ a := fun z => by rw [z, h1] at hdl0; cases hdl0
    refine ⟨_, rfl, r, _, dx, _, rfl, by rw [upd_ne hlr.symm, upd_same], T.kR, T.nLi, (by show 3 < 1000; decide), ?_⟩
    -- what stands in the loop
    have base1 : ∀ {b : Addr} {o : HO}, H b = some o → b ≠ r → (upd (upd (upd (upd (upd (upd (upd H r (.ins (cR K) dx (putF "founder" (.str g.au) []))) r (.ins (cR K) dx (putF "keeper" (.str g.au) (putF "founder" (.str g.au) [])))) dc (.dK []))
        dc (.dK (mergeK [] [(Sum.inr g.au, .ref a)]))) r (.ins (cR K) dx (putF "_came" (.ref dc) (putF "keeper" (.str g.au) (putF "founder" (.str g.au) []))))) dl (.dK [])) r (.ins (cR K) dx (putF "_limits" (.ref dl) (putF "_came" (.ref dc) (putF "keeper" (.str g.au) (putF "founder" (.str g.au) [])))))) b = some o := by
      intro b o e hb
      rw [upd_ne hb, upd_ne (ne_of_none e hdl0), upd_ne hb, upd_ne (ne_of_none e hdc0), upd_ne (ne_of_none e hdc0), upd_ne hb, upd_ne hb]
      exact e
    have ntb : tb ≠ r := ne_of h3 hr0 (by intro q; cases q)
    have nm : m ≠ r := ne_of h4 hr0 (by intro q; cases q)
    generalize hH1 : (upd (upd (upd (upd (upd (upd (upd H r (.ins (cR K) dx (putF "founder" (.str g.au) []))) r (.ins (cR K) dx (putF "keeper" (.str g.au) (putF "founder" (.str g.au) [])))) dc (.dK []))
        dc (.dK (mergeK [] [(Sum.inr g.au, .ref a)]))) r (.ins (cR K) dx (putF "_came" (.ref dc) (putF "keeper" (.str g.au) (putF "founder" (.str g.au) []))))) dl (.dK [])) r (.ins (cR K) dx (putF "_limits" (.ref dl) (putF "_came" (.ref dc) (putF "keeper" (.str g.au) (putF "founder" (.str g.au) [])))))) = H1 at base1
    have e1 : H1 r = some (.ins (cR K) dx (rf g.au g.au dc dl)) := by rw [← hH1, upd_same]; rfl
    have e2 : H1 dc = some (.dK [(Sum.inr g.au, .ref a)]) := by rw [← hH1, upd_ne hcr, upd_ne hlc.symm, upd_ne hcr, upd_same]; rfl
    have e3 : H1 dl = some (.dK []) := by rw [← hH1, upd_ne hlr, upd_same]
    refine ⟨_, rfl, a, _, dy, _, _, rfl, base1 h1 hra.symm, T.kL, T.nBo, lf_bo _ _ _, tb, _, _, _, rfl, rfl, SqT.of (base1 h3 ntb), atI2, m, rfl, ⟨_, SqT.of (base1 h4 nm)⟩, ?_⟩
    refine for_tup (K := K) (a := m) (xs := ms.map V.str) (fun i σ H2 => ∃ (v : Option V) (kc : List (Key × V)), σ = [some (.ref r), some (.ref a), v] ∧ H2 = upd H1 dc (.dK kc) ∧ kc.map (·.1) = ((ms.take i).foldl addN [g.au]).map Sum.inr)
      ⟨none, [(Sum.inr g.au, .ref a)], rfl, ?_, rfl⟩ ?_ ?_ ?_
    · funext b
      by_cases hb : b = dc
      · rw [hb, upd_same, e2]
      · rw [upd_ne hb]
    · rintro i σ H2 _ ⟨v, kc, rfl, rfl, hk⟩
      refine SqT.of ?_
      rw [upd_ne (fun z => by rw [z] at h4; rw [h4] at hdc0; cases hdc0)]
      exact base1 h4 nm
    · rintro i y σ H2 hi ⟨v, kc, rfl, rfl, hk⟩
      obtain ⟨x, hx, rfl⟩ := map_get hi
      have hl : kc.length < sizeLine := by
        have e := congrArg List.length hk
        rw [List.length_map, List.length_map] at e
        have h5 := addNs_len (ms.take i) [g.au]
        have h6 := (List.getElem?_eq_some_iff.mp hx).1
        rw [List.length_take, List.length_singleton] at h5
        rw [em] at hlen
        rw [sizeLine_eq]
        omega
      refine ⟨_, rfl, _, rfl, r, _, dx, _, _, rfl, by rw [upd_ne hcr.symm]; exact e1, T.kR, T.nCa, rf_ca _ _ _ _, _, rfl, dc, _, rfl, DPut.k (k := Sum.inr x) upd_same hl, ?_⟩
      refine ⟨_, _, rfl, upd_upd, ?_⟩
      rw [keys_putN hk, take_succ_fold _ hx]
    · rintro σ H2 ⟨v, kc, rfl, rfl, hk⟩
      rw [List.length_map, List.take_length] at hk
      refine k dc dl _ ⟨⟨dx, by rw [upd_ne hcr.symm]; exact e1⟩, ⟨kc, upd_same, ?_⟩, by rw [upd_ne hlc]; exact e3⟩ hdc0 hdl0 fun b o e hb => by rw [upd_ne (ne_of_none e hdc0)]; exact base1 e hb
      unfold R0
      rw [em]
      exact hk
/-! ### an act -/
def spAct (K : PySem.W.Frag) : Sp := fun vs H Q _ => ∃ (r dc dl a : Addr) (fo : Str) (l : Ltr) (R : Roll), vs = [.ref r, .ref a] ∧ RollAt K H r dc dl fo R ∧ dc ≠ dl ∧ LetterAt (cL K) H a l ∧ R.names.length ≤ 1000 ∧ R.lims.length ≤ 1000 ∧
  ∀ H' : Hp, RollAt K H' r dc dl fo (act1 R l) → (∀ b o, H b = some o → b ≠ r → b ≠ dc → b ≠ dl → H' b = some o) → Q (.bl (stepR R l).2) H'
theorem keys_len {R : Roll} {kc : List (Key × V)} (h : kc.map (·.1) = R.names.map Sum.inr) : kc.length = R.names.length := by
  have := congrArg List.length h
  rwa [List.length_map, List.length_map] at this
theorem ok_act (S : Src K "_act" "Roll._act" s_Roll_act f) (T : Txt K mg) (m : Meth K (cR K) "_act" f) (mm : Met P w K mg base 1 (cR K) "is_member" (spMember K) []) (mc : Met P w K mg base 1 (cL K) "count" (spCount K) []) :
    Met P w K mg base 2 (cR K) "_act" (spAct K) [] := by
  refine met_of S T.kR m sc_Roll_act bi_Roll_act (fun vs H Q E h => ?_) (fun cdv A outer s H vs Q E hr h => ?_)
  · obtain ⟨r, dc, dl, a, fo, l, R, rfl, _⟩ := h
    rfl
  · obtain ⟨r, dc, dl, a, fo, l, R, rfl, RA, hcl, LA, hn, hl, k⟩ := h
    obtain ⟨⟨dx, h1⟩, ⟨kc, h2, h3⟩, h4⟩ := id RA
    obtain ⟨dy, ts, tb, a1, a2, a3⟩ := id LA
    have hu := hu_of hr
    have nd := (fnScope_by sc_Roll_act).nd
    refine ⟨_, pss_cons (ps_set (i := 2) nd rfl (.inl rfl) (pe_ix ix_tup (pe_fld (pv 1) rfl) pe_int (fun _ _ => rfl)))
      (pss_cons (ps_if (pt_cmpR op_notIn_seq (pv 2) (pe_tup (pa_cons pe_str (pa_cons pe_str (pa_cons pe_str pa_nil)))) (by rfl)) (pss_one (ps_ret pe_bl)) pss_nil)
      (pss_cons (ps_set (i := 3) nd rfl (.inl rfl) (pe_ix ix_tup (pe_fld (pv 1) rfl) pe_int (fun _ _ => rfl)))
      (pss_cons (ps_if (pt_cmpR op_eq (pv 2) pe_str (nomark _))
        (pss_one (ps_if (pt_cmp (pc_dnotin hu (pv 3) (pe_fld (pv 0) rfl))) (pss_one (ps_dput hu (pe_fld (pv 0) rfl) (pv 3) (pv 1) rfl)) pss_nil))
        (pss_one (ps_if (PW.pt (pw_and (pt_val (pe_mt mm hr (by decide) (pv 0) (pa_cons (pv 3) pa_nil))) (pw_and1 (pt_cmpR op_ne (pv 3) (pe_fld (pv 0) rfl) (nomark _)))))
          (pss_cons (ps_if (pt_cmpR op_eq (pv 2) pe_str (nomark _)) (pss_cons (ps_fld (pv 0) (pv 3) rfl) (pss_one (ps_ret pe_bl))) pss_nil)
          (pss_one (ps_dput hu (pe_fld (pv 0) rfl) (pv 3) (pe_mt mc hr (by decide) (pv 1) (pa_cons (pv 3) pa_nil)) rfl))) pss_nil)))
      (pss_one (ps_ret pe_bl))))), ?_⟩
    obtain ⟨rest, b1⟩ := body_tup a3
    refine ⟨_, rfl, a, _, dy, _, _, rfl, a1, T.kL, T.nBo, lf_bo _ _ _, tb, _, _, _, rfl, rfl, SqT.of b1, atI0, ?_⟩
    refine ⟨_, rfl, (by show 3 ≤ sizeLine; decide), fun p hp => ⟨p, _, rfl, .inr (SqT.of upd_same), rfl, rfl, _, rfl, ?_⟩⟩
    have sp : Same H (upd H p (.tup [.str "add", .str "cut", .str "hand"])) := same_new hp
    generalize upd H p (.tup [.str "add", .str "cut", .str "hand"]) = H1 at sp
    have k1 : ∀ H' : Hp, RollAt K H' r dc dl fo (act1 R l) → (∀ b o, H1 b = some o → b ≠ r → b ≠ dc → b ≠ dl → H' b = some o) → Q (.bl (stepR R l).2) H' := fun H' a b => k H' a fun c o e => b c o (sp c o e)
    show if (!inV (.str (kindS l.body)) [.str "add", .str "cut", .str "hand"]) = true then _ else _
    rw [in_act l.body l rfl]
    cases hact : l.act with
    | false =>
      refine iteT ?_
      rw [stepR_no hact] at k1
      refine k1 H1 ?_ fun b o e _ _ _ => e
      rw [act1_no hact]
      exact RA.same sp
    | true =>
      refine iteF ?_
      obtain ⟨n, hn3⟩ := act_body hact
      have b2 : H tb = some (.tup [.str (kindS l.body), .str n]) := by
        rcases hn3 with e | e | e <;> rw [e] at a3 ⊢ <;> exact a3
      refine ⟨_, rfl, a, _, dy, _, _, rfl, sp _ _ a1, T.kL, T.nBo, lf_bo _ _ _, tb, _, _, _, rfl, rfl, SqT.of (sp _ _ b2), atI1, ?_⟩
      refine ⟨_, rfl, rfl, _, rfl, ?_⟩
      have RA1 := RA.same sp
      have LA1 := LA.im (Im.same (K := K) sp)
      have eN := val_names h3 n
      have eL := val_lims R.lims n
      rcases hn3 with e | e | e
      · -- add
        rw [e]
        refine iteT ⟨_, rfl, _, rfl, r, _, dx, _, _, rfl, sp _ _ h1, T.kR, T.nCa, rf_ca _ _ _ _, dc, _, rfl, DGet.k (k := Sum.inr n) (sp _ _ h2), _, rfl, ?_⟩
        have es : stepR R l = ({ R with names := addN R.names n }, false) := by unfold stepR; rw [e]
        rw [es] at k1
        by_cases hx : n ∈ R.names
        · rw [decide_eq_true hx] at eN
          rw [eN]
          refine iteF ?_
          refine k1 H1 ?_ fun b o e _ _ _ => e
          have : act1 R l = R := by
            unfold act1
            rw [es]
            show ({ R with names := addN R.names n } : Roll) = R
            unfold addN
            rw [if_pos hx]
          rw [this]
          exact RA1
        · rw [decide_eq_false hx] at eN
          rw [eN]
          have hlen : kc.length < sizeLine := by
            rw [keys_len h3]
            exact small1000 hn
          refine iteT ⟨_, rfl, _, rfl, r, _, dx, _, _, rfl, sp _ _ h1, T.kR, T.nCa, rf_ca _ _ _ _, _, rfl, dc, _, rfl, DPut.k (k := Sum.inr n) (sp _ _ h2) hlen, ?_⟩
          have hrc : r ≠ dc := ne_of h1 h2 (by intro q; cases q)
          have ea : act1 R l = { R with names := addN R.names n } := by unfold act1; rw [es]
          rw [ea] at k1
          exact k1 _ ⟨⟨dx, by rw [upd_ne hrc]; exact sp _ _ h1⟩, ⟨_, upd_same, keys_putN h3 n _⟩, by rw [upd_ne hcl.symm]; exact sp _ _ h4⟩ fun b o e _ hb _ => by rw [upd_ne hb]; exact e
      · -- cut
        rw [e]
        refine iteF ⟨_, rfl, r, dx, _, rfl, sp _ _ h1, rfl, _, rfl, r, dc, dl, fo, n, R, rfl, RA1, _, rfl, ?_⟩
        have es : stepR R l = if R.mem n = true ∧ n ≠ R.keeper then ({ R with lims := R.lims ++ [(n, l.count n)] }, false) else (R, false) := by unfold stepR; rw [e]
        have no : ¬ (R.mem n = true ∧ n ≠ R.keeper) → Q (.bl false) H1 := fun q => by
          have ea : act1 R l = R := by unfold act1; rw [es, if_neg q]
          rw [es, if_neg q] at k1
          rw [ea] at k1
          exact k1 H1 RA1 fun b o e _ _ _ => e
        cases hm : R.mem n with
        | false => exact iteF (iteF (no fun q => by rw [hm] at q; cases q.1))
        | true =>
          refine iteT ⟨_, rfl, _, rfl, r, _, dx, _, _, rfl, sp _ _ h1, T.kR, T.nKe, rf_ke _ _ _ _, rfl, _, rfl, ?_⟩
          refine ite2 (fun hne => ?_) (fun hne => ?_)
          · have hk : n ≠ R.keeper := fun q => by rw [q] at hne; simp at hne
            refine ⟨_, rfl, rfl, _, rfl, iteF ?_⟩
            refine ⟨_, rfl, a, dy, _, rfl, sp _ _ a1, rfl, _, rfl, a, l, n, rfl, LA1, _, rfl, r, _, dx, _, _, rfl, sp _ _ h1, T.kR, T.nLi, rf_li _ _ _ _, _, rfl, dl, _, rfl, DPut.k (k := Sum.inr n) (sp _ _ h4) (by
              show (R.lims.map _).length < _
              rw [List.length_map]
              exact small1000 hl), ?_⟩
            have ec : (R.mem n = true ∧ n ≠ R.keeper) := ⟨hm, hk⟩
            have ea : act1 R l = { R with lims := R.lims ++ [(n, l.count n)] } := by unfold act1; rw [es, if_pos ec]
            rw [es, if_pos ec, ea] at k1
            have hrl : r ≠ dl := ne_of h1 h4 (by intro q; cases q)
            refine k1 _ ⟨⟨dx, by rw [upd_ne hrl]; exact sp _ _ h1⟩, ⟨kc, by rw [upd_ne hcl]; exact sp _ _ h2, h3⟩, ?_⟩ fun b o e _ _ hb => by rw [upd_ne hb]; exact e
            have hnone : valV (limK R.lims) (Sum.inr n : Key) = none := by
              rw [eL]
              have : R.lim n = none := (mem_iff.mp hm).2
              show (Roll.lim R n).map _ = none
              rw [this]
              rfl
            show upd H1 dl (.dK (putK (limK R.lims) (Sum.inr n) _)) dl = _
            rw [upd_same, putK_new _ hnone]
            show some (HO.dK (limK R.lims ++ _)) = some (.dK (limK (R.lims ++ [(n, l.count n)])))
            unfold limK
            rw [List.map_append]
            rfl
          · refine no fun q => hne ?_
            have : ¬ V.str n = V.str R.keeper := fun z => q.2 (V.str.inj z)
            rw [decide_eq_false this]
            rfl
      · -- hand
        rw [e]
        refine iteF ⟨_, rfl, r, dx, _, rfl, sp _ _ h1, rfl, _, rfl, r, dc, dl, fo, n, R, rfl, RA1, _, rfl, ?_⟩
        have es : stepR R l = if R.mem n = true ∧ n ≠ R.keeper then ({ R with keeper := n }, true) else (R, false) := by unfold stepR; rw [e]
        have no : ¬ (R.mem n = true ∧ n ≠ R.keeper) → Q (.bl false) H1 := fun q => by
          have ea : act1 R l = R := by unfold act1; rw [es, if_neg q]
          rw [es, if_neg q] at k1
          rw [ea] at k1
          exact k1 H1 RA1 fun b o e _ _ _ => e
        cases hm : R.mem n with
        | false => exact iteF (iteF (no fun q => by rw [hm] at q; cases q.1))
        | true =>
          refine iteT ⟨_, rfl, _, rfl, r, _, dx, _, _, rfl, sp _ _ h1, T.kR, T.nKe, rf_ke _ _ _ _, rfl, _, rfl, ?_⟩
          refine ite2 (fun hne => ?_) (fun hne => ?_)
          · have hk : n ≠ R.keeper := fun q => by rw [q] at hne; simp at hne
            refine ⟨_, rfl, rfl, _, rfl, iteT ?_⟩
            refine ⟨_, rfl, _, rfl, r, _, dx, _, rfl, sp _ _ h1, T.kR, T.nKe, (by show 4 < 1000; decide), ?_⟩
            have ec : (R.mem n = true ∧ n ≠ R.keeper) := ⟨hm, hk⟩
            have ea : act1 R l = { R with keeper := n } := by unfold act1; rw [es, if_pos ec]
            rw [es, if_pos ec, ea] at k1
            have hrc : dc ≠ r := ne_of h2 h1 (by intro q; cases q)
            have hrl : dl ≠ r := ne_of h4 h1 (by intro q; cases q)
            exact k1 _ ⟨⟨dx, upd_same⟩, ⟨kc, by rw [upd_ne hrc]; exact sp _ _ h2, h3⟩, by rw [upd_ne hrl]; exact sp _ _ h4⟩ fun b o e hb _ _ => by rw [upd_ne hb]; exact e
          · refine no fun q => hne ?_
            have : ¬ V.str n = V.str R.keeper := fun z => q.2 (V.str.inj z)
            rw [decide_eq_false this]
            rfl
end
end Lo
set_option Elab.async false
set_option maxRecDepth 100000
set_option maxHeartbeats 4000000
namespace Lo
open PySem PySem.Spec PyProof.Rows L2
open C8 (Cal Met Mak scC fnScope_by pe_c pe_mk pe_mt pe_mt0)
/-! ### the rows of a ledger -/
def auths (o : List Ltr) : List Str := o.foldl (fun ns l => addN ns l.au) []
theorem auths_snoc (o : List Ltr) (l : Ltr) : auths (o ++ [l]) = addN (auths o) l.au := by
  unfold auths
  rw [List.foldl_append]
  rfl
theorem mem_auths {o : List Ltr} {x : Str} : x ∈ auths o ↔ ∃ l ∈ o, l.au = x := by
  unfold auths
  suffices h : ∀ ns : List Str, x ∈ o.foldl (fun ns l => addN ns l.au) ns ↔ x ∈ ns ∨ ∃ l ∈ o, l.au = x by
    rw [h]
    simp
  induction o with
  | nil => simp
  | cons l r ih =>
    intro ns
    rw [List.foldl_cons, ih, mem_addN]
    simp only [List.mem_cons, exists_eq_or_imp]
    constructor
    · rintro ((h | h) | h)
      · exact .inl h
      · exact .inr (.inl h.symm)
      · exact .inr (.inr h)
    · rintro (h | h | h)
      · exact .inl (.inl h)
      · exact .inl (.inr h.symm)
      · exact .inr h
theorem row_nil {o : List Ltr} {x : Str} (h : x ∉ auths o) : rowOf o x = [] := by
  unfold rowOf
  rw [List.filter_eq_nil_iff]
  intro l hl q
  exact h (mem_auths.mpr ⟨l, hl, by simpa using q⟩)
def rowK (la : Str → Addr) (ns : List Str) : List (Key × V) := ns.map fun x => (Sum.inr x, V.ref (la x))
theorem val_row (la : Str → Addr) (ns : List Str) (x : Str) : valV (rowK la ns) (Sum.inr x : Key) = if x ∈ ns then some (V.ref (la x)) else none := by
  induction ns with
  | nil => rfl
  | cons n r ih =>
    show valV ((Sum.inr n, V.ref (la n)) :: rowK la r) _ = _
    by_cases e : n = x
    · subst e
      rw [valV_pos (p := (Sum.inr n, V.ref (la n))) rfl, if_pos List.mem_cons_self]
    · rw [valV_neg (p := (Sum.inr n, V.ref (la n))) (fun q => e (Sum.inr.inj q)), ih]
      by_cases h : x ∈ r
      · rw [if_pos h, if_pos (List.mem_cons_of_mem _ h)]
      · rw [if_neg h, if_neg]
        intro q
        rcases List.mem_cons.mp q with q | q
        · exact e q.symm
        · exact h q
def LsAt (K : PySem.W.Frag) (H : Hp) (a : Addr) (ls : List Ltr) : Prop := ∃ as : List Addr, H a = some (.lst (as.map V.ref)) ∧ Ls K H as ls
structure RowsAt (K : PySem.W.Frag) (H : Hp) (d : Addr) (la : Str → Addr) (o : List Ltr) : Prop where
  tab : H d = some (.dK (rowK la (auths o)))
  row : ∀ x ∈ auths o, LsAt K H (la x) (rowOf o x)
section
variable {K : PySem.W.Frag} {H H' : Hp}
theorem LsAt.kp {a : Addr} {ls : List Ltr} (h : LsAt K H a ls) (i : Im K H H') (e : ∀ o, H a = some o → H' a = some o) : LsAt K H' a ls := by
  obtain ⟨as, h1, h2⟩ := h
  exact ⟨as, e _ h1, h2.im i⟩
theorem LsAt.same {a : Addr} {ls : List Ltr} (h : LsAt K H a ls) (s : Same H H') : LsAt K H' a ls := h.kp (.same s) fun o q => s _ o q
theorem RowsAt.kp {d : Addr} {la : Str → Addr} {o : List Ltr} (h : RowsAt K H d la o) (i : Im K H H') (e : ∀ u, H d = some u → H' d = some u) (er : ∀ x ∈ auths o, ∀ u, H (la x) = some u → H' (la x) = some u) : RowsAt K H' d la o :=
  ⟨e _ h.tab, fun y hy => (h.row y hy).kp i (er y hy)⟩
theorem RowsAt.same {d : Addr} {la : Str → Addr} {o : List Ltr} (h : RowsAt K H d la o) (s : Same H H') : RowsAt K H' d la o := h.kp (.same s) (fun u q => s _ u q) fun x _ u q => s _ u q
end
theorem RollAt.im {K : PySem.W.Frag} {H H' : Hp} {r dc dl : Addr} {fo : Str} {R : Roll} (h : RollAt K H r dc dl fo R) (ne : cR K ≠ cL K) (kp : ∀ b o, H b = some o → b ≠ r → b ≠ dc → b ≠ dl → H' b = some o) : Im K H H' := fun b o e q => by
  obtain ⟨⟨dx, h1⟩, ⟨kc, h2, _⟩, h3⟩ := h
  refine kp b o e ?_ ?_ ?_
  · rintro rfl
    rw [h1] at e
    cases e
    have q2 : (!decide (cR K = cL K)) = false := q
    rw [decide_eq_false ne] at q2
    cases q2
  · rintro rfl
    rw [h2] at e
    cases e
    cases q
  · rintro rfl
    rw [h3] at e
    cases e
    cases q
section
variable {P : Program} {w : World} {K : PySem.W.Frag} {mg : Str → Option Value} {base : Heap} {f : Addr}
/-! ### first_behind, roll_of -/
def spFb (K : PySem.W.Frag) : Sp := fun vs H Q _ => ∃ (a t : Addr) (ls : List Ltr) (b : Ltr), vs = [.ref a, .ref t] ∧ LsAt K H a ls ∧ H t = some (.tup [.str b.au, .int b.num]) ∧ ∀ H' : Hp, Same H H' → Q (.int (ls.findIdx fun l => l.sees b : Nat)) H'
theorem findIdx_take {α : Type} {p : α → Bool} {xs : List α} {i : Nat} {x : α} (h : xs[i]? = some x) (hn : ∀ j y, j < i → xs[j]? = some y → p y = false) (hx : p x = true) : xs.findIdx p = i := by
  induction xs generalizing i with
  | nil => simp at h
  | cons y r ih =>
    rw [List.findIdx_cons]
    cases i with
    | zero =>
      simp at h
      subst h
      rw [hx]
      rfl
    | succ i =>
      rw [hn 0 y (Nat.succ_pos _) rfl]
      show r.findIdx p + 1 = i + 1
      rw [ih (i := i) (by simpa using h) fun j z hj hz => hn (j + 1) z (Nat.succ_lt_succ hj) (by simpa using hz)]
theorem findIdx_none {α : Type} {p : α → Bool} {xs : List α} (hn : ∀ (j : Nat) y, xs[j]? = some y → p y = false) : xs.findIdx p = xs.length := by
  rw [List.findIdx_eq_length]
  intro y hy
  obtain ⟨j, hj⟩ := List.mem_iff_getElem?.mp hy
  exact hn j y hj
theorem ok_fb (S : Src K "first_behind" "first_behind" s_first_behind f) (T : Txt K mg) (hm : mg "first_behind" = some (.ref f)) (mh : Met P w K mg base 2 (cL K) "has_seen" (spSees K) []) : Cal P w K mg base 3 "first_behind" (spFb K) [] := by
  refine cal_of S hm sc_first_behind bi_first_behind (fun vs H Q E h => ?_) (fun cdv A outer s H vs Q E hr h => ?_)
  · obtain ⟨a, t, ls, b, rfl, _⟩ := h
    rfl
  · obtain ⟨a, t, ls, b, rfl, ⟨as, h1, h2⟩, ht, k⟩ := h
    have nd := (fnScope_by sc_first_behind).nd
    refine ⟨_, pss_cons (ps_for PassesOwn.never rfl (pi_enum (by rfl) T.enum (pa_cons (pv 0) pa_nil)) (pg_tup (by rfl) (pgs_cons (pg_name (i := 2) nd rfl (.inl rfl)) (pgs_cons (pg_name (i := 3) nd rfl (.inl rfl)) pgs_nil)))
        (pss_one (ps_if (pt_val (pe_mt mh hr (by decide) (pv 3) (pa_cons (pv 1) pa_nil))) (pss_one (ps_ret (pv 2))) pss_nil)))
      (pss_one (ps_ret (pe_callB call_len_seq (by rfl) T.len (by decide +kernel) (pa_cons (pv 0) pa_nil)))), ?_⟩
    refine ⟨_, rfl, a, _, rfl, SqL.of h1, for_by as.length (fun i σ H2 => ∃ u v : Option V, σ = [some (.ref a), some (.ref t), u, v] ∧ Same H H2 ∧ ∀ j l, j < i → ls[j]? = some l → l.sees b = false)
      ⟨none, none, rfl, .refl H, fun j l hj => absurd hj (Nat.not_lt_zero _)⟩ ?_ ?_ ?_⟩
    · rintro i σ H2 hi ⟨u, v, rfl, s2, hn⟩
      exact ⟨_, _, SqL.of (s2 _ _ h1), List.getElem?_eq_getElem (by rw [List.length_map]; exact hi)⟩
    · rintro i σ H2 hi ⟨u, v, rfl, s2, hn⟩ x H' ⟨T1, y, rfl, hT1, rfl, hy⟩
      have hy2 := hy _ (SqL.of (s2 _ _ h1))
      obtain ⟨c, hc, rfl⟩ := map_get hy2
      obtain ⟨l, hl, hcl⟩ := pair_l h2 hc
      have s3 : Same H (upd H2 T1 (.tup [.int i, .ref c])) := s2.trans (same_new hT1)
      refine ⟨T1, _, rfl, SqT.of upd_same, rfl, _, _, rfl, _, _, rfl, rfl, ?_⟩
      obtain ⟨dx, ts, tb, g1, g2, g3⟩ := id hcl
      refine ⟨_, rfl, c, dx, _, rfl, s3 _ _ g1, rfl, _, rfl, c, t, l, b, rfl, hcl.im (.same s3), s3 _ _ ht, _, rfl, ?_⟩
      cases hs : l.sees b with
      | true =>
        refine iteT ⟨_, rfl, ?_⟩
        have e := findIdx_take (p := fun l => l.sees b) hl (fun j z hj hz => hn j z hj hz) hs
        have k2 := k _ s3
        rw [e] at k2
        exact k2
      | false =>
        refine iteF ⟨_, _, rfl, s3, fun j l' hj hl' => ?_⟩
        rcases Nat.lt_or_eq_of_le (Nat.lt_succ_iff.mp hj) with hj | rfl
        · exact hn j l' hj hl'
        · rw [hl] at hl'
          cases hl'
          exact hs
    · rintro σ H2 ⟨u, v, rfl, s2, hn⟩
      refine ⟨⟨_, SqL.of (s2 _ _ h1), by rw [List.length_map]; exact Nat.le_refl _⟩, _, rfl, a, _, rfl, .inl (SqL.of (s2 _ _ h1)), ?_⟩
      have hl : as.length = ls.length := pair_len h2
      have e : (ls.findIdx fun l => l.sees b) = ls.length := findIdx_none fun j l hj => hn j l (by rw [hl]; exact (List.getElem?_eq_some_iff.mp hj).1) hj
      rw [e] at k
      rw [List.length_map, hl]
      exact k _ s2
def spRollOf (K : PySem.W.Frag) : Sp := fun vs H Q _ => ∃ (g : Ltr) (d : Addr) (la : Str → Addr) (o : List Ltr), vs = [.str g.au, .ref d] ∧ RowsAt K H d la o ∧ Ord g o ∧ g.mems.length ≤ 500 ∧ o.length ≤ 100 ∧
  ∀ (r dc dl : Addr) (H' : Hp), RollAt K H' r dc dl g.au (rollS g o) → dc ≠ dl → H r = none → H dc = none → H dl = none → Same H H' → Q (.ref r) H'
theorem names_le (R : Roll) (l : Ltr) : (act1 R l).names.length ≤ R.names.length + 1 := by
  unfold act1 stepR
  cases l.body <;> simp only <;> first | omega | skip
  · exact addN_len _ _
  · split <;> exact Nat.le_succ _
  · split <;> exact Nat.le_succ _
theorem lims_le (R : Roll) (l : Ltr) : (act1 R l).lims.length ≤ R.lims.length + 1 := by
  unfold act1 stepR
  cases l.body <;> simp only <;> first | omega | skip
  · split
    · simp
    · exact Nat.le_succ _
  · split <;> exact Nat.le_succ _
theorem names0_le (g : Ltr) : (R0 g).names.length ≤ 1 + g.mems.length := addNs_len g.mems [g.au]
theorem ok_rollof (S : Src K "roll_of" "roll_of" s_roll_of f) (T : Txt K mg) (hm : mg "roll_of" = some (.ref f)) (mk : Mak P w K mg base 1 "Roll" (cR K) (spRInit K) []) (ma : Met P w K mg base 2 (cR K) "_act" (spAct K) [])
    (mf : Cal P w K mg base 3 "first_behind" (spFb K) []) (mr : Prp P w K mg base 1 (cL K) "ref" (spRef K)) : Cal P w K mg base 4 "roll_of" (spRollOf K) [] := by
  refine cal_of S hm sc_roll_of bi_roll_of (fun vs H Q E h => ?_) (fun cdv A outer s H vs Q E hr h => ?_)
  · obtain ⟨g, d, la, o, rfl, _⟩ := h
    rfl
  · obtain ⟨g, d, la, o, rfl, RA, hO, hms, hol, k⟩ := h
    have hu := hu_of hr
    have nd := (fnScope_by sc_roll_of).nd
    obtain ⟨rest, hrest⟩ := hO.head
    have hga : g.au ∈ auths o := mem_auths.mpr ⟨g, by rw [hrest]; exact List.mem_cons_self, rfl⟩
    obtain ⟨as0, r1, r2⟩ := RA.row g.au hga
    have hrow0 : ∃ t, rowOf o g.au = g :: t := ⟨rowOf rest g.au, by rw [hrest]; unfold rowOf; rw [List.filter_cons, if_pos (by simp)]⟩
    obtain ⟨t0, hrow0⟩ := hrow0
    have ha0 : ∃ a t, as0 = a :: t ∧ LetterAt (cL K) H a g := by
      rw [hrow0] at r2
      cases r2 with
      | cons q _ => exact ⟨_, _, rfl, q⟩
    obtain ⟨a0, at0, ea0, LA0⟩ := ha0
    have hval : valV (rowK la (auths o)) (Sum.inr g.au : Key) = some (V.ref (la g.au)) := by rw [val_row, if_pos hga]
    have hget : DGet H d (.str g.au) (some (V.ref (la g.au))) := by have := DGet.k (k := Sum.inr g.au) RA.tab; rw [hval] at this; exact this
    obtain ⟨n0, hn0, hRd⟩ := hO.rd
    refine ⟨_, pss_cons (ps_set (i := 2) nd rfl (.inl rfl) (pe_mk mk hr (by decide) (by rfl) (pa_cons (pe_ix ix_list (pe_dget hu (pv 1) (pv 0) (fun _ _ => rfl)) pe_int (fun _ _ => rfl)) pa_nil)))
      (pss_cons (ps_set (i := 3) nd rfl (.inl rfl) (pe_dget hu (pv 1) (pv 0) (fun _ _ => rfl)))
      (pss_cons (ps_set (i := 4) nd rfl (.inl rfl) pe_int)
      (pss_cons (ps_while PassesOwn.never (pt_cmpR op_lt (pv 4) (pe_callB call_len_seq (by rfl) T.len (by decide +kernel) (pa_cons (pv 3) pa_nil)) (nomark _))
        (pss_cons (ps_set (i := 5) nd rfl (.inl rfl) (pe_ix ix_list (pv 3) (pv 4) (fun _ _ => rfl)))
        (pss_cons (ps_aug (i := 4) nd rfl (.inl rfl) pe_int ip_add)
        (pss_one (ps_if (pt_val (pe_mt ma hr (by decide) (pv 2) (pa_cons (pv 5) pa_nil)))
          (pss_cons (ps_set (i := 3) nd rfl (.inl rfl) (pe_dget2 hu (pv 1) (pe_fld (pv 2) rfl) (pe_lst pa_nil) ⟨rfl, rfl, rfl, rfl⟩))
          (pss_one (ps_set (i := 4) nd rfl (.inl rfl) (pe_c mf hr (by decide) (by rfl) (pa_cons (pv 3) (pa_cons (pe_prp mr hr (by decide) (pv 5)) pa_nil)))))) pss_nil)))))
      (pss_one (ps_ret (pv 2)))))), ?_⟩
    refine ⟨_, rfl, _, rfl, d, _, rfl, hget, la g.au, _, _, _, rfl, rfl, SqL.of r1, by rw [ea0]; exact atI0, ?_⟩
    intro r dx hrn hdn hne
    have hnr : ∀ b o, H b = some o → b ≠ r := fun b o e => ne_of_none e hrn
    have s0 : Same H (upd (upd H dx (.own r)) r (.ins (cR K) dx [])) := fun b o e => by rw [upd_ne (hnr b o e), upd_ne (ne_of_none e hdn)]; exact e
    have hru : upd (upd H dx (.own r)) r (.ins (cR K) dx []) r = some (.ins (cR K) dx []) := upd_same
    generalize upd (upd H dx (.own r)) r (.ins (cR K) dx []) = H0 at s0 hru
    refine ⟨r, dx, a0, g, rfl, hru, LA0.im (.same s0), hO.found.body, by omega, fun dc dl H1 R1 hdc hdl kp => ⟨rfl, ?_⟩⟩
    have s1 : Same H H1 := fun b o e => kp b o (s0 b o e) (hnr b o e)
    have hdc0 := s0.free hdc
    have hdl0 := s0.free hdl
    have hcl : dc ≠ dl := by
      intro e
      obtain ⟨kc, q1, q2⟩ := R1.came
      have q3 := R1.lims
      rw [← e, q1] at q3
      have q4 := HO.dK.inj (Option.some.inj q3)
      rw [q4] at q2
      have : g.au ∈ (R0 g).names := (rollOk0 g).kn
      cases hz : (R0 g).names with
      | nil => rw [hz] at this; cases this
      | cons y z => rw [hz] at q2; cases q2
    refine ⟨_, rfl, _, rfl, d, _, rfl, by
      have := DGet.k (k := Sum.inr g.au) (s1 _ _ RA.tab)
      rw [hval] at this
      exact this, ?_⟩
    -- the loop
    refine ⟨fun n σ H2 => ∃ (R : Roll) (i : Nat) (lt : Addr) (v : Option V), σ = [some (.str g.au), some (.ref d), some (.ref r), some (.ref lt), some (.int (i : Nat)), v] ∧ Same H H2 ∧ RollAt K H2 r dc dl g.au R ∧ LsAt K H2 lt (rowOf o R.keeper) ∧
        Rd o R i (rollS g o) n ∧ R.names.length + n ≤ 700 ∧ R.lims.length + n ≤ 700, ⟨n0, R0 g, 1, la g.au, none, rfl, s1, R1, (show LsAt K H (la g.au) (rowOf o g.au) from ⟨as0, r1, r2⟩).same s1, hRd, ?_, ?_⟩, ?_⟩
    · have := names0_le g
      omega
    · show 0 + n0 ≤ 700
      omega
    · rintro n σ H2 ⟨R, i, lt, v, rfl, s2, RA2, ⟨as, l1, l2⟩, hRd2, hb1, hb2⟩
      have hlen : as.length = (rowOf o R.keeper).length := pair_len l2
      refine ⟨_, rfl, _, rfl, lt, _, rfl, .inl (SqL.of l1), _, _, rfl, rfl, _, rfl, ?_⟩
      have ed : decide ((i : Int) < ((as.map V.ref).length : Nat)) = decide (i < (rowOf o R.keeper).length) := decide_eq_decide.mpr (by rw [List.length_map, hlen]; exact Int.ofNat_lt)
      show if decide ((i : Int) < ((as.map V.ref).length : Nat)) = true then _ else _
      rw [ed]
      cases hRd2 with
      | done hle =>
        rw [decide_eq_false (Nat.not_lt.mpr hle)]
        refine iteF ⟨_, rfl, ?_⟩
        exact k r dc dl H2 RA2 hcl hrn hdc0 hdl0 s2
      | @step _ _ _ n l hat hh hrest =>
        have hlt := (List.getElem?_eq_some_iff.mp hat).1
        rw [decide_eq_true hlt]
        obtain ⟨c, hc, hcl2⟩ := pair_r l2 hat
        refine iteT ⟨_, fun σ' H' q => ⟨n, Nat.lt_succ_self n, q⟩, ?_⟩
        refine ⟨_, rfl, _, rfl, lt, _, _, _, rfl, rfl, SqL.of l1, atI_nat (j := i) (by rw [List.getElem?_map, hc]; rfl), ?_⟩
        refine ⟨_, rfl, _, _, rfl, rfl, ?_⟩
        obtain ⟨⟨dxr, o1⟩, _, _⟩ := id RA2
        refine ⟨_, rfl, r, dxr, _, rfl, o1, rfl, _, rfl, r, dc, dl, c, g.au, l, R, rfl, RA2, hcl, hcl2, by omega, by omega, fun H3 RA3 kp3 => ⟨_, rfl, ?_⟩⟩
        have s3 : Same H H3 := fun b o e => kp3 b o (s2 b o e) (hnr b o e) (ne_of_none e hdc0) (ne_of_none e hdl0)
        rw [hh]
        have hltne : lt ≠ r ∧ lt ≠ dc ∧ lt ≠ dl := by
          obtain ⟨kc, q1, _⟩ := RA2.came
          exact ⟨ne_of l1 o1 (by intro q; cases q), ne_of l1 q1 (by intro q; cases q), ne_of l1 RA2.lims (by intro q; cases q)⟩
        have im3 := RA2.im T.neR kp3
        have e1 : ((i : Int) + 1) = ((i + 1 : Nat) : Int) := rfl
        have hn1 := names_le R l
        have hn2 := lims_le R l
        refine iteF ⟨act1 R l, i + 1, lt, _, rfl, s3, RA3, ?_, hrest, by omega, by omega⟩
        rw [keep_same hh]
        exact ⟨as, kp3 _ _ l1 hltne.1 hltne.2.1 hltne.2.2, l2.im im3⟩
      | @hand _ _ _ n l hat hh hrest =>
        have hlt := (List.getElem?_eq_some_iff.mp hat).1
        rw [decide_eq_true hlt]
        obtain ⟨c, hc, hcl2⟩ := pair_r l2 hat
        refine iteT ⟨_, fun σ' H' q => ⟨n, Nat.lt_succ_self n, q⟩, ?_⟩
        refine ⟨_, rfl, _, rfl, lt, _, _, _, rfl, rfl, SqL.of l1, atI_nat (j := i) (by rw [List.getElem?_map, hc]; rfl), ?_⟩
        refine ⟨_, rfl, _, _, rfl, rfl, ?_⟩
        obtain ⟨⟨dxr, o1⟩, _, _⟩ := id RA2
        refine ⟨_, rfl, r, dxr, _, rfl, o1, rfl, _, rfl, r, dc, dl, c, g.au, l, R, rfl, RA2, hcl, hcl2, by omega, by omega, fun H3 RA3 kp3 => ⟨_, rfl, ?_⟩⟩
        have s3 : Same H H3 := fun b o e => kp3 b o (s2 b o e) (hnr b o e) (ne_of_none e hdc0) (ne_of_none e hdl0)
        have im3 := RA2.im T.neR kp3
        rw [hh]
        have hn1 := names_le R l
        have hn2 := lims_le R l
        obtain ⟨⟨dxr3, o3⟩, _, _⟩ := id RA3
        -- the new keeper's row
        refine iteT ⟨_, rfl, d, rfl, .inl ⟨_, .inl (s3 _ _ RA.tab)⟩, _, rfl, r, _, dxr3, _, _, rfl, o3, T.kR, T.nKe, rf_ke _ _ _ _, (by show 0 ≤ sizeLine; decide), fun z hz => ?_⟩
        have s4 : Same H3 (upd H3 z (.lst [])) := same_new hz
        have hz4 : LsAt K (upd H3 z (.lst [])) z [] := ⟨[], upd_same, .nil⟩
        generalize upd H3 z (.lst []) = H4 at s4 hz4
        have s5 : Same H H4 := s3.trans s4
        refine ⟨_, DGet.k (k := Sum.inr (act1 R l).keeper) (s5 _ _ RA.tab), ?_⟩
        have hrow : ∃ lt2, (valV (rowK la (auths o)) (Sum.inr (act1 R l).keeper : Key)).getD (V.ref z) = V.ref lt2 ∧ LsAt K H4 lt2 (rowOf o (act1 R l).keeper) := by
          rw [val_row]
          by_cases hx : (act1 R l).keeper ∈ auths o
          · rw [if_pos hx]
            exact ⟨_, rfl, (RA.row _ hx).same s5⟩
          · rw [if_neg hx, row_nil hx]
            exact ⟨z, rfl, hz4⟩
        obtain ⟨lt2, el, hl2⟩ := hrow
        have eL : (valV (rowK la (auths o)) (Sum.inr (act1 R l).keeper : Key)).getD (V.ref z) = V.ref lt2 := el
        show tSeq _ _ _ _ _
        rw [eL]
        have LA4 := (hcl2.im im3).im (Im.same (K := K) s4)
        obtain ⟨dxc, tsc, tbc, c1, _, _⟩ := id LA4
        refine ⟨_, rfl, _, rfl, c, dxc, _, rfl, c1, c, l, rfl, LA4, fun t ht => ?_⟩
        have s6 : Same H4 (upd H4 t (.tup [.str l.au, .int l.num])) := same_new ht
        refine ⟨lt2, t, _, l, rfl, hl2.same s6, upd_same, fun H5 s7 => ?_⟩
        have s8 := (s4.trans s6).trans s7
        exact ⟨act1 R l, _, lt2, _, rfl, s3.trans s8, RA3.same s8, (hl2.same s6).same s7, hrest, by omega, by omega⟩
end
end Lo
set_option Elab.async false
set_option maxRecDepth 100000
set_option maxHeartbeats 4000000
namespace Lo
open PySem PySem.Spec PyProof.Rows L2
open C8 (Cal Met Mak scC fnScope_by pe_c pe_mk pe_mt pe_mt0)
/-! ### the store of a ledger, of the plain model -/
def tk (l : Ltr) : List Key := [Sum.inr l.au, Sum.inl (l.num : Int)]
def WaitK (K : PySem.W.Frag) (H : Hp) (kvs : List (List Key × V)) (w : List Ltr) : Prop := Paired (fun (kv : List Key × V) (l : Ltr) => kv.1 = tk l ∧ ∃ a, kv.2 = .ref a ∧ LetterAt (cL K) H a l) kvs w
def WaitAt (K : PySem.W.Frag) (H : Hp) (d : Addr) (w : List Ltr) : Prop := ∃ kvs : List (List Key × V), H d = some (.dT kvs) ∧ WaitK K H kvs w
theorem WaitK.im {K : PySem.W.Frag} {H H' : Hp} {kvs : List (List Key × V)} {w : List Ltr} (i : Im K H H') (h : WaitK K H kvs w) : WaitK K H' kvs w :=
  Paired.mapP h fun _ _ ⟨e, a, q, r⟩ => ⟨e, a, q, r.im i⟩
structure SA where
  dr : Addr
  lo : Addr
  dw : Addr
  la : Str → Addr
def SA.own (S : SA) (o : List Ltr) (b : Addr) : Prop := b = S.dr ∨ b = S.lo ∨ b = S.dw ∨ ∃ x ∈ auths o, b = S.la x
structure StoreAt (K : PySem.W.Frag) (H : Hp) (S : SA) (o w : List Ltr) : Prop where
  rows : RowsAt K H S.dr S.la o
  ord : LsAt K H S.lo o
  wait : WaitAt K H S.dw w
  inj : ∀ x ∈ auths o, ∀ y ∈ auths o, S.la x = S.la y → x = y
  nlo : ∀ x ∈ auths o, S.la x ≠ S.lo
section
variable {K : PySem.W.Frag} {H H' : Hp} {S : SA} {o w : List Ltr}
theorem WaitAt.kp {d : Addr} (h : WaitAt K H d w) (i : Im K H H') (e : ∀ u, H d = some u → H' d = some u) : WaitAt K H' d w := by
  obtain ⟨kvs, h1, h2⟩ := h
  exact ⟨kvs, e _ h1, h2.im i⟩
theorem StoreAt.kp (h : StoreAt K H S o w) (i : Im K H H') (e : ∀ b u, S.own o b → H b = some u → H' b = some u) : StoreAt K H' S o w :=
  ⟨h.rows.kp i (fun u => e _ u (.inl rfl)) (fun x hx u => e _ u (.inr (.inr (.inr ⟨x, hx, rfl⟩)))), h.ord.kp i (fun u => e _ u (.inr (.inl rfl))), h.wait.kp i (fun u => e _ u (.inr (.inr (.inl rfl)))), h.inj, h.nlo⟩
theorem StoreAt.same (h : StoreAt K H S o w) (s : Same H H') : StoreAt K H' S o w := h.kp (.same s) fun b u _ q => s b u q
theorem StoreAt.ex (h : StoreAt K H S o w) {b : Addr} (q : S.own o b) : ∃ u, H b = some u ∧ isMut K u = true := by
  rcases q with rfl | rfl | rfl | ⟨x, hx, rfl⟩
  · exact ⟨_, h.rows.tab, rfl⟩
  · obtain ⟨as, h1, _⟩ := h.ord
    exact ⟨_, h1, rfl⟩
  · obtain ⟨kvs, h1, _⟩ := h.wait
    exact ⟨_, h1, rfl⟩
  · obtain ⟨as, h1, _⟩ := h.rows.row x hx
    exact ⟨_, h1, rfl⟩
end
/-! ### what a step may touch -/
structure Step (own own' : Addr → Prop) (H H' : Hp) : Prop where
  kp : ∀ b u, H b = some u → ¬ own b → H' b = some u
  ow : ∀ b, own' b → own b ∨ H b = none
theorem Step.trans {o1 o2 o3 : Addr → Prop} {H1 H2 H3 : Hp} (a : Step o1 o2 H1 H2) (b : Step o2 o3 H2 H3) : Step o1 o3 H1 H3 := by
  refine ⟨fun c u e n => b.kp c u (a.kp c u e n) fun q => ?_, fun c q => ?_⟩
  · rcases a.ow c q with z | z
    · exact n z
    · rw [e] at z
      cases z
  · rcases b.ow c q with z | z
    · exact a.ow c z
    · by_cases n : o1 c
      · exact .inl n
      · cases e : H1 c with
        | none => exact .inr rfl
        | some u =>
          have := a.kp c u e n
          rw [this] at z
          cases z
theorem Step.same {o1 : Addr → Prop} {H H' : Hp} (s : Same H H') : Step o1 o1 H H' := ⟨fun b u e _ => s b u e, fun _ q => .inl q⟩
theorem Step.im {K : PySem.W.Frag} {o1 o2 : Addr → Prop} {H H' : Hp} (s : Step o1 o2 H H') (m : ∀ b, o1 b → ∃ u, H b = some u ∧ isMut K u = true) : Im K H H' := fun b u e q => by
  refine s.kp b u e fun z => ?_
  obtain ⟨u', h1, h2⟩ := m b z
  rw [e] at h1
  cases h1
  rw [h2] at q
  cases q
/-! ### the ledger -/
structure LA where
  p : Addr
  r : Addr
  dc : Addr
  dl : Addr
  S : SA
def LA.own (A : LA) (o : List Ltr) (b : Addr) : Prop := b = A.p ∨ b = A.r ∨ b = A.dc ∨ b = A.dl ∨ A.S.own o b
def topN (o : List Ltr) : Nat := o.foldl (fun t l => max t l.stamp) 0
def gf (fo : Str) (dr lo dw r : Addr) (t : Nat) : List (Str × V) := [("founder", .str fo), ("_rows", .ref dr), ("_order", .ref lo), ("_waiting", .ref dw), ("_roll", .ref r), ("_top", .int (t : Nat))]
structure LedAt (K : PySem.W.Frag) (H : Hp) (A : LA) (g : Ltr) (o w : List Ltr) : Prop where
  st : StoreAt K H A.S o w
  ob : ∃ dx, H A.p = some (.ins (cG K) dx (gf g.au A.S.dr A.S.lo A.S.dw A.r (topN o)))
  rl : RollAt K H A.r A.dc A.dl g.au (rollS g o)
  cl : A.dc ≠ A.dl
  ndc : A.S.dr ≠ A.dc
  ndl : A.S.dr ≠ A.dl
  npr : A.p ≠ A.r
section
variable {K : PySem.W.Frag} {H H' : Hp} {A : LA} {g : Ltr} {o w : List Ltr}
theorem LedAt.kp (h : LedAt K H A g o w) (i : Im K H H') (e : ∀ b u, A.own o b → H b = some u → H' b = some u) : LedAt K H' A g o w := by
  obtain ⟨dx, h1⟩ := h.ob
  refine ⟨h.st.kp i fun b u q => e b u (.inr (.inr (.inr (.inr q)))), ⟨dx, e _ _ (.inl rfl) h1⟩, h.rl.kp fun b u q z => e b u ?_ q, h.cl, h.ndc, h.ndl, h.npr⟩
  rcases z with rfl | rfl | rfl
  · exact .inr (.inl rfl)
  · exact .inr (.inr (.inl rfl))
  · exact .inr (.inr (.inr (.inl rfl)))
theorem LedAt.same (h : LedAt K H A g o w) (s : Same H H') : LedAt K H' A g o w := h.kp (.same s) fun b u _ q => s b u q
theorem LedAt.ex (h : LedAt K H A g o w) (n1 : cG K ≠ cL K) (n2 : cR K ≠ cL K) {b : Addr} (q : A.own o b) : ∃ u, H b = some u ∧ isMut K u = true := by
  rcases q with rfl | rfl | rfl | rfl | q
  · obtain ⟨dx, h1⟩ := h.ob
    exact ⟨_, h1, by unfold isMut; simp [n1]⟩
  · obtain ⟨dx, h1⟩ := h.rl.ob
    exact ⟨_, h1, by unfold isMut; simp [n2]⟩
  · obtain ⟨kc, h1, _⟩ := h.rl.came
    exact ⟨_, h1, rfl⟩
  · exact ⟨_, h.rl.lims, rfl⟩
  · exact h.st.ex q
end
section
variable {P : Program} {w : World} {K : PySem.W.Frag} {mg : Str → Option Value} {base : Heap} {f : Addr}
theorem gf_fo (fo : Str) (dr lo dw r : Addr) (t : Nat) : (gf fo dr lo dw r t).lookup ("founder" : Str) = some (.str fo) := rfl
theorem gf_ro (fo : Str) (dr lo dw r : Addr) (t : Nat) : (gf fo dr lo dw r t).lookup ("_rows" : Str) = some (.ref dr) := rfl
theorem gf_or (fo : Str) (dr lo dw r : Addr) (t : Nat) : (gf fo dr lo dw r t).lookup ("_order" : Str) = some (.ref lo) := rfl
theorem gf_wa (fo : Str) (dr lo dw r : Addr) (t : Nat) : (gf fo dr lo dw r t).lookup ("_waiting" : Str) = some (.ref dw) := rfl
theorem gf_rl (fo : Str) (dr lo dw r : Addr) (t : Nat) : (gf fo dr lo dw r t).lookup ("_roll" : Str) = some (.ref r) := rfl
theorem gf_to (fo : Str) (dr lo dw r : Addr) (t : Nat) : (gf fo dr lo dw r t).lookup ("_top" : Str) = some (.int (t : Nat)) := rfl
/-! ### the ledger's looks -/
def spRoll (K : PySem.W.Frag) : Sp := fun vs H Q _ => ∃ (A : LA) (g : Ltr) (o w : List Ltr), vs = [.ref A.p] ∧ LedAt K H A g o w ∧ Q (.ref A.r) H
theorem ok_roll {p : Addr} (S : Src K "roll" "Ledger.roll" s_Ledger_roll f) (T : Txt K mg) (hp : PropOf K (cG K) "roll" p f) : Prp P w K mg base 1 (cG K) "roll" (spRoll K) := by
  refine prp_of S T.kG hp sc_Ledger_roll bi_Ledger_roll (fun vs H Q E h => ?_) (fun cdv A outer s H vs Q E hr h => ?_)
  · obtain ⟨A, g, o, w, rfl, _⟩ := h
    rfl
  · obtain ⟨A, g, o, w, rfl, L, k⟩ := h
    obtain ⟨dx, h1⟩ := L.ob
    exact ⟨_, pss_one (ps_ret (pe_fld (pv 0) rfl)), _, rfl, A.p, _, dx, _, _, rfl, h1, T.kG, T.gRl, gf_rl _ _ _ _ _ _, k⟩
def spTop (K : PySem.W.Frag) : Sp := fun vs H Q _ => ∃ (A : LA) (g : Ltr) (o w : List Ltr), vs = [.ref A.p] ∧ LedAt K H A g o w ∧ Q (.int (topN o : Nat)) H
theorem ok_top {p : Addr} (S : Src K "top" "Ledger.top" s_Ledger_top f) (T : Txt K mg) (hp : PropOf K (cG K) "top" p f) : Prp P w K mg base 1 (cG K) "top" (spTop K) := by
  refine prp_of S T.kG hp sc_Ledger_top bi_Ledger_top (fun vs H Q E h => ?_) (fun cdv A outer s H vs Q E hr h => ?_)
  · obtain ⟨A, g, o, w, rfl, _⟩ := h
    rfl
  · obtain ⟨A, g, o, w, rfl, L, k⟩ := h
    obtain ⟨dx, h1⟩ := L.ob
    exact ⟨_, pss_one (ps_ret (pe_fld (pv 0) rfl)), _, rfl, A.p, _, dx, _, _, rfl, h1, T.kG, T.gTo, gf_to _ _ _ _ _ _, k⟩
def spHeld (K : PySem.W.Frag) : Sp := fun vs H Q _ => ∃ (A : LA) (g : Ltr) (o w : List Ltr) (x : Str), vs = [.ref A.p, .str x] ∧ LedAt K H A g o w ∧ ∀ H' : Hp, Same H H' → Q (.int (heldN o x : Nat)) H'
theorem row_get {K : PySem.W.Frag} {H : Hp} {d : Addr} {la : Str → Addr} {o : List Ltr} (R : RowsAt K H d la o) (x : Str) : DGet H d (.str x) (if x ∈ auths o then some (V.ref (la x)) else none) := by
  have := DGet.k (k := Sum.inr x) R.tab
  rw [val_row] at this
  exact this
theorem held_nil {o : List Ltr} {x : Str} (h : x ∉ auths o) : heldN o x = 0 := by
  unfold heldN
  rw [row_nil h]
  rfl
theorem ok_held (S : Src K "held" "Ledger.held" s_Ledger_held f) (T : Txt K mg) (m : Meth K (cG K) "held" f) : Met P w K mg base 1 (cG K) "held" (spHeld K) [] := by
  refine met_of S T.kG m sc_Ledger_held bi_Ledger_held (fun vs H Q E h => ?_) (fun cdv A outer s H vs Q E hr h => ?_)
  · obtain ⟨A, g, o, w, x, rfl, _⟩ := h
    rfl
  · obtain ⟨A, g, o, w, x, rfl, L, k⟩ := h
    obtain ⟨dx, h1⟩ := L.ob
    have hu := hu_of hr
    refine ⟨_, pss_one (ps_ret (pe_callB call_len_seq (by rfl) T.len (by decide +kernel) (pa_cons (pe_dget2 hu (pe_fld (pv 0) rfl) (pv 1) (pe_lst pa_nil) ⟨rfl, rfl, rfl, rfl⟩) pa_nil))), ?_⟩
    refine ⟨_, rfl, A.p, _, dx, _, _, rfl, h1, T.kG, T.gRo, gf_ro _ _ _ _ _ _, A.S.dr, rfl, .inl ⟨_, .inl L.st.rows.tab⟩, _, rfl, (by show 0 ≤ sizeLine; decide), fun l hl => ⟨_, row_get (L.st.rows.same (same_new hl)) x, ?_⟩⟩
    by_cases hx : x ∈ auths o
    · obtain ⟨as, r1, r2⟩ := L.st.rows.row x hx
      rw [if_pos hx]
      refine ⟨A.S.la x, _, rfl, .inl (SqL.of (same_new hl _ _ r1)), ?_⟩
      have := pair_len r2
      rw [List.length_map, this]
      exact k _ (same_new hl)
    · rw [if_neg hx]
      refine ⟨l, _, rfl, .inl (SqL.of upd_same), ?_⟩
      have hk := k _ (same_new (o := .lst []) hl)
      rw [held_nil hx] at hk
      exact hk
theorem yes_i {σ : L2.St} {H : Hp} {A B : Hp → Prop} (h : A H) : tYes σ H fun b H3 => if b = true then A H3 else B H3 := by
  show (if true = true then A H else B H)
  rw [if_pos rfl]
  exact h
abbrev tLenK (K : PySem.W.Frag) (t : TA) : TE := tCB (fun xs H Q => ∃ p ys, xs = [V.ref p] ∧ (SqL K H p ys ∨ SqT K H p ys) ∧ Q (.int ys.length) H) t
def spGCounts (K : PySem.W.Frag) : Sp := fun vs H Q _ => ∃ (A : LA) (g : Ltr) (o w : List Ltr), vs = [.ref A.p] ∧ LedAt K H A g o w ∧ o.length < 64 ∧
  ∀ (t : Addr) (H' : Hp) (ys : List Str), ys.Perm (auths o) → sortedS ys = true → SeenAt H' t (ys.map fun x => (x, heldN o x)) → Same H H' → H t = none → Q (.ref t) H'
theorem auths_len (o : List Ltr) : (auths o).length ≤ o.length := by
  unfold auths
  suffices h : ∀ ns : List Str, (o.foldl (fun ns l => addN ns l.au) ns).length ≤ ns.length + o.length by
    have := h []
    rw [List.length_nil] at this
    omega
  induction o with
  | nil => exact fun ns => Nat.le_refl _
  | cons l r ih =>
    intro ns
    rw [List.foldl_cons, List.length_cons]
    have := ih (addN ns l.au)
    have := addN_len ns l.au
    omega
theorem SeenAt.snoc {H : Hp} {ps : List Addr} {xs : List (Str × Nat)} {p : Addr} {x : Str} {n : Nat} (h : Paired (fun (p : Addr) (q : Str × Nat) => H p = some (.tup [.str q.1, .int q.2])) ps xs) (hp : H p = some (.tup [.str x, .int n])) :
    Paired (fun (p : Addr) (q : Str × Nat) => H p = some (.tup [.str q.1, .int q.2])) (ps ++ [p]) (xs ++ [(x, n)]) := pair_app h (.cons hp .nil)
theorem ok_gcounts (S : Src K "counts" "Ledger.counts" s_Ledger_counts f) (T : Txt K mg) (m : Meth K (cG K) "counts" f) : Met P w K mg base 1 (cG K) "counts" (spGCounts K) [] := by
  refine met_of S T.kG m sc_Ledger_counts bi_Ledger_counts (fun vs H Q E h => ?_) (fun cdv A outer s H vs Q E hr h => ?_)
  · obtain ⟨A, g, o, w, rfl, _⟩ := h
    rfl
  · obtain ⟨A, g, o, w, rfl, L, hol, k⟩ := h
    obtain ⟨dx, h1⟩ := L.ob
    have hu := hu_of hr
    have nd := (fnScope_by sc_Ledger_counts).nd
    refine ⟨_, pss_one (ps_ret (pe_callTy call_tuple_of (by rfl) T.tuple (by decide +kernel) (pa_cons (pe_lc (own := [("name", 1)]) (g := gName 1) (tt := tYes)
      (te := tTup (tCons (tVar 1) (tCons (tLenK K (tCons (tDGet (tFld K (tVar 0) "_rows") (tVar 1)) tNil)) tNil))) (by rfl) nd (pi_list (pe_callB (call_sortedD rfl) (by rfl) T.sorted (by decide +kernel) (pa_cons (pe_fld (pv 0) rfl) pa_nil)))
      (blkOk_by (N := N_Ledger_counts) (sc := L2.defScope s_Ledger_counts) (by decide +kernel)) (fun _ _ _ _ _ => pg_name (i := 1) nd rfl (.inl rfl)) (fun _ _ _ _ _ => pts_nil)
      (fun _ _ _ _ _ => pe_tup (pa_cons (pv 1) (pa_cons (pe_callB call_len_seq (by rfl) T.len (by decide +kernel) (pa_cons (pe_dget hu (pe_fld (pv 0) rfl) (pv 1) (fun _ _ => rfl)) pa_nil)) pa_nil)))) pa_nil))), ?_⟩
    have hal := auths_len o
    refine ⟨_, rfl, A.p, _, dx, _, _, rfl, h1, T.kG, T.gRo, gf_ro _ _ _ _ _ _, A.S.dr, _, auths o, rfl, .inl L.st.rows.tab, by simp [rowK, List.map_map, Function.comp_def], by omega, fun ys l hys hso hl => ?_⟩
    refine ⟨l, rfl, ⟨_, SqL.of upd_same⟩, fun D hD => ?_⟩
    have hDl : D ≠ l := fun z => by rw [z, upd_same] at hD; cases hD
    have hD0 : H D = none := by rw [upd_ne hDl] at hD; exact hD
    have sl : Same H (upd H l (.lst (ys.map V.str))) := same_new hl
    have hl1 : (upd H l (.lst (ys.map V.str))) l = some (.lst (ys.map V.str)) := upd_same
    generalize upd H l (.lst (ys.map V.str)) = H1 at sl hl1 hD
    have hmem : ∀ {i x}, ys[i]? = some x → x ∈ auths o := fun h => hys.mem_iff.mp (List.mem_of_getElem? h)
    refine lc_list (K := K) (a := l) (xs := ys.map V.str) (fun i H2 => Same H1 H2 ∧ ∃ ps : List Addr, H2 D = some (.lst (ps.map V.ref)) ∧ Paired (fun (p : Addr) (q : Str × Nat) => H2 p = some (.tup [.str q.1, .int q.2])) ps ((ys.take i).map fun x => (x, heldN o x)))
      ⟨same_new hD, [], upd_same, .nil⟩ (fun i H2 _ q => SqL.of (q.1 _ _ hl1)) ?_ ?_
    · rintro i y H2 hi ⟨s2, ps, e1, e2⟩
      obtain ⟨x, hx, rfl⟩ := map_get hi
      have hxa := hmem hx
      obtain ⟨as, r1, r2⟩ := L.st.rows.row x hxa
      have e0 := row_get (L.st.rows.same (sl.trans s2)) x
      rw [if_pos hxa] at e0
      refine ⟨rfl, ?_⟩
      refine yes_i ?_
      refine ⟨_, rfl, _, rfl, A.p, _, dx, _, _, rfl, s2 _ _ (sl _ _ h1), T.kG, T.gRo, gf_ro _ _ _ _ _ _, _, rfl, A.S.dr, _, rfl, e0, A.S.la x, _, rfl, .inl (SqL.of (s2 _ _ (sl _ _ r1))), (by show 2 ≤ sizeLine; decide), fun p hp => ?_⟩
      have hpD : p ≠ D := fun z => by rw [z, e1] at hp; cases hp
      have hx2 : ((as.map V.ref).length : Int) = ((heldN o x : Nat) : Int) := by rw [List.length_map, pair_len r2]; rfl
      have hpl : ps.length < sizeLine := by
        have h5 := pair_len e2
        have h6 := hys.length_eq
        rw [List.length_map, List.length_take] at h5
        rw [sizeLine_eq]
        omega
      refine ⟨ps.map V.ref, by rw [upd_ne hpD.symm]; exact e1, by rw [List.length_map]; exact hpl, ?_, ps ++ [p], by rw [List.map_append]; exact upd_same, ?_⟩
      · intro b u e
        rw [upd_ne (fun z => by rw [z, hD] at e; cases e), upd_ne (fun z => by have := s2 _ _ e; rw [z, hp] at this; cases this)]
        exact s2 _ _ e
      · have e3 : (ys.take (i + 1)).map (fun x => (x, heldN o x)) = (ys.take i).map (fun x => (x, heldN o x)) ++ [(x, heldN o x)] := by
          rw [List.take_add_one, hx]
          simp
        rw [e3]
        refine SeenAt.snoc (Paired.mapP e2 fun a b r => ?_) ?_
        · rw [upd_ne (fun z => by rw [z, e1] at r; cases r), upd_ne (fun z => by rw [z, hp] at r; cases r)]
          exact r
        · rw [upd_ne hpD, upd_same, hx2]
    · rintro H2 ⟨s2, ps, e1, e2⟩
      rw [List.length_map, List.take_length] at e2
      refine ⟨D, _, rfl, .inl ⟨SqL.of e1, fun t ht => k t _ ys hys hso ⟨ps, upd_same, Paired.mapP e2 fun a b r => ?_⟩ (fun b u e => ?_) ?_⟩⟩
      · rw [upd_ne (fun z => by rw [z, ht] at r; cases r)]
        exact r
      · rw [upd_ne (fun z => by have := s2 _ _ (sl _ _ e); rw [z, ht] at this; cases this)]
        exact s2 _ _ (sl _ _ e)
      · cases q : H t with
        | none => rfl
        | some u =>
          have := s2 _ _ (sl _ _ q)
          rw [ht] at this
          cases this
end
end Lo
set_option Elab.async false
set_option maxRecDepth 100000
set_option maxHeartbeats 4000000
namespace Lo
open PySem PySem.Spec PyProof.Rows L2
open C8 (Cal Met Mak scC fnScope_by pe_c pe_mk pe_mt pe_mt0)
section
variable {P : Program} {w : World} {K : PySem.W.Frag} {mg : Str → Option Value} {base : Heap} {f : Addr}
def spLetter (K : PySem.W.Frag) : Sp := fun vs H Q _ => ∃ (A : LA) (g : Ltr) (o w : List Ltr) (t : Addr) (x : Str) (n : Nat) (l : Ltr), vs = [.ref A.p, .ref t] ∧ LedAt K H A g o w ∧ H t = some (.tup [.str x, .int n]) ∧ 0 < n ∧ (rowOf o x)[n - 1]? = some l ∧
  ∀ (a : Addr) (H' : Hp), Same H H' → LetterAt (cL K) H' a l → Q (.ref a) H'
theorem ok_letter (S : Src K "letter" "Ledger.letter" s_Ledger_letter f) (T : Txt K mg) (m : Meth K (cG K) "letter" f) (mh : Met P w K mg base 1 (cG K) "held" (spHeld K) []) : Met P w K mg base 2 (cG K) "letter" (spLetter K) [] := by
  refine met_of S T.kG m sc_Ledger_letter bi_Ledger_letter (fun vs H Q E h => ?_) (fun cdv A outer s H vs Q E hr h => ?_)
  · obtain ⟨A, g, o, w, t, x, n, l, rfl, _⟩ := h
    rfl
  · obtain ⟨A, g, o, w, t, x, n, l, rfl, L, ht, hn, hl, k⟩ := h
    obtain ⟨dx, h1⟩ := L.ob
    have hu := hu_of hr
    have nd := (fnScope_by sc_Ledger_letter).nd
    refine ⟨_, pss_cons (ps_asg (pv 1) (pg_tup (by rfl) (pgs_cons (pg_name (i := 2) nd rfl (.inl rfl)) (pgs_cons (pg_name (i := 3) nd rfl (.inl rfl)) pgs_nil))))
      (pss_cons (ps_if (pt_not (pt_chain op_le op_le pe_int (pv 3) (pe_mt mh hr (by decide) (pv 0) (pa_cons (pv 2) pa_nil)))) (pss_one ps_never) pss_nil)
      (pss_one (ps_ret (pe_ix ix_list (pe_dget hu (pe_fld (pv 0) rfl) (pv 2) (fun _ _ => rfl)) (pe_op op_sub (pv 3) pe_int) (fun _ _ => rfl))))), ?_⟩
    refine ⟨_, rfl, t, _, rfl, SqT.of ht, rfl, _, _, rfl, _, _, rfl, rfl, ?_⟩
    have hlt := (List.getElem?_eq_some_iff.mp hl).1
    refine ⟨_, rfl, _, _, rfl, rfl, _, rfl, ?_⟩
    have e1 : decide ((1 : Int) ≤ (n : Nat)) = true := decide_eq_true (by omega)
    rw [e1]
    refine iteT ⟨_, rfl, A.p, dx, _, rfl, h1, rfl, _, rfl, A, g, o, w, x, rfl, L, fun H' s1 => ⟨_, _, rfl, rfl, _, rfl, ?_⟩⟩
    have e2 : decide (((n : Nat) : Int) ≤ (heldN o x : Nat)) = true := decide_eq_true (by unfold heldN; omega)
    rw [e2]
    refine iteF ?_
    have hxa : x ∈ auths o := by
      by_cases h : x ∈ auths o
      · exact h
      · rw [row_nil h] at hlt
        cases hlt
    obtain ⟨as, r1, r2⟩ := L.st.rows.row x hxa
    have e0 := row_get (L.st.rows.same s1) x
    rw [if_pos hxa] at e0
    obtain ⟨a, ha, hal⟩ := pair_r r2 hl
    refine ⟨_, rfl, A.p, _, dx, _, _, rfl, s1 _ _ h1, T.kG, T.gRo, gf_ro _ _ _ _ _ _, _, rfl, A.S.dr, _, rfl, e0, _, rfl, _, _, rfl, rfl, A.S.la x, _, _, _, rfl, rfl, SqL.of (s1 _ _ r1), (by
      have e3 : ((n : Nat) : Int) - 1 = ((n - 1 : Nat) : Int) := by omega
      rw [e3]
      exact atI_nat (j := n - 1) (show _ = some (V.ref a) by rw [List.getElem?_map, ha]; rfl)), k a H' s1 (hal.im (.same s1))⟩
def spLetters (K : PySem.W.Frag) : Sp := fun vs H Q _ => ∃ (A : LA) (g : Ltr) (o w : List Ltr), vs = [.ref A.p] ∧ LedAt K H A g o w ∧ ∀ (p : Addr) (as : List Addr), H p = none → Ls K H as o → Q (.ref p) (upd H p (.lst (as.map V.ref)))
theorem ok_letters (S : Src K "letters" "Ledger.letters" s_Ledger_letters f) (T : Txt K mg) (m : Meth K (cG K) "letters" f) : Met P w K mg base 1 (cG K) "letters" (spLetters K) [] := by
  refine met_of S T.kG m sc_Ledger_letters bi_Ledger_letters (fun vs H Q E h => ?_) (fun cdv A outer s H vs Q E hr h => ?_)
  · obtain ⟨A, g, o, w, rfl, _⟩ := h
    rfl
  · obtain ⟨A, g, o, w, rfl, L, k⟩ := h
    obtain ⟨dx, h1⟩ := L.ob
    obtain ⟨as, r1, r2⟩ := L.st.ord
    refine ⟨_, pss_one (ps_ret (pe_callTy call_list_of (by rfl) T.list (by decide +kernel) (pa_cons (pe_fld (pv 0) rfl) pa_nil))), ?_⟩
    exact ⟨_, rfl, A.p, _, dx, _, _, rfl, h1, T.kG, T.gOr, gf_or _ _ _ _ _ _, A.S.lo, _, rfl, .inl (SqL.of r1), fun p hp => k p as hp r2⟩
theorem lim_known (g : Ltr) (o : List Ltr) (x : Str) (h : x ∉ (rollS g o).names) : (rollS g o).lim x = none := by
  cases e : (rollS g o).lim x with
  | none => rfl
  | some m => exact absurd ((rollOk g o).ln _ _ e) h
def spVoid (K : PySem.W.Frag) : Sp := fun vs H Q _ => ∃ (A : LA) (g : Ltr) (o w : List Ltr) (a : Addr) (l : Ltr), vs = [.ref A.p, .ref a] ∧ LedAt K H A g o w ∧ LetterAt (cL K) H a l ∧ ∀ H' : Hp, Same H H' → Q (.bl (voidR (rollS g o) l)) H'
theorem ok_void (S : Src K "_is_void" "Ledger._is_void" s_Ledger_is_void f) (T : Txt K mg) (m : Meth K (cG K) "_is_void" f) (mk : Met P w K mg base 1 (cR K) "is_known" (spKnown K) []) (mc : Met P w K mg base 1 (cR K) "counts" (spRCounts K) [])
    (mr : Prp P w K mg base 1 (cL K) "ref" (spRef K)) : Met P w K mg base 3 (cG K) "_is_void" (spVoid K) [] := by
  refine met_of S T.kG m sc_Ledger_is_void bi_Ledger_is_void (fun vs H Q E h => ?_) (fun cdv A outer s H vs Q E hr h => ?_)
  · obtain ⟨A, g, o, w, a, l, rfl, _⟩ := h
    rfl
  · obtain ⟨A, g, o, w, a, l, rfl, L, hl, k⟩ := h
    obtain ⟨dx, h1⟩ := L.ob
    obtain ⟨dy, ts, tb, a1, a2, a3⟩ := id hl
    obtain ⟨dr, r1⟩ := L.rl.ob
    refine ⟨_, pss_one (ps_ret (pe_and (pe_mt mk hr (by decide) (pe_fld (pv 0) rfl) (pa_cons (pe_fld (pv 1) rfl) pa_nil))
      (pe_one (pe_not (pe_mt mc hr (by decide) (pe_fld (pv 0) rfl) (pa_cons (pe_prp mr hr (by decide) (pv 1)) pa_nil)))))), ?_⟩
    refine ⟨_, rfl, A.p, _, dx, _, _, rfl, h1, T.kG, T.gRl, gf_rl _ _ _ _ _ _, A.r, dr, _, rfl, r1, rfl, _, rfl, a, _, dy, _, _, rfl, a1, T.kL, T.nAu, lf_au _ _ _, A.r, A.dc, A.dl, _, l.au, rollS g o, rfl, L.rl, _, rfl, ?_⟩
    have hk := lim_known g o l.au
    unfold voidR at k
    cases hx : decide (l.au ∈ (rollS g o).names) with
    | false =>
      rw [hk (of_decide_eq_false hx)] at k
      exact iteF (k _ (.refl H))
    | true =>
      refine iteT ⟨_, rfl, A.p, _, dx, _, _, rfl, h1, T.kG, T.gRl, gf_rl _ _ _ _ _ _, A.r, dr, _, rfl, r1, rfl, _, rfl, a, dy, _, rfl, a1, a, l, rfl, hl, fun p hp => ?_⟩
      have sp : Same H (upd H p (.tup [.str l.au, .int l.num])) := same_new hp
      refine ⟨A.r, A.dc, A.dl, p, _, l, rollS g o, rfl, L.rl.same sp, upd_same, _, rfl, ?_⟩
      have hk2 := k _ sp
      unfold cntsR
      rw [hx]
      cases e : (rollS g o).lim l.au with
      | none => rw [e] at hk2; exact hk2
      | some m =>
        rw [e] at hk2
        have e4 : (!(true && decide (l.num ≤ m))) = decide (m < l.num) := by rw [Bool.true_and, ← decide_not]; exact decide_eq_decide.mpr Nat.not_le
        show Q (.bl (!(true && decide (l.num ≤ m)))) _
        rw [e4]
        exact hk2
def spHas (K : PySem.W.Frag) : Sp := fun vs H Q _ => ∃ (A : LA) (g : Ltr) (o w : List Ltr) (x : Str) (n : Nat), vs = [.ref A.p, .str x, .int n] ∧ LedAt K H A g o w ∧ ∀ H' : Hp, Same H H' → Q (.bl (hasC (rollS g o) o x n)) H'
theorem ok_has (S : Src K "_has_count" "Ledger._has_count" s_Ledger_has_count f) (T : Txt K mg) (m : Meth K (cG K) "_has_count" f) (mk : Met P w K mg base 1 (cR K) "is_known" (spKnown K) []) (ml : Met P w K mg base 1 (cR K) "limit" (spLimit K) [])
    (mh : Met P w K mg base 1 (cG K) "held" (spHeld K) []) : Met P w K mg base 2 (cG K) "_has_count" (spHas K) [] := by
  refine met_of S T.kG m sc_Ledger_has_count bi_Ledger_has_count (fun vs H Q E h => ?_) (fun cdv A outer s H vs Q E hr h => ?_)
  · obtain ⟨A, g, o, w, x, n, rfl, _⟩ := h
    rfl
  · obtain ⟨A, g, o, w, x, n, rfl, L, k⟩ := h
    obtain ⟨dx, h1⟩ := L.ob
    obtain ⟨dr, r1⟩ := L.rl.ob
    have nd := (fnScope_by sc_Ledger_has_count).nd
    refine ⟨_, pss_cons (ps_if (PW.pt (pw_and (pt_val (pe_mt mk hr (by decide) (pe_fld (pv 0) rfl) (pa_cons (pv 1) pa_nil))) (pw_and1 (pt_cmpR op_notN (pe_mt ml hr (by decide) (pe_fld (pv 0) rfl) (pa_cons (pv 1) pa_nil)) pe_non (nomark _)))))
        (pss_one (ps_set (i := 2) nd rfl (.inl rfl) (pe_callB (call_min2 rfl) (by rfl) T.min (by decide +kernel) (pa_cons (pv 2) (pa_cons (pe_mt ml hr (by decide) (pe_fld (pv 0) rfl) (pa_cons (pv 1) pa_nil)) pa_nil))))) pss_nil)
      (pss_one (ps_ret (pe_cmpR op_ge (pe_mt mh hr (by decide) (pv 0) (pa_cons (pv 1) pa_nil)) (pv 2) (nomark _)))), ?_⟩
    have hk := lim_known g o x
    unfold hasC least at k
    refine ⟨_, rfl, A.p, _, dx, _, _, rfl, h1, T.kG, T.gRl, gf_rl _ _ _ _ _ _, A.r, dr, _, rfl, r1, rfl, _, rfl, A.r, A.dc, A.dl, _, x, rollS g o, rfl, L.rl, _, rfl, ?_⟩
    have cmp : ∀ c : Nat, decide (((c : Nat) : Int) ≤ ((heldN o x : Nat) : Int)) = decide (c ≤ heldN o x) := fun c => decide_eq_decide.mpr Int.ofNat_le
    cases hx : decide (x ∈ (rollS g o).names) with
    | false =>
      rw [hk (of_decide_eq_false hx)] at k
      refine iteF (iteF ⟨_, rfl, A.p, dx, _, rfl, h1, rfl, _, rfl, A, g, o, w, x, rfl, L, fun H' s1 => ⟨_, rfl, _, _, rfl, rfl, ?_⟩⟩)
      have := k _ s1
      rw [← cmp] at this
      exact this
    | true =>
      refine iteT ⟨_, rfl, A.p, _, dx, _, _, rfl, h1, T.kG, T.gRl, gf_rl _ _ _ _ _ _, A.r, dr, _, rfl, r1, rfl, _, rfl, A.r, A.dc, A.dl, _, x, rollS g o, rfl, L.rl, of_decide_eq_true hx, rfl, _, rfl, ?_⟩
      cases e : (rollS g o).lim x with
      | none =>
        rw [e] at k
        refine iteF ⟨_, rfl, A.p, dx, _, rfl, h1, rfl, _, rfl, A, g, o, w, x, rfl, L, fun H' s1 => ⟨_, rfl, _, _, rfl, rfl, ?_⟩⟩
        have := k _ s1
        rw [← cmp] at this
        exact this
      | some q =>
        rw [e] at k
        refine iteT ⟨_, rfl, _, rfl, A.p, _, dx, _, _, rfl, h1, T.kG, T.gRl, gf_rl _ _ _ _ _ _, A.r, dr, _, rfl, r1, rfl, _, rfl, A.r, A.dc, A.dl, _, x, rollS g o, rfl, L.rl, of_decide_eq_true hx, ?_⟩
        rw [e]
        refine ⟨_, _, rfl, _, rfl, A.p, dx, _, rfl, h1, rfl, _, rfl, A, g, o, w, x, rfl, L, fun H' s1 => ⟨_, rfl, _, _, rfl, rfl, ?_⟩⟩
        have hk3 := k _ s1
        rw [← cmp] at hk3
        have e5 : (if ((q : Nat) : Int) < ((n : Nat) : Int) then ((q : Nat) : Int) else ((n : Nat) : Int)) = ((min n q : Nat) : Int) := by
          split <;> omega
        rw [e5]
        exact hk3
end
end Lo
set_option Elab.async false
set_option maxRecDepth 100000
set_option maxHeartbeats 4000000
namespace Lo
open PySem PySem.Spec PyProof.Rows L2
open C8 (Cal Met Mak scC fnScope_by pe_c pe_mk pe_mt pe_mt0)
section
variable {P : Program} {w : World} {K : PySem.W.Frag} {mg : Str → Option Value} {base : Heap} {f : Addr}
def spCan (K : PySem.W.Frag) : Sp := fun vs H Q _ => ∃ (A : LA) (g : Ltr) (o w : List Ltr) (a : Addr) (l : Ltr), vs = [.ref A.p, .ref a] ∧ LedAt K H A g o w ∧ LetterAt (cL K) H a l ∧ ∀ H' : Hp, Same H H' → Q (.bl (can (rollS g o) o l)) H'
theorem take_all {α : Type} {p : α → Bool} {xs : List α} (h : ∀ (j : Nat) x, xs[j]? = some x → p x = true) : xs.all p = true := by
  rw [List.all_eq_true]
  intro x hx
  obtain ⟨j, hj⟩ := List.mem_iff_getElem?.mp hx
  exact h j x hj
theorem not_all {α : Type} {p : α → Bool} {xs : List α} {j : Nat} {x : α} (h : xs[j]? = some x) (q : p x = false) : xs.all p = false := by
  cases e : xs.all p with
  | false => rfl
  | true =>
    rw [List.all_eq_true] at e
    rw [e x (List.mem_of_getElem? h)] at q
    cases q
theorem ok_can (S : Src K "_can_hold" "Ledger._can_hold" s_Ledger_can_hold f) (T : Txt K mg) (m : Meth K (cG K) "_can_hold" f) (mc : Met P w K mg base 1 (cR K) "counts" (spRCounts K) []) (mr : Prp P w K mg base 1 (cL K) "ref" (spRef K))
    (mh : Met P w K mg base 1 (cG K) "held" (spHeld K) []) (mhc : Met P w K mg base 2 (cG K) "_has_count" (spHas K) []) : Met P w K mg base 3 (cG K) "_can_hold" (spCan K) [] := by
  refine met_of S T.kG m sc_Ledger_can_hold bi_Ledger_can_hold (fun vs H Q E h => ?_) (fun cdv A outer s H vs Q E hr h => ?_)
  · obtain ⟨A, g, o, w, a, l, rfl, _⟩ := h
    rfl
  · obtain ⟨A, g, o, w, a, l, rfl, L, hl, k⟩ := h
    obtain ⟨dx, h1⟩ := L.ob
    obtain ⟨dr, r1⟩ := L.rl.ob
    obtain ⟨dy, ts, tb, a1, ⟨ps, a2, a3⟩, a4⟩ := id hl
    have nd := (fnScope_by sc_Ledger_can_hold).nd
    refine ⟨_, pss_cons (ps_if (PW.pt (pw_or (pt_not (pt_val (pe_mt mc hr (by decide) (pe_fld (pv 0) rfl) (pa_cons (pe_prp mr hr (by decide) (pv 1)) pa_nil))))
          (pw_or1 (pt_cmpR op_ne (pe_fld (pv 1) rfl) (pe_op op_add (pe_mt mh hr (by decide) (pv 0) (pa_cons (pe_fld (pv 1) rfl) pa_nil)) pe_int) (nomark _))))) (pss_one (ps_ret pe_bl)) pss_nil)
      (pss_cons (ps_for PassesOwn.never rfl (pi_tup (pe_fld (pv 1) rfl)) (pg_tup (by rfl) (pgs_cons (pg_name (i := 2) nd rfl (.inl rfl)) (pgs_cons (pg_name (i := 3) nd rfl (.inl rfl)) pgs_nil)))
        (pss_one (ps_if (PW.pt (pw_and (pt_cmpR op_ne (pv 2) (pe_fld (pv 1) rfl) (nomark _)) (pw_and1 (pt_not (pt_val (pe_mt mhc hr (by decide) (pv 0) (pa_cons (pv 2) (pa_cons (pv 3) pa_nil)))))))) (pss_one (ps_ret pe_bl)) pss_nil)))
      (pss_one (ps_ret pe_bl))), ?_⟩
    unfold can at k
    refine ⟨_, rfl, A.p, _, dx, _, _, rfl, h1, T.kG, T.gRl, gf_rl _ _ _ _ _ _, A.r, dr, _, rfl, r1, rfl, _, rfl, a, dy, _, rfl, a1, a, l, rfl, hl, fun p hp => ?_⟩
    have sp : Same H (upd H p (.tup [.str l.au, .int l.num])) := same_new hp
    refine ⟨A.r, A.dc, A.dl, p, _, l, rollS g o, rfl, L.rl.same sp, upd_same, _, rfl, ?_⟩
    generalize upd H p (.tup [.str l.au, .int l.num]) = H1 at sp
    cases hc : cntsR (rollS g o) l.au l.num with
    | false =>
      rw [hc] at k
      refine iteT ?_
      refine iteT ?_
      exact k _ sp
    | true =>
      rw [hc, Bool.true_and] at k
      refine iteF ⟨_, rfl, a, _, dy, _, _, rfl, sp _ _ a1, T.kL, T.nNu, lf_nu _ _ _, _, rfl, A.p, dx, _, rfl, sp _ _ h1, rfl, _, rfl, a, _, dy, _, _, rfl, sp _ _ a1, T.kL, T.nAu, lf_au _ _ _, A, g, o, w, l.au, rfl, L.same sp, fun H2 s2 => ?_⟩
      have s3 := sp.trans s2
      refine ⟨_, _, rfl, rfl, rfl, _, rfl, ?_⟩
      have e1 : (V.int (l.num : Nat) = V.int (((heldN o l.au : Nat) : Int) + 1)) ↔ l.num = heldN o l.au + 1 := ⟨fun z => by have := V.int.inj z; omega, fun z => by rw [z]; rfl⟩
      refine ite2 (fun hb => ?_) (fun hb => ?_)
      · have hb2 : ¬ l.num = heldN o l.au + 1 := fun z => by
          rw [decide_eq_true (e1.mpr z)] at hb
          cases hb
        rw [decide_eq_false hb2, Bool.false_and] at k
        exact k _ s3
      · have hb2 : l.num = heldN o l.au + 1 := by
          cases q : decide (V.int (l.num : Nat) = V.int (((heldN o l.au : Nat) : Int) + 1)) with
          | false => rw [q] at hb; exact absurd rfl hb
          | true => exact e1.mp (of_decide_eq_true q)
        rw [decide_eq_true hb2, Bool.true_and] at k
        refine ⟨_, rfl, a, _, dy, _, _, rfl, s3 _ _ a1, T.kL, T.nSe, lf_se _ _ _, ts, rfl, ⟨_, SqT.of (s3 _ _ a2)⟩, for_tup (K := K) (a := ts) (xs := ps.map V.ref) (fun i σ H2 => ∃ u v : Option V, σ = [some (.ref A.p), some (.ref a), u, v] ∧ Same H H2 ∧ ∀ j p, j < i → l.seen[j]? = some p → (decide (p.1 = l.au) || hasC (rollS g o) o p.1 p.2) = true)
          ⟨none, none, rfl, s3, fun j p hj => absurd hj (Nat.not_lt_zero _)⟩ ?_ ?_ ?_⟩
        · rintro i σ H2 _ ⟨u, v, rfl, s2, _⟩
          exact SqT.of (s2 _ _ a2)
        · rintro i y σ H2 hi ⟨u, v, rfl, s2, hn⟩
          obtain ⟨q, hq, rfl⟩ := map_get hi
          obtain ⟨c, hc2, hpc⟩ := pair_l a3 hq
          refine ⟨q, _, rfl, SqT.of (s2 _ _ hpc), rfl, _, _, rfl, _, _, rfl, rfl, _, rfl, _, rfl, a, _, dy, _, _, rfl, s2 _ _ a1, T.kL, T.nAu, lf_au _ _ _, rfl, _, rfl, ?_⟩
          have step : (decide (c.1 = l.au) || hasC (rollS g o) o c.1 c.2) = true → ∀ j p, j < i + 1 → l.seen[j]? = some p → (decide (p.1 = l.au) || hasC (rollS g o) o p.1 p.2) = true := fun hh j p hj hp => by
            rcases Nat.lt_or_eq_of_le (Nat.lt_succ_iff.mp hj) with hj | rfl
            · exact hn j p hj hp
            · rw [hc2] at hp
              cases hp
              exact hh
          by_cases hx : c.1 = l.au
          · have e : decide (V.str c.1 = V.str l.au) = true := decide_eq_true (by rw [hx])
            show if (!decide (V.str c.1 = V.str l.au)) = true then _ else _
            rw [e, Bool.not_true]
            refine iteF ?_
            exact ⟨_, _, rfl, s2, step (by rw [decide_eq_true hx]; rfl)⟩
          · have e : decide (V.str c.1 = V.str l.au) = false := decide_eq_false fun z => hx (V.str.inj z)
            show if (!decide (V.str c.1 = V.str l.au)) = true then _ else _
            rw [e, Bool.not_false]
            refine iteT ⟨_, rfl, A.p, dx, _, rfl, s2 _ _ h1, rfl, _, rfl, _, rfl, A, g, o, w, c.1, c.2, rfl, L.same s2, fun H3 s4 => ⟨_, rfl, ?_⟩⟩
            cases hh : hasC (rollS g o) o c.1 c.2 with
            | true => exact iteF ⟨_, _, rfl, s2.trans s4, step (by rw [hh, Bool.or_true])⟩
            | false =>
              refine iteT ?_
              have e6 := not_all (p := fun p : Str × Nat => decide (p.1 = l.au) || hasC (rollS g o) o p.1 p.2) hc2 (by show (decide (c.1 = l.au) || _) = false; rw [decide_eq_false hx, hh]; rfl)
              rw [e6] at k
              exact k _ (s2.trans s4)
        · rintro σ H2 ⟨u, v, rfl, s2, hn⟩
          have e6 := take_all (p := fun p : Str × Nat => decide (p.1 = l.au) || hasC (rollS g o) o p.1 p.2) fun j x hx => hn j x (by rw [List.length_map, pair_len a3]; exact (List.getElem?_eq_some_iff.mp hx).1) hx
          rw [e6] at k
          exact k _ s2
end
end Lo
set_option Elab.async false
set_option maxRecDepth 100000
set_option maxHeartbeats 4000000
namespace Lo
open PySem PySem.Spec PySem.W PyProof.Rows L2
/-! ### t < u of data that is alike -/
def rLtD (K : PySem.W.Frag) : R2 := fun x y H Q => ∃ d e, Dp K H x d ∧ Dp K H y e ∧ PySem.W.alike d e = true ∧ d ≠ .none ∧ d.depth ≤ 60 ∧ Q (.bl (PySem.W.dataLt d e)) H
section
variable {X : Cx}
theorem op_ltD (hu : X.A.units + 64 < cLine) : OpR X (compareOp .Lt) (rLtD X.K) := by
  intro pins s σ H x y v u Q I rx ry h
  obtain ⟨d, e, hd, he, al, hn, hz, q⟩ := h
  obtain ⟨as, r1⟩ := Dp.reads I d x v hd rx
  obtain ⟨bs, r2⟩ := Dp.reads I e y u he ry
  exact PySem.W.rcLt_alike d e _ _ v u as bs r1 r2 al hn (by omega) _ _ _ _ ⟨.bl _, H, I, rfl, q⟩
/-! ### sorted(..) of pairs of a text and a number -/
def refD (q : Str × Nat) : PyData := .tuple [.str q.1, .int q.2]
abbrev RB := Addr × (Str × Nat)
def sortR (bs : List RB) : List RB := bs.mergeSort (PySem.W.dataLe false fun b => refD b.2)
theorem ref_alike (bs : List RB) : PySem.W.AllAlike (bs.map fun b => refD b.2) := by
  intro d hd e he
  obtain ⟨x, _, rfl⟩ := List.mem_map.mp hd
  obtain ⟨y, _, rfl⟩ := List.mem_map.mp he
  simp [refD, PySem.W.alike, PySem.W.alikeAll]
theorem ref_sortable (bs : List RB) : PySem.W.Sortable (bs.map fun b => refD b.2) := by
  refine .inl fun d hd => ?_
  obtain ⟨x, _, rfl⟩ := List.mem_map.mp hd
  exact ⟨_, _, rfl⟩
theorem ref_depth (q : Str × Nat) : (refD q).depth ≤ 8 := by
  simp [refD, PyData.depth, PyData.depthAll]
theorem ref_reads {h : Heap} {v : Value} {q : Str × Nat} {as : List Addr} (r : Reads h v (refD q) as) : as = [] := by
  unfold refD at r
  cases r with
  | @tuple _ _ vs _ _ _ _ _ _ r =>
    generalize vs.toList = l at r
    cases r with
    | cons r1 r2 =>
      cases r1
      cases r2 with
      | cons r3 r4 =>
        cases r3
        cases r4
        rfl
theorem each_refs (bs : List RB) {R : Value → RB → Prop} (h : ∀ b ∈ bs, R (.ref b.1) b) : PySem.W.EachIs R (bs.map fun b => Value.ref b.1) bs := by
  induction bs with
  | nil => exact .nil
  | cons b r ih => exact .cons (h b List.mem_cons_self) (ih fun c hc => h c (List.mem_cons_of_mem _ hc))
theorem each_out {out : List Value} {cs : List RB} (e : PySem.W.EachIs (fun v (b : RB) => v = Value.ref b.1) out cs) : out = cs.map fun b => Value.ref b.1 := by
  induction e with
  | nil => rfl
  | cons h _ ih => rw [List.map_cons, h, ih]
theorem vals_rb (bs : List RB) : Vals (bs.map fun b => V.ref b.1) (bs.map fun b => Value.ref b.1) := by
  induction bs with
  | nil => exact .nil
  | cons b r ih => exact .cons rfl ih
theorem vals_eq {bs : List RB} {us : List Value} (r : Vals (bs.map fun b => V.ref b.1) us) : us = bs.map fun b => Value.ref b.1 := by
  induction bs generalizing us with
  | nil => cases r; rfl
  | cons b t ih =>
    cases r with
    | cons h1 h2 =>
      rw [List.map_cons, ih h2, show _ = Value.ref b.1 from h1]
def RefAt (H : Hp) (b : RB) : Prop := H b.1 = some (.tup [.str b.2.1, .int b.2.2])
theorem RefAt.dp {K : PySem.W.Frag} {H : Hp} {b : RB} (h : RefAt H b) : Dp K H (.ref b.1) (refD b.2) := .tup (SqT.of h) (.cons (.str _) (.cons (.int _) .nil))
def rSortR (K : PySem.W.Frag) : List V → Hp → VK → Prop := fun xs H Q => ∃ (l : Addr) (bs : List RB), xs = [.ref l] ∧ SqL K H l (bs.map fun b => V.ref b.1) ∧ (∀ b ∈ bs, RefAt H b) ∧
  ∀ p, H p = none → Q (.ref p) (upd H p (.lst ((sortR bs).map fun b => V.ref b.1)))
theorem cr_sortR (hu : X.A.units + 64 < cLine) : CallR X (.builtin "sorted") (rSortR X.K) := by
  intro pins s σ H vs us Q I r h
  obtain ⟨l, bs, rfl, hs, hb, q⟩ := h
  obtain ⟨its, rv, hl, hz⟩ := I.list hs
  rw [Vals.ref1 r]
  have ei := vals_eq rv
  rw [ei] at hl
  rw [List.length_map] at hz
  refine PySem.W.sorted_data (R := fun v (b : RB) => v = Value.ref b.1) (enc := fun b : RB => refD b.2) (bs := bs) (vs := bs.map fun b => Value.ref b.1) hl.isList (each_refs bs fun _ _ => rfl)
    (each_refs bs fun b hb' => Dp.reads I _ _ _ (hb b hb').dp rfl) (ref_alike bs) (ref_sortable bs) (by first | exact hz | simpa using hz) (fun b _ => by have := ref_depth b.2; omega) fun out ho eo => ?_
  have eout := each_out eo
  obtain ⟨ep, he'⟩ := PyProof.Rows.sortedAll_at s.heap (bs.map fun b => Value.ref b.1) out.toArray
  have hlen : ((sortR bs).map fun b => V.ref b.1).length ≤ sizeLine := by
    unfold sortR
    rw [List.length_map, List.length_mergeSort]
    first | exact hz | simpa using hz
  exact ⟨.ref _, upd H (s.heap.objs.size + 1) (.lst ((sortR bs).map fun b => V.ref b.1)), I.laid (t' := s.toks) (fun _ _ => PyProof.Rows.sortedAll_old) (Nat.le_succ _) ⟨hlen, out, ep, by rw [eout]; exact vals_rb _, he'⟩, rfl, q _ (I.hok.fresh (Nat.le_succ _))⟩
/-! ### sorted(d), d's keys such pairs -/
theorem rb_of {H : Hp} : ∀ {kvs : List (List Key × V)} {as : List Addr} {qs : List (Str × Nat)}, IsKeys H kvs as → kvs.map (·.1) = qs.map (fun q => [Sum.inr q.1, Sum.inl (q.2 : Int)]) → ∃ bs : List RB, bs.map (·.1) = as ∧ bs.map (·.2) = qs ∧ ∀ b ∈ bs, RefAt H b
  | [], _, qs, h, e => by
    cases h
    cases qs with
    | nil => exact ⟨[], rfl, rfl, fun _ h => by cases h⟩
    | cons _ _ => cases e
  | kv :: kvs, _, qs, h, e => by
    cases qs with
    | nil => cases e
    | cons q qs =>
      unfold IsKeys at h
      cases h with
      | @cons _ a _ as h1 h2 =>
        obtain ⟨bs, e1, e2, e3⟩ := rb_of (H := H) (kvs := kvs) (as := as) (qs := qs) h2 (List.cons.inj e).2
        have e4 : kv.1 = [Sum.inr q.1, Sum.inl (q.2 : Int)] := (List.cons.inj e).1
        refine ⟨(a, q) :: bs, by rw [List.map_cons, e1], by rw [List.map_cons, e2], fun b hb => ?_⟩
        rcases List.mem_cons.mp hb with rfl | hb
        · rw [e4] at h1
          exact h1
        · exact e3 b hb
def rSortT : List V → Hp → VK → Prop := fun xs H Q => ∃ (d : Addr) (kvs : List (List Key × V)) (qs : List (Str × Nat)), xs = [.ref d] ∧ L2.Rd H d (.dT kvs) ∧ kvs.map (·.1) = qs.map (fun q => [Sum.inr q.1, Sum.inl (q.2 : Int)]) ∧
  ∀ p (bs : List RB), bs.map (·.2) = qs → (∀ b ∈ bs, RefAt H b) → H p = none → Q (.ref p) (upd H p (.lst ((sortR bs).map fun b => V.ref b.1)))
theorem cr_sortT (hcalm : X.calm = true) (hu : X.A.units + 64 < cLine) : CallR X (.builtin "sorted") rSortT := by
  intro pins s σ H xs us Q I r h
  obtain ⟨d, kvs, qs, rfl, hd, hks, q⟩ := h
  obtain ⟨u, rfl, rx⟩ := r.one
  cases rx
  obtain ⟨z, hs, ks, pr, o, es, ep, ho, hx, hdt, he, hn⟩ := (show ObjOk X.prog X.w H s.heap d (.dT kvs) from hd.ok I.hok)
  have l1 : es.size = ks.length := size_of_entries he
  have l2 : kvs.length = ks.length := Paired.length pr
  obtain ⟨bs, b1, b2, b3⟩ := rb_of (isKeys_of pr) hks
  refine Calls.call_function_entry PyProof.Rows.kind_sorted PyProof.Rows.plain_sorted PyProof.Rows.entry_sorted (PyProof.Rows.args_sorted1 _) ?_
  unfold Builtin.«sorted»
  refine wpAny_bind (m := checkCount "sorted" 1 1 _) (wpAny_pure ?_)
  refine wpAny_bind (PySem.W.kdu_collect (A := X.A.in1) (kdl_raw hs hx hdt) (I.ok.hd hcalm) ho (by omega) fun h' tk acc hk hacc => ?_)
  have ea : acc.toList = bs.map fun b => Value.ref b.1 := by
    have e0 : (bs.map fun b => Value.ref b.1) = ks.map fun x => Value.ref x.2.1 := by
      have := congrArg (List.map Value.ref) b1
      rw [List.map_map, List.map_map] at this
      exact this
    rw [e0]
    have hl : acc.toList.length = ks.length := by rw [Array.length_toList, hacc.1]; exact l1
    apply List.ext_getElem?
    intro j
    rw [List.getElem?_map]
    cases hj : acc.toList[j]? with
    | none =>
      have h1 := List.getElem?_eq_none_iff.mp hj
      rw [List.getElem?_eq_none (by omega)]
      rfl
    | some v =>
      obtain ⟨en, hen, hv⟩ := hacc.2 j v (by rw [← Array.getElem?_toList]; exact hj)
      have qe := entry_at he j
      rw [hen] at qe
      cases hb : ks[j]? with
      | none =>
        rw [hb] at qe
        exact nomatch (show some en = none from qe)
      | some b =>
        rw [hb] at qe
        have e2 : en = entryOfKey (tupleKind (mixKind X.prog X.w)) b := Option.some.inj qe
        rw [hv, e2]
        rfl
  have I1 : Inv X pins σ H { s with heap := h', toks := tk } := I.kept hk
  have lb : bs.length = ks.length := by have := congrArg List.length b1; rwa [List.length_map, List.length_map] at this
  rw [ea]
  refine wpAny_bind (wpAny_newList ?_ (by rw [List.length_map]; omega))
  have hoL : (h'.push (seqObj "list" (bs.map fun b => Value.ref b.1).toArray 0)).get? h'.objs.size = some (seqObj "list" (bs.map fun b => Value.ref b.1).toArray 0) := Heap.get?_push_size _ rfl
  show wpAny _ _ _ _ _ { s with heap := h'.push (seqObj "list" (bs.map fun b => Value.ref b.1).toArray 0), toks := tk }
  refine wpAny_bind (wpAny_holding (PySem.W.list_sort_data (s := { s with heap := h'.push (seqObj "list" (bs.map fun b => Value.ref b.1).toArray 0), toks := tk }) (R := fun v (b : RB) => v = Value.ref b.1) (enc := fun b : RB => refD b.2) (bs := bs) (vs := bs.map fun b => Value.ref b.1) hoL
    (each_refs bs fun _ _ => rfl) (each_refs bs fun b hb' => ?_) (ref_alike bs) (ref_sortable bs) (by omega) (fun b _ => ?_) fun out hol eo => ?_))
  · obtain ⟨as, r1⟩ := Dp.reads I1 _ _ _ (b3 b hb').dp rfl
    have e := ref_reads r1
    rw [e] at r1
    exact ⟨[], PyProof.Rows.Reads.keeps (fun _ _ e => Heap.get?_push_of_some _ e) r1, by simp⟩
  · have := ref_depth b.2
    have hin : X.A.in1.units ≤ X.A.units + 1 := by first | exact Nat.le_refl _ | simp [Around.in1] | (unfold Around.in1; omega)
    omega
  · have eout := each_out eo
    obtain ⟨ep', he'⟩ := PyProof.Rows.sortedHeap_at (vs := bs.map fun b => Value.ref b.1) (out := out.toArray) hoL
    have hlen : ((sortR bs).map fun b => V.ref b.1).length ≤ sizeLine := by
      unfold sortR
      rw [List.length_map, List.length_mergeSort]
      omega
    refine wpAny_pure ⟨_, rfl, .ref h'.objs.size, upd H h'.objs.size (.lst ((sortR bs).map fun b => V.ref b.1)), I1.laid (t' := tk) (fun b u e => ?_) (Nat.le_refl _)
      (show ObjOk X.prog X.w _ _ _ (.lst ((sortR bs).map fun b => V.ref b.1)) from ⟨hlen, out, ep', by rw [eout]; exact vals_rb _, he'⟩), rfl, q _ bs b2 b3 (I1.hok.fresh (Nat.le_refl _))⟩
    have hb : b < h'.objs.size := Heap.lt_size e
    rw [PyProof.Rows.sortedHeap_old (Nat.ne_of_lt hb) (by rw [size_push']; exact Nat.lt_succ_of_lt hb)]
    exact Heap.get?_push_of_some _ e
end
/-! ### the order of refs -/
theorem refLt_eq (a b : Str × Nat) : PySem.W.dataLt (refD a) (refD b) = if a.1 = b.1 then decide (a.2 < b.2) else slt a.1 b.1 := by
  unfold refD
  rw [PySem.W.dataLt_pair (by simp [PySem.W.alike]) (by simp [PySem.W.alike]), PySem.W.dataLt_int, PySem.W.dataLt_str]
  simp only [PyData.eqv, beq_iff_eq]
  unfold slt
  by_cases h1 : a.1 = b.1
  · rw [if_pos h1, if_pos h1]
    by_cases h2 : (a.2 : Int) = (b.2 : Int)
    · rw [if_pos h2]
      have : ¬ a.2 < b.2 := by omega
      rw [decide_eq_false this]
    · rw [if_neg h2]
      exact decide_eq_decide.mpr Int.ofNat_lt
  · rw [if_neg h1, if_neg h1]
def refLe : Str × Nat → Str × Nat → Bool := PySem.W.dataLe false refD
theorem refLe_total : PySem.W.TotalLe refLe := PySem.W.sortLe_total (listOrd itemOrd) false fun b => PySem.W.keyToks (refD b)
theorem refLe_anti {a b : Str × Nat} (h1 : refLe a b = true) (h2 : refLe b a = true) : a = b := by
  have e1 : (!PySem.W.dataLt (refD b) (refD a)) = true := h1
  have e2 : (!PySem.W.dataLt (refD a) (refD b)) = true := h2
  rw [refLt_eq] at e1 e2
  by_cases h : a.1 = b.1
  · rw [if_pos h.symm] at e1
    rw [if_pos h] at e2
    have q1 : ¬ b.2 < a.2 := by simpa using e1
    have q2 : ¬ a.2 < b.2 := by simpa using e2
    exact Prod.ext h (by omega)
  · rw [if_neg (Ne.symm h)] at e1
    rw [if_neg h] at e2
    exact absurd (slt_total (by simpa using e2) (by simpa using e1)) h
def sortQ (qs : List (Str × Nat)) : List (Str × Nat) := qs.mergeSort refLe
theorem sortR_map (bs : List RB) : (sortR bs).map (·.2) = sortQ (bs.map (·.2)) := by
  unfold sortR sortQ
  exact PySem.W.sort_maps (r := PySem.W.dataLe false fun b : RB => refD b.2) (s := refLe) (fun b : RB => b.2) fun a _ b _ => rfl
theorem sortQ_perm {qs rs : List (Str × Nat)} (h : qs.Perm rs) : sortQ qs = sortQ rs := by
  unfold sortQ
  refine List.Perm.eq_of_pairwise (le := fun a b => refLe a b = true) (fun a b _ _ => refLe_anti) (PySem.W.sort_pairwise refLe_total qs) (PySem.W.sort_pairwise refLe_total rs) ?_
  exact (List.mergeSort_perm qs refLe).trans (h.trans (List.mergeSort_perm rs refLe).symm)
theorem sortR_mem {bs : List RB} {b : RB} : b ∈ sortR bs ↔ b ∈ bs := (List.mergeSort_perm bs _).mem_iff
end Lo
set_option Elab.async false
set_option maxRecDepth 100000
set_option maxHeartbeats 4000000
namespace Lo
open PySem PySem.Spec PySem.W PyProof.Rows L2
section
variable {X : Cx} {o i e : Expr} {td ty : TE} {pos tpos apos cpos : Pos}
theorem dt_gone {pins : List (Addr × Obj)} {σ : L2.St} {H : Hp} {s : Shared} {a : Addr} {kvs : List (List Key × V)} {k : List Key} (I : Inv X pins σ H s) (ea : H a = some (.dT kvs)) {xs : List (List Key × Addr × Value)} (z : kvs.length ≤ sizeLine) (hd : (a == sysModules) = false) (rel : KT H kvs xs)
    {h' : Heap} {tk : Nat} (dd : h'.DictOfH (tupleKind (mixKind X.prog X.w)) a (withoutH xs k)) (hs : Heap.SameBut a s.heap h') : Inv X pins σ (upd H a (.dT (dropK kvs k))) { s with heap := h', toks := tk } := by
  obtain ⟨o, es, ep, hq, h2, h3, h4, _, h5⟩ := dd
  exact d_write I (by rw [ea]; exact True.intro) hs ⟨o, hq⟩ ⟨Nat.le_trans (dropK_le kvs k) z, hd, _, (L2.DX.KT_drop k rel).keeps (fun c ys ec => (by rw [upd_ne (ne_of ec ea (fun z => nomatch z))]; exact ec)), o, es, ep, hq, h2, h3, h4, h5⟩
/-- del d[k], k a tuple -/
def sDDelT (td ty : TE) : TS := fun D σ H => td σ H fun x H1 => ty σ H1 fun y H2 => ∃ (a : Addr) (kvs : List (List Key × V)) (k : List Key) (b : Addr), x = .ref a ∧ H2 a = some (.dT kvs) ∧ y = .ref b ∧ H2 b = some (.tup (k.map kV)) ∧ (∃ v, valV kvs k = some v) ∧ D.nx σ (upd H2 a (.dT (dropK kvs k)))
theorem ps_ddelT (hu : X.A.units + 1 < cLine) (ho : PE X o td) (hi : PE X i ty) : PS X (.Delete [.Subscript o i tpos] pos) (sDDelT td ty) := by
  refine ⟨fun pins s σ H D I h => ?_⟩
  refine wpAny_Delete (wpAny_deleteEach_cons (wpAny_delete_Subscript (thn (ho.run pins s σ H _ I h) fun u s1 ⟨x, H1, I1, rx, q1⟩ => thn (hi.run pins s1 σ H1 _ I1 q1) fun iv s2 ⟨y, H2, I2, ry, a, kvs, k, b, ex, ea, ey, eb, ⟨v, ev⟩, q2⟩ => ?_)))
  subst ex ey
  obtain rfl : u = Value.ref a := rx
  obtain rfl : iv = Value.ref b := ry
  obtain ⟨z, hd, xs, rel, dd⟩ := dt_of I2.hok ea
  obtain ⟨w', hw, rw'⟩ := RelO.some_of (v := v) (o := (atKey xs k).map (·.2)) (by rw [← ev]; exact rel.val k)
  obtain ⟨p, hp, hp2⟩ := Option.map_eq_some_iff.mp hw
  have hz : xs.length ≤ sizeLine := by rw [← Paired.length rel]; exact z
  exact wpAny_delItem_heap (tupleKind_room_in1 hu) (key_of I2.hok eb) hd dd hp (fun h' dd' hs => wpAny_deleteEach_nil ⟨σ, _, dt_gone I2 ea z hd rel dd' hs, q2⟩) hz
/-- d.pop(k), k a tuple -/
def tDPopT (td ty : TE) : TE := fun σ H Q => td σ H fun x H1 => ∃ a, x = .ref a ∧ IsD H1 a ∧ ty σ H1 fun y H2 => ∃ (kvs : List (List Key × V)) (k : List Key) (b : Addr) (v : V), H2 a = some (.dT kvs) ∧ y = .ref b ∧ H2 b = some (.tup (k.map kV)) ∧ valV kvs k = some v ∧ Q v (upd H2 a (.dT (dropK kvs k)))
theorem pe_dpopT (hu : X.A.units + 1 < cLine) (ho : PE X o td) (he : PE X e ty) (m : M1 X o "pop" apos e cpos) : PE X (.Call (.Attribute o "pop" apos) [e] [] cpos) (tDPopT td ty) := by
  refine ⟨fun pins s σ H Q I h => ?_⟩
  refine wpAny_Call_method m.base m.few m.line PySem.F.plainAttrs_dict PySem.F.slot_dict_pop PySem.F.type_dict_pop (thn (ho.run pins s σ H _ I h) fun u s1 ⟨x, H1, I1, rx, a, ex, d, q1⟩ => ?_)
  subst ex
  obtain rfl : u = Value.ref a := rx
  obtain ⟨t1, t2, _⟩ := isD_at I1 d
  refine ⟨t1, t2, ?_⟩
  rw [m.trees]
  refine Calls.callWith_builtin rfl (Calls.evalArgs_plain (Calls.spliced_cons (thn (he.run pins s1 σ H1 _ I1 q1) fun iv s2 ⟨y, H2, I2, ry, kvs, k, b, v, ea, ey, eb, l, q2⟩ => Calls.spliced_nil ?_)))
  subst ey
  obtain rfl : iv = Value.ref b := ry
  obtain ⟨z, hd, xs, rel, dd⟩ := dt_of I2.hok ea
  obtain ⟨w', hw, rw'⟩ := RelO.some_of (v := v) (o := (atKey xs k).map (·.2)) (by rw [← l]; exact rel.val k)
  obtain ⟨p, hp, hp2⟩ := Option.map_eq_some_iff.mp hw
  have hz : xs.length ≤ sizeLine := by rw [← Paired.length rel]; exact z
  exact call_pop_heap (.inl rfl) (PySem.F.args_dict_pop_2 _ _) (tupleKind_room_in1 hu) (key_of I2.hok eb) hd dd hp (fun h' dd' hs => ⟨v, _, dt_gone I2 ea z hd rel dd' hs, by rw [hp2]; exact rw', q2⟩) hz
end
end Lo
set_option Elab.async false
set_option maxRecDepth 100000
set_option maxHeartbeats 4000000
namespace Lo
open PySem PySem.Spec PySem.W PyProof.Rows L2
open C8 (Cal Met Mak)
section
variable {X : Cx} {k j : Nat} {C : Addr} {m : Str} {sp : Sp}
/-- a method runs inside an operator -/
theorem met_in {pins : List (Addr × Obj)} {σ : L2.St} {H : Hp} {s : Shared} {A1 : Around} {f : Addr} {fd : FuncData} {ps : List Str} {vs : List V} {us : List Value} {Q : VK} {E' : Value → Shared → Prop} (I : Inv X pins σ H s) (F : FnOk X.prog X.w X.K X.mg X.base CX0 k f fd ps sp)
    (hr : Room k A1) (e0 : Env0 X.prog X.w X.K X.mg X.base A1 X.stack s H) (b : Binds X.K fd ps []) (rv : Vals vs us) (h : sp vs H Q C8.E0) : wpAny (model X.prog X.w) A1 (call (.ref f) us) (EP X pins σ Q) E' s := by
  have hl : us.length = ps.length := by rw [← rv.length]; exact F.len _ _ _ _ h
  refine wpAny_call (codeAny_mono (F.run A1 X.stack s H ⟨us, []⟩ us vs Q C8.E0 hr e0 (by
    have := b s us I.kIn (by simpa using hl)
    simpa using this) rv h) fun r s' hq => ?_)
  cases r with
  | error er => exact False.elim ((pass0 : Passes CX0 X.nox C8.E0) pins σ H s er s' (I.wish _) hq)
  | ok fl =>
    cases fl with
    | ret u => exact I.after hq
    | next => exact False.elim hq
    | brk => exact False.elim hq
    | cont => exact False.elim hq
theorem truthy_bl {A1 : Around} {s : Shared} {b : Bool} {Q : Bool → Shared → Prop} {E' : Value → Shared → Prop} (h : Q b s) : wpAny (model X.prog X.w) A1 (truthy (.bool b)) Q E' s := by
  first | exact wpAny_truthy_bool h | exact wpAny_pure h
/-- x in o, o's class has __contains__, which gives a bool -/
def rInOwn (C : Addr) (sp : Sp) (neg : Bool) : R2 := fun x y H Q => ∃ a dx fs, y = .ref a ∧ H a = some (.ins C dx fs) ∧ sp [.ref a, x] H (fun v H' => ∃ b, v = .bl b ∧ Q (.bl (if neg = true then !b else b)) H') C8.E0
theorem op_inOwn (c : Met X.prog X.w X.K X.mg X.base k C "__contains__" sp []) (hr : Room j X.A) (hk : k ≤ j) : OpR X (compareOp .In) (rInOwn C sp false) := by
  intro pins s σ H x y v u Q I rx ry h
  obtain ⟨a, dx, fs, rfl, ha, h⟩ := h
  obtain rfl : u = Value.ref a := ry
  obtain ⟨f, fd, ps, ds, hc, hm, F, b, d⟩ := c.ex
  cases d
  obtain ⟨mA, J, _⟩ := ins_get I.hok ha
  obtain ⟨od, J, _⟩ := J.look
  obtain ⟨mm, hF⟩ := I.fr
  refine PySem.W.in_K hF I.ok.mod.kin J hm.at_ hm.fn (wpAny_mono (met_in I F (hr.mono hk) I.env0 b (vs := [.ref a, x]) (.cons rfl (.cons rx .nil)) h) (fun r s' hq => ?_) fun _ _ z => z)
  obtain ⟨v', H', I', rv, b', rfl, hq⟩ := hq
  obtain rfl : r = Value.bool b' := rv
  exact truthy_bl ⟨V.bl _, _, I', rfl, hq⟩
theorem op_notInOwn (c : Met X.prog X.w X.K X.mg X.base k C "__contains__" sp []) (hr : Room j X.A) (hk : k ≤ j) : OpR X (compareOp .NotIn) (rInOwn C sp true) := by
  intro pins s σ H x y v u Q I rx ry h
  obtain ⟨a, dx, fs, rfl, ha, h⟩ := h
  obtain rfl : u = Value.ref a := ry
  obtain ⟨f, fd, ps, ds, hc, hm, F, b, d⟩ := c.ex
  cases d
  obtain ⟨mA, J, _⟩ := ins_get I.hok ha
  obtain ⟨od, J, _⟩ := J.look
  obtain ⟨mm, hF⟩ := I.fr
  refine PySem.W.notIn_K hF I.ok.mod.kin J hm.at_ hm.fn (wpAny_mono (met_in I F (hr.mono hk) I.env0 b (vs := [.ref a, x]) (.cons rfl (.cons rx .nil)) h) (fun r s' hq => ?_) fun _ _ z => z)
  obtain ⟨v', H', I', rv, b', rfl, hq⟩ := hq
  obtain rfl : r = Value.bool b' := rv
  exact truthy_bl ⟨V.bl _, _, I', rfl, hq⟩
/-- len(o), o's class has __len__ -/
def rLenOwn (C : Addr) (sp : Sp) : List V → Hp → VK → Prop := fun xs H Q => ∃ a dx fs, xs = [.ref a] ∧ H a = some (.ins C dx fs) ∧ sp [.ref a] H (fun v H' => ∃ n : Nat, v = .int n ∧ n < 2 ^ 62 ∧ Q (.int n) H') C8.E0
theorem cr_lenOwn (c : Met X.prog X.w X.K X.mg X.base k C "__len__" sp []) (hr : Room j X.A) (hk : k + 1 ≤ j) : CallR X (.builtin "len") (rLenOwn C sp) := by
  intro pins s σ H xs us Q I rx h
  obtain ⟨a, dx, fs, rfl, ha, h⟩ := h
  obtain rfl := Vals.ref1 rx
  obtain ⟨f, fd, ps, ds, hc, hm, F, b, d⟩ := c.ex
  cases d
  obtain ⟨mA, J, _⟩ := ins_get I.hok ha
  obtain ⟨od, J, _⟩ := J.look
  obtain ⟨mm, hF⟩ := I.fr
  refine PySem.W.len_K hF I.ok.mod.kin J hm.at_ hm.fn (wpAny_mono (met_in (A1 := X.A.in1) I F (hr.mono hk).in1 I.env0.in1 b (vs := [.ref a]) (.cons rfl .nil) h) (fun r s' hq => ?_) fun _ _ z => z)
  obtain ⟨v', H', I', rv, n, rfl, hn, hq⟩ := hq
  obtain ⟨t, rfl⟩ : ∃ t, r = Value.int n t := rv
  exact ⟨⟨by omega, by omega⟩, _, _, I'.tok _, (show RelV (V.int n) _ from ⟨_, rfl⟩), hq⟩
end
end Lo
set_option Elab.async false
set_option maxRecDepth 100000
set_option maxHeartbeats 4000000
namespace Lo
open PySem PySem.Spec PyProof.Rows L2
open C8 (Cal Met Mak scC fnScope_by pe_c pe_mk pe_mt pe_mt0)
theorem val_wait {K : PySem.W.Frag} {H : Hp} (x : Str) (n : Nat) : ∀ {kvs : List (List Key × V)} {w : List Ltr}, WaitK K H kvs w → match findW w x n with
    | some l => ∃ a, valV kvs [Sum.inr x, Sum.inl (n : Int)] = some (.ref a) ∧ LetterAt (cL K) H a l
    | none => valV kvs [Sum.inr x, Sum.inl (n : Int)] = none
  | _, _, .nil => rfl
  | _, _, .cons (a := kv) (b := l) (l₁ := kvs) (l₂ := w) ⟨e, a, e2, hl⟩ t => by
    have ih := val_wait x n t
    unfold findW at ih ⊢
    rw [List.find?_cons]
    by_cases h : l.au = x ∧ l.num = n
    · rw [decide_eq_true h]
      refine ⟨a, ?_, hl⟩
      rw [valV_pos (by rw [e]; unfold tk; rw [h.1, h.2]), e2]
    · rw [decide_eq_false h]
      have hk : ¬ kv.1 = [Sum.inr x, Sum.inl (n : Int)] := by
        rw [e]
        unfold tk
        intro z
        injection z with z1 z2
        injection z2 with z3 _
        exact h ⟨Sum.inr.inj z1, by have := Sum.inl.inj z3; omega⟩
      rw [valV_neg hk]
      exact ih
theorem len_wait {K : PySem.W.Frag} {H : Hp} {kvs : List (List Key × V)} {w : List Ltr} (h : WaitK K H kvs w) : kvs.length = w.length := Paired.length h
theorem keys_wait {K : PySem.W.Frag} {H : Hp} : ∀ {kvs : List (List Key × V)} {w : List Ltr}, WaitK K H kvs w → kvs.map (·.1) = (w.map fun l => (l.au, l.num)).map (fun q : Str × Nat => [Sum.inr q.1, Sum.inl (q.2 : Int)])
  | _, _, .nil => rfl
  | _, _, .cons ⟨e, _⟩ t => by
    rw [List.map_cons, List.map_cons, List.map_cons, keys_wait t, e]
    rfl
section
variable {P : Program} {w : World} {K : PySem.W.Frag} {mg : Str → Option Value} {base : Heap} {f : Addr}
def spHas2 (K : PySem.W.Frag) : Sp := fun vs H Q _ => ∃ (A : LA) (g : Ltr) (o w : List Ltr) (t : Addr) (x : Str) (n : Nat), vs = [.ref A.p, .ref t] ∧ LedAt K H A g o w ∧ H t = some (.tup [.str x, .int n]) ∧ 0 < n ∧ ∀ H' : Hp, Same H H' → Q (.bl (decide (n ≤ heldN o x))) H'
theorem ok_contains (S : Src K "__contains__" "Ledger.__contains__" s_Ledger_contains f) (T : Txt K mg) (m : Meth K (cG K) "__contains__" f) : Met P w K mg base 1 (cG K) "__contains__" (spHas2 K) [] := by
  refine met_of S T.kG m sc_Ledger_contains bi_Ledger_contains (fun vs H Q E h => ?_) (fun cdv A outer s H vs Q E hr h => ?_)
  · obtain ⟨A, g, o, w, t, x, n, rfl, _⟩ := h
    rfl
  · obtain ⟨A, g, o, w, t, x, n, rfl, L, ht, hn, k⟩ := h
    obtain ⟨dx, h1⟩ := L.ob
    have hu := hu_of hr
    refine ⟨_, pss_one (ps_ret (pe_callTy call_bool1 (by rfl) T.bool (by decide +kernel) (pa_cons (pe_chain op_le op_le pe_int (pe_ix ix_tup (pv 1) pe_int (fun _ _ => rfl))
      (pe_callB call_len_seq (by rfl) T.len (by decide +kernel) (pa_cons (pe_dget2 hu (pe_fld (pv 0) rfl) (pe_ix ix_tup (pv 1) pe_int (fun _ _ => rfl)) (pe_lst pa_nil) ⟨rfl, rfl, rfl, rfl⟩) pa_nil))) pa_nil))), ?_⟩
    have e1 : decide ((1 : Int) ≤ (n : Nat)) = true := decide_eq_true (by omega)
    refine ⟨_, rfl, t, _, _, _, rfl, rfl, SqT.of ht, atI1, _, _, rfl, rfl, _, rfl, ?_⟩
    rw [e1]
    refine iteT ⟨_, rfl, A.p, _, dx, _, _, rfl, h1, T.kG, T.gRo, gf_ro _ _ _ _ _ _, A.S.dr, rfl, .inl ⟨_, .inl L.st.rows.tab⟩, _, rfl, t, _, _, _, rfl, rfl, SqT.of ht, atI0, (by show 0 ≤ sizeLine; decide), fun l hl => ⟨_, row_get (L.st.rows.same (same_new hl)) x, ?_⟩⟩
    by_cases hx : x ∈ auths o
    · obtain ⟨as, r1, r2⟩ := L.st.rows.row x hx
      rw [if_pos hx]
      refine ⟨A.S.la x, _, rfl, .inl (SqL.of (same_new hl _ _ r1)), _, _, rfl, rfl, .inr ⟨_, rfl, ?_⟩⟩
      have e2 : decide (((n : Nat) : Int) ≤ ((as.map V.ref).length : Nat)) = decide (n ≤ heldN o x) := decide_eq_decide.mpr (by rw [List.length_map, pair_len r2]; exact Int.ofNat_le)
      rw [e2]
      exact k _ (same_new hl)
    · rw [if_neg hx]
      refine ⟨l, _, rfl, .inl (SqL.of upd_same), _, _, rfl, rfl, .inr ⟨_, rfl, ?_⟩⟩
      have hk := k _ (same_new (o := .lst []) hl)
      rw [held_nil hx] at hk
      have e2 : decide (((n : Nat) : Int) ≤ (([] : List V).length : Nat)) = decide (n ≤ 0) := decide_eq_decide.mpr (by simp)
      rw [e2]
      exact hk
def spLen (K : PySem.W.Frag) : Sp := fun vs H Q _ => ∃ (A : LA) (g : Ltr) (o w : List Ltr), vs = [.ref A.p] ∧ LedAt K H A g o w ∧ Q (.int (o.length : Nat)) H
theorem ok_len (S : Src K "__len__" "Ledger.__len__" s_Ledger_len f) (T : Txt K mg) (m : Meth K (cG K) "__len__" f) : Met P w K mg base 1 (cG K) "__len__" (spLen K) [] := by
  refine met_of S T.kG m sc_Ledger_len bi_Ledger_len (fun vs H Q E h => ?_) (fun cdv A outer s H vs Q E hr h => ?_)
  · obtain ⟨A, g, o, w, rfl, _⟩ := h
    rfl
  · obtain ⟨A, g, o, w, rfl, L, k⟩ := h
    obtain ⟨dx, h1⟩ := L.ob
    obtain ⟨as, r1, r2⟩ := L.st.ord
    refine ⟨_, pss_one (ps_ret (pe_callB call_len_seq (by rfl) T.len (by decide +kernel) (pa_cons (pe_fld (pv 0) rfl) pa_nil))), ?_⟩
    refine ⟨_, rfl, A.p, _, dx, _, _, rfl, h1, T.kG, T.gOr, gf_or _ _ _ _ _ _, A.S.lo, _, rfl, .inl (SqL.of r1), ?_⟩
    rw [List.length_map, pair_len r2]
    exact k
/-- refs at places -/
def RefsAt (H : Hp) (p : Addr) (qs : List (Str × Nat)) : Prop := ∃ bs : List RB, H p = some (.lst (bs.map fun b => V.ref b.1)) ∧ bs.map (·.2) = qs ∧ ∀ b ∈ bs, RefAt H b
def spWaits (K : PySem.W.Frag) : Sp := fun vs H Q _ => ∃ (A : LA) (g : Ltr) (o w : List Ltr), vs = [.ref A.p] ∧ LedAt K H A g o w ∧ ∀ (p : Addr) (H' : Hp), H p = none → Same H H' → RefsAt H' p (sortQ (w.map fun l => (l.au, l.num))) → Q (.ref p) H'
theorem refs_sorted {H : Hp} {p : Addr} {bs : List RB} {qs : List (Str × Nat)} (hp : H p = none) (e : bs.map (·.2) = qs) (h : ∀ b ∈ bs, RefAt H b) : RefsAt (upd H p (.lst ((sortR bs).map fun b => V.ref b.1))) p (sortQ qs) := by
  refine ⟨sortR bs, upd_same, by rw [sortR_map, e], fun b hb => ?_⟩
  have := h b (sortR_mem.mp hb)
  unfold RefAt at this ⊢
  rw [upd_ne (ne_of_none this hp)]
  exact this
theorem ok_waiting (S : Src K "waiting" "Ledger.waiting" s_Ledger_waiting f) (T : Txt K mg) (m : Meth K (cG K) "waiting" f) : Met P w K mg base 1 (cG K) "waiting" (spWaits K) [] := by
  refine met_of S T.kG m sc_Ledger_waiting bi_Ledger_waiting (fun vs H Q E h => ?_) (fun cdv A outer s H vs Q E hr h => ?_)
  · obtain ⟨A, g, o, w, rfl, _⟩ := h
    rfl
  · obtain ⟨A, g, o, w, rfl, L, k⟩ := h
    obtain ⟨dx, h1⟩ := L.ob
    obtain ⟨kvs, r1, r2⟩ := L.st.wait
    refine ⟨_, pss_one (ps_ret (pe_callB (cr_sortT rfl hr.units) (by rfl) T.sorted (by decide +kernel) (pa_cons (pe_fld (pv 0) rfl) pa_nil))), ?_⟩
    exact ⟨_, rfl, A.p, _, dx, _, _, rfl, h1, T.kG, T.gWa, gf_wa _ _ _ _ _ _, A.S.dw, kvs, _, rfl, .inl r1, keys_wait r2, fun p bs e hb hp => k p _ hp (same_new hp) (refs_sorted hp e hb)⟩
end
end Lo
set_option Elab.async false
set_option maxRecDepth 100000
set_option maxHeartbeats 4000000
namespace Lo
open PySem PySem.Spec PyProof.Rows L2
open C8 (Cal Met Mak scC fnScope_by pe_c pe_mk pe_mt pe_mt0)
def keyD (l : Ltr) : PyData := .tuple [.int l.stamp, .str l.au]
theorem key_lt (a b : Ltr) : PySem.W.dataLt (keyD a) (keyD b) = keyLt a b := by
  unfold keyD keyLt slt
  rw [PySem.W.dataLt_pair (by simp [PySem.W.alike]) (by simp [PySem.W.alike]), PySem.W.dataLt_int, PySem.W.dataLt_str]
  simp only [PyData.eqv, beq_iff_eq]
  by_cases h1 : a.stamp = b.stamp
  · have h2 : (a.stamp : Int) = (b.stamp : Int) := by rw [h1]
    rw [if_pos h2, decide_eq_true h1, decide_eq_false (by omega : ¬ a.stamp < b.stamp)]
    by_cases h3 : a.au = b.au
    · rw [if_pos h3, h3]
      simp
    · rw [if_neg h3]
      simp
  · have h2 : ¬ (a.stamp : Int) = (b.stamp : Int) := by omega
    rw [if_neg h2, decide_eq_false h1, Bool.false_and, Bool.or_false]
    exact decide_eq_decide.mpr Int.ofNat_lt
theorem key_alike (a b : Ltr) : PySem.W.alike (keyD a) (keyD b) = true := by simp [keyD, PySem.W.alike, PySem.W.alikeAll]
theorem key_depth (a : Ltr) : (keyD a).depth ≤ 60 := by simp [keyD, PyData.depth, PyData.depthAll]
theorem key_dp {K : PySem.W.Frag} {H : Hp} {p : Addr} {l : Ltr} (h : H p = some (.tup [.int l.stamp, .str l.au])) : Dp K H (.ref p) (keyD l) := .tup (SqT.of h) (.cons (.int _) (.cons (.str _) .nil))
def OptAt (K : PySem.W.Frag) (H : Hp) (v : V) : Option Ltr → Prop
  | none => v = .non
  | some l => ∃ a, v = .ref a ∧ LetterAt (cL K) H a l
theorem OptAt.same {K : PySem.W.Frag} {H H' : Hp} {v : V} {b : Option Ltr} (h : OptAt K H v b) (s : Same H H') : OptAt K H' v b := by
  cases b with
  | none => exact h
  | some l =>
    obtain ⟨a, e, q⟩ := h
    exact ⟨a, e, q.im (.same s)⟩
theorem pickN_e {g : Ltr} {o w : List Ltr} {b : Option Ltr} {x : Str} (h : findW w x (heldN o x + 1) = none) : pickN g o w b x = b := by
  unfold pickN
  rw [h]
theorem pickN_n {g : Ltr} {o w : List Ltr} {b : Option Ltr} {x : Str} {l : Ltr} (h : findW w x (heldN o x + 1) = some l) (hc : can (rollS g o) o l = false) : pickN g o w b x = b := by
  unfold pickN
  rw [h]
  simp [hc]
theorem pickN_y {g : Ltr} {o w : List Ltr} {b : Option Ltr} {x : Str} {l : Ltr} (h : findW w x (heldN o x + 1) = some l) (hc : can (rollS g o) o l = true) : pickN g o w b x = pick b l := by
  unfold pickN
  rw [h]
  simp [hc]
section
variable {P : Program} {w : World} {K : PySem.W.Frag} {mg : Str → Option Value} {base : Heap} {f : Addr}
def spReady (K : PySem.W.Frag) : Sp := fun vs H Q _ => ∃ (A : LA) (g : Ltr) (G o w : List Ltr), vs = [.ref A.p] ∧ LedAt K H A g o w ∧ GoodR g G o w ∧ ∀ (v : V) (H' : Hp), Same H H' → OptAt K H' v (ready g o w) → Q v H'
theorem ok_ready (S : Src K "_ready" "Ledger._ready" s_Ledger_ready f) (T : Txt K mg) (m : Meth K (cG K) "_ready" f) (mn : Met P w K mg base 1 (cR K) "names" (spNames K) []) (mh : Met P w K mg base 1 (cG K) "held" (spHeld K) [])
    (mc : Met P w K mg base 3 (cG K) "_can_hold" (spCan K) []) (mk : Prp P w K mg base 1 (cL K) "key" (spKey K)) : Met P w K mg base 4 (cG K) "_ready" (spReady K) [] := by
  refine met_of S T.kG m sc_Ledger_ready bi_Ledger_ready (fun vs H Q E h => ?_) (fun cdv A outer s H vs Q E hr h => ?_)
  · obtain ⟨A, g, G, o, w, rfl, _⟩ := h
    rfl
  · obtain ⟨A, g, G, o, w, rfl, L, gd, k⟩ := h
    obtain ⟨dx, h1⟩ := L.ob
    obtain ⟨dr, r1⟩ := L.rl.ob
    have hu := hu_of hr
    have nd := (fnScope_by sc_Ledger_ready).nd
    refine ⟨_, pss_cons (ps_set (i := 1) nd rfl (.inl rfl) pe_non)
      (pss_cons (ps_for PassesOwn.never rfl (pi_list (pe_mt0 mn hr (by decide) (pe_fld (pv 0) rfl))) (pg_name (i := 2) nd rfl (.inl rfl))
        (pss_cons (ps_set (i := 3) nd rfl (.inl rfl) (pe_dget1 hu (pe_fld (pv 0) rfl) (pe_tup (pa_cons (pv 2) (pa_cons (pe_op op_add (pe_mt mh hr (by decide) (pv 0) (pa_cons (pv 2) pa_nil)) pe_int) pa_nil))) ⟨rfl, rfl, rfl, rfl⟩))
        (pss_one (ps_if (PW.pt (pw_and (pt_cmpR op_notN (pv 3) pe_non (nomark _)) (pw_and (pt_val (pe_mt mc hr (by decide) (pv 0) (pa_cons (pv 3) pa_nil)))
            (pw_and1 (PW.pt (pw_or (pt_cmpR op_isN (pv 1) pe_non (nomark _)) (pw_or1 (pt_cmpR (op_ltD hr.units) (pe_prp mk hr (by decide) (pv 3)) (pe_prp mk hr (by decide) (pv 1)) (nomark _)))))))))
          (pss_one (ps_set (i := 1) nd rfl (.inl rfl) (pv 3))) pss_nil))))
      (pss_one (ps_ret (pv 1)))), ?_⟩
    refine ⟨_, rfl, A.p, _, dx, _, _, rfl, h1, T.kG, T.gRl, gf_rl _ _ _ _ _ _, A.r, dr, _, rfl, r1, rfl, A.r, A.dc, A.dl, _, rollS g o, rfl, L.rl, fun l hl => ?_⟩
    have s1 : Same H (upd H l (.lst ((rollS g o).names.map V.str))) := same_new hl
    have hl1 : upd H l (.lst ((rollS g o).names.map V.str)) l = some (.lst ((rollS g o).names.map V.str)) := upd_same
    generalize upd H l (.lst ((rollS g o).names.map V.str)) = H1 at s1 hl1
    refine ⟨l, rfl, ⟨_, SqL.of hl1⟩, for_list (K := K) (a := l) (xs := (rollS g o).names.map V.str) (fun i σ H2 => ∃ (vb : V) (u v : Option V), σ = [some (.ref A.p), some vb, u, v] ∧ Same H1 H2 ∧ OptAt K H2 vb (((rollS g o).names.take i).foldl (pickN g o w) none))
      ⟨.non, none, none, rfl, .refl H1, rfl⟩ ?_ ?_ ?_⟩
    · rintro i σ H2 hi ⟨vb, u, v, rfl, s2, hb⟩
      exact SqL.of (s2 _ _ hl1)
    · rintro i y σ H2 hi ⟨vb, u, v, rfl, s2, hb⟩
      obtain ⟨x, hx, rfl⟩ := map_get hi
      have s12 := s1.trans s2
      have L2 := L.same s12
      obtain ⟨kvs, k1, k2⟩ := L2.st.wait
      have nxt : ∀ (b' : Option Ltr), pickN g o w (((rollS g o).names.take i).foldl (pickN g o w) none) x = b' → ∀ (vb' : V) (u v : Option V) (H3 : Hp), Same H1 H3 → OptAt K H3 vb' b' → ∃ (vb : V) (u' v' : Option V), [some (V.ref A.p), some vb', u, v] = [some (.ref A.p), some vb, u', v'] ∧ Same H1 H3 ∧ OptAt K H3 vb (((rollS g o).names.take (i + 1)).foldl (pickN g o w) none) :=
        fun b' eb' vb' u v H3 s3 hb3 => ⟨vb', u, v, rfl, s3, by rw [take_succ_fold none hx, eb']; exact hb3⟩
      refine ⟨_, rfl, A.p, _, dx, _, _, rfl, s12 _ _ h1, T.kG, T.gWa, gf_wa _ _ _ _ _ _, A.S.dw, rfl, .inr ⟨_, .inl k1⟩, _, rfl, _, rfl, A.p, dx, _, rfl, s12 _ _ h1, rfl, _, rfl, A, g, o, w, x, rfl, L2, fun H3 s3 => ?_⟩
      refine ⟨_, _, rfl, rfl, (by show 2 ≤ sizeLine; decide), fun t ht => ?_⟩
      have s4 : Same H2 (upd H3 t (.tup [.str x, .int (((heldN o x : Nat) : Int) + 1)])) := s3.trans (same_new ht)
      have e1 : (upd H3 t (.tup [.str x, .int (((heldN o x : Nat) : Int) + 1)])) t = some (.tup (([Sum.inr x, Sum.inl (((heldN o x + 1 : Nat) : Int))] : List Key).map kV)) := by
        rw [upd_same]
        rfl
      have dg := DGet.t (k := [Sum.inr x, Sum.inl (((heldN o x + 1 : Nat) : Int))]) (s4 _ _ k1) e1
      refine ⟨_, dg, _, rfl, rfl, _, rfl, ?_⟩
      have hv := val_wait x (heldN o x + 1) k2
      generalize hH4 : upd H3 t (.tup [.str x, .int (((heldN o x : Nat) : Int) + 1)]) = H4 at s4
      have s5 := s2.trans s4
      cases e : findW w x (heldN o x + 1) with
      | none =>
        rw [e] at hv
        have hv' : valV kvs [Sum.inr x, Sum.inl (((heldN o x + 1 : Nat) : Int))] = none := hv
        rw [hv']
        show if (!decide (V.non = V.non)) = true then _ else _
        rw [decide_eq_true rfl, Bool.not_true]
        refine iteF ?_
        refine iteF ?_
        exact nxt _ (pickN_e e) _ _ _ _ s5 (hb.same s4)
      | some l =>
        rw [e] at hv
        obtain ⟨a, hv', hla⟩ := hv
        rw [hv']
        show if (!decide (V.ref a = V.non)) = true then _ else _
        rw [decide_eq_false (by intro z; cases z), Bool.not_false]
        have hla4 := hla.im (K := K) (.same s4)
        refine iteT ⟨_, rfl, A.p, dx, _, rfl, s4 _ _ (s12 _ _ h1), rfl, _, rfl, A, g, o, w, a, l, rfl, L2.same s4, hla4, fun H5 s6 => ⟨_, rfl, ?_⟩⟩
        cases hc : can (rollS g o) o l with
        | false =>
          refine iteF ?_
          refine iteF ?_
          exact nxt _ (pickN_n e hc) _ _ _ _ (s5.trans s6) ((hb.same s4).same s6)
        | true =>
          have nxt' := nxt _ (pickN_y e hc)
          refine iteT ?_
          refine ⟨_, rfl, rfl, _, rfl, ?_⟩
          cases eb : ((rollS g o).names.take i).foldl (pickN g o w) none with
          | none =>
            rw [eb] at hb nxt'
            obtain rfl : vb = .non := hb
            rw [decide_eq_true rfl]
            refine iteT ?_
            refine iteT ?_
            exact ⟨_, rfl, nxt' _ _ _ _ (s5.trans s6) ⟨a, rfl, hla4.im (.same s6)⟩⟩
          | some m =>
            rw [eb] at hb nxt'
            obtain ⟨c, rfl, hlc⟩ := hb
            rw [decide_eq_false (by intro z; cases z)]
            have hlc5 := hlc.im (K := K) (.same (s4.trans s6))
            have hla5 := hla4.im (K := K) (.same s6)
            obtain ⟨da, _, _, a1, _⟩ := id hla5
            obtain ⟨dc, _, _, c1, _⟩ := id hlc5
            refine iteF ⟨_, rfl, a, da, _, rfl, a1, a, l, rfl, hla5, fun p hp => ⟨_, rfl, c, dc, _, rfl, same_new hp _ _ c1, c, m, rfl, hlc5.im (.same (same_new hp)), fun q hq => ?_⟩⟩
            have s7 := same_new (o := .tup [.int l.stamp, .str l.au]) hp
            have s8 := same_new (o := .tup [.int m.stamp, .str m.au]) hq
            have e7 : upd H5 p (.tup [.int l.stamp, .str l.au]) p = some (.tup [.int l.stamp, .str l.au]) := upd_same
            refine ⟨keyD l, keyD m, key_dp (s8 _ _ e7), key_dp upd_same, key_alike l m, (by intro z; cases z), key_depth l, _, rfl, ?_⟩
            rw [key_lt]
            have s9 := (s5.trans s6).trans (s7.trans s8)
            have ep : pick (some m) l = if keyLt l m = true then some l else some m := rfl
            rw [ep] at nxt'
            cases hk : keyLt l m with
            | true =>
              rw [if_pos hk] at nxt'
              refine iteT ?_
              exact ⟨_, rfl, nxt' _ _ _ _ s9 ⟨a, rfl, hla5.im (.same (s7.trans s8))⟩⟩
            | false =>
              rw [if_neg (by rw [hk]; exact Bool.false_ne_true)] at nxt'
              refine iteF ?_
              exact nxt' _ _ _ _ s9 ⟨c, rfl, hlc5.im (.same (s7.trans s8))⟩
    · rintro σ H2 ⟨vb, u, v, rfl, s2, hb⟩
      rw [List.length_map, List.take_length, ready_names gd] at hb
      exact ⟨_, rfl, k _ _ (s1.trans s2) hb⟩
end
end Lo
set_option Elab.async false
set_option maxRecDepth 100000
set_option maxHeartbeats 4000000
namespace Lo
open PySem PySem.Spec PyProof.Rows L2
/-! ### a letter is put into a store -/
def putLa (la : Str → Addr) (x : Str) (p : Addr) : Str → Addr := fun y => if y = x then p else la y
theorem putLa_at (la : Str → Addr) (x : Str) (p : Addr) : putLa la x p x = p := if_pos rfl
theorem putLa_ne {la : Str → Addr} {x y : Str} {p : Addr} (h : y ≠ x) : putLa la x p y = la y := if_neg h
theorem rowK_put {la : Str → Addr} {x : Str} {p : Addr} {ns : List Str} (h : x ∉ ns) : putK (rowK la ns) (Sum.inr x : Key) (.ref p) = rowK (putLa la x p) (ns ++ [x]) := by
  have e : valV (rowK la ns) (Sum.inr x : Key) = none := by rw [val_row, if_neg h]
  rw [putK_new _ e]
  unfold rowK
  rw [List.map_append]
  have e2 : ns.map (fun y => ((Sum.inr y : Key), V.ref (la y))) = ns.map (fun y => (Sum.inr y, V.ref (putLa la x p y))) := List.map_congr_left fun y hy => by
    have hne : y ≠ x := fun z => h (by rw [← z]; exact hy)
    rw [putLa_ne hne]
  rw [e2]
  show _ = _ ++ [((Sum.inr x : Key), V.ref (putLa la x p x))]
  rw [putLa_at]
section
variable {K : PySem.W.Frag} {H : Hp} {S : SA} {o w : List Ltr} {l : Ltr} {a : Addr}
structure Held (K : PySem.W.Frag) (H : Hp) (S : SA) (o : List Ltr) (H' : Hp) (S' : SA) (l : Ltr) (w : List Ltr) : Prop where
  st : StoreAt K H' S' (o ++ [l]) w
  dr : S'.dr = S.dr
  lo : S'.lo = S.lo
  dw : S'.dw = S.dw
  kp : ∀ b u, H b = some u → ¬ S.own o b → H' b = some u
  ow : ∀ b, S'.own (o ++ [l]) b → S.own o b ∨ H b = none
theorem ls_snoc {H' : Hp} {as : List Addr} {ls : List Ltr} (h : Ls K H' as ls) (hl : LetterAt (cL K) H' a l) : Ls K H' (as ++ [a]) (ls ++ [l]) := pair_app h (.cons hl .nil)
/-- its author is known -/
theorem hold_old (h : StoreAt K H S o w) (hl : LetterAt (cL K) H a l) (hx : l.au ∈ auths o) {as bs : List Addr} (r1 : H (S.la l.au) = some (.lst (as.map V.ref))) (r2 : Ls K H as (rowOf o l.au)) (o1 : H S.lo = some (.lst (bs.map V.ref))) (o2 : Ls K H bs o) :
    Held K H S o (upd (upd H (S.la l.au) (.lst (as.map V.ref ++ [.ref a]))) S.lo (.lst (bs.map V.ref ++ [.ref a]))) S l w := by
  have ea : auths (o ++ [l]) = auths o := by rw [auths_snoc]; unfold addN; rw [if_pos hx]
  have own : ∀ b, S.own (o ++ [l]) b ↔ S.own o b := fun b => by unfold SA.own; rw [ea]
  have i1 : Im K H (upd H (S.la l.au) (.lst (as.map V.ref ++ [.ref a]))) := .set r1 rfl
  have o1' : (upd H (S.la l.au) (.lst (as.map V.ref ++ [.ref a]))) S.lo = some (.lst (bs.map V.ref)) := by rw [upd_ne (h.nlo _ hx).symm]; exact o1
  have i : Im K H (upd (upd H (S.la l.au) (.lst (as.map V.ref ++ [.ref a]))) S.lo (.lst (bs.map V.ref ++ [.ref a]))) := i1.trans (.set o1' rfl)
  have kp : ∀ b u, H b = some u → b ≠ S.la l.au → b ≠ S.lo → (upd (upd H (S.la l.au) (.lst (as.map V.ref ++ [.ref a]))) S.lo (.lst (bs.map V.ref ++ [.ref a]))) b = some u := fun b u e n1 n2 => by
    rw [upd_ne n2, upd_ne n1]
    exact e
  refine ⟨⟨⟨?_, fun x hx' => ?_⟩, ?_, ?_, by rw [ea]; exact h.inj, by rw [ea]; exact h.nlo⟩, rfl, rfl, rfl, fun b u e n => kp b u e (fun z => n (.inr (.inr (.inr ⟨_, hx, z⟩)))) (fun z => n (.inr (.inl z))), fun b q => .inl ((own b).mp q)⟩
  · rw [ea]
    exact kp _ _ h.rows.tab (ne_of h.rows.tab r1 (by intro q; cases q)) (ne_of h.rows.tab o1 (by intro q; cases q))
  · rw [ea] at hx'
    rw [row_snoc]
    by_cases e : l.au = x
    · rw [if_pos e]
      subst e
      refine ⟨as ++ [a], ?_, ls_snoc (r2.im i) (hl.im i)⟩
      rw [upd_ne (h.nlo _ hx), upd_same, List.map_append]
      rfl
    · rw [if_neg e]
      obtain ⟨cs, c1, c2⟩ := h.rows.row x hx'
      exact ⟨cs, kp _ _ c1 (fun z => e (h.inj _ hx _ hx' z.symm)) (h.nlo _ hx'), c2.im i⟩
  · exact ⟨bs ++ [a], by rw [upd_same, List.map_append]; rfl, ls_snoc (o2.im i) (hl.im i)⟩
  · obtain ⟨kvs, w1, w2⟩ := h.wait
    exact ⟨kvs, kp _ _ w1 (ne_of w1 r1 (by intro q; cases q)) (ne_of w1 o1 (by intro q; cases q)), w2.im i⟩
/-- its author is new: p is the new row -/
theorem hold_new (h : StoreAt K H S o w) (hl : LetterAt (cL K) H a l) (hx : l.au ∉ auths o) {p : Addr} (hp : H p = none) {bs : List Addr} (o1 : H S.lo = some (.lst (bs.map V.ref))) (o2 : Ls K H bs o) {u0 : HO} :
    Held K H S o (upd (upd (upd (upd H p u0) S.dr (.dK (putK (rowK S.la (auths o)) (Sum.inr l.au : Key) (.ref p)))) p (.lst (([] : List V) ++ [.ref a]))) S.lo (.lst (bs.map V.ref ++ [.ref a]))) ⟨S.dr, S.lo, S.dw, putLa S.la l.au p⟩ l w := by
  have ea : auths (o ++ [l]) = auths o ++ [l.au] := by rw [auths_snoc]; unfold addN; rw [if_neg hx]
  have nb : ∀ {b u}, H b = some u → b ≠ p := fun e => ne_of_none e hp
  have ndr : S.dr ≠ p := nb h.rows.tab
  have nlo : S.lo ≠ p := nb o1
  have nrl : S.dr ≠ S.lo := ne_of h.rows.tab o1 (by intro q; cases q)
  generalize hH' : upd (upd (upd (upd H p u0) S.dr (.dK (putK (rowK S.la (auths o)) (Sum.inr l.au : Key) (.ref p)))) p (.lst (([] : List V) ++ [.ref a]))) S.lo (.lst (bs.map V.ref ++ [.ref a])) = H'
  have kp : ∀ b u, H b = some u → b ≠ S.dr → b ≠ S.lo → H' b = some u := fun b u e n1 n2 => by
    rw [← hH', upd_ne n2, upd_ne (nb e), upd_ne n1, upd_ne (nb e)]
    exact e
  have i : Im K H H' := fun b u e q => by
    refine kp b u e ?_ ?_
    · rintro rfl
      rw [h.rows.tab] at e
      cases e
      cases q
    · rintro rfl
      rw [o1] at e
      cases e
      cases q
  have en : rowOf o l.au = [] := row_nil hx
  refine ⟨⟨⟨?_, fun x hx' => ?_⟩, ?_, ?_, fun x hx' y hy' e => ?_, fun x hx' => ?_⟩, rfl, rfl, rfl, fun b u e n => kp b u e (fun z => n (.inl z)) (fun z => n (.inr (.inl z))), fun b q => ?_⟩
  · rw [ea, ← rowK_put hx, ← hH', upd_ne nrl, upd_ne ndr, upd_same]
  · rw [row_snoc]
    by_cases e : l.au = x
    · rw [if_pos e]
      subst e
      rw [en]
      refine ⟨[a], ?_, .cons (hl.im i) .nil⟩
      show H' (putLa S.la l.au p l.au) = _
      rw [putLa_at, ← hH', upd_ne nlo.symm, upd_same]
      rfl
    · rw [if_neg e]
      rw [ea] at hx'
      have hx2 : x ∈ auths o := by
        rcases List.mem_append.mp hx' with z | z
        · exact z
        · exact absurd (List.mem_singleton.mp z).symm e
      obtain ⟨cs, c1, c2⟩ := h.rows.row x hx2
      refine ⟨cs, ?_, c2.im i⟩
      show H' (putLa S.la l.au p x) = _
      rw [putLa_ne (Ne.symm e)]
      exact kp _ _ c1 (ne_of c1 h.rows.tab (by intro q; cases q)) (h.nlo _ hx2)
  · refine ⟨bs ++ [a], ?_, ls_snoc (o2.im i) (hl.im i)⟩
    rw [← hH', upd_same, List.map_append]
    rfl
  · obtain ⟨kvs, w1, w2⟩ := h.wait
    exact ⟨kvs, kp _ _ w1 (ne_of w1 h.rows.tab (by intro q; cases q)) (ne_of w1 o1 (by intro q; cases q)), w2.im i⟩
  · have e' : putLa S.la l.au p x = putLa S.la l.au p y := e
    rw [ea] at hx' hy'
    have one : ∀ z ∈ auths o ++ [l.au], z = l.au ∨ z ∈ auths o := fun z hz => by
      rcases List.mem_append.mp hz with q | q
      · exact .inr q
      · exact .inl (List.mem_singleton.mp q)
    have lap : ∀ z ∈ auths o, S.la z ≠ p := fun z hz => by
      obtain ⟨cs, c1, _⟩ := h.rows.row z hz
      exact nb c1
    by_cases ex : x = l.au
    · by_cases ey : y = l.au
      · rw [ex, ey]
      · rw [ex, putLa_at, putLa_ne ey] at e'
        rcases one y hy' with q | q
        · exact absurd q ey
        · exact absurd e'.symm (lap y q)
    · rcases one x hx' with q | q
      · exact absurd q ex
      by_cases ey : y = l.au
      · rw [ey, putLa_at, putLa_ne ex] at e'
        exact absurd e' (lap x q)
      · rw [putLa_ne ex, putLa_ne ey] at e'
        rcases one y hy' with q' | q'
        · exact absurd q' ey
        · exact h.inj x q y q' e'
  · show putLa S.la l.au p x ≠ S.lo
    by_cases ex : x = l.au
    · rw [ex, putLa_at]
      exact nlo.symm
    · rw [putLa_ne ex]
      rw [ea] at hx'
      rcases List.mem_append.mp hx' with q | q
      · exact h.nlo _ q
      · exact absurd (List.mem_singleton.mp q) ex
  · rcases q with q | q | q | ⟨x, hx', q⟩
    · exact .inl (.inl q)
    · exact .inl (.inr (.inl q))
    · exact .inl (.inr (.inr (.inl q)))
    · by_cases ex : x = l.au
      · rw [ex] at q
        have q' : b = putLa S.la l.au p l.au := q
        rw [putLa_at] at q'
        rw [q']
        exact .inr hp
      · have q' : b = putLa S.la l.au p x := q
        rw [putLa_ne ex] at q'
        rw [ea] at hx'
        rcases List.mem_append.mp hx' with z | z
        · exact .inl (.inr (.inr (.inr ⟨x, z, q'⟩)))
        · exact absurd (List.mem_singleton.mp z) ex
end
end Lo
set_option Elab.async false
set_option maxRecDepth 100000
set_option maxHeartbeats 4000000
namespace Lo
open PySem PySem.Spec PyProof.Rows L2
open C8 (Cal Met Mak scC fnScope_by pe_c pe_mk pe_mt pe_mt0)
theorem top_snoc (o : List Ltr) (l : Ltr) : topN (o ++ [l]) = max (topN o) l.stamp := by
  unfold topN
  rw [List.foldl_append]
  rfl
theorem roll_snoc (g : Ltr) (o : List Ltr) (l : Ltr) : rollS g (o ++ [l]) = act1 (rollS g o) l := by
  unfold rollS
  rw [List.foldl_append]
  rfl
section
variable {P : Program} {w : World} {K : PySem.W.Frag} {mg : Str → Option Value} {base : Heap} {f : Addr}
def spIsAct (K : PySem.W.Frag) : Sp := fun vs H Q _ => ∃ (t : Addr) (l : Ltr), vs = [.ref t] ∧ BodyAt H t l.body ∧ ∀ H' : Hp, Same H H' → Q (.bl l.act) H'
theorem ok_isact (S : Src K "is_act" "is_act" s_is_act f) (hm : mg "is_act" = some (.ref f)) : Cal P w K mg base 1 "is_act" (spIsAct K) [] := by
  refine cal_of S hm sc_is_act bi_is_act (fun vs H Q E h => ?_) (fun cdv A outer s H vs Q E hr h => ?_)
  · obtain ⟨t, l, rfl, _⟩ := h
    rfl
  · obtain ⟨t, l, rfl, hb, k⟩ := h
    obtain ⟨rest, b1⟩ := body_tup hb
    refine ⟨_, pss_one (ps_ret (pe_cmpR op_in_seq (pe_ix ix_tup (pv 0) pe_int (fun _ _ => rfl)) (pe_tup (pa_cons pe_str (pa_cons pe_str (pa_cons pe_str pa_nil)))) (by rfl))), ?_⟩
    refine ⟨_, rfl, t, _, _, _, rfl, rfl, SqT.of b1, atI0, (by show 3 ≤ sizeLine; decide), fun p hp => ⟨p, _, rfl, .inr (SqT.of upd_same), rfl, rfl, ?_⟩⟩
    rw [in_act l.body l rfl]
    exact k _ (same_new hp)
theorem StoreAt.kind {H : Hp} {S : SA} {o w : List Ltr} (h : StoreAt K H S o w) {b : Addr} (q : S.own o b) : ∃ u, H b = some u ∧ ∀ C d fs, u ≠ .ins C d fs := by
  rcases q with rfl | rfl | rfl | ⟨x, hx, rfl⟩
  · exact ⟨_, h.rows.tab, fun _ _ _ z => by cases z⟩
  · obtain ⟨as, h1, _⟩ := h.ord
    exact ⟨_, h1, fun _ _ _ z => by cases z⟩
  · obtain ⟨kvs, h1, _⟩ := h.wait
    exact ⟨_, h1, fun _ _ _ z => by cases z⟩
  · obtain ⟨as, h1, _⟩ := h.rows.row x hx
    exact ⟨_, h1, fun _ _ _ z => by cases z⟩
theorem StoreAt.nins {H : Hp} {S : SA} {o w : List Ltr} (h : StoreAt K H S o w) {b C d : Addr} {fs : List (Str × V)} (e : H b = some (.ins C d fs)) : ¬ S.own o b := fun q => by
  obtain ⟨u, h1, h2⟩ := h.kind q
  rw [e] at h1
  exact h2 _ _ _ (Option.some.inj h1).symm
/-- the lists and tables of a roll are not a store's own -/
def Far (A : LA) (o : List Ltr) : Prop := ∀ b, A.S.own o b → b ≠ A.dc ∧ b ≠ A.dl
theorem LedAt.far {H : Hp} {A : LA} {g : Ltr} {o w : List Ltr} (L : LedAt K H A g o w) : Far A o := by
  obtain ⟨kc, c1, _⟩ := L.rl.came
  have c2 := L.rl.lims
  rintro b (rfl | rfl | rfl | ⟨x, hx, rfl⟩)
  · exact ⟨L.ndc, L.ndl⟩
  · obtain ⟨as, h1, _⟩ := L.st.ord
    exact ⟨ne_of h1 c1 (by intro z; cases z), ne_of h1 c2 (by intro z; cases z)⟩
  · obtain ⟨kvs, h1, _⟩ := L.st.wait
    exact ⟨ne_of h1 c1 (by intro z; cases z), ne_of h1 c2 (by intro z; cases z)⟩
  · obtain ⟨as, h1, _⟩ := L.st.rows.row x hx
    exact ⟨ne_of h1 c1 (by intro z; cases z), ne_of h1 c2 (by intro z; cases z)⟩
section
variable {H H3 H5 : Hp} {A : LA} {g : Ltr} {o w : List Ltr} {l : Ltr} {la' : Str → Addr} {dx : Addr}
theorem held_p (L : LedAt K H A g o w) (HD : Held K H A.S o H3 ⟨A.S.dr, A.S.lo, A.S.dw, la'⟩ l w) {fs : List (Str × V)} (h1 : H A.p = some (.ins (cG K) dx fs)) : H3 A.p = some (.ins (cG K) dx fs) := HD.kp _ _ h1 (L.st.nins h1)
theorem hold_no (T : Txt K mg) (L : LedAt K H A g o w) (HD : Held K H A.S o H3 ⟨A.S.dr, A.S.lo, A.S.dw, la'⟩ l w) (hact : l.act = false) (s5 : Same (upd H3 A.p (.ins (cG K) dx (gf g.au A.S.dr A.S.lo A.S.dw A.r (topN (o ++ [l]))))) H5) :
    LedAt K H5 ⟨A.p, A.r, A.dc, A.dl, ⟨A.S.dr, A.S.lo, A.S.dw, la'⟩⟩ g (o ++ [l]) w ∧ Step (A.own o) (LA.own ⟨A.p, A.r, A.dc, A.dl, ⟨A.S.dr, A.S.lo, A.S.dw, la'⟩⟩ (o ++ [l])) H H5 := by
  obtain ⟨dx0, h1⟩ := L.ob
  obtain ⟨dr, r1⟩ := L.rl.ob
  obtain ⟨kc, c1, c3⟩ := L.rl.came
  have hp3 := held_p L HD h1
  have np : ∀ b, SA.own ⟨A.S.dr, A.S.lo, A.S.dw, la'⟩ (o ++ [l]) b → b ≠ A.p := fun b q e => by
    obtain ⟨u, u1, u2⟩ := HD.st.kind q
    rw [e, hp3] at u1
    exact u2 _ _ _ (Option.some.inj u1).symm
  have m4 : Im K H3 (upd H3 A.p (.ins (cG K) dx (gf g.au A.S.dr A.S.lo A.S.dw A.r (topN (o ++ [l]))))) := .set hp3 (by unfold isMut; simp [T.neG])
  have far := L.far
  have nr : ∀ b, b = A.r ∨ b = A.dc ∨ b = A.dl → ¬ A.S.own o b := by
    rintro b (rfl | rfl | rfl) q
    · exact L.st.nins r1 q
    · exact (far _ q).1 rfl
    · exact (far _ q).2 rfl
  have hpd : A.dc ≠ A.p := ne_of c1 h1 (by intro z; cases z)
  have hpl : A.dl ≠ A.p := ne_of L.rl.lims h1 (by intro z; cases z)
  refine ⟨⟨(HD.st.kp m4 fun b u q e => by rw [upd_ne (np b q)]; exact e).same s5, ⟨dx, s5 _ _ upd_same⟩, ?_, L.cl, L.ndc, L.ndl, L.npr⟩, fun b u e n => ?_, ?_⟩
  · rw [roll_snoc, act1_no hact]
    refine (L.rl.kp fun b u e q => ?_).same s5
    rw [upd_ne]
    · exact HD.kp _ _ e (nr b q)
    · rcases q with rfl | rfl | rfl
      · exact L.npr.symm
      · exact hpd
      · exact hpl
  · refine s5 _ _ ?_
    rw [upd_ne (fun z => n (.inl z))]
    exact HD.kp _ _ e fun z => n (.inr (.inr (.inr (.inr z))))
  · rintro b (q | q | q | q | q)
    · exact .inl (.inl q)
    · exact .inl (.inr (.inl q))
    · exact .inl (.inr (.inr (.inl q)))
    · exact .inl (.inr (.inr (.inr (.inl q))))
    · rcases HD.ow b q with z | z
      · exact .inl (.inr (.inr (.inr (.inr z))))
      · exact .inr z
theorem hold_yes (T : Txt K mg) (L : LedAt K H A g o w) (HD : Held K H A.S o H3 ⟨A.S.dr, A.S.lo, A.S.dw, la'⟩ l w) {r dc dl : Addr} (RA : RollAt K H5 r dc dl g.au (rollS g (o ++ [l]))) (ncl : dc ≠ dl)
    (hr : upd H3 A.p (.ins (cG K) dx (gf g.au A.S.dr A.S.lo A.S.dw A.r (topN (o ++ [l])))) r = none) (hdc : upd H3 A.p (.ins (cG K) dx (gf g.au A.S.dr A.S.lo A.S.dw A.r (topN (o ++ [l])))) dc = none) (hdl : upd H3 A.p (.ins (cG K) dx (gf g.au A.S.dr A.S.lo A.S.dw A.r (topN (o ++ [l])))) dl = none)
    (s5 : Same (upd H3 A.p (.ins (cG K) dx (gf g.au A.S.dr A.S.lo A.S.dw A.r (topN (o ++ [l]))))) H5) :
    LedAt K (upd H5 A.p (.ins (cG K) dx (gf g.au A.S.dr A.S.lo A.S.dw r (topN (o ++ [l]))))) ⟨A.p, r, dc, dl, ⟨A.S.dr, A.S.lo, A.S.dw, la'⟩⟩ g (o ++ [l]) w ∧
      Step (A.own o) (LA.own ⟨A.p, r, dc, dl, ⟨A.S.dr, A.S.lo, A.S.dw, la'⟩⟩ (o ++ [l])) H (upd H5 A.p (.ins (cG K) dx (gf g.au A.S.dr A.S.lo A.S.dw r (topN (o ++ [l]))))) := by
  obtain ⟨dx0, h1⟩ := L.ob
  have hp3 := held_p L HD h1
  have np : ∀ b, SA.own ⟨A.S.dr, A.S.lo, A.S.dw, la'⟩ (o ++ [l]) b → b ≠ A.p := fun b q e => by
    obtain ⟨u, u1, u2⟩ := HD.st.kind q
    rw [e, hp3] at u1
    exact u2 _ _ _ (Option.some.inj u1).symm
  have m4 : Im K H3 (upd H3 A.p (.ins (cG K) dx (gf g.au A.S.dr A.S.lo A.S.dw A.r (topN (o ++ [l]))))) := .set hp3 (by unfold isMut; simp [T.neG])
  have st4 := (HD.st.kp m4 fun b u q e => by rw [upd_ne (np b q)]; exact e)
  have p4 : upd H3 A.p (.ins (cG K) dx (gf g.au A.S.dr A.S.lo A.S.dw A.r (topN (o ++ [l])))) A.p = some (.ins (cG K) dx (gf g.au A.S.dr A.S.lo A.S.dw A.r (topN (o ++ [l])))) := upd_same
  have kp4 : ∀ b u, H b = some u → ¬ A.own o b → upd H3 A.p (.ins (cG K) dx (gf g.au A.S.dr A.S.lo A.S.dw A.r (topN (o ++ [l])))) b = some u := fun b u e n => by
    rw [upd_ne (fun z => n (.inl z))]
    exact HD.kp _ _ e fun z => n (.inr (.inr (.inr (.inr z))))
  generalize upd H3 A.p (.ins (cG K) dx (gf g.au A.S.dr A.S.lo A.S.dw A.r (topN (o ++ [l])))) = H4 at *
  have nrp : r ≠ A.p := fun z => by rw [z, p4] at hr; cases hr
  have ncp : dc ≠ A.p := fun z => by rw [z, p4] at hdc; cases hdc
  have nlp : dl ≠ A.p := fun z => by rw [z, p4] at hdl; cases hdl
  have p5 := s5 _ _ p4
  have m5 : Im K H5 (upd H5 A.p (.ins (cG K) dx (gf g.au A.S.dr A.S.lo A.S.dw r (topN (o ++ [l]))))) := .set p5 (by unfold isMut; simp [T.neG])
  have fr : ∀ b, H4 b = none → b ≠ A.p → A.own o b ∨ H b = none := fun b e nb => by
    by_cases n : A.own o b
    · exact .inl n
    · cases q : H b with
      | none => exact .inr rfl
      | some u =>
        have := kp4 b u q n
        rw [e] at this
        cases this
  refine ⟨⟨(st4.same s5).kp m5 fun b u q e => by rw [upd_ne (np b q)]; exact e, ⟨dx, upd_same⟩, RA.kp fun b u e q => ?_, ncl, ?_, ?_, nrp.symm⟩, fun b u e n => ?_, ?_⟩
  · rw [upd_ne]
    · exact e
    · rcases q with rfl | rfl | rfl
      · exact nrp
      · exact ncp
      · exact nlp
  · intro z
    have := st4.rows.tab
    rw [show (A.S.dr : Addr) = dc from z, hdc] at this
    cases this
  · intro z
    have := st4.rows.tab
    rw [show (A.S.dr : Addr) = dl from z, hdl] at this
    cases this
  · rw [upd_ne (fun z => n (.inl z))]
    exact s5 _ _ (kp4 b u e n)
  · rintro b (q | q | q | q | q)
    · exact .inl (.inl q)
    · exact fr b (by rw [show b = r from q]; exact hr) (by rw [show b = r from q]; exact nrp)
    · exact fr b (by rw [show b = dc from q]; exact hdc) (by rw [show b = dc from q]; exact ncp)
    · exact fr b (by rw [show b = dl from q]; exact hdl) (by rw [show b = dl from q]; exact nlp)
    · rcases HD.ow b q with z | z
      · exact .inl (.inr (.inr (.inr (.inr z))))
      · exact .inr z
end
section
variable {H H3 : Hp} {A : LA} {g : Ltr} {o w : List Ltr} {l : Ltr} {la' : Str → Addr} {dx : Addr}
theorem held_im (T : Txt K mg) (L : LedAt K H A g o w) (HD : Held K H A.S o H3 ⟨A.S.dr, A.S.lo, A.S.dw, la'⟩ l w) {u : HO} : Im K H (upd H3 A.p u) := by
  obtain ⟨dx0, h1⟩ := L.ob
  have i3 : Im K H H3 := (⟨HD.kp, HD.ow⟩ : Step (A.S.own o) _ H H3).im fun b q => L.st.ex q
  exact i3.trans (.set (held_p L HD h1) (by unfold isMut; simp [T.neG]))
end
def spHold (K : PySem.W.Frag) : Sp := fun vs H Q _ => ∃ (A : LA) (g : Ltr) (o w : List Ltr) (a : Addr) (l : Ltr), vs = [.ref A.p, .ref a] ∧ LedAt K H A g o w ∧ LetterAt (cL K) H a l ∧ Ord g (o ++ [l]) ∧ g.mems.length ≤ 500 ∧ o.length < 64 ∧
  ∀ (A' : LA) (H' : Hp), LedAt K H' A' g (o ++ [l]) w → Step (A.own o) (A'.own (o ++ [l])) H H' → A'.p = A.p → Q .non H'
theorem ok_hold (S : Src K "_hold" "Ledger._hold" s_Ledger_hold f) (T : Txt K mg) (m : Meth K (cG K) "_hold" f) (ma : Cal P w K mg base 1 "is_act" (spIsAct K) []) (mr : Cal P w K mg base 4 "roll_of" (spRollOf K) []) : Met P w K mg base 5 (cG K) "_hold" (spHold K) [] := by
  refine met_of S T.kG m sc_Ledger_hold bi_Ledger_hold (fun vs H Q E h => ?_) (fun cdv A outer s H vs Q E hr h => ?_)
  · obtain ⟨A, g, o, w, a, l, rfl, _⟩ := h
    rfl
  · obtain ⟨A, g, o, w, a, l, rfl, L, hl, hO, hms, hol, k⟩ := h
    obtain ⟨dx, h1⟩ := L.ob
    obtain ⟨dy, ts, tb, a1, a2, a3⟩ := id hl
    obtain ⟨bs, o1, o2⟩ := L.st.ord
    have hu := hu_of hr
    refine ⟨_, pss_cons (ps_expr (pe_bm PySem.F.plainAttrs_list PySem.F.slot_list_append PySem.F.type_list_append mt_append (pe_dsetd (pe_fld (pv 0) rfl) (pe_fld (pv 1) rfl) (pe_lst pa_nil) ⟨rfl, rfl, rfl, rfl⟩) (pa_cons (pv 1) pa_nil)))
      (pss_cons (ps_expr (pe_bm PySem.F.plainAttrs_list PySem.F.slot_list_append PySem.F.type_list_append mt_append (pe_fld (pv 0) rfl) (pa_cons (pv 1) pa_nil)))
      (pss_cons (ps_fld (pv 0) (pe_callB (call_max2 rfl) (by rfl) T.max (by decide +kernel) (pa_cons (pe_fld (pv 0) rfl) (pa_cons (pe_fld (pv 1) rfl) pa_nil))) rfl)
      (pss_one (ps_if (pt_val (pe_c ma hr (by decide) (by rfl) (pa_cons (pe_fld (pv 1) rfl) pa_nil)))
        (pss_one (ps_fld (pv 0) (pe_c mr hr (by decide) (by rfl) (pa_cons (pe_fld (pv 0) rfl) (pa_cons (pe_fld (pv 0) rfl) pa_nil))) rfl)) pss_nil)))), ?_⟩
    have hal := auths_len o
    have lbo : bs.length = o.length := pair_len o2
    have hmx : (if ((l.stamp : Nat) : Int) > ((topN o : Nat) : Int) then ((l.stamp : Nat) : Int) else ((topN o : Nat) : Int)) = ((topN (o ++ [l]) : Nat) : Int) := by
      rw [top_snoc]
      split <;> omega
    have la_ne : ∀ {b u}, H b = some u → isMut K u = true → b ≠ a := fun e q z => by
      rw [z, a1] at e
      cases e
      rw [mut_letter] at q
      cases q
    have hpa : A.p ≠ a := la_ne h1 (by unfold isMut; simp [T.neG])
    refine ⟨_, rfl, A.p, _, dx, _, _, rfl, h1, T.kG, T.gRo, gf_ro _ _ _ _ _ _, A.S.dr, rfl, .inl ⟨_, .inl L.st.rows.tab⟩, _, rfl, a, _, dy, _, _, rfl, a1, T.kL, T.nAu, lf_au _ _ _, (by show 0 ≤ sizeLine; decide), fun p hp => ?_⟩
    have s0 : Same H (upd H p (.lst [])) := same_new hp
    refine ⟨rowK A.S.la (auths o), Sum.inr l.au, s0 _ _ L.st.rows.tab, rfl, (by rw [rowK, List.length_map, sizeLine_eq]; omega), fun v hv => ?_, fun hv => ?_⟩
    · have hx : l.au ∈ auths o := by
        by_cases hx : l.au ∈ auths o
        · exact hx
        · rw [val_row, if_neg hx] at hv
          cases hv
      rw [val_row, if_pos hx] at hv
      cases hv
      have L0 := L.same s0
      obtain ⟨as, r1, r2⟩ := L0.st.rows.row l.au hx
      have HD := hold_old L0.st (hl.im (K := K) (.same s0)) hx r1 r2 (s0 _ _ o1) (o2.im (.same s0))
      have las : as.length ≤ 64 := by
        have h5 := pair_len r2
        have h6 : (rowOf o l.au).length ≤ o.length := List.length_filter_le _ _
        omega
      refine ⟨.inl ⟨rfl, _, SqL.of r1⟩, _, rfl, A.S.la l.au, _, _, rfl, rfl, r1, by rw [List.length_map, sizeLine_eq]; omega, ?_⟩
      have hpo : A.p ≠ A.S.la l.au := ne_of (s0 _ _ h1) r1 (by intro z; cases z)
      have hlo : A.S.lo ≠ A.S.la l.au := (L.st.nlo _ hx).symm
      refine ⟨_, rfl, A.p, _, dx, _, _, rfl, by rw [upd_ne hpo]; exact s0 _ _ h1, T.kG, T.gOr, gf_or _ _ _ _ _ _, .inl ⟨rfl, _, SqL.of (by rw [upd_ne hlo]; exact s0 _ _ o1)⟩, _, rfl, A.S.lo, _, _, rfl, rfl, by rw [upd_ne hlo]; exact s0 _ _ o1, by rw [List.length_map, sizeLine_eq]; omega, ?_⟩
      generalize upd (upd (upd H p (.lst [])) (A.S.la l.au) (.lst (as.map V.ref ++ [.ref a]))) A.S.lo (.lst (bs.map V.ref ++ [.ref a])) = H3 at HD ⊢
      have a3' : H3 a = some (.ins (cL K) dy (lf l ts tb)) := HD.kp _ _ (s0 _ _ a1) (L0.st.nins (s0 _ _ a1))
      have p3 := held_p L0 HD (s0 _ _ h1)
      refine ⟨_, rfl, A.p, _, dx, _, _, rfl, p3, T.kG, T.gTo, gf_to _ _ _ _ _ _, _, rfl, a, _, dy, _, _, rfl, a3', T.kL, T.nSt, lf_st _ _ _, _, _, rfl, ?_⟩
      rw [hmx]
      refine ⟨_, rfl, A.p, _, dx, _, rfl, p3, T.kG, T.gTo, (by show 6 < 1000; decide), ?_⟩
      have i4 := held_im T L0 HD (u := .ins (cG K) dx (gf g.au A.S.dr A.S.lo A.S.dw A.r (topN (o ++ [l]))))
      have b4 := BodyAt.im i4 (BodyAt.im (K := K) (.same s0) a3)
      have a4 : upd H3 A.p (.ins (cG K) dx (gf g.au A.S.dr A.S.lo A.S.dw A.r (topN (o ++ [l])))) a = some (.ins (cL K) dy (lf l ts tb)) := by rw [upd_ne hpa.symm]; exact a3'
      refine ⟨_, rfl, a, _, dy, _, _, rfl, a4, T.kL, T.nBo, lf_bo _ _ _, tb, l, rfl, b4, fun H5 s5 => ⟨_, rfl, ?_⟩⟩
      cases hact : l.act with
      | false =>
        refine iteF ?_
        obtain ⟨q1, q2⟩ := hold_no T L0 HD hact s5
        exact k _ _ q1 ((Step.same s0).trans q2) rfl
      | true =>
        refine iteT ?_
        have p4 : upd H3 A.p (.ins (cG K) dx (gf g.au A.S.dr A.S.lo A.S.dw A.r (topN (o ++ [l])))) A.p = some (.ins (cG K) dx (gf g.au A.S.dr A.S.lo A.S.dw A.r (topN (o ++ [l])))) := upd_same
        have np : ∀ b, SA.own ⟨A.S.dr, A.S.lo, A.S.dw, A.S.la⟩ (o ++ [l]) b → b ≠ A.p := fun b q e => by
          obtain ⟨u, u1, u2⟩ := HD.st.kind q
          rw [e, p3] at u1
          exact u2 _ _ _ (Option.some.inj u1).symm
        have m4 : Im K H3 (upd H3 A.p (.ins (cG K) dx (gf g.au A.S.dr A.S.lo A.S.dw A.r (topN (o ++ [l]))))) := .set p3 (by unfold isMut; simp [T.neG])
        have st5 := (HD.st.kp m4 fun b u q e => by rw [upd_ne (np b q)]; exact e).same s5
        refine ⟨_, rfl, A.p, _, dx, _, _, rfl, s5 _ _ p4, T.kG, T.gFo, gf_fo _ _ _ _ _ _, _, rfl, A.p, _, dx, _, _, rfl, s5 _ _ p4, T.kG, T.gRo, gf_ro _ _ _ _ _ _, g, A.S.dr, A.S.la, o ++ [l], rfl, st5.rows, hO, hms, by rw [List.length_append, List.length_singleton]; omega, fun r dc dl H6 RA ncl hr1 hdc hdl s6 => ?_⟩
        have s56 := s5.trans s6
        obtain ⟨q1, q2⟩ := hold_yes T L0 HD RA ncl (s5.free hr1) (s5.free hdc) (s5.free hdl) s56
        refine ⟨_, rfl, A.p, _, dx, _, rfl, s56 _ _ p4, T.kG, T.gRl, (by show 6 < 1000; decide), ?_⟩
        exact k _ _ q1 ((Step.same s0).trans q2) rfl
    · have hx : l.au ∉ auths o := fun hx => by
        rw [val_row, if_pos hx] at hv
        cases hv
      have HD := hold_new (u0 := .lst []) L.st hl hx hp o1 o2
      have ndr : A.S.dr ≠ p := ne_of_none L.st.rows.tab hp
      have r1 : upd (upd H p (.lst [])) A.S.dr (.dK (putK (rowK A.S.la (auths o)) (Sum.inr l.au : Key) (.ref p))) p = some (.lst []) := by rw [upd_ne ndr.symm]; exact upd_same
      refine ⟨.inl ⟨rfl, _, SqL.of r1⟩, _, rfl, p, _, _, rfl, rfl, r1, (by show 0 < sizeLine; decide), ?_⟩
      have nlo : A.S.lo ≠ p := ne_of_none o1 hp
      have nrl : A.S.lo ≠ A.S.dr := ne_of o1 L.st.rows.tab (by intro q; cases q)
      have npp : A.p ≠ p := ne_of_none h1 hp
      have npr : A.p ≠ A.S.dr := ne_of h1 L.st.rows.tab (by intro q; cases q)
      have o3 : upd (upd (upd H p (.lst [])) A.S.dr (.dK (putK (rowK A.S.la (auths o)) (Sum.inr l.au : Key) (.ref p)))) p (.lst (([] : List V) ++ [.ref a])) A.S.lo = some (.lst (bs.map V.ref)) := by rw [upd_ne nlo, upd_ne nrl, upd_ne nlo]; exact o1
      refine ⟨_, rfl, A.p, _, dx, _, _, rfl, by rw [upd_ne npp, upd_ne npr, upd_ne npp]; exact h1, T.kG, T.gOr, gf_or _ _ _ _ _ _, .inl ⟨rfl, _, SqL.of o3⟩, _, rfl, A.S.lo, _, _, rfl, rfl, o3, by rw [List.length_map, sizeLine_eq]; omega, ?_⟩
      generalize upd (upd (upd (upd H p (.lst [])) A.S.dr (.dK (putK (rowK A.S.la (auths o)) (Sum.inr l.au : Key) (.ref p)))) p (.lst (([] : List V) ++ [.ref a]))) A.S.lo (.lst (bs.map V.ref ++ [.ref a])) = H3 at HD ⊢
      have a3' : H3 a = some (.ins (cL K) dy (lf l ts tb)) := HD.kp _ _ a1 (L.st.nins a1)
      have p3 := held_p L HD h1
      refine ⟨_, rfl, A.p, _, dx, _, _, rfl, p3, T.kG, T.gTo, gf_to _ _ _ _ _ _, _, rfl, a, _, dy, _, _, rfl, a3', T.kL, T.nSt, lf_st _ _ _, _, _, rfl, ?_⟩
      rw [hmx]
      refine ⟨_, rfl, A.p, _, dx, _, rfl, p3, T.kG, T.gTo, (by show 6 < 1000; decide), ?_⟩
      have i4 := held_im T L HD (u := .ins (cG K) dx (gf g.au A.S.dr A.S.lo A.S.dw A.r (topN (o ++ [l]))))
      have b4 := BodyAt.im i4 a3
      have a4 : upd H3 A.p (.ins (cG K) dx (gf g.au A.S.dr A.S.lo A.S.dw A.r (topN (o ++ [l])))) a = some (.ins (cL K) dy (lf l ts tb)) := by rw [upd_ne hpa.symm]; exact a3'
      refine ⟨_, rfl, a, _, dy, _, _, rfl, a4, T.kL, T.nBo, lf_bo _ _ _, tb, l, rfl, b4, fun H5 s5 => ⟨_, rfl, ?_⟩⟩
      cases hact : l.act with
      | false =>
        refine iteF ?_
        obtain ⟨q1, q2⟩ := hold_no T L HD hact s5
        exact k _ _ q1 (q2) rfl
      | true =>
        refine iteT ?_
        have p4 : upd H3 A.p (.ins (cG K) dx (gf g.au A.S.dr A.S.lo A.S.dw A.r (topN (o ++ [l])))) A.p = some (.ins (cG K) dx (gf g.au A.S.dr A.S.lo A.S.dw A.r (topN (o ++ [l])))) := upd_same
        have np : ∀ b, SA.own ⟨A.S.dr, A.S.lo, A.S.dw, (putLa A.S.la l.au p)⟩ (o ++ [l]) b → b ≠ A.p := fun b q e => by
          obtain ⟨u, u1, u2⟩ := HD.st.kind q
          rw [e, p3] at u1
          exact u2 _ _ _ (Option.some.inj u1).symm
        have m4 : Im K H3 (upd H3 A.p (.ins (cG K) dx (gf g.au A.S.dr A.S.lo A.S.dw A.r (topN (o ++ [l]))))) := .set p3 (by unfold isMut; simp [T.neG])
        have st5 := (HD.st.kp m4 fun b u q e => by rw [upd_ne (np b q)]; exact e).same s5
        refine ⟨_, rfl, A.p, _, dx, _, _, rfl, s5 _ _ p4, T.kG, T.gFo, gf_fo _ _ _ _ _ _, _, rfl, A.p, _, dx, _, _, rfl, s5 _ _ p4, T.kG, T.gRo, gf_ro _ _ _ _ _ _, g, A.S.dr, (putLa A.S.la l.au p), o ++ [l], rfl, st5.rows, hO, hms, by rw [List.length_append, List.length_singleton]; omega, fun r dc dl H6 RA ncl hr1 hdc hdl s6 => ?_⟩
        have s56 := s5.trans s6
        obtain ⟨q1, q2⟩ := hold_yes T L HD RA ncl (s5.free hr1) (s5.free hdc) (s5.free hdl) s56
        refine ⟨_, rfl, A.p, _, dx, _, rfl, s56 _ _ p4, T.kG, T.gRl, (by show 6 < 1000; decide), ?_⟩
        exact k _ _ q1 (q2) rfl
end
end Lo
set_option Elab.async false
set_option maxRecDepth 100000
set_option maxHeartbeats 4000000
namespace Lo
open PySem PySem.Spec PyProof.Rows L2
/-! ### the table of what waits -/
def wk (l : Ltr) : Str × Nat := (l.au, l.num)
def KeysNd (w : List Ltr) : Prop := (w.map wk).Nodup
theorem GoodR.keysNd {f : Ltr} {G o w : List Ltr} (g : GoodR f G o w) : KeysNd w := by
  unfold KeysNd
  refine List.pairwise_map.mpr (List.Pairwise.imp_of_mem (fun {a b} ha hb hne e => hne ?_) g.wnd)
  exact g.inj (g.wG a ha) (g.wG b hb) (congrArg Prod.fst e) (congrArg Prod.snd e)
theorem KeysNd.sub {w v : List Ltr} (h : KeysNd w) (s : v.Sublist w) : KeysNd v := h.sublist (s.map wk)
theorem findW_mem {w : List Ltr} (h : KeysNd w) {l : Ltr} (hl : l ∈ w) : findW w l.au l.num = some l := by
  induction w with
  | nil => cases hl
  | cons a r ih =>
    unfold findW
    rw [List.find?_cons]
    by_cases e : a.au = l.au ∧ a.num = l.num
    · rw [decide_eq_true e]
      rcases List.mem_cons.mp hl with rfl | hr
      · rfl
      · unfold KeysNd at h
        rw [List.map_cons, List.nodup_cons] at h
        exact absurd (List.mem_map.mpr ⟨l, hr, Prod.ext e.1.symm e.2.symm⟩) h.1
    · rw [decide_eq_false e]
      rcases List.mem_cons.mp hl with rfl | hr
      · exact absurd ⟨rfl, rfl⟩ e
      · unfold KeysNd at h
        rw [List.map_cons, List.nodup_cons] at h
        exact ih h.2 hr
def wdrop (nv : Ltr → Bool) (w : List Ltr) (i : Nat) : List Ltr := (w.take i).filter nv ++ w.drop i
theorem wdrop_sub (nv : Ltr → Bool) (w : List Ltr) (i : Nat) : (wdrop nv w i).Sublist w := by
  unfold wdrop
  have h : ((w.take i).filter nv ++ w.drop i).Sublist (w.take i ++ w.drop i) := List.filter_sublist.append (List.Sublist.refl _)
  rwa [List.take_append_drop] at h
theorem wdrop_len (nv : Ltr → Bool) (w : List Ltr) (i : Nat) : (wdrop nv w i).length ≤ w.length := (wdrop_sub nv w i).length_le
theorem wdrop_zero (nv : Ltr → Bool) (w : List Ltr) : wdrop nv w 0 = w := rfl
theorem wdrop_all (nv : Ltr → Bool) (w : List Ltr) : wdrop nv w w.length = w.filter nv := by
  unfold wdrop
  rw [List.take_length, List.drop_length, List.append_nil]
theorem wdrop_keep {nv : Ltr → Bool} {w : List Ltr} {i : Nat} {l : Ltr} (h : w[i]? = some l) (hv : nv l = true) : wdrop nv w (i + 1) = wdrop nv w i := by
  unfold wdrop
  have hi := (List.getElem?_eq_some_iff.mp h).1
  have e : w.drop i = l :: w.drop (i + 1) := by
    rw [List.drop_eq_getElem_cons hi, (List.getElem?_eq_some_iff.mp h).2]
  rw [take_succ_filter h, if_pos hv, e, List.append_assoc]
  rfl
theorem wdrop_mem {nv : Ltr → Bool} {w : List Ltr} {i : Nat} {l : Ltr} (h : w[i]? = some l) : l ∈ wdrop nv w i := by
  unfold wdrop
  have hi := (List.getElem?_eq_some_iff.mp h).1
  have e : w.drop i = l :: w.drop (i + 1) := by
    rw [List.drop_eq_getElem_cons hi, (List.getElem?_eq_some_iff.mp h).2]
  rw [e]
  exact List.mem_append_right _ List.mem_cons_self
theorem dropR_app (v u : List Ltr) (l : Ltr) : dropR (v ++ u) l = dropR v l ++ dropR u l := by
  unfold dropR
  rw [List.filter_append]
theorem dropR_not {w : List Ltr} {l : Ltr} (h : wk l ∉ w.map wk) : dropR w l = w := by
  unfold dropR
  rw [List.filter_eq_self]
  intro a ha
  rw [Bool.not_eq_true', decide_eq_false_iff_not]
  rintro ⟨e1, e2⟩
  exact h (List.mem_map.mpr ⟨a, ha, Prod.ext e1 e2⟩)
theorem wdrop_drop {nv : Ltr → Bool} {w : List Ltr} {i : Nat} {l : Ltr} (nd : KeysNd w) (h : w[i]? = some l) (hv : nv l = false) : dropR (wdrop nv w i) l = wdrop nv w (i + 1) := by
  have hi := (List.getElem?_eq_some_iff.mp h).1
  have e : w.drop i = l :: w.drop (i + 1) := by
    rw [List.drop_eq_getElem_cons hi, (List.getElem?_eq_some_iff.mp h).2]
  have ew : w = w.take i ++ l :: w.drop (i + 1) := by rw [← e, List.take_append_drop]
  have nd2 : (((w.take i).map wk) ++ wk l :: (w.drop (i + 1)).map wk).Nodup := by
    unfold KeysNd at nd
    rw [ew, List.map_append, List.map_cons] at nd
    exact nd
  obtain ⟨n1, n2⟩ := nodup_mid nd2
  unfold wdrop
  rw [dropR_app, take_succ_filter h, hv, e]
  have e1 : dropR ((w.take i).filter nv) l = (w.take i).filter nv := dropR_not fun q => n1 (by
    obtain ⟨a, ha, hk⟩ := List.mem_map.mp q
    exact List.mem_map.mpr ⟨a, (List.mem_filter.mp ha).1, hk⟩)
  have e2 : dropR (l :: w.drop (i + 1)) l = w.drop (i + 1) := by
    have e3 : dropR (l :: w.drop (i + 1)) l = dropR (w.drop (i + 1)) l := by
      unfold dropR
      rw [List.filter_cons]
      simp
    rw [e3, dropR_not n2]
  rw [e1, e2]
  simp
theorem waitK_drop {K : PySem.W.Frag} {H : Hp} {kvs : List (List Key × V)} {w : List Ltr} (h : WaitK K H kvs w) (l : Ltr) : WaitK K H (dropK kvs (tk l)) (dropR w l) := by
  refine pair_filter h fun kv a r => ?_
  obtain ⟨e, _⟩ := r
  rw [e]
  have hk : tk a = tk l ↔ (a.au = l.au ∧ a.num = l.num) := ?_
  · by_cases z : tk a = tk l
    · rw [decide_eq_true (hk.mp z), decide_eq_false (not_not_intro z)]
      rfl
    · rw [decide_eq_false (fun q => z (hk.mpr q)), decide_eq_true z]
      rfl
  unfold tk
  constructor
  · intro z
    injection z with z1 z2
    injection z2 with z3 _
    exact ⟨Sum.inr.inj z1, by have := Sum.inl.inj z3; omega⟩
  · rintro ⟨z1, z2⟩
    rw [z1, z2]
theorem waitK_put {K : PySem.W.Frag} {H : Hp} {kvs : List (List Key × V)} {w : List Ltr} (h : WaitK K H kvs w) {l : Ltr} {a : Addr} (hl : LetterAt (cL K) H a l) (hn : findW w l.au l.num = none) : WaitK K H (putK kvs (tk l) (.ref a)) (w ++ [l]) := by
  have hv := val_wait l.au l.num h
  rw [hn] at hv
  have hv2 : valV kvs (tk l) = none := hv
  rw [putK_new _ hv2]
  exact pair_app h (.cons ⟨rfl, a, rfl, hl⟩ .nil)
theorem tk_map (l : Ltr) : (tk l).map kV = [.str l.au, .int l.num] := rfl
theorem key_at {K : PySem.W.Frag} {H : Hp} {kvs : List (List Key × V)} {w : List Ltr} {bs : List Addr} (h : WaitK K H kvs w) (hk : IsKeys H kvs bs) : Paired (fun (b : Addr) (l : Ltr) => H b = some (.tup [.str l.au, .int l.num])) bs w := by
  unfold WaitK at h
  unfold IsKeys at hk
  induction h generalizing bs with
  | nil => cases hk; exact .nil
  | cons r _ ih =>
    cases hk with
    | cons r2 t2 =>
      rw [r.1] at r2
      exact .cons r2 (ih t2)
end Lo
set_option Elab.async false
set_option maxRecDepth 100000
set_option maxHeartbeats 4000000
namespace Lo
open PySem PySem.Spec PyProof.Rows L2
open C8 (Cal Met Mak scC fnScope_by pe_c pe_mk pe_mt pe_mt0)
section
variable {K : PySem.W.Frag} {H : Hp} {S : SA} {A : LA} {g : Ltr} {o w w' : List Ltr} {kvs' : List (List Key × V)}
theorem StoreAt.setw (L : StoreAt K H S o w) (hk : WaitK K H kvs' w') : StoreAt K (upd H S.dw (.dT kvs')) S o w' := by
  obtain ⟨kvs, w1, w2⟩ := L.wait
  obtain ⟨bs, o1, o2⟩ := L.ord
  have i : Im K H (upd H S.dw (.dT kvs')) := .set w1 rfl
  refine ⟨L.rows.kp i (fun u e => ?_) (fun x hx u e => ?_), L.ord.kp i (fun u e => ?_), ⟨kvs', upd_same, hk.im i⟩, L.inj, L.nlo⟩
  · rw [upd_ne (ne_of L.rows.tab w1 (by intro z; cases z))]
    exact e
  · obtain ⟨as, r1, _⟩ := L.rows.row x hx
    rw [upd_ne (ne_of r1 w1 (by intro z; cases z))]
    exact e
  · rw [upd_ne (ne_of o1 w1 (by intro z; cases z))]
    exact e
theorem LedAt.setw (L : LedAt K H A g o w) (hk : WaitK K H kvs' w') : LedAt K (upd H A.S.dw (.dT kvs')) A g o w' := by
  obtain ⟨kvs, w1, w2⟩ := L.st.wait
  obtain ⟨dx, h1⟩ := L.ob
  obtain ⟨dr, r1⟩ := L.rl.ob
  obtain ⟨kc, c1, _⟩ := L.rl.came
  refine ⟨L.st.setw hk, ⟨dx, ?_⟩, L.rl.kp fun b u e q => ?_, L.cl, L.ndc, L.ndl, L.npr⟩
  · rw [upd_ne (ne_of h1 w1 (by intro z; cases z))]
    exact h1
  · rw [upd_ne]
    · exact e
    · rcases q with rfl | rfl | rfl
      · exact ne_of r1 w1 (by intro z; cases z)
      · exact ne_of c1 w1 (by intro z; cases z)
      · exact ne_of L.rl.lims w1 (by intro z; cases z)
theorem step_w {S : SA} {o : List Ltr} {u : HO} : Step (S.own o) (S.own o) H (upd H S.dw u) := ⟨fun b v e n => by rw [upd_ne (fun z => n (.inr (.inr (.inl z))))]; exact e, fun b q => .inl q⟩
theorem step_wL {u : HO} : Step (A.own o) (A.own o) H (upd H A.S.dw u) := ⟨fun b v e n => by rw [upd_ne (fun z => n (.inr (.inr (.inr (.inr (.inr (.inr (.inl z))))))))]; exact e, fun b q => .inl q⟩
end
section
variable {P : Program} {w : World} {K : PySem.W.Frag} {mg : Str → Option Value} {base : Heap} {f : Addr}
def nvoid (g : Ltr) (o : List Ltr) (l : Ltr) : Bool := !voidR (rollS g o) l
def spDrop (K : PySem.W.Frag) : Sp := fun vs H Q _ => ∃ (A : LA) (g : Ltr) (o w : List Ltr), vs = [.ref A.p] ∧ LedAt K H A g o w ∧ KeysNd w ∧ ∀ H' : Hp, LedAt K H' A g o (w.filter (nvoid g o)) → Step (A.own o) (A.own o) H H' → Q .non H'
theorem ok_drop (S : Src K "_drop_void" "Ledger._drop_void" s_Ledger_drop_void f) (T : Txt K mg) (m : Meth K (cG K) "_drop_void" f) (mv : Met P w K mg base 3 (cG K) "_is_void" (spVoid K) []) : Met P w K mg base 4 (cG K) "_drop_void" (spDrop K) [] := by
  refine met_of S T.kG m sc_Ledger_drop_void bi_Ledger_drop_void (fun vs H Q E h => ?_) (fun cdv A outer s H vs Q E hr h => ?_)
  · obtain ⟨A, g, o, w, rfl, _⟩ := h
    rfl
  · obtain ⟨A, g, o, w, rfl, L, nd, k⟩ := h
    obtain ⟨dx, h1⟩ := L.ob
    obtain ⟨kvs, w1, w2⟩ := L.st.wait
    have hu := hu_of hr
    have ndn := (fnScope_by sc_Ledger_drop_void).nd
    refine ⟨_, pss_one (ps_for PassesOwn.never rfl (pi_list (pe_callTy (call_list_dT rfl) (by rfl) T.list (by decide +kernel) (pa_cons (pe_fld (pv 0) rfl) pa_nil))) (pg_name (i := 1) ndn rfl (.inl rfl))
      (pss_one (ps_if (pt_val (pe_mt mv hr (by decide) (pv 0) (pa_cons (pe_dget hu (pe_fld (pv 0) rfl) (pv 1) (fun _ _ => rfl)) pa_nil)))
        (pss_one (ps_ddelT hu (pe_fld (pv 0) rfl) (pv 1))) pss_nil))), ?_⟩
    refine ⟨_, rfl, A.p, _, dx, _, _, rfl, h1, T.kG, T.gWa, gf_wa _ _ _ _ _ _, A.S.dw, kvs, rfl, .inl w1, fun l bs hl hbs => ?_⟩
    have hps := key_at w2 hbs
    have s0 : Same H (upd H l (.lst (bs.map V.ref))) := same_new hl
    have hl1 : upd H l (.lst (bs.map V.ref)) l = some (.lst (bs.map V.ref)) := upd_same
    generalize upd H l (.lst (bs.map V.ref)) = H1 at s0 hl1
    have L1 := L.same s0
    have lown : ¬ A.own o l := fun q => by
      obtain ⟨u, u1, u2⟩ := L.ex T.neG T.neR q
      rw [hl] at u1
      cases u1
    refine ⟨l, rfl, ⟨_, SqL.of hl1⟩, for_list (K := K) (a := l) (xs := bs.map V.ref) (fun i σ H2 => ∃ u : Option V, σ = [some (.ref A.p), u] ∧ LedAt K H2 A g o (wdrop (nvoid g o) w i) ∧ Step (A.own o) (A.own o) H1 H2)
      ⟨none, rfl, L1, .same (.refl H1)⟩ ?_ ?_ ?_⟩
    · rintro i σ H2 hi ⟨u, rfl, L2, st⟩
      exact SqL.of (st.kp _ _ hl1 lown)
    · rintro i y σ H2 hi ⟨u, rfl, L2, st⟩
      obtain ⟨b, hb, rfl⟩ := map_get hi
      obtain ⟨x, hx, hbx⟩ := pair_l hps hb
      have im2 : Im K H H2 := (Im.same s0).trans (st.im fun b q => L1.ex T.neG T.neR q)
      have hb2 : H2 b = some (.tup [.str x.au, .int x.num]) := im2 _ _ hbx rfl
      obtain ⟨dx2, h2⟩ := L2.ob
      obtain ⟨kv2, v1, v2⟩ := L2.st.wait
      have hv := val_wait x.au x.num v2
      rw [findW_mem (nd.sub (wdrop_sub _ _ _)) (wdrop_mem hx)] at hv
      obtain ⟨a, hv1, hla⟩ := hv
      have dg := DGet.t (k := tk x) v1 hb2
      have dg2 : DGet H2 A.S.dw (.ref b) (some (.ref a)) := by
        have e : valV kv2 (tk x) = some (.ref a) := hv1
        rw [e] at dg
        exact dg
      refine ⟨_, rfl, A.p, dx2, _, rfl, h2, rfl, _, rfl, A.p, _, dx2, _, _, rfl, h2, T.kG, T.gWa, gf_wa _ _ _ _ _ _, _, rfl, A.S.dw, _, rfl, dg2, A, g, o, _, a, x, rfl, L2, hla, fun H3 s3 => ⟨_, rfl, ?_⟩⟩
      have L3 := L2.same s3
      cases hc : voidR (rollS g o) x with
      | false =>
        refine iteF ?_
        exact ⟨_, rfl, by rw [wdrop_keep hx (by unfold nvoid; rw [hc]; rfl)]; exact L3, st.trans (.same s3)⟩
      | true =>
        refine iteT ?_
        refine ⟨_, rfl, A.p, _, dx2, _, _, rfl, s3 _ _ h2, T.kG, T.gWa, gf_wa _ _ _ _ _ _, _, rfl, A.S.dw, kv2, tk x, b, rfl, s3 _ _ v1, rfl, s3 _ _ hb2, ⟨_, hv1⟩, ?_⟩
        refine ⟨_, rfl, ?_, (st.trans (.same s3)).trans step_wL⟩
        have := L3.setw (waitK_drop (v2.im (.same s3)) x)
        rw [wdrop_drop nd hx (by unfold nvoid; rw [hc]; rfl)] at this
        exact this
    · rintro σ H2 ⟨u, rfl, L2, st⟩
      have e : (bs.map V.ref).length = w.length := by rw [List.length_map, pair_len hps]
      rw [e, wdrop_all] at L2
      exact k H2 L2 ((Step.same s0).trans st)
end
end Lo
set_option Elab.async false
set_option maxRecDepth 100000
set_option maxHeartbeats 4000000
namespace Lo
open PySem PySem.Spec PySem.W PyProof.Rows L2
section
variable {X : Cx}
/-- d != e of tables that are the same, or differ in length -/
def rNeDL : R2 := fun x y H Q => ∃ a b ks ls, x = .ref a ∧ y = .ref b ∧ H a = some (.dK ks) ∧ H b = some (.dK ls) ∧
  ((ks.length ≠ ls.length ∧ Q (.bl true) H) ∨ (ks.length = ls.length ∧ (∀ p ∈ ks, valV ls p.1 = some p.2 ∧ flatB p.2 = true) ∧ Q (.bl false) H))
theorem op_neDL (hu : X.A.units < cLine) : OpR X (compareOp .NotEq) rNeDL := by
  intro pins s σ H x y v u Q I rx ry h
  obtain ⟨a, b, ks, ls, rfl, rfl, ea, eb, h⟩ := h
  rcases h with ⟨hlen, q⟩ | ⟨hlen, hp, q⟩
  · obtain rfl : v = Value.ref a := rx
    obtain rfl : u = Value.ref b := ry
    obtain ⟨_, ya, va, ra, da⟩ := (show ObjOk X.prog X.w H s.heap a (.dK ks) from I.hok a _ ea)
    obtain ⟨_, yb, vb, rb, db⟩ := (show ObjOk X.prog X.w H s.heap b (.dK ls) from I.hok b _ eb)
    have hl : va.length ≠ vb.length := by rw [← ra.length, ← rb.length]; exact hlen
    exact PySem.W.keq_ne (knd := mixKind X.prog X.w) (r := true) ya yb da db hu (fun z => absurd z hl) (fin_bl I q (by simp [hl]))
  · exact op_ne_dictA hu pins s σ H (.ref a) (.ref b) v u Q I rx ry ⟨a, b, ks, ls, rfl, rfl, ea, eb, hlen, hp, q⟩
end
end Lo
set_option Elab.async false
set_option maxRecDepth 100000
set_option maxHeartbeats 4000000
namespace Lo
open PySem PySem.Spec PyProof.Rows L2
open C8 (Cal Met Mak scC fnScope_by pe_c pe_mk pe_mt pe_mt0)
section
variable {P : Program} {w : World} {K : PySem.W.Frag} {mg : Str → Option Value} {base : Heap} {f : Addr}
theorem RefAt.im {K : PySem.W.Frag} {H H' : Hp} {b : RB} (h : RefAt H b) (i : Im K H H') : RefAt H' b := i _ _ h rfl
def spHoldAll (K : PySem.W.Frag) : Sp := fun vs H Q _ => ∃ (A : LA) (g : Ltr) (G o w : List Ltr), vs = [.ref A.p] ∧ LedAt K H A g o w ∧ GoodR g G o w ∧ (∀ l ∈ w, voidR (rollS g o) l = false) ∧ g.mems.length ≤ 500 ∧ G.length < 64 ∧
  ∀ (A' : LA) (H' : Hp) (p : Addr), LedAt K H' A' g (run g (w.length + 1) o w).2.1 (run g (w.length + 1) o w).2.2 → Step (A.own o) (A'.own (run g (w.length + 1) o w).2.1) H H' → A'.p = A.p → H p = none → RefsAt H' p ((run g (w.length + 1) o w).1.map wk) → Q (.ref p) H'
theorem ok_holdall (S : Src K "_hold_all" "Ledger._hold_all" s_Ledger_hold_all f) (T : Txt K mg) (m : Meth K (cG K) "_hold_all" f) (mcu : Met P w K mg base 1 (cR K) "cuts" (spCuts K) []) (mre : Met P w K mg base 4 (cG K) "_ready" (spReady K) [])
    (mh : Met P w K mg base 5 (cG K) "_hold" (spHold K) []) (mr : Prp P w K mg base 1 (cL K) "ref" (spRef K)) (md : Met P w K mg base 4 (cG K) "_drop_void" (spDrop K) []) : Met P w K mg base 6 (cG K) "_hold_all" (spHoldAll K) [] := by
  refine met_of S T.kG m sc_Ledger_hold_all bi_Ledger_hold_all (fun vs H Q E h => ?_) (fun cdv A outer s H vs Q E hr h => ?_)
  · obtain ⟨A, g, G, o, w, rfl, _⟩ := h
    rfl
  · obtain ⟨A, g, G, o, w, rfl, L, gd, nv, hms, hG, k⟩ := h
    obtain ⟨dx, h1⟩ := L.ob
    obtain ⟨dr, r1⟩ := L.rl.ob
    have hu := hu_of hr
    have nd := (fnScope_by sc_Ledger_hold_all).nd
    refine ⟨_, pss_cons (ps_set (i := 1) nd rfl (.inl rfl) (pe_lst pa_nil))
      (pss_cons (ps_set (i := 2) nd rfl (.inl rfl) (pe_mt0 mcu hr (by decide) (pe_fld (pv 0) rfl)))
      (pss_cons (ps_set (i := 3) nd rfl (.inl rfl) (pe_mt0 mre hr (by decide) (pv 0)))
      (pss_cons (ps_while PassesOwn.never (pt_cmpR op_notN (pv 3) pe_non (nomark _))
        (pss_cons (ps_ddelT hu (pe_fld (pv 0) rfl) (pe_prp mr hr (by decide) (pv 3)))
        (pss_cons (ps_expr (pe_mt mh hr (by decide) (pv 0) (pa_cons (pv 3) pa_nil)))
        (pss_cons (ps_expr (pe_bm PySem.F.plainAttrs_list PySem.F.slot_list_append PySem.F.type_list_append mt_append (pv 1) (pa_cons (pe_prp mr hr (by decide) (pv 3)) pa_nil)))
        (pss_one (ps_set (i := 3) nd rfl (.inl rfl) (pe_mt0 mre hr (by decide) (pv 0))))))))
      (pss_cons (ps_if (pt_cmpR (op_neDL hr.units0) (pe_mt0 mcu hr (by decide) (pe_fld (pv 0) rfl)) (pv 2) (nomark _)) (pss_one (ps_expr (pe_mt0 md hr (by decide) (pv 0)))) pss_nil)
      (pss_one (ps_ret (pv 1))))))), ?_⟩
    refine ⟨(by show 0 ≤ sizeLine; decide), fun p hp => ?_⟩
    have s1 : Same H (upd H p (.lst [])) := same_new hp
    have hp1 : upd H p (.lst []) p = some (.lst []) := upd_same
    generalize upd H p (.lst []) = H1 at s1 hp1
    refine ⟨_, rfl, A.p, _, dx, _, _, rfl, s1 _ _ h1, T.kG, T.gRl, gf_rl _ _ _ _ _ _, A.r, dr, _, rfl, s1 _ _ r1, rfl, A.r, A.dc, A.dl, _, rollS g o, rfl, L.rl.same s1, fun q hq => ?_⟩
    have s2 : Same H1 (upd H1 q (.dK (limK (rollS g o).lims))) := same_new hq
    have hq2 : upd H1 q (.dK (limK (rollS g o).lims)) q = some (.dK (limK (rollS g o).lims)) := upd_same
    have hq0 := s1.free hq
    generalize upd H1 q (.dK (limK (rollS g o).lims)) = H2 at s2 hq2
    have s12 := s1.trans s2
    have L2 := L.same s12
    refine ⟨_, rfl, A.p, dx, _, rfl, s12 _ _ h1, rfl, A, g, G, o, w, rfl, L2, gd, fun v H3 s3 hv => ?_⟩
    have s13 := s12.trans s3
    have nown : ∀ b, H b = none → ¬ A.own o b := fun b e z => by
      obtain ⟨u, u1, _⟩ := L.ex T.neG T.neR z
      rw [e] at u1
      cases u1
    generalize hN : w.length + 1 = N at k
    refine ⟨fun n σ H4 => ∃ (v : V) (A' : LA) (o' w' rs : List Ltr) (bs : List RB), σ = [some (.ref A.p), some (.ref p), some (.ref q), some v] ∧ LedAt K H4 A' g o' w' ∧ A'.p = A.p ∧ Step (A.own o) (A'.own o') H H4 ∧
        H4 p = some (.lst (bs.map fun b => V.ref b.1)) ∧ H4 q = some (.dK (limK (rollS g o).lims)) ∧ ¬ A'.own o' p ∧ ¬ A'.own o' q ∧ bs.map (·.2) = rs.map wk ∧ (∀ b ∈ bs, RefAt H4 b) ∧ OptAt K H4 v (ready g o' w') ∧ GoodR g G o' w' ∧
        run g N o w = (rs ++ (run g n o' w').1, (run g n o' w').2) ∧ o' = o ++ rs ∧ (∀ l ∈ w', l ∈ w) ∧ w'.length < n,
      ⟨N, v, A, o, w, [], [], rfl, L2.same s3, rfl, .same s13, s3 _ _ (s2 _ _ hp1), s3 _ _ hq2, nown _ hp, nown _ hq0, rfl, fun _ h => (by cases h), hv, gd, rfl, by rw [List.append_nil], fun _ h => h, by omega⟩, ?_⟩
    rintro n σ H4 ⟨v, A', o', w', rs, bs, rfl, L4, ep, st, hp4, hq4, np, nq, eb, hb, hv4, gd4, er, eo, hs, hn⟩
    obtain ⟨dx4, h4⟩ := L4.ob
    obtain ⟨n, rfl⟩ : ∃ n', n = n' + 1 := ⟨n - 1, by omega⟩
    have ho64 := gd4.olen
    refine ⟨_, rfl, rfl, _, rfl, ?_⟩
    cases e : ready g o' w' with
    | none =>
      rw [e] at hv4
      obtain rfl : v = .non := hv4
      rw [decide_eq_true rfl, Bool.not_true]
      refine iteF ?_
      rw [run_none e] at er
      rw [List.append_nil] at er
      obtain ⟨dr4, r4⟩ := L4.rl.ob
      rw [← ep]
      refine ⟨_, rfl, A'.p, _, dx4, _, _, rfl, h4, T.kG, T.gRl, gf_rl _ _ _ _ _ _, A'.r, dr4, _, rfl, r4, rfl, A'.r, A'.dc, A'.dl, _, rollS g o', rfl, L4.rl, fun q5 hq5 => ?_⟩
      have s5 : Same H4 (upd H4 q5 (.dK (limK (rollS g o').lims))) := same_new hq5
      have e5 : upd H4 q5 (.dK (limK (rollS g o').lims)) q5 = some (.dK (limK (rollS g o').lims)) := upd_same
      generalize upd H4 q5 (.dK (limK (rollS g o').lims)) = H5 at s5 e5
      refine ⟨_, rfl, q5, q, _, _, rfl, rfl, e5, s5 _ _ hq4, ?_⟩
      have fin : ∀ H6 : Hp, LedAt K H6 A' g o' (w'.filter fun l => !voidR (rollS g o') l) → Step (A'.own o') (A'.own o') H4 H6 → Q (.ref p) H6 := fun H6 L6 st6 => by
        refine k A' H6 p ?_ ?_ ep hp ?_
        · rw [er]
          exact L6
        · rw [er]
          exact st.trans st6
        · rw [er]
          refine ⟨bs, st6.kp _ _ hp4 np, eb, fun b hb' => (hb b hb').im (st6.im fun b q => L4.ex T.neG T.neR q)⟩
      by_cases hlen : (limK (rollS g o').lims).length = (limK (rollS g o).lims).length
      · -- nothing was cut
        obtain ⟨ex, hex⟩ := lims_grow g o rs
        rw [← eo] at hex
        have hex0 : ex = [] := by
          unfold limK at hlen
          rw [hex, List.length_map, List.length_map, List.length_append] at hlen
          exact List.length_eq_zero_iff.mp (by omega)
        rw [hex0, List.append_nil] at hex
        have hfil : (w'.filter fun l => !voidR (rollS g o') l) = w' := by
          rw [List.filter_eq_self]
          intro l hl
          rw [voidR_lims hex l, nv l (hs l hl)]
          rfl
        rw [hfil] at fin
        refine .inr ⟨hlen, fun pr hpr => ?_, _, rfl, ?_⟩
        · obtain ⟨x, hx, rfl⟩ := List.mem_map.mp hpr
          refine ⟨?_, rfl⟩
          show valV (limK (rollS g o).lims) (Sum.inr x.1 : Key) = _
          rw [val_lims, ← hex, lk_nd (lims_nd g o') hx]
          rfl
        · refine iteF ?_
          exact ⟨_, rfl, fin H5 (L4.same s5) (.same s5)⟩
      · refine .inl ⟨hlen, _, rfl, ?_⟩
        refine iteT ?_
        refine ⟨_, rfl, A'.p, dx4, _, rfl, s5 _ _ h4, rfl, A', g, o', w', rfl, L4.same s5, gd4.keysNd, fun H6 L6 st6 => ?_⟩
        exact ⟨_, rfl, fin H6 L6 ((Step.same s5).trans st6)⟩
    | some l =>
      rw [e] at hv4
      obtain ⟨a, rfl, hla⟩ := hv4
      rw [decide_eq_false (by intro z; cases z), Bool.not_false]
      obtain ⟨hlw, hcan⟩ := ready_some e
      have gdh := gd4.hold hlw hcan
      have hdl := dropR_len gd4 hlw
      refine iteT ⟨_, fun σ' H' q => ⟨n, Nat.lt_succ_self n, q⟩, ?_⟩
      obtain ⟨dy, ts, tb, a1, a2, a3⟩ := id hla
      obtain ⟨kvs, w1, w2⟩ := L4.st.wait
      rw [← ep]
      refine ⟨_, rfl, A'.p, _, dx4, _, _, rfl, h4, T.kG, T.gWa, gf_wa _ _ _ _ _ _, _, rfl, a, dy, _, rfl, a1, a, l, rfl, hla, fun t ht => ?_⟩
      have s5 : Same H4 (upd H4 t (.tup [.str l.au, .int l.num])) := same_new ht
      have e5 : upd H4 t (.tup [.str l.au, .int l.num]) t = some (.tup [.str l.au, .int l.num]) := upd_same
      generalize upd H4 t (.tup [.str l.au, .int l.num]) = H5 at s5 e5
      have hv := val_wait l.au l.num w2
      rw [findW_at gd4 hlw] at hv
      obtain ⟨av, hav, _⟩ := hv
      refine ⟨A'.S.dw, kvs, tk l, t, rfl, s5 _ _ w1, rfl, e5, ⟨_, hav⟩, ?_⟩
      have L5 := (L4.same s5).setw (waitK_drop (w2.im (.same s5)) l)
      have st5 : Step (A'.own o') (A'.own o') H4 (upd H5 A'.S.dw (.dT (dropK kvs (tk l)))) := (Step.same s5).trans step_wL
      generalize upd H5 A'.S.dw (.dT (dropK kvs (tk l))) = H6 at L5 st5
      have im6 : Im K H4 H6 := st5.im fun b q => L4.ex T.neG T.neR q
      have hla6 := hla.im im6
      obtain ⟨dx6, h6⟩ := L5.ob
      refine ⟨_, rfl, A'.p, dx6, _, rfl, h6, rfl, _, rfl, A', g, o', dropR w' l, a, l, rfl, L5, hla6, gdh.ord, hms, by omega, fun A7 H7 L7 st7 ep7 => ?_⟩
      have st47 := st5.trans st7
      have im7 : Im K H4 H7 := st47.im fun b q => L4.ex T.neG T.neR q
      have np7 : ¬ A7.own (o' ++ [l]) p := fun z => by
        rcases st47.ow _ z with z | z
        · exact np z
        · rw [hp4] at z; cases z
      have nq7 : ¬ A7.own (o' ++ [l]) q := fun z => by
        rcases st47.ow _ z with z | z
        · exact nq z
        · rw [hq4] at z; cases z
      have hp7 := st47.kp _ _ hp4 np
      have hq7 := st47.kp _ _ hq4 nq
      have hla7 := hla.im im7
      obtain ⟨dy7, ts7, tb7, a17, _⟩ := id hla7
      refine ⟨_, rfl, .inl ⟨rfl, _, SqL.of hp7⟩, _, rfl, a, dy7, _, rfl, a17, a, l, rfl, hla7, fun t8 ht8 => ?_⟩
      have s8 : Same H7 (upd H7 t8 (.tup [.str l.au, .int l.num])) := same_new ht8
      have e8 : upd H7 t8 (.tup [.str l.au, .int l.num]) t8 = some (.tup [.str l.au, .int l.num]) := upd_same
      generalize upd H7 t8 (.tup [.str l.au, .int l.num]) = H8 at s8 e8
      have lrs : bs.length = rs.length := by have := congrArg List.length eb; rwa [List.length_map, List.length_map] at this
      have lor : o'.length = o.length + rs.length := by rw [eo, List.length_append]
      refine ⟨p, _, _, rfl, rfl, s8 _ _ hp7, by rw [List.length_map, sizeLine_eq]; omega, ?_⟩
      have e9 : (bs.map fun b => V.ref b.1) ++ [V.ref t8] = (bs ++ [((t8, wk l) : RB)]).map fun b => V.ref b.1 := by rw [List.map_append]; rfl
      rw [e9]
      have L8 := L7.same s8
      have p8 := s8 _ _ hp7
      have kp9 : ∀ b u, H8 b = some u → b ≠ p → upd H8 p (.lst ((bs ++ [((t8, wk l) : RB)]).map fun b => V.ref b.1)) b = some u := fun b u e nb => by rw [upd_ne nb]; exact e
      have im9 : Im K H8 (upd H8 p (.lst ((bs ++ [((t8, wk l) : RB)]).map fun b => V.ref b.1))) := .set p8 rfl
      have L9 := L8.kp im9 fun b u q e => kp9 b u e fun z => np7 (z ▸ q)
      have p9 : upd H8 p (.lst ((bs ++ [((t8, wk l) : RB)]).map fun b => V.ref b.1)) p = some (.lst ((bs ++ [((t8, wk l) : RB)]).map fun b => V.ref b.1)) := upd_same
      have st9 : Step (A.own o) (A7.own (o' ++ [l])) H (upd H8 p (.lst ((bs ++ [((t8, wk l) : RB)]).map fun b => V.ref b.1))) := by
        have st8 := (st.trans st47).trans (.same s8)
        exact ⟨fun b u e n => kp9 b u (st8.kp b u e n) (ne_of_none e hp), st8.ow⟩
      have q9 := kp9 _ _ (s8 _ _ hq7) (ne_of (s8 _ _ hq7) p8 (by intro z; cases z))
      have t9 := kp9 _ _ e8 (ne_of e8 p8 (by intro z; cases z))
      have imall : Im K H4 (upd H8 p (.lst ((bs ++ [((t8, wk l) : RB)]).map fun b => V.ref b.1))) := im7.trans ((Im.same s8).trans im9)
      generalize upd H8 p (.lst ((bs ++ [((t8, wk l) : RB)]).map fun b => V.ref b.1)) = H9 at L9 p9 st9 q9 t9 imall
      obtain ⟨dx9, h9⟩ := L9.ob
      rw [← ep7]
      refine ⟨_, rfl, A7.p, dx9, _, rfl, h9, rfl, A7, g, G, o' ++ [l], dropR w' l, rfl, L9, gdh, fun v10 H10 s10 hv10 => ?_⟩
      refine ⟨v10, A7, o' ++ [l], dropR w' l, rs ++ [l], bs ++ [(t8, wk l)], rfl, L9.same s10, rfl, st9.trans (.same s10), s10 _ _ p9, s10 _ _ q9, np7, nq7, by rw [List.map_append, List.map_append, eb]; rfl, fun b hb' => ?_, hv10, gdh, ?_, by rw [eo, List.append_assoc], fun x hx => hs x (dropR_sub _ _ x hx), by omega⟩
      · rcases List.mem_append.mp hb' with z | z
        · exact (hb b z).im (imall.trans (.same s10))
        · rw [List.mem_singleton.mp z]
          exact s10 _ _ t9
      · rw [er, run_some e]
        rw [List.append_assoc]
        rfl
end
end Lo
set_option Elab.async false
set_option maxRecDepth 100000
set_option maxHeartbeats 4000000
namespace Lo
open PySem PySem.Spec PySem.W PyProof.Rows L2
theorem rcNe_same {A : Around} {s : Shared} {a b : Value} {d : PyData} {as bs : List Addr} (hd : (∃ xs, d = .tuple xs) ∨ ∃ xs, d = .list xs) (ra : Reads s.heap a d as) (rb : Reads s.heap b d bs) (h : alike d d = true) (hu : A.units + d.depth < cLine) : SeqAt.RcNeAt A s a b false := by
  have hu' : A.units + min d.depth d.depth < cLine := by rw [Nat.min_self]; exact hu
  have hr := eqv_refl_alike d h
  rcases hd with ⟨xs, rfl⟩ | ⟨xs, rfl⟩
  · have hal : alikeAll xs xs = true := by simpa [alike] using h
    cases ra with
    | @tuple l o vs n _ as₁ h1 h2 h3 h4 =>
      cases rb with
      | @tuple l' o' vs' n' _ bs₁ k1 k2 k3 k4 =>
        have hl : s.heap.IsTuple l vs := ⟨_, h1, h2, _, h3⟩
        have hl' : s.heap.IsTuple l' vs' := ⟨_, k1, k2, _, k3⟩
        have n1 : vs.size = xs.length := by simpa using SeqAt.ReadsAll.length _ _ _ h4
        have n2 : vs'.size = xs.length := by simpa using SeqAt.ReadsAll.length _ _ _ k4
        have he : ∀ j (j1 : j < vs.size) (j2 : j < vs'.size), SeqAt.EqAt A.in1 s vs[j] vs'[j] (SeqAt.pairEq xs xs j) := fun j j1 j2 => by
          have := eqAt_alikeAll xs xs A.in1 s vs.toList vs'.toList _ _ h4 k4 hal (SeqAt.room_in hu') j (by simpa using j1) (by simpa using j2)
          simpa using this
        have e : (false : Bool) = !PyData.eqvAll xs xs := by
          have e2 : PyData.eqvAll xs xs = true := by simpa [PyData.eqv] using hr
          rw [e2]
          rfl
        rw [e, ← SeqAt.eqvAll_eq xs xs]
        have r := SeqAt.RcNeAt.tuples hl hl' (SeqAt.room_here hu') he
        rw [n1, n2] at r
        exact r
  · have hal : alikeAll xs xs = true := by simpa [alike] using h
    cases ra with
    | @list l o vs n _ as₁ h1 h2 h3 h4 =>
      cases rb with
      | @list l' o' vs' n' _ bs₁ k1 k2 k3 k4 =>
        have hl : s.heap.IsList l vs := ⟨_, h1, h2, _, h3⟩
        have hl' : s.heap.IsList l' vs' := ⟨_, k1, k2, _, k3⟩
        have n1 : vs.size = xs.length := by simpa using SeqAt.ReadsAll.length _ _ _ h4
        have n2 : vs'.size = xs.length := by simpa using SeqAt.ReadsAll.length _ _ _ k4
        have he : ∀ j (j1 : j < vs.size) (j2 : j < vs'.size), SeqAt.EqAt A.in1 s vs[j] vs'[j] (SeqAt.pairEq xs xs j) := fun j j1 j2 => by
          have := eqAt_alikeAll xs xs A.in1 s vs.toList vs'.toList _ _ h4 k4 hal (SeqAt.room_in hu') j (by simpa using j1) (by simpa using j2)
          simpa using this
        have e : (false : Bool) = !PyData.eqvAll xs xs := by
          have e2 : PyData.eqvAll xs xs = true := by simpa [PyData.eqv] using hr
          rw [e2]
          rfl
        rw [e, ← SeqAt.eqvAll_same_length (rfl : xs.length = xs.length), ← n1]
        exact SeqAt.RcNeAt.lists hl hl' (by omega) (SeqAt.room_here hu') he
theorem rcEq_same {A : Around} {s : Shared} {a b : Value} {d : PyData} {as bs : List Addr} (hd : (∃ xs, d = .tuple xs) ∨ ∃ xs, d = .list xs) (ra : Reads s.heap a d as) (rb : Reads s.heap b d bs) (h : alike d d = true) (hu : A.units + d.depth < cLine) : SeqAt.RcAt A s a b true := by
  have hu' : A.units + min d.depth d.depth < cLine := by rw [Nat.min_self]; exact hu
  have hr := eqv_refl_alike d h
  rcases hd with ⟨xs, rfl⟩ | ⟨xs, rfl⟩
  · have hal : alikeAll xs xs = true := by simpa [alike] using h
    cases ra with
    | @tuple l o vs n _ as₁ h1 h2 h3 h4 =>
      cases rb with
      | @tuple l' o' vs' n' _ bs₁ k1 k2 k3 k4 =>
        have hl : s.heap.IsTuple l vs := ⟨_, h1, h2, _, h3⟩
        have hl' : s.heap.IsTuple l' vs' := ⟨_, k1, k2, _, k3⟩
        have n1 : vs.size = xs.length := by simpa using SeqAt.ReadsAll.length _ _ _ h4
        have n2 : vs'.size = xs.length := by simpa using SeqAt.ReadsAll.length _ _ _ k4
        have he : ∀ j (j1 : j < vs.size) (j2 : j < vs'.size), SeqAt.EqAt A.in1 s vs[j] vs'[j] (SeqAt.pairEq xs xs j) := fun j j1 j2 => by
          have := eqAt_alikeAll xs xs A.in1 s vs.toList vs'.toList _ _ h4 k4 hal (SeqAt.room_in hu') j (by simpa using j1) (by simpa using j2)
          simpa using this
        have e : (true : Bool) = PyData.eqvAll xs xs := by
          have e2 : PyData.eqvAll xs xs = true := by simpa [PyData.eqv] using hr
          exact e2.symm
        rw [e, ← SeqAt.eqvAll_eq xs xs]
        have r := SeqAt.RcAt.tuples hl hl' (SeqAt.room_here hu') he
        rw [n1, n2] at r
        exact r
  · have hal : alikeAll xs xs = true := by simpa [alike] using h
    cases ra with
    | @list l o vs n _ as₁ h1 h2 h3 h4 =>
      cases rb with
      | @list l' o' vs' n' _ bs₁ k1 k2 k3 k4 =>
        have hl : s.heap.IsList l vs := ⟨_, h1, h2, _, h3⟩
        have hl' : s.heap.IsList l' vs' := ⟨_, k1, k2, _, k3⟩
        have n1 : vs.size = xs.length := by simpa using SeqAt.ReadsAll.length _ _ _ h4
        have n2 : vs'.size = xs.length := by simpa using SeqAt.ReadsAll.length _ _ _ k4
        have he : ∀ j (j1 : j < vs.size) (j2 : j < vs'.size), SeqAt.EqAt A.in1 s vs[j] vs'[j] (SeqAt.pairEq xs xs j) := fun j j1 j2 => by
          have := eqAt_alikeAll xs xs A.in1 s vs.toList vs'.toList _ _ h4 k4 hal (SeqAt.room_in hu') j (by simpa using j1) (by simpa using j2)
          simpa using this
        have e : (true : Bool) = PyData.eqvAll xs xs := by
          have e2 : PyData.eqvAll xs xs = true := by simpa [PyData.eqv] using hr
          exact e2.symm
        rw [e, ← SeqAt.eqvAll_same_length (rfl : xs.length = xs.length), ← n1]
        exact SeqAt.RcAt.lists hl hl' (by omega) (SeqAt.room_here hu') he
section
variable {X : Cx}
def Seqd (d : PyData) : Prop := (∃ xs, d = .tuple xs) ∨ ∃ xs, d = .list xs
/-- x != y, the same data -/
def rSame (K : PySem.W.Frag) (r : Bool) : R2 := fun x y H Q => ∃ d, Dp K H x d ∧ Dp K H y d ∧ Seqd d ∧ alike d d = true ∧ d.depth ≤ 60 ∧ Q (.bl r) H
theorem op_neSame (hu : X.A.units + 64 < cLine) : OpR X (compareOp .NotEq) (rSame X.K false) := by
  intro pins s σ H x y v u Q I rx ry h
  obtain ⟨d, hd, he, sq, al, dp, q⟩ := h
  obtain ⟨as, r1⟩ := Dp.reads I d x v hd rx
  obtain ⟨bs, r2⟩ := Dp.reads I d y u he ry
  exact rcNe_same sq r1 r2 al (by omega) _ _ _ _ ⟨.bl _, H, I, rfl, q⟩
theorem op_eqSame (hu : X.A.units + 64 < cLine) : OpR X (compareOp .Eq) (rSame X.K true) := by
  intro pins s σ H x y v u Q I rx ry h
  obtain ⟨d, hd, he, sq, al, dp, q⟩ := h
  obtain ⟨as, r1⟩ := Dp.reads I d x v hd rx
  obtain ⟨bs, r2⟩ := Dp.reads I d y u he ry
  exact rcEq_same sq r1 r2 al (by omega) _ _ _ _ ⟨.bl _, H, I, rfl, q⟩
end
end Lo
set_option Elab.async false
set_option maxRecDepth 100000
set_option maxHeartbeats 4000000
namespace Lo
open PySem PySem.Spec PyProof.Rows L2
open C8 (Cal Met Mak scC fnScope_by pe_c pe_mk pe_mt pe_mt0)
/-! ### a letter as data -/
def bodyD : Bdy → PyData
  | .found ms => .tuple [.str "found", .str "room", .tuple (ms.map .str)]
  | .say => .tuple [.str "say", .str "x"]
  | .seen => .tuple [.str "seen"]
  | .add n => .tuple [.str "add", .str n]
  | .cut n => .tuple [.str "cut", .str n]
  | .hand n => .tuple [.str "hand", .str n]
def letD (l : Ltr) : PyData := .tuple [.str l.au, .int l.num, .int l.stamp, .tuple (l.seen.map refD), bodyD l.body]
theorem alike_strs (ms : List Str) : PySem.W.alikeAll (ms.map PyData.str) (ms.map PyData.str) = true := by
  induction ms with
  | nil => rfl
  | cons m r ih => simp [PySem.W.alike, PySem.W.alikeAll, ih]
theorem alike_refs (qs : List (Str × Nat)) : PySem.W.alikeAll (qs.map refD) (qs.map refD) = true := by
  induction qs with
  | nil => rfl
  | cons m r ih => simp [refD, PySem.W.alike, PySem.W.alikeAll, ih]
theorem alike_body (b : Bdy) : PySem.W.alike (bodyD b) (bodyD b) = true := by
  cases b <;> simp [bodyD, PySem.W.alike, PySem.W.alikeAll, alike_strs]
theorem alike_let (l : Ltr) : PySem.W.alike (letD l) (letD l) = true := by simp [letD, PySem.W.alike, PySem.W.alikeAll, alike_refs, alike_body]
theorem depth_strs (ms : List Str) : PyData.depthAll (ms.map PyData.str) = 0 := by
  induction ms with
  | nil => rfl
  | cons m r ih => simp [PyData.depth, PyData.depthAll, ih]
theorem depth_refs (qs : List (Str × Nat)) : PyData.depthAll (qs.map refD) ≤ 8 := by
  induction qs with
  | nil => simp [PyData.depthAll]
  | cons m r ih =>
    have := ref_depth m
    simp only [List.map_cons, PyData.depthAll]
    omega
theorem depth_body (b : Bdy) : (bodyD b).depth ≤ 8 := by
  cases b <;> simp [bodyD, PyData.depth, PyData.depthAll, depth_strs]
theorem depth_let (l : Ltr) : (letD l).depth ≤ 60 := by
  have h1 := depth_refs l.seen
  have h2 := depth_body l.body
  simp only [letD, PyData.depth, PyData.depthAll]
  omega
section
variable {K : PySem.W.Frag} {H : Hp}
theorem dp_strs (ms : List Str) : DpAll K H (ms.map V.str) (ms.map PyData.str) := by
  induction ms with
  | nil => exact .nil
  | cons m r ih => exact .cons (.str m) ih
theorem dp_seen {t : Addr} {qs : List (Str × Nat)} (h : SeenAt H t qs) : Dp K H (.ref t) (.tuple (qs.map refD)) := by
  obtain ⟨ps, h1, h2⟩ := h
  refine .tup (SqT.of h1) ?_
  clear h1
  induction h2 with
  | nil => exact .nil
  | cons r _ ih => exact .cons (.tup (SqT.of r) (.cons (.str _) (.cons (.int _) .nil))) ih
theorem dp_body {t : Addr} {b : Bdy} (h : BodyAt H t b) : Dp K H (.ref t) (bodyD b) := by
  cases b with
  | found ms =>
    obtain ⟨m, h1, h2⟩ := h
    exact .tup (SqT.of h1) (.cons (.str _) (.cons (.str _) (.cons (.tup (SqT.of h2) (dp_strs ms)) .nil)))
  | seen => exact .tup (SqT.of (show H t = some _ from h)) (.cons (.str _) .nil)
  | _ => exact .tup (SqT.of (show H t = some _ from h)) (.cons (.str _) (.cons (.str _) .nil))
theorem dp_val {p ts tb : Addr} {l : Ltr} (h : H p = some (valT l ts tb)) (h1 : SeenAt H ts l.seen) (h2 : BodyAt H tb l.body) : Dp K H (.ref p) (letD l) :=
  .tup (SqT.of h) (.cons (.str _) (.cons (.int _) (.cons (.int _) (.cons (dp_seen h1) (.cons (dp_body h2) .nil)))))
theorem dp_refs {p : Addr} {qs : List (Str × Nat)} (h : RefsAt H p qs) : Dp K H (.ref p) (.list (qs.map refD)) := by
  obtain ⟨bs, h1, rfl, h3⟩ := h
  refine .lst (SqL.of h1) ?_
  clear h1
  induction bs with
  | nil => exact .nil
  | cons b r ih => exact .cons (h3 b List.mem_cons_self).dp (ih fun c hc => h3 c (List.mem_cons_of_mem _ hc))
end
/-- what a value gives, in a heap -/
def ValAt (H : Hp) (p : Addr) (l : Ltr) : Prop := ∃ ts tb, H p = some (valT l ts tb) ∧ SeenAt H ts l.seen ∧ BodyAt H tb l.body
theorem valAt_new {K : PySem.W.Frag} {H : Hp} {p ts tb : Addr} {l : Ltr} (hp : H p = none) (h1 : SeenAt H ts l.seen) (h2 : BodyAt H tb l.body) : ValAt (upd H p (valT l ts tb)) p l :=
  ⟨ts, tb, upd_same, h1.im (K := K) (.new hp), h2.im (K := K) (.new hp)⟩
theorem ValAt.same {H H' : Hp} {p : Addr} {l : Ltr} (K : PySem.W.Frag) (h : ValAt H p l) (s : Same H H') : ValAt H' p l := by
  obtain ⟨ts, tb, a, b, c⟩ := h
  exact ⟨ts, tb, s _ _ a, b.im (K := K) (.same s), c.im (K := K) (.same s)⟩
theorem ValAt.dp {K : PySem.W.Frag} {H : Hp} {p : Addr} {l : Ltr} (h : ValAt H p l) : Dp K H (.ref p) (letD l) := by
  obtain ⟨ts, tb, a, b, c⟩ := h
  exact dp_val a b c
theorem Hon.foundEq {g : Ltr} {G : List Ltr} (h : Hon g G) {l : Ltr} (hl : l ∈ G) {ms : List Str} (e : l.body = .found ms) : l = g := by
  induction h with
  | base _ _ => exact List.mem_singleton.mp hl
  | snoc hG hS ih =>
    rw [List.mem_append, List.mem_singleton] at hl
    rcases hl with hl | rfl
    · exact ih hl
    · exact absurd e (hS.nof ms)
theorem GoodR.rowAt {f : Ltr} {G o w : List Ltr} (g : GoodR f G o w) {l : Ltr} (hl : l ∈ G) (h : l.num ≤ heldN o l.au) : 0 < l.num ∧ (rowOf o l.au)[l.num - 1]? = some l := by
  obtain ⟨i, h1, h2⟩ := g.hon.at_ hl
  have hi : i < (rowOf o l.au).length := by
    show i < heldN o l.au
    omega
  have h3 := (g.row l.au).getElem hi
  refine ⟨by omega, ?_⟩
  rw [show l.num - 1 = i by omega, List.getElem?_eq_getElem hi, h3]
  rw [List.getElem?_eq_getElem (Nat.lt_of_lt_of_le hi (g.row l.au).length_le)] at h2
  exact h2
theorem Hon.pos {f : Ltr} {G : List Ltr} (h : Hon f G) {l : Ltr} (hl : l ∈ G) : 0 < l.num := by
  obtain ⟨i, h1, h2⟩ := h.at_ hl
  omega
theorem mem_findW {f : Ltr} {G o w : List Ltr} (g : GoodR f G o w) {l : Ltr} (hl : l ∈ G) : findW w l.au l.num = if l ∈ w then some l else none := by
  split
  · rename_i h
    exact findW_at g h
  · rename_i h
    cases e : findW w l.au l.num with
    | none => rfl
    | some a =>
      obtain ⟨a1, a2, a3⟩ := findW_some e
      have := g.inj (g.wG a a1) hl a2 a3
      rw [this] at a1
      exact absurd a1 h
theorem ps_weak {X : Cx} {st : Stmt} {t t' : TS} (h : PS X st t) (i : ∀ D σ H, t' D σ H → t D σ H) : PS X st t' := ⟨fun pins s σ H D I q => h.run pins s σ H D I (i D σ H q)⟩
theorem kind_found {b : Bdy} (h : kindS b = "found") : ∃ ms, b = .found ms := by
  cases b with
  | found ms => exact ⟨ms, rfl⟩
  | say => exact absurd (show ("say" : Str) = "found" from h) (by decide)
  | seen => exact absurd (show ("seen" : Str) = "found" from h) (by decide)
  | add n => exact absurd (show ("add" : Str) = "found" from h) (by decide)
  | cut n => exact absurd (show ("cut" : Str) = "found" from h) (by decide)
  | hand n => exact absurd (show ("hand" : Str) = "found" from h) (by decide)
section
variable {P : Program} {w : World} {K : PySem.W.Frag} {mg : Str → Option Value} {base : Heap} {f : Addr}
def spTake (K : PySem.W.Frag) : Sp := fun vs H Q _ => ∃ (A : LA) (g : Ltr) (G o w : List Ltr) (a : Addr) (l : Ltr), vs = [.ref A.p, .ref a] ∧ LedAt K H A g o w ∧ LetterAt (cL K) H a l ∧ Good g G o w ∧ l ∈ G ∧ g.mems.length ≤ 500 ∧ G.length < 64 ∧
  ∀ (A' : LA) (H' : Hp) (p : Addr), LedAt K H' A' g (takeS g o w l).2.1 (takeS g o w l).2.2 → Step (A.own o) (A'.own (takeS g o w l).2.1) H H' → A'.p = A.p → H p = none → RefsAt H' p ((takeS g o w l).1.map wk) → Q (.ref p) H'
theorem ok_take (S : Src K "take" "Ledger.take" s_Ledger_take f) (T : Txt K mg) (m : Meth K (cG K) "take" f) (mv : Met P w K mg base 1 (cL K) "value" (spValue K) []) (mr : Prp P w K mg base 1 (cL K) "ref" (spRef K)) (mc : Met P w K mg base 1 (cG K) "__contains__" (spHas2 K) [])
    (ml : Met P w K mg base 2 (cG K) "letter" (spLetter K) []) (mvo : Met P w K mg base 3 (cG K) "_is_void" (spVoid K) []) (mha : Met P w K mg base 6 (cG K) "_hold_all" (spHoldAll K) []) : Met P w K mg base 7 (cG K) "take" (spTake K) [] := by
  refine met_of S T.kG m sc_Ledger_take bi_Ledger_take (fun vs H Q E h => ?_) (fun cdv A outer s H vs Q E hr h => ?_)
  · obtain ⟨A, g, G, o, w, a, l, rfl, _⟩ := h
    rfl
  · obtain ⟨A, g, G, o, w, a, l, rfl, L, hl, gd, hlG, hms, hG, k⟩ := h
    obtain ⟨dx, h1⟩ := L.ob
    obtain ⟨dy, ts, tb, a1, a2, a3⟩ := id hl
    obtain ⟨rest, a4⟩ := body_tup a3
    obtain ⟨as, o1, o2⟩ := L.st.ord
    have hu := hu_of hr
    have nd := (fnScope_by sc_Ledger_take).nd
    obtain ⟨orest, hor⟩ := gd.ord.head
    have hb0 : ∃ b0 t, as = b0 :: t ∧ LetterAt (cL K) H b0 g := by
      rw [hor] at o2
      cases o2 with
      | cons q _ => exact ⟨_, _, rfl, q⟩
    obtain ⟨b0, at0, eas, hb0⟩ := hb0
    obtain ⟨db, tsb, tbb, b1, b2, b3⟩ := id hb0
    subst eas
    refine ⟨_, pss_cons (ps_set (i := 2) nd rfl (.inl rfl) (pe_ix ix_list (pe_fld (pv 0) rfl) pe_int (fun _ _ => rfl)))
      (pss_cons (ps_weak (t' := fun D σ H1 => σ = [some (.ref A.p), some (.ref a), some (.ref b0), none] ∧ Same H H1 ∧ ∀ H2 : Hp, Same H H2 → D.nx σ H2) (ps_if (PW.pt (pw_and (pt_cmpR op_eq (pe_ix ix_tup (pe_fld (pv 1) rfl) pe_int (fun _ _ => rfl)) pe_str (nomark _)) (pw_and1 (pt_cmpR (op_neSame hr.units) (pe_mt0 mv hr (by decide) (pv 1)) (pe_mt0 mv hr (by decide) (pv 2)) (nomark _))))) (pss_one ps_never) pss_nil) ?w1)
      (pss_cons (ps_set (i := 3) nd rfl (.inl rfl) (pe_dget1 hu (pe_fld (pv 0) rfl) (pe_prp mr hr (by decide) (pv 1)) ⟨rfl, rfl, rfl, rfl⟩))
      (pss_cons (ps_weak (t' := fun D σ H1 => Same H H1 ∧ ∃ v, σ = [some (.ref A.p), some (.ref a), some (.ref b0), some v] ∧ OptAt K H1 v (if l ∈ w then some l else none) ∧ ∀ (H2 : Hp) (v2 : V), Same H H2 → OptAt K H2 v2 (if l.num ≤ heldN o l.au then some l else if l ∈ w then some l else none) → D.nx [some (.ref A.p), some (.ref a), some (.ref b0), some v2] H2) (ps_if (pt_cmpR (op_inOwn mc hr (by decide)) (pe_prp mr hr (by decide) (pv 1)) (pv 0) (by rfl)) (pss_one (ps_set (i := 3) nd rfl (.inl rfl) (pe_mt ml hr (by decide) (pv 0) (pa_cons (pe_prp mr hr (by decide) (pv 1)) pa_nil)))) pss_nil) ?w2)
      (pss_cons (ps_if (pt_cmpR op_notN (pv 3) pe_non (nomark _))
        (pss_cons (ps_if (pt_cmpR (op_neSame hr.units) (pe_mt0 mv hr (by decide) (pv 3)) (pe_mt0 mv hr (by decide) (pv 1)) (nomark _)) (pss_one ps_never) pss_nil) (pss_one (ps_ret (pe_lst pa_nil)))) pss_nil)
      (pss_cons (ps_if (pt_val (pe_mt mvo hr (by decide) (pv 0) (pa_cons (pv 1) pa_nil))) (pss_one (ps_ret (pe_lst pa_nil))) pss_nil)
      (pss_cons (ps_dput hu (pe_fld (pv 0) rfl) (pe_prp mr hr (by decide) (pv 1)) (pv 1) rfl)
      (pss_one (ps_ret (pe_mt0 mha hr (by decide) (pv 0)))))))))), ?_⟩
    case w1 =>
      rintro D σ H1 ⟨rfl, s1, q⟩
      refine ⟨_, rfl, a, _, dy, _, _, rfl, s1 _ _ a1, T.kL, T.nBo, lf_bo _ _ _, tb, _, _, _, rfl, rfl, SqT.of (s1 _ _ a4), atI0, rfl, _, rfl, ?_⟩
      by_cases hf : kindS l.body = "found"
      · obtain ⟨ms, hms2⟩ := kind_found hf
        have elg := gd.hon.foundEq hlG hms2
        have e : decide (V.str (kindS l.body) = V.str "found") = true := decide_eq_true (by rw [hf])
        rw [e]
        refine iteT ⟨_, rfl, a, dy, _, rfl, s1 _ _ a1, rfl, a, l, rfl, hl.im (K := K) (.same s1), fun ts1 tb1 p1 q1 q2 hp1 => ?_⟩
        have v1 := valAt_new (K := K) hp1 q1 q2
        have s2 := same_new (o := valT l ts1 tb1) hp1
        generalize upd H1 p1 (valT l ts1 tb1) = H2 at v1 s2
        refine ⟨_, rfl, b0, db, _, rfl, s2 _ _ (s1 _ _ b1), rfl, b0, g, rfl, hb0.im (K := K) (.same (s1.trans s2)), fun ts3 tb3 p3 q3 q4 hp3 => ?_⟩
        have v3 := valAt_new (K := K) hp3 q3 q4
        have s3 := same_new (o := valT g ts3 tb3) hp3
        generalize upd H2 p3 (valT g ts3 tb3) = H3 at v3 s3
        rw [← elg] at v3
        refine ⟨letD l, (v1.same K s3).dp, v3.dp, .inl ⟨_, rfl⟩, alike_let l, depth_let l, _, rfl, ?_⟩
        refine iteF ?_
        exact q H3 (s1.trans (s2.trans s3))
      · have e : decide (V.str (kindS l.body) = V.str "found") = false := decide_eq_false fun z => hf (V.str.inj z)
        rw [e]
        refine iteF ?_
        refine iteF ?_
        exact q H1 s1
    case w2 =>
      rintro D σ H1 ⟨s1, v, rfl, hv, q⟩
      refine ⟨_, rfl, a, dy, _, rfl, s1 _ _ a1, a, l, rfl, hl.im (K := K) (.same s1), fun t ht => ?_⟩
      have s2 := same_new (o := .tup [.str l.au, .int l.num]) ht
      have e2 : upd H1 t (.tup [.str l.au, .int l.num]) t = some (.tup [.str l.au, .int l.num]) := upd_same
      generalize upd H1 t (.tup [.str l.au, .int l.num]) = H2 at s2 e2
      have s12 := s1.trans s2
      refine ⟨_, rfl, A.p, dx, _, rfl, s12 _ _ h1, A, g, o, w, t, l.au, l.num, rfl, L.same s12, e2, gd.hon.pos hlG, fun H3 s3 => ⟨_, rfl, _, rfl, ?_⟩⟩
      have s13 := s12.trans s3
      by_cases hn : l.num ≤ heldN o l.au
      · rw [decide_eq_true hn]
        rw [if_pos hn] at q
        obtain ⟨n1, n2⟩ := gd.rowAt hlG hn
        refine iteT ⟨_, rfl, A.p, dx, _, rfl, s13 _ _ h1, rfl, _, rfl, a, dy, _, rfl, s13 _ _ a1, a, l, rfl, hl.im (K := K) (.same s13), fun t4 ht4 => ?_⟩
        have s4 := same_new (o := .tup [.str l.au, .int l.num]) ht4
        have e4 : upd H3 t4 (.tup [.str l.au, .int l.num]) t4 = some (.tup [.str l.au, .int l.num]) := upd_same
        generalize upd H3 t4 (.tup [.str l.au, .int l.num]) = H4 at s4 e4
        refine ⟨A, g, o, w, t4, l.au, l.num, l, rfl, L.same (s13.trans s4), e4, n1, n2, fun c H5 s5 hc => ?_⟩
        exact q H5 (.ref c) ((s13.trans s4).trans s5) ⟨c, rfl, hc⟩
      · rw [decide_eq_false hn]
        rw [if_neg hn] at q
        refine iteF ?_
        exact q H3 v s13 (hv.same (s2.trans s3))
    refine ⟨_, rfl, A.p, _, dx, _, _, rfl, h1, T.kG, T.gOr, gf_or _ _ _ _ _ _, A.S.lo, _, _, _, rfl, rfl, SqL.of o1, atI0, ?_⟩
    refine ⟨rfl, .refl H, fun H2 s2 => ?_⟩
    -- known
    obtain ⟨kvs, w1, w2⟩ := L.st.wait
    refine ⟨_, rfl, A.p, _, dx, _, _, rfl, s2 _ _ h1, T.kG, T.gWa, gf_wa _ _ _ _ _ _, A.S.dw, rfl, .inr ⟨_, .inl (s2 _ _ w1)⟩, _, rfl, a, dy, _, rfl, s2 _ _ a1, a, l, rfl, hl.im (K := K) (.same s2), fun t ht => ?_⟩
    have s3 := same_new (o := .tup [.str l.au, .int l.num]) ht
    have e3 : upd H2 t (.tup [.str l.au, .int l.num]) t = some (.tup [.str l.au, .int l.num]) := upd_same
    generalize upd H2 t (.tup [.str l.au, .int l.num]) = H3 at s3 e3
    have s23 := s2.trans s3
    refine ⟨_, DGet.t (k := tk l) (s23 _ _ w1) e3, s23, _, rfl, ?_, fun H4 v4 s4 hv4 => ?_⟩
    · have hv := val_wait l.au l.num w2
      rw [mem_findW gd.toGoodR hlG] at hv
      split
      · rename_i hin
        rw [if_pos hin] at hv
        obtain ⟨c, c1, c2⟩ := hv
        have c1' : valV kvs (tk l) = some (.ref c) := c1
        rw [c1']
        exact ⟨c, rfl, c2.im (.same s23)⟩
      · rename_i hin
        rw [if_neg hin] at hv
        have c1' : valV kvs (tk l) = none := hv
        rw [c1']
        rfl
    · refine ⟨_, rfl, rfl, _, rfl, ?_⟩
      by_cases hkn : l.num ≤ heldN o l.au ∨ l ∈ w
      · -- it is known
        have ek : (if l.num ≤ heldN o l.au then some l else if l ∈ w then some l else none) = some l := by
          rcases hkn with h | h
          · rw [if_pos h]
          · rw [if_pos h]
            split <;> rfl
        rw [ek] at hv4
        obtain ⟨c, rfl, hc⟩ := hv4
        rw [decide_eq_false (by intro z; cases z), Bool.not_false]
        obtain ⟨dc, _, _, c1, _⟩ := id hc
        refine iteT ⟨_, rfl, c, dc, _, rfl, c1, rfl, c, l, rfl, hc, fun ts1 tb1 p1 q1 q2 hp1 => ?_⟩
        have v1 := valAt_new (K := K) hp1 q1 q2
        have s5 := same_new (o := valT l ts1 tb1) hp1
        generalize upd H4 p1 (valT l ts1 tb1) = H5 at v1 s5
        have s15 := s4.trans s5
        refine ⟨_, rfl, a, dy, _, rfl, s15 _ _ a1, rfl, a, l, rfl, hl.im (K := K) (.same s15), fun ts3 tb3 p3 q3 q4 hp3 => ?_⟩
        have v3 := valAt_new (K := K) hp3 q3 q4
        have s6 := same_new (o := valT l ts3 tb3) hp3
        generalize upd H5 p3 (valT l ts3 tb3) = H6 at v3 s6
        refine ⟨letD l, (v1.same K s6).dp, v3.dp, .inl ⟨_, rfl⟩, alike_let l, depth_let l, _, rfl, ?_⟩
        refine iteF ⟨(by show 0 ≤ sizeLine; decide), fun p hp => ?_⟩
        have s16 := s15.trans s6
        have s7 := same_new (o := .lst []) hp
        have et : takeS g o w l = ([], o, w) := by
          unfold takeS
          rcases hkn with h | h
          · rw [if_pos h]
          · rw [if_pos h]
            split <;> rfl
        rw [et] at k
        exact k A _ p (L.same (s16.trans s7)) (.same (s16.trans s7)) rfl (s16.free hp) ⟨[], upd_same, rfl, fun b hb => by cases hb⟩
      · have hn1 : ¬ l.num ≤ heldN o l.au := fun h => hkn (.inl h)
        have hn2 : l ∉ w := fun h => hkn (.inr h)
        rw [if_neg hn1, if_neg hn2] at hv4
        obtain rfl : v4 = .non := hv4
        rw [decide_eq_true rfl, Bool.not_true]
        refine iteF ?_
        refine ⟨_, rfl, A.p, dx, _, rfl, s4 _ _ h1, rfl, _, rfl, A, g, o, w, a, l, rfl, L.same s4, hl.im (K := K) (.same s4), fun H5 s5 => ⟨_, rfl, ?_⟩⟩
        have s15 := s4.trans s5
        cases hvo : voidR (rollS g o) l with
        | true =>
          refine iteT ⟨(by show 0 ≤ sizeLine; decide), fun p hp => ?_⟩
          have s7 := same_new (o := .lst []) hp
          have et : takeS g o w l = ([], o, w) := by
            unfold takeS
            rw [if_neg hn1, if_neg hn2, if_pos hvo]
          rw [et] at k
          exact k A _ p (L.same (s15.trans s7)) (.same (s15.trans s7)) rfl (s15.free hp) ⟨[], upd_same, rfl, fun b hb => by cases hb⟩
        | false =>
          refine iteF ?_
          have et : takeS g o w l = run g ((w ++ [l]).length + 1) o (w ++ [l]) := by
            unfold takeS
            rw [if_neg hn1, if_neg hn2, if_neg (by rw [hvo]; exact Bool.false_ne_true), List.length_append, List.length_singleton]
          rw [et] at k
          have L5 := L.same s15
          refine ⟨_, rfl, _, rfl, A.p, _, dx, _, _, rfl, s15 _ _ h1, T.kG, T.gWa, gf_wa _ _ _ _ _ _, _, rfl, a, dy, _, rfl, s15 _ _ a1, a, l, rfl, hl.im (K := K) (.same s15), fun t6 ht6 => ?_⟩
          have s6 := same_new (o := .tup [.str l.au, .int l.num]) ht6
          have e6 : upd H5 t6 (.tup [.str l.au, .int l.num]) t6 = some (.tup [.str l.au, .int l.num]) := upd_same
          generalize upd H5 t6 (.tup [.str l.au, .int l.num]) = H6 at s6 e6
          have s16 := s15.trans s6
          have hwl := gd.wlen
          refine ⟨A.S.dw, _, rfl, DPut.t (k := tk l) (s16 _ _ w1) e6 (by rw [len_wait w2, sizeLine_eq]; omega), ?_⟩
          have hfn := mem_findW gd.toGoodR hlG
          rw [if_neg hn2] at hfn
          have L6 := (L.same s16).setw (waitK_put (w2.im (.same s16)) (hl.im (K := K) (.same s16)) hfn)
          have st6 : Step (A.own o) (A.own o) H (upd H6 A.S.dw (.dT (putK kvs (tk l) (.ref a)))) := (Step.same s16).trans step_wL
          generalize upd H6 A.S.dw (.dT (putK kvs (tk l) (.ref a))) = H7 at L6 st6
          obtain ⟨dx7, h7⟩ := L6.ob
          refine ⟨_, rfl, A.p, dx7, _, rfl, h7, rfl, A, g, G, o, w ++ [l], rfl, L6, gd.add hlG hn1 hn2, fun x hx => ?_, hms, hG, fun A' H' p L' st' ep hp hrefs => ?_⟩
          · rcases List.mem_append.mp hx with z | z
            · exact gd.wvoid x z
            · rw [List.mem_singleton.mp z]
              exact hvo
          · refine k A' H' p L' (st6.trans st') ep ?_ hrefs
            cases q : H p with
            | none => rfl
            | some u =>
              by_cases n : A.own o p
              · obtain ⟨u', u1, _⟩ := L6.ex T.neG T.neR n
                rw [hp] at u1
                cases u1
              · have := st6.kp _ _ q n
                rw [hp] at this
                cases this
end
end Lo
set_option Elab.async false
set_option maxRecDepth 100000
set_option maxHeartbeats 4000000
namespace Lo
open PySem PySem.Spec PyProof.Rows L2
open C8 (Cal Met Mak scC fnScope_by pe_c pe_mk pe_mt pe_mt0)
section
variable {P : Program} {w : World} {K : PySem.W.Frag} {mg : Str → Option Value} {base : Heap} {f : Addr}
theorem kpu {H : Hp} {p : Addr} {u : HO} : ∀ b v, H b = some v → b ≠ p → upd H p u b = some v := fun b v e n => by rw [upd_ne n]; exact e
def spGInit (K : PySem.W.Frag) : Sp := fun vs H Q _ => ∃ (p dx a : Addr) (g : Ltr), vs = [.ref p, .ref a] ∧ H p = some (.ins (cG K) dx []) ∧ LetterAt (cL K) H a g ∧ (∃ ms, g.body = .found ms) ∧ g.mems.length ≤ 500 ∧
  ∀ (A : LA) (H' : Hp), A.p = p → LedAt K H' A g [g] [] → (∀ b u, H b = some u → b ≠ p → H' b = some u) → (∀ b, A.own [g] b → b = p ∨ H b = none) → Q .non H'
theorem roll_one {g : Ltr} (h : ∃ ms, g.body = .found ms) : rollS g [g] = R0 g := by
  obtain ⟨ms, e⟩ := h
  show act1 (R0 g) g = R0 g
  refine act1_no ?_
  unfold Ltr.act
  rw [e]
theorem auths_one (g : Ltr) : auths [g] = [g.au] := rfl
theorem ok_ginit (S : Src K "__init__" "Ledger.__init__" s_Ledger_init f) (T : Txt K mg) (M : Mk K (cG K) f) (hm : mg "Ledger" = some (.ref (cG K))) (mk : Mak P w K mg base 1 "Roll" (cR K) (spRInit K) []) : Mak P w K mg base 3 "Ledger" (cG K) (spGInit K) [] := by
  refine mak_of S M hm sc_Ledger_init bi_Ledger_init (fun vs H Q E h => ?_) (fun cdv A outer s H vs Q E hr h => ?_)
  · obtain ⟨p, dx, a, g, rfl, _⟩ := h
    rfl
  · obtain ⟨p, dx, a, g, rfl, hp, hl, hfo, hms, k⟩ := h
    obtain ⟨dy, ts, tb, a1, a2, a3⟩ := id hl
    obtain ⟨rest, a4⟩ := body_tup a3
    have hu := hu_of hr
    have hkd : kindS g.body = "found" := by
      obtain ⟨ms, e⟩ := hfo
      rw [e]
      rfl
    refine ⟨_, pss_cons (ps_if (pt_cmpR op_ne (pe_ix ix_tup (pe_fld (pv 1) rfl) pe_int (fun _ _ => rfl)) pe_str (nomark _)) (pss_one ps_never) pss_nil)
      (pss_cons (ps_fld (pv 0) (pe_fld (pv 1) rfl) rfl)
      (pss_cons (ps_fld (pv 0) (pe_disp (pps_cons (pe_fld (pv 1) rfl) (pe_lst (pa_cons (pv 1) pa_nil)) pps_nil) (by rfl) (by rfl) (fun z => by cases z) (by decide)) rfl)
      (pss_cons (ps_fld (pv 0) (pe_lst (pa_cons (pv 1) pa_nil)) rfl)
      (pss_cons (ps_fld (pv 0) pe_dnewT rfl)
      (pss_cons (ps_fld (pv 0) (pe_mk mk hr (by decide) (by rfl) (pa_cons (pv 1) pa_nil)) rfl)
      (pss_one (ps_fld (pv 0) (pe_fld (pv 1) rfl) rfl))))))), ?_⟩
    have hpa : a ≠ p := by
      intro e
      rw [e, hp] at a1
      have := HO.ins.inj (Option.some.inj a1)
      exact T.neG this.1
    have ntb : tb ≠ p := ne_of a4 hp (by intro q; cases q)
    refine ⟨_, rfl, a, _, dy, _, _, rfl, a1, T.kL, T.nBo, lf_bo _ _ _, tb, _, _, _, rfl, rfl, SqT.of a4, atI0, rfl, _, rfl, ?_⟩
    have e0 : (!decide (V.str (kindS g.body) = V.str "found")) = false := by rw [decide_eq_true (by rw [hkd])]; rfl
    rw [e0]
    refine iteF ?_
    -- founder
    refine ⟨_, rfl, a, _, dy, _, _, rfl, a1, T.kL, T.nAu, lf_au _ _ _, _, rfl, p, _, dx, [], rfl, hp, T.kG, T.gFo, (by show 0 < 1000; decide), ?_⟩
    have k1 : ∀ b v, H b = some v → b ≠ p → upd H p (.ins (cG K) dx (putF "founder" (.str g.au) [])) b = some v := kpu
    have p1 : upd H p (.ins (cG K) dx (putF "founder" (.str g.au) [])) p = some (.ins (cG K) dx (putF "founder" (.str g.au) [])) := upd_same
    have f1 : ∀ b, upd H p (.ins (cG K) dx (putF "founder" (.str g.au) [])) b = none → H b = none := fun b e => by
      by_cases n : b = p
      · rw [n, upd_same] at e; cases e
      · rw [upd_ne n] at e; exact e
    generalize upd H p (.ins (cG K) dx (putF "founder" (.str g.au) [])) = H1 at k1 p1 f1
    -- rows
    intro d hd
    have k2 : Same H1 (upd H1 d (.dK [])) := same_new hd
    have d2 : upd H1 d (.dK []) d = some (.dK []) := upd_same
    have hd0 := f1 _ hd
    generalize upd H1 d (.dK []) = H2 at k2 d2
    refine ⟨_, rfl, a, _, dy, _, _, rfl, k2 _ _ (k1 _ _ a1 hpa), T.kL, T.nAu, lf_au _ _ _, _, rfl, (by show 1 ≤ sizeLine; decide), fun r hr0 => ?_⟩
    have k3 : Same H2 (upd H2 r (.lst [.ref a])) := same_new hr0
    have r3 : upd H2 r (.lst [.ref a]) r = some (.lst [.ref a]) := upd_same
    have hr00 := f1 _ (k2.free hr0)
    generalize upd H2 r (.lst [.ref a]) = H3 at k3 r3
    refine ⟨k3 _ _ d2, [(Sum.inr g.au, .ref r)], rfl, (by show 1 ≤ 15; decide), ?_⟩
    have d4 : upd H3 d (.dK (mergeK [] [((Sum.inr g.au : Key), V.ref r)])) d = some (.dK [(Sum.inr g.au, .ref r)]) := upd_same
    have k4 : ∀ b v, H1 b = some v → upd H3 d (.dK (mergeK [] [((Sum.inr g.au : Key), V.ref r)])) b = some v := fun b v e => by
      rw [upd_ne (ne_of_none e hd)]
      exact k3 _ _ (k2 _ _ e)
    have r4 : upd H3 d (.dK (mergeK [] [((Sum.inr g.au : Key), V.ref r)])) r = some (.lst [.ref a]) := by
      rw [upd_ne (ne_of r3 (k3 _ _ d2) (by intro z; cases z))]
      exact r3
    generalize upd H3 d (.dK (mergeK [] [((Sum.inr g.au : Key), V.ref r)])) = H4 at d4 k4 r4
    have hdp : d ≠ p := (ne_of_none p1 hd).symm
    have hrp : r ≠ p := (ne_of_none (k2 _ _ p1) hr0).symm
    refine ⟨_, rfl, p, _, dx, _, rfl, k4 _ _ p1, T.kG, T.gRo, (by show 1 < 1000; decide), ?_⟩
    have p5 : upd H4 p (.ins (cG K) dx (putF "_rows" (.ref d) (putF "founder" (.str g.au) []))) p = some (.ins (cG K) dx (putF "_rows" (.ref d) (putF "founder" (.str g.au) []))) := upd_same
    have k5 : ∀ b v, H4 b = some v → b ≠ p → upd H4 p (.ins (cG K) dx (putF "_rows" (.ref d) (putF "founder" (.str g.au) []))) b = some v := kpu
    generalize upd H4 p (.ins (cG K) dx (putF "_rows" (.ref d) (putF "founder" (.str g.au) []))) = H5 at p5 k5
    -- everything of H but p stands; d, r are new
    have b5 : ∀ b v, H b = some v → b ≠ p → H5 b = some v := fun b v e n => k5 _ _ (k4 _ _ (k1 _ _ e n)) n
    have d5 := k5 _ _ d4 hdp
    have r5 := k5 _ _ r4 hrp
    -- order
    refine ⟨_, rfl, (by show 1 ≤ sizeLine; decide), fun lo hlo => ?_⟩
    have s6 : Same H5 (upd H5 lo (.lst [.ref a])) := same_new hlo
    have o6 : upd H5 lo (.lst [.ref a]) lo = some (.lst [.ref a]) := upd_same
    generalize upd H5 lo (.lst [.ref a]) = H6 at s6 o6
    have hlp : lo ≠ p := (ne_of_none p5 hlo).symm
    have hlr : r ≠ lo := ne_of_none r5 hlo
    have hlo0 : H lo = none := by
      cases q : H lo with
      | none => rfl
      | some u => rw [b5 _ _ q hlp] at hlo; cases hlo
    refine ⟨_, rfl, p, _, dx, _, rfl, s6 _ _ p5, T.kG, T.gOr, (by show 2 < 1000; decide), ?_⟩
    have p7 : upd H6 p (.ins (cG K) dx (putF "_order" (.ref lo) (putF "_rows" (.ref d) (putF "founder" (.str g.au) [])))) p = some (.ins (cG K) dx (putF "_order" (.ref lo) (putF "_rows" (.ref d) (putF "founder" (.str g.au) [])))) := upd_same
    have k7 : ∀ b v, H6 b = some v → b ≠ p → upd H6 p (.ins (cG K) dx (putF "_order" (.ref lo) (putF "_rows" (.ref d) (putF "founder" (.str g.au) [])))) b = some v := kpu
    generalize upd H6 p (.ins (cG K) dx (putF "_order" (.ref lo) (putF "_rows" (.ref d) (putF "founder" (.str g.au) [])))) = H7 at p7 k7
    -- waiting
    intro dw hdw
    have s8 : Same H7 (upd H7 dw (.dT [])) := same_new hdw
    have w8 : upd H7 dw (.dT []) dw = some (.dT []) := upd_same
    generalize upd H7 dw (.dT []) = H8 at s8 w8
    have hwp : dw ≠ p := (ne_of_none p7 hdw).symm
    refine ⟨_, rfl, p, _, dx, _, rfl, s8 _ _ p7, T.kG, T.gWa, (by show 3 < 1000; decide), ?_⟩
    have p9 : upd H8 p (.ins (cG K) dx (putF "_waiting" (.ref dw) (putF "_order" (.ref lo) (putF "_rows" (.ref d) (putF "founder" (.str g.au) []))))) p = some (.ins (cG K) dx (putF "_waiting" (.ref dw) (putF "_order" (.ref lo) (putF "_rows" (.ref d) (putF "founder" (.str g.au) []))))) := upd_same
    have k9 : ∀ b v, H8 b = some v → b ≠ p → upd H8 p (.ins (cG K) dx (putF "_waiting" (.ref dw) (putF "_order" (.ref lo) (putF "_rows" (.ref d) (putF "founder" (.str g.au) []))))) b = some v := kpu
    generalize upd H8 p (.ins (cG K) dx (putF "_waiting" (.ref dw) (putF "_order" (.ref lo) (putF "_rows" (.ref d) (putF "founder" (.str g.au) []))))) = H9 at p9 k9
    have k59 : ∀ b v, H5 b = some v → b ≠ p → H9 b = some v := fun b v e n => k9 _ _ (s8 _ _ (k7 _ _ (s6 _ _ e) n)) n
    have b9 : ∀ b v, H b = some v → b ≠ p → H9 b = some v := fun b v e n => k59 _ _ (b5 _ _ e n) n
    have hdw0 : H dw = none := by
      cases q : H dw with
      | none => rfl
      | some u => rw [k7 _ _ (s6 _ _ (b5 _ _ q hwp)) hwp] at hdw; cases hdw
    have d9 := k59 _ _ d5 hdp
    have r9 := k59 _ _ r5 hrp
    have o9 := k9 _ _ (s8 _ _ (k7 _ _ o6 hlp)) hlp
    have w9 := k9 _ _ w8 hwp
    have kpI : ∀ b u, H b = some u → isMut K u = false → H9 b = some u := fun b u e q => b9 b u e fun z => by
      rw [z, hp] at e
      cases e
      unfold isMut at q
      simp [T.neG] at q
    have hl9 : LetterAt (cL K) H9 a g := hl.im (K := K) kpI
    -- the roll
    refine ⟨_, rfl, fun rr dxr hrr hdr hne => ?_⟩
    have s0 : Same H9 (upd (upd H9 dxr (.own rr)) rr (.ins (cR K) dxr [])) := fun b o e => by rw [upd_ne (ne_of_none e hrr), upd_ne (ne_of_none e hdr)]; exact e
    have hru : upd (upd H9 dxr (.own rr)) rr (.ins (cR K) dxr []) rr = some (.ins (cR K) dxr []) := upd_same
    generalize upd (upd H9 dxr (.own rr)) rr (.ins (cR K) dxr []) = H10 at s0 hru
    refine ⟨rr, dxr, a, g, rfl, hru, hl9.im (K := K) (.same s0), hfo, by omega, fun dc dl H11 R1 hdc hdl kp => ⟨rfl, ?_⟩⟩
    have s11 : Same H9 H11 := fun b o e => kp b o (s0 b o e) (ne_of_none e hrr)
    have hdc9 := s0.free hdc
    have hdl9 := s0.free hdl
    have ncl : dc ≠ dl := by
      intro e
      obtain ⟨kc, q1, q2⟩ := R1.came
      have q3 := R1.lims
      rw [← e, q1] at q3
      have q4 := HO.dK.inj (Option.some.inj q3)
      rw [q4] at q2
      have : g.au ∈ (R0 g).names := (rollOk0 g).kn
      cases hz : (R0 g).names with
      | nil => rw [hz] at this; cases this
      | cons y z => rw [hz] at q2; cases q2
    have nrp : rr ≠ p := (ne_of_none p9 hrr).symm
    have ncp : dc ≠ p := (ne_of_none p9 hdc9).symm
    have nlp : dl ≠ p := (ne_of_none p9 hdl9).symm
    have fr : ∀ b, H9 b = none → H b = none := fun b e => by
      by_cases n : b = p
      · rw [n, p9] at e; cases e
      · cases q : H b with
        | none => rfl
        | some u => rw [b9 _ _ q n] at e; cases e
    refine ⟨_, rfl, p, _, dx, _, rfl, s11 _ _ p9, T.kG, T.gRl, (by show 4 < 1000; decide), ?_⟩
    have p12 : upd H11 p (.ins (cG K) dx (putF "_roll" (.ref rr) (putF "_waiting" (.ref dw) (putF "_order" (.ref lo) (putF "_rows" (.ref d) (putF "founder" (.str g.au) [])))))) p = some (.ins (cG K) dx (putF "_roll" (.ref rr) (putF "_waiting" (.ref dw) (putF "_order" (.ref lo) (putF "_rows" (.ref d) (putF "founder" (.str g.au) [])))))) := upd_same
    have k12 : ∀ b v, H11 b = some v → b ≠ p → upd H11 p (.ins (cG K) dx (putF "_roll" (.ref rr) (putF "_waiting" (.ref dw) (putF "_order" (.ref lo) (putF "_rows" (.ref d) (putF "founder" (.str g.au) [])))))) b = some v := kpu
    generalize upd H11 p (.ins (cG K) dx (putF "_roll" (.ref rr) (putF "_waiting" (.ref dw) (putF "_order" (.ref lo) (putF "_rows" (.ref d) (putF "founder" (.str g.au) [])))))) = H12 at p12 k12
    have b12 : ∀ b v, H9 b = some v → b ≠ p → H12 b = some v := fun b v e n => k12 _ _ (s11 _ _ e) n
    have a12 := b12 _ _ (b9 _ _ a1 hpa) hpa
    refine ⟨_, rfl, a, _, dy, _, _, rfl, a12, T.kL, T.nSt, lf_st _ _ _, _, rfl, p, _, dx, _, rfl, p12, T.kG, T.gTo, (by show 5 < 1000; decide), ?_⟩
    have k13 : ∀ b v, H12 b = some v → b ≠ p → upd H12 p (.ins (cG K) dx (gf g.au d lo dw rr (topN [g]))) b = some v := kpu
    have p13 : upd H12 p (.ins (cG K) dx (gf g.au d lo dw rr (topN [g]))) p = some (.ins (cG K) dx (gf g.au d lo dw rr (topN [g]))) := upd_same
    have etop : putF "_top" (V.int (g.stamp : Nat)) (putF "_roll" (.ref rr) (putF "_waiting" (.ref dw) (putF "_order" (.ref lo) (putF "_rows" (.ref d) (putF "founder" (.str g.au) []))))) = gf g.au d lo dw rr (topN [g]) := by
      have e : topN [g] = g.stamp := by
        show max 0 g.stamp = g.stamp
        omega
      rw [e]
      rfl
    show Q .non (upd H12 p (.ins (cG K) dx _))
    rw [etop]
    generalize upd H12 p (.ins (cG K) dx (gf g.au d lo dw rr (topN [g]))) = H13 at k13 p13
    have b13 : ∀ b v, H9 b = some v → b ≠ p → H13 b = some v := fun b v e n => k13 _ _ (b12 _ _ e n) n
    have hl13 : LetterAt (cL K) H13 a g := hl.im (K := K) fun b u e q => by
      have nb : b ≠ p := fun z => by
        rw [z, hp] at e
        cases e
        unfold isMut at q
        simp [T.neG] at q
      exact b13 _ _ (b9 _ _ e nb) nb
    have hau : ∀ x, x ∈ auths [g] → x = g.au := fun x hx => List.mem_singleton.mp hx
    have hrow : rowOf [g] g.au = [g] := by
      unfold rowOf
      simp
    refine k ⟨p, rr, dc, dl, ⟨d, lo, dw, fun _ => r⟩⟩ H13 rfl ⟨⟨⟨b13 _ _ d9 hdp, fun x hx => ?_⟩, ⟨[a], b13 _ _ o9 hlp, .cons hl13 .nil⟩, ⟨[], b13 _ _ w9 hwp, .nil⟩, fun x hx y hy _ => by rw [hau x hx, hau y hy], fun x hx => hlr⟩, ⟨dx, p13⟩, ?_, ncl, ?_, ?_, nrp.symm⟩ (fun b u e n => b13 _ _ (b9 _ _ e n) n) ?_
    · rw [hau x hx, hrow]
      exact ⟨[a], b13 _ _ r9 hrp, .cons hl13 .nil⟩
    · rw [roll_one hfo]
      refine R1.kp fun b u e q => ?_
      have nb : b ≠ p := by
        rcases q with rfl | rfl | rfl
        · exact nrp
        · exact ncp
        · exact nlp
      exact k13 _ _ (k12 _ _ e nb) nb
    · exact ne_of_none d9 hdc9
    · exact ne_of_none d9 hdl9
    · rintro b (q | q | q | q | q | q | q | ⟨x, hx, q⟩)
      · exact .inl q
      · exact .inr (by rw [q]; exact fr _ hrr)
      · exact .inr (by rw [q]; exact fr _ hdc9)
      · exact .inr (by rw [q]; exact fr _ hdl9)
      · exact .inr (by rw [q]; exact hd0)
      · exact .inr (by rw [q]; exact hlo0)
      · exact .inr (by rw [q]; exact hdw0)
      · exact .inr (by rw [q]; exact hr00)
end
end Lo
set_option Elab.async false
set_option maxRecDepth 100000
set_option maxHeartbeats 4000000
namespace Lo
open PySem PySem.Spec PySem.W PyProof.Rows L2
section
variable {X : Cx} {o e : Expr} {td ty : TE} {apos cpos : Pos}
/-- d.get(k), d a written dict of the module, k there -/
def tKGet (K : PySem.W.Frag) (w : World) (td ty : TE) : TE := fun σ H Q => td σ H fun x H1 => ∃ p, x = .ref p ∧ (∃ z v, KDct K w p z v) ∧ ty σ H1 fun y H2 => ∃ (z : Str) (v : V), y = .str z ∧ KDct K w p z v ∧ (p == sysModules) = false ∧ Q v H2
theorem pe_kget (ho : PE X o td) (he : PE X e ty) (m : M1 X o "get" apos e cpos) : PE X (.Call (.Attribute o "get" apos) [e] [] cpos) (tKGet X.K X.w td ty) := by
  refine ⟨fun pins s σ H Q I h => ?_⟩
  refine wpAny_Call_method m.base m.few m.line PySem.F.plainAttrs_dict PySem.F.slot_dict_get PySem.F.type_dict_get (thn (ho.run pins s σ H _ I h) fun u s1 ⟨x, H1, I1, rx, p, ex, ⟨z0, v0, kd0⟩, q1⟩ => ?_)
  subst ex
  obtain rfl : u = Value.ref p := rx
  obtain ⟨es0, n0, u0, hl0, hk0, e0, ru0⟩ := kd0
  have hm0 := PySem.W.mapOf_K (prog := X.prog) (w := X.w) I1.kIn hl0 hk0
  refine ⟨hm0.typeIs, fun b eb => ?_, ?_⟩
  · injection eb with eb
    subst eb
    exact ⟨_, I1.kIn p _ hl0, rfl⟩
  rw [m.trees]
  refine Calls.callWith_builtin rfl (Calls.evalArgs_plain (Calls.spliced_cons (thn (he.run pins s1 σ H1 _ I1 q1) fun iv s2 ⟨y, H2, I2, ry, z, v, ey, ⟨es, n, u1, hl, hk, e1, ru⟩, low, q2⟩ => Calls.spliced_nil ?_)))
  subst ey
  obtain ⟨t, rfl⟩ := (show ∃ t, iv = Value.str z t from ry)
  have hm := PySem.W.mapOf_K (prog := X.prog) (w := X.w) I2.kIn hl hk
  refine call_meetsIn PySem.F.slot_dict_get hm.typeIs PySem.F.entry_dict_get (PySem.F.args_dict_get_2 _ _) (meets_dict_get (strKind X.prog X.w) p (strKind_is X.prog X.w z t) low) ⟨_, hm, ?_⟩
  rw [PySem.W.find_K hl e1]
  exact ⟨v, H2, I2.tok _, ru, q2⟩
end
/-! ### a tuple that a call has just made, and its dict -/
def tupO (t : Addr) (vs : List V) : HO := .ext fun h => vs.length ≤ sizeLine ∧ ∃ its : List Value, Vals vs its ∧ ∃ n, h.get? t = some { cls := .type "tuple", data := .seq its.toArray n }
theorem tupO_ok {P : Program} {w : World} {H : Hp} {h : Heap} {t : Addr} {vs : List V} {its : List Value} {n : Nat} (hz : vs.length ≤ sizeLine) (r : Vals vs its) (e : h.get? t = some { cls := .type "tuple", data := .seq its.toArray n }) : ObjOk P w H h t (tupO t vs) :=
  ⟨⟨hz, its, r, n, e⟩, ⟨_, e⟩, fun h1 h2 x k => let ⟨hz, its, r, n, e⟩ := x; ⟨hz, its, r, n, k _ e⟩⟩
section
variable {X : Cx}
def rTupNew (K : PySem.W.Frag) : List V → Hp → VK → Prop := fun xs H Q => ∃ p ys, xs = [.ref p] ∧ SqL K H p ys ∧ ∀ t, H t = none → Q (.ref t) (upd H t (tupO t ys))
theorem call_tuple_new : CallR X (.type "tuple") (rTupNew X.K) := by
  intro pins s σ H xs us Q I r h
  obtain ⟨p, ys, rfl, hq, q⟩ := h
  obtain rfl := Vals.ref1 r
  obtain ⟨its, r', pl, hz⟩ := I.list hq
  have hlen := r'.length
  refine call_tuple_list pl.isList (fun h' kp => ?_) (by simp only [List.size_toArray] <;> omega)
  have I1 : Inv X pins σ H { s with heap := h' } := I.kept (t' := s.toks) kp
  exact ⟨.ref h'.objs.size, _, I1.laid (t' := s.toks) (o := tupO h'.objs.size ys) (fun b o e => Heap.get?_push_of_some _ e) (Nat.le_refl _) (tupO_ok hz r' (Heap.get?_push_size _ rfl)), rfl, q _ (I1.hok.fresh (Nat.le_refl _))⟩
def rDictT (K : PySem.W.Frag) : List V → Hp → VK → Prop := fun xs H Q => ∃ (a : Addr) (ps : List Addr) (kvs : List (Key × V)), xs = [.ref a] ∧ H a = some (tupO a (ps.map V.ref)) ∧ Paired (fun p kv => SqT K H p [kV kv.1, kv.2]) ps kvs ∧
  ∀ p, H p = none → Q (.ref p) (upd H p (.dK (mergeK [] kvs)))
theorem raw_pairs {pins : List (Addr × Obj)} {σ : L2.St} {H : Hp} {s : Shared} (I : Inv X pins σ H s) : ∀ {ps : List Addr} {kvs : List (Key × V)}, Paired (fun p kv => SqT X.K H p [kV kv.1, kv.2]) ps kvs →
    ∃ (prs : List (Key × Value)) (raw : List (Value × Value)), KV kvs prs ∧ prs.length = ps.length ∧ raw.length = ps.length ∧
      ∀ (j : Nat) (k v : Value), raw[j]? = some (k, v) → ∃ (b : Addr) (key : Key), ps[j]? = some b ∧ IsTup s.heap b #[k, v] ∧ prs[j]? = some (key, v) ∧ keyIs key k = true
  | _, _, .nil => ⟨[], [], .nil, rfl, rfl, fun j k v e => by simp at e⟩
  | _, _, .cons (a := p) (b := kv) h t => by
    obtain ⟨prs, raw, r, hl, hl2, hp⟩ := raw_pairs I t
    obtain ⟨its, rv, ht, _⟩ := I.tuple h
    obtain ⟨u, y, ei, ru, ry⟩ := vals2 rv
    subst ei
    refine ⟨(kv.1, y) :: prs, (u, y) :: raw, .cons ⟨rfl, ry⟩ r, by rw [List.length_cons, List.length_cons, hl], by rw [List.length_cons, List.length_cons, hl2], fun j k v e => ?_⟩
    cases j with
    | zero =>
      have e' : (u, y) = (k, v) := Option.some.inj e
      cases e'
      exact ⟨p, kv.1, rfl, ht, rfl, kV_is (P := X.prog) (w := X.w) ru⟩
    | succ j =>
      obtain ⟨b, key, h1, h2, h3, h4⟩ := hp j k v (by simpa using e)
      exact ⟨b, key, by simpa using h1, h2, by simpa using h3, h4⟩
theorem call_dictT (hcalm : X.calm = true) : CallR X (.type "dict") (rDictT X.K) := by
  intro pins s σ H xs us Q I r q
  obtain ⟨a, ps, kvs, rfl, hq, hp, q⟩ := q
  obtain rfl := Vals.ref1 r
  obtain ⟨⟨hz, its, rv, n, ho⟩, _⟩ := (show ObjOk X.prog X.w H s.heap a (tupO a (ps.map V.ref)) from I.hok a _ hq)
  have ei := refs_at rv
  subst ei
  rw [List.length_map] at hz
  obtain ⟨prs, raw, rel, hl, hl2, hpr⟩ := raw_pairs I hp
  have ok : PlainSeq "tuple" s.heap a (ps.map Value.ref).toArray ∧ PairItems s.heap (ps.map Value.ref).toArray (fun j => ps.getD j 0) raw := by
    refine ⟨⟨_, n, ho, rfl, rfl, rfl⟩, by simp [hl2], fun j k v e => ?_⟩
    obtain ⟨b, key, h1, ⟨o, o1, o2, m, o3⟩, _, _⟩ := hpr j k v e
    have hb : ps.getD j 0 = b := by rw [List.getD_eq_getElem?_getD, h1]; rfl
    show (ps.map Value.ref).toArray[j]? = some (Value.ref (ps.getD j 0)) ∧ PairAt s.heap (ps.getD j 0) k v
    rw [hb]
    exact ⟨by simp [h1], .inl ⟨o, o1, o2, m, o3⟩⟩
  refine PySem.call_dict_pairs (knd := mixKind X.prog X.w) (kvs := prs) (PairArg.tuple a _ (fun j => ps.getD j 0) raw) (I.ok.hd hcalm) ok ⟨by rw [hl, hl2], fun i k v e => ?_⟩ (by rw [hl2]; exact hz) fun h' tk hd' k => ?_
  · obtain ⟨b, key, _, _, h3, h4⟩ := hpr i k v e
    exact ⟨key, h3, h4⟩
  · have hm : (s.heap.objs.size == sysModules) = false := beq_eq_false_iff_ne.mpr (Nat.ne_of_gt I.big)
    have hlen : (mergeK [] kvs).length ≤ sizeLine := by
      refine Nat.le_trans (length_mergeK kvs []) ?_
      rw [List.length_nil, Nat.zero_add, rel.length, hl]
      exact hz
    exact ⟨.ref s.heap.objs.size, upd H s.heap.objs.size (.dK (mergeK [] kvs)), I.laid (t' := tk) (fun b o e => k b o (by simp) e) (Nat.le_refl _) (show ObjOk X.prog X.w _ _ _ (.dK (mergeK [] kvs)) from ⟨hlen, hm, merged [] prs, KV.merge rel .nil, hd'⟩), rfl, q _ (I.hok.fresh (Nat.le_refl _))⟩
end
end Lo
set_option Elab.async false
set_option maxRecDepth 100000
set_option maxHeartbeats 4000000
namespace Lo
open PySem PySem.Spec PyProof.Rows L2
open C8 (Cal Met Mak scC fnScope_by pe_c pe_mk pe_mt pe_mt0)
section
variable {X : Cx}
/-- s.replace(b, c), b nowhere in s -/
def rReplNo : V → List V → Hp → VK → Prop := fun x xs H Q => ∃ a b c : Str, x = .str a ∧ xs = [.str b, .str c] ∧ (Builtin.Str.occurrences a b 0 a.length (a.length + 1)).isEmpty = true ∧ Q (.str a) H
theorem mt_replaceNo : MtR X "str.replace" rReplNo := by
  intro pins s σ H x xs v us Q I rx rxs h
  obtain ⟨a, b, c, rfl, rfl, ho, q⟩ := h
  obtain ⟨t, rfl⟩ := (show ∃ t, v = Value.str a t from rx)
  obtain ⟨u1, u2, rfl, r1, r2⟩ := vals2 rxs
  obtain ⟨t1, rfl⟩ := (show ∃ t, u1 = Value.str b t from r1)
  obtain ⟨t2, rfl⟩ := (show ∃ t, u2 = Value.str c t from r2)
  have hc : ((Builtin.Str.occurrences a b 0 a.length (a.length + 1)).isEmpty || (b.length == 0 && c.length == 0)) = true := by rw [ho]; rfl
  refine call_gives PySem.F.slot_str_replace (typeIs_str _ _ _) PySem.F.entry_str_replace (PySem.F.args_str_replace_3 _ _ _) (gives_str_replace a b c t t1 t2 fun z => by rw [hc] at z; cases z) ?_
  rw [if_pos hc]
  exact ⟨.str a, H, I.tok _, ⟨t, rfl⟩, q⟩
end
def letters : Str := "abcdefghijklmnopqrstuvwxyz"
def digits : Str := "0123456789"
/-- a name by the rules -/
structure NameOk (x : Str) : Prop where
  lo : 1 ≤ x.length
  hi : x.length ≤ 12
  all : ∀ c ∈ x.cps.toList, c ∈ letters.cps.toList ∨ c ∈ digits.cps.toList
  head : ∃ c, x.cps.toList[0]? = some c ∧ c ∈ letters.cps.toList
def GoodB : Bdy → Prop
  | .found _ => False
  | .say => True
  | .seen => True
  | .add n => NameOk n
  | .cut n => NameOk n
  | .hand n => NameOk n
/-- more of the top: constants -/
structure Tx2 (K : PySem.W.Frag) (w : World) (mg : Str → Option Value) : Prop where
  lt : ∃ t, mg "LETTERS" = some (.str letters t)
  dg : ∃ t, mg "DIGITS" = some (.str digits t)
  ln : ∃ t, mg "LONGEST_NAME" = some (.int 12 t)
  lx : ∃ t, mg "LONGEST_TEXT" = some (.int 400 t)
  pa : ∃ p, mg "PARTS" = some (.ref p) ∧ (p == sysModules) = false ∧ KDct K w p "say" (.int 1) ∧ KDct K w p "seen" (.int 0) ∧ KDct K w p "add" (.int 1) ∧ KDct K w p "cut" (.int 1) ∧ KDct K w p "hand" (.int 1)
  ord : mg "ord" = none
section
variable {P : Program} {w : World} {K : PySem.W.Frag} {mg : Str → Option Value} {base : Heap} {f : Addr}
def spIsName : Sp := fun vs H Q _ => ∃ x : Str, vs = [.str x] ∧ NameOk x ∧ Q (.bl true) H
theorem sizeL (x : Str) (h : x.length ≤ 400) : x.length ≤ sizeLine := by
  rw [sizeLine_eq]
  omega
theorem ok_isname (S : Src K "is_name" "is_name" s_is_name f) (T : Txt K mg) (T2 : Tx2 K w mg) (hm : mg "is_name" = some (.ref f)) : Cal P w K mg base 1 "is_name" spIsName [] := by
  refine cal_of S hm sc_is_name bi_is_name (fun vs H Q E h => ?_) (fun cdv A outer s H vs Q E hr h => ?_)
  · obtain ⟨x, rfl, _⟩ := h
    rfl
  · obtain ⟨x, rfl, hn, k⟩ := h
    obtain ⟨tl, el⟩ := T2.lt
    obtain ⟨td, ed⟩ := T2.dg
    obtain ⟨tn, en⟩ := T2.ln
    have nd := (fnScope_by sc_is_name).nd
    refine ⟨_, pss_cons (ps_if (PW.pt (pw_or (pt_not (pt_val (pe_callB call_isi (by rfl) T.isi (by decide +kernel) (pa_cons (pv 0) (pa_cons (pe_bltn (v := .ty "str") (by rfl) T.str (by decide +kernel) rfl) pa_nil)))))
          (pw_or1 (pt_not (pt_chain op_le op_le pe_int (pe_callB call_len_str (by rfl) T.len (by decide +kernel) (pa_cons (pv 0) pa_nil)) (pe_glob (v := .int 12) (by rfl) en ⟨_, rfl⟩)))))) (pss_one (ps_ret pe_bl)) pss_nil)
      (pss_cons (ps_for PassesOwn.never rfl (pi_str (pv 0)) (pg_name (i := 1) nd rfl (.inl rfl))
        (pss_one (ps_if (PW.pt (pw_and (pt_cmpR op_notIn_sign (pv 1) (pe_glob (v := .str letters) (by rfl) el ⟨_, rfl⟩) (by rfl)) (pw_and1 (pt_cmpR op_notIn_sign (pv 1) (pe_glob (v := .str digits) (by rfl) ed ⟨_, rfl⟩) (by rfl))))) (pss_one (ps_ret pe_bl)) pss_nil)))
      (pss_one (ps_ret (pe_cmpR op_in_sign (pe_ix ix_str (pv 0) pe_int (fun _ _ => rfl)) (pe_glob (v := .str letters) (by rfl) el ⟨_, rfl⟩) (by rfl))))), ?_⟩
    have hlo := hn.lo
    have hhi := hn.hi
    refine ⟨_, rfl, .str x, _, .type "str", _, true, rfl, .ty _, .base (.str x), kit_ty (by decide +kernel), _, rfl, ?_⟩
    refine iteF ⟨_, rfl, _, rfl, sizeL x (by omega), _, _, rfl, rfl, _, rfl, ?_⟩
    have e1 : decide ((1 : Int) ≤ (x.length : Nat)) = true := decide_eq_true (by omega)
    rw [e1]
    refine iteT ⟨_, _, rfl, rfl, _, rfl, ?_⟩
    have e2 : decide (((x.length : Nat) : Int) ≤ (12 : Int)) = true := decide_eq_true (by omega)
    rw [e2]
    refine iteF ?_
    refine ⟨_, rfl, x, rfl, for_by x.cps.size (fun i σ H2 => ∃ u : Option V, σ = [some (.str x), u] ∧ H2 = H) ⟨none, rfl, rfl⟩ ?_ ?_ ?_⟩
    · rintro i σ H2 hi _
      exact hi
    · rintro i σ H2 hi ⟨u, rfl, rfl⟩ v H' ⟨rfl, c, hc, rfl⟩
      have hmem : c ∈ x.cps.toList := by
        have : x.cps.toList[i]? = some c := by rw [Array.getElem?_toList]; exact hc
        exact List.mem_of_getElem? this
      refine ⟨_, rfl, c, letters, rfl, rfl, _, rfl, ?_⟩
      by_cases h1 : c ∈ letters.cps.toList
      · rw [decide_eq_true h1, Bool.not_true]
        refine iteF ?_
        refine iteF ?_
        exact ⟨_, rfl, rfl⟩
      · have h2 : c ∈ digits.cps.toList := by
          rcases hn.all c hmem with q | q
          · exact absurd q h1
          · exact q
        rw [decide_eq_false h1, Bool.not_false]
        refine iteT ⟨_, rfl, c, digits, rfl, rfl, _, rfl, ?_⟩
        rw [decide_eq_true h2, Bool.not_true]
        refine iteF ?_
        exact ⟨_, rfl, rfl⟩
    · rintro σ H2 ⟨u, rfl, rfl⟩
      obtain ⟨c, hc, hl⟩ := hn.head
      refine ⟨Nat.le_refl _, _, rfl, x, _, c, rfl, rfl, sizeL x (by omega), atI_nat (j := 0) hc, c, letters, rfl, rfl, ?_⟩
      rw [decide_eq_true hl]
      exact k
def spPlain : Sp := fun vs H Q _ => vs = [.str "x"] ∧ Q (.bl true) H
theorem ok_isplain (S : Src K "is_plain" "is_plain" s_is_plain f) (T2 : Tx2 K w mg) (hm : mg "is_plain" = some (.ref f)) : Cal P w K mg base 1 "is_plain" spPlain [] := by
  refine cal_of S hm sc_is_plain bi_is_plain (fun vs H Q E h => ?_) (fun cdv A outer s H vs Q E hr h => ?_)
  · obtain ⟨rfl, _⟩ := h
    rfl
  · obtain ⟨rfl, k⟩ := h
    have nd := (fnScope_by sc_is_plain).nd
    refine ⟨_, pss_cons (ps_for PassesOwn.never rfl (pi_str (pv 0)) (pg_name (i := 1) nd rfl (.inl rfl))
        (pss_one (ps_if (pt_not (pt_chain op_le op_le pe_int (pe_callB call_ord (by rfl) T2.ord (by decide +kernel) (pa_cons (pv 1) pa_nil)) pe_int)) (pss_one (ps_ret pe_bl)) pss_nil)))
      (pss_one (ps_ret pe_bl)), ?_⟩
    refine ⟨_, rfl, "x", rfl, for_by 1 (fun i σ H2 => ∃ u : Option V, σ = [some (.str "x"), u] ∧ H2 = H) ⟨none, rfl, rfl⟩ ?_ ?_ ?_⟩
    · rintro i σ H2 hi _
      exact hi
    · rintro i σ H2 hi ⟨u, rfl, rfl⟩ v H' ⟨rfl, c, hc, rfl⟩
      obtain rfl : i = 0 := by omega
      have hc' : c = 120 := by
        have : (("x" : Str).cps[0]? : Option Nat) = some 120 := by decide +kernel
        rw [this] at hc
        exact (Option.some.inj hc).symm
      subst hc'
      refine ⟨_, rfl, ⟨#[120]⟩, rfl, rfl, _, _, rfl, rfl, _, rfl, ?_⟩
      have e1 : decide ((32 : Int) ≤ ((⟨#[120]⟩ : Str).cps.getD 0 0 : Nat)) = true := by decide
      rw [e1]
      refine iteT ⟨_, _, rfl, rfl, _, rfl, ?_⟩
      have e2 : decide ((((⟨#[120]⟩ : Str).cps.getD 0 0 : Nat) : Int) ≤ 126) = true := by decide
      rw [e2]
      refine iteF ?_
      exact ⟨_, rfl, rfl⟩
    · rintro σ H2 ⟨u, rfl, rfl⟩
      exact ⟨Nat.le_refl _, k⟩
theorem ok_istext (S : Src K "is_text" "is_text" s_is_text f) (T : Txt K mg) (T2 : Tx2 K w mg) (hm : mg "is_text" = some (.ref f)) (mp : Cal P w K mg base 1 "is_plain" spPlain []) : Cal P w K mg base 2 "is_text" spPlain [] := by
  refine cal_of S hm sc_is_text bi_is_text (fun vs H Q E h => ?_) (fun cdv A outer s H vs Q E hr h => ?_)
  · obtain ⟨rfl, _⟩ := h
    rfl
  · obtain ⟨rfl, k⟩ := h
    obtain ⟨tn, en⟩ := T2.lx
    refine ⟨_, pss_cons (ps_if (PW.pt (pw_or (pt_not (pt_val (pe_callB call_isi (by rfl) T.isi (by decide +kernel) (pa_cons (pv 0) (pa_cons (pe_bltn (v := .ty "str") (by rfl) T.str (by decide +kernel) rfl) pa_nil)))))
          (pw_or1 (pt_not (pt_chain op_le op_le pe_int (pe_callB call_len_str (by rfl) T.len (by decide +kernel) (pa_cons (pv 0) pa_nil)) (pe_glob (v := .int 400) (by rfl) en ⟨_, rfl⟩)))))) (pss_one (ps_ret pe_bl)) pss_nil)
      (pss_one (ps_ret (pe_c mp hr (by decide) (by rfl) (pa_cons (pe_bm PySem.F.plainAttrs_str PySem.F.slot_str_replace PySem.F.type_str_replace mt_replaceNo (pv 0) (pa_cons pe_str (pa_cons pe_str pa_nil))) pa_nil)))), ?_⟩
    refine ⟨_, rfl, .str "x", _, .type "str", _, true, rfl, .ty _, .base (.str "x"), kit_ty (by decide +kernel), _, rfl, ?_⟩
    refine iteF ⟨_, rfl, _, rfl, sizeL "x" (by decide), _, _, rfl, rfl, _, rfl, ?_⟩
    have e1 : decide ((1 : Int) ≤ (("x" : Str).length : Nat)) = true := by decide
    rw [e1]
    refine iteT ⟨_, _, rfl, rfl, _, rfl, ?_⟩
    have e2 : decide (((("x" : Str).length : Nat) : Int) ≤ (400 : Int)) = true := by decide
    rw [e2]
    refine iteF ?_
    exact ⟨_, rfl, rfl, "x", "\n", "", rfl, rfl, by decide +kernel, rfl, k⟩
end
end Lo
set_option Elab.async false
set_option maxRecDepth 100000
set_option maxHeartbeats 4000000
namespace Lo
open PySem PySem.Spec PyProof.Rows L2
open C8 (Cal Met Mak scC fnScope_by pe_c pe_mk pe_mt pe_mt0)
theorem pt_never {X : Cx} {e : Expr} : PT X e (fun _ _ _ => False) := ⟨fun _ _ _ _ _ _ h => h.elim⟩
theorem pe_never {X : Cx} {e : Expr} : PE X e (fun _ _ _ => False) := ⟨fun _ _ _ _ _ _ h => h.elim⟩
def restB : Bdy → List V
  | .found _ => []
  | .say => [.str "x"]
  | .seen => []
  | .add n => [.str n]
  | .cut n => [.str n]
  | .hand n => [.str n]
theorem good_tup {H : Hp} {t : Addr} {b : Bdy} (g : GoodB b) (h : BodyAt H t b) : H t = some (.tup (.str (kindS b) :: restB b)) := by
  cases b with
  | found ms => exact g.elim
  | _ => exact h
theorem good_found {b : Bdy} (g : GoodB b) : decide (V.str (kindS b) = V.str "found") = false := by
  cases b with
  | found ms => exact g.elim
  | _ => rfl
theorem good_title {b : Bdy} (g : GoodB b) : decide (V.str (kindS b) = V.str "title") = false := by
  cases b with
  | found ms => exact g.elim
  | _ => rfl
theorem good_ref {b : Bdy} (g : GoodB b) : inV (.str (kindS b)) [.str "reply", .str "edit", .str "recall", .str "mark"] = false := by
  cases b with
  | found ms => exact g.elim
  | _ => rfl
section
variable {P : Program} {w : World} {K : PySem.W.Frag} {mg : Str → Option Value} {base : Heap} {f : Addr}
theorem parts_at {p : Addr} {b : Bdy} (g : GoodB b) (h : KDct K w p "say" (.int 1) ∧ KDct K w p "seen" (.int 0) ∧ KDct K w p "add" (.int 1) ∧ KDct K w p "cut" (.int 1) ∧ KDct K w p "hand" (.int 1)) : KDct K w p (kindS b) (.int ((restB b).length : Nat)) := by
  obtain ⟨h1, h2, h3, h4, h5⟩ := h
  cases b with
  | found ms => exact g.elim
  | say => exact h1
  | seen => exact h2
  | add n => exact h3
  | cut n => exact h4
  | hand n => exact h5
def spIsBody : Sp := fun vs H Q _ => ∃ (t : Addr) (b : Bdy), vs = [.ref t] ∧ BodyAt H t b ∧ GoodB b ∧ ∀ H' : Hp, Same H H' → Q (.bl true) H'
theorem ok_isbody (S : Src K "is_body" "is_body" s_is_body f) (T : Txt K mg) (T2 : Tx2 K w mg) (hm : mg "is_body" = some (.ref f)) (mt : Cal P w K mg base 2 "is_text" spPlain []) (mn : Cal P w K mg base 1 "is_name" spIsName []) : Cal P w K mg base 3 "is_body" spIsBody [] := by
  refine cal_of S hm sc_is_body bi_is_body (fun vs H Q E h => ?_) (fun cdv A outer s H vs Q E hr h => ?_)
  · obtain ⟨t, b, rfl, _⟩ := h
    rfl
  · obtain ⟨t, b, rfl, hb, gb, k⟩ := h
    have ht := good_tup gb hb
    obtain ⟨p, ep, low, hp⟩ := T2.pa
    have kd := parts_at gb hp
    have nd := (fnScope_by sc_is_body).nd
    refine ⟨_, pss_cons (ps_if (PW.pt (pw_or (pt_not (pt_val (pe_callB call_isi (by rfl) T.isi (by decide +kernel) (pa_cons (pv 0) (pa_cons (pe_bltn (v := .ty "tuple") (by rfl) T.tuple (by decide +kernel) rfl) pa_nil)))))
          (pw_or (pt_cmpR op_eq (pe_callB call_len_seq (by rfl) T.len (by decide +kernel) (pa_cons (pv 0) pa_nil)) pe_int (nomark _))
          (pw_or1 (pt_not (pt_val (pe_callB call_isi (by rfl) T.isi (by decide +kernel) (pa_cons (pe_ix ix_tup (pv 0) pe_int (fun _ _ => rfl)) (pa_cons (pe_bltn (v := .ty "str") (by rfl) T.str (by decide +kernel) rfl) pa_nil))))))))) (pss_one (ps_ret pe_bl)) pss_nil)
      (pss_cons (ps_set (i := 1) nd rfl (.inl rfl) (pe_ix ix_tup (pv 0) pe_int (fun _ _ => rfl)))
      (pss_cons (ps_if (pt_cmpR op_ne (pe_kget (pe_glob (v := .ref p) (by rfl) ep rfl) (pv 1) ⟨rfl, rfl, rfl, rfl⟩) (pe_op op_sub (pe_callB call_len_seq (by rfl) T.len (by decide +kernel) (pa_cons (pv 0) pa_nil)) pe_int) (nomark _)) (pss_one (ps_ret pe_bl)) pss_nil)
      (pss_cons (ps_if (pt_cmpR op_eq (pv 1) pe_str (nomark _)) (pss_one ps_never) pss_nil)
      (pss_cons (ps_if (PW.pt (pw_and (pt_cmpR op_in_seq (pv 1) (pe_tup (pa_cons pe_str (pa_cons pe_str (pa_cons pe_str (pa_cons pe_str pa_nil))))) (by rfl)) (pw_and1 pt_never))) (pss_one ps_never) pss_nil)
      (pss_cons (ps_if (pt_cmpR op_in_seq (pv 1) (pe_tup (pa_cons pe_str (pa_cons pe_str (pa_cons pe_str pa_nil)))) (by rfl)) (pss_one (ps_ret (pe_c mt hr (by decide) (by rfl) (pa_cons (pe_ix ix_tup (pv 0) (pe_un un_neg pe_int) (fun _ _ => rfl)) pa_nil)))) pss_nil)
      (pss_cons (ps_if (pt_cmpR op_eq (pv 1) pe_str (nomark _)) (pss_one ps_never) pss_nil)
      (pss_cons (ps_if (pt_cmpR op_in_seq (pv 1) (pe_tup (pa_cons pe_str (pa_cons pe_str (pa_cons pe_str (pa_cons pe_str pa_nil))))) (by rfl)) (pss_one (ps_ret (pe_c mn hr (by decide) (by rfl) (pa_cons (pe_ix ix_tup (pv 0) (pe_un un_neg pe_int) (fun _ _ => rfl)) pa_nil)))) pss_nil)
      (pss_one (ps_ret pe_bl))))))))), ?_⟩
    refine ⟨_, rfl, .ref t, _, .type "tuple", _, true, rfl, .ty _, .base (.tup ht), kit_ty (by decide +kernel), _, rfl, ?_⟩
    refine iteF ⟨_, rfl, t, _, rfl, .inr (SqT.of ht), rfl, _, rfl, ?_⟩
    have e1 : decide (V.int ((V.str (kindS b) :: restB b).length : Nat) = V.int 0) = false := decide_eq_false fun z => by
      have := V.int.inj z
      rw [List.length_cons] at this
      omega
    rw [e1]
    refine iteF ⟨_, rfl, t, _, _, _, rfl, rfl, SqT.of ht, atI0, .str (kindS b), _, .type "str", _, true, rfl, .ty _, .base (.str _), kit_ty (by decide +kernel), _, rfl, ?_⟩
    refine iteF ?_
    refine ⟨_, rfl, t, _, _, _, rfl, rfl, SqT.of ht, atI0, ?_⟩
    refine ⟨p, rfl, ⟨_, _, kd⟩, _, rfl, kindS b, _, rfl, kd, low, _, rfl, t, _, rfl, .inr (SqT.of ht), _, _, rfl, rfl, rfl, _, rfl, ?_⟩
    have e2 : (!decide (V.int ((restB b).length : Nat) = V.int (((V.str (kindS b) :: restB b).length : Nat) - 1))) = false := by
      rw [decide_eq_true (by rw [List.length_cons]; congr 1; omega)]
      rfl
    rw [e2]
    refine iteF ?_
    refine ⟨_, rfl, rfl, _, rfl, ?_⟩
    rw [good_found gb]
    refine iteF ?_
    refine ⟨_, rfl, (by show 4 ≤ sizeLine; decide), fun q1 hq1 => ⟨q1, _, rfl, .inr (SqT.of upd_same), rfl, rfl, _, rfl, ?_⟩⟩
    have s1 : Same H (upd H q1 (.tup [.str "reply", .str "edit", .str "recall", .str "mark"])) := same_new hq1
    generalize upd H q1 (.tup [.str "reply", .str "edit", .str "recall", .str "mark"]) = H1 at s1
    rw [good_ref gb]
    refine iteF ?_
    refine iteF ?_
    refine ⟨_, rfl, (by show 3 ≤ sizeLine; decide), fun q2 hq2 => ⟨q2, _, rfl, .inr (SqT.of upd_same), rfl, rfl, _, rfl, ?_⟩⟩
    have s2 : Same H1 (upd H1 q2 (.tup [.str "say", .str "reply", .str "edit"])) := same_new hq2
    generalize upd H1 q2 (.tup [.str "say", .str "reply", .str "edit"]) = H2 at s2
    have s12 := s1.trans s2
    cases b with
    | found ms => exact gb.elim
    | say =>
      rw [show inV (.str (kindS Bdy.say)) [.str "say", .str "reply", .str "edit"] = true from rfl]
      refine iteT ?_
      exact ⟨_, rfl, _, rfl, t, _, _, _, rfl, rfl, SqT.of (s12 _ _ ht), rfl, rfl, k _ s12⟩
    | seen =>
      refine iteF ?_
      refine ⟨_, rfl, rfl, _, rfl, ?_⟩
      refine iteF ?_
      refine ⟨_, rfl, (by show 4 ≤ sizeLine; decide), fun q3 hq3 => ⟨q3, _, rfl, .inr (SqT.of upd_same), rfl, rfl, _, rfl, ?_⟩⟩
      refine iteF ?_
      exact k _ (s12.trans (same_new hq3))
    | add n =>
      refine iteF ?_
      refine ⟨_, rfl, rfl, _, rfl, ?_⟩
      refine iteF ?_
      refine ⟨_, rfl, (by show 4 ≤ sizeLine; decide), fun q3 hq3 => ⟨q3, _, rfl, .inr (SqT.of upd_same), rfl, rfl, _, rfl, ?_⟩⟩
      refine iteT ?_
      have s3 := s12.trans (same_new (o := .tup [.str "mark", .str "add", .str "cut", .str "hand"]) hq3)
      exact ⟨_, rfl, _, rfl, t, _, _, _, rfl, rfl, SqT.of (s3 _ _ ht), rfl, n, rfl, gb, k _ s3⟩
    | cut n =>
      refine iteF ?_
      refine ⟨_, rfl, rfl, _, rfl, ?_⟩
      refine iteF ?_
      refine ⟨_, rfl, (by show 4 ≤ sizeLine; decide), fun q3 hq3 => ⟨q3, _, rfl, .inr (SqT.of upd_same), rfl, rfl, _, rfl, ?_⟩⟩
      refine iteT ?_
      have s3 := s12.trans (same_new (o := .tup [.str "mark", .str "add", .str "cut", .str "hand"]) hq3)
      exact ⟨_, rfl, _, rfl, t, _, _, _, rfl, rfl, SqT.of (s3 _ _ ht), rfl, n, rfl, gb, k _ s3⟩
    | hand n =>
      refine iteF ?_
      refine ⟨_, rfl, rfl, _, rfl, ?_⟩
      refine iteF ?_
      refine ⟨_, rfl, (by show 4 ≤ sizeLine; decide), fun q3 hq3 => ⟨q3, _, rfl, .inr (SqT.of upd_same), rfl, rfl, _, rfl, ?_⟩⟩
      refine iteT ?_
      have s3 := s12.trans (same_new (o := .tup [.str "mark", .str "add", .str "cut", .str "hand"]) hq3)
      exact ⟨_, rfl, _, rfl, t, _, _, _, rfl, rfl, SqT.of (s3 _ _ ht), rfl, n, rfl, gb, k _ s3⟩
def spTarget : Sp := fun vs H Q _ => ∃ (t : Addr) (b : Bdy), vs = [.ref t] ∧ BodyAt H t b ∧ GoodB b ∧ ∀ H' : Hp, Same H H' → Q .non H'
theorem ok_target (S : Src K "target" "target" s_target f) (hm : mg "target" = some (.ref f)) : Cal P w K mg base 1 "target" spTarget [] := by
  refine cal_of S hm sc_target bi_target (fun vs H Q E h => ?_) (fun cdv A outer s H vs Q E hr h => ?_)
  · obtain ⟨t, b, rfl, _⟩ := h
    rfl
  · obtain ⟨t, b, rfl, hb, gb, k⟩ := h
    have ht := good_tup gb hb
    refine ⟨_, pss_cons (ps_if (pt_cmpR op_in_seq (pe_ix ix_tup (pv 0) pe_int (fun _ _ => rfl)) (pe_tup (pa_cons pe_str (pa_cons pe_str (pa_cons pe_str (pa_cons pe_str pa_nil))))) (by rfl)) (pss_one ps_never) pss_nil)
      (pss_one (ps_ret pe_non)), ?_⟩
    refine ⟨_, rfl, t, _, _, _, rfl, rfl, SqT.of ht, atI0, (by show 4 ≤ sizeLine; decide), fun q1 hq1 => ⟨q1, _, rfl, .inr (SqT.of upd_same), rfl, rfl, _, rfl, ?_⟩⟩
    rw [good_ref gb]
    refine iteF ?_
    exact k _ (same_new hq1)
def actOk (R : Roll) (au : Str) : Bdy → Prop
  | .add n => au = R.keeper ∧ n ∉ R.names
  | .cut n => au = R.keeper ∧ n ≠ au ∧ R.mem n = true
  | .hand n => au = R.keeper ∧ n ≠ au ∧ R.mem n = true
  | _ => False
def spCheck (K : PySem.W.Frag) : Sp := fun vs H Q _ => ∃ (A : LA) (g : Ltr) (o w : List Ltr) (t : Addr) (x : Str) (b : Bdy), vs = [.ref A.p, .str x, .ref t] ∧ LedAt K H A g o w ∧ BodyAt H t b ∧ actOk (rollS g o) x b ∧ Q .non H
theorem ok_check (S : Src K "_check_act" "Ledger._check_act" s_Ledger_check_act f) (T : Txt K mg) (m : Meth K (cG K) "_check_act" f) (mk : Met P w K mg base 1 (cR K) "is_known" (spKnown K) []) (mm : Met P w K mg base 1 (cR K) "is_member" (spMember K) []) : Met P w K mg base 2 (cG K) "_check_act" (spCheck K) [] := by
  refine met_of S T.kG m sc_Ledger_check_act bi_Ledger_check_act (fun vs H Q E h => ?_) (fun cdv A outer s H vs Q E hr h => ?_)
  · obtain ⟨A, g, o, w, t, x, b, rfl, _⟩ := h
    rfl
  · obtain ⟨A, g, o, w, t, x, b, rfl, L, hb, ha, k⟩ := h
    obtain ⟨dx, h1⟩ := L.ob
    obtain ⟨dr, r1⟩ := L.rl.ob
    have nd := (fnScope_by sc_Ledger_check_act).nd
    refine ⟨_, pss_cons (ps_asg (pv 2) (pg_tup (by rfl) (pgs_cons (pg_name (i := 3) nd rfl (.inl rfl)) (pgs_cons (pg_name (i := 4) nd rfl (.inl rfl)) pgs_nil))))
      (pss_cons (ps_if (pt_cmpR op_ne (pv 1) (pe_fld (pe_fld (pv 0) rfl) rfl) (nomark _)) (pss_one ps_never) pss_nil)
      (pss_one (ps_if (pt_cmpR op_eq (pv 3) pe_str (nomark _))
        (pss_one (ps_if (pt_val (pe_mt mk hr (by decide) (pe_fld (pv 0) rfl) (pa_cons (pv 4) pa_nil))) (pss_one ps_never) pss_nil))
        (pss_one (ps_if (PW.pt (pw_or (pt_cmpR op_eq (pv 4) (pv 1) (nomark _)) (pw_or1 (pt_not (pt_val (pe_mt mm hr (by decide) (pe_fld (pv 0) rfl) (pa_cons (pv 4) pa_nil))))))) (pss_one ps_never) pss_nil))))), ?_⟩
    have hk : x = (rollS g o).keeper := by
      cases b with
      | add n => exact ha.1
      | cut n => exact ha.1
      | hand n => exact ha.1
      | _ => exact ha.elim
    have hb2 : ∃ n, H t = some (.tup [.str (kindS b), .str n]) ∧ (b = .add n ∨ b = .cut n ∨ b = .hand n) := by
      cases b with
      | add n => exact ⟨n, hb, .inl rfl⟩
      | cut n => exact ⟨n, hb, .inr (.inl rfl)⟩
      | hand n => exact ⟨n, hb, .inr (.inr rfl)⟩
      | _ => exact ha.elim
    obtain ⟨n, ht, hbn⟩ := hb2
    refine ⟨_, rfl, t, _, rfl, SqT.of ht, rfl, _, _, rfl, _, _, rfl, rfl, ?_⟩
    refine ⟨_, rfl, _, rfl, A.p, _, dx, _, _, rfl, h1, T.kG, T.gRl, gf_rl _ _ _ _ _ _, A.r, _, dr, _, _, rfl, r1, T.kR, T.nKe, rf_ke _ _ _ _, rfl, _, rfl, ?_⟩
    have e1 : (!decide (V.str x = V.str (rollS g o).keeper)) = false := by rw [decide_eq_true (by rw [hk])]; rfl
    rw [e1]
    refine iteF ?_
    refine ⟨_, rfl, rfl, _, rfl, ?_⟩
    rcases hbn with rfl | rfl | rfl
    · refine iteT ?_
      refine ⟨_, rfl, A.p, _, dx, _, _, rfl, h1, T.kG, T.gRl, gf_rl _ _ _ _ _ _, A.r, dr, _, rfl, r1, rfl, _, rfl, A.r, A.dc, A.dl, _, n, rollS g o, rfl, L.rl, _, rfl, ?_⟩
      rw [decide_eq_false ha.2]
      exact iteF k
    all_goals
      refine iteF ?_
      refine ⟨_, rfl, _, rfl, rfl, _, rfl, ?_⟩
      have e2 : decide (V.str n = V.str x) = false := decide_eq_false fun z => ha.2.1 (V.str.inj z)
      rw [e2]
      refine iteF ⟨_, rfl, A.p, _, dx, _, _, rfl, h1, T.kG, T.gRl, gf_rl _ _ _ _ _ _, A.r, dr, _, rfl, r1, rfl, _, rfl, A.r, A.dc, A.dl, _, n, rollS g o, rfl, L.rl, _, rfl, ?_⟩
      rw [ha.2.2]
      exact iteF k
end
end Lo
set_option Elab.async false
set_option maxRecDepth 100000
set_option maxHeartbeats 4000000
namespace Lo
open PySem PySem.Spec PyProof.Rows L2
open C8 (Cal Met Mak scC fnScope_by pe_c pe_mk pe_mt pe_mt0)
theorem mergeK_nd : ∀ (ls : List (Str × Nat)) (acc : List (Str × Nat)), ((acc ++ ls).map (·.1)).Nodup → mergeK (limK acc) (limK ls) = limK (acc ++ ls)
  | [], acc, _ => by rw [List.append_nil]; rfl
  | p :: r, acc, h => by
    have hn : valV (limK acc) (Sum.inr p.1 : Key) = none := by
      rw [val_lims]
      have : lk acc p.1 = none := lk_none.mpr fun q => by
        rw [List.map_append, List.map_cons] at h
        exact (nodup_mid h).1 q
      rw [this]
      rfl
    have ih := mergeK_nd r (acc ++ [p]) (by rw [List.append_assoc]; exact h)
    have e : limK (acc ++ [p]) = putK (limK acc) (Sum.inr p.1) (.int (p.2 : Nat)) := by
      rw [putK_new _ hn]
      unfold limK
      rw [List.map_append]
      rfl
    rw [e, List.append_assoc] at ih
    exact ih
theorem lk_map (F : Str → Nat) (zs : List Str) (y : Str) : lk (zs.map fun x => (x, F x)) y = if y ∈ zs then some (F y) else none := by
  induction zs with
  | nil => rfl
  | cons z r ih =>
    rw [List.map_cons, lk_cons, ih]
    by_cases e : z = y
    · subst e
      simp
    · rw [if_neg e]
      by_cases h : y ∈ r
      · rw [if_pos h, if_pos (List.mem_cons_of_mem _ h)]
      · rw [if_neg h, if_neg]
        intro q
        rcases List.mem_cons.mp q with q | q
        · exact e q.symm
        · exact h q
theorem limK_keys (ls : List (Str × Nat)) : (limK ls).map (·.1) = (ls.map (·.1)).map Sum.inr := by
  unfold limK
  rw [List.map_map, List.map_map]
  rfl
theorem auths_nd (o : List Ltr) : (auths o).Nodup := by
  unfold auths
  suffices h : ∀ ns : List Str, ns.Nodup → (o.foldl (fun ns l => addN ns l.au) ns).Nodup by exact h [] List.nodup_nil
  induction o with
  | nil => exact fun _ h => h
  | cons l r ih => exact fun ns h => ih _ (names_nd1 h l.au)
section
variable {P : Program} {w : World} {K : PySem.W.Frag} {mg : Str → Option Value} {base : Heap} {f : Addr}
def spGCounts2 (K : PySem.W.Frag) : Sp := fun vs H Q _ => ∃ (A : LA) (g : Ltr) (o w : List Ltr), vs = [.ref A.p] ∧ LedAt K H A g o w ∧ o.length < 64 ∧
  ∀ (t : Addr) (H' : Hp) (ys : List Str) (ps : List Addr), ys.Perm (auths o) → H' t = some (tupO t (ps.map V.ref)) → Paired (fun (p : Addr) (q : Str × Nat) => H' p = some (.tup [.str q.1, .int q.2])) ps (ys.map fun x => (x, heldN o x)) → Same H H' → H t = none → Q (.ref t) H'
theorem ok_gcounts2 (S : Src K "counts" "Ledger.counts" s_Ledger_counts f) (T : Txt K mg) (m : Meth K (cG K) "counts" f) : Met P w K mg base 1 (cG K) "counts" (spGCounts2 K) [] := by
  refine met_of S T.kG m sc_Ledger_counts bi_Ledger_counts (fun vs H Q E h => ?_) (fun cdv A outer s H vs Q E hr h => ?_)
  · obtain ⟨A, g, o, w, rfl, _⟩ := h
    rfl
  · obtain ⟨A, g, o, w, rfl, L, hol, k⟩ := h
    obtain ⟨dx, h1⟩ := L.ob
    have hu := hu_of hr
    have nd := (fnScope_by sc_Ledger_counts).nd
    refine ⟨_, pss_one (ps_ret (pe_callTy call_tuple_new (by rfl) T.tuple (by decide +kernel) (pa_cons (pe_lc (own := [("name", 1)]) (g := gName 1) (tt := tYes)
      (te := tTup (tCons (tVar 1) (tCons (tLenK K (tCons (tDGet (tFld K (tVar 0) "_rows") (tVar 1)) tNil)) tNil))) (by rfl) nd (pi_list (pe_callB (call_sortedD rfl) (by rfl) T.sorted (by decide +kernel) (pa_cons (pe_fld (pv 0) rfl) pa_nil)))
      (blkOk_by (N := N_Ledger_counts) (sc := L2.defScope s_Ledger_counts) (by decide +kernel)) (fun _ _ _ _ _ => pg_name (i := 1) nd rfl (.inl rfl)) (fun _ _ _ _ _ => pts_nil)
      (fun _ _ _ _ _ => pe_tup (pa_cons (pv 1) (pa_cons (pe_callB call_len_seq (by rfl) T.len (by decide +kernel) (pa_cons (pe_dget hu (pe_fld (pv 0) rfl) (pv 1) (fun _ _ => rfl)) pa_nil)) pa_nil)))) pa_nil))), ?_⟩
    have hal := auths_len o
    refine ⟨_, rfl, A.p, _, dx, _, _, rfl, h1, T.kG, T.gRo, gf_ro _ _ _ _ _ _, A.S.dr, _, auths o, rfl, .inl L.st.rows.tab, by simp [rowK, List.map_map, Function.comp_def], by omega, fun ys l hys hso hl => ?_⟩
    refine ⟨l, rfl, ⟨_, SqL.of upd_same⟩, fun D hD => ?_⟩
    have hDl : D ≠ l := fun z => by rw [z, upd_same] at hD; cases hD
    have hD0 : H D = none := by rw [upd_ne hDl] at hD; exact hD
    have sl : Same H (upd H l (.lst (ys.map V.str))) := same_new hl
    have hl1 : (upd H l (.lst (ys.map V.str))) l = some (.lst (ys.map V.str)) := upd_same
    generalize upd H l (.lst (ys.map V.str)) = H1 at sl hl1 hD
    have hmem : ∀ {i x}, ys[i]? = some x → x ∈ auths o := fun h => hys.mem_iff.mp (List.mem_of_getElem? h)
    refine lc_list (K := K) (a := l) (xs := ys.map V.str) (fun i H2 => Same H1 H2 ∧ ∃ ps : List Addr, H2 D = some (.lst (ps.map V.ref)) ∧ Paired (fun (p : Addr) (q : Str × Nat) => H2 p = some (.tup [.str q.1, .int q.2])) ps ((ys.take i).map fun x => (x, heldN o x)))
      ⟨same_new hD, [], upd_same, .nil⟩ (fun i H2 _ q => SqL.of (q.1 _ _ hl1)) ?_ ?_
    · rintro i y H2 hi ⟨s2, ps, e1, e2⟩
      obtain ⟨x, hx, rfl⟩ := map_get hi
      have hxa := hmem hx
      obtain ⟨as, r1, r2⟩ := L.st.rows.row x hxa
      have e0 := row_get (L.st.rows.same (sl.trans s2)) x
      rw [if_pos hxa] at e0
      refine ⟨rfl, ?_⟩
      refine yes_i ?_
      refine ⟨_, rfl, _, rfl, A.p, _, dx, _, _, rfl, s2 _ _ (sl _ _ h1), T.kG, T.gRo, gf_ro _ _ _ _ _ _, _, rfl, A.S.dr, _, rfl, e0, A.S.la x, _, rfl, .inl (SqL.of (s2 _ _ (sl _ _ r1))), (by show 2 ≤ sizeLine; decide), fun p hp => ?_⟩
      have hpD : p ≠ D := fun z => by rw [z, e1] at hp; cases hp
      have hx2 : ((as.map V.ref).length : Int) = ((heldN o x : Nat) : Int) := by rw [List.length_map, pair_len r2]; rfl
      have hpl : ps.length < sizeLine := by
        have h5 := pair_len e2
        have h6 := hys.length_eq
        rw [List.length_map, List.length_take] at h5
        rw [sizeLine_eq]
        omega
      refine ⟨ps.map V.ref, by rw [upd_ne hpD.symm]; exact e1, by rw [List.length_map]; exact hpl, ?_, ps ++ [p], by rw [List.map_append]; exact upd_same, ?_⟩
      · intro b u e
        rw [upd_ne (fun z => by rw [z, hD] at e; cases e), upd_ne (fun z => by have := s2 _ _ e; rw [z, hp] at this; cases this)]
        exact s2 _ _ e
      · have e3 : (ys.take (i + 1)).map (fun x => (x, heldN o x)) = (ys.take i).map (fun x => (x, heldN o x)) ++ [(x, heldN o x)] := by
          rw [List.take_add_one, hx]
          simp
        rw [e3]
        refine SeenAt.snoc (Paired.mapP e2 fun a b r => ?_) ?_
        · rw [upd_ne (fun z => by rw [z, e1] at r; cases r), upd_ne (fun z => by rw [z, hp] at r; cases r)]
          exact r
        · rw [upd_ne hpD, upd_same, hx2]
    · rintro H2 ⟨s2, ps, e1, e2⟩
      rw [List.length_map, List.take_length] at e2
      refine ⟨D, _, rfl, SqL.of e1, fun t ht => k t _ ys ps hys upd_same (Paired.mapP e2 fun a b r => ?_) (fun b u e => ?_) ?_⟩
      · rw [upd_ne (fun z => by rw [z, ht] at r; cases r)]
        exact r
      · rw [upd_ne (fun z => by have := s2 _ _ (sl _ _ e); rw [z, ht] at this; cases this)]
        exact s2 _ _ (sl _ _ e)
      · cases q : H t with
        | none => rfl
        | some u =>
          have := s2 _ _ (sl _ _ q)
          rw [ht] at this
          cases this

def nxC (o : List Ltr) (x y : Str) : Nat := if y = x then heldN o x + 1 else heldN o y
def spNext (K : PySem.W.Frag) : Sp := fun vs H Q _ => ∃ (A : LA) (g : Ltr) (o w : List Ltr) (x : Str) (t : Addr) (b : Bdy), vs = [.ref A.p, .str x, .ref t] ∧ LedAt K H A g o w ∧ BodyAt H t b ∧ GoodB b ∧ (rollS g o).mem x = true ∧ (∀ l : Ltr, l.body = b → l.act = true → actOk (rollS g o) x b) ∧ o.length < 63 ∧
  ∀ (a : Addr) (H' : Hp) (l : Ltr) (zs : List Str), Same H H' → H a = none → LetterAt (cL K) H' a l → l.au = x → l.num = heldN o x + 1 → l.body = b → (∀ y, y ∈ zs ↔ y ∈ auths o ∨ y = x) → l.seen = zs.map (fun y => (y, nxC o x y)) → l.stamp = topN o + 1 → Q (.ref a) H'
theorem ok_next (S : Src K "next_letter" "Ledger.next_letter" s_Ledger_next_letter f) (T : Txt K mg) (m : Meth K (cG K) "next_letter" f) (mb : Cal P w K mg base 3 "is_body" spIsBody []) (mm : Met P w K mg base 1 (cR K) "is_member" (spMember K) []) (ma : Cal P w K mg base 1 "is_act" (spIsAct K) [])
    (mc : Met P w K mg base 2 (cG K) "_check_act" (spCheck K) []) (mt : Cal P w K mg base 1 "target" spTarget []) (mh : Met P w K mg base 1 (cG K) "held" (spHeld K) []) (mco : Met P w K mg base 1 (cG K) "counts" (spGCounts2 K) []) (mk : Mak P w K mg base 1 "Letter" (cL K) (spLInit K) []) : Met P w K mg base 4 (cG K) "next_letter" (spNext K) [] := by
  refine met_of S T.kG m sc_Ledger_next_letter bi_Ledger_next_letter (fun vs H Q E h => ?_) (fun cdv A outer s H vs Q E hr h => ?_)
  · obtain ⟨A, g, o, w, x, t, b, rfl, _⟩ := h
    rfl
  · obtain ⟨A, g, o, w, x, t, b, rfl, L, hb, gb, hmem, hact, hol, k⟩ := h
    obtain ⟨dx, h1⟩ := L.ob
    obtain ⟨dr, r1⟩ := L.rl.ob
    have ht := good_tup gb hb
    have hu := hu_of hr
    have nd := (fnScope_by sc_Ledger_next_letter).nd
    refine ⟨_, pss_cons (ps_if (PW.pt (pw_or (pt_not (pt_val (pe_c mb hr (by decide) (by rfl) (pa_cons (pv 2) pa_nil)))) (pw_or1 (pt_cmpR op_eq (pe_ix ix_tup (pv 2) pe_int (fun _ _ => rfl)) pe_str (nomark _))))) (pss_one ps_never) pss_nil)
      (pss_cons (ps_if (pt_not (pt_val (pe_mt mm hr (by decide) (pe_fld (pv 0) rfl) (pa_cons (pv 1) pa_nil)))) (pss_one ps_never) pss_nil)
      (pss_cons (ps_weak (t' := fun D σ H1 => σ = [some (.ref A.p), some (.str x), some (.ref t), none, none, none, none, none] ∧ Same H H1 ∧ ∀ H2 : Hp, Same H H2 → D.nx σ H2) (ps_if (pt_val (pe_c ma hr (by decide) (by rfl) (pa_cons (pv 2) pa_nil))) (pss_one (ps_expr (pe_mt mc hr (by decide) (pv 0) (pa_cons (pv 1) (pa_cons (pv 2) pa_nil))))) pss_nil) ?w1)
      (pss_cons (ps_set (i := 3) nd rfl (.inl rfl) (pe_c mt hr (by decide) (by rfl) (pa_cons (pv 2) pa_nil)))
      (pss_cons (ps_if (PW.pt (pw_and (pt_cmpR op_notN (pv 3) pe_non (nomark _)) (pw_and1 pt_never))) (pss_one ps_never) pss_nil)
      (pss_cons (ps_set (i := 4) nd rfl (.inl rfl) (pe_op op_add (pe_mt mh hr (by decide) (pv 0) (pa_cons (pv 1) pa_nil)) pe_int))
      (pss_cons (ps_set (i := 5) nd rfl (.inr rfl) (pe_callTy (call_dictT rfl) (by rfl) T.dict (by decide +kernel) (pa_cons (pe_mt0 mco hr (by decide) (pv 0)) pa_nil)))
      (pss_cons (ps_dput hu (pv 5) (pv 1) (pv 4) rfl)
      (pss_cons (ps_set (i := 6) nd rfl (.inl rfl) (pe_callTy call_tuple_of (by rfl) T.tuple (by decide +kernel) (pa_cons (pe_lc (own := [("name", 7)]) (g := gName 7) (tt := tYes)
          (te := tTup (tCons (tVar 7) (tCons (tDGet (tVar 5) (tVar 7)) tNil))) (by rfl) nd (pi_list (pe_callB (call_sortedD rfl) (by rfl) T.sorted (by decide +kernel) (pa_cons (pv 5) pa_nil)))
          (blkOk_by (N := N_Ledger_next_letter) (sc := L2.defScope s_Ledger_next_letter) (by decide +kernel)) (fun _ _ _ _ _ => pg_name (i := 7) nd rfl (.inl rfl)) (fun _ _ _ _ _ => pts_nil)
          (fun _ _ _ _ _ => pe_tup (pa_cons (pv 7) (pa_cons (pe_dget hu (pv 5) (pv 7) (fun _ _ => rfl)) pa_nil)))) pa_nil)))
      (pss_one (ps_ret (pe_mk mk hr (by decide) (by rfl) (pa_cons (pv 1) (pa_cons (pv 4) (pa_cons (pe_op op_add (pe_fld (pv 0) rfl) pe_int) (pa_cons (pv 6) (pa_cons (pv 2) pa_nil)))))))))))))))), ?_⟩
    case w1 =>
      rintro D σ H1 ⟨rfl, s1, q⟩
      let l0 : Ltr := ⟨x, 0, 0, [], b⟩
      refine ⟨_, rfl, t, l0, rfl, hb.im (K := K) (.same s1), fun H2 s2 => ⟨_, rfl, ?_⟩⟩
      have s12 := s1.trans s2
      cases hc : l0.act with
      | false =>
        refine iteF ?_
        exact q H2 s12
      | true =>
        refine iteT ⟨_, rfl, A.p, dx, _, rfl, s12 _ _ h1, rfl, _, rfl, _, rfl, A, g, o, w, t, x, b, rfl, L.same s12, hb.im (K := K) (.same s12), hact l0 rfl hc, ?_⟩
        exact q H2 s12
    refine ⟨_, rfl, t, b, rfl, hb, gb, fun H1 s1 => ⟨_, rfl, ?_⟩⟩
    refine iteF ⟨_, rfl, t, _, _, _, rfl, rfl, SqT.of (s1 _ _ ht), atI0, rfl, _, rfl, ?_⟩
    rw [good_found gb]
    refine iteF ⟨_, rfl, A.p, _, dx, _, _, rfl, s1 _ _ h1, T.kG, T.gRl, gf_rl _ _ _ _ _ _, A.r, dr, _, rfl, s1 _ _ r1, rfl, _, rfl, A.r, A.dc, A.dl, _, x, rollS g o, rfl, L.rl.same s1, _, rfl, ?_⟩
    rw [hmem]
    refine iteF ?_
    refine ⟨rfl, s1, fun H2 s2 => ?_⟩
    refine ⟨_, rfl, t, b, rfl, hb.im (K := K) (.same s2), gb, fun H3 s3' => ?_⟩
    have s3 := s2.trans s3'
    refine ⟨_, rfl, rfl, _, rfl, ?_⟩
    show if (!decide (V.non = V.non)) = true then _ else _
    rw [decide_eq_true rfl, Bool.not_true]
    refine iteF ?_
    refine iteF ?_
    refine ⟨_, rfl, A.p, dx, _, rfl, s3 _ _ h1, rfl, _, rfl, A, g, o, w, x, rfl, L.same s3, fun H4 s4' => ?_⟩
    have s4 := s3.trans s4'
    refine ⟨_, _, rfl, rfl, ?_⟩
    refine ⟨_, rfl, A.p, dx, _, rfl, s4 _ _ h1, rfl, A, g, o, w, rfl, L.same s4, by omega, fun t5 H5 ys ps hys ht5 hps s5' ht50 => ?_⟩
    have s5 := s4.trans s5'
    refine ⟨t5, ps, limK (ys.map fun y => (y, heldN o y)), rfl, ht5, ?_, fun d hd => ?_⟩
    · unfold limK
      clear ht5 hys
      generalize (ys.map fun y => (y, heldN o y)) = qs at hps
      induction hps with
      | nil => exact .nil
      | cons r _ ih => exact .cons (SqT.of r) ih
    have ysn : ys.Nodup := hys.nodup_iff.mpr (auths_nd o)
    have ekey : (ys.map fun y => (y, heldN o y)).map (·.1) = ys := by rw [List.map_map]; exact List.map_id ys
    have emk : mergeK [] (limK (ys.map fun y => (y, heldN o y))) = limK (ys.map fun y => (y, heldN o y)) := mergeK_nd _ [] (by rw [List.nil_append, ekey]; exact ysn)
    rw [emk]
    have hal := auths_len o
    have hyl := hys.length_eq
    have s6 := s5.trans (same_new (o := .dK (limK (ys.map fun y => (y, heldN o y)))) hd)
    have d6 : upd H5 d (.dK (limK (ys.map fun y => (y, heldN o y)))) d = some (.dK (limK (ys.map fun y => (y, heldN o y)))) := upd_same
    have hd0 := s5.free hd
    generalize upd H5 d (.dK (limK (ys.map fun y => (y, heldN o y)))) = H6 at s6 d6
    refine ⟨_, rfl, _, rfl, _, rfl, d, _, rfl, DPut.k (k := Sum.inr x) d6 (by unfold limK; rw [List.length_map, List.length_map, sizeLine_eq]; omega), ?_⟩
    have d7 : upd H6 d (.dK (putK (limK (ys.map fun y => (y, heldN o y))) (Sum.inr x : Key) (.int (((heldN o x : Nat) : Int) + 1)))) d = some (.dK (putK (limK (ys.map fun y => (y, heldN o y))) (Sum.inr x : Key) (.int (((heldN o x : Nat) : Int) + 1)))) := upd_same
    have s7 : Same H (upd H6 d (.dK (putK (limK (ys.map fun y => (y, heldN o y))) (Sum.inr x : Key) (.int (((heldN o x : Nat) : Int) + 1))))) := fun b u e => by
      rw [upd_ne (ne_of_none e hd0)]
      exact s6 _ _ e
    generalize upd H6 d (.dK (putK (limK (ys.map fun y => (y, heldN o y))) (Sum.inr x : Key) (.int (((heldN o x : Nat) : Int) + 1)))) = H7 at s7 d7
    have hk7 : (putK (limK (ys.map fun y => (y, heldN o y))) (Sum.inr x : Key) (.int (((heldN o x : Nat) : Int) + 1))).map (·.1) = (addN ys x).map Sum.inr := keys_putN (by rw [limK_keys, ekey]) x _
    have hv7 : ∀ y, y ∈ addN ys x → valV (putK (limK (ys.map fun y => (y, heldN o y))) (Sum.inr x : Key) (.int (((heldN o x : Nat) : Int) + 1))) (Sum.inr y : Key) = some (.int (nxC o x y : Nat)) := fun y hy => by
      rw [valV_put]
      unfold nxC
      by_cases e : y = x
      · rw [if_pos (by rw [e]), if_pos e]
        rfl
      · rw [if_neg (fun z => e (Sum.inr.inj z)), val_lims, lk_map, if_neg e]
        rcases mem_addN.mp hy with h | h
        · rw [if_pos h]
          rfl
        · exact absurd h e
    have hlen7 := addN_len ys x
    generalize putK (limK (ys.map fun y => (y, heldN o y))) (Sum.inr x : Key) (.int (((heldN o x : Nat) : Int) + 1)) = kv7 at d7 hk7 hv7
    refine ⟨_, rfl, d, kv7, addN ys x, rfl, .inl d7, hk7, by omega, fun zs l hzs hso hl => ?_⟩
    have hzm : ∀ y, y ∈ zs ↔ y ∈ auths o ∨ y = x := fun y => by rw [hzs.mem_iff, mem_addN, hys.mem_iff]
    have hzl := hzs.length_eq
    refine ⟨l, rfl, ⟨_, SqL.of upd_same⟩, fun D hD => ?_⟩
    have hDl : D ≠ l := fun z => by rw [z, upd_same] at hD; cases hD
    have s8 : Same H7 (upd H7 l (.lst (zs.map V.str))) := same_new hl
    have l8 : upd H7 l (.lst (zs.map V.str)) l = some (.lst (zs.map V.str)) := upd_same
    generalize upd H7 l (.lst (zs.map V.str)) = H8 at s8 l8 hD
    refine lc_list (K := K) (a := l) (xs := zs.map V.str) (fun i H9 => Same H8 H9 ∧ ∃ ps : List Addr, H9 D = some (.lst (ps.map V.ref)) ∧ Paired (fun (p : Addr) (q : Str × Nat) => H9 p = some (.tup [.str q.1, .int q.2])) ps ((zs.take i).map fun y => (y, nxC o x y)))
      ⟨same_new hD, [], upd_same, .nil⟩ (fun i H9 _ q => SqL.of (q.1 _ _ l8)) ?_ ?_
    · rintro i y H9 hi ⟨s9, ps, e1, e2⟩
      obtain ⟨z, hz, rfl⟩ := map_get hi
      have hzin := hzs.mem_iff.mp (List.mem_of_getElem? hz)
      have dg := DGet.k (k := Sum.inr z) (s9 _ _ (s8 _ _ d7))
      rw [hv7 z hzin] at dg
      refine ⟨rfl, ?_⟩
      refine yes_i ?_
      refine ⟨_, rfl, _, rfl, _, rfl, d, _, rfl, dg, (by show 2 ≤ sizeLine; decide), fun p hp => ?_⟩
      have hpD : p ≠ D := fun z => by rw [z, e1] at hp; cases hp
      have hpl : ps.length < sizeLine := by
        have h5 := pair_len e2
        rw [List.length_map, List.length_take] at h5
        rw [sizeLine_eq]
        omega
      refine ⟨ps.map V.ref, by rw [upd_ne hpD.symm]; exact e1, by rw [List.length_map]; exact hpl, ?_, ps ++ [p], by rw [List.map_append]; exact upd_same, ?_⟩
      · intro b u e
        rw [upd_ne (fun z => by rw [z, hD] at e; cases e), upd_ne (fun z => by have := s9 _ _ e; rw [z, hp] at this; cases this)]
        exact s9 _ _ e
      · have e3 : (zs.take (i + 1)).map (fun y => (y, nxC o x y)) = (zs.take i).map (fun y => (y, nxC o x y)) ++ [(z, nxC o x z)] := by
          rw [List.take_add_one, hz]
          simp
        rw [e3]
        refine SeenAt.snoc (Paired.mapP e2 fun a b r => ?_) ?_
        · rw [upd_ne (fun z => by rw [z, e1] at r; cases r), upd_ne (fun z => by rw [z, hp] at r; cases r)]
          exact r
        · rw [upd_ne hpD, upd_same]
    · rintro H9 ⟨s9, ps9, e1, e2⟩
      rw [List.length_map, List.take_length] at e2
      refine ⟨D, _, rfl, .inl ⟨SqL.of e1, fun tt htt => ?_⟩⟩
      have s10 : Same H9 (upd H9 tt (.tup (ps9.map V.ref))) := same_new htt
      have t10 : SeenAt (upd H9 tt (.tup (ps9.map V.ref))) tt (zs.map fun y => (y, nxC o x y)) := ⟨ps9, upd_same, Paired.mapP e2 fun a b r => s10 _ _ r⟩
      generalize upd H9 tt (.tup (ps9.map V.ref)) = H10 at s10 t10
      have sall : Same H H10 := s7.trans (s8.trans (s9.trans s10))
      refine ⟨_, rfl, _, rfl, _, rfl, A.p, _, dx, _, _, rfl, sall _ _ h1, T.kG, T.gTo, gf_to _ _ _ _ _ _, _, _, rfl, rfl, _, rfl, _, rfl, fun a dxa ha hda hne => ?_⟩
      let l0 : Ltr := ⟨x, heldN o x + 1, topN o + 1, zs.map (fun y => (y, nxC o x y)), b⟩
      have s11 : Same H10 (upd (upd H10 dxa (.own a)) a (.ins (cL K) dxa [])) := fun b o e => by rw [upd_ne (ne_of_none e ha), upd_ne (ne_of_none e hda)]; exact e
      have a11 : upd (upd H10 dxa (.own a)) a (.ins (cL K) dxa []) a = some (.ins (cL K) dxa []) := upd_same
      generalize upd (upd H10 dxa (.own a)) a (.ins (cL K) dxa []) = H11 at s11 a11
      refine ⟨a, dxa, tt, t, l0, rfl, a11, fun H12 a12 kp12 => ⟨rfl, ?_⟩⟩
      have s12 : Same H10 H12 := fun b u e => kp12 b u (s11 _ _ e) (ne_of_none e ha)
      exact k a H12 l0 zs (sall.trans s12) (sall.free ha) ⟨dxa, tt, t, a12, t10.im (K := K) (.same s12), hb.im (K := K) (.same (sall.trans s12))⟩ rfl rfl rfl hzm rfl rfl
end
end Lo
set_option Elab.async false
set_option maxRecDepth 100000
set_option maxHeartbeats 4000000
namespace Lo
open PySem PySem.Spec PyProof.Rows L2
open C8 (Cal Met Mak scC fnScope_by pe_c pe_mk pe_mt pe_mt0)
/-! ### the plain model -/
def mdK (au : Str) (S : SA) : List (Key × V) := [(Sum.inr "founder", .str au), (Sum.inr "letters", .ref S.dr), (Sum.inr "order", .ref S.lo), (Sum.inr "waiting", .ref S.dw)]
theorem md_fo (au : Str) (S : SA) : valV (mdK au S) (Sum.inr "founder" : Key) = some (.str au) := rfl
theorem md_le (au : Str) (S : SA) : valV (mdK au S) (Sum.inr "letters" : Key) = some (.ref S.dr) := rfl
theorem md_or (au : Str) (S : SA) : valV (mdK au S) (Sum.inr "order" : Key) = some (.ref S.lo) := rfl
theorem md_wa (au : Str) (S : SA) : valV (mdK au S) (Sum.inr "waiting" : Key) = some (.ref S.dw) := rfl
structure ModAt (K : PySem.W.Frag) (H : Hp) (d : Addr) (S : SA) (g : Ltr) (o w : List Ltr) : Prop where
  tab : H d = some (.dK (mdK g.au S))
  st : StoreAt K H S o w
  nd : d ≠ S.dr
def modOwn (d : Addr) (S : SA) (o : List Ltr) (b : Addr) : Prop := b = d ∨ S.own o b
section
variable {K : PySem.W.Frag} {H H' : Hp} {d : Addr} {S : SA} {g : Ltr} {o w : List Ltr}
theorem ModAt.fo (M : ModAt K H d S g o w) : DGet H d (.str "founder") (some (.str g.au)) := DGet.k (k := Sum.inr "founder") M.tab
theorem ModAt.le (M : ModAt K H d S g o w) : DGet H d (.str "letters") (some (.ref S.dr)) := DGet.k (k := Sum.inr "letters") M.tab
theorem ModAt.or (M : ModAt K H d S g o w) : DGet H d (.str "order") (some (.ref S.lo)) := DGet.k (k := Sum.inr "order") M.tab
theorem ModAt.wa (M : ModAt K H d S g o w) : DGet H d (.str "waiting") (some (.ref S.dw)) := DGet.k (k := Sum.inr "waiting") M.tab
theorem ModAt.kp (M : ModAt K H d S g o w) (i : Im K H H') (e : ∀ b u, modOwn d S o b → H b = some u → H' b = some u) : ModAt K H' d S g o w := ⟨e _ _ (.inl rfl) M.tab, M.st.kp i fun b u q => e b u (.inr q), M.nd⟩
theorem ModAt.same (M : ModAt K H d S g o w) (s : Same H H') : ModAt K H' d S g o w := M.kp (.same s) fun b u _ q => s b u q
theorem ModAt.ex (M : ModAt K H d S g o w) {b : Addr} (q : modOwn d S o b) : ∃ u, H b = some u ∧ isMut K u = true := by
  rcases q with rfl | q
  · exact ⟨_, M.tab, rfl⟩
  · exact M.st.ex q
theorem ModAt.nlo (M : ModAt K H d S g o w) : d ≠ S.lo := by
  obtain ⟨as, h1, _⟩ := M.st.ord
  exact ne_of M.tab h1 (by intro z; cases z)
theorem ModAt.nla (M : ModAt K H d S g o w) : ∀ x ∈ auths o, d ≠ S.la x := fun x hx => by
  obtain ⟨as, h1, _⟩ := M.st.rows.row x hx
  exact ne_of M.tab h1 (by intro z; cases z)
end
section
variable {P : Program} {w : World} {K : PySem.W.Frag} {mg : Str → Option Value} {base : Heap} {f : Addr}
/-! ### _law_model, _law_counts -/
def spModel (K : PySem.W.Frag) : Sp := fun vs H Q _ => ∃ (a : Addr) (g : Ltr), vs = [.ref a] ∧ LetterAt (cL K) H a g ∧ ∀ (d : Addr) (S : SA) (H' : Hp), ModAt K H' d S g [g] [] → Same H H' → (∀ b, modOwn d S [g] b → H b = none) → Q (.ref d) H'
theorem ok_model (S : Src K "_law_model" "_law_model" s_law_model f) (T : Txt K mg) (hm : mg "_law_model" = some (.ref f)) : Cal P w K mg base 1 "_law_model" (spModel K) [] := by
  refine cal_of S hm sc_law_model bi_law_model (fun vs H Q E h => ?_) (fun cdv A outer s H vs Q E hr h => ?_)
  · obtain ⟨a, g, rfl, _⟩ := h
    rfl
  · obtain ⟨a, g, rfl, hl, k⟩ := h
    obtain ⟨dy, ts, tb, a1, a2, a3⟩ := id hl
    have nd := (fnScope_by sc_law_model).nd
    refine ⟨_, pss_cons (ps_set (i := 1) nd rfl (.inl rfl) (pe_fld (pv 0) rfl))
      (pss_one (ps_ret (pe_disp (pps_cons pe_str (pv 1) (pps_cons pe_str (pe_disp (pps_cons (pv 1) (pe_lst (pa_cons (pv 0) pa_nil)) pps_nil) (by rfl) (by rfl) (fun z => by cases z) (by decide))
        (pps_cons pe_str (pe_lst (pa_cons (pv 0) pa_nil)) (pps_cons pe_str pe_dnewT pps_nil)))) (by rfl) (by rfl) (fun z => by cases z) (by decide)))), ?_⟩
    refine ⟨_, rfl, a, _, dy, _, _, rfl, a1, T.kL, T.nAu, lf_au _ _ _, ?_⟩
    intro d hd
    have s1 : Same H (upd H d (.dK [])) := same_new hd
    have d1 : upd H d (.dK []) d = some (.dK []) := upd_same
    generalize upd H d (.dK []) = H1 at s1 d1
    refine ⟨_, rfl, ?_⟩
    intro dr hdr
    have s2 : Same H1 (upd H1 dr (.dK [])) := same_new hdr
    have d2 : upd H1 dr (.dK []) dr = some (.dK []) := upd_same
    generalize upd H1 dr (.dK []) = H2 at s2 d2
    refine ⟨_, rfl, _, rfl, (by show 1 ≤ sizeLine; decide), fun r hr0 => ?_⟩
    have s3 : Same H2 (upd H2 r (.lst [.ref a])) := same_new hr0
    have r3 : upd H2 r (.lst [.ref a]) r = some (.lst [.ref a]) := upd_same
    generalize upd H2 r (.lst [.ref a]) = H3 at s3 r3
    refine ⟨s3 _ _ d2, [(Sum.inr g.au, .ref r)], rfl, (by show 1 ≤ 15; decide), ?_⟩
    have d4 : upd H3 dr (.dK (mergeK [] [((Sum.inr g.au : Key), V.ref r)])) dr = some (.dK [(Sum.inr g.au, .ref r)]) := upd_same
    have k4 : ∀ b v, H1 b = some v → upd H3 dr (.dK (mergeK [] [((Sum.inr g.au : Key), V.ref r)])) b = some v := fun b v e => by
      rw [upd_ne (ne_of_none e hdr)]
      exact s3 _ _ (s2 _ _ e)
    have r4 : upd H3 dr (.dK (mergeK [] [((Sum.inr g.au : Key), V.ref r)])) r = some (.lst [.ref a]) := by
      rw [upd_ne (ne_of r3 (s3 _ _ d2) (by intro z; cases z))]
      exact r3
    generalize upd H3 dr (.dK (mergeK [] [((Sum.inr g.au : Key), V.ref r)])) = H4 at d4 k4 r4
    refine ⟨_, rfl, (by show 1 ≤ sizeLine; decide), fun lo hlo => ?_⟩
    have s5 : Same H4 (upd H4 lo (.lst [.ref a])) := same_new hlo
    have o5 : upd H4 lo (.lst [.ref a]) lo = some (.lst [.ref a]) := upd_same
    generalize upd H4 lo (.lst [.ref a]) = H5 at s5 o5
    intro dw hdw
    have s6 : Same H5 (upd H5 dw (.dT [])) := same_new hdw
    have w6 : upd H5 dw (.dT []) dw = some (.dT []) := upd_same
    generalize upd H5 dw (.dT []) = H6 at s6 w6
    have k16 : ∀ b v, H1 b = some v → H6 b = some v := fun b v e => s6 _ _ (s5 _ _ (k4 _ _ e))
    have d6 := k16 _ _ d1
    refine ⟨d6, mdK g.au ⟨dr, lo, dw, fun _ => r⟩, rfl, (by show 4 ≤ 15; decide), ?_⟩
    have hdr0 := s1.free hdr
    have hr00 := s1.free (s2.free hr0)
    have fr4 : ∀ b, H4 b = none → H b = none := fun b e => by
      cases q : H b with
      | none => rfl
      | some u => rw [k4 _ _ (s1 _ _ q)] at e; cases e
    have hlo0 := fr4 _ hlo
    have hdw0 := fr4 _ (s5.free hdw)
    have nd1 : d ≠ dr := ne_of_none d1 hdr
    have kall : ∀ b v, H6 b = some v → b ≠ d → upd H6 d (.dK (mdK g.au ⟨dr, lo, dw, fun _ => r⟩)) b = some v := kpu
    have sall : Same H (upd H6 d (.dK (mdK g.au ⟨dr, lo, dw, fun _ => r⟩))) := fun b u e => kall _ _ (k16 _ _ (s1 _ _ e)) (ne_of_none e hd)
    have t7 : upd H6 d (.dK (mdK g.au ⟨dr, lo, dw, fun _ => r⟩)) d = some (.dK (mdK g.au ⟨dr, lo, dw, fun _ => r⟩)) := upd_same
    have hl7 := hl.im (K := K) (.same sall)
    have hau : ∀ x, x ∈ auths [g] → x = g.au := fun x hx => List.mem_singleton.mp hx
    have hrow : rowOf [g] g.au = [g] := by
      unfold rowOf
      simp
    have r6 := s6 _ _ (s5 _ _ r4)
    have o6 := s6 _ _ o5
    have nrd : r ≠ d := ne_of r6 d6 (by intro z; cases z)
    have nod : lo ≠ d := ne_of o6 d6 (by intro z; cases z)
    have nwd : dw ≠ d := ne_of w6 d6 (by intro z; cases z)
    refine k d ⟨dr, lo, dw, fun _ => r⟩ _ ⟨t7, ⟨⟨kall _ _ (s6 _ _ (s5 _ _ d4)) nd1.symm, fun x hx => ?_⟩, ⟨[a], kall _ _ o6 nod, .cons hl7 .nil⟩, ⟨[], kall _ _ w6 nwd, .nil⟩, fun x hx y hy _ => by rw [hau x hx, hau y hy], fun x hx => ne_of_none r4 hlo⟩, nd1⟩ sall ?_
    · rw [hau x hx, hrow]
      exact ⟨[a], kall _ _ r6 nrd, .cons hl7 .nil⟩
    · rintro b (q | q | q | q | ⟨x, hx, q⟩)
      · rw [q]; exact hd
      · rw [q]; exact hdr0
      · rw [q]; exact hlo0
      · rw [q]; exact hdw0
      · rw [q]; exact hr00
def cntL (o : List Ltr) : List (Str × Nat) := (auths o).map fun x => (x, heldN o x)
def spMCounts (K : PySem.W.Frag) : Sp := fun vs H Q _ => ∃ (d : Addr) (S : SA) (g : Ltr) (o w : List Ltr), vs = [.ref d] ∧ ModAt K H d S g o w ∧ o.length < 64 ∧ ∀ (c : Addr) (H' : Hp), H c = none → Same H H' → H' c = some (.dK (limK (cntL o))) → Q (.ref c) H'
theorem limK_snoc (ls : List (Str × Nat)) (x : Str) (n : Nat) (h : x ∉ ls.map (·.1)) : putK (limK ls) (Sum.inr x : Key) (.int (n : Nat)) = limK (ls ++ [(x, n)]) := by
  have hn : valV (limK ls) (Sum.inr x : Key) = none := by
    rw [val_lims, lk_none.mpr h]
    rfl
  rw [putK_new _ hn]
  unfold limK
  rw [List.map_append]
  rfl
theorem ok_mcounts (S : Src K "_law_counts" "_law_counts" s_law_counts f) (T : Txt K mg) (hm : mg "_law_counts" = some (.ref f)) : Cal P w K mg base 1 "_law_counts" (spMCounts K) [] := by
  refine cal_of S hm sc_law_counts bi_law_counts (fun vs H Q E h => ?_) (fun cdv A outer s H vs Q E hr h => ?_)
  · obtain ⟨d, S, g, o, w, rfl, _⟩ := h
    rfl
  · obtain ⟨d, S, g, o, w, rfl, M, hol, k⟩ := h
    have hu := hu_of hr
    have nd := (fnScope_by sc_law_counts).nd
    refine ⟨_, pss_cons (ps_set (i := 1) nd rfl (.inl rfl) pe_dnewK)
      (pss_cons (ps_lock (ps_for PassesOwn.never rfl (pi_keys (pe_dget hu (pv 0) pe_str (fun _ _ => rfl))) (pg_name (i := 2) nd rfl (.inl rfl))
        (pss_one (ps_dput hu (pv 1) (pv 2) (pe_callB call_len_seq (by rfl) T.len (by decide +kernel) (pa_cons (pe_dget hu (pe_dget hu (pv 0) pe_str (fun _ _ => rfl)) (pv 2) (fun _ _ => rfl)) pa_nil)) rfl))))
      (pss_one (ps_ret (pv 1)))), ?_⟩
    intro c hc
    have s1 : Same H (upd H c (.dK [])) := same_new hc
    have c1 : upd H c (.dK []) c = some (.dK []) := upd_same
    generalize upd H c (.dK []) = H1 at s1 c1
    have M1 := M.same s1
    have ncd : S.dr ≠ c := ne_of_none M.st.rows.tab hc
    have ncd2 : d ≠ c := ne_of_none M.tab hc
    refine ⟨S.dr, _, M1.st.rows.tab, trivial, fun od => ?_⟩
    have dl : ∀ {H2 : Hp}, H2 d = some (.dK (mdK g.au S)) → DGet H2 d (.str "letters") (some (.ref S.dr)) := fun e => DGet.k (k := Sum.inr "letters") e
    refine ⟨_, rfl, d, _, rfl, dl (by rw [upd_ne M1.nd]; exact M1.tab), S.dr, od, rfl, .inl ⟨_, upd_same, ?_⟩⟩
    have hal := auths_len o
    have hnd := auths_nd o
    refine for_by (auths o).length (fun i σ H2 => ∃ u : Option V, σ = [some (.ref d), some (.ref c), u] ∧ H2 = upd (upd H1 S.dr (.frz od (.dK (rowK S.la (auths o))))) c (.dK (limK (((auths o).take i).map fun x => (x, heldN o x))))) ⟨none, rfl, ?_⟩ ?_ ?_ ?_
    · funext b
      by_cases hb : b = c
      · rw [hb, upd_same, upd_ne ncd.symm, c1]
        rfl
      · rw [upd_ne hb]
    · rintro i σ H2 hi ⟨u, rfl, rfl⟩
      exact ⟨by rw [upd_ne ncd, upd_same], by rw [rowK, List.length_map]; exact hi⟩
    · rintro i σ H2 hi ⟨u, rfl, rfl⟩ x H' ⟨rfl, key, v, hkv, rfl⟩
      obtain ⟨y, hy, ekv⟩ := map_get hkv
      cases ekv
      have hya := List.mem_of_getElem? hy
      obtain ⟨as, r1, r2⟩ := M1.st.rows.row y hya
      have e0 : valV (rowK S.la (auths o)) (Sum.inr y : Key) = some (V.ref (S.la y)) := by rw [val_row, if_pos hya]
      have nrc : S.la y ≠ c := by
        obtain ⟨as', r1', _⟩ := M.st.rows.row y hya
        exact ne_of_none r1' hc
      have nrd : S.la y ≠ S.dr := ne_of r1 M1.st.rows.tab (by intro z; cases z)
      have dg : DGet (upd (upd H1 S.dr (.frz od (.dK (rowK S.la (auths o))))) c (.dK (limK (((auths o).take i).map fun x => (x, heldN o x))))) S.dr (.str y) (some (.ref (S.la y))) :=
        .inl ⟨rowK S.la (auths o), Sum.inr y, .inr ⟨od, by rw [upd_ne ncd, upd_same]⟩, rfl, e0.symm⟩
      refine ⟨_, rfl, d, _, rfl, dl (by rw [upd_ne ncd2, upd_ne M1.nd]; exact M1.tab), _, rfl, S.dr, _, rfl, dg, S.la y, _, rfl, .inl (SqL.of (by rw [upd_ne nrc, upd_ne nrd]; exact r1)), ?_⟩
      have hx : y ∉ ((((auths o).take i).map fun x => (x, heldN o x)).map (·.1)) := by
        rw [List.map_map]
        show y ∉ ((auths o).take i).map id
        rw [List.map_id]
        intro q
        obtain ⟨j, hj⟩ := List.mem_iff_getElem?.mp q
        have hj1 := (List.getElem?_eq_some_iff.mp hj).1
        rw [List.length_take] at hj1
        rw [List.getElem?_take_of_lt (by omega)] at hj
        have h5 := (List.getElem?_eq_some_iff.mp hj).1
        have h6 := (List.getElem?_eq_some_iff.mp hy).1
        have := (List.getElem?_inj h5 hnd).mp (hj.trans hy.symm)
        omega
      refine ⟨_, rfl, _, rfl, c, _, rfl, DPut.k (k := Sum.inr y) upd_same (by unfold limK; rw [List.length_map, List.length_map, List.length_take, sizeLine_eq]; omega), ?_⟩
      refine ⟨_, rfl, ?_⟩
      rw [upd_upd, List.length_map, pair_len r2]
      have := limK_snoc _ y (heldN o y) hx
      have e3 : (auths o).take (i + 1) = (auths o).take i ++ [y] := by rw [List.take_add_one, hy]; rfl
      rw [e3, List.map_append, List.map_singleton, ← this]
      rfl
    · rintro σ H2 ⟨u, rfl, rfl⟩
      rw [List.take_length]
      refine ⟨⟨by rw [upd_ne ncd, upd_same], by rw [rowK, List.length_map]; exact Nat.le_refl _⟩, by rw [upd_ne ncd, upd_same], _, rfl, ?_⟩
      refine k c _ hc (fun b u e => ?_) ?_
      · by_cases hb : b = S.dr
        · rw [hb, upd_same]
          rw [hb, M.st.rows.tab] at e
          exact e
        · rw [upd_ne hb, upd_ne (ne_of_none e hc), upd_ne hb]
          exact s1 _ _ e
      · rw [upd_ne ncd.symm, upd_same]
        rfl
end
end Lo
set_option Elab.async false
set_option maxRecDepth 100000
set_option maxHeartbeats 4000000
namespace Lo
open PySem PySem.Spec PyProof.Rows L2
open C8 (Cal Met Mak scC fnScope_by pe_c pe_mk pe_mt pe_mt0)
theorem cut_all (xs : List V) : cutV xs none (some (xs.length : Nat)) = xs := by
  unfold cutV
  rw [HT.sIx_none, HT.sIx_nat]
  simp
section
variable {P : Program} {w : World} {K : PySem.W.Frag} {mg : Str → Option Value} {base : Heap} {f : Addr}
theorem cnt_get {H : Hp} {c : Addr} {o : List Ltr} (h : H c = some (.dK (limK (cntL o)))) (x : Str) : DGet H c (.str x) (if x ∈ auths o then some (V.int (heldN o x : Nat)) else none) := by
  have := DGet.k (k := Sum.inr x) h
  rw [val_lims] at this
  unfold cntL at this
  rw [lk_map] at this
  by_cases e : x ∈ auths o
  · rw [if_pos e] at this ⊢
    exact this
  · rw [if_neg e] at this ⊢
    exact this
def spMRow (K : PySem.W.Frag) : Sp := fun vs H Q _ => ∃ (d c : Addr) (S : SA) (g : Ltr) (o w : List Ltr) (x : Str), vs = [.ref d, .ref c, .str x] ∧ ModAt K H d S g o w ∧ H c = some (.dK (limK (cntL o))) ∧ ∀ (p : Addr) (as : List Addr) (H' : Hp), H p = none → Same H H' → H' p = some (.lst (as.map V.ref)) → Ls K H' as (rowOf o x) → Q (.ref p) H'
theorem ok_mrow (S : Src K "_law_row" "_law_row" s_law_row f) (hm : mg "_law_row" = some (.ref f)) : Cal P w K mg base 1 "_law_row" (spMRow K) [] := by
  refine cal_of S hm sc_law_row bi_law_row (fun vs H Q E h => ?_) (fun cdv A outer s H vs Q E hr h => ?_)
  · obtain ⟨d, c, S, g, o, w, x, rfl, _⟩ := h
    rfl
  · obtain ⟨d, c, S, g, o, w, x, rfl, M, hc, k⟩ := h
    have hu := hu_of hr
    refine ⟨_, pss_one (ps_ret (pe_slice sl_list (pe_dget2 hu (pe_dget hu (pv 0) pe_str (fun _ _ => rfl)) (pv 2) (pe_lst pa_nil) ⟨rfl, rfl, rfl, rfl⟩) po_none (po_some (pe_dget2 hu (pv 1) (pv 2) pe_int ⟨rfl, rfl, rfl, rfl⟩)))), ?_⟩
    refine ⟨_, rfl, d, _, rfl, M.le, S.dr, rfl, .inl ⟨_, .inl M.st.rows.tab⟩, _, rfl, (by show 0 ≤ sizeLine; decide), fun l hl => ⟨_, row_get (M.st.rows.same (same_new hl)) x, ?_⟩⟩
    have s1 := same_new (o := .lst []) hl
    refine ⟨_, rfl, c, rfl, .inl ⟨_, .inl (s1 _ _ hc)⟩, _, rfl, _, cnt_get (s1 _ _ hc) x, ?_⟩
    by_cases hx : x ∈ auths o
    · obtain ⟨as, r1, r2⟩ := M.st.rows.row x hx
      rw [if_pos hx, if_pos hx]
      refine ⟨_, rfl, S.la x, _, rfl, SqL.of (s1 _ _ r1), fun p hp => ?_⟩
      have e : ((heldN o x : Nat) : Int) = (((as.map V.ref).length : Nat) : Int) := by rw [List.length_map, pair_len r2]; rfl
      rw [e, cut_all]
      exact k p as _ (s1.free hp) (s1.trans (same_new hp)) upd_same (r2.im (.same (s1.trans (same_new hp))))
    · rw [if_neg hx, if_neg hx]
      refine ⟨_, rfl, l, _, rfl, SqL.of upd_same, fun p hp => ?_⟩
      refine k p [] _ (s1.free hp) (s1.trans (same_new hp)) upd_same ?_
      rw [row_nil hx]
      exact .nil
def spAfter (K : PySem.W.Frag) : Sp := fun vs H Q _ => ∃ (a t : Addr) (ls : List Ltr) (b : Ltr), vs = [.ref a, .ref t] ∧ LsAt K H a ls ∧ H t = some (.tup [.str b.au, .int b.num]) ∧ ∀ H' : Hp, Same H H' → Q (.int ((ls.filter fun l => !l.sees b).length : Nat)) H'
theorem ok_after (S : Src K "_law_after" "_law_after" s_law_after f) (hm : mg "_law_after" = some (.ref f)) (mh : Met P w K mg base 2 (cL K) "has_seen" (spSees K) []) : Cal P w K mg base 3 "_law_after" (spAfter K) [] := by
  refine cal_of S hm sc_law_after bi_law_after (fun vs H Q E h => ?_) (fun cdv A outer s H vs Q E hr h => ?_)
  · obtain ⟨a, t, ls, b, rfl, _⟩ := h
    rfl
  · obtain ⟨a, t, ls, b, rfl, ⟨as, h1, h2⟩, ht, k⟩ := h
    have nd := (fnScope_by sc_law_after).nd
    refine ⟨_, pss_cons (ps_set (i := 2) nd rfl (.inl rfl) pe_int)
      (pss_cons (ps_for PassesOwn.never rfl (pi_list (pv 0)) (pg_name (i := 3) nd rfl (.inl rfl))
        (pss_one (ps_if (pt_not (pt_val (pe_mt mh hr (by decide) (pv 3) (pa_cons (pv 1) pa_nil)))) (pss_one (ps_set (i := 2) nd rfl (.inl rfl) (pe_op op_add (pv 2) pe_int))) pss_nil)))
      (pss_one (ps_ret (pv 2)))), ?_⟩
    refine ⟨_, rfl, a, rfl, ⟨_, SqL.of h1⟩, for_list (K := K) (a := a) (xs := as.map V.ref) (fun i σ H2 => ∃ u : Option V, σ = [some (.ref a), some (.ref t), some (.int (((ls.take i).filter fun l => !l.sees b).length : Nat)), u] ∧ H2 = H) ⟨none, rfl, rfl⟩ ?_ ?_ ?_⟩
    · rintro i σ H2 hi ⟨u, rfl, rfl⟩
      exact SqL.of h1
    · rintro i y σ H2 hi ⟨u, rfl, rfl⟩
      obtain ⟨c, hc, rfl⟩ := map_get hi
      obtain ⟨l, hl, hcl⟩ := pair_l h2 hc
      obtain ⟨dy, ts, tb, a1, _⟩ := id hcl
      have hf := take_succ_filter (p := fun l : Ltr => !l.sees b) hl
      refine ⟨_, rfl, c, dy, _, rfl, a1, rfl, _, rfl, c, t, l, b, rfl, hcl, ht, _, rfl, ?_⟩
      cases hs : l.sees b with
      | true =>
        refine iteF ?_
        have e : ((ls.take (i + 1)).filter fun l => !l.sees b).length = ((ls.take i).filter fun l => !l.sees b).length := by
          rw [hf, hs]
          simp
        rw [e]
        exact ⟨_, rfl, rfl⟩
      | false =>
        refine iteT ?_
        have e : ((ls.take (i + 1)).filter fun l => !l.sees b).length = ((ls.take i).filter fun l => !l.sees b).length + 1 := by
          rw [hf, hs]
          simp
        rw [e]
        exact ⟨_, rfl, _, _, rfl, rfl, _, rfl, rfl⟩
    · rintro σ H2 ⟨u, rfl, rfl⟩
      rw [List.length_map, pair_len h2, List.take_length]
      exact ⟨_, rfl, k _ (.refl _)⟩
def MRollAt (H : Hp) (p : Addr) (R : Roll) : Prop := ∃ (ca cu : Addr) (kc : List (Key × V)), H p = some (.lst [.ref ca, .ref cu, .str R.keeper]) ∧ H ca = some (.dK kc) ∧ kc.map (·.1) = R.names.map Sum.inr ∧ H cu = some (.dK (limK R.lims))
theorem MRollAt.same {H H' : Hp} {p : Addr} {R : Roll} (h : MRollAt H p R) (s : Same H H') : MRollAt H' p R := by
  obtain ⟨ca, cu, kc, h1, h2, h3, h4⟩ := h
  exact ⟨ca, cu, kc, s _ _ h1, s _ _ h2, h3, s _ _ h4⟩
end
end Lo
set_option Elab.async false
set_option maxRecDepth 100000
set_option maxHeartbeats 4000000
namespace Lo
open PySem PySem.Spec PyProof.Rows L2
open C8 (Cal Met Mak scC fnScope_by pe_c pe_mk pe_mt pe_mt0)
theorem sum_add (ns : List Str) (hn : ns.Nodup) (F G : Str → Nat) (x : Str) (hx : x ∈ ns) (h1 : G x = F x + 1) (h2 : ∀ y, y ≠ x → G y = F y) : (ns.map G).sum = (ns.map F).sum + 1 := by
  induction ns with
  | nil => cases hx
  | cons a r ih =>
    rw [List.nodup_cons] at hn
    rw [List.map_cons, List.map_cons, List.sum_cons, List.sum_cons]
    rcases List.mem_cons.mp hx with rfl | hr
    · have : r.map G = r.map F := List.map_congr_left fun y hy => h2 y fun e => hn.1 (e ▸ hy)
      rw [this, h1]
      omega
    · have hax : a ≠ x := fun e => hn.1 (e ▸ hr)
      rw [ih hn.2 hr, h2 a hax]
      omega
theorem sum_held (o : List Ltr) : ((auths o).map (heldN o)).sum = o.length := by
  suffices h : ∀ (m : Nat) (o : List Ltr), o.length = m → ((auths o).map (heldN o)).sum = o.length from h _ o rfl
  intro m
  induction m with
  | zero =>
    intro o ho
    rw [List.length_eq_zero_iff.mp ho]
    rfl
  | succ m ih =>
    intro o ho
    rcases List.eq_nil_or_concat o with rfl | ⟨o', l, rfl⟩
    · rfl
    · rw [List.concat_eq_append] at ho ⊢
      rw [List.length_append, List.length_singleton] at ho ⊢
      have ih' := ih o' (by omega)
      rw [auths_snoc]
      unfold addN
      split
      · rename_i hx
        rw [sum_add (auths o') (auths_nd o') (heldN o') (heldN (o' ++ [l])) l.au hx (by rw [held_snoc, if_pos rfl]) (fun y hy => by rw [held_snoc, if_neg (Ne.symm hy), Nat.add_zero]), ih']
      · rename_i hx
        rw [List.map_append, List.sum_append, List.map_singleton, List.sum_singleton]
        have : (auths o').map (heldN (o' ++ [l])) = (auths o').map (heldN o') := List.map_congr_left fun y hy => by
          have hne : l.au ≠ y := fun e => hx (by rw [e]; exact hy)
          rw [held_snoc, if_neg hne, Nat.add_zero]
        rw [this, ih', held_snoc, if_pos rfl, held_nil hx]
theorem sum_cast (ns : List Nat) : (ns.map fun n => ((n : Nat) : Int)).sum = ((ns.sum : Nat) : Int) := by
  induction ns with
  | nil => rfl
  | cons a r ih =>
    rw [List.map_cons, List.sum_cons, List.sum_cons, ih]
    omega
section
variable {P : Program} {w : World} {K : PySem.W.Frag} {mg : Str → Option Value} {base : Heap} {f : Addr}
def spLRoll (K : PySem.W.Frag) : Sp := fun vs H Q _ => ∃ (d c : Addr) (S : SA) (g : Ltr) (o w : List Ltr), vs = [.ref d, .ref c] ∧ ModAt K H d S g o w ∧ H c = some (.dK (limK (cntL o))) ∧ Ord g o ∧ g.mems.length ≤ 500 ∧ o.length < 64 ∧
  ∀ (p : Addr) (H' : Hp), H p = none → Same H H' → MRollAt H' p (rollS g o) → Q (.ref p) H'
theorem ok_lroll (S : Src K "_law_roll" "_law_roll" s_law_roll f) (T : Txt K mg) (hm : mg "_law_roll" = some (.ref f)) (mr : Cal P w K mg base 1 "_law_row" (spMRow K) []) (ma : Cal P w K mg base 3 "_law_after" (spAfter K) []) (mc : Met P w K mg base 1 (cL K) "count" (spCount K) [])
    (mf : Prp P w K mg base 1 (cL K) "ref" (spRef K)) : Cal P w K mg base 4 "_law_roll" (spLRoll K) [] := by
  refine cal_of S hm sc_law_roll bi_law_roll (fun vs H Q E h => ?_) (fun cdv A outer s H vs Q E hr h => ?_)
  · obtain ⟨d, c, S, g, o, w, rfl, _⟩ := h
    rfl
  · obtain ⟨d, c, S, g, o, w, rfl, M, hc, hO, hms, hol, k⟩ := h
    have hu := hu_of hr
    have nd := (fnScope_by sc_law_roll).nd
    refine ⟨_, (pss_cons (ps_set (i := 2) nd rfl (.inl rfl) (pe_dget hu (pv 0) pe_str (fun _ _ => rfl))) (pss_cons (ps_set (i := 3) nd rfl (.inl rfl) (pe_ix ix_list (pe_dget hu (pe_dget hu (pv 0) pe_str (fun _ _ => rfl)) (pv 2) (fun _ _ => rfl)) pe_int (fun _ _ => rfl))) (pss_cons (ps_set (i := 4) nd rfl (.inl rfl) (pe_disp (pps_cons (pv 2) (pv 3) pps_nil) (by rfl) (by rfl) (fun z => by cases z) (by decide))) (pss_cons (ps_for PassesOwn.never rfl (pi_tup (pe_ix ix_tup (pe_fld (pv 3) rfl) pe_int (fun _ _ => rfl))) (pg_name (i := 5) nd rfl (.inl rfl)) (pss_one (ps_dput hu (pv 4) (pv 5) (pv 3) rfl))) (pss_cons (ps_set (i := 6) nd rfl (.inl rfl) pe_dnewK) (pss_cons (ps_set (i := 7) nd rfl (.inl rfl) (pe_c mr hr (by decide) (by rfl) (pa_cons (pv 0) (pa_cons (pv 1) (pa_cons (pv 2) pa_nil))))) (pss_cons (ps_set (i := 8) nd rfl (.inl rfl) pe_int) (pss_cons (ps_for PassesOwn.never rfl (pi_range1 (by rfl) T.range (pa_cons (pe_op op_add pe_int (pe_callB (cr_sum rfl) (by rfl) T.sum (by decide +kernel) (pa_cons
            (pe_lock (pe_lc (own := [("_law_name", 5)]) (g := gName 5) (tt := tYes) (te := tDGet (tVar 1) (tVar 5)) (by rfl) nd (pi_keys (pv 1)) (blkOk_by (N := N_law_roll) (sc := L2.defScope s_law_roll) (by decide +kernel))
              (fun _ _ _ _ _ => pg_name (i := 5) nd rfl (.inl rfl)) (fun _ _ _ _ _ => pts_nil) (fun _ _ _ _ _ => pe_dget hu (pv 1) (pv 5) (fun _ _ => rfl)))) pa_nil))) pa_nil)) (pg_name (i := 9) nd rfl (.inl rfl))
        (pss_cons (ps_if (pt_cmpR op_ge (pv 8) (pe_callB call_len_seq (by rfl) T.len (by decide +kernel) (pa_cons (pv 7) pa_nil)) (nomark _)) (pss_one ps_break) pss_nil) (pss_cons (ps_set (i := 10) nd rfl (.inl rfl) (pe_ix ix_list (pv 7) (pv 8) (fun _ _ => rfl))) (pss_cons (ps_set (i := 8) nd rfl (.inl rfl) (pe_op op_add (pv 8) pe_int)) (pss_cons (ps_set (i := 11) nd rfl (.inl rfl) (pe_ix ix_tup (pe_fld (pv 10) rfl) pe_int (fun _ _ => rfl))) (pss_cons (ps_if (pt_cmpR op_notIn_seq (pv 11) (pe_tup (pa_cons pe_str (pa_cons pe_str (pa_cons pe_str pa_nil)))) (by rfl)) (pss_one ps_continue) pss_nil) (pss_cons (ps_set (i := 5) nd rfl (.inl rfl) (pe_ix ix_tup (pe_fld (pv 10) rfl) pe_int (fun _ _ => rfl))) (pss_cons (ps_weak (t' := fun D σ H1 => ∃ (ca cu : Addr) (R : Roll) (kc : List (Key × V)) (n2 : Str) (x0 x1 x3 x7 x8 x9 x10 x11 x12 : Option V), σ = [x0, x1, some (.str R.keeper), x3, some (.ref ca), some (.str n2), some (.ref cu), x7, x8, x9, x10, x11, x12] ∧ H1 ca = some (.dK kc) ∧ kc.map (·.1) = R.names.map Sum.inr ∧ H1 cu = some (.dK (limK R.lims)) ∧
            D.nx [x0, x1, some (.str R.keeper), x3, some (.ref ca), some (.str n2), some (.ref cu), x7, x8, x9, x10, x11, some (.bl (R.mem n2 && !decide (n2 = R.keeper)))] H1) (ps_set (i := 12) nd rfl (.inl rfl) (pe_and (pe_cmp (pc_din hu (pv 5) (pv 4)) rfl) (pe_and (pe_cmp (pc_dnotin hu (pv 5) (pv 6)) rfl) (pe_one (pe_cmpR op_ne (pv 5) (pv 2) (nomark _)))))) ?w1) (pss_cons (ps_if (PW.pt (pw_and (pt_cmpR op_eq (pv 11) pe_str (nomark _)) (pw_and1 (pt_cmp (pc_dnotin hu (pv 5) (pv 4)))))) (pss_one (ps_dput hu (pv 4) (pv 5) (pv 10) rfl)) pss_nil) (pss_cons (ps_if (PW.pt (pw_and (pt_cmpR op_eq (pv 11) pe_str (nomark _)) (pw_and1 (pt_val (pv 12))))) (pss_one (ps_dput hu (pv 6) (pv 5) (pe_mt mc hr (by decide) (pv 10) (pa_cons (pv 5) pa_nil)) rfl)) pss_nil) (pss_one (ps_if (PW.pt (pw_and (pt_cmpR op_eq (pv 11) pe_str (nomark _)) (pw_and1 (pt_val (pv 12)))))
          (pss_cons (ps_set (i := 2) nd rfl (.inl rfl) (pv 5)) (pss_cons (ps_set (i := 7) nd rfl (.inl rfl) (pe_c mr hr (by decide) (by rfl) (pa_cons (pv 0) (pa_cons (pv 1) (pa_cons (pv 2) pa_nil))))) (pss_one (ps_set (i := 8) nd rfl (.inl rfl) (pe_c ma hr (by decide) (by rfl) (pa_cons (pv 7) (pa_cons (pe_prp mf hr (by decide) (pv 10)) pa_nil))))))) pss_nil)))))))))))) (pss_one (ps_ret (pe_lst (pa_cons (pv 4) (pa_cons (pv 6) (pa_cons (pv 2) pa_nil)))))))))))))), ?_⟩
    case w1 =>
      rintro D σ H1 ⟨ca, cu, R, kc, n2, x0, x1, x3, x7, x8, x9, x10, x11, x12, rfl, h1, h2, h3, q⟩
      have eN := val_names h2 n2
      have eL := val_lims R.lims n2
      refine ⟨_, rfl, _, rfl, ca, _, rfl, DGet.k (k := Sum.inr n2) h1, _, rfl, ?_⟩
      rw [eN]
      unfold Roll.mem Roll.lim at q
      by_cases hx : n2 ∈ R.names
      · rw [decide_eq_true hx] at q ⊢
        refine iteT ⟨_, rfl, _, rfl, cu, _, rfl, DGet.k (k := Sum.inr n2) h3, _, rfl, ?_⟩
        rw [eL]
        cases hl : lk R.lims n2 with
        | none =>
          rw [hl] at q
          refine iteT ⟨_, rfl, _, rfl, rfl, ?_⟩
          have e : decide (V.str n2 = V.str R.keeper) = decide (n2 = R.keeper) := decide_eq_decide.mpr ⟨fun z => V.str.inj z, fun z => by rw [z]⟩
          show D.nx _ _
          rw [e]
          exact q
        | some m =>
          rw [hl] at q
          refine iteF ?_
          exact q
      · rw [decide_eq_false hx] at q ⊢
        refine iteF ?_
        exact q
    obtain ⟨orest, hor⟩ := hO.head
    have hga : g.au ∈ auths o := mem_auths.mpr ⟨g, by rw [hor]; exact List.mem_cons_self, rfl⟩
    obtain ⟨as0, r1, r2⟩ := M.st.rows.row g.au hga
    have hrow0 : ∃ t, rowOf o g.au = g :: t := ⟨rowOf orest g.au, by rw [hor]; unfold rowOf; rw [List.filter_cons, if_pos (by simp)]⟩
    obtain ⟨t0, hrow0⟩ := hrow0
    have ha0 : ∃ a t, as0 = a :: t ∧ LetterAt (cL K) H a g := by
      rw [hrow0] at r2
      cases r2 with
      | cons q _ => exact ⟨_, _, rfl, q⟩
    obtain ⟨a0, at0, ea0, LA0⟩ := ha0
    subst ea0
    have hget := row_get M.st.rows g.au
    rw [if_pos hga] at hget
    obtain ⟨dy, ts, tb, a1, a2, a3⟩ := id LA0
    obtain ⟨ms, hbd⟩ := hO.found.body
    have em : g.mems = ms := by unfold Ltr.mems; rw [hbd]
    rw [hbd] at a3
    obtain ⟨mt, a3, a4⟩ := a3
    obtain ⟨n0, hn0, hRd⟩ := hO.rd
    refine ⟨_, rfl, d, _, rfl, M.fo, _, rfl, d, _, rfl, M.le, _, rfl, S.dr, _, rfl, hget, S.la g.au, _, _, _, rfl, rfl, SqL.of r1, atI0, ?_⟩
    intro ca hca
    have sa : ∀ u : HO, Same H (upd H ca u) := fun u => same_new hca
    refine ⟨_, rfl, _, rfl, upd_same, [(Sum.inr g.au, .ref a0)], rfl, (by show 1 ≤ 15; decide), ?_⟩
    rw [upd_upd]
    refine ⟨_, rfl, a0, _, dy, _, _, rfl, sa _ _ _ a1, T.kL, T.nBo, lf_bo _ _ _, tb, _, _, _, rfl, rfl, SqT.of (sa _ _ _ a3), atI2, mt, rfl, ⟨_, SqT.of (sa _ _ _ a4)⟩, ?_⟩
    refine for_tup (K := K) (a := mt) (xs := ms.map V.str) (fun i σ H2 => ∃ (v : Option V) (kc : List (Key × V)), σ = [some (.ref d), some (.ref c), some (.str g.au), some (.ref a0), some (.ref ca), v, none, none, none, none, none, none, none] ∧ H2 = upd H ca (.dK kc) ∧ kc.map (·.1) = ((ms.take i).foldl addN [g.au]).map Sum.inr)
      ⟨none, _, rfl, rfl, rfl⟩ ?_ ?_ ?_
    · rintro i σ H2 _ ⟨v, kc, rfl, rfl, hk⟩
      exact SqT.of (sa _ _ _ a4)
    · rintro i y σ H2 hi ⟨v, kc, rfl, rfl, hk⟩
      obtain ⟨x, hx, rfl⟩ := map_get hi
      have hl : kc.length < sizeLine := by
        have e := congrArg List.length hk
        rw [List.length_map, List.length_map] at e
        have h5 := addNs_len (ms.take i) [g.au]
        have h6 := (List.getElem?_eq_some_iff.mp hx).1
        rw [List.length_take, List.length_singleton] at h5
        rw [em] at hms
        rw [sizeLine_eq]
        omega
      refine ⟨_, rfl, _, rfl, _, rfl, ca, _, rfl, DPut.k (k := Sum.inr x) upd_same hl, ?_⟩
      exact ⟨_, _, rfl, upd_upd, by rw [keys_putN hk, take_succ_fold _ hx]⟩
    · rintro σ H2 ⟨v5, kc0, rfl, rfl, hk0⟩
      rw [List.length_map, List.take_length] at hk0
      have hk0' : kc0.map (·.1) = (R0 g).names.map Sum.inr := by
        unfold R0
        rw [em]
        exact hk0
      have ca1 : upd H ca (.dK kc0) ca = some (.dK kc0) := upd_same
      have s1 : Same H (upd H ca (.dK kc0)) := sa _
      generalize upd H ca (.dK kc0) = H1 at ca1 s1
      intro cu hcu
      have s2 : Same H1 (upd H1 cu (.dK [])) := same_new hcu
      have cu2 : upd H1 cu (.dK []) cu = some (.dK []) := upd_same
      generalize upd H1 cu (.dK []) = H2 at s2 cu2
      have hcu0 := s1.free hcu
      have ncc : ca ≠ cu := ne_of_none ca1 hcu
      have s12 := s1.trans s2
      refine ⟨_, rfl, _, rfl, _, rfl, d, c, S, g, o, w, g.au, rfl, M.same s12, s12 _ _ hc, fun lt as3 H3 hlt s3 h3 hls => ?_⟩
      have s13 := s12.trans s3
      have c3 := s13 _ _ hc
      -- the number of turns
      refine ⟨c, _, c3, trivial, fun od => ?_⟩
      refine ⟨_, rfl, c, od, rfl, .inl ⟨limK (cntL o), upd_same, ?_⟩⟩
      intro D hD
      have hDc : D ≠ c := fun z => by rw [z, upd_same] at hD; cases hD
      have hD0 : H3 D = none := by rw [upd_ne hDc] at hD; exact hD
      have hal := auths_len o
      refine lc_by (cntL o).length (fun i H4 => H4 = upd (upd H3 c (.frz od (.dK (limK (cntL o))))) D (.lst ((((cntL o).take i).map fun q => ((q.2 : Nat) : Int)).map V.int))) rfl ?_ ?_ ?_
      · rintro i H4 hi rfl
        exact ⟨by rw [upd_ne hDc.symm, upd_same], by unfold limK; rw [List.length_map]; exact hi⟩
      · rintro i H4 hi rfl x H' ⟨rfl, key, v, hkv, rfl⟩
        obtain ⟨q, hq, ekv⟩ := map_get hkv
        cases ekv
        refine ⟨rfl, ?_⟩
        refine yes_i ?_
        have hnd : ((cntL o).map (·.1)).Nodup := by
          unfold cntL
          rw [List.map_map]
          show ((auths o).map id).Nodup
          rw [List.map_id]
          exact auths_nd o
        have e0 : valV (limK (cntL o)) (Sum.inr q.1 : Key) = some (.int (q.2 : Nat)) := by
          rw [val_lims, lk_nd hnd (List.mem_of_getElem? hq)]
          rfl
        have dg : DGet (upd (upd H3 c (.frz od (.dK (limK (cntL o))))) D (.lst ((((cntL o).take i).map fun q => ((q.2 : Nat) : Int)).map V.int))) c (.str q.1) (some (.int (q.2 : Nat))) :=
          .inl ⟨limK (cntL o), Sum.inr q.1, .inr ⟨od, by rw [upd_ne hDc.symm, upd_same]⟩, rfl, e0.symm⟩
        refine ⟨_, rfl, _, rfl, c, _, rfl, dg, _, upd_same, by rw [List.length_map, List.length_map, List.length_take]; unfold cntL; rw [List.length_map, sizeLine_eq]; omega, ?_⟩
        rw [upd_upd, List.take_add_one, hq]
        simp
      · rintro H4 rfl
        have eD : (upd (upd H3 c (.frz od (.dK (limK (cntL o))))) D (.lst ((((cntL o).take (cntL o).length).map fun q => ((q.2 : Nat) : Int)).map V.int))) c = some (.frz od (.dK (limK (cntL o)))) := by rw [upd_ne hDc.symm, upd_same]
        refine ⟨⟨eD, by unfold limK; rw [List.length_map]; exact Nat.le_refl _⟩, eD, ?_⟩
        rw [List.take_length]
        have s4 : Same H3 (upd (upd (upd H3 c (.frz od (.dK (limK (cntL o))))) D (.lst (((cntL o).map fun q => ((q.2 : Nat) : Int)).map V.int))) c (.dK (limK (cntL o)))) := fun b u e => by
          by_cases hb : b = c
          · rw [hb, upd_same]
            rw [hb, c3] at e
            exact e
          · rw [upd_ne hb, upd_ne (ne_of_none e hD0), upd_ne hb]
            exact e
        have D4 : (upd (upd (upd H3 c (.frz od (.dK (limK (cntL o))))) D (.lst (((cntL o).map fun q => ((q.2 : Nat) : Int)).map V.int))) c (.dK (limK (cntL o)))) D = some (.lst (((cntL o).map fun q => ((q.2 : Nat) : Int)).map V.int)) := by rw [upd_ne hDc, upd_same]
        generalize (upd (upd (upd H3 c (.frz od (.dK (limK (cntL o))))) D (.lst (((cntL o).map fun q => ((q.2 : Nat) : Int)).map V.int))) c (.dK (limK (cntL o)))) = H4 at s4 D4
        refine ⟨D, _, rfl, SqL.of D4, _, _, rfl, rfl, ?_⟩
        have esum : (1 : Int) + ((cntL o).map fun q => ((q.2 : Nat) : Int)).sum = ((1 + o.length : Nat) : Int) := by
          have e1 : ((cntL o).map fun q => ((q.2 : Nat) : Int)) = ((cntL o).map (·.2)).map fun n => ((n : Nat) : Int) := by rw [List.map_map]; rfl
          have e2 : (cntL o).map (·.2) = (auths o).map (heldN o) := by unfold cntL; rw [List.map_map]; rfl
          rw [e1, sum_cast, e2, sum_held]
          omega
        refine ⟨((1 + o.length : Nat) : Int), (by rw [← esum]), by omega, by omega, ?_⟩
        rw [Int.toNat_natCast]
        refine for_range (lo := 0) (n := 1 + o.length) (fun i σ H5 => ∃ (R : Roll) (idx : Nat) (lt : Addr) (u5 u9 u10 u11 u12 : Option V) (n : Nat) (kc : List (Key × V)), σ = [some (.ref d), some (.ref c), some (.str R.keeper), some (.ref a0), some (.ref ca), u5, some (.ref cu), some (.ref lt), some (.int (idx : Nat)), u9, u10, u11, u12] ∧
          Same H H5 ∧ H5 ca = some (.dK kc) ∧ kc.map (·.1) = R.names.map Sum.inr ∧ H5 cu = some (.dK (limK R.lims)) ∧ LsAt K H5 lt (rowOf o R.keeper) ∧ Rd o R idx (rollS g o) n ∧ n + i < 1 + o.length ∧ R.names.length + n ≤ 700 ∧ R.lims.length + n ≤ 700)
          ⟨R0 g, 1, lt, v5, none, none, none, none, n0, kc0, rfl, s13.trans s4, s4 _ _ (s3 _ _ (s2 _ _ ca1)), hk0', s4 _ _ (s3 _ _ cu2), ⟨as3, s4 _ _ h3, hls.im (.same s4)⟩, hRd, by omega, ?_, ?_⟩ ?_ ?_
        · have := names0_le g
          omega
        · show 0 + n0 ≤ 700
          omega
        · rintro i σ H5 hi ⟨R, idx, lt, u5, u9, u10, u11, u12, n, kc, rfl, s5, ca5, hk5, cu5, ⟨as, l1, l2⟩, hRd5, hni, hb1, hb2⟩
          have hlen : as.length = (rowOf o R.keeper).length := pair_len l2
          refine ⟨_, rfl, _, rfl, lt, _, rfl, .inl (SqL.of l1), _, _, rfl, rfl, _, rfl, ?_⟩
          have ed : decide ((((as.map V.ref).length : Nat) : Int) ≤ (idx : Nat)) = decide ((rowOf o R.keeper).length ≤ idx) := decide_eq_decide.mpr (by rw [List.length_map, hlen]; exact Int.ofNat_le)
          rw [ed]
          cases hRd5 with
          | done hle =>
            rw [decide_eq_true hle]
            refine iteT ?_
            refine ⟨_, rfl, _, rfl, _, rfl, (by show 3 ≤ sizeLine; decide), fun p hp => ?_⟩
            have sp := same_new (o := .lst [.ref ca, .ref cu, .str (rollS g o).keeper]) hp
            exact k p _ (s5.free hp) (s5.trans sp) ⟨ca, cu, kc, upd_same, sp _ _ ca5, hk5, sp _ _ cu5⟩
          | @step _ _ _ n l hat hh hrest =>
            have hlt := (List.getElem?_eq_some_iff.mp hat).1
            rw [decide_eq_false (Nat.not_le.mpr hlt)]
            refine iteF ?_
            obtain ⟨lc, hlc, hcl⟩ := pair_r l2 hat
            obtain ⟨dyl, tsl, tbl, b1, b2, b3⟩ := id hcl
            obtain ⟨restl, b4⟩ := body_tup b3
            refine ⟨_, rfl, _, rfl, lt, _, _, _, rfl, rfl, SqL.of l1, atI_nat (j := idx) (by rw [List.getElem?_map, hlc]; rfl), ?_⟩
            refine ⟨_, rfl, _, _, rfl, rfl, ?_⟩
            refine ⟨_, rfl, lc, _, dyl, _, _, rfl, b1, T.kL, T.nBo, lf_bo _ _ _, tbl, _, _, _, rfl, rfl, SqT.of b4, atI0, ?_⟩
            refine ⟨_, rfl, (by show 3 ≤ sizeLine; decide), fun q hq => ⟨q, _, rfl, .inr (SqT.of upd_same), rfl, rfl, _, rfl, ?_⟩⟩
            have s6 : Same H5 (upd H5 q (.tup [.str "add", .str "cut", .str "hand"])) := same_new hq
            generalize upd H5 q (.tup [.str "add", .str "cut", .str "hand"]) = H6 at s6
            have s56 := s5.trans s6
            show if (!inV (.str (kindS l.body)) [.str "add", .str "cut", .str "hand"]) = true then _ else _
            rw [in_act l.body l rfl]
            have idx1 : ((idx : Nat) : Int) + 1 = ((idx + 1 : Nat) : Int) := rfl
            have ca6 := s6 _ _ ca5
            have cu6 := s6 _ _ cu5
            have l16 := s6 _ _ l1
            have l26 := l2.im (K := K) (.same s6)
            have hcl6 := hcl.im (K := K) (.same s6)
            have nlca : lt ≠ ca := ne_of l1 ca5 (by intro z; cases z)
            have nlcu : lt ≠ cu := ne_of l1 cu5 (by intro z; cases z)
            cases hact : l.act with
            | false =>
              refine iteT ?_
              rw [act1_no hact] at hrest
              exact ⟨R, idx + 1, lt, u5, _, _, _, u12, n, kc, rfl, s56, ca6, hk5, cu6, ⟨as, l16, l26⟩, hrest, by omega, by omega, by omega⟩
            | true =>
              refine iteF ?_
              obtain ⟨n2, hn2⟩ := act_body hact
              have bb : H6 tbl = some (.tup [.str (kindS l.body), .str n2]) := by
                refine s6 _ _ ?_
                rcases hn2 with e | e | e <;> rw [e] at b3 ⊢ <;> exact b3
              refine ⟨_, rfl, lc, _, dyl, _, _, rfl, s6 _ _ b1, T.kL, T.nBo, lf_bo _ _ _, tbl, _, _, _, rfl, rfl, SqT.of bb, atI1, ?_⟩
              refine ⟨ca, cu, R, kc, n2, _, _, _, _, _, _, _, _, _, rfl, ca6, hk5, cu6, ?_⟩
              have eN := val_names hk5 n2
              have hm2 : (R.mem n2 && !decide (n2 = R.keeper)) = true ↔ (R.mem n2 = true ∧ n2 ≠ R.keeper) := by simp
              generalize hfit : (R.mem n2 && !decide (n2 = R.keeper)) = fit at hm2
              rcases hn2 with e | e | e
              · -- add
                have eadd : decide (V.str (kindS l.body) = V.str "add") = true := by rw [e]; rfl
                have ecut : decide (V.str (kindS l.body) = V.str "cut") = false := by rw [e]; rfl
                have ehand : decide (V.str (kindS l.body) = V.str "hand") = false := by rw [e]; rfl
                have ea : act1 R l = { R with names := addN R.names n2 } := by unfold act1 stepR; rw [e]
                rw [ea] at hrest
                have hnl : (addN R.names n2).length ≤ R.names.length + 1 := addN_len _ _
                refine ⟨_, rfl, rfl, _, rfl, ?_⟩
                rw [eadd]
                refine iteT ⟨_, rfl, _, rfl, ca, _, rfl, DGet.k (k := Sum.inr n2) ca6, _, rfl, ?_⟩
                rw [eN]
                by_cases hx : n2 ∈ R.names
                · rw [decide_eq_true hx, Bool.not_true]
                  refine iteF ?_
                  refine ⟨_, rfl, rfl, _, rfl, ?_⟩
                  rw [ecut]
                  refine iteF ?_
                  refine iteF ?_
                  refine ⟨_, rfl, rfl, _, rfl, ?_⟩
                  rw [ehand]
                  refine iteF ?_
                  refine iteF ?_
                  have hk' : kc.map (·.1) = (addN R.names n2).map Sum.inr := by unfold addN; rw [if_pos hx]; exact hk5
                  exact ⟨{ R with names := addN R.names n2 }, idx + 1, lt, _, _, _, _, _, n, kc, rfl, s56, ca6, hk', cu6, ⟨as, l16, l26⟩, hrest, by omega, by show (addN R.names n2).length + n ≤ 700; omega, by show R.lims.length + n ≤ 700; omega⟩
                · rw [decide_eq_false hx, Bool.not_false]
                  have hlen6 : kc.length < sizeLine := by rw [keys_len hk5, sizeLine_eq]; omega
                  refine iteT ⟨_, rfl, _, rfl, _, rfl, ca, _, rfl, DPut.k (k := Sum.inr n2) ca6 hlen6, ?_⟩
                  have k7 : ∀ b v, H6 b = some v → b ≠ ca → upd H6 ca (.dK (putK kc (Sum.inr n2 : Key) (.ref lc))) b = some v := kpu
                  have c7 : upd H6 ca (.dK (putK kc (Sum.inr n2 : Key) (.ref lc))) ca = some (.dK (putK kc (Sum.inr n2 : Key) (.ref lc))) := upd_same
                  have im7 : Im K H6 (upd H6 ca (.dK (putK kc (Sum.inr n2 : Key) (.ref lc)))) := .set ca6 rfl
                  generalize upd H6 ca (.dK (putK kc (Sum.inr n2 : Key) (.ref lc))) = H7 at k7 c7 im7
                  have s7 : Same H H7 := fun b u e => k7 _ _ (s56 _ _ e) (ne_of_none e hca)
                  refine ⟨_, rfl, rfl, _, rfl, ?_⟩
                  rw [ecut]
                  refine iteF ?_
                  refine iteF ?_
                  refine ⟨_, rfl, rfl, _, rfl, ?_⟩
                  rw [ehand]
                  refine iteF ?_
                  refine iteF ?_
                  exact ⟨{ R with names := addN R.names n2 }, idx + 1, lt, _, _, _, _, _, n, _, rfl, s7, c7, keys_putN hk5 n2 _, k7 _ _ cu6 ncc.symm, ⟨as, k7 _ _ l16 nlca, l26.im im7⟩, hrest, by omega, by show (addN R.names n2).length + n ≤ 700; omega, by show R.lims.length + n ≤ 700; omega⟩
              · -- cut
                have eadd : decide (V.str (kindS l.body) = V.str "add") = false := by rw [e]; rfl
                have ecut : decide (V.str (kindS l.body) = V.str "cut") = true := by rw [e]; rfl
                have ehand : decide (V.str (kindS l.body) = V.str "hand") = false := by rw [e]; rfl
                have ec : act1 R l = if R.mem n2 = true ∧ n2 ≠ R.keeper then { R with lims := R.lims ++ [(n2, l.count n2)] } else R := by
                  unfold act1 stepR
                  rw [e]
                  show (if R.mem n2 = true ∧ n2 ≠ R.keeper then _ else _ : Roll × Bool).1 = _
                  split <;> rfl
                refine ⟨_, rfl, rfl, _, rfl, ?_⟩
                rw [eadd]
                refine iteF ?_
                refine iteF ?_
                refine ⟨_, rfl, rfl, _, rfl, ?_⟩
                rw [ecut]
                refine iteT ⟨_, rfl, _, rfl, ?_⟩
                cases fit with
                | true =>
                  have hm3 := hm2.mp rfl
                  rw [ec, if_pos hm3] at hrest
                  have hlen6 : (limK R.lims).length < sizeLine := by unfold limK; rw [List.length_map, sizeLine_eq]; omega
                  refine iteT ⟨_, rfl, lc, dyl, _, rfl, s6 _ _ b1, rfl, _, rfl, lc, l, n2, rfl, hcl6, _, rfl, _, rfl, cu, _, rfl, DPut.k (k := Sum.inr n2) cu6 hlen6, ?_⟩
                  have hnone : n2 ∉ R.lims.map (·.1) := lk_none.mp (mem_iff.mp hm3.1).2
                  have hput := limK_snoc R.lims n2 (l.count n2) hnone
                  rw [hput]
                  have k7 : ∀ b v, H6 b = some v → b ≠ cu → upd H6 cu (.dK (limK (R.lims ++ [(n2, l.count n2)]))) b = some v := kpu
                  have c7 : upd H6 cu (.dK (limK (R.lims ++ [(n2, l.count n2)]))) cu = some (.dK (limK (R.lims ++ [(n2, l.count n2)]))) := upd_same
                  have im7 : Im K H6 (upd H6 cu (.dK (limK (R.lims ++ [(n2, l.count n2)])))) := .set cu6 rfl
                  generalize upd H6 cu (.dK (limK (R.lims ++ [(n2, l.count n2)]))) = H7 at k7 c7 im7
                  have s7 : Same H H7 := fun b u e => k7 _ _ (s56 _ _ e) (ne_of_none e hcu0)
                  refine ⟨_, rfl, rfl, _, rfl, ?_⟩
                  rw [ehand]
                  refine iteF ?_
                  refine iteF ?_
                  exact ⟨{ R with lims := R.lims ++ [(n2, l.count n2)] }, idx + 1, lt, _, _, _, _, _, n, kc, rfl, s7, k7 _ _ ca6 ncc, hk5, c7, ⟨as, k7 _ _ l16 nlcu, l26.im im7⟩, hrest, by omega, by show R.names.length + n ≤ 700; omega, by show (R.lims ++ [(n2, l.count n2)]).length + n ≤ 700; rw [List.length_append, List.length_singleton]; omega⟩
                | false =>
                  rw [ec, if_neg (fun z => by have := hm2.mpr z; cases this)] at hrest
                  refine iteF ?_
                  refine ⟨_, rfl, rfl, _, rfl, ?_⟩
                  rw [ehand]
                  refine iteF ?_
                  refine iteF ?_
                  exact ⟨R, idx + 1, lt, _, _, _, _, _, n, kc, rfl, s56, ca6, hk5, cu6, ⟨as, l16, l26⟩, hrest, by omega, by omega, by omega⟩
              · -- hand
                have eadd : decide (V.str (kindS l.body) = V.str "add") = false := by rw [e]; rfl
                have ecut : decide (V.str (kindS l.body) = V.str "cut") = false := by rw [e]; rfl
                have ehand : decide (V.str (kindS l.body) = V.str "hand") = true := by rw [e]; rfl
                have eh : stepR R l = if R.mem n2 = true ∧ n2 ≠ R.keeper then ({ R with keeper := n2 }, true) else (R, false) := by unfold stepR; rw [e]
                refine ⟨_, rfl, rfl, _, rfl, ?_⟩
                rw [eadd]
                refine iteF ?_
                refine iteF ?_
                refine ⟨_, rfl, rfl, _, rfl, ?_⟩
                rw [ecut]
                refine iteF ?_
                refine iteF ?_
                refine ⟨_, rfl, rfl, _, rfl, ?_⟩
                rw [ehand]
                refine iteT ⟨_, rfl, _, rfl, ?_⟩
                cases fit with
                | true =>
                  exfalso
                  rw [eh, if_pos (hm2.mp rfl)] at hh
                  cases hh
                | false =>
                  have ec : act1 R l = R := by
                    unfold act1
                    rw [eh, if_neg (fun z => by have := hm2.mpr z; cases this)]
                  rw [ec] at hrest
                  refine iteF ?_
                  exact ⟨R, idx + 1, lt, _, _, _, _, _, n, kc, rfl, s56, ca6, hk5, cu6, ⟨as, l16, l26⟩, hrest, by omega, by omega, by omega⟩
          | @hand _ _ _ n l hat hh hrest =>
            have hlt := (List.getElem?_eq_some_iff.mp hat).1
            rw [decide_eq_false (Nat.not_le.mpr hlt)]
            refine iteF ?_
            obtain ⟨lc, hlc, hcl⟩ := pair_r l2 hat
            obtain ⟨dyl, tsl, tbl, b1, b2, b3⟩ := id hcl
            obtain ⟨restl, b4⟩ := body_tup b3
            refine ⟨_, rfl, _, rfl, lt, _, _, _, rfl, rfl, SqL.of l1, atI_nat (j := idx) (by rw [List.getElem?_map, hlc]; rfl), ?_⟩
            refine ⟨_, rfl, _, _, rfl, rfl, ?_⟩
            refine ⟨_, rfl, lc, _, dyl, _, _, rfl, b1, T.kL, T.nBo, lf_bo _ _ _, tbl, _, _, _, rfl, rfl, SqT.of b4, atI0, ?_⟩
            refine ⟨_, rfl, (by show 3 ≤ sizeLine; decide), fun q hq => ⟨q, _, rfl, .inr (SqT.of upd_same), rfl, rfl, _, rfl, ?_⟩⟩
            have s6 : Same H5 (upd H5 q (.tup [.str "add", .str "cut", .str "hand"])) := same_new hq
            generalize upd H5 q (.tup [.str "add", .str "cut", .str "hand"]) = H6 at s6
            have s56 := s5.trans s6
            show if (!inV (.str (kindS l.body)) [.str "add", .str "cut", .str "hand"]) = true then _ else _
            rw [in_act l.body l rfl]
            have idx1 : ((idx : Nat) : Int) + 1 = ((idx + 1 : Nat) : Int) := rfl
            have ca6 := s6 _ _ ca5
            have cu6 := s6 _ _ cu5
            have l16 := s6 _ _ l1
            have l26 := l2.im (K := K) (.same s6)
            have hcl6 := hcl.im (K := K) (.same s6)
            have nlca : lt ≠ ca := ne_of l1 ca5 (by intro z; cases z)
            have nlcu : lt ≠ cu := ne_of l1 cu5 (by intro z; cases z)
            have hact := hand_act hh
            rw [hact]
            refine iteF ?_
            obtain ⟨n2, hn2⟩ := act_body hact
            have bb : H6 tbl = some (.tup [.str (kindS l.body), .str n2]) := by
              refine s6 _ _ ?_
              rcases hn2 with e | e | e <;> rw [e] at b3 ⊢ <;> exact b3
            refine ⟨_, rfl, lc, _, dyl, _, _, rfl, s6 _ _ b1, T.kL, T.nBo, lf_bo _ _ _, tbl, _, _, _, rfl, rfl, SqT.of bb, atI1, ?_⟩
            refine ⟨ca, cu, R, kc, n2, _, _, _, _, _, _, _, _, _, rfl, ca6, hk5, cu6, ?_⟩
            have eN := val_names hk5 n2
            have hm2 : (R.mem n2 && !decide (n2 = R.keeper)) = true ↔ (R.mem n2 = true ∧ n2 ≠ R.keeper) := by simp
            generalize hfit : (R.mem n2 && !decide (n2 = R.keeper)) = fit at hm2
            have eb : l.body = .hand n2 := by
              rcases hn2 with e | e | e
              · exfalso; unfold stepR at hh; rw [e] at hh; cases hh
              · exfalso
                have : (stepR R l).2 = false := by
                  unfold stepR
                  rw [e]
                  show (if R.mem n2 = true ∧ n2 ≠ R.keeper then _ else _ : Roll × Bool).2 = false
                  split <;> rfl
                rw [this] at hh
                cases hh
              · exact e
            have e := eb
            have eadd : decide (V.str (kindS l.body) = V.str "add") = false := by rw [e]; rfl
            have ecut : decide (V.str (kindS l.body) = V.str "cut") = false := by rw [e]; rfl
            have ehand : decide (V.str (kindS l.body) = V.str "hand") = true := by rw [e]; rfl
            have eh : stepR R l = if R.mem n2 = true ∧ n2 ≠ R.keeper then ({ R with keeper := n2 }, true) else (R, false) := by unfold stepR; rw [e]
            refine ⟨_, rfl, rfl, _, rfl, ?_⟩
            rw [eadd]
            refine iteF ?_
            refine iteF ?_
            refine ⟨_, rfl, rfl, _, rfl, ?_⟩
            rw [ecut]
            refine iteF ?_
            refine iteF ?_
            refine ⟨_, rfl, rfl, _, rfl, ?_⟩
            rw [ehand]
            refine iteT ⟨_, rfl, _, rfl, ?_⟩
            have hfit2 : fit = true := by
              cases fit with
              | true => rfl
              | false =>
                rw [eh, if_neg (fun z => by have := hm2.mpr z; cases this)] at hh
                cases hh
            rw [hfit2]
            have ec : act1 R l = { R with keeper := n2 } := by
              unfold act1
              rw [eh, if_pos (hm2.mp hfit2)]
            rw [ec] at hrest
            refine iteT ?_
            refine ⟨_, rfl, ?_⟩
            refine ⟨_, rfl, _, rfl, _, rfl, d, c, S, g, o, w, n2, rfl, M.same s56, s56 _ _ hc, fun lt7 as7 H7 hlt7 s7 h7 hls7 => ?_⟩
            have hcl7 := hcl6.im (K := K) (.same s7)
            refine ⟨_, rfl, _, rfl, lc, dyl, _, rfl, s7 _ _ (s6 _ _ b1), lc, l, rfl, hcl7, fun t8 ht8 => ?_⟩
            have s8 : Same H7 (upd H7 t8 (.tup [.str l.au, .int l.num])) := same_new ht8
            have e8 : upd H7 t8 (.tup [.str l.au, .int l.num]) t8 = some (.tup [.str l.au, .int l.num]) := upd_same
            generalize upd H7 t8 (.tup [.str l.au, .int l.num]) = H8 at s8 e8
            refine ⟨lt7, t8, rowOf o n2, l, rfl, ⟨as7, s8 _ _ h7, hls7.im (.same s8)⟩, e8, fun H9 s9 => ?_⟩
            rw [← findIdx_count l (hO.mono n2)]
            have s69 := s7.trans (s8.trans s9)
            exact ⟨{ R with keeper := n2 }, _, lt7, _, _, _, _, _, n, kc, rfl, s56.trans s69, s69 _ _ ca6, hk5, s69 _ _ cu6, ⟨as7, s9 _ _ (s8 _ _ h7), hls7.im (.same (s8.trans s9))⟩, hrest, by omega, by show R.names.length + n ≤ 700; omega, by show R.lims.length + n ≤ 700; omega⟩
        · rintro σ H5 ⟨R, idx, lt, u5, u9, u10, u11, u12, n, kc, rfl, s5, ca5, hk5, cu5, hlt5, hRd5, hni, hb1, hb2⟩
          omega
end
end Lo
set_option Elab.async false
set_option maxRecDepth 100000
set_option maxHeartbeats 4000000
namespace Lo
open PySem PySem.Spec PyProof.Rows L2
open C8 (Cal Met Mak scC fnScope_by pe_c pe_mk pe_mt pe_mt0)
section
variable {P : Program} {w : World} {K : PySem.W.Frag} {mg : Str → Option Value} {base : Heap} {f : Addr}
def spMVoid (K : PySem.W.Frag) : Sp := fun vs H Q _ => ∃ (p a : Addr) (R : Roll) (l : Ltr), vs = [.ref p, .ref a] ∧ MRollAt H p R ∧ LetterAt (cL K) H a l ∧ Q (.bl (voidR R l)) H
theorem ok_mvoid (S : Src K "_law_void" "_law_void" s_law_void f) (T : Txt K mg) (hm : mg "_law_void" = some (.ref f)) : Cal P w K mg base 1 "_law_void" (spMVoid K) [] := by
  refine cal_of S hm sc_law_void bi_law_void (fun vs H Q E h => ?_) (fun cdv A outer s H vs Q E hr h => ?_)
  · obtain ⟨p, a, R, l, rfl, _⟩ := h
    rfl
  · obtain ⟨p, a, R, l, rfl, ⟨ca, cu, kc, p1, p2, p3, p4⟩, hl, k⟩ := h
    obtain ⟨dy, ts, tb, a1, a2, a3⟩ := id hl
    have hu := hu_of hr
    refine ⟨_, (pss_one (ps_ret (pe_and (pe_cmp (pc_din hu (pe_fld (pv 1) rfl) (pe_ix ix_list (pv 0) pe_int (fun _ _ => rfl))) rfl) (pe_one (pe_cmpR op_gt (pe_fld (pv 1) rfl) (pe_dget hu (pe_ix ix_list (pv 0) pe_int (fun _ _ => rfl)) (pe_fld (pv 1) rfl) (fun _ _ => rfl)) (nomark _)))))), ?_⟩
    have eL := val_lims R.lims l.au
    refine ⟨_, rfl, a, _, dy, _, _, rfl, a1, T.kL, T.nAu, lf_au _ _ _, _, rfl, p, _, _, _, rfl, rfl, SqL.of p1, atI1, cu, _, rfl, DGet.k (k := Sum.inr l.au) p4, _, rfl, ?_⟩
    unfold voidR Roll.lim at k
    rw [eL]
    cases e : lk R.lims l.au with
    | none =>
      rw [e] at k
      refine iteF ?_
      exact k
    | some m =>
      rw [e] at k eL
      refine iteT ⟨_, rfl, a, _, dy, _, _, rfl, a1, T.kL, T.nNu, lf_nu _ _ _, _, rfl, p, _, _, _, rfl, rfl, SqL.of p1, atI1, _, rfl, a, _, dy, _, _, rfl, a1, T.kL, T.nAu, lf_au _ _ _, cu, _, rfl, by have := DGet.k (k := Sum.inr l.au) p4; rw [eL] at this; exact this, _, _, rfl, rfl, ?_⟩
      have e2 : decide (((m : Nat) : Int) < (l.num : Nat)) = decide (m < l.num) := decide_eq_decide.mpr Int.ofNat_lt
      show Q (.bl (decide (((m : Nat) : Int) < (l.num : Nat)))) H
      rw [e2]
      exact k
theorem cnts_void {R : Roll} {l : Ltr} (h : l.au ∈ R.names) : cntsR R l.au l.num = !voidR R l := by
  unfold cntsR voidR
  rw [decide_eq_true h, Bool.true_and]
  cases R.lim l.au with
  | none => rfl
  | some m =>
    show decide (l.num ≤ m) = !decide (m < l.num)
    rw [← decide_not]
    exact decide_eq_decide.mpr Nat.not_lt.symm
theorem cnts_out {R : Roll} {l : Ltr} (h : l.au ∉ R.names) : cntsR R l.au l.num = false := by
  unfold cntsR
  rw [decide_eq_false h]
  rfl
def spMCan (K : PySem.W.Frag) : Sp := fun vs H Q _ => ∃ (d p c a : Addr) (R : Roll) (o : List Ltr) (l : Ltr), vs = [.ref d, .ref p, .ref c, .ref a] ∧ MRollAt H p R ∧ H c = some (.dK (limK (cntL o))) ∧ LetterAt (cL K) H a l ∧ Q (.bl (can R o l)) H
theorem cnt_getD {H : Hp} {c : Addr} {o : List Ltr} (h : H c = some (.dK (limK (cntL o)))) (x : Str) : ∃ q, DGet H c (.str x) q ∧ q.getD (.int 0) = .int (heldN o x : Nat) := by
  refine ⟨_, cnt_get h x, ?_⟩
  by_cases e : x ∈ auths o
  · rw [if_pos e]
    rfl
  · rw [if_neg e, held_nil e]
    rfl
theorem ok_mcan (S : Src K "_law_can" "_law_can" s_law_can f) (T : Txt K mg) (hm : mg "_law_can" = some (.ref f)) (mv : Cal P w K mg base 1 "_law_void" (spMVoid K) []) : Cal P w K mg base 2 "_law_can" (spMCan K) [] := by
  refine cal_of S hm sc_law_can bi_law_can (fun vs H Q E h => ?_) (fun cdv A outer s H vs Q E hr h => ?_)
  · obtain ⟨d, p, c, a, R, o, l, rfl, _⟩ := h
    rfl
  · obtain ⟨d, p, c, a, R, o, l, rfl, MR, hc, hl, k⟩ := h
    obtain ⟨ca, cu, kc, p1, p2, p3, p4⟩ := id MR
    obtain ⟨dy, ts, tb, a1, ⟨ps, a2, a3⟩, a4⟩ := id hl
    have hu := hu_of hr
    have nd := (fnScope_by sc_law_can).nd
    refine ⟨_, (pss_cons (ps_if (PW.pt (pw_or (pt_cmp (pc_dnotin hu (pe_fld (pv 3) rfl) (pe_ix ix_list (pv 1) pe_int (fun _ _ => rfl)))) (pw_or (pt_cmpR op_ne (pe_fld (pv 3) rfl) (pe_op op_add (pe_dget2 hu (pv 2) (pe_fld (pv 3) rfl) pe_int ⟨rfl, rfl, rfl, rfl⟩) pe_int) (nomark _))
          (pw_or1 (pt_val (pe_c mv hr (by decide) (by rfl) (pa_cons (pv 1) (pa_cons (pv 3) pa_nil)))))))) (pss_one (ps_ret pe_bl)) pss_nil) (pss_cons (ps_for PassesOwn.never rfl (pi_tup (pe_fld (pv 3) rfl)) (pg_tup (by rfl) (pgs_cons (pg_name (i := 4) nd rfl (.inl rfl)) (pgs_cons (pg_name (i := 5) nd rfl (.inl rfl)) pgs_nil)))
        (pss_cons (ps_set (i := 6) nd rfl (.inl rfl) (pv 5)) (pss_cons (ps_weak (t' := fun D σ H1 => ∃ (p cu : Addr) (R : Roll) (x : Str) (n : Nat) (ca : V) (kp : V) (x0 x2 x3 : Option V), σ = [x0, some (.ref p), x2, x3, some (.str x), some (.int (n : Nat)), some (.int (n : Nat))] ∧ H1 p = some (.lst [ca, .ref cu, kp]) ∧ H1 cu = some (.dK (limK R.lims)) ∧
            D.nx [x0, some (.ref p), x2, x3, some (.str x), some (.int (n : Nat)), some (.int (least R x n : Nat))] H1)
          (ps_if (pt_cmp (pc_din hu (pv 4) (pe_ix ix_list (pv 1) pe_int (fun _ _ => rfl)))) (pss_one (ps_set (i := 6) nd rfl (.inl rfl) (pe_callB (call_min2 rfl) (by rfl) T.min (by decide +kernel) (pa_cons (pv 5) (pa_cons (pe_dget hu (pe_ix ix_list (pv 1) pe_int (fun _ _ => rfl)) (pv 4) (fun _ _ => rfl)) pa_nil))))) pss_nil) ?w1) (pss_one (ps_if (PW.pt (pw_and (pt_cmpR op_ne (pv 4) (pe_fld (pv 3) rfl) (nomark _)) (pw_and1 (pt_cmpR op_lt (pe_dget2 hu (pv 2) (pv 4) pe_int ⟨rfl, rfl, rfl, rfl⟩) (pv 6) (nomark _))))) (pss_one (ps_ret pe_bl)) pss_nil))))) (pss_one (ps_ret pe_bl)))), ?_⟩
    case w1 =>
      rintro D σ H1 ⟨p, cu, R, x, n, ca, kp, x0, x2, x3, rfl, h1, h2, q⟩
      have eL := val_lims R.lims x
      refine ⟨_, rfl, _, rfl, p, _, _, _, rfl, rfl, SqL.of h1, atI1, cu, _, rfl, DGet.k (k := Sum.inr x) h2, _, rfl, ?_⟩
      rw [eL]
      unfold least Roll.lim at q
      cases e : lk R.lims x with
      | none =>
        rw [e] at q
        refine iteF ?_
        exact q
      | some m =>
        rw [e] at q eL
        refine iteT ⟨_, rfl, _, rfl, p, _, _, _, rfl, rfl, SqL.of h1, atI1, _, rfl, cu, _, rfl, by have := DGet.k (k := Sum.inr x) h2; rw [eL] at this; exact this, _, _, rfl, ?_⟩
        have e5 : (if ((m : Nat) : Int) < ((n : Nat) : Int) then ((m : Nat) : Int) else ((n : Nat) : Int)) = ((min n m : Nat) : Int) := by
          split <;> omega
        rw [e5]
        exact q
    have eN := val_names p3 l.au
    have eL := val_lims R.lims l.au
    unfold can at k
    refine ⟨_, rfl, a, _, dy, _, _, rfl, a1, T.kL, T.nAu, lf_au _ _ _, _, rfl, p, _, _, _, rfl, rfl, SqL.of p1, atI0, ca, _, rfl, DGet.k (k := Sum.inr l.au) p2, _, rfl, ?_⟩
    rw [eN]
    by_cases hx : l.au ∈ R.names
    · rw [cnts_void hx] at k
      rw [decide_eq_true hx]
      obtain ⟨q, hq1, hq2⟩ := cnt_getD hc l.au
      refine iteF ⟨_, rfl, a, _, dy, _, _, rfl, a1, T.kL, T.nNu, lf_nu _ _ _, _, rfl, c, rfl, .inl ⟨_, .inl hc⟩, _, rfl, a, _, dy, _, _, rfl, a1, T.kL, T.nAu, lf_au _ _ _, q, hq1, ?_⟩
      rw [hq2]
      refine ⟨_, _, rfl, rfl, rfl, _, rfl, ?_⟩
      have e1 : (V.int (l.num : Nat) = V.int (((heldN o l.au : Nat) : Int) + 1)) ↔ l.num = heldN o l.au + 1 := ⟨fun z => by have := V.int.inj z; omega, fun z => by rw [z]; rfl⟩
      by_cases hn : l.num = heldN o l.au + 1
      · have en : (!decide (V.int (l.num : Nat) = V.int (((heldN o l.au : Nat) : Int) + 1))) = false := by rw [decide_eq_true (e1.mpr hn)]; rfl
        show if (!decide (V.int (l.num : Nat) = V.int (((heldN o l.au : Nat) : Int) + 1))) = true then _ else _
        rw [en]
        rw [decide_eq_true hn, Bool.true_and] at k
        refine iteF ⟨_, rfl, _, rfl, p, a, R, l, rfl, MR, hl, _, rfl, ?_⟩
        cases hv : voidR R l with
        | true =>
          rw [hv, Bool.not_true, Bool.false_and] at k
          refine iteT ?_
          exact k
        | false =>
          rw [hv, Bool.not_false, Bool.true_and] at k
          refine iteF ?_
          refine ⟨_, rfl, a, _, dy, _, _, rfl, a1, T.kL, T.nSe, lf_se _ _ _, ts, rfl, ⟨_, SqT.of a2⟩, for_tup (K := K) (a := ts) (xs := ps.map V.ref) (fun i σ H2 => ∃ u v y : Option V, σ = [some (.ref d), some (.ref p), some (.ref c), some (.ref a), u, v, y] ∧ H2 = H ∧ ∀ j p, j < i → l.seen[j]? = some p → (decide (p.1 = l.au) || hasC R o p.1 p.2) = true)
            ⟨none, none, none, rfl, rfl, fun j p hj => absurd hj (Nat.not_lt_zero _)⟩ ?_ ?_ ?_⟩
          · rintro i σ H2 _ ⟨u, v, y, rfl, rfl, _⟩
            exact SqT.of a2
          · rintro i y0 σ H2 hi ⟨u, v, y, rfl, rfl, hn⟩
            obtain ⟨q, hq, rfl⟩ := map_get hi
            obtain ⟨s2, hc2, hpc⟩ := pair_l a3 hq
            refine ⟨q, _, rfl, SqT.of hpc, rfl, _, _, rfl, _, _, rfl, rfl, _, rfl, ?_⟩
            refine ⟨p, cu, R, s2.1, s2.2, _, _, _, _, _, rfl, p1, p4, ?_⟩
            have step : (decide (s2.1 = l.au) || hasC R o s2.1 s2.2) = true → ∀ j p, j < i + 1 → l.seen[j]? = some p → (decide (p.1 = l.au) || hasC R o p.1 p.2) = true := fun hh j p hj hp => by
              rcases Nat.lt_or_eq_of_le (Nat.lt_succ_iff.mp hj) with hj | rfl
              · exact hn j p hj hp
              · rw [hc2] at hp
                cases hp
                exact hh
            refine ⟨_, rfl, _, rfl, a, _, dy, _, _, rfl, a1, T.kL, T.nAu, lf_au _ _ _, rfl, _, rfl, ?_⟩
            by_cases hx : s2.1 = l.au
            · have e : (!decide (V.str s2.1 = V.str l.au)) = false := by rw [decide_eq_true (by rw [hx])]; rfl
              rw [e]
              refine iteF ?_
              refine iteF ?_
              exact ⟨_, _, _, rfl, rfl, step (by rw [decide_eq_true hx]; rfl)⟩
            · have e : (!decide (V.str s2.1 = V.str l.au)) = true := by rw [decide_eq_false fun z => hx (V.str.inj z)]; rfl
              rw [e]
              obtain ⟨q5, hq5, hq6⟩ := cnt_getD hc s2.1
              refine iteT ⟨_, rfl, c, rfl, .inl ⟨_, .inl hc⟩, _, rfl, q5, hq5, ?_⟩
              rw [hq6]
              refine ⟨_, rfl, _, _, rfl, rfl, _, rfl, ?_⟩
              have e7 : decide (((heldN o s2.1 : Nat) : Int) < ((least R s2.1 s2.2 : Nat) : Int)) = !hasC R o s2.1 s2.2 := by
                unfold hasC
                rw [← decide_not]
                exact decide_eq_decide.mpr (by omega)
              rw [e7]
              cases hh : hasC R o s2.1 s2.2 with
              | true =>
                rw [Bool.not_true]
                refine iteF ?_
                exact ⟨_, _, _, rfl, rfl, step (by rw [hh, Bool.or_true])⟩
              | false =>
                rw [Bool.not_false]
                refine iteT ?_
                have e6 := not_all (p := fun p : Str × Nat => decide (p.1 = l.au) || hasC R o p.1 p.2) hc2 (by show (decide (s2.1 = l.au) || _) = false; rw [decide_eq_false hx, hh]; rfl)
                rw [e6] at k
                exact k
          · rintro σ H2 ⟨u, v, y, rfl, rfl, hn⟩
            have e6 := take_all (p := fun p : Str × Nat => decide (p.1 = l.au) || hasC R o p.1 p.2) fun j x hx => hn j x (by rw [List.length_map, pair_len a3]; exact (List.getElem?_eq_some_iff.mp hx).1) hx
            rw [e6] at k
            exact k
      · have en : (!decide (V.int (l.num : Nat) = V.int (((heldN o l.au : Nat) : Int) + 1))) = true := by rw [decide_eq_false (fun z => hn (e1.mp z))]; rfl
        show if (!decide (V.int (l.num : Nat) = V.int (((heldN o l.au : Nat) : Int) + 1))) = true then _ else _
        rw [en]
        rw [decide_eq_false hn, Bool.false_and, Bool.and_false] at k
        refine iteT ?_
        refine iteT ?_
        exact k
    · rw [cnts_out hx, Bool.false_and] at k
      rw [decide_eq_false hx]
      refine iteT ?_
      refine iteT ?_
      exact k
end
end Lo
set_option Elab.async false
set_option maxRecDepth 100000
set_option maxHeartbeats 4000000
namespace Lo
open PySem PySem.Spec PySem.W PyProof.Rows L2
/-! ### min of triples -/
def rdD (l : Ltr) : PyData := .tuple [.int l.stamp, .str l.au, refD (wk l)]
theorem rd_lt {a b : Ltr} (h : keyLt a b = true) : dataLt (rdD a) (rdD b) = true := by
  unfold rdD
  rw [dataLt_tuple, dataLt_cons (by simp [alike]), dataLt_cons (by simp [alike]), dataLt_int, dataLt_str]
  simp only [PyData.eqv, beq_iff_eq]
  rcases keyLt_iff.mp h with h1 | ⟨h1, h2⟩
  · have h3 : ¬ (a.stamp : Int) = (b.stamp : Int) := by omega
    rw [if_neg h3]
    exact decide_eq_true (by omega)
  · have h3 : (a.stamp : Int) = (b.stamp : Int) := by omega
    have h4 : ¬ a.au = b.au := fun e => by
      rw [e, slt_irrefl] at h2
      cases h2
    rw [if_pos h3, if_neg h4]
    exact h2
theorem lt_trans {a b c : PyData} (h1 : dataLt a b = true) (h2 : dataLt b c = true) : dataLt a c = true := lex_trans (O := itemOrd) _ _ _ h1 h2
theorem lt_irr (a : PyData) : dataLt a a = false := lex_irrefl (O := itemOrd) _
theorem minD_least : ∀ (xs : List PyData) (x : PyData), (minD x xs ∈ x :: xs) ∧ (∀ y, y ∈ x :: xs → dataLt y (minD x xs) = false)
  | [], x => ⟨List.mem_cons_self, fun y hy => by
      rw [List.mem_singleton.mp hy]
      exact lt_irr x⟩
  | z :: r, x => by
    have e : minD x (z :: r) = minD (if dataLt z x then z else x) r := rfl
    obtain ⟨h1, h2⟩ := minD_least r (if dataLt z x then z else x)
    rw [e]
    have ha := h2 _ List.mem_cons_self
    by_cases hz : dataLt z x = true
    · rw [if_pos hz] at h1 h2 ha ⊢
      refine ⟨?_, fun y hy => ?_⟩
      · rcases List.mem_cons.mp h1 with q | q
        · rw [q]; exact List.mem_cons_of_mem _ List.mem_cons_self
        · exact List.mem_cons_of_mem _ (List.mem_cons_of_mem _ q)
      · rcases List.mem_cons.mp hy with rfl | hy
        · cases q : dataLt y (minD z r) with
          | false => rfl
          | true =>
            have := lt_trans hz q
            rw [ha] at this
            cases this
        · exact h2 y hy
    · rw [if_neg hz] at h1 h2 ha ⊢
      refine ⟨?_, fun y hy => ?_⟩
      · rcases List.mem_cons.mp h1 with q | q
        · rw [q]; exact List.mem_cons_self
        · exact List.mem_cons_of_mem _ (List.mem_cons_of_mem _ q)
      · rcases List.mem_cons.mp hy with rfl | hy
        · exact ha
        · rcases List.mem_cons.mp hy with rfl | hy
          · have hz' : dataLt y x = false := by
              cases q : dataLt y x with
              | false => rfl
              | true => exact absurd q hz
            exact KeyOrd.kle_trans (O := listOrd itemOrd) (a := keyToks (minD x r)) (b := keyToks x) (c := keyToks y) ha hz'
          · exact h2 y (List.mem_cons_of_mem _ hy)
/-- an item of the list of the ready: the triple's place, its ref's place, the letter -/
abbrev RT := Addr × Addr × Ltr
def TripAt (H : Hp) (b : RT) : Prop := H b.1 = some (.tup [.int b.2.2.stamp, .str b.2.2.au, .ref b.2.1]) ∧ H b.2.1 = some (.tup [.str b.2.2.au, .int b.2.2.num])
theorem TripAt.dp {K : PySem.W.Frag} {H : Hp} {b : RT} (h : TripAt H b) : Dp K H (.ref b.1) (rdD b.2.2) :=
  .tup (SqT.of h.1) (.cons (.int _) (.cons (.str _) (.cons (.tup (SqT.of h.2) (.cons (.str _) (.cons (.int _) .nil))) .nil)))
def rMinR (K : PySem.W.Frag) : List V → Hp → VK → Prop := fun xs H Q => ∃ (p : Addr) (bs : List RT), xs = [.ref p] ∧ SqL K H p (bs.map fun b => V.ref b.1) ∧ bs ≠ [] ∧ (∀ b ∈ bs, TripAt H b) ∧
  ∀ b ∈ bs, (∀ c ∈ bs, keyLt c.2.2 b.2.2 = false) → Q (.ref b.1) H
theorem rt_dps {K : PySem.W.Frag} {H : Hp} : ∀ {bs : List RT}, (∀ b ∈ bs, TripAt H b) → DpAll K H (bs.map fun b => V.ref b.1) (bs.map fun b => rdD b.2.2)
  | [], _ => .nil
  | b :: r, h => .cons (h b List.mem_cons_self).dp (rt_dps fun c hc => h c (List.mem_cons_of_mem _ hc))
theorem rt_alike (a b : Ltr) : alike (rdD a) (rdD b) = true := by simp [rdD, refD, alike, alikeAll]
theorem rt_depth : ∀ bs : List RT, PyData.depthAll (bs.map fun b => rdD b.2.2) ≤ 16
  | [] => by simp [PyData.depthAll]
  | b :: r => by
    have := rt_depth r
    simp only [List.map_cons, PyData.depthAll]
    have h2 : (rdD b.2.2).depth ≤ 16 := by simp [rdD, refD, PyData.depth, PyData.depthAll]
    omega
section
variable {X : Cx}
theorem cr_minR (hcalm : X.calm = true) (hu : X.A.units + 64 < cLine) : CallR X (.builtin "min") (rMinR X.K) := by
  intro pins s σ H xs us Q I r h
  obtain ⟨p, bs, rfl, hq, hne, ht, q⟩ := h
  obtain rfl := Vals.ref1 r
  obtain ⟨its, rv, pl, hz⟩ := I.list hq
  cases bs with
  | nil => exact absurd rfl hne
  | cons b0 bt =>
    obtain ⟨as, hr⟩ := Dp.readsAll I _ _ _ (rt_dps (K := X.K) ht) rv
    have ha : AlikeAll (rdD b0.2.2 :: bt.map fun b => rdD b.2.2) := by
      have e : (rdD b0.2.2 :: bt.map fun b => rdD b.2.2) = (b0 :: bt).map fun b => rdD b.2.2 := rfl
      rw [e]
      constructor
      · intro x hx y hy
        obtain ⟨b, _, rfl⟩ := List.mem_map.mp hx
        obtain ⟨c, _, rfl⟩ := List.mem_map.mp hy
        exact rt_alike _ _
      · intro x hx z
        obtain ⟨b, _, rfl⟩ := List.mem_map.mp hx
        cases z
    have hd := rt_depth (b0 :: bt)
    refine min_list_data (I.ok.hd hcalm) pl.isList hr ha (by
      have e : (rdD b0.2.2 :: bt.map fun b => rdD b.2.2) = (b0 :: bt).map fun b => rdD b.2.2 := rfl
      rw [e]
      omega) fun i v h' tk ws hv hrd hk => ?_
    have I1 : Inv X pins σ H { s with heap := h', toks := tk } := I.kept hk
    have hv' : its[i]? = some v := by simpa using hv
    obtain ⟨x, hx, rx⟩ : ∃ x, ((b0 :: bt).map fun b => V.ref b.1)[i]? = some x ∧ RelV x v := by
      obtain ⟨y, hy, ry⟩ := pair_r (F := RelV) rv hv'
      exact ⟨y, hy, ry⟩
    obtain ⟨b, hb, rfl⟩ := map_get hx
    have hbm := List.mem_of_getElem? hb
    obtain ⟨cs, hr2⟩ := Dp.reads I1 _ _ _ ((ht b hbm).dp (K := X.K)) rx
    obtain ⟨hmem, hleast⟩ := minD_least (bt.map fun b => rdD b.2.2) (rdD b0.2.2)
    have hm2 : minD (rdD b0.2.2) (bt.map fun b => rdD b.2.2) ∈ (b0 :: bt).map fun b => rdD b.2.2 := hmem
    obtain ⟨bm, hbm2, em⟩ := List.mem_map.mp hm2
    have eu : minD (rdD b0.2.2) (bt.map fun b => rdD b.2.2) = rdD b.2.2 := by
      refine alike_unique _ _ v ws cs ?_ hrd hr2
      rw [← em]
      exact rt_alike _ _
    rw [eu] at hleast
    refine ⟨.ref b.1, H, I1, rx, q b hbm fun c hc => ?_⟩
    cases e : keyLt c.2.2 b.2.2 with
    | false => rfl
    | true =>
      have h1 := rd_lt e
      have h2 := hleast (rdD c.2.2) (by
        have e : (rdD b0.2.2 :: bt.map fun b => rdD b.2.2) = (b0 :: bt).map fun b => rdD b.2.2 := rfl
        rw [e]
        exact List.mem_map.mpr ⟨c, hc, rfl⟩)
      rw [h1] at h2
      cases h2
end
end Lo
set_option Elab.async false
set_option maxRecDepth 100000
set_option maxHeartbeats 4000000
namespace Lo
open PySem PySem.Spec PyProof.Rows L2
open C8 (Cal Met Mak scC fnScope_by pe_c pe_mk pe_mt pe_mt0)
section
variable {X : Cx}
/-- xs == [] -/
def rEqNil (K : PySem.W.Frag) : R2 := fun x y H Q => ∃ (a b : Addr) (xs : List V), x = .ref a ∧ y = .ref b ∧ SqL K H a xs ∧ SqL K H b [] ∧ Q (.bl (decide (xs.length = 0))) H
theorem op_eqNil (hu : X.A.units + 64 < cLine) : OpR X (compareOp .Eq) (rEqNil X.K) := by
  intro pins s σ H x y v u Q I rx ry h
  obtain ⟨a, b, xs, rfl, rfl, ha, hb, q⟩ := h
  obtain rfl : v = Value.ref a := rx
  obtain rfl : u = Value.ref b := ry
  obtain ⟨its, r1, p1, _⟩ := I.list ha
  obtain ⟨jts, r2, p2, _⟩ := I.list hb
  cases r2
  have hl := r1.length
  by_cases e : xs.length = 0
  · rw [decide_eq_true e] at q
    have hi : its.length = 0 := by rw [← hl]; exact e
    have hz0 : its.toArray.size = 0 := by rw [List.size_toArray, hi]
    have hz : its.toArray.size = ([] : List Value).toArray.size := by rw [hz0]; rfl
    have he : SeqAt.RcAt X.A s (.ref a) (.ref b) ((List.range its.toArray.size).all fun _ => true) := SeqAt.RcAt.lists p1.isList p2.isList hz (by omega) fun j h1 _ => by omega
    rw [hz0] at he
    exact he _ _ _ _ ⟨.bl true, H, I, rfl, q⟩
  · rw [decide_eq_false e] at q
    exact SeqAt.RcAt.lists_lengths p1.isList p2.isList (by simp; intro z; rw [z] at hl; exact e hl) (by omega) _ _ _ _ ⟨.bl false, H, I, rfl, q⟩
end
section
variable {P : Program} {w : World} {K : PySem.W.Frag} {mg : Str → Option Value} {base : Heap} {f : Addr}
theorem ModAt.setw {H : Hp} {d : Addr} {S : SA} {g : Ltr} {o w w' : List Ltr} {kvs' : List (List Key × V)} (M : ModAt K H d S g o w) (hk : WaitK K H kvs' w') : ModAt K (upd H S.dw (.dT kvs')) d S g o w' := by
  obtain ⟨kvs, w1, w2⟩ := M.st.wait
  refine ⟨?_, M.st.setw hk, M.nd⟩
  rw [upd_ne (ne_of M.tab w1 (by intro z; cases z))]
  exact M.tab
theorem step_wM {H : Hp} {d : Addr} {S : SA} {o : List Ltr} {u : HO} : Step (modOwn d S o) (modOwn d S o) H (upd H S.dw u) := ⟨fun b v e n => by rw [upd_ne (fun z => n (.inr (.inr (.inr (.inl z)))))]; exact e, fun b q => .inl q⟩
def spMHold (K : PySem.W.Frag) : Sp := fun vs H Q _ => ∃ (d : Addr) (S : SA) (g : Ltr) (G o w : List Ltr), vs = [.ref d] ∧ ModAt K H d S g o w ∧ GoodR g G o w ∧ g.mems.length ≤ 500 ∧ G.length < 64 ∧
  (ready g o w = none → ∀ H' : Hp, ModAt K H' d S g o (w.filter (nvoid g o)) → Step (modOwn d S o) (modOwn d S o) H H' → Q .non H') ∧
  (∀ l, ready g o w = some l → ∀ (S' : SA) (H' : Hp) (q : Addr), ModAt K H' d S' g (o ++ [l]) (dropR w l) → Step (modOwn d S o) (modOwn d S' (o ++ [l])) H H' → RefAt H' (q, wk l) → Q (.ref q) H')
theorem ok_mhold (S : Src K "_law_hold_next" "_law_hold_next" s_law_hold_next f) (T : Txt K mg) (hm : mg "_law_hold_next" = some (.ref f)) (mco : Cal P w K mg base 1 "_law_counts" (spMCounts K) []) (mro : Cal P w K mg base 4 "_law_roll" (spLRoll K) []) (mca : Cal P w K mg base 2 "_law_can" (spMCan K) [])
    (mvo : Cal P w K mg base 1 "_law_void" (spMVoid K) []) : Cal P w K mg base 5 "_law_hold_next" (spMHold K) [] := by
  refine cal_of S hm sc_law_hold_next bi_law_hold_next (fun vs H Q E h => ?_) (fun cdv A outer s H vs Q E hr h => ?_)
  · obtain ⟨d, S, g, G, o, w, rfl, _⟩ := h
    rfl
  · obtain ⟨d, S, g, G, o, w, rfl, M, gd, hms, hG, kn, ks⟩ := h
    have hu := hu_of hr
    have nd := (fnScope_by sc_law_hold_next).nd
    refine ⟨_, (pss_cons (ps_set (i := 1) nd rfl (.inl rfl) (pe_c mco hr (by decide) (by rfl) (pa_cons (pv 0) pa_nil))) (pss_cons (ps_set (i := 2) nd rfl (.inl rfl) (pe_c mro hr (by decide) (by rfl) (pa_cons (pv 0) (pa_cons (pv 1) pa_nil)))) (pss_cons (ps_set (i := 3) nd rfl (.inl rfl) (pe_dget hu (pv 0) pe_str (fun _ _ => rfl))) (pss_cons (ps_set (i := 4) nd rfl (.inl rfl) (pe_lst pa_nil)) (pss_cons (ps_lock (ps_for PassesOwn.never rfl (pi_keys (pv 3)) (pg_name (i := 5) nd rfl (.inl rfl))
        (pss_one (ps_if (pt_val (pe_c mca hr (by decide) (by rfl) (pa_cons (pv 0) (pa_cons (pv 2) (pa_cons (pv 1) (pa_cons (pe_dget hu (pv 3) (pv 5) (fun _ _ => rfl)) pa_nil))))))
          (pss_one (ps_expr (pe_bm PySem.F.plainAttrs_list PySem.F.slot_list_append PySem.F.type_list_append mt_append (pv 4) (pa_cons (pe_tup (pa_cons (pe_fld (pe_dget hu (pv 3) (pv 5) (fun _ _ => rfl)) rfl) (pa_cons (pe_fld (pe_dget hu (pv 3) (pv 5) (fun _ _ => rfl)) rfl) (pa_cons (pv 5) pa_nil)))) pa_nil)))) pss_nil)))) (pss_cons (ps_if (pt_cmpR (op_eqNil hr.units) (pv 4) (pe_lst pa_nil) (nomark _))
        (pss_cons (ps_for PassesOwn.never rfl (pi_list (pe_callTy (call_list_dT rfl) (by rfl) T.list (by decide +kernel) (pa_cons (pv 3) pa_nil))) (pg_name (i := 5) nd rfl (.inl rfl))
          (pss_one (ps_if (pt_val (pe_c mvo hr (by decide) (by rfl) (pa_cons (pv 2) (pa_cons (pe_dget hu (pv 3) (pv 5) (fun _ _ => rfl)) pa_nil)))) (pss_one (ps_expr (pe_dpopT hu (pv 3) (pv 5) ⟨rfl, rfl, rfl, rfl⟩))) pss_nil))) (pss_one (ps_ret pe_non))) pss_nil) (pss_cons (ps_set (i := 5) nd rfl (.inl rfl) (pe_ix ix_tup (pe_callB (cr_minR rfl hr.units) (by rfl) T.min (by decide +kernel) (pa_cons (pv 4) pa_nil)) pe_int (fun _ _ => rfl))) (pss_cons (ps_set (i := 6) nd rfl (.inl rfl) (pe_dpopT hu (pv 3) (pv 5) ⟨rfl, rfl, rfl, rfl⟩)) (pss_cons (ps_if (pt_cmp (pc_dnotin hu (pe_fld (pv 6) rfl) (pe_dget hu (pv 0) pe_str (fun _ _ => rfl)))) (pss_one (ps_dput hu (pe_dget hu (pv 0) pe_str (fun _ _ => rfl)) (pe_fld (pv 6) rfl) (pe_lst pa_nil) rfl)) pss_nil) (pss_cons (ps_expr (pe_bm PySem.F.plainAttrs_list PySem.F.slot_list_append PySem.F.type_list_append mt_append (pe_dget hu (pe_dget hu (pv 0) pe_str (fun _ _ => rfl)) (pe_fld (pv 6) rfl) (fun _ _ => rfl)) (pa_cons (pv 6) pa_nil))) (pss_cons (ps_expr (pe_bm PySem.F.plainAttrs_list PySem.F.slot_list_append PySem.F.type_list_append mt_append (pe_dget hu (pv 0) pe_str (fun _ _ => rfl)) (pa_cons (pv 6) pa_nil))) (pss_one (ps_ret (pv 5)))))))))))))), ?_⟩
    have holen := gd.olen
    have hwlen := gd.wlen
    refine ⟨_, rfl, d, S, g, o, w, rfl, M, by omega, fun c H1 hc s1 hc1 => ?_⟩
    refine ⟨_, rfl, _, rfl, d, c, S, g, o, w, rfl, M.same s1, hc1, gd.ord, hms, by omega, fun p H2 hp s2 MR2 => ?_⟩
    have s12 := s1.trans s2
    have M2 := M.same s12
    refine ⟨_, rfl, d, _, rfl, M2.wa, ?_⟩
    refine ⟨(by show 0 ≤ sizeLine; decide), fun rl hrl => ?_⟩
    have s3 : Same H2 (upd H2 rl (.lst [])) := same_new hrl
    have l3 : upd H2 rl (.lst []) rl = some (.lst []) := upd_same
    generalize upd H2 rl (.lst []) = H3 at s3 l3
    have s13 := s12.trans s3
    have M3 := M.same s13
    have hrl0 := s12.free hrl
    have MR3 := MR2.same s3
    have hc3 := s3 _ _ (s2 _ _ hc1)
    obtain ⟨kvs, w1, w2⟩ := M3.st.wait
    have nrw : S.dw ≠ rl := ne_of w1 l3 (by intro z; cases z)
    refine ⟨S.dw, _, w1, trivial, fun od => ?_⟩
    have kL : ∀ b u, H3 b = some u → b ≠ S.dw → upd H3 S.dw (.frz od (.dT kvs)) b = some u := kpu
    have fL : upd H3 S.dw (.frz od (.dT kvs)) S.dw = some (.frz od (.dT kvs)) := upd_same
    have lL := kL _ _ l3 nrw.symm
    -- unlocking gives the heap back
    have back : ∀ H5 : Hp, (∀ b u, upd H3 S.dw (.frz od (.dT kvs)) b = some u → b ≠ rl → H5 b = some u) → ∀ b u, H3 b = some u → b ≠ rl → upd H5 S.dw (.dT kvs) b = some u := fun H5 k5 b u e n => by
      by_cases hb : b = S.dw
      · rw [hb, upd_same]
        rw [hb, w1] at e
        exact e
      · rw [upd_ne hb]
        exact k5 _ _ (kL _ _ e hb) n
    have imL : ∀ b u, H3 b = some u → isMut K u = false → upd H3 S.dw (.frz od (.dT kvs)) b = some u := fun b u e q => kL _ _ e fun z => by
      rw [z, w1] at e
      cases e
      cases q
    generalize hHL : upd H3 S.dw (.frz od (.dT kvs)) = HL at kL fL lL back imL
    have lw := len_wait w2
    refine ⟨_, rfl, S.dw, od, rfl, .inr ⟨kvs, fL, ?_⟩⟩
    refine for_by kvs.length (fun i σ H5 => ∃ (u : Option V) (bs : List RT), σ = [some (.ref d), some (.ref c), some (.ref p), some (.ref S.dw), some (.ref rl), u, none] ∧ (∀ b v, HL b = some v → b ≠ rl → H5 b = some v) ∧ H5 rl = some (.lst (bs.map fun b => V.ref b.1)) ∧ (∀ b ∈ bs, TripAt H5 b) ∧ bs.map (·.2.2) = (w.take i).filter (can (rollS g o) o))
      ⟨none, [], rfl, fun b v e _ => e, lL, fun _ h => (by cases h), rfl⟩ ?_ ?_ ?_
    · rintro i σ H5 hi ⟨u, bs, rfl, k5, l5, t5, e5⟩
      exact ⟨k5 _ _ fL nrw, hi⟩
    · rintro i σ H5 hi ⟨u, bs, rfl, k5, l5, t5, e5⟩ x H' ⟨eH, key, v, q, hkv, rfl, hq⟩
      obtain rfl : H5 = H' := eH.symm
      obtain ⟨l, hl, ek, a, ev, hla⟩ := pair_l w2 hkv
      have ek' : key = tk l := ek
      have ev' : v = .ref a := ev
      subst ek'
      subst ev'
      have im5 : Im K H3 H5 := fun b u e q => by
        refine k5 _ _ (imL _ _ e q) fun z => ?_
        rw [z, l3] at e
        cases e
        cases q
      have hla5 := hla.im im5
      obtain ⟨dy, ts, tb, a1, _⟩ := id hla5
      have dg : ∀ H6 : Hp, Same H5 H6 → DGet H6 S.dw (.ref q) (some (.ref a)) := fun H6 s6 =>
        .inr ⟨kvs, tk l, q, .inr ⟨od, s6 _ _ (k5 _ _ fL nrw)⟩, rfl, s6 _ _ hq, by
          have hv := val_wait l.au l.num w2
          rw [findW_at gd (List.mem_of_getElem? hl)] at hv
          obtain ⟨a', ha', _⟩ := hv
          have e1 : valV kvs (tk l) = some (.ref a') := ha'
          have nd2 : ∀ {ks : List (List Key × V)} {ws : List Ltr}, WaitK K H3 ks ws → KeysNd ws → ∀ {j : Nat} {kv : List Key × V}, ks[j]? = some kv → valV ks kv.1 = some kv.2 := by
            intro ks ws hws
            induction hws with
            | nil => intro _ j kv h; simp at h
            | @cons kv0 l0 ks ws r _ ih =>
              intro hnd j kv h
              unfold KeysNd at hnd
              rw [List.map_cons, List.nodup_cons] at hnd
              cases j with
              | zero =>
                simp at h
                subst h
                exact valV_pos rfl
              | succ j =>
                have h' : ks[j]? = some kv := by simpa using h
                rw [valV_neg]
                · exact ih hnd.2 h'
                · intro z
                  obtain ⟨l1, hl1, r1, _⟩ := pair_l (F := fun (kv : List Key × V) (l : Ltr) => kv.1 = tk l ∧ ∃ a, kv.2 = .ref a ∧ LetterAt (cL K) H3 a l) (by assumption) h'
                  refine hnd.1 (List.mem_map.mpr ⟨l1, List.mem_of_getElem? hl1, ?_⟩)
                  have z2 : tk l0 = tk l1 := by rw [← r.1, ← r1]; exact z
                  unfold tk at z2
                  injection z2 with z3 z4
                  injection z4 with z5 _
                  exact Prod.ext (Sum.inr.inj z3).symm (by have := Sum.inl.inj z5; show l1.num = l0.num; omega)
          exact (nd2 w2 gd.keysNd hkv).symm⟩
      have MR5 : MRollAt H5 p (rollS g o) := by
        obtain ⟨ca, cu, kc, m1, m2, m3, m4⟩ := MR2
        have nn : ∀ b u, H2 b = some u → b ≠ S.dw → H5 b = some u := fun b u e n => k5 _ _ (kL _ _ (s3 _ _ e) n) (ne_of_none e hrl)
        have w1' := M2.st.wait
        obtain ⟨kv', w1', _⟩ := w1'
        exact ⟨ca, cu, kc, nn _ _ m1 (ne_of m1 w1' (by intro z; cases z)), nn _ _ m2 (ne_of m2 w1' (by intro z; cases z)), m3, nn _ _ m4 (ne_of m4 w1' (by intro z; cases z))⟩
      have hc5 : H5 c = some (.dK (limK (cntL o))) := k5 _ _ (kL _ _ hc3 (ne_of hc3 w1 (by intro z; cases z))) (ne_of hc3 l3 (by intro z; cases z))
      refine ⟨_, rfl, _, rfl, _, rfl, _, rfl, _, rfl, S.dw, _, rfl, dg _ (.refl _), d, p, c, a, rollS g o, o, l, rfl, MR5, hc5, hla5, _, rfl, ?_⟩
      have hfil := take_succ_filter (p := can (rollS g o) o) hl
      cases hcan : can (rollS g o) o l with
      | false =>
        refine iteF ?_
        exact ⟨_, bs, rfl, k5, l5, t5, by rw [hfil, hcan, e5]; simp⟩
      | true =>
        refine iteT ?_
        have lbs : bs.length ≤ w.length := by
          have := congrArg List.length e5
          rw [List.length_map] at this
          have h6 : ((w.take i).filter (can (rollS g o) o)).length ≤ (w.take i).length := List.length_filter_le _ _
          rw [List.length_take] at h6
          omega
        refine ⟨_, rfl, .inl ⟨rfl, _, SqL.of l5⟩, _, rfl, _, rfl, S.dw, _, rfl, dg _ (.refl _), a, _, dy, _, _, rfl, a1, T.kL, T.nSt, lf_st _ _ _, _, rfl, _, rfl, S.dw, _, rfl, dg _ (.refl _), a, _, dy, _, _, rfl, a1, T.kL, T.nAu, lf_au _ _ _, _, rfl, (by show 3 ≤ sizeLine; decide), fun t ht => ?_⟩
        have s6 := same_new (o := .tup [.int l.stamp, .str l.au, .ref q]) ht
        have t6 : upd H5 t (.tup [.int l.stamp, .str l.au, .ref q]) t = some (.tup [.int l.stamp, .str l.au, .ref q]) := upd_same
        generalize upd H5 t (.tup [.int l.stamp, .str l.au, .ref q]) = H6 at s6 t6
        have l6 := s6 _ _ l5
        refine ⟨rl, _, _, rfl, rfl, l6, by rw [List.length_map, sizeLine_eq]; omega, ?_⟩
        have e9 : (bs.map fun b => V.ref b.1) ++ [V.ref t] = (bs ++ [((t, q, l) : RT)]).map fun b => V.ref b.1 := by rw [List.map_append]; rfl
        rw [e9]
        have k7 : ∀ b u, H6 b = some u → b ≠ rl → upd H6 rl (.lst ((bs ++ [((t, q, l) : RT)]).map fun b => V.ref b.1)) b = some u := kpu
        have tr7 : ∀ b, TripAt H6 b → TripAt (upd H6 rl (.lst ((bs ++ [((t, q, l) : RT)]).map fun b => V.ref b.1))) b := fun b hb => ⟨k7 _ _ hb.1 (ne_of hb.1 l6 (by intro z; cases z)), k7 _ _ hb.2 (ne_of hb.2 l6 (by intro z; cases z))⟩
        refine ⟨_, bs ++ [(t, q, l)], rfl, fun b v e n => k7 _ _ (s6 _ _ (k5 _ _ e n)) n, upd_same, fun b hb => ?_, by rw [hfil, hcan, List.map_append, e5]; rfl⟩
        rcases List.mem_append.mp hb with z | z
        · exact tr7 b ⟨s6 _ _ (t5 b z).1, s6 _ _ (t5 b z).2⟩
        · rw [List.mem_singleton.mp z]
          exact tr7 (t, q, l) ⟨t6, s6 _ _ hq⟩
    · rintro σ H5 ⟨u, bs, rfl, k5, l5, t5, e5⟩
      rw [lw, List.take_length] at e5
      refine ⟨⟨k5 _ _ fL nrw, Nat.le_refl _⟩, k5 _ _ fL nrw, ?_⟩
      have b6 := back H5 k5
      have l6 : upd H5 S.dw (.dT kvs) rl = some (.lst (bs.map fun b => V.ref b.1)) := by rw [upd_ne nrw.symm]; exact l5
      have t6 : ∀ b ∈ bs, TripAt (upd H5 S.dw (.dT kvs)) b := fun b hb => by
        have f5 := k5 _ _ fL nrw
        exact ⟨by rw [upd_ne (ne_of (t5 b hb).1 f5 (by intro z; cases z))]; exact (t5 b hb).1, by rw [upd_ne (ne_of (t5 b hb).2 f5 (by intro z; cases z))]; exact (t5 b hb).2⟩
      generalize upd H5 S.dw (.dT kvs) = H6 at b6 l6 t6
      have s16 : Same H H6 := fun b u e => b6 _ _ (s13 _ _ e) (ne_of_none e hrl0)
      have M6 := M.same s16
      have MR6 : MRollAt H6 p (rollS g o) := by
        obtain ⟨ca, cu, kc, m1, m2, m3, m4⟩ := MR2
        have nn : ∀ b u, H2 b = some u → H6 b = some u := fun b u e => b6 _ _ (s3 _ _ e) (ne_of_none e hrl)
        exact ⟨ca, cu, kc, nn _ _ m1, nn _ _ m2, m3, nn _ _ m4⟩
      refine ⟨_, rfl, (by show 0 ≤ sizeLine; decide), fun e hel => ?_⟩
      have s7 := same_new (o := .lst []) hel
      have e7 : upd H6 e (.lst []) e = some (.lst []) := upd_same
      generalize upd H6 e (.lst []) = H7 at s7 e7
      have s17 := s16.trans s7
      have M7 := M.same s17
      have MR7 := MR6.same s7
      refine ⟨rl, e, _, rfl, rfl, SqL.of (s7 _ _ l6), SqL.of e7, _, rfl, ?_⟩
      rw [List.length_map]
      by_cases hb0 : bs.length = 0
      · rw [decide_eq_true hb0]
        have hbn : bs = [] := List.length_eq_zero_iff.mp hb0
        rw [hbn] at e5
        have hrd : ready g o w = none := ready_empty e5.symm
        have kn' := kn hrd
        refine iteT ?_
        obtain ⟨kv7, v71, v72⟩ := M7.st.wait
        refine ⟨_, rfl, S.dw, kv7, rfl, .inl v71, fun l8 bs8 hl8 hbs8 => ?_⟩
        have hps := key_at v72 hbs8
        have s8 : Same H7 (upd H7 l8 (.lst (bs8.map V.ref))) := same_new hl8
        have l81 : upd H7 l8 (.lst (bs8.map V.ref)) l8 = some (.lst (bs8.map V.ref)) := upd_same
        generalize upd H7 l8 (.lst (bs8.map V.ref)) = H8 at s8 l81
        have s18 := s17.trans s8
        have M8 := M.same s18
        have MR8 := MR7.same s8
        have exM : ∀ b, modOwn d S o b → ∃ u, H b = some u ∧ isMut K u = true := fun b q => M.ex q
        have nown : ∀ b, H b = none → ¬ modOwn d S o b := fun b e q => by
          obtain ⟨u, u1, _⟩ := M.ex q
          rw [e] at u1
          cases u1
        have hl80 := s17.free hl8
        have hp0 := s1.free hp
        refine ⟨l8, rfl, ⟨_, SqL.of l81⟩, for_list (K := K) (a := l8) (xs := bs8.map V.ref) (fun i σ H9 => ∃ u : Option V, σ = [some (.ref d), some (.ref c), some (.ref p), some (.ref S.dw), some (.ref rl), u, none] ∧ ModAt K H9 d S g o (wdrop (nvoid g o) w i) ∧ Step (modOwn d S o) (modOwn d S o) H H9 ∧ (∀ b v, H8 b = some v → b ≠ S.dw → H9 b = some v))
          ⟨_, rfl, M8, .same s18, fun b v e _ => e⟩ ?_ ?_ ?_⟩
        · rintro i σ H9 hi ⟨u, rfl, M9, st, k9⟩
          have w8 := M8.st.wait
          obtain ⟨kv8, w8, _⟩ := w8
          exact SqL.of (k9 _ _ l81 (ne_of l81 w8 (by intro z; cases z)))
        · rintro i y σ H9 hi ⟨u, rfl, M9, st, k9⟩
          obtain ⟨b, hb, rfl⟩ := map_get hi
          obtain ⟨x, hx, hbx⟩ := pair_l hps hb
          obtain ⟨kv8, w8, w8'⟩ := M8.st.wait
          have hb9 : H9 b = some (.tup [.str x.au, .int x.num]) := k9 _ _ (s8 _ _ hbx) (ne_of (s8 _ _ hbx) w8 (by intro z; cases z))
          obtain ⟨kv9, v91, v92⟩ := M9.st.wait
          have hv := val_wait x.au x.num v92
          rw [findW_mem (gd.keysNd.sub (wdrop_sub _ _ _)) (wdrop_mem hx)] at hv
          obtain ⟨a, hv1, hla⟩ := hv
          have dg := DGet.t (k := tk x) v91 hb9
          have e1 : valV kv9 (tk x) = some (.ref a) := hv1
          rw [e1] at dg
          have MR9 : MRollAt H9 p (rollS g o) := by
            obtain ⟨ca, cu, kc, m1, m2, m3, m4⟩ := MR8
            exact ⟨ca, cu, kc, k9 _ _ m1 (ne_of m1 w8 (by intro z; cases z)), k9 _ _ m2 (ne_of m2 w8 (by intro z; cases z)), m3, k9 _ _ m4 (ne_of m4 w8 (by intro z; cases z))⟩
          refine ⟨_, rfl, _, rfl, _, rfl, S.dw, _, rfl, dg, p, a, rollS g o, x, rfl, MR9, hla, _, rfl, ?_⟩
          cases hc9 : voidR (rollS g o) x with
          | false =>
            refine iteF ?_
            exact ⟨_, rfl, by rw [wdrop_keep hx (by unfold nvoid; rw [hc9]; rfl)]; exact M9, st, k9⟩
          | true =>
            refine iteT ?_
            refine ⟨_, rfl, S.dw, rfl, .inr ⟨_, .inl v91⟩, _, rfl, kv9, tk x, b, _, v91, rfl, hb9, e1, ?_⟩
            refine ⟨_, rfl, ?_, st.trans step_wM, fun b v e n => by rw [upd_ne n]; exact k9 _ _ e n⟩
            have := M9.setw (waitK_drop v92 x)
            rw [wdrop_drop gd.keysNd hx (by unfold nvoid; rw [hc9]; rfl)] at this
            exact this
        · rintro σ H9 ⟨u, rfl, M9, st, k9⟩
          have e : (bs8.map V.ref).length = w.length := by rw [List.length_map, pair_len hps]
          rw [e, wdrop_all] at M9
          exact kn' H9 M9 st
      · rw [decide_eq_false hb0]
        refine iteF ?_
        have hbn : bs ≠ [] := fun z => hb0 (by rw [z]; rfl)
        have t7 : ∀ b ∈ bs, TripAt H7 b := fun b hb => ⟨s7 _ _ (t6 b hb).1, s7 _ _ (t6 b hb).2⟩
        refine ⟨_, rfl, rl, bs, rfl, SqL.of (s7 _ _ l6), hbn, t7, fun b hb hleast => ?_⟩
        obtain ⟨tp, tq, l⟩ := b
        obtain ⟨t71, t72⟩ := t7 _ hb
        have hlm : l ∈ w.filter (can (rollS g o) o) := by rw [← e5]; exact List.mem_map.mpr ⟨_, hb, rfl⟩
        obtain ⟨hlw, hcan⟩ := List.mem_filter.mp hlm
        have hrd : ready g o w = some l := ready_uniq gd hlw hcan fun y hy hcy => by
          have hym : y ∈ bs.map (·.2.2) := by rw [e5]; exact List.mem_filter.mpr ⟨hy, hcy⟩
          obtain ⟨c, hc, rfl⟩ := List.mem_map.mp hym
          exact hleast c hc
        have ks' := ks l hrd
        refine ⟨tp, _, _, _, rfl, rfl, SqT.of t71, atI2, ?_⟩
        -- pop
        obtain ⟨kv7, v71, v72⟩ := M7.st.wait
        have hv := val_wait l.au l.num v72
        rw [findW_at gd hlw] at hv
        obtain ⟨a, hv1, hla⟩ := hv
        refine ⟨_, rfl, S.dw, rfl, .inr ⟨_, .inl v71⟩, _, rfl, kv7, tk l, tq, _, v71, rfl, t72, hv1, ?_⟩
        have M8 := M7.setw (waitK_drop v72 l)
        have st8 : Step (modOwn d S o) (modOwn d S o) H (upd H7 S.dw (.dT (dropK kv7 (tk l)))) := (Step.same s17).trans step_wM
        have im8 : Im K H7 (upd H7 S.dw (.dT (dropK kv7 (tk l)))) := .set v71 rfl
        generalize upd H7 S.dw (.dT (dropK kv7 (tk l))) = H8 at M8 st8 im8
        have hla8 := hla.im im8
        have tq8 := im8 _ _ t72 rfl
        obtain ⟨dy, ts, tb, a1, _⟩ := id hla8
        obtain ⟨bs8, o1, o2⟩ := M8.st.ord
        have hal := auths_len o
        have lbo : bs8.length = o.length := pair_len o2
        have hd8 := M8.tab
        have dno : ¬ S.own o d := by
          rintro (q | q | q | ⟨x, hx, q⟩)
          · exact M8.nd q
          · exact M8.nlo q
          · obtain ⟨kv8, w8, _⟩ := M8.st.wait
            exact ne_of hd8 w8 (by intro z; cases z) q
          · exact M8.nla x hx q
        have fin : ∀ (S' : SA) (H9 : Hp), S'.dr = S.dr → S'.lo = S.lo → S'.dw = S.dw → Held K H8 S o H9 S' l (dropR w l) → Q (.ref tq) H9 := fun S' H9 e1 e2 e3 HD => by
          have st89 : Step (modOwn d S o) (modOwn d S' (o ++ [l])) H8 H9 := ⟨fun b u e n => HD.kp b u e fun z => n (.inr z), fun b q => by
            rcases q with q | q
            · exact .inl (.inl q)
            · rcases HD.ow b q with z | z
              · exact .inl (.inr z)
              · exact .inr z⟩
          have im9 : Im K H8 H9 := st89.im fun b q => M8.ex q
          refine ks' S' H9 tq ⟨?_, HD.st, by rw [e1]; exact M8.nd⟩ (st8.trans st89) (im9 _ _ tq8 rfl)
          have : mdK g.au S' = mdK g.au S := by unfold mdK; rw [e1, e2, e3]
          rw [this]
          exact HD.kp _ _ hd8 dno
        have dle : ∀ H9 : Hp, H9 d = some (.dK (mdK g.au S)) → DGet H9 d (.str "letters") (some (.ref S.dr)) := fun H9 e => DGet.k (k := Sum.inr "letters") e
        have dor : ∀ H9 : Hp, H9 d = some (.dK (mdK g.au S)) → DGet H9 d (.str "order") (some (.ref S.lo)) := fun H9 e => DGet.k (k := Sum.inr "order") e
        have hget := row_get M8.st.rows l.au
        by_cases hx : l.au ∈ auths o
        · rw [if_pos hx] at hget
          obtain ⟨as, r1, r2⟩ := M8.st.rows.row l.au hx
          have HD := hold_old M8.st hla8 hx r1 r2 o1 o2
          have las : as.length ≤ 64 := by
            have h5 := pair_len r2
            have h6 : (rowOf o l.au).length ≤ o.length := List.length_filter_le _ _
            omega
          have ndla : d ≠ S.la l.au := M8.nla _ hx
          have nlola : S.lo ≠ S.la l.au := (M8.st.nlo _ hx).symm
          refine ⟨_, rfl, a, _, dy, _, _, rfl, a1, T.kL, T.nAu, lf_au _ _ _, _, rfl, d, _, rfl, M8.le, S.dr, _, rfl, hget, _, rfl, ?_⟩
          refine iteF ?_
          refine ⟨_, rfl, d, _, rfl, M8.le, _, rfl, a, _, dy, _, _, rfl, a1, T.kL, T.nAu, lf_au _ _ _, S.dr, _, rfl, hget, .inl ⟨rfl, _, SqL.of r1⟩, _, rfl, S.la l.au, _, _, rfl, rfl, r1, by rw [List.length_map, sizeLine_eq]; omega, ?_⟩
          have o10 : upd H8 (S.la l.au) (.lst (as.map V.ref ++ [.ref a])) S.lo = some (.lst (bs8.map V.ref)) := by rw [upd_ne nlola]; exact o1
          refine ⟨_, rfl, d, _, rfl, dor _ (by rw [upd_ne ndla]; exact hd8), .inl ⟨rfl, _, SqL.of o10⟩, _, rfl, S.lo, _, _, rfl, rfl, o10, by rw [List.length_map, sizeLine_eq]; omega, ?_⟩
          exact ⟨_, rfl, fin S _ rfl rfl rfl HD⟩
        · rw [if_neg hx] at hget
          refine ⟨_, rfl, a, _, dy, _, _, rfl, a1, T.kL, T.nAu, lf_au _ _ _, _, rfl, d, _, rfl, M8.le, S.dr, _, rfl, hget, _, rfl, ?_⟩
          refine iteT ⟨(by show 0 ≤ sizeLine; decide), fun p9 hp9 => ?_⟩
          have HD := hold_new (u0 := .lst []) M8.st hla8 hx hp9 o1 o2
          have ndr : S.dr ≠ p9 := ne_of_none M8.st.rows.tab hp9
          have ndp : d ≠ p9 := ne_of_none hd8 hp9
          have nap : a ≠ p9 := ne_of_none a1 hp9
          have nlp : S.lo ≠ p9 := ne_of_none o1 hp9
          have nad : a ≠ S.dr := ne_of a1 M8.st.rows.tab (by intro z; cases z)
          have nld : S.lo ≠ S.dr := ne_of o1 M8.st.rows.tab (by intro z; cases z)
          refine ⟨_, rfl, d, _, rfl, dle _ (by rw [upd_ne ndp]; exact hd8), _, rfl, a, _, dy, _, _, rfl, by rw [upd_ne nap]; exact a1, T.kL, T.nAu, lf_au _ _ _, S.dr, _, rfl, DPut.k (k := Sum.inr l.au) (by rw [upd_ne ndr]; exact M8.st.rows.tab) (by rw [rowK, List.length_map, sizeLine_eq]; omega), ?_⟩
          have d10 : upd (upd H8 p9 (.lst [])) S.dr (.dK (putK (rowK S.la (auths o)) (Sum.inr l.au : Key) (.ref p9))) d = some (.dK (mdK g.au S)) := by rw [upd_ne M8.nd, upd_ne ndp]; exact hd8
          have a10 : upd (upd H8 p9 (.lst [])) S.dr (.dK (putK (rowK S.la (auths o)) (Sum.inr l.au : Key) (.ref p9))) a = some (.ins (cL K) dy (lf l ts tb)) := by rw [upd_ne nad, upd_ne nap]; exact a1
          have p10 : upd (upd H8 p9 (.lst [])) S.dr (.dK (putK (rowK S.la (auths o)) (Sum.inr l.au : Key) (.ref p9))) p9 = some (.lst []) := by rw [upd_ne ndr.symm]; exact upd_same
          have g10 : DGet (upd (upd H8 p9 (.lst [])) S.dr (.dK (putK (rowK S.la (auths o)) (Sum.inr l.au : Key) (.ref p9)))) S.dr (.str l.au) (some (.ref p9)) := by
            have := DGet.k (H := upd (upd H8 p9 (.lst [])) S.dr (.dK (putK (rowK S.la (auths o)) (Sum.inr l.au : Key) (.ref p9)))) (a := S.dr) (k := Sum.inr l.au) upd_same
            rw [valV_put, if_pos rfl] at this
            exact this
          have o10 : upd (upd H8 p9 (.lst [])) S.dr (.dK (putK (rowK S.la (auths o)) (Sum.inr l.au : Key) (.ref p9))) S.lo = some (.lst (bs8.map V.ref)) := by rw [upd_ne nld, upd_ne nlp]; exact o1
          refine ⟨_, rfl, d, _, rfl, dle _ d10, _, rfl, a, _, dy, _, _, rfl, a10, T.kL, T.nAu, lf_au _ _ _, S.dr, _, rfl, g10, .inl ⟨rfl, _, SqL.of p10⟩, _, rfl, p9, _, _, rfl, rfl, p10, (by show 0 < sizeLine; decide), ?_⟩
          have o11 : upd (upd (upd H8 p9 (.lst [])) S.dr (.dK (putK (rowK S.la (auths o)) (Sum.inr l.au : Key) (.ref p9)))) p9 (.lst (([] : List V) ++ [.ref a])) S.lo = some (.lst (bs8.map V.ref)) := by rw [upd_ne nlp]; exact o10
          refine ⟨_, rfl, d, _, rfl, dor _ (by rw [upd_ne ndp]; exact d10), .inl ⟨rfl, _, SqL.of o11⟩, _, rfl, S.lo, _, _, rfl, rfl, o11, by rw [List.length_map, sizeLine_eq]; omega, ?_⟩
          exact ⟨_, rfl, fin ⟨S.dr, S.lo, S.dw, putLa S.la l.au p9⟩ _ rfl rfl rfl HD⟩
end
end Lo
set_option Elab.async false
set_option maxRecDepth 100000
set_option maxHeartbeats 4000000
namespace Lo
open PySem PySem.Spec PyProof.Rows L2
open C8 (Cal Met Mak scC fnScope_by pe_c pe_mk pe_mt pe_mt0)
section
variable {P : Program} {w : World} {K : PySem.W.Frag} {mg : Str → Option Value} {base : Heap} {f : Addr}
def spMTake (K : PySem.W.Frag) : Sp := fun vs H Q _ => ∃ (d a : Addr) (S : SA) (g : Ltr) (G o w : List Ltr) (l : Ltr), vs = [.ref d, .ref a] ∧ ModAt K H d S g o w ∧ LetterAt (cL K) H a l ∧ Good g G o w ∧ l ∈ G ∧ g.mems.length ≤ 500 ∧ G.length < 64 ∧
  ∀ (S' : SA) (H' : Hp) (p : Addr), ModAt K H' d S' g (takeS g o w l).2.1 (takeS g o w l).2.2 → Step (modOwn d S o) (modOwn d S' (takeS g o w l).2.1) H H' → H p = none → RefsAt H' p ((takeS g o w l).1.map wk) → Q (.ref p) H'
theorem ok_mtake (S : Src K "_law_take" "_law_take" s_law_take f) (T : Txt K mg) (hm : mg "_law_take" = some (.ref f)) (mv : Met P w K mg base 1 (cL K) "value" (spValue K) []) (mr : Prp P w K mg base 1 (cL K) "ref" (spRef K)) (mco : Cal P w K mg base 1 "_law_counts" (spMCounts K) []) (mro : Cal P w K mg base 4 "_law_roll" (spLRoll K) [])
    (mvo : Cal P w K mg base 1 "_law_void" (spMVoid K) []) (mho : Cal P w K mg base 5 "_law_hold_next" (spMHold K) []) : Cal P w K mg base 6 "_law_take" (spMTake K) [] := by
  refine cal_of S hm sc_law_take bi_law_take (fun vs H Q E h => ?_) (fun cdv A outer s H vs Q E hr h => ?_)
  · obtain ⟨d, a, S, g, G, o, w, l, rfl, _⟩ := h
    rfl
  · obtain ⟨d, a, S, g, G, o, w, l, rfl, M, hl, gd, hlG, hms, hG, k⟩ := h
    obtain ⟨dy, ts, tb, a1, a2, a3⟩ := id hl
    obtain ⟨rest, a4⟩ := body_tup a3
    have hu := hu_of hr
    have nd := (fnScope_by sc_law_take).nd
    refine ⟨_, (pss_cons (ps_set (i := 2) nd rfl (.inl rfl) (pe_dget2 hu (pe_dget hu (pv 0) pe_str (fun _ _ => rfl)) (pe_fld (pv 1) rfl) (pe_lst pa_nil) ⟨rfl, rfl, rfl, rfl⟩)) (pss_cons (ps_weak (t' := fun D σ H1 => (∃ x2 x3 x4 x5 x6 : Option V, σ = [some (.ref d), some (.ref a), x2, x3, x4, x5, x6]) ∧ Same H H1 ∧ ∀ H2 : Hp, Same H1 H2 → D.nx σ H2)
          (ps_if (PW.pt (pw_and (pt_cmpR op_eq (pe_ix ix_tup (pe_fld (pv 1) rfl) pe_int (fun _ _ => rfl)) pe_str (nomark _)) (pw_and1 (pt_cmpR (op_neSame hr.units) (pe_mt0 mv hr (by decide) (pv 1)) (pe_mt0 mv hr (by decide) (pe_ix ix_list (pe_dget hu (pv 0) pe_str (fun _ _ => rfl)) pe_int (fun _ _ => rfl))) (nomark _))))) (pss_one ps_never) pss_nil) ?w1) (pss_cons (ps_set (i := 3) nd rfl (.inl rfl) (pe_dget1 hu (pe_dget hu (pv 0) pe_str (fun _ _ => rfl)) (pe_prp mr hr (by decide) (pv 1)) ⟨rfl, rfl, rfl, rfl⟩)) (pss_cons (ps_weak (t' := fun D σ H1 => Same H H1 ∧ ∃ (lr : Addr) (as : List Addr) (v : V) (x4 x5 x6 : Option V), σ = [some (.ref d), some (.ref a), some (.ref lr), some v, x4, x5, x6] ∧ H1 lr = some (.lst (as.map V.ref)) ∧ Ls K H1 as (rowOf o l.au) ∧ OptAt K H1 v (if l ∈ w then some l else none) ∧
            ∀ v2 : V, OptAt K H1 v2 (if l.num ≤ heldN o l.au then some l else if l ∈ w then some l else none) → D.nx [some (.ref d), some (.ref a), some (.ref lr), some v2, x4, x5, x6] H1)
          (ps_if (pt_cmpR op_le (pe_fld (pv 1) rfl) (pe_callB call_len_seq (by rfl) T.len (by decide +kernel) (pa_cons (pv 2) pa_nil)) (nomark _)) (pss_one (ps_set (i := 3) nd rfl (.inl rfl) (pe_ix ix_list (pv 2) (pe_op op_sub (pe_fld (pv 1) rfl) pe_int) (fun _ _ => rfl)))) pss_nil) ?w2) (pss_cons (ps_if (pt_cmpR op_notN (pv 3) pe_non (nomark _)) (pss_cons (ps_if (pt_cmpR (op_eqSame hr.units) (pe_mt0 mv hr (by decide) (pv 3)) (pe_mt0 mv hr (by decide) (pv 1)) (nomark _)) (pss_one (ps_ret (pe_lst pa_nil))) pss_nil) (pss_one ps_never)) pss_nil) (pss_cons (ps_if (pt_val (pe_c mvo hr (by decide) (by rfl) (pa_cons (pe_c mro hr (by decide) (by rfl) (pa_cons (pv 0) (pa_cons (pe_c mco hr (by decide) (by rfl) (pa_cons (pv 0) pa_nil)) pa_nil))) (pa_cons (pv 1) pa_nil)))) (pss_one (ps_ret (pe_lst pa_nil))) pss_nil) (pss_cons (ps_dput hu (pe_dget hu (pv 0) pe_str (fun _ _ => rfl)) (pe_prp mr hr (by decide) (pv 1)) (pv 1) rfl) (pss_cons (ps_set (i := 4) nd rfl (.inl rfl) (pe_lst pa_nil)) (pss_cons (ps_for PassesOwn.never rfl (pi_range1 (by rfl) T.range (pa_cons (pe_op op_add (pe_callB call_len_dT (by rfl) T.len (by decide +kernel) (pa_cons (pe_dget hu (pv 0) pe_str (fun _ _ => rfl)) pa_nil)) pe_int) pa_nil)) (pg_name (i := 5) nd rfl (.inl rfl))
        (pss_cons (ps_set (i := 6) nd rfl (.inl rfl) (pe_c mho hr (by decide) (by rfl) (pa_cons (pv 0) pa_nil))) (pss_cons (ps_if (pt_cmpR op_isN (pv 6) pe_non (nomark _)) (pss_one ps_break) pss_nil) (pss_one (ps_expr (pe_bm PySem.F.plainAttrs_list PySem.F.slot_list_append PySem.F.type_list_append mt_append (pv 4) (pa_cons (pv 6) pa_nil))))))) (pss_one (ps_ret (pv 4)))))))))))), ?_⟩
    case w1 =>
      rintro D σ H1 ⟨⟨x2, x3, x4, x5, x6, rfl⟩, s1, q⟩
      refine ⟨_, rfl, a, _, dy, _, _, rfl, s1 _ _ a1, T.kL, T.nBo, lf_bo _ _ _, tb, _, _, _, rfl, rfl, SqT.of (s1 _ _ a4), atI0, rfl, _, rfl, ?_⟩
      by_cases hf : kindS l.body = "found"
      · obtain ⟨ms, hms2⟩ := kind_found hf
        have elg := gd.hon.foundEq hlG hms2
        have e : decide (V.str (kindS l.body) = V.str "found") = true := decide_eq_true (by rw [hf])
        rw [e]
        obtain ⟨as, o1, o2⟩ := M.st.ord
        obtain ⟨orest, hor⟩ := gd.ord.head
        have hb0 : ∃ b0 t, as = b0 :: t ∧ LetterAt (cL K) H b0 g := by
          rw [hor] at o2
          cases o2 with
          | cons q _ => exact ⟨_, _, rfl, q⟩
        obtain ⟨b0, at0, eas, hb0⟩ := hb0
        obtain ⟨db, tsb, tbb, b1, b2, b3⟩ := id hb0
        subst eas
        refine iteT ⟨_, rfl, a, dy, _, rfl, s1 _ _ a1, rfl, a, l, rfl, hl.im (K := K) (.same s1), fun ts1 tb1 p1 q1 q2 hp1 => ?_⟩
        have v1 := valAt_new (K := K) hp1 q1 q2
        have s2 := same_new (o := valT l ts1 tb1) hp1
        generalize upd H1 p1 (valT l ts1 tb1) = H2 at v1 s2
        have s12 := s1.trans s2
        refine ⟨_, rfl, d, _, rfl, (M.same s12).or, S.lo, _, _, _, rfl, rfl, SqL.of (s12 _ _ o1), atI0, b0, db, _, rfl, s12 _ _ b1, rfl, b0, g, rfl, hb0.im (K := K) (.same s12), fun ts3 tb3 p3 q3 q4 hp3 => ?_⟩
        have v3 := valAt_new (K := K) hp3 q3 q4
        have s3 := same_new (o := valT g ts3 tb3) hp3
        generalize upd H2 p3 (valT g ts3 tb3) = H3 at v3 s3
        rw [← elg] at v3
        refine ⟨letD l, (v1.same K s3).dp, v3.dp, .inl ⟨_, rfl⟩, alike_let l, depth_let l, _, rfl, ?_⟩
        refine iteF ?_
        exact q H3 (s2.trans s3)
      · have e : decide (V.str (kindS l.body) = V.str "found") = false := decide_eq_false fun z => hf (V.str.inj z)
        rw [e]
        refine iteF ?_
        refine iteF ?_
        exact q H1 (.refl H1)
    case w2 =>
      rintro D σ H1 ⟨s1, lr, as, v, x4, x5, x6, rfl, h1, h2, hv, q⟩
      refine ⟨_, rfl, a, _, dy, _, _, rfl, s1 _ _ a1, T.kL, T.nNu, lf_nu _ _ _, _, rfl, lr, _, rfl, .inl (SqL.of h1), _, _, rfl, rfl, _, rfl, ?_⟩
      have e1 : decide (((l.num : Nat) : Int) ≤ ((as.map V.ref).length : Nat)) = decide (l.num ≤ heldN o l.au) := decide_eq_decide.mpr (by rw [List.length_map, pair_len h2]; exact Int.ofNat_le)
      rw [e1]
      by_cases hn : l.num ≤ heldN o l.au
      · rw [decide_eq_true hn]
        rw [if_pos hn] at q
        obtain ⟨n1, n2⟩ := gd.rowAt hlG hn
        obtain ⟨c, hc, hcl⟩ := pair_r h2 n2
        have e3 : ((l.num : Nat) : Int) - 1 = ((l.num - 1 : Nat) : Int) := by omega
        refine iteT ⟨_, rfl, _, rfl, a, _, dy, _, _, rfl, s1 _ _ a1, T.kL, T.nNu, lf_nu _ _ _, _, _, rfl, rfl, lr, _, _, _, rfl, rfl, SqL.of h1, (by
          rw [e3]
          exact atI_nat (j := l.num - 1) (show _ = some (V.ref c) by rw [List.getElem?_map, hc]; rfl)), ?_⟩
        exact q (.ref c) ⟨c, rfl, hcl⟩
      · rw [decide_eq_false hn]
        rw [if_neg hn] at q
        refine iteF ?_
        exact q v hv
    -- the row
    obtain ⟨kvs, w1, w2⟩ := M.st.wait
    refine ⟨_, rfl, d, _, rfl, M.le, S.dr, rfl, .inl ⟨_, .inl M.st.rows.tab⟩, _, rfl, a, _, dy, _, _, rfl, a1, T.kL, T.nAu, lf_au _ _ _, (by show 0 ≤ sizeLine; decide), fun le hle => ⟨_, row_get (M.st.rows.same (same_new hle)) l.au, ?_⟩⟩
    have s1 := same_new (o := .lst []) hle
    have row1 : ∃ (lr : Addr) (as : List Addr), (if l.au ∈ auths o then some (V.ref (S.la l.au)) else none).getD (.ref le) = .ref lr ∧ upd H le (.lst []) lr = some (.lst (as.map V.ref)) ∧ Ls K (upd H le (.lst [])) as (rowOf o l.au) := by
      by_cases hx : l.au ∈ auths o
      · obtain ⟨as, r1, r2⟩ := M.st.rows.row l.au hx
        rw [if_pos hx]
        exact ⟨S.la l.au, as, rfl, s1 _ _ r1, r2.im (.same s1)⟩
      · rw [if_neg hx]
        refine ⟨le, [], rfl, upd_same, ?_⟩
        rw [row_nil hx]
        exact .nil
    obtain ⟨lr, as, er, h1, h2⟩ := row1
    rw [er]
    generalize upd H le (.lst []) = H1 at s1 h1 h2
    refine ⟨⟨_, _, _, _, _, rfl⟩, s1, fun H2 s2' => ?_⟩
    have s2 := s1.trans s2'
    refine ⟨_, rfl, d, _, rfl, (M.same s2).wa, S.dw, rfl, .inr ⟨_, .inl (s2 _ _ w1)⟩, _, rfl, a, dy, _, rfl, s2 _ _ a1, a, l, rfl, hl.im (K := K) (.same s2), fun t ht => ?_⟩
    have s3' := same_new (o := .tup [.str l.au, .int l.num]) ht
    have e3 : upd H2 t (.tup [.str l.au, .int l.num]) t = some (.tup [.str l.au, .int l.num]) := upd_same
    generalize upd H2 t (.tup [.str l.au, .int l.num]) = H3 at s3' e3
    have s3 := s2.trans s3'
    refine ⟨_, DGet.t (k := tk l) (s3 _ _ w1) e3, s3, lr, as, _, _, _, _, rfl, s3' _ _ (s2' _ _ h1), h2.im (.same (s2'.trans s3')), ?_, fun v4 hv4 => ?_⟩
    · have hv := val_wait l.au l.num w2
      rw [mem_findW gd.toGoodR hlG] at hv
      split
      · rename_i hin
        rw [if_pos hin] at hv
        obtain ⟨c, c1, c2⟩ := hv
        have c1' : valV kvs (tk l) = some (.ref c) := c1
        rw [c1']
        exact ⟨c, rfl, c2.im (.same s3)⟩
      · rename_i hin
        rw [if_neg hin] at hv
        have c1' : valV kvs (tk l) = none := hv
        rw [c1']
        rfl
    · refine ⟨_, rfl, rfl, _, rfl, ?_⟩
      by_cases hkn : l.num ≤ heldN o l.au ∨ l ∈ w
      · have ek : (if l.num ≤ heldN o l.au then some l else if l ∈ w then some l else none) = some l := by
          rcases hkn with h | h
          · rw [if_pos h]
          · rw [if_pos h]
            split <;> rfl
        rw [ek] at hv4
        obtain ⟨c, rfl, hc⟩ := hv4
        rw [decide_eq_false (by intro z; cases z), Bool.not_false]
        obtain ⟨dc, _, _, c1, _⟩ := id hc
        refine iteT ⟨_, rfl, c, dc, _, rfl, c1, rfl, c, l, rfl, hc, fun ts1 tb1 p1 q1 q2 hp1 => ?_⟩
        have v1 := valAt_new (K := K) hp1 q1 q2
        have s5 := same_new (o := valT l ts1 tb1) hp1
        generalize upd H3 p1 (valT l ts1 tb1) = H5 at v1 s5
        have s15 := s3.trans s5
        refine ⟨_, rfl, a, dy, _, rfl, s15 _ _ a1, rfl, a, l, rfl, hl.im (K := K) (.same s15), fun ts3 tb3 p3 q3 q4 hp3 => ?_⟩
        have v3 := valAt_new (K := K) hp3 q3 q4
        have s6 := same_new (o := valT l ts3 tb3) hp3
        generalize upd H5 p3 (valT l ts3 tb3) = H6 at v3 s6
        refine ⟨letD l, (v1.same K s6).dp, v3.dp, .inl ⟨_, rfl⟩, alike_let l, depth_let l, _, rfl, ?_⟩
        refine iteT ⟨(by show 0 ≤ sizeLine; decide), fun p hp => ?_⟩
        have s16 := s15.trans s6
        have s7 := same_new (o := .lst []) hp
        have et : takeS g o w l = ([], o, w) := by
          unfold takeS
          rcases hkn with h | h
          · rw [if_pos h]
          · rw [if_pos h]
            split <;> rfl
        rw [et] at k
        exact k S _ p (M.same (s16.trans s7)) (.same (s16.trans s7)) (s16.free hp) ⟨[], upd_same, rfl, fun b hb => by cases hb⟩
      · have hn1 : ¬ l.num ≤ heldN o l.au := fun h => hkn (.inl h)
        have hn2 : l ∉ w := fun h => hkn (.inr h)
        rw [if_neg hn1, if_neg hn2] at hv4
        obtain rfl : v4 = .non := hv4
        rw [decide_eq_true rfl, Bool.not_true]
        refine iteF ?_
        have hol := gd.olen
        refine ⟨_, rfl, _, rfl, d, S, g, o, w, rfl, M.same s3, by omega, fun c4 H4 hc4 s4' h4 => ?_⟩
        have s4 := s3.trans s4'
        refine ⟨d, c4, S, g, o, w, rfl, M.same s4, h4, gd.ord, hms, by omega, fun p5 H5 hp5 s5' MR5 => ?_⟩
        have s5 := s4.trans s5'
        refine ⟨_, rfl, p5, a, rollS g o, l, rfl, MR5, hl.im (K := K) (.same s5), _, rfl, ?_⟩
        cases hvo : voidR (rollS g o) l with
        | true =>
          refine iteT ⟨(by show 0 ≤ sizeLine; decide), fun p hp => ?_⟩
          have s7 := same_new (o := .lst []) hp
          have et : takeS g o w l = ([], o, w) := by
            unfold takeS
            rw [if_neg hn1, if_neg hn2, if_pos hvo]
          rw [et] at k
          exact k S _ p (M.same (s5.trans s7)) (.same (s5.trans s7)) (s5.free hp) ⟨[], upd_same, rfl, fun b hb => by cases hb⟩
        | false =>
          refine iteF ?_
          have et : takeS g o w l = run g ((w ++ [l]).length + 1) o (w ++ [l]) := by
            unfold takeS
            rw [if_neg hn1, if_neg hn2, if_neg (by rw [hvo]; exact Bool.false_ne_true), List.length_append, List.length_singleton]
          rw [et] at k
          refine ⟨_, rfl, _, rfl, d, _, rfl, (M.same s5).wa, _, rfl, a, dy, _, rfl, s5 _ _ a1, a, l, rfl, hl.im (K := K) (.same s5), fun t6 ht6 => ?_⟩
          have s6' := same_new (o := .tup [.str l.au, .int l.num]) ht6
          have e6 : upd H5 t6 (.tup [.str l.au, .int l.num]) t6 = some (.tup [.str l.au, .int l.num]) := upd_same
          generalize upd H5 t6 (.tup [.str l.au, .int l.num]) = H6 at s6' e6
          have s6 := s5.trans s6'
          have hwl := gd.wlen
          refine ⟨S.dw, _, rfl, DPut.t (k := tk l) (s6 _ _ w1) e6 (by rw [len_wait w2, sizeLine_eq]; omega), ?_⟩
          have hfn := mem_findW gd.toGoodR hlG
          rw [if_neg hn2] at hfn
          have M7 := (M.same s6).setw (waitK_put (w2.im (.same s6)) (hl.im (K := K) (.same s6)) hfn)
          have st7 : Step (modOwn d S o) (modOwn d S o) H (upd H6 S.dw (.dT (putK kvs (tk l) (.ref a)))) := (Step.same s6).trans step_wM
          generalize upd H6 S.dw (.dT (putK kvs (tk l) (.ref a))) = H7 at M7 st7
          have exH : ∀ b, H7 b = none → H b = none ∨ modOwn d S o b := fun b e => by
            cases q : H b with
            | none => exact .inl rfl
            | some u =>
              by_cases n : modOwn d S o b
              · exact .inr n
              · rw [st7.kp _ _ q n] at e
                cases e
          have nex : ∀ b, H7 b = none → H b = none ∧ ¬ modOwn d S o b := fun b e => by
            have n : ¬ modOwn d S o b := fun n => by
              obtain ⟨u, u1, _⟩ := M7.ex n
              rw [e] at u1
              cases u1
            rcases exH b e with z | z
            · exact ⟨z, n⟩
            · exact absurd z n
          refine ⟨(by show 0 ≤ sizeLine; decide), fun p hp => ?_⟩
          obtain ⟨hp0, np0⟩ := nex p hp
          have s8 := same_new (o := .lst []) hp
          have p8 : upd H7 p (.lst []) p = some (.lst []) := upd_same
          generalize upd H7 p (.lst []) = H8 at s8 p8
          have M8 := M7.same s8
          obtain ⟨kv8, w81, w82⟩ := M8.st.wait
          have gda := gd.add hlG hn1 hn2
          have lw8 := len_wait w82
          rw [List.length_append, List.length_singleton] at lw8
          refine ⟨_, rfl, d, _, rfl, M8.wa, S.dw, kv8, rfl, w81, _, _, rfl, rfl, ?_⟩
          have ej : (((kv8.length : Nat) : Int) + 1) = (((w ++ [l]).length + 1 : Nat) : Int) := by rw [lw8, List.length_append, List.length_singleton]; rfl
          have hwl2 : (w ++ [l]).length = w.length + 1 := by rw [List.length_append, List.length_singleton]
          refine ⟨(((w ++ [l]).length + 1 : Nat) : Int), (by rw [← ej]), by omega, by omega, ?_⟩
          rw [Int.toNat_natCast]
          generalize hN : (w ++ [l]).length + 1 = N at k
          refine for_range (lo := 0) (n := N) (fun i σ H9 => ∃ (S' : SA) (o' w' rs : List Ltr) (bs : List RB) (x2 x3 x5 x6 : Option V) (n : Nat), σ = [some (.ref d), some (.ref a), x2, x3, some (.ref p), x5, x6] ∧ n + i = N ∧ ModAt K H9 d S' g o' w' ∧ Step (modOwn d S o) (modOwn d S' o') H H9 ∧ H9 p = some (.lst (bs.map fun b => V.ref b.1)) ∧ ¬ modOwn d S' o' p ∧
              bs.map (·.2) = rs.map wk ∧ (∀ b ∈ bs, RefAt H9 b) ∧ GoodR g G o' w' ∧ run g N o (w ++ [l]) = (rs ++ (run g n o' w').1, (run g n o' w').2) ∧ o' = o ++ rs ∧ w'.length < n)
            ⟨S, o, w ++ [l], [], [], _, _, _, _, N, rfl, rfl, M8, st7.trans (.same s8), p8, np0, rfl, fun _ h => (by cases h), gda, rfl, by rw [List.append_nil], by omega⟩ ?_ ?_
          · rintro i σ H9 hi ⟨S', o', w', rs, bs, x2, x3, x5, x6, n, rfl, hni, M9, st9, p9, np9, eb, hb, gd9, er, eo, hw9⟩
            obtain ⟨n, rfl⟩ : ∃ n', n = n' + 1 := ⟨n - 1, by omega⟩
            refine ⟨_, rfl, d, S', g, G, o', w', rfl, M9, gd9, hms, hG, fun hrd H10 M10 st10 => ?_, fun l2 hrd S2 H10 q M10 st10 hq => ?_⟩
            · refine ⟨_, rfl, rfl, _, rfl, ?_⟩
              show if (decide (V.non = V.non)) = true then _ else _
              rw [decide_eq_true rfl]
              refine iteT ?_
              rw [run_none hrd, List.append_nil] at er
              refine ⟨_, rfl, ?_⟩
              refine k S' H10 p ?_ ?_ hp0 ?_
              · rw [er]
                exact M10
              · rw [er]
                exact st9.trans st10
              · rw [er]
                exact ⟨bs, st10.kp _ _ p9 np9, eb, fun b hb' => (hb b hb').im (st10.im fun b q => M9.ex q)⟩
            · refine ⟨_, rfl, rfl, _, rfl, ?_⟩
              show if (decide (V.ref q = V.non)) = true then _ else _
              rw [decide_eq_false (by intro z; cases z)]
              refine iteF ?_
              obtain ⟨hlw, hcan⟩ := ready_some hrd
              have gdh := gd9.hold hlw hcan
              have hdl := dropR_len gd9 hlw
              have p10 := st10.kp _ _ p9 np9
              have lrs : bs.length = rs.length := by have := congrArg List.length eb; rwa [List.length_map, List.length_map] at this
              have lor : o'.length = o.length + rs.length := by rw [eo, List.length_append]
              have ho9 := gd9.olen
              refine ⟨_, rfl, .inl ⟨rfl, _, SqL.of p10⟩, _, rfl, p, _, _, rfl, rfl, p10, by rw [List.length_map, sizeLine_eq]; omega, ?_⟩
              have e9 : (bs.map fun b => V.ref b.1) ++ [V.ref q] = (bs ++ [((q, wk l2) : RB)]).map fun b => V.ref b.1 := by rw [List.map_append]; rfl
              rw [e9]
              have np10 : ¬ modOwn d S2 (o' ++ [l2]) p := fun z => by
                rcases st10.ow _ z with z | z
                · exact np9 z
                · rw [p9] at z; cases z
              have kp11 : ∀ b u, H10 b = some u → b ≠ p → upd H10 p (.lst ((bs ++ [((q, wk l2) : RB)]).map fun b => V.ref b.1)) b = some u := kpu
              have im11 : Im K H10 (upd H10 p (.lst ((bs ++ [((q, wk l2) : RB)]).map fun b => V.ref b.1))) := .set p10 rfl
              have im910 : Im K H9 H10 := st10.im fun b q => M9.ex q
              have st910 := st9.trans st10
              refine ⟨S2, o' ++ [l2], dropR w' l2, rs ++ [l2], bs ++ [(q, wk l2)], _, _, _, _, n, rfl, by omega, M10.kp im11 fun b u z e => kp11 b u e fun y => np10 (y ▸ z), ⟨fun b u e n => kp11 b u (st910.kp b u e n) (ne_of_none e hp0), st910.ow⟩, upd_same, np10, by rw [List.map_append, List.map_append, eb]; rfl, fun b hb' => ?_, gdh, ?_, by rw [eo, List.append_assoc], by omega⟩
              · rcases List.mem_append.mp hb' with z | z
                · exact (hb b z).im (im910.trans im11)
                · rw [List.mem_singleton.mp z]
                  exact hq.im im11
              · rw [er, run_some hrd, List.append_assoc]
                rfl
          · rintro σ H9 ⟨S', o', w', rs, bs, x2, x3, x5, x6, n, rfl, hni, M9, st9, p9, np9, eb, hb, gd9, er, eo, hw9⟩
            omega
end
end Lo
set_option Elab.async false
set_option maxRecDepth 100000
set_option maxHeartbeats 4000000
namespace Lo
open PySem PySem.Spec PyProof.Rows L2
open C8 (Cal Met Mak scC fnScope_by pe_c pe_mk pe_mt pe_mt0)
def StmAt (H : Hp) (s : Addr) : Prop := ∃ x y : Int, H s = some (.lst [.int x, .int y])
section
variable {P : Program} {w : World} {K : PySem.W.Frag} {mg : Str → Option Value} {base : Heap} {f : Addr}
def spStream : Sp := fun vs H Q _ => ∃ c k : Int, vs = [.int c, .int k] ∧ ∀ (s : Addr) (x y : Int), H s = none → Q (.ref s) (upd H s (.lst [.int x, .int y]))
theorem ok_stream (S : Src K "_law_stream" "_law_stream" s_law_stream f) (T : Txt K mg) (hm : mg "_law_stream" = some (.ref f)) : Cal P w K mg base 1 "_law_stream" spStream [] := by
  refine cal_of S hm sc_law_stream bi_law_stream (fun vs H Q E h => ?_) (fun cdv A outer s H vs Q E hr h => ?_)
  · obtain ⟨c, k, rfl, _⟩ := h
    rfl
  · obtain ⟨c, k, rfl, kk⟩ := h
    have nd := (fnScope_by sc_law_stream).nd
    refine ⟨_, (pss_cons (ps_set (i := 2) nd rfl (.inl rfl) pe_int) (pss_cons (ps_if (pt_cmpR op_ge (pv 0) (pe_op op_pow pe_int pe_int) (nomark _)) (pss_one (ps_set (i := 2) nd rfl (.inl rfl) (pv 0))) pss_nil) (pss_one (ps_ret (pe_lst (pa_cons (pv 2) (pa_cons (pe_op op_modN (pe_callTy call_int1 (by rfl) T.int (by decide +kernel) (pa_cons (pe_op op_add (pe_op op_add (pe_op op_mul (pv 0) pe_int) (pe_op op_mul (pv 1) pe_int)) pe_int) pa_nil)) pe_int) pa_nil))))))), ?_⟩
    refine ⟨_, rfl, _, _, rfl, rfl, ⟨by decide, by decide, by decide⟩, _, _, rfl, rfl, _, rfl, ?_⟩
    have tail : ∀ x : Int, (tRet (tLst (tCons (tVar 2) (tCons (tOp (rI (fun _ j => j ≠ 0) fun i j => .int (i.fmod j)) (tCB (fun xs H Q => (∃ i, xs = [V.int i] ∧ Q (.int i) H) ∨ ∃ k, xs = [V.bl k] ∧ Q (.int (if k then 1 else 0)) H)
        (tCons (tOp (rI0 fun i j => .int (i + j)) (tOp (rI0 fun i j => .int (i + j)) (tOp (rI CMul fun i j => .int (i * j)) (tVar 0) (tC (.int 48271))) (tOp (rI CMul fun i j => .int (i * j)) (tVar 1) (tC (.int 69621)))) (tC (.int 77))) tNil)) (tC (.int 2147483647))) tNil))))
        { nx := fun _ H' => Q .non H', rt := Q } [some (.int c), some (.int k), some (.int x)] H := fun x => by
      refine ⟨_, rfl, _, rfl, _, _, rfl, rfl, .inr ⟨by decide, by decide⟩, _, rfl, _, _, rfl, rfl, .inr ⟨by decide, by decide⟩, _, _, rfl, rfl, _, _, rfl, rfl, .inl ⟨_, rfl, _, _, rfl, rfl, (by show (2147483647 : Int) ≠ 0; decide), (by show 2 ≤ sizeLine; decide), fun s hs => kk s _ _ hs⟩⟩
    refine ite2 (fun _ => ?_) (fun _ => ?_)
    · exact ⟨_, rfl, tail c⟩
    · exact tail 0
def spNxt : Sp := fun vs H Q _ => ∃ (s : Addr) (n : Nat), vs = [.ref s, .int n] ∧ StmAt H s ∧ 0 < n ∧ n < 1000 ∧ ∀ (r : Nat) (x y : Int), r < n → Q (.int r) (upd H s (.lst [.int x, .int y]))
theorem fmod_nat (i : Int) (n : Nat) (h : 0 < n) : ∃ r : Nat, i.fmod (n : Int) = (r : Int) ∧ r < n := by
  have h1 := Int.fmod_nonneg_of_pos i (b := (n : Int)) (by omega)
  have h2 := Int.fmod_lt_of_pos i (b := (n : Int)) (by omega)
  exact ⟨(i.fmod (n : Int)).toNat, by omega, by omega⟩
theorem ok_nxt (S : Src K "_law_next" "_law_next" s_law_next f) (T : Txt K mg) (hm : mg "_law_next" = some (.ref f)) : Cal P w K mg base 1 "_law_next" spNxt [] := by
  refine cal_of S hm sc_law_next bi_law_next (fun vs H Q E h => ?_) (fun cdv A outer s H vs Q E hr h => ?_)
  · obtain ⟨s, n, rfl, _⟩ := h
    rfl
  · obtain ⟨s, n, rfl, ⟨x, y, hs⟩, hn, hn2, k⟩ := h
    have nd := (fnScope_by sc_law_next).nd
    refine ⟨_, (pss_cons (ps_if (pt_cmpR op_gt (pe_ix ix_list (pv 0) pe_int (fun _ _ => rfl)) pe_int (nomark _))
        (pss_cons (ps_set (i := 2) nd rfl (.inl rfl) (pe_op op_modN (pe_callTy call_int1 (by rfl) T.int (by decide +kernel) (pa_cons (pe_ix ix_list (pv 0) pe_int (fun _ _ => rfl)) pa_nil)) (pv 1))) (pss_cons (ps_asg (pe_op op_fdivN (pe_ix ix_list (pv 0) pe_int (fun _ _ => rfl)) (pv 1)) (pg_sub (pv 0) pe_int set_list)) (pss_one (ps_ret (pv 2))))) pss_nil) (pss_cons (ps_asg (pe_op op_modN (pe_callTy call_int1 (by rfl) T.int (by decide +kernel) (pa_cons (pe_op op_add (pe_op op_mul (pe_ix ix_list (pv 0) pe_int (fun _ _ => rfl)) pe_int) pe_int) pa_nil)) pe_int) (pg_sub (pv 0) pe_int set_list)) (pss_one (ps_ret (pe_op op_modN (pe_callTy call_int1 (by rfl) T.int (by decide +kernel) (pa_cons (pe_op op_fdivN (pe_op op_modN (pe_callTy call_int1 (by rfl) T.int (by decide +kernel) (pa_cons (pe_op op_add (pe_op op_mul (pe_ix ix_list (pv 0) pe_int (fun _ _ => rfl)) pe_int) pe_int) pa_nil)) pe_int) pe_int) pa_nil)) (pv 1)))))), ?_⟩
    refine ⟨_, rfl, s, _, _, _, rfl, rfl, SqL.of hs, atI0, _, _, rfl, rfl, _, rfl, ?_⟩
    refine ite2 (fun _ => ?_) (fun _ => ?_)
    · refine ⟨_, rfl, s, _, _, _, rfl, rfl, SqL.of hs, atI0, .inl ⟨_, rfl, _, rfl, _, _, rfl, rfl, (by show ((n : Nat) : Int) ≠ 0; omega), ?_⟩⟩
      obtain ⟨r, e, hr2⟩ := fmod_nat x n hn
      refine ⟨_, rfl, s, _, _, _, rfl, rfl, SqL.of hs, atI0, _, rfl, _, _, rfl, rfl, ⟨by omega, by show ((n : Nat) : Int).natAbs < 1073741824; omega⟩, ?_⟩
      refine ⟨_, rfl, s, _, _, 0, rfl, rfl, hs, rfl, ?_⟩
      refine ⟨_, rfl, ?_⟩
      show Q (.int (x.fmod ((n : Nat) : Int))) _
      rw [e]
      exact k r _ _ hr2
    · refine ⟨_, rfl, s, _, _, _, rfl, rfl, SqL.of hs, atI1, _, _, rfl, rfl, .inr ⟨by decide, by decide⟩, _, _, rfl, rfl, .inl ⟨_, rfl, _, _, rfl, rfl, (by show (2147483647 : Int) ≠ 0; decide), ?_⟩⟩
      refine ⟨_, rfl, s, _, _, 1, rfl, rfl, hs, rfl, ?_⟩
      have h2 : ∀ z : Int, upd H s (.lst ([V.int x, V.int y].set 1 (.int z))) s = some (.lst [.int x, .int z]) := fun z => upd_same
      refine ⟨_, rfl, s, _, _, _, rfl, rfl, SqL.of (h2 _), atI1, _, _, rfl, rfl, .inr ⟨by decide, by decide⟩, _, _, rfl, rfl, .inl ⟨_, rfl, _, _, rfl, rfl, (by show (2147483399 : Int) ≠ 0; decide), _, _, rfl, rfl, ⟨by decide, by decide⟩, .inl ⟨_, rfl, _, rfl, _, _, rfl, rfl, (by show ((n : Nat) : Int) ≠ 0; omega), ?_⟩⟩⟩
      obtain ⟨r, e, hr2⟩ := fmod_nat (((((y * 48271 + 12820163).fmod 2147483647) * 16807 + 5).fmod 2147483399).fdiv 3) n hn
      show Q (.int _) _
      rw [e]
      exact k r _ _ hr2
def spIs : Sp := fun vs H Q _ => ∃ i : Int, vs = [.int i, .int i] ∧ Q (.bl true) H
theorem ok_is (S : Src K "_law_is" "_law_is" s_law_is f) (T : Txt K mg) (hm : mg "_law_is" = some (.ref f)) : Cal P w K mg base 1 "_law_is" spIs [] := by
  refine cal_of S hm sc_law_is bi_law_is (fun vs H Q E h => ?_) (fun cdv A outer s H vs Q E hr h => ?_)
  · obtain ⟨i, rfl, _⟩ := h
    rfl
  · obtain ⟨i, rfl, k⟩ := h
    refine ⟨_, (pss_one (ps_ret (pe_and (pe_callB call_isi (by rfl) T.isi (by decide +kernel) (pa_cons (pv 0) (pa_cons (pe_bltn (v := .ty "int") (by rfl) T.int (by decide +kernel) rfl) pa_nil)))
      (pe_and (pe_not (pe_callB call_isi (by rfl) T.isi (by decide +kernel) (pa_cons (pv 0) (pa_cons (pe_bltn (v := .ty "bool") (by rfl) T.bool (by decide +kernel) rfl) pa_nil)))) (pe_one (pe_cmpR op_eq (pv 0) (pv 1) (nomark _))))))), ?_⟩
    refine ⟨_, rfl, .int i, _, .type "int", _, true, rfl, .ty _, .base (.int i), kit_ty (by decide +kernel), _, rfl, ?_⟩
    refine iteT ⟨_, rfl, .int i, _, .type "int", _, false, rfl, .ty _, .base (.int i), kit_ty (by decide +kernel), _, rfl, _, rfl, ?_⟩
    refine iteT ⟨_, rfl, _, rfl, rfl, ?_⟩
    show Q (.bl (decide (V.int i = V.int i))) H
    rw [decide_eq_true rfl]
    exact k
/-! ### the people -/
def people0 : List Str := ["an", "ann", "anna", "ann2", "b", "b7", "hugohugohugo", "h0"]
theorem people_ok : ∀ x ∈ people0, NameOk x := by
  intro x hx
  simp only [people0, List.mem_cons, List.not_mem_nil, or_false] at hx
  rcases hx with rfl | rfl | rfl | rfl | rfl | rfl | rfl | rfl
  all_goals exact ⟨by decide, by decide, by decide, _, rfl, by decide⟩
theorem people_nd : people0.Nodup := by decide
def ixs (r q : Nat) : List Nat := (List.range 8).map fun k => (r + (1 + 2 * q) * k) % 8
theorem ixs_nd : ∀ r < 8, ∀ q < 4, (ixs r q).Nodup := by decide
def basePeople (r q : Nat) : List Str := (ixs r q).map fun i => people0.getD i "an"
theorem base_mem (r q : Nat) : ∀ x ∈ basePeople r q, x ∈ people0 := by
  intro x hx
  unfold basePeople ixs at hx
  rw [List.map_map] at hx
  obtain ⟨k, _, rfl⟩ := List.mem_map.mp hx
  show people0.getD ((r + (1 + 2 * q) * k) % 8) "an" ∈ people0
  have h8 : (r + (1 + 2 * q) * k) % 8 < people0.length := Nat.mod_lt _ (by decide)
  rw [List.getD_eq_getElem?_getD, List.getElem?_eq_getElem h8]
  exact List.getElem_mem h8
theorem base_nd {r q : Nat} (hr : r < 8) (hq : q < 4) : (basePeople r q).Nodup := by
  unfold basePeople
  refine List.pairwise_map.mpr (List.Pairwise.imp_of_mem (fun {a b} ha hb hne e => hne ?_) (ixs_nd r hr q hq))
  have lt : ∀ a ∈ ixs r q, a < people0.length := by
    intro a ha
    unfold ixs at ha
    obtain ⟨k, _, rfl⟩ := List.mem_map.mp ha
    exact Nat.mod_lt _ (by decide)
  have h1 := lt a ha
  have h2 := lt b hb
  rw [List.getD_eq_getElem?_getD, List.getD_eq_getElem?_getD, List.getElem?_eq_getElem h1, List.getElem?_eq_getElem h2] at e
  exact (List.getElem_inj people_nd).mp e
def spBase : Sp := fun vs H Q _ => ∃ s : Addr, vs = [.ref s] ∧ StmAt H s ∧ ∀ (p : Addr) (ns : List Str) (H' : Hp), H p = none → H' p = some (.lst (ns.map V.str)) → StmAt H' s → (∀ b u, H b = some u → b ≠ s → H' b = some u) → ns.Nodup → (∀ x ∈ ns, NameOk x) → ns.length = 8 → Q (.ref p) H'
theorem ok_base (S : Src K "_law_base" "_law_base" s_law_base f) (T : Txt K mg) (hm : mg "_law_base" = some (.ref f)) (mn : Cal P w K mg base 1 "_law_next" spNxt []) : Cal P w K mg base 2 "_law_base" spBase [] := by
  refine cal_of S hm sc_law_base bi_law_base (fun vs H Q E h => ?_) (fun cdv A outer s H vs Q E hr h => ?_)
  · obtain ⟨s, rfl, _⟩ := h
    rfl
  · obtain ⟨s, rfl, ⟨x, y, hs⟩, k⟩ := h
    have nd := (fnScope_by sc_law_base).nd
    refine ⟨_, (pss_cons (ps_set (i := 1) nd rfl (.inr rfl) (pe_lst (pa_cons pe_str (pa_cons pe_str (pa_cons pe_str (pa_cons pe_str (pa_cons pe_str (pa_cons pe_str (pa_cons pe_str (pa_cons pe_str pa_nil)))))))))) (pss_cons (ps_set (i := 2) nd rfl (.inr rfl) (pe_c mn hr (by decide) (by rfl) (pa_cons (pv 0) (pa_cons pe_int pa_nil)))) (pss_cons (ps_set (i := 3) nd rfl (.inr rfl) (pe_op op_add pe_int (pe_op op_mul pe_int (pe_c mn hr (by decide) (by rfl) (pa_cons (pv 0) (pa_cons pe_int pa_nil)))))) (pss_one (ps_ret (pe_lc (own := [("_law_k", 4)]) (g := gName 4) (tt := tYes) (te := tOp (rIxL K) (tVar 1) (tOp (rI (fun _ j => j ≠ 0) fun i j => .int (i.fmod j)) (tOp (rI0 fun i j => .int (i + j)) (tVar 2) (tOp (rI CMul fun i j => .int (i * j)) (tVar 3) (tVar 4))) (tC (.int 8)))) (by rfl) nd (pi_range1 (by rfl) T.range (pa_cons pe_int pa_nil))
        (blkOk_by (N := N_law_base) (sc := L2.defScope s_law_base) (by decide +kernel)) (fun _ _ _ _ _ => pg_name (i := 4) nd rfl (.inl rfl)) (fun _ _ _ _ _ => pts_nil)
        (fun _ _ _ _ _ => pe_ix ix_list (pv 1) (pe_op op_modN (pe_op op_add (pv 2) (pe_op op_mul (pv 3) (pv 4))) pe_int) (fun _ _ => rfl)))))))), ?_⟩
    refine ⟨(by show 8 ≤ sizeLine; decide), fun l hl => ?_⟩
    rw [show ([.str "an", .str "ann", .str "anna", .str "ann2", .str "b", .str "b7", .str "hugohugohugo", .str "h0"] : List V) = people0.map V.str from rfl]
    have s1 : Same H (upd H l (.lst (people0.map V.str))) := same_new hl
    have l1 : upd H l (.lst (people0.map V.str)) l = some (.lst (people0.map V.str)) := upd_same
    have nls : l ≠ s := (ne_of_none hs hl).symm
    refine ⟨_, rfl, s, 8, rfl, ⟨x, y, s1 _ _ hs⟩, by decide, by decide, fun r x1 y1 hr1 => ?_⟩
    refine ⟨_, rfl, s, 4, rfl, ⟨x1, y1, upd_same⟩, by decide, by decide, fun q x2 y2 hq1 => ?_⟩
    refine ⟨_, _, rfl, rfl, .inl ⟨by decide, by decide⟩, _, _, rfl, rfl, ?_⟩
    rw [upd_upd]
    have l2 : ∀ u, upd (upd H l (.lst (people0.map V.str))) s u l = some (.lst (people0.map V.str)) := fun u => by rw [upd_ne nls]; exact l1
    have s2 : upd (upd H l (.lst (people0.map V.str))) s (.lst [.int x2, .int y2]) s = some (.lst [.int x2, .int y2]) := upd_same
    have k2 : ∀ b u, H b = some u → b ≠ s → upd (upd H l (.lst (people0.map V.str))) s (.lst [.int x2, .int y2]) b = some u := fun b u e n => by rw [upd_ne n]; exact s1 _ _ e
    have l3 := l2 (.lst [.int x2, .int y2])
    have f2 : ∀ b, upd (upd H l (.lst (people0.map V.str))) s (.lst [.int x2, .int y2]) b = none → H b = none := fun b e => by
      by_cases n : b = s
      · rw [n, upd_same] at e; cases e
      · cases z : H b with
        | none => rfl
        | some u => rw [k2 _ _ z n] at e; cases e
    generalize upd (upd H l (.lst (people0.map V.str))) s (.lst [.int x2, .int y2]) = H2 at s2 k2 l3 f2
    refine ⟨8, rfl, by decide, by decide, ?_⟩
    intro D hD
    have nlD : l ≠ D := ne_of_none l3 hD
    refine lc_range (lo := 0) (n := 8) (fun i H3 => H3 = upd H2 D (.lst ((((ixs r q).take i).map fun j => people0.getD j "an").map V.str))) rfl ?_ ?_
    · rintro i H3 hi rfl
      refine ⟨rfl, ?_⟩
      refine yes_i ?_
      have e1 : ((r : Nat) : Int) + (1 + 2 * ((q : Nat) : Int)) * (0 + ((i : Nat) : Int)) = ((r + (1 + 2 * q) * i : Nat) : Int) := by
        push_cast
        rw [Int.zero_add]
      have e2 : (((r + (1 + 2 * q) * i : Nat) : Int)).fmod 8 = (((r + (1 + 2 * q) * i) % 8 : Nat) : Int) := by
        rw [Int.fmod_eq_emod_of_nonneg _ (by decide)]
        rfl
      have h8 : (r + (1 + 2 * q) * i) % 8 < people0.length := Nat.mod_lt _ (by decide)
      refine ⟨_, rfl, _, rfl, _, rfl, _, rfl, _, _, rfl, rfl, .inl ⟨by omega, by omega⟩, _, _, rfl, rfl, _, _, rfl, rfl, (by show (8 : Int) ≠ 0; decide), l, _, _, V.str (people0.getD ((r + (1 + 2 * q) * i) % 8) "an"), rfl, rfl, SqL.of (by rw [upd_ne nlD]; exact l3), ?_, ?_⟩
      · show atI _ ((((r : Nat) : Int) + (1 + 2 * ((q : Nat) : Int)) * (0 + ((i : Nat) : Int))).fmod 8) = _
        rw [e1, e2]
        exact atI_nat (by rw [List.getElem?_map, List.getD_eq_getElem?_getD, List.getElem?_eq_getElem h8]; rfl)
      · have e3 : (ixs r q)[i]? = some ((r + (1 + 2 * q) * i) % 8) := by
          unfold ixs
          rw [List.getElem?_map, List.getElem?_range hi]
          rfl
        refine ⟨_, upd_same, by rw [List.length_map, List.length_map, List.length_take, sizeLine_eq]; omega, ?_⟩
        rw [upd_upd, List.take_add_one, e3]
        simp
    · rintro H3 rfl
      have e4 : (ixs r q).take 8 = ixs r q := List.take_of_length_le (by unfold ixs; rw [List.length_map, List.length_range]; exact Nat.le_refl _)
      rw [e4]
      have hsD : s ≠ D := ne_of_none s2 hD
      exact k D (basePeople r q) _ (f2 _ hD) upd_same ⟨x2, y2, by rw [upd_ne hsD]; exact s2⟩ (fun b u e n => by rw [upd_ne (ne_of_none (k2 _ _ e n) hD)]; exact k2 _ _ e n) (base_nd hr1 hq1) (fun x hx => people_ok x (base_mem r q x hx)) (by unfold basePeople ixs; rw [List.length_map, List.length_map, List.length_range])
def spFounding (K : PySem.W.Frag) : Sp := fun vs H Q _ => ∃ (x : Str) (lm : Addr) (ms : List Str), vs = [.str x, .ref lm] ∧ H lm = some (.lst (ms.map V.str)) ∧ ms.length < 64 ∧ ∀ (a : Addr) (H' : Hp) (ys : List Str), Same H H' → H a = none → ys.Perm ms → LetterAt (cL K) H' a ⟨x, 1, 1, [(x, 1)], .found ys⟩ → Q (.ref a) H'
theorem ok_founding (S : Src K "_law_founding" "_law_founding" s_law_founding f) (T : Txt K mg) (hm : mg "_law_founding" = some (.ref f)) (mk : Mak P w K mg base 1 "Letter" (cL K) (spLInit K) []) : Cal P w K mg base 3 "_law_founding" (spFounding K) [] := by
  refine cal_of S hm sc_law_founding bi_law_founding (fun vs H Q E h => ?_) (fun cdv A outer s H vs Q E hr h => ?_)
  · obtain ⟨x, lm, ms, rfl, _⟩ := h
    rfl
  · obtain ⟨x, lm, ms, rfl, hl, hml, k⟩ := h
    refine ⟨_, (pss_one (ps_ret (pe_mk mk hr (by decide) (by rfl) (pa_cons (pv 0) (pa_cons pe_int (pa_cons pe_int (pa_cons (pe_tup (pa_cons (pe_tup (pa_cons (pv 0) (pa_cons pe_int pa_nil))) pa_nil))
      (pa_cons (pe_tup (pa_cons pe_str (pa_cons pe_str (pa_cons (pe_callTy call_tuple_of (by rfl) T.tuple (by decide +kernel) (pa_cons (pe_callB cr_sortedS (by rfl) T.sorted (by decide +kernel) (pa_cons (pv 1) pa_nil)) pa_nil)) pa_nil)))) pa_nil)))))))), ?_⟩
    refine ⟨_, rfl, _, rfl, (by show 2 ≤ sizeLine; decide), fun p1 hp1 => ?_⟩
    have s1 := same_new (o := .tup [.str x, .int 1]) hp1
    have e1 : upd H p1 (.tup [.str x, .int 1]) p1 = some (.tup [.str x, .int 1]) := upd_same
    generalize upd H p1 (.tup [.str x, .int 1]) = H1 at s1 e1
    refine ⟨(by show 1 ≤ sizeLine; decide), fun p2 hp2 => ?_⟩
    have s2 := same_new (o := .tup [.ref p1]) hp2
    have e2 : upd H1 p2 (.tup [.ref p1]) p2 = some (.tup [.ref p1]) := upd_same
    generalize upd H1 p2 (.tup [.ref p1]) = H2 at s2 e2
    refine ⟨_, rfl, lm, ms, rfl, SqL.of (s2 _ _ (s1 _ _ hl)), hml, fun ys l3 hys _ hl3 => ?_⟩
    have s3 := same_new (o := .lst (ys.map V.str)) hl3
    have e3 : upd H2 l3 (.lst (ys.map V.str)) l3 = some (.lst (ys.map V.str)) := upd_same
    generalize upd H2 l3 (.lst (ys.map V.str)) = H3 at s3 e3
    refine ⟨l3, _, rfl, .inl ⟨SqL.of e3, fun t4 ht4 => ?_⟩⟩
    have s4 := same_new (o := .tup (ys.map V.str)) ht4
    have e4 : upd H3 t4 (.tup (ys.map V.str)) t4 = some (.tup (ys.map V.str)) := upd_same
    generalize upd H3 t4 (.tup (ys.map V.str)) = H4 at s4 e4
    refine ⟨(by show 3 ≤ sizeLine; decide), fun t5 ht5 => ?_⟩
    have s5 := same_new (o := .tup [.str "found", .str "room", .ref t4]) ht5
    have e5 : upd H4 t5 (.tup [.str "found", .str "room", .ref t4]) t5 = some (.tup [.str "found", .str "room", .ref t4]) := upd_same
    generalize upd H4 t5 (.tup [.str "found", .str "room", .ref t4]) = H5 at s5 e5
    intro a dxa ha hda hne
    have s6 : Same H5 (upd (upd H5 dxa (.own a)) a (.ins (cL K) dxa [])) := fun b o e => by rw [upd_ne (ne_of_none e ha), upd_ne (ne_of_none e hda)]; exact e
    have a6 : upd (upd H5 dxa (.own a)) a (.ins (cL K) dxa []) a = some (.ins (cL K) dxa []) := upd_same
    generalize upd (upd H5 dxa (.own a)) a (.ins (cL K) dxa []) = H6 at s6 a6
    refine ⟨a, dxa, p2, t5, ⟨x, 1, 1, [(x, 1)], .found ys⟩, rfl, a6, fun H7 a7 kp7 => ⟨rfl, ?_⟩⟩
    have s7 : Same H5 H7 := fun b u e => kp7 b u (s6 _ _ e) (ne_of_none e ha)
    have s45 := s4.trans s5
    have sall := s1.trans (s2.trans (s3.trans (s45.trans s7)))
    have s27 := s3.trans (s45.trans s7)
    exact k a H7 ys sall ((s1.trans (s2.trans (s3.trans s45))).free ha) hys ⟨dxa, p2, t5, a7, ⟨[p1], s27 _ _ e2, .cons ((s2.trans s27) _ _ e1) .nil⟩, ⟨t4, s7 _ _ e5, (s5.trans s7) _ _ e4⟩⟩
end
end Lo
set_option Elab.async false
set_option maxRecDepth 100000
set_option maxHeartbeats 4000000
namespace Lo
open PySem PySem.Spec PySem.W PyProof.Rows L2
open C8 (Cal Met Mak scC fnScope_by pe_c pe_mk pe_mt pe_mt0)
/-! ### for x in o, o's class has __iter__, which gives a list's iterator -/
/-- a method whose promise speaks of the entry's state -/
structure MetS (P : Program) (w : World) (K : PySem.W.Frag) (mg : Str → Option Value) (base : Heap) (k : Nat) (C : Addr) (m : Str) (sp : List V → Shared → Hp → VK → Prop) : Prop where
  ex : ∃ (f : Addr) (fd : FuncData) (ps : List Str), Cls K C ∧ Meth K C m f ∧ Binds K fd ps [] ∧ (∀ vs s H Q, sp vs s H Q → vs.length = ps.length) ∧
    ∀ (A : Around) (outer : List Env) (s : Shared) (H : Hp) (args : Args) (us : List Value) (vs : List V) (Q : VK), Room k A → Env0 P w K mg base A outer s H → BindsTo s fd args (ps.zip us) → Vals vs us → sp vs s H Q →
      codeAny (model P w) A (.call (.ref f) args) (CR CX0 outer P w H s Q C8.E0) s
section
variable {P : Program} {w : World} {K : PySem.W.Frag} {mg : Str → Option Value} {base : Heap} {f C : Addr} {x qual : Str} {st : Stmt} {N ps : List Str} {k : Nat} {sp : List V → Shared → Hp → VK → Prop}
theorem metS_of (S0 : Src K x qual st f) (c : Cls K C) (me : Meth K C x f) (sc : scC N ps (L2.defScope st) = true) (bi : BindOk x qual st ps) (len : ∀ vs s H Q, sp vs s H Q → vs.length = ps.length)
    (hb : ∀ (cdv : Value) (A : Around) (outer : List Env) (s : Shared) (H : Hp) (vs : List V) (Q : VK), Room k (A.deeper (envOfC qual (L2.defScope st) s.heap.objs.size f cdv)) → sp vs s H Q →
      ∃ t, PSs (cxOf CX0 P w K mg base N qual (L2.defScope st) f cdv A outer s H C8.E0).nox (L2.defBody st) t ∧ t { nx := fun _ H' => Q .non H', rt := Q } (start N vs) H) : MetS P w K mg base (k + 1) C x sp := by
  obtain ⟨fd, F⟩ := S0.ex
  have S := fnScope_by sc
  have hbn := F.bindsN bi
  obtain ⟨oc, od, dV, kV, doc, pm, an, cdv, ct, osl, rfl, lk, hcd, _, _⟩ := F.ex
  refine ⟨f, _, ps, c, me, hbn, len, fun A outer s H args us vs Q hr e0 hbi r hsp => ?_⟩
  have hl := len _ _ _ _ hsp
  have KX : K.In s.heap := e0.mod.kin.keeps fun b o e => (e0.bs b o e).1
  have hkind : ∀ y ∈ ps.zip us, (L2.defScope st).names.lookup y.1 = some .local ∨ ((L2.defScope st).names.lookup y.1 = some .cell ∧ ((cellsFrom (s.heap.objs.size + 1) (L2.defScope st).names []).lookup y.1).isSome = true) := fun ⟨n, v⟩ hy => by
    rcases S.par n (List.of_mem_zip hy).1 with q | q
    · exact .inl q
    · exact .inr ⟨q, PySem.W.cellsFrom_some _ _ _ (.inl q)⟩
  refine codeAny_call_function hr.depth (KX _ _ lk) rfl S.co S.gen rfl (PySem.W.codeRec_of KX hcd) (hbi _ _ _ _ ?_)
  refine wpAny_newFunctionEnv_cells S.kind hkind fun env he s1 y => ?_
  subst he
  refine ⟨(e0.mod.nolimit.keeps fun b o e => (e0.bs b o e).1).keeps y.toInCall.keep, codeAny_func ?_⟩
  obtain ⟨t, ht, hq⟩ := hb cdv A outer s H vs Q (hr.deeper _) hsp
  have I := inv_start (CX := CX0) (E := C8.E0) (cd := cdv) (qual := qual) (f := f) (mg := mg) (outer := outer) S hr.hd e0 hl r y
  refine wpAny_mono (ht.nox.run [] s1 (start N vs) H _ I hq) (fun fl s' hs => ?_) fun e s' hs => hs
  cases fl with
  | ret u =>
    obtain ⟨v, σ', H', J, rv, q⟩ := hs
    exact ⟨v, H', J.os, J.bare, J.base, J.hok, rv, q⟩
  | next =>
    obtain ⟨σ', H', J, q⟩ := hs
    exact ⟨V.non, H', J.os, J.bare, J.base, J.hok, rfl, q⟩
  | brk =>
    obtain ⟨_, _, _, q⟩ := hs
    exact q.elim
  | cont =>
    obtain ⟨_, _, _, q⟩ := hs
    exact q.elim
end
/-- what __iter__ promises: a new iterator, younger than the entry -/
def spItS (l : Addr) (pre : Hp → Prop) (a : Addr) : List V → Shared → Hp → VK → Prop := fun vs s H Q => vs = [.ref a] ∧ pre H ∧ ∀ it, H it = none → s.heap.objs.size ≤ it → Q (.ref it) (upd H it (ItO l it 0))
def iOwnS (K : PySem.W.Frag) (C : Addr) (sp : List V → Shared → Hp → VK → Prop) (ta : TE) : TI := fun σ H R => ta σ H fun x H1 => ∃ (a dx : Addr) (fs : List (Str × V)) (l : Addr), x = .ref a ∧ H1 a = some (.ins C dx fs) ∧
  (∀ s : Shared, sp [.ref a] s H1 (fun v H2 => ∃ it, v = .ref it ∧ H1 it = none ∧ s.heap.objs.size ≤ it ∧ H2 = upd H1 it (ItO l it 0))) ∧ R (Itl K l) H1
theorem pi_own {X : Cx} {k j : Nat} {C : Addr} {sp : List V → Shared → Hp → VK → Prop} {tg e : Expr} {ta : TE} (c : MetS X.prog X.w X.K X.mg X.base k C "__iter__" sp) (hr : Room j X.A) (hk : k ≤ j) (he : PE X e ta) : PI X tg e (iOwnS X.K C sp ta) := by
  refine ⟨fun pins s σ H R I h => ?_⟩
  refine thn (he.run pins s σ H _ I h) fun u s1 ⟨x, H1, I1, rx, a, dx, fs, l, ex, ha, hsp, hR⟩ => ?_
  subst ex
  obtain rfl : u = Value.ref a := rx
  obtain ⟨f, fd, ps, hc, hm, b, len, run⟩ := c.ex
  obtain ⟨mA, J, _⟩ := ins_get I1.hok ha
  obtain ⟨od, J, _⟩ := J.look
  obtain ⟨mm, hF⟩ := I1.fr
  refine PySem.W.owit_iter hF I1.ok.mod.kin J hm.at_ hm.fn ?_
  have hl : ([Value.ref a]).length = ps.length := by rw [← len _ _ _ _ (hsp s1)]; rfl
  refine wpAny_call (codeAny_mono (run X.A X.stack s1 H1 ⟨[.ref a], []⟩ [.ref a] [.ref a] _ (hr.mono hk) I1.env0 (by
    have := b s1 [.ref a] I1.kIn (by simpa using hl)
    simpa using this) (.cons rfl .nil) (hsp s1)) fun r s' hq => ?_)
  cases r with
  | error er => exact False.elim ((pass0 : Passes CX0 X.nox C8.E0) pins σ H1 s1 er s' (I1.wish _) hq)
  | ok fl =>
    cases fl with
    | next => exact False.elim hq
    | brk => exact False.elim hq
    | cont => exact False.elim hq
    | ret u =>
      obtain ⟨v, H2, I2, rv, it, rfl, hit, young, rfl⟩ := I1.after hq
      obtain rfl : u = Value.ref it := rv
      have eo : (upd H1 it (ItO l it 0)) it = some (ItO l it 0) := upd_same
      have hx := itO_get I2 eo
      have hT : s'.TypeIs (.ref it) "list_iterator" := ⟨_, hx, rfl⟩
      unfold PySem.W.OwitIt
      refine wpAny_specialOf (name := Str.ofString "__next__") hT slot_listiter_next.lookup ?_
      have hi' := eo
      unfold ItO at hi'
      have I3 := ItX.inv_drop I2 hi'
      have hfp := ItX.inv_fp I2 eo (Nat.le_trans I1.sz young)
      have ed : ∀ u : HO, ItX.dropH (upd H1 it u) it = H1 := fun u => ItX.dropH_upd hit
      rw [ed] at hfp I3
      exact ⟨it, [it], _, _, H1, rfl, I3, turn_list l it, ⟨_, hx, rfl, rfl⟩, fun b hb => by
        have e : b = it := by simpa using hb
        rw [e]
        exact hfp, hR⟩
section
variable {P : Program} {w : World} {K : PySem.W.Frag} {mg : Str → Option Value} {base : Heap} {f : Addr}
def spIterS (K : PySem.W.Frag) : List V → Shared → Hp → VK → Prop := fun vs s H Q => ∃ (A : LA) (g : Ltr) (o w : List Ltr), vs = [.ref A.p] ∧ LedAt K H A g o w ∧ ∀ it, H it = none → s.heap.objs.size ≤ it → Q (.ref it) (upd H it (ItO A.S.lo it 0))
theorem ok_iter (S : Src K "__iter__" "Ledger.__iter__" s_Ledger_iter f) (T : Txt K mg) (m : Meth K (cG K) "__iter__" f) : MetS P w K mg base 1 (cG K) "__iter__" (spIterS K) := by
  refine metS_of S T.kG m sc_Ledger_iter bi_Ledger_iter (fun vs s H Q h => ?_) (fun cdv A outer s H vs Q hr h => ?_)
  · obtain ⟨A, g, o, w, rfl, _⟩ := h
    rfl
  · obtain ⟨A, g, o, w, rfl, L, k⟩ := h
    obtain ⟨dx, h1⟩ := L.ob
    obtain ⟨as, r1, r2⟩ := L.st.ord
    refine ⟨_, (pss_one (ps_ret (pe_callB ItX.call_iterN (by rfl) T.iter (by decide +kernel) (pa_cons (pe_fld (pv 0) rfl) pa_nil)))), ?_⟩
    exact ⟨_, rfl, A.p, _, dx, _, _, rfl, h1, T.kG, T.gOr, gf_or _ _ _ _ _ _, A.S.lo, _, rfl, SqL.of r1, k⟩
/-! ### asked, takes -/
def spAsked (K : PySem.W.Frag) : Sp := spTake K
theorem ok_asked (S : Src K "_law_asked" "_law_asked" s_law_asked f) (T : Txt K mg) (hm : mg "_law_asked" = some (.ref f)) (mt : Met P w K mg base 7 (cG K) "take" (spTake K) []) : Cal P w K mg base 8 "_law_asked" (spAsked K) [] := by
  refine cal_of S hm sc_law_asked bi_law_asked (fun vs H Q E h => ?_) (fun cdv A outer s H vs Q E hr h => ?_)
  · obtain ⟨A, g, G, o, w, a, l, rfl, _⟩ := h
    rfl
  · obtain ⟨A, g, G, o, w, a, l, rfl, L, hl, rest⟩ := h
    obtain ⟨dx, h1⟩ := L.ob
    refine ⟨_, (pss_cons (ps_try_thru0 (pss_one (ps_ret (pe_mt mt hr (by decide) (pv 0) (pa_cons (pv 1) pa_nil))))) (pss_one ps_never)), ?_⟩
    exact ⟨_, rfl, A.p, dx, _, rfl, h1, rfl, _, rfl, A, g, G, o, w, a, l, rfl, L, hl, rest⟩
/-- a pair: a ledger and its model -/
structure Pr where
  pa : Addr
  A : LA
  d : Addr
  S : SA
  o : List Ltr
  w : List Ltr
def Pr.own (q : Pr) (b : Addr) : Prop := q.A.own q.o b ∨ modOwn q.d q.S q.o b
structure PrAt (K : PySem.W.Frag) (H : Hp) (g : Ltr) (q : Pr) : Prop where
  tab : H q.pa = some (.lst [.ref q.A.p, .ref q.d])
  led : LedAt K H q.A g q.o q.w
  mod : ModAt K H q.d q.S g q.o q.w
  dis : ∀ b, q.A.own q.o b → ¬ modOwn q.d q.S q.o b
  npa : ¬ q.own q.pa
theorem PrAt.ex {H : Hp} {g : Ltr} {q : Pr} (T : Txt K mg) (h : PrAt K H g q) {b : Addr} (z : q.own b) : ∃ u, H b = some u ∧ isMut K u = true := by
  rcases z with z | z
  · exact h.led.ex T.neG T.neR z
  · exact h.mod.ex z
theorem PrAt.kp {H H' : Hp} {g : Ltr} {q : Pr} (h : PrAt K H g q) (i : Im K H H') (e : ∀ b u, (q.own b ∨ b = q.pa) → H b = some u → H' b = some u) : PrAt K H' g q :=
  ⟨e _ _ (.inr rfl) h.tab, h.led.kp i fun b u z => e b u (.inl (.inl z)), h.mod.kp i fun b u z => e b u (.inl (.inr z)), h.dis, h.npa⟩
theorem PrAt.same {H H' : Hp} {g : Ltr} {q : Pr} (h : PrAt K H g q) (s : Same H H') : PrAt K H' g q := h.kp (.same s) fun b u _ z => s b u z
def Pr.after (q : Pr) (g : Ltr) (l : Ltr) (q' : Pr) : Prop := q'.pa = q.pa ∧ q'.A.p = q.A.p ∧ q'.d = q.d ∧ q'.o = (takeS g q.o q.w l).2.1 ∧ q'.w = (takeS g q.o q.w l).2.2
def takeAll (g : Ltr) : List Ltr → List Ltr × List Ltr → List Ltr × List Ltr
  | [], p => p
  | l :: r, p => takeAll g r (takeS g p.1 p.2 l).2
def spTakes (K : PySem.W.Frag) : Sp := fun vs H Q _ => ∃ (q : Pr) (lt : Addr) (g : Ltr) (G ls : List Ltr), vs = [.ref q.pa, .ref lt] ∧ PrAt K H g q ∧ LsAt K H lt ls ∧ ¬ q.own lt ∧ Good g G q.o q.w ∧ (∀ l ∈ ls, l ∈ G) ∧ g.mems.length ≤ 500 ∧ G.length < 64 ∧
  ∀ (q' : Pr) (H' : Hp), PrAt K H' g q' → Step q.own q'.own H H' → q'.pa = q.pa → (q'.o, q'.w) = takeAll g ls (q.o, q.w) → Good g G q'.o q'.w → Q (.bl true) H'
theorem alike_refs2 (qs : List (Str × Nat)) : PySem.W.alike (.list (qs.map refD)) (.list (qs.map refD)) = true := by simp [PySem.W.alike, alike_refs]
theorem depth_refs2 (qs : List (Str × Nat)) : (PyData.list (qs.map refD)).depth ≤ 60 := by
  have := depth_refs qs
  simp only [PyData.depth]
  omega
theorem takeAll_snoc (g : Ltr) : ∀ (ls : List Ltr) (l : Ltr) (p : List Ltr × List Ltr), takeAll g (ls ++ [l]) p = (takeS g (takeAll g ls p).1 (takeAll g ls p).2 l).2
  | [], l, p => rfl
  | a :: r, l, p => by
    show takeAll g (r ++ [l]) _ = _
    rw [takeAll_snoc g r l]
    rfl
theorem ok_takes (S : Src K "_law_takes" "_law_takes" s_law_takes f) (T : Txt K mg) (hm : mg "_law_takes" = some (.ref f)) (ma : Cal P w K mg base 8 "_law_asked" (spAsked K) []) (mt : Cal P w K mg base 6 "_law_take" (spMTake K) []) : Cal P w K mg base 9 "_law_takes" (spTakes K) [] := by
  refine cal_of S hm sc_law_takes bi_law_takes (fun vs H Q E h => ?_) (fun cdv A outer s H vs Q E hr h => ?_)
  · obtain ⟨q, lt, g, G, ls, rfl, _⟩ := h
    rfl
  · obtain ⟨q, lt, g, G, ls, rfl, PA, ⟨as, l1, l2⟩, nlt, gd, hG, hms, hGl, k⟩ := h
    have nd := (fnScope_by sc_law_takes).nd
    refine ⟨_, (pss_cons (ps_for PassesOwn.never rfl (pi_list (pv 1)) (pg_name (i := 2) nd rfl (.inl rfl))
        (pss_one (ps_if (pt_cmpR (op_neSame hr.units) (pe_c ma hr (by decide) (by rfl) (pa_cons (pe_ix ix_list (pv 0) pe_int (fun _ _ => rfl)) (pa_cons (pv 2) pa_nil))) (pe_c mt hr (by decide) (by rfl) (pa_cons (pe_ix ix_list (pv 0) pe_int (fun _ _ => rfl)) (pa_cons (pv 2) pa_nil))) (nomark _)) (pss_one (ps_ret pe_bl)) pss_nil))) (pss_one (ps_ret pe_bl))), ?_⟩
    refine ⟨_, rfl, lt, rfl, ⟨_, SqL.of l1⟩, for_list (K := K) (a := lt) (xs := as.map V.ref) (fun i σ H2 => ∃ (u : Option V) (q2 : Pr), σ = [some (.ref q.pa), some (.ref lt), u] ∧ PrAt K H2 g q2 ∧ Step q.own q2.own H H2 ∧ q2.pa = q.pa ∧ (q2.o, q2.w) = takeAll g (ls.take i) (q.o, q.w) ∧ Good g G q2.o q2.w)
      ⟨none, q, rfl, PA, .same (.refl H), rfl, rfl, gd⟩ ?_ ?_ ?_⟩
    · rintro i σ H2 hi ⟨u, q2, rfl, P2, st, ep, eq2, gd2⟩
      exact SqL.of (st.kp _ _ l1 nlt)
    · rintro i y σ H2 hi ⟨u, q2, rfl, P2, st, ep, eq2, gd2⟩
      obtain ⟨a, ha, rfl⟩ := map_get hi
      obtain ⟨l, hl, hla⟩ := pair_l l2 ha
      have hlG := hG l (List.mem_of_getElem? hl)
      have im2 : Im K H H2 := st.im fun b z => PA.ex T z
      have hla2 := hla.im im2
      refine ⟨_, rfl, q2.pa, _, _, _, by rw [ep], rfl, SqL.of P2.tab, atI0, _, rfl, q2.A, g, G, q2.o, q2.w, a, l, rfl, P2.led, hla2, gd2, hlG, hms, hGl, fun A3 H3 p3 L3 st3 ep3 hp3 rf3 => ?_⟩
      -- the ledger's own step leaves the model
      have exM : ∀ b, modOwn q2.d q2.S q2.o b → ¬ q2.A.own q2.o b := fun b z y => P2.dis b y z
      have im3 : Im K H2 H3 := st3.im fun b z => P2.led.ex T.neG T.neR z
      have M3 := P2.mod.kp im3 fun b u z e => st3.kp b u e (exM b z)
      have hpa3 : H3 q2.pa = some (.lst [.ref q2.A.p, .ref q2.d]) := st3.kp _ _ P2.tab fun z => P2.npa (.inl z)
      refine ⟨_, rfl, q2.pa, _, _, _, by rw [ep], rfl, SqL.of hpa3, atI1, _, rfl, q2.d, a, q2.S, g, G, q2.o, q2.w, l, rfl, M3, hla2.im im3, gd2, hlG, hms, hGl, fun S4 H4 p4 M4 st4 hp4 rf4 => ?_⟩
      have im4 : Im K H3 H4 := st4.im fun b z => M3.ex z
      have nA3 : ∀ b, A3.own (takeS g q2.o q2.w l).2.1 b → ¬ modOwn q2.d q2.S q2.o b := fun b z y => by
        rcases st3.ow b z with z' | z'
        · exact P2.dis b z' y
        · obtain ⟨u, u1, _⟩ := P2.mod.ex y
          rw [z'] at u1
          cases u1
      have L4 := L3.kp im4 fun b u z e => st4.kp b u e (nA3 b z)
      have np3 : ¬ modOwn q2.d q2.S q2.o p3 := fun z => by
        obtain ⟨u, u1, _⟩ := P2.mod.ex z
        rw [hp3] at u1
        cases u1
      have rf34 : RefsAt H4 p3 ((takeS g q2.o q2.w l).1.map wk) := by
        obtain ⟨bs, b1, b2, b3⟩ := rf3
        exact ⟨bs, st4.kp _ _ b1 np3, b2, fun b hb => (b3 b hb).im im4⟩
      refine ⟨_, dp_refs rf34, dp_refs rf4, .inr ⟨_, rfl⟩, alike_refs2 _, depth_refs2 _, _, rfl, ?_⟩
      refine iteF ?_
      have hpa4 : H4 q2.pa = some (.lst [.ref q2.A.p, .ref q2.d]) := st4.kp _ _ hpa3 fun z => P2.npa (.inr z)
      refine ⟨_, ⟨q2.pa, A3, q2.d, S4, (takeS g q2.o q2.w l).2.1, (takeS g q2.o q2.w l).2.2⟩, rfl, ⟨?_, L4, M4, ?_, ?_⟩, st.trans ⟨?_, ?_⟩, ep, ?_, gd2.take hlG⟩
      · show H4 q2.pa = some (.lst [.ref A3.p, .ref q2.d])
        rw [ep3]
        exact hpa4
      · rintro b z y
        have z : A3.own (takeS g q2.o q2.w l).2.1 b := z
        have y : modOwn q2.d S4 (takeS g q2.o q2.w l).2.1 b := y
        rcases st4.ow b y with y' | y'
        · exact nA3 b z y'
        · obtain ⟨u, u1, _⟩ := L3.ex T.neG T.neR z
          rw [y'] at u1
          cases u1
      · rintro (z | z)
        · have z : A3.own (takeS g q2.o q2.w l).2.1 q2.pa := z
          rcases st3.ow _ z with z' | z'
          · exact P2.npa (.inl z')
          · rw [P2.tab] at z'; cases z'
        · have z : modOwn q2.d S4 (takeS g q2.o q2.w l).2.1 q2.pa := z
          rcases st4.ow _ z with z' | z'
          · exact P2.npa (.inr z')
          · rw [hpa3] at z'; cases z'
      · exact fun b u e n => st4.kp b u (st3.kp b u e fun z => n (.inl z)) fun z => n (.inr z)
      · rintro b (z | z)
        · rcases st3.ow b z with z' | z'
          · exact .inl (.inl z')
          · exact .inr z'
        · rcases st4.ow b z with z' | z'
          · exact .inl (.inr z')
          · by_cases n : q2.own b
            · exact .inl n
            · refine .inr ?_
              cases e : H2 b with
              | none => rfl
              | some u =>
                rw [st3.kp _ _ e fun z => n (.inl z)] at z'
                cases z'
      · have e : ls.take (i + 1) = ls.take i ++ [l] := by rw [List.take_add_one, hl]; rfl
        rw [e, takeAll_snoc, ← eq2]
    · rintro σ H2 ⟨u, q2, rfl, P2, st, ep, eq2, gd2⟩
      rw [List.length_map, pair_len l2, List.take_length] at eq2
      exact k q2 H2 P2 st ep eq2 gd2
end
end Lo
set_option Elab.async false
set_option maxHeartbeats 4000000
namespace Lo
open PySem PySem.Spec PyProof.Rows
theorem slt_le {a b c : Str} (h1 : slt b a = false) (h2 : slt c b = false) : slt c a = false := by
  cases q : slt c a with
  | false => rfl
  | true =>
    cases q2 : slt a b with
    | true =>
      rw [slt_trans q q2] at h2
      cases h2
    | false =>
      have e := slt_total h1 q2
      rw [e] at h2
      rw [q] at h2
      cases h2
theorem rising_pw : ∀ (r : List Str) (p : Str), risingS p r = true → (p :: r).Pairwise fun a b => slt b a = false
  | [], p, _ => List.pairwise_singleton _ _
  | x :: r, p, h => by
    unfold risingS at h
    rw [Bool.and_eq_true] at h
    have ih := rising_pw r x h.2
    have hx : slt x p = false := by
      have h1 := h.1
      rw [ltCps_eq] at h1
      unfold slt
      simpa using h1
    refine List.pairwise_cons.mpr ⟨fun y hy => ?_, ih⟩
    rcases List.mem_cons.mp hy with rfl | hy
    · exact hx
    · exact slt_le hx ((List.pairwise_cons.mp ih).1 y hy)
theorem sorted_pw {ys : List Str} (h : sortedS ys = true) : ys.Pairwise fun a b => slt b a = false := by
  cases ys with
  | nil => exact List.Pairwise.nil
  | cons x r => exact rising_pw r x h
theorem sorted_uniq {ys zs : List Str} (hy : sortedS ys = true) (hz : sortedS zs = true) (h : ys.Perm zs) : ys = zs :=
  List.Perm.eq_of_pairwise (le := fun a b => slt b a = false) (fun a b _ _ h1 h2 => slt_total h2 h1) (sorted_pw hy) (sorted_pw hz) h
end Lo
set_option Elab.async false
set_option maxRecDepth 100000
set_option maxHeartbeats 4000000
namespace Lo
open PySem PySem.Spec PyProof.Rows L2
open C8 (Cal Met Mak scC fnScope_by pe_c pe_mk pe_mt pe_mt0)
theorem top_fold (o : List Ltr) : ∀ t : Nat, t ≤ o.foldl (fun t l => max t l.stamp) t ∧ (∀ l ∈ o, l.stamp ≤ o.foldl (fun t l => max t l.stamp) t) ∧ ∀ m, t ≤ m → (∀ l ∈ o, l.stamp ≤ m) → o.foldl (fun t l => max t l.stamp) t ≤ m := by
  induction o with
  | nil => exact fun t => ⟨Nat.le_refl _, fun l h => (by cases h), fun m h _ => h⟩
  | cons a r ih =>
    intro t
    obtain ⟨h1, h2, h3⟩ := ih (max t a.stamp)
    rw [List.foldl_cons]
    refine ⟨by omega, fun l hl => ?_, fun m hm hl => h3 m ?_ fun l q => hl l (List.mem_cons_of_mem _ q)⟩
    · rcases List.mem_cons.mp hl with rfl | hl
      · omega
      · exact h2 l hl
    · have := hl a List.mem_cons_self
      omega
theorem top_is {o : List Ltr} {l : Ltr} (hl : l ∈ o) (h : ∀ y ∈ o, y.stamp ≤ l.stamp) : topN o = l.stamp := by
  obtain ⟨_, h2, h3⟩ := top_fold o 0
  exact Nat.le_antisymm (h3 _ (Nat.zero_le _) h) (h2 l hl)
section
variable {P : Program} {w : World} {K : PySem.W.Frag} {mg : Str → Option Value} {base : Heap} {f : Addr}
theorem alike_refs3 (qs : List (Str × Nat)) : PySem.W.alike (.tuple (qs.map refD)) (.tuple (qs.map refD)) = true := by simp [PySem.W.alike, alike_refs]
theorem depth_refs3 (qs : List (Str × Nat)) : (PyData.tuple (qs.map refD)).depth ≤ 60 := by
  have := depth_refs qs
  simp only [PyData.depth]
  omega
theorem cntL_keys (o : List Ltr) : (cntL o).map (·.1) = auths o := by
  unfold cntL
  rw [List.map_map]
  exact List.map_id _
def spSame (K : PySem.W.Frag) : Sp := fun vs H Q _ => ∃ (A : LA) (d : Addr) (S : SA) (g : Ltr) (o w : List Ltr), vs = [.ref A.p, .ref d] ∧ LedAt K H A g o w ∧ ModAt K H d S g o w ∧ o.length < 63 ∧ w.length < 64 ∧ o ≠ [] ∧ ∀ H' : Hp, Same H H' → Q (.bl true) H'
theorem ok_same (S : Src K "_law_same" "_law_same" s_law_same f) (T : Txt K mg) (hm : mg "_law_same" = some (.ref f)) (mle : Met P w K mg base 1 (cG K) "letters" (spLetters K) []) (mis : Cal P w K mg base 1 "_law_is" spIs []) (mln : Met P w K mg base 1 (cG K) "__len__" (spLen K) [])
    (mit : MetS P w K mg base 1 (cG K) "__iter__" (spIterS K)) (mva : Met P w K mg base 1 (cL K) "value" (spValue K) []) (mco : Cal P w K mg base 1 "_law_counts" (spMCounts K) []) (mgc : Met P w K mg base 1 (cG K) "counts" (spGCounts K) []) (mwa : Met P w K mg base 1 (cG K) "waiting" (spWaits K) [])
    (mto : Prp P w K mg base 1 (cG K) "top" (spTop K)) : Cal P w K mg base 3 "_law_same" (spSame K) [] := by
  refine cal_of S hm sc_law_same bi_law_same (fun vs H Q E h => ?_) (fun cdv A outer s H vs Q E hr h => ?_)
  · obtain ⟨A, d, S, g, o, w, rfl, _⟩ := h
    rfl
  · obtain ⟨A, d, S, g, o, w, rfl, L, M, hol, hwl, hone, k⟩ := h
    obtain ⟨dx, h1⟩ := L.ob
    have hu := hu_of hr
    have nd := (fnScope_by sc_law_same).nd
    refine ⟨_, (pss_cons (ps_set (i := 2) nd rfl (.inl rfl) (pe_dget hu (pv 1) pe_str (fun _ _ => rfl))) (pss_cons (ps_set (i := 3) nd rfl (.inl rfl) (pe_mt0 mle hr (by decide) (pv 0))) (pss_cons (ps_if (PW.pt (pw_or (pt_not (pt_val (pe_callB call_isi (by rfl) T.isi (by decide +kernel) (pa_cons (pv 3) (pa_cons (pe_bltn (v := .ty "list") (by rfl) T.list (by decide +kernel) rfl) pa_nil)))))
          (pw_or (pt_not (pt_val (pe_c mis hr (by decide) (by rfl) (pa_cons (pe_callB (cr_lenOwn mln hr (by decide)) (by rfl) T.len (by decide +kernel) (pa_cons (pv 0) pa_nil)) (pa_cons (pe_callB call_len_seq (by rfl) T.len (by decide +kernel) (pa_cons (pv 2) pa_nil)) pa_nil)))))
          (pw_or1 (pt_cmpR op_ne (pe_callB call_len_seq (by rfl) T.len (by decide +kernel) (pa_cons (pv 3) pa_nil)) (pe_callB call_len_seq (by rfl) T.len (by decide +kernel) (pa_cons (pv 2) pa_nil)) (nomark _)))))) (pss_one (ps_ret pe_bl)) pss_nil) (pss_cons (ps_setLc (i := 4) (own := [("_law_letter", 5)]) (g := gName 5) (tt := tYes) (te := tVar 5) (by rfl) nd rfl rfl (sw_true rfl rfl rfl (by decide +kernel)) (pi_own mit hr (by decide) (pv 0)) (blkOk_by (N := N_law_same) (sc := L2.defScope s_law_same) (by decide +kernel))
          (fun _ _ _ _ _ => pg_name (i := 5) nd rfl (.inl rfl)) (fun _ _ _ _ _ => pts_nil) (fun _ _ _ _ _ => pv 5)) (pss_cons (ps_if (pt_cmpR op_ne (pe_callB call_len_seq (by rfl) T.len (by decide +kernel) (pa_cons (pv 4) pa_nil)) (pe_callB call_len_seq (by rfl) T.len (by decide +kernel) (pa_cons (pv 2) pa_nil)) (nomark _)) (pss_one (ps_ret pe_bl)) pss_nil) (pss_cons (ps_for PassesOwn.never rfl (pi_range1 (by rfl) T.range (pa_cons (pe_callB call_len_seq (by rfl) T.len (by decide +kernel) (pa_cons (pv 2) pa_nil)) pa_nil)) (pg_name (i := 6) nd rfl (.inl rfl))
        (pss_one (ps_if (PW.pt (pw_or (pt_cmpR (op_neSame hr.units) (pe_mt0 mva hr (by decide) (pe_ix ix_list (pv 3) (pv 6) (fun _ _ => rfl))) (pe_mt0 mva hr (by decide) (pe_ix ix_list (pv 2) (pv 6) (fun _ _ => rfl))) (nomark _))
            (pw_or1 (pt_cmpR (op_neSame hr.units) (pe_mt0 mva hr (by decide) (pe_ix ix_list (pv 4) (pv 6) (fun _ _ => rfl))) (pe_mt0 mva hr (by decide) (pe_ix ix_list (pv 2) (pv 6) (fun _ _ => rfl))) (nomark _))))) (pss_one (ps_ret pe_bl)) pss_nil))) (pss_cons (ps_expr (pe_bm PySem.F.plainAttrs_list PySem.F.slot_list_append PySem.F.type_list_append mt_append (pv 3) (pa_cons pe_int pa_nil))) (pss_cons (ps_set (i := 7) nd rfl (.inr rfl) (pe_c mco hr (by decide) (by rfl) (pa_cons (pv 1) pa_nil))) (pss_cons (ps_if (pt_cmpR (op_neSame hr.units) (pe_mt0 mgc hr (by decide) (pv 0)) (pe_callTy call_tuple_of (by rfl) T.tuple (by decide +kernel) (pa_cons (pe_lc (own := [("_law_name", 8)]) (g := gName 8) (tt := tYes)
            (te := tTup (tCons (tVar 8) (tCons (tDGet (tVar 7) (tVar 8)) tNil))) (by rfl) nd (pi_list (pe_callB (call_sortedD rfl) (by rfl) T.sorted (by decide +kernel) (pa_cons (pv 7) pa_nil))) (blkOk_by (N := N_law_same) (sc := L2.defScope s_law_same) (by decide +kernel))
            (fun _ _ _ _ _ => pg_name (i := 8) nd rfl (.inl rfl)) (fun _ _ _ _ _ => pts_nil) (fun _ _ _ _ _ => pe_tup (pa_cons (pv 8) (pa_cons (pe_dget hu (pv 7) (pv 8) (fun _ _ => rfl)) pa_nil)))) pa_nil)) (nomark _)) (pss_one (ps_ret pe_bl)) pss_nil) (pss_cons (ps_for PassesOwn.never rfl (pi_range1 (by rfl) T.range (pa_cons pe_int pa_nil)) (pg_name (i := 9) nd rfl (.inl rfl))
        (pss_cons (ps_set (i := 10) nd rfl (.inl rfl) (pe_mt0 mwa hr (by decide) (pv 0))) (pss_cons (ps_if (PW.pt (pw_or (pt_not (pt_val (pe_callB call_isi (by rfl) T.isi (by decide +kernel) (pa_cons (pv 10) (pa_cons (pe_bltn (v := .ty "list") (by rfl) T.list (by decide +kernel) rfl) pa_nil)))))
            (pw_or (pt_cmpR (op_neSame hr.units) (pv 10) (pe_callB (cr_sortT rfl hr.units) (by rfl) T.sorted (by decide +kernel) (pa_cons (pe_dget hu (pv 1) pe_str (fun _ _ => rfl)) pa_nil)) (nomark _))
            (pw_or1 (pt_cmpR op_ne (pe_callB call_len_seq (by rfl) T.len (by decide +kernel) (pa_cons (pe_mt0 mle hr (by decide) (pv 0)) pa_nil)) (pe_callB call_len_seq (by rfl) T.len (by decide +kernel) (pa_cons (pv 2) pa_nil)) (nomark _)))))) (pss_one (ps_ret pe_bl)) pss_nil) (pss_one (ps_expr (pe_bm PySem.F.plainAttrs_list PySem.F.slot_list_append PySem.F.type_list_append mt_append (pv 10) (pa_cons pe_int pa_nil))))))) (pss_one (ps_ret (pe_and (pe_c mis hr (by decide) (by rfl) (pa_cons (pe_prp mto hr (by decide) (pv 0)) (pa_cons (pe_callB (cr_max rfl) (by rfl) T.max (by decide +kernel) (pa_cons
            (pe_lc (own := [("_law_letter", 5)]) (g := gName 5) (tt := tYes) (te := tFld K (tVar 5) "stamp") (by rfl) nd (pi_list (pv 2)) (blkOk_by (N := N_law_same) (sc := L2.defScope s_law_same) (by decide +kernel))
              (fun _ _ _ _ _ => pg_name (i := 5) nd rfl (.inl rfl)) (fun _ _ _ _ _ => pts_nil) (fun _ _ _ _ _ => pe_fld (pv 5) rfl)) pa_nil)) pa_nil)))
          (pe_one (pe_cmpR op_eq (pe_fld (pv 0) rfl) (pe_dget hu (pv 1) pe_str (fun _ _ => rfl)) (nomark _)))))))))))))))), ?_⟩
    obtain ⟨bs, o1, o2⟩ := M.st.ord
    obtain ⟨ls, l1, l2⟩ := L.st.ord
    have lbo : bs.length = o.length := pair_len o2
    have llo : ls.length = o.length := pair_len l2
    refine ⟨_, rfl, d, _, rfl, M.or, ?_⟩
    refine ⟨_, rfl, A.p, dx, _, rfl, h1, rfl, A, g, o, w, rfl, L, fun p3 as3 hp3 hls3 => ?_⟩
    have s3 : Same H (upd H p3 (.lst (as3.map V.ref))) := same_new hp3
    have t3 : upd H p3 (.lst (as3.map V.ref)) p3 = some (.lst (as3.map V.ref)) := upd_same
    generalize upd H p3 (.lst (as3.map V.ref)) = H3 at s3 t3
    have la3 : as3.length = o.length := pair_len hls3
    refine ⟨_, rfl, .ref p3, _, .type "list", _, true, rfl, .ty _, .base (.lst t3), kit_ty (by decide +kernel), _, rfl, ?_⟩
    refine iteF ⟨_, rfl, A.p, dx, _, rfl, s3 _ _ h1, A, g, o, w, rfl, L.same s3, o.length, rfl, by omega, _, rfl, S.lo, _, rfl, .inl (SqL.of (s3 _ _ o1)), ((o.length : Nat) : Int), by rw [List.length_map, lbo]; rfl, _, rfl, ?_⟩
    refine iteF ⟨_, rfl, p3, _, rfl, .inl (SqL.of t3), _, rfl, S.lo, _, rfl, .inl (SqL.of (s3 _ _ o1)), rfl, _, rfl, ?_⟩
    have e3 : (!decide (V.int ((as3.map V.ref).length : Nat) = V.int ((bs.map V.ref).length : Nat))) = false := by
      rw [List.length_map, List.length_map, la3, lbo, decide_eq_true rfl]
      rfl
    rw [e3]
    refine iteF ?_
    -- walked
    refine ⟨_, rfl, A.p, dx, _, A.S.lo, rfl, s3 _ _ h1, fun s' => ⟨A, g, o, w, rfl, L.same s3, fun it hit hy => ⟨it, rfl, hit, hy, rfl⟩⟩, fun D hD => ?_⟩
    have hDl : A.S.lo ≠ D := ne_of_none (s3 _ _ l1) hD
    refine lc_list (K := K) (a := A.S.lo) (xs := ls.map V.ref) (fun i H4 => H4 = upd H3 D (.lst ((ls.take i).map V.ref))) rfl ?_ ?_ ?_
    · rintro i H4 _ rfl
      exact SqL.of (by rw [upd_ne hDl]; exact s3 _ _ l1)
    · rintro i x H4 hi rfl
      obtain ⟨c, hc, rfl⟩ := map_get hi
      refine ⟨rfl, ?_⟩
      refine yes_i ?_
      refine ⟨_, rfl, _, upd_same, by rw [List.length_map, List.length_take, sizeLine_eq]; omega, ?_⟩
      rw [upd_upd, List.take_add_one, hc]
      simp
    · rintro H4 rfl
      rw [List.length_map, List.take_length]
      have s4' : Same H3 (upd H3 D (.lst (ls.map V.ref))) := same_new hD
      have t4 : upd H3 D (.lst (ls.map V.ref)) D = some (.lst (ls.map V.ref)) := upd_same
      generalize upd H3 D (.lst (ls.map V.ref)) = H4 at s4' t4
      have s4 := s3.trans s4'
      refine ⟨_, rfl, D, _, rfl, .inl (SqL.of t4), _, rfl, S.lo, _, rfl, .inl (SqL.of (s4 _ _ o1)), rfl, _, rfl, ?_⟩
      have e4 : (!decide (V.int ((ls.map V.ref).length : Nat) = V.int ((bs.map V.ref).length : Nat))) = false := by
        rw [List.length_map, List.length_map, llo, lbo, decide_eq_true rfl]
        rfl
      rw [e4]
      refine iteF ?_
      -- the values
      refine ⟨_, rfl, S.lo, _, rfl, .inl (SqL.of (s4 _ _ o1)), _, rfl, by rw [List.length_map]; omega, by rw [List.length_map]; omega, ?_⟩
      rw [Int.toNat_natCast, List.length_map, lbo]
      refine for_range (lo := 0) (n := o.length) (fun i σ H5 => ∃ u : Option V, σ = [some (.ref A.p), some (.ref d), some (.ref S.lo), some (.ref p3), some (.ref D), none, u, none, none, none, none] ∧ Same H4 H5) ⟨none, rfl, .refl H4⟩ ?_ ?_
      · rintro i σ H5 hi ⟨u, rfl, s5'⟩
        have s5 := s4.trans s5'
        obtain ⟨l, hl⟩ : ∃ l, o[i]? = some l := ⟨_, List.getElem?_eq_getElem hi⟩
        obtain ⟨c1, hc1, hl1⟩ := pair_r hls3 hl
        obtain ⟨c2, hc2, hl2⟩ := pair_r o2 hl
        obtain ⟨c3, hc3, hl3⟩ := pair_r l2 hl
        obtain ⟨dy1, _, _, a1, _⟩ := id hl1
        obtain ⟨dy2, _, _, a2, _⟩ := id hl2
        obtain ⟨dy3, _, _, a3, _⟩ := id hl3
        have at1 : atI (as3.map V.ref) (0 + ((i : Nat) : Int)) = some (.ref c1) := by rw [Int.zero_add]; exact atI_nat (by rw [List.getElem?_map, hc1]; rfl)
        have at2 : atI (bs.map V.ref) (0 + ((i : Nat) : Int)) = some (.ref c2) := by rw [Int.zero_add]; exact atI_nat (by rw [List.getElem?_map, hc2]; rfl)
        have at3 : atI (ls.map V.ref) (0 + ((i : Nat) : Int)) = some (.ref c3) := by rw [Int.zero_add]; exact atI_nat (by rw [List.getElem?_map, hc3]; rfl)
        refine ⟨_, rfl, _, rfl, p3, _, _, _, rfl, rfl, SqL.of (s5' _ _ (s4' _ _ t3)), at1, c1, dy1, _, rfl, s5 _ _ a1, rfl, c1, l, rfl, hl1.im (K := K) (.same s5), fun ts1 tb1 q1 x1 y1 hq1 => ?_⟩
        have v6 := valAt_new (K := K) hq1 x1 y1
        have s6' := same_new (o := valT l ts1 tb1) hq1
        generalize upd H5 q1 (valT l ts1 tb1) = H6 at v6 s6'
        have s6 := s5.trans s6'
        refine ⟨_, rfl, _, rfl, S.lo, _, _, _, rfl, rfl, SqL.of (s6 _ _ o1), at2, c2, dy2, _, rfl, s6 _ _ a2, rfl, c2, l, rfl, hl2.im (K := K) (.same s6), fun ts2 tb2 q2 x2 y2 hq2 => ?_⟩
        have v7 := valAt_new (K := K) hq2 x2 y2
        have s7' := same_new (o := valT l ts2 tb2) hq2
        generalize upd H6 q2 (valT l ts2 tb2) = H7 at v7 s7'
        have s7 := s6.trans s7'
        refine ⟨letD l, (v6.same K s7').dp, v7.dp, .inl ⟨_, rfl⟩, alike_let l, depth_let l, _, rfl, ?_⟩
        refine iteF ⟨_, rfl, _, rfl, D, _, _, _, rfl, rfl, SqL.of ((s5'.trans (s6'.trans s7')) _ _ t4), at3, c3, dy3, _, rfl, s7 _ _ a3, rfl, c3, l, rfl, hl3.im (K := K) (.same s7), fun ts3 tb3 q3 x3 y3 hq3 => ?_⟩
        have v8 := valAt_new (K := K) hq3 x3 y3
        have s8' := same_new (o := valT l ts3 tb3) hq3
        generalize upd H7 q3 (valT l ts3 tb3) = H8 at v8 s8'
        have s8 := s7.trans s8'
        refine ⟨_, rfl, _, rfl, S.lo, _, _, _, rfl, rfl, SqL.of (s8 _ _ o1), at2, c2, dy2, _, rfl, s8 _ _ a2, rfl, c2, l, rfl, hl2.im (K := K) (.same s8), fun ts4 tb4 q4 x4 y4 hq4 => ?_⟩
        have v9 := valAt_new (K := K) hq4 x4 y4
        have s9' := same_new (o := valT l ts4 tb4) hq4
        generalize upd H8 q4 (valT l ts4 tb4) = H9 at v9 s9'
        refine ⟨letD l, (v8.same K s9').dp, v9.dp, .inl ⟨_, rfl⟩, alike_let l, depth_let l, _, rfl, ?_⟩
        refine iteF ?_
        exact ⟨_, rfl, s5'.trans (s6'.trans (s7'.trans (s8'.trans s9')))⟩
      · rintro σ H5 ⟨u, rfl, s5'⟩
        have s5 := s4.trans s5'
        have t5 := s5' _ _ (s4' _ _ t3)
        refine ⟨_, rfl, .inl ⟨rfl, _, SqL.of t5⟩, p3, _, _, rfl, rfl, t5, by rw [List.length_map, sizeLine_eq]; omega, ?_⟩
        have s6 : Same H (upd H5 p3 (.lst (as3.map V.ref ++ [.int 0]))) := fun b u e => by
          rw [upd_ne (ne_of_none e hp3)]
          exact s5 _ _ e
        generalize upd H5 p3 (.lst (as3.map V.ref ++ [.int 0])) = H6 at s6
        refine ⟨_, rfl, d, S, g, o, w, rfl, M.same s6, by omega, fun c7 H7 hc7 s7' hcc => ?_⟩
        have s7 := s6.trans s7'
        refine ⟨_, rfl, A.p, dx, _, rfl, s7 _ _ h1, rfl, A, g, o, w, rfl, L.same s7, by omega, fun t8 H8 ys hys hso hse s8' ht8 => ?_⟩
        have s8 := s7.trans s8'
        have hal := auths_len o
        refine ⟨_, rfl, c7, _, auths o, rfl, .inl (s8' _ _ hcc), ?_, by omega, fun zs l9 hzs hzo hl9 => ?_⟩
        · rw [limK_keys, cntL_keys]
        have eyz : zs = ys := sorted_uniq hzo hso (hzs.trans hys.symm)
        subst eyz
        refine ⟨l9, rfl, ⟨_, SqL.of upd_same⟩, fun E hE => ?_⟩
        have hEl : E ≠ l9 := fun z => by rw [z, upd_same] at hE; cases hE
        have s9' : Same H8 (upd H8 l9 (.lst (zs.map V.str))) := same_new hl9
        have l91 : upd H8 l9 (.lst (zs.map V.str)) l9 = some (.lst (zs.map V.str)) := upd_same
        generalize upd H8 l9 (.lst (zs.map V.str)) = H9 at s9' l91 hE
        have hzl := hzs.length_eq
        refine lc_list (K := K) (a := l9) (xs := zs.map V.str) (fun i H10 => Same H9 H10 ∧ ∃ ps : List Addr, H10 E = some (.lst (ps.map V.ref)) ∧ Paired (fun (p : Addr) (q : Str × Nat) => H10 p = some (.tup [.str q.1, .int q.2])) ps ((zs.take i).map fun y => (y, heldN o y)))
          ⟨same_new hE, [], upd_same, .nil⟩ (fun i H10 _ q => SqL.of (q.1 _ _ l91)) ?_ ?_
        · rintro i y H10 hi ⟨s10, ps, e1, e2⟩
          obtain ⟨z, hz, rfl⟩ := map_get hi
          have hzin := hzs.mem_iff.mp (List.mem_of_getElem? hz)
          have dg := cnt_get (s10 _ _ (s9' _ _ (s8' _ _ hcc))) z
          rw [if_pos hzin] at dg
          refine ⟨rfl, ?_⟩
          refine yes_i ?_
          refine ⟨_, rfl, _, rfl, _, rfl, c7, _, rfl, dg, (by show 2 ≤ sizeLine; decide), fun p hp => ?_⟩
          have hpD : p ≠ E := fun z => by rw [z, e1] at hp; cases hp
          have hpl : ps.length < sizeLine := by
            have h5 := pair_len e2
            rw [List.length_map, List.length_take] at h5
            rw [sizeLine_eq]
            omega
          refine ⟨ps.map V.ref, by rw [upd_ne hpD.symm]; exact e1, by rw [List.length_map]; exact hpl, ?_, ps ++ [p], by rw [List.map_append]; exact upd_same, ?_⟩
          · intro b u e
            rw [upd_ne (fun z => by rw [z, hE] at e; cases e), upd_ne (fun z => by have := s10 _ _ e; rw [z, hp] at this; cases this)]
            exact s10 _ _ e
          · have e3 : (zs.take (i + 1)).map (fun y => (y, heldN o y)) = (zs.take i).map (fun y => (y, heldN o y)) ++ [(z, heldN o z)] := by
              rw [List.take_add_one, hz]
              simp
            rw [e3]
            refine SeenAt.snoc (Paired.mapP e2 fun a b r => ?_) ?_
            · rw [upd_ne (fun z => by rw [z, e1] at r; cases r), upd_ne (fun z => by rw [z, hp] at r; cases r)]
              exact r
            · rw [upd_ne hpD, upd_same]
        · rintro H10 ⟨s10, ps, e1, e2⟩
          rw [List.length_map, List.take_length] at e2
          refine ⟨E, _, rfl, .inl ⟨SqL.of e1, fun t11 ht11 => ?_⟩⟩
          have s11' : Same H10 (upd H10 t11 (.tup (ps.map V.ref))) := same_new ht11
          have se11 : SeenAt (upd H10 t11 (.tup (ps.map V.ref))) t11 (zs.map fun y => (y, heldN o y)) := ⟨ps, upd_same, Paired.mapP e2 fun a b r => s11' _ _ r⟩
          generalize upd H10 t11 (.tup (ps.map V.ref)) = H11 at s11' se11
          have s811 := s9'.trans (s10.trans s11')
          have s11 := s8.trans s811
          refine ⟨_, dp_seen (hse.im (K := K) (.same s811)), dp_seen se11, .inl ⟨_, rfl⟩, alike_refs3 _, depth_refs3 _, _, rfl, ?_⟩
          refine iteF ?_
          refine ⟨2, rfl, by decide, by decide, ?_⟩
          refine for_range (lo := 0) (n := 2) (fun i σ H12 => ∃ u9 u10 : Option V, σ = [some (.ref A.p), some (.ref d), some (.ref S.lo), some (.ref p3), some (.ref D), none, u, some (.ref c7), none, u9, u10] ∧ Same H H12) ⟨none, none, rfl, s11⟩ ?_ ?_
          · rintro i σ H12 hi ⟨u9, u10, rfl, s12⟩
            refine ⟨_, rfl, A.p, dx, _, rfl, s12 _ _ h1, rfl, A, g, o, w, rfl, L.same s12, fun p13 H13 hp13 s13' rf13 => ?_⟩
            have s13 := s12.trans s13'
            have hb13 : ∃ zs, H13 p13 = some (.lst zs) := by
              obtain ⟨bs, b1, _⟩ := rf13
              exact ⟨_, b1⟩
            obtain ⟨zs13, hz13⟩ := hb13
            obtain ⟨kv, w1, w2⟩ := (M.same s13).st.wait
            refine ⟨_, rfl, .ref p13, _, .type "list", _, true, rfl, .ty _, .base (.lst hz13), kit_ty (by decide +kernel), _, rfl, ?_⟩
            refine iteF ⟨_, rfl, _, rfl, d, _, rfl, (M.same s13).wa, S.dw, kv, _, rfl, .inl w1, keys_wait w2, fun p14 bs14 e14 hb14 hp14 => ?_⟩
            have rf14 := refs_sorted hp14 e14 hb14
            have s14' := same_new (o := .lst ((sortR bs14).map fun b => V.ref b.1)) hp14
            generalize upd H13 p14 (.lst ((sortR bs14).map fun b => V.ref b.1)) = H14 at rf14 s14'
            have s14 := s13.trans s14'
            have rf13' : RefsAt H14 p13 (sortQ (w.map fun l => (l.au, l.num))) := by
              obtain ⟨bs, b1, b2, b3⟩ := rf13
              exact ⟨bs, s14' _ _ b1, b2, fun b hb => s14' _ _ (b3 b hb)⟩
            refine ⟨_, dp_refs rf13', dp_refs rf14, .inr ⟨_, rfl⟩, alike_refs2 _, depth_refs2 _, _, rfl, ?_⟩
            refine iteF ⟨_, rfl, A.p, dx, _, rfl, s14 _ _ h1, rfl, A, g, o, w, rfl, L.same s14, fun p15 as15 hp15 hls15 => ?_⟩
            have s15' := same_new (o := .lst (as15.map V.ref)) hp15
            have t15 : upd H14 p15 (.lst (as15.map V.ref)) p15 = some (.lst (as15.map V.ref)) := upd_same
            generalize upd H14 p15 (.lst (as15.map V.ref)) = H15 at s15' t15
            have s15 := s14.trans s15'
            refine ⟨p15, _, rfl, .inl (SqL.of t15), _, rfl, S.lo, _, rfl, .inl (SqL.of (s15 _ _ o1)), rfl, _, rfl, ?_⟩
            have e15 : (!decide (V.int ((as15.map V.ref).length : Nat) = V.int ((bs.map V.ref).length : Nat))) = false := by
              rw [List.length_map, List.length_map, pair_len hls15, lbo, decide_eq_true rfl]
              rfl
            rw [e15]
            refine iteF ?_
            have hz15 := s15' _ _ (s14' _ _ hz13)
            have hzl13 : zs13.length ≤ 64 := by
              obtain ⟨bs, b1, b2, _⟩ := rf13
              rw [b1] at hz13
              cases hz13
              have := congrArg List.length b2
              rw [List.length_map] at this
              rw [List.length_map, this]
              unfold sortQ
              rw [List.length_mergeSort, List.length_map]
              omega
            refine ⟨_, rfl, .inl ⟨rfl, _, SqL.of hz15⟩, p13, _, _, rfl, rfl, hz15, by rw [sizeLine_eq]; omega, ?_⟩
            refine ⟨_, _, rfl, fun b u e => ?_⟩
            rw [upd_ne (ne_of_none e (s12.free hp13))]
            exact s15 _ _ e
          · rintro σ H12 ⟨u9, u10, rfl, s12⟩
            refine ⟨_, rfl, A.p, dx, _, rfl, s12 _ _ h1, A, g, o, w, rfl, L.same s12, ?_⟩
            refine ⟨_, rfl, S.lo, rfl, ⟨_, SqL.of (s12 _ _ o1)⟩, fun F hF => ?_⟩
            have hFo : S.lo ≠ F := ne_of_none (s12 _ _ o1) hF
            refine lc_list (K := K) (a := S.lo) (xs := bs.map V.ref) (fun i H13 => H13 = upd H12 F (.lst (((o.take i).map fun l => ((l.stamp : Nat) : Int)).map V.int))) rfl ?_ ?_ ?_
            · rintro i H13 _ rfl
              exact SqL.of (by rw [upd_ne hFo]; exact s12 _ _ o1)
            · rintro i x H13 hi rfl
              obtain ⟨c, hc, rfl⟩ := map_get hi
              obtain ⟨l, hl, hcl⟩ := pair_l o2 hc
              obtain ⟨dy, _, _, a1, _⟩ := id hcl
              refine ⟨rfl, ?_⟩
              refine yes_i ?_
              refine ⟨_, rfl, c, _, dy, _, _, rfl, by rw [upd_ne (ne_of_none (s12 _ _ a1) hF)]; exact s12 _ _ a1, T.kL, T.nSt, lf_st _ _ _, _, upd_same, by rw [List.length_map, List.length_map, List.length_take, sizeLine_eq]; omega, ?_⟩
              rw [upd_upd, List.take_add_one, hl]
              simp
            · rintro H13 rfl
              have eto : o.take (bs.map V.ref).length = o := List.take_of_length_le (by rw [List.length_map, lbo]; exact Nat.le_refl _)
              rw [eto]
              have s13 : Same H (upd H12 F (.lst ((o.map fun l => ((l.stamp : Nat) : Int)).map V.int))) := s12.trans (same_new hF)
              refine ⟨F, _, rfl, SqL.of upd_same, by rw [List.length_map]; exact List.length_pos_iff.mpr hone, fun m hm1 hm2 => ?_⟩
              obtain ⟨l, hl, rfl⟩ := List.mem_map.mp hm1
              have etop : topN o = l.stamp := top_is hl fun y hy => by
                have := hm2 _ (List.mem_map.mpr ⟨y, hy, rfl⟩)
                omega
              refine ⟨((l.stamp : Nat) : Int), by rw [etop]; rfl, _, rfl, ?_⟩
              refine iteT ⟨_, rfl, A.p, _, dx, _, _, rfl, s13 _ _ h1, T.kG, T.gFo, gf_fo _ _ _ _ _ _, _, rfl, d, _, rfl, (M.same s13).fo, rfl, ?_⟩
              show Q (.bl (decide (V.str g.au = V.str g.au))) _
              rw [decide_eq_true rfl]
              exact k _ s13
end
end Lo
set_option Elab.async false
set_option maxRecDepth 100000
set_option maxHeartbeats 4000000
namespace Lo
open PySem PySem.Spec PyProof.Rows L2
open C8 (Cal Met Mak scC fnScope_by pe_c pe_mk pe_mt pe_mt0)
theorem pair_drop {α β : Type} {F : α → β → Prop} : ∀ {xs : List α} {ys : List β} (n : Nat), Paired F xs ys → Paired F (xs.drop n) (ys.drop n)
  | _, _, 0, h => h
  | _, _, _ + 1, .nil => .nil
  | _, _, n + 1, .cons _ t => pair_drop n t
theorem pair_take {α β : Type} {F : α → β → Prop} : ∀ {xs : List α} {ys : List β} (n : Nat), Paired F xs ys → Paired F (xs.take n) (ys.take n)
  | _, _, 0, _ => .nil
  | _, _, _ + 1, .nil => .nil
  | _, _, n + 1, .cons r t => .cons r (pair_take n t)
theorem pair_rev {α β : Type} {F : α → β → Prop} {xs : List α} {ys : List β} (h : Paired F xs ys) : Paired F xs.reverse ys.reverse := by
  induction h with
  | nil => exact .nil
  | cons r _ ih =>
    rw [List.reverse_cons, List.reverse_cons]
    exact pair_app ih (.cons r .nil)
section
variable {P : Program} {w : World} {K : PySem.W.Frag} {mg : Str → Option Value} {base : Heap} {f : Addr}
theorem mod2 (n : Nat) : (((n : Nat) : Int)).fmod 2 = 0 ∨ (((n : Nat) : Int)).fmod 2 = 1 := by
  have h1 := Int.fmod_nonneg_of_pos (n : Int) (b := 2) (by decide)
  have h2 := Int.fmod_lt_of_pos (n : Int) (b := 2) (by decide)
  omega
def spBody (K : PySem.W.Frag) : Sp := fun vs H Q _ => ∃ (A : LA) (g : Ltr) (o w : List Ltr) (x : Str) (pp s : Addr) (ns : List Str), vs = [.ref A.p, .str x, .ref pp, .ref s] ∧ LedAt K H A g o w ∧ H pp = some (.lst (ns.map V.str)) ∧ ns ≠ [] ∧ ns.length < 1000 ∧ (∀ y ∈ ns, NameOk y) ∧ StmAt H s ∧ ¬ A.own o s ∧ pp ≠ s ∧
  ∀ (t : Addr) (b : Bdy) (H' : Hp), BodyAt H' t b → GoodB b → (∀ l : Ltr, l.body = b → l.act = true → actOk (rollS g o) x b) → StmAt H' s → (∀ c u, H c = some u → c ≠ s → H' c = some u) → Q (.ref t) H'
theorem ok_body (S : Src K "_law_body" "_law_body" s_law_body f) (T : Txt K mg) (hm : mg "_law_body" = some (.ref f)) (mn : Cal P w K mg base 1 "_law_next" spNxt []) (mro : Prp P w K mg base 1 (cG K) "roll" (spRoll K)) (mk : Met P w K mg base 1 (cR K) "is_known" (spKnown K) []) (mm : Met P w K mg base 1 (cR K) "is_member" (spMember K) []) :
    Cal P w K mg base 3 "_law_body" (spBody K) [] := by
  refine cal_of S hm sc_law_body bi_law_body (fun vs H Q E h => ?_) (fun cdv A outer s H vs Q E hr h => ?_)
  · obtain ⟨A, g, o, w, x, pp, s, ns, rfl, _⟩ := h
    rfl
  · obtain ⟨A, g, o, w, x, pp, s, ns, rfl, L, hpp, hne, hnl, hok, hs, nos, nps, k⟩ := h
    have nd := (fnScope_by sc_law_body).nd
    refine ⟨_, (pss_cons (ps_set (i := 4) nd rfl (.inl rfl) (pe_ix ix_list (pv 2) (pe_c mn hr (by decide) (by rfl) (pa_cons (pv 3) (pa_cons (pe_callB call_len_seq (by rfl) T.len (by decide +kernel) (pa_cons (pv 2) pa_nil)) pa_nil))) (fun _ _ => rfl))) (pss_cons (ps_set (i := 5) nd rfl (.inl rfl) (pe_c mn hr (by decide) (by rfl) (pa_cons (pv 3) (pa_cons pe_int pa_nil)))) (pss_cons (ps_set (i := 6) nd rfl (.inl rfl) (pe_prp mro hr (by decide) (pv 0))) (pss_cons (ps_if (PW.pt (pw_and (pt_cmpR op_eq (pv 1) (pe_fld (pv 6) rfl) (nomark _)) (pw_and (pt_cmpR op_lt (pv 5) pe_int (nomark _)) (pw_and1 (pt_not (pt_val (pe_mt mk hr (by decide) (pv 6) (pa_cons (pv 4) pa_nil)))))))) (pss_one (ps_ret (pe_tup (pa_cons pe_str (pa_cons (pv 4) pa_nil))))) pss_nil) (pss_cons (ps_if (PW.pt (pw_and (pt_cmpR op_eq (pv 1) (pe_fld (pv 6) rfl) (nomark _)) (pw_and (pt_cmpR op_lt (pv 5) pe_int (nomark _)) (pw_and (pt_cmpR op_ne (pv 4) (pv 1) (nomark _)) (pw_and1 (pt_val (pe_mt mm hr (by decide) (pv 6) (pa_cons (pv 4) pa_nil)))))))) (pss_one (ps_ret (pe_tup (pa_cons (pe_ix ix_tup (pe_tup (pa_cons pe_str (pa_cons pe_str pa_nil))) (pe_op op_modN (pv 5) pe_int) (fun _ _ => rfl)) (pa_cons (pv 4) pa_nil))))) pss_nil) (pss_one (ps_ret (pe_ix ix_tup (pe_tup (pa_cons (pe_tup (pa_cons pe_str (pa_cons pe_str pa_nil))) (pa_cons (pe_tup (pa_cons pe_str pa_nil)) pa_nil))) (pe_op op_modN (pv 5) pe_int) (fun _ _ => rfl))))))))), ?_⟩
    have hpos : 0 < ns.length := List.length_pos_iff.mpr hne
    refine ⟨_, rfl, _, rfl, _, rfl, pp, _, rfl, .inl (SqL.of hpp), s, ns.length, by rw [List.length_map]; rfl, hs, hpos, hnl, fun r x1 y1 hr1 => ?_⟩
    have p1 : upd H s (.lst [.int x1, .int y1]) pp = some (.lst (ns.map V.str)) := by rw [upd_ne nps]; exact hpp
    obtain ⟨y, hy⟩ : ∃ y, ns[r]? = some y := ⟨_, List.getElem?_eq_getElem hr1⟩
    have hym := List.mem_of_getElem? hy
    refine ⟨pp, _, _, V.str y, rfl, rfl, SqL.of p1, atI_nat (by rw [List.getElem?_map, hy]; rfl), ?_⟩
    refine ⟨_, rfl, s, 8, rfl, ⟨x1, y1, upd_same⟩, by decide, by decide, fun q x2 y2 hq1 => ?_⟩
    rw [upd_upd]
    obtain ⟨sx, sy, hs0⟩ := hs
    have k2 : ∀ b u, H b = some u → b ≠ s → upd H s (.lst [.int x2, .int y2]) b = some u := kpu
    have s2 : upd H s (.lst [.int x2, .int y2]) s = some (.lst [.int x2, .int y2]) := upd_same
    have i2 : Im K H (upd H s (.lst [.int x2, .int y2])) := .set hs0 rfl
    have L2 := L.kp i2 fun b u z e => k2 b u e fun y => nos (y ▸ z)
    generalize upd H s (.lst [.int x2, .int y2]) = H2 at k2 s2 L2
    obtain ⟨dx, h1⟩ := L2.ob
    obtain ⟨dr, r1⟩ := L2.rl.ob
    refine ⟨_, rfl, A.p, dx, _, rfl, h1, A, g, o, w, rfl, L2, ?_⟩
    have fin : ∀ (t : Addr) (b : Bdy) (H' : Hp), Same H2 H' → BodyAt H' t b → GoodB b → (∀ l : Ltr, l.body = b → l.act = true → actOk (rollS g o) x b) → Q (.ref t) H' := fun t b H' s' hb hg ha => k t b H' hb hg ha ⟨x2, y2, s' _ _ s2⟩ fun c u e n => s' _ _ (k2 c u e n)
    -- the last line
    have last : (tRet (tOp (rIxT K) (tTup (tCons (tTup (tCons (tC (.str "say")) (tCons (tC (.str "x")) tNil))) (tCons (tTup (tCons (tC (.str "seen")) tNil)) tNil))) (tOp (rI (fun _ j => j ≠ 0) fun i j => .int (i.fmod j)) (tVar 5) (tC (.int 2)))))
        { nx := fun _ H' => Q .non H', rt := Q } [some (.ref A.p), some (.str x), some (.ref pp), some (.ref s), some (.str y), some (.int (q : Nat)), some (.ref A.r)] H2 := by
      refine ⟨(by show 2 ≤ sizeLine; decide), fun t1 ht1 => ?_⟩
      have s3 := same_new (o := .tup [.str "say", .str "x"]) ht1
      have e3 : upd H2 t1 (.tup [.str "say", .str "x"]) t1 = some (.tup [.str "say", .str "x"]) := upd_same
      generalize upd H2 t1 (.tup [.str "say", .str "x"]) = H3 at s3 e3
      refine ⟨(by show 1 ≤ sizeLine; decide), fun t2 ht2 => ?_⟩
      have s4 := same_new (o := .tup [.str "seen"]) ht2
      have e4 : upd H3 t2 (.tup [.str "seen"]) t2 = some (.tup [.str "seen"]) := upd_same
      generalize upd H3 t2 (.tup [.str "seen"]) = H4 at s4 e4
      refine ⟨(by show 2 ≤ sizeLine; decide), fun t3 ht3 => ?_⟩
      have s5 := same_new (o := .tup [.ref t1, .ref t2]) ht3
      have e5 : upd H4 t3 (.tup [.ref t1, .ref t2]) t3 = some (.tup [.ref t1, .ref t2]) := upd_same
      generalize upd H4 t3 (.tup [.ref t1, .ref t2]) = H5 at s5 e5
      refine ⟨_, rfl, _, _, rfl, rfl, (by show (2 : Int) ≠ 0; decide), ?_⟩
      rcases mod2 q with e | e
      · refine ⟨t3, _, _, V.ref t1, rfl, rfl, SqT.of e5, by rw [e]; exact atI0, ?_⟩
        exact fin t1 .say H5 (s3.trans (s4.trans s5)) (s5 _ _ (s4 _ _ e3)) trivial fun l e h => by unfold Ltr.act at h; rw [e] at h; cases h
      · refine ⟨t3, _, _, V.ref t2, rfl, rfl, SqT.of e5, by rw [e]; exact atI1, ?_⟩
        exact fin t2 .seen H5 (s3.trans (s4.trans s5)) (s5 _ _ e4) trivial fun l e h => by unfold Ltr.act at h; rw [e] at h; cases h
    have second : (tSeq (tIfS (tAnd (tTest (tOp rEq (tVar 1) (tFld K (tVar 6) "keeper"))) (tAnd (tTest (tOp (rI0 fun i j => .bl (decide (i < j))) (tVar 5) (tC (.int 4)))) (tAnd (tTest (tOp rNe (tVar 4) (tVar 1))) (tB (tMeth (cR K) "is_member" (spMember K) [] C8.E0 (tVar 6) (tCons (tVar 4) tNil))))))
          (tRet (tTup (tCons (tOp (rIxT K) (tTup (tCons (tC (.str "cut")) (tCons (tC (.str "hand")) tNil))) (tOp (rI (fun _ j => j ≠ 0) fun i j => .int (i.fmod j)) (tVar 5) (tC (.int 2)))) (tCons (tVar 4) tNil)))) tNext)
        (tRet (tOp (rIxT K) (tTup (tCons (tTup (tCons (tC (.str "say")) (tCons (tC (.str "x")) tNil))) (tCons (tTup (tCons (tC (.str "seen")) tNil)) tNil))) (tOp (rI (fun _ j => j ≠ 0) fun i j => .int (i.fmod j)) (tVar 5) (tC (.int 2))))))
        { nx := fun _ H' => Q .non H', rt := Q } [some (.ref A.p), some (.str x), some (.ref pp), some (.ref s), some (.str y), some (.int (q : Nat)), some (.ref A.r)] H2 := by
      refine ⟨_, rfl, _, rfl, A.r, _, dr, _, _, rfl, r1, T.kR, T.nKe, rf_ke _ _ _ _, rfl, _, rfl, ?_⟩
      refine ite2 (fun hk => ?_) (fun _ => ?_)
      · have hkx : x = (rollS g o).keeper := V.str.inj (of_decide_eq_true hk)
        refine ⟨_, rfl, _, _, rfl, rfl, _, rfl, ?_⟩
        refine ite2 (fun _ => ?_) (fun _ => ?_)
        · refine ⟨_, rfl, _, rfl, rfl, _, rfl, ?_⟩
          refine ite2 (fun hyx => ?_) (fun _ => ?_)
          · have hyx2 : y ≠ x := fun z => by rw [z] at hyx; simp at hyx
            refine ⟨_, rfl, A.r, dr, _, rfl, r1, rfl, _, rfl, A.r, A.dc, A.dl, _, y, rollS g o, rfl, L2.rl, _, rfl, ?_⟩
            cases hmem : (rollS g o).mem y with
            | true =>
              refine iteT ⟨(by show 2 ≤ sizeLine; decide), fun t1 ht1 => ?_⟩
              have s3 := same_new (o := .tup [.str "cut", .str "hand"]) ht1
              have e3 : upd H2 t1 (.tup [.str "cut", .str "hand"]) t1 = some (.tup [.str "cut", .str "hand"]) := upd_same
              generalize upd H2 t1 (.tup [.str "cut", .str "hand"]) = H3 at s3 e3
              refine ⟨_, rfl, _, _, rfl, rfl, (by show (2 : Int) ≠ 0; decide), ?_⟩
              rcases mod2 q with e | e
              · refine ⟨t1, _, _, V.str "cut", rfl, rfl, SqT.of e3, by rw [e]; exact atI0, _, rfl, (by show 2 ≤ sizeLine; decide), fun t2 ht2 => ?_⟩
                exact fin t2 (.cut y) _ (s3.trans (same_new ht2)) upd_same (hok y hym) fun _ _ _ => ⟨hkx, hyx2, hmem⟩
              · refine ⟨t1, _, _, V.str "hand", rfl, rfl, SqT.of e3, by rw [e]; exact atI1, _, rfl, (by show 2 ≤ sizeLine; decide), fun t2 ht2 => ?_⟩
                exact fin t2 (.hand y) _ (s3.trans (same_new ht2)) upd_same (hok y hym) fun _ _ _ => ⟨hkx, hyx2, hmem⟩
            | false =>
              refine iteF ?_
              exact last
          · refine iteF ?_
            exact last
        · refine iteF ?_
          exact last
      · refine iteF ?_
        exact last
    refine ⟨_, rfl, _, rfl, A.r, _, dr, _, _, rfl, r1, T.kR, T.nKe, rf_ke _ _ _ _, rfl, _, rfl, ?_⟩
    refine ite2 (fun hk => ?_) (fun _ => ?_)
    · have hkx : x = (rollS g o).keeper := V.str.inj (of_decide_eq_true hk)
      refine ⟨_, rfl, _, _, rfl, rfl, _, rfl, ?_⟩
      refine ite2 (fun _ => ?_) (fun _ => ?_)
      · refine ⟨_, rfl, A.r, dr, _, rfl, r1, rfl, _, rfl, A.r, A.dc, A.dl, _, y, rollS g o, rfl, L2.rl, _, rfl, ?_⟩
        by_cases hyn : y ∈ (rollS g o).names
        · rw [decide_eq_true hyn]
          refine iteF ?_
          exact second
        · rw [decide_eq_false hyn]
          refine iteT ⟨_, rfl, (by show 2 ≤ sizeLine; decide), fun t2 ht2 => ?_⟩
          exact fin t2 (.add y) _ (same_new ht2) upd_same (hok y hym) fun _ _ _ => ⟨hkx, hyn⟩
      · refine iteF ?_
        exact second
    · refine iteF ?_
      exact second
def spPick (K : PySem.W.Frag) : Sp := fun vs H Q _ => ∃ (lt s : Addr) (ls : List Ltr), vs = [.ref lt, .ref s] ∧ LsAt K H lt ls ∧ ls ≠ [] ∧ ls.length < 64 ∧ StmAt H s ∧ lt ≠ s ∧
  ∀ (p : Addr) (ms : List Ltr) (H' : Hp), H p = none → LsAt K H' p ms → (∀ l ∈ ms, l ∈ ls) → StmAt H' s → (∀ c u, H c = some u → c ≠ s → H' c = some u) → Q (.ref p) H'
theorem cut_refs (as : List Addr) (lo hi : Option Int) : ∃ a b, cutV (as.map V.ref) lo hi = ((as.drop a).take b).map V.ref := by
  unfold cutV
  exact ⟨_, _, by rw [← List.map_drop, ← List.map_take]⟩
theorem ok_pick (S : Src K "_law_pick" "_law_pick" s_law_pick f) (T : Txt K mg) (hm : mg "_law_pick" = some (.ref f)) (mn : Cal P w K mg base 1 "_law_next" spNxt []) : Cal P w K mg base 2 "_law_pick" (spPick K) [] := by
  refine cal_of S hm sc_law_pick bi_law_pick (fun vs H Q E h => ?_) (fun cdv A outer s H vs Q E hr h => ?_)
  · obtain ⟨lt, s, ls, rfl, _⟩ := h
    rfl
  · obtain ⟨lt, s, ls, rfl, ⟨as, l1, l2⟩, hne, hll, hs, nls, k⟩ := h
    have nd := (fnScope_by sc_law_pick).nd
    refine ⟨_, (pss_cons (ps_set (i := 2) nd rfl (.inl rfl) (pe_c mn hr (by decide) (by rfl) (pa_cons (pv 1) (pa_cons pe_int pa_nil)))) (pss_cons (ps_if (PW.pt (pw_or (pt_cmpR op_eq (pv 2) pe_int (nomark _)) (pw_or1 (pt_cmpR (op_eqNil hr.units) (pv 0) (pe_lst pa_nil) (nomark _))))) (pss_one (ps_ret (pe_slice sl_list (pv 0) po_none (po_some (pe_op op_add pe_int (pe_c mn hr (by decide) (by rfl) (pa_cons (pv 1) (pa_cons pe_int pa_nil)))))))) pss_nil) (pss_cons (ps_set (i := 3) nd rfl (.inr rfl) (pe_ix ix_list (pv 0) (pe_c mn hr (by decide) (by rfl) (pa_cons (pv 1) (pa_cons (pe_callB call_len_seq (by rfl) T.len (by decide +kernel) (pa_cons (pv 0) pa_nil)) pa_nil))) (fun _ _ => rfl))) (pss_cons (ps_if (pt_cmpR op_eq (pv 2) pe_int (nomark _)) (pss_one (ps_ret (pe_lst (pa_cons (pv 3) (pa_cons (pv 3) pa_nil))))) pss_nil) (pss_cons (ps_if (pt_cmpR op_eq (pv 2) pe_int (nomark _)) (pss_one (ps_ret (pe_revL (pe_lc (own := [("_law_other", 4)]) (g := gName 4) (tt := tTest (tOp rEq (tFld K (tVar 4) "author") (tFld K (tVar 3) "author"))) (te := tVar 4) (by rfl) nd (pi_list (pv 0)) (blkOk_by (N := N_law_pick) (sc := L2.defScope s_law_pick) (by decide +kernel))
          (fun _ _ _ _ _ => pg_name (i := 4) nd rfl (.inl rfl)) (fun _ _ _ _ _ => pts_one (pt_cmpR op_eq (pe_fld (pv 4) rfl) (pe_fld (pv 3) rfl) (nomark _))) (fun _ _ _ _ _ => pv 4))))) pss_nil) (pss_one (ps_ret (pe_slice sl_list (pv 0) (po_some (pe_c mn hr (by decide) (by rfl) (pa_cons (pv 1) (pa_cons (pe_callB call_len_seq (by rfl) T.len (by decide +kernel) (pa_cons (pv 0) pa_nil)) pa_nil)))) po_none)))))))), ?_⟩
    have hpos : 0 < ls.length := List.length_pos_iff.mpr hne
    have las : as.length = ls.length := pair_len l2
    obtain ⟨sx, sy, hs0⟩ := hs
    have kk : ∀ (x y : Int), (∀ b u, H b = some u → b ≠ s → upd H s (.lst [.int x, .int y]) b = some u) ∧ upd H s (.lst [.int x, .int y]) s = some (.lst [.int x, .int y]) ∧ Im K H (upd H s (.lst [.int x, .int y])) := fun x y => ⟨kpu, upd_same, .set hs0 rfl⟩
    -- what is given back at any heap that keeps H but for s
    have fin : ∀ (p : Addr) (ms : List Ltr) (cs : List Addr) (x y : Int) (H2 : Hp), (∀ b u, H b = some u → b ≠ s → H2 b = some u) → H2 s = some (.lst [.int x, .int y]) → Im K H H2 → H2 p = none → Ls K H cs ms → (∀ l ∈ ms, l ∈ ls) → Q (.ref p) (upd H2 p (.lst (cs.map V.ref))) := fun p ms cs x y H2 k2 s2 i2 hp hls hsub => by
      have sp := same_new (o := .lst (cs.map V.ref)) hp
      refine k p ms _ ?_ ⟨cs, upd_same, (hls.im i2).im (.same sp)⟩ hsub ⟨x, y, sp _ _ s2⟩ fun c u e n => sp _ _ (k2 c u e n)
      by_cases n : p = s
      · rw [n, s2] at hp; cases hp
      · cases q : H p with
        | none => rfl
        | some u => rw [k2 _ _ q n] at hp; cases hp
    have sub : ∀ (a b : Nat), Ls K H ((as.drop a).take b) ((ls.drop a).take b) ∧ ∀ l ∈ (ls.drop a).take b, l ∈ ls := fun a b => ⟨pair_take b (pair_drop a l2), fun l hl => List.mem_of_mem_drop (List.mem_of_mem_take hl)⟩
    refine ⟨_, rfl, s, 4, rfl, ⟨sx, sy, hs0⟩, by decide, by decide, fun q x1 y1 hq => ?_⟩
    obtain ⟨k1, s1, i1⟩ := kk x1 y1
    have lt1 := k1 _ _ l1 nls
    refine ⟨_, rfl, rfl, _, rfl, ?_⟩
    refine ite2 (fun _ => ?_) (fun hq0 => ?_)
    · -- the first few
      refine iteT ?_
      refine ⟨_, rfl, _, rfl, s, 9, rfl, ⟨x1, y1, s1⟩, by decide, by decide, fun r x2 y2 hr => ?_⟩
      refine ⟨_, _, rfl, rfl, _, rfl, lt, _, rfl, SqL.of (by rw [upd_ne nls]; exact lt1), fun p hp => ?_⟩
      obtain ⟨a, b, e⟩ := cut_refs as none (some (1 + ((r : Nat) : Int)))
      rw [e]
      exact fin p _ _ x2 y2 _ (fun b u z n => by rw [upd_ne n]; exact k1 _ _ z n) upd_same (i1.trans (.set s1 rfl)) hp (sub a b).1 (sub a b).2
    · refine ⟨_, rfl, (by show 0 ≤ sizeLine; decide), fun e he => ?_⟩
      have s2' := same_new (o := .lst []) he
      have e2 : upd (upd H s (.lst [.int x1, .int y1])) e (.lst []) e = some (.lst []) := upd_same
      have k2 : ∀ b u, H b = some u → b ≠ s → upd (upd H s (.lst [.int x1, .int y1])) e (.lst []) b = some u := fun b u z n => s2' _ _ (k1 _ _ z n)
      have s2 := s2' _ _ s1
      have i2 : Im K H (upd (upd H s (.lst [.int x1, .int y1])) e (.lst [])) := i1.trans (.same s2')
      generalize upd (upd H s (.lst [.int x1, .int y1])) e (.lst []) = H2 at e2 k2 s2 i2
      have lt2 := k2 _ _ l1 nls
      refine ⟨lt, e, _, rfl, rfl, SqL.of lt2, SqL.of e2, _, rfl, ?_⟩
      rw [List.length_map, decide_eq_false (by omega : ¬ as.length = 0)]
      refine iteF ?_
      have kk2 : ∀ (x y : Int), (∀ b u, H b = some u → b ≠ s → upd H2 s (.lst [.int x, .int y]) b = some u) ∧ upd H2 s (.lst [.int x, .int y]) s = some (.lst [.int x, .int y]) ∧ Im K H (upd H2 s (.lst [.int x, .int y])) := fun x y => ⟨fun b u z n => by rw [upd_ne n]; exact k2 _ _ z n, upd_same, i2.trans (.set s2 rfl)⟩
      -- one of them
      refine ⟨_, rfl, _, rfl, _, rfl, lt, _, rfl, .inl (SqL.of lt2), s, ls.length, by rw [List.length_map, las]; rfl, ⟨x1, y1, s2⟩, hpos, by omega, fun r x3 y3 hr => ?_⟩
      obtain ⟨k3, s3, i3⟩ := kk2 x3 y3
      have lt3 := k3 _ _ l1 nls
      obtain ⟨l, hl⟩ : ∃ l, ls[r]? = some l := ⟨_, List.getElem?_eq_getElem hr⟩
      obtain ⟨a, ha, hla⟩ := pair_r l2 hl
      have hlm := List.mem_of_getElem? hl
      obtain ⟨dy, ts, tb, a1, _⟩ := id (hla.im i3)
      refine ⟨lt, _, _, V.ref a, rfl, rfl, SqL.of lt3, atI_nat (by rw [List.getElem?_map, ha]; rfl), ?_⟩
      refine ⟨_, rfl, rfl, _, rfl, ?_⟩
      refine ite2 (fun _ => ?_) (fun _ => ?_)
      · refine ⟨_, rfl, _, rfl, (by show 2 ≤ sizeLine; decide), fun p hp => ?_⟩
        exact fin p [l, l] [a, a] x3 y3 _ k3 s3 i3 hp (.cons hla (.cons hla .nil)) fun z hz => by
          rcases List.mem_cons.mp hz with rfl | hz
          · exact hlm
          · rw [List.mem_singleton.mp hz]; exact hlm
      · refine ⟨_, rfl, rfl, _, rfl, ?_⟩
        generalize hH3 : upd H2 s (.lst [.int x3, .int y3]) = H3 at k3 s3 i3 lt3 a1
        refine ite2 (fun _ => ?_) (fun _ => ?_)
        · -- one author's, backwards
          refine ⟨_, rfl, lt, rfl, ⟨_, SqL.of lt3⟩, fun D hD => ?_⟩
          have nlD : lt ≠ D := ne_of_none lt3 hD
          refine lc_list (K := K) (a := lt) (xs := as.map V.ref) (fun i H4 => ∃ cs : List Addr, H4 = upd H3 D (.lst (cs.map V.ref)) ∧ Ls K H cs ((ls.take i).filter fun z => decide (z.au = l.au))) ⟨[], rfl, .nil⟩ ?_ ?_ ?_
          · rintro i H4 _ ⟨cs, rfl, _⟩
            exact SqL.of (by rw [upd_ne nlD]; exact lt3)
          · rintro i x H4 hi ⟨cs, rfl, hcs⟩
            obtain ⟨c, hc, rfl⟩ := map_get hi
            obtain ⟨z, hz, hcz⟩ := pair_l l2 hc
            obtain ⟨dyz, _, _, c1, _⟩ := id (hcz.im i3)
            refine ⟨rfl, ?_⟩
            refine ⟨_, rfl, c, _, dyz, _, _, rfl, by rw [upd_ne (ne_of_none c1 hD)]; exact c1, T.kL, T.nAu, lf_au _ _ _, _, rfl, a, _, dy, _, _, rfl, by rw [upd_ne (ne_of_none a1 hD)]; exact a1, T.kL, T.nAu, lf_au _ _ _, rfl, _, rfl, ?_⟩
            have hf := take_succ_filter (p := fun z : Ltr => decide (z.au = l.au)) hz
            have lcs : cs.length ≤ 64 := by
              have h5 := pair_len hcs
              have h6 : ((ls.take i).filter fun z => decide (z.au = l.au)).length ≤ (ls.take i).length := List.length_filter_le _ _
              rw [List.length_take] at h6
              omega
            by_cases hau : z.au = l.au
            · have e : decide (V.str z.au = V.str l.au) = true := decide_eq_true (by rw [hau])
              rw [e]
              rw [if_pos (decide_eq_true hau)] at hf
              refine iteT ⟨_, rfl, _, upd_same, by rw [List.length_map, sizeLine_eq]; omega, cs ++ [c], by rw [upd_upd, List.map_append]; rfl, ?_⟩
              rw [hf]
              exact pair_app hcs (.cons hcz .nil)
            · have e : decide (V.str z.au = V.str l.au) = false := decide_eq_false fun y => hau (V.str.inj y)
              rw [e]
              rw [if_neg (by simp [hau]), List.append_nil] at hf
              refine iteF ?_
              exact ⟨cs, rfl, by rw [hf]; exact hcs⟩
          · rintro H4 ⟨cs, rfl, hcs⟩
            rw [List.length_map, las, List.take_length] at hcs
            have sD := same_new (o := .lst (cs.map V.ref)) hD
            refine ⟨D, _, rfl, SqL.of upd_same, fun p hp => ?_⟩
            rw [← List.map_reverse]
            exact fin p _ cs.reverse x3 y3 _ (fun b u z n => sD _ _ (k3 _ _ z n)) (sD _ _ s3) (i3.trans (.same sD)) hp (pair_rev hcs) fun z hz => (List.mem_filter.mp (List.mem_reverse.mp hz)).1
        · -- all from one on
          refine ⟨_, rfl, _, rfl, _, rfl, lt, _, rfl, .inl (SqL.of lt3), s, ls.length, by rw [List.length_map, las]; rfl, ⟨x3, y3, s3⟩, hpos, by omega, fun r4 x4 y4 hr4 => ?_⟩
          have k4 : ∀ b u, H b = some u → b ≠ s → upd H3 s (.lst [.int x4, .int y4]) b = some u := fun b u z n => by rw [upd_ne n]; exact k3 _ _ z n
          have i4 : Im K H (upd H3 s (.lst [.int x4, .int y4])) := i3.trans (.set s3 rfl)
          refine ⟨_, rfl, lt, _, rfl, SqL.of (k4 _ _ l1 nls), fun p hp => ?_⟩
          obtain ⟨a, b, e⟩ := cut_refs as (some ((r4 : Nat) : Int)) none
          rw [e]
          exact fin p _ _ x4 y4 _ k4 upd_same i4 hp (sub a b).1 (sub a b).2
end
end Lo
set_option Elab.async false
set_option maxRecDepth 100000
set_option maxHeartbeats 4000000
namespace Lo
section
open PySem PySem.SeqAt
open PySem.AutoSeq1 (wpAny_loadPart')
open PySem.MeetsSeq PySem.MeetsSeq2 PySem.MeetsSeq3 PySem.SeqRoads2
variable {prog : Program} {w : World}
/-- the loop of != over two lists whose items are all the same -/
theorem ne_same_loop (l b : Addr) (xs ys : Array Value) (n m : Nat) (dd dd2 : Option Addr) (sl sl2 : Array (Option Value)) (hsz : xs.size = ys.size) (k : Nat) :
    ∀ i : Nat, xs.size - i = k → MeetsIn prog w (Builtin.«list.__eq__.loop» ⟨[.ref l, .ref b, rawInt i, rawInt 3], []⟩)
      (fun A R s => s.heap.get? l = some { cls := .type "list", dict := dd, data := .seq xs n, slots := sl } ∧ s.heap.get? b = some { cls := .type "list", dict := dd2, data := .seq ys m, slots := sl2 } ∧
        (∀ j (h1 : j < xs.size) (h2 : j < ys.size), EqP prog w A.in1 s xs[j] ys[j] true) ∧ R (.ok (.ret (.bool false))) s) := by
  induction k with
  | zero =>
    intro i hk A R s h
    obtain ⟨hp, g, d, tk, os⟩ := s
    obtain ⟨hl, hb, he, h⟩ := h
    wp_walk using wpAny_loadPart' hl, wpAny_loadPart' hb
    have hi1 : xs[((i : Nat) : Int).toNat]? = none := by simp; omega
    have hi2 : ys[((i : Nat) : Int).toNat]? = none := by simp; omega
    rw [hi1, hi2]
    wp_walk using wpAny_loadPart' hl, wpAny_loadPart' hb
    show R (.ok (.ret (.bool (xs.size != ys.size)))) _
    rw [hsz]
    simpa using h
  | succ k ih =>
    intro i hk A R s h
    obtain ⟨hp, g, d, tk, os⟩ := s
    obtain ⟨hl, hb, he, h⟩ := h
    wp_walk using wpAny_loadPart' hl, wpAny_loadPart' hb
    have h1 : i < xs.size := by omega
    have h2 : i < ys.size := by omega
    have hi1 : xs[((i : Nat) : Int).toNat]? = some xs[i] := by simp [h1]
    have hi2 : ys[((i : Nat) : Int).toNat]? = some ys[i] := by simp [h2]
    have hc : ((i : Int) + 1) = ((i + 1 : Nat) : Int) := by push_cast; rfl
    rw [hi1, hi2]
    refine wpAny_bind (he i h1 h2 _ _ ?_)
    wp_walk
    rw [hc]
    exact ⟨plainId_quiet plain_eq_loop _, codeAny_builtin entry_eq_loop (by
      rw [Around.under_plainId plain_eq_loop _]
      exact ih (i + 1) (by omega) A R _ ⟨hl, hb, he, h⟩)⟩
theorem ne_same_list (l b : Addr) (xs ys : Array Value) (n m : Nat) (dd dd2 : Option Addr) (sl sl2 : Array (Option Value)) (hsz : xs.size = ys.size) :
    MeetsIn prog w (Builtin.«list.__ne__» ⟨[.ref l, .ref b], []⟩)
      (fun A R s => s.heap.get? l = some { cls := .type "list", dict := dd, data := .seq xs n, slots := sl } ∧ s.heap.get? b = some { cls := .type "list", dict := dd2, data := .seq ys m, slots := sl2 } ∧
        (∀ j (h1 : j < xs.size) (h2 : j < ys.size), EqP prog w A.in1 s xs[j] ys[j] true) ∧ R (.ok (.ret (.bool false))) s) := by
  intro A R s h
  obtain ⟨hp, g, d, tk, os⟩ := s
  obtain ⟨hl, hb, he, h⟩ := h
  have f3 := AutoSeq1.sub_list_list
  have hne : ¬ (xs.size != ys.size) = true := by simp [hsz]
  wp_walk using wpAny_loadPart' hl, wpAny_loadPart' hb
  exact ⟨plainId_quiet plain_eq_loop _, codeAny_builtin entry_eq_loop (by
    rw [Around.under_plainId plain_eq_loop _]
    exact ne_same_loop l b xs ys n m dd dd2 sl sl2 hsz _ 0 rfl A R _ ⟨hl, hb, he, h⟩)⟩
theorem ne_same {A : Around} {s : Shared} {l b : Addr} {xs ys : Array Value} (hl : s.heap.IsList l xs) (hb : s.heap.IsList b ys) (hsz : xs.size = ys.size) (hu : A.units < cLine)
    (he : ∀ j (h1 : j < xs.size) (h2 : j < ys.size), EqP prog w A.in1 s xs[j] ys[j] true) (E Q : Value → Shared → Prop) (h : Q (.bool false) s) : wpAny (model prog w) A (compareOp .NotEq (.ref l) (.ref b)) Q E s := by
  obtain ⟨⟨c1, d1, q1, t1⟩, ho, hc, n, hd⟩ := id hl
  obtain ⟨⟨c2, d2, q2, t2⟩, ho2, hc2, n2, hd2⟩ := id hb
  simp only at hc hd hc2 hd2
  subst hc hd hc2 hd2
  have ta : s.TypeIs (.ref l) "list" := ⟨_, ho, rfl⟩
  have tb : s.TypeIs (.ref b) "list" := ⟨_, ho2, rfl⟩
  exact wpAny_richCompare_same_room (op := .NotEq) ta tb F.slot_list_ne (call_meetsIn F.slot_list_ne ta F.entry_list_ne (F.args_list_ne_2 _ _) (ne_same_list l b xs ys n n2 d1 d2 t1 t2 hsz)
    ⟨ho, ho2, he, show Value.bool false ≠ Value.notImplemented ∧ Q (.bool false) s from ⟨(fun z => nomatch z), h⟩⟩) hu
end
section
open PySem PySem.Spec PySem.W PyProof.Rows L2
variable {X : Cx}
/-- an item that is the same: by value, by place, by its own items (lists, tables), or by its data -/
def SameV (K : PySem.W.Frag) (H : Hp) (x y : V) : Prop := (∃ n, n ≤ 50 ∧ EqV K H n x y) ∨ ∃ d, Dp K H x d ∧ Dp K H y d ∧ alike d d = true ∧ d.depth ≤ 50
/-- xs != ys of lists of the same things -/
def rNeItems (K : PySem.W.Frag) : R2 := fun x y H Q => ∃ (a b : Addr) (xs ys : List V), x = .ref a ∧ y = .ref b ∧ SqL K H a xs ∧ SqL K H b ys ∧ Paired (SameV K H) xs ys ∧ Q (.bl false) H
theorem op_neItems (hu : X.A.units + 64 < cLine) : OpR X (compareOp .NotEq) (rNeItems X.K) := by
  intro pins s σ H x y v u Q I rx ry h
  obtain ⟨a, b, xs, ys, rfl, rfl, ha, hb, hp, q⟩ := h
  obtain rfl : v = Value.ref a := rx
  obtain rfl : u = Value.ref b := ry
  obtain ⟨us, r1, p1, _⟩ := I.list ha
  obtain ⟨ws, r2, p2, _⟩ := I.list hb
  have hsz : us.toArray.size = ws.toArray.size := by
    rw [List.size_toArray, List.size_toArray, ← r1.length, ← r2.length]
    exact Paired.length hp
  have hu1 : X.A.in1.units ≤ X.A.units + 1 := by first | exact Nat.le_refl _ | simp [Around.in1] | (unfold Around.in1; omega)
  refine ne_same p1.isList p2.isList hsz (by omega) (fun j h1 h2 => ?_) _ _ ⟨.bl false, H, I, rfl, q⟩
  have k := items_run (P := X.prog) (w := X.w) (A := X.A.in1) (s := s) (F := SameV X.K H) (fun x y v u hs rv ru => by
    rcases hs with ⟨n, hn, he⟩ | ⟨d, d1, d2, al, dp⟩
    · exact eqV_run I n X.A.in1 (by omega) x y v u he rv ru
    · obtain ⟨as, q1⟩ := Dp.reads I d x v d1 rv
      obtain ⟨bs, q2⟩ := Dp.reads I d y u d2 ru
      have e := eqAt_alike d d X.A.in1 s v u as bs q1 q2 al (by rw [Nat.min_self]; omega)
      rw [eqv_refl_alike d al] at e
      exact e.eqP) hp r1 r2 j (by simpa using h1) (by simpa using h2)
  simpa using k
end
end Lo
set_option Elab.async false
set_option maxRecDepth 100000
set_option maxHeartbeats 4000000
namespace Lo
open PySem PySem.Spec PyProof.Rows L2
open C8 (Cal Met Mak scC fnScope_by pe_c pe_mk pe_mt pe_mt0)
theorem takeAll_ok {g : Ltr} {G : List Ltr} {p : List Ltr × List Ltr} (gd : Good g G p.1 p.2) : ∀ n ≤ G.length, Good g G (takeAll g (G.take n) p).1 (takeAll g (G.take n) p).2 ∧ ∀ a ∈ G.take n, Proc g (takeAll g (G.take n) p).1 a := by
  intro n
  induction n with
  | zero =>
    intro _
    exact ⟨gd, fun a h => by cases h⟩
  | succ n ih =>
    intro hn
    obtain ⟨h1, h2⟩ := ih (by omega)
    have hl : G[n]? = some (G[n]'(by omega)) := List.getElem?_eq_getElem (by omega)
    have e : G.take (n + 1) = G.take n ++ [G[n]'(by omega)] := by rw [List.take_add_one, hl]; rfl
    have eG : G = G.take n ++ (G[n]'(by omega)) :: G.drop (n + 1) := by
      rw [← List.drop_eq_getElem_cons (by omega : n < G.length), List.take_append_drop]
    rw [e, takeAll_snoc]
    exact ⟨h1.take (List.mem_of_getElem? hl), take_proc h1 eG h2⟩
theorem takeAll_done {g : Ltr} {G : List Ltr} {o w o' w' : List Ltr} (gd : Good g G o w) (e : (o', w') = takeAll g G (o, w)) : Good g G o' w' ∧ ∀ a ∈ G, Proc g o' a := by
  obtain ⟨h1, h2⟩ := takeAll_ok (p := (o, w)) gd G.length (Nat.le_refl _)
  rw [List.take_length, ← e] at h1 h2
  exact ⟨h1, h2⟩
def cntL2 (R : Roll) (G : List Ltr) : List (Str × Nat) := sortQ ((G.filter fun l => cntsR R l.au l.num).map wk)
def ToldAt (H : Hp) (t : Addr) (R : Roll) (qs : List (Str × Nat)) (b : Addr) (m : Addr) (c : Addr) : Prop := H t = some (.lst [.ref b, .ref m, .ref c, .str R.keeper]) ∧ RefsAt H b qs ∧ H m = some (.lst (R.members.map V.str)) ∧ H c = some (.dK (limK R.lims))
theorem strs_same {K : PySem.W.Frag} {H : Hp} {a b : Addr} {ms : List Str} (h1 : H a = some (.lst (ms.map V.str))) (h2 : H b = some (.lst (ms.map V.str))) : SameV K H (.ref a) (.ref b) :=
  .inr ⟨.list (ms.map .str), .lst (SqL.of h1) (dp_strs ms), .lst (SqL.of h2) (dp_strs ms), by simp [PySem.W.alike, alike_strs], by simp [PyData.depth, depth_strs]⟩
theorem lims_same {K : PySem.W.Frag} {H : Hp} {a b : Addr} {R : Roll} (nd : (R.lims.map (·.1)).Nodup) (h1 : H a = some (.dK (limK R.lims))) (h2 : H b = some (.dK (limK R.lims))) : SameV K H (.ref a) (.ref b) := by
  refine .inl ⟨2, by decide, .inr (.inr (.inr ⟨a, b, _, _, rfl, rfl, h1, h2, rfl, fun p hp => ?_⟩))⟩
  obtain ⟨x, hx, rfl⟩ := List.mem_map.mp hp
  refine ⟨.int (x.2 : Nat), ?_, .inl ⟨rfl, rfl⟩⟩
  show valV (limK R.lims) (Sum.inr x.1 : Key) = _
  rw [val_lims, lk_nd nd hx]
  rfl
theorem str_same {K : PySem.W.Frag} {H : Hp} (x : Str) : SameV K H (.str x) (.str x) := .inl ⟨1, by decide, .inl ⟨rfl, rfl⟩⟩
theorem refs_same {K : PySem.W.Frag} {H : Hp} {a b : Addr} {qs : List (Str × Nat)} (h1 : RefsAt H a qs) (h2 : RefsAt H b qs) : SameV K H (.ref a) (.ref b) :=
  .inr ⟨.list (qs.map refD), dp_refs h1, dp_refs h2, alike_refs2 qs, by
    have := depth_refs qs
    simp only [PyData.depth]
    omega⟩
def Pr.all (q : Pr) (b : Addr) : Prop := q.own b ∨ b = q.pa
section
variable {P : Program} {w : World} {K : PySem.W.Frag} {mg : Str → Option Value} {base : Heap} {f : Addr}
theorem PrAt.exA {H : Hp} {g : Ltr} {q : Pr} (T : Txt K mg) (h : PrAt K H g q) {b : Addr} (z : q.all b) : ∃ u, H b = some u := by
  rcases z with z | z
  · obtain ⟨u, e, _⟩ := h.ex T z
    exact ⟨u, e⟩
  · rw [z]
    exact ⟨_, h.tab⟩
theorem roll_names_le (g : Ltr) (o : List Ltr) : (rollS g o).names.length ≤ 1 + g.mems.length + o.length := by
  suffices h : ∀ (m : Nat) (o : List Ltr), o.length = m → (rollS g o).names.length ≤ 1 + g.mems.length + o.length from h _ o rfl
  intro m
  induction m with
  | zero =>
    intro o ho
    rw [List.length_eq_zero_iff.mp ho]
    exact names0_le g
  | succ m ih =>
    intro o ho
    rcases List.eq_nil_or_concat o with rfl | ⟨o', l, rfl⟩
    · cases ho
    · rw [List.concat_eq_append] at ho ⊢
      rw [List.length_append, List.length_singleton] at ho ⊢
      have := ih o' (by omega)
      have := names_le (rollS g o') l
      rw [rollS_snoc]
      omega
def spFinal (K : PySem.W.Frag) : Sp := fun vs H Q _ => ∃ (ps lt : Addr) (qs : List Pr) (g : Ltr) (G : List Ltr), vs = [.ref ps, .ref lt] ∧ H ps = some (.lst (qs.map fun q => V.ref q.pa)) ∧ LsAt K H lt G ∧ (∀ q ∈ qs, PrAt K H g q ∧ Good g G q.o q.w ∧ ¬ q.own ps ∧ ¬ q.own lt) ∧
  qs.Pairwise (fun q r => ∀ b, q.all b → ¬ r.all b) ∧ g.mems.length ≤ 500 ∧ G.length < 63 ∧ qs.length < 1000 ∧ ∀ H' : Hp, Q (.bl true) H'
theorem ok_final (S : Src K "_law_final" "_law_final" s_law_final f) (T : Txt K mg) (hm : mg "_law_final" = some (.ref f)) (mta : Cal P w K mg base 9 "_law_takes" (spTakes K) []) (msa : Cal P w K mg base 3 "_law_same" (spSame K) []) (mwa : Met P w K mg base 1 (cG K) "waiting" (spWaits K) [])
    (mro : Prp P w K mg base 1 (cG K) "roll" (spRoll K)) (mit : MetS P w K mg base 1 (cG K) "__iter__" (spIterS K)) (mrc : Met P w K mg base 1 (cR K) "counts" (spRCounts K) []) (mrf : Prp P w K mg base 1 (cL K) "ref" (spRef K)) (mme : Met P w K mg base 1 (cR K) "members" (spMembers K) [])
    (mcu : Met P w K mg base 1 (cR K) "cuts" (spCuts K) []) (mlr : Cal P w K mg base 4 "_law_roll" (spLRoll K) []) (mco : Cal P w K mg base 1 "_law_counts" (spMCounts K) []) : Cal P w K mg base 10 "_law_final" (spFinal K) [] := by
  refine cal_of S hm sc_law_final bi_law_final (fun vs H Q E h => ?_) (fun cdv A outer s H vs Q E hr h => ?_)
  · obtain ⟨ps, lt, qs, g, G, rfl, _⟩ := h
    rfl
  · obtain ⟨ps, lt, qs, g, G, rfl, hps, hlt, hqs, hpw, hms, hGl, hql, k⟩ := h
    have hu := hu_of hr
    have nd := (fnScope_by sc_law_final).nd
    refine ⟨_, (pss_cons (ps_set (i := 2) nd rfl (.inl rfl) pe_non) (pss_cons (ps_for PassesOwn.never rfl (pi_list (pv 0)) (pg_name (i := 3) nd rfl (.inl rfl))
        (pss_cons (ps_if (PW.pt (pw_or (pt_not (pt_val (pe_c mta hr (by decide) (by rfl) (pa_cons (pv 3) (pa_cons (pv 1) pa_nil))))) (pw_or (pt_not (pt_val (pe_c msa hr (by decide) (by rfl) (pa_cons (pe_ix ix_list (pv 3) pe_int (fun _ _ => rfl)) (pa_cons (pe_ix ix_list (pv 3) pe_int (fun _ _ => rfl)) pa_nil)))))
            (pw_or1 (pt_cmpR (op_neSame hr.units) (pe_mt0 mwa hr (by decide) (pe_ix ix_list (pv 3) pe_int (fun _ _ => rfl))) (pe_lst pa_nil) (nomark _)))))) (pss_one (ps_ret pe_bl)) pss_nil) (pss_cons (ps_set (i := 4) nd rfl (.inr rfl) (pe_prp mro hr (by decide) (pe_ix ix_list (pv 3) pe_int (fun _ _ => rfl)))) (pss_cons (ps_set (i := 5) nd rfl (.inl rfl) (pe_callB (cr_sortR hr.units) (by rfl) T.sorted (by decide +kernel) (pa_cons (pe_lc (own := [("_law_letter", 6)]) (g := gName 6) (tt := tB (tMeth (cR K) "counts" (spRCounts K) [] C8.E0 (tVar 4) (tCons (tProp (cL K) (spRef K) [] C8.E0 (tVar 6)) tNil)))
            (te := tProp (cL K) (spRef K) [] C8.E0 (tVar 6)) (by rfl) nd (pi_own mit hr (by decide) (pe_ix ix_list (pv 3) pe_int (fun _ _ => rfl))) (blkOk_by (N := N_law_final) (sc := L2.defScope s_law_final) (by decide +kernel))
            (fun _ _ _ _ _ => pg_name (i := 6) nd rfl (.inl rfl)) (fun _ _ _ _ _ => pts_one (pt_val (pe_mt mrc hr (by decide) (pv 4) (pa_cons (pe_prp mrf hr (by decide) (pv 6)) pa_nil)))) (fun _ _ _ _ _ => pe_prp mrf hr (by decide) (pv 6))) pa_nil))) (pss_cons (ps_set (i := 7) nd rfl (.inl rfl) (pe_lst (pa_cons (pv 5) (pa_cons (pe_mt0 mme hr (by decide) (pv 4)) (pa_cons (pe_mt0 mcu hr (by decide) (pv 4)) (pa_cons (pe_fld (pv 4) rfl) pa_nil)))))) (pss_cons (ps_set (i := 8) nd rfl (.inr rfl) (pe_c mlr hr (by decide) (by rfl) (pa_cons (pe_ix ix_list (pv 3) pe_int (fun _ _ => rfl)) (pa_cons (pe_c mco hr (by decide) (by rfl) (pa_cons (pe_ix ix_list (pv 3) pe_int (fun _ _ => rfl)) pa_nil)) pa_nil)))) (pss_cons (ps_if (pt_cmpR (op_neItems hr.units) (pe_slice sl_list (pv 7) (po_some pe_int) po_none) (pe_lst (pa_cons (pe_lock (pe_lc (own := [("_law_name", 9)]) (g := gName 9) (tt := tB (tDNotIn (tVar 9) (tOp (rIxL K) (tVar 8) (tC (.int 1))))) (te := tVar 9) (by rfl) nd (pi_keys (pe_ix ix_list (pv 8) pe_int (fun _ _ => rfl)))
              (blkOk_by (N := N_law_final) (sc := L2.defScope s_law_final) (by decide +kernel)) (fun _ _ _ _ _ => pg_name (i := 9) nd rfl (.inl rfl)) (fun _ _ _ _ _ => pts_one (pt_cmp (pc_dnotin hu (pv 9) (pe_ix ix_list (pv 8) pe_int (fun _ _ => rfl))))) (fun _ _ _ _ _ => pv 9)))
            (pa_cons (pe_ix ix_list (pv 8) pe_int (fun _ _ => rfl)) (pa_cons (pe_ix ix_list (pv 8) pe_int (fun _ _ => rfl)) pa_nil)))) (nomark _)) (pss_one (ps_ret pe_bl)) pss_nil) (pss_cons (ps_if (pt_cmpR op_isN (pv 2) pe_non (nomark _)) (pss_one (ps_set (i := 2) nd rfl (.inl rfl) (pv 7))) pss_nil) (pss_one (ps_if (pt_cmpR (op_neItems hr.units) (pv 7) (pv 2) (nomark _)) (pss_one (ps_ret pe_bl)) pss_nil)))))))))) (pss_one (ps_ret pe_bl)))), ?_⟩
    refine ⟨_, rfl, ps, rfl, ⟨_, SqL.of hps⟩, for_list (K := K) (a := ps) (xs := qs.map fun q => V.ref q.pa) (fun i σ H2 => ∃ (v : V) (u3 u4 u5 u6 u7 u8 u9 : Option V), σ = [some (.ref ps), some (.ref lt), some v, u3, u4, u5, u6, u7, u8, u9] ∧ (∀ q ∈ qs.drop i, PrAt K H2 g q) ∧ H2 ps = some (.lst (qs.map fun q => V.ref q.pa)) ∧ LsAt K H2 lt G ∧
        (v = .non ∨ ∃ t b m c, v = .ref t ∧ ToldAt H2 t (rollS g G) (cntL2 (rollS g G) G) b m c ∧ ∀ q ∈ qs.drop i, ¬ q.own t ∧ ¬ q.own b ∧ ¬ q.own m ∧ ¬ q.own c))
      ⟨.non, none, none, none, none, none, none, none, rfl, fun q hq => (hqs q hq).1, hps, hlt, .inl rfl⟩ ?_ ?_ ?_⟩
    · rintro i σ H2 hi ⟨v, u3, u4, u5, u6, u7, u8, u9, rfl, hP, hps2, hlt2, hf⟩
      exact SqL.of hps2
    · rintro i y σ H2 hi ⟨v, u3, u4, u5, u6, u7, u8, u9, rfl, hP, hps2, hlt2, hf⟩
      obtain ⟨q, hq, rfl⟩ := map_get hi
      have hqm := List.mem_of_getElem? hq
      have hi2 := (List.getElem?_eq_some_iff.mp hq).1
      have edrop : qs.drop i = q :: qs.drop (i + 1) := by
        rw [List.drop_eq_getElem_cons hi2, (List.getElem?_eq_some_iff.mp hq).2]
      obtain ⟨_, gd, nps, nlt⟩ := hqs q hqm
      have P2 := hP q (by rw [edrop]; exact List.mem_cons_self)
      have hpd : ∀ r ∈ qs.drop (i + 1), ∀ b, q.all b → ¬ r.all b := by
        have h1 : (qs.drop i).Pairwise (fun q r => ∀ b, q.all b → ¬ r.all b) := hpw.sublist (List.drop_sublist i qs)
        rw [edrop] at h1
        exact (List.pairwise_cons.mp h1).1
      refine ⟨_, rfl, _, rfl, q, lt, g, G, G, rfl, P2, hlt2, nlt, gd, fun _ h => h, hms, by omega, fun q2 H3 P3 st3 ep3 eq3 _ => ⟨_, rfl, ?_⟩⟩
      obtain ⟨gd3, hpr⟩ := takeAll_done gd eq3
      have hw3 : q2.w = [] := gd3.waits hpr
      have hR3 : rollS g q2.o = rollS g G := gd3.roll hpr
      have hperm := gd3.counting hpr
      have hol := gd3.olen
      have im3 : Im K H2 H3 := st3.im fun b z => P2.ex T z
      have hps3 := st3.kp _ _ hps2 nps
      have hlt3 : LsAt K H3 lt G := hlt2.kp im3 fun u e => st3.kp _ _ e nlt
      have hP3 : ∀ r ∈ qs.drop (i + 1), PrAt K H3 g r := fun r hr' => (hP r (by rw [edrop]; exact List.mem_cons_of_mem _ hr')).kp im3 fun b u z e => st3.kp b u e fun y => hpd r hr' b (.inl y) z
      have hf3 : v = .non ∨ ∃ t b m c, v = .ref t ∧ ToldAt H3 t (rollS g G) (cntL2 (rollS g G) G) b m c ∧ ∀ r ∈ qs.drop (i + 1), ¬ r.own t ∧ ¬ r.own b ∧ ¬ r.own m ∧ ¬ r.own c := by
        rcases hf with h | ⟨t, b, m, c, rfl, ⟨h1, ⟨bs, h2, h3, h4⟩, h5, h6⟩, hn⟩
        · exact .inl h
        · obtain ⟨n1, n2, n3, n4⟩ := hn q (by rw [edrop]; exact List.mem_cons_self)
          exact .inr ⟨t, b, m, c, rfl, ⟨st3.kp _ _ h1 n1, ⟨bs, st3.kp _ _ h2 n2, h3, fun x hx => (h4 x hx).im im3⟩, st3.kp _ _ h5 n3, st3.kp _ _ h6 n4⟩, fun r hr' => hn r (by rw [edrop]; exact List.mem_cons_of_mem _ hr')⟩
      -- from here on all is new
      have tab3 : H3 q.pa = some (.lst [.ref q2.A.p, .ref q2.d]) := by rw [← ep3]; exact P3.tab
      obtain ⟨dx, h1⟩ := P3.led.ob
      obtain ⟨dr, r1⟩ := P3.led.rl.ob
      have hne : q2.o ≠ [] := by
        obtain ⟨r, e⟩ := gd3.ord.head
        rw [e]
        exact List.cons_ne_nil _ _
      refine iteF ⟨_, rfl, q.pa, _, _, _, rfl, rfl, SqL.of tab3, atI0, _, rfl, q.pa, _, _, _, rfl, rfl, SqL.of tab3, atI1, q2.A, q2.d, q2.S, g, q2.o, q2.w, rfl, P3.led, P3.mod, by omega, by rw [hw3]; decide, hne, fun H4 s4 => ⟨_, rfl, ?_⟩⟩
      refine iteF ⟨_, rfl, q.pa, _, _, _, rfl, rfl, SqL.of (s4 _ _ tab3), atI0, q2.A.p, dx, _, rfl, s4 _ _ h1, rfl, q2.A, g, q2.o, q2.w, rfl, P3.led.same s4, fun p5 H5 hp5 s5' rf5 => ?_⟩
      have s5 := s4.trans s5'
      refine ⟨(by show 0 ≤ sizeLine; decide), fun e6 he6 => ?_⟩
      have s6' := same_new (o := .lst []) he6
      have t6 : upd H5 e6 (.lst []) e6 = some (.lst []) := upd_same
      generalize upd H5 e6 (.lst []) = H6 at s6' t6
      have s6 := s5.trans s6'
      have rf6 : RefsAt H6 p5 [] := by
        obtain ⟨bs, b1, b2, b3⟩ := rf5
        rw [hw3] at b2
        have e : sortQ (([] : List Ltr).map fun l => (l.au, l.num)) = [] := by
          unfold sortQ; simp
        rw [e] at b2
        exact ⟨bs, s6' _ _ b1, b2, fun b hb => s6' _ _ (b3 b hb)⟩
      refine ⟨.list [], dp_refs rf6, .lst (SqL.of t6) .nil, .inr ⟨_, rfl⟩, rfl, by decide, _, rfl, ?_⟩
      refine iteF ?_
      refine ⟨_, rfl, q.pa, _, _, _, rfl, rfl, SqL.of (s6 _ _ tab3), atI0, q2.A.p, dx, _, rfl, s6 _ _ h1, q2.A, g, q2.o, q2.w, rfl, P3.led.same s6, ?_⟩
      -- the refs that count
      obtain ⟨os, o1, o2⟩ := P3.led.st.ord
      have los : os.length = q2.o.length := pair_len o2
      refine ⟨_, rfl, q.pa, _, _, _, rfl, rfl, SqL.of (s6 _ _ tab3), atI0, q2.A.p, dx, _, q2.A.S.lo, rfl, s6 _ _ h1, fun s' => ⟨q2.A, g, q2.o, q2.w, rfl, P3.led.same s6, fun it hit hy => ⟨it, rfl, hit, hy, rfl⟩⟩, fun D hD => ?_⟩
      refine lc_list (K := K) (a := q2.A.S.lo) (xs := os.map V.ref) (fun i H7 => Same H6 H7 ∧ ∃ bs : List RB, H7 D = some (.lst (bs.map fun b => V.ref b.1)) ∧ (∀ b ∈ bs, RefAt H7 b) ∧ bs.map (·.2) = ((q2.o.take i).filter fun l => cntsR (rollS g q2.o) l.au l.num).map wk)
        ⟨same_new hD, [], upd_same, fun _ h => (by cases h), rfl⟩ (fun i H7 _ z => SqL.of (z.1 _ _ (s6 _ _ o1))) ?_ ?_
      · rintro j x H7 hj ⟨s7, bs, b1, b2, b3⟩
        obtain ⟨a, ha, rfl⟩ := map_get hj
        obtain ⟨l, hl, hla⟩ := pair_l o2 ha
        have s67 := s6.trans s7
        obtain ⟨dy, _, _, a1, _⟩ := id hla
        refine ⟨rfl, ?_⟩
        refine ⟨_, rfl, q2.A.r, dr, _, rfl, s67 _ _ r1, rfl, _, rfl, a, dy, _, rfl, s67 _ _ a1, a, l, rfl, hla.im (K := K) (.same s67), fun t8 ht8 => ?_⟩
        have s8' := same_new (o := .tup [.str l.au, .int l.num]) ht8
        have e8 : upd H7 t8 (.tup [.str l.au, .int l.num]) t8 = some (.tup [.str l.au, .int l.num]) := upd_same
        have D8 := s8' _ _ b1
        have b28 : ∀ b ∈ bs, RefAt (upd H7 t8 (.tup [.str l.au, .int l.num])) b := fun b hb => s8' _ _ (b2 b hb)
        generalize upd H7 t8 (.tup [.str l.au, .int l.num]) = H8 at s8' e8 D8 b28
        have s8 := s7.trans s8'
        have hfil := take_succ_filter (p := fun l : Ltr => cntsR (rollS g q2.o) l.au l.num) hl
        refine ⟨q2.A.r, q2.A.dc, q2.A.dl, t8, _, l, rollS g q2.o, rfl, P3.led.rl.same (s6.trans s8), e8, _, rfl, ?_⟩
        cases hc : cntsR (rollS g q2.o) l.au l.num with
        | false =>
          rw [hc] at hfil
          refine iteF ?_
          exact ⟨s8, bs, D8, b28, by rw [hfil]; simp [b3]⟩
        | true =>
          rw [hc] at hfil
          refine iteT ⟨_, rfl, a, dy, _, rfl, (s6.trans s8) _ _ a1, a, l, rfl, hla.im (K := K) (.same (s6.trans s8)), fun t9 ht9 => ?_⟩
          have s9' := same_new (o := .tup [.str l.au, .int l.num]) ht9
          have e9 : upd H8 t9 (.tup [.str l.au, .int l.num]) t9 = some (.tup [.str l.au, .int l.num]) := upd_same
          have D9 := s9' _ _ D8
          have b29 : ∀ b ∈ bs, RefAt (upd H8 t9 (.tup [.str l.au, .int l.num])) b := fun b hb => s9' _ _ (b28 b hb)
          generalize upd H8 t9 (.tup [.str l.au, .int l.num]) = H9 at s9' e9 D9 b29
          have s9 := s8.trans s9'
          have lbs : bs.length ≤ q2.o.length := by
            have h5 := congrArg List.length b3
            rw [List.length_map, List.length_map] at h5
            have h6 : ((q2.o.take j).filter fun l => cntsR (rollS g q2.o) l.au l.num).length ≤ (q2.o.take j).length := List.length_filter_le _ _
            rw [List.length_take] at h6
            omega
          refine ⟨_, D9, by rw [List.length_map, sizeLine_eq]; omega, fun b u e => ?_, bs ++ [(t9, wk l)], by rw [upd_same, List.map_append]; rfl, fun b hb => ?_, by rw [hfil]; simp [b3]⟩
          · rw [upd_ne (ne_of_none e hD)]
            exact s9 _ _ e
          · rcases List.mem_append.mp hb with z | z
            · have hz := b29 b z
              unfold RefAt at hz ⊢
              rw [upd_ne (ne_of hz D9 (by intro y; cases y))]
              exact hz
            · rw [List.mem_singleton.mp z]
              show upd H9 D _ t9 = _
              rw [upd_ne (ne_of e9 D9 (by intro y; cases y))]
              exact e9
      · rintro H7 ⟨s7', bs, b1, b2, b3⟩
        have s7 := s6.trans s7'
        rw [List.length_map, los, List.take_length] at b3
        refine ⟨D, bs, rfl, SqL.of b1, b2, fun p8 hp8 => ?_⟩
        have rf8 := refs_sorted hp8 rfl b2
        have eqs : sortQ (bs.map (·.2)) = cntL2 (rollS g G) G := by
          rw [b3, hR3]
          exact sortQ_perm (hperm.map wk)
        rw [eqs] at rf8
        have s8' := same_new (o := .lst ((sortR bs).map fun b => V.ref b.1)) hp8
        generalize upd H7 p8 (.lst ((sortR bs).map fun b => V.ref b.1)) = H8 at rf8 s8'
        have s8 := s7.trans s8'
        have hp80 := s7.free hp8
        -- told
        have hnm := roll_names_le g q2.o
        refine ⟨_, rfl, _, rfl, q2.A.r, dr, _, rfl, s8 _ _ r1, rfl, q2.A.r, q2.A.dc, q2.A.dl, _, rollS g q2.o, rfl, P3.led.rl.same s8, by omega, fun p9 H9 hp9 s9' m9 => ?_⟩
        have s9 := s8.trans s9'
        have hp90 := s8.free hp9
        refine ⟨_, rfl, q2.A.r, dr, _, rfl, s9 _ _ r1, rfl, q2.A.r, q2.A.dc, q2.A.dl, _, rollS g q2.o, rfl, P3.led.rl.same s9, fun p10 hp10 => ?_⟩
        have s10' := same_new (o := .dK (limK (rollS g q2.o).lims)) hp10
        have e10 : upd H9 p10 (.dK (limK (rollS g q2.o).lims)) p10 = some (.dK (limK (rollS g q2.o).lims)) := upd_same
        generalize upd H9 p10 (.dK (limK (rollS g q2.o).lims)) = H10 at s10' e10
        have s10 := s9.trans s10'
        have hp100 := s9.free hp10
        refine ⟨_, rfl, q2.A.r, _, dr, _, _, rfl, s10 _ _ r1, T.kR, T.nKe, rf_ke _ _ _ _, (by show 4 ≤ sizeLine; decide), fun t11 ht11 => ?_⟩
        have s11' := same_new (o := .lst [.ref p8, .ref p9, .ref p10, .str (rollS g q2.o).keeper]) ht11
        have e11 : upd H10 t11 (.lst [.ref p8, .ref p9, .ref p10, .str (rollS g q2.o).keeper]) t11 = some (.lst [.ref p8, .ref p9, .ref p10, .str (rollS g q2.o).keeper]) := upd_same
        generalize upd H10 t11 (.lst [.ref p8, .ref p9, .ref p10, .str (rollS g q2.o).keeper]) = H11 at s11' e11
        have s11 := s10.trans s11'
        have ht110 := s10.free ht11
        rw [hR3] at e11 e10 m9
        have told11 : ToldAt H11 t11 (rollS g G) (cntL2 (rollS g G) G) p8 p9 p10 := by
          obtain ⟨bs, c1, c2, c3⟩ := rf8
          have sx := s9'.trans (s10'.trans s11')
          exact ⟨e11, ⟨bs, sx _ _ c1, c2, fun b hb => sx _ _ (c3 b hb)⟩, (s10'.trans s11') _ _ m9, s11' _ _ e10⟩
        -- due
        refine ⟨_, rfl, q.pa, _, _, _, rfl, rfl, SqL.of (s11 _ _ tab3), atI1, _, rfl, q.pa, _, _, _, rfl, rfl, SqL.of (s11 _ _ tab3), atI1, q2.d, q2.S, g, q2.o, q2.w, rfl, P3.mod.same s11, by omega, fun c12 H12 hc12 s12' hcc => ?_⟩
        have s12 := s11.trans s12'
        refine ⟨q2.d, c12, q2.S, g, q2.o, q2.w, rfl, P3.mod.same s12, hcc, gd3.ord, hms, by omega, fun p13 H13 hp13 s13' MR => ?_⟩
        have s13 := s12.trans s13'
        rw [hR3] at MR
        obtain ⟨ca, cu, kc, m1, m2, m3, m4⟩ := MR
        have s1113 := s12'.trans s13'
        have told13 : ToldAt H13 t11 (rollS g G) (cntL2 (rollS g G) G) p8 p9 p10 := by
          obtain ⟨z1, ⟨bs, z2, z3, z4⟩, z5, z6⟩ := told11
          exact ⟨s1113 _ _ z1, ⟨bs, s1113 _ _ z2, z3, fun b hb => s1113 _ _ (z4 b hb)⟩, s1113 _ _ z5, s1113 _ _ z6⟩
        obtain ⟨z1, z2, z3, z4⟩ := id told13
        refine ⟨_, rfl, _, rfl, t11, _, rfl, SqL.of z1, fun p14 hp14 => ?_⟩
        have s14' := same_new (o := .lst (cutV [.ref p8, .ref p9, .ref p10, .str (rollS g G).keeper] (some 1) none)) hp14
        have e14 : upd H13 p14 (.lst (cutV [.ref p8, .ref p9, .ref p10, .str (rollS g G).keeper] (some 1) none)) p14 = some (.lst [.ref p9, .ref p10, .str (rollS g G).keeper]) := upd_same
        generalize upd H13 p14 (.lst (cutV [.ref p8, .ref p9, .ref p10, .str (rollS g G).keeper] (some 1) none)) = H14 at s14' e14
        have m24 := s14' _ _ m2
        have m14 := s14' _ _ m1
        have m44 := s14' _ _ m4
        refine ⟨ca, _, m24, trivial, fun od => ?_⟩
        have nap : p13 ≠ ca := ne_of m14 m24 (by intro y; cases y)
        refine ⟨_, rfl, p13, _, _, _, rfl, rfl, SqL.of (by rw [upd_ne nap]; exact m14), atI0, ca, od, rfl, .inl ⟨kc, upd_same, ?_⟩⟩
        intro D2 hD2
        have hDc : D2 ≠ ca := fun z => by rw [z, upd_same] at hD2; cases hD2
        have hD20 : H14 D2 = none := by rw [upd_ne hDc] at hD2; exact hD2
        have hkl := keys_len m3
        refine lc_by kc.length (fun i H15 => H15 = upd (upd H14 ca (.frz od (.dK kc))) D2 (.lst ((((rollS g G).names.take i).filter fun x => ((rollS g G).lim x).isNone).map V.str))) rfl ?_ ?_ ?_
        · rintro i H15 hi rfl
          exact ⟨by rw [upd_ne hDc.symm, upd_same], hi⟩
        · rintro i H15 hi rfl x H' ⟨rfl, key, v', hkv, rfl⟩
          have hx : ∃ x, (rollS g G).names[i]? = some x ∧ key = Sum.inr x := by
            have e := congrArg (fun z => z[i]?) m3
            simp only [List.getElem?_map, hkv] at e
            cases q : (rollS g G).names[i]? with
            | none => rw [q] at e; cases e
            | some x => rw [q] at e; exact ⟨x, rfl, Option.some.inj e⟩
          obtain ⟨x, hx, rfl⟩ := hx
          refine ⟨rfl, ?_⟩
          have npD : p13 ≠ D2 := ne_of_none m14 hD20
          have ncD : cu ≠ D2 := ne_of_none m44 hD20
          have g2 : DGet (upd (upd H14 ca (.frz od (.dK kc))) D2 (.lst ((((rollS g G).names.take i).filter fun x => ((rollS g G).lim x).isNone).map V.str))) cu (.str x) (valV (limK (rollS g G).lims) (Sum.inr x : Key)) := by
            by_cases z2 : cu = ca
            · have e : limK (rollS g G).lims = kc := by
                rw [z2, m24] at m44
                exact (HO.dK.inj (Option.some.inj m44)).symm
              exact .inl ⟨limK (rollS g G).lims, Sum.inr x, .inr ⟨od, by rw [upd_ne ncD, z2, upd_same, e]⟩, rfl, rfl⟩
            · exact .inl ⟨limK (rollS g G).lims, Sum.inr x, .inl (by rw [upd_ne ncD, upd_ne z2]; exact m44), rfl, rfl⟩
          refine ⟨_, rfl, _, rfl, p13, _, _, _, rfl, rfl, SqL.of (by rw [upd_ne npD, upd_ne nap]; exact m14), atI1, cu, _, rfl, g2, _, rfl, ?_⟩
          have ef : (!(valV (limK (rollS g G).lims) (Sum.inr x : Key)).isSome) = ((rollS g G).lim x).isNone := by
            rw [val_lims]
            unfold Roll.lim
            cases lk (rollS g G).lims x <;> rfl
          rw [ef, take_succ_filter hx]
          have hnmG := roll_names_le g G
          cases qn : ((rollS g G).lim x).isNone with
          | true =>
            refine iteT ⟨_, rfl, _, upd_same, ?_, ?_⟩
            · rw [List.length_map, sizeLine_eq]
              have h6 : (((rollS g G).names.take i).filter fun x => ((rollS g G).lim x).isNone).length ≤ ((rollS g G).names.take i).length := List.length_filter_le _ _
              rw [List.length_take] at h6
              omega
            · rw [upd_upd, if_pos rfl, List.map_append]
              rfl
          | false =>
            refine iteF ?_
            rw [if_neg Bool.false_ne_true, List.append_nil]
        · rintro H15 rfl
          have eD : (upd (upd H14 ca (.frz od (.dK kc))) D2 (.lst ((((rollS g G).names.take kc.length).filter fun x => ((rollS g G).lim x).isNone).map V.str))) ca = some (.frz od (.dK kc)) := by rw [upd_ne hDc.symm, upd_same]
          refine ⟨⟨eD, Nat.le_refl _⟩, eD, ?_⟩
          have s15' : Same H14 (upd (upd (upd H14 ca (.frz od (.dK kc))) D2 (.lst ((((rollS g G).names.take kc.length).filter fun x => ((rollS g G).lim x).isNone).map V.str))) ca (.dK kc)) := fun b u e => by
            by_cases hb : b = ca
            · rw [hb, upd_same]
              rw [hb, m24] at e
              exact e
            · rw [upd_ne hb, upd_ne (ne_of_none e hD20), upd_ne hb]
              exact e
          have e15 : (upd (upd (upd H14 ca (.frz od (.dK kc))) D2 (.lst ((((rollS g G).names.take kc.length).filter fun x => ((rollS g G).lim x).isNone).map V.str))) ca (.dK kc)) D2 = some (.lst ((rollS g G).members.map V.str)) := by
            rw [upd_ne hDc, upd_same, hkl, List.take_length]
            rfl
          generalize (upd (upd (upd H14 ca (.frz od (.dK kc))) D2 (.lst ((((rollS g G).names.take kc.length).filter fun x => ((rollS g G).lim x).isNone).map V.str))) ca (.dK kc)) = H15 at s15' e15
          refine ⟨_, rfl, p13, _, _, _, rfl, rfl, SqL.of (s15' _ _ m14), atI1, _, rfl, p13, _, _, _, rfl, rfl, SqL.of (s15' _ _ m14), atI2, (by show 3 ≤ sizeLine; decide), fun p16 hp16 => ?_⟩
          have s16' := same_new (o := .lst [.ref D2, .ref cu, .str (rollS g G).keeper]) hp16
          have e16 : upd H15 p16 (.lst [.ref D2, .ref cu, .str (rollS g G).keeper]) p16 = some (.lst [.ref D2, .ref cu, .str (rollS g G).keeper]) := upd_same
          generalize upd H15 p16 (.lst [.ref D2, .ref cu, .str (rollS g G).keeper]) = H16 at s16' e16
          have s1416 := s15'.trans s16'
          have s1316 := s14'.trans s1416
          have s16 := s13.trans s1316
          refine ⟨p14, p16, _, _, rfl, rfl, SqL.of (s1416 _ _ e14), SqL.of e16, .cons (strs_same (s1316 _ _ z3) (s16' _ _ e15)) (.cons (lims_same (lims_nd g G) (s1316 _ _ z4) (s1416 _ _ m44)) (.cons (str_same _) .nil)), _, rfl, ?_⟩
          refine iteF ?_
          have told16 : ToldAt H16 t11 (rollS g G) (cntL2 (rollS g G) G) p8 p9 p10 := by
            obtain ⟨z1, ⟨bs, z2, z3, z4⟩, z5, z6⟩ := told13
            exact ⟨s1316 _ _ z1, ⟨bs, s1316 _ _ z2, z3, fun b hb => s1316 _ _ (z4 b hb)⟩, s1316 _ _ z5, s1316 _ _ z6⟩
          have hP16 : ∀ r ∈ qs.drop (i + 1), PrAt K H16 g r := fun r hr' => (hP3 r hr').same s16
          have hn16 : ∀ r ∈ qs.drop (i + 1), ¬ r.own t11 ∧ ¬ r.own p8 ∧ ¬ r.own p9 ∧ ¬ r.own p10 := fun r hr' => by
            have ex : ∀ b, H3 b = none → ¬ r.own b := fun b e z => by
              obtain ⟨u, u1, _⟩ := (hP3 r hr').ex T z
              rw [e] at u1
              cases u1
            exact ⟨ex _ ht110, ex _ hp80, ex _ hp90, ex _ hp100⟩
          have cmp : ∀ (t b m c : Addr), ToldAt H16 t (rollS g G) (cntL2 (rollS g G) G) b m c → Paired (SameV K H16) [V.ref p8, V.ref p9, V.ref p10, V.str (rollS g G).keeper] [.ref b, .ref m, .ref c, .str (rollS g G).keeper] := fun t b m c ht =>
            .cons (refs_same told16.2.1 ht.2.1) (.cons (strs_same told16.2.2.1 ht.2.2.1) (.cons (lims_same (lims_nd g G) told16.2.2.2 ht.2.2.2) (.cons (str_same _) .nil)))
          refine ⟨_, rfl, rfl, _, rfl, ?_⟩
          rcases hf3 with hv | ⟨t, b, m, c, hv, ht3, hn3⟩
          · subst hv
            show if (decide (V.non = V.non)) = true then _ else _
            rw [decide_eq_true rfl]
            refine iteT ⟨_, rfl, ?_⟩
            refine ⟨_, rfl, _, rfl, t11, t11, _, _, rfl, rfl, SqL.of told16.1, SqL.of told16.1, cmp t11 p8 p9 p10 told16, _, rfl, ?_⟩
            refine iteF ?_
            exact ⟨_, _, _, _, _, _, _, _, rfl, hP16, s16 _ _ hps3, hlt3.same s16, .inr ⟨t11, p8, p9, p10, rfl, told16, hn16⟩⟩
          · subst hv
            have ht16 : ToldAt H16 t (rollS g G) (cntL2 (rollS g G) G) b m c := by
              obtain ⟨z1, ⟨bs, z2, z3, z4⟩, z5, z6⟩ := ht3
              exact ⟨s16 _ _ z1, ⟨bs, s16 _ _ z2, z3, fun b hb => s16 _ _ (z4 b hb)⟩, s16 _ _ z5, s16 _ _ z6⟩
            show if (decide (V.ref t = V.non)) = true then _ else _
            rw [decide_eq_false (by intro z; cases z)]
            refine iteF ?_
            refine ⟨_, rfl, _, rfl, t11, t, _, _, rfl, rfl, SqL.of told16.1, SqL.of ht16.1, cmp t b m c ht16, _, rfl, ?_⟩
            refine iteF ?_
            exact ⟨_, _, _, _, _, _, _, _, rfl, hP16, s16 _ _ hps3, hlt3.same s16, .inr ⟨t, b, m, c, rfl, ht16, hn3⟩⟩
    · rintro σ H2 ⟨v, u3, u4, u5, u6, u7, u8, u9, rfl, _⟩
      exact k H2
end
end Lo
set_option Elab.async false
set_option maxRecDepth 100000
set_option maxHeartbeats 4000000
namespace Lo
open PySem PySem.Spec PyProof.Rows L2
open C8 (Cal Met Mak scC fnScope_by pe_c pe_mk pe_mt pe_mt0)
def Dj (q r : Pr) : Prop := ∀ b, q.all b → ¬ r.all b
theorem Dj.symm {q r : Pr} (h : Dj q r) : Dj r q := fun b z y => h b y z
/-- the whole room: every person's pair -/
structure RoomAt (K : PySem.W.Frag) (H0 H : Hp) (g : Ltr) (ns : List Str) (ps lt : Addr) (ok : Nat → Prop) (qs : List Pr) (G : List Ltr) : Prop where
  s0 : Same H0 H
  hps : H ps = some (.lst (qs.map fun q => V.ref q.pa))
  hlt : LsAt K H lt G
  lt0 : H0 lt = none
  ne : lt ≠ ps
  len : qs.length = ns.length
  pr : ∀ q ∈ qs, PrAt K H g q ∧ Good g G q.o q.w
  own : ∀ q ∈ qs, ∀ b, q.own b → H0 b = none ∧ b ≠ ps ∧ b ≠ lt
  pal : ∀ q ∈ qs, q.pa ≠ lt
  ow : ∀ j q x, ok j → qs[j]? = some q → ns[j]? = some x → Own G q.o x
  dis : qs.Pairwise Dj
  aus : ∀ l ∈ G, l.au ∈ ns
section
variable {K : PySem.W.Frag} {mg : Str → Option Value} {H0 H H' : Hp} {g : Ltr} {ns : List Str} {ps lt : Addr} {ok : Nat → Prop} {qs : List Pr} {G : List Ltr}
theorem RoomAt.same (R : RoomAt K H0 H g ns ps lt ok qs G) (s : Same H H') : RoomAt K H0 H' g ns ps lt ok qs G :=
  ⟨R.s0.trans s, s _ _ R.hps, R.hlt.same s, R.lt0, R.ne, R.len, fun q hq => ⟨(R.pr q hq).1.same s, (R.pr q hq).2⟩, R.own, R.pal, R.ow, R.dis, R.aus⟩
theorem RoomAt.weak {ok' : Nat → Prop} (R : RoomAt K H0 H g ns ps lt ok qs G) (h : ∀ i, ok' i → ok i) : RoomAt K H0 H g ns ps lt ok' qs G :=
  ⟨R.s0, R.hps, R.hlt, R.lt0, R.ne, R.len, R.pr, R.own, R.pal, fun j q x o => R.ow j q x (h j o), R.dis, R.aus⟩
theorem pw_get {qs : List Pr} (h : qs.Pairwise Dj) {i j : Nat} {q r : Pr} (hi : qs[i]? = some q) (hj : qs[j]? = some r) (n : i ≠ j) : Dj q r := by
  obtain ⟨h1, rfl⟩ := List.getElem?_eq_some_iff.mp hi
  obtain ⟨h2, rfl⟩ := List.getElem?_eq_some_iff.mp hj
  rcases Nat.lt_or_gt_of_ne n with z | z
  · exact List.pairwise_iff_getElem.mp h i j h1 h2 z
  · exact (List.pairwise_iff_getElem.mp h j i h2 h1 z).symm
theorem RoomAt.grow {mg : Str → Option Value} (T : Txt K mg) (R : RoomAt K H0 H g ns ps lt ok qs G) {as : List Addr} (hl : H lt = some (.lst (as.map V.ref))) (hls : Ls K H as G) {a : Addr} {l : Ltr} (ha : LetterAt (cL K) H a l) (S : Stp g G l) (hin : l.au ∈ ns) {j : Nat} (hau : ∀ i x, ns[i]? = some x → i ≠ j → l.au ≠ x) :
    RoomAt K H0 (upd H lt (.lst (as.map V.ref ++ [.ref a]))) g ns ps lt (fun i => ok i ∧ i ≠ j) qs (G ++ [l]) := by
  have im : Im K H (upd H lt (.lst (as.map V.ref ++ [.ref a]))) := .set hl rfl
  have kp : ∀ b u, H b = some u → b ≠ lt → upd H lt (.lst (as.map V.ref ++ [.ref a])) b = some u := kpu
  refine ⟨fun b u e => kp b u (R.s0 b u e) fun z => ?_, kp _ _ R.hps R.ne.symm, ⟨as ++ [a], by rw [upd_same, List.map_append]; rfl, pair_app (hls.im im) (.cons (ha.im im) .nil)⟩, R.lt0, R.ne, R.len, fun q hq => ⟨(R.pr q hq).1.kp im fun b u z e => kp b u e ?_, (R.pr q hq).2.grow S⟩, R.own, R.pal, fun i q x hi hq hx => (R.ow i q x hi.1 hq hx).grow (hau i x hx hi.2), R.dis, fun y hy => ?_⟩
  case refine_3 =>
    rw [List.mem_append, List.mem_singleton] at hy
    rcases hy with hy | rfl
    · exact R.aus y hy
    · exact hin
  · rw [z, R.lt0] at e
    cases e
  · rcases z with z | z
    · exact (R.own q hq b z).2.2
    · rw [z]
      exact R.pal q hq
theorem RoomAt.take {mg : Str → Option Value} (T : Txt K mg) {j : Nat} (R : RoomAt K H0 H g ns ps lt (fun i => ok i ∧ i ≠ j) qs G) {q q' : Pr} {x : Str} (hq : qs[j]? = some q) (hx : ns[j]? = some x) (hP : PrAt K H' g q') (st : Step q.own q'.own H H') (ep : q'.pa = q.pa) (hG : Good g G q'.o q'.w) (hO : Own G q'.o x) :
    RoomAt K H0 H' g ns ps lt ok (qs.set j q') G := by
  have hqm := List.mem_of_getElem? hq
  have hjl := (List.getElem?_eq_some_iff.mp hq).1
  have P := (R.pr q hqm).1
  have im : Im K H H' := st.im fun b z => P.ex T z
  have hlt' : LsAt K H' lt G := R.hlt.kp im fun u e => st.kp _ _ e fun z => (R.own q hqm _ z).2.2 rfl
  have hps' := st.kp _ _ R.hps fun z => (R.own q hqm _ z).2.1 rfl
  obtain ⟨asl, hl1, _⟩ := id R.hlt
  -- a member of the new list is q' or an old one at another place
  have mem : ∀ r ∈ qs.set j q', r = q' ∨ ∃ i, i ≠ j ∧ qs[i]? = some r := fun r hr => by
    obtain ⟨i, hi⟩ := List.mem_iff_getElem?.mp hr
    by_cases e : i = j
    · rw [e, List.getElem?_set_self hjl] at hi
      exact .inl (Option.some.inj hi).symm
    · rw [List.getElem?_set_ne (Ne.symm e)] at hi
      exact .inr ⟨i, e, hi⟩
  have old : ∀ i r, i ≠ j → qs[i]? = some r → PrAt K H' g r := fun i r n hi => by
    have d := pw_get R.dis hq hi (Ne.symm n)
    exact (R.pr r (List.mem_of_getElem? hi)).1.kp im fun b u z e => st.kp b u e fun y => d b (.inl y) z
  have djn : ∀ i r, i ≠ j → qs[i]? = some r → Dj q' r := fun i r n hi b z y => by
    have d := pw_get R.dis hq hi (Ne.symm n)
    rcases z with z | z
    · rcases st.ow b z with z2 | z2
      · exact d b (.inl z2) y
      · obtain ⟨u, e⟩ := (R.pr r (List.mem_of_getElem? hi)).1.exA T y
        rw [e] at z2
        cases z2
    · exact d b (.inr (z.trans ep)) y
  refine ⟨fun b u e => st.kp b u (R.s0 b u e) fun z => ?_, ?_, hlt', R.lt0, R.ne, by rw [List.length_set]; exact R.len, fun r hr => ?_, fun r hr b z => ?_, fun r hr => ?_, fun i r y hi hr hy => ?_, ?_, R.aus⟩
  · rw [(R.own q hqm b z).1] at e
    cases e
  · rw [hps', List.map_set, ep]
    congr 2
    refine (List.ext_getElem? fun i => ?_)
    by_cases e : i = j
    · rw [e, List.getElem?_set_self (by rw [List.length_map]; exact hjl), List.getElem?_map, hq]
      rfl
    · rw [List.getElem?_set_ne (Ne.symm e)]
  · rcases mem r hr with rfl | ⟨i, n, hi⟩
    · exact ⟨hP, hG⟩
    · exact ⟨old i r n hi, (R.pr r (List.mem_of_getElem? hi)).2⟩
  · rcases mem r hr with rfl | ⟨i, n, hi⟩
    · rcases st.ow b z with z2 | z2
      · exact R.own q hqm b z2
      · refine ⟨?_, fun e => ?_, fun e => ?_⟩
        · cases e : H0 b with
          | none => rfl
          | some u => rw [R.s0 b u e] at z2; cases z2
        · rw [e, R.hps] at z2; cases z2
        · rw [e, hl1] at z2; cases z2
    · exact R.own r (List.mem_of_getElem? hi) b z
  · rcases mem r hr with rfl | ⟨i, n, hi⟩
    · rw [ep]
      exact R.pal q hqm
    · exact R.pal r (List.mem_of_getElem? hi)
  · by_cases e : i = j
    · rw [e, List.getElem?_set_self hjl] at hr
      rw [e, hx] at hy
      obtain rfl := Option.some.inj hr
      obtain rfl := Option.some.inj hy
      exact hO
    · rw [List.getElem?_set_ne (Ne.symm e)] at hr
      exact R.ow i r y ⟨hi, e⟩ hr hy
  · refine List.pairwise_iff_getElem.mpr fun i k hi hk hik => ?_
    rw [List.length_set] at hi hk
    rw [List.getElem_set, List.getElem_set]
    have e1 := List.getElem?_eq_getElem hi
    have e2 := List.getElem?_eq_getElem hk
    by_cases n1 : j = i
    · rw [if_pos n1, if_neg (by omega)]
      exact djn k _ (by omega) e2
    · rw [if_neg n1]
      by_cases n2 : j = k
      · rw [if_pos n2]
        exact (djn i _ (by omega) e1).symm
      · rw [if_neg n2]
        exact pw_get R.dis e1 e2 (by omega)
end
/-- a stream that stands aside of the room -/
structure Aside (H0 : Hp) (ps lt s : Addr) (qs : List Pr) : Prop where
  n0 : H0 s = none
  n1 : ps ≠ s
  n2 : lt ≠ s
  n3 : ∀ q ∈ qs, ¬ q.all s
section
variable {K : PySem.W.Frag} {mg : Str → Option Value} {H0 H H' : Hp} {g : Ltr} {ns : List Str} {ps lt s : Addr} {ok : Nat → Prop} {qs : List Pr} {G : List Ltr}
theorem RoomAt.new {mg : Str → Option Value} (T : Txt K mg) (R : RoomAt K H0 H g ns ps lt ok qs G) (hs : H s = none) : Aside H0 ps lt s qs := by
  obtain ⟨as, h1, _⟩ := id R.hlt
  refine ⟨?_, fun e => ?_, fun e => ?_, fun q hq z => ?_⟩
  · cases e : H0 s with
    | none => rfl
    | some u => rw [R.s0 s u e] at hs; cases hs
  · rw [← e, R.hps] at hs; cases hs
  · rw [← e, h1] at hs; cases hs
  · obtain ⟨u, e⟩ := (R.pr q hq).1.exA T z
    rw [e] at hs
    cases hs
theorem RoomAt.stm (R : RoomAt K H0 H g ns ps lt ok qs G) (hs : StmAt H s) (a : Aside H0 ps lt s qs) (kp : ∀ b u, H b = some u → b ≠ s → H' b = some u) : RoomAt K H0 H' g ns ps lt ok qs G := by
  obtain ⟨x, y, e0⟩ := hs
  have im : Im K H H' := fun b u e m => kp b u e fun z => by
    rw [z, e0] at e
    rw [← Option.some.inj e] at m
    cases m
  refine ⟨fun b u e => kp b u (R.s0 b u e) fun z => ?_, kp _ _ R.hps a.n1, R.hlt.kp im fun u e => kp _ _ e a.n2, R.lt0, R.ne, R.len, fun q hq => ⟨(R.pr q hq).1.kp im fun b u z e => kp b u e fun y => a.n3 q hq (y ▸ z), (R.pr q hq).2⟩, R.own, R.pal, R.ow, R.dis, R.aus⟩
  rw [z, a.n0] at e
  cases e
end
theorem new_of {g : Ltr} {o : List Ltr} {x : Str} {l : Ltr} {zs : List Str} (h1 : l.au = x) (h2 : l.num = heldN o x + 1) {b : Bdy} (h3 : l.body = b) (hb : GoodB b) (hz : ∀ y, y ∈ zs ↔ y ∈ auths o ∨ y = x) (hs : l.seen = zs.map fun y => (y, nxC o x y)) (hm : (rollS g o).mem x = true) (ha : l.act = true → actOk (rollS g o) x b) : New g o x l := by
  have hc : ∀ y, l.count y = nxC o x y := fun y => by
    unfold Ltr.count
    rw [hs, lk_map]
    split
    · rfl
    · rename_i n
      rw [hz] at n
      have n1 : y ∉ auths o := fun z => n (.inl z)
      have n2 : y ≠ x := fun z => n (.inr z)
      unfold nxC
      rw [if_neg n2, held_nil n1]
      rfl
  refine ⟨h1, h2, hc, fun p hp => ?_, hm, fun q => ?_, fun ms e => ?_⟩
  · rw [hc]
    rw [hs] at hp
    obtain ⟨y, _, rfl⟩ := List.mem_map.mp hp
    rfl
  · have h := ha q
    cases b with
    | found _ => exact h.elim
    | say => exact h.elim
    | seen => exact h.elim
    | add n => exact h.1
    | cut n => exact h.1
    | hand n => exact h.1
  · rw [h3] at e
    rw [e] at hb
    exact hb
theorem takeAll_own {g : Ltr} {G : List Ltr} {x : Str} : ∀ (ls : List Ltr) {p : List Ltr × List Ltr}, Good g G p.1 p.2 → Own G p.1 x → (∀ l ∈ ls, l ∈ G) → Own G (takeAll g ls p).1 x
  | [], p, _, O, _ => O
  | l :: r, p, gd, O, h => by
    have hl := h l List.mem_cons_self
    exact takeAll_own r (gd.take hl) (O.take gd hl) fun a ha => h a (List.mem_cons_of_mem _ ha)
theorem eqv_ref (q r : Str × Nat) : PyData.eqv (refD q) (refD r) = true → q = r := by
  obtain ⟨a, b⟩ := q
  obtain ⟨c, d⟩ := r
  intro h
  simp only [refD, PyData.eqv, PyData.eqvAll] at h
  simp at h
  obtain ⟨h1, h2⟩ := h
  exact Prod.ext h1 (by omega)
theorem name_ok {x : Str} (h : NameOk x) : PyData.strOk x = true := by
  unfold PyData.strOk
  rw [Array.all_eq_true_iff_forall_mem]
  intro c hc
  have hl : ∀ c ∈ letters.cps.toList, c < 0x110000 := by decide
  have hd : ∀ c ∈ digits.cps.toList, c < 0x110000 := by decide
  rcases h.all c (Array.mem_toList_iff.mpr hc) with z | z
  · exact decide_eq_true (hl c z)
  · exact decide_eq_true (hd c z)
theorem lay_ref {q : Str × Nat} (h : PyData.strOk q.1 = true) : (refD q).canLay0 = true := by
  simp [PyData.canLayAll0, PyData.canLay0, refD, h]
theorem shape_ref {q : Str × Nat} (h : PyData.strOk q.1 = true) : SeqAt.shaped (refD q) = true := by
  have h2 := ref_depth q
  unfold SeqAt.shaped
  rw [lay_ref h, Bool.true_and]
  exact decide_eq_true (by omega)
theorem lay_refs : ∀ qs : List (Str × Nat), (∀ q ∈ qs, PyData.strOk q.1 = true) → PyData.canLayAll0 (qs.map refD) = true
  | [], _ => by simp [PyData.canLayAll0]
  | q :: r, h => by
    simp only [List.map_cons, PyData.canLayAll0, lay_ref (h q List.mem_cons_self), lay_refs r fun x hx => h x (List.mem_cons_of_mem _ hx), Bool.and_true]
theorem shape_refs {qs : List (Str × Nat)} (h : ∀ q ∈ qs, PyData.strOk q.1 = true) : SeqAt.shaped (.list (qs.map refD)) = true := by
  have h1 := depth_refs2 qs
  have h2 : (PyData.list (qs.map refD)).canLay0 = true := by
    simp only [PyData.canLay0]
    exact lay_refs qs h
  unfold SeqAt.shaped
  rw [h2, Bool.true_and]
  exact decide_eq_true (by omega)
theorem not_waiting {g : Ltr} {G o w : List Ltr} {x : Str} {l : Ltr} (gd : Good g G o w) (O : Own G o x) (N : New g o x l) : ((sortQ (w.map fun l => (l.au, l.num))).map refD).any (fun z => PyData.eqv z (refD (l.au, l.num))) = false := by
  rw [List.any_eq_false]
  intro z hz e
  obtain ⟨r, hr, rfl⟩ := List.mem_map.mp hz
  have er := eqv_ref _ _ e
  have hr2 : r ∈ w.map fun l => (l.au, l.num) := (List.mergeSort_perm _ _).mem_iff.mp hr
  obtain ⟨a, ha, rfl⟩ := List.mem_map.mp hr2
  have e1 : a.au = l.au := congrArg Prod.fst er
  have e2 : a.num = l.num := congrArg Prod.snd er
  have h1 := (gd.hon.le (gd.wG a ha)).2
  rw [e1, e2, N.num, N.au] at h1
  have := O.all
  omega
end Lo
set_option Elab.async false
set_option maxRecDepth 100000
set_option maxHeartbeats 4000000
namespace Lo
open PySem PySem.Spec PyProof.Rows L2
open C8 (Cal Met Mak scC fnScope_by pe_c pe_mk pe_mt pe_mt0)
section
variable {P : Program} {w : World} {K : PySem.W.Frag} {mg : Str → Option Value} {base : Heap} {f : Addr}
theorem hu65_of {A : Around} {k : Nat} (hr : Room k A) : A.units + 65 < cLine := by
  have := hr.un
  omega
def spLaw (K : PySem.W.Frag) : Sp := fun vs H Q _ => ∃ (a : Addr) (ns : List Int), vs = [.ref a] ∧ SqL K H a (ns.map V.int) ∧ ns.length ≤ 63 ∧ ∀ H', Q (.bl true) H'
theorem ok_law (T : Txt K mg) (mst : Cal P w K mg base 1 "_law_stream" spStream []) (mn : Cal P w K mg base 1 "_law_next" spNxt []) (mba : Cal P w K mg base 2 "_law_base" spBase []) (mfo : Cal P w K mg base 3 "_law_founding" (spFounding K) [])
    (mle : Mak P w K mg base 3 "Ledger" (cG K) (spGInit K) []) (mmo : Cal P w K mg base 1 "_law_model" (spModel K) []) (mro : Prp P w K mg base 1 (cG K) "roll" (spRoll K)) (mme : Met P w K mg base 1 (cR K) "is_member" (spMember K) []) (mnl : Met P w K mg base 4 (cG K) "next_letter" (spNext K) [])
    (mbo : Cal P w K mg base 3 "_law_body" (spBody K) []) (mrf : Prp P w K mg base 1 (cL K) "ref" (spRef K)) (mwa : Met P w K mg base 1 (cG K) "waiting" (spWaits K) []) (mta : Cal P w K mg base 9 "_law_takes" (spTakes K) []) (mpi : Cal P w K mg base 2 "_law_pick" (spPick K) [])
    (msa : Cal P w K mg base 3 "_law_same" (spSame K) []) (mfi : Cal P w K mg base 10 "_law_final" (spFinal K) []) : Body P w K mg base N_law "law" s_law f 10 (spLaw K) := by
  intro cdv A outer s H vs Q E hr h
  · obtain ⟨sa, ns, rfl, hsc, hnl, k⟩ := h
    have hu := hu_of hr
    have nd := (fnScope_by sc_law).nd
    have hu65 := hu65_of hr
    refine ⟨_, (pss_cons (ps_set (i := 1) nd rfl (.inl rfl) pe_int) (pss_cons (ps_weak (t' := fun D σ H1 => σ = [some (.ref sa), some (.int 0), none, none, none, none, none, none, none, none, none, none] ∧ H1 = H ∧ ∀ c : Int, D.nx [some (.ref sa), some (.int c), none, none, none, none, none, none, none, none, none, none] H) (ps_if (pt_cmpR op_gt (pe_callB call_len_seq (by rfl) T.len (by decide +kernel) (pa_cons (pv 0) pa_nil)) pe_int (nomark _)) (pss_one (ps_set (i := 1) nd rfl (.inl rfl) (pe_ix ix_list (pv 0) pe_int (fun _ _ => rfl)))) pss_nil) ?w1) (pss_cons (ps_set (i := 2) nd rfl (.inl rfl) (pe_c mst hr (by decide) (by rfl) (pa_cons (pv 1) (pa_cons pe_int pa_nil)))) (pss_cons (ps_set (i := 3) nd rfl (.inl rfl) (pe_slice sl_list (pe_c mba hr (by decide) (by rfl) (pa_cons (pv 2) pa_nil)) po_none (po_some (pe_op op_add pe_int (pe_c mn hr (by decide) (by rfl) (pa_cons (pv 2) (pa_cons pe_int pa_nil))))))) (pss_cons (ps_set (i := 4) nd rfl (.inr rfl) (pe_c mfo hr (by decide) (by rfl) (pa_cons (pe_ix ix_list (pv 3) pe_int (fun _ _ => rfl)) (pa_cons (pe_slice sl_list (pv 3) (po_some pe_int) (po_some (pe_op op_add pe_int (pe_c mn hr (by decide) (by rfl) (pa_cons (pv 2) (pa_cons (pe_callB call_len_seq (by rfl) T.len (by decide +kernel) (pa_cons (pv 3) pa_nil)) pa_nil)))))) pa_nil)))) (pss_cons (ps_setLc (i := 5) (own := [("_law_name", 6)]) (g := gName 6) (tt := tYes) (te := tLst (tCons (tMake (cG K) (spGInit K) [] C8.E0 (tCons (tVar 4) tNil)) (tCons (tCall (spModel K) [] C8.E0 (tCons (tVar 4) tNil)) tNil))) (by rfl) nd rfl rfl (sw_true rfl rfl rfl (by decide +kernel)) (pi_list (pv 3))
        (blkOk_by (N := N_law) (sc := L2.defScope s_law) (by decide +kernel)) (fun _ _ _ _ _ => pg_name (i := 6) nd rfl (.inl rfl)) (fun _ _ _ _ _ => pts_nil) (fun _ _ _ _ _ => pe_lst (pa_cons (pe_mk mle hr (by decide) (by rfl) (pa_cons (pv 4) pa_nil)) (pa_cons (pe_c mmo hr (by decide) (by rfl) (pa_cons (pv 4) pa_nil)) pa_nil)))) (pss_cons (ps_set (i := 7) nd rfl (.inl rfl) (pe_lst (pa_cons (pv 4) pa_nil))) (pss_cons (ps_for PassesOwn.never rfl (pi_range2 (by rfl) T.range (pa_cons pe_int (pa_cons (pe_callB (call_min2 rfl) (by rfl) T.min (by decide +kernel) (pa_cons (pe_callB call_len_seq (by rfl) T.len (by decide +kernel) (pa_cons (pv 0) pa_nil)) (pa_cons pe_int pa_nil))) pa_nil))) (pg_name (i := 8) nd rfl (.inl rfl))
        (pss_cons (ps_set (i := 2) nd rfl (.inl rfl) (pe_c mst hr (by decide) (by rfl) (pa_cons (pe_ix ix_list (pv 0) (pv 8) (fun _ _ => rfl)) (pa_cons (pv 8) pa_nil)))) (pss_cons (ps_set (i := 9) nd rfl (.inl rfl) (pe_c mn hr (by decide) (by rfl) (pa_cons (pv 2) (pa_cons (pe_callB call_len_seq (by rfl) T.len (by decide +kernel) (pa_cons (pv 3) pa_nil)) pa_nil)))) (pss_cons (ps_set (i := 6) nd rfl (.inl rfl) (pe_ix ix_list (pv 3) (pv 9) (fun _ _ => rfl))) (pss_cons (ps_set (i := 10) nd rfl (.inl rfl) (pe_ix ix_list (pe_ix ix_list (pv 5) (pv 9) (fun _ _ => rfl)) pe_int (fun _ _ => rfl))) (pss_cons (ps_weak (t' := fun D σ H1 => ∃ (cell u11 : Option V) (s pp fa ps lt : Addr) (kk : V) (j : Nat) (q : Pr) (x : Str) (g : Ltr) (names : List Str) (qs : List Pr) (G : List Ltr) (H0 : Hp), σ = [some (.ref sa), cell, some (.ref s), some (.ref pp), some (.ref fa), some (.ref ps), some (.str x), some (.ref lt), some kk, some (.int (j : Nat)), some (.ref q.A.p), u11] ∧
          RoomAt K H0 H1 g names ps lt (fun _ => True) qs G ∧ qs[j]? = some q ∧ names[j]? = some x ∧ StmAt H1 s ∧ Aside H0 ps lt s qs ∧ H0 pp = some (.lst (names.map V.str)) ∧ names.Nodup ∧ (∀ x ∈ names, NameOk x) ∧ names.length < 1000 ∧ g.mems.length ≤ 500 ∧ G.length < 60 ∧ G ≠ [] ∧
          ∀ (H' : Hp) (q' : Pr) (G' : List Ltr) (u11' : Option V), RoomAt K H0 H' g names ps lt (fun _ => True) (qs.set j q') G' → q'.pa = q.pa → G'.length ≤ G.length + 1 → G' ≠ [] → D.nx [some (.ref sa), cell, some (.ref s), some (.ref pp), some (.ref fa), some (.ref ps), some (.str x), some (.ref lt), some kk, some (.int (j : Nat)), some (.ref q.A.p), u11'] H') (ps_if (PW.pt (pw_and (pt_cmpR op_eq (pe_c mn hr (by decide) (by rfl) (pa_cons (pv 2) (pa_cons pe_int pa_nil))) pe_int (nomark _)) (pw_and1 (pt_val (pe_mt mme hr (by decide) (pe_prp mro hr (by decide) (pv 10)) (pa_cons (pv 6) pa_nil))))))
          (pss_cons (ps_set (i := 11) nd rfl (.inl rfl) (pe_mt mnl hr (by decide) (pv 10) (pa_cons (pv 6) (pa_cons (pe_c mbo hr (by decide) (by rfl) (pa_cons (pv 10) (pa_cons (pv 6) (pa_cons (pv 3) (pa_cons (pv 2) pa_nil))))) pa_nil)))) (pss_one (ps_if (pt_cmpR (op_notInD hu65) (pe_prp mrf hr (by decide) (pv 11)) (pe_mt0 mwa hr (by decide) (pv 10)) (by rfl))
            (pss_cons (ps_expr (pe_bm PySem.F.plainAttrs_list PySem.F.slot_list_append PySem.F.type_list_append mt_append (pv 7) (pa_cons (pv 11) pa_nil))) (pss_one (ps_if (pt_not (pt_val (pe_c mta hr (by decide) (by rfl) (pa_cons (pe_ix ix_list (pv 5) (pv 9) (fun _ _ => rfl)) (pa_cons (pe_lst (pa_cons (pv 11) pa_nil)) pa_nil))))) (pss_one (ps_ret pe_bl)) pss_nil))) pss_nil)))
          (pss_one (ps_weak (t' := fun D σ H1 => ∃ (cell u11 : Option V) (s pp fa ps lt : Addr) (kk : V) (j : Nat) (q : Pr) (x : Str) (g : Ltr) (names : List Str) (qs : List Pr) (G : List Ltr) (H0 : Hp), σ = [some (.ref sa), cell, some (.ref s), some (.ref pp), some (.ref fa), some (.ref ps), some (.str x), some (.ref lt), some kk, some (.int (j : Nat)), some (.ref q.A.p), u11] ∧
          RoomAt K H0 H1 g names ps lt (fun _ => True) qs G ∧ qs[j]? = some q ∧ names[j]? = some x ∧ StmAt H1 s ∧ Aside H0 ps lt s qs ∧ H0 pp = some (.lst (names.map V.str)) ∧ names.Nodup ∧ (∀ x ∈ names, NameOk x) ∧ names.length < 1000 ∧ g.mems.length ≤ 500 ∧ G.length < 60 ∧ G ≠ [] ∧
          ∀ (H' : Hp) (q' : Pr) (G' : List Ltr) (u11' : Option V), RoomAt K H0 H' g names ps lt (fun _ => True) (qs.set j q') G' → q'.pa = q.pa → G'.length ≤ G.length + 1 → G' ≠ [] → D.nx [some (.ref sa), cell, some (.ref s), some (.ref pp), some (.ref fa), some (.ref ps), some (.str x), some (.ref lt), some kk, some (.int (j : Nat)), some (.ref q.A.p), u11'] H') (ps_if (pt_not (pt_val (pe_c mta hr (by decide) (by rfl) (pa_cons (pe_ix ix_list (pv 5) (pv 9) (fun _ _ => rfl)) (pa_cons (pe_c mpi hr (by decide) (by rfl) (pa_cons (pv 7) (pa_cons (pv 2) pa_nil))) pa_nil))))) (pss_one (ps_ret pe_bl)) pss_nil) ?w3))) ?w2) (pss_one (ps_if (pt_not (pt_val (pe_c msa hr (by decide) (by rfl) (pa_cons (pe_ix ix_list (pe_ix ix_list (pv 5) (pv 9) (fun _ _ => rfl)) pe_int (fun _ _ => rfl)) (pa_cons (pe_ix ix_list (pe_ix ix_list (pv 5) (pv 9) (fun _ _ => rfl)) pe_int (fun _ _ => rfl)) pa_nil))))) (pss_one (ps_ret pe_bl)) pss_nil)))))))) (pss_one (ps_ret (pe_c mfi hr (by decide) (by rfl) (pa_cons (pv 5) (pa_cons (pv 7) pa_nil))))))))))))), ?_⟩
    case w1 =>
      rintro D σ H1 ⟨rfl, rfl, q⟩
      refine ⟨_, rfl, sa, _, rfl, .inl hsc, _, _, rfl, rfl, _, rfl, ?_⟩
      refine ite2 (fun h0 => ?_) (fun _ => ?_)
      · have h0' : 0 < ns.length := by
          have := of_decide_eq_true h0
          rw [List.length_map] at this
          omega
        exact ⟨_, rfl, sa, _, _, _, rfl, rfl, hsc, atI_nat (j := 0) (by rw [List.getElem?_map, List.getElem?_eq_getElem h0']; rfl), q _⟩
      · exact q 0
    case w2 =>
      rintro D σ H1 ⟨cell, u11, s, pp, fa, ps, lt, kk, j, q, x, g, names, qs, G, H0, rfl, R, hq, hx, hs, a, hpp, hnd, hno, hnl, hms, hGl, hGne, kk2⟩
      have es0 := hs
      obtain ⟨sx, sy, es0⟩ := es0
      have hqm := List.mem_of_getElem? hq
      have hxm := List.mem_of_getElem? hx
      refine ⟨_, rfl, s, 2, rfl, hs, by decide, by decide, fun r x1 y1 hr2 => ⟨rfl, _, rfl, ?_⟩⟩
      have R1 : RoomAt K H0 (upd H1 s (.lst [.int x1, .int y1])) g names ps lt (fun _ => True) qs G := R.stm hs a kpu
      have es1 : upd H1 s (.lst [.int x1, .int y1]) s = some (.lst [.int x1, .int y1]) := upd_same
      generalize upd H1 s (.lst [.int x1, .int y1]) = H2 at R1 es1
      have P1 := (R1.pr q hqm).1
      have L1 := P1.led
      obtain ⟨dx, h1⟩ := L1.ob
      obtain ⟨dr, r1⟩ := L1.rl.ob
      refine ite2 (fun _ => ?_) (fun _ => ?_)
      · refine ⟨_, rfl, q.A.p, dx, _, rfl, h1, q.A, g, q.o, q.w, rfl, L1, ?_⟩
        refine ⟨q.A.r, dr, _, rfl, r1, rfl, _, rfl, q.A.r, q.A.dc, q.A.dl, _, x, rollS g q.o, rfl, L1.rl, _, rfl, ?_⟩
        refine ite2 (fun hmem => ?_) (fun _ => ?_)
        · have gd := (R1.pr q hqm).2
          have O := R1.ow j q x trivial hq hx
          have ol := gd.olen
          have nsp : pp ≠ s := fun e => by
            have := a.n0
            rw [← e, hpp] at this
            cases this
          refine ⟨_, rfl, q.A.p, dx, _, rfl, h1, rfl, _, rfl, _, rfl, _, rfl, _, rfl, _, rfl, q.A, g, q.o, q.w, x, pp, s, names, rfl, L1, R1.s0 _ _ hpp, List.ne_nil_of_mem hxm, hnl, hno, ⟨_, _, es1⟩, fun z => a.n3 q hqm (.inl (.inl z)), nsp, fun t b H3 hb hgb hact st3 kp3 => ?_⟩
          have R3 := R1.stm ⟨_, _, es1⟩ a kp3
          refine ⟨q.A, g, q.o, q.w, x, t, b, rfl, (R3.pr q hqm).1.led, hb, hgb, hmem, hact, by omega, fun la H4 l zs s4 hla hl hau hnum hbd hzs hseen hst => ?_⟩
          have R4 := R3.same s4
          have N : New g q.o x l := new_of hau hnum hbd hgb hzs hseen hmem (hact l hbd)
          have SS := N.stp gd O
          obtain ⟨hG5, hO5, hnw⟩ := N.own gd O
          obtain ⟨dx4, h4⟩ := (R4.pr q hqm).1.led.ob
          obtain ⟨dy, ts, tb, la1, _⟩ := id hl
          refine ⟨_, rfl, la, dy, _, rfl, la1, la, l, rfl, hl, fun rp hrp => ?_⟩
          have s5' := same_new (o := .tup [.str l.au, .int l.num]) hrp
          have e5 : upd H4 rp (.tup [.str l.au, .int l.num]) rp = some (.tup [.str l.au, .int l.num]) := upd_same
          generalize upd H4 rp (.tup [.str l.au, .int l.num]) = H5 at s5' e5
          have R5 := R4.same s5'
          refine ⟨_, rfl, q.A.p, dx4, _, rfl, s5' _ _ h4, rfl, q.A, g, q.o, q.w, rfl, (R5.pr q hqm).1.led, fun wp H6 hwp s6 rf6 => ?_⟩
          have R6 := R5.same s6
          have ra : RefAt H6 (rp, (l.au, l.num)) := s6 _ _ e5
          have okn : ∀ y ∈ names, PyData.strOk y = true := fun y hy => name_ok (hno y hy)
          refine ⟨refD (l.au, l.num), _, ra.dp, dp_refs rf6, shape_ref (okn _ (by rw [hau]; exact hxm)), shape_refs fun y hy => ?_, _, rfl, ?_⟩
          · have hy2 : y ∈ q.w.map fun l => (l.au, l.num) := (List.mergeSort_perm _ _).mem_iff.mp hy
            obtain ⟨z, hz, rfl⟩ := List.mem_map.mp hy2
            exact okn _ (R6.aus z (gd.wG z hz))
          rw [not_waiting gd O N]
          refine iteT ?_
          obtain ⟨as, hl6, hls6⟩ := id R6.hlt
          have hl6' : LetterAt (cL K) H6 la l := hl.im (.same (s5'.trans s6))
          refine ⟨_, rfl, .inl ⟨rfl, _, SqL.of hl6⟩, _, rfl, lt, _, _, rfl, rfl, hl6, ?_, ?_⟩
          · rw [List.length_map, pair_len hls6, sizeLine_eq]
            omega
          have R7 := R6.grow T hl6 hls6 hl6' SS (by rw [hau]; exact hxm) (j := j) (fun i y hi hne e => by
            rw [hau] at e
            have h3 : i = j := List.getElem?_inj (List.getElem?_eq_some_iff.mp hi).1 hnd |>.mp (by rw [hi, hx, e])
            exact hne h3)
          have im7 : Im K H6 (upd H6 lt (.lst (as.map V.ref ++ [.ref la]))) := .set hl6 rfl
          have hl7 := hl6'.im im7
          generalize upd H6 lt (.lst (as.map V.ref ++ [.ref la])) = H7 at R7 hl7
          refine ⟨_, rfl, _, rfl, ps, _, _, V.ref q.pa, rfl, rfl, SqL.of R7.hps, atI_nat (by rw [List.getElem?_map, hq]; rfl), _, rfl, (by show 1 ≤ sizeLine; decide), fun l2 hl2 => ?_⟩
          have a8 := R7.new T hl2
          have s8 := same_new (o := .lst [.ref la]) hl2
          have e8 : upd H7 l2 (.lst [.ref la]) l2 = some (.lst [.ref la]) := upd_same
          generalize upd H7 l2 (.lst [.ref la]) = H8 at s8 e8
          have R8 := R7.same s8
          refine ⟨q, l2, g, G ++ [l], [l], rfl, (R8.pr q hqm).1, ⟨[la], e8, .cons (hl7.im (.same s8)) .nil⟩, fun z => a8.n3 q hqm (.inl z), (R8.pr q hqm).2, fun y hy => List.mem_append_right _ hy, hms, by rw [List.length_append, List.length_singleton]; omega, fun q' H9 P9 st9 ep9 eq9 gd9 => ⟨_, rfl, ?_⟩⟩
          refine iteF ?_
          have eo : q'.o = (takeS g q.o q.w l).2.1 := congrArg Prod.fst eq9
          exact kk2 H9 q' (G ++ [l]) _ (R8.take (ok := fun _ => True) T hq hx P9 st9 ep9 gd9 (by rw [eo]; exact hO5)) ep9 (by rw [List.length_append, List.length_singleton]; omega) (fun e => by simp at e)
        · exact ⟨_, _, s, pp, fa, ps, lt, _, j, q, x, g, names, qs, G, H0, rfl, R1, hq, hx, ⟨_, _, es1⟩, a, hpp, hnd, hno, hnl, hms, hGl, hGne, kk2⟩
      · refine iteF ?_
        exact ⟨_, _, s, pp, fa, ps, lt, _, j, q, x, g, names, qs, G, H0, rfl, R1, hq, hx, ⟨_, _, es1⟩, a, hpp, hnd, hno, hnl, hms, hGl, hGne, kk2⟩
    case w3 =>
      rintro D σ H1 ⟨cell, u11, s, pp, fa, ps, lt, kk, j, q, x, g, names, qs, G, H0, rfl, R, hq, hx, hs, a, hpp, hnd, hno, hnl, hms, hGl, hGne, kk2⟩
      have hqm := List.mem_of_getElem? hq
      have P1 := (R.pr q hqm).1
      refine ⟨_, rfl, _, rfl, ps, _, _, V.ref q.pa, rfl, rfl, SqL.of R.hps, atI_nat (by rw [List.getElem?_map, hq]; rfl), _, rfl, _, rfl, lt, s, G, rfl, R.hlt, hGne, by omega, hs, a.n2, fun p ls H2 hp hls hsub st2 kp2 => ?_⟩
      have R2 := R.stm hs a kp2
      have np : ¬ q.own p := fun z => by
        obtain ⟨u, e⟩ := P1.exA T (.inl z)
        rw [e] at hp
        cases hp
      have gd := (R2.pr q hqm).2
      have O := R2.ow j q x trivial hq hx
      refine ⟨q, p, g, G, ls, rfl, (R2.pr q hqm).1, hls, np, gd, hsub, hms, by omega, fun q' H9 P9 st9 ep9 eq9 gd9 => ⟨_, rfl, ?_⟩⟩
      refine iteF ?_
      have eo : q'.o = (takeAll g ls (q.o, q.w)).1 := congrArg Prod.fst eq9
      exact kk2 H9 q' G _ ((R2.weak (fun _ _ => trivial)).take (ok := fun _ => True) T hq hx P9 st9 ep9 gd9 (by rw [eo]; exact takeAll_own ls gd O hsub)) ep9 (by omega) hGne
    refine ⟨rfl, rfl, fun c => ?_⟩
    refine ⟨_, rfl, c, 0, rfl, fun s x0 y0 hs => ?_⟩
    have sm1 := same_new (o := .lst [.int x0, .int y0]) hs
    have es1 : upd H s (.lst [.int x0, .int y0]) s = some (.lst [.int x0, .int y0]) := upd_same
    generalize upd H s (.lst [.int x0, .int y0]) = H1 at sm1 es1
    refine ⟨_, rfl, s, rfl, ⟨_, _, es1⟩, fun p8 names8 H2 hp8 e8 st2 kp2 nd8 ok8 len8 => ?_⟩
    refine ⟨_, rfl, s, 7, rfl, st2, by decide, by decide, fun r x1 y1 hr7 => ?_⟩
    have n8s : p8 ≠ s := fun e => by rw [e, es1] at hp8; cases hp8
    have e8' : upd H2 s (.lst [.int x1, .int y1]) p8 = some (.lst (names8.map V.str)) := by rw [upd_ne n8s]; exact e8
    have k3 : ∀ b u, H b = some u → upd H2 s (.lst [.int x1, .int y1]) b = some u := fun b u e => by
      have n : b ≠ s := ne_of_none e hs
      rw [upd_ne n]
      exact kp2 _ _ (sm1 _ _ e) n
    have es3 : upd H2 s (.lst [.int x1, .int y1]) s = some (.lst [.int x1, .int y1]) := upd_same
    generalize upd H2 s (.lst [.int x1, .int y1]) = H3 at e8' k3 es3
    refine ⟨_, _, rfl, rfl, _, rfl, p8, _, rfl, SqL.of e8', fun pp hpp => ?_⟩
    obtain ⟨names, hnames, hnd, hno, hnl2, hnl8⟩ : ∃ names : List Str, cutV (names8.map V.str) none (some (2 + ((r : Nat) : Int))) = names.map V.str ∧ names.Nodup ∧ (∀ x ∈ names, NameOk x) ∧ 2 ≤ names.length ∧ names.length ≤ 8 := by
      refine ⟨names8.take (2 + r), ?_, nd8.sublist (List.take_sublist _ _), fun x hx => ok8 x (List.mem_of_mem_take hx), by rw [List.length_take, len8]; omega, by rw [List.length_take, len8]; omega⟩
      unfold cutV
      have e1 : (2 + ((r : Nat) : Int)) = ((2 + r : Nat) : Int) := by omega
      rw [HT.sIx_none, e1, HT.sIx_nat, List.length_map, len8, List.drop_zero, Nat.sub_zero, ← List.map_take]
      congr 1
      rw [Nat.min_eq_left (by omega)]
    rw [hnames]
    have sm4' := same_new (o := .lst (names.map V.str)) hpp
    have epp : upd H3 pp (.lst (names.map V.str)) pp = some (.lst (names.map V.str)) := upd_same
    have nps : pp ≠ s := fun e => by rw [e, es3] at hpp; cases hpp
    have es4 := sm4' _ _ es3
    have k4 : Same H (upd H3 pp (.lst (names.map V.str))) := fun b u e => sm4' _ _ (k3 b u e)
    generalize upd H3 pp (.lst (names.map V.str)) = H4 at epp es4 k4
    obtain ⟨x00, hx00⟩ : ∃ x, names[0]? = some x := ⟨_, List.getElem?_eq_getElem (by omega)⟩
    -- the founding letter
    refine ⟨_, rfl, pp, _, _, V.str x00, rfl, rfl, SqL.of epp, atI_nat (j := 0) (by rw [List.getElem?_map, hx00]; rfl), ?_⟩
    refine ⟨_, rfl, _, rfl, _, rfl, _, rfl, pp, _, rfl, .inl (SqL.of epp), s, names.length, by rw [List.length_map]; rfl, ⟨_, _, es4⟩, by omega, by omega, fun r2 x2 y2 hr2 => ?_⟩
    have epp5 : upd H4 s (.lst [.int x2, .int y2]) pp = some (.lst (names.map V.str)) := by rw [upd_ne nps]; exact epp
    have k5 : Same H (upd H4 s (.lst [.int x2, .int y2])) := fun b u e => by
      have n : b ≠ s := ne_of_none e hs
      rw [upd_ne n]
      exact k4 _ _ e
    generalize upd H4 s (.lst [.int x2, .int y2]) = H5 at epp5 k5
    refine ⟨_, _, rfl, rfl, _, rfl, pp, _, rfl, SqL.of epp5, fun lm hlm => ?_⟩
    obtain ⟨ms, hms, hmsl, hmsub⟩ : ∃ ms : List Str, cutV (names.map V.str) (some 1) (some (1 + ((r2 : Nat) : Int))) = ms.map V.str ∧ ms.length ≤ 8 ∧ True := by
      unfold cutV
      refine ⟨(names.drop _).take _, by rw [← List.map_drop, ← List.map_take], ?_, trivial⟩
      rw [List.length_take, List.length_drop]
      omega
    rw [hms]
    have sm6' := same_new (o := .lst (ms.map V.str)) hlm
    have elm : upd H5 lm (.lst (ms.map V.str)) lm = some (.lst (ms.map V.str)) := upd_same
    generalize upd H5 lm (.lst (ms.map V.str)) = H6 at sm6' elm
    refine ⟨x00, lm, ms, rfl, elm, by omega, fun fa H7 ys s7' hfa hperm hfl => ?_⟩
    have k7 : Same H H7 := k5.trans (sm6'.trans s7')
    have epp7 := s7' _ _ (sm6' _ _ epp5)
    generalize hg : (⟨x00, 1, 1, [(x00, 1)], .found ys⟩ : Ltr) = g at hfl
    have hgb : ∃ ms, g.body = .found ms := by rw [← hg]; exact ⟨_, rfl⟩
    have hgm : g.mems.length ≤ 500 := by
      have e : g.mems = ys := by rw [← hg]; rfl
      rw [e, hperm.length_eq]
      omega
    have hgau : g.au = x00 := by rw [← hg]
    have hF : FoundOk g := by
      rw [← hg]
      refine ⟨⟨ys, rfl⟩, rfl, ?_, fun x hx => ?_⟩
      · show (lk [(x00, 1)] x00).getD 0 = 1
        rw [lk_cons, if_pos rfl]
        rfl
      · show (lk [(x00, 1)] x).getD 0 = 0
        rw [lk_cons, if_neg (fun e => hx e.symm)]
        rfl
    have hlook : ∀ p ∈ g.seen, g.count p.1 = p.2 := by
      rw [← hg]
      intro p hp
      obtain rfl := List.mem_singleton.mp hp
      show (lk [(x00, 1)] x00).getD 0 = 1
      rw [lk_cons, if_pos rfl]
      rfl
    have hgn : g.au ∈ names := by rw [hgau]; exact List.mem_of_getElem? hx00
    have G0 : Good g [g] [g] [] := good0 hF hlook
    -- the pairs
    refine ⟨_, rfl, pp, rfl, ⟨_, SqL.of epp7⟩, fun ps hps => ?_⟩
    have npps : pp ≠ ps := ne_of_none epp7 hps
    refine lc_list (K := K) (a := pp) (xs := names.map V.str) (fun i H8 => ∃ qs : List Pr, qs.length = i ∧ Same H7 H8 ∧ H8 ps = some (.lst (qs.map fun q => V.ref q.pa)) ∧ (∀ q ∈ qs, PrAt K H8 g q ∧ q.o = [g] ∧ q.w = [] ∧ (∀ b, q.own b → H7 b = none ∧ b ≠ ps) ∧ q.pa ≠ ps) ∧ qs.Pairwise Dj)
      ⟨[], rfl, same_new hps, upd_same, fun q h => (by cases h), .nil⟩ ?_ ?_ ?_
    · rintro i H8 _ ⟨qs, _, s8, _⟩
      exact SqL.of (s8 _ _ epp7)
    · rintro i y H8 hi ⟨qs, hql, s8, eps, hqs, hdj⟩
      obtain ⟨x, hx, rfl⟩ := map_get hi
      refine ⟨rfl, ?_⟩
      refine yes_i ?_
      have im8 : Im K H7 H8 := .same s8
      refine ⟨_, rfl, fun p dx hp hdx hne => ?_⟩
      have sa1 := same_new (o := .own p) hdx
      have hp' : upd H8 dx (.own p) p = none := by rw [upd_ne (fun e => hne e.symm)]; exact hp
      have sa2 := sa1.trans (same_new (o := .ins (cG K) dx []) hp')
      have ea2 : upd (upd H8 dx (.own p)) p (.ins (cG K) dx []) p = some (.ins (cG K) dx []) := upd_same
      generalize upd (upd H8 dx (.own p)) p (.ins (cG K) dx []) = Ha at sa2 ea2
      refine ⟨p, dx, fa, g, rfl, ea2, hfl.im (im8.trans (.same sa2)), hgb, hgm, fun A H9 hA L9 kp9 fr9 => ⟨rfl, ?_⟩⟩
      have s89 : Same H8 H9 := fun b u e => kp9 b u (sa2 b u e) (ne_of_none e hp)
      have own9 : ∀ b, A.own [g] b → H8 b = none := fun b z => by
        rcases fr9 b z with z | z
        · rw [z]; exact hp
        · cases e : H8 b with
          | none => rfl
          | some u => rw [sa2 _ _ e] at z; cases z
      refine ⟨_, rfl, fa, g, rfl, hfl.im (im8.trans (.same s89)), fun d S H10 M10 s10 fr10 => ?_⟩
      refine ⟨(by show 2 ≤ sizeLine; decide), fun pa hpa => ?_⟩
      have s11 := same_new (o := .lst [.ref p, .ref d]) hpa
      have e11 : upd H10 pa (.lst [.ref p, .ref d]) pa = some (.lst [.ref p, .ref d]) := upd_same
      have hpa8 : H8 pa = none := by
        cases e : H8 pa with
        | none => rfl
        | some u => rw [s10 _ _ (s89 _ _ e)] at hpa; cases hpa
      have s811 := s89.trans (s10.trans s11)
      have L11 := L9.same (s10.trans s11)
      have M11 := M10.same s11
      have hnew : ∀ b, (Pr.mk pa A d S [g] []).own b → H8 b = none := fun b z => by
        rcases z with z | z
        · exact own9 b z
        · have z2 := fr10 b z
          cases e : H8 b with
          | none => rfl
          | some u => rw [s89 _ _ e] at z2; cases z2
      have hnpa : ¬ (Pr.mk pa A d S [g] []).own pa := fun z => by
        rcases z with z | z
        · obtain ⟨u, e, _⟩ := L9.ex T.neG T.neR z
          rw [s10 _ _ e] at hpa
          cases hpa
        · obtain ⟨u, e, _⟩ := M10.ex z
          rw [e] at hpa
          cases hpa
      have hPA : PrAt K (upd H10 pa (.lst [.ref p, .ref d])) g (Pr.mk pa A d S [g] []) := by
        refine ⟨?_, L11, M11, fun b z y => ?_, hnpa⟩
        · show upd H10 pa (.lst [.ref p, .ref d]) pa = some (.lst [.ref A.p, .ref d])
          rw [hA]
          exact e11
        · obtain ⟨u, e, _⟩ := L9.ex T.neG T.neR z
          rw [fr10 b y] at e
          cases e
      generalize upd H10 pa (.lst [.ref p, .ref d]) = H11 at s811 hPA
      have kpp : ∀ b u, H11 b = some u → b ≠ ps → upd H11 ps (.lst (qs.map (fun q => V.ref q.pa) ++ [.ref pa])) b = some u := kpu
      have eps11 := s811 _ _ eps
      have imp : Im K H11 (upd H11 ps (.lst (qs.map (fun q => V.ref q.pa) ++ [.ref pa]))) := .set eps11 rfl
      have h7n : ∀ b, H8 b = none → H7 b = none := fun b z => by
        cases e : H7 b with
        | none => rfl
        | some u => rw [s8 _ _ e] at z; cases z
      have hps8 : ∀ b, H8 b = none → b ≠ ps := fun b e z => by rw [z, eps] at e; cases e
      refine ⟨_, eps11, ?_, qs ++ [Pr.mk pa A d S [g] []], by rw [List.length_append, hql]; rfl, fun b u e => kpp b u (s811 b u (s8 b u e)) fun z => ?_, by rw [upd_same, List.map_append]; rfl, fun q hq => ?_, ?_⟩
      · have h1 := (List.getElem?_eq_some_iff.mp hi).1
        rw [List.length_map] at h1
        rw [List.length_map, sizeLine_eq]
        omega
      · rw [z, hps] at e
        cases e
      · rcases List.mem_append.mp hq with hq | hq
        · obtain ⟨q1, q2, q3, q4, q5⟩ := hqs q hq
          exact ⟨(q1.same s811).kp imp fun b u z e => kpp b u e (by
            rcases z with z | z
            · exact (q4 b z).2
            · rw [z]; exact q5), q2, q3, q4, q5⟩
        · obtain rfl := List.mem_singleton.mp hq
          exact ⟨hPA.kp imp fun b u z e => kpp b u e (by
            rcases z with z | z
            · exact hps8 b (hnew b z)
            · rw [z]; exact hps8 _ hpa8), rfl, rfl, fun b z => ⟨h7n b (hnew b z), hps8 b (hnew b z)⟩, hps8 _ hpa8⟩
      · refine List.pairwise_append.mpr ⟨hdj, .cons (fun _ h => by cases h) .nil, fun q hq r hr b z y => ?_⟩
        obtain rfl := List.mem_singleton.mp hr
        obtain ⟨u, e⟩ := (hqs q hq).1.exA T z
        rcases y with y | y
        · rw [hnew b y] at e
          cases e
        · rw [y] at e
          rw [show (Pr.mk pa A d S [g] []).pa = pa from rfl, hpa8] at e
          cases e
    · rintro H8 ⟨qs, hql, s8, eps, hqs, hdj⟩
      rw [List.length_map] at hql
      have hfl8 : LetterAt (cL K) H8 fa g := hfl.im (.same s8)
      refine ⟨_, rfl, (by show 1 ≤ sizeLine; decide), fun lt hlt => ?_⟩
      have s9 := same_new (o := .lst [.ref fa]) hlt
      have e9 : upd H8 lt (.lst [.ref fa]) lt = some (.lst [.ref fa]) := upd_same
      have hlt7 : H7 lt = none := by
        cases e : H7 lt with
        | none => rfl
        | some u => rw [s8 _ _ e] at hlt; cases hlt
      have hl8 : ∀ b, (∃ u, H8 b = some u) → b ≠ lt := fun b ⟨u, e⟩ z => by rw [z, hlt] at e; cases e
      have R0 : RoomAt K H7 (upd H8 lt (.lst [.ref fa])) g names ps lt (fun _ => True) qs [g] := by
        refine ⟨s8.trans s9, s9 _ _ eps, ⟨[fa], e9, .cons (hfl8.im (.same s9)) .nil⟩, hlt7, fun z => hl8 ps ⟨_, eps⟩ z.symm, hql, fun q hq => ?_, fun q hq b z => ?_, fun q hq => ?_, fun j q x _ hq hx => ?_, hdj, fun l hl => ?_⟩
        · obtain ⟨q1, q2, q3, _⟩ := hqs q hq
          rw [q2, q3]
          exact ⟨q1.same s9, G0⟩
        · obtain ⟨q1, q2, q3, q4, q5⟩ := hqs q hq
          exact ⟨(q4 b z).1, (q4 b z).2, hl8 b (q1.exA T (.inl z))⟩
        · exact hl8 _ ((hqs q hq).1.exA T (.inr rfl))
        · obtain ⟨q1, q2, q3, _⟩ := hqs q (List.mem_of_getElem? hq)
          rw [q2]
          exact own0 hF x
        · rw [List.mem_singleton.mp hl]
          exact hgn
      generalize upd H8 lt (.lst [.ref fa]) = H9 at R0
      -- the loop
      have hsc7 : SqL K H7 sa (ns.map V.int) := hsc.ext fun b u e => k7 b u e
      refine ⟨_, rfl, sa, _, rfl, .inl (hsc7.ext fun b u e => R0.s0 b u e), _, _, rfl, _, _, rfl, ⟨by decide, by decide, ?_, ?_⟩, ?_⟩
      · rw [List.length_map]
        split <;> omega
      · rw [List.length_map]
        split <;> omega
      refine for_range (lo := 1) (fun i σ H2 => ∃ (u2 u6 u8 u9 u10 u11 : Option V) (qs : List Pr) (G : List Ltr), σ = [some (.ref sa), some (.int c), u2, some (.ref pp), some (.ref fa), some (.ref ps), u6, some (.ref lt), u8, u9, u10, u11] ∧ RoomAt K H7 H2 g names ps lt (fun _ => True) qs G ∧ G.length ≤ i + 1 ∧ G ≠ [])
        ⟨_, _, _, _, _, _, qs, [g], rfl, R0, Nat.le_refl _, List.cons_ne_nil _ _⟩ ?_ ?_
      · rintro i σ H2 hi ⟨u2, u6, u8, u9, u10, u11, qs, G, rfl, R, hGl, hGne⟩
        rw [List.length_map] at hi
        have hi2 : i < 39 ∧ 1 + i < ns.length := by
          split at hi <;> omega
        obtain ⟨hi3, hi4⟩ := hi2
        have ei : (1 : Int) + (i : Int) = ((1 + i : Nat) : Int) := by omega
        rw [ei]
        refine ⟨_, rfl, _, rfl, sa, _, _, V.int (ns[1 + i]), rfl, rfl, hsc7.ext fun b u e => R.s0 b u e, atI_nat (by rw [List.getElem?_map, List.getElem?_eq_getElem hi4]; rfl), _, rfl, _, _, rfl, fun s x y hs => ?_⟩
        have a := R.new T hs
        have sm := same_new (o := .lst [.int x, .int y]) hs
        have es : upd H2 s (.lst [.int x, .int y]) s = some (.lst [.int x, .int y]) := upd_same
        have R3 := R.same sm
        generalize upd H2 s (.lst [.int x, .int y]) = H3 at sm es R3
        have npps : pp ≠ s := fun e => by
          have := a.n0
          rw [← e, epp7] at this
          cases this
        refine ⟨_, rfl, _, rfl, pp, _, rfl, .inl (SqL.of (R3.s0 _ _ epp7)), s, names.length, by rw [List.length_map]; rfl, ⟨_, _, es⟩, by omega, by omega, fun j x1 y1 hj => ?_⟩
        have R4 : RoomAt K H7 (upd H3 s (.lst [.int x1, .int y1])) g names ps lt (fun _ => True) qs G := R3.stm ⟨_, _, es⟩ a kpu
        have es4 : upd H3 s (.lst [.int x1, .int y1]) s = some (.lst [.int x1, .int y1]) := upd_same
        generalize upd H3 s (.lst [.int x1, .int y1]) = H4 at R4 es4
        obtain ⟨x, hx⟩ : ∃ x, names[j]? = some x := ⟨_, List.getElem?_eq_getElem hj⟩
        obtain ⟨q, hq⟩ : ∃ q, qs[j]? = some q := ⟨_, List.getElem?_eq_getElem (by rw [R4.len]; exact hj)⟩
        have hqm := List.mem_of_getElem? hq
        refine ⟨_, rfl, _, rfl, pp, _, _, V.str x, rfl, rfl, SqL.of (R4.s0 _ _ epp7), atI_nat (by rw [List.getElem?_map, hx]; rfl), ?_⟩
        have P4 := (R4.pr q hqm).1
        refine ⟨_, rfl, _, rfl, ps, _, _, V.ref q.pa, rfl, rfl, SqL.of R4.hps, atI_nat (by rw [List.getElem?_map, hq]; rfl), q.pa, _, _, _, rfl, rfl, SqL.of P4.tab, atI0, ?_⟩
        refine ⟨_, _, s, pp, fa, ps, lt, _, j, q, x, g, names, qs, G, H7, rfl, R4, hq, hx, ⟨_, _, es4⟩, a, epp7, hnd, hno, by omega, hgm, by omega, hGne, fun H5 q' G' u11' R5 ep hGl' hGne' => ?_⟩
        have hjq : j < qs.length := (List.getElem?_eq_some_iff.mp hq).1
        have hq' : (qs.set j q')[j]? = some q' := List.getElem?_set_self hjq
        obtain ⟨P5, gd5⟩ := R5.pr q' (List.mem_of_getElem? hq')
        have hne5 : q'.o ≠ [] := by
          obtain ⟨r, e⟩ := gd5.ord.head
          rw [e]
          exact List.cons_ne_nil _ _
        have ol := gd5.olen
        have wl := gd5.wlen
        refine ⟨_, rfl, _, rfl, ps, _, _, V.ref q'.pa, rfl, rfl, SqL.of R5.hps, atI_nat (by rw [List.getElem?_map, hq']; rfl), q'.pa, _, _, _, rfl, rfl, SqL.of P5.tab, atI0, _, rfl, _, rfl, ps, _, _, V.ref q'.pa, rfl, rfl, SqL.of R5.hps, atI_nat (by rw [List.getElem?_map, hq']; rfl), q'.pa, _, _, _, rfl, rfl, SqL.of P5.tab, atI1,
          q'.A, q'.d, q'.S, g, q'.o, q'.w, rfl, P5.led, P5.mod, by omega, by omega, hne5, fun H6 s6 => ⟨_, rfl, ?_⟩⟩
        refine iteF ?_
        exact ⟨_, _, _, _, _, _, qs.set j q', G', rfl, R5.same s6, by omega, hGne'⟩
      · rintro σ H2 ⟨u2, u6, u8, u9, u10, u11, qs, G, rfl, R, hGl, hGne⟩
        have hGl2 : G.length < 63 := by
          rw [List.length_map] at hGl
          split at hGl <;> omega
        exact ⟨_, rfl, _, rfl, ps, lt, qs, g, G, rfl, R.hps, R.hlt, fun q hq => ⟨(R.pr q hq).1, (R.pr q hq).2, fun z => (R.own q hq _ z).2.1 rfl, fun z => (R.own q hq _ z).2.2 rfl⟩, R.dis, hgm, hGl2, by rw [R.len]; omega, fun H' => k H'⟩
end
end Lo
set_option Elab.async false
set_option maxRecDepth 100000
set_option maxHeartbeats 4000000
namespace Lo
open PySem PySem.Spec PyProof.Rows L2
open C8 (Cal Met Mak scC fnScope_by)
/-- the getter behind a class's property -/
def pg (K : PySem.W.Frag) (C m : Str) : Addr := match PySem.W.recIn K (He.ma K (He.ga K C) m) "property" with
  | some (.ref g :: _) => g
  | _ => 0
/-- what is asked of the top -/
structure Fct (K : PySem.W.Frag) (w : World) (mg : Str → Option Value) : Prop where
  T : Txt K mg
  T2 : Tx2 K w mg
  s_s_law_stream : Src K "_law_stream" "_law_stream" s_law_stream (He.ga K "_law_stream")
  h_law_stream : mg "_law_stream" = some (.ref (He.ga K "_law_stream"))
  s_s_law_next : Src K "_law_next" "_law_next" s_law_next (He.ga K "_law_next")
  h_law_next : mg "_law_next" = some (.ref (He.ga K "_law_next"))
  s_s_law_base : Src K "_law_base" "_law_base" s_law_base (He.ga K "_law_base")
  h_law_base : mg "_law_base" = some (.ref (He.ga K "_law_base"))
  s_s_law_founding : Src K "_law_founding" "_law_founding" s_law_founding (He.ga K "_law_founding")
  h_law_founding : mg "_law_founding" = some (.ref (He.ga K "_law_founding"))
  s_s_Letter_init : Src K "__init__" "Letter.__init__" s_Letter_init (He.ma K (He.ga K "Letter") "__init__")
  k_Letter : Mk K (cL K) (He.ma K (He.ga K "Letter") "__init__")
  h_Letter : mg "Letter" = some (.ref (He.ga K "Letter"))
  s_s_Ledger_init : Src K "__init__" "Ledger.__init__" s_Ledger_init (He.ma K (He.ga K "Ledger") "__init__")
  k_Ledger : Mk K (cG K) (He.ma K (He.ga K "Ledger") "__init__")
  h_Ledger : mg "Ledger" = some (.ref (He.ga K "Ledger"))
  s_s_Roll_init : Src K "__init__" "Roll.__init__" s_Roll_init (He.ma K (He.ga K "Roll") "__init__")
  k_Roll : Mk K (cR K) (He.ma K (He.ga K "Roll") "__init__")
  h_Roll : mg "Roll" = some (.ref (He.ga K "Roll"))
  s_s_law_model : Src K "_law_model" "_law_model" s_law_model (He.ga K "_law_model")
  h_law_model : mg "_law_model" = some (.ref (He.ga K "_law_model"))
  s_s_Ledger_roll : Src K "roll" "Ledger.roll" s_Ledger_roll (pg K "Ledger" "roll")
  p_Ledger_roll : PropOf K (cG K) "roll" (He.ma K (He.ga K "Ledger") "roll") (pg K "Ledger" "roll")
  s_s_Roll_is_member : Src K "is_member" "Roll.is_member" s_Roll_is_member (He.ma K (He.ga K "Roll") "is_member")
  m_Roll_is_member : Meth K (cR K) "is_member" (He.ma K (He.ga K "Roll") "is_member")
  s_s_Ledger_next_letter : Src K "next_letter" "Ledger.next_letter" s_Ledger_next_letter (He.ma K (He.ga K "Ledger") "next_letter")
  m_Ledger_next_letter : Meth K (cG K) "next_letter" (He.ma K (He.ga K "Ledger") "next_letter")
  s_s_is_body : Src K "is_body" "is_body" s_is_body (He.ga K "is_body")
  h_is_body : mg "is_body" = some (.ref (He.ga K "is_body"))
  s_s_is_text : Src K "is_text" "is_text" s_is_text (He.ga K "is_text")
  h_is_text : mg "is_text" = some (.ref (He.ga K "is_text"))
  s_s_is_plain : Src K "is_plain" "is_plain" s_is_plain (He.ga K "is_plain")
  h_is_plain : mg "is_plain" = some (.ref (He.ga K "is_plain"))
  s_s_is_name : Src K "is_name" "is_name" s_is_name (He.ga K "is_name")
  h_is_name : mg "is_name" = some (.ref (He.ga K "is_name"))
  s_s_is_act : Src K "is_act" "is_act" s_is_act (He.ga K "is_act")
  h_is_act : mg "is_act" = some (.ref (He.ga K "is_act"))
  s_s_Ledger_check_act : Src K "_check_act" "Ledger._check_act" s_Ledger_check_act (He.ma K (He.ga K "Ledger") "_check_act")
  m_Ledger_check_act : Meth K (cG K) "_check_act" (He.ma K (He.ga K "Ledger") "_check_act")
  s_s_Roll_is_known : Src K "is_known" "Roll.is_known" s_Roll_is_known (He.ma K (He.ga K "Roll") "is_known")
  m_Roll_is_known : Meth K (cR K) "is_known" (He.ma K (He.ga K "Roll") "is_known")
  s_s_target : Src K "target" "target" s_target (He.ga K "target")
  h_target : mg "target" = some (.ref (He.ga K "target"))
  s_s_Ledger_held : Src K "held" "Ledger.held" s_Ledger_held (He.ma K (He.ga K "Ledger") "held")
  m_Ledger_held : Meth K (cG K) "held" (He.ma K (He.ga K "Ledger") "held")
  s_s_Ledger_counts : Src K "counts" "Ledger.counts" s_Ledger_counts (He.ma K (He.ga K "Ledger") "counts")
  m_Ledger_counts : Meth K (cG K) "counts" (He.ma K (He.ga K "Ledger") "counts")
  s_s_law_body : Src K "_law_body" "_law_body" s_law_body (He.ga K "_law_body")
  h_law_body : mg "_law_body" = some (.ref (He.ga K "_law_body"))
  s_s_Letter_ref : Src K "ref" "Letter.ref" s_Letter_ref (pg K "Letter" "ref")
  p_Letter_ref : PropOf K (cL K) "ref" (He.ma K (He.ga K "Letter") "ref") (pg K "Letter" "ref")
  s_s_Ledger_waiting : Src K "waiting" "Ledger.waiting" s_Ledger_waiting (He.ma K (He.ga K "Ledger") "waiting")
  m_Ledger_waiting : Meth K (cG K) "waiting" (He.ma K (He.ga K "Ledger") "waiting")
  s_s_law_takes : Src K "_law_takes" "_law_takes" s_law_takes (He.ga K "_law_takes")
  h_law_takes : mg "_law_takes" = some (.ref (He.ga K "_law_takes"))
  s_s_law_asked : Src K "_law_asked" "_law_asked" s_law_asked (He.ga K "_law_asked")
  h_law_asked : mg "_law_asked" = some (.ref (He.ga K "_law_asked"))
  s_s_Ledger_take : Src K "take" "Ledger.take" s_Ledger_take (He.ma K (He.ga K "Ledger") "take")
  m_Ledger_take : Meth K (cG K) "take" (He.ma K (He.ga K "Ledger") "take")
  s_s_Letter_value : Src K "value" "Letter.value" s_Letter_value (He.ma K (He.ga K "Letter") "value")
  m_Letter_value : Meth K (cL K) "value" (He.ma K (He.ga K "Letter") "value")
  s_s_Ledger_contains : Src K "__contains__" "Ledger.__contains__" s_Ledger_contains (He.ma K (He.ga K "Ledger") "__contains__")
  m_Ledger_contains : Meth K (cG K) "__contains__" (He.ma K (He.ga K "Ledger") "__contains__")
  s_s_Ledger_letter : Src K "letter" "Ledger.letter" s_Ledger_letter (He.ma K (He.ga K "Ledger") "letter")
  m_Ledger_letter : Meth K (cG K) "letter" (He.ma K (He.ga K "Ledger") "letter")
  s_s_Ledger_is_void : Src K "_is_void" "Ledger._is_void" s_Ledger_is_void (He.ma K (He.ga K "Ledger") "_is_void")
  m_Ledger_is_void : Meth K (cG K) "_is_void" (He.ma K (He.ga K "Ledger") "_is_void")
  s_s_Roll_counts : Src K "counts" "Roll.counts" s_Roll_counts (He.ma K (He.ga K "Roll") "counts")
  m_Roll_counts : Meth K (cR K) "counts" (He.ma K (He.ga K "Roll") "counts")
  s_s_Ledger_hold_all : Src K "_hold_all" "Ledger._hold_all" s_Ledger_hold_all (He.ma K (He.ga K "Ledger") "_hold_all")
  m_Ledger_hold_all : Meth K (cG K) "_hold_all" (He.ma K (He.ga K "Ledger") "_hold_all")
  s_s_Roll_cuts : Src K "cuts" "Roll.cuts" s_Roll_cuts (He.ma K (He.ga K "Roll") "cuts")
  m_Roll_cuts : Meth K (cR K) "cuts" (He.ma K (He.ga K "Roll") "cuts")
  s_s_Ledger_ready : Src K "_ready" "Ledger._ready" s_Ledger_ready (He.ma K (He.ga K "Ledger") "_ready")
  m_Ledger_ready : Meth K (cG K) "_ready" (He.ma K (He.ga K "Ledger") "_ready")
  s_s_Roll_names : Src K "names" "Roll.names" s_Roll_names (He.ma K (He.ga K "Roll") "names")
  m_Roll_names : Meth K (cR K) "names" (He.ma K (He.ga K "Roll") "names")
  s_s_Ledger_can_hold : Src K "_can_hold" "Ledger._can_hold" s_Ledger_can_hold (He.ma K (He.ga K "Ledger") "_can_hold")
  m_Ledger_can_hold : Meth K (cG K) "_can_hold" (He.ma K (He.ga K "Ledger") "_can_hold")
  s_s_Ledger_has_count : Src K "_has_count" "Ledger._has_count" s_Ledger_has_count (He.ma K (He.ga K "Ledger") "_has_count")
  m_Ledger_has_count : Meth K (cG K) "_has_count" (He.ma K (He.ga K "Ledger") "_has_count")
  s_s_Roll_limit : Src K "limit" "Roll.limit" s_Roll_limit (He.ma K (He.ga K "Roll") "limit")
  m_Roll_limit : Meth K (cR K) "limit" (He.ma K (He.ga K "Roll") "limit")
  s_s_Letter_key : Src K "key" "Letter.key" s_Letter_key (pg K "Letter" "key")
  p_Letter_key : PropOf K (cL K) "key" (He.ma K (He.ga K "Letter") "key") (pg K "Letter" "key")
  s_s_Ledger_hold : Src K "_hold" "Ledger._hold" s_Ledger_hold (He.ma K (He.ga K "Ledger") "_hold")
  m_Ledger_hold : Meth K (cG K) "_hold" (He.ma K (He.ga K "Ledger") "_hold")
  s_s_roll_of : Src K "roll_of" "roll_of" s_roll_of (He.ga K "roll_of")
  h_roll_of : mg "roll_of" = some (.ref (He.ga K "roll_of"))
  s_s_Roll_act : Src K "_act" "Roll._act" s_Roll_act (He.ma K (He.ga K "Roll") "_act")
  m_Roll_act : Meth K (cR K) "_act" (He.ma K (He.ga K "Roll") "_act")
  s_s_Letter_count : Src K "count" "Letter.count" s_Letter_count (He.ma K (He.ga K "Letter") "count")
  m_Letter_count : Meth K (cL K) "count" (He.ma K (He.ga K "Letter") "count")
  s_s_first_behind : Src K "first_behind" "first_behind" s_first_behind (He.ga K "first_behind")
  h_first_behind : mg "first_behind" = some (.ref (He.ga K "first_behind"))
  s_s_Letter_has_seen : Src K "has_seen" "Letter.has_seen" s_Letter_has_seen (He.ma K (He.ga K "Letter") "has_seen")
  m_Letter_has_seen : Meth K (cL K) "has_seen" (He.ma K (He.ga K "Letter") "has_seen")
  s_s_Ledger_drop_void : Src K "_drop_void" "Ledger._drop_void" s_Ledger_drop_void (He.ma K (He.ga K "Ledger") "_drop_void")
  m_Ledger_drop_void : Meth K (cG K) "_drop_void" (He.ma K (He.ga K "Ledger") "_drop_void")
  s_s_law_take : Src K "_law_take" "_law_take" s_law_take (He.ga K "_law_take")
  h_law_take : mg "_law_take" = some (.ref (He.ga K "_law_take"))
  s_s_law_counts : Src K "_law_counts" "_law_counts" s_law_counts (He.ga K "_law_counts")
  h_law_counts : mg "_law_counts" = some (.ref (He.ga K "_law_counts"))
  s_s_law_roll : Src K "_law_roll" "_law_roll" s_law_roll (He.ga K "_law_roll")
  h_law_roll : mg "_law_roll" = some (.ref (He.ga K "_law_roll"))
  s_s_law_row : Src K "_law_row" "_law_row" s_law_row (He.ga K "_law_row")
  h_law_row : mg "_law_row" = some (.ref (He.ga K "_law_row"))
  s_s_law_after : Src K "_law_after" "_law_after" s_law_after (He.ga K "_law_after")
  h_law_after : mg "_law_after" = some (.ref (He.ga K "_law_after"))
  s_s_law_void : Src K "_law_void" "_law_void" s_law_void (He.ga K "_law_void")
  h_law_void : mg "_law_void" = some (.ref (He.ga K "_law_void"))
  s_s_law_hold_next : Src K "_law_hold_next" "_law_hold_next" s_law_hold_next (He.ga K "_law_hold_next")
  h_law_hold_next : mg "_law_hold_next" = some (.ref (He.ga K "_law_hold_next"))
  s_s_law_can : Src K "_law_can" "_law_can" s_law_can (He.ga K "_law_can")
  h_law_can : mg "_law_can" = some (.ref (He.ga K "_law_can"))
  s_s_law_pick : Src K "_law_pick" "_law_pick" s_law_pick (He.ga K "_law_pick")
  h_law_pick : mg "_law_pick" = some (.ref (He.ga K "_law_pick"))
  s_s_law_same : Src K "_law_same" "_law_same" s_law_same (He.ga K "_law_same")
  h_law_same : mg "_law_same" = some (.ref (He.ga K "_law_same"))
  s_s_Ledger_letters : Src K "letters" "Ledger.letters" s_Ledger_letters (He.ma K (He.ga K "Ledger") "letters")
  m_Ledger_letters : Meth K (cG K) "letters" (He.ma K (He.ga K "Ledger") "letters")
  s_s_law_is : Src K "_law_is" "_law_is" s_law_is (He.ga K "_law_is")
  h_law_is : mg "_law_is" = some (.ref (He.ga K "_law_is"))
  s_s_Ledger_len : Src K "__len__" "Ledger.__len__" s_Ledger_len (He.ma K (He.ga K "Ledger") "__len__")
  m_Ledger_len : Meth K (cG K) "__len__" (He.ma K (He.ga K "Ledger") "__len__")
  s_s_Ledger_iter : Src K "__iter__" "Ledger.__iter__" s_Ledger_iter (He.ma K (He.ga K "Ledger") "__iter__")
  m_Ledger_iter : Meth K (cG K) "__iter__" (He.ma K (He.ga K "Ledger") "__iter__")
  s_s_Ledger_top : Src K "top" "Ledger.top" s_Ledger_top (pg K "Ledger" "top")
  p_Ledger_top : PropOf K (cG K) "top" (He.ma K (He.ga K "Ledger") "top") (pg K "Ledger" "top")
  s_s_law_final : Src K "_law_final" "_law_final" s_law_final (He.ga K "_law_final")
  h_law_final : mg "_law_final" = some (.ref (He.ga K "_law_final"))
  s_s_Roll_members : Src K "members" "Roll.members" s_Roll_members (He.ma K (He.ga K "Roll") "members")
  m_Roll_members : Meth K (cR K) "members" (He.ma K (He.ga K "Roll") "members")
section
variable {P : Program} {w : World} {K : PySem.W.Frag} {mg : Str → Option Value} {base : Heap}
theorem all_law (F : Fct K w mg) : Body P w K mg base N_law "law" s_law (He.ga K "law") 10 (spLaw K) := by
  have x_stream : Cal P w K mg base 1 "_law_stream" spStream [] := ok_stream F.s_s_law_stream F.T F.h_law_stream
  have x_nxt : Cal P w K mg base 1 "_law_next" spNxt [] := ok_nxt F.s_s_law_next F.T F.h_law_next
  have x_base : Cal P w K mg base 2 "_law_base" spBase [] := ok_base F.s_s_law_base F.T F.h_law_base x_nxt
  have x_linit : Mak P w K mg base 1 "Letter" (cL K) (spLInit K) [] := ok_linit F.s_s_Letter_init F.T F.k_Letter F.h_Letter
  have x_founding : Cal P w K mg base 3 "_law_founding" (spFounding K) [] := ok_founding F.s_s_law_founding F.T F.h_law_founding x_linit
  have x_rinit : Mak P w K mg base 1 "Roll" (cR K) (spRInit K) [] := ok_rinit F.s_s_Roll_init F.T F.k_Roll F.h_Roll
  have x_ginit : Mak P w K mg base 3 "Ledger" (cG K) (spGInit K) [] := ok_ginit F.s_s_Ledger_init F.T F.k_Ledger F.h_Ledger x_rinit
  have x_model : Cal P w K mg base 1 "_law_model" (spModel K) [] := ok_model F.s_s_law_model F.T F.h_law_model
  have x_roll : Prp P w K mg base 1 (cG K) "roll" (spRoll K) := ok_roll F.s_s_Ledger_roll F.T F.p_Ledger_roll
  have x_member : Met P w K mg base 1 (cR K) "is_member" (spMember K) [] := ok_member F.s_s_Roll_is_member F.T F.m_Roll_is_member
  have x_isplain : Cal P w K mg base 1 "is_plain" spPlain [] := ok_isplain F.s_s_is_plain F.T2 F.h_is_plain
  have x_istext : Cal P w K mg base 2 "is_text" spPlain [] := ok_istext F.s_s_is_text F.T F.T2 F.h_is_text x_isplain
  have x_isname : Cal P w K mg base 1 "is_name" spIsName [] := ok_isname F.s_s_is_name F.T F.T2 F.h_is_name
  have x_isbody : Cal P w K mg base 3 "is_body" spIsBody [] := ok_isbody F.s_s_is_body F.T F.T2 F.h_is_body x_istext x_isname
  have x_isact : Cal P w K mg base 1 "is_act" (spIsAct K) [] := ok_isact F.s_s_is_act F.h_is_act
  have x_known : Met P w K mg base 1 (cR K) "is_known" (spKnown K) [] := ok_known F.s_s_Roll_is_known F.T F.m_Roll_is_known
  have x_check : Met P w K mg base 2 (cG K) "_check_act" (spCheck K) [] := ok_check F.s_s_Ledger_check_act F.T F.m_Ledger_check_act x_known x_member
  have x_target : Cal P w K mg base 1 "target" spTarget [] := ok_target F.s_s_target F.h_target
  have x_held : Met P w K mg base 1 (cG K) "held" (spHeld K) [] := ok_held F.s_s_Ledger_held F.T F.m_Ledger_held
  have x_gcounts2 : Met P w K mg base 1 (cG K) "counts" (spGCounts2 K) [] := ok_gcounts2 F.s_s_Ledger_counts F.T F.m_Ledger_counts
  have x_next : Met P w K mg base 4 (cG K) "next_letter" (spNext K) [] := ok_next F.s_s_Ledger_next_letter F.T F.m_Ledger_next_letter x_isbody x_member x_isact x_check x_target x_held x_gcounts2 x_linit
  have x_body : Cal P w K mg base 3 "_law_body" (spBody K) [] := ok_body F.s_s_law_body F.T F.h_law_body x_nxt x_roll x_known x_member
  have x_lref : Prp P w K mg base 1 (cL K) "ref" (spRef K) := ok_lref F.s_s_Letter_ref F.T F.p_Letter_ref
  have x_waiting : Met P w K mg base 1 (cG K) "waiting" (spWaits K) [] := ok_waiting F.s_s_Ledger_waiting F.T F.m_Ledger_waiting
  have x_lvalue : Met P w K mg base 1 (cL K) "value" (spValue K) [] := ok_lvalue F.s_s_Letter_value F.T F.m_Letter_value
  have x_contains : Met P w K mg base 1 (cG K) "__contains__" (spHas2 K) [] := ok_contains F.s_s_Ledger_contains F.T F.m_Ledger_contains
  have x_letter : Met P w K mg base 2 (cG K) "letter" (spLetter K) [] := ok_letter F.s_s_Ledger_letter F.T F.m_Ledger_letter x_held
  have x_rcounts : Met P w K mg base 1 (cR K) "counts" (spRCounts K) [] := ok_rcounts F.s_s_Roll_counts F.T F.m_Roll_counts
  have x_void : Met P w K mg base 3 (cG K) "_is_void" (spVoid K) [] := ok_void F.s_s_Ledger_is_void F.T F.m_Ledger_is_void x_known x_rcounts x_lref
  have x_cuts : Met P w K mg base 1 (cR K) "cuts" (spCuts K) [] := ok_cuts F.s_s_Roll_cuts F.T F.m_Roll_cuts
  have x_names : Met P w K mg base 1 (cR K) "names" (spNames K) [] := ok_names F.s_s_Roll_names F.T F.m_Roll_names
  have x_limit : Met P w K mg base 1 (cR K) "limit" (spLimit K) [] := ok_limit F.s_s_Roll_limit F.T F.m_Roll_limit
  have x_has : Met P w K mg base 2 (cG K) "_has_count" (spHas K) [] := ok_has F.s_s_Ledger_has_count F.T F.m_Ledger_has_count x_known x_limit x_held
  have x_can : Met P w K mg base 3 (cG K) "_can_hold" (spCan K) [] := ok_can F.s_s_Ledger_can_hold F.T F.m_Ledger_can_hold x_rcounts x_lref x_held x_has
  have x_lkey : Prp P w K mg base 1 (cL K) "key" (spKey K) := ok_lkey F.s_s_Letter_key F.T F.p_Letter_key
  have x_ready : Met P w K mg base 4 (cG K) "_ready" (spReady K) [] := ok_ready F.s_s_Ledger_ready F.T F.m_Ledger_ready x_names x_held x_can x_lkey
  have x_lcount : Met P w K mg base 1 (cL K) "count" (spCount K) [] := ok_lcount F.s_s_Letter_count F.T F.m_Letter_count
  have x_act : Met P w K mg base 2 (cR K) "_act" (spAct K) [] := ok_act F.s_s_Roll_act F.T F.m_Roll_act x_member x_lcount
  have x_lsees : Met P w K mg base 2 (cL K) "has_seen" (spSees K) [] := ok_lsees F.s_s_Letter_has_seen F.T F.m_Letter_has_seen x_lcount
  have x_fb : Cal P w K mg base 3 "first_behind" (spFb K) [] := ok_fb F.s_s_first_behind F.T F.h_first_behind x_lsees
  have x_rollof : Cal P w K mg base 4 "roll_of" (spRollOf K) [] := ok_rollof F.s_s_roll_of F.T F.h_roll_of x_rinit x_act x_fb x_lref
  have x_hold : Met P w K mg base 5 (cG K) "_hold" (spHold K) [] := ok_hold F.s_s_Ledger_hold F.T F.m_Ledger_hold x_isact x_rollof
  have x_drop : Met P w K mg base 4 (cG K) "_drop_void" (spDrop K) [] := ok_drop F.s_s_Ledger_drop_void F.T F.m_Ledger_drop_void x_void
  have x_holdall : Met P w K mg base 6 (cG K) "_hold_all" (spHoldAll K) [] := ok_holdall F.s_s_Ledger_hold_all F.T F.m_Ledger_hold_all x_cuts x_ready x_hold x_lref x_drop
  have x_take : Met P w K mg base 7 (cG K) "take" (spTake K) [] := ok_take F.s_s_Ledger_take F.T F.m_Ledger_take x_lvalue x_lref x_contains x_letter x_void x_holdall
  have x_asked : Cal P w K mg base 8 "_law_asked" (spAsked K) [] := ok_asked F.s_s_law_asked F.T F.h_law_asked x_take
  have x_mcounts : Cal P w K mg base 1 "_law_counts" (spMCounts K) [] := ok_mcounts F.s_s_law_counts F.T F.h_law_counts
  have x_mrow : Cal P w K mg base 1 "_law_row" (spMRow K) [] := ok_mrow F.s_s_law_row F.h_law_row
  have x_after : Cal P w K mg base 3 "_law_after" (spAfter K) [] := ok_after F.s_s_law_after F.h_law_after x_lsees
  have x_lroll : Cal P w K mg base 4 "_law_roll" (spLRoll K) [] := ok_lroll F.s_s_law_roll F.T F.h_law_roll x_mrow x_after x_lcount x_lref
  have x_mvoid : Cal P w K mg base 1 "_law_void" (spMVoid K) [] := ok_mvoid F.s_s_law_void F.T F.h_law_void
  have x_mcan : Cal P w K mg base 2 "_law_can" (spMCan K) [] := ok_mcan F.s_s_law_can F.T F.h_law_can x_mvoid
  have x_mhold : Cal P w K mg base 5 "_law_hold_next" (spMHold K) [] := ok_mhold F.s_s_law_hold_next F.T F.h_law_hold_next x_mcounts x_lroll x_mcan x_mvoid
  have x_mtake : Cal P w K mg base 6 "_law_take" (spMTake K) [] := ok_mtake F.s_s_law_take F.T F.h_law_take x_lvalue x_lref x_mcounts x_lroll x_mvoid x_mhold
  have x_takes : Cal P w K mg base 9 "_law_takes" (spTakes K) [] := ok_takes F.s_s_law_takes F.T F.h_law_takes x_asked x_mtake
  have x_pick : Cal P w K mg base 2 "_law_pick" (spPick K) [] := ok_pick F.s_s_law_pick F.T F.h_law_pick x_nxt
  have x_letters : Met P w K mg base 1 (cG K) "letters" (spLetters K) [] := ok_letters F.s_s_Ledger_letters F.T F.m_Ledger_letters
  have x_is : Cal P w K mg base 1 "_law_is" spIs [] := ok_is F.s_s_law_is F.T F.h_law_is
  have x_len : Met P w K mg base 1 (cG K) "__len__" (spLen K) [] := ok_len F.s_s_Ledger_len F.T F.m_Ledger_len
  have x_iter : MetS P w K mg base 1 (cG K) "__iter__" (spIterS K) := ok_iter F.s_s_Ledger_iter F.T F.m_Ledger_iter
  have x_gcounts : Met P w K mg base 1 (cG K) "counts" (spGCounts K) [] := ok_gcounts F.s_s_Ledger_counts F.T F.m_Ledger_counts
  have x_top : Prp P w K mg base 1 (cG K) "top" (spTop K) := ok_top F.s_s_Ledger_top F.T F.p_Ledger_top
  have x_same : Cal P w K mg base 3 "_law_same" (spSame K) [] := ok_same F.s_s_law_same F.T F.h_law_same x_letters x_is x_len x_iter x_lvalue x_mcounts x_gcounts x_waiting x_top
  have x_members : Met P w K mg base 1 (cR K) "members" (spMembers K) [] := ok_members F.s_s_Roll_members F.T F.m_Roll_members
  have x_final : Cal P w K mg base 10 "_law_final" (spFinal K) [] := ok_final F.s_s_law_final F.T F.h_law_final x_takes x_same x_waiting x_roll x_iter x_rcounts x_lref x_members x_cuts x_lroll x_mcounts
  exact ok_law F.T x_stream x_nxt x_base x_founding x_ginit x_model x_roll x_member x_next x_body x_lref x_waiting x_takes x_pick x_same x_final
end
end Lo
set_option Elab.async false
set_option linter.all false
set_option maxRecDepth 100000
set_option maxHeartbeats 0
namespace Lo
open PySem PySem.Spec PyProof.Rows L2
/-! ### the head: facts by names, the run -/
def hdFn0 : List He.DefD := [⟨("_law_stream", none), "_law_stream", "_law_stream", L2.defArgs s_law_stream, L2.defBody s_law_stream, L2.defScope s_law_stream, [], []⟩, ⟨("_law_next", none), "_law_next", "_law_next", L2.defArgs s_law_next, L2.defBody s_law_next, L2.defScope s_law_next, [], []⟩, ⟨("_law_base", none), "_law_base", "_law_base", L2.defArgs s_law_base, L2.defBody s_law_base, L2.defScope s_law_base, [], []⟩, ⟨("_law_founding", none), "_law_founding", "_law_founding", L2.defArgs s_law_founding, L2.defBody s_law_founding, L2.defScope s_law_founding, [], []⟩, ⟨("Letter", some "__init__"), "__init__", "Letter.__init__", L2.defArgs s_Letter_init, L2.defBody s_Letter_init, L2.defScope s_Letter_init, [], []⟩, ⟨("Ledger", some "__init__"), "__init__", "Ledger.__init__", L2.defArgs s_Ledger_init, L2.defBody s_Ledger_init, L2.defScope s_Ledger_init, [], []⟩, ⟨("Roll", some "__init__"), "__init__", "Roll.__init__", L2.defArgs s_Roll_init, L2.defBody s_Roll_init, L2.defScope s_Roll_init, [], []⟩, ⟨("_law_model", none), "_law_model", "_law_model", L2.defArgs s_law_model, L2.defBody s_law_model, L2.defScope s_law_model, [], []⟩, ⟨("Roll", some "is_member"), "is_member", "Roll.is_member", L2.defArgs s_Roll_is_member, L2.defBody s_Roll_is_member, L2.defScope s_Roll_is_member, [], []⟩, ⟨("Ledger", some "next_letter"), "next_letter", "Ledger.next_letter", L2.defArgs s_Ledger_next_letter, L2.defBody s_Ledger_next_letter, L2.defScope s_Ledger_next_letter, [], []⟩, ⟨("is_body", none), "is_body", "is_body", L2.defArgs s_is_body, L2.defBody s_is_body, L2.defScope s_is_body, [], []⟩, ⟨("is_text", none), "is_text", "is_text", L2.defArgs s_is_text, L2.defBody s_is_text, L2.defScope s_is_text, [], []⟩, ⟨("is_plain", none), "is_plain", "is_plain", L2.defArgs s_is_plain, L2.defBody s_is_plain, L2.defScope s_is_plain, [], []⟩, ⟨("is_name", none), "is_name", "is_name", L2.defArgs s_is_name, L2.defBody s_is_name, L2.defScope s_is_name, [], []⟩, ⟨("is_act", none), "is_act", "is_act", L2.defArgs s_is_act, L2.defBody s_is_act, L2.defScope s_is_act, [], []⟩, ⟨("Ledger", some "_check_act"), "_check_act", "Ledger._check_act", L2.defArgs s_Ledger_check_act, L2.defBody s_Ledger_check_act, L2.defScope s_Ledger_check_act, [], []⟩, ⟨("Roll", some "is_known"), "is_known", "Roll.is_known", L2.defArgs s_Roll_is_known, L2.defBody s_Roll_is_known, L2.defScope s_Roll_is_known, [], []⟩, ⟨("target", none), "target", "target", L2.defArgs s_target, L2.defBody s_target, L2.defScope s_target, [], []⟩, ⟨("Ledger", some "held"), "held", "Ledger.held", L2.defArgs s_Ledger_held, L2.defBody s_Ledger_held, L2.defScope s_Ledger_held, [], []⟩, ⟨("Ledger", some "counts"), "counts", "Ledger.counts", L2.defArgs s_Ledger_counts, L2.defBody s_Ledger_counts, L2.defScope s_Ledger_counts, [], []⟩]
def hdFn1 : List He.DefD := [⟨("_law_body", none), "_law_body", "_law_body", L2.defArgs s_law_body, L2.defBody s_law_body, L2.defScope s_law_body, [], []⟩, ⟨("Ledger", some "waiting"), "waiting", "Ledger.waiting", L2.defArgs s_Ledger_waiting, L2.defBody s_Ledger_waiting, L2.defScope s_Ledger_waiting, [], []⟩, ⟨("_law_takes", none), "_law_takes", "_law_takes", L2.defArgs s_law_takes, L2.defBody s_law_takes, L2.defScope s_law_takes, [], []⟩, ⟨("_law_asked", none), "_law_asked", "_law_asked", L2.defArgs s_law_asked, L2.defBody s_law_asked, L2.defScope s_law_asked, [], []⟩, ⟨("Ledger", some "take"), "take", "Ledger.take", L2.defArgs s_Ledger_take, L2.defBody s_Ledger_take, L2.defScope s_Ledger_take, [], []⟩, ⟨("Letter", some "value"), "value", "Letter.value", L2.defArgs s_Letter_value, L2.defBody s_Letter_value, L2.defScope s_Letter_value, [], []⟩, ⟨("Ledger", some "__contains__"), "__contains__", "Ledger.__contains__", L2.defArgs s_Ledger_contains, L2.defBody s_Ledger_contains, L2.defScope s_Ledger_contains, [], []⟩, ⟨("Ledger", some "letter"), "letter", "Ledger.letter", L2.defArgs s_Ledger_letter, L2.defBody s_Ledger_letter, L2.defScope s_Ledger_letter, [], []⟩, ⟨("Ledger", some "_is_void"), "_is_void", "Ledger._is_void", L2.defArgs s_Ledger_is_void, L2.defBody s_Ledger_is_void, L2.defScope s_Ledger_is_void, [], []⟩, ⟨("Roll", some "counts"), "counts", "Roll.counts", L2.defArgs s_Roll_counts, L2.defBody s_Roll_counts, L2.defScope s_Roll_counts, [], []⟩, ⟨("Ledger", some "_hold_all"), "_hold_all", "Ledger._hold_all", L2.defArgs s_Ledger_hold_all, L2.defBody s_Ledger_hold_all, L2.defScope s_Ledger_hold_all, [], []⟩, ⟨("Roll", some "cuts"), "cuts", "Roll.cuts", L2.defArgs s_Roll_cuts, L2.defBody s_Roll_cuts, L2.defScope s_Roll_cuts, [], []⟩, ⟨("Ledger", some "_ready"), "_ready", "Ledger._ready", L2.defArgs s_Ledger_ready, L2.defBody s_Ledger_ready, L2.defScope s_Ledger_ready, [], []⟩, ⟨("Roll", some "names"), "names", "Roll.names", L2.defArgs s_Roll_names, L2.defBody s_Roll_names, L2.defScope s_Roll_names, [], []⟩, ⟨("Ledger", some "_can_hold"), "_can_hold", "Ledger._can_hold", L2.defArgs s_Ledger_can_hold, L2.defBody s_Ledger_can_hold, L2.defScope s_Ledger_can_hold, [], []⟩, ⟨("Ledger", some "_has_count"), "_has_count", "Ledger._has_count", L2.defArgs s_Ledger_has_count, L2.defBody s_Ledger_has_count, L2.defScope s_Ledger_has_count, [], []⟩, ⟨("Roll", some "limit"), "limit", "Roll.limit", L2.defArgs s_Roll_limit, L2.defBody s_Roll_limit, L2.defScope s_Roll_limit, [], []⟩, ⟨("Ledger", some "_hold"), "_hold", "Ledger._hold", L2.defArgs s_Ledger_hold, L2.defBody s_Ledger_hold, L2.defScope s_Ledger_hold, [], []⟩, ⟨("roll_of", none), "roll_of", "roll_of", L2.defArgs s_roll_of, L2.defBody s_roll_of, L2.defScope s_roll_of, [], []⟩, ⟨("Roll", some "_act"), "_act", "Roll._act", L2.defArgs s_Roll_act, L2.defBody s_Roll_act, L2.defScope s_Roll_act, [], []⟩]
def hdFn2 : List He.DefD := [⟨("Letter", some "count"), "count", "Letter.count", L2.defArgs s_Letter_count, L2.defBody s_Letter_count, L2.defScope s_Letter_count, [], []⟩, ⟨("first_behind", none), "first_behind", "first_behind", L2.defArgs s_first_behind, L2.defBody s_first_behind, L2.defScope s_first_behind, [], []⟩, ⟨("Letter", some "has_seen"), "has_seen", "Letter.has_seen", L2.defArgs s_Letter_has_seen, L2.defBody s_Letter_has_seen, L2.defScope s_Letter_has_seen, [], []⟩, ⟨("Ledger", some "_drop_void"), "_drop_void", "Ledger._drop_void", L2.defArgs s_Ledger_drop_void, L2.defBody s_Ledger_drop_void, L2.defScope s_Ledger_drop_void, [], []⟩, ⟨("_law_take", none), "_law_take", "_law_take", L2.defArgs s_law_take, L2.defBody s_law_take, L2.defScope s_law_take, [], []⟩, ⟨("_law_counts", none), "_law_counts", "_law_counts", L2.defArgs s_law_counts, L2.defBody s_law_counts, L2.defScope s_law_counts, [], []⟩, ⟨("_law_roll", none), "_law_roll", "_law_roll", L2.defArgs s_law_roll, L2.defBody s_law_roll, L2.defScope s_law_roll, [], []⟩, ⟨("_law_row", none), "_law_row", "_law_row", L2.defArgs s_law_row, L2.defBody s_law_row, L2.defScope s_law_row, [], []⟩, ⟨("_law_after", none), "_law_after", "_law_after", L2.defArgs s_law_after, L2.defBody s_law_after, L2.defScope s_law_after, [], []⟩, ⟨("_law_void", none), "_law_void", "_law_void", L2.defArgs s_law_void, L2.defBody s_law_void, L2.defScope s_law_void, [], []⟩, ⟨("_law_hold_next", none), "_law_hold_next", "_law_hold_next", L2.defArgs s_law_hold_next, L2.defBody s_law_hold_next, L2.defScope s_law_hold_next, [], []⟩, ⟨("_law_can", none), "_law_can", "_law_can", L2.defArgs s_law_can, L2.defBody s_law_can, L2.defScope s_law_can, [], []⟩, ⟨("_law_pick", none), "_law_pick", "_law_pick", L2.defArgs s_law_pick, L2.defBody s_law_pick, L2.defScope s_law_pick, [], []⟩, ⟨("_law_same", none), "_law_same", "_law_same", L2.defArgs s_law_same, L2.defBody s_law_same, L2.defScope s_law_same, [], []⟩, ⟨("Ledger", some "letters"), "letters", "Ledger.letters", L2.defArgs s_Ledger_letters, L2.defBody s_Ledger_letters, L2.defScope s_Ledger_letters, [], []⟩, ⟨("_law_is", none), "_law_is", "_law_is", L2.defArgs s_law_is, L2.defBody s_law_is, L2.defScope s_law_is, [], []⟩, ⟨("Ledger", some "__len__"), "__len__", "Ledger.__len__", L2.defArgs s_Ledger_len, L2.defBody s_Ledger_len, L2.defScope s_Ledger_len, [], []⟩, ⟨("Ledger", some "__iter__"), "__iter__", "Ledger.__iter__", L2.defArgs s_Ledger_iter, L2.defBody s_Ledger_iter, L2.defScope s_Ledger_iter, [], []⟩, ⟨("_law_final", none), "_law_final", "_law_final", L2.defArgs s_law_final, L2.defBody s_law_final, L2.defScope s_law_final, [], []⟩, ⟨("Roll", some "members"), "members", "Roll.members", L2.defArgs s_Roll_members, L2.defBody s_Roll_members, L2.defScope s_Roll_members, [], []⟩]
def hdFn3 : List He.DefD := [⟨("law", none), "law", "law", L2.defArgs s_law, L2.defBody s_law, L2.defScope s_law, [], []⟩]
def hdFn : List He.DefD := hdFn0 ++ hdFn1 ++ hdFn2 ++ hdFn3
def hdFa0 : List He.Fa := [.cls "Letter", .noat "Letter" "author", .noat "Letter" "number", .noat "Letter" "stamp", .noat "Letter" "seen", .noat "Letter" "body", .cls "Roll", .noat "Roll" "founder", .noat "Roll" "keeper", .noat "Roll" "_came", .noat "Roll" "_limits", .cls "Ledger", .noat "Ledger" "founder", .noat "Ledger" "_rows", .noat "Ledger" "_order", .noat "Ledger" "_waiting", .noat "Ledger" "_roll", .noat "Ledger" "_top", .free "len", .free "list"]
def hdFa1 : List He.Fa := [.free "dict", .free "tuple", .free "sorted", .free "max", .free "min", .free "sum", .free "enumerate", .free "isinstance", .free "str", .free "int", .free "bool", .free "range", .free "iter", .str "LETTERS" Lo.letters, .str "DIGITS" Lo.digits, .int "LONGEST_NAME" 12, .int "LONGEST_TEXT" 400, .free "ord", .glo "PARTS", .glo "_law_stream"]
def hdFa2 : List He.Fa := [.glo "_law_next", .glo "_law_base", .glo "_law_founding", .mkr "Letter", .glo "Letter", .mkr "Ledger", .glo "Ledger", .mkr "Roll", .glo "Roll", .glo "_law_model", .meth "Roll" "is_member", .meth "Ledger" "next_letter", .glo "is_body", .glo "is_text", .glo "is_plain", .glo "is_name", .glo "is_act", .meth "Ledger" "_check_act", .meth "Roll" "is_known", .glo "target"]
def hdFa3 : List He.Fa := [.meth "Ledger" "held", .meth "Ledger" "counts", .glo "_law_body", .meth "Ledger" "waiting", .glo "_law_takes", .glo "_law_asked", .meth "Ledger" "take", .meth "Letter" "value", .meth "Ledger" "__contains__", .meth "Ledger" "letter", .meth "Ledger" "_is_void", .meth "Roll" "counts", .meth "Ledger" "_hold_all", .meth "Roll" "cuts", .meth "Ledger" "_ready", .meth "Roll" "names", .meth "Ledger" "_can_hold", .meth "Ledger" "_has_count", .meth "Roll" "limit", .meth "Ledger" "_hold"]
def hdFa4 : List He.Fa := [.glo "roll_of", .meth "Roll" "_act", .meth "Letter" "count", .glo "first_behind", .meth "Letter" "has_seen", .meth "Ledger" "_drop_void", .glo "_law_take", .glo "_law_counts", .glo "_law_roll", .glo "_law_row", .glo "_law_after", .glo "_law_void", .glo "_law_hold_next", .glo "_law_can", .glo "_law_pick", .glo "_law_same", .meth "Ledger" "letters", .glo "_law_is", .meth "Ledger" "__len__", .meth "Ledger" "__iter__"]
def hdFa5 : List He.Fa := [.glo "_law_final", .meth "Roll" "members", .glo "law"]
def hdFa : List He.Fa := hdFa0 ++ hdFa1 ++ hdFa2 ++ hdFa3 ++ hdFa4 ++ hdFa5
/-- the objects that the facts look at (which they are was found by running the top) -/
def hdAs0 : List Addr := [3, 515, 514, 335, 334, 253, 252, 64, 28, 42, 49, 78, 85, 92, 346, 353, 526, 533, 540, 552]
def hdAs1 : List Addr := [559, 573, 580, 585, 604, 611, 618, 625, 632, 639, 646, 651, 658, 663, 670, 675, 680, 27, 41, 48]
def hdAs2 : List Addr := [77, 84, 91, 345, 352, 525, 532, 539, 551, 558, 572, 579, 584, 603, 610, 617, 624, 631, 638, 645]
def hdAs3 : List Addr := [650, 657, 662, 669, 674, 679, 203, 211, 219, 226, 233, 240, 271, 276, 283, 290, 297, 304, 318, 325]
def hdAs4 : List Addr := [332, 367, 375, 383, 390, 402, 409, 416, 423, 430, 437, 444, 451, 456, 463, 470, 477, 484, 491, 498]
def hdAs5 : List Addr := [505, 512, 202, 210, 218, 225, 232, 239, 270, 275, 282, 289, 296, 303, 317, 324, 331, 366, 374, 382]
def hdAs6 : List Addr := [389, 401, 408, 415, 422, 429, 436, 443, 450, 455, 462, 469, 476, 483, 490, 497, 504, 511, 209, 217]
def hdAs7 : List Addr := [373, 381]
def hdAs : List Addr := hdAs0 ++ hdAs1 ++ hdAs2 ++ hdAs3 ++ hdAs4 ++ hdAs5 ++ hdAs6 ++ hdAs7
structure PropD where
  C : Str
  m : Str
  qual : Str
  st : Stmt
def fnA (K : PySem.W.Frag) (a : Addr) : He.FnW := match K.lookup a with
  | some ⟨_, _, .func fd, _⟩ => some (fd.name, fd.qualname, fd.params, fd.body, fd.scope, fd.globals, fd.closure, fd.builtins)
  | _ => none
def okA (K : PySem.W.Frag) (a : Addr) (q : Str) : Bool := PySem.W.keepIn K (.ref a) && (match K.lookup a with
  | some ⟨_, _, .func fd, _⟩ => PySem.W.codeIn K fd.code q && (He.dflB K fd.defaults [] && He.kwdB K fd.kwdefaults [])
  | _ => false)
def recB : Option (List Value) → Bool
  | some (.ref _ :: _) => true
  | _ => false
theorem recB_ok {z : Option (List Value)} (h : recB z = true) : ∃ a r, z = some (.ref a :: r) := by
  unfold recB at h
  split at h
  · exact ⟨_, _, rfl⟩
  · cases h
def PropD.val (d : PropD) : He.FnW := some (d.m, d.qual, L2.defArgs d.st, .stmts (L2.defBody d.st), L2.defScope d.st, mainGlobals, [], builtinsNs)
def PropD.ok (K : PySem.W.Frag) (d : PropD) : Bool := okA K (pg K d.C d.m) d.qual && (He.eqO (PySem.W.findIn K (.ref (He.ga K d.C)) d.m) (some (some (.ref (He.ma K (He.ga K d.C) d.m)))) &&
  (He.eqO (PySem.W.specialIn K (.ref (He.ma K (He.ga K d.C) d.m)) "__get__") (some (some (.builtin "property.__get__"))) && (decide (PySem.W.takesIn K (.ref (He.ma K (He.ga K d.C) d.m)) = some true) && recB (PySem.W.recIn K (He.ma K (He.ga K d.C) d.m) "property"))))
theorem funA {K : PySem.W.Frag} {d : PropD} (e : fnA K (pg K d.C d.m) = d.val) (c : d.ok K = true) : ∃ fd, FunD K d.m d.qual (L2.defArgs d.st) (L2.defBody d.st) (L2.defScope d.st) [] [] (pg K d.C d.m) fd := by
  obtain ⟨c0, _⟩ := He.ba c
  generalize pg K d.C d.m = a at e c0
  obtain ⟨kp, c2⟩ := He.ba c0
  unfold fnA at e
  match hq : K.lookup a with
  | none =>
    rw [hq] at e
    cases e
  | some ⟨oc, od, dt, osl⟩ =>
    rw [hq] at e c2
    match dt with
    | .func ⟨n1, n2, n3, n4, n5, n6, n7, n8, n9, n10, n11, n12, n13, n14, n15⟩ =>
      have e2 : (some (n1, n2, n3, n4, n5, n6, n7, n15) : He.FnW) = some (d.m, d.qual, L2.defArgs d.st, .stmts (L2.defBody d.st), L2.defScope d.st, mainGlobals, [], builtinsNs) := e
      simp only [Option.some.injEq, Prod.mk.injEq] at e2
      obtain ⟨h1, h2, h3, h4, h5, h6, h7, h8⟩ := e2
      subst h1 h2 h3 h4 h5 h6 h7 h8
      obtain ⟨k1, k2⟩ := He.ba c2
      obtain ⟨k3, k4⟩ := He.ba k2
      exact ⟨_, ⟨oc, od, n8, n9, n10, n11, n12, n13, n14, osl, rfl, hq, k1, He.dflB_ok k3, He.kwdB_ok k4⟩, kp⟩
def hdPr : List PropD := [⟨"Ledger", "roll", "Ledger.roll", s_Ledger_roll⟩, ⟨"Letter", "ref", "Letter.ref", s_Letter_ref⟩, ⟨"Letter", "key", "Letter.key", s_Letter_key⟩, ⟨"Ledger", "top", "Ledger.top", s_Ledger_top⟩]
def hdTs : List He.Tab := [(fun K => He.ga K "PARTS", ["found", "say", "reply", "edit", "recall", "mark", "title", "add", "cut", "hand", "seen"])]
def hdVals : List (Str × He.Dv) := [("say", .int 1), ("seen", .int 0), ("add", .int 1), ("cut", .int 1), ("hand", .int 1)]
def hdEx (K : PySem.W.Frag) : Bool := (hdPr.all fun d => d.ok K) && (He.valsB K (He.ga K "PARTS") hdVals && (decide (cR K ≠ cL K) && decide (cG K ≠ cL K)))
abbrev AlL : Type := He.AlT × Bool × List He.FnW
def hdObs (K : PySem.W.Frag) : AlL := (He.obsT hdFa hdFn hdTs K, hdEx K, hdPr.map fun d => fnA K (pg K d.C d.m))
def hdVal (w : World) : AlL := (He.valT hdFn hdTs w, true, hdPr.map PropD.val)
def hdObsG (as : List Addr) (g : Addr → Option Obj) : AlL := hdObs (He.frG g as)
def hdHook (as : List Addr) : PySem.W.Hook where
  α := AlL
  obs := fun s => hdObsG as s.heap.get?
  val := fun w => hdVal w
  says := fun w h => ∃ K : PySem.W.Frag, K.In h ∧ hdObs K = hdVal w
  of := fun _ _ e => ⟨_, He.frG_in, e⟩
  keeps := fun _ _ _ ⟨K, hK, c⟩ k => ⟨K, PySem.W.Frag.In.keeps hK k, c⟩
theorem hdObs_eq {as : List Addr} {g : Addr → Option Obj} {s : Shared} (h : ∀ a, g a = s.heap.get? a) : hdObsG as g = (hdHook as).obs s := by
  have e : g = s.heap.get? := funext h
  rw [e]
  rfl
structure SaysP (K : PySem.W.Frag) : Prop where
  ok : (hdPr.all fun d => d.ok K) = true
  vals : (hdPr.map fun d => fnA K (pg K d.C d.m)) = hdPr.map PropD.val
section
variable {K : PySem.W.Frag} {w : World}
theorem SaysP.fun_ (p : SaysP K) (i : Nat) {d : PropD} (h : hdPr[i]? = some d) : ∃ fd, FunD K d.m d.qual (L2.defArgs d.st) (L2.defBody d.st) (L2.defScope d.st) [] [] (pg K d.C d.m) fd := by
  refine funA ?_ (List.all_eq_true.mp p.ok d (List.mem_of_getElem? h))
  have e := congrArg (fun z => z[i]?) p.vals
  simp only [List.getElem?_map, h] at e
  exact Option.some.inj e
theorem SaysP.prop_ (p : SaysP K) (i : Nat) {d : PropD} (h : hdPr[i]? = some d) : PropOf K (He.ga K d.C) d.m (He.ma K (He.ga K d.C) d.m) (pg K d.C d.m) := by
  have c := List.all_eq_true.mp p.ok d (List.mem_of_getElem? h)
  obtain ⟨c0, c1⟩ := He.ba c
  obtain ⟨c1, c2⟩ := He.ba c1
  obtain ⟨c2, c3⟩ := He.ba c2
  obtain ⟨c3, c4⟩ := He.ba c3
  refine ⟨He.eqO_ok c1, He.eqO_ok c2, of_decide_eq_true c3, ?_⟩
  obtain ⟨a, r, q⟩ := recB_ok c4
  refine ⟨r, ?_⟩
  unfold pg
  rw [q]
end
end Lo
set_option Elab.async false
set_option linter.all false
set_option maxRecDepth 100000
set_option maxHeartbeats 0
namespace Lo
open PySem PySem.Spec PyProof.Rows L2
theorem fct_of {K : PySem.W.Frag} {w : World} {h : Heap} {mg : Str → Option Value} (X : K.In h) (G : h.Ns mainGlobals mg) (e : hdObs K = hdVal w) : Fct K w mg ∧ mg "law" = some (.ref (He.ga K "law")) ∧ Src K "law" "law" s_law (He.ga K "law") := by
  have t : He.SaysT hdFa hdFn hdTs w K := congrArg (fun z : AlL => z.1) e
  have x : hdEx K = true := congrArg (fun z : AlL => z.2.1) e
  obtain ⟨x1, x2⟩ := He.ba x
  obtain ⟨x2, x3⟩ := He.ba x2
  obtain ⟨x3, x4⟩ := He.ba x3
  have p : SaysP K := ⟨x1, congrArg (fun z : AlL => z.2.2) e⟩
  have c := t.d
  have T : Txt K mg := { neR := of_decide_eq_true x3, neG := of_decide_eq_true x4, kL := (He.cls_ok (c.fact 0 (f := .cls "Letter") rfl)), nAu := (He.noat_ok (c.fact 1 (f := .noat "Letter" "author") rfl)), nNu := (He.noat_ok (c.fact 2 (f := .noat "Letter" "number") rfl)), nSt := (He.noat_ok (c.fact 3 (f := .noat "Letter" "stamp") rfl)), nSe := (He.noat_ok (c.fact 4 (f := .noat "Letter" "seen") rfl)), nBo := (He.noat_ok (c.fact 5 (f := .noat "Letter" "body") rfl)), kR := (He.cls_ok (c.fact 6 (f := .cls "Roll") rfl)), nFo := (He.noat_ok (c.fact 7 (f := .noat "Roll" "founder") rfl)), nKe := (He.noat_ok (c.fact 8 (f := .noat "Roll" "keeper") rfl)), nCa := (He.noat_ok (c.fact 9 (f := .noat "Roll" "_came") rfl)), nLi := (He.noat_ok (c.fact 10 (f := .noat "Roll" "_limits") rfl)), kG := (He.cls_ok (c.fact 11 (f := .cls "Ledger") rfl)), gFo := (He.noat_ok (c.fact 12 (f := .noat "Ledger" "founder") rfl)), gRo := (He.noat_ok (c.fact 13 (f := .noat "Ledger" "_rows") rfl)), gOr := (He.noat_ok (c.fact 14 (f := .noat "Ledger" "_order") rfl)), gWa := (He.noat_ok (c.fact 15 (f := .noat "Ledger" "_waiting") rfl)), gRl := (He.noat_ok (c.fact 16 (f := .noat "Ledger" "_roll") rfl)), gTo := (He.noat_ok (c.fact 17 (f := .noat "Ledger" "_top") rfl)), len := (He.free_ok X G (c.fact 18 (f := .free "len") rfl)), list := (He.free_ok X G (c.fact 19 (f := .free "list") rfl)), dict := (He.free_ok X G (c.fact 20 (f := .free "dict") rfl)), tuple := (He.free_ok X G (c.fact 21 (f := .free "tuple") rfl)), sorted := (He.free_ok X G (c.fact 22 (f := .free "sorted") rfl)), max := (He.free_ok X G (c.fact 23 (f := .free "max") rfl)), min := (He.free_ok X G (c.fact 24 (f := .free "min") rfl)), sum := (He.free_ok X G (c.fact 25 (f := .free "sum") rfl)), enum := (He.free_ok X G (c.fact 26 (f := .free "enumerate") rfl)), isi := (He.free_ok X G (c.fact 27 (f := .free "isinstance") rfl)), str := (He.free_ok X G (c.fact 28 (f := .free "str") rfl)), int := (He.free_ok X G (c.fact 29 (f := .free "int") rfl)), bool := (He.free_ok X G (c.fact 30 (f := .free "bool") rfl)), range := (He.free_ok X G (c.fact 31 (f := .free "range") rfl)), iter := (He.free_ok X G (c.fact 32 (f := .free "iter") rfl)) }
  obtain ⟨es, n, D⟩ := t.tab 0 (t := (fun K => He.ga K "PARTS", ["found", "say", "reply", "edit", "recall", "mark", "title", "add", "cut", "hand", "seen"])) rfl
  have kd : ∀ (k : Str) (v : He.Dv), (k, v) ∈ hdVals → KDct K w (He.ga K "PARTS") k (v.v K) := fun k v hk => by
    obtain ⟨u, u1, u2⟩ := He.valsB_ok x2 hk
    exact ⟨es, n, u, D.at_, D.lit, u1, u2⟩
  have T2 : Tx2 K w mg := { pa := ⟨He.ga K "PARTS", (He.glo_ok X G (c.fact 38 (f := .glo "PARTS") rfl)), D.low, kd "say" (.int 1) (by simp [hdVals]), kd "seen" (.int 0) (by simp [hdVals]), kd "add" (.int 1) (by simp [hdVals]), kd "cut" (.int 1) (by simp [hdVals]), kd "hand" (.int 1) (by simp [hdVals])⟩, ord := (He.free_ok X G (c.fact 37 (f := .free "ord") rfl)), lt := (He.str_ok X G (c.fact 33 (f := .str "LETTERS" Lo.letters) rfl)), dg := (He.str_ok X G (c.fact 34 (f := .str "DIGITS" Lo.digits) rfl)), ln := (He.int_ok X G (c.fact 35 (f := .int "LONGEST_NAME" 12) rfl)), lx := (He.int_ok X G (c.fact 36 (f := .int "LONGEST_TEXT" 400) rfl)) }
  refine ⟨{
    T := T,
    T2 := T2,
    s_s_law_stream := ⟨c.def_ 0 (d := ⟨("_law_stream", none), "_law_stream", "_law_stream", L2.defArgs s_law_stream, L2.defBody s_law_stream, L2.defScope s_law_stream, [], []⟩) rfl⟩,
    h_law_stream := (He.glo_ok X G (c.fact 39 (f := .glo "_law_stream") rfl)),
    s_s_law_next := ⟨c.def_ 1 (d := ⟨("_law_next", none), "_law_next", "_law_next", L2.defArgs s_law_next, L2.defBody s_law_next, L2.defScope s_law_next, [], []⟩) rfl⟩,
    h_law_next := (He.glo_ok X G (c.fact 40 (f := .glo "_law_next") rfl)),
    s_s_law_base := ⟨c.def_ 2 (d := ⟨("_law_base", none), "_law_base", "_law_base", L2.defArgs s_law_base, L2.defBody s_law_base, L2.defScope s_law_base, [], []⟩) rfl⟩,
    h_law_base := (He.glo_ok X G (c.fact 41 (f := .glo "_law_base") rfl)),
    s_s_law_founding := ⟨c.def_ 3 (d := ⟨("_law_founding", none), "_law_founding", "_law_founding", L2.defArgs s_law_founding, L2.defBody s_law_founding, L2.defScope s_law_founding, [], []⟩) rfl⟩,
    h_law_founding := (He.glo_ok X G (c.fact 42 (f := .glo "_law_founding") rfl)),
    s_s_Letter_init := ⟨c.def_ 4 (d := ⟨("Letter", some "__init__"), "__init__", "Letter.__init__", L2.defArgs s_Letter_init, L2.defBody s_Letter_init, L2.defScope s_Letter_init, [], []⟩) rfl⟩,
    k_Letter := (He.mkr_ok (c.fact 43 (f := .mkr "Letter") rfl)),
    h_Letter := (He.glo_ok X G (c.fact 44 (f := .glo "Letter") rfl)),
    s_s_Ledger_init := ⟨c.def_ 5 (d := ⟨("Ledger", some "__init__"), "__init__", "Ledger.__init__", L2.defArgs s_Ledger_init, L2.defBody s_Ledger_init, L2.defScope s_Ledger_init, [], []⟩) rfl⟩,
    k_Ledger := (He.mkr_ok (c.fact 45 (f := .mkr "Ledger") rfl)),
    h_Ledger := (He.glo_ok X G (c.fact 46 (f := .glo "Ledger") rfl)),
    s_s_Roll_init := ⟨c.def_ 6 (d := ⟨("Roll", some "__init__"), "__init__", "Roll.__init__", L2.defArgs s_Roll_init, L2.defBody s_Roll_init, L2.defScope s_Roll_init, [], []⟩) rfl⟩,
    k_Roll := (He.mkr_ok (c.fact 47 (f := .mkr "Roll") rfl)),
    h_Roll := (He.glo_ok X G (c.fact 48 (f := .glo "Roll") rfl)),
    s_s_law_model := ⟨c.def_ 7 (d := ⟨("_law_model", none), "_law_model", "_law_model", L2.defArgs s_law_model, L2.defBody s_law_model, L2.defScope s_law_model, [], []⟩) rfl⟩,
    h_law_model := (He.glo_ok X G (c.fact 49 (f := .glo "_law_model") rfl)),
    s_s_Ledger_roll := ⟨p.fun_ 0 rfl⟩,
    p_Ledger_roll := (p.prop_ 0 rfl),
    s_s_Roll_is_member := ⟨c.def_ 8 (d := ⟨("Roll", some "is_member"), "is_member", "Roll.is_member", L2.defArgs s_Roll_is_member, L2.defBody s_Roll_is_member, L2.defScope s_Roll_is_member, [], []⟩) rfl⟩,
    m_Roll_is_member := (He.meth_ok (c.fact 50 (f := .meth "Roll" "is_member") rfl)),
    s_s_Ledger_next_letter := ⟨c.def_ 9 (d := ⟨("Ledger", some "next_letter"), "next_letter", "Ledger.next_letter", L2.defArgs s_Ledger_next_letter, L2.defBody s_Ledger_next_letter, L2.defScope s_Ledger_next_letter, [], []⟩) rfl⟩,
    m_Ledger_next_letter := (He.meth_ok (c.fact 51 (f := .meth "Ledger" "next_letter") rfl)),
    s_s_is_body := ⟨c.def_ 10 (d := ⟨("is_body", none), "is_body", "is_body", L2.defArgs s_is_body, L2.defBody s_is_body, L2.defScope s_is_body, [], []⟩) rfl⟩,
    h_is_body := (He.glo_ok X G (c.fact 52 (f := .glo "is_body") rfl)),
    s_s_is_text := ⟨c.def_ 11 (d := ⟨("is_text", none), "is_text", "is_text", L2.defArgs s_is_text, L2.defBody s_is_text, L2.defScope s_is_text, [], []⟩) rfl⟩,
    h_is_text := (He.glo_ok X G (c.fact 53 (f := .glo "is_text") rfl)),
    s_s_is_plain := ⟨c.def_ 12 (d := ⟨("is_plain", none), "is_plain", "is_plain", L2.defArgs s_is_plain, L2.defBody s_is_plain, L2.defScope s_is_plain, [], []⟩) rfl⟩,
    h_is_plain := (He.glo_ok X G (c.fact 54 (f := .glo "is_plain") rfl)),
    s_s_is_name := ⟨c.def_ 13 (d := ⟨("is_name", none), "is_name", "is_name", L2.defArgs s_is_name, L2.defBody s_is_name, L2.defScope s_is_name, [], []⟩) rfl⟩,
    h_is_name := (He.glo_ok X G (c.fact 55 (f := .glo "is_name") rfl)),
    s_s_is_act := ⟨c.def_ 14 (d := ⟨("is_act", none), "is_act", "is_act", L2.defArgs s_is_act, L2.defBody s_is_act, L2.defScope s_is_act, [], []⟩) rfl⟩,
    h_is_act := (He.glo_ok X G (c.fact 56 (f := .glo "is_act") rfl)),
    s_s_Ledger_check_act := ⟨c.def_ 15 (d := ⟨("Ledger", some "_check_act"), "_check_act", "Ledger._check_act", L2.defArgs s_Ledger_check_act, L2.defBody s_Ledger_check_act, L2.defScope s_Ledger_check_act, [], []⟩) rfl⟩,
    m_Ledger_check_act := (He.meth_ok (c.fact 57 (f := .meth "Ledger" "_check_act") rfl)),
    s_s_Roll_is_known := ⟨c.def_ 16 (d := ⟨("Roll", some "is_known"), "is_known", "Roll.is_known", L2.defArgs s_Roll_is_known, L2.defBody s_Roll_is_known, L2.defScope s_Roll_is_known, [], []⟩) rfl⟩,
    m_Roll_is_known := (He.meth_ok (c.fact 58 (f := .meth "Roll" "is_known") rfl)),
    s_s_target := ⟨c.def_ 17 (d := ⟨("target", none), "target", "target", L2.defArgs s_target, L2.defBody s_target, L2.defScope s_target, [], []⟩) rfl⟩,
    h_target := (He.glo_ok X G (c.fact 59 (f := .glo "target") rfl)),
    s_s_Ledger_held := ⟨c.def_ 18 (d := ⟨("Ledger", some "held"), "held", "Ledger.held", L2.defArgs s_Ledger_held, L2.defBody s_Ledger_held, L2.defScope s_Ledger_held, [], []⟩) rfl⟩,
    m_Ledger_held := (He.meth_ok (c.fact 60 (f := .meth "Ledger" "held") rfl)),
    s_s_Ledger_counts := ⟨c.def_ 19 (d := ⟨("Ledger", some "counts"), "counts", "Ledger.counts", L2.defArgs s_Ledger_counts, L2.defBody s_Ledger_counts, L2.defScope s_Ledger_counts, [], []⟩) rfl⟩,
    m_Ledger_counts := (He.meth_ok (c.fact 61 (f := .meth "Ledger" "counts") rfl)),
    s_s_law_body := ⟨c.def_ 20 (d := ⟨("_law_body", none), "_law_body", "_law_body", L2.defArgs s_law_body, L2.defBody s_law_body, L2.defScope s_law_body, [], []⟩) rfl⟩,
    h_law_body := (He.glo_ok X G (c.fact 62 (f := .glo "_law_body") rfl)),
    s_s_Letter_ref := ⟨p.fun_ 1 rfl⟩,
    p_Letter_ref := (p.prop_ 1 rfl),
    s_s_Ledger_waiting := ⟨c.def_ 21 (d := ⟨("Ledger", some "waiting"), "waiting", "Ledger.waiting", L2.defArgs s_Ledger_waiting, L2.defBody s_Ledger_waiting, L2.defScope s_Ledger_waiting, [], []⟩) rfl⟩,
    m_Ledger_waiting := (He.meth_ok (c.fact 63 (f := .meth "Ledger" "waiting") rfl)),
    s_s_law_takes := ⟨c.def_ 22 (d := ⟨("_law_takes", none), "_law_takes", "_law_takes", L2.defArgs s_law_takes, L2.defBody s_law_takes, L2.defScope s_law_takes, [], []⟩) rfl⟩,
    h_law_takes := (He.glo_ok X G (c.fact 64 (f := .glo "_law_takes") rfl)),
    s_s_law_asked := ⟨c.def_ 23 (d := ⟨("_law_asked", none), "_law_asked", "_law_asked", L2.defArgs s_law_asked, L2.defBody s_law_asked, L2.defScope s_law_asked, [], []⟩) rfl⟩,
    h_law_asked := (He.glo_ok X G (c.fact 65 (f := .glo "_law_asked") rfl)),
    s_s_Ledger_take := ⟨c.def_ 24 (d := ⟨("Ledger", some "take"), "take", "Ledger.take", L2.defArgs s_Ledger_take, L2.defBody s_Ledger_take, L2.defScope s_Ledger_take, [], []⟩) rfl⟩,
    m_Ledger_take := (He.meth_ok (c.fact 66 (f := .meth "Ledger" "take") rfl)),
    s_s_Letter_value := ⟨c.def_ 25 (d := ⟨("Letter", some "value"), "value", "Letter.value", L2.defArgs s_Letter_value, L2.defBody s_Letter_value, L2.defScope s_Letter_value, [], []⟩) rfl⟩,
    m_Letter_value := (He.meth_ok (c.fact 67 (f := .meth "Letter" "value") rfl)),
    s_s_Ledger_contains := ⟨c.def_ 26 (d := ⟨("Ledger", some "__contains__"), "__contains__", "Ledger.__contains__", L2.defArgs s_Ledger_contains, L2.defBody s_Ledger_contains, L2.defScope s_Ledger_contains, [], []⟩) rfl⟩,
    m_Ledger_contains := (He.meth_ok (c.fact 68 (f := .meth "Ledger" "__contains__") rfl)),
    s_s_Ledger_letter := ⟨c.def_ 27 (d := ⟨("Ledger", some "letter"), "letter", "Ledger.letter", L2.defArgs s_Ledger_letter, L2.defBody s_Ledger_letter, L2.defScope s_Ledger_letter, [], []⟩) rfl⟩,
    m_Ledger_letter := (He.meth_ok (c.fact 69 (f := .meth "Ledger" "letter") rfl)),
    s_s_Ledger_is_void := ⟨c.def_ 28 (d := ⟨("Ledger", some "_is_void"), "_is_void", "Ledger._is_void", L2.defArgs s_Ledger_is_void, L2.defBody s_Ledger_is_void, L2.defScope s_Ledger_is_void, [], []⟩) rfl⟩,
    m_Ledger_is_void := (He.meth_ok (c.fact 70 (f := .meth "Ledger" "_is_void") rfl)),
    s_s_Roll_counts := ⟨c.def_ 29 (d := ⟨("Roll", some "counts"), "counts", "Roll.counts", L2.defArgs s_Roll_counts, L2.defBody s_Roll_counts, L2.defScope s_Roll_counts, [], []⟩) rfl⟩,
    m_Roll_counts := (He.meth_ok (c.fact 71 (f := .meth "Roll" "counts") rfl)),
    s_s_Ledger_hold_all := ⟨c.def_ 30 (d := ⟨("Ledger", some "_hold_all"), "_hold_all", "Ledger._hold_all", L2.defArgs s_Ledger_hold_all, L2.defBody s_Ledger_hold_all, L2.defScope s_Ledger_hold_all, [], []⟩) rfl⟩,
    m_Ledger_hold_all := (He.meth_ok (c.fact 72 (f := .meth "Ledger" "_hold_all") rfl)),
    s_s_Roll_cuts := ⟨c.def_ 31 (d := ⟨("Roll", some "cuts"), "cuts", "Roll.cuts", L2.defArgs s_Roll_cuts, L2.defBody s_Roll_cuts, L2.defScope s_Roll_cuts, [], []⟩) rfl⟩,
    m_Roll_cuts := (He.meth_ok (c.fact 73 (f := .meth "Roll" "cuts") rfl)),
    s_s_Ledger_ready := ⟨c.def_ 32 (d := ⟨("Ledger", some "_ready"), "_ready", "Ledger._ready", L2.defArgs s_Ledger_ready, L2.defBody s_Ledger_ready, L2.defScope s_Ledger_ready, [], []⟩) rfl⟩,
    m_Ledger_ready := (He.meth_ok (c.fact 74 (f := .meth "Ledger" "_ready") rfl)),
    s_s_Roll_names := ⟨c.def_ 33 (d := ⟨("Roll", some "names"), "names", "Roll.names", L2.defArgs s_Roll_names, L2.defBody s_Roll_names, L2.defScope s_Roll_names, [], []⟩) rfl⟩,
    m_Roll_names := (He.meth_ok (c.fact 75 (f := .meth "Roll" "names") rfl)),
    s_s_Ledger_can_hold := ⟨c.def_ 34 (d := ⟨("Ledger", some "_can_hold"), "_can_hold", "Ledger._can_hold", L2.defArgs s_Ledger_can_hold, L2.defBody s_Ledger_can_hold, L2.defScope s_Ledger_can_hold, [], []⟩) rfl⟩,
    m_Ledger_can_hold := (He.meth_ok (c.fact 76 (f := .meth "Ledger" "_can_hold") rfl)),
    s_s_Ledger_has_count := ⟨c.def_ 35 (d := ⟨("Ledger", some "_has_count"), "_has_count", "Ledger._has_count", L2.defArgs s_Ledger_has_count, L2.defBody s_Ledger_has_count, L2.defScope s_Ledger_has_count, [], []⟩) rfl⟩,
    m_Ledger_has_count := (He.meth_ok (c.fact 77 (f := .meth "Ledger" "_has_count") rfl)),
    s_s_Roll_limit := ⟨c.def_ 36 (d := ⟨("Roll", some "limit"), "limit", "Roll.limit", L2.defArgs s_Roll_limit, L2.defBody s_Roll_limit, L2.defScope s_Roll_limit, [], []⟩) rfl⟩,
    m_Roll_limit := (He.meth_ok (c.fact 78 (f := .meth "Roll" "limit") rfl)),
    s_s_Letter_key := ⟨p.fun_ 2 rfl⟩,
    p_Letter_key := (p.prop_ 2 rfl),
    s_s_Ledger_hold := ⟨c.def_ 37 (d := ⟨("Ledger", some "_hold"), "_hold", "Ledger._hold", L2.defArgs s_Ledger_hold, L2.defBody s_Ledger_hold, L2.defScope s_Ledger_hold, [], []⟩) rfl⟩,
    m_Ledger_hold := (He.meth_ok (c.fact 79 (f := .meth "Ledger" "_hold") rfl)),
    s_s_roll_of := ⟨c.def_ 38 (d := ⟨("roll_of", none), "roll_of", "roll_of", L2.defArgs s_roll_of, L2.defBody s_roll_of, L2.defScope s_roll_of, [], []⟩) rfl⟩,
    h_roll_of := (He.glo_ok X G (c.fact 80 (f := .glo "roll_of") rfl)),
    s_s_Roll_act := ⟨c.def_ 39 (d := ⟨("Roll", some "_act"), "_act", "Roll._act", L2.defArgs s_Roll_act, L2.defBody s_Roll_act, L2.defScope s_Roll_act, [], []⟩) rfl⟩,
    m_Roll_act := (He.meth_ok (c.fact 81 (f := .meth "Roll" "_act") rfl)),
    s_s_Letter_count := ⟨c.def_ 40 (d := ⟨("Letter", some "count"), "count", "Letter.count", L2.defArgs s_Letter_count, L2.defBody s_Letter_count, L2.defScope s_Letter_count, [], []⟩) rfl⟩,
    m_Letter_count := (He.meth_ok (c.fact 82 (f := .meth "Letter" "count") rfl)),
    s_s_first_behind := ⟨c.def_ 41 (d := ⟨("first_behind", none), "first_behind", "first_behind", L2.defArgs s_first_behind, L2.defBody s_first_behind, L2.defScope s_first_behind, [], []⟩) rfl⟩,
    h_first_behind := (He.glo_ok X G (c.fact 83 (f := .glo "first_behind") rfl)),
    s_s_Letter_has_seen := ⟨c.def_ 42 (d := ⟨("Letter", some "has_seen"), "has_seen", "Letter.has_seen", L2.defArgs s_Letter_has_seen, L2.defBody s_Letter_has_seen, L2.defScope s_Letter_has_seen, [], []⟩) rfl⟩,
    m_Letter_has_seen := (He.meth_ok (c.fact 84 (f := .meth "Letter" "has_seen") rfl)),
    s_s_Ledger_drop_void := ⟨c.def_ 43 (d := ⟨("Ledger", some "_drop_void"), "_drop_void", "Ledger._drop_void", L2.defArgs s_Ledger_drop_void, L2.defBody s_Ledger_drop_void, L2.defScope s_Ledger_drop_void, [], []⟩) rfl⟩,
    m_Ledger_drop_void := (He.meth_ok (c.fact 85 (f := .meth "Ledger" "_drop_void") rfl)),
    s_s_law_take := ⟨c.def_ 44 (d := ⟨("_law_take", none), "_law_take", "_law_take", L2.defArgs s_law_take, L2.defBody s_law_take, L2.defScope s_law_take, [], []⟩) rfl⟩,
    h_law_take := (He.glo_ok X G (c.fact 86 (f := .glo "_law_take") rfl)),
    s_s_law_counts := ⟨c.def_ 45 (d := ⟨("_law_counts", none), "_law_counts", "_law_counts", L2.defArgs s_law_counts, L2.defBody s_law_counts, L2.defScope s_law_counts, [], []⟩) rfl⟩,
    h_law_counts := (He.glo_ok X G (c.fact 87 (f := .glo "_law_counts") rfl)),
    s_s_law_roll := ⟨c.def_ 46 (d := ⟨("_law_roll", none), "_law_roll", "_law_roll", L2.defArgs s_law_roll, L2.defBody s_law_roll, L2.defScope s_law_roll, [], []⟩) rfl⟩,
    h_law_roll := (He.glo_ok X G (c.fact 88 (f := .glo "_law_roll") rfl)),
    s_s_law_row := ⟨c.def_ 47 (d := ⟨("_law_row", none), "_law_row", "_law_row", L2.defArgs s_law_row, L2.defBody s_law_row, L2.defScope s_law_row, [], []⟩) rfl⟩,
    h_law_row := (He.glo_ok X G (c.fact 89 (f := .glo "_law_row") rfl)),
    s_s_law_after := ⟨c.def_ 48 (d := ⟨("_law_after", none), "_law_after", "_law_after", L2.defArgs s_law_after, L2.defBody s_law_after, L2.defScope s_law_after, [], []⟩) rfl⟩,
    h_law_after := (He.glo_ok X G (c.fact 90 (f := .glo "_law_after") rfl)),
    s_s_law_void := ⟨c.def_ 49 (d := ⟨("_law_void", none), "_law_void", "_law_void", L2.defArgs s_law_void, L2.defBody s_law_void, L2.defScope s_law_void, [], []⟩) rfl⟩,
    h_law_void := (He.glo_ok X G (c.fact 91 (f := .glo "_law_void") rfl)),
    s_s_law_hold_next := ⟨c.def_ 50 (d := ⟨("_law_hold_next", none), "_law_hold_next", "_law_hold_next", L2.defArgs s_law_hold_next, L2.defBody s_law_hold_next, L2.defScope s_law_hold_next, [], []⟩) rfl⟩,
    h_law_hold_next := (He.glo_ok X G (c.fact 92 (f := .glo "_law_hold_next") rfl)),
    s_s_law_can := ⟨c.def_ 51 (d := ⟨("_law_can", none), "_law_can", "_law_can", L2.defArgs s_law_can, L2.defBody s_law_can, L2.defScope s_law_can, [], []⟩) rfl⟩,
    h_law_can := (He.glo_ok X G (c.fact 93 (f := .glo "_law_can") rfl)),
    s_s_law_pick := ⟨c.def_ 52 (d := ⟨("_law_pick", none), "_law_pick", "_law_pick", L2.defArgs s_law_pick, L2.defBody s_law_pick, L2.defScope s_law_pick, [], []⟩) rfl⟩,
    h_law_pick := (He.glo_ok X G (c.fact 94 (f := .glo "_law_pick") rfl)),
    s_s_law_same := ⟨c.def_ 53 (d := ⟨("_law_same", none), "_law_same", "_law_same", L2.defArgs s_law_same, L2.defBody s_law_same, L2.defScope s_law_same, [], []⟩) rfl⟩,
    h_law_same := (He.glo_ok X G (c.fact 95 (f := .glo "_law_same") rfl)),
    s_s_Ledger_letters := ⟨c.def_ 54 (d := ⟨("Ledger", some "letters"), "letters", "Ledger.letters", L2.defArgs s_Ledger_letters, L2.defBody s_Ledger_letters, L2.defScope s_Ledger_letters, [], []⟩) rfl⟩,
    m_Ledger_letters := (He.meth_ok (c.fact 96 (f := .meth "Ledger" "letters") rfl)),
    s_s_law_is := ⟨c.def_ 55 (d := ⟨("_law_is", none), "_law_is", "_law_is", L2.defArgs s_law_is, L2.defBody s_law_is, L2.defScope s_law_is, [], []⟩) rfl⟩,
    h_law_is := (He.glo_ok X G (c.fact 97 (f := .glo "_law_is") rfl)),
    s_s_Ledger_len := ⟨c.def_ 56 (d := ⟨("Ledger", some "__len__"), "__len__", "Ledger.__len__", L2.defArgs s_Ledger_len, L2.defBody s_Ledger_len, L2.defScope s_Ledger_len, [], []⟩) rfl⟩,
    m_Ledger_len := (He.meth_ok (c.fact 98 (f := .meth "Ledger" "__len__") rfl)),
    s_s_Ledger_iter := ⟨c.def_ 57 (d := ⟨("Ledger", some "__iter__"), "__iter__", "Ledger.__iter__", L2.defArgs s_Ledger_iter, L2.defBody s_Ledger_iter, L2.defScope s_Ledger_iter, [], []⟩) rfl⟩,
    m_Ledger_iter := (He.meth_ok (c.fact 99 (f := .meth "Ledger" "__iter__") rfl)),
    s_s_Ledger_top := ⟨p.fun_ 3 rfl⟩,
    p_Ledger_top := (p.prop_ 3 rfl),
    s_s_law_final := ⟨c.def_ 58 (d := ⟨("_law_final", none), "_law_final", "_law_final", L2.defArgs s_law_final, L2.defBody s_law_final, L2.defScope s_law_final, [], []⟩) rfl⟩,
    h_law_final := (He.glo_ok X G (c.fact 100 (f := .glo "_law_final") rfl)),
    s_s_Roll_members := ⟨c.def_ 59 (d := ⟨("Roll", some "members"), "members", "Roll.members", L2.defArgs s_Roll_members, L2.defBody s_Roll_members, L2.defScope s_Roll_members, [], []⟩) rfl⟩,
    m_Roll_members := (He.meth_ok (c.fact 101 (f := .meth "Roll" "members") rfl)) }, (He.glo_ok X G (c.fact 102 (f := .glo "law") rfl)), ⟨c.def_ 60 (d := ⟨("law", none), "law", "law", L2.defArgs s_law, L2.defBody s_law, L2.defScope s_law, [], []⟩) rfl⟩⟩
end Lo
set_option Elab.async false
set_option linter.all false
set_option maxRecDepth 100000
set_option maxHeartbeats 0
namespace Lo
open PySem PySem.Spec PyProof.Rows L2
abbrev hdR : PySem.W.OpenRow := PySem.W.OpenLaw.row PySem.Challenge.rw_lettersonce_k28_whole_ledgers_of_a_room
def hdOb (s : PySem.W.SharedT) : AlL := hdObsG hdAs (HandSHeadRun.getT s)
theorem hdOb_eq (s : PySem.W.SharedT) : hdOb s = (hdHook hdAs).obs s.abs := hdObs_eq (HandSHeadRun.getT_eq s)
def loose1 : List PySem.Str := ["_wall", "LETTERS", "DIGITS", "LONGEST_NAME", "GREATEST_NUMBER", "LONGEST_TEXT", "LONGEST_TITLE", "is_name", "is_number", "is_plain", "is_text", "is_title", "is_ref", "MOST_MEMBERS", "PARTS", "is_members", "is_body", "is_act", "target", "RoomError", "BadBody", "BadLetter", "Contradiction", "Exists", "NotKeeper", "NotMember", "Unknown"]
def loose2 : List PySem.Str := ["Letter", "Roll", "first_behind", "roll_of", "Ledger", "_law_stream", "_law_next", "_law_is", "_law_flag", "_law_base", "_law_founding", "_law_new_world", "_law_row", "_law_after", "_law_roll", "_law_write", "_law_learn", "_law_model", "_law_counts", "_law_void", "_law_can", "_law_hold_next", "_law_take", "_law_asked", "_law_same", "_law_body", "_law_pick", "_law_takes", "_law_final"]
def loose : List PySem.Str := (["__name__"] : List PySem.Str) ++ loose1 ++ loose2
theorem runF (w : World) : HandSHeadRun.RunEq hdR (PySem.W.view hdR.prog [63]) (hdHook hdAs) hdOb 6000 loose (w.withFollow "special-get-raises" false) := by
  intro os
  kernel_rfl
theorem runT (w : World) : HandSHeadRun.RunEq hdR (PySem.W.view hdR.prog [63]) (hdHook hdAs) hdOb 6000 loose (w.withFollow "special-get-raises" true) := by
  intro os
  kernel_rfl
theorem hdRun (w : World) : HandSHeadRun.RunEq hdR (PySem.W.view hdR.prog [63]) (hdHook hdAs) hdOb 6000 loose w := PySem.W.byRow2 "special-get-raises" runF runT w
end Lo
set_option Elab.async false
set_option linter.all false
set_option maxRecDepth 100000
set_option maxHeartbeats 0
namespace Lo
open PySem PySem.Spec PyProof.Rows L2
theorem hd_facts {P : Program} {w : World} {K : PySem.W.Frag} {h : Heap} {mg : Str → Option Value} {f : Addr} (X : K.In h) (G : h.Ns mainGlobals mg) (hfa : mg ("law" : Str) = some (.ref f)) (e : hdObs K = hdVal w) :
    ∃ fd : FuncData, (∀ (s : Shared) (v : Value), BindsTo s fd ⟨[v], []⟩ [("_law_script", v)]) ∧ ∀ base : Heap, K.In base → base.Ns mainGlobals mg → FnOk P w K mg base CX0 11 f fd ["_law_script"] (spLaw K) := by
  obtain ⟨F, hl, S⟩ := fct_of X G e
  obtain ⟨fd, D⟩ := S.ex
  rw [hl] at hfa
  cases hfa
  have b := FunD.bindsA (ps := ["_law_script"]) D bi_law
  refine ⟨fd, fun s v => b s [v] rfl, fun base _ _ => ?_⟩
  refine D.ok (C8.fnScope_by sc_law) (fun vs H Q E h => ?_) fun cdv A outer s H vs Q E hr h => ?_
  · obtain ⟨a, ns, rfl, _⟩ := h
    rfl
  · obtain ⟨t, h1, h2⟩ := all_law (P := P) (base := base) F cdv A outer s H vs Q E hr h
    exact ⟨t, h1.nox, h2⟩
end Lo
open PySem PySem.W PySem.Calls PyProof.Rows
theorem PySem.Challenge.cw_lettersonce_k28_whole_ledgers_of_a_room_holds : PySem.Challenge.rw_lettersonce_k28_whole_ledgers_of_a_room.Holds := by
  w_on; o_law
  refine HandSHeadRun.head_any (r := OpenLaw.row PySem.Challenge.rw_lettersonce_k28_whole_ledgers_of_a_room) (q := view (OpenLaw.row PySem.Challenge.rw_lettersonce_k28_whole_ledgers_of_a_room).prog [63]) (H := Lo.hdHook Lo.hdAs) (ob := Lo.hdOb) (M := 6000) (loose := Lo.loose) (d := HandSHeadRun.topDef (OpenLaw.row PySem.Challenge.rw_lettersonce_k28_whole_ledgers_of_a_room).prog 63) (kwd := []) Lo.hdOb_eq
    (by kernel_rfl) (fun s => by kernel_rfl) Lo.hdRun (by kernel_rfl) (by kernel_rfl) (by kernel_rfl) (by rfl) (by first | assumption | decide +kernel) (by decide +kernel) ⟨rfl, rfl, rfl, rfl, rfl, by decide +kernel⟩ ?hw ?hc
  case hw => w_witness2
  case hc =>
    refine L2.walk_ofE (l := PySem.Challenge.rw_lettersonce_k28_whole_ledgers_of_a_room) (n := 63) (k := 11) (x := "_law_script") (CX := L2.CX0) rfl (by decide) (by kernel_rfl) ⟨rfl, by decide, by decide⟩ ?F (fun _ _ _ _ z => z)
    intro w mg fa h Y G hmg0
    obtain ⟨K, KX, c⟩ := Y
    have hmg : mg ("law" : PySem.Str) = some (.ref fa) := by
      have e : (HandSHeadRun.topDef (OpenLaw.row PySem.Challenge.rw_lettersonce_k28_whole_ledgers_of_a_room).prog 63).name = ("law" : PySem.Str) := by kernel_rfl
      rw [← e]
      exact hmg0
    obtain ⟨fd, hb, hF⟩ := Lo.hd_facts (P := (PySem.Challenge.rw_lettersonce_k28_whole_ledgers_of_a_room).prog) (w := w) KX G hmg c
    exact ⟨K, fd, Lo.spLaw K, KX, hb, fun H a ns hl _ hS => ⟨a, ns, rfl, hS, hl, fun _ => rfl⟩, hF⟩
