import PyProof.Rows.All
import Wide.All
import OpenK.AllK
import Wide.FinOn
import HandS.ForMost
import HandS.More
import HandS.Conv
import HandS.Deep
import HandS.Flow
import HandS.Wide
import HandS.TupAny
import HandS.TupMul
import HandS.Defaults
import KE.KDictKeyed
import KE.KDictDisplayH
import HandS.Strs
import HandS.Codes
import HandS.SetBool
import HandS.SetFor
import HandS.Iter
import KE.GoesMore
import KE.GoesEnum
import HandS.Dict
import PyProof.Rows.TupTab
import KE.KStateDown
import Lean
import HandS.WordsExc
import HandS.Head0
import HandS.Head1
import HandS.Head2
import HandS.HeadEnd
import HandS.HeadHook1
import HandS.HeadHook2
import PySem.Challenge.RW_anyvalues_k67_whole_alike_exactly_if_equ
-- text Th1
set_option linter.all false
set_option maxHeartbeats 1000000
/-! Machines over any linear order: reading, joint types, what parts. Plain Lean. -/
namespace TH
class LO (α : Type) [LT α] : Prop where
  irr : ∀ a : α, ¬ a < a
  tr : ∀ {a b c : α}, a < b → b < c → a < c
  tri : ∀ a b : α, a < b ∨ a = b ∨ b < a
class DO (α : Type) [LT α] : Prop where
  mid : ∀ {a b : α}, a < b → ∃ c, a < c ∧ c < b
  up : ∀ a : α, ∃ b, a < b
  dn : ∀ a : α, ∃ b, b < a
  one : Nonempty α
instance : LO Int := ⟨fun a => by omega, fun h k => by omega, fun a b => by omega⟩
instance : LO Nat := ⟨fun a => by omega, fun h k => by omega, fun a b => by omega⟩
instance : LO Rat := ⟨fun a => by grind, fun h k => by grind, fun a b => by grind⟩
instance : DO Rat := ⟨fun {a b} h => ⟨(a + b) / 2, by grind, by grind⟩, fun a => ⟨a + 1, by grind⟩, fun a => ⟨a - 1, by grind⟩, ⟨0⟩⟩

inductive Cond where
  | tt | ff
  | less (a b : Int) | same (a b : Int)
  | empty (a : Int)
  | not (c : Cond)
  | all (cs : List Cond) | any (cs : List Cond)
structure Case where
  cond : Cond
  moves : List Int
  says : List (Int × Int)
  next : Nat
structure Machine where
  tags : Nat
  regs : Nat
  steps : List (List (List Case))
abbrev Held (α : Type) := List (Option α)
abbrev Con (α : Type) := Nat × Held α
abbrev Ans (α : Type) := List (Int × Option α)

section
variable {α : Type} [LT α] [DecidableLT α] [DecidableEq α]
def src (s : Int) (v : α) (h : Held α) : Option α := if s = -1 then some v else if s = -2 then none else (h[s.toNat]?).join
mutual
def holds : Cond → α → Held α → Bool
  | .tt, _, _ => true
  | .ff, _, _ => false
  | .less a b, v, h => match src a v h, src b v h with
    | some x, some y => decide (x < y)
    | _, _ => false
  | .same a b, v, h => match src a v h, src b v h with
    | some x, some y => decide (x = y)
    | _, _ => false
  | .empty a, v, h => (src a v h).isNone
  | .not c, v, h => !holds c v h
  | .all cs, v, h => (holdsL cs v h).all id
  | .any cs, v, h => (holdsL cs v h).any id
def holdsL : List Cond → α → Held α → List Bool
  | [], _, _ => []
  | c :: cs, v, h => holds c v h :: holdsL cs v h
end
def Machine.at_ (m : Machine) (st tag : Nat) : List Case := ((m.steps[st]?).getD [])[tag]?.getD []
def caseFor (m : Machine) (c : Con α) (t : Nat) (v : α) : Option Nat := (m.at_ c.1 t).findIdx? fun k => holds k.cond v c.2
def doCase (k : Case) (v : α) (h : Held α) : Con α × Ans α := ((k.next, k.moves.map fun s => src s v h), k.says.map fun p => (p.1, src p.2 v h))
def readM (m : Machine) (c : Con α) (t : Nat) (v : α) : Con α × Ans α := match (m.at_ c.1 t).find? fun k => holds k.cond v c.2 with
  | none => (c, [])
  | some k => doCase k v c.2
def run (m : Machine) : Con α → List (Nat × α) → List (Ans α)
  | _, [] => []
  | c, e :: l => (readM m c e.1 e.2).2 :: run m (readM m c e.1 e.2).1 l
def begin (m : Machine) : Con α := (0, List.replicate m.regs none)

/-- sorted, without equal ones -/
def ins (x : α) : List α → List α
  | [] => [x]
  | y :: ys => if x < y then x :: y :: ys else if x = y then y :: ys else y :: ins x ys
def known (h : Held α) : List α := (h.filterMap id).foldr ins []
def ranks (h : Held α) : List (Option Nat) := h.map (Option.map fun x => (known h).idxOf x)
end

inductive All2 {α β : Type} (R : α → β → Prop) : List α → List β → Prop
  | nil : All2 R [] []
  | cons {a b as bs} : R a b → All2 R as bs → All2 R (a :: as) (b :: bs)
namespace All2
variable {α β : Type} {R S : α → β → Prop}
theorem len {as : List α} {bs : List β} (h : All2 R as bs) : as.length = bs.length := by induction h <;> simp_all
theorem get {as : List α} {bs : List β} (h : All2 R as bs) : ∀ {i : Nat} {a : α}, as[i]? = some a → ∃ b, bs[i]? = some b ∧ R a b := by
  induction h with
  | nil => intro i a e; simp at e
  | @cons a b as bs r _ ih =>
    intro i x e
    cases i with
    | zero => simp at e; subst e; exact ⟨b, rfl, r⟩
    | succ i => simp at e; simpa using ih e
theorem get' {as : List α} {bs : List β} (h : All2 R as bs) : ∀ {i : Nat} {b : β}, bs[i]? = some b → ∃ a, as[i]? = some a ∧ R a b := by
  induction h with
  | nil => intro i a e; simp at e
  | @cons a b as bs r _ ih =>
    intro i x e
    cases i with
    | zero => simp at e; subst e; exact ⟨a, rfl, r⟩
    | succ i => simp at e; simpa using ih e
theorem mono {as : List α} {bs : List β} (h : All2 R as bs) (f : ∀ a b, R a b → S a b) : All2 S as bs := by induction h <;> constructor <;> simp_all
theorem app {as as' : List α} {bs bs' : List β} (h : All2 R as bs) (h' : All2 R as' bs') : All2 R (as ++ as') (bs ++ bs') := by
  induction h with
  | nil => exact h'
  | cons r _ ih => exact .cons r ih
theorem take {as : List α} {bs : List β} (n : Nat) (h : All2 R as bs) : All2 R (as.take n) (bs.take n) := by
  induction h generalizing n with
  | nil => simp; exact .nil
  | cons r _ ih => cases n with
    | zero => exact .nil
    | succ n => exact .cons r (ih n)
theorem drop {as : List α} {bs : List β} (n : Nat) (h : All2 R as bs) : All2 R (as.drop n) (bs.drop n) := by
  induction h generalizing n with
  | nil => simp; exact .nil
  | cons r t ih => cases n with
    | zero => exact .cons r t
    | succ n => exact ih n
theorem map2 {γ δ ε : Type} {Q : γ → δ → Prop} (f : ε → γ) (g : ε → δ) (l : List ε) (h : ∀ x ∈ l, Q (f x) (g x)) : All2 Q (l.map f) (l.map g) := by
  induction l with
  | nil => exact .nil
  | cons a l ih => exact .cons (h a (by simp)) (ih fun x hx => h x (by simp [hx]))
theorem swap {as : List α} {bs : List β} (h : All2 R as bs) : All2 (fun b a => R a b) bs as := by induction h <;> constructor <;> simp_all
end All2

/-! ### order-keeping pairs -/
section
variable {α β : Type} [LT α] [DecidableLT α] [DecidableEq α] [LT β] [DecidableLT β] [DecidableEq β]
def Mono (P : List (α × β)) : Prop := ∀ p ∈ P, ∀ q ∈ P, (p.1 < q.1 ↔ p.2 < q.2)
variable [LO α] [LO β] {P : List (α × β)}
theorem Mono.eq_iff (m : Mono P) {p q : α × β} (hp : p ∈ P) (hq : q ∈ P) : p.1 = q.1 ↔ p.2 = q.2 := by
  constructor
  · intro e
    rcases LO.tri p.2 q.2 with h | h | h
    · have := (m p hp q hq).mpr h; rw [e] at this; exact absurd this (LO.irr _)
    · exact h
    · have := (m q hq p hp).mpr h; rw [e] at this; exact absurd this (LO.irr _)
  · intro e
    rcases LO.tri p.1 q.1 with h | h | h
    · have := (m p hp q hq).mp h; rw [e] at this; exact absurd this (LO.irr _)
    · exact h
    · have := (m q hq p hp).mp h; rw [e] at this; exact absurd this (LO.irr _)
def RO (P : List (α × β)) : Option α → Option β → Prop
  | none, none => True
  | some a, some b => (a, b) ∈ P
  | _, _ => False
abbrev RH (P : List (α × β)) : Held α → Held β → Prop := All2 (RO P)
abbrev RA (P : List (α × β)) : Ans α → Ans β → Prop := All2 fun p q => p.1 = q.1 ∧ RO P p.2 q.2
theorem RO.mono {P Q : List (α × β)} (s : ∀ p ∈ P, p ∈ Q) {x : Option α} {y : Option β} (h : RO P x y) : RO Q x y := by
  cases x <;> cases y <;> simp_all [RO]
theorem RO.eq_iff (m : Mono P) {x x' : Option α} {y y' : Option β} (h : RO P x y) (h' : RO P x' y') : x = x' ↔ y = y' := by
  cases x <;> cases y <;> cases x' <;> cases y' <;> simp_all [RO]
  exact m.eq_iff h h'
theorem RH.eq_iff (m : Mono P) : ∀ {x x' : Held α} {y y' : Held β}, RH P x y → RH P x' y' → (x = x' ↔ y = y')
  | _, _, _, _, .nil, .nil => by simp
  | _, _, _, _, .nil, .cons _ _ => by simp
  | _, _, _, _, .cons _ _, .nil => by simp
  | _, _, _, _, .cons r t, .cons r' t' => by
    simp only [List.cons.injEq]
    rw [r.eq_iff m r', RH.eq_iff m t t']
theorem RA.eq_iff (m : Mono P) : ∀ {x x' : Ans α} {y y' : Ans β}, RA P x y → RA P x' y' → (x = x' ↔ y = y')
  | _, _, _, _, .nil, .nil => by simp
  | _, _, _, _, .nil, .cons _ _ => by simp
  | _, _, _, _, .cons _ _, .nil => by simp
  | _, _, _, _, .cons (a := a) (b := b) ⟨e, r⟩ t, .cons (a := a') (b := b') ⟨e', r'⟩ t' => by
    simp only [List.cons.injEq]
    rw [RA.eq_iff m t t']
    have : a = a' ↔ b = b' := by
      rw [Prod.ext_iff, Prod.ext_iff, e, e', r.eq_iff m r']
    rw [this]
theorem src_rel {v : α} {v' : β} {h : Held α} {h' : Held β} (hv : (v, v') ∈ P) (r : RH P h h') (s : Int) : RO P (src s v h) (src s v' h') := by
  unfold src
  split
  · exact hv
  · split
    · trivial
    · cases e : h[s.toNat]? with
      | none =>
        have : h'[s.toNat]? = none := by rw [List.getElem?_eq_none_iff] at e ⊢; rw [← r.len]; exact e
        rw [this]; trivial
      | some a =>
        obtain ⟨b, hb, hr⟩ := r.get e
        rw [hb]; exact hr
mutual
theorem holds_rel (m : Mono P) {v : α} {v' : β} {h : Held α} {h' : Held β} (hv : (v, v') ∈ P) (r : RH P h h') : ∀ c, holds c v h = holds c v' h'
  | .tt => by simp [holds]
  | .ff => by simp [holds]
  | .less a b => by
    have h1 := src_rel hv r a
    have h2 := src_rel hv r b
    simp only [holds]
    cases e1 : src a v h <;> cases e2 : src a v' h' <;> rw [e1, e2] at h1 <;> simp [RO] at h1
    cases e3 : src b v h <;> cases e4 : src b v' h' <;> rw [e3, e4] at h2 <;> simp [RO] at h2
    exact decide_eq_decide.mpr (m _ h1 _ h2)
  | .same a b => by
    have h1 := src_rel hv r a
    have h2 := src_rel hv r b
    simp only [holds]
    cases e1 : src a v h <;> cases e2 : src a v' h' <;> rw [e1, e2] at h1 <;> simp [RO] at h1
    cases e3 : src b v h <;> cases e4 : src b v' h' <;> rw [e3, e4] at h2 <;> simp [RO] at h2
    exact decide_eq_decide.mpr (m.eq_iff h1 h2)
  | .empty a => by
    have h1 := src_rel hv r a
    simp only [holds]
    cases e1 : src a v h <;> cases e2 : src a v' h' <;> rw [e1, e2] at h1 <;> simp_all [RO]
  | .not c => by simp only [holds]; rw [holds_rel m hv r c]
  | .all cs => by simp only [holds]; rw [holdsL_rel m hv r cs]
  | .any cs => by simp only [holds]; rw [holdsL_rel m hv r cs]
theorem holdsL_rel (m : Mono P) {v : α} {v' : β} {h : Held α} {h' : Held β} (hv : (v, v') ∈ P) (r : RH P h h') : ∀ cs, holdsL cs v h = holdsL cs v' h'
  | [] => by simp [holdsL]
  | c :: cs => by simp only [holdsL]; rw [holds_rel m hv r c, holdsL_rel m hv r cs]
end
structure RC (P : List (α × β)) (c : Con α) (c' : Con β) : Prop where
  st : c.1 = c'.1
  held : RH P c.2 c'.2
theorem read_rel (m : Mono P) (M : Machine) {c : Con α} {c' : Con β} {v : α} {v' : β} (hv : (v, v') ∈ P) (r : RC P c c') (t : Nat) :
    RC P (readM M c t v).1 (readM M c' t v').1 ∧ RA P (readM M c t v).2 (readM M c' t v').2 := by
  unfold readM
  rw [← r.st]
  have : (fun k : Case => holds k.cond v c.2) = fun k => holds k.cond v' c'.2 := by funext k; exact holds_rel m hv r.held k.cond
  rw [this]
  cases (M.at_ c.1 t).find? fun k => holds k.cond v' c'.2 with
  | none => exact ⟨r, .nil⟩
  | some k => exact ⟨⟨rfl, All2.map2 _ _ _ fun s _ => src_rel hv r.held s⟩, All2.map2 _ _ _ fun p _ => ⟨rfl, src_rel hv r.held p.2⟩⟩
theorem RC.mono {P Q : List (α × β)} (s : ∀ p ∈ P, p ∈ Q) {c : Con α} {c' : Con β} (h : RC P c c') : RC Q c c' := ⟨h.st, h.held.mono fun _ _ => RO.mono s⟩
end

/-! ### known values, ranks -/
section
variable {α β : Type} [LT α] [DecidableLT α] [DecidableEq α] [LT β] [DecidableLT β] [DecidableEq β] [LO α] [LO β] {P : List (α × β)}
abbrev Sorted (l : List α) : Prop := l.Pairwise (· < ·)
theorem mem_ins (x y : α) : ∀ l : List α, y ∈ ins x l ↔ y = x ∨ y ∈ l
  | [] => by simp [ins]
  | z :: zs => by
    unfold ins
    split
    · simp
    · split
      · rename_i _ e; subst e; simp
      · simp [mem_ins x y zs]; constructor <;> (intro h; rcases h with h | h | h <;> simp [h])
theorem ins_sorted (x : α) : ∀ {l : List α}, Sorted l → Sorted (ins x l)
  | [], _ => by simp [ins]
  | z :: zs, h => by
    unfold ins
    split
    · rename_i hx
      rw [Sorted, List.pairwise_cons] at h ⊢
      refine ⟨fun a ha => ?_, List.pairwise_cons.mpr h⟩
      rcases List.mem_cons.mp ha with e | ha
      · rw [e]; exact hx
      · exact LO.tr hx (h.1 a ha)
    · split
      · exact h
      · rename_i h1 h2
        rw [Sorted, List.pairwise_cons] at h ⊢
        refine ⟨fun a ha => ?_, ins_sorted x h.2⟩
        rcases (mem_ins x a zs).mp ha with e | ha
        · rw [e]
          rcases LO.tri x z with q | q | q
          · exact absurd q h1
          · exact absurd q h2
          · exact q
        · exact h.1 a ha
theorem known_sorted (h : Held α) : Sorted (known h) := by
  unfold known
  generalize h.filterMap id = l
  induction l with
  | nil => exact List.Pairwise.nil
  | cons a l ih => exact ins_sorted a ih
theorem mem_known (h : Held α) (x : α) : x ∈ known h ↔ some x ∈ h := by
  unfold known
  have : ∀ l : List α, x ∈ l.foldr ins [] ↔ x ∈ l := by
    intro l
    induction l with
    | nil => simp
    | cons a l ih => rw [List.foldr_cons, mem_ins, ih]; simp
  rw [this]
  simp
/-- two sorted lists with the same members are one -/
theorem sorted_unique : ∀ {l l' : List α}, Sorted l → Sorted l' → (∀ x, x ∈ l ↔ x ∈ l') → l = l'
  | [], [], _, _, _ => rfl
  | [], b :: _, _, _, h => by have := (h b).mpr (by simp); simp at this
  | a :: _, [], _, _, h => by have := (h a).mp (by simp); simp at this
  | a :: as, b :: bs, s, s', h => by
    rw [Sorted, List.pairwise_cons] at s s'
    have e : a = b := by
      rcases List.mem_cons.mp ((h a).mp (by simp)) with e | ha
      · exact e
      · rcases List.mem_cons.mp ((h b).mpr (by simp)) with e | hb
        · exact e.symm
        · exact absurd (LO.tr (s.1 b hb) (s'.1 a ha)) (LO.irr _)
    subst e
    congr 1
    refine sorted_unique s.2 s'.2 fun x => ?_
    have := h x
    simp only [List.mem_cons] at this
    constructor
    · intro hx
      rcases this.mp (.inr hx) with e | q
      · subst e; exact absurd (s.1 x hx) (LO.irr _)
      · exact q
    · intro hx
      rcases this.mpr (.inr hx) with e | q
      · subst e; exact absurd (s'.1 x hx) (LO.irr _)
      · exact q
abbrev R1 (P : List (α × β)) : List α → List β → Prop := All2 fun a b => (a, b) ∈ P
theorem ins_rel (m : Mono P) {x : α} {y : β} (hxy : (x, y) ∈ P) : ∀ {l : List α} {l' : List β}, R1 P l l' → R1 P (ins x l) (ins y l')
  | _, _, .nil => .cons hxy .nil
  | _, _, .cons (a := a) (b := b) r t => by
    unfold ins
    have h1 : (x < a) ↔ (y < b) := m _ hxy _ r
    have h2 : (x = a) ↔ (y = b) := m.eq_iff hxy r
    by_cases c1 : x < a
    · rw [if_pos c1, if_pos (h1.mp c1)]; exact .cons hxy (.cons r t)
    · rw [if_neg c1, if_neg (fun z => c1 (h1.mpr z))]
      by_cases c2 : x = a
      · rw [if_pos c2, if_pos (h2.mp c2)]; exact .cons r t
      · rw [if_neg c2, if_neg (fun z => c2 (h2.mpr z))]; exact .cons r (ins_rel m hxy t)
theorem fm_rel : ∀ {h : Held α} {h' : Held β}, RH P h h' → R1 P (h.filterMap id) (h'.filterMap id)
  | _, _, .nil => .nil
  | _, _, .cons (a := a) (b := b) r t => by
    cases a <;> cases b <;> simp [RO] at r
    · simpa using fm_rel t
    · exact All2.cons r (fm_rel t)
theorem known_rel (m : Mono P) {h : Held α} {h' : Held β} (r : RH P h h') : R1 P (known h) (known h') := by
  have : ∀ {l : List α} {l' : List β}, R1 P l l' → R1 P (l.foldr ins []) (l'.foldr ins []) := by
    intro l l' r
    induction r with
    | nil => exact .nil
    | cons r _ ih => exact ins_rel m r ih
  exact this (fm_rel r)
theorem idx_rel (m : Mono P) {x : α} {y : β} (hxy : (x, y) ∈ P) : ∀ {l : List α} {l' : List β}, R1 P l l' → l.idxOf x = l'.idxOf y
  | _, _, .nil => rfl
  | _, _, .cons (a := a) (b := b) r t => by
    rw [List.idxOf_cons, List.idxOf_cons, idx_rel m hxy t]
    have h2 : (a == x) = (b == y) := by
      rw [Bool.eq_iff_iff, beq_iff_eq, beq_iff_eq]
      exact m.eq_iff r hxy
    rw [h2]
theorem ranks_rel (m : Mono P) {h : Held α} {h' : Held β} (r : RH P h h') : ranks h = ranks h' := by
  unfold ranks
  have k := known_rel m r
  generalize known h = l at k
  generalize known h' = l' at k
  induction r with
  | nil => rfl
  | @cons a b as bs r _ ih =>
    rw [List.map_cons, List.map_cons, ih]
    congr 1
    cases a <;> cases b <;> simp [RO] at r
    · rfl
    · simp [idx_rel m r k]
end
end TH
-- text Th2
set_option linter.all false
set_option maxHeartbeats 1000000
/-! Joint types; what parts, as paths over joint types and as logs. -/
namespace TH
section
variable {α β : Type} [LT α] [DecidableLT α] [DecidableEq α] [LT β] [DecidableLT β] [DecidableEq β] [LO α] [LO β] {P : List (α × β)}

theorem exMax : ∀ {l : List α}, l ≠ [] → ∃ m ∈ l, ∀ x ∈ l, x = m ∨ x < m
  | [], h => absurd rfl h
  | [a], _ => ⟨a, by simp, fun x hx => by simp at hx; exact .inl hx⟩
  | a :: b :: l, _ => by
    obtain ⟨m, hm, h⟩ := exMax (l := b :: l) (by simp)
    rcases LO.tri a m with q | q | q
    · exact ⟨m, by simp [hm], fun x hx => by
        rcases List.mem_cons.mp hx with e | hx
        · subst e; exact .inr q
        · exact h x hx⟩
    · exact ⟨m, by simp [hm], fun x hx => by
        rcases List.mem_cons.mp hx with e | hx
        · subst e; exact .inl q
        · exact h x hx⟩
    · exact ⟨a, by simp, fun x hx => by
        rcases List.mem_cons.mp hx with e | hx
        · exact .inl e
        · rcases h x hx with e | e
          · rw [e]; exact .inr q
          · exact .inr (LO.tr e q)⟩
theorem exMin : ∀ {l : List α}, l ≠ [] → ∃ m ∈ l, ∀ x ∈ l, x = m ∨ m < x
  | [], h => absurd rfl h
  | [a], _ => ⟨a, by simp, fun x hx => by simp at hx; exact .inl hx⟩
  | a :: b :: l, _ => by
    obtain ⟨m, hm, h⟩ := exMin (l := b :: l) (by simp)
    rcases LO.tri a m with q | q | q
    · exact ⟨a, by simp, fun x hx => by
        rcases List.mem_cons.mp hx with e | hx
        · exact .inl e
        · rcases h x hx with e | e
          · rw [e]; exact .inr q
          · exact .inr (LO.tr q e)⟩
    · exact ⟨m, by simp [hm], fun x hx => by
        rcases List.mem_cons.mp hx with e | hx
        · subst e; exact .inl q
        · exact h x hx⟩
    · exact ⟨m, by simp [hm], fun x hx => by
        rcases List.mem_cons.mp hx with e | hx
        · subst e; exact .inr q
        · exact h x hx⟩
theorem between [DO α] (L U : List α) (h : ∀ l ∈ L, ∀ u ∈ U, l < u) : ∃ v, (∀ l ∈ L, l < v) ∧ ∀ u ∈ U, v < u := by
  by_cases hL : L = []
  · by_cases hU : U = []
    · obtain ⟨v⟩ := DO.one (α := α)
      exact ⟨v, by simp [hL], by simp [hU]⟩
    · obtain ⟨m, hm, q⟩ := exMin hU
      obtain ⟨v, hv⟩ := DO.dn m
      exact ⟨v, by simp [hL], fun u hu => (q u hu).elim (fun e => by rw [e]; exact hv) (fun e => LO.tr hv e)⟩
  · obtain ⟨a, ha, p⟩ := exMax hL
    by_cases hU : U = []
    · obtain ⟨v, hv⟩ := DO.up a
      exact ⟨v, fun u hu => (p u hu).elim (fun e => by rw [e]; exact hv) (fun e => LO.tr e hv), by simp [hU]⟩
    · obtain ⟨m, hm, q⟩ := exMin hU
      obtain ⟨v, h1, h2⟩ := DO.mid (h a ha m hm)
      exact ⟨v, fun u hu => (p u hu).elim (fun e => by rw [e]; exact h1) (fun e => LO.tr e h1), fun u hu => (q u hu).elim (fun e => by rw [e]; exact h2) (fun e => LO.tr h2 e)⟩
theorem asym {a b : α} (h : a < b) : ¬ b < a := fun k => LO.irr _ (LO.tr h k)
theorem mono_cons (m : Mono P) {v : α} {v' : β} (h : ∀ p ∈ P, (p.1 < v ↔ p.2 < v') ∧ (v < p.1 ↔ v' < p.2)) : Mono ((v, v') :: P) := by
  intro p hp q hq
  rcases List.mem_cons.mp hp with e | hp <;> rcases List.mem_cons.mp hq with e' | hq
  · subst e e'; exact ⟨fun k => absurd k (LO.irr _), fun k => absurd k (LO.irr _)⟩
  · subst e; exact (h q hq).2
  · subst e'; exact (h p hp).1
  · exact m p hp q hq
/-- a new value on the right finds one on the left -/
theorem extend [DO α] (m : Mono P) (v' : β) : ∃ v : α, Mono ((v, v') :: P) := by
  by_cases hx : ∃ p ∈ P, p.2 = v'
  · obtain ⟨p, hp, e⟩ := hx
    refine ⟨p.1, mono_cons m fun q hq => ?_⟩
    rw [← e]
    exact ⟨m q hq p hp, m p hp q hq⟩
  · obtain ⟨v, h1, h2⟩ := between ((P.filter fun (p : α × β) => decide (p.2 < v')).map fun p => p.1) ((P.filter fun (p : α × β) => decide (v' < p.2)).map fun p => p.1) (fun l hl u hu => by
      simp only [List.mem_map, List.mem_filter, decide_eq_true_eq] at hl hu
      obtain ⟨p, ⟨hp, h1⟩, rfl⟩ := hl
      obtain ⟨q, ⟨hq, h2⟩, rfl⟩ := hu
      exact (m p hp q hq).mpr (LO.tr h1 h2))
    refine ⟨v, mono_cons m fun p hp => ?_⟩
    have lo : p.2 < v' → p.1 < v := fun q => h1 _ (List.mem_map.mpr ⟨p, List.mem_filter.mpr ⟨hp, by simpa using q⟩, rfl⟩)
    have hi : v' < p.2 → v < p.1 := fun q => h2 _ (List.mem_map.mpr ⟨p, List.mem_filter.mpr ⟨hp, by simpa using q⟩, rfl⟩)
    rcases LO.tri p.2 v' with q | q | q
    · exact ⟨⟨fun _ => q, fun _ => lo q⟩, ⟨fun k => absurd k (asym (lo q)), fun k => absurd k (asym q)⟩⟩
    · exact absurd ⟨p, hp, q⟩ hx
    · exact ⟨⟨fun k => absurd k (asym (hi q)), fun k => absurd k (asym q)⟩, ⟨fun _ => q, fun _ => hi q⟩⟩
def flip (P : List (α × β)) : List (β × α) := P.map fun p => (p.2, p.1)
theorem flip_mem {a : α} {b : β} : (b, a) ∈ flip P ↔ (a, b) ∈ P := by
  unfold flip
  constructor
  · intro h
    obtain ⟨p, hp, e⟩ := List.mem_map.mp h
    cases e; exact hp
  · intro h; exact List.mem_map.mpr ⟨_, h, rfl⟩
theorem Mono.flip (m : Mono P) : Mono (flip P) := by
  intro p hp q hq
  exact (m _ (flip_mem.mp hp) _ (flip_mem.mp hq)).symm
end

/-! ### ranks and what they show -/
section
variable {β : Type} [LT β] [DecidableLT β] [DecidableEq β] [LO β]
def shown (rk : List (Option Nat)) : Held Int := rk.map (Option.map fun (r : Nat) => 2 * (r : Int) + 1)
def many (rk : List (Option Nat)) : Nat := (known rk).length
/-- the numbers of sorted values -/
def P0 (ks : List β) : List (Int × β) := ks.mapIdx fun i x => (2 * (i : Int) + 1, x)
theorem mem_P0 {ks : List β} {a : Int} {x : β} : (a, x) ∈ P0 ks ↔ ∃ i : Nat, ks[i]? = some x ∧ a = 2 * (i : Int) + 1 := by
  unfold P0
  rw [List.mem_iff_getElem?]
  constructor
  · rintro ⟨i, h⟩
    rw [List.getElem?_mapIdx] at h
    cases e : ks[i]? with
    | none => rw [e] at h; cases h
    | some y => rw [e] at h; simp at h; exact ⟨i, by rw [e, h.2], h.1.symm⟩
  · rintro ⟨i, h, e⟩
    exact ⟨i, by rw [List.getElem?_mapIdx, h]; simp [e]⟩
theorem sorted_lt {ks : List β} (s : Sorted ks) {i j : Nat} {x y : β} (hx : ks[i]? = some x) (hy : ks[j]? = some y) : i < j ↔ x < y := by
  have lt : ∀ {i j : Nat} {x y : β}, ks[i]? = some x → ks[j]? = some y → i < j → x < y := by
    intro i j x y hx hy h
    obtain ⟨h1, e1⟩ := List.getElem?_eq_some_iff.mp hx
    obtain ⟨h2, e2⟩ := List.getElem?_eq_some_iff.mp hy
    have := List.pairwise_iff_getElem.mp s i j h1 h2 h
    rw [e1, e2] at this; exact this
  constructor
  · exact lt hx hy
  · intro h
    rcases Nat.lt_trichotomy i j with q | q | q
    · exact q
    · subst q; rw [hx] at hy; cases hy; exact absurd h (LO.irr _)
    · exact absurd (LO.tr h (lt hy hx q)) (LO.irr _)
theorem mono_P0 {ks : List β} (s : Sorted ks) : Mono (P0 ks) := by
  rintro ⟨a, x⟩ hp ⟨b, y⟩ hq
  obtain ⟨i, hi, rfl⟩ := mem_P0.mp hp
  obtain ⟨j, hj, rfl⟩ := mem_P0.mp hq
  rw [← sorted_lt s hi hj]
  show 2 * (i : Int) + 1 < 2 * (j : Int) + 1 ↔ _
  omega
theorem idx_get {l : List β} {x : β} (h : x ∈ l) : l[l.idxOf x]? = some x := by
  rw [List.getElem?_eq_getElem (List.idxOf_lt_length_of_mem h)]
  simp
theorem shown_rel (h : Held β) : RH (P0 (known h)) (shown (ranks h)) h := by
  have : ∀ h' : Held β, (∀ x, some x ∈ h' → x ∈ known h) → RH (P0 (known h)) (shown (h'.map (Option.map fun x => (known h).idxOf x))) h' := by
    intro h'
    induction h' with
    | nil => intro _; exact All2.nil
    | cons a l ih =>
      intro hm
      refine All2.cons ?_ (ih fun x hx => hm x (by simp [hx]))
      cases a with
      | none => trivial
      | some x => exact mem_P0.mpr ⟨_, idx_get (hm x (by simp)), rfl⟩
  exact this h fun x hx => (mem_known h x).mpr hx
/-- the numbers themselves -/
def P1 (ks : List β) : List (Nat × β) := ks.mapIdx fun i x => (i, x)
theorem mem_P1 {ks : List β} {a : Nat} {x : β} : (a, x) ∈ P1 ks ↔ ks[a]? = some x := by
  unfold P1
  rw [List.mem_iff_getElem?]
  constructor
  · rintro ⟨i, h⟩
    rw [List.getElem?_mapIdx] at h
    cases e : ks[i]? with
    | none => rw [e] at h; cases h
    | some y => rw [e] at h; simp at h; rw [← h.1, e, h.2]
  · intro h
    exact ⟨a, by rw [List.getElem?_mapIdx, h]; simp⟩
theorem mono_P1 {ks : List β} (s : Sorted ks) : Mono (P1 ks) := by
  rintro ⟨a, x⟩ hp ⟨b, y⟩ hq
  exact sorted_lt s (mem_P1.mp hp) (mem_P1.mp hq)
theorem ranks_rel1 (h : Held β) : RH (P1 (known h)) (ranks h) h := by
  have : ∀ h' : Held β, (∀ x, some x ∈ h' → x ∈ known h) → RH (P1 (known h)) (h'.map (Option.map fun x => (known h).idxOf x)) h' := by
    intro h'
    induction h' with
    | nil => intro _; exact .nil
    | cons a l ih =>
      intro hm
      refine .cons ?_ (ih fun x hx => hm x (by simp [hx]))
      cases a with
      | none => trivial
      | some x => exact mem_P1.mpr (idx_get (hm x (by simp)))
  exact this h fun x hx => (mem_known h x).mpr hx
theorem many_ranks (h : Held β) : many (ranks h) = (known h).length := (known_rel (mono_P1 (known_sorted h)) (ranks_rel1 h)).len
theorem ranks_ranks (h : Held β) : ranks (ranks h) = ranks h := ranks_rel (mono_P1 (known_sorted h)) (ranks_rel1 h)
theorem ranks_shown (h : Held β) : ranks (shown (ranks h)) = ranks h := ranks_rel (mono_P0 (known_sorted h)) (shown_rel h)
/-- the spot of a value -/
theorem spot_of {ks : List β} (s : Sorted ks) (v : β) : ∃ p : Nat, p < 2 * ks.length + 1 ∧ Mono (((p : Int), v) :: P0 ks) := by
  have : ∀ {ks : List β}, Sorted ks → ∃ n, n ≤ ks.length ∧ (∀ i x, ks[i]? = some x → (i < n → x < v) ∧ (n < i → v < x)) ∧ ∀ x, ks[n]? = some x → ¬ x < v := by
    intro ks
    induction ks with
    | nil => intro _; exact ⟨0, by simp, by simp, by simp⟩
    | cons a l ih =>
      intro s
      rw [Sorted, List.pairwise_cons] at s
      by_cases h : a < v
      · obtain ⟨n, h1, h2, h3⟩ := ih s.2
        refine ⟨n + 1, by simp [h1], fun i x hx => ?_, fun x hx => h3 x (by simpa using hx)⟩
        cases i with
        | zero => simp at hx; subst hx; exact ⟨fun _ => h, fun k => by omega⟩
        | succ i =>
          have := h2 i x (by simpa using hx)
          exact ⟨fun k => this.1 (by omega), fun k => this.2 (by omega)⟩
      · refine ⟨0, by simp, fun i x hx => ⟨fun k => by omega, fun k => ?_⟩, fun x hx => by simp at hx; subst hx; exact h⟩
        cases i with
        | zero => omega
        | succ i =>
          have hx' : l[i]? = some x := by simpa using hx
          have ax := s.1 x (List.mem_of_getElem? hx')
          rcases LO.tri a v with q | q | q
          · exact absurd q h
          · rw [← q]; exact ax
          · exact LO.tr q ax
  obtain ⟨n, h1, h2, h3⟩ := this s
  by_cases hv : ks[n]? = some v
  · have hn := (List.getElem?_eq_some_iff.mp hv).1
    refine ⟨2 * n + 1, by omega, mono_cons (mono_P0 s) ?_⟩
    rintro ⟨a, x⟩ hp
    obtain ⟨i, hi, rfl⟩ := mem_P0.mp hp
    refine ⟨?_, ?_⟩
    · rw [← sorted_lt s hi hv]; simp only; omega
    · rw [← sorted_lt s hv hi]; simp only; omega
  · refine ⟨2 * n, by omega, mono_cons (mono_P0 s) ?_⟩
    rintro ⟨a, x⟩ hp
    obtain ⟨i, hi, rfl⟩ := mem_P0.mp hp
    obtain ⟨q1, q2⟩ := h2 i x hi
    rcases Nat.lt_trichotomy i n with k | k | k
    · have := q1 k
      exact ⟨⟨fun _ => this, fun _ => by simp only; omega⟩, ⟨fun z => by simp only at z; omega, fun z => absurd z (asym this)⟩⟩
    · subst k
      have nx := h3 x hi
      have nv : x ≠ v := fun e => hv (e ▸ hi)
      have this : v < x := by
        rcases LO.tri x v with q | q | q
        · exact absurd q nx
        · exact absurd q nv
        · exact q
      exact ⟨⟨fun z => by simp only at z; omega, fun z => absurd z nx⟩, ⟨fun _ => this, fun _ => by simp only; omega⟩⟩
    · have := q2 k
      exact ⟨⟨fun z => by simp only at z; omega, fun z => absurd z (asym this)⟩, ⟨fun _ => this, fun _ => by simp only; omega⟩⟩
end

/-! ### joint types -/
abbrev Joint := Nat × Nat × List (Option Nat)
section
variable {α : Type} [LT α] [DecidableLT α] [DecidableEq α]
def joint (c d : Con α) : Joint := (c.1, d.1, ranks (c.2 ++ d.2))
def jc1 (M : Machine) (J : Joint) : Con Int := (J.1, (shown J.2.2).take M.regs)
def jc2 (M : Machine) (J : Joint) : Con Int := (J.2.1, (shown J.2.2).drop M.regs)
def jr1 (M : Machine) (J : Joint) (t s : Nat) : Con Int × Ans Int := readM M (jc1 M J) t s
def jr2 (M N : Machine) (J : Joint) (t s : Nat) : Con Int × Ans Int := readM N (jc2 M J) t s
def after (M N : Machine) (J : Joint) (t s : Nat) : Joint := joint (jr1 M J t s).1 (jr2 M N J t s).1
/-- some path of spots parts -/
inductive PJ (M N : Machine) : Joint → Prop
  | now {J : Joint} (t s : Nat) : t < M.tags → s < 2 * many J.2.2 + 1 → (jr1 M J t s).2 ≠ (jr2 M N J t s).2 → PJ M N J
  | later {J : Joint} (t s : Nat) : t < M.tags → s < 2 * many J.2.2 + 1 → PJ M N (after M N J t s) → PJ M N J
/-- the same answers to every log -/
def Alike (M N : Machine) (c d : Con α) : Prop := ∀ log : List (Nat × α), (∀ e ∈ log, e.1 < M.tags) → run M c log = run N d log
/-- each case has one source for each register -/
def Machine.full (M : Machine) : Prop := ∀ st t k, k ∈ M.at_ st t → k.moves.length = M.regs
theorem read_len {M : Machine} (f : M.full) {c : Con α} (h : c.2.length = M.regs) (t : Nat) (v : α) : (readM M c t v).1.2.length = M.regs := by
  unfold readM
  split
  · exact h
  · rename_i k e
    show (k.moves.map _).length = _
    rw [List.length_map]
    exact f _ _ k (List.mem_of_find?_eq_some e)
theorem ranks_len (h : Held α) : (ranks h).length = h.length := by unfold ranks; rw [List.length_map]
variable [LO α] {M N : Machine}
/-- contents of a joint type: the order-keeping pairs -/
theorem joint_rel {c d : Con α} (hc : c.2.length = M.regs) : Mono (P0 (known (c.2 ++ d.2))) ∧ RC (P0 (known (c.2 ++ d.2))) (jc1 M (joint c d)) c ∧ RC (P0 (known (c.2 ++ d.2))) (jc2 M (joint c d)) d := by
  have r := shown_rel (c.2 ++ d.2)
  refine ⟨mono_P0 (known_sorted _), ⟨rfl, ?_⟩, ⟨rfl, ?_⟩⟩
  · have := r.take M.regs
    rw [← hc, List.take_left] at this
    rw [hc] at this
    exact this
  · have := r.drop M.regs
    rw [← hc, List.drop_left] at this
    rw [hc] at this
    exact this
theorem joint_congr {β : Type} [LT β] [DecidableLT β] [DecidableEq β] [LO β] {P : List (α × β)} (m : Mono P) {c d : Con α} {c' d' : Con β} (h1 : RC P c c') (h2 : RC P d d') : joint c d = joint c' d' := by
  unfold joint
  rw [h1.st, h2.st, ranks_rel m (h1.held.app h2.held)]
theorem npj_alike (hM : M.full) (hN : N.full) : ∀ {c d : Con α}, c.2.length = M.regs → d.2.length = N.regs → ¬ PJ M N (joint c d) → Alike M N c d := by
  intro c d hc hd hp log
  induction log generalizing c d with
  | nil => intro _; rfl
  | cons e l ih =>
    intro hl
    obtain ⟨t, v⟩ := e
    have ht : t < M.tags := hl (t, v) (by simp)
    obtain ⟨m, r1, r2⟩ := joint_rel (d := d) hc
    obtain ⟨s, hs, m2⟩ := spot_of (known_sorted (c.2 ++ d.2)) v
    have sub : ∀ p ∈ P0 (known (c.2 ++ d.2)), p ∈ ((s : Int), v) :: P0 (known (c.2 ++ d.2)) := fun p hp => by simp [hp]
    have q1 := read_rel m2 M (v := (s : Int)) (v' := v) (by simp) (r1.mono sub) t
    have q2 := read_rel m2 N (v := (s : Int)) (v' := v) (by simp) (r2.mono sub) t
    have hs' : s < 2 * many (joint c d).2.2 + 1 := by
      show s < 2 * many (ranks (c.2 ++ d.2)) + 1
      rw [many_ranks]; exact hs
    have e1 : (jr1 M (joint c d) t s).2 = (jr2 M N (joint c d) t s).2 := Classical.byContradiction fun z => hp (.now t s ht hs' z)
    have e2 : (readM M c t v).2 = (readM N d t v).2 := (RA.eq_iff m2 q1.2 q2.2).mp e1
    have ej : after M N (joint c d) t s = joint (readM M c t v).1 (readM N d t v).1 := joint_congr m2 q1.1 q2.1
    show _ :: _ = _ :: _
    rw [e2, ih (read_len hM hc t v) (read_len hN hd t v) (fun z => hp (.later t s ht hs' (by rw [ej]; exact z))) fun e he => hl e (by simp [he])]
theorem pj_parts [DO α] (hM : M.full) (hN : N.full) {J : Joint} (h : PJ M N J) : ∀ {c d : Con α}, c.2.length = M.regs → d.2.length = N.regs → joint c d = J → ¬ Alike M N c d := by
  induction h with
  | now t s ht hs hne =>
    intro c d hc hd e al
    subst e
    obtain ⟨m, r1, r2⟩ := joint_rel (d := d) hc
    obtain ⟨v, m2⟩ := extend m.flip (s : Int)
    have m3 : Mono (((s : Int), v) :: P0 (known (c.2 ++ d.2))) := by
      intro p hp q hq
      have := m2 (p.2, p.1) ((List.mem_cons.mp hp).elim (fun e => by rw [e]; simp) fun hp => List.mem_cons_of_mem _ (flip_mem.mpr hp)) (q.2, q.1) ((List.mem_cons.mp hq).elim (fun e => by rw [e]; simp) fun hq => List.mem_cons_of_mem _ (flip_mem.mpr hq))
      exact this.symm
    have sub : ∀ p ∈ P0 (known (c.2 ++ d.2)), p ∈ ((s : Int), v) :: P0 (known (c.2 ++ d.2)) := fun p hp => by simp [hp]
    have q1 := read_rel m3 M (v := (s : Int)) (v' := v) (by simp) (r1.mono sub) t
    have q2 := read_rel m3 N (v := (s : Int)) (v' := v) (by simp) (r2.mono sub) t
    have := al [(t, v)] (by simpa using ht)
    simp only [run, List.cons.injEq, and_true] at this
    exact hne ((RA.eq_iff m3 q1.2 q2.2).mpr this)
  | later t s ht hs _ ih =>
    intro c d hc hd e al
    subst e
    obtain ⟨m, r1, r2⟩ := joint_rel (d := d) hc
    obtain ⟨v, m2⟩ := extend m.flip (s : Int)
    have m3 : Mono (((s : Int), v) :: P0 (known (c.2 ++ d.2))) := by
      intro p hp q hq
      have := m2 (p.2, p.1) ((List.mem_cons.mp hp).elim (fun e => by rw [e]; simp) fun hp => List.mem_cons_of_mem _ (flip_mem.mpr hp)) (q.2, q.1) ((List.mem_cons.mp hq).elim (fun e => by rw [e]; simp) fun hq => List.mem_cons_of_mem _ (flip_mem.mpr hq))
      exact this.symm
    have sub : ∀ p ∈ P0 (known (c.2 ++ d.2)), p ∈ ((s : Int), v) :: P0 (known (c.2 ++ d.2)) := fun p hp => by simp [hp]
    have q1 := read_rel m3 M (v := (s : Int)) (v' := v) (by simp) (r1.mono sub) t
    have q2 := read_rel m3 N (v := (s : Int)) (v' := v) (by simp) (r2.mono sub) t
    refine ih (read_len hM hc t v) (read_len hN hd t v) (joint_congr m3 q1.1 q2.1).symm fun log hl => ?_
    have := al ((t, v) :: log) (fun e he => (List.mem_cons.mp he).elim (fun e' => by rw [e']; exact ht) fun he => hl e he)
    simp only [run, List.cons.injEq] at this
    exact this.2
theorem alike_iff [DO α] (hM : M.full) (hN : N.full) {c d : Con α} (hc : c.2.length = M.regs) (hd : d.2.length = N.regs) : Alike M N c d ↔ ¬ PJ M N (joint c d) :=
  ⟨fun h p => pj_parts hM hN p hc hd rfl h, npj_alike hM hN hc hd⟩
/-- alikeness hangs on the joint type alone -/
theorem transfer {β : Type} [LT β] [DecidableLT β] [DecidableEq β] [LO β] [DO α] {P : List (α × β)} (hM : M.full) (hN : N.full) (m : Mono P) {c d : Con α} {c' d' : Con β} (h1 : RC P c c') (h2 : RC P d d') (hc : c.2.length = M.regs) (hd : d.2.length = N.regs)
    (h : Alike M N c d) : Alike M N c' d' :=
  npj_alike hM hN (h1.held.len ▸ hc) (h2.held.len ▸ hd) (by rw [← joint_congr m h1 h2]; exact (alike_iff hM hN hc hd).mp h)
end
end TH
-- text Th3
set_option linter.all false
set_option maxHeartbeats 1000000
/-! Needed values; kinds. -/
namespace TH
abbrev Ty := Nat × List (Option Nat)
section
variable {α β : Type} [LT α] [DecidableLT α] [DecidableEq α] [LT β] [DecidableLT β] [DecidableEq β] [LO α] [LO β]
def fill (rk : List (Option Nat)) (vs : List α) : Held α := rk.map fun o => o.bind fun r => vs[r]?
theorem fill_len (rk : List (Option Nat)) (vs : List α) : (fill rk vs).length = rk.length := by unfold fill; rw [List.length_map]
theorem fill_ranks (h : Held α) : fill (ranks h) (known h) = h := by
  unfold fill ranks
  rw [List.map_map]
  have : ∀ o ∈ h, ((fun o : Option Nat => o.bind fun r => (known h)[r]?) ∘ Option.map fun x => (known h).idxOf x) o = o := by
    intro o ho
    cases o with
    | none => rfl
    | some x => show (known h)[(known h).idxOf x]? = some x; exact idx_get ((mem_known h x).mpr ho)
  rw [List.map_congr_left this]
  simp
/-- all ranks below their number are there -/
def Proper (rk : List (Option Nat)) : Prop := ranks rk = rk
theorem Proper.known {rk : List (Option Nat)} (p : Proper rk) : known rk = List.range (many rk) := by
  apply List.ext_getElem?
  intro i
  by_cases hi : i < (TH.known rk).length
  · rw [List.getElem?_eq_getElem hi, List.getElem?_range (by exact hi)]
    have hm : (TH.known rk)[i] ∈ TH.known rk := List.getElem_mem hi
    have h1 : some (TH.known rk)[i] ∈ rk := (mem_known rk _).mp hm
    have h2 : (TH.known rk).idxOf (TH.known rk)[i] = i := by
      have nd : (TH.known rk).Nodup := (known_sorted rk).imp fun h => Nat.ne_of_lt h
      exact List.Nodup.idxOf_getElem nd i hi
    obtain ⟨j, hj⟩ := List.mem_iff_getElem?.mp h1
    have h3 : (ranks rk)[j]? = rk[j]? := by rw [p]
    unfold ranks at h3
    rw [List.getElem?_map, hj] at h3
    simp only [Option.map_some, Option.some.injEq] at h3
    rw [h2] at h3
    rw [← h3]
  · rw [List.getElem?_eq_none (by omega), List.getElem?_eq_none (by simp [many]; omega)]
theorem ranks_proper (h : Held α) : Proper (ranks h) := ranks_ranks h
theorem Proper.lt {rk : List (Option Nat)} (p : Proper rk) {r : Nat} (h : some r ∈ rk) : r < many rk := by
  have := (mem_known rk r).mpr h
  rw [p.known, List.mem_range] at this
  exact this
theorem Proper.mem {rk : List (Option Nat)} (p : Proper rk) {r : Nat} (h : r < many rk) : some r ∈ rk := by
  rw [← mem_known, p.known, List.mem_range]; exact h
theorem fill_rel1 {rk : List (Option Nat)} (p : Proper rk) {vs : List β} (hl : vs.length = many rk) : RH (P1 vs) rk (fill rk vs) := by
  have : ∀ l : List (Option Nat), (∀ r, some r ∈ l → r < many rk) → RH (P1 vs) l (fill l vs) := by
    intro l
    induction l with
    | nil => intro _; exact All2.nil
    | cons o l ih =>
      intro h
      refine All2.cons ?_ (ih fun r hr => h r (by simp [hr]))
      cases o with
      | none => trivial
      | some r =>
        have hr : r < vs.length := by rw [hl]; exact h r (by simp)
        show RO _ (some r) (vs[r]?)
        rw [List.getElem?_eq_getElem hr]
        exact mem_P1.mpr (List.getElem?_eq_getElem hr)
  exact this rk fun r hr => p.lt hr
theorem ranks_fill {rk : List (Option Nat)} (p : Proper rk) {vs : List β} (s : Sorted vs) (hl : vs.length = many rk) : ranks (fill rk vs) = rk := by
  rw [← ranks_rel (mono_P1 s) (fill_rel1 p hl)]; exact p
theorem known_fill {rk : List (Option Nat)} (p : Proper rk) {vs : List β} (s : Sorted vs) (hl : vs.length = many rk) : known (fill rk vs) = vs := by
  have k := known_rel (mono_P1 s) (fill_rel1 p hl)
  rw [p.known] at k
  apply List.ext_getElem?
  intro i
  by_cases hi : i < many rk
  · obtain ⟨b, hb, hp⟩ := k.get (i := i) (a := i) (by rw [List.getElem?_range hi])
    rw [hb, mem_P1.mp hp]
  · have := k.len
    rw [List.length_range] at this
    rw [List.getElem?_eq_none (by omega), List.getElem?_eq_none (by omega)]
theorem fill_rel {P : List (α × β)} {vs : List α} {us : List β} (r : R1 P vs us) (rk : List (Option Nat)) : RH P (fill rk vs) (fill rk us) := by
  refine All2.map2 _ _ _ fun o _ => ?_
  cases o with
  | none => trivial
  | some j =>
    show RO P vs[j]? us[j]?
    cases e : vs[j]? with
    | none =>
      have : us[j]? = none := by rw [List.getElem?_eq_none_iff] at e ⊢; rw [← r.len]; exact e
      rw [this]; trivial
    | some a => obtain ⟨b, hb, hp⟩ := r.get e; rw [hb]; exact hp
theorem R1.sorted {P : List (α × β)} (m : Mono P) {vs : List α} {us : List β} (r : R1 P vs us) (s : Sorted vs) : Sorted us := by
  rw [Sorted, List.pairwise_iff_getElem]
  intro i j hi hj h
  have hl := r.len
  obtain ⟨b, hb, hp⟩ := r.get (i := i) (a := vs[i]'(by omega)) (List.getElem?_eq_getElem (by omega))
  obtain ⟨c, hc, hq⟩ := r.get (i := j) (a := vs[j]'(by omega)) (List.getElem?_eq_getElem (by omega))
  rw [List.getElem?_eq_getElem hi] at hb
  rw [List.getElem?_eq_getElem hj] at hc
  cases hb; cases hc
  exact (m _ hp _ hq).mp (List.pairwise_iff_getElem.mp s i j (by omega) (by omega) h)
theorem R1.sorted' {P : List (α × β)} (m : Mono P) {vs : List α} {us : List β} (r : R1 P vs us) (s : Sorted us) : Sorted vs := by
  rw [Sorted, List.pairwise_iff_getElem]
  intro i j hi hj h
  have hl := r.len
  obtain ⟨b, hb, hp⟩ := r.get (i := i) (a := vs[i]'(by omega)) (List.getElem?_eq_getElem (by omega))
  obtain ⟨c, hc, hq⟩ := r.get (i := j) (a := vs[j]'(by omega)) (List.getElem?_eq_getElem (by omega))
  have h1 := (List.getElem?_eq_some_iff.mp hb).2
  have h2 := (List.getElem?_eq_some_iff.mp hc).2
  refine (m _ hp _ hq).mpr ?_
  show b < c
  rw [← h1, ← h2]
  exact List.pairwise_iff_getElem.mp s i j (by omega) (by omega) h
end

/-! ### needed ranks -/
def evens (m : Nat) : List Int := (List.range m).map fun (i : Nat) => 2 * (i : Int)
theorem evens_get {m j : Nat} (h : j < m) : (evens m)[j]? = some (2 * (j : Int)) := by unfold evens; rw [List.getElem?_map, List.getElem?_range h]; rfl
theorem evens_len (m : Nat) : (evens m).length = m := by simp [evens]
def need1 (M : Machine) (τ : Ty) (j : Nat) : Prop := PJ M M (joint (τ.1, fill τ.2 (evens (many τ.2))) (τ.1, fill τ.2 ((evens (many τ.2)).set j (2 * (j : Int) + 1))))
open Classical in
noncomputable def needs (M : Machine) (τ : Ty) : List Nat := (List.range (many τ.2)).filter fun j => decide (need1 M τ j)
theorem mem_needs {M : Machine} {τ : Ty} {j : Nat} : j ∈ needs M τ ↔ j < many τ.2 ∧ need1 M τ j := by unfold needs; simp
theorem needs_sorted (M : Machine) (τ : Ty) : Sorted (needs M τ) := List.Pairwise.filter _ List.pairwise_lt_range
structure TyOk (M : Machine) (τ : Ty) : Prop where
  len : τ.2.length = M.regs
  prop : Proper τ.2
/-- contents of a type with these values -/
abbrev con {α : Type} (τ : Ty) (vs : List α) : Con α := (τ.1, fill τ.2 vs)
structure VsOk (τ : Ty) (vs : List Rat) : Prop where
  srt : Sorted vs
  len : vs.length = many τ.2
variable {M N L : Machine} {τ σ υ : Ty} {vs us ws : List Rat}
theorem con_len (o : TyOk M τ) : (con τ vs).2.length = M.regs := (fill_len _ _).trans o.len
theorem Alike.symm {α : Type} [LT α] [DecidableLT α] [DecidableEq α] {c d : Con α} (ht : M.tags = N.tags) (h : Alike M N c d) : Alike N M d c := fun log hl => (h log (by rw [ht]; exact hl)).symm
theorem Alike.trans {α : Type} [LT α] [DecidableLT α] [DecidableEq α] {c d e : Con α} (ht : M.tags = N.tags) (h : Alike M N c d) (k : Alike N L d e) : Alike M L c e := fun log hl => (h log hl).trans (k log (by rw [← ht]; exact hl))
theorem Alike.refl {α : Type} [LT α] [DecidableLT α] [DecidableEq α] (c : Con α) : Alike M M c c := fun log _ => rfl
/-- moved up a little -/
theorem need_iff (f : M.full) (o : TyOk M τ) (v : VsOk τ vs) {j : Nat} {x x' : Rat} (hx : vs[j]? = some x) (h : x < x') (hu : ∀ (i : Nat) (y : Rat), vs[i]? = some y → x < y → x' < y) : need1 M τ j ↔ ¬ Alike M M (con τ vs) (con τ (vs.set j x')) := by
  have hj : j < many τ.2 := by rw [← v.len]; exact (List.getElem?_eq_some_iff.mp hx).1
  rw [alike_iff f f (con_len o) (con_len o), Classical.not_not]
  have key : joint (con τ (evens (many τ.2))) (con τ ((evens (many τ.2)).set j (2 * (j : Int) + 1))) = joint (con τ vs) (con τ (vs.set j x')) := by
    have m0 : Mono ((evens (many τ.2)).zip vs) := by
      rintro ⟨a, y⟩ hp ⟨b, z⟩ hq
      obtain ⟨i, hi⟩ := List.mem_iff_getElem?.mp hp
      obtain ⟨k, hk⟩ := List.mem_iff_getElem?.mp hq
      rw [List.getElem?_zip_eq_some] at hi hk
      have hi1 : i < many τ.2 := by rw [← v.len]; exact (List.getElem?_eq_some_iff.mp hi.2).1
      have hk1 : k < many τ.2 := by rw [← v.len]; exact (List.getElem?_eq_some_iff.mp hk.2).1
      rw [evens_get hi1] at hi
      rw [evens_get hk1] at hk
      have e1 : 2 * (i : Int) = a := by simpa using hi.1
      have e2 : 2 * (k : Int) = b := by simpa using hk.1
      show a < b ↔ y < z
      rw [← sorted_lt v.srt hi.2 hk.2]; omega
    have m1 : Mono ((2 * (j : Int) + 1, x') :: (evens (many τ.2)).zip vs) := by
      refine mono_cons m0 ?_
      rintro ⟨a, y⟩ hp
      obtain ⟨i, hi⟩ := List.mem_iff_getElem?.mp hp
      rw [List.getElem?_zip_eq_some] at hi
      have hi1 : i < many τ.2 := by rw [← v.len]; exact (List.getElem?_eq_some_iff.mp hi.2).1
      rw [evens_get hi1] at hi
      have e1 : 2 * (i : Int) = a := by simpa using hi.1
      have k1 := sorted_lt v.srt hi.2 hx
      have k2 := sorted_lt v.srt hx hi.2
      simp only
      rcases Nat.lt_trichotomy i j with q | q | q
      · have := k1.mp q
        exact ⟨⟨fun _ => by grind, fun _ => by omega⟩, ⟨fun z => by omega, fun z => by exfalso; grind⟩⟩
      · subst q
        have : y = x := by have := hi.2; rw [hx] at this; exact (Option.some.inj this).symm
        exact ⟨⟨fun _ => by grind, fun _ => by omega⟩, ⟨fun z => by omega, fun z => by exfalso; grind⟩⟩
      · have := hu i y hi.2 (k2.mp q)
        exact ⟨⟨fun z => by omega, fun z => by exfalso; grind⟩, ⟨fun _ => this, fun _ => by omega⟩⟩
    have rz : ∀ {l : List Int} {l' : List Rat}, l.length = l'.length → All2 (fun a b => (a, b) ∈ l.zip l') l l' := by
      intro l
      induction l with
      | nil => intro l' h; cases l' with
        | nil => exact .nil
        | cons _ _ => cases h
      | cons a l ih => intro l' h; cases l' with
        | nil => cases h
        | cons b l' => exact .cons (by simp) ((ih (by simpa using h)).mono fun a b h => by simp [h])
    have r0 : R1 ((2 * (j : Int) + 1, x') :: (evens (many τ.2)).zip vs) (evens (many τ.2)) vs := (rz (by rw [evens_len, v.len])).mono fun a b h => List.mem_cons_of_mem _ h
    have rs : R1 ((2 * (j : Int) + 1, x') :: (evens (many τ.2)).zip vs) ((evens (many τ.2)).set j (2 * (j : Int) + 1)) (vs.set j x') := by
      have : ∀ {l : List Int} {l' : List Rat} {Q : List (Int × Rat)} {a : Int} {b : Rat} (n : Nat), All2 (fun a b => (a, b) ∈ Q) l l' → (a, b) ∈ Q → All2 (fun a b => (a, b) ∈ Q) (l.set n a) (l'.set n b) := by
        intro l l' Q a b n h hq
        induction h generalizing n with
        | nil => exact .nil
        | cons r t ih => cases n with
          | zero => exact .cons hq t
          | succ n => exact .cons r (ih n)
      exact this j r0 (by simp)
    exact joint_congr m1 ⟨rfl, fill_rel r0 _⟩ ⟨rfl, fill_rel rs _⟩
  unfold need1
  rw [show joint (τ.1, fill τ.2 (evens (many τ.2))) (τ.1, fill τ.2 ((evens (many τ.2)).set j (2 * (j : Int) + 1))) = _ from key]
end TH
-- text Th4
set_option linter.all false
set_option maxHeartbeats 1000000
/-! What a machine does hangs on the type and the needed values; steps need no others. -/
namespace TH
variable {M N L : Machine} {τ σ υ : Ty} {vs us ws : List Rat}
theorem hyb_get {k i : Nat} (hl : vs.length = us.length) : (vs.take k ++ us.drop k)[i]? = if i < k then vs[i]? else us[i]? := by
  rw [List.getElem?_append, List.length_take]
  split
  · rename_i h
    rw [List.getElem?_take]
    have : i < k := by omega
    rw [if_pos this, if_pos this]
  · rename_i h
    rw [List.getElem?_drop]
    by_cases hk : i < k
    · rw [if_pos hk]
      rw [List.getElem?_eq_none (by omega), List.getElem?_eq_none (by omega)]
    · rw [if_neg hk]
      by_cases h2 : k ≤ vs.length
      · congr 1; omega
      · rw [List.getElem?_eq_none (by omega), List.getElem?_eq_none (by omega)]
theorem sorted_of {l : List Rat} (h : ∀ (i j : Nat) (x y : Rat), l[i]? = some x → l[j]? = some y → i < j → x < y) : Sorted l := by
  rw [Sorted, List.pairwise_iff_getElem]
  intro i j hi hj hij
  exact h i j _ _ (List.getElem?_eq_getElem hi) (List.getElem?_eq_getElem hj) hij
theorem sorted_get {l : List Rat} (s : Sorted l) {i j : Nat} {x y : Rat} (hx : l[i]? = some x) (hy : l[j]? = some y) (h : i < j) : x < y := (sorted_lt s hx hy).mp h
theorem get_lt {l : List Rat} {i : Nat} (h : i < l.length) : ∃ x, l[i]? = some x := ⟨l[i], List.getElem?_eq_getElem h⟩
theorem alike_up (f : M.full) (o : TyOk M τ) (v : VsOk τ vs) (u : VsOk τ us) (le : ∀ (i : Nat) (x y : Rat), vs[i]? = some x → us[i]? = some y → x ≤ y) (eq : ∀ j ∈ needs M τ, vs[j]? = us[j]?) : Alike M M (con τ vs) (con τ us) := by
  have hl : vs.length = us.length := v.len.trans u.len.symm
  have ok : ∀ k, VsOk τ (vs.take k ++ us.drop k) := by
    intro k
    refine ⟨sorted_of fun i j x y hx hy h => ?_, ?_⟩
    · rw [hyb_get hl] at hx hy
      split at hx <;> split at hy
      · exact sorted_get v.srt hx hy h
      · obtain ⟨z, hz⟩ := get_lt (l := vs) (i := j) (by rw [hl]; exact (List.getElem?_eq_some_iff.mp hy).1)
        have h1 := sorted_get v.srt hx hz h
        have h2 := le j z y hz hy
        grind
      · omega
      · exact sorted_get u.srt hx hy h
    · rw [List.length_append, List.length_take, List.length_drop, ← v.len]; omega
  have step : ∀ k, k ≤ vs.length → Alike M M (con τ (vs.take k ++ us.drop k)) (con τ us) := by
    intro k
    induction k with
    | zero => intro _; rw [List.take_zero, List.drop_zero, List.nil_append]; exact Alike.refl _
    | succ k ih =>
      intro hk
      obtain ⟨x, hx⟩ := get_lt (l := vs) (i := k) (by omega)
      obtain ⟨x', hx'⟩ := get_lt (l := us) (i := k) (by omega)
      have hxx := le k x x' hx hx'
      have e : (vs.take (k + 1) ++ us.drop (k + 1)).set k x' = vs.take k ++ us.drop k := by
        apply List.ext_getElem?
        intro i
        by_cases hi : k = i
        · subst hi
          rw [List.getElem?_set_self (by rw [List.length_append, List.length_take, List.length_drop]; omega), hyb_get hl, if_neg (by omega), hx']
        · rw [List.getElem?_set_ne hi, hyb_get hl, hyb_get hl]
          by_cases h2 : i < k
          · rw [if_pos (by omega), if_pos h2]
          · rw [if_neg (by omega), if_neg h2]
      have hk0 : (vs.take (k + 1) ++ us.drop (k + 1))[k]? = some x := by rw [hyb_get hl, if_pos (by omega), hx]
      by_cases q : x = x'
      · subst q
        have : vs.take (k + 1) ++ us.drop (k + 1) = vs.take k ++ us.drop k := by
          rw [← e]
          apply List.ext_getElem?
          intro i
          by_cases hi : k = i
          · subst hi; rw [List.getElem?_set_self (List.getElem?_eq_some_iff.mp hk0).1, hk0]
          · rw [List.getElem?_set_ne hi]
        rw [this]; exact ih (by omega)
      · have lt : x < x' := by grind
        have nn : ¬ need1 M τ k := fun z => by
          have : k ∈ needs M τ := mem_needs.mpr ⟨by rw [← v.len]; omega, z⟩
          have := eq k this
          rw [hx, hx'] at this
          exact q (Option.some.inj this)
        have hn := need_iff f o (ok (k + 1)) hk0 lt (fun i y hy hxy => by
          rw [hyb_get hl] at hy
          split at hy
          · exfalso
            have : ¬ k < i := by omega
            rcases Nat.lt_or_ge i k with h | h
            · have := sorted_get v.srt hy hx h; grind
            · have : i = k := by omega
              subst this; rw [hx] at hy; cases hy; grind
          · exact sorted_get u.srt hx' hy (by omega))
        rw [e] at hn
        have : Alike M M (con τ (vs.take (k + 1) ++ us.drop (k + 1))) (con τ (vs.take k ++ us.drop k)) := Classical.byContradiction fun z => nn (hn.mpr z)
        exact this.trans rfl (ih (by omega))
  have := step vs.length (Nat.le_refl _)
  rw [List.take_length, List.drop_eq_nil_of_le (by omega), List.append_nil] at this
  exact this
/-- the needed values are enough -/
theorem alike_same (f : M.full) (o : TyOk M τ) (v : VsOk τ vs) (u : VsOk τ us) (eq : ∀ j ∈ needs M τ, vs[j]? = us[j]?) : Alike M M (con τ vs) (con τ us) := by
  have hl : vs.length = us.length := v.len.trans u.len.symm
  have g : ∀ (i : Nat) (z : Rat), (List.zipWith (fun a b : Rat => if a < b then a else b) vs us)[i]? = some z → ∃ x y, vs[i]? = some x ∧ us[i]? = some y ∧ z = (if x < y then x else y) := by
    intro i z h
    rw [List.getElem?_zipWith] at h
    cases h1 : vs[i]? <;> cases h2 : us[i]? <;> rw [h1, h2] at h <;> simp at h
    exact ⟨_, _, rfl, rfl, h.symm⟩
  have w : VsOk τ (List.zipWith (fun a b : Rat => if a < b then a else b) vs us) := by
    refine ⟨sorted_of fun i j x y hx hy h => ?_, by rw [List.length_zipWith, v.len, u.len]; simp⟩
    obtain ⟨a, b, ha, hb, rfl⟩ := g i x hx
    obtain ⟨c, d, hc, hd, rfl⟩ := g j y hy
    have h1 := sorted_get v.srt ha hc h
    have h2 := sorted_get u.srt hb hd h
    split <;> split <;> grind
  have e1 : ∀ j ∈ needs M τ, (List.zipWith (fun a b : Rat => if a < b then a else b) vs us)[j]? = vs[j]? := fun j hj => by
    have := eq j hj
    rw [List.getElem?_zipWith, ← this]
    cases vs[j]? <;> simp
  have a1 := alike_up f o w v (fun i x y hx hy => by obtain ⟨a, b, ha, hb, rfl⟩ := g i x hx; rw [ha] at hy; cases hy; split <;> grind) e1
  have a2 := alike_up f o w u (fun i x y hx hy => by obtain ⟨a, b, ha, hb, rfl⟩ := g i x hx; rw [hb] at hy; cases hy; split <;> grind) (fun j hj => (e1 j hj).trans (eq j hj))
  exact (a1.symm rfl).trans rfl a2

/-! ### one value moved -/
theorem upnear (x : Rat) (l : List Rat) : ∃ x', x < x' ∧ ∀ y ∈ l, x < y → x' < y := by
  obtain ⟨v, h1, h2⟩ := between [x] (l.filter fun y => decide (x < y)) (fun a ha u hu => by
    simp only [List.mem_singleton] at ha
    simp only [List.mem_filter, decide_eq_true_eq] at hu
    rw [ha]; exact hu.2)
  exact ⟨v, h1 x (by simp), fun y hy h => h2 y (List.mem_filter.mpr ⟨hy, by simpa using h⟩)⟩
def mvP (x x' : Rat) (l : List Rat) : List (Rat × Rat) := (x, x') :: (l.filter fun y => decide (y ≠ x)).map fun y => (y, y)
theorem mem_mvP {x x' y z : Rat} {l : List Rat} : (y, z) ∈ mvP x x' l ↔ (y = x ∧ z = x') ∨ (y ∈ l ∧ y ≠ x ∧ z = y) := by
  unfold mvP
  simp only [List.mem_cons, Prod.mk.injEq, List.mem_map, List.mem_filter, decide_eq_true_eq]
  constructor
  · rintro (⟨a, b⟩ | ⟨a, ⟨h1, h2⟩, h3, h4⟩)
    · exact .inl ⟨a, b⟩
    · subst h3; exact .inr ⟨h1, h2, h4.symm⟩
  · rintro (⟨a, b⟩ | ⟨h1, h2, h3⟩)
    · exact .inl ⟨a, b⟩
    · exact .inr ⟨y, ⟨h1, h2⟩, rfl, h3.symm⟩
theorem mono_mvP {x x' : Rat} {l : List Rat} (h : x < x') (hu : ∀ y ∈ l, x < y → x' < y) : Mono (mvP x x' l) := by
  rintro ⟨a, b⟩ hp ⟨c, d⟩ hq
  rcases mem_mvP.mp hp with ⟨rfl, rfl⟩ | ⟨h1, h2, rfl⟩ <;> rcases mem_mvP.mp hq with ⟨rfl, rfl⟩ | ⟨h3, h4, rfl⟩
  · simp only; grind
  · simp only
    have := hu _ h3
    grind
  · simp only
    have := hu _ h1
    grind
  · simp only
theorem r1_mv {x x' : Rat} {l : List Rat} (s : Sorted vs) {j : Nat} (hx : vs[j]? = some x) (hs : ∀ y ∈ vs, y ∈ l) : R1 (mvP x x' l) vs (vs.set j x') := by
  have : ∀ (us : List Rat) (n : Nat), (∀ y ∈ us, y ∈ l) → (∀ (i : Nat) y, us[i]? = some y → (y = x ↔ i = n)) → R1 (mvP x x' l) us (us.set n x') := by
    intro us
    induction us with
    | nil => intro n _ _; exact .nil
    | cons a us ih =>
      intro n h1 h2
      cases n with
      | zero =>
        have ha : a = x := (h2 0 a rfl).mpr rfl
        refine .cons (mem_mvP.mpr (.inl ⟨ha, rfl⟩)) ?_
        have : ∀ (zs : List Rat), (∀ y ∈ zs, y ∈ l ∧ y ≠ x) → All2 (fun a b => (a, b) ∈ mvP x x' l) zs zs := by
          intro zs
          induction zs with
          | nil => intro _; exact .nil
          | cons z zs ih => intro h; exact .cons (mem_mvP.mpr (.inr ⟨(h z (by simp)).1, (h z (by simp)).2, rfl⟩)) (ih fun y hy => h y (by simp [hy]))
        refine this us fun y hy => ⟨h1 y (by simp [hy]), fun e => ?_⟩
        obtain ⟨i, hi⟩ := List.mem_iff_getElem?.mp hy
        have := (h2 (i + 1) y (by simpa using hi)).mp e
        omega
      | succ n =>
        have ha : a ≠ x := fun e => by have := (h2 0 a rfl).mp e; omega
        exact .cons (mem_mvP.mpr (.inr ⟨h1 a (by simp), ha, rfl⟩)) (ih n (fun y hy => h1 y (by simp [hy])) fun i y hy => by have := h2 (i + 1) y (by simpa using hy); rw [this]; omega)
  refine this vs j hs fun i y hy => ⟨fun e => ?_, fun e => ?_⟩
  · subst e
    rcases Nat.lt_trichotomy i j with q | q | q
    · have := sorted_get s hy hx q; grind
    · exact q
    · have := sorted_get s hx hy q; grind
  · subst e; rw [hx] at hy; cases hy; rfl
theorem r1_id {x x' : Rat} {l : List Rat} (hs : ∀ y ∈ us, y ∈ l) (hn : x ∉ us) : R1 (mvP x x' l) us us := by
  have : ∀ (zs : List Rat), (∀ y ∈ zs, y ∈ l ∧ y ≠ x) → All2 (fun a b => (a, b) ∈ mvP x x' l) zs zs := by
    intro zs
    induction zs with
    | nil => intro _; exact .nil
    | cons z zs ih => intro h; exact .cons (mem_mvP.mpr (.inr ⟨(h z (by simp)).1, (h z (by simp)).2, rfl⟩)) (ih fun y hy => h y (by simp [hy]))
  exact this us fun y hy => ⟨hs y hy, fun e => hn (e ▸ hy)⟩

/-! ### needed values -/
noncomputable def nv (M : Machine) (τ : Ty) (vs : List Rat) : List Rat := (needs M τ).filterMap fun j => vs[j]?
theorem mem_nv {x : Rat} : x ∈ nv M τ vs ↔ ∃ j ∈ needs M τ, vs[j]? = some x := by unfold nv; simp
theorem nv_sorted (v : Sorted vs) : Sorted (nv M τ vs) := by
  unfold nv
  refine List.pairwise_filterMap.mpr ((needs_sorted M τ).imp fun {a b} h x hx y hy => ?_)
  exact sorted_get v hx hy h
theorem nv_len (o : VsOk τ vs) : (nv M τ vs).length = (needs M τ).length := by
  unfold nv
  have : ∀ l : List Nat, (∀ j ∈ l, j < many τ.2) → (l.filterMap fun j => vs[j]?).length = l.length := by
    intro l
    induction l with
    | nil => intro _; rfl
    | cons a l ih =>
      intro h
      obtain ⟨x, hx⟩ := get_lt (l := vs) (i := a) (by rw [o.len]; exact h a (by simp))
      rw [List.filterMap_cons, hx]
      simp [ih fun j hj => h j (by simp [hj])]
  exact this _ fun j hj => (mem_needs.mp hj).1
theorem nv_get (o : VsOk τ vs) {i j : Nat} (h : (needs M τ)[i]? = some j) : (nv M τ vs)[i]? = vs[j]? := by
  unfold nv
  have : ∀ (l : List Nat) (i : Nat), (∀ j ∈ l, j < many τ.2) → l[i]? = some j → (l.filterMap fun j => vs[j]?)[i]? = vs[j]? := by
    intro l
    induction l with
    | nil => intro i _ h; simp at h
    | cons a l ih =>
      intro i h hi
      obtain ⟨x, hx⟩ := get_lt (l := vs) (i := a) (by rw [o.len]; exact h a (by simp))
      rw [List.filterMap_cons, hx]
      cases i with
      | zero => simp at hi; subst hi; rw [hx]; rfl
      | succ i => simpa using ih i (fun j hj => h j (by simp [hj])) (by simpa using hi)
  exact this _ i (fun j hj => (mem_needs.mp hj).1) h
theorem nv_sub {x : Rat} (h : x ∈ nv M τ vs) : x ∈ vs := by
  obtain ⟨j, _, e⟩ := mem_nv.mp h
  exact List.mem_of_getElem? e
theorem vs_set (o : VsOk τ vs) {j : Nat} {x x' : Rat} (hx : vs[j]? = some x) (h : x < x') (hu : ∀ y ∈ vs, x < y → x' < y) : VsOk τ (vs.set j x') :=
  ⟨R1.sorted (mono_mvP (l := vs) h hu) (r1_mv o.srt hx fun y hy => hy) o.srt, by rw [List.length_set]; exact o.len⟩
theorem needs_same1 (fM : M.full) (fN : N.full) (ht : M.tags = N.tags) (o : TyOk M τ) (p : TyOk N σ) (v : VsOk τ vs) (u : VsOk σ us) (al : Alike M N (con τ vs) (con σ us)) {x : Rat} (h : x ∈ nv M τ vs) : x ∈ nv N σ us := by
  obtain ⟨j, hj, hx⟩ := mem_nv.mp h
  obtain ⟨x', h1, h2⟩ := upnear x (vs ++ us)
  have hv : ∀ y ∈ vs, x < y → x' < y := fun y hy => h2 y (by simp [hy])
  have huu : ∀ y ∈ us, x < y → x' < y := fun y hy => h2 y (by simp [hy])
  have m := mono_mvP h1 h2
  have rv : R1 (mvP x x' (vs ++ us)) vs (vs.set j x') := r1_mv v.srt hx fun y hy => by simp [hy]
  have nal : ¬ Alike M M (con τ vs) (con τ (vs.set j x')) := (need_iff fM o v hx h1 fun i y hy => hv y (List.mem_of_getElem? hy)).mp (mem_needs.mp hj).2
  refine Classical.byContradiction fun hn => nal ?_
  by_cases hm : x ∈ us
  · obtain ⟨k, hk⟩ := List.mem_iff_getElem?.mp hm
    have ru : R1 (mvP x x' (vs ++ us)) us (us.set k x') := r1_mv u.srt hk fun y hy => by simp [hy]
    have al2 : Alike M N (con τ (vs.set j x')) (con σ (us.set k x')) := transfer (c := con τ vs) (d := con σ us) fM fN m ⟨rfl, fill_rel rv _⟩ ⟨rfl, fill_rel ru _⟩ (con_len o) (con_len p) al
    have hk2 : ¬ need1 N σ k := fun z => hn (mem_nv.mpr ⟨k, mem_needs.mpr ⟨by rw [← u.len]; exact (List.getElem?_eq_some_iff.mp hk).1, z⟩, hk⟩)
    have al3 : Alike N N (con σ us) (con σ (us.set k x')) := Classical.byContradiction fun z => hk2 ((need_iff fN p u hk h1 fun i y hy => huu y (List.mem_of_getElem? hy)).mpr z)
    exact (al.trans ht al3).trans ht (al2.symm ht)
  · have ru : R1 (mvP x x' (vs ++ us)) us us := r1_id (fun y hy => by simp [hy]) hm
    have al2 : Alike M N (con τ (vs.set j x')) (con σ us) := transfer (c := con τ vs) (d := con σ us) fM fN m ⟨rfl, fill_rel rv _⟩ ⟨rfl, fill_rel ru _⟩ (con_len o) (con_len p) al
    exact al.trans ht (al2.symm ht)
theorem needs_same (fM : M.full) (fN : N.full) (ht : M.tags = N.tags) (o : TyOk M τ) (p : TyOk N σ) (v : VsOk τ vs) (u : VsOk σ us) (al : Alike M N (con τ vs) (con σ us)) : nv M τ vs = nv N σ us :=
  sorted_unique (nv_sorted v.srt) (nv_sorted u.srt) fun x => ⟨needs_same1 fM fN ht o p v u al, needs_same1 fN fM ht.symm p o u v (al.symm ht)⟩

/-! ### a step -/
def ty {α : Type} [LT α] [DecidableLT α] [DecidableEq α] (c : Con α) : Ty := (c.1, ranks c.2)
theorem con_ty (c : Con Rat) : con (ty c) (known c.2) = c := by
  show (c.1, fill (ranks c.2) (known c.2)) = c
  rw [fill_ranks]
theorem ty_ok {α : Type} [LT α] [DecidableLT α] [DecidableEq α] [LO α] {c : Con α} (h : c.2.length = M.regs) : TyOk M (ty c) := ⟨(ranks_len _).trans h, ranks_proper _⟩
theorem vs_ok (c : Con Rat) : VsOk (ty c) (known c.2) := ⟨known_sorted _, (many_ranks _).symm⟩
theorem ty_con (o : TyOk M τ) (v : VsOk τ vs) : ty (con τ vs) = τ := by
  show (τ.1, ranks (fill τ.2 vs)) = τ
  rw [ranks_fill o.prop v.srt v.len]
theorem known_con (o : TyOk M τ) (v : VsOk τ vs) : known (con τ vs).2 = vs := known_fill o.prop v.srt v.len
theorem src_vals {s : Int} {v x : Rat} {h : Held Rat} (e : src s v h = some x) : x = v ∨ some x ∈ h := by
  unfold src at e
  split at e
  · exact .inl (Option.some.inj e).symm
  · split at e
    · cases e
    · cases q : h[s.toNat]? with
      | none => rw [q] at e; cases e
      | some o =>
        rw [q] at e
        have : o = some x := e
        subst this
        exact .inr (List.mem_of_getElem? q)
theorem read_vals {c : Con Rat} {t : Nat} {v x : Rat} (h : some x ∈ (readM M c t v).1.2) : x = v ∨ some x ∈ c.2 := by
  unfold readM at h
  split at h
  · exact .inr h
  · obtain ⟨s, _, e⟩ := List.mem_map.mp h
    exact src_vals e
theorem ans_vals {c : Con Rat} {t : Nat} {v x : Rat} {a : Int} (h : (a, some x) ∈ (readM M c t v).2) : x = v ∨ some x ∈ c.2 := by
  unfold readM at h
  split at h
  · cases h
  · obtain ⟨p, _, e⟩ := List.mem_map.mp h
    exact src_vals (by have := congrArg Prod.snd e; exact this)
theorem mem_fill {x : Rat} {rk : List (Option Nat)} (h : some x ∈ fill rk vs) : x ∈ vs := by
  obtain ⟨o, _, e⟩ := List.mem_map.mp h
  cases o with
  | none => cases e
  | some r => exact List.mem_of_getElem? e
/-- the not needed value moved: what comes of it -/
theorem step_moved (f : M.full) (o : TyOk M τ) (v : VsOk τ vs) {t : Nat} (ht : t < M.tags) {a x : Rat} (hx : x ∈ vs) (hn : x ∉ nv M τ vs) (ha : x ≠ a) :
    ∃ x' l, x < x' ∧ (∀ y ∈ l, x < y → x' < y) ∧ (∀ y ∈ vs, y ∈ l) ∧ a ∈ l ∧ ∃ c'' : Con Rat, RC (mvP x x' l) (readM M (con τ vs) t a).1 c'' ∧ Alike M M (readM M (con τ vs) t a).1 c'' ∧
      RA (mvP x x' l) (readM M (con τ vs) t a).2 (readM M (con τ vs) t a).2 := by
  obtain ⟨x', h1, h2⟩ := upnear x (a :: vs)
  obtain ⟨j, hj⟩ := List.mem_iff_getElem?.mp hx
  have m := mono_mvP h1 h2
  have rv : R1 (mvP x x' (a :: vs)) vs (vs.set j x') := r1_mv v.srt hj fun y hy => by simp [hy]
  have hk2 : ¬ need1 M τ j := fun z => hn (mem_nv.mpr ⟨j, mem_needs.mpr ⟨by rw [← v.len]; exact (List.getElem?_eq_some_iff.mp hj).1, z⟩, hj⟩)
  have al : Alike M M (con τ vs) (con τ (vs.set j x')) := Classical.byContradiction fun z => hk2 ((need_iff f o v hj h1 fun i y hy => h2 y (by simp [List.mem_of_getElem? hy])).mpr z)
  have q := read_rel m M (c := con τ vs) (c' := con τ (vs.set j x')) (v := a) (v' := a) (mem_mvP.mpr (.inr ⟨by simp, ha.symm, rfl⟩)) ⟨rfl, fill_rel rv _⟩ t
  have al2 : Alike M M (readM M (con τ vs) t a).1 (readM M (con τ (vs.set j x')) t a).1 := fun log hl => by
    have := al ((t, a) :: log) fun e he => by
      rcases List.mem_cons.mp he with e' | he
      · rw [e']; exact ht
      · exact hl e he
    simp only [run, List.cons.injEq] at this
    exact this.2
  have ea : (readM M (con τ vs) t a).2 = (readM M (con τ (vs.set j x')) t a).2 := by
    have := al [(t, a)] (by simpa using ht)
    simp only [run, List.cons.injEq, and_true] at this
    exact this
  refine ⟨x', a :: vs, h1, h2, fun y hy => by simp [hy], by simp, _, q.1, al2, ?_⟩
  have := q.2
  rw [← ea] at this
  exact this
theorem ans_step (f : M.full) (o : TyOk M τ) (v : VsOk τ vs) {t : Nat} (ht : t < M.tags) {a x : Rat} {b : Int} (h : (b, some x) ∈ (readM M (con τ vs) t a).2) : x = a ∨ x ∈ nv M τ vs := by
  refine Classical.byContradiction fun hc => ?_
  simp only [not_or] at hc
  have hx : x ∈ vs := by
    rcases ans_vals h with e | e
    · exact absurd e hc.1
    · exact mem_fill e
  obtain ⟨x', l, h1, h2, h3, h4, c'', r1, al, r2⟩ := step_moved f o v ht hx hc.2 hc.1
  obtain ⟨i, hi⟩ := List.mem_iff_getElem?.mp h
  obtain ⟨q, hq, e, r⟩ := r2.get hi
  rw [hi] at hq; cases hq
  rcases mem_mvP.mp (show (x, x) ∈ mvP x x' l from r) with ⟨_, e⟩ | ⟨_, e, _⟩
  · rw [← e] at h1; exact absurd h1 (LO.irr _)
  · exact e rfl
theorem nv_step (f : M.full) (o : TyOk M τ) (v : VsOk τ vs) {t : Nat} (ht : t < M.tags) {a x : Rat} (h : x ∈ nv M (ty (readM M (con τ vs) t a).1) (known (readM M (con τ vs) t a).1.2)) : x = a ∨ x ∈ nv M τ vs := by
  refine Classical.byContradiction fun hc => ?_
  simp only [not_or] at hc
  have hk := nv_sub h
  have hx : x ∈ vs := by
    rcases read_vals ((mem_known _ _).mp hk) with e | e
    · exact absurd e hc.1
    · exact mem_fill e
  obtain ⟨x', l, h1, h2, h3, h4, c'', r1, al, r2⟩ := step_moved f o v ht hx hc.2 hc.1
  have m := mono_mvP h1 h2
  have hl : (readM M (con τ vs) t a).1.2.length = M.regs := read_len f (con_len o) t a
  have o' := ty_ok (M := M) hl
  have hl'' : c''.2.length = M.regs := r1.held.len ▸ hl
  have v' := vs_ok (readM M (con τ vs) t a).1
  have al' : Alike M M (con (ty (readM M (con τ vs) t a).1) (known (readM M (con τ vs) t a).1.2)) (con (ty c'') (known c''.2)) := by rw [con_ty, con_ty]; exact al
  have s := needs_same1 f f rfl o' (ty_ok hl'') v' (vs_ok c'') al' h
  have hx'' := nv_sub s
  have kr := known_rel m r1.held
  obtain ⟨i, hi⟩ := List.mem_iff_getElem?.mp hx''
  obtain ⟨y, hy, r⟩ := kr.get' hi
  rcases mem_mvP.mp r with ⟨_, e⟩ | ⟨_, e, e2⟩
  · rw [← e] at h1; exact absurd h1 (LO.irr _)
  · exact e e2.symm
end TH
-- text Th5
set_option linter.all false
set_option maxHeartbeats 1000000
/-! Kinds. -/
namespace TH
variable {M N L : Machine} {τ σ υ : Ty} {vs us ws xs : List Rat}
theorem All2.map_left {α β γ : Type} {R : γ → β → Prop} {f : α → γ} : ∀ {l : List α} {l' : List β}, All2 (fun a b => R (f a) b) l l' → All2 R (l.map f) l'
  | _, _, .nil => .nil
  | _, _, .cons r t => .cons r (All2.map_left t)
theorem all2_zip {α β : Type} : ∀ {l : List α} {l' : List β}, l.length = l'.length → All2 (fun a b => (a, b) ∈ l.zip l') l l'
  | [], [], _ => .nil
  | a :: l, b :: l', h => .cons (by simp) ((all2_zip (by simpa using h)).mono fun a b h => by simp [h])
theorem mono_zip {α β : Type} [LT α] [DecidableLT α] [DecidableEq α] [LT β] [DecidableLT β] [DecidableEq β] [LO α] [LO β] {l : List α} {l' : List β} (s : Sorted l) (s' : Sorted l') : Mono (l.zip l') := by
  rintro ⟨a, y⟩ hp ⟨b, z⟩ hq
  obtain ⟨i, hi⟩ := List.mem_iff_getElem?.mp hp
  obtain ⟨k, hk⟩ := List.mem_iff_getElem?.mp hq
  rw [List.getElem?_zip_eq_some] at hi hk
  rw [← sorted_lt s hi.1 hk.1, ← sorted_lt s' hi.2 hk.2]
/-- numbers found for a row of values -/
theorem extendL {β : Type} [LT β] [DecidableLT β] [DecidableEq β] [LO β] {P : List (Rat × β)} (m : Mono P) : ∀ zs : List β, ∃ (P' : List (Rat × β)) (vs : List Rat), (∀ p ∈ P, p ∈ P') ∧ Mono P' ∧ R1 P' vs zs
  | [] => ⟨P, [], fun _ h => h, m, .nil⟩
  | z :: zs => by
    obtain ⟨P1, vs, h1, m1, r1⟩ := extendL m zs
    obtain ⟨v, m2⟩ := extend m1 z
    exact ⟨_, v :: vs, fun p hp => List.mem_cons_of_mem _ (h1 p hp), m2, .cons (by simp) (r1.mono fun a b h => List.mem_cons_of_mem _ h)⟩
theorem r1_get {β : Type} [LT β] [DecidableLT β] [DecidableEq β] [LO β] {P : List (Rat × β)} (m : Mono P) {vs : List Rat} {zs : List β} (r : R1 P vs zs) {j : Nat} {z : β} {x : Rat} (hz : zs[j]? = some z) (hp : (x, z) ∈ P) : vs[j]? = some x := by
  obtain ⟨a, ha, q⟩ := r.get' hz
  rw [ha, show a = x from (m.eq_iff q hp).mpr rfl]
theorem nv_of (v : VsOk τ vs) (hx : xs.length = (needs M τ).length) (h : ∀ (i j : Nat) (x : Rat), (needs M τ)[i]? = some j → xs[i]? = some x → vs[j]? = some x) : nv M τ vs = xs := by
  apply List.ext_getElem?
  intro i
  by_cases hi : i < xs.length
  · have hn : i < (needs M τ).length := by omega
    have h1 := h i _ _ (List.getElem?_eq_getElem hn) (List.getElem?_eq_getElem hi)
    rw [nv_get v (List.getElem?_eq_getElem hn), h1, List.getElem?_eq_getElem hi]
  · rw [List.getElem?_eq_none (by rw [nv_len v]; omega), List.getElem?_eq_none (by omega)]
theorem get_nv (v : VsOk τ vs) {i j : Nat} {x : Rat} (hn : (needs M τ)[i]? = some j) (hx : (nv M τ vs)[i]? = some x) : vs[j]? = some x := by rw [← nv_get v hn]; exact hx
/-- one kind -/
def KEq (M N : Machine) (τ σ : Ty) : Prop := (needs M τ).length = (needs N σ).length ∧ ∀ vs us, VsOk τ vs → VsOk σ us → nv M τ vs = nv N σ us → Alike M N (con τ vs) (con σ us)
theorem same_nv (v : VsOk τ vs) (u : VsOk τ us) (h : nv M τ vs = nv M τ us) : ∀ j ∈ needs M τ, vs[j]? = us[j]? := fun j hj => by
  obtain ⟨i, hi⟩ := List.mem_iff_getElem?.mp hj
  rw [← nv_get v hi, ← nv_get u hi, h]
theorem KEq.refl (f : M.full) (o : TyOk M τ) : KEq M M τ τ := ⟨rfl, fun vs us v u h => alike_same f o v u (same_nv v u h)⟩
theorem KEq.symm (ht : M.tags = N.tags) (h : KEq M N τ σ) : KEq N M σ τ := ⟨h.1.symm, fun vs us v u e => (h.2 us vs u v e.symm).symm ht⟩
def nats (m : Nat) : List Int := (List.range m).map fun (i : Nat) => (i : Int)
theorem nats_get {m j : Nat} (h : j < m) : (nats m)[j]? = some (j : Int) := by unfold nats; rw [List.getElem?_map, List.getElem?_range h]; rfl
theorem nats_sorted (m : Nat) : Sorted (nats m) := by
  unfold nats
  exact List.pairwise_map.mpr (List.pairwise_lt_range.imp fun h => by omega)
theorem map_int_sorted {l : List Nat} (s : Sorted l) : Sorted (l.map fun (i : Nat) => (i : Int)) := List.pairwise_map.mpr (s.imp fun h => by omega)
theorem exists_vs (xs : List Rat) (s : Sorted xs) (hl : xs.length = (needs M τ).length) : ∃ vs, VsOk τ vs ∧ nv M τ vs = xs := by
  have m := mono_zip s (map_int_sorted (needs_sorted M τ))
  obtain ⟨P', vs, h1, m1, r1⟩ := extendL m (nats (many τ.2))
  have v : VsOk τ vs := ⟨R1.sorted' m1 r1 (nats_sorted _), r1.len.trans (by simp [nats])⟩
  refine ⟨vs, v, nv_of v hl fun i j x hj hx => ?_⟩
  refine r1_get m1 r1 (nats_get (mem_needs.mp (List.mem_of_getElem? hj)).1) (h1 _ ?_)
  refine List.mem_iff_getElem?.mpr ⟨i, ?_⟩
  rw [List.getElem?_zip_eq_some]
  exact ⟨hx, by rw [List.getElem?_map, hj]; rfl⟩
theorem KEq.trans (ht : M.tags = N.tags) (h : KEq M N τ σ) (k : KEq N L σ υ) : KEq M L τ υ := by
  refine ⟨h.1.trans k.1, fun vs us v u e => ?_⟩
  obtain ⟨ws, w, ew⟩ := exists_vs (M := N) (τ := σ) (nv M τ vs) (nv_sorted v.srt) ((nv_len v).trans h.1)
  exact (h.2 vs ws v w ew.symm).trans ht (k.2 ws us w u (ew.trans e))
/-- two rows of values carried over together -/
theorem carry {β : Type} [LT β] [DecidableLT β] [DecidableEq β] [LO β] {P : List (Rat × β)} (m : Mono P) (z1 z2 : List β) : ∃ (P' : List (Rat × β)) (w1 w2 : List Rat), (∀ p ∈ P, p ∈ P') ∧ Mono P' ∧ R1 P' w1 z1 ∧ R1 P' w2 z2 := by
  obtain ⟨P1, w1, h1, m1, r1⟩ := extendL m z1
  obtain ⟨P2, w2, h2, m2, r2⟩ := extendL m1 z2
  exact ⟨P2, w1, w2, fun p hp => h2 p (h1 p hp), m2, r1.mono fun _ _ h => h2 _ h, r2⟩
theorem flip_r1 {α β : Type} [LT α] [DecidableLT α] [DecidableEq α] [LT β] [DecidableLT β] [DecidableEq β] [LO α] [LO β] {P : List (α × β)} {l : List α} {l' : List β} (r : R1 P l l') : R1 (flip P) l' l := r.swap.mono fun a b h => flip_mem.mpr h
/-- alike once, of one kind -/
theorem KEq.of_alike (fM : M.full) (fN : N.full) (ht : M.tags = N.tags) (o : TyOk M τ) (p : TyOk N σ) (v : VsOk τ vs) (u : VsOk σ us) (al : Alike M N (con τ vs) (con σ us)) : KEq M N τ σ := by
  have e0 := needs_same fM fN ht o p v u al
  have hl : (needs M τ).length = (needs N σ).length := by rw [← nv_len v, ← nv_len u, e0]
  refine ⟨hl, fun vs1 us1 v1 u1 e => ?_⟩
  have m : Mono ((nv M τ vs1).zip (nv M τ vs)) := mono_zip (nv_sorted v1.srt) (nv_sorted v.srt)
  obtain ⟨P', w1, w2, h1, m1, r1, r2⟩ := carry m vs us
  have o1 : VsOk τ w1 := ⟨R1.sorted' m1 r1 v.srt, r1.len.trans v.len⟩
  have o2 : VsOk σ w2 := ⟨R1.sorted' m1 r2 u.srt, r2.len.trans u.len⟩
  have al2 : Alike M N (con τ w1) (con σ w2) := transfer (c := con τ vs) (d := con σ us) fM fN m1.flip ⟨rfl, fill_rel (flip_r1 r1) _⟩ ⟨rfl, fill_rel (flip_r1 r2) _⟩ (con_len o) (con_len p) al
  have n1 : nv M τ w1 = nv M τ vs1 := nv_of o1 (nv_len v1) fun i j x hj hx => by
    obtain ⟨y, hy⟩ := get_lt (l := nv M τ vs) (i := i) (by rw [nv_len v]; exact (List.getElem?_eq_some_iff.mp hj).1)
    exact r1_get m1 r1 (get_nv v hj hy) (h1 _ (List.mem_iff_getElem?.mpr ⟨i, List.getElem?_zip_eq_some.mpr ⟨hx, hy⟩⟩))
  have n2 : nv N σ w2 = nv N σ us1 := nv_of o2 (nv_len u1) fun i j x hj hx => by
    obtain ⟨y, hy⟩ := get_lt (l := nv N σ us) (i := i) (by rw [nv_len u]; exact (List.getElem?_eq_some_iff.mp hj).1)
    exact r1_get m1 r2 (get_nv u hj hy) (h1 _ (List.mem_iff_getElem?.mpr ⟨i, List.getElem?_zip_eq_some.mpr ⟨by rw [e]; exact hx, by rw [e0]; exact hy⟩⟩))
  have a1 := alike_same fM o v1 o1 (same_nv v1 o1 n1.symm)
  have a2 := alike_same fN p o2 u1 (same_nv o2 u1 n2)
  exact (a1.trans rfl al2).trans ht a2

/-! ### the program's contents of two types, with the needed values at the same places -/
def spStep (ns : List Nat) (room shift : Int) (s : List Int × Int × Int) (r : Nat) : List Int × Int × Int :=
  if r ∈ ns then (s.1 ++ [s.2.1 + 2 * room], s.2.1 + 2 * room, 0) else (s.1 ++ [s.2.1 + shift * room + (s.2.2 + 1)], s.2.1, s.2.2 + 1)
def spLoop (ns : List Nat) (room shift : Int) (m : Nat) : List Int × Int × Int := (List.range m).foldl (spStep ns room shift) ([], 0, 0)
def spreadV (ns : List Nat) (room shift : Int) (m : Nat) : List Int := (spLoop ns room shift m).1
theorem spLoop_succ (ns : List Nat) (room shift : Int) (m : Nat) : spLoop ns room shift (m + 1) = spStep ns room shift (spLoop ns room shift m) m := by
  unfold spLoop; rw [List.range_succ, List.foldl_append]; rfl
theorem filter_get {l : List Nat} (s : Sorted l) {i r : Nat} (h : l[i]? = some r) : (l.filter fun j => decide (j < r)).length = i := by
  induction l generalizing i with
  | nil => simp at h
  | cons a l ih =>
    rw [Sorted, List.pairwise_cons] at s
    cases i with
    | zero =>
      simp at h; subst h
      rw [List.filter_cons, if_neg (by simp)]
      rw [List.filter_eq_nil_iff.mpr fun b hb => by have := s.1 b hb; simp; omega]; rfl
    | succ i =>
      have h' : l[i]? = some r := by simpa using h
      have := s.1 r (List.mem_of_getElem? h')
      rw [List.filter_cons, if_pos (by simpa using this), List.length_cons, ih s.2 h']
theorem filter_succ {l : List Nat} (s : Sorted l) (k : Nat) : (l.filter fun j => decide (j < k + 1)).length = (l.filter fun j => decide (j < k)).length + if k ∈ l then 1 else 0 := by
  induction l with
  | nil => simp
  | cons a l ih =>
    rw [Sorted, List.pairwise_cons] at s
    have ih := ih s.2
    rw [List.filter_cons, List.filter_cons]
    by_cases h1 : a < k
    · rw [if_pos (by simp; omega), if_pos (by simpa using h1), List.length_cons, List.length_cons, ih]
      have : (k ∈ a :: l) ↔ k ∈ l := by simp; omega
      simp only [this]; omega
    · by_cases h2 : a = k
      · subst h2
        have : ¬ a ∈ l := fun q => Nat.lt_irrefl _ (s.1 a q)
        rw [if_neg this] at ih
        rw [if_pos (by simp), if_neg (by simp), List.length_cons, ih, if_pos (by simp)]
      · rw [if_neg (by simp; omega), if_neg (by simpa using h1), ih]
        have : (k ∈ a :: l) ↔ k ∈ l := by simp; omega
        simp only [this]
structure SpOk (ns : List Nat) (room shift : Int) (k : Nat) (s : List Int × Int × Int) : Prop where
  len : s.1.length = k
  srt : Sorted s.1
  base : s.2.1 = 2 * room * ((ns.filter fun j => decide (j < k)).length : Int)
  low0 : 0 ≤ s.2.2
  low1 : s.2.2 ≤ k
  top : ∀ x ∈ s.1, x ≤ if s.2.2 = 0 then s.2.1 else s.2.1 + shift * room + s.2.2
  at_ : ∀ (i r : Nat), ns[i]? = some r → r < k → s.1[r]? = some (2 * room * ((i : Int) + 1))
theorem sp_ok {ns : List Nat} (sn : Sorted ns) {room shift : Int} (hs : shift = 0 ∨ shift = 1) {m : Nat} (hr : (m : Int) < room) : ∀ k, k ≤ m → SpOk ns room shift k (spLoop ns room shift k) := by
  intro k
  induction k with
  | zero => intro _; exact ⟨rfl, List.Pairwise.nil, by simp [spLoop, List.filter_eq_nil_iff.mpr (fun (a : Nat) (_ : a ∈ ns) => (by simp : ¬ (fun j : Nat => false) a = true))], by simp [spLoop], by simp [spLoop], by simp [spLoop], fun i r _ h => by omega⟩
  | succ k ih =>
    intro hk
    have s := ih (by omega)
    rw [spLoop_succ]
    generalize spLoop ns room shift k = st at s ⊢
    obtain ⟨l, b, lo⟩ := st
    obtain ⟨s1, s2, s3, s4, s5, s6, s7⟩ := s
    simp only at s1 s2 s3 s4 s5 s6 s7
    have app : ∀ z : Int, (∀ x ∈ l, x < z) → Sorted (l ++ [z]) := fun z h => by
      rw [Sorted, List.pairwise_append]
      exact ⟨s2, by simp, fun a ha c hc => by simp at hc; rw [hc]; exact h a ha⟩
    have hb : ∀ x ∈ l, x ≤ b + shift * room + lo := fun x hx => by
      have := s6 x hx
      split at this
      · rename_i e; rcases hs with h | h <;> subst h <;> omega
      · exact this
    unfold spStep
    by_cases hin : k ∈ ns
    · rw [if_pos hin]
      have hlt : ∀ x ∈ l, x < b + 2 * room := fun x hx => by
        have := hb x hx
        rcases hs with h | h <;> subst h <;> omega
      refine ⟨by simp [s1], app _ hlt, ?_, by simp, by simp; omega, fun x hx => ?_, fun i r hi hrk => ?_⟩
      · simp only
        rw [filter_succ sn, if_pos hin, s3]
        grind
      · simp only [if_true]
        rcases List.mem_append.mp hx with h | h
        · have := hlt x h; omega
        · simp at h; omega
      · simp only
        by_cases e : r = k
        · subst e
          rw [List.getElem?_append_right (by omega), s1]
          simp only [Nat.sub_self, List.getElem?_cons_zero, Option.some.injEq]
          rw [s3, filter_get sn hi]
          grind
        · rw [List.getElem?_append_left (by omega)]
          exact s7 i r hi (by omega)
    · rw [if_neg hin]
      have hlt : ∀ x ∈ l, x < b + shift * room + (lo + 1) := fun x hx => by have := hb x hx; omega
      refine ⟨by simp [s1], app _ hlt, ?_, by simp; omega, by simp; omega, fun x hx => ?_, fun i r hi hrk => ?_⟩
      · simp only
        rw [filter_succ sn, if_neg hin, s3]; simp
      · simp only
        rw [if_neg (by omega)]
        rcases List.mem_append.mp hx with h | h
        · have := hlt x h; omega
        · simp at h; omega
      · simp only
        have : r ≠ k := fun e => hin (e ▸ List.mem_of_getElem? hi)
        rw [List.getElem?_append_left (by omega)]
        exact s7 i r hi (by omega)
/-- the test of one kind: the program's joint type -/
noncomputable def kindJ (M N : Machine) (τ σ : Ty) (room : Int) : Joint := joint (con τ (spreadV (needs M τ) room 0 (many τ.2))) (con σ (spreadV (needs N σ) room 1 (many σ.2)))
theorem kind_iff (fM : M.full) (fN : N.full) (ht : M.tags = N.tags) (o : TyOk M τ) (p : TyOk N σ) {room : Int} (h1 : (many τ.2 : Int) < room) (h2 : (many σ.2 : Int) < room) (hl : (needs M τ).length = (needs N σ).length) :
    ¬ PJ M N (kindJ M N τ σ room) ↔ KEq M N τ σ := by
  have s1 := sp_ok (needs_sorted M τ) (shift := 0) (.inl rfl) h1 _ (Nat.le_refl _)
  have s2 := sp_ok (needs_sorted N σ) (shift := 1) (.inr rfl) h2 _ (Nat.le_refl _)
  -- numbers for both, the needed ones given
  have key : ∀ xs : List Rat, Sorted xs → xs.length = (needs M τ).length → ∃ w1 w2, VsOk τ w1 ∧ VsOk σ w2 ∧ nv M τ w1 = xs ∧ nv N σ w2 = xs ∧ joint (con τ w1) (con σ w2) = kindJ M N τ σ room := by
    intro xs sx lx
    have rpos : 0 < room := by omega
    have sg : Sorted ((List.range xs.length).map fun (i : Nat) => 2 * room * ((i : Int) + 1)) := by
      refine List.pairwise_map.mpr (List.pairwise_lt_range.imp fun {a b} h => ?_)
      have h : (a : Int) + 1 < (b : Int) + 1 := by omega
      exact Int.mul_lt_mul_of_pos_left h (by omega)
    have m := mono_zip sx sg
    obtain ⟨P', w1, w2, h1, m1, r1, r2⟩ := carry m (spreadV (needs M τ) room 0 (many τ.2)) (spreadV (needs N σ) room 1 (many σ.2))
    have o1 : VsOk τ w1 := ⟨R1.sorted' m1 r1 s1.srt, r1.len.trans s1.len⟩
    have o2 : VsOk σ w2 := ⟨R1.sorted' m1 r2 s2.srt, r2.len.trans s2.len⟩
    have hz : ∀ (i : Nat) (x : Rat), xs[i]? = some x → (x, 2 * room * ((i : Int) + 1)) ∈ P' := fun i x hx => h1 _ (List.mem_iff_getElem?.mpr ⟨i, List.getElem?_zip_eq_some.mpr ⟨hx, by
      rw [List.getElem?_map, List.getElem?_range (List.getElem?_eq_some_iff.mp hx).1]; rfl⟩⟩)
    refine ⟨w1, w2, o1, o2, nv_of o1 lx fun i j x hj hx => ?_, nv_of o2 (lx.trans hl) fun i j x hj hx => ?_, joint_congr m1 ⟨rfl, fill_rel r1 _⟩ ⟨rfl, fill_rel r2 _⟩⟩
    · exact r1_get m1 r1 (s1.at_ i j hj (mem_needs.mp (List.mem_of_getElem? hj)).1) (hz i x hx)
    · exact r1_get m1 r2 (s2.at_ i j hj (mem_needs.mp (List.mem_of_getElem? hj)).1) (hz i x hx)
  constructor
  · intro np
    refine ⟨hl, fun vs us v u e => ?_⟩
    obtain ⟨w1, w2, o1, o2, n1, n2, ej⟩ := key (nv M τ vs) (nv_sorted v.srt) (nv_len v)
    have al : Alike M N (con τ w1) (con σ w2) := (alike_iff fM fN (con_len o) (con_len p)).mpr (by rw [ej]; exact np)
    have a1 := alike_same fM o v o1 (same_nv v o1 n1.symm)
    have a2 := alike_same fN p o2 u (same_nv o2 u (n2.trans e))
    exact (a1.trans rfl al).trans ht a2
  · intro k
    have sx : Sorted ((List.range (needs M τ).length).map fun (i : Nat) => (i : Rat)) := by
      refine List.pairwise_map.mpr (List.pairwise_lt_range.imp fun {a b} h => ?_)
      exact_mod_cast h
    obtain ⟨w1, w2, o1, o2, n1, n2, ej⟩ := key _ sx (by simp)
    rw [← ej]
    exact (alike_iff fM fN (con_len o) (con_len p)).mp (k.2 w1 w2 o1 o2 (n1.trans n2.symm))
end TH
-- text Th6
set_option linter.all false
set_option maxHeartbeats 1000000
/-! The kinds of a machine as the program finds them; the least machine; both alike; equal exactly if alike. -/
namespace TH
variable {M N L : Machine} {τ σ υ : Ty} {vs us ws xs : List Rat}
def conS (τ : Ty) : Con Int := (τ.1, shown τ.2)
def lowest (ns : List Nat) (s : Nat) : Int := if s % 2 = 1 then 2 * (ns[s / 2]?.getD 0 : Nat) + 1 else if s = 0 then 0 else 2 * (ns[s / 2 - 1]?.getD 0 : Nat) + 2
def srcI (ns : List Nat) (new : Int) : Option Int → Int
  | none => -2
  | some y => if y = new then -1 else (ns.idxOf (y / 2).toNat : Nat)
def srcR (xs : List Rat) (v : Rat) : Option Rat → Int
  | none => -2
  | some y => if y = v then -1 else (xs.idxOf y : Nat)
noncomputable def caseR (M : Machine) (τ : Ty) (t s : Nat) : Con Int × Ans Int := readM M (conS τ) t (lowest (needs M τ) s)
noncomputable def kindR (M : Machine) (τ : Ty) (t s : Nat) : Ty := ty (caseR M τ t s).1
noncomputable def movesR (M : Machine) (τ : Ty) (t s : Nat) : List Int := (needs M (kindR M τ t s)).map fun r => srcI (needs M τ) (lowest (needs M τ) s) ((known (caseR M τ t s).1.2)[r]?)
noncomputable def saysR (M : Machine) (τ : Ty) (t s : Nat) : List (Int × Int) := (caseR M τ t s).2.map fun p => (p.1, srcI (needs M τ) (lowest (needs M τ) s) p.2)
theorem lowest_spec {ns : List Nat} (sn : Sorted ns) {s : Nat} (hs : s < 2 * ns.length + 1) {i j : Nat} (h : ns[i]? = some j) : (2 * (j : Int) + 1 < lowest ns s ↔ 2 * i + 1 < s) ∧ (lowest ns s < 2 * (j : Int) + 1 ↔ s < 2 * i + 1) := by
  unfold lowest
  by_cases h1 : s % 2 = 1
  · rw [if_pos h1]
    obtain ⟨k, hk⟩ : ∃ k, ns[s / 2]? = some k := ⟨ns[s / 2], List.getElem?_eq_getElem (by omega)⟩
    have a := sorted_lt sn h hk
    have b := sorted_lt sn hk h
    rw [hk]; simp only [Option.getD_some]; omega
  · rw [if_neg h1]
    by_cases h2 : s = 0
    · rw [if_pos h2]; omega
    · rw [if_neg h2]
      obtain ⟨k, hk⟩ : ∃ k, ns[s / 2 - 1]? = some k := ⟨ns[s / 2 - 1], List.getElem?_eq_getElem (by omega)⟩
      have a := sorted_lt sn h hk
      have b := sorted_lt sn hk h
      rw [hk]; simp only [Option.getD_some]; omega
def odds (m : Nat) : List Int := (List.range m).map fun (i : Nat) => 2 * (i : Int) + 1
theorem odds_get {m j : Nat} (h : j < m) : (odds m)[j]? = some (2 * (j : Int) + 1) := by unfold odds; rw [List.getElem?_map, List.getElem?_range h]; rfl
theorem odds_sorted (m : Nat) : Sorted (odds m) := List.pairwise_map.mpr (List.pairwise_lt_range.imp fun h => by omega)
theorem shown_fill {rk : List (Option Nat)} (p : Proper rk) : shown rk = fill rk (odds (many rk)) := by
  unfold shown fill
  refine List.map_congr_left fun o ho => ?_
  cases o with
  | none => rfl
  | some r => show some _ = (odds (many rk))[r]?; rw [odds_get (p.lt ho)]
theorem idx_nodup {l : List Nat} (s : Sorted l) {i j : Nat} (h : l[i]? = some j) : l.idxOf j = i := by
  obtain ⟨hi, e⟩ := List.getElem?_eq_some_iff.mp h
  rw [← e]
  exact List.Nodup.idxOf_getElem (s.imp fun h => Nat.ne_of_lt h) i hi
theorem idx_nodupR {l : List Rat} (s : Sorted l) {i : Nat} {x : Rat} (h : l[i]? = some x) : l.idxOf x = i := by
  obtain ⟨hi, e⟩ := List.getElem?_eq_some_iff.mp h
  rw [← e]
  exact List.Nodup.idxOf_getElem (s.imp fun {a b} h => by intro q; rw [q] at h; exact LO.irr _ h) i hi
/-- a found step, told with any values in the places of the needed ones -/
theorem piece_rat (f : M.full) (o : TyOk M τ) (sx : Sorted xs) (lx : xs.length = (needs M τ).length) {t s : Nat} (ht : t < M.tags) (hs : s < 2 * (needs M τ).length + 1) {v : Rat} (mv : Mono (((s : Int), v) :: P0 xs)) :
    ∃ vs, VsOk τ vs ∧ nv M τ vs = xs ∧ kindR M τ t s = ty (readM M (con τ vs) t v).1 ∧ saysR M τ t s = (readM M (con τ vs) t v).2.map (fun p => (p.1, srcR xs v p.2)) ∧
      movesR M τ t s = (nv M (kindR M τ t s) (known (readM M (con τ vs) t v).1.2)).map (fun y => srcR xs v (some y)) ∧
      (∀ a y, (a, some y) ∈ (readM M (con τ vs) t v).2 → y = v ∨ y ∈ xs) ∧ ∀ y ∈ nv M (kindR M τ t s) (known (readM M (con τ vs) t v).1.2), y = v ∨ y ∈ xs := by
  have sn := needs_sorted M τ
  have sg : Sorted ((needs M τ).map fun (j : Nat) => 2 * (j : Int) + 1) := List.pairwise_map.mpr (sn.imp fun h => by omega)
  have m0 := mono_zip sx sg
  have mem0 : ∀ (i j : Nat) (x : Rat), xs[i]? = some x → (needs M τ)[i]? = some j → (x, 2 * (j : Int) + 1) ∈ xs.zip ((needs M τ).map fun (j : Nat) => 2 * (j : Int) + 1) := fun i j x hx hj =>
    List.mem_iff_getElem?.mpr ⟨i, List.getElem?_zip_eq_some.mpr ⟨hx, by rw [List.getElem?_map, hj]; rfl⟩⟩
  have m1 : Mono ((v, lowest (needs M τ) s) :: xs.zip ((needs M τ).map fun (j : Nat) => 2 * (j : Int) + 1)) := by
    refine mono_cons m0 ?_
    rintro ⟨x, z⟩ hp
    obtain ⟨i, hi⟩ := List.mem_iff_getElem?.mp hp
    obtain ⟨hx, hz⟩ := List.getElem?_zip_eq_some.mp hi
    rw [List.getElem?_map] at hz
    cases hj : (needs M τ)[i]? with
    | none => rw [hj] at hz; cases hz
    | some j =>
      rw [hj] at hz
      have hz : 2 * (j : Int) + 1 = z := by simpa using hz
      subst hz
      obtain ⟨a, b⟩ := lowest_spec sn hs hj
      have hm : (2 * (i : Int) + 1, x) ∈ ((s : Int), v) :: P0 xs := List.mem_cons_of_mem _ (mem_P0.mpr ⟨i, hx, rfl⟩)
      have k1 := mv _ hm _ (List.mem_cons_self)
      have k2 := mv _ (List.mem_cons_self) _ hm
      simp only at k1 k2 ⊢
      rw [← k1, ← k2, a, b]; omega
  obtain ⟨P', vs, h1, m2, r1⟩ := extendL m1 (odds (many τ.2))
  have vo : VsOk τ vs := ⟨R1.sorted' m2 r1 (odds_sorted _), r1.len.trans (by simp [odds])⟩
  have hnv : nv M τ vs = xs := nv_of vo lx fun i j x hj hx => r1_get m2 r1 (odds_get (mem_needs.mp (List.mem_of_getElem? hj)).1) (h1 _ (List.mem_cons_of_mem _ (mem0 i j x hx hj)))
  have rc : RC P' (con τ vs) (conS τ) := ⟨rfl, by show RH P' _ (shown τ.2); rw [shown_fill o.prop]; exact fill_rel r1 _⟩
  have hvw : (v, lowest (needs M τ) s) ∈ P' := h1 _ (by simp)
  have q := read_rel m2 M hvw rc t
  have hl : (readM M (con τ vs) t v).1.2.length = M.regs := read_len f (con_len o) t v
  have ek : kindR M τ t s = ty (readM M (con τ vs) t v).1 := by
    show ((caseR M τ t s).1.1, ranks (caseR M τ t s).1.2) = ((readM M (con τ vs) t v).1.1, ranks (readM M (con τ vs) t v).1.2)
    rw [ranks_rel m2 q.1.held, q.1.st]; rfl
  have ansv : ∀ a y, (a, some y) ∈ (readM M (con τ vs) t v).2 → y = v ∨ y ∈ xs := fun a y h => by rw [← hnv]; exact ans_step f o vo ht h
  have nvv : ∀ y ∈ nv M (kindR M τ t s) (known (readM M (con τ vs) t v).1.2), y = v ∨ y ∈ xs := fun y h => by rw [ek] at h; rw [← hnv]; exact nv_step f o vo ht h
  have src : ∀ (y : Rat) (z : Int), (y, z) ∈ P' → (y = v ∨ y ∈ xs) → srcI (needs M τ) (lowest (needs M τ) s) (some z) = srcR xs v (some y) := by
    intro y z hp hy
    have e : z = lowest (needs M τ) s ↔ y = v := (m2.eq_iff hp hvw).symm
    show (if z = _ then _ else _) = (if y = v then _ else _)
    by_cases c : y = v
    · rw [if_pos c, if_pos (e.mpr c)]
    · rw [if_neg c, if_neg (fun k => c (e.mp k))]
      rcases hy with h | h
      · exact absurd h c
      · obtain ⟨i, hi⟩ := List.mem_iff_getElem?.mp h
        obtain ⟨j, hj⟩ : ∃ j, (needs M τ)[i]? = some j := ⟨_, List.getElem?_eq_getElem (by rw [← lx]; exact (List.getElem?_eq_some_iff.mp hi).1)⟩
        have ez : z = 2 * (j : Int) + 1 := (m2.eq_iff hp (h1 _ (List.mem_cons_of_mem _ (mem0 i j y hi hj)))).mp rfl
        subst ez
        have : ((2 * (j : Int) + 1) / 2).toNat = j := by omega
        rw [this, idx_nodup sn hj, idx_nodupR sx hi]
  refine ⟨vs, vo, hnv, ek, ?_, ?_, ansv, nvv⟩
  · show (readM M (conS τ) t (lowest (needs M τ) s)).2.map _ = _
    have r := q.2
    generalize (readM M (conS τ) t (lowest (needs M τ) s)).2 = A at r
    have av := ansv
    generalize (readM M (con τ vs) t v).2 = B at r av
    clear q ansv
    induction r with
    | nil => rfl
    | @cons a b as bs r t ih =>
      rw [List.map_cons, List.map_cons, ih fun a y h => av a y (by simp [h])]
      congr 1
      obtain ⟨a1, a2⟩ := a
      obtain ⟨b1, b2⟩ := b
      obtain ⟨e1, e2⟩ := r
      simp only at e1 e2
      subst e1
      congr 1
      cases a2 <;> cases b2 <;> simp [RO] at e2
      · rfl
      · exact src _ _ e2 (av a1 _ (by simp))
  · unfold movesR nv
    have kr := known_rel m2 q.1.held
    have : ∀ l : List Nat, (∀ r ∈ l, r < many (kindR M τ t s).2) → (∀ y, y ∈ (l.filterMap fun j => (known (readM M (con τ vs) t v).1.2)[j]?) → y = v ∨ y ∈ xs) →
        l.map (fun r => srcI (needs M τ) (lowest (needs M τ) s) ((known (caseR M τ t s).1.2)[r]?)) = (l.filterMap fun j => (known (readM M (con τ vs) t v).1.2)[j]?).map fun y => srcR xs v (some y) := by
      intro l
      induction l with
      | nil => intro _ _; rfl
      | cons r l ih =>
        intro h1 h2
        have hr : r < (known (readM M (con τ vs) t v).1.2).length := by
          have := h1 r (by simp)
          rw [ek] at this
          rw [← many_ranks]; exact this
        obtain ⟨y, hy⟩ := get_lt hr
        obtain ⟨z, hz, hp⟩ := kr.get hy
        have hz' : (known (caseR M τ t s).1.2)[r]? = some z := hz
        rw [List.map_cons, List.filterMap_cons, hy, hz']
        rw [List.filterMap_cons, hy] at h2
        rw [List.map_cons, src y z hp (h2 y (by simp)), ih (fun r hr => h1 r (by simp [hr])) fun y hy => h2 y (by simp [hy])]
    exact this _ (fun r hr => (mem_needs.mp hr).1) nvv
end TH
-- text Th7
set_option linter.all false
set_option maxHeartbeats 1000000
/-! The kinds of a machine as the program finds them. -/
namespace TH
variable {M N L : Machine} {τ σ υ κ : Ty} {vs us ws xs : List Rat}
abbrev Piece := List Int × List (Int × Int) × Nat
open Classical in
noncomputable def numF (M : Machine) (ts : List Ty) (κ : Ty) : Nat × List Ty := match ts.findIdx? fun υ => decide (KEq M M υ κ) with
  | some i => (i, ts)
  | none => (ts.length, ts ++ [κ])
def tyAt (ts : List Ty) (at_ : Nat) : Ty := ts[at_]?.getD (0, [])
noncomputable def caseF (M : Machine) (ts : List Ty) (at_ t s : Nat) : Piece × List Ty := ((movesR M (tyAt ts at_) t s, saysR M (tyAt ts at_) t s, (numF M ts (kindR M (tyAt ts at_) t s)).1), (numF M ts (kindR M (tyAt ts at_) t s)).2)
noncomputable def spotF (M : Machine) (at_ t : Nat) (S : List Ty × List Piece) (s : Nat) : List Ty × List Piece := ((caseF M S.1 at_ t s).2, S.2 ++ [(caseF M S.1 at_ t s).1])
noncomputable def rowF (M : Machine) (ts : List Ty) (at_ t k : Nat) : List Ty × List Piece := (List.range k).foldl (spotF M at_ t) (ts, [])
noncomputable def spots (M : Machine) (ts : List Ty) (at_ : Nat) : Nat := 2 * (needs M (tyAt ts at_)).length + 1
noncomputable def tagF (M : Machine) (at_ k : Nat) (S : List Ty × List (List Piece)) (t : Nat) : List Ty × List (List Piece) := ((rowF M S.1 at_ t k).1, S.2 ++ [(rowF M S.1 at_ t k).2])
noncomputable def rowsF (M : Machine) (ts : List Ty) (at_ k T : Nat) : List Ty × List (List Piece) := (List.range T).foldl (tagF M at_ k) (ts, [])
abbrev St := List Ty × List (List (List Piece))
noncomputable def kindF (M : Machine) (S : St) : St := ((rowsF M S.1 S.2.length (spots M S.1 S.2.length) M.tags).1, S.2 ++ [(rowsF M S.1 S.2.length (spots M S.1 S.2.length) M.tags).2])
def ty0 (M : Machine) : Ty := ty (begin (α := Int) M)
noncomputable def runK (M : Machine) : Nat → St
  | 0 => ([ty0 M], [])
  | n + 1 => if (runK M n).2.length < (runK M n).1.length then kindF M (runK M n) else runK M n
theorem rowF_succ (M : Machine) (ts : List Ty) (at_ t k : Nat) : rowF M ts at_ t (k + 1) = spotF M at_ t (rowF M ts at_ t k) k := by unfold rowF; rw [List.range_succ, List.foldl_append]; rfl
theorem rowsF_succ (M : Machine) (ts : List Ty) (at_ k T : Nat) : rowsF M ts at_ k (T + 1) = tagF M at_ k (rowsF M ts at_ k T) T := by unfold rowsF; rw [List.range_succ, List.foldl_append]; rfl

/-! ### what is so of the kinds found -/
structure KS (M : Machine) (ts : List Ty) : Prop where
  ok : ∀ τ ∈ ts, TyOk M τ
  first : ts[0]? = some (ty0 M)
  apart : ∀ (i j : Nat) (τ σ : Ty), ts[i]? = some τ → ts[j]? = some σ → i < j → ¬ KEq M M τ σ
/-- a piece is right -/
def PieceOk (M : Machine) (ts : List Ty) (at_ t s : Nat) (p : Piece) : Prop :=
  p.1 = movesR M (tyAt ts at_) t s ∧ p.2.1 = saysR M (tyAt ts at_) t s ∧ ∃ υ, ts[p.2.2]? = some υ ∧ KEq M M υ (kindR M (tyAt ts at_) t s)
def Ext (ts ts' : List Ty) : Prop := ∃ more, ts' = ts ++ more
theorem Ext.refl (ts : List Ty) : Ext ts ts := ⟨[], by simp⟩
theorem Ext.trans {a b c : List Ty} (h : Ext a b) (k : Ext b c) : Ext a c := by
  obtain ⟨x, rfl⟩ := h; obtain ⟨y, rfl⟩ := k; exact ⟨x ++ y, by simp⟩
theorem Ext.get {a b : List Ty} (h : Ext a b) {i : Nat} {τ : Ty} (e : a[i]? = some τ) : b[i]? = some τ := by
  obtain ⟨x, rfl⟩ := h
  rw [List.getElem?_append_left (List.getElem?_eq_some_iff.mp e).1]; exact e
theorem Ext.at_ {a b : List Ty} (h : Ext a b) {i : Nat} (hi : i < a.length) : tyAt b i = tyAt a i := by
  unfold tyAt
  rw [h.get (List.getElem?_eq_getElem hi), List.getElem?_eq_getElem hi]
theorem Ext.len {a b : List Ty} (h : Ext a b) : a.length ≤ b.length := by obtain ⟨x, rfl⟩ := h; simp
theorem PieceOk.ext {ts ts' : List Ty} {at_ t s : Nat} {p : Piece} (h : PieceOk M ts at_ t s p) (e : Ext ts ts') (ha : at_ < ts.length) : PieceOk M ts' at_ t s p := by
  obtain ⟨h1, h2, υ, h3, h4⟩ := h
  unfold PieceOk
  rw [e.at_ ha]
  exact ⟨h1, h2, υ, e.get h3, h4⟩
theorem tyAt_get {ts : List Ty} {i : Nat} (h : i < ts.length) : ts[i]? = some (tyAt ts i) := by unfold tyAt; rw [List.getElem?_eq_getElem h]; rfl
theorem tyAt_mem {ts : List Ty} {i : Nat} (h : i < ts.length) : tyAt ts i ∈ ts := List.mem_of_getElem? (tyAt_get h)
theorem conS_len (o : TyOk M τ) : (conS τ).2.length = M.regs := by show (shown τ.2).length = _; unfold shown; rw [List.length_map]; exact o.len
theorem kindR_ok (f : M.full) (o : TyOk M τ) (t s : Nat) : TyOk M (kindR M τ t s) := ty_ok (read_len f (conS_len o) t _)
open Classical in
theorem num_ok (f : M.full) {ts : List Ty} (k : KS M ts) (hne : ts ≠ []) (o : TyOk M κ) : KS M (numF M ts κ).2 ∧ Ext ts (numF M ts κ).2 ∧ ∃ υ, (numF M ts κ).2[(numF M ts κ).1]? = some υ ∧ KEq M M υ κ := by
  unfold numF
  cases e : ts.findIdx? fun υ => decide (KEq M M υ κ) with
  | some i =>
    obtain ⟨h1, h2, _⟩ := List.findIdx?_eq_some_iff_getElem.mp e
    exact ⟨k, Ext.refl _, ts[i], List.getElem?_eq_getElem h1, by simpa using h2⟩
  | none =>
    have hn := List.findIdx?_eq_none_iff.mp e
    refine ⟨⟨fun τ hτ => ?_, ?_, fun i j τ σ hi hj hij => ?_⟩, ⟨[κ], rfl⟩, κ, by simp, KEq.refl f o⟩
    · rcases List.mem_append.mp hτ with h | h
      · exact k.ok τ h
      · simp at h; rw [h]; exact o
    · have : 0 < ts.length := List.length_pos_iff.mpr hne
      rw [List.getElem?_append_left this]; exact k.first
    · by_cases hjl : j < ts.length
      · rw [List.getElem?_append_left hjl] at hj
        rw [List.getElem?_append_left (by omega)] at hi
        exact k.apart i j τ σ hi hj hij
      · have hj2 := (List.getElem?_eq_some_iff.mp hj).1
        rw [List.length_append] at hj2
        simp only [List.length_cons, List.length_nil] at hj2
        have : j = ts.length := by omega
        subst this
        rw [List.getElem?_append_right (Nat.le_refl _)] at hj
        simp at hj
        subst hj
        rw [List.getElem?_append_left hij] at hi
        have := hn τ (List.mem_of_getElem? hi)
        simpa using this
theorem KS.ne {ts : List Ty} (k : KS M ts) : ts ≠ [] := fun e => by have := k.first; rw [e] at this; simp at this
/-- a row in the making -/
structure RowOk (M : Machine) (ts0 : List Ty) (at_ t k : Nat) (S : List Ty × List Piece) : Prop where
  ks : KS M S.1
  ext : Ext ts0 S.1
  len : S.2.length = k
  ps : ∀ (s : Nat) p, S.2[s]? = some p → PieceOk M S.1 at_ t s p
theorem row_ok (f : M.full) {ts : List Ty} (ks : KS M ts) {at_ : Nat} (ha : at_ < ts.length) (t : Nat) : ∀ k, RowOk M ts at_ t k (rowF M ts at_ t k)
  | 0 => ⟨ks, Ext.refl _, rfl, fun s p h => by simp [rowF] at h⟩
  | k + 1 => by
    rw [rowF_succ]
    have r := row_ok f ks ha t k
    generalize rowF M ts at_ t k = S at r ⊢
    obtain ⟨A, B⟩ := S
    have ha' : at_ < A.length := Nat.lt_of_lt_of_le ha r.ext.len
    have o := kindR_ok f (r.ks.ok _ (tyAt_mem ha')) t k
    obtain ⟨h1, h2, υ, h3, h4⟩ := num_ok f r.ks r.ks.ne o
    refine ⟨h1, r.ext.trans h2, by show (B ++ [_]).length = _; rw [List.length_append, r.len]; rfl, fun s p hp => ?_⟩
    have hp : (B ++ [(caseF M A at_ t k).1])[s]? = some p := hp
    by_cases hs : s < B.length
    · rw [List.getElem?_append_left hs] at hp
      exact (r.ps s p hp).ext h2 ha'
    · rw [List.getElem?_append_right (by omega)] at hp
      have : s - B.length = 0 := by
        have := (List.getElem?_eq_some_iff.mp hp).1
        simp at this; omega
      rw [this] at hp
      simp at hp
      subst hp
      have : s = k := by have := r.len; simp only at this; omega
      subst this
      refine ⟨?_, ?_, υ, h3, ?_⟩
      · show movesR M (tyAt A at_) t s = movesR M (tyAt (numF M A _).2 at_) t s
        rw [h2.at_ ha']
      · show saysR M (tyAt A at_) t s = saysR M (tyAt (numF M A _).2 at_) t s
        rw [h2.at_ ha']
      · show KEq M M υ (kindR M (tyAt (numF M A _).2 at_) t s)
        rw [h2.at_ ha']; exact h4
structure RowsOk (M : Machine) (ts0 : List Ty) (at_ k T : Nat) (S : List Ty × List (List Piece)) : Prop where
  ks : KS M S.1
  ext : Ext ts0 S.1
  len : S.2.length = T
  rl : ∀ (t : Nat) r, S.2[t]? = some r → r.length = k
  ps : ∀ (t s : Nat) r p, S.2[t]? = some r → r[s]? = some p → PieceOk M S.1 at_ t s p
theorem rows_ok (f : M.full) {ts : List Ty} (ks : KS M ts) {at_ : Nat} (ha : at_ < ts.length) (k : Nat) : ∀ T, RowsOk M ts at_ k T (rowsF M ts at_ k T)
  | 0 => ⟨ks, Ext.refl _, rfl, fun s p h => by simp [rowsF] at h, fun s p r q h => by simp [rowsF] at h⟩
  | T + 1 => by
    rw [rowsF_succ]
    have r := rows_ok f ks ha k T
    generalize rowsF M ts at_ k T = S at r ⊢
    obtain ⟨A, B⟩ := S
    have ha' : at_ < A.length := Nat.lt_of_lt_of_le ha r.ext.len
    have w := row_ok f r.ks ha' T k
    have at_eq : ∀ (t : Nat) q, (B ++ [(rowF M A at_ T k).2])[t]? = some q → B[t]? = some q ∨ (t = T ∧ q = (rowF M A at_ T k).2) := by
      intro t q hq
      by_cases hs : t < B.length
      · rw [List.getElem?_append_left hs] at hq; exact .inl hq
      · rw [List.getElem?_append_right (by omega)] at hq
        have h0 : t - B.length = 0 := by
          have := (List.getElem?_eq_some_iff.mp hq).1
          simp at this; omega
        rw [h0] at hq
        simp at hq
        exact .inr ⟨by have := r.len; simp only at this; omega, hq.symm⟩
    refine ⟨w.ks, r.ext.trans w.ext, by show (B ++ [_]).length = _; rw [List.length_append, r.len]; rfl, fun t q hq => ?_, fun t s q p hq hp => ?_⟩
    · rcases at_eq t q hq with h | ⟨rfl, rfl⟩
      · exact r.rl t q h
      · exact w.len
    · rcases at_eq t q hq with h | ⟨rfl, rfl⟩
      · exact (r.ps t s q p h hp).ext w.ext ha'
      · exact w.ps s p hp
structure StOk (M : Machine) (S : St) : Prop where
  ks : KS M S.1
  le : S.2.length ≤ S.1.length
  sl : ∀ (a : Nat) rows, S.2[a]? = some rows → rows.length = M.tags
  rl : ∀ (a t : Nat) rows r, S.2[a]? = some rows → rows[t]? = some r → r.length = spots M S.1 a
  ps : ∀ (a t s : Nat) rows r p, S.2[a]? = some rows → rows[t]? = some r → r[s]? = some p → PieceOk M S.1 a t s p
theorem begin_len : (begin (α := Int) M).2.length = M.regs := by unfold begin; simp
theorem ty0_ok : TyOk M (ty0 M) := ty_ok begin_len
theorem kind_ok (f : M.full) {S : St} (h : StOk M S) (hl : S.2.length < S.1.length) : StOk M (kindF M S) ∧ (kindF M S).2.length = S.2.length + 1 ∧ S.1.length ≤ (kindF M S).1.length := by
  obtain ⟨A, B⟩ := S
  have w := rows_ok f h.ks hl (spots M A B.length) M.tags
  have at_eq : ∀ (t : Nat) q, (B ++ [(rowsF M A B.length (spots M A B.length) M.tags).2])[t]? = some q → B[t]? = some q ∨ (t = B.length ∧ q = (rowsF M A B.length (spots M A B.length) M.tags).2) := by
    intro t q hq
    by_cases hs : t < B.length
    · rw [List.getElem?_append_left hs] at hq; exact .inl hq
    · rw [List.getElem?_append_right (by omega)] at hq
      have h0 : t - B.length = 0 := by
        have := (List.getElem?_eq_some_iff.mp hq).1
        simp at this; omega
      rw [h0] at hq
      simp at hq
      exact .inr ⟨by omega, hq.symm⟩
  have spx : ∀ a, a < A.length → spots M (rowsF M A B.length (spots M A B.length) M.tags).1 a = spots M A a := fun a ha => by
    have e := w.ext.at_ (i := a) ha
    show 2 * (needs M (tyAt (rowsF M A B.length (spots M A B.length) M.tags).1 a)).length + 1 = 2 * (needs M (tyAt A a)).length + 1
    rw [show tyAt (rowsF M A B.length (spots M A B.length) M.tags).1 a = tyAt A a from e]
  have lb : ∀ (a : Nat) q, B[a]? = some q → a < A.length := fun a q hq => Nat.lt_of_lt_of_le (List.getElem?_eq_some_iff.mp hq).1 h.le
  refine ⟨⟨w.ks, ?_, fun a rows hq => ?_, fun a t rows r hq hr => ?_, fun a t s rows r p hq hr hp => ?_⟩, by show (B ++ [_]).length = _; simp, w.ext.len⟩
  · show (B ++ [_]).length ≤ (rowsF M A B.length (spots M A B.length) M.tags).1.length
    have : A.length ≤ (rowsF M A B.length (spots M A B.length) M.tags).1.length := w.ext.len
    have hl : B.length < A.length := hl
    simp only [List.length_append, List.length_cons, List.length_nil]; omega
  · rcases at_eq a rows hq with q | ⟨rfl, rfl⟩
    · exact h.sl a rows q
    · exact w.len
  · show r.length = spots M (rowsF M A B.length (spots M A B.length) M.tags).1 a
    rcases at_eq a rows hq with q | ⟨rfl, rfl⟩
    · rw [spx a (lb a _ q)]; exact h.rl a t rows r q hr
    · rw [spx _ hl]; exact w.rl t r hr
  · rcases at_eq a rows hq with q | ⟨rfl, rfl⟩
    · exact (h.ps a t s rows r p q hr hp).ext w.ext (lb a _ q)
    · exact w.ps t s r p hr hp
theorem run_ok (f : M.full) : ∀ n, StOk M (runK M n)
  | 0 => ⟨⟨fun τ h => by simp [runK] at h; rw [h]; exact ty0_ok, rfl, fun i j τ σ hi hj h => by
      simp only [runK] at hi hj
      have h1 := (List.getElem?_eq_some_iff.mp hj).1
      simp at h1; omega⟩, by simp [runK], fun a rows h => by simp [runK] at h, fun a t rows r h => by simp [runK] at h, fun a t s rows r p h => by simp [runK] at h⟩
  | n + 1 => by
    unfold runK
    split
    · rename_i h; exact (kind_ok f (run_ok f n) h).1
    · exact run_ok f n
/-- the end is reached -/
def Done (S : St) : Prop := S.2.length = S.1.length
end TH
-- text Th8
set_option linter.all false
set_option maxHeartbeats 1000000
/-! The least machine: alike to the machine; equal least machines exactly if alike. -/
namespace TH
variable {M N L : Machine} {τ σ υ κ : Ty} {vs us ws xs : List Rat}

/-! ### two machines side by side -/
theorem foldl_rel {α β γ : Type} {R : α → β → Prop} {f : α → γ → α} {g : β → γ → β} : ∀ (l : List γ) {a : α} {b : β}, R a b → (∀ a b x, x ∈ l → R a b → R (f a x) (g b x)) → R (l.foldl f a) (l.foldl g b)
  | [], _, _, h, _ => h
  | x :: l, _, _, h, k => foldl_rel l (k _ _ x (by simp) h) fun a b y hy => k a b y (by simp [hy])
/-- the same kinds in the same order -/
structure TR (M N : Machine) (ts us : List Ty) : Prop where
  len : ts.length = us.length
  okM : ∀ τ ∈ ts, TyOk M τ
  okN : ∀ τ ∈ us, TyOk N τ
  eq : ∀ (i : Nat) (τ σ : Ty), ts[i]? = some τ → us[i]? = some σ → KEq M N τ σ
/-- what a step of two types of one kind has in common -/
theorem step_same (fM : M.full) (fN : N.full) (ht : M.tags = N.tags) (o : TyOk M τ) (p : TyOk N σ) (k : KEq M N τ σ) {t s : Nat} (h1 : t < M.tags) (h2 : s < 2 * (needs M τ).length + 1) :
    movesR M τ t s = movesR N σ t s ∧ saysR M τ t s = saysR N σ t s ∧ KEq M N (kindR M τ t s) (kindR N σ t s) := by
  have sx : Sorted ((List.range (needs M τ).length).map fun (i : Nat) => (i : Rat)) := by
    refine List.pairwise_map.mpr (List.pairwise_lt_range.imp fun {a b} h => ?_)
    exact_mod_cast h
  -- any values, and one at the spot
  obtain ⟨v, mv⟩ : ∃ v : Rat, Mono (((s : Int), v) :: P0 ((List.range (needs M τ).length).map fun (i : Nat) => (i : Rat))) := by
    obtain ⟨v, m⟩ := extend (mono_P0 sx).flip (s : Int)
    refine ⟨v, ?_⟩
    intro p hp q hq
    have := m (p.2, p.1) ((List.mem_cons.mp hp).elim (fun e => by rw [e]; simp) fun hp => List.mem_cons_of_mem _ (flip_mem.mpr hp)) (q.2, q.1) ((List.mem_cons.mp hq).elim (fun e => by rw [e]; simp) fun hq => List.mem_cons_of_mem _ (flip_mem.mpr hq))
    exact this.symm
  generalize hxs : ((List.range (needs M τ).length).map fun (i : Nat) => (i : Rat)) = xs at sx mv
  have lx : xs.length = (needs M τ).length := by rw [← hxs]; simp
  obtain ⟨vs, vo, nvs, ek, es, em, a1, a2⟩ := piece_rat fM o sx lx h1 h2 mv
  obtain ⟨us, uo, nus, ek', es', em', b1, b2⟩ := piece_rat fN p sx (lx.trans k.1) (ht ▸ h1) (by rw [← k.1]; exact h2) mv
  have al : Alike M N (con τ vs) (con σ us) := k.2 vs us vo uo (nvs.trans nus.symm)
  have ans : (readM M (con τ vs) t v).2 = (readM N (con σ us) t v).2 := by
    have := al [(t, v)] (by simpa using h1)
    simp only [run, List.cons.injEq, and_true] at this
    exact this
  have al2 : Alike M N (readM M (con τ vs) t v).1 (readM N (con σ us) t v).1 := fun log hl => by
    have := al ((t, v) :: log) fun e he => (List.mem_cons.mp he).elim (fun e' => by rw [e']; exact h1) fun he => hl e he
    simp only [run, List.cons.injEq] at this
    exact this.2
  have oM := ty_ok (M := M) (read_len fM (con_len o (vs := vs)) t v)
  have oN := ty_ok (M := N) (read_len fN (con_len p (vs := us)) t v)
  have al3 : Alike M N (con (ty (readM M (con τ vs) t v).1) (known (readM M (con τ vs) t v).1.2)) (con (ty (readM N (con σ us) t v).1) (known (readM N (con σ us) t v).1.2)) := by rw [con_ty, con_ty]; exact al2
  have nn := needs_same fM fN ht oM oN (vs_ok _) (vs_ok _) al3
  refine ⟨?_, ?_, ?_⟩
  · rw [em, em', ek, ek', nn]
  · rw [es, es', ans]
  · rw [ek, ek']
    exact KEq.of_alike fM fN ht oM oN (vs_ok _) (vs_ok _) al3
theorem keq_iff (ht : M.tags = N.tags) {τ' σ' : Ty} (h : KEq M N τ σ) (h' : KEq M N τ' σ') : KEq M M τ τ' ↔ KEq N N σ σ' :=
  ⟨fun k => KEq.trans ht.symm (KEq.trans ht.symm (h.symm ht) k) h', fun k => KEq.trans ht (KEq.trans ht h k) (h'.symm ht)⟩
open Classical in
theorem num_same (fM : M.full) (fN : N.full) (ht : M.tags = N.tags) {ts us : List Ty} (r : TR M N ts us) (o : TyOk M κ) (p : TyOk N υ) (k : KEq M N κ υ) : (numF M ts κ).1 = (numF N us υ).1 ∧ TR M N (numF M ts κ).2 (numF N us υ).2 := by
  have fi : (ts.findIdx? fun τ => decide (KEq M M τ κ)) = us.findIdx? fun σ => decide (KEq N N σ υ) := by
    have hl := r.len
    have he := r.eq
    clear r
    induction ts generalizing us with
    | nil => cases us with
      | nil => rfl
      | cons _ _ => simp at hl
    | cons a ts ih => cases us with
      | nil => simp at hl
      | cons b us =>
        rw [List.findIdx?_cons, List.findIdx?_cons]
        have e : decide (KEq M M a κ) = decide (KEq N N b υ) := decide_eq_decide.mpr (keq_iff ht (he 0 a b rfl rfl) k)
        rw [e, ih (us := us) (by simpa using hl) fun i τ σ h1 h2 => he (i + 1) τ σ (by simpa using h1) (by simpa using h2)]
  unfold numF
  rw [fi]
  cases us.findIdx? fun σ => decide (KEq N N σ υ) with
  | some i => exact ⟨rfl, r⟩
  | none =>
    refine ⟨r.len, ⟨by simp [r.len], fun τ h => ?_, fun τ h => ?_, fun i τ σ h1 h2 => ?_⟩⟩
    · rcases List.mem_append.mp h with h | h
      · exact r.okM τ h
      · simp at h; rw [h]; exact o
    · rcases List.mem_append.mp h with h | h
      · exact r.okN τ h
      · simp at h; rw [h]; exact p
    · by_cases hi : i < ts.length
      · rw [List.getElem?_append_left hi] at h1
        rw [List.getElem?_append_left (by rw [← r.len]; exact hi)] at h2
        exact r.eq i τ σ h1 h2
      · rw [List.getElem?_append_right (by omega)] at h1
        rw [List.getElem?_append_right (by rw [← r.len]; omega)] at h2
        have : i - ts.length = 0 := by
          have := (List.getElem?_eq_some_iff.mp h1).1
          simp at this; omega
        rw [← r.len, this] at h2
        rw [this] at h1
        simp at h1 h2
        rw [← h1, ← h2]; exact k
theorem TR.at_ {ts us : List Ty} (r : TR M N ts us) {i : Nat} (h : i < ts.length) : TyOk M (tyAt ts i) ∧ TyOk N (tyAt us i) ∧ KEq M N (tyAt ts i) (tyAt us i) := by
  have h' : i < us.length := by rw [← r.len]; exact h
  exact ⟨r.okM _ (tyAt_mem h), r.okN _ (tyAt_mem h'), r.eq i _ _ (tyAt_get h) (tyAt_get h')⟩
theorem row_same (fM : M.full) (fN : N.full) (ht : M.tags = N.tags) {ts us : List Ty} (r : TR M N ts us) {at_ : Nat} (ha : at_ < ts.length) {t : Nat} (h1 : t < M.tags) : ∀ k, k ≤ spots M ts at_ →
    TR M N (rowF M ts at_ t k).1 (rowF N us at_ t k).1 ∧ (rowF M ts at_ t k).2 = (rowF N us at_ t k).2 ∧ Ext ts (rowF M ts at_ t k).1 ∧ Ext us (rowF N us at_ t k).1
  | 0, _ => ⟨r, rfl, Ext.refl _, Ext.refl _⟩
  | k + 1, hk => by
    rw [rowF_succ, rowF_succ]
    obtain ⟨q, e, x1, x2⟩ := row_same fM fN ht r ha h1 k (by omega)
    generalize rowF M ts at_ t k = S at q e x1 ⊢
    generalize rowF N us at_ t k = S' at q e x2 ⊢
    obtain ⟨A, B⟩ := S
    obtain ⟨A', B'⟩ := S'
    simp only at q e x1 x2
    subst e
    have ha2 : at_ < A.length := Nat.lt_of_lt_of_le ha x1.len
    obtain ⟨o, p, ke⟩ := q.at_ ha2
    have hk' : k < 2 * (needs M (tyAt A at_)).length + 1 := by
      rw [x1.at_ ha]
      have : spots M ts at_ = 2 * (needs M (tyAt ts at_)).length + 1 := rfl
      omega
    obtain ⟨e1, e2, e3⟩ := step_same fM fN ht o p ke h1 hk'
    obtain ⟨n1, n2⟩ := num_same fM fN ht q (kindR_ok fM o t k) (kindR_ok fN p t k) e3
    refine ⟨n2, ?_, ?_, ?_⟩
    · show B ++ [_] = B ++ [_]
      unfold caseF
      rw [e1, e2, n1]
    · refine x1.trans ?_
      show Ext A (numF M A _).2
      unfold numF
      split
      · exact Ext.refl _
      · exact ⟨_, rfl⟩
    · refine x2.trans ?_
      show Ext A' (numF N A' _).2
      unfold numF
      split
      · exact Ext.refl _
      · exact ⟨_, rfl⟩
theorem rows_same (fM : M.full) (fN : N.full) (ht : M.tags = N.tags) {ts us : List Ty} (r : TR M N ts us) {at_ : Nat} (ha : at_ < ts.length) : ∀ T, T ≤ M.tags →
    TR M N (rowsF M ts at_ (spots M ts at_) T).1 (rowsF N us at_ (spots N us at_) T).1 ∧ (rowsF M ts at_ (spots M ts at_) T).2 = (rowsF N us at_ (spots N us at_) T).2 ∧ Ext ts (rowsF M ts at_ (spots M ts at_) T).1 ∧ Ext us (rowsF N us at_ (spots N us at_) T).1
  | 0, _ => ⟨r, rfl, Ext.refl _, Ext.refl _⟩
  | T + 1, hT => by
    rw [rowsF_succ, rowsF_succ]
    obtain ⟨q, e, x1, x2⟩ := rows_same fM fN ht r ha T (by omega)
    have es : spots N us at_ = spots M ts at_ := by
      have := (r.at_ ha).2.2.1
      unfold spots; rw [this]
    rw [es] at q e x2 ⊢
    generalize rowsF M ts at_ (spots M ts at_) T = S at q e x1 ⊢
    generalize rowsF N us at_ (spots M ts at_) T = S' at q e x2 ⊢
    obtain ⟨A, B⟩ := S
    obtain ⟨A', B'⟩ := S'
    simp only at q e x1 x2
    subst e
    have ha2 : at_ < A.length := Nat.lt_of_lt_of_le ha x1.len
    have es2 : spots M A at_ = spots M ts at_ := by unfold spots; rw [x1.at_ ha]
    obtain ⟨w1, w2, w3, w4⟩ := row_same fM fN ht q ha2 (t := T) (by omega) (spots M ts at_) (by omega)
    refine ⟨w1, ?_, x1.trans w3, x2.trans w4⟩
    show B ++ [_] = B ++ [_]
    rw [w2]
theorem ty0_same (fM : M.full) (fN : N.full) (ht : M.tags = N.tags) (al : Alike M N (begin (α := Rat) M) (begin N)) : KEq M N (ty0 M) (ty0 N) := by
  have e : ∀ M : Machine, ty0 M = ty (begin (α := Rat) M) := by
    intro M
    unfold ty0 ty begin
    simp only
    congr 1
    have m : Mono ([] : List (Int × Rat)) := fun p hp => by simp at hp
    refine ranks_rel m ?_
    have : ∀ n, All2 (RO ([] : List (Int × Rat))) (List.replicate n none) (List.replicate n none) := by
      intro n
      induction n with
      | zero => exact .nil
      | succ n ih => exact .cons trivial ih
    exact this _
  rw [e, e]
  have bl : ∀ M : Machine, (begin (α := Rat) M).2.length = M.regs := fun M => by unfold begin; simp
  exact KEq.of_alike fM fN ht (ty_ok (bl M)) (ty_ok (bl N)) (vs_ok _) (vs_ok _) (by rw [con_ty, con_ty]; exact al)
/-- alike machines have the same kinds, and the same steps of them -/
theorem run_same (fM : M.full) (fN : N.full) (ht : M.tags = N.tags) (al : Alike M N (begin (α := Rat) M) (begin N)) : ∀ n, TR M N (runK M n).1 (runK N n).1 ∧ (runK M n).2 = (runK N n).2
  | 0 => ⟨⟨rfl, fun τ h => by simp [runK] at h; rw [h]; exact ty0_ok, fun τ h => by simp [runK] at h; rw [h]; exact ty0_ok, fun i τ σ h1 h2 => by
      simp only [runK] at h1 h2
      have : i = 0 := by
        have := (List.getElem?_eq_some_iff.mp h1).1
        simp at this; omega
      subst this
      simp at h1 h2
      rw [← h1, ← h2]; exact ty0_same fM fN ht al⟩, rfl⟩
  | n + 1 => by
    obtain ⟨r, e⟩ := run_same fM fN ht al n
    unfold runK
    rw [e, r.len]
    split
    · rename_i h
      have h' : (runK M n).2.length < (runK M n).1.length := by rw [e, r.len]; exact h
      obtain ⟨w1, w2, _, _⟩ := rows_same fM fN ht r h' M.tags (Nat.le_refl _)
      unfold kindF
      rw [← ht, ← e]
      refine ⟨w1, ?_⟩
      show _ ++ [_] = _ ++ [_]
      rw [w2]
    · exact ⟨r, e⟩
end TH
-- text Th9
set_option linter.all false
set_option maxHeartbeats 1000000
/-! The least machine: alike to the machine; equal least machines exactly if alike. -/
namespace TH
variable {M N L : Machine} {τ σ υ κ : Ty} {vs us ws xs : List Rat}
def spotCond (n s : Nat) : Cond :=
  if s % 2 = 1 then .same (-1) ((s / 2 : Nat) : Int) else if n = 0 then .tt else if s / 2 = 0 then .less (-1) 0 else if s / 2 = n then .less ((n : Int) - 1) (-1)
  else .all [.less (((s / 2 : Nat) : Int) - 1) (-1), .less (-1) ((s / 2 : Nat) : Int)]
def leastC (R n s : Nat) (p : Piece) : Case := ⟨spotCond n s, p.1 ++ List.replicate (R - p.1.length) (-2), p.2.1, p.2.2⟩
noncomputable def regsK (M : Machine) (ts : List Ty) : Nat := (ts.map fun τ => (needs M τ).length).foldl max 0
noncomputable def leastM (M : Machine) (S : St) : Machine := ⟨M.tags, regsK M S.1, S.2.mapIdx fun a rows => rows.map fun row => row.mapIdx fun s p => leastC (regsK M S.1) (needs M (tyAt S.1 a)).length s p⟩
theorem foldl_max_le : ∀ (l : List Nat) (a x : Nat), (x ≤ a ∨ x ∈ l) → x ≤ l.foldl max a
  | [], a, x, h => by
    rcases h with h | h
    · exact h
    · simp at h
  | b :: l, a, x, h => by
    rw [List.foldl_cons]
    refine foldl_max_le l _ x ?_
    rcases h with h | h
    · exact .inl (by omega)
    · rcases List.mem_cons.mp h with e | h
      · exact .inl (by omega)
      · exact .inr h
theorem regs_ge {ts : List Ty} (h : τ ∈ ts) : (needs M τ).length ≤ regsK M ts := foldl_max_le _ _ _ (.inr (List.mem_map.mpr ⟨τ, h, rfl⟩))
theorem src_reg {n k i : Nat} {v : Rat} {x : Rat} (h : xs[i]? = some x) : src (i : Int) v (xs.map some ++ List.replicate k none) = some x := by
  unfold src
  rw [if_neg (by omega), if_neg (by omega)]
  rw [List.getElem?_append_left (by rw [List.length_map]; exact (List.getElem?_eq_some_iff.mp (by simpa using h)).1)]
  rw [List.getElem?_map, Int.toNat_natCast, h]; rfl
theorem src_read {v : Rat} {h : Held Rat} : src (-1) v h = some v := by unfold src; rw [if_pos rfl]
theorem cond_spot {n k s j : Nat} {v : Rat} (lx : xs.length = n) (mv : Mono (((s : Int), v) :: P0 xs)) (hs : s < 2 * n + 1) (hj : j < 2 * n + 1) : holds (spotCond n j) v (xs.map some ++ List.replicate k none) = decide (j = s) := by
  have sp : ∀ (i : Nat) (x : Rat), xs[i]? = some x → (x < v ↔ 2 * i + 1 < s) ∧ (v < x ↔ s < 2 * i + 1) ∧ (v = x ↔ s = 2 * i + 1) := by
    intro i x hx
    have hm : (2 * (i : Int) + 1, x) ∈ ((s : Int), v) :: P0 xs := List.mem_cons_of_mem _ (mem_P0.mpr ⟨i, hx, rfl⟩)
    have k1 := mv _ hm _ List.mem_cons_self
    have k2 := mv _ List.mem_cons_self _ hm
    have k3 := mv.eq_iff List.mem_cons_self hm
    simp only at k1 k2 k3
    rw [← k1, ← k2, ← k3]; omega
  unfold spotCond
  by_cases h1 : j % 2 = 1
  · rw [if_pos h1]
    obtain ⟨x, hx⟩ := get_lt (l := xs) (i := j / 2) (by omega)
    simp only [holds]
    rw [src_read, src_reg (n := n) hx]
    refine decide_eq_decide.mpr ?_
    rw [(sp _ x hx).2.2]; omega
  · rw [if_neg h1]
    by_cases h2 : n = 0
    · rw [if_pos h2]
      simp only [holds]
      have : j = s := by omega
      simp [this]
    · rw [if_neg h2]
      by_cases h3 : j / 2 = 0
      · rw [if_pos h3]
        obtain ⟨x, hx⟩ := get_lt (l := xs) (i := 0) (by omega)
        have e := src_reg (n := n) (k := k) (v := v) hx
        simp only [holds]
        rw [src_read, show src (0 : Int) v (xs.map some ++ List.replicate k none) = some x from e]
        refine decide_eq_decide.mpr ?_
        rw [(sp _ x hx).2.1]; omega
      · rw [if_neg h3]
        by_cases h4 : j / 2 = n
        · rw [if_pos h4]
          obtain ⟨x, hx⟩ := get_lt (l := xs) (i := n - 1) (by omega)
          have e := src_reg (n := n) (k := k) (v := v) hx
          rw [show (((n - 1 : Nat) : Int)) = (n : Int) - 1 by omega] at e
          simp only [holds]
          rw [src_read, e]
          refine decide_eq_decide.mpr ?_
          rw [(sp _ x hx).1]; omega
        · rw [if_neg h4]
          obtain ⟨x, hx⟩ := get_lt (l := xs) (i := j / 2 - 1) (by omega)
          obtain ⟨y, hy⟩ := get_lt (l := xs) (i := j / 2) (by omega)
          have e := src_reg (n := n) (k := k) (v := v) hx
          have e2 := src_reg (n := n) (k := k) (v := v) hy
          rw [show (((j / 2 - 1 : Nat) : Int)) = ((j / 2 : Nat) : Int) - 1 by omega] at e
          simp only [holds, holdsL, List.all_cons, List.all_nil, id, Bool.and_true]
          rw [src_read, e, e2]
          simp only
          rw [← Bool.decide_and]
          refine decide_eq_decide.mpr ?_
          rw [(sp _ x hx).1, (sp _ y hy).2.1]; omega
theorem find_at {α : Type} {p : α → Bool} : ∀ {l : List α} {s : Nat} {x : α}, l[s]? = some x → (∀ (i : Nat) y, l[i]? = some y → (p y = true ↔ i = s)) → l.find? p = some x
  | [], _, _, h, _ => by simp at h
  | a :: l, 0, x, h, k => by
    simp at h; subst h
    rw [List.find?_cons, (k 0 a rfl).mpr rfl]
  | a :: l, s + 1, x, h, k => by
    have : p a = false := by
      cases e : p a with
      | false => rfl
      | true => have := (k 0 a rfl).mp e; omega
    rw [List.find?_cons, this]
    exact find_at (by simpa using h) fun i y hy => by have := k (i + 1) y (by simpa using hy); rw [this]; omega
theorem ty0_eq : ty0 M = ty (begin (α := Rat) M) := by
  unfold ty0 ty begin
  simp only
  congr 1
  have m : Mono ([] : List (Int × Rat)) := fun p hp => by simp at hp
  refine ranks_rel m ?_
  have : ∀ n, All2 (RO ([] : List (Int × Rat))) (List.replicate n none) (List.replicate n none) := by
    intro n
    induction n with
    | zero => exact .nil
    | succ n ih => exact .cons trivial ih
  exact this _

/-! ### the least machine does what the machine does -/
structure Sim (M : Machine) (S : St) (k : Nat) (hl : Held Rat) (c : Con Rat) : Prop where
  lt : k < S.1.length
  len : c.2.length = M.regs
  kind : KEq M M (tyAt S.1 k) (ty c)
  held : hl = (nv M (ty c) (known c.2)).map some ++ List.replicate (regsK M S.1 - (needs M (tyAt S.1 k)).length) none
theorem sim_step (f : M.full) {S : St} (ok : StOk M S) (dn : Done S) {k : Nat} {hl : Held Rat} {c : Con Rat} (h : Sim M S k hl c) {t : Nat} (ht : t < M.tags) (v : Rat) :
    (readM (leastM M S) (k, hl) t v).2 = (readM M c t v).2 ∧ Sim M S (readM (leastM M S) (k, hl) t v).1.1 (readM (leastM M S) (k, hl) t v).1.2 (readM M c t v).1 := by
  obtain ⟨lt, len, kind, held⟩ := h
  have o : TyOk M (tyAt S.1 k) := ok.ks.ok _ (tyAt_mem lt)
  generalize hxs : nv M (ty c) (known c.2) = xs at held
  have sx : Sorted xs := by rw [← hxs]; exact nv_sorted (known_sorted _)
  have lx : xs.length = (needs M (tyAt S.1 k)).length := by rw [← hxs, nv_len (vs_ok c)]; exact kind.1.symm
  obtain ⟨s, hs, mv⟩ := spot_of sx v
  rw [lx] at hs
  obtain ⟨vs, vo, nvs, ek, es, em, a1, a2⟩ := piece_rat f o sx lx ht hs mv
  -- the row, the piece
  obtain ⟨rows, hrows⟩ : ∃ rows, S.2[k]? = some rows := ⟨_, List.getElem?_eq_getElem (by rw [dn]; exact lt)⟩
  obtain ⟨row, hrow⟩ : ∃ row, rows[t]? = some row := ⟨_, List.getElem?_eq_getElem (by rw [ok.sl k rows hrows]; exact ht)⟩
  have lrow := ok.rl k t rows row hrows hrow
  obtain ⟨p, hp⟩ : ∃ p, row[s]? = some p := ⟨_, List.getElem?_eq_getElem (by rw [lrow]; exact hs)⟩
  obtain ⟨p1, p2, υ, p3, p4⟩ := ok.ps k t s rows row p hrows hrow hp
  have cases : (leastM M S).at_ k t = row.mapIdx fun s p => leastC (regsK M S.1) (needs M (tyAt S.1 k)).length s p := by
    show ((((S.2.mapIdx _)[k]?).getD [])[t]?).getD [] = _
    rw [List.getElem?_mapIdx, hrows]
    simp only [Option.map_some, Option.getD_some]
    rw [List.getElem?_map, hrow]
    rfl
  have fd : ((leastM M S).at_ k t).find? (fun q => holds q.cond v hl) = some (leastC (regsK M S.1) (needs M (tyAt S.1 k)).length s p) := by
    rw [cases]
    refine find_at (s := s) (by rw [List.getElem?_mapIdx, hp]; rfl) fun i y hy => ?_
    rw [List.getElem?_mapIdx] at hy
    cases hi : row[i]? with
    | none => rw [hi] at hy; cases hy
    | some q =>
      rw [hi] at hy
      simp only [Option.map_some, Option.some.injEq] at hy
      subst hy
      show holds (spotCond _ i) v hl = true ↔ _
      have hi2 : i < 2 * (needs M (tyAt S.1 k)).length + 1 := by
        have := (List.getElem?_eq_some_iff.mp hi).1
        rw [lrow] at this; exact this
      rw [held, cond_spot lx mv hs hi2, decide_eq_true_eq]
  have rd : readM (leastM M S) (k, hl) t v = doCase (leastC (regsK M S.1) (needs M (tyAt S.1 k)).length s p) v hl := by
    unfold readM
    simp only
    rw [fd]
  -- sources give back their values
  have back : ∀ y : Option Rat, (∀ z, y = some z → z = v ∨ z ∈ xs) → src (srcR xs v y) v hl = y := by
    intro y hy
    cases y with
    | none => show src (-2) v hl = none; unfold src; rw [if_neg (by decide), if_pos rfl]
    | some z =>
      show src (if z = v then -1 else _) v hl = some z
      by_cases c : z = v
      · rw [if_pos c, src_read, c]
      · rw [if_neg c]
        rcases hy z rfl with q | q
        · exact absurd q c
        · obtain ⟨i, hi⟩ := List.mem_iff_getElem?.mp q
          rw [idx_nodupR sx hi, held]
          exact src_reg (n := 0) hi
  -- the other contents
  have al : Alike M M (con (tyAt S.1 k) vs) c := by
    have := kind.2 vs (known c.2) vo (vs_ok c) (nvs.trans hxs.symm)
    rw [con_ty] at this; exact this
  have ans : (readM M (con (tyAt S.1 k) vs) t v).2 = (readM M c t v).2 := by
    have := al [(t, v)] (by simpa using ht)
    simp only [run, List.cons.injEq, and_true] at this
    exact this
  have al2 : Alike M M (readM M (con (tyAt S.1 k) vs) t v).1 (readM M c t v).1 := fun log hl => by
    have := al ((t, v) :: log) fun e he => (List.mem_cons.mp he).elim (fun e' => by rw [e']; exact ht) fun he => hl e he
    simp only [run, List.cons.injEq] at this
    exact this.2
  have o1 := ty_ok (M := M) (read_len f (con_len o (vs := vs)) t v)
  have l2 : (readM M c t v).1.2.length = M.regs := read_len f len t v
  have al3 : Alike M M (con (ty (readM M (con (tyAt S.1 k) vs) t v).1) (known (readM M (con (tyAt S.1 k) vs) t v).1.2)) (con (ty (readM M c t v).1) (known (readM M c t v).1.2)) := by rw [con_ty, con_ty]; exact al2
  have nn := needs_same f f rfl o1 (ty_ok l2) (vs_ok _) (vs_ok _) al3
  have kk := KEq.of_alike f f rfl o1 (ty_ok l2) (vs_ok _) (vs_ok _) al3
  rw [rd]
  have hb : p.2.2 < S.1.length := (List.getElem?_eq_some_iff.mp p3).1
  have eb : tyAt S.1 p.2.2 = υ := by have := tyAt_get hb; rw [p3] at this; exact (Option.some.inj this).symm
  have ke : KEq M M υ (ty (readM M c t v).1) := KEq.trans rfl p4 (by rw [ek]; exact kk)
  have ml : p.1.length = (needs M υ).length := by
    rw [p1]; unfold movesR; rw [List.length_map]; exact p4.1.symm
  refine ⟨?_, hb, l2, by rw [show (doCase _ v hl).1.1 = p.2.2 from rfl, eb]; exact ke, ?_⟩
  · show (p.2.1).map (fun q => (q.1, src q.2 v hl)) = _
    rw [p2, es, ← ans, List.map_map]
    have : ∀ q ∈ (readM M (con (tyAt S.1 k) vs) t v).2, ((fun q : Int × Int => (q.1, src q.2 v hl)) ∘ fun q : Int × Option Rat => (q.1, srcR xs v q.2)) q = q := by
      intro q hq
      show (q.1, src (srcR xs v q.2) v hl) = q
      rw [back q.2 fun z hz => a1 q.1 z (by rw [← hz]; exact hq)]
    rw [List.map_congr_left this]; simp
  · show (p.1 ++ List.replicate (regsK M S.1 - p.1.length) (-2)).map (fun s => src s v hl) = _ ++ List.replicate (regsK M S.1 - (needs M (tyAt S.1 p.2.2)).length) none
    rw [List.map_append, eb, ← ml]
    congr 1
    · rw [p1, em, List.map_map, ← nn, ek]
      refine List.map_congr_left fun y hy => ?_
      show src (srcR xs v (some y)) v hl = some y
      exact back (some y) fun z hz => by cases hz; exact a2 y (by rw [ek]; exact hy)
    · rw [List.map_replicate]
      congr 1
theorem sim_run (f : M.full) {S : St} (ok : StOk M S) (dn : Done S) : ∀ (log : List (Nat × Rat)) {k : Nat} {hl : Held Rat} {c : Con Rat}, Sim M S k hl c → (∀ e ∈ log, e.1 < M.tags) → run M c log = run (leastM M S) (k, hl) log
  | [], _, _, _, _, _ => rfl
  | (t, v) :: log, k, hl, c, h, ht => by
    obtain ⟨h1, h2⟩ := sim_step f ok dn h (ht (t, v) (by simp)) v
    show _ :: _ = _ :: _
    rw [h1, sim_run f ok dn log h2 fun e he => ht e (by simp [he])]
theorem least_alike (f : M.full) {S : St} (ok : StOk M S) (dn : Done S) : Alike M (leastM M S) (begin (α := Rat) M) (begin (leastM M S)) := by
  intro log hl
  have h0 : 0 < S.1.length := (List.getElem?_eq_some_iff.mp ok.ks.first).1
  have e0 : tyAt S.1 0 = ty0 M := by have := tyAt_get h0; rw [ok.ks.first] at this; exact (Option.some.inj this).symm
  have kn : known (begin (α := Rat) M).2 = [] := by
    cases e : known (begin (α := Rat) M).2 with
    | nil => rfl
    | cons a l =>
      have : some a ∈ (begin (α := Rat) M).2 := (mem_known _ _).mp (by rw [e]; simp)
      unfold begin at this
      simp at this
  have nz : needs M (ty0 M) = [] := by
    cases e : needs M (ty0 M) with
    | nil => rfl
    | cons a l =>
      have := (mem_needs.mp (show a ∈ needs M (ty0 M) by rw [e]; simp)).1
      rw [ty0_eq] at this
      have h2 : many (ty (begin (α := Rat) M)).2 = 0 := by
        show many (ranks _) = 0
        rw [many_ranks, kn]; rfl
      omega
  refine sim_run f ok dn log ⟨h0, by unfold begin; simp, by rw [e0, ty0_eq]; exact KEq.refl f (ty_ok (by unfold begin; simp)), ?_⟩ hl
  rw [e0, nz, ← ty0_eq]
  unfold nv
  rw [nz]
  simp [begin, leastM]
theorem least_full (f : M.full) {S : St} (ok : StOk M S) : (leastM M S).full := by
  intro st t k hk
  unfold Machine.at_ at hk
  show k.moves.length = regsK M S.1
  cases e : (leastM M S).steps[st]? with
  | none => rw [e] at hk; simp at hk
  | some rows' =>
    rw [e] at hk
    have e' : (S.2.mapIdx fun a rows => rows.map fun row => row.mapIdx fun s p => leastC (regsK M S.1) (needs M (tyAt S.1 a)).length s p)[st]? = some rows' := e
    rw [List.getElem?_mapIdx] at e'
    cases hr : S.2[st]? with
    | none => rw [hr] at e'; cases e'
    | some rows =>
      rw [hr] at e'
      simp only [Option.map_some, Option.some.injEq] at e'
      subst e'
      simp only [Option.getD_some] at hk
      rw [List.getElem?_map] at hk
      cases hw : rows[t]? with
      | none => rw [hw] at hk; simp at hk
      | some row =>
        rw [hw] at hk
        simp only [Option.map_some, Option.getD_some] at hk
        obtain ⟨s, hs⟩ := List.mem_iff_getElem?.mp hk
        rw [List.getElem?_mapIdx] at hs
        cases hp : row[s]? with
        | none => rw [hp] at hs; cases hs
        | some p =>
          rw [hp] at hs
          simp only [Option.map_some, Option.some.injEq] at hs
          subst hs
          obtain ⟨p1, _, υ, p3, p4⟩ := ok.ps st t s rows row p hr hw hp
          have ml : p.1.length = (needs M υ).length := by
            rw [p1]; unfold movesR; rw [List.length_map]; exact p4.1.symm
          have := regs_ge (M := M) (List.mem_of_getElem? p3)
          show (p.1 ++ List.replicate (regsK M S.1 - p.1.length) (-2)).length = _
          rw [List.length_append, List.length_replicate]; omega
/-- alike over the rationals: alike over the whole numbers -/
theorem alike_int (fM : M.full) (fN : N.full) (h : Alike M N (begin (α := Rat) M) (begin N)) : Alike M N (begin (α := Int) M) (begin N) := by
  have l : ∀ {α : Type} [LT α] [DecidableLT α] [DecidableEq α] (M : Machine), (begin (α := α) M).2.length = M.regs := fun M => by unfold begin; simp
  have m : Mono ([] : List (Rat × Int)) := fun p hp => by simp at hp
  have r : ∀ M : Machine, RC ([] : List (Rat × Int)) (begin (α := Rat) M) (begin (α := Int) M) := fun M => ⟨rfl, by
    have : ∀ n, All2 (RO ([] : List (Rat × Int))) (List.replicate n none) (List.replicate n none) := by
      intro n
      induction n with
      | zero => exact .nil
      | succ n ih => exact .cons trivial ih
    exact this _⟩
  exact transfer fM fN m (r M) (r N) (l M) (l N) h
/-- parted from the beginning, by spots -/
abbrev Parted (M N : Machine) : Prop := PJ M N (joint (begin (α := Int) M) (begin N))
theorem parted_iff (fM : M.full) (fN : N.full) : ¬ Parted M N ↔ Alike M N (begin (α := Rat) M) (begin N) := by
  have l : ∀ {α : Type} [LT α] [DecidableLT α] [DecidableEq α] (M : Machine), (begin (α := α) M).2.length = M.regs := fun M => by unfold begin; simp
  have m : Mono ([] : List (Int × Rat)) := fun p hp => by simp at hp
  have r : ∀ M : Machine, RC ([] : List (Int × Rat)) (begin (α := Int) M) (begin (α := Rat) M) := fun M => ⟨rfl, by
    have : ∀ n, All2 (RO ([] : List (Int × Rat))) (List.replicate n none) (List.replicate n none) := by
      intro n
      induction n with
      | zero => exact .nil
      | succ n ih => exact .cons trivial ih
    exact this _⟩
  show ¬ PJ M N (joint (begin (α := Int) M) (begin N)) ↔ _
  rw [alike_iff fM fN (l M) (l N), joint_congr m (r M) (r N)]
theorem runK_done {n : Nat} (h : Done (runK M n)) : ∀ m, n ≤ m → runK M m = runK M n := by
  intro m hm
  induction m with
  | zero => have : n = 0 := by omega
            rw [this]
  | succ m ih =>
    by_cases e : n = m + 1
    · rw [e]
    · have := ih (by omega)
      show (if (runK M m).2.length < (runK M m).1.length then kindF M (runK M m) else runK M m) = runK M n
      rw [this]
      have hd : (runK M n).2.length = (runK M n).1.length := h
      rw [if_neg (by omega)]
/-- equal exactly if alike -/
theorem least_eq_iff (fM : M.full) (fN : N.full) (ht : M.tags = N.tags) {n m : Nat} (dM : Done (runK M n)) (dN : Done (runK N m)) : leastM M (runK M n) = leastM N (runK N m) ↔ ¬ Parted M N := by
  rw [parted_iff fM fN]
  constructor
  · intro e
    have a := least_alike fM (run_ok fM n) dM
    have b := least_alike fN (run_ok fN m) dN
    rw [← e] at b
    exact Alike.trans (M := M) (N := leastM M (runK M n)) (L := N) rfl a (Alike.symm (show N.tags = M.tags from ht.symm) b)
  · intro al
    obtain ⟨r, e⟩ := run_same fM fN ht al (max n m)
    rw [runK_done dM _ (by omega), runK_done dN _ (by omega)] at r e
    unfold leastM
    have hn : ∀ a, (needs M (tyAt (runK M n).1 a)).length = (needs N (tyAt (runK N m).1 a)).length := by
      intro a
      by_cases ha : a < (runK M n).1.length
      · exact (r.at_ ha).2.2.1
      · have h1 : tyAt (runK M n).1 a = (0, []) := by unfold tyAt; rw [List.getElem?_eq_none (by omega)]; rfl
        have h2 : tyAt (runK N m).1 a = (0, []) := by unfold tyAt; rw [List.getElem?_eq_none (by rw [← r.len]; omega)]; rfl
        rw [h1, h2]
        rfl
    have hr : regsK M (runK M n).1 = regsK N (runK N m).1 := by
      unfold regsK
      congr 1
      apply List.ext_getElem?
      intro i
      rw [List.getElem?_map, List.getElem?_map]
      by_cases hi : i < (runK M n).1.length
      · have := hn i
        rw [tyAt_get hi, tyAt_get (by rw [← r.len]; exact hi)]
        simp only [Option.map_some]
        rw [this]
      · rw [List.getElem?_eq_none (by omega), List.getElem?_eq_none (by rw [← r.len]; omega)]; rfl
    rw [ht, hr, e]
    congr 1
    refine congrArg (fun f => List.mapIdx f _) ?_
    funext a rows
    rw [hn a]
end TH
-- text Th10
set_option linter.all false
set_option maxHeartbeats 1000000
/-! Counting joints; what a search over joints shows. -/
namespace TH
theorem nodup_lt : ∀ (B : Nat) (l : List Nat), l.Nodup → (∀ x ∈ l, x < B) → l.length ≤ B
  | 0, l, _, h => by
    cases l with
    | nil => simp
    | cons a l => exact absurd (h a (by simp)) (by omega)
  | B + 1, l, nd, h => by
    have e := List.length_eq_countP_add_countP (fun x => x == B) (l := l)
    have c1 : l.countP (fun x => x == B) ≤ 1 := (List.nodup_iff_count.mp nd) B
    have c2 : l.countP (fun x => !(x == B)) = (l.filter fun x => !(x == B)).length := List.countP_eq_length_filter
    have c3 := nodup_lt B (l.filter fun x => !(x == B)) (nd.sublist List.filter_sublist) fun x hx => by
      rw [List.mem_filter] at hx
      have := h x hx.1
      have : x ≠ B := by simpa using hx.2
      omega
    have c4 : l.countP (fun a => decide ¬(a == B) = true) = l.countP (fun x => !(x == B)) := by
      congr 1
      funext x
      cases x == B <;> rfl
    omega
theorem nodup_bound {α : Type} (f : α → Nat) (B : Nat) (l : List α) (nd : l.Nodup) (inj : ∀ x ∈ l, ∀ y ∈ l, f x = f y → x = y) (hb : ∀ x ∈ l, f x < B) : l.length ≤ B := by
  have := nodup_lt B (l.map f) (by
    rw [List.nodup_iff_pairwise_ne, List.pairwise_map]
    refine List.Pairwise.imp_of_mem ?_ nd
    intro a b ha hb hne e
    exact hne (inj a ha b hb e)) fun x hx => by
    obtain ⟨y, hy, rfl⟩ := List.mem_map.mp hx
    exact hb y hy
  simpa using this
def code1 : Option Nat → Nat
  | none => 0
  | some r => r + 1
def codeR (b : Nat) : List (Option Nat) → Nat
  | [] => 0
  | o :: os => code1 o + b * codeR b os
theorem codeR_lt {b : Nat} : ∀ {os : List (Option Nat)}, (∀ o ∈ os, code1 o < b) → codeR b os < b ^ os.length
  | [], _ => by simp [codeR]
  | o :: os, h => by
    have h1 := h o (by simp)
    have h2 := codeR_lt (b := b) (os := os) fun o ho => h o (by simp [ho])
    rw [codeR, List.length_cons, Nat.pow_succ]
    have h3 : b * codeR b os + b ≤ b * b ^ os.length := by
      have := Nat.mul_le_mul_left b (show codeR b os + 1 ≤ b ^ os.length from h2)
      rw [Nat.mul_add, Nat.mul_one] at this
      exact this
    rw [Nat.mul_comm (b ^ os.length) b]
    omega
theorem code1_inj {a b : Option Nat} (h : code1 a = code1 b) : a = b := by
  cases a <;> cases b <;> simp [code1] at h ⊢ <;> omega
theorem codeR_inj {b : Nat} : ∀ {os ps : List (Option Nat)}, os.length = ps.length → (∀ o ∈ os, code1 o < b) → (∀ o ∈ ps, code1 o < b) → codeR b os = codeR b ps → os = ps
  | [], [], _, _, _, _ => rfl
  | o :: os, p :: ps, hl, h1, h2, e => by
    have a1 := h1 o (by simp)
    have a2 := h2 p (by simp)
    rw [codeR, codeR] at e
    have e1 : code1 o = code1 p := by
      have := congrArg (· % b) e
      simpa [Nat.add_mul_mod_self_left, Nat.mod_eq_of_lt a1, Nat.mod_eq_of_lt a2] using this
    have e2 : codeR b os = codeR b ps := by
      rw [e1] at e
      have := Nat.add_left_cancel e
      exact Nat.eq_of_mul_eq_mul_left (by omega) this
    rw [code1_inj e1, codeR_inj (by simpa using hl) (fun o ho => h1 o (by simp [ho])) (fun o ho => h2 o (by simp [ho])) e2]
  | [], _ :: _, h, _, _, _ => by simp at h
  | _ :: _, [], h, _, _, _ => by simp at h
/-- joints that may be met -/
structure JOk (M N : Machine) (J : Joint) : Prop where
  s1 : J.1 < M.steps.length
  s2 : J.2.1 < N.steps.length
  len : J.2.2.length = M.regs + N.regs
  lt : ∀ r, some r ∈ J.2.2 → r < M.regs + N.regs
def jB (M N : Machine) : Nat := M.steps.length * N.steps.length * (M.regs + N.regs + 1) ^ (M.regs + N.regs)
def jCode (M N : Machine) (J : Joint) : Nat := (J.1 * N.steps.length + J.2.1) * (M.regs + N.regs + 1) ^ (M.regs + N.regs) + codeR (M.regs + N.regs + 1) J.2.2
theorem JOk.codes {M N : Machine} {J : Joint} (o : JOk M N J) : ∀ x ∈ J.2.2, code1 x < M.regs + N.regs + 1 := fun x hx => by
  cases x with
  | none => simp [code1]
  | some r => have := o.lt r hx; simp [code1]; omega
theorem pair_lt {a b n m : Nat} (ha : a < n) (hb : b < m) : a * m + b < n * m := by
  have : a * m + m ≤ n * m := by
    have := Nat.mul_le_mul_right m (show a + 1 ≤ n from ha)
    rw [Nat.add_mul, Nat.one_mul] at this
    exact this
  omega
theorem pair_inj {a b c d m : Nat} (hb : b < m) (hd : d < m) (h : a * m + b = c * m + d) : a = c ∧ b = d := by
  have e1 : b = d := by
    have := congrArg (· % m) h
    simpa [Nat.mul_add_mod_self_right, Nat.mod_eq_of_lt hb, Nat.mod_eq_of_lt hd] using this
  subst e1
  have := Nat.add_right_cancel h
  exact ⟨Nat.eq_of_mul_eq_mul_right (by omega) this, rfl⟩
theorem jCount {M N : Machine} {l : List Joint} (nd : l.Nodup) (h : ∀ J ∈ l, JOk M N J) : l.length ≤ jB M N := by
  refine nodup_bound (jCode M N) _ l nd ?_ ?_
  · intro x hx y hy e
    have ox := h x hx
    have oy := h y hy
    have lx := codeR_lt ox.codes
    have ly := codeR_lt oy.codes
    rw [ox.len] at lx
    rw [oy.len] at ly
    obtain ⟨e1, e2⟩ := pair_inj lx ly e
    obtain ⟨e3, e4⟩ := pair_inj ox.s2 oy.s2 e1
    have e5 := codeR_inj (ox.len.trans oy.len.symm) ox.codes oy.codes e2
    exact Prod.ext e3 (Prod.ext e4 e5)
  · intro x hx
    have ox := h x hx
    have lx := codeR_lt ox.codes
    rw [ox.len] at lx
    exact pair_lt (pair_lt ox.s1 ox.s2) lx
section
variable {α : Type} [LT α] [DecidableLT α] [DecidableEq α] [LO α]
theorem ins_len (x : α) : ∀ l : List α, (ins x l).length ≤ l.length + 1
  | [] => by simp [ins]
  | y :: l => by
    unfold ins
    split
    · simp
    · split
      · simp
      · have := ins_len x l; simp only [List.length_cons]; omega
theorem known_len (h : Held α) : (known h).length ≤ h.length := by
  have a : ∀ l : List α, (l.foldr ins []).length ≤ l.length := by
    intro l
    induction l with
    | nil => simp
    | cons x l ih => have := ins_len x (l.foldr ins []); simp only [List.foldr_cons, List.length_cons]; omega
  have b := a (h.filterMap id)
  have c := List.length_filterMap_le id h
  unfold known
  omega
theorem ranks_lt {h : Held α} {r : Nat} (hr : some r ∈ ranks h) : r < h.length := by
  unfold ranks at hr
  obtain ⟨o, ho, e⟩ := List.mem_map.mp hr
  cases o with
  | none => cases e
  | some x =>
    have : x ∈ known h := (mem_known h x).mpr ho
    have := List.idxOf_lt_length_of_mem this
    have e : (known h).idxOf x = r := by simpa using e
    have := known_len h
    omega
theorem joint_ok {M N : Machine} {c d : Con α} (h1 : c.1 < M.steps.length) (h2 : d.1 < N.steps.length) (l1 : c.2.length = M.regs) (l2 : d.2.length = N.regs) : JOk M N (joint c d) :=
  ⟨h1, h2, by show (ranks _).length = _; unfold ranks; rw [List.length_map, List.length_append, l1, l2], fun r hr => by have := ranks_lt hr; rw [List.length_append, l1, l2] at this; exact this⟩
end
/-- what a finished search shows -/
theorem no_pj {M N : Machine} {W : List Joint} {C : Joint → Prop} (hC : ∀ J, C J → ¬ PJ M N J) (h : ∀ J ∈ W, C J ∨ ∀ t s, t < M.tags → s < 2 * many J.2.2 + 1 → (jr1 M J t s).2 = (jr2 M N J t s).2 ∧ after M N J t s ∈ W) : ∀ J ∈ W, ¬ PJ M N J := by
  intro J hJ p
  induction p with
  | @now J t s ht hs hne =>
    rcases h J hJ with c | c
    · exact hC J c (.now t s ht hs hne)
    · exact hne (c t s ht hs).1
  | @later J t s ht hs p ih =>
    rcases h J hJ with c | c
    · exact hC J c (.later t s ht hs p)
    · exact ih (c t s ht hs).2
end TH
-- text Th11
set_option linter.all false
set_option maxHeartbeats 1000000
/-! The values that a kind's step keeps or says: the new one or a needed one. -/
namespace TH
variable {M : Machine} {τ : Ty}
theorem piece_mem (f : M.full) (o : TyOk M τ) {t s : Nat} (ht : t < M.tags) (hs : s < 2 * (needs M τ).length + 1) :
    (∀ a z, (a, some z) ∈ (caseR M τ t s).2 → z = lowest (needs M τ) s ∨ ∃ j ∈ needs M τ, z = 2 * (j : Int) + 1) ∧
    ∀ r ∈ needs M (kindR M τ t s), ∃ z, (known (caseR M τ t s).1.2)[r]? = some z ∧ (z = lowest (needs M τ) s ∨ ∃ j ∈ needs M τ, z = 2 * (j : Int) + 1) := by
  obtain ⟨P0', l0, g1, g2, g3⟩ := extendL (P := ([] : List (Rat × Int))) (fun p hp => by simp at hp) ((s : Int) :: odds (needs M τ).length)
  cases l0 with
  | nil => cases g3
  | cons v xs =>
  cases g3 with
  | cons gv gx =>
  have sx : Sorted xs := R1.sorted' g2 gx (odds_sorted _)
  have lx : xs.length = (needs M τ).length := gx.len.trans (by simp [odds])
  have mv : Mono (((s : Int), v) :: P0 xs) := by
    have inP : ∀ p ∈ ((s : Int), v) :: P0 xs, (p.2, p.1) ∈ P0' := by
      intro p hp
      rcases List.mem_cons.mp hp with e | e
      · subst e; exact gv
      · obtain ⟨a, x⟩ := p
        obtain ⟨i, hi, ea⟩ := mem_P0.mp e
        obtain ⟨z, hz, hp⟩ := gx.get hi
        rw [odds_get (by rw [← lx]; exact (List.getElem?_eq_some_iff.mp hi).1)] at hz
        cases hz
        rw [ea]; exact hp
    intro p hp q hq
    exact (g2 _ (inP p hp) _ (inP q hq)).symm
  have sn := needs_sorted M τ
  have sg : Sorted ((needs M τ).map fun (j : Nat) => 2 * (j : Int) + 1) := List.pairwise_map.mpr (sn.imp fun h => by omega)
  have m0 := mono_zip sx sg
  have mem0 : ∀ (i j : Nat) (x : Rat), xs[i]? = some x → (needs M τ)[i]? = some j → (x, 2 * (j : Int) + 1) ∈ xs.zip ((needs M τ).map fun (j : Nat) => 2 * (j : Int) + 1) := fun i j x hx hj =>
    List.mem_iff_getElem?.mpr ⟨i, List.getElem?_zip_eq_some.mpr ⟨hx, by rw [List.getElem?_map, hj]; rfl⟩⟩
  have m1 : Mono ((v, lowest (needs M τ) s) :: xs.zip ((needs M τ).map fun (j : Nat) => 2 * (j : Int) + 1)) := by
    refine mono_cons m0 ?_
    rintro ⟨x, z⟩ hp
    obtain ⟨i, hi⟩ := List.mem_iff_getElem?.mp hp
    obtain ⟨hx, hz⟩ := List.getElem?_zip_eq_some.mp hi
    rw [List.getElem?_map] at hz
    cases hj : (needs M τ)[i]? with
    | none => rw [hj] at hz; cases hz
    | some j =>
      rw [hj] at hz
      have hz : 2 * (j : Int) + 1 = z := by simpa using hz
      subst hz
      obtain ⟨a, b⟩ := lowest_spec sn hs hj
      have hm : (2 * (i : Int) + 1, x) ∈ ((s : Int), v) :: P0 xs := List.mem_cons_of_mem _ (mem_P0.mpr ⟨i, hx, rfl⟩)
      have k1 := mv _ hm _ (List.mem_cons_self)
      have k2 := mv _ (List.mem_cons_self) _ hm
      simp only at k1 k2 ⊢
      rw [← k1, ← k2, a, b]; omega
  obtain ⟨P', vs, h1, m2, r1⟩ := extendL m1 (odds (many τ.2))
  have vo : VsOk τ vs := ⟨R1.sorted' m2 r1 (odds_sorted _), r1.len.trans (by simp [odds])⟩
  have hnv : nv M τ vs = xs := nv_of vo lx fun i j x hj hx => r1_get m2 r1 (odds_get (mem_needs.mp (List.mem_of_getElem? hj)).1) (h1 _ (List.mem_cons_of_mem _ (mem0 i j x hx hj)))
  have rc : RC P' (con τ vs) (conS τ) := ⟨rfl, by show RH P' _ (shown τ.2); rw [shown_fill o.prop]; exact fill_rel r1 _⟩
  have hvw : (v, lowest (needs M τ) s) ∈ P' := h1 _ (by simp)
  have q := read_rel m2 M hvw rc t
  have hl : (readM M (con τ vs) t v).1.2.length = M.regs := read_len f (con_len o) t v
  have ek : kindR M τ t s = ty (readM M (con τ vs) t v).1 := by
    show ((caseR M τ t s).1.1, ranks (caseR M τ t s).1.2) = ((readM M (con τ vs) t v).1.1, ranks (readM M (con τ vs) t v).1.2)
    rw [ranks_rel m2 q.1.held, q.1.st]; rfl
  have ansv : ∀ a y, (a, some y) ∈ (readM M (con τ vs) t v).2 → y = v ∨ y ∈ xs := fun a y h => by rw [← hnv]; exact ans_step f o vo ht h
  have nvv : ∀ y ∈ nv M (kindR M τ t s) (known (readM M (con τ vs) t v).1.2), y = v ∨ y ∈ xs := fun y h => by rw [ek] at h; rw [← hnv]; exact nv_step f o vo ht h
  have back : ∀ (y : Rat) (z : Int), (y, z) ∈ P' → (y = v ∨ y ∈ xs) → z = lowest (needs M τ) s ∨ ∃ j ∈ needs M τ, z = 2 * (j : Int) + 1 := by
    intro y z hp hy
    rcases hy with h | h
    · exact .inl ((m2.eq_iff hp hvw).mp h)
    · obtain ⟨i, hi⟩ := List.mem_iff_getElem?.mp h
      obtain ⟨j, hj⟩ : ∃ j, (needs M τ)[i]? = some j := ⟨_, List.getElem?_eq_getElem (by rw [← lx]; exact (List.getElem?_eq_some_iff.mp hi).1)⟩
      exact .inr ⟨j, List.mem_of_getElem? hj, (m2.eq_iff hp (h1 _ (List.mem_cons_of_mem _ (mem0 i j y hi hj)))).mp rfl⟩
  constructor
  · intro a z hz
    obtain ⟨i, hi⟩ := List.mem_iff_getElem?.mp hz
    obtain ⟨⟨b, y⟩, hy, e1, e2⟩ := q.2.get' hi
    cases y with
    | none => exact e2.elim
    | some y => exact back y z e2 (ansv b y (List.mem_of_getElem? hy))
  · intro r hr
    have kr := known_rel m2 q.1.held
    have hl2 : r < (known (readM M (con τ vs) t v).1.2).length := by
      have := (mem_needs.mp hr).1
      rw [ek] at this
      rw [← many_ranks]; exact this
    obtain ⟨y, hy⟩ := get_lt hl2
    obtain ⟨z, hz, hp⟩ := kr.get hy
    exact ⟨z, hz, back y z hp (nvv y (by unfold nv; exact List.mem_filterMap.mpr ⟨r, hr, hy⟩))⟩
end TH
-- text LyCore
set_option Elab.async false
set_option linter.all false
set_option maxRecDepth 100000
set_option maxHeartbeats 4000000
namespace AV
open PySem L2

/-! ### data: none, bools, ints, texts, tuples of these; they never change -/
/-- a tuple whose object is known to have no dict of its own -/
def SqN (K : PySem.W.Frag) (H : Hp) (a : Addr) (xs : List V) : Prop := ∃ o, H a = some (.frz o (.tup xs)) ∧ o.dict = none
theorem SqN.sq {K : PySem.W.Frag} {H : Hp} {a : Addr} {xs : List V} (h : SqN K H a xs) : SqT K H a xs := let ⟨o, e, _⟩ := h; .inl (.inr ⟨o, e⟩)
mutual
inductive TD (K : PySem.W.Frag) (H : Hp) : V → PyData → Prop
  | non : TD K H .non .none
  | bl (b : Bool) : TD K H (.bl b) (.bool b)
  | int (i : Int) : TD K H (.int i) (.int i)
  | str (x : Str) : TD K H (.str x) (.str x)
  | tup {a : Addr} {xs : List V} {ds : List PyData} : SqT K H a xs → TDs K H xs ds → TD K H (.ref a) (.tuple ds)
  | mk {a : Addr} {xs : List V} {ds : List PyData} : SqN K H a xs → TDs K H xs ds → TD K H (.ref a) (.list ds)
inductive TDs (K : PySem.W.Frag) (H : Hp) : List V → List PyData → Prop
  | nil : TDs K H [] []
  | cons {v : V} {vs : List V} {d : PyData} {ds : List PyData} : TD K H v d → TDs K H vs ds → TDs K H (v :: vs) (d :: ds)
end

/-- tuples and frozen things stay -/
structure TEx (H H' : Hp) : Prop where
  tup : ∀ a xs, H a = some (.tup xs) → H' a = some (.tup xs)
  frz : ∀ a o u, H a = some (.frz o u) → H' a = some (.frz o u)
theorem TEx.refl (H : Hp) : TEx H H := ⟨fun _ _ h => h, fun _ _ _ h => h⟩
theorem TEx.trans {H H1 H2 : Hp} (a : TEx H H1) (b : TEx H1 H2) : TEx H H2 := ⟨fun x xs h => b.tup x xs (a.tup x xs h), fun x o u h => b.frz x o u (a.frz x o u h)⟩
theorem TEx.new {H : Hp} {p : Addr} {o : HO} (h : H p = none) : TEx H (upd H p o) :=
  ⟨fun a xs e => by rw [upd_ne (ne_of_none e h)]; exact e, fun a xs u e => by rw [upd_ne (ne_of_none e h)]; exact e⟩
/-- neither a tuple nor frozen -/
def Loose (o : Option HO) : Prop := (∀ xs, o ≠ some (.tup xs)) ∧ ∀ ob u, o ≠ some (.frz ob u)
theorem TEx.mut {H : Hp} {p : Addr} {o : HO} (h : Loose (H p)) : TEx H (upd H p o) := by
  constructor
  · intro a xs e
    rw [upd_ne]
    · exact e
    · intro z; subst z; exact h.1 _ e
  · intro a ob u e
    rw [upd_ne]
    · exact e
    · intro z; subst z; exact h.2 _ _ e
theorem loose_lst {H : Hp} {p : Addr} {xs : List V} (h : H p = some (.lst xs)) : Loose (H p) := by rw [h]; exact ⟨fun _ e => (nomatch e), fun _ _ e => (nomatch e)⟩
theorem loose_none {H : Hp} {p : Addr} (h : H p = none) : Loose (H p) := by rw [h]; exact ⟨fun _ e => (nomatch e), fun _ _ e => (nomatch e)⟩

theorem TEx.sq {K : PySem.W.Frag} {H H' : Hp} {a : Addr} {xs : List V} (e : TEx H H') (h : SqT K H a xs) : SqT K H' a xs := by
  rcases h with (h | ⟨o, h⟩) | h
  · exact .inl (.inl (e.tup _ _ h))
  · exact .inl (.inr ⟨o, e.frz _ _ _ h⟩)
  · exact .inr h
theorem TEx.sqN {K : PySem.W.Frag} {H H' : Hp} {a : Addr} {xs : List V} (e : TEx H H') (h : SqN K H a xs) : SqN K H' a xs := let ⟨o, x, y⟩ := h; ⟨o, e.frz _ _ _ x, y⟩
-- no marked tuple within
mutual
def noL : PyData → Bool
  | .list _ => false
  | .dict _ => false
  | .tuple ds => noLs ds
  | _ => true
def noLs : List PyData → Bool
  | [] => true
  | d :: ds => noL d && noLs ds
end
abbrev okD (d : PyData) : Prop := SeqAt.shaped d = true ∧ noL d = true
section
variable {K : PySem.W.Frag} {H H' : Hp}
mutual
theorem TD.mono (e : TEx H H') : ∀ {d : PyData} {v : V}, TD K H v d → TD K H' v d
  | .none, _, h => by cases h; exact .non
  | .bool b, _, h => by cases h; exact .bl b
  | .int i, _, h => by cases h; exact .int i
  | .str x, _, h => by cases h; exact .str x
  | .list ds, _, h => by
    cases h with
    | mk h1 h2 => exact .mk (e.sqN h1) (TDs.mono e h2)
  | .dict _, _, h => by cases h
  | .tuple ds, _, h => by
    cases h with
    | tup h1 h2 => exact .tup (e.sq h1) (TDs.mono e h2)
theorem TDs.mono (e : TEx H H') : ∀ {ds : List PyData} {vs : List V}, TDs K H vs ds → TDs K H' vs ds
  | [], _, h => by cases h; exact .nil
  | d :: ds, _, h => by
    cases h with
    | cons h1 h2 => exact .cons (TD.mono e h1) (TDs.mono e h2)
end
mutual
theorem TD.dp : ∀ {d : PyData} {v : V}, noL d = true → TD K H v d → Dp K H v d
  | .none, _, _, h => by cases h; exact .non
  | .bool b, _, _, h => by cases h; exact .bl b
  | .int i, _, _, h => by cases h; exact .int i
  | .str x, _, _, h => by cases h; exact .str x
  | .list _, _, n, h => by cases n
  | .dict _, _, n, h => by cases n
  | .tuple ds, _, n, h => by
    rw [noL] at n
    cases h with
    | tup h1 h2 => exact .tup h1 (TDs.dp n h2)
theorem TDs.dp : ∀ {ds : List PyData} {vs : List V}, noLs ds = true → TDs K H vs ds → DpAll K H vs ds
  | [], _, _, h => by cases h; exact .nil
  | d :: ds, _, n, h => by
    rw [noLs, Bool.and_eq_true] at n
    cases h with
    | cons h1 h2 => exact .cons (TD.dp n.1 h1) (TDs.dp n.2 h2)
end
mutual
-- marked tuples may be taken for tuples
def Dn : PyData → PyData → Prop
  | .list ds, .tuple es => Dns ds es
  | .tuple ds, .tuple es => Dns ds es
  | .int i, e => e = .int i
  | .str i, e => e = .str i
  | .bool i, e => e = .bool i
  | .none, e => e = .none
  | _, _ => False
def Dns : List PyData → List PyData → Prop
  | [], [] => True
  | d :: ds, e :: es => Dn d e ∧ Dns ds es
  | _, _ => False
end
mutual
theorem TD.down : ∀ {d : PyData} {e : PyData} {v : V}, Dn d e → TD K H v d → TD K H v e
  | .none, e, v, n, h => by rw [Dn] at n; subst n; exact h
  | .bool b, e, v, n, h => by rw [Dn] at n; subst n; exact h
  | .int i, e, v, n, h => by rw [Dn] at n; subst n; exact h
  | .str x, e, v, n, h => by rw [Dn] at n; subst n; exact h
  | .dict _, e, v, n, h => by cases h
  | .list ds, e, v, n, h => by
    cases h with
    | mk h1 h2 =>
      cases e with
      | tuple es => rw [Dn] at n; exact .tup h1.sq (TDs.down n h2)
      | _ => simp [Dn] at n
  | .tuple ds, e, v, n, h => by
    cases h with
    | tup h1 h2 =>
      cases e with
      | tuple es => rw [Dn] at n; exact .tup h1 (TDs.down n h2)
      | _ => simp [Dn] at n
theorem TDs.down : ∀ {ds : List PyData} {es : List PyData} {vs : List V}, Dns ds es → TDs K H vs ds → TDs K H vs es
  | [], [], _, _, h => h
  | [], _ :: _, _, n, _ => by simp [Dns] at n
  | d :: ds, [], _, n, h => by simp [Dns] at n
  | d :: ds, e :: es, _, n, h => by
    rw [Dns] at n
    cases h with
    | cons h1 h2 => exact .cons (TD.down n.1 h1) (TDs.down n.2 h2)
end
theorem TDs.length : ∀ {ds : List PyData} {vs : List V}, TDs K H vs ds → vs.length = ds.length
  | [], _, h => by cases h; rfl
  | _ :: _, _, h => by cases h with | cons _ t => simp [TDs.length t]
theorem TDs.get : ∀ {ds : List PyData} {vs : List V} {i : Nat} {d : PyData}, TDs K H vs ds → ds[i]? = some d → ∃ v, vs[i]? = some v ∧ TD K H v d
  | [], _, i, d, h, e => by simp at e
  | x :: xs, _, 0, d, h, e => by
    cases h with
    | cons h1 h2 => simp at e; subst e; exact ⟨_, rfl, h1⟩
  | x :: xs, _, i + 1, d, h, e => by
    cases h with
    | cons h1 h2 =>
      obtain ⟨v, q, r⟩ := TDs.get (i := i) h2 (by simpa using e)
      exact ⟨v, by simpa using q, r⟩
theorem TDs.get' : ∀ {ds : List PyData} {vs : List V} {i : Nat} {v : V}, TDs K H vs ds → vs[i]? = some v → ∃ d, ds[i]? = some d ∧ TD K H v d
  | [], _, i, d, h, e => by cases h; simp at e
  | x :: xs, _, 0, d, h, e => by
    cases h with
    | cons h1 h2 => simp at e; subst e; exact ⟨_, rfl, h1⟩
  | x :: xs, _, i + 1, d, h, e => by
    cases h with
    | cons h1 h2 =>
      obtain ⟨v, q, r⟩ := TDs.get' (i := i) h2 (by simpa using e)
      exact ⟨v, by simpa using q, r⟩
theorem TDs.append : ∀ {ds es : List PyData} {vs us : List V}, TDs K H vs ds → TDs K H us es → TDs K H (vs ++ us) (ds ++ es)
  | [], _, _, _, h, q => by cases h; exact q
  | _ :: _, _, _, _, h, q => by cases h with | cons h1 h2 => exact .cons h1 (TDs.append h2 q)
theorem TDs.drop : ∀ {ds : List PyData} {vs : List V} (n : Nat), TDs K H vs ds → TDs K H (vs.drop n) (ds.drop n)
  | _, _, 0, h => h
  | [], _, n + 1, h => by cases h; exact .nil
  | _ :: _, _, n + 1, h => by cases h with | cons h1 h2 => exact TDs.drop n h2
theorem TDs.take : ∀ {ds : List PyData} {vs : List V} (n : Nat), TDs K H vs ds → TDs K H (vs.take n) (ds.take n)
  | _, _, 0, h => .nil
  | [], _, n + 1, h => by cases h; exact .nil
  | _ :: _, _, n + 1, h => by cases h with | cons h1 h2 => exact .cons h1 (TDs.take n h2)
theorem TDs.flatten_rep {ds : List PyData} {vs : List V} (h : TDs K H vs ds) : ∀ n, TDs K H (List.replicate n vs).flatten (List.replicate n ds).flatten
  | 0 => .nil
  | n + 1 => by
    rw [List.replicate_succ, List.replicate_succ, List.flatten_cons, List.flatten_cons]
    exact h.append (TDs.flatten_rep h n)
theorem TD.int_inv {v : V} {i : Int} (h : TD K H v (.int i)) : v = .int i := by cases h; rfl
theorem TD.bl_inv {v : V} {b : Bool} (h : TD K H v (.bool b)) : v = .bl b := by cases h; rfl
theorem TD.str_inv {v : V} {x : Str} (h : TD K H v (.str x)) : v = .str x := by cases h; rfl
theorem TD.non_inv {v : V} (h : TD K H v .none) : v = .non := by cases h; rfl
theorem TD.mk_inv {v : V} {ds : List PyData} (h : TD K H v (.list ds)) : ∃ a xs, v = .ref a ∧ SqN K H a xs ∧ TDs K H xs ds := by
  cases h with
  | mk h1 h2 => exact ⟨_, _, rfl, h1, h2⟩
theorem TD.tup_inv {v : V} {ds : List PyData} (h : TD K H v (.tuple ds)) : ∃ a xs, v = .ref a ∧ SqT K H a xs ∧ TDs K H xs ds := by
  cases h with
  | tup h1 h2 => exact ⟨_, _, rfl, h1, h2⟩
theorem TDs.ints : ∀ {ns : List Int} {vs : List V}, TDs K H vs (ns.map PyData.int) → vs = ns.map V.int
  | [], _, h => by cases h; rfl
  | n :: ns, _, h => by cases h with | cons h1 h2 => cases h1; simp [TDs.ints h2]
theorem TDs.of_ints : ∀ (ns : List Int), TDs K H (ns.map V.int) (ns.map PyData.int)
  | [] => .nil
  | n :: ns => .cons (.int n) (TDs.of_ints ns)
end

/-! ### values: data, or the address of a cell; cells; the store -/
inductive SV where
  | dat (d : PyData)
  | loc (a : Addr)
abbrev SV.int (i : Int) : SV := .dat (.int i)
abbrev SV.tup (ds : List PyData) : SV := .dat (.tuple ds)
def SVR (K : PySem.W.Frag) (H : Hp) (v : V) : SV → Prop
  | .dat d => TD K H v d
  | .loc a => v = .ref a
theorem SVR.mono {K : PySem.W.Frag} {H H' : Hp} {v : V} {r : SV} (e : TEx H H') (h : SVR K H v r) : SVR K H' v r := by
  cases r with
  | dat d => exact TD.mono e h
  | loc a => exact h

inductive SVs (K : PySem.W.Frag) (H : Hp) : List V → List SV → Prop
  | nil : SVs K H [] []
  | cons {v : V} {vs : List V} {r : SV} {rs : List SV} : SVR K H v r → SVs K H vs rs → SVs K H (v :: vs) (r :: rs)
section
variable {K : PySem.W.Frag} {H H' : Hp}
theorem SVs.mono (e : TEx H H') : ∀ {rs : List SV} {vs : List V}, SVs K H vs rs → SVs K H' vs rs
  | [], _, h => by cases h; exact .nil
  | _ :: _, _, h => by cases h with | cons h1 h2 => exact .cons (h1.mono e) (SVs.mono e h2)
theorem SVs.length : ∀ {rs : List SV} {vs : List V}, SVs K H vs rs → vs.length = rs.length
  | [], _, h => by cases h; rfl
  | _ :: _, _, h => by cases h with | cons _ t => simp [SVs.length t]
theorem SVs.get : ∀ {ds : List SV} {vs : List V} {i : Nat} {d : SV}, SVs K H vs ds → ds[i]? = some d → ∃ v, vs[i]? = some v ∧ SVR K H v d
  | [], _, i, d, h, e => by simp at e
  | x :: xs, _, 0, d, h, e => by
    cases h with
    | cons h1 h2 => simp at e; subst e; exact ⟨_, rfl, h1⟩
  | x :: xs, _, i + 1, d, h, e => by
    cases h with
    | cons h1 h2 =>
      obtain ⟨v, q, r⟩ := SVs.get (i := i) h2 (by simpa using e)
      exact ⟨v, by simpa using q, r⟩
theorem SVs.get' : ∀ {ds : List SV} {vs : List V} {i : Nat} {v : V}, SVs K H vs ds → vs[i]? = some v → ∃ d, ds[i]? = some d ∧ SVR K H v d
  | [], _, i, d, h, e => by cases h; simp at e
  | x :: xs, _, 0, d, h, e => by
    cases h with
    | cons h1 h2 => simp at e; subst e; exact ⟨_, rfl, h1⟩
  | x :: xs, _, i + 1, d, h, e => by
    cases h with
    | cons h1 h2 =>
      obtain ⟨v, q, r⟩ := SVs.get' (i := i) h2 (by simpa using e)
      exact ⟨v, by simpa using q, r⟩
theorem SVs.append : ∀ {ds es : List SV} {vs us : List V}, SVs K H vs ds → SVs K H us es → SVs K H (vs ++ us) (ds ++ es)
  | [], _, _, _, h, q => by cases h; exact q
  | _ :: _, _, _, _, h, q => by cases h with | cons h1 h2 => exact .cons h1 (SVs.append h2 q)
theorem SVs.snoc {ds : List SV} {vs : List V} {v : V} {d : SV} (h : SVs K H vs ds) (q : SVR K H v d) : SVs K H (vs ++ [v]) (ds ++ [d]) := h.append (.cons q .nil)
theorem SVs.drop : ∀ {ds : List SV} {vs : List V} (n : Nat), SVs K H vs ds → SVs K H (vs.drop n) (ds.drop n)
  | _, _, 0, h => h
  | [], _, n + 1, h => by cases h; exact .nil
  | _ :: _, _, n + 1, h => by cases h with | cons h1 h2 => exact SVs.drop n h2
theorem SVs.take : ∀ {ds : List SV} {vs : List V} (n : Nat), SVs K H vs ds → SVs K H (vs.take n) (ds.take n)
  | _, _, 0, h => .nil
  | [], _, n + 1, h => by cases h; exact .nil
  | _ :: _, _, n + 1, h => by cases h with | cons h1 h2 => exact .cons h1 (SVs.take n h2)
theorem SVs.set {v : V} {r : SV} (q : SVR K H v r) : ∀ {ds : List SV} {vs : List V} (n : Nat), SVs K H vs ds → SVs K H (vs.set n v) (ds.set n r)
  | [], _, n, h => by cases h; exact .nil
  | _ :: _, _, 0, h => by cases h with | cons h1 h2 => exact .cons q h2
  | _ :: _, _, n + 1, h => by cases h with | cons h1 h2 => exact .cons h1 (SVs.set q n h2)
theorem SVs.eraseIdx : ∀ {ds : List SV} {vs : List V} (n : Nat), SVs K H vs ds → SVs K H (vs.eraseIdx n) (ds.eraseIdx n)
  | [], _, n, h => by cases h; exact .nil
  | _ :: _, _, 0, h => by cases h with | cons h1 h2 => exact h2
  | _ :: _, _, n + 1, h => by cases h with | cons h1 h2 => exact .cons h1 (SVs.eraseIdx n h2)
theorem SVs.reverse : ∀ {ds : List SV} {vs : List V}, SVs K H vs ds → SVs K H vs.reverse ds.reverse
  | [], _, h => by cases h; exact .nil
  | _ :: _, _, h => by
    cases h with
    | cons h1 h2 =>
      rw [List.reverse_cons, List.reverse_cons]
      exact (SVs.reverse h2).snoc h1
theorem SVs.dropLast {ds : List SV} {vs : List V} (h : SVs K H vs ds) : SVs K H vs.dropLast ds.dropLast := by
  rw [List.dropLast_eq_take, List.dropLast_eq_take, h.length]
  exact h.take _
theorem SVs.flatten_rep {ds : List SV} {vs : List V} (h : SVs K H vs ds) : ∀ n, SVs K H (List.replicate n vs).flatten (List.replicate n ds).flatten
  | 0 => .nil
  | n + 1 => by
    rw [List.replicate_succ, List.replicate_succ, List.flatten_cons, List.flatten_cons]
    exact h.append (SVs.flatten_rep h n)
theorem SVs.dats : ∀ {ds : List PyData} {vs : List V}, SVs K H vs (ds.map SV.dat) → TDs K H vs ds
  | [], _, h => by cases h; exact .nil
  | _ :: _, _, h => by cases h with | cons h1 h2 => exact .cons h1 (SVs.dats h2)
theorem SVs.of_dats : ∀ {ds : List PyData} {vs : List V}, TDs K H vs ds → SVs K H vs (ds.map SV.dat)
  | [], _, h => by cases h; exact .nil
  | _ :: _, _, h => by cases h with | cons h1 h2 => exact .cons h1 (SVs.of_dats h2)
theorem SVs.ints {ns : List Int} {vs : List V} (h : SVs K H vs (ns.map SV.int)) : vs = ns.map V.int := by
  have e : ns.map SV.int = (ns.map PyData.int).map SV.dat := by simp [SV.int, Function.comp_def]
  rw [e] at h
  exact h.dats.ints
end

/-- named values: an object's fields -/
inductive FVs (K : PySem.W.Frag) (H : Hp) : List (Str × V) → List (Str × SV) → Prop
  | nil : FVs K H [] []
  | cons {f : Str} {v : V} {vs : List (Str × V)} {r : SV} {rs : List (Str × SV)} : SVR K H v r → FVs K H vs rs → FVs K H ((f, v) :: vs) ((f, r) :: rs)
section
variable {K : PySem.W.Frag} {H H' : Hp}
theorem FVs.mono (e : TEx H H') : ∀ {rs : List (Str × SV)} {vs : List (Str × V)}, FVs K H vs rs → FVs K H' vs rs
  | [], _, h => by cases h; exact .nil
  | _ :: _, _, h => by cases h with | cons h1 h2 => exact .cons (h1.mono e) (FVs.mono e h2)
theorem FVs.length : ∀ {rs : List (Str × SV)} {vs : List (Str × V)}, FVs K H vs rs → vs.length = rs.length
  | [], _, h => by cases h; rfl
  | _ :: _, _, h => by cases h with | cons _ t => simp [FVs.length t]
theorem FVs.look {f : Str} {r : SV} : ∀ {rs : List (Str × SV)} {vs : List (Str × V)}, FVs K H vs rs → rs.lookup f = some r → ∃ v, vs.lookup f = some v ∧ SVR K H v r
  | [], _, h, e => by simp at e
  | _ :: _, _, h, e => by
    cases h with
    | @cons g v vs r' rs h1 h2 =>
      rw [List.lookup_cons] at e ⊢
      cases q : f == g with
      | true => rw [q] at e; cases e; exact ⟨v, rfl, h1⟩
      | false => rw [q] at e; exact FVs.look h2 e
theorem FVs.look_none {f : Str} : ∀ {rs : List (Str × SV)} {vs : List (Str × V)}, FVs K H vs rs → rs.lookup f = none → vs.lookup f = none
  | [], _, h, e => by cases h; rfl
  | _ :: _, _, h, e => by
    cases h with
    | @cons g v vs r' rs h1 h2 =>
      rw [List.lookup_cons] at e ⊢
      cases q : f == g with
      | true => rw [q] at e; cases e
      | false => rw [q] at e; exact FVs.look_none h2 e
end

inductive Cell where
  /-- a list -/
  | lst (xs : List SV)
  /-- a list that is only read -/
  | rol (xs : List SV)
  /-- a set of ints -/
  | seti (S : Int → Bool) (n : Nat)
  /-- a tuple of things that are not all data -/
  | tpc (xs : List SV)
  /-- an instance -/
  | obj (C : Addr) (fs : List (Str × SV))
  /-- a dict whose keys are tuples of any depth -/
  | dct (kvs : List (NestedKey × SV))
  /-- a dict whose keys are ints -/
  | dki (kvs : List (Int × SV))
abbrev Mu := Addr → Option Cell
abbrev Rho := List (Option SV)
def updM (μ : Mu) (a : Addr) (c : Cell) : Mu := fun b => if b = a then some c else μ b
theorem updM_same {μ : Mu} {a : Addr} {c : Cell} : updM μ a c a = some c := by unfold updM; rw [if_pos rfl]
theorem updM_ne {μ : Mu} {a b : Addr} {c : Cell} (h : b ≠ a) : updM μ a c b = μ b := by unfold updM; rw [if_neg h]
theorem updM_updM {μ : Mu} {a : Addr} {c d : Cell} : updM (updM μ a c) a d = updM μ a d := by funext b; unfold updM; split <;> rfl
theorem updM_comm {μ : Mu} {a b : Addr} {c d : Cell} (h : a ≠ b) : updM (updM μ a c) b d = updM (updM μ b d) a c := by
  funext x; unfold updM
  by_cases h1 : x = a
  · subst h1; rw [if_neg h, if_pos rfl, if_pos rfl]
  · by_cases h2 : x = b
    · subst h2; rw [if_pos rfl, if_neg h1, if_pos rfl]
    · rw [if_neg h2, if_neg h1, if_neg h1, if_neg h2]
theorem neM {μ : Mu} {a b : Addr} {c : Cell} (h : μ a = some c) (h' : μ b = none) : a ≠ b := by intro e; subst e; rw [h] at h'; cases h'
end AV
-- text LyJ
set_option Elab.async false
set_option linter.all false
set_option maxRecDepth 100000
set_option maxHeartbeats 4000000
namespace AV
open PySem L2

/-! ### the store over the heap -/
/-- the object of a dict with keys of any depth: what is true of its one object -/
def DctO (P : Program) (w : World) (d : Addr) (xs : List (NestedKey × Addr × V)) : HO := .ext fun h => (d == sysModules) = false ∧ xs.length ≤ sizeLine ∧
  ∃ ys : List (NestedKey × Addr × Value), Paired (fun (p : NestedKey × Addr × V) (q : NestedKey × Addr × Value) => p.1 = q.1 ∧ p.2.1 = q.2.1 ∧ RelV p.2.2 q.2.2) xs ys ∧
    ∃ o es ep, h.get? d = some o ∧ o.ExactDict ∧ o.data = .dict es ep ∧ es.toList = ys.map (entryOfKey (nestedKind P w)) ∧ (ys.map (·.1)).Nodup
/-- entries of such a dict over data -/
def KVs (K : PySem.W.Frag) (H : Hp) (xs : List (NestedKey × Addr × V)) (kvs : List (NestedKey × SV)) : Prop :=
  Paired (fun (p : NestedKey × Addr × V) (q : NestedKey × SV) => p.1 = q.1 ∧ p.1.depth ≤ 8 ∧ TD K H (.ref p.2.1) p.1.data ∧ SVR K H p.2.2 q.2) xs kvs
inductive IVs (K : PySem.W.Frag) (H : Hp) : List (Key × V) → List (Int × SV) → Prop
  | nil : IVs K H [] []
  | cons {i : Int} {v : V} {vs : List (Key × V)} {r : SV} {rs : List (Int × SV)} : SVR K H v r → IVs K H vs rs → IVs K H ((Sum.inl i, v) :: vs) ((i, r) :: rs)

def CellR (P : Program) (w : World) (K : PySem.W.Frag) (H : Hp) (a : Addr) : Cell → Prop
  | .lst xs => ∃ vs, H a = some (.lst vs) ∧ SVs K H vs xs
  | .rol xs => ∃ vs, SqL K H a vs ∧ SVs K H vs xs ∧ ∀ xs, H a ≠ some (.lst xs)
  | .seti S n => H a = some (SetO w a S n)
  | .tpc xs => ∃ vs, SqT K H a vs ∧ SVs K H vs xs
  | .obj C fs => ∃ dx gs, H a = some (.ins C dx gs) ∧ FVs K H gs fs
  | .dct kvs => ∃ xs, H a = some (DctO P w a xs) ∧ KVs K H xs kvs
  | .dki kvs => ∃ xs, H a = some (.dK xs) ∧ IVs K H xs kvs

theorem KVs.mono {K : PySem.W.Frag} {H H' : Hp} (e : TEx H H') {xs : List (NestedKey × Addr × V)} {kvs : List (NestedKey × SV)} (h : KVs K H xs kvs) : KVs K H' xs kvs :=
  Paired.mapP h fun _ _ z => ⟨z.1, z.2.1, z.2.2.1.mono e, z.2.2.2.mono e⟩
theorem IVs.mono {K : PySem.W.Frag} {H H' : Hp} (e : TEx H H') : ∀ {xs : List (Key × V)} {kvs : List (Int × SV)}, IVs K H xs kvs → IVs K H' xs kvs
  | _, [], h => by cases h; exact .nil
  | _, _ :: _, h => by cases h with | cons h1 h2 => exact .cons (h1.mono e) (IVs.mono e h2)
section
variable {P : Program} {w : World} {K : PySem.W.Frag} {H H' : Hp} {a b p : Addr} {c c' : Cell} {μ μ' : Mu}
/-- a cell stays where its own object stays -/
theorem CellR.stay (h : CellR P w K H a c) (e : TEx H H') (ha : ∀ o, H a = some o → H' a = some o) (hr : ∀ xs, c = .rol xs → ∀ xs, H' a ≠ some (.lst xs)) : CellR P w K H' a c := by
  cases c with
  | lst xs => obtain ⟨vs, q, r⟩ := h; exact ⟨vs, ha _ q, r.mono e⟩
  | rol xs =>
    obtain ⟨vs, q, r, n⟩ := h
    refine ⟨vs, ?_, r.mono e, hr _ rfl⟩
    rcases q with (q | ⟨o, q⟩) | q
    · exact .inl (.inl (ha _ q))
    · exact .inl (.inr ⟨o, ha _ q⟩)
    · exact .inr q
  | seti S n => exact ha _ h
  | tpc xs => obtain ⟨vs, q, r⟩ := h; exact ⟨vs, e.sq q, r.mono e⟩
  | obj C fs => obtain ⟨dx, gs, q, r⟩ := h; exact ⟨dx, gs, ha _ q, r.mono e⟩
  | dct kvs => obtain ⟨xs, q, r⟩ := h; exact ⟨xs, ha _ q, r.mono e⟩
  | dki kvs => obtain ⟨xs, q, r⟩ := h; exact ⟨xs, ha _ q, r.mono e⟩
/-- a cell that may be written -/
def Cell.mut : Cell → Bool
  | .rol _ => false
  | .tpc _ => false
  | _ => true
end
/-- the store is held -/
def MR (P : Program) (w : World) (K : PySem.W.Frag) (μ : Mu) (H : Hp) : Prop := ∀ a c, μ a = some c → CellR P w K H a c ∧ ∃ o, H a = some o
def MSub (μ μ' : Mu) : Prop := ∀ a c, μ a = some c → μ' a = some c
theorem MSub.refl (μ : Mu) : MSub μ μ := fun _ _ h => h
theorem MSub.trans {μ μ1 μ2 : Mu} (h : MSub μ μ1) (h2 : MSub μ1 μ2) : MSub μ μ2 := fun a c e => h2 a c (h a c e)
theorem MSub.upd {μ : Mu} {a : Addr} {c : Cell} (h : μ a = none) : MSub μ (updM μ a c) := fun b d e => by rw [updM_ne (neM e h)]; exact e
theorem MSub.both {μ μ1 : Mu} {a : Addr} {c : Cell} (h : MSub μ μ1) : MSub (updM μ a c) (updM μ1 a c) := fun b d e => by
  by_cases q : b = a
  · subst q; rw [updM_same] at e ⊢; exact e
  · rw [updM_ne q] at e ⊢; exact h b d e
section
variable {P : Program} {w : World} {K : PySem.W.Frag} {H H' : Hp} {a b p : Addr} {c c' : Cell} {μ μ' : Mu}
theorem MR.sub (h : MR P w K μ' H) (s : MSub μ μ') : MR P w K μ H := fun a c e => h a c (s a c e)
theorem MR.fresh (h : MR P w K μ H) (e : H p = none) : μ p = none := by
  cases q : μ p with
  | none => rfl
  | some c =>
    obtain ⟨_, o, r⟩ := h p c q
    rw [e] at r; cases r
/-- a new object, not a cell -/
theorem MR.new0 {o : HO} (h : MR P w K μ H) (e : H p = none) : MR P w K μ (upd H p o) := fun a c q => by
  have hm := neM q (h.fresh e)
  obtain ⟨o1, h2⟩ := (h a c q).2
  have h1 : CellR P w K H a c := (h a c q).1
  refine ⟨CellR.stay h1 (TEx.new e) (fun o r => by rw [upd_ne hm]; exact r) (fun xs ec ys => ?_), o1, by rw [upd_ne hm]; exact h2⟩
  rw [upd_ne hm]
  subst ec
  obtain ⟨_, _, _, n⟩ := h1
  exact n ys
/-- a new cell -/
theorem MR.new {o : HO} (h : MR P w K μ H) (e : H p = none) (hc : CellR P w K (upd H p o) p c) : MR P w K (updM μ p c) (upd H p o) := fun a d q => by
  by_cases hp : a = p
  · subst hp
    rw [updM_same] at q; cases q
    exact ⟨hc, o, upd_same⟩
  · rw [updM_ne hp] at q
    exact h.new0 e a d q
/-- a cell is written -/
theorem MR.set {o : HO} (h : MR P w K μ H) (l : Loose (H p)) (hc : CellR P w K (upd H p o) p c) : MR P w K (updM μ p c) (upd H p o) := fun a d q => by
  by_cases hp : a = p
  · subst hp
    rw [updM_same] at q; cases q
    exact ⟨hc, o, upd_same⟩
  · rw [updM_ne hp] at q
    obtain ⟨o1, h2⟩ := (h a d q).2
    have h1 : CellR P w K H a d := (h a d q).1
    refine ⟨CellR.stay h1 (TEx.mut l) (fun o r => by rw [upd_ne hp]; exact r) (fun xs ec ys => ?_), o1, by rw [upd_ne hp]; exact h2⟩
    rw [upd_ne hp]
    subst ec
    obtain ⟨_, _, _, n⟩ := h1
    exact n ys
theorem MR.lst {xs : List SV} (h : MR P w K μ H) (e : μ a = some (.lst xs)) : ∃ vs, H a = some (.lst vs) ∧ SVs K H vs xs := (h a _ e).1
/-- a list to be read -/
def isL (μ : Mu) (a : Addr) (xs : List SV) : Prop := μ a = some (.lst xs) ∨ μ a = some (.rol xs)
theorem MR.seq {xs : List SV} (h : MR P w K μ H) (e : isL μ a xs) : ∃ vs, SqL K H a vs ∧ SVs K H vs xs := by
  rcases e with e | e
  · obtain ⟨vs, q, r⟩ := h.lst e
    exact ⟨vs, SqL.of q, r⟩
  · obtain ⟨vs, q, r, _⟩ := (h a _ e).1
    exact ⟨vs, q, r⟩
end

/-! ### slots -/
structure RS (K : PySem.W.Frag) (H : Hp) (ρ : Rho) (σ : L2.St) : Prop where
  len : ρ.length = σ.length
  at_ : ∀ (i : Nat) (r : SV), ρ[i]? = some (some r) → ∃ v, σ[i]? = some (some v) ∧ SVR K H v r
section
variable {K : PySem.W.Frag} {H H' : Hp} {ρ : Rho} {σ : L2.St}
theorem RS.mono (e : TEx H H') (h : RS K H ρ σ) : RS K H' ρ σ := ⟨h.len, fun i r q => let ⟨v, a, b⟩ := h.at_ i r q; ⟨v, a, b.mono e⟩⟩
theorem RS.set {i : Nat} {v : V} {r : SV} (h : RS K H ρ σ) (q : SVR K H v r) : RS K H (ρ.set i (some r)) (σ.set i (some v)) := by
  refine ⟨by simp [h.len], fun j r' e => ?_⟩
  by_cases hj : i = j
  · subst hj
    by_cases hl : i < ρ.length
    · rw [List.getElem?_set_self hl] at e
      cases e
      exact ⟨v, by rw [List.getElem?_set_self (by rw [← h.len]; exact hl)], q⟩
    · rw [List.getElem?_eq_none (by simpa using hl)] at e; cases e
  · rw [List.getElem?_set_ne hj] at e
    obtain ⟨u, a, b⟩ := h.at_ j r' e
    exact ⟨u, by rw [List.getElem?_set_ne hj]; exact a, b⟩
theorem RS.wipe1 {i : Nat} (h : RS K H ρ σ) : RS K H (ρ.set i none) (σ.set i none) := by
  refine ⟨by simp [h.len], fun j r' e => ?_⟩
  by_cases hj : i = j
  · subst hj
    by_cases hl : i < ρ.length
    · rw [List.getElem?_set_self hl] at e; cases e
    · rw [List.getElem?_eq_none (by simpa using hl)] at e; cases e
  · rw [List.getElem?_set_ne hj] at e
    obtain ⟨u, a, b⟩ := h.at_ j r' e
    exact ⟨u, by rw [List.getElem?_set_ne hj]; exact a, b⟩
def wipeR (ρ : Rho) : List Nat → Rho
  | [] => ρ
  | v :: vs => (wipeR ρ vs).set v none
theorem RS.wipe (h : RS K H ρ σ) : ∀ vs, RS K H (wipeR ρ vs) (L2.wipe σ vs)
  | [] => h
  | v :: vs => (RS.wipe h vs).wipe1
/-- forgetting a slot -/
theorem RS.weak {ρ' : Rho} (h : RS K H ρ σ) (hl : ρ'.length = ρ.length) (hw : ∀ (i : Nat) (r : SV), ρ'[i]? = some (some r) → ρ[i]? = some (some r)) : RS K H ρ' σ :=
  ⟨hl.trans h.len, fun i r e => h.at_ i r (hw i r e)⟩
theorem RS.init {rs : List SV} {vs : List V} (N : List Str) (h : SVs K H vs rs) : RS K H (rs.map some ++ List.replicate (N.length - rs.length) none) (start N vs) := by
  have hl := h.length
  unfold L2.start
  refine ⟨by simp [hl], fun i r e => ?_⟩
  by_cases hi : i < rs.length
  · rw [List.getElem?_append_left (by simpa using hi), List.getElem?_map] at e
    cases q : rs[i]? with
    | none => rw [q] at e; cases e
    | some r' =>
      rw [q] at e
      cases e
      obtain ⟨v, a, b⟩ := h.get q
      exact ⟨v, by rw [List.getElem?_append_left (by simpa [hl] using hi), List.getElem?_map, a]; rfl, b⟩
  · rw [List.getElem?_append_right (by simpa using hi)] at e
    rw [List.getElem?_replicate] at e
    split at e <;> cases e
end

/-! ### the judgements -/
abbrev PK := Mu → SV → Prop
def WE (X : Cx) (ρ : Rho) (μ : Mu) (e : Expr) (P : PK) : Prop :=
  ∀ (pins : List (Addr × Obj)) (s : Shared) (σ : L2.St) (H : Hp) (Q : VK), Inv X pins σ H s → RS X.K H ρ σ → MR X.prog X.w X.K μ H →
    (∀ v r μ' H', MR X.prog X.w X.K μ' H' → SVR X.K H' v r → TEx H H' → P μ' r → Q v H') → wpAny (model X.prog X.w) X.A (eval e X.env) (EP X pins σ Q) X.xe s
def WT (X : Cx) (ρ : Rho) (μ : Mu) (e : Expr) (P : Mu → Bool → Prop) : Prop :=
  ∀ (pins : List (Addr × Obj)) (s : Shared) (σ : L2.St) (H : Hp) (Q : Bool → Hp → Prop), Inv X pins σ H s → RS X.K H ρ σ → MR X.prog X.w X.K μ H →
    (∀ b μ' H', MR X.prog X.w X.K μ' H' → TEx H H' → P μ' b → Q b H') → wpAny (model X.prog X.w) X.A (isTrue e X.env (eval e X.env)) (TP X pins σ Q) X.xe s
/-- a test whatever its whole is -/
def WW (X : Cx) (ρ : Rho) (μ : Mu) (e : Expr) (P : Mu → Bool → Prop) : Prop :=
  ∀ (whole : Sem Value) (pins : List (Addr × Obj)) (s : Shared) (σ : L2.St) (H : Hp) (Q : Bool → Hp → Prop), Inv X pins σ H s → RS X.K H ρ σ → MR X.prog X.w X.K μ H →
    (∀ b μ' H', MR X.prog X.w X.K μ' H' → TEx H H' → P μ' b → Q b H') → wpAny (model X.prog X.w) X.A (isTrue e X.env whole) (TP X pins σ Q) X.xe s
def WA (X : Cx) (ρ : Rho) (μ : Mu) (es : List Expr) (P : Mu → List SV → Prop) : Prop :=
  ∀ (pos : Pos) (pins : List (Addr × Obj)) (s : Shared) (σ : L2.St) (H : Hp) (Q : List V → Hp → Prop), Inv X pins σ H s → RS X.K H ρ σ → MR X.prog X.w X.K μ H →
    (∀ vs rs μ' H', MR X.prog X.w X.K μ' H' → SVs X.K H' vs rs → TEx H H' → P μ' rs → Q vs H') → wpAny (model X.prog X.w) X.A (spliced (backTo pos (starEach es X.env))) (AP X pins σ Q) X.xe s
/-- the most general readings -/
def gE (X : Cx) (e : Expr) : TE := fun σ H Q => ∀ (pins : List (Addr × Obj)) (s : Shared), Inv X pins σ H s → wpAny (model X.prog X.w) X.A (eval e X.env) (EP X pins σ Q) X.xe s
def gT (X : Cx) (e : Expr) : TT := fun σ H Q => ∀ (pins : List (Addr × Obj)) (s : Shared), Inv X pins σ H s → wpAny (model X.prog X.w) X.A (isTrue e X.env (eval e X.env)) (TP X pins σ Q) X.xe s
def gW (X : Cx) (e : Expr) : TT := fun σ H Q => ∀ (whole : Sem Value) (pins : List (Addr × Obj)) (s : Shared), Inv X pins σ H s → wpAny (model X.prog X.w) X.A (isTrue e X.env whole) (TP X pins σ Q) X.xe s
def gA (X : Cx) (es : List Expr) : TA := fun σ H Q => ∀ (pos : Pos) (pins : List (Addr × Obj)) (s : Shared), Inv X pins σ H s → wpAny (model X.prog X.w) X.A (spliced (backTo pos (starEach es X.env))) (AP X pins σ Q) X.xe s
section
variable {X : Cx} {ρ : Rho} {μ μ' : Mu} {e : Expr} {es : List Expr} {P P' : PK} {T T' : Mu → Bool → Prop}
theorem pe_g : PE X e (gE X e) := ⟨fun pins s σ H Q I h => h pins s I⟩
theorem pt_g : PT X e (gT X e) := ⟨fun pins s σ H Q I h => h pins s I⟩
theorem pw_g : PW X e (gW X e) := ⟨fun wh pins s σ H Q I h => h wh pins s I⟩
theorem pa_g : PA X es (gA X es) := ⟨fun pos pins s σ H Q I h => h pos pins s I⟩
/-- lifting a rule -/
theorem WE.of {t : TE} (pe : PE X e t) (h : ∀ σ H Q, RS X.K H ρ σ → MR X.prog X.w X.K μ H → (∀ v r μ' H', MR X.prog X.w X.K μ' H' → SVR X.K H' v r → TEx H H' → P μ' r → Q v H') → t σ H Q) : WE X ρ μ e P :=
  fun pins s σ H Q I hs hm k => pe.run pins s σ H Q I (h σ H Q hs hm k)
theorem WT.of {t : TT} (pe : PT X e t) (h : ∀ σ H Q, RS X.K H ρ σ → MR X.prog X.w X.K μ H → (∀ b μ' H', MR X.prog X.w X.K μ' H' → TEx H H' → T μ' b → Q b H') → t σ H Q) : WT X ρ μ e T :=
  fun pins s σ H Q I hs hm k => pe.run pins s σ H Q I (h σ H Q hs hm k)
theorem WW.of {t : TT} (pe : PW X e t) (h : ∀ σ H Q, RS X.K H ρ σ → MR X.prog X.w X.K μ H → (∀ b μ' H', MR X.prog X.w X.K μ' H' → TEx H H' → T μ' b → Q b H') → t σ H Q) : WW X ρ μ e T :=
  fun wh pins s σ H Q I hs hm k => pe.run wh pins s σ H Q I (h σ H Q hs hm k)
theorem WA.of {t : TA} {P : Mu → List SV → Prop} (pe : PA X es t) (h : ∀ σ H Q, RS X.K H ρ σ → MR X.prog X.w X.K μ H → (∀ v r μ' H', MR X.prog X.w X.K μ' H' → SVs X.K H' v r → TEx H H' → P μ' r → Q v H') → t σ H Q) : WA X ρ μ es P :=
  fun pos pins s σ H Q I hs hm k => pe.run pos pins s σ H Q I (h σ H Q hs hm k)
theorem WE.g {σ : L2.St} {H : Hp} {Q : VK} (h : WE X ρ μ e P) (hs : RS X.K H ρ σ) (hm : MR X.prog X.w X.K μ H) (k : ∀ v r μ' H', MR X.prog X.w X.K μ' H' → SVR X.K H' v r → TEx H H' → P μ' r → Q v H') : gE X e σ H Q :=
  fun pins s I => h pins s σ H Q I hs hm k
theorem WT.g {σ : L2.St} {H : Hp} {Q : Bool → Hp → Prop} (h : WT X ρ μ e T) (hs : RS X.K H ρ σ) (hm : MR X.prog X.w X.K μ H) (k : ∀ b μ' H', MR X.prog X.w X.K μ' H' → TEx H H' → T μ' b → Q b H') : gT X e σ H Q :=
  fun pins s I => h pins s σ H Q I hs hm k
theorem WW.g {σ : L2.St} {H : Hp} {Q : Bool → Hp → Prop} (h : WW X ρ μ e T) (hs : RS X.K H ρ σ) (hm : MR X.prog X.w X.K μ H) (k : ∀ b μ' H', MR X.prog X.w X.K μ' H' → TEx H H' → T μ' b → Q b H') : gW X e σ H Q :=
  fun wh pins s I => h wh pins s σ H Q I hs hm k
theorem WA.g {P : Mu → List SV → Prop} {σ : L2.St} {H : Hp} {Q : List V → Hp → Prop} (h : WA X ρ μ es P) (hs : RS X.K H ρ σ) (hm : MR X.prog X.w X.K μ H) (k : ∀ v r μ' H', MR X.prog X.w X.K μ' H' → SVs X.K H' v r → TEx H H' → P μ' r → Q v H') : gA X es σ H Q :=
  fun pos pins s I => h pos pins s σ H Q I hs hm k
theorem WE.imp (h : WE X ρ μ e P) (hp : ∀ μ r, P μ r → P' μ r) : WE X ρ μ e P' := fun pins s σ H Q I hs hm k => h pins s σ H Q I hs hm fun v r μ' H' a b c d => k v r μ' H' a b c (hp _ _ d)
/-- forgetting cells, slots -/
theorem WE.sub (h : WE X ρ μ e P) (s : MSub μ μ') : WE X ρ μ' e P := fun pins s' σ H Q I hs hm k => h pins s' σ H Q I hs (hm.sub s) k
theorem WT.sub (h : WT X ρ μ e T) (s : MSub μ μ') : WT X ρ μ' e T := fun pins s' σ H Q I hs hm k => h pins s' σ H Q I hs (hm.sub s) k
end

/-- what is wanted behind statements -/
structure Po where
  nx : Rho → Mu → Prop
  rt : SV → Mu → Prop
  bk : Rho → Mu → Prop := fun _ _ => False
  ct : Rho → Mu → Prop := fun _ _ => False
structure PoD (X : Cx) (T : Po) (H : Hp) (D : Ends) : Prop where
  nx : ∀ ρ' μ' σ' H', RS X.K H' ρ' σ' → MR X.prog X.w X.K μ' H' → TEx H H' → T.nx ρ' μ' → D.nx σ' H'
  rt : ∀ v r μ' H', MR X.prog X.w X.K μ' H' → SVR X.K H' v r → TEx H H' → T.rt r μ' → D.rt v H'
  bk : ∀ ρ' μ' σ' H', RS X.K H' ρ' σ' → MR X.prog X.w X.K μ' H' → TEx H H' → T.bk ρ' μ' → D.bk σ' H'
  ct : ∀ ρ' μ' σ' H', RS X.K H' ρ' σ' → MR X.prog X.w X.K μ' H' → TEx H H' → T.ct ρ' μ' → D.ct σ' H'
theorem PoD.ex {X : Cx} {T : Po} {H H' : Hp} {D : Ends} (e : TEx H H') (k : PoD X T H D) : PoD X T H' D :=
  ⟨fun a b c d p q r => k.nx a b c d p q (e.trans r), fun a b c d p q r => k.rt a b c d p q (e.trans r), fun a b c d p q r => k.bk a b c d p q (e.trans r), fun a b c d p q r => k.ct a b c d p q (e.trans r)⟩
def W1 (X : Cx) (ρ : Rho) (μ : Mu) (st : Stmt) (T : Po) : Prop :=
  ∀ (pins : List (Addr × Obj)) (s : Shared) (σ : L2.St) (H : Hp) (D : Ends), Inv X pins σ H s → RS X.K H ρ σ → MR X.prog X.w X.K μ H → PoD X T H D → wpAny (model X.prog X.w) X.A (exec st X.env) (SP X pins D) X.xe s
def WS (X : Cx) (ρ : Rho) (μ : Mu) (sts : List Stmt) (T : Po) : Prop :=
  ∀ (pins : List (Addr × Obj)) (s : Shared) (σ : L2.St) (H : Hp) (D : Ends), Inv X pins σ H s → RS X.K H ρ σ → MR X.prog X.w X.K μ H → PoD X T H D → wpAny (model X.prog X.w) X.A (execs sts X.env) (SP X pins D) X.xe s
def g1 (X : Cx) (st : Stmt) : TS := fun D σ H => ∀ (pins : List (Addr × Obj)) (s : Shared), Inv X pins σ H s → wpAny (model X.prog X.w) X.A (exec st X.env) (SP X pins D) X.xe s
def gS (X : Cx) (sts : List Stmt) : TS := fun D σ H => ∀ (pins : List (Addr × Obj)) (s : Shared), Inv X pins σ H s → wpAny (model X.prog X.w) X.A (execs sts X.env) (SP X pins D) X.xe s
section
variable {X : Cx} {ρ ρ' : Rho} {μ μ' : Mu} {st : Stmt} {sts : List Stmt} {T : Po}
theorem ps_g : PS X st (g1 X st) := ⟨fun pins s σ H D I h => h pins s I⟩
theorem pss_g : PSs X sts (gS X sts) := ⟨fun pins s σ H D I h => h pins s I⟩
theorem W1.of {t : TS} (pe : PS X st t) (h : ∀ D σ H, RS X.K H ρ σ → MR X.prog X.w X.K μ H → PoD X T H D → t D σ H) : W1 X ρ μ st T :=
  fun pins s σ H D I hs hm k => pe.run pins s σ H D I (h D σ H hs hm k)
theorem WS.of {t : TS} (pe : PSs X sts t) (h : ∀ D σ H, RS X.K H ρ σ → MR X.prog X.w X.K μ H → PoD X T H D → t D σ H) : WS X ρ μ sts T :=
  fun pins s σ H D I hs hm k => pe.run pins s σ H D I (h D σ H hs hm k)
theorem W1.g {D : Ends} {σ : L2.St} {H : Hp} (h : W1 X ρ μ st T) (hs : RS X.K H ρ σ) (hm : MR X.prog X.w X.K μ H) (k : PoD X T H D) : g1 X st D σ H := fun pins s I => h pins s σ H D I hs hm k
theorem WS.g {D : Ends} {σ : L2.St} {H : Hp} (h : WS X ρ μ sts T) (hs : RS X.K H ρ σ) (hm : MR X.prog X.w X.K μ H) (k : PoD X T H D) : gS X sts D σ H := fun pins s I => h pins s σ H D I hs hm k
theorem WS.sub (h : WS X ρ μ sts T) (s : MSub μ μ') : WS X ρ μ' sts T := fun pins s' σ H Q I hs hm k => h pins s' σ H Q I hs (hm.sub s) k
theorem WS.weak (h : WS X ρ' μ sts T) (hl : ρ'.length = ρ.length) (hw : ∀ (i : Nat) (r : SV), ρ'[i]? = some (some r) → ρ[i]? = some (some r)) : WS X ρ μ sts T :=
  fun pins s' σ H Q I hs hm k => h pins s' σ H Q I (hs.weak hl hw) hm k
theorem WS.imp {T' : Po} (h : WS X ρ μ sts T) (h1 : ∀ ρ μ, T.nx ρ μ → T'.nx ρ μ) (h2 : ∀ r μ, T.rt r μ → T'.rt r μ) (h3 : ∀ ρ μ, T.bk ρ μ → T'.bk ρ μ) (h4 : ∀ ρ μ, T.ct ρ μ → T'.ct ρ μ) : WS X ρ μ sts T' :=
  fun pins s' σ H Q I hs hm k => h pins s' σ H Q I hs hm ⟨fun a b c d p q r z => k.nx a b c d p q r (h1 _ _ z), fun a b c d p q r z => k.rt a b c d p q r (h2 _ _ z), fun a b c d p q r z => k.bk a b c d p q r (h3 _ _ z), fun a b c d p q r z => k.ct a b c d p q r (h4 _ _ z)⟩
theorem w_nil (h : T.nx ρ μ) : WS X ρ μ [] T := WS.of pss_nil fun D σ H hs hm k => k.nx ρ μ σ H hs hm (TEx.refl H) h
theorem w_cons (h : W1 X ρ μ st { T with nx := fun ρ' μ' => WS X ρ' μ' sts T }) : WS X ρ μ (st :: sts) T :=
  WS.of (pss_cons ps_g pss_g) fun D σ H hs hm k => h.g (D := { D with nx := gS X sts D }) hs hm
    ⟨fun a b c d p q r z => z.g p q (k.ex r), k.rt, k.bk, k.ct⟩
theorem w_one (h : W1 X ρ μ st T) : WS X ρ μ [st] T := WS.of (pss_one ps_g) fun D σ H hs hm k => h.g hs hm k
end
end AV
-- text LyR
set_option Elab.async false
set_option linter.all false
set_option maxRecDepth 100000
set_option maxHeartbeats 4000000
namespace AV
open PySem L2
section
variable {K : PySem.W.Frag} {H : Hp}
theorem sv_int (i : Int) : SVR K H (.int i) (.dat (.int i)) := TD.int i
theorem sv_bl (i : Bool) : SVR K H (.bl i) (.dat (.bool i)) := TD.bl i
theorem sv_str (i : Str) : SVR K H (.str i) (.dat (.str i)) := TD.str i
theorem sv_non : SVR K H .non (.dat .none) := TD.non
theorem sv_tup {a : Addr} {xs : List V} {ds : List PyData} (h : SqT K H a xs) (t : TDs K H xs ds) : SVR K H (.ref a) (.dat (.tuple ds)) := TD.tup h t
theorem sv_dat {v : V} {d : PyData} (h : TD K H v d) : SVR K H v (.dat d) := h
end
section
variable {X : Cx} {ρ : Rho} {μ : Mu} {a b c : Expr} {es : List Expr} {P : PK} {T : Mu → Bool → Prop} {pos : Pos}

/-! ### names, constants -/
theorem e_var {i : Nat} {x : Str} {r : SV} (hr : ρ[i]? = some (some r)) (h : P μ r) (hN : X.N[i]? = some x := by rfl) (hv : Vis X.env.scope x := by first | exact .inl rfl | exact .inr (.inl rfl) | exact .inr (.inr rfl))
    (hd : (x == ("__debug__" : Str)) = false := by decide) (hcd : (x == ("__classdict__" : Str)) = false := by decide) : WE X ρ μ (.Name x pos) P :=
  WE.of (pe_var (i := i) hN hv hd hcd) fun σ H Q hs hm k => by
    obtain ⟨v, e, q⟩ := hs.at_ i r hr
    exact ⟨v, e, k v r μ H hm q (TEx.refl H) h⟩
theorem e_int {i j} (h : P μ (.int i)) : WE X ρ μ (.Constant (.int i) j pos) P := WE.of pe_int fun σ H Q hs hm k => k _ _ μ H hm (sv_int i) (TEx.refl H) h
theorem e_bl {i j} (h : P μ (.dat (.bool i))) : WE X ρ μ (.Constant (.bool i) j pos) P := WE.of pe_bl fun σ H Q hs hm k => k _ _ μ H hm (sv_bl i) (TEx.refl H) h
theorem e_non {j} (h : P μ (.dat .none)) : WE X ρ μ (.Constant .none j pos) P := WE.of pe_non fun σ H Q hs hm k => k _ _ μ H hm sv_non (TEx.refl H) h
theorem e_str {i j} (h : P μ (.dat (.str i))) : WE X ρ μ (.Constant (.str i) j pos) P := WE.of pe_str fun σ H Q hs hm k => k _ _ μ H hm (sv_str i) (TEx.refl H) h
/-- a module's int -/
theorem e_gint {x : Str} {i : Int} {u : Value} (hm : X.mg x = some u) (ru : RelV (.int i) u) (h : P μ (.int i)) (hg : Gl X x := by rfl) (hd : (x == ("__debug__" : Str)) = false := by decide) : WE X ρ μ (.Name x pos) P :=
  WE.of (pe_glob hg hm ru hd) fun σ H Q hs hm k => k _ _ μ H hm (sv_int i) (TEx.refl H) h

/-! ### operators -/
/-- two places by a rule of the layer -/
theorem e_bin {op : Operator} {r : R2} (ho : OpR X (binaryOp op) r)
    (h : WE X ρ μ a fun μ1 x => WE X ρ μ1 b fun μ2 y => ∀ v u H Q, SVR X.K H v x → SVR X.K H u y → MR X.prog X.w X.K μ2 H → (∀ w z μ' H', MR X.prog X.w X.K μ' H' → SVR X.K H' w z → TEx H H' → P μ' z → Q w H') → r v u H Q) :
    WE X ρ μ (.BinOp a op b pos) P :=
  WE.of (pe_op ho pe_g pe_g) fun σ H Q hs hm k => h.g hs hm fun v x μ1 H1 m1 r1 t1 q1 => q1.g (hs.mono t1) m1 fun u y μ2 H2 m2 r2 t2 q2 =>
    q2 v u H2 Q (r1.mono t2) r2 m2 fun w z μ' H' m' r' t' q' => k w z μ' H' m' r' (t1.trans (t2.trans t')) q'
theorem e_binI0 {op : Operator} {g : Int → Int → Int} (ho : OpR X (binaryOp op) (rI0 fun i j => .int (g i j)))
    (h : WE X ρ μ a fun μ1 x => WE X ρ μ1 b fun μ2 y => ∃ i j, x = .int i ∧ y = .int j ∧ P μ2 (.int (g i j))) : WE X ρ μ (.BinOp a op b pos) P :=
  e_bin ho (h.imp fun μ1 x q => q.imp fun μ2 y ⟨i, j, ex, ey, p⟩ v u H Q hv hu hm k => by
    subst ex ey
    exact ⟨i, j, TD.int_inv hv, TD.int_inv hu, k _ _ μ2 H hm (sv_int _) (TEx.refl H) p⟩)
theorem e_binI {op : Operator} {C : Int → Int → Prop} {g : Int → Int → Int} (ho : OpR X (binaryOp op) (rI C fun i j => .int (g i j)))
    (h : WE X ρ μ a fun μ1 x => WE X ρ μ1 b fun μ2 y => ∃ i j, x = .int i ∧ y = .int j ∧ C i j ∧ P μ2 (.int (g i j))) : WE X ρ μ (.BinOp a op b pos) P :=
  e_bin ho (h.imp fun μ1 x q => q.imp fun μ2 y ⟨i, j, ex, ey, hc, p⟩ v u H Q hv hu hm k => by
    subst ex ey
    exact ⟨i, j, TD.int_inv hv, TD.int_inv hu, hc, k _ _ μ2 H hm (sv_int _) (TEx.refl H) p⟩)
theorem e_add (h : WE X ρ μ a fun μ1 x => WE X ρ μ1 b fun μ2 y => ∃ i j, x = .int i ∧ y = .int j ∧ P μ2 (.int (i + j))) : WE X ρ μ (.BinOp a .Add b pos) P := e_binI0 op_add h
theorem e_sub (h : WE X ρ μ a fun μ1 x => WE X ρ μ1 b fun μ2 y => ∃ i j, x = .int i ∧ y = .int j ∧ P μ2 (.int (i - j))) : WE X ρ μ (.BinOp a .Sub b pos) P := e_binI0 op_sub h
theorem e_mul (h : WE X ρ μ a fun μ1 x => WE X ρ μ1 b fun μ2 y => ∃ i j, x = .int i ∧ y = .int j ∧ CMul i j ∧ P μ2 (.int (i * j))) : WE X ρ μ (.BinOp a .Mult b pos) P := e_binI op_mul h
theorem e_mulW (h : WE X ρ μ a fun μ1 x => WE X ρ μ1 b fun μ2 y => ∃ i j, x = .int i ∧ y = .int j ∧ CMulW i j ∧ P μ2 (.int (i * j))) : WE X ρ μ (.BinOp a .Mult b pos) P := e_binI op_mulW h
theorem e_fdiv (h : WE X ρ μ a fun μ1 x => WE X ρ μ1 b fun μ2 y => ∃ i j, x = .int i ∧ y = .int j ∧ CDiv i j ∧ P μ2 (.int (i / j))) : WE X ρ μ (.BinOp a .FloorDiv b pos) P := e_binI op_fdiv h
theorem e_mod (h : WE X ρ μ a fun μ1 x => WE X ρ μ1 b fun μ2 y => ∃ i j, x = .int i ∧ y = .int j ∧ 0 < j ∧ P μ2 (.int (i % j))) : WE X ρ μ (.BinOp a .Mod b pos) P := e_binI op_mod h
theorem e_pow (h : WE X ρ μ a fun μ1 x => WE X ρ μ1 b fun μ2 y => ∃ i j, x = .int i ∧ y = .int j ∧ CPow i j ∧ P μ2 (.int (i ^ j.toNat))) : WE X ρ μ (.BinOp a .Pow b pos) P := e_binI op_pow h
theorem e_neg (h : WE X ρ μ a fun μ1 x => ∃ i, x = .int i ∧ P μ1 (.int (-i))) : WE X ρ μ (.UnaryOp .USub a pos) P :=
  WE.of (pe_un un_neg pe_g) fun σ H Q hs hm k => h.g hs hm fun v x μ1 H1 m1 r1 t1 ⟨i, ex, p⟩ => by
    subst ex
    exact ⟨i, TD.int_inv r1, k _ _ μ1 H1 m1 (sv_int _) t1 p⟩
/-- tuples joined -/
theorem e_catT (h : WE X ρ μ a fun μ1 x => WE X ρ μ1 b fun μ2 y => ∃ ds es, x = .tup ds ∧ y = .tup es ∧ ds.length + es.length ≤ sizeLine ∧ P μ2 (.tup (ds ++ es))) : WE X ρ μ (.BinOp a .Add b pos) P :=
  e_bin op_catA (h.imp fun μ1 x q => q.imp fun μ2 y ⟨ds, es, ex, ey, hz, p⟩ v u H Q hv hu hm k => by
    subst ex ey
    obtain ⟨l, xs, rfl, s1, t1⟩ := TD.tup_inv hv
    obtain ⟨l', ys, rfl, s2, t2⟩ := TD.tup_inv hu
    refine ⟨l, l', xs, ys, rfl, rfl, s1, s2, by rw [t1.length, t2.length]; exact hz, ?_⟩
    have h0 := t1.length
    have h1 := t2.length
    refine ⟨fun e => ?_, fun _ e => ?_, fun _ _ p' hp => ?_⟩
    · subst e
      have : ds = [] := List.eq_nil_of_length_eq_zero (by simpa using h0.symm)
      subst this
      exact k _ _ μ2 H hm (sv_tup s2 t2) (TEx.refl H) p
    · subst e
      have : es = [] := List.eq_nil_of_length_eq_zero (by simpa using h1.symm)
      subst this
      rw [List.append_nil] at p
      exact k _ _ μ2 H hm (sv_tup s1 t1) (TEx.refl H) p
    · exact k _ _ μ2 _ (hm.new0 hp) (sv_tup (SqT.of upd_same) ((t1.append t2).mono (TEx.new hp))) (TEx.new hp) p)
/-- lists joined: a new list -/
theorem e_catL (h : WE X ρ μ a fun μ1 x => WE X ρ μ1 b fun μ2 y => ∃ l l' xs ys, x = .loc l ∧ y = .loc l' ∧ μ2 l = some (.lst xs) ∧ μ2 l' = some (.lst ys) ∧ xs.length + ys.length ≤ sizeLine ∧
    ∀ q, μ2 q = none → P (updM μ2 q (.lst (xs ++ ys))) (.loc q)) : WE X ρ μ (.BinOp a .Add b pos) P :=
  e_bin op_cat (h.imp fun μ1 x q => q.imp fun μ2 y ⟨l, l', xs, ys, ex, ey, e1, e2, hz, p⟩ v u H Q hv hu hm k => by
    subst ex ey
    cases hv; cases hu
    obtain ⟨vs, h1, r1⟩ := hm.lst e1
    obtain ⟨us, h2, r2⟩ := hm.lst e2
    refine ⟨l, l', vs, us, rfl, rfl, h1, h2, by rw [r1.length, r2.length]; exact hz, fun q hq => ?_⟩
    exact k _ (.loc q) _ _ (hm.new (c := .lst (xs ++ ys)) hq ⟨_, upd_same, (r1.append r2).mono (TEx.new hq)⟩) rfl (TEx.new hq) (p q (hm.fresh hq)))
/-- a list repeated: a new list -/
theorem e_repL (h : WE X ρ μ a fun μ1 x => WE X ρ μ1 b fun μ2 y => ∃ l n xs, x = .loc l ∧ y = .int n ∧ μ2 l = some (.lst xs) ∧ -(2 ^ 63) ≤ n ∧ n < 2 ^ 63 ∧ xs.length * n.toNat ≤ sizeLine ∧
    ∀ q, μ2 q = none → P (updM μ2 q (.lst (List.replicate n.toNat xs).flatten)) (.loc q)) : WE X ρ μ (.BinOp a .Mult b pos) P :=
  e_bin op_rep (h.imp fun μ1 x q => q.imp fun μ2 y ⟨l, n, xs, ex, ey, e1, n1, n2, hz, p⟩ v u H Q hv hu hm k => by
    subst ex ey
    cases hv; cases TD.int_inv hu
    obtain ⟨vs, h1, r1⟩ := hm.lst e1
    refine ⟨l, n, vs, rfl, rfl, h1, n1, n2, by rw [r1.length]; exact hz, fun q hq => ?_⟩
    exact k _ (.loc q) _ _ (hm.new (c := .lst (List.replicate n.toNat xs).flatten) hq ⟨_, upd_same, (r1.flatten_rep _).mono (TEx.new hq)⟩) rfl (TEx.new hq) (p q (hm.fresh hq)))

/-! ### comparisons -/
theorem e_cmp {op : CmpOp} {r : R2} (ho : OpR X (compareOp op) r)
    (h : WE X ρ μ a fun μ1 x => WE X ρ μ1 b fun μ2 y => ∀ v u H Q, SVR X.K H v x → SVR X.K H u y → MR X.prog X.w X.K μ2 H → (∀ w z μ' H', MR X.prog X.w X.K μ' H' → SVR X.K H' w z → TEx H H' → P μ' z → Q w H') → r v u H Q)
    (hb : behindInMarks op b = false := by first | exact nomark _ | rfl) : WE X ρ μ (.Compare a [op] [b] pos) P :=
  WE.of (pe_cmpR ho pe_g pe_g hb) fun σ H Q hs hm k => h.g hs hm fun v x μ1 H1 m1 r1 t1 q1 => q1.g (hs.mono t1) m1 fun u y μ2 H2 m2 r2 t2 q2 =>
    q2 v u H2 Q (r1.mono t2) r2 m2 fun w z μ' H' m' r' t' q' => k w z μ' H' m' r' (t1.trans (t2.trans t')) q'
theorem e_cmpI {op : CmpOp} {g : Int → Int → Bool} (ho : OpR X (compareOp op) (rI0 fun i j => .bl (g i j)))
    (h : WE X ρ μ a fun μ1 x => WE X ρ μ1 b fun μ2 y => ∃ i j, x = .int i ∧ y = .int j ∧ P μ2 (.dat (.bool (g i j)))) (hb : behindInMarks op b = false := by exact nomark _) : WE X ρ μ (.Compare a [op] [b] pos) P :=
  e_cmp ho (h.imp fun μ1 x q => q.imp fun μ2 y ⟨i, j, ex, ey, p⟩ v u H Q hv hu hm k => by
    subst ex ey
    exact ⟨i, j, TD.int_inv hv, TD.int_inv hu, k _ _ μ2 H hm (sv_bl _) (TEx.refl H) p⟩) hb
theorem e_lt (h : WE X ρ μ a fun μ1 x => WE X ρ μ1 b fun μ2 y => ∃ i j, x = .int i ∧ y = .int j ∧ P μ2 (.dat (.bool (decide (i < j))))) : WE X ρ μ (.Compare a [.Lt] [b] pos) P := e_cmpI op_lt h
theorem e_gt (h : WE X ρ μ a fun μ1 x => WE X ρ μ1 b fun μ2 y => ∃ i j, x = .int i ∧ y = .int j ∧ P μ2 (.dat (.bool (decide (j < i))))) : WE X ρ μ (.Compare a [.Gt] [b] pos) P := e_cmpI op_gt h
theorem e_ge (h : WE X ρ μ a fun μ1 x => WE X ρ μ1 b fun μ2 y => ∃ i j, x = .int i ∧ y = .int j ∧ P μ2 (.dat (.bool (decide (j ≤ i))))) : WE X ρ μ (.Compare a [.GtE] [b] pos) P := e_cmpI op_ge h
/-- flat things: == -/
def flatD : PyData → PyData → Option Bool
  | .int i, .int j => some (decide (i = j))
  | .str i, .str j => some (decide (i = j))
  | .bool i, .bool j => some (decide (i = j))
  | _, _ => none
theorem flat_eq {K : PySem.W.Frag} {H : Hp} {v u : V} {d e : PyData} {c : Bool} (hv : TD K H v d) (hu : TD K H u e) (h : flatD d e = some c) : scal v u = true ∧ decide (v = u) = c := by
  cases d <;> cases e <;> simp only [flatD] at h <;> first | cases h | skip
  all_goals (cases hv; cases hu; first | exact ⟨rfl, by simp⟩)
theorem e_eq (h : WE X ρ μ a fun μ1 x => WE X ρ μ1 b fun μ2 y => ∃ d e c, x = .dat d ∧ y = .dat e ∧ flatD d e = some c ∧ P μ2 (.dat (.bool c))) : WE X ρ μ (.Compare a [.Eq] [b] pos) P :=
  e_cmp op_eq (h.imp fun μ1 x q => q.imp fun μ2 y ⟨d, e, c, ex, ey, hc, p⟩ v u H Q hv hu hm k => by
    subst ex ey
    obtain ⟨h1, h2⟩ := flat_eq hv hu hc
    exact ⟨h1, by rw [h2]; exact k _ _ μ2 H hm (sv_bl _) (TEx.refl H) p⟩)
theorem e_eqI (h : WE X ρ μ a fun μ1 x => WE X ρ μ1 b fun μ2 y => ∃ i j, x = .int i ∧ y = .int j ∧ P μ2 (.dat (.bool (decide (i = j))))) : WE X ρ μ (.Compare a [.Eq] [b] pos) P :=
  e_eq (h.imp fun μ1 x q => q.imp fun μ2 y ⟨i, j, ex, ey, p⟩ => ⟨_, _, _, ex, ey, rfl, p⟩)
theorem e_eqS (h : WE X ρ μ a fun μ1 x => WE X ρ μ1 b fun μ2 y => ∃ i j, x = .dat (.str i) ∧ y = .dat (.str j) ∧ P μ2 (.dat (.bool (decide (i = j))))) : WE X ρ μ (.Compare a [.Eq] [b] pos) P :=
  e_eq (h.imp fun μ1 x q => q.imp fun μ2 y ⟨i, j, ex, ey, p⟩ => ⟨_, _, _, ex, ey, rfl, p⟩)
/-- data at any depth: ==, != -/
theorem e_eqD (hu : X.A.units + 64 < cLine) (h : WE X ρ μ a fun μ1 x => WE X ρ μ1 b fun μ2 y => ∃ d e, x = .dat d ∧ y = .dat e ∧ okD d ∧ okD e ∧ P μ2 (.dat (.bool (PyData.eqv d e)))) : WE X ρ μ (.Compare a [.Eq] [b] pos) P :=
  e_cmp (op_eqD hu) (h.imp fun μ1 x q => q.imp fun μ2 y ⟨d, e, ex, ey, h1, h2, p⟩ v u H Q hv hu hm k => by
    subst ex ey
    exact ⟨d, e, TD.dp h1.2 hv, TD.dp h2.2 hu, h1.1, h2.1, k _ _ μ2 H hm (sv_bl _) (TEx.refl H) p⟩)
theorem e_neD (hu : X.A.units + 64 < cLine) (h : WE X ρ μ a fun μ1 x => WE X ρ μ1 b fun μ2 y => ∃ d e, x = .dat d ∧ y = .dat e ∧ okD d ∧ okD e ∧ P μ2 (.dat (.bool (!PyData.eqv d e)))) : WE X ρ μ (.Compare a [.NotEq] [b] pos) P :=
  e_cmp (op_neD hu) (h.imp fun μ1 x q => q.imp fun μ2 y ⟨d, e, ex, ey, h1, h2, p⟩ v u H Q hv hu hm k => by
    subst ex ey
    exact ⟨d, e, TD.dp h1.2 hv, TD.dp h2.2 hu, h1.1, h2.1, k _ _ μ2 H hm (sv_bl _) (TEx.refl H) p⟩)
/-- is None -/
def isNon : PyData → Bool
  | .none => true
  | _ => false
def isNonS : SV → Bool
  | .dat d => isNon d
  | .loc _ => false
theorem non_iff {K : PySem.W.Frag} {H : Hp} {v : V} {r : SV} (h : SVR K H v r) : decide (v = .non) = isNonS r := by
  cases r with
  | loc a => cases h; rfl
  | dat d => cases d <;> cases h <;> rfl
theorem e_isN {j p2} (h : WE X ρ μ a fun μ1 x => P μ1 (.dat (.bool (isNonS x)))) : WE X ρ μ (.Compare a [.Is] [.Constant .none j p2] pos) P :=
  WE.of (pe_cmp (pc_isN pe_g) rfl) fun σ H Q hs hm k => h.g hs hm fun v x μ1 H1 m1 r1 t1 q1 => by
    show Q (.bl (decide (v = .non))) H1
    rw [non_iff r1]
    exact k _ _ μ1 H1 m1 (sv_bl _) t1 q1
theorem e_notN {j p2} (h : WE X ρ μ a fun μ1 x => P μ1 (.dat (.bool (!isNonS x)))) : WE X ρ μ (.Compare a [.IsNot] [.Constant .none j p2] pos) P :=
  WE.of (pe_cmp (pc_notN pe_g) rfl) fun σ H Q hs hm k => h.g hs hm fun v x μ1 H1 m1 r1 t1 q1 => by
    show Q (.bl (!decide (v = .non))) H1
    rw [non_iff r1]
    exact k _ _ μ1 H1 m1 (sv_bl _) t1 q1

/-! ### tests -/
theorem t_val (h : WE X ρ μ a fun μ1 x => ∃ c, x = .dat (.bool c) ∧ T μ1 c) (he : ∀ whole, isTrue a X.env whole = (do let v ← whole; standAt a.pos; holding [v] (truthy v)) := by intro _; rfl) : WT X ρ μ a T :=
  WT.of (pt_val pe_g he) fun σ H Q hs hm k => h.g hs hm fun v x μ1 H1 m1 r1 t1 ⟨c, ex, q⟩ => by
    subst ex
    exact ⟨c, TD.bl_inv r1, k _ _ _ m1 t1 q⟩
theorem t_and1 (h : WT X ρ μ a T) : WW X ρ μ (.BoolOp .And [a] pos) T := WW.of (pw_and1 pt_g) fun σ H Q hs hm k => h.g hs hm k
theorem t_or1 (h : WT X ρ μ a T) : WW X ρ μ (.BoolOp .Or [a] pos) T := WW.of (pw_or1 pt_g) fun σ H Q hs hm k => h.g hs hm k
theorem t_and {rest : List Expr} (h : WT X ρ μ a fun μ1 c => (c = true → WW X ρ μ1 (.BoolOp .And (b :: rest) pos) T) ∧ (c = false → T μ1 false)) : WW X ρ μ (.BoolOp .And (a :: b :: rest) pos) T :=
  WW.of (pw_and pt_g pw_g) fun σ H Q hs hm k => h.g hs hm fun c μ1 H1 m1 t1 q => by
    cases c with
    | true => exact (q.1 rfl).g (hs.mono t1) m1 fun c μ' H' m' t' q' => k c μ' H' m' (t1.trans t') q'
    | false => exact k _ _ _ m1 t1 (q.2 rfl)
theorem t_or {rest : List Expr} (h : WT X ρ μ a fun μ1 c => (c = false → WW X ρ μ1 (.BoolOp .Or (b :: rest) pos) T) ∧ (c = true → T μ1 true)) : WW X ρ μ (.BoolOp .Or (a :: b :: rest) pos) T :=
  WW.of (pw_or pt_g pw_g) fun σ H Q hs hm k => h.g hs hm fun c μ1 H1 m1 t1 q => by
    cases c with
    | false => exact (q.1 rfl).g (hs.mono t1) m1 fun c μ' H' m' t' q' => k c μ' H' m' (t1.trans t') q'
    | true => exact k _ _ _ m1 t1 (q.2 rfl)
theorem t_w (h : WW X ρ μ a T) : WT X ρ μ a T := WT.of pw_g.pt fun σ H Q hs hm k => h.g hs hm k
theorem t_not (h : WT X ρ μ a fun μ1 c => T μ1 (!c)) : WT X ρ μ (.UnaryOp .Not a pos) T := WT.of (pt_not pt_g) fun σ H Q hs hm k => h.g hs hm fun c μ1 H1 m1 t1 q => k _ _ _ m1 t1 q
theorem WT.imp {T' : Mu → Bool → Prop} (h : WT X ρ μ a T) (i : ∀ μ c, T μ c → T' μ c) : WT X ρ μ a T' := fun pins s σ H Q I hs hm k => h pins s σ H Q I hs hm fun b μ' H' m t q => k b μ' H' m t (i _ _ q)
/-- values of and, or, not that are bools -/
theorem e_not (h : WE X ρ μ a fun μ1 x => ∃ c, x = .dat (.bool c) ∧ P μ1 (.dat (.bool (!c)))) : WE X ρ μ (.UnaryOp .Not a pos) P :=
  WE.of (pe_not pe_g) fun σ H Q hs hm k => h.g hs hm fun v x μ1 H1 m1 r1 t1 ⟨c, ex, q⟩ => by
    subst ex
    exact ⟨c, TD.bl_inv r1, k _ _ _ _ m1 (sv_bl _) t1 q⟩
theorem e_if (h : WT X ρ μ c fun μ1 k => (k = true → WE X ρ μ1 a P) ∧ (k = false → WE X ρ μ1 b P)) : WE X ρ μ (.IfExp c a b pos) P :=
  WE.of (pe_ifExp pt_g pe_g pe_g) fun σ H Q hs hm k => h.g hs hm fun c μ1 H1 m1 t1 q => by
    cases c with
    | true => exact (q.1 rfl).g (hs.mono t1) m1 fun v r μ' H' m' r' t' q' => k v r μ' H' m' r' (t1.trans t') q'
    | false => exact (q.2 rfl).g (hs.mono t1) m1 fun v r μ' H' m' r' t' q' => k v r μ' H' m' r' (t1.trans t') q'

/-! ### argument lists, displays -/
variable {PL : Mu → List SV → Prop}
theorem a_nil (h : PL μ []) : WA X ρ μ [] PL := WA.of pa_nil fun σ H Q hs hm k => k [] [] μ H hm .nil (TEx.refl H) h
theorem a_cons (h : WE X ρ μ a fun μ1 x => WA X ρ μ1 es fun μ2 xs => PL μ2 (x :: xs)) (hs : starEach (a :: es) X.env = (false, eval a X.env) :: starEach es X.env := by rfl) : WA X ρ μ (a :: es) PL :=
  WA.of (pa_cons pe_g pa_g hs) fun σ H Q hs hm k => h.g hs hm fun v x μ1 H1 m1 r1 t1 q1 => q1.g (hs.mono t1) m1 fun vs xs μ2 H2 m2 r2 t2 q2 => k _ _ μ2 H2 m2 (.cons (r1.mono t2) r2) (t1.trans t2) q2
theorem e_tup {x1} (h : WA X ρ μ es fun μ1 xs => ∃ ds, xs = ds.map SV.dat ∧ ds.length ≤ sizeLine ∧ P μ1 (.tup ds)) : WE X ρ μ (.Tuple es x1 pos) P :=
  WE.of (pe_tup pa_g) fun σ H Q hs hm k => h.g hs hm fun vs xs μ1 H1 m1 r1 t1 ⟨ds, ex, hz, q⟩ => by
    subst ex
    have r := r1.dats
    exact ⟨by rw [r.length]; exact hz, fun p hp => k _ _ μ1 _ (m1.new0 hp) (sv_tup (SqT.of upd_same) (r.mono (TEx.new hp))) (t1.trans (TEx.new hp)) q⟩
theorem e_lst (h : WA X ρ μ es fun μ1 xs => xs.length ≤ sizeLine ∧ ∀ q, μ1 q = none → P (updM μ1 q (.lst xs)) (.loc q)) : WE X ρ μ (.List es pos) P :=
  WE.of (pe_lst pa_g) fun σ H Q hs hm k => h.g hs hm fun vs xs μ1 H1 m1 r1 t1 ⟨hz, q⟩ =>
    ⟨by rw [r1.length]; exact hz, fun p hp => k _ (.loc p) _ _ (m1.new (c := .lst xs) hp ⟨_, upd_same, r1.mono (TEx.new hp)⟩) rfl (t1.trans (TEx.new hp)) (q p (m1.fresh hp))⟩

/-! ### items, slices -/
theorem ixN_len {α β : Type} {xs : List α} {ys : List β} (h : xs.length = ys.length) (i : Int) : ixN xs.length i = ixN ys.length i := by rw [h]
/-- t[i], a tuple -/
theorem e_ixT (h : WE X ρ μ a fun μ1 x => WE X ρ μ1 b fun μ2 y => ∃ ds i d, x = .tup ds ∧ y = .int i ∧ atI ds i = some d ∧ P μ2 (.dat d)) (hp : PlainIx b := by exact fun _ _ => rfl) : WE X ρ μ (.Subscript a b pos) P :=
  WE.of (pe_ix ix_tup pe_g pe_g hp) fun σ H Q hs hm k => h.g hs hm fun v x μ1 H1 m1 r1 t1 q1 => q1.g (hs.mono t1) m1 fun u y μ2 H2 m2 r2 t2 ⟨ds, i, d, ex, ey, hd, q⟩ => by
    subst ex ey
    obtain ⟨l, xs, rfl, s1, ts⟩ := TD.tup_inv (TD.mono t2 r1)
    cases TD.int_inv r2
    unfold atI at hd
    cases hj : ixN ds.length i with
    | none => rw [hj] at hd; cases hd
    | some j =>
      rw [hj] at hd
      obtain ⟨w, hw, tw⟩ := ts.get hd
      refine ⟨l, xs, i, w, rfl, rfl, s1, ?_, k _ _ _ _ m2 (sv_dat tw) (t1.trans t2) q⟩
      unfold atI
      rw [ixN_len ts.length, hj]
      exact hw
/-- xs[i], a list -/
theorem e_ixL (h : WE X ρ μ a fun μ1 x => WE X ρ μ1 b fun μ2 y => ∃ l xs i d, x = .loc l ∧ y = .int i ∧ isL μ2 l xs ∧ atI xs i = some d ∧ P μ2 d) (hp : PlainIx b := by exact fun _ _ => rfl) : WE X ρ μ (.Subscript a b pos) P :=
  WE.of (pe_ix ix_list pe_g pe_g hp) fun σ H Q hs hm k => h.g hs hm fun v x μ1 H1 m1 r1 t1 q1 => q1.g (hs.mono t1) m1 fun u y μ2 H2 m2 r2 t2 ⟨l, ds, i, d, ex, ey, hl, hd, q⟩ => by
    subst ex ey
    cases r1
    cases TD.int_inv r2
    obtain ⟨vs, s1, ts⟩ := m2.seq hl
    unfold atI at hd
    cases hj : ixN ds.length i with
    | none => rw [hj] at hd; cases hd
    | some j =>
      rw [hj] at hd
      obtain ⟨w, hw, tw⟩ := ts.get hd
      refine ⟨l, vs, i, w, rfl, rfl, s1, ?_, k _ _ _ _ m2 tw (t1.trans t2) q⟩
      unfold atI
      rw [ixN_len ts.length, hj]
      exact hw
/-- slices -/
def cutD {α : Type} (xs : List α) (lo hi : Option Int) : List α := (xs.drop (HT.sIx xs.length 0 lo)).take (HT.sIx xs.length xs.length hi - HT.sIx xs.length 0 lo)
def WO (X : Cx) (ρ : Rho) (μ : Mu) (e : Option Expr) (P : Mu → Option Int → Prop) : Prop := match e with
  | none => P μ none
  | some e => WE X ρ μ e fun μ1 x => ∃ i, x = .int i ∧ P μ1 (some i)
def gO (X : Cx) : Option Expr → TO
  | none => tNoPart
  | some e => tPart (gE X e)
theorem po_g {o : Option Expr} : PO X o (gO X o) := by
  cases o with
  | none => exact po_none
  | some e => exact po_some pe_g
theorem WO.g {o : Option Expr} {PO' : Mu → Option Int → Prop} {σ : L2.St} {H : Hp} {Q : Option Int → Hp → Prop} (h : WO X ρ μ o PO') (hs : RS X.K H ρ σ) (hm : MR X.prog X.w X.K μ H)
    (k : ∀ i μ' H', MR X.prog X.w X.K μ' H' → TEx H H' → PO' μ' i → Q i H') : gO X o σ H Q := by
  cases o with
  | none => exact k _ _ _ hm (TEx.refl H) h
  | some e =>
    have h : WE X ρ μ e fun μ1 x => ∃ i, x = .int i ∧ PO' μ1 (some i) := h
    exact h.g hs hm fun v x μ1 H1 m1 r1 t1 ⟨i, ex, q⟩ => by subst ex; exact ⟨i, TD.int_inv r1, k _ _ _ m1 t1 q⟩
theorem e_slT {lo hi : Option Expr} {p2} (h : WE X ρ μ a fun μ1 x => WO X ρ μ1 lo fun μ2 l => WO X ρ μ2 hi fun μ3 u => ∃ ds, x = .tup ds ∧ P μ3 (.tup (cutD ds l u))) : WE X ρ μ (.Subscript a (.Slice lo hi none p2) pos) P :=
  WE.of (pe_slice sl_tupA pe_g po_g po_g) fun σ H Q hs hm k => h.g hs hm fun v x μ1 H1 m1 r1 t1 q1 => WO.g q1 (hs.mono t1) m1 fun l μ2 H2 m2 t2 q2 => WO.g q2 (hs.mono (t1.trans t2)) m2 fun u μ3 H3 m3 t3 ⟨ds, ex, q⟩ => by
    subst ex
    obtain ⟨l', xs, rfl, s1, ts⟩ := TD.tup_inv (TD.mono (t2.trans t3) r1)
    have hl := ts.length
    refine ⟨l', xs, rfl, s1, fun e => ?_, fun e p hp => ?_⟩
    · refine k _ _ _ _ m3 (sv_tup s1 ?_) (t1.trans (t2.trans t3)) q
      have : cutD ds l u = ds := by
        rw [hl] at e
        unfold cutD
        rw [e.1, e.2, List.drop_zero, Nat.sub_zero, List.take_length]
      rw [this]; exact ts
    · refine k _ _ _ _ (m3.new0 hp) (sv_tup (SqT.of upd_same) ?_) (t1.trans (t2.trans (t3.trans (TEx.new hp)))) q
      unfold cutV cutD
      rw [hl]
      exact ((ts.drop _).take _).mono (TEx.new hp)
theorem e_slL {lo hi : Option Expr} {p2} (h : WE X ρ μ a fun μ1 x => WO X ρ μ1 lo fun μ2 l => WO X ρ μ2 hi fun μ3 u => ∃ b ds, x = .loc b ∧ isL μ3 b ds ∧ ∀ q, μ3 q = none → P (updM μ3 q (.lst (cutD ds l u))) (.loc q)) : WE X ρ μ (.Subscript a (.Slice lo hi none p2) pos) P :=
  WE.of (pe_slice sl_list pe_g po_g po_g) fun σ H Q hs hm k => h.g hs hm fun v x μ1 H1 m1 r1 t1 q1 => WO.g q1 (hs.mono t1) m1 fun l μ2 H2 m2 t2 q2 => WO.g q2 (hs.mono (t1.trans t2)) m2 fun u μ3 H3 m3 t3 ⟨b, ds, ex, hb, q⟩ => by
    subst ex
    cases r1
    obtain ⟨vs, s1, ts⟩ := m3.seq hb
    refine ⟨b, vs, rfl, s1, fun p hp => ?_⟩
    refine k _ (.loc p) _ _ (m3.new (c := .lst (cutD ds l u)) hp ⟨_, upd_same, ?_⟩) rfl (t1.trans (t2.trans (t3.trans (TEx.new hp)))) (q p (m3.fresh hp))
    unfold cutV cutD
    rw [ts.length]
    exact ((ts.drop _).take _).mono (TEx.new hp)

/-! ### built-ins by name -/
theorem e_blt {id : String} {r : List V → Hp → VK → Prop} {x : Str} {p : Pos} (hc : CallR X (.builtin id) r) (hm : X.mg x = none) (hv : bootBuiltins x = some (.builtin id))
    (h : WA X ρ μ (a :: es) fun μ1 xs => ∀ vs H Q, SVs X.K H vs xs → MR X.prog X.w X.K μ1 H → (∀ w z μ' H', MR X.prog X.w X.K μ' H' → SVR X.K H' w z → TEx H H' → P μ' z → Q w H') → r vs H Q)
    (hg : Gl X x := by rfl) (hn : x ≠ "__name__" := by decide) (hdb : (x == ("__debug__" : Str)) = false := by decide)
    (he : starEach (a :: es) X.env = (false, eval a X.env) :: starEach es X.env := by rfl) (hpl : (backTo pos (starEach es X.env)).any (·.1) = false := by rfl) : WE X ρ μ (.Call (.Name x p) (a :: es) [] pos) P :=
  WE.of (pe_callB hc hg hm hv pa_g hn hdb he hpl) fun σ H Q hs hm k => h.g hs hm fun vs xs μ1 H1 m1 r1 t1 q => q vs H1 Q r1 m1 fun w z μ' H' m' r' t' q' => k w z μ' H' m' r' (t1.trans t') q'
theorem e_ty {T : String} {r : List V → Hp → VK → Prop} {x : Str} {p : Pos} (hc : CallR X (.type T) r) (hm : X.mg x = none) (hv : bootBuiltins x = some (.type T))
    (h : WA X ρ μ (a :: es) fun μ1 xs => ∀ vs H Q, SVs X.K H vs xs → MR X.prog X.w X.K μ1 H → (∀ w z μ' H', MR X.prog X.w X.K μ' H' → SVR X.K H' w z → TEx H H' → P μ' z → Q w H') → r vs H Q)
    (hg : Gl X x := by rfl) (hn : x ≠ "__name__" := by decide) (hdb : (x == ("__debug__" : Str)) = false := by decide)
    (he : starEach (a :: es) X.env = (false, eval a X.env) :: starEach es X.env := by rfl) (hpl : (backTo pos (starEach es X.env)).any (·.1) = false := by rfl) : WE X ρ μ (.Call (.Name x p) (a :: es) [] pos) P :=
  WE.of (pe_callTy hc hg hm hv pa_g hn hdb he hpl) fun σ H Q hs hm k => h.g hs hm fun vs xs μ1 H1 m1 r1 t1 q => q vs H1 Q r1 m1 fun w z μ' H' m' r' t' q' => k w z μ' H' m' r' (t1.trans t') q'
theorem SVs.one {K : PySem.W.Frag} {H : Hp} {vs : List V} {r : SV} (h : SVs K H vs [r]) : ∃ v, vs = [v] ∧ SVR K H v r := by
  cases h with
  | cons h1 h2 => cases h2; exact ⟨_, rfl, h1⟩
theorem SVs.two {K : PySem.W.Frag} {H : Hp} {vs : List V} {r q : SV} (h : SVs K H vs [r, q]) : ∃ v u, vs = [v, u] ∧ SVR K H v r ∧ SVR K H u q := by
  cases h with
  | cons h1 h2 => cases h2 with | cons h2 h3 => cases h3; exact ⟨_, _, rfl, h1, h2⟩
/-- an argument alone -/
theorem a_one (h : WE X ρ μ a fun μ1 x => PL μ1 [x]) (hs : starEach [a] X.env = (false, eval a X.env) :: starEach [] X.env := by rfl) : WA X ρ μ [a] PL := a_cons (h.imp fun _ _ q => a_nil q) hs
theorem e_len {p : Pos} (hm : X.mg "len" = none) (h : WE X ρ μ a fun μ1 x => (∃ ds, x = .tup ds ∧ P μ1 (.int ds.length)) ∨ ∃ l xs, x = .loc l ∧ isL μ1 l xs ∧ P μ1 (.int xs.length)) (hg : Gl X "len" := by rfl) (he : starEach [a] X.env = (false, eval a X.env) :: starEach [] X.env := by rfl) : WE X ρ μ (.Call (.Name "len" p) [a] [] pos) P :=
  e_blt call_len_seq hm PySem.boot_len (a_one (h.imp fun μ1 x q vs H Q hv m k => by
    obtain ⟨v, rfl, hw⟩ := hv.one
    rcases q with ⟨ds, rfl, q⟩ | ⟨l, xs, rfl, hl, q⟩
    · obtain ⟨a, ys, rfl, s1, ts⟩ := TD.tup_inv hw
      refine ⟨a, ys, rfl, .inr s1, ?_⟩
      rw [ts.length]
      exact k _ _ _ _ m (sv_int _) (TEx.refl H) q
    · cases hw
      obtain ⟨ys, s1, ts⟩ := m.seq hl
      refine ⟨l, ys, rfl, .inl s1, ?_⟩
      rw [ts.length]
      exact k _ _ _ _ m (sv_int _) (TEx.refl H) q) he) hg (by decide) (by decide) he
/-- tuple(list) -/
theorem e_tuple {p : Pos} (hm : X.mg "tuple" = none) (h : WE X ρ μ a fun μ1 x => ∃ l ds, x = .loc l ∧ isL μ1 l (ds.map SV.dat) ∧ P μ1 (.tup ds)) (hg : Gl X "tuple" := by rfl) (he : starEach [a] X.env = (false, eval a X.env) :: starEach [] X.env := by rfl) : WE X ρ μ (.Call (.Name "tuple" p) [a] [] pos) P :=
  e_ty call_tuple_of hm (by decide +kernel) (a_one (h.imp fun μ1 x ⟨l, ds, ex, hl, q⟩ vs H Q hv m k => by
    subst ex
    obtain ⟨v, rfl, hw⟩ := hv.one
    cases hw
    obtain ⟨ys, s1, ts⟩ := m.seq hl
    exact ⟨l, ys, rfl, .inl ⟨s1, fun p hp => k _ _ _ _ (m.new0 hp) (sv_tup (SqT.of upd_same) (ts.dats.mono (TEx.new hp))) (TEx.new hp) q⟩⟩) he) hg (by decide) (by decide) he
/-- list(list), list(tuple): a new list -/
theorem e_list {p : Pos} (hm : X.mg "list" = none) (h : WE X ρ μ a fun μ1 x => ∃ xs, ((∃ l, x = .loc l ∧ isL μ1 l xs) ∨ ∃ ds, x = .tup ds ∧ xs = ds.map SV.dat) ∧ ∀ q, μ1 q = none → P (updM μ1 q (.lst xs)) (.loc q)) (hg : Gl X "list" := by rfl) (he : starEach [a] X.env = (false, eval a X.env) :: starEach [] X.env := by rfl) : WE X ρ μ (.Call (.Name "list" p) [a] [] pos) P :=
  e_ty call_list_of hm (by decide +kernel) (a_one (h.imp fun μ1 x ⟨xs, hx, q⟩ vs H Q hv m k => by
    obtain ⟨v, rfl, hw⟩ := hv.one
    rcases hx with ⟨l, rfl, hl⟩ | ⟨ds, rfl, rfl⟩
    · cases hw
      obtain ⟨ys, s1, ts⟩ := m.seq hl
      exact ⟨l, ys, rfl, .inl s1, fun p hp => k _ (.loc p) _ _ (m.new (c := .lst xs) hp ⟨_, upd_same, ts.mono (TEx.new hp)⟩) rfl (TEx.new hp) (q p (m.fresh hp))⟩
    · obtain ⟨l, ys, rfl, s1, ts⟩ := TD.tup_inv hw
      exact ⟨l, ys, rfl, .inr s1, fun p hp => k _ (.loc p) _ _ (m.new (c := .lst (ds.map SV.dat)) hp ⟨_, upd_same, SVs.of_dats (ts.mono (TEx.new hp))⟩) rfl (TEx.new hp) (q p (m.fresh hp))⟩) he) hg (by decide) (by decide) he
/-- int(n), int(b) -/
theorem e_int1 {p : Pos} (hm : X.mg "int" = none) (h : WE X ρ μ a fun μ1 x => (∃ i, x = .int i ∧ P μ1 (.int i)) ∨ ∃ c, x = .dat (.bool c) ∧ P μ1 (.int (if c then 1 else 0))) (hg : Gl X "int" := by rfl) (he : starEach [a] X.env = (false, eval a X.env) :: starEach [] X.env := by rfl) : WE X ρ μ (.Call (.Name "int" p) [a] [] pos) P :=
  e_ty call_int1 hm (by decide +kernel) (a_one (h.imp fun μ1 x q vs H Q hv m k => by
    obtain ⟨v, rfl, hw⟩ := hv.one
    rcases q with ⟨i, rfl, q⟩ | ⟨c, rfl, q⟩
    · cases TD.int_inv hw
      exact .inl ⟨i, rfl, k _ _ _ _ m (sv_int _) (TEx.refl H) q⟩
    · cases TD.bl_inv hw
      exact .inr ⟨c, rfl, k _ _ _ _ m (sv_int _) (TEx.refl H) q⟩) he) hg (by decide) (by decide) he
/-- max(m, n) -/
theorem e_max2 {p : Pos} (hc : X.calm = true) (hm : X.mg "max" = none) (h : WA X ρ μ [a, b] fun μ1 xs => ∃ i j, xs = [.int i, .int j] ∧ P μ1 (.int (if j > i then j else i))) (hg : Gl X "max" := by rfl)
    (he : starEach [a, b] X.env = (false, eval a X.env) :: starEach [b] X.env := by rfl) (hpl : (backTo pos (starEach [b] X.env)).any (·.1) = false := by rfl) : WE X ρ μ (.Call (.Name "max" p) [a, b] [] pos) P :=
  e_blt (call_max2 hc) hm (by decide +kernel) (fun pos pins s σ H Q I hs m k => h pos pins s σ H Q I hs m fun vs rs μ' H' m' r' t' q => k vs rs μ' H' m' r' t' (by
    obtain ⟨i, j, rfl, q⟩ := q
    intro vs H Q hv m k
    obtain ⟨v, u, rfl, hw, hu⟩ := hv.two
    cases TD.int_inv hw
    cases TD.int_inv hu
    exact ⟨i, j, rfl, k _ _ _ _ m (sv_int _) (TEx.refl H) q⟩)) hg (by decide) (by decide) he hpl
/-- max(list of ints) -/
theorem e_maxL {p : Pos} (hc : X.calm = true) (hm : X.mg "max" = none) (h : WE X ρ μ a fun μ1 x => ∃ (l : Addr) (ns : List Int), x = .loc l ∧ isL μ1 l (ns.map SV.int) ∧ 0 < ns.length ∧ ∀ m, m ∈ ns → (∀ y, y ∈ ns → y ≤ m) → P μ1 (.int m)) (hg : Gl X "max" := by rfl) (he : starEach [a] X.env = (false, eval a X.env) :: starEach [] X.env := by rfl) : WE X ρ μ (.Call (.Name "max" p) [a] [] pos) P :=
  e_blt (cr_max hc) hm (by decide +kernel) (a_one (h.imp fun μ1 x ⟨l, ns, ex, hl, hn, q⟩ vs H Q hv m k => by
    subst ex
    obtain ⟨v, rfl, hw⟩ := hv.one
    cases hw
    obtain ⟨ys, s1, ts⟩ := m.seq hl
    cases ts.ints
    exact ⟨l, ns, rfl, s1, hn, fun z hz hy => k _ _ _ _ m (sv_int _) (TEx.refl H) (q z hz hy)⟩) he) hg (by decide) (by decide) he
/-- all(list of bools), any(list of bools) -/
theorem bls_of {K : PySem.W.Frag} {H : Hp} : ∀ {bs : List Bool} {vs : List V}, SVs K H vs (bs.map fun c => SV.dat (.bool c)) → vs = bs.map V.bl
  | [], _, h => by cases h; rfl
  | c :: bs, _, h => by
    cases h with
    | cons h1 h2 =>
      rw [TD.bl_inv (b := c) h1, bls_of h2]
      rfl
theorem e_all {p : Pos} (hc : X.calm = true) (hm : X.mg "all" = none) (h : WE X ρ μ a fun μ1 x => ∃ (l : Addr) (bs : List Bool), x = .loc l ∧ isL μ1 l (bs.map fun c => SV.dat (.bool c)) ∧ P μ1 (.dat (.bool (bs.all id)))) (hg : Gl X "all" := by rfl) (he : starEach [a] X.env = (false, eval a X.env) :: starEach [] X.env := by rfl) : WE X ρ μ (.Call (.Name "all" p) [a] [] pos) P :=
  e_blt (cr_all hc) hm (by decide +kernel) (a_one (h.imp fun μ1 x ⟨l, bs, ex, hl, q⟩ vs H Q hv m k => by
    subst ex
    obtain ⟨v, rfl, hw⟩ := hv.one
    cases hw
    obtain ⟨ys, s1, ts⟩ := m.seq hl
    cases bls_of ts
    exact ⟨l, bs, rfl, s1, k _ _ _ _ m (sv_bl _) (TEx.refl H) q⟩) he) hg (by decide) (by decide) he
theorem e_any {p : Pos} (hc : X.calm = true) (hm : X.mg "any" = none) (h : WE X ρ μ a fun μ1 x => ∃ (l : Addr) (bs : List Bool), x = .loc l ∧ isL μ1 l (bs.map fun c => SV.dat (.bool c)) ∧ P μ1 (.dat (.bool (bs.any id)))) (hg : Gl X "any" := by rfl) (he : starEach [a] X.env = (false, eval a X.env) :: starEach [] X.env := by rfl) : WE X ρ μ (.Call (.Name "any" p) [a] [] pos) P :=
  e_blt (cr_any hc) hm (by decide +kernel) (a_one (h.imp fun μ1 x ⟨l, bs, ex, hl, q⟩ vs H Q hv m k => by
    subst ex
    obtain ⟨v, rfl, hw⟩ := hv.one
    cases hw
    obtain ⟨ys, s1, ts⟩ := m.seq hl
    cases bls_of ts
    exact ⟨l, bs, rfl, s1, k _ _ _ _ m (sv_bl _) (TEx.refl H) q⟩) he) hg (by decide) (by decide) he
end
end AV
-- text LyS
set_option Elab.async false
set_option linter.all false
set_option maxRecDepth 100000
set_option maxHeartbeats 4000000
namespace AV
open PySem L2 PyProof.Rows PySem.Spec

/-! ### items and targets -/
/-- what a for takes: a value, or a tuple of values just made -/
inductive Item where
  | v (r : SV)
  | tp (rs : List SV)
def IR (K : PySem.W.Frag) (H : Hp) (v : V) : Item → Prop
  | .v r => SVR K H v r
  | .tp rs => ∃ a xs, v = .ref a ∧ SqT K H a xs ∧ SVs K H xs rs
def Item.parts : Item → Option (List SV)
  | .tp rs => some rs
  | .v (.dat (.tuple ds)) => some (ds.map SV.dat)
  | _ => none
abbrev Tg := Item → Rho → (Rho → Prop) → Prop
def gN (i : Nat) : Tg := fun x ρ G => match x with
  | .v r => G (ρ.set i (some r))
  | _ => False
def gAll : List Tg → List SV → Rho → (Rho → Prop) → Prop
  | [], [], ρ, G => G ρ
  | g :: gs, r :: rs, ρ, G => g (.v r) ρ fun ρ' => gAll gs rs ρ' G
  | _, _, _, _ => False
def gP (gs : List Tg) : Tg := fun x ρ G => ∃ rs, x.parts = some rs ∧ rs.length = gs.length ∧ gAll gs rs ρ G
theorem parts_ok {K : PySem.W.Frag} {H : Hp} {v : V} {x : Item} {rs : List SV} (h : IR K H v x) (e : x.parts = some rs) : ∃ a xs, v = .ref a ∧ SqT K H a xs ∧ SVs K H xs rs := by
  cases x with
  | tp q => cases e; exact h
  | v r =>
    cases r with
    | loc a => cases e
    | dat d =>
      cases d <;> try cases e
      obtain ⟨a, xs, rfl, s, t⟩ := TD.tup_inv h
      exact ⟨a, xs, rfl, s, SVs.of_dats t⟩
/-- the slots that stay -/
def StaysBut (sl : List Nat) (σ σ' : L2.St) : Prop := σ'.length = σ.length ∧ ∀ i, i ∉ sl → σ'[i]? = σ[i]?
theorem StaysBut.refl (sl : List Nat) (σ : L2.St) : StaysBut sl σ σ := ⟨rfl, fun _ _ => rfl⟩
theorem StaysBut.trans {sl : List Nat} {σ σ1 σ2 : L2.St} (a : StaysBut sl σ σ1) (b : StaysBut sl σ1 σ2) : StaysBut sl σ σ2 := ⟨b.1.trans a.1, fun i h => (b.2 i h).trans (a.2 i h)⟩
def WG (X : Cx) (tg : Expr) (sl : List Nat) (g : Tg) : Prop :=
  ∀ (pins : List (Addr × Obj)) (s : Shared) (σ : L2.St) (H : Hp) (v : V) (u : Value) (Q : L2.St → Hp → Prop) (ρ : Rho) (x : Item) (G : Rho → Prop), Inv X pins σ H s → RelV v u → IR X.K H v x → RS X.K H ρ σ → g x ρ G →
    (∀ ρ' σ', RS X.K H ρ' σ' → StaysBut sl σ σ' → G ρ' → Q σ' H) → wpAny (model X.prog X.w) X.A (assign tg X.env u) (fun _ s' => ∃ σ' H', Inv X pins σ' H' s' ∧ Q σ' H') X.xe s
def WGs (X : Cx) (tgs : List Expr) (sl : List Nat) (gs : List Tg) : Prop :=
  ∀ (pins : List (Addr × Obj)) (s : Shared) (σ : L2.St) (H : Hp) (vs : List V) (us : List Value) (Q : L2.St → Hp → Prop) (ρ : Rho) (xs : List SV) (G : Rho → Prop), Inv X pins σ H s → Vals vs us → SVs X.K H vs xs → RS X.K H ρ σ → gAll gs xs ρ G →
    (∀ ρ' σ', RS X.K H ρ' σ' → StaysBut sl σ σ' → G ρ' → Q σ' H) → wpAny (model X.prog X.w) X.A (assignInOrder ((assignEach tgs X.env).map (·.2)) us) (fun _ s' => ∃ σ' H', Inv X pins σ' H' s' ∧ Q σ' H') X.xe s
section
variable {X : Cx} {pos : Pos} {sl : List Nat}
theorem g_name {i : Nat} {x : Str} (hN : X.N.Nodup) (hi : X.N[i]? = some x := by rfl) (hx : Loc X.env.scope x := by first | exact .inl rfl | exact .inr rfl) (hf : X.fn x = true ∨ X.env.scope.names.lookup x = some .local := by first | exact .inl rfl | exact .inr rfl) (hs : i ∈ sl := by decide) : WG X (.Name x pos) sl (gN i) := by
  intro pins s σ H v u Q ρ y G I r hy hs' hg k
  cases y with
  | tp rs => exact hg.elim
  | v z =>
    refine (pg_name hN hi hx hf).run pins s σ H v u Q I r ?_
    refine k _ _ (hs'.set hy) ⟨by simp, fun j hj => ?_⟩ hg
    rw [List.getElem?_set_ne]
    intro e; subst e; exact hj hs
theorem g_nil : WGs X [] sl [] := by
  intro pins s σ H vs us Q ρ xs G I r hy hs hg k
  cases xs with
  | cons _ _ => exact hg.elim
  | nil =>
    cases hy
    exact pgs_nil.run pins s σ H [] us Q I r ⟨rfl, k _ _ hs (StaysBut.refl _ _) hg⟩
theorem g_cons {e : Expr} {es : List Expr} {g : Tg} {gs : List Tg} (h1 : WG X e sl g) (h2 : WGs X es sl gs) (hs : (assignEach (e :: es) X.env).map (·.2) = assign e X.env :: (assignEach es X.env).map (·.2) := by rfl) : WGs X (e :: es) sl (g :: gs) := by
  intro pins s σ H vs us Q ρ xs G I r hy hr hg k
  cases xs with
  | nil => exact hg.elim
  | cons x xs =>
    cases hy with
    | cons y1 y2 =>
      cases r with
      | cons r1 r2 =>
        rw [hs]
        refine assignInOrder_cons (thn (h1 pins s σ H _ _ (fun σ' H' => H' = H ∧ ∃ ρ', RS X.K H ρ' σ' ∧ StaysBut sl σ σ' ∧ gAll gs xs ρ' G) ρ (.v x) _ I r1 y1 hr hg fun ρ' σ' a b c => ⟨rfl, ρ', a, b, c⟩) fun _ s1 ⟨σ1, H1, I1, e1, ρ1, a1, b1, c1⟩ => ?_)
        subst e1
        exact h2 pins s1 σ1 _ _ _ Q ρ1 xs G I1 r2 y2 a1 c1 fun ρ' σ' a b c => k ρ' σ' a (b1.trans b) c
theorem g_tup {es : List Expr} {kk : Nat} {gs : List Tg} (hc : X.calm = true) (h : WGs X es sl gs) (hl : gs.length = es.length := by rfl)
    (hn : (assignEach es X.env).length = es.length := by rfl) (hst : (assignEach es X.env).findIdx? (·.1) = none := by rfl) : WG X (.Tuple es kk pos) sl (gP gs) := by
  intro pins s σ H v u Q ρ x G I r hy hr ⟨rs, e, hlen, hg⟩ k
  obtain ⟨a, xs, rfl, s1, t1⟩ := parts_ok hy e
  have pg : PGs X es (fun vs σ H Q => ∀ (pins : List (Addr × Obj)) (s : Shared) (us : List Value), Inv X pins σ H s → Vals vs us → wpAny (model X.prog X.w) X.A (assignInOrder ((assignEach es X.env).map (·.2)) us) (fun _ s' => ∃ σ' H', Inv X pins σ' H' s' ∧ Q σ' H') X.xe s) :=
    ⟨fun pins s σ H vs us Q I r h => h pins s us I r⟩
  refine (pg_tup (k := kk) (n := es.length) hc pg hn hst).run pins s σ H _ u Q I r ⟨a, xs, rfl, s1, by rw [t1.length, hlen, hl], fun pins s us I2 r2 => ?_⟩
  exact h pins s σ H xs us Q ρ rs G I2 r2 t1 hr hg k
end

/-! ### what a for walks -/
/-- n turns, turn i gives an item as Y says, while G is so of the store -/
structure DWalk (X : Cx) (H1 : Hp) (J : It) (n : Nat) (Y : Nat → Item → Prop) (G : Mu → Prop) : Prop where
  go : ∀ i H μ, i < n → TEx H1 H → MR X.prog X.w X.K μ H → G μ → J.go i H
  stop : ∀ H μ, TEx H1 H → MR X.prog X.w X.K μ H → G μ → J.stop n H
  yld : ∀ i H x H' μ, i < n → TEx H1 H → MR X.prog X.w X.K μ H → G μ → J.yld i H x H' → TEx H H' ∧ (∀ μ, MR X.prog X.w X.K μ H → MR X.prog X.w X.K μ H') ∧ ∃ z, Y i z ∧ IR X.K H' x z
abbrev PW' := Mu → (n : Nat) → (Nat → Item → Prop) → (Mu → Prop) → Prop
def WI (X : Cx) (ρ : Rho) (μ : Mu) (tg iter : Expr) (P : PW') : Prop :=
  ∀ (pins : List (Addr × Obj)) (s : Shared) (σ : L2.St) (H : Hp) (R : It → Hp → Prop), Inv X pins σ H s → RS X.K H ρ σ → MR X.prog X.w X.K μ H →
    (∀ J n Y G μ' H', MR X.prog X.w X.K μ' H' → TEx H H' → DWalk X H' J n Y G → P μ' n Y G → R J H') →
    wpAny (model X.prog X.w) X.A (eval iter X.env) (fun v s1 => wpAny (model X.prog X.w) X.A (pyIter v) (PIE X pins σ tg R) X.xe s1) X.xe s
def gI (X : Cx) (tg iter : Expr) : TI := fun σ H R => ∀ (pins : List (Addr × Obj)) (s : Shared), Inv X pins σ H s →
    wpAny (model X.prog X.w) X.A (eval iter X.env) (fun v s1 => wpAny (model X.prog X.w) X.A (pyIter v) (PIE X pins σ tg R) X.xe s1) X.xe s
section
variable {X : Cx} {ρ : Rho} {μ : Mu} {a b c tg iter : Expr} {es : List Expr} {T : Po} {pos : Pos} {P : PW'} {sl : List Nat}
theorem pi_g : PI X tg iter (gI X tg iter) := ⟨fun pins s σ H R I h => h pins s I⟩
theorem WI.of {t : TI} (pe : PI X tg iter t) (h : ∀ σ H R, RS X.K H ρ σ → MR X.prog X.w X.K μ H → (∀ J n Y G μ' H', MR X.prog X.w X.K μ' H' → TEx H H' → DWalk X H' J n Y G → P μ' n Y G → R J H') → t σ H R) : WI X ρ μ tg iter P :=
  fun pins s σ H R I hs hm k => pe.run pins s σ H R I (h σ H R hs hm k)
theorem WI.g {σ : L2.St} {H : Hp} {R : It → Hp → Prop} (h : WI X ρ μ tg iter P) (hs : RS X.K H ρ σ) (hm : MR X.prog X.w X.K μ H) (k : ∀ J n Y G μ' H', MR X.prog X.w X.K μ' H' → TEx H H' → DWalk X H' J n Y G → P μ' n Y G → R J H') : gI X tg iter σ H R :=
  fun pins s I => h pins s σ H R I hs hm k
/-- the items of data -/
def YD (ds : List PyData) : Nat → Item → Prop := fun i x => ∃ d, ds[i]? = some d ∧ x = .v (.dat d)
def YL (xs : List SV) : Nat → Item → Prop := fun i x => ∃ r, xs[i]? = some r ∧ x = .v r
def YR (lo : Int) : Nat → Item → Prop := fun i x => x = .v (.int (lo + (i : Int)))
def YE (xs : List SV) : Nat → Item → Prop := fun i x => ∃ r, xs[i]? = some r ∧ x = .tp [.int (i : Int), r]
theorem i_tup (h : WE X ρ μ a fun μ1 x => ∃ ds, x = .tup ds ∧ P μ1 ds.length (YD ds) (fun _ => True)) : WI X ρ μ tg a P :=
  WI.of (pi_tup pe_g) fun σ H R hs hm k => h.g hs hm fun v x μ1 H1 m1 r1 t1 ⟨ds, ex, q⟩ => by
    subst ex
    obtain ⟨l, xs, rfl, s1, ts⟩ := TD.tup_inv r1
    refine ⟨l, rfl, ⟨xs, s1⟩, k _ _ _ _ _ _ m1 t1 ⟨fun i H μ hi e _ _ => ?_, fun H μ e _ _ => ?_, fun i H x H' μ hi e m _ y => ?_⟩ q⟩
    · have hl := ts.length
      exact ⟨xs, xs[i], e.sq s1, by simp [hl, hi]⟩
    · exact ⟨xs, e.sq s1, by rw [ts.length]; exact Nat.le_refl _⟩
    · obtain ⟨e1, y⟩ := y
      subst e1
      refine ⟨TEx.refl _, fun _ z => z, ?_⟩
      have hx := y xs (e.sq s1)
      obtain ⟨d, hd, td⟩ := ts.get' hx
      exact ⟨_, ⟨d, hd, rfl⟩, td.mono e⟩
theorem i_list (h : WE X ρ μ a fun μ1 x => ∃ l xs, x = .loc l ∧ isL μ1 l xs ∧ P μ1 xs.length (YL xs) (fun μ => isL μ l xs)) : WI X ρ μ tg a P :=
  WI.of (pi_list pe_g) fun σ H R hs hm k => h.g hs hm fun v x μ1 H1 m1 r1 t1 ⟨l, xs, ex, hl, q⟩ => by
    subst ex
    cases r1
    obtain ⟨vs, s1, ts⟩ := m1.seq hl
    refine ⟨l, rfl, ⟨vs, s1⟩, k _ _ _ _ _ _ m1 t1 ⟨fun i H μ hi e m g => ?_, fun H μ e m g => ?_, fun i H x H' μ hi e m g y => ?_⟩ q⟩
    · obtain ⟨us, s2, t2⟩ := m.seq g
      have hl := t2.length
      exact ⟨us, us[i], s2, by simp [hl, hi]⟩
    · obtain ⟨us, s2, t2⟩ := m.seq g
      exact ⟨us, s2, by rw [t2.length]; exact Nat.le_refl _⟩
    · obtain ⟨us, s2, t2⟩ := m.seq g
      obtain ⟨e1, y⟩ := y
      subst e1
      refine ⟨TEx.refl _, fun _ z => z, ?_⟩
      obtain ⟨d, hd, td⟩ := t2.get' (y us s2)
      exact ⟨_, ⟨d, hd, rfl⟩, td⟩
theorem i_range {p : Pos} (hm : X.mg "range" = none) (h : WE X ρ μ a fun μ1 x => ∃ j : Int, x = .int j ∧ -(2 ^ 62) ≤ j ∧ j < 2 ^ 62 ∧ P μ1 j.toNat (YR 0) (fun _ => True)) (hg : Gl X "range" := by rfl)
    (he : starEach [a] X.env = (false, eval a X.env) :: starEach [] X.env := by rfl) : WI X ρ μ tg (.Call (.Name "range" p) [a] [] pos) P :=
  WI.of (pi_range1 hg hm (pa_cons pe_g pa_nil he) he) fun σ H R hs hm k => h.g hs hm fun v x μ1 H1 m1 r1 t1 ⟨j, ex, h1, h2, q⟩ => by
    subst ex
    cases TD.int_inv r1
    refine ⟨j, rfl, h1, h2, k _ _ _ _ _ _ m1 t1 ⟨fun i H μ hi e m g => hi, fun H μ e m g => Nat.le_refl _, fun i H x H' μ hi e m g y => ?_⟩ q⟩
    obtain ⟨e1, y⟩ := y
    subst e1 y
    exact ⟨TEx.refl _, fun _ z => z, _, rfl, sv_int _⟩
/-- enumerate(list) -/
theorem i_enumL {p tpos : Pos} {elts : List Expr} {kk : Nat} (hm : X.mg "enumerate" = none) (h : WE X ρ μ a fun μ1 x => ∃ l xs, x = .loc l ∧ isL μ1 l xs ∧ P μ1 xs.length (YE xs) (fun μ => isL μ l xs)) (hg : Gl X "enumerate" := by rfl)
    (he : starEach [a] X.env = (false, eval a X.env) :: starEach [] X.env := by rfl) : WI X ρ μ (.Tuple elts kk tpos) (.Call (.Name "enumerate" p) [a] [] pos) P :=
  WI.of (pi_enum hg hm (pa_cons pe_g pa_nil he) he) fun σ H R hs hm k => h.g hs hm fun v x μ1 H1 m1 r1 t1 ⟨l, xs, ex, hl, q⟩ => by
    subst ex
    cases r1
    obtain ⟨vs, s1, ts⟩ := m1.seq hl
    refine ⟨l, vs, rfl, s1, k _ _ _ _ _ _ m1 t1 ⟨fun i H μ hi e m g => ?_, fun H μ e m g => ?_, fun i H x H' μ hi e m g y => ?_⟩ q⟩
    · obtain ⟨us, s2, t2⟩ := m.seq g
      have hl := t2.length
      exact ⟨us, us[i], s2, by simp [hl, hi]⟩
    · obtain ⟨us, s2, t2⟩ := m.seq g
      exact ⟨us, s2, by rw [t2.length]; exact Nat.le_refl _⟩
    · obtain ⟨us, s2, t2⟩ := m.seq g
      obtain ⟨Tp, z, e1, hT, e2, y⟩ := y
      subst e1 e2
      refine ⟨TEx.new hT, fun _ z => z.new0 hT, ?_⟩
      obtain ⟨d, hd, td⟩ := t2.get' (y us s2)
      exact ⟨_, ⟨d, hd, rfl⟩, Tp, _, rfl, SqT.of upd_same, .cons (sv_int _) (.cons (td.mono (TEx.new hT)) .nil)⟩

/-! ### statements -/
theorem w_set {i : Nat} {x : Str} {p : Pos} (hN : X.N.Nodup) (h : WE X ρ μ a fun μ1 r => T.nx (ρ.set i (some r)) μ1) (hi : X.N[i]? = some x := by rfl) (hx : Loc X.env.scope x := by first | exact .inl rfl | exact .inr rfl)
    (hs : swapsWith a (some (.Name x p)) pos.line X.env = pure false := by rfl) (hf : X.fn x = true ∨ X.env.scope.names.lookup x = some .local := by first | exact .inl rfl | exact .inr rfl) : W1 X ρ μ (.Assign [.Name x p] a pos) T :=
  W1.of (ps_set hN hi hx pe_g hs hf) fun D σ H hs hm k => h.g hs hm fun v r μ1 H1 m1 r1 t1 q => k.nx _ μ1 _ H1 ((hs.mono t1).set r1) m1 t1 q
/-- a, b = e -/
theorem w_unp {es : List Expr} {kk : Nat} {tp : Pos} {g : Tg} (hg : WG X (.Tuple es kk tp) sl g) (h : WE X ρ μ a fun μ1 r => g (.v r) ρ fun ρ' => T.nx ρ' μ1)
    (hs : swapsWithSole [.Tuple es kk tp] a pos.line X.env = pure false := by rfl) (hw : swappedStores [.Tuple es kk tp] a X.env = pure none := by rfl)
    (h1 : (assignEach [.Tuple es kk tp] X.env).map (·.2) = [assign (.Tuple es kk tp) X.env] := by rfl) : W1 X ρ μ (.Assign [.Tuple es kk tp] a pos) T :=
  W1.of (ps_asg (g := fun v σ H Q => ∃ (ρ : Rho) (x : Item) (G : Rho → Prop), IR X.K H v x ∧ RS X.K H ρ σ ∧ g x ρ G ∧ ∀ ρ' σ', RS X.K H ρ' σ' → StaysBut sl σ σ' → G ρ' → Q σ' H) pe_g
    ⟨fun pins s σ H v u Q I r ⟨ρ, x, G, a, b, c, d⟩ => hg pins s σ H v u Q ρ x G I r a b c d⟩ hs hw h1) fun D σ H hs hm k => h.g hs hm fun v r μ1 H1 m1 r1 t1 q =>
      ⟨ρ, .v r, _, r1, hs.mono t1, q, fun ρ' σ' hr _ hq => k.nx _ μ1 _ H1 hr m1 t1 hq⟩
theorem w_expr (h : WE X ρ μ a fun μ1 _ => T.nx ρ μ1) (hs : swapsWith a none pos.line X.env = pure false := by rfl) : W1 X ρ μ (.Expr a pos) T :=
  W1.of (ps_expr pe_g hs) fun D σ H hs hm k => h.g hs hm fun v r μ1 H1 m1 r1 t1 q => k.nx _ μ1 _ H1 (hs.mono t1) m1 t1 q
theorem w_ret (h : WE X ρ μ a fun μ1 r => T.rt r μ1) : W1 X ρ μ (.Return (some a) pos) T :=
  W1.of (ps_ret pe_g) fun D σ H hs hm k => h.g hs hm fun v r μ1 H1 m1 r1 t1 q => k.rt v r μ1 H1 m1 r1 t1 q
theorem w_if {s1 s2 : List Stmt} (h : WT X ρ μ c fun μ1 k => (k = true → WS X ρ μ1 s1 T) ∧ (k = false → WS X ρ μ1 s2 T)) : W1 X ρ μ (.If c s1 s2 pos) T :=
  W1.of (ps_if pt_g pss_g pss_g) fun D σ H hs hm k => h.g hs hm fun b μ1 H1 m1 t1 q => by
    cases b with
    | true => exact (q.1 rfl).g (hs.mono t1) m1 (k.ex t1)
    | false => exact (q.2 rfl).g (hs.mono t1) m1 (k.ex t1)
theorem w_break (h : T.bk ρ μ) : W1 X ρ μ (.Break pos) T := W1.of ps_break fun D σ H hs hm k => k.bk _ _ _ _ hs hm (TEx.refl H) h
/-- x += e, ints -/
theorem w_augI {i : Nat} {x : Str} {p : Pos} {n : Int} (hN : X.N.Nodup) (hr : ρ[i]? = some (some (.int n))) (h : WE X ρ μ a fun μ1 r => ∃ m, r = .int m ∧ T.nx (ρ.set i (some (.int (n + m)))) μ1) (hi : X.N[i]? = some x := by rfl) (hx : Loc X.env.scope x := by first | exact .inl rfl | exact .inr rfl)
    (hf : X.fn x = true ∨ X.env.scope.names.lookup x = some .local := by first | exact .inl rfl | exact .inr rfl) : W1 X ρ μ (.AugAssign (.Name x p) .Add a pos) T :=
  W1.of (ps_aug hN hi hx pe_g ip_add hf) fun D σ H hs hm k => by
    obtain ⟨v, e, q⟩ := hs.at_ i _ hr
    cases TD.int_inv q
    exact ⟨_, e, h.g hs hm fun v r μ1 H1 m1 r1 t1 ⟨m, er, q⟩ => by
      subst er
      exact ⟨n, m, rfl, TD.int_inv r1, k.nx _ μ1 _ H1 ((hs.mono t1).set (sv_int _)) m1 t1 q⟩⟩
/-- for -/
theorem w_for {body : List Stmt} {g : Tg} (hp : PassesOwn (model X.prog X.w) X.A X.env X.xe) (hc : X.calm = true) (hg : WG X tg sl g)
    (h : WI X ρ μ tg iter fun μ1 n Y G => ∃ J : Nat → Rho → Mu → Prop, J 0 ρ μ1 ∧ (∀ i ρ' μ', i ≤ n → J i ρ' μ' → G μ') ∧
      (∀ i x ρ' μ', i < n → Y i x → J i ρ' μ' → g x ρ' fun ρ2 => WS X ρ2 μ' body { T with nx := J (i + 1), ct := J (i + 1), bk := T.nx }) ∧ ∀ ρ' μ', J n ρ' μ' → T.nx ρ' μ')
    (hs : ∀ x, foldedSetIterable iter X.env x = pure x := by intro _; rfl) : W1 X ρ μ (.For tg iter body [] pos) T :=
  W1.of (ps_for (g := fun v σ H Q => ∃ (ρ : Rho) (x : Item) (G : Rho → Prop), IR X.K H v x ∧ RS X.K H ρ σ ∧ g x ρ G ∧ ∀ ρ' σ', RS X.K H ρ' σ' → StaysBut sl σ σ' → G ρ' → Q σ' H) hp hc pi_g
    ⟨fun pins s σ H v u Q I r ⟨ρ, x, G, a, b, c, d⟩ => hg pins s σ H v u Q ρ x G I r a b c d⟩ pss_g hs) fun D σ H hs hm k => h.g hs hm fun J n Y G μ1 H1 m1 t1 dw ⟨Jn, j0, jG, jt, je⟩ => by
      refine ⟨fun i m σ' H' => m = n - i ∧ i ≤ n ∧ TEx H1 H' ∧ ∃ ρ' μ', RS X.K H' ρ' σ' ∧ MR X.prog X.w X.K μ' H' ∧ Jn i ρ' μ', ⟨n, by simp, Nat.zero_le _, TEx.refl _, ρ, μ1, hs.mono t1, m1, j0⟩, ?_⟩
      rintro i m σ' H' ⟨rfl, hi, e, ρ', μ', hs', hm', hj⟩
      have hG := jG i ρ' μ' hi hj
      by_cases hlt : i < n
      · refine .inr ⟨dw.go i H' μ' hlt e hm' hG, fun σ2 H2 => TEx H1 H2 ∧ ∃ ρ2 μ2, RS X.K H2 ρ2 σ2 ∧ MR X.prog X.w X.K μ2 H2 ∧ Jn (i + 1) ρ2 μ2, fun σ2 H2 ⟨e2, ρ2, μ2, a, b, c⟩ => ⟨n - (i + 1), by omega, rfl, hlt, e2, ρ2, μ2, a, b, c⟩, fun x H2 y => ?_⟩
        obtain ⟨e2, hk, z, hz, iz⟩ := dw.yld i H' x H2 μ' hlt e hm' hG y
        refine ⟨ρ', z, _, iz, hs'.mono e2, jt i z ρ' μ' hlt hz hj, fun ρ2 σ2 a _ c => ?_⟩
        refine c.g a (hk _ hm') ⟨fun ρ3 μ3 σ3 H3 p q r w => ⟨e.trans (e2.trans r), ρ3, μ3, p, q, w⟩, fun v r μ3 H3 p q r w => k.rt _ _ _ _ p q (t1.trans (e.trans (e2.trans r))) w,
          fun ρ3 μ3 σ3 H3 p q r w => k.nx _ _ _ _ p q (t1.trans (e.trans (e2.trans r))) w, fun ρ3 μ3 σ3 H3 p q r w => ⟨e.trans (e2.trans r), ρ3, μ3, p, q, w⟩⟩
      · have e' : i = n := by omega
        subst e'
        exact .inl ⟨dw.stop H' μ' e hm' hG, k.nx _ _ _ _ hs' hm' (t1.trans e) (je ρ' μ' hj)⟩
/-- while -/
theorem w_while {body : List Stmt} (hp : PassesOwn (model X.prog X.w) X.A X.env X.xe) (J : Nat → Rho → Mu → Prop) (m0 : Nat) (h0 : J m0 ρ μ)
    (h : ∀ m ρ' μ', J m ρ' μ' → WT X ρ' μ' c fun μ1 b => (b = true → WS X ρ' μ1 body { T with nx := fun ρ2 μ2 => ∃ m', m' < m ∧ J m' ρ2 μ2, ct := fun ρ2 μ2 => ∃ m', m' < m ∧ J m' ρ2 μ2, bk := T.nx }) ∧ (b = false → T.nx ρ' μ1)) : W1 X ρ μ (.While c body [] pos) T :=
  W1.of (ps_while hp pt_g pss_g) fun D σ H hs hm k => by
    refine ⟨fun m σ' H' => TEx H H' ∧ ∃ ρ' μ', RS X.K H' ρ' σ' ∧ MR X.prog X.w X.K μ' H' ∧ J m ρ' μ', ⟨m0, TEx.refl _, ρ, μ, hs, hm, h0⟩, ?_⟩
    rintro m σ' H' ⟨e, ρ', μ', hs', hm', hj⟩
    refine (h m ρ' μ' hj).g hs' hm' fun b μ1 H1 m1 t1 q => ?_
    cases b with
    | true =>
      refine ⟨fun σ2 H2 => TEx H H2 ∧ ∃ m', m' < m ∧ ∃ ρ2 μ2, RS X.K H2 ρ2 σ2 ∧ MR X.prog X.w X.K μ2 H2 ∧ J m' ρ2 μ2, fun σ2 H2 ⟨e2, m', hl, ρ2, μ2, a, b, c⟩ => ⟨m', hl, e2, ρ2, μ2, a, b, c⟩, ?_⟩
      exact (q.1 rfl).g (hs'.mono t1) m1 ⟨fun ρ3 μ3 σ3 H3 p q r ⟨m', hl, w⟩ => ⟨e.trans (t1.trans r), m', hl, ρ3, μ3, p, q, w⟩, fun v r μ3 H3 p q r w => k.rt _ _ _ _ p q (e.trans (t1.trans r)) w,
        fun ρ3 μ3 σ3 H3 p q r w => k.nx _ _ _ _ p q (e.trans (t1.trans r)) w, fun ρ3 μ3 σ3 H3 p q r ⟨m', hl, w⟩ => ⟨e.trans (t1.trans r), m', hl, ρ3, μ3, p, q, w⟩⟩
    | false => exact k.nx _ _ _ _ (hs'.mono t1) m1 (e.trans t1) (q.2 rfl)
end
end AV
-- text LyC
set_option Elab.async false
set_option linter.all false
set_option maxRecDepth 100000
set_option maxHeartbeats 4000000
namespace AV
open PySem L2 PyProof.Rows PySem.Spec

/-! ### comprehensions -/
theorem wipe_at {σ : L2.St} : ∀ (vs : List Nat) (i : Nat), (L2.wipe σ vs)[i]? = if i ∈ vs then (σ[i]?).map (fun _ => none) else σ[i]?
  | [], i => by simp [L2.wipe]
  | v :: vs, i => by
    unfold L2.wipe
    by_cases h : v = i
    · subst h
      rw [if_pos List.mem_cons_self]
      by_cases hl : v < (L2.wipe σ vs).length
      · rw [List.getElem?_set_self hl]
        have : v < σ.length := by rw [← L2.wipe_length σ vs]; exact hl
        rw [List.getElem?_eq_getElem this]; rfl
      · rw [List.getElem?_eq_none (by simpa using hl)]
        have : σ[v]? = none := List.getElem?_eq_none (by rw [← L2.wipe_length σ vs]; omega)
        rw [this]; rfl
    · rw [List.getElem?_set_ne h, wipe_at vs i]
      have : (i ∈ v :: vs) ↔ i ∈ vs := by simp [Ne.symm h]
      simp only [this]
theorem wipe_stays {σ σ' : L2.St} {sl vs : List Nat} (h : StaysBut sl (L2.wipe σ vs) σ') (hs : ∀ i ∈ sl, i ∈ vs) : L2.wipe σ' vs = L2.wipe σ vs := by
  apply List.ext_getElem?
  intro i
  rw [wipe_at, wipe_at]
  by_cases hi : i ∈ vs
  · rw [if_pos hi, if_pos hi]
    have hl : σ'.length = σ.length := by rw [h.1, L2.wipe_length]
    by_cases hx : i < σ.length
    · rw [List.getElem?_eq_getElem hx, List.getElem?_eq_getElem (by omega)]; rfl
    · rw [List.getElem?_eq_none (by omega), List.getElem?_eq_none (by omega)]
  · rw [if_neg hi, if_neg hi, h.2 i (fun q => hi (hs i q)), wipe_at, if_neg hi]
/-- the tests of a comprehension -/
def WTs (X : Cx) (ρ : Rho) (μ : Mu) (ifs : List Expr) (T : Mu → Bool → Prop) : Prop := match ifs with
  | [] => T μ true
  | [c] => WT X ρ μ c T
  | _ => False
def gTs (X : Cx) : List Expr → TT
  | [] => tYes
  | [c] => gT X c
  | _ => fun _ _ _ => False
theorem pts_g {X : Cx} : ∀ {ifs : List Expr}, PTs X ifs (gTs X ifs)
  | [] => pts_nil
  | [c] => pts_one pt_g
  | _ :: _ :: _ => ⟨fun _ _ _ _ _ _ h => h.elim⟩
theorem WTs.g {X : Cx} {ρ : Rho} {μ : Mu} {ifs : List Expr} {T : Mu → Bool → Prop} {σ : L2.St} {H : Hp} {Q : Bool → Hp → Prop} (h : WTs X ρ μ ifs T) (hs : RS X.K H ρ σ) (hm : MR X.prog X.w X.K μ H)
    (k : ∀ b μ' H', MR X.prog X.w X.K μ' H' → TEx H H' → T μ' b → Q b H') : gTs X ifs σ H Q := by
  match ifs, h with
  | [], h => exact k _ _ _ hm (TEx.refl H) h
  | [c], h => exact WT.g (show WT X ρ μ c T from h) hs hm k
class TgM (g : Tg) : Prop where
  m : ∀ {x ρ} {G G' : Rho → Prop}, (∀ ρ, G ρ → G' ρ) → g x ρ G → g x ρ G'
class TgMs (gs : List Tg) : Prop where
  m : ∀ {rs ρ} {G G' : Rho → Prop}, (∀ ρ, G ρ → G' ρ) → gAll gs rs ρ G → gAll gs rs ρ G'
instance {i : Nat} : TgM (gN i) := ⟨fun {x ρ G G'} h q => by
  cases x with
  | v r => exact h _ q
  | tp rs => exact q⟩
instance : TgMs [] := ⟨fun {rs ρ G G'} h q => by
  cases rs with
  | nil => exact h _ q
  | cons _ _ => exact q⟩
instance {g : Tg} {gs : List Tg} [a : TgM g] [b : TgMs gs] : TgMs (g :: gs) := ⟨fun {rs ρ G G'} h q => by
  cases rs with
  | nil => exact q
  | cons _ _ => exact a.m (fun ρ q => b.m h q) q⟩
instance {gs : List Tg} [b : TgMs gs] : TgM (gP gs) := ⟨fun {x ρ G G'} h ⟨rs, e, l, q⟩ => ⟨rs, e, l, b.m h q⟩⟩
section
variable {X : Cx} {ρ : Rho} {μ : Mu} {elt tg iter : Expr} {ifs : List Expr} {scope : Scope} {own : List (Str × Nat)} {pos : Pos} {P : PK} {g : Tg} {sl : List Nat}
/-- a list comprehension: what it needs, whether it stands alone or is given a name at once -/
def WLc (X : Cx) (ρ : Rho) (μ : Mu) (elt tg iter : Expr) (ifs : List Expr) (scope : Scope) (P : PK) : Prop :=
  ∃ (wi : TI) (g : TG) (tt : TT) (te : TE) (own : List (Str × Nat)), X.calm = true ∧ X.N.Nodup ∧ PI X tg iter wi ∧ BlkOk X.N X.env.scope scope own ∧
    (∀ (s : Shared) (H : Hp) (C : Addr) (cl : List (Str × Addr)) (fp : List Addr), PG (X.blk s H scope (compEnvC scope cl C X.env) fp) tg g) ∧ (∀ (s : Shared) (H : Hp) (C : Addr) (cl : List (Str × Addr)) (fp : List Addr), PTs (X.blk s H scope (compEnvC scope cl C X.env) fp) ifs tt) ∧
    (∀ (s : Shared) (H : Hp) (C : Addr) (cl : List (Str × Addr)) (fp : List Addr), PE (X.blk s H scope (compEnvC scope cl C X.env) fp) elt te) ∧ (∀ x, foldedSetIterable iter X.env x = pure x) ∧
    ∀ (σ : L2.St) (H : Hp) (Q : VK), RS X.K H ρ σ → MR X.prog X.w X.K μ H → (∀ v r μ' H', MR X.prog X.w X.K μ' H' → SVR X.K H' v r → TEx H H' → P μ' r → Q v H') → tLc wi g tt te (own.map (·.2)) σ H Q
theorem WLc.e (h : WLc X ρ μ elt tg iter ifs scope P) : WE X ρ μ (.ListComp elt [⟨tg, iter, ifs, 0⟩] scope pos) P := fun pins s σ H Q I hs hm k =>
  let ⟨_, _, _, _, _, hc, hN, hi, ok, hg, ht, he, hf, tr⟩ := h
  (pe_lc hc hN hi ok hg ht he hf).run pins s σ H Q I (tr σ H Q hs hm k)
theorem WLc.set {T : Po} {i : Nat} {y : Str} {py spos : Pos} (h : WLc X ρ μ elt tg iter ifs scope fun μ1 r => T.nx (ρ.set i (some r)) μ1) (hy : X.N[i]? = some y := by rfl) (hyl : X.env.scope.names.lookup y = some .local := by rfl)
    (hsw : swapsWith (.ListComp elt [⟨tg, iter, ifs, 0⟩] scope pos) (some (.Name y py)) spos.line X.env = pure true := by exact sw_true rfl rfl rfl rfl) : W1 X ρ μ (.Assign [.Name y py] (.ListComp elt [⟨tg, iter, ifs, 0⟩] scope pos) spos) T :=
  let ⟨_, _, _, _, _, hc, hN, hi, ok, hg, ht, he, hf, tr⟩ := h
  W1.of (ps_setLc hc hN hy hyl hsw hi ok hg ht he hf) fun D σ H hs hm k => tr σ H _ hs hm fun v r μ' H' m' r' t' q' => k.nx _ μ' _ H' ((hs.mono t').set r') m' t' q'
theorem l_lc (own : List (Str × Nat)) (hc : X.calm = true) (hN : X.N.Nodup) (ok : BlkOk X.N X.env.scope scope own) (hsl : ∀ i ∈ sl, i ∈ own.map (·.2))
    (hg : ∀ (s : Shared) (H : Hp) (C : Addr) (cl : List (Str × Addr)) (fp : List Addr), WG (X.blk s H scope (compEnvC scope cl C X.env) fp) tg sl g)
    (h : WI X ρ μ tg iter fun μ1 n Y G => ∃ J : Nat → List SV → Mu → Prop, n ≤ 10000000 ∧ J 0 [] μ1 ∧ (∀ i acc μ', i ≤ n → J i acc μ' → G μ' ∧ acc.length ≤ i) ∧
      (∀ i x acc μ' D, i < n → Y i x → J i acc μ' → μ' D = none → g x (wipeR ρ (own.map (·.2))) fun ρ2 => ∀ (s : Shared) (H : Hp) (C : Addr) (cl : List (Str × Addr)) (fp : List Addr),
        WTs (X.blk s H scope (compEnvC scope cl C X.env) fp) ρ2 (updM μ' D (.lst acc)) ifs fun μ2 b => (b = true → ∀ (s : Shared) (H : Hp) (C : Addr) (cl : List (Str × Addr)) (fp : List Addr),
          WE (X.blk s H scope (compEnvC scope cl C X.env) fp) ρ2 μ2 elt fun μ3 y => ∃ μ4, μ3 = updM μ4 D (.lst acc) ∧ μ4 D = none ∧ J (i + 1) (acc ++ [y]) μ4) ∧
          (b = false → ∃ μ4, μ2 = updM μ4 D (.lst acc) ∧ μ4 D = none ∧ J (i + 1) acc μ4)) ∧
      ∀ acc μ', J n acc μ' → ∀ q, μ' q = none → P (updM μ' q (.lst acc)) (.loc q))
    (hf : ∀ x, foldedSetIterable iter X.env x = pure x := by intro _; rfl) : WLc X ρ μ elt tg iter ifs scope P := by
  refine ⟨gI X tg iter, fun v σ H Q => ∃ (ρ : Rho) (x : Item) (G : Rho → Prop), IR X.K H v x ∧ RS X.K H ρ σ ∧ g x ρ G ∧ ∀ ρ' σ', RS X.K H ρ' σ' → StaysBut sl σ σ' → G ρ' → Q σ' H,
    fun σ H Q => ∀ (s : Shared) (H0 : Hp) (C : Addr) (cl : List (Str × Addr)) (fp : List Addr), gTs (X.blk s H0 scope (compEnvC scope cl C X.env) fp) ifs σ H (fun b H' => Q b H'),
    fun σ H Q => ∀ (s : Shared) (H0 : Hp) (C : Addr) (cl : List (Str × Addr)) (fp : List Addr), gE (X.blk s H0 scope (compEnvC scope cl C X.env) fp) elt σ H Q, own,
    hc, hN, pi_g, ok, (fun s0 H0 C cl fp => ⟨fun pins s σ H v u Q I r ⟨ρ, x, G, a, b, c, d⟩ => hg s0 H0 C cl fp pins s σ H v u Q ρ x G I r a b c d⟩),
    (fun s0 H0 C cl fp => ⟨fun pins s σ H Q I h => pts_g.run pins s σ H Q I (h s0 H0 C cl fp)⟩), (fun s0 H0 C cl fp => ⟨fun pins s σ H Q I h => h s0 H0 C cl fp pins s I⟩), hf, fun σ H Q hsr hm k => ?_⟩
  refine h.g hsr hm fun J n Y G μ1 H1 m1 t1 dw ⟨Jn, hn, j0, jG, jt, je⟩ D hD => ?_
  refine ⟨fun i m H' => m = n - i ∧ i ≤ n ∧ ∃ μ' acc Hc, Jn i acc μ' ∧ TEx H1 H' ∧ μ' D = none ∧ MR X.prog X.w X.K (updM μ' D (.lst acc)) H', ⟨n, by simp, Nat.zero_le _, μ1, [], H1, j0, TEx.new hD, m1.fresh hD, m1.new (c := .lst []) hD ⟨[], upd_same, .nil⟩⟩, ?_⟩
  rintro i m H' ⟨rfl, hi, μ', acc, _, hj, e, hDn, hm'⟩
  have hm0 : MR X.prog X.w X.K μ' H' := hm'.sub (MSub.upd hDn)
  obtain ⟨hG, hac⟩ := jG i acc μ' hi hj
  by_cases hlt : i < n
  · refine .inr ⟨dw.go i H' μ' hlt e hm0 hG, fun H2 => ∃ μ2 acc2, Jn (i + 1) acc2 μ2 ∧ TEx H1 H2 ∧ μ2 D = none ∧ MR X.prog X.w X.K (updM μ2 D (.lst acc2)) H2, fun H2 ⟨μ2, acc2, a, b, c, d⟩ => ⟨n - (i + 1), by omega, rfl, hlt, μ2, acc2, H2, a, b, c, d⟩, fun x H2 y => ?_⟩
    obtain ⟨e2, hk, z, hz, iz⟩ := dw.yld i H' x H2 μ' hlt e hm0 hG y
    refine ⟨wipeR ρ (own.map (·.2)), z, _, iz, ((hsr.mono (t1.trans (e.trans e2))).wipe _), jt i z acc μ' D hlt hz hj hDn, fun ρ2 σ2 hr2 st hq => ⟨wipe_stays st hsl, fun s0 H0 C cl fp => ?_⟩⟩
    refine (hq s0 H0 C cl fp).g hr2 (hk _ hm') fun b μ2 H3 m3 t3 hb => ?_
    cases b with
    | false =>
      obtain ⟨μ4, e4, n4, j4⟩ := hb.2 rfl
      subst e4
      exact ⟨μ4, acc, j4, e.trans (e2.trans t3), n4, m3⟩
    | true =>
      show ∀ (s : Shared) (H0 : Hp) (C : Addr) (cl : List (Str × Addr)) (fp : List Addr), _
      intro s5 H5 C5 cl5 fp5
      refine (hb.1 rfl s5 H5 C5 cl5 fp5).g (hr2.mono t3) m3 fun v y μ6 H6 m6 r6 t6 ⟨μ4, e4, n4, j4⟩ => ?_
      subst e4
      obtain ⟨vs, hv, sv⟩ := m6.lst updM_same
      have ha : acc.length < sizeLine := by rw [sizeLine_eq]; omega
      refine ⟨vs, hv, by rw [sv.length]; exact ha, μ4, acc ++ [y], j4, e.trans (e2.trans (t3.trans (t6.trans (TEx.mut (loose_lst hv))))), n4, ?_⟩
      have tm := TEx.mut (o := .lst (vs ++ [v])) (loose_lst hv)
      have := m6.set (o := .lst (vs ++ [v])) (c := .lst (acc ++ [y])) (loose_lst hv) ⟨_, upd_same, (sv.snoc r6).mono tm⟩
      rw [updM_updM] at this
      exact this
  · have e' : i = n := by omega
    subst e'
    refine .inl ⟨dw.stop H' μ' e hm0 hG, k _ (.loc D) _ _ hm' rfl (t1.trans e) (je acc μ' hj D hDn)⟩
theorem e_lc (own : List (Str × Nat)) (hc : X.calm = true) (hN : X.N.Nodup) (ok : BlkOk X.N X.env.scope scope own) (hsl : ∀ i ∈ sl, i ∈ own.map (·.2))
    (hg : ∀ (s : Shared) (H : Hp) (C : Addr) (cl : List (Str × Addr)) (fp : List Addr), WG (X.blk s H scope (compEnvC scope cl C X.env) fp) tg sl g)
    (h : WI X ρ μ tg iter fun μ1 n Y G => ∃ J : Nat → List SV → Mu → Prop, n ≤ 10000000 ∧ J 0 [] μ1 ∧ (∀ i acc μ', i ≤ n → J i acc μ' → G μ' ∧ acc.length ≤ i) ∧
      (∀ i x acc μ' D, i < n → Y i x → J i acc μ' → μ' D = none → g x (wipeR ρ (own.map (·.2))) fun ρ2 => ∀ (s : Shared) (H : Hp) (C : Addr) (cl : List (Str × Addr)) (fp : List Addr),
        WTs (X.blk s H scope (compEnvC scope cl C X.env) fp) ρ2 (updM μ' D (.lst acc)) ifs fun μ2 b => (b = true → ∀ (s : Shared) (H : Hp) (C : Addr) (cl : List (Str × Addr)) (fp : List Addr),
          WE (X.blk s H scope (compEnvC scope cl C X.env) fp) ρ2 μ2 elt fun μ3 y => ∃ μ4, μ3 = updM μ4 D (.lst acc) ∧ μ4 D = none ∧ J (i + 1) (acc ++ [y]) μ4) ∧
          (b = false → ∃ μ4, μ2 = updM μ4 D (.lst acc) ∧ μ4 D = none ∧ J (i + 1) acc μ4)) ∧
      ∀ acc μ', J n acc μ' → ∀ q, μ' q = none → P (updM μ' q (.lst acc)) (.loc q))
    (hs : ∀ x, foldedSetIterable iter X.env x = pure x := by intro _; rfl) : WE X ρ μ (.ListComp elt [⟨tg, iter, ifs, 0⟩] scope pos) P :=
  (l_lc own hc hN ok hsl hg h hs).e
/-- each item made into a value, nothing else changed -/
theorem e_map [tm : TgM g] (own : List (Str × Nat)) (f : Nat → SV) (hc : X.calm = true) (hN : X.N.Nodup) (ok : BlkOk X.N X.env.scope scope own) (hsl : ∀ i ∈ sl, i ∈ own.map (·.2))
    (hg : ∀ (s : Shared) (H : Hp) (C : Addr) (cl : List (Str × Addr)) (fp : List Addr), WG (X.blk s H scope (compEnvC scope cl C X.env) fp) tg sl g)
    (h : WI X ρ μ tg iter fun μ1 n Y G => n ≤ 10000000 ∧ G μ1 ∧ (∀ i x μ', i < n → Y i x → MSub μ1 μ' → g x (wipeR ρ (own.map (·.2))) fun ρ2 => ∀ (s : Shared) (H : Hp) (C : Addr) (cl : List (Str × Addr)) (fp : List Addr),
        WE (X.blk s H scope (compEnvC scope cl C X.env) fp) ρ2 μ' elt fun μ3 y => μ3 = μ' ∧ y = f i) ∧
      ∀ q, μ1 q = none → P (updM μ1 q (.lst ((List.range n).map f))) (.loc q))
    (hs : ∀ x, foldedSetIterable iter X.env x = pure x := by intro _; rfl) : WE X ρ μ (.ListComp elt [⟨tg, iter, [], 0⟩] scope pos) P :=
  e_lc own hc hN ok hsl hg (fun pins s σ H R I a b k => h pins s σ H R I a b fun J n Y G μ' H' p q r ⟨hn, hG, ht, he⟩ => k J n Y G μ' H' p q r
    ⟨fun i acc μ2 => μ2 = μ' ∧ acc = (List.range i).map f, hn, ⟨rfl, rfl⟩, fun i acc μ2 hi ⟨e1, e2⟩ => by subst e1 e2; exact ⟨hG, by simp⟩, fun i x acc μ2 D hi hy ⟨e1, e2⟩ hD => by
      subst e1 e2
      refine tm.m (fun ρ2 hq s H C cl fp => ?_) (ht i x (updM μ2 D (.lst ((List.range i).map f))) hi hy (MSub.upd hD))
      exact ⟨fun _ s H C cl fp => (hq s H C cl fp).imp fun μ3 y ⟨e3, e4⟩ => ⟨μ2, e3, hD, rfl, by rw [e4, List.range_succ, List.map_append]; rfl⟩, fun z => by cases z⟩,
      fun acc μ2 ⟨e1, e2⟩ q hq => by subst e1 e2; exact he q hq⟩) hs
end

/-! ### calls of the program's own defs -/
/-- a promise over data and the store: the arguments, the store, what is wanted -/
abbrev Gs := List SV → Mu → PK → Prop
def spOf (P : Program) (w : World) (K : PySem.W.Frag) (G : Gs) : Sp := fun vs H Q _ => ∃ (rs : List SV) (μ : Mu) (Po : PK), SVs K H vs rs ∧ MR P w K μ H ∧ G rs μ Po ∧
  ∀ v r μ' H', MR P w K μ' H' → SVR K H' v r → TEx H H' → Po μ' r → Q v H'
/-- a def that may be called -/
abbrev Fn (P : Program) (w : World) (K : PySem.W.Frag) (mg : Str → Option Value) (base : Heap) (k : Nat) (x : Str) (G : Gs) : Prop := C8.Cal P w K mg base k x (spOf P w K G) []
abbrev Me (P : Program) (w : World) (K : PySem.W.Frag) (mg : Str → Option Value) (base : Heap) (k : Nat) (C : Addr) (m : Str) (G : Gs) : Prop := C8.Met P w K mg base k C m (spOf P w K G) []
abbrev Mk' (P : Program) (w : World) (K : PySem.W.Frag) (mg : Str → Option Value) (base : Heap) (k : Nat) (x : Str) (C : Addr) (G : Gs) : Prop := C8.Mak P w K mg base k x C (spOf P w K G) []
section
variable {X : Cx} {ρ : Rho} {μ : Mu} {a o e : Expr} {es : List Expr} {P : PK} {T : Po} {pos p apos : Pos} {k j : Nat} {x m : Str} {C : Addr} {G : Gs}
theorem e_call (c : Fn X.prog X.w X.K X.mg X.base k x G) (hr : Room j X.A) (h : WA X ρ μ (e :: es) fun μ1 rs => G rs μ1 P) (hk : k ≤ j := by decide) (hg : Gl X x := by rfl)
    (hdb : (x == ("__debug__" : Str)) = false := by decide) (he : starEach (e :: es) X.env = (false, eval e X.env) :: starEach es X.env := by rfl) (hpl : (backTo pos (starEach es X.env)).any (·.1) = false := by rfl) : WE X ρ μ (.Call (.Name x p) (e :: es) [] pos) P :=
  WE.of (C8.pe_c c hr hk hg pa_g hdb he hpl) fun σ H Q hs hm k => h.g hs hm fun vs rs μ1 H1 m1 r1 t1 q => by
    show spOf _ _ _ G (vs ++ []) H1 Q _
    rw [List.append_nil]
    exact ⟨rs, μ1, P, r1, m1, q, fun v r μ' H' m' r' t' q' => k v r μ' H' m' r' (t1.trans t') q'⟩
theorem e_meth {pl : Sem Bool} (c : Me X.prog X.w X.K X.mg X.base k C m G) (hr : Room j X.A) (ho : WE X ρ μ o fun μ1 y => ∃ q fs, y = .loc q ∧ μ1 q = some (.obj C fs) ∧ fs.lookup m = none ∧ WA X ρ μ1 (e :: es) fun μ2 rs => G (.loc q :: rs) μ2 P) (hk : k ≤ j := by decide)
    (hst : starEach (e :: es) X.env = (false, eval e X.env) :: starEach es X.env := by rfl) (hpl : (backTo pos (starEach es X.env)).any (·.1) = false := by rfl)
    (ht : eval (.Call (.Attribute o m apos) (e :: es) [] pos) X.env = (do
      let ov ← eval o X.env
      standAt apos.atName
      let (f, first) ← holding [ov] (getMethod ov m pl)
      callWith pos f first (backTo pos (starEach (e :: es) X.env)) (backToKw pos (keywordEach [] X.env))) := by rfl) : WE X ρ μ (.Call (.Attribute o m apos) (e :: es) [] pos) P :=
  WE.of (C8.pe_mt (pl := pl) c hr hk pe_g pa_g hst hpl ht) fun σ H Q hs hm k => ho.g hs hm fun v y μ1 H1 m1 r1 t1 ⟨q, fs, ey, hq, hl, ha⟩ => by
    subst ey
    obtain ⟨dx, gs, hH, fv⟩ := (m1 _ _ hq).1
    refine ⟨q, dx, gs, r1, hH, fv.look_none hl, ha.g (hs.mono t1) m1 fun vs rs μ2 H2 m2 r2 t2 hG => ?_⟩
    show spOf _ _ _ G (v :: (vs ++ [])) H2 Q _
    rw [List.append_nil]
    exact ⟨_, μ2, P, .cons (r1.mono t2) r2, m2, hG, fun v r μ' H' m' r' t' q' => k v r μ' H' m' r' (t1.trans (t2.trans t')) q'⟩
theorem e_make (c : Mk' X.prog X.w X.K X.mg X.base k x C G) (hr : Room j X.A) (h : WA X ρ μ (e :: es) fun μ1 rs => ∀ q, μ1 q = none → G (.loc q :: rs) (updM μ1 q (.obj C [])) fun μ2 r => r = .dat .none ∧ P μ2 (.loc q)) (hk : k + 1 ≤ j := by decide) (hg : Gl X x := by rfl)
    (hdb : (x == ("__debug__" : Str)) = false := by decide) (he : starEach (e :: es) X.env = (false, eval e X.env) :: starEach es X.env := by rfl) (hpl : (backTo pos (starEach es X.env)).any (·.1) = false := by rfl) : WE X ρ μ (.Call (.Name x p) (e :: es) [] pos) P :=
  WE.of (C8.pe_mk c hr hk hg pa_g hdb he hpl) fun σ H Q hs hm k => h.g hs hm fun vs rs μ1 H1 m1 r1 t1 q => by
    intro z dx hz hdx hne
    show spOf _ _ _ G (.ref z :: (vs ++ [])) _ _ _
    rw [List.append_nil]
    have hz2 : upd H1 dx (.own z) z = none := by rw [upd_ne (Ne.symm hne)]; exact hz
    have t2 : TEx H1 (upd (upd H1 dx (.own z)) z (.ins C dx [])) := (TEx.new hdx).trans (TEx.new hz2)
    have m2 : MR X.prog X.w X.K (updM μ1 z (.obj C [])) (upd (upd H1 dx (.own z)) z (.ins C dx [])) := (m1.new0 hdx).new (c := .obj C []) hz2 ⟨dx, [], upd_same, .nil⟩
    refine ⟨_, _, _, .cons (r := .loc z) rfl (r1.mono t2), m2, q z (m1.fresh hz), fun v r μ' H' m' r' t' ⟨e1, q'⟩ => ⟨?_, k _ (.loc z) μ' H' m' rfl (t1.trans (t2.trans t')) q'⟩⟩
    subst e1
    exact TD.non_inv r'

/-! ### fields -/
def putS (f : Str) (v : SV) : List (Str × SV) → List (Str × SV)
  | [] => [(f, v)]
  | (g, x) :: r => if g = f then (g, v) :: r else (g, x) :: putS f v r
theorem FVs.put {K : PySem.W.Frag} {H : Hp} {f : Str} {v : V} {r : SV} (q : SVR K H v r) : ∀ {rs : List (Str × SV)} {vs : List (Str × V)}, FVs K H vs rs → FVs K H (putF f v vs) (putS f r rs)
  | [], _, h => by cases h; exact .cons q .nil
  | _ :: _, _, h => by
    cases h with
    | @cons g u vs r' rs h1 h2 =>
      show FVs K H (if g = f then _ else _) (if g = f then _ else _)
      by_cases hg : g = f
      · rw [if_pos hg, if_pos hg]; exact .cons q h2
      · rw [if_neg hg, if_neg hg]; exact .cons h1 (FVs.put q h2)
theorem e_fld {f : Str} (c : Cls X.K C) (n : NoAttr X.K C f) (h : WE X ρ μ o fun μ1 y => ∃ q fs r, y = .loc q ∧ μ1 q = some (.obj C fs) ∧ fs.lookup f = some r ∧ P μ1 r) (hb : attributeBase o f X.env (eval o X.env) = eval o X.env := by rfl) : WE X ρ μ (.Attribute o f pos) P :=
  WE.of (pe_fld pe_g hb) fun σ H Q hs hm k => h.g hs hm fun v y μ1 H1 m1 r1 t1 ⟨q, fs, r, ey, hq, hl, hP⟩ => by
    subst ey
    obtain ⟨dx, gs, hH, fv⟩ := (m1 _ _ hq).1
    obtain ⟨u, hu, ru⟩ := fv.look hl
    exact ⟨q, C, dx, gs, u, r1, hH, c, n, hu, k _ _ _ _ m1 ru t1 hP⟩
theorem w_fld {f : Str} {p2 : Pos} (c : Cls X.K C) (n : NoAttr X.K C f) (h : WE X ρ μ e fun μ1 r => WE X ρ μ1 o fun μ2 y => ∃ q fs, y = .loc q ∧ μ2 q = some (.obj C fs) ∧ fs.length < 1000 ∧ T.nx ρ (updM μ2 q (.obj C (putS f r fs))))
    (hs : swapsWith e (some (.Attribute o f p2)) pos.line X.env = pure false := by rfl) : W1 X ρ μ (.Assign [.Attribute o f p2] e pos) T :=
  W1.of (ps_fld pe_g pe_g hs) fun D σ H hs hm k => h.g hs hm fun u r μ1 H1 m1 r1 t1 h2 => h2.g (hs.mono t1) m1 fun v y μ2 H2 m2 r2 t2 ⟨q, fs, ey, hq, hl, hT⟩ => by
    subst ey
    obtain ⟨dx, gs, hH, fv⟩ := (m2 _ _ hq).1
    have lo : Loose (H2 q) := by rw [hH]; exact ⟨fun _ e => (nomatch e), fun _ _ e => (nomatch e)⟩
    have te := TEx.mut (o := .ins C dx (putF f u gs)) lo
    refine ⟨q, C, dx, gs, r2, hH, c, n, by rw [fv.length]; exact hl, k.nx _ _ _ _ (hs.mono (t1.trans (t2.trans te))) ?_ (t1.trans (t2.trans te)) hT⟩
    exact m2.set lo ⟨dx, _, upd_same, (FVs.put (r1.mono t2) fv).mono te⟩

/-! ### methods of lists -/
theorem MR.setL {P : Program} {w : World} {K : PySem.W.Frag} {μ : Mu} {H : Hp} {l : Addr} {vs us : List V} {ys : List SV} (h : MR P w K μ H) (hv : H l = some (.lst vs)) (sv : SVs K H us ys) : MR P w K (updM μ l (.lst ys)) (upd H l (.lst us)) :=
  h.set (c := .lst ys) (loose_lst hv) ⟨us, upd_same, sv.mono (TEx.mut (loose_lst hv))⟩
theorem tyL {K : PySem.W.Frag} {H : Hp} {a : Addr} {xs : List V} (h : SqL K H a xs) : tyV K "list" (.ref a) H := .inl ⟨rfl, _, h⟩
theorem e_append (h : WE X ρ μ o fun μ1 y => ∃ l, y = .loc l ∧ (∃ xs, μ1 l = some (.lst xs)) ∧ WE X ρ μ1 e fun μ2 r => ∃ xs, μ2 l = some (.lst xs) ∧ xs.length < 10000000 ∧ P (updM μ2 l (.lst (xs ++ [r]))) (.dat .none))
    (hbase : attributeBase o "append" X.env (eval o X.env) = eval o X.env := by rfl)
    (hfew : ((backTo pos (starEach [e] X.env)).all (fun x => !x.1) && (backToKw pos (keywordEach [] X.env)).all (fun x => x.1.isSome) && decide (([e] : List Expr).length + ([] : List Keyword).length + (if ([] : List Keyword).isEmpty then 0 else 1) < 30)) = true := by rfl)
    (hline : (apos.endLine == pos.line) = true := by rfl) (hst : starEach [e] X.env = (false, eval e X.env) :: starEach [] X.env := by rfl) : WE X ρ μ (.Call (.Attribute o "append" apos) [e] [] pos) P :=
  WE.of (pe_bm PySem.F.plainAttrs_list PySem.F.slot_list_append PySem.F.type_list_append mt_append pe_g (pa_cons pe_g pa_nil hst) hbase hfew hline (hs := hst)) fun σ H Q hs hm k => h.g hs hm fun v y μ1 H1 m1 r1 t1 ⟨l, ey, ⟨ys, hl⟩, h2⟩ => by
    subst ey
    obtain ⟨us, hu, su⟩ := m1.lst hl
    cases r1
    refine ⟨tyL (SqL.of hu), h2.g (hs.mono t1) m1 fun u r μ2 H2 m2 r2 t2 ⟨xs, hx, hz, hP⟩ => ?_⟩
    obtain ⟨vs, hv, sv⟩ := m2.lst hx
    have te := TEx.mut (o := .lst (vs ++ [u])) (loose_lst hv)
    exact ⟨l, vs, u, rfl, rfl, hv, by rw [sv.length, sizeLine_eq]; omega, k _ _ _ _ (m2.setL hv (sv.snoc r2)) sv_non (t1.trans (t2.trans te)) hP⟩
theorem e_pop (h : WE X ρ μ o fun μ1 y => ∃ l xs r, y = .loc l ∧ μ1 l = some (.lst xs) ∧ xs[xs.length - 1]? = some r ∧ P (updM μ1 l (.lst xs.dropLast)) r)
    (hbase : attributeBase o "pop" X.env (eval o X.env) = eval o X.env := by rfl) (hline : (apos.endLine == pos.line) = true := by rfl) : WE X ρ μ (.Call (.Attribute o "pop" apos) [] [] pos) P :=
  WE.of (pe_bm0 PySem.F.plainAttrs_list PySem.F.slot_list_pop PySem.F.type_list_pop mt_pop pe_g hbase hline) fun σ H Q hs hm k => h.g hs hm fun v y μ1 H1 m1 r1 t1 ⟨l, xs, r, ey, hl, hr, hP⟩ => by
    subst ey
    obtain ⟨us, hu, su⟩ := m1.lst hl
    cases r1
    obtain ⟨z, hz, rz⟩ := su.get hr
    have te := TEx.mut (o := .lst us.dropLast) (loose_lst hu)
    exact ⟨tyL (SqL.of hu), l, us, z, rfl, rfl, hu, by rw [su.length]; exact hz, k _ _ _ _ (m1.setL hu su.dropLast) (rz.mono te) (t1.trans te) hP⟩
theorem e_reverse (h : WE X ρ μ o fun μ1 y => ∃ l xs, y = .loc l ∧ μ1 l = some (.lst xs) ∧ P (updM μ1 l (.lst xs.reverse)) (.dat .none))
    (hbase : attributeBase o "reverse" X.env (eval o X.env) = eval o X.env := by rfl) (hline : (apos.endLine == pos.line) = true := by rfl) : WE X ρ μ (.Call (.Attribute o "reverse" apos) [] [] pos) P :=
  WE.of (pe_bm0 PySem.F.plainAttrs_list PySem.F.slot_list_reverse PySem.F.type_list_reverse mt_reverse pe_g hbase hline) fun σ H Q hs hm k => h.g hs hm fun v y μ1 H1 m1 r1 t1 ⟨l, xs, ey, hl, hP⟩ => by
    subst ey
    obtain ⟨us, hu, su⟩ := m1.lst hl
    cases r1
    have te := TEx.mut (o := .lst us.reverse) (loose_lst hu)
    exact ⟨tyL (SqL.of hu), l, us, rfl, rfl, hu, k _ _ _ _ (m1.setL hu su.reverse) sv_non (t1.trans te) hP⟩
theorem e_popAt (h : WE X ρ μ o fun μ1 y => ∃ l, y = .loc l ∧ (∃ xs, μ1 l = some (.lst xs)) ∧ WE X ρ μ1 e fun μ2 i => ∃ (n : Nat) (xs : List SV) (r : SV), i = .int (n : Int) ∧ μ2 l = some (.lst xs) ∧ xs.length < 10000000 ∧ xs[n]? = some r ∧ P (updM μ2 l (.lst (xs.eraseIdx n))) r)
    (hbase : attributeBase o "pop" X.env (eval o X.env) = eval o X.env := by rfl)
    (hfew : ((backTo pos (starEach [e] X.env)).all (fun x => !x.1) && (backToKw pos (keywordEach [] X.env)).all (fun x => x.1.isSome) && decide (([e] : List Expr).length + ([] : List Keyword).length + (if ([] : List Keyword).isEmpty then 0 else 1) < 30)) = true := by rfl)
    (hline : (apos.endLine == pos.line) = true := by rfl) (hst : starEach [e] X.env = (false, eval e X.env) :: starEach [] X.env := by rfl) : WE X ρ μ (.Call (.Attribute o "pop" apos) [e] [] pos) P :=
  WE.of (pe_bm PySem.F.plainAttrs_list PySem.F.slot_list_pop PySem.F.type_list_pop mt_popAt pe_g (pa_cons pe_g pa_nil hst) hbase hfew hline (hs := hst)) fun σ H Q hs hm k => h.g hs hm fun v y μ1 H1 m1 r1 t1 ⟨l, ey, ⟨ys, hl⟩, h2⟩ => by
    subst ey
    obtain ⟨us, hu, su⟩ := m1.lst hl
    cases r1
    refine ⟨tyL (SqL.of hu), h2.g (hs.mono t1) m1 fun u r μ2 H2 m2 r2 t2 ⟨n, xs, z, ei, hx, hz, hr, hP⟩ => ?_⟩
    subst ei
    cases TD.int_inv r2
    obtain ⟨vs, hv, sv⟩ := m2.lst hx
    obtain ⟨w, hw, rw'⟩ := sv.get hr
    have te := TEx.mut (o := .lst (vs.eraseIdx n)) (loose_lst hv)
    have hn : n < xs.length := (List.getElem?_eq_some_iff.mp hr).1
    have hsx : seqIndex? (n : Int) vs.length = some n := by
      obtain ⟨j, h1, h2, _⟩ := atI_get (atI_nat (xs := vs) hw)
      have hj : ixN vs.length (n : Int) = some n := by
        unfold ixN
        rw [if_pos (by omega), if_pos (by rw [sv.length]; omega)]; simp
      exact (ixN_seq hj).1
    exact ⟨l, vs, (n : Int), n, w, rfl, rfl, hv, by omega, by omega, hsx, hw, k _ _ _ _ (m2.setL hv (sv.eraseIdx n)) (rw'.mono te) (t1.trans (t2.trans te)) hP⟩
/-- xs[i] = e, a list -/
theorem w_setL {i : Expr} {p2 : Pos} (h : WE X ρ μ e fun μ1 r => WE X ρ μ1 o fun μ2 y => WE X ρ μ2 i fun μ3 z => ∃ l xs n j, y = .loc l ∧ z = .int n ∧ μ3 l = some (.lst xs) ∧ ixN xs.length n = some j ∧ T.nx ρ (updM μ3 l (.lst (xs.set j r))))
    (hs : swapsWithSole [.Subscript o i p2] e pos.line X.env = pure false := by rfl) (hw : swappedStores [.Subscript o i p2] e X.env = pure none := by rfl)
    (h1 : (assignEach [.Subscript o i p2] X.env).map (·.2) = [assign (.Subscript o i p2) X.env] := by rfl)
    (ha : ∀ v, assign (.Subscript o i p2) X.env v = (do
      let ov ← holding [v] (eval o X.env)
      let iv ← holding [v, ov] (eval i X.env)
      standAt p2
      holding [v, ov, iv] (setItem ov iv v)
      release [v, ov, iv] []) := by intro _; rfl) : W1 X ρ μ (.Assign [.Subscript o i p2] e pos) T :=
  W1.of (ps_asg pe_g (pg_sub pe_g pe_g set_list ha) hs hw h1) fun D σ H hs hm k => h.g hs hm fun u r μ1 H1 m1 r1 t1 h2 => h2.g (hs.mono t1) m1 fun v y μ2 H2 m2 r2 t2 h3 => h3.g (hs.mono (t1.trans t2)) m2 fun w z μ3 H3 m3 r3 t3 ⟨l, xs, n, j, ey, ez, hx, hj, hT⟩ => by
    subst ey ez
    cases r2
    cases TD.int_inv r3
    obtain ⟨vs, hv, sv⟩ := m3.lst hx
    have te := TEx.mut (o := .lst (vs.set j u)) (loose_lst hv)
    have t := t1.trans (t2.trans (t3.trans te))
    exact ⟨l, vs, n, j, rfl, rfl, hv, by rw [sv.length]; exact hj, k.nx _ _ _ _ (hs.mono t) (m3.setL hv (sv.set (r1.mono (t2.trans t3)) j)) t hT⟩
end

/-! ### a def's body -/
theorem ok_of {P : Program} {w : World} {K : PySem.W.Frag} {mg : Str → Option Value} {base : Heap} {x qual : Str} {params : Arguments} {body : List Stmt} {scope : Scope} {f : Addr} {fd : FuncData} {N ps : List Str} {k : Nat} {G : Gs}
    (F : FunD K x qual params body scope [] [] f fd) (S : FnScope N ps scope) (hl : ∀ rs μ Po, G rs μ Po → rs.length = ps.length)
    (hb : ∀ (cdv : Value) (A : Around) (outer : List Env) (s : Shared) (H : Hp) (E : XK) (rs : List SV) (μ : Mu) (Po : PK), Room k (A.deeper (envOfC qual scope s.heap.objs.size f cdv)) → G rs μ Po →
      WS (cxOf C8.CX0 P w K mg base N qual scope f cdv A outer s H E).nox (rs.map some ++ List.replicate (N.length - rs.length) none) μ body { nx := fun _ μ' => Po μ' (.dat .none), rt := fun r μ' => Po μ' r }) :
    FnOk P w K mg base C8.CX0 (k + 1) f fd ps (spOf P w K G) := by
  refine F.ok S (fun vs H Q E ⟨rs, μ, Po, h1, _, h2, _⟩ => h1.length.trans (hl rs μ Po h2)) fun cdv A outer s H vs Q E hr ⟨rs, μ, Po, h1, h2, h3, h4⟩ => ?_
  refine ⟨gS (cxOf C8.CX0 P w K mg base N qual scope f cdv A outer s H E).nox body, pss_g.nox, ?_⟩
  exact (hb cdv A outer s H E rs μ Po hr h3).g (RS.init N h1) h2 ⟨fun ρ' μ' σ' H' _ b c d => h4 _ _ _ _ b sv_non c d, fun v r μ' H' a b c d => h4 _ _ _ _ a b c d, fun _ _ _ _ _ _ _ d => d.elim, fun _ _ _ _ _ _ _ d => d.elim⟩
end AV
-- text LyT
set_option Elab.async false
set_option linter.all false
set_option maxRecDepth 100000
set_option maxHeartbeats 4000000
namespace AV
open PySem L2 PyProof.Rows PySem.Spec
section
variable {X : Cx} {ρ : Rho} {μ : Mu} {a b c : Expr} {T : Mu → Bool → Prop} {pos : Pos}
/-- a comparison as a test: its value is a bool -/
abbrev PB (T : Mu → Bool → Prop) : PK := fun μ r => ∃ c, r = .dat (.bool c) ∧ T μ c
theorem t_cmp {op : CmpOp} {r : R2} (ho : OpR X (compareOp op) r)
    (h : WE X ρ μ a fun μ1 x => WE X ρ μ1 b fun μ2 y => ∀ v u H Q, SVR X.K H v x → SVR X.K H u y → MR X.prog X.w X.K μ2 H → (∀ w z μ' H', MR X.prog X.w X.K μ' H' → SVR X.K H' w z → TEx H H' → PB T μ' z → Q w H') → r v u H Q)
    (hb : behindInMarks op b = false := by first | exact nomark _ | rfl) : WT X ρ μ (.Compare a [op] [b] pos) T :=
  WT.of (pt_cmpR ho pe_g pe_g hb) fun σ H Q hs hm k => h.g hs hm fun v x μ1 H1 m1 r1 t1 q1 => q1.g (hs.mono t1) m1 fun u y μ2 H2 m2 r2 t2 q2 =>
    q2 v u H2 _ (r1.mono t2) r2 m2 fun w z μ' H' m' r' t' ⟨c, ez, q'⟩ => by subst ez; exact ⟨c, TD.bl_inv r', k _ _ _ m' (t1.trans (t2.trans t')) q'⟩
theorem t_cmpI {op : CmpOp} {g : Int → Int → Bool} (ho : OpR X (compareOp op) (rI0 fun i j => .bl (g i j)))
    (h : WE X ρ μ a fun μ1 x => WE X ρ μ1 b fun μ2 y => ∃ i j, x = .int i ∧ y = .int j ∧ T μ2 (g i j)) (hb : behindInMarks op b = false := by exact nomark _) : WT X ρ μ (.Compare a [op] [b] pos) T :=
  t_cmp ho (h.imp fun μ1 x q => q.imp fun μ2 y ⟨i, j, ex, ey, p⟩ v u H Q hv hu hm k => by
    subst ex ey
    exact ⟨i, j, TD.int_inv hv, TD.int_inv hu, k _ _ μ2 H hm (sv_bl _) (TEx.refl H) ⟨_, rfl, p⟩⟩) hb
theorem t_lt (h : WE X ρ μ a fun μ1 x => WE X ρ μ1 b fun μ2 y => ∃ i j, x = .int i ∧ y = .int j ∧ T μ2 (decide (i < j))) : WT X ρ μ (.Compare a [.Lt] [b] pos) T := t_cmpI op_lt h
theorem t_gt (h : WE X ρ μ a fun μ1 x => WE X ρ μ1 b fun μ2 y => ∃ i j, x = .int i ∧ y = .int j ∧ T μ2 (decide (j < i))) : WT X ρ μ (.Compare a [.Gt] [b] pos) T := t_cmpI op_gt h
theorem t_ge (h : WE X ρ μ a fun μ1 x => WE X ρ μ1 b fun μ2 y => ∃ i j, x = .int i ∧ y = .int j ∧ T μ2 (decide (j ≤ i))) : WT X ρ μ (.Compare a [.GtE] [b] pos) T := t_cmpI op_ge h
theorem t_eq (h : WE X ρ μ a fun μ1 x => WE X ρ μ1 b fun μ2 y => ∃ d e c, x = .dat d ∧ y = .dat e ∧ flatD d e = some c ∧ T μ2 c) : WT X ρ μ (.Compare a [.Eq] [b] pos) T :=
  t_cmp op_eq (h.imp fun μ1 x q => q.imp fun μ2 y ⟨d, e, c, ex, ey, hc, p⟩ v u H Q hv hu hm k => by
    subst ex ey
    obtain ⟨h1, h2⟩ := flat_eq hv hu hc
    exact ⟨h1, by rw [h2]; exact k _ _ μ2 H hm (sv_bl _) (TEx.refl H) ⟨_, rfl, p⟩⟩)
theorem t_ne (h : WE X ρ μ a fun μ1 x => WE X ρ μ1 b fun μ2 y => ∃ d e c, x = .dat d ∧ y = .dat e ∧ flatD d e = some c ∧ T μ2 (!c)) : WT X ρ μ (.Compare a [.NotEq] [b] pos) T :=
  t_cmp op_ne (h.imp fun μ1 x q => q.imp fun μ2 y ⟨d, e, c, ex, ey, hc, p⟩ v u H Q hv hu hm k => by
    subst ex ey
    obtain ⟨h1, h2⟩ := flat_eq hv hu hc
    exact ⟨h1, by rw [h2]; exact k _ _ μ2 H hm (sv_bl _) (TEx.refl H) ⟨_, rfl, p⟩⟩)
theorem t_eqI (h : WE X ρ μ a fun μ1 x => WE X ρ μ1 b fun μ2 y => ∃ i j, x = .int i ∧ y = .int j ∧ T μ2 (decide (i = j))) : WT X ρ μ (.Compare a [.Eq] [b] pos) T :=
  t_eq (h.imp fun μ1 x q => q.imp fun μ2 y ⟨i, j, ex, ey, p⟩ => ⟨_, _, _, ex, ey, rfl, p⟩)
theorem t_neI (h : WE X ρ μ a fun μ1 x => WE X ρ μ1 b fun μ2 y => ∃ i j, x = .int i ∧ y = .int j ∧ T μ2 (!decide (i = j))) : WT X ρ μ (.Compare a [.NotEq] [b] pos) T :=
  t_ne (h.imp fun μ1 x q => q.imp fun μ2 y ⟨i, j, ex, ey, p⟩ => ⟨_, _, _, ex, ey, rfl, p⟩)
theorem t_eqS (h : WE X ρ μ a fun μ1 x => WE X ρ μ1 b fun μ2 y => ∃ i j, x = .dat (.str i) ∧ y = .dat (.str j) ∧ T μ2 (decide (i = j))) : WT X ρ μ (.Compare a [.Eq] [b] pos) T :=
  t_eq (h.imp fun μ1 x q => q.imp fun μ2 y ⟨i, j, ex, ey, p⟩ => ⟨_, _, _, ex, ey, rfl, p⟩)
theorem t_eqD (hu : X.A.units + 64 < cLine) (h : WE X ρ μ a fun μ1 x => WE X ρ μ1 b fun μ2 y => ∃ d e, x = .dat d ∧ y = .dat e ∧ okD d ∧ okD e ∧ T μ2 (PyData.eqv d e)) : WT X ρ μ (.Compare a [.Eq] [b] pos) T :=
  t_cmp (op_eqD hu) (h.imp fun μ1 x q => q.imp fun μ2 y ⟨d, e, ex, ey, h1, h2, p⟩ v u H Q hv hu hm k => by
    subst ex ey
    exact ⟨d, e, TD.dp h1.2 hv, TD.dp h2.2 hu, h1.1, h2.1, k _ _ μ2 H hm (sv_bl _) (TEx.refl H) ⟨_, rfl, p⟩⟩)
theorem t_neD (hu : X.A.units + 64 < cLine) (h : WE X ρ μ a fun μ1 x => WE X ρ μ1 b fun μ2 y => ∃ d e, x = .dat d ∧ y = .dat e ∧ okD d ∧ okD e ∧ T μ2 (!PyData.eqv d e)) : WT X ρ μ (.Compare a [.NotEq] [b] pos) T :=
  t_cmp (op_neD hu) (h.imp fun μ1 x q => q.imp fun μ2 y ⟨d, e, ex, ey, h1, h2, p⟩ v u H Q hv hu hm k => by
    subst ex ey
    exact ⟨d, e, TD.dp h1.2 hv, TD.dp h2.2 hu, h1.1, h2.1, k _ _ μ2 H hm (sv_bl _) (TEx.refl H) ⟨_, rfl, p⟩⟩)
theorem t_isN {j p2} (h : WE X ρ μ a fun μ1 x => T μ1 (isNonS x)) : WT X ρ μ (.Compare a [.Is] [.Constant .none j p2] pos) T :=
  WT.of (pt_cmp (pc_isN pe_g) rfl) fun σ H Q hs hm k => h.g hs hm fun v x μ1 H1 m1 r1 t1 q1 => ⟨_, rfl, by rw [non_iff r1]; exact k _ _ _ m1 t1 q1⟩
theorem t_notN {j p2} (h : WE X ρ μ a fun μ1 x => T μ1 (!isNonS x)) : WT X ρ μ (.Compare a [.IsNot] [.Constant .none j p2] pos) T :=
  WT.of (pt_cmp (pc_notN pe_g) rfl) fun σ H Q hs hm k => h.g hs hm fun v x μ1 H1 m1 r1 t1 q1 => ⟨_, rfl, by rw [non_iff r1]; exact k _ _ _ m1 t1 q1⟩
end
end AV
-- text LyX1
set_option Elab.async false
set_option linter.all false
set_option maxRecDepth 100000
set_option maxHeartbeats 4000000
/-! sets of ints: the call over a list, the comprehension (lines of the worked proofs for tuples and for truth values, turned to lists and ints) -/
namespace AV
open PySem PySem.Spec PyProof.Rows L2 PpSet
section
variable {P : Program} {w : World} {A : Around} {E : Value → Shared → Prop} {s : Shared}
set_option maxHeartbeats 4000000 in
theorem call_set_listI {l : Addr} {items : Array Value} (ns : List Int) {Q : Value → Shared → Prop} (hh : A.handled = none) (hl : s.heap.IsList l items) (hit : IntsAre items.toList ns) (hb : ns.length + 1 < scanBound)
    (h : ∀ (h' : Heap) (tk c : Nat), SetR w h' s.heap.objs.size (fun j => decide (j ∈ ns)) c → c ≤ ns.length → (∀ b o, s.heap.get? b = some o → h'.get? b = some o) → Q (.ref s.heap.objs.size) { s with heap := h', toks := tk }) :
    wpAny (model P w) A (call (.type "set") [.ref l]) Q E s := by
  have hisz : items.size = ns.length := by
    have q := IntsAre.length hit
    rw [Array.length_toList] at q
    exact q
  obtain ⟨c, tl, hmro⟩ := F.called_set.mro
  have hmade := F.called_set.made
  have hsub := F.called_set.sub
  refine wpAny_call (codeAny_of_tree ?_)
  show wpAny _ _ (callAny (.type "set") _) _ _ _
  refine wpAny_pure ⟨Code.quiet_builtin _ (by decide +kernel), codeAny_builtin F.entry_type_call ?_⟩
  rw [Around.under_plain (weight_type_call_type "set" [.ref l] []) rfl]
  have h1 := F.called_set.notType
  have h2 := F.called_set.canCreate
  have hct := F.typeCall_set_1 (.ref l)
  repeat (any_goals (first | assumption | wp_step))

  refine codeAny_mono (code_set_led1 (.ref l) (E := E) (Q₁ := fun obj s₁ => obj = .ref s.heap.objs.size ∧ s₁ = { s with heap := s.heap.push { cls := .type "set", dict := none, data := .set #[] 0 (.fresh 0 0 (!w.params.followText "set-order")) } }) ⟨rfl, rfl⟩) fun r s₁ hr => ?_
  cases r with
  | error e => exact hr
  | ok fl =>
    cases fl with
    | ret obj =>
      obtain ⟨rfl, rfl⟩ := hr
      have hS : (s.heap.push { cls := .type "set", dict := none, data := .set #[] 0 (.fresh 0 0 (!w.params.followText "set-order")) }).get? s.heap.objs.size = some { cls := .type "set", dict := none, data := .set #[] 0 (.fresh 0 0 (!w.params.followText "set-order")) } := Heap.get?_push_size _ rfl
      have hT : Shared.TypeIs { s with heap := s.heap.push { cls := .type "set", dict := none, data := .set #[] 0 (.fresh 0 0 (!w.params.followText "set-order")) } } (.ref s.heap.objs.size) "set" := ⟨_, hS, rfl⟩
      have hli := F.called_set.init.lookup
      have hbi := F.called_set.init.bind (.ref s.heap.objs.size)
      repeat (any_goals (first | assumption | wp_step))

      refine codeAny_mono (codeAny_call_builtin (R := wants (fun r s₂ => r = .none ∧ ∃ h' tk c, s₂ = { s with heap := h', toks := tk } ∧ SetR w h' s.heap.objs.size (fun j => decide (j ∈ ns)) c ∧ c ≤ ns.length ∧
          (∀ b o, s.heap.get? b = some o → h'.get? b = some o)) E) F.called_set.init.plain F.entry_set_init (check_set_init_1 hT ?_)) fun r₂ s₂ hr₂ => ?_
      · obtain ⟨ol, hol, hcl, nl, hdl⟩ := hl
        obtain ⟨ocls, odict, odata, oslots⟩ := ol
        simp only at hcl hdl
        subst hcl; subst hdl
        have hol' : (s.heap.push { cls := .type "set", dict := none, data := .set #[] 0 (.fresh 0 0 (!w.params.followText "set-order")) }).get? l = some { cls := .type "list", dict := odict, data := .seq items nl, slots := oslots } := Heap.get?_push_of_some _ hol
        have hsls := F.sub_list_set
        have hslf := F.sub_list_frozenset
        have hne : (Value.type "list" == Value.type "dict") = false := by decide
        have hl1 : (s.heap.push { cls := .type "set", dict := none, data := .set #[] 0 (.fresh 0 0 (!w.params.followText "set-order")) }).IsList l items := ⟨_, hol', rfl, nl, rfl⟩
        unfold Builtin.«set.__init__» noKeywords Builtin.Frozenset.updateFrom
        generalize hPI : pyIter = PI
        wp_walk
        subst hPI

        refine wpAny_pyIter_list hl1 ?_
        refine wpAny_bind (wpAny_runValue ?_)
        have hlS : l < s.heap.objs.size := Heap.lt_size hol
        have hh3 : A.in1.in1.in1.handled = none := by simp [hh]
        have hz1 : (s.heap.push { cls := .type "set", dict := none, data := .set #[] 0 (.fresh 0 0 (!w.params.followText "set-order")) }).objs.size = s.heap.objs.size + 1 := Heap.size_push ..
        have hneI : l ≠ (s.heap.push { cls := .type "set", dict := none, data := .set #[] 0 (.fresh 0 0 (!w.params.followText "set-order")) }).objs.size := by
          rw [Heap.size_push]; exact Nat.ne_of_lt (Nat.lt_succ_of_lt hlS)
        have hSf : s.heap.objs.size ∉ [(s.heap.push { cls := .type "set", dict := none, data := .set #[] 0 (.fresh 0 0 (!w.params.followText "set-order")) }).objs.size, l] := by
          rw [Heap.size_push]; simp only [List.mem_cons, List.mem_singleton, List.not_mem_nil, or_false, not_or]
          exact ⟨Nat.ne_of_lt (Nat.lt_succ_self _), Nat.ne_of_gt hlS⟩
        have hval : ∀ (i : Nat) (v : Value), items[i]? = some v → ∃ k t, ns[i]? = some k ∧ v = .int k t := fun i v hv => by
          have hi : i < ns.length := by rw [← hisz]; exact (Array.getElem?_eq_some_iff.mp hv).1
          obtain ⟨t, e⟩ := PyProof.Rows.IntsAre.int_at hit i v (by rw [Array.getElem?_toList]; exact hv)
          refine ⟨ns[i], t, List.getElem?_eq_getElem hi, ?_⟩
          rw [e, List.getD_eq_getElem?_getD, List.getElem?_eq_getElem hi] <;> rfl
        refine set_update_ints ((Walks.list hh3 _ l hneI items).toS) s.heap.objs.size
          hSf ns hisz hb hval (items.size - 0) 0 _ (by omega) (Nat.zero_le _)
          ⟨⟨_, Heap.get?_push_size _ rfl, rfl, rfl⟩, (hl1.push _)⟩ ?hS0 ?hR
        case hS0 =>
          have hget : ((s.heap.push { cls := .type "set", dict := none, data := .set #[] 0 (.fresh 0 0 (!w.params.followText "set-order")) }).push { cls := .type "list_iterator", data := .fields #[.ref l, .int 0 0] }).get? s.heap.objs.size
              = some { cls := .type "set", dict := none, data := .set #[] 0 (.fresh 0 0 (!w.params.followText "set-order")) } := Heap.get?_push_of_some _ hS
          exact ⟨0, Nat.le_refl 0, setR_new_at hget⟩
        case hR =>
          intro s' c' hm hc' hS'
          obtain ⟨h', g2, d', tk', os'⟩ := s'
          have eg : g2 = s.gens := hm.gens
          have ed : d' = s.drawn := hm.drawn
          have eo : os' = s.os := hm.os
          subst eg; subst ed; subst eo
          show wpAny _ _ _ _ _ _
          refine wpAny_pure ?_
          show wpAny _ _ (ret Value.none) _ _ _
          rw [hisz] at hc'
          refine wpAny_pure ⟨rfl, h', tk', c', rfl, hS', hc', fun b o e => ?_⟩
          have hb0 : b < s.heap.objs.size := Heap.lt_size e
          have hb1 : b ≠ s.heap.objs.size := Nat.ne_of_lt hb0
          have hb2 : b ≠ (s.heap.push { cls := .type "set", dict := none, data := .set #[] 0 (.fresh 0 0 (!w.params.followText "set-order")) }).objs.size := by
            rw [Heap.size_push]; exact Nat.ne_of_lt (Nat.lt_succ_of_lt hb0)
          exact hm.heap b o (by simp only [List.mem_cons, List.mem_singleton, List.not_mem_nil, or_false, not_or]; exact ⟨hb1, hb2⟩) (Heap.get?_push_of_some _ (Heap.get?_push_of_some _ e))

      · cases r₂ with
        | error e => exact hr₂
        | ok fl₂ =>
          cases fl₂ with
          | ret r =>
            obtain ⟨rfl, h', tk, c', rfl, hS', hc', hk'⟩ := hr₂
            repeat (any_goals (first | assumption | wp_step))
            exact h _ _ _ hS' hc' hk'
          | _ => exact hr₂.elim
    | _ => exact hr.elim

end
section
variable {X : Cx}
def rSetL (w : World) (K : PySem.W.Frag) : List V → Hp → VK → Prop := fun xs H Q => ∃ (l : Addr) (ns : List Int), xs = [.ref l] ∧ SqL K H l (ns.map V.int) ∧ ns.length ≤ 1000 ∧
  ∀ p c, H p = none → c ≤ ns.length → Q (.ref p) (upd H p (SetO w p (fun j => decide (j ∈ ns)) c))
theorem cr_setL (hc : X.calm = true) : CallR X (.type "set") (rSetL X.w X.K) := by
  intro pins s σ H xs us Q I r h
  obtain ⟨l, ns, rfl, hs, hn, q⟩ := h
  obtain ⟨its, rv, hl, _⟩ := I.list hs
  rw [Vals.ref1 r]
  have hi := ints_of_vals rv
  refine call_set_listI (items := its.toArray) ns (I.ok.hd hc) hl.isList hi (by unfold scanBound; omega) fun h' tk c R1 hcn k => ?_
  exact ⟨.ref _, upd H s.heap.objs.size (SetO X.w s.heap.objs.size (fun j => decide (j ∈ ns)) c), I.laid (t' := tk) (fun b u e => k b u e) (Nat.le_refl _) (setO_new R1), rfl, q _ _ (I.hok.fresh (Nat.le_refl _)) hcn⟩
theorem addI_ok {pins : List (Addr × Obj)} {σ : L2.St} {H : Hp} {s : Shared} {E : Value → Shared → Prop} {D : Addr} {S : Int → Bool} {n : Nat} {y : Int} {t : Tok} {Q : Value → Shared → Prop} (I : Inv X pins σ H s) (hD : H D = some (SetO X.w D S n)) (room : n + 1 < scanBound)
    (h : ∀ s', Inv X pins σ (upd H D (SetO X.w D (fun j => S j || decide (j = y)) (if S y = true then n else n + 1))) s' → Q .none s') : wpAny (model X.prog X.w) X.A (call (.builtin "set.add") [.ref D, .int y t]) Q E s := by
  have R := setO_get I hD
  refine setR_add R room fun h' sb new => ?_
  have he : ∃ u, h'.get? D = some u := by
    have ⟨o, _, _, _, ho, _⟩ := new
    exact ⟨o, ho⟩
  exact h _ (I.write (e := D) (t' := s.toks + 1) (by rw [hD]; trivial) (.inl rfl) (fun b u hb hu => (sb.2 b hb).trans hu) he (setO_new new))
/-- {elt for target in iter if ..}, elt an int: D the new set -/
def tScI (w : World) (wi : TI) (g : TG) (tt : TT) (te : TE) (vs : List Nat) : TE := fun σ H Q => wi σ H fun J H1 => ∀ D, H1 D = none → ∃ W : Nat → Nat → Hp → Prop, (∃ m, W 0 m (upd H1 D (SetO w D (fun _ => false) 0))) ∧ ∀ i m H, W i m H →
  (J.stop i H ∧ Q (.ref D) H) ∨ (J.go i H ∧ ∃ Nx : Hp → Prop, (∀ H', Nx H' → ∃ m', m' < m ∧ W (i + 1) m' H') ∧ ∀ x H', J.yld i H x H' → g x (wipe σ vs) H' fun σ2 H2 => wipe σ2 vs = wipe σ vs ∧ tt σ2 H2 fun b H3 =>
    if b = true then te σ2 H3 fun y H4 => ∃ (c : Int) (S : Int → Bool) (n : Nat), y = .int c ∧ H4 D = some (SetO w D S n) ∧ n + 1 < scanBound ∧ Nx (upd H4 D (SetO w D (fun j => S j || decide (j = c)) (if S c = true then n else n + 1))) else Nx H3)
theorem sc_coreI {pins : List (Addr × Obj)} {s : Shared} {σ : L2.St} {H : Hp} {Q : VK} {elt tg iter : Expr} {ifs : List Expr} {scope : Scope} {own : List (PySem.Str × Nat)} {pos pos' : Pos} {wi : TI} {g : TG} {tt : TT} {te : TE} {use : Option (Value → Sem Unit)} {Qf : Value → Shared → Prop}
    (hc : X.calm = true) (hN : X.N.Nodup) (I : Inv X pins σ H s) (hi : PI X tg iter wi) (ok : BlkOk X.N X.env.scope scope own)
    (hg : ∀ (s : Shared) (H : Hp) (C : Addr) (cl : List (PySem.Str × Addr)) (fp : List Addr), PG (X.blk s H scope (compEnvC scope cl C X.env) fp) tg g) (ht : ∀ (s : Shared) (H : Hp) (C : Addr) (cl : List (PySem.Str × Addr)) (fp : List Addr), PTs (X.blk s H scope (compEnvC scope cl C X.env) fp) ifs tt)
    (he : ∀ (s : Shared) (H : Hp) (C : Addr) (cl : List (PySem.Str × Addr)) (fp : List Addr), PE (X.blk s H scope (compEnvC scope cl C X.env) fp) elt te) (hs : ∀ x, foldedSetIterable iter X.env x = pure x)
    (h : tScI X.w wi g tt te (own.map (·.2)) σ H Q)
    (hRR : ∀ D C s' m H', Inv X pins σ H' s' → Q (.ref D) H' → s'.heap.Ns C m → FpOk X pins H' C → compPost (model X.prog X.w) X.A X.xe use Qf (.ref D) C (.ok .next) s') :
    wpAny (model X.prog X.w) X.A (comprehension (.SetComp elt [⟨tg, iter, ifs, 0⟩] scope pos) scope X.env pos' (newSet (.type "set")) false (eval iter X.env) use) Qf X.xe s := by
  have hfree : ∀ y ∈ scope.names, y.2 = .free → ∃ c, X.env.cells.lookup y.1 = some c := fun y hy e => by
    rcases ok.free y hy e with k | k
    · exact I.ok.has _ (.inl k)
    · exact I.ok.has _ (.inr k)
  refine wpAny_comprehension_free (use := use) rfl hs (closure_ok hfree) ok.kind (fun y hy e => by rw [ok.uniq y hy, e])
    (thn (hi.run pins s σ H _ I h) fun xv s1 hx => thn hx fun itv s2 h2 => ?_)
  obtain ⟨it, fp, tn, J, H2, e, I2, T, st2, f2, q⟩ := h2
  subst e
  refine newSet_ok (newEnv_comp ?_)
  generalize hD : s2.heap.objs.size = D
  have hDn : H2 D = none := I2.hok.fresh (Nat.le_of_eq hD)
  obtain ⟨W, ⟨m0, w0⟩, turn⟩ := q D hDn
  -- the new list
  generalize hs3 : ({ s2 with heap := s2.heap.push { cls := .type "set", dict := none, data := .set #[] 0 (.fresh 0 0 (!X.w.params.followText "set-order")) } } : Shared) = s3
  have I3 : Inv X pins σ (upd H2 D (SetO X.w D (fun _ => false) 0)) s3 := by
    rw [← hs3]
    refine I2.laid (t' := s2.toks) (fun b o e => Heap.get?_push_of_some _ e) (Nat.le_of_eq hD) ?_
    rw [← hD]
    exact setO_new (setR_fresh X.w)
  have h3 : s3.heap = s2.heap.push { cls := .type "set", dict := none, data := .set #[] 0 (.fresh 0 0 (!X.w.params.followText "set-order")) } := by rw [← hs3]
  have sz : ∀ b ∈ fp, b < s2.heap.objs.size := fun b hb => by
    obtain ⟨o, e, _⟩ := T.obj _ _ st2 b hb
    exact Heap.lt_size e
  have f3 : ∀ b ∈ fp, FpOk X pins (upd H2 D (SetO X.w D (fun _ => false) 0)) b ∧ b < s3.heap.objs.size := fun b hb => by
    have hlt := sz b hb
    refine ⟨⟨?_, (f2 b hb).2⟩, by rw [h3, Heap.size_push]; exact Nat.lt_succ_of_lt hlt⟩
    rw [upd_ne (by rw [← hD]; exact Nat.ne_of_lt hlt)]
    exact (f2 b hb).1
  have st3 : tn 0 s3.heap := T.keep _ _ _ st2 fun b _ o e => by rw [h3]; exact Heap.get?_push_of_some _ e
  have I4 := block_start I3 ok hN f3
  have pg := hg s3 (upd H2 D (SetO X.w D (fun _ => false) 0)) s3.heap.objs.size (cellsFrom (s3.heap.objs.size + 1) scope.names (cloFrom X.env.cells scope.names [])) fp
  have pt := ht s3 (upd H2 D (SetO X.w D (fun _ => false) 0)) s3.heap.objs.size (cellsFrom (s3.heap.objs.size + 1) scope.names (cloFrom X.env.cells scope.names [])) fp
  have pe := he s3 (upd H2 D (SetO X.w D (fun _ => false) 0)) s3.heap.objs.size (cellsFrom (s3.heap.objs.size + 1) scope.names (cloFrom X.env.cells scope.names [])) fp
  show codeAny _ _ (.compStart (.SetComp elt [⟨tg, iter, ifs, 0⟩] scope pos) 0 (.ref it) (.ref D) (compEnvC scope (cellsFrom (s3.heap.objs.size + 1) scope.names (cloFrom X.env.cells scope.names [])) s3.heap.objs.size X.env)) (compPost (model X.prog X.w) X.A X.xe use Qf (.ref D) s3.heap.objs.size) { s3 with heap := pushCells (s3.heap.push { cls := .type "dict", data := .dict #[] }) scope.names }
  have nfp : ∀ b ∈ fp, (upd H2 D (SetO X.w D (fun _ => false) 0)) b = none := fun b hb => (f3 b hb).1.1
  generalize hce : compEnvC scope (cellsFrom (s3.heap.objs.size + 1) scope.names (cloFrom X.env.cells scope.names [])) s3.heap.objs.size X.env = ce at I4 pg pt pe ⊢
  have cL : ce.locals = s3.heap.objs.size := by subst hce; rfl
  generalize hH3 : upd H2 D (SetO X.w D (fun _ => false) 0) = H3 at I3 I4 pg pt pe w0 nfp f3
  generalize hs4 : ({ s3 with heap := pushCells (s3.heap.push { cls := .type "dict", data := .dict #[] }) scope.names } : Shared) = s4 at I4 ⊢
  have st4 : tn 0 s4.heap := T.keep _ _ _ st3 fun b _ o e => by rw [← hs4]; exact pushCells_keeps _ _ _ _ (Heap.get?_push_of_some _ e)
  have stat : ∀ {σ' : L2.St} {H' : Hp} {s' : Shared}, Inv (X.blk s3 H3 scope ce fp) [] σ' H' s' → (∀ b ∈ fp, H' b = none) → ∀ b ∈ fp, FpOk (X.blk s3 H3 scope ce fp) [] H' b := fun {σ' H' s'} I' hn b hb =>
    ⟨hn b hb, (I'.ok.exf b hb).1, I'.ok.exfs b hb, .inl hb, fun x c e => (I'.ok.exf b hb).2 x c e, fun p hp => absurd (show p ∈ ([] : List (Addr × Obj)) ++ [] from hp) (by simp)⟩
  have loop : codeAny (model X.prog X.w) X.A (.compLoop (.SetComp elt [⟨tg, iter, ifs, 0⟩] scope pos) 0 (.ref it) (.ref D) ce) (compPost (model X.prog X.w) X.A X.xe use Qf (.ref D) s3.heap.objs.size) s4 := by
    refine compLoopS_any (fun n s' => ∃ i H', Inv (X.blk s3 H3 scope ce fp) [] (wipe σ (own.map (·.2))) H' s' ∧ tn i s'.heap ∧ (∀ b ∈ fp, H' b = none) ∧ W i n H') ?_ m0 ⟨0, H3, I4, st4, nfp, w0⟩
    rintro n s5 ⟨i, H5, I5, st5, n5, w5⟩
    rcases turn i n H5 w5 with ⟨stop, qq⟩ | ⟨go, Nx, hNx, step⟩
    · have td := T.done (X.blk s3 H3 scope ce fp) rfl rfl rfl hc i [] s5 _ H5 (fun _ _ => False) I5 (stat I5 n5) st5 stop
      refine thnF td fun r s6 ⟨hr, I6⟩ => ?_
      subst hr
      -- back in the def's context
      have I7 : Inv X pins σ H5 s6 := I3.call' (ch := fp) I6.os I6.base I6.hok I6.bare fun b hb => ⟨(f3 b hb).1.2.2.2.1, (f3 b hb).1.2.1, (f3 b hb).1.2.2.2.2.1, (f3 b hb).1.2.2.2.2.2⟩
      have nC : H5 s3.heap.objs.size = none := by
        have z : H5 ce.locals = none := I6.free
        rw [cL] at z
        exact z
      obtain ⟨m, hn, _⟩ := I6.loc
      have hn : s6.heap.Ns ce.locals m := hn
      rw [cL] at hn
      exact hRR D s3.heap.objs.size s6 m H5 I7 qq hn (I3.fpOk (Nat.le_refl _) nC)
    · have ti := T.item (X.blk s3 H3 scope ce fp) rfl rfl rfl hc i [] s5 _ H5 (fun _ _ => False) I5 (stat I5 n5) st5 go
      refine thnF ti fun r s6 ⟨u, hr, h6⟩ => ?_
      subst hr
      refine thnF h6 fun _ s7 ⟨x, H7, I7, r7, y7, st7, n7⟩ => ?_
      have I7' := I7.pinned (stat I7 n7) (T.obj _ _ st7)
      refine thnF (pg.run _ s7 _ H7 x u _ I7' r7 (step x H7 y7)) fun _ s8 ⟨σ8, H8, I8, hw8, q8⟩ => ?_
      refine thnF (pt.run _ s8 σ8 H8 _ I8 q8) fun b s9 ⟨H9, I9, q9⟩ => ?_
      -- the turn's end
      have fin : ∀ {s' : Shared} {H' : Hp}, Inv (X.blk s3 H3 scope ce fp) ([] ++ pinsAt fp s7.heap) σ8 H' s' → Nx H' → ∃ m, m < n ∧ ∃ i H', Inv (X.blk s3 H3 scope ce fp) [] (wipe σ (own.map (·.2))) H' s' ∧ tn i s'.heap ∧ (∀ b ∈ fp, H' b = none) ∧ W i m H' := fun {s' H'} I' nx => by
        obtain ⟨m', hm, w'⟩ := hNx H' nx
        have pin' : ∀ b ∈ fp, ∀ o, s7.heap.get? b = some o → s'.heap.get? b = some o ∧ H' b = none := fun b hb o e =>
          let z := I'.pin (b, o) (List.mem_append_right _ (List.mem_append_right _ (mem_pinsAt hb e)))
          ⟨z.1, z.2.1⟩
        have hl : (wipe σ (own.map (·.2))).length = σ8.length := by rw [← hw8, wipe_length]
        refine ⟨m', hm, i + 1, H', (I'.unpinned (pins := [])).weak hl (fun j v e => ?_), T.keep _ _ _ st7 fun b hb o e => (pin' b hb o e).1, fun b hb => ?_, w'⟩
        · rw [← hw8] at e
          exact (wipe_some e).1
        · obtain ⟨o, e, _⟩ := T.obj _ _ st7 b hb
          exact (pin' b hb o e).2
      cases b with
      | false =>
        simp only [Bool.false_eq_true, if_false] at q9 ⊢
        exact fin I9 q9
      | true =>
        simp only [if_true] at q9 ⊢
        refine thnF (pe.run _ s9 σ8 H9 _ I9 q9) fun z s10 ⟨yv, H10, I10, r10, cb, S0, n0, ey, hD10, hz10, nx⟩ => ?_
        subst ey
        obtain ⟨tz, rfl⟩ := (show ∃ t, z = Value.int cb t from r10)
        exact addI_ok (X := X.blk s3 H3 scope ce fp) I10 hD10 hz10 fun s11 I11 => fin I11 nx
  exact codeAny_compStart_set loop (T.self X.A 0 _ _ _ st4 loop)
/-- as a value -/
theorem pe_scI {elt tg iter : Expr} {ifs : List Expr} {scope : Scope} {own : List (PySem.Str × Nat)} {pos : Pos} {wi : TI} {g : TG} {tt : TT} {te : TE} (hc : X.calm = true) (hN : X.N.Nodup) (hi : PI X tg iter wi) (ok : BlkOk X.N X.env.scope scope own)
    (hg : ∀ (s : Shared) (H : Hp) (C : Addr) (cl : List (PySem.Str × Addr)) (fp : List Addr), PG (X.blk s H scope (compEnvC scope cl C X.env) fp) tg g) (ht : ∀ (s : Shared) (H : Hp) (C : Addr) (cl : List (PySem.Str × Addr)) (fp : List Addr), PTs (X.blk s H scope (compEnvC scope cl C X.env) fp) ifs tt)
    (he : ∀ (s : Shared) (H : Hp) (C : Addr) (cl : List (PySem.Str × Addr)) (fp : List Addr), PE (X.blk s H scope (compEnvC scope cl C X.env) fp) elt te) (hs : ∀ x, foldedSetIterable iter X.env x = pure x := by intro _; rfl) :
    PE X (.SetComp elt [⟨tg, iter, ifs, 0⟩] scope pos) (tScI X.w wi g tt te (own.map (·.2))) := by
  refine ⟨fun pins s σ H Q I h => ?_⟩
  rw [eval_SetComp]
  refine sc_coreI hc hN I hi ok hg ht he hs h fun D C s' m H' I' q hn f => ⟨m, hn, fun h'' sb => ?_⟩
  obtain ⟨f0, f1, f2, f3, f4, f5⟩ := f
  exact ⟨.ref D, H', I'.turned (t' := s'.toks) (fun b o hb e => (sb.2 b hb).trans e) f0 f1 f3 f4 f5, rfl, q⟩
end
end AV
-- text LyX2
set_option Elab.async false
set_option linter.all false
set_option maxRecDepth 100000
set_option maxHeartbeats 4000000
/-! enumerate over a tuple; a tuple times any int; the place of a flat thing in a tuple (lines of the worked proofs for lists and texts, turned to tuples) -/
namespace AV
open PySem PySem.Spec PyProof.Rows L2

/-! ### enumerate(tuple) -/
theorem meets_enumerate_newT (t0 : Addr) (items : Array Value) :
    Meets (Builtin.«enumerate.__new__» ⟨[.type "enumerate", .ref t0], []⟩) (fun _ R s => s.heap.IsTuple t0 items ∧
      R (.ok (.ret (.ref (s.heap.push { cls := .type "tuple_iterator", data := .fields #[.ref t0, .int 0 0] }).objs.size)))
        { s with heap := (s.heap.push { cls := .type "tuple_iterator", data := .fields #[.ref t0, .int 0 0] }).push { cls := .type "enumerate", data := .fields #[.none, .bool false, .ref s.heap.objs.size, rawInt 0, .none, .none] } }) :=
  .of_wp fun prog w A R s h => by
    obtain ⟨hp, g, d, tk, os⟩ := s
    obtain ⟨h1, h⟩ := h
    have hsub := sub_enumerate
    have q1 : ∀ {A' : Around} {E : Value → Shared → Prop} {Q : Value → Shared → Prop}, Q (.ref hp.objs.size) ⟨hp.push { cls := .type "tuple_iterator", data := .fields #[.ref t0, .int 0 0] }, g, d, tk, os⟩ → wpAny (model prog w) A' (pyIter (.ref t0)) Q E ⟨hp, g, d, tk, os⟩ :=
      fun q => (begins_tuple t0 items).iter prog w _ _ ⟨hp, g, d, tk, os⟩ _ h1 q
    wp_walk using q1
    refine wpAny_stack_any fun st => wpAny_pure ?_
    split
    · rename_i c _ _ _ _ _
      cases (c == Value.type "enumerate")
      · wp_walk using q1
        exact ⟨_, rfl, h⟩
      · wp_walk using q1
        exact ⟨_, rfl, h⟩
    · wp_walk using q1
      exact ⟨_, rfl, h⟩
section
variable {prog : Program} {w : World} {A : Around} {E : Value → Shared → Prop} {s : Shared}
theorem call_enumerate_tup {l : Addr} {items : Array Value} {Q : Value → Shared → Prop} (hL : s.heap.IsTuple l items)
    (h : ∀ h', IsEnum h' (s.heap.objs.size + 1) s.heap.objs.size 0 .none → h'.IsTupleIter s.heap.objs.size l 0 → h'.objs.size = s.heap.objs.size + 2 →
      (∀ b o, s.heap.get? b = some o → h'.get? b = some o) → Q (.ref (s.heap.objs.size + 1)) { s with heap := h' }) :
    wpAny (model prog w) A (call (.type "enumerate") [.ref l]) Q E s := by
  refine callType_new F.called_enumerate (by decide) (F.typeCall_enumerate_1 _) (F.newCall_enumerate_1 _) (fun obj => F.args_object_init_2 obj _) F.entry_enumerate_new
    (meets_enumerate_newT l items) ⟨hL, ?_⟩
  have hz : (s.heap.push { cls := .type "tuple_iterator", data := .fields #[.ref l, .int 0 0] }).objs.size = s.heap.objs.size + 1 := Heap.size_push ..
  show _ ∧ _
  rw [hz]
  have he : IsEnum ((s.heap.push { cls := .type "tuple_iterator", data := .fields #[.ref l, .int 0 0] }).push
      { cls := .type "enumerate", data := .fields #[.none, .bool false, .ref s.heap.objs.size, rawInt 0, .none, .none] }) (s.heap.objs.size + 1) s.heap.objs.size 0 .none := by
    have := Heap.get?_push_size (s.heap.push { cls := .type "tuple_iterator", data := .fields #[.ref l, .int 0 0] })
      (o := { cls := .type "enumerate", data := .fields #[.none, .bool false, .ref s.heap.objs.size, rawInt 0, .none, .none] }) rfl
    rw [hz] at this; exact this
  refine ⟨⟨_, he, rfl⟩, h _ he ⟨_, Heap.get?_push_of_some _ (Heap.get?_push_size _ rfl), rfl, rfl⟩ (by rw [Heap.size_push, hz]) fun b o x => Heap.get?_push_of_some _ (Heap.get?_push_of_some _ x)⟩
end
/-- the tuple at a, each item in a new pair -/
def Itet (K : PySem.W.Frag) (a : Addr) : It :=
  ⟨fun i H => ∃ (xs : List V) (x : V), SqT K H a xs ∧ xs[i]? = some x, fun i H v H' => ∃ T x, v = .ref T ∧ H T = none ∧ H' = upd H T (.tup [.int (i : Nat), x]) ∧ ∀ xs, SqT K H a xs → xs[i]? = some x, fun i H => ∃ xs : List V, SqT K H a xs ∧ xs.length = i⟩
theorem turn_enumT {P : Program} {w : World} {K : PySem.W.Frag} {elts : List Expr} {kk : Nat} {tpos : Pos} (a e it : Addr) (items : Array Value) :
    Turn P w K (.Tuple elts kk tpos) (Itet K a) [e, it] e (fun i h => (∃ old, IsEnum h e it ((i : Nat) : Int) old) ∧ h.IsTupleIter it a i ∧ e ≠ it) where
  mem := by simp
  obj := fun i h st b hb => by
    obtain ⟨⟨old, he⟩, ⟨o, ho, hc, hd⟩, _⟩ := st
    have e' : b = e ∨ b = it := by simpa using hb
    rcases e' with z | z
    · rw [z]; exact ⟨_, he, fun v q => nomatch q⟩
    · rw [z]; exact ⟨o, ho, fun v q => by rw [hd] at q; cases q⟩
  keep := fun i h h' st k => let ⟨⟨old, he⟩, hi, hne⟩ := st; ⟨⟨old, k e (by simp) _ he⟩, hi.at fun o q => k it (by simp) o q, hne⟩
  item := by
    intro X hP hw hK hc i pins s σ H E I hf st hg
    subst hP hw hK
    obtain ⟨⟨old, he⟩, hit, hne⟩ := st
    obtain ⟨xs, x, hq, hx⟩ := hg
    obtain ⟨its, rv, p, hz⟩ := I.tuple hq
    obtain ⟨u, hu, ru⟩ := rv.get hx
    have hel : e < s.heap.objs.size := Heap.lt_size he
    have hil : it < s.heap.objs.size := by obtain ⟨_, q, _⟩ := hit; exact Heap.lt_size q
    have ht : s.heap.IsTuple a its.toArray := p
    have hne' : a ≠ it := by
      intro z
      subst z
      obtain ⟨o, ho, hc1, _⟩ := hit
      obtain ⟨o2, ho2, hc2, _⟩ := ht
      rw [ho] at ho2
      cases ho2
      rw [hc1] at hc2
      exact absurd hc2 (by decide)
    have hea : e ∉ [it, a] := by
      intro z
      rcases List.mem_cons.mp z with z | z
      · exact hne z
      · have z := List.mem_singleton.mp z
        subst z
        obtain ⟨o2, ho2, hc2, _⟩ := ht
        have := he.symm.trans ho2
        cases this
        exact absurd (show Value.type "enumerate" = Value.type "tuple" from hc2) (by decide)
    have hii : i < its.toArray.size := by
      rw [List.size_toArray]
      exact (List.getElem?_eq_some_iff.mp hu).1
    refine wpAny_pyNext_enum_itemD (Draws.tuple (A := X.A.in1) (by simpa using I.ok.hd hc) it a hne' its.toArray) he ⟨hit, ht⟩ hii hne hea fun x' h' tk hp ho hst' hT hsz hk => ?_
    have ex : x' = u := by
      have hp : its.toArray[i]? = some x' := hp
      rw [List.getElem?_toArray, hu] at hp
      exact (Option.some.inj hp).symm
    subst ex
    obtain ⟨hit', _⟩ := hst'
    refine ⟨_, rfl, wpAny_letOwnedTupleGo_enum (s := { s with heap := h', toks := tk + 1 }) ho fun h'' he' sb => ?_⟩
    have hT2 : h''.get? s.heap.objs.size = some { cls := .type "tuple", data := .seq #[.int i tk, x'] } := (sb.2 _ (Nat.ne_of_gt hel)).trans hT
    have new : ObjOk X.prog X.w (upd H s.heap.objs.size (.tup [.int (i : Nat), x])) h'' s.heap.objs.size (.tup [.int (i : Nat), x]) :=
      ⟨by show 2 ≤ sizeLine; decide, [.int i tk, x'], .cons ⟨_, rfl⟩ (.cons ru .nil), ⟨_, hT2, rfl, _, rfl⟩⟩
    have I1 : Inv X pins σ (upd H s.heap.objs.size (.tup [.int (i : Nat), x])) { s with heap := h'', toks := tk + 1 } :=
      I.turnedNew (ch := [e, it]) (fun b ob hb q => (sb.2 b (fun z => hb (by simp [z]))).trans (hk b ob (fun z => hb (by simp [z])) (fun z => hb (by simp [z])) q)) hf (Nat.le_refl _) new
    refine ⟨.ref s.heap.objs.size, _, I1, rfl, ⟨_, x, rfl, I.hok.fresh (Nat.le_refl _), rfl, fun ys hy => by rw [I.tuple_inj hy hq]; exact hx⟩, ⟨⟨x', ?_⟩, hit'.at fun o q => (sb.2 it (Ne.symm hne)).trans q, hne⟩, fun b hb => ?_⟩
    · have e1 : ((i + 1 : Nat) : Int) = (i : Int) + 1 := by omega
      rw [e1]; exact he'
    · have hb' : b < s.heap.objs.size := by
        have e' : b = e ∨ b = it := by simpa using hb
        rcases e' with z | z
        · rw [z]; exact hel
        · rw [z]; exact hil
      rw [upd_ne (Nat.ne_of_lt hb')]
      exact (hf b hb).1
  done := by
    intro X hP hw hK hc i pins s σ H E I hf st hg
    subst hP hw hK
    obtain ⟨⟨old, he⟩, hit, hne⟩ := st
    obtain ⟨xs, hq, hx⟩ := hg
    obtain ⟨its, rv, p, hz⟩ := I.tuple hq
    obtain ⟨f0, f1, f2, f3, f4, f5⟩ := hf it (by simp)
    have hl := rv.length
    have ht : s.heap.IsTuple a its.toArray := p
    have hne' : a ≠ it := by
      intro z
      subst z
      obtain ⟨o, ho, hc1, _⟩ := hit
      obtain ⟨o2, ho2, hc2, _⟩ := ht
      rw [ho] at ho2
      cases ho2
      rw [hc1] at hc2
      exact absurd hc2 (by decide)
    have hin : i = its.toArray.size := by simp; omega
    subst hin
    exact wpAny_pyNext_enum_endD (Draws.tuple (A := X.A.in1) (by simpa using I.ok.hd hc) it a hne' its.toArray) he ⟨hit, ht⟩ fun h' eb => ⟨rfl, I.turned (t' := s.toks) (fun b o hb q => eb b o hb q) f0 f1 f3 f4 f5⟩
  self := fun A i s Q E st h => let ⟨⟨_, he⟩, _⟩ := st; wpAny_pyIter_enum he h
def iEnumT (K : PySem.W.Frag) (ta : TA) : TI := fun σ H R => ta σ H fun vs H1 => ∃ a xs, vs = [.ref a] ∧ SqT K H1 a xs ∧ R (Itet K a) H1
theorem pi_enumT {X : Cx} {e : Expr} {ta : TA} {p pos tpos : Pos} {elts : List Expr} {kk : Nat} (hg : Gl X "enumerate") (hm : X.mg "enumerate" = none) (ha : PA X [e] ta) (hs : starEach [e] X.env = [(false, eval e X.env)] := by rfl) :
    PI X (.Tuple elts kk tpos) (.Call (.Name "enumerate" p) [e] [] pos) (iEnumT X.K ta) := by
  refine ⟨fun pins s σ H R I h => ?_⟩
  refine Call_ (ld_blt I hg hm boot_enumerate (PyProof.Rows.callWith_type1 (thn (ha.run pos pins s σ H _ I h) fun us s1 ⟨vs, H1, I1, r1, q1⟩ => ?_) hs rfl))
  obtain ⟨a, xs, ex, hq, q⟩ := q1
  subst ex
  cases r1 with
  | cons r rr =>
    cases rr
    cases r
    obtain ⟨its, rv, p', hz⟩ := I1.tuple hq
    refine call_enumerate_tup (items := its.toArray) p' fun h' he hit hsz hk => wpAny_pyIter_enum he ?_
    have I2 : Inv X pins σ H1 { s1 with heap := h' } := I1.kept (t' := s1.toks) hk
    refine ⟨s1.heap.objs.size + 1, [s1.heap.objs.size + 1, s1.heap.objs.size], _, _, H1, rfl, I2, turn_enumT a (s1.heap.objs.size + 1) s1.heap.objs.size its.toArray, ⟨⟨.none, he⟩, hit, Nat.succ_ne_self _⟩, fun b hb => ?_, q⟩
    have e' : b = s1.heap.objs.size + 1 ∨ b = s1.heap.objs.size := by simpa using hb
    have hle : s1.heap.objs.size ≤ b := by
      rcases e' with z | z
      · rw [z]; exact Nat.le_add_right _ _
      · rw [z]; exact Nat.le_refl _
    exact I1.fpOk hle (I1.hok.fresh hle)
section
variable {X : Cx} {ρ : Rho} {μ : Mu} {a tg iter : Expr} {pos : Pos} {P : PW'}
def YEd (ds : List PyData) : Nat → Item → Prop := fun i x => ∃ d, ds[i]? = some d ∧ x = .tp [.int (i : Int), .dat d]
theorem i_enumT {p tpos : Pos} {elts : List Expr} {kk : Nat} (hm : X.mg "enumerate" = none) (h : WE X ρ μ a fun μ1 x => ∃ ds, x = .tup ds ∧ P μ1 ds.length (YEd ds) (fun _ => True)) (hg : Gl X "enumerate" := by rfl)
    (he : starEach [a] X.env = (false, eval a X.env) :: starEach [] X.env := by rfl) : WI X ρ μ (.Tuple elts kk tpos) (.Call (.Name "enumerate" p) [a] [] pos) P :=
  WI.of (pi_enumT hg hm (pa_cons pe_g pa_nil he) he) fun σ H R hs hm k => h.g hs hm fun v x μ1 H1 m1 r1 t1 ⟨ds, ex, q⟩ => by
    subst ex
    obtain ⟨l, vs, rfl, s1, ts⟩ := TD.tup_inv r1
    refine ⟨l, vs, rfl, s1, k _ _ _ _ _ _ m1 t1 ⟨fun i H μ hi e m g => ?_, fun H μ e m g => ?_, fun i H x H' μ hi e m g y => ?_⟩ q⟩
    · have hl := ts.length
      exact ⟨vs, vs[i], e.sq s1, by simp [hl, hi]⟩
    · exact ⟨vs, e.sq s1, ts.length⟩
    · obtain ⟨Tp, z, e1, hT, e2, y⟩ := y
      subst e1 e2
      refine ⟨TEx.new hT, fun _ z => z.new0 hT, ?_⟩
      obtain ⟨d, hd, td⟩ := ts.get' (y vs (e.sq s1))
      exact ⟨_, ⟨d, hd, rfl⟩, Tp, _, rfl, SqT.of upd_same, .cons (sv_int _) (.cons ((TD.mono e td).mono (TEx.new hT)) .nil)⟩
end

/-! ### the place of a flat thing in a tuple -/
def rTIndex (K : PySem.W.Frag) : V → List V → Hp → VK → Prop := fun x xs H Q => ∃ (a : Addr) (ys : List V) (y : V) (j : Nat) (z : V), x = V.ref a ∧ xs = [y] ∧ SqT K H a ys ∧ flatV y = true ∧ ys.all flatV = true ∧ ys[j]? = some z ∧ eqV z y = true ∧
  (∀ (m : Nat) (z' : V), m < j → ys[m]? = some z' → eqV z' y = false) ∧ Q (.int (j : Nat)) H
theorem mt_tindex {X : Cx} : MtR X "tuple.index" (rTIndex X.K) := by
  intro pins s σ H x xs v us Q I rx rxs h
  obtain ⟨a, ys, y, j, z, rfl, rfl, hs, fy, fys, hz, hzj, hno, q⟩ := h
  cases rx
  cases rxs with
  | cons ry rt =>
    rename_i uy ut
    cases rt
    obtain ⟨its, rv, pl, hlen⟩ := I.tuple hs
    obtain ⟨⟨cls, dd, data, sl⟩, ho, hc, n, hd⟩ := pl
    simp only at hc hd
    subst hc hd
    obtain ⟨u, hu, ru⟩ := rv.get hz
    obtain ⟨hjl, hje⟩ := List.getElem?_eq_some_iff.mp hu
    have hvl := rv.length
    have hj : j < its.toArray.size := by simpa using hjl
    refine call_meets PySem.F.slot_tuple_index ⟨_, ho, rfl⟩ PySem.F.entry_tuple_index (PySem.F.args_tuple_index_2 _ _)
      (TI.tuple_indexAt a its.toArray n dd sl uy (eqU y) j hj ?_ ?_) ⟨ho, fun u' hu' => mem_eqAt ry fy rv fys u' (by simpa using hu'), ?_⟩
    · have e1 : its.toArray[j] = u := by simpa using hje
      rw [e1, eqU_of ru (flat_at fys hz)]
      exact hzj
    · intro m hm hmj
      have hml : m < its.length := by simpa using hm
      have hmy : m < ys.length := by omega
      have hy' : ys[m]? = some ys[m] := List.getElem?_eq_getElem hmy
      obtain ⟨u2, hu2, ru2⟩ := rv.get hy'
      obtain ⟨_, hme⟩ := List.getElem?_eq_some_iff.mp hu2
      have e1 : its.toArray[m] = u2 := by simpa using hme
      rw [e1, eqU_of ru2 (flat_at fys hy')]
      exact hno m _ hmj hy'
    · exact ⟨.int (j : Nat), H, I.tok _, ⟨_, rfl⟩, q⟩
end AV
-- text LyX3
set_option Elab.async false
set_option linter.all false
set_option maxRecDepth 100000
set_option maxHeartbeats 4000000
/-! dicts whose keys are tuples of any depth -/
namespace AV
open PySem PySem.Spec PyProof.Rows L2
def getN (kvs : List (NestedKey × SV)) (k : NestedKey) : Option SV := (kvs.find? fun p => decide (p.1 = k)).map (·.2)
def putN (kvs : List (NestedKey × SV)) (k : NestedKey) (r : SV) : List (NestedKey × SV) := if (getN kvs k).isSome then kvs.map (fun p => if p.1 = k then (p.1, r) else p) else kvs ++ [(k, r)]
theorem getN_nil {k : NestedKey} : getN [] k = none := rfl
theorem getN_cons {p : NestedKey × SV} {ps : List (NestedKey × SV)} {k : NestedKey} : getN (p :: ps) k = if p.1 = k then some p.2 else getN ps k := by
  unfold getN
  rw [List.find?_cons]
  by_cases h : p.1 = k
  · rw [if_pos h, decide_eq_true h]; rfl
  · rw [if_neg h, decide_eq_false h]
theorem putN_len (kvs : List (NestedKey × SV)) (k : NestedKey) (r : SV) : (putN kvs k r).length ≤ kvs.length + 1 := by
  unfold putN
  split
  · rw [List.length_map]; omega
  · rw [List.length_append, List.length_singleton]; omega
section
variable {X : Cx} {pins : List (Addr × Obj)} {σ : L2.St} {H : Hp} {s : Shared}
mutual
theorem nested_of (I : Inv X pins σ H s) : ∀ (k : NestedKey) (v : V) (u : Value), TD X.K H v k.data → RelV v u → NestedIs s.heap k u
  | .none, v, u, h, r => by
    rw [NestedKey.data] at h
    cases TD.non_inv h
    cases r
    exact .none
  | .num i, v, u, h, r => by
    rw [NestedKey.data] at h
    cases TD.int_inv h
    obtain ⟨t, rfl⟩ := r
    exact .int _ _
  | .text x, v, u, h, r => by
    rw [NestedKey.data] at h
    cases TD.str_inv h
    obtain ⟨t, rfl⟩ := r
    exact .text _ _
  | .tup ks, v, u, h, r => by
    rw [NestedKey.data] at h
    obtain ⟨a, xs, rfl, s1, ts⟩ := TD.tup_inv h
    cases r
    obtain ⟨its, rv, ⟨o, ho, hc, n, hd⟩, _⟩ := I.tuple s1
    exact .tup ho hc hd (nested_all I ks _ _ ts rv)
theorem nested_all (I : Inv X pins σ H s) : ∀ (ks : List NestedKey) (vs : List V) (us : List Value), TDs X.K H vs (NestedKey.datas ks) → Vals vs us → NestedAll s.heap ks us
  | [], vs, us, h, r => by
    rw [NestedKey.datas] at h
    cases h
    cases r
    exact .nil
  | k :: ks, vs, us, h, r => by
    rw [NestedKey.datas] at h
    cases h with
    | cons h1 h2 =>
      cases r with
      | cons r1 r2 => exact .cons (nested_of I k _ _ h1 r1) (nested_all I ks _ _ h2 r2)
end
abbrev YsR (xs : List (NestedKey × Addr × V)) (ys : List (NestedKey × Addr × Value)) : Prop := Paired (fun (p : NestedKey × Addr × V) (q : NestedKey × Addr × Value) => p.1 = q.1 ∧ p.2.1 = q.2.1 ∧ RelV p.2.2 q.2.2) xs ys
theorem dct_at {a : Addr} {xs : List (NestedKey × Addr × V)} {kvs : List (NestedKey × SV)} (I : Inv X pins σ H s) (hx : H a = some (DctO X.prog X.w a xs)) (hk : KVs X.K H xs kvs) :
    (a == sysModules) = false ∧ xs.length ≤ sizeLine ∧ ∃ ys, YsR xs ys ∧ s.heap.DictOfH (nestedKind X.prog X.w) a ys := by
  obtain ⟨⟨h1, h2, ys, h3, o, es, ep, h4, h5, h6, h7, h8⟩, _, _⟩ := I.hok a _ hx
  refine ⟨h1, h2, ys, h3, o, es, ep, h4, h5, h6, h7, ?_, h8⟩
  have go : ∀ {xs : List (NestedKey × Addr × V)} {ys : List (NestedKey × Addr × Value)} {kvs : List (NestedKey × SV)}, YsR xs ys → KVs X.K H xs kvs → ∀ x ∈ ys, (nestedKind X.prog X.w).is s.heap x.1 x.2.1 := by
    intro xs ys kvs q
    induction q generalizing kvs with
    | nil => intro _ x hx; cases hx
    | @cons a b as bs e _ ih =>
      intro z x hx
      cases z with
      | cons z1 z2 =>
        rcases List.mem_cons.mp hx with e1 | e1
        · subst e1
          rw [← e.1, ← e.2.1]
          exact ⟨nested_of I _ _ _ z1.2.2.1 rfl, z1.2.1⟩
        · exact ih z2 x e1
  exact go h3 hk
theorem dct_atKey {xs : List (NestedKey × Addr × V)} {ys : List (NestedKey × Addr × Value)} {kvs : List (NestedKey × SV)} (k : NestedKey) (h : YsR xs ys) (hk : KVs X.K H xs kvs) :
    (getN kvs k = none ∧ atKey ys k = none) ∨ ∃ r v u p, getN kvs k = some r ∧ atKey ys k = some p ∧ p.2 = u ∧ RelV v u ∧ SVR X.K H v r := by
  induction h generalizing kvs with
  | nil => cases hk; exact .inl ⟨rfl, rfl⟩
  | @cons a b as bs e _ ih =>
    cases hk with
    | @cons _ q _ qs z1 z2 =>
      by_cases c : b.1 = k
      · refine .inr ⟨q.2, a.2.2, b.2.2, b.2, ?_, ?_, rfl, e.2.2, z1.2.2.2⟩
        · rw [getN_cons, if_pos (by rw [← z1.1, e.1]; exact c)]
        · unfold atKey
          rw [List.find?_cons, decide_eq_true c]; rfl
      · have e1 : getN (q :: qs) k = getN qs k := by rw [getN_cons, if_neg (by rw [← z1.1, e.1]; exact c)]
        have e2 : atKey (b :: bs) k = atKey bs k := by
          unfold atKey
          rw [List.find?_cons, decide_eq_false c]
        rw [e1, e2]
        exact ih z2
theorem nroom (hu : X.A.units + 64 < cLine) : (nestedKind X.prog X.w).room X.A.in1 := by
  show X.A.units + 1 + 8 < cLine
  omega
/-- k in d, k not in d: dicts with keys of any depth -/
def rInN (P : Program) (w : World) (K : PySem.W.Frag) (neg : Bool) : R2 := fun x y H Q => ∃ (k : NestedKey) (b a : Addr) (xs : List (NestedKey × Addr × V)) (kvs : List (NestedKey × SV)), x = .ref b ∧ k.depth ≤ 8 ∧ TD K H (.ref b) k.data ∧ y = .ref a ∧ H a = some (DctO P w a xs) ∧ KVs K H xs kvs ∧
  Q (.bl (if neg then !(getN kvs k).isSome else (getN kvs k).isSome)) H
theorem op_inN (hu : X.A.units + 64 < cLine) : OpR X (compareOp .In) (rInN X.prog X.w X.K false) := by
  intro pins s σ H x y v u Q I rx ry h
  obtain ⟨k, b, a, xs, kvs, rfl, hd, ht, rfl, hx, hk, q⟩ := h
  cases rx
  cases ry
  obtain ⟨hs, hz, ys, yr, dd⟩ := dct_at I hx hk
  have ki : (nestedKind X.prog X.w).is s.heap k b := ⟨nested_of I k _ _ ht rfl, hd⟩
  refine wpAny_in_heap (nroom hu) ki hs dd ?_
  have e : (atKey ys k).isSome = (getN kvs k).isSome := by
    rcases dct_atKey k yr hk with ⟨e1, e2⟩ | ⟨r, v, u, p, e1, e2, _⟩ <;> rw [e1, e2] <;> rfl
  rw [e]
  exact ⟨.bl _, H, I.tok _, rfl, q⟩
theorem op_notInN (hu : X.A.units + 64 < cLine) : OpR X (compareOp .NotIn) (rInN X.prog X.w X.K true) := by
  intro pins s σ H x y v u Q I rx ry h
  obtain ⟨k, b, a, xs, kvs, rfl, hd, ht, rfl, hx, hk, q⟩ := h
  cases rx
  cases ry
  obtain ⟨hs, hz, ys, yr, dd⟩ := dct_at I hx hk
  have ki : (nestedKind X.prog X.w).is s.heap k b := ⟨nested_of I k _ _ ht rfl, hd⟩
  refine wpAny_notIn_heap (nroom hu) ki hs dd ?_
  have e : (atKey ys k).isSome = (getN kvs k).isSome := by
    rcases dct_atKey k yr hk with ⟨e1, e2⟩ | ⟨r, v, u, p, e1, e2, _⟩ <;> rw [e1, e2] <;> rfl
  rw [e]
  exact ⟨.bl _, H, I.tok _, rfl, q⟩
end
/-- d[k] -/
def tGetN (P : Program) (w : World) (K : PySem.W.Frag) (td ty : TE) : TE := fun σ H Q => td σ H fun x H1 => ty σ H1 fun y H2 => ∃ (k : NestedKey) (b a : Addr) (xs : List (NestedKey × Addr × V)) (kvs : List (NestedKey × SV)) (r : SV), x = .ref a ∧ y = .ref b ∧ k.depth ≤ 8 ∧ TD K H2 (.ref b) k.data ∧
  H2 a = some (DctO P w a xs) ∧ KVs K H2 xs kvs ∧ getN kvs k = some r ∧ ∀ v, SVR K H2 v r → Q v H2
theorem pe_getN {X : Cx} {o i : Expr} {td ty : TE} {pos : Pos} (hu : X.A.units + 64 < cLine) (ho : PE X o td) (hi : PE X i ty) (ns : NoSl i) : PE X (.Subscript o i pos) (tGetN X.prog X.w X.K td ty) := by
  refine ⟨fun pins s σ H Q I h => ?_⟩
  refine subD_of PySem.F.slot_dict_getitem.lookup ns (thn (ho.run pins s σ H _ I h) fun u s1 ⟨x, H1, I1, rx, q1⟩ => thn (hi.run pins s1 σ H1 _ I1 q1) fun iv s2 ⟨y, H2, I2, ry, k, b, a, xs, kvs, r, ex, ey, hd, ht, hx, hk, hg, q⟩ => ?_)
  subst ex ey
  obtain rfl : u = Value.ref a := rx
  obtain rfl : iv = Value.ref b := ry
  obtain ⟨hs, hz, ys, yr, dd⟩ := dct_at I2 hx hk
  refine ⟨dd.typeIs, ?_⟩
  have ki : (nestedKind X.prog X.w).is s2.heap k b := ⟨nested_of I2 k _ _ ht rfl, hd⟩
  rcases dct_atKey k yr hk with ⟨e1, e2⟩ | ⟨r', v, u, p, e1, e2, e3, e4, e5⟩
  · rw [e1] at hg; cases hg
  · rw [e1] at hg
    cases hg
    refine wpAny_getItem_heap (nroom hu) ki dd e2 ?_
    rw [e3]
    exact ⟨v, H2, I2.tok _, e4, q v e5⟩
theorem pmap {α β γ δ : Type} {F : α → β → Prop} {G : γ → δ → Prop} (f : α → γ) (g : β → δ) (h : ∀ a b, F a b → G (f a) (g b)) : ∀ {as : List α} {bs : List β}, Paired F as bs → Paired G (as.map f) (bs.map g)
  | _, _, .nil => .nil
  | _, _, .cons a t => .cons (h _ _ a) (pmap f g h t)
/-- the heap behind d[k] = v -/
theorem dct_put {X : Cx} {pins : List (Addr × Obj)} {σ : L2.St} {H : Hp} {s : Shared} {a b : Addr} {k : NestedKey} {xs : List (NestedKey × Addr × V)} {kvs : List (NestedKey × SV)} {v : V} {r : SV} {u : Value} {E : Value → Shared → Prop} {Q : Unit → Shared → Prop}
    (hu : X.A.units + 64 < cLine) (I : Inv X pins σ H s) (hd : k.depth ≤ 8) (ht : TD X.K H (.ref b) k.data) (hx : H a = some (DctO X.prog X.w a xs)) (hk : KVs X.K H xs kvs) (hl : kvs.length < sizeLine) (rv : RelV v u) (sv : SVR X.K H v r)
    (h : ∀ s' xs', Inv X pins σ (upd H a (DctO X.prog X.w a xs')) s' → KVs X.K H xs' (putN kvs k r) → Q () s') : wpAny (model X.prog X.w) X.A (setItem (.ref a) (.ref b) u) Q E s := by
  obtain ⟨hs, hz, ys, yr, dd⟩ := dct_at I hx hk
  have ki : (nestedKind X.prog X.w).is s.heap k b := ⟨nested_of I k _ _ ht rfl, hd⟩
  have l1 : xs.length = ys.length := Paired.length yr
  have l2 : xs.length = kvs.length := Paired.length hk
  refine wpAny_setItem_heap (hsz := by omega) (nroom hu) ki dd fun h' dd' hsb => ?_
  obtain ⟨q, es, ep, hq, h2, h3, h4, _, h5⟩ := dd'
  have sn : ∃ xs', YsR xs' (storedH ys k b u) ∧ KVs X.K H xs' (putN kvs k r) := by
    rcases dct_atKey k yr hk with ⟨e1, e2⟩ | ⟨r', v', u', p, e1, e2, e3, e4, e5⟩
    · rw [storedH_new e2]
      unfold putN
      rw [e1]
      refine ⟨xs ++ [(k, b, v)], Paired.snoc yr ⟨rfl, rfl, rv⟩, ?_⟩
      exact Paired.snoc hk ⟨rfl, hd, ht, sv⟩
    · rw [storedH_old e2]
      unfold putN
      rw [e1]
      refine ⟨xs.map (fun p => if p.1 = k then (p.1, p.2.1, v) else p), pmap _ _ (fun a' b' e => ?_) yr, pmap _ _ (fun a' b' e => ?_) hk⟩
      · unfold putAt
        by_cases c : b'.1 = k
        · simp only [if_pos c, if_pos (e.1.trans c)]; exact ⟨e.1, e.2.1, rv⟩
        · simp only [if_neg c, if_neg (fun z => c (e.1.symm.trans z))]; exact e
      · by_cases c : a'.1 = k
        · simp only [if_pos c, if_pos (e.1.symm.trans c)]; exact ⟨e.1, e.2.1, e.2.2.1, sv⟩
        · simp only [if_neg c, if_neg (fun z => c (e.1.trans z))]; exact e
  obtain ⟨xs', yr', hk'⟩ := sn
  have lx : xs'.length ≤ sizeLine := by
    have := putN_len kvs k r
    have e : xs'.length = (putN kvs k r).length := Paired.length hk'
    omega
  have ok : ∀ H', ObjOk X.prog X.w H' h' a (DctO X.prog X.w a xs') := fun H' => by
    refine ⟨⟨hs, lx, _, yr', q, es, ep, hq, h2, h3, h4, h5⟩, ⟨q, hq⟩, ?_⟩
    rintro h1 h2' ⟨g1, g2, ys', g3, o', es', ep', g4, g5⟩ kp
    exact ⟨g1, g2, ys', g3, o', es', ep', kp _ g4, g5⟩
  exact h _ xs' (d_write I (by rw [hx]; exact True.intro) hsb ⟨q, hq⟩ (ok _)) hk'
/-- {}, to be such a dict -/
theorem dct_empty {P : Program} {w : World} {H : Hp} (h : Heap) (hb : sysModules < h.objs.size) : ObjOk P w H (h.push { cls := .type "dict", data := .dict #[] }) h.objs.size (DctO P w h.objs.size []) := by
  refine ⟨⟨beq_eq_false_iff_ne.mpr (Ne.symm (Nat.ne_of_lt hb)), Nat.zero_le _, [], .nil, _, #[], 0, Heap.get?_push_size _ rfl, ⟨rfl, rfl, rfl⟩, rfl, rfl, List.nodup_nil⟩, ⟨_, Heap.get?_push_size _ rfl⟩, ?_⟩
  rintro h1 h2' ⟨g1, g2, ys', g3, o', es', ep', g4, g5⟩ kp
  exact ⟨g1, g2, ys', g3, o', es', ep', kp _ g4, g5⟩
def tNewN (P : Program) (w : World) : TE := fun _ H Q => ∀ p, H p = none → Q (.ref p) (upd H p (DctO P w p []))
theorem pe_newN {X : Cx} {pos : Pos} : PE X (.Dict [] [] pos) (tNewN X.prog X.w) := ⟨fun pins s σ H Q I h =>
  wpAny_Dict_empty ⟨.ref s.heap.objs.size, _, I.laid (a := s.heap.objs.size) (o := DctO X.prog X.w s.heap.objs.size []) (t' := s.toks) (fun _ _ q => Heap.get?_push_of_some _ q) (Nat.le_refl _) (dct_empty s.heap I.big), rfl, h _ (I.hok.fresh (Nat.le_refl _))⟩⟩
/-- {k: v}: the new dict stands empty while the pair is made -/
def tOneN (P : Program) (w : World) (K : PySem.W.Frag) (tk tv : TE) : TE := fun σ H Q => ∀ p, H p = none → tk σ (upd H p (DctO P w p [])) fun x H1 => tv σ H1 fun y H2 => ∃ (k : NestedKey) (b : Addr) (r : SV), x = .ref b ∧ k.depth ≤ 8 ∧ TD K H2 (.ref b) k.data ∧ SVR K H2 y r ∧
  H2 p = some (DctO P w p []) ∧ Q (.ref p) (upd H2 p (DctO P w p [(k, b, y)]))
theorem pe_oneN {X : Cx} {pos : Pos} {kx vx : Expr} {tk tv : TE} (hu : X.A.units + 64 < cLine) (h1 : PE X kx tk) (h2 : PE X vx tv) : PE X (.Dict [some kx] [vx] pos) (tOneN X.prog X.w X.K tk tv) := by
  refine ⟨fun pins s σ H Q I q => ?_⟩
  have hn := I.hok.fresh (Nat.le_refl s.heap.objs.size)
  have I1 := I.laid (a := s.heap.objs.size) (o := DctO X.prog X.w s.heap.objs.size []) (h' := s.heap.push { cls := .type "dict", data := .dict #[] }) (t' := s.toks) (fun _ _ q => Heap.get?_push_of_some _ q) (Nat.le_refl _) (dct_empty s.heap I.big)
  rw [arm_eval_Dict, zip_pairTrees [some kx] [vx] X.env pos rfl rfl, dictDisplay_pairs (pairTrees [some kx] [vx] X.env pos) (by simp [pairTrees]) (by simp [pairTrees])]
  refine wpAny_bind (wpAny_standAt (wpAny_bind (wpAny_subDictH (knd := nestedKind X.prog X.w) (show X.A.units + 8 < cLine by omega) (by simp [pairTrees]) ?_)))
  refine pairTrees_cons_walk (thn (h1.run pins _ σ _ _ I1 (q _ hn)) fun u s1 ⟨x, H1, J1, rx, q1⟩ => thn (h2.run pins s1 σ H1 _ J1 q1) fun u2 s2 ⟨y, H2, J2, ry, k, b, r, ex, hd, ht, sv, hp, q2⟩ => pairTrees_nil_walk ?_)
  subst ex
  obtain rfl : u = Value.ref b := rx
  obtain ⟨hs, hz, ys, yr, dd⟩ := dct_at (kvs := []) J2 hp .nil
  cases yr
  refine ⟨[(k, b, u2)], ⟨rfl, rfl, ⟨nested_of J2 k _ _ ht rfl, hd⟩, trivial⟩, dd, fun h' tk' dd' hsb => ?_⟩
  obtain ⟨q', es, ep, hq, h2', h3, h4, h5a, h5⟩ := dd'
  refine wpAny_pure ⟨.ref s.heap.objs.size, _, d_write (ob := DctO X.prog X.w s.heap.objs.size [(k, b, y)]) J2 (by rw [hp]; exact True.intro) hsb ⟨q', hq⟩ ?_, rfl, q2⟩
  refine ⟨⟨hs, by show 1 ≤ sizeLine; decide, [(k, b, u2)], .cons ⟨rfl, rfl, ry⟩ .nil, q', es, ep, hq, h2', h3, h4, h5⟩, ⟨q', hq⟩, ?_⟩
  rintro h1 h2' ⟨g1, g2, ys', g3, o', es', ep', g4, g5⟩ kp
  exact ⟨g1, g2, ys', g3, o', es', ep', kp _ g4, g5⟩
section
variable {X : Cx} {ρ : Rho} {μ : Mu} {a b c e o : Expr} {P : PK} {T : Po} {pos : Pos}
theorem loose_dct {H : Hp} {a : Addr} {P : Program} {w : World} {xs : List (NestedKey × Addr × V)} (h : H a = some (DctO P w a xs)) : Loose (H a) := by rw [h]; exact ⟨fun _ e => (nomatch e), fun _ _ e => (nomatch e)⟩
theorem t_inN (hu : X.A.units + 64 < cLine) {T : Mu → Bool → Prop} (h : WE X ρ μ a fun μ1 x => WE X ρ μ1 b fun μ2 y => ∃ k l kvs, x = .dat (NestedKey.data (.tup k)) ∧ (NestedKey.tup k).depth ≤ 8 ∧ y = .loc l ∧ μ2 l = some (.dct kvs) ∧ T μ2 (getN kvs (.tup k)).isSome) (hb : behindInMarks .In b = false := by rfl) : WT X ρ μ (.Compare a [.In] [b] pos) T :=
  t_cmp (op_inN hu) (h.imp fun μ1 x q => q.imp fun μ2 y ⟨k, l, kvs, ex, hd, ey, hl, hT⟩ v u H Q hv hu' hm kk => by
    subst ex ey
    obtain ⟨xs, h1, h2⟩ := (hm _ _ hl).1
    cases hu'
    rw [NestedKey.data] at hv
    obtain ⟨p, ys, rfl, s1, ts⟩ := TD.tup_inv hv
    refine ⟨.tup k, p, l, xs, kvs, rfl, hd, hv, rfl, h1, h2, ?_⟩
    exact kk _ _ μ2 H hm (sv_bl _) (TEx.refl H) ⟨_, rfl, hT⟩) hb
theorem t_notInN (hu : X.A.units + 64 < cLine) {T : Mu → Bool → Prop} (h : WE X ρ μ a fun μ1 x => WE X ρ μ1 b fun μ2 y => ∃ k l kvs, x = .dat (NestedKey.data (.tup k)) ∧ (NestedKey.tup k).depth ≤ 8 ∧ y = .loc l ∧ μ2 l = some (.dct kvs) ∧ T μ2 (!(getN kvs (.tup k)).isSome)) (hb : behindInMarks .NotIn b = false := by rfl) : WT X ρ μ (.Compare a [.NotIn] [b] pos) T :=
  t_cmp (op_notInN hu) (h.imp fun μ1 x q => q.imp fun μ2 y ⟨k, l, kvs, ex, hd, ey, hl, hT⟩ v u H Q hv hu' hm kk => by
    subst ex ey
    obtain ⟨xs, h1, h2⟩ := (hm _ _ hl).1
    cases hu'
    rw [NestedKey.data] at hv
    obtain ⟨p, ys, rfl, s1, ts⟩ := TD.tup_inv hv
    refine ⟨.tup k, p, l, xs, kvs, rfl, hd, hv, rfl, h1, h2, ?_⟩
    exact kk _ _ μ2 H hm (sv_bl _) (TEx.refl H) ⟨_, rfl, hT⟩) hb
theorem e_getN (hu : X.A.units + 64 < cLine) (h : WE X ρ μ a fun μ1 x => WE X ρ μ1 b fun μ2 y => ∃ k l kvs r, x = .loc l ∧ y = .dat (NestedKey.data (.tup k)) ∧ (NestedKey.tup k).depth ≤ 8 ∧ μ2 l = some (.dct kvs) ∧ getN kvs (.tup k) = some r ∧ P μ2 r) (ns : NoSl b := by exact fun _ _ => rfl) : WE X ρ μ (.Subscript a b pos) P :=
  WE.of (pe_getN hu pe_g pe_g ns) fun σ H Q hs hm k => h.g hs hm fun v x μ1 H1 m1 r1 t1 q1 => q1.g (hs.mono t1) m1 fun u y μ2 H2 m2 r2 t2 ⟨kk, l, kvs, r, ex, ey, hd, hl, hg, hP⟩ => by
    subst ex ey
    cases r1
    obtain ⟨xs, h1, h2⟩ := (m2 _ _ hl).1
    rw [NestedKey.data] at r2
    obtain ⟨p, ys, rfl, s1, ts⟩ := TD.tup_inv r2
    exact ⟨.tup kk, p, l, xs, kvs, r, rfl, rfl, hd, r2, h1, h2, hg, fun v hv => k _ _ _ _ m2 hv (t1.trans t2) hP⟩
theorem e_newN (h : ∀ q, μ q = none → P (updM μ q (.dct [])) (.loc q)) : WE X ρ μ (.Dict [] [] pos) P :=
  WE.of pe_newN fun σ H Q hs hm k p hp => k _ (.loc p) _ _ (hm.new (c := .dct []) hp ⟨[], upd_same, .nil⟩) rfl (TEx.new hp) (h p (hm.fresh hp))
theorem e_oneN (hu : X.A.units + 64 < cLine) (h : ∀ q, μ q = none → WE X ρ (updM μ q (.dct [])) a fun μ1 x => WE X ρ μ1 b fun μ2 r => ∃ k, x = .dat (NestedKey.data (.tup k)) ∧ (NestedKey.tup k).depth ≤ 8 ∧ μ2 q = some (.dct []) ∧ P (updM μ2 q (.dct [(.tup k, r)])) (.loc q)) : WE X ρ μ (.Dict [some a] [b] pos) P :=
  WE.of (pe_oneN hu pe_g pe_g) fun σ H Q hs hm k p hp => by
    have m0 := hm.new (c := .dct []) hp ⟨[], upd_same, .nil⟩
    refine (h p (hm.fresh hp)).g (hs.mono (TEx.new hp)) m0 fun v x μ1 H1 m1 r1 t1 q1 => q1.g ((hs.mono (TEx.new hp)).mono t1) m1 fun u r μ2 H2 m2 r2 t2 ⟨kk, ex, hd, hl, hP⟩ => ?_
    subst ex
    obtain ⟨xs, h1, h2⟩ := (m2 _ _ hl).1
    cases h2
    rw [NestedKey.data] at r1
    obtain ⟨b0, ys, rfl, s1, ts⟩ := TD.tup_inv r1
    have tm := TEx.mut (o := DctO X.prog X.w p [(NestedKey.tup kk, b0, u)]) (loose_dct h1)
    refine ⟨.tup kk, b0, r, rfl, hd, TD.mono t2 r1, r2, h1, ?_⟩
    exact k _ (.loc p) _ _ (m2.set (c := .dct [(.tup kk, r)]) (loose_dct h1) ⟨_, upd_same, .cons ⟨rfl, hd, TD.mono tm (TD.mono t2 r1), r2.mono tm⟩ .nil⟩) rfl ((TEx.new hp).trans (t1.trans (t2.trans tm))) hP
def rSetN (P : Program) (w : World) (K : PySem.W.Frag) : TSet := fun o i v H Q => ∃ (k : NestedKey) (b a : Addr) (xs : List (NestedKey × Addr × V)) (kvs : List (NestedKey × SV)) (r : SV), o = .ref a ∧ i = .ref b ∧ k.depth ≤ 8 ∧ TD K H (.ref b) k.data ∧ H a = some (DctO P w a xs) ∧ KVs K H xs kvs ∧ kvs.length < sizeLine ∧ SVR K H v r ∧
  ∀ xs', KVs K H xs' (putN kvs k r) → Q (upd H a (DctO P w a xs'))
theorem set_N (hu : X.A.units + 64 < cLine) : PSet X (rSetN X.prog X.w X.K) := by
  intro pins s σ H o i v ov iv u Q I ro ri rv h
  obtain ⟨k, b, a, xs, kvs, r, rfl, rfl, hd, ht, hx, hk, hl, sv, q⟩ := h
  cases ro
  cases ri
  exact dct_put hu I hd ht hx hk hl rv sv fun s' xs' I' hk' => ⟨_, I', q xs' hk'⟩
theorem w_setN {i : Expr} {p2 : Pos} (hu : X.A.units + 64 < cLine) (h : WE X ρ μ e fun μ1 r => WE X ρ μ1 o fun μ2 y => WE X ρ μ2 i fun μ3 z => ∃ l k kvs, y = .loc l ∧ z = .dat (NestedKey.data (.tup k)) ∧ (NestedKey.tup k).depth ≤ 8 ∧ μ3 l = some (.dct kvs) ∧ kvs.length < 10000000 ∧ T.nx ρ (updM μ3 l (.dct (putN kvs (.tup k) r))))
    (hs : swapsWithSole [.Subscript o i p2] e pos.line X.env = pure false := by rfl) (hw : swappedStores [.Subscript o i p2] e X.env = pure none := by rfl)
    (h1 : (assignEach [.Subscript o i p2] X.env).map (·.2) = [assign (.Subscript o i p2) X.env] := by rfl)
    (ha : ∀ v, assign (.Subscript o i p2) X.env v = (do
      let ov ← holding [v] (eval o X.env)
      let iv ← holding [v, ov] (eval i X.env)
      standAt p2
      holding [v, ov, iv] (setItem ov iv v)
      release [v, ov, iv] []) := by intro _; rfl) : W1 X ρ μ (.Assign [.Subscript o i p2] e pos) T :=
  W1.of (ps_asg pe_g (pg_sub pe_g pe_g (set_N hu) ha) hs hw h1) fun D σ H hs hm k => h.g hs hm fun u r μ1 H1 m1 r1 t1 h2 => h2.g (hs.mono t1) m1 fun v y μ2 H2 m2 r2 t2 h3 => h3.g (hs.mono (t1.trans t2)) m2 fun w z μ3 H3 m3 r3 t3 ⟨l, kk, kvs, ey, ez, hd, hl, hn, hT⟩ => by
    subst ey ez
    cases r2
    obtain ⟨xs, g1, g2⟩ := (m3 _ _ hl).1
    rw [NestedKey.data] at r3
    obtain ⟨b0, ys, rfl, s1, ts⟩ := TD.tup_inv r3
    refine ⟨.tup kk, b0, l, xs, kvs, r, rfl, rfl, hd, r3, g1, g2, by rw [sizeLine_eq]; omega, r1.mono (t2.trans t3), fun xs' hk' => ?_⟩
    have tm := TEx.mut (o := DctO X.prog X.w l xs') (loose_dct g1)
    have t := t1.trans (t2.trans (t3.trans tm))
    exact k.nx _ _ _ _ (hs.mono t) (m3.set (c := .dct (putN kvs (.tup kk) r)) (loose_dct g1) ⟨_, upd_same, hk'.mono tm⟩) t hT
end
end AV
-- text LyX4
set_option Elab.async false
set_option linter.all false
set_option maxRecDepth 100000
set_option maxHeartbeats 4000000
/-! more rules over data and the store -/
namespace AV
open PySem PySem.Spec PyProof.Rows L2 PpSet
/-! ### a tuple times an int -/
theorem tuple_mul0 (l : Addr) (items : Array Value) (n : Nat) (dd : Option Addr) (sl : Array (Option Value)) (x : Int) (u : Tok) (c0 : (decide (x < -(2 ^ 63)) || decide (x ≥ 2 ^ 63)) = false) (c1 : (items.isEmpty || x == 1) = false) (c2 : (decide (x ≤ 0) || items.isEmpty) = true) :
    Meets (Builtin.«tuple.__mul__» ⟨[.ref l, .int x u], []⟩) (fun _ R s => s.heap.get? l = some { cls := .type "tuple", dict := dd, data := .seq items n, slots := sl } ∧
      R (.ok (.ret (Value.ref s.heap.objs.size))) { s with heap := s.heap.push { cls := Value.type "tuple", data := Data.seq #[] }, toks := s.toks }) :=
  .of_wp fun prog w A R s h => by
    obtain ⟨hp, g, d, tk, os⟩ := s
    obtain ⟨hl, h⟩ := h
    have f1 := AutoSeq1.idx_int
    wp_walk using wpAny_loadPart' hl
    repeat (first
      | (refine wpAny_ite_false (decide_eq_false (by rw [c0]; exact Bool.false_ne_true)) ?_; wp_walk using wpAny_loadPart' hl)
      | (refine wpAny_ite_false (decide_eq_false (by rw [c1]; exact Bool.false_ne_true)) ?_; wp_walk using wpAny_loadPart' hl)
      | (refine wpAny_ite_true (decide_eq_true (by rw [c2])) ?_; wp_walk using wpAny_loadPart' hl))
    exact ⟨_, rfl, h⟩
theorem tuple_mul1 (l : Addr) (items : Array Value) (n : Nat) (dd : Option Addr) (sl : Array (Option Value)) (u : Tok) :
    Meets (Builtin.«tuple.__mul__» ⟨[.ref l, .int 1 u], []⟩) (fun _ R s => s.heap.get? l = some { cls := .type "tuple", dict := dd, data := .seq items n, slots := sl } ∧
      R (.ok (.ret (Value.ref l))) s) :=
  .of_wp fun prog w A R s h => by
    obtain ⟨hp, g, d, tk, os⟩ := s
    obtain ⟨hl, h⟩ := h
    have f1 := AutoSeq1.idx_int
    wp_walk using wpAny_loadPart' hl
    exact ⟨_, rfl, h⟩
def rRepA (K : PySem.W.Frag) : R2 := fun x y H Q => ∃ l k xs, x = .ref l ∧ y = .int k ∧ SqT K H l xs ∧ xs ≠ [] ∧ -(2 ^ 63) ≤ k ∧ k ≤ 1000 ∧ xs.length ≤ 1000 ∧ (k = 1 → Q (.ref l) H) ∧ (k ≠ 1 → ∀ p, H p = none → Q (.ref p) (upd H p (.tup (List.replicate k.toNat xs).flatten)))
section
variable {X : Cx}
theorem op_repA : OpR X (binaryOp .Mult) (rRepA X.K) := by
  intro pins s σ H x y v u Q I rx ry h
  obtain ⟨l, k, xs, rfl, rfl, hT, hne, hlo, hhi, hz, q1, q⟩ := h
  by_cases h2 : 2 ≤ k
  · exact op_repT pins s σ H _ _ v u Q I rx ry ⟨l, k, xs, rfl, rfl, hT, hne, h2, hhi, hz, q (by omega)⟩
  cases rx
  obtain ⟨t, rfl⟩ := ry
  obtain ⟨its, r, ⟨⟨cls, dd, data, sl⟩, ho, hc, n, hd⟩, hs⟩ := I.tuple hT
  simp only at hc hd
  subst hc hd
  have hle : its.length = xs.length := r.length.symm
  have hn : its ≠ [] := fun e => hne (by
    rw [e] at hle
    exact List.eq_nil_of_length_eq_zero hle.symm)
  have hi : its.toArray.isEmpty = false := by
    cases its with
    | nil => exact absurd rfl hn
    | cons a b => rfl
  have c0 : (decide (k < -(2 ^ 63)) || decide (k ≥ 2 ^ 63)) = false := by
    rw [decide_eq_false (by omega), decide_eq_false (by omega)] <;> rfl
  by_cases h1 : k = 1
  · subst h1
    refine wpAny_binaryOp_repeat_ref (T := "tuple") (U := "int") (by decide) ⟨_, ho, rfl⟩ (fun s' => typeIs_int s' 1 t) noFill_tuple_mul F.fills_int_mul F.slot_int_rmul repeat_tuple F.slot_int_index.lookup
      (call_meets F.slot_int_rmul (typeIs_int s 1 t) F.entry_int_rmul (F.args_int_rmul_2 _ _) (int_rmul_tuple 1 t l its.toArray n dd sl)
        ⟨ho, rfl, ⟨_, ho, rfl⟩, call_meets F.slot_tuple_mul ⟨_, ho, rfl⟩ F.entry_tuple_mul (F.args_tuple_mul_2 _ _) (tuple_mul1 l its.toArray n dd sl t) ⟨ho, ?_⟩⟩)
    exact ⟨.ref l, H, I, rfl, q1 rfl⟩
  · have c1 : (its.toArray.isEmpty || k == 1) = false := by
      rw [hi, Bool.false_or]
      exact beq_eq_false_iff_ne.mpr (by omega)
    have c2 : (decide (k ≤ 0) || its.toArray.isEmpty) = true := by
      rw [decide_eq_true (by omega)]; rfl
    refine wpAny_binaryOp_repeat_ref (T := "tuple") (U := "int") (by decide) ⟨_, ho, rfl⟩ (fun s' => typeIs_int s' k t) noFill_tuple_mul F.fills_int_mul F.slot_int_rmul repeat_tuple F.slot_int_index.lookup
      (call_meets F.slot_int_rmul (typeIs_int s k t) F.entry_int_rmul (F.args_int_rmul_2 _ _) (int_rmul_tuple k t l its.toArray n dd sl)
        ⟨ho, rfl, ⟨_, ho, rfl⟩, call_meets F.slot_tuple_mul ⟨_, ho, rfl⟩ F.entry_tuple_mul (F.args_tuple_mul_2 _ _) (tuple_mul0 l its.toArray n dd sl k t c0 c1 c2) ⟨ho, ?_⟩⟩)
    have e0 : k.toNat = 0 := by omega
    have q := q h1
    rw [e0] at q
    refine ⟨.ref s.heap.objs.size, _, I.laid (t' := s.toks) (o := .tup []) (fun b ob q => Heap.get?_push_of_some _ q) (Nat.le_refl _) ?_, rfl, q _ (I.hok.fresh (Nat.le_refl _))⟩
    exact ⟨Nat.zero_le _, [], .nil, IsTup.new _ _⟩
/-! ### len of a set of ints -/
def rLenSet (w : World) : List V → Hp → VK → Prop := fun xs H Q => ∃ (a : Addr) (S : Int → Bool) (n : Nat), xs = [.ref a] ∧ H a = some (SetO w a S n) ∧ ∀ l : List Int, l.Nodup → (∀ k, k ∈ l ↔ S k = true) → Q (.int l.length) H
theorem cr_lenSet : CallR X (.builtin "len") (rLenSet X.w) := by
  intro pins s σ H xs us Q I r h
  obtain ⟨a, S, n, rfl, ha, q⟩ := h
  rw [Vals.ref1 r]
  obtain ⟨o, es, ep, t, ho, hex, hd, g, nd, hm, hb, hf, hn, hr, hl⟩ := setO_get I ha
  refine call_len_set ho hex hd hf (by have : scanBound ≤ 2 ^ 62 := by decide
                                       omega) ?_
  have := q (es.toList.map keyOf) nd fun k => (hm k).symm
  rw [List.length_map, Array.length_toList] at this
  exact ⟨.int es.size, H, (I.tok _), ⟨_, rfl⟩, this⟩
end
section
variable {X : Cx} {ρ : Rho} {μ : Mu} {a b c o e : Expr} {es : List Expr} {P : PK} {T : Po} {pos apos : Pos} {sl : List Nat}
theorem MR.mut0 {P : Program} {w : World} {K : PySem.W.Frag} {H : Hp} {p : Addr} {o : HO} (h : MR P w K μ H) (e : μ p = none) (l : Loose (H p)) : MR P w K μ (upd H p o) := fun a d q => by
  have hp : a ≠ p := neM q e
  obtain ⟨o1, h2⟩ := (h a d q).2
  have h1 : CellR P w K H a d := (h a d q).1
  refine ⟨CellR.stay h1 (TEx.mut l) (fun o r => by rw [upd_ne hp]; exact r) (fun xs ec ys => ?_), o1, by rw [upd_ne hp]; exact h2⟩
  rw [upd_ne hp]
  subst ec
  obtain ⟨_, _, _, n⟩ := h1
  exact n ys
theorem loose_set {H : Hp} {a : Addr} {w : World} {S : Int → Bool} {n : Nat} (h : H a = some (SetO w a S n)) : Loose (H a) := by rw [h]; exact ⟨fun _ e => (nomatch e), fun _ _ e => (nomatch e)⟩
theorem e_repT (h : WE X ρ μ a fun μ1 x => WE X ρ μ1 b fun μ2 y => ∃ ds n, x = .tup ds ∧ y = .int n ∧ ds ≠ [] ∧ ds.length ≤ 1000 ∧ -(2 ^ 63) ≤ n ∧ n ≤ 1000 ∧ P μ2 (.tup (List.replicate n.toNat ds).flatten)) : WE X ρ μ (.BinOp a .Mult b pos) P :=
  e_bin op_repA (h.imp fun μ1 x q => q.imp fun μ2 y ⟨ds, n, ex, ey, h0, h1, h2, h3, p⟩ v u H Q hv hu hm k => by
    subst ex ey
    obtain ⟨l, xs, rfl, s1, ts⟩ := TD.tup_inv hv
    cases TD.int_inv hu
    refine ⟨l, n, xs, rfl, rfl, s1, fun e => ?_, h2, h3, by rw [ts.length]; exact h1, fun e => ?_, fun e p' hp => ?_⟩
    · subst e; cases ts; exact h0 rfl
    · subst e
      refine k _ (.dat (.tuple _)) μ2 H hm hv (TEx.refl H) ?_
      simpa using p
    · exact k _ _ _ _ (hm.new0 hp) (sv_tup (SqT.of upd_same) ((ts.flatten_rep _).mono (TEx.new hp))) (TEx.new hp) p)
/-- a tuple of things that are not all data -/
theorem e_tupL {x1} (h : WA X ρ μ es fun μ1 xs => xs.length ≤ sizeLine ∧ ∀ q, μ1 q = none → P (updM μ1 q (.tpc xs)) (.loc q)) : WE X ρ μ (.Tuple es x1 pos) P :=
  WE.of (pe_tup pa_g) fun σ H Q hs hm k => h.g hs hm fun vs xs μ1 H1 m1 r1 t1 ⟨hz, q⟩ =>
    ⟨by rw [r1.length]; exact hz, fun p hp => k _ (.loc p) _ _ (m1.new (c := .tpc xs) hp ⟨vs, SqT.of upd_same, r1.mono (TEx.new hp)⟩) rfl (t1.trans (TEx.new hp)) (q p (m1.fresh hp))⟩
theorem w_unpL {es : List Expr} {kk : Nat} {tp : Pos} {g : Tg} (hg : WG X (.Tuple es kk tp) sl g) (h : WE X ρ μ a fun μ1 r => ∃ q xs, r = .loc q ∧ μ1 q = some (.tpc xs) ∧ g (.tp xs) ρ fun ρ' => T.nx ρ' μ1)
    (hs : swapsWithSole [.Tuple es kk tp] a pos.line X.env = pure false := by rfl) (hw : swappedStores [.Tuple es kk tp] a X.env = pure none := by rfl)
    (h1 : (assignEach [.Tuple es kk tp] X.env).map (·.2) = [assign (.Tuple es kk tp) X.env] := by rfl) : W1 X ρ μ (.Assign [.Tuple es kk tp] a pos) T :=
  W1.of (ps_asg (g := fun v σ H Q => ∃ (ρ : Rho) (x : Item) (G : Rho → Prop), IR X.K H v x ∧ RS X.K H ρ σ ∧ g x ρ G ∧ ∀ ρ' σ', RS X.K H ρ' σ' → StaysBut sl σ σ' → G ρ' → Q σ' H) pe_g
    ⟨fun pins s σ H v u Q I r ⟨ρ, x, G, a, b, c, d⟩ => hg pins s σ H v u Q ρ x G I r a b c d⟩ hs hw h1) fun D σ H hs hm k => h.g hs hm fun v r μ1 H1 m1 r1 t1 ⟨q, xs, er, hq, hG⟩ => by
      subst er
      cases r1
      obtain ⟨vs, s1, sv⟩ := (m1 _ _ hq).1
      exact ⟨ρ, .tp xs, _, ⟨q, vs, rfl, s1, sv⟩, hs.mono t1, hG, fun ρ' σ' hr _ hq => k.nx _ μ1 _ H1 hr m1 t1 hq⟩
/-- xs.insert(i, y) -/
theorem e_insert {f : Expr} (h : WE X ρ μ o fun μ1 y => ∃ l, y = .loc l ∧ (∃ xs, μ1 l = some (.lst xs)) ∧ WE X ρ μ1 e fun μ2 i => WE X ρ μ2 f fun μ3 r => ∃ (n : Nat) (xs : List SV), i = .int (n : Int) ∧ n < 10000000 ∧ μ3 l = some (.lst xs) ∧ xs.length < 10000000 ∧ P (updM μ3 l (.lst (xs.take n ++ [r] ++ xs.drop n))) (.dat .none))
    (hbase : attributeBase o "insert" X.env (eval o X.env) = eval o X.env := by rfl)
    (hfew : ((backTo pos (starEach [e, f] X.env)).all (fun x => !x.1) && (backToKw pos (keywordEach [] X.env)).all (fun x => x.1.isSome) && decide (([e, f] : List Expr).length + ([] : List Keyword).length + (if ([] : List Keyword).isEmpty then 0 else 1) < 30)) = true := by rfl)
    (hline : (apos.endLine == pos.line) = true := by rfl) (hst : starEach [e, f] X.env = (false, eval e X.env) :: starEach [f] X.env := by rfl) (hst2 : starEach [f] X.env = (false, eval f X.env) :: starEach [] X.env := by rfl) (hpl : (backTo pos (starEach [f] X.env)).any (·.1) = false := by rfl) : WE X ρ μ (.Call (.Attribute o "insert" apos) [e, f] [] pos) P :=
  WE.of (pe_bm PySem.F.plainAttrs_list PySem.F.slot_list_insert PySem.F.type_list_insert mt_insert pe_g (pa_cons pe_g (pa_cons pe_g pa_nil hst2) hst) hbase hfew hline (hs := hst) hpl) fun σ H Q hs hm k => h.g hs hm fun v y μ1 H1 m1 r1 t1 ⟨l, ey, ⟨ys, hl⟩, h2⟩ => by
    subst ey
    obtain ⟨us, hu, su⟩ := m1.lst hl
    cases r1
    refine ⟨tyL (SqL.of hu), h2.g (hs.mono t1) m1 fun u i μ2 H2 m2 r2 t2 h3 => h3.g (hs.mono (t1.trans t2)) m2 fun w r μ3 H3 m3 r3 t3 ⟨n, xs, ei, hn, hx, hz, hP⟩ => ?_⟩
    subst ei
    cases TD.int_inv r2
    obtain ⟨vs, hv, sv⟩ := m3.lst hx
    have te := TEx.mut (o := .lst (vs.take n ++ [w] ++ vs.drop n)) (loose_lst hv)
    refine ⟨l, vs, (n : Int), w, rfl, rfl, hv, by rw [sv.length, sizeLine_eq]; omega, by omega, by omega, ?_⟩
    have e1 : ((n : Int)).toNat = n := by omega
    rw [e1]
    exact k _ _ _ _ (m3.setL hv (((sv.take n).append (.cons r3 .nil)).append (sv.drop n))) sv_non (t1.trans (t2.trans (t3.trans te))) hP
/-! ### flat things: index, in -/
def eqO : Option Int → Option Int → Bool
  | some a, some b => a == b
  | none, none => true
  | _, _ => false
def encO : Option Int → PyData
  | none => .none
  | some z => .int z
def vO : Option Int → V
  | none => .non
  | some z => .int z
theorem TD.encO_inv {K : PySem.W.Frag} {H : Hp} {v : V} {o : Option Int} (h : TD K H v (encO o)) : v = vO o := by
  cases o with
  | none => exact TD.non_inv h
  | some z => exact TD.int_inv h
theorem TDs.encOs {K : PySem.W.Frag} {H : Hp} : ∀ {os : List (Option Int)} {vs : List V}, TDs K H vs (os.map encO) → vs = os.map vO
  | [], _, h => by cases h; rfl
  | o :: os, _, h => by cases h with | cons h1 h2 => rw [TD.encO_inv (o := o) h1, TDs.encOs h2]; rfl
theorem flat_vOs (os : List (Option Int)) : (os.map vO).all flatV = true := by
  rw [List.all_map]
  exact List.all_eq_true.mpr fun o _ => by cases o <;> rfl
theorem eqV_vO (a b : Option Int) : eqV (vO a) (vO b) = decide (a = b) := by
  cases a <;> cases b <;> simp [vO, eqV, BEq.beq, decide_eq_decide]
theorem inV_vO (a : Option Int) (os : List (Option Int)) : inV (vO a) (os.map vO) = decide (a ∈ os) := by
  unfold inV
  rw [List.any_map]
  rw [Bool.eq_iff_iff, List.any_eq_true, decide_eq_true_eq]
  constructor
  · rintro ⟨x, hx, e⟩
    have e : eqV (vO x) (vO a) = true := e
    rw [eqV_vO, decide_eq_true_eq] at e
    rw [← e]; exact hx
  · intro h
    refine ⟨a, h, ?_⟩
    show eqV (vO a) (vO a) = true
    rw [eqV_vO]; simp
theorem SVs.encOs {K : PySem.W.Frag} {H : Hp} {os : List (Option Int)} {vs : List V} (h : SVs K H vs (os.map fun o => SV.dat (encO o))) : vs = os.map vO := by
  have e : (os.map fun o => SV.dat (encO o)) = (os.map encO).map SV.dat := by rw [List.map_map]; rfl
  rw [e] at h
  exact TDs.encOs h.dats
/-- the place of the first -/
def Fst {α : Type} (os : List α) (x : α) (j : Nat) : Prop := os[j]? = some x ∧ ∀ m, m < j → os[m]? ≠ some x
theorem fst_idx {α : Type} [DecidableEq α] {os : List α} {x : α} (h : x ∈ os) : Fst os x (os.idxOf x) := by
  induction os with
  | nil => cases h
  | cons a os ih =>
    by_cases e : a = x
    · subst e
      rw [List.idxOf_cons_self]
      exact ⟨rfl, fun m hm => by omega⟩
    · rw [List.idxOf_cons, beq_eq_false_iff_ne.mpr e, cond_false]
      have hx : x ∈ os := by
        rcases List.mem_cons.mp h with q | q
        · exact absurd q.symm e
        · exact q
      obtain ⟨h1, h2⟩ := ih hx
      refine ⟨by simpa using h1, fun m hm => ?_⟩
      cases m with
      | zero => simp; exact e
      | succ m => simpa using h2 m (by omega)
/-- a method of a tuple whose object has no dict -/
def tBMN (K : PySem.W.Frag) (r : V → List V → Hp → VK → Prop) (to : TE) (t : TA) : TE := fun σ H Q => to σ H fun x H1 => (∃ a xs, x = .ref a ∧ SqN K H1 a xs) ∧ t σ H1 fun xs H2 => r x xs H2 Q
theorem pe_bmN {es : List Expr} {to : TE} {t : TA} {name : Str} {apos cpos : Pos} {id : String} {r : V → List V → Hp → VK → Prop} (slot : Slot "tuple" name id) (hty : typeOf (.builtin id) = pure (.type "method_descriptor")) (hm : MtR X id r) (ho : PE X o to) (ha : PA X (e :: es) t)
    (hbase : attributeBase o name X.env (eval o X.env) = eval o X.env := by rfl)
    (hfew : ((backTo cpos (starEach (e :: es) X.env)).all (fun x => !x.1) && (backToKw cpos (keywordEach [] X.env)).all (fun x => x.1.isSome)
      && decide ((e :: es).length + ([] : List Keyword).length + (if ([] : List Keyword).isEmpty then 0 else 1) < 30)) = true := by rfl)
    (hline : (apos.endLine == cpos.line) = true := by rfl) (hs : starEach (e :: es) X.env = (false, eval e X.env) :: starEach es X.env := by rfl) (hplain : (backTo cpos (starEach es X.env)).any (·.1) = false := by rfl) :
    PE X (.Call (.Attribute o name apos) (e :: es) [] cpos) (tBMN X.K r to t) := by
  refine ⟨fun pins s σ H Q I h => ?_⟩
  refine wpAny_Call_method_late hbase hfew hline rfl (thn (ho.run pins s σ H _ I h) fun v s1 ⟨x, H1, I1, r1, ⟨a, xs, ex, o', hx, hd⟩, q1⟩ => ?_)
  subst ex
  obtain ⟨ho', _, its, _, o2, ho2, hc, _⟩ := I1.hok a _ hx
  rw [ho'] at ho2
  cases ho2
  cases r1
  refine ⟨"tuple", id, PySem.F.plainAttrs_tuple, slot, hty, ⟨_, ho', hc⟩, fun b eb => by cases eb; exact ⟨_, ho', hd⟩, ?_⟩
  have hA := ha.run cpos pins s1 σ H1 _ I1 q1
  rw [hs] at hA ⊢
  refine Calls.callWith_builtin (by show (false || (backTo cpos (starEach es X.env)).any (·.1)) = false; rw [hplain] <;> rfl) (Calls.evalArgs_plain ?_)
  exact thn hA fun us s2 ⟨vs, H2, I2, r2, q2⟩ => hm pins s2 σ H2 (.ref a) vs (.ref a) us Q I2 rfl r2 q2
theorem e_tindex (h : WE X ρ μ o fun μ1 y => ∃ os : List (Option Int), y = .dat (.list (os.map encO)) ∧ WE X ρ μ1 e fun μ2 r => ∃ z j, r = .dat (encO z) ∧ Fst os z j ∧ P μ2 (.int (j : Nat)))
    (hbase : attributeBase o "index" X.env (eval o X.env) = eval o X.env := by rfl)
    (hfew : ((backTo pos (starEach [e] X.env)).all (fun x => !x.1) && (backToKw pos (keywordEach [] X.env)).all (fun x => x.1.isSome) && decide (([e] : List Expr).length + ([] : List Keyword).length + (if ([] : List Keyword).isEmpty then 0 else 1) < 30)) = true := by rfl)
    (hline : (apos.endLine == pos.line) = true := by rfl) (hst : starEach [e] X.env = (false, eval e X.env) :: starEach [] X.env := by rfl) : WE X ρ μ (.Call (.Attribute o "index" apos) [e] [] pos) P :=
  WE.of (pe_bmN PySem.F.slot_tuple_index PySem.F.type_tuple_index mt_tindex pe_g (pa_cons pe_g pa_nil hst) hbase hfew hline (hs := hst)) fun σ H Q hs hm k => h.g hs hm fun v y μ1 H1 m1 r1 t1 ⟨os, ey, h2⟩ => by
    subst ey
    obtain ⟨l, xs, rfl, s1, ts⟩ := TD.mk_inv r1
    refine ⟨⟨l, xs, rfl, s1⟩, h2.g (hs.mono t1) m1 fun u r μ2 H2 m2 r2 t2 ⟨z, j, er, ⟨hj, hno⟩, hP⟩ => ?_⟩
    subst er
    have ex := TDs.encOs ts
    subst ex
    cases TD.encO_inv r2
    refine ⟨l, os.map vO, vO z, j, vO z, rfl, rfl, t2.sq s1.sq, by cases z <;> rfl, flat_vOs os, by rw [List.getElem?_map, hj]; rfl, by rw [eqV_vO]; simp, fun m z' hm hz' => ?_, k _ _ _ _ m2 (sv_int _) (t1.trans t2) hP⟩
    rw [List.getElem?_map] at hz'
    cases h3 : os[m]? with
    | none => rw [h3] at hz'; cases hz'
    | some w =>
      rw [h3] at hz'
      cases hz'
      rw [eqV_vO, decide_eq_false_iff_not]
      intro ew
      subst ew
      exact hno m hm h3
/-- tuple(list), marked -/
theorem call_tuple_ofN : CallR X (.type "tuple") (fun xs H Q => ∃ p ys, xs = [.ref p] ∧ SqL X.K H p ys ∧ ∀ l o, H l = none → o.dict = none → Q (.ref l) (upd H l (.frz o (.tup ys)))) := by
  intro pins s σ H xs us Q I r h
  obtain ⟨p, ys, rfl, hq, q⟩ := h
  obtain ⟨u, rfl, rx⟩ := vals1 r
  cases rx
  obtain ⟨its, r', pl, hz⟩ := I.list hq
  have hlen := r'.length
  refine call_tuple_list pl.isList (fun h' kp => ?_) (by simp only [List.size_toArray] <;> omega)
  have I1 : Inv X pins σ H { s with heap := h' } := I.kept (t' := s.toks) kp
  have I2 : Inv X pins σ (upd H h'.objs.size (.frz { cls := .type "tuple", data := .seq its.toArray } (.tup ys))) { s with heap := h'.push { cls := .type "tuple", data := .seq its.toArray } } :=
    I1.laid (t' := s.toks) (fun b o e => Heap.get?_push_of_some _ e) (Nat.le_refl _) (show ObjOk X.prog X.w _ _ _ (.frz _ (.tup ys)) from ⟨Heap.get?_push_size _ rfl, hz, its, r', IsTup.new _ _⟩)
  exact ⟨.ref h'.objs.size, _, I2, rfl, q _ _ (I1.hok.fresh (Nat.le_refl _)) rfl⟩
theorem e_tupleN {p : Pos} (hm : X.mg "tuple" = none) (h : WE X ρ μ a fun μ1 x => ∃ l ds, x = .loc l ∧ isL μ1 l (ds.map SV.dat) ∧ P μ1 (.dat (.list ds))) (hg : Gl X "tuple" := by rfl) (he : starEach [a] X.env = (false, eval a X.env) :: starEach [] X.env := by rfl) : WE X ρ μ (.Call (.Name "tuple" p) [a] [] pos) P :=
  e_ty call_tuple_ofN hm (by decide +kernel) (a_one (h.imp fun μ1 x ⟨l, ds, ex, hl, q⟩ vs H Q hv m k => by
    subst ex
    obtain ⟨v, rfl, hw⟩ := hv.one
    cases hw
    obtain ⟨ys, s1, ts⟩ := m.seq hl
    exact ⟨l, ys, rfl, s1, fun p o hp ho => k _ (.dat (.list ds)) _ _ (m.new0 hp) (show TD X.K _ _ (.list ds) from .mk ⟨o, upd_same, ho⟩ (ts.dats.mono (TEx.new hp))) (TEx.new hp) q⟩) he) hg (by decide) (by decide) he
/-- a marked tuple taken for a tuple -/
theorem WE.down (h : WE X ρ μ a fun μ1 x => ∃ d d', x = .dat d ∧ Dn d d' ∧ P μ1 (.dat d')) : WE X ρ μ a P := fun pins s σ H Q I hs hm k =>
  h pins s σ H Q I hs hm fun v r μ' H' m r' t ⟨d, d', e, hd, p⟩ => by
    subst e
    exact k _ (.dat d') _ _ m (TD.down hd r') t p
theorem dn_encO (o : Option Int) : Dn (encO o) (encO o) := by cases o <;> simp [encO, Dn]
theorem dn_encOs : ∀ os : List (Option Int), Dns (os.map encO) (os.map encO)
  | [] => by simp [Dns]
  | o :: os => by simp only [List.map_cons, Dns]; exact ⟨dn_encO o, dn_encOs os⟩
theorem e_lindex (h : WE X ρ μ o fun μ1 y => ∃ l, y = .loc l ∧ (∃ xs, isL μ1 l xs) ∧ WE X ρ μ1 e fun μ2 r => ∃ (os : List (Option Int)) (z : Option Int) (j : Nat), isL μ2 l (os.map fun o => SV.dat (encO o)) ∧ r = .dat (encO z) ∧ Fst os z j ∧ P μ2 (.int (j : Nat)))
    (hbase : attributeBase o "index" X.env (eval o X.env) = eval o X.env := by rfl)
    (hfew : ((backTo pos (starEach [e] X.env)).all (fun x => !x.1) && (backToKw pos (keywordEach [] X.env)).all (fun x => x.1.isSome) && decide (([e] : List Expr).length + ([] : List Keyword).length + (if ([] : List Keyword).isEmpty then 0 else 1) < 30)) = true := by rfl)
    (hline : (apos.endLine == pos.line) = true := by rfl) (hst : starEach [e] X.env = (false, eval e X.env) :: starEach [] X.env := by rfl) : WE X ρ μ (.Call (.Attribute o "index" apos) [e] [] pos) P :=
  WE.of (pe_bm PySem.F.plainAttrs_list PySem.F.slot_list_index PySem.F.type_list_index mt_index pe_g (pa_cons pe_g pa_nil hst) hbase hfew hline (hs := hst)) fun σ H Q hs hm k => h.g hs hm fun v y μ1 H1 m1 r1 t1 ⟨l, ey, ⟨ys, hl⟩, h2⟩ => by
    subst ey
    cases r1
    obtain ⟨us, hu, su⟩ := m1.seq hl
    refine ⟨tyL hu, h2.g (hs.mono t1) m1 fun u r μ2 H2 m2 r2 t2 ⟨os, z, j, hl2, er, ⟨hj, hno⟩, hP⟩ => ?_⟩
    subst er
    obtain ⟨us2, hu2, su2⟩ := m2.seq hl2
    have ex := SVs.encOs su2
    subst ex
    cases TD.encO_inv r2
    refine ⟨l, os.map vO, vO z, j, vO z, rfl, rfl, hu2, by cases z <;> rfl, flat_vOs os, by rw [List.getElem?_map, hj]; rfl, by rw [eqV_vO]; simp, fun m z' hm hz' => ?_, k _ _ _ _ m2 (sv_int _) (t1.trans t2) hP⟩
    rw [List.getElem?_map] at hz'
    cases h3 : os[m]? with
    | none => rw [h3] at hz'; cases hz'
    | some w =>
      rw [h3] at hz'
      cases hz'
      rw [eqV_vO, decide_eq_false_iff_not]
      intro ew
      subst ew
      exact hno m hm h3
/-- z in a tuple, z in a list: ints and None -/
theorem t_inO {T : Mu → Bool → Prop} (h : WE X ρ μ a fun μ1 x => WE X ρ μ1 b fun μ2 y => ∃ (z : Option Int) (os : List (Option Int)), x = .dat (encO z) ∧ (y = .tup (os.map encO) ∨ ∃ l, y = .loc l ∧ isL μ2 l (os.map fun o => SV.dat (encO o))) ∧ T μ2 (decide (z ∈ os))) (hb : behindInMarks .In b = false := by rfl) : WT X ρ μ (.Compare a [.In] [b] pos) T :=
  t_cmp op_in_seq (h.imp fun μ1 x q => q.imp fun μ2 y ⟨z, os, ex, ey, hT⟩ v u H Q hv hu' hm kk => by
    subst ex
    have fin : ∀ xs : List V, xs = os.map vO → Q (.bl (if false = true then !inV v xs else inV v xs)) H := fun xs e => by
      subst e
      cases TD.encO_inv hv
      rw [if_neg (by simp), inV_vO]
      exact kk _ _ μ2 H hm (sv_bl _) (TEx.refl H) ⟨_, rfl, hT⟩
    have fv : flatV v = true := by cases TD.encO_inv hv; cases z <;> rfl
    rcases ey with ey | ⟨l, ey, hl⟩
    · subst ey
      obtain ⟨l, xs, rfl, s1, ts⟩ := TD.tup_inv hu'
      have e := TDs.encOs ts
      exact ⟨l, xs, rfl, .inr s1, fv, by rw [e]; exact flat_vOs os, fin xs e⟩
    · subst ey
      cases hu'
      obtain ⟨us, hs2, su⟩ := hm.seq hl
      have e := SVs.encOs su
      exact ⟨l, us, rfl, .inl hs2, fv, by rw [e]; exact flat_vOs os, fin us e⟩) hb
theorem inV_bl (c : Bool) : ∀ bs : List Bool, inV (.bl c) (bs.map V.bl) = bs.any (· == c)
  | [] => rfl
  | d :: bs => by
    have := inV_bl c bs
    unfold inV at this ⊢
    rw [List.map_cons, List.any_cons, List.any_cons, this]
    rfl
theorem flat_bls (bs : List Bool) : (bs.map V.bl).all flatV = true := by
  rw [List.all_map]
  exact List.all_eq_true.mpr fun o _ => rfl
theorem e_inB (h : WE X ρ μ a fun μ1 x => WE X ρ μ1 b fun μ2 y => ∃ (c : Bool) (l : Addr) (bs : List Bool), x = .dat (.bool c) ∧ y = .loc l ∧ isL μ2 l (bs.map fun c => SV.dat (.bool c)) ∧ P μ2 (.dat (.bool (bs.any (· == c))))) (hb : behindInMarks .In b = false := by rfl) : WE X ρ μ (.Compare a [.In] [b] pos) P :=
  e_cmp op_in_seq (h.imp fun μ1 x q => q.imp fun μ2 y ⟨c, l, bs, ex, ey, hl, hT⟩ v u H Q hv hu' hm kk => by
    subst ex ey
    cases TD.bl_inv hv
    cases hu'
    obtain ⟨us, hs2, su⟩ := hm.seq hl
    cases bls_of su
    refine ⟨l, _, rfl, .inl hs2, rfl, flat_bls bs, ?_⟩
    rw [if_neg (by simp), inV_bl]
    exact kk _ _ μ2 H hm (sv_bl _) (TEx.refl H) hT) hb
theorem e_notinB (h : WE X ρ μ a fun μ1 x => WE X ρ μ1 b fun μ2 y => ∃ (c : Bool) (l : Addr) (bs : List Bool), x = .dat (.bool c) ∧ y = .loc l ∧ isL μ2 l (bs.map fun c => SV.dat (.bool c)) ∧ P μ2 (.dat (.bool (!bs.any (· == c))))) (hb : behindInMarks .NotIn b = false := by rfl) : WE X ρ μ (.Compare a [.NotIn] [b] pos) P :=
  e_cmp op_notIn_seq (h.imp fun μ1 x q => q.imp fun μ2 y ⟨c, l, bs, ex, ey, hl, hT⟩ v u H Q hv hu' hm kk => by
    subst ex ey
    cases TD.bl_inv hv
    cases hu'
    obtain ⟨us, hs2, su⟩ := hm.seq hl
    cases bls_of su
    refine ⟨l, _, rfl, .inl hs2, rfl, flat_bls bs, ?_⟩
    rw [if_pos rfl, inV_bl]
    exact kk _ _ μ2 H hm (sv_bl _) (TEx.refl H) hT) hb
/-! ### list(range(n)) -/
theorem rg_svs {K : PySem.W.Frag} {H : Hp} (n : Nat) : SVs K H (rgV 0 (n : Int)) ((List.range n).map fun i : Nat => SV.int (i : Int)) := by
  have e : rgV 0 (n : Int) = ((List.range n).map fun i : Nat => (i : Int)).map V.int := by
    unfold rgV
    rw [List.map_map]
    have : ((n : Int) - 0).toNat = n := by omega
    rw [this]
    exact List.map_congr_left fun i _ => by simp
  have e2 : ((List.range n).map fun i : Nat => SV.int (i : Int)) = (((List.range n).map fun i : Nat => (i : Int)).map PyData.int).map SV.dat := by
    rw [List.map_map, List.map_map]; rfl
  rw [e, e2]
  exact SVs.of_dats (TDs.of_ints _)
theorem e_listRg {p p2 pos2 : Pos} (hc : X.calm = true) (hm : X.mg "list" = none) (hm2 : X.mg "range" = none) (h : WE X ρ μ a fun μ1 x => ∃ n : Nat, x = .int (n : Int) ∧ n ≤ 1000000 ∧ ∀ q, μ1 q = none → P (updM μ1 q (.lst ((List.range n).map fun i : Nat => SV.int (i : Int)))) (.loc q)) (hg : Gl X "list" := by rfl) (hg2 : Gl X "range" := by rfl)
    (he : starEach [a] X.env = (false, eval a X.env) :: starEach [] X.env := by rfl) (he2 : starEach [.Call (.Name "range" p2) [a] [] pos2] X.env = (false, eval (.Call (.Name "range" p2) [a] [] pos2) X.env) :: starEach [] X.env := by rfl) : WE X ρ μ (.Call (.Name "list" p) [.Call (.Name "range" p2) [a] [] pos2] [] pos) P :=
  WE.of (pe_listRg hc hg hm (prg_1 hg2 hm2 pe_g he) he2) fun σ H Q hs hm k => h.g hs hm fun v x μ1 H1 m1 r1 t1 ⟨n, ex, hn, q⟩ => by
    subst ex
    cases TD.int_inv r1
    exact ⟨n, rfl, RgOk.of_le (by omega) (by omega) (by omega) (by omega), fun p hp => k _ (.loc p) _ _ (m1.new (c := .lst ((List.range n).map fun i : Nat => SV.int (i : Int))) hp ⟨_, upd_same, rg_svs n⟩) rfl (t1.trans (TEx.new hp)) (q p (m1.fresh hp))⟩
/-! ### sorted(set(xs)), len(set(xs)) -/
theorem e_sortedSet {p p2 pos2 : Pos} (hc : X.calm = true) (hm : X.mg "sorted" = none) (hm2 : X.mg "set" = none) (h : WE X ρ μ a fun μ1 x => ∃ (l : Addr) (ns : List Int), x = .loc l ∧ isL μ1 l (ns.map SV.int) ∧ ns.length < 64 ∧ ∀ (ks : List Int) q, ks.Pairwise (· < ·) → (∀ k, k ∈ ks ↔ k ∈ ns) → μ1 q = none → P (updM μ1 q (.lst (ks.map SV.int))) (.loc q)) (hg : Gl X "sorted" := by rfl) (hg2 : Gl X "set" := by rfl)
    (he : starEach [a] X.env = (false, eval a X.env) :: starEach [] X.env := by rfl) (he2 : starEach [.Call (.Name "set" p2) [a] [] pos2] X.env = (false, eval (.Call (.Name "set" p2) [a] [] pos2) X.env) :: starEach [] X.env := by rfl) : WE X ρ μ (.Call (.Name "sorted" p) [.Call (.Name "set" p2) [a] [] pos2] [] pos) P :=
  WE.of (pe_callB (cr_sortedSet hc) hg hm (by decide +kernel) (pa_cons (pe_callTy (cr_setL hc) hg2 hm2 (by decide +kernel) (pa_cons pe_g pa_nil he) (by decide) (by decide) he) pa_nil he2) (by decide) (by decide) he2) fun σ H Q hs hm k => h.g hs hm fun v x μ1 H1 m1 r1 t1 ⟨l, ns, ex, hl, hn, q⟩ => by
    subst ex
    cases r1
    obtain ⟨us, s1, su⟩ := m1.seq hl
    cases su.ints
    refine ⟨l, ns, rfl, s1, by omega, fun p c hp hc' => ?_⟩
    refine ⟨p, _, c, rfl, upd_same, by omega, fun ks q' hks hk _ hq => ?_⟩
    have m2 := m1.new0 (o := SetO X.w p (fun j => decide (j ∈ ns)) c) hp
    exact k _ (.loc q') _ _ (m2.new (c := .lst (ks.map SV.int)) hq ⟨_, upd_same, by
      have e2 : ks.map SV.int = (ks.map PyData.int).map SV.dat := by rw [List.map_map]; rfl
      rw [e2]; exact SVs.of_dats (TDs.of_ints _)⟩) rfl (t1.trans ((TEx.new hp).trans (TEx.new hq))) (q ks q' hks (fun k => by rw [hk k, decide_eq_true_eq]) (m2.fresh hq))
theorem e_lenSet {p p2 pos2 : Pos} (hc : X.calm = true) (hm : X.mg "len" = none) (hm2 : X.mg "set" = none) (h : WE X ρ μ a fun μ1 x => ∃ (l : Addr) (ns : List Int), x = .loc l ∧ isL μ1 l (ns.map SV.int) ∧ ns.length ≤ 1000 ∧ ∀ (ks : List Int), ks.Nodup → (∀ k, k ∈ ks ↔ k ∈ ns) → P μ1 (.int ks.length)) (hg : Gl X "len" := by rfl) (hg2 : Gl X "set" := by rfl)
    (he : starEach [a] X.env = (false, eval a X.env) :: starEach [] X.env := by rfl) (he2 : starEach [.Call (.Name "set" p2) [a] [] pos2] X.env = (false, eval (.Call (.Name "set" p2) [a] [] pos2) X.env) :: starEach [] X.env := by rfl) : WE X ρ μ (.Call (.Name "len" p) [.Call (.Name "set" p2) [a] [] pos2] [] pos) P :=
  WE.of (pe_callB cr_lenSet hg hm PySem.boot_len (pa_cons (pe_callTy (cr_setL hc) hg2 hm2 (by decide +kernel) (pa_cons pe_g pa_nil he) (by decide) (by decide) he) pa_nil he2) (by decide) (by decide) he2) fun σ H Q hs hm k => h.g hs hm fun v x μ1 H1 m1 r1 t1 ⟨l, ns, ex, hl, hn, q⟩ => by
    subst ex
    cases r1
    obtain ⟨us, s1, su⟩ := m1.seq hl
    cases su.ints
    refine ⟨l, ns, rfl, s1, hn, fun p c hp hc' => ?_⟩
    refine ⟨p, _, c, rfl, upd_same, fun ks hks hk => ?_⟩
    exact k _ _ _ _ (m1.new0 hp) (sv_int _) (t1.trans (TEx.new hp)) (q ks hks fun k => by rw [hk k, decide_eq_true_eq])
theorem e_lenSc {elt tg iter : Expr} {ifs : List Expr} {scope : Scope} {g : Tg} {p pos2 : Pos} (own : List (Str × Nat)) (hc : X.calm = true) (hN : X.N.Nodup) (ok : BlkOk X.N X.env.scope scope own) (hsl : ∀ i ∈ sl, i ∈ own.map (·.2))
    (hg : ∀ (s : Shared) (H : Hp) (C : Addr) (cl : List (Str × Addr)) (fp : List Addr), WG (X.blk s H scope (compEnvC scope cl C X.env) fp) tg sl g) (hm : X.mg "len" = none)
    (h : WI X ρ μ tg iter fun μ1 n Y G => n ≤ 1000 ∧ G μ1 ∧ ∃ f : Nat → Option Int, (∀ i x μ', i < n → Y i x → MSub μ1 μ' → g x (wipeR ρ (own.map (·.2))) fun ρ2 => ∀ (s : Shared) (H : Hp) (C : Addr) (cl : List (Str × Addr)) (fp : List Addr),
        WTs (X.blk s H scope (compEnvC scope cl C X.env) fp) ρ2 μ' ifs fun μ2 b => μ2 = μ' ∧ b = (f i).isSome ∧ (b = true → ∀ (s : Shared) (H : Hp) (C : Addr) (cl : List (Str × Addr)) (fp : List Addr),
          WE (X.blk s H scope (compEnvC scope cl C X.env) fp) ρ2 μ' elt fun μ3 y => μ3 = μ' ∧ ∃ z, f i = some z ∧ y = .int z)) ∧
      ∀ l : List Int, l.Nodup → (∀ k, k ∈ l ↔ ∃ i, i < n ∧ f i = some k) → P μ1 (.int l.length))
    (hgl : Gl X "len" := by rfl) (he : starEach [.SetComp elt [⟨tg, iter, ifs, 0⟩] scope pos] X.env = (false, eval (.SetComp elt [⟨tg, iter, ifs, 0⟩] scope pos) X.env) :: starEach [] X.env := by rfl)
    (hs : ∀ x, foldedSetIterable iter X.env x = pure x := by intro _; rfl) : WE X ρ μ (.Call (.Name "len" p) [.SetComp elt [⟨tg, iter, ifs, 0⟩] scope pos] [] pos2) P := by
  refine fun pins s σ H Q I hsr hmr k => ?_
  have pe := pe_callB (p := p) (pos := pos2) cr_lenSet hgl hm PySem.boot_len (pa_cons (pe_scI (X := X) (elt := elt) (tg := tg) (iter := iter) (ifs := ifs) (scope := scope) (own := own) (pos := pos) (wi := gI X tg iter)
    (g := fun v σ H Q => ∃ (ρ : Rho) (x : Item) (G : Rho → Prop), IR X.K H v x ∧ RS X.K H ρ σ ∧ g x ρ G ∧ ∀ ρ' σ', RS X.K H ρ' σ' → StaysBut sl σ σ' → G ρ' → Q σ' H)
    (tt := fun σ H Q => ∀ (s : Shared) (H0 : Hp) (C : Addr) (cl : List (Str × Addr)) (fp : List Addr), gTs (X.blk s H0 scope (compEnvC scope cl C X.env) fp) ifs σ H (fun b H' => Q b H'))
    (te := fun σ H Q => ∀ (s : Shared) (H0 : Hp) (C : Addr) (cl : List (Str × Addr)) (fp : List Addr), gE (X.blk s H0 scope (compEnvC scope cl C X.env) fp) elt σ H Q)
    hc hN pi_g ok (fun s0 H0 C cl fp => ⟨fun pins s σ H v u Q I r ⟨ρ, x, G, a, b, c, d⟩ => hg s0 H0 C cl fp pins s σ H v u Q ρ x G I r a b c d⟩)
    (fun s0 H0 C cl fp => ⟨fun pins s σ H Q I h => pts_g.run pins s σ H Q I (h s0 H0 C cl fp)⟩) (fun s0 H0 C cl fp => ⟨fun pins s σ H Q I h => h s0 H0 C cl fp pins s I⟩) hs) pa_nil he) (by decide) (by decide) he
  refine pe.run pins s σ H Q I ?_
  refine h.g hsr hmr fun J n Y G μ1 H1 m1 t1 dw ⟨hn, hG, f, ht, hP⟩ D hD => ?_
  have hDn : μ1 D = none := m1.fresh hD
  refine ⟨fun i m H' => m = n - i ∧ i ≤ n ∧ TEx H1 H' ∧ ∃ c, c ≤ i ∧ MR X.prog X.w X.K (updM μ1 D (.seti (fun k => decide (k ∈ (List.range i).filterMap f)) c)) H', ⟨n, by simp, Nat.zero_le _, TEx.new hD, 0, Nat.le_refl _, ?_⟩, ?_⟩
  · refine m1.new hD ?_
    show upd _ D _ D = some (SetO X.w D _ 0)
    rw [upd_same]
    congr 2
  rintro i m H' ⟨rfl, hi, e, c, hci, hm'⟩
  have hm0 : MR X.prog X.w X.K μ1 H' := hm'.sub (MSub.upd hDn)
  by_cases hlt : i < n
  · refine .inr ⟨dw.go i H' μ1 hlt e hm0 hG, fun H2 => TEx H1 H2 ∧ ∃ c, c ≤ i + 1 ∧ MR X.prog X.w X.K (updM μ1 D (.seti (fun k => decide (k ∈ (List.range (i + 1)).filterMap f)) c)) H2, fun H2 ⟨a, b⟩ => ⟨n - (i + 1), by omega, rfl, hlt, a, b⟩, fun x H2 y => ?_⟩
    obtain ⟨e2, hk, z, hz, iz⟩ := dw.yld i H' x H2 μ1 hlt e hm0 hG y
    have t := ht i z (updM μ1 D (.seti (fun k => decide (k ∈ (List.range i).filterMap f)) c)) hlt hz (MSub.upd hDn)
    refine ⟨wipeR ρ (own.map (·.2)), z, _, iz, ((hsr.mono (t1.trans (e.trans e2))).wipe _), t, fun ρ2 σ2 hr2 st hq => ⟨wipe_stays st hsl, fun s0 H0 C cl fp => ?_⟩⟩
    refine (hq s0 H0 C cl fp).g hr2 (hk _ hm') fun b μ2 H3 m3 t3 ⟨e4, eb, hb⟩ => ?_
    subst e4
    have rg : (List.range (i + 1)).filterMap f = (List.range i).filterMap f ++ (f i).toList := by
      rw [List.range_succ, List.filterMap_append]
      congr 1
    cases b with
    | false =>
      show TEx H1 H3 ∧ _
      have fi : f i = none := by cases h : f i with
        | none => rfl
        | some z => rw [h] at eb; cases eb
      rw [fi] at rg
      refine ⟨e.trans (e2.trans t3), c, by omega, ?_⟩
      rw [rg]
      simpa using m3
    | true =>
      show ∀ (s : Shared) (H : Hp) (C : Addr) (cl : List (Str × Addr)) (fp : List Addr), _
      intro s5 H5 C5 cl5 fp5
      refine (hb rfl s5 H5 C5 cl5 fp5).g (hr2.mono t3) m3 fun v y μ6 H6 m6 r6 t6 ⟨e5, z', fz, ey⟩ => ?_
      subst e5 ey
      cases TD.int_inv r6
      have hD6 : H6 D = some (SetO X.w D (fun k => decide (k ∈ (List.range i).filterMap f)) c) := (m6 _ _ updM_same).1
      have hr2 : 2000 < scanBound := by decide
      have m7 := m6.set (o := SetO X.w D (fun j => decide (j ∈ (List.range i).filterMap f) || decide (j = z')) (if decide (z' ∈ (List.range i).filterMap f) = true then c else c + 1)) (c := .seti (fun j => decide (j ∈ (List.range i).filterMap f) || decide (j = z')) (if decide (z' ∈ (List.range i).filterMap f) = true then c else c + 1)) (loose_set hD6) (show upd _ D _ D = _ from upd_same)
      rw [updM_updM] at m7
      have eS : (fun k => decide (k ∈ (List.range (i + 1)).filterMap f)) = (fun j => decide (j ∈ (List.range i).filterMap f) || decide (j = z')) := by
        funext k
        rw [rg, fz]
        simp
      refine ⟨z', _, c, rfl, hD6, by omega, e.trans (e2.trans (t3.trans (t6.trans (TEx.mut (loose_set hD6))))), (if decide (z' ∈ (List.range i).filterMap f) = true then c else c + 1), by split <;> omega, ?_⟩
      rw [eS]
      exact m7
  · have e' : i = n := by omega
    subst e'
    refine .inl ⟨dw.stop H' μ1 e hm0 hG, D, _, c, rfl, (hm' _ _ updM_same).1, fun l hl hk => ?_⟩
    refine k _ _ _ _ hm0 (sv_int _) (t1.trans e) (hP l hl fun z => ?_)
    rw [hk z, decide_eq_true_eq, List.mem_filterMap]
    constructor
    · rintro ⟨j, hj, e⟩; exact ⟨j, List.mem_range.mp hj, e⟩
    · rintro ⟨j, hj, e⟩; exact ⟨j, List.mem_range.mpr hj, e⟩
end
end AV
-- text LyX5
set_option Elab.async false
set_option linter.all false
set_option maxRecDepth 100000
set_option maxHeartbeats 4000000
/-! comprehensions whose items may make new cells -/
namespace AV
open PySem PySem.Spec PyProof.Rows L2
theorem ff {p : Prop} (h : false = true) : p := Bool.noConfusion h
theorem ft {p : Prop} (h : true = false) : p := Bool.noConfusion h
theorem sz {n : Nat} (h : n ≤ 1000 := by exact Nat.le_of_ble_eq_true rfl) : n ≤ sizeLine := by rw [sizeLine_eq]; omega
/-- wanted of a value in any greater store -/
abbrev Pu (μ : Mu) (P : PK) (r : SV) : Prop := ∀ μ', MSub μ μ' → P μ' r
def rmM (μ : Mu) (a : Addr) : Mu := fun b => if b = a then none else μ b
theorem rmM_same {μ : Mu} {a : Addr} : rmM μ a a = none := by unfold rmM; rw [if_pos rfl]
theorem rmM_back {μ : Mu} {a : Addr} {c : Cell} (h : μ a = some c) : μ = updM (rmM μ a) a c := by
  funext b
  unfold updM rmM
  by_cases e : b = a
  · rw [if_pos e, e, h]
  · rw [if_neg e, if_neg e]
theorem rmM_sub {μ μ' : Mu} {a : Addr} (s : MSub μ μ') (h : μ a = none) : MSub μ (rmM μ' a) := fun b c e => by
  unfold rmM
  rw [if_neg (neM e h)]
  exact s b c e
theorem MSub.get {μ μ' : Mu} {a : Addr} {c : Cell} (s : MSub μ μ') (h : μ a = some c) : μ' a = some c := s a c h
theorem MSub.new {μ μ' : Mu} {a : Addr} {c : Cell} (s : MSub μ μ') (h : μ' a = none) : MSub μ (updM μ' a c) := s.trans (MSub.upd h)
theorem isL.sub {μ μ' : Mu} {a : Addr} {xs : List SV} (h : isL μ a xs) (s : MSub μ μ') : isL μ' a xs := h.elim (fun e => .inl (s _ _ e)) fun e => .inr (s _ _ e)
section
variable {X : Cx} {ρ : Rho} {μ : Mu} {tg iter elt : Expr} {ifs : List Expr} {scope : Scope} {P : PK} {pos : Pos} {sl : List Nat} {g : Tg}
theorem l_compS [tm : TgM g] (own : List (Str × Nat)) (f : Nat → Option SV) (hc : X.calm = true) (hN : X.N.Nodup) (ok : BlkOk X.N X.env.scope scope own) (hsl : ∀ i ∈ sl, i ∈ own.map (·.2))
    (hg : ∀ (s : Shared) (H : Hp) (C : Addr) (cl : List (Str × Addr)) (fp : List Addr), WG (X.blk s H scope (compEnvC scope cl C X.env) fp) tg sl g)
    (h : WI X ρ μ tg iter fun μ1 n Y G => n ≤ 10000000 ∧ (∀ μ', MSub μ1 μ' → G μ') ∧ (∀ i x μ', i < n → Y i x → MSub μ1 μ' → g x (wipeR ρ (own.map (·.2))) fun ρ2 => ∀ (s : Shared) (H : Hp) (C : Addr) (cl : List (Str × Addr)) (fp : List Addr),
        WTs (X.blk s H scope (compEnvC scope cl C X.env) fp) ρ2 μ' ifs fun μ2 b => MSub μ' μ2 ∧ b = (f i).isSome ∧ (b = true → ∀ (s : Shared) (H : Hp) (C : Addr) (cl : List (Str × Addr)) (fp : List Addr),
          WE (X.blk s H scope (compEnvC scope cl C X.env) fp) ρ2 μ2 elt fun μ3 y => MSub μ2 μ3 ∧ f i = some y)) ∧
      ∀ μ', MSub μ1 μ' → ∀ q, μ' q = none → P (updM μ' q (.lst ((List.range n).filterMap f))) (.loc q))
    (hs : ∀ x, foldedSetIterable iter X.env x = pure x := by intro _; rfl) : WLc X ρ μ elt tg iter ifs scope P :=
  l_lc own hc hN ok hsl hg (fun pins s σ H R I a b k => h pins s σ H R I a b fun J n Y G μ1 H' p q r ⟨hn, hG, ht, he⟩ => k J n Y G μ1 H' p q r
    ⟨fun i acc μ2 => MSub μ1 μ2 ∧ acc = (List.range i).filterMap f, hn, ⟨MSub.refl _, rfl⟩, fun i acc μ2 hi ⟨e1, e2⟩ => by subst e2; exact ⟨hG _ e1, by simpa using List.length_filterMap_le f (List.range i)⟩, fun i x acc μ2 D hi hy ⟨e1, e2⟩ hD => by
      subst e2
      have rg : (List.range (i + 1)).filterMap f = (List.range i).filterMap f ++ (f i).toList := by
        rw [List.range_succ, List.filterMap_append]
        congr 1
      refine tm.m (fun ρ2 hq s H C cl fp => ?_) (ht i x (updM μ2 D (.lst ((List.range i).filterMap f))) hi hy (e1.trans (MSub.upd hD)))
      have := hq s H C cl fp
      cases ifs with
      | nil =>
        obtain ⟨s1, hb, h2⟩ := (show _ ∧ _ ∧ _ from this)
        refine (show _ ∧ _ from ⟨fun e s H C cl fp => (h2 rfl s H C cl fp).imp fun μ3 y ⟨s2, fy⟩ => ?_, fun z => absurd z (by decide)⟩)
        have hD3 : μ3 D = some (.lst ((List.range i).filterMap f)) := s2 _ _ updM_same
        have hDn : μ1 D = none := by
          cases z : μ1 D with
          | none => rfl
          | some c => rw [e1 _ _ z] at hD; cases hD
        refine ⟨rmM μ3 D, rmM_back hD3, rmM_same, rmM_sub ((e1.trans (MSub.upd hD)).trans s2) hDn, ?_⟩
        rw [rg, fy]; rfl
      | cons c cs =>
        cases cs with
        | cons _ _ => exact this.elim
        | nil =>
          refine WT.imp (show WT _ _ _ _ _ from this) fun μ4 b ⟨s1, hb, h2⟩ => ?_
          have hDn : μ1 D = none := by
            cases z : μ1 D with
            | none => rfl
            | some c => rw [e1 _ _ z] at hD; cases hD
          refine ⟨fun e s H C cl fp => (h2 e s H C cl fp).imp fun μ3 y ⟨s2, fy⟩ => ?_, fun z => ?_⟩
          · have hD3 : μ3 D = some (.lst ((List.range i).filterMap f)) := s2 _ _ (s1 _ _ updM_same)
            refine ⟨rmM μ3 D, rmM_back hD3, rmM_same, rmM_sub (((e1.trans (MSub.upd hD)).trans s1).trans s2) hDn, ?_⟩
            rw [rg, fy]; rfl
          · have hD3 : μ4 D = some (.lst ((List.range i).filterMap f)) := s1 _ _ updM_same
            refine ⟨rmM μ4 D, rmM_back hD3, rmM_same, rmM_sub ((e1.trans (MSub.upd hD)).trans s1) hDn, ?_⟩
            have fi : f i = none := by
              cases h : f i with
              | none => rfl
              | some y => rw [h, z] at hb; cases hb
            rw [rg, fi]; simp,
      fun acc μ2 ⟨e1, e2⟩ q hq => by subst e2; exact he μ2 e1 q hq⟩) hs
theorem e_compS [tm : TgM g] (own : List (Str × Nat)) (f : Nat → Option SV) (hc : X.calm = true) (hN : X.N.Nodup) (ok : BlkOk X.N X.env.scope scope own) (hsl : ∀ i ∈ sl, i ∈ own.map (·.2))
    (hg : ∀ (s : Shared) (H : Hp) (C : Addr) (cl : List (Str × Addr)) (fp : List Addr), WG (X.blk s H scope (compEnvC scope cl C X.env) fp) tg sl g)
    (h : WI X ρ μ tg iter fun μ1 n Y G => n ≤ 10000000 ∧ (∀ μ', MSub μ1 μ' → G μ') ∧ (∀ i x μ', i < n → Y i x → MSub μ1 μ' → g x (wipeR ρ (own.map (·.2))) fun ρ2 => ∀ (s : Shared) (H : Hp) (C : Addr) (cl : List (Str × Addr)) (fp : List Addr),
        WTs (X.blk s H scope (compEnvC scope cl C X.env) fp) ρ2 μ' ifs fun μ2 b => MSub μ' μ2 ∧ b = (f i).isSome ∧ (b = true → ∀ (s : Shared) (H : Hp) (C : Addr) (cl : List (Str × Addr)) (fp : List Addr),
          WE (X.blk s H scope (compEnvC scope cl C X.env) fp) ρ2 μ2 elt fun μ3 y => MSub μ2 μ3 ∧ f i = some y)) ∧
      ∀ μ', MSub μ1 μ' → ∀ q, μ' q = none → P (updM μ' q (.lst ((List.range n).filterMap f))) (.loc q))
    (hs : ∀ x, foldedSetIterable iter X.env x = pure x := by intro _; rfl) : WE X ρ μ (.ListComp elt [⟨tg, iter, ifs, 0⟩] scope pos) P :=
  (l_compS own f hc hN ok hsl hg h hs).e
theorem filterMap_some {α : Type} (f : Nat → α) : ∀ l : List Nat, l.filterMap (fun i => some (f i)) = l.map f
  | [] => rfl
  | x :: xs => by rw [List.filterMap_cons, List.map_cons, filterMap_some f xs]
/-- each item made into a value -/
theorem l_mapS [tm : TgM g] (own : List (Str × Nat)) (f : Nat → SV) (hc : X.calm = true) (hN : X.N.Nodup) (ok : BlkOk X.N X.env.scope scope own) (hsl : ∀ i ∈ sl, i ∈ own.map (·.2))
    (hg : ∀ (s : Shared) (H : Hp) (C : Addr) (cl : List (Str × Addr)) (fp : List Addr), WG (X.blk s H scope (compEnvC scope cl C X.env) fp) tg sl g)
    (h : WI X ρ μ tg iter fun μ1 n Y G => n ≤ 10000000 ∧ (∀ μ', MSub μ1 μ' → G μ') ∧ (∀ i x μ', i < n → Y i x → MSub μ1 μ' → g x (wipeR ρ (own.map (·.2))) fun ρ2 => ∀ (s : Shared) (H : Hp) (C : Addr) (cl : List (Str × Addr)) (fp : List Addr),
        WE (X.blk s H scope (compEnvC scope cl C X.env) fp) ρ2 μ' elt fun μ3 y => MSub μ' μ3 ∧ y = f i) ∧
      ∀ μ', MSub μ1 μ' → ∀ q, μ' q = none → P (updM μ' q (.lst ((List.range n).map f))) (.loc q))
    (hs : ∀ x, foldedSetIterable iter X.env x = pure x := by intro _; rfl) : WLc X ρ μ elt tg iter [] scope P :=
  l_compS own (fun i => some (f i)) hc hN ok hsl hg (fun pins s σ H R I a b k => h pins s σ H R I a b fun J n Y G μ1 H' p q r ⟨hn, hG, ht, he⟩ => k J n Y G μ1 H' p q r
    ⟨hn, hG, fun i x μ' hi hy hm => tm.m (fun ρ2 hq s H C cl fp => ⟨MSub.refl _, rfl, fun _ s H C cl fp => (hq s H C cl fp).imp fun μ3 y ⟨s2, fy⟩ => ⟨s2, by rw [fy]⟩⟩) (ht i x μ' hi hy hm), fun μ' hm q hq => by rw [filterMap_some]; exact he μ' hm q hq⟩) hs
theorem e_mapS [tm : TgM g] (own : List (Str × Nat)) (f : Nat → SV) (hc : X.calm = true) (hN : X.N.Nodup) (ok : BlkOk X.N X.env.scope scope own) (hsl : ∀ i ∈ sl, i ∈ own.map (·.2))
    (hg : ∀ (s : Shared) (H : Hp) (C : Addr) (cl : List (Str × Addr)) (fp : List Addr), WG (X.blk s H scope (compEnvC scope cl C X.env) fp) tg sl g)
    (h : WI X ρ μ tg iter fun μ1 n Y G => n ≤ 10000000 ∧ (∀ μ', MSub μ1 μ' → G μ') ∧ (∀ i x μ', i < n → Y i x → MSub μ1 μ' → g x (wipeR ρ (own.map (·.2))) fun ρ2 => ∀ (s : Shared) (H : Hp) (C : Addr) (cl : List (Str × Addr)) (fp : List Addr),
        WE (X.blk s H scope (compEnvC scope cl C X.env) fp) ρ2 μ' elt fun μ3 y => MSub μ' μ3 ∧ y = f i) ∧
      ∀ μ', MSub μ1 μ' → ∀ q, μ' q = none → P (updM μ' q (.lst ((List.range n).map f))) (.loc q))
    (hs : ∀ x, foldedSetIterable iter X.env x = pure x := by intro _; rfl) : WE X ρ μ (.ListComp elt [⟨tg, iter, [], 0⟩] scope pos) P :=
  (l_mapS own f hc hN ok hsl hg h hs).e
end
theorem mapF {α : Type} (xs : List α) (f : α → SV) (g : Nat → SV) (h : ∀ i x, xs[i]? = some x → g i = f x) : (List.range xs.length).map g = xs.map f := by
  refine List.ext_getElem? fun i => ?_
  rw [List.getElem?_map, List.getElem?_map]
  by_cases hi : i < xs.length
  · rw [List.getElem?_range hi, List.getElem?_eq_getElem hi]
    simp only [Option.map_some]
    rw [h i _ (List.getElem?_eq_getElem hi)]
  · rw [List.getElem?_eq_none (by simpa using hi), List.getElem?_eq_none (by omega)]; rfl
theorem fmF {α β : Type} (f : α → Option β) (g : Nat → Option β) : ∀ (xs : List α) (k : Nat), (∀ i x, xs[i]? = some x → g (k + i) = f x) → (List.range' k xs.length).filterMap g = xs.filterMap f
  | [], k, _ => rfl
  | x :: xs, k, h => by
    rw [List.length_cons, List.range'_succ, List.filterMap_cons, List.filterMap_cons, show g k = f x from h 0 x rfl, fmF f g xs (k + 1) fun i y hy => by rw [show k + 1 + i = k + (i + 1) by omega]; exact h (i + 1) y (by simpa using hy)]
theorem fmR {α β : Type} (xs : List α) (f : α → Option β) (g : Nat → Option β) (h : ∀ i x, xs[i]? = some x → g i = f x) : (List.range xs.length).filterMap g = xs.filterMap f := by
  rw [List.range_eq_range']
  exact fmF f g xs 0 fun i x hx => by rw [Nat.zero_add]; exact h i x hx
end AV
-- text LyLit
set_option Elab.async false
set_option linter.all false
set_option maxRecDepth 100000
set_option maxHeartbeats 4000000
/-! written data: tuples of constants and of known names, at once -/
namespace AV
open PySem L2
def notStar : Expr → Bool
  | .Starred .. => false
  | _ => true
def litL (f : Expr → Option PyData) : List Expr → Option (List PyData)
  | [] => some []
  | e :: es => if notStar e then (match f e, litL f es with
    | some d, some ds => some (d :: ds)
    | _, _ => none) else none
/-- g: what the names stand for -/
def lit (g : Str → Option PyData) : Nat → Expr → Option PyData
  | 0, _ => none
  | _ + 1, .Constant (.int i) _ _ => some (.int i)
  | _ + 1, .Constant (.str s) _ _ => some (.str s)
  | _ + 1, .UnaryOp .USub (.Constant (.int i) _ _) _ => some (.int (-i))
  | n + 1, .Tuple es _ _ => match litL (lit g n) es with
    | some ds => if ds.length ≤ 1000 then some (.tuple ds) else none
    | none => none
  | _ + 1, .Name x _ => g x
  | _ + 1, _ => none
theorem star_lit {e : Expr} {es : List Expr} {env : Env} (h : notStar e = true) : starEach (e :: es) env = (false, eval e env) :: starEach es env := by
  cases e <;> first | rfl | cases h
section
variable {X : Cx} {ρ : Rho}
def GOk (X : Cx) (ρ : Rho) (g : Str → Option PyData) : Prop := ∀ x d, g x = some d → ∀ (μ : Mu) (P : PK) (p : Pos), P μ (.dat d) → WE X ρ μ (.Name x p) P
theorem e_lits {f : Expr → Option PyData} (hf : ∀ e d, f e = some d → ∀ (μ : Mu) (P : PK), P μ (.dat d) → WE X ρ μ e P) : ∀ (es : List Expr) (ds : List PyData), litL f es = some ds → ∀ (μ : Mu) (PL : Mu → List SV → Prop), PL μ (ds.map SV.dat) → WA X ρ μ es PL
  | [], ds, h, μ, PL, k => by
    simp only [litL, Option.some.injEq] at h
    subst h
    exact a_nil k
  | e :: es, ds, h, μ, PL, k => by
    rw [litL] at h
    split at h
    · rename_i hn
      split at h
      · rename_i d ds' h1 h2
        cases h
        exact a_cons (hf e d h1 μ _ (e_lits hf es ds' h2 μ _ k)) (star_lit hn)
      · cases h
    · cases h
theorem e_lit {g : Str → Option PyData} (hg : GOk X ρ g) : ∀ (n : Nat) (e : Expr) (d : PyData), lit g n e = some d → ∀ (μ : Mu) (P : PK), P μ (.dat d) → WE X ρ μ e P
  | 0, _, _, h, _, _, _ => by simp [lit] at h
  | n + 1, e, d, h, μ, P, k => by
    unfold lit at h
    split at h
    · cases h
    · cases h; exact e_int k
    · cases h; exact e_str k
    · cases h; exact e_neg (e_int ⟨_, rfl, k⟩)
    · rename_i n' es _ _ he
      cases he
      split at h
      · rename_i ds hds
        split at h
        · rename_i hl
          cases h
          exact e_tup (e_lits (fun e d => e_lit hg n e d) es ds hds μ _ ⟨ds, rfl, sz hl, k⟩)
        · cases h
      · cases h
    · rename_i he; exact hg _ _ h μ P _ k
    · cases h
end
end AV
-- text LyI
set_option Elab.async false
set_option linter.all false
set_option maxRecDepth 100000
set_option maxHeartbeats 4000000
/-! dicts whose keys are ints -/
namespace AV
open PySem L2
def getI (kvs : List (Int × SV)) (k : Int) : Option SV := (kvs.find? fun p => decide (p.1 = k)).map (·.2)
theorem getI_cons {p : Int × SV} {ps : List (Int × SV)} {k : Int} : getI (p :: ps) k = if p.1 = k then some p.2 else getI ps k := by
  unfold getI
  rw [List.find?_cons]
  by_cases h : p.1 = k
  · rw [decide_eq_true h, if_pos h]; rfl
  · rw [decide_eq_false h, if_neg h]
theorem IVs.append {K : PySem.W.Frag} {H : Hp} : ∀ {kvs ls : List (Int × SV)} {xs ys : List (Key × V)}, IVs K H xs kvs → IVs K H ys ls → IVs K H (xs ++ ys) (kvs ++ ls)
  | [], _, _, _, h, k => by cases h; exact k
  | _ :: _, _, _, _, h, k => by cases h with | cons h1 h2 => exact .cons h1 (IVs.append h2 k)
theorem IVs.length {K : PySem.W.Frag} {H : Hp} : ∀ {kvs : List (Int × SV)} {xs : List (Key × V)}, IVs K H xs kvs → xs.length = kvs.length
  | [], _, h => by cases h; rfl
  | _ :: _, _, h => by cases h with | cons h1 h2 => simp [IVs.length h2]
theorem IVs.look {K : PySem.W.Frag} {H : Hp} {k : Int} {r : SV} : ∀ {kvs : List (Int × SV)} {xs : List (Key × V)}, IVs K H xs kvs → getI kvs k = some r → ∃ v, valV xs (Sum.inl k : Key) = some v ∧ SVR K H v r
  | [], _, h, e => by cases e
  | (i, q) :: kvs, _, h, e => by
    cases h with
    | cons h1 h2 =>
      rename_i v vs
      rw [getI_cons] at e
      by_cases hk : i = k
      · rw [if_pos hk] at e
        cases e
        exact ⟨v, valV_pos (p := ((Sum.inl i : Key), v)) (by rw [hk]), h1⟩
      · rw [if_neg hk] at e
        obtain ⟨u, a, b⟩ := IVs.look h2 e
        exact ⟨u, by rw [valV_neg (p := ((Sum.inl i : Key), v)) (fun z => hk (by simpa using z))]; exact a, b⟩
theorem IVs.any {K : PySem.W.Frag} {H : Hp} {k : Int} : ∀ {kvs : List (Int × SV)} {xs : List (Key × V)}, IVs K H xs kvs → (∀ p ∈ kvs, p.1 ≠ k) → (xs.any fun kv => decide (kv.1 = (Sum.inl k : Key))) = false
  | [], _, h, e => by cases h; rfl
  | (i, q) :: kvs, _, h, e => by
    cases h with
    | cons h1 h2 =>
      rw [List.any_cons, IVs.any h2 fun p hp => e p (by simp [hp])]
      have : i ≠ k := e (i, q) (by simp)
      simp [this]
theorem loose_dki {H : Hp} {a : Addr} {xs : List (Key × V)} (h : H a = some (.dK xs)) : Loose (H a) := by rw [h]; exact ⟨fun _ e => (nomatch e), fun _ _ e => (nomatch e)⟩
section
variable {X : Cx} {ρ : Rho} {μ : Mu} {a b e o : Expr} {P : PK} {T : Po} {pos : Pos}
theorem e_newI (h : ∀ q, μ q = none → P (updM μ q (.dki [])) (.loc q)) : WE X ρ μ (.Dict [] [] pos) P :=
  WE.of pe_dnewK fun σ H Q hs hm k p hp => k _ (.loc p) _ _ (hm.new (c := .dki []) hp ⟨[], upd_same, .nil⟩) rfl (TEx.new hp) (h p (hm.fresh hp))
theorem e_getI (hu : X.A.units + 64 < cLine) (h : WE X ρ μ a fun μ1 x => WE X ρ μ1 b fun μ2 y => ∃ k l kvs r, x = .loc l ∧ y = .int k ∧ μ2 l = some (.dki kvs) ∧ getI kvs k = some r ∧ P μ2 r) (ns : NoSl b := by exact fun _ _ => rfl) : WE X ρ μ (.Subscript a b pos) P :=
  WE.of (pe_dget (by omega) pe_g pe_g ns) fun σ H Q hs hm k => h.g hs hm fun v x μ1 H1 m1 r1 t1 q1 => q1.g (hs.mono t1) m1 fun u y μ2 H2 m2 r2 t2 ⟨kk, l, kvs, r, ex, ey, hl, hg, hP⟩ => by
    subst ex ey
    cases r1
    cases TD.int_inv r2
    obtain ⟨xs, h1, h2⟩ := (m2 _ _ hl).1
    obtain ⟨v, hv, rv⟩ := h2.look hg
    exact ⟨l, v, rfl, by rw [← hv]; exact DGet.k (k := Sum.inl kk) h1, k _ _ _ _ m2 rv (t1.trans t2) hP⟩
theorem w_setI {i : Expr} {p2 : Pos} (hu : X.A.units + 64 < cLine) (h : WE X ρ μ e fun μ1 r => WE X ρ μ1 o fun μ2 y => WE X ρ μ2 i fun μ3 z => ∃ l n kvs, y = .loc l ∧ z = .int n ∧ μ3 l = some (.dki kvs) ∧ kvs.length < 10000000 ∧ (∀ p ∈ kvs, p.1 ≠ n) ∧ T.nx ρ (updM μ3 l (.dki (kvs ++ [(n, r)]))))
    (hs : swapsWith e (some (.Subscript o i p2)) pos.line X.env = pure false := by rfl) : W1 X ρ μ (.Assign [.Subscript o i p2] e pos) T :=
  W1.of (ps_dput (by omega) pe_g pe_g pe_g hs) fun D σ H hs hm k => h.g hs hm fun u r μ1 H1 m1 r1 t1 h2 => h2.g (hs.mono t1) m1 fun v y μ2 H2 m2 r2 t2 h3 => h3.g (hs.mono (t1.trans t2)) m2 fun w z μ3 H3 m3 r3 t3 ⟨l, n, kvs, ey, ez, hl, hn, hno, hT⟩ => by
    subst ey ez
    cases r2
    cases TD.int_inv r3
    obtain ⟨xs, g1, g2⟩ := (m3 _ _ hl).1
    have ep : putK xs (Sum.inl n : Key) u = xs ++ [((Sum.inl n : Key), u)] := by unfold putK; rw [g2.any hno]; rfl
    have tm := TEx.mut (o := .dK (xs ++ [((Sum.inl n : Key), u)])) (loose_dki g1)
    have t := t1.trans (t2.trans (t3.trans tm))
    refine ⟨l, _, rfl, DPut.k (k := Sum.inl n) g1 (by rw [g2.length, sizeLine_eq]; omega), ?_⟩
    rw [ep]
    exact k.nx _ _ _ _ (hs.mono t) (m3.set (c := .dki (kvs ++ [(n, r)])) (loose_dki g1) ⟨_, upd_same, (g2.mono tm).append (.cons ((r1.mono (t2.trans t3)).mono tm) .nil)⟩) t hT
end
end AV
-- text LyX6
set_option Elab.async false
set_option linter.all false
set_option maxRecDepth 100000
set_option maxHeartbeats 4000000
/-! comprehensions whose items are known only behind the walk's start -/
namespace AV
open PySem L2
section
variable {X : Cx} {ρ : Rho} {μ : Mu} {tg iter elt : Expr} {ifs : List Expr} {scope : Scope} {P : PK} {pos : Pos} {sl : List Nat} {g : Tg}
theorem l_compX [tm : TgM g] (own : List (Str × Nat)) (hc : X.calm = true) (hN : X.N.Nodup) (ok : BlkOk X.N X.env.scope scope own) (hsl : ∀ i ∈ sl, i ∈ own.map (·.2))
    (hg : ∀ (s : Shared) (H : Hp) (C : Addr) (cl : List (Str × Addr)) (fp : List Addr), WG (X.blk s H scope (compEnvC scope cl C X.env) fp) tg sl g)
    (h : WI X ρ μ tg iter fun μ1 n Y G => ∃ f : Nat → Option SV, n ≤ 10000000 ∧ (∀ μ', MSub μ1 μ' → G μ') ∧ (∀ i x μ', i < n → Y i x → MSub μ1 μ' → g x (wipeR ρ (own.map (·.2))) fun ρ2 => ∀ (s : Shared) (H : Hp) (C : Addr) (cl : List (Str × Addr)) (fp : List Addr),
        WTs (X.blk s H scope (compEnvC scope cl C X.env) fp) ρ2 μ' ifs fun μ2 b => MSub μ' μ2 ∧ b = (f i).isSome ∧ (b = true → ∀ (s : Shared) (H : Hp) (C : Addr) (cl : List (Str × Addr)) (fp : List Addr),
          WE (X.blk s H scope (compEnvC scope cl C X.env) fp) ρ2 μ2 elt fun μ3 y => MSub μ2 μ3 ∧ f i = some y)) ∧
      ∀ μ', MSub μ1 μ' → ∀ q, μ' q = none → P (updM μ' q (.lst ((List.range n).filterMap f))) (.loc q))
    (hs : ∀ x, foldedSetIterable iter X.env x = pure x := by intro _; rfl) : WLc X ρ μ elt tg iter ifs scope P :=
  l_lc own hc hN ok hsl hg (fun pins s σ H R I a b k => h pins s σ H R I a b fun J n Y G μ1 H' p q r ⟨f, hn, hG, ht, he⟩ => k J n Y G μ1 H' p q r
    ⟨fun i acc μ2 => MSub μ1 μ2 ∧ acc = (List.range i).filterMap f, hn, ⟨MSub.refl _, rfl⟩, fun i acc μ2 hi ⟨e1, e2⟩ => by subst e2; exact ⟨hG _ e1, by simpa using List.length_filterMap_le f (List.range i)⟩, fun i x acc μ2 D hi hy ⟨e1, e2⟩ hD => by
      subst e2
      have rg : (List.range (i + 1)).filterMap f = (List.range i).filterMap f ++ (f i).toList := by
        rw [List.range_succ, List.filterMap_append]
        congr 1
      refine tm.m (fun ρ2 hq s H C cl fp => ?_) (ht i x (updM μ2 D (.lst ((List.range i).filterMap f))) hi hy (e1.trans (MSub.upd hD)))
      have := hq s H C cl fp
      cases ifs with
      | nil =>
        obtain ⟨s1, hb, h2⟩ := (show _ ∧ _ ∧ _ from this)
        refine (show _ ∧ _ from ⟨fun e s H C cl fp => (h2 rfl s H C cl fp).imp fun μ3 y ⟨s2, fy⟩ => ?_, fun z => absurd z (by decide)⟩)
        have hD3 : μ3 D = some (.lst ((List.range i).filterMap f)) := s2 _ _ updM_same
        have hDn : μ1 D = none := by
          cases z : μ1 D with
          | none => rfl
          | some c => rw [e1 _ _ z] at hD; cases hD
        refine ⟨rmM μ3 D, rmM_back hD3, rmM_same, rmM_sub ((e1.trans (MSub.upd hD)).trans s2) hDn, ?_⟩
        rw [rg, fy]; rfl
      | cons c cs =>
        cases cs with
        | cons _ _ => exact this.elim
        | nil =>
          refine WT.imp (show WT _ _ _ _ _ from this) fun μ4 b ⟨s1, hb, h2⟩ => ?_
          have hDn : μ1 D = none := by
            cases z : μ1 D with
            | none => rfl
            | some c => rw [e1 _ _ z] at hD; cases hD
          refine ⟨fun e s H C cl fp => (h2 e s H C cl fp).imp fun μ3 y ⟨s2, fy⟩ => ?_, fun z => ?_⟩
          · have hD3 : μ3 D = some (.lst ((List.range i).filterMap f)) := s2 _ _ (s1 _ _ updM_same)
            refine ⟨rmM μ3 D, rmM_back hD3, rmM_same, rmM_sub (((e1.trans (MSub.upd hD)).trans s1).trans s2) hDn, ?_⟩
            rw [rg, fy]; rfl
          · have hD3 : μ4 D = some (.lst ((List.range i).filterMap f)) := s1 _ _ updM_same
            refine ⟨rmM μ4 D, rmM_back hD3, rmM_same, rmM_sub ((e1.trans (MSub.upd hD)).trans s1) hDn, ?_⟩
            have fi : f i = none := by
              cases h : f i with
              | none => rfl
              | some y => rw [h, z] at hb; cases hb
            rw [rg, fi]; simp,
      fun acc μ2 ⟨e1, e2⟩ q hq => by subst e2; exact he μ2 e1 q hq⟩) hs
theorem e_mapX [tm : TgM g] (own : List (Str × Nat)) (hc : X.calm = true) (hN : X.N.Nodup) (ok : BlkOk X.N X.env.scope scope own) (hsl : ∀ i ∈ sl, i ∈ own.map (·.2))
    (hg : ∀ (s : Shared) (H : Hp) (C : Addr) (cl : List (Str × Addr)) (fp : List Addr), WG (X.blk s H scope (compEnvC scope cl C X.env) fp) tg sl g)
    (h : WI X ρ μ tg iter fun μ1 n Y G => ∃ f : Nat → SV, n ≤ 10000000 ∧ (∀ μ', MSub μ1 μ' → G μ') ∧ (∀ i x μ', i < n → Y i x → MSub μ1 μ' → g x (wipeR ρ (own.map (·.2))) fun ρ2 => ∀ (s : Shared) (H : Hp) (C : Addr) (cl : List (Str × Addr)) (fp : List Addr),
        WE (X.blk s H scope (compEnvC scope cl C X.env) fp) ρ2 μ' elt fun μ3 y => MSub μ' μ3 ∧ y = f i) ∧
      ∀ μ', MSub μ1 μ' → ∀ q, μ' q = none → P (updM μ' q (.lst ((List.range n).map f))) (.loc q))
    (hs : ∀ x, foldedSetIterable iter X.env x = pure x := by intro _; rfl) : WE X ρ μ (.ListComp elt [⟨tg, iter, [], 0⟩] scope pos) P :=
  (l_compX (ifs := []) (elt := elt) own hc hN ok hsl hg (fun pins s σ H R I a b k => h pins s σ H R I a b fun J n Y G μ1 H' p q r ⟨f, hn, hG, ht, he⟩ => k J n Y G μ1 H' p q r
    ⟨fun i => some (f i), hn, hG, fun i x μ' hi hy hm => tm.m (fun ρ2 hq s H C cl fp => ⟨MSub.refl _, rfl, fun _ s H C cl fp => (hq s H C cl fp).imp fun μ3 y ⟨s2, fy⟩ => ⟨s2, by rw [fy]⟩⟩) (ht i x μ' hi hy hm), fun μ' hm q hq => by rw [filterMap_some]; exact he μ' hm q hq⟩) hs).e
end
end AV
-- text LyX7
set_option Elab.async false
set_option linter.all false
set_option maxRecDepth 100000
set_option maxHeartbeats 4000000
/-! a list of ints that is one of the module's own objects; a fact between two statements -/
namespace AV
open PySem L2
def SeqC (K : PySem.W.Frag) (a : Addr) (ns : List Int) : Prop := ∀ H : Hp, SqL K H a (ns.map V.int)
section
variable {X : Cx} {ρ : Rho} {μ : Mu} {a tg : Expr} {P : PW'} {st : Stmt} {T : Po}
theorem i_listC (h : WE X ρ μ a fun μ1 x => ∃ (l : Addr) (ns : List Int), x = .loc l ∧ SeqC X.K l ns ∧ P μ1 ns.length (YL (ns.map SV.int)) (fun _ => True)) : WI X ρ μ tg a P :=
  WI.of (pi_list pe_g) fun σ H R hs hm k => h.g hs hm fun v x μ1 H1 m1 r1 t1 ⟨l, ns, ex, hl, q⟩ => by
    subst ex
    cases r1
    refine ⟨l, rfl, ⟨_, hl H1⟩, k _ _ _ _ _ _ m1 t1 ⟨fun i H μ hi e m g => ?_, fun H μ e m g => ?_, fun i H x H' μ hi e m g y => ?_⟩ q⟩
    · exact ⟨_, V.int ns[i], hl H, by rw [List.getElem?_map, List.getElem?_eq_getElem hi]; rfl⟩
    · exact ⟨_, hl H, by rw [List.length_map]; exact Nat.le_refl _⟩
    · obtain ⟨e1, y⟩ := y
      subst e1
      refine ⟨TEx.refl _, fun _ z => z, ?_⟩
      have hx := y _ (hl H')
      rw [List.getElem?_map, List.getElem?_eq_getElem hi] at hx
      have hx : V.int ns[i] = x := by simpa using hx
      subst hx
      exact ⟨_, ⟨SV.int ns[i], by rw [List.getElem?_map, List.getElem?_eq_getElem hi]; rfl, rfl⟩, sv_int _⟩
theorem W1.mid {Q : Rho → Mu → Prop} (h : W1 X ρ μ st { T with nx := Q }) (k : ∀ ρ' μ', Q ρ' μ' → T.nx ρ' μ') : W1 X ρ μ st T :=
  fun pins s σ H D I hs hm kk => h pins s σ H D I hs hm ⟨fun a b c d p q r z => kk.nx a b c d p q r (k _ _ z), kk.rt, kk.bk, kk.ct⟩
end
end AV
-- text AVText
set_option Elab.async false
set_option linter.all false
set_option maxRecDepth 100000
set_option maxHeartbeats 0
namespace AV
open PySem PySem.Spec PyProof.Rows L2
def top (i : Nat) : Stmt := PySem.Challenge.pw_anyvalues_k67_whole_alike_exactly_if_equ.main.body.getD i (.Pass ⟨0, 0, 0, 0⟩)

abbrev s_value_at : Stmt := top 3
abbrev s_holds : Stmt := top 4
abbrev s_beginning : Stmt := top 5
abbrev s_case_for : Stmt := top 6
abbrev s_read : Stmt := top 7
abbrev s_answers_from : Stmt := top 8
abbrev s_answers : Stmt := top 9
abbrev s_ranks_of : Stmt := top 11
abbrev s_type_of : Stmt := top 13
abbrev s_content_of : Stmt := top 14
abbrev s_spots_of : Stmt := top 15
abbrev s_Pair_init : Stmt := inClass (top 17) 0
abbrev s_Pair_joint_type : Stmt := inClass (top 17) 1
abbrev s_Pair_contents : Stmt := inClass (top 17) 2
abbrev s_Pair_after : Stmt := inClass (top 17) 3
abbrev s_Pair_is_parted : Stmt := inClass (top 17) 4
abbrev s_with_values : Stmt := top 18
abbrev s_needed_by : Stmt := top 19
abbrev s_spread : Stmt := top 20
abbrev s_of_one_kind : Stmt := top 21
abbrev s_lowest_spot : Stmt := top 22
abbrev s_Kinds_init : Stmt := inClass (top 23) 0
abbrev s_Kinds_needs_of : Stmt := inClass (top 23) 1
abbrev s_Kinds_number : Stmt := inClass (top 23) 2
abbrev s_Kinds_step : Stmt := inClass (top 23) 3
abbrev s_Kinds_source : Stmt := inClass (top 23) 4
abbrev s_Kinds_case : Stmt := inClass (top 23) 5
abbrev s_found_kinds : Stmt := top 24
abbrev s_spot_condition : Stmt := top 26
abbrev s_least_machine : Stmt := top 27
abbrev s__law_draws : Stmt := top 29
abbrev s__law_take : Stmt := top 30
abbrev s__law_condition : Stmt := top 31
abbrev s__law_drawn_case : Stmt := top 32
abbrev s__law_drawn_machine : Stmt := top 33
abbrev s__law_shaped_machine : Stmt := top 34
abbrev s__law_with_case : Stmt := top 35
abbrev s__law_changed : Stmt := top 36
abbrev s__law_machine : Stmt := top 37
abbrev s__law_with_tag : Stmt := top 38
abbrev s__law_at : Stmt := top 39
abbrev s__law_holds : Stmt := top 40
abbrev s__law_case : Stmt := top 41
abbrev s__law_read : Stmt := top 42
abbrev s__law_begin : Stmt := top 43
abbrev s__law_ranks : Stmt := top 44
abbrev s__law_many : Stmt := top 45
abbrev s__law_shown : Stmt := top 46
abbrev s__law_path : Stmt := top 47
abbrev s__law_placed_in : Stmt := top 48
abbrev s__law_items : Stmt := top 49
abbrev s__law_numbers : Stmt := top 50
abbrev s__law_parting : Stmt := top 51
abbrev s__law_other_words : Stmt := top 52
abbrev s__law_renamed_condition : Stmt := top 53
abbrev s__law_place : Stmt := top 54
abbrev s__law_mixed : Stmt := top 55
abbrev s__law_mapped : Stmt := top 56
abbrev s__law_doubled : Stmt := top 57
abbrev s__law_renumbered : Stmt := top 58
abbrev s__law_rewritten : Stmt := top 59
abbrev s__law_cycle : Stmt := top 60
abbrev s_law : Stmt := top 61
def d_value_at : He.DefD := ⟨("value_at", none), "value_at", "value_at", defArgs s_value_at, defBody s_value_at, defScope s_value_at, [], []⟩
def d_holds : He.DefD := ⟨("holds", none), "holds", "holds", defArgs s_holds, defBody s_holds, defScope s_holds, [], []⟩
def d_beginning : He.DefD := ⟨("beginning", none), "beginning", "beginning", defArgs s_beginning, defBody s_beginning, defScope s_beginning, [], []⟩
def d_case_for : He.DefD := ⟨("case_for", none), "case_for", "case_for", defArgs s_case_for, defBody s_case_for, defScope s_case_for, [], []⟩
def d_read : He.DefD := ⟨("read", none), "read", "read", defArgs s_read, defBody s_read, defScope s_read, [], []⟩
def d_answers_from : He.DefD := ⟨("answers_from", none), "answers_from", "answers_from", defArgs s_answers_from, defBody s_answers_from, defScope s_answers_from, [], []⟩
def d_answers : He.DefD := ⟨("answers", none), "answers", "answers", defArgs s_answers, defBody s_answers, defScope s_answers, [], []⟩
def d_ranks_of : He.DefD := ⟨("ranks_of", none), "ranks_of", "ranks_of", defArgs s_ranks_of, defBody s_ranks_of, defScope s_ranks_of, [], []⟩
def d_type_of : He.DefD := ⟨("type_of", none), "type_of", "type_of", defArgs s_type_of, defBody s_type_of, defScope s_type_of, [], []⟩
def d_content_of : He.DefD := ⟨("content_of", none), "content_of", "content_of", defArgs s_content_of, defBody s_content_of, defScope s_content_of, [], []⟩
def d_spots_of : He.DefD := ⟨("spots_of", none), "spots_of", "spots_of", defArgs s_spots_of, defBody s_spots_of, defScope s_spots_of, [], []⟩
def d_Pair_init : He.DefD := ⟨("Pair", some "__init__"), "__init__", "Pair.__init__", defArgs s_Pair_init, defBody s_Pair_init, defScope s_Pair_init, [], []⟩
def d_Pair_joint_type : He.DefD := ⟨("Pair", some "joint_type"), "joint_type", "Pair.joint_type", defArgs s_Pair_joint_type, defBody s_Pair_joint_type, defScope s_Pair_joint_type, [], []⟩
def d_Pair_contents : He.DefD := ⟨("Pair", some "contents"), "contents", "Pair.contents", defArgs s_Pair_contents, defBody s_Pair_contents, defScope s_Pair_contents, [], []⟩
def d_Pair_after : He.DefD := ⟨("Pair", some "after"), "after", "Pair.after", defArgs s_Pair_after, defBody s_Pair_after, defScope s_Pair_after, [], []⟩
def d_Pair_is_parted : He.DefD := ⟨("Pair", some "is_parted"), "is_parted", "Pair.is_parted", defArgs s_Pair_is_parted, defBody s_Pair_is_parted, defScope s_Pair_is_parted, [], []⟩
def d_with_values : He.DefD := ⟨("with_values", none), "with_values", "with_values", defArgs s_with_values, defBody s_with_values, defScope s_with_values, [], []⟩
def d_needed_by : He.DefD := ⟨("needed_by", none), "needed_by", "needed_by", defArgs s_needed_by, defBody s_needed_by, defScope s_needed_by, [], []⟩
def d_spread : He.DefD := ⟨("spread", none), "spread", "spread", defArgs s_spread, defBody s_spread, defScope s_spread, [], []⟩
def d_of_one_kind : He.DefD := ⟨("of_one_kind", none), "of_one_kind", "of_one_kind", defArgs s_of_one_kind, defBody s_of_one_kind, defScope s_of_one_kind, [], []⟩
def d_lowest_spot : He.DefD := ⟨("lowest_spot", none), "lowest_spot", "lowest_spot", defArgs s_lowest_spot, defBody s_lowest_spot, defScope s_lowest_spot, [], []⟩
def d_Kinds_init : He.DefD := ⟨("Kinds", some "__init__"), "__init__", "Kinds.__init__", defArgs s_Kinds_init, defBody s_Kinds_init, defScope s_Kinds_init, [], []⟩
def d_Kinds_needs_of : He.DefD := ⟨("Kinds", some "needs_of"), "needs_of", "Kinds.needs_of", defArgs s_Kinds_needs_of, defBody s_Kinds_needs_of, defScope s_Kinds_needs_of, [], []⟩
def d_Kinds_number : He.DefD := ⟨("Kinds", some "number"), "number", "Kinds.number", defArgs s_Kinds_number, defBody s_Kinds_number, defScope s_Kinds_number, [], []⟩
def d_Kinds_step : He.DefD := ⟨("Kinds", some "step"), "step", "Kinds.step", defArgs s_Kinds_step, defBody s_Kinds_step, defScope s_Kinds_step, [], []⟩
def d_Kinds_source : He.DefD := ⟨("Kinds", some "source"), "source", "Kinds.source", defArgs s_Kinds_source, defBody s_Kinds_source, defScope s_Kinds_source, [], []⟩
def d_Kinds_case : He.DefD := ⟨("Kinds", some "case"), "case", "Kinds.case", defArgs s_Kinds_case, defBody s_Kinds_case, defScope s_Kinds_case, [], []⟩
def d_found_kinds : He.DefD := ⟨("found_kinds", none), "found_kinds", "found_kinds", defArgs s_found_kinds, defBody s_found_kinds, defScope s_found_kinds, [], []⟩
def d_spot_condition : He.DefD := ⟨("spot_condition", none), "spot_condition", "spot_condition", defArgs s_spot_condition, defBody s_spot_condition, defScope s_spot_condition, [], []⟩
def d_least_machine : He.DefD := ⟨("least_machine", none), "least_machine", "least_machine", defArgs s_least_machine, defBody s_least_machine, defScope s_least_machine, [], []⟩
def d__law_draws : He.DefD := ⟨("_law_draws", none), "_law_draws", "_law_draws", defArgs s__law_draws, defBody s__law_draws, defScope s__law_draws, [], []⟩
def d__law_take : He.DefD := ⟨("_law_take", none), "_law_take", "_law_take", defArgs s__law_take, defBody s__law_take, defScope s__law_take, [], []⟩
def d__law_condition : He.DefD := ⟨("_law_condition", none), "_law_condition", "_law_condition", defArgs s__law_condition, defBody s__law_condition, defScope s__law_condition, [], []⟩
def d__law_drawn_case : He.DefD := ⟨("_law_drawn_case", none), "_law_drawn_case", "_law_drawn_case", defArgs s__law_drawn_case, defBody s__law_drawn_case, defScope s__law_drawn_case, [], []⟩
def d__law_drawn_machine : He.DefD := ⟨("_law_drawn_machine", none), "_law_drawn_machine", "_law_drawn_machine", defArgs s__law_drawn_machine, defBody s__law_drawn_machine, defScope s__law_drawn_machine, [], []⟩
def d__law_shaped_machine : He.DefD := ⟨("_law_shaped_machine", none), "_law_shaped_machine", "_law_shaped_machine", defArgs s__law_shaped_machine, defBody s__law_shaped_machine, defScope s__law_shaped_machine, [], []⟩
def d__law_with_case : He.DefD := ⟨("_law_with_case", none), "_law_with_case", "_law_with_case", defArgs s__law_with_case, defBody s__law_with_case, defScope s__law_with_case, [], []⟩
def d__law_changed : He.DefD := ⟨("_law_changed", none), "_law_changed", "_law_changed", defArgs s__law_changed, defBody s__law_changed, defScope s__law_changed, [], []⟩
def d__law_machine : He.DefD := ⟨("_law_machine", none), "_law_machine", "_law_machine", defArgs s__law_machine, defBody s__law_machine, defScope s__law_machine, [], []⟩
def d__law_with_tag : He.DefD := ⟨("_law_with_tag", none), "_law_with_tag", "_law_with_tag", defArgs s__law_with_tag, defBody s__law_with_tag, defScope s__law_with_tag, [], []⟩
def d__law_at : He.DefD := ⟨("_law_at", none), "_law_at", "_law_at", defArgs s__law_at, defBody s__law_at, defScope s__law_at, [], []⟩
def d__law_holds : He.DefD := ⟨("_law_holds", none), "_law_holds", "_law_holds", defArgs s__law_holds, defBody s__law_holds, defScope s__law_holds, [], []⟩
def d__law_case : He.DefD := ⟨("_law_case", none), "_law_case", "_law_case", defArgs s__law_case, defBody s__law_case, defScope s__law_case, [], []⟩
def d__law_read : He.DefD := ⟨("_law_read", none), "_law_read", "_law_read", defArgs s__law_read, defBody s__law_read, defScope s__law_read, [], []⟩
def d__law_begin : He.DefD := ⟨("_law_begin", none), "_law_begin", "_law_begin", defArgs s__law_begin, defBody s__law_begin, defScope s__law_begin, [], []⟩
def d__law_ranks : He.DefD := ⟨("_law_ranks", none), "_law_ranks", "_law_ranks", defArgs s__law_ranks, defBody s__law_ranks, defScope s__law_ranks, [], []⟩
def d__law_many : He.DefD := ⟨("_law_many", none), "_law_many", "_law_many", defArgs s__law_many, defBody s__law_many, defScope s__law_many, [], []⟩
def d__law_shown : He.DefD := ⟨("_law_shown", none), "_law_shown", "_law_shown", defArgs s__law_shown, defBody s__law_shown, defScope s__law_shown, [], []⟩
def d__law_path : He.DefD := ⟨("_law_path", none), "_law_path", "_law_path", defArgs s__law_path, defBody s__law_path, defScope s__law_path, [], []⟩
def d__law_placed_in : He.DefD := ⟨("_law_placed_in", none), "_law_placed_in", "_law_placed_in", defArgs s__law_placed_in, defBody s__law_placed_in, defScope s__law_placed_in, [], []⟩
def d__law_items : He.DefD := ⟨("_law_items", none), "_law_items", "_law_items", defArgs s__law_items, defBody s__law_items, defScope s__law_items, [], []⟩
def d__law_numbers : He.DefD := ⟨("_law_numbers", none), "_law_numbers", "_law_numbers", defArgs s__law_numbers, defBody s__law_numbers, defScope s__law_numbers, [], []⟩
def d__law_parting : He.DefD := ⟨("_law_parting", none), "_law_parting", "_law_parting", defArgs s__law_parting, defBody s__law_parting, defScope s__law_parting, [], []⟩
def d__law_other_words : He.DefD := ⟨("_law_other_words", none), "_law_other_words", "_law_other_words", defArgs s__law_other_words, defBody s__law_other_words, defScope s__law_other_words, [], []⟩
def d__law_renamed_condition : He.DefD := ⟨("_law_renamed_condition", none), "_law_renamed_condition", "_law_renamed_condition", defArgs s__law_renamed_condition, defBody s__law_renamed_condition, defScope s__law_renamed_condition, [], []⟩
def d__law_place : He.DefD := ⟨("_law_place", none), "_law_place", "_law_place", defArgs s__law_place, defBody s__law_place, defScope s__law_place, [], []⟩
def d__law_mixed : He.DefD := ⟨("_law_mixed", none), "_law_mixed", "_law_mixed", defArgs s__law_mixed, defBody s__law_mixed, defScope s__law_mixed, [], []⟩
def d__law_mapped : He.DefD := ⟨("_law_mapped", none), "_law_mapped", "_law_mapped", defArgs s__law_mapped, defBody s__law_mapped, defScope s__law_mapped, [], []⟩
def d__law_doubled : He.DefD := ⟨("_law_doubled", none), "_law_doubled", "_law_doubled", defArgs s__law_doubled, defBody s__law_doubled, defScope s__law_doubled, [], []⟩
def d__law_renumbered : He.DefD := ⟨("_law_renumbered", none), "_law_renumbered", "_law_renumbered", defArgs s__law_renumbered, defBody s__law_renumbered, defScope s__law_renumbered, [], []⟩
def d__law_rewritten : He.DefD := ⟨("_law_rewritten", none), "_law_rewritten", "_law_rewritten", defArgs s__law_rewritten, defBody s__law_rewritten, defScope s__law_rewritten, [], []⟩
def d__law_cycle : He.DefD := ⟨("_law_cycle", none), "_law_cycle", "_law_cycle", defArgs s__law_cycle, defBody s__law_cycle, defScope s__law_cycle, [], []⟩
def d_law : He.DefD := ⟨("law", none), "law", "law", defArgs s_law, defBody s_law, defScope s_law, [], []⟩
def fn : List He.DefD := [d_value_at, d_holds, d_beginning, d_case_for, d_read, d_answers_from, d_answers, d_ranks_of, d_type_of, d_content_of, d_spots_of, d_Pair_init, d_Pair_joint_type, d_Pair_contents, d_Pair_after, d_Pair_is_parted, d_with_values, d_needed_by, d_spread, d_of_one_kind, d_lowest_spot, d_Kinds_init, d_Kinds_needs_of, d_Kinds_number, d_Kinds_step, d_Kinds_source, d_Kinds_case, d_found_kinds, d_spot_condition, d_least_machine, d__law_draws, d__law_take, d__law_condition, d__law_drawn_case, d__law_drawn_machine, d__law_shaped_machine, d__law_with_case, d__law_changed, d__law_machine, d__law_with_tag, d__law_at, d__law_holds, d__law_case, d__law_read, d__law_begin, d__law_ranks, d__law_many, d__law_shown, d__law_path, d__law_placed_in, d__law_items, d__law_numbers, d__law_parting, d__law_other_words, d__law_renamed_condition, d__law_place, d__law_mixed, d__law_mapped, d__law_doubled, d__law_renumbered, d__law_rewritten, d__law_cycle, d_law]
def fa : List He.Fa := [.glo "value_at", .glo "holds", .glo "beginning", .glo "case_for", .glo "read", .glo "answers_from", .glo "answers", .glo "ranks_of", .glo "type_of", .glo "content_of", .glo "spots_of", .glo "with_values", .glo "needed_by", .glo "spread", .glo "of_one_kind", .glo "lowest_spot", .glo "found_kinds", .glo "spot_condition", .glo "least_machine", .glo "_law_draws", .glo "_law_take", .glo "_law_condition", .glo "_law_drawn_case", .glo "_law_drawn_machine", .glo "_law_shaped_machine", .glo "_law_with_case", .glo "_law_changed", .glo "_law_machine", .glo "_law_with_tag", .glo "_law_at", .glo "_law_holds", .glo "_law_case", .glo "_law_read", .glo "_law_begin", .glo "_law_ranks", .glo "_law_many", .glo "_law_shown", .glo "_law_path", .glo "_law_placed_in", .glo "_law_items", .glo "_law_numbers", .glo "_law_parting", .glo "_law_other_words", .glo "_law_renamed_condition", .glo "_law_place", .glo "_law_mixed", .glo "_law_mapped", .glo "_law_doubled", .glo "_law_renumbered", .glo "_law_rewritten", .glo "_law_cycle", .glo "law", .glo "Pair", .glo "Kinds", .cls "Pair", .cls "Kinds", .mkr "Pair", .mkr "Kinds", .meth "Pair" "joint_type", .meth "Pair" "contents", .meth "Pair" "after", .meth "Pair" "is_parted", .meth "Kinds" "needs_of", .meth "Kinds" "number", .meth "Kinds" "step", .meth "Kinds" "source", .meth "Kinds" "case", .noat "Pair" "one", .noat "Pair" "other", .noat "Pair" "closed", .noat "Kinds" "machine", .noat "Kinds" "pair", .noat "Kinds" "types", .noat "Kinds" "needs", .noat "Kinds" "known", .free "len", .free "range", .free "tuple", .free "list", .free "sorted", .free "set", .free "enumerate", .free "all", .free "any", .free "max", .free "int", .int "READ" (-1), .int "NOTHING" (-2)]
def names1 : List PySem.Str := ["READ", "NOTHING", "value_at", "holds", "beginning", "case_for", "read", "answers_from", "answers", "ranks_of", "type_of", "content_of", "spots_of", "Pair", "with_values", "needed_by", "spread", "of_one_kind", "lowest_spot", "Kinds", "found_kinds", "spot_condition", "least_machine", "_law_draws", "_law_take", "_law_condition", "_law_drawn_case", "_law_drawn_machine", "_law_shaped_machine", "_law_with_case"]
def names2 : List PySem.Str := ["_law_changed", "_law_machine", "_law_with_tag", "_law_at", "_law_holds", "_law_case", "_law_read", "_law_begin", "_law_ranks", "_law_many", "_law_shown", "_law_path", "_law_placed_in", "_law_items", "_law_numbers", "_law_parting", "_law_other_words", "_law_renamed_condition", "_law_place", "_law_mixed", "_law_mapped", "_law_doubled", "_law_renumbered", "_law_rewritten", "_law_cycle"]
def names : List PySem.Str := names1 ++ names2
abbrev R : PySem.W.OpenRow := PySem.W.OpenLaw.row PySem.Challenge.rw_anyvalues_k67_whole_alike_exactly_if_equ
abbrev hk : PySem.W.Hook := He.hookD 5 fa fn
def ob (s : PySem.W.SharedT) : He.AlD := He.obsDG 5 fa fn (HandSHeadRun.getT s)
theorem ob_eq (s : PySem.W.SharedT) : ob s = hk.obs s.abs := He.obsDG_eq (HandSHeadRun.getT_eq s)
end AV
-- text Enc
set_option Elab.async false
set_option linter.all false
set_option maxRecDepth 100000
set_option maxHeartbeats 4000000
/-! machines as data -/
namespace AV
open PySem L2 TH
def encN (r : Option Nat) : PyData := encO (r.map fun n => (n : Int))
mutual
def encC : Cond → PyData
  | .tt => .tuple [.str "true"]
  | .ff => .tuple [.str "false"]
  | .less a b => .tuple [.str "less", .int a, .int b]
  | .same a b => .tuple [.str "same", .int a, .int b]
  | .empty a => .tuple [.str "empty", .int a]
  | .not c => .tuple [.str "not", encC c]
  | .all cs => .tuple [.str "all", .tuple (encCs cs)]
  | .any cs => .tuple [.str "any", .tuple (encCs cs)]
def encCs : List Cond → List PyData
  | [] => []
  | c :: cs => encC c :: encCs cs
end
theorem encCs_eq : ∀ cs, encCs cs = cs.map encC
  | [] => rfl
  | c :: cs => by rw [encCs, encCs_eq cs]; rfl
def encS (p : Int × Int) : PyData := .tuple [.int p.1, .int p.2]
def encK (k : Case) : PyData := .tuple [encC k.cond, .tuple (k.moves.map .int), .tuple (k.says.map encS), .int k.next]
def encRow (row : List Case) : PyData := .tuple (row.map encK)
def encRows (rows : List (List Case)) : PyData := .tuple (rows.map encRow)
def encM (m : Machine) : PyData := .tuple [.int m.tags, .int m.regs, .tuple (m.steps.map encRows)]
def encH (h : Held Int) : PyData := .tuple (h.map encO)
def encCon (c : Con Int) : PyData := .tuple [.int c.1, encH c.2]
def encA1 (p : Int × Option Int) : PyData := .tuple [.int p.1, encO p.2]
def encA (a : Ans Int) : PyData := .tuple (a.map encA1)
def encE (e : Nat × Int) : PyData := .tuple [.int e.1, .int e.2]
def encTy (τ : Ty) : PyData := .tuple [.int τ.1, .tuple (τ.2.map encN)]
def encTyN (τ : Ty) : PyData := .tuple [.int τ.1, .list (τ.2.map encN)]
/-! ### what is well formed -/
def SrcOk (n : Nat) (s : Int) : Prop := s = -1 ∨ s = -2 ∨ (0 ≤ s ∧ s < n)
mutual
def CondOk (n : Nat) : Nat → Cond → Prop
  | _, .tt => True
  | _, .ff => True
  | _, .less a b => SrcOk n a ∧ SrcOk n b
  | _, .same a b => SrcOk n a ∧ SrcOk n b
  | _, .empty a => SrcOk n a
  | 0, .not _ => False
  | d + 1, .not c => CondOk n d c
  | 0, .all _ => False
  | d + 1, .all cs => CondsOk n d cs ∧ cs.length ≤ 1000
  | 0, .any _ => False
  | d + 1, .any cs => CondsOk n d cs ∧ cs.length ≤ 1000
def CondsOk (n : Nat) : Nat → List Cond → Prop
  | _, [] => True
  | d, c :: cs => CondOk n d c ∧ CondsOk n d cs
end
theorem CondsOk.get {n d : Nat} : ∀ {cs : List Cond}, CondsOk n d cs → ∀ c ∈ cs, CondOk n d c
  | [], _, c, hc => by cases hc
  | x :: xs, h, c, hc => by
    rw [CondsOk] at h
    rcases List.mem_cons.mp hc with e | e
    · subst e; exact h.1
    · exact CondsOk.get h.2 c e
theorem CondsOk.of {n d : Nat} : ∀ {cs : List Cond}, (∀ c ∈ cs, CondOk n d c) → CondsOk n d cs
  | [], _ => by rw [CondsOk]; trivial
  | x :: xs, h => by rw [CondsOk]; exact ⟨h x (by simp), CondsOk.of fun c hc => h c (by simp [hc])⟩
structure CaseOk (n st : Nat) (k : Case) : Prop where
  cond : CondOk n 8 k.cond
  moves : k.moves.length = n
  srcs : ∀ s ∈ k.moves, SrcOk n s
  says : ∀ p ∈ k.says, SrcOk n p.2
  few : k.says.length ≤ 1000
  next : k.next < st
structure MOk (m : Machine) : Prop where
  tags : 1 ≤ m.tags ∧ m.tags ≤ 1000
  regs : m.regs ≤ 20
  steps : 1 ≤ m.steps.length ∧ m.steps.length ≤ 1000
  rows : ∀ rows ∈ m.steps, rows.length = m.tags
  row : ∀ rows ∈ m.steps, ∀ row ∈ rows, row.length ≤ 1000
  case : ∀ rows ∈ m.steps, ∀ row ∈ rows, ∀ k ∈ row, CaseOk m.regs m.steps.length k
theorem MOk.at_ {m : Machine} (o : MOk m) {st t : Nat} (h1 : st < m.steps.length) (h2 : t < m.tags) : ∃ rows row, m.steps[st]? = some rows ∧ rows[t]? = some row ∧ m.at_ st t = row ∧ row.length ≤ 1000 ∧ ∀ k ∈ row, CaseOk m.regs m.steps.length k := by
  have hr : m.steps[st]? = some m.steps[st] := List.getElem?_eq_getElem h1
  have hm : m.steps[st] ∈ m.steps := List.getElem_mem h1
  have ht : t < m.steps[st].length := by rw [o.rows _ hm]; exact h2
  have hw : m.steps[st][t]? = some m.steps[st][t] := List.getElem?_eq_getElem ht
  refine ⟨_, _, hr, hw, ?_, o.row _ hm _ (List.getElem_mem ht), o.case _ hm _ (List.getElem_mem ht)⟩
  unfold Machine.at_
  rw [hr, Option.getD_some, hw, Option.getD_some]
theorem MOk.full {m : Machine} (o : MOk m) : m.full := by
  intro st t k hk
  unfold Machine.at_ at hk
  cases h1 : m.steps[st]? with
  | none => rw [h1] at hk; simp at hk
  | some rows =>
    rw [h1, Option.getD_some] at hk
    cases h2 : rows[t]? with
    | none => rw [h2] at hk; simp at hk
    | some row =>
      rw [h2, Option.getD_some] at hk
      exact (o.case _ (List.mem_of_getElem? h1) _ (List.mem_of_getElem? h2) k hk).moves
/-! ### items by place -/
theorem atN {α : Type} {xs : List α} {i : Nat} {x : α} (h : xs[i]? = some x) : atI xs (i : Int) = some x := atI_nat h
theorem at_map {α β : Type} {xs : List α} {i : Nat} {x : α} {f : α → β} (h : xs[i]? = some x) : atI (xs.map f) (i : Int) = some (f x) := atI_nat (by rw [List.getElem?_map, h]; rfl)
section
variable {X : Cx} {ρ : Rho} {μ : Mu} {a b c o e : Expr} {es : List Expr} {P : PK} {T : Po} {pos apos : Pos}
/-- t[i], i written -/
theorem e_ixK {i : Int} {j p} (h : WE X ρ μ a fun μ1 x => ∃ ds d, x = .tup ds ∧ atI ds i = some d ∧ P μ1 (.dat d)) (hp : PlainIx (.Constant (.int i) j p) := by exact fun _ _ => rfl) : WE X ρ μ (.Subscript a (.Constant (.int i) j p) pos) P :=
  e_ixT (h.imp fun μ1 x ⟨ds, d, ex, hd, q⟩ => e_int ⟨ds, i, d, ex, rfl, hd, q⟩) hp
theorem e_ixV {i : Expr} {n : Nat} {ds : List PyData} {d : PyData} (hd : ds[n]? = some d) (h : WE X ρ μ a fun μ1 x => x = .tup ds ∧ WE X ρ μ1 i fun μ2 y => y = .int (n : Int) ∧ P μ2 (.dat d)) (hp : PlainIx i := by exact fun _ _ => rfl) : WE X ρ μ (.Subscript a i pos) P :=
  e_ixT (h.imp fun μ1 x ⟨ex, q⟩ => q.imp fun μ2 y ⟨ey, q⟩ => ⟨ds, n, d, ex, ey, atN hd, q⟩) hp
end
/-- the module's names -/
structure Md (mg : Str → Option Value) : Prop where
  len : mg "len" = none
  range : mg "range" = none
  tuple : mg "tuple" = none
  list : mg "list" = none
  sorted : mg "sorted" = none
  set : mg "set" = none
  enum : mg "enumerate" = none
  all : mg "all" = none
  any : mg "any" = none
  max : mg "max" = none
  int : mg "int" = none
  read : ∃ t, mg "READ" = some (.int (-1) t)
  nothing : ∃ t, mg "NOTHING" = some (.int (-2) t)
abbrev FD (K : PySem.W.Frag) (x q : Str) (st : Stmt) (f : Addr) (fd : FuncData) : Prop := FunD K x q (defArgs st) (defBody st) (defScope st) [] [] f fd
end AV
-- text W02
set_option Elab.async false
set_option linter.all false
set_option maxRecDepth 100000
set_option maxHeartbeats 4000000
namespace AV
open PySem L2 TH
section
variable {P : Program} {w : World} {K : PySem.W.Frag} {mg : Str → Option Value} {base : Heap} {f : Addr} {fd : FuncData}
def G_value_at : Gs := fun rs μ P => ∃ (s : Int) (v : Int) (hs : Held Int), rs = [.int s, .int v, .tup (hs.map encO)] ∧ SrcOk hs.length s ∧ P μ (.dat (encO (src s v hs)))
theorem sc_value_at : FnScope ["source", "value", "held"] ["source", "value", "held"] (defScope s_value_at) := ⟨rfl, rfl, rfl, by decide +kernel, rfl, by decide +kernel, by decide +kernel⟩
theorem ok_value_at (F : FD K "value_at" "value_at" s_value_at f fd) (M : Md mg) : FnOk P w K mg base C8.CX0 1 f fd ["source", "value", "held"] (spOf P w K G_value_at) := by
  refine ok_of F sc_value_at (fun rs μ Po ⟨s, v, hs, e, _⟩ => by rw [e]; rfl) fun cdv A outer s0 H E rs μ Po hr ⟨s, v, hs, e, hh, hP⟩ => ?_
  subst e
  obtain ⟨_, mr⟩ := M.read
  obtain ⟨_, mn⟩ := M.nothing
  refine w_cons <| w_if <| t_eqI <| e_var (i := 0) rfl <| e_gint mr ⟨_, rfl⟩ ⟨_, _, rfl, rfl, fun h => ?_, fun h => ?_⟩
  · refine w_one (w_ret (e_var (i := 1) rfl ?_))
    rw [decide_eq_true_eq] at h
    have : src s v hs = some v := by unfold src; rw [if_pos h]
    rw [this] at hP
    exact hP
  · refine w_nil <| w_one <| w_ret <| e_if <| t_eqI <| e_var (i := 0) rfl <| e_gint mn ⟨_, rfl⟩ ⟨_, _, rfl, rfl, fun h2 => ?_, fun h2 => ?_⟩
    · rw [decide_eq_true_eq] at h2
      rw [decide_eq_false_iff_not] at h
      have : src s v hs = none := by unfold src; rw [if_neg h, if_pos h2]
      rw [this] at hP
      exact e_non hP
    · rw [decide_eq_false_iff_not] at h h2
      rcases hh with hh | hh | ⟨h0, h1⟩
      · exact absurd hh h
      · exact absurd hh h2
      have hl : s.toNat < hs.length := by omega
      have hd : hs[s.toNat]? = some hs[s.toNat] := List.getElem?_eq_getElem hl
      have : src s v hs = hs[s.toNat] := by unfold src; rw [if_neg h, if_neg h2, hd]; rfl
      rw [this] at hP
      refine e_ixT <| e_var (i := 2) rfl <| e_var (i := 0) rfl ⟨_, _, _, rfl, rfl, ?_, hP⟩
      have := at_map (f := encO) hd
      rw [show ((s.toNat : Nat) : Int) = s by omega] at this
      exact this
/-! ### holds -/
def G_holds (d : Nat) : Gs := fun rs μ P => ∃ (c : Cond) (v : Int) (hs : Held Int), rs = [.dat (encC c), .int v, .tup (hs.map encO)] ∧ CondOk hs.length d c ∧ Pu μ P (.dat (.bool (holds c v hs)))
theorem sc_holds : FnScope ["condition", "value", "held", "kind", "part", "one", "other"] ["condition", "value", "held"] (defScope s_holds) := ⟨rfl, rfl, rfl, by decide +kernel, rfl, by decide +kernel, by decide +kernel⟩
def kS : Cond → Str
  | .tt => "true" | .ff => "false" | .less _ _ => "less" | .same _ _ => "same" | .empty _ => "empty" | .not _ => "not" | .all _ => "all" | .any _ => "any"
theorem encC_head (c : Cond) : ∃ ds, encC c = .tuple (.str (kS c) :: ds) := by cases c <;> exact ⟨_, by rw [encC]; rfl⟩
theorem holdsL_map (v : Int) (h : Held Int) : ∀ cs : List Cond, holdsL cs v h = cs.map fun c => holds c v h
  | [] => rfl
  | c :: cs => by rw [holdsL, holdsL_map v h cs]; rfl
section
variable {X : Cx} {ρ : Rho} {μ : Mu} {T : Po} {pos p p2 p3 q q2 q3 q4 : Pos} {rest body : List Stmt} {x lit lit2 s : Str} {i j j2 : Nat}
theorem if_no (hr : ρ[i]? = some (some (.dat (.str s)))) (hne : s ≠ lit) (h : WS X ρ μ rest T) (hN : X.N[i]? = some x := by rfl) (hv : Vis X.env.scope x := by first | exact .inl rfl | exact .inr (.inl rfl) | exact .inr (.inr rfl)) (hd : (x == ("__debug__" : Str)) = false := by decide) (hcd : (x == ("__classdict__" : Str)) = false := by decide) :
    WS X ρ μ (.If (.Compare (.Name x p) [.Eq] [.Constant (.str lit) j p2] p3) body [] pos :: rest) T :=
  w_cons <| w_if <| t_eqS <| e_var (i := i) hr (e_str ⟨_, _, rfl, rfl, fun h => absurd (of_decide_eq_true h) hne, fun _ => w_nil h⟩) hN hv hd hcd
theorem if_yes (hr : ρ[i]? = some (some (.dat (.str s)))) (he : s = lit) (h : WS X ρ μ body { T with nx := fun ρ' μ' => WS X ρ' μ' rest T }) (hN : X.N[i]? = some x := by rfl) (hv : Vis X.env.scope x := by first | exact .inl rfl | exact .inr (.inl rfl) | exact .inr (.inr rfl)) (hd : (x == ("__debug__" : Str)) = false := by decide) (hcd : (x == ("__classdict__" : Str)) = false := by decide) :
    WS X ρ μ (.If (.Compare (.Name x p) [.Eq] [.Constant (.str lit) j p2] p3) body [] pos :: rest) T :=
  w_cons <| w_if <| t_eqS <| e_var (i := i) hr (e_str ⟨_, _, rfl, rfl, fun _ => h, fun h => absurd he (of_decide_eq_false h)⟩) hN hv hd hcd
/-- kind == a or kind == b -/
theorem if_two (hr : ρ[i]? = some (some (.dat (.str s)))) (h1 : s = lit ∨ s = lit2 → WS X ρ μ body { T with nx := fun ρ' μ' => WS X ρ' μ' rest T }) (h2 : s ≠ lit → s ≠ lit2 → WS X ρ μ rest T) (hN : X.N[i]? = some x := by rfl) (hv : Vis X.env.scope x := by first | exact .inl rfl | exact .inr (.inl rfl) | exact .inr (.inr rfl)) (hd : (x == ("__debug__" : Str)) = false := by decide) (hcd : (x == ("__classdict__" : Str)) = false := by decide) :
    WS X ρ μ (.If (.BoolOp .Or [.Compare (.Name x p) [.Eq] [.Constant (.str lit) j p2] p3, .Compare (.Name x q) [.Eq] [.Constant (.str lit2) j2 q2] q3] q4) body [] pos :: rest) T :=
  w_cons <| w_if <| t_w <| t_or <| t_eqS <| e_var (i := i) hr (e_str ⟨_, _, rfl, rfl, fun n1 => t_or1 <| t_eqS <| e_var (i := i) hr (e_str ⟨_, _, rfl, rfl, fun e => h1 (.inr (of_decide_eq_true e)), fun n2 => w_nil (h2 (of_decide_eq_false n1) (of_decide_eq_false n2))⟩) hN hv hd hcd, fun e => ⟨fun _ => h1 (.inl (of_decide_eq_true e)), fun z => absurd z (by decide)⟩⟩) hN hv hd hcd
end
theorem ok_holds_step (F : FD K "holds" "holds" s_holds f fd) (M : Md mg) (cv : Fn P w K mg base 1 "value_at" G_value_at) (d : Nat) (rec : d ≠ 0 → Fn P w K mg base (d + 1) "holds" (G_holds (d - 1))) :
    FnOk P w K mg base C8.CX0 (d + 2) f fd ["condition", "value", "held"] (spOf P w K (G_holds d)) := by
  refine ok_of F sc_holds (fun rs μ Po ⟨_, _, _, e, _⟩ => by rw [e]; rfl) fun cdv A outer s0 H E rs μ Po hr ⟨c, v, hs, e, hh, hP⟩ => ?_
  subst e
  obtain ⟨ds, ec⟩ := encC_head c
  refine w_cons <| w_set (i := 3) sc_holds.nd <| e_ixK <| e_var (i := 0) rfl ⟨_, .str (kS c), by rw [ec], atN (i := 0) rfl, ?_⟩
  cases c with
  | tt => exact if_two (i := 3) rfl (fun _ => w_one <| w_ret <| e_eqS <| e_var (i := 3) rfl <| e_str ⟨_, _, rfl, rfl, hP _ (MSub.refl _)⟩) (fun h => absurd rfl h)
  | ff => exact if_two (i := 3) rfl (fun _ => w_one <| w_ret <| e_eqS <| e_var (i := 3) rfl <| e_str ⟨_, _, rfl, rfl, hP _ (MSub.refl _)⟩) (fun _ h => absurd rfl h)
  | not c =>
    refine if_two (i := 3) (s := "not") rfl (fun h => absurd h (by decide)) fun _ _ => ?_
    refine if_yes (i := 3) (s := "not") rfl rfl ?_
    cases d with
    | zero => exact (by simpa [CondOk] using hh : False).elim
    | succ d =>
      rw [CondOk] at hh
      refine w_one <| w_ret <| e_not <| e_call (rec (by omega)) hr (a_cons <| e_ixK <| e_var (i := 0) rfl ⟨_, encC c, by rw [encC], rfl, ?_⟩) (by omega)
      exact a_cons <| e_var (i := 1) rfl <| a_cons <| e_var (i := 2) rfl <| a_nil ⟨c, v, hs, rfl, hh, fun μ' m => ⟨_, rfl, by have := hP μ' m; rw [holds] at this; exact this⟩⟩
  | all cs =>
    refine if_two (i := 3) (s := "all") rfl (fun h => absurd h (by decide)) fun _ _ => ?_
    refine if_no (i := 3) (s := "all") rfl (by decide) <| if_yes (i := 3) (s := "all") rfl rfl ?_
    cases d with
    | zero => exact (by simpa [CondOk] using hh : False).elim
    | succ d =>
      rw [CondOk] at hh
      refine w_one <| w_ret <| e_all rfl M.all <| e_mapS (g := gN 4) (sl := [4]) [("part", 4)] (fun i => SV.dat (.bool ((cs[i]?.map fun c => holds c v hs).getD false))) rfl sc_holds.nd (blkOk_by rfl) (by decide) (fun _ _ _ _ _ => (g_name sc_holds.nd)) <| i_tup <| e_ixK <| e_var (i := 0) rfl ⟨_, .tuple (encCs cs), by rw [encC], rfl, ?_⟩
      refine ⟨_, rfl, by rw [encCs_eq, List.length_map]; have := hh.2; omega, fun _ _ => trivial, ?_, ?_⟩
      · rintro i x μ' hi ⟨dd, hd, rfl⟩ _
        rw [encCs_eq, List.getElem?_map] at hd
        cases hc : cs[i]? with
        | none => rw [hc] at hd; cases hd
        | some c =>
          rw [hc] at hd
          cases hd
          intro s1 H1 C1 cl1 fp1
          exact e_call (rec (by omega)) hr (a_cons <| e_var (i := 4) rfl <| a_cons <| e_var (i := 1) rfl <| a_cons <| e_var (i := 2) rfl <| a_nil ⟨c, v, hs, rfl, hh.1.get c (List.mem_of_getElem? hc), fun μ2 m2 => ⟨m2, rfl⟩⟩) (by omega)
      · intro μ' hm q hq
        refine ⟨q, cs.map fun c => holds c v hs, rfl, .inl ?_, ?_⟩
        · rw [updM_same, encCs_eq, List.length_map, List.map_map]
          congr 2
          exact mapF cs _ _ fun i x hx => by rw [hx]; rfl
        · have := hP _ (hm.new (c := .lst ((List.range (encCs cs).length).map fun i => SV.dat (.bool ((cs[i]?.map fun c => holds c v hs).getD false)))) hq)
          rw [holds, holdsL_map] at this
          exact this
  | any cs =>
    refine if_two (i := 3) (s := "any") rfl (fun h => absurd h (by decide)) fun _ _ => ?_
    refine if_no (i := 3) (s := "any") rfl (by decide) <| if_no (i := 3) (s := "any") rfl (by decide) <| if_yes (i := 3) (s := "any") rfl rfl ?_
    cases d with
    | zero => exact (by simpa [CondOk] using hh : False).elim
    | succ d =>
      rw [CondOk] at hh
      refine w_one <| w_ret <| e_any rfl M.any <| e_mapS (g := gN 4) (sl := [4]) [("part", 4)] (fun i => SV.dat (.bool ((cs[i]?.map fun c => holds c v hs).getD false))) rfl sc_holds.nd (blkOk_by rfl) (by decide) (fun _ _ _ _ _ => (g_name sc_holds.nd)) <| i_tup <| e_ixK <| e_var (i := 0) rfl ⟨_, .tuple (encCs cs), by rw [encC], rfl, ?_⟩
      refine ⟨_, rfl, by rw [encCs_eq, List.length_map]; have := hh.2; omega, fun _ _ => trivial, ?_, ?_⟩
      · rintro i x μ' hi ⟨dd, hd, rfl⟩ _
        rw [encCs_eq, List.getElem?_map] at hd
        cases hc : cs[i]? with
        | none => rw [hc] at hd; cases hd
        | some c =>
          rw [hc] at hd
          cases hd
          intro s1 H1 C1 cl1 fp1
          exact e_call (rec (by omega)) hr (a_cons <| e_var (i := 4) rfl <| a_cons <| e_var (i := 1) rfl <| a_cons <| e_var (i := 2) rfl <| a_nil ⟨c, v, hs, rfl, hh.1.get c (List.mem_of_getElem? hc), fun μ2 m2 => ⟨m2, rfl⟩⟩) (by omega)
      · intro μ' hm q hq
        refine ⟨q, cs.map fun c => holds c v hs, rfl, .inl ?_, ?_⟩
        · rw [updM_same, encCs_eq, List.length_map, List.map_map]
          congr 2
          exact mapF cs _ _ fun i x hx => by rw [hx]; rfl
        · have := hP _ (hm.new (c := .lst ((List.range (encCs cs).length).map fun i => SV.dat (.bool ((cs[i]?.map fun c => holds c v hs).getD false)))) hq)
          rw [holds, holdsL_map] at this
          exact this
  | empty a =>
    refine if_two (i := 3) (s := "empty") rfl (fun h => absurd h (by decide)) fun _ _ => ?_
    refine if_no (i := 3) (s := "empty") rfl (by decide) <| if_no (i := 3) (s := "empty") rfl (by decide) <| if_no (i := 3) (s := "empty") rfl (by decide) ?_
    have h1 : SrcOk hs.length a := by simpa [CondOk] using hh
    refine w_cons <| w_set (i := 5) sc_holds.nd <| e_call cv hr (a_cons <| e_ixK <| e_var (i := 0) rfl ⟨_, _, by rw [encC], rfl, a_cons <| e_var (i := 1) rfl <| a_cons <| e_var (i := 2) rfl <| a_nil ⟨a, v, hs, rfl, h1, ?_⟩⟩) (by omega)
    refine if_yes (i := 3) (s := "empty") rfl rfl <| w_one <| w_ret <| e_isN <| e_var (i := 5) rfl ?_
    have hP := hP μ (MSub.refl μ)
    rw [holds] at hP
    cases h : src a v hs <;> (rw [h] at hP; exact hP)
  | less a b =>
    refine if_two (i := 3) (s := "less") rfl (fun h => absurd h (by decide)) fun _ _ => ?_
    refine if_no (i := 3) (s := "less") rfl (by decide) <| if_no (i := 3) (s := "less") rfl (by decide) <| if_no (i := 3) (s := "less") rfl (by decide) ?_
    rw [CondOk] at hh
    refine w_cons <| w_set (i := 5) sc_holds.nd <| e_call cv hr (a_cons <| e_ixK <| e_var (i := 0) rfl ⟨_, _, by rw [encC], rfl, a_cons <| e_var (i := 1) rfl <| a_cons <| e_var (i := 2) rfl <| a_nil ⟨a, v, hs, rfl, hh.1, ?_⟩⟩) (by omega)
    refine if_no (i := 3) (s := "less") rfl (by decide) ?_
    refine w_cons <| w_set (i := 6) sc_holds.nd <| e_call cv hr (a_cons <| e_ixK <| e_var (i := 0) rfl ⟨_, _, by rw [encC], rfl, a_cons <| e_var (i := 1) rfl <| a_cons <| e_var (i := 2) rfl <| a_nil ⟨b, v, hs, rfl, hh.2, ?_⟩⟩) (by omega)
    have hP := hP μ (MSub.refl μ)
    rw [holds] at hP
    cases h1 : src a v hs with
    | none =>
      rw [h1] at hP
      exact w_cons <| w_if <| t_w <| t_or <| t_isN <| e_var (i := 5) rfl ⟨fun h => ft h, fun _ => ⟨fun _ => w_one <| w_ret <| e_bl hP, fun z => ft z⟩⟩
    | some x =>
      rw [h1] at hP
      cases h2 : src b v hs with
      | none =>
        rw [h2] at hP
        exact w_cons <| w_if <| t_w <| t_or <| t_isN <| e_var (i := 5) rfl ⟨fun _ => t_or1 <| t_isN <| e_var (i := 6) rfl ⟨fun _ => w_one <| w_ret <| e_bl hP, fun z => ft z⟩, fun z => ff z⟩
      | some y =>
        rw [h2] at hP
        refine w_cons <| w_if <| t_w <| t_or <| t_isN <| e_var (i := 5) rfl ⟨fun _ => t_or1 <| t_isN <| e_var (i := 6) rfl ⟨fun z => ff z, fun _ => w_nil ?_⟩, fun z => ff z⟩
        exact w_one <| w_ret <| e_if <| t_eqS <| e_var (i := 3) rfl <| e_str ⟨_, _, rfl, rfl, fun h => e_lt <| e_var (i := 5) rfl <| e_var (i := 6) rfl ⟨x, y, rfl, rfl, hP⟩, fun h => absurd rfl (of_decide_eq_false h)⟩
  | same a b =>
    refine if_two (i := 3) (s := "same") rfl (fun h => absurd h (by decide)) fun _ _ => ?_
    refine if_no (i := 3) (s := "same") rfl (by decide) <| if_no (i := 3) (s := "same") rfl (by decide) <| if_no (i := 3) (s := "same") rfl (by decide) ?_
    rw [CondOk] at hh
    refine w_cons <| w_set (i := 5) sc_holds.nd <| e_call cv hr (a_cons <| e_ixK <| e_var (i := 0) rfl ⟨_, _, by rw [encC], rfl, a_cons <| e_var (i := 1) rfl <| a_cons <| e_var (i := 2) rfl <| a_nil ⟨a, v, hs, rfl, hh.1, ?_⟩⟩) (by omega)
    refine if_no (i := 3) (s := "same") rfl (by decide) ?_
    refine w_cons <| w_set (i := 6) sc_holds.nd <| e_call cv hr (a_cons <| e_ixK <| e_var (i := 0) rfl ⟨_, _, by rw [encC], rfl, a_cons <| e_var (i := 1) rfl <| a_cons <| e_var (i := 2) rfl <| a_nil ⟨b, v, hs, rfl, hh.2, ?_⟩⟩) (by omega)
    have hP := hP μ (MSub.refl μ)
    rw [holds] at hP
    cases h1 : src a v hs with
    | none =>
      rw [h1] at hP
      exact w_cons <| w_if <| t_w <| t_or <| t_isN <| e_var (i := 5) rfl ⟨fun h => ft h, fun _ => ⟨fun _ => w_one <| w_ret <| e_bl hP, fun z => ft z⟩⟩
    | some x =>
      rw [h1] at hP
      cases h2 : src b v hs with
      | none =>
        rw [h2] at hP
        exact w_cons <| w_if <| t_w <| t_or <| t_isN <| e_var (i := 5) rfl ⟨fun _ => t_or1 <| t_isN <| e_var (i := 6) rfl ⟨fun _ => w_one <| w_ret <| e_bl hP, fun z => ft z⟩, fun z => ff z⟩
      | some y =>
        rw [h2] at hP
        refine w_cons <| w_if <| t_w <| t_or <| t_isN <| e_var (i := 5) rfl ⟨fun _ => t_or1 <| t_isN <| e_var (i := 6) rfl ⟨fun z => ff z, fun _ => w_nil ?_⟩, fun z => ff z⟩
        exact w_one <| w_ret <| e_if <| t_eqS <| e_var (i := 3) rfl <| e_str ⟨_, _, rfl, rfl, fun h => absurd (show (("same" : Str)) = "less" from of_decide_eq_true h) (by decide), fun h => e_eqI <| e_var (i := 5) rfl <| e_var (i := 6) rfl ⟨x, y, rfl, rfl, hP⟩⟩
theorem c_holds (F : FD K "holds" "holds" s_holds f fd) (M : Md mg) (cv : Fn P w K mg base 1 "value_at" G_value_at) (hb : ∀ k sp, FnOk P w K mg base C8.CX0 k f fd ["condition", "value", "held"] sp → C8.Cal P w K mg base k "holds" sp []) : ∀ d : Nat, Fn P w K mg base (d + 2) "holds" (G_holds d)
  | 0 => hb _ _ (ok_holds_step F M cv 0 fun h => absurd rfl h)
  | d + 1 => hb _ _ (ok_holds_step F M cv (d + 1) fun _ => c_holds F M cv hb d)
end
end AV
-- text W03
set_option Elab.async false
set_option linter.all false
set_option maxRecDepth 100000
set_option maxHeartbeats 4000000
namespace AV
open PySem L2 TH
theorem find_idx {α : Type} (p : α → Bool) : ∀ l : List α, (l.findIdx? p = none ∧ l.find? p = none) ∨ ∃ i k, l.findIdx? p = some i ∧ l[i]? = some k ∧ l.find? p = some k
  | [] => .inl ⟨rfl, rfl⟩
  | x :: xs => by
    rw [List.findIdx?_cons, List.find?_cons]
    cases h : p x with
    | true => exact .inr ⟨0, x, by simp, rfl, rfl⟩
    | false =>
      rcases find_idx p xs with ⟨h1, h2⟩ | ⟨i, k, h1, h2, h3⟩
      · exact .inl ⟨by simp [h1], h2⟩
      · exact .inr ⟨i + 1, k, by simp [h1], by simpa using h2, h3⟩
theorem findIdx_at {α : Type} {p : α → Bool} {l : List α} {i : Nat} {k : α} (h : l[i]? = some k) (hp : p k = true) (hn : ∀ j x, j < i → l[j]? = some x → p x = false) : l.findIdx? p = some i := by
  rw [List.findIdx?_eq_some_iff_getElem]
  obtain ⟨hl, e⟩ := List.getElem?_eq_some_iff.mp h
  refine ⟨hl, by rw [e]; exact hp, fun j hj => ?_⟩
  have := hn j l[j] hj (List.getElem?_eq_getElem (by omega))
  simp [this]
theorem findIdx_no {α : Type} {p : α → Bool} {l : List α} (hn : ∀ j x, j < l.length → l[j]? = some x → p x = false) : l.findIdx? p = none := by
  rw [List.findIdx?_eq_none_iff]
  intro x hx
  obtain ⟨j, hj⟩ := List.mem_iff_getElem?.mp hx
  exact hn j x (List.getElem?_eq_some_iff.mp hj).1 hj
section
variable {P : Program} {w : World} {K : PySem.W.Frag} {mg : Str → Option Value} {base : Heap} {f : Addr} {fd : FuncData}
def G_beginning : Gs := fun rs μ P => ∃ m : Machine, rs = [.dat (encM m)] ∧ m.regs ≤ 1000 ∧ Pu μ P (.dat (encCon (begin m)))
theorem sc_beginning : FnScope ["machine"] ["machine"] (defScope s_beginning) := ⟨rfl, rfl, rfl, by decide +kernel, rfl, by decide +kernel, by decide +kernel⟩
theorem rep_non (n : Nat) : (List.replicate n [PyData.none]).flatten = (List.replicate n (none : Option Int)).map encO := by
  induction n with
  | zero => rfl
  | succ n ih => rw [List.replicate_succ, List.flatten_cons, ih]; rfl
theorem ok_beginning (F : FD K "beginning" "beginning" s_beginning f fd) (M : Md mg) : FnOk P w K mg base C8.CX0 1 f fd ["machine"] (spOf P w K G_beginning) := by
  refine ok_of F sc_beginning (fun rs μ Po ⟨_, e, _⟩ => by rw [e]; rfl) fun cdv A outer s0 H E rs μ Po hr ⟨m, e, hm, hP⟩ => ?_
  subst e
  refine w_one <| w_ret <| e_tup <| a_cons <| e_int <| a_cons <| e_repT <| e_tup <| a_cons <| e_non <| a_nil ⟨[.none], rfl, sz, ?_⟩
  refine e_ixK <| e_var (i := 0) rfl ⟨_, .int m.regs, rfl, rfl, [.none], m.regs, rfl, rfl, by simp, by simp, by omega, by omega, a_nil ⟨[.int 0, _], rfl, sz, ?_⟩⟩
  have := hP μ (MSub.refl μ)
  unfold encCon encH begin at this
  rw [show ((m.regs : Int)).toNat = m.regs by omega, rep_non]
  exact this
/-! ### case_for -/
def G_case_for : Gs := fun rs μ P => ∃ (m : Machine) (c : Con Int) (t : Nat) (v : Int), rs = [.dat (encM m), .dat (encCon c), .dat (encE (t, v))] ∧ MOk m ∧ c.1 < m.steps.length ∧ c.2.length = m.regs ∧ t < m.tags ∧ Pu μ P (.dat (encN (caseFor m c t v)))
theorem sc_case_for : FnScope ["machine", "content", "entry", "standing", "held", "tag", "value", "number", "case"] ["machine", "content", "entry"] (defScope s_case_for) := ⟨rfl, rfl, rfl, by decide +kernel, rfl, by decide +kernel, by decide +kernel⟩
theorem ok_case_for (F : FD K "case_for" "case_for" s_case_for f fd) (M : Md mg) (ch : Fn P w K mg base 10 "holds" (G_holds 8)) : FnOk P w K mg base C8.CX0 11 f fd ["machine", "content", "entry"] (spOf P w K G_case_for) := by
  refine ok_of F sc_case_for (fun rs μ Po ⟨_, _, _, _, e, _⟩ => by rw [e]; rfl) fun cdv A outer s0 H E rs μ Po hr ⟨m, c, t, v, e, o, hc, hl, ht, hP⟩ => ?_
  subst e
  obtain ⟨rows, row, h1, h2, h3, h4, h5⟩ := o.at_ hc ht
  refine w_cons <| w_unp (g := gP [gN 3, gN 4]) (sl := [3, 4]) (g_tup rfl (g_cons (g_name sc_case_for.nd) (g_cons (g_name sc_case_for.nd) g_nil))) <| e_var (i := 1) rfl ⟨_, rfl, rfl, ?_⟩
  refine w_cons <| w_unp (g := gP [gN 5, gN 6]) (sl := [5, 6]) (g_tup rfl (g_cons (g_name sc_case_for.nd) (g_cons (g_name sc_case_for.nd) g_nil))) <| e_var (i := 2) rfl ⟨_, rfl, rfl, ?_⟩
  refine w_cons <| w_for (g := gP [gN 7, gN 8]) (sl := [7, 8]) PassesOwn.never rfl (g_tup rfl (g_cons (g_name sc_case_for.nd) (g_cons (g_name sc_case_for.nd) g_nil))) <| i_enumT M.enum <| e_ixV (n := t) (ds := rows.map encRow) (d := encRow row) (by rw [List.getElem?_map, h2]; rfl) <|
    e_ixV (n := c.1) (ds := m.steps.map encRows) (d := encRows rows) (by rw [List.getElem?_map, h1]; rfl) <| e_ixK <| e_var (i := 0) rfl ⟨_, .tuple (m.steps.map encRows), rfl, rfl, rfl, e_var (i := 3) rfl ⟨rfl, rfl, e_var (i := 5) rfl ⟨rfl, row.map encK, rfl, ?_⟩⟩⟩
  refine ⟨fun i ρ μ' => MSub μ μ' ∧ (∃ a b, ρ = [some (.dat (encM m)), some (.dat (encCon c)), some (.dat (encE (t, v))), some (.int c.1), some (.dat (encH c.2)), some (.int t), some (.int v), a, b]) ∧ ∀ j k, j < i → row[j]? = some k → holds k.cond v c.2 = false, ⟨MSub.refl _, ⟨_, _, rfl⟩, fun j k h => by omega⟩, fun _ _ _ _ _ => trivial, ?_, ?_⟩
  · rintro i x ρ1 μ1 hi ⟨d, hd, rfl⟩ ⟨hm, ⟨a, b, rfl⟩, hn⟩
    rw [List.getElem?_map] at hd
    cases hk : row[i]? with
    | none => rw [hk] at hd; cases hd
    | some k =>
      rw [hk] at hd
      cases hd
      have ok := h5 k (List.mem_of_getElem? hk)
      refine ⟨_, rfl, rfl, ?_⟩
      refine w_one <| w_if <| t_val <| e_call ch hr (a_cons <| e_ixK <| e_var (i := 8) rfl ⟨_, encC k.cond, rfl, rfl, a_cons <| e_var (i := 6) rfl <| a_cons <| e_var (i := 4) rfl <| a_nil ⟨k.cond, v, c.2, rfl, by rw [hl]; exact ok.cond, fun μ2 m2 => ⟨_, rfl, fun hT => ?_, fun hF => w_nil ?_⟩⟩⟩)
      · refine w_one <| w_ret <| e_var (i := 7) rfl ?_
        have := hP μ2 (hm.trans m2)
        unfold caseFor at this
        rw [h3, findIdx_at (p := fun k => holds k.cond v c.2) hk hT fun j x hj hx => hn j x hj hx] at this
        exact this
      · refine ⟨hm.trans m2, ⟨_, _, rfl⟩, fun j k' hj hk' => ?_⟩
        by_cases e : j = i
        · subst e; rw [hk] at hk'; cases hk'; exact hF
        · exact hn j k' (by omega) hk'
  · rintro ρ1 μ1 ⟨hm, ⟨a, b, rfl⟩, hn⟩
    refine w_one <| w_ret <| e_non ?_
    have := hP μ1 hm
    unfold caseFor at this
    rw [List.length_map] at hn
    rw [h3, findIdx_no (p := fun k => holds k.cond v c.2) fun j x hj hx => hn j x hj hx] at this
    exact this
/-! ### read -/
def G_read : Gs := fun rs μ P => ∃ (m : Machine) (c : Con Int) (t : Nat) (v : Int), rs = [.dat (encM m), .dat (encCon c), .dat (encE (t, v))] ∧ MOk m ∧ c.1 < m.steps.length ∧ c.2.length = m.regs ∧ t < m.tags ∧ Pu μ P (.tup [encCon (readM m c t v).1, encA (readM m c t v).2])
theorem sc_read : FnScope ["machine", "content", "entry", "number", "standing", "held", "tag", "value", "_", "moves", "says", "after", "answer", "said", "source"] ["machine", "content", "entry"] (defScope s_read) := ⟨rfl, rfl, rfl, by decide +kernel, rfl, by decide +kernel, by decide +kernel⟩
theorem ok_read (F : FD K "read" "read" s_read f fd) (M : Md mg) (cc : Fn P w K mg base 11 "case_for" G_case_for) (cv : Fn P w K mg base 1 "value_at" G_value_at) : FnOk P w K mg base C8.CX0 12 f fd ["machine", "content", "entry"] (spOf P w K G_read) := by
  refine ok_of F sc_read (fun rs μ Po ⟨_, _, _, _, e, _⟩ => by rw [e]; rfl) fun cdv A outer s0 H E rs μ Po hr ⟨m, c, t, v, e, o, hc, hl, ht, hP⟩ => ?_
  subst e
  obtain ⟨rows, row, h1, h2, h3, h4, h5⟩ := o.at_ hc ht
  refine w_cons <| w_set (i := 3) sc_read.nd <| e_call cc hr <| a_cons <| e_var (i := 0) rfl <| a_cons <| e_var (i := 1) rfl <| a_cons <| e_var (i := 2) rfl <| a_nil ⟨m, c, t, v, rfl, o, hc, hl, ht, fun μ1 m1 => ?_⟩
  rcases find_idx (fun k => holds k.cond v c.2) row with ⟨e1, e2⟩ | ⟨i, k, e1, e2, e3⟩
  · have ef : caseFor m c t v = none := by unfold caseFor; rw [h3]; exact e1
    have er : readM m c t v = (c, []) := by unfold readM; rw [h3, e2]
    rw [ef]
    rw [er] at hP
    refine w_cons <| w_if <| t_isN <| e_var (i := 3) rfl ⟨fun _ => ?_, fun h => ft h⟩
    exact w_one <| w_ret <| e_tup <| a_cons <| e_var (i := 1) rfl <| a_cons <| e_tup <| a_nil ⟨[], rfl, sz, a_nil ⟨[encCon c, .tuple []], rfl, sz, hP μ1 m1⟩⟩
  · have ef : caseFor m c t v = some i := by unfold caseFor; rw [h3]; exact e1
    have er : readM m c t v = doCase k v c.2 := by unfold readM; rw [h3, e3]
    have ok := h5 k (List.mem_of_getElem? e2)
    rw [ef]
    rw [er] at hP
    have hP' : Pu μ Po (.tup [.tuple [.int k.next, .tuple (k.moves.map fun s => encO (src s v c.2))], .tuple (k.says.map fun p => encA1 (p.1, src p.2 v c.2))]) := by
      have := hP
      unfold doCase encCon encH encA at this
      simp only [List.map_map] at this
      exact this
    have hlm := ok.moves
    have hreg := o.regs
    have hfew := ok.few
    refine w_cons <| w_if <| t_isN <| e_var (i := 3) rfl ⟨fun h => ff h, fun _ => w_nil ?_⟩
    refine w_cons <| w_unp (g := gP [gN 4, gN 5]) (sl := [4, 5]) (g_tup rfl (g_cons (g_name sc_read.nd) (g_cons (g_name sc_read.nd) g_nil))) <| e_var (i := 1) rfl ⟨_, rfl, rfl, ?_⟩
    refine w_cons <| w_unp (g := gP [gN 6, gN 7]) (sl := [6, 7]) (g_tup rfl (g_cons (g_name sc_read.nd) (g_cons (g_name sc_read.nd) g_nil))) <| e_var (i := 2) rfl ⟨_, rfl, rfl, ?_⟩
    refine w_cons <| w_unp (g := gP [gN 8, gN 9, gN 10, gN 11]) (sl := [8, 9, 10, 11]) (g_tup rfl (g_cons (g_name sc_read.nd) (g_cons (g_name sc_read.nd) (g_cons (g_name sc_read.nd) (g_cons (g_name sc_read.nd) g_nil))))) <|
      e_ixV (n := i) (ds := row.map encK) (d := encK k) (by rw [List.getElem?_map, e2]; rfl) <| e_ixV (n := t) (ds := rows.map encRow) (d := encRow row) (by rw [List.getElem?_map, h2]; rfl) <|
      e_ixV (n := c.1) (ds := m.steps.map encRows) (d := encRows rows) (by rw [List.getElem?_map, h1]; rfl) <| e_ixK <| e_var (i := 0) rfl ⟨_, .tuple (m.steps.map encRows), rfl, rfl, rfl, e_var (i := 4) rfl ⟨rfl, rfl, e_var (i := 6) rfl ⟨rfl, rfl, e_var (i := 3) rfl ⟨rfl, _, rfl, rfl, ?_⟩⟩⟩⟩
    show WS _ [_, _, _, _, _, _, _, _, _, _, _, _, _, _, _] _ _ _
    refine w_cons <| w_set (i := 12) sc_read.nd <| e_tuple M.tuple <| e_mapS (g := gP [gN 13, gN 14]) (sl := [13, 14]) [("said", 13), ("source", 14)] (fun i => SV.dat ((k.says[i]?.map fun p => encA1 (p.1, src p.2 v c.2)).getD .none)) rfl sc_read.nd (blkOk_by rfl) (by decide) (fun _ _ _ _ _ => (g_tup rfl (g_cons (g_name sc_read.nd) (g_cons (g_name sc_read.nd) g_nil)))) <| i_tup <| e_var (i := 10) rfl ⟨k.says.map encS, rfl, ?_⟩
    refine ⟨by rw [List.length_map]; omega, fun _ _ => trivial, ?_, ?_⟩
    · rintro j x μ2 hj ⟨d, hd, rfl⟩ hm2
      rw [List.getElem?_map] at hd
      cases hs : k.says[j]? with
      | none => rw [hs] at hd; cases hd
      | some p =>
        rw [hs] at hd
        cases hd
        refine ⟨_, rfl, rfl, fun s1 H1 C1 cl1 fp1 => ?_⟩
        exact e_tup <| a_cons <| e_var (i := 13) rfl <| a_cons <| e_call cv hr (a_cons <| e_var (i := 14) rfl <| a_cons <| e_var (i := 7) rfl <| a_cons <| e_var (i := 5) rfl <| a_nil ⟨p.2, v, c.2, rfl, by rw [hl]; exact ok.says p (List.mem_of_getElem? hs), a_nil ⟨[.int p.1, encO (src p.2 v c.2)], rfl, sz, MSub.refl _, rfl⟩⟩) (by omega)
    intro μ2 m2 q hq
    refine ⟨q, (k.says.map fun p => encA1 (p.1, src p.2 v c.2)), rfl, .inl ?_, ?_⟩
    · rw [updM_same, List.length_map, List.map_map]
      congr 2
      exact mapF k.says _ _ fun i x hx => by rw [hx]; rfl
    show WS _ [_, _, _, _, _, _, _, _, _, _, _, _, _, _, _] _ _ _
    refine w_one <| w_ret <| e_tup <| a_cons <| e_tup <| a_cons <| e_var (i := 11) rfl <| a_cons <| e_tuple M.tuple <| e_mapS (g := gN 14) (sl := [14]) [("source", 14)] (fun i => SV.dat ((k.moves[i]?.map fun s => encO (src s v c.2)).getD .none)) rfl sc_read.nd (blkOk_by rfl) (by decide) (fun _ _ _ _ _ => (g_name sc_read.nd)) <| i_tup <| e_var (i := 9) rfl ⟨k.moves.map .int, rfl, ?_⟩
    refine ⟨by rw [List.length_map]; omega, fun _ _ => trivial, ?_, ?_⟩
    · rintro j x μ3 hj ⟨d, hd, rfl⟩ hm3
      rw [List.getElem?_map] at hd
      cases hs : k.moves[j]? with
      | none => rw [hs] at hd; cases hd
      | some s =>
        rw [hs] at hd
        cases hd
        intro s1 H1 C1 cl1 fp1
        exact e_call cv hr (a_cons <| e_var (i := 14) rfl <| a_cons <| e_var (i := 7) rfl <| a_cons <| e_var (i := 5) rfl <| a_nil ⟨s, v, c.2, rfl, by rw [hl]; exact ok.srcs s (List.mem_of_getElem? hs), MSub.refl _, rfl⟩) (by omega)
    intro μ3 m3 q3 hq3
    refine ⟨q3, (k.moves.map fun s => encO (src s v c.2)), rfl, .inl ?_, ?_⟩
    · rw [updM_same, List.length_map, List.map_map]
      congr 2
      exact mapF k.moves _ _ fun i x hx => by rw [hx]; rfl
    refine a_nil ⟨[.int k.next, .tuple (k.moves.map fun s => encO (src s v c.2))], rfl, sz, a_cons <| e_var (i := 12) rfl <| a_nil ⟨[.tuple [.int k.next, .tuple (k.moves.map fun s => encO (src s v c.2))], .tuple (k.says.map fun p => encA1 (p.1, src p.2 v c.2))], rfl, sz, ?_⟩⟩
    exact hP' _ ((((m1.trans m2).new hq).trans m3).new hq3)
end
end AV
-- text W04
set_option Elab.async false
set_option linter.all false
set_option maxRecDepth 100000
set_option maxHeartbeats 4000000
namespace AV
open PySem L2 TH
theorem read_st {m : Machine} (o : MOk m) {c : Con Int} (hc : c.1 < m.steps.length) (hl : c.2.length = m.regs) {t : Nat} (ht : t < m.tags) (v : Int) : (readM m c t v).1.1 < m.steps.length ∧ (readM m c t v).1.2.length = m.regs ∧ (readM m c t v).2.length ≤ 1000 := by
  obtain ⟨rows, row, h1, h2, h3, h4, h5⟩ := o.at_ hc ht
  unfold readM
  rw [h3]
  cases h : row.find? fun k => holds k.cond v c.2 with
  | none => exact ⟨hc, hl, by simp⟩
  | some k =>
    have ok := h5 k (List.mem_of_find?_eq_some h)
    exact ⟨ok.next, by unfold doCase; rw [List.length_map, ok.moves], by unfold doCase; rw [List.length_map]; exact ok.few⟩
section
variable {P : Program} {w : World} {K : PySem.W.Frag} {mg : Str → Option Value} {base : Heap} {f : Addr} {fd : FuncData}
/-! ### answers_from, answers -/
def G_answers_from : Gs := fun rs μ P => ∃ (m : Machine) (c : Con Int) (log : List (Nat × Int)), rs = [.dat (encM m), .dat (encCon c), .tup (log.map encE)] ∧ MOk m ∧ c.1 < m.steps.length ∧ c.2.length = m.regs ∧ (∀ e ∈ log, e.1 < m.tags) ∧ log.length ≤ 1000000 ∧ Pu μ P (.tup ((run m c log).map encA))
theorem sc_answers_from : FnScope ["machine", "content", "log", "found", "entry", "answer"] ["machine", "content", "log"] (defScope s_answers_from) := ⟨rfl, rfl, rfl, by decide +kernel, rfl, by decide +kernel, by decide +kernel⟩
theorem run_app (m : Machine) : ∀ (l1 : List (Nat × Int)) (c : Con Int) (l2 : List (Nat × Int)), run m c (l1 ++ l2) = run m c l1 ++ run m ((l1.foldl (fun c e => (readM m c e.1 e.2).1) c)) l2
  | [], c, l2 => rfl
  | e :: l1, c, l2 => by
    show _ :: run m _ (l1 ++ l2) = _
    rw [run_app m l1]
    rfl
theorem ok_answers_from (F : FD K "answers_from" "answers_from" s_answers_from f fd) (M : Md mg) (cr : Fn P w K mg base 12 "read" G_read) : FnOk P w K mg base C8.CX0 13 f fd ["machine", "content", "log"] (spOf P w K G_answers_from) := by
  refine ok_of F sc_answers_from (fun rs μ Po ⟨_, _, _, e, _⟩ => by rw [e]; rfl) fun cdv A outer s0 H E rs μ Po hr ⟨m, c, log, e, o, hc, hl, ht, hn, hP⟩ => ?_
  subst e
  refine w_cons <| w_set (i := 3) sc_answers_from.nd <| e_lst <| a_nil ⟨sz, fun q hq => ?_⟩
  show WS _ [_, _, _, _, _, _] _ _ _
  refine w_cons <| w_for (g := gN 4) (sl := [4]) PassesOwn.never rfl (g_name sc_answers_from.nd) <| i_tup <| e_var (i := 2) rfl ⟨log.map encE, rfl, ?_⟩
  refine ⟨fun i ρ μ' => ∃ (c' : Con Int) (a b : Option SV) (μ2 : Mu), MSub μ μ2 ∧ μ2 q = none ∧ μ' = updM μ2 q (.lst ((run m c (log.take i)).map fun a => SV.dat (encA a))) ∧ c' = (log.take i).foldl (fun c e => (readM m c e.1 e.2).1) c ∧ c'.1 < m.steps.length ∧ c'.2.length = m.regs ∧ ρ = [some (.dat (encM m)), some (.dat (encCon c')), some (.tup (log.map encE)), some (.loc q), a, b],
    ⟨c, _, _, μ, MSub.refl _, hq, rfl, rfl, hc, hl, rfl⟩, fun _ _ _ _ _ => trivial, ?_, ?_⟩
  · rintro i x ρ1 μ1 hi ⟨d, hd, rfl⟩ ⟨c', a, b, μ2, hm, hq2, rfl, ec, hc', hl', rfl⟩
    rw [List.getElem?_map] at hd
    cases hk : log[i]? with
    | none => rw [hk] at hd; cases hd
    | some e =>
      rw [hk] at hd
      cases hd
      have het := ht e (List.mem_of_getElem? hk)
      show WS _ [_, _, _, _, _, _] _ _ _
      refine w_cons <| w_unp (g := gP [gN 1, gN 5]) (sl := [1, 5]) (g_tup rfl (g_cons (g_name sc_answers_from.nd) (g_cons (g_name sc_answers_from.nd) g_nil))) <| e_call cr hr <| a_cons <| e_var (i := 0) rfl <| a_cons <| e_var (i := 1) rfl <| a_cons <| e_var (i := 4) rfl <| a_nil ⟨m, c', e.1, e.2, rfl, o, hc', hl', het, fun μ3 m3 => ⟨_, rfl, rfl, ?_⟩⟩
      show WS _ [_, _, _, _, _, _] _ _ _
      have hq3 := m3 _ _ (updM_same (μ := μ2) (a := q))
      refine w_one <| w_expr <| e_append <| e_var (i := 3) rfl ⟨q, rfl, ⟨_, hq3⟩, e_var (i := 5) rfl ⟨_, hq3, ?_, ?_⟩⟩
      · have e0 : (run m c (log.take i)).length ≤ i := by
          have : ∀ (l : List (Nat × Int)) (c : Con Int), (run m c l).length = l.length := by
            intro l
            induction l with
            | nil => intro c; rfl
            | cons a l ih => intro c; show (run m _ l).length + 1 = _; rw [ih]; rfl
          rw [this, List.length_take]; omega
        rw [List.length_map] at hi ⊢
        omega
      · obtain ⟨r1, r2, _⟩ := read_st o hc' hl' het e.2
        have tk : log.take (i + 1) = log.take i ++ [e] := by rw [List.take_add_one, hk]; rfl
        refine ⟨_, _, _, rmM μ3 q, rmM_sub ((hm.trans (MSub.upd hq2)).trans m3) hq, rmM_same, ?_, ?_, r1, r2, rfl⟩
        · rw [tk, run_app, ← ec, List.map_append]
          conv => lhs; rw [rmM_back hq3]
          rw [updM_updM]
          rfl
        · rw [tk, List.foldl_append, ← ec]; rfl
  · rintro ρ1 μ1 ⟨c', a, b, μ2, hm, hq2, rfl, ec, hc', hl', rfl⟩
    refine w_one <| w_ret <| e_tuple M.tuple <| e_var (i := 3) rfl ⟨q, (run m c log).map encA, rfl, .inl ?_, ?_⟩
    · rw [updM_same, List.length_map, List.take_length, List.map_map]; rfl
    · exact hP _ (hm.trans (MSub.upd hq2))
def G_answers : Gs := fun rs μ P => ∃ (m : Machine) (log : List (Nat × Int)), rs = [.dat (encM m), .tup (log.map encE)] ∧ MOk m ∧ (∀ e ∈ log, e.1 < m.tags) ∧ log.length ≤ 1000000 ∧ Pu μ P (.tup ((run m (begin m) log).map encA))
theorem sc_answers : FnScope ["machine", "log"] ["machine", "log"] (defScope s_answers) := ⟨rfl, rfl, rfl, by decide +kernel, rfl, by decide +kernel, by decide +kernel⟩
theorem begin_ok {m : Machine} (o : MOk m) : (begin (α := Int) m).1 < m.steps.length ∧ (begin (α := Int) m).2.length = m.regs := ⟨o.steps.1, by unfold begin; simp⟩
theorem ok_answers (F : FD K "answers" "answers" s_answers f fd) (M : Md mg) (ca : Fn P w K mg base 13 "answers_from" G_answers_from) (cb : Fn P w K mg base 1 "beginning" G_beginning) : FnOk P w K mg base C8.CX0 14 f fd ["machine", "log"] (spOf P w K G_answers) := by
  refine ok_of F sc_answers (fun rs μ Po ⟨_, _, e, _⟩ => by rw [e]; rfl) fun cdv A outer s0 H E rs μ Po hr ⟨m, log, e, o, ht, hn, hP⟩ => ?_
  subst e
  refine w_one <| w_ret <| e_call ca hr <| a_cons <| e_var (i := 0) rfl <| a_cons <| e_call cb hr <| a_cons <| e_var (i := 0) rfl <| a_nil ⟨m, rfl, by have := o.regs; omega, fun μ1 m1 => ?_⟩
  exact a_cons <| e_var (i := 1) rfl <| a_nil ⟨m, begin m, log, rfl, o, (begin_ok o).1, (begin_ok o).2, ht, hn, fun μ2 m2 => hP μ2 (m1.trans m2)⟩
/-! ### ranks_of -/
def G_ranks_of : Gs := fun rs μ P => ∃ (hs : Held Int), rs = [.tup (hs.map encO)] ∧ hs.length < 64 ∧ Pu μ P (.dat (.list ((ranks hs).map encN)))
theorem sc_ranks_of : FnScope ["held", "known", "value"] ["held"] (defScope s_ranks_of) := ⟨rfl, rfl, rfl, by decide +kernel, rfl, by decide +kernel, by decide +kernel⟩
theorem fm_id (hs : Held Int) (k : Int) : k ∈ hs.filterMap id ↔ some k ∈ hs := by simp
theorem known_of {hs : Held Int} {ks : List Int} (h1 : ks.Pairwise (· < ·)) (h2 : ∀ k, k ∈ ks ↔ k ∈ hs.filterMap id) : ks = known hs :=
  sorted_unique h1 (known_sorted hs) fun x => by rw [h2, fm_id, mem_known]
theorem ok_ranks_of (F : FD K "ranks_of" "ranks_of" s_ranks_of f fd) (M : Md mg) : FnOk P w K mg base C8.CX0 1 f fd ["held"] (spOf P w K G_ranks_of) := by
  refine ok_of F sc_ranks_of (fun rs μ Po ⟨_, e, _⟩ => by rw [e]; rfl) fun cdv A outer s0 H E rs μ Po hr ⟨hs, e, hl, hP⟩ => ?_
  subst e
  refine w_cons <| w_set (i := 1) sc_ranks_of.nd <| e_sortedSet rfl M.sorted M.set <| e_compS (g := gN 2) (sl := [2]) [("value", 2)] (fun i => (hs[i]?).join.map SV.int) rfl sc_ranks_of.nd (blkOk_by rfl) (by decide) (fun _ _ _ _ _ => (g_name sc_ranks_of.nd)) <| i_tup <| e_var (i := 0) rfl ⟨hs.map encO, rfl, ?_⟩
  refine ⟨by rw [List.length_map]; omega, fun _ _ => trivial, ?_, ?_⟩
  · rintro i x μ' hi ⟨d, hd, rfl⟩ hm
    rw [List.getElem?_map] at hd
    cases hk : hs[i]? with
    | none => rw [hk] at hd; cases hd
    | some o =>
      rw [hk] at hd
      cases hd
      intro s1 H1 C1 cl1 fp1
      refine t_notN <| e_var (i := 2) rfl ?_
      cases o with
      | none => exact ⟨MSub.refl _, rfl, fun h => ff h⟩
      | some z => exact ⟨MSub.refl _, rfl, fun _ s H C cl fp => e_var (i := 2) rfl ⟨MSub.refl _, rfl⟩⟩
  · intro μ1 m1 q hq
    have ef : (List.range (hs.map encO).length).filterMap (fun i => (hs[i]?).join.map SV.int) = (hs.filterMap id).map SV.int := by
      rw [List.length_map, fmR hs (fun o => o.map SV.int) _ fun i x hx => by rw [hx]; rfl, List.map_filterMap]
      rfl
    refine ⟨q, hs.filterMap id, rfl, .inl ?_, ?_, ?_⟩
    · rw [updM_same, ef]
    · have := List.length_filterMap_le id hs; omega
    · intro ks q2 h1 h2 hq2
      have ek := known_of h1 h2
      subst ek
      show WS _ [_, _, _] _ _ _
      refine w_one <| w_ret <| e_tupleN M.tuple <| e_mapS (g := gN 2) (sl := [2]) [("value", 2)] (fun i => SV.dat ((hs[i]?.map fun o => encN (o.map fun x => (known hs).idxOf x)).getD .none)) rfl sc_ranks_of.nd (blkOk_by rfl) (by decide) (fun _ _ _ _ _ => (g_name sc_ranks_of.nd)) <| i_tup <| e_var (i := 0) rfl ⟨hs.map encO, rfl, ?_⟩
      refine ⟨by rw [List.length_map]; omega, fun _ _ => trivial, ?_, ?_⟩
      · rintro i x μ' hi ⟨d, hd, rfl⟩ hm
        rw [List.getElem?_map] at hd
        cases hk : hs[i]? with
        | none => rw [hk] at hd; cases hd
        | some o =>
          rw [hk] at hd
          cases hd
          intro s1 H1 C1 cl1 fp1
          cases o with
          | none => exact e_if <| t_isN <| e_var (i := 2) rfl ⟨fun _ => e_non ⟨MSub.refl _, rfl⟩, fun h => ft h⟩
          | some z =>
            have kl : isL μ' q2 (((known hs).map some).map fun o => SV.dat (encO o)) := by
              rw [List.map_map]
              exact .inl (hm _ _ updM_same)
            refine e_if <| t_isN <| e_var (i := 2) rfl ⟨fun h => ff h, fun _ => e_lindex <| e_var (i := 1) rfl ⟨q2, rfl, ⟨_, kl⟩, e_var (i := 2) rfl ⟨(known hs).map some, some z, (known hs).idxOf z, kl, rfl, ?_, MSub.refl _, rfl⟩⟩⟩
            have hz : z ∈ known hs := (mem_known hs z).mpr (List.mem_of_getElem? hk)
            obtain ⟨f1, f2⟩ := fst_idx hz
            refine ⟨by rw [List.getElem?_map, f1]; rfl, fun m hm' e => ?_⟩
            rw [List.getElem?_map] at e
            cases h3 : (known hs)[m]? with
            | none => rw [h3] at e; cases e
            | some y => rw [h3] at e; cases e; exact f2 m hm' h3
      · intro μ3 m3 q3 hq3
        refine ⟨q3, (ranks hs).map encN, rfl, .inl ?_, ?_⟩
        · rw [updM_same, List.length_map]
          congr 2
          unfold ranks
          rw [List.map_map, List.map_map]
          exact mapF hs _ _ fun i x hx => by rw [hx]; rfl
        · exact hP _ ((((m1.new hq).new hq2).trans m3).new hq3)
/-! ### type_of, content_of, spots_of, with_values -/
def G_type_of : Gs := fun rs μ P => ∃ (c : Con Int), rs = [.dat (encCon c)] ∧ c.2.length < 64 ∧ Pu μ P (.dat (encTyN (ty c)))
theorem sc_type_of : FnScope ["content"] ["content"] (defScope s_type_of) := ⟨rfl, rfl, rfl, by decide +kernel, rfl, by decide +kernel, by decide +kernel⟩
theorem ok_type_of (F : FD K "type_of" "type_of" s_type_of f fd) (M : Md mg) (cr : Fn P w K mg base 1 "ranks_of" G_ranks_of) : FnOk P w K mg base C8.CX0 2 f fd ["content"] (spOf P w K G_type_of) := by
  refine ok_of F sc_type_of (fun rs μ Po ⟨_, e, _⟩ => by rw [e]; rfl) fun cdv A outer s0 H E rs μ Po hr ⟨c, e, hl, hP⟩ => ?_
  subst e
  refine w_one <| w_ret <| e_tup <| a_cons <| e_ixK <| e_var (i := 0) rfl ⟨_, .int c.1, rfl, rfl, a_cons <| e_call cr hr <| a_cons <| e_ixK <| e_var (i := 0) rfl ⟨_, encH c.2, rfl, rfl, a_nil ⟨c.2, rfl, hl, fun μ1 m1 => a_nil ⟨[_, _], rfl, sz, hP μ1 m1⟩⟩⟩⟩
def G_content_of : Gs := fun rs μ P => ∃ (τ : Ty), rs = [.dat (encTy τ)] ∧ τ.2.length ≤ 1000 ∧ Pu μ P (.dat (encCon (conS τ)))
theorem sc_content_of : FnScope ["kind", "rank"] ["kind"] (defScope s_content_of) := ⟨rfl, rfl, rfl, by decide +kernel, rfl, by decide +kernel, by decide +kernel⟩
theorem ok_content_of (F : FD K "content_of" "content_of" s_content_of f fd) (M : Md mg) : FnOk P w K mg base C8.CX0 1 f fd ["kind"] (spOf P w K G_content_of) := by
  refine ok_of F sc_content_of (fun rs μ Po ⟨_, e, _⟩ => by rw [e]; rfl) fun cdv A outer s0 H E rs μ Po hr ⟨τ, e, hl, hP⟩ => ?_
  subst e
  refine w_one <| w_ret <| e_tup <| a_cons <| e_ixK <| e_var (i := 0) rfl ⟨_, .int τ.1, rfl, rfl, a_cons <| e_tuple M.tuple <| e_mapS (g := gN 1) (sl := [1]) [("rank", 1)] (fun i => SV.dat ((τ.2[i]?.map fun o => encO (o.map fun (r : Nat) => 2 * (r : Int) + 1)).getD .none)) rfl sc_content_of.nd (blkOk_by rfl) (by decide) (fun _ _ _ _ _ => (g_name sc_content_of.nd)) <| i_tup <| e_ixK <| e_var (i := 0) rfl ⟨_, .tuple (τ.2.map encN), rfl, rfl, _, rfl, ?_⟩⟩
  refine ⟨by rw [List.length_map]; omega, fun _ _ => trivial, ?_, ?_⟩
  · rintro i x μ' hi ⟨d, hd, rfl⟩ hm
    rw [List.getElem?_map] at hd
    cases hk : τ.2[i]? with
    | none => rw [hk] at hd; cases hd
    | some o =>
      rw [hk] at hd
      cases hd
      intro s1 H1 C1 cl1 fp1
      cases o with
      | none => exact e_if <| t_isN <| e_var (i := 1) rfl ⟨fun _ => e_non ⟨MSub.refl _, rfl⟩, fun h => ft h⟩
      | some z => exact e_if <| t_isN <| e_var (i := 1) rfl ⟨fun h => ff h, fun _ => e_add <| e_mul <| e_int <| e_var (i := 1) rfl ⟨2, (z : Int), rfl, rfl, .inl (by omega), e_int ⟨_, _, rfl, rfl, MSub.refl _, rfl⟩⟩⟩
  · intro μ1 m1 q hq
    refine ⟨q, (shown τ.2).map encO, rfl, .inl ?_, a_nil ⟨[_, _], rfl, sz, hP _ (m1.new hq)⟩⟩
    rw [updM_same, List.length_map]
    congr 2
    unfold shown
    rw [List.map_map, List.map_map]
    exact mapF τ.2 _ _ fun i x hx => by rw [hx]; rfl
def G_spots_of : Gs := fun rs μ P => ∃ (rk : List (Option Nat)), rs = [.tup (rk.map encN)] ∧ rk.length ≤ 1000 ∧ Pu μ P (.int (2 * (many rk : Int) + 1))
theorem sc_spots_of : FnScope ["ranks", "rank"] ["ranks"] (defScope s_spots_of) := ⟨rfl, rfl, rfl, by decide +kernel, rfl, by decide +kernel, by decide +kernel⟩
theorem many_of {rk : List (Option Nat)} {l : List Int} (h1 : l.Nodup) (h2 : ∀ k : Int, k ∈ l ↔ ∃ r : Nat, some r ∈ rk ∧ k = (r : Int)) : l.length = many rk := by
  unfold many
  have e : (known rk).map (fun n : Nat => (n : Int)) |>.Perm l := by
    refine (List.perm_ext_iff_of_nodup ?_ h1).mpr fun k => ?_
    · exact List.pairwise_map.mpr ((known_sorted rk).imp fun h => by omega)
    · rw [h2, List.mem_map]
      constructor
      · rintro ⟨r, hr, e⟩; exact ⟨r, (mem_known rk r).mp hr, e.symm⟩
      · rintro ⟨r, hr, e⟩; exact ⟨r, (mem_known rk r).mpr hr, e.symm⟩
  rw [← e.length_eq, List.length_map]
theorem ok_spots_of (F : FD K "spots_of" "spots_of" s_spots_of f fd) (M : Md mg) : FnOk P w K mg base C8.CX0 1 f fd ["ranks"] (spOf P w K G_spots_of) := by
  refine ok_of F sc_spots_of (fun rs μ Po ⟨_, e, _⟩ => by rw [e]; rfl) fun cdv A outer s0 H E rs μ Po hr ⟨rk, e, hl, hP⟩ => ?_
  subst e
  refine w_one <| w_ret <| e_add <| e_mul <| e_int <| e_lenSc (g := gN 1) (sl := [1]) [("rank", 1)] rfl sc_spots_of.nd (blkOk_by rfl) (by decide) (fun _ _ _ _ _ => (g_name sc_spots_of.nd)) M.len <| i_tup <| e_var (i := 0) rfl ⟨rk.map encN, rfl, ?_⟩
  refine ⟨by rw [List.length_map]; omega, trivial, fun i => (rk[i]?).join.map fun n : Nat => (n : Int), ?_, ?_⟩
  · rintro i x μ' hi ⟨d, hd, rfl⟩ hm
    rw [List.getElem?_map] at hd
    cases hk : rk[i]? with
    | none => rw [hk] at hd; cases hd
    | some o =>
      rw [hk] at hd
      cases hd
      intro s1 H1 C1 cl1 fp1
      refine t_notN <| e_var (i := 1) rfl ?_
      cases o with
      | none => exact ⟨rfl, by show false = ((rk[i]?).join.map fun n : Nat => (n : Int)).isSome; rw [hk]; rfl, fun h => ff h⟩
      | some z => exact ⟨rfl, by show true = ((rk[i]?).join.map fun n : Nat => (n : Int)).isSome; rw [hk]; rfl, fun _ s H C cl fp => e_var (i := 1) rfl ⟨rfl, (z : Int), by show ((rk[i]?).join.map fun n : Nat => (n : Int)) = _; rw [hk]; rfl, rfl⟩⟩
  · intro l h1 h2
    refine ⟨2, l.length, rfl, rfl, .inl (by omega), e_int ⟨_, _, rfl, rfl, ?_⟩⟩
    rw [many_of h1 fun k => by
      rw [h2]
      constructor
      · rintro ⟨i, hi, e⟩
        have e : ((rk[i]?).join.map fun n : Nat => (n : Int)) = some k := e
        cases hk : rk[i]? with
        | none => rw [hk] at e; cases e
        | some o =>
          rw [hk] at e
          cases o with
          | none => cases e
          | some r => exact ⟨r, List.mem_of_getElem? hk, (Option.some.inj e).symm⟩
      · rintro ⟨r, hr, e⟩
        obtain ⟨i, hi⟩ := List.mem_iff_getElem?.mp hr
        exact ⟨i, by rw [List.length_map]; exact (List.getElem?_eq_some_iff.mp hi).1, by show ((rk[i]?).join.map fun n : Nat => (n : Int)) = some k; rw [hi, e]; rfl⟩]
    exact hP _ (MSub.refl _)
def G_with_values : Gs := fun rs μ P => ∃ (τ : Ty) (l : Addr) (vs : List Int), rs = [.dat (encTy τ), .loc l] ∧ isL μ l (vs.map SV.int) ∧ τ.2.length ≤ 1000 ∧ (∀ r : Nat, some r ∈ τ.2 → r < vs.length) ∧ Pu μ P (.dat (encCon (con τ vs)))
theorem sc_with_values : FnScope ["kind", "values", "rank"] ["kind", "values"] (defScope s_with_values) := ⟨rfl, rfl, rfl, by decide +kernel, rfl, by decide +kernel, by decide +kernel⟩
theorem ok_with_values (F : FD K "with_values" "with_values" s_with_values f fd) (M : Md mg) : FnOk P w K mg base C8.CX0 1 f fd ["kind", "values"] (spOf P w K G_with_values) := by
  refine ok_of F sc_with_values (fun rs μ Po ⟨_, _, _, e, _⟩ => by rw [e]; rfl) fun cdv A outer s0 H E rs μ Po hr ⟨τ, l, vs, e, hL, hl, hv, hP⟩ => ?_
  subst e
  refine w_one <| w_ret <| e_tup <| a_cons <| e_ixK <| e_var (i := 0) rfl ⟨_, .int τ.1, rfl, rfl, a_cons <| e_tuple M.tuple <| e_mapS (g := gN 2) (sl := [2]) [("rank", 2)] (fun i => SV.dat ((τ.2[i]?.map fun o => encO (o.bind fun r => vs[r]?)).getD .none)) rfl sc_with_values.nd (blkOk_by rfl) (by decide) (fun _ _ _ _ _ => (g_name sc_with_values.nd)) <| i_tup <| e_ixK <| e_var (i := 0) rfl ⟨_, .tuple (τ.2.map encN), rfl, rfl, _, rfl, ?_⟩⟩
  refine ⟨by rw [List.length_map]; omega, fun _ _ => trivial, ?_, ?_⟩
  · rintro i x μ' hi ⟨d, hd, rfl⟩ hm
    rw [List.getElem?_map] at hd
    cases hk : τ.2[i]? with
    | none => rw [hk] at hd; cases hd
    | some o =>
      rw [hk] at hd
      cases hd
      intro s1 H1 C1 cl1 fp1
      cases o with
      | none => exact e_if <| t_isN <| e_var (i := 2) rfl ⟨fun _ => e_non ⟨MSub.refl _, rfl⟩, fun h => ft h⟩
      | some z =>
        have hz := hv z (List.mem_of_getElem? hk)
        have hg : vs[z]? = some vs[z] := List.getElem?_eq_getElem hz
        refine e_if <| t_isN <| e_var (i := 2) rfl ⟨fun h => ff h, fun _ => e_ixL <| e_var (i := 1) rfl <| e_var (i := 2) rfl ⟨l, vs.map SV.int, (z : Int), SV.int vs[z], rfl, rfl, hL.sub hm, at_map hg, MSub.refl _, ?_⟩⟩
        show SV.int vs[z] = SV.dat (encO (vs[z]?))
        rw [hg]; rfl
  · intro μ1 m1 q hq
    refine ⟨q, (fill τ.2 vs).map encO, rfl, .inl ?_, a_nil ⟨[_, _], rfl, sz, hP _ (m1.new hq)⟩⟩
    rw [updM_same, List.length_map]
    congr 2
    unfold fill
    rw [List.map_map, List.map_map]
    exact mapF τ.2 _ _ fun i x hx => by rw [hx]; rfl
end
end AV
-- text Enc2
set_option Elab.async false
set_option linter.all false
set_option maxRecDepth 100000
set_option maxHeartbeats 4000000
/-! == over encoded things; joints as keys -/
namespace AV
open PySem L2 TH
structure Nice {α : Type} (f : α → PyData) (p : α → Prop) (n : Nat) : Prop where
  eq : ∀ a b, PyData.eqv (f a) (f b) = true ↔ a = b
  lay : ∀ a, p a → PyData.canLay0 (f a) = true
  nol : ∀ a, p a → noL (f a) = true
  dep : ∀ a, p a → PyData.depth (f a) ≤ n
section
variable {α β : Type} {f : α → PyData} {g : β → PyData} {p : α → Prop} {q : β → Prop} {n m : Nat}
theorem Nice.ok (h : Nice f p n) (hn : n ≤ 64) {a : α} (ha : p a) : okD (f a) := ⟨by unfold SeqAt.shaped; rw [h.lay a ha, decide_eq_true (Nat.le_trans (h.dep a ha) hn)]; rfl, h.nol a ha⟩
theorem Nice.eqb (h : Nice f p n) [DecidableEq α] (a b : α) : PyData.eqv (f a) (f b) = decide (a = b) := by
  rw [Bool.eq_iff_iff, h.eq, decide_eq_true_eq]
theorem eqvAll_map (h : ∀ a b, PyData.eqv (f a) (f b) = true ↔ a = b) : ∀ xs ys : List α, PyData.eqvAll (xs.map f) (ys.map f) = true ↔ xs = ys
  | [], [] => by simp [PyData.eqvAll]
  | [], _ :: _ => by simp [PyData.eqvAll]
  | _ :: _, [] => by simp [PyData.eqvAll]
  | x :: xs, y :: ys => by
    rw [List.map_cons, List.map_cons, PyData.eqvAll, Bool.and_eq_true, h, eqvAll_map h xs ys, List.cons.injEq]
theorem Nice.list (h : Nice f p n) : Nice (fun xs : List α => .tuple (xs.map f)) (fun xs => ∀ x ∈ xs, p x) (n + 1) where
  eq := fun a b => by rw [PyData.eqv]; exact eqvAll_map h.eq a b
  lay := fun a ha => by
    rw [PyData.canLay0]
    induction a with
    | nil => rfl
    | cons x xs ih => rw [List.map_cons, PyData.canLayAll0, h.lay x (ha x (by simp)), ih fun y hy => ha y (by simp [hy])]; rfl
  nol := fun a ha => by
    rw [noL]
    induction a with
    | nil => rfl
    | cons x xs ih => rw [List.map_cons, noLs, h.nol x (ha x (by simp)), ih fun y hy => ha y (by simp [hy])]; rfl
  dep := fun a ha => by
    rw [PyData.depth]
    have : PyData.depthAll (a.map f) ≤ n := by
      induction a with
      | nil => rw [List.map_nil, PyData.depthAll]; omega
      | cons x xs ih =>
        rw [List.map_cons, PyData.depthAll]
        have := h.dep x (ha x (by simp))
        have := ih fun y hy => ha y (by simp [hy])
        omega
    omega
theorem Nice.int : Nice PyData.int (fun _ => True) 0 := ⟨fun a b => by simp [PyData.eqv], fun _ _ => rfl, fun _ _ => rfl, fun _ _ => by simp [PyData.depth]⟩
theorem Nice.opt : Nice encO (fun _ => True) 0 := ⟨fun a b => by cases a <;> cases b <;> simp [encO, PyData.eqv], fun a _ => by cases a <;> rfl, fun a _ => by cases a <;> rfl, fun a _ => by cases a <;> simp [encO, PyData.depth]⟩
theorem Nice.two (h : Nice f p n) (k : Nice g q m) : Nice (fun x : α × β => .tuple [f x.1, g x.2]) (fun x => p x.1 ∧ q x.2) (max n m + 1) where
  eq := fun a b => by
    rw [PyData.eqv, PyData.eqvAll, PyData.eqvAll, PyData.eqvAll, Bool.and_true, Bool.and_eq_true, h.eq, k.eq, Prod.ext_iff]
  lay := fun a ha => by rw [PyData.canLay0, PyData.canLayAll0, PyData.canLayAll0, PyData.canLayAll0, h.lay _ ha.1, k.lay _ ha.2]; rfl
  nol := fun a ha => by rw [noL, noLs, noLs, noLs, h.nol _ ha.1, k.nol _ ha.2]; rfl
  dep := fun a ha => by
    rw [PyData.depth, PyData.depthAll, PyData.depthAll, PyData.depthAll]
    have := h.dep _ ha.1
    have := k.dep _ ha.2
    omega
end
theorem niceA : Nice encA (fun _ => True) 2 := by
  have := (Nice.int.two Nice.opt).list
  exact ⟨this.eq, fun a _ => this.lay a fun _ _ => ⟨trivial, trivial⟩, fun a _ => this.nol a fun _ _ => ⟨trivial, trivial⟩, fun a _ => this.dep a fun _ _ => ⟨trivial, trivial⟩⟩
theorem niceAs : Nice (fun as : List (Ans Int) => .tuple (as.map encA)) (fun _ => True) 3 := by
  have := niceA.list
  exact ⟨this.eq, fun a _ => this.lay a fun _ _ => trivial, fun a _ => this.nol a fun _ _ => trivial, fun a _ => this.dep a fun _ _ => trivial⟩
/-! ### joints as keys -/
def kN : Option Nat → NestedKey
  | none => .none
  | some r => .num r
def kJ (J : Joint) : List NestedKey := [.num J.1, .num J.2.1, .tup (J.2.2.map kN)]
def encJ (J : Joint) : PyData := .tuple [.int J.1, .int J.2.1, .tuple (J.2.2.map encN)]
theorem datas_kN : ∀ rk : List (Option Nat), NestedKey.datas (rk.map kN) = rk.map encN
  | [] => by rw [List.map_nil, NestedKey.datas]; rfl
  | o :: rk => by
    rw [List.map_cons, NestedKey.datas, datas_kN rk, List.map_cons]
    cases o with
    | none => rw [kN, NestedKey.data]; rfl
    | some r => rw [kN, NestedKey.data]; rfl
theorem data_kJ (J : Joint) : NestedKey.data (.tup (kJ J)) = encJ J := by
  rw [NestedKey.data, kJ, NestedKey.datas, NestedKey.datas, NestedKey.datas, NestedKey.datas, NestedKey.data, NestedKey.data, NestedKey.data, datas_kN]; rfl
theorem depth_kNs : ∀ rk : List (Option Nat), NestedKey.depthAll (rk.map kN) = 0
  | [] => by rw [List.map_nil, NestedKey.depthAll]
  | o :: rk => by
    rw [List.map_cons, NestedKey.depthAll, depth_kNs rk]
    cases o <;> simp [kN, NestedKey.depth]
theorem depth_kJ (J : Joint) : (NestedKey.tup (kJ J)).depth ≤ 8 := by
  rw [NestedKey.depth, kJ, NestedKey.depthAll, NestedKey.depthAll, NestedKey.depthAll, NestedKey.depthAll, NestedKey.depth, NestedKey.depth, NestedKey.depth, depth_kNs]; decide
theorem kN_inj : ∀ {a b : List (Option Nat)}, a.map kN = b.map kN → a = b
  | [], [], _ => rfl
  | [], _ :: _, h => by simp at h
  | _ :: _, [], h => by simp at h
  | x :: xs, y :: ys, h => by
    rw [List.map_cons, List.map_cons, List.cons.injEq] at h
    rw [kN_inj h.2]
    congr 1
    have := h.1
    cases x <;> cases y <;> simp [kN] at this ⊢ <;> omega
theorem kJ_inj {J L : Joint} (h : NestedKey.tup (kJ J) = .tup (kJ L)) : J = L := by
  unfold kJ at h
  simp only [NestedKey.tup.injEq, List.cons.injEq, NestedKey.num.injEq, and_true] at h
  obtain ⟨h1, h2, h3⟩ := h
  exact Prod.ext (by omega) (Prod.ext (by omega) (kN_inj h3))
/-- types as keys -/
def kT (τ : Ty) : List NestedKey := [.num τ.1, .tup (τ.2.map kN)]
theorem data_kT (τ : Ty) : NestedKey.data (.tup (kT τ)) = encTy τ := by
  rw [NestedKey.data, kT, NestedKey.datas, NestedKey.datas, NestedKey.datas, NestedKey.data, NestedKey.data, datas_kN]; rfl
theorem depth_kT (τ : Ty) : (NestedKey.tup (kT τ)).depth ≤ 8 := by
  rw [NestedKey.depth, kT, NestedKey.depthAll, NestedKey.depthAll, NestedKey.depthAll, NestedKey.depth, NestedKey.depth, depth_kNs]; decide
theorem kT_inj {J L : Ty} (h : NestedKey.tup (kT J) = .tup (kT L)) : J = L := by
  unfold kT at h
  simp only [NestedKey.tup.injEq, List.cons.injEq, NestedKey.num.injEq, and_true] at h
  exact Prod.ext (by omega) (kN_inj h.2)
theorem dn_encN (o : Option Nat) : Dn (encN o) (encN o) := dn_encO _
theorem dn_encNs : ∀ os : List (Option Nat), Dns (os.map encN) (os.map encN)
  | [] => by simp [Dns]
  | o :: os => by simp only [List.map_cons, Dns]; exact ⟨dn_encN o, dn_encNs os⟩
theorem dn_ty (τ : Ty) : Dn (encTyN τ) (encTy τ) := by
  unfold encTyN encTy
  simp only [Dn, Dns]
  exact ⟨trivial, dn_encNs _, trivial⟩
theorem cut_take {α : Type} (xs : List α) (k : Nat) : cutD xs none (some (k : Int)) = xs.take k := by
  unfold cutD
  rw [HT.sIx_none, HT.sIx_nat, List.drop_zero, Nat.sub_zero]
  by_cases h : k ≤ xs.length
  · rw [Nat.min_eq_left h]
  · rw [Nat.min_eq_right (by omega), List.take_of_length_le (Nat.le_refl _), List.take_of_length_le (by omega)]
theorem cut_drop {α : Type} (xs : List α) (k : Nat) : cutD xs (some (k : Int)) none = xs.drop k := by
  unfold cutD
  rw [HT.sIx_none, HT.sIx_nat]
  by_cases h : k ≤ xs.length
  · rw [Nat.min_eq_left h, List.take_of_length_le (by rw [List.length_drop]; omega)]
  · rw [Nat.min_eq_right (by omega), List.drop_of_length_le (Nat.le_refl _), List.drop_of_length_le (by omega)]; simp
end AV
-- text W05
set_option Elab.async false
set_option linter.all false
set_option maxRecDepth 100000
set_option maxHeartbeats 4000000
namespace AV
open PySem L2 TH
/-- the class Pair -/
structure PairC (K : PySem.W.Frag) (C : Addr) : Prop where
  cls : Cls K C
  one : NoAttr K C "one"
  other : NoAttr K C "other"
  closed : NoAttr K C "closed"
abbrev pairFs (m n : Machine) (d : Addr) : List (Str × SV) := [("one", .dat (encM m)), ("other", .dat (encM n)), ("closed", .loc d)]
section
variable {P : Program} {w : World} {K : PySem.W.Frag} {mg : Str → Option Value} {base : Heap} {f : Addr} {fd : FuncData} {C : Addr}
def G_Pair_init (C : Addr) : Gs := fun rs μ P => ∃ (q : Addr) (m n : Machine), rs = [.loc q, .dat (encM m), .dat (encM n)] ∧ μ q = some (.obj C []) ∧ ∀ d, d ≠ q → μ d = none → P (updM (updM μ d (.dct [])) q (.obj C (pairFs m n d))) (.dat .none)
theorem sc_Pair_init : FnScope ["self", "one", "other"] ["self", "one", "other"] (defScope s_Pair_init) := ⟨rfl, rfl, rfl, by decide +kernel, rfl, by decide +kernel, by decide +kernel⟩
theorem ok_Pair_init (F : FD K "__init__" "Pair.__init__" s_Pair_init f fd) (PC : PairC K C) : FnOk P w K mg base C8.CX0 1 f fd ["self", "one", "other"] (spOf P w K (G_Pair_init C)) := by
  refine ok_of F sc_Pair_init (fun rs μ Po ⟨_, _, _, e, _⟩ => by rw [e]; rfl) fun cdv A outer s0 H E rs μ Po hr ⟨q, m, n, e, hq, hP⟩ => ?_
  subst e
  refine w_cons <| w_fld PC.cls PC.one <| e_var (i := 1) rfl <| e_var (i := 0) rfl ⟨q, [], rfl, hq, by decide, ?_⟩
  refine w_cons <| w_fld PC.cls PC.other <| e_var (i := 2) rfl <| e_var (i := 0) rfl ⟨q, _, rfl, updM_same, by simp [putS], ?_⟩
  rw [updM_updM]
  refine w_one <| w_fld PC.cls PC.closed <| e_newN fun d hd => e_var (i := 0) rfl ⟨q, [("one", .dat (encM m)), ("other", .dat (encM n))], rfl, ?_, ?_, ?_⟩
  · have hdq : d ≠ q := fun e => by rw [e, updM_same] at hd; cases hd
    rw [updM_ne (Ne.symm hdq), updM_same]; rfl
  · simp [putS]
  · have hdq : d ≠ q := fun e => by rw [e, updM_same] at hd; cases hd
    rw [updM_ne hdq] at hd
    have := hP d hdq hd
    rw [updM_comm (Ne.symm hdq), updM_updM]
    exact this
/-! ### joint_type, contents, after -/
def G_joint_type : Gs := fun rs μ P => ∃ (q : Addr) (c d : Con Int), rs = [.loc q, .dat (encCon c), .dat (encCon d)] ∧ c.2.length + d.2.length < 64 ∧ Pu μ P (.dat (encJ (joint c d)))
theorem sc_joint_type : FnScope ["self", "content", "another"] ["self", "content", "another"] (defScope s_Pair_joint_type) := ⟨rfl, rfl, rfl, by decide +kernel, rfl, by decide +kernel, by decide +kernel⟩
theorem ok_joint_type (F : FD K "joint_type" "Pair.joint_type" s_Pair_joint_type f fd) (M : Md mg) (cr : Fn P w K mg base 1 "ranks_of" G_ranks_of) : FnOk P w K mg base C8.CX0 2 f fd ["self", "content", "another"] (spOf P w K G_joint_type) := by
  refine ok_of F sc_joint_type (fun rs μ Po ⟨_, _, _, e, _⟩ => by rw [e]; rfl) fun cdv A outer s0 H E rs μ Po hr ⟨q, c, d, e, hl, hP⟩ => ?_
  subst e
  refine w_one <| w_ret <| e_tup <| a_cons <| e_ixK <| e_var (i := 1) rfl ⟨_, .int c.1, rfl, rfl, a_cons <| e_ixK <| e_var (i := 2) rfl ⟨_, .int d.1, rfl, rfl, a_cons <| WE.down <| e_call cr hr <| a_cons <| e_catT <| e_ixK <| e_var (i := 1) rfl ⟨_, encH c.2, rfl, rfl, e_ixK <| e_var (i := 2) rfl ⟨_, encH d.2, rfl, rfl, c.2.map encO, d.2.map encO, rfl, rfl, ?_, ?_⟩⟩⟩⟩
  · rw [List.length_map, List.length_map, sizeLine_eq]; omega
  · rw [← List.map_append]
    exact a_nil ⟨c.2 ++ d.2, rfl, by rw [List.length_append]; exact hl, fun μ1 m1 => ⟨_, .tuple ((ranks (c.2 ++ d.2)).map encN), rfl, by simp only [Dn]; exact dn_encNs _, a_nil ⟨[_, _, _], rfl, sz, hP μ1 m1⟩⟩⟩
def G_contents (C : Addr) : Gs := fun rs μ P => ∃ (q : Addr) (J : Joint) (m n : Machine) (d : Addr), rs = [.loc q, .dat (encJ J)] ∧ μ q = some (.obj C (pairFs m n d)) ∧ J.2.2.length ≤ 1000 ∧ Pu μ P (.tup [encCon (jc1 m J), encCon (jc2 m J)])
theorem sc_contents : FnScope ["self", "joint", "held", "rank"] ["self", "joint"] (defScope s_Pair_contents) := ⟨rfl, rfl, rfl, by decide +kernel, rfl, by decide +kernel, by decide +kernel⟩
theorem ok_contents (F : FD K "contents" "Pair.contents" s_Pair_contents f fd) (M : Md mg) (PC : PairC K C) : FnOk P w K mg base C8.CX0 1 f fd ["self", "joint"] (spOf P w K (G_contents C)) := by
  refine ok_of F sc_contents (fun rs μ Po ⟨_, _, _, _, _, e, _⟩ => by rw [e]; rfl) fun cdv A outer s0 H E rs μ Po hr ⟨q, J, m, n, d, e, hq, hl, hP⟩ => ?_
  subst e
  refine w_cons <| w_set (i := 2) sc_contents.nd <| e_tuple M.tuple <| e_mapS (g := gN 3) (sl := [3]) [("rank", 3)] (fun i => SV.dat ((J.2.2[i]?.map fun o => encO (o.map fun (r : Nat) => 2 * (r : Int) + 1)).getD .none)) rfl sc_contents.nd (blkOk_by rfl) (by decide) (fun _ _ _ _ _ => (g_name sc_contents.nd)) <| i_tup <| e_ixK <| e_var (i := 1) rfl ⟨_, .tuple (J.2.2.map encN), rfl, rfl, _, rfl, ?_⟩
  refine ⟨by rw [List.length_map]; omega, fun _ _ => trivial, ?_, ?_⟩
  · rintro i x μ' hi ⟨d, hd, rfl⟩ hm
    rw [List.getElem?_map] at hd
    cases hk : J.2.2[i]? with
    | none => rw [hk] at hd; cases hd
    | some o =>
      rw [hk] at hd
      cases hd
      intro s1 H1 C1 cl1 fp1
      cases o with
      | none => exact e_if <| t_isN <| e_var (i := 3) rfl ⟨fun _ => e_non ⟨MSub.refl _, rfl⟩, fun h => ft h⟩
      | some z => exact e_if <| t_isN <| e_var (i := 3) rfl ⟨fun h => ff h, fun _ => e_add <| e_mul <| e_int <| e_var (i := 3) rfl ⟨2, (z : Int), rfl, rfl, .inl (by omega), e_int ⟨_, _, rfl, rfl, MSub.refl _, rfl⟩⟩⟩
  · intro μ1 m1 p hp
    refine ⟨p, (shown J.2.2).map encO, rfl, .inl ?_, ?_⟩
    · rw [updM_same, List.length_map]
      congr 2
      unfold shown
      rw [List.map_map, List.map_map]
      exact mapF J.2.2 _ _ fun i x hx => by rw [hx]; rfl
    show WS _ [_, _, _, _] _ _ _
    have m2 := m1.new (c := .lst ((List.range (J.2.2.map encN).length).map fun i => SV.dat ((J.2.2[i]?.map fun o => encO (o.map fun (r : Nat) => 2 * (r : Int) + 1)).getD .none))) hp
    have hq2 := m2 _ _ hq
    refine w_one <| w_ret <| e_tup <| a_cons <| e_tup <| a_cons <| e_ixK <| e_var (i := 1) rfl ⟨_, .int J.1, rfl, rfl, a_cons <| e_slT <| e_var (i := 2) rfl <| (show WE _ _ _ _ _ from e_ixK <| e_fld PC.cls PC.one <| e_var (i := 0) rfl ⟨q, _, .dat (encM m), rfl, hq2, rfl, _, .int m.regs, rfl, rfl, _, rfl, (shown J.2.2).map encO, rfl, a_nil ⟨[_, _], rfl, sz, ?_⟩⟩)⟩
    refine a_cons <| e_tup <| a_cons <| e_ixK <| e_var (i := 1) rfl ⟨_, .int J.2.1, rfl, rfl, a_cons <| e_slT <| e_var (i := 2) rfl <| (show WE _ _ _ _ _ from e_ixK <| e_fld PC.cls PC.one <| e_var (i := 0) rfl ⟨q, _, .dat (encM m), rfl, hq2, rfl, _, .int m.regs, rfl, rfl, _, rfl, (shown J.2.2).map encO, rfl, a_nil ⟨[_, _], rfl, sz, a_nil ⟨[_, _], rfl, sz, ?_⟩⟩⟩)⟩
    rw [cut_take, cut_drop, ← List.map_take, ← List.map_drop]
    exact hP _ m2
def G_after (C : Addr) : Gs := fun rs μ P => ∃ (q : Addr) (J : Joint) (t s : Nat) (m n : Machine) (d : Addr), rs = [.loc q, .dat (encJ J), .int t, .int s] ∧ μ q = some (.obj C (pairFs m n d)) ∧ MOk m ∧ MOk n ∧ JOk m n J ∧ t < m.tags ∧ t < n.tags ∧
  Pu μ P (.dat (if (jr1 m J t s).2 = (jr2 m n J t s).2 then encJ (after m n J t s) else .none))
theorem sc_after : FnScope ["self", "joint", "tag", "spot", "content", "another", "said", "other_said"] ["self", "joint", "tag", "spot"] (defScope s_Pair_after) := ⟨rfl, rfl, rfl, by decide +kernel, rfl, by decide +kernel, by decide +kernel⟩
theorem jc_len {m n : Machine} {J : Joint} (o : JOk m n J) : (jc1 m J).2.length = m.regs ∧ (jc2 m J).2.length = n.regs := by
  have h := o.len
  unfold jc1 jc2 shown
  constructor
  · rw [List.length_take, List.length_map]; omega
  · rw [List.length_drop, List.length_map]; omega
theorem ok_after (F : FD K "after" "Pair.after" s_Pair_after f fd) (M : Md mg) (PC : PairC K C) (cr : Fn P w K mg base 12 "read" G_read) (cj : Me P w K mg base 2 C "joint_type" G_joint_type) (cc : Me P w K mg base 1 C "contents" (G_contents C)) : FnOk P w K mg base C8.CX0 13 f fd ["self", "joint", "tag", "spot"] (spOf P w K (G_after C)) := by
  refine ok_of F sc_after (fun rs μ Po ⟨_, _, _, _, _, _, _, e, _⟩ => by rw [e]; rfl) fun cdv A outer s0 H E rs μ Po hr ⟨q, J, t, s, m, n, d, e, hq, om, on, oj, ht, ht2, hP⟩ => ?_
  subst e
  have hm := om.regs
  have hn := on.regs
  obtain ⟨l1, l2⟩ := jc_len oj
  refine w_cons <| w_unp (g := gP [gN 4, gN 5]) (sl := [4, 5]) (g_tup rfl (g_cons (g_name sc_after.nd) (g_cons (g_name sc_after.nd) g_nil))) <| e_meth cc hr <| e_var (i := 0) rfl ⟨q, _, rfl, hq, rfl, a_cons <| e_var (i := 1) rfl <| a_nil ⟨q, J, m, n, d, rfl, hq, by have := oj.len; omega, fun μ1 m1 => ⟨_, rfl, rfl, ?_⟩⟩⟩
  show WS _ [_, _, _, _, _, _, _, _] _ _ _
  refine w_cons <| w_unp (g := gP [gN 4, gN 6]) (sl := [4, 6]) (g_tup rfl (g_cons (g_name sc_after.nd) (g_cons (g_name sc_after.nd) g_nil))) <| e_call cr hr <| a_cons <| e_fld PC.cls PC.one <| e_var (i := 0) rfl ⟨q, _, .dat (encM m), rfl, m1 _ _ hq, rfl, a_cons <| e_var (i := 4) rfl <| a_cons <| e_tup <| a_cons <| e_var (i := 2) rfl <| a_cons <| e_var (i := 3) rfl <| a_nil ⟨[_, _], rfl, sz, a_nil ⟨m, jc1 m J, t, s, rfl, om, oj.s1, l1, ht, fun μ2 m2 => ⟨_, rfl, rfl, ?_⟩⟩⟩⟩
  show WS _ [_, _, _, _, _, _, _, _] _ _ _
  refine w_cons <| w_unp (g := gP [gN 5, gN 7]) (sl := [5, 7]) (g_tup rfl (g_cons (g_name sc_after.nd) (g_cons (g_name sc_after.nd) g_nil))) <| e_call cr hr <| a_cons <| e_fld PC.cls PC.other <| e_var (i := 0) rfl ⟨q, _, .dat (encM n), rfl, m2 _ _ (m1 _ _ hq), rfl, a_cons <| e_var (i := 5) rfl <| a_cons <| e_tup <| a_cons <| e_var (i := 2) rfl <| a_cons <| e_var (i := 3) rfl <| a_nil ⟨[_, _], rfl, sz, a_nil ⟨n, jc2 m J, t, s, rfl, on, oj.s2, l2, ht2, fun μ3 m3 => ⟨_, rfl, rfl, ?_⟩⟩⟩⟩
  show WS _ [_, _, _, _, _, _, _, _] _ _ _
  have m03 := (m1.trans m2).trans m3
  have hq3 := m03 _ _ hq
  refine w_cons <| w_if <| t_neD hr.units <| e_var (i := 6) rfl <| e_var (i := 7) rfl ⟨_, _, rfl, rfl, niceA.ok (by decide) trivial, niceA.ok (by decide) trivial, ?_⟩
  rw [niceA.eqb]
  have hP3 := hP μ3 m03
  refine ⟨fun h => ?_, fun h => w_nil ?_⟩
  · have hne : ¬ (jr1 m J t s).2 = (jr2 m n J t s).2 := by
      have h : (!decide ((jr1 m J t s).2 = (jr2 m n J t s).2)) = true := h
      simpa using h
    rw [if_neg hne] at hP3
    exact w_one <| w_ret <| e_non hP3
  · have he : (jr1 m J t s).2 = (jr2 m n J t s).2 := by
      have h : (!decide ((jr1 m J t s).2 = (jr2 m n J t s).2)) = false := h
      simpa using h
    have r1 := read_st om oj.s1 l1 ht (s : Int)
    have r2 := read_st on oj.s2 l2 ht2 (s : Int)
    refine w_one <| w_ret <| e_meth cj hr <| e_var (i := 0) rfl ⟨q, _, rfl, hq3, rfl, a_cons <| e_var (i := 4) rfl <| a_cons <| e_var (i := 5) rfl <| a_nil ⟨q, _, _, rfl, by rw [r1.2.1, r2.2.1]; omega, fun μ4 m4 => ?_⟩⟩
    have hP4 := hP μ4 (m03.trans m4)
    rw [if_pos he] at hP4
    exact hP4
end
end AV
-- text W06
set_option Elab.async false
set_option linter.all false
set_option maxRecDepth 100000
set_option maxHeartbeats 4000000
namespace AV
open PySem L2 TH
def tt1 : SV := .dat (.bool true)
def jD (Js : List Joint) : List (NestedKey × SV) := Js.map fun J => (.tup (kJ J), tt1)
theorem getN_jD (J : Joint) : ∀ Js : List Joint, (getN (jD Js) (.tup (kJ J))).isSome = decide (J ∈ Js)
  | [] => rfl
  | L :: Js => by
    show (getN ((.tup (kJ L), tt1) :: jD Js) _).isSome = _
    rw [getN_cons]
    by_cases h : L = J
    · subst h
      rw [if_pos rfl]; simp
    · rw [if_neg fun e => h (kJ_inj e), getN_jD J Js]
      simp [Ne.symm h]
theorem putN_jD {J : Joint} {Js : List Joint} : ∃ Js', putN (jD Js) (.tup (kJ J)) tt1 = jD Js' ∧ (J ∉ Js ∧ Js' = Js ++ [J] ∨ J ∈ Js ∧ Js' = Js) := by
  unfold putN
  rw [getN_jD]
  by_cases h : J ∈ Js
  · rw [decide_eq_true h, if_pos rfl]
    refine ⟨Js, ?_, .inr ⟨h, rfl⟩⟩
    unfold jD
    rw [List.map_map]
    refine List.map_congr_left fun L _ => ?_
    show (if NestedKey.tup (kJ L) = _ then _ else _) = _
    split <;> rfl
  · rw [decide_eq_false h, if_neg (by simp)]
    exact ⟨Js ++ [J], by unfold jD; rw [List.map_append]; rfl, .inl ⟨h, rfl⟩⟩
/-- joints known not to part -/
def ClosedOk (m n : Machine) (kvs : List (NestedKey × SV)) : Prop := ∃ Js : List Joint, kvs = jD Js ∧ Js.Nodup ∧ ∀ J ∈ Js, JOk m n J ∧ ¬ PJ m n J
def MBut (d : Addr) (μ μ' : Mu) : Prop := ∀ a c, a ≠ d → μ a = some c → μ' a = some c
theorem MSub.but {d : Addr} {μ μ' : Mu} (h : MSub μ μ') : MBut d μ μ' := fun a c _ e => h a c e
theorem MBut.trans {d : Addr} {μ μ1 μ2 : Mu} (h : MBut d μ μ1) (k : MBut d μ1 μ2) : MBut d μ μ2 := fun a c n e => k a c n (h a c n e)
theorem MBut.upd {d : Addr} {μ μ1 : Mu} {c : Cell} (h : MBut d μ μ1) : MBut d μ (updM μ1 d c) := fun a c' n e => by rw [updM_ne n]; exact h a c' n e
theorem MSub.fresh {μ μ' : Mu} {a : Addr} {c : Cell} (h : MSub μ μ') (e : μ a = none) : MSub μ (updM μ' a c) := fun b d q => by rw [updM_ne (neM q e)]; exact h b d q
open Classical in
noncomputable def pjB (m n : Machine) (J : Joint) : Bool := decide (PJ m n J)
theorem pjB_t {m n : Machine} {J : Joint} (h : PJ m n J) : pjB m n J = true := by classical exact decide_eq_true h
theorem pjB_f {m n : Machine} {J : Joint} (h : ¬ PJ m n J) : pjB m n J = false := by classical exact decide_eq_false h
/-- a search -/
structure Srch (m n : Machine) (J0 : Joint) (W : List Joint) : Prop where
  nd : W.Nodup
  ok : ∀ J ∈ W, JOk m n J
  fst : W[0]? = some J0
  back : ∀ J ∈ W, PJ m n J → PJ m n J0
def Good (m n : Machine) (W : List Joint) (J : Joint) (t s : Nat) : Prop := (jr1 m J t s).2 = (jr2 m n J t s).2 ∧ after m n J t s ∈ W
theorem after_ok {m n : Machine} (om : MOk m) (on : MOk n) {J : Joint} (oj : JOk m n J) {t s : Nat} (h1 : t < m.tags) (h2 : t < n.tags) : JOk m n (after m n J t s) := by
  obtain ⟨l1, l2⟩ := jc_len oj
  have r1 := read_st om oj.s1 l1 h1 (s : Int)
  have r2 := read_st on oj.s2 l2 h2 (s : Int)
  exact joint_ok r1.1 r2.1 r1.2.1 r2.2.1
theorem Srch.add {m n : Machine} {J0 J : Joint} {W : List Joint} (h : Srch m n J0 W) (hJ : J ∈ W) {t s : Nat} (om : MOk m) (on : MOk n) (h1 : t < m.tags) (h2 : t < n.tags) (hs : s < 2 * many J.2.2 + 1) (hn : after m n J t s ∉ W) : Srch m n J0 (W ++ [after m n J t s]) where
  nd := by
    rw [List.nodup_append]
    refine ⟨h.nd, by simp, fun a ha b hb e => ?_⟩
    rw [List.mem_singleton] at hb
    subst hb
    subst e
    exact hn ha
  ok := fun L hL => by
    rcases List.mem_append.mp hL with e | e
    · exact h.ok L e
    · rw [List.mem_singleton.mp e]
      exact after_ok om on (h.ok J hJ) h1 h2
  fst := by
    have := h.fst
    rw [List.getElem?_append_left (List.getElem?_eq_some_iff.mp this).1]; exact this
  back := fun L hL p => by
    rcases List.mem_append.mp hL with e | e
    · exact h.back L e p
    · rw [List.mem_singleton.mp e] at p
      exact h.back J hJ (.later t s h1 hs p)
section
variable {P : Program} {w : World} {K : PySem.W.Frag} {mg : Str → Option Value} {base : Heap} {f : Addr} {fd : FuncData} {C : Addr}
structure PairSt (C : Addr) (μ : Mu) (q d : Addr) (m n : Machine) : Prop where
  obj : μ q = some (.obj C (pairFs m n d))
  dct : ∃ kvs, μ d = some (.dct kvs) ∧ ClosedOk m n kvs
theorem PairSt.sub {μ μ' : Mu} {q d : Addr} {m n : Machine} (h : PairSt C μ q d m n) (s : MSub μ μ') : PairSt C μ' q d m n := ⟨s _ _ h.obj, let ⟨kvs, e, o⟩ := h.dct; ⟨kvs, s _ _ e, o⟩⟩
theorem PairSt.ne {μ : Mu} {q d : Addr} {m n : Machine} (h : PairSt C μ q d m n) : q ≠ d := by
  intro e
  subst e
  obtain ⟨kvs, e, _⟩ := h.dct
  rw [h.obj] at e
  cases e
structure PairOk (m n : Machine) : Prop where
  o1 : MOk m
  o2 : MOk n
  tags : m.tags = n.tags
  few : jB m n ≤ 900000
def G_is_parted (C : Addr) : Gs := fun rs μ P => ∃ (q d : Addr) (c c' : Con Int) (m n : Machine), rs = [.loc q, .dat (encCon c), .dat (encCon c')] ∧ PairSt C μ q d m n ∧ PairOk m n ∧ c.1 < m.steps.length ∧ c.2.length = m.regs ∧ c'.1 < n.steps.length ∧ c'.2.length = n.regs ∧
  ∀ μ', MBut d μ μ' → PairSt C μ' q d m n → P μ' (.dat (.bool (pjB m n (joint c c'))))
theorem sc_is_parted : FnScope ["self", "content", "another", "waiting", "seen", "at", "joint", "tag", "spot", "behind"] ["self", "content", "another"] (defScope s_Pair_is_parted) := ⟨rfl, rfl, rfl, by decide +kernel, rfl, by decide +kernel, by decide +kernel⟩
def jL (W : List Joint) : List SV := W.map fun J => .dat (encJ J)
structure PSto (μ μ' : Mu) (w s : Addr) (W : List Joint) : Prop where
  sub : MSub μ μ'
  w : μ' w = some (.lst (jL W))
  s : μ' s = some (.dct (jD W))
theorem ok_is_parted (F : FD K "is_parted" "Pair.is_parted" s_Pair_is_parted f fd) (M : Md mg) (PC : PairC K C) (cs : Fn P w K mg base 1 "spots_of" G_spots_of) (cj : Me P w K mg base 2 C "joint_type" G_joint_type) (ca : Me P w K mg base 13 C "after" (G_after C)) : FnOk P w K mg base C8.CX0 14 f fd ["self", "content", "another"] (spOf P w K (G_is_parted C)) := by
  refine ok_of F sc_is_parted (fun rs μ Po ⟨_, _, _, _, _, _, e, _⟩ => by rw [e]; rfl) fun cdv A outer s0 H E rs μ Po hr ⟨q, d, c, c', m, n, e, ps, po, h1, l1, h2, l2, hP⟩ => ?_
  subst e
  have om := po.o1
  have on := po.o2
  have hm := om.regs
  have hn := on.regs
  have oj0 : JOk m n (joint c c') := joint_ok h1 h2 l1 l2
  generalize hJ0 : joint c c' = J0 at hP oj0
  obtain ⟨kvs, hd, Js, ekv, ndj, okj⟩ := ps.dct
  subst ekv
  refine w_cons <| w_set (i := 3) sc_is_parted.nd <| e_lst <| a_cons <| e_meth cj hr <| e_var (i := 0) rfl ⟨q, _, rfl, ps.obj, rfl, a_cons <| e_var (i := 1) rfl <| a_cons <| e_var (i := 2) rfl <| a_nil ⟨q, c, c', rfl, by omega, fun μ1 m1 => a_nil ⟨sz, fun w hw => ?_⟩⟩⟩
  rw [hJ0]
  have wn : μ w = none := by
    cases z : μ w with
    | none => rfl
    | some x => rw [m1 _ _ z] at hw; cases hw
  refine w_cons <| w_set (i := 4) sc_is_parted.nd <| e_oneN hr.units fun s hs => e_ixL <| e_var (i := 3) rfl <| e_int ⟨w, [.dat (encJ J0)], 0, .dat (encJ J0), rfl, rfl, .inl ?_, rfl, e_bl ⟨kJ J0, by rw [data_kJ], depth_kJ J0, updM_same, ?_⟩⟩
  · rw [updM_ne (by intro e; rw [e, updM_same] at hs; cases hs), updM_same]
  have hws : w ≠ s := by intro e; rw [e, updM_same] at hs; cases hs
  have hs1 : μ1 s = none := by rw [updM_ne (Ne.symm hws)] at hs; exact hs
  have sn : μ s = none := by
    cases z : μ s with
    | none => rfl
    | some x => rw [m1 _ _ z] at hs1; cases hs1
  have wd : w ≠ d := by intro e; subst e; rw [hd] at wn; cases wn
  have sd : s ≠ d := by intro e; subst e; rw [hd] at sn; cases sn
  refine w_cons <| w_set (i := 5) sc_is_parted.nd <| e_int ?_
  show WS _ [_, _, _, _, _, _, _, _, _, _] _ _ _
  refine w_cons <| w_while PassesOwn.never (fun k ρ μ' => ∃ (W : List Joint) (at_ : Nat) (a b c1 e1 : Option SV), k = jB m n + 1 - at_ ∧ at_ ≤ W.length ∧ Srch m n J0 W ∧ PSto μ μ' w s W ∧ (∀ i J, i < at_ → W[i]? = some J → J ∈ Js ∨ ∀ t s', t < m.tags → s' < 2 * many J.2.2 + 1 → Good m n W J t s') ∧
      ρ = [some (.loc q), some (.dat (encCon c)), some (.dat (encCon c')), some (.loc w), some (.loc s), some (.int at_), a, b, c1, e1]) (jB m n + 1) ⟨[J0], 0, _, _, _, _, rfl, by simp, ⟨by simp, fun J hJ => by rw [List.mem_singleton.mp hJ]; exact oj0, rfl, fun J hJ p => by rw [List.mem_singleton.mp hJ] at p; exact p⟩, ⟨?_, ?_, ?_⟩, fun i J hi => by omega, rfl⟩ fun k ρ1 μ2 hj => ?_
  · rw [updM_updM]
    exact (m1.fresh wn).fresh sn
  · rw [updM_updM, updM_ne hws, updM_same]; rfl
  · rw [updM_updM, updM_same]; rfl
  obtain ⟨W, at_, a, b, c1, e1, rfl, hat, sr, st, vis, rfl⟩ := hj
  have hB : W.length ≤ jB m n := jCount sr.nd sr.ok
  refine t_lt <| e_var (i := 5) rfl <| e_len M.len <| e_var (i := 3) rfl <| .inr ⟨w, _, rfl, .inl st.w, at_, W.length, rfl, by unfold jL; rw [List.length_map], fun hlt => ?_, fun hge => ?_⟩
  · -- the turn
    have hlt : at_ < W.length := by have := of_decide_eq_true hlt; omega
    have hJ : W[at_]? = some W[at_] := List.getElem?_eq_getElem hlt
    generalize hJe : W[at_] = J at hJ
    have mJ : J ∈ W := List.mem_of_getElem? hJ
    have oj := sr.ok J mJ
    refine w_cons <| w_set (i := 6) sc_is_parted.nd <| e_ixL <| e_var (i := 3) rfl <| e_var (i := 5) rfl ⟨w, _, at_, .dat (encJ J), rfl, rfl, .inl st.w, at_map hJ, ?_⟩
    refine w_cons <| w_augI (i := 5) sc_is_parted.nd rfl <| e_int ⟨1, rfl, ?_⟩
    show WS _ [_, _, _, _, _, _, _, _, _, _] _ _ _
    refine w_one <| w_if <| t_notInN hr.units <| e_var (i := 6) rfl <| e_fld PC.cls PC.closed <| e_var (i := 0) rfl ⟨q, _, .loc d, rfl, st.sub _ _ ps.obj, rfl, kJ J, d, jD Js, by rw [data_kJ], depth_kJ J, rfl, st.sub _ _ hd, ?_⟩
    rw [getN_jD]
    refine ⟨fun hno => ?_, fun hin => w_nil ?_⟩
    rotate_left
    · have hin : J ∈ Js := by
        have h : (!decide (J ∈ Js)) = false := hin
        simpa using h
      refine ⟨_, ?_, W, at_ + 1, _, _, _, _, rfl, by omega, sr, st, fun i L hi hL => ?_, by simp only [Int.natCast_add]; rfl⟩
      · omega
      · by_cases e : i = at_
        · subst e; rw [hJ] at hL; cases hL; exact .inl hin
        · exact vis i L (by omega) hL
    have tl : ∀ tg, tg < m.tags → tg < n.tags := fun tg h => by rw [← po.tags]; exact h
    have r0 := oj.len
    have mt := om.tags
    -- the tags
    refine w_one <| w_for (g := gN 7) (sl := [7]) PassesOwn.never rfl (g_name sc_is_parted.nd) <| i_range M.range <| e_ixK <| e_fld PC.cls PC.one <| e_var (i := 0) rfl ⟨q, _, .dat (encM m), rfl, st.sub _ _ ps.obj, rfl, _, .int m.tags, rfl, rfl, m.tags, rfl, by omega, by omega, ?_⟩
    refine ⟨fun tg ρ μ' => ∃ (W' more : List Joint) (b c1 e1 : Option SV), W' = W ++ more ∧ Srch m n J0 W' ∧ PSto μ μ' w s W' ∧ (∀ t s', t < tg → s' < 2 * many J.2.2 + 1 → Good m n W' J t s') ∧
      ρ = [some (.loc q), some (.dat (encCon c)), some (.dat (encCon c')), some (.loc w), some (.loc s), some (.int ((at_ : Int) + 1)), some (.dat (encJ J)), b, c1, e1], ⟨W, [], _, _, _, by simp, sr, st, fun t s' h => by omega, rfl⟩, fun _ _ _ _ _ => trivial, ?_, ?_⟩
    · rintro tg x ρ2 μ3 htg rfl ⟨W1, more1, b2, c2, e2, eW1, sr1, st1, vis1, rfl⟩
      have htg : tg < m.tags := by omega
      have mJ1 : J ∈ W1 := by rw [eW1]; exact List.mem_append_left _ mJ
      show WS _ [_, _, _, _, _, _, _, _, _, _] _ _ _
      refine w_one <| w_for (g := gN 8) (sl := [8]) PassesOwn.never rfl (g_name sc_is_parted.nd) <| i_range M.range <| e_call cs hr (a_cons <| e_ixK <| e_var (i := 6) rfl ⟨_, .tuple (J.2.2.map encN), rfl, rfl, a_nil ⟨J.2.2, rfl, by omega, fun μ4 m4 => ⟨_, rfl, by omega, ?_, ?_⟩⟩⟩) (by omega)
      · have := known_len J.2.2
        have : many J.2.2 ≤ J.2.2.length := this
        omega
      refine ⟨fun sp ρ μ' => ∃ (W' more : List Joint) (c1 e1 : Option SV), W' = W ++ more ∧ Srch m n J0 W' ∧ PSto μ μ' w s W' ∧ (∀ t s', t < tg → s' < 2 * many J.2.2 + 1 → Good m n W' J t s') ∧ (∀ s', s' < sp → Good m n W' J tg s') ∧
        ρ = [some (.loc q), some (.dat (encCon c)), some (.dat (encCon c')), some (.loc w), some (.loc s), some (.int ((at_ : Int) + 1)), some (.dat (encJ J)), some (.int tg), c1, e1], ⟨W1, more1, c2, e2, eW1, sr1, ⟨st1.sub.trans m4, m4 _ _ st1.w, m4 _ _ st1.s⟩, vis1, fun s' h => by omega, by simp⟩, fun _ _ _ _ _ => trivial, ?_, ?_⟩
      · rintro sp x ρ3 μ5 hsp rfl ⟨W2, more2, c3, e3, eW2, sr2, st2, vis2, vs2, rfl⟩
        have hsp : sp < 2 * many J.2.2 + 1 := by omega
        have mJ2 : J ∈ W2 := by rw [eW2]; exact List.mem_append_left _ mJ
        show WS _ [_, _, _, _, _, _, _, _, _, _] _ _ _
        refine w_cons <| w_set (i := 9) sc_is_parted.nd <| e_meth ca hr <| e_var (i := 0) rfl ⟨q, _, rfl, st2.sub _ _ ps.obj, rfl, a_cons <| e_var (i := 6) rfl <| a_cons <| e_var (i := 7) rfl <| a_cons <| e_var (i := 8) rfl <| a_nil ⟨q, J, tg, sp, m, n, d, by simp, st2.sub _ _ ps.obj, om, on, oj, htg, tl tg htg, fun μ6 m6 => ?_⟩⟩
        show WS _ [_, _, _, _, _, _, _, _, _, _] _ _ _
        have st3 : PSto μ μ6 w s W2 := ⟨st2.sub.trans m6, m6 _ _ st2.w, m6 _ _ st2.s⟩
        by_cases he : (jr1 m J tg sp).2 = (jr2 m n J tg sp).2
        · rw [if_pos he]
          refine w_cons <| w_if <| t_isN <| e_var (i := 9) rfl ⟨fun h => ff h, fun _ => w_nil ?_⟩
          refine w_one <| w_if <| t_notInN hr.units <| e_var (i := 9) rfl <| e_var (i := 4) rfl ⟨kJ (after m n J tg sp), s, jD W2, by rw [data_kJ], depth_kJ _, rfl, st3.s, ?_⟩
          rw [getN_jD]
          refine ⟨fun hno => ?_, fun hin => w_nil ?_⟩
          · have hno : after m n J tg sp ∉ W2 := by
              have h : (!decide (after m n J tg sp ∈ W2)) = true := hno
              simpa using h
            have sr3 := sr2.add mJ2 om on htg (tl tg htg) hsp hno
            have hB3 : W2.length ≤ jB m n := jCount sr2.nd sr2.ok
            have hfew := po.few
            refine w_cons <| w_setN hr.units <| e_bl <| e_var (i := 4) rfl <| e_var (i := 9) rfl ⟨s, kJ (after m n J tg sp), jD W2, rfl, by rw [data_kJ], depth_kJ _, st3.s, by unfold jD; rw [List.length_map]; omega, ?_⟩
            obtain ⟨W3, eW3, hW3⟩ := putN_jD (J := after m n J tg sp) (Js := W2)
            have eW4 : W3 = W2 ++ [after m n J tg sp] := by
              rcases hW3 with h | h
              · exact h.2
              · exact absurd h.1 hno
            rw [show SV.dat (PyData.bool true) = tt1 from rfl, eW3, eW4]
            have hw7 : updM μ6 s (.dct (jD (W2 ++ [after m n J tg sp]))) w = some (.lst (jL W2)) := by rw [updM_ne hws]; exact st3.w
            refine w_one <| w_expr <| e_append <| e_var (i := 3) rfl ⟨w, rfl, ⟨_, hw7⟩, e_var (i := 9) rfl ⟨_, hw7, by unfold jL; rw [List.length_map]; omega, ?_⟩⟩
            have mono : ∀ {L t s'}, Good m n W2 L t s' → Good m n (W2 ++ [after m n J tg sp]) L t s' := fun g => ⟨g.1, List.mem_append_left _ g.2⟩
            refine ⟨W2 ++ [after m n J tg sp], more2 ++ [after m n J tg sp], _, _, by rw [eW2, List.append_assoc], sr3, ⟨(st3.sub.fresh sn).fresh wn, by rw [updM_same]; unfold jL; rw [List.map_append]; rfl, by rw [updM_ne (Ne.symm hws), updM_same]⟩, fun t s' h h' => mono (vis2 t s' h h'), fun s' h => ?_, rfl⟩
            by_cases e : s' = sp
            · subst e; exact ⟨he, List.mem_append_right _ (by simp)⟩
            · exact mono (vs2 s' (by omega))
          · have hin : after m n J tg sp ∈ W2 := by
              have h : (!decide (after m n J tg sp ∈ W2)) = false := hin
              simpa using h
            refine ⟨W2, more2, _, _, eW2, sr2, st3, vis2, fun s' h => ?_, rfl⟩
            by_cases e : s' = sp
            · subst e; exact ⟨he, hin⟩
            · exact vs2 s' (by omega)
        · rw [if_neg he]
          refine w_cons <| w_if <| t_isN <| e_var (i := 9) rfl ⟨fun _ => ?_, fun h => ft h⟩
          refine w_one <| w_ret <| e_bl ?_
          have := hP μ6 st3.sub.but (ps.sub st3.sub)
          rw [pjB_t (sr2.back J mJ2 (.now tg sp htg hsp he))] at this
          exact this
      · rintro ρ3 μ5 ⟨W2, more2, c3, e3, eW2, sr2, st2, vis2, vs2, rfl⟩
        refine ⟨W2, more2, _, _, _, eW2, sr2, st2, fun t s' ht hs' => ?_, rfl⟩
        by_cases e : t = tg
        · subst e; exact vs2 s' (by omega)
        · exact vis2 t s' (by omega) hs'
    · rintro ρ2 μ3 ⟨W1, more1, b2, c2, e2, eW1, sr1, st1, vis1, rfl⟩
      refine ⟨_, ?_, W1, at_ + 1, _, _, _, _, rfl, by rw [eW1, List.length_append]; omega, sr1, st1, fun i L hi hL => ?_, by simp only [Int.natCast_add]; rfl⟩
      · omega
      · have hL0 : W[i]? = some L := by
          rw [eW1, List.getElem?_append_left (by omega)] at hL
          exact hL
        by_cases e : i = at_
        · subst e; rw [hJ] at hL0; cases hL0
          exact .inr fun t s' ht hs' => vis1 t s' (by omega) hs'
        · rcases vis i L (by omega) hL0 with h | h
          · exact .inl h
          · exact .inr fun t s' ht hs' => ⟨(h t s' ht hs').1, by rw [eW1]; exact List.mem_append_left _ (h t s' ht hs').2⟩
  · -- the search is over
    have hge : at_ = W.length := by
      have := of_decide_eq_false hge
      omega
    have np : ∀ J ∈ W, ¬ PJ m n J := no_pj (C := fun J => J ∈ Js) (fun J hJ => (okj J hJ).2) fun J hJ => by
      obtain ⟨i, hi⟩ := List.mem_iff_getElem?.mp hJ
      exact vis i J (by rw [hge]; exact (List.getElem?_eq_some_iff.mp hi).1) hi
    refine w_cons <| w_for (g := gN 6) (sl := [6]) PassesOwn.never rfl (g_name sc_is_parted.nd) <| i_list <| e_var (i := 3) rfl ⟨w, jL W, rfl, .inl st.w, ?_⟩
    refine ⟨fun i ρ μ' => ∃ (Js' : List Joint) (a b c1 e1 : Option SV), MBut d μ μ' ∧ μ' w = some (.lst (jL W)) ∧ μ' d = some (.dct (jD Js')) ∧ Js'.Nodup ∧ (∀ J ∈ Js', JOk m n J ∧ ¬ PJ m n J) ∧
      ρ = [some (.loc q), some (.dat (encCon c)), some (.dat (encCon c')), some (.loc w), some (.loc s), some (.int at_), a, b, c1, e1], ⟨Js, _, _, _, _, st.sub.but, st.w, st.sub _ _ hd, ndj, okj, rfl⟩, fun _ _ _ _ ⟨_, _, _, _, _, _, h, _⟩ => .inl h, ?_, ?_⟩
    · rintro i x ρ2 μ3 hi ⟨r, hr', rfl⟩ ⟨Js1, a, b, c1, e1, hmb, hw1, hd1, nd1, ok1, rfl⟩
      unfold jL at hr'
      rw [List.getElem?_map] at hr'
      cases hk : W[i]? with
      | none => rw [hk] at hr'; cases hr'
      | some J =>
        rw [hk] at hr'
        cases hr'
        have mJ := List.mem_of_getElem? hk
        have hB1 : Js1.length ≤ jB m n := jCount nd1 fun J hJ => (ok1 J hJ).1
        have hfew := po.few
        show WS _ [_, _, _, _, _, _, _, _, _, _] _ _ _
        refine w_one <| w_setN hr.units <| e_bl <| e_fld PC.cls PC.closed <| e_var (i := 0) rfl ⟨q, _, .loc d, rfl, hmb _ _ ps.ne ps.obj, rfl, e_var (i := 6) rfl ⟨d, kJ J, jD Js1, rfl, by rw [data_kJ], depth_kJ J, hd1, by unfold jD; rw [List.length_map]; omega, ?_⟩⟩
        obtain ⟨Js2, e2, hJ2⟩ := putN_jD (J := J) (Js := Js1)
        rw [show SV.dat (PyData.bool true) = tt1 from rfl, e2]
        refine ⟨Js2, _, _, _, _, hmb.upd, by rw [updM_ne wd]; exact hw1, updM_same, ?_, ?_, rfl⟩
        · rcases hJ2 with ⟨h, rfl⟩ | ⟨h, rfl⟩
          · rw [List.nodup_append]
            exact ⟨nd1, by simp, fun a ha b hb e => by rw [List.mem_singleton] at hb; subst hb; subst e; exact h ha⟩
          · exact nd1
        · intro L hL
          rcases hJ2 with ⟨h, rfl⟩ | ⟨h, rfl⟩
          · rcases List.mem_append.mp hL with e | e
            · exact ok1 L e
            · rw [List.mem_singleton.mp e]; exact ⟨sr.ok J mJ, np J mJ⟩
          · exact ok1 L hL
    · rintro ρ2 μ3 ⟨Js1, a, b, c1, e1, hmb, hw1, hd1, nd1, ok1, rfl⟩
      refine w_one <| w_ret <| e_bl ?_
      have := hP μ3 hmb ⟨hmb _ _ ps.ne ps.obj, _, hd1, Js1, rfl, nd1, ok1⟩
      rw [pjB_f (np J0 (List.mem_of_getElem? sr.fst))] at this
      exact this
end
end AV
-- text W07
set_option Elab.async false
set_option linter.all false
set_option maxRecDepth 100000
set_option maxHeartbeats 4000000
namespace AV
open PySem L2 TH
def nD (ns : List Nat) : List PyData := ns.map fun n : Nat => .int n
theorem nD_encO (ns : List Nat) : nD ns = (ns.map fun n : Nat => some (n : Int)).map encO := by unfold nD; rw [List.map_map]; rfl
theorem proper_lt {rk : List (Option Nat)} (p : Proper rk) {r : Nat} (h : some r ∈ rk) : r < many rk := by
  have h1 : r ∈ known rk := (mem_known rk r).mpr h
  rw [p.known] at h1
  exact List.mem_range.mp h1
structure TyG (m : Machine) (τ : Ty) : Prop where
  st : τ.1 < m.steps.length
  ok : TyOk m τ
section
variable {P : Program} {w : World} {K : PySem.W.Frag} {mg : Str → Option Value} {base : Heap} {f : Addr} {fd : FuncData} {C : Addr}
def G_needed_by (C : Addr) : Gs := fun rs μ P => ∃ (q d : Addr) (τ : Ty) (m : Machine), rs = [.loc q, .dat (encTy τ)] ∧ PairSt C μ q d m m ∧ PairOk m m ∧ TyG m τ ∧
  ∀ μ', MBut d μ μ' → PairSt C μ' q d m m → P μ' (.dat (.list (nD (needs m τ))))
theorem sc_needed_by : FnScope ["pair", "kind", "many", "values", "rank", "found", "moved"] ["pair", "kind"] (defScope s_needed_by) := ⟨rfl, rfl, rfl, by decide +kernel, rfl, by decide +kernel, by decide +kernel⟩
theorem set_cut (xs : List Int) (r : Nat) (x : Int) (h : r < xs.length) : xs.take r ++ [x] ++ xs.drop (r + 1) = xs.set r x := by
  rw [List.set_eq_take_append_cons_drop, if_pos h, List.append_assoc]; rfl
theorem ok_needed_by (F : FD K "needed_by" "needed_by" s_needed_by f fd) (M : Md mg) (PC : PairC K C) (cs : Fn P w K mg base 1 "spots_of" G_spots_of) (cw : Fn P w K mg base 1 "with_values" G_with_values) (ci : Me P w K mg base 14 C "is_parted" (G_is_parted C)) : FnOk P w K mg base C8.CX0 15 f fd ["pair", "kind"] (spOf P w K (G_needed_by C)) := by
  refine ok_of F sc_needed_by (fun rs μ Po ⟨_, _, _, _, e, _⟩ => by rw [e]; rfl) fun cdv A outer s0 H E rs μ Po hr ⟨q, d, τ, m, e, ps, po, og, hP⟩ => ?_
  subst e
  have om := po.o1
  have hm := om.regs
  have hl := og.ok.len
  have hmk : many τ.2 ≤ τ.2.length := known_len τ.2
  refine w_cons <| w_set (i := 2) sc_needed_by.nd <| e_fdiv <| e_call cs hr (a_cons <| e_ixK <| e_var (i := 1) rfl ⟨_, .tuple (τ.2.map encN), rfl, rfl, a_nil ⟨τ.2, rfl, by omega, fun μ1 m1 => e_int ⟨_, 2, rfl, rfl, ⟨by omega, by omega⟩, ?_⟩⟩⟩) (by omega)
  have e2 : (2 * (many τ.2 : Int) + 1) / 2 = (many τ.2 : Int) := by omega
  rw [e2]
  generalize hk : many τ.2 = k at *
  show WS _ [_, _, _, _, _, _, _] _ _ _
  refine w_cons <| WLc.set (i := 3) <| l_mapS (g := gN 4) (sl := [4]) [("rank", 4)] (fun i : Nat => SV.int (2 * (i : Int))) rfl sc_needed_by.nd (blkOk_by rfl) (by decide) (fun _ _ _ _ _ => (g_name sc_needed_by.nd)) <| i_range M.range <| e_var (i := 2) rfl ⟨k, rfl, by omega, by omega, by omega, fun _ _ => trivial, ?_, ?_⟩
  · rintro i x μ' hi rfl hm'
    intro s1 H1 C1 cl1 fp1
    exact e_mul <| e_int <| e_var (i := 4) rfl ⟨2, _, rfl, rfl, .inl (by omega), MSub.refl _, by rw [Int.zero_add]⟩
  intro μ2 m2 v hv
  have ev : (List.range ((k : Int)).toNat).map (fun i : Nat => SV.int (2 * (i : Int))) = (evens k).map SV.int := by
    unfold evens
    rw [List.map_map]; rfl
  rw [ev]
  refine w_cons <| w_set (i := 5) sc_needed_by.nd <| e_lst <| a_nil ⟨sz, fun fo hfo => ?_⟩
  show WS _ [_, _, _, _, _, _, _] _ _ _
  obtain ⟨kv0, hd0, _⟩ := ps.dct
  have m12 := m1.trans m2
  have hvf : v ≠ fo := by intro e; rw [e, updM_same] at hfo; cases hfo
  have hvd : v ≠ d := by intro e; subst e; rw [m12 _ _ hd0] at hv; cases hv
  have hfd : fo ≠ d := by
    intro e; subst e
    rw [updM_ne (Ne.symm hvf), m12 _ _ hd0] at hfo; cases hfo
  have hfo2 : μ2 fo = none := by rw [updM_ne (Ne.symm hvf)] at hfo; exact hfo
  have fn : μ fo = none := by
    cases z : μ fo with
    | none => rfl
    | some x => rw [m12 _ _ z] at hfo2; cases hfo2
  let nd : Nat → List Nat := fun i => (List.range i).filter fun j => pjB m m (joint (τ.1, fill τ.2 (evens k)) (τ.1, fill τ.2 ((evens k).set j (2 * (j : Int) + 1))))
  have nds : ∀ i, nd (i + 1) = nd i ++ (if pjB m m (joint (τ.1, fill τ.2 (evens k)) (τ.1, fill τ.2 ((evens k).set i (2 * (i : Int) + 1)))) = true then [i] else []) := fun i => by
    show (List.range (i + 1)).filter _ = _
    rw [List.range_succ, List.filter_append]
    refine congrArg (fun z => nd i ++ z) ?_
    rw [List.filter_cons, List.filter_nil]
  refine w_cons <| w_for (g := gN 4) (sl := [4]) PassesOwn.never rfl (g_name sc_needed_by.nd) <| i_range M.range <| e_var (i := 2) rfl ⟨k, rfl, by omega, by omega, ?_⟩
  refine ⟨fun i ρ μ' => ∃ (a b : Option SV), MBut d μ (rmM μ' fo) ∧ PairSt C μ' q d m m ∧ μ' v = some (.lst ((evens k).map SV.int)) ∧ μ' fo = some (.lst ((nD (nd i)).map SV.dat)) ∧ ρ = [some (.loc q), some (.dat (encTy τ)), some (.int k), some (.loc v), a, some (.loc fo), b],
    ⟨_, _, (rmM_sub ((m12.new hv).new hfo) fn).but, ps.sub ((m12.new hv).new hfo), by rw [updM_ne hvf, updM_same], by rw [updM_same]; rfl, rfl⟩, fun _ _ _ _ _ => trivial, ?_, ?_⟩
  · rintro i x ρ1 μ3 hi rfl ⟨a, b, hmb, ps3, hv3, hf3, rfl⟩
    have hi : i < k := by omega
    show WS _ [_, _, _, _, _, _, _] _ _ _
    have lv : (evens k).length = k := evens_len k
    refine w_cons <| w_set (i := 6) sc_needed_by.nd <| e_catL <| e_catL <| e_slL <| e_var (i := 3) rfl <| (show WE _ _ _ _ _ from e_var (i := 4) rfl ⟨_, rfl, ⟨v, _, rfl, .inl hv3, fun a1 h1 => ?_⟩⟩)
    refine e_lst <| a_cons <| e_add <| e_mul <| e_int <| e_var (i := 4) rfl ⟨2, _, rfl, rfl, .inl (by omega), e_int ⟨_, _, rfl, rfl, a_nil ⟨sz, fun a2 h2 => ?_⟩⟩⟩
    have d21 : a2 ≠ a1 := by intro e; rw [e, updM_same] at h2; cases h2
    have h2' : μ3 a2 = none := by rw [updM_ne d21] at h2; exact h2
    refine ⟨a1, a2, _, _, rfl, rfl, by rw [updM_ne (Ne.symm d21), updM_same], updM_same, ?_, fun a3 h3 => ?_⟩
    · rw [Int.zero_add, cut_take, List.length_take, List.length_map, lv, sizeLine_eq]
      have : ([SV.int (2 * (i : Int) + 1)] : List SV).length = 1 := rfl
      rw [this]; omega
    have mm3 := (((MSub.refl μ3).new (c := .lst (cutD ((evens k).map SV.int) none (some (0 + (i : Int))))) h1).new (c := .lst [SV.int (2 * (0 + (i : Int)) + 1)]) h2).new (c := .lst (cutD ((evens k).map SV.int) none (some (0 + (i : Int))) ++ [SV.int (2 * (0 + (i : Int)) + 1)])) h3
    refine e_slL <| e_var (i := 3) rfl <| (show WE _ _ _ _ _ from e_add <| e_var (i := 4) rfl <| e_int ⟨_, _, rfl, rfl, _, rfl, ⟨v, _, rfl, .inl (mm3 _ _ hv3), fun a4 h4 => ?_⟩⟩)
    have d34 : a3 ≠ a4 := by intro e; rw [← e, updM_same] at h4; cases h4
    refine ⟨a3, a4, _, _, rfl, rfl, by rw [updM_ne d34, updM_same], updM_same, ?_, fun a5 h5 => ?_⟩
    · rw [sizeLine_eq, List.length_append]
      have c1 : ∀ (lo hi : Option Int), (cutD ((evens k).map SV.int) lo hi).length ≤ k := fun lo hi => by
        unfold cutD; rw [List.length_take, List.length_drop, List.length_map, lv]; omega
      have := c1 none (some (0 + (i : Int)))
      have := c1 (some (0 + (i : Int) + 1)) none
      have : ([SV.int (2 * (0 + (i : Int)) + 1)] : List SV).length = 1 := rfl
      omega
    have mv : cutD ((evens k).map SV.int) none (some (0 + (i : Int))) ++ [SV.int (2 * (0 + (i : Int)) + 1)] ++ cutD ((evens k).map SV.int) (some (0 + (i : Int) + 1)) none = ((evens k).set i (2 * (i : Int) + 1)).map SV.int := by
      rw [Int.zero_add, cut_take, show ((i : Int) + 1) = ((i + 1 : Nat) : Int) by omega, cut_drop, ← set_cut _ _ _ (by rw [lv]; exact hi), List.map_append, List.map_append, List.map_take, List.map_drop]
      rfl
    rw [mv]
    have mm5 := (mm3.new h4).new (c := .lst (((evens k).set i (2 * (i : Int) + 1)).map SV.int)) h5
    show WS _ [_, _, _, _, _, _, _] _ _ _
    have hlt : ∀ r : Nat, some r ∈ τ.2 → r < k := fun r hr' => by rw [← hk]; exact proper_lt og.ok.prop hr'
    have ps5 := ps3.sub mm5
    refine w_one <| w_if <| t_val <| e_meth ci hr <| e_var (i := 0) rfl ⟨q, _, rfl, ps5.obj, rfl, a_cons <| e_call cw hr (a_cons <| e_var (i := 1) rfl <| a_cons <| e_var (i := 3) rfl <| a_nil ⟨τ, v, evens k, rfl, .inl (mm5 _ _ hv3), by omega, by rw [lv]; exact hlt, fun μ6 m6 => ?_⟩) (by omega)⟩
    refine a_cons <| e_call cw hr (a_cons <| e_var (i := 1) rfl <| a_cons <| e_var (i := 6) rfl <| a_nil ⟨τ, a5, (evens k).set i (2 * (i : Int) + 1), rfl, .inl (m6 _ _ updM_same), by omega, by rw [List.length_set, lv]; exact hlt, fun μ7 m7 => ?_⟩) (by omega)
    have m37 := (mm5.trans m6).trans m7
    refine a_nil ⟨q, d, con τ (evens k), con τ ((evens k).set i (2 * (i : Int) + 1)), m, m, rfl, ps3.sub m37, po, og.st, by show (fill _ _).length = _; rw [fill_len, hl], og.st, by show (fill _ _).length = _; rw [fill_len, hl], fun μ8 m8 ps8 => ?_⟩
    have hv8 : μ8 v = some (.lst ((evens k).map SV.int)) := m8 _ _ hvd (m37 _ _ hv3)
    have hf8 : μ8 fo = some (.lst ((nD (nd i)).map SV.dat)) := m8 _ _ hfd (m37 _ _ hf3)
    have hmb8 : MBut d μ (rmM μ8 fo) := fun a c hne hc => by
      have h1 := hmb a c hne hc
      have : a ≠ fo := by intro e; subst e; rw [fn] at hc; cases hc
      unfold rmM at h1 ⊢
      rw [if_neg this] at h1 ⊢
      exact m8 _ _ hne (m37 _ _ h1)
    refine ⟨_, rfl, fun hb => ?_, fun hb => ?_⟩
    · have e1 := nds i
      rw [if_pos hb] at e1
      refine w_one <| w_expr <| e_append <| e_var (i := 5) rfl ⟨fo, rfl, ⟨_, hf8⟩, e_var (i := 4) rfl ⟨_, hf8, ?_, ?_⟩⟩
      · have : (nd i).length ≤ i := by
          have := List.length_filter_le (fun j => pjB m m (joint (τ.1, fill τ.2 (evens k)) (τ.1, fill τ.2 ((evens k).set j (2 * (j : Int) + 1))))) (List.range i)
          rw [List.length_range] at this
          exact this
        unfold nD
        rw [List.length_map, List.length_map]; omega
      · refine ⟨_, _, ?_, ⟨?_, ?_⟩, by rw [updM_ne hvf]; exact hv8, ?_, rfl⟩
        · have : rmM (updM μ8 fo (.lst ((nD (nd i)).map SV.dat ++ [SV.int (0 + (i : Int))]))) fo = rmM μ8 fo := by
            funext b; unfold rmM updM
            by_cases e : b = fo
            · rw [if_pos e, if_pos e]
            · rw [if_neg e, if_neg e, if_neg e]
          rw [this]; exact hmb8
        · have hqf : q ≠ fo := by intro e; have h9 := ps8.obj; rw [e, hf8] at h9; cases h9
          rw [updM_ne hqf]; exact ps8.obj
        · obtain ⟨kv, e, o⟩ := ps8.dct
          exact ⟨kv, by rw [updM_ne (Ne.symm hfd)]; exact e, o⟩
        · rw [updM_same, e1]
          unfold nD
          rw [Int.zero_add, List.map_append, List.map_append]; rfl
    · have e1 := nds i
      rw [if_neg (by rw [hb]; exact Bool.false_ne_true), List.append_nil] at e1
      exact w_nil ⟨_, _, hmb8, ps8, hv8, by rw [e1]; exact hf8, rfl⟩
  · rintro ρ1 μ3 ⟨a, b, hmb, ps3, hv3, hf3, rfl⟩
    refine w_one <| w_ret <| e_tupleN M.tuple <| e_var (i := 5) rfl ⟨fo, nD (nd k), rfl, .inl hf3, ?_⟩
    have en : nd k = needs m τ := by
      show (List.range k).filter _ = _
      unfold needs
      rw [hk]
      refine List.filter_congr fun j _ => ?_
      unfold pjB need1
      rw [hk]
    rw [en]
    refine hP μ3 (fun a c hne hc => ?_) ps3
    have h1 := hmb a c hne hc
    have : a ≠ fo := by intro e; subst e; rw [fn] at hc; cases hc
    unfold rmM at h1
    rw [if_neg this] at h1
    exact h1
end
end AV
-- text W08
set_option Elab.async false
set_option linter.all false
set_option maxRecDepth 100000
set_option maxHeartbeats 4000000
namespace AV
open PySem L2 TH
section
variable {P : Program} {w : World} {K : PySem.W.Frag} {mg : Str → Option Value} {base : Heap} {f : Addr} {fd : FuncData} {C : Addr}
theorem mem_nD {r : Nat} {ns : List Nat} : decide ((some (r : Int)) ∈ ns.map fun n : Nat => some (n : Int)) = decide (r ∈ ns) := by
  rw [decide_eq_decide, List.mem_map]
  constructor
  · rintro ⟨n, hn, e⟩
    have : (n : Int) = r := by simpa using e
    have : n = r := by omega
    rw [← this]; exact hn
  · intro h; exact ⟨r, h, rfl⟩
theorem dn_nD (ns : List Nat) : Dn (.list (nD ns)) (.tuple (nD ns)) := by
  rw [nD_encO]; simp only [Dn]; exact dn_encOs _
def G_spread : Gs := fun rs μ P => ∃ (τ : Ty) (ns : List Nat) (room shift : Int), rs = [.dat (encTy τ), .tup (nD ns), .int room, .int shift] ∧ τ.2.length ≤ 1000 ∧ Proper τ.2 ∧ (shift = 0 ∨ shift = 1) ∧ Pu μ P (.dat (encCon (con τ (spreadV ns room shift (many τ.2)))))
theorem sc_spread : FnScope ["kind", "needs", "room", "shift", "values", "base", "lower", "rank"] ["kind", "needs", "room", "shift"] (defScope s_spread) := ⟨rfl, rfl, rfl, by decide +kernel, rfl, by decide +kernel, by decide +kernel⟩
theorem spLoop_len (ns : List Nat) (room shift : Int) : ∀ m, (spLoop ns room shift m).1.length = m
  | 0 => rfl
  | m + 1 => by
    rw [spLoop_succ]
    have := spLoop_len ns room shift m
    unfold spStep
    split <;> (simp only [List.length_append, List.length_singleton]; omega)
theorem ok_spread (F : FD K "spread" "spread" s_spread f fd) (M : Md mg) (cs : Fn P w K mg base 1 "spots_of" G_spots_of) (cw : Fn P w K mg base 1 "with_values" G_with_values) : FnOk P w K mg base C8.CX0 2 f fd ["kind", "needs", "room", "shift"] (spOf P w K G_spread) := by
  refine ok_of F sc_spread (fun rs μ Po ⟨_, _, _, _, e, _⟩ => by rw [e]; rfl) fun cdv A outer s0 H E rs μ Po hr ⟨τ, ns, room, shift, e, hl, hp, hsh, hP⟩ => ?_
  subst e
  have hmk : many τ.2 ≤ τ.2.length := known_len τ.2
  refine w_cons <| w_set (i := 4) sc_spread.nd <| e_lst <| a_nil ⟨sz, fun q hq => ?_⟩
  refine w_cons <| w_set (i := 5) sc_spread.nd <| e_int <| w_cons <| w_set (i := 6) sc_spread.nd <| e_int ?_
  show WS _ [_, _, _, _, _, _, _, _] _ _ _
  refine w_cons <| w_for (g := gN 7) (sl := [7]) PassesOwn.never rfl (g_name sc_spread.nd) <| i_range M.range <| e_fdiv <| e_call cs hr <| a_cons <| e_ixK <| e_var (i := 0) rfl ⟨_, .tuple (τ.2.map encN), rfl, rfl, a_nil ⟨τ.2, rfl, hl, fun μ1 m1 => e_int ⟨_, 2, rfl, rfl, ⟨by omega, by omega⟩, (many τ.2 : Int), by congr 2; omega, by omega, by omega, ?_⟩⟩⟩
  have hq1 := m1 _ _ (updM_same (μ := μ) (a := q))
  refine ⟨fun i ρ μ' => ∃ (a : Option SV), MSub μ (rmM μ' q) ∧ μ' q = some (.lst ((spLoop ns room shift i).1.map SV.int)) ∧ ρ = [some (.dat (encTy τ)), some (.tup (nD ns)), some (.int room), some (.int shift), some (.loc q), some (.int (spLoop ns room shift i).2.1), some (.int (spLoop ns room shift i).2.2), a],
    ⟨_, rmM_sub ((MSub.upd hq).trans m1) hq, hq1, rfl⟩, fun _ _ _ _ _ => trivial, ?_, ?_⟩
  · rintro i x ρ1 μ3 hi rfl ⟨a, hm, hq3, rfl⟩
    show WS _ [_, _, _, _, _, _, _, _] _ _ _
    have e1 := spLoop_succ ns room shift i
    have ln := spLoop_len ns room shift i
    generalize hS : spLoop ns room shift i = S at *
    refine w_cons <| w_augI (i := 6) sc_spread.nd rfl <| e_int ⟨1, rfl, ?_⟩
    show WS _ [_, _, _, _, _, _, _, _] _ _ _
    have fin : ∀ (v : Int) (μ4 : Mu), μ4 = updM μ3 q (.lst (S.1.map SV.int ++ [SV.int v])) → MSub μ (rmM μ4 q) ∧ μ4 q = some (.lst ((S.1 ++ [v]).map SV.int)) := fun v μ4 e => by
      subst e
      refine ⟨fun b c e => ?_, by rw [updM_same, List.map_append]; rfl⟩
      have h := hm b c e
      have hb : b ≠ q := by intro e2; subst e2; rw [hq] at e; cases e
      unfold rmM at h ⊢
      rw [if_neg hb] at h ⊢
      rw [updM_ne hb]; exact h
    refine w_one <| w_if <| t_inO <| e_var (i := 7) rfl <| e_var (i := 1) rfl ⟨some (i : Int), ns.map fun n : Nat => some (n : Int), by rw [Int.zero_add]; rfl, .inl (by rw [nD_encO]), ?_⟩
    rw [mem_nD]
    refine ⟨fun h => ?_, fun h => ?_⟩
    · have h : i ∈ ns := of_decide_eq_true h
      rw [spStep, if_pos h] at e1
      refine w_cons <| w_augI (i := 5) sc_spread.nd rfl <| e_mul <| e_int <| e_var (i := 2) rfl ⟨2, room, rfl, rfl, .inl (by omega), _, rfl, ?_⟩
      refine w_cons <| w_set (i := 6) sc_spread.nd <| e_int ?_
      show WS _ [_, _, _, _, _, _, _, _] _ _ _
      refine w_one <| w_expr <| e_append <| e_var (i := 4) rfl ⟨q, rfl, ⟨_, hq3⟩, e_var (i := 5) rfl ⟨_, hq3, by rw [List.length_map]; omega, ?_⟩⟩
      obtain ⟨f1, f2⟩ := fin _ _ rfl
      exact ⟨_, f1, by rw [e1]; exact f2, by rw [e1]⟩
    · have h : ¬ i ∈ ns := of_decide_eq_false h
      rw [spStep, if_neg h] at e1
      refine w_one <| w_expr <| e_append <| e_var (i := 4) rfl ⟨q, rfl, ⟨_, hq3⟩, e_add <| e_add <| e_var (i := 5) rfl <| e_mul <| e_var (i := 3) rfl <| e_var (i := 2) rfl ⟨shift, room, rfl, rfl, .inl (by omega), _, _, rfl, rfl, e_var (i := 6) rfl ⟨_, _, rfl, rfl, _, hq3, by rw [List.length_map]; omega, ?_⟩⟩⟩
      obtain ⟨f1, f2⟩ := fin _ _ rfl
      exact ⟨_, f1, by rw [e1]; exact f2, by rw [e1]⟩
  · rintro ρ1 μ3 ⟨a, hm, hq3, rfl⟩
    rw [Int.toNat_natCast] at hq3
    refine w_one <| w_ret <| e_call cw hr <| a_cons <| e_var (i := 0) rfl <| a_cons <| e_var (i := 4) rfl <| a_nil ⟨τ, q, spreadV ns room shift (many τ.2), rfl, .inl hq3, hl, fun r h => by rw [show (spreadV ns room shift (many τ.2)).length = many τ.2 from spLoop_len ..]; exact proper_lt hp h, fun μ4 m4 => hP μ4 (fun b c e => m4 _ _ ?_)⟩
    have h := hm b c e
    unfold rmM at h
    split at h
    · cases h
    · exact h
/-! ### of_one_kind -/
open Classical in
noncomputable def kqB (m : Machine) (τ σ : Ty) : Bool := decide (KEq m m τ σ)
theorem kqB_t {m : Machine} {τ σ : Ty} (h : KEq m m τ σ) : kqB m τ σ = true := by classical exact decide_eq_true h
theorem kqB_f {m : Machine} {τ σ : Ty} (h : ¬ KEq m m τ σ) : kqB m τ σ = false := by classical exact decide_eq_false h
def G_of_one_kind (C : Addr) : Gs := fun rs μ P => ∃ (q d : Addr) (τ σ : Ty) (m : Machine), rs = [.loc q, .dat (encTy τ), .tup (nD (needs m τ)), .dat (encTy σ), .tup (nD (needs m σ))] ∧ PairSt C μ q d m m ∧ PairOk m m ∧ TyG m τ ∧ TyG m σ ∧
  ∀ μ', MBut d μ μ' → PairSt C μ' q d m m → P μ' (.dat (.bool (kqB m τ σ)))
theorem sc_of_one_kind : FnScope ["pair", "kind", "needs", "another", "others", "room"] ["pair", "kind", "needs", "another", "others"] (defScope s_of_one_kind) := ⟨rfl, rfl, rfl, by decide +kernel, rfl, by decide +kernel, by decide +kernel⟩
theorem ok_of_one_kind (F : FD K "of_one_kind" "of_one_kind" s_of_one_kind f fd) (M : Md mg) (cs : Fn P w K mg base 1 "spots_of" G_spots_of) (cp : Fn P w K mg base 2 "spread" G_spread) (ci : Me P w K mg base 14 C "is_parted" (G_is_parted C)) : FnOk P w K mg base C8.CX0 15 f fd ["pair", "kind", "needs", "another", "others"] (spOf P w K (G_of_one_kind C)) := by
  refine ok_of F sc_of_one_kind (fun rs μ Po ⟨_, _, _, _, _, e, _⟩ => by rw [e]; rfl) fun cdv A outer s0 H E rs μ Po hr ⟨q, d, τ, σ, m, e, ps, po, oτ, oσ, hP⟩ => ?_
  subst e
  have om := po.o1
  have hm := om.regs
  have l1 := oτ.ok.len
  have l2 := oσ.ok.len
  refine w_cons <| w_if <| t_neI <| e_len M.len <| e_var (i := 2) rfl <| .inl ⟨_, rfl, e_len M.len <| e_var (i := 4) rfl <| .inl ⟨_, rfl, _, _, rfl, rfl, fun h => ?_, fun h => w_nil ?_⟩⟩
  · have hne : (needs m τ).length ≠ (needs m σ).length := by
      have h : (!decide (((nD (needs m τ)).length : Int) = ((nD (needs m σ)).length : Int))) = true := h
      unfold nD at h
      rw [List.length_map, List.length_map] at h
      simp at h
      omega
    refine w_one <| w_ret <| e_bl ?_
    have := hP μ (MSub.refl μ).but ps
    rw [kqB_f fun k => hne k.1] at this
    exact this
  have heq : (needs m τ).length = (needs m σ).length := by
    have h : (!decide (((nD (needs m τ)).length : Int) = ((nD (needs m σ)).length : Int))) = false := h
    unfold nD at h
    rw [List.length_map, List.length_map] at h
    simp at h
    omega
  refine w_cons <| w_set (i := 5) sc_of_one_kind.nd <| e_add <| e_int <| e_fdiv <| e_max2 rfl M.max <| a_cons <| e_call cs hr (a_cons <| e_ixK <| e_var (i := 1) rfl ⟨_, .tuple (τ.2.map encN), rfl, rfl, a_nil ⟨τ.2, rfl, by omega, fun μ1 m1 => ?_⟩⟩) (by omega)
  refine a_cons <| e_call cs hr (a_cons <| e_ixK <| e_var (i := 3) rfl ⟨_, .tuple (σ.2.map encN), rfl, rfl, a_nil ⟨σ.2, rfl, by omega, fun μ2 m2 => a_nil ⟨_, _, rfl, ?_⟩⟩⟩) (by omega)
  refine e_int ⟨_, 2, rfl, rfl, ⟨by omega, by omega⟩, _, _, rfl, rfl, ?_⟩
  generalize hroom : (1 : Int) + (if (2 * (many σ.2 : Int) + 1) > 2 * (many τ.2 : Int) + 1 then (2 * (many σ.2 : Int) + 1) else 2 * (many τ.2 : Int) + 1) / 2 = room
  have r1 : (many τ.2 : Int) < room := by rw [← hroom]; split <;> omega
  have r2 : (many σ.2 : Int) < room := by rw [← hroom]; split <;> omega
  show WS _ [_, _, _, _, _, _] _ _ _
  have m12 := m1.trans m2
  refine w_one <| w_ret <| e_not <| e_meth ci hr <| e_var (i := 0) rfl ⟨q, _, rfl, m12 _ _ ps.obj, rfl, a_cons <| e_call cp hr (a_cons <| e_var (i := 1) rfl <| a_cons <| e_var (i := 2) rfl <| a_cons <| e_var (i := 5) rfl <| a_cons <| e_int <| a_nil ⟨τ, needs m τ, room, 0, rfl, by omega, oτ.ok.prop, .inl rfl, fun μ3 m3 => ?_⟩) (by omega)⟩
  refine a_cons <| e_call cp hr (a_cons <| e_var (i := 3) rfl <| a_cons <| e_var (i := 4) rfl <| a_cons <| e_var (i := 5) rfl <| a_cons <| e_int <| a_nil ⟨σ, needs m σ, room, 1, rfl, by omega, oσ.ok.prop, .inr rfl, fun μ4 m4 => ?_⟩) (by omega)
  have m14 := (m12.trans m3).trans m4
  refine a_nil ⟨q, d, _, _, m, m, rfl, ps.sub m14, po, oτ.st, by show (fill _ _).length = _; rw [fill_len, l1], oσ.st, by show (fill _ _).length = _; rw [fill_len, l2], fun μ5 m5 ps5 => ⟨_, rfl, ?_⟩⟩
  have := hP μ5 (m14.but.trans m5) ps5
  have e : (!pjB m m (joint (con τ (spreadV (needs m τ) room 0 (many τ.2))) (con σ (spreadV (needs m σ) room 1 (many σ.2))))) = kqB m τ σ := by
    have ki := kind_iff (M := m) (N := m) om.full om.full rfl oτ.ok oσ.ok r1 r2 heq
    unfold kindJ at ki
    by_cases h : PJ m m (joint (con τ (spreadV (needs m τ) room 0 (many τ.2))) (con σ (spreadV (needs m σ) room 1 (many σ.2))))
    · rw [pjB_t h, kqB_f fun k => (ki.mpr k) h]; rfl
    · rw [pjB_f h, kqB_t (ki.mp h)]; rfl
  rw [e]
  exact this
/-! ### lowest_spot -/
def G_lowest_spot : Gs := fun rs μ P => ∃ (ns : List Nat) (s : Nat), rs = [.tup (nD ns), .int s] ∧ s < 2 * ns.length + 1 ∧ P μ (.int (lowest ns s))
theorem sc_lowest_spot : FnScope ["needs", "spot"] ["needs", "spot"] (defScope s_lowest_spot) := ⟨rfl, rfl, rfl, by decide +kernel, rfl, by decide +kernel, by decide +kernel⟩
theorem ok_lowest_spot (F : FD K "lowest_spot" "lowest_spot" s_lowest_spot f fd) (M : Md mg) : FnOk P w K mg base C8.CX0 1 f fd ["needs", "spot"] (spOf P w K G_lowest_spot) := by
  refine ok_of F sc_lowest_spot (fun rs μ Po ⟨_, _, e, _⟩ => by rw [e]; rfl) fun cdv A outer s0 H E rs μ Po hr ⟨ns, s, e, hs, hP⟩ => ?_
  subst e
  unfold lowest at hP
  have at' : ∀ {j : Nat}, j < ns.length → atI (nD ns) (j : Int) = some (.int ((ns[j]?.getD 0 : Nat) : Int)) := fun {j} hj => by
    rw [List.getElem?_eq_getElem hj]
    exact at_map (f := fun n : Nat => PyData.int n) (List.getElem?_eq_getElem hj)
  refine w_cons <| w_if <| t_eqI <| e_mod <| e_var (i := 1) rfl <| e_int ⟨_, 2, rfl, rfl, by omega, e_int ⟨_, _, rfl, rfl, fun h => ?_, fun h => w_nil ?_⟩⟩
  · have h : (s : Int) % 2 = 1 := of_decide_eq_true h
    have h1 : s % 2 = 1 := by omega
    rw [if_pos h1] at hP
    refine w_one <| w_ret <| e_add <| e_mul <| e_int <| e_ixT <| e_var (i := 0) rfl <| e_fdiv <| e_var (i := 1) rfl <| e_int ⟨_, 2, rfl, rfl, ⟨by omega, by omega⟩, nD ns, (s : Int) / 2, _, rfl, rfl, ?_, 2, _, rfl, rfl, .inl (by omega), e_int ⟨_, _, rfl, rfl, hP⟩⟩
    rw [show (s : Int) / 2 = ((s / 2 : Nat) : Int) by omega]
    exact at' (by omega)
  · have h : ¬ (s : Int) % 2 = 1 := of_decide_eq_false h
    have h1 : ¬ s % 2 = 1 := by omega
    rw [if_neg h1] at hP
    refine w_cons <| w_if <| t_eqI <| e_var (i := 1) rfl <| e_int ⟨_, _, rfl, rfl, fun h2 => ?_, fun h2 => w_nil ?_⟩
    · have h2 : (s : Int) = 0 := of_decide_eq_true h2
      rw [if_pos (by omega)] at hP
      exact w_one <| w_ret <| e_int hP
    · have h2 : ¬ (s : Int) = 0 := of_decide_eq_false h2
      rw [if_neg (by omega)] at hP
      refine w_one <| w_ret <| e_add <| e_mul <| e_int <| e_ixT <| e_var (i := 0) rfl <| e_sub <| e_fdiv <| e_var (i := 1) rfl <| e_int ⟨_, 2, rfl, rfl, ⟨by omega, by omega⟩, e_int ⟨_, _, rfl, rfl, nD ns, (s : Int) / 2 - 1, _, rfl, rfl, ?_, 2, _, rfl, rfl, .inl (by omega), e_int ⟨_, _, rfl, rfl, hP⟩⟩⟩
      rw [show (s : Int) / 2 - 1 = ((s / 2 - 1 : Nat) : Int) by omega]
      exact at' (by omega)
end
end AV
-- text W09
set_option Elab.async false
set_option linter.all false
set_option maxRecDepth 100000
set_option maxHeartbeats 4000000
namespace AV
open PySem L2 TH
/-- the class Kinds -/
structure KindC (K : PySem.W.Frag) (C : Addr) : Prop where
  cls : Cls K C
  machine : NoAttr K C "machine"
  pair : NoAttr K C "pair"
  types : NoAttr K C "types"
  needs : NoAttr K C "needs"
  known : NoAttr K C "known"
abbrev kindFs (m : Machine) (q tl nl kd : Addr) : List (Str × SV) := [("machine", .dat (encM m)), ("pair", .loc q), ("types", .loc tl), ("needs", .loc nl), ("known", .loc kd)]
def MBL (ds : List Addr) (μ μ' : Mu) : Prop := ∀ a c, a ∉ ds → μ a = some c → μ' a = some c
theorem MBut.l {d : Addr} {ds : List Addr} {μ μ' : Mu} (h : MBut d μ μ') (hd : d ∈ ds) : MBL ds μ μ' := fun a c n e => h a c (fun z => n (by rw [z]; exact hd)) e
theorem MSub.l {ds : List Addr} {μ μ' : Mu} (h : MSub μ μ') : MBL ds μ μ' := fun a c _ e => h a c e
theorem MBL.trans {ds : List Addr} {μ μ1 μ2 : Mu} (h : MBL ds μ μ1) (k : MBL ds μ1 μ2) : MBL ds μ μ2 := fun a c n e => k a c n (h a c n e)
theorem MBL.upd {ds : List Addr} {a : Addr} {μ μ1 : Mu} {c : Cell} (h : MBL ds μ μ1) (ha : a ∈ ds) : MBL ds μ (updM μ1 a c) := fun b c' n e => by rw [updM_ne (fun z => n (by rw [z]; exact ha))]; exact h b c' n e
theorem MBL.mono {ds es : List Addr} {μ μ1 : Mu} (h : MBL ds μ μ1) (s : ∀ a ∈ ds, a ∈ es) : MBL es μ μ1 := fun b c n e => h b c (fun z => n (s b z)) e
def tyS (ts : List Ty) : List SV := ts.map fun τ => .dat (encTy τ)
noncomputable def ndS (m : Machine) (ts : List Ty) : List SV := ts.map fun τ => .dat (.list (nD (needs m τ)))
noncomputable def knS (m : Machine) (κs : List Ty) : List (NestedKey × SV) := κs.map fun κ => (.tup (kT κ), .dat (.list (nD (needs m κ))))
structure KSt (CP CK : Addr) (μ : Mu) (kq q d tl nl kd : Addr) (m : Machine) (ts : List Ty) : Prop where
  obj : μ kq = some (.obj CK (kindFs m q tl nl kd))
  pair : PairSt CP μ q d m m
  types : μ tl = some (.lst (tyS ts))
  needs : μ nl = some (.lst (ndS m ts))
  known : ∃ κs, μ kd = some (.dct (knS m κs)) ∧ κs.Nodup ∧ ∀ κ ∈ κs, TyG m κ
  ne1 : tl ≠ nl
  ne2 : d ≠ kd
  ok : ∀ τ ∈ ts, TyG m τ
  nd : ts.Nodup
theorem cellNe {μ : Mu} {a b : Addr} {c d : Cell} (h1 : μ a = some c) (h2 : μ b = some d) (h : c ≠ d) : a ≠ b := by intro e; subst e; rw [h1] at h2; exact h (Option.some.inj h2)
section
variable {CP CK : Addr} {μ μ' : Mu} {kq q d tl nl kd : Addr} {m : Machine} {ts : List Ty}
theorem KSt.sub (h : KSt CP CK μ kq q d tl nl kd m ts) (s : MSub μ μ') : KSt CP CK μ' kq q d tl nl kd m ts :=
  ⟨s _ _ h.obj, h.pair.sub s, s _ _ h.types, s _ _ h.needs, let ⟨κs, e, r⟩ := h.known; ⟨κs, s _ _ e, r⟩, h.ne1, h.ne2, h.ok, h.nd⟩
/-- after a search: the closed joints differ -/
theorem KSt.search (h : KSt CP CK μ kq q d tl nl kd m ts) (s : MBut d μ μ') (p : PairSt CP μ' q d m m) : KSt CP CK μ' kq q d tl nl kd m ts := by
  obtain ⟨kv, hd, _⟩ := h.pair.dct
  refine ⟨s _ _ (cellNe h.obj hd (by simp)) h.obj, p, s _ _ (cellNe h.types hd (by simp)) h.types, s _ _ (cellNe h.needs hd (by simp)) h.needs, ?_, h.ne1, h.ne2, h.ok, h.nd⟩
  obtain ⟨κs, e, r⟩ := h.known
  exact ⟨κs, s _ _ (Ne.symm h.ne2) e, r⟩
end
theorem getN_knS {m : Machine} (κ : Ty) : ∀ κs : List Ty, getN (knS m κs) (.tup (kT κ)) = if κ ∈ κs then some (.dat (.list (nD (needs m κ)))) else none
  | [] => rfl
  | σ :: κs => by
    show getN ((.tup (kT σ), _) :: knS m κs) _ = _
    rw [getN_cons]
    by_cases h : σ = κ
    · subst h
      rw [if_pos rfl, if_pos (by simp)]
    · rw [if_neg fun e => h (kT_inj e), getN_knS κ κs]
      by_cases k : κ ∈ κs
      · rw [if_pos k, if_pos (by simp [k])]
      · rw [if_neg k, if_neg (by simp [k, Ne.symm h])]
theorem putN_knS {m : Machine} {κ : Ty} {κs : List Ty} (h : κ ∉ κs) : putN (knS m κs) (.tup (kT κ)) (.dat (.list (nD (needs m κ)))) = knS m (κs ++ [κ]) := by
  unfold putN
  rw [getN_knS, if_neg h, if_neg (by simp)]
  unfold knS
  rw [List.map_append]; rfl
def tCode (m : Machine) (τ : Ty) : Nat := τ.1 * (m.regs + m.regs + 1) ^ m.regs + codeR (m.regs + m.regs + 1) τ.2
theorem TyG.codes {m : Machine} {τ : Ty} (o : TyG m τ) : ∀ x ∈ τ.2, code1 x < m.regs + m.regs + 1 := fun x hx => by
  cases x with
  | none => simp [code1]
  | some r =>
    have h1 := proper_lt o.ok.prop hx
    have h2 : many τ.2 ≤ τ.2.length := known_len τ.2
    have h3 := o.ok.len
    simp [code1]; omega
theorem tyCount {m : Machine} (po : PairOk m m) {l : List Ty} (nd : l.Nodup) (h : ∀ τ ∈ l, TyG m τ) : l.length ≤ 900000 := by
  have h1 : l.length ≤ m.steps.length * (m.regs + m.regs + 1) ^ m.regs := by
    refine nodup_bound (tCode m) _ l nd ?_ ?_
    · intro x hx y hy e
      have ox := h x hx
      have oy := h y hy
      have lx := codeR_lt ox.codes
      have ly := codeR_lt oy.codes
      rw [ox.ok.len] at lx
      rw [oy.ok.len] at ly
      obtain ⟨e1, e2⟩ := pair_inj lx ly e
      exact Prod.ext e1 (codeR_inj (ox.ok.len.trans oy.ok.len.symm) ox.codes oy.codes e2)
    · intro x hx
      have ox := h x hx
      have lx := codeR_lt ox.codes
      rw [ox.ok.len] at lx
      exact pair_lt ox.st lx
  have h2 := po.few
  unfold jB at h2
  have h3 : m.steps.length * (m.regs + m.regs + 1) ^ m.regs ≤ m.steps.length * m.steps.length * (m.regs + m.regs + 1) ^ (m.regs + m.regs) := by
    rw [Nat.mul_assoc]
    refine Nat.mul_le_mul_left _ ?_
    have a := po.o1.steps.1
    have b : (m.regs + m.regs + 1) ^ m.regs ≤ (m.regs + m.regs + 1) ^ (m.regs + m.regs) := Nat.pow_le_pow_right (by omega) (by omega)
    calc _ ≤ 1 * (m.regs + m.regs + 1) ^ (m.regs + m.regs) := by rw [Nat.one_mul]; exact b
      _ ≤ _ := Nat.mul_le_mul_right _ a
  omega
section
variable {P : Program} {w : World} {K : PySem.W.Frag} {mg : Str → Option Value} {base : Heap} {f : Addr} {fd : FuncData} {C CP CK : Addr}
def G_needs_of (CP CK : Addr) : Gs := fun rs μ P => ∃ (kq q d tl nl kd : Addr) (m : Machine) (ts : List Ty) (κ : Ty), rs = [.loc kq, .dat (encTy κ)] ∧ KSt CP CK μ kq q d tl nl kd m ts ∧ PairOk m m ∧ TyG m κ ∧
  ∀ μ', MBL [d, kd] μ μ' → KSt CP CK μ' kq q d tl nl kd m ts → P μ' (.dat (.list (nD (needs m κ))))
theorem sc_needs_of : FnScope ["self", "kind"] ["self", "kind"] (defScope s_Kinds_needs_of) := ⟨rfl, rfl, rfl, by decide +kernel, rfl, by decide +kernel, by decide +kernel⟩
theorem ok_needs_of (F : FD K "needs_of" "Kinds.needs_of" s_Kinds_needs_of f fd) (KC : KindC K CK) (cn : Fn P w K mg base 15 "needed_by" (G_needed_by CP)) : FnOk P w K mg base C8.CX0 16 f fd ["self", "kind"] (spOf P w K (G_needs_of CP CK)) := by
  refine ok_of F sc_needs_of (fun rs μ Po ⟨_, _, _, _, _, _, _, _, _, e, _⟩ => by rw [e]; rfl) fun cdv A outer s0 H E rs μ Po hr ⟨kq, q, d, tl, nl, kd, m, ts, κ, e, ks, po, oκ, hP⟩ => ?_
  subst e
  obtain ⟨κs, hkd, ndk, okk⟩ := ks.known
  refine w_cons <| w_if <| t_notInN hr.units <| e_var (i := 1) rfl <| e_fld KC.cls KC.known <| e_var (i := 0) rfl ⟨kq, _, .loc kd, rfl, ks.obj, rfl, kT κ, kd, knS m κs, by rw [data_kT], depth_kT κ, rfl, hkd, ?_⟩
  rw [getN_knS]
  by_cases hin : κ ∈ κs
  · rw [if_pos hin]
    refine ⟨fun h => ff h, fun _ => w_nil ?_⟩
    refine w_one <| w_ret <| e_getN hr.units <| e_fld KC.cls KC.known <| e_var (i := 0) rfl ⟨kq, _, .loc kd, rfl, ks.obj, rfl, e_var (i := 1) rfl ⟨kT κ, kd, knS m κs, _, rfl, by rw [data_kT], depth_kT κ, hkd, ?_, hP μ (MSub.refl μ).l ks⟩⟩
    rw [getN_knS, if_pos hin]
  · rw [if_neg hin]
    refine ⟨fun _ => ?_, fun h => ft h⟩
    refine w_one <| w_setN hr.units <| e_call cn hr <| a_cons <| e_fld KC.cls KC.pair <| e_var (i := 0) rfl ⟨kq, _, .loc q, rfl, ks.obj, rfl, a_cons <| e_var (i := 1) rfl <| a_nil ⟨q, d, κ, m, rfl, ks.pair, po, oκ, fun μ1 m1 p1 => ?_⟩⟩
    have ks1 := ks.search m1 p1
    have hkd1 : μ1 kd = some (.dct (knS m κs)) := m1 _ _ (Ne.symm ks.ne2) hkd
    have hc := tyCount po ndk okk
    refine e_fld KC.cls KC.known <| e_var (i := 0) rfl ⟨kq, _, .loc kd, rfl, ks1.obj, rfl, e_var (i := 1) rfl ⟨kd, kT κ, knS m κs, rfl, by rw [data_kT], depth_kT κ, hkd1, by unfold knS; rw [List.length_map]; omega, ?_⟩⟩
    rw [putN_knS hin]
    have mb : MBL [d, kd] μ (updM μ1 kd (.dct (knS m (κs ++ [κ])))) := (m1.l (by simp)).upd (by simp)
    have ks2 : KSt CP CK (updM μ1 kd (.dct (knS m (κs ++ [κ])))) kq q d tl nl kd m ts := by
      obtain ⟨kv, hd, hcl⟩ := ks1.pair.dct
      refine ⟨by rw [updM_ne (cellNe ks1.obj hkd1 (by simp))]; exact ks1.obj, ⟨by rw [updM_ne (cellNe ks1.pair.obj hkd1 (by simp))]; exact ks1.pair.obj, kv, by rw [updM_ne ks.ne2]; exact hd, hcl⟩, by rw [updM_ne (cellNe ks1.types hkd1 (by simp))]; exact ks1.types, by rw [updM_ne (cellNe ks1.needs hkd1 (by simp))]; exact ks1.needs, ⟨κs ++ [κ], updM_same, ?_, ?_⟩, ks.ne1, ks.ne2, ks.ok, ks.nd⟩
      · rw [List.nodup_append]
        exact ⟨ndk, by simp, fun a ha b hb e => by rw [List.mem_singleton] at hb; subst hb; subst e; exact hin ha⟩
      · intro σ hσ
        rcases List.mem_append.mp hσ with h | h
        · exact okk σ h
        · rw [List.mem_singleton.mp h]; exact oκ
    refine w_one <| w_ret <| e_getN hr.units <| e_fld KC.cls KC.known <| e_var (i := 0) rfl ⟨kq, _, .loc kd, rfl, ks2.obj, rfl, e_var (i := 1) rfl ⟨kT κ, kd, knS m (κs ++ [κ]), _, rfl, by rw [data_kT], depth_kT κ, updM_same, ?_, hP _ mb ks2⟩⟩
    rw [getN_knS, if_pos (by simp)]
/-! ### number -/
def G_number (CP CK : Addr) : Gs := fun rs μ P => ∃ (kq q d tl nl kd : Addr) (m : Machine) (ts : List Ty) (κ : Ty), rs = [.loc kq, .dat (encTy κ)] ∧ KSt CP CK μ kq q d tl nl kd m ts ∧ PairOk m m ∧ TyG m κ ∧
  ∀ μ', MBL [d, kd, tl, nl] μ μ' → KSt CP CK μ' kq q d tl nl kd m (numF m ts κ).2 → P μ' (.int (numF m ts κ).1)
theorem sc_number : FnScope ["self", "kind", "needs", "number", "known"] ["self", "kind"] (defScope s_Kinds_number) := ⟨rfl, rfl, rfl, by decide +kernel, rfl, by decide +kernel, by decide +kernel⟩
theorem numF_some {m : Machine} {ts : List Ty} {κ : Ty} {i : Nat} (h : ts.findIdx? (fun υ => kqB m υ κ) = some i) : numF m ts κ = (i, ts) := by
  unfold numF
  have : ts.findIdx? (fun υ => @decide (KEq m m υ κ) (Classical.propDecidable _)) = some i := h
  rw [this]
theorem numF_none {m : Machine} {ts : List Ty} {κ : Ty} (h : ts.findIdx? (fun υ => kqB m υ κ) = none) : numF m ts κ = (ts.length, ts ++ [κ]) := by
  unfold numF
  have : ts.findIdx? (fun υ => @decide (KEq m m υ κ) (Classical.propDecidable _)) = none := h
  rw [this]
theorem ok_number (F : FD K "number" "Kinds.number" s_Kinds_number f fd) (M : Md mg) (KC : KindC K CK) (cn : Me P w K mg base 16 CK "needs_of" (G_needs_of CP CK)) (co : Fn P w K mg base 15 "of_one_kind" (G_of_one_kind CP)) : FnOk P w K mg base C8.CX0 17 f fd ["self", "kind"] (spOf P w K (G_number CP CK)) := by
  refine ok_of F sc_number (fun rs μ Po ⟨_, _, _, _, _, _, _, _, _, e, _⟩ => by rw [e]; rfl) fun cdv A outer s0 H E rs μ Po hr ⟨kq, q, d, tl, nl, kd, m, ts, κ, e, ks, po, oκ, hP⟩ => ?_
  subst e
  refine w_cons <| w_set (i := 2) sc_number.nd <| e_meth cn hr <| e_var (i := 0) rfl ⟨kq, _, rfl, ks.obj, rfl, a_cons <| e_var (i := 1) rfl <| a_nil ⟨kq, q, d, tl, nl, kd, m, ts, κ, rfl, ks, po, oκ, fun μ1 m1 ks1 => ?_⟩⟩
  show WS _ [_, _, _, _, _] _ _ _
  refine w_cons <| w_for (g := gP [gN 3, gN 4]) (sl := [3, 4]) PassesOwn.never rfl (g_tup rfl (g_cons (g_name sc_number.nd) (g_cons (g_name sc_number.nd) g_nil))) <| i_enumL M.enum <| e_fld KC.cls KC.types <| e_var (i := 0) rfl ⟨kq, _, .loc tl, rfl, ks1.obj, rfl, tl, tyS ts, rfl, .inl ks1.types, ?_⟩
  refine ⟨fun i ρ μ' => ∃ (a b : Option SV), MBL [d, kd] μ μ' ∧ KSt CP CK μ' kq q d tl nl kd m ts ∧ (∀ j υ, j < i → ts[j]? = some υ → kqB m υ κ = false) ∧ ρ = [some (.loc kq), some (.dat (encTy κ)), some (.dat (.list (nD (needs m κ)))), a, b],
    ⟨_, _, m1, ks1, fun j υ h => by omega, rfl⟩, fun _ _ _ _ ⟨_, _, _, h, _⟩ => .inl h.types, ?_, ?_⟩
  · rintro i x ρ1 μ2 hi ⟨r, hr', rfl⟩ ⟨a, b, m2, ks2, hno, rfl⟩
    unfold tyS at hr'
    rw [List.getElem?_map] at hr'
    cases hk : ts[i]? with
    | none => rw [hk] at hr'; cases hr'
    | some υ =>
      rw [hk] at hr'
      cases hr'
      have oυ := ks.ok υ (List.mem_of_getElem? hk)
      refine ⟨_, rfl, rfl, ?_⟩
      show WS _ [_, _, _, _, _] _ _ _
      have hnd : atI (ndS m ts) (i : Int) = some (.dat (.list (nD (needs m υ)))) := at_map hk
      refine w_one <| w_if <| t_val <| e_call co hr (a_cons <| e_fld KC.cls KC.pair <| e_var (i := 0) rfl ⟨kq, _, .loc q, rfl, ks2.obj, rfl, a_cons <| e_var (i := 4) rfl <| a_cons <| WE.down <| e_ixL <| e_fld KC.cls KC.needs <| e_var (i := 0) rfl ⟨kq, _, .loc nl, rfl, ks2.obj, rfl, e_var (i := 3) rfl ⟨nl, ndS m ts, i, _, rfl, rfl, .inl ks2.needs, hnd, _, .tuple (nD (needs m υ)), rfl, dn_nD _, a_cons <| e_var (i := 1) rfl <| a_cons <| WE.down <| e_var (i := 2) rfl ⟨_, .tuple (nD (needs m κ)), rfl, dn_nD _, a_nil ⟨q, d, υ, κ, m, rfl, ks2.pair, po, oυ, oκ, fun μ3 m3 p3 => ⟨_, rfl, fun hT => ?_, fun hF => w_nil ?_⟩⟩⟩⟩⟩⟩) (by omega)
      · have ks3 := ks2.search m3 p3
        have en : numF m ts κ = (i, ts) := numF_some (findIdx_at (p := fun υ => kqB m υ κ) hk hT fun j x hj hx => hno j x hj hx)
        have := hP μ3 ((m2.mono (by simp)).trans (m3.l (by simp))) (by rw [en]; exact ks3)
        rw [en] at this
        exact w_one <| w_ret <| e_var (i := 3) rfl this
      · have ks3 := ks2.search m3 p3
        refine ⟨_, _, m2.trans (m3.l (by simp)), ks3, fun j x hj hx => ?_, rfl⟩
        by_cases e : j = i
        · subst e; rw [hk] at hx; cases hx; exact hF
        · exact hno j x (by omega) hx
  · rintro ρ1 μ2 ⟨a, b, m2, ks2, hno, rfl⟩
    have lt : (tyS ts).length = ts.length := by unfold tyS; rw [List.length_map]
    have ln : (ndS m ts).length = ts.length := by unfold ndS; rw [List.length_map]
    rw [lt] at hno
    have en : numF m ts κ = (ts.length, ts ++ [κ]) := numF_none (findIdx_no (p := fun υ => kqB m υ κ) fun j x hj hx => hno j x hj hx)
    have hc := tyCount po ks.nd ks.ok
    refine w_cons <| w_expr <| e_append <| e_fld KC.cls KC.types <| e_var (i := 0) rfl ⟨kq, _, .loc tl, rfl, ks2.obj, rfl, tl, rfl, ⟨_, ks2.types⟩, e_var (i := 1) rfl ⟨_, ks2.types, by rw [lt]; omega, ?_⟩⟩
    have o1 : updM μ2 tl (.lst (tyS ts ++ [.dat (encTy κ)])) kq = some (.obj CK (kindFs m q tl nl kd)) := by rw [updM_ne (cellNe ks2.obj ks2.types (by simp))]; exact ks2.obj
    have n1 : updM μ2 tl (.lst (tyS ts ++ [.dat (encTy κ)])) nl = some (.lst (ndS m ts)) := by rw [updM_ne (Ne.symm ks.ne1)]; exact ks2.needs
    refine w_cons <| w_expr <| e_append <| e_fld KC.cls KC.needs <| e_var (i := 0) rfl ⟨kq, _, .loc nl, rfl, o1, rfl, nl, rfl, ⟨_, n1⟩, e_var (i := 2) rfl ⟨_, n1, by rw [ln]; omega, ?_⟩⟩
    have e1 : tyS ts ++ [.dat (encTy κ)] = tyS (ts ++ [κ]) := by unfold tyS; rw [List.map_append]; rfl
    have e2 : ndS m ts ++ [.dat (.list (nD (needs m κ)))] = ndS m (ts ++ [κ]) := by unfold ndS; rw [List.map_append]; rfl
    rw [e1, e2]
    obtain ⟨kv, hd, hcl⟩ := ks2.pair.dct
    obtain ⟨κs, hkd, okk⟩ := ks2.known
    have keep : ∀ (a : Addr) (c : Cell), μ2 a = some c → c ≠ .lst (tyS ts) → c ≠ .lst (ndS m ts) → updM (updM μ2 tl (.lst (tyS (ts ++ [κ])))) nl (.lst (ndS m (ts ++ [κ]))) a = some c := fun a c h h1 h2 => by
      rw [updM_ne (cellNe h ks2.needs h2), updM_ne (cellNe h ks2.types h1)]; exact h
    have nκ : κ ∉ ts := fun h => by
      obtain ⟨j, hj⟩ := List.mem_iff_getElem?.mp h
      have := hno j κ (List.getElem?_eq_some_iff.mp hj).1 hj
      rw [kqB_t (KEq.refl po.o1.full oκ.ok)] at this
      cases this
    have ks3 : KSt CP CK (updM (updM μ2 tl (.lst (tyS (ts ++ [κ])))) nl (.lst (ndS m (ts ++ [κ])))) kq q d tl nl kd m (ts ++ [κ]) := by
      refine ⟨keep _ _ ks2.obj (by simp) (by simp), ⟨keep _ _ ks2.pair.obj (by simp) (by simp), kv, keep _ _ hd (by simp) (by simp), hcl⟩, by rw [updM_ne ks.ne1, updM_same], updM_same, ⟨κs, keep _ _ hkd (by simp) (by simp), okk⟩, ks.ne1, ks.ne2, ?_, ?_⟩
      · intro σ hσ
        rcases List.mem_append.mp hσ with h | h
        · exact ks.ok σ h
        · rw [List.mem_singleton.mp h]; exact oκ
      · rw [List.nodup_append]
        exact ⟨ks.nd, by simp, fun a ha b hb e => by rw [List.mem_singleton] at hb; subst hb; subst e; exact nκ ha⟩
    have := hP _ (((m2.mono (es := [d, kd, tl, nl]) (by simp)).upd (a := tl) (c := .lst (tyS (ts ++ [κ]))) (by simp)).upd (a := nl) (c := .lst (ndS m (ts ++ [κ]))) (by simp)) (by rw [en]; exact ks3)
    rw [en] at this
    refine w_one <| w_ret <| e_sub <| e_len M.len <| e_fld KC.cls KC.types <| e_var (i := 0) rfl ⟨kq, _, .loc tl, rfl, ks3.obj, rfl, .inr ⟨tl, _, rfl, .inl ks3.types, e_int ⟨_, _, rfl, rfl, ?_⟩⟩⟩
    have e3 : ((tyS (ts ++ [κ])).length : Int) - 1 = (ts.length : Int) := by unfold tyS; rw [List.length_map, List.length_append, List.length_singleton]; omega
    rw [e3]
    exact this
end
end AV
-- text W10
set_option Elab.async false
set_option linter.all false
set_option maxRecDepth 100000
set_option maxHeartbeats 4000000
namespace AV
open PySem L2 TH
section
variable {P : Program} {w : World} {K : PySem.W.Frag} {mg : Str → Option Value} {base : Heap} {f : Addr} {fd : FuncData} {C CP CK : Addr}
def G_step (CP CK : Addr) : Gs := fun rs μ P => ∃ (kq q d tl nl kd : Addr) (m : Machine) (ts : List Ty) (a t s : Nat) (τ : Ty), rs = [.loc kq, .int a, .int t, .int s] ∧ KSt CP CK μ kq q d tl nl kd m ts ∧ MOk m ∧ ts[a]? = some τ ∧ t < m.tags ∧ s < 2 * (needs m τ).length + 1 ∧
  Pu μ P (.tup [encCon (caseR m τ t s).1, encA (caseR m τ t s).2, .int (lowest (needs m τ) s)])
theorem sc_step : FnScope ["self", "number", "tag", "spot", "value", "content", "said"] ["self", "number", "tag", "spot"] (defScope s_Kinds_step) := ⟨rfl, rfl, rfl, by decide +kernel, rfl, by decide +kernel, by decide +kernel⟩
theorem conS_len {m : Machine} {τ : Ty} (o : TyG m τ) : (conS τ).2.length = m.regs := by unfold conS shown; rw [List.length_map]; exact o.ok.len
theorem ok_step (F : FD K "step" "Kinds.step" s_Kinds_step f fd) (KC : KindC K CK) (cl : Fn P w K mg base 1 "lowest_spot" G_lowest_spot) (cr : Fn P w K mg base 12 "read" G_read) (cc : Fn P w K mg base 1 "content_of" G_content_of) : FnOk P w K mg base C8.CX0 13 f fd ["self", "number", "tag", "spot"] (spOf P w K (G_step CP CK)) := by
  refine ok_of F sc_step (fun rs μ Po ⟨_, _, _, _, _, _, _, _, _, _, _, _, e, _⟩ => by rw [e]; rfl) fun cdv A outer s0 H E rs μ Po hr ⟨kq, q, d, tl, nl, kd, m, ts, a, t, s, τ, e, ks, om, ha, ht, hs, hP⟩ => ?_
  subst e
  have oτ := ks.ok τ (List.mem_of_getElem? ha)
  have hl := oτ.ok.len
  have hm := om.regs
  refine w_cons <| w_set (i := 4) sc_step.nd <| e_call cl hr (a_cons <| WE.down <| e_ixL <| e_fld KC.cls KC.needs <| e_var (i := 0) rfl ⟨kq, _, .loc nl, rfl, ks.obj, rfl, e_var (i := 1) rfl ⟨nl, ndS m ts, a, _, rfl, rfl, .inl ks.needs, at_map ha, _, .tuple (nD (needs m τ)), rfl, dn_nD _, a_cons <| e_var (i := 3) rfl <| a_nil ⟨needs m τ, s, rfl, hs, ?_⟩⟩⟩) (by omega)
  show WS _ [_, _, _, _, _, _, _] _ _ _
  refine w_cons <| w_unp (g := gP [gN 5, gN 6]) (sl := [5, 6]) (g_tup rfl (g_cons (g_name sc_step.nd) (g_cons (g_name sc_step.nd) g_nil))) <| e_call cr hr <| a_cons <| e_fld KC.cls KC.machine <| e_var (i := 0) rfl ⟨kq, _, .dat (encM m), rfl, ks.obj, rfl, a_cons <| e_call cc hr (a_cons <| e_ixL <| e_fld KC.cls KC.types <| e_var (i := 0) rfl ⟨kq, _, .loc tl, rfl, ks.obj, rfl, e_var (i := 1) rfl ⟨tl, tyS ts, a, _, rfl, rfl, .inl ks.types, at_map ha, a_nil ⟨τ, rfl, by omega, fun μ1 m1 => ?_⟩⟩⟩) (by omega)⟩
  refine a_cons <| e_tup <| a_cons <| e_var (i := 2) rfl <| a_cons <| e_var (i := 4) rfl <| a_nil ⟨[_, _], rfl, sz, a_nil ⟨m, conS τ, t, lowest (needs m τ) s, rfl, om, oτ.st, conS_len oτ, ht, fun μ2 m2 => ⟨_, rfl, rfl, ?_⟩⟩⟩
  show WS _ [_, _, _, _, _, _, _] _ _ _
  exact w_one <| w_ret <| e_tup <| a_cons <| e_var (i := 5) rfl <| a_cons <| e_var (i := 6) rfl <| a_cons <| e_var (i := 4) rfl <| a_nil ⟨[_, _, _], rfl, sz, hP μ2 (m1.trans m2)⟩
/-! ### source -/
def G_source (CP CK : Addr) : Gs := fun rs μ P => ∃ (kq q d tl nl kd : Addr) (m : Machine) (ts : List Ty) (a : Nat) (y : Option Int) (new : Int) (τ : Ty), rs = [.loc kq, .int a, .dat (encO y), .int new] ∧ KSt CP CK μ kq q d tl nl kd m ts ∧ ts[a]? = some τ ∧
  (∀ z, y = some z → z = new ∨ ∃ j ∈ needs m τ, z = 2 * (j : Int) + 1) ∧ P μ (.int (srcI (needs m τ) new y))
theorem sc_source : FnScope ["self", "number", "value", "new"] ["self", "number", "value", "new"] (defScope s_Kinds_source) := ⟨rfl, rfl, rfl, by decide +kernel, rfl, by decide +kernel, by decide +kernel⟩
theorem ok_source (F : FD K "source" "Kinds.source" s_Kinds_source f fd) (KC : KindC K CK) : FnOk P w K mg base C8.CX0 1 f fd ["self", "number", "value", "new"] (spOf P w K (G_source CP CK)) := by
  refine ok_of F sc_source (fun rs μ Po ⟨_, _, _, _, _, _, _, _, _, _, _, _, e, _⟩ => by rw [e]; rfl) fun cdv A outer s0 H E rs μ Po hr ⟨kq, q, d, tl, nl, kd, m, ts, a, y, new, τ, e, ks, ha, hy, hP⟩ => ?_
  subst e
  cases y with
  | none => exact w_cons <| w_if <| t_isN <| e_var (i := 2) rfl ⟨fun _ => w_one <| w_ret <| e_neg <| e_int ⟨_, rfl, hP⟩, fun h => ft h⟩
  | some z =>
    have hy := hy z rfl
    have hP : Po μ (.int (if z = new then -1 else ((needs m τ).idxOf (z / 2).toNat : Nat))) := hP
    refine w_cons <| w_if <| t_isN <| e_var (i := 2) rfl ⟨fun h => ff h, fun _ => w_nil ?_⟩
    refine w_cons <| w_if <| t_eqI <| e_var (i := 2) rfl <| e_var (i := 3) rfl ⟨z, new, rfl, rfl, fun h => ?_, fun h => w_nil ?_⟩
    · rw [if_pos (of_decide_eq_true h)] at hP
      exact w_one <| w_ret <| e_neg <| e_int ⟨_, rfl, hP⟩
    · have h := of_decide_eq_false h
      rw [if_neg h] at hP
      obtain ⟨j, hj, ez⟩ := hy.resolve_left h
      have e2 : z / 2 = (j : Int) := by omega
      rw [e2, Int.toNat_natCast] at hP
      have hnd : atI (ndS m ts) (a : Int) = some (.dat (.list (nD (needs m τ)))) := at_map ha
      rw [nD_encO] at hnd
      refine w_one <| w_ret <| e_tindex <| e_ixL <| e_fld KC.cls KC.needs <| e_var (i := 0) rfl ⟨kq, _, .loc nl, rfl, ks.obj, rfl, e_var (i := 1) rfl ⟨nl, ndS m ts, a, _, rfl, rfl, .inl ks.needs, hnd, _, rfl, e_fdiv <| e_var (i := 2) rfl <| e_int ⟨z, 2, rfl, rfl, ⟨by omega, by omega⟩, some (j : Int), (needs m τ).idxOf j, by rw [e2]; rfl, ?_, hP⟩⟩⟩
      obtain ⟨f1, f2⟩ := fst_idx hj
      refine ⟨by rw [List.getElem?_map, f1]; rfl, fun k hk e => ?_⟩
      rw [List.getElem?_map] at e
      cases h3 : (needs m τ)[k]? with
      | none => rw [h3] at e; cases e
      | some r =>
        rw [h3] at e
        have : (r : Int) = j := by simpa using e
        have : r = j := by omega
        subst this
        exact f2 k hk h3
/-! ### case -/
def encP (p : Piece) : PyData := .tuple [.tuple (p.1.map .int), .tuple (p.2.1.map encS), .int p.2.2]
def G_case (CP CK : Addr) : Gs := fun rs μ P => ∃ (kq q d tl nl kd : Addr) (m : Machine) (ts : List Ty) (a t s : Nat) (τ : Ty), rs = [.loc kq, .int a, .int t, .int s] ∧ KSt CP CK μ kq q d tl nl kd m ts ∧ PairOk m m ∧ ts[a]? = some τ ∧ t < m.tags ∧ s < 2 * (needs m τ).length + 1 ∧
  ∀ μ', MBL [d, kd, tl, nl] μ μ' → KSt CP CK μ' kq q d tl nl kd m (caseF m ts a t s).2 → P μ' (.dat (encP (caseF m ts a t s).1))
theorem sc_case : FnScope ["self", "number", "tag", "spot", "content", "said", "new", "kind", "behind", "moves", "rank", "value", "says", "told"] ["self", "number", "tag", "spot"] (defScope s_Kinds_case) := ⟨rfl, rfl, rfl, by decide +kernel, rfl, by decide +kernel, by decide +kernel⟩
theorem rank_at {h : Held Int} {r : Nat} {z : Int} (e : (known h)[r]? = some z) : ∃ i : Nat, Fst (ranks h) (some r) i ∧ h[i]? = some (some z) := by
  have hz : z ∈ known h := List.mem_of_getElem? e
  have hm : some z ∈ h := (mem_known h z).mp hz
  have hr : (known h).idxOf z = r := by
    obtain ⟨f1, f2⟩ := fst_idx hz
    by_cases c : (known h).idxOf z = r
    · exact c
    · have s := known_sorted h
      rcases Nat.lt_or_gt_of_ne c with c | c
      · have := sorted_lt s f1 e
        exact absurd (this.mp c) (by omega)
      · exact absurd e (f2 r c)
  have hmr : some r ∈ ranks h := by
    unfold ranks
    exact List.mem_map.mpr ⟨some z, hm, by rw [← hr]; rfl⟩
  obtain ⟨j, f1, f2⟩ : ∃ j, Fst (ranks h) (some r) j := ⟨_, fst_idx hmr⟩
  refine ⟨j, ⟨f1, f2⟩, ?_⟩
  have f0 := f1
  unfold ranks at f0
  rw [List.getElem?_map] at f0
  cases h4 : h[j]? with
  | none => rw [h4] at f0; cases f0
  | some o =>
    rw [h4] at f0
    cases o with
    | none => cases f0
    | some z' =>
      have e1 : (known h).idxOf z' = r := by simpa using f0
      have hz' : z' ∈ known h := (mem_known h z').mpr (List.mem_of_getElem? h4)
      have g := (fst_idx hz').1
      rw [e1, e] at g
      rw [Option.some.inj g]
theorem encN_map (rk : List (Option Nat)) : (rk.map (Option.map fun n : Nat => (n : Int))).map encO = rk.map encN := by
  rw [List.map_map]
  exact List.map_congr_left fun o _ => by cases o <;> rfl
theorem fst_map {α β : Type} {xs : List α} {x : α} {j : Nat} (g : α → β) (inj : ∀ a b, g a = g b → a = b) (h : Fst xs x j) : Fst (xs.map g) (g x) j := by
  obtain ⟨f1, f2⟩ := h
  refine ⟨by rw [List.getElem?_map, f1]; rfl, fun k hk e => ?_⟩
  rw [List.getElem?_map] at e
  cases h3 : xs[k]? with
  | none => rw [h3] at e; cases e
  | some r =>
    rw [h3] at e
    have := inj _ _ (Option.some.inj e)
    subst this
    exact f2 k hk h3
theorem ok_case (F : FD K "case" "Kinds.case" s_Kinds_case f fd) (M : Md mg) (KC : KindC K CK) (cst : Me P w K mg base 13 CK "step" (G_step CP CK)) (cty : Fn P w K mg base 2 "type_of" G_type_of) (cnu : Me P w K mg base 17 CK "number" (G_number CP CK)) (cno : Me P w K mg base 16 CK "needs_of" (G_needs_of CP CK)) (cso : Me P w K mg base 1 CK "source" (G_source CP CK)) : FnOk P w K mg base C8.CX0 18 f fd ["self", "number", "tag", "spot"] (spOf P w K (G_case CP CK)) := by
  refine ok_of F sc_case (fun rs μ Po ⟨_, _, _, _, _, _, _, _, _, _, _, _, e, _⟩ => by rw [e]; rfl) fun cdv A outer s0 H E rs μ Po hr ⟨kq, q, d, tl, nl, kd, m, ts, a, t, s, τ, e, ks, po, ha, ht, hs, hP⟩ => ?_
  subst e
  have om := po.o1
  have oτ := ks.ok τ (List.mem_of_getElem? ha)
  have hl := oτ.ok.len
  have hm := om.regs
  have eta : tyAt ts a = τ := by unfold tyAt; rw [ha]; rfl
  obtain ⟨pm1, pm2⟩ := piece_mem om.full oτ.ok ht hs
  have rst := read_st om oτ.st (conS_len oτ) ht (lowest (needs m τ) s)
  have hcr : readM m (conS τ) t (lowest (needs m τ) s) = caseR m τ t s := rfl
  rw [hcr] at rst
  have hP : ∀ μ', MBL [d, kd, tl, nl] μ μ' → KSt CP CK μ' kq q d tl nl kd m (numF m ts (kindR m τ t s)).2 → Po μ' (.dat (encP (movesR m τ t s, saysR m τ t s, (numF m ts (kindR m τ t s)).1))) := by
    intro μ' h1 h2
    have := hP μ' h1 (by unfold caseF; rw [eta]; exact h2)
    unfold caseF at this
    rw [eta] at this
    exact this
  have ekr : kindR m τ t s = ty (caseR m τ t s).1 := rfl
  generalize hcase : caseR m τ t s = R at *
  generalize hnew : lowest (needs m τ) s = new at *
  have oκ : TyG m (kindR m τ t s) := by
    rw [ekr]
    exact ⟨rst.1, ty_ok rst.2.1⟩
  have emv : movesR m τ t s = (needs m (kindR m τ t s)).map fun r => srcI (needs m τ) new ((known R.1.2)[r]?) := by unfold movesR; rw [hcase, hnew]
  have esy : saysR m τ t s = R.2.map fun p => (p.1, srcI (needs m τ) new p.2) := by unfold saysR; rw [hcase, hnew]
  generalize hκ : kindR m τ t s = κ at *
  refine w_cons <| w_unp (g := gP [gN 4, gN 5, gN 6]) (sl := [4, 5, 6]) (g_tup rfl (g_cons (g_name sc_case.nd) (g_cons (g_name sc_case.nd) (g_cons (g_name sc_case.nd) g_nil)))) <| e_meth cst hr <| e_var (i := 0) rfl ⟨kq, _, rfl, ks.obj, rfl, a_cons <| e_var (i := 1) rfl <| a_cons <| e_var (i := 2) rfl <| a_cons <| e_var (i := 3) rfl <| a_nil ⟨kq, q, d, tl, nl, kd, m, ts, a, t, s, τ, rfl, ks, om, ha, ht, by omega, fun μ1 m1 => ⟨_, rfl, rfl, ?_⟩⟩⟩
  rw [hcase, hnew]
  show WS _ [_, _, _, _, _, _, _, _, _, _, _, _, _, _] _ _ _
  refine w_cons <| w_set (i := 7) sc_case.nd <| e_call cty hr <| a_cons <| e_var (i := 4) rfl <| a_nil ⟨R.1, rfl, by rw [rst.2.1]; omega, fun μ2 m2 => ?_⟩
  rw [← ekr]
  show WS _ [_, _, _, _, _, _, _, _, _, _, _, _, _, _] _ _ _
  have ks2 := (ks.sub m1).sub m2
  refine w_cons <| w_set (i := 8) sc_case.nd <| e_meth cnu hr <| e_var (i := 0) rfl ⟨kq, _, rfl, ks2.obj, rfl, a_cons <| WE.down <| e_var (i := 7) rfl ⟨_, encTy κ, rfl, dn_ty κ, a_nil ⟨kq, q, d, tl, nl, kd, m, ts, κ, rfl, ks2, po, oκ, fun μ3 m3 ks3 => ?_⟩⟩⟩
  show WS _ [_, _, _, _, _, _, _, _, _, _, _, _, _, _] _ _ _
  generalize hN : numF m ts κ = N at *
  have ha3 : N.2[a]? = some τ := by
    rw [← hN]
    unfold numF
    split
    · exact ha
    · rw [List.getElem?_append_left (List.getElem?_eq_some_iff.mp ha).1]; exact ha
  have mb3 : MBL [d, kd, tl, nl] μ μ3 := ((m1.trans m2).l).trans m3
  refine w_cons <| w_set (i := 9) sc_case.nd <| e_lst <| a_nil ⟨sz, fun v hv => ?_⟩
  show WS _ [_, _, _, _, _, _, _, _, _, _, _, _, _, _] _ _ _
  have ks4 : KSt CP CK (updM μ3 v (.lst [])) kq q d tl nl kd m N.2 := ks3.sub (MSub.upd hv)
  obtain ⟨kv3, hd3, _⟩ := ks3.pair.dct
  obtain ⟨κs3, hkd3, _⟩ := ks3.known
  have vd : v ∉ [d, kd, tl, nl] := by
    intro h
    simp only [List.mem_cons, List.not_mem_nil, or_false] at h
    rcases h with e | e | e | e <;> subst e
    · rw [hd3] at hv; cases hv
    · rw [hkd3] at hv; cases hv
    · rw [ks3.types] at hv; cases hv
    · rw [ks3.needs] at hv; cases hv
  have vμ : ∀ b c, b ∉ [d, kd, tl, nl] → μ b = some c → b ≠ v := fun b c hb hc e => by
    subst e
    rw [mb3 b c hb hc] at hv; cases hv
  refine w_cons <| w_for (g := gN 10) (sl := [10]) PassesOwn.never rfl (g_name sc_case.nd) <| i_tup <| WE.down <| e_meth cno hr <| e_var (i := 0) rfl ⟨kq, _, rfl, ks4.obj, rfl, a_cons <| WE.down <| e_var (i := 7) rfl ⟨_, encTy κ, rfl, dn_ty κ, a_nil ⟨kq, q, d, tl, nl, kd, m, N.2, κ, rfl, ks4, po, oκ, fun μ5 m5 ks5 => ⟨_, .tuple (nD (needs m κ)), rfl, dn_nD _, nD (needs m κ), rfl, ?_⟩⟩⟩⟩
  have hv5 : μ5 v = some (.lst []) := m5 _ _ (fun h => vd (by simp only [List.mem_cons, List.not_mem_nil, or_false] at h ⊢; rcases h with h | h <;> simp [h])) updM_same
  have mb5 : MBL [d, kd, tl, nl] μ μ5 := fun b c hb hc => m5 b c (fun h => hb (by simp only [List.mem_cons, List.not_mem_nil, or_false] at h ⊢; rcases h with h | h <;> simp [h])) (by rw [updM_ne (vμ b c hb hc)]; exact mb3 b c hb hc)
  have putL : ∀ (μ6 : Mu) (c : Cell), KSt CP CK μ6 kq q d tl nl kd m N.2 → μ6 v = some c → (∃ xs, c = .lst xs) → ∀ ys, KSt CP CK (updM μ6 v (.lst ys)) kq q d tl nl kd m N.2 := fun μ6 c k hc ⟨xs, ex⟩ ys => by
    subst ex
    obtain ⟨kv, hd, hcl⟩ := k.pair.dct
    obtain ⟨κs, hkd, okk⟩ := k.known
    have nv : ∀ b ∈ [d, kd, tl, nl], b ≠ v := fun b hb e => vd (by rw [← e]; exact hb)
    exact ⟨by rw [updM_ne (cellNe k.obj hc (by simp))]; exact k.obj, ⟨by rw [updM_ne (cellNe k.pair.obj hc (by simp))]; exact k.pair.obj, kv, by rw [updM_ne (nv d (by simp))]; exact hd, hcl⟩, by rw [updM_ne (nv tl (by simp))]; exact k.types, by rw [updM_ne (nv nl (by simp))]; exact k.needs, ⟨κs, by rw [updM_ne (nv kd (by simp))]; exact hkd, okk⟩, k.ne1, k.ne2, k.ok, k.nd⟩
  refine ⟨fun i ρ μ' => ∃ (a1 a2 a3 a4 : Option SV), MBL [d, kd, tl, nl] μ μ' ∧ KSt CP CK μ' kq q d tl nl kd m N.2 ∧ μ' v = some (.lst ((((needs m κ).take i).map fun r => srcI (needs m τ) new ((known R.1.2)[r]?)).map SV.int)) ∧
      ρ = [some (.loc kq), some (.int a), some (.int t), some (.int s), some (.dat (encCon R.1)), some (.dat (encA R.2)), some (.int new), some (.dat (encTyN κ)), some (.int N.1), some (.loc v), a1, a2, a3, a4],
    ⟨_, _, _, _, mb5, ks5, hv5, rfl⟩, fun _ _ _ _ _ => trivial, ?_, ?_⟩
  · rintro i x ρ1 μ6 hi ⟨dd, hd, rfl⟩ ⟨a1, a2, a3, a4, mb6, ks6, hv6, rfl⟩
    unfold nD at hd
    rw [List.getElem?_map] at hd
    cases hk : (needs m κ)[i]? with
    | none => rw [hk] at hd; cases hd
    | some r =>
      rw [hk] at hd
      cases hd
      show WS _ [_, _, _, _, _, _, _, _, _, _, _, _, _, _] _ _ _
      obtain ⟨z, hz, hzz⟩ := pm2 r (List.mem_of_getElem? hk)
      obtain ⟨ix, hfst, hix⟩ := rank_at hz
      have hrk : κ.2 = ranks R.1.2 := by rw [ekr]; rfl
      refine w_cons <| w_set (i := 11) sc_case.nd <| e_ixT <| e_ixK <| e_var (i := 4) rfl ⟨_, encH R.1.2, rfl, rfl, e_tindex <| e_ixK <| e_var (i := 7) rfl ⟨_, .list (κ.2.map encN), rfl, rfl, κ.2.map (Option.map fun n : Nat => (n : Int)), by rw [encN_map], e_var (i := 10) rfl ⟨some (r : Int), ix, rfl, ?_, R.1.2.map encO, ix, encO (some z), rfl, rfl, at_map hix, ?_⟩⟩⟩
      · rw [hrk]
        exact fst_map (Option.map fun n : Nat => (n : Int)) (fun a b h => by cases a <;> cases b <;> simp at h ⊢; omega) hfst
      show WS _ [_, _, _, _, _, _, _, _, _, _, _, _, _, _] _ _ _
      refine w_one <| w_expr <| e_append <| e_var (i := 9) rfl ⟨v, rfl, ⟨_, hv6⟩, e_meth cso hr <| e_var (i := 0) rfl ⟨kq, _, rfl, ks6.obj, rfl, a_cons <| e_var (i := 1) rfl <| a_cons <| e_var (i := 11) rfl <| a_cons <| e_var (i := 6) rfl <| a_nil ⟨kq, q, d, tl, nl, kd, m, N.2, a, some z, new, τ, rfl, ks6, ha3, fun z' ez => by cases ez; exact hzz, _, hv6, ?_, ?_⟩⟩⟩
      · have : (needs m κ).length ≤ many κ.2 := by
          unfold needs
          have := List.length_filter_le (fun j => @decide (need1 m κ j) (Classical.propDecidable _)) (List.range (many κ.2))
          rw [List.length_range] at this
          exact this
        have h2 : many κ.2 ≤ κ.2.length := known_len κ.2
        have h3 := oκ.ok.len
        rw [List.length_map, List.length_map, List.length_take]; omega
      · refine ⟨_, _, _, _, fun b c hb hc => by rw [updM_ne (vμ b c hb hc)]; exact mb6 b c hb hc, putL μ6 _ ks6 hv6 ⟨_, rfl⟩ _, ?_, rfl⟩
        · rw [updM_same, List.take_add_one, hk, List.map_append, List.map_append]
          show some (Cell.lst (_ ++ [SV.int _])) = some (Cell.lst (_ ++ [SV.int (srcI (needs m τ) new ((known R.1.2)[r]?))]))
          rw [hz]
  · rintro ρ1 μ6 ⟨a1, a2, a3, a4, mb6, ks6, hv6, rfl⟩
    have lnD : (nD (needs m κ)).length = (needs m κ).length := by unfold nD; rw [List.length_map]
    rw [lnD, List.take_length, ← emv] at hv6
    show WS _ [_, _, _, _, _, _, _, _, _, _, _, _, _, _] _ _ _
    refine w_cons <| WLc.set (i := 12) <| l_mapS (g := gP [gN 13, gN 11]) (sl := [13, 11]) [("told", 13), ("value", 11)] (fun i => SV.dat ((R.2[i]?.map fun p => encS (p.1, srcI (needs m τ) new p.2)).getD .none)) rfl sc_case.nd (blkOk_by rfl) (by decide) (fun _ _ _ _ _ => (g_tup rfl (g_cons (g_name sc_case.nd) (g_cons (g_name sc_case.nd) g_nil)))) <| i_tup <| e_var (i := 5) rfl ⟨R.2.map encA1, rfl, ?_⟩
    refine ⟨by rw [List.length_map]; omega, fun _ _ => trivial, ?_, ?_⟩
    · rintro j x μ7 hj ⟨dd, hd, rfl⟩ m7
      rw [List.getElem?_map] at hd
      cases hk : R.2[j]? with
      | none => rw [hk] at hd; cases hd
      | some p =>
        rw [hk] at hd
        cases hd
        refine ⟨_, rfl, rfl, fun s1 H1 C1 cl1 fp1 => ?_⟩
        refine e_tup <| a_cons <| e_var (i := 13) rfl <| a_cons <| e_meth cso hr (e_var (i := 0) rfl ⟨kq, _, rfl, m7 _ _ ks6.obj, rfl, a_cons <| e_var (i := 1) rfl <| a_cons <| e_var (i := 11) rfl <| a_cons <| e_var (i := 6) rfl <| a_nil ⟨kq, q, d, tl, nl, kd, m, N.2, a, p.2, new, τ, rfl, ks6.sub m7, ha3, fun z ez => pm1 p.1 z (by rw [← ez]; exact List.mem_of_getElem? hk), a_nil ⟨[.int p.1, .int (srcI (needs m τ) new p.2)], rfl, sz, MSub.refl _, rfl⟩⟩⟩) (by omega)
    · intro μ7 m7 u hu
      show WS _ [_, _, _, _, _, _, _, _, _, _, _, _, _, _] _ _ _
      have m8 := m7.new (c := .lst ((List.range (R.2.map encA1).length).map fun i => SV.dat ((R.2[i]?.map fun p => encS (p.1, srcI (needs m τ) new p.2)).getD .none))) hu
      refine w_one <| w_ret <| e_tup <| a_cons <| e_tuple M.tuple <| e_var (i := 9) rfl ⟨v, (movesR m τ t s).map .int, rfl, .inl ?_, a_cons <| e_tuple M.tuple <| e_var (i := 12) rfl ⟨u, (saysR m τ t s).map encS, rfl, .inl ?_, a_cons <| e_var (i := 8) rfl <| a_nil ⟨[_, _, _], rfl, sz, ?_⟩⟩⟩
      · rw [m8 _ _ hv6, List.map_map]; rfl
      · rw [updM_same, List.length_map, esy, List.map_map, List.map_map]
        congr 2
        exact mapF R.2 _ _ fun i x hx => by rw [hx]; rfl
      · exact hP _ (mb6.trans m8.l) (ks6.sub m8)
end
end AV
-- text W11
set_option Elab.async false
set_option linter.all false
set_option maxRecDepth 100000
set_option maxHeartbeats 4000000
namespace AV
open PySem L2 TH
section
variable {P : Program} {w : World} {K : PySem.W.Frag} {mg : Str → Option Value} {base : Heap} {f : Addr} {fd : FuncData} {C CP CK : Addr}
def G_Kinds_init (CP CK : Addr) : Gs := fun rs μ P => ∃ (kq : Addr) (m : Machine), rs = [.loc kq, .dat (encM m)] ∧ μ kq = some (.obj CK []) ∧ ∀ μ' q d tl nl kd, MBut kq μ μ' → (∀ a ∈ [d, kd, tl, nl], μ a = none) → KSt CP CK μ' kq q d tl nl kd m [] → P μ' (.dat .none)
theorem sc_Kinds_init : FnScope ["self", "machine"] ["self", "machine"] (defScope s_Kinds_init) := ⟨rfl, rfl, rfl, by decide +kernel, rfl, by decide +kernel, by decide +kernel⟩
theorem ok_Kinds_init (F : FD K "__init__" "Kinds.__init__" s_Kinds_init f fd) (KC : KindC K CK) (cp : Mk' P w K mg base 1 "Pair" CP (G_Pair_init CP)) : FnOk P w K mg base C8.CX0 3 f fd ["self", "machine"] (spOf P w K (G_Kinds_init CP CK)) := by
  refine ok_of F sc_Kinds_init (fun rs μ Po ⟨_, _, e, _⟩ => by rw [e]; rfl) fun cdv A outer s0 H E rs μ Po hr ⟨kq, m, e, hk, hP⟩ => ?_
  subst e
  refine w_cons <| w_fld KC.cls KC.machine <| e_var (i := 1) rfl <| e_var (i := 0) rfl ⟨kq, [], rfl, hk, by decide, ?_⟩
  refine w_cons <| w_fld KC.cls KC.pair <| e_make cp hr <| a_cons <| e_var (i := 1) rfl <| a_cons <| e_var (i := 1) rfl <| a_nil fun q hq => ⟨q, m, m, rfl, updM_same, fun d hdq hd => ⟨rfl, ?_⟩⟩
  rw [updM_ne hdq] at hd
  have hk0 : updM μ kq (.obj CK (putS "machine" (.dat (encM m)) [])) kq = some (.obj CK [("machine", .dat (encM m))]) := by rw [updM_same]; rfl
  generalize hμ0 : updM μ kq (.obj CK (putS "machine" (.dat (encM m)) [])) = μ0 at *
  have kne : ∀ a, μ0 a = none → a ≠ kq := fun a h e => by rw [e, hk0] at h; cases h
  have mb0 : MBut kq μ μ0 := by rw [← hμ0]; exact fun a c n e => by rw [updM_ne n]; exact e
  have hm1 : MSub μ0 (updM (updM (updM μ0 q (.obj CP [])) d (.dct [])) q (.obj CP (pairFs m m d))) := ((MSub.refl μ0).fresh (c := .obj CP []) hq |>.fresh (c := .dct []) hd).fresh hq
  have hq1 : updM (updM (updM μ0 q (.obj CP [])) d (.dct [])) q (.obj CP (pairFs m m d)) q = some (.obj CP (pairFs m m d)) := updM_same
  have hd1 : updM (updM (updM μ0 q (.obj CP [])) d (.dct [])) q (.obj CP (pairFs m m d)) d = some (.dct []) := by rw [updM_ne hdq, updM_same]
  generalize updM (updM (updM μ0 q (.obj CP [])) d (.dct [])) q (.obj CP (pairFs m m d)) = μ1 at *
  refine e_var (i := 0) rfl ⟨kq, [("machine", .dat (encM m))], rfl, hm1 _ _ hk0, by simp, ?_⟩
  refine w_cons <| w_fld KC.cls KC.types <| e_lst <| a_nil ⟨sz, fun tl htl => ?_⟩
  have tk : tl ≠ kq := fun e => by rw [e, updM_same] at htl; cases htl
  have htl1 : μ1 tl = none := by rw [updM_ne tk] at htl; exact htl
  refine e_var (i := 0) rfl ⟨kq, [("machine", .dat (encM m)), ("pair", .loc q)], rfl, by rw [updM_ne (Ne.symm tk), updM_same]; rfl, by simp, ?_⟩
  refine w_cons <| w_fld KC.cls KC.needs <| e_lst <| a_nil ⟨sz, fun nl hnl => ?_⟩
  have nk : nl ≠ kq := fun e => by rw [e, updM_same] at hnl; cases hnl
  have hnt : nl ≠ tl := fun e => by rw [e, updM_ne tk, updM_same] at hnl; cases hnl
  have hnl1 : μ1 nl = none := by rw [updM_ne nk, updM_ne hnt, updM_ne nk] at hnl; exact hnl
  refine e_var (i := 0) rfl ⟨kq, [("machine", .dat (encM m)), ("pair", .loc q), ("types", .loc tl)], rfl, by rw [updM_ne (Ne.symm nk), updM_same]; rfl, by simp, ?_⟩
  refine w_one <| w_fld KC.cls KC.known <| e_newN fun kd hkd => ?_
  have kk : kd ≠ kq := fun e => by rw [e, updM_same] at hkd; cases hkd
  have hkn : kd ≠ nl := fun e => by rw [e, updM_ne nk, updM_same] at hkd; cases hkd
  have hkt : kd ≠ tl := fun e => by rw [e, updM_ne tk, updM_ne (Ne.symm hnt), updM_ne tk, updM_same] at hkd; cases hkd
  have hkd1 : μ1 kd = none := by rw [updM_ne kk, updM_ne hkn, updM_ne kk, updM_ne hkt, updM_ne kk] at hkd; exact hkd
  refine e_var (i := 0) rfl ⟨kq, [("machine", .dat (encM m)), ("pair", .loc q), ("types", .loc tl), ("needs", .loc nl)], rfl, by rw [updM_ne (Ne.symm kk), updM_same]; rfl, by simp, ?_⟩
  have keep : ∀ a c, a ≠ kq → μ1 a = some c → updM (updM (updM (updM (updM (updM (updM μ1 kq (.obj CK (putS "pair" (.loc q) [("machine", .dat (encM m))]))) tl (.lst [])) kq (.obj CK (putS "types" (.loc tl) [("machine", .dat (encM m)), ("pair", .loc q)]))) nl (.lst [])) kq (.obj CK (putS "needs" (.loc nl) [("machine", .dat (encM m)), ("pair", .loc q), ("types", .loc tl)]))) kd (.dct [])) kq (.obj CK (putS "known" (.loc kd) [("machine", .dat (encM m)), ("pair", .loc q), ("types", .loc tl), ("needs", .loc nl)])) a = some c := fun a c n e => by
    rw [updM_ne n, updM_ne (neM e hkd1), updM_ne n, updM_ne (neM e hnl1), updM_ne n, updM_ne (neM e htl1), updM_ne n]; exact e
  refine hP _ q d tl nl kd (mb0.trans fun a c n e => keep a c n (hm1 _ _ e)) ?_ ⟨by rw [updM_same]; rfl, ⟨keep _ _ (kne q hq) hq1, [], keep _ _ (kne d hd) hd1, [], rfl, List.nodup_nil, fun J hJ => by cases hJ⟩, ?_, ?_, ⟨[], ?_, List.nodup_nil, fun J hJ => by cases hJ⟩, Ne.symm hnt, neM hd1 hkd1, (fun τ h => by cases h), List.nodup_nil⟩
  · have up : ∀ a, a ≠ kq → μ0 a = none → μ a = none := fun a n h => by
      cases z : μ a with
      | none => rfl
      | some c => rw [mb0 a c n z] at h; cases h
    have u1 : ∀ a, μ1 a = none → μ0 a = none := fun a h => by
      cases z : μ0 a with
      | none => rfl
      | some c => rw [hm1 a c z] at h; cases h
    intro a ha
    simp only [List.mem_cons, List.not_mem_nil, or_false] at ha
    rcases ha with e | e | e | e <;> subst e
    · exact up _ (kne _ hd) hd
    · exact up _ kk (u1 _ hkd1)
    · exact up _ tk (u1 _ htl1)
    · exact up _ nk (u1 _ hnl1)
  · rw [updM_ne tk, updM_ne (Ne.symm hkt), updM_ne tk, updM_ne (Ne.symm hnt), updM_ne tk, updM_same]; rfl
  · rw [updM_ne nk, updM_ne (Ne.symm hkn), updM_ne nk, updM_same]; rfl
  · rw [updM_ne kk, updM_same]; rfl
/-! ### lists of lists -/
def rmL (ds : List Addr) (μ : Mu) : Mu := fun a => if a ∈ ds then none else μ a
theorem rmL_get {ds : List Addr} {μ : Mu} {a : Addr} (h : a ∉ ds) : rmL ds μ a = μ a := by unfold rmL; rw [if_neg h]
theorem rmL_some {ds : List Addr} {μ : Mu} {a : Addr} {c : Cell} (h : rmL ds μ a = some c) : a ∉ ds ∧ μ a = some c := by
  unfold rmL at h
  split at h
  · cases h
  · exact ⟨by assumption, h⟩
theorem MBL.rm {ds : List Addr} {μ μ' : Mu} (h : MBL ds μ μ') : MSub (rmL ds μ) (rmL ds μ') := fun a c e => by
  obtain ⟨n, e⟩ := rmL_some e
  rw [rmL_get n]; exact h a c n e
def RowR (μ : Mu) (v : SV) (ps : List Piece) : Prop := ∃ a, v = .loc a ∧ μ a = some (.lst (ps.map fun p => .dat (encP p)))
def RowsR (μ : Mu) (v : SV) (rows : List (List Piece)) : Prop := ∃ a ys, v = .loc a ∧ μ a = some (.lst ys) ∧ All2 (RowR μ) ys rows
theorem RowR.sub {μ μ' : Mu} {v : SV} {ps : List Piece} (h : RowR μ v ps) (s : MSub μ μ') : RowR μ' v ps := let ⟨a, e, k⟩ := h; ⟨a, e, s _ _ k⟩
theorem RowsR.sub {μ μ' : Mu} {v : SV} {rows : List (List Piece)} (h : RowsR μ v rows) (s : MSub μ μ') : RowsR μ' v rows := let ⟨a, ys, e, k, r⟩ := h; ⟨a, ys, e, s _ _ k, r.mono fun _ _ x => x.sub s⟩
theorem All2.snoc {α β : Type} {R : α → β → Prop} {as : List α} {bs : List β} {a : α} {b : β} (h : All2 R as bs) (r : R a b) : All2 R (as ++ [a]) (bs ++ [b]) := h.app (.cons r .nil)
theorem KSt.rm {μ : Mu} {kq q d tl nl kd D : Addr} {m : Machine} {ts : List Ty} (h : KSt CP CK μ kq q d tl nl kd m ts) (n : D ∉ [kq, q, d, tl, nl, kd]) : KSt CP CK (rmM μ D) kq q d tl nl kd m ts := by
  obtain ⟨kv, hd, hcl⟩ := h.pair.dct
  obtain ⟨κs, hk, okk⟩ := h.known
  simp only [List.mem_cons, List.not_mem_nil, or_false, not_or] at n
  have g : ∀ a, D ≠ a → rmM μ D a = μ a := fun a h => by unfold rmM; rw [if_neg (Ne.symm h)]
  exact ⟨by rw [g _ n.1]; exact h.obj, ⟨by rw [g _ n.2.1]; exact h.pair.obj, kv, by rw [g _ n.2.2.1]; exact hd, hcl⟩, by rw [g _ n.2.2.2.1]; exact h.types, by rw [g _ n.2.2.2.2.1]; exact h.needs, ⟨κs, by rw [g _ n.2.2.2.2.2]; exact hk, okk⟩, h.ne1, h.ne2, h.ok, h.nd⟩
theorem KSt.notIn {μ : Mu} {kq q d tl nl kd D : Addr} {m : Machine} {ts : List Ty} (h : KSt CP CK μ kq q d tl nl kd m ts) (n : μ D = none) : D ∉ [kq, q, d, tl, nl, kd] := by
  obtain ⟨kv, hd, hcl⟩ := h.pair.dct
  obtain ⟨κs, hk, okk⟩ := h.known
  intro e
  simp only [List.mem_cons, List.not_mem_nil, or_false] at e
  rcases e with e | e | e | e | e | e <;> subst e
  · rw [h.obj] at n; cases n
  · rw [h.pair.obj] at n; cases n
  · rw [hd] at n; cases n
  · rw [h.types] at n; cases n
  · rw [h.needs] at n; cases n
  · rw [hk] at n; cases n
theorem KSt.put {μ : Mu} {kq q d tl nl kd D : Addr} {m : Machine} {ts : List Ty} {c : Cell} (h : KSt CP CK μ kq q d tl nl kd m ts) (n : D ∉ [kq, q, d, tl, nl, kd]) : KSt CP CK (updM μ D c) kq q d tl nl kd m ts := by
  obtain ⟨kv, hd, hcl⟩ := h.pair.dct
  obtain ⟨κs, hk, okk⟩ := h.known
  simp only [List.mem_cons, List.not_mem_nil, or_false, not_or] at n
  have g : ∀ a, D ≠ a → updM μ D c a = μ a := fun a h => updM_ne (Ne.symm h)
  exact ⟨by rw [g _ n.1]; exact h.obj, ⟨by rw [g _ n.2.1]; exact h.pair.obj, kv, by rw [g _ n.2.2.1]; exact hd, hcl⟩, by rw [g _ n.2.2.2.1]; exact h.types, by rw [g _ n.2.2.2.2.1]; exact h.needs, ⟨κs, by rw [g _ n.2.2.2.2.2]; exact hk, okk⟩, h.ne1, h.ne2, h.ok, h.nd⟩
/-! ### found_kinds -/
theorem numF_at {m : Machine} {ts : List Ty} {κ τ : Ty} {a : Nat} (h : ts[a]? = some τ) : (numF m ts κ).2[a]? = some τ := by
  unfold numF
  split
  · exact h
  · rw [List.getElem?_append_left (List.getElem?_eq_some_iff.mp h).1]; exact h
theorem caseF_at {m : Machine} {ts : List Ty} {τ : Ty} {a b t s : Nat} (h : ts[a]? = some τ) : (caseF m ts b t s).2[a]? = some τ := numF_at h
theorem rowF_succ (m : Machine) (ts : List Ty) (a t k : Nat) : rowF m ts a t (k + 1) = spotF m a t (rowF m ts a t k) k := by unfold rowF; rw [List.range_succ, List.foldl_append]; rfl
theorem rowF_at {m : Machine} {ts : List Ty} {τ : Ty} {a b t : Nat} (h : ts[a]? = some τ) : ∀ k, (rowF m ts b t k).1[a]? = some τ
  | 0 => h
  | k + 1 => by rw [rowF_succ]; exact caseF_at (rowF_at h k)
theorem rowsF_succ (m : Machine) (ts : List Ty) (a k T : Nat) : rowsF m ts a k (T + 1) = tagF m a k (rowsF m ts a k T) T := by unfold rowsF; rw [List.range_succ, List.foldl_append]; rfl
theorem rowsF_at {m : Machine} {ts : List Ty} {τ : Ty} {a b k : Nat} (h : ts[a]? = some τ) : ∀ T, (rowsF m ts b k T).1[a]? = some τ
  | 0 => h
  | T + 1 => by rw [rowsF_succ]; exact rowF_at (rowsF_at h T) k
theorem rowF_len (m : Machine) (ts : List Ty) (a t : Nat) : ∀ k, (rowF m ts a t k).2.length = k
  | 0 => rfl
  | k + 1 => by rw [rowF_succ]; show (_ ++ [_]).length = _; rw [List.length_append, rowF_len m ts a t k]; rfl
theorem rowsF_len (m : Machine) (ts : List Ty) (a k : Nat) : ∀ T, (rowsF m ts a k T).2.length = T
  | 0 => rfl
  | T + 1 => by rw [rowsF_succ]; show (_ ++ [_]).length = _; rw [List.length_append, rowsF_len m ts a k T]; rfl
structure Found (CP CK : Addr) (μ : Mu) (kq sl : Addr) (m : Machine) (S : TH.St) : Prop where
  st : ∃ q d tl nl kd ys, KSt CP CK μ kq q d tl nl kd m S.1 ∧ μ sl = some (.lst ys) ∧ All2 (RowsR (rmL [d, kd, tl, nl, kq, sl] μ)) ys S.2
def G_found_kinds (CP CK : Addr) : Gs := fun rs μ P => ∃ (m : Machine), rs = [.dat (encM m)] ∧ PairOk m m ∧ ∀ μ' r kq sl n, MSub μ μ' → μ' r = some (.tpc [.loc kq, .loc sl]) → Done (runK m n) → Found CP CK μ' kq sl m (runK m n) → P μ' (.loc r)
theorem sc_found_kinds : FnScope ["machine", "kinds", "steps", "at", "spots", "rows", "tag", "spot"] ["machine"] (defScope s_found_kinds) := ⟨rfl, rfl, rfl, by decide +kernel, rfl, by decide +kernel, by decide +kernel⟩
theorem MSub.mbl {μ μ1 μ2 : Mu} {ds : List Addr} (h : MSub μ μ1) (k : MBL ds μ1 μ2) (f : ∀ a ∈ ds, μ a = none) : MSub μ μ2 := fun a c e => k a c (fun z => by rw [f a z] at e; cases e) (h a c e)
theorem fresh_back {μ μ1 : Mu} {a : Addr} (h : MSub μ μ1) (e : μ1 a = none) : μ a = none := by
  cases z : μ a with
  | none => rfl
  | some c => rw [h a c z] at e; cases e
theorem needs_le {m : Machine} {τ : Ty} (o : TyG m τ) : (needs m τ).length ≤ m.regs := by
  have h1 : (needs m τ).length ≤ many τ.2 := by
    unfold needs
    have := List.length_filter_le (fun j => @decide (need1 m τ j) (Classical.propDecidable _)) (List.range (many τ.2))
    rw [List.length_range] at this
    exact this
  have h2 : many τ.2 ≤ τ.2.length := known_len τ.2
  have h3 := o.ok.len
  omega
theorem ok_found_kinds (F : FD K "found_kinds" "found_kinds" s_found_kinds f fd) (M : Md mg) (KC : KindC K CK) (ck : Mk' P w K mg base 3 "Kinds" CK (G_Kinds_init CP CK)) (cb : Fn P w K mg base 1 "beginning" G_beginning) (cty : Fn P w K mg base 2 "type_of" G_type_of)
    (cnu : Me P w K mg base 17 CK "number" (G_number CP CK)) (cca : Me P w K mg base 18 CK "case" (G_case CP CK)) : FnOk P w K mg base C8.CX0 19 f fd ["machine"] (spOf P w K (G_found_kinds CP CK)) := by
  refine ok_of F sc_found_kinds (fun rs μ Po ⟨_, e, _⟩ => by rw [e]; rfl) fun cdv A outer s0 H E rs μ Po hr ⟨m, e, po, hP⟩ => ?_
  subst e
  have om := po.o1
  have hm := om.regs
  obtain ⟨b1, b2⟩ := begin_ok om
  have o0 : TyG m (ty0 m) := ⟨b1, ty_ok b2⟩
  refine w_cons <| w_set (i := 1) sc_found_kinds.nd <| e_make ck hr <| a_cons <| e_var (i := 0) rfl <| a_nil fun kq hk => ⟨kq, m, rfl, updM_same, fun μ1 q d tl nl kd mb1 fr1 ks1 => ⟨rfl, ?_⟩⟩
  have m1 : MSub μ μ1 := fun a c e => mb1 a c (neM e hk) (by rw [updM_ne (neM e hk)]; exact e)
  have frD : ∀ a ∈ [d, kd, tl, nl], μ a = none := fun a ha => by
    have h := fr1 a ha
    by_cases e : a = kq
    · rw [e]; exact hk
    · rw [updM_ne e] at h; exact h
  show WS _ [_, _, _, _, _, _, _, _] _ _ _
  refine w_cons <| w_expr <| e_meth cnu hr <| e_var (i := 1) rfl ⟨kq, _, rfl, ks1.obj, rfl, a_cons <| WE.down <| e_call cty hr <| a_cons <| e_call cb hr <| a_cons <| e_var (i := 0) rfl <| a_nil ⟨m, rfl, by omega, fun μ2 m2 => a_nil ⟨begin m, rfl, by rw [b2]; omega, fun μ3 m3 => ⟨_, encTy (ty0 m), rfl, dn_ty _, a_nil ⟨kq, q, d, tl, nl, kd, m, [], ty0 m, rfl, (ks1.sub m2).sub m3, po, o0, fun μ4 m4 ks4 => ?_⟩⟩⟩⟩⟩
  have en0 : (numF m [] (ty0 m)).2 = [ty0 m] := by rw [numF_none (by rfl)]; rfl
  rw [en0] at ks4
  have ms4 : MSub μ μ4 := ((m1.trans m2).trans m3).mbl m4 frD
  refine w_cons <| w_set (i := 2) sc_found_kinds.nd <| e_lst <| a_nil ⟨sz, fun sl hsl => ?_⟩
  show WS _ [_, _, _, _, _, _, _, _] _ _ _
  have nsl := ks4.notIn hsl
  have hsμ : μ sl = none := fresh_back ms4 hsl
  have slD : sl ∉ [d, kd, tl, nl] := fun h => nsl (by simp only [List.mem_cons, List.not_mem_nil, or_false] at h ⊢; rcases h with h | h | h | h <;> simp [h])
  refine w_cons <| w_while PassesOwn.never (fun k ρ μ' => ∃ (n : Nat) (ys : List SV) (a b c e1 e2 : Option SV), k = 900001 - (runK m n).2.length ∧ MSub μ μ' ∧ KSt CP CK μ' kq q d tl nl kd m (runK m n).1 ∧ μ' sl = some (.lst ys) ∧ All2 (RowsR (rmL [d, kd, tl, nl, kq, sl] μ')) ys (runK m n).2 ∧
      ρ = [some (.dat (encM m)), some (.loc kq), some (.loc sl), a, b, c, e1, e2]) 900001 ⟨0, [], _, _, _, _, _, rfl, ms4.new hsl, ks4.put nsl, updM_same, .nil, rfl⟩ fun k ρ1 μ5 hj => ?_
  obtain ⟨n, ys, a, b, c, e1, e2, rfl, ms5, ks5, hsl5, al5, rfl⟩ := hj
  have so := run_ok om.full n
  have hle := so.le
  have hct := tyCount po ks5.nd ks5.ok
  have ly : ys.length = (runK m n).2.length := al5.len
  refine t_lt <| e_len M.len <| e_var (i := 2) rfl <| .inr ⟨sl, ys, rfl, .inl hsl5, e_len M.len <| e_fld KC.cls KC.types <| e_var (i := 1) rfl ⟨kq, _, .loc tl, rfl, ks5.obj, rfl, .inr ⟨tl, _, rfl, .inl ks5.types, _, _, rfl, rfl, fun hlt => ?_, fun hge => ?_⟩⟩⟩
  · have lt : (tyS (runK m n).1).length = (runK m n).1.length := by unfold tyS; rw [List.length_map]
    have hlt : (runK m n).2.length < (runK m n).1.length := by
      have := of_decide_eq_true hlt
      rw [lt, ly] at this
      omega
    have eS : runK m (n + 1) = kindF m (runK m n) := by
      show (if (runK m n).2.length < (runK m n).1.length then kindF m (runK m n) else runK m n) = _
      rw [if_pos hlt]
    generalize hS : runK m n = S at *
    have hτ : S.1[S.2.length]? = some S.1[S.2.length] := List.getElem?_eq_getElem hlt
    generalize hτe : S.1[S.2.length] = τ at hτ
    have oτ := ks5.ok τ (List.mem_of_getElem? hτ)
    have hnl := needs_le oτ
    have esp : spots m S.1 S.2.length = 2 * (needs m τ).length + 1 := by unfold spots tyAt; rw [hτ]; rfl
    refine w_cons <| w_set (i := 3) sc_found_kinds.nd <| e_len M.len <| e_var (i := 2) rfl <| .inr ⟨sl, ys, rfl, .inl hsl5, ?_⟩
    rw [ly]
    show WS _ [_, _, _, _, _, _, _, _] _ _ _
    refine w_cons <| w_set (i := 4) sc_found_kinds.nd <| e_add <| e_mul <| e_int <| e_len M.len <| WE.down <| e_ixL <| e_fld KC.cls KC.needs <| e_var (i := 1) rfl ⟨kq, _, .loc nl, rfl, ks5.obj, rfl, e_var (i := 3) rfl ⟨nl, ndS m S.1, S.2.length, _, rfl, rfl, .inl ks5.needs, at_map hτ, _, .tuple (nD (needs m τ)), rfl, dn_nD _, .inl ⟨_, rfl, 2, _, rfl, rfl, .inl (by omega), e_int ⟨_, _, rfl, rfl, ?_⟩⟩⟩⟩
    have e5 : (2 * ((nD (needs m τ)).length : Int) + 1) = ((2 * (needs m τ).length + 1 : Nat) : Int) := by unfold nD; rw [List.length_map]; omega
    rw [e5]
    refine w_cons <| w_set (i := 5) sc_found_kinds.nd <| e_lst <| a_nil ⟨sz, fun rl hrl => ?_⟩
    show WS _ [_, _, _, _, _, _, _, _] _ _ _
    have nrl := ks5.notIn hrl
    have hrμ : μ rl = none := fresh_back ms5 hrl
    have rs : rl ≠ sl := fun e => by rw [e, hsl5] at hrl; cases hrl
    have rlD : rl ∉ [d, kd, tl, nl] := fun h => nrl (by simp only [List.mem_cons, List.not_mem_nil, or_false] at h ⊢; rcases h with h | h | h | h <;> simp [h])
    have rlE : rl ∉ [d, kd, tl, nl, kq, sl] := fun h => by
      simp only [List.mem_cons, List.not_mem_nil, or_false] at h
      rcases h with h | h | h | h | h | h
      · exact rlD (by simp [h])
      · exact rlD (by simp [h])
      · exact rlD (by simp [h])
      · exact rlD (by simp [h])
      · exact nrl (by simp [h])
      · exact rs h
    have mt := om.tags
    refine w_cons <| w_for (g := gN 6) (sl := [6]) PassesOwn.never rfl (g_name sc_found_kinds.nd) <| i_range M.range <| e_ixK <| e_var (i := 0) rfl ⟨_, .int m.tags, rfl, rfl, (m.tags : Int), rfl, by omega, by omega, ?_⟩
    refine ⟨fun tg ρ μ' => ∃ (zs : List SV) (a b : Option SV), MSub μ μ' ∧ MSub (rmL [d, kd, tl, nl, kq, sl] μ5) (rmL [d, kd, tl, nl, kq, sl] μ') ∧ KSt CP CK μ' kq q d tl nl kd m (rowsF m S.1 S.2.length (spots m S.1 S.2.length) tg).1 ∧ μ' sl = some (.lst ys) ∧ μ' rl = some (.lst zs) ∧
        All2 (RowR (rmL [d, kd, tl, nl, kq, sl, rl] μ')) zs (rowsF m S.1 S.2.length (spots m S.1 S.2.length) tg).2 ∧
        ρ = [some (.dat (encM m)), some (.loc kq), some (.loc sl), some (.int (S.2.length : Nat)), some (.int ((2 * (needs m τ).length + 1 : Nat) : Int)), some (.loc rl), a, b],
      ⟨[], _, _, ms5.new hrl, fun a c e => by
        obtain ⟨n1, e⟩ := rmL_some e
        rw [rmL_get n1, updM_ne (neM e hrl)]; exact e, ks5.put nrl, by rw [updM_ne (Ne.symm rs)]; exact hsl5, updM_same, .nil, rfl⟩, fun _ _ _ _ _ => trivial, ?_, ?_⟩
    · rintro tg x ρ2 μ6 htg rfl ⟨zs, a, b, ms6, sub6, ks6, hsl6, hrl6, al6, rfl⟩
      have htg : tg < m.tags := by omega
      show WS _ [_, _, _, _, _, _, _, _] _ _ _
      have e7 := rowsF_succ m S.1 S.2.length (spots m S.1 S.2.length) tg
      have hτ6 : (rowsF m S.1 S.2.length (spots m S.1 S.2.length) tg).1[S.2.length]? = some τ := rowsF_at hτ tg
      have lz : zs.length = tg := by rw [al6.len, rowsF_len]
      generalize hT : rowsF m S.1 S.2.length (spots m S.1 S.2.length) tg = T at *
      refine w_one <| w_expr <| e_append <| e_var (i := 5) rfl ⟨rl, rfl, ⟨_, hrl6⟩, ?_⟩
      refine e_lc (g := gN 7) (sl := [7]) [("spot", 7)] rfl sc_found_kinds.nd (blkOk_by rfl) (by decide) (fun _ _ _ _ _ => (g_name sc_found_kinds.nd)) <| i_range M.range <| e_var (i := 4) rfl ⟨_, rfl, by omega, by omega, ?_⟩
      refine ⟨fun i acc μ' => MBL [d, kd, tl, nl] μ6 μ' ∧ KSt CP CK μ' kq q d tl nl kd m (rowF m T.1 S.2.length tg i).1 ∧ acc = (rowF m T.1 S.2.length tg i).2.map fun p => .dat (encP p), by omega, ⟨(MSub.refl μ6).l, ks6, rfl⟩, fun i acc μ' _ ⟨_, _, ea⟩ => ⟨trivial, by rw [ea, List.length_map, rowF_len]; exact Nat.le_refl _⟩, ?_, ?_⟩
      · rintro sp x acc μ' D hsp rfl ⟨mb, ks7, ea⟩ hD
        intro s1 H1 C1 cl1 fp1
        refine ⟨fun _ s1 H1 C1 cl1 fp1 => ?_, fun z => ft z⟩
        have nD' := ks7.notIn hD
        have DD : D ∉ [d, kd, tl, nl] := fun h => nD' (by simp only [List.mem_cons, List.not_mem_nil, or_false] at h ⊢; rcases h with h | h | h | h <;> simp [h])
        have hsp : sp < 2 * (needs m τ).length + 1 := by omega
        have e8 := rowF_succ m T.1 S.2.length tg sp
        refine e_meth cca hr (e_var (i := 1) rfl ⟨kq, _, rfl, (ks7.put nD').obj, rfl, a_cons <| e_var (i := 3) rfl <| a_cons <| e_var (i := 6) rfl <| a_cons <| e_var (i := 7) rfl <| a_nil ⟨kq, q, d, tl, nl, kd, m, _, S.2.length, tg, sp, τ, by simp, ks7.put nD', po, rowF_at hτ6 sp, htg, hsp, fun μ8 m8 ks8 => ?_⟩⟩)
        have hD8 : μ8 D = some (.lst acc) := m8 _ _ DD updM_same
        refine ⟨rmM μ8 D, rmM_back hD8, rmM_same, fun b c hb hc => ?_, ?_, ?_⟩
        · have h1 := mb b c hb hc
          have hbD : b ≠ D := neM h1 hD
          unfold rmM
          rw [if_neg hbD]
          exact m8 b c hb (by rw [updM_ne hbD]; exact h1)
        · rw [e8]; exact ks8.rm nD'
        · rw [e8, ea]
          show _ = ((rowF m T.1 S.2.length tg sp).2 ++ [_]).map _
          rw [List.map_append]; rfl
      · rintro acc μ' ⟨mb, ks7, ea⟩ nw hnw
        have en : ((2 * (needs m τ).length + 1 : Nat) : Int).toNat = spots m S.1 S.2.length := by rw [esp]; omega
        rw [en] at ks7 ea
        have nn := ks7.notIn hnw
        have hrl7 : μ' rl = some (.lst zs) := mb _ _ rlD hrl6
        have hsl7 : μ' sl = some (.lst ys) := mb _ _ slD hsl6
        have nr : nw ≠ rl := fun e => by rw [e, hrl7] at hnw; cases hnw
        have ns : nw ≠ sl := fun e => by rw [e, hsl7] at hnw; cases hnw
        refine ⟨_, by rw [updM_ne (Ne.symm nr)]; exact hrl7, by rw [lz]; omega, ?_⟩
        have nwE : nw ∉ [d, kd, tl, nl, kq, sl, rl] := fun h => by
          simp only [List.mem_cons, List.not_mem_nil, or_false] at h
          rcases h with h | h | h | h | h | h | h
          · exact nn (by simp [h])
          · exact nn (by simp [h])
          · exact nn (by simp [h])
          · exact nn (by simp [h])
          · exact nn (by simp [h])
          · exact ns h
          · exact nr h
        refine ⟨zs ++ [.loc nw], some (.int (tg : Int)), b, ?_, ?_, ?_, ?_, updM_same, ?_, by simp⟩
        · exact ((ms6.mbl mb frD).new hnw).fresh hrμ
        · intro a c e
          obtain ⟨n1, _⟩ := rmL_some e
          obtain ⟨_, e6⟩ := rmL_some (sub6 a c e)
          have e7' := mb a c (fun h => n1 (by simp only [List.mem_cons, List.not_mem_nil, or_false] at h ⊢; rcases h with h | h | h | h <;> simp [h])) e6
          have har : a ≠ rl := neM (rmL_some e).2 hrl
          rw [rmL_get n1, updM_ne har, updM_ne (neM e7' hnw)]; exact e7'
        · rw [e7]; exact (ks7.put nn).put nrl
        · rw [updM_ne (Ne.symm rs), updM_ne (Ne.symm ns)]; exact hsl7
        · rw [e7]
          refine All2.snoc (al6.mono fun v ps h => h.sub ?_) ⟨nw, rfl, ?_⟩
          · intro a c e
            obtain ⟨n1, e6⟩ := rmL_some e
            have e7' := mb a c (fun h => n1 (by simp only [List.mem_cons, List.not_mem_nil, or_false] at h ⊢; rcases h with h | h | h | h <;> simp [h])) e6
            have har : a ≠ rl := fun h => n1 (by simp [h])
            rw [rmL_get n1, updM_ne har, updM_ne (neM e7' hnw)]; exact e7'
          · rw [rmL_get nwE, updM_ne nr, updM_same, ea]
    · rintro ρ2 μ6 ⟨zs, a, b, ms6, sub6, ks6, hsl6, hrl6, al6, rfl⟩
      rw [Int.toNat_natCast] at ks6 al6
      refine w_one <| w_expr <| e_append <| e_var (i := 2) rfl ⟨sl, rfl, ⟨_, hsl6⟩, e_var (i := 5) rfl ⟨_, hsl6, by rw [ly]; omega, ?_⟩⟩
      refine ⟨_, ?_, n + 1, ys ++ [.loc rl], _, _, _, _, _, rfl, ms6.fresh hsμ, ?_, updM_same, ?_, rfl⟩
      · rw [eS]
        show 900001 - (S.2 ++ [_]).length < _
        rw [List.length_append, List.length_singleton]; omega
      · rw [eS]; exact ks6.put nsl
      · rw [eS]
        have up : ∀ ds, sl ∈ ds → ∀ μ' c, rmL ds (updM μ' sl c) = rmL ds μ' := fun ds h μ' c => by
          funext x
          unfold rmL
          split
          · rfl
          · rw [updM_ne (fun e => by subst e; contradiction)]
        rw [up _ (by simp)]
        refine All2.snoc (al5.mono fun v r h => h.sub sub6) ⟨rl, zs, rfl, by rw [rmL_get rlE]; exact hrl6, al6.mono fun v ps h => h.sub fun x c e => ?_⟩
        obtain ⟨n1, e⟩ := rmL_some e
        rw [rmL_get fun h => n1 (by simp only [List.mem_cons, List.not_mem_nil, or_false] at h ⊢; rcases h with h | h | h | h | h | h <;> simp [h])]
        exact e
  · have lt : (tyS (runK m n).1).length = (runK m n).1.length := by unfold tyS; rw [List.length_map]
    have hge : Done (runK m n) := by
      have := of_decide_eq_false hge
      rw [lt, ly] at this
      show (runK m n).2.length = (runK m n).1.length
      omega
    refine w_one <| w_ret <| e_tupL <| a_cons <| e_var (i := 1) rfl <| a_cons <| e_var (i := 2) rfl <| a_nil ⟨sz, fun r hr' => ?_⟩
    have nr := ks5.notIn hr'
    refine hP _ r kq sl n (ms5.new hr') updM_same hge ⟨q, d, tl, nl, kd, ys, ks5.put nr, by rw [updM_ne (fun e => by rw [← e, hsl5] at hr'; cases hr')]; exact hsl5, al5.mono fun v x h => h.sub fun y c e => ?_⟩
    obtain ⟨n1, e⟩ := rmL_some e
    rw [rmL_get n1, updM_ne (neM e hr')]; exact e
end
end AV
-- text W12
set_option Elab.async false
set_option linter.all false
set_option maxRecDepth 100000
set_option maxHeartbeats 4000000
namespace AV
open PySem L2 TH
section
variable {P : Program} {w : World} {K : PySem.W.Frag} {mg : Str → Option Value} {base : Heap} {f : Addr} {fd : FuncData} {C CP CK : Addr}
def G_spot_condition : Gs := fun rs μ P => ∃ (n s : Nat), rs = [.int n, .int s] ∧ P μ (.dat (encC (spotCond n s)))
theorem sc_spot_condition : FnScope ["many", "spot", "at"] ["many", "spot"] (defScope s_spot_condition) := ⟨rfl, rfl, rfl, by decide +kernel, rfl, by decide +kernel, by decide +kernel⟩
theorem ok_spot_condition (F : FD K "spot_condition" "spot_condition" s_spot_condition f fd) : FnOk P w K mg base C8.CX0 1 f fd ["many", "spot"] (spOf P w K G_spot_condition) := by
  refine ok_of F sc_spot_condition (fun rs μ Po ⟨_, _, e, _⟩ => by rw [e]; rfl) fun cdv A outer s0 H E rs μ Po hr ⟨n, s, e, hP⟩ => ?_
  subst e
  refine w_cons <| w_set (i := 2) sc_spot_condition.nd <| e_fdiv <| e_var (i := 1) rfl <| e_int ⟨_, 2, rfl, rfl, ⟨by omega, by omega⟩, ?_⟩
  rw [show (s : Int) / 2 = ((s / 2 : Nat) : Int) by omega]
  unfold spotCond at hP
  refine w_cons <| w_if <| t_eqI <| e_mod <| e_var (i := 1) rfl <| e_int ⟨_, 2, rfl, rfl, by omega, e_int ⟨_, _, rfl, rfl, fun h => ?_, fun h => w_nil ?_⟩⟩
  · have h := of_decide_eq_true h
    rw [if_pos (by omega), encC] at hP
    exact w_one <| w_ret <| e_tup <| a_cons <| e_str <| a_cons <| e_neg <| e_int ⟨_, rfl, a_cons <| e_var (i := 2) rfl <| a_nil ⟨[_, _, _], rfl, sz, hP⟩⟩
  have h := of_decide_eq_false h
  rw [if_neg (by omega)] at hP
  refine w_cons <| w_if <| t_eqI <| e_var (i := 0) rfl <| e_int ⟨_, _, rfl, rfl, fun h => ?_, fun h => w_nil ?_⟩
  · have h := of_decide_eq_true h
    rw [if_pos (by omega), encC] at hP
    exact w_one <| w_ret <| e_tup <| a_cons <| e_str <| a_nil ⟨[_], rfl, sz, hP⟩
  have h := of_decide_eq_false h
  rw [if_neg (by omega)] at hP
  refine w_cons <| w_if <| t_eqI <| e_var (i := 2) rfl <| e_int ⟨_, _, rfl, rfl, fun h => ?_, fun h => w_nil ?_⟩
  · have h := of_decide_eq_true h
    rw [if_pos (by omega), encC] at hP
    exact w_one <| w_ret <| e_tup <| a_cons <| e_str <| a_cons <| e_neg <| e_int ⟨_, rfl, a_cons <| e_int <| a_nil ⟨[_, _, _], rfl, sz, hP⟩⟩
  have h := of_decide_eq_false h
  rw [if_neg (by omega)] at hP
  refine w_cons <| w_if <| t_eqI <| e_var (i := 2) rfl <| e_var (i := 0) rfl ⟨_, _, rfl, rfl, fun h => ?_, fun h => w_nil ?_⟩
  · have h := of_decide_eq_true h
    rw [if_pos (by omega), encC] at hP
    exact w_one <| w_ret <| e_tup <| a_cons <| e_str <| a_cons <| e_sub <| e_var (i := 0) rfl <| e_int ⟨_, _, rfl, rfl, a_cons <| e_neg <| e_int ⟨_, rfl, a_nil ⟨[_, _, _], rfl, sz, hP⟩⟩⟩
  have h := of_decide_eq_false h
  rw [if_neg (by omega), encC, encCs, encCs, encCs, encC, encC] at hP
  exact w_one <| w_ret <| e_tup <| a_cons <| e_str <| a_cons <| e_tup <| a_cons <| e_tup <| a_cons <| e_str <| a_cons <| e_sub <| e_var (i := 2) rfl <| e_int ⟨_, _, rfl, rfl, a_cons <| e_neg <| e_int ⟨_, rfl, a_nil ⟨[_, _, _], rfl, sz, a_cons <| e_tup <| a_cons <| e_str <| a_cons <| e_neg <| e_int ⟨_, rfl, a_cons <| e_var (i := 2) rfl <| a_nil ⟨[_, _, _], rfl, sz, a_nil ⟨[_, _], rfl, sz, a_nil ⟨[_, _], rfl, sz, hP⟩⟩⟩⟩⟩⟩⟩
/-! ### least_machine -/
def G_least_machine : Gs := fun rs μ P => ∃ (m : Machine), rs = [.dat (encM m)] ∧ PairOk m m ∧ ∀ μ' n, MSub μ μ' → Done (runK m n) → P μ' (.dat (encM (leastM m (runK m n))))
theorem sc_least_machine : FnScope ["machine", "kinds", "steps", "registers", "needs", "standings", "number", "rows", "many", "tags", "row", "cases", "spot", "moves", "says", "behind", "empty"] ["machine"] (defScope s_least_machine) := ⟨rfl, rfl, rfl, by decide +kernel, rfl, by decide +kernel, by decide +kernel⟩
theorem max_is {l : List Nat} {mx : Int} (h1 : mx ∈ l.map fun n : Nat => (n : Int)) (h2 : ∀ y ∈ l.map (fun n : Nat => (n : Int)), y ≤ mx) : mx = (l.foldl max 0 : Nat) := by
  have up : ∀ (l : List Nat) (a : Nat), (∀ x ∈ l, x ≤ a) → l.foldl max a = a := by
    intro l
    induction l with
    | nil => intro a _; rfl
    | cons b l ih => intro a h; rw [List.foldl_cons, Nat.max_eq_left (h b (by simp))]; exact ih a fun x hx => h x (by simp [hx])
  obtain ⟨k, hk, rfl⟩ := List.mem_map.mp h1
  have h3 : ∀ x ∈ l, x ≤ k := fun x hx => by have := h2 x (List.mem_map.mpr ⟨x, hx, rfl⟩); omega
  have h4 := foldl_max_le l 0 k (.inr hk)
  have h5 : l.foldl max 0 ≤ k := by
    have go : ∀ (l : List Nat) (a : Nat), a ≤ k → (∀ x ∈ l, x ≤ k) → l.foldl max a ≤ k := by
      intro l
      induction l with
      | nil => intro a h _; exact h
      | cons b l ih => intro a h1 h2; rw [List.foldl_cons]; exact ih _ (by have := h2 b (by simp); omega) fun x hx => h2 x (by simp [hx])
    exact go l 0 (Nat.zero_le _) h3
  omega
theorem ok_least_machine (F : FD K "least_machine" "least_machine" s_least_machine f fd) (M : Md mg) (KC : KindC K CK) (cf : Fn P w K mg base 19 "found_kinds" (G_found_kinds CP CK)) (cs : Fn P w K mg base 1 "spot_condition" G_spot_condition) : FnOk P w K mg base C8.CX0 20 f fd ["machine"] (spOf P w K G_least_machine) := by
  refine ok_of F sc_least_machine (fun rs μ Po ⟨_, e, _⟩ => by rw [e]; rfl) fun cdv A outer s0 H E rs μ Po hr ⟨m, e, po, hP⟩ => ?_
  subst e
  have om := po.o1
  have hm := om.regs
  have mt := om.tags
  refine w_cons <| w_unpL (g := gP [gN 1, gN 2]) (sl := [1, 2]) (g_tup rfl (g_cons (g_name sc_least_machine.nd) (g_cons (g_name sc_least_machine.nd) g_nil))) <| e_call cf hr <| a_cons <| e_var (i := 0) rfl <| a_nil ⟨m, rfl, po, fun μ1 r kq sl n m1 hr1 hdone hfd => ⟨r, _, rfl, hr1, _, rfl, rfl, ?_⟩⟩
  have so := run_ok om.full n
  have hP := fun μ' h => hP μ' n h hdone
  obtain ⟨q, d, tl, nl, kd, ys, ks, hsl, al⟩ := hfd
  generalize hS : runK m n = S at *
  have hct := tyCount po ks.nd ks.ok
  have hle := so.le
  have lnd : (ndS m S.1).length = S.1.length := by unfold ndS; rw [List.length_map]
  show WS _ [_, _, _, _, _, _, _, _, _, _, _, _, _, _, _, _, _] _ _ _
  refine w_cons <| w_set (i := 3) sc_least_machine.nd <| e_maxL rfl M.max <| e_mapS (g := gN 4) (sl := [4]) [("needs", 4)] (fun i => SV.int (((S.1[i]?.map fun τ => (needs m τ).length).getD 0 : Nat) : Int)) rfl sc_least_machine.nd (blkOk_by rfl) (by decide) (fun _ _ _ _ _ => (g_name sc_least_machine.nd)) <| i_list <| e_fld KC.cls KC.needs <| e_var (i := 1) rfl ⟨kq, _, .loc nl, rfl, ks.obj, rfl, nl, ndS m S.1, rfl, .inl ks.needs, ?_⟩
  refine ⟨by rw [lnd]; omega, fun μ' h => .inl (h _ _ ks.needs), ?_, ?_⟩
  · rintro i x μ' hi ⟨rr, hrr, rfl⟩ hm'
    unfold ndS at hrr
    rw [List.getElem?_map] at hrr
    cases hk : S.1[i]? with
    | none => rw [hk] at hrr; cases hrr
    | some τ =>
      rw [hk] at hrr
      cases hrr
      intro s1 H1 C1 cl1 fp1
      refine e_len M.len <| WE.down <| e_var (i := 4) rfl ⟨_, .tuple (nD (needs m τ)), rfl, dn_nD _, .inl ⟨_, rfl, MSub.refl _, ?_⟩⟩
      show SV.int _ = SV.int _
      unfold nD
      rw [List.length_map]; rfl
  intro μ2 m2 v hv
  have first := so.ks.first
  have nz : 0 < S.1.length := (List.getElem?_eq_some_iff.mp first).1
  refine ⟨v, (S.1.map fun τ => (needs m τ).length).map fun n : Nat => (n : Int), rfl, .inl ?_, by simpa using nz, fun mx h1 h2 => ?_⟩
  · rw [updM_same, lnd, List.map_map, List.map_map]
    congr 2
    exact mapF S.1 _ _ fun i x hx => by rw [hx]; rfl
  have emx : mx = (regsK m S.1 : Nat) := max_is h1 h2
  subst emx
  have hR : regsK m S.1 ≤ m.regs := by
    have : ((regsK m S.1 : Nat) : Int) ∈ (S.1.map fun τ => (needs m τ).length).map fun n : Nat => (n : Int) := h1
    rw [List.map_map] at this
    obtain ⟨τ, hτ, e⟩ := List.mem_map.mp this
    have := needs_le (ks.ok τ hτ)
    have e : ((needs m τ).length : Int) = (regsK m S.1 : Nat) := e
    omega
  refine w_cons <| w_set (i := 5) sc_least_machine.nd <| e_lst <| a_nil ⟨sz, fun st hst => ?_⟩
  show WS _ [_, _, _, _, _, _, _, _, _, _, _, _, _, _, _, _, _] _ _ _
  have m3 : MSub μ1 (updM μ2 v (.lst ((List.range (ndS m S.1).length).map fun i => SV.int (((S.1[i]?.map fun τ => (needs m τ).length).getD 0 : Nat) : Int)))) := m2.new hv
  generalize updM μ2 v (.lst ((List.range (ndS m S.1).length).map fun i => SV.int (((S.1[i]?.map fun τ => (needs m τ).length).getD 0 : Nat) : Int))) = μ3 at *
  have m03 := m1.trans m3
  generalize hRR : regsK m S.1 = R at *
  let N : Nat → Nat := fun i => (needs m (tyAt S.1 i)).length
  let lrow : Nat → List Piece → List Case := fun i row => row.mapIdx fun s p => leastC R (N i) s p
  let lstd : Nat → List (List Case) := fun i => ((S.2[i]?).getD []).map (lrow i)
  have ly : ys.length = S.2.length := al.len
  have E1 : ∀ {a : Addr} {c : Cell}, rmL [d, kd, tl, nl, kq, sl] μ1 a = some c → μ3 a = some c := fun h => m3 _ _ (rmL_some h).2
  refine w_cons <| w_for (g := gP [gN 6, gN 7]) (sl := [6, 7]) PassesOwn.never rfl (g_tup rfl (g_cons (g_name sc_least_machine.nd) (g_cons (g_name sc_least_machine.nd) g_nil))) <| i_enumL M.enum <| e_var (i := 2) rfl ⟨sl, ys, rfl, .inl (MSub.upd hst _ _ (m3 _ _ hsl)), ?_⟩
  refine ⟨fun i ρ μ' => ∃ (a4 a6 a7 a8 a9 a10 a11 a12 a13 a14 a15 a16 : Option SV), MSub μ3 μ' ∧ μ' st = some (.lst ((List.range i).map fun j => .dat (encRows (lstd j)))) ∧ ρ = [some (.dat (encM m)), some (.loc kq), some (.loc sl), some (.int (R : Nat)), a4, some (.loc st), a6, a7, a8, a9, a10, a11, a12, a13, a14, a15, a16],
    ⟨_, _, _, _, _, _, _, _, _, _, _, _, MSub.upd hst, updM_same, rfl⟩, fun i ρ' μ' _ ⟨_, _, _, _, _, _, _, _, _, _, _, _, h, _⟩ => .inl (h _ _ (m3 _ _ hsl)), ?_, ?_⟩
  · rintro i x ρ1 μ4 hi ⟨rr, hrr, rfl⟩ ⟨a4, a6, a7, a8, a9, a10, a11, a12, a13, a14, a15, a16, ms4, hst4, rfl⟩
    obtain ⟨rows, hrows, ra, zs, rfl, hra, alz⟩ := al.get hrr
    have hiS : i < S.2.length := (List.getElem?_eq_some_iff.mp hrows).1
    have hτ : S.1[i]? = some S.1[i] := List.getElem?_eq_getElem (by omega)
    have eN : N i = (needs m S.1[i]).length := by show (needs m (tyAt S.1 i)).length = _; unfold tyAt; rw [hτ]; rfl
    have lrows := so.sl i rows hrows
    refine ⟨_, rfl, rfl, ?_⟩
    show WS _ [_, _, _, _, _, _, _, _, _, _, _, _, _, _, _, _, _] _ _ _
    refine w_cons <| w_set (i := 8) sc_least_machine.nd <| e_len M.len <| WE.down <| e_ixL <| e_fld KC.cls KC.needs <| e_var (i := 1) rfl ⟨kq, _, .loc nl, rfl, ms4 _ _ (m3 _ _ ks.obj), rfl, e_var (i := 6) rfl ⟨nl, ndS m S.1, i, _, rfl, rfl, .inl (ms4 _ _ (m3 _ _ ks.needs)), at_map hτ, _, .tuple (nD (needs m S.1[i])), rfl, dn_nD _, .inl ⟨_, rfl, ?_⟩⟩⟩
    have e8 : ((nD (needs m S.1[i])).length : Int) = (N i : Int) := by unfold nD; rw [List.length_map, eN]
    rw [e8]
    refine w_cons <| w_set (i := 9) sc_least_machine.nd <| e_lst <| a_nil ⟨sz, fun tg htg => ?_⟩
    show WS _ [_, _, _, _, _, _, _, _, _, _, _, _, _, _, _, _, _] _ _ _
    have tg3 : μ3 tg = none := fresh_back ms4 htg
    have ts : tg ≠ st := fun e => by rw [e, hst4] at htg; cases htg
    refine w_cons <| w_for (g := gN 10) (sl := [10]) PassesOwn.never rfl (g_name sc_least_machine.nd) <| i_list <| e_var (i := 7) rfl ⟨ra, zs, rfl, .inl ((ms4.new htg) _ _ (E1 hra)), ?_⟩
    refine ⟨fun t ρ μ' => ∃ (b10 b11 b12 b13 b14 b15 b16 : Option SV), MSub μ3 μ' ∧ μ' st = some (.lst ((List.range i).map fun j => .dat (encRows (lstd j)))) ∧ μ' tg = some (.lst ((rows.take t).map fun row => .dat (encRow (lrow i row)))) ∧
        ρ = [some (.dat (encM m)), some (.loc kq), some (.loc sl), some (.int (R : Nat)), a4, some (.loc st), some (.int i), some (.loc ra), some (.int (N i : Nat)), some (.loc tg), b10, b11, b12, b13, b14, b15, b16],
      ⟨_, _, _, _, _, _, _, ms4.fresh tg3, by rw [updM_ne (Ne.symm ts)]; exact hst4, updM_same, rfl⟩, fun t ρ' μ' _ ⟨_, _, _, _, _, _, _, h, _⟩ => .inl (h _ _ (E1 hra)), ?_, ?_⟩
    · rintro t x ρ2 μ5 ht ⟨pr, hpr, rfl⟩ ⟨b10, b11, b12, b13, b14, b15, b16, ms5, hst5, htg5, rfl⟩
      obtain ⟨row, hrow, pa, rfl, hpa⟩ := alz.get hpr
      have lrow' := so.rl i t rows row hrows hrow
      have oi := ks.ok S.1[i] (List.getElem_mem _)
      have lr : row.length ≤ 100 := by
        have h1 := needs_le oi
        have : spots m S.1 i = 2 * N i + 1 := rfl
        omega
      show WS _ [_, _, _, _, _, _, _, _, _, _, _, _, _, _, _, _, _] _ _ _
      refine w_cons <| w_set (i := 11) sc_least_machine.nd <| e_lst <| a_nil ⟨sz, fun ca hca => ?_⟩
      show WS _ [_, _, _, _, _, _, _, _, _, _, _, _, _, _, _, _, _] _ _ _
      have ca3 : μ3 ca = none := fresh_back ms5 hca
      have cs' : ca ≠ st := fun e => by rw [e, hst5] at hca; cases hca
      have ct : ca ≠ tg := fun e => by rw [e, htg5] at hca; cases hca
      refine w_cons <| w_for (g := gP [gN 12, gP [gN 13, gN 14, gN 15]]) (sl := [12, 13, 14, 15]) PassesOwn.never rfl (g_tup rfl (g_cons (g_name sc_least_machine.nd) (g_cons (g_tup rfl (g_cons (g_name sc_least_machine.nd) (g_cons (g_name sc_least_machine.nd) (g_cons (g_name sc_least_machine.nd) g_nil)))) g_nil))) <| i_enumL M.enum <| e_var (i := 10) rfl ⟨pa, row.map fun p => .dat (encP p), rfl, .inl ((ms5.new hca) _ _ (E1 hpa)), ?_⟩
      refine ⟨fun s ρ μ' => ∃ (c12 c13 c14 c15 c16 : Option SV), MSub μ3 μ' ∧ μ' st = some (.lst ((List.range i).map fun j => .dat (encRows (lstd j)))) ∧ μ' tg = some (.lst ((rows.take t).map fun row => .dat (encRow (lrow i row)))) ∧ μ' ca = some (.lst ((lrow i (row.take s)).map fun k => .dat (encK k))) ∧
          ρ = [some (.dat (encM m)), some (.loc kq), some (.loc sl), some (.int (R : Nat)), a4, some (.loc st), some (.int i), some (.loc ra), some (.int (N i : Nat)), some (.loc tg), some (.loc pa), some (.loc ca), c12, c13, c14, c15, c16],
        ⟨_, _, _, _, _, ms5.fresh ca3, by rw [updM_ne (Ne.symm cs')]; exact hst5, by rw [updM_ne (Ne.symm ct)]; exact htg5, updM_same, rfl⟩, fun s ρ' μ' _ ⟨_, _, _, _, _, h, _⟩ => .inl (h _ _ (E1 hpa)), ?_, ?_⟩
      · rintro s x ρ3 μ6 hs ⟨pv, hpv, rfl⟩ ⟨c12, c13, c14, c15, c16, ms6, hst6, htg6, hca6, rfl⟩
        rw [List.getElem?_map] at hpv
        cases hp : row[s]? with
        | none => rw [hp] at hpv; cases hpv
        | some p =>
          rw [hp] at hpv
          cases hpv
          obtain ⟨pk1, _, υ, pk2, pk3⟩ := so.ps i t s rows row p hrows hrow hp
          have lp : p.1.length ≤ 100 := by
            rw [pk1]
            unfold movesR
            rw [List.length_map, ← pk3.1]
            have := needs_le (ks.ok υ (List.mem_of_getElem? pk2))
            omega
          refine ⟨_, rfl, rfl, _, rfl, rfl, ?_⟩
          show WS _ [_, _, _, _, _, _, _, _, _, _, _, _, _, _, _, _, _] _ _ _
          refine w_cons <| w_set (i := 16) sc_least_machine.nd <| e_repT <| e_tup <| a_cons <| e_neg <| e_int ⟨_, rfl, a_nil ⟨[.int (-2)], rfl, sz, e_sub <| e_var (i := 3) rfl <| e_len M.len <| e_var (i := 13) rfl <| .inl ⟨_, rfl, _, _, rfl, rfl, [.int (-2)], _, rfl, rfl, by simp, by simp, ?_, ?_, ?_⟩⟩⟩
          · rw [List.length_map]; omega
          · rw [List.length_map]; omega
          have ee : (List.replicate ((R : Int) - ((p.1.map PyData.int).length : Int)).toNat [PyData.int (-2)]).flatten = (List.replicate (R - p.1.length) (-2 : Int)).map .int := by
            rw [List.length_map, show ((R : Int) - (p.1.length : Int)).toNat = R - p.1.length by omega]
            generalize R - p.1.length = z
            induction z with
            | zero => rfl
            | succ z ih => rw [List.replicate_succ, List.flatten_cons, ih]; rfl
          rw [ee]
          show WS _ [_, _, _, _, _, _, _, _, _, _, _, _, _, _, _, _, _] _ _ _
          have lc : (lrow i (row.take s)).length ≤ 100 := by
            show (List.mapIdx _ _).length ≤ 100
            rw [List.length_mapIdx, List.length_take]; omega
          refine w_one <| w_expr <| e_append <| e_var (i := 11) rfl ⟨ca, rfl, ⟨_, hca6⟩, e_tup <| a_cons <| e_call cs hr (a_cons <| e_var (i := 8) rfl <| a_cons <| e_var (i := 12) rfl <| a_nil ⟨N i, s, rfl, a_cons <| e_catT <| e_var (i := 13) rfl <| e_var (i := 16) rfl ⟨p.1.map .int, (List.replicate (R - p.1.length) (-2 : Int)).map .int, rfl, rfl, ?_, a_cons <| e_var (i := 14) rfl <| a_cons <| e_var (i := 15) rfl <| a_nil ⟨[_, _, _, _], rfl, sz, _, hca6, ?_, ?_⟩⟩⟩) (by omega)⟩
          · rw [List.length_map, List.length_map, List.length_replicate, sizeLine_eq]; omega
          · rw [List.length_map]; omega
          · refine ⟨_, _, _, _, _, ms6.fresh ca3, by rw [updM_ne (Ne.symm cs')]; exact hst6, by rw [updM_ne (Ne.symm ct)]; exact htg6, ?_, rfl⟩
            rw [updM_same]
            have e9 : lrow i (row.take (s + 1)) = lrow i (row.take s) ++ [leastC R (N i) s p] := by
              show List.mapIdx _ _ = List.mapIdx _ _ ++ _
              rw [List.take_add_one, hp]
              show List.mapIdx _ (row.take s ++ [p]) = _
              rw [List.mapIdx_concat, List.length_take, Nat.min_eq_left (by have := (List.getElem?_eq_some_iff.mp hp).1; omega)]
            rw [e9, List.map_append, ← List.map_append]
            rfl
      · rintro ρ3 μ6 ⟨c12, c13, c14, c15, c16, ms6, hst6, htg6, hca6, rfl⟩
        rw [List.length_map, List.take_length] at hca6
        have ltk : ((rows.take t).map fun row => SV.dat (encRow (lrow i row))).length < 10000000 := by
          rw [List.length_map, List.length_take, lrows]; omega
        refine w_one <| w_expr <| e_append <| e_var (i := 9) rfl ⟨tg, rfl, ⟨_, htg6⟩, e_tuple M.tuple <| e_var (i := 11) rfl ⟨ca, (lrow i row).map encK, rfl, .inl (by rw [hca6, List.map_map]; rfl), _, htg6, ltk, ?_⟩⟩
        refine ⟨_, _, _, _, _, _, _, ms6.fresh tg3, by rw [updM_ne (Ne.symm ts)]; exact hst6, ?_, rfl⟩
        rw [updM_same, List.take_add_one, hrow, List.map_append]
        rfl
    · rintro ρ2 μ5 ⟨b10, b11, b12, b13, b14, b15, b16, ms5, hst5, htg5, rfl⟩
      have lz : zs.length = rows.length := alz.len
      rw [lz, List.take_length] at htg5
      have st3 : μ3 st = none := hst
      refine w_one <| w_expr <| e_append <| e_var (i := 5) rfl ⟨st, rfl, ⟨_, hst5⟩, e_tuple M.tuple <| e_var (i := 9) rfl ⟨tg, (lstd i).map encRow, rfl, .inl ?_, _, hst5, by rw [List.length_map, List.length_range]; omega, ?_⟩⟩
      · rw [htg5]
        show _ = some (Cell.lst ((((S.2[i]?).getD []).map (lrow i) |>.map encRow).map SV.dat))
        rw [hrows, Option.getD_some, List.map_map, List.map_map]; rfl
      · refine ⟨_, _, _, _, _, _, _, _, _, _, _, _, ms5.fresh st3, ?_, rfl⟩
        rw [updM_same, List.range_succ, List.map_append]
        rfl
  · rintro ρ1 μ4 ⟨a4, a6, a7, a8, a9, a10, a11, a12, a13, a14, a15, a16, ms4, hst4, rfl⟩
    show WS _ [_, _, _, _, _, _, _, _, _, _, _, _, _, _, _, _, _] _ _ _
    rw [ly] at hst4
    refine w_one <| w_ret <| e_tup <| a_cons <| e_ixK <| e_var (i := 0) rfl ⟨_, .int m.tags, rfl, rfl, a_cons <| e_var (i := 3) rfl <| a_cons <| e_tuple M.tuple <| e_var (i := 5) rfl ⟨st, ((List.range S.2.length).map lstd).map encRows, rfl, .inl ?_, a_nil ⟨[_, _, _], rfl, sz, ?_⟩⟩⟩
    · rw [hst4, List.map_map, List.map_map]; rfl
    · have eL : (List.range S.2.length).map lstd = (leastM m S).steps := by
        show _ = S.2.mapIdx _
        refine List.ext_getElem? fun j => ?_
        rw [List.getElem?_map, List.getElem?_mapIdx]
        by_cases hj : j < S.2.length
        · rw [List.getElem?_range hj]
          show some (((S.2[j]?).getD []).map (lrow j)) = _
          rw [List.getElem?_eq_getElem hj, hRR]; rfl
        · rw [List.getElem?_eq_none (by simpa using hj), List.getElem?_eq_none (by omega)]; rfl
      rw [eL]
      have := hP μ4 (m03.trans ms4)
      unfold encM at this
      rw [show (leastM m S).regs = R from hRR] at this
      exact this
end
end AV
-- text W13
set_option Elab.async false
set_option linter.all false
set_option maxRecDepth 100000
set_option maxHeartbeats 4000000
namespace AV
local macro_rules | `(tactic| refine' $a <| $b) => `(tactic| (refine $a ?_; refine' $b)) | `(tactic| refine' $a) => `(tactic| refine $a)
open PySem L2 TH
/-- the draws that are left -/
def DrawSt (μ : Mu) (da : Addr) : Prop := ∃ ds : List Int, μ da = some (.lst (ds.map SV.int)) ∧ ∀ x ∈ ds, 0 ≤ x
theorem DrawSt.sub {μ μ' : Mu} {da : Addr} (h : DrawSt μ da) (s : MSub μ μ') : DrawSt μ' da := let ⟨ds, e, k⟩ := h; ⟨ds, s _ _ e, k⟩
theorem DrawSt.ne {μ : Mu} {da a : Addr} (h : DrawSt μ da) (e : μ a = none) : a ≠ da := fun z => by
  obtain ⟨ds, k, _⟩ := h
  rw [z, k] at e; cases e
theorem DrawSt.but {μ μ' : Mu} {da a : Addr} (h : DrawSt μ da) (s : MBut a μ μ') (n : da ≠ a) : DrawSt μ' da := let ⟨ds, e, k⟩ := h; ⟨ds, s _ _ n e, k⟩
theorem DrawSt.upd {μ : Mu} {da a : Addr} {c : Cell} (h : DrawSt μ da) (n : a ≠ da) : DrawSt (updM μ a c) da := let ⟨ds, e, k⟩ := h; ⟨ds, by rw [updM_ne (Ne.symm n)]; exact e, k⟩
theorem MBut.newc {d a : Addr} {μ μ1 : Mu} {c : Cell} (h : MBut d μ μ1) (e : μ1 a = none) : MBut d μ (updM μ1 a c) := fun b c' n k => by
  have := h b c' n k
  rw [updM_ne (neM this e)]; exact this
theorem MBut.fresh {d a : Addr} {μ μ1 : Mu} {c : Cell} (h : MBut d μ μ1) (e : μ a = none) : MBut d μ (updM μ1 a c) := fun b c' n k => by
  rw [updM_ne (neM k e)]; exact h b c' n k
theorem MBut.refl (d : Addr) (μ : Mu) : MBut d μ μ := fun _ _ _ e => e
section
variable {P : Program} {w : World} {K : PySem.W.Frag} {mg : Str → Option Value} {base : Heap} {f : Addr} {fd : FuncData}
def G_take : Gs := fun rs μ P => ∃ (da : Addr) (many : Int), rs = [.loc da, .int many] ∧ DrawSt μ da ∧ 0 < many ∧ ∀ μ' (k : Nat), MBut da μ μ' → DrawSt μ' da → (k : Int) < many → P μ' (.int k)
theorem sc_take : FnScope ["_law_draws_here", "_law_many_here"] ["_law_draws_here", "_law_many_here"] (defScope s__law_take) := ⟨rfl, rfl, rfl, by decide +kernel, rfl, by decide +kernel, by decide +kernel⟩
theorem ok_take (F : FD K "_law_take" "_law_take" s__law_take f fd) (M : Md mg) : FnOk P w K mg base C8.CX0 1 f fd ["_law_draws_here", "_law_many_here"] (spOf P w K G_take) := by
  refine ok_of F sc_take (fun rs μ Po ⟨_, _, e, _⟩ => by rw [e]; rfl) fun cdv A outer s0 H E rs μ Po hr ⟨da, many, e, ⟨ds, hd, h0⟩, hm, hP⟩ => ?_
  subst e
  refine w_cons <| w_if <| t_eqI <| e_len M.len <| e_var (i := 0) rfl <| .inr ⟨da, _, rfl, .inl hd, e_int ⟨_, _, rfl, rfl, fun h => ?_, fun h => w_nil ?_⟩⟩
  · exact w_one <| w_ret <| e_int (hP μ 0 (MBut.refl _ _) ⟨ds, hd, h0⟩ (by omega))
  · have h := of_decide_eq_false h
    rw [List.length_map] at h
    have hl : ds.length - 1 < ds.length := by omega
    refine w_one <| w_ret <| e_mod <| e_int1 M.int <| e_pop <| e_var (i := 0) rfl ⟨da, ds.map SV.int, SV.int ds[ds.length - 1], rfl, hd, by rw [List.length_map, List.getElem?_map, List.getElem?_eq_getElem hl]; rfl, .inl ⟨_, rfl, e_var (i := 1) rfl ⟨_, _, rfl, rfl, hm, ?_⟩⟩⟩
    have x1 := Int.emod_nonneg ds[ds.length - 1] (show many ≠ 0 by omega)
    have x2 := Int.emod_lt_of_pos ds[ds.length - 1] hm
    have := hP (updM μ da (.lst (ds.map SV.int).dropLast)) (ds[ds.length - 1] % many).toNat (MBut.refl _ _).upd ⟨ds.dropLast, by rw [updM_same, List.map_dropLast], fun x hx => h0 x (List.dropLast_subset _ hx)⟩ (by omega)
    rw [Int.toNat_of_nonneg x1] at this
    exact this
section
variable {X : Cx} {ρ : Rho} {μ : Mu} {b : Expr} {P : PK} {pos p p2 : Pos} {j i : Nat} {da : Addr}
/-- _law_take(_law_draws_here, b) -/
theorem e_take (c : Fn X.prog X.w X.K X.mg X.base 1 "_law_take" G_take) (hr : Room j X.A) (hi : ρ[i]? = some (some (.loc da))) (h : WE X ρ μ b fun μ1 y => ∃ many : Int, y = .int many ∧ DrawSt μ1 da ∧ 0 < many ∧ ∀ μ2 (k : Nat), MBut da μ1 μ2 → DrawSt μ2 da → (k : Int) < many → P μ2 (.int k)) (hk : 1 ≤ j := by first | decide | omega)
    (hN : X.N[i]? = some "_law_draws_here" := by rfl) (hv : Vis X.env.scope "_law_draws_here" := by first | exact .inl rfl | exact .inr (.inl rfl) | exact .inr (.inr rfl)) (hg : Gl X "_law_take" := by rfl)
    (he : starEach [.Name "_law_draws_here" p2, b] X.env = (false, eval (.Name "_law_draws_here" p2) X.env) :: starEach [b] X.env := by rfl) (he2 : starEach [b] X.env = (false, eval b X.env) :: starEach [] X.env := by rfl) (hpl : (backTo pos (starEach [b] X.env)).any (·.1) = false := by rfl) : WE X ρ μ (.Call (.Name "_law_take" p) [.Name "_law_draws_here" p2, b] [] pos) P :=
  e_call c hr (a_cons (e_var (i := i) hi (a_cons (h.imp fun μ1 y ⟨many, ey, hd, hm, hP⟩ => by subst ey; exact a_nil ⟨da, many, rfl, hd, hm, hP⟩) he2) hN hv) he) hk hg (by decide) he hpl
end
/-! ### the draws -/
def G_draws (K : PySem.W.Frag) : Gs := fun rs μ P => ∃ (sa : Addr) (ns : List Int), rs = [.loc sa, .int 460] ∧ (isL μ sa (ns.map SV.int) ∨ SeqC K sa ns) ∧ ns.length ≤ 9000000 ∧ ∀ μ' da, MSub μ μ' → DrawSt μ' da → μ da = none → P μ' (.loc da)
theorem sc_draws : FnScope ["_law_script", "_law_many_here", "_law_cells", "_law_cell", "_law_rest", "_law_draws_here", "_law_k", "_law_at_here", "_law_once"] ["_law_script", "_law_many_here"] (defScope s__law_draws) := ⟨rfl, rfl, rfl, by decide +kernel, rfl, by decide +kernel, by decide +kernel⟩
theorem ok_draws (F : FD K "_law_draws" "_law_draws" s__law_draws f fd) (M : Md mg) : FnOk P w K mg base C8.CX0 1 f fd ["_law_script", "_law_many_here"] (spOf P w K (G_draws K)) := by
  refine ok_of F sc_draws (fun rs μ Po ⟨_, _, e, _⟩ => by rw [e]; rfl) fun cdv A outer s0 H E rs μ Po hr ⟨sa, ns, e, hs, hn, hP⟩ => ?_
  subst e
  have rest : ∀ (μ1 : Mu) (ca : Addr) (cs : List Int) (a3 : Option SV), MSub μ μ1 → μ1 ca = some (.lst (cs.map SV.int)) → 0 < cs.length → cs.length ≤ 9000001 → WS (cxOf C8.CX0 P w K mg base ["_law_script", "_law_many_here", "_law_cells", "_law_cell", "_law_rest", "_law_draws_here", "_law_k", "_law_at_here", "_law_once"] "_law_draws" (defScope s__law_draws) f cdv A outer s0 H E).nox
      [some (.loc sa), some (.int 460), some (.loc ca), a3, none, none, none, none, none] μ1 ((defBody s__law_draws).drop 2) { nx := fun _ μ' => Po μ' (.dat .none), rt := fun r μ' => Po μ' r } := by
    intro μ1 ca cs a3 m1 hca hc0 hc1
    refine w_cons <| w_set (i := 4) sc_draws.nd <| e_list M.list <| e_var (i := 2) rfl ⟨cs.map SV.int, .inl ⟨ca, rfl, .inl hca⟩, fun ra hra => ?_⟩
    refine w_cons <| w_set (i := 5) sc_draws.nd <| e_lst <| a_nil ⟨sz, fun da hda => ?_⟩
    show WS _ [_, _, _, _, _, _, _, _, _] _ _ _
    have rc : ra ≠ ca := fun e => by rw [e, hca] at hra; cases hra
    have dr : da ≠ ra := fun e => by rw [e, updM_same] at hda; cases hda
    have dc : da ≠ ca := fun e => by rw [e, updM_ne (Ne.symm rc), hca] at hda; cases hda
    have hda1 : μ1 da = none := by rw [updM_ne dr] at hda; exact hda
    have raμ : μ ra = none := fresh_back m1 hra
    have daμ : μ da = none := fresh_back m1 hda1
    refine w_cons <| w_for (g := gN 6) (sl := [6]) PassesOwn.never rfl (g_name sc_draws.nd) <| i_range M.range <| e_var (i := 1) rfl ⟨460, rfl, by omega, by omega, ?_⟩
    refine ⟨fun i ρ μ' => ∃ (rs ds : List Int) (a6 a7 a8 : Option SV), MSub μ μ' ∧ μ' ca = some (.lst (cs.map SV.int)) ∧ μ' ra = some (.lst (rs.map SV.int)) ∧ rs.length = cs.length ∧ μ' da = some (.lst (ds.map SV.int)) ∧ ds.length ≤ i ∧ (∀ x ∈ ds, 0 ≤ x) ∧ ρ = [some (.loc sa), some (.int 460), some (.loc ca), a3, some (.loc ra), some (.loc da), a6, a7, a8],
      ⟨cs, [], _, _, _, (m1.new hra).fresh daμ, by rw [updM_ne (Ne.symm dc), updM_ne (Ne.symm rc)]; exact hca, by rw [updM_ne (Ne.symm dr), updM_same], rfl, updM_same, by simp, by simp, rfl⟩, fun _ _ _ _ _ => trivial, ?_, ?_⟩
    · rintro i x ρ1 μ2 hi rfl ⟨rs, ds, a6, a7, a8, m2, hca2, hra2, hrl, hda2, hdl, hd0, rfl⟩
      show WS _ [_, _, _, _, _, _, _, _, _] _ _ _
      have hat : i % cs.length < cs.length := Nat.mod_lt _ hc0
      refine w_cons <| w_set (i := 7) sc_draws.nd <| e_mod <| e_var (i := 6) rfl <| e_len M.len <| e_var (i := 2) rfl <| .inr ⟨ca, _, rfl, .inl hca2, _, _, rfl, rfl, by rw [List.length_map]; omega, ?_⟩
      have e7 : (0 + (i : Int)) % ((cs.map SV.int).length : Int) = ((i % cs.length : Nat) : Int) := by rw [List.length_map, Int.zero_add]; rfl
      rw [e7]
      generalize i % cs.length = k at hat
      have hck : atI (cs.map SV.int) (k : Int) = some (SV.int cs[k]) := at_map (List.getElem?_eq_getElem hat)
      have hrk : atI (rs.map SV.int) (k : Int) = some (SV.int (rs[k]'(by omega))) := at_map (List.getElem?_eq_getElem (by omega))
      have hrk2 : ixN (rs.map SV.int).length (k : Int) = some k := by
        unfold ixN
        rw [if_pos (by omega), if_pos (by rw [List.length_map]; omega)]; simp
      show WS _ [_, _, _, _, _, _, _, _, _] _ _ _
      have add : ∀ (v : Int), 0 ≤ v → ∀ y ∈ ds ++ [v], 0 ≤ y := fun v hv y hy => by
        rcases List.mem_append.mp hy with h | h
        · exact hd0 y h
        · rw [List.mem_singleton.mp h]; exact hv
      refine w_one <| w_if <| t_ge <| e_ixL <| e_var (i := 2) rfl <| e_var (i := 7) rfl ⟨ca, _, _, _, rfl, rfl, .inl hca2, hck, e_pow <| e_int <| e_int ⟨10, 18, rfl, rfl, ⟨by omega, by omega, by decide⟩, _, _, rfl, rfl, fun h => ?_, fun h => ?_⟩⟩
      · refine w_cons <| w_expr <| e_append <| e_var (i := 5) rfl ⟨da, rfl, ⟨_, hda2⟩, e_mod <| e_int1 M.int <| e_ixL <| e_var (i := 4) rfl <| e_var (i := 7) rfl ⟨ra, _, _, _, rfl, rfl, .inl hra2, hrk, .inl ⟨_, rfl, e_int ⟨_, 1000, rfl, rfl, by omega, _, hda2, by rw [List.length_map]; omega, ?_⟩⟩⟩⟩
        have hra3 : updM μ2 da (.lst (ds.map SV.int ++ [SV.int ((rs[k]'(by omega)) % 1000)])) ra = some (.lst (rs.map SV.int)) := by rw [updM_ne (Ne.symm dr)]; exact hra2
        refine w_one <| w_setL <| e_fdiv <| e_ixL <| e_var (i := 4) rfl <| e_var (i := 7) rfl ⟨ra, _, _, _, rfl, rfl, .inl hra3, hrk, e_int ⟨_, 1000, rfl, rfl, ⟨by omega, by omega⟩, e_var (i := 4) rfl <| e_var (i := 7) rfl ⟨ra, _, _, k, rfl, rfl, hra3, hrk2, ?_⟩⟩⟩
        refine ⟨rs.set k ((rs[k]'(by omega)) / 1000), ds ++ [(rs[k]'(by omega)) % 1000], _, _, _, (m2.fresh daμ).fresh raμ, by rw [updM_ne (Ne.symm rc), updM_ne (Ne.symm dc)]; exact hca2, by rw [updM_same, List.map_set], by rw [List.length_set]; exact hrl, by rw [updM_ne dr, updM_same, List.map_append]; rfl, by rw [List.length_append, List.length_singleton]; omega, add _ (Int.emod_nonneg _ (by omega)), rfl⟩
      · refine w_cons <| w_set (i := 8) sc_draws.nd <| e_mod <| e_int1 M.int <| e_add <| e_add <| e_mul <| e_ixL <| e_var (i := 2) rfl <| e_var (i := 7) rfl ⟨ca, _, _, _, rfl, rfl, .inl hca2, hck, e_int ⟨_, 48271, rfl, rfl, .inr (by omega), e_mul <| e_var (i := 6) rfl <| e_int ⟨_, 69621, rfl, rfl, .inr (by omega), _, _, rfl, rfl, e_int ⟨_, 11, rfl, rfl, .inl ⟨_, rfl, e_int ⟨_, 2147483647, rfl, rfl, by omega, ?_⟩⟩⟩⟩⟩⟩
        generalize ho : (cs[k] * 48271 + (0 + (i : Int)) * 69621 + 11) % 2147483647 = o
        have o1 : 0 ≤ o := by rw [← ho]; exact Int.emod_nonneg _ (by omega)
        have o2 : o < 2147483647 := by rw [← ho]; exact Int.emod_lt_of_pos _ (by omega)
        show WS _ [_, _, _, _, _, _, _, _, _] _ _ _
        refine w_one <| w_expr <| e_append <| e_var (i := 5) rfl ⟨da, rfl, ⟨_, hda2⟩, e_mod <| e_int1 M.int <| e_add <| e_add <| e_mul <| e_var (i := 8) rfl <| e_var (i := 8) rfl ⟨o, o, rfl, rfl, .inl (by omega), e_mul <| e_int <| e_var (i := 8) rfl ⟨3, o, rfl, rfl, .inl (by omega), _, _, rfl, rfl, e_var (i := 6) rfl ⟨_, _, rfl, rfl, .inl ⟨_, rfl, e_int ⟨_, 1000003, rfl, rfl, by omega, _, hda2, by rw [List.length_map]; omega, ?_⟩⟩⟩⟩⟩⟩
        refine ⟨rs, ds ++ [(o * o + 3 * o + (0 + (i : Int))) % 1000003], _, _, _, m2.fresh daμ, by rw [updM_ne (Ne.symm dc)]; exact hca2, by rw [updM_ne (Ne.symm dr)]; exact hra2, hrl, by rw [updM_same, List.map_append]; rfl, by rw [List.length_append, List.length_singleton]; omega, add _ (Int.emod_nonneg _ (by omega)), rfl⟩
    · rintro ρ1 μ2 ⟨rs, ds, a6, a7, a8, m2, hca2, hra2, hrl, hda2, hdl, hd0, rfl⟩
      refine w_cons <| w_expr <| e_reverse <| e_var (i := 5) rfl ⟨da, _, rfl, hda2, ?_⟩
      refine w_one <| w_ret <| e_var (i := 5) rfl ?_
      exact hP _ da (m2.fresh daμ) ⟨ds.reverse, by rw [updM_same, List.map_reverse], fun x hx => hd0 x (List.mem_reverse.mp hx)⟩ daμ
  have item : ∀ (i : Nat) (r : SV), (ns.map SV.int)[i]? = some r → ∃ z, ns[i]? = some z ∧ r = SV.int z := fun i r hr' => by
    rw [List.getElem?_map] at hr'
    cases hk : ns[i]? with
    | none => rw [hk] at hr'; cases hr'
    | some z => rw [hk] at hr'; cases hr'; exact ⟨z, rfl, rfl⟩
  have ec : (List.range ns.length).map (fun i => SV.int ((ns[i]?).getD 0)) = ns.map SV.int := mapF ns _ _ fun i x hx => by rw [hx]; rfl
  refine w_cons <| W1.mid (Q := fun ρ' μ' => ∃ (μ1 : Mu) (ca : Addr), MSub μ μ1 ∧ μ1 ca = none ∧ μ' = updM μ1 ca (.lst (ns.map SV.int)) ∧ ρ' = [some (.loc sa), some (.int 460), some (.loc ca), none, none, none, none, none, none]) ?_ ?_
  · rcases hs with hs | hs
    · refine' WLc.set (i := 2) <| l_mapS (g := gN 3) (sl := [3]) [("_law_cell", 3)] (fun i => SV.int ((ns[i]?).getD 0)) rfl sc_draws.nd (blkOk_by rfl) (by decide) (fun _ _ _ _ _ => (g_name sc_draws.nd)) <| i_list <| e_var (i := 0) rfl ⟨sa, ns.map SV.int, rfl, hs, ?_⟩
      refine ⟨by rw [List.length_map]; omega, fun μ' h => hs.sub h, ?_, ?_⟩
      · rintro i x μ' hi ⟨r, hr', rfl⟩ hm
        obtain ⟨z, hk, rfl⟩ := item i r hr'
        intro s1 H1 C1 cl1 fp1
        exact e_int1 M.int <| e_var (i := 3) rfl <| .inl ⟨_, rfl, MSub.refl _, by show _ = SV.int ((ns[i]?).getD 0); rw [hk]; rfl⟩
      intro μ1 m1 ca hca
      rw [List.length_map, ec]
      exact ⟨μ1, ca, m1, hca, rfl, rfl⟩
    · refine' WLc.set (i := 2) <| l_mapS (g := gN 3) (sl := [3]) [("_law_cell", 3)] (fun i => SV.int ((ns[i]?).getD 0)) rfl sc_draws.nd (blkOk_by rfl) (by decide) (fun _ _ _ _ _ => (g_name sc_draws.nd)) <| i_listC <| e_var (i := 0) rfl ⟨sa, ns, rfl, hs, ?_⟩
      refine ⟨by omega, fun μ' h => trivial, ?_, ?_⟩
      · rintro i x μ' hi ⟨r, hr', rfl⟩ hm
        obtain ⟨z, hk, rfl⟩ := item i r hr'
        intro s1 H1 C1 cl1 fp1
        exact e_int1 M.int <| e_var (i := 3) rfl <| .inl ⟨_, rfl, MSub.refl _, by show _ = SV.int ((ns[i]?).getD 0); rw [hk]; rfl⟩
      intro μ1 m1 ca hca
      rw [ec]
      exact ⟨μ1, ca, m1, hca, rfl, rfl⟩
  rintro ρ' μ' ⟨μ1, ca, m1, hca, rfl, rfl⟩
  show WS _ [_, _, _, _, _, _, _, _, _] _ _ _
  refine w_cons <| w_if <| t_eqI <| e_len M.len <| e_var (i := 2) rfl <| .inr ⟨ca, _, rfl, .inl updM_same, e_int ⟨_, _, rfl, rfl, fun h => ?_, fun h => w_nil ?_⟩⟩
  · have h := of_decide_eq_true h
    rw [List.length_map] at h
    have en : ns = [] := List.eq_nil_of_length_eq_zero (by omega)
    subst en
    refine w_one <| w_expr <| e_append <| e_var (i := 2) rfl ⟨ca, rfl, ⟨_, updM_same⟩, e_int ⟨_, updM_same, by simp, ?_⟩⟩
    rw [updM_updM]
    exact rest _ ca [0] _ (m1.new hca) (by rw [updM_same]; rfl) (by simp) (by simp)
  · have h := of_decide_eq_false h
    rw [List.length_map] at h
    exact rest _ ca ns _ (m1.new hca) updM_same (by omega) (by omega)
end
end AV
-- text W14
set_option Elab.async false
set_option linter.all false
set_option maxRecDepth 100000
set_option maxHeartbeats 4000000
namespace AV
open PySem L2 TH
section
variable {n : Nat}
mutual
theorem CondOk.up : ∀ {c : Cond} {d : Nat}, CondOk n d c → CondOk n (d + 1) c
  | .tt, d, _ => by simp [CondOk]
  | .ff, d, _ => by simp [CondOk]
  | .less a b, d, h => by simpa [CondOk] using h
  | .same a b, d, h => by simpa [CondOk] using h
  | .empty a, d, h => by simpa [CondOk] using h
  | .not c, 0, h => by simp [CondOk] at h
  | .not c, d + 1, h => by rw [CondOk] at h ⊢; exact CondOk.up h
  | .all cs, 0, h => by simp [CondOk] at h
  | .all cs, d + 1, h => by rw [CondOk] at h ⊢; exact ⟨CondsOk.up h.1, h.2⟩
  | .any cs, 0, h => by simp [CondOk] at h
  | .any cs, d + 1, h => by rw [CondOk] at h ⊢; exact ⟨CondsOk.up h.1, h.2⟩
theorem CondsOk.up : ∀ {cs : List Cond} {d : Nat}, CondsOk n d cs → CondsOk n (d + 1) cs
  | [], d, _ => by simp [CondsOk]
  | c :: cs, d, h => by rw [CondsOk] at h ⊢; exact ⟨CondOk.up h.1, CondsOk.up h.2⟩
end
theorem CondOk.le {c : Cond} {d e : Nat} (h : CondOk n d c) (l : d ≤ e) : CondOk n e c := by
  obtain ⟨k, rfl⟩ := Nat.exists_eq_add_of_le l
  induction k with
  | zero => exact h
  | succ k ih => exact CondOk.up (ih (by omega))
end
theorem DrawSt.rm {μ : Mu} {da D : Addr} (h : DrawSt μ da) (n : D ≠ da) : DrawSt (rmM μ D) da := let ⟨ds, e, k⟩ := h; ⟨ds, by unfold rmM; rw [if_neg (Ne.symm n)]; exact e, k⟩
def places (R : Nat) : List Int := -1 :: (List.range R).map fun n : Nat => (n : Int)
theorem places_src {R : Nat} {s : Int} (h : s ∈ places R) : SrcOk R s := by
  unfold places at h
  rcases List.mem_cons.mp h with e | e
  · exact .inl e
  · obtain ⟨i, hi, e⟩ := List.mem_map.mp e
    have := List.mem_range.mp hi
    exact .inr (.inr ⟨by omega, by omega⟩)
theorem places_ok {R : Nat} {k : Nat} (h : k < (places R).length) : SrcOk R ((places R)[k]) := places_src (List.getElem_mem h)
section
variable {P : Program} {w : World} {K : PySem.W.Frag} {mg : Str → Option Value} {base : Heap} {f : Addr} {fd : FuncData}
def G_condition (d : Nat) : Gs := fun rs μ P => ∃ (da : Addr) (R : Nat), rs = [.loc da, .int R, .int d] ∧ DrawSt μ da ∧ R ≤ 20 ∧ ∀ μ' c, MBut da μ μ' → DrawSt μ' da → CondOk R (d - 1) c → P μ' (.dat (encC c))
theorem sc_condition : FnScope ["_law_draws_here", "_law_registers", "_law_depth", "_law_kind", "_law_places", "_law_one", "_law_other", "_law_row", "_law_k"] ["_law_draws_here", "_law_registers", "_law_depth"] (defScope s__law_condition) := ⟨rfl, rfl, rfl, by decide +kernel, rfl, by decide +kernel, by decide +kernel⟩
theorem ok_condition_step (F : FD K "_law_condition" "_law_condition" s__law_condition f fd) (M : Md mg) (ct : Fn P w K mg base 1 "_law_take" G_take) (d : Nat) (hd : d ≤ 2) (rec : d = 2 → Fn P w K mg base (d + 1) "_law_condition" (G_condition 1)) : FnOk P w K mg base C8.CX0 (d + 2) f fd ["_law_draws_here", "_law_registers", "_law_depth"] (spOf P w K (G_condition d)) := by
  refine ok_of F sc_condition (fun rs μ Po ⟨_, _, e, _⟩ => by rw [e]; rfl) fun cdv A outer s0 H E rs μ Po hr ⟨da, R, e, hda, hR, hP⟩ => ?_
  subst e
  refine w_cons <| w_set (i := 3) sc_condition.nd <| e_take (i := 0) ct hr rfl (e_int ⟨9, rfl, hda, by omega, fun μ1 kind m1 d1 hk => ?_⟩) (by omega)
  refine w_cons <| w_set (i := 4) sc_condition.nd <| e_catL <| e_lst <| a_cons <| e_neg <| e_int ⟨_, rfl, a_nil ⟨sz, fun p1 hp1 => e_listRg rfl M.list M.range <| e_var (i := 1) rfl ⟨R, rfl, by omega, fun p2 hp2 => ⟨p1, p2, [.int (-1)], (List.range R).map fun i : Nat => SV.int (i : Int), rfl, rfl, ?_, updM_same, ?_, fun pl hpl => ?_⟩⟩⟩⟩
  · rw [updM_ne (fun e => by rw [← e, updM_same] at hp2; cases hp2), updM_same]
  · rw [List.length_map, List.length_range, sizeLine_eq]; simp; omega
  have ep : [SV.int (-1)] ++ (List.range R).map (fun i : Nat => SV.int (i : Int)) = (places R).map SV.int := by unfold places; rw [List.map_cons, List.map_map]; rfl
  rw [ep]
  have m2 := ((m1.newc hp1).newc hp2).newc (c := .lst ((places R).map SV.int)) hpl
  have d2 := ((d1.upd (d1.ne hp1) (c := .lst [SV.int (-1)])).upd (a := p2) (c := .lst ((List.range R).map fun i : Nat => SV.int (i : Int))) ((d1.upd (d1.ne hp1)).ne hp2))
  have d3 := d2.upd (c := .lst ((places R).map SV.int)) (d2.ne hpl)
  have pld : pl ≠ da := d2.ne hpl
  have hpl3 : updM (updM (updM μ1 p1 (.lst [SV.int (-1)])) p2 (.lst ((List.range R).map fun i : Nat => SV.int (i : Int)))) pl (.lst ((places R).map SV.int)) pl = some (.lst ((places R).map SV.int)) := updM_same
  have lp : ((places R).map SV.int).length = R + 1 := by unfold places; simp
  have lp' : (places R).length = R + 1 := by unfold places; simp
  generalize updM (updM (updM μ1 p1 (.lst [SV.int (-1)])) p2 (.lst ((List.range R).map fun i : Nat => SV.int (i : Int)))) pl (.lst ((places R).map SV.int)) = μ3 at *
  show WS _ [_, _, _, _, _, _, _, _, _] _ _ _
  refine w_cons <| w_set (i := 5) sc_condition.nd <| e_ixL <| e_var (i := 4) rfl <| e_take (i := 0) ct hr rfl (e_len M.len <| e_var (i := 4) rfl <| .inr ⟨pl, _, rfl, .inl hpl3, _, rfl, d3, by omega, fun μ4 k1 m4 d4 hk1 => ⟨pl, _, _, SV.int ((places R)[k1]'(by omega)), rfl, rfl, .inl (m4 _ _ pld hpl3), at_map (List.getElem?_eq_getElem (by omega)), ?_⟩⟩) (by omega)
  have s1 := places_ok (R := R) (k := k1) (by omega)
  generalize (places R)[k1]'(by omega) = one at s1
  have hpl4 := m4 _ _ pld hpl3
  refine w_cons <| w_set (i := 6) sc_condition.nd <| e_ixL <| e_var (i := 4) rfl <| e_take (i := 0) ct hr rfl (e_len M.len <| e_var (i := 4) rfl <| .inr ⟨pl, _, rfl, .inl hpl4, _, rfl, d4, by omega, fun μ5 k2 m5 d5 hk2 => ⟨pl, _, _, SV.int ((places R)[k2]'(by omega)), rfl, rfl, .inl (m5 _ _ pld hpl4), at_map (List.getElem?_eq_getElem (by omega)), ?_⟩⟩) (by omega)
  have s2 := places_ok (R := R) (k := k2) (by omega)
  generalize (places R)[k2]'(by omega) = other at s2
  have m05 := (m2.trans m4).trans m5
  show WS _ [_, _, _, _, _, _, _, _, _] _ _ _
  refine w_cons <| w_if <| WT.imp (T := fun μ' b => μ' = μ5 ∧ (b = false → ¬ kind < 5 ∧ ¬ (d < 2 ∧ 6 < kind))) ?_ fun μ' b ⟨e, hb⟩ => ?_
  · refine t_w <| t_or <| t_lt <| e_var (i := 3) rfl <| e_int ⟨_, _, rfl, rfl, fun h => t_or1 <| t_w <| t_and <| t_lt <| e_var (i := 2) rfl <| e_int ⟨_, _, rfl, rfl, fun h2 => t_and1 <| t_gt <| e_var (i := 3) rfl <| e_int ⟨_, _, rfl, rfl, rfl, fun h3 => ?_⟩, fun h2 => ⟨rfl, fun _ => ?_⟩⟩, fun h => ⟨rfl, fun z => ft z⟩⟩
    · have h := of_decide_eq_false h
      have h3 := of_decide_eq_false h3
      omega
    · have h := of_decide_eq_false h
      have h2 := of_decide_eq_false h2
      omega
  subst e
  refine ⟨fun _ => ?_, fun h => w_nil ?_⟩
  · refine w_one <| w_ret <| e_tup <| a_cons <| e_str <| a_cons <| e_var (i := 5) rfl <| a_cons <| e_var (i := 6) rfl <| a_nil ⟨[_, _, _], rfl, sz, ?_⟩
    have := hP _ (.less one other) m05 d5 (by simp only [CondOk]; exact ⟨s1, s2⟩)
    rw [encC] at this
    exact this
  obtain ⟨k5, kd⟩ := hb h
  refine w_cons <| w_if <| t_eqI <| e_var (i := 3) rfl <| e_int ⟨_, _, rfl, rfl, fun h => ?_, fun h => w_nil ?_⟩
  · refine w_one <| w_ret <| e_ixL <| e_lst <| a_cons <| e_tup <| a_cons <| e_str <| a_cons <| e_var (i := 5) rfl <| a_cons <| e_var (i := 6) rfl <| a_nil ⟨[_, _, _], rfl, sz, a_cons <| e_tup <| a_cons <| e_str <| a_cons <| e_var (i := 5) rfl <| a_cons <| e_var (i := 6) rfl <| a_nil ⟨[_, _, _], rfl, sz, a_cons <| e_tup <| a_cons <| e_str <| a_nil ⟨[_], rfl, sz, a_cons <| e_tup <| a_cons <| e_str <| a_nil ⟨[_], rfl, sz, a_nil ⟨sz, fun l hl => ?_⟩⟩⟩⟩⟩
    have ld := d5.ne hl
    refine e_take (i := 0) ct hr rfl (e_int ⟨4, rfl, d5.upd ld, by omega, fun μ6 k m6 d6 hk => ?_⟩) (by omega)
    have hl6 := m6 _ _ ld updM_same
    have m06 := (m05.newc hl).trans m6
    have go : ∀ c : Cond, CondOk R (d - 1) c → Po μ6 (.dat (encC c)) := fun c hc => hP _ c m06 d6 hc
    have h4 : k = 0 ∨ k = 1 ∨ k = 2 ∨ k = 3 := by omega
    rcases h4 with e | e | e | e <;> subst e
    · exact ⟨l, _, _, _, rfl, rfl, .inl hl6, atN (i := 0) rfl, by have := go (.same one other) (by simp only [CondOk]; exact ⟨s1, s2⟩); rw [encC] at this; exact this⟩
    · exact ⟨l, _, _, _, rfl, rfl, .inl hl6, atN (i := 1) rfl, by have := go (.same one other) (by simp only [CondOk]; exact ⟨s1, s2⟩); rw [encC] at this; exact this⟩
    · exact ⟨l, _, _, _, rfl, rfl, .inl hl6, atN (i := 2) rfl, by have := go .tt (by simp [CondOk]); rw [encC] at this; exact this⟩
    · exact ⟨l, _, _, _, rfl, rfl, .inl hl6, atN (i := 3) rfl, by have := go .ff (by simp [CondOk]); rw [encC] at this; exact this⟩
  have h5 := of_decide_eq_false h
  refine w_cons <| w_if <| t_eqI <| e_var (i := 3) rfl <| e_int ⟨_, _, rfl, rfl, fun h => ?_, fun h => w_nil ?_⟩
  · refine w_one <| w_ret <| e_tup <| a_cons <| e_str <| a_cons <| e_var (i := 5) rfl <| a_nil ⟨[_, _], rfl, sz, ?_⟩
    have := hP _ (.empty one) m05 d5 (by simp only [CondOk]; exact s1)
    rw [encC] at this
    exact this
  have h6 := of_decide_eq_false h
  have d2' : d = 2 := by omega
  subst d2'
  refine w_cons <| w_if <| t_eqI <| e_var (i := 3) rfl <| e_int ⟨_, _, rfl, rfl, fun h => ?_, fun h => w_nil ?_⟩
  · refine w_one <| w_ret <| e_tup <| a_cons <| e_str <| a_cons <| e_call (rec rfl) hr (a_cons <| e_var (i := 0) rfl <| a_cons <| e_var (i := 1) rfl <| a_cons <| e_sub <| e_var (i := 2) rfl <| e_int ⟨_, _, rfl, rfl, a_nil ⟨da, R, rfl, d5, hR, fun μ6 c m6 d6 hc => a_nil ⟨[_, _], rfl, sz, ?_⟩⟩⟩) (by omega)
    have := hP _ (.not c) (m05.trans m6) d6 (by rw [CondOk]; exact hc)
    rw [encC] at this
    exact this
  refine w_cons <| w_set (i := 7) sc_condition.nd <| e_tuple M.tuple <| e_lc (g := gN 8) (sl := [8]) [("_law_k", 8)] rfl sc_condition.nd (blkOk_by rfl) (by decide) (fun _ _ _ _ _ => (g_name sc_condition.nd)) <| i_range M.range <| e_take (i := 0) ct hr rfl (e_int ⟨3, rfl, d5, by omega, fun μ6 k m6 d6 hk => ⟨_, rfl, by omega, by omega, ?_⟩⟩) (by omega)
  refine ⟨fun i acc μ' => MBut da μ μ' ∧ DrawSt μ' da ∧ ∃ cs : List Cond, acc = cs.map (fun c => SV.dat (encC c)) ∧ cs.length = i ∧ ∀ c ∈ cs, CondOk R 0 c, by omega, ⟨m05.trans m6, d6, [], rfl, rfl, by simp⟩, fun i acc μ' _ ⟨_, _, cs, ea, el, _⟩ => ⟨trivial, by rw [ea, List.length_map]; omega⟩, ?_, ?_⟩
  · rintro i x acc μ' D hi rfl ⟨m7, d7, cs, ea, el, hcs⟩ hD
    intro s1' H1 C1 cl1 fp1
    refine ⟨fun _ s1' H1 C1 cl1 fp1 => ?_, fun z => ft z⟩
    have Dd := d7.ne hD
    refine e_call (rec rfl) hr (a_cons <| e_var (i := 0) rfl <| a_cons <| e_var (i := 1) rfl <| a_cons <| e_sub <| e_var (i := 2) rfl <| e_int ⟨_, _, rfl, rfl, a_nil ⟨da, R, rfl, d7.upd Dd, hR, fun μ8 c m8 d8 hc => ?_⟩⟩) (by omega)
    have hD8 := m8 _ _ Dd updM_same
    refine ⟨rmM μ8 D, rmM_back hD8, rmM_same, fun b c' hb hc' => ?_, d8.rm Dd, cs ++ [c], by rw [ea, List.map_append]; rfl, by rw [List.length_append, el]; rfl, fun c' h => ?_⟩
    · have h1 := m7 b c' hb hc'
      have hbD : b ≠ D := neM h1 hD
      unfold rmM
      rw [if_neg hbD]
      exact m8 b c' hb (by rw [updM_ne hbD]; exact h1)
    · rcases List.mem_append.mp h with h | h
      · exact hcs c' h
      · rw [List.mem_singleton.mp h]; exact hc
  · rintro acc μ' ⟨m7, d7, cs, ea, el, hcs⟩ nw hnw
    refine ⟨nw, cs.map encC, rfl, .inl (by rw [updM_same, ea, List.map_map]; rfl), ?_⟩
    have d8 := d7.upd (c := .lst acc) (d7.ne hnw)
    have m8 := m7.newc (c := .lst acc) hnw
    show WS _ [_, _, _, _, _, _, _, _, _] _ _ _
    refine w_one <| w_ret <| e_tup <| a_cons <| e_ixL <| e_lst <| a_cons <| e_str <| a_cons <| e_str <| a_nil ⟨sz, fun l hl => ?_⟩
    have ld := d8.ne hl
    refine e_take (i := 0) ct hr rfl (e_int ⟨2, rfl, d8.upd ld, by omega, fun μ9 k2 m9 d9 hk2 => ?_⟩) (by omega)
    have hl9 := m9 _ _ ld updM_same
    have m09 := (m8.newc hl).trans m9
    have h4 : k2 = 0 ∨ k2 = 1 := by omega
    rcases h4 with e | e <;> subst e
    · refine ⟨l, _, _, .dat (.str "all"), rfl, rfl, .inl hl9, atN (i := 0) rfl, a_cons <| e_var (i := 7) rfl <| a_nil ⟨[.str "all", _], rfl, sz, ?_⟩⟩
      have := hP _ (.all cs) m09 d9 (by rw [CondOk]; exact ⟨CondsOk.of hcs, by omega⟩)
      rw [encC, encCs_eq] at this
      exact this
    · refine ⟨l, _, _, .dat (.str "any"), rfl, rfl, .inl hl9, atN (i := 1) rfl, a_cons <| e_var (i := 7) rfl <| a_nil ⟨[.str "any", _], rfl, sz, ?_⟩⟩
      have := hP _ (.any cs) m09 d9 (by rw [CondOk]; exact ⟨CondsOk.of hcs, by omega⟩)
      rw [encC, encCs_eq] at this
      exact this
end
end AV
-- text W15
set_option Elab.async false
set_option linter.all false

set_option maxRecDepth 100000
set_option maxHeartbeats 4000000
namespace AV
local macro_rules | `(tactic| refine' $a <| $b) => `(tactic| (refine $a ?_; refine' $b)) | `(tactic| refine' $a) => `(tactic| refine $a)
open PySem L2 TH
structure CaseD (D n st : Nat) (k : Case) : Prop where
  cond : CondOk n D k.cond
  moves : k.moves.length = n
  srcs : ∀ s ∈ k.moves, SrcOk n s
  says : ∀ p ∈ k.says, SrcOk n p.2
  few : k.says.length ≤ 8
  next : k.next < st
theorem CaseD.ok {D n st : Nat} {k : Case} (h : CaseD D n st k) (hD : D ≤ 8) : CaseOk n st k := ⟨h.cond.le hD, h.moves, h.srcs, h.says, by have := h.few; omega, h.next⟩
def srcs (R : Nat) : List Int := (List.range R).map (fun n : Nat => (n : Int)) ++ [-1, -1, -2]
theorem srcs_ok {R : Nat} {s : Int} (h : s ∈ srcs R) : SrcOk R s := by
  unfold srcs at h
  rcases List.mem_append.mp h with e | e
  · obtain ⟨i, hi, e⟩ := List.mem_map.mp e
    have := List.mem_range.mp hi
    exact .inr (.inr ⟨by omega, by omega⟩)
  · simp only [List.mem_cons, List.not_mem_nil, or_false] at e
    rcases e with e | e | e
    · exact .inl e
    · exact .inl e
    · exact .inr (.inl e)
theorem MBut.back {d a : Addr} {μ μ1 : Mu} (h : MBut d μ μ1) (n : a ≠ d) (e : μ1 a = none) : μ a = none := by
  cases z : μ a with
  | none => rfl
  | some c => rw [h a c n z] at e; cases e
theorem at_ints {zs : List Int} {k : Nat} (h : k < zs.length) : ∃ z ∈ zs, atI (zs.map SV.int) (k : Int) = some (SV.int z) := ⟨zs[k], List.getElem_mem h, at_map (List.getElem?_eq_getElem h)⟩
section
variable {P : Program} {w : World} {K : PySem.W.Frag} {mg : Str → Option Value} {base : Heap} {f : Addr} {fd : FuncData}
def G_drawn_case : Gs := fun rs μ P => ∃ (da : Addr) (R S : Nat) (c : Cond), rs = [.loc da, .int R, .int S, .dat (encC c)] ∧ DrawSt μ da ∧ R ≤ 20 ∧ 0 < S ∧
  ∀ μ' k, MBut da μ μ' → DrawSt μ' da → (∀ D, CondOk R D c → CaseD D R S k) → P μ' (.dat (encK k))
theorem sc_drawn_case : FnScope ["_law_draws_here", "_law_registers", "_law_standings", "_law_condition_here", "_law_sources", "_law_moves", "_law_place_here", "_law_says", "_law_k"] ["_law_draws_here", "_law_registers", "_law_standings", "_law_condition_here"] (defScope s__law_drawn_case) := ⟨rfl, rfl, rfl, by decide +kernel, rfl, by decide +kernel, by decide +kernel⟩
theorem ok_drawn_case (F : FD K "_law_drawn_case" "_law_drawn_case" s__law_drawn_case f fd) (M : Md mg) (ct : Fn P w K mg base 1 "_law_take" G_take) : FnOk P w K mg base C8.CX0 2 f fd ["_law_draws_here", "_law_registers", "_law_standings", "_law_condition_here"] (spOf P w K G_drawn_case) := by
  refine ok_of F sc_drawn_case (fun rs μ Po ⟨_, _, _, _, e, _⟩ => by rw [e]; rfl) fun cdv A outer s0 H E rs μ Po hr ⟨da, R, S, c, e, hda, hR, hS, hP⟩ => ?_
  subst e
  refine' w_cons <| w_set (i := 4) sc_drawn_case.nd <| e_catL <| e_listRg rfl M.list M.range <| e_var (i := 1) rfl ⟨R, rfl, by omega, fun p1 hp1 => e_lst <| a_cons <| e_neg <| e_int ⟨_, rfl, a_cons <| e_neg <| e_int ⟨_, rfl, a_cons <| e_neg <| e_int ⟨_, rfl, a_nil ⟨sz, fun p2 hp2 => ⟨p1, p2, (List.range R).map fun i : Nat => SV.int (i : Int), [.int (-1), .int (-1), .int (-2)], rfl, rfl, ?_, updM_same, ?_, fun sl hsl => ?_⟩⟩⟩⟩⟩⟩
  · rw [updM_ne (fun e => by rw [← e, updM_same] at hp2; cases hp2), updM_same]
  · rw [List.length_map, List.length_range, sizeLine_eq]; simp; omega
  have ep : (List.range R).map (fun i : Nat => SV.int (i : Int)) ++ [.int (-1), .int (-1), .int (-2)] = (srcs R).map SV.int := by unfold srcs; rw [List.map_append, List.map_map]; rfl
  rw [ep]
  have m1 := (((MBut.refl da μ).newc hp1 (c := .lst ((List.range R).map fun i : Nat => SV.int (i : Int)))).newc hp2 (c := .lst [.int (-1), .int (-1), .int (-2)])).newc hsl (c := .lst ((srcs R).map SV.int))
  have dd1 := hda.upd (c := .lst ((List.range R).map fun i : Nat => SV.int (i : Int))) (hda.ne hp1)
  have dd2 := dd1.upd (c := .lst [.int (-1), .int (-1), .int (-2)]) (dd1.ne hp2)
  have sld := dd2.ne hsl
  have d1 := dd2.upd (c := .lst ((srcs R).map SV.int)) sld
  have h1 : updM (updM (updM μ p1 (.lst ((List.range R).map fun i : Nat => SV.int (i : Int)))) p2 (.lst [.int (-1), .int (-1), .int (-2)])) sl (.lst ((srcs R).map SV.int)) sl = some (.lst ((srcs R).map SV.int)) := updM_same
  generalize updM (updM (updM μ p1 (.lst ((List.range R).map fun i : Nat => SV.int (i : Int)))) p2 (.lst [.int (-1), .int (-1), .int (-2)])) sl (.lst ((srcs R).map SV.int)) = μ1 at *
  have ls : (srcs R).length = R + 3 := by unfold srcs; simp
  have lsm : ((srcs R).map SV.int).length = R + 3 := by rw [List.length_map, ls]
  refine' w_cons <| w_set (i := 5) sc_drawn_case.nd <| e_lst <| a_nil ⟨sz, fun mv hmv => ?_⟩
  have mvd := d1.ne hmv
  have mvs : mv ≠ sl := fun e => by rw [e, h1] at hmv; cases hmv
  have mvμ : μ mv = none := m1.back mvd hmv
  show WS _ [_, _, _, _, _, _, _, _, _] _ _ _
  -- a source that is drawn
  refine' w_cons <| w_for (g := gN 6) (sl := [6]) PassesOwn.never rfl (g_name sc_drawn_case.nd) <| i_range M.range <| e_var (i := 1) rfl ⟨(R : Int), rfl, by omega, by omega, ?_⟩
  refine ⟨fun i ρ μ' => ∃ (ms : List Int) (a6 a7 a8 : Option SV), MBut da μ μ' ∧ DrawSt μ' da ∧ μ' sl = some (.lst ((srcs R).map SV.int)) ∧ μ' mv = some (.lst (ms.map SV.int)) ∧ ms.length = i ∧ (∀ s ∈ ms, SrcOk R s) ∧ ρ = [some (.loc da), some (.int R), some (.int S), some (.dat (encC c)), some (.loc sl), some (.loc mv), a6, a7, a8],
    ⟨[], _, _, _, m1.newc hmv, d1.upd mvd, by rw [updM_ne (Ne.symm mvs)]; exact h1, updM_same, rfl, by simp, rfl⟩, fun _ _ _ _ _ => trivial, ?_, ?_⟩
  · rintro i x ρ1 μ2 hi rfl ⟨ms, a6, a7, a8, m2, d2, hs2, hm2, hl, hok, rfl⟩
    have hi : i < R := by omega
    show WS _ [_, _, _, _, _, _, _, _, _] _ _ _
    refine' w_one <| w_expr <| e_append <| e_var (i := 5) rfl ⟨mv, rfl, ⟨_, hm2⟩, e_ixL <| e_lst <| a_cons <| e_var (i := 6) rfl <| a_cons <| e_var (i := 6) rfl <| a_cons <| e_neg <| e_int ⟨_, rfl, a_cons <| e_ixL <| e_var (i := 4) rfl <| e_take (i := 0) ct hr rfl (e_len M.len <| e_var (i := 4) rfl <| .inr ⟨sl, _, rfl, .inl hs2, _, rfl, d2, by omega, fun μ3 k1 m3 d3 hk1 => ?_⟩) (by omega)⟩⟩
    obtain ⟨z, hz, hzz⟩ := at_ints (zs := srcs R) (k := k1) (by omega)
    have hs3 := m3 _ _ sld hs2
    refine ⟨sl, _, _, _, rfl, rfl, .inl hs3, hzz, a_nil ⟨sz, fun l hl' => ?_⟩⟩
    have ld := d3.ne hl'
    refine e_take (i := 0) ct hr rfl (e_int ⟨4, rfl, d3.upd ld, by omega, fun μ4 k2 m4 d4 hk2 => ?_⟩) (by omega)
    obtain ⟨y, hy, hyy⟩ := at_ints (zs := [0 + (i : Int), 0 + (i : Int), -1, z]) (k := k2) (by simp; omega)
    have hl4 := m4 _ _ ld updM_same
    have hm3 := m3 _ _ mvd hm2
    have lmv : l ≠ mv := fun e => by rw [e, hm3] at hl'; cases hl'
    have lsl : l ≠ sl := fun e => by rw [e, hs3] at hl'; cases hl'
    have hm4 : μ4 mv = some (.lst (ms.map SV.int)) := m4 _ _ mvd (by rw [updM_ne (Ne.symm lmv)]; exact hm3)
    have hs4 : μ4 sl = some (.lst ((srcs R).map SV.int)) := m4 _ _ sld (by rw [updM_ne (Ne.symm lsl)]; exact hs3)
    refine ⟨l, _, _, _, rfl, rfl, .inl hl4, hyy, _, hm4, by rw [List.length_map]; omega, ms ++ [y], _, _, _, ?_, d4.upd mvd, by rw [updM_ne (Ne.symm mvs)]; exact hs4, by rw [updM_same, List.map_append]; rfl, by rw [List.length_append, hl]; rfl, fun s hs => ?_, rfl⟩
    · exact MBut.fresh (((m2.trans m3).newc hl').trans m4) mvμ
    · rcases List.mem_append.mp hs with h | h
      · exact hok s h
      · rw [List.mem_singleton.mp h]
        simp only [List.mem_cons, List.not_mem_nil, or_false] at hy
        rcases hy with e | e | e | e
        · exact .inr (.inr ⟨by omega, by omega⟩)
        · exact .inr (.inr ⟨by omega, by omega⟩)
        · exact .inl e
        · rw [e]; exact srcs_ok hz
  · rintro ρ1 μ2 ⟨ms, a6, a7, a8, m2, d2, hs2, hm2, hl, hok, rfl⟩
    rw [Int.toNat_natCast] at hl
    refine' w_cons <| w_set (i := 7) sc_drawn_case.nd <| e_lst <| a_nil ⟨sz, fun sy hsy => ?_⟩
    have syd := d2.ne hsy
    have sys : sy ≠ sl := fun e => by rw [e, hs2] at hsy; cases hsy
    have sym : sy ≠ mv := fun e => by rw [e, hm2] at hsy; cases hsy
    have syμ : μ sy = none := m2.back syd hsy
    show WS _ [_, _, _, _, _, _, _, _, _] _ _ _
    refine' w_cons <| w_for (g := gN 8) (sl := [8]) PassesOwn.never rfl (g_name sc_drawn_case.nd) <| i_range M.range <| e_ixL <| e_lst <| a_cons <| e_int <| a_cons <| e_int <| a_cons <| e_int <| a_cons <| e_int <| a_cons <| e_int <| a_cons <| e_int <| a_cons <| e_int <| a_cons <| e_int <| a_nil ⟨sz, fun l hl' => ?_⟩
    have d3 := d2.upd (c := .lst []) syd
    have ld := d3.ne hl'
    refine e_take (i := 0) ct hr rfl (e_int ⟨8, rfl, d3.upd ld, by omega, fun μ4 k2 m4 d4 hk2 => ?_⟩) (by omega)
    have hl4 := m4 _ _ ld updM_same
    have lsy : l ≠ sy := fun e => by rw [e, updM_same] at hl'; cases hl'
    have lmv : l ≠ mv := fun e => by rw [e, updM_ne (Ne.symm sym), hm2] at hl'; cases hl'
    have lsl : l ≠ sl := fun e => by rw [e, updM_ne (Ne.symm sys), hs2] at hl'; cases hl'
    have hm4 : μ4 mv = some (.lst (ms.map SV.int)) := m4 _ _ mvd (by rw [updM_ne (Ne.symm lmv), updM_ne (Ne.symm sym)]; exact hm2)
    have hs4 : μ4 sl = some (.lst ((srcs R).map SV.int)) := m4 _ _ sld (by rw [updM_ne (Ne.symm lsl), updM_ne (Ne.symm sys)]; exact hs2)
    have hy4 : μ4 sy = some (.lst []) := m4 _ _ syd (by rw [updM_ne (Ne.symm lsy), updM_same])
    have mm4 : MBut da μ μ4 := ((m2.newc hsy).newc hl').trans m4
    obtain ⟨cnt, hcnt, hcc⟩ := at_ints (zs := [0, 1, 1, 2, 0, 1, 2, 8]) (k := k2) (by simp; omega)
    have c8 : 0 ≤ cnt ∧ cnt ≤ 8 := by
      simp only [List.mem_cons, List.not_mem_nil, or_false] at hcnt
      omega
    refine ⟨l, _, _, _, rfl, rfl, .inl hl4, hcc, cnt, rfl, by omega, by omega, ?_⟩
    refine ⟨fun i ρ μ' => ∃ (ss : List (Int × Int)) (a8 : Option SV), MBut da μ μ' ∧ DrawSt μ' da ∧ μ' sl = some (.lst ((srcs R).map SV.int)) ∧ μ' mv = some (.lst (ms.map SV.int)) ∧ μ' sy = some (.lst (ss.map fun p => .dat (encS p))) ∧ ss.length = i ∧ (∀ p ∈ ss, SrcOk R p.2) ∧ ρ = [some (.loc da), some (.int R), some (.int S), some (.dat (encC c)), some (.loc sl), some (.loc mv), a6, some (.loc sy), a8],
      ⟨[], _, mm4, d4, hs4, hm4, hy4, rfl, by simp, rfl⟩, fun _ _ _ _ _ => trivial, ?_, ?_⟩
    · rintro i x ρ1 μ5 hi rfl ⟨ss, a8, m5, d5, hs5, hm5, hy5, hsl', hok', rfl⟩
      show WS _ [_, _, _, _, _, _, _, _, _] _ _ _
      refine' w_one <| w_expr <| e_append <| e_var (i := 7) rfl ⟨sy, rfl, ⟨_, hy5⟩, ?_⟩
      refine' e_tup <| a_cons <| e_ixL <| e_lst <| a_cons <| e_int <| a_cons <| e_int <| a_cons <| e_int <| a_cons <| e_int <| a_cons <| e_int <| a_cons <| e_pow <| e_int <| e_int ⟨10, 40, rfl, rfl, ⟨by omega, by omega, by decide⟩, ?_⟩
      refine a_nil ⟨sz, fun l2 hl2 => ?_⟩
      have l2d := d5.ne hl2
      refine e_take (i := 0) ct hr rfl (e_int ⟨6, rfl, d5.upd l2d, by omega, fun μ6 k3 m6 d6 hk3 => ?_⟩) (by omega)
      have hl6 := m6 _ _ l2d updM_same
      have l2y : l2 ≠ sy := fun e => by rw [e, hy5] at hl2; cases hl2
      have l2m : l2 ≠ mv := fun e => by rw [e, hm5] at hl2; cases hl2
      have l2s : l2 ≠ sl := fun e => by rw [e, hs5] at hl2; cases hl2
      have hm6 : μ6 mv = some (.lst (ms.map SV.int)) := m6 _ _ mvd (by rw [updM_ne (Ne.symm l2m)]; exact hm5)
      have hs6 : μ6 sl = some (.lst ((srcs R).map SV.int)) := m6 _ _ sld (by rw [updM_ne (Ne.symm l2s)]; exact hs5)
      have hy6 : μ6 sy = some (.lst (ss.map fun p => .dat (encS p))) := m6 _ _ syd (by rw [updM_ne (Ne.symm l2y)]; exact hy5)
      obtain ⟨told, _, htt⟩ := at_ints (zs := [0, 1, 0, 1, 2, 10 ^ (40 : Int).toNat]) (k := k3) (by simp; omega)
      refine ⟨l2, _, _, _, rfl, rfl, .inl hl6, htt, a_cons <| e_ixL <| e_var (i := 4) rfl <| e_take (i := 0) ct hr rfl (e_len M.len <| e_var (i := 4) rfl <| .inr ⟨sl, _, rfl, .inl hs6, _, rfl, d6, by omega, fun μ7 k4 m7 d7 hk4 => ?_⟩) (by omega)⟩
      obtain ⟨z, hz, hzz⟩ := at_ints (zs := srcs R) (k := k4) (by omega)
      have hy7 := m7 _ _ syd hy6
      refine ⟨sl, _, _, _, rfl, rfl, .inl (m7 _ _ sld hs6), hzz, a_nil ⟨[.int told, .int z], rfl, sz, _, hy7, by rw [List.length_map]; omega, ss ++ [(told, z)], _, ?_, d7.upd syd, by rw [updM_ne (Ne.symm sys)]; exact m7 _ _ sld hs6, by rw [updM_ne (Ne.symm sym)]; exact m7 _ _ mvd hm6, by rw [updM_same, List.map_append]; rfl, by rw [List.length_append, hsl']; rfl, fun p hp => ?_, rfl⟩⟩
      · exact MBut.fresh (((m5.newc hl2).trans m6).trans m7) syμ
      · rcases List.mem_append.mp hp with h | h
        · exact hok' p h
        · rw [List.mem_singleton.mp h]; exact srcs_ok hz
    · rintro ρ1 μ5 ⟨ss, a8, m5, d5, hs5, hm5, hy5, hsl', hok', rfl⟩
      show WS _ [_, _, _, _, _, _, _, _, _] _ _ _
      refine' w_one <| w_ret <| e_tup <| a_cons <| e_var (i := 3) rfl <| a_cons <| e_tuple M.tuple <| e_var (i := 5) rfl ⟨mv, ms.map .int, rfl, .inl (by rw [hm5, List.map_map]; rfl), a_cons <| e_tuple M.tuple <| e_var (i := 7) rfl ⟨sy, ss.map encS, rfl, .inl (by rw [hy5, List.map_map]; rfl), a_cons <| e_take (i := 0) ct hr rfl (e_var (i := 2) rfl ⟨_, rfl, d5, by omega, fun μ6 k m6 d6 hk => a_nil ⟨[_, _, _, _], rfl, sz, ?_⟩⟩) (by omega)⟩⟩
      exact hP μ6 ⟨c, ms, ss, k⟩ (m5.trans m6) d6 fun D hc => ⟨hc, hl, hok, hok', by show ss.length ≤ 8; omega, by show k < S; omega⟩
end
end AV
-- text W16
set_option Elab.async false
set_option linter.all false
set_option maxRecDepth 100000
set_option maxHeartbeats 4000000
namespace AV
open PySem L2 TH
structure MD (D L : Nat) (m : Machine) : Prop where
  tags : 1 ≤ m.tags ∧ m.tags ≤ 10
  regs : m.regs ≤ 20
  steps : 1 ≤ m.steps.length ∧ m.steps.length ≤ 20
  rows : ∀ rows ∈ m.steps, rows.length = m.tags
  row : ∀ rows ∈ m.steps, ∀ row ∈ rows, row.length ≤ L
  case : ∀ rows ∈ m.steps, ∀ row ∈ rows, ∀ k ∈ row, CaseD D m.regs m.steps.length k
theorem MD.ok {D L : Nat} {m : Machine} (h : MD D L m) (hD : D ≤ 8) (hL : L ≤ 1000) : MOk m :=
  ⟨⟨h.tags.1, by have := h.tags; omega⟩, h.regs, ⟨h.steps.1, by have := h.steps; omega⟩, h.rows, fun r hr w hw => by have := h.row r hr w hw; omega, fun r hr w hw k hk => (h.case r hr w hw k hk).ok hD⟩
section
variable {P : Program} {w : World} {K : PySem.W.Frag} {mg : Str → Option Value} {base : Heap} {f : Addr} {fd : FuncData}
def G_drawn_machine : Gs := fun rs μ P => ∃ (da : Addr) (T R S : Nat), rs = [.loc da, .int T, .int R, .int S] ∧ DrawSt μ da ∧ 1 ≤ T ∧ T ≤ 9 ∧ R ≤ 20 ∧ 1 ≤ S ∧ S ≤ 20 ∧
  ∀ μ' m, MBut da μ μ' → DrawSt μ' da → m.tags = T → m.regs = R → m.steps.length = S → MD 1 3 m → P μ' (.dat (encM m))
theorem sc_drawn_machine : FnScope ["_law_draws_here", "_law_tags", "_law_registers", "_law_standings", "_law_steps", "_law_standing", "_law_rows", "_law_tag", "_law_cases", "_law_k", "_law_condition_here"] ["_law_draws_here", "_law_tags", "_law_registers", "_law_standings"] (defScope s__law_drawn_machine) := ⟨rfl, rfl, rfl, by decide +kernel, rfl, by decide +kernel, by decide +kernel⟩
theorem ok_drawn_machine (F : FD K "_law_drawn_machine" "_law_drawn_machine" s__law_drawn_machine f fd) (M : Md mg) (ct : Fn P w K mg base 1 "_law_take" G_take) (cc : Fn P w K mg base 4 "_law_condition" (G_condition 2)) (cd : Fn P w K mg base 2 "_law_drawn_case" G_drawn_case) : FnOk P w K mg base C8.CX0 5 f fd ["_law_draws_here", "_law_tags", "_law_registers", "_law_standings"] (spOf P w K G_drawn_machine) := by
  refine ok_of F sc_drawn_machine (fun rs μ Po ⟨_, _, _, _, e, _⟩ => by rw [e]; rfl) fun cdv A outer s0 H E rs μ Po hr ⟨da, T, R, S, e, hda, hT, hT2, hR, hS, hS2, hP⟩ => ?_
  subst e
  refine w_cons <| w_set (i := 4) sc_drawn_machine.nd <| e_lst <| a_nil ⟨sz, fun st hst => ?_⟩
  have std := hda.ne hst
  show WS _ [_, _, _, _, _, _, _, _, _, _, _] _ _ _
  refine w_cons <| w_for (g := gN 5) (sl := [5]) PassesOwn.never rfl (g_name sc_drawn_machine.nd) <| i_range M.range <| e_var (i := 3) rfl ⟨(S : Int), rfl, by omega, by omega, ?_⟩
  refine ⟨fun i ρ μ' => ∃ (ss : List (List (List Case))) (a5 a6 a7 a8 a9 a10 : Option SV), MBut da μ μ' ∧ DrawSt μ' da ∧ μ' st = some (.lst (ss.map fun r => .dat (encRows r))) ∧ ss.length = i ∧ (∀ rows ∈ ss, rows.length = T ∧ ∀ row ∈ rows, row.length ≤ 3 ∧ ∀ k ∈ row, CaseD 1 R S k) ∧
      ρ = [some (.loc da), some (.int T), some (.int R), some (.int S), some (.loc st), a5, a6, a7, a8, a9, a10],
    ⟨[], _, _, _, _, _, _, (MBut.refl _ _).newc hst, hda.upd std, updM_same, rfl, by simp, rfl⟩, fun _ _ _ _ _ => trivial, ?_, ?_⟩
  · rintro i x ρ1 μ2 hi rfl ⟨ss, a5, a6, a7, a8, a9, a10, m2, d2, hs2, hl, hok, rfl⟩
    show WS _ [_, _, _, _, _, _, _, _, _, _, _] _ _ _
    refine w_cons <| w_set (i := 6) sc_drawn_machine.nd <| e_lst <| a_nil ⟨sz, fun rl hrl => ?_⟩
    have rld := d2.ne hrl
    have rls : rl ≠ st := fun e => by rw [e, hs2] at hrl; cases hrl
    have rlμ := m2.back rld hrl
    show WS _ [_, _, _, _, _, _, _, _, _, _, _] _ _ _
    refine w_cons <| w_for (g := gN 7) (sl := [7]) PassesOwn.never rfl (g_name sc_drawn_machine.nd) <| i_range M.range <| e_var (i := 1) rfl ⟨(T : Int), rfl, by omega, by omega, ?_⟩
    refine ⟨fun t ρ μ' => ∃ (rows : List (List Case)) (a5 a7 a8 a9 a10 : Option SV), MBut da μ μ' ∧ DrawSt μ' da ∧ μ' st = some (.lst (ss.map fun r => .dat (encRows r))) ∧ μ' rl = some (.lst (rows.map fun r => .dat (encRow r))) ∧ rows.length = t ∧ (∀ row ∈ rows, row.length ≤ 3 ∧ ∀ k ∈ row, CaseD 1 R S k) ∧
        ρ = [some (.loc da), some (.int T), some (.int R), some (.int S), some (.loc st), a5, some (.loc rl), a7, a8, a9, a10],
      ⟨[], _, _, _, _, _, m2.newc hrl, d2.upd rld, by rw [updM_ne (Ne.symm rls)]; exact hs2, updM_same, rfl, by simp, rfl⟩, fun _ _ _ _ _ => trivial, ?_, ?_⟩
    · rintro t x ρ2 μ3 ht rfl ⟨rows, a5, a7, a8, a9, a10, m3, d3, hs3, hr3, hrl3, hok3, rfl⟩
      show WS _ [_, _, _, _, _, _, _, _, _, _, _] _ _ _
      refine w_cons <| w_set (i := 8) sc_drawn_machine.nd <| e_lst <| a_nil ⟨sz, fun cl hcl => ?_⟩
      have cld := d3.ne hcl
      have cls : cl ≠ st := fun e => by rw [e, hs3] at hcl; cases hcl
      have clr : cl ≠ rl := fun e => by rw [e, hr3] at hcl; cases hcl
      have clμ := m3.back cld hcl
      show WS _ [_, _, _, _, _, _, _, _, _, _, _] _ _ _
      refine w_cons <| w_for (g := gN 9) (sl := [9]) PassesOwn.never rfl (g_name sc_drawn_machine.nd) <| i_range M.range <| e_ixL <| e_lst <| a_cons <| e_int <| a_cons <| e_int <| a_cons <| e_int <| a_cons <| e_int <| a_cons <| e_int <| a_cons <| e_int <| a_nil ⟨sz, fun l hl' => ?_⟩
      have d4 := d3.upd (c := .lst []) cld
      have ld := d4.ne hl'
      refine e_take (i := 0) ct hr rfl (e_int ⟨6, rfl, d4.upd ld, by omega, fun μ4 k2 m4 d5 hk2 => ?_⟩) (by omega)
      have hl4 := m4 _ _ ld updM_same
      have lc : l ≠ cl := fun e => by rw [e, updM_same] at hl'; cases hl'
      have ls : l ≠ st := fun e => by rw [e, updM_ne (Ne.symm cls), hs3] at hl'; cases hl'
      have lr : l ≠ rl := fun e => by rw [e, updM_ne (Ne.symm clr), hr3] at hl'; cases hl'
      have hs4 : μ4 st = some (.lst (ss.map fun r => .dat (encRows r))) := m4 _ _ std (by rw [updM_ne (Ne.symm ls), updM_ne (Ne.symm cls)]; exact hs3)
      have hr4 : μ4 rl = some (.lst (rows.map fun r => .dat (encRow r))) := m4 _ _ rld (by rw [updM_ne (Ne.symm lr), updM_ne (Ne.symm clr)]; exact hr3)
      have hc4 : μ4 cl = some (.lst []) := m4 _ _ cld (by rw [updM_ne (Ne.symm lc), updM_same])
      obtain ⟨cnt, hcnt, hcc⟩ := at_ints (zs := [1, 1, 2, 2, 3, 0]) (k := k2) (by simp; omega)
      have c8 : 0 ≤ cnt ∧ cnt ≤ 3 := by
        simp only [List.mem_cons, List.not_mem_nil, or_false] at hcnt
        omega
      refine ⟨l, _, _, _, rfl, rfl, .inl hl4, hcc, cnt, rfl, by omega, by omega, ?_⟩
      refine ⟨fun j ρ μ' => ∃ (ks : List Case) (a9 a10 : Option SV), MBut da μ μ' ∧ DrawSt μ' da ∧ μ' st = some (.lst (ss.map fun r => .dat (encRows r))) ∧ μ' rl = some (.lst (rows.map fun r => .dat (encRow r))) ∧ μ' cl = some (.lst (ks.map fun k => .dat (encK k))) ∧ ks.length = j ∧ (∀ k ∈ ks, CaseD 1 R S k) ∧
          ρ = [some (.loc da), some (.int T), some (.int R), some (.int S), some (.loc st), a5, some (.loc rl), some (.int (0 + (t : Int))), some (.loc cl), a9, a10],
        ⟨[], _, _, ((m3.newc hcl).newc hl').trans m4, d5, hs4, hr4, hc4, rfl, by simp, rfl⟩, fun _ _ _ _ _ => trivial, ?_, ?_⟩
      · rintro j x ρ3 μ5 hj rfl ⟨ks, a9, a10, m5, d6, hs5, hr5, hc5, hkl, hkok, rfl⟩
        show WS _ [_, _, _, _, _, _, _, _, _, _, _] _ _ _
        refine w_cons <| w_set (i := 10) sc_drawn_machine.nd <| e_call cc hr (a_cons <| e_var (i := 0) rfl <| a_cons <| e_var (i := 2) rfl <| a_cons <| e_int <| a_nil ⟨da, R, rfl, d6, hR, fun μ6 c m6 d7 hc => ?_⟩) (by omega)
        show WS _ [_, _, _, _, _, _, _, _, _, _, _] _ _ _
        have hc6 := m6 _ _ cld hc5
        refine w_one <| w_expr <| e_append <| e_var (i := 8) rfl ⟨cl, rfl, ⟨_, hc6⟩, e_call cd hr (a_cons <| e_var (i := 0) rfl <| a_cons <| e_var (i := 2) rfl <| a_cons <| e_var (i := 3) rfl <| a_cons <| e_var (i := 10) rfl <| a_nil ⟨da, R, S, c, rfl, d7, hR, by omega, fun μ7 k m7 d8 hk => ?_⟩) (by omega)⟩
        refine ⟨_, m7 _ _ cld hc6, by rw [List.length_map]; omega, ks ++ [k], _, _, (((m5.trans m6).trans m7)).fresh clμ, d8.upd cld, by rw [updM_ne (Ne.symm cls)]; exact m7 _ _ std (m6 _ _ std hs5), by rw [updM_ne (Ne.symm clr)]; exact m7 _ _ rld (m6 _ _ rld hr5), by rw [updM_same, List.map_append]; rfl, by rw [List.length_append, hkl]; rfl, fun k' h => ?_, rfl⟩
        rcases List.mem_append.mp h with h | h
        · exact hkok k' h
        · rw [List.mem_singleton.mp h]; exact hk 1 hc
      · rintro ρ3 μ5 ⟨ks, a9, a10, m5, d6, hs5, hr5, hc5, hkl, hkok, rfl⟩
        refine w_one <| w_expr <| e_append <| e_var (i := 6) rfl ⟨rl, rfl, ⟨_, hr5⟩, e_tuple M.tuple <| e_var (i := 8) rfl ⟨cl, ks.map encK, rfl, .inl (by rw [hc5, List.map_map]; rfl), _, hr5, by rw [List.length_map]; omega, ?_⟩⟩
        refine ⟨rows ++ [ks], _, _, _, _, _, m5.fresh rlμ, d6.upd rld, by rw [updM_ne (Ne.symm rls)]; exact hs5, by rw [updM_same, List.map_append]; rfl, by rw [List.length_append, hrl3]; rfl, fun row h => ?_, rfl⟩
        rcases List.mem_append.mp h with h | h
        · exact hok3 row h
        · rw [List.mem_singleton.mp h]; exact ⟨by omega, hkok⟩
    · rintro ρ2 μ3 ⟨rows, a5, a7, a8, a9, a10, m3, d3, hs3, hr3, hrl3, hok3, rfl⟩
      have stμ : μ st = none := hst
      refine w_one <| w_expr <| e_append <| e_var (i := 4) rfl ⟨st, rfl, ⟨_, hs3⟩, e_tuple M.tuple <| e_var (i := 6) rfl ⟨rl, rows.map encRow, rfl, .inl (by rw [hr3, List.map_map]; rfl), _, hs3, by rw [List.length_map]; omega, ?_⟩⟩
      refine ⟨ss ++ [rows], _, _, _, _, _, _, m3.fresh stμ, d3.upd std, by rw [updM_same, List.map_append]; rfl, by rw [List.length_append, hl]; rfl, fun rws h => ?_, rfl⟩
      rcases List.mem_append.mp h with h | h
      · exact hok rws h
      · rw [List.mem_singleton.mp h]
        exact ⟨by rw [hrl3, Int.toNat_natCast], hok3⟩
  · rintro ρ1 μ2 ⟨ss, a5, a6, a7, a8, a9, a10, m2, d2, hs2, hl, hok, rfl⟩
    rw [Int.toNat_natCast] at hl
    refine w_one <| w_ret <| e_tup <| a_cons <| e_var (i := 1) rfl <| a_cons <| e_var (i := 2) rfl <| a_cons <| e_tuple M.tuple <| e_var (i := 4) rfl ⟨st, ss.map encRows, rfl, .inl (by rw [hs2, List.map_map]; rfl), a_nil ⟨[_, _, _], rfl, sz, ?_⟩⟩
    exact hP μ2 ⟨T, R, ss⟩ m2 d2 rfl rfl hl ⟨⟨hT, by show T ≤ 10; omega⟩, hR, by show 1 ≤ ss.length ∧ ss.length ≤ 20; omega, fun r h => (hok r h).1, fun r h w' h' => ((hok r h).2 w' h').1, fun r h w' h' k hk => by
      have := ((hok r h).2 w' h').2 k hk
      show CaseD 1 R ss.length k
      rw [hl]; exact this⟩
end
end AV
-- text W17
set_option Elab.async false
set_option linter.all false
set_option maxRecDepth 100000
set_option maxHeartbeats 4000000
namespace AV
open PySem L2 TH
theorem set_cutA {α : Type} (xs : List α) (r : Nat) (x : α) (h : r < xs.length) : xs.take r ++ [x] ++ xs.drop (r + 1) = xs.set r x := by
  rw [List.set_eq_take_append_cons_drop, if_pos h, List.append_assoc]; rfl
theorem cut_len {α : Type} (xs : List α) (lo hi : Option Int) : (cutD xs lo hi).length ≤ xs.length := by
  unfold cutD; rw [List.length_take, List.length_drop]; omega
theorem cut_set {α β : Type} (f : α → β) (xs : List α) (r : Nat) (x : α) (h : r < xs.length) : cutD (xs.map f) none (some (r : Int)) ++ [f x] ++ cutD (xs.map f) (some ((r : Int) + 1)) none = (xs.set r x).map f := by
  rw [cut_take, show ((r : Int) + 1) = ((r + 1 : Nat) : Int) by omega, cut_drop, ← set_cutA xs r x h, List.map_append, List.map_append, List.map_take, List.map_drop]; rfl
section
variable {P : Program} {w : World} {K : PySem.W.Frag} {mg : Str → Option Value} {base : Heap} {f : Addr} {fd : FuncData}
def withCase (m : Machine) (s t : Nat) (ks : List Case) : Machine := ⟨m.tags, m.regs, m.steps.set s (((m.steps[s]?).getD []).set t ks)⟩
def G_with_case : Gs := fun rs μ P => ∃ (m : Machine) (s t : Nat) (rows : List (List Case)) (cl : Addr) (ks : List Case), rs = [.dat (encM m), .int s, .int t, .loc cl] ∧ m.steps[s]? = some rows ∧ t < rows.length ∧ μ cl = some (.lst (ks.map fun k => .dat (encK k))) ∧ m.steps.length ≤ 1000 ∧ rows.length ≤ 1000 ∧
  Pu μ P (.dat (encM (withCase m s t ks)))
theorem sc_with_case : FnScope ["_law_machine_here", "_law_standing", "_law_tag", "_law_cases", "_law_row"] ["_law_machine_here", "_law_standing", "_law_tag", "_law_cases"] (defScope s__law_with_case) := ⟨rfl, rfl, rfl, by decide +kernel, rfl, by decide +kernel, by decide +kernel⟩
theorem ok_with_case (F : FD K "_law_with_case" "_law_with_case" s__law_with_case f fd) (M : Md mg) : FnOk P w K mg base C8.CX0 1 f fd ["_law_machine_here", "_law_standing", "_law_tag", "_law_cases"] (spOf P w K G_with_case) := by
  refine ok_of F sc_with_case (fun rs μ Po ⟨_, _, _, _, _, _, e, _⟩ => by rw [e]; rfl) fun cdv A outer s0 H E rs μ Po hr ⟨m, s, t, rows, cl, ks, e, hs, ht, hcl, l1, l2, hP⟩ => ?_
  subst e
  have hsl : s < m.steps.length := (List.getElem?_eq_some_iff.mp hs).1
  refine w_cons <| w_set (i := 4) sc_with_case.nd <| e_ixV (n := s) (ds := m.steps.map encRows) (d := encRows rows) (by rw [List.getElem?_map, hs]; rfl) <| e_ixK <| e_var (i := 0) rfl ⟨_, .tuple (m.steps.map encRows), rfl, rfl, rfl, e_var (i := 1) rfl ⟨rfl, ?_⟩⟩
  show WS _ [_, _, _, _, _] _ _ _
  have z1 : ∀ {a b c : Nat}, a ≤ 1000 → b ≤ 1000 → a + b ≤ sizeLine := fun h k => by rw [sizeLine_eq]; omega
  refine w_cons <| w_set (i := 4) sc_with_case.nd <| e_catT <| e_catT <| e_slT <| e_var (i := 4) rfl <| (show WE _ _ _ _ _ from e_var (i := 2) rfl ⟨_, rfl, rows.map encRow, rfl, e_tup <| a_cons <| e_tuple M.tuple <| e_var (i := 3) rfl ⟨cl, ks.map encK, rfl, .inl (by rw [hcl, List.map_map]; rfl), a_nil ⟨[encRow ks], rfl, sz, _, _, rfl, rfl, ?_, e_slT <| e_var (i := 4) rfl <| (show WE _ _ _ _ _ from e_add <| e_var (i := 2) rfl <| e_int ⟨_, _, rfl, rfl, _, rfl, rows.map encRow, rfl, _, _, rfl, rfl, ?_, ?_⟩)⟩⟩⟩)
  · have := cut_len (rows.map encRow) none (some (t : Int))
    rw [List.length_map] at this
    simp only [List.length_singleton]
    rw [sizeLine_eq]; omega
  · have h1 := cut_len (rows.map encRow) none (some (t : Int))
    have h2 := cut_len (rows.map encRow) (some ((t : Int) + 1)) none
    rw [List.length_map] at h1 h2
    rw [List.length_append]
    simp only [List.length_singleton]
    rw [sizeLine_eq]; omega
  rw [cut_set encRow rows t ks ht]
  show WS _ [_, _, _, _, _] _ _ _
  refine w_one <| w_ret <| e_tup <| a_cons <| e_ixK <| e_var (i := 0) rfl ⟨_, .int m.tags, rfl, rfl, a_cons <| e_ixK <| e_var (i := 0) rfl ⟨_, .int m.regs, rfl, rfl, a_cons <| e_catT <| e_catT <| e_slT <| e_ixK <| e_var (i := 0) rfl ⟨_, .tuple (m.steps.map encRows), rfl, rfl, (show WE _ _ _ _ _ from e_var (i := 1) rfl ⟨_, rfl, m.steps.map encRows, rfl, e_tup <| a_cons <| e_var (i := 4) rfl <| a_nil ⟨[encRows (rows.set t ks)], rfl, sz, _, _, rfl, rfl, ?_, e_slT <| e_ixK <| e_var (i := 0) rfl ⟨_, .tuple (m.steps.map encRows), rfl, rfl, (show WE _ _ _ _ _ from e_add <| e_var (i := 1) rfl <| e_int ⟨_, _, rfl, rfl, _, rfl, m.steps.map encRows, rfl, _, _, rfl, rfl, ?_, a_nil ⟨[_, _, _], rfl, sz, ?_⟩⟩)⟩⟩⟩)⟩⟩⟩
  · have := cut_len (m.steps.map encRows) none (some (s : Int))
    rw [List.length_map] at this
    simp only [List.length_singleton]
    rw [sizeLine_eq]; omega
  · have h1 := cut_len (m.steps.map encRows) none (some (s : Int))
    have h2 := cut_len (m.steps.map encRows) (some ((s : Int) + 1)) none
    rw [List.length_map] at h1 h2
    rw [List.length_append]
    simp only [List.length_singleton]
    rw [sizeLine_eq]; omega
  rw [cut_set encRows m.steps s (rows.set t ks) hsl]
  have := hP μ (MSub.refl μ)
  unfold encM withCase at this
  rw [hs, Option.getD_some] at this
  exact this
end
end AV
-- text W18
set_option Elab.async false
set_option linter.all false
set_option maxRecDepth 100000
set_option maxHeartbeats 4000000
namespace AV
open PySem L2 TH
theorem MD.at_ {D L : Nat} {m : Machine} (o : MD D L m) {st t : Nat} (h1 : st < m.steps.length) (h2 : t < m.tags) : ∃ rows row, m.steps[st]? = some rows ∧ rows[t]? = some row ∧ rows.length = m.tags ∧ row.length ≤ L ∧ ∀ k ∈ row, CaseD D m.regs m.steps.length k := by
  have hr : m.steps[st]? = some m.steps[st] := List.getElem?_eq_getElem h1
  have hm : m.steps[st] ∈ m.steps := List.getElem_mem h1
  have ht : t < m.steps[st].length := by rw [o.rows _ hm]; exact h2
  exact ⟨_, _, hr, List.getElem?_eq_getElem ht, o.rows _ hm, o.row _ hm _ (List.getElem_mem ht), o.case _ hm _ (List.getElem_mem ht)⟩
theorem mem_setD {α : Type} {xs : List α} {i : Nat} {x y : α} (h : y ∈ xs.set i x) : y ∈ xs ∨ y = x := List.mem_or_eq_of_mem_set h
theorem eraseMap {α β : Type} (f : α → β) : ∀ (xs : List α) (i : Nat), (xs.map f).eraseIdx i = (xs.eraseIdx i).map f
  | [], i => by simp
  | x :: xs, 0 => by simp
  | x :: xs, i + 1 => by simp [eraseMap f xs i]
/-- one row of cases changed -/
theorem MD.withC {D L L' s t : Nat} {m : Machine} {rows : List (List Case)} {ks : List Case} (o : MD D L m) (hL : L ≤ L') (hs : m.steps[s]? = some rows) (hl : ks.length ≤ L') (hk : ∀ k ∈ ks, CaseD D m.regs m.steps.length k) : MD D L' (withCase m s t ks) := by
  have hm := List.mem_of_getElem? hs
  have e : (withCase m s t ks).steps = m.steps.set s (rows.set t ks) := by unfold withCase; rw [hs]; rfl
  have el : (withCase m s t ks).steps.length = m.steps.length := by rw [e, List.length_set]
  refine ⟨o.tags, o.regs, by rw [el]; exact o.steps, fun r hr => ?_, fun r hr w hw => ?_, fun r hr w hw k hk' => ?_⟩
  · rw [e] at hr
    rcases mem_setD hr with h | h
    · exact o.rows r h
    · rw [h, List.length_set]; exact o.rows rows hm
  · rw [e] at hr
    rcases mem_setD hr with h | h
    · exact Nat.le_trans (o.row r h w hw) hL
    · rw [h] at hw
      rcases mem_setD hw with h | h
      · exact Nat.le_trans (o.row rows hm w h) hL
      · rw [h]; exact hl
  · show CaseD D m.regs (withCase m s t ks).steps.length k
    rw [el]
    rw [e] at hr
    rcases mem_setD hr with h | h
    · exact o.case r h w hw k hk'
    · rw [h] at hw
      rcases mem_setD hw with h | h
      · exact o.case rows hm w h k hk'
      · rw [h] at hk'; exact hk k hk'
/-- a case with one part of another -/
def mixK (i : Nat) (a b : Case) : Case := match i with
  | 0 => ⟨b.cond, a.moves, a.says, a.next⟩
  | 1 => ⟨a.cond, b.moves, a.says, a.next⟩
  | 2 => ⟨a.cond, a.moves, b.says, a.next⟩
  | _ => ⟨a.cond, a.moves, a.says, b.next⟩
theorem CaseD.mix {D n st : Nat} {a b : Case} (ha : CaseD D n st a) (hb : CaseD D n st b) (i : Nat) : CaseD D n st (mixK i a b) := by
  unfold mixK
  split
  · exact ⟨hb.cond, ha.moves, ha.srcs, ha.says, ha.few, ha.next⟩
  · exact ⟨ha.cond, hb.moves, hb.srcs, ha.says, ha.few, ha.next⟩
  · exact ⟨ha.cond, ha.moves, ha.srcs, hb.says, hb.few, ha.next⟩
  · exact ⟨ha.cond, ha.moves, ha.srcs, ha.says, ha.few, hb.next⟩
def partsK (k : Case) : List PyData := [encC k.cond, .tuple (k.moves.map .int), .tuple (k.says.map encS), .int k.next]
theorem parts_mix (a b : Case) (i : Nat) (hi : i < 4) : partsK (mixK i a b) = (partsK a).set i ((partsK b)[i]?.getD .none) := by
  have h : i = 0 ∨ i = 1 ∨ i = 2 ∨ i = 3 := by omega
  rcases h with e | e | e | e <;> subst e <;> rfl
section
variable {P : Program} {w : World} {K : PySem.W.Frag} {mg : Str → Option Value} {base : Heap} {f : Addr} {fd : FuncData}
def G_changed : Gs := fun rs μ P => ∃ (da : Addr) (m : Machine) (D L : Nat), rs = [.loc da, .dat (encM m)] ∧ DrawSt μ da ∧ MD D L m ∧ 1 ≤ D ∧ L ≤ 900 ∧
  ∀ μ' m', MBut da μ μ' → DrawSt μ' da → m'.tags = m.tags → m'.regs = m.regs → m'.steps.length = m.steps.length → MD D (L + 1) m' → P μ' (.dat (encM m'))
theorem sc_changed : FnScope ["_law_draws_here", "_law_machine_here", "_law_standing", "_law_tag", "_law_cases", "_law_at_here", "_law_kind", "_law_case_here"] ["_law_draws_here", "_law_machine_here"] (defScope s__law_changed) := ⟨rfl, rfl, rfl, by decide +kernel, rfl, by decide +kernel, by decide +kernel⟩
theorem ok_changed (F : FD K "_law_changed" "_law_changed" s__law_changed f fd) (M : Md mg) (ct : Fn P w K mg base 1 "_law_take" G_take) (cc : Fn P w K mg base 4 "_law_condition" (G_condition 2)) (cd : Fn P w K mg base 2 "_law_drawn_case" G_drawn_case) (cw : Fn P w K mg base 1 "_law_with_case" G_with_case) : FnOk P w K mg base C8.CX0 5 f fd ["_law_draws_here", "_law_machine_here"] (spOf P w K G_changed) := by
  refine ok_of F sc_changed (fun rs μ Po ⟨_, _, _, _, e, _⟩ => by rw [e]; rfl) fun cdv A outer s0 H E rs μ Po hr ⟨da, m, D, L, e, hda, om, hD, hL, hP⟩ => ?_
  subst e
  have ht := om.tags
  have hst := om.steps
  have hR := om.regs
  refine w_cons <| w_set (i := 2) sc_changed.nd <| e_take (i := 0) ct hr rfl (e_len M.len <| e_ixK <| e_var (i := 1) rfl ⟨_, .tuple (m.steps.map encRows), rfl, rfl, .inl ⟨_, rfl, _, rfl, hda, by rw [List.length_map]; omega, fun μ1 s m1 d1 hs => ?_⟩⟩) (by omega)
  rw [List.length_map] at hs
  have hs : s < m.steps.length := by omega
  refine w_cons <| w_set (i := 3) sc_changed.nd <| e_take (i := 0) ct hr rfl (e_ixK <| e_var (i := 1) rfl ⟨_, .int m.tags, rfl, rfl, _, rfl, d1, by omega, fun μ2 t m2 d2 htg => ?_⟩) (by omega)
  have htg : t < m.tags := by omega
  obtain ⟨rows, row, h1, h2, h3, h4, h5⟩ := om.at_ hs htg
  show WS _ [_, _, _, _, _, _, _, _] _ _ _
  refine w_cons <| w_set (i := 4) sc_changed.nd <| e_list M.list <| e_ixV (n := t) (ds := rows.map encRow) (d := encRow row) (by rw [List.getElem?_map, h2]; rfl) <| e_ixV (n := s) (ds := m.steps.map encRows) (d := encRows rows) (by rw [List.getElem?_map, h1]; rfl) <| e_ixK <| e_var (i := 1) rfl ⟨_, .tuple (m.steps.map encRows), rfl, rfl, rfl, e_var (i := 2) rfl ⟨rfl, rfl, e_var (i := 3) rfl ⟨rfl, row.map fun k => .dat (encK k), .inr ⟨row.map encK, rfl, by rw [List.map_map]; rfl⟩, fun cl hcl => ?_⟩⟩⟩
  have m12 := m1.trans m2
  have cld := d2.ne hcl
  have clμ := m12.back cld hcl
  have d3 := d2.upd (c := .lst (row.map fun k => .dat (encK k))) cld
  have m3 := m12.newc (c := .lst (row.map fun k => .dat (encK k))) hcl
  have h6 : updM μ2 cl (.lst (row.map fun k => .dat (encK k))) cl = some (.lst (row.map fun k => .dat (encK k))) := updM_same
  generalize updM μ2 cl (.lst (row.map fun k => .dat (encK k))) = μ3 at *
  show WS _ [_, _, _, _, _, _, _, _] _ _ _
  refine w_cons <| w_set (i := 5) sc_changed.nd <| e_take (i := 0) ct hr rfl (e_add <| e_len M.len <| e_var (i := 4) rfl <| .inr ⟨cl, _, rfl, .inl h6, e_int ⟨_, _, rfl, rfl, _, rfl, d3, by omega, fun μ4 at_ m4 d4 hat => ?_⟩⟩) (by omega)
  rw [List.length_map] at hat
  refine w_cons <| w_set (i := 6) sc_changed.nd <| e_take (i := 0) ct hr rfl (e_int ⟨6, rfl, d4, by omega, fun μ5 kind m5 d5 hkind => ?_⟩) (by omega)
  show WS _ [_, _, _, _, _, _, _, _] _ _ _
  refine w_cons <| w_set (i := 7) sc_changed.nd <| e_call cd hr (a_cons <| e_var (i := 0) rfl <| a_cons <| e_ixK <| e_var (i := 1) rfl ⟨_, .int m.regs, rfl, rfl, a_cons <| e_len M.len <| e_ixK <| e_var (i := 1) rfl ⟨_, .tuple (m.steps.map encRows), rfl, rfl, .inl ⟨_, rfl, a_cons <| e_call cc hr (a_cons <| e_var (i := 0) rfl <| a_cons <| e_ixK <| e_var (i := 1) rfl ⟨_, .int m.regs, rfl, rfl, a_cons <| e_int <| a_nil ⟨da, m.regs, rfl, d5, hR, fun μ6 c m6 d6 hc => a_nil ⟨da, m.regs, m.steps.length, c, by rw [List.length_map], d6, hR, by omega, fun μ7 k m7 d7 hk => ?_⟩⟩⟩) (by omega)⟩⟩⟩) (by omega)
  have kD : CaseD D m.regs m.steps.length k := hk D (hc.le hD)
  have m37 := ((m4.trans m5).trans m6).trans m7
  have h7 := m37 _ _ cld h6
  have m07 := m3.trans m37
  show WS _ [_, _, _, _, _, _, _, _] _ _ _
  have fin : ∀ (μ8 : Mu) (ks : List Case), MBut da μ μ8 → DrawSt μ8 da → μ8 cl = some (.lst (ks.map fun k => .dat (encK k))) → ks.length ≤ L + 1 → (∀ k ∈ ks, CaseD D m.regs m.steps.length k) → G_with_case [.dat (encM m), .int s, .int t, .loc cl] μ8 Po := fun μ8 ks m8 d8 h8 hl hks =>
    ⟨m, s, t, rows, cl, ks, rfl, h1, by omega, h8, by omega, by omega, fun μ9 m9 => hP μ9 _ (m8.trans m9.but) (d8.sub m9) rfl rfl (by show (m.steps.set _ _).length = _; rw [List.length_set]) (om.withC (by omega) h1 hl hks)⟩
  refine w_cons <| w_if <| WT.imp (T := fun μ' b => μ' = μ7 ∧ (b = false → at_ < row.length ∧ kind ≠ 0)) ?_ fun μ' b ⟨e, hb⟩ => ?_
  · refine t_w <| t_or <| t_eqI <| e_var (i := 5) rfl <| e_len M.len <| e_var (i := 4) rfl <| .inr ⟨cl, _, rfl, .inl h7, _, _, rfl, rfl, fun h => t_or1 <| t_eqI <| e_var (i := 6) rfl <| e_int ⟨_, _, rfl, rfl, rfl, fun h2 => ?_⟩, fun h => ⟨rfl, fun z => ft z⟩⟩
    have h := of_decide_eq_false h
    have h2 := of_decide_eq_false h2
    rw [List.length_map] at h
    omega
  subst e
  have lrow : (row.map fun k => SV.dat (encK k)).length = row.length := List.length_map _
  refine ⟨fun _ => ?_, fun h => ?_⟩
  · refine w_one <| w_expr <| e_insert <| e_var (i := 4) rfl ⟨cl, rfl, ⟨_, h7⟩, e_var (i := 5) rfl <| e_var (i := 7) rfl ⟨at_, _, rfl, by omega, h7, by omega, ?_⟩⟩
    refine w_one <| w_ret <| e_call cw hr (a_cons <| e_var (i := 1) rfl <| a_cons <| e_var (i := 2) rfl <| a_cons <| e_var (i := 3) rfl <| a_cons <| e_var (i := 4) rfl <| a_nil (fin _ (row.take at_ ++ [k] ++ row.drop at_) (m07.fresh clμ) (d7.upd cld) ?_ ?_ fun k' h => ?_)) (by omega)
    · rw [updM_same, List.map_append, List.map_append, List.map_take, List.map_drop]; rfl
    · rw [List.length_append, List.length_append, List.length_take, List.length_drop, List.length_singleton]; omega
    · rcases List.mem_append.mp h with h | h
      · rcases List.mem_append.mp h with h | h
        · exact h5 k' (List.mem_of_mem_take h)
        · rw [List.mem_singleton.mp h]; exact kD
      · exact h5 k' (List.mem_of_mem_drop h)
  obtain ⟨hat2, hk0⟩ := hb h
  have hka : row[at_]? = some row[at_] := List.getElem?_eq_getElem hat2
  generalize row[at_] = ka at hka
  have oka := h5 ka (List.mem_of_getElem? hka)
  refine w_one <| w_if <| t_eqI <| e_var (i := 6) rfl <| e_int ⟨_, _, rfl, rfl, fun h => ?_, fun h => ?_⟩
  · refine w_one <| w_expr <| e_popAt <| e_var (i := 4) rfl ⟨cl, rfl, ⟨_, h7⟩, e_var (i := 5) rfl ⟨at_, _, .dat (encK ka), rfl, h7, by omega, by rw [List.getElem?_map, hka]; rfl, ?_⟩⟩
    refine w_one <| w_ret <| e_call cw hr (a_cons <| e_var (i := 1) rfl <| a_cons <| e_var (i := 2) rfl <| a_cons <| e_var (i := 3) rfl <| a_cons <| e_var (i := 4) rfl <| a_nil (fin _ (row.eraseIdx at_) (m07.fresh clμ) (d7.upd cld) ?_ ?_ fun k' h => h5 k' (List.mem_of_mem_eraseIdx h))) (by omega)
    · rw [updM_same, eraseMap]
    · have := List.length_eraseIdx_le row at_; omega
  · have hk5 := of_decide_eq_false h
    obtain ⟨i, rfl⟩ : ∃ i, kind = i + 1 := ⟨kind - 1, by omega⟩
    have hi4 : i < 4 := by omega
    have hix : atI (row.map fun k => SV.dat (encK k)) (at_ : Int) = some (.dat (encK ka)) := at_map hka
    have hix2 : ixN (row.map fun k => SV.dat (encK k)).length (at_ : Int) = some at_ := by
      unfold ixN
      rw [if_pos (by omega), if_pos (by rw [lrow]; omega)]; simp
    have hpi : (partsK k)[i]? = some ((partsK k)[i]?.getD .none) := by
      have : (partsK k).length = 4 := rfl
      rw [List.getElem?_eq_getElem (by omega)]; rfl
    have ei : (((i + 1 : Nat) : Int) - 1) = (i : Int) := by omega
    refine w_one <| w_setL <| e_catT <| e_catT <| e_slT <| e_ixL <| e_var (i := 4) rfl <| e_var (i := 5) rfl ⟨cl, _, _, _, rfl, rfl, .inl h7, hix, (show WE _ _ _ _ _ from e_sub <| e_var (i := 6) rfl <| e_int ⟨_, _, rfl, rfl, _, rfl, partsK ka, rfl, e_tup <| a_cons <| e_ixT <| e_var (i := 7) rfl <| e_sub <| e_var (i := 6) rfl <| e_int ⟨_, _, rfl, rfl, partsK k, _, (partsK k)[i]?.getD .none, rfl, rfl, by rw [ei]; exact atN hpi, a_nil ⟨[_], rfl, sz, _, _, rfl, rfl, ?_, e_slT <| e_ixL <| e_var (i := 4) rfl <| e_var (i := 5) rfl ⟨cl, _, _, _, rfl, rfl, .inl h7, hix, (show WE _ _ _ _ _ from e_var (i := 6) rfl ⟨_, rfl, partsK ka, rfl, _, _, rfl, rfl, ?_, e_var (i := 4) rfl <| e_var (i := 5) rfl ⟨cl, _, _, at_, rfl, rfl, h7, hix2, ?_⟩⟩)⟩⟩⟩⟩)⟩
    · have := cut_len (partsK ka) none (some (((i + 1 : Nat) : Int) - 1))
      have l4 : (partsK ka).length = 4 := rfl
      simp only [List.length_singleton]
      rw [sizeLine_eq]; omega
    · have h1' := cut_len (partsK ka) none (some (((i + 1 : Nat) : Int) - 1))
      have h2' := cut_len (partsK ka) (some ((i + 1 : Nat) : Int)) none
      have l4 : (partsK ka).length = 4 := rfl
      rw [List.length_append]
      simp only [List.length_singleton]
      rw [sizeLine_eq]; omega
    have eP : cutD (partsK ka) none (some (((i + 1 : Nat) : Int) - 1)) ++ [(partsK k)[i]?.getD .none] ++ cutD (partsK ka) (some ((i + 1 : Nat) : Int)) none = partsK (mixK i ka k) := by
      rw [ei, cut_take, cut_drop, set_cutA _ _ _ (by show i < 4; omega), parts_mix _ _ _ hi4]
    rw [eP]
    refine w_one <| w_ret <| e_call cw hr (a_cons <| e_var (i := 1) rfl <| a_cons <| e_var (i := 2) rfl <| a_cons <| e_var (i := 3) rfl <| a_cons <| e_var (i := 4) rfl <| a_nil (fin _ (row.set at_ (mixK i ka k)) (m07.fresh clμ) (d7.upd cld) ?_ ?_ fun k' h => ?_)) (by omega)
    · rw [updM_same, List.map_set]; rfl
    · rw [List.length_set]; omega
    · rcases mem_setD h with h | h
      · exact h5 k' h
      · rw [h]; exact oka.mix kD i
end
end AV
-- text W19
set_option Elab.async false
set_option linter.all false
set_option maxRecDepth 100000
set_option maxHeartbeats 4000000
namespace AV
open PySem L2 TH
section
variable {P : Program} {w : World} {K : PySem.W.Frag} {mg : Str → Option Value} {base : Heap} {f : Addr} {fd : FuncData}
/-! ### a cycle -/
def G_cycle : Gs := fun rs μ P => ∃ (da : Addr), rs = [.loc da] ∧ DrawSt μ da ∧ ∀ μ' m, MBut da μ μ' → DrawSt μ' da → m.tags = 1 → m.regs = 0 → 10 ≤ m.steps.length → m.steps.length ≤ 18 → MD 0 1 m → P μ' (.dat (encM m))
theorem sc_cycle : FnScope ["_law_draws_here", "_law_many_here", "_law_steps", "_law_standing", "_law_says"] ["_law_draws_here"] (defScope s__law_cycle) := ⟨rfl, rfl, rfl, by decide +kernel, rfl, by decide +kernel, by decide +kernel⟩
theorem ok_cycle (F : FD K "_law_cycle" "_law_cycle" s__law_cycle f fd) (M : Md mg) (ct : Fn P w K mg base 1 "_law_take" G_take) : FnOk P w K mg base C8.CX0 2 f fd ["_law_draws_here"] (spOf P w K G_cycle) := by
  refine ok_of F sc_cycle (fun rs μ Po ⟨_, e, _⟩ => by rw [e]; rfl) fun cdv A outer s0 H E rs μ Po hr ⟨da, e, hda, hP⟩ => ?_
  subst e
  refine w_cons <| w_set (i := 1) sc_cycle.nd <| e_add <| e_int <| e_take (i := 0) ct hr rfl (e_int ⟨9, rfl, hda, by omega, fun μ1 k m1 d1 hk => ⟨10, (k : Int), rfl, rfl, ?_⟩⟩) (by omega)
  have e1 : (10 : Int) + (k : Int) = ((10 + k : Nat) : Int) := by omega
  rw [e1]
  generalize hn : 10 + k = n
  have hn1 : 10 ≤ n ∧ n ≤ 18 := by omega
  refine w_cons <| w_set (i := 2) sc_cycle.nd <| e_lst <| a_nil ⟨sz, fun st hst => ?_⟩
  have std := d1.ne hst
  have stμ := m1.back std hst
  show WS _ [_, _, _, _, _] _ _ _
  refine w_cons <| w_for (g := gN 3) (sl := [3]) PassesOwn.never rfl (g_name sc_cycle.nd) <| i_range M.range <| e_var (i := 1) rfl ⟨(n : Int), rfl, by omega, by omega, ?_⟩
  refine ⟨fun i ρ μ' => ∃ (ks : List Case) (a3 a4 : Option SV), MBut da μ μ' ∧ DrawSt μ' da ∧ μ' st = some (.lst (ks.map fun k => .dat (encRows [[k]]))) ∧ ks.length = i ∧ (∀ k ∈ ks, CaseD 0 0 n k) ∧ ρ = [some (.loc da), some (.int n), some (.loc st), a3, a4],
    ⟨[], _, _, m1.newc hst, d1.upd std, updM_same, rfl, by simp, rfl⟩, fun _ _ _ _ _ => trivial, ?_, ?_⟩
  · rintro i x ρ1 μ2 hi rfl ⟨ks, a3, a4, m2, d2, hs2, hl, hok, rfl⟩
    have hi : i < n := by omega
    show WS _ [_, _, _, _, _] _ _ _
    refine w_cons <| w_set (i := 4) sc_cycle.nd <| e_repT <| e_tup <| a_cons <| e_tup <| a_cons <| e_int <| a_cons <| e_neg <| e_int ⟨_, rfl, a_nil ⟨[_, _], rfl, sz, a_nil ⟨[_], rfl, sz, e_int1 M.int <| e_eqI <| e_var (i := 3) rfl <| e_sub <| e_var (i := 1) rfl <| e_int ⟨_, _, rfl, rfl, _, _, rfl, rfl, .inr ⟨_, rfl, [.tuple [.int 0, .int (-1)]], _, rfl, rfl, by simp, by simp, ?_, ?_, ?_⟩⟩⟩⟩⟩
    · split <;> omega
    · split <;> omega
    obtain ⟨sy, esy, hsy⟩ : ∃ sy : List (Int × Int), (List.replicate ((if decide ((0 : Int) + (i : Int) = (n : Int) - 1) then (1 : Int) else 0)).toNat [PyData.tuple [.int 0, .int (-1)]]).flatten = sy.map encS ∧ sy.length ≤ 1 ∧ ∀ p ∈ sy, SrcOk 0 p.2 := by
      by_cases h : (0 : Int) + (i : Int) = (n : Int) - 1
      · rw [decide_eq_true h]
        exact ⟨[(0, -1)], rfl, by simp, fun p hp => by rw [List.mem_singleton.mp hp]; exact .inl rfl⟩
      · rw [decide_eq_false h]
        exact ⟨[], rfl, by simp, by simp⟩
    rw [esy]
    show WS _ [_, _, _, _, _] _ _ _
    refine w_one <| w_expr <| e_append <| e_var (i := 2) rfl ⟨st, rfl, ⟨_, hs2⟩, e_tup <| a_cons <| e_tup <| a_cons <| e_tup <| a_cons <| e_tup <| a_cons <| e_str <| a_nil ⟨[.str "true"], rfl, sz, a_cons <| e_tup <| a_nil ⟨[], rfl, sz, a_cons <| e_var (i := 4) rfl <| a_cons <| e_mod <| e_int1 M.int <| e_add <| e_var (i := 3) rfl <| e_int ⟨_, _, rfl, rfl, .inl ⟨_, rfl, e_var (i := 1) rfl ⟨_, (n : Int), rfl, rfl, by omega, a_nil ⟨[_, _, _, _], rfl, sz, a_nil ⟨[_], rfl, sz, a_nil ⟨[_], rfl, sz, _, hs2, by rw [List.length_map]; omega, ?_⟩⟩⟩⟩⟩⟩⟩⟩⟩
    have en : (0 + (i : Int) + 1) % (n : Int) = (((i + 1) % n : Nat) : Int) := by rw [Int.zero_add]; rfl
    refine ⟨ks ++ [⟨.tt, [], sy, (i + 1) % n⟩], _, _, m2.fresh stμ, d2.upd std, ?_, by rw [List.length_append, hl]; rfl, fun k' h => ?_, rfl⟩
    · rw [updM_same, List.map_append, en]
      have e9 : encRows [[(⟨.tt, [], sy, (i + 1) % n⟩ : Case)]] = .tuple [.tuple [.tuple [.tuple [.str "true"], .tuple [], .tuple (sy.map encS), .int (((i + 1) % n : Nat) : Int)]]] := by
        simp [encRows, encRow, encK, encC]
      show some (Cell.lst (_ ++ [_])) = some (Cell.lst (_ ++ [SV.dat (encRows [[(⟨.tt, [], sy, (i + 1) % n⟩ : Case)]])]))
      rw [e9]
    · rcases List.mem_append.mp h with h | h
      · exact hok k' h
      · rw [List.mem_singleton.mp h]
        exact ⟨by simp [CondOk], rfl, by simp, hsy.2, by show sy.length ≤ 8; omega, Nat.mod_lt _ (by omega)⟩
  · rintro ρ1 μ2 ⟨ks, a3, a4, m2, d2, hs2, hl, hok, rfl⟩
    rw [Int.toNat_natCast] at hl
    refine w_one <| w_ret <| e_tup <| a_cons <| e_int <| a_cons <| e_int <| a_cons <| e_tuple M.tuple <| e_var (i := 2) rfl ⟨st, (ks.map fun k => [[k]]).map encRows, rfl, .inl (by rw [hs2, List.map_map, List.map_map]; rfl), a_nil ⟨[_, _, _], rfl, sz, ?_⟩⟩
    have ll : (ks.map fun k => [[k]]).length = n := by rw [List.length_map, hl]
    have mem : ∀ r ∈ ks.map (fun k => [[k]]), ∃ k ∈ ks, r = [[k]] := fun r hr => by
      obtain ⟨k, hk, e⟩ := List.mem_map.mp hr
      exact ⟨k, hk, e.symm⟩
    exact hP μ2 ⟨1, 0, ks.map fun k => [[k]]⟩ m2 d2 rfl rfl (by show 10 ≤ (ks.map fun k => [[k]]).length; omega) (by show (ks.map fun k => [[k]]).length ≤ 18; omega) ⟨⟨by show 1 ≤ 1; omega, by show 1 ≤ 10; omega⟩, by show 0 ≤ 20; omega, by show 1 ≤ (ks.map fun k => [[k]]).length ∧ (ks.map fun k => [[k]]).length ≤ 20; omega, fun r hr => by
      obtain ⟨k, _, e⟩ := mem r hr
      rw [e]; rfl, fun r hr w' hw => by
      obtain ⟨k, _, e⟩ := mem r hr
      rw [e] at hw
      rw [List.mem_singleton.mp hw]; exact Nat.le_refl _, fun r hr w' hw k' hk' => by
      obtain ⟨k, hk, e⟩ := mem r hr
      rw [e] at hw
      rw [List.mem_singleton.mp hw] at hk'
      rw [List.mem_singleton.mp hk']
      show CaseD 0 0 (ks.map fun k => [[k]]).length k
      rw [ll]; exact hok k hk⟩
end
end AV
-- text W20
set_option Elab.async false
set_option linter.all false
set_option maxRecDepth 100000
set_option maxHeartbeats 4000000
namespace AV
open PySem L2 TH
section
variable {P : Program} {w : World} {K : PySem.W.Frag} {mg : Str → Option Value} {base : Heap} {f : Addr} {fd : FuncData}
def G_with_tag : Gs := fun rs μ P => ∃ (da : Addr) (m : Machine) (D L : Nat), rs = [.loc da, .dat (encM m)] ∧ DrawSt μ da ∧ MD D L m ∧ 1 ≤ D ∧ 1 ≤ L ∧ m.tags ≤ 9 ∧
  ∀ μ' m', MBut da μ μ' → DrawSt μ' da → m'.tags = m.tags + 1 → m'.regs = m.regs → m'.steps.length = m.steps.length → MD D L m' → P μ' (.dat (encM m'))
theorem sc_with_tag : FnScope ["_law_draws_here", "_law_machine_here", "_law_steps", "_law_row", "_law_condition_here"] ["_law_draws_here", "_law_machine_here"] (defScope s__law_with_tag) := ⟨rfl, rfl, rfl, by decide +kernel, rfl, by decide +kernel, by decide +kernel⟩
theorem ok_with_tag (F : FD K "_law_with_tag" "_law_with_tag" s__law_with_tag f fd) (M : Md mg) (ct : Fn P w K mg base 1 "_law_take" G_take) (cc : Fn P w K mg base 4 "_law_condition" (G_condition 2)) (cd : Fn P w K mg base 2 "_law_drawn_case" G_drawn_case) : FnOk P w K mg base C8.CX0 5 f fd ["_law_draws_here", "_law_machine_here"] (spOf P w K G_with_tag) := by
  refine ok_of F sc_with_tag (fun rs μ Po ⟨_, _, _, _, e, _⟩ => by rw [e]; rfl) fun cdv A outer s0 H E rs μ Po hr ⟨da, m, D, L, e, hda, om, hD, hL, hT, hP⟩ => ?_
  subst e
  have ht := om.tags
  have hst := om.steps
  have hR := om.regs
  refine w_cons <| w_set (i := 2) sc_with_tag.nd <| e_lst <| a_nil ⟨sz, fun st hs0 => ?_⟩
  have std := hda.ne hs0
  show WS _ [_, _, _, _, _] _ _ _
  refine w_cons <| w_for (g := gN 3) (sl := [3]) PassesOwn.never rfl (g_name sc_with_tag.nd) <| i_tup <| e_ixK <| e_var (i := 1) rfl ⟨_, .tuple (m.steps.map encRows), rfl, rfl, _, rfl, ?_⟩
  refine ⟨fun i ρ μ' => ∃ (ss : List (List (List Case))) (a3 a4 : Option SV), MBut da μ μ' ∧ DrawSt μ' da ∧ μ' st = some (.lst (ss.map fun r => .dat (encRows r))) ∧ ss.length = i ∧ (∀ rows ∈ ss, rows.length = m.tags + 1 ∧ ∀ row ∈ rows, row.length ≤ L ∧ ∀ k ∈ row, CaseD D m.regs m.steps.length k) ∧
      ρ = [some (.loc da), some (.dat (encM m)), some (.loc st), a3, a4],
    ⟨[], _, _, (MBut.refl _ _).newc hs0, hda.upd std, updM_same, rfl, by simp, rfl⟩, fun _ _ _ _ _ => trivial, ?_, ?_⟩
  · rintro i x ρ1 μ2 hi ⟨d, hd, rfl⟩ ⟨ss, a3, a4, m2, d2, hs2, hl, hok, rfl⟩
    rw [List.getElem?_map] at hd
    cases hk : m.steps[i]? with
    | none => rw [hk] at hd; cases hd
    | some rows =>
      rw [hk] at hd
      cases hd
      have mr := List.mem_of_getElem? hk
      have lr := om.rows rows mr
      have hi2 : i < m.steps.length := (List.getElem?_eq_some_iff.mp hk).1
      show WS _ [_, _, _, _, _] _ _ _
      refine w_cons <| w_set (i := 4) sc_with_tag.nd <| e_call cc hr (a_cons <| e_var (i := 0) rfl <| a_cons <| e_ixK <| e_var (i := 1) rfl ⟨_, .int m.regs, rfl, rfl, a_cons <| e_int <| a_nil ⟨da, m.regs, rfl, d2, hR, fun μ3 c m3 d3 hc => ?_⟩⟩) (by omega)
      have hs3 := m3 _ _ std hs2
      show WS _ [_, _, _, _, _] _ _ _
      refine w_one <| w_expr <| e_append <| e_var (i := 2) rfl ⟨st, rfl, ⟨_, hs3⟩, e_catT <| e_var (i := 3) rfl <| e_tup <| a_cons <| e_tup <| a_cons <| e_call cd hr (a_cons <| e_var (i := 0) rfl <| a_cons <| e_ixK <| e_var (i := 1) rfl ⟨_, .int m.regs, rfl, rfl, a_cons <| e_len M.len <| e_ixK <| e_var (i := 1) rfl ⟨_, .tuple (m.steps.map encRows), rfl, rfl, .inl ⟨_, rfl, a_cons <| e_var (i := 4) rfl <| a_nil ⟨da, m.regs, m.steps.length, c, by rw [List.length_map], d3, hR, by omega, fun μ4 k m4 d4 hkk => a_nil ⟨[encK k], rfl, sz, a_nil ⟨[encRow [k]], rfl, sz, rows.map encRow, [encRow [k]], rfl, rfl, ?_, _, m4 _ _ std hs3, ?_, ?_⟩⟩⟩⟩⟩⟩) (by omega)⟩
      · rw [List.length_map, sizeLine_eq]; simp; omega
      · rw [List.length_map]; omega
      · refine ⟨ss ++ [rows ++ [[k]]], _, _, ((m2.trans m3).trans m4).fresh hs0, d4.upd std, ?_, by rw [List.length_append, hl]; rfl, fun r h => ?_, rfl⟩
        · rw [updM_same, List.map_append]
          show some (Cell.lst (_ ++ [SV.tup (rows.map encRow ++ [encRow [k]])])) = some (Cell.lst (_ ++ [SV.tup ((rows ++ [[k]]).map encRow)]))
          rw [List.map_append]; rfl
        · rcases List.mem_append.mp h with h | h
          · exact hok r h
          · rw [List.mem_singleton.mp h]
            refine ⟨by rw [List.length_append, lr]; rfl, fun row hrow => ?_⟩
            rcases List.mem_append.mp hrow with h | h
            · exact ⟨om.row rows mr row h, om.case rows mr row h⟩
            · rw [List.mem_singleton.mp h]
              exact ⟨hL, fun k' hk' => by rw [List.mem_singleton.mp hk']; exact hkk D (hc.le hD)⟩
  · rintro ρ1 μ2 ⟨ss, a3, a4, m2, d2, hs2, hl, hok, rfl⟩
    rw [List.length_map] at hl
    refine w_one <| w_ret <| e_tup <| a_cons <| e_add <| e_ixK <| e_var (i := 1) rfl ⟨_, .int m.tags, rfl, rfl, e_int ⟨_, _, rfl, rfl, a_cons <| e_ixK <| e_var (i := 1) rfl ⟨_, .int m.regs, rfl, rfl, a_cons <| e_tuple M.tuple <| e_var (i := 2) rfl ⟨st, ss.map encRows, rfl, .inl (by rw [hs2, List.map_map]; rfl), a_nil ⟨[_, _, _], rfl, sz, ?_⟩⟩⟩⟩⟩
    have := hP μ2 ⟨m.tags + 1, m.regs, ss⟩ m2 d2 rfl rfl hl ⟨⟨by show 1 ≤ m.tags + 1; omega, by show m.tags + 1 ≤ 10; omega⟩, hR, by show 1 ≤ ss.length ∧ ss.length ≤ 20; omega, fun r h => (hok r h).1, fun r h w' h' => ((hok r h).2 w' h').1, fun r h w' h' k hk => by
      have := ((hok r h).2 w' h').2 k hk
      show CaseD D m.regs ss.length k
      rw [hl]; exact this⟩
    unfold encM at this
    rw [show (((m.tags + 1 : Nat)) : Int) = (m.tags : Int) + 1 by omega] at this
    exact this
end
end AV
-- text W21
set_option Elab.async false
set_option linter.all false
set_option maxRecDepth 100000
set_option maxHeartbeats 4000000
namespace AV
open PySem L2 TH
section
variable {P : Program} {w : World} {K : PySem.W.Frag} {mg : Str → Option Value} {base : Heap} {f : Addr} {fd : FuncData}
/-! ### _law_at -/
theorem sc_lat : FnScope ["_law_source", "_law_value", "_law_held"] ["_law_source", "_law_value", "_law_held"] (defScope s__law_at) := ⟨rfl, rfl, rfl, by decide +kernel, rfl, by decide +kernel, by decide +kernel⟩
theorem ok_lat (F : FD K "_law_at" "_law_at" s__law_at f fd) : FnOk P w K mg base C8.CX0 1 f fd ["_law_source", "_law_value", "_law_held"] (spOf P w K G_value_at) := by
  refine ok_of F sc_lat (fun rs μ Po ⟨s, v, hs, e, _⟩ => by rw [e]; rfl) fun cdv A outer s0 H E rs μ Po hr ⟨s, v, hs, e, hh, hP⟩ => ?_
  subst e
  refine w_cons <| w_if <| t_eqI <| e_var (i := 0) rfl <| e_neg <| e_int ⟨_, rfl, _, _, rfl, rfl, fun h => ?_, fun h => ?_⟩
  · have h := of_decide_eq_true h
    have : src s v hs = none := by unfold src; rw [if_neg (by omega), if_pos h]
    rw [this] at hP
    exact w_one <| w_ret <| e_non hP
  · have h := of_decide_eq_false h
    refine w_nil <| w_cons <| w_if <| t_eqI <| e_var (i := 0) rfl <| e_neg <| e_int ⟨_, rfl, _, _, rfl, rfl, fun h2 => ?_, fun h2 => ?_⟩
    · have h2 := of_decide_eq_true h2
      have : src s v hs = some v := by unfold src; rw [if_pos h2]
      rw [this] at hP
      exact w_one <| w_ret <| e_var (i := 1) rfl hP
    · have h2 := of_decide_eq_false h2
      rcases hh with hh | hh | ⟨h0, h1⟩
      · exact absurd hh h2
      · exact absurd hh h
      have hl : s.toNat < hs.length := by omega
      have hd : hs[s.toNat]? = some hs[s.toNat] := List.getElem?_eq_getElem hl
      have : src s v hs = hs[s.toNat] := by unfold src; rw [if_neg h2, if_neg h, hd]; rfl
      rw [this] at hP
      refine w_nil <| w_one <| w_ret <| e_ixT <| e_var (i := 2) rfl <| e_var (i := 0) rfl ⟨_, _, _, rfl, rfl, ?_, hP⟩
      have := at_map (f := encO) hd
      rw [show ((s.toNat : Nat) : Int) = s by omega] at this
      exact this
/-! ### _law_holds -/
theorem all_in (bs : List Bool) : (!bs.any (· == false)) = bs.all id := by
  induction bs with
  | nil => rfl
  | cons b bs ih =>
    rw [List.any_cons, List.all_cons, ← ih]
    cases b <;> simp
theorem any_in (bs : List Bool) : bs.any (· == true) = bs.any id := by
  induction bs with
  | nil => rfl
  | cons b bs ih => rw [List.any_cons, List.any_cons, ih]; cases b <;> rfl
theorem sc_lholds : FnScope ["_law_condition_here", "_law_value", "_law_held", "_law_kind", "_law_part", "_law_one", "_law_other"] ["_law_condition_here", "_law_value", "_law_held"] (defScope s__law_holds) := ⟨rfl, rfl, rfl, by decide +kernel, rfl, by decide +kernel, by decide +kernel⟩
theorem ok_lholds_step (F : FD K "_law_holds" "_law_holds" s__law_holds f fd) (cv : Fn P w K mg base 1 "_law_at" G_value_at) (d : Nat) (rec : d ≠ 0 → Fn P w K mg base (d + 1) "_law_holds" (G_holds (d - 1))) :
    FnOk P w K mg base C8.CX0 (d + 2) f fd ["_law_condition_here", "_law_value", "_law_held"] (spOf P w K (G_holds d)) := by
  refine ok_of F sc_lholds (fun rs μ Po ⟨_, _, _, e, _⟩ => by rw [e]; rfl) fun cdv A outer s0 H E rs μ Po hr ⟨c, v, hs, e, hh, hP⟩ => ?_
  subst e
  obtain ⟨ds, ec⟩ := encC_head c
  refine w_cons <| w_set (i := 3) sc_lholds.nd <| e_ixK <| e_var (i := 0) rfl ⟨_, .str (kS c), by rw [ec], atN (i := 0) rfl, ?_⟩
  cases c with
  | not c =>
    refine if_yes (i := 3) (s := "not") rfl rfl ?_
    cases d with
    | zero => exact (by simpa [CondOk] using hh : False).elim
    | succ d =>
      rw [CondOk] at hh
      refine w_one <| w_ret <| e_not <| e_call (rec (by omega)) hr (a_cons <| e_ixK <| e_var (i := 0) rfl ⟨_, encC c, by rw [encC], rfl, ?_⟩) (by omega)
      exact a_cons <| e_var (i := 1) rfl <| a_cons <| e_var (i := 2) rfl <| a_nil ⟨c, v, hs, rfl, hh, fun μ' m => ⟨_, rfl, by have := hP μ' m; rw [holds] at this; exact this⟩⟩
  | all cs =>
    refine if_no (i := 3) (s := "all") rfl (by decide) <| if_yes (i := 3) (s := "all") rfl rfl ?_
    cases d with
    | zero => exact (by simpa [CondOk] using hh : False).elim
    | succ d =>
      rw [CondOk] at hh
      refine w_one <| w_ret <| e_notinB <| e_bl <| e_mapS (g := gN 4) (sl := [4]) [("_law_part", 4)] (fun i => SV.dat (.bool ((cs[i]?.map fun c => holds c v hs).getD false))) rfl sc_lholds.nd (blkOk_by rfl) (by decide) (fun _ _ _ _ _ => (g_name sc_lholds.nd)) <| i_tup <| e_ixK <| e_var (i := 0) rfl ⟨_, .tuple (encCs cs), by rw [encC], rfl, ?_⟩
      refine ⟨_, rfl, by rw [encCs_eq, List.length_map]; have := hh.2; omega, fun _ _ => trivial, ?_, ?_⟩
      · rintro i x μ' hi ⟨dd, hd, rfl⟩ _
        rw [encCs_eq, List.getElem?_map] at hd
        cases hc : cs[i]? with
        | none => rw [hc] at hd; cases hd
        | some c =>
          rw [hc] at hd
          cases hd
          intro s1 H1 C1 cl1 fp1
          exact e_call (rec (by omega)) hr (a_cons <| e_var (i := 4) rfl <| a_cons <| e_var (i := 1) rfl <| a_cons <| e_var (i := 2) rfl <| a_nil ⟨c, v, hs, rfl, hh.1.get c (List.mem_of_getElem? hc), fun μ2 m2 => ⟨m2, rfl⟩⟩) (by omega)
      · intro μ' hm q hq
        refine ⟨false, q, cs.map fun c => holds c v hs, rfl, rfl, .inl ?_, ?_⟩
        · rw [updM_same, encCs_eq, List.length_map, List.map_map]
          congr 2
          exact mapF cs _ _ fun i x hx => by rw [hx]; rfl
        · have := hP _ (hm.new (c := .lst ((List.range (encCs cs).length).map fun i => SV.dat (.bool ((cs[i]?.map fun c => holds c v hs).getD false)))) hq)
          rw [holds, holdsL_map] at this
          rw [all_in]
          exact this
  | any cs =>
    refine if_no (i := 3) (s := "any") rfl (by decide) <| if_no (i := 3) (s := "any") rfl (by decide) <| if_yes (i := 3) (s := "any") rfl rfl ?_
    cases d with
    | zero => exact (by simpa [CondOk] using hh : False).elim
    | succ d =>
      rw [CondOk] at hh
      refine w_one <| w_ret <| e_inB <| e_bl <| e_mapS (g := gN 4) (sl := [4]) [("_law_part", 4)] (fun i => SV.dat (.bool ((cs[i]?.map fun c => holds c v hs).getD false))) rfl sc_lholds.nd (blkOk_by rfl) (by decide) (fun _ _ _ _ _ => (g_name sc_lholds.nd)) <| i_tup <| e_ixK <| e_var (i := 0) rfl ⟨_, .tuple (encCs cs), by rw [encC], rfl, ?_⟩
      refine ⟨_, rfl, by rw [encCs_eq, List.length_map]; have := hh.2; omega, fun _ _ => trivial, ?_, ?_⟩
      · rintro i x μ' hi ⟨dd, hd, rfl⟩ _
        rw [encCs_eq, List.getElem?_map] at hd
        cases hc : cs[i]? with
        | none => rw [hc] at hd; cases hd
        | some c =>
          rw [hc] at hd
          cases hd
          intro s1 H1 C1 cl1 fp1
          exact e_call (rec (by omega)) hr (a_cons <| e_var (i := 4) rfl <| a_cons <| e_var (i := 1) rfl <| a_cons <| e_var (i := 2) rfl <| a_nil ⟨c, v, hs, rfl, hh.1.get c (List.mem_of_getElem? hc), fun μ2 m2 => ⟨m2, rfl⟩⟩) (by omega)
      · intro μ' hm q hq
        refine ⟨true, q, cs.map fun c => holds c v hs, rfl, rfl, .inl ?_, ?_⟩
        · rw [updM_same, encCs_eq, List.length_map, List.map_map]
          congr 2
          exact mapF cs _ _ fun i x hx => by rw [hx]; rfl
        · have := hP _ (hm.new (c := .lst ((List.range (encCs cs).length).map fun i => SV.dat (.bool ((cs[i]?.map fun c => holds c v hs).getD false)))) hq)
          rw [holds, holdsL_map] at this
          rw [any_in]
          exact this
  | tt =>
    refine if_no (i := 3) (s := "true") rfl (by decide) <| if_no (i := 3) (s := "true") rfl (by decide) <| if_no (i := 3) (s := "true") rfl (by decide) ?_
    exact if_two (i := 3) rfl (fun _ => w_one <| w_ret <| e_eqS <| e_var (i := 3) rfl <| e_str ⟨_, _, rfl, rfl, hP _ (MSub.refl _)⟩) (fun h => absurd rfl h)
  | ff =>
    refine if_no (i := 3) (s := "false") rfl (by decide) <| if_no (i := 3) (s := "false") rfl (by decide) <| if_no (i := 3) (s := "false") rfl (by decide) ?_
    exact if_two (i := 3) rfl (fun _ => w_one <| w_ret <| e_eqS <| e_var (i := 3) rfl <| e_str ⟨_, _, rfl, rfl, hP _ (MSub.refl _)⟩) (fun _ h => absurd rfl h)
  | empty a =>
    refine if_no (i := 3) (s := "empty") rfl (by decide) <| if_no (i := 3) (s := "empty") rfl (by decide) <| if_no (i := 3) (s := "empty") rfl (by decide) ?_
    refine if_two (i := 3) (s := "empty") rfl (fun h => absurd h (by decide)) fun _ _ => ?_
    have h1 : SrcOk hs.length a := by simpa [CondOk] using hh
    refine w_cons <| w_set (i := 5) sc_lholds.nd <| e_call cv hr (a_cons <| e_ixK <| e_var (i := 0) rfl ⟨_, _, by rw [encC], rfl, a_cons <| e_var (i := 1) rfl <| a_cons <| e_var (i := 2) rfl <| a_nil ⟨a, v, hs, rfl, h1, ?_⟩⟩) (by omega)
    refine if_yes (i := 3) (s := "empty") rfl rfl <| w_one <| w_ret <| e_isN <| e_var (i := 5) rfl ?_
    have hP := hP μ (MSub.refl μ)
    rw [holds] at hP
    cases h : src a v hs <;> (rw [h] at hP; exact hP)
  | less a b =>
    refine if_no (i := 3) (s := "less") rfl (by decide) <| if_no (i := 3) (s := "less") rfl (by decide) <| if_no (i := 3) (s := "less") rfl (by decide) ?_
    refine if_two (i := 3) (s := "less") rfl (fun h => absurd h (by decide)) fun _ _ => ?_
    rw [CondOk] at hh
    refine w_cons <| w_set (i := 5) sc_lholds.nd <| e_call cv hr (a_cons <| e_ixK <| e_var (i := 0) rfl ⟨_, _, by rw [encC], rfl, a_cons <| e_var (i := 1) rfl <| a_cons <| e_var (i := 2) rfl <| a_nil ⟨a, v, hs, rfl, hh.1, ?_⟩⟩) (by omega)
    refine if_no (i := 3) (s := "less") rfl (by decide) ?_
    refine w_cons <| w_set (i := 6) sc_lholds.nd <| e_call cv hr (a_cons <| e_ixK <| e_var (i := 0) rfl ⟨_, _, by rw [encC], rfl, a_cons <| e_var (i := 1) rfl <| a_cons <| e_var (i := 2) rfl <| a_nil ⟨b, v, hs, rfl, hh.2, ?_⟩⟩) (by omega)
    have hP := hP μ (MSub.refl μ)
    rw [holds] at hP
    cases h1 : src a v hs with
    | none =>
      rw [h1] at hP
      exact w_cons <| w_if <| t_w <| t_or <| t_isN <| e_var (i := 5) rfl ⟨fun h => ft h, fun _ => ⟨fun _ => w_one <| w_ret <| e_bl hP, fun z => ft z⟩⟩
    | some x =>
      rw [h1] at hP
      cases h2 : src b v hs with
      | none =>
        rw [h2] at hP
        exact w_cons <| w_if <| t_w <| t_or <| t_isN <| e_var (i := 5) rfl ⟨fun _ => t_or1 <| t_isN <| e_var (i := 6) rfl ⟨fun _ => w_one <| w_ret <| e_bl hP, fun z => ft z⟩, fun z => ff z⟩
      | some y =>
        rw [h2] at hP
        refine w_cons <| w_if <| t_w <| t_or <| t_isN <| e_var (i := 5) rfl ⟨fun _ => t_or1 <| t_isN <| e_var (i := 6) rfl ⟨fun z => ff z, fun _ => w_nil ?_⟩, fun z => ff z⟩
        exact if_yes (i := 3) (s := "less") rfl rfl <| w_one <| w_ret <| e_lt <| e_var (i := 5) rfl <| e_var (i := 6) rfl ⟨x, y, rfl, rfl, hP⟩
  | same a b =>
    refine if_no (i := 3) (s := "same") rfl (by decide) <| if_no (i := 3) (s := "same") rfl (by decide) <| if_no (i := 3) (s := "same") rfl (by decide) ?_
    refine if_two (i := 3) (s := "same") rfl (fun h => absurd h (by decide)) fun _ _ => ?_
    rw [CondOk] at hh
    refine w_cons <| w_set (i := 5) sc_lholds.nd <| e_call cv hr (a_cons <| e_ixK <| e_var (i := 0) rfl ⟨_, _, by rw [encC], rfl, a_cons <| e_var (i := 1) rfl <| a_cons <| e_var (i := 2) rfl <| a_nil ⟨a, v, hs, rfl, hh.1, ?_⟩⟩) (by omega)
    refine if_no (i := 3) (s := "same") rfl (by decide) ?_
    refine w_cons <| w_set (i := 6) sc_lholds.nd <| e_call cv hr (a_cons <| e_ixK <| e_var (i := 0) rfl ⟨_, _, by rw [encC], rfl, a_cons <| e_var (i := 1) rfl <| a_cons <| e_var (i := 2) rfl <| a_nil ⟨b, v, hs, rfl, hh.2, ?_⟩⟩) (by omega)
    have hP := hP μ (MSub.refl μ)
    rw [holds] at hP
    cases h1 : src a v hs with
    | none =>
      rw [h1] at hP
      exact w_cons <| w_if <| t_w <| t_or <| t_isN <| e_var (i := 5) rfl ⟨fun h => ft h, fun _ => ⟨fun _ => w_one <| w_ret <| e_bl hP, fun z => ft z⟩⟩
    | some x =>
      rw [h1] at hP
      cases h2 : src b v hs with
      | none =>
        rw [h2] at hP
        exact w_cons <| w_if <| t_w <| t_or <| t_isN <| e_var (i := 5) rfl ⟨fun _ => t_or1 <| t_isN <| e_var (i := 6) rfl ⟨fun _ => w_one <| w_ret <| e_bl hP, fun z => ft z⟩, fun z => ff z⟩
      | some y =>
        rw [h2] at hP
        refine w_cons <| w_if <| t_w <| t_or <| t_isN <| e_var (i := 5) rfl ⟨fun _ => t_or1 <| t_isN <| e_var (i := 6) rfl ⟨fun z => ff z, fun _ => w_nil ?_⟩, fun z => ff z⟩
        exact if_no (i := 3) (s := "same") rfl (by decide) <| w_one <| w_ret <| e_eqI <| e_var (i := 5) rfl <| e_var (i := 6) rfl ⟨x, y, rfl, rfl, hP⟩
theorem c_lholds (F : FD K "_law_holds" "_law_holds" s__law_holds f fd) (cv : Fn P w K mg base 1 "_law_at" G_value_at) (hb : ∀ k sp, FnOk P w K mg base C8.CX0 k f fd ["_law_condition_here", "_law_value", "_law_held"] sp → C8.Cal P w K mg base k "_law_holds" sp []) : ∀ d : Nat, Fn P w K mg base (d + 2) "_law_holds" (G_holds d)
  | 0 => hb _ _ (ok_lholds_step F cv 0 fun h => absurd rfl h)
  | d + 1 => hb _ _ (ok_lholds_step F cv (d + 1) fun _ => c_lholds F cv hb d)
/-! ### _law_case -/
theorem sc_lcase : FnScope ["_law_machine_here", "_law_content", "_law_entry", "_law_cases", "_law_k"] ["_law_machine_here", "_law_content", "_law_entry"] (defScope s__law_case) := ⟨rfl, rfl, rfl, by decide +kernel, rfl, by decide +kernel, by decide +kernel⟩
theorem ok_lcase (F : FD K "_law_case" "_law_case" s__law_case f fd) (M : Md mg) (ch : Fn P w K mg base 10 "_law_holds" (G_holds 8)) : FnOk P w K mg base C8.CX0 11 f fd ["_law_machine_here", "_law_content", "_law_entry"] (spOf P w K G_case_for) := by
  refine ok_of F sc_lcase (fun rs μ Po ⟨_, _, _, _, e, _⟩ => by rw [e]; rfl) fun cdv A outer s0 H E rs μ Po hr ⟨m, c, t, v, e, o, hc, hl, ht, hP⟩ => ?_
  subst e
  obtain ⟨rows, row, h1, h2, h3, h4, h5⟩ := o.at_ hc ht
  refine w_cons <| w_set (i := 3) sc_lcase.nd <| e_ixV (n := t) (ds := rows.map encRow) (d := encRow row) (by rw [List.getElem?_map, h2]; rfl) <|
    e_ixV (n := c.1) (ds := m.steps.map encRows) (d := encRows rows) (by rw [List.getElem?_map, h1]; rfl) <| e_ixK <| e_var (i := 0) rfl ⟨_, .tuple (m.steps.map encRows), rfl, rfl, rfl, e_ixK <| e_var (i := 1) rfl ⟨_, .int c.1, rfl, rfl, rfl, rfl, e_ixK <| e_var (i := 2) rfl ⟨_, .int t, rfl, rfl, rfl, ?_⟩⟩⟩
  show WS _ [_, _, _, _, _] _ _ _
  refine w_cons <| w_for (g := gN 4) (sl := [4]) PassesOwn.never rfl (g_name sc_lcase.nd) <| i_range M.range <| e_len M.len <| e_var (i := 3) rfl <| .inl ⟨row.map encK, rfl, (row.length : Int), by rw [List.length_map], by omega, by omega, ?_⟩
  refine ⟨fun i ρ μ' => MSub μ μ' ∧ (∃ a, ρ = [some (.dat (encM m)), some (.dat (encCon c)), some (.dat (encE (t, v))), some (.dat (encRow row)), a]) ∧ ∀ j k, j < i → row[j]? = some k → holds k.cond v c.2 = false, ⟨MSub.refl _, ⟨_, rfl⟩, fun j k h => by omega⟩, fun _ _ _ _ _ => trivial, ?_, ?_⟩
  · rintro i x ρ1 μ1 hi rfl ⟨hm, ⟨a, rfl⟩, hn⟩
    have hi : i < row.length := by omega
    have hk : row[i]? = some row[i] := List.getElem?_eq_getElem hi
    generalize row[i] = k at hk
    have ok := h5 k (List.mem_of_getElem? hk)
    rw [Int.zero_add]
    show WS _ [_, _, _, _, _] _ _ _
    refine w_one <| w_if <| t_val <| e_call ch hr (a_cons <| e_ixK <| e_ixV (n := i) (ds := row.map encK) (d := encK k) (by rw [List.getElem?_map, hk]; rfl) <| e_var (i := 3) rfl ⟨rfl, e_var (i := 4) rfl ⟨rfl, _, encC k.cond, rfl, rfl, a_cons <| e_ixK <| e_var (i := 2) rfl ⟨_, .int v, rfl, rfl, a_cons <| e_ixK <| e_var (i := 1) rfl ⟨_, encH c.2, rfl, rfl, a_nil ⟨k.cond, v, c.2, rfl, by rw [hl]; exact ok.cond, fun μ2 m2 => ⟨_, rfl, fun hT => ?_, fun hF => w_nil ?_⟩⟩⟩⟩⟩⟩)
    · refine w_one <| w_ret <| e_var (i := 4) rfl ?_
      have := hP μ2 (hm.trans m2)
      unfold caseFor at this
      rw [h3, findIdx_at (p := fun k => holds k.cond v c.2) hk hT fun j x hj hx => hn j x hj hx] at this
      exact this
    · refine ⟨hm.trans m2, ⟨_, rfl⟩, fun j k' hj hk' => ?_⟩
      by_cases e : j = i
      · subst e; rw [hk] at hk'; cases hk'; exact hF
      · exact hn j k' (by omega) hk'
  · rintro ρ1 μ1 ⟨hm, ⟨a, rfl⟩, hn⟩
    refine w_one <| w_ret <| e_non ?_
    have := hP μ1 hm
    unfold caseFor at this
    rw [h3, findIdx_no (p := fun k => holds k.cond v c.2) fun j x hj hx => hn j x (by omega) hx] at this
    exact this
/-! ### _law_read -/
theorem sc_lread : FnScope ["_law_machine_here", "_law_content", "_law_entry", "_law_number", "_law_case_here", "_law_held", "_law_source", "_law_said"] ["_law_machine_here", "_law_content", "_law_entry"] (defScope s__law_read) := ⟨rfl, rfl, rfl, by decide +kernel, rfl, by decide +kernel, by decide +kernel⟩
theorem ok_lread (F : FD K "_law_read" "_law_read" s__law_read f fd) (M : Md mg) (cc : Fn P w K mg base 11 "_law_case" G_case_for) (cv : Fn P w K mg base 1 "_law_at" G_value_at) : FnOk P w K mg base C8.CX0 12 f fd ["_law_machine_here", "_law_content", "_law_entry"] (spOf P w K G_read) := by
  refine ok_of F sc_lread (fun rs μ Po ⟨_, _, _, _, e, _⟩ => by rw [e]; rfl) fun cdv A outer s0 H E rs μ Po hr ⟨m, c, t, v, e, o, hc, hl, ht, hP⟩ => ?_
  subst e
  obtain ⟨rows, row, h1, h2, h3, h4, h5⟩ := o.at_ hc ht
  refine w_cons <| w_set (i := 3) sc_lread.nd <| e_call cc hr <| a_cons <| e_var (i := 0) rfl <| a_cons <| e_var (i := 1) rfl <| a_cons <| e_var (i := 2) rfl <| a_nil ⟨m, c, t, v, rfl, o, hc, hl, ht, fun μ1 m1 => ?_⟩
  rcases find_idx (fun k => holds k.cond v c.2) row with ⟨e1, e2⟩ | ⟨i, k, e1, e2, e3⟩
  · have ef : caseFor m c t v = none := by unfold caseFor; rw [h3]; exact e1
    have er : readM m c t v = (c, []) := by unfold readM; rw [h3, e2]
    rw [ef]
    rw [er] at hP
    refine w_cons <| w_if <| t_isN <| e_var (i := 3) rfl ⟨fun _ => ?_, fun h => ft h⟩
    exact w_one <| w_ret <| e_tup <| a_cons <| e_var (i := 1) rfl <| a_cons <| e_tup <| a_nil ⟨[], rfl, sz, a_nil ⟨[encCon c, .tuple []], rfl, sz, hP μ1 m1⟩⟩
  · have ef : caseFor m c t v = some i := by unfold caseFor; rw [h3]; exact e1
    have er : readM m c t v = doCase k v c.2 := by unfold readM; rw [h3, e3]
    have ok := h5 k (List.mem_of_getElem? e2)
    rw [ef]
    rw [er] at hP
    have hP' : Pu μ Po (.tup [.tuple [.int k.next, .tuple (k.moves.map fun s => encO (src s v c.2))], .tuple (k.says.map fun p => encA1 (p.1, src p.2 v c.2))]) := by
      have := hP
      unfold doCase encCon encH encA at this
      simp only [List.map_map] at this
      exact this
    have hlm := ok.moves
    have hreg := o.regs
    have hfew := ok.few
    refine w_cons <| w_if <| t_isN <| e_var (i := 3) rfl ⟨fun h => ff h, fun _ => w_nil ?_⟩
    refine w_cons <| w_set (i := 4) sc_lread.nd <|
      e_ixV (n := i) (ds := row.map encK) (d := encK k) (by rw [List.getElem?_map, e2]; rfl) <| e_ixV (n := t) (ds := rows.map encRow) (d := encRow row) (by rw [List.getElem?_map, h2]; rfl) <|
      e_ixV (n := c.1) (ds := m.steps.map encRows) (d := encRows rows) (by rw [List.getElem?_map, h1]; rfl) <| e_ixK <| e_var (i := 0) rfl ⟨_, .tuple (m.steps.map encRows), rfl, rfl, rfl, e_ixK <| e_var (i := 1) rfl ⟨_, .int c.1, rfl, rfl, rfl, rfl, e_ixK <| e_var (i := 2) rfl ⟨_, .int t, rfl, rfl, rfl, rfl, e_var (i := 3) rfl ⟨rfl, ?_⟩⟩⟩⟩
    show WS _ [_, _, _, _, _, _, _, _] _ _ _
    refine w_cons <| w_set (i := 5) sc_lread.nd <| e_tuple M.tuple <| e_mapS (g := gN 6) (sl := [6]) [("_law_source", 6)] (fun i => SV.dat ((k.moves[i]?.map fun s => encO (src s v c.2)).getD .none)) rfl sc_lread.nd (blkOk_by rfl) (by decide) (fun _ _ _ _ _ => (g_name sc_lread.nd)) <| i_tup <| e_ixK <| e_var (i := 4) rfl ⟨_, .tuple (k.moves.map .int), rfl, rfl, _, rfl, ?_⟩
    refine ⟨by rw [List.length_map]; omega, fun _ _ => trivial, ?_, ?_⟩
    · rintro j x μ3 hj ⟨d, hd, rfl⟩ hm3
      rw [List.getElem?_map] at hd
      cases hs : k.moves[j]? with
      | none => rw [hs] at hd; cases hd
      | some s =>
        rw [hs] at hd
        cases hd
        intro s1 H1 C1 cl1 fp1
        exact e_call cv hr (a_cons <| e_var (i := 6) rfl <| a_cons <| e_ixK <| e_var (i := 2) rfl ⟨_, .int v, rfl, rfl, a_cons <| e_ixK <| e_var (i := 1) rfl ⟨_, encH c.2, rfl, rfl, a_nil ⟨s, v, c.2, rfl, by rw [hl]; exact ok.srcs s (List.mem_of_getElem? hs), MSub.refl _, rfl⟩⟩⟩) (by omega)
    intro μ3 m3 q3 hq3
    refine ⟨q3, (k.moves.map fun s => encO (src s v c.2)), rfl, .inl ?_, ?_⟩
    · rw [updM_same, List.length_map, List.map_map]
      congr 2
      exact mapF k.moves _ _ fun i x hx => by rw [hx]; rfl
    show WS _ [_, _, _, _, _, _, _, _] _ _ _
    refine w_one <| w_ret <| e_tup <| a_cons <| e_tup <| a_cons <| e_ixK <| e_var (i := 4) rfl ⟨_, .int k.next, rfl, rfl, a_cons <| e_var (i := 5) rfl <| a_nil ⟨[.int k.next, .tuple (k.moves.map fun s => encO (src s v c.2))], rfl, sz, a_cons <| e_tuple M.tuple <| e_mapS (g := gN 7) (sl := [7]) [("_law_said", 7)] (fun i => SV.dat ((k.says[i]?.map fun p => encA1 (p.1, src p.2 v c.2)).getD .none)) rfl sc_lread.nd (blkOk_by rfl) (by decide) (fun _ _ _ _ _ => (g_name sc_lread.nd)) <| i_tup <| e_ixK <| e_var (i := 4) rfl ⟨_, .tuple (k.says.map encS), rfl, rfl, _, rfl, ?_⟩⟩⟩
    refine ⟨by rw [List.length_map]; omega, fun _ _ => trivial, ?_, ?_⟩
    · rintro j x μ2 hj ⟨d, hd, rfl⟩ hm2
      rw [List.getElem?_map] at hd
      cases hs : k.says[j]? with
      | none => rw [hs] at hd; cases hd
      | some p =>
        rw [hs] at hd
        cases hd
        intro s1 H1 C1 cl1 fp1
        exact e_tup <| a_cons <| e_ixK <| e_var (i := 7) rfl ⟨_, .int p.1, rfl, rfl, a_cons <| e_call cv hr (a_cons <| e_ixK <| e_var (i := 7) rfl ⟨_, .int p.2, rfl, rfl, a_cons <| e_ixK <| e_var (i := 2) rfl ⟨_, .int v, rfl, rfl, a_cons <| e_ixK <| e_var (i := 1) rfl ⟨_, encH c.2, rfl, rfl, a_nil ⟨p.2, v, c.2, rfl, by rw [hl]; exact ok.says p (List.mem_of_getElem? hs), a_nil ⟨[.int p.1, encO (src p.2 v c.2)], rfl, sz, MSub.refl _, rfl⟩⟩⟩⟩⟩) (by omega)⟩
    intro μ2 m2 q hq
    refine ⟨q, (k.says.map fun p => encA1 (p.1, src p.2 v c.2)), rfl, .inl ?_, ?_⟩
    · rw [updM_same, List.length_map, List.map_map]
      congr 2
      exact mapF k.says _ _ fun i x hx => by rw [hx]; rfl
    exact a_nil ⟨[.tuple [.int k.next, .tuple (k.moves.map fun s => encO (src s v c.2))], .tuple (k.says.map fun p => encA1 (p.1, src p.2 v c.2))], rfl, sz, hP' _ ((((m1.trans m3).new hq3).trans m2).new hq)⟩
/-! ### _law_begin -/
theorem sc_lbegin : FnScope ["_law_machine_here", "_law_place_here"] ["_law_machine_here"] (defScope s__law_begin) := ⟨rfl, rfl, rfl, by decide +kernel, rfl, by decide +kernel, by decide +kernel⟩
theorem ok_lbegin (F : FD K "_law_begin" "_law_begin" s__law_begin f fd) (M : Md mg) : FnOk P w K mg base C8.CX0 1 f fd ["_law_machine_here"] (spOf P w K G_beginning) := by
  refine ok_of F sc_lbegin (fun rs μ Po ⟨_, e, _⟩ => by rw [e]; rfl) fun cdv A outer s0 H E rs μ Po hr ⟨m, e, hm, hP⟩ => ?_
  subst e
  refine w_one <| w_ret <| e_tup <| a_cons <| e_int <| a_cons <| e_tuple M.tuple <| e_mapS (g := gN 1) (sl := [1]) [("_law_place_here", 1)] (fun _ => SV.dat .none) rfl sc_lbegin.nd (blkOk_by rfl) (by decide) (fun _ _ _ _ _ => (g_name sc_lbegin.nd)) <| i_range M.range <| e_ixK <| e_var (i := 0) rfl ⟨_, .int m.regs, rfl, rfl, _, rfl, by omega, by omega, ?_⟩
  refine ⟨by omega, fun _ _ => trivial, ?_, ?_⟩
  · rintro i x μ' hi rfl hm'
    intro s1 H1 C1 cl1 fp1
    exact e_non ⟨MSub.refl _, rfl⟩
  · intro μ1 m1 q hq
    refine ⟨q, (List.replicate m.regs none).map encO, rfl, .inl ?_, a_nil ⟨[.int 0, _], rfl, sz, ?_⟩⟩
    · rw [updM_same, Int.toNat_natCast, List.map_replicate, List.map_replicate]
      congr 2
      exact List.map_const' (l := List.range m.regs) (b := SV.dat .none) |>.trans (by rw [List.length_range]; rfl)
    · exact hP _ (m1.new hq)
end
end AV
-- text W22
set_option Elab.async false
set_option linter.all false
set_option maxRecDepth 100000
set_option maxHeartbeats 4000000
namespace AV
open PySem L2 TH
theorem takeMap {α : Type} (xs : List α) (f : α → SV) {i : Nat} {x : α} (h : xs[i]? = some x) : (xs.take i).map f ++ [f x] = (xs.take (i + 1)).map f := by
  rw [List.take_add_one, h, List.map_append]; rfl
section
variable {P : Program} {w : World} {K : PySem.W.Frag} {mg : Str → Option Value} {base : Heap} {f : Addr} {fd : FuncData}
/-! ### _law_ranks -/
def G_lranks : Gs := fun rs μ P => ∃ (hs : Held Int), rs = [.tup (hs.map encO)] ∧ hs.length < 64 ∧ Pu μ P (.tup ((ranks hs).map encN))
theorem sc_lranks : FnScope ["_law_held", "_law_known", "_law_value", "_law_found"] ["_law_held"] (defScope s__law_ranks) := ⟨rfl, rfl, rfl, by decide +kernel, rfl, by decide +kernel, by decide +kernel⟩
theorem ok_lranks (F : FD K "_law_ranks" "_law_ranks" s__law_ranks f fd) (M : Md mg) : FnOk P w K mg base C8.CX0 1 f fd ["_law_held"] (spOf P w K G_lranks) := by
  refine ok_of F sc_lranks (fun rs μ Po ⟨_, e, _⟩ => by rw [e]; rfl) fun cdv A outer s0 H E rs μ Po hr ⟨hs, e, hl, hP⟩ => ?_
  subst e
  refine w_cons <| w_set (i := 1) sc_lranks.nd <| e_sortedSet rfl M.sorted M.set <| e_compS (g := gN 2) (sl := [2]) [("_law_value", 2)] (fun i => (hs[i]?).join.map SV.int) rfl sc_lranks.nd (blkOk_by rfl) (by decide) (fun _ _ _ _ _ => (g_name sc_lranks.nd)) <| i_tup <| e_var (i := 0) rfl ⟨hs.map encO, rfl, ?_⟩
  refine ⟨by rw [List.length_map]; omega, fun _ _ => trivial, ?_, ?_⟩
  · rintro i x μ' hi ⟨d, hd, rfl⟩ hm
    rw [List.getElem?_map] at hd
    cases hk : hs[i]? with
    | none => rw [hk] at hd; cases hd
    | some o =>
      rw [hk] at hd
      cases hd
      intro s1 H1 C1 cl1 fp1
      refine t_notN <| e_var (i := 2) rfl ?_
      cases o with
      | none => exact ⟨MSub.refl _, rfl, fun h => ff h⟩
      | some z => exact ⟨MSub.refl _, rfl, fun _ s H C cl fp => e_var (i := 2) rfl ⟨MSub.refl _, rfl⟩⟩
  · intro μ1 m1 q hq
    have ef : (List.range (hs.map encO).length).filterMap (fun i => (hs[i]?).join.map SV.int) = (hs.filterMap id).map SV.int := by
      rw [List.length_map, fmR hs (fun o => o.map SV.int) _ fun i x hx => by rw [hx]; rfl, List.map_filterMap]
      rfl
    refine ⟨q, hs.filterMap id, rfl, .inl ?_, ?_, ?_⟩
    · rw [updM_same, ef]
    · have := List.length_filterMap_le id hs; omega
    · intro ks q2 h1 h2 hq2
      have ek := known_of h1 h2
      subst ek
      have m2 := (m1.new (c := .lst ((List.range (hs.map encO).length).filterMap (fun i => (hs[i]?).join.map SV.int))) hq).new (c := .lst ((known hs).map SV.int)) hq2
      have h3 : updM (updM μ1 q (.lst ((List.range (hs.map encO).length).filterMap (fun i => (hs[i]?).join.map SV.int)))) q2 (.lst ((known hs).map SV.int)) q2 = some (.lst ((known hs).map SV.int)) := updM_same
      generalize updM (updM μ1 q (.lst ((List.range (hs.map encO).length).filterMap (fun i => (hs[i]?).join.map SV.int)))) q2 (.lst ((known hs).map SV.int)) = μ2 at *
      show WS _ [_, _, _, _] _ _ _
      refine w_cons <| w_set (i := 3) sc_lranks.nd <| e_lst <| a_nil ⟨sz, fun fa hfa => ?_⟩
      have f2 : fa ≠ q2 := fun e => by rw [e, h3] at hfa; cases hfa
      have faμ : μ fa = none := fresh_back m2 hfa
      show WS _ [_, _, _, _] _ _ _
      refine w_cons <| w_for (g := gN 2) (sl := [2]) PassesOwn.never rfl (g_name sc_lranks.nd) <| i_tup <| e_var (i := 0) rfl ⟨hs.map encO, rfl, ?_⟩
      refine ⟨fun i ρ μ' => ∃ a, MSub μ μ' ∧ μ' q2 = some (.lst ((known hs).map SV.int)) ∧ μ' fa = some (.lst (((ranks hs).take i).map fun o => .dat (encN o))) ∧ ρ = [some (.tup (hs.map encO)), some (.loc q2), a, some (.loc fa)],
        ⟨_, m2.new hfa, by rw [updM_ne (Ne.symm f2)]; exact h3, updM_same, rfl⟩, fun _ _ _ _ _ => trivial, ?_, ?_⟩
      · rintro i x ρ1 μ3 hi ⟨d, hd, rfl⟩ ⟨a, m3, hq3, hf3, rfl⟩
        rw [List.getElem?_map] at hd
        cases hk : hs[i]? with
        | none => rw [hk] at hd; cases hd
        | some o =>
          rw [hk] at hd
          cases hd
          have hrk : (ranks hs)[i]? = some (o.map fun x => (known hs).idxOf x) := by unfold ranks; rw [List.getElem?_map, hk]; rfl
          have il : i < hs.length := (List.getElem?_eq_some_iff.mp hk).1
          have lt : (((ranks hs).take i).map fun o => SV.dat (encN o)).length < 10000000 := by rw [List.length_map, List.length_take]; omega
          show WS _ [_, _, _, _] _ _ _
          refine w_one <| w_if <| t_isN <| e_var (i := 2) rfl ?_
          cases o with
          | none =>
            refine ⟨fun _ => ?_, fun h => ft h⟩
            refine w_one <| w_expr <| e_append <| e_var (i := 3) rfl ⟨fa, rfl, ⟨_, hf3⟩, e_non ⟨_, hf3, lt, ?_⟩⟩
            refine ⟨_, m3.fresh faμ, by rw [updM_ne (Ne.symm f2)]; exact hq3, ?_, rfl⟩
            rw [updM_same, ← takeMap (ranks hs) (fun o => .dat (encN o)) hrk]; rfl
          | some z =>
            refine ⟨fun h => ff h, fun _ => ?_⟩
            have kl : isL μ3 q2 (((known hs).map some).map fun o => SV.dat (encO o)) := by
              rw [List.map_map]
              exact .inl hq3
            refine w_one <| w_expr <| e_append <| e_var (i := 3) rfl ⟨fa, rfl, ⟨_, hf3⟩, e_lindex <| e_var (i := 1) rfl ⟨q2, rfl, ⟨_, kl⟩, e_var (i := 2) rfl ⟨(known hs).map some, some z, (known hs).idxOf z, kl, rfl, ?_, _, hf3, lt, ?_⟩⟩⟩
            · have hz : z ∈ known hs := (mem_known hs z).mpr (List.mem_of_getElem? hk)
              obtain ⟨f1, f2⟩ := fst_idx hz
              refine ⟨by rw [List.getElem?_map, f1]; rfl, fun m hm' e => ?_⟩
              rw [List.getElem?_map] at e
              cases h3 : (known hs)[m]? with
              | none => rw [h3] at e; cases e
              | some y => rw [h3] at e; cases e; exact f2 m hm' h3
            · refine ⟨_, m3.fresh faμ, by rw [updM_ne (Ne.symm f2)]; exact hq3, ?_, rfl⟩
              rw [updM_same, ← takeMap (ranks hs) (fun o => .dat (encN o)) hrk]; rfl
      · rintro ρ1 μ3 ⟨a, m3, hq3, hf3, rfl⟩
        refine w_one <| w_ret <| e_tuple M.tuple <| e_var (i := 3) rfl ⟨fa, (ranks hs).map encN, rfl, .inl ?_, hP _ m3⟩
        rw [hf3, List.length_map, List.take_of_length_le (by rw [ranks_len]; exact Nat.le_refl _), List.map_map]; rfl
/-! ### _law_many -/
def G_lmany : Gs := fun rs μ P => ∃ (rk : List (Option Nat)), rs = [.tup (rk.map encN)] ∧ rk.length ≤ 1000 ∧ Pu μ P (.int (many rk))
theorem sc_lmany : FnScope ["_law_ranks_here", "_law_rank"] ["_law_ranks_here"] (defScope s__law_many) := ⟨rfl, rfl, rfl, by decide +kernel, rfl, by decide +kernel, by decide +kernel⟩
theorem ok_lmany (F : FD K "_law_many" "_law_many" s__law_many f fd) (M : Md mg) : FnOk P w K mg base C8.CX0 1 f fd ["_law_ranks_here"] (spOf P w K G_lmany) := by
  refine ok_of F sc_lmany (fun rs μ Po ⟨_, e, _⟩ => by rw [e]; rfl) fun cdv A outer s0 H E rs μ Po hr ⟨rk, e, hl, hP⟩ => ?_
  subst e
  refine w_one <| w_ret <| e_lenSet rfl M.len M.set <| e_compS (g := gN 1) (sl := [1]) [("_law_rank", 1)] (fun i => (rk[i]?).join.map fun n : Nat => SV.int (n : Int)) rfl sc_lmany.nd (blkOk_by rfl) (by decide) (fun _ _ _ _ _ => (g_name sc_lmany.nd)) <| i_tup <| e_var (i := 0) rfl ⟨rk.map encN, rfl, ?_⟩
  refine ⟨by rw [List.length_map]; omega, fun _ _ => trivial, ?_, ?_⟩
  · rintro i x μ' hi ⟨d, hd, rfl⟩ hm
    rw [List.getElem?_map] at hd
    cases hk : rk[i]? with
    | none => rw [hk] at hd; cases hd
    | some o =>
      rw [hk] at hd
      cases hd
      intro s1 H1 C1 cl1 fp1
      refine t_notN <| e_var (i := 1) rfl ?_
      cases o with
      | none => exact ⟨MSub.refl _, rfl, fun h => ff h⟩
      | some z => exact ⟨MSub.refl _, rfl, fun _ s H C cl fp => e_var (i := 1) rfl ⟨MSub.refl _, rfl⟩⟩
  · intro μ1 m1 q hq
    have ef : (List.range (rk.map encN).length).filterMap (fun i => (rk[i]?).join.map fun n : Nat => SV.int (n : Int)) = ((rk.filterMap id).map fun n : Nat => (n : Int)).map SV.int := by
      rw [List.length_map, fmR rk (fun o => o.map fun n : Nat => SV.int (n : Int)) _ fun i x hx => by rw [hx]; rfl, List.map_map, List.map_filterMap]
      rfl
    refine ⟨q, (rk.filterMap id).map fun n : Nat => (n : Int), rfl, .inl ?_, ?_, ?_⟩
    · rw [updM_same, ef]
    · have := List.length_filterMap_le id rk; rw [List.length_map]; omega
    · intro ks h1 h2
      rw [many_of (rk := rk) h1 fun k => by rw [h2, List.mem_map]; constructor
                                            · rintro ⟨r, hr', e⟩; exact ⟨r, by simpa using hr', e.symm⟩
                                            · rintro ⟨r, hr', e⟩; exact ⟨r, by simpa using hr', e.symm⟩]
      exact hP _ (m1.new hq)
/-! ### _law_shown -/
def G_lshown : Gs := fun rs μ P => ∃ (rk : List (Option Nat)), rs = [.tup (rk.map encN)] ∧ rk.length ≤ 1000 ∧ Pu μ P (.tup ((shown rk).map encO))
theorem sc_lshown : FnScope ["_law_ranks_here", "_law_held", "_law_rank"] ["_law_ranks_here"] (defScope s__law_shown) := ⟨rfl, rfl, rfl, by decide +kernel, rfl, by decide +kernel, by decide +kernel⟩
theorem ok_lshown (F : FD K "_law_shown" "_law_shown" s__law_shown f fd) (M : Md mg) : FnOk P w K mg base C8.CX0 1 f fd ["_law_ranks_here"] (spOf P w K G_lshown) := by
  refine ok_of F sc_lshown (fun rs μ Po ⟨_, e, _⟩ => by rw [e]; rfl) fun cdv A outer s0 H E rs μ Po hr ⟨rk, e, hl, hP⟩ => ?_
  subst e
  refine w_cons <| w_set (i := 1) sc_lshown.nd <| e_lst <| a_nil ⟨sz, fun fa hfa => ?_⟩
  show WS _ [_, _, _] _ _ _
  refine w_cons <| w_for (g := gN 2) (sl := [2]) PassesOwn.never rfl (g_name sc_lshown.nd) <| i_tup <| e_var (i := 0) rfl ⟨rk.map encN, rfl, ?_⟩
  refine ⟨fun i ρ μ' => ∃ a, MSub μ μ' ∧ μ' fa = some (.lst (((shown rk).take i).map fun o => .dat (encO o))) ∧ ρ = [some (.tup (rk.map encN)), some (.loc fa), a],
    ⟨_, (MSub.refl μ).new hfa, updM_same, rfl⟩, fun _ _ _ _ _ => trivial, ?_, ?_⟩
  · rintro i x ρ1 μ3 hi ⟨d, hd, rfl⟩ ⟨a, m3, hf3, rfl⟩
    rw [List.getElem?_map] at hd
    cases hk : rk[i]? with
    | none => rw [hk] at hd; cases hd
    | some o =>
      rw [hk] at hd
      cases hd
      have hrk : (shown rk)[i]? = some (o.map fun r : Nat => 2 * (r : Int) + 1) := by unfold shown; rw [List.getElem?_map, hk]; rfl
      have il : i < rk.length := (List.getElem?_eq_some_iff.mp hk).1
      have lt : (((shown rk).take i).map fun o => SV.dat (encO o)).length < 10000000 := by rw [List.length_map, List.length_take]; omega
      show WS _ [_, _, _] _ _ _
      refine w_one <| w_if <| t_isN <| e_var (i := 2) rfl ?_
      cases o with
      | none =>
        refine ⟨fun _ => ?_, fun h => ft h⟩
        refine w_one <| w_expr <| e_append <| e_var (i := 1) rfl ⟨fa, rfl, ⟨_, hf3⟩, e_non ⟨_, hf3, lt, ?_⟩⟩
        refine ⟨_, m3.fresh hfa, ?_, rfl⟩
        rw [updM_same, ← takeMap (shown rk) (fun o => .dat (encO o)) hrk]; rfl
      | some z =>
        refine ⟨fun h => ff h, fun _ => ?_⟩
        refine w_one <| w_expr <| e_append <| e_var (i := 1) rfl ⟨fa, rfl, ⟨_, hf3⟩, e_add <| e_mul <| e_int <| e_var (i := 2) rfl ⟨2, (z : Int), rfl, rfl, .inl (by omega), e_int ⟨_, _, rfl, rfl, _, hf3, lt, ?_⟩⟩⟩
        refine ⟨_, m3.fresh hfa, ?_, rfl⟩
        rw [updM_same, ← takeMap (shown rk) (fun o => .dat (encO o)) hrk]; rfl
  · rintro ρ1 μ3 ⟨a, m3, hf3, rfl⟩
    refine w_one <| w_ret <| e_tuple M.tuple <| e_var (i := 1) rfl ⟨fa, (shown rk).map encO, rfl, .inl ?_, hP _ m3⟩
    rw [hf3, List.length_map, List.take_of_length_le (by unfold shown; rw [List.length_map]; exact Nat.le_refl _), List.map_map]; rfl
end
end AV
-- text Th12
set_option linter.all false
set_option maxHeartbeats 1000000
/-! A log of ints from a row of tags and spots. Plain Lean. -/
namespace TH
/-- from a joint type a row of tags and spots leads to different answers -/
inductive Leads (M N : Machine) : Joint → List (Nat × Nat) → Prop
  | last {J : Joint} {t s : Nat} : t < M.tags → s < 2 * many J.2.2 + 1 → (jr1 M J t s).2 ≠ (jr2 M N J t s).2 → Leads M N J [(t, s)]
  | step {J : Joint} {t s : Nat} {p : List (Nat × Nat)} : t < M.tags → s < 2 * many J.2.2 + 1 → Leads M N (after M N J t s) p → Leads M N J ((t, s) :: p)
/-- a row leads from a joint type to another one -/
inductive Reach (M N : Machine) : Joint → List (Nat × Nat) → Joint → Prop
  | nil {J : Joint} : Reach M N J [] J
  | step {J L : Joint} {t s : Nat} {p : List (Nat × Nat)} : t < M.tags → s < 2 * many J.2.2 + 1 → Reach M N (after M N J t s) p L → Reach M N J ((t, s) :: p) L
theorem Reach.snoc {M N : Machine} {J L : Joint} {p : List (Nat × Nat)} {t s : Nat} (h : Reach M N J p L) (ht : t < M.tags) (hs : s < 2 * many L.2.2 + 1) : Reach M N J (p ++ [(t, s)]) (after M N L t s) := by
  induction h with
  | nil => exact .step ht hs .nil
  | step h1 h2 _ ih => exact .step h1 h2 (ih hs)
theorem Reach.leads {M N : Machine} {J L : Joint} {p : List (Nat × Nat)} {t s : Nat} (h : Reach M N J p L) (ht : t < M.tags) (hs : s < 2 * many L.2.2 + 1) (hne : (jr1 M L t s).2 ≠ (jr2 M N L t s).2) : Leads M N J (p ++ [(t, s)]) := by
  induction h with
  | nil => exact .last ht hs hne
  | step h1 h2 _ ih => exact .step h1 h2 (ih hs hne)
theorem Leads.pj {M N : Machine} {J : Joint} {p : List (Nat × Nat)} (h : Leads M N J p) : PJ M N J := by
  induction h with
  | last h1 h2 h3 => exact .now _ _ h1 h2 h3
  | step h1 h2 _ ih => exact .later _ _ h1 h2 ih
theorem Leads.tags {M N : Machine} {J : Joint} {p : List (Nat × Nat)} (h : Leads M N J p) : ∀ e ∈ p, e.1 < M.tags := by
  induction h with
  | last h1 _ _ => intro e he; rw [List.mem_singleton.mp he]; exact h1
  | step h1 _ _ ih => intro e he; rcases List.mem_cons.mp he with h | h
                      · rw [h]; exact h1
                      · exact ih e h
/-! ### the order of all items so far, and both sides -/
structure PSt where
  ord : List Nat
  one : Con Nat
  oth : Con Nat
def PSt.now (S : PSt) : List Nat := S.ord.filter fun i => decide (some i ∈ S.one.2) || decide (some i ∈ S.oth.2)
def PSt.item (S : PSt) (s : Nat) : Nat := if s % 2 = 1 then S.now[s / 2]?.getD 0 else S.ord.length
def PSt.at_ (S : PSt) (s : Nat) : Nat := if 0 < s then S.ord.idxOf (S.now[s / 2 - 1]?.getD 0) + 1 else 0
def PSt.ord' (S : PSt) (s : Nat) : List Nat := if s % 2 = 1 then S.ord else S.ord.take (S.at_ s) ++ [S.ord.length] ++ S.ord.drop (S.at_ s)
def placedIn (h : Held Nat) (o : List Nat) : Held Int := h.map (Option.map fun i => ((o.idxOf i : Nat) : Int))
def itemsOf (h : Held Int) (o : List Nat) : Held Nat := h.map (Option.map fun p => o[p.toNat]?.getD 0)
def pVal (S : PSt) (s : Nat) : Int := (((S.ord' s).idxOf (S.item s) : Nat) : Int)
def pRd (M : Machine) (o : List Nat) (c : Con Nat) (t : Nat) (v : Int) : Con Nat :=
  ((readM M (c.1, placedIn c.2 o) t v).1.1, itemsOf (readM M (c.1, placedIn c.2 o) t v).1.2 o)
def pStep (M N : Machine) (S : PSt) (e : Nat × Nat) : PSt :=
  ⟨S.ord' e.2, pRd M (S.ord' e.2) S.one e.1 (pVal S e.2), pRd N (S.ord' e.2) S.oth e.1 (pVal S e.2)⟩
def pRun (M N : Machine) : PSt → List (Nat × Nat) → PSt
  | S, [] => S
  | S, e :: p => pRun M N (pStep M N S e) p
def pLog (M N : Machine) : PSt → List (Nat × Nat) → List (Nat × Nat)
  | _, [] => []
  | S, e :: p => (e.1, S.item e.2) :: pLog M N (pStep M N S e) p
theorem pRun_snoc {M N : Machine} : ∀ (S : PSt) (p : List (Nat × Nat)) (e : Nat × Nat), pRun M N S (p ++ [e]) = pStep M N (pRun M N S p) e
  | S, [], e => rfl
  | S, x :: p, e => by rw [List.cons_append, pRun, pRun_snoc, pRun]
theorem pLog_snoc {M N : Machine} : ∀ (S : PSt) (p : List (Nat × Nat)) (e : Nat × Nat), pLog M N S (p ++ [e]) = pLog M N S p ++ [(e.1, (pRun M N S p).item e.2)]
  | S, [], e => rfl
  | S, x :: p, e => by rw [List.cons_append, pLog, pLog_snoc, pLog, pRun, List.cons_append]
/-- the state is right -/
structure POk (M N : Machine) (S : PSt) : Prop where
  nd : S.ord.Nodup
  lt : ∀ i ∈ S.ord, i < S.ord.length
  m1 : ∀ i, some i ∈ S.one.2 → i ∈ S.ord
  m2 : ∀ i, some i ∈ S.oth.2 → i ∈ S.ord
  l1 : S.one.2.length = M.regs
  l2 : S.oth.2.length = N.regs
  s1 : S.one.1 < M.steps.length
  s2 : S.oth.1 < N.steps.length
theorem PSt.mem_now {S : PSt} {i : Nat} : i ∈ S.now ↔ i ∈ S.ord ∧ (some i ∈ S.one.2 ∨ some i ∈ S.oth.2) := by unfold PSt.now; simp
theorem ord'_nodup {S : PSt} (nd : S.ord.Nodup) (lt : ∀ i ∈ S.ord, i < S.ord.length) (s : Nat) : (S.ord' s).Nodup ∧ (∀ i ∈ S.ord' s, i < (S.ord' s).length) ∧ S.ord.Sublist (S.ord' s) := by
  unfold PSt.ord'
  split
  · exact ⟨nd, lt, List.Sublist.refl _⟩
  · have hp : (S.ord.take (S.at_ s) ++ [S.ord.length] ++ S.ord.drop (S.at_ s)).Perm (S.ord.length :: S.ord) := by
      have h1 : (S.ord.take (S.at_ s) ++ [S.ord.length] ++ S.ord.drop (S.at_ s)).Perm (S.ord.length :: (S.ord.take (S.at_ s) ++ S.ord.drop (S.at_ s))) := by
        rw [List.append_assoc]; exact List.perm_middle
      rw [List.take_append_drop] at h1; exact h1
    refine ⟨hp.nodup_iff.mpr (List.nodup_cons.mpr ⟨fun h => by have := lt _ h; omega, nd⟩), fun i hi => ?_, ?_⟩
    · rw [hp.length_eq]
      rcases List.mem_cons.mp (hp.mem_iff.mp hi) with h | h
      · rw [h]; simp
      · have := lt i h; simp; omega
    · have : (S.ord.take (S.at_ s) ++ S.ord.drop (S.at_ s)).Sublist (S.ord.take (S.at_ s) ++ [S.ord.length] ++ S.ord.drop (S.at_ s)) := by
        rw [List.append_assoc]
        exact List.Sublist.append (List.Sublist.refl _) (List.sublist_append_right _ _)
      rw [List.take_append_drop] at this; exact this
/-- the known values are the items of now -/
def vals (f : Nat → Int) (h : Held Nat) : Held Int := h.map (Option.map f)
theorem mem_vals {f : Nat → Int} {h : Held Nat} {x : Int} : some x ∈ vals f h ↔ ∃ i, some i ∈ h ∧ f i = x := by
  unfold vals
  rw [List.mem_map]
  constructor
  · rintro ⟨o, ho, e⟩
    cases o with
    | none => cases e
    | some i => exact ⟨i, ho, by simpa using e⟩
  · rintro ⟨i, hi, e⟩
    exact ⟨some i, hi, by rw [← e]; rfl⟩
theorem known_now {f : Nat → Int} {S : PSt} (m1 : ∀ i, some i ∈ S.one.2 → i ∈ S.ord) (m2 : ∀ i, some i ∈ S.oth.2 → i ∈ S.ord) (sf : Sorted (S.ord.map f)) : known (vals f S.one.2 ++ vals f S.oth.2) = S.now.map f := by
  refine sorted_unique (known_sorted _) (List.Pairwise.sublist (List.Sublist.map f List.filter_sublist) sf) fun x => ?_
  rw [mem_known, List.mem_append, mem_vals, mem_vals, List.mem_map]
  constructor
  · rintro (⟨i, h, e⟩ | ⟨i, h, e⟩)
    · exact ⟨i, PSt.mem_now.mpr ⟨m1 i h, .inl h⟩, e⟩
    · exact ⟨i, PSt.mem_now.mpr ⟨m2 i h, .inr h⟩, e⟩
  · rintro ⟨i, h, e⟩
    rcases (PSt.mem_now.mp h).2 with h | h
    · exact .inl ⟨i, h, e⟩
    · exact .inr ⟨i, h, e⟩
theorem mapSorted_lt {f : Nat → Int} {o : List Nat} (sf : Sorted (o.map f)) {a b i j : Nat} (hi : o[a]? = some i) (hj : o[b]? = some j) : a < b ↔ f i < f j :=
  sorted_lt sf (by rw [List.getElem?_map, hi]; rfl) (by rw [List.getElem?_map, hj]; rfl)
/-- the value of the item stands at the spot -/
theorem item_mono {f : Nat → Int} {S : PSt} (nd : S.ord.Nodup) (lt : ∀ i ∈ S.ord, i < S.ord.length) {s : Nat} (hs : s < 2 * S.now.length + 1) (sf : Sorted ((S.ord' s).map f)) : Mono (((s : Int), f (S.item s)) :: P0 (S.now.map f)) := by
  have so : Sorted (S.ord.map f) := List.Pairwise.sublist (List.Sublist.map f (ord'_nodup nd lt s).2.2) sf
  have sn : Sorted (S.now.map f) := List.Pairwise.sublist (List.Sublist.map f List.filter_sublist) so
  refine mono_cons (mono_P0 sn) ?_
  rintro ⟨a, x⟩ hp
  obtain ⟨i, hi, rfl⟩ := mem_P0.mp hp
  rw [List.getElem?_map] at hi
  cases hy : S.now[i]? with
  | none => rw [hy] at hi; cases hi
  | some y =>
    rw [hy] at hi
    have hx : f y = x := by simpa using hi
    subst hx
    have il : i < S.now.length := (List.getElem?_eq_some_iff.mp hy).1
    by_cases h1 : s % 2 = 1
    · have hk : s / 2 < S.now.length := by omega
      have e : S.now[s / 2]? = some (S.item s) := by unfold PSt.item; rw [if_pos h1, List.getElem?_eq_getElem hk]; rfl
      refine ⟨?_, ?_⟩
      · rw [← mapSorted_lt sn hy e]; simp only; omega
      · rw [← mapSorted_lt sn e hy]; simp only; omega
    · have ei : S.item s = S.ord.length := by unfold PSt.item; rw [if_neg h1]
      have eo : S.ord' s = S.ord.take (S.at_ s) ++ [S.ord.length] ++ S.ord.drop (S.at_ s) := by unfold PSt.ord'; rw [if_neg h1]
      rw [eo, List.map_append, List.map_append] at sf
      have mo : y ∈ S.ord := (PSt.mem_now.mp (List.mem_of_getElem? hy)).1
      have gy := idx_get mo
      rw [ei]
      by_cases hik : i < s / 2
      · have hk : s / 2 - 1 < S.now.length := by omega
        have ez : S.now[s / 2 - 1]? = some (S.now[s / 2 - 1]) := List.getElem?_eq_getElem hk
        have mz : S.now[s / 2 - 1] ∈ S.ord := (PSt.mem_now.mp (List.mem_of_getElem? ez)).1
        have ea : S.at_ s = S.ord.idxOf S.now[s / 2 - 1] + 1 := by unfold PSt.at_; rw [if_pos (by omega), ez]; rfl
        have hle : S.ord.idxOf y ≤ S.ord.idxOf S.now[s / 2 - 1] := by
          apply Nat.le_of_not_lt
          intro h
          have := (mapSorted_lt so (idx_get mz) gy).mp h
          have := (mapSorted_lt sn ez hy).mpr this
          omega
        have my : y ∈ S.ord.take (S.at_ s) := List.mem_of_getElem? (i := S.ord.idxOf y) (by rw [List.getElem?_take, if_pos (by omega)]; exact gy)
        have hlt : f y < f S.ord.length := (List.pairwise_append.mp ((List.pairwise_append.mp sf).1)).2.2 _ (List.mem_map.mpr ⟨y, my, rfl⟩) _ (by simp)
        exact ⟨⟨fun _ => hlt, fun _ => by simp only; omega⟩, ⟨fun z => by simp only at z; omega, fun z => absurd z (asym hlt)⟩⟩
      · have my : y ∈ S.ord.drop (S.at_ s) := by
          by_cases h0 : 0 < s
          · have hk : s / 2 - 1 < S.now.length := by omega
            have ez : S.now[s / 2 - 1]? = some (S.now[s / 2 - 1]) := List.getElem?_eq_getElem hk
            have mz : S.now[s / 2 - 1] ∈ S.ord := (PSt.mem_now.mp (List.mem_of_getElem? ez)).1
            have ea : S.at_ s = S.ord.idxOf S.now[s / 2 - 1] + 1 := by unfold PSt.at_; rw [if_pos (by omega), ez]; rfl
            have hgt : S.ord.idxOf S.now[s / 2 - 1] < S.ord.idxOf y := (mapSorted_lt so (idx_get mz) gy).mpr ((mapSorted_lt sn ez hy).mp (by omega))
            exact List.mem_of_getElem? (i := S.ord.idxOf y - S.at_ s) (by rw [List.getElem?_drop, show S.at_ s + (S.ord.idxOf y - S.at_ s) = S.ord.idxOf y by omega]; exact gy)
          · have ea : S.at_ s = 0 := by unfold PSt.at_; rw [if_neg h0]
            rw [ea]; exact mo
        have hlt : f S.ord.length < f y := (List.pairwise_append.mp sf).2.2 _ (by simp) _ (List.mem_map.mpr ⟨y, my, rfl⟩)
        exact ⟨⟨fun z => by simp only at z; omega, fun z => absurd z (asym hlt)⟩, ⟨fun _ => hlt, fun _ => by simp only; omega⟩⟩
/-- reading over places is reading over values -/
def PQ (f : Nat → Int) (o : List Nat) : List (Int × Int) := o.map fun i => (((o.idxOf i : Nat) : Int), f i)
theorem mem_PQ {f : Nat → Int} {o : List Nat} {a b : Int} : (a, b) ∈ PQ f o ↔ ∃ i ∈ o, ((o.idxOf i : Nat) : Int) = a ∧ f i = b := by unfold PQ; simp
theorem mono_PQ {f : Nat → Int} {o : List Nat} (sf : Sorted (o.map f)) : Mono (PQ f o) := by
  rintro ⟨a, x⟩ hp ⟨b, y⟩ hq
  obtain ⟨i, hi, rfl, rfl⟩ := mem_PQ.mp hp
  obtain ⟨j, hj, rfl, rfl⟩ := mem_PQ.mp hq
  show ((o.idxOf i : Nat) : Int) < ((o.idxOf j : Nat) : Int) ↔ f i < f j
  rw [← mapSorted_lt sf (idx_get hi) (idx_get hj)]; omega
theorem placed_rel {f : Nat → Int} {o : List Nat} {h : Held Nat} (m : ∀ i, some i ∈ h → i ∈ o) : RH (PQ f o) (placedIn h o) (vals f h) :=
  All2.map2 _ _ _ fun x hx => by
    cases x with
    | none => trivial
    | some i => exact mem_PQ.mpr ⟨i, m i hx, rfl, rfl⟩
theorem items_rel {f : Nat → Int} {o : List Nat} : ∀ {h : Held Int} {h' : Held Int}, RH (PQ f o) h h' → vals f (itemsOf h o) = h' ∧ ∀ i, some i ∈ itemsOf h o → i ∈ o
  | _, _, .nil => ⟨rfl, fun i h => by simp [itemsOf] at h⟩
  | _, _, .cons (a := a) (b := b) r t => by
    obtain ⟨e, k⟩ := items_rel t
    cases a with
    | none =>
      cases b with
      | some _ => exact absurd r id
      | none => exact ⟨by rw [← e]; rfl, fun i hi => k i (by simpa [itemsOf] using hi)⟩
    | some p =>
      cases b with
      | none => exact absurd r id
      | some q =>
        obtain ⟨i, hi, rfl, rfl⟩ := mem_PQ.mp r
        have g : o[(((o.idxOf i : Nat) : Int)).toNat]?.getD 0 = i := by rw [Int.toNat_natCast, idx_get hi]; rfl
        refine ⟨?_, fun j hj => ?_⟩
        · rw [← e]
          show some (f (o[(((o.idxOf i : Nat) : Int)).toNat]?.getD 0)) :: _ = _
          rw [g]; rfl
        · have hj : some j ∈ some (o[(((o.idxOf i : Nat) : Int)).toNat]?.getD 0) :: itemsOf _ o := hj
          rw [g] at hj
          rcases List.mem_cons.mp hj with h | h
          · cases h; exact hi
          · exact k j h
theorem rd_rel {f : Nat → Int} {o : List Nat} (sf : Sorted (o.map f)) (M : Machine) {c : Con Nat} (m : ∀ i, some i ∈ c.2 → i ∈ o) (t : Nat) {i : Nat} (hi : i ∈ o) :
    (pRd M o c t ((o.idxOf i : Nat) : Int)).1 = (readM M (c.1, vals f c.2) t (f i)).1.1 ∧ vals f (pRd M o c t ((o.idxOf i : Nat) : Int)).2 = (readM M (c.1, vals f c.2) t (f i)).1.2 ∧ ∀ j, some j ∈ (pRd M o c t ((o.idxOf i : Nat) : Int)).2 → j ∈ o := by
  have r := (read_rel (mono_PQ sf) M (c := (c.1, placedIn c.2 o)) (c' := (c.1, vals f c.2)) (mem_PQ.mpr ⟨i, hi, rfl, rfl⟩) ⟨rfl, placed_rel m⟩ t).1
  obtain ⟨e, k⟩ := items_rel r.held
  exact ⟨r.st, e, k⟩
theorem item_mem {S : PSt} {s : Nat} (hs : s < 2 * S.now.length + 1) : S.item s ∈ S.ord' s := by
  unfold PSt.item PSt.ord'
  split
  · have hk : s / 2 < S.now.length := by omega
    rw [List.getElem?_eq_getElem hk]
    exact (PSt.mem_now.mp (List.getElem_mem hk)).1
  · simp
theorem read_st {M : Machine} {α : Type} [LT α] [DecidableLT α] [DecidableEq α] (hM : ∀ st t k, k ∈ M.at_ st t → k.next < M.steps.length) {c : Con α} (h : c.1 < M.steps.length) (t : Nat) (v : α) : (readM M c t v).1.1 < M.steps.length := by
  unfold readM
  split
  · exact h
  · rename_i k e
    exact hM _ _ k (List.mem_of_find?_eq_some e)
theorem pStep_ok {M N : Machine} (fM : M.full) (fN : N.full) (nM : ∀ st t k, k ∈ M.at_ st t → k.next < M.steps.length) (nN : ∀ st t k, k ∈ N.at_ st t → k.next < N.steps.length) {S : PSt} (h : POk M N S) {t s : Nat} (hs : s < 2 * S.now.length + 1) : POk M N (pStep M N S (t, s)) := by
  obtain ⟨a, b, c⟩ := ord'_nodup h.nd h.lt s
  have sf : Sorted ((S.ord' s).map fun i => (((S.ord' s).idxOf i : Nat) : Int)) := by
    rw [Sorted, List.pairwise_map, List.pairwise_iff_getElem]
    intro i j h1 h2 hij
    rw [List.Nodup.idxOf_getElem a, List.Nodup.idxOf_getElem a]; omega
  have m1 : ∀ i, some i ∈ S.one.2 → i ∈ S.ord' s := fun i hi => c.subset (h.m1 i hi)
  have m2 : ∀ i, some i ∈ S.oth.2 → i ∈ S.ord' s := fun i hi => c.subset (h.m2 i hi)
  have r1 := rd_rel sf M m1 t (item_mem hs)
  have r2 := rd_rel sf N m2 t (item_mem hs)
  refine ⟨a, b, r1.2.2, r2.2.2, ?_, ?_, ?_, ?_⟩
  · show (itemsOf _ _).length = _
    unfold itemsOf; rw [List.length_map]
    exact read_len fM (by show (placedIn _ _).length = _; unfold placedIn; rw [List.length_map]; exact h.l1) _ _
  · show (itemsOf _ _).length = _
    unfold itemsOf; rw [List.length_map]
    exact read_len fN (by show (placedIn _ _).length = _; unfold placedIn; rw [List.length_map]; exact h.l2) _ _
  · exact read_st nM (c := (S.one.1, placedIn S.one.2 (S.ord' s))) h.s1 t _
  · exact read_st nN (c := (S.oth.1, placedIn S.oth.2 (S.ord' s))) h.s2 t _
theorem pRun_ord {M N : Machine} : ∀ (p : List (Nat × Nat)) {S : PSt}, S.ord.Nodup → (∀ i ∈ S.ord, i < S.ord.length) → S.ord.Sublist (pRun M N S p).ord ∧ (pRun M N S p).ord.Nodup ∧ ∀ i ∈ (pRun M N S p).ord, i < (pRun M N S p).ord.length
  | [], S, nd, lt => ⟨List.Sublist.refl _, nd, lt⟩
  | e :: p, S, nd, lt => by
    obtain ⟨a, b, c⟩ := ord'_nodup nd lt e.2
    obtain ⟨x, y, z⟩ := pRun_ord (M := M) (N := N) p (S := pStep M N S e) a b
    exact ⟨c.trans x, y, z⟩
def numO (o : List Nat) (i : Nat) : Int := ((o.idxOf i : Nat) : Int)
theorem numO_sorted {o : List Nat} (nd : o.Nodup) : Sorted (o.map (numO o)) := by
  rw [Sorted, List.pairwise_map, List.pairwise_iff_getElem]
  intro i j h1 h2 hij
  unfold numO
  rw [List.Nodup.idxOf_getElem nd, List.Nodup.idxOf_getElem nd]; omega
theorem leads_parts {M N : Machine} (fM : M.full) (fN : N.full) (nM : ∀ st t k, k ∈ M.at_ st t → k.next < M.steps.length) (nN : ∀ st t k, k ∈ N.at_ st t → k.next < N.steps.length) {f : Nat → Int} {J : Joint} {p : List (Nat × Nat)} (h : Leads M N J p) : ∀ {S : PSt}, POk M N S → Sorted ((pRun M N S p).ord.map f) → joint (S.one.1, vals f S.one.2) (S.oth.1, vals f S.oth.2) = J →
    run M (S.one.1, vals f S.one.2) ((pLog M N S p).map fun e => (e.1, f e.2)) ≠ run N (S.oth.1, vals f S.oth.2) ((pLog M N S p).map fun e => (e.1, f e.2)) := by
  have len : ∀ h : Held Nat, (vals f h).length = h.length := fun h => by unfold vals; rw [List.length_map]
  -- one step
  have one : ∀ {J : Joint} {t s : Nat} {S : PSt}, s < 2 * many J.2.2 + 1 → POk M N S → Sorted ((S.ord' s).map f) → joint (S.one.1, vals f S.one.2) (S.oth.1, vals f S.oth.2) = J → s < 2 * S.now.length + 1 ∧
      ((jr1 M J t s).2 = (jr2 M N J t s).2 ↔ (readM M (S.one.1, vals f S.one.2) t (f (S.item s))).2 = (readM N (S.oth.1, vals f S.oth.2) t (f (S.item s))).2) ∧
      after M N J t s = joint (readM M (S.one.1, vals f S.one.2) t (f (S.item s))).1 (readM N (S.oth.1, vals f S.oth.2) t (f (S.item s))).1 := by
    intro J t s S hs ok sf e
    subst e
    have so : Sorted (S.ord.map f) := List.Pairwise.sublist (List.Sublist.map f (ord'_nodup ok.nd ok.lt s).2.2) sf
    have hk := known_now ok.m1 ok.m2 so
    have hs' : s < 2 * S.now.length + 1 := by
      have : many (ranks (vals f S.one.2 ++ vals f S.oth.2)) = S.now.length := by rw [many_ranks, hk, List.length_map]
      have hs : s < 2 * many (ranks (vals f S.one.2 ++ vals f S.oth.2)) + 1 := hs
      omega
    obtain ⟨_, r1, r2⟩ := joint_rel (M := M) (c := (S.one.1, vals f S.one.2)) (d := (S.oth.1, vals f S.oth.2)) (by rw [len]; exact ok.l1)
    have m2 := item_mono ok.nd ok.lt hs' sf
    rw [← hk] at m2
    have sub : ∀ q ∈ P0 (known (vals f S.one.2 ++ vals f S.oth.2)), q ∈ ((s : Int), f (S.item s)) :: P0 (known (vals f S.one.2 ++ vals f S.oth.2)) := fun q hq => by simp [hq]
    have q1 := read_rel m2 M (v := (s : Int)) (v' := f (S.item s)) (by simp) (r1.mono sub) t
    have q2 := read_rel m2 N (v := (s : Int)) (v' := f (S.item s)) (by simp) (r2.mono sub) t
    exact ⟨hs', RA.eq_iff m2 q1.2 q2.2, joint_congr m2 q1.1 q2.1⟩
  induction h with
  | @last J t s ht hs hne =>
    intro S ok sf e
    have sf : Sorted ((S.ord' s).map f) := sf
    obtain ⟨_, h2, _⟩ := one (t := t) hs ok sf e
    show [_] ≠ [_]
    intro z
    exact hne (h2.mpr (by simpa using z))
  | @step J t s p ht hs _ ih =>
    intro S ok sf e
    have sf1 : Sorted ((S.ord' s).map f) := List.Pairwise.sublist (List.Sublist.map f (pRun_ord p (S := pStep M N S (t, s)) (ord'_nodup ok.nd ok.lt s).1 (ord'_nodup ok.nd ok.lt s).2.1).1) sf
    obtain ⟨hs', h2, h3⟩ := one (t := t) hs ok sf1 e
    have ok' := pStep_ok fM fN nM nN ok (t := t) hs'
    have r1 := rd_rel sf1 M (c := S.one) (fun i hi => (ord'_nodup ok.nd ok.lt s).2.2.subset (ok.m1 i hi)) t (item_mem hs')
    have r2 := rd_rel sf1 N (c := S.oth) (fun i hi => (ord'_nodup ok.nd ok.lt s).2.2.subset (ok.m2 i hi)) t (item_mem hs')
    have e1 : ((pStep M N S (t, s)).one.1, vals f (pStep M N S (t, s)).one.2) = (readM M (S.one.1, vals f S.one.2) t (f (S.item s))).1 := Prod.ext r1.1 r1.2.1
    have e2 : ((pStep M N S (t, s)).oth.1, vals f (pStep M N S (t, s)).oth.2) = (readM N (S.oth.1, vals f S.oth.2) t (f (S.item s))).1 := Prod.ext r2.1 r2.2.1
    have k := ih ok' sf (by rw [e1, e2]; exact h3.symm)
    rw [e1, e2] at k
    show (_ :: _) ≠ (_ :: _)
    intro z
    rw [List.cons.injEq] at z
    exact k z.2
/-- the state at the beginning -/
def pBegin (M N : Machine) : PSt := ⟨[], (0, List.replicate M.regs none), (0, List.replicate N.regs none)⟩
theorem pBegin_ok {M N : Machine} (h1 : 0 < M.steps.length) (h2 : 0 < N.steps.length) : POk M N (pBegin M N) :=
  ⟨List.nodup_nil, fun i h => by simp [pBegin] at h, fun i h => by simp [pBegin, List.mem_replicate] at h, fun i h => by simp [pBegin, List.mem_replicate] at h, by simp [pBegin], by simp [pBegin], h1, h2⟩
/-- the log of a row of tags and spots -/
def partLog (M N : Machine) (p : List (Nat × Nat)) : List (Nat × Int) := (pLog M N (pBegin M N) p).map fun e => (e.1, numO (pRun M N (pBegin M N) p).ord e.2)
theorem partLog_parts {M N : Machine} (fM : M.full) (fN : N.full) (nM : ∀ st t k, k ∈ M.at_ st t → k.next < M.steps.length) (nN : ∀ st t k, k ∈ N.at_ st t → k.next < N.steps.length) (h1 : 0 < M.steps.length) (h2 : 0 < N.steps.length) {p : List (Nat × Nat)} (h : Leads M N (joint (begin (α := Int) M) (begin N)) p) :
    run M (begin M) (partLog M N p) ≠ run N (begin N) (partLog M N p) := by
  have e : ∀ (f : Nat → Int) n, vals f (List.replicate n none) = List.replicate n none := fun f n => by unfold vals; rw [List.map_replicate]; rfl
  have ok := pBegin_ok (M := M) (N := N) h1 h2
  have sf := numO_sorted (pRun_ord (M := M) (N := N) p ok.nd ok.lt).2.1
  have := leads_parts fM fN nM nN h (S := pBegin M N) (f := numO (pRun M N (pBegin M N) p).ord) ok sf (by
    show joint (0, vals _ (List.replicate _ none)) (0, vals _ (List.replicate _ none)) = _
    rw [e, e]; rfl)
  have e1 : ((pBegin M N).one.1, vals (numO (pRun M N (pBegin M N) p).ord) (pBegin M N).one.2) = begin (α := Int) M := by
    show (0, vals _ (List.replicate _ none)) = _
    rw [e]; rfl
  have e2 : ((pBegin M N).oth.1, vals (numO (pRun M N (pBegin M N) p).ord) (pBegin M N).oth.2) = begin (α := Int) N := by
    show (0, vals _ (List.replicate _ none)) = _
    rw [e]; rfl
  rw [e1, e2] at this
  exact this
theorem pLog_tags {M N : Machine} {k : Nat} : ∀ (p : List (Nat × Nat)) (S : PSt), (∀ e ∈ p, e.1 < k) → ∀ e ∈ pLog M N S p, e.1 < k
  | [], S, _, e, he => by simp [pLog] at he
  | x :: p, S, h, e, he => by
    rw [pLog] at he
    rcases List.mem_cons.mp he with q | q
    · rw [q]; exact h x (by simp)
    · exact pLog_tags p _ (fun e he => h e (by simp [he])) e q
theorem pLog_len {M N : Machine} : ∀ (p : List (Nat × Nat)) (S : PSt), (pLog M N S p).length = p.length
  | [], S => rfl
  | x :: p, S => by rw [pLog, List.length_cons, List.length_cons, pLog_len p]
theorem partLog_tags {M N : Machine} {p : List (Nat × Nat)} {J : Joint} (h : Leads M N J p) : ∀ e ∈ partLog M N p, e.1 < M.tags := by
  intro e he
  obtain ⟨x, hx, rfl⟩ := List.mem_map.mp he
  exact pLog_tags p _ h.tags x hx
end TH
-- text W23
set_option Elab.async false
set_option linter.all false
set_option maxRecDepth 100000
set_option maxHeartbeats 4000000
namespace AV
open PySem L2 TH
abbrev Path := List (Nat × Nat)
def encSp (e : Nat × Nat) : PyData := .tuple [.int e.1, .int e.2]
def encFd (e : Joint × Path) : PyData := .tuple [encJ e.1, .tuple (e.2.map encSp)]
structure LSr (m n : Machine) (J0 : Joint) (W : List (Joint × Path)) : Prop where
  nd : (W.map (·.1)).Nodup
  ok : ∀ e ∈ W, JOk m n e.1
  reach : ∀ e ∈ W, Reach m n J0 e.2 e.1
  len : ∀ (i : Nat) (e : Joint × Path), W[i]? = some e → e.2.length ≤ i
  fst : J0 ∈ W.map (·.1)
theorem LSr.few {m n : Machine} {J0 : Joint} {W : List (Joint × Path)} (h : LSr m n J0 W) : W.length ≤ jB m n := by
  have := jCount h.nd (fun J hJ => by obtain ⟨e, he, rfl⟩ := List.mem_map.mp hJ; exact h.ok e he)
  rwa [List.length_map] at this
theorem LSr.add {m n : Machine} {J0 J : Joint} {W : List (Joint × Path)} {p : Path} {k t s : Nat} (h : LSr m n J0 W) (om : MOk m) (on : MOk n) (hk : W[k]? = some (J, p)) (h1 : t < m.tags) (h2 : t < n.tags) (hs : s < 2 * many J.2.2 + 1) (hn : after m n J t s ∉ W.map (·.1)) : LSr m n J0 (W ++ [(after m n J t s, p ++ [(t, s)])]) where
  nd := by
    rw [List.map_append, List.nodup_append]
    refine ⟨h.nd, by simp, fun a ha b hb e => ?_⟩
    have hb : b = after m n J t s := by simpa using hb
    subst hb
    subst e
    exact hn ha
  ok := fun L hL => by
    rcases List.mem_append.mp hL with e | e
    · exact h.ok L e
    · rw [List.mem_singleton.mp e]
      exact after_ok om on (h.ok (J, p) (List.mem_of_getElem? hk)) h1 h2
  reach := fun L hL => by
    rcases List.mem_append.mp hL with e | e
    · exact h.reach L e
    · rw [List.mem_singleton.mp e]
      exact (h.reach (J, p) (List.mem_of_getElem? hk)).snoc h1 hs
  len := fun i e he => by
    by_cases hi : i < W.length
    · rw [List.getElem?_append_left hi] at he
      exact h.len i e he
    · rw [List.getElem?_append_right (by omega)] at he
      have h0 : i - W.length = 0 := by
        apply Classical.byContradiction
        intro z
        rw [List.getElem?_eq_none (by simp; omega)] at he
        cases he
      rw [h0] at he
      cases he
      have a := h.len k _ hk
      have b := (List.getElem?_eq_some_iff.mp hk).1
      simp only [List.length_append, List.length_singleton] at a ⊢
      omega
  fst := by rw [List.map_append]; exact List.mem_append_left _ h.fst
def LGood (m n : Machine) (W : List (Joint × Path)) (J : Joint) (t s : Nat) : Prop := (jr1 m J t s).2 = (jr2 m n J t s).2 ∧ after m n J t s ∈ W.map (·.1)
structure LSto (μ μ' : Mu) (w s : Addr) (W : List (Joint × Path)) : Prop where
  sub : MSub μ μ'
  w : μ' w = some (.lst (W.map fun e => .dat (encFd e)))
  s : μ' s = some (.dct (jD (W.map (·.1))))
section
variable {P : Program} {w : World} {K : PySem.W.Frag} {mg : Str → Option Value} {base : Heap} {f : Addr} {fd : FuncData}
def G_path : Gs := fun rs μ P => ∃ (m n : Machine) (c c' : Con Int), rs = [.dat (encM m), .dat (encCon c), .dat (encM n), .dat (encCon c')] ∧ PairOk m n ∧ c.1 < m.steps.length ∧ c.2.length = m.regs ∧ c'.1 < n.steps.length ∧ c'.2.length = n.regs ∧
  ∀ μ', MSub μ μ' → (¬ PJ m n (joint c c') → P μ' (.dat .none)) ∧ ∀ p, Leads m n (joint c c') p → p.length ≤ 900001 → P μ' (.tup (p.map encSp))
theorem sc_lpath : FnScope ["_law_one", "_law_content", "_law_other", "_law_another", "_law_found", "_law_known", "_law_k", "_law_joint", "_law_held", "_law_tag", "_law_spot", "_law_first", "_law_second", "_law_key"] ["_law_one", "_law_content", "_law_other", "_law_another"] (defScope s__law_path) := ⟨rfl, rfl, rfl, by decide +kernel, rfl, by decide +kernel, by decide +kernel⟩
theorem ok_lpath (F : FD K "_law_path" "_law_path" s__law_path f fd) (M : Md mg) (cr : Fn P w K mg base 1 "_law_ranks" G_lranks) (cm : Fn P w K mg base 1 "_law_many" G_lmany) (cs : Fn P w K mg base 1 "_law_shown" G_lshown) (cd : Fn P w K mg base 12 "_law_read" G_read) : FnOk P w K mg base C8.CX0 13 f fd ["_law_one", "_law_content", "_law_other", "_law_another"] (spOf P w K G_path) := by
  refine ok_of F sc_lpath (fun rs μ Po ⟨_, _, _, _, e, _⟩ => by rw [e]; rfl) fun cdv A outer s0 H E rs μ Po hr ⟨m, n, c, c', e, po, h1, l1, h2, l2, hP⟩ => ?_
  subst e
  have om := po.o1
  have on := po.o2
  have hm := om.regs
  have hn := on.regs
  have hfew := po.few
  have mt := om.tags
  have tl : ∀ tg, tg < m.tags → tg < n.tags := fun tg h => by rw [← po.tags]; exact h
  have oj0 : JOk m n (joint c c') := joint_ok h1 h2 l1 l2
  have z1 : ∀ {a b : Nat}, a ≤ 1000000 → b ≤ 1000 → a + b ≤ sizeLine := fun h k => by rw [sizeLine_eq]; omega
  refine w_cons <| w_set (i := 4) sc_lpath.nd <| e_lst <| a_cons <| e_tup <| a_cons <| e_tup <| a_cons <| e_ixK <| e_var (i := 1) rfl ⟨_, .int c.1, rfl, rfl, a_cons <| e_ixK <| e_var (i := 3) rfl ⟨_, .int c'.1, rfl, rfl, a_cons <| e_call cr hr (a_cons <| e_catT <| e_ixK <| e_var (i := 1) rfl ⟨_, encH c.2, rfl, rfl, e_ixK <| e_var (i := 3) rfl ⟨_, encH c'.2, rfl, rfl, c.2.map encO, c'.2.map encO, rfl, rfl, ?_, ?_⟩⟩) (by omega)⟩⟩
  · rw [List.length_map, List.length_map, sizeLine_eq]; omega
  rw [← List.map_append]
  refine a_nil ⟨c.2 ++ c'.2, rfl, by rw [List.length_append]; omega, fun μ1 m1 => a_nil ⟨[_, _, _], rfl, sz, a_cons <| e_tup <| a_nil ⟨[], rfl, sz, a_nil ⟨[encJ (joint c c'), .tuple []], rfl, sz, a_nil ⟨sz, fun w hw => ?_⟩⟩⟩⟩⟩
  generalize hJ0 : joint c c' = J0 at hP oj0
  have wn : μ w = none := fresh_back m1 hw
  have hw1 : updM μ1 w (.lst [SV.tup [encJ J0, .tuple []]]) w = some (.lst [SV.tup [encJ J0, .tuple []]]) := updM_same
  have m2 := m1.new (c := .lst [SV.tup [encJ J0, .tuple []]]) hw
  generalize updM μ1 w (.lst [SV.tup [encJ J0, .tuple []]]) = μ2 at *
  show WS _ [_, _, _, _, _, _, _, _, _, _, _, _, _, _] _ _ _
  refine w_cons <| w_set (i := 5) sc_lpath.nd <| e_oneN hr.units fun s hs => e_ixK <| e_ixL <| e_var (i := 4) rfl <| e_int ⟨w, [SV.tup [encJ J0, .tuple []]], 0, _, rfl, rfl, .inl ?_, rfl, [encJ J0, .tuple []], encJ J0, rfl, rfl, e_bl ⟨kJ J0, by rw [data_kJ], depth_kJ J0, updM_same, ?_⟩⟩
  · rw [updM_ne (by intro e; rw [← e, hw1] at hs; cases hs)]; exact hw1
  have hws : w ≠ s := by intro e; rw [← e, hw1] at hs; cases hs
  have sn : μ s = none := fresh_back m2 hs
  rw [updM_updM]
  show WS _ [_, _, _, _, _, _, _, _, _, _, _, _, _, _] _ _ _
  refine w_cons <| w_for (g := gN 6) (sl := [6]) PassesOwn.never rfl (g_name sc_lpath.nd) <| i_range M.range <| e_int ⟨1000000, rfl, by omega, by omega, ?_⟩
  refine ⟨fun k ρ μ' => ∃ (W : List (Joint × Path)) (a6 a7 a8 a9 a10 a11 a12 a13 : Option SV), k ≤ W.length ∧ LSr m n J0 W ∧ LSto μ μ' w s W ∧ (∀ (i : Nat) (e : Joint × Path), i < k → W[i]? = some e → ∀ t s', t < m.tags → s' < 2 * many e.1.2.2 + 1 → LGood m n W e.1 t s') ∧
      ρ = [some (.dat (encM m)), some (.dat (encCon c)), some (.dat (encM n)), some (.dat (encCon c')), some (.loc w), some (.loc s), a6, a7, a8, a9, a10, a11, a12, a13],
    ⟨[(J0, [])], _, _, _, _, _, _, _, _, by simp, ⟨by simp, fun e he => by rw [List.mem_singleton.mp he]; exact oj0, fun e he => by rw [List.mem_singleton.mp he]; exact .nil, fun i e he => by
      cases i with
      | zero => cases he; exact Nat.le_refl _
      | succ i => simp at he, by simp⟩, ⟨m2.fresh sn, by rw [updM_ne hws]; exact hw1, by rw [updM_same]; rfl⟩, fun i e hi => by omega, rfl⟩, fun _ _ _ _ _ => trivial, ?_, ?_⟩
  · rintro k x ρ1 μ3 hk rfl ⟨W, a6, a7, a8, a9, a10, a11, a12, a13, hkW, sr, st, vis, rfl⟩
    have hB := sr.few
    rw [Int.zero_add]
    show WS _ [_, _, _, _, _, _, _, _, _, _, _, _, _, _] _ _ _
    refine w_cons <| w_if <| t_ge <| e_var (i := 6) rfl <| e_len M.len <| e_var (i := 4) rfl <| .inr ⟨w, _, rfl, .inl st.w, k, W.length, rfl, by rw [List.length_map], fun hge => ?_, fun hlt => w_nil ?_⟩
    · -- the search is over
      have hge : W.length ≤ k := by have := of_decide_eq_true hge; omega
      refine w_one <| w_break ?_
      have np : ∀ J ∈ W.map (·.1), ¬ PJ m n J := no_pj (C := fun _ => False) (fun J hJ => hJ.elim) fun J hJ => by
        obtain ⟨e, he, rfl⟩ := List.mem_map.mp hJ
        obtain ⟨i, hi⟩ := List.mem_iff_getElem?.mp he
        exact .inr fun t s' ht hs' => vis i e (by have := (List.getElem?_eq_some_iff.mp hi).1; omega) hi t s' ht hs'
      exact w_one <| w_ret <| e_non ((hP μ3 st.sub).1 (np J0 sr.fst))
    have hlt : k < W.length := by have := of_decide_eq_false hlt; omega
    have hJ : W[k]? = some W[k] := List.getElem?_eq_getElem hlt
    generalize W[k] = Jp at hJ
    obtain ⟨J, p⟩ := Jp
    have mJ := List.mem_of_getElem? hJ
    have oj := sr.ok _ mJ
    have r0 : J.2.2.length = m.regs + n.regs := oj.len
    have hpl : p.length ≤ k := sr.len k _ hJ
    show WS _ [_, _, _, _, _, _, _, _, _, _, _, _, _, _] _ _ _
    refine w_cons <| w_set (i := 7) sc_lpath.nd <| e_ixK <| e_ixL <| e_var (i := 4) rfl <| e_var (i := 6) rfl ⟨w, _, _, _, rfl, rfl, .inl st.w, at_map hJ, [encJ J, .tuple (p.map encSp)], encJ J, rfl, rfl, ?_⟩
    show WS _ [_, _, _, _, _, _, _, _, _, _, _, _, _, _] _ _ _
    refine w_cons <| w_set (i := 8) sc_lpath.nd <| e_call cs hr (a_cons <| e_ixK <| e_var (i := 7) rfl ⟨_, .tuple (J.2.2.map encN), rfl, rfl, a_nil ⟨J.2.2, rfl, by omega, fun μ4 m4 => ?_⟩⟩) (by omega)
    have st4 : LSto μ μ4 w s W := ⟨st.sub.trans m4, m4 _ _ st.w, m4 _ _ st.s⟩
    show WS _ [_, _, _, _, _, _, _, _, _, _, _, _, _, _] _ _ _
    -- the tags
    refine w_one <| w_for (g := gN 9) (sl := [9]) PassesOwn.never rfl (g_name sc_lpath.nd) <| i_range M.range <| e_ixK <| e_var (i := 0) rfl ⟨_, .int m.tags, rfl, rfl, m.tags, rfl, by omega, by omega, ?_⟩
    refine ⟨fun tg ρ μ' => ∃ (W' more : List (Joint × Path)) (a9 a10 a11 a12 a13 : Option SV), W' = W ++ more ∧ LSr m n J0 W' ∧ LSto μ μ' w s W' ∧ (∀ t s', t < tg → s' < 2 * many J.2.2 + 1 → LGood m n W' J t s') ∧
        ρ = [some (.dat (encM m)), some (.dat (encCon c)), some (.dat (encM n)), some (.dat (encCon c')), some (.loc w), some (.loc s), some (.int k), some (.dat (encJ J)), some (.tup ((shown J.2.2).map encO)), a9, a10, a11, a12, a13],
      ⟨W, [], _, _, _, _, _, by simp, sr, st4, fun t s' h => by omega, rfl⟩, fun _ _ _ _ _ => trivial, ?_, ?_⟩
    · rintro tg x ρ2 μ5 htg rfl ⟨W1, more1, a9, a10, a11, a12, a13, eW1, sr1, st1, vis1, rfl⟩
      have htg : tg < m.tags := by omega
      rw [Int.zero_add]
      show WS _ [_, _, _, _, _, _, _, _, _, _, _, _, _, _] _ _ _
      refine w_one <| w_for (g := gN 10) (sl := [10]) PassesOwn.never rfl (g_name sc_lpath.nd) <| i_range M.range <| e_add <| e_mul <| e_int <| e_call cm hr (a_cons <| e_ixK <| e_var (i := 7) rfl ⟨_, .tuple (J.2.2.map encN), rfl, rfl, a_nil ⟨J.2.2, rfl, by omega, fun μ6 m6 => ⟨2, (many J.2.2 : Int), rfl, rfl, .inl (by omega), e_int ⟨_, _, rfl, rfl, 2 * (many J.2.2 : Int) + 1, rfl, by omega, ?_, ?_⟩⟩⟩⟩) (by omega)
      · have := known_len J.2.2
        have : many J.2.2 ≤ J.2.2.length := this
        omega
      refine ⟨fun sp ρ μ' => ∃ (W' more : List (Joint × Path)) (a10 a11 a12 a13 : Option SV), W' = W ++ more ∧ LSr m n J0 W' ∧ LSto μ μ' w s W' ∧ (∀ t s', t < tg → s' < 2 * many J.2.2 + 1 → LGood m n W' J t s') ∧ (∀ s', s' < sp → LGood m n W' J tg s') ∧
          ρ = [some (.dat (encM m)), some (.dat (encCon c)), some (.dat (encM n)), some (.dat (encCon c')), some (.loc w), some (.loc s), some (.int k), some (.dat (encJ J)), some (.tup ((shown J.2.2).map encO)), some (.int tg), a10, a11, a12, a13],
        ⟨W1, more1, _, _, _, _, eW1, sr1, ⟨st1.sub.trans m6, m6 _ _ st1.w, m6 _ _ st1.s⟩, vis1, fun s' h => by omega, rfl⟩, fun _ _ _ _ _ => trivial, ?_, ?_⟩
      · rintro sp x ρ3 μ7 hsp rfl ⟨W2, more2, a10, a11, a12, a13, eW2, sr2, st2, vis2, vs2, rfl⟩
        have hsp : sp < 2 * many J.2.2 + 1 := by omega
        have hJ2 : W2[k]? = some (J, p) := by rw [eW2, List.getElem?_append_left hlt]; exact hJ
        have hB2 := sr2.few
        obtain ⟨lj1, lj2⟩ := jc_len oj
        rw [Int.zero_add]
        show WS _ [_, _, _, _, _, _, _, _, _, _, _, _, _, _] _ _ _
        refine w_cons <| w_set (i := 11) sc_lpath.nd <| e_call cd hr (a_cons <| e_var (i := 0) rfl <| a_cons <| e_tup <| a_cons <| e_ixK <| e_var (i := 7) rfl ⟨_, .int J.1, rfl, rfl, a_cons <| e_slT <| e_var (i := 8) rfl <| (show WE _ _ _ _ _ from e_ixK <| e_var (i := 0) rfl ⟨_, .int m.regs, rfl, rfl, _, rfl, _, rfl, a_nil ⟨[_, _], rfl, sz, a_cons <| e_tup <| a_cons <| e_var (i := 9) rfl <| a_cons <| e_var (i := 10) rfl <| a_nil ⟨[_, _], rfl, sz, a_nil ⟨m, jc1 m J, tg, (sp : Int), by rw [cut_take, ← List.map_take]; rfl, om, oj.s1, lj1, htg, fun μ8 m8 => ?_⟩⟩⟩⟩)⟩) (by omega)
        show WS _ [_, _, _, _, _, _, _, _, _, _, _, _, _, _] _ _ _
        refine w_cons <| w_set (i := 12) sc_lpath.nd <| e_call cd hr (a_cons <| e_var (i := 2) rfl <| a_cons <| e_tup <| a_cons <| e_ixK <| e_var (i := 7) rfl ⟨_, .int J.2.1, rfl, rfl, a_cons <| e_slT <| e_var (i := 8) rfl <| (show WE _ _ _ _ _ from e_ixK <| e_var (i := 0) rfl ⟨_, .int m.regs, rfl, rfl, _, rfl, _, rfl, a_nil ⟨[_, _], rfl, sz, a_cons <| e_tup <| a_cons <| e_var (i := 9) rfl <| a_cons <| e_var (i := 10) rfl <| a_nil ⟨[_, _], rfl, sz, a_nil ⟨n, jc2 m J, tg, (sp : Int), by rw [cut_drop, ← List.map_drop]; rfl, on, oj.s2, lj2, tl tg htg, fun μ9 m9 => ?_⟩⟩⟩⟩)⟩) (by omega)
        have st3 : LSto μ μ9 w s W2 := ⟨(st2.sub.trans m8).trans m9, m9 _ _ (m8 _ _ st2.w), m9 _ _ (m8 _ _ st2.s)⟩
        have rr1 := read_st om oj.s1 lj1 htg (sp : Int)
        have rr2 := read_st on oj.s2 lj2 (tl tg htg) (sp : Int)
        show WS _ [_, _, _, _, _, _, _, _, _, _, _, _, _, _] _ _ _
        refine w_cons <| w_if <| t_neD hr.units <| e_ixK <| e_var (i := 11) rfl ⟨_, encA (jr1 m J tg sp).2, rfl, rfl, e_ixK <| e_var (i := 12) rfl ⟨_, encA (jr2 m n J tg sp).2, rfl, rfl, _, _, rfl, rfl, niceA.ok (by omega) trivial, niceA.ok (by omega) trivial, ?_⟩⟩
        rw [niceA.eqb]
        refine ⟨fun hne => ?_, fun heq => w_nil ?_⟩
        · have hne : (jr1 m J tg sp).2 ≠ (jr2 m n J tg sp).2 := by
            intro z
            rw [decide_eq_true z] at hne
            cases hne
          refine w_one <| w_ret <| e_catT <| e_ixK <| e_ixL <| e_var (i := 4) rfl <| e_var (i := 6) rfl ⟨w, _, _, _, rfl, rfl, .inl st3.w, at_map hJ2, [encJ J, .tuple (p.map encSp)], .tuple (p.map encSp), rfl, rfl, e_tup <| a_cons <| e_tup <| a_cons <| e_var (i := 9) rfl <| a_cons <| e_var (i := 10) rfl <| a_nil ⟨[_, _], rfl, sz, a_nil ⟨[_], rfl, sz, p.map encSp, _, rfl, rfl, ?_, ?_⟩⟩⟩
          · rw [List.length_map]; exact z1 (by omega) (by simp)
          · have := (hP μ9 st3.sub).2 (p ++ [(tg, sp)]) ((sr2.reach _ (List.mem_of_getElem? hJ2)).leads htg hsp hne) (by rw [List.length_append, List.length_singleton]; omega)
            rw [List.map_append] at this
            exact this
        have he : (jr1 m J tg sp).2 = (jr2 m n J tg sp).2 := by
          apply Classical.byContradiction
          intro z
          rw [decide_eq_false z] at heq
          cases heq
        show WS _ [_, _, _, _, _, _, _, _, _, _, _, _, _, _] _ _ _
        refine w_cons <| w_set (i := 13) sc_lpath.nd <| e_tup <| a_cons <| e_ixK <| e_ixK <| e_var (i := 11) rfl ⟨_, encCon (jr1 m J tg sp).1, rfl, rfl, _, .int (jr1 m J tg sp).1.1, rfl, rfl, a_cons <| e_ixK <| e_ixK <| e_var (i := 12) rfl ⟨_, encCon (jr2 m n J tg sp).1, rfl, rfl, _, .int (jr2 m n J tg sp).1.1, rfl, rfl, a_cons <| e_call cr hr (a_cons <| e_catT <| e_ixK <| e_ixK <| e_var (i := 11) rfl ⟨_, encCon (jr1 m J tg sp).1, rfl, rfl, _, encH (jr1 m J tg sp).1.2, rfl, rfl, e_ixK <| e_ixK <| e_var (i := 12) rfl ⟨_, encCon (jr2 m n J tg sp).1, rfl, rfl, _, encH (jr2 m n J tg sp).1.2, rfl, rfl, (jr1 m J tg sp).1.2.map encO, (jr2 m n J tg sp).1.2.map encO, rfl, rfl, ?_, ?_⟩⟩) (by omega)⟩⟩
        · have q1 : (jr1 m J tg sp).1.2.length = m.regs := rr1.2.1
          have q2 : (jr2 m n J tg sp).1.2.length = n.regs := rr2.2.1
          rw [List.length_map, List.length_map, sizeLine_eq]; omega
        rw [← List.map_append]
        refine a_nil ⟨(jr1 m J tg sp).1.2 ++ (jr2 m n J tg sp).1.2, rfl, ?_, fun μ10 m10 => a_nil ⟨[_, _, _], rfl, sz, ?_⟩⟩
        · have q1 : (jr1 m J tg sp).1.2.length = m.regs := rr1.2.1
          have q2 : (jr2 m n J tg sp).1.2.length = n.regs := rr2.2.1
          rw [List.length_append]; omega
        have st5 : LSto μ μ10 w s W2 := ⟨st3.sub.trans m10, m10 _ _ st3.w, m10 _ _ st3.s⟩
        show WS _ [_, _, _, _, _, _, _, _, _, _, _, _, _, some (.dat (encJ (after m n J tg sp)))] _ _ _
        refine w_one <| w_if <| t_notInN hr.units <| e_var (i := 13) rfl <| e_var (i := 5) rfl ⟨kJ (after m n J tg sp), s, jD (W2.map (·.1)), by rw [data_kJ], depth_kJ _, rfl, st5.s, ?_⟩
        rw [getN_jD]
        refine ⟨fun hno => ?_, fun hin => w_nil ?_⟩
        · have hno : after m n J tg sp ∉ W2.map (·.1) := by
            have h : (!decide (after m n J tg sp ∈ W2.map (·.1))) = true := hno
            simpa using h
          have sr3 := sr2.add om on hJ2 htg (tl tg htg) hsp hno
          refine w_cons <| w_setN hr.units <| e_bl <| e_var (i := 5) rfl <| e_var (i := 13) rfl ⟨s, kJ (after m n J tg sp), jD (W2.map (·.1)), rfl, by rw [data_kJ], depth_kJ _, st5.s, by unfold jD; rw [List.length_map, List.length_map]; omega, ?_⟩
          obtain ⟨W3, eW3, hW3⟩ := putN_jD (J := after m n J tg sp) (Js := W2.map (·.1))
          have eW4 : W3 = W2.map (·.1) ++ [after m n J tg sp] := by
            rcases hW3 with h | h
            · exact h.2
            · exact absurd h.1 hno
          rw [show SV.dat (PyData.bool true) = tt1 from rfl, eW3, eW4]
          have hw7 : updM μ10 s (.dct (jD (W2.map (·.1) ++ [after m n J tg sp]))) w = some (.lst (W2.map fun e => .dat (encFd e))) := by rw [updM_ne hws]; exact st5.w
          refine w_one <| w_expr <| e_append <| e_var (i := 4) rfl ⟨w, rfl, ⟨_, hw7⟩, e_tup <| a_cons <| e_var (i := 13) rfl <| a_cons <| e_catT <| e_ixK <| e_ixL <| e_var (i := 4) rfl <| e_var (i := 6) rfl ⟨w, _, _, _, rfl, rfl, .inl hw7, at_map hJ2, [encJ J, .tuple (p.map encSp)], .tuple (p.map encSp), rfl, rfl, e_tup <| a_cons <| e_tup <| a_cons <| e_var (i := 9) rfl <| a_cons <| e_var (i := 10) rfl <| a_nil ⟨[_, _], rfl, sz, a_nil ⟨[_], rfl, sz, p.map encSp, _, rfl, rfl, ?_, a_nil ⟨[_, _], rfl, sz, _, hw7, by rw [List.length_map]; omega, ?_⟩⟩⟩⟩⟩
          · rw [List.length_map]; exact z1 (by omega) (by simp)
          have mono : ∀ {L t s'}, LGood m n W2 L t s' → LGood m n (W2 ++ [(after m n J tg sp, p ++ [(tg, sp)])]) L t s' := fun g => ⟨g.1, by rw [List.map_append]; exact List.mem_append_left _ g.2⟩
          refine ⟨W2 ++ [(after m n J tg sp, p ++ [(tg, sp)])], more2 ++ [(after m n J tg sp, p ++ [(tg, sp)])], _, _, _, _, by rw [eW2, List.append_assoc], sr3, ⟨(st5.sub.fresh sn).fresh wn, ?_, by rw [updM_ne (Ne.symm hws), updM_same, List.map_append]; rfl⟩, fun t s' h h' => mono (vis2 t s' h h'), fun s' h => ?_, rfl⟩
          · rw [updM_same, List.map_append]
            have e9 : encFd (after m n J tg sp, p ++ [(tg, sp)]) = .tuple [encJ (after m n J tg sp), .tuple (p.map encSp ++ [.tuple [.int tg, .int sp]])] := by
              unfold encFd; rw [List.map_append]; rfl
            show _ = some (Cell.lst (_ ++ [SV.dat (encFd (after m n J tg sp, p ++ [(tg, sp)]))]))
            rw [e9]
          · by_cases e : s' = sp
            · subst e; exact ⟨he, by rw [List.map_append]; exact List.mem_append_right _ (by simp)⟩
            · exact mono (vs2 s' (by omega))
        · have hin : after m n J tg sp ∈ W2.map (·.1) := by
            have h : (!decide (after m n J tg sp ∈ W2.map (·.1))) = false := hin
            simpa using h
          refine ⟨W2, more2, _, _, _, _, eW2, sr2, st5, vis2, fun s' h => ?_, rfl⟩
          by_cases e : s' = sp
          · subst e; exact ⟨he, hin⟩
          · exact vs2 s' (by omega)
      · rintro ρ3 μ7 ⟨W2, more2, a10, a11, a12, a13, eW2, sr2, st2, vis2, vs2, rfl⟩
        refine ⟨W2, more2, _, _, _, _, _, eW2, sr2, st2, fun t s' ht hs' => ?_, rfl⟩
        by_cases e : t = tg
        · subst e; exact vs2 s' (by omega)
        · exact vis2 t s' (by omega) hs'
    · rintro ρ2 μ5 ⟨W1, more1, a9, a10, a11, a12, a13, eW1, sr1, st1, vis1, rfl⟩
      refine ⟨W1, _, _, _, _, _, _, _, _, by rw [eW1, List.length_append]; omega, sr1, st1, fun i e hi he t s' ht hs' => ?_, rfl⟩
      have he0 : W[i]? = some e := by
        rw [eW1, List.getElem?_append_left (by omega)] at he
        exact he
      by_cases ei : i = k
      · subst ei; rw [hJ] at he0; cases he0
        exact vis1 t s' (by omega) hs'
      · have g := vis i e (by omega) he0 t s' ht hs'
        exact ⟨g.1, by rw [eW1, List.map_append]; exact List.mem_append_left _ g.2⟩
  · rintro ρ1 μ3 ⟨W, a6, a7, a8, a9, a10, a11, a12, a13, hkW, sr, st, vis, rfl⟩
    have hB := sr.few
    exact absurd hkW (by omega)
end
end AV
-- text W24
set_option Elab.async false
set_option linter.all false
set_option maxRecDepth 100000
set_option maxHeartbeats 4000000
namespace AV
open PySem L2 TH
def natL (o : List Nat) : List SV := o.map fun i : Nat => SV.int (i : Int)
def heldL (h : Held Nat) : List SV := h.map fun o => SV.dat (encN o)
theorem natL_some (o : List Nat) : natL o = ((o.map fun i : Nat => some (i : Int)).map fun o => SV.dat (encO o)) := by unfold natL; rw [List.map_map]; rfl
theorem fst_nat {o : List Nat} {i : Nat} (h : i ∈ o) : Fst (o.map fun i : Nat => some (i : Int)) (some (i : Int)) (o.idxOf i) := by
  obtain ⟨f1, f2⟩ := fst_idx h
  refine ⟨by rw [List.getElem?_map, f1]; rfl, fun m hm e => ?_⟩
  rw [List.getElem?_map] at e
  cases h3 : o[m]? with
  | none => rw [h3] at e; cases e
  | some y =>
    rw [h3] at e
    have : (y : Int) = (i : Int) := by simpa using e
    have : y = i := by omega
    subst this
    exact f2 m hm h3
section
variable {P : Program} {w : World} {K : PySem.W.Frag} {mg : Str → Option Value} {base : Heap} {f : Addr} {fd : FuncData}
/-! ### _law_placed_in -/
def G_placed_in : Gs := fun rs μ P => ∃ (ia oa : Addr) (h : Held Nat) (ord : List Nat), rs = [.loc ia, .loc oa] ∧ isL μ ia (heldL h) ∧ isL μ oa (natL ord) ∧ (∀ i, some i ∈ h → i ∈ ord) ∧ h.length ≤ 1000 ∧ Pu μ P (.tup ((placedIn h ord).map encO))
theorem sc_placed_in : FnScope ["_law_items_here", "_law_order", "_law_item"] ["_law_items_here", "_law_order"] (defScope s__law_placed_in) := ⟨rfl, rfl, rfl, by decide +kernel, rfl, by decide +kernel, by decide +kernel⟩
theorem ok_placed_in (F : FD K "_law_placed_in" "_law_placed_in" s__law_placed_in f fd) (M : Md mg) : FnOk P w K mg base C8.CX0 1 f fd ["_law_items_here", "_law_order"] (spOf P w K G_placed_in) := by
  refine ok_of F sc_placed_in (fun rs μ Po ⟨_, _, _, _, e, _⟩ => by rw [e]; rfl) fun cdv A outer s0 H E rs μ Po hr ⟨ia, oa, h, ord, e, hi, ho, hm, hl, hP⟩ => ?_
  subst e
  refine w_one <| w_ret <| e_tuple M.tuple <| e_mapS (g := gN 2) (sl := [2]) [("_law_item", 2)] (fun i => SV.dat ((h[i]?.map fun o => encO (o.map fun i => ((ord.idxOf i : Nat) : Int))).getD .none)) rfl sc_placed_in.nd (blkOk_by rfl) (by decide) (fun _ _ _ _ _ => (g_name sc_placed_in.nd)) <| i_list <| e_var (i := 0) rfl ⟨ia, _, rfl, hi, ?_⟩
  refine ⟨by unfold heldL; rw [List.length_map]; omega, fun μ' hs => hi.sub hs, ?_, ?_⟩
  · rintro i x μ' hi ⟨r, hr', rfl⟩ hs
    unfold heldL at hr'
    rw [List.getElem?_map] at hr'
    cases hk : h[i]? with
    | none => rw [hk] at hr'; cases hr'
    | some o =>
      rw [hk] at hr'
      cases hr'
      intro s1 H1 C1 cl1 fp1
      cases o with
      | none => exact e_if <| t_notN <| e_var (i := 2) rfl ⟨fun h => ff h, fun _ => e_non ⟨MSub.refl _, rfl⟩⟩
      | some z =>
        have kl := ho.sub hs
        rw [natL_some] at kl
        exact e_if <| t_notN <| e_var (i := 2) rfl ⟨fun _ => e_lindex <| e_var (i := 1) rfl ⟨oa, rfl, ⟨_, kl⟩, e_var (i := 2) rfl ⟨_, some (z : Int), ord.idxOf z, kl, rfl, fst_nat (hm z (List.mem_of_getElem? hk)), MSub.refl _, rfl⟩⟩, fun h => ft h⟩
  · intro μ1 m1 q hq
    refine ⟨q, (placedIn h ord).map encO, rfl, .inl ?_, hP _ (m1.new hq)⟩
    rw [updM_same]
    unfold heldL placedIn
    rw [List.length_map, List.map_map, List.map_map]
    congr 2
    exact mapF h _ _ fun i x hx => by rw [hx]; rfl
/-! ### _law_items -/
def G_items : Gs := fun rs μ P => ∃ (oa : Addr) (h : Held Int) (ord : List Nat), rs = [.tup (h.map encO), .loc oa] ∧ isL μ oa (natL ord) ∧ (∀ p, some p ∈ h → 0 ≤ p ∧ p < ord.length) ∧ h.length ≤ 1000 ∧ ∀ μ' q, MSub μ μ' → μ q = none → μ' q = some (.lst (heldL (itemsOf h ord))) → P μ' (.loc q)
theorem sc_items : FnScope ["_law_held", "_law_order", "_law_place_here"] ["_law_held", "_law_order"] (defScope s__law_items) := ⟨rfl, rfl, rfl, by decide +kernel, rfl, by decide +kernel, by decide +kernel⟩
theorem ok_items (F : FD K "_law_items" "_law_items" s__law_items f fd) : FnOk P w K mg base C8.CX0 1 f fd ["_law_held", "_law_order"] (spOf P w K G_items) := by
  refine ok_of F sc_items (fun rs μ Po ⟨_, _, _, e, _⟩ => by rw [e]; rfl) fun cdv A outer s0 H E rs μ Po hr ⟨oa, h, ord, e, ho, hm, hl, hP⟩ => ?_
  subst e
  refine w_one <| w_ret <| e_mapS (g := gN 2) (sl := [2]) [("_law_place_here", 2)] (fun i => SV.dat ((h[i]?.map fun o => encN (o.map fun p => ord[p.toNat]?.getD 0)).getD .none)) rfl sc_items.nd (blkOk_by rfl) (by decide) (fun _ _ _ _ _ => (g_name sc_items.nd)) <| i_tup <| e_var (i := 0) rfl ⟨_, rfl, ?_⟩
  refine ⟨by rw [List.length_map]; omega, fun _ _ => trivial, ?_, ?_⟩
  · rintro i x μ' hi ⟨d, hd, rfl⟩ hs
    rw [List.getElem?_map] at hd
    cases hk : h[i]? with
    | none => rw [hk] at hd; cases hd
    | some o =>
      rw [hk] at hd
      cases hd
      intro s1 H1 C1 cl1 fp1
      cases o with
      | none => exact e_if <| t_notN <| e_var (i := 2) rfl ⟨fun h => ff h, fun _ => e_non ⟨MSub.refl _, rfl⟩⟩
      | some z =>
        obtain ⟨z0, z1⟩ := hm z (List.mem_of_getElem? hk)
        have zl : z.toNat < ord.length := by omega
        have hz : ord[z.toNat]? = some ord[z.toNat] := List.getElem?_eq_getElem zl
        have hat : atI (natL ord) z = some (SV.int (ord[z.toNat] : Int)) := by
          have := at_map (f := fun i : Nat => SV.int (i : Int)) hz
          rw [show ((z.toNat : Nat) : Int) = z by omega] at this
          exact this
        refine e_if <| t_notN <| e_var (i := 2) rfl ⟨fun _ => e_ixL <| e_var (i := 1) rfl <| e_var (i := 2) rfl ⟨oa, _, z, _, rfl, rfl, ho.sub hs, hat, MSub.refl _, ?_⟩, fun h => ft h⟩
        show SV.int (ord[z.toNat] : Int) = SV.dat (encN (some (ord[z.toNat]?.getD 0)))
        rw [hz]; rfl
  · intro μ1 m1 q hq
    refine hP _ q (m1.new hq) (fresh_back m1 hq) ?_
    rw [updM_same]
    unfold heldL itemsOf
    rw [List.length_map, List.map_map]
    congr 2
    exact mapF h _ _ fun i x hx => by rw [hx]; rfl
/-! ### _law_numbers -/
def numD (o : List Nat) (ord : List Nat) : List (Int × SV) := o.map fun i : Nat => ((i : Int), SV.int (numO ord i))
def G_numbers : Gs := fun rs μ P => ∃ (oa ka : Addr) (ord : List Nat), rs = [.loc oa, .loc ka] ∧ isL μ oa (natL ord) ∧ isL μ ka [] ∧ ord.Nodup ∧ ord.length ≤ 1000000 ∧ ∀ μ' q, MSub μ μ' → μ' q = some (.dki (numD ord ord)) → P μ' (.loc q)
theorem sc_numbers : FnScope ["_law_order", "_law_known", "_law_start", "_law_numbers_here", "_law_value", "_law_item"] ["_law_order", "_law_known"] (defScope s__law_numbers) := ⟨rfl, rfl, rfl, by decide +kernel, rfl, by decide +kernel, by decide +kernel⟩
theorem ok_numbers (F : FD K "_law_numbers" "_law_numbers" s__law_numbers f fd) (M : Md mg) : FnOk P w K mg base C8.CX0 1 f fd ["_law_order", "_law_known"] (spOf P w K G_numbers) := by
  refine ok_of F sc_numbers (fun rs μ Po ⟨_, _, _, e, _⟩ => by rw [e]; rfl) fun cdv A outer s0 H E rs μ Po hr ⟨oa, ka, ord, e, ho, hk0, nd, hl, hP⟩ => ?_
  subst e
  refine w_cons <| w_set (i := 2) sc_numbers.nd <| e_int ?_
  show WS _ [_, _, _, _, _, _] _ _ _
  refine w_cons <| w_if <| t_gt <| e_len M.len <| e_var (i := 1) rfl <| .inr ⟨ka, [], rfl, hk0, e_int ⟨_, _, rfl, rfl, fun h => absurd (of_decide_eq_true h) (by simp), fun _ => w_nil ?_⟩⟩
  refine w_cons <| w_set (i := 3) sc_numbers.nd <| e_newI fun q hq => ?_
  show WS _ [_, _, _, _, _, _] _ _ _
  refine w_cons <| w_set (i := 4) sc_numbers.nd <| e_sub <| e_var (i := 2) rfl <| e_int ⟨_, _, rfl, rfl, ?_⟩
  show WS _ [_, _, _, _, _, _] _ _ _
  have ho1 := ho.sub (MSub.upd (c := .dki []) hq)
  refine w_cons <| w_for (g := gN 5) (sl := [5]) PassesOwn.never rfl (g_name sc_numbers.nd) <| i_list <| e_var (i := 0) rfl ⟨oa, natL ord, rfl, ho1, ?_⟩
  refine ⟨fun i ρ μ' => ∃ a, MSub μ μ' ∧ μ' q = some (.dki (numD (ord.take i) ord)) ∧ ρ = [some (.loc oa), some (.loc ka), some (.int 0), some (.loc q), some (.int ((i : Int) - 1)), a],
    ⟨_, MSub.upd hq, updM_same, rfl⟩, fun i ρ' μ' _ ⟨_, ms, _⟩ => ho.sub ms, ?_, ?_⟩
  · rintro i x ρ1 μ1 hi ⟨r, hr', rfl⟩ ⟨a, m1, hq1, rfl⟩
    unfold natL at hr'
    rw [List.getElem?_map] at hr'
    cases hk : ord[i]? with
    | none => rw [hk] at hr'; cases hr'
    | some z =>
      rw [hk] at hr'
      cases hr'
      have il : i < ord.length := (List.getElem?_eq_some_iff.mp hk).1
      have hz : ord[i] = z := (List.getElem?_eq_some_iff.mp hk).2
      have nz : numO ord z = (i : Int) := by unfold numO; rw [← hz, List.Nodup.idxOf_getElem nd]
      show WS _ [_, _, _, _, _, _] _ _ _
      refine w_cons <| w_set (i := 4) sc_numbers.nd <| e_add <| e_var (i := 4) rfl <| e_int ⟨_, _, rfl, rfl, ?_⟩
      rw [show (i : Int) - 1 + 1 = (i : Int) by omega]
      show WS _ [_, _, _, _, _, _] _ _ _
      refine w_cons <| w_if <| t_lt <| e_var (i := 5) rfl <| e_len M.len <| e_var (i := 1) rfl <| .inr ⟨ka, [], rfl, hk0.sub m1, (z : Int), 0, rfl, rfl, fun h => absurd (of_decide_eq_true h) (by omega), fun _ => w_nil ?_⟩
      refine w_one <| w_setI hr.units <| e_var (i := 4) rfl <| e_var (i := 3) rfl <| e_var (i := 5) rfl ⟨q, (z : Int), numD (ord.take i) ord, rfl, rfl, hq1, ?_, fun p hp e => ?_, ?_⟩
      · unfold numD; rw [List.length_map, List.length_take]; omega
      · unfold numD at hp
        obtain ⟨y, hy, rfl⟩ := List.mem_map.mp hp
        have e : (y : Int) = (z : Int) := e
        have e : y = z := by omega
        subst e
        obtain ⟨j, hj⟩ := List.mem_iff_getElem?.mp hy
        rw [List.getElem?_take] at hj
        split at hj
        · have j1 := (List.getElem?_eq_some_iff.mp hj).1
          have := (List.getElem_inj nd (i := j) (j := i) (h₀ := j1) (h₁ := il)).mp (by rw [(List.getElem?_eq_some_iff.mp hj).2, hz])
          omega
        · cases hj
      · refine ⟨some (SV.int (z : Int)), m1.fresh hq, ?_, ?_⟩
        · rw [updM_same]
          unfold numD
          rw [List.take_add_one, hk, List.map_append]
          show _ = some (Cell.dki (_ ++ [((z : Int), SV.int (numO ord z))]))
          rw [nz]
        · rw [show (((i + 1 : Nat) : Int) - 1) = (i : Int) by omega]
  · rintro ρ1 μ1 ⟨a, m1, hq1, rfl⟩
    refine w_one <| w_ret <| e_var (i := 3) rfl (hP μ1 q m1 ?_)
    rw [hq1]
    unfold natL
    rw [List.length_map, List.take_length]
end
end AV
-- text Th13
set_option linter.all false
set_option maxHeartbeats 1000000
/-! The steps to the log: what each step may lean on. Plain Lean. -/
namespace TH
variable {M N : Machine}
theorem vals_len (f : Nat → Int) (h : Held Nat) : (vals f h).length = h.length := by unfold vals; rw [List.length_map]
theorem one_step {f : Nat → Int} {J : Joint} {t s : Nat} {S : PSt} (hs : s < 2 * many J.2.2 + 1) (ok : POk M N S) (sf : Sorted ((S.ord' s).map f)) (e : joint (S.one.1, vals f S.one.2) (S.oth.1, vals f S.oth.2) = J) : s < 2 * S.now.length + 1 ∧
    after M N J t s = joint (readM M (S.one.1, vals f S.one.2) t (f (S.item s))).1 (readM N (S.oth.1, vals f S.oth.2) t (f (S.item s))).1 := by
  subst e
  have so : Sorted (S.ord.map f) := List.Pairwise.sublist (List.Sublist.map f (ord'_nodup ok.nd ok.lt s).2.2) sf
  have hk := known_now ok.m1 ok.m2 so
  have hs' : s < 2 * S.now.length + 1 := by
    have : many (ranks (vals f S.one.2 ++ vals f S.oth.2)) = S.now.length := by rw [many_ranks, hk, List.length_map]
    have hs : s < 2 * many (ranks (vals f S.one.2 ++ vals f S.oth.2)) + 1 := hs
    omega
  obtain ⟨_, r1, r2⟩ := joint_rel (M := M) (c := (S.one.1, vals f S.one.2)) (d := (S.oth.1, vals f S.oth.2)) (by rw [vals_len]; exact ok.l1)
  have m2 := item_mono ok.nd ok.lt hs' sf
  rw [← hk] at m2
  have sub : ∀ q ∈ P0 (known (vals f S.one.2 ++ vals f S.oth.2)), q ∈ ((s : Int), f (S.item s)) :: P0 (known (vals f S.one.2 ++ vals f S.oth.2)) := fun q hq => by simp [hq]
  have q1 := read_rel m2 M (v := (s : Int)) (v' := f (S.item s)) (by simp) (r1.mono sub) t
  have q2 := read_rel m2 N (v := (s : Int)) (v' := f (S.item s)) (by simp) (r2.mono sub) t
  exact ⟨hs', joint_congr m2 q1.1 q2.1⟩
theorem leads_ok (fM : M.full) (fN : N.full) (nM : ∀ st t k, k ∈ M.at_ st t → k.next < M.steps.length) (nN : ∀ st t k, k ∈ N.at_ st t → k.next < N.steps.length) {f : Nat → Int} {J : Joint} {p : List (Nat × Nat)} (h : Leads M N J p) : ∀ {S : PSt}, POk M N S → Sorted ((pRun M N S p).ord.map f) → joint (S.one.1, vals f S.one.2) (S.oth.1, vals f S.oth.2) = J →
    ∀ i t s, p[i]? = some (t, s) → t < M.tags ∧ s < 2 * (pRun M N S (p.take i)).now.length + 1 ∧ POk M N (pRun M N S (p.take i)) := by
  induction h with
  | @last J t s ht hs hne =>
    intro S ok sf e i t' s' hi
    have sf : Sorted ((S.ord' s).map f) := sf
    obtain ⟨h1, _⟩ := one_step (t := t) hs ok sf e
    cases i with
    | zero => cases hi; exact ⟨ht, h1, ok⟩
    | succ i => simp at hi
  | @step J t s p ht hs _ ih =>
    intro S ok sf e i t' s' hi
    have sf1 : Sorted ((S.ord' s).map f) := List.Pairwise.sublist (List.Sublist.map f (pRun_ord p (S := pStep M N S (t, s)) (ord'_nodup ok.nd ok.lt s).1 (ord'_nodup ok.nd ok.lt s).2.1).1) sf
    obtain ⟨hs', h3⟩ := one_step (t := t) hs ok sf1 e
    cases i with
    | zero => cases hi; exact ⟨ht, hs', ok⟩
    | succ i =>
      have ok' := pStep_ok fM fN nM nN ok (t := t) hs'
      have r1 := rd_rel sf1 M (c := S.one) (fun i hi => (ord'_nodup ok.nd ok.lt s).2.2.subset (ok.m1 i hi)) t (item_mem hs')
      have r2 := rd_rel sf1 N (c := S.oth) (fun i hi => (ord'_nodup ok.nd ok.lt s).2.2.subset (ok.m2 i hi)) t (item_mem hs')
      have e1 : ((pStep M N S (t, s)).one.1, vals f (pStep M N S (t, s)).one.2) = (readM M (S.one.1, vals f S.one.2) t (f (S.item s))).1 := Prod.ext r1.1 r1.2.1
      have e2 : ((pStep M N S (t, s)).oth.1, vals f (pStep M N S (t, s)).oth.2) = (readM N (S.oth.1, vals f S.oth.2) t (f (S.item s))).1 := Prod.ext r2.1 r2.2.1
      exact ih ok' sf (by rw [e1, e2]; exact h3.symm) i t' s' (by simpa using hi)
theorem vals_rep (f : Nat → Int) (n : Nat) : vals f (List.replicate n none) = List.replicate n none := by unfold vals; rw [List.map_replicate]; rfl
/-- each step of the way from the beginning -/
theorem leads_at (fM : M.full) (fN : N.full) (nM : ∀ st t k, k ∈ M.at_ st t → k.next < M.steps.length) (nN : ∀ st t k, k ∈ N.at_ st t → k.next < N.steps.length) (h1 : 0 < M.steps.length) (h2 : 0 < N.steps.length) {p : List (Nat × Nat)} (h : Leads M N (joint (begin (α := Int) M) (begin N)) p) {i t s : Nat} (hi : p[i]? = some (t, s)) :
    t < M.tags ∧ s < 2 * (pRun M N (pBegin M N) (p.take i)).now.length + 1 ∧ POk M N (pRun M N (pBegin M N) (p.take i)) := by
  have ok := pBegin_ok (M := M) (N := N) h1 h2
  have sf := numO_sorted (pRun_ord (M := M) (N := N) p ok.nd ok.lt).2.1
  exact leads_ok fM fN nM nN h (S := pBegin M N) ok sf (by
    show joint (0, vals _ (List.replicate _ none)) (0, vals _ (List.replicate _ none)) = _
    rw [vals_rep, vals_rep]; rfl) i t s hi
theorem ord'_len (S : PSt) (s : Nat) : (S.ord' s).length ≤ S.ord.length + 1 := by
  unfold PSt.ord'
  split
  · omega
  · rw [List.length_append, List.length_append, List.length_take, List.length_drop, List.length_singleton]; omega
/-- places behind a reading over places -/
theorem rh_places {f : Nat → Int} {o : List Nat} : ∀ {h h' : Held Int}, RH (PQ f o) h h' → ∀ p, some p ∈ h → 0 ≤ p ∧ p < o.length
  | _, _, .nil, p, hp => by cases hp
  | _, _, .cons (a := a) (b := b) r t, p, hp => by
    rcases List.mem_cons.mp hp with e | e
    · subst e
      cases b with
      | none => exact absurd r id
      | some b =>
        obtain ⟨i, hi, rfl, _⟩ := mem_PQ.mp r
        have := List.idxOf_lt_length_of_mem hi
        exact ⟨by omega, by omega⟩
    · exact rh_places t p e
theorem rd_places {o : List Nat} (nd : o.Nodup) (M : Machine) {c : Con Nat} (m : ∀ i, some i ∈ c.2 → i ∈ o) (t : Nat) {i : Nat} (hi : i ∈ o) : ∀ p, some p ∈ (readM M (c.1, placedIn c.2 o) t ((o.idxOf i : Nat) : Int)).1.2 → 0 ≤ p ∧ p < o.length :=
  rh_places (read_rel (mono_PQ (numO_sorted nd)) M (c := (c.1, placedIn c.2 o)) (c' := (c.1, vals (numO o) c.2)) (mem_PQ.mpr ⟨i, hi, rfl, rfl⟩) ⟨rfl, placed_rel m⟩ t).1.held
end TH
-- text W25
set_option Elab.async false
set_option linter.all false
set_option maxRecDepth 100000
set_option maxHeartbeats 4000000
namespace AV
open PySem L2 TH
theorem heldL_some (h : Held Nat) : heldL h = ((h.map (Option.map fun i : Nat => (i : Int))).map fun o => SV.dat (encO o)) := by unfold heldL; rw [List.map_map]; exact List.map_congr_left fun o _ => by cases o <;> rfl
theorem in_held (h : Held Nat) (z : Nat) : decide (some (z : Int) ∈ h.map (Option.map fun i : Nat => (i : Int))) = decide (some z ∈ h) := by
  apply decide_eq_decide.mpr
  rw [List.mem_map]
  constructor
  · rintro ⟨o, ho, e⟩
    cases o with
    | none => cases e
    | some y =>
      have e : (y : Int) = (z : Int) := by simpa using e
      have e : y = z := by omega
      subst e; exact ho
  · intro h; exact ⟨some z, h, rfl⟩
def nowF (S : PSt) (z : Nat) : Option SV := if decide (some z ∈ S.one.2) || decide (some z ∈ S.oth.2) then some (SV.int (z : Int)) else none
theorem nowF_map (S : PSt) : ∀ o : List Nat, o.filterMap (nowF S) = natL (o.filter fun i => decide (some i ∈ S.one.2) || decide (some i ∈ S.oth.2))
  | [] => rfl
  | z :: o => by
    rw [List.filterMap_cons, List.filter_cons]
    unfold nowF
    cases h : (decide (some z ∈ S.one.2) || decide (some z ∈ S.oth.2)) with
    | true =>
      simp only [if_true]
      rw [show (List.filterMap (fun z => if (decide (some z ∈ S.one.2) || decide (some z ∈ S.oth.2)) = true then some (SV.int (z : Int)) else none) o) = o.filterMap (nowF S) from rfl, nowF_map S o]; rfl
    | false =>
      rw [if_neg (by simp), if_neg (by simp)]
      exact nowF_map S o
theorem noneL (n : Nat) : (List.range n).map (fun _ : Nat => SV.dat .none) = heldL (List.replicate n none) := by
  unfold heldL
  rw [List.map_replicate, List.map_const', List.length_range]; rfl
structure QSto (μ μ' : Mu) (ka oa la sa h1 h2 : Addr) (S : PSt) (L : Path) : Prop where
  sub : MSub μ μ'
  k : μ' ka = some (.lst [])
  o : μ' oa = some (.lst (natL S.ord))
  l : μ' la = some (.lst (L.map fun e => .dat (encSp e)))
  s : μ' sa = some (.lst [.int S.one.1, .loc h1, .int S.oth.1, .loc h2])
  a : μ' h1 = some (.lst (heldL S.one.2))
  b : μ' h2 = some (.lst (heldL S.oth.2))
structure QNe (oa la sa h1 h2 : Addr) : Prop where
  os : sa ≠ oa
  oh1 : h1 ≠ oa
  oh2 : h2 ≠ oa
  ls : sa ≠ la
  lh1 : h1 ≠ la
  lh2 : h2 ≠ la
theorem QSto.to {μ μ' μ2 : Mu} {ka oa la sa h1 h2 : Addr} {S : PSt} {L : Path} (q : QSto μ μ' ka oa la sa h1 h2 S L) (m : MSub μ' μ2) : QSto μ μ2 ka oa la sa h1 h2 S L :=
  ⟨q.sub.trans m, m _ _ q.k, m _ _ q.o, m _ _ q.l, m _ _ q.s, m _ _ q.a, m _ _ q.b⟩
theorem QSto.ord {μ μ' : Mu} {ka oa la sa h1 h2 : Addr} {S : PSt} {L : Path} {o : List Nat} (q : QSto μ μ' ka oa la sa h1 h2 S L) (n : QNe oa la sa h1 h2) (ko : ka ≠ oa) (ol : la ≠ oa) (f : μ oa = none) : QSto μ (updM μ' oa (.lst (natL o))) ka oa la sa h1 h2 ⟨o, S.one, S.oth⟩ L :=
  ⟨q.sub.fresh f, by rw [updM_ne ko]; exact q.k, updM_same, by rw [updM_ne ol]; exact q.l, by rw [updM_ne n.os]; exact q.s, by rw [updM_ne n.oh1]; exact q.a, by rw [updM_ne n.oh2]; exact q.b⟩
theorem QSto.log {μ μ' : Mu} {ka oa la sa h1 h2 : Addr} {S : PSt} {L : Path} {L' : Path} (q : QSto μ μ' ka oa la sa h1 h2 S L) (n : QNe oa la sa h1 h2) (kl : ka ≠ la) (ol : la ≠ oa) (f : μ la = none) : QSto μ (updM μ' la (.lst (L'.map fun e => .dat (encSp e)))) ka oa la sa h1 h2 S L' :=
  ⟨q.sub.fresh f, by rw [updM_ne kl]; exact q.k, by rw [updM_ne (Ne.symm ol)]; exact q.o, updM_same, by rw [updM_ne n.ls]; exact q.s, by rw [updM_ne n.lh1]; exact q.a, by rw [updM_ne n.lh2]; exact q.b⟩
theorem numD_get {o ord : List Nat} {z : Nat} (h : z ∈ o) : getI (numD o ord) (z : Int) = some (SV.int (numO ord z)) := by
  induction o with
  | nil => cases h
  | cons y o ih =>
    show getI (((y : Int), SV.int (numO ord y)) :: numD o ord) _ = _
    rw [getI_cons]
    by_cases e : y = z
    · subst e; rw [if_pos rfl]
    · rw [if_neg (by intro z'; exact e (by have : (y : Int) = (z : Int) := z'; omega))]
      exact ih (by rcases List.mem_cons.mp h with h | h
                   · exact absurd h.symm e
                   · exact h)
theorem MOk.nxt {m : Machine} (o : MOk m) : ∀ st t k, k ∈ m.at_ st t → k.next < m.steps.length := by
  intro st t k hk
  unfold Machine.at_ at hk
  cases h1 : m.steps[st]? with
  | none => rw [h1] at hk; simp at hk
  | some rows =>
    rw [h1, Option.getD_some] at hk
    cases h2 : rows[t]? with
    | none => rw [h2] at hk; simp at hk
    | some row =>
      rw [h2, Option.getD_some] at hk
      exact (o.case _ (List.mem_of_getElem? h1) _ (List.mem_of_getElem? h2) k hk).next
theorem neA {μ : Mu} {a q : Addr} {c : Cell} (h : μ a = some c) (e : μ q = none) : q ≠ a := fun z => by rw [z, h] at e; cases e
section
variable {P : Program} {w : World} {K : PySem.W.Frag} {mg : Str → Option Value} {base : Heap} {f : Addr} {fd : FuncData}
def G_parting : Gs := fun rs μ P => ∃ (m n : Machine), rs = [.dat (encM m), .dat (encCon (begin m)), .dat (encM n), .dat (encCon (begin n))] ∧ PairOk m n ∧
  ∀ μ', MSub μ μ' → (¬ Parted m n → P μ' (.dat .none)) ∧ ∀ p, Leads m n (joint (begin (α := Int) m) (begin n)) p → p.length ≤ 900001 → P μ' (.tup ((partLog m n p).map encE))
theorem sc_parting : FnScope ["_law_one", "_law_content", "_law_other", "_law_another", "_law_path_here", "_law_known", "_law_value", "_law_order", "_law_sides", "_law_log", "_law_tag", "_law_spot", "_law_now", "_law_item", "_law_at_here", "_law_entry", "_law_first", "_law_second", "_law_numbers_here"] ["_law_one", "_law_content", "_law_other", "_law_another"] (defScope s__law_parting) := ⟨rfl, rfl, rfl, by decide +kernel, rfl, by decide +kernel, by decide +kernel⟩
theorem ok_parting (F : FD K "_law_parting" "_law_parting" s__law_parting f fd) (M : Md mg) (cp : Fn P w K mg base 13 "_law_path" G_path) (cd : Fn P w K mg base 12 "_law_read" G_read) (cpl : Fn P w K mg base 1 "_law_placed_in" G_placed_in) (ci : Fn P w K mg base 1 "_law_items" G_items) (cn : Fn P w K mg base 1 "_law_numbers" G_numbers) : FnOk P w K mg base C8.CX0 14 f fd ["_law_one", "_law_content", "_law_other", "_law_another"] (spOf P w K G_parting) := by
  refine ok_of F sc_parting (fun rs μ Po ⟨_, _, e, _⟩ => by rw [e]; rfl) fun cdv A outer s0 H E rs μ Po hr ⟨m, n, e, po, hP⟩ => ?_
  subst e
  have om := po.o1
  have on := po.o2
  have hm := om.regs
  have hn := on.regs
  have b1 := begin_ok om
  have b2 := begin_ok on
  refine w_cons <| w_set (i := 4) sc_parting.nd <| e_call cp hr (a_cons <| e_var (i := 0) rfl <| a_cons <| e_var (i := 1) rfl <| a_cons <| e_var (i := 2) rfl <| a_cons <| e_var (i := 3) rfl <| a_nil ⟨m, n, begin m, begin n, rfl, po, b1.1, b1.2, b2.1, b2.2, fun μ1 m1 => ⟨fun np => ?_, fun p hp lp => ?_⟩⟩) (by omega)
  · show WS _ [_, _, _, _, _, _, _, _, _, _, _, _, _, _, _, _, _, _, _] _ _ _
    exact w_cons <| w_if <| t_isN <| e_var (i := 4) rfl ⟨fun _ => w_one <| w_ret <| e_non ((hP μ1 m1).1 np), fun h => ft h⟩
  show WS _ [_, _, _, _, _, _, _, _, _, _, _, _, _, _, _, _, _, _, _] _ _ _
  refine w_cons <| w_if <| t_isN <| e_var (i := 4) rfl ⟨fun h => ff h, fun _ => w_nil ?_⟩
  have nn : ∀ (i : Nat) (d : PyData), ((begin (α := Int) m).2.map encO ++ (begin (α := Int) n).2.map encO)[i]? = some d → d = .none := fun i d hd => by
    have := List.mem_of_getElem? hd
    unfold begin at this
    simp only [List.map_replicate, List.mem_append, List.mem_replicate] at this
    rcases this with h | h <;> exact h.2
  have n1 : ∀ (i : Nat) (d : PyData), ((begin (α := Int) m).2.map encO)[i]? = some d → d = .none := fun i d hd => by
    have := List.mem_of_getElem? hd
    unfold begin at this
    simp only [List.map_replicate, List.mem_replicate] at this
    exact this.2
  have n2 : ∀ (i : Nat) (d : PyData), ((begin (α := Int) n).2.map encO)[i]? = some d → d = .none := fun i d hd => by
    have := List.mem_of_getElem? hd
    unfold begin at this
    simp only [List.map_replicate, List.mem_replicate] at this
    exact this.2
  have lb1 : ((begin (α := Int) m).2.map encO).length = m.regs := by rw [List.length_map]; exact b1.2
  have lb2 : ((begin (α := Int) n).2.map encO).length = n.regs := by rw [List.length_map]; exact b2.2
  refine w_cons <| w_set (i := 5) sc_parting.nd <| e_sortedSet rfl M.sorted M.set <| e_compS (g := gN 6) (sl := [6]) [("_law_value", 6)] (fun _ => none) rfl sc_parting.nd (blkOk_by rfl) (by decide) (fun _ _ _ _ _ => (g_name sc_parting.nd)) <| i_tup <| e_catT <| e_ixK <| e_var (i := 1) rfl ⟨_, encH (begin m).2, rfl, rfl, e_ixK <| e_var (i := 3) rfl ⟨_, encH (begin n).2, rfl, rfl, (begin m).2.map encO, (begin n).2.map encO, rfl, rfl, ?_, _, rfl, ?_⟩⟩
  · rw [lb1, lb2, sizeLine_eq]; omega
  refine ⟨by rw [List.length_append, lb1, lb2]; omega, fun _ _ => trivial, ?_, ?_⟩
  · rintro i x μ' hi ⟨d, hd, rfl⟩ hm'
    cases nn i d hd
    intro s1 H1 C1 cl1 fp1
    exact t_notN <| e_var (i := 6) rfl ⟨MSub.refl _, rfl, fun h => ff h⟩
  intro μ2 m2 q0 hq0
  have fm0 : ∀ l : List Nat, l.filterMap (fun _ => (none : Option SV)) = [] := fun l => by induction l <;> simp_all
  rw [fm0]
  refine ⟨q0, [], rfl, .inl updM_same, by simp, fun ks ka _ hks hka => ?_⟩
  have ek : ks = [] := List.eq_nil_iff_forall_not_mem.mpr fun x hx => by simpa using (hks x).mp hx
  subst ek
  have m3 := ((m1.trans m2).new (c := .lst []) hq0).new (c := .lst []) hka
  have k3 : updM (updM μ2 q0 (.lst [])) ka (.lst (List.map SV.int [])) ka = some (.lst []) := updM_same
  have m3 : MSub μ (updM (updM μ2 q0 (.lst [])) ka (.lst (List.map SV.int []))) := m3
  generalize updM (updM μ2 q0 (.lst [])) ka (.lst (List.map SV.int [])) = μ3 at *
  show WS _ [_, _, _, _, _, _, _, _, _, _, _, _, _, _, _, _, _, _, _] _ _ _
  refine w_cons <| w_set (i := 7) sc_parting.nd <| e_listRg rfl M.list M.range <| e_len M.len <| e_var (i := 5) rfl <| .inr ⟨ka, [], rfl, .inl k3, 0, rfl, by omega, fun oa hoa => ?_⟩
  have ko : ka ≠ oa := Ne.symm (neA k3 hoa)
  have oaμ : μ oa = none := fresh_back m3 hoa
  have m4 : MSub μ (updM μ3 oa (.lst (natL []))) := m3.new hoa
  have k4 : updM μ3 oa (.lst (natL [])) ka = some (.lst []) := by rw [updM_ne ko]; exact k3
  have o4 : updM μ3 oa (.lst (natL [])) oa = some (.lst (natL [])) := updM_same
  show WS _ [_, _, _, _, _, _, _, _, _, _, _, _, _, _, _, _, _, _, _] (updM μ3 oa (.lst (natL []))) _ _
  generalize updM μ3 oa (.lst (natL [])) = μ4 at *
  refine w_cons <| w_set (i := 8) sc_parting.nd <| e_lst <| a_cons <| e_ixK <| e_var (i := 1) rfl ⟨_, .int 0, rfl, rfl, a_cons <| e_mapS (g := gN 6) (sl := [6]) [("_law_value", 6)] (fun _ => SV.dat .none) rfl sc_parting.nd (blkOk_by rfl) (by decide) (fun _ _ _ _ _ => (g_name sc_parting.nd)) <| i_tup <| e_ixK <| e_var (i := 1) rfl ⟨_, encH (begin m).2, rfl, rfl, (begin m).2.map encO, rfl, ?_⟩⟩
  refine ⟨by omega, fun _ _ => trivial, ?_, ?_⟩
  · rintro i x μ' hi ⟨d, hd, rfl⟩ hm'
    cases n1 i d hd
    intro s1 H1 C1 cl1 fp1
    exact e_if <| t_notN <| e_var (i := 6) rfl ⟨fun h => ff h, fun _ => e_non ⟨MSub.refl _, rfl⟩⟩
  intro μ5 m5 h1 hh1
  rw [lb1, noneL]
  refine a_nil ⟨sz, fun s1 hs1 => ?_⟩
  have h1o : h1 ≠ oa := neA (m5 _ _ o4) hh1
  have a6 : updM μ5 h1 (.lst (heldL (List.replicate m.regs none))) h1 = some (.lst (heldL (List.replicate m.regs none))) := updM_same
  have m6 := (m4.trans m5).new (c := .lst (heldL (List.replicate m.regs none))) hh1
  have k6 : updM μ5 h1 (.lst (heldL (List.replicate m.regs none))) ka = some (.lst []) := (MSub.upd hh1) _ _ (m5 _ _ k4)
  have o6 : updM μ5 h1 (.lst (heldL (List.replicate m.regs none))) oa = some (.lst (natL [])) := (MSub.upd hh1) _ _ (m5 _ _ o4)
  generalize updM μ5 h1 (.lst (heldL (List.replicate m.regs none))) = μ6 at *
  have s7 : updM μ6 s1 (.lst [SV.int 0, .loc h1]) s1 = some (.lst [SV.int 0, .loc h1]) := updM_same
  have m7 := m6.new (c := .lst [SV.int 0, .loc h1]) hs1
  have k7 : updM μ6 s1 (.lst [SV.int 0, .loc h1]) ka = some (.lst []) := (MSub.upd hs1) _ _ k6
  have o7 : updM μ6 s1 (.lst [SV.int 0, .loc h1]) oa = some (.lst (natL [])) := (MSub.upd hs1) _ _ o6
  have a7 : updM μ6 s1 (.lst [SV.int 0, .loc h1]) h1 = some (.lst (heldL (List.replicate m.regs none))) := (MSub.upd hs1) _ _ a6
  show WS _ [_, _, _, _, _, _, _, _, _, _, _, _, _, _, _, _, _, _, _] (updM μ6 s1 (.lst [SV.int 0, .loc h1])) _ _
  generalize updM μ6 s1 (.lst [SV.int 0, .loc h1]) = μ7 at *
  refine w_cons <| w_set (i := 8) sc_parting.nd <| e_catL <| e_var (i := 8) rfl <| e_lst <| a_cons <| e_ixK <| e_var (i := 3) rfl ⟨_, .int 0, rfl, rfl, a_cons <| e_mapS (g := gN 6) (sl := [6]) [("_law_value", 6)] (fun _ => SV.dat .none) rfl sc_parting.nd (blkOk_by rfl) (by decide) (fun _ _ _ _ _ => (g_name sc_parting.nd)) <| i_tup <| e_ixK <| e_var (i := 3) rfl ⟨_, encH (begin n).2, rfl, rfl, (begin n).2.map encO, rfl, ?_⟩⟩
  refine ⟨by omega, fun _ _ => trivial, ?_, ?_⟩
  · rintro i x μ' hi ⟨d, hd, rfl⟩ hm'
    cases n2 i d hd
    intro s1 H1 C1 cl1 fp1
    exact e_if <| t_notN <| e_var (i := 6) rfl ⟨fun h => ff h, fun _ => e_non ⟨MSub.refl _, rfl⟩⟩
  intro μ8 m8 h2 hh2
  rw [lb2, noneL]
  refine a_nil ⟨sz, fun s2 hs2 => ?_⟩
  have h2o : h2 ≠ oa := neA (m8 _ _ o7) hh2
  have up8 := MSub.upd (c := .lst (heldL (List.replicate n.regs none))) hh2
  have b9 : updM μ8 h2 (.lst (heldL (List.replicate n.regs none))) h2 = some (.lst (heldL (List.replicate n.regs none))) := updM_same
  have m9 := (m7.trans m8).trans up8
  have k9 := up8 _ _ (m8 _ _ k7)
  have o9 := up8 _ _ (m8 _ _ o7)
  have a9 := up8 _ _ (m8 _ _ a7)
  have s9 := up8 _ _ (m8 _ _ s7)
  generalize updM μ8 h2 (.lst (heldL (List.replicate n.regs none))) = μ9 at *
  have up9 := MSub.upd (c := .lst [SV.int 0, .loc h2]) hs2
  have s10 := up9 _ _ s9
  have t10 : updM μ9 s2 (.lst [SV.int 0, .loc h2]) s2 = some (.lst [SV.int 0, .loc h2]) := updM_same
  refine ⟨s1, s2, [SV.int 0, .loc h1], [SV.int 0, .loc h2], rfl, rfl, s10, t10, sz, fun sa hsa => ?_⟩
  have m10 := m9.trans up9
  have k10 := up9 _ _ k9
  have o10 := up9 _ _ o9
  have a10 := up9 _ _ a9
  have b10 := up9 _ _ b9
  generalize updM μ9 s2 (.lst [SV.int 0, .loc h2]) = μ10 at *
  have sao : sa ≠ oa := neA o10 hsa
  have up10 := MSub.upd (c := .lst ([SV.int 0, .loc h1] ++ [SV.int 0, .loc h2])) hsa
  have m11 := m10.trans up10
  have k11 := up10 _ _ k10
  have o11 := up10 _ _ o10
  have a11 := up10 _ _ a10
  have b11 := up10 _ _ b10
  have s11 : updM μ10 sa (.lst ([SV.int 0, .loc h1] ++ [SV.int 0, .loc h2])) sa = some (.lst [SV.int 0, .loc h1, SV.int 0, .loc h2]) := updM_same
  generalize updM μ10 sa (.lst ([SV.int 0, .loc h1] ++ [SV.int 0, .loc h2])) = μ11 at *
  show WS _ [_, _, _, _, _, _, _, _, _, _, _, _, _, _, _, _, _, _, _] _ _ _
  refine w_cons <| w_set (i := 9) sc_parting.nd <| e_lst <| a_nil ⟨sz, fun la hla => ?_⟩
  have laμ : μ la = none := fresh_back m11 hla
  have lo : la ≠ oa := neA o11 hla
  have kl : ka ≠ la := Ne.symm (neA k11 hla)
  have ne0 : QNe oa la sa h1 h2 := ⟨sao, h1o, h2o, Ne.symm (neA s11 hla), Ne.symm (neA a11 hla), Ne.symm (neA b11 hla)⟩
  have up11 := MSub.upd (c := .lst []) hla
  have st0 : QSto μ (updM μ11 la (.lst [])) ka oa la sa h1 h2 (pBegin m n) [] := ⟨m11.trans up11, up11 _ _ k11, up11 _ _ o11, updM_same, up11 _ _ s11, up11 _ _ a11, up11 _ _ b11⟩
  generalize updM μ11 la (.lst []) = μ12 at *
  show WS _ [_, _, _, _, _, _, _, _, _, _, _, _, _, _, _, _, _, _, _] _ _ _
  refine w_cons <| w_for (g := gP [gN 10, gN 11]) (sl := [10, 11]) PassesOwn.never rfl (g_tup rfl (g_cons (g_name sc_parting.nd) (g_cons (g_name sc_parting.nd) g_nil))) <| i_tup <| e_var (i := 4) rfl ⟨p.map encSp, rfl, ?_⟩
  refine ⟨fun i ρ μ' => ∃ (sa h1 h2 : Addr) (a6 a10 a11 a12 a13 a14 a15 a16 a17 a18 : Option SV), QSto μ μ' ka oa la sa h1 h2 (pRun m n (pBegin m n) (p.take i)) (pLog m n (pBegin m n) (p.take i)) ∧ QNe oa la sa h1 h2 ∧ (pRun m n (pBegin m n) (p.take i)).ord.length ≤ i ∧ (∀ e ∈ pLog m n (pBegin m n) (p.take i), e.2 ∈ (pRun m n (pBegin m n) (p.take i)).ord) ∧
      ρ = [some (.dat (encM m)), some (.dat (encCon (begin m))), some (.dat (encM n)), some (.dat (encCon (begin n))), some (.tup (p.map encSp)), some (.loc ka), a6, some (.loc oa), some (.loc sa), some (.loc la), a10, a11, a12, a13, a14, a15, a16, a17, a18],
    ⟨sa, h1, h2, _, _, _, _, _, _, _, _, _, _, st0, ne0, Nat.le_refl _, by rw [List.take_zero]; simp [pLog], rfl⟩, fun _ _ _ _ _ => trivial, ?_, ?_⟩
  · rintro i x ρ1 μ13 hi ⟨d, hd, rfl⟩ ⟨sa, h1, h2, a6, a10, a11, a12, a13, a14, a15, a16, a17, a18, st, ne, ol, lm, rfl⟩
    rw [List.getElem?_map] at hd
    cases hk : p[i]? with
    | none => rw [hk] at hd; cases hd
    | some ts =>
    rw [hk] at hd
    cases hd
    obtain ⟨t, s⟩ := ts
    obtain ⟨htg, hs, ok⟩ := leads_at om.full on.full om.nxt on.nxt om.steps.1 on.steps.1 hp hk
    have il : i < p.length := (List.getElem?_eq_some_iff.mp hk).1
    have er : pRun m n (pBegin m n) (p.take (i + 1)) = pStep m n (pRun m n (pBegin m n) (p.take i)) (t, s) := by rw [List.take_add_one, hk]; exact pRun_snoc _ _ _
    have el : pLog m n (pBegin m n) (p.take (i + 1)) = pLog m n (pBegin m n) (p.take i) ++ [(t, (pRun m n (pBegin m n) (p.take i)).item s)] := by rw [List.take_add_one, hk]; exact pLog_snoc _ _ _
    have ll := pLog_len (M := m) (N := n) (p.take i) (pBegin m n)
    rw [List.length_take] at ll
    generalize pLog m n (pBegin m n) (p.take i) = L at *
    generalize pRun m n (pBegin m n) (p.take i) = S at *
    have ok' := pStep_ok om.full on.full om.nxt on.nxt ok (t := t) hs
    obtain ⟨ndo, lto, subo⟩ := ord'_nodup ok.nd ok.lt s
    have im := item_mem hs
    have lo' := ord'_len S s
    have so : Sorted (S.ord.map (numO S.ord)) := numO_sorted ok.nd
    refine ⟨_, rfl, rfl, ?_⟩
    show WS _ [_, _, _, _, _, _, _, _, _, _, _, _, _, _, _, _, _, _, _] _ _ _
    -- now
    refine w_cons <| WLc.set (i := 12) <| l_compS (g := gN 13) (sl := [13]) [("_law_item", 13)] (fun j => (S.ord[j]?).bind (nowF S)) rfl sc_parting.nd (blkOk_by rfl) (by decide) (fun _ _ _ _ _ => (g_name sc_parting.nd)) <| i_list <| e_var (i := 7) rfl ⟨oa, natL S.ord, rfl, .inl st.o, ?_⟩
    refine ⟨by unfold natL; rw [List.length_map]; omega, fun μ' hm => .inl (hm _ _ st.o), ?_, ?_⟩
    · rintro j x μ14 hj ⟨r, hr', rfl⟩ hm
      unfold natL at hr'
      rw [List.getElem?_map] at hr'
      cases hz : S.ord[j]? with
      | none => rw [hz] at hr'; cases hr'
      | some z =>
        rw [hz] at hr'
        cases hr'
        intro s1 H1 C1 cl1 fp1
        have ia : isL μ14 h1 ((S.one.2.map (Option.map fun i : Nat => (i : Int))).map fun o => SV.dat (encO o)) := by rw [← heldL_some]; exact .inl (hm _ _ st.a)
        have ib : isL μ14 h2 ((S.oth.2.map (Option.map fun i : Nat => (i : Int))).map fun o => SV.dat (encO o)) := by rw [← heldL_some]; exact .inl (hm _ _ st.b)
        have fj : ((some z).bind (nowF S)) = nowF S z := rfl
        have yes : (decide (some z ∈ S.one.2) || decide (some z ∈ S.oth.2)) = true → nowF S z = some (SV.int (z : Int)) := fun h => by unfold nowF; rw [if_pos h]
        have no : (decide (some z ∈ S.one.2) || decide (some z ∈ S.oth.2)) = false → nowF S z = none := fun h => by unfold nowF; rw [if_neg (by rw [h]; simp)]
        refine t_w <| t_or <| t_inO <| e_var (i := 13) rfl <| e_ixL <| e_var (i := 8) rfl <| e_int ⟨sa, _, 1, .loc h1, rfl, rfl, .inl (hm _ _ st.s), rfl, some (z : Int), _, rfl, .inr ⟨h1, rfl, ia⟩, fun hf => ?_, fun ht => ?_⟩
        · rw [in_held] at hf
          refine t_or1 <| t_inO <| e_var (i := 13) rfl <| e_ixL <| e_var (i := 8) rfl <| e_int ⟨sa, _, 3, .loc h2, rfl, rfl, .inl (hm _ _ st.s), rfl, some (z : Int), _, rfl, .inr ⟨h2, rfl, ib⟩, ?_⟩
          rw [in_held]
          refine ⟨MSub.refl _, ?_, fun hy _ _ _ _ _ => e_var (i := 13) rfl ⟨MSub.refl _, ?_⟩⟩
          · rw [fj]
            cases h2 : decide (some z ∈ S.oth.2) with
            | true => rw [yes (by rw [h2]; simp)]; rfl
            | false => rw [no (by rw [hf, h2]; rfl)]; rfl
          · rw [fj, yes (by rw [hy]; simp)]
        · rw [in_held] at ht
          refine ⟨MSub.refl _, by rw [fj, yes (by rw [ht]; rfl)]; rfl, fun hy _ _ _ _ _ => e_var (i := 13) rfl ⟨MSub.refl _, by rw [fj, yes (by rw [ht]; rfl)]⟩⟩
    intro μ14 m14 na hna
    have en : (List.range (natL S.ord).length).filterMap (fun j => (S.ord[j]?).bind (nowF S)) = natL S.now := by
      rw [show (natL S.ord).length = S.ord.length by unfold natL; rw [List.length_map], fmR S.ord (nowF S) _ fun i x hx => by rw [hx]; rfl, nowF_map]; rfl
    rw [en]
    have up14 := MSub.upd (c := .lst (natL S.now)) hna
    have st15 := st.to (m14.trans up14)
    have n15 : updM μ14 na (.lst (natL S.now)) na = some (.lst (natL S.now)) := updM_same
    generalize updM μ14 na (.lst (natL S.now)) = μ15 at *
    show WS _ [_, _, _, _, _, _, _, _, _, _, _, _, _, _, _, _, _, _, _] _ _ _
    have lord : (natL S.ord).length = S.ord.length := by unfold natL; rw [List.length_map]
    -- the item
    refine w_cons <| W1.mid (Q := fun ρ' μ' => ∃ a14, QSto μ μ' ka oa la sa h1 h2 ⟨S.ord' s, S.one, S.oth⟩ L ∧ ρ' = [some (.dat (encM m)), some (.dat (encCon (begin m))), some (.dat (encM n)), some (.dat (encCon (begin n))), some (.tup (p.map encSp)), some (.loc ka), a6, some (.loc oa), some (.loc sa), some (.loc la), some (.int t), some (.int s), some (.loc na), some (.int (S.item s)), a14, a15, a16, a17, a18]) (w_if <| t_eqI <| e_mod <| e_int1 M.int <| e_var (i := 11) rfl <| .inl ⟨_, rfl, e_int ⟨_, 2, rfl, rfl, by omega, e_int ⟨_, _, rfl, rfl, fun h => ?_, fun h => ?_⟩⟩⟩) ?_
    · have h := of_decide_eq_true h
      have h1 : s % 2 = 1 := by omega
      have hkn : s / 2 < S.now.length := by omega
      have hx : S.now[s / 2]? = some (S.item s) := by unfold PSt.item; rw [if_pos h1, List.getElem?_eq_getElem hkn]; rfl
      have eo : S.ord' s = S.ord := by unfold PSt.ord'; rw [if_pos h1]
      have ed : (s : Int) / 2 = ((s / 2 : Nat) : Int) := by omega
      refine w_one <| w_set (i := 13) sc_parting.nd <| e_ixL <| e_var (i := 12) rfl <| e_fdiv <| e_var (i := 11) rfl <| e_int ⟨_, 2, rfl, rfl, ⟨by omega, by omega⟩, na, _, _, _, rfl, rfl, .inl n15, by rw [ed]; exact at_map hx, ?_⟩
      rw [eo]
      exact ⟨_, st15, rfl⟩
    · have h := of_decide_eq_false h
      have h1 : ¬ s % 2 = 1 := by omega
      have ei : S.item s = S.ord.length := by unfold PSt.item; rw [if_neg h1]
      refine w_cons <| w_set (i := 13) sc_parting.nd <| e_len M.len <| e_var (i := 7) rfl <| .inr ⟨oa, _, rfl, .inl st15.o, ?_⟩
      rw [lord]
      show WS _ [_, _, _, _, _, _, _, _, _, _, _, _, _, _, _, _, _, _, _] _ _ _
      refine w_cons <| w_set (i := 14) sc_parting.nd <| e_int ?_
      show WS _ [_, _, _, _, _, _, _, _, _, _, _, _, _, _, _, _, _, _, _] _ _ _
      refine w_cons <| W1.mid (Q := fun ρ' μ' => μ' = μ15 ∧ ρ' = [some (.dat (encM m)), some (.dat (encCon (begin m))), some (.dat (encM n)), some (.dat (encCon (begin n))), some (.tup (p.map encSp)), some (.loc ka), a6, some (.loc oa), some (.loc sa), some (.loc la), some (.int t), some (.int s), some (.loc na), some (.int S.ord.length), some (.int (S.at_ s)), a15, a16, a17, a18]) (w_if <| t_gt <| e_var (i := 11) rfl <| e_int ⟨_, _, rfl, rfl, fun h0 => ?_, fun h0 => w_nil ?_⟩) ?_
      · have h0 := of_decide_eq_true h0
        have hkn : s / 2 - 1 < S.now.length := by omega
        have hx : S.now[s / 2 - 1]? = some S.now[s / 2 - 1] := List.getElem?_eq_getElem hkn
        have ea : S.at_ s = S.ord.idxOf S.now[s / 2 - 1] + 1 := by unfold PSt.at_; rw [if_pos (by omega), hx]; rfl
        generalize S.now[s / 2 - 1] = z at *
        have mz : z ∈ S.ord := (PSt.mem_now.mp (List.mem_of_getElem? hx)).1
        have ed : (s : Int) / 2 - 1 = ((s / 2 - 1 : Nat) : Int) := by omega
        have io : isL μ15 oa ((S.ord.map fun i : Nat => some (i : Int)).map fun o => SV.dat (encO o)) := by rw [← natL_some]; exact .inl st15.o
        refine w_one <| w_set (i := 14) sc_parting.nd <| e_add <| e_lindex <| e_var (i := 7) rfl ⟨oa, rfl, ⟨_, .inl st15.o⟩, e_ixL <| e_var (i := 12) rfl <| e_sub <| e_fdiv <| e_var (i := 11) rfl <| e_int ⟨_, 2, rfl, rfl, ⟨by omega, by omega⟩, e_int ⟨_, _, rfl, rfl, na, _, _, SV.int (z : Int), rfl, rfl, .inl n15, by rw [ed]; exact at_map hx, _, some (z : Int), S.ord.idxOf z, io, rfl, fst_nat mz, e_int ⟨_, _, rfl, rfl, rfl, ?_⟩⟩⟩⟩
        rw [ea]; rfl
      · have h0 := of_decide_eq_false h0
        have ea : S.at_ s = 0 := by unfold PSt.at_; rw [if_neg (by omega)]
        rw [ea]; exact ⟨rfl, rfl⟩
      · rintro ρ' μ' ⟨rfl, rfl⟩
        have atl : S.at_ s ≤ S.ord.length := by
          unfold PSt.at_
          split
          · have hkn : s / 2 - 1 < S.now.length := by omega
            have hx : S.now[s / 2 - 1]? = some S.now[s / 2 - 1] := List.getElem?_eq_getElem hkn
            rw [hx, Option.getD_some]
            have := List.idxOf_lt_length_of_mem (PSt.mem_now.mp (List.getElem_mem hkn)).1
            omega
          · omega
        refine w_one <| w_expr <| e_insert <| e_var (i := 7) rfl ⟨oa, rfl, ⟨_, st15.o⟩, e_var (i := 14) rfl <| e_var (i := 13) rfl ⟨S.at_ s, natL S.ord, rfl, by omega, st15.o, by omega, ?_⟩⟩
        have eo : (natL S.ord).take (S.at_ s) ++ [SV.int (S.ord.length : Int)] ++ (natL S.ord).drop (S.at_ s) = natL (S.ord' s) := by
          unfold PSt.ord' natL
          rw [if_neg h1, List.map_append, List.map_append, List.map_take, List.map_drop]; rfl
        rw [eo, ei]
        exact ⟨_, st15.ord ne ko lo oaμ, rfl⟩
    rintro ρ' μ16 ⟨b14, st16, rfl⟩
    show WS _ [_, _, _, _, _, _, _, _, _, _, _, _, _, _, _, _, _, _, _] _ _ _
    -- the log
    refine w_cons <| w_expr <| e_append <| e_var (i := 9) rfl ⟨la, rfl, ⟨_, st16.l⟩, e_tup <| a_cons <| e_var (i := 10) rfl <| a_cons <| e_var (i := 13) rfl <| a_nil ⟨[_, _], rfl, sz, _, st16.l, by rw [List.length_map]; omega, ?_⟩⟩
    have st17 := st16.log (L' := L ++ [(t, S.item s)]) ne kl lo laμ
    rw [List.map_append] at st17
    have st17 : QSto μ (updM μ16 la (.lst (List.map (fun e => SV.dat (encSp e)) L ++ [SV.tup [.int t, .int (S.item s)]]))) ka oa la sa h1 h2 ⟨S.ord' s, S.one, S.oth⟩ (L ++ [(t, S.item s)]) := st17
    generalize updM μ16 la (.lst (List.map (fun e => SV.dat (encSp e)) L ++ [SV.tup [.int t, .int (S.item s)]])) = μ17 at *
    show WS _ [_, _, _, _, _, _, _, _, _, _, _, _, _, _, _, _, _, _, _] _ _ _
    have io : isL μ17 oa (((S.ord' s).map fun i : Nat => some (i : Int)).map fun o => SV.dat (encO o)) := by rw [← natL_some]; exact .inl st17.o
    refine w_cons <| w_set (i := 15) sc_parting.nd <| e_tup <| a_cons <| e_var (i := 10) rfl <| a_cons <| e_lindex <| e_var (i := 7) rfl ⟨oa, rfl, ⟨_, io⟩, e_var (i := 13) rfl ⟨_, some (S.item s : Int), (S.ord' s).idxOf (S.item s), io, rfl, fst_nat im, a_nil ⟨[_, _], rfl, sz, ?_⟩⟩⟩
    show WS _ [_, _, _, _, _, _, _, _, _, _, _, _, _, _, _, some (.dat (encE (t, pVal S s))), _, _, _] _ _ _
    have q1 : ∀ i, some i ∈ S.one.2 → i ∈ S.ord' s := fun i hi => subo.subset (ok.m1 i hi)
    have q2 : ∀ i, some i ∈ S.oth.2 → i ∈ S.ord' s := fun i hi => subo.subset (ok.m2 i hi)
    have g1 := ok.l1
    have g2 := ok.l2
    have pl : ∀ h : Held Nat, (placedIn h (S.ord' s)).length = h.length := fun h => by unfold placedIn; rw [List.length_map]
    have tl : t < n.tags := by rw [← po.tags]; exact htg
    refine w_cons <| w_set (i := 16) sc_parting.nd <| e_ixK <| e_call cd hr (a_cons <| e_var (i := 0) rfl <| a_cons <| e_tup <| a_cons <| e_ixL <| e_var (i := 8) rfl <| e_int ⟨sa, _, 0, _, rfl, rfl, .inl st17.s, rfl, a_cons <| e_call cpl hr (a_cons <| e_ixL <| e_var (i := 8) rfl <| e_int ⟨sa, _, 1, _, rfl, rfl, .inl st17.s, rfl, a_cons <| e_var (i := 7) rfl <| a_nil ⟨h1, oa, S.one.2, S.ord' s, rfl, .inl st17.a, .inl st17.o, q1, by omega, fun μ18 m18 => a_nil ⟨[_, _], rfl, sz, a_cons <| e_var (i := 15) rfl <| a_nil ⟨m, (S.one.1, placedIn S.one.2 (S.ord' s)), t, pVal S s, rfl, om, ok.s1, (pl _).trans g1, htg, fun μ19 m19 => ⟨_, encCon (readM m (S.one.1, placedIn S.one.2 (S.ord' s)) t (pVal S s)).1, rfl, rfl, ?_⟩⟩⟩⟩⟩) (by omega)⟩) (by omega)
    have st19 := st17.to (m18.trans m19)
    clear st17 io
    show WS _ [_, _, _, _, _, _, _, _, _, _, _, _, _, _, _, _, _, _, _] _ _ _
    refine w_cons <| w_set (i := 17) sc_parting.nd <| e_ixK <| e_call cd hr (a_cons <| e_var (i := 2) rfl <| a_cons <| e_tup <| a_cons <| e_ixL <| e_var (i := 8) rfl <| e_int ⟨sa, _, 2, _, rfl, rfl, .inl st19.s, rfl, a_cons <| e_call cpl hr (a_cons <| e_ixL <| e_var (i := 8) rfl <| e_int ⟨sa, _, 3, _, rfl, rfl, .inl st19.s, rfl, a_cons <| e_var (i := 7) rfl <| a_nil ⟨h2, oa, S.oth.2, S.ord' s, rfl, .inl st19.b, .inl st19.o, q2, by omega, fun μ20 m20 => a_nil ⟨[_, _], rfl, sz, a_cons <| e_var (i := 15) rfl <| a_nil ⟨n, (S.oth.1, placedIn S.oth.2 (S.ord' s)), t, pVal S s, rfl, on, ok.s2, (pl _).trans g2, tl, fun μ21 m21 => ⟨_, encCon (readM n (S.oth.1, placedIn S.oth.2 (S.ord' s)) t (pVal S s)).1, rfl, rfl, ?_⟩⟩⟩⟩⟩) (by omega)⟩) (by omega)
    have st21 := st19.to (m20.trans m21)
    clear st19
    have r1 := read_st om (c := (S.one.1, placedIn S.one.2 (S.ord' s))) ok.s1 ((pl _).trans g1) htg (pVal S s)
    have r2 := read_st on (c := (S.oth.1, placedIn S.oth.2 (S.ord' s))) ok.s2 ((pl _).trans g2) tl (pVal S s)
    have p1 := rd_places ndo m q1 t im
    have p2 := rd_places ndo n q2 t im
    show WS _ [_, _, _, _, _, _, _, _, _, _, _, _, _, _, _, _, _, _, _] _ _ _
    refine w_one <| w_set (i := 8) sc_parting.nd <| e_lst <| a_cons <| e_ixK <| e_var (i := 16) rfl ⟨_, .int (readM m (S.one.1, placedIn S.one.2 (S.ord' s)) t (pVal S s)).1.1, rfl, rfl, a_cons <| e_call ci hr (a_cons <| e_ixK <| e_var (i := 16) rfl ⟨_, encH (readM m (S.one.1, placedIn S.one.2 (S.ord' s)) t (pVal S s)).1.2, rfl, rfl, a_cons <| e_var (i := 7) rfl <| a_nil ⟨oa, _, S.ord' s, rfl, .inl st21.o, p1, by omega, fun μ22 k1 m22 f1 c1 => a_cons <| e_ixK <| e_var (i := 17) rfl ⟨_, .int (readM n (S.oth.1, placedIn S.oth.2 (S.ord' s)) t (pVal S s)).1.1, rfl, rfl, a_cons <| e_call ci hr (a_cons <| e_ixK <| e_var (i := 17) rfl ⟨_, encH (readM n (S.oth.1, placedIn S.oth.2 (S.ord' s)) t (pVal S s)).1.2, rfl, rfl, a_cons <| e_var (i := 7) rfl <| a_nil ⟨oa, _, S.ord' s, rfl, .inl (m22 _ _ st21.o), p2, by omega, fun μ23 k2 m23 f2 c2 => a_nil ⟨sz, fun sb hsb => ?_⟩⟩⟩) (by omega)⟩⟩⟩) (by omega)⟩
    have st23 := st21.to (m22.trans m23)
    have up23 := MSub.upd (c := .lst [SV.int (readM m (S.one.1, placedIn S.one.2 (S.ord' s)) t (pVal S s)).1.1, .loc k1, SV.int (readM n (S.oth.1, placedIn S.oth.2 (S.ord' s)) t (pVal S s)).1.1, .loc k2]) hsb
    have st24 := st23.to up23
    refine ⟨sb, k1, k2, _, _, _, _, _, _, _, _, _, _, by rw [er, el]; exact ⟨st24.sub, st24.k, st24.o, st24.l, updM_same, up23 _ _ (m23 _ _ c1), up23 _ _ c2⟩, ⟨neA st23.o hsb, neA st21.o f1, neA (m22 _ _ st21.o) f2, neA st23.l hsb, neA st21.l f1, neA (m22 _ _ st21.l) f2⟩, ?_, ?_, rfl⟩
    · rw [er]
      show (S.ord' s).length ≤ i + 1
      omega
    · rw [er, el]
      intro e he
      rcases List.mem_append.mp he with h | h
      · exact subo.subset (lm e h)
      · rw [List.mem_singleton.mp h]; exact im
  · rintro ρ1 μ13 ⟨sa, h1, h2, a6, a10, a11, a12, a13, a14, a15, a16, a17, a18, st, ne, ol, lm, rfl⟩
    rw [List.length_map, List.take_length] at st ol lm
    have ok0 := pBegin_ok (M := m) (N := n) om.steps.1 on.steps.1
    have ndF := (pRun_ord (M := m) (N := n) p ok0.nd ok0.lt).2.1
    have ll := pLog_len (M := m) (N := n) p (pBegin m n)
    have hP2 := fun μ' hm => (hP μ' hm).2 p hp lp
    unfold partLog at hP2
    generalize pLog m n (pBegin m n) p = L at *
    generalize pRun m n (pBegin m n) p = S at *
    show WS _ [_, _, _, _, _, _, _, _, _, _, _, _, _, _, _, _, _, _, _] _ _ _
    refine w_cons <| w_set (i := 18) sc_parting.nd <| e_call cn hr (a_cons <| e_var (i := 7) rfl <| a_cons <| e_var (i := 5) rfl <| a_nil ⟨oa, ka, S.ord, rfl, .inl st.o, .inl st.k, ndF, by omega, fun μ14 q m14 hq => ?_⟩) (by omega)
    have st14 := st.to m14
    show WS _ [_, _, _, _, _, _, _, _, _, _, _, _, _, _, _, _, _, _, _] _ _ _
    refine w_one <| w_ret <| e_tuple M.tuple <| e_mapS (g := gN 15) (sl := [15]) [("_law_entry", 15)] (fun i => SV.dat ((L[i]?.map fun e => encE (e.1, numO S.ord e.2)).getD .none)) rfl sc_parting.nd (blkOk_by rfl) (by decide) (fun _ _ _ _ _ => (g_name sc_parting.nd)) <| i_list <| e_var (i := 9) rfl ⟨la, _, rfl, .inl st14.l, ?_⟩
    refine ⟨by rw [List.length_map]; omega, fun μ' hm => .inl (hm _ _ st14.l), ?_, ?_⟩
    · rintro i x μ' hi ⟨r, hr', rfl⟩ hm
      rw [List.getElem?_map] at hr'
      cases hk : L[i]? with
      | none => rw [hk] at hr'; cases hr'
      | some e =>
        rw [hk] at hr'
        cases hr'
        intro s1 H1 C1 cl1 fp1
        exact e_tup <| a_cons <| e_ixK <| e_var (i := 15) rfl ⟨_, .int e.1, rfl, rfl, a_cons <| e_getI hr.units <| e_var (i := 18) rfl <| e_ixK <| e_var (i := 15) rfl ⟨_, .int e.2, rfl, rfl, (e.2 : Int), q, _, _, rfl, rfl, hm _ _ hq, numD_get (lm e (List.mem_of_getElem? hk)), a_nil ⟨[.int e.1, .int (numO S.ord e.2)], rfl, sz, MSub.refl _, rfl⟩⟩⟩
    intro μ15 m15 q2 hq2
    refine ⟨q2, (L.map fun e => (e.1, numO S.ord e.2)).map encE, rfl, .inl ?_, hP2 _ ((st14.sub.trans m15).new hq2)⟩
    rw [updM_same, List.length_map, List.map_map, List.map_map]
    congr 2
    exact mapF L _ _ fun i x hx => by rw [hx]; rfl
end
end AV
-- text W26
set_option Elab.async false
set_option linter.all false
set_option maxRecDepth 100000
set_option maxHeartbeats 4000000
namespace AV
open PySem L2 TH
/-! conditions in other words, with other registers -/
def placeI (ps : List Int) (s : Int) : Int := if s < 0 then s else ps[s.toNat]?.getD 0
structure PlOk (R R' : Nat) (ps : List Int) : Prop where
  len : ps.length = R
  lt : ∀ z ∈ ps, 0 ≤ z ∧ z < R'
theorem PlOk.src {R R' : Nat} {ps : List Int} (h : PlOk R R' ps) {s : Int} (k : SrcOk R s) : SrcOk R' (placeI ps s) := by
  unfold placeI
  rcases k with k | k | ⟨k0, k1⟩
  · rw [if_pos (by omega), k]; exact .inl rfl
  · rw [if_pos (by omega), k]; exact .inr (.inl rfl)
  · rw [if_neg (by omega)]
    have hl : s.toNat < ps.length := by rw [h.len]; omega
    rw [List.getElem?_eq_getElem hl]
    exact .inr (.inr (h.lt _ (List.getElem_mem hl)))
mutual
def renC (ps : List Int) : Cond → Cond
  | .tt => .tt
  | .ff => .ff
  | .less a b => .less (placeI ps a) (placeI ps b)
  | .same a b => .same (placeI ps a) (placeI ps b)
  | .empty a => .empty (placeI ps a)
  | .not c => .not (renC ps c)
  | .all cs => .all (renCs ps cs)
  | .any cs => .any (renCs ps cs)
def renCs (ps : List Int) : List Cond → List Cond
  | [] => []
  | c :: cs => renC ps c :: renCs ps cs
end
theorem renCs_eq (ps : List Int) : ∀ cs, renCs ps cs = cs.map (renC ps)
  | [] => rfl
  | c :: cs => by rw [renCs, renCs_eq ps cs]; rfl
mutual
theorem PlOk.cond {R R' : Nat} {ps : List Int} (h : PlOk R R' ps) : ∀ {c : Cond} {d : Nat}, CondOk R d c → CondOk R' d (renC ps c)
  | .tt, d, _ => by simp [CondOk, renC]
  | .ff, d, _ => by simp [CondOk, renC]
  | .less a b, d, k => by
    have k : SrcOk R a ∧ SrcOk R b := by simpa [CondOk] using k
    have : SrcOk R' (placeI ps a) ∧ SrcOk R' (placeI ps b) := ⟨h.src k.1, h.src k.2⟩
    simpa [CondOk, renC] using this
  | .same a b, d, k => by
    have k : SrcOk R a ∧ SrcOk R b := by simpa [CondOk] using k
    have : SrcOk R' (placeI ps a) ∧ SrcOk R' (placeI ps b) := ⟨h.src k.1, h.src k.2⟩
    simpa [CondOk, renC] using this
  | .empty a, d, k => by
    have k : SrcOk R a := by simpa [CondOk] using k
    have := h.src k
    simpa [CondOk, renC] using this
  | .not c, 0, k => by simp [CondOk] at k
  | .not c, d + 1, k => by rw [CondOk] at k; rw [renC, CondOk]; exact PlOk.cond h k
  | .all cs, 0, k => by simp [CondOk] at k
  | .all cs, d + 1, k => by rw [CondOk] at k; rw [renC, CondOk]; exact ⟨PlOk.conds h k.1, by rw [renCs_eq, List.length_map]; exact k.2⟩
  | .any cs, 0, k => by simp [CondOk] at k
  | .any cs, d + 1, k => by rw [CondOk] at k; rw [renC, CondOk]; exact ⟨PlOk.conds h k.1, by rw [renCs_eq, List.length_map]; exact k.2⟩
theorem PlOk.conds {R R' : Nat} {ps : List Int} (h : PlOk R R' ps) : ∀ {cs : List Cond} {d : Nat}, CondsOk R d cs → CondsOk R' d (renCs ps cs)
  | [], d, _ => by simp [CondsOk, renCs]
  | c :: cs, d, k => by rw [CondsOk] at k; rw [renCs, CondsOk]; exact ⟨PlOk.cond h k.1, PlOk.conds h k.2⟩
end
section
variable {P : Program} {w : World} {K : PySem.W.Frag} {mg : Str → Option Value} {base : Heap} {f : Addr} {fd : FuncData}
def G_place : Gs := fun rs μ P => ∃ (s : Int) (pa : Addr) (ps : List Int) (R R' : Nat), rs = [.int s, .loc pa] ∧ isL μ pa (ps.map SV.int) ∧ PlOk R R' ps ∧ SrcOk R s ∧ P μ (.int (placeI ps s))
theorem sc_place : FnScope ["_law_place_here", "_law_places"] ["_law_place_here", "_law_places"] (defScope s__law_place) := ⟨rfl, rfl, rfl, by decide +kernel, rfl, by decide +kernel, by decide +kernel⟩
theorem ok_place (F : FD K "_law_place" "_law_place" s__law_place f fd) : FnOk P w K mg base C8.CX0 1 f fd ["_law_place_here", "_law_places"] (spOf P w K G_place) := by
  refine ok_of F sc_place (fun rs μ Po ⟨_, _, _, _, _, e, _⟩ => by rw [e]; rfl) fun cdv A outer s0 H E rs μ Po hr ⟨s, pa, ps, R, R', e, hp, po, hs, hP⟩ => ?_
  subst e
  refine w_cons <| w_if <| t_lt <| e_var (i := 0) rfl <| e_int ⟨_, _, rfl, rfl, fun h => ?_, fun h => w_nil ?_⟩
  · have h := of_decide_eq_true h
    unfold placeI at hP
    rw [if_pos h] at hP
    exact w_one <| w_ret <| e_var (i := 0) rfl hP
  · have h := of_decide_eq_false h
    unfold placeI at hP
    rw [if_neg h] at hP
    have hl : s.toNat < ps.length := by
      rw [po.len]
      rcases hs with k | k | ⟨k0, k1⟩ <;> omega
    have hx : ps[s.toNat]? = some ps[s.toNat] := List.getElem?_eq_getElem hl
    rw [hx, Option.getD_some] at hP
    refine w_one <| w_ret <| e_ixL <| e_var (i := 1) rfl <| e_var (i := 0) rfl ⟨pa, _, s, _, rfl, rfl, hp, ?_, hP⟩
    have := at_map (f := SV.int) hx
    rw [show ((s.toNat : Nat) : Int) = s by omega] at this
    exact this
/-! ### _law_renamed_condition -/
def G_renamed (d : Nat) : Gs := fun rs μ P => ∃ (c : Cond) (pa : Addr) (ps : List Int) (R R' : Nat), rs = [.dat (encC c), .loc pa] ∧ isL μ pa (ps.map SV.int) ∧ PlOk R R' ps ∧ CondOk R d c ∧ Pu μ P (.dat (encC (renC ps c)))
theorem sc_renamed : FnScope ["_law_condition_here", "_law_places", "_law_kind", "_law_part", "_law_place_here"] ["_law_condition_here", "_law_places"] (defScope s__law_renamed_condition) := ⟨rfl, rfl, rfl, by decide +kernel, rfl, by decide +kernel, by decide +kernel⟩
theorem ok_renamed_step (F : FD K "_law_renamed_condition" "_law_renamed_condition" s__law_renamed_condition f fd) (M : Md mg) (cp : Fn P w K mg base 1 "_law_place" G_place) (d : Nat) (rec : d ≠ 0 → Fn P w K mg base (d + 1) "_law_renamed_condition" (G_renamed (d - 1))) :
    FnOk P w K mg base C8.CX0 (d + 2) f fd ["_law_condition_here", "_law_places"] (spOf P w K (G_renamed d)) := by
  refine ok_of F sc_renamed (fun rs μ Po ⟨_, _, _, _, _, e, _⟩ => by rw [e]; rfl) fun cdv A outer s0 H E rs μ Po hr ⟨c, pa, ps, R, R', e, hpa, po, hh, hP⟩ => ?_
  subst e
  obtain ⟨ds, ec⟩ := encC_head c
  refine w_cons <| w_set (i := 2) sc_renamed.nd <| e_ixK <| e_var (i := 0) rfl ⟨_, .str (kS c), by rw [ec], atN (i := 0) rfl, ?_⟩
  show WS _ [_, _, _, _, _] _ _ _
  have atom : ∀ args : List Int, encC c = .tuple (.str (kS c) :: args.map .int) → encC (renC ps c) = .tuple (.str (kS c) :: (args.map (placeI ps)).map .int) → kS c ≠ "not" → kS c ≠ "all" → kS c ≠ "any" → args.length ≤ 2 → (∀ a ∈ args, SrcOk R a) →
      WS (cxOf C8.CX0 P w K mg base ["_law_condition_here", "_law_places", "_law_kind", "_law_part", "_law_place_here"] "_law_renamed_condition" (defScope s__law_renamed_condition) f cdv A outer s0 H E).nox [some (.dat (encC c)), some (.loc pa), some (.dat (.str (kS c))), none, none] μ ((defBody s__law_renamed_condition).drop 1) { nx := fun _ μ' => Po μ' (.dat .none), rt := fun r μ' => Po μ' r } := by
    intro args e1 e2 k1 k2 k3 hl hsrc
    refine if_no (i := 2) rfl k1 <| if_two (i := 2) rfl (fun h => (h.elim k2 k3).elim) fun _ _ => ?_
    refine w_one <| w_ret <| e_catT <| e_tup <| a_cons <| e_var (i := 2) rfl <| a_nil ⟨[_], rfl, sz, e_tuple M.tuple <| e_mapS (g := gN 4) (sl := [4]) [("_law_place_here", 4)] (fun i => SV.dat ((args[i]?.map fun a => PyData.int (placeI ps a)).getD .none)) rfl sc_renamed.nd (blkOk_by rfl) (by decide) (fun _ _ _ _ _ => (g_name sc_renamed.nd)) <| i_tup <| e_slT <| e_var (i := 0) rfl <| (show WE _ _ _ _ _ from e_int ⟨_, rfl, .str (kS c) :: args.map .int, by rw [e1], _, rfl, ?_⟩)⟩
    have ecut : cutD (PyData.str (kS c) :: args.map PyData.int) (some 1) none = args.map PyData.int := by
      have := cut_drop (PyData.str (kS c) :: args.map PyData.int) 1
      exact this
    rw [ecut]
    refine ⟨by rw [List.length_map]; omega, fun _ _ => trivial, ?_, ?_⟩
    · rintro i x μ' hi ⟨d, hd, rfl⟩ hm
      rw [List.getElem?_map] at hd
      cases hk : args[i]? with
      | none => rw [hk] at hd; cases hd
      | some a =>
        rw [hk] at hd
        cases hd
        intro s1 H1 C1 cl1 fp1
        exact e_call cp hr (a_cons <| e_var (i := 4) rfl <| a_cons <| e_var (i := 1) rfl <| a_nil ⟨a, pa, ps, R, R', rfl, hpa.sub hm, po, hsrc a (List.mem_of_getElem? hk), MSub.refl _, rfl⟩) (by omega)
    · intro μ1 m1 q hq
      refine ⟨q, (args.map (placeI ps)).map .int, rfl, .inl ?_, _, _, rfl, rfl, ?_, ?_⟩
      · rw [updM_same, List.length_map, List.map_map, List.map_map]
        congr 2
        exact mapF args _ _ fun i x hx => by rw [hx]; rfl
      · rw [List.length_map, List.length_map, sizeLine_eq, List.length_singleton]; omega
      · have := hP _ (m1.new (c := .lst ((List.range (args.map PyData.int).length).map fun i => SV.dat ((args[i]?.map fun a => PyData.int (placeI ps a)).getD .none))) hq)
        rw [e2] at this
        exact this
  have many : ∀ (nm : Str) (cs : List Cond), encC c = .tuple [.str nm, .tuple (encCs cs)] → encC (renC ps c) = .tuple [.str nm, .tuple (encCs (renCs ps cs))] → kS c = nm → (nm = "all" ∨ nm = "any") → CondsOk R (d - 1) cs → d ≠ 0 → cs.length ≤ 1000 →
      WS (cxOf C8.CX0 P w K mg base ["_law_condition_here", "_law_places", "_law_kind", "_law_part", "_law_place_here"] "_law_renamed_condition" (defScope s__law_renamed_condition) f cdv A outer s0 H E).nox [some (.dat (encC c)), some (.loc pa), some (.dat (.str (kS c))), none, none] μ ((defBody s__law_renamed_condition).drop 1) { nx := fun _ μ' => Po μ' (.dat .none), rt := fun r μ' => Po μ' r } := by
    intro nm cs e1 e2 ek hnm hcs hd0 hlc
    refine if_no (i := 2) rfl (by rw [ek]; rcases hnm with h | h <;> rw [h] <;> decide) <| if_two (i := 2) rfl (fun _ => ?_) (fun h1 h2 => (hnm.elim (fun z => h1 (ek.trans z)) fun z => h2 (ek.trans z)).elim)
    refine w_one <| w_ret <| e_tup <| a_cons <| e_var (i := 2) rfl <| a_cons <| e_tuple M.tuple <| e_mapS (g := gN 3) (sl := [3]) [("_law_part", 3)] (fun i => SV.dat ((cs[i]?.map fun c => encC (renC ps c)).getD .none)) rfl sc_renamed.nd (blkOk_by rfl) (by decide) (fun _ _ _ _ _ => (g_name sc_renamed.nd)) <| i_tup <| e_ixK <| e_var (i := 0) rfl ⟨_, .tuple (encCs cs), by rw [e1], rfl, _, rfl, ?_⟩
    refine ⟨by rw [encCs_eq, List.length_map]; omega, fun _ _ => trivial, ?_, ?_⟩
    · rintro i x μ' hi ⟨dd, hd, rfl⟩ hm
      rw [encCs_eq, List.getElem?_map] at hd
      cases hc : cs[i]? with
      | none => rw [hc] at hd; cases hd
      | some c =>
        rw [hc] at hd
        cases hd
        intro s1 H1 C1 cl1 fp1
        exact e_call (rec hd0) hr (a_cons <| e_var (i := 3) rfl <| a_cons <| e_var (i := 1) rfl <| a_nil ⟨c, pa, ps, R, R', rfl, hpa.sub hm, po, hcs.get c (List.mem_of_getElem? hc), fun μ2 m2 => ⟨m2, rfl⟩⟩) (by omega)
    · intro μ1 m1 q hq
      refine ⟨q, encCs (renCs ps cs), rfl, .inl ?_, a_nil ⟨[_, _], rfl, sz, ?_⟩⟩
      · rw [updM_same, encCs_eq, encCs_eq, renCs_eq, List.length_map, List.map_map, List.map_map]
        congr 2
        exact mapF cs _ _ fun i x hx => by rw [hx]; rfl
      · have := hP _ (m1.new (c := .lst ((List.range (encCs cs).length).map fun i => SV.dat ((cs[i]?.map fun c => encC (renC ps c)).getD .none))) hq)
        rw [e2, ← ek] at this
        exact this
  cases c with
  | tt => exact atom [] rfl (by rw [renC]; rfl) (by decide) (by decide) (by decide) (by simp) (by simp)
  | ff => exact atom [] rfl (by rw [renC]; rfl) (by decide) (by decide) (by decide) (by simp) (by simp)
  | less a b =>
    have hh : SrcOk R a ∧ SrcOk R b := by simpa [CondOk] using hh
    exact atom [a, b] rfl (by rw [renC]; rfl) (show (("less" : Str)) ≠ "not" by decide) (show (("less" : Str)) ≠ "all" by decide) (show (("less" : Str)) ≠ "any" by decide) (by simp) (fun z hz => by
      rcases List.mem_cons.mp hz with h | h
      · rw [h]; exact hh.1
      · rw [List.mem_singleton.mp h]; exact hh.2)
  | same a b =>
    have hh : SrcOk R a ∧ SrcOk R b := by simpa [CondOk] using hh
    exact atom [a, b] rfl (by rw [renC]; rfl) (show (("same" : Str)) ≠ "not" by decide) (show (("same" : Str)) ≠ "all" by decide) (show (("same" : Str)) ≠ "any" by decide) (by simp) (fun z hz => by
      rcases List.mem_cons.mp hz with h | h
      · rw [h]; exact hh.1
      · rw [List.mem_singleton.mp h]; exact hh.2)
  | empty a =>
    have hh : SrcOk R a := by simpa [CondOk] using hh
    exact atom [a] rfl (by rw [renC]; rfl) (show (("empty" : Str)) ≠ "not" by decide) (show (("empty" : Str)) ≠ "all" by decide) (show (("empty" : Str)) ≠ "any" by decide) (by simp) (fun z hz => by rw [List.mem_singleton.mp hz]; exact hh)
  | not c =>
    refine if_yes (i := 2) (s := "not") rfl rfl ?_
    cases d with
    | zero => exact (by simpa [CondOk] using hh : False).elim
    | succ d =>
      rw [CondOk] at hh
      refine w_one <| w_ret <| e_tup <| a_cons <| e_var (i := 2) rfl <| a_cons <| e_call (rec (by omega)) hr (a_cons <| e_ixK <| e_var (i := 0) rfl ⟨_, encC c, by rw [encC], rfl, a_cons <| e_var (i := 1) rfl <| a_nil ⟨c, pa, ps, R, R', rfl, hpa, po, hh, fun μ1 m1 => a_nil ⟨[_, _], rfl, sz, ?_⟩⟩⟩) (by omega)
      have := hP μ1 m1
      rw [renC, encC] at this
      exact this
  | all cs =>
    cases d with
    | zero => exact (by simpa [CondOk] using hh : False).elim
    | succ d =>
      rw [CondOk] at hh
      exact many "all" cs (by rw [encC]) (by rw [renC, encC]) rfl (.inl rfl) hh.1 (by omega) hh.2
  | any cs =>
    cases d with
    | zero => exact (by simpa [CondOk] using hh : False).elim
    | succ d =>
      rw [CondOk] at hh
      exact many "any" cs (by rw [encC]) (by rw [renC, encC]) rfl (.inr rfl) hh.1 (by omega) hh.2
theorem c_renamed (F : FD K "_law_renamed_condition" "_law_renamed_condition" s__law_renamed_condition f fd) (M : Md mg) (cp : Fn P w K mg base 1 "_law_place" G_place) (hb : ∀ k sp, FnOk P w K mg base C8.CX0 k f fd ["_law_condition_here", "_law_places"] sp → C8.Cal P w K mg base k "_law_renamed_condition" sp []) : ∀ d : Nat, Fn P w K mg base (d + 2) "_law_renamed_condition" (G_renamed d)
  | 0 => hb _ _ (ok_renamed_step F M cp 0 fun h => absurd rfl h)
  | d + 1 => hb _ _ (ok_renamed_step F M cp (d + 1) fun _ => c_renamed F M cp hb d)
end
end AV
-- text W27
set_option Elab.async false
set_option linter.all false
set_option maxRecDepth 100000
set_option maxHeartbeats 4000000
namespace AV
local macro_rules | `(tactic| refine' $a <| $b) => `(tactic| (refine $a ?_; refine' $b)) | `(tactic| refine' $a) => `(tactic| refine $a)
open PySem L2 TH
def gL : List (Str × PyData) → Str → Option PyData
  | [], _ => none
  | (y, d) :: l, x => if x = y then some d else gL l x
section
variable {X : Cx} {ρ : Rho}
theorem gok_nil : GOk X ρ (gL []) := fun x d h => by cases h
theorem gok_cons {y : Str} {d : PyData} {l : List (Str × PyData)} (h : ∀ (μ : Mu) (P : PK) (p : Pos), P μ (.dat d) → WE X ρ μ (.Name y p) P) (k : GOk X ρ (gL l)) : GOk X ρ (gL ((y, d) :: l)) := fun x d' e => by
  unfold gL at e
  split at e
  · rename_i ex
    subst ex
    cases e
    exact h
  · exact k x d' e
end
section
variable {P : Program} {w : World} {K : PySem.W.Frag} {mg : Str → Option Value} {base : Heap} {f : Addr} {fd : FuncData}
/-! ### _law_other_words -/
def G_other_words : Gs := fun rs μ P => ∃ (da : Addr) (c : Cond) (R d : Nat), rs = [.loc da, .dat (encC c)] ∧ DrawSt μ da ∧ CondOk R d c ∧ ∀ μ' c', MBut da μ μ' → DrawSt μ' da → CondOk R (d + 2) c' → P μ' (.dat (encC c'))
theorem sc_other_words : FnScope ["_law_draws_here", "_law_condition_here", "_law_kind", "_law_one", "_law_other", "_law_rest"] ["_law_draws_here", "_law_condition_here"] (defScope s__law_other_words) := ⟨rfl, rfl, rfl, by decide +kernel, rfl, by decide +kernel, by decide +kernel⟩
theorem ok_other_words (F : FD K "_law_other_words" "_law_other_words" s__law_other_words f fd) (M : Md mg) (ct : Fn P w K mg base 1 "_law_take" G_take) : FnOk P w K mg base C8.CX0 2 f fd ["_law_draws_here", "_law_condition_here"] (spOf P w K G_other_words) := by
  refine ok_of F sc_other_words (fun rs μ Po ⟨_, _, _, _, e, _⟩ => by rw [e]; rfl) fun cdv A outer s0 H E rs μ Po hr ⟨da, c, R, d, e, hda, hc, hP⟩ => ?_
  subst e
  obtain ⟨ds, ec⟩ := encC_head c
  refine w_cons <| w_set (i := 2) sc_other_words.nd <| e_take (i := 0) ct hr rfl (e_int ⟨4, rfl, hda, by omega, fun μ1 kind m1 d1 hk => ?_⟩) (by omega)
  show WS _ [_, _, _, _, _, _] _ _ _
  refine w_cons <| w_if <| WT.imp (T := fun μ' b => μ' = μ1 ∧ (b = true → kS c = "less")) ?_ fun μx b ⟨e, hb⟩ => ?_
  · refine t_w <| t_and <| t_eqS <| e_ixK <| e_var (i := 1) rfl ⟨_, .str (kS c), by rw [ec], atN (i := 0) rfl, e_str ⟨_, _, rfl, rfl, fun h => t_and1 <| t_lt <| e_var (i := 2) rfl <| e_int ⟨_, _, rfl, rfl, rfl, fun _ => of_decide_eq_true h⟩, fun h => ⟨rfl, fun z => ff z⟩⟩⟩
  subst e
  refine ⟨fun hbt => ?_, fun _ => w_nil ?_⟩
  · have hk := hb hbt
    cases c with
    | less a b =>
      have hh : SrcOk R a ∧ SrcOk R b := by simpa [CondOk] using hc
      refine w_cons <| w_set (i := 3) sc_other_words.nd <| e_ixK <| e_var (i := 1) rfl ⟨_, .int a, rfl, rfl, ?_⟩
      show WS _ [_, _, _, _, _, _] _ _ _
      refine w_cons <| w_set (i := 4) sc_other_words.nd <| e_ixK <| e_var (i := 1) rfl ⟨_, .int b, rfl, rfl, ?_⟩
      show WS _ [_, _, _, _, _, _] _ _ _
      have hg : GOk (cxOf C8.CX0 P w K mg base ["_law_draws_here", "_law_condition_here", "_law_kind", "_law_one", "_law_other", "_law_rest"] "_law_other_words" (defScope s__law_other_words) f cdv A outer s0 H E).nox [some (.loc da), some (.dat (encC (.less a b))), some (.int kind), some (.int a), some (.int b), none] (gL [("_law_one", .int a), ("_law_other", .int b)]) :=
        gok_cons (fun _ _ _ h => e_var (i := 3) rfl h) <| gok_cons (fun _ _ _ h => e_var (i := 4) rfl h) gok_nil
      refine' w_cons <| w_set (i := 5) sc_other_words.nd <| e_lst <| a_cons <| e_lit hg 9 _ (encC (.not (.empty a))) rfl _ _ <| a_cons <| e_lit hg 9 _ (encC (.not (.empty b))) rfl _ _ <| a_cons <| e_lit hg 9 _ (encC (.not (.less b a))) rfl _ _ <| a_nil ⟨sz, fun ra hra => ?_⟩
      show WS _ [_, _, _, _, _, _] _ _ _
      have hg2 : GOk (cxOf C8.CX0 P w K mg base ["_law_draws_here", "_law_condition_here", "_law_kind", "_law_one", "_law_other", "_law_rest"] "_law_other_words" (defScope s__law_other_words) f cdv A outer s0 H E).nox [some (.loc da), some (.dat (encC (.less a b))), some (.int kind), some (.int a), some (.int b), some (.loc ra)] (gL [("_law_one", .int a), ("_law_other", .int b)]) :=
        gok_cons (fun _ _ _ h => e_var (i := 3) rfl h) <| gok_cons (fun _ _ _ h => e_var (i := 4) rfl h) gok_nil
      refine' w_one <| w_ret <| e_tup <| a_cons <| e_str <| a_cons <| e_tuple M.tuple <| e_catL <| e_var (i := 5) rfl <| e_lst <| a_cons <| e_lit hg2 9 _ (encC (.not (.same a b))) rfl _ _ <| a_nil ⟨sz, fun l2 hl2 => ?_⟩
      refine ⟨ra, l2, _, _, rfl, rfl, (MSub.upd hl2) _ _ updM_same, updM_same, sz, fun q hq => ?_⟩
      refine ⟨q, [encC (.not (.empty a)), encC (.not (.empty b)), encC (.not (.less b a)), encC (.not (.same a b))], rfl, .inl updM_same, a_nil ⟨[_, _], rfl, sz, ?_⟩⟩
      have n2 := hl2
      refine hP _ (.all [.not (.empty a), .not (.empty b), .not (.less b a), .not (.same a b)]) (((m1.newc hra).newc hl2).newc hq) (((d1.upd (d1.ne hra)).upd ((d1.upd (d1.ne hra)).ne hl2)).upd (((d1.upd (d1.ne hra)).upd ((d1.upd (d1.ne hra)).ne hl2)).ne hq)) ?_
      simp [CondOk, CondsOk, hh.1, hh.2]
    | _ => exfalso; exact absurd hk (by simp only [kS]; decide)
  have fin : ∀ (μ' : Mu) (c' : Cond), MBut da μx μ' → DrawSt μ' da → CondOk R (d + 2) c' → Po μ' (.dat (encC c')) := fun μ' c' m' d' h => hP μ' c' (m1.trans m') d' h
  refine w_cons <| w_if <| t_eqS <| e_ixK <| e_var (i := 1) rfl ⟨_, .str (kS c), by rw [ec], atN (i := 0) rfl, e_str ⟨_, _, rfl, rfl, fun h => ?_, fun h => w_nil ?_⟩⟩
  · have hk := of_decide_eq_true h
    cases c with
    | not c1 =>
      cases d with
      | zero => exact (by simpa [CondOk] using hc : False).elim
      | succ d =>
        rw [CondOk] at hc
        refine' w_one <| w_ret <| e_tup <| a_cons <| e_str <| a_cons <| e_tup <| a_cons <| e_str <| a_cons <| e_tup <| a_cons <| e_ixK <| e_var (i := 1) rfl ⟨_, encC c1, by rw [encC], rfl, ?_⟩
        refine' a_cons <| e_tup <| a_cons <| e_str <| a_nil ⟨[_], rfl, sz, ?_⟩
        refine a_nil ⟨[_, _], rfl, sz, ?_⟩
        refine a_nil ⟨[_, _], rfl, sz, ?_⟩
        refine a_nil ⟨[_, _], rfl, sz, ?_⟩
        have := fin μx (.not (.all [c1, .tt])) (MBut.refl _ _) d1 (by
          have := (hc.le (show d ≤ d + 1 by omega))
          simp [CondOk, CondsOk, this])
        simp only [encC, encCs] at this
        exact this
    | _ => exfalso; exact absurd hk (by simp only [kS]; decide)
  · have hg : GOk (cxOf C8.CX0 P w K mg base ["_law_draws_here", "_law_condition_here", "_law_kind", "_law_one", "_law_other", "_law_rest"] "_law_other_words" (defScope s__law_other_words) f cdv A outer s0 H E).nox [some (.loc da), some (.dat (encC c)), some (.int kind), none, none, none] (gL [("_law_condition_here", encC c)]) :=
      gok_cons (fun _ _ _ h => e_var (i := 1) rfl h) gok_nil
    refine' w_one <| w_ret <| e_ixL <| e_lst <| a_cons <| e_lit hg 9 _ (.tuple [.str "not", .tuple [.str "not", encC c]]) rfl _ _ <| a_cons <| e_lit hg 9 _ (.tuple [.str "any", .tuple [.tuple [.str "false"], encC c]]) rfl _ _ <| a_cons <| e_lit hg 9 _ (.tuple [.str "all", .tuple [encC c, encC c]]) rfl _ _ <| a_nil ⟨sz, fun l hl => ?_⟩
    refine e_mod <| e_int1 M.int <| e_var (i := 2) rfl <| .inl ⟨_, rfl, e_int ⟨_, 3, rfl, rfl, by omega, ?_⟩⟩
    have c0 := hc.le (show d ≤ d + 1 by omega)
    have h1 := fin (updM μx l (.lst [.dat (encC (.not (.not c))), .dat (encC (.any [.ff, c])), .dat (encC (.all [c, c]))])) (.not (.not c)) ((MBut.refl _ _).newc hl) (d1.upd (d1.ne hl)) (by simp [CondOk, hc])
    have h2 := fin (updM μx l (.lst [.dat (encC (.not (.not c))), .dat (encC (.any [.ff, c])), .dat (encC (.all [c, c]))])) (.any [.ff, c]) ((MBut.refl _ _).newc hl) (d1.upd (d1.ne hl)) (by simp [CondOk, CondsOk, c0])
    have h3 := fin (updM μx l (.lst [.dat (encC (.not (.not c))), .dat (encC (.any [.ff, c])), .dat (encC (.all [c, c]))])) (.all [c, c]) ((MBut.refl _ _).newc hl) (d1.upd (d1.ne hl)) (by simp [CondOk, CondsOk, c0])
    simp only [encC, encCs] at h1 h2 h3
    have hk : kind = 0 ∨ kind = 1 ∨ kind = 2 ∨ kind = 3 := by omega
    rcases hk with e | e | e | e <;> subst e
    · exact ⟨l, _, _, _, rfl, rfl, .inl updM_same, atI_nat (j := 0) rfl, h1⟩
    · exact ⟨l, _, _, _, rfl, rfl, .inl updM_same, atI_nat (j := 1) rfl, h2⟩
    · exact ⟨l, _, _, _, rfl, rfl, .inl updM_same, atI_nat (j := 2) rfl, h3⟩
    · exact ⟨l, _, _, _, rfl, rfl, .inl updM_same, atI_nat (j := 0) rfl, h1⟩
/-! ### _law_mixed -/
def G_mixed : Gs := fun rs μ P => ∃ (da : Addr) (n : Nat), rs = [.loc da, .int n] ∧ DrawSt μ da ∧ n ≤ 1000 ∧ ∀ μ' q (ps : List Int), MBut da μ μ' → DrawSt μ' da → μ q = none → μ' q = some (.lst (ps.map SV.int)) → ps.Perm ((List.range n).map fun i : Nat => (i : Int)) → P μ' (.loc q)
theorem sc_mixed : FnScope ["_law_draws_here", "_law_many_here", "_law_row", "_law_number"] ["_law_draws_here", "_law_many_here"] (defScope s__law_mixed) := ⟨rfl, rfl, rfl, by decide +kernel, rfl, by decide +kernel, by decide +kernel⟩
theorem ok_mixed (F : FD K "_law_mixed" "_law_mixed" s__law_mixed f fd) (M : Md mg) (ct : Fn P w K mg base 1 "_law_take" G_take) : FnOk P w K mg base C8.CX0 2 f fd ["_law_draws_here", "_law_many_here"] (spOf P w K G_mixed) := by
  refine ok_of F sc_mixed (fun rs μ Po ⟨_, _, e, _⟩ => by rw [e]; rfl) fun cdv A outer s0 H E rs μ Po hr ⟨da, n, e, hda, hn, hP⟩ => ?_
  subst e
  refine w_cons <| w_set (i := 2) sc_mixed.nd <| e_lst <| a_nil ⟨sz, fun q hq => ?_⟩
  have qd := hda.ne hq
  show WS _ [_, _, _, _] _ _ _
  refine w_cons <| w_for (g := gN 3) (sl := [3]) PassesOwn.never rfl (g_name sc_mixed.nd) <| i_range M.range <| e_var (i := 1) rfl ⟨(n : Int), rfl, by omega, by omega, ?_⟩
  refine ⟨fun i ρ μ' => ∃ (ps : List Int) (a3 : Option SV), MBut da μ μ' ∧ DrawSt μ' da ∧ μ' q = some (.lst (ps.map SV.int)) ∧ ps.Perm ((List.range i).map fun i : Nat => (i : Int)) ∧ ρ = [some (.loc da), some (.int n), some (.loc q), a3],
    ⟨[], _, (MBut.refl _ _).newc hq, hda.upd qd, updM_same, List.Perm.nil, rfl⟩, fun _ _ _ _ _ => trivial, ?_, ?_⟩
  · rintro i x ρ1 μ2 hi rfl ⟨ps, a3, m2, d2, hq2, hp, rfl⟩
    have lp := hp.length_eq
    rw [List.length_map, List.length_range] at lp
    rw [Int.zero_add]
    show WS _ [_, _, _, _] _ _ _
    refine w_one <| w_expr <| e_insert <| e_var (i := 2) rfl ⟨q, rfl, ⟨_, hq2⟩, ?_⟩
    refine e_take (i := 0) ct hr rfl ?_ (by omega)
    refine e_add <| e_len M.len <| e_var (i := 2) rfl <| .inr ⟨q, _, rfl, .inl hq2, ?_⟩
    refine e_int ⟨_, _, rfl, rfl, _, rfl, d2, by omega, fun μ3 k m3 d3 hk => ?_⟩
    refine e_var (i := 3) rfl ⟨k, ps.map SV.int, rfl, ?_, m3 _ _ qd hq2, by rw [List.length_map]; omega, ?_⟩
    · rw [List.length_map] at hk; omega
    refine ⟨ps.take k ++ [(i : Int)] ++ ps.drop k, _, (m2.trans m3).fresh hq, d3.upd qd, ?_, ?_, rfl⟩
    · rw [updM_same, List.map_append, List.map_append, List.map_take, List.map_drop]; rfl
    · have h1 : (ps.take k ++ [(i : Int)] ++ ps.drop k).Perm ((i : Int) :: ps) := by
        have : (ps.take k ++ [(i : Int)] ++ ps.drop k).Perm ((i : Int) :: (ps.take k ++ ps.drop k)) := by rw [List.append_assoc]; exact List.perm_middle
        rwa [List.take_append_drop] at this
      rw [List.range_succ, List.map_append]
      exact h1.trans ((List.Perm.cons _ hp).trans (List.perm_append_comm (l₁ := [(i : Int)])))
  · rintro ρ1 μ2 ⟨ps, a3, m2, d2, hq2, hp, rfl⟩
    rw [Int.toNat_natCast] at hp
    exact w_one <| w_ret <| e_var (i := 2) rfl (hP μ2 q ps m2 d2 hq hq2 hp)
end
end AV
-- text W28
set_option Elab.async false
set_option linter.all false
set_option maxRecDepth 100000
set_option maxHeartbeats 4000000
namespace AV
local macro_rules | `(tactic| refine' $a <| $b) => `(tactic| (refine $a ?_; refine' $b)) | `(tactic| refine' $a) => `(tactic| refine $a)
open PySem L2 TH
theorem ixN_nat {n j : Nat} (h : j < n) : ixN n (j : Int) = some j := by
  unfold ixN
  rw [if_pos (by omega), if_pos (by omega)]; simp
theorem ixN_int {n : Nat} {z : Int} (h0 : 0 ≤ z) (h : z < n) : ixN n z = some z.toNat := by
  unfold ixN
  rw [if_pos h0, if_pos (by omega)]
section
variable {P : Program} {w : World} {K : PySem.W.Frag} {mg : Str → Option Value} {base : Heap} {f : Addr} {fd : FuncData}
def G_mapped : Gs := fun rs μ P => ∃ (m : Machine) (pa ea : Addr) (ps : List Int) (R' : Nat) (ex : List (Int × Int)) (D L : Nat), rs = [.dat (encM m), .loc pa, .int R', .loc ea] ∧ isL μ pa (ps.map SV.int) ∧ isL μ ea (ex.map fun e => .dat (encS e)) ∧
  PlOk m.regs R' ps ∧ (∀ e ∈ ex, 0 ≤ e.1 ∧ e.1 < R' ∧ SrcOk R' e.2) ∧ ex.length ≤ 10 ∧ MD D L m ∧ L ≤ 900 ∧ D ≤ 8 ∧ R' ≤ 20 ∧
  ∀ μ' m', MSub μ μ' → m'.tags = m.tags → m'.regs = R' → m'.steps.length = m.steps.length → MD D L m' → P μ' (.dat (encM m'))
theorem sc_mapped : FnScope ["_law_machine_here", "_law_places", "_law_registers", "_law_extra", "_law_steps", "_law_row", "_law_rows", "_law_cases", "_law_found", "_law_case_here", "_law_moves", "_law_place_here", "_law_pair", "_law_says", "_law_said"] ["_law_machine_here", "_law_places", "_law_registers", "_law_extra"] (defScope s__law_mapped) := ⟨rfl, rfl, rfl, by decide +kernel, rfl, by decide +kernel, by decide +kernel⟩
theorem ok_mapped (F : FD K "_law_mapped" "_law_mapped" s__law_mapped f fd) (M : Md mg) (cp : Fn P w K mg base 1 "_law_place" G_place) (cr : Fn P w K mg base 10 "_law_renamed_condition" (G_renamed 8)) : FnOk P w K mg base C8.CX0 11 f fd ["_law_machine_here", "_law_places", "_law_registers", "_law_extra"] (spOf P w K G_mapped) := by
  refine ok_of F sc_mapped (fun rs μ Po ⟨_, _, _, _, _, _, _, _, e, _⟩ => by rw [e]; rfl) fun cdv A outer s0 H E rs μ Po hr ⟨m, pa, ea, ps, R', ex, D, L, e, hpa, hea, po, hex, lex, om, hL, hD, hR', hP⟩ => ?_
  subst e
  have ht := om.tags
  have hst := om.steps
  have hR := om.regs
  have lps := po.len
  refine' w_cons <| w_set (i := 4) sc_mapped.nd <| e_lst <| a_nil ⟨sz, fun st hs0 => ?_⟩
  show WS _ [_, _, _, _, _, _, _, _, _, _, _, _, _, _, _] _ _ _
  refine' w_cons <| w_for (g := gN 5) (sl := [5]) PassesOwn.never rfl (g_name sc_mapped.nd) <| i_tup <| e_ixK <| e_var (i := 0) rfl ⟨_, .tuple (m.steps.map encRows), rfl, rfl, _, rfl, ?_⟩
  refine ⟨fun i ρ μ' => ∃ (ss : List (List (List Case))) (a5 a6 a7 a8 a9 a10 a11 a12 a13 a14 : Option SV), MSub μ μ' ∧ μ' st = some (.lst (ss.map fun r => .dat (encRows r))) ∧ ss.length = i ∧ (∀ rows ∈ ss, rows.length = m.tags ∧ ∀ row ∈ rows, row.length ≤ L ∧ ∀ k ∈ row, CaseD D R' m.steps.length k) ∧
      ρ = [some (.dat (encM m)), some (.loc pa), some (.int R'), some (.loc ea), some (.loc st), a5, a6, a7, a8, a9, a10, a11, a12, a13, a14],
    ⟨[], _, _, _, _, _, _, _, _, _, _, MSub.upd hs0, updM_same, rfl, by simp, rfl⟩, fun _ _ _ _ _ => trivial, ?_, ?_⟩
  · rintro i x ρ1 μ2 hi ⟨d, hd, rfl⟩ ⟨ss, a5, a6, a7, a8, a9, a10, a11, a12, a13, a14, m2, hs2, hl, hok, rfl⟩
    rw [List.getElem?_map] at hd
    cases hk : m.steps[i]? with
    | none => rw [hk] at hd; cases hd
    | some rows =>
    rw [hk] at hd
    cases hd
    have mr := List.mem_of_getElem? hk
    have lr := om.rows rows mr
    have hi2 : i < m.steps.length := (List.getElem?_eq_some_iff.mp hk).1
    show WS _ [_, _, _, _, _, _, _, _, _, _, _, _, _, _, _] _ _ _
    refine' w_cons <| w_set (i := 6) sc_mapped.nd <| e_lst <| a_nil ⟨sz, fun rl hrl => ?_⟩
    have rs_ : rl ≠ st := neA hs2 hrl
    have rlμ := fresh_back m2 hrl
    show WS _ [_, _, _, _, _, _, _, _, _, _, _, _, _, _, _] _ _ _
    refine' w_cons <| w_for (g := gN 7) (sl := [7]) PassesOwn.never rfl (g_name sc_mapped.nd) <| i_tup <| e_var (i := 5) rfl ⟨rows.map encRow, rfl, ?_⟩
    refine ⟨fun t ρ μ' => ∃ (rws : List (List Case)) (a7 a8 a9 a10 a11 a12 a13 a14 : Option SV), MSub μ μ' ∧ μ' st = some (.lst (ss.map fun r => .dat (encRows r))) ∧ μ' rl = some (.lst (rws.map fun r => .dat (encRow r))) ∧ rws.length = t ∧ (∀ row ∈ rws, row.length ≤ L ∧ ∀ k ∈ row, CaseD D R' m.steps.length k) ∧
        ρ = [some (.dat (encM m)), some (.loc pa), some (.int R'), some (.loc ea), some (.loc st), some (.dat (encRows rows)), some (.loc rl), a7, a8, a9, a10, a11, a12, a13, a14],
      ⟨[], _, _, _, _, _, _, _, _, m2.new hrl, by rw [updM_ne (Ne.symm rs_)]; exact hs2, updM_same, rfl, by simp, rfl⟩, fun _ _ _ _ _ => trivial, ?_, ?_⟩
    · rintro t x ρ2 μ3 ht3 ⟨d, hd, rfl⟩ ⟨rws, a7, a8, a9, a10, a11, a12, a13, a14, m3, hs3, hr3, hl3, hok3, rfl⟩
      rw [List.getElem?_map] at hd
      cases hk2 : rows[t]? with
      | none => rw [hk2] at hd; cases hd
      | some row =>
      rw [hk2] at hd
      cases hd
      have mw := List.mem_of_getElem? hk2
      have lw := om.row rows mr row mw
      have ht4 : t < rows.length := (List.getElem?_eq_some_iff.mp hk2).1
      show WS _ [_, _, _, _, _, _, _, _, _, _, _, _, _, _, _] _ _ _
      refine' w_cons <| w_set (i := 8) sc_mapped.nd <| e_lst <| a_nil ⟨sz, fun fl hfl => ?_⟩
      have fs : fl ≠ st := neA hs3 hfl
      have fr : fl ≠ rl := neA hr3 hfl
      have flμ := fresh_back m3 hfl
      show WS _ [_, _, _, _, _, _, _, _, _, _, _, _, _, _, _] _ _ _
      refine' w_cons <| w_for (g := gN 9) (sl := [9]) PassesOwn.never rfl (g_name sc_mapped.nd) <| i_tup <| e_var (i := 7) rfl ⟨row.map encK, rfl, ?_⟩
      refine ⟨fun c ρ μ' => ∃ (ks : List Case) (a9 a10 a11 a12 a13 a14 : Option SV), MSub μ μ' ∧ μ' st = some (.lst (ss.map fun r => .dat (encRows r))) ∧ μ' rl = some (.lst (rws.map fun r => .dat (encRow r))) ∧ μ' fl = some (.lst (ks.map fun k => .dat (encK k))) ∧ ks.length = c ∧ (∀ k ∈ ks, CaseD D R' m.steps.length k) ∧
          ρ = [some (.dat (encM m)), some (.loc pa), some (.int R'), some (.loc ea), some (.loc st), some (.dat (encRows rows)), some (.loc rl), some (.dat (encRow row)), some (.loc fl), a9, a10, a11, a12, a13, a14],
        ⟨[], _, _, _, _, _, _, m3.new hfl, by rw [updM_ne (Ne.symm fs)]; exact hs3, by rw [updM_ne (Ne.symm fr)]; exact hr3, updM_same, rfl, by simp, rfl⟩, fun _ _ _ _ _ => trivial, ?_, ?_⟩
      · rintro c x ρ3 μ4 hc ⟨d, hd, rfl⟩ ⟨ks, a9, a10, a11, a12, a13, a14, m4, hs4, hr4, hf4, hl4, hok4, rfl⟩
        rw [List.getElem?_map] at hd
        cases hk3 : row[c]? with
        | none => rw [hk3] at hd; cases hd
        | some k =>
        rw [hk3] at hd
        cases hd
        have ok := om.case rows mr row mw k (List.mem_of_getElem? hk3)
        have lm := ok.moves
        have lf := ok.few
        have hc5 : c < row.length := (List.getElem?_eq_some_iff.mp hk3).1
        show WS _ [_, _, _, _, _, _, _, _, _, _, _, _, _, _, _] _ _ _
        refine' w_cons <| WLc.set (i := 10) <| l_mapS (g := gN 11) (sl := [11]) [("_law_place_here", 11)] (fun _ => SV.int (-2)) rfl sc_mapped.nd (blkOk_by rfl) (by decide) (fun _ _ _ _ _ => (g_name sc_mapped.nd)) <| i_range M.range <| e_var (i := 2) rfl ⟨(R' : Int), rfl, by omega, by omega, ?_⟩
        refine ⟨by omega, fun _ _ => trivial, ?_, ?_⟩
        · rintro j x μ' hj rfl hm
          intro s1 H1 C1 cl1 fp1
          exact e_neg <| e_int ⟨_, rfl, MSub.refl _, rfl⟩
        intro μ5 m5 mv hmv
        have e5 : (List.range ((R' : Int)).toNat).map (fun _ : Nat => SV.int (-2)) = (List.replicate R' (-2 : Int)).map SV.int := by
          rw [Int.toNat_natCast, List.map_const', List.length_range, List.map_replicate]
        rw [e5]
        have mvs : mv ≠ st := neA (m5 _ _ hs4) hmv
        have mvr : mv ≠ rl := neA (m5 _ _ hr4) hmv
        have mvf : mv ≠ fl := neA (m5 _ _ hf4) hmv
        have mvμ := fresh_back (m4.trans m5) hmv
        have pam : ∀ μ', MSub μ μ' → isL μ' pa (ps.map SV.int) := fun μ' h => hpa.sub h
        show WS _ [_, _, _, _, _, _, _, _, _, _, _, _, _, _, _] _ _ _
        -- the moves of the machine's registers
        refine' w_cons <| w_for (g := gN 11) (sl := [11]) PassesOwn.never rfl (g_name sc_mapped.nd) <| i_range M.range <| e_ixK <| e_var (i := 0) rfl ⟨_, .int m.regs, rfl, rfl, (m.regs : Int), rfl, by omega, by omega, ?_⟩
        refine ⟨fun j ρ μ' => ∃ (ms : List Int) (a11 a12 a13 a14 : Option SV), MSub μ μ' ∧ μ' st = some (.lst (ss.map fun r => .dat (encRows r))) ∧ μ' rl = some (.lst (rws.map fun r => .dat (encRow r))) ∧ μ' fl = some (.lst (ks.map fun k => .dat (encK k))) ∧ μ' mv = some (.lst (ms.map SV.int)) ∧ ms.length = R' ∧ (∀ z ∈ ms, SrcOk R' z) ∧
            ρ = [some (.dat (encM m)), some (.loc pa), some (.int R'), some (.loc ea), some (.loc st), some (.dat (encRows rows)), some (.loc rl), some (.dat (encRow row)), some (.loc fl), some (.dat (encK k)), some (.loc mv), a11, a12, a13, a14],
          ⟨List.replicate R' (-2), _, _, _, _, (m4.trans m5).new hmv, (MSub.upd hmv) _ _ (m5 _ _ hs4), (MSub.upd hmv) _ _ (m5 _ _ hr4), (MSub.upd hmv) _ _ (m5 _ _ hf4), updM_same, by simp, fun z hz => by rw [(List.mem_replicate.mp hz).2]; exact .inr (.inl rfl), rfl⟩, fun _ _ _ _ _ => trivial, ?_, ?_⟩
        · rintro j x ρ4 μ6 hj rfl ⟨ms, a11, a12, a13, a14, m6, hs6, hr6, hf6, hm6, lms, oms, rfl⟩
          have hj : j < m.regs := by omega
          have hmj : k.moves[j]? = some (k.moves[j]'(by omega)) := List.getElem?_eq_getElem _
          generalize k.moves[j]'(by omega) = sj at hmj
          have hpj : ps[j]? = some (ps[j]'(by omega)) := List.getElem?_eq_getElem _
          generalize ps[j]'(by omega) = pj at hpj
          have opj := po.lt pj (List.mem_of_getElem? hpj)
          rw [Int.zero_add]
          show WS _ [_, _, _, _, _, _, _, _, _, _, _, _, _, _, _] _ _ _
          refine' w_one <| w_setL <| e_call cp hr ?_ (by omega)
          refine' a_cons <| e_ixV (n := j) (ds := k.moves.map .int) (d := .int sj) (by rw [List.getElem?_map, hmj]; rfl) <| e_ixK <| e_var (i := 9) rfl ⟨_, .tuple (k.moves.map .int), rfl, rfl, rfl, ?_⟩
          refine e_var (i := 11) rfl ⟨rfl, ?_⟩
          refine' a_cons <| e_var (i := 1) rfl <| a_nil ⟨sj, pa, ps, m.regs, R', rfl, pam _ m6, po, ok.srcs sj (List.mem_of_getElem? hmj), ?_⟩
          refine' e_var (i := 10) rfl <| e_ixL <| e_var (i := 1) rfl <| e_var (i := 11) rfl ⟨pa, _, _, SV.int pj, rfl, rfl, pam _ m6, at_map hpj, mv, _, pj, pj.toNat, rfl, rfl, hm6, ixN_int opj.1 (by rw [List.length_map, lms]; exact opj.2), ?_⟩
          refine ⟨ms.set pj.toNat (placeI ps sj), _, _, _, _, m6.fresh mvμ, by rw [updM_ne (Ne.symm mvs)]; exact hs6, by rw [updM_ne (Ne.symm mvr)]; exact hr6, by rw [updM_ne (Ne.symm mvf)]; exact hf6, by rw [updM_same, List.map_set], by rw [List.length_set]; exact lms, fun z hz => ?_, rfl⟩
          rcases mem_setD hz with h | h
          · exact oms z h
          · rw [h]; exact po.src (ok.srcs sj (List.mem_of_getElem? hmj))
        rintro ρ4 μ6 ⟨ms, a11, a12, a13, a14, m6, hs6, hr6, hf6, hm6, lms, oms, rfl⟩
        show WS _ [_, _, _, _, _, _, _, _, _, _, _, _, _, _, _] _ _ _
        -- further registers
        refine' w_cons <| w_for (g := gN 12) (sl := [12]) PassesOwn.never rfl (g_name sc_mapped.nd) <| i_list <| e_var (i := 3) rfl ⟨ea, _, rfl, hea.sub m6, ?_⟩
        refine ⟨fun j ρ μ' => ∃ (ms : List Int) (a12 : Option SV), MSub μ μ' ∧ μ' st = some (.lst (ss.map fun r => .dat (encRows r))) ∧ μ' rl = some (.lst (rws.map fun r => .dat (encRow r))) ∧ μ' fl = some (.lst (ks.map fun k => .dat (encK k))) ∧ μ' mv = some (.lst (ms.map SV.int)) ∧ ms.length = R' ∧ (∀ z ∈ ms, SrcOk R' z) ∧
            ρ = [some (.dat (encM m)), some (.loc pa), some (.int R'), some (.loc ea), some (.loc st), some (.dat (encRows rows)), some (.loc rl), some (.dat (encRow row)), some (.loc fl), some (.dat (encK k)), some (.loc mv), a11, a12, a13, a14],
          ⟨ms, _, m6, hs6, hr6, hf6, hm6, lms, oms, rfl⟩, fun _ _ _ _ ⟨_, _, h, _⟩ => hea.sub h, ?_, ?_⟩
        · rintro j x ρ5 μ7 hj ⟨r, hr', rfl⟩ ⟨ms, a12, m7, hs7, hr7, hf7, hm7, lms, oms, rfl⟩
          rw [List.getElem?_map] at hr'
          cases hk4 : ex[j]? with
          | none => rw [hk4] at hr'; cases hr'
          | some e =>
          rw [hk4] at hr'
          cases hr'
          obtain ⟨e0, e1, e2⟩ := hex e (List.mem_of_getElem? hk4)
          show WS _ [_, _, _, _, _, _, _, _, _, _, _, _, _, _, _] _ _ _
          refine' w_one <| w_setL <| e_ixK <| e_var (i := 12) rfl ⟨_, .int e.2, rfl, rfl, ?_⟩
          refine' e_var (i := 10) rfl <| e_ixK <| e_var (i := 12) rfl ⟨_, .int e.1, rfl, rfl, mv, _, e.1, e.1.toNat, rfl, rfl, hm7, ixN_int e0 (by rw [List.length_map, lms]; exact e1), ?_⟩
          refine ⟨ms.set e.1.toNat e.2, _, m7.fresh mvμ, by rw [updM_ne (Ne.symm mvs)]; exact hs7, by rw [updM_ne (Ne.symm mvr)]; exact hr7, by rw [updM_ne (Ne.symm mvf)]; exact hf7, by rw [updM_same, List.map_set], by rw [List.length_set]; exact lms, fun z hz => ?_, rfl⟩
          rcases mem_setD hz with h | h
          · exact oms z h
          · rw [h]; exact e2
        rintro ρ5 μ7 ⟨ms, a12, m7, hs7, hr7, hf7, hm7, lms, oms, rfl⟩
        show WS _ [_, _, _, _, _, _, _, _, _, _, _, _, _, _, _] _ _ _
        -- what is said
        refine' w_cons <| w_set (i := 13) sc_mapped.nd <| e_tuple M.tuple <| e_mapS (g := gN 14) (sl := [14]) [("_law_said", 14)] (fun i => SV.dat ((k.says[i]?.map fun p => encS (p.1, placeI ps p.2)).getD .none)) rfl sc_mapped.nd (blkOk_by rfl) (by decide) (fun _ _ _ _ _ => (g_name sc_mapped.nd)) <| i_tup <| e_ixK <| e_var (i := 9) rfl ⟨_, .tuple (k.says.map encS), rfl, rfl, _, rfl, ?_⟩
        refine ⟨by rw [List.length_map]; omega, fun _ _ => trivial, ?_, ?_⟩
        · rintro j x μ' hj ⟨d, hd, rfl⟩ hm
          rw [List.getElem?_map] at hd
          cases hk5 : k.says[j]? with
          | none => rw [hk5] at hd; cases hd
          | some p =>
            rw [hk5] at hd
            cases hd
            intro s1 H1 C1 cl1 fp1
            refine' e_tup <| a_cons <| e_ixK <| e_var (i := 14) rfl ⟨_, .int p.1, rfl, rfl, ?_⟩
            refine' a_cons <| e_call cp hr ?_ (by omega)
            refine' a_cons <| e_ixK <| e_var (i := 14) rfl ⟨_, .int p.2, rfl, rfl, ?_⟩
            refine' a_cons <| e_var (i := 1) rfl <| a_nil ⟨p.2, pa, ps, m.regs, R', rfl, pam _ (m7.trans hm), po, ok.says p (List.mem_of_getElem? hk5), ?_⟩
            exact a_nil ⟨[.int p.1, .int (placeI ps p.2)], rfl, sz, MSub.refl _, rfl⟩
        intro μ8 m8 q8 hq8
        refine ⟨q8, (k.says.map fun p => (p.1, placeI ps p.2)).map encS, rfl, .inl ?_, ?_⟩
        · rw [updM_same, List.length_map, List.map_map, List.map_map]
          congr 2
          exact mapF k.says _ _ fun i x hx => by rw [hx]; rfl
        have up8 := m8.trans (MSub.upd (c := .lst ((List.range (k.says.map encS).length).map fun i => SV.dat ((k.says[i]?.map fun p => encS (p.1, placeI ps p.2)).getD .none))) hq8)
        have m9 := m7.trans up8
        have hs9 := up8 _ _ hs7
        have hr9 := up8 _ _ hr7
        have hf9 := up8 _ _ hf7
        have hm9 := up8 _ _ hm7
        generalize updM μ8 q8 (.lst ((List.range (k.says.map encS).length).map fun i => SV.dat ((k.says[i]?.map fun p => encS (p.1, placeI ps p.2)).getD .none))) = μ9 at *
        show WS _ [_, _, _, _, _, _, _, _, _, _, _, _, _, _, _] _ _ _
        refine' w_one <| w_expr <| e_append <| e_var (i := 8) rfl ⟨fl, rfl, ⟨_, hf9⟩, ?_⟩
        refine' e_tup <| a_cons <| e_call cr hr ?_ (by omega)
        refine' a_cons <| e_ixK <| e_var (i := 9) rfl ⟨_, encC k.cond, rfl, rfl, ?_⟩
        refine' a_cons <| e_var (i := 1) rfl <| a_nil ⟨k.cond, pa, ps, m.regs, R', rfl, pam _ m9, po, ok.cond.le hD, fun μ10 m10 => ?_⟩
        refine' a_cons <| e_tuple M.tuple <| e_var (i := 10) rfl ⟨mv, ms.map .int, rfl, .inl ?_, ?_⟩
        · rw [m10 _ _ hm9, List.map_map]; rfl
        refine' a_cons <| e_var (i := 13) rfl <| a_cons <| e_ixK <| e_var (i := 9) rfl ⟨_, .int k.next, rfl, rfl, ?_⟩
        refine a_nil ⟨[_, _, _, _], rfl, sz, _, m10 _ _ hf9, by rw [List.length_map]; omega, ?_⟩
        refine ⟨ks ++ [⟨renC ps k.cond, ms, k.says.map fun p => (p.1, placeI ps p.2), k.next⟩], _, _, _, _, _, _, (m9.trans m10).fresh flμ, by rw [updM_ne (Ne.symm fs)]; exact m10 _ _ hs9, by rw [updM_ne (Ne.symm fr)]; exact m10 _ _ hr9, by rw [updM_same, List.map_append]; rfl, by rw [List.length_append, hl4]; rfl, fun k' hk' => ?_, rfl⟩
        rcases List.mem_append.mp hk' with h | h
        · exact hok4 k' h
        · rw [List.mem_singleton.mp h]
          exact ⟨po.cond ok.cond, lms, oms, fun p hp => by
            obtain ⟨p', hp', rfl⟩ := List.mem_map.mp hp
            exact po.src (ok.says p' hp'), by show (k.says.map _).length ≤ 8; rw [List.length_map]; exact lf, ok.next⟩
      · rintro ρ3 μ4 ⟨ks, a9, a10, a11, a12, a13, a14, m4, hs4, hr4, hf4, hl4, hok4, rfl⟩
        rw [List.length_map] at hl4
        show WS _ [_, _, _, _, _, _, _, _, _, _, _, _, _, _, _] _ _ _
        refine' w_one <| w_expr <| e_append <| e_var (i := 6) rfl ⟨rl, rfl, ⟨_, hr4⟩, ?_⟩
        refine' e_tuple M.tuple <| e_var (i := 8) rfl ⟨fl, ks.map encK, rfl, .inl (by rw [hf4, List.map_map]; rfl), _, hr4, by rw [List.length_map]; omega, ?_⟩
        refine ⟨rws ++ [ks], _, _, _, _, _, _, _, _, m4.fresh rlμ, by rw [updM_ne (Ne.symm rs_)]; exact hs4, by rw [updM_same, List.map_append]; rfl, by rw [List.length_append, hl3]; rfl, fun r hr' => ?_, rfl⟩
        rcases List.mem_append.mp hr' with h | h
        · exact hok3 r h
        · rw [List.mem_singleton.mp h]; exact ⟨by omega, hok4⟩
    · rintro ρ2 μ3 ⟨rws, a7, a8, a9, a10, a11, a12, a13, a14, m3, hs3, hr3, hl3, hok3, rfl⟩
      rw [List.length_map] at hl3
      show WS _ [_, _, _, _, _, _, _, _, _, _, _, _, _, _, _] _ _ _
      refine' w_one <| w_expr <| e_append <| e_var (i := 4) rfl ⟨st, rfl, ⟨_, hs3⟩, ?_⟩
      refine' e_tuple M.tuple <| e_var (i := 6) rfl ⟨rl, rws.map encRow, rfl, .inl (by rw [hr3, List.map_map]; rfl), _, hs3, by rw [List.length_map]; omega, ?_⟩
      refine ⟨ss ++ [rws], _, _, _, _, _, _, _, _, _, _, m3.fresh hs0, by rw [updM_same, List.map_append]; rfl, by rw [List.length_append, hl]; rfl, fun r hr' => ?_, rfl⟩
      rcases List.mem_append.mp hr' with h | h
      · exact hok r h
      · rw [List.mem_singleton.mp h]; exact ⟨by omega, hok3⟩
  · rintro ρ1 μ2 ⟨ss, a5, a6, a7, a8, a9, a10, a11, a12, a13, a14, m2, hs2, hl, hok, rfl⟩
    rw [List.length_map] at hl
    show WS _ [_, _, _, _, _, _, _, _, _, _, _, _, _, _, _] _ _ _
    refine' w_one <| w_ret <| e_tup <| a_cons <| e_ixK <| e_var (i := 0) rfl ⟨_, .int m.tags, rfl, rfl, ?_⟩
    refine' a_cons <| e_var (i := 2) rfl <| a_cons <| e_tuple M.tuple <| e_var (i := 4) rfl ⟨st, ss.map encRows, rfl, .inl (by rw [hs2, List.map_map]; rfl), ?_⟩
    refine a_nil ⟨[_, _, _], rfl, sz, ?_⟩
    exact hP μ2 ⟨m.tags, R', ss⟩ m2 rfl rfl hl ⟨om.tags, hR', by show 1 ≤ ss.length ∧ ss.length ≤ 20; omega, fun r h => (hok r h).1, fun r h w' h' => ((hok r h).2 w' h').1, fun r h w' h' k hk => by
      have := ((hok r h).2 w' h').2 k hk
      show CaseD D R' ss.length k
      rw [hl]; exact this⟩
end
end AV
-- text W29
set_option Elab.async false
set_option linter.all false
set_option maxRecDepth 100000
set_option maxHeartbeats 4000000
namespace AV
local macro_rules | `(tactic| refine' $a <| $b) => `(tactic| (refine $a ?_; refine' $b)) | `(tactic| refine' $a) => `(tactic| refine $a)
open PySem L2 TH
def nextK (k : Case) (n : Nat) : Case := ⟨k.cond, k.moves, k.says, n⟩
theorem cut3 (k : Case) (n : Nat) : cutD (partsK k) none (some 3) ++ [PyData.int n] = partsK (nextK k n) := by
  have := cut_take (partsK k) 3
  rw [show (some (3 : Int)) = some ((3 : Nat) : Int) from rfl, this]; rfl
theorem CaseD.nextK {D n st st' : Nat} {k : Case} {x : Nat} (h : CaseD D n st k) (hx : x < st') : CaseD D n st' (nextK k x) := ⟨h.cond, h.moves, h.srcs, h.says, h.few, hx⟩
section
variable {P : Program} {w : World} {K : PySem.W.Frag} {mg : Str → Option Value} {base : Heap} {f : Addr} {fd : FuncData}
/-! ### _law_doubled -/
def G_doubled : Gs := fun rs μ P => ∃ (da : Addr) (m : Machine) (D L : Nat), rs = [.loc da, .dat (encM m)] ∧ DrawSt μ da ∧ MD D L m ∧ L ≤ 900 ∧ m.steps.length ≤ 19 ∧
  ∀ μ' m', MBut da μ μ' → DrawSt μ' da → m'.tags = m.tags → m'.regs = m.regs → m'.steps.length = m.steps.length + 1 → MD D L m' → P μ' (.dat (encM m'))
theorem sc_doubled : FnScope ["_law_draws_here", "_law_machine_here", "_law_twin", "_law_new", "_law_steps", "_law_row", "_law_rows", "_law_cases", "_law_found", "_law_case_here", "_law_after"] ["_law_draws_here", "_law_machine_here"] (defScope s__law_doubled) := ⟨rfl, rfl, rfl, by decide +kernel, rfl, by decide +kernel, by decide +kernel⟩
theorem ok_doubled (F : FD K "_law_doubled" "_law_doubled" s__law_doubled f fd) (M : Md mg) (ct : Fn P w K mg base 1 "_law_take" G_take) : FnOk P w K mg base C8.CX0 2 f fd ["_law_draws_here", "_law_machine_here"] (spOf P w K G_doubled) := by
  refine ok_of F sc_doubled (fun rs μ Po ⟨_, _, _, _, e, _⟩ => by rw [e]; rfl) fun cdv A outer s0 H E rs μ Po hr ⟨da, m, D, L, e, hda, om, hL, hS, hP⟩ => ?_
  subst e
  have ht := om.tags
  have hst := om.steps
  have hR := om.regs
  refine' w_cons <| w_set (i := 2) sc_doubled.nd <| e_take (i := 0) ct hr rfl ?_ (by omega)
  refine' e_len M.len <| e_ixK <| e_var (i := 1) rfl ⟨_, .tuple (m.steps.map encRows), rfl, rfl, .inl ⟨_, rfl, _, rfl, hda, by rw [List.length_map]; omega, fun μ1 tw m1 d1 htw => ?_⟩⟩
  rw [List.length_map] at htw
  have htw : tw < m.steps.length := by omega
  have hT : m.steps[tw]? = some m.steps[tw] := List.getElem?_eq_getElem htw
  generalize m.steps[tw] = T at hT
  have mT := List.mem_of_getElem? hT
  show WS _ [_, _, _, _, _, _, _, _, _, _, _] _ _ _
  refine' w_cons <| w_set (i := 3) sc_doubled.nd <| e_len M.len <| e_ixK <| e_var (i := 1) rfl ⟨_, .tuple (m.steps.map encRows), rfl, rfl, .inl ⟨_, rfl, ?_⟩⟩
  rw [List.length_map]
  show WS _ [_, _, _, _, _, _, _, _, _, _, _] _ _ _
  refine' w_cons <| w_set (i := 4) sc_doubled.nd <| e_lst <| a_nil ⟨sz, fun st hs0 => ?_⟩
  have std := d1.ne hs0
  have stμ := m1.back std hs0
  show WS _ [_, _, _, _, _, _, _, _, _, _, _] _ _ _
  refine' w_cons <| w_for (g := gN 5) (sl := [5]) PassesOwn.never rfl (g_name sc_doubled.nd) <| i_tup <| e_catT <| e_ixK <| e_var (i := 1) rfl ⟨_, .tuple (m.steps.map encRows), rfl, rfl, ?_⟩
  refine' e_tup <| a_cons <| e_ixV (n := tw) (ds := m.steps.map encRows) (d := encRows T) (by rw [List.getElem?_map, hT]; rfl) <| e_ixK <| e_var (i := 1) rfl ⟨_, .tuple (m.steps.map encRows), rfl, rfl, rfl, ?_⟩
  refine e_var (i := 2) rfl ⟨rfl, ?_⟩
  refine a_nil ⟨[encRows T], rfl, sz, m.steps.map encRows, [encRows T], rfl, rfl, by rw [List.length_map, sizeLine_eq, List.length_singleton]; omega, _, rfl, ?_⟩
  have eS : m.steps.map encRows ++ [encRows T] = (m.steps ++ [T]).map encRows := by rw [List.map_append]; rfl
  rw [eS]
  have all : ∀ rows ∈ m.steps ++ [T], rows ∈ m.steps := fun rows h => by
    rcases List.mem_append.mp h with h | h
    · exact h
    · rw [List.mem_singleton.mp h]; exact mT
  have lS : (m.steps ++ [T]).length = m.steps.length + 1 := by rw [List.length_append]; rfl
  generalize m.steps ++ [T] = SS at *
  refine ⟨fun i ρ μ' => ∃ (ss : List (List (List Case))) (a5 a6 a7 a8 a9 a10 : Option SV), MBut da μ μ' ∧ DrawSt μ' da ∧ μ' st = some (.lst (ss.map fun r => .dat (encRows r))) ∧ ss.length = i ∧ (∀ rows ∈ ss, rows.length = m.tags ∧ ∀ row ∈ rows, row.length ≤ L ∧ ∀ k ∈ row, CaseD D m.regs (m.steps.length + 1) k) ∧
      ρ = [some (.loc da), some (.dat (encM m)), some (.int tw), some (.int m.steps.length), some (.loc st), a5, a6, a7, a8, a9, a10],
    ⟨[], _, _, _, _, _, _, m1.newc hs0, d1.upd std, updM_same, rfl, by simp, rfl⟩, fun _ _ _ _ _ => trivial, ?_, ?_⟩
  · rintro i x ρ1 μ2 hi ⟨d, hd, rfl⟩ ⟨ss, a5, a6, a7, a8, a9, a10, m2, d2, hs2, hl, hok, rfl⟩
    rw [List.getElem?_map] at hd
    cases hk : SS[i]? with
    | none => rw [hk] at hd; cases hd
    | some rows =>
    rw [hk] at hd
    cases hd
    have mr := all _ (List.mem_of_getElem? hk)
    have lr := om.rows rows mr
    have hi2 : i < SS.length := (List.getElem?_eq_some_iff.mp hk).1
    show WS _ [_, _, _, _, _, _, _, _, _, _, _] _ _ _
    refine' w_cons <| w_set (i := 6) sc_doubled.nd <| e_lst <| a_nil ⟨sz, fun rl hrl => ?_⟩
    have rs_ : rl ≠ st := neA hs2 hrl
    have rld := d2.ne hrl
    have rlμ := m2.back rld hrl
    show WS _ [_, _, _, _, _, _, _, _, _, _, _] _ _ _
    refine' w_cons <| w_for (g := gN 7) (sl := [7]) PassesOwn.never rfl (g_name sc_doubled.nd) <| i_tup <| e_var (i := 5) rfl ⟨rows.map encRow, rfl, ?_⟩
    refine ⟨fun t ρ μ' => ∃ (rws : List (List Case)) (a7 a8 a9 a10 : Option SV), MBut da μ μ' ∧ DrawSt μ' da ∧ μ' st = some (.lst (ss.map fun r => .dat (encRows r))) ∧ μ' rl = some (.lst (rws.map fun r => .dat (encRow r))) ∧ rws.length = t ∧ (∀ row ∈ rws, row.length ≤ L ∧ ∀ k ∈ row, CaseD D m.regs (m.steps.length + 1) k) ∧
        ρ = [some (.loc da), some (.dat (encM m)), some (.int tw), some (.int m.steps.length), some (.loc st), some (.dat (encRows rows)), some (.loc rl), a7, a8, a9, a10],
      ⟨[], _, _, _, _, m2.newc hrl, d2.upd rld, by rw [updM_ne (Ne.symm rs_)]; exact hs2, updM_same, rfl, by simp, rfl⟩, fun _ _ _ _ _ => trivial, ?_, ?_⟩
    · rintro t x ρ2 μ3 ht3 ⟨d, hd, rfl⟩ ⟨rws, a7, a8, a9, a10, m3, d3, hs3, hr3, hl3, hok3, rfl⟩
      rw [List.getElem?_map] at hd
      cases hk2 : rows[t]? with
      | none => rw [hk2] at hd; cases hd
      | some row =>
      rw [hk2] at hd
      cases hd
      have mw := List.mem_of_getElem? hk2
      have lw := om.row rows mr row mw
      have ht4 : t < rows.length := (List.getElem?_eq_some_iff.mp hk2).1
      show WS _ [_, _, _, _, _, _, _, _, _, _, _] _ _ _
      refine' w_cons <| w_set (i := 8) sc_doubled.nd <| e_lst <| a_nil ⟨sz, fun fl hfl => ?_⟩
      have fs : fl ≠ st := neA hs3 hfl
      have fr : fl ≠ rl := neA hr3 hfl
      have fld := d3.ne hfl
      have flμ := m3.back fld hfl
      show WS _ [_, _, _, _, _, _, _, _, _, _, _] _ _ _
      refine' w_cons <| w_for (g := gN 9) (sl := [9]) PassesOwn.never rfl (g_name sc_doubled.nd) <| i_tup <| e_var (i := 7) rfl ⟨row.map encK, rfl, ?_⟩
      refine ⟨fun c ρ μ' => ∃ (ks : List Case) (a9 a10 : Option SV), MBut da μ μ' ∧ DrawSt μ' da ∧ μ' st = some (.lst (ss.map fun r => .dat (encRows r))) ∧ μ' rl = some (.lst (rws.map fun r => .dat (encRow r))) ∧ μ' fl = some (.lst (ks.map fun k => .dat (encK k))) ∧ ks.length = c ∧ (∀ k ∈ ks, CaseD D m.regs (m.steps.length + 1) k) ∧
          ρ = [some (.loc da), some (.dat (encM m)), some (.int tw), some (.int m.steps.length), some (.loc st), some (.dat (encRows rows)), some (.loc rl), some (.dat (encRow row)), some (.loc fl), a9, a10],
        ⟨[], _, _, m3.newc hfl, d3.upd fld, by rw [updM_ne (Ne.symm fs)]; exact hs3, by rw [updM_ne (Ne.symm fr)]; exact hr3, updM_same, rfl, by simp, rfl⟩, fun _ _ _ _ _ => trivial, ?_, ?_⟩
      · rintro c x ρ3 μ4 hc ⟨d, hd, rfl⟩ ⟨ks, a9, a10, m4, d4, hs4, hr4, hf4, hl4, hok4, rfl⟩
        rw [List.getElem?_map] at hd
        cases hk3 : row[c]? with
        | none => rw [hk3] at hd; cases hd
        | some k =>
        rw [hk3] at hd
        cases hd
        have ok := om.case rows mr row mw k (List.mem_of_getElem? hk3)
        have hc5 : c < row.length := (List.getElem?_eq_some_iff.mp hk3).1
        have kn := ok.next
        show WS _ [_, _, _, _, _, _, _, _, _, _, _] _ _ _
        refine' w_cons <| w_set (i := 10) sc_doubled.nd <| e_ixK <| e_var (i := 9) rfl ⟨_, .int k.next, rfl, rfl, ?_⟩
        show WS _ [_, _, _, _, _, _, _, _, _, _, _] _ _ _
        refine w_cons <| W1.mid (Q := fun ρ' μ' => ∃ nx : Nat, nx < m.steps.length + 1 ∧ MBut da μ μ' ∧ DrawSt μ' da ∧ μ' st = some (.lst (ss.map fun r => .dat (encRows r))) ∧ μ' rl = some (.lst (rws.map fun r => .dat (encRow r))) ∧ μ' fl = some (.lst (ks.map fun k => .dat (encK k))) ∧
          ρ' = [some (.loc da), some (.dat (encM m)), some (.int tw), some (.int m.steps.length), some (.loc st), some (.dat (encRows rows)), some (.loc rl), some (.dat (encRow row)), some (.loc fl), some (.dat (encK k)), some (.int nx)]) ?_ ?_
        · refine w_if <| WT.imp (T := fun μ' b => MBut da μ μ' ∧ DrawSt μ' da ∧ μ' st = some (.lst (ss.map fun r => .dat (encRows r))) ∧ μ' rl = some (.lst (rws.map fun r => .dat (encRow r))) ∧ μ' fl = some (.lst (ks.map fun k => .dat (encK k)))) ?_ fun μ5 b ⟨m5, d5, s5, r5, f5⟩ => ⟨fun _ => ?_, fun _ => w_nil ?_⟩
          · refine' t_w <| t_and <| t_eqI <| e_var (i := 10) rfl <| e_var (i := 2) rfl ⟨_, _, rfl, rfl, fun _ => ?_, fun _ => ⟨m4, d4, hs4, hr4, hf4⟩⟩
            refine' t_and1 <| t_eqI <| e_take (i := 0) ct hr rfl ?_ (by omega)
            refine e_int ⟨2, rfl, d4, by omega, fun μ5 k5 m5 d5 hk5 => ?_⟩
            exact e_int ⟨_, _, rfl, rfl, m4.trans m5, d5, m5 _ _ std hs4, m5 _ _ rld hr4, m5 _ _ fld hf4⟩
          · refine' w_one <| w_set (i := 10) sc_doubled.nd <| e_var (i := 3) rfl ?_
            exact ⟨m.steps.length, by omega, m5, d5, s5, r5, f5, rfl⟩
          · exact ⟨k.next, by omega, m5, d5, s5, r5, f5, rfl⟩
        rintro ρ' μ5 ⟨nx, hnx, m5, d5, hs5, hr5, hf5, rfl⟩
        show WS _ [_, _, _, _, _, _, _, _, _, _, _] _ _ _
        refine' w_one <| w_expr <| e_append <| e_var (i := 8) rfl ⟨fl, rfl, ⟨_, hf5⟩, ?_⟩
        refine' e_catT <| e_slT <| e_var (i := 9) rfl ?_
        show WE _ _ _ _ _
        refine e_int ⟨_, rfl, partsK k, rfl, ?_⟩
        refine' e_tup <| a_cons <| e_var (i := 10) rfl <| a_nil ⟨[.int nx], rfl, sz, _, [.int nx], rfl, rfl, ?_, _, hf5, by rw [List.length_map]; omega, ?_⟩
        · have := cut_len (partsK k) none (some (3 : Int))
          have l4 : (partsK k).length = 4 := rfl
          rw [List.length_singleton, sizeLine_eq]; omega
        rw [cut3]
        refine ⟨ks ++ [nextK k nx], _, _, m5.fresh flμ, d5.upd fld, by rw [updM_ne (Ne.symm fs)]; exact hs5, by rw [updM_ne (Ne.symm fr)]; exact hr5, by rw [updM_same, List.map_append]; rfl, by rw [List.length_append, hl4]; rfl, fun k' hk' => ?_, rfl⟩
        rcases List.mem_append.mp hk' with h | h
        · exact hok4 k' h
        · rw [List.mem_singleton.mp h]; exact ok.nextK hnx
      · rintro ρ3 μ4 ⟨ks, a9, a10, m4, d4, hs4, hr4, hf4, hl4, hok4, rfl⟩
        rw [List.length_map] at hl4
        show WS _ [_, _, _, _, _, _, _, _, _, _, _] _ _ _
        refine' w_one <| w_expr <| e_append <| e_var (i := 6) rfl ⟨rl, rfl, ⟨_, hr4⟩, ?_⟩
        refine' e_tuple M.tuple <| e_var (i := 8) rfl ⟨fl, ks.map encK, rfl, .inl (by rw [hf4, List.map_map]; rfl), _, hr4, by rw [List.length_map]; omega, ?_⟩
        refine ⟨rws ++ [ks], _, _, _, _, m4.fresh rlμ, d4.upd rld, by rw [updM_ne (Ne.symm rs_)]; exact hs4, by rw [updM_same, List.map_append]; rfl, by rw [List.length_append, hl3]; rfl, fun r hr' => ?_, rfl⟩
        rcases List.mem_append.mp hr' with h | h
        · exact hok3 r h
        · rw [List.mem_singleton.mp h]; exact ⟨by omega, hok4⟩
    · rintro ρ2 μ3 ⟨rws, a7, a8, a9, a10, m3, d3, hs3, hr3, hl3, hok3, rfl⟩
      rw [List.length_map] at hl3
      show WS _ [_, _, _, _, _, _, _, _, _, _, _] _ _ _
      refine' w_one <| w_expr <| e_append <| e_var (i := 4) rfl ⟨st, rfl, ⟨_, hs3⟩, ?_⟩
      refine' e_tuple M.tuple <| e_var (i := 6) rfl ⟨rl, rws.map encRow, rfl, .inl (by rw [hr3, List.map_map]; rfl), _, hs3, by rw [List.length_map]; omega, ?_⟩
      refine ⟨ss ++ [rws], _, _, _, _, _, _, m3.fresh stμ, d3.upd std, by rw [updM_same, List.map_append]; rfl, by rw [List.length_append, hl]; rfl, fun r hr' => ?_, rfl⟩
      rcases List.mem_append.mp hr' with h | h
      · exact hok r h
      · rw [List.mem_singleton.mp h]; exact ⟨by omega, hok3⟩
  · rintro ρ1 μ2 ⟨ss, a5, a6, a7, a8, a9, a10, m2, d2, hs2, hl, hok, rfl⟩
    rw [List.length_map] at hl
    show WS _ [_, _, _, _, _, _, _, _, _, _, _] _ _ _
    refine' w_one <| w_ret <| e_tup <| a_cons <| e_ixK <| e_var (i := 1) rfl ⟨_, .int m.tags, rfl, rfl, ?_⟩
    refine' a_cons <| e_ixK <| e_var (i := 1) rfl ⟨_, .int m.regs, rfl, rfl, ?_⟩
    refine' a_cons <| e_tuple M.tuple <| e_var (i := 4) rfl ⟨st, ss.map encRows, rfl, .inl (by rw [hs2, List.map_map]; rfl), ?_⟩
    refine a_nil ⟨[_, _, _], rfl, sz, ?_⟩
    exact hP μ2 ⟨m.tags, m.regs, ss⟩ m2 d2 rfl rfl (by show ss.length = _; omega) ⟨om.tags, hR, by show 1 ≤ ss.length ∧ ss.length ≤ 20; omega, fun r h => (hok r h).1, fun r h w' h' => ((hok r h).2 w' h').1, fun r h w' h' k hk => by
      have := ((hok r h).2 w' h').2 k hk
      show CaseD D m.regs ss.length k
      rw [hl, lS]; exact this⟩
/-! ### _law_renumbered -/
def G_renumbered : Gs := fun rs μ P => ∃ (da : Addr) (m : Machine) (D L : Nat), rs = [.loc da, .dat (encM m)] ∧ DrawSt μ da ∧ MD D L m ∧ L ≤ 900 ∧
  ∀ μ' m', MBut da μ μ' → DrawSt μ' da → m'.tags = m.tags → m'.regs = m.regs → m'.steps.length = m.steps.length → MD D L m' → P μ' (.dat (encM m'))
theorem sc_renumbered : FnScope ["_law_draws_here", "_law_machine_here", "_law_order", "_law_number", "_law_steps", "_law_standing", "_law_rows", "_law_cases", "_law_case_here"] ["_law_draws_here", "_law_machine_here"] (defScope s__law_renumbered) := ⟨rfl, rfl, rfl, by decide +kernel, rfl, by decide +kernel, by decide +kernel⟩
theorem ok_renumbered (F : FD K "_law_renumbered" "_law_renumbered" s__law_renumbered f fd) (M : Md mg) (cx : Fn P w K mg base 2 "_law_mixed" G_mixed) : FnOk P w K mg base C8.CX0 3 f fd ["_law_draws_here", "_law_machine_here"] (spOf P w K G_renumbered) := by
  refine ok_of F sc_renumbered (fun rs μ Po ⟨_, _, _, _, e, _⟩ => by rw [e]; rfl) fun cdv A outer s0 H E rs μ Po hr ⟨da, m, D, L, e, hda, om, hL, hP⟩ => ?_
  subst e
  have ht := om.tags
  have hst := om.steps
  have hR := om.regs
  refine' w_cons <| w_set (i := 2) sc_renumbered.nd <| e_catL <| e_lst <| a_cons <| e_int <| a_nil ⟨sz, fun z hz => ?_⟩
  have zd := hda.ne hz
  have m1 := (MBut.refl da μ).newc (c := .lst [SV.int 0]) hz
  have d1 := hda.upd (c := .lst [SV.int 0]) zd
  have z1 : updM μ z (.lst [SV.int 0]) z = some (.lst [SV.int 0]) := updM_same
  generalize updM μ z (.lst [SV.int 0]) = μ1 at *
  refine' e_mapX (g := gN 3) (sl := [3]) [("_law_number", 3)] rfl sc_renumbered.nd (blkOk_by rfl) (by decide) (fun _ _ _ _ _ => (g_name sc_renumbered.nd)) <| i_list <| e_call cx hr ?_ (by omega)
  refine' a_cons <| e_var (i := 0) rfl <| a_cons <| e_sub <| e_len M.len <| e_ixK <| e_var (i := 1) rfl ⟨_, .tuple (m.steps.map encRows), rfl, rfl, .inl ⟨_, rfl, ?_⟩⟩
  refine e_int ⟨_, _, rfl, rfl, a_nil ⟨da, m.steps.length - 1, by rw [List.length_map, show ((m.steps.length : Int) - 1) = ((m.steps.length - 1 : Nat) : Int) by omega], d1, by omega, fun μ2 q ps m2 d2 hq0 hq hp => ?_⟩⟩
  have lps := hp.length_eq
  rw [List.length_map, List.length_range] at lps
  have qd := d1.ne hq0
  refine ⟨q, ps.map SV.int, rfl, .inl hq, fun i => SV.int (1 + (ps[i]?.getD 0)), by rw [List.length_map]; omega, fun μ' hm => .inl (hm _ _ hq), ?_, ?_⟩
  · rintro i x μ' hi ⟨r, hr', rfl⟩ hm
    rw [List.getElem?_map] at hr'
    cases hk : ps[i]? with
    | none => rw [hk] at hr'; cases hr'
    | some y =>
      rw [hk] at hr'
      cases hr'
      intro s1 H1 C1 cl1 fp1
      exact e_add <| e_int <| e_var (i := 3) rfl ⟨1, y, rfl, rfl, MSub.refl _, by show _ = SV.int (1 + (ps[i]?.getD 0)); rw [hk]; rfl⟩
  intro μ3 m3 l1 hl1
  have e3 : (List.range (ps.map SV.int).length).map (fun i => SV.int (1 + (ps[i]?.getD 0))) = (ps.map fun y => 1 + y).map SV.int := by
    rw [List.length_map, List.map_map]
    exact mapF ps _ _ fun i x hx => by rw [hx]; rfl
  rw [e3]
  have up3 := MSub.upd (c := .lst ((ps.map fun y => 1 + y).map SV.int)) hl1
  refine ⟨z, l1, [SV.int 0], (ps.map fun y => 1 + y).map SV.int, rfl, rfl, up3 _ _ (m3 _ _ (m2 _ _ zd z1)), updM_same, by rw [List.length_map, List.length_map, sizeLine_eq, List.length_singleton]; omega, fun oa hoa => ?_⟩
  have m4 : MBut da μ (updM μ3 l1 (.lst ((ps.map fun y => 1 + y).map SV.int))) := (m1.trans m2).trans (m3.trans up3).but
  have d4 := d2.sub (m3.trans up3)
  generalize updM μ3 l1 (.lst ((ps.map fun y => 1 + y).map SV.int)) = μ4 at *
  have oad := d4.ne hoa
  have eo : [SV.int 0] ++ (ps.map fun y => 1 + y).map SV.int = (0 :: ps.map fun y => 1 + y).map SV.int := rfl
  rw [eo]
  have los : (0 :: ps.map fun y : Int => 1 + y).length = m.steps.length := by rw [List.length_cons, List.length_map]; omega
  have mos : ∀ x : Int, x ∈ (0 :: ps.map fun y : Int => 1 + y) ↔ 0 ≤ x ∧ x < m.steps.length := fun x => by
    rw [List.mem_cons, List.mem_map]
    constructor
    · rintro (e | ⟨y, hy, e⟩)
      · subst e; exact ⟨by omega, by omega⟩
      · have := (hp.mem_iff).mp hy
        obtain ⟨j, hj, ej⟩ := List.mem_map.mp this
        have := List.mem_range.mp hj
        exact ⟨by omega, by omega⟩
    · rintro ⟨h0, h1⟩
      by_cases h : x = 0
      · exact .inl h
      · refine .inr ⟨x - 1, (hp.mem_iff).mpr (List.mem_map.mpr ⟨(x - 1).toNat, List.mem_range.mpr (by omega), by omega⟩), by omega⟩
  generalize (0 :: ps.map fun y : Int => 1 + y) = os at *
  have m5 := m4.newc (c := .lst (os.map SV.int)) hoa
  have d5 := d4.upd (c := .lst (os.map SV.int)) oad
  have o5 : updM μ4 oa (.lst (os.map SV.int)) oa = some (.lst (os.map SV.int)) := updM_same
  generalize updM μ4 oa (.lst (os.map SV.int)) = μ5 at *
  show WS _ [_, _, _, _, _, _, _, _, _] _ _ _
  refine' w_cons <| w_set (i := 4) sc_renumbered.nd <| e_lst <| a_nil ⟨sz, fun st hs0 => ?_⟩
  have std := d5.ne hs0
  have sto : st ≠ oa := neA o5 hs0
  have stμ := m5.back std hs0
  show WS _ [_, _, _, _, _, _, _, _, _] _ _ _
  refine' w_cons <| w_for (g := gN 5) (sl := [5]) PassesOwn.never rfl (g_name sc_renumbered.nd) <| i_list <| e_var (i := 2) rfl ⟨oa, os.map SV.int, rfl, .inl (by rw [updM_ne (Ne.symm sto)]; exact o5), ?_⟩
  refine ⟨fun i ρ μ' => ∃ (ss : List (List (List Case))) (a3 a5 a6 a7 a8 : Option SV), MBut da μ μ' ∧ DrawSt μ' da ∧ μ' oa = some (.lst (os.map SV.int)) ∧ μ' st = some (.lst (ss.map fun r => .dat (encRows r))) ∧ ss.length = i ∧ (∀ rows ∈ ss, rows.length = m.tags ∧ ∀ row ∈ rows, row.length ≤ L ∧ ∀ k ∈ row, CaseD D m.regs m.steps.length k) ∧
      ρ = [some (.loc da), some (.dat (encM m)), some (.loc oa), a3, some (.loc st), a5, a6, a7, a8],
    ⟨[], _, _, _, _, _, m5.newc hs0, d5.upd std, by rw [updM_ne (Ne.symm sto)]; exact o5, updM_same, rfl, by simp, rfl⟩, fun _ _ _ _ ⟨_, _, _, _, _, _, _, _, h, _⟩ => .inl h, ?_, ?_⟩
  · rintro i x ρ1 μ6 hi ⟨r, hr', rfl⟩ ⟨ss, a3, a5, a6, a7, a8, m6, d6, ho6, hs6, hl, hok, rfl⟩
    rw [List.getElem?_map] at hr'
    cases hk : os[i]? with
    | none => rw [hk] at hr'; cases hr'
    | some y =>
    rw [hk] at hr'
    cases hr'
    obtain ⟨y0, y1⟩ := (mos y).mp (List.mem_of_getElem? hk)
    have hi2 : i < os.length := (List.getElem?_eq_some_iff.mp hk).1
    have hro : m.steps[y.toNat]? = some (m.steps[y.toNat]'(by omega)) := List.getElem?_eq_getElem _
    generalize m.steps[y.toNat]'(by omega) = rows at hro
    have mr := List.mem_of_getElem? hro
    have lr := om.rows rows mr
    show WS _ [_, _, _, _, _, _, _, _, _] _ _ _
    refine' w_cons <| w_set (i := 6) sc_renumbered.nd <| e_lst <| a_nil ⟨sz, fun rl hrl => ?_⟩
    have rs_ : rl ≠ st := neA hs6 hrl
    have ro_ : rl ≠ oa := neA ho6 hrl
    have rld := d6.ne hrl
    have rlμ := m6.back rld hrl
    show WS _ [_, _, _, _, _, _, _, _, _] _ _ _
    refine' w_cons <| w_for (g := gN 7) (sl := [7]) PassesOwn.never rfl (g_name sc_renumbered.nd) <| i_tup <| e_ixV (n := y.toNat) (ds := m.steps.map encRows) (d := encRows rows) (by rw [List.getElem?_map, hro]; rfl) <| e_ixK <| e_var (i := 1) rfl ⟨_, .tuple (m.steps.map encRows), rfl, rfl, rfl, ?_⟩
    refine e_var (i := 5) rfl ⟨by rw [show ((y.toNat : Nat) : Int) = y by omega], rows.map encRow, rfl, ?_⟩
    refine ⟨fun t ρ μ' => ∃ (rws : List (List Case)) (a7 a8 : Option SV), MBut da μ μ' ∧ DrawSt μ' da ∧ μ' oa = some (.lst (os.map SV.int)) ∧ μ' st = some (.lst (ss.map fun r => .dat (encRows r))) ∧ μ' rl = some (.lst (rws.map fun r => .dat (encRow r))) ∧ rws.length = t ∧ (∀ row ∈ rws, row.length ≤ L ∧ ∀ k ∈ row, CaseD D m.regs m.steps.length k) ∧
        ρ = [some (.loc da), some (.dat (encM m)), some (.loc oa), a3, some (.loc st), some (.int y), some (.loc rl), a7, a8],
      ⟨[], _, _, m6.newc hrl, d6.upd rld, by rw [updM_ne (Ne.symm ro_)]; exact ho6, by rw [updM_ne (Ne.symm rs_)]; exact hs6, updM_same, rfl, by simp, rfl⟩, fun _ _ _ _ _ => trivial, ?_, ?_⟩
    · rintro t x ρ2 μ7 ht3 ⟨d, hd, rfl⟩ ⟨rws, a7, a8, m7, d7, ho7, hs7, hr7, hl3, hok3, rfl⟩
      rw [List.getElem?_map] at hd
      cases hk2 : rows[t]? with
      | none => rw [hk2] at hd; cases hd
      | some row =>
      rw [hk2] at hd
      cases hd
      have mw := List.mem_of_getElem? hk2
      have lw := om.row rows mr row mw
      have ht4 : t < rows.length := (List.getElem?_eq_some_iff.mp hk2).1
      have okk : ∀ k ∈ row, CaseD D m.regs m.steps.length (nextK k (os.idxOf (k.next : Int))) := fun k hk => by
        have o := om.case rows mr row mw k hk
        have := o.next
        have h : (k.next : Int) ∈ os := (mos _).mpr ⟨by omega, by omega⟩
        have := List.idxOf_lt_length_of_mem h
        exact o.nextK (by omega)
      show WS _ [_, _, _, _, _, _, _, _, _] _ _ _
      refine' w_one <| w_expr <| e_append <| e_var (i := 6) rfl ⟨rl, rfl, ⟨_, hr7⟩, ?_⟩
      refine' e_tuple M.tuple <| e_mapS (g := gN 8) (sl := [8]) [("_law_case_here", 8)] (fun i => SV.dat ((row[i]?.map fun k => encK (nextK k (os.idxOf (k.next : Int)))).getD .none)) rfl sc_renumbered.nd (blkOk_by rfl) (by decide) (fun _ _ _ _ _ => (g_name sc_renumbered.nd)) <| i_tup <| e_var (i := 7) rfl ⟨row.map encK, rfl, ?_⟩
      refine ⟨by rw [List.length_map]; omega, fun _ _ => trivial, ?_, ?_⟩
      · rintro c x μ' hc ⟨d, hd, rfl⟩ hm
        rw [List.getElem?_map] at hd
        cases hk3 : row[c]? with
        | none => rw [hk3] at hd; cases hd
        | some k =>
          rw [hk3] at hd
          cases hd
          have kn := (om.case rows mr row mw k (List.mem_of_getElem? hk3)).next
          have hin : (k.next : Int) ∈ os := (mos _).mpr ⟨by omega, by omega⟩
          have io : isL μ' oa ((os.map some).map fun o => SV.dat (encO o)) := by rw [List.map_map]; exact .inl (hm _ _ ho7)
          intro s1 H1 C1 cl1 fp1
          refine' e_catT <| e_slT <| e_var (i := 8) rfl ?_
          show WE _ _ _ _ _
          refine e_int ⟨_, rfl, partsK k, rfl, ?_⟩
          refine' e_tup <| a_cons <| e_lindex <| e_var (i := 2) rfl ⟨oa, rfl, ⟨_, io⟩, ?_⟩
          refine' e_ixK <| e_var (i := 8) rfl ⟨_, .int k.next, rfl, rfl, os.map some, some (k.next : Int), os.idxOf (k.next : Int), io, rfl, ?_, ?_⟩
          · obtain ⟨f1, f2⟩ := fst_idx hin
            refine ⟨by rw [List.getElem?_map, f1]; rfl, fun m hm' e => ?_⟩
            rw [List.getElem?_map] at e
            cases h3 : os[m]? with
            | none => rw [h3] at e; cases e
            | some y => rw [h3] at e; cases e; exact f2 m hm' h3
          refine a_nil ⟨[.int (os.idxOf (k.next : Int) : Nat)], rfl, sz, _, [.int (os.idxOf (k.next : Int) : Nat)], rfl, rfl, ?_, MSub.refl _, ?_⟩
          · have := cut_len (partsK k) none (some (3 : Int))
            have l4 : (partsK k).length = 4 := rfl
            rw [List.length_singleton, sizeLine_eq]; omega
          · rw [cut3]; rfl
      intro μ8 m8 q8 hq8
      have up8 := m8.trans (MSub.upd (c := .lst ((List.range (row.map encK).length).map fun i => SV.dat ((row[i]?.map fun k => encK (nextK k (os.idxOf (k.next : Int)))).getD .none))) hq8)
      refine ⟨q8, (row.map fun k => nextK k (os.idxOf (k.next : Int))).map encK, rfl, .inl ?_, ?_⟩
      · rw [updM_same, List.length_map, List.map_map, List.map_map]
        congr 2
        exact mapF row _ _ fun i x hx => by rw [hx]; rfl
      refine ⟨_, up8 _ _ hr7, by rw [List.length_map]; omega, ?_⟩
      refine ⟨rws ++ [row.map fun k => nextK k (os.idxOf (k.next : Int))], _, _, (m7.trans up8.but).fresh rlμ, (d7.sub up8).upd rld, by rw [updM_ne (Ne.symm ro_)]; exact up8 _ _ ho7, by rw [updM_ne (Ne.symm rs_)]; exact up8 _ _ hs7, by rw [updM_same, List.map_append]; rfl, by rw [List.length_append, hl3]; rfl, fun r hr' => ?_, rfl⟩
      rcases List.mem_append.mp hr' with h | h
      · exact hok3 r h
      · rw [List.mem_singleton.mp h]
        refine ⟨by rw [List.length_map]; exact lw, fun k' hk' => ?_⟩
        obtain ⟨k, hk, rfl⟩ := List.mem_map.mp hk'
        exact okk k hk
    · rintro ρ2 μ7 ⟨rws, a7, a8, m7, d7, ho7, hs7, hr7, hl3, hok3, rfl⟩
      rw [List.length_map] at hl3
      show WS _ [_, _, _, _, _, _, _, _, _] _ _ _
      refine' w_one <| w_expr <| e_append <| e_var (i := 4) rfl ⟨st, rfl, ⟨_, hs7⟩, ?_⟩
      refine' e_tuple M.tuple <| e_var (i := 6) rfl ⟨rl, rws.map encRow, rfl, .inl (by rw [hr7, List.map_map]; rfl), _, hs7, by rw [List.length_map]; omega, ?_⟩
      refine ⟨ss ++ [rws], _, _, _, _, _, m7.fresh stμ, d7.upd std, by rw [updM_ne (Ne.symm sto)]; exact ho7, by rw [updM_same, List.map_append]; rfl, by rw [List.length_append, hl]; rfl, fun r hr' => ?_, rfl⟩
      rcases List.mem_append.mp hr' with h | h
      · exact hok r h
      · rw [List.mem_singleton.mp h]; exact ⟨by omega, hok3⟩
  · rintro ρ1 μ6 ⟨ss, a3, a5, a6, a7, a8, m6, d6, ho6, hs6, hl, hok, rfl⟩
    rw [List.length_map, los] at hl
    show WS _ [_, _, _, _, _, _, _, _, _] _ _ _
    refine' w_one <| w_ret <| e_tup <| a_cons <| e_ixK <| e_var (i := 1) rfl ⟨_, .int m.tags, rfl, rfl, ?_⟩
    refine' a_cons <| e_ixK <| e_var (i := 1) rfl ⟨_, .int m.regs, rfl, rfl, ?_⟩
    refine' a_cons <| e_tuple M.tuple <| e_var (i := 4) rfl ⟨st, ss.map encRows, rfl, .inl (by rw [hs6, List.map_map]; rfl), ?_⟩
    refine a_nil ⟨[_, _, _], rfl, sz, ?_⟩
    exact hP μ6 ⟨m.tags, m.regs, ss⟩ m6 d6 rfl rfl hl ⟨om.tags, hR, by show 1 ≤ ss.length ∧ ss.length ≤ 20; omega, fun r h => (hok r h).1, fun r h w' h' => ((hok r h).2 w' h').1, fun r h w' h' k hk => by
      have := ((hok r h).2 w' h').2 k hk
      show CaseD D m.regs ss.length k
      rw [hl]; exact this⟩
end
end AV
-- text W30
set_option Elab.async false
set_option linter.all false
set_option maxRecDepth 100000
set_option maxHeartbeats 4000000
namespace AV
local macro_rules | `(tactic| refine' $a <| $b) => `(tactic| (refine $a ?_; refine' $b)) | `(tactic| refine' $a) => `(tactic| refine $a)
open PySem L2 TH
/-! written machines -/
def srcB (n : Nat) (s : Int) : Bool := decide (s = -1) || decide (s = -2) || (decide (0 ≤ s) && decide (s < n))
theorem srcB_ok {n : Nat} {s : Int} (h : srcB n s = true) : SrcOk n s := by
  unfold srcB at h
  simp only [Bool.or_eq_true, Bool.and_eq_true, decide_eq_true_eq] at h
  rcases h with (h | h) | h
  · exact .inl h
  · exact .inr (.inl h)
  · exact .inr (.inr h)
def atomB (n : Nat) : Cond → Bool
  | .tt => true
  | .ff => true
  | .less a b => srcB n a && srcB n b
  | .same a b => srcB n a && srcB n b
  | .empty a => srcB n a
  | _ => false
def condB (n : Nat) : Cond → Bool
  | .all cs => cs.all (atomB n) && decide (cs.length ≤ 1000)
  | .any cs => cs.all (atomB n) && decide (cs.length ≤ 1000)
  | c => atomB n c
theorem atomB_ok {n d : Nat} {c : Cond} (h : atomB n c = true) : CondOk n d c := by
  cases c <;> simp only [atomB, Bool.and_eq_true] at h
  · simp [CondOk]
  · simp [CondOk]
  · rw [CondOk]; exact ⟨srcB_ok h.1, srcB_ok h.2⟩
  · rw [CondOk]; exact ⟨srcB_ok h.1, srcB_ok h.2⟩
  · rw [CondOk]; exact srcB_ok h
  · cases h
  · cases h
  · cases h
theorem condB_ok {n : Nat} {c : Cond} (h : condB n c = true) : CondOk n 1 c := by
  unfold condB at h
  split at h
  · rw [Bool.and_eq_true, decide_eq_true_eq] at h
    rw [CondOk]
    exact ⟨CondsOk.of fun c hc => atomB_ok (List.all_eq_true.mp h.1 c hc), h.2⟩
  · rw [Bool.and_eq_true, decide_eq_true_eq] at h
    rw [CondOk]
    exact ⟨CondsOk.of fun c hc => atomB_ok (List.all_eq_true.mp h.1 c hc), h.2⟩
  · exact atomB_ok h
def caseB (n st : Nat) (k : Case) : Bool := condB n k.cond && decide (k.moves.length = n) && k.moves.all (srcB n) && k.says.all (fun p => srcB n p.2) && decide (k.says.length ≤ 8) && decide (k.next < st)
theorem caseB_ok {n st : Nat} {k : Case} (h : caseB n st k = true) : CaseD 1 n st k := by
  unfold caseB at h
  simp only [Bool.and_eq_true, decide_eq_true_eq] at h
  obtain ⟨⟨⟨⟨⟨h1, h2⟩, h3⟩, h4⟩, h5⟩, h6⟩ := h
  exact ⟨condB_ok h1, h2, fun s hs => srcB_ok (List.all_eq_true.mp h3 s hs), fun p hp => srcB_ok (List.all_eq_true.mp h4 p hp), h5, h6⟩
def mdB (L : Nat) (m : Machine) : Bool := decide (1 ≤ m.tags) && decide (m.tags ≤ 10) && decide (m.regs ≤ 20) && decide (1 ≤ m.steps.length) && decide (m.steps.length ≤ 20) &&
  m.steps.all fun rows => decide (rows.length = m.tags) && rows.all fun row => decide (row.length ≤ L) && row.all (caseB m.regs m.steps.length)
theorem mdB_ok {L : Nat} {m : Machine} (h : mdB L m = true) : MD 1 L m := by
  unfold mdB at h
  simp only [Bool.and_eq_true, decide_eq_true_eq] at h
  obtain ⟨⟨⟨⟨⟨h1, h2⟩, h3⟩, h4⟩, h5⟩, h6⟩ := h
  have hr : ∀ rows ∈ m.steps, rows.length = m.tags ∧ ∀ row ∈ rows, row.length ≤ L ∧ ∀ k ∈ row, caseB m.regs m.steps.length k = true := fun rows hrows => by
    have := List.all_eq_true.mp h6 rows hrows
    simp only [Bool.and_eq_true, decide_eq_true_eq] at this
    refine ⟨this.1, fun row hrow => ?_⟩
    have := List.all_eq_true.mp this.2 row hrow
    simp only [Bool.and_eq_true, decide_eq_true_eq] at this
    exact ⟨this.1, fun k hk => List.all_eq_true.mp this.2 k hk⟩
  exact ⟨⟨h1, h2⟩, h3, ⟨h4, h5⟩, fun r h => (hr r h).1, fun r h w h' => ((hr r h).2 w h').1, fun r h w h' k hk => caseB_ok (((hr r h).2 w h').2 k hk)⟩
theorem MD.mono {D L L' : Nat} {m : Machine} (h : MD D L m) (l : L ≤ L') : MD D L' m := ⟨h.tags, h.regs, h.steps, h.rows, fun r hr w hw => Nat.le_trans (h.row r hr w hw) l, h.case⟩
def cUp : Cond := .less 0 (-1)
def sm0 : Machine := ⟨1, 1, [[[⟨.any [.empty 0, cUp], [-1], [(0, -1)], 0⟩]]]⟩
def kTop : Case := ⟨.all [.less 0 1, .less (-1) 1], [1, -1], [(0, 1)], 0⟩
def kLow : Case := ⟨.all [.less 1 0, .less 1 (-1)], [1, -1], [(1, 1)], 0⟩
def sm1 : Machine := ⟨1, 2, [[[kTop, kLow, ⟨.tt, [1, -1], [], 0⟩]]]⟩
def kFirst2 : Case := ⟨.empty 0, [-1, -1], [(0, -1), (1, -1)], 0⟩
def sm2 : Machine := ⟨1, 2, [[[kFirst2, ⟨.less (-1) 0, [-1, 1], [(0, -1), (1, 1)], 0⟩, ⟨.less 1 (-1), [0, -1], [(0, 0), (1, -1)], 0⟩]]]⟩
def kFirst3 : Case := ⟨.empty 0, [-1, -2], [(0, -1)], 0⟩
def kSecond3 : Case := ⟨.any [.empty 1, .less 1 (-1)], [0, -1], [(0, 0), (1, -1)], 0⟩
def sm3 : Machine := ⟨1, 2, [[[kFirst3, ⟨cUp, [-1, 0], [(0, -1), (1, 0)], 0⟩, kSecond3, ⟨.tt, [0, 1], [(1, 1)], 0⟩]]]⟩
def sm4 : Machine := ⟨1, 2, [[[⟨.empty 1, [-1, -1], [], 0⟩, ⟨.less 1 (-1), [0, -1], [], 0⟩, ⟨.tt, [-1, -1], [(0, 0)], 0⟩]]]⟩
def cBetween : Cond := .all [.less 0 (-1), .less (-1) 1]
def rWait : List (List Case) := [[⟨.empty 0, [-1, -2], [], 0⟩, ⟨cUp, [0, -1], [], 1⟩, ⟨.tt, [-1, -2], [], 0⟩]]
def sm5 : Machine := ⟨1, 2, [rWait, [[⟨cBetween, [0, -1], [(0, -1)], 1⟩, ⟨.less (-1) 0, [-1, 1], [], 1⟩]]]⟩
section
variable {P : Program} {w : World} {K : PySem.W.Frag} {mg : Str → Option Value} {base : Heap} {f : Addr} {fd : FuncData}
def G_shaped : Gs := fun rs μ P => ∃ da : Addr, rs = [.loc da] ∧ DrawSt μ da ∧ ∀ μ' m, MBut da μ μ' → DrawSt μ' da → m.tags = 1 → m.regs ≤ 2 → m.steps.length ≤ 2 → MD 1 4 m → P μ' (.dat (encM m))
theorem sc_shaped : FnScope ["_law_draws_here", "_law_up", "_law_kind", "_law_top", "_law_low", "_law_first", "_law_second", "_law_between", "_law_wait"] ["_law_draws_here"] (defScope s__law_shaped_machine) := ⟨rfl, rfl, rfl, by decide +kernel, rfl, by decide +kernel, by decide +kernel⟩
theorem ok_shaped (F : FD K "_law_shaped_machine" "_law_shaped_machine" s__law_shaped_machine f fd) (ct : Fn P w K mg base 1 "_law_take" G_take) : FnOk P w K mg base C8.CX0 2 f fd ["_law_draws_here"] (spOf P w K G_shaped) := by
  refine ok_of F sc_shaped (fun rs μ Po ⟨_, e, _⟩ => by rw [e]; rfl) fun cdv A outer s0 H E rs μ Po hr ⟨da, e, hda, hP⟩ => ?_
  subst e
  refine' w_cons <| w_set (i := 1) sc_shaped.nd <| e_lit gok_nil 9 _ (encC cUp) rfl _ _ ?_
  show WS _ [_, _, _, _, _, _, _, _, _] _ _ _
  refine' w_cons <| w_set (i := 2) sc_shaped.nd <| e_take (i := 0) ct hr rfl ?_ (by omega)
  refine e_int ⟨6, rfl, hda, by omega, fun μ1 kind m1 d1 hk => ?_⟩
  have hP1 : ∀ m, mdB 4 m = true → m.tags = 1 → m.regs ≤ 2 → m.steps.length ≤ 2 → Po μ1 (.dat (encM m)) := fun m h a b c => hP μ1 m m1 d1 a b c (mdB_ok h)
  show WS _ [_, _, _, _, _, _, _, _, _] _ _ _
  refine' w_cons <| w_if <| t_eqI <| e_var (i := 2) rfl <| e_int ⟨_, _, rfl, rfl, fun _ => ?_, fun _ => w_nil ?_⟩
  · refine' w_one <| w_ret <| e_lit (g := gL [("_law_up", encC cUp)]) (gok_cons (fun _ _ _ h => e_var (i := 1) rfl h) gok_nil) 19 _ (encM sm0) rfl _ _ ?_
    exact hP1 sm0 rfl rfl (by decide) (by decide)
  refine' w_cons <| w_if <| t_eqI <| e_var (i := 2) rfl <| e_int ⟨_, _, rfl, rfl, fun _ => ?_, fun _ => w_nil ?_⟩
  · refine' w_cons <| w_set (i := 3) sc_shaped.nd <| e_lit gok_nil 19 _ (encK kTop) rfl _ _ ?_
    show WS _ [_, _, _, _, _, _, _, _, _] _ _ _
    refine' w_cons <| w_set (i := 4) sc_shaped.nd <| e_lit gok_nil 19 _ (encK kLow) rfl _ _ ?_
    show WS _ [_, _, _, _, _, _, _, _, _] _ _ _
    refine' w_one <| w_ret <| e_lit (g := gL [("_law_top", encK kTop), ("_law_low", encK kLow)]) (gok_cons (fun _ _ _ h => e_var (i := 3) rfl h) (gok_cons (fun _ _ _ h => e_var (i := 4) rfl h) gok_nil)) 19 _ (encM sm1) rfl _ _ ?_
    exact hP1 sm1 rfl rfl (by decide) (by decide)
  refine' w_cons <| w_if <| t_eqI <| e_var (i := 2) rfl <| e_int ⟨_, _, rfl, rfl, fun _ => ?_, fun _ => w_nil ?_⟩
  · refine' w_cons <| w_set (i := 5) sc_shaped.nd <| e_lit gok_nil 19 _ (encK kFirst2) rfl _ _ ?_
    show WS _ [_, _, _, _, _, _, _, _, _] _ _ _
    refine' w_one <| w_ret <| e_lit (g := gL [("_law_first", encK kFirst2)]) (gok_cons (fun _ _ _ h => e_var (i := 5) rfl h) gok_nil) 19 _ (encM sm2) rfl _ _ ?_
    exact hP1 sm2 rfl rfl (by decide) (by decide)
  refine' w_cons <| w_if <| t_eqI <| e_var (i := 2) rfl <| e_int ⟨_, _, rfl, rfl, fun _ => ?_, fun _ => w_nil ?_⟩
  · refine' w_cons <| w_set (i := 5) sc_shaped.nd <| e_lit gok_nil 19 _ (encK kFirst3) rfl _ _ ?_
    show WS _ [_, _, _, _, _, _, _, _, _] _ _ _
    refine' w_cons <| w_set (i := 6) sc_shaped.nd <| e_lit gok_nil 19 _ (encK kSecond3) rfl _ _ ?_
    show WS _ [_, _, _, _, _, _, _, _, _] _ _ _
    refine' w_one <| w_ret <| e_lit (g := gL [("_law_up", encC cUp), ("_law_first", encK kFirst3), ("_law_second", encK kSecond3)]) (gok_cons (fun _ _ _ h => e_var (i := 1) rfl h) (gok_cons (fun _ _ _ h => e_var (i := 5) rfl h) (gok_cons (fun _ _ _ h => e_var (i := 6) rfl h) gok_nil))) 19 _ (encM sm3) rfl _ _ ?_
    exact hP1 sm3 rfl rfl (by decide) (by decide)
  refine' w_cons <| w_if <| t_eqI <| e_var (i := 2) rfl <| e_int ⟨_, _, rfl, rfl, fun _ => ?_, fun _ => w_nil ?_⟩
  · refine' w_one <| w_ret <| e_lit gok_nil 19 _ (encM sm4) rfl _ _ ?_
    exact hP1 sm4 rfl rfl (by decide) (by decide)
  refine' w_cons <| w_set (i := 7) sc_shaped.nd <| e_lit gok_nil 19 _ (encC cBetween) rfl _ _ ?_
  show WS _ [_, _, _, _, _, _, _, _, _] _ _ _
  refine' w_cons <| w_set (i := 8) sc_shaped.nd <| e_lit (g := gL [("_law_up", encC cUp)]) (gok_cons (fun _ _ _ h => e_var (i := 1) rfl h) gok_nil) 19 _ (encRows rWait) rfl _ _ ?_
  show WS _ [_, _, _, _, _, _, _, _, _] _ _ _
  refine' w_one <| w_ret <| e_lit (g := gL [("_law_between", encC cBetween), ("_law_wait", encRows rWait)]) (gok_cons (fun _ _ _ h => e_var (i := 7) rfl h) (gok_cons (fun _ _ _ h => e_var (i := 8) rfl h) gok_nil)) 19 _ (encM sm5) rfl _ _ ?_
  exact hP1 sm5 rfl rfl (by decide) (by decide)
end
end AV
-- text W31
set_option Elab.async false
set_option linter.all false
set_option maxRecDepth 100000
set_option maxHeartbeats 4000000
namespace AV
local macro_rules | `(tactic| refine' $a <| $b) => `(tactic| (refine $a ?_; refine' $b)) | `(tactic| refine' $a) => `(tactic| refine $a)
open PySem L2 TH
def encZ (p : Nat × Nat) : PyData := .tuple [.int p.1, .int p.2]
theorem at_Z {zs : List (Nat × Nat)} {k : Nat} (h : k < zs.length) : ∃ p ∈ zs, atI (zs.map fun p => SV.dat (encZ p)) (k : Int) = some (SV.dat (encZ p)) := ⟨zs[k], List.getElem_mem h, at_map (List.getElem?_eq_getElem h)⟩
section
variable {P : Program} {w : World} {K : PySem.W.Frag} {mg : Str → Option Value} {base : Heap} {f : Addr} {fd : FuncData}
def G_machine : Gs := fun rs μ P => ∃ da : Addr, rs = [.loc da] ∧ DrawSt μ da ∧ ∀ μ' m, MBut da μ μ' → DrawSt μ' da → m.tags ≤ 6 → m.regs ≤ 2 → m.steps.length ≤ 3 → MD 1 6 m → P μ' (.dat (encM m))
theorem sc_machine : FnScope ["_law_draws_here", "_law_size", "_law_tags", "_law_machine_here", "_law_k"] ["_law_draws_here"] (defScope s__law_machine) := ⟨rfl, rfl, rfl, by decide +kernel, rfl, by decide +kernel, by decide +kernel⟩
theorem ok_machine (F : FD K "_law_machine" "_law_machine" s__law_machine f fd) (M : Md mg) (ct : Fn P w K mg base 1 "_law_take" G_take) (cd : Fn P w K mg base 5 "_law_drawn_machine" G_drawn_machine) (cs : Fn P w K mg base 2 "_law_shaped_machine" G_shaped) (cc : Fn P w K mg base 5 "_law_changed" G_changed) (cg : Fn P w K mg base 5 "_law_with_tag" G_with_tag) : FnOk P w K mg base C8.CX0 6 f fd ["_law_draws_here"] (spOf P w K G_machine) := by
  refine ok_of F sc_machine (fun rs μ Po ⟨_, e, _⟩ => by rw [e]; rfl) fun cdv A outer s0 H E rs μ Po hr ⟨da, e, hda, hP⟩ => ?_
  subst e
  refine' w_cons <| w_if <| t_eqI <| e_take (i := 0) ct hr rfl ?_ (by omega)
  refine e_int ⟨10, rfl, hda, by omega, fun μ1 k1 m1 d1 hk1 => e_int ⟨_, _, rfl, rfl, fun _ => ?_, fun _ => w_nil ?_⟩⟩
  · refine' w_cons <| w_set (i := 1) sc_machine.nd <| e_ixL <| e_lst <| a_cons <| e_lit gok_nil 9 _ (encZ (0, 2)) rfl _ _ <| a_cons <| e_lit gok_nil 9 _ (encZ (0, 3)) rfl _ _ <| a_cons <| e_lit gok_nil 9 _ (encZ (1, 1)) rfl _ _ <| a_cons <| e_lit gok_nil 9 _ (encZ (1, 1)) rfl _ _ <| a_nil ⟨sz, fun l hl => ?_⟩
    have ld := d1.ne hl
    have lμ := m1.back ld hl
    refine' e_take (i := 0) ct hr rfl ?_ (by omega)
    refine e_int ⟨4, rfl, d1.upd ld, by omega, fun μ2 k2 m2 d2 hk2 => ?_⟩
    obtain ⟨p, hp, hat⟩ := at_Z (zs := [(0, 2), (0, 3), (1, 1), (1, 1)]) (k := k2) (by simp; omega)
    refine ⟨l, _, _, _, rfl, rfl, .inl (m2 _ _ ld updM_same), hat, ?_⟩
    have hpz : p.1 ≤ 2 ∧ 1 ≤ p.2 ∧ p.2 ≤ 3 := (show ∀ p ∈ [((0 : Nat), 2), (0, 3), (1, 1), (1, 1)], p.1 ≤ 2 ∧ 1 ≤ p.2 ∧ p.2 ≤ 3 by decide) p hp
    have m02 := (m1.newc hl).trans m2
    show WS _ [_, _, _, _, _] _ _ _
    refine' w_one <| w_ret <| e_call cd hr ?_ (by omega)
    refine' a_cons <| e_var (i := 0) rfl <| a_cons <| e_add <| e_int <| e_take (i := 0) ct hr rfl ?_ (by omega)
    refine e_int ⟨4, rfl, d2, by omega, fun μ3 k3 m3 d3 hk3 => ⟨_, _, rfl, rfl, ?_⟩⟩
    refine' a_cons <| e_ixK <| e_var (i := 1) rfl ⟨_, .int p.1, rfl, rfl, ?_⟩
    refine' a_cons <| e_ixK <| e_var (i := 1) rfl ⟨_, .int p.2, rfl, rfl, ?_⟩
    refine a_nil ⟨da, 3 + k3, p.1, p.2, by rw [show (3 : Int) + (k3 : Int) = ((3 + k3 : Nat) : Int) by omega], d3, by omega, by omega, by omega, by omega, by omega, fun μ4 m m4 d4 e1 e2 e3 om => ?_⟩
    exact hP μ4 m ((m02.trans m3).trans m4) d4 (by omega) (by omega) (by omega) (om.mono (by omega))
  show WS _ [_, _, _, _, _] _ _ _
  refine' w_cons <| w_if <| t_eqI <| e_take (i := 0) ct hr rfl ?_ (by omega)
  refine e_int ⟨3, rfl, d1, by omega, fun μ2 k2 m2 d2 hk2 => e_int ⟨_, _, rfl, rfl, fun _ => ?_, fun _ => w_nil ?_⟩⟩
  · refine' w_cons <| w_set (i := 1) sc_machine.nd <| e_ixL <| e_lst <| a_cons <| e_lit gok_nil 9 _ (encZ (0, 2)) rfl _ _ <| a_cons <| e_lit gok_nil 9 _ (encZ (1, 1)) rfl _ _ <| a_cons <| e_lit gok_nil 9 _ (encZ (1, 2)) rfl _ _ <| a_cons <| e_lit gok_nil 9 _ (encZ (1, 3)) rfl _ _ <| a_cons <| e_lit gok_nil 9 _ (encZ (2, 1)) rfl _ _ <| a_cons <| e_lit gok_nil 9 _ (encZ (2, 1)) rfl _ _ <| a_cons <| e_lit gok_nil 9 _ (encZ (2, 1)) rfl _ _ <| a_nil ⟨sz, fun l hl => ?_⟩
    have ld := d2.ne hl
    refine' e_take (i := 0) ct hr rfl ?_ (by omega)
    refine e_int ⟨7, rfl, d2.upd ld, by omega, fun μ3 k3 m3 d3 hk3 => ?_⟩
    obtain ⟨p, hp, hat⟩ := at_Z (zs := [(0, 2), (1, 1), (1, 2), (1, 3), (2, 1), (2, 1), (2, 1)]) (k := k3) (by simp; omega)
    refine ⟨l, _, _, _, rfl, rfl, .inl (m3 _ _ ld updM_same), hat, ?_⟩
    have hpz : p.1 ≤ 2 ∧ 1 ≤ p.2 ∧ p.2 ≤ 3 := (show ∀ p ∈ [((0 : Nat), 2), (1, 1), (1, 2), (1, 3), (2, 1), (2, 1), (2, 1)], p.1 ≤ 2 ∧ 1 ≤ p.2 ∧ p.2 ≤ 3 by decide) p hp
    have m03 := ((m1.trans m2).newc hl).trans m3
    show WS _ [_, _, _, _, _] _ _ _
    refine' w_cons <| w_set (i := 2) sc_machine.nd <| e_int ?_
    show WS _ [_, _, _, _, _] _ _ _
    refine w_cons <| W1.mid (Q := fun ρ' μ' => ∃ T : Nat, 1 ≤ T ∧ T ≤ 2 ∧ MBut da μ μ' ∧ DrawSt μ' da ∧ ρ' = [some (.loc da), some (.dat (encZ p)), some (.int T), none, none]) ?_ ?_
    · refine' w_if <| t_lt <| e_ixK <| e_var (i := 1) rfl ⟨_, .int p.1, rfl, rfl, ?_⟩
      refine e_int ⟨_, _, rfl, rfl, fun _ => ?_, fun _ => w_nil ⟨1, by omega, by omega, m03, d3, rfl⟩⟩
      refine' w_one <| w_set (i := 2) sc_machine.nd <| e_add <| e_int <| e_fdiv <| e_take (i := 0) ct hr rfl ?_ (by omega)
      refine e_int ⟨4, rfl, d3, by omega, fun μ4 k4 m4 d4 hk4 => e_int ⟨_, 3, rfl, rfl, ⟨by omega, by omega⟩, _, _, rfl, rfl, ?_⟩⟩
      exact ⟨1 + k4 / 3, by omega, by omega, m03.trans m4, d4, by rw [show (1 : Int) + (k4 : Int) / 3 = ((1 + k4 / 3 : Nat) : Int) by omega]; rfl⟩
    rintro ρ' μ4 ⟨T, hT1, hT2, m4, d4, rfl⟩
    show WS _ [_, _, _, _, _] _ _ _
    refine' w_one <| w_ret <| e_call cd hr ?_ (by omega)
    refine' a_cons <| e_var (i := 0) rfl <| a_cons <| e_var (i := 2) rfl <| a_cons <| e_ixK <| e_var (i := 1) rfl ⟨_, .int p.1, rfl, rfl, ?_⟩
    refine' a_cons <| e_ixK <| e_var (i := 1) rfl ⟨_, .int p.2, rfl, rfl, ?_⟩
    refine a_nil ⟨da, T, p.1, p.2, rfl, d4, by omega, by omega, by omega, by omega, by omega, fun μ5 m m5 d5 e1 e2 e3 om => ?_⟩
    exact hP μ5 m (m4.trans m5) d5 (by omega) (by omega) (by omega) (om.mono (by omega))
  show WS _ [_, _, _, _, _] _ _ _
  refine' w_cons <| w_set (i := 3) sc_machine.nd <| e_call cs hr ?_ (by omega)
  refine' a_cons <| e_var (i := 0) rfl <| a_nil ⟨da, rfl, d2, fun μ3 m m3 d3 t1 r1 s1 om => ?_⟩
  show WS _ [_, _, _, _, _] _ _ _
  refine' w_cons <| w_for (g := gN 4) (sl := [4]) PassesOwn.never rfl (g_name sc_machine.nd) <| i_range M.range <| e_take (i := 0) ct hr rfl ?_ (by omega)
  refine e_int ⟨3, rfl, d3, by omega, fun μ4 k4 m4 d4 hk4 => ⟨(k4 : Int), rfl, by omega, by omega, ?_⟩⟩
  refine ⟨fun i ρ μ' => ∃ (m : Machine) (a4 : Option SV), MBut da μ μ' ∧ DrawSt μ' da ∧ m.tags = 1 ∧ m.regs ≤ 2 ∧ m.steps.length ≤ 2 ∧ MD 1 (4 + i) m ∧ ρ = [some (.loc da), none, none, some (.dat (encM m)), a4],
    ⟨m, _, ((m1.trans m2).trans m3).trans m4, d4, t1, r1, s1, om, rfl⟩, fun _ _ _ _ _ => trivial, ?_, ?_⟩
  · rintro i x ρ1 μ5 hi rfl ⟨m, a4, m5, d5, t1, r1, s1, om, rfl⟩
    show WS _ [_, _, _, _, _] _ _ _
    refine' w_one <| w_set (i := 3) sc_machine.nd <| e_call cc hr ?_ (by omega)
    refine' a_cons <| e_var (i := 0) rfl <| a_cons <| e_var (i := 3) rfl <| a_nil ⟨da, m, 1, 4 + i, rfl, d5, om, by omega, by omega, fun μ6 m' m6 d6 e1 e2 e3 om' => ?_⟩
    exact ⟨m', _, m5.trans m6, d6, by omega, by omega, by omega, om', rfl⟩
  rintro ρ1 μ5 ⟨m, a4, m5, d5, t1, r1, s1, om, rfl⟩
  have om : MD 1 6 m := om.mono (by omega)
  show WS _ [_, _, _, _, _] _ _ _
  refine w_cons <| W1.mid (Q := fun ρ' μ' => ∃ m : Machine, MBut da μ μ' ∧ DrawSt μ' da ∧ m.tags ≤ 2 ∧ m.regs ≤ 2 ∧ m.steps.length ≤ 2 ∧ MD 1 6 m ∧ ρ' = [some (.loc da), none, none, some (.dat (encM m)), a4]) ?_ ?_
  · refine' w_if <| t_eqI <| e_take (i := 0) ct hr rfl ?_ (by omega)
    refine e_int ⟨8, rfl, d5, by omega, fun μ6 k6 m6 d6 hk6 => e_int ⟨_, _, rfl, rfl, fun _ => ?_, fun _ => w_nil ⟨m, m5.trans m6, d6, by omega, r1, s1, om, rfl⟩⟩⟩
    refine' w_one <| w_set (i := 3) sc_machine.nd <| e_call cg hr ?_ (by omega)
    refine' a_cons <| e_var (i := 0) rfl <| a_cons <| e_var (i := 3) rfl <| a_nil ⟨da, m, 1, 6, rfl, d6, om, by omega, by omega, by omega, fun μ7 m' m7 d7 e1 e2 e3 om' => ?_⟩
    exact ⟨m', (m5.trans m6).trans m7, d7, by omega, by omega, by omega, om', rfl⟩
  rintro ρ' μ6 ⟨m, m6, d6, t6, r6, s6, om6, rfl⟩
  exact w_one <| w_ret <| e_var (i := 3) rfl (hP μ6 m m6 d6 (by omega) r6 (by omega) om6)
end
end AV
-- text W32
set_option Elab.async false
set_option linter.all false
set_option maxRecDepth 100000
set_option maxHeartbeats 4000000
namespace AV
local macro_rules | `(tactic| refine' $a <| $b) => `(tactic| (refine $a ?_; refine' $b)) | `(tactic| refine' $a) => `(tactic| refine $a)
open PySem L2 TH
theorem CaseD.le {D D' n st : Nat} {k : Case} (h : CaseD D n st k) (l : D ≤ D') : CaseD D' n st k := ⟨h.cond.le l, h.moves, h.srcs, h.says, h.few, h.next⟩
theorem MD.up {D D' L L' : Nat} {m : Machine} (h : MD D L m) (l : D ≤ D') (l2 : L ≤ L') : MD D' L' m := ⟨h.tags, h.regs, h.steps, h.rows, fun r hr w hw => Nat.le_trans (h.row r hr w hw) l2, fun r hr w hw k hk => (h.case r hr w hw k hk).le l⟩
def condK (k : Case) (c : Cond) : Case := ⟨c, k.moves, k.says, k.next⟩
theorem cut1 (k : Case) (c : Cond) : [encC c] ++ cutD (partsK k) (some 1) none = partsK (condK k c) := by
  have := cut_drop (partsK k) 1
  rw [show (some (1 : Int)) = some ((1 : Nat) : Int) from rfl, this]; rfl
theorem plOk_mixed {R : Nat} {ps : List Int} (h : ps.Perm ((List.range R).map fun i : Nat => (i : Int))) : PlOk R R ps := by
  refine ⟨by have := h.length_eq; rwa [List.length_map, List.length_range] at this, fun z hz => ?_⟩
  obtain ⟨i, hi, rfl⟩ := List.mem_map.mp (h.mem_iff.mp hz)
  have := List.mem_range.mp hi
  exact ⟨by omega, by omega⟩
theorem plOk_range (R : Nat) : PlOk R (R + 1) ((List.range R).map fun i : Nat => (i : Int)) := by
  refine ⟨by rw [List.length_map, List.length_range], fun z hz => ?_⟩
  obtain ⟨i, hi, rfl⟩ := List.mem_map.mp hz
  have := List.mem_range.mp hi
  exact ⟨by omega, by omega⟩
section
variable {P : Program} {w : World} {K : PySem.W.Frag} {mg : Str → Option Value} {base : Heap} {f : Addr} {fd : FuncData}
def G_rewritten : Gs := fun rs μ P => ∃ (da : Addr) (m : Machine) (D L : Nat), rs = [.loc da, .dat (encM m)] ∧ DrawSt μ da ∧ MD D L m ∧ 1 ≤ D ∧ D ≤ 6 ∧ L ≤ 800 ∧ m.steps.length ≤ 19 ∧ m.regs ≤ 19 ∧
  ∀ μ' m', MBut da μ μ' → DrawSt μ' da → m'.tags = m.tags → ((m'.regs = m.regs ∧ m'.steps.length ≤ m.steps.length + 1) ∨ (m'.regs = m.regs + 1 ∧ m'.steps.length = m.steps.length ∧ (m.regs < 2 ∨ m.regs + m.steps.length ≤ 3))) → MD (D + 2) (L + 1) m' → P μ' (.dat (encM m'))
theorem sc_rewritten : FnScope ["_law_draws_here", "_law_machine_here", "_law_kind", "_law_source", "_law_extra", "_law_standing", "_law_tag", "_law_cases", "_law_at_here", "_law_never"] ["_law_draws_here", "_law_machine_here"] (defScope s__law_rewritten) := ⟨rfl, rfl, rfl, by decide +kernel, rfl, by decide +kernel, by decide +kernel⟩
theorem ok_rewritten (F : FD K "_law_rewritten" "_law_rewritten" s__law_rewritten f fd) (M : Md mg) (ct : Fn P w K mg base 1 "_law_take" G_take) (cx : Fn P w K mg base 2 "_law_mixed" G_mixed) (cm : Fn P w K mg base 11 "_law_mapped" G_mapped) (cdb : Fn P w K mg base 2 "_law_doubled" G_doubled) (crn : Fn P w K mg base 3 "_law_renumbered" G_renumbered)
    (cc : Fn P w K mg base 4 "_law_condition" (G_condition 2)) (cd : Fn P w K mg base 2 "_law_drawn_case" G_drawn_case) (co : Fn P w K mg base 2 "_law_other_words" G_other_words) (cw : Fn P w K mg base 1 "_law_with_case" G_with_case) : FnOk P w K mg base C8.CX0 12 f fd ["_law_draws_here", "_law_machine_here"] (spOf P w K G_rewritten) := by
  refine ok_of F sc_rewritten (fun rs μ Po ⟨_, _, _, _, e, _⟩ => by rw [e]; rfl) fun cdv A outer s0 H E rs μ Po hr ⟨da, m, D, L, e, hda, om, hD1, hD, hL, hS, hRg, hP⟩ => ?_
  subst e
  have ht := om.tags
  have hst := om.steps
  have hR := om.regs
  refine' w_cons <| w_set (i := 2) sc_rewritten.nd <| e_take (i := 0) ct hr rfl ?_ (by omega)
  refine e_int ⟨6, rfl, hda, by omega, fun μ1 kind m1 d1 hkind => ?_⟩
  show WS _ [_, _, _, _, _, _, _, _, _, _] _ _ _
  refine' w_cons <| w_if <| t_eqI <| e_var (i := 2) rfl <| e_int ⟨_, _, rfl, rfl, fun _ => ?_, fun _ => w_nil ?_⟩
  · refine' w_one <| w_ret <| e_call cm hr ?_ (by omega)
    refine' a_cons <| e_var (i := 1) rfl <| a_cons <| e_call cx hr ?_ (by omega)
    refine' a_cons <| e_var (i := 0) rfl <| a_cons <| e_ixK <| e_var (i := 1) rfl ⟨_, .int m.regs, rfl, rfl, ?_⟩
    refine a_nil ⟨da, m.regs, rfl, d1, by omega, fun μ2 q ps m2 d2 hq0 hq hp => ?_⟩
    refine' a_cons <| e_ixK <| e_var (i := 1) rfl ⟨_, .int m.regs, rfl, rfl, ?_⟩
    refine' a_cons <| e_lst <| a_nil ⟨sz, fun ea hea => ?_⟩
    have qe : ea ≠ q := neA hq hea
    refine a_nil ⟨m, q, ea, ps, m.regs, [], D, L, rfl, .inl (by rw [updM_ne (Ne.symm qe)]; exact hq), .inl updM_same, plOk_mixed hp, by simp, by simp, om, by omega, by omega, by omega, fun μ3 m' m3 e1 e2 e3 om' => ?_⟩
    exact hP μ3 m' (((m1.trans m2).newc hea).trans m3.but) ((d2.upd (d2.ne hea)).sub m3) e1 (.inl ⟨e2, by omega⟩) (om'.up (by omega) (by omega))
  refine w_cons <| w_if <| WT.imp (T := fun μ' b => MBut da μ μ' ∧ DrawSt μ' da ∧ (b = true → m.regs < 2 ∨ m.regs + m.steps.length ≤ 3)) ?_ fun μ2 b ⟨m2, d2, hb⟩ => ⟨fun hbt => ?_, fun _ => w_nil ?_⟩
  · refine' t_w <| t_and <| t_eqI <| e_var (i := 2) rfl <| e_int ⟨_, _, rfl, rfl, fun _ => ?_, fun _ => ⟨m1, d1, fun z => ff z⟩⟩
    refine' t_and1 <| t_w <| t_or <| t_lt <| e_ixK <| e_var (i := 1) rfl ⟨_, .int m.regs, rfl, rfl, ?_⟩
    refine e_int ⟨_, _, rfl, rfl, fun _ => ?_, fun h => ⟨m1, d1, fun _ => .inl (by have := of_decide_eq_true h; omega)⟩⟩
    refine' t_or1 <| t_eqI <| e_add <| e_add <| e_ixK <| e_var (i := 1) rfl ⟨_, .int m.regs, rfl, rfl, ?_⟩
    refine' e_len M.len <| e_ixK <| e_var (i := 1) rfl ⟨_, .tuple (m.steps.map encRows), rfl, rfl, .inl ⟨_, rfl, _, _, rfl, rfl, ?_⟩⟩
    rw [List.length_map]
    refine e_take (i := 0) ct hr rfl ?_ (by omega)
    refine e_int ⟨3, rfl, d1, by omega, fun μ2 k2 m2 d2 hk2 => ⟨_, _, rfl, rfl, e_int ⟨_, _, rfl, rfl, m1.trans m2, d2, fun h => .inr ?_⟩⟩⟩
    have := of_decide_eq_true h
    omega
  · have hreg := hb hbt
    refine' w_cons <| w_set (i := 3) sc_rewritten.nd <| e_catL <| e_lst <| a_cons <| e_neg <| e_int ⟨_, rfl, a_nil ⟨sz, fun l1 hl1 => ?_⟩⟩
    refine' e_repL <| e_listRg rfl M.list M.range <| e_ixK <| e_var (i := 1) rfl ⟨_, .int m.regs, rfl, rfl, m.regs, rfl, by omega, fun l2 hl2 => ?_⟩
    refine' e_int1 M.int <| e_lt <| e_ixK <| e_var (i := 1) rfl ⟨_, .int m.regs, rfl, rfl, ?_⟩
    refine e_int ⟨_, _, rfl, rfl, .inr ⟨_, rfl, ?_⟩⟩
    refine ⟨l2, (if decide ((m.regs : Int) < 2) = true then 1 else 0), (List.range m.regs).map fun i : Nat => SV.int (i : Int), rfl, rfl, updM_same, by split <;> omega, by split <;> omega, ?_, fun l3 hl3 => ?_⟩
    · rw [List.length_map, List.length_range, sizeLine_eq]
      split
      · simp; omega
      · simp
    obtain ⟨zs, ez, hz⟩ : ∃ zs : List Int, (List.replicate (if decide ((m.regs : Int) < 2) = true then (1 : Int) else 0).toNat ((List.range m.regs).map fun i : Nat => SV.int (i : Int))).flatten = zs.map SV.int ∧ zs.length ≤ 20 ∧ ∀ z ∈ zs, SrcOk (m.regs + 1) z := by
      by_cases h : (m.regs : Int) < 2
      · refine ⟨(List.range m.regs).map fun i : Nat => (i : Int), ?_, by rw [List.length_map, List.length_range]; omega, fun z hz => ?_⟩
        · rw [decide_eq_true h, if_pos rfl, show ((1 : Int)).toNat = 1 from rfl, List.replicate_one, List.flatten_singleton, List.map_map]; rfl
        · obtain ⟨i, hi, rfl⟩ := List.mem_map.mp hz
          have := List.mem_range.mp hi
          exact .inr (.inr ⟨by omega, by omega⟩)
      · refine ⟨[], ?_, by simp, by simp⟩
        rw [decide_eq_false h, if_neg (by simp)]; rfl
    rw [ez]
    have l12 : l2 ≠ l1 := neA updM_same hl2
    have up1 := MSub.upd (c := .lst [SV.int (-1)]) hl1
    have up2 := MSub.upd (c := .lst ((List.range m.regs).map fun i : Nat => SV.int (i : Int))) hl2
    have up3 := MSub.upd (c := .lst (zs.map SV.int)) hl3
    have x1 := up3 _ _ (up2 _ _ (updM_same (μ := μ2) (a := l1) (c := .lst [SV.int (-1)])))
    refine ⟨l1, l3, [SV.int (-1)], zs.map SV.int, rfl, rfl, x1, updM_same, by rw [List.length_map, sizeLine_eq, List.length_singleton]; omega, fun sl hsl => ?_⟩
    have es : [SV.int (-1)] ++ zs.map SV.int = ((-1) :: zs).map SV.int := rfl
    rw [es]
    have oks : ∀ z ∈ (-1) :: zs, SrcOk (m.regs + 1) z := fun z hz' => by
      rcases List.mem_cons.mp hz' with h | h
      · rw [h]; exact .inl rfl
      · exact hz.2 z h
    have lss : 1 ≤ ((-1) :: zs).length ∧ ((-1) :: zs).length ≤ 21 := by rw [List.length_cons]; omega
    generalize ((-1) :: zs) = src at *
    have up4 := MSub.upd (c := .lst (src.map SV.int)) hsl
    have m4 := m2.trans (((up1.trans up2).trans up3).trans up4).but
    have d4 := d2.sub (((up1.trans up2).trans up3).trans up4)
    have s4 := updM_same (μ := (updM (updM (updM μ2 l1 (.lst [SV.int (-1)])) l2 (.lst ((List.range m.regs).map fun i : Nat => SV.int (i : Int)))) l3 (.lst (zs.map SV.int)))) (a := sl) (c := .lst (src.map SV.int))
    have sld := (d2.sub ((up1.trans up2).trans up3)).ne hsl
    generalize (updM (updM (updM (updM μ2 l1 (.lst [SV.int (-1)])) l2 (.lst ((List.range m.regs).map fun i : Nat => SV.int (i : Int)))) l3 (.lst (zs.map SV.int))) sl (.lst (src.map SV.int))) = μ4 at *
    show WS _ [_, _, _, _, _, _, _, _, _, _] _ _ _
    refine' w_cons <| w_set (i := 4) sc_rewritten.nd <| e_lst <| a_cons <| e_tup <| a_cons <| e_ixK <| e_var (i := 1) rfl ⟨_, .int m.regs, rfl, rfl, ?_⟩
    refine' a_cons <| e_ixL <| e_var (i := 3) rfl <| e_take (i := 0) ct hr rfl ?_ (by omega)
    refine' e_len M.len <| e_var (i := 3) rfl <| .inr ⟨sl, _, rfl, .inl s4, _, rfl, d4, by rw [List.length_map]; omega, fun μ5 k5 m5 d5 hk5 => ?_⟩
    rw [List.length_map] at hk5
    obtain ⟨z, hz', hzz⟩ := at_ints (zs := src) (k := k5) (by omega)
    refine ⟨sl, _, _, _, rfl, rfl, .inl (m5 _ _ sld s4), hzz, ?_⟩
    refine a_nil ⟨[_, _], rfl, sz, a_nil ⟨sz, fun ea hea => ?_⟩⟩
    have m6 := ((m4.trans m5).newc (c := .lst [SV.tup [.int m.regs, .int z]]) hea)
    have d6 := d5.upd (c := .lst [SV.tup [.int m.regs, .int z]]) (d5.ne hea)
    have e6 := updM_same (μ := μ5) (a := ea) (c := .lst [SV.tup [.int m.regs, .int z]])
    generalize updM μ5 ea (.lst [SV.tup [.int m.regs, .int z]]) = μ6 at *
    show WS _ [_, _, _, _, _, _, _, _, _, _] _ _ _
    refine' w_one <| w_ret <| e_call cm hr ?_ (by omega)
    refine' a_cons <| e_var (i := 1) rfl <| a_cons <| e_listRg rfl M.list M.range <| e_ixK <| e_var (i := 1) rfl ⟨_, .int m.regs, rfl, rfl, m.regs, rfl, by omega, fun pa hpa => ?_⟩
    refine' a_cons <| e_add <| e_ixK <| e_var (i := 1) rfl ⟨_, .int m.regs, rfl, rfl, ?_⟩
    refine e_int ⟨_, _, rfl, rfl, ?_⟩
    refine' a_cons <| e_var (i := 4) rfl ?_
    refine a_nil ⟨m, pa, ea, (List.range m.regs).map fun i : Nat => (i : Int), m.regs + 1, [((m.regs : Int), z)], D, L, rfl, .inl (by rw [updM_same, List.map_map]; rfl), .inl ((MSub.upd hpa) _ _ e6), plOk_range _, ?_, by simp, om, by omega, by omega, by omega, fun μ7 m' m7 e1 e2 e3 om' => ?_⟩
    · intro e he
      rw [List.mem_singleton.mp he]
      exact ⟨by omega, by show (m.regs : Int) < ((m.regs + 1 : Nat) : Int); omega, oks z hz'⟩
    exact hP μ7 m' ((m6.newc hpa).trans m7.but) ((d6.upd (d6.ne hpa)).sub m7) e1 (.inr ⟨e2, e3, hreg⟩) (om'.up (by omega) (by omega))
  show WS _ [_, _, _, _, _, _, _, _, _, _] _ _ _
  refine' w_cons <| w_if <| t_eqI <| e_var (i := 2) rfl <| e_int ⟨_, _, rfl, rfl, fun _ => ?_, fun _ => w_nil ?_⟩
  · refine' w_one <| w_ret <| e_call cdb hr ?_ (by omega)
    refine' a_cons <| e_var (i := 0) rfl <| a_cons <| e_var (i := 1) rfl ?_
    exact a_nil ⟨da, m, D, L, rfl, d2, om, by omega, hS, fun μ3 m' m3 d3 e1 e2 e3 om' => hP μ3 m' (m2.trans m3) d3 e1 (.inl ⟨e2, by omega⟩) (om'.up (by omega) (by omega))⟩
  refine' w_cons <| w_if <| t_eqI <| e_var (i := 2) rfl <| e_int ⟨_, _, rfl, rfl, fun _ => ?_, fun _ => w_nil ?_⟩
  · refine' w_one <| w_ret <| e_call crn hr ?_ (by omega)
    refine' a_cons <| e_var (i := 0) rfl <| a_cons <| e_var (i := 1) rfl ?_
    exact a_nil ⟨da, m, D, L, rfl, d2, om, by omega, fun μ3 m' m3 d3 e1 e2 e3 om' => hP μ3 m' (m2.trans m3) d3 e1 (.inl ⟨e2, by omega⟩) (om'.up (by omega) (by omega))⟩
  refine' w_cons <| w_set (i := 5) sc_rewritten.nd <| e_take (i := 0) ct hr rfl ?_ (by omega)
  refine' e_len M.len <| e_ixK <| e_var (i := 1) rfl ⟨_, .tuple (m.steps.map encRows), rfl, rfl, .inl ⟨_, rfl, _, rfl, d2, by rw [List.length_map]; omega, fun μ3 s m3 d3 hs => ?_⟩⟩
  rw [List.length_map] at hs
  have hs : s < m.steps.length := by omega
  show WS _ [_, _, _, _, _, _, _, _, _, _] _ _ _
  refine' w_cons <| w_set (i := 6) sc_rewritten.nd <| e_take (i := 0) ct hr rfl ?_ (by omega)
  refine' e_ixK <| e_var (i := 1) rfl ⟨_, .int m.tags, rfl, rfl, _, rfl, d3, by omega, fun μ4 t m4 d4 htg => ?_⟩
  have htg : t < m.tags := by omega
  obtain ⟨rows, row, h1, h2, h3, h4, h5⟩ := om.at_ hs htg
  show WS _ [_, _, _, _, _, _, _, _, _, _] _ _ _
  refine' w_cons <| w_set (i := 7) sc_rewritten.nd <| e_list M.list <| e_ixV (n := t) (ds := rows.map encRow) (d := encRow row) (by rw [List.getElem?_map, h2]; rfl) <| e_ixV (n := s) (ds := m.steps.map encRows) (d := encRows rows) (by rw [List.getElem?_map, h1]; rfl) <| e_ixK <| e_var (i := 1) rfl ⟨_, .tuple (m.steps.map encRows), rfl, rfl, rfl, ?_⟩
  refine e_var (i := 5) rfl ⟨rfl, rfl, e_var (i := 6) rfl ⟨rfl, row.map fun k => .dat (encK k), .inr ⟨row.map encK, rfl, by rw [List.map_map]; rfl⟩, fun cl hcl => ?_⟩⟩
  have cld := d4.ne hcl
  have m14 := (m2.trans m3).trans m4
  have clμ := m14.back cld hcl
  have m5 := m14.newc (c := .lst (row.map fun k => .dat (encK k))) hcl
  have d5 := d4.upd (c := .lst (row.map fun k => .dat (encK k))) cld
  have h6 := updM_same (μ := μ4) (a := cl) (c := .lst (row.map fun k => .dat (encK k)))
  generalize updM μ4 cl (.lst (row.map fun k => .dat (encK k))) = μ5 at *
  show WS _ [_, _, _, _, _, _, _, _, _, _] _ _ _
  refine' w_cons <| w_set (i := 8) sc_rewritten.nd <| e_take (i := 0) ct hr rfl ?_ (by omega)
  refine' e_add <| e_len M.len <| e_var (i := 7) rfl <| .inr ⟨cl, _, rfl, .inl h6, ?_⟩
  refine e_int ⟨_, _, rfl, rfl, _, rfl, d5, by omega, fun μ6 at_ m6 d6 hat => ?_⟩
  rw [List.length_map] at hat
  have m06 := m5.trans m6
  have h7 := m6 _ _ cld h6
  show WS _ [_, _, _, _, _, _, _, _, _, _] _ _ _
  refine w_cons <| W1.mid (Q := fun ρ' μ' => ∃ (ks : List Case) (a9 : Option SV), MBut da μ μ' ∧ DrawSt μ' da ∧ μ' cl = some (.lst (ks.map fun k => .dat (encK k))) ∧ ks.length ≤ L + 1 ∧ (∀ k ∈ ks, CaseD (D + 2) m.regs m.steps.length k) ∧
    ρ' = [some (.loc da), some (.dat (encM m)), some (.int kind), none, none, some (.int s), some (.int t), some (.loc cl), some (.int at_), a9]) ?_ ?_
  · refine w_if <| WT.imp (T := fun μ' b => μ' = μ6 ∧ (b = false → at_ < row.length)) ?_ fun μ' b ⟨e, hb⟩ => ?_
    · refine' t_w <| t_or <| t_eqI <| e_var (i := 8) rfl <| e_len M.len <| e_var (i := 7) rfl <| .inr ⟨cl, _, rfl, .inl h7, _, _, rfl, rfl, fun h => ?_, fun _ => ⟨rfl, fun z => ft z⟩⟩
      refine' t_or1 <| t_eqI <| e_var (i := 2) rfl <| e_int ⟨_, _, rfl, rfl, rfl, fun _ => ?_⟩
      have h := of_decide_eq_false h
      rw [List.length_map] at h
      omega
    subst e
    have lrow : (row.map fun k => SV.dat (encK k)).length = row.length := List.length_map _
    refine ⟨fun _ => ?_, fun hf => ?_⟩
    · refine' w_cons <| w_set (i := 9) sc_rewritten.nd <| e_tup <| a_cons <| e_str <| a_cons <| e_tup <| a_cons <| e_lit gok_nil 9 _ (encC (.less (-1) (-1))) rfl _ _ <| a_cons <| e_call cc hr ?_ (by omega)
      refine' a_cons <| e_var (i := 0) rfl <| a_cons <| e_ixK <| e_var (i := 1) rfl ⟨_, .int m.regs, rfl, rfl, ?_⟩
      refine' a_cons <| e_int <| a_nil ⟨da, m.regs, rfl, d6, hR, fun μ8 c m8 d8 hc => ?_⟩
      refine a_nil ⟨[_, _], rfl, sz, ?_⟩
      refine a_nil ⟨[_, _], rfl, sz, ?_⟩
      have okn : CondOk m.regs 2 (.all [.less (-1) (-1), c]) := by
        rw [CondOk]
        refine ⟨?_, by simp⟩
        rw [CondsOk, CondsOk, CondsOk]
        exact ⟨by rw [CondOk]; exact ⟨.inl rfl, .inl rfl⟩, hc, trivial⟩
      show WS _ [_, _, _, _, _, _, _, _, _, some (.dat (encC (.all [.less (-1) (-1), c])))] _ _ _
      refine' w_one <| w_expr <| e_insert <| e_var (i := 7) rfl ⟨cl, rfl, ⟨_, m8 _ _ cld h7⟩, ?_⟩
      refine' e_var (i := 8) rfl <| e_call cd hr ?_ (by omega)
      refine' a_cons <| e_var (i := 0) rfl <| a_cons <| e_ixK <| e_var (i := 1) rfl ⟨_, .int m.regs, rfl, rfl, ?_⟩
      refine' a_cons <| e_len M.len <| e_ixK <| e_var (i := 1) rfl ⟨_, .tuple (m.steps.map encRows), rfl, rfl, .inl ⟨_, rfl, ?_⟩⟩
      refine' a_cons <| e_var (i := 9) rfl <| a_nil ⟨da, m.regs, m.steps.length, _, by rw [List.length_map], d8, hR, by omega, fun μ9 k m9 d9 hk => ?_⟩
      have kD := hk (D + 2) (okn.le (by omega))
      refine ⟨at_, _, rfl, by omega, m9 _ _ cld (m8 _ _ cld h7), by rw [lrow]; omega, ?_⟩
      refine ⟨row.take at_ ++ [k] ++ row.drop at_, _, ((m06.trans m8).trans m9).fresh clμ, d9.upd cld, by rw [updM_same, List.map_append, List.map_append, List.map_take, List.map_drop]; rfl, ?_, fun k' h => ?_, rfl⟩
      · rw [List.length_append, List.length_append, List.length_take, List.length_drop, List.length_singleton]; omega
      · rcases List.mem_append.mp h with h | h
        · rcases List.mem_append.mp h with h | h
          · exact (h5 k' (List.mem_of_mem_take h)).le (by omega)
          · rw [List.mem_singleton.mp h]; exact kD
        · exact (h5 k' (List.mem_of_mem_drop h)).le (by omega)
    · have hat2 := hb hf
      have hka : row[at_]? = some row[at_] := List.getElem?_eq_getElem hat2
      generalize row[at_] = ka at hka
      have oka := h5 ka (List.mem_of_getElem? hka)
      have hix : atI (row.map fun k => SV.dat (encK k)) (at_ : Int) = some (.dat (encK ka)) := at_map hka
      refine' w_one <| w_setL <| e_catT <| e_tup <| a_cons <| e_call co hr ?_ (by omega)
      refine' a_cons <| e_var (i := 0) rfl <| a_cons <| e_ixK <| e_ixL <| e_var (i := 7) rfl <| e_var (i := 8) rfl ⟨cl, _, _, _, rfl, rfl, .inl h7, hix, _, encC ka.cond, rfl, rfl, ?_⟩
      refine a_nil ⟨da, ka.cond, m.regs, D, rfl, d6, oka.cond, fun μ8 c' m8 d8 hc' => ?_⟩
      have h8 := m8 _ _ cld h7
      refine a_nil ⟨[encC c'], rfl, sz, ?_⟩
      refine' e_slT <| e_ixL <| e_var (i := 7) rfl <| e_var (i := 8) rfl ⟨cl, _, _, _, rfl, rfl, .inl h8, hix, ?_⟩
      show WE _ _ _ _ _
      refine e_int ⟨_, rfl, partsK ka, rfl, [encC c'], _, rfl, rfl, ?_, ?_⟩
      · have := cut_len (partsK ka) (some (1 : Int)) none
        have l4 : (partsK ka).length = 4 := rfl
        rw [List.length_singleton, sizeLine_eq]; omega
      rw [cut1]
      refine' e_var (i := 7) rfl <| e_var (i := 8) rfl ⟨cl, _, _, at_, rfl, rfl, h8, ixN_nat (by rw [lrow]; exact hat2), ?_⟩
      refine ⟨row.set at_ (condK ka c'), _, (m06.trans m8).fresh clμ, d8.upd cld, by rw [updM_same, List.map_set]; rfl, by rw [List.length_set]; omega, fun k' h => ?_, rfl⟩
      rcases mem_setD h with h | h
      · exact (h5 k' h).le (by omega)
      · rw [h]; exact ⟨hc', oka.moves, oka.srcs, oka.says, oka.few, oka.next⟩
  rintro ρ' μ7 ⟨ks, a9, m7, d7, hc7, lks, oks, rfl⟩
  show WS _ [_, _, _, _, _, _, _, _, _, _] _ _ _
  refine' w_one <| w_ret <| e_call cw hr ?_ (by omega)
  refine' a_cons <| e_var (i := 1) rfl <| a_cons <| e_var (i := 5) rfl <| a_cons <| e_var (i := 6) rfl <| a_cons <| e_var (i := 7) rfl ?_
  exact a_nil ⟨m, s, t, rows, cl, ks, rfl, h1, by omega, hc7, by omega, by omega, fun μ9 m9 => hP μ9 _ (m7.trans m9.but) (d7.sub m9) rfl (.inl ⟨rfl, by show (m.steps.set _ _).length ≤ _; rw [List.length_set]; omega⟩) ((om.up (show D ≤ D + 2 by omega) (Nat.le_refl L)).withC (by omega) h1 lks oks)⟩
end
end AV
-- text W33
set_option Elab.async false
set_option linter.all false
set_option maxRecDepth 100000
set_option maxHeartbeats 4000000
namespace AV
open PySem L2 TH
/-! ### machines as data: equal exactly if they are the same -/
theorem strNe {a b : Str} (h : decide (a = b) = false) : PyData.eqv (.str a) (.str b) = false := by rw [PyData.eqv]; exact h
theorem strEq (a : Str) : PyData.eqv (.str a) (.str a) = true := by rw [PyData.eqv]; exact decide_eq_true rfl
theorem tagNe {a b : Str} {ds es : List PyData} (h : decide (a = b) = false) : PyData.eqv (.tuple (.str a :: ds)) (.tuple (.str b :: es)) = false := by
  rw [PyData.eqv, PyData.eqvAll, strNe h]; rfl
theorem tagEq {a : Str} {ds es : List PyData} : PyData.eqv (.tuple (.str a :: ds)) (.tuple (.str a :: es)) = PyData.eqvAll ds es := by
  rw [PyData.eqv, PyData.eqvAll, strEq]; rfl
theorem one_eqv {d e : PyData} : PyData.eqvAll [d] [e] = PyData.eqv d e := by rw [PyData.eqvAll, PyData.eqvAll, Bool.and_true]
theorem tup_eqv {ds es : List PyData} : PyData.eqv (.tuple ds) (.tuple es) = PyData.eqvAll ds es := by rw [PyData.eqv]
theorem kS_ne {a b : Cond} (h : kS a ≠ kS b) : a ≠ b := fun e => h (by rw [e])
theorem head_ne {a b : Cond} (h : decide (kS a = kS b) = false) : PyData.eqv (encC a) (encC b) = true ↔ a = b := by
  obtain ⟨ds, ea⟩ := encC_head a
  obtain ⟨es, eb⟩ := encC_head b
  rw [ea, eb, tagNe h]
  constructor
  · intro z; cases z
  · intro e; rw [e] at h; simp at h
mutual
theorem eqvC : ∀ a b : Cond, PyData.eqv (encC a) (encC b) = true ↔ a = b
  | .tt, .tt => by rw [encC, tagEq]; simp [PyData.eqvAll]
  | .ff, .ff => by rw [encC, tagEq]; simp [PyData.eqvAll]
  | .less a b, .less c d => by rw [encC, encC, tagEq]; simp [PyData.eqvAll, PyData.eqv]
  | .same a b, .same c d => by rw [encC, encC, tagEq]; simp [PyData.eqvAll, PyData.eqv]
  | .empty a, .empty c => by rw [encC, encC, tagEq]; simp [PyData.eqvAll, PyData.eqv]
  | .not a, .not b => by rw [encC, encC, tagEq, one_eqv, eqvC a b]; simp
  | .all as, .all bs => by rw [encC, encC, tagEq, one_eqv, tup_eqv, eqvCs as bs]; simp
  | .any as, .any bs => by rw [encC, encC, tagEq, one_eqv, tup_eqv, eqvCs as bs]; simp
  | .tt, .ff => head_ne rfl | .tt, .less _ _ => head_ne rfl | .tt, .same _ _ => head_ne rfl | .tt, .empty _ => head_ne rfl | .tt, .not _ => head_ne rfl | .tt, .all _ => head_ne rfl | .tt, .any _ => head_ne rfl
  | .ff, .tt => head_ne rfl | .ff, .less _ _ => head_ne rfl | .ff, .same _ _ => head_ne rfl | .ff, .empty _ => head_ne rfl | .ff, .not _ => head_ne rfl | .ff, .all _ => head_ne rfl | .ff, .any _ => head_ne rfl
  | .less _ _, .tt => head_ne rfl | .less _ _, .ff => head_ne rfl | .less _ _, .same _ _ => head_ne rfl | .less _ _, .empty _ => head_ne rfl | .less _ _, .not _ => head_ne rfl | .less _ _, .all _ => head_ne rfl | .less _ _, .any _ => head_ne rfl
  | .same _ _, .tt => head_ne rfl | .same _ _, .ff => head_ne rfl | .same _ _, .less _ _ => head_ne rfl | .same _ _, .empty _ => head_ne rfl | .same _ _, .not _ => head_ne rfl | .same _ _, .all _ => head_ne rfl | .same _ _, .any _ => head_ne rfl
  | .empty _, .tt => head_ne rfl | .empty _, .ff => head_ne rfl | .empty _, .less _ _ => head_ne rfl | .empty _, .same _ _ => head_ne rfl | .empty _, .not _ => head_ne rfl | .empty _, .all _ => head_ne rfl | .empty _, .any _ => head_ne rfl
  | .not _, .tt => head_ne rfl | .not _, .ff => head_ne rfl | .not _, .less _ _ => head_ne rfl | .not _, .same _ _ => head_ne rfl | .not _, .empty _ => head_ne rfl | .not _, .all _ => head_ne rfl | .not _, .any _ => head_ne rfl
  | .all _, .tt => head_ne rfl | .all _, .ff => head_ne rfl | .all _, .less _ _ => head_ne rfl | .all _, .same _ _ => head_ne rfl | .all _, .empty _ => head_ne rfl | .all _, .not _ => head_ne rfl | .all _, .any _ => head_ne rfl
  | .any _, .tt => head_ne rfl | .any _, .ff => head_ne rfl | .any _, .less _ _ => head_ne rfl | .any _, .same _ _ => head_ne rfl | .any _, .empty _ => head_ne rfl | .any _, .not _ => head_ne rfl | .any _, .all _ => head_ne rfl
theorem eqvCs : ∀ as bs : List Cond, PyData.eqvAll (encCs as) (encCs bs) = true ↔ as = bs
  | [], [] => by simp [encCs, PyData.eqvAll]
  | [], _ :: _ => by simp [encCs, PyData.eqvAll]
  | _ :: _, [] => by simp [encCs, PyData.eqvAll]
  | a :: as, b :: bs => by rw [encCs, encCs, PyData.eqvAll, Bool.and_eq_true, eqvC a b, eqvCs as bs, List.cons.injEq]
end
mutual
theorem layC : ∀ c : Cond, PyData.canLay0 (encC c) = true ∧ noL (encC c) = true
  | .tt => by rw [encC]; exact ⟨by simp [PyData.canLay0, PyData.canLayAll0]; decide +kernel, by simp [noL, noLs]⟩
  | .ff => by rw [encC]; exact ⟨by simp [PyData.canLay0, PyData.canLayAll0]; decide +kernel, by simp [noL, noLs]⟩
  | .less _ _ => by rw [encC]; exact ⟨by simp [PyData.canLay0, PyData.canLayAll0]; decide +kernel, by simp [noL, noLs]⟩
  | .same _ _ => by rw [encC]; exact ⟨by simp [PyData.canLay0, PyData.canLayAll0]; decide +kernel, by simp [noL, noLs]⟩
  | .empty _ => by rw [encC]; exact ⟨by simp [PyData.canLay0, PyData.canLayAll0]; decide +kernel, by simp [noL, noLs]⟩
  | .not c => by
    obtain ⟨a, b⟩ := layC c
    rw [encC]
    exact ⟨by simp [PyData.canLay0, PyData.canLayAll0, a]; decide +kernel, by simp [noL, noLs, b]⟩
  | .all cs => by
    obtain ⟨a, b⟩ := layCs cs
    rw [encC]
    exact ⟨by simp [PyData.canLay0, PyData.canLayAll0, a]; decide +kernel, by simp [noL, noLs, b]⟩
  | .any cs => by
    obtain ⟨a, b⟩ := layCs cs
    rw [encC]
    exact ⟨by simp [PyData.canLay0, PyData.canLayAll0, a]; decide +kernel, by simp [noL, noLs, b]⟩
theorem layCs : ∀ cs : List Cond, PyData.canLayAll0 (encCs cs) = true ∧ noLs (encCs cs) = true
  | [] => by rw [encCs]; exact ⟨rfl, rfl⟩
  | c :: cs => by
    obtain ⟨a, b⟩ := layC c
    obtain ⟨a', b'⟩ := layCs cs
    rw [encCs]
    simp [PyData.canLayAll0, noLs, a, b, a', b']
end
mutual
theorem depC {n : Nat} : ∀ {c : Cond} {d : Nat}, CondOk n d c → PyData.depth (encC c) ≤ 2 * d + 1
  | .tt, d, _ => by rw [encC]; simp [PyData.depth, PyData.depthAll]
  | .ff, d, _ => by rw [encC]; simp [PyData.depth, PyData.depthAll]
  | .less _ _, d, _ => by rw [encC]; simp [PyData.depth, PyData.depthAll]
  | .same _ _, d, _ => by rw [encC]; simp [PyData.depth, PyData.depthAll]
  | .empty _, d, _ => by rw [encC]; simp [PyData.depth, PyData.depthAll]
  | .not c, 0, h => by simp [CondOk] at h
  | .not c, d + 1, h => by
    rw [CondOk] at h
    have := depC h
    rw [encC]
    simp only [PyData.depth, PyData.depthAll]; omega
  | .all cs, 0, h => by simp [CondOk] at h
  | .all cs, d + 1, h => by
    rw [CondOk] at h
    have := depCs h.1
    rw [encC]
    simp only [PyData.depth, PyData.depthAll]; omega
  | .any cs, 0, h => by simp [CondOk] at h
  | .any cs, d + 1, h => by
    rw [CondOk] at h
    have := depCs h.1
    rw [encC]
    simp only [PyData.depth, PyData.depthAll]; omega
theorem depCs {n : Nat} : ∀ {cs : List Cond} {d : Nat}, CondsOk n d cs → PyData.depthAll (encCs cs) ≤ 2 * d + 1
  | [], d, _ => by rw [encCs]; simp [PyData.depthAll]
  | c :: cs, d, h => by
    rw [CondsOk] at h
    have := depC h.1
    have := depCs h.2
    rw [encCs]
    simp only [PyData.depthAll]; omega
end
theorem niceC : Nice encC (fun c => ∃ n, CondOk n 8 c) 17 := ⟨eqvC, fun c _ => (layC c).1, fun c _ => (layC c).2, fun c ⟨_, h⟩ => depC h⟩
theorem Nice.to {α β : Type} {f : α → PyData} {g : β → PyData} {p : α → Prop} {q : β → Prop} {n m : Nat} (h : Nice f p n) (t : β → α) (inj : ∀ a b, t a = t b → a = b) (e : ∀ b, g b = f (t b)) (hq : ∀ b, q b → p (t b)) (hn : n ≤ m) : Nice g q m :=
  ⟨fun a b => by rw [e, e, h.eq]; exact ⟨inj a b, fun z => by rw [z]⟩, fun a ha => by rw [e]; exact h.lay _ (hq a ha), fun a ha => by rw [e]; exact h.nol _ (hq a ha), fun a ha => by rw [e]; exact Nat.le_trans (h.dep _ (hq a ha)) hn⟩
theorem Nice.three {α β γ : Type} {f : α → PyData} {g : β → PyData} {h : γ → PyData} {p : α → Prop} {q : β → Prop} {r : γ → Prop} {n m l : Nat} (hf : Nice f p n) (hg : Nice g q m) (hh : Nice h r l) : Nice (fun x : α × β × γ => .tuple [f x.1, g x.2.1, h x.2.2]) (fun x => p x.1 ∧ q x.2.1 ∧ r x.2.2) (max n (max m l) + 1) where
  eq := fun a b => by
    rw [PyData.eqv, PyData.eqvAll, PyData.eqvAll, PyData.eqvAll, PyData.eqvAll, Bool.and_true, Bool.and_eq_true, Bool.and_eq_true, hf.eq, hg.eq, hh.eq, Prod.ext_iff, Prod.ext_iff]
  lay := fun a ha => by rw [PyData.canLay0, PyData.canLayAll0, PyData.canLayAll0, PyData.canLayAll0, PyData.canLayAll0, hf.lay _ ha.1, hg.lay _ ha.2.1, hh.lay _ ha.2.2]; rfl
  nol := fun a ha => by rw [noL, noLs, noLs, noLs, noLs, hf.nol _ ha.1, hg.nol _ ha.2.1, hh.nol _ ha.2.2]; rfl
  dep := fun a ha => by
    rw [PyData.depth, PyData.depthAll, PyData.depthAll, PyData.depthAll, PyData.depthAll]
    have := hf.dep _ ha.1
    have := hg.dep _ ha.2.1
    have := hh.dep _ ha.2.2
    omega
theorem Nice.four {α β γ δ : Type} {f : α → PyData} {g : β → PyData} {h : γ → PyData} {k : δ → PyData} {p : α → Prop} {q : β → Prop} {r : γ → Prop} {s : δ → Prop} {n m l o : Nat} (hf : Nice f p n) (hg : Nice g q m) (hh : Nice h r l) (hk : Nice k s o) : Nice (fun x : α × β × γ × δ => .tuple [f x.1, g x.2.1, h x.2.2.1, k x.2.2.2]) (fun x => p x.1 ∧ q x.2.1 ∧ r x.2.2.1 ∧ s x.2.2.2) (max n (max m (max l o)) + 1) where
  eq := fun a b => by
    rw [PyData.eqv, PyData.eqvAll, PyData.eqvAll, PyData.eqvAll, PyData.eqvAll, PyData.eqvAll, Bool.and_true, Bool.and_eq_true, Bool.and_eq_true, Bool.and_eq_true, hf.eq, hg.eq, hh.eq, hk.eq, Prod.ext_iff, Prod.ext_iff, Prod.ext_iff]
  lay := fun a ha => by rw [PyData.canLay0, PyData.canLayAll0, PyData.canLayAll0, PyData.canLayAll0, PyData.canLayAll0, PyData.canLayAll0, hf.lay _ ha.1, hg.lay _ ha.2.1, hh.lay _ ha.2.2.1, hk.lay _ ha.2.2.2]; rfl
  nol := fun a ha => by rw [noL, noLs, noLs, noLs, noLs, noLs, hf.nol _ ha.1, hg.nol _ ha.2.1, hh.nol _ ha.2.2.1, hk.nol _ ha.2.2.2]; rfl
  dep := fun a ha => by
    rw [PyData.depth, PyData.depthAll, PyData.depthAll, PyData.depthAll, PyData.depthAll, PyData.depthAll]
    have := hf.dep _ ha.1
    have := hg.dep _ ha.2.1
    have := hh.dep _ ha.2.2.1
    have := hk.dep _ ha.2.2.2
    omega
theorem niceNat : Nice (fun n : Nat => PyData.int (n : Int)) (fun _ => True) 0 := ⟨fun a b => by simp [PyData.eqv]; omega, fun _ _ => rfl, fun _ _ => rfl, fun _ _ => by simp [PyData.depth]⟩
theorem niceK : Nice encK (fun k => ∃ n, CondOk n 8 k.cond) 18 :=
  (niceC.four Nice.int.list (Nice.int.two Nice.int).list niceNat).to (fun k : Case => (k.cond, k.moves, k.says, k.next)) (fun a b e => by
    cases a; cases b; simp only [Prod.mk.injEq] at e; obtain ⟨h1, h2, h3, h4⟩ := e; subst h1 h2 h3 h4; rfl) (fun b => rfl) (fun b h => ⟨h, fun _ _ => trivial, fun _ _ => ⟨trivial, trivial⟩, trivial⟩) (by omega)
theorem niceM : Nice encM (fun m => ∀ rows ∈ m.steps, ∀ row ∈ rows, ∀ k ∈ row, ∃ n, CondOk n 8 k.cond) 22 :=
  (niceNat.three niceNat niceK.list.list.list).to (fun m : Machine => (m.tags, m.regs, m.steps)) (fun a b e => by
    cases a; cases b; simp only [Prod.mk.injEq] at e; obtain ⟨h1, h2, h3⟩ := e; subst h1 h2 h3; rfl) (fun b => rfl) (fun b h => ⟨trivial, trivial, h⟩) (by omega)
theorem MOk.nice {m : Machine} (o : MOk m) : okD (encM m) := niceM.ok (by omega) fun rows h row h' k hk => ⟨m.regs, (o.case rows h row h' k hk).cond⟩
/-! ### a least machine is well formed -/
section
variable {m : Machine}
def AllSt (m : Machine) (ts : List Ty) : Prop := ∀ τ ∈ ts, τ.1 < m.steps.length
theorem AllSt.at_ {ts : List Ty} (h : AllSt m ts) (h0 : 0 < m.steps.length) (a : Nat) : (tyAt ts a).1 < m.steps.length := by
  unfold tyAt
  cases e : ts[a]? with
  | none => exact h0
  | some τ => exact h τ (List.mem_of_getElem? e)
theorem AllSt.num {ts : List Ty} (h : AllSt m ts) {κ : Ty} (hk : κ.1 < m.steps.length) : AllSt m (numF m ts κ).2 := by
  unfold numF
  split
  · exact h
  · intro τ hτ
    rcases List.mem_append.mp hτ with e | e
    · exact h τ e
    · rw [List.mem_singleton.mp e]; exact hk
theorem AllSt.kind (o : MOk m) {τ : Ty} (h : τ.1 < m.steps.length) (t s : Nat) : (kindR m τ t s).1 < m.steps.length :=
  TH.read_st o.nxt (c := conS τ) h t _
theorem AllSt.row (o : MOk m) {ts : List Ty} (h : AllSt m ts) (a t : Nat) : ∀ k, AllSt m (TH.rowF m ts a t k).1
  | 0 => h
  | k + 1 => by
    rw [TH.rowF_succ]
    have ih := AllSt.row o h a t k
    exact ih.num (AllSt.kind o (ih.at_ o.steps.1 a) t k)
theorem AllSt.rows (o : MOk m) {ts : List Ty} (h : AllSt m ts) (a k : Nat) : ∀ T, AllSt m (TH.rowsF m ts a k T).1
  | 0 => h
  | T + 1 => by
    rw [TH.rowsF_succ]
    exact AllSt.row o (AllSt.rows o h a k T) a T k
theorem AllSt.run (o : MOk m) : ∀ n, AllSt m (runK m n).1
  | 0 => fun τ h => by
    have : τ = ty0 m := by simpa [runK] using h
    rw [this]; exact o.steps.1
  | n + 1 => by
    unfold runK
    split
    · exact AllSt.rows o (AllSt.run o n) _ _ _
    · exact AllSt.run o n
theorem tyCount2 {l : List Ty} (nd : l.Nodup) (h : ∀ τ ∈ l, TyG m τ) : l.length ≤ m.steps.length * (m.regs + m.regs + 1) ^ m.regs := by
  refine nodup_bound (tCode m) _ l nd ?_ ?_
  · intro x hx y hy e
    have ox := h x hx
    have oy := h y hy
    have lx := codeR_lt ox.codes
    have ly := codeR_lt oy.codes
    rw [ox.ok.len] at lx
    rw [oy.ok.len] at ly
    obtain ⟨e1, e2⟩ := pair_inj lx ly e
    exact Prod.ext e1 (codeR_inj (ox.ok.len.trans oy.ok.len.symm) ox.codes oy.codes e2)
  · intro x hx
    have ox := h x hx
    have lx := codeR_lt ox.codes
    rw [ox.ok.len] at lx
    exact pair_lt ox.st lx
theorem run_tyG (o : MOk m) (n : Nat) : ∀ τ ∈ (runK m n).1, TyG m τ := fun τ h => ⟨AllSt.run o n τ h, (run_ok o.full n).ks.ok τ h⟩
theorem run_few (o : MOk m) (n : Nat) : (runK m n).1.length ≤ m.steps.length * (m.regs + m.regs + 1) ^ m.regs := by
  refine tyCount2 ?_ (run_tyG o n)
  have ks := (run_ok o.full n).ks
  rw [List.Nodup, List.pairwise_iff_getElem]
  intro i j hi hj hij e
  refine ks.apart i j _ _ (List.getElem?_eq_getElem hi) (List.getElem?_eq_getElem hj) hij ?_
  rw [e]
  exact KEq.refl o.full (ks.ok _ (List.getElem_mem hj))
theorem foldl_max_lt : ∀ (l : List Nat) (a b : Nat), a ≤ b → (∀ x ∈ l, x ≤ b) → l.foldl max a ≤ b
  | [], a, b, h, _ => h
  | x :: l, a, b, h, k => foldl_max_lt l (max a x) b (by have := k x (by simp); omega) fun y hy => k y (by simp [hy])
theorem srcI_ok {ns : List Nat} {R : Nat} (hR : ns.length ≤ R) {new : Int} {o : Option Int} (h : ∀ z, o = some z → z = new ∨ ∃ j ∈ ns, z = 2 * (j : Int) + 1) : SrcOk R (srcI ns new o) := by
  cases o with
  | none => exact (show SrcOk R (-2) from .inr (.inl rfl))
  | some z =>
    show SrcOk R (if z = new then -1 else ((ns.idxOf (z / 2).toNat : Nat) : Int))
    split
    · exact .inl rfl
    · rename_i hz
      rcases h z rfl with e | ⟨j, hj, e⟩
      · exact absurd e hz
      · have : (z / 2).toNat = j := by omega
        rw [this]
        have := List.idxOf_lt_length_of_mem hj
        exact .inr (.inr ⟨by omega, by omega⟩)
theorem spotCond_ok {R n s : Nat} (hn : n ≤ R) (hs : s < 2 * n + 1) : CondOk R 8 (spotCond n s) := by
  unfold spotCond
  split
  · rw [CondOk]; exact ⟨.inl rfl, .inr (.inr ⟨by omega, by omega⟩)⟩
  · split
    · rw [CondOk]; trivial
    · split
      · rw [CondOk]; exact ⟨.inl rfl, .inr (.inr ⟨by omega, by omega⟩)⟩
      · split
        · rw [CondOk]; exact ⟨.inr (.inr ⟨by omega, by omega⟩), .inl rfl⟩
        · rw [CondOk]
          refine ⟨?_, by simp⟩
          rw [CondsOk, CondsOk, CondsOk, CondOk, CondOk]
          exact ⟨⟨.inr (.inr ⟨by omega, by omega⟩), .inl rfl⟩, ⟨.inl rfl, .inr (.inr ⟨by omega, by omega⟩)⟩, trivial⟩
theorem least_ok (o : MOk m) (few : m.steps.length * (m.regs + m.regs + 1) ^ m.regs ≤ 1000) {n : Nat} (dn : Done (runK m n)) : MOk (leastM m (runK m n)) := by
  have f := o.full
  have ok := run_ok f n
  have tg := run_tyG o n
  have fw := run_few o n
  generalize runK m n = S at *
  have dn : S.2.length = S.1.length := dn
  have h0 : 0 < S.1.length := by
    have := ok.ks.first
    exact (List.getElem?_eq_some_iff.mp this).1
  have nl : ∀ τ ∈ S.1, (needs m τ).length ≤ m.regs := fun τ h => needs_le (tg τ h)
  have rk : regsK m S.1 ≤ m.regs := foldl_max_lt _ _ _ (by omega) fun x hx => by
    obtain ⟨τ, hτ, rfl⟩ := List.mem_map.mp hx
    exact nl τ hτ
  have hreg := o.regs
  have ls : (leastM m S).steps.length = S.2.length := by unfold leastM; exact List.length_mapIdx
  have get : ∀ rows' ∈ (leastM m S).steps, ∃ a rows, S.2[a]? = some rows ∧ a < S.1.length ∧ rows' = rows.map fun row => row.mapIdx fun s p => leastC (regsK m S.1) (needs m (tyAt S.1 a)).length s p := by
    intro rows' h
    obtain ⟨a, ha⟩ := List.mem_iff_getElem?.mp h
    have ha : (S.2.mapIdx fun a rows => rows.map fun row => row.mapIdx fun s p => leastC (regsK m S.1) (needs m (tyAt S.1 a)).length s p)[a]? = some rows' := ha
    rw [List.getElem?_mapIdx] at ha
    cases hr : S.2[a]? with
    | none => rw [hr] at ha; cases ha
    | some rows =>
      rw [hr] at ha
      simp only [Option.map_some, Option.some.injEq] at ha
      exact ⟨a, rows, hr, by have := (List.getElem?_eq_some_iff.mp hr).1; omega, ha.symm⟩
  have ndl : ∀ a, a < S.1.length → (needs m (tyAt S.1 a)).length ≤ m.regs ∧ (needs m (tyAt S.1 a)).length ≤ regsK m S.1 := fun a ha => ⟨nl _ (tyAt_mem ha), regs_ge (tyAt_mem ha)⟩
  refine ⟨o.tags, by show regsK m S.1 ≤ 20; omega, by rw [ls]; omega, fun rows' h => ?_, fun rows' h row' h' => ?_, fun rows' h row' h' k hk => ?_⟩
  · obtain ⟨a, rows, hr, ha, rfl⟩ := get rows' h
    rw [List.length_map]; exact ok.sl a rows hr
  · obtain ⟨a, rows, hr, ha, rfl⟩ := get rows' h
    obtain ⟨row, hrow, rfl⟩ := List.mem_map.mp h'
    obtain ⟨t, ht⟩ := List.mem_iff_getElem?.mp hrow
    rw [List.length_mapIdx, ok.rl a t rows row hr ht]
    have := (ndl a ha).1
    unfold spots; omega
  · obtain ⟨a, rows, hr, ha, rfl⟩ := get rows' h
    obtain ⟨row, hrow, rfl⟩ := List.mem_map.mp h'
    obtain ⟨t, ht⟩ := List.mem_iff_getElem?.mp hrow
    obtain ⟨s, hs⟩ := List.mem_iff_getElem?.mp hk
    rw [List.getElem?_mapIdx] at hs
    cases hp : row[s]? with
    | none => rw [hp] at hs; cases hs
    | some p =>
      rw [hp] at hs
      simp only [Option.map_some, Option.some.injEq] at hs
      subst hs
      obtain ⟨p1, p2, υ, p3, p4⟩ := ok.ps a t s rows row p hr ht hp
      have hsl : s < 2 * (needs m (tyAt S.1 a)).length + 1 := by
        have e := ok.rl a t rows row hr ht
        unfold spots at e
        rw [← e]; exact (List.getElem?_eq_some_iff.mp hp).1
      have htl : t < m.tags := by rw [← ok.sl a rows hr]; exact (List.getElem?_eq_some_iff.mp ht).1
      have oτ := tg _ (tyAt_mem ha)
      obtain ⟨k1, k2⟩ := piece_mem f oτ.ok htl hsl
      have nd := (ndl a ha).2
      have ml : p.1.length = (needs m υ).length := by
        rw [p1]; unfold movesR; rw [List.length_map]; exact p4.1.symm
      have ul := regs_ge (M := m) (List.mem_of_getElem? p3)
      refine ⟨spotCond_ok nd hsl, ?_, fun z hz => ?_, fun q hq => ?_, ?_, ?_⟩
      · show (p.1 ++ List.replicate (regsK m S.1 - p.1.length) (-2)).length = regsK m S.1
        rw [List.length_append, List.length_replicate]; omega
      · rcases List.mem_append.mp hz with h | h
        · rw [p1] at h
          unfold movesR at h
          obtain ⟨r, hr', rfl⟩ := List.mem_map.mp h
          obtain ⟨y, hy, hy2⟩ := k2 r hr'
          exact srcI_ok nd fun z e => by rw [hy] at e; cases e; exact hy2
        · rw [(List.mem_replicate.mp h).2]; exact .inr (.inl rfl)
      · have hq : q ∈ p.2.1 := hq
        rw [p2] at hq
        unfold saysR at hq
        obtain ⟨⟨b, y⟩, hy, rfl⟩ := List.mem_map.mp hq
        exact srcI_ok nd fun z e => k1 b z (by rw [← e]; exact hy)
      · show p.2.1.length ≤ 1000
        rw [p2]; unfold saysR; rw [List.length_map]
        exact (AV.read_st o (c := conS (tyAt S.1 a)) oτ.st (AV.conS_len oτ) htl _).2.2
      · show p.2.2 < (leastM m S).steps.length
        rw [ls, dn]; exact (List.getElem?_eq_some_iff.mp p3).1
end
end AV
-- text W34
set_option Elab.async false
set_option linter.all false
set_option maxRecDepth 100000
set_option maxHeartbeats 4000000
namespace AV
local macro_rules | `(tactic| refine' $a <| $b) => `(tactic| (refine $a ?_; refine' $b)) | `(tactic| refine' $a) => `(tactic| refine $a)
open PySem L2 TH
/-! ### sizes -/
def Small1 (m : Machine) : Prop := (m.regs ≤ 2 ∧ m.steps.length ≤ 3) ∨ (m.regs = 0 ∧ m.steps.length ≤ 18)
def Small2 (m : Machine) : Prop := (m.regs ≤ 2 ∧ m.steps.length ≤ 4) ∨ (m.regs ≤ 3 ∧ m.steps.length ≤ 1) ∨ (m.regs ≤ 1 ∧ m.steps.length ≤ 19)
theorem Small1.two {m : Machine} (h : Small1 m) : Small2 m := by
  rcases h with ⟨a, b⟩ | ⟨a, b⟩
  · exact .inl ⟨a, by omega⟩
  · exact .inr (.inr ⟨by omega, by omega⟩)
theorem pow_up {a r : Nat} (h : a ≤ r) : (a + 1) ^ a ≤ (r + 1) ^ r := Nat.le_trans (Nat.pow_le_pow_left (by omega) a) (Nat.pow_le_pow_right (by omega) h)
theorem jB_le {m n : Machine} {a b r : Nat} (h1 : m.steps.length ≤ a) (h2 : n.steps.length ≤ b) (h3 : m.regs + n.regs ≤ r) : jB m n ≤ a * b * (r + 1) ^ r :=
  Nat.mul_le_mul (Nat.mul_le_mul h1 h2) (pow_up h3)
theorem Small2.few {m : Machine} (h : Small2 m) : jB m m ≤ 900000 := by
  rcases h with ⟨a, b⟩ | ⟨a, b⟩ | ⟨a, b⟩
  · exact Nat.le_trans (jB_le b b (show m.regs + m.regs ≤ 4 by omega)) (by decide)
  · exact Nat.le_trans (jB_le b b (show m.regs + m.regs ≤ 6 by omega)) (by decide)
  · exact Nat.le_trans (jB_le b b (show m.regs + m.regs ≤ 2 by omega)) (by decide)
theorem Small1.few2 {m n : Machine} (h : Small1 m) (k : Small2 n) : jB m n ≤ 900000 := by
  rcases h with ⟨a, b⟩ | ⟨a, b⟩ <;> rcases k with ⟨c, d⟩ | ⟨c, d⟩ | ⟨c, d⟩
  · exact Nat.le_trans (jB_le b d (show m.regs + n.regs ≤ 4 by omega)) (by decide)
  · exact Nat.le_trans (jB_le b d (show m.regs + n.regs ≤ 5 by omega)) (by decide)
  · exact Nat.le_trans (jB_le b d (show m.regs + n.regs ≤ 3 by omega)) (by decide)
  · exact Nat.le_trans (jB_le b d (show m.regs + n.regs ≤ 2 by omega)) (by decide)
  · exact Nat.le_trans (jB_le b d (show m.regs + n.regs ≤ 3 by omega)) (by decide)
  · exact Nat.le_trans (jB_le b d (show m.regs + n.regs ≤ 1 by omega)) (by decide)
theorem Small2.cnt {m : Machine} (h : Small2 m) : m.steps.length * (m.regs + m.regs + 1) ^ m.regs ≤ 1000 := by
  have up : ∀ {a s : Nat}, m.regs ≤ a → m.steps.length ≤ s → m.steps.length * (m.regs + m.regs + 1) ^ m.regs ≤ s * (a + a + 1) ^ a := fun {a s} h1 h2 =>
    Nat.mul_le_mul h2 (Nat.le_trans (Nat.pow_le_pow_left (by omega) _) (Nat.pow_le_pow_right (by omega) h1))
  rcases h with ⟨a, b⟩ | ⟨a, b⟩ | ⟨a, b⟩
  · exact Nat.le_trans (up a b) (by decide)
  · exact Nat.le_trans (up a b) (by decide)
  · exact Nat.le_trans (up a b) (by decide)
theorem Small1.re {m m' : Machine} (h : Small1 m) (k : (m'.regs = m.regs ∧ m'.steps.length ≤ m.steps.length + 1) ∨ (m'.regs = m.regs + 1 ∧ m'.steps.length = m.steps.length ∧ (m.regs < 2 ∨ m.regs + m.steps.length ≤ 3))) : Small2 m' := by
  unfold Small1 at h
  unfold Small2
  omega
section
variable {P : Program} {w : World} {K : PySem.W.Frag} {mg : Str → Option Value} {base : Heap} {f : Addr} {fd : FuncData}
def G_law (K : PySem.W.Frag) : Gs := fun rs μ P => ∃ (sa : Addr) (ns : List Int), rs = [.loc sa] ∧ (isL μ sa (ns.map SV.int) ∨ SeqC K sa ns) ∧ ns.length ≤ 1000 ∧ ∀ μ', P μ' (.dat (.bool true))
theorem sc_law : FnScope ["_law_script", "_law_draws_here", "_law_one", "_law_other", "_law_k", "_law_least", "_law_log"] ["_law_script"] (defScope s_law) := ⟨rfl, rfl, rfl, by decide +kernel, rfl, by decide +kernel, by decide +kernel⟩
theorem ok_law (F : FD K "law" "law" s_law f fd) (M : Md mg) (cdr : Fn P w K mg base 1 "_law_draws" (G_draws K)) (ct : Fn P w K mg base 1 "_law_take" G_take) (cma : Fn P w K mg base 6 "_law_machine" G_machine) (ccy : Fn P w K mg base 2 "_law_cycle" G_cycle) (cdm : Fn P w K mg base 5 "_law_drawn_machine" G_drawn_machine)
    (cch : Fn P w K mg base 5 "_law_changed" G_changed) (cre : Fn P w K mg base 12 "_law_rewritten" G_rewritten) (cle : Fn P w K mg base 20 "least_machine" G_least_machine) (cpa : Fn P w K mg base 14 "_law_parting" G_parting) (cbe : Fn P w K mg base 1 "_law_begin" G_beginning) (can : Fn P w K mg base 14 "answers" G_answers) : FnOk P w K mg base C8.CX0 21 f fd ["_law_script"] (spOf P w K (G_law K)) := by
  refine ok_of F sc_law (fun rs μ Po ⟨_, _, e, _⟩ => by rw [e]; rfl) fun cdv A outer s0 H E rs μ Po hr ⟨sa, ns, e, hs, hn, hP⟩ => ?_
  subst e
  refine' w_cons <| w_set (i := 1) sc_law.nd <| e_call cdr hr ?_ (by omega)
  refine' a_cons <| e_var (i := 0) rfl <| a_cons <| e_int <| a_nil ⟨sa, ns, rfl, hs, by omega, fun μ1 da m1 d1 _ => ?_⟩
  show WS _ [_, _, _, _, _, _, _] _ _ _
  refine' w_cons <| w_set (i := 2) sc_law.nd <| e_call cma hr ?_ (by omega)
  refine' a_cons <| e_var (i := 1) rfl <| a_nil ⟨da, rfl, d1, fun μ2 m _ d2 t2 r2 s2 om2 => ?_⟩
  show WS _ [_, _, _, _, _, _, _] _ _ _
  refine w_cons <| W1.mid (Q := fun ρ' μ' => ∃ m : Machine, DrawSt μ' da ∧ m.tags ≤ 6 ∧ Small1 m ∧ MD 1 6 m ∧ ρ' = [some (.loc sa), some (.loc da), some (.dat (encM m)), none, none, none, none]) ?_ ?_
  · refine' w_if <| t_eqI <| e_take (i := 1) ct hr rfl ?_ (by omega)
    refine e_int ⟨12, rfl, d2, by omega, fun μ3 k3 m3 d3 hk3 => e_int ⟨_, _, rfl, rfl, fun _ => ?_, fun _ => w_nil ⟨m, d3, t2, .inl ⟨r2, s2⟩, om2, rfl⟩⟩⟩
    refine' w_one <| w_set (i := 2) sc_law.nd <| e_call ccy hr ?_ (by omega)
    refine' a_cons <| e_var (i := 1) rfl <| a_nil ⟨da, rfl, d3, fun μ4 m' m4 d4 e1 e2 e3 e4 om' => ?_⟩
    exact ⟨m', d4, by omega, .inr ⟨e2, e4⟩, om'.up (by omega) (by omega), rfl⟩
  rintro ρ' μ3 ⟨m, d3, t3, sm, om, rfl⟩
  have om8 := om.ok (by omega) (by omega)
  have htg := om.tags
  show WS _ [_, _, _, _, _, _, _] _ _ _
  refine' w_cons <| w_set (i := 3) sc_law.nd <| e_var (i := 2) rfl ?_
  show WS _ [_, _, _, _, _, _, _] _ _ _
  refine w_cons <| W1.mid (Q := fun ρ' μ' => ∃ n : Machine, DrawSt μ' da ∧ n.tags = m.tags ∧ Small1 n ∧ MD 1 6 n ∧ ρ' = [some (.loc sa), some (.loc da), some (.dat (encM m)), some (.dat (encM n)), none, none, none]) ?_ ?_
  · refine' w_if <| t_eqI <| e_take (i := 1) ct hr rfl ?_ (by omega)
    refine e_int ⟨5, rfl, d3, by omega, fun μ4 k4 m4 d4 hk4 => e_int ⟨_, _, rfl, rfl, fun _ => ?_, fun _ => w_nil ⟨m, d4, rfl, sm, om, rfl⟩⟩⟩
    refine' w_one <| w_set (i := 3) sc_law.nd <| e_call cdm hr ?_ (by omega)
    refine' a_cons <| e_var (i := 1) rfl <| a_cons <| e_ixK <| e_var (i := 2) rfl ⟨_, .int m.tags, rfl, rfl, ?_⟩
    refine' a_cons <| e_take (i := 1) ct hr rfl ?_ (by omega)
    refine e_int ⟨2, rfl, d4, by omega, fun μ5 k5 m5 d5 hk5 => ?_⟩
    refine' a_cons <| e_add <| e_int <| e_take (i := 1) ct hr rfl ?_ (by omega)
    refine e_int ⟨2, rfl, d5, by omega, fun μ6 k6 m6 d6 hk6 => ⟨_, _, rfl, rfl, ?_⟩⟩
    refine a_nil ⟨da, m.tags, k5, 1 + k6, by rw [show (1 : Int) + (k6 : Int) = ((1 + k6 : Nat) : Int) by omega], d6, htg.1, by omega, by omega, by omega, by omega, fun μ7 n m7 d7 e1 e2 e3 on => ?_⟩
    exact ⟨n, d7, e1, .inl ⟨by omega, by omega⟩, on.mono (by omega), rfl⟩
  rintro ρ' μ4 ⟨n, d4, t4, sn, on, rfl⟩
  show WS _ [_, _, _, _, _, _, _] _ _ _
  -- pieces changed
  refine' w_cons <| w_for (g := gN 4) (sl := [4]) PassesOwn.never rfl (g_name sc_law.nd) <| i_range M.range <| e_take (i := 1) ct hr rfl ?_ (by omega)
  refine e_int ⟨3, rfl, d4, by omega, fun μ5 k5 m5 d5 hk5 => ⟨(k5 : Int), rfl, by omega, by omega, ?_⟩⟩
  refine ⟨fun i ρ μ' => ∃ (n : Machine) (a4 : Option SV), DrawSt μ' da ∧ n.tags = m.tags ∧ Small1 n ∧ MD 1 (6 + i) n ∧ ρ = [some (.loc sa), some (.loc da), some (.dat (encM m)), some (.dat (encM n)), a4, none, none],
    ⟨n, _, d5, t4, sn, on, rfl⟩, fun _ _ _ _ _ => trivial, ?_, ?_⟩
  · rintro i x ρ1 μ6 hi rfl ⟨n, a4, d6, t6, sn, on, rfl⟩
    show WS _ [_, _, _, _, _, _, _] _ _ _
    refine' w_one <| w_set (i := 3) sc_law.nd <| e_call cch hr ?_ (by omega)
    refine' a_cons <| e_var (i := 1) rfl <| a_cons <| e_var (i := 3) rfl ?_
    refine a_nil ⟨da, n, 1, 6 + i, rfl, d6, on, by omega, by omega, fun μ7 n' m7 d7 e1 e2 e3 on' => ?_⟩
    exact ⟨n', _, d7, by omega, by unfold Small1 at sn ⊢; omega, on', rfl⟩
  rintro ρ1 μ6 ⟨n, a4, d6, t6, sn, on, rfl⟩
  have on : MD 1 8 n := on.mono (by omega)
  show WS _ [_, _, _, _, _, _, _] _ _ _
  -- written otherwise
  refine' w_cons <| w_for (g := gN 4) (sl := [4]) PassesOwn.never rfl (g_name sc_law.nd) <| i_range M.range <| e_take (i := 1) ct hr rfl ?_ (by omega)
  refine e_int ⟨2, rfl, d6, by omega, fun μ7 k7 m7 d7 hk7 => ⟨(k7 : Int), rfl, by omega, by omega, ?_⟩⟩
  refine ⟨fun i ρ μ' => ∃ (n : Machine) (a4 : Option SV), DrawSt μ' da ∧ n.tags = m.tags ∧ Small2 n ∧ (i = 0 → Small1 n) ∧ MD (1 + 2 * i) (8 + i) n ∧ ρ = [some (.loc sa), some (.loc da), some (.dat (encM m)), some (.dat (encM n)), a4, none, none],
    ⟨n, _, d7, t6, sn.two, fun _ => sn, on, rfl⟩, fun _ _ _ _ _ => trivial, ?_, ?_⟩
  · rintro i x ρ1 μ8 hi rfl ⟨n, a4, d8, t8, sn2, sn1, on, rfl⟩
    have i0 : i = 0 := by omega
    subst i0
    have sn := sn1 rfl
    have hr1 : n.regs ≤ 2 := by unfold Small1 at sn; omega
    have hs1 : n.steps.length ≤ 18 := by unfold Small1 at sn; omega
    show WS _ [_, _, _, _, _, _, _] _ _ _
    refine' w_one <| w_set (i := 3) sc_law.nd <| e_call cre hr ?_ (by omega)
    refine' a_cons <| e_var (i := 1) rfl <| a_cons <| e_var (i := 3) rfl ?_
    refine a_nil ⟨da, n, 1, 8, rfl, d8, on, by omega, by omega, by omega, by omega, by omega, fun μ9 n' m9 d9 e1 e2 on' => ?_⟩
    exact ⟨n', _, d9, by omega, sn.re e2, fun z => by omega, on', rfl⟩
  rintro ρ1 μ8 ⟨n, a4, d8, t8, sn2, _, on, rfl⟩
  have on : MD 3 9 n := on.up (by omega) (by omega)
  have on8 := on.ok (by omega) (by omega)
  have po1 : PairOk m m := ⟨om8, om8, rfl, sm.two.few⟩
  have po2 : PairOk n n := ⟨on8, on8, rfl, sn2.few⟩
  have po : PairOk m n := ⟨om8, on8, t8.symm, sm.few2 sn2⟩
  clear d1 d2 d3 d4 d5 d6 d7 om2 om
  show WS _ [_, _, _, _, _, _, _] _ _ _
  refine' w_cons <| w_set (i := 5) sc_law.nd <| e_lst <| a_cons <| e_call cle hr ?_ (by omega)
  refine' a_cons <| e_var (i := 2) rfl <| a_nil ⟨m, rfl, po1, fun μ9 c1 m9 dn1 => ?_⟩
  refine' a_cons <| e_call cle hr ?_ (by omega)
  refine' a_cons <| e_var (i := 3) rfl <| a_nil ⟨n, rfl, po2, fun μ10 c2 m10 dn2 => ?_⟩
  have ok1 := least_ok om8 sm.two.cnt dn1
  have ok2 := least_ok on8 sn2.cnt dn2
  have al1 := alike_int om8.full (least_full om8.full (run_ok om8.full c1)) (least_alike om8.full (run_ok om8.full c1) dn1)
  have al2 := alike_int on8.full (least_full on8.full (run_ok on8.full c2)) (least_alike on8.full (run_ok on8.full c2) dn2)
  have iff := least_eq_iff om8.full on8.full t8.symm dn1 dn2
  have tg1 : (leastM m (runK m c1)).tags = m.tags := rfl
  have tg2 : (leastM n (runK n c2)).tags = n.tags := rfl
  generalize leastM m (runK m c1) = l1 at *
  generalize leastM n (runK n c2) = l2 at *
  refine a_nil ⟨sz, fun la hla => ?_⟩
  have hl : updM μ10 la (.lst [.dat (encM l1), .dat (encM l2)]) la = some (.lst [.dat (encM l1), .dat (encM l2)]) := updM_same
  generalize updM μ10 la (.lst [.dat (encM l1), .dat (encM l2)]) = μ11 at *
  show WS _ [_, _, _, _, _, _, _] _ _ _
  refine' w_cons <| w_set (i := 6) sc_law.nd <| e_call cpa hr ?_ (by omega)
  refine' a_cons <| e_var (i := 2) rfl <| a_cons <| e_call cbe hr ?_ (by omega)
  refine' a_cons <| e_var (i := 2) rfl <| a_nil ⟨m, rfl, by have := om8.regs; omega, fun μ12 m12 => ?_⟩
  refine' a_cons <| e_var (i := 3) rfl <| a_cons <| e_call cbe hr ?_ (by omega)
  refine' a_cons <| e_var (i := 3) rfl <| a_nil ⟨n, rfl, by have := on8.regs; omega, fun μ13 m13 => ?_⟩
  refine a_nil ⟨m, n, rfl, po, fun μ14 m14 => ⟨fun np => ?_, fun p hp lp => ?_⟩⟩
  · have hl4 := m14 _ _ (m13 _ _ (m12 _ _ hl))
    have e := iff.mpr np
    subst e
    show WS _ [_, _, _, _, _, _, _] _ _ _
    refine' w_cons <| w_if <| t_ne <| e_eqD hr.units <| e_ixL <| e_var (i := 5) rfl <| e_int ⟨la, _, 0, .dat (encM l1), rfl, rfl, .inl hl4, rfl, ?_⟩
    refine' e_ixL <| e_var (i := 5) rfl <| e_int ⟨la, _, 1, .dat (encM l1), rfl, rfl, .inl hl4, rfl, _, _, rfl, rfl, ok1.nice, ok1.nice, ?_⟩
    rw [(niceM.eq l1 l1).mpr rfl]
    refine' e_isN <| e_var (i := 6) rfl ⟨_, _, true, rfl, rfl, rfl, fun z => ff z, fun _ => w_nil ?_⟩
    refine' w_cons <| w_if <| t_isN <| e_var (i := 6) rfl ⟨fun _ => ?_, fun z => ft z⟩
    exact w_one <| w_ret <| e_bl (hP _)
  · have hl4 := m14 _ _ (m13 _ _ (m12 _ _ hl))
    have ne : l1 ≠ l2 := fun e => iff.mp e hp.pj
    have hne := partLog_parts om8.full on8.full om8.nxt on8.nxt om8.steps.1 on8.steps.1 hp
    have tgs := partLog_tags hp
    have ll : (partLog m n p).length ≤ 1000000 := by
      unfold partLog
      rw [List.length_map, pLog_len]; omega
    generalize partLog m n p = log at *
    have q1 := al1 log tgs
    have tgs2 : ∀ e ∈ log, e.1 < n.tags := fun e he => by rw [t8]; exact tgs e he
    have q2 := al2 log tgs2
    have oka : ∀ as : List (Ans Int), okD (.tuple (as.map encA)) := fun as => niceAs.ok (by omega) trivial
    show WS _ [_, _, _, _, _, _, _] _ _ _
    refine' w_cons <| w_if <| t_ne <| e_eqD hr.units <| e_ixL <| e_var (i := 5) rfl <| e_int ⟨la, _, 0, .dat (encM l1), rfl, rfl, .inl hl4, rfl, ?_⟩
    refine' e_ixL <| e_var (i := 5) rfl <| e_int ⟨la, _, 1, .dat (encM l2), rfl, rfl, .inl hl4, rfl, _, _, rfl, rfl, ok1.nice, ok2.nice, ?_⟩
    have ev : PyData.eqv (encM l1) (encM l2) = false := by
      cases h : PyData.eqv (encM l1) (encM l2) with
      | false => rfl
      | true => exact absurd ((niceM.eq l1 l2).mp h) ne
    rw [ev]
    refine' e_isN <| e_var (i := 6) rfl ⟨_, _, true, rfl, rfl, rfl, fun z => ff z, fun _ => w_nil ?_⟩
    refine' w_cons <| w_if <| t_isN <| e_var (i := 6) rfl ⟨fun z => ff z, fun _ => w_nil ?_⟩
    refine w_cons <| w_if <| WT.imp (T := fun μ' b => μ' la = some (.lst [.dat (encM l1), .dat (encM l2)]) ∧ b = false) ?_ fun μ' b ⟨h', hb⟩ => ⟨fun z => by rw [hb] at z; exact ff z, fun _ => w_nil ?_⟩
    · refine' t_w <| t_or <| t_eqD hr.units <| e_call can hr ?_ (by omega)
      refine' a_cons <| e_var (i := 2) rfl <| a_cons <| e_var (i := 6) rfl <| a_nil ⟨m, log, rfl, om8, tgs, ll, fun μ15 m15 => ?_⟩
      refine' e_call can hr ?_ (by omega)
      refine' a_cons <| e_var (i := 3) rfl <| a_cons <| e_var (i := 6) rfl <| a_nil ⟨n, log, rfl, on8, tgs2, ll, fun μ16 m16 => ?_⟩
      refine ⟨_, _, rfl, rfl, oka _, oka _, ?_⟩
      rw [niceAs.eqb, decide_eq_false hne]
      refine ⟨fun _ => ?_, fun z => ff z⟩
      refine' t_or1 <| t_neD hr.units <| e_call can hr ?_ (by omega)
      have hl6 := m16 _ _ (m15 _ _ hl4)
      refine' a_cons <| e_ixL <| e_var (i := 5) rfl <| e_int ⟨la, _, 0, .dat (encM l1), rfl, rfl, .inl hl6, rfl, ?_⟩
      refine' a_cons <| e_var (i := 6) rfl <| a_nil ⟨l1, log, rfl, ok1, fun e he => by rw [tg1]; exact tgs e he, ll, fun μ17 m17 => ?_⟩
      refine' e_call can hr ?_ (by omega)
      refine' a_cons <| e_var (i := 2) rfl <| a_cons <| e_var (i := 6) rfl <| a_nil ⟨m, log, rfl, om8, tgs, ll, fun μ18 m18 => ?_⟩
      refine ⟨_, _, rfl, rfl, oka _, oka _, m18 _ _ (m17 _ _ hl6), ?_⟩
      rw [niceAs.eqb, decide_eq_true q1.symm]; rfl
    refine' w_one <| w_ret <| e_eqD hr.units <| e_call can hr ?_ (by omega)
    refine' a_cons <| e_ixL <| e_var (i := 5) rfl <| e_int ⟨la, _, 1, .dat (encM l2), rfl, rfl, .inl h', rfl, ?_⟩
    refine' a_cons <| e_var (i := 6) rfl <| a_nil ⟨l2, log, rfl, ok2, fun e he => by rw [tg2]; exact tgs2 e he, ll, fun μ15 m15 => ?_⟩
    refine' e_call can hr ?_ (by omega)
    refine' a_cons <| e_var (i := 3) rfl <| a_cons <| e_var (i := 6) rfl <| a_nil ⟨n, log, rfl, on8, tgs2, ll, fun μ16 m16 => ?_⟩
    refine ⟨_, _, rfl, rfl, oka _, oka _, ?_⟩
    rw [niceAs.eqb, decide_eq_true q2.symm]
    exact hP _
end
end AV
-- text AVRun
set_option Elab.async false
set_option linter.all false
set_option maxRecDepth 100000
set_option maxHeartbeats 0
namespace AV
open PySem PySem.Spec PyProof.Rows L2
theorem run (w : World) : HandSHeadRun.RunEq R (PySem.W.view R.prog [61]) hk ob 3000 names w := by
  intro os
  kernel_rfl
end AV
-- text End
set_option Elab.async false
set_option linter.all false
set_option maxRecDepth 100000
set_option maxHeartbeats 0
/-! all defs joined; the head; the theorem -/
namespace AV
open PySem PySem.Spec PyProof.Rows L2 TH
section
variable {P : Program} {w : World} {K : PySem.W.Frag} {mg : Str → Option Value} {base : Heap}
theorem mkFn {x q : Str} {st : Stmt} {f : Addr} {fd : FuncData} {ps : List Str} {k : Nat} {sp : Sp} (F : FD K x q st f fd) (g : mg x = some (.ref f)) (B : Binds K fd ps []) (o : FnOk P w K mg base C8.CX0 k f fd ps sp) : C8.Cal P w K mg base k x sp [] := ⟨f, fd, ps, [], o, g, F.kp, B, .nil⟩
theorem mkMe {m : Str} {C f : Addr} {fd : FuncData} {ps : List Str} {k : Nat} {sp : Sp} (c : Cls K C) (h : Meth K C m f) (B : Binds K fd ps []) (o : FnOk P w K mg base C8.CX0 k f fd ps sp) : C8.Met P w K mg base k C m sp [] := ⟨f, fd, ps, [], c, h, o, B, .nil⟩
theorem mkMk {x : Str} {C f : Addr} {fd : FuncData} {ps : List Str} {k : Nat} {sp : Sp} (h : Mk K C f) (g : mg x = some (.ref C)) (B : Binds K fd ps []) (o : FnOk P w K mg base C8.CX0 k f fd ps sp) : C8.Mak P w K mg base k x C sp [] := ⟨f, fd, ps, [], h, o, g, B, .nil⟩
end
theorem facts {P : Program} {w : World} {K : PySem.W.Frag} {h : Heap} {mg : Str → Option Value} {f : Addr} (X : K.In h) (G : h.Ns mainGlobals mg) (hfa : mg ("law" : Str) = some (.ref f)) (c : He.SaysD fa fn K) :
    ∃ fd : FuncData, (∀ (s : Shared) (v : Value), BindsTo s fd ⟨[v], []⟩ [("_law_script", v)]) ∧ ∀ base : Heap, K.In base → base.Ns mainGlobals mg → FnOk P w K mg base C8.CX0 21 f fd ["_law_script"] (spOf P w K (G_law K)) := by
  have M : Md mg := ⟨He.free_ok X G (c.fact 75 (f := .free "len") rfl), He.free_ok X G (c.fact 76 (f := .free "range") rfl), He.free_ok X G (c.fact 77 (f := .free "tuple") rfl), He.free_ok X G (c.fact 78 (f := .free "list") rfl), He.free_ok X G (c.fact 79 (f := .free "sorted") rfl), He.free_ok X G (c.fact 80 (f := .free "set") rfl), He.free_ok X G (c.fact 81 (f := .free "enumerate") rfl), He.free_ok X G (c.fact 82 (f := .free "all") rfl), He.free_ok X G (c.fact 83 (f := .free "any") rfl), He.free_ok X G (c.fact 84 (f := .free "max") rfl), He.free_ok X G (c.fact 85 (f := .free "int") rfl), He.int_ok X G (c.fact 86 (f := .int "READ" (-1)) rfl), He.int_ok X G (c.fact 87 (f := .int "NOTHING" (-2)) rfl)⟩
  have PC : PairC K (He.ga K "Pair") := ⟨He.cls_ok (c.fact 54 (f := .cls "Pair") rfl), He.noat_ok (c.fact 67 (f := .noat "Pair" "one") rfl), He.noat_ok (c.fact 68 (f := .noat "Pair" "other") rfl), He.noat_ok (c.fact 69 (f := .noat "Pair" "closed") rfl)⟩
  have KC : KindC K (He.ga K "Kinds") := ⟨He.cls_ok (c.fact 55 (f := .cls "Kinds") rfl), He.noat_ok (c.fact 70 (f := .noat "Kinds" "machine") rfl), He.noat_ok (c.fact 71 (f := .noat "Kinds" "pair") rfl), He.noat_ok (c.fact 72 (f := .noat "Kinds" "types") rfl), He.noat_ok (c.fact 73 (f := .noat "Kinds" "needs") rfl), He.noat_ok (c.fact 74 (f := .noat "Kinds" "known") rfl)⟩
  obtain ⟨fd_value_at, F_value_at⟩ := c.def_ 0 (d := d_value_at) rfl
  have F_value_at : FD K "value_at" "value_at" s_value_at (He.fAd K ("value_at", none)) fd_value_at := F_value_at
  have g_value_at : mg "value_at" = some (.ref (He.fAd K ("value_at", none))) := He.glo_ok X G (c.fact 0 (f := .glo "value_at") rfl)
  obtain ⟨fd_holds, F_holds⟩ := c.def_ 1 (d := d_holds) rfl
  have F_holds : FD K "holds" "holds" s_holds (He.fAd K ("holds", none)) fd_holds := F_holds
  have g_holds : mg "holds" = some (.ref (He.fAd K ("holds", none))) := He.glo_ok X G (c.fact 1 (f := .glo "holds") rfl)
  obtain ⟨fd_beginning, F_beginning⟩ := c.def_ 2 (d := d_beginning) rfl
  have F_beginning : FD K "beginning" "beginning" s_beginning (He.fAd K ("beginning", none)) fd_beginning := F_beginning
  have g_beginning : mg "beginning" = some (.ref (He.fAd K ("beginning", none))) := He.glo_ok X G (c.fact 2 (f := .glo "beginning") rfl)
  obtain ⟨fd_case_for, F_case_for⟩ := c.def_ 3 (d := d_case_for) rfl
  have F_case_for : FD K "case_for" "case_for" s_case_for (He.fAd K ("case_for", none)) fd_case_for := F_case_for
  have g_case_for : mg "case_for" = some (.ref (He.fAd K ("case_for", none))) := He.glo_ok X G (c.fact 3 (f := .glo "case_for") rfl)
  obtain ⟨fd_read, F_read⟩ := c.def_ 4 (d := d_read) rfl
  have F_read : FD K "read" "read" s_read (He.fAd K ("read", none)) fd_read := F_read
  have g_read : mg "read" = some (.ref (He.fAd K ("read", none))) := He.glo_ok X G (c.fact 4 (f := .glo "read") rfl)
  obtain ⟨fd_answers_from, F_answers_from⟩ := c.def_ 5 (d := d_answers_from) rfl
  have F_answers_from : FD K "answers_from" "answers_from" s_answers_from (He.fAd K ("answers_from", none)) fd_answers_from := F_answers_from
  have g_answers_from : mg "answers_from" = some (.ref (He.fAd K ("answers_from", none))) := He.glo_ok X G (c.fact 5 (f := .glo "answers_from") rfl)
  obtain ⟨fd_answers, F_answers⟩ := c.def_ 6 (d := d_answers) rfl
  have F_answers : FD K "answers" "answers" s_answers (He.fAd K ("answers", none)) fd_answers := F_answers
  have g_answers : mg "answers" = some (.ref (He.fAd K ("answers", none))) := He.glo_ok X G (c.fact 6 (f := .glo "answers") rfl)
  obtain ⟨fd_ranks_of, F_ranks_of⟩ := c.def_ 7 (d := d_ranks_of) rfl
  have F_ranks_of : FD K "ranks_of" "ranks_of" s_ranks_of (He.fAd K ("ranks_of", none)) fd_ranks_of := F_ranks_of
  have g_ranks_of : mg "ranks_of" = some (.ref (He.fAd K ("ranks_of", none))) := He.glo_ok X G (c.fact 7 (f := .glo "ranks_of") rfl)
  obtain ⟨fd_type_of, F_type_of⟩ := c.def_ 8 (d := d_type_of) rfl
  have F_type_of : FD K "type_of" "type_of" s_type_of (He.fAd K ("type_of", none)) fd_type_of := F_type_of
  have g_type_of : mg "type_of" = some (.ref (He.fAd K ("type_of", none))) := He.glo_ok X G (c.fact 8 (f := .glo "type_of") rfl)
  obtain ⟨fd_content_of, F_content_of⟩ := c.def_ 9 (d := d_content_of) rfl
  have F_content_of : FD K "content_of" "content_of" s_content_of (He.fAd K ("content_of", none)) fd_content_of := F_content_of
  have g_content_of : mg "content_of" = some (.ref (He.fAd K ("content_of", none))) := He.glo_ok X G (c.fact 9 (f := .glo "content_of") rfl)
  obtain ⟨fd_spots_of, F_spots_of⟩ := c.def_ 10 (d := d_spots_of) rfl
  have F_spots_of : FD K "spots_of" "spots_of" s_spots_of (He.fAd K ("spots_of", none)) fd_spots_of := F_spots_of
  have g_spots_of : mg "spots_of" = some (.ref (He.fAd K ("spots_of", none))) := He.glo_ok X G (c.fact 10 (f := .glo "spots_of") rfl)
  obtain ⟨fd_with_values, F_with_values⟩ := c.def_ 16 (d := d_with_values) rfl
  have F_with_values : FD K "with_values" "with_values" s_with_values (He.fAd K ("with_values", none)) fd_with_values := F_with_values
  have g_with_values : mg "with_values" = some (.ref (He.fAd K ("with_values", none))) := He.glo_ok X G (c.fact 11 (f := .glo "with_values") rfl)
  obtain ⟨fd_Pair_init, F_Pair_init⟩ := c.def_ 11 (d := d_Pair_init) rfl
  have F_Pair_init : FD K "__init__" "Pair.__init__" s_Pair_init (He.fAd K ("Pair", some "__init__")) fd_Pair_init := F_Pair_init
  obtain ⟨fd_Pair_joint_type, F_Pair_joint_type⟩ := c.def_ 12 (d := d_Pair_joint_type) rfl
  have F_Pair_joint_type : FD K "joint_type" "Pair.joint_type" s_Pair_joint_type (He.fAd K ("Pair", some "joint_type")) fd_Pair_joint_type := F_Pair_joint_type
  obtain ⟨fd_Pair_contents, F_Pair_contents⟩ := c.def_ 13 (d := d_Pair_contents) rfl
  have F_Pair_contents : FD K "contents" "Pair.contents" s_Pair_contents (He.fAd K ("Pair", some "contents")) fd_Pair_contents := F_Pair_contents
  obtain ⟨fd_Pair_after, F_Pair_after⟩ := c.def_ 14 (d := d_Pair_after) rfl
  have F_Pair_after : FD K "after" "Pair.after" s_Pair_after (He.fAd K ("Pair", some "after")) fd_Pair_after := F_Pair_after
  obtain ⟨fd_Pair_is_parted, F_Pair_is_parted⟩ := c.def_ 15 (d := d_Pair_is_parted) rfl
  have F_Pair_is_parted : FD K "is_parted" "Pair.is_parted" s_Pair_is_parted (He.fAd K ("Pair", some "is_parted")) fd_Pair_is_parted := F_Pair_is_parted
  obtain ⟨fd_needed_by, F_needed_by⟩ := c.def_ 17 (d := d_needed_by) rfl
  have F_needed_by : FD K "needed_by" "needed_by" s_needed_by (He.fAd K ("needed_by", none)) fd_needed_by := F_needed_by
  have g_needed_by : mg "needed_by" = some (.ref (He.fAd K ("needed_by", none))) := He.glo_ok X G (c.fact 12 (f := .glo "needed_by") rfl)
  obtain ⟨fd_spread, F_spread⟩ := c.def_ 18 (d := d_spread) rfl
  have F_spread : FD K "spread" "spread" s_spread (He.fAd K ("spread", none)) fd_spread := F_spread
  have g_spread : mg "spread" = some (.ref (He.fAd K ("spread", none))) := He.glo_ok X G (c.fact 13 (f := .glo "spread") rfl)
  obtain ⟨fd_of_one_kind, F_of_one_kind⟩ := c.def_ 19 (d := d_of_one_kind) rfl
  have F_of_one_kind : FD K "of_one_kind" "of_one_kind" s_of_one_kind (He.fAd K ("of_one_kind", none)) fd_of_one_kind := F_of_one_kind
  have g_of_one_kind : mg "of_one_kind" = some (.ref (He.fAd K ("of_one_kind", none))) := He.glo_ok X G (c.fact 14 (f := .glo "of_one_kind") rfl)
  obtain ⟨fd_lowest_spot, F_lowest_spot⟩ := c.def_ 20 (d := d_lowest_spot) rfl
  have F_lowest_spot : FD K "lowest_spot" "lowest_spot" s_lowest_spot (He.fAd K ("lowest_spot", none)) fd_lowest_spot := F_lowest_spot
  have g_lowest_spot : mg "lowest_spot" = some (.ref (He.fAd K ("lowest_spot", none))) := He.glo_ok X G (c.fact 15 (f := .glo "lowest_spot") rfl)
  obtain ⟨fd_Kinds_needs_of, F_Kinds_needs_of⟩ := c.def_ 22 (d := d_Kinds_needs_of) rfl
  have F_Kinds_needs_of : FD K "needs_of" "Kinds.needs_of" s_Kinds_needs_of (He.fAd K ("Kinds", some "needs_of")) fd_Kinds_needs_of := F_Kinds_needs_of
  obtain ⟨fd_Kinds_number, F_Kinds_number⟩ := c.def_ 23 (d := d_Kinds_number) rfl
  have F_Kinds_number : FD K "number" "Kinds.number" s_Kinds_number (He.fAd K ("Kinds", some "number")) fd_Kinds_number := F_Kinds_number
  obtain ⟨fd_Kinds_step, F_Kinds_step⟩ := c.def_ 24 (d := d_Kinds_step) rfl
  have F_Kinds_step : FD K "step" "Kinds.step" s_Kinds_step (He.fAd K ("Kinds", some "step")) fd_Kinds_step := F_Kinds_step
  obtain ⟨fd_Kinds_source, F_Kinds_source⟩ := c.def_ 25 (d := d_Kinds_source) rfl
  have F_Kinds_source : FD K "source" "Kinds.source" s_Kinds_source (He.fAd K ("Kinds", some "source")) fd_Kinds_source := F_Kinds_source
  obtain ⟨fd_Kinds_case, F_Kinds_case⟩ := c.def_ 26 (d := d_Kinds_case) rfl
  have F_Kinds_case : FD K "case" "Kinds.case" s_Kinds_case (He.fAd K ("Kinds", some "case")) fd_Kinds_case := F_Kinds_case
  obtain ⟨fd_Kinds_init, F_Kinds_init⟩ := c.def_ 21 (d := d_Kinds_init) rfl
  have F_Kinds_init : FD K "__init__" "Kinds.__init__" s_Kinds_init (He.fAd K ("Kinds", some "__init__")) fd_Kinds_init := F_Kinds_init
  obtain ⟨fd_found_kinds, F_found_kinds⟩ := c.def_ 27 (d := d_found_kinds) rfl
  have F_found_kinds : FD K "found_kinds" "found_kinds" s_found_kinds (He.fAd K ("found_kinds", none)) fd_found_kinds := F_found_kinds
  have g_found_kinds : mg "found_kinds" = some (.ref (He.fAd K ("found_kinds", none))) := He.glo_ok X G (c.fact 16 (f := .glo "found_kinds") rfl)
  obtain ⟨fd_spot_condition, F_spot_condition⟩ := c.def_ 28 (d := d_spot_condition) rfl
  have F_spot_condition : FD K "spot_condition" "spot_condition" s_spot_condition (He.fAd K ("spot_condition", none)) fd_spot_condition := F_spot_condition
  have g_spot_condition : mg "spot_condition" = some (.ref (He.fAd K ("spot_condition", none))) := He.glo_ok X G (c.fact 17 (f := .glo "spot_condition") rfl)
  obtain ⟨fd_least_machine, F_least_machine⟩ := c.def_ 29 (d := d_least_machine) rfl
  have F_least_machine : FD K "least_machine" "least_machine" s_least_machine (He.fAd K ("least_machine", none)) fd_least_machine := F_least_machine
  have g_least_machine : mg "least_machine" = some (.ref (He.fAd K ("least_machine", none))) := He.glo_ok X G (c.fact 18 (f := .glo "least_machine") rfl)
  obtain ⟨fd__law_take, F__law_take⟩ := c.def_ 31 (d := d__law_take) rfl
  have F__law_take : FD K "_law_take" "_law_take" s__law_take (He.fAd K ("_law_take", none)) fd__law_take := F__law_take
  have g__law_take : mg "_law_take" = some (.ref (He.fAd K ("_law_take", none))) := He.glo_ok X G (c.fact 20 (f := .glo "_law_take") rfl)
  obtain ⟨fd__law_draws, F__law_draws⟩ := c.def_ 30 (d := d__law_draws) rfl
  have F__law_draws : FD K "_law_draws" "_law_draws" s__law_draws (He.fAd K ("_law_draws", none)) fd__law_draws := F__law_draws
  have g__law_draws : mg "_law_draws" = some (.ref (He.fAd K ("_law_draws", none))) := He.glo_ok X G (c.fact 19 (f := .glo "_law_draws") rfl)
  obtain ⟨fd__law_condition, F__law_condition⟩ := c.def_ 32 (d := d__law_condition) rfl
  have F__law_condition : FD K "_law_condition" "_law_condition" s__law_condition (He.fAd K ("_law_condition", none)) fd__law_condition := F__law_condition
  have g__law_condition : mg "_law_condition" = some (.ref (He.fAd K ("_law_condition", none))) := He.glo_ok X G (c.fact 21 (f := .glo "_law_condition") rfl)
  obtain ⟨fd__law_drawn_case, F__law_drawn_case⟩ := c.def_ 33 (d := d__law_drawn_case) rfl
  have F__law_drawn_case : FD K "_law_drawn_case" "_law_drawn_case" s__law_drawn_case (He.fAd K ("_law_drawn_case", none)) fd__law_drawn_case := F__law_drawn_case
  have g__law_drawn_case : mg "_law_drawn_case" = some (.ref (He.fAd K ("_law_drawn_case", none))) := He.glo_ok X G (c.fact 22 (f := .glo "_law_drawn_case") rfl)
  obtain ⟨fd__law_drawn_machine, F__law_drawn_machine⟩ := c.def_ 34 (d := d__law_drawn_machine) rfl
  have F__law_drawn_machine : FD K "_law_drawn_machine" "_law_drawn_machine" s__law_drawn_machine (He.fAd K ("_law_drawn_machine", none)) fd__law_drawn_machine := F__law_drawn_machine
  have g__law_drawn_machine : mg "_law_drawn_machine" = some (.ref (He.fAd K ("_law_drawn_machine", none))) := He.glo_ok X G (c.fact 23 (f := .glo "_law_drawn_machine") rfl)
  obtain ⟨fd__law_shaped_machine, F__law_shaped_machine⟩ := c.def_ 35 (d := d__law_shaped_machine) rfl
  have F__law_shaped_machine : FD K "_law_shaped_machine" "_law_shaped_machine" s__law_shaped_machine (He.fAd K ("_law_shaped_machine", none)) fd__law_shaped_machine := F__law_shaped_machine
  have g__law_shaped_machine : mg "_law_shaped_machine" = some (.ref (He.fAd K ("_law_shaped_machine", none))) := He.glo_ok X G (c.fact 24 (f := .glo "_law_shaped_machine") rfl)
  obtain ⟨fd__law_with_case, F__law_with_case⟩ := c.def_ 36 (d := d__law_with_case) rfl
  have F__law_with_case : FD K "_law_with_case" "_law_with_case" s__law_with_case (He.fAd K ("_law_with_case", none)) fd__law_with_case := F__law_with_case
  have g__law_with_case : mg "_law_with_case" = some (.ref (He.fAd K ("_law_with_case", none))) := He.glo_ok X G (c.fact 25 (f := .glo "_law_with_case") rfl)
  obtain ⟨fd__law_changed, F__law_changed⟩ := c.def_ 37 (d := d__law_changed) rfl
  have F__law_changed : FD K "_law_changed" "_law_changed" s__law_changed (He.fAd K ("_law_changed", none)) fd__law_changed := F__law_changed
  have g__law_changed : mg "_law_changed" = some (.ref (He.fAd K ("_law_changed", none))) := He.glo_ok X G (c.fact 26 (f := .glo "_law_changed") rfl)
  obtain ⟨fd__law_with_tag, F__law_with_tag⟩ := c.def_ 39 (d := d__law_with_tag) rfl
  have F__law_with_tag : FD K "_law_with_tag" "_law_with_tag" s__law_with_tag (He.fAd K ("_law_with_tag", none)) fd__law_with_tag := F__law_with_tag
  have g__law_with_tag : mg "_law_with_tag" = some (.ref (He.fAd K ("_law_with_tag", none))) := He.glo_ok X G (c.fact 28 (f := .glo "_law_with_tag") rfl)
  obtain ⟨fd__law_machine, F__law_machine⟩ := c.def_ 38 (d := d__law_machine) rfl
  have F__law_machine : FD K "_law_machine" "_law_machine" s__law_machine (He.fAd K ("_law_machine", none)) fd__law_machine := F__law_machine
  have g__law_machine : mg "_law_machine" = some (.ref (He.fAd K ("_law_machine", none))) := He.glo_ok X G (c.fact 27 (f := .glo "_law_machine") rfl)
  obtain ⟨fd__law_at, F__law_at⟩ := c.def_ 40 (d := d__law_at) rfl
  have F__law_at : FD K "_law_at" "_law_at" s__law_at (He.fAd K ("_law_at", none)) fd__law_at := F__law_at
  have g__law_at : mg "_law_at" = some (.ref (He.fAd K ("_law_at", none))) := He.glo_ok X G (c.fact 29 (f := .glo "_law_at") rfl)
  obtain ⟨fd__law_holds, F__law_holds⟩ := c.def_ 41 (d := d__law_holds) rfl
  have F__law_holds : FD K "_law_holds" "_law_holds" s__law_holds (He.fAd K ("_law_holds", none)) fd__law_holds := F__law_holds
  have g__law_holds : mg "_law_holds" = some (.ref (He.fAd K ("_law_holds", none))) := He.glo_ok X G (c.fact 30 (f := .glo "_law_holds") rfl)
  obtain ⟨fd__law_case, F__law_case⟩ := c.def_ 42 (d := d__law_case) rfl
  have F__law_case : FD K "_law_case" "_law_case" s__law_case (He.fAd K ("_law_case", none)) fd__law_case := F__law_case
  have g__law_case : mg "_law_case" = some (.ref (He.fAd K ("_law_case", none))) := He.glo_ok X G (c.fact 31 (f := .glo "_law_case") rfl)
  obtain ⟨fd__law_read, F__law_read⟩ := c.def_ 43 (d := d__law_read) rfl
  have F__law_read : FD K "_law_read" "_law_read" s__law_read (He.fAd K ("_law_read", none)) fd__law_read := F__law_read
  have g__law_read : mg "_law_read" = some (.ref (He.fAd K ("_law_read", none))) := He.glo_ok X G (c.fact 32 (f := .glo "_law_read") rfl)
  obtain ⟨fd__law_begin, F__law_begin⟩ := c.def_ 44 (d := d__law_begin) rfl
  have F__law_begin : FD K "_law_begin" "_law_begin" s__law_begin (He.fAd K ("_law_begin", none)) fd__law_begin := F__law_begin
  have g__law_begin : mg "_law_begin" = some (.ref (He.fAd K ("_law_begin", none))) := He.glo_ok X G (c.fact 33 (f := .glo "_law_begin") rfl)
  obtain ⟨fd__law_ranks, F__law_ranks⟩ := c.def_ 45 (d := d__law_ranks) rfl
  have F__law_ranks : FD K "_law_ranks" "_law_ranks" s__law_ranks (He.fAd K ("_law_ranks", none)) fd__law_ranks := F__law_ranks
  have g__law_ranks : mg "_law_ranks" = some (.ref (He.fAd K ("_law_ranks", none))) := He.glo_ok X G (c.fact 34 (f := .glo "_law_ranks") rfl)
  obtain ⟨fd__law_many, F__law_many⟩ := c.def_ 46 (d := d__law_many) rfl
  have F__law_many : FD K "_law_many" "_law_many" s__law_many (He.fAd K ("_law_many", none)) fd__law_many := F__law_many
  have g__law_many : mg "_law_many" = some (.ref (He.fAd K ("_law_many", none))) := He.glo_ok X G (c.fact 35 (f := .glo "_law_many") rfl)
  obtain ⟨fd__law_shown, F__law_shown⟩ := c.def_ 47 (d := d__law_shown) rfl
  have F__law_shown : FD K "_law_shown" "_law_shown" s__law_shown (He.fAd K ("_law_shown", none)) fd__law_shown := F__law_shown
  have g__law_shown : mg "_law_shown" = some (.ref (He.fAd K ("_law_shown", none))) := He.glo_ok X G (c.fact 36 (f := .glo "_law_shown") rfl)
  obtain ⟨fd__law_path, F__law_path⟩ := c.def_ 48 (d := d__law_path) rfl
  have F__law_path : FD K "_law_path" "_law_path" s__law_path (He.fAd K ("_law_path", none)) fd__law_path := F__law_path
  have g__law_path : mg "_law_path" = some (.ref (He.fAd K ("_law_path", none))) := He.glo_ok X G (c.fact 37 (f := .glo "_law_path") rfl)
  obtain ⟨fd__law_placed_in, F__law_placed_in⟩ := c.def_ 49 (d := d__law_placed_in) rfl
  have F__law_placed_in : FD K "_law_placed_in" "_law_placed_in" s__law_placed_in (He.fAd K ("_law_placed_in", none)) fd__law_placed_in := F__law_placed_in
  have g__law_placed_in : mg "_law_placed_in" = some (.ref (He.fAd K ("_law_placed_in", none))) := He.glo_ok X G (c.fact 38 (f := .glo "_law_placed_in") rfl)
  obtain ⟨fd__law_items, F__law_items⟩ := c.def_ 50 (d := d__law_items) rfl
  have F__law_items : FD K "_law_items" "_law_items" s__law_items (He.fAd K ("_law_items", none)) fd__law_items := F__law_items
  have g__law_items : mg "_law_items" = some (.ref (He.fAd K ("_law_items", none))) := He.glo_ok X G (c.fact 39 (f := .glo "_law_items") rfl)
  obtain ⟨fd__law_numbers, F__law_numbers⟩ := c.def_ 51 (d := d__law_numbers) rfl
  have F__law_numbers : FD K "_law_numbers" "_law_numbers" s__law_numbers (He.fAd K ("_law_numbers", none)) fd__law_numbers := F__law_numbers
  have g__law_numbers : mg "_law_numbers" = some (.ref (He.fAd K ("_law_numbers", none))) := He.glo_ok X G (c.fact 40 (f := .glo "_law_numbers") rfl)
  obtain ⟨fd__law_parting, F__law_parting⟩ := c.def_ 52 (d := d__law_parting) rfl
  have F__law_parting : FD K "_law_parting" "_law_parting" s__law_parting (He.fAd K ("_law_parting", none)) fd__law_parting := F__law_parting
  have g__law_parting : mg "_law_parting" = some (.ref (He.fAd K ("_law_parting", none))) := He.glo_ok X G (c.fact 41 (f := .glo "_law_parting") rfl)
  obtain ⟨fd__law_other_words, F__law_other_words⟩ := c.def_ 53 (d := d__law_other_words) rfl
  have F__law_other_words : FD K "_law_other_words" "_law_other_words" s__law_other_words (He.fAd K ("_law_other_words", none)) fd__law_other_words := F__law_other_words
  have g__law_other_words : mg "_law_other_words" = some (.ref (He.fAd K ("_law_other_words", none))) := He.glo_ok X G (c.fact 42 (f := .glo "_law_other_words") rfl)
  obtain ⟨fd__law_place, F__law_place⟩ := c.def_ 55 (d := d__law_place) rfl
  have F__law_place : FD K "_law_place" "_law_place" s__law_place (He.fAd K ("_law_place", none)) fd__law_place := F__law_place
  have g__law_place : mg "_law_place" = some (.ref (He.fAd K ("_law_place", none))) := He.glo_ok X G (c.fact 44 (f := .glo "_law_place") rfl)
  obtain ⟨fd__law_renamed_condition, F__law_renamed_condition⟩ := c.def_ 54 (d := d__law_renamed_condition) rfl
  have F__law_renamed_condition : FD K "_law_renamed_condition" "_law_renamed_condition" s__law_renamed_condition (He.fAd K ("_law_renamed_condition", none)) fd__law_renamed_condition := F__law_renamed_condition
  have g__law_renamed_condition : mg "_law_renamed_condition" = some (.ref (He.fAd K ("_law_renamed_condition", none))) := He.glo_ok X G (c.fact 43 (f := .glo "_law_renamed_condition") rfl)
  obtain ⟨fd__law_mixed, F__law_mixed⟩ := c.def_ 56 (d := d__law_mixed) rfl
  have F__law_mixed : FD K "_law_mixed" "_law_mixed" s__law_mixed (He.fAd K ("_law_mixed", none)) fd__law_mixed := F__law_mixed
  have g__law_mixed : mg "_law_mixed" = some (.ref (He.fAd K ("_law_mixed", none))) := He.glo_ok X G (c.fact 45 (f := .glo "_law_mixed") rfl)
  obtain ⟨fd__law_mapped, F__law_mapped⟩ := c.def_ 57 (d := d__law_mapped) rfl
  have F__law_mapped : FD K "_law_mapped" "_law_mapped" s__law_mapped (He.fAd K ("_law_mapped", none)) fd__law_mapped := F__law_mapped
  have g__law_mapped : mg "_law_mapped" = some (.ref (He.fAd K ("_law_mapped", none))) := He.glo_ok X G (c.fact 46 (f := .glo "_law_mapped") rfl)
  obtain ⟨fd__law_doubled, F__law_doubled⟩ := c.def_ 58 (d := d__law_doubled) rfl
  have F__law_doubled : FD K "_law_doubled" "_law_doubled" s__law_doubled (He.fAd K ("_law_doubled", none)) fd__law_doubled := F__law_doubled
  have g__law_doubled : mg "_law_doubled" = some (.ref (He.fAd K ("_law_doubled", none))) := He.glo_ok X G (c.fact 47 (f := .glo "_law_doubled") rfl)
  obtain ⟨fd__law_renumbered, F__law_renumbered⟩ := c.def_ 59 (d := d__law_renumbered) rfl
  have F__law_renumbered : FD K "_law_renumbered" "_law_renumbered" s__law_renumbered (He.fAd K ("_law_renumbered", none)) fd__law_renumbered := F__law_renumbered
  have g__law_renumbered : mg "_law_renumbered" = some (.ref (He.fAd K ("_law_renumbered", none))) := He.glo_ok X G (c.fact 48 (f := .glo "_law_renumbered") rfl)
  obtain ⟨fd__law_rewritten, F__law_rewritten⟩ := c.def_ 60 (d := d__law_rewritten) rfl
  have F__law_rewritten : FD K "_law_rewritten" "_law_rewritten" s__law_rewritten (He.fAd K ("_law_rewritten", none)) fd__law_rewritten := F__law_rewritten
  have g__law_rewritten : mg "_law_rewritten" = some (.ref (He.fAd K ("_law_rewritten", none))) := He.glo_ok X G (c.fact 49 (f := .glo "_law_rewritten") rfl)
  obtain ⟨fd__law_cycle, F__law_cycle⟩ := c.def_ 61 (d := d__law_cycle) rfl
  have F__law_cycle : FD K "_law_cycle" "_law_cycle" s__law_cycle (He.fAd K ("_law_cycle", none)) fd__law_cycle := F__law_cycle
  have g__law_cycle : mg "_law_cycle" = some (.ref (He.fAd K ("_law_cycle", none))) := He.glo_ok X G (c.fact 50 (f := .glo "_law_cycle") rfl)
  obtain ⟨fd_law, F_law⟩ := c.def_ 62 (d := d_law) rfl
  have F_law : FD K "law" "law" s_law (He.fAd K ("law", none)) fd_law := F_law
  have g_law : mg "law" = some (.ref (He.fAd K ("law", none))) := He.glo_ok X G (c.fact 51 (f := .glo "law") rfl)
  have g_Pair : mg "Pair" = some (.ref (He.ga K "Pair")) := He.glo_ok X G (c.fact 52 (f := .glo "Pair") rfl)
  have g_Kinds : mg "Kinds" = some (.ref (He.ga K "Kinds")) := He.glo_ok X G (c.fact 53 (f := .glo "Kinds") rfl)
  have el := hfa.symm.trans g_law
  have el : f = He.fAd K ("law", none) := by simpa using el
  subst el
  have bl := FunD.bindsA (ps := ["_law_script"]) F_law fun _ _ _ _ _ _ us hl => match us, hl with | [_], _ => rfl
  refine ⟨fd_law, fun s v => bl s [v] rfl, fun base _ _ => ?_⟩
  have c_value_at : Fn P w K mg base 1 "value_at" G_value_at := mkFn F_value_at g_value_at (FunD.bindsN F_value_at fun _ _ _ _ _ _ us hl => match us, hl with | [_, _, _], _ => rfl) (ok_value_at F_value_at M)
  have c_holds : Fn P w K mg base 10 "holds" (G_holds 8) := c_holds F_holds M c_value_at (fun k sp o => mkFn F_holds g_holds (FunD.bindsN F_holds fun _ _ _ _ _ _ us hl => match us, hl with | [_, _, _], _ => rfl) o) 8
  have c_beginning : Fn P w K mg base 1 "beginning" G_beginning := mkFn F_beginning g_beginning (FunD.bindsN F_beginning fun _ _ _ _ _ _ us hl => match us, hl with | [_], _ => rfl) (ok_beginning F_beginning M)
  have c_case_for : Fn P w K mg base 11 "case_for" G_case_for := mkFn F_case_for g_case_for (FunD.bindsN F_case_for fun _ _ _ _ _ _ us hl => match us, hl with | [_, _, _], _ => rfl) (ok_case_for F_case_for M c_holds)
  have c_read : Fn P w K mg base 12 "read" G_read := mkFn F_read g_read (FunD.bindsN F_read fun _ _ _ _ _ _ us hl => match us, hl with | [_, _, _], _ => rfl) (ok_read F_read M c_case_for c_value_at)
  have c_answers_from : Fn P w K mg base 13 "answers_from" G_answers_from := mkFn F_answers_from g_answers_from (FunD.bindsN F_answers_from fun _ _ _ _ _ _ us hl => match us, hl with | [_, _, _], _ => rfl) (ok_answers_from F_answers_from M c_read)
  have c_answers : Fn P w K mg base 14 "answers" G_answers := mkFn F_answers g_answers (FunD.bindsN F_answers fun _ _ _ _ _ _ us hl => match us, hl with | [_, _], _ => rfl) (ok_answers F_answers M c_answers_from c_beginning)
  have c_ranks_of : Fn P w K mg base 1 "ranks_of" G_ranks_of := mkFn F_ranks_of g_ranks_of (FunD.bindsN F_ranks_of fun _ _ _ _ _ _ us hl => match us, hl with | [_], _ => rfl) (ok_ranks_of F_ranks_of M)
  have c_type_of : Fn P w K mg base 2 "type_of" G_type_of := mkFn F_type_of g_type_of (FunD.bindsN F_type_of fun _ _ _ _ _ _ us hl => match us, hl with | [_], _ => rfl) (ok_type_of F_type_of M c_ranks_of)
  have c_content_of : Fn P w K mg base 1 "content_of" G_content_of := mkFn F_content_of g_content_of (FunD.bindsN F_content_of fun _ _ _ _ _ _ us hl => match us, hl with | [_], _ => rfl) (ok_content_of F_content_of M)
  have c_spots_of : Fn P w K mg base 1 "spots_of" G_spots_of := mkFn F_spots_of g_spots_of (FunD.bindsN F_spots_of fun _ _ _ _ _ _ us hl => match us, hl with | [_], _ => rfl) (ok_spots_of F_spots_of M)
  have c_with_values : Fn P w K mg base 1 "with_values" G_with_values := mkFn F_with_values g_with_values (FunD.bindsN F_with_values fun _ _ _ _ _ _ us hl => match us, hl with | [_, _], _ => rfl) (ok_with_values F_with_values M)
  have c_Pair_init : Mk' P w K mg base 1 "Pair" (He.ga K "Pair") (G_Pair_init (He.ga K "Pair")) := mkMk (He.mkr_ok (c.fact 56 (f := .mkr "Pair") rfl)) g_Pair (FunD.bindsN F_Pair_init fun _ _ _ _ _ _ us hl => match us, hl with | [_, _, _], _ => rfl) (ok_Pair_init F_Pair_init PC)
  have c_Pair_joint_type : Me P w K mg base 2 (He.ga K "Pair") "joint_type" G_joint_type := mkMe (He.cls_ok (c.fact 54 (f := .cls "Pair") rfl)) (He.meth_ok (c.fact 58 (f := .meth "Pair" "joint_type") rfl)) (FunD.bindsN F_Pair_joint_type fun _ _ _ _ _ _ us hl => match us, hl with | [_, _, _], _ => rfl) (ok_joint_type F_Pair_joint_type M c_ranks_of)
  have c_Pair_contents : Me P w K mg base 1 (He.ga K "Pair") "contents" (G_contents (He.ga K "Pair")) := mkMe (He.cls_ok (c.fact 54 (f := .cls "Pair") rfl)) (He.meth_ok (c.fact 59 (f := .meth "Pair" "contents") rfl)) (FunD.bindsN F_Pair_contents fun _ _ _ _ _ _ us hl => match us, hl with | [_, _], _ => rfl) (ok_contents F_Pair_contents M PC)
  have c_Pair_after : Me P w K mg base 13 (He.ga K "Pair") "after" (G_after (He.ga K "Pair")) := mkMe (He.cls_ok (c.fact 54 (f := .cls "Pair") rfl)) (He.meth_ok (c.fact 60 (f := .meth "Pair" "after") rfl)) (FunD.bindsN F_Pair_after fun _ _ _ _ _ _ us hl => match us, hl with | [_, _, _, _], _ => rfl) (ok_after F_Pair_after M PC c_read c_Pair_joint_type c_Pair_contents)
  have c_Pair_is_parted : Me P w K mg base 14 (He.ga K "Pair") "is_parted" (G_is_parted (He.ga K "Pair")) := mkMe (He.cls_ok (c.fact 54 (f := .cls "Pair") rfl)) (He.meth_ok (c.fact 61 (f := .meth "Pair" "is_parted") rfl)) (FunD.bindsN F_Pair_is_parted fun _ _ _ _ _ _ us hl => match us, hl with | [_, _, _], _ => rfl) (ok_is_parted F_Pair_is_parted M PC c_spots_of c_Pair_joint_type c_Pair_after)
  have c_needed_by : Fn P w K mg base 15 "needed_by" (G_needed_by (He.ga K "Pair")) := mkFn F_needed_by g_needed_by (FunD.bindsN F_needed_by fun _ _ _ _ _ _ us hl => match us, hl with | [_, _], _ => rfl) (ok_needed_by F_needed_by M PC c_spots_of c_with_values c_Pair_is_parted)
  have c_spread : Fn P w K mg base 2 "spread" G_spread := mkFn F_spread g_spread (FunD.bindsN F_spread fun _ _ _ _ _ _ us hl => match us, hl with | [_, _, _, _], _ => rfl) (ok_spread F_spread M c_spots_of c_with_values)
  have c_of_one_kind : Fn P w K mg base 15 "of_one_kind" (G_of_one_kind (He.ga K "Pair")) := mkFn F_of_one_kind g_of_one_kind (FunD.bindsN F_of_one_kind fun _ _ _ _ _ _ us hl => match us, hl with | [_, _, _, _, _], _ => rfl) (ok_of_one_kind F_of_one_kind M c_spots_of c_spread c_Pair_is_parted)
  have c_lowest_spot : Fn P w K mg base 1 "lowest_spot" G_lowest_spot := mkFn F_lowest_spot g_lowest_spot (FunD.bindsN F_lowest_spot fun _ _ _ _ _ _ us hl => match us, hl with | [_, _], _ => rfl) (ok_lowest_spot F_lowest_spot M)
  have c_Kinds_needs_of : Me P w K mg base 16 (He.ga K "Kinds") "needs_of" (G_needs_of (He.ga K "Pair") (He.ga K "Kinds")) := mkMe (He.cls_ok (c.fact 55 (f := .cls "Kinds") rfl)) (He.meth_ok (c.fact 62 (f := .meth "Kinds" "needs_of") rfl)) (FunD.bindsN F_Kinds_needs_of fun _ _ _ _ _ _ us hl => match us, hl with | [_, _], _ => rfl) (ok_needs_of F_Kinds_needs_of KC c_needed_by)
  have c_Kinds_number : Me P w K mg base 17 (He.ga K "Kinds") "number" (G_number (He.ga K "Pair") (He.ga K "Kinds")) := mkMe (He.cls_ok (c.fact 55 (f := .cls "Kinds") rfl)) (He.meth_ok (c.fact 63 (f := .meth "Kinds" "number") rfl)) (FunD.bindsN F_Kinds_number fun _ _ _ _ _ _ us hl => match us, hl with | [_, _], _ => rfl) (ok_number F_Kinds_number M KC c_Kinds_needs_of c_of_one_kind)
  have c_Kinds_step : Me P w K mg base 13 (He.ga K "Kinds") "step" (G_step (He.ga K "Pair") (He.ga K "Kinds")) := mkMe (He.cls_ok (c.fact 55 (f := .cls "Kinds") rfl)) (He.meth_ok (c.fact 64 (f := .meth "Kinds" "step") rfl)) (FunD.bindsN F_Kinds_step fun _ _ _ _ _ _ us hl => match us, hl with | [_, _, _, _], _ => rfl) (ok_step F_Kinds_step KC c_lowest_spot c_read c_content_of)
  have c_Kinds_source : Me P w K mg base 1 (He.ga K "Kinds") "source" (G_source (He.ga K "Pair") (He.ga K "Kinds")) := mkMe (He.cls_ok (c.fact 55 (f := .cls "Kinds") rfl)) (He.meth_ok (c.fact 65 (f := .meth "Kinds" "source") rfl)) (FunD.bindsN F_Kinds_source fun _ _ _ _ _ _ us hl => match us, hl with | [_, _, _, _], _ => rfl) (ok_source F_Kinds_source KC)
  have c_Kinds_case : Me P w K mg base 18 (He.ga K "Kinds") "case" (G_case (He.ga K "Pair") (He.ga K "Kinds")) := mkMe (He.cls_ok (c.fact 55 (f := .cls "Kinds") rfl)) (He.meth_ok (c.fact 66 (f := .meth "Kinds" "case") rfl)) (FunD.bindsN F_Kinds_case fun _ _ _ _ _ _ us hl => match us, hl with | [_, _, _, _], _ => rfl) (ok_case F_Kinds_case M KC c_Kinds_step c_type_of c_Kinds_number c_Kinds_needs_of c_Kinds_source)
  have c_Kinds_init : Mk' P w K mg base 3 "Kinds" (He.ga K "Kinds") (G_Kinds_init (He.ga K "Pair") (He.ga K "Kinds")) := mkMk (He.mkr_ok (c.fact 57 (f := .mkr "Kinds") rfl)) g_Kinds (FunD.bindsN F_Kinds_init fun _ _ _ _ _ _ us hl => match us, hl with | [_, _], _ => rfl) (ok_Kinds_init F_Kinds_init KC c_Pair_init)
  have c_found_kinds : Fn P w K mg base 19 "found_kinds" (G_found_kinds (He.ga K "Pair") (He.ga K "Kinds")) := mkFn F_found_kinds g_found_kinds (FunD.bindsN F_found_kinds fun _ _ _ _ _ _ us hl => match us, hl with | [_], _ => rfl) (ok_found_kinds F_found_kinds M KC c_Kinds_init c_beginning c_type_of c_Kinds_number c_Kinds_case)
  have c_spot_condition : Fn P w K mg base 1 "spot_condition" G_spot_condition := mkFn F_spot_condition g_spot_condition (FunD.bindsN F_spot_condition fun _ _ _ _ _ _ us hl => match us, hl with | [_, _], _ => rfl) (ok_spot_condition F_spot_condition)
  have c_least_machine : Fn P w K mg base 20 "least_machine" G_least_machine := mkFn F_least_machine g_least_machine (FunD.bindsN F_least_machine fun _ _ _ _ _ _ us hl => match us, hl with | [_], _ => rfl) (ok_least_machine F_least_machine M KC c_found_kinds c_spot_condition)
  have c__law_take : Fn P w K mg base 1 "_law_take" G_take := mkFn F__law_take g__law_take (FunD.bindsN F__law_take fun _ _ _ _ _ _ us hl => match us, hl with | [_, _], _ => rfl) (ok_take F__law_take M)
  have c__law_draws : Fn P w K mg base 1 "_law_draws" (G_draws K) := mkFn F__law_draws g__law_draws (FunD.bindsN F__law_draws fun _ _ _ _ _ _ us hl => match us, hl with | [_, _], _ => rfl) (ok_draws F__law_draws M)
  have c3__law_condition : Fn P w K mg base 3 "_law_condition" (G_condition 1) := mkFn F__law_condition g__law_condition (FunD.bindsN F__law_condition fun _ _ _ _ _ _ us hl => match us, hl with | [_, _, _], _ => rfl) (ok_condition_step F__law_condition M c__law_take 1 (by omega) (fun z => absurd z (by omega)))
  have c__law_condition : Fn P w K mg base 4 "_law_condition" (G_condition 2) := mkFn F__law_condition g__law_condition (FunD.bindsN F__law_condition fun _ _ _ _ _ _ us hl => match us, hl with | [_, _, _], _ => rfl) (ok_condition_step F__law_condition M c__law_take 2 (by omega) fun _ => c3__law_condition)
  have c__law_drawn_case : Fn P w K mg base 2 "_law_drawn_case" G_drawn_case := mkFn F__law_drawn_case g__law_drawn_case (FunD.bindsN F__law_drawn_case fun _ _ _ _ _ _ us hl => match us, hl with | [_, _, _, _], _ => rfl) (ok_drawn_case F__law_drawn_case M c__law_take)
  have c__law_drawn_machine : Fn P w K mg base 5 "_law_drawn_machine" G_drawn_machine := mkFn F__law_drawn_machine g__law_drawn_machine (FunD.bindsN F__law_drawn_machine fun _ _ _ _ _ _ us hl => match us, hl with | [_, _, _, _], _ => rfl) (ok_drawn_machine F__law_drawn_machine M c__law_take c__law_condition c__law_drawn_case)
  have c__law_shaped_machine : Fn P w K mg base 2 "_law_shaped_machine" G_shaped := mkFn F__law_shaped_machine g__law_shaped_machine (FunD.bindsN F__law_shaped_machine fun _ _ _ _ _ _ us hl => match us, hl with | [_], _ => rfl) (ok_shaped F__law_shaped_machine c__law_take)
  have c__law_with_case : Fn P w K mg base 1 "_law_with_case" G_with_case := mkFn F__law_with_case g__law_with_case (FunD.bindsN F__law_with_case fun _ _ _ _ _ _ us hl => match us, hl with | [_, _, _, _], _ => rfl) (ok_with_case F__law_with_case M)
  have c__law_changed : Fn P w K mg base 5 "_law_changed" G_changed := mkFn F__law_changed g__law_changed (FunD.bindsN F__law_changed fun _ _ _ _ _ _ us hl => match us, hl with | [_, _], _ => rfl) (ok_changed F__law_changed M c__law_take c__law_condition c__law_drawn_case c__law_with_case)
  have c__law_with_tag : Fn P w K mg base 5 "_law_with_tag" G_with_tag := mkFn F__law_with_tag g__law_with_tag (FunD.bindsN F__law_with_tag fun _ _ _ _ _ _ us hl => match us, hl with | [_, _], _ => rfl) (ok_with_tag F__law_with_tag M c__law_take c__law_condition c__law_drawn_case)
  have c__law_machine : Fn P w K mg base 6 "_law_machine" G_machine := mkFn F__law_machine g__law_machine (FunD.bindsN F__law_machine fun _ _ _ _ _ _ us hl => match us, hl with | [_], _ => rfl) (ok_machine F__law_machine M c__law_take c__law_drawn_machine c__law_shaped_machine c__law_changed c__law_with_tag)
  have c__law_at : Fn P w K mg base 1 "_law_at" G_value_at := mkFn F__law_at g__law_at (FunD.bindsN F__law_at fun _ _ _ _ _ _ us hl => match us, hl with | [_, _, _], _ => rfl) (ok_lat F__law_at)
  have c__law_holds : Fn P w K mg base 10 "_law_holds" (G_holds 8) := c_lholds F__law_holds c__law_at (fun k sp o => mkFn F__law_holds g__law_holds (FunD.bindsN F__law_holds fun _ _ _ _ _ _ us hl => match us, hl with | [_, _, _], _ => rfl) o) 8
  have c__law_case : Fn P w K mg base 11 "_law_case" G_case_for := mkFn F__law_case g__law_case (FunD.bindsN F__law_case fun _ _ _ _ _ _ us hl => match us, hl with | [_, _, _], _ => rfl) (ok_lcase F__law_case M c__law_holds)
  have c__law_read : Fn P w K mg base 12 "_law_read" G_read := mkFn F__law_read g__law_read (FunD.bindsN F__law_read fun _ _ _ _ _ _ us hl => match us, hl with | [_, _, _], _ => rfl) (ok_lread F__law_read M c__law_case c__law_at)
  have c__law_begin : Fn P w K mg base 1 "_law_begin" G_beginning := mkFn F__law_begin g__law_begin (FunD.bindsN F__law_begin fun _ _ _ _ _ _ us hl => match us, hl with | [_], _ => rfl) (ok_lbegin F__law_begin M)
  have c__law_ranks : Fn P w K mg base 1 "_law_ranks" G_lranks := mkFn F__law_ranks g__law_ranks (FunD.bindsN F__law_ranks fun _ _ _ _ _ _ us hl => match us, hl with | [_], _ => rfl) (ok_lranks F__law_ranks M)
  have c__law_many : Fn P w K mg base 1 "_law_many" G_lmany := mkFn F__law_many g__law_many (FunD.bindsN F__law_many fun _ _ _ _ _ _ us hl => match us, hl with | [_], _ => rfl) (ok_lmany F__law_many M)
  have c__law_shown : Fn P w K mg base 1 "_law_shown" G_lshown := mkFn F__law_shown g__law_shown (FunD.bindsN F__law_shown fun _ _ _ _ _ _ us hl => match us, hl with | [_], _ => rfl) (ok_lshown F__law_shown M)
  have c__law_path : Fn P w K mg base 13 "_law_path" G_path := mkFn F__law_path g__law_path (FunD.bindsN F__law_path fun _ _ _ _ _ _ us hl => match us, hl with | [_, _, _, _], _ => rfl) (ok_lpath F__law_path M c__law_ranks c__law_many c__law_shown c__law_read)
  have c__law_placed_in : Fn P w K mg base 1 "_law_placed_in" G_placed_in := mkFn F__law_placed_in g__law_placed_in (FunD.bindsN F__law_placed_in fun _ _ _ _ _ _ us hl => match us, hl with | [_, _], _ => rfl) (ok_placed_in F__law_placed_in M)
  have c__law_items : Fn P w K mg base 1 "_law_items" G_items := mkFn F__law_items g__law_items (FunD.bindsN F__law_items fun _ _ _ _ _ _ us hl => match us, hl with | [_, _], _ => rfl) (ok_items F__law_items)
  have c__law_numbers : Fn P w K mg base 1 "_law_numbers" G_numbers := mkFn F__law_numbers g__law_numbers (FunD.bindsN F__law_numbers fun _ _ _ _ _ _ us hl => match us, hl with | [_, _], _ => rfl) (ok_numbers F__law_numbers M)
  have c__law_parting : Fn P w K mg base 14 "_law_parting" G_parting := mkFn F__law_parting g__law_parting (FunD.bindsN F__law_parting fun _ _ _ _ _ _ us hl => match us, hl with | [_, _, _, _], _ => rfl) (ok_parting F__law_parting M c__law_path c__law_read c__law_placed_in c__law_items c__law_numbers)
  have c__law_other_words : Fn P w K mg base 2 "_law_other_words" G_other_words := mkFn F__law_other_words g__law_other_words (FunD.bindsN F__law_other_words fun _ _ _ _ _ _ us hl => match us, hl with | [_, _], _ => rfl) (ok_other_words F__law_other_words M c__law_take)
  have c__law_place : Fn P w K mg base 1 "_law_place" G_place := mkFn F__law_place g__law_place (FunD.bindsN F__law_place fun _ _ _ _ _ _ us hl => match us, hl with | [_, _], _ => rfl) (ok_place F__law_place)
  have c__law_renamed_condition : Fn P w K mg base 10 "_law_renamed_condition" (G_renamed 8) := c_renamed F__law_renamed_condition M c__law_place (fun k sp o => mkFn F__law_renamed_condition g__law_renamed_condition (FunD.bindsN F__law_renamed_condition fun _ _ _ _ _ _ us hl => match us, hl with | [_, _], _ => rfl) o) 8
  have c__law_mixed : Fn P w K mg base 2 "_law_mixed" G_mixed := mkFn F__law_mixed g__law_mixed (FunD.bindsN F__law_mixed fun _ _ _ _ _ _ us hl => match us, hl with | [_, _], _ => rfl) (ok_mixed F__law_mixed M c__law_take)
  have c__law_mapped : Fn P w K mg base 11 "_law_mapped" G_mapped := mkFn F__law_mapped g__law_mapped (FunD.bindsN F__law_mapped fun _ _ _ _ _ _ us hl => match us, hl with | [_, _, _, _], _ => rfl) (ok_mapped F__law_mapped M c__law_place c__law_renamed_condition)
  have c__law_doubled : Fn P w K mg base 2 "_law_doubled" G_doubled := mkFn F__law_doubled g__law_doubled (FunD.bindsN F__law_doubled fun _ _ _ _ _ _ us hl => match us, hl with | [_, _], _ => rfl) (ok_doubled F__law_doubled M c__law_take)
  have c__law_renumbered : Fn P w K mg base 3 "_law_renumbered" G_renumbered := mkFn F__law_renumbered g__law_renumbered (FunD.bindsN F__law_renumbered fun _ _ _ _ _ _ us hl => match us, hl with | [_, _], _ => rfl) (ok_renumbered F__law_renumbered M c__law_mixed)
  have c__law_rewritten : Fn P w K mg base 12 "_law_rewritten" G_rewritten := mkFn F__law_rewritten g__law_rewritten (FunD.bindsN F__law_rewritten fun _ _ _ _ _ _ us hl => match us, hl with | [_, _], _ => rfl) (ok_rewritten F__law_rewritten M c__law_take c__law_mixed c__law_mapped c__law_doubled c__law_renumbered c__law_condition c__law_drawn_case c__law_other_words c__law_with_case)
  have c__law_cycle : Fn P w K mg base 2 "_law_cycle" G_cycle := mkFn F__law_cycle g__law_cycle (FunD.bindsN F__law_cycle fun _ _ _ _ _ _ us hl => match us, hl with | [_], _ => rfl) (ok_cycle F__law_cycle M c__law_take)
  exact ok_law F_law M c__law_draws c__law_take c__law_machine c__law_cycle c__law_drawn_machine c__law_changed c__law_rewritten c_least_machine c__law_parting c__law_begin c_answers
/-- the law's promise at the script -/
theorem law_sp {P : Program} {w : World} {K : PySem.W.Frag} {H : Hp} {a : Addr} {ns : List Int} (hl : ns.length ≤ 63) (hO : Only H) (hS : SqL K H a (ns.map V.int)) : spOf P w K (G_law K) [.ref a] H (fun v _ => v = .bl true) fun _ _ _ => False := by
  have fin : ∀ (v : V) (r : SV) (μ' : Mu) (H' : Hp), MR P w K μ' H' → SVR K H' v r → TEx H H' → (fun (_ : Mu) r => r = SV.dat (.bool true)) μ' r → v = V.bl true := fun v r μ' H' _ hv _ e => by
    have e : r = SV.dat (.bool true) := e
    subst e
    exact TD.bl_inv hv
  by_cases hk : ∃ o, H a = some o
  · obtain ⟨o, ho⟩ := hk
    refine ⟨[.loc a], fun b => if b = a then some (.rol (ns.map SV.int)) else none, fun _ r => r = SV.dat (.bool true), .cons rfl .nil, fun b d hd => ?_, ⟨a, ns, rfl, .inl (.inr (by show (if a = a then _ else _) = _; rw [if_pos rfl])), by omega, fun _ => rfl⟩, fin⟩
    by_cases hb : b = a
    · subst hb
      have hd : (if b = b then some (Cell.rol (ns.map SV.int)) else none) = some d := hd
      rw [if_pos rfl] at hd
      cases hd
      refine ⟨⟨_, hS, ?_, fun xs z => ?_⟩, o, ho⟩
      · have e1 : ns.map SV.int = (ns.map PyData.int).map SV.dat := by rw [List.map_map]; rfl
        rw [e1]
        exact SVs.of_dats (TDs.of_ints ns)
      · rcases hO b with q | ⟨ob, us, q⟩
        · rw [q] at z; cases z
        · rw [q] at z; cases z
    · have hd : (if b = a then some (Cell.rol (ns.map SV.int)) else none) = some d := hd
      rw [if_neg hb] at hd; cases hd
  · have hc : SeqC K a ns := fun H' => by
      rcases hS with (q | ⟨ob, q⟩) | q
      · exact absurd ⟨_, q⟩ hk
      · exact absurd ⟨_, q⟩ hk
      · exact .inr q
    exact ⟨[.loc a], fun _ => none, fun _ r => r = SV.dat (.bool true), .cons rfl .nil, fun b d hd => (nomatch hd), ⟨a, ns, rfl, .inr hc, by omega, fun _ => rfl⟩, fin⟩
end AV
open PySem PySem.W PySem.Calls PyProof.Rows
theorem PySem.Challenge.cw_anyvalues_k67_whole_alike_exactly_if_equ_holds : PySem.Challenge.rw_anyvalues_k67_whole_alike_exactly_if_equ.Holds := by
  w_on; o_law
  refine HandSHeadRun.head_any (r := OpenLaw.row PySem.Challenge.rw_anyvalues_k67_whole_alike_exactly_if_equ) (q := view (OpenLaw.row PySem.Challenge.rw_anyvalues_k67_whole_alike_exactly_if_equ).prog [61]) (H := AV.hk) (ob := AV.ob) (M := 3000) (loose := AV.names) (d := HandSHeadRun.topDef (OpenLaw.row PySem.Challenge.rw_anyvalues_k67_whole_alike_exactly_if_equ).prog 61) (kwd := []) AV.ob_eq
    (by kernel_rfl) (fun s => by kernel_rfl) AV.run (by kernel_rfl) (by kernel_rfl) (by kernel_rfl) (by rfl) (by first | assumption | decide +kernel) (by decide +kernel) ⟨rfl, rfl, rfl, rfl, rfl, by decide +kernel⟩ ?hw ?hc
  case hw => w_witness2
  case hc =>
    refine L2.walk_ofE (l := PySem.Challenge.rw_anyvalues_k67_whole_alike_exactly_if_equ) (n := 63) (k := 21) (x := "_law_script") (CX := C8.CX0) rfl (by decide) (by kernel_rfl) ⟨rfl, by decide, by decide⟩ ?F (fun _ _ _ _ z => z)
    intro w mg fa h Y G hmg0
    obtain ⟨K, KX, c⟩ := Y
    have hmg : mg ("law" : PySem.Str) = some (.ref fa) := by
      have e : (HandSHeadRun.topDef (OpenLaw.row PySem.Challenge.rw_anyvalues_k67_whole_alike_exactly_if_equ).prog 61).name = ("law" : PySem.Str) := by kernel_rfl
      rw [← e]
      exact hmg0
    obtain ⟨fd, hb, hF⟩ := AV.facts (P := (PySem.Challenge.rw_anyvalues_k67_whole_alike_exactly_if_equ).prog) (w := w) KX G hmg c
    exact ⟨K, fd, _, KX, hb, fun H a ns hl hO hS => AV.law_sp hl hO hS, hF⟩
