import PyProof.Rows.All
import Wide.All
import OpenK.AllK
import Wide.FinOn
import HandS.ForMost
import HandS.Exc
import HandS.ExcInit
import HandS.ExcField
import HandS.ExcIs
import HandS.ExcOwn
import HandS.TryElse
import HandS.WordsExc
import HandS.CallSlots
import KE.KDictKeyed
import HandS.IsInst
import HandS.Zip
import HandS.Conv
import HandS.Walk
import HandS.ClsMeth
import HandS.TupSets
import KE.KExcIs
import HandS.SetTxt0
import PySem.Challenge.RW_usewarden_k47_whole_watched
set_option Elab.async false
set_option linter.all false
set_option maxRecDepth 100000
set_option maxHeartbeats 4200000
namespace U
open PySem
theorem mem_c {α : Type _} {a b : α} {l : List α} (h : a ∈ b :: l) : a = b ∨ a ∈ l := by simpa using h
theorem mem_a {α : Type _} {a : α} {l m : List α} (h : a ∈ l ++ m) : a ∈ l ∨ a ∈ m := by simpa using h
/-! ## The mathematics: programs, the law's own going through, the code, the machine -/
inductive Pl where
  | opn (x : Str) | act (w x : Str) | cpy (x y : Str) | drp (x : Str) | tie (x y : Str)
inductive Step where
  | pl (p : Pl) | lend (x y : Str) (b : List Step) | ite (n : Int) (b c : List Step) | whl (n : Int) (b : List Step)
inductive Ent where
  | deed (l h : Nat) (w : Str) (n : Int) | tie (l a b : Nat)
structure LS where
  holds : Str → Option Nat
  log : List Ent
  many : Nat
  num : Int
  rest : List Int
def setF {α β : Type} [DecidableEq α] (f : α → β) (x : α) (v : β) : α → β := fun y => if y = x then v else f y
theorem setF_same {α β : Type} [DecidableEq α] (f : α → β) (x : α) (v : β) : setF f x v x = v := by unfold setF; rw [if_pos rfl]
theorem setF_ne {α β : Type} [DecidableEq α] (f : α → β) {x y : α} (v : β) (h : y ≠ x) : setF f x v y = f y := by unfold setF; rw [if_neg h]
def LS.deed (s : LS) (l : Nat) (h : Option Nat) (w : Str) : LS := match h with
  | none => s
  | some h => { s with log := s.log ++ [.deed l h w s.num] }
def LS.set (s : LS) (x : Str) (v : Option Nat) : LS := { s with holds := setF s.holds x v }
def LS.more (s : LS) (n : Int) : Bool × LS := match s.rest with
  | [] => (false, s)
  | i :: r => (decide (n < i), { s with num := i, rest := r })
def LS.tied (s : LS) (l : Nat) (x y : Option Nat) : LS := match x, y with
  | some a, some b => if a = b then s else { s with log := s.log ++ [.tie l a b] }
  | _, _ => s
def plain : Pl → Nat → LS → LS
  | .opn x, l, s => LS.deed { s with holds := setF s.holds x (some s.many), many := s.many + 1 } l (some s.many) "open"
  | .act w x, l, s => s.deed l (s.holds x) w
  | .cpy x y, _, s => s.set x (s.holds y)
  | .drp x, _, s => s.set x none
  | .tie x y, l, s => s.tied l (s.holds x) (s.holds y)
mutual
def linesS : Step → Nat
  | .pl _ => 1
  | .lend _ _ b => 1 + (1 + linesL b)
  | .ite _ b c => 1 + (1 + linesL b) + (1 + linesL c)
  | .whl _ b => 1 + (1 + linesL b)
def linesL : List Step → Nat
  | [] => 0
  | s :: r => linesS s + linesL r
end
mutual
def sizeS : Step → Nat
  | .pl _ => 1
  | .lend _ _ b => 1 + sizeL b
  | .ite _ b c => 1 + sizeL b + sizeL c
  | .whl _ b => 1 + sizeL b
def sizeL : List Step → Nat
  | [] => 0
  | s :: r => sizeS s + sizeL r
end
mutual
def deepS : Step → Nat
  | .pl _ => 0
  | .lend _ _ b => 1 + deepL b
  | .ite _ b c => 1 + max (deepL b) (deepL c)
  | .whl _ b => 1 + deepL b
def deepL : List Step → Nat
  | [] => 0
  | s :: r => max (deepS s) (deepL r)
end
def Pl.names : Pl → List Str
  | .opn x => [x] | .act _ x => [x] | .cpy x y => [x, y] | .drp x => [x] | .tie x y => [x, y]
mutual
def namesS : Step → List Str
  | .pl p => p.names
  | .lend x y b => x :: y :: namesL b
  | .ite _ b c => namesL b ++ namesL c
  | .whl _ b => namesL b
def namesL : List Step → List Str
  | [] => []
  | s :: r => namesS s ++ namesL r
end
def loop : Nat → Int → (LS → LS) → LS → LS
  | 0, _, _, s => s
  | k + 1, n, f, s => match s.more n with
    | (true, s1) => loop k n f (f s1)
    | (false, s1) => s1
mutual
def goS : Step → Nat → LS → LS
  | .pl p, l, s => plain p l s
  | .lend x y b, l, s =>
    LS.set (LS.deed (goL b (l + 1) (LS.set (LS.deed s l (s.holds x) "lend") y (s.holds x))) (l + 1 + linesL b) (s.holds x) "back") y none
  | .ite n b c, l, s => match s.more n with
    | (true, s1) => goL b (l + 1) s1
    | (false, s1) => goL c (l + 2 + linesL b) s1
  | .whl n b, l, s => loop (s.rest.length + 1) n (fun s1 => goL b (l + 1) s1) s
def goL : List Step → Nat → LS → LS
  | [], _, s => s
  | st :: r, l, s => goL r (l + linesS st) (goS st l s)
end
theorem more_rest (s : LS) (n : Int) : (s.more n).2.rest.length ≤ s.rest.length := by
  unfold LS.more; split <;> simp_all
theorem more_true {s s1 : LS} {n : Int} (h : s.more n = (true, s1)) : s1.rest.length + 1 = s.rest.length := by
  unfold LS.more at h
  split at h
  · cases h
  · rename_i i r e
    rw [e]
    have := (Prod.mk.inj h).2
    subst this
    rfl
theorem deed_rest (s : LS) (l : Nat) (h : Option Nat) (w : Str) : (s.deed l h w).rest = s.rest := by
  unfold LS.deed; split <;> rfl
theorem deed_num (s : LS) (l : Nat) (h : Option Nat) (w : Str) : (s.deed l h w).num = s.num := by
  unfold LS.deed; split <;> rfl
theorem deed_many (s : LS) (l : Nat) (h : Option Nat) (w : Str) : (s.deed l h w).many = s.many := by
  unfold LS.deed; split <;> rfl
theorem deed_holds (s : LS) (l : Nat) (h : Option Nat) (w : Str) : (s.deed l h w).holds = s.holds := by
  unfold LS.deed; split <;> rfl
theorem plain_rest (p : Pl) (l : Nat) (s : LS) : (plain p l s).rest = s.rest := by
  cases p with
  | tie x y =>
    show (s.tied l (s.holds x) (s.holds y)).rest = _
    unfold LS.tied
    split
    · split <;> rfl
    · rfl
  | act w x => exact deed_rest _ _ _ _
  | _ => rfl
theorem loop_rest {n : Int} {f : LS → LS} (hf : ∀ s, (f s).rest.length ≤ s.rest.length) : ∀ (k : Nat) (s : LS), (loop k n f s).rest.length ≤ s.rest.length
  | 0, s => Nat.le_refl _
  | k + 1, s => by
    unfold loop
    split
    · rename_i s1 e
      have h1 := loop_rest hf (n := n) k (f s1)
      have h2 := hf s1
      have h3 := more_true e
      omega
    · rename_i s1 e
      have h3 := more_rest s n
      rw [e] at h3
      exact h3
mutual
theorem restS : ∀ (st : Step) (l : Nat) (s : LS), (goS st l s).rest.length ≤ s.rest.length
  | .pl p, l, s => by unfold goS; rw [plain_rest]; exact Nat.le_refl _
  | .lend x y b, l, s => by
    unfold goS
    have h := restL b (l + 1) (LS.set (LS.deed s l (s.holds x) "lend") y (s.holds x))
    show (LS.deed _ _ _ _).rest.length ≤ _
    rw [deed_rest]
    refine Nat.le_trans h ?_
    show (LS.deed _ _ _ _).rest.length ≤ _
    rw [deed_rest]
    exact Nat.le_refl _
  | .ite n b c, l, s => by
    unfold goS
    have h3 := more_rest s n
    split
    · rename_i s1 e
      rw [e] at h3
      exact Nat.le_trans (restL b _ _) h3
    · rename_i s1 e
      rw [e] at h3
      exact Nat.le_trans (restL c _ _) h3
  | .whl n b, l, s => by
    unfold goS
    exact loop_rest (fun s1 => restL b (l + 1) s1) _ _
theorem restL : ∀ (sts : List Step) (l : Nat) (s : LS), (goL sts l s).rest.length ≤ s.rest.length
  | [], l, s => by unfold goL; exact Nat.le_refl _
  | st :: r, l, s => by
    unfold goL
    exact Nat.le_trans (restL r _ _) (restS st _ _)
end
/-! ### how much is written -/
/-- log, many: what is added, by the steps' number and the inputs that were taken -/
structure Cost (c : Nat) (s s' : LS) : Prop where
  pre : ∃ ev, s'.log = s.log ++ ev ∧ ev.length ≤ 2 * c * (1 + s.rest.length - s'.rest.length)
  many : s'.many ≤ s.many + c * (1 + s.rest.length - s'.rest.length)
  rest : s'.rest.length ≤ s.rest.length
theorem Cost.refl (s : LS) (c : Nat) : Cost c s s := ⟨⟨[], by simp, by simp⟩, by omega, Nat.le_refl _⟩
theorem mul_split {a b u v : Nat} : a * (1 + u) + b * (1 + v) ≤ (a + b) * (1 + (u + v)) := by
  have h1 : a * (1 + u) ≤ a * (1 + (u + v)) := Nat.mul_le_mul_left _ (by omega)
  have h2 : b * (1 + v) ≤ b * (1 + (u + v)) := Nat.mul_le_mul_left _ (by omega)
  rw [Nat.add_mul]
  omega
theorem Cost.trans {a b : Nat} {s s1 s2 : LS} (h : Cost a s s1) (g : Cost b s1 s2) : Cost (a + b) s s2 := by
  obtain ⟨⟨e1, p1, q1⟩, m1, r1⟩ := h
  obtain ⟨⟨e2, p2, q2⟩, m2, r2⟩ := g
  obtain ⟨u, hu⟩ : ∃ u, s.rest.length = s1.rest.length + u := ⟨s.rest.length - s1.rest.length, by omega⟩
  obtain ⟨v, hv⟩ : ∃ v, s1.rest.length = s2.rest.length + v := ⟨s1.rest.length - s2.rest.length, by omega⟩
  have z1 : 1 + s.rest.length - s1.rest.length = 1 + u := by omega
  have z2 : 1 + s1.rest.length - s2.rest.length = 1 + v := by omega
  have z3 : 1 + s.rest.length - s2.rest.length = 1 + (u + v) := by omega
  rw [z1] at q1 m1
  rw [z2] at q2 m2
  have k := mul_split (a := a) (b := b) (u := u) (v := v)
  refine ⟨⟨e1 ++ e2, by rw [p2, p1, List.append_assoc], ?_⟩, ?_, by omega⟩
  · rw [List.length_append, z3]
    have k2 := mul_split (a := 2 * a) (b := 2 * b) (u := u) (v := v)
    rw [← Nat.mul_add] at k2
    omega
  · rw [z3]; omega
theorem Cost.mono {a b : Nat} {s s1 : LS} (h : Cost a s s1) (le : a ≤ b) : Cost b s s1 := by
  obtain ⟨⟨e1, p1, q1⟩, m1, r1⟩ := h
  exact ⟨⟨e1, p1, Nat.le_trans q1 (Nat.mul_le_mul_right _ (Nat.mul_le_mul_left _ le))⟩, Nat.le_trans m1 (Nat.add_le_add_left (Nat.mul_le_mul_right _ le) _), r1⟩
theorem cost_deed (s : LS) (l : Nat) (h : Option Nat) (w : Str) {t : LS} (h1 : t.log = (s.deed l h w).log) (h2 : t.many ≤ s.many + 1) (h3 : t.rest = s.rest) : Cost 1 s t := by
  refine ⟨?_, by rw [h3]; have : 1 + s.rest.length - s.rest.length = 1 := by omega
                 rw [this]; omega, by rw [h3]; exact Nat.le_refl _⟩
  rw [h1, h3]
  have : 1 + s.rest.length - s.rest.length = 1 := by omega
  rw [this]
  cases h with
  | none => exact ⟨[], by simp [LS.deed], by simp⟩
  | some h => exact ⟨[_], rfl, by simp⟩
theorem cost_plain (p : Pl) (l : Nat) (s : LS) : Cost 1 s (plain p l s) := by
  cases p with
  | opn x => exact cost_deed s l (some s.many) "open" rfl (Nat.le_refl _) rfl
  | act w x => exact cost_deed s l (s.holds x) w rfl (by rw [show (plain (.act w x) l s).many = s.many from deed_many _ _ _ _]; omega) (deed_rest _ _ _ _)
  | cpy x y => exact cost_deed s l none "open" rfl (Nat.le_succ _) rfl
  | drp x => exact cost_deed s l none "open" rfl (Nat.le_succ _) rfl
  | tie x y =>
    show Cost 1 s (s.tied l (s.holds x) (s.holds y))
    unfold LS.tied
    split
    · split
      · exact Cost.refl _ _
      · have : 1 + s.rest.length - s.rest.length = 1 := by omega
        refine ⟨⟨[_], rfl, ?_⟩, ?_, Nat.le_refl _⟩
        · show 1 ≤ 2 * 1 * (1 + s.rest.length - s.rest.length)
          rw [this]; decide
        · show s.many ≤ s.many + _
          omega
    · exact Cost.refl _ _
theorem cost_more {s s1 : LS} {n : Int} {b : Bool} (h : s.more n = (b, s1)) (c : Nat) : Cost c s s1 := by
  have hr := more_rest s n
  rw [h] at hr
  have e : s1.log = s.log ∧ s1.many = s.many := by
    unfold LS.more at h
    split at h
    · have := (Prod.mk.inj h).2; subst this; exact ⟨rfl, rfl⟩
    · have := (Prod.mk.inj h).2; subst this; exact ⟨rfl, rfl⟩
  exact ⟨⟨[], by rw [e.1]; simp, by simp⟩, by rw [e.2]; exact Nat.le_add_right _ _, hr⟩
/-- the loop: every round has taken an input, which pays for it -/
theorem cost_loop {n : Int} {f : LS → LS} {c : Nat} (hf : ∀ s, Cost c s (f s)) : ∀ (k : Nat) (s : LS), ∃ ev, (loop k n f s).log = s.log ++ ev ∧ ev.length ≤ 2 * c * (s.rest.length - (loop k n f s).rest.length) ∧
    (loop k n f s).many ≤ s.many + c * (s.rest.length - (loop k n f s).rest.length)
  | 0, s => ⟨[], by simp [loop], by simp, by simp [loop]⟩
  | k + 1, s => by
    unfold loop
    split
    · rename_i s1 e
      obtain ⟨⟨e2, p2, q2⟩, m2, r2⟩ := hf s1
      obtain ⟨e3, p3, q3, m3⟩ := cost_loop hf (n := n) k (f s1)
      have r3 := loop_rest (n := n) (fun s => (hf s).rest) k (f s1)
      have h3 := more_true e
      obtain ⟨⟨e1, p1, q1⟩, m1, _⟩ := cost_more e 0
      have l1 : e1 = [] := List.length_eq_zero_iff.mp (by simpa using q1)
      subst l1
      generalize hz : loop k n f (f s1) = z at *
      have z1 : s.rest.length - z.rest.length = (1 + s1.rest.length - (f s1).rest.length) + ((f s1).rest.length - z.rest.length) := by omega
      refine ⟨e2 ++ e3, by rw [p3, p2, p1]; simp, ?_, ?_⟩
      · rw [List.length_append, z1, Nat.mul_add]; omega
      · rw [z1, Nat.mul_add]; simp at m1; omega
    · rename_i s1 e
      obtain ⟨⟨e1, p1, q1⟩, m1, _⟩ := cost_more e 0
      have l1 : e1 = [] := List.length_eq_zero_iff.mp (by simpa using q1)
      subst l1
      exact ⟨[], p1, by simp, by simp at m1; omega⟩
mutual
theorem costS : ∀ (st : Step) (l : Nat) (s : LS), Cost (sizeS st) s (goS st l s)
  | .pl p, l, s => by unfold goS sizeS; exact cost_plain p l s
  | .lend x y b, l, s => by
    unfold goS sizeS
    have h := costL b (l + 1) (LS.set (LS.deed s l (s.holds x) "lend") y (s.holds x))
    generalize goL b (l + 1) (LS.set (LS.deed s l (s.holds x) "lend") y (s.holds x)) = t at h ⊢
    obtain ⟨⟨e2, p2, q2⟩, m2, r2⟩ := h
    have rs : (LS.set (LS.deed s l (s.holds x) "lend") y (s.holds x)).rest = s.rest := deed_rest _ _ _ _
    have ms : (LS.set (LS.deed s l (s.holds x) "lend") y (s.holds x)).many = s.many := deed_many _ _ _ _
    rw [rs] at q2 m2 r2
    rw [ms] at m2
    have rt : (LS.set (LS.deed t (l + 1 + linesL b) (s.holds x) "back") y none).rest = t.rest := deed_rest _ _ _ _
    have mt : (LS.set (LS.deed t (l + 1 + linesL b) (s.holds x) "back") y none).many = t.many := deed_many _ _ _ _
    have lt : (LS.set (LS.deed t (l + 1 + linesL b) (s.holds x) "back") y none).log = (LS.deed t (l + 1 + linesL b) (s.holds x) "back").log := rfl
    have ls : (LS.set (LS.deed s l (s.holds x) "lend") y (s.holds x)).log = (LS.deed s l (s.holds x) "lend").log := rfl
    have one : 1 ≤ 1 + s.rest.length - t.rest.length := by omega
    refine ⟨?_, ?_, by rw [rt]; exact r2⟩
    · rw [rt, lt]
      rw [ls] at p2
      cases hh : s.holds x with
      | none =>
        rw [hh] at p2
        exact ⟨e2, p2, Nat.le_trans q2 (Nat.mul_le_mul_right _ (by omega))⟩
      | some h =>
        rw [hh] at p2
        refine ⟨[Ent.deed l h "lend" s.num] ++ e2 ++ [Ent.deed (l + 1 + linesL b) h "back" t.num], ?_, ?_⟩
        · show t.log ++ [Ent.deed (l + 1 + linesL b) h "back" t.num] = _
          rw [p2]
          show (s.log ++ [Ent.deed l h "lend" s.num]) ++ e2 ++ [Ent.deed (l + 1 + linesL b) h "back" t.num] = _
          simp only [List.append_assoc]
        · simp only [List.length_append, List.length_singleton]
          rw [Nat.mul_add, Nat.add_mul]
          omega
    · rw [rt, mt, Nat.add_mul]; omega
  | .ite n b c, l, s => by
    unfold goS sizeS
    split
    · rename_i s1 e
      exact (((cost_more e 1).trans (costL b _ _)).mono (by omega))
    · rename_i s1 e
      exact (((cost_more e 1).trans (costL c _ _)).mono (by omega))
  | .whl n b, l, s => by
    unfold goS sizeS
    obtain ⟨ev, p, q, m⟩ := cost_loop (n := n) (fun s1 => costL b (l + 1) s1) (s.rest.length + 1) s
    have r := loop_rest (n := n) (fun s1 => restL b (l + 1) s1) (s.rest.length + 1) s
    refine ⟨⟨ev, p, Nat.le_trans q (Nat.mul_le_mul (by omega) (by omega))⟩, Nat.le_trans m (Nat.add_le_add_left (Nat.mul_le_mul (by omega) (by omega)) _), r⟩
theorem costL : ∀ (sts : List Step) (l : Nat) (s : LS), Cost (sizeL sts) s (goL sts l s)
  | [], l, s => by unfold goL sizeL; exact Cost.refl _ _
  | st :: r, l, s => by
    unfold goL sizeL
    exact (costS st l s).trans (costL r _ _)
end
end U

namespace U
open PySem
/-! ## The code of a program, the machine, and that its run tells the law's log -/
inductive Row where
  | opn (l s : Nat) | act (l s : Nat) (w : Str) | cpy (l s t : Nat) | drp (l s : Nat) | tie (l s t : Nat)
  | tst (l : Nat) (n : Int) (to : Nat) | jmp (l to : Nat) | fin (l : Nat)
inductive MS where
  | row (r : Row) | lend (l s t h : Nat) (b : List MS) (l2 : Nat) | ite (l : Nat) (n : Int) (b : List MS) (mid : Nat) (c : List MS) | whl (l : Nat) (n : Int) (b : List MS) (l2 : Nat)
mutual
def lentsS : Step → Nat
  | .pl _ => 0
  | .lend _ _ b => 1 + lentsL b
  | .ite _ b c => lentsL b + lentsL c
  | .whl _ b => lentsL b
def lentsL : List Step → Nat
  | [] => 0
  | s :: r => lentsS s + lentsL r
end
def rowP (sl : Str → Nat) (l : Nat) : Pl → Row
  | .opn x => .opn l (sl x)
  | .act w x => .act l (sl x) w
  | .cpy x y => .cpy l (sl x) (sl y)
  | .drp x => .drp l (sl x)
  | .tie x y => .tie l (sl x) (sl y)
mutual
def markS (sl : Str → Nat) : Step → Nat → Nat → MS
  | .pl p, l, _ => .row (rowP sl l p)
  | .lend x y b, l, k => .lend l (sl x) (sl y) k (markL sl b (l + 1) (k + 1)) (l + 1 + linesL b)
  | .ite n b c, l, k => .ite l n (markL sl b (l + 1) k) (l + 1 + linesL b) (markL sl c (l + 2 + linesL b) (k + lentsL b))
  | .whl n b, l, k => .whl l n (markL sl b (l + 1) k) (l + 1 + linesL b)
def markL (sl : Str → Nat) : List Step → Nat → Nat → List MS
  | [], _, _ => []
  | s :: r, l, k => markS sl s l k :: markL sl r (l + linesS s) (k + lentsS s)
end
mutual
def putS : MS → Nat → List Row
  | .row r, _ => [r]
  | .lend l s t h b l2, p => [.cpy l h s, .act l h "lend", .cpy l t h] ++ putL b (p + 3) ++ [.act l2 h "back", .drp l2 t, .drp l2 h]
  | .ite l n b mid c, p =>
    let rb := putL b (p + 1)
    let rc := putL c (p + 1 + rb.length + 1)
    [.tst l n (p + 1 + rb.length + 1)] ++ rb ++ [.jmp mid (p + 1 + rb.length + 1 + rc.length)] ++ rc
  | .whl l n b l2, p =>
    let rb := putL b (p + 1)
    [.tst l n (p + 1 + rb.length + 1)] ++ rb ++ [.jmp l2 p]
def putL : List MS → Nat → List Row
  | [], _ => []
  | m :: r, p => putS m p ++ putL r (p + (putS m p).length)
end
structure MC where
  pc : Nat
  rest : List Int
  num : Int
  slots : Nat → Option Nat
  many : Nat
  ended : Nat
inductive Ev where
  | deed (l h : Nat) (w : Str) | tie (l a b : Nat)
def Ev.ent (n : Int) : Ev → Ent
  | .deed l h w => .deed l h w n
  | .tie l a b => .tie l a b
def tieEv (l : Nat) (x y : Option Nat) : Option Ev := match x, y with
  | some a, some b => if a = b then none else some (.tie l a b)
  | _, _ => none
def seen (m : MC) : Row → Option Ev
  | .opn l _ => some (.deed l m.many "open")
  | .fin l => if m.ended < m.many then some (.deed l m.ended "end") else none
  | .act l s w => (m.slots s).map fun h => .deed l h w
  | .tie l s t => tieEv l (m.slots s) (m.slots t)
  | _ => none
def goOver (m : MC) : Row → MC
  | .cpy _ s t => { m with slots := setF m.slots s (m.slots t), pc := m.pc + 1 }
  | .drp _ s => { m with slots := setF m.slots s none, pc := m.pc + 1 }
  | .jmp _ to => { m with pc := to }
  | .tst _ n to => match m.rest with
    | [] => { m with pc := to }
    | i :: r => { m with num := i, rest := r, pc := if n < i then m.pc + 1 else to }
  | _ => { m with pc := m.pc + 1 }
def doing (m : MC) : Row → MC
  | .opn _ s => { m with slots := setF m.slots s (some m.many), many := m.many + 1, pc := m.pc + 1 }
  | .fin _ => { m with ended := m.ended + 1 }
  | _ => { m with pc := m.pc + 1 }
def Row.isFin : Row → Bool
  | .fin _ => true
  | _ => false
inductive Runs (code : List Row) : MC → List Ent → Prop
  | stop {m : MC} {r : Row} (h : code[m.pc]? = some r) (hs : seen m r = none) (hf : r.isFin = true) : Runs code m []
  | over {m : MC} {r : Row} {es : List Ent} (h : code[m.pc]? = some r) (hs : seen m r = none) (hf : r.isFin = false) (k : Runs code (goOver m r) es) : Runs code m es
  | does {m : MC} {r : Row} {e : Ev} {es : List Ent} (h : code[m.pc]? = some r) (hs : seen m r = some e) (k : Runs code (doing m r) es) : Runs code m (e.ent m.num :: es)
/-- from m the run tells ev and comes to m' -/
def To (code : List Row) (m : MC) (ev : List Ent) (m' : MC) : Prop := ∀ es, Runs code m' es → Runs code m (ev ++ es)
theorem To.refl (code : List Row) (m : MC) : To code m [] m := fun _ h => h
theorem To.trans {code : List Row} {m m1 m2 : MC} {a b : List Ent} (h : To code m a m1) (g : To code m1 b m2) : To code m (a ++ b) m2 := fun es k => by
  rw [List.append_assoc]; exact h _ (g _ k)
theorem To.over {code : List Row} {m : MC} {r : Row} (h : code[m.pc]? = some r) (hs : seen m r = none) (hf : r.isFin = false) : To code m [] (goOver m r) := fun _ k => .over h hs hf k
theorem To.does {code : List Row} {m : MC} {r : Row} {e : Ev} (h : code[m.pc]? = some r) (hs : seen m r = some e) : To code m [e.ent m.num] (doing m r) := fun _ k => .does h hs k
/-- the rows stand in the code from p on -/
def Seg (code : List Row) (p : Nat) (rows : List Row) : Prop := ∀ i r, rows[i]? = some r → code[p + i]? = some r
theorem Seg.left {code : List Row} {p : Nat} {a b : List Row} (h : Seg code p (a ++ b)) : Seg code p a := fun i r e => h i r (by
  rw [List.getElem?_append_left (List.getElem?_eq_some_iff.mp e).1]; exact e)
theorem Seg.right {code : List Row} {p : Nat} {a b : List Row} (h : Seg code p (a ++ b)) : Seg code (p + a.length) b := fun i r e => by
  have q := h (a.length + i) r (by rw [List.getElem?_append_right (by omega)]; rw [show a.length + i - a.length = i by omega]; exact e)
  rw [Nat.add_assoc]; exact q
theorem Seg.head {code : List Row} {p : Nat} {r : Row} {b : List Row} (h : Seg code p (r :: b)) : code[p]? = some r := h 0 r rfl
theorem Seg.tail {code : List Row} {p : Nat} {r : Row} {b : List Row} (h : Seg code p (r :: b)) : Seg code (p + 1) b := Seg.right (a := [r]) h

/-- the machine stands as the law's state does -/
structure Rel (sl : Str → Nat) (nm : List Str) (s : LS) (m : MC) : Prop where
  rest : m.rest = s.rest
  num : m.num = s.num
  many : m.many = s.many
  ended : m.ended = 0
  slots : ∀ x ∈ nm, m.slots (sl x) = s.holds x
/-- names have slots of their own below N -/
structure Nam (sl : Str → Nat) (nm : List Str) (N : Nat) : Prop where
  inj : ∀ x ∈ nm, ∀ y ∈ nm, sl x = sl y → x = y
  lt : ∀ x ∈ nm, sl x < N
/-- what is shown of each piece -/
structure Done (code : List Row) (sl : Str → Nat) (nm : List Str) (N lent : Nat) (s s' : LS) (m : MC) (p : Nat) (m' : MC) : Prop where
  rel : Rel sl nm s' m'
  pc : m'.pc = p
  keep : ∀ k, N ≤ k → k < lent → m'.slots k = m.slots k
  to : ∃ ev, s'.log = s.log ++ ev ∧ To code m ev m'
section
variable {code : List Row} {sl : Str → Nat} {nm : List Str} {N : Nat}
theorem Done.trans {lent lent2 : Nat} {s s1 s2 : LS} {m m1 m2 : MC} {p q : Nat} (h : Done code sl nm N lent s s1 m p m1) (g : Done code sl nm N lent2 s1 s2 m1 q m2) (hl : lent ≤ lent2) : Done code sl nm N lent s s2 m q m2 := by
  obtain ⟨e1, l1, t1⟩ := h.to
  obtain ⟨e2, l2, t2⟩ := g.to
  exact ⟨g.rel, g.pc, fun k a b => (g.keep k a (by omega)).trans (h.keep k a b), e1 ++ e2, by rw [l2, l1, List.append_assoc], t1.trans t2⟩
theorem rel_set (hN : Nam sl nm N) {s : LS} {m : MC} (h : Rel sl nm s m) {x : Str} (hx : x ∈ nm) (v : Option Nat) {s' : LS} {m' : MC} (e1 : s'.holds = setF s.holds x v) (e2 : m'.slots = setF m.slots (sl x) v)
    (r : m'.rest = s'.rest) (n : m'.num = s'.num) (y : m'.many = s'.many) (d : m'.ended = 0) : Rel sl nm s' m' := by
  refine ⟨r, n, y, d, fun z hz => ?_⟩
  rw [e1, e2]
  by_cases e : z = x
  · subst e; rw [setF_same, setF_same]
  · rw [setF_ne _ _ e, setF_ne _ _ fun q => e (hN.inj z hz x hx q)]
    exact h.slots z hz
theorem plain_ok (hN : Nam sl nm N) (p : Pl) (l lent : Nat) {s : LS} {m : MC} (hn : ∀ x ∈ p.names, x ∈ nm) (h : Rel sl nm s m) (hc : code[m.pc]? = some (rowP sl l p)) : ∃ m', Done code sl nm N lent s (plain p l s) m (m.pc + 1) m' := by
  cases p with
  | opn x =>
    have hx : x ∈ nm := hn x (by simp [Pl.names])
    refine ⟨doing m (.opn l (sl x)), ?_, rfl, fun k a b => ?_, _, ?_, To.does hc rfl⟩
    · exact rel_set hN h hx (some m.many) (by show setF s.holds x (some s.many) = _; rw [h.many]) rfl h.rest h.num (by show m.many + 1 = s.many + 1; rw [h.many]) h.ended
    · have := hN.lt x hx
      exact setF_ne _ _ (by omega)
    · show s.log ++ [Ent.deed l s.many "open" s.num] = s.log ++ [Ent.deed l m.many "open" m.num]
      rw [h.many, h.num]
  | act w x =>
    have hx : x ∈ nm := hn x (by simp [Pl.names])
    cases e : s.holds x with
    | none =>
      have es : plain (.act w x) l s = s := by
        show s.deed l (s.holds x) w = _
        rw [e]; rfl
      rw [es]
      refine ⟨goOver m (.act l (sl x) w), ⟨h.rest, h.num, h.many, h.ended, h.slots⟩, rfl, fun _ _ _ => rfl, [], by simp, To.over hc ?_ rfl⟩
      show (m.slots (sl x)).map _ = none
      rw [h.slots x hx, e]; rfl
    | some a =>
      have hs : seen m (.act l (sl x) w) = some (.deed l a w) := by
        show (m.slots (sl x)).map _ = _
        rw [h.slots x hx, e]; rfl
      have es : plain (.act w x) l s = { s with log := s.log ++ [.deed l a w s.num] } := by
        show s.deed l (s.holds x) w = _
        rw [e]; rfl
      rw [es]
      refine ⟨doing m (.act l (sl x) w), ⟨h.rest, h.num, h.many, h.ended, h.slots⟩, rfl, fun _ _ _ => rfl, _, ?_, To.does hc hs⟩
      show _ = s.log ++ [Ent.deed l a w m.num]
      rw [h.num]
  | cpy x y =>
    have hx : x ∈ nm := hn x (by simp [Pl.names])
    have hy : y ∈ nm := hn y (by simp [Pl.names])
    refine ⟨goOver m (.cpy l (sl x) (sl y)), ?_, rfl, fun k a b => ?_, [], by simp [plain, LS.set], To.over hc rfl rfl⟩
    · exact rel_set hN h hx (s.holds y) rfl (by show setF m.slots (sl x) (m.slots (sl y)) = _; rw [h.slots y hy]) h.rest h.num h.many h.ended
    · have := hN.lt x hx
      exact setF_ne _ _ (by omega)
  | drp x =>
    have hx : x ∈ nm := hn x (by simp [Pl.names])
    refine ⟨goOver m (.drp l (sl x)), ?_, rfl, fun k a b => ?_, [], by simp [plain, LS.set], To.over hc rfl rfl⟩
    · exact rel_set hN h hx none rfl rfl h.rest h.num h.many h.ended
    · have := hN.lt x hx
      exact setF_ne _ _ (by omega)
  | tie x y =>
    have hx : x ∈ nm := hn x (by simp [Pl.names])
    have hy : y ∈ nm := hn y (by simp [Pl.names])
    have hs : seen m (.tie l (sl x) (sl y)) = tieEv l (s.holds x) (s.holds y) := by
      show tieEv l (m.slots (sl x)) (m.slots (sl y)) = _
      rw [h.slots x hx, h.slots y hy]
    have ep : plain (.tie x y) l s = s.tied l (s.holds x) (s.holds y) := rfl
    have silent : tieEv l (s.holds x) (s.holds y) = none → s.tied l (s.holds x) (s.holds y) = s → ∃ m', Done code sl nm N lent s (plain (.tie x y) l s) m (m.pc + 1) m' := by
      intro h1 h2
      refine ⟨goOver m (.tie l (sl x) (sl y)), ?_, rfl, fun _ _ _ => rfl, [], ?_, To.over hc (hs.trans h1) rfl⟩
      · rw [ep, h2]; exact ⟨h.rest, h.num, h.many, h.ended, h.slots⟩
      · rw [ep, h2]; simp
    cases e1 : s.holds x with
    | none => exact silent (by rw [e1]; rfl) (by rw [e1]; rfl)
    | some a =>
      cases e2 : s.holds y with
      | none => exact silent (by rw [e1, e2]; rfl) (by rw [e1, e2]; rfl)
      | some b =>
        by_cases q : a = b
        · refine silent ?_ ?_
          · rw [e1, e2]; show (if a = b then none else some (Ev.tie l a b)) = none; rw [if_pos q]
          · rw [e1, e2]; show (if a = b then s else _) = s; rw [if_pos q]
        · have h1 : tieEv l (s.holds x) (s.holds y) = some (.tie l a b) := by
            rw [e1, e2]; show (if a = b then none else some (Ev.tie l a b)) = _; rw [if_neg q]
          have h2 : plain (.tie x y) l s = { s with log := s.log ++ [.tie l a b] } := by
            rw [ep, e1, e2]; show (if a = b then s else _) = _; rw [if_neg q]
          rw [h2]
          exact ⟨doing m (.tie l (sl x) (sl y)), ⟨h.rest, h.num, h.many, h.ended, h.slots⟩, rfl, fun _ _ _ => rfl, _, rfl, To.does hc (hs.trans h1)⟩
/-- a test: the next input is taken -/
theorem test_ok {l to : Nat} {n : Int} {s s1 : LS} {m : MC} {b : Bool} (lent : Nat) (h : Rel sl nm s m) (hc : code[m.pc]? = some (.tst l n to)) (e : s.more n = (b, s1)) :
    ∃ m', Done code sl nm N lent s s1 m (if b = true then m.pc + 1 else to) m' := by
  refine ⟨goOver m (.tst l n to), ?_⟩
  unfold LS.more at e
  split at e
  · rename_i er
    have ⟨e1, e2⟩ := Prod.mk.inj e
    subst e1; subst e2
    have eg : goOver m (.tst l n to) = { m with pc := to } := by
      show (match m.rest with | [] => _ | i :: r => _) = _
      rw [h.rest, er]
    rw [eg]
    exact ⟨⟨h.rest, h.num, h.many, h.ended, h.slots⟩, rfl, fun _ _ _ => rfl, [], by simp, by rw [← eg]; exact To.over hc rfl rfl⟩
  · rename_i i r er
    have ⟨e1, e2⟩ := Prod.mk.inj e
    subst e1; subst e2
    have eg : goOver m (.tst l n to) = { m with num := i, rest := r, pc := if n < i then m.pc + 1 else to } := by
      show (match m.rest with | [] => _ | i :: r => _) = _
      rw [h.rest, er]
    rw [eg]
    refine ⟨⟨rfl, rfl, h.many, h.ended, h.slots⟩, ?_, fun _ _ _ => rfl, [], by simp, by rw [← eg]; exact To.over hc rfl rfl⟩
    show (if n < i then _ else _) = _
    by_cases q : n < i
    · rw [if_pos q, if_pos (decide_eq_true q)]
    · rw [if_neg q, if_neg (by simp [q])]
theorem loop_ok {l to l2 p : Nat} {n : Int} {f : LS → LS} {lent : Nat} {q : Nat} (hf : ∀ s, (f s).rest.length ≤ s.rest.length) (hc : code[p]? = some (.tst l n to)) (hj : code[q]? = some (.jmp l2 p))
    (body : ∀ s m, Rel sl nm s m → m.pc = p + 1 → ∃ m', Done code sl nm N lent s (f s) m q m') :
    ∀ (k : Nat) (s : LS) (m : MC), s.rest.length < k → Rel sl nm s m → m.pc = p → ∃ m', Done code sl nm N lent s (loop k n f s) m to m'
  | 0, s, m, hk, h, hp => absurd hk (Nat.not_lt_zero _)
  | k + 1, s, m, hk, h, hp => by
    unfold loop
    split
    · rename_i s1 e
      obtain ⟨m1, d1⟩ := test_ok (N := N) lent h (by rw [hp]; exact hc) e
      obtain ⟨m2, d2⟩ := body s1 m1 d1.rel (by rw [d1.pc, hp]; rfl)
      have hj' : code[m2.pc]? = some (.jmp l2 p) := by rw [d2.pc]; exact hj
      have d3 : Done code sl nm N lent (f s1) (f s1) m2 p (goOver m2 (.jmp l2 p)) :=
        ⟨⟨d2.rel.rest, d2.rel.num, d2.rel.many, d2.rel.ended, d2.rel.slots⟩, rfl, fun _ _ _ => rfl, [], by simp, To.over hj' rfl rfl⟩
      have r1 := more_true e
      have r2 := hf s1
      obtain ⟨m3, d4⟩ := loop_ok hf hc hj body k (f s1) _ (by omega) d3.rel rfl
      exact ⟨m3, ((d1.trans d2 (Nat.le_refl _)).trans d3 (Nat.le_refl _)).trans d4 (Nat.le_refl _)⟩
    · rename_i s1 e
      obtain ⟨m1, d1⟩ := test_ok (N := N) lent h (by rw [hp]; exact hc) e
      exact ⟨m1, d1⟩
mutual
theorem compS (hN : Nam sl nm N) : ∀ (st : Step) (l lent p : Nat) (s : LS) (m : MC), (∀ x ∈ namesS st, x ∈ nm) → N ≤ lent → Seg code p (putS (markS sl st l lent) p) → Rel sl nm s m → m.pc = p →
    ∃ m', Done code sl nm N lent s (goS st l s) m (p + (putS (markS sl st l lent) p).length) m'
  | .pl q, l, lent, p, s, m, hn, hl, hs, h, hp => by
    subst hp
    unfold goS markS putS
    unfold markS putS at hs
    exact plain_ok hN q l lent (by intro x hx; exact hn x (by unfold namesS; exact hx)) h hs.head
  | .lend x y b, l, lent, p, s, m, hn, hl, hs, h, hp => by
    subst hp
    have hx : x ∈ nm := hn x (by unfold namesS; simp)
    have hy : y ∈ nm := hn y (by unfold namesS; simp)
    have hb : ∀ z ∈ namesL b, z ∈ nm := fun z hz => hn z (by unfold namesS; simp [hz])
    have kx := hN.lt x hx
    have ky := hN.lt y hy
    unfold goS
    unfold markS putS at hs ⊢
    generalize hrb : putL (markL sl b (l + 1) (lent + 1)) (m.pc + 3) = rb at hs ⊢
    have s1 := hs.left.left
    have s2 : Seg code (m.pc + 3) rb := hs.left.right
    have s3 : Seg code (m.pc + (3 + rb.length)) [Row.act (l + 1 + linesL b) lent "back", .drp (l + 1 + linesL b) (sl y), .drp (l + 1 + linesL b) lent] := by
      have := hs.right
      simp only [List.length_append, List.length_cons, List.length_nil] at this
      exact this
    -- the three rows ahead
    have c0 : code[m.pc]? = some (.cpy l lent (sl x)) := s1.head
    have c1 : code[m.pc + 1]? = some (.act l lent "lend") := s1.tail.head
    have c2 : code[m.pc + 2]? = some (.cpy l (sl y) lent) := s1.tail.tail.head
    -- m1: the lend's slot holds what x holds
    obtain ⟨m1, hm1⟩ : ∃ m1, m1 = goOver m (.cpy l lent (sl x)) := ⟨_, rfl⟩
    have t1 : To code m [] m1 := by rw [hm1]; exact To.over c0 rfl rfl
    have p1 : m1.pc = m.pc + 1 := by rw [hm1]; rfl
    have l1 : m1.slots lent = s.holds x := by rw [hm1]; show setF _ _ _ _ = _; rw [setF_same]; exact h.slots x hx
    have o1 : ∀ k, k ≠ lent → m1.slots k = m.slots k := fun k hk => by rw [hm1]; exact setF_ne _ _ hk
    have r1 : Rel sl nm s m1 := by
      refine ⟨by rw [hm1]; exact h.rest, by rw [hm1]; exact h.num, by rw [hm1]; exact h.many, by rw [hm1]; exact h.ended, fun z hz => ?_⟩
      rw [o1 _ (by have := hN.lt z hz; omega)]; exact h.slots z hz
    clear hm1
    -- m2: the deed lend
    obtain ⟨m2, t2, p2, q2, r2⟩ : ∃ m2, (∃ ev, (s.deed l (s.holds x) "lend").log = s.log ++ ev ∧ To code m1 ev m2) ∧ m2.pc = m.pc + 2 ∧ m2.slots = m1.slots ∧ Rel sl nm (s.deed l (s.holds x) "lend") m2 := by
      have hc : code[m1.pc]? = some (.act l lent "lend") := by rw [p1]; exact c1
      cases e : s.holds x with
      | none => exact ⟨goOver m1 (.act l lent "lend"), ⟨[], by simp [LS.deed], To.over hc (by show (m1.slots lent).map _ = none; rw [l1, e]; rfl) rfl⟩, by show m1.pc + 1 = _; rw [p1], rfl, ⟨r1.rest, r1.num, r1.many, r1.ended, r1.slots⟩⟩
      | some a =>
        refine ⟨doing m1 (.act l lent "lend"), ⟨_, ?_, To.does (e := .deed l a "lend") hc (by show (m1.slots lent).map _ = _; rw [l1, e]; rfl)⟩, by show m1.pc + 1 = _; rw [p1], rfl, ⟨r1.rest, r1.num, r1.many, r1.ended, r1.slots⟩⟩
        show s.log ++ [Ent.deed l a "lend" s.num] = s.log ++ [Ent.deed l a "lend" m1.num]
        rw [r1.num]
    obtain ⟨ev2, g2, t2⟩ := t2
    -- m3: y holds it
    obtain ⟨m3, hm3⟩ : ∃ m3, m3 = goOver m2 (.cpy l (sl y) lent) := ⟨_, rfl⟩
    have t3 : To code m2 [] m3 := by rw [hm3]; exact To.over (by rw [p2]; exact c2) rfl rfl
    have p3 : m3.pc = m.pc + 3 := by rw [hm3]; show m2.pc + 1 = _; rw [p2]
    have o3 : ∀ k, k ≠ sl y → m3.slots k = m1.slots k := fun k hk => by rw [hm3]; show setF _ _ _ _ = _; rw [setF_ne _ _ hk, q2]
    have r3 : Rel sl nm (LS.set (s.deed l (s.holds x) "lend") y (s.holds x)) m3 := by
      rw [hm3]
      exact rel_set hN r2 hy (s.holds x) (by show setF _ _ _ = _; rfl) (by show setF m2.slots (sl y) (m2.slots lent) = _; rw [q2, l1]) r2.rest r2.num r2.many r2.ended
    clear hm3
    -- the body
    obtain ⟨m4, d4⟩ := compL hN b (l + 1) (lent + 1) (m.pc + 3) _ m3 hb (by omega) (by rw [hrb]; exact s2) r3 p3
    rw [hrb] at d4
    generalize hg : goL b (l + 1) (LS.set (s.deed l (s.holds x) "lend") y (s.holds x)) = t at d4 ⊢
    obtain ⟨ev4, g4, t4⟩ := d4.to
    have r4 := d4.rel
    have p4 := d4.pc
    have l4 : m4.slots lent = s.holds x := by rw [d4.keep lent hl (by omega), o3 _ (by omega)]; exact l1
    have k4 : ∀ k, N ≤ k → k < lent → m4.slots k = m.slots k := fun k a b => by rw [d4.keep k a (by omega), o3 _ (by omega), o1 _ (by omega)]
    -- the three rows behind
    have c5 : code[m4.pc]? = some (.act (l + 1 + linesL b) lent "back") := by rw [p4, Nat.add_assoc]; exact s3.head
    have c6 : code[m4.pc + 1]? = some (.drp (l + 1 + linesL b) (sl y)) := by rw [p4, Nat.add_assoc m.pc]; exact s3.tail.head
    have c7 : code[m4.pc + 2]? = some (.drp (l + 1 + linesL b) lent) := by rw [p4, Nat.add_assoc m.pc]; exact s3.tail.tail.head
    obtain ⟨m5, t5, p5, q5, r5⟩ : ∃ m5, (∃ ev, (t.deed (l + 1 + linesL b) (s.holds x) "back").log = t.log ++ ev ∧ To code m4 ev m5) ∧ m5.pc = m4.pc + 1 ∧ m5.slots = m4.slots ∧ Rel sl nm (t.deed (l + 1 + linesL b) (s.holds x) "back") m5 := by
      cases e : s.holds x with
      | none => exact ⟨goOver m4 (.act (l + 1 + linesL b) lent "back"), ⟨[], by simp [LS.deed], To.over c5 (by show (m4.slots lent).map _ = none; rw [l4, e]; rfl) rfl⟩, rfl, rfl, ⟨r4.rest, r4.num, r4.many, r4.ended, r4.slots⟩⟩
      | some a =>
        refine ⟨doing m4 (.act (l + 1 + linesL b) lent "back"), ⟨_, ?_, To.does (e := .deed (l + 1 + linesL b) a "back") c5 (by show (m4.slots lent).map _ = _; rw [l4, e]; rfl)⟩, rfl, rfl, ⟨r4.rest, r4.num, r4.many, r4.ended, r4.slots⟩⟩
        show t.log ++ [Ent.deed (l + 1 + linesL b) a "back" t.num] = t.log ++ [Ent.deed (l + 1 + linesL b) a "back" m4.num]
        rw [r4.num]
    obtain ⟨ev5, g5, t5⟩ := t5
    have t6 : To code m5 [] (goOver m5 (.drp (l + 1 + linesL b) (sl y))) := To.over (by rw [p5]; exact c6) rfl rfl
    generalize hm6 : goOver m5 (.drp (l + 1 + linesL b) (sl y)) = m6 at t6
    have p6 : m6.pc = m4.pc + 2 := by rw [← hm6]; show m5.pc + 1 = _; rw [p5]
    have r6 : Rel sl nm (LS.set (t.deed (l + 1 + linesL b) (s.holds x) "back") y none) m6 := by
      rw [← hm6]
      exact rel_set hN r5 hy none rfl rfl r5.rest r5.num r5.many r5.ended
    have o6 : ∀ k, N ≤ k → m6.slots k = m4.slots k := fun k hk => by rw [← hm6]; show setF _ _ _ _ = _; rw [setF_ne _ _ (by omega), q5]
    clear hm6
    have t7 : To code m6 [] (goOver m6 (.drp (l + 1 + linesL b) lent)) := To.over (by rw [p6]; exact c7) rfl rfl
    refine ⟨goOver m6 (.drp (l + 1 + linesL b) lent), ⟨r6.rest, r6.num, r6.many, r6.ended, fun z hz => ?_⟩, ?_, fun k a b => ?_, ev2 ++ ev4 ++ ev5, ?_, ?_⟩
    · show setF _ _ _ _ = _
      rw [setF_ne _ _ (by have := hN.lt z hz; omega)]; exact r6.slots z hz
    · show m6.pc + 1 = _
      rw [p6, p4]
      simp only [List.length_append, List.length_cons, List.length_nil]
      omega
    · show setF _ _ _ _ = _
      rw [setF_ne _ _ (by omega), o6 k a, k4 k a b]
    · show (t.deed (l + 1 + linesL b) (s.holds x) "back").log = _
      rw [g5, g4]
      show (s.deed l (s.holds x) "lend").log ++ ev4 ++ ev5 = _
      rw [g2]
      simp only [List.append_assoc]
    · have := ((((((t1.trans t2).trans t3).trans t4).trans t5).trans t6).trans t7)
      simpa using this
  | .ite n b c, l, lent, p, s, m, hn, hl, hs, h, hp => by
    subst hp
    have hb : ∀ z ∈ namesL b, z ∈ nm := fun z hz => hn z (by unfold namesS; simp [hz])
    have hcn : ∀ z ∈ namesL c, z ∈ nm := fun z hz => hn z (by unfold namesS; simp [hz])
    unfold goS
    unfold markS putS at hs ⊢
    dsimp only at hs ⊢
    generalize hrb : putL (markL sl b (l + 1) lent) (m.pc + 1) = rb at hs ⊢
    generalize hrc : putL (markL sl c (l + 2 + linesL b) (lent + lentsL b)) (m.pc + 1 + rb.length + 1) = rc at hs ⊢
    have s0 : code[m.pc]? = some (.tst l n (m.pc + 1 + rb.length + 1)) := hs.left.left.left.head
    have s1 : Seg code (m.pc + 1) rb := hs.left.left.right
    have s2 : code[m.pc + 1 + rb.length]? = some (.jmp (l + 1 + linesL b) (m.pc + 1 + rb.length + 1 + rc.length)) := by
      have := hs.left.right.head
      simp only [List.length_append, List.length_cons, List.length_nil] at this
      rw [show m.pc + (0 + 1 + rb.length) = m.pc + 1 + rb.length by omega] at this
      exact this
    have s3 : Seg code (m.pc + 1 + rb.length + 1) rc := by
      have := hs.right
      simp only [List.length_append, List.length_cons, List.length_nil] at this
      rw [show m.pc + 1 + rb.length + 1 = m.pc + (0 + 1 + rb.length + (0 + 1)) by omega]
      exact this
    have hlen : m.pc + ([Row.tst l n (m.pc + 1 + rb.length + 1)] ++ rb ++ [Row.jmp (l + 1 + linesL b) (m.pc + 1 + rb.length + 1 + rc.length)] ++ rc).length = m.pc + 1 + rb.length + 1 + rc.length := by
      simp only [List.length_append, List.length_cons, List.length_nil]; omega
    rw [hlen]
    split
    · rename_i sa e
      obtain ⟨m1, d1⟩ := test_ok (N := N) lent h s0 e
      obtain ⟨m2, d2⟩ := compL hN b (l + 1) lent (m.pc + 1) sa m1 hb hl (by rw [hrb]; exact s1) d1.rel d1.pc
      rw [hrb] at d2
      have d3 : Done code sl nm N lent (goL b (l + 1) sa) (goL b (l + 1) sa) m2 (m.pc + 1 + rb.length + 1 + rc.length) (goOver m2 (.jmp (l + 1 + linesL b) (m.pc + 1 + rb.length + 1 + rc.length))) :=
        ⟨⟨d2.rel.rest, d2.rel.num, d2.rel.many, d2.rel.ended, d2.rel.slots⟩, rfl, fun _ _ _ => rfl, [], by simp, To.over (by rw [d2.pc]; exact s2) rfl rfl⟩
      exact ⟨_, (d1.trans d2 (Nat.le_refl _)).trans d3 (Nat.le_refl _)⟩
    · rename_i sa e
      obtain ⟨m1, d1⟩ := test_ok (N := N) lent h s0 e
      obtain ⟨m2, d2⟩ := compL hN c (l + 2 + linesL b) (lent + lentsL b) (m.pc + 1 + rb.length + 1) sa m1 hcn (by omega) (by rw [hrc]; exact s3) d1.rel d1.pc
      rw [hrc] at d2
      exact ⟨m2, d1.trans d2 (by omega)⟩
  | .whl n b, l, lent, p, s, m, hn, hl, hs, h, hp => by
    subst hp
    have hb : ∀ z ∈ namesL b, z ∈ nm := fun z hz => hn z (by unfold namesS; exact hz)
    unfold goS
    unfold markS putS at hs ⊢
    dsimp only at hs ⊢
    generalize hrb : putL (markL sl b (l + 1) lent) (m.pc + 1) = rb at hs ⊢
    have s0 : code[m.pc]? = some (.tst l n (m.pc + 1 + rb.length + 1)) := hs.left.left.head
    have s1 : Seg code (m.pc + 1) rb := hs.left.right
    have s2 : code[m.pc + 1 + rb.length]? = some (.jmp (l + 1 + linesL b) m.pc) := by
      have := hs.right.head
      simp only [List.length_append, List.length_cons, List.length_nil] at this
      rw [show m.pc + 1 + rb.length = m.pc + (0 + 1 + rb.length) by omega]
      exact this
    have hlen : m.pc + ([Row.tst l n (m.pc + 1 + rb.length + 1)] ++ rb ++ [Row.jmp (l + 1 + linesL b) m.pc]).length = m.pc + 1 + rb.length + 1 := by
      simp only [List.length_append, List.length_cons, List.length_nil]; omega
    rw [hlen]
    refine loop_ok (lent := lent) (fun s1 => restL b (l + 1) s1) s0 s2 (fun s' m' h' hp' => ?_) _ s m (Nat.lt_succ_self _) h rfl
    have := compL hN b (l + 1) lent (m.pc + 1) s' m' hb hl (by rw [hrb]; exact s1) h' hp'
    rw [hrb] at this
    exact this
theorem compL (hN : Nam sl nm N) : ∀ (sts : List Step) (l lent p : Nat) (s : LS) (m : MC), (∀ x ∈ namesL sts, x ∈ nm) → N ≤ lent → Seg code p (putL (markL sl sts l lent) p) → Rel sl nm s m → m.pc = p →
    ∃ m', Done code sl nm N lent s (goL sts l s) m (p + (putL (markL sl sts l lent) p).length) m'
  | [], l, lent, p, s, m, hn, hl, hs, h, hp => by
    unfold goL markL putL
    exact ⟨m, h, hp, fun _ _ _ => rfl, [], by simp, To.refl _ _⟩
  | st :: r, l, lent, p, s, m, hn, hl, hs, h, hp => by
    unfold goL
    unfold markL putL at hs ⊢
    obtain ⟨m1, d1⟩ := compS hN st l lent p s m (fun x hx => hn x (by unfold namesL; simp [hx])) hl hs.left h hp
    obtain ⟨m2, d2⟩ := compL hN r (l + linesS st) (lent + lentsS st) _ _ m1 (fun x hx => hn x (by unfold namesL; simp [hx])) (by omega) hs.right d1.rel d1.pc
    refine ⟨m2, ?_⟩
    rw [List.length_append, ← Nat.add_assoc]
    exact d1.trans d2 (by omega)
end
end
/-! ### the whole log -/
def s0 (inputs : List Int) : LS := ⟨fun _ => none, [], 0, 0, inputs⟩
def endsOf (l : Nat) (n : Int) (a k : Nat) : List Ent := (List.range k).map fun i => .deed l (a + i) "end" n
def logOf (prog : List Step) (inputs : List Int) : List Ent :=
  (goL prog 0 (s0 inputs)).log ++ endsOf (linesL prog) (goL prog 0 (s0 inputs)).num 0 (goL prog 0 (s0 inputs)).many
def codeRows (sl : Str → Nat) (N : Nat) (prog : List Step) : List Row := putL (markL sl prog 0 N) 0 ++ [.fin (linesL prog)]
def m0 (inputs : List Int) : MC := ⟨0, inputs, 0, fun _ => none, 0, 0⟩
theorem ends_ok {code : List Row} {l : Nat} : ∀ (k : Nat) (m : MC), code[m.pc]? = some (.fin l) → m.ended + k = m.many → Runs code m (endsOf l m.num m.ended k)
  | 0, m, hc, hk => .stop hc (by show (if m.ended < m.many then _ else _) = _; rw [if_neg (by omega)]) rfl
  | k + 1, m, hc, hk => by
    have h := ends_ok k (doing m (.fin l)) hc (by show m.ended + 1 + k = m.many; omega)
    have hs : seen m (.fin l) = some (.deed l m.ended "end") := by show (if m.ended < m.many then _ else _) = _; rw [if_pos (by omega)]
    have q := Runs.does hc hs h
    have e : endsOf l m.num m.ended (k + 1) = Ev.ent m.num (.deed l m.ended "end") :: endsOf l (doing m (.fin l)).num (doing m (.fin l)).ended k := by
      show (List.range (k + 1)).map _ = _ :: (List.range k).map _
      rw [List.range_succ_eq_map, List.map_cons]; rw [List.map_map]
      congr 1
      refine List.map_congr_left (fun i _ => ?_)
      show Ent.deed l (m.ended + (i + 1)) "end" m.num = Ent.deed l (m.ended + 1 + i) "end" m.num
      rw [show m.ended + (i + 1) = m.ended + 1 + i by omega]
    rw [e]; exact q
theorem runs_log {sl : Str → Nat} {nm : List Str} {N : Nat} (hN : Nam sl nm N) (prog : List Step) (inputs : List Int) (hn : ∀ x ∈ namesL prog, x ∈ nm) : Runs (codeRows sl N prog) (m0 inputs) (logOf prog inputs) := by
  have seg : Seg (codeRows sl N prog) 0 (putL (markL sl prog 0 N) 0) := by
    have : Seg (codeRows sl N prog) 0 (codeRows sl N prog) := fun i r e => by rw [Nat.zero_add]; exact e
    exact Seg.left this
  obtain ⟨m, d⟩ := compL (code := codeRows sl N prog) hN prog 0 N 0 (s0 inputs) (m0 inputs) hn (Nat.le_refl _) seg ⟨rfl, rfl, rfl, rfl, fun _ _ => rfl⟩ rfl
  obtain ⟨ev, e, t⟩ := d.to
  have hc : (codeRows sl N prog)[m.pc]? = some (.fin (linesL prog)) := by
    rw [d.pc, Nat.zero_add]
    unfold codeRows
    rw [List.getElem?_append_right (Nat.le_refl _), Nat.sub_self]
    rfl
  have k := ends_ok (goL prog 0 (s0 inputs)).many m hc (by rw [d.rel.ended, d.rel.many, Nat.zero_add])
  rw [d.rel.num, d.rel.ended] at k
  unfold logOf
  rw [e]
  exact t _ k
/-- the log is short -/
theorem log_short (prog : List Step) (inputs : List Int) (hs : sizeL prog ≤ 100) (hi : inputs.length ≤ 100) : (logOf prog inputs).length ≤ 40000 := by
  obtain ⟨⟨ev, e, l⟩, m, r⟩ := costL prog 0 (s0 inputs)
  unfold logOf
  rw [e]
  have hr : (s0 inputs).rest.length = inputs.length := rfl
  rw [hr] at l m
  have b : 1 + inputs.length - (goL prog 0 (s0 inputs)).rest.length ≤ 101 := by omega
  have k1 : 2 * sizeL prog * (1 + inputs.length - (goL prog 0 (s0 inputs)).rest.length) ≤ 200 * 101 := Nat.mul_le_mul (by omega) b
  have k2 : sizeL prog * (1 + inputs.length - (goL prog 0 (s0 inputs)).rest.length) ≤ 100 * 101 := Nat.mul_le_mul hs b
  have m0 : (s0 inputs).many = 0 := rfl
  have l0 : (s0 inputs).log = [] := rfl
  rw [m0] at m
  rw [l0]
  simp only [List.length_append, List.length_nil, endsOf, List.length_map, List.length_range]
  omega
end U

namespace U
open PySem
/-! ## Rules, rows, the first breach -/
structure Rl where
  sides : Nat
  words : List Str
  rooms : List (List (Option Nat))
/-- a rule is well made -/
structure Rl.Ok (r : Rl) : Prop where
  sides : r.sides = 1 ∨ r.sides = 2
  pos : 0 < r.rooms.length
  row : ∀ x ∈ r.rooms, x.length = r.words.length
  to : ∀ x ∈ r.rooms, ∀ y ∈ x, ∀ k, y = some k → k < r.rooms.length
  few : r.words.length ≤ 100
  fewr : r.rooms.length ≤ 100
def Rl.next (r : Rl) (room : Nat) (t : Str) : Option Nat := if t ∈ r.words then (r.rooms.getD room []).getD (r.words.idxOf t) none else some room
theorem Rl.Ok.next_lt {r : Rl} (h : r.Ok) {room k : Nat} {t : Str} (hr : room < r.rooms.length) (e : r.next room t = some k) : k < r.rooms.length := by
  unfold Rl.next at e
  split at e
  · rename_i ht
    have e1 : r.rooms.getD room [] = r.rooms[room] := by rw [List.getD_eq_getElem?_getD, List.getElem?_eq_getElem hr]; rfl
    rw [e1] at e
    have hm : r.rooms[room] ∈ r.rooms := List.getElem_mem hr
    have hi : r.words.idxOf t < (r.rooms[room]).length := by rw [h.row _ hm]; exact List.idxOf_lt_length_iff.mpr ht
    have e2 : (r.rooms[room]).getD (r.words.idxOf t) none = (r.rooms[room])[r.words.idxOf t] := by rw [List.getD_eq_getElem?_getD, List.getElem?_eq_getElem hi]; rfl
    rw [e2] at e
    exact h.to _ hm _ (List.getElem_mem hi) k e
  · cases e; exact hr
/-- what a rule watches: a handle; a tie (where it stands in the log, its handles) -/
inductive Ky where
  | one (h : Nat) | two (at_ a b : Nat)
  deriving DecidableEq
def Ky.handles : Ky → List Nat
  | .one h => [h]
  | .two _ a b => [a, b]
abbrev oneS : Str := "1."
abbrev twoS : Str := "2."
def tieAt (e : Ent) (i : Nat) : Option (Nat × Nat × Nat) := match e with
  | .tie _ a b => some (i, a, b)
  | _ => none
def tiesFrom : Nat → List Ent → List (Nat × Nat × Nat)
  | _, [] => []
  | i, e :: r => (tieAt e i).toList ++ tiesFrom (i + 1) r
def tiesOf (L : List Ent) : List (Nat × Nat × Nat) := tiesFrom 0 L
theorem tiesFrom_append : ∀ (a b : List Ent) (i : Nat), tiesFrom i (a ++ b) = tiesFrom i a ++ tiesFrom (i + a.length) b
  | [], b, i => by simp [tiesFrom]
  | e :: r, b, i => by
    show (tieAt e i).toList ++ tiesFrom (i + 1) (r ++ b) = _
    rw [tiesFrom_append r b (i + 1)]
    show _ = (tieAt e i).toList ++ tiesFrom (i + 1) r ++ _
    rw [List.append_assoc, List.length_cons, show i + 1 + r.length = i + (r.length + 1) by omega]
theorem tiesOf_snoc (L : List Ent) (e : Ent) : tiesOf (L ++ [e]) = tiesOf L ++ (tieAt e L.length).toList := by
  unfold tiesOf
  rw [tiesFrom_append, Nat.zero_add]
  simp [tiesFrom]
theorem tiesFrom_at : ∀ {L : List Ent} {i j a b : Nat}, (j, a, b) ∈ tiesFrom i L → i ≤ j ∧ j < i + L.length ∧ ∃ l, L[j - i]? = some (.tie l a b)
  | [], i, j, a, b, h => by simp [tiesFrom] at h
  | e :: r, i, j, a, b, h => by
    rcases mem_a (show (j, a, b) ∈ (tieAt e i).toList ++ tiesFrom (i + 1) r from h) with h | h
    · cases e with
      | deed _ _ _ _ => simp [tieAt] at h
      | tie l x y =>
        simp [tieAt] at h
        obtain ⟨rfl, rfl, rfl⟩ := h
        exact ⟨Nat.le_refl _, by simp, l, by simp⟩
    · obtain ⟨h1, h2, l, h3⟩ := tiesFrom_at h
      refine ⟨by omega, by simp; omega, l, ?_⟩
      rw [show j - i = (j - (i + 1)) + 1 by omega, List.getElem?_cons_succ]
      exact h3
theorem tiesOf_at {L : List Ent} {j a b : Nat} (h : (j, a, b) ∈ tiesOf L) : j < L.length ∧ ∃ l, L[j]? = some (.tie l a b) := by
  obtain ⟨_, h2, l, h3⟩ := tiesFrom_at h
  exact ⟨by omega, l, by simpa using h3⟩
theorem tiesOf_len (L : List Ent) : (tiesOf L).length ≤ L.length := by
  have key : ∀ (L : List Ent) (i : Nat), (tiesFrom i L).length ≤ L.length := by
    intro L
    induction L with
    | nil => intro i; simp [tiesFrom]
    | cons e r ih =>
      intro i
      show ((tieAt e i).toList ++ tiesFrom (i + 1) r).length ≤ r.length + 1
      have h1 := ih (i + 1)
      have h2 : (tieAt e i).toList.length ≤ 1 := by cases e <;> simp [tieAt]
      rw [List.length_append]; omega
  exact key L 0
/-- the text of a deed of h at the tie of a and b -/
def sideW (a b h : Nat) (w : Str) : Option Str := if h = a then some (oneS ++ w) else if h = b then some (twoS ++ w) else none
def touchT (h : Nat) (w : Str) (t : Nat × Nat × Nat) : Option (Ky × Str) := (sideW t.2.1 t.2.2 h w).map fun x => (Ky.two t.1 t.2.1 t.2.2, x)
def touched (sides : Nat) (L : List Ent) (h : Nat) (w : Str) : List (Ky × Str) := if sides = 1 then [(.one h, w)] else (tiesOf L).filterMap (touchT h w)
def wordOf (k : Ky) (e : Ent) : Option Str := match e with
  | .tie _ _ _ => none
  | .deed _ h w _ => match k with
    | .one h' => if h = h' then some w else none
    | .two _ a b => sideW a b h w
def Ky.start : Ky → Nat
  | .one _ => 0
  | .two i _ _ => i
def rowOf (L : List Ent) (k : Ky) : List Str := (L.drop k.start).filterMap (wordOf k)
def roomOf (r : Rl) (L : List Ent) (k : Ky) : Option Nat := (rowOf L k).foldlM r.next 0
def rm (r : Rl) (L : List Ent) (k : Ky) : Nat := (roomOf r L k).getD 0
def brk1 (r : Rl) (L : List Ent) (h : Nat) (w : Str) : Option Ky := (touched r.sides L h w).findSome? fun x => if r.next (rm r L x.1) x.2 = none then some x.1 else none
def brkAt (rules : List (Str × Rl)) (L : List Ent) (h : Nat) (w : Str) : Option (Str × Ky) := rules.findSome? fun x => (brk1 x.2 L h w).map fun k => (x.1, k)
def dueFrom (rules : List (Str × Rl)) : List Ent → List Ent → Option (Nat × Str × Ky)
  | _, [] => none
  | P, e :: r => match e with
    | .tie _ _ _ => dueFrom rules (P ++ [e]) r
    | .deed _ h w _ => match brkAt rules P h w with
      | some x => some (P.length, x.1, x.2)
      | none => dueFrom rules (P ++ [e]) r
def due (rules : List (Str × Rl)) (L : List Ent) : Option (Nat × Str × Ky) := dueFrom rules [] L
/-- a key that a rule of so many sides has behind the log L -/
def KeyOf (sides : Nat) (L : List Ent) : Ky → Prop
  | .one _ => sides = 1
  | .two i a b => sides ≠ 1 ∧ (i, a, b) ∈ tiesOf L
theorem KeyOf.start {sides : Nat} {L : List Ent} {k : Ky} (h : KeyOf sides L k) : k.start ≤ L.length := by
  cases k with
  | one _ => exact Nat.zero_le _
  | two i a b => exact Nat.le_of_lt (tiesOf_at h.2).1
theorem rowOf_snoc {L : List Ent} {k : Ky} (h : k.start ≤ L.length) (e : Ent) : rowOf (L ++ [e]) k = rowOf L k ++ (wordOf k e).toList := by
  unfold rowOf
  rw [List.drop_append_of_le_length h, List.filterMap_append]
  congr 1
theorem foldlM_snoc {α β : Type} (f : β → α → Option β) : ∀ (l : List α) (b : β) (x : α), (l ++ [x]).foldlM f b = (l.foldlM f b).bind fun y => f y x
  | [], b, x => by
    show (f b x >>= fun s => pure s) = f b x
    simp
  | a :: l, b, x => by
    show (f b a >>= fun s => (l ++ [x]).foldlM f s) = _
    cases h : f b a with
    | none => simp [List.foldlM, h]
    | some y =>
      show (l ++ [x]).foldlM f y = _
      rw [foldlM_snoc f l y x]
      simp [List.foldlM, h]
theorem roomOf_snoc {r : Rl} {L : List Ent} {k : Ky} (h : k.start ≤ L.length) (e : Ent) :
    roomOf r (L ++ [e]) k = match wordOf k e with | none => roomOf r L k | some w => (roomOf r L k).bind fun y => r.next y w := by
  unfold roomOf
  rw [rowOf_snoc h]
  cases wordOf k e with
  | none => simp
  | some w => exact foldlM_snoc _ _ _ _
theorem roomOf_lt {r : Rl} (ok : r.Ok) {L : List Ent} {k : Ky} {y : Nat} (e : roomOf r L k = some y) : y < r.rooms.length := by
  unfold roomOf at e
  have key : ∀ (l : List Str) (b y : Nat), b < r.rooms.length → l.foldlM r.next b = some y → y < r.rooms.length := by
    intro l
    induction l with
    | nil => intro b y hb e; cases e; exact hb
    | cons a l ih =>
      intro b y hb e
      have e' : (r.next b a >>= fun s => l.foldlM r.next s) = some y := e
      cases h : r.next b a with
      | none => rw [h] at e'; cases e'
      | some z =>
        rw [h] at e'
        exact ih z y (ok.next_lt hb h) e'
  exact key _ _ _ ok.pos e
/-- the keys that a deed touches, and no others, go on -/
theorem touched_iff {sides : Nat} {L : List Ent} {h : Nat} {w : Str} {k : Ky} {t : Str} (l : Nat) (n : Int) : (k, t) ∈ touched sides L h w ↔ KeyOf sides L k ∧ wordOf k (.deed l h w n) = some t := by
  unfold touched
  by_cases hs : sides = 1
  · rw [if_pos hs]
    constructor
    · intro hm
      have e : (k, t) = (Ky.one h, w) := by simpa using hm
      cases e
      exact ⟨hs, by simp [wordOf]⟩
    · rintro ⟨hk, hw⟩
      cases k with
      | one h' =>
        simp only [wordOf] at hw
        split at hw
        · rename_i e; subst e; cases hw; simp
        · cases hw
      | two i a b => exact absurd hs hk.1
  · rw [if_neg hs]
    constructor
    · intro hm
      obtain ⟨⟨i, a, b⟩, h1, h2⟩ := List.mem_filterMap.mp hm
      unfold touchT at h2
      cases q : sideW a b h w with
      | none => rw [q] at h2; simp at h2
      | some x =>
        rw [q] at h2
        simp only [Option.map_some, Option.some.injEq] at h2
        cases h2
        exact ⟨⟨hs, h1⟩, q⟩
    · rintro ⟨hk, hw⟩
      cases k with
      | one h' => exact absurd hk hs
      | two i a b =>
        refine List.mem_filterMap.mpr ⟨(i, a, b), hk.2, ?_⟩
        have q : sideW a b h w = some t := hw
        unfold touchT
        rw [q]; rfl
/-- nothing is broken: every key has a room -/
def Kept (r : Rl) (L : List Ent) : Prop := ∀ k, KeyOf r.sides L k → (roomOf r L k).isSome = true
theorem findSome_none {α β : Type} {f : α → Option β} : ∀ {l : List α}, l.findSome? f = none → ∀ x ∈ l, f x = none
  | [], _, x, hx => by simp at hx
  | a :: l, h, x, hx => by
    rw [List.findSome?_cons] at h
    cases q : f a with
    | some y => rw [q] at h; cases h
    | none =>
      rw [q] at h
      rcases mem_c hx with e | hx
      · rw [e]; exact q
      · exact findSome_none h x hx
theorem brk1_none {r : Rl} {L : List Ent} {h : Nat} {w : Str} (e : brk1 r L h w = none) {k : Ky} {t : Str} (hm : (k, t) ∈ touched r.sides L h w) : ∃ y, r.next (rm r L k) t = some y := by
  have q := findSome_none e (k, t) hm
  dsimp only at q
  split at q
  · cases q
  · rename_i hn
    cases z : r.next (rm r L k) t with
    | none => exact absurd z hn
    | some y => exact ⟨y, rfl⟩
theorem wordOf_new {l a b : Nat} {k : Ky} : wordOf k (.tie l a b) = none := by cases k <;> rfl
theorem keyOf_snoc {sides : Nat} {L : List Ent} {e : Ent} {k : Ky} (h : KeyOf sides L k) : KeyOf sides (L ++ [e]) k := by
  cases k with
  | one _ => exact h
  | two i a b => exact ⟨h.1, by rw [tiesOf_snoc]; exact List.mem_append_left _ h.2⟩
theorem keyOf_deed {sides : Nat} {L : List Ent} {l h : Nat} {w : Str} {n : Int} {k : Ky} (q : KeyOf sides (L ++ [.deed l h w n]) k) : KeyOf sides L k := by
  cases k with
  | one _ => exact q
  | two i a b =>
    refine ⟨q.1, ?_⟩
    have := q.2
    rw [tiesOf_snoc] at this
    simpa [tieAt] using this
theorem rowOf_end {L : List Ent} {k : Ky} (h : L.length ≤ k.start) : rowOf L k = [] := by
  unfold rowOf; rw [List.drop_eq_nil_of_le h]; rfl
theorem Kept.tie {r : Rl} {L : List Ent} (h : Kept r L) (l a b : Nat) : Kept r (L ++ [.tie l a b]) := by
  intro k hk
  by_cases hl : KeyOf r.sides L k
  · rw [roomOf_snoc hl.start, wordOf_new]; exact h k hl
  · cases k with
    | one _ => exact absurd hk hl
    | two i x y =>
      have hi : i = L.length := by
        have := hk.2
        rw [tiesOf_snoc] at this
        rcases mem_a this with m | m
        · exact absurd ⟨hk.1, m⟩ hl
        · simp [tieAt] at m; exact m.1
      rw [roomOf_snoc (by show i ≤ _; omega), wordOf_new]
      unfold roomOf
      rw [rowOf_end (by show L.length ≤ i; omega)]
      rfl
theorem Kept.deed {r : Rl} {L : List Ent} (hk : Kept r L) {l h : Nat} {w : Str} {n : Int} (e : brk1 r L h w = none) : Kept r (L ++ [.deed l h w n]) := by
  intro k hq
  have hl := keyOf_deed hq
  rw [roomOf_snoc hl.start]
  cases hw : wordOf k (.deed l h w n) with
  | none => exact hk k hl
  | some t =>
    obtain ⟨y, hy⟩ := brk1_none e ((touched_iff l n).mpr ⟨hl, hw⟩)
    obtain ⟨z, hz⟩ := Option.isSome_iff_exists.mp (hk k hl)
    have : rm r L k = z := by unfold rm; rw [hz]; rfl
    rw [this] at hy
    show ((roomOf r L k).bind _).isSome = true
    rw [hz]
    show (r.next z t).isSome = true
    rw [hy]; rfl
theorem Kept.nil (r : Rl) : Kept r [] := by
  intro k hk
  cases k with
  | one h => rfl
  | two i a b => exact absurd hk.2 (by simp [tiesOf, tiesFrom])
/-- the rooms behind a deed -/
theorem rm_deed {r : Rl} {L : List Ent} (hk : Kept r L) {l h : Nat} {w : Str} {n : Int} {k : Ky} (hl : KeyOf r.sides L k) :
    (∀ t y, wordOf k (.deed l h w n) = some t → r.next (rm r L k) t = some y → rm r (L ++ [.deed l h w n]) k = y) ∧ (wordOf k (.deed l h w n) = none → rm r (L ++ [.deed l h w n]) k = rm r L k) := by
  obtain ⟨z, hz⟩ := Option.isSome_iff_exists.mp (hk k hl)
  have ez : rm r L k = z := by unfold rm; rw [hz]; rfl
  refine ⟨fun t y ht hy => ?_, fun ht => ?_⟩
  · unfold rm
    rw [roomOf_snoc hl.start, ht]
    show ((roomOf r L k).bind _).getD 0 = y
    rw [hz]
    rw [ez] at hy
    show (r.next z t).getD 0 = y
    rw [hy]; rfl
  · unfold rm
    rw [roomOf_snoc hl.start, ht]
theorem rm_tie {r : Rl} {L : List Ent} {k : Ky} (hs : k.start ≤ L.length) (l a b : Nat) : rm r (L ++ [.tie l a b]) k = rm r L k := by
  unfold rm; rw [roomOf_snoc hs, wordOf_new]
theorem rm_lt {r : Rl} (ok : r.Ok) (L : List Ent) (k : Ky) : rm r L k < r.rooms.length := by
  unfold rm
  cases h : roomOf r L k with
  | none => exact ok.pos
  | some y => exact roomOf_lt ok h
/-- all rules are kept -/
def KeptAll (rules : List (Str × Rl)) (L : List Ent) : Prop := ∀ x ∈ rules, Kept x.2 L
theorem brkAt_none {rules : List (Str × Rl)} {L : List Ent} {h : Nat} {w : Str} (e : brkAt rules L h w = none) : ∀ x ∈ rules, brk1 x.2 L h w = none := fun x hx => by
  have := findSome_none e x hx
  simpa using this
theorem brk1_key {r : Rl} {L : List Ent} {h : Nat} {w : Str} {k : Ky} (e : brk1 r L h w = some k) : ∃ t, (k, t) ∈ touched r.sides L h w ∧ r.next (rm r L k) t = none := by
  obtain ⟨x, hx, q⟩ := List.exists_of_findSome?_eq_some e
  split at q
  · rename_i hn
    cases q
    exact ⟨x.2, hx, hn⟩
  · cases q
theorem brkAt_key {rules : List (Str × Rl)} {L : List Ent} {h : Nat} {w : Str} {x : Str × Ky} (e : brkAt rules L h w = some x) : ∃ r, (x.1, r) ∈ rules ∧ ∃ t, (x.2, t) ∈ touched r.sides L h w := by
  obtain ⟨⟨n, r⟩, hx, q⟩ := List.exists_of_findSome?_eq_some e
  cases z : brk1 r L h w with
  | none => simp [z] at q
  | some k =>
    simp [z] at q
    subst q
    obtain ⟨t, ht, _⟩ := brk1_key z
    exact ⟨r, hx, t, ht⟩
/-- where the first breach stands, and what is known of it -/
theorem dueFrom_some {rules : List (Str × Rl)} : ∀ {P R : List Ent} {i : Nat} {n : Str} {k : Ky}, dueFrom rules P R = some (i, n, k) →
    P.length ≤ i ∧ i < P.length + R.length ∧ ∃ l h w z, (P ++ R)[i]? = some (.deed l h w z) ∧ brkAt rules ((P ++ R).take i) h w = some (n, k)
  | P, [], i, n, k, e => by cases e
  | P, e0 :: R, i, n, k, e => by
    have go : dueFrom rules (P ++ [e0]) R = some (i, n, k) → P.length ≤ i ∧ i < P.length + (e0 :: R).length ∧ ∃ l h w z, (P ++ e0 :: R)[i]? = some (.deed l h w z) ∧ brkAt rules ((P ++ e0 :: R).take i) h w = some (n, k) := fun q => by
      obtain ⟨h1, h2, l, h, w, z, h3, h4⟩ := dueFrom_some q
      rw [List.append_assoc] at h3 h4
      rw [List.length_append, List.length_singleton] at h1 h2
      exact ⟨by omega, by simp; omega, l, h, w, z, h3, h4⟩
    cases e0 with
    | tie l a b => exact go e
    | deed l h w z =>
      unfold dueFrom at e
      dsimp only at e
      cases q : brkAt rules P h w with
      | none => rw [q] at e; exact go e
      | some x =>
        rw [q] at e
        cases e
        refine ⟨Nat.le_refl _, by simp, l, h, w, z, ?_, ?_⟩
        · rw [List.getElem?_append_right (Nat.le_refl _), Nat.sub_self]; rfl
        · rw [List.take_append_of_le_length (Nat.le_refl _), List.take_length]; exact q
end U


namespace U
open PySem L2
def top (i : Nat) : Stmt := PySem.Challenge.pw_usewarden_k47_whole_watched.main.body.getD i (.Pass ⟨0, 0, 0, 0⟩)
abbrev st_Breach_init : Stmt := inClass (top 4) 0
abbrev st_next_room : Stmt := top 6
abbrev st_Watch_init : Stmt := inClass (top 8) 0
abbrev st_Watch_touched : Stmt := inClass (top 8) 1
abbrev st_Watch_handles_of : Stmt := inClass (top 8) 2
abbrev st_Watch_tied : Stmt := inClass (top 8) 3
abbrev st_Watch_room_of : Stmt := inClass (top 8) 4
abbrev st_Watch_broken : Stmt := inClass (top 8) 5
abbrev st_Watch_move : Stmt := inClass (top 8) 6
abbrev st_TieWatch_init : Stmt := inClass (top 9) 0
abbrev st_TieWatch_tied : Stmt := inClass (top 9) 1
abbrev st_TieWatch_handles_of : Stmt := inClass (top 9) 2
abbrev st_TieWatch_touched : Stmt := inClass (top 9) 3
abbrev st_watch_of : Stmt := top 10
abbrev st_deeds_of : Stmt := top 12
abbrev st_deeds_of_tie : Stmt := top 13
abbrev st_row_broken : Stmt := top 14
abbrev st_broken_by : Stmt := top 15
abbrev st_Machine_init : Stmt := inClass (top 17) 0
abbrev st_Machine_coming : Stmt := inClass (top 17) 1
abbrev st_Machine_seen : Stmt := inClass (top 17) 2
abbrev st_Machine_go_over : Stmt := inClass (top 17) 3
abbrev st_Machine_goes_on : Stmt := inClass (top 17) 4
abbrev st_Machine_done : Stmt := inClass (top 17) 5
abbrev st_run_watched : Stmt := top 19
abbrev st_lines_of_step : Stmt := top 21
abbrev st_lines_of : Stmt := top 22
abbrev st_names_in : Stmt := top 23
abbrev st_names_of : Stmt := top 24
abbrev st_Marker_init : Stmt := inClass (top 26) 0
abbrev st_Marker_next_line : Stmt := inClass (top 26) 1
abbrev st_Marker_marked : Stmt := inClass (top 26) 2
abbrev st_Marker_marked_step : Stmt := inClass (top 26) 3
abbrev st_put_lend : Stmt := top 27
abbrev st_put_if : Stmt := top 28
abbrev st_put_while : Stmt := top 29
abbrev st_put_steps : Stmt := top 30
abbrev st_coded : Stmt := top 31
abbrev st_code_of : Stmt := top 32
abbrev st_law_cell_at : Stmt := top 34
abbrev st_law_mixed : Stmt := top 35
abbrev st_law_words : Stmt := top 36
abbrev st_law_step : Stmt := top 37
abbrev st_law_shut : Stmt := top 38
abbrev st_law_program : Stmt := top 39
abbrev st_law_input : Stmt := top 40
abbrev st_law_rule : Stmt := top 41
abbrev st_law_next : Stmt := top 42
abbrev st_law_row_of : Stmt := top 43
abbrev st_law_touched : Stmt := top 44
abbrev st_law_due : Stmt := top 45
abbrev st_law_told : Stmt := top 46
abbrev st_law_whole : Stmt := top 47
abbrev st_law_is_log : Stmt := top 48
abbrev st_law_as_due : Stmt := top 49
abbrev st_law_lines : Stmt := top 50
abbrev st_law_deed : Stmt := top 51
abbrev st_law_more : Stmt := top 52
abbrev st_law_plain : Stmt := top 53
abbrev st_law_lent : Stmt := top 54
abbrev st_law_go : Stmt := top 55
abbrev st_law_log : Stmt := top 56
abbrev st_law : Stmt := top 57
theorem sc_Breach_init : FnScope ["self", "rule", "line", "handles", "row", "log"] ["self", "rule", "line", "handles", "row", "log"] (defScope st_Breach_init) := ⟨rfl, rfl, rfl, by decide +kernel, rfl, by decide +kernel, by decide +kernel⟩
theorem sc_next_room : FnScope ["rule", "room", "word"] ["rule", "room", "word"] (defScope st_next_room) := ⟨rfl, rfl, rfl, by decide +kernel, rfl, by decide +kernel, by decide +kernel⟩
theorem sc_Watch_init : FnScope ["self", "name", "rule"] ["self", "name", "rule"] (defScope st_Watch_init) := ⟨rfl, rfl, rfl, by decide +kernel, rfl, by decide +kernel, by decide +kernel⟩
theorem sc_Watch_touched : FnScope ["self", "handle", "word"] ["self", "handle", "word"] (defScope st_Watch_touched) := ⟨rfl, rfl, rfl, by decide +kernel, rfl, by decide +kernel, by decide +kernel⟩
theorem sc_Watch_handles_of : FnScope ["self", "key"] ["self", "key"] (defScope st_Watch_handles_of) := ⟨rfl, rfl, rfl, by decide +kernel, rfl, by decide +kernel, by decide +kernel⟩
theorem sc_Watch_tied : FnScope ["self", "one", "other"] ["self", "one", "other"] (defScope st_Watch_tied) := ⟨rfl, rfl, rfl, by decide +kernel, rfl, by decide +kernel, by decide +kernel⟩
theorem sc_Watch_room_of : FnScope ["self", "key"] ["self", "key"] (defScope st_Watch_room_of) := ⟨rfl, rfl, rfl, by decide +kernel, rfl, by decide +kernel, by decide +kernel⟩
theorem sc_Watch_broken : FnScope ["self", "handle", "word", "key", "text"] ["self", "handle", "word"] (defScope st_Watch_broken) := ⟨rfl, rfl, rfl, by decide +kernel, rfl, by decide +kernel, by decide +kernel⟩
theorem sc_Watch_move : FnScope ["self", "handle", "word", "key", "text"] ["self", "handle", "word"] (defScope st_Watch_move) := ⟨rfl, rfl, rfl, by decide +kernel, rfl, by decide +kernel, by decide +kernel⟩
theorem sc_TieWatch_init : FnScope ["self", "name", "rule"] ["self", "name", "rule"] (defScope st_TieWatch_init) := ⟨rfl, rfl, rfl, by decide +kernel, rfl, by decide +kernel, by decide +kernel⟩
theorem sc_TieWatch_tied : FnScope ["self", "one", "other"] ["self", "one", "other"] (defScope st_TieWatch_tied) := ⟨rfl, rfl, rfl, by decide +kernel, rfl, by decide +kernel, by decide +kernel⟩
theorem sc_TieWatch_handles_of : FnScope ["self", "key"] ["self", "key"] (defScope st_TieWatch_handles_of) := ⟨rfl, rfl, rfl, by decide +kernel, rfl, by decide +kernel, by decide +kernel⟩
theorem sc_TieWatch_touched : FnScope ["self", "handle", "word", "found", "key", "tie"] ["self", "handle", "word"] (defScope st_TieWatch_touched) := ⟨rfl, rfl, rfl, by decide +kernel, rfl, by decide +kernel, by decide +kernel⟩
theorem sc_watch_of : FnScope ["name", "rule"] ["name", "rule"] (defScope st_watch_of) := ⟨rfl, rfl, rfl, by decide +kernel, rfl, by decide +kernel, by decide +kernel⟩
theorem sc_deeds_of : FnScope ["log", "handle", "entry"] ["log", "handle"] (defScope st_deeds_of) := ⟨rfl, rfl, rfl, by decide +kernel, rfl, by decide +kernel, by decide +kernel⟩
theorem sc_deeds_of_tie : FnScope ["log", "many", "begin", "one", "other", "row", "entry", "at"] ["log", "many"] (defScope st_deeds_of_tie) := ⟨rfl, rfl, rfl, by decide +kernel, rfl, by decide +kernel, by decide +kernel⟩
theorem sc_row_broken : FnScope ["log", "watch", "key", "handle", "word"] ["log", "watch", "key", "handle", "word"] (defScope st_row_broken) := ⟨rfl, rfl, rfl, by decide +kernel, rfl, by decide +kernel, by decide +kernel⟩
theorem sc_broken_by : FnScope ["watches", "handle", "word", "watch", "key"] ["watches", "handle", "word"] (defScope st_broken_by) := ⟨rfl, rfl, rfl, by decide +kernel, rfl, by decide +kernel, by decide +kernel⟩
theorem sc_Machine_init : FnScope ["self", "code", "inputs"] ["self", "code", "inputs"] (defScope st_Machine_init) := ⟨rfl, rfl, rfl, by decide +kernel, rfl, by decide +kernel, by decide +kernel⟩
theorem sc_Machine_coming : FnScope ["self", "found"] ["self"] (defScope st_Machine_coming) := ⟨rfl, rfl, rfl, by decide +kernel, rfl, by decide +kernel, by decide +kernel⟩
theorem sc_Machine_seen : FnScope ["self", "row", "one", "other"] ["self", "row"] (defScope st_Machine_seen) := ⟨rfl, rfl, rfl, by decide +kernel, rfl, by decide +kernel, by decide +kernel⟩
theorem sc_Machine_go_over : FnScope ["self", "row"] ["self", "row"] (defScope st_Machine_go_over) := ⟨rfl, rfl, rfl, by decide +kernel, rfl, by decide +kernel, by decide +kernel⟩
theorem sc_Machine_goes_on : FnScope ["self", "bound"] ["self", "bound"] (defScope st_Machine_goes_on) := ⟨rfl, rfl, rfl, by decide +kernel, rfl, by decide +kernel, by decide +kernel⟩
theorem sc_Machine_done : FnScope ["self", "found", "at", "kind", "line", "one", "other", "row"] ["self"] (defScope st_Machine_done) := ⟨rfl, rfl, rfl, by decide +kernel, rfl, by decide +kernel, by decide +kernel⟩
theorem sc_run_watched : FnScope ["code", "rules", "inputs", "machine", "watches", "coming", "at", "kind", "line", "handle", "thing", "watch", "found", "key", "row", "name", "rule"] ["code", "rules", "inputs"] (defScope st_run_watched) := ⟨rfl, rfl, rfl, by decide +kernel, rfl, by decide +kernel, by decide +kernel⟩
theorem sc_lines_of_step : FnScope ["step"] ["step"] (defScope st_lines_of_step) := ⟨rfl, rfl, rfl, by decide +kernel, rfl, by decide +kernel, by decide +kernel⟩
theorem sc_lines_of : FnScope ["program", "lines", "step"] ["program"] (defScope st_lines_of) := ⟨rfl, rfl, rfl, by decide +kernel, rfl, by decide +kernel, by decide +kernel⟩
theorem sc_names_in : FnScope ["line", "words"] ["line"] (defScope st_names_in) := ⟨rfl, rfl, rfl, by decide +kernel, rfl, by decide +kernel, by decide +kernel⟩
theorem sc_names_of : FnScope ["program", "names", "line", "name"] ["program"] (defScope st_names_of) := ⟨rfl, rfl, rfl, by decide +kernel, rfl, by decide +kernel, by decide +kernel⟩
theorem sc_Marker_init : FnScope ["self", "names", "name"] ["self", "names"] (defScope st_Marker_init) := ⟨rfl, rfl, rfl, by decide +kernel, rfl, by decide +kernel, by decide +kernel⟩
theorem sc_Marker_next_line : FnScope ["self"] ["self"] (defScope st_Marker_next_line) := ⟨rfl, rfl, rfl, by decide +kernel, rfl, by decide +kernel, by decide +kernel⟩
theorem sc_Marker_marked : FnScope ["self", "steps", "found", "step"] ["self", "steps"] (defScope st_Marker_marked) := ⟨rfl, rfl, rfl, by decide +kernel, rfl, by decide +kernel, by decide +kernel⟩
theorem sc_Marker_marked_step : FnScope ["self", "step", "line", "slots", "body", "some", "middle", "others", "name"] ["self", "step"] (defScope st_Marker_marked_step) := ⟨rfl, rfl, rfl, by decide +kernel, rfl, by decide +kernel, by decide +kernel⟩
theorem sc_put_lend : FnScope ["rows", "block", "turn", "one", "other", "kept"] ["rows", "block", "turn"] (defScope st_put_lend) := ⟨rfl, rfl, rfl, by decide +kernel, rfl, by decide +kernel, by decide +kernel⟩
theorem sc_put_if : FnScope ["rows", "block", "turn", "head", "middle"] ["rows", "block", "turn"] (defScope st_put_if) := ⟨rfl, rfl, rfl, by decide +kernel, rfl, by decide +kernel, by decide +kernel⟩
theorem sc_put_while : FnScope ["rows", "block", "turn", "first", "head"] ["rows", "block", "turn"] (defScope st_put_while) := ⟨rfl, rfl, rfl, by decide +kernel, rfl, by decide +kernel, by decide +kernel⟩
theorem sc_put_steps : FnScope ["rows", "marked", "turn", "one"] ["rows", "marked", "turn"] (defScope st_put_steps) := ⟨rfl, rfl, rfl, by decide +kernel, rfl, by decide +kernel, by decide +kernel⟩
theorem sc_coded : FnScope ["program", "turn", "marker", "rows"] ["program", "turn"] (defScope st_coded) := ⟨rfl, rfl, rfl, by decide +kernel, rfl, by decide +kernel, by decide +kernel⟩
theorem sc_code_of : FnScope ["program"] ["program"] (defScope st_code_of) := ⟨rfl, rfl, rfl, by decide +kernel, rfl, by decide +kernel, by decide +kernel⟩
theorem sc_law_cell_at : FnScope ["_law_script", "_law_k"] ["_law_script", "_law_k"] (defScope st_law_cell_at) := ⟨rfl, rfl, rfl, by decide +kernel, rfl, by decide +kernel, by decide +kernel⟩
theorem sc_law_mixed : FnScope ["_law_cell", "_law_k", "_law_number"] ["_law_cell", "_law_k"] (defScope st_law_mixed) := ⟨rfl, rfl, rfl, by decide +kernel, rfl, by decide +kernel, by decide +kernel⟩
theorem sc_law_words : FnScope ["_law_cell", "_law_many", "_law_letters", "_law_size", "_law_at", "_law_words_here", "_law_k", "_law_word", "_law_j"] ["_law_cell", "_law_many"] (defScope st_law_words) := ⟨rfl, rfl, rfl, by decide +kernel, rfl, by decide +kernel, by decide +kernel⟩
theorem sc_law_step : FnScope ["_law_cell", "_law_names", "_law_words_here", "_law_x", "_law_y"] ["_law_cell", "_law_names", "_law_words_here"] (defScope st_law_step) := ⟨rfl, rfl, rfl, by decide +kernel, rfl, by decide +kernel, by decide +kernel⟩
theorem sc_law_shut : FnScope ["_law_piles", "_law_heads", "_law_body", "_law_head"] ["_law_piles", "_law_heads"] (defScope st_law_shut) := ⟨rfl, rfl, rfl, by decide +kernel, rfl, by decide +kernel, by decide +kernel⟩
theorem sc_law_program : FnScope ["_law_cells", "_law_names", "_law_words_here", "_law_low", "_law_piles", "_law_heads", "_law_lends", "_law_ties", "_law_cell", "_law_kind", "_law_bound"] ["_law_cells", "_law_names", "_law_words_here", "_law_low"] (defScope st_law_program) := ⟨rfl, rfl, rfl, by decide +kernel, rfl, by decide +kernel, by decide +kernel⟩
theorem sc_law_input : FnScope ["_law_cell", "_law_low"] ["_law_cell", "_law_low"] (defScope st_law_input) := ⟨rfl, rfl, rfl, by decide +kernel, rfl, by decide +kernel, by decide +kernel⟩
theorem sc_law_rule : FnScope ["_law_cell", "_law_words_here", "_law_sides", "_law_texts", "_law_many", "_law_rooms", "_law_room", "_law_row", "_law_j", "_law_number", "_law_word", "_law_k"] ["_law_cell", "_law_words_here"] (defScope st_law_rule) := ⟨rfl, rfl, rfl, by decide +kernel, rfl, by decide +kernel, by decide +kernel⟩
theorem sc_law_next : FnScope ["_law_rule_here", "_law_room", "_law_text"] ["_law_rule_here", "_law_room", "_law_text"] (defScope st_law_next) := ⟨rfl, rfl, rfl, by decide +kernel, rfl, by decide +kernel, by decide +kernel⟩
theorem sc_law_row_of : FnScope ["_law_log_here", "_law_key", "_law_row", "_law_entry"] ["_law_log_here", "_law_key"] (defScope st_law_row_of) := ⟨rfl, rfl, rfl, by decide +kernel, rfl, by decide +kernel, by decide +kernel⟩
theorem sc_law_touched : FnScope ["_law_sides", "_law_ties", "_law_entry", "_law_tie"] ["_law_sides", "_law_ties", "_law_entry"] (defScope st_law_touched) := ⟨rfl, rfl, rfl, by decide +kernel, rfl, by decide +kernel, by decide +kernel⟩
theorem sc_law_due : FnScope ["_law_rules", "_law_log_here", "_law_ties", "_law_rooms", "_law_at", "_law_entry", "_law_name", "_law_rule_here", "_law_key", "_law_text"] ["_law_rules", "_law_log_here"] (defScope st_law_due) := ⟨rfl, rfl, rfl, by decide +kernel, rfl, by decide +kernel, by decide +kernel⟩
theorem sc_law_told : FnScope ["_law_code", "_law_rules", "_law_inputs", "_law_kept", "_law_found", "e"] ["_law_code", "_law_rules", "_law_inputs"] (defScope st_law_told) := ⟨rfl, rfl, rfl, by decide +kernel, rfl, by decide +kernel, by decide +kernel⟩
theorem sc_law_whole : FnScope ["_law_found"] ["_law_found"] (defScope st_law_whole) := ⟨rfl, rfl, rfl, by decide +kernel, rfl, by decide +kernel, by decide +kernel⟩
theorem sc_law_is_log : FnScope ["_law_found", "_law_due_here", "_law_one", "_law_other", "_law_part", "_law_told_here"] ["_law_found", "_law_due_here"] (defScope st_law_is_log) := ⟨rfl, rfl, rfl, by decide +kernel, rfl, by decide +kernel, by decide +kernel⟩
theorem sc_law_as_due : FnScope ["_law_told_here", "_law_log_here", "_law_due_here", "_law_handle"] ["_law_told_here", "_law_log_here", "_law_due_here"] (defScope st_law_as_due) := ⟨rfl, rfl, rfl, by decide +kernel, rfl, by decide +kernel, by decide +kernel⟩
theorem sc_law_lines : FnScope ["_law_steps", "_law_many", "_law_step_here", "_law_part"] ["_law_steps"] (defScope st_law_lines) := ⟨rfl, rfl, rfl, by decide +kernel, rfl, by decide +kernel, by decide +kernel⟩
theorem sc_law_deed : FnScope ["_law_state", "_law_line", "_law_handle", "_law_word"] ["_law_state", "_law_line", "_law_handle", "_law_word"] (defScope st_law_deed) := ⟨rfl, rfl, rfl, by decide +kernel, rfl, by decide +kernel, by decide +kernel⟩
theorem sc_law_more : FnScope ["_law_state", "_law_bound"] ["_law_state", "_law_bound"] (defScope st_law_more) := ⟨rfl, rfl, rfl, by decide +kernel, rfl, by decide +kernel, by decide +kernel⟩
theorem sc_law_plain : FnScope ["_law_state", "_law_step_here", "_law_line", "_law_names", "_law_here"] ["_law_state", "_law_step_here", "_law_line"] (defScope st_law_plain) := ⟨rfl, rfl, rfl, by decide +kernel, rfl, by decide +kernel, by decide +kernel⟩
theorem sc_law_lent : FnScope ["_law_state", "_law_step_here", "_law_line", "_law_lent_here"] ["_law_state", "_law_step_here", "_law_line"] (defScope st_law_lent) := ⟨rfl, rfl, rfl, by decide +kernel, rfl, by decide +kernel, by decide +kernel⟩
theorem sc_law_go : FnScope ["_law_state", "_law_steps", "_law_line", "_law_step_here"] ["_law_state", "_law_steps", "_law_line"] (defScope st_law_go) := ⟨rfl, rfl, rfl, by decide +kernel, rfl, by decide +kernel, by decide +kernel⟩
theorem sc_law_log : FnScope ["_law_program_here", "_law_inputs", "_law_state", "_law_handle"] ["_law_program_here", "_law_inputs"] (defScope st_law_log) := ⟨rfl, rfl, rfl, by decide +kernel, rfl, by decide +kernel, by decide +kernel⟩
theorem sc_law : FnScope ["_law_script", "_law_names", "_law_words_here", "_law_low", "_law_some", "_law_program_here", "_law_inputs", "_law_titles", "_law_rules", "_law_title", "_law_cell", "_law_log_here", "_law_due_here"] ["_law_script"] (defScope st_law) := ⟨rfl, rfl, rfl, by decide +kernel, rfl, by decide +kernel, by decide +kernel⟩
structure Ad where
  f_Breach_init : Addr
  d_Breach_init : FuncData
  f_next_room : Addr
  d_next_room : FuncData
  f_Watch_init : Addr
  d_Watch_init : FuncData
  f_Watch_touched : Addr
  d_Watch_touched : FuncData
  f_Watch_handles_of : Addr
  d_Watch_handles_of : FuncData
  f_Watch_tied : Addr
  d_Watch_tied : FuncData
  f_Watch_room_of : Addr
  d_Watch_room_of : FuncData
  f_Watch_broken : Addr
  d_Watch_broken : FuncData
  f_Watch_move : Addr
  d_Watch_move : FuncData
  f_TieWatch_init : Addr
  d_TieWatch_init : FuncData
  f_TieWatch_tied : Addr
  d_TieWatch_tied : FuncData
  f_TieWatch_handles_of : Addr
  d_TieWatch_handles_of : FuncData
  f_TieWatch_touched : Addr
  d_TieWatch_touched : FuncData
  f_watch_of : Addr
  d_watch_of : FuncData
  f_deeds_of : Addr
  d_deeds_of : FuncData
  f_deeds_of_tie : Addr
  d_deeds_of_tie : FuncData
  f_row_broken : Addr
  d_row_broken : FuncData
  f_broken_by : Addr
  d_broken_by : FuncData
  f_Machine_init : Addr
  d_Machine_init : FuncData
  f_Machine_coming : Addr
  d_Machine_coming : FuncData
  f_Machine_seen : Addr
  d_Machine_seen : FuncData
  f_Machine_go_over : Addr
  d_Machine_go_over : FuncData
  f_Machine_goes_on : Addr
  d_Machine_goes_on : FuncData
  f_Machine_done : Addr
  d_Machine_done : FuncData
  f_run_watched : Addr
  d_run_watched : FuncData
  f_lines_of_step : Addr
  d_lines_of_step : FuncData
  f_lines_of : Addr
  d_lines_of : FuncData
  f_names_in : Addr
  d_names_in : FuncData
  f_names_of : Addr
  d_names_of : FuncData
  f_Marker_init : Addr
  d_Marker_init : FuncData
  f_Marker_next_line : Addr
  d_Marker_next_line : FuncData
  f_Marker_marked : Addr
  d_Marker_marked : FuncData
  f_Marker_marked_step : Addr
  d_Marker_marked_step : FuncData
  f_put_lend : Addr
  d_put_lend : FuncData
  f_put_if : Addr
  d_put_if : FuncData
  f_put_while : Addr
  d_put_while : FuncData
  f_put_steps : Addr
  d_put_steps : FuncData
  f_coded : Addr
  d_coded : FuncData
  f_code_of : Addr
  d_code_of : FuncData
  f_law_cell_at : Addr
  d_law_cell_at : FuncData
  f_law_mixed : Addr
  d_law_mixed : FuncData
  f_law_words : Addr
  d_law_words : FuncData
  f_law_step : Addr
  d_law_step : FuncData
  f_law_shut : Addr
  d_law_shut : FuncData
  f_law_program : Addr
  d_law_program : FuncData
  f_law_input : Addr
  d_law_input : FuncData
  f_law_rule : Addr
  d_law_rule : FuncData
  f_law_next : Addr
  d_law_next : FuncData
  f_law_row_of : Addr
  d_law_row_of : FuncData
  f_law_touched : Addr
  d_law_touched : FuncData
  f_law_due : Addr
  d_law_due : FuncData
  f_law_told : Addr
  d_law_told : FuncData
  f_law_whole : Addr
  d_law_whole : FuncData
  f_law_is_log : Addr
  d_law_is_log : FuncData
  f_law_as_due : Addr
  d_law_as_due : FuncData
  f_law_lines : Addr
  d_law_lines : FuncData
  f_law_deed : Addr
  d_law_deed : FuncData
  f_law_more : Addr
  d_law_more : FuncData
  f_law_plain : Addr
  d_law_plain : FuncData
  f_law_lent : Addr
  d_law_lent : FuncData
  f_law_go : Addr
  d_law_go : FuncData
  f_law_log : Addr
  d_law_log : FuncData
  f_law : Addr
  d_law : FuncData
  a_Watch : Addr
  a_TieWatch : Addr
  a_Machine : Addr
  a_Marker : Addr
  a_UseError : Addr
  a_NoFit : Addr
  a_TooGreat : Addr
  a_Breach : Addr
class Tx (K : PySem.W.Frag) (mg : outParam (Str → Option Value)) (A : Ad) : Prop where
  F_Breach_init : Fun K "__init__" "Breach.__init__" st_Breach_init A.f_Breach_init A.d_Breach_init
  b_Breach_init : Binds K A.d_Breach_init ["self", "rule", "line", "handles", "row", "log"] []
  F_next_room : Fun K "next_room" "next_room" st_next_room A.f_next_room A.d_next_room
  b_next_room : Binds K A.d_next_room ["rule", "room", "word"] []
  m_next_room : mg "next_room" = some (.ref A.f_next_room)
  F_Watch_init : Fun K "__init__" "Watch.__init__" st_Watch_init A.f_Watch_init A.d_Watch_init
  b_Watch_init : Binds K A.d_Watch_init ["self", "name", "rule"] []
  F_Watch_touched : Fun K "touched" "Watch.touched" st_Watch_touched A.f_Watch_touched A.d_Watch_touched
  b_Watch_touched : Binds K A.d_Watch_touched ["self", "handle", "word"] []
  F_Watch_handles_of : Fun K "handles_of" "Watch.handles_of" st_Watch_handles_of A.f_Watch_handles_of A.d_Watch_handles_of
  b_Watch_handles_of : Binds K A.d_Watch_handles_of ["self", "key"] []
  F_Watch_tied : Fun K "tied" "Watch.tied" st_Watch_tied A.f_Watch_tied A.d_Watch_tied
  b_Watch_tied : Binds K A.d_Watch_tied ["self", "one", "other"] []
  F_Watch_room_of : Fun K "room_of" "Watch.room_of" st_Watch_room_of A.f_Watch_room_of A.d_Watch_room_of
  b_Watch_room_of : Binds K A.d_Watch_room_of ["self", "key"] []
  F_Watch_broken : Fun K "broken" "Watch.broken" st_Watch_broken A.f_Watch_broken A.d_Watch_broken
  b_Watch_broken : Binds K A.d_Watch_broken ["self", "handle", "word"] []
  F_Watch_move : Fun K "move" "Watch.move" st_Watch_move A.f_Watch_move A.d_Watch_move
  b_Watch_move : Binds K A.d_Watch_move ["self", "handle", "word"] []
  F_TieWatch_init : Fun K "__init__" "TieWatch.__init__" st_TieWatch_init A.f_TieWatch_init A.d_TieWatch_init
  b_TieWatch_init : Binds K A.d_TieWatch_init ["self", "name", "rule"] []
  F_TieWatch_tied : Fun K "tied" "TieWatch.tied" st_TieWatch_tied A.f_TieWatch_tied A.d_TieWatch_tied
  b_TieWatch_tied : Binds K A.d_TieWatch_tied ["self", "one", "other"] []
  F_TieWatch_handles_of : Fun K "handles_of" "TieWatch.handles_of" st_TieWatch_handles_of A.f_TieWatch_handles_of A.d_TieWatch_handles_of
  b_TieWatch_handles_of : Binds K A.d_TieWatch_handles_of ["self", "key"] []
  F_TieWatch_touched : Fun K "touched" "TieWatch.touched" st_TieWatch_touched A.f_TieWatch_touched A.d_TieWatch_touched
  b_TieWatch_touched : Binds K A.d_TieWatch_touched ["self", "handle", "word"] []
  F_watch_of : Fun K "watch_of" "watch_of" st_watch_of A.f_watch_of A.d_watch_of
  b_watch_of : Binds K A.d_watch_of ["name", "rule"] []
  m_watch_of : mg "watch_of" = some (.ref A.f_watch_of)
  F_deeds_of : Fun K "deeds_of" "deeds_of" st_deeds_of A.f_deeds_of A.d_deeds_of
  b_deeds_of : Binds K A.d_deeds_of ["log", "handle"] []
  m_deeds_of : mg "deeds_of" = some (.ref A.f_deeds_of)
  F_deeds_of_tie : Fun K "deeds_of_tie" "deeds_of_tie" st_deeds_of_tie A.f_deeds_of_tie A.d_deeds_of_tie
  b_deeds_of_tie : Binds K A.d_deeds_of_tie ["log", "many"] []
  m_deeds_of_tie : mg "deeds_of_tie" = some (.ref A.f_deeds_of_tie)
  F_row_broken : Fun K "row_broken" "row_broken" st_row_broken A.f_row_broken A.d_row_broken
  b_row_broken : Binds K A.d_row_broken ["log", "watch", "key", "handle", "word"] []
  m_row_broken : mg "row_broken" = some (.ref A.f_row_broken)
  F_broken_by : Fun K "broken_by" "broken_by" st_broken_by A.f_broken_by A.d_broken_by
  b_broken_by : Binds K A.d_broken_by ["watches", "handle", "word"] []
  m_broken_by : mg "broken_by" = some (.ref A.f_broken_by)
  F_Machine_init : Fun K "__init__" "Machine.__init__" st_Machine_init A.f_Machine_init A.d_Machine_init
  b_Machine_init : Binds K A.d_Machine_init ["self", "code", "inputs"] []
  F_Machine_coming : Fun K "coming" "Machine.coming" st_Machine_coming A.f_Machine_coming A.d_Machine_coming
  b_Machine_coming : Binds K A.d_Machine_coming ["self"] []
  F_Machine_seen : Fun K "seen" "Machine.seen" st_Machine_seen A.f_Machine_seen A.d_Machine_seen
  b_Machine_seen : Binds K A.d_Machine_seen ["self", "row"] []
  F_Machine_go_over : Fun K "go_over" "Machine.go_over" st_Machine_go_over A.f_Machine_go_over A.d_Machine_go_over
  b_Machine_go_over : Binds K A.d_Machine_go_over ["self", "row"] []
  F_Machine_goes_on : Fun K "goes_on" "Machine.goes_on" st_Machine_goes_on A.f_Machine_goes_on A.d_Machine_goes_on
  b_Machine_goes_on : Binds K A.d_Machine_goes_on ["self", "bound"] []
  F_Machine_done : Fun K "done" "Machine.done" st_Machine_done A.f_Machine_done A.d_Machine_done
  b_Machine_done : Binds K A.d_Machine_done ["self"] []
  F_run_watched : Fun K "run_watched" "run_watched" st_run_watched A.f_run_watched A.d_run_watched
  b_run_watched : Binds K A.d_run_watched ["code", "rules", "inputs"] []
  m_run_watched : mg "run_watched" = some (.ref A.f_run_watched)
  F_lines_of_step : Fun K "lines_of_step" "lines_of_step" st_lines_of_step A.f_lines_of_step A.d_lines_of_step
  b_lines_of_step : Binds K A.d_lines_of_step ["step"] []
  m_lines_of_step : mg "lines_of_step" = some (.ref A.f_lines_of_step)
  F_lines_of : Fun K "lines_of" "lines_of" st_lines_of A.f_lines_of A.d_lines_of
  b_lines_of : Binds K A.d_lines_of ["program"] []
  m_lines_of : mg "lines_of" = some (.ref A.f_lines_of)
  F_names_in : Fun K "names_in" "names_in" st_names_in A.f_names_in A.d_names_in
  b_names_in : Binds K A.d_names_in ["line"] []
  m_names_in : mg "names_in" = some (.ref A.f_names_in)
  F_names_of : Fun K "names_of" "names_of" st_names_of A.f_names_of A.d_names_of
  b_names_of : Binds K A.d_names_of ["program"] []
  m_names_of : mg "names_of" = some (.ref A.f_names_of)
  F_Marker_init : Fun K "__init__" "Marker.__init__" st_Marker_init A.f_Marker_init A.d_Marker_init
  b_Marker_init : Binds K A.d_Marker_init ["self", "names"] []
  F_Marker_next_line : Fun K "next_line" "Marker.next_line" st_Marker_next_line A.f_Marker_next_line A.d_Marker_next_line
  b_Marker_next_line : Binds K A.d_Marker_next_line ["self"] []
  F_Marker_marked : Fun K "marked" "Marker.marked" st_Marker_marked A.f_Marker_marked A.d_Marker_marked
  b_Marker_marked : Binds K A.d_Marker_marked ["self", "steps"] []
  F_Marker_marked_step : Fun K "marked_step" "Marker.marked_step" st_Marker_marked_step A.f_Marker_marked_step A.d_Marker_marked_step
  b_Marker_marked_step : Binds K A.d_Marker_marked_step ["self", "step"] []
  F_put_lend : Fun K "put_lend" "put_lend" st_put_lend A.f_put_lend A.d_put_lend
  b_put_lend : Binds K A.d_put_lend ["rows", "block", "turn"] []
  m_put_lend : mg "put_lend" = some (.ref A.f_put_lend)
  F_put_if : Fun K "put_if" "put_if" st_put_if A.f_put_if A.d_put_if
  b_put_if : Binds K A.d_put_if ["rows", "block", "turn"] []
  m_put_if : mg "put_if" = some (.ref A.f_put_if)
  F_put_while : Fun K "put_while" "put_while" st_put_while A.f_put_while A.d_put_while
  b_put_while : Binds K A.d_put_while ["rows", "block", "turn"] []
  m_put_while : mg "put_while" = some (.ref A.f_put_while)
  F_put_steps : Fun K "put_steps" "put_steps" st_put_steps A.f_put_steps A.d_put_steps
  b_put_steps : Binds K A.d_put_steps ["rows", "marked", "turn"] []
  m_put_steps : mg "put_steps" = some (.ref A.f_put_steps)
  F_coded : Fun K "coded" "coded" st_coded A.f_coded A.d_coded
  b_coded : Binds K A.d_coded ["program", "turn"] []
  m_coded : mg "coded" = some (.ref A.f_coded)
  F_code_of : Fun K "code_of" "code_of" st_code_of A.f_code_of A.d_code_of
  b_code_of : Binds K A.d_code_of ["program"] []
  m_code_of : mg "code_of" = some (.ref A.f_code_of)
  F_law_cell_at : Fun K "_law_cell_at" "_law_cell_at" st_law_cell_at A.f_law_cell_at A.d_law_cell_at
  b_law_cell_at : Binds K A.d_law_cell_at ["_law_script", "_law_k"] []
  m_law_cell_at : mg "_law_cell_at" = some (.ref A.f_law_cell_at)
  F_law_mixed : Fun K "_law_mixed" "_law_mixed" st_law_mixed A.f_law_mixed A.d_law_mixed
  b_law_mixed : Binds K A.d_law_mixed ["_law_cell", "_law_k"] []
  m_law_mixed : mg "_law_mixed" = some (.ref A.f_law_mixed)
  F_law_words : Fun K "_law_words" "_law_words" st_law_words A.f_law_words A.d_law_words
  b_law_words : Binds K A.d_law_words ["_law_cell", "_law_many"] []
  m_law_words : mg "_law_words" = some (.ref A.f_law_words)
  F_law_step : Fun K "_law_step" "_law_step" st_law_step A.f_law_step A.d_law_step
  b_law_step : Binds K A.d_law_step ["_law_cell", "_law_names", "_law_words_here"] []
  m_law_step : mg "_law_step" = some (.ref A.f_law_step)
  F_law_shut : Fun K "_law_shut" "_law_shut" st_law_shut A.f_law_shut A.d_law_shut
  b_law_shut : Binds K A.d_law_shut ["_law_piles", "_law_heads"] []
  m_law_shut : mg "_law_shut" = some (.ref A.f_law_shut)
  F_law_program : Fun K "_law_program" "_law_program" st_law_program A.f_law_program A.d_law_program
  b_law_program : Binds K A.d_law_program ["_law_cells", "_law_names", "_law_words_here", "_law_low"] []
  m_law_program : mg "_law_program" = some (.ref A.f_law_program)
  F_law_input : Fun K "_law_input" "_law_input" st_law_input A.f_law_input A.d_law_input
  b_law_input : Binds K A.d_law_input ["_law_cell", "_law_low"] []
  m_law_input : mg "_law_input" = some (.ref A.f_law_input)
  F_law_rule : Fun K "_law_rule" "_law_rule" st_law_rule A.f_law_rule A.d_law_rule
  b_law_rule : Binds K A.d_law_rule ["_law_cell", "_law_words_here"] []
  m_law_rule : mg "_law_rule" = some (.ref A.f_law_rule)
  F_law_next : Fun K "_law_next" "_law_next" st_law_next A.f_law_next A.d_law_next
  b_law_next : Binds K A.d_law_next ["_law_rule_here", "_law_room", "_law_text"] []
  m_law_next : mg "_law_next" = some (.ref A.f_law_next)
  F_law_row_of : Fun K "_law_row_of" "_law_row_of" st_law_row_of A.f_law_row_of A.d_law_row_of
  b_law_row_of : Binds K A.d_law_row_of ["_law_log_here", "_law_key"] []
  m_law_row_of : mg "_law_row_of" = some (.ref A.f_law_row_of)
  F_law_touched : Fun K "_law_touched" "_law_touched" st_law_touched A.f_law_touched A.d_law_touched
  b_law_touched : Binds K A.d_law_touched ["_law_sides", "_law_ties", "_law_entry"] []
  m_law_touched : mg "_law_touched" = some (.ref A.f_law_touched)
  F_law_due : Fun K "_law_due" "_law_due" st_law_due A.f_law_due A.d_law_due
  b_law_due : Binds K A.d_law_due ["_law_rules", "_law_log_here"] []
  m_law_due : mg "_law_due" = some (.ref A.f_law_due)
  F_law_told : Fun K "_law_told" "_law_told" st_law_told A.f_law_told A.d_law_told
  b_law_told : Binds K A.d_law_told ["_law_code", "_law_rules", "_law_inputs"] []
  m_law_told : mg "_law_told" = some (.ref A.f_law_told)
  F_law_whole : Fun K "_law_whole" "_law_whole" st_law_whole A.f_law_whole A.d_law_whole
  b_law_whole : Binds K A.d_law_whole ["_law_found"] []
  m_law_whole : mg "_law_whole" = some (.ref A.f_law_whole)
  F_law_is_log : Fun K "_law_is_log" "_law_is_log" st_law_is_log A.f_law_is_log A.d_law_is_log
  b_law_is_log : Binds K A.d_law_is_log ["_law_found", "_law_due_here"] []
  m_law_is_log : mg "_law_is_log" = some (.ref A.f_law_is_log)
  F_law_as_due : Fun K "_law_as_due" "_law_as_due" st_law_as_due A.f_law_as_due A.d_law_as_due
  b_law_as_due : Binds K A.d_law_as_due ["_law_told_here", "_law_log_here", "_law_due_here"] []
  m_law_as_due : mg "_law_as_due" = some (.ref A.f_law_as_due)
  F_law_lines : Fun K "_law_lines" "_law_lines" st_law_lines A.f_law_lines A.d_law_lines
  b_law_lines : Binds K A.d_law_lines ["_law_steps"] []
  m_law_lines : mg "_law_lines" = some (.ref A.f_law_lines)
  F_law_deed : Fun K "_law_deed" "_law_deed" st_law_deed A.f_law_deed A.d_law_deed
  b_law_deed : Binds K A.d_law_deed ["_law_state", "_law_line", "_law_handle", "_law_word"] []
  m_law_deed : mg "_law_deed" = some (.ref A.f_law_deed)
  F_law_more : Fun K "_law_more" "_law_more" st_law_more A.f_law_more A.d_law_more
  b_law_more : Binds K A.d_law_more ["_law_state", "_law_bound"] []
  m_law_more : mg "_law_more" = some (.ref A.f_law_more)
  F_law_plain : Fun K "_law_plain" "_law_plain" st_law_plain A.f_law_plain A.d_law_plain
  b_law_plain : Binds K A.d_law_plain ["_law_state", "_law_step_here", "_law_line"] []
  m_law_plain : mg "_law_plain" = some (.ref A.f_law_plain)
  F_law_lent : Fun K "_law_lent" "_law_lent" st_law_lent A.f_law_lent A.d_law_lent
  b_law_lent : Binds K A.d_law_lent ["_law_state", "_law_step_here", "_law_line"] []
  m_law_lent : mg "_law_lent" = some (.ref A.f_law_lent)
  F_law_go : Fun K "_law_go" "_law_go" st_law_go A.f_law_go A.d_law_go
  b_law_go : Binds K A.d_law_go ["_law_state", "_law_steps", "_law_line"] []
  m_law_go : mg "_law_go" = some (.ref A.f_law_go)
  F_law_log : Fun K "_law_log" "_law_log" st_law_log A.f_law_log A.d_law_log
  b_law_log : Binds K A.d_law_log ["_law_program_here", "_law_inputs"] []
  m_law_log : mg "_law_log" = some (.ref A.f_law_log)
  F_law : Fun K "law" "law" st_law A.f_law A.d_law
  b_law : Binds K A.d_law ["_law_script"] []
  m_law : mg "law" = some (.ref A.f_law)
  c_Watch : Cls K A.a_Watch
  k_Watch : Mk K A.a_Watch A.f_Watch_init
  m_Watch : mg "Watch" = some (.ref A.a_Watch)
  n_Watch_name : NoAttr K A.a_Watch "name"
  n_Watch_rule : NoAttr K A.a_Watch "rule"
  n_Watch_rooms : NoAttr K A.a_Watch "rooms"
  e_Watch_touched : Meth K A.a_Watch "touched" A.f_Watch_touched
  e_Watch_handles_of : Meth K A.a_Watch "handles_of" A.f_Watch_handles_of
  e_Watch_tied : Meth K A.a_Watch "tied" A.f_Watch_tied
  e_Watch_room_of : Meth K A.a_Watch "room_of" A.f_Watch_room_of
  e_Watch_broken : Meth K A.a_Watch "broken" A.f_Watch_broken
  e_Watch_move : Meth K A.a_Watch "move" A.f_Watch_move
  c_TieWatch : Cls K A.a_TieWatch
  k_TieWatch : Mk K A.a_TieWatch A.f_TieWatch_init
  m_TieWatch : mg "TieWatch" = some (.ref A.a_TieWatch)
  n_TieWatch_name : NoAttr K A.a_TieWatch "name"
  n_TieWatch_rule : NoAttr K A.a_TieWatch "rule"
  n_TieWatch_rooms : NoAttr K A.a_TieWatch "rooms"
  n_TieWatch_ties : NoAttr K A.a_TieWatch "ties"
  e_TieWatch_tied : Meth K A.a_TieWatch "tied" A.f_TieWatch_tied
  e_TieWatch_handles_of : Meth K A.a_TieWatch "handles_of" A.f_TieWatch_handles_of
  e_TieWatch_touched : Meth K A.a_TieWatch "touched" A.f_TieWatch_touched
  e_TieWatch_room_of : Meth K A.a_TieWatch "room_of" A.f_Watch_room_of
  e_TieWatch_broken : Meth K A.a_TieWatch "broken" A.f_Watch_broken
  e_TieWatch_move : Meth K A.a_TieWatch "move" A.f_Watch_move
  c_Machine : Cls K A.a_Machine
  k_Machine : Mk K A.a_Machine A.f_Machine_init
  m_Machine : mg "Machine" = some (.ref A.a_Machine)
  n_Machine_code : NoAttr K A.a_Machine "code"
  n_Machine_inputs : NoAttr K A.a_Machine "inputs"
  n_Machine_used : NoAttr K A.a_Machine "used"
  n_Machine_number : NoAttr K A.a_Machine "number"
  n_Machine_at : NoAttr K A.a_Machine "at"
  n_Machine_slots : NoAttr K A.a_Machine "slots"
  n_Machine_many : NoAttr K A.a_Machine "many"
  n_Machine_ended : NoAttr K A.a_Machine "ended"
  n_Machine_log : NoAttr K A.a_Machine "log"
  e_Machine_coming : Meth K A.a_Machine "coming" A.f_Machine_coming
  e_Machine_seen : Meth K A.a_Machine "seen" A.f_Machine_seen
  e_Machine_go_over : Meth K A.a_Machine "go_over" A.f_Machine_go_over
  e_Machine_goes_on : Meth K A.a_Machine "goes_on" A.f_Machine_goes_on
  e_Machine_done : Meth K A.a_Machine "done" A.f_Machine_done
  c_Marker : Cls K A.a_Marker
  k_Marker : Mk K A.a_Marker A.f_Marker_init
  m_Marker : mg "Marker" = some (.ref A.a_Marker)
  n_Marker_slots : NoAttr K A.a_Marker "slots"
  n_Marker_line : NoAttr K A.a_Marker "line"
  n_Marker_lent : NoAttr K A.a_Marker "lent"
  e_Marker_next_line : Meth K A.a_Marker "next_line" A.f_Marker_next_line
  e_Marker_marked : Meth K A.a_Marker "marked" A.f_Marker_marked
  e_Marker_marked_step : Meth K A.a_Marker "marked_step" A.f_Marker_marked_step
  z_len : mg "len" = none
  z_range : mg "range" = none
  z_enumerate : mg "enumerate" = none
  z_zip : mg "zip" = none
  z_list : mg "list" = none
  z_tuple : mg "tuple" = none
  z_set : mg "set" = none
  z_sorted : mg "sorted" = none
  z_int : mg "int" = none
  z_str : mg "str" = none
  z_bool : mg "bool" = none
  z_isinstance : mg "isinstance" = none
  m_UseError : mg "UseError" = some (.ref A.a_UseError)
  m_NoFit : mg "NoFit" = some (.ref A.a_NoFit)
  m_TooGreat : mg "TooGreat" = some (.ref A.a_TooGreat)
  m_Breach : mg "Breach" = some (.ref A.a_Breach)
  r_Watch : ClX.CRead K A.a_Watch (.type "type")
  v_Watch_init : ClX.CVal K A.a_Watch (.type "type") "__init__" (.ref A.f_Watch_init) (.ref A.f_Watch_init)
  ox_Breach : OexC K A.a_Breach
  xi_Breach : PySem.W.findIn K (.ref A.a_Breach) "__init__" = some (some (.ref A.f_Breach_init))
  xt_Breach : PySem.W.typeIn K (.ref A.f_Breach_init) = some (.type "function")
  xf_Breach : XfC K A.a_Breach
  xn_rule : PySem.W.findIn K (.ref A.a_Breach) "rule" = some none
  xn_line : PySem.W.findIn K (.ref A.a_Breach) "line" = some none
  xn_handles : PySem.W.findIn K (.ref A.a_Breach) "handles" = some none
  xn_row : PySem.W.findIn K (.ref A.a_Breach) "row" = some none
  xn_log : PySem.W.findIn K (.ref A.a_Breach) "log" = some none
  exc_Breach : ExcC K A.a_Breach
  xm_Breach : PySem.W.exmOne K (.ref A.a_Breach) (.ref A.a_Breach) = some true
  xk_UseError : PySem.W.kitOne K (.ref A.a_Breach) (.ref A.a_UseError) = some true
  xk_NoFit : PySem.W.kitOne K (.ref A.a_Breach) (.ref A.a_NoFit) = some false
  xk_TooGreat : PySem.W.kitOne K (.ref A.a_Breach) (.ref A.a_TooGreat) = some false
class ClsI (K : PySem.W.Frag) (C : Addr) : Prop where
  h : Cls K C
class NoI (K : PySem.W.Frag) (C : Addr) (f : Str) : Prop where
  h : NoAttr K C f
instance {K : PySem.W.Frag} {mg : Str → Option Value} {A : Ad} [T : Tx K mg A] : ClsI K A.a_Watch := ⟨T.c_Watch⟩
instance {K : PySem.W.Frag} {mg : Str → Option Value} {A : Ad} [T : Tx K mg A] : NoI K A.a_Watch "name" := ⟨T.n_Watch_name⟩
instance {K : PySem.W.Frag} {mg : Str → Option Value} {A : Ad} [T : Tx K mg A] : NoI K A.a_Watch "rule" := ⟨T.n_Watch_rule⟩
instance {K : PySem.W.Frag} {mg : Str → Option Value} {A : Ad} [T : Tx K mg A] : NoI K A.a_Watch "rooms" := ⟨T.n_Watch_rooms⟩
instance {K : PySem.W.Frag} {mg : Str → Option Value} {A : Ad} [T : Tx K mg A] : ClsI K A.a_TieWatch := ⟨T.c_TieWatch⟩
instance {K : PySem.W.Frag} {mg : Str → Option Value} {A : Ad} [T : Tx K mg A] : NoI K A.a_TieWatch "name" := ⟨T.n_TieWatch_name⟩
instance {K : PySem.W.Frag} {mg : Str → Option Value} {A : Ad} [T : Tx K mg A] : NoI K A.a_TieWatch "rule" := ⟨T.n_TieWatch_rule⟩
instance {K : PySem.W.Frag} {mg : Str → Option Value} {A : Ad} [T : Tx K mg A] : NoI K A.a_TieWatch "rooms" := ⟨T.n_TieWatch_rooms⟩
instance {K : PySem.W.Frag} {mg : Str → Option Value} {A : Ad} [T : Tx K mg A] : NoI K A.a_TieWatch "ties" := ⟨T.n_TieWatch_ties⟩
instance {K : PySem.W.Frag} {mg : Str → Option Value} {A : Ad} [T : Tx K mg A] : ClsI K A.a_Machine := ⟨T.c_Machine⟩
instance {K : PySem.W.Frag} {mg : Str → Option Value} {A : Ad} [T : Tx K mg A] : NoI K A.a_Machine "code" := ⟨T.n_Machine_code⟩
instance {K : PySem.W.Frag} {mg : Str → Option Value} {A : Ad} [T : Tx K mg A] : NoI K A.a_Machine "inputs" := ⟨T.n_Machine_inputs⟩
instance {K : PySem.W.Frag} {mg : Str → Option Value} {A : Ad} [T : Tx K mg A] : NoI K A.a_Machine "used" := ⟨T.n_Machine_used⟩
instance {K : PySem.W.Frag} {mg : Str → Option Value} {A : Ad} [T : Tx K mg A] : NoI K A.a_Machine "number" := ⟨T.n_Machine_number⟩
instance {K : PySem.W.Frag} {mg : Str → Option Value} {A : Ad} [T : Tx K mg A] : NoI K A.a_Machine "at" := ⟨T.n_Machine_at⟩
instance {K : PySem.W.Frag} {mg : Str → Option Value} {A : Ad} [T : Tx K mg A] : NoI K A.a_Machine "slots" := ⟨T.n_Machine_slots⟩
instance {K : PySem.W.Frag} {mg : Str → Option Value} {A : Ad} [T : Tx K mg A] : NoI K A.a_Machine "many" := ⟨T.n_Machine_many⟩
instance {K : PySem.W.Frag} {mg : Str → Option Value} {A : Ad} [T : Tx K mg A] : NoI K A.a_Machine "ended" := ⟨T.n_Machine_ended⟩
instance {K : PySem.W.Frag} {mg : Str → Option Value} {A : Ad} [T : Tx K mg A] : NoI K A.a_Machine "log" := ⟨T.n_Machine_log⟩
instance {K : PySem.W.Frag} {mg : Str → Option Value} {A : Ad} [T : Tx K mg A] : ClsI K A.a_Marker := ⟨T.c_Marker⟩
instance {K : PySem.W.Frag} {mg : Str → Option Value} {A : Ad} [T : Tx K mg A] : NoI K A.a_Marker "slots" := ⟨T.n_Marker_slots⟩
instance {K : PySem.W.Frag} {mg : Str → Option Value} {A : Ad} [T : Tx K mg A] : NoI K A.a_Marker "line" := ⟨T.n_Marker_line⟩
instance {K : PySem.W.Frag} {mg : Str → Option Value} {A : Ad} [T : Tx K mg A] : NoI K A.a_Marker "lent" := ⟨T.n_Marker_lent⟩

class HasF (fs : List (Str × V)) (f : Str) (v : outParam V) : Prop where
  h : fs.lookup f = some v
class HasM (fs : List (Str × V)) (f : Str) : Prop where
  h : fs.lookup f = none
class PutF (fs : List (Str × V)) (f : Str) (v : V) (fs' : outParam (List (Str × V))) : Prop where
  h : putF f v fs = fs'
class Few (fs : List (Str × V)) : Prop where
  h : fs.length < 1000
structure MO where
  code : Addr
  inputs : Addr
  used : Int
  num : Int
  pc : Int
  slots : Addr
  many : Int
  ended : Int
  log : Addr
def mF (o : MO) : List (Str × V) := [("code", .ref o.code), ("inputs", .ref o.inputs), ("used", .int o.used), ("number", .int o.num), ("at", .int o.pc), ("slots", .ref o.slots), ("many", .int o.many), ("ended", .int o.ended), ("log", .ref o.log)]
theorem mF_code (o : MO) : (mF o).lookup ("code" : Str) = some (.ref o.code) := by kernel_rfl
instance {code : Addr} {inputs : Addr} {used : Int} {num : Int} {pc : Int} {slots : Addr} {many : Int} {ended : Int} {log : Addr} : HasF (mF ⟨code, inputs, used, num, pc, slots, many, ended, log⟩) ("code" : Str) (.ref code) := ⟨mF_code ⟨code, inputs, used, num, pc, slots, many, ended, log⟩⟩
theorem mF_inputs (o : MO) : (mF o).lookup ("inputs" : Str) = some (.ref o.inputs) := by kernel_rfl
instance {code : Addr} {inputs : Addr} {used : Int} {num : Int} {pc : Int} {slots : Addr} {many : Int} {ended : Int} {log : Addr} : HasF (mF ⟨code, inputs, used, num, pc, slots, many, ended, log⟩) ("inputs" : Str) (.ref inputs) := ⟨mF_inputs ⟨code, inputs, used, num, pc, slots, many, ended, log⟩⟩
theorem mF_used (o : MO) : (mF o).lookup ("used" : Str) = some (.int o.used) := by kernel_rfl
instance {code : Addr} {inputs : Addr} {used : Int} {num : Int} {pc : Int} {slots : Addr} {many : Int} {ended : Int} {log : Addr} : HasF (mF ⟨code, inputs, used, num, pc, slots, many, ended, log⟩) ("used" : Str) (.int used) := ⟨mF_used ⟨code, inputs, used, num, pc, slots, many, ended, log⟩⟩
instance {code : Addr} {inputs : Addr} {used : Int} {num : Int} {pc : Int} {slots : Addr} {many : Int} {ended : Int} {log : Addr} {z : Int} : PutF (mF ⟨code, inputs, used, num, pc, slots, many, ended, log⟩) "used" (.int z) (mF ⟨code, inputs, z, num, pc, slots, many, ended, log⟩) := ⟨by kernel_rfl⟩
theorem mF_put_used (o : MO) (z : Int) : putF "used" (.int z) (mF o) = mF { o with used := z } := by kernel_rfl
theorem mF_num (o : MO) : (mF o).lookup ("number" : Str) = some (.int o.num) := by kernel_rfl
instance {code : Addr} {inputs : Addr} {used : Int} {num : Int} {pc : Int} {slots : Addr} {many : Int} {ended : Int} {log : Addr} : HasF (mF ⟨code, inputs, used, num, pc, slots, many, ended, log⟩) ("number" : Str) (.int num) := ⟨mF_num ⟨code, inputs, used, num, pc, slots, many, ended, log⟩⟩
instance {code : Addr} {inputs : Addr} {used : Int} {num : Int} {pc : Int} {slots : Addr} {many : Int} {ended : Int} {log : Addr} {z : Int} : PutF (mF ⟨code, inputs, used, num, pc, slots, many, ended, log⟩) "number" (.int z) (mF ⟨code, inputs, used, z, pc, slots, many, ended, log⟩) := ⟨by kernel_rfl⟩
theorem mF_put_num (o : MO) (z : Int) : putF "number" (.int z) (mF o) = mF { o with num := z } := by kernel_rfl
theorem mF_pc (o : MO) : (mF o).lookup ("at" : Str) = some (.int o.pc) := by kernel_rfl
instance {code : Addr} {inputs : Addr} {used : Int} {num : Int} {pc : Int} {slots : Addr} {many : Int} {ended : Int} {log : Addr} : HasF (mF ⟨code, inputs, used, num, pc, slots, many, ended, log⟩) ("at" : Str) (.int pc) := ⟨mF_pc ⟨code, inputs, used, num, pc, slots, many, ended, log⟩⟩
instance {code : Addr} {inputs : Addr} {used : Int} {num : Int} {pc : Int} {slots : Addr} {many : Int} {ended : Int} {log : Addr} {z : Int} : PutF (mF ⟨code, inputs, used, num, pc, slots, many, ended, log⟩) "at" (.int z) (mF ⟨code, inputs, used, num, z, slots, many, ended, log⟩) := ⟨by kernel_rfl⟩
theorem mF_put_pc (o : MO) (z : Int) : putF "at" (.int z) (mF o) = mF { o with pc := z } := by kernel_rfl
theorem mF_slots (o : MO) : (mF o).lookup ("slots" : Str) = some (.ref o.slots) := by kernel_rfl
instance {code : Addr} {inputs : Addr} {used : Int} {num : Int} {pc : Int} {slots : Addr} {many : Int} {ended : Int} {log : Addr} : HasF (mF ⟨code, inputs, used, num, pc, slots, many, ended, log⟩) ("slots" : Str) (.ref slots) := ⟨mF_slots ⟨code, inputs, used, num, pc, slots, many, ended, log⟩⟩
theorem mF_many (o : MO) : (mF o).lookup ("many" : Str) = some (.int o.many) := by kernel_rfl
instance {code : Addr} {inputs : Addr} {used : Int} {num : Int} {pc : Int} {slots : Addr} {many : Int} {ended : Int} {log : Addr} : HasF (mF ⟨code, inputs, used, num, pc, slots, many, ended, log⟩) ("many" : Str) (.int many) := ⟨mF_many ⟨code, inputs, used, num, pc, slots, many, ended, log⟩⟩
instance {code : Addr} {inputs : Addr} {used : Int} {num : Int} {pc : Int} {slots : Addr} {many : Int} {ended : Int} {log : Addr} {z : Int} : PutF (mF ⟨code, inputs, used, num, pc, slots, many, ended, log⟩) "many" (.int z) (mF ⟨code, inputs, used, num, pc, slots, z, ended, log⟩) := ⟨by kernel_rfl⟩
theorem mF_put_many (o : MO) (z : Int) : putF "many" (.int z) (mF o) = mF { o with many := z } := by kernel_rfl
theorem mF_ended (o : MO) : (mF o).lookup ("ended" : Str) = some (.int o.ended) := by kernel_rfl
instance {code : Addr} {inputs : Addr} {used : Int} {num : Int} {pc : Int} {slots : Addr} {many : Int} {ended : Int} {log : Addr} : HasF (mF ⟨code, inputs, used, num, pc, slots, many, ended, log⟩) ("ended" : Str) (.int ended) := ⟨mF_ended ⟨code, inputs, used, num, pc, slots, many, ended, log⟩⟩
instance {code : Addr} {inputs : Addr} {used : Int} {num : Int} {pc : Int} {slots : Addr} {many : Int} {ended : Int} {log : Addr} {z : Int} : PutF (mF ⟨code, inputs, used, num, pc, slots, many, ended, log⟩) "ended" (.int z) (mF ⟨code, inputs, used, num, pc, slots, many, z, log⟩) := ⟨by kernel_rfl⟩
theorem mF_put_ended (o : MO) (z : Int) : putF "ended" (.int z) (mF o) = mF { o with ended := z } := by kernel_rfl
theorem mF_log (o : MO) : (mF o).lookup ("log" : Str) = some (.ref o.log) := by kernel_rfl
instance {code : Addr} {inputs : Addr} {used : Int} {num : Int} {pc : Int} {slots : Addr} {many : Int} {ended : Int} {log : Addr} : HasF (mF ⟨code, inputs, used, num, pc, slots, many, ended, log⟩) ("log" : Str) (.ref log) := ⟨mF_log ⟨code, inputs, used, num, pc, slots, many, ended, log⟩⟩
theorem mF_no_coming (o : MO) : (mF o).lookup ("coming" : Str) = none := by kernel_rfl
theorem mF_no_seen (o : MO) : (mF o).lookup ("seen" : Str) = none := by kernel_rfl
theorem mF_no_go_over (o : MO) : (mF o).lookup ("go_over" : Str) = none := by kernel_rfl
theorem mF_no_goes_on (o : MO) : (mF o).lookup ("goes_on" : Str) = none := by kernel_rfl
theorem mF_no_done (o : MO) : (mF o).lookup ("done" : Str) = none := by kernel_rfl
instance (o : MO) : HasM (mF o) ("coming" : Str) := ⟨mF_no_coming o⟩
instance (o : MO) : HasM (mF o) ("seen" : Str) := ⟨mF_no_seen o⟩
instance (o : MO) : HasM (mF o) ("go_over" : Str) := ⟨mF_no_go_over o⟩
instance (o : MO) : HasM (mF o) ("goes_on" : Str) := ⟨mF_no_goes_on o⟩
instance (o : MO) : HasM (mF o) ("done" : Str) := ⟨mF_no_done o⟩
instance (o : MO) : Few (mF o) := ⟨by show 9 < 1000; decide⟩
theorem mF_len (o : MO) : (mF o).length < 1000 := by show 9 < 1000; decide
theorem mF_new (code : Addr) (inputs : Addr) (used : Int) (num : Int) (pc : Int) (slots : Addr) (many : Int) (ended : Int) (log : Addr) : putF "log" (.ref log) (putF "ended" (.int ended) (putF "many" (.int many) (putF "slots" (.ref slots) (putF "at" (.int pc) (putF "number" (.int num) (putF "used" (.int used) (putF "inputs" (.ref inputs) (putF "code" (.ref code) ([]))))))))) = mF ⟨code, inputs, used, num, pc, slots, many, ended, log⟩ := by kernel_rfl
structure WO where
  name : Str
  rule : Addr
  rooms : Addr
def wF (o : WO) : List (Str × V) := [("name", .str o.name), ("rule", .ref o.rule), ("rooms", .ref o.rooms)]
theorem wF_name (o : WO) : (wF o).lookup ("name" : Str) = some (.str o.name) := by kernel_rfl
instance {name : Str} {rule : Addr} {rooms : Addr} : HasF (wF ⟨name, rule, rooms⟩) ("name" : Str) (.str name) := ⟨wF_name ⟨name, rule, rooms⟩⟩
theorem wF_rule (o : WO) : (wF o).lookup ("rule" : Str) = some (.ref o.rule) := by kernel_rfl
instance {name : Str} {rule : Addr} {rooms : Addr} : HasF (wF ⟨name, rule, rooms⟩) ("rule" : Str) (.ref rule) := ⟨wF_rule ⟨name, rule, rooms⟩⟩
theorem wF_rooms (o : WO) : (wF o).lookup ("rooms" : Str) = some (.ref o.rooms) := by kernel_rfl
instance {name : Str} {rule : Addr} {rooms : Addr} : HasF (wF ⟨name, rule, rooms⟩) ("rooms" : Str) (.ref rooms) := ⟨wF_rooms ⟨name, rule, rooms⟩⟩
theorem wF_no_touched (o : WO) : (wF o).lookup ("touched" : Str) = none := by kernel_rfl
theorem wF_no_handles_of (o : WO) : (wF o).lookup ("handles_of" : Str) = none := by kernel_rfl
theorem wF_no_tied (o : WO) : (wF o).lookup ("tied" : Str) = none := by kernel_rfl
theorem wF_no_room_of (o : WO) : (wF o).lookup ("room_of" : Str) = none := by kernel_rfl
theorem wF_no_broken (o : WO) : (wF o).lookup ("broken" : Str) = none := by kernel_rfl
theorem wF_no_move (o : WO) : (wF o).lookup ("move" : Str) = none := by kernel_rfl
instance (o : WO) : HasM (wF o) ("touched" : Str) := ⟨wF_no_touched o⟩
instance (o : WO) : HasM (wF o) ("handles_of" : Str) := ⟨wF_no_handles_of o⟩
instance (o : WO) : HasM (wF o) ("tied" : Str) := ⟨wF_no_tied o⟩
instance (o : WO) : HasM (wF o) ("room_of" : Str) := ⟨wF_no_room_of o⟩
instance (o : WO) : HasM (wF o) ("broken" : Str) := ⟨wF_no_broken o⟩
instance (o : WO) : HasM (wF o) ("move" : Str) := ⟨wF_no_move o⟩
instance (o : WO) : Few (wF o) := ⟨by show 3 < 1000; decide⟩
theorem wF_len (o : WO) : (wF o).length < 1000 := by show 3 < 1000; decide
theorem wF_new (name : Str) (rule : Addr) (rooms : Addr) : putF "rooms" (.ref rooms) (putF "rule" (.ref rule) (putF "name" (.str name) ([]))) = wF ⟨name, rule, rooms⟩ := by kernel_rfl
structure TO2 where
  name : Str
  rule : Addr
  rooms : Addr
  ties : Addr
def tF (o : TO2) : List (Str × V) := [("name", .str o.name), ("rule", .ref o.rule), ("rooms", .ref o.rooms), ("ties", .ref o.ties)]
theorem tF_name (o : TO2) : (tF o).lookup ("name" : Str) = some (.str o.name) := by kernel_rfl
instance {name : Str} {rule : Addr} {rooms : Addr} {ties : Addr} : HasF (tF ⟨name, rule, rooms, ties⟩) ("name" : Str) (.str name) := ⟨tF_name ⟨name, rule, rooms, ties⟩⟩
theorem tF_rule (o : TO2) : (tF o).lookup ("rule" : Str) = some (.ref o.rule) := by kernel_rfl
instance {name : Str} {rule : Addr} {rooms : Addr} {ties : Addr} : HasF (tF ⟨name, rule, rooms, ties⟩) ("rule" : Str) (.ref rule) := ⟨tF_rule ⟨name, rule, rooms, ties⟩⟩
theorem tF_rooms (o : TO2) : (tF o).lookup ("rooms" : Str) = some (.ref o.rooms) := by kernel_rfl
instance {name : Str} {rule : Addr} {rooms : Addr} {ties : Addr} : HasF (tF ⟨name, rule, rooms, ties⟩) ("rooms" : Str) (.ref rooms) := ⟨tF_rooms ⟨name, rule, rooms, ties⟩⟩
theorem tF_ties (o : TO2) : (tF o).lookup ("ties" : Str) = some (.ref o.ties) := by kernel_rfl
instance {name : Str} {rule : Addr} {rooms : Addr} {ties : Addr} : HasF (tF ⟨name, rule, rooms, ties⟩) ("ties" : Str) (.ref ties) := ⟨tF_ties ⟨name, rule, rooms, ties⟩⟩
theorem tF_no_tied (o : TO2) : (tF o).lookup ("tied" : Str) = none := by kernel_rfl
theorem tF_no_handles_of (o : TO2) : (tF o).lookup ("handles_of" : Str) = none := by kernel_rfl
theorem tF_no_touched (o : TO2) : (tF o).lookup ("touched" : Str) = none := by kernel_rfl
theorem tF_no_room_of (o : TO2) : (tF o).lookup ("room_of" : Str) = none := by kernel_rfl
theorem tF_no_broken (o : TO2) : (tF o).lookup ("broken" : Str) = none := by kernel_rfl
theorem tF_no_move (o : TO2) : (tF o).lookup ("move" : Str) = none := by kernel_rfl
instance (o : TO2) : HasM (tF o) ("tied" : Str) := ⟨tF_no_tied o⟩
instance (o : TO2) : HasM (tF o) ("handles_of" : Str) := ⟨tF_no_handles_of o⟩
instance (o : TO2) : HasM (tF o) ("touched" : Str) := ⟨tF_no_touched o⟩
instance (o : TO2) : HasM (tF o) ("room_of" : Str) := ⟨tF_no_room_of o⟩
instance (o : TO2) : HasM (tF o) ("broken" : Str) := ⟨tF_no_broken o⟩
instance (o : TO2) : HasM (tF o) ("move" : Str) := ⟨tF_no_move o⟩
instance (o : TO2) : Few (tF o) := ⟨by show 4 < 1000; decide⟩
theorem tF_len (o : TO2) : (tF o).length < 1000 := by show 4 < 1000; decide
theorem tF_new (name : Str) (rule : Addr) (rooms : Addr) (ties : Addr) : putF "ties" (.ref ties) (putF "rooms" (.ref rooms) (putF "rule" (.ref rule) (putF "name" (.str name) ([])))) = tF ⟨name, rule, rooms, ties⟩ := by kernel_rfl
structure KO where
  slots : Addr
  line : Int
  lent : Int
def kF (o : KO) : List (Str × V) := [("slots", .ref o.slots), ("line", .int o.line), ("lent", .int o.lent)]
theorem kF_slots (o : KO) : (kF o).lookup ("slots" : Str) = some (.ref o.slots) := by kernel_rfl
instance {slots : Addr} {line : Int} {lent : Int} : HasF (kF ⟨slots, line, lent⟩) ("slots" : Str) (.ref slots) := ⟨kF_slots ⟨slots, line, lent⟩⟩
theorem kF_line (o : KO) : (kF o).lookup ("line" : Str) = some (.int o.line) := by kernel_rfl
instance {slots : Addr} {line : Int} {lent : Int} : HasF (kF ⟨slots, line, lent⟩) ("line" : Str) (.int line) := ⟨kF_line ⟨slots, line, lent⟩⟩
instance {slots : Addr} {line : Int} {lent : Int} {z : Int} : PutF (kF ⟨slots, line, lent⟩) "line" (.int z) (kF ⟨slots, z, lent⟩) := ⟨by kernel_rfl⟩
theorem kF_put_line (o : KO) (z : Int) : putF "line" (.int z) (kF o) = kF { o with line := z } := by kernel_rfl
theorem kF_lent (o : KO) : (kF o).lookup ("lent" : Str) = some (.int o.lent) := by kernel_rfl
instance {slots : Addr} {line : Int} {lent : Int} : HasF (kF ⟨slots, line, lent⟩) ("lent" : Str) (.int lent) := ⟨kF_lent ⟨slots, line, lent⟩⟩
instance {slots : Addr} {line : Int} {lent : Int} {z : Int} : PutF (kF ⟨slots, line, lent⟩) "lent" (.int z) (kF ⟨slots, line, z⟩) := ⟨by kernel_rfl⟩
theorem kF_put_lent (o : KO) (z : Int) : putF "lent" (.int z) (kF o) = kF { o with lent := z } := by kernel_rfl
theorem kF_no_next_line (o : KO) : (kF o).lookup ("next_line" : Str) = none := by kernel_rfl
theorem kF_no_marked (o : KO) : (kF o).lookup ("marked" : Str) = none := by kernel_rfl
theorem kF_no_marked_step (o : KO) : (kF o).lookup ("marked_step" : Str) = none := by kernel_rfl
instance (o : KO) : HasM (kF o) ("next_line" : Str) := ⟨kF_no_next_line o⟩
instance (o : KO) : HasM (kF o) ("marked" : Str) := ⟨kF_no_marked o⟩
instance (o : KO) : HasM (kF o) ("marked_step" : Str) := ⟨kF_no_marked_step o⟩
instance (o : KO) : Few (kF o) := ⟨by show 3 < 1000; decide⟩
theorem kF_len (o : KO) : (kF o).length < 1000 := by show 3 < 1000; decide
theorem kF_new (slots : Addr) (line : Int) (lent : Int) : putF "lent" (.int lent) (putF "line" (.int line) (putF "slots" (.ref slots) ([]))) = kF ⟨slots, line, lent⟩ := by kernel_rfl

/-! ## Frozen heaps -/
/-- H without the addresses of S -/
def minus (H : Hp) (S : List Addr) : Hp := fun b => if b ∈ S then none else H b
theorem minus_at {H : Hp} {S : List Addr} {b : Addr} (h : b ∈ S) : minus H S b = none := if_pos h
theorem minus_ne {H : Hp} {S : List Addr} {b : Addr} (h : ¬ b ∈ S) : minus H S b = H b := if_neg h
theorem minus_le (H : Hp) (S : List Addr) : Same (minus H S) H := fun b o e => by
  unfold minus at e
  split at e
  · cases e
  · exact e
theorem _root_.L2.Same.minus {D H : Hp} (s : Same D H) {S : List Addr} (n : ∀ b ∈ S, D b = none) : Same D (minus H S) := fun b o e => by
  rw [minus_ne fun h => by rw [n b h] at e; cases e]
  exact s b o e
theorem _root_.L2.Same.put {D H : Hp} (s : Same D H) {p : Addr} {o : HO} (n : D p = none) : Same D (upd H p o) := fun b u e => by
  rw [upd_ne fun q => by rw [q, n] at e; cases e]
  exact s b u e
theorem _root_.L2.Same.new {D H : Hp} (s : Same D H) {p : Addr} {o : HO} (n : H p = none) : Same D (upd H p o) := s.put (s.free n)
theorem same_new {H : Hp} {p : Addr} {o : HO} (n : H p = none) : Same H (upd H p o) := (Same.refl H).put n
theorem _root_.L2.Same.tup {K : PySem.W.Frag} {H H' : Hp} {a : Addr} {xs : List V} (e : Same H H') (h : SqT K H a xs) : SqT K H' a xs := by
  exact h.imp_left fun z => z.imp (e _ _) fun ⟨o, q⟩ => ⟨o, e _ _ q⟩
/-! ## Readings, step by step -/
/-- a step that needs no fact: to show G it is enough to show G' -/
class Go (G : Prop) (G' : outParam Prop) : Prop where
  by_ : G' → G
/-- the slots at the entry, written out -/
class StartIs (N : List Str) (vs : List V) (σ : outParam L2.St) : Prop where
  h : L2.start N vs = σ
instance : StartIs [] [] [] := ⟨rfl⟩
instance {n : Str} {N : List Str} {σ : L2.St} [i : StartIs N [] σ] : StartIs (n :: N) [] (none :: σ) := ⟨by
  have e := i.h
  rw [← e]
  show List.map some [] ++ List.replicate (N.length + 1 - 0) none = none :: (List.map some [] ++ List.replicate (N.length - 0) none)
  rfl⟩
instance {n : Str} {N : List Str} {v : V} {vs : List V} {σ : L2.St} [i : StartIs N vs σ] : StartIs (n :: N) (v :: vs) (some v :: σ) := ⟨by
  have e := i.h
  rw [← e]
  show some v :: List.map some vs ++ List.replicate (N.length + 1 - (vs.length + 1)) none = some v :: (List.map some vs ++ List.replicate (N.length - vs.length) none)
  rw [Nat.add_sub_add_right]
  rfl⟩
theorem w_start {N : List Str} {vs : List V} {σ : L2.St} {t : TS} {D : Ends} {H : Hp} [i : StartIs N vs σ] (q : t D σ H) : t D (L2.start N vs) H := by rw [i.h]; exact q
/-- a slot is set -/
class SetAt (σ : L2.St) (i : Nat) (v : Option V) (σ' : outParam L2.St) : Prop where
  h : σ.set i v = σ'
instance {x v : Option V} {σ : L2.St} : SetAt (x :: σ) 0 v (v :: σ) := ⟨rfl⟩
instance {x v : Option V} {σ σ' : L2.St} {i : Nat} [s : SetAt σ i v σ'] : SetAt (x :: σ) (i + 1) v (x :: σ') := ⟨by rw [List.set_cons_succ, s.h]⟩
section
variable {K : PySem.W.Frag} {σ : L2.St} {H : Hp} {Q : VK} {R : Bool → Hp → Prop} {D : Ends} {ta tb te tv tx td ty : TE} {t u : TT} {tr : TA} {t1 t2 : TS}
instance {v : V} : Go (tVar 0 (some v :: σ) H Q) (Q v H) := ⟨fun q => ⟨v, rfl, q⟩⟩
instance {x : Option V} {i : Nat} : Go (tVar (i + 1) (x :: σ) H Q) (tVar i σ H Q) := ⟨fun ⟨v, h, q⟩ => ⟨v, h, q⟩⟩
instance {v : V} : Go (tC v σ H Q) (Q v H) := ⟨fun q => q⟩
instance {r : R2} : Go (tOp r ta tb σ H Q) (ta σ H fun x H1 => tb σ H1 fun y H2 => r x y H2 Q) := ⟨fun q => q⟩
instance {r : V → Hp → VK → Prop} : Go (tUn r ta σ H Q) (ta σ H fun x H1 => r x H1 Q) := ⟨fun q => q⟩
instance {g : Int → Int → V} {i j : Int} : Go (rI0 g (.int i) (.int j) H Q) (Q (g i j) H) := ⟨fun q => ⟨i, j, rfl, rfl, q⟩⟩
/-- what stands at a -/
def AtH (H : Hp) (a : Addr) (P : HO → Prop) : Prop := ∃ o, H a = some o ∧ P o
theorem w_at {H : Hp} {a : Addr} {P : HO → Prop} {o : HO} (h : H a = some o) (q : P o) : AtH H a P := ⟨o, h, q⟩
def SqAL (K : PySem.W.Frag) (H : Hp) (a : Addr) (P : List V → Prop) : Prop := ∃ xs, SqL K H a xs ∧ P xs
theorem w_sqL {H : Hp} {a : Addr} {P : List V → Prop} {xs : List V} (h : SqL K H a xs) (q : P xs) : SqAL K H a P := ⟨xs, h, q⟩
def SqAT (K : PySem.W.Frag) (H : Hp) (a : Addr) (P : List V → Prop) : Prop := ∃ xs, SqT K H a xs ∧ P xs
theorem w_sqT {H : Hp} {a : Addr} {P : List V → Prop} {xs : List V} (h : SqT K H a xs) (q : P xs) : SqAT K H a P := ⟨xs, h, q⟩
def SqLT (K : PySem.W.Frag) (H : Hp) (a : Addr) (P : List V → Prop) : Prop := ∃ xs, (SqL K H a xs ∨ SqT K H a xs) ∧ P xs
theorem w_sqLT1 {H : Hp} {a : Addr} {P : List V → Prop} {xs : List V} (h : SqL K H a xs) (q : P xs) : SqLT K H a P := ⟨xs, .inl h, q⟩
theorem w_sqLT2 {H : Hp} {a : Addr} {P : List V → Prop} {xs : List V} (h : SqT K H a xs) (q : P xs) : SqLT K H a P := ⟨xs, .inr h, q⟩
instance {a : Addr} {Z : List V → Prop} : Go (∃ p ys, [V.ref a] = [V.ref p] ∧ (SqL K H p ys ∨ SqT K H p ys) ∧ Z ys) (SqLT K H a Z) := ⟨fun ⟨ys, h, q⟩ => ⟨a, ys, rfl, h, q⟩⟩
instance {b : Bool} {Y : Prop} {Z : Bool → Prop} : Go (Y ∨ ∃ k, [V.bl b] = [V.bl k] ∧ Z k) (Z b) := ⟨fun q => .inr ⟨b, rfl, q⟩⟩
def IxA (xs : List V) (i : Int) (P : V → Prop) : Prop := ∃ v, atI xs i = some v ∧ P v
theorem w_ixA {xs : List V} {i : Int} {P : V → Prop} {v : V} (h : atI xs i = some v) (q : P v) : IxA xs i P := ⟨v, h, q⟩
theorem w_rI {C : Int → Int → Prop} {g : Int → Int → V} {i j : Int} (c : C i j) (q : Q (g i j) H) : rI C g (.int i) (.int j) H Q := ⟨i, j, rfl, rfl, c, q⟩
instance {g : Int → V} {i : Int} : Go (rU g (.int i) H Q) (Q (g i) H) := ⟨fun q => ⟨i, rfl, q⟩⟩
theorem dec_int (i j : Int) : decide (V.int i = V.int j) = decide (i = j) := by by_cases h : i = j <;> simp [h]
theorem dec_str (i j : Str) : decide (V.str i = V.str j) = decide (i = j) := by by_cases h : i = j <;> simp [h]
instance {i j : Int} : Go (rEq (.int i) (.int j) H Q) (Q (.bl (decide (i = j))) H) := ⟨fun q => ⟨rfl, by rw [dec_int]; exact q⟩⟩
instance {i j : Str} : Go (rEq (.str i) (.str j) H Q) (Q (.bl (decide (i = j))) H) := ⟨fun q => ⟨rfl, by rw [dec_str]; exact q⟩⟩
instance {i j : Int} : Go (rNe (.int i) (.int j) H Q) (Q (.bl (!decide (i = j))) H) := ⟨fun q => ⟨rfl, by rw [dec_int]; exact q⟩⟩
instance {i j : Str} : Go (rNe (.str i) (.str j) H Q) (Q (.bl (!decide (i = j))) H) := ⟨fun q => ⟨rfl, by rw [dec_str]; exact q⟩⟩
instance {Z : Prop} : Go (V.non = V.non ∧ Z) Z := ⟨fun q => ⟨rfl, q⟩⟩
instance {b : Bool} {Z : Bool → Prop} : Go (∃ k, V.bl b = V.bl k ∧ Z k) (Z b) := ⟨fun q => ⟨b, rfl, q⟩⟩
instance : Go (tTest te σ H R) (te σ H fun x H1 => ∃ k, x = .bl k ∧ R k H1) := ⟨fun q => q⟩
instance : Go (tB te σ H R) (te σ H fun x H1 => ∃ k, x = .bl k ∧ R k H1) := ⟨fun q => q⟩
instance : Go (tNot t σ H R) (t σ H fun c H1 => R (!c) H1) := ⟨fun q => q⟩
instance : Go (tAnd t u σ H R) (t σ H fun c H1 => if c = true then u σ H1 R else R false H1) := ⟨fun q => q⟩
instance : Go (tOr t u σ H R) (t σ H fun c H1 => if c = true then R true H1 else u σ H1 R) := ⟨fun q => q⟩
instance : Go (tAndV ta tb σ H Q) (ta σ H fun x H1 => ∃ c, x = .bl c ∧ if c = true then tb σ H1 Q else Q (.bl false) H1) := ⟨fun q => q⟩
instance : Go (tOrV ta tb σ H Q) (ta σ H fun x H1 => ∃ c, x = .bl c ∧ if c = true then Q (.bl true) H1 else tb σ H1 Q) := ⟨fun q => q⟩
instance : Go (tNotV ta σ H Q) (ta σ H fun x H1 => ∃ c, x = .bl c ∧ Q (.bl (!c)) H1) := ⟨fun q => q⟩
instance {X Y : Prop} : Go (if true = true then X else Y) X := ⟨iteT⟩
instance {X Y : Prop} : Go (if false = true then X else Y) Y := ⟨iteF⟩
def fldR (K : PySem.W.Frag) (f : Str) (x : V) (H : Hp) (Q : VK) : Prop := ∃ a C dx fs v, x = .ref a ∧ H a = some (.ins C dx fs) ∧ Cls K C ∧ NoAttr K C f ∧ fs.lookup f = some v ∧ Q v H
instance {f : Str} : Go (tFld K ta f σ H Q) (ta σ H fun x H1 => fldR K f x H1 Q) := ⟨fun q => q⟩
def fldH (K : PySem.W.Frag) (f : Str) (o : HO) (H : Hp) (Q : VK) : Prop := ∃ C dx fs v, o = .ins C dx fs ∧ Cls K C ∧ NoAttr K C f ∧ fs.lookup f = some v ∧ Q v H
instance {f : Str} {a : Addr} : Go (fldR K f (.ref a) H Q) (AtH H a fun o => fldH K f o H Q) := ⟨fun ⟨o, h, C, dx, fs, v, e, c, n, l, q⟩ => ⟨a, C, dx, fs, v, rfl, by rw [h, e], c, n, l, q⟩⟩
instance {f : Str} {C dx : Addr} {fs : List (Str × V)} {v : V} [c : ClsI K C] [n : NoI K C f] [l : HasF fs f v] : Go (fldH K f (.ins C dx fs) H Q) (Q v H) := ⟨fun q => ⟨C, dx, fs, v, rfl, c.h, n.h, l.h, q⟩⟩
def methR (C : Addr) (m : Str) (sp : Sp) (dvs : List V) (E : XK) (t : TA) (σ : L2.St) (x : V) (H : Hp) (Q : VK) : Prop := ∃ a dx fs, x = .ref a ∧ H a = some (.ins C dx fs) ∧ fs.lookup m = none ∧ t σ H fun vs H2 => sp (x :: (vs ++ dvs)) H2 Q E
instance {C : Addr} {m : Str} {sp : Sp} {dvs : List V} {E : XK} : Go (tMeth C m sp dvs E ta tr σ H Q) (ta σ H fun x H1 => methR C m sp dvs E tr σ x H1 Q) := ⟨fun q => q⟩
def methH (C : Addr) (m : Str) (sp : Sp) (dvs : List V) (E : XK) (t : TA) (σ : L2.St) (a : Addr) (o : HO) (H : Hp) (Q : VK) : Prop := ∃ dx fs, o = .ins C dx fs ∧ fs.lookup m = none ∧ t σ H fun vs H2 => sp (.ref a :: (vs ++ dvs)) H2 Q E
instance {C : Addr} {m : Str} {sp : Sp} {dvs : List V} {E : XK} {a : Addr} : Go (methR C m sp dvs E tr σ (.ref a) H Q) (AtH H a fun o => methH C m sp dvs E tr σ a o H Q) := ⟨fun ⟨o, h, dx, fs, e, l, q⟩ => ⟨a, dx, fs, rfl, by rw [h, e], l, q⟩⟩
instance {C : Addr} {m : Str} {sp : Sp} {dvs : List V} {E : XK} {a dx : Addr} {fs : List (Str × V)} [l : HasM fs m] : Go (methH C m sp dvs E tr σ a (.ins C dx fs) H Q) (tr σ H fun vs H2 => sp (.ref a :: (vs ++ dvs)) H2 Q E) := ⟨fun q => ⟨dx, fs, rfl, l.h, q⟩⟩
instance {S : List V → Hp → Prop} : Go (tCons ta tr σ H S) (ta σ H fun x H1 => tr σ H1 fun xs H2 => S (x :: xs) H2) := ⟨fun q => q⟩
instance {S : List V → Hp → Prop} : Go (tNil σ H S) (S [] H) := ⟨fun q => q⟩
instance {sp : Sp} {dvs : List V} {E : XK} : Go (tCall sp dvs E tr σ H Q) (tr σ H fun vs H1 => sp (vs ++ dvs) H1 Q E) := ⟨fun q => q⟩
instance {C : Addr} {sp : Sp} {dvs : List V} {E : XK} : Go (tMake C sp dvs E tr σ H Q) (tr σ H fun vs H1 => ∀ x dx, H1 x = none → H1 dx = none → dx ≠ x → sp (.ref x :: (vs ++ dvs)) (upd (upd H1 dx (.own x)) x (.ins C dx [])) (fun v H2 => v = .non ∧ Q (.ref x) H2) E) := ⟨fun q => q⟩
instance {r : List V → Hp → VK → Prop} : Go (tCB r tr σ H Q) (tr σ H fun vs H1 => r vs H1 Q) := ⟨fun q => q⟩
def tupR (xs : List V) (H : Hp) (Q : VK) : Prop := xs.length ≤ sizeLine ∧ ∀ p, H p = none → Q (.ref p) (upd H p (.tup xs))
def lstR (xs : List V) (H : Hp) (Q : VK) : Prop := xs.length ≤ sizeLine ∧ ∀ p, H p = none → Q (.ref p) (upd H p (.lst xs))
instance : Go (tTup tr σ H Q) (tr σ H fun xs H1 => tupR xs H1 Q) := ⟨fun q => q⟩
instance : Go (tLst tr σ H Q) (tr σ H fun xs H1 => lstR xs H1 Q) := ⟨fun q => q⟩
class LenOk (k : Nat) (xs : List V) : Prop where
  h : xs.length ≤ k
instance {k : Nat} : LenOk k [] := ⟨Nat.zero_le _⟩
instance {k : Nat} {x : V} {xs : List V} [l : LenOk k xs] : LenOk (k + 1) (x :: xs) := ⟨Nat.succ_le_succ l.h⟩
instance {xs : List V} [l : LenOk 60 xs] : Go (tupR xs H Q) (∀ p, H p = none → Q (.ref p) (upd H p (.tup xs))) := ⟨fun q => ⟨Nat.le_trans l.h (by decide), q⟩⟩
instance {xs : List V} [l : LenOk 60 xs] : Go (lstR xs H Q) (∀ p, H p = none → Q (.ref p) (upd H p (.lst xs))) := ⟨fun q => ⟨Nat.le_trans l.h (by decide), q⟩⟩
instance {r : V → Option Int → Option Int → Hp → VK → Prop} {tl th : TO} : Go (tSl r te tl th σ H Q) (te σ H fun x H1 => tl σ H1 fun l H2 => th σ H2 fun u H3 => r x l u H3 Q) := ⟨fun q => q⟩
instance {Z : Option Int → Hp → Prop} : Go (tNoPart σ H Z) (Z none H) := ⟨fun q => q⟩
instance {Z : Option Int → Hp → Prop} : Go (tPart te σ H Z) (te σ H fun x H1 => ∃ i, x = .int i ∧ Z (some i) H1) := ⟨fun q => q⟩
instance {j : Int} {Z : Int → Prop} : Go (∃ i, V.int j = V.int i ∧ Z i) (Z j) := ⟨fun q => ⟨j, rfl, q⟩⟩
instance {a : Addr} {lo hi : Option Int} : Go (rSlL K (.ref a) lo hi H Q) (SqAL K H a fun xs => ∀ p, H p = none → Q (.ref p) (upd H p (.lst (cutV xs lo hi)))) := ⟨fun ⟨xs, h, q⟩ => ⟨a, xs, rfl, h, q⟩⟩
theorem w_slL {a : Addr} {xs : List V} {lo hi : Option Int} (h : SqL K H a xs) (q : ∀ p, H p = none → Q (.ref p) (upd H p (.lst (cutV xs lo hi)))) : rSlL K (.ref a) lo hi H Q := ⟨a, xs, rfl, h, q⟩
instance {p : Addr} {i : Int} : Go (rIxL K (.ref p) (.int i) H Q) (SqAL K H p fun xs => IxA xs i fun v => Q v H) := ⟨fun ⟨xs, h, v, e, q⟩ => ⟨p, xs, i, v, rfl, rfl, h, e, q⟩⟩
instance {p : Addr} {i : Int} : Go (rIxT K (.ref p) (.int i) H Q) (SqAT K H p fun xs => IxA xs i fun v => Q v H) := ⟨fun ⟨xs, h, v, e, q⟩ => ⟨p, xs, i, v, rfl, rfl, h, e, q⟩⟩
def bmR (K : PySem.W.Frag) (T : String) (r : V → List V → Hp → VK → Prop) (t : TA) (σ : L2.St) (x : V) (H : Hp) (Q : VK) : Prop := tyV K T x H ∧ t σ H fun xs H2 => r x xs H2 Q
instance {T : String} {r : V → List V → Hp → VK → Prop} : Go (tBM K T r ta tr σ H Q) (ta σ H fun x H1 => bmR K T r tr σ x H1 Q) := ⟨fun q => q⟩
instance {r : V → List V → Hp → VK → Prop} {p : Addr} : Go (bmR K "list" r tr σ (.ref p) H Q) (SqAL K H p fun _ => tr σ H fun ys H2 => r (.ref p) ys H2 Q) := ⟨fun ⟨xs, h, q⟩ => ⟨.inl ⟨rfl, xs, h⟩, q⟩⟩
def bm0R (K : PySem.W.Frag) (T : String) (r : V → List V → Hp → VK → Prop) (x : V) (H : Hp) (Q : VK) : Prop := tyV K T x H ∧ r x [] H Q
instance {T : String} {r : V → List V → Hp → VK → Prop} : Go (tBM0 K T r ta σ H Q) (ta σ H fun x H1 => bm0R K T r x H1 Q) := ⟨fun q => q⟩
instance {r : V → List V → Hp → VK → Prop} {p : Addr} : Go (bm0R K "list" r (.ref p) H Q) (SqAL K H p fun _ => r (.ref p) [] H Q) := ⟨fun ⟨xs, h, q⟩ => ⟨.inl ⟨rfl, xs, h⟩, q⟩⟩
theorem w_app {l : Addr} {xs : List V} {y : V} (h : H l = some (.lst xs)) (z : xs.length < sizeLine) (q : Q .non (upd H l (.lst (xs ++ [y])))) : rAppend (.ref l) [y] H Q := ⟨l, xs, y, rfl, rfl, h, z, q⟩
def dgR (dv : V) (a : Addr) (y : V) (H : Hp) (Q : VK) : Prop := ∃ o, DGet H a y o ∧ Q (o.getD dv) H
def dg1R (ty : TE) (σ : L2.St) (x : V) (H : Hp) (Q : VK) : Prop := ∃ a, x = .ref a ∧ IsD H a ∧ ty σ H fun y H2 => dgR .non a y H2 Q
instance : Go (tDGet1 td ty σ H Q) (td σ H fun x H1 => dg1R ty σ x H1 Q) := ⟨fun q => q⟩
def isDk (o : HO) (Z : Prop) : Prop := ∃ kvs, o = .dK kvs ∧ Z
instance {kvs : List (Key × V)} {Z : Prop} : Go (isDk (.dK kvs) Z) Z := ⟨fun q => ⟨kvs, rfl, q⟩⟩
instance {a : Addr} : Go (dg1R ty σ (.ref a) H Q) (AtH H a fun o => isDk o (ty σ H fun y H2 => dgR .non a y H2 Q)) := ⟨fun ⟨o, h, kvs, e, q⟩ => ⟨a, rfl, .inl ⟨kvs, .inl (by rw [h, e])⟩, q⟩⟩
def dg2R (ty tx : TE) (σ : L2.St) (x : V) (H : Hp) (Q : VK) : Prop := ∃ a, x = .ref a ∧ IsD H a ∧ ty σ H fun y H2 => tx σ H2 fun z H3 => dgR z a y H3 Q
instance : Go (tDGet2 td ty tx σ H Q) (td σ H fun x H1 => dg2R ty tx σ x H1 Q) := ⟨fun q => q⟩
instance {a : Addr} : Go (dg2R ty tx σ (.ref a) H Q) (AtH H a fun o => isDk o (ty σ H fun y H2 => tx σ H2 fun z H3 => dgR z a y H3 Q)) := ⟨fun ⟨o, h, kvs, e, q⟩ => ⟨a, rfl, .inl ⟨kvs, .inl (by rw [h, e])⟩, q⟩⟩
def dgH (k : Key) (dv : V) (o : HO) (H : Hp) (Q : VK) : Prop := ∃ kvs, o = .dK kvs ∧ Q ((valV kvs k).getD dv) H
instance {dv : V} {a : Addr} {i : Int} : Go (dgR dv a (.int i) H Q) (AtH H a fun o => dgH (.inl i) dv o H Q) := ⟨fun ⟨o, h, kvs, e, q⟩ => ⟨_, DGet.k (k := .inl i) (by rw [h, e]), q⟩⟩
instance {dv : V} {a : Addr} {i : Str} : Go (dgR dv a (.str i) H Q) (AtH H a fun o => dgH (.inr i) dv o H Q) := ⟨fun ⟨o, h, kvs, e, q⟩ => ⟨_, DGet.k (k := .inr i) (by rw [h, e]), q⟩⟩
instance {k : Key} {dv : V} {kvs : List (Key × V)} : Go (dgH k dv (.dK kvs) H Q) (Q ((valV kvs k).getD dv) H) := ⟨fun q => ⟨kvs, rfl, q⟩⟩
def dgxR (x y : V) (H : Hp) (Q : VK) : Prop := ∃ a v, x = .ref a ∧ DGet H a y (some v) ∧ Q v H
instance : Go (tDGet td ty σ H Q) (td σ H fun x H1 => ty σ H1 fun y H2 => dgxR x y H2 Q) := ⟨fun q => q⟩
theorem w_dgxI {a : Addr} {kvs : List (Key × V)} {i : Int} {v : V} (h : H a = some (.dK kvs)) (e : valV kvs (.inl i) = some v) (q : Q v H) : dgxR (.ref a) (.int i) H Q := ⟨a, v, rfl, by rw [← e]; exact DGet.k (k := .inl i) h, q⟩
theorem w_dgxS {a : Addr} {kvs : List (Key × V)} {i : Str} {v : V} (h : H a = some (.dK kvs)) (e : valV kvs (.inr i) = some v) (q : Q v H) : dgxR (.ref a) (.str i) H Q := ⟨a, v, rfl, by rw [← e]; exact DGet.k (k := .inr i) h, q⟩
/-- C.m(e, ..), C a class of the program: the def itself -/
theorem pe_clsCall {X : Cx} {x m : Str} {C f : Addr} {mc : Value} {k : Nat} {fd : FuncData} {ps : List Str} {sp : Sp} {e : Expr} {es : List Expr} {t : TA} {p apos pos : Pos} {pl : Sem Bool} (r : ClX.CRead X.K C mc) (v : ClX.CVal X.K C mc m (.ref f) (.ref f))
    (F : FnOk X.prog X.w X.K X.mg X.base CX0 k f fd ps sp) (hr : Room k X.A) (hg : Gl X x) (hm : X.mg x = some (.ref C)) (hk : PySem.W.keepIn X.K (.ref f) = true) (hb : Binds X.K fd ps []) (ha : PA X (e :: es) t)
    (hdb : (x == ("__debug__" : Str)) = false := by decide) (hst : starEach (e :: es) X.env = (false, eval e X.env) :: starEach es X.env := by rfl) (hpl : (backTo pos (starEach es X.env)).any (·.1) = false := by rfl)
    (ht : eval (.Call (.Attribute (.Name x p) m apos) (e :: es) [] pos) X.env = (do
      let ov ← eval (.Name x p) X.env
      standAt apos.atName
      let (f, first) ← holding [ov] (getMethod ov m pl)
      callWith pos f first (backTo pos (starEach (e :: es) X.env)) (backToKw pos (keywordEach [] X.env))) := by rfl) :
    PE X (.Call (.Attribute (.Name x p) m apos) (e :: es) [] pos) (tCall sp [] E0 t) := by
  refine ⟨fun pins s σ H Q I h => ?_⟩
  refine PySem.W.methodCall_KW (pl := pl) (ld_glob I hg hm ?_ hdb) ht
  refine PySem.W.method_cls I.kIn r.ga (ClX.getcval_ok I r v fun s2 I2 => ?_)
  refine PySem.W.callWith_K (h₀ := X.base) I2.ok.mod.kin hk (thn (ha.run pos pins s2 σ H _ I2 h) fun us s3 ⟨vs, H3, I3, rv, q⟩ => ⟨I3.kIn, ?_⟩) hst hpl
  exact run_fn F hr hb .nil pass0 I3 rv q
/-! statements -/
instance {n b c : L2.St → Hp → Prop} {r : VK} : Go (tSeq t1 t2 ⟨n, r, b, c⟩ σ H) (t1 ⟨t2 ⟨n, r, b, c⟩, r, b, c⟩ σ H) := ⟨fun q => q⟩
instance {n b c : L2.St → Hp → Prop} {r : VK} : Go (tNext ⟨n, r, b, c⟩ σ H) (n σ H) := ⟨fun q => q⟩
instance {n b c : L2.St → Hp → Prop} {r : VK} : Go (tCont ⟨n, r, b, c⟩ σ H) (c σ H) := ⟨fun q => q⟩
instance {g : TG} {n b c : L2.St → Hp → Prop} {r : VK} : Go (tAsg te g ⟨n, r, b, c⟩ σ H) (te σ H fun x H1 => g x σ H1 n) := ⟨fun q => q⟩
instance {i : Nat} {v : V} {Z : L2.St → Hp → Prop} {σ' : L2.St} [s : SetAt σ i (some v) σ'] : Go (gName i v σ H Z) (Z σ' H) := ⟨fun q => by show Z (σ.set i (some v)) H; rw [s.h]; exact q⟩
def gTupH (n : Nat) (g : TGs) (xs : List V) (σ : L2.St) (H : Hp) (Z : L2.St → Hp → Prop) : Prop := xs.length = n ∧ g xs σ H Z
instance {n : Nat} {g : TGs} {a : Addr} {Z : L2.St → Hp → Prop} : Go (gTup K n g (.ref a) σ H Z) (SqAT K H a fun xs => gTupH n g xs σ H Z) := ⟨fun ⟨xs, h, l, q⟩ => ⟨a, xs, rfl, h, l, q⟩⟩
theorem w_gTupH {n : Nat} {g : TGs} {xs : List V} {Z : L2.St → Hp → Prop} (l : xs.length = n) (q : g xs σ H Z) : gTupH n g xs σ H Z := ⟨l, q⟩
instance {t : TG} {u : TGs} {v : V} {r : List V} {Z : L2.St → Hp → Prop} : Go (gCons t u (v :: r) σ H Z) (t v σ H fun σ' H' => u r σ' H' Z) := ⟨fun q => ⟨v, r, rfl, q⟩⟩
instance {Z : L2.St → Hp → Prop} : Go (gNil [] σ H Z) (Z σ H) := ⟨fun q => ⟨rfl, q⟩⟩
instance {to ti : TE} {s : TSet} {v : V} {Z : L2.St → Hp → Prop} : Go (gSub to ti s v σ H Z) (to σ H fun o H1 => ti σ H1 fun i H2 => s o i v H2 fun H3 => Z σ H3) := ⟨fun q => q⟩
theorem w_setL {p : Addr} {xs : List V} {k : Int} {j : Nat} {v : V} {Z : Hp → Prop} (h : H p = some (.lst xs)) (e : ixN xs.length k = some j) (q : Z (upd H p (.lst (xs.set j v)))) : rSetL (.ref p) (.int k) v H Z := ⟨p, xs, k, j, rfl, rfl, h, e, q⟩
instance : Go (tIfS t t1 t2 D σ H) (t σ H fun b H1 => if b = true then t1 D σ H1 else t2 D σ H1) := ⟨fun q => q⟩
instance {n b c : L2.St → Hp → Prop} {r : VK} : Go (tRet te ⟨n, r, b, c⟩ σ H) (te σ H r) := ⟨fun q => q⟩
instance {n b c : L2.St → Hp → Prop} {r : VK} : Go (tRetN ⟨n, r, b, c⟩ σ H) (r .non H) := ⟨fun q => q⟩
instance {n b c : L2.St → Hp → Prop} {r : VK} : Go (tDrop te ⟨n, r, b, c⟩ σ H) (te σ H fun _ H1 => n σ H1) := ⟨fun q => q⟩
def sfldR (K : PySem.W.Frag) (f : Str) (D : L2.St → Hp → Prop) (σ : L2.St) (y x : V) (H : Hp) : Prop := ∃ a C dx fs, x = .ref a ∧ H a = some (.ins C dx fs) ∧ Cls K C ∧ NoAttr K C f ∧ fs.length < 1000 ∧ D σ (upd H a (.ins C dx (putF f y fs)))
instance {f : Str} {n b c : L2.St → Hp → Prop} {r : VK} : Go (sFld K ta tv f ⟨n, r, b, c⟩ σ H) (tv σ H fun y H1 => ta σ H1 fun x H2 => sfldR K f n σ y x H2) := ⟨fun q => q⟩
def sfldH (K : PySem.W.Frag) (f : Str) (D : L2.St → Hp → Prop) (σ : L2.St) (y : V) (a : Addr) (o : HO) (H : Hp) : Prop := ∃ C dx fs fs', o = .ins C dx fs ∧ Cls K C ∧ NoAttr K C f ∧ fs.length < 1000 ∧ putF f y fs = fs' ∧ D σ (upd H a (.ins C dx fs'))
instance {D : L2.St → Hp → Prop} {f : Str} {a : Addr} {y : V} : Go (sfldR K f D σ y (.ref a) H) (AtH H a fun o => sfldH K f D σ y a o H) := ⟨fun ⟨o, h, C, dx, fs, fs', e, c, n, l, z, q⟩ => ⟨a, C, dx, fs, rfl, by rw [h, e], c, n, l, by rw [z]; exact q⟩⟩
instance {D : L2.St → Hp → Prop} {f : Str} {a C dx : Addr} {fs fs' : List (Str × V)} {y : V} [c : ClsI K C] [n : NoI K C f] [l : Few fs] [e : PutF fs f y fs'] : Go (sfldH K f D σ y a (.ins C dx fs) H) (D σ (upd H a (.ins C dx fs'))) := ⟨fun q => ⟨C, dx, fs, fs', rfl, c.h, n.h, l.h, e.h, q⟩⟩
/-- in an __init__: as it is -/
theorem w_sfld0 {D : L2.St → Hp → Prop} {f : Str} {a C dx : Addr} {fs : List (Str × V)} {y : V} (h : H a = some (.ins C dx fs)) [c : ClsI K C] [n : NoI K C f] (l : fs.length < 1000) (q : D σ (upd H a (.ins C dx (putF f y fs)))) : sfldR K f D σ y (.ref a) H :=
  ⟨a, C, dx, fs, rfl, h, c.h, n.h, l, q⟩
def saugR (K : PySem.W.Frag) (f : Str) (tv : TE) (D : L2.St → Hp → Prop) (σ : L2.St) (x : V) (H : Hp) : Prop := ∃ a C dx fs v, x = .ref a ∧ H a = some (.ins C dx fs) ∧ Cls K C ∧ NoAttr K C f ∧ fs.lookup f = some v ∧
  tv σ H fun y H2 => rAdd v y H2 fun z H3 => ∃ dx' fs', H3 a = some (.ins C dx' fs') ∧ fs'.length < 1000 ∧ D σ (upd H3 a (.ins C dx' (putF f z fs')))
instance {f : Str} {n b c : L2.St → Hp → Prop} {r : VK} : Go (sFldAug K ta tv rAdd f ⟨n, r, b, c⟩ σ H) (ta σ H fun x H1 => saugR K f tv n σ x H1) := ⟨fun q => q⟩
/-- self.f += (a written int) -/
def saugH (K : PySem.W.Frag) (f : Str) (j : Int) (D : L2.St → Hp → Prop) (σ : L2.St) (a : Addr) (o : HO) (H : Hp) : Prop := ∃ C dx fs fs' i, o = .ins C dx fs ∧ Cls K C ∧ NoAttr K C f ∧ fs.lookup f = some (.int i) ∧ fs.length < 1000 ∧ putF f (.int (i + j)) fs = fs' ∧ D σ (upd H a (.ins C dx fs'))
instance {D : L2.St → Hp → Prop} {f : Str} {a : Addr} {j : Int} : Go (saugR K f (tC (.int j)) D σ (.ref a) H) (AtH H a fun o => saugH K f j D σ a o H) := ⟨fun ⟨o, h, C, dx, fs, fs', i, e, c, n, lk, l, z, q⟩ => ⟨a, C, dx, fs, .int i, rfl, by rw [h, e], c, n, lk, i, j, rfl, rfl, dx, fs, by rw [h, e], l, by rw [z]; exact q⟩⟩
instance {D : L2.St → Hp → Prop} {f : Str} {a C dx : Addr} {fs fs' : List (Str × V)} {i j : Int} [c : ClsI K C] [n : NoI K C f] [lk : HasF fs f (.int i)] [l : Few fs] [e : PutF fs f (.int (i + j)) fs'] : Go (saugH K f j D σ a (.ins C dx fs) H) (D σ (upd H a (.ins C dx fs'))) := ⟨fun q => ⟨C, dx, fs, fs', i, rfl, c.h, n.h, lk.h, l.h, e.h, q⟩⟩
def dputR (D : L2.St → Hp → Prop) (σ : L2.St) (v x y : V) (H : Hp) : Prop := ∃ a H4, x = .ref a ∧ DPut H a y v H4 ∧ D σ H4
instance {n b c : L2.St → Hp → Prop} {r : VK} : Go (sDPut td ty tv ⟨n, r, b, c⟩ σ H) (tv σ H fun v H1 => td σ H1 fun x H2 => ty σ H2 fun y H3 => dputR n σ v x y H3) := ⟨fun q => q⟩
theorem w_dputI {D : L2.St → Hp → Prop} {a : Addr} {kvs : List (Key × V)} {i : Int} {v : V} (h : H a = some (.dK kvs)) (z : kvs.length < sizeLine) (q : D σ (upd H a (.dK (putK kvs (.inl i) v)))) : dputR D σ v (.ref a) (.int i) H := ⟨a, _, rfl, DPut.k (k := .inl i) h z, q⟩
theorem w_dputS {D : L2.St → Hp → Prop} {a : Addr} {kvs : List (Key × V)} {i : Str} {v : V} (h : H a = some (.dK kvs)) (z : kvs.length < sizeLine) (q : D σ (upd H a (.dK (putK kvs (.inr i) v)))) : dputR D σ v (.ref a) (.str i) H := ⟨a, _, rfl, DPut.k (k := .inr i) h z, q⟩
/-- an if whose test is known -/
theorem ifT {A B : Prop} {b : Bool} (h : b = true) (q : A) : if b = true then A else B := by rw [if_pos h]; exact q
theorem ifF {A B : Prop} {b : Bool} (h : b = false) (q : B) : if b = true then A else B := by rw [h, if_neg Bool.false_ne_true]; exact q
theorem if2 {A B : Prop} {b : Bool} (h1 : b = true → A) (h2 : b = false → B) : if b = true then A else B := by
  cases b with
  | true => rw [if_pos rfl]; exact h1 rfl
  | false => rw [if_neg Bool.false_ne_true]; exact h2 rfl
theorem w_strT {A B : Prop} {a b : String} (h : decide (Str.ofString a = Str.ofString b) = true) (q : A) : if decide (Str.ofString a = Str.ofString b) = true then A else B := ifT h q
theorem w_strF {A B : Prop} {a b : String} (h : decide (Str.ofString a = Str.ofString b) = false) (q : B) : if decide (Str.ofString a = Str.ofString b) = true then A else B := ifF h q
theorem if_d {A B : Prop} {p : Prop} [Decidable p] (h1 : p → A) (h2 : ¬ p → B) : if decide p = true then A else B :=
  if2 (fun h => h1 (of_decide_eq_true h)) fun h => h2 (of_decide_eq_false h)
theorem if_nd {A B : Prop} {p : Prop} [Decidable p] (h1 : ¬ p → A) (h2 : p → B) : if (!decide p) = true then A else B :=
  if2 (fun h => h1 (of_decide_eq_false (by simpa using h))) fun h => h2 (of_decide_eq_true (by simpa using h))
end
theorem putK_length {κ : Type} [DecidableEq κ] (kvs : List (κ × V)) (k : κ) (v : V) : (putK kvs k v).length ≤ kvs.length + 1 := by
  unfold putK
  split <;> simp
/-- one of two readings -/
def tEi (t1 t2 : TE) : TE := fun σ H Q => t1 σ H Q ∨ t2 σ H Q
theorem pe_or2 {X : Cx} {e : Expr} {t1 t2 : TE} (h1 : PE X e t1) (h2 : PE X e t2) : PE X e (tEi t1 t2) :=
  ⟨fun pins s σ H Q I h => h.elim (h1.run pins s σ H Q I) (h2.run pins s σ H Q I)⟩
theorem w_ei1 {t1 t2 : TE} {σ : L2.St} {H : Hp} {Q : VK} (q : t1 σ H Q) : tEi t1 t2 σ H Q := .inl q
theorem w_ei2 {t1 t2 : TE} {σ : L2.St} {H : Hp} {Q : VK} (q : t2 σ H Q) : tEi t1 t2 σ H Q := .inr q
theorem cutV_drop {xs : List V} {k : Nat} (h : k ≤ xs.length) : cutV xs (some (k : Int)) none = xs.drop k := by
  unfold cutV
  rw [HT.sIx_nat, HT.sIx_none, Nat.min_eq_left h]
  exact List.take_of_length_le (by rw [List.length_drop]; exact Nat.le_refl _)
theorem cutV_take (xs : List V) (k : Nat) : cutV xs none (some (k : Int)) = xs.take k := by
  unfold cutV
  rw [HT.sIx_nat, HT.sIx_none, List.drop_zero, Nat.sub_zero]
  by_cases h : k ≤ xs.length
  · rw [Nat.min_eq_left h]
  · rw [Nat.min_eq_right (by omega), List.take_length, List.take_of_length_le (by omega)]
/-! ## Loops -/
section
variable {K : PySem.W.Frag} {σ : L2.St} {H : Hp} {Q : VK} {D : Ends} {tl te : TE} {ta : TA} {tt c : TT} {g : TG} {tb : TS} {wi : TI} {R : It → Hp → Prop} {a b : Addr} {xs ys : List V}
def forR (g : TG) (tb : TS) (D : Ends) (σ : L2.St) (J : It) (H1 : Hp) : Prop := ∃ W : Nat → Nat → L2.St → Hp → Prop, (∃ m, W 0 m σ H1) ∧ ∀ i m σ H, W i m σ H →
  (J.stop i H ∧ D.nx σ H) ∨ (J.go i H ∧ ∃ N : L2.St → Hp → Prop, (∀ σ' H', N σ' H' → ∃ m', m' < m ∧ W (i + 1) m' σ' H') ∧ ∀ x H', J.yld i H x H' → g x σ H' fun σ2 H2 => tb { D with nx := N, ct := N, bk := D.nx } σ2 H2)
instance {n b c : L2.St → Hp → Prop} {r : VK} : Go (tFor wi g tb ⟨n, r, b, c⟩ σ H) (wi σ H fun J H1 => forR g tb ⟨n, r, b, c⟩ σ J H1) := ⟨fun q => q⟩
def listI (K : PySem.W.Frag) (R : It → Hp → Prop) (x : V) (H1 : Hp) : Prop := ∃ a, x = .ref a ∧ (∃ xs, SqL K H1 a xs) ∧ R (Itl K a) H1
def tupI (K : PySem.W.Frag) (R : It → Hp → Prop) (x : V) (H1 : Hp) : Prop := ∃ a, x = .ref a ∧ (∃ xs, SqT K H1 a xs) ∧ R (Itt K a) H1
def enumI (K : PySem.W.Frag) (R : It → Hp → Prop) (vs : List V) (H1 : Hp) : Prop := ∃ a xs, vs = [.ref a] ∧ SqL K H1 a xs ∧ R (Ite K a) H1
def rngI (R : It → Hp → Prop) (vs : List V) (H1 : Hp) : Prop := ∃ j : Int, vs = [.int j] ∧ -(2 ^ 62) ≤ j ∧ j < 2 ^ 62 ∧ R (Itr 0 j.toNat) H1
def zipI (K : PySem.W.Frag) (R : It → Hp → Prop) (vs : List V) (H1 : Hp) : Prop := ∃ a b xs ys, vs = [.ref a, .ref b] ∧ SqL K H1 a xs ∧ SqL K H1 b ys ∧ R (Itz K a b) H1
instance : Go (iList K tl σ H R) (tl σ H fun x H1 => listI K R x H1) := ⟨fun q => q⟩
instance : Go (iTup K tl σ H R) (tl σ H fun x H1 => tupI K R x H1) := ⟨fun q => q⟩
instance : Go (iEnum K ta σ H R) (ta σ H fun x H1 => enumI K R x H1) := ⟨fun q => q⟩
instance : Go (iRng1 ta σ H R) (ta σ H fun x H1 => rngI R x H1) := ⟨fun q => q⟩
instance : Go (iZip K ta σ H R) (ta σ H fun x H1 => zipI K R x H1) := ⟨fun q => q⟩
instance : Go (listI K R (.ref a) H) (SqAL K H a fun _ => R (Itl K a) H) := ⟨fun ⟨xs, h, q⟩ => ⟨a, rfl, ⟨xs, h⟩, q⟩⟩
instance : Go (tupI K R (.ref a) H) (SqAT K H a fun _ => R (Itt K a) H) := ⟨fun ⟨xs, h, q⟩ => ⟨a, rfl, ⟨xs, h⟩, q⟩⟩
instance : Go (enumI K R [.ref a] H) (SqAL K H a fun _ => R (Ite K a) H) := ⟨fun ⟨xs, h, q⟩ => ⟨a, xs, rfl, h, q⟩⟩
theorem w_rngI {n : Nat} (h : n ≤ 1000000) (q : R (Itr 0 n) H) : rngI R [.int (n : Nat)] H := ⟨_, rfl, by omega, by omega, q⟩
instance : Go (zipI K R [.ref a, .ref b] H) (SqAL K H a fun _ => SqAL K H b fun _ => R (Itz K a b) H) := ⟨fun ⟨xs, h, ys, h2, q⟩ => ⟨a, b, xs, ys, rfl, h, h2, q⟩⟩
theorem w_forL {nn bb cc : L2.St → Hp → Prop} {rr : VK} (Pv : Nat → L2.St → Hp → Prop) (h0 : Pv 0 σ H) (hl : ∀ i σ H, Pv i σ H → SqL K H a xs) (hs : ∀ i x σ H, xs[i]? = some x → Pv i σ H → g x σ H fun σ2 H2 => tb ⟨Pv (i + 1), rr, nn, Pv (i + 1)⟩ σ2 H2)
    (hd : ∀ σ H, Pv xs.length σ H → nn σ H) : forR g tb ⟨nn, rr, bb, cc⟩ σ (Itl K a) H := for_list Pv h0 (fun i σ H _ => hl i σ H) hs hd
theorem w_forT {nn bb cc : L2.St → Hp → Prop} {rr : VK} (Pv : Nat → L2.St → Hp → Prop) (h0 : Pv 0 σ H) (hl : ∀ i σ H, Pv i σ H → SqT K H a xs) (hs : ∀ i x σ H, xs[i]? = some x → Pv i σ H → g x σ H fun σ2 H2 => tb ⟨Pv (i + 1), rr, nn, Pv (i + 1)⟩ σ2 H2)
    (hd : ∀ σ H, Pv xs.length σ H → nn σ H) : forR g tb ⟨nn, rr, bb, cc⟩ σ (Itt K a) H := for_tup Pv h0 (fun i σ H _ => hl i σ H) hs hd
theorem w_forN {nn bb cc : L2.St → Hp → Prop} {rr : VK} {n : Nat} (Pv : Nat → L2.St → Hp → Prop) (h0 : Pv 0 σ H) (hs : ∀ i σ H, i < n → Pv i σ H → g (.int (i : Nat)) σ H fun σ2 H2 => tb ⟨Pv (i + 1), rr, nn, Pv (i + 1)⟩ σ2 H2)
    (hd : ∀ σ H, Pv n σ H → nn σ H) : forR g tb ⟨nn, rr, bb, cc⟩ σ (Itr 0 n) H := for_range Pv h0 (fun i σ H hi p => by rw [Int.zero_add]; exact hs i σ H hi p) hd
theorem w_forE {nn bb cc : L2.St → Hp → Prop} {rr : VK} (Pv : Nat → L2.St → Hp → Prop) (h0 : Pv 0 σ H) (hl : ∀ i σ H, Pv i σ H → SqL K H a xs) (hs : ∀ i x T σ H, xs[i]? = some x → Pv i σ H → H T = none → g (.ref T) σ (upd H T (.tup [.int (i : Nat), x])) fun σ2 H2 => tb ⟨Pv (i + 1), rr, nn, Pv (i + 1)⟩ σ2 H2)
    (hd : ∀ σ H, Pv xs.length σ H → nn σ H) : forR g tb ⟨nn, rr, bb, cc⟩ σ (Ite K a) H := for_it walk_enum Pv h0 (fun i σ H _ => hl i σ H) (fun i x σ H H' _ p y => by
      obtain ⟨T, u, v, rfl, e, rfl, e1, e2⟩ := y
      cases e1
      exact hs i v T σ H e2 p e) hd
theorem w_forZ {nn bb cc : L2.St → Hp → Prop} {rr : VK} {n : Nat} (hn : n = min xs.length ys.length) (Pv : Nat → L2.St → Hp → Prop) (h0 : Pv 0 σ H) (hl : ∀ i σ H, Pv i σ H → SqL K H a xs ∧ SqL K H b ys)
    (hs : ∀ i x y T σ H, xs[i]? = some x → ys[i]? = some y → Pv i σ H → H T = none → g (.ref T) σ (upd H T (.tup [x, y])) fun σ2 H2 => tb ⟨Pv (i + 1), rr, nn, Pv (i + 1)⟩ σ2 H2)
    (hd : ∀ σ H, Pv n σ H → nn σ H) : forR g tb ⟨nn, rr, bb, cc⟩ σ (Itz K a b) H := for_it (walk_zip hn) Pv h0 (fun i σ H _ => hl i σ H) (fun i x σ H H' _ p y => by
      obtain ⟨T, u, v, rfl, e, rfl, e1, e2⟩ := y
      exact hs i u v T σ H e1 e2 p e) hd
/-- a while, by a number that falls; at a turn: ⟨_, fun _ _ z => z, body⟩ -/
theorem w_while {nn bb cc : L2.St → Hp → Prop} {rr : VK} (Pv : Nat → L2.St → Hp → Prop) (m : Nat) (h0 : Pv m σ H) (hs : ∀ m σ H, Pv m σ H → c σ H fun b H1 => if b = true then ∃ N : L2.St → Hp → Prop, (∀ σ' H', N σ' H' → ∃ m', m' < m ∧ Pv m' σ' H') ∧ tb ⟨N, rr, nn, N⟩ σ H1 else nn σ H1) : tWhile c tb ⟨nn, rr, bb, cc⟩ σ H :=
  ⟨Pv, ⟨m, h0⟩, hs⟩
def lcR (g : TG) (tt : TT) (te : TE) (vs : List Nat) (σ : L2.St) (Q : VK) (J : It) (H1 : Hp) : Prop := tLc (fun _ _ k => k J H1) g tt te vs σ H1 Q
instance {vs : List Nat} : Go (tLc wi g tt te vs σ H Q) (wi σ H fun J H1 => lcR g tt te vs σ Q J H1) := ⟨fun q => q⟩
/-- the block's own names forgotten -/
class WipeIs (σ : L2.St) (vs : List Nat) (σ' : outParam L2.St) : Prop where
  h : wipe σ vs = σ'
instance {σ : L2.St} : WipeIs σ [] σ := ⟨rfl⟩
instance {σ σ1 σ2 : L2.St} {v : Nat} {vs : List Nat} [a : WipeIs σ vs σ1] [b : SetAt σ1 v none σ2] : WipeIs σ (v :: vs) σ2 := ⟨by
  show (wipe σ vs).set v none = σ2
  rw [a.h, b.h]⟩
instance {σ : L2.St} {f : Str × Nat → Nat} : WipeIs σ (List.map f []) σ := ⟨rfl⟩
instance {σ σ1 σ2 : L2.St} {a : Str} {v : Nat} {vs : List (Str × Nat)} [x : WipeIs σ (List.map (fun x : Str × Nat => x.2) vs) σ1] [y : SetAt σ1 v none σ2] : WipeIs σ (List.map (fun x : Str × Nat => x.2) ((a, v) :: vs)) σ2 := ⟨by
  show (wipe σ (vs.map (fun x : Str × Nat => x.2))).set v none = σ2
  rw [x.h, y.h]⟩
theorem w_lcL {vs : List Nat} {σ0 : L2.St} [wi_ : WipeIs σ vs σ0] (q : ∀ E, H E = none → ∃ Pv : Nat → Hp → Prop, Pv 0 (upd H E (.lst [])) ∧ (∀ i H, Pv i H → SqL K H a xs) ∧ (∀ i x H, xs[i]? = some x → Pv i H → g x σ0 H fun σ2 H2 => wipe σ2 vs = σ0 ∧ tt σ2 H2 fun b H3 =>
      if b = true then te σ2 H3 fun y H4 => ∃ acc, H4 E = some (.lst acc) ∧ acc.length < sizeLine ∧ Pv (i + 1) (upd H4 E (.lst (acc ++ [y]))) else Pv (i + 1) H3) ∧ (∀ H, Pv xs.length H → Q (.ref E) H)) : lcR g tt te vs σ Q (Itl K a) H := fun E hE => by
  have ew := wi_.h
  subst ew
  obtain ⟨Pv, h0, hl, hs, hd⟩ := q E hE
  exact lc_list Pv h0 (fun i H _ => hl i H) hs hd
theorem w_lcT {vs : List Nat} {σ0 : L2.St} [wi_ : WipeIs σ vs σ0] (q : ∀ E, H E = none → ∃ Pv : Nat → Hp → Prop, Pv 0 (upd H E (.lst [])) ∧ (∀ i H, Pv i H → SqT K H a xs) ∧ (∀ i x H, xs[i]? = some x → Pv i H → g x σ0 H fun σ2 H2 => wipe σ2 vs = σ0 ∧ tt σ2 H2 fun b H3 =>
      if b = true then te σ2 H3 fun y H4 => ∃ acc, H4 E = some (.lst acc) ∧ acc.length < sizeLine ∧ Pv (i + 1) (upd H4 E (.lst (acc ++ [y]))) else Pv (i + 1) H3) ∧ (∀ H, Pv xs.length H → Q (.ref E) H)) : lcR g tt te vs σ Q (Itt K a) H := fun E hE => by
  have ew := wi_.h
  subst ew
  obtain ⟨Pv, h0, hl, hs, hd⟩ := q E hE
  exact lc_tup Pv h0 (fun i H _ => hl i H) hs hd
theorem w_lcN {vs : List Nat} {σ0 : L2.St} [wi_ : WipeIs σ vs σ0] {n : Nat} (q : ∀ E, H E = none → ∃ Pv : Nat → Hp → Prop, Pv 0 (upd H E (.lst [])) ∧ (∀ i H, i < n → Pv i H → g (.int (i : Nat)) σ0 H fun σ2 H2 => wipe σ2 vs = σ0 ∧ tt σ2 H2 fun b H3 =>
      if b = true then te σ2 H3 fun y H4 => ∃ acc, H4 E = some (.lst acc) ∧ acc.length < sizeLine ∧ Pv (i + 1) (upd H4 E (.lst (acc ++ [y]))) else Pv (i + 1) H3) ∧ (∀ H, Pv n H → Q (.ref E) H)) : lcR g tt te vs σ Q (Itr 0 n) H := fun E hE => by
  have ew := wi_.h
  subst ew
  obtain ⟨Pv, h0, hs, hd⟩ := q E hE
  exact lc_range Pv h0 (fun i H hi p => by rw [Int.zero_add]; exact hs i H hi p) hd
end
/-! ## Within a comprehension's block: the same rules, K named -/
section
variable {X : Cx} {K : PySem.W.Frag}
theorem ix_tupK (h : X.K = K) : IxR X (rIxT K) := by subst h; exact ix_tup
theorem ix_listK (h : X.K = K) : IxR X (rIxL K) := by subst h; exact ix_list
theorem sl_tupK (h : X.K = K) : SlR X (rSlT K) := by subst h; exact sl_tup
theorem op_in_seqK (h : X.K = K) : OpR X (compareOp .In) (rIn K false) := by subst h; exact op_in_seq
def rLenK (K : PySem.W.Frag) : List V → Hp → VK → Prop := fun xs H Q => ∃ p ys, xs = [.ref p] ∧ (SqL K H p ys ∨ SqT K H p ys) ∧ Q (.int ys.length) H
theorem call_len_seqK (h : X.K = K) : CallR X (.builtin "len") (rLenK K) := by subst h; exact call_len_seq
instance {a : Addr} {H : Hp} {Q : VK} : Go (rLenK K [.ref a] H Q) (SqLT K H a fun ys => Q (.int ys.length) H) := ⟨fun ⟨ys, h, q⟩ => ⟨a, ys, rfl, h, q⟩⟩
theorem pe_fldK {e : Expr} {f : Str} {pos : Pos} {ta : TE} (h : X.K = K) (ha : PE X e ta) (hb : attributeBase e f X.env (eval e X.env) = eval e X.env) : PE X (.Attribute e f pos) (tFld K ta f) := by subst h; exact pe_fld ha hb
theorem pg_tupK {es : List Expr} {k : Nat} {t : TGs} {pos : Pos} {n : Nat} (h : X.K = K) (hc : X.calm = true) (hg : PGs X es t) (hn : (assignEach es X.env).length = n) (hst : (assignEach es X.env).findIdx? (·.1) = none := by rfl) : PG X (.Tuple es k pos) (gTup K n t) := by
  subst h
  exact pg_tup hc hg hn hst
end
end U

namespace U
open PySem L2
/-! the steps that need no word -/
local macro_rules | `(tactic| walk_at "h") => `(tactic| focus ((repeat (first | assumption | exact upd_same | (apply at_ne; rotate_left; (first | assumption | exact Ne.symm (by assumption))) | (apply at_new; rotate_left; assumption))); done))
local macro_rules | `(tactic| walk_at "go") => `(tactic| repeat (with_reducible first
  | refine Go.by_ ?_
  | (apply w_at; (first | assumption | exact upd_same))
  | (apply w_sqT; (first | assumption | exact SqT.of (by assumption) | exact SqT.of upd_same))
  | (apply w_sqL; (first | assumption | exact SqL.of (by assumption) | exact SqL.of upd_same))
  | (apply w_sqLT1; (first | assumption | exact SqL.of (by assumption) | exact SqL.of upd_same))
  | (apply w_sqLT2; (first | assumption | exact SqT.of (by assumption) | exact SqT.of upd_same))
  | (apply w_at; walk_at "h")
  | (apply w_sqT; focus (apply SqT.of; walk_at "h"))
  | (apply w_sqL; focus (apply SqL.of; walk_at "h"))
  | (apply w_sqLT1; focus (apply SqL.of; walk_at "h"))
  | (apply w_sqLT2; focus (apply SqT.of; walk_at "h"))
  | (apply w_strT; decide)
  | (apply w_strF; decide)
  | (apply w_gTupH; (with_unfolding_all rfl))
  | (apply w_ixA; (first | assumption | with_unfolding_all rfl))))
local macro_rules | `(tactic| walk_at "k") => `(tactic| ((try dsimp only [cxOf, Cx.nox, List.map_cons, List.map_nil]); refine w_start ?_))
/-! ## What stands in the heap -/
def optV : Option Nat → V
  | none => .non
  | some n => .int (n : Int)
/-- vs are the xs, one by one -/
structure Each {α : Type} (P : α → V → Prop) (xs : List α) (vs : List V) : Prop where
  len : vs.length = xs.length
  at_ : ∀ (i : Nat) (v : V), vs[i]? = some v → ∃ x, xs[i]? = some x ∧ P x v
theorem Each.nil {α : Type} {P : α → V → Prop} : Each P [] [] := ⟨rfl, fun i v h => by simp at h⟩
theorem Each.get {α : Type} {P : α → V → Prop} {xs : List α} {vs : List V} (h : Each P xs vs) {i : Nat} {x : α} (e : xs[i]? = some x) : ∃ v, vs[i]? = some v ∧ P x v := by
  have hi : i < vs.length := by rw [h.len]; exact (List.getElem?_eq_some_iff.mp e).1
  obtain ⟨y, hy, p⟩ := h.at_ i vs[i] (List.getElem?_eq_getElem hi)
  rw [e] at hy
  cases hy
  exact ⟨vs[i], List.getElem?_eq_getElem hi, p⟩
theorem Each.both {α : Type} {P : α → V → Prop} {xs : List α} {vs : List V} (h : Each P xs vs) {i : Nat} {x : α} {v : V} (e : xs[i]? = some x) (f : vs[i]? = some v) : P x v := by
  obtain ⟨y, hy, p⟩ := h.at_ i v f
  rw [e] at hy; cases hy; exact p
theorem Each.mono {α : Type} {P P' : α → V → Prop} {xs : List α} {vs : List V} (h : Each P xs vs) (m : ∀ x v, P x v → P' x v) : Each P' xs vs :=
  ⟨h.len, fun i v e => let ⟨x, hx, p⟩ := h.at_ i v e; ⟨x, hx, m _ _ p⟩⟩
theorem Each.snoc {α : Type} {P : α → V → Prop} {xs : List α} {vs : List V} (h : Each P xs vs) {x : α} {v : V} (p : P x v) : Each P (xs ++ [x]) (vs ++ [v]) := by
  refine ⟨by simp [h.len], fun i w e => ?_⟩
  by_cases hi : i < vs.length
  · rw [List.getElem?_append_left hi] at e
    obtain ⟨y, hy, q⟩ := h.at_ i w e
    exact ⟨y, by rw [List.getElem?_append_left (by rw [← h.len]; exact hi)]; exact hy, q⟩
  · rw [List.getElem?_append_right (by omega)] at e
    have hz : i - vs.length = 0 := by
      have := (List.getElem?_eq_some_iff.mp e).1
      simp at this; omega
    rw [hz] at e
    have e' : v = w := by simpa using e
    subst e'
    refine ⟨x, ?_, p⟩
    rw [List.getElem?_append_right (by rw [← h.len]; omega), ← h.len, hz]
    rfl
theorem Each.cons {α : Type} {P : α → V → Prop} {xs : List α} {vs : List V} (h : Each P xs vs) {x : α} {v : V} (p : P x v) : Each P (x :: xs) (v :: vs) := by
  refine ⟨by simp [h.len], fun i w e => ?_⟩
  cases i with
  | zero => simp at e; subst e; exact ⟨x, rfl, p⟩
  | succ i => simp at e; obtain ⟨y, hy, q⟩ := h.at_ i w e; exact ⟨y, by simpa using hy, q⟩
theorem Each.append {α : Type} {P : α → V → Prop} {xs ys : List α} {vs ws : List V} (h : Each P xs vs) (g : Each P ys ws) : Each P (xs ++ ys) (vs ++ ws) := by
  refine ⟨by simp [h.len, g.len], fun i w e => ?_⟩
  by_cases hi : i < vs.length
  · rw [List.getElem?_append_left hi] at e
    obtain ⟨y, hy, q⟩ := h.at_ i w e
    exact ⟨y, by rw [List.getElem?_append_left (by rw [← h.len]; exact hi)]; exact hy, q⟩
  · rw [List.getElem?_append_right (by omega)] at e
    obtain ⟨y, hy, q⟩ := g.at_ _ w e
    exact ⟨y, by rw [List.getElem?_append_right (by rw [← h.len]; omega), ← h.len]; exact hy, q⟩
theorem Each.drop {α : Type} {P : α → V → Prop} {xs : List α} {vs : List V} (h : Each P xs vs) (n : Nat) : Each P (xs.drop n) (vs.drop n) := by
  refine ⟨by simp [h.len], fun i w e => ?_⟩
  rw [List.getElem?_drop] at e
  obtain ⟨y, hy, q⟩ := h.at_ _ w e
  exact ⟨y, by rw [List.getElem?_drop]; exact hy, q⟩
theorem Each.take {α : Type} {P : α → V → Prop} {xs : List α} {vs : List V} (h : Each P xs vs) (n : Nat) : Each P (xs.take n) (vs.take n) := by
  refine ⟨by simp [h.len], fun i w e => ?_⟩
  rw [List.getElem?_take] at e
  split at e
  · rename_i hi
    obtain ⟨y, hy, q⟩ := h.at_ _ w e
    exact ⟨y, by rw [List.getElem?_take, if_pos hi]; exact hy, q⟩
  · cases e
/-- a tuple at v -/
def TupAt (H : Hp) (xs : List V) (v : V) : Prop := ∃ a, v = .ref a ∧ H a = some (.tup xs)
def LstAt (H : Hp) (xs : List V) (v : V) : Prop := ∃ a, v = .ref a ∧ H a = some (.lst xs)
theorem TupAt.same {H H' : Hp} {xs : List V} {v : V} (s : Same H H') (h : TupAt H xs v) : TupAt H' xs v := let ⟨a, e, f⟩ := h; ⟨a, e, s _ _ f⟩
theorem LstAt.same {H H' : Hp} {xs : List V} {v : V} (s : Same H H') (h : LstAt H xs v) : LstAt H' xs v := let ⟨a, e, f⟩ := h; ⟨a, e, s _ _ f⟩
def rowV : Row → List V
  | .opn l s => [.str "open", .int (l : Nat), .int (s : Nat)]
  | .act l s w => [.str "do", .int (l : Nat), .int (s : Nat), .str w]
  | .cpy l s t => [.str "copy", .int (l : Nat), .int (s : Nat), .int (t : Nat)]
  | .drp l s => [.str "drop", .int (l : Nat), .int (s : Nat)]
  | .tie l s t => [.str "tie", .int (l : Nat), .int (s : Nat), .int (t : Nat)]
  | .tst l n to => [.str "test", .int (l : Nat), .int n, .int (to : Nat)]
  | .jmp l to => [.str "jump", .int (l : Nat), .int (to : Nat)]
  | .fin l => [.str "end", .int (l : Nat)]
def entV : Ent → List V
  | .deed l h w n => [.int (l : Nat), .int (h : Nat), .str w, .int n]
  | .tie l a b => [.int (l : Nat), .int (a : Nat), .int (b : Nat)]
def RowsAt (H : Hp) : List Row → List V → Prop := Each fun r => TupAt H (rowV r)
def EntsAt (H : Hp) : List Ent → List V → Prop := Each fun e => TupAt H (entV e)
theorem RowsAt.same {H H' : Hp} {xs : List Row} {vs : List V} (s : Same H H') (h : RowsAt H xs vs) : RowsAt H' xs vs := h.mono fun _ _ p => p.same s
theorem EntsAt.same {H H' : Hp} {xs : List Ent} {vs : List V} (s : Same H H') (h : EntsAt H xs vs) : EntsAt H' xs vs := h.mono fun _ _ p => p.same s
/-- a rule at a -/
def RuleAt (H : Hp) (r : Rl) (a : Addr) : Prop := ∃ lw lr vs, H a = some (.tup [.int (r.sides : Nat), .ref lw, .ref lr]) ∧ H lw = some (.lst (r.words.map V.str)) ∧ H lr = some (.lst vs) ∧ Each (fun (x : List (Option Nat)) => LstAt H (x.map optV)) r.rooms vs
theorem RuleAt.same {H H' : Hp} {r : Rl} {a : Addr} (s : Same H H') (h : RuleAt H r a) : RuleAt H' r a := by
  obtain ⟨lw, lr, vs, h1, h2, h3, h4⟩ := h
  exact ⟨lw, lr, vs, s _ _ h1, s _ _ h2, s _ _ h3, h4.mono fun _ _ p => p.same s⟩
def RulesAt (H : Hp) : List (Str × Rl) → List V → Prop := Each fun x v => ∃ p a, v = .ref p ∧ H p = some (.tup [.str x.1, .ref a]) ∧ RuleAt H x.2 a
theorem RulesAt.same {H H' : Hp} {xs : List (Str × Rl)} {vs : List V} (s : Same H H') (h : RulesAt H xs vs) : RulesAt H' xs vs :=
  h.mono fun _ _ ⟨p, a, e, f, g⟩ => ⟨p, a, e, s _ _ f, g.same s⟩
theorem inV_strs (t : Str) : ∀ ws : List Str, inV (.str t) (ws.map V.str) = decide (t ∈ ws)
  | [] => by simp [inV]
  | a :: ws => by
    have ih := inV_strs t ws
    show (eqV (.str a) (.str t) || inV (.str t) (ws.map V.str)) = _
    rw [ih]
    show ((a == t) || decide (t ∈ ws)) = decide (t ∈ a :: ws)
    by_cases h : t = a
    · subst h; simp
    · have h2 : (a == t) = false := by simpa using fun q : a = t => h q.symm
      rw [h2]; simp [h]
theorem flat_strs (ws : List Str) : (ws.map V.str).all flatV = true := by simp [flatV]
section
variable {K : PySem.W.Frag} {H : Hp} {Q : VK}
theorem w_notInS {p : Addr} {ws : List Str} {t : Str} (h : SqL K H p (ws.map V.str)) (q : Q (.bl (!decide (t ∈ ws))) H) : rIn K true (.str t) (.ref p) H Q :=
  ⟨p, _, rfl, .inl h, rfl, flat_strs ws, by show Q (.bl (!inV (.str t) (ws.map V.str))) H; rw [inV_strs]; exact q⟩
theorem w_inS {p : Addr} {ws : List Str} {t : Str} (h : SqL K H p (ws.map V.str)) (q : Q (.bl (decide (t ∈ ws))) H) : rIn K false (.str t) (.ref p) H Q :=
  ⟨p, _, rfl, .inl h, rfl, flat_strs ws, by show Q (.bl (inV (.str t) (ws.map V.str))) H; rw [inV_strs]; exact q⟩
theorem w_idxS {p : Addr} {ws : List Str} {t : Str} (h : SqL K H p (ws.map V.str)) (m : t ∈ ws) (q : Q (.int (ws.idxOf t : Nat)) H) : rIndex K (.ref p) [.str t] H Q := by
  have hi := List.idxOf_lt_length_iff.mpr m
  refine ⟨p, _, .str t, ws.idxOf t, .str t, rfl, rfl, h, rfl, flat_strs ws, ?_, by simp [eqV], fun i z hm hz => ?_, q⟩
  · rw [List.getElem?_map, List.getElem?_eq_getElem hi]
    simp
  · rw [List.getElem?_map] at hz
    have hl : i < ws.length := by omega
    rw [List.getElem?_eq_getElem hl] at hz
    simp at hz
    subst hz
    show (ws[i] == t) = false
    have := List.not_of_lt_findIdx (p := (· == t)) (xs := ws) (i := i) hm
    simpa using this
end
/-! ## next_room, _law_next -/
def spNext : Sp := fun vs H Q _ => ∃ (a : Addr) (r : Rl) (room : Nat) (t : Str), vs = [.ref a, .int (room : Nat), .str t] ∧ RuleAt H r a ∧ r.Ok ∧ room < r.rooms.length ∧ Q (optV (r.next room t)) H
section
variable {P : Program} {w : World} {K : PySem.W.Frag} {mg : Str → Option Value} {base : Heap} {A : Ad} (T : Tx K mg A)
include T
theorem next_at {H : Hp} {r : Rl} {lr : Addr} {vs : List V} {room : Nat} {t : Str} (ok : r.Ok) (hr : room < r.rooms.length) (h3 : H lr = some (.lst vs)) (h4 : Each (fun (x : List (Option Nat)) => LstAt H (x.map optV)) r.rooms vs) (m : t ∈ r.words) :
    ∃ (v : V) (p : Addr) (x : List (Option Nat)), atI vs (room : Int) = some v ∧ v = .ref p ∧ H p = some (.lst (x.map optV)) ∧ atI (x.map optV) ((r.words.idxOf t : Nat) : Int) = some (optV (r.next room t)) := by
  obtain ⟨v, hv, p, rfl, hp⟩ := h4.get (List.getElem?_eq_getElem hr)
  refine ⟨_, p, _, atI_nat hv, rfl, hp, ?_⟩
  have hm : r.rooms[room] ∈ r.rooms := List.getElem_mem hr
  have hi : r.words.idxOf t < (r.rooms[room]).length := by rw [ok.row _ hm]; exact List.idxOf_lt_length_iff.mpr m
  refine atI_nat ?_
  rw [List.getElem?_map, List.getElem?_eq_getElem hi]
  unfold Rl.next
  rw [if_pos m]
  have e1 : r.rooms.getD room [] = r.rooms[room] := by rw [List.getD_eq_getElem?_getD, List.getElem?_eq_getElem hr]; rfl
  rw [e1, List.getD_eq_getElem?_getD, List.getElem?_eq_getElem hi]
  rfl
theorem ok_next_room : FnOk P w K mg base CX0 1 A.f_next_room A.d_next_room ["rule", "room", "word"] spNext := by
  refine T.F_next_room.ok sc_next_room (fun vs H Q E h => ?_) (fun cdv A' outer s H vs Q E hr h => ?_)
  · obtain ⟨a, r, room, t, rfl, _⟩ := h
    rfl
  obtain ⟨a, r, room, t, rfl, ⟨lw, lr, vs, h1, h2, h3, h4⟩, ok, hroom, q⟩ := h
  refine ⟨_, (pss_cons (ps_if (pt_cmpR op_notIn_seq (pv 2) (pe_ix ix_tup (pv 0) pe_int (fun _ _ => rfl)) rfl) (pss_one (ps_ret (pv 1))) pss_nil)
    (pss_one (ps_ret (pe_ix ix_list (pe_ix ix_list (pe_ix ix_tup (pv 0) pe_int (fun _ _ => rfl)) (pv 1) (fun _ _ => rfl)) (pe_bm PySem.F.plainAttrs_list PySem.F.slot_list_index PySem.F.type_list_index mt_index (pe_ix ix_tup (pv 0) pe_int (fun _ _ => rfl)) (pa_cons (pv 2) pa_nil)) (fun _ _ => rfl))))), ?_⟩
  walk_at "k"
  walk_at "go"
  refine w_notInS (SqL.of h2) ?_
  walk_at "go"
  refine if_nd (fun c => ?_) (fun c => ?_)
  · walk_at "go"
    have e : r.next room t = some room := by unfold Rl.next; rw [if_neg c]
    rw [e] at q
    exact q
  · obtain ⟨v, p, x, e1, rfl, e2, e3⟩ := next_at T ok hroom h3 h4 c
    walk_at "go"
    refine w_idxS (SqL.of h2) c ?_
    walk_at "go"
    exact q
theorem ok_law_next : FnOk P w K mg base CX0 1 A.f_law_next A.d_law_next ["_law_rule_here", "_law_room", "_law_text"] spNext := by
  refine T.F_law_next.ok sc_law_next (fun vs H Q E h => ?_) (fun cdv A' outer s H vs Q E hr h => ?_)
  · obtain ⟨a, r, room, t, rfl, _⟩ := h
    rfl
  obtain ⟨a, r, room, t, rfl, ⟨lw, lr, vs, h1, h2, h3, h4⟩, ok, hroom, q⟩ := h
  refine ⟨_, (pss_cons (ps_if (pt_cmpR op_in_seq (pv 2) (pe_ix ix_tup (pv 0) pe_int (fun _ _ => rfl)) rfl) (pss_one (ps_ret (pe_ix ix_list (pe_ix ix_list (pe_ix ix_tup (pv 0) pe_int (fun _ _ => rfl)) (pv 1) (fun _ _ => rfl)) (pe_bm PySem.F.plainAttrs_list PySem.F.slot_list_index PySem.F.type_list_index mt_index (pe_ix ix_tup (pv 0) pe_int (fun _ _ => rfl)) (pa_cons (pv 2) pa_nil)) (fun _ _ => rfl)))) pss_nil)
    (pss_one (ps_ret (pv 1)))), ?_⟩
  walk_at "k"
  walk_at "go"
  refine w_inS (SqL.of h2) ?_
  walk_at "go"
  refine if_d (fun c => ?_) (fun c => ?_)
  · obtain ⟨v, p, x, e1, rfl, e2, e3⟩ := next_at T ok hroom h3 h4 c
    walk_at "go"
    refine w_idxS (SqL.of h2) c ?_
    walk_at "go"
    exact q
  · walk_at "go"
    have e : r.next room t = some room := by unfold Rl.next; rw [if_neg c]
    rw [e] at q
    exact q
end

end U
namespace U
open PySem L2
/-! the steps that need no word -/
local macro_rules | `(tactic| walk_at "h") => `(tactic| focus ((repeat (first | assumption | exact upd_same | (apply at_ne; rotate_left; (first | assumption | exact Ne.symm (by assumption))) | (apply at_new; rotate_left; assumption))); done))
local macro_rules | `(tactic| walk_at "go") => `(tactic| repeat (with_reducible first
  | refine Go.by_ ?_
  | (apply w_at; (first | assumption | exact upd_same))
  | (apply w_sqT; (first | assumption | exact SqT.of (by assumption) | exact SqT.of upd_same))
  | (apply w_sqL; (first | assumption | exact SqL.of (by assumption) | exact SqL.of upd_same))
  | (apply w_sqLT1; (first | assumption | exact SqL.of (by assumption) | exact SqL.of upd_same))
  | (apply w_sqLT2; (first | assumption | exact SqT.of (by assumption) | exact SqT.of upd_same))
  | (apply w_at; walk_at "h")
  | (apply w_sqT; focus (apply SqT.of; walk_at "h"))
  | (apply w_sqL; focus (apply SqL.of; walk_at "h"))
  | (apply w_sqLT1; focus (apply SqL.of; walk_at "h"))
  | (apply w_sqLT2; focus (apply SqT.of; walk_at "h"))
  | (apply w_strT; decide)
  | (apply w_strF; decide)
  | (apply w_gTupH; (with_unfolding_all rfl))
  | (apply w_ixA; (first | assumption | with_unfolding_all rfl))))
local macro_rules | `(tactic| walk_at "k") => `(tactic| ((try dsimp only [cxOf, Cx.nox, List.map_cons, List.map_nil]); refine w_start ?_))
/-! ## Watches -/
structure Wt where
  p : Addr
  dx : Addr
  d : Addr
  ties : Option Addr
  n : Str
  ra : Addr
def Wt.ho (A : Ad) (x : Wt) : HO := match x.ties with
  | none => .ins A.a_Watch x.dx (wF ⟨x.n, x.ra, x.d⟩)
  | some l => .ins A.a_TieWatch x.dx (tF ⟨x.n, x.ra, x.d, l⟩)
def Wt.addrs (x : Wt) : List Addr := x.p :: x.d :: x.ties.toList
/-- the key of number k -/
def keyAt (sides : Nat) (L : List Ent) (k : Nat) : Option Ky := if sides = 1 then some (.one k) else (tiesOf L)[k]?.map fun t => .two t.1 t.2.1 t.2.2
theorem keyAt_key {sides : Nat} {L : List Ent} {k : Nat} {y : Ky} (h : keyAt sides L k = some y) : KeyOf sides L y := by
  unfold keyAt at h
  by_cases hs : sides = 1
  · rw [if_pos hs] at h; cases h; exact hs
  · rw [if_neg hs] at h
    cases e : (tiesOf L)[k]? with
    | none => rw [e] at h; simp at h
    | some t =>
      rw [e] at h
      simp at h
      subst h
      exact ⟨hs, List.mem_of_getElem? e⟩
/-- D: what never changes (the rule within) -/
structure WatchAt (A : Ad) (D H : Hp) (x : Wt) (r : Rl) (L : List Ent) : Prop where
  ob : H x.p = some (x.ho A)
  kind : x.ties = none ↔ r.sides = 1
  rule : RuleAt D r x.ra
  same : Same D H
  out : ∀ b ∈ x.addrs, D b = none
  nd : x.addrs.Nodup
  rooms : ∃ kvs, H x.d = some (.dK kvs) ∧ kvs.length ≤ L.length * (L.length + 1) ∧ ∀ k y, keyAt r.sides L k = some y → (valV kvs (.inl (k : Int))).getD (.int 0) = .int (rm r L y : Nat)
  none_ : ∀ kvs, H x.d = some (.dK kvs) → ∀ k, keyAt r.sides L k = none → valV kvs (.inl (k : Int)) = none
  ties : ∀ l, x.ties = some l → ∃ vs, H l = some (.lst vs) ∧ Each (fun (t : Nat × Nat × Nat) => TupAt H [.int (t.2.1 : Nat), .int (t.2.2 : Nat)]) (tiesOf L) vs
/-- where all but other addresses is kept -/
theorem WatchAt.keep {A : Ad} {D H H' : Hp} {x : Wt} {r : Rl} {L : List Ent} (h : WatchAt A D H x r L) (sd : Same D H') (s : ∀ b o, H b = some o → (b ∈ x.addrs ∨ ∃ xs, o = .tup xs) → H' b = some o) : WatchAt A D H' x r L := by
  obtain ⟨ob, kd, ru, sm, ou, nd, ⟨kvs, k1, k2, k3⟩, k4, ti⟩ := h
  have k5 := s _ _ k1 (.inl (by simp [Wt.addrs]))
  refine ⟨s _ _ ob (.inl (by simp [Wt.addrs])), kd, ru, sd, ou, nd, ⟨kvs, k5, k2, k3⟩, fun kvs' e => ?_, fun l e => ?_⟩
  · rw [k5] at e; cases e; exact k4 kvs k1
  obtain ⟨vs, a, b⟩ := ti l e
  refine ⟨vs, s _ _ a (.inl (by simp [Wt.addrs, e])), b.mono fun t v p => ?_⟩
  obtain ⟨q, e1, e2⟩ := p
  exact ⟨q, e1, s _ _ e2 (.inr ⟨_, rfl⟩)⟩
theorem WatchAt.put {A : Ad} {D H H' : Hp} {x : Wt} {r : Rl} {L : List Ent} (h : WatchAt A D H x r L) (s : Same H H') : WatchAt A D H' x r L := h.keep (h.same.trans s) fun b o e _ => s b o e
/-- the touched keys by their numbers -/
def tix (sides : Nat) (L : List Ent) (h : Nat) (w : Str) : List (Nat × Str) := if sides = 1 then [(h, w)] else (tiesOf L).zipIdx.filterMap fun t => (sideW t.1.2.1 t.1.2.2 h w).map fun x => (t.2, x)
theorem tix_touched (sides : Nat) (L : List Ent) (h : Nat) (w : Str) : (tix sides L h w).filterMap (fun x => (keyAt sides L x.1).map fun k => (k, x.2)) = touched sides L h w ∧ ∀ x ∈ tix sides L h w, (keyAt sides L x.1).isSome = true := by
  unfold tix touched
  by_cases hs : sides = 1
  · rw [if_pos hs, if_pos hs]
    refine ⟨?_, ?_⟩
    · simp [keyAt, hs]
    · intro x hx; simp [keyAt, hs]
  · rw [if_neg hs, if_neg hs]
    have kz : ∀ (t : Nat × Nat × Nat) (i : Nat), (t, i) ∈ (tiesOf L).zipIdx → (tiesOf L)[i]? = some t := fun t i hm => by
      have := List.mem_zipIdx_iff_getElem?.mp hm
      simpa using this
    constructor
    · rw [List.filterMap_filterMap]
      have key : ∀ (l : List (Nat × Nat × Nat)) (i : Nat), (∀ t j, (t, j) ∈ l.zipIdx i → (tiesOf L)[j]? = some t) →
          (l.zipIdx i).filterMap (fun t => ((sideW t.1.2.1 t.1.2.2 h w).map fun x => (t.2, x)).bind fun x => (keyAt sides L x.1).map fun k => (k, x.2)) = l.filterMap (touchT h w) := by
        intro l
        induction l with
        | nil => intro i _; rfl
        | cons t l ih =>
          intro i hk
          rw [List.zipIdx_cons, List.filterMap_cons, List.filterMap_cons, ih (i + 1) (fun t' j hm => hk t' j (List.mem_cons_of_mem _ hm))]
          have e := hk t i (by rw [List.zipIdx_cons]; exact List.mem_cons_self)
          have ek : keyAt sides L i = some (.two t.1 t.2.1 t.2.2) := by unfold keyAt; rw [if_neg hs, e]; rfl
          cases q : sideW t.2.1 t.2.2 h w with
          | none => simp [touchT, q]
          | some x => simp [touchT, q, ek]
      exact key _ 0 kz
    · intro x hx
      obtain ⟨⟨t, i⟩, hm, e⟩ := List.mem_filterMap.mp hx
      cases q : sideW t.2.1 t.2.2 h w with
      | none => simp [q] at e
      | some z =>
        simp [q] at e
        subst e
        have := kz t i hm
        unfold keyAt
        rw [if_neg hs, this]; rfl
theorem filterMap_at {α β : Type} {f : α → Option β} : ∀ {l : List α} {i : Nat} {x : α}, (∀ y ∈ l, (f y).isSome = true) → l[i]? = some x → (l.filterMap f)[i]? = f x
  | [], i, x, _, e => by simp at e
  | a :: l, i, x, h, e => by
    obtain ⟨b, hb⟩ := Option.isSome_iff_exists.mp (h a List.mem_cons_self)
    rw [List.filterMap_cons, hb]
    cases i with
    | zero => simp at e; subst e; simp [hb]
    | succ i => simp at e ⊢; exact filterMap_at (fun y hy => h y (List.mem_cons_of_mem _ hy)) e
theorem filterMap_len {α β : Type} {f : α → Option β} : ∀ {l : List α}, (∀ y ∈ l, (f y).isSome = true) → (l.filterMap f).length = l.length
  | [], _ => rfl
  | a :: l, h => by
    obtain ⟨b, hb⟩ := Option.isSome_iff_exists.mp (h a List.mem_cons_self)
    rw [List.filterMap_cons, hb]
    simp [filterMap_len fun y hy => h y (List.mem_cons_of_mem _ hy)]
theorem tix_at {sides : Nat} {L : List Ent} {h : Nat} {w : Str} {i k : Nat} {t : Str} (e : (tix sides L h w)[i]? = some (k, t)) : ∃ y, keyAt sides L k = some y ∧ (touched sides L h w)[i]? = some (y, t) := by
  obtain ⟨h1, h2⟩ := tix_touched sides L h w
  obtain ⟨y, hy⟩ := Option.isSome_iff_exists.mp (h2 (k, t) (List.mem_of_getElem? e))
  refine ⟨y, hy, ?_⟩
  rw [← h1, filterMap_at (fun z hz => by rw [Option.isSome_map]; exact h2 z hz) e]
  dsimp only
  rw [show keyAt sides L k = some y from hy]
  rfl
theorem tix_len (sides : Nat) (L : List Ent) (h : Nat) (w : Str) : (tix sides L h w).length = (touched sides L h w).length := by
  obtain ⟨h1, h2⟩ := tix_touched sides L h w
  rw [← h1]
  exact (filterMap_len fun z hz => by rw [Option.isSome_map]; exact h2 z hz).symm
theorem tix_le (sides : Nat) (L : List Ent) (h : Nat) (w : Str) : (tix sides L h w).length ≤ L.length + 1 := by
  unfold tix
  split
  · simp
  · have h1 := List.length_filterMap_le (fun (t : (Nat × Nat × Nat) × Nat) => (sideW t.1.2.1 t.1.2.2 h w).map fun x => (t.2, x)) (tiesOf L).zipIdx
    have h2 := tiesOf_len L
    rw [List.length_zipIdx] at h1
    omega
/-- no number twice -/
theorem tix_nodup (sides : Nat) (L : List Ent) (h : Nat) (w : Str) : ((tix sides L h w).map (·.1)).Nodup := by
  unfold tix
  split
  · simp
  · have key : ∀ (l : List (Nat × Nat × Nat)) (i : Nat), (((l.zipIdx i).filterMap fun t => (sideW t.1.2.1 t.1.2.2 h w).map fun x => (t.2, x)).map (·.1)).Nodup ∧
        ∀ k ∈ ((l.zipIdx i).filterMap fun t => (sideW t.1.2.1 t.1.2.2 h w).map fun x => (t.2, x)).map (·.1), i ≤ k := by
      intro l
      induction l with
      | nil => intro i; simp
      | cons t l ih =>
        intro i
        obtain ⟨a, b⟩ := ih (i + 1)
        rw [List.zipIdx_cons, List.filterMap_cons]
        cases q : sideW t.2.1 t.2.2 h w with
        | none => simp only [q, Option.map_none]; exact ⟨a, fun k hk => by have := b k hk; omega⟩
        | some x =>
          simp only [q, Option.map_some, List.map_cons]
          refine ⟨List.nodup_cons.mpr ⟨fun hm => ?_, a⟩, fun k hk => ?_⟩
          · have := b i hm; omega
          · rcases mem_c hk with e | hk
            · omega
            · have := b k hk; omega
    exact (key _ 0).1
/-- what a list of keys and texts is -/
def PairsAt (H : Hp) : List (Nat × Str) → List V → Prop := Each fun x => TupAt H [.int (x.1 : Nat), .str x.2]
def spTouched (A : Ad) (one : Bool) : Sp := fun vs H Q _ => ∃ (D : Hp) (x : Wt) (r : Rl) (L : List Ent) (h : Nat) (t : Str), vs = [.ref x.p, .int (h : Nat), .str t] ∧ WatchAt A D H x r L ∧ (x.ties = none ↔ one = true) ∧ t.length ≤ 100 ∧ L.length ≤ 4000 ∧
  ∀ (l : Addr) (us : List V) (H' : Hp), Same H H' → H' l = some (.lst us) → PairsAt H' (tix r.sides L h t) us → Q (.ref l) H'
def spHandles (A : Ad) (one : Bool) : Sp := fun vs H Q _ => ∃ (D : Hp) (x : Wt) (r : Rl) (L : List Ent) (k : Nat) (y : Ky), vs = [.ref x.p, .int (k : Nat)] ∧ WatchAt A D H x r L ∧ (x.ties = none ↔ one = true) ∧ keyAt r.sides L k = some y ∧
  ∀ (l : Addr) (H' : Hp), Same H H' → H' l = some (.lst (y.handles.map fun (a : Nat) => V.int (a : Nat))) → Q (.ref l) H'
def spTied (A : Ad) (one : Bool) : Sp := fun vs H Q _ => ∃ (D : Hp) (x : Wt) (r : Rl) (L : List Ent) (l a b : Nat), vs = [.ref x.p, .int (a : Nat), .int (b : Nat)] ∧ WatchAt A D H x r L ∧ (x.ties = none ↔ one = true) ∧ L.length ≤ 4000 ∧
  ∀ (H' : Hp), Same (minus H x.addrs) H' → WatchAt A D H' x r (L ++ [.tie l a b]) → Q .non H'
def spRoom (A : Ad) : Sp := fun vs H Q _ => ∃ (x : Wt) (kvs : List (Key × V)) (k : Nat), vs = [.ref x.p, .int (k : Nat)] ∧ H x.p = some (x.ho A) ∧ H x.d = some (.dK kvs) ∧ Q ((valV kvs (.inl (k : Int))).getD (.int 0)) H
instance {K : PySem.W.Frag} {mg : Str → Option Value} {A : Ad} [T : Tx K mg A] {x : Wt} {H : Hp} {Q : VK} : Go (fldH K "rule" (x.ho A) H Q) (Q (.ref x.ra) H) := ⟨fun q => by
  unfold Wt.ho
  cases x.ties with
  | none => exact ⟨_, _, _, _, rfl, T.c_Watch, T.n_Watch_rule, wF_rule _, q⟩
  | some l => exact ⟨_, _, _, _, rfl, T.c_TieWatch, T.n_TieWatch_rule, tF_rule _, q⟩⟩
instance {K : PySem.W.Frag} {mg : Str → Option Value} {A : Ad} [T : Tx K mg A] {x : Wt} {H : Hp} {Q : VK} : Go (fldH K "rooms" (x.ho A) H Q) (Q (.ref x.d) H) := ⟨fun q => by
  unfold Wt.ho
  cases x.ties with
  | none => exact ⟨_, _, _, _, rfl, T.c_Watch, T.n_Watch_rooms, wF_rooms _, q⟩
  | some l => exact ⟨_, _, _, _, rfl, T.c_TieWatch, T.n_TieWatch_rooms, tF_rooms _, q⟩⟩
instance {K : PySem.W.Frag} {mg : Str → Option Value} {A : Ad} [T : Tx K mg A] {x : Wt} {H : Hp} {Q : VK} : Go (fldH K "name" (x.ho A) H Q) (Q (.str x.n) H) := ⟨fun q => by
  unfold Wt.ho
  cases x.ties with
  | none => exact ⟨_, _, _, _, rfl, T.c_Watch, T.n_Watch_name, wF_name _, q⟩
  | some l => exact ⟨_, _, _, _, rfl, T.c_TieWatch, T.n_TieWatch_name, tF_name _, q⟩⟩
section
variable {P : Program} {w : World} {K : PySem.W.Frag} {mg : Str → Option Value} {base : Heap} {A : Ad} (T : Tx K mg A)
include T
theorem watch_one {D H : Hp} {x : Wt} {r : Rl} {L : List Ent} (W : WatchAt A D H x r L) (h : x.ties = none) : H x.p = some (.ins A.a_Watch x.dx (wF ⟨x.n, x.ra, x.d⟩)) ∧ r.sides = 1 := by
  refine ⟨?_, W.kind.mp h⟩
  have := W.ob
  unfold Wt.ho at this
  rw [h] at this
  exact this
theorem watch_two {D H : Hp} {x : Wt} {r : Rl} {L : List Ent} {l : Addr} (W : WatchAt A D H x r L) (h : x.ties = some l) : H x.p = some (.ins A.a_TieWatch x.dx (tF ⟨x.n, x.ra, x.d, l⟩)) ∧ r.sides ≠ 1 := by
  refine ⟨?_, fun e => by rw [W.kind.mpr e] at h; cases h⟩
  have := W.ob
  unfold Wt.ho at this
  rw [h] at this
  exact this
theorem ok_Watch_touched : FnOk P w K mg base CX0 1 A.f_Watch_touched A.d_Watch_touched ["self", "handle", "word"] (spTouched A true) := by
  refine T.F_Watch_touched.ok sc_Watch_touched (fun vs H Q E h => ?_) (fun cdv A' outer s H vs Q E hr h => ?_)
  · obtain ⟨D, x, r, L, h, t, rfl, _⟩ := h
    rfl
  obtain ⟨D, x, r, L, h, t, rfl, W, hk, _, _, q⟩ := h
  obtain ⟨ho, hs⟩ := watch_one T W (hk.mpr rfl)
  refine ⟨_, (pss_one (ps_ret (pe_lst (pa_cons (pe_tup (pa_cons (pv 1) (pa_cons (pv 2) pa_nil))) pa_nil)))), ?_⟩
  walk_at "k"
  walk_at "go"
  intro p hp
  walk_at "go"
  intro l hl
  have s1 : Same H (upd (upd H p (.tup [.int (h : Nat), .str t])) l (.lst [.ref p])) := (same_new hp).new hl
  refine q l [.ref p] _ s1 upd_same ?_
  unfold tix
  rw [if_pos hs]
  exact Each.nil.cons ⟨p, rfl, by rw [upd_ne (ne_of_none upd_same hl)]; exact upd_same⟩
theorem ok_Watch_handles_of : FnOk P w K mg base CX0 1 A.f_Watch_handles_of A.d_Watch_handles_of ["self", "key"] (spHandles A true) := by
  refine T.F_Watch_handles_of.ok sc_Watch_handles_of (fun vs H Q E h => ?_) (fun cdv A' outer s H vs Q E hr h => ?_)
  · obtain ⟨D, x, r, L, k, y, rfl, _⟩ := h
    rfl
  obtain ⟨D, x, r, L, k, y, rfl, W, hk, hy, q⟩ := h
  obtain ⟨ho, hs⟩ := watch_one T W (hk.mpr rfl)
  refine ⟨_, (pss_one (ps_ret (pe_lst (pa_cons (pv 1) pa_nil)))), ?_⟩
  walk_at "k"
  walk_at "go"
  intro l hl
  unfold keyAt at hy
  rw [if_pos hs] at hy
  cases hy
  exact q l _ (same_new hl) upd_same
theorem ok_Watch_tied : FnOk P w K mg base CX0 1 A.f_Watch_tied A.d_Watch_tied ["self", "one", "other"] (spTied A true) := by
  refine T.F_Watch_tied.ok sc_Watch_tied (fun vs H Q E h => ?_) (fun cdv A' outer s H vs Q E hr h => ?_)
  · obtain ⟨D, x, r, L, l, a, b, rfl, _⟩ := h
    rfl
  obtain ⟨D, x, r, L, l, a, b, rfl, W, hk, hL, q⟩ := h
  obtain ⟨ho, hs⟩ := watch_one T W (hk.mpr rfl)
  refine ⟨_, (pss_one (ps_ret pe_non)), ?_⟩
  walk_at "k"
  walk_at "go"
  refine q H (minus_le _ _) ?_
  obtain ⟨ob, kd, ru, sm, ou, nd, ⟨kvs, k1, k2, k3⟩, k4, ti⟩ := W
  refine ⟨ob, kd, ru, sm, ou, nd, ⟨kvs, k1, ?_, fun k y hy => ?_⟩, fun kvs' e k hk => ?_, fun z hz => ?_⟩
  · rw [List.length_append, List.length_singleton]
    exact Nat.le_trans k2 (Nat.mul_le_mul (by omega) (by omega))
  · unfold keyAt at hy
    rw [if_pos hs] at hy
    cases hy
    rw [rm_tie (Nat.zero_le _)]
    exact k3 k _ (by unfold keyAt; rw [if_pos hs])
  · unfold keyAt at hk
    rw [if_pos hs] at hk
    cases hk
  · rw [hk.mpr rfl] at hz; cases hz
theorem ok_Watch_room_of : FnOk P w K mg base CX0 1 A.f_Watch_room_of A.d_Watch_room_of ["self", "key"] (spRoom A) := by
  refine T.F_Watch_room_of.ok sc_Watch_room_of (fun vs H Q E h => ?_) (fun cdv A' outer s H vs Q E hr h => ?_)
  · obtain ⟨x, kvs, k, rfl, _⟩ := h
    rfl
  obtain ⟨x, kvs, k, rfl, ho, hd, q⟩ := h
  have hu := hu_of hr
  refine ⟨_, (pss_one (ps_ret (pe_dget2 hu (pe_fld (pv 0) rfl) (pv 1) pe_int ⟨rfl, rfl, rfl, rfl⟩))), ?_⟩
  walk_at "k"
  walk_at "go"
  exact q
end

end U
namespace U
open PySem L2
/-! the steps that need no word -/
local macro_rules | `(tactic| walk_at "h") => `(tactic| focus ((repeat (first | assumption | exact upd_same | (apply at_ne; rotate_left; (first | assumption | exact Ne.symm (by assumption))) | (apply at_new; rotate_left; assumption))); done))
local macro_rules | `(tactic| walk_at "go") => `(tactic| repeat (with_reducible first
  | refine Go.by_ ?_
  | (apply w_at; (first | assumption | exact upd_same))
  | (apply w_sqT; (first | assumption | exact SqT.of (by assumption) | exact SqT.of upd_same))
  | (apply w_sqL; (first | assumption | exact SqL.of (by assumption) | exact SqL.of upd_same))
  | (apply w_sqLT1; (first | assumption | exact SqL.of (by assumption) | exact SqL.of upd_same))
  | (apply w_sqLT2; (first | assumption | exact SqT.of (by assumption) | exact SqT.of upd_same))
  | (apply w_at; walk_at "h")
  | (apply w_sqT; focus (apply SqT.of; walk_at "h"))
  | (apply w_sqL; focus (apply SqL.of; walk_at "h"))
  | (apply w_sqLT1; focus (apply SqL.of; walk_at "h"))
  | (apply w_sqLT2; focus (apply SqT.of; walk_at "h"))
  | (apply w_strT; decide)
  | (apply w_strF; decide)
  | (apply w_gTupH; (with_unfolding_all rfl))
  | (apply w_ixA; (first | assumption | with_unfolding_all rfl))))
local macro_rules | `(tactic| walk_at "k") => `(tactic| ((try dsimp only [cxOf, Cx.nox, List.map_cons, List.map_nil]); refine w_start ?_))
/-! ## Watches of ties -/
theorem at_new {H : Hp} {a p : Addr} {o u : HO} (h : H a = some o) (n : H p = none) : upd H p u a = some o := by rw [upd_ne (ne_of_none h n)]; exact h
theorem at_ne {H : Hp} {a p : Addr} {o u : HO} (h : H a = some o) (n : a ≠ p) : upd H p u a = some o := by rw [upd_ne n]; exact h
theorem Each.put {α : Type} {f : α → List V} {H H' : Hp} {xs : List α} {vs : List V} (h : Each (fun x => TupAt H (f x)) xs vs) (s : Same H H') : Each (fun x => TupAt H' (f x)) xs vs := h.mono fun _ _ p => p.same s
theorem str_len (a b : Str) : (a ++ b).length = a.length + b.length := by
  exact Array.size_append
theorem one_len : (oneS).length = 2 := by decide +kernel
theorem two_len : (twoS).length = 2 := by decide +kernel
theorem take_one {α : Type} {l : List α} {i : Nat} {x : α} (h : l[i]? = some x) : l.take (i + 1) = l.take i ++ [x] := by
  rw [List.take_succ, h]; rfl
theorem zip_at {α : Type} {l : List α} {i : Nat} {x : α} (h : l[i]? = some x) : l.zipIdx[i]? = some (x, i) := by simp [h]
section
variable {P : Program} {w : World} {K : PySem.W.Frag} {mg : Str → Option Value} {base : Heap} {A : Ad} (T : Tx K mg A)
include T
theorem ok_TieWatch_touched : FnOk P w K mg base CX0 1 A.f_TieWatch_touched A.d_TieWatch_touched ["self", "handle", "word"] (spTouched A false) := by
  refine T.F_TieWatch_touched.ok sc_TieWatch_touched (fun vs H Q E h => ?_) (fun cdv A' outer s H vs Q E hr h => ?_)
  · obtain ⟨D, x, r, L, h, t, rfl, _⟩ := h
    rfl
  obtain ⟨D, x, r, L, h, t, rfl, W, hk, ht, hL, q⟩ := h
  obtain ⟨lt, hlt⟩ : ∃ l, x.ties = some l := by
    cases e : x.ties with
    | none => exact absurd (hk.mp e) (by simp)
    | some l => exact ⟨l, rfl⟩
  obtain ⟨ho, hs⟩ := watch_two T W hlt
  obtain ⟨us, hu1, hu2⟩ := W.ties lt hlt
  refine ⟨_, (pss_cons (ps_set (i := 3) sc_TieWatch_touched.nd rfl (Or.inl rfl) (pe_lst pa_nil))
    (pss_cons (ps_for PassesOwn.never rfl (pi_enum (by rfl) T.z_enumerate (pa_cons (pe_fld (pv 0) rfl) pa_nil)) (pg_tup rfl (pgs_cons (pg_name (i := 4) sc_TieWatch_touched.nd rfl (Or.inl rfl)) (pgs_cons (pg_name (i := 5) sc_TieWatch_touched.nd rfl (Or.inl rfl)) pgs_nil))) (pss_one (ps_if (pt_cmpR op_eq (pe_ix ix_tup (pv 5) pe_int (fun _ _ => rfl)) (pv 1) (nomark _)) (pss_one (ps_expr (pe_bm PySem.F.plainAttrs_list PySem.F.slot_list_append PySem.F.type_list_append mt_append (pv 3) (pa_cons (pe_tup (pa_cons (pv 4) (pa_cons (pe_op op_add_str pe_str (pv 2)) pa_nil))) pa_nil)))) (pss_one (ps_if (pt_cmpR op_eq (pe_ix ix_tup (pv 5) pe_int (fun _ _ => rfl)) (pv 1) (nomark _)) (pss_one (ps_expr (pe_bm PySem.F.plainAttrs_list PySem.F.slot_list_append PySem.F.type_list_append mt_append (pv 3) (pa_cons (pe_tup (pa_cons (pv 4) (pa_cons (pe_op op_add_str pe_str (pv 2)) pa_nil))) pa_nil)))) pss_nil)))))
    (pss_one (ps_ret (pv 3))))), ?_⟩
  walk_at "k"
  walk_at "go"
  intro lf hlf
  have ho1 := at_new (u := .lst []) ho hlf
  have hu3 := at_new (u := .lst []) hu1 hlf
  walk_at "go"
  -- the turns
  refine w_forE (xs := us) (fun i σ H' => ∃ (gs : List V) (kv tv : Option V), σ = [some (.ref x.p), some (.int (h : Nat)), some (.str t), some (.ref lf), kv, tv] ∧ Same H H' ∧ H' lf = some (.lst gs) ∧
    PairsAt H' (((tiesOf L).zipIdx.take i).filterMap fun t' => (sideW t'.1.2.1 t'.1.2.2 h t).map fun z => (t'.2, z)) gs ∧ gs.length ≤ i)
    ⟨[], none, none, rfl, same_new hlf, upd_same, Each.nil, Nat.le_refl _⟩ (fun i σ H' ⟨_, _, _, _, s1, _⟩ => SqL.of (s1 _ _ hu1)) ?_ ?_
  · rintro i y T' σ H' hi ⟨gs, kv, tv, rfl, s1, e1, e2, e3⟩ hT
    obtain ⟨⟨j, a, b⟩, hj, p, rfl, hp⟩ := hu2.at_ i y hi
    have hlen : i < us.length := (List.getElem?_eq_some_iff.mp hi).1
    have hlu : us.length ≤ 4000 := by rw [hu2.len]; exact Nat.le_trans (tiesOf_len L) hL
    have hp1 := at_new (u := .tup [.int (i : Nat), .ref p]) (s1 _ _ hp) hT
    have e1' := at_new (u := .tup [.int (i : Nat), .ref p]) e1 hT
    have s1' : Same H (upd H' T' (.tup [.int (i : Nat), .ref p])) := s1.new hT
    have ez := take_one (zip_at hj)
    have e2' : PairsAt (upd H' T' (.tup [.int (i : Nat), .ref p])) (((tiesOf L).zipIdx.take i).filterMap fun t' => (sideW t'.1.2.1 t'.1.2.2 h t).map fun z => (t'.2, z)) gs := e2.put (same_new hT)
    walk_at "go"
    refine if_d (fun c => ?_) (fun c => ?_)
    · have c' : h = a := by dsimp only at c; omega
      walk_at "go"
      refine ⟨_, _, rfl, rfl, Nat.le_trans (show oneS.length + t.length ≤ 1000 by rw [one_len]; omega) (by decide), ?_⟩
      walk_at "go"
      intro q1 hq1
      have e1q := at_new (u := .tup [.int (i : Nat), .str (oneS ++ t)]) e1' hq1
      walk_at "go"
      refine w_app e1q (Nat.lt_of_le_of_lt (show gs.length ≤ 4000 by omega) (by decide)) ?_
      walk_at "go"
      refine ⟨_, _, _, rfl, (s1'.new hq1).put (show H lf = none from hlf), upd_same, ?_, by simp; omega⟩
      rw [ez, List.filterMap_append]
      have es : sideW a b h t = some (oneS ++ t) := if_pos c'
      have e4 : [(((j, a, b), i) : (Nat × Nat × Nat) × Nat)].filterMap (fun t' => (sideW t'.1.2.1 t'.1.2.2 h t).map fun z => (t'.2, z)) = [(i, oneS ++ t)] := by simp [es]
      rw [e4]
      refine Each.snoc (e2'.mono fun z v hz => ?_) ⟨q1, rfl, ?_⟩
      · obtain ⟨p', e5, e6⟩ := hz
        exact ⟨p', e5, at_ne (at_new e6 hq1) (ne_of (at_new e6 hq1) e1q (by intro z; cases z))⟩
      · exact at_ne upd_same (ne_of upd_same e1q (by intro z; cases z))
    · walk_at "go"
      refine if_d (fun c2 => ?_) (fun c2 => ?_)
      · have c' : ¬ h = a := by dsimp only at c; omega
        have c2' : h = b := by dsimp only at c2; omega
        walk_at "go"
        refine ⟨_, _, rfl, rfl, Nat.le_trans (show twoS.length + t.length ≤ 1000 by rw [two_len]; omega) (by decide), ?_⟩
        walk_at "go"
        intro q1 hq1
        have e1q := at_new (u := .tup [.int (i : Nat), .str (twoS ++ t)]) e1' hq1
        walk_at "go"
        refine w_app e1q (Nat.lt_of_le_of_lt (show gs.length ≤ 4000 by omega) (by decide)) ?_
        walk_at "go"
        refine ⟨_, _, _, rfl, (s1'.new hq1).put (show H lf = none from hlf), upd_same, ?_, by simp; omega⟩
        rw [ez, List.filterMap_append]
        have es : sideW a b h t = some (twoS ++ t) := by unfold sideW; rw [if_neg c', if_pos c2']
        have e4 : [(((j, a, b), i) : (Nat × Nat × Nat) × Nat)].filterMap (fun t' => (sideW t'.1.2.1 t'.1.2.2 h t).map fun z => (t'.2, z)) = [(i, twoS ++ t)] := by simp [es]
        rw [e4]
        refine Each.snoc (e2'.mono fun z v hz => ?_) ⟨q1, rfl, ?_⟩
        · obtain ⟨p', e5, e6⟩ := hz
          exact ⟨p', e5, at_ne (at_new e6 hq1) (ne_of (at_new e6 hq1) e1q (by intro z; cases z))⟩
        · exact at_ne upd_same (ne_of upd_same e1q (by intro z; cases z))
      · have c' : ¬ h = a := by dsimp only at c; omega
        have c2' : ¬ h = b := by dsimp only at c2; omega
        walk_at "go"
        refine ⟨_, _, _, rfl, s1', e1', ?_, by omega⟩
        rw [ez, List.filterMap_append]
        have es : sideW a b h t = none := by unfold sideW; rw [if_neg c', if_neg c2']
        have e4 : [(((j, a, b), i) : (Nat × Nat × Nat) × Nat)].filterMap (fun t' => (sideW t'.1.2.1 t'.1.2.2 h t).map fun z => (t'.2, z)) = [] := by simp [es]
        rw [e4, List.append_nil]
        exact e2'
  · rintro σ H' ⟨gs, kv, tv, rfl, s1, e1, e2, e3⟩
    walk_at "go"
    refine q lf gs H' s1 e1 ?_
    unfold tix
    rw [if_neg hs]
    rw [List.take_of_length_le (by rw [List.length_zipIdx, hu2.len]; exact Nat.le_refl _)] at e2
    exact e2
theorem ok_TieWatch_handles_of : FnOk P w K mg base CX0 1 A.f_TieWatch_handles_of A.d_TieWatch_handles_of ["self", "key"] (spHandles A false) := by
  refine T.F_TieWatch_handles_of.ok sc_TieWatch_handles_of (fun vs H Q E h => ?_) (fun cdv A' outer s H vs Q E hr h => ?_)
  · obtain ⟨D, x, r, L, k, y, rfl, _⟩ := h
    rfl
  obtain ⟨D, x, r, L, k, y, rfl, W, hk, hy, q⟩ := h
  obtain ⟨lt, hlt⟩ : ∃ l, x.ties = some l := by
    cases e : x.ties with
    | none => exact absurd (hk.mp e) (by simp)
    | some l => exact ⟨l, rfl⟩
  obtain ⟨ho, hs⟩ := watch_two T W hlt
  obtain ⟨us, hu1, hu2⟩ := W.ties lt hlt
  unfold keyAt at hy
  rw [if_neg hs] at hy
  obtain ⟨⟨i, a, b⟩, hi⟩ : ∃ z, (tiesOf L)[k]? = some z := by
    cases e : (tiesOf L)[k]? with
    | none => rw [e] at hy; simp at hy
    | some z => exact ⟨z, rfl⟩
  rw [hi] at hy
  simp at hy
  subst hy
  obtain ⟨v, hv, p, rfl, hp⟩ := hu2.get hi
  have hv' : atI us (k : Int) = some (.ref p) := atI_nat hv
  refine ⟨_, (pss_one (ps_ret (pe_lst (pa_cons (pe_ix ix_tup (pe_ix ix_list (pe_fld (pv 0) rfl) (pv 1) (fun _ _ => rfl)) pe_int (fun _ _ => rfl)) (pa_cons (pe_ix ix_tup (pe_ix ix_list (pe_fld (pv 0) rfl) (pv 1) (fun _ _ => rfl)) pe_int (fun _ _ => rfl)) pa_nil))))), ?_⟩
  walk_at "k"
  walk_at "go"
  intro l hl
  exact q l _ (same_new hl) upd_same
theorem ok_TieWatch_tied : FnOk P w K mg base CX0 1 A.f_TieWatch_tied A.d_TieWatch_tied ["self", "one", "other"] (spTied A false) := by
  refine T.F_TieWatch_tied.ok sc_TieWatch_tied (fun vs H Q E h => ?_) (fun cdv A' outer s H vs Q E hr h => ?_)
  · obtain ⟨D, x, r, L, l, a, b, rfl, _⟩ := h
    rfl
  obtain ⟨D, x, r, L, l, a, b, rfl, W, hk, hL, q⟩ := h
  obtain ⟨lt, hlt⟩ : ∃ l, x.ties = some l := by
    cases e : x.ties with
    | none => exact absurd (hk.mp e) (by simp)
    | some l => exact ⟨l, rfl⟩
  obtain ⟨ho, hs⟩ := watch_two T W hlt
  obtain ⟨us, hu1, hu2⟩ := W.ties lt hlt
  refine ⟨_, (pss_one (ps_expr (pe_bm PySem.F.plainAttrs_list PySem.F.slot_list_append PySem.F.type_list_append mt_append (pe_fld (pv 0) rfl) (pa_cons (pe_tup (pa_cons (pv 1) (pa_cons (pv 2) pa_nil))) pa_nil)))), ?_⟩
  walk_at "k"
  walk_at "go"
  intro p hp
  have hu3 := at_new (u := .tup [.int (a : Nat), .int (b : Nat)]) hu1 hp
  have hlu : us.length ≤ 4000 := by rw [hu2.len]; exact Nat.le_trans (tiesOf_len L) hL
  refine w_app hu3 (Nat.lt_of_le_of_lt hlu (by decide)) ?_
  walk_at "go"
  have nd' : x.p ≠ x.d ∧ x.p ≠ lt ∧ x.d ≠ lt := by
    have nd := W.nd
    unfold Wt.addrs at nd
    rw [hlt] at nd
    simp at nd
    exact ⟨nd.1.1, nd.1.2, nd.2⟩
  have lin : lt ∈ x.addrs := by simp [Wt.addrs, hlt]
  refine q _ (((minus_le H x.addrs).new hp).put (minus_at lin)) ?_
  have keep : ∀ c o, c ≠ lt → H c = some o → (upd (upd H p (.tup [.int (a : Nat), .int (b : Nat)])) lt (.lst (us ++ [.ref p]))) c = some o := fun c o hc e => at_ne (at_new e hp) hc
  have nlt : ∀ {c : Addr} {xs : List V}, H c = some (.tup xs) → c ≠ lt := fun e => ne_of e hu1 (by intro z; cases z)
  obtain ⟨ob, kd, ru, sm, ou, nd, ⟨kvs, k1, k2, k3⟩, k4, ti⟩ := W
  have k5 := keep _ _ nd'.2.2 k1
  have up : ∀ k, keyAt r.sides (L ++ [.tie l a b]) k = none → keyAt r.sides L k = none := fun k e => by
    unfold keyAt at e ⊢
    rw [if_neg hs] at e ⊢
    rw [tiesOf_snoc] at e
    cases e2 : (tiesOf L)[k]? with
    | none => rfl
    | some z =>
      have hk2 := (List.getElem?_eq_some_iff.mp e2).1
      rw [List.getElem?_append_left hk2, e2] at e
      simp at e
  refine ⟨keep _ _ nd'.2.1 ob, kd, ru, (sm.new hp).put (ou lt lin), ou, nd, ⟨kvs, k5, ?_, fun k y hy => ?_⟩, fun kvs' e k hk => ?_, fun z hz => ?_⟩
  · rw [List.length_append, List.length_singleton]
    exact Nat.le_trans k2 (Nat.mul_le_mul (by omega) (by omega))
  · unfold keyAt at hy
    rw [if_neg hs, tiesOf_snoc] at hy
    cases e : ((tiesOf L) ++ (tieAt (.tie l a b) L.length).toList)[k]? with
    | none => rw [e] at hy; simp at hy
    | some z =>
      rw [e] at hy
      simp at hy
      subst hy
      by_cases hk2 : k < (tiesOf L).length
      · rw [List.getElem?_append_left hk2] at e
        have hz := tiesOf_at (List.mem_of_getElem? e)
        rw [rm_tie (show Ky.start (.two z.1 z.2.1 z.2.2) ≤ L.length from Nat.le_of_lt hz.1)]
        exact k3 k _ (by unfold keyAt; rw [if_neg hs, e]; rfl)
      · rw [List.getElem?_append_right (by omega)] at e
        have hz : k - (tiesOf L).length = 0 := by
          have := (List.getElem?_eq_some_iff.mp e).1
          simp [tieAt] at this; omega
        rw [hz] at e
        simp [tieAt] at e
        subst e
        dsimp only
        have er : rm r (L ++ [.tie l a b]) (.two L.length a b) = 0 := by
          rw [rm_tie (Nat.le_refl _)]
          unfold rm roomOf
          rw [rowOf_end (Nat.le_refl _)]
          rfl
        rw [er, k4 kvs k1 k (by unfold keyAt; rw [if_neg hs, List.getElem?_eq_none (by omega)]; rfl)]
        rfl
  · rw [k5] at e; cases e
    exact k4 kvs k1 k (up k hk)
  · rw [hlt] at hz
    cases hz
    refine ⟨_, upd_same, ?_⟩
    rw [tiesOf_snoc]
    refine Each.append (hu2.mono fun t v p' => ?_) (Each.nil.cons ⟨p, rfl, at_ne upd_same (ne_of upd_same hu3 (by intro z; cases z))⟩)
    obtain ⟨p2, e1, e2⟩ := p'
    exact ⟨p2, e1, keep _ _ (nlt e2) e2⟩
end

end U
namespace U
open PySem L2
/-! the steps that need no word -/
local macro_rules | `(tactic| walk_at "h") => `(tactic| focus ((repeat (first | assumption | exact upd_same | (apply at_ne; rotate_left; (first | assumption | exact Ne.symm (by assumption))) | (apply at_new; rotate_left; assumption))); done))
local macro_rules | `(tactic| walk_at "go") => `(tactic| repeat (with_reducible first
  | refine Go.by_ ?_
  | (apply w_at; (first | assumption | exact upd_same))
  | (apply w_sqT; (first | assumption | exact SqT.of (by assumption) | exact SqT.of upd_same))
  | (apply w_sqL; (first | assumption | exact SqL.of (by assumption) | exact SqL.of upd_same))
  | (apply w_sqLT1; (first | assumption | exact SqL.of (by assumption) | exact SqL.of upd_same))
  | (apply w_sqLT2; (first | assumption | exact SqT.of (by assumption) | exact SqT.of upd_same))
  | (apply w_at; walk_at "h")
  | (apply w_sqT; focus (apply SqT.of; walk_at "h"))
  | (apply w_sqL; focus (apply SqL.of; walk_at "h"))
  | (apply w_sqLT1; focus (apply SqL.of; walk_at "h"))
  | (apply w_sqLT2; focus (apply SqT.of; walk_at "h"))
  | (apply w_strT; decide)
  | (apply w_strF; decide)
  | (apply w_gTupH; (with_unfolding_all rfl))
  | (apply w_ixA; (first | assumption | with_unfolding_all rfl))))
local macro_rules | `(tactic| walk_at "k") => `(tactic| ((try dsimp only [cxOf, Cx.nox, List.map_cons, List.map_nil]); refine w_start ?_))
/-! ## What a watch does with a deed -/
/-- a method of a watch, whichever of both classes -/
theorem w_two {A : Ad} {H : Hp} {x : Wt} {σ : L2.St} {Q : VK} {j : Nat} {m : Str} {sp : Bool → Sp} {tr : TA} (ob : H x.p = some (x.ho A)) (hσ : σ[j]? = some (some (.ref x.p)))
    (m1 : ∀ o, HasM (wF o) m) (m2 : ∀ o, HasM (tF o) m) (h : ∀ one, (x.ties = none ↔ one = true) → tr σ H fun vs H2 => sp one (.ref x.p :: (vs ++ [])) H2 Q E0) :
    tEi (tMeth A.a_Watch m (sp true) [] E0 (tVar j) tr) (tMeth A.a_TieWatch m (sp false) [] E0 (tVar j) tr) σ H Q := by
  unfold Wt.ho at ob
  cases ht : x.ties with
  | none =>
    rw [ht] at ob
    exact .inl ⟨_, hσ, x.p, _, _, rfl, ob, (m1 _).h, h true (by rw [ht]; simp)⟩
  | some l =>
    rw [ht] at ob
    exact .inr ⟨_, hσ, x.p, _, _, rfl, ob, (m2 _).h, h false (by rw [ht]; simp)⟩
theorem optV_non {o : Option Nat} : optV o = .non ↔ o = none := by cases o <;> simp [optV]
theorem tiesFrom_inj : ∀ {L : List Ent} {i j k : Nat} {x y : Nat × Nat × Nat}, (tiesFrom i L)[j]? = some x → (tiesFrom i L)[k]? = some y → x.1 = y.1 → j = k := by
  have key : ∀ (L : List Ent) (i : Nat), (tiesFrom i L).Pairwise (fun x y => x.1 < y.1) := by
    intro L
    induction L with
    | nil => intro i; exact List.Pairwise.nil
    | cons e r ih =>
      intro i
      show ((tieAt e i).toList ++ tiesFrom (i + 1) r).Pairwise _
      refine List.pairwise_append.mpr ⟨?_, ih (i + 1), ?_⟩
      · cases e <;> simp [tieAt]
      · intro a ha b hb
        obtain ⟨j, x, y⟩ := b
        have h1 := (tiesFrom_at hb).1
        cases e with
        | deed _ _ _ _ => simp [tieAt] at ha
        | tie l u v =>
          simp [tieAt] at ha
          subst ha
          exact h1
  intro L i j k x y hj hk e
  have P := key L i
  rw [List.pairwise_iff_getElem] at P
  obtain ⟨h1, e1⟩ := List.getElem?_eq_some_iff.mp hj
  obtain ⟨h2, e2⟩ := List.getElem?_eq_some_iff.mp hk
  rcases Nat.lt_trichotomy j k with h | h | h
  · have := P j k h1 h2 h; rw [e1, e2] at this; omega
  · exact h
  · have := P k j h2 h1 h; rw [e1, e2] at this; omega
theorem keyAt_inj {sides : Nat} {L : List Ent} {j k : Nat} {y : Ky} (h1 : keyAt sides L j = some y) (h2 : keyAt sides L k = some y) : j = k := by
  unfold keyAt at h1 h2
  by_cases hs : sides = 1
  · rw [if_pos hs] at h1 h2
    cases h1; cases h2; rfl
  · rw [if_neg hs] at h1 h2
    cases e1 : (tiesOf L)[j]? with
    | none => rw [e1] at h1; simp at h1
    | some u =>
      cases e2 : (tiesOf L)[k]? with
      | none => rw [e2] at h2; simp at h2
      | some v =>
        rw [e1] at h1
        rw [e2] at h2
        simp at h1 h2
        subst h1
        simp at h2
        exact tiesFrom_inj e1 e2 h2.1.symm
def brkF (r : Rl) (L : List Ent) : Ky × Str → Option Ky := fun x => if r.next (rm r L x.1) x.2 = none then some x.1 else none
theorem brk1_eq (r : Rl) (L : List Ent) (h : Nat) (w : Str) : brk1 r L h w = (touched r.sides L h w).findSome? (brkF r L) := rfl
theorem findSome_take {α β : Type} {f : α → Option β} {l : List α} {i : Nat} {x : α} {b : β} (h : (l.take i).findSome? f = none) (hx : l[i]? = some x) (hb : f x = some b) : l.findSome? f = some b := by
  have e : l = l.take i ++ (x :: l.drop (i + 1)) := by
    have h1 : i < l.length := (List.getElem?_eq_some_iff.mp hx).1
    have h2 := List.take_append_drop i l
    rw [List.drop_eq_getElem_cons h1] at h2
    have h3 : l[i] = x := (List.getElem?_eq_some_iff.mp hx).2
    rw [h3] at h2
    exact h2.symm
  rw [e, List.findSome?_append, h, List.findSome?_cons, hb]
  rfl
theorem findSome_next {α β : Type} {f : α → Option β} {l : List α} {i : Nat} {x : α} (h : (l.take i).findSome? f = none) (hx : l[i]? = some x) (hb : f x = none) : (l.take (i + 1)).findSome? f = none := by
  rw [take_one hx, List.findSome?_append, h, List.findSome?_cons, hb]
  rfl
def spBroken (A : Ad) : Sp := fun vs H Q _ => ∃ (D : Hp) (x : Wt) (r : Rl) (L : List Ent) (h : Nat) (t : Str), vs = [.ref x.p, .int (h : Nat), .str t] ∧ WatchAt A D H x r L ∧ r.Ok ∧ t.length ≤ 100 ∧ L.length ≤ 4000 ∧
  (brk1 r L h t = none → ∀ H', Same H H' → Q .non H') ∧ (∀ y k H', brk1 r L h t = some y → keyAt r.sides L k = some y → Same H H' → Q (.int (k : Nat)) H')
def spMove (A : Ad) : Sp := fun vs H Q _ => ∃ (D : Hp) (x : Wt) (r : Rl) (L : List Ent) (l h : Nat) (t : Str) (n : Int), vs = [.ref x.p, .int (h : Nat), .str t] ∧ WatchAt A D H x r L ∧ r.Ok ∧ Kept r L ∧ t.length ≤ 100 ∧ L.length ≤ 4000 ∧ brk1 r L h t = none ∧
  ∀ H', Same (minus H [x.d]) H' → WatchAt A D H' x r (L ++ [.deed l h t n]) → Q .non H'
section
variable {P : Program} {w : World} {K : PySem.W.Frag} {mg : Str → Option Value} {base : Heap} {A : Ad} (T : Tx K mg A)
include T
theorem ok_Watch_broken : FnOk P w K mg base CX0 2 A.f_Watch_broken A.d_Watch_broken ["self", "handle", "word"] (spBroken A) := by
  refine T.F_Watch_broken.ok sc_Watch_broken (fun vs H Q E h => ?_) (fun cdv A' outer s H vs Q E hr h => ?_)
  · obtain ⟨D, x, r, L, h, t, rfl, _⟩ := h
    rfl
  have G_next_room := ok_next_room (P := P) (w := w) (base := base) T
  have G_Watch_touched := ok_Watch_touched (P := P) (w := w) (base := base) T
  have G_Watch_room_of := ok_Watch_room_of (P := P) (w := w) (base := base) T
  have G_TieWatch_touched := ok_TieWatch_touched (P := P) (w := w) (base := base) T
  obtain ⟨D, x, r, L, h, t, rfl, W, ok, ht, hL, q1, q2⟩ := h
  have ob := W.ob
  obtain ⟨kvs, hd, _, hd2⟩ := W.rooms
  refine ⟨_, (pss_cons (ps_for PassesOwn.never rfl (pi_list (pe_or2 (pe_meth (pv 0) T.c_Watch T.e_Watch_touched G_Watch_touched (hr.mono (by decide)) T.b_Watch_touched .nil pass0 (pa_cons (pv 1) (pa_cons (pv 2) pa_nil))) (pe_meth (pv 0) T.c_TieWatch T.e_TieWatch_touched G_TieWatch_touched (hr.mono (by decide)) T.b_TieWatch_touched .nil pass0 (pa_cons (pv 1) (pa_cons (pv 2) pa_nil))))) (pg_tup rfl (pgs_cons (pg_name (i := 3) sc_Watch_broken.nd rfl (Or.inl rfl)) (pgs_cons (pg_name (i := 4) sc_Watch_broken.nd rfl (Or.inl rfl)) pgs_nil))) (pss_one (ps_if (pt_cmpR op_isN (pe_call G_next_room (hr.mono (by decide)) rfl T.m_next_room T.F_next_room.kp T.b_next_room .nil pass0 (pa_cons (pe_fld (pv 0) rfl) (pa_cons (pe_or2 (pe_meth (pv 0) T.c_Watch T.e_Watch_room_of G_Watch_room_of (hr.mono (by decide)) T.b_Watch_room_of .nil pass0 (pa_cons (pv 3) pa_nil)) (pe_meth (pv 0) T.c_TieWatch T.e_TieWatch_room_of G_Watch_room_of (hr.mono (by decide)) T.b_Watch_room_of .nil pass0 (pa_cons (pv 3) pa_nil))) (pa_cons (pv 4) pa_nil)))) pe_non (nomark _)) (pss_one (ps_ret (pv 3))) pss_nil)))
    (pss_one (ps_ret pe_non))), ?_⟩
  walk_at "k"
  walk_at "go"
  refine w_two ob rfl (fun _ => inferInstance) (fun _ => inferInstance) fun one hone => ?_
  walk_at "go"
  refine ⟨D, x, r, L, h, t, rfl, W, hone, ht, hL, fun l us H1 s1 hl hp => ?_⟩
  walk_at "go"
  refine w_forL (xs := us) (fun i σ H' => ∃ kv tv : Option V, σ = [some (.ref x.p), some (.int (h : Nat)), some (.str t), kv, tv] ∧ Same H1 H' ∧ ((touched r.sides L h t).take i).findSome? (brkF r L) = none)
    ⟨none, none, rfl, Same.refl _, rfl⟩ (fun i σ H' ⟨_, _, _, s2, _⟩ => SqL.of (s2 _ _ hl)) ?_ ?_
  · rintro i y σ H' hi ⟨kv, tv, rfl, s2, hn⟩
    obtain ⟨⟨k, t'⟩, hk, p, rfl, hp'⟩ := hp.at_ i y hi
    obtain ⟨y, hy, hty⟩ := tix_at hk
    have hp2 := s2 _ _ hp'
    have ob2 := s2 _ _ (s1 _ _ ob)
    have hd3 := s2 _ _ (s1 _ _ hd)
    walk_at "go"
    refine w_two (sp := fun _ => spRoom A) ob2 rfl (fun _ => inferInstance) (fun _ => inferInstance) fun one hone => ?_
    walk_at "go"
    refine ⟨x, kvs, k, rfl, ob2, hd3, ?_⟩
    rw [hd2 k y hy]
    walk_at "go"
    refine ⟨x.ra, r, rm r L y, t', rfl, W.rule.same (W.same.trans (s1.trans s2)), ok, rm_lt ok L y, ?_⟩
    walk_at "go"
    refine if_d (fun c => ?_) (fun c => ?_)
    · walk_at "go"
      have e : brkF r L (y, t') = some y := if_pos (optV_non.mp c)
      exact q2 y k H' (by rw [brk1_eq]; exact findSome_take hn hty e) hy (s1.trans s2)
    · walk_at "go"
      have e : brkF r L (y, t') = none := if_neg fun z => c (optV_non.mpr z)
      exact ⟨_, _, rfl, s2, findSome_next hn hty e⟩
  · rintro σ H' ⟨kv, tv, rfl, s2, hn⟩
    walk_at "go"
    rw [List.take_of_length_le (by rw [← tix_len, hp.len]; exact Nat.le_refl _)] at hn
    exact q1 hn H' (s1.trans s2)
theorem ok_Watch_move : FnOk P w K mg base CX0 2 A.f_Watch_move A.d_Watch_move ["self", "handle", "word"] (spMove A) := by
  refine T.F_Watch_move.ok sc_Watch_move (fun vs H Q E h => ?_) (fun cdv A' outer s H vs Q E hr h => ?_)
  · obtain ⟨D, x, r, L, l, h, t, n, rfl, _⟩ := h
    rfl
  have G_next_room := ok_next_room (P := P) (w := w) (base := base) T
  have G_Watch_touched := ok_Watch_touched (P := P) (w := w) (base := base) T
  have G_Watch_room_of := ok_Watch_room_of (P := P) (w := w) (base := base) T
  have G_TieWatch_touched := ok_TieWatch_touched (P := P) (w := w) (base := base) T
  obtain ⟨D, x, r, L, l, h, t, n, rfl, W, ok, kept, ht, hL, hb, q⟩ := h
  have hu := hu_of hr
  have ob := W.ob
  obtain ⟨kvs, hd, hd1, hd2⟩ := W.rooms
  refine ⟨_, (pss_one (ps_for PassesOwn.never rfl (pi_list (pe_or2 (pe_meth (pv 0) T.c_Watch T.e_Watch_touched G_Watch_touched (hr.mono (by decide)) T.b_Watch_touched .nil pass0 (pa_cons (pv 1) (pa_cons (pv 2) pa_nil))) (pe_meth (pv 0) T.c_TieWatch T.e_TieWatch_touched G_TieWatch_touched (hr.mono (by decide)) T.b_TieWatch_touched .nil pass0 (pa_cons (pv 1) (pa_cons (pv 2) pa_nil))))) (pg_tup rfl (pgs_cons (pg_name (i := 3) sc_Watch_move.nd rfl (Or.inl rfl)) (pgs_cons (pg_name (i := 4) sc_Watch_move.nd rfl (Or.inl rfl)) pgs_nil))) (pss_one (ps_dput hu (pe_fld (pv 0) rfl) (pv 3) (pe_call G_next_room (hr.mono (by decide)) rfl T.m_next_room T.F_next_room.kp T.b_next_room .nil pass0 (pa_cons (pe_fld (pv 0) rfl) (pa_cons (pe_or2 (pe_meth (pv 0) T.c_Watch T.e_Watch_room_of G_Watch_room_of (hr.mono (by decide)) T.b_Watch_room_of .nil pass0 (pa_cons (pv 3) pa_nil)) (pe_meth (pv 0) T.c_TieWatch T.e_TieWatch_room_of G_Watch_room_of (hr.mono (by decide)) T.b_Watch_room_of .nil pass0 (pa_cons (pv 3) pa_nil))) (pa_cons (pv 4) pa_nil)))) rfl)))), ?_⟩
  walk_at "k"
  walk_at "go"
  refine w_two ob rfl (fun _ => inferInstance) (fun _ => inferInstance) fun one hone => ?_
  walk_at "go"
  refine ⟨D, x, r, L, h, t, rfl, W, hone, ht, hL, fun lp us H1 s1 hl hp => ?_⟩
  walk_at "go"
  have hxd : x.d ≠ x.p := fun e => (List.nodup_cons.mp W.nd).1 (by rw [← e]; exact List.mem_cons_self)
  have hld : lp ≠ x.d := ne_of hl (s1 _ _ hd) (by intro z; cases z)
  have hlen : us.length ≤ L.length + 1 := by rw [hp.len]; exact tix_le _ _ _ _
  refine w_forL (xs := us) (fun i σ H' => ∃ (kv tv : Option V) (kvs' : List (Key × V)), σ = [some (.ref x.p), some (.int (h : Nat)), some (.str t), kv, tv] ∧ Same (minus H1 [x.d]) H' ∧ H' x.d = some (.dK kvs') ∧ kvs'.length ≤ kvs.length + i ∧
      (∀ k, k ∈ ((tix r.sides L h t).take i).map (·.1) → ∀ y, keyAt r.sides L k = some y → valV kvs' (.inl (k : Int)) = some (.int (rm r (L ++ [.deed l h t n]) y : Nat))) ∧
      (∀ k : Nat, ¬ k ∈ ((tix r.sides L h t).take i).map (·.1) → valV kvs' (.inl (k : Int)) = valV kvs (.inl (k : Int))))
    ⟨none, none, kvs, rfl, minus_le _ _, s1 _ _ hd, Nat.le_refl _, fun k hk => by simp at hk, fun k _ => rfl⟩
    (fun i σ H' ⟨_, _, _, _, s2, _⟩ => SqL.of (s2 _ _ (by rw [minus_ne (by simpa using hld)]; exact hl))) ?_ ?_
  · rintro i y σ H' hi ⟨kv, tv, kvs', rfl, s2, hd', hl', hn1, hn2⟩
    obtain ⟨⟨k, t'⟩, hk, p, rfl, hp'⟩ := hp.at_ i y hi
    obtain ⟨y, hy, hty⟩ := tix_at hk
    have hi' : i < us.length := (List.getElem?_eq_some_iff.mp hi).1
    have old : ∀ {b o}, H1 b = some o → b ≠ x.d → H' b = some o := fun {b o} e ne => s2 _ _ (by rw [minus_ne (by simpa using ne)]; exact e)
    have hp2 := old hp' (ne_of hp' (s1 _ _ hd) (by intro z; cases z))
    have ob2 := old (s1 _ _ ob) (Ne.symm hxd)
    have hnk : ¬ k ∈ ((tix r.sides L h t).take i).map (·.1) := fun hm => by
      have nd := tix_nodup r.sides L h t
      obtain ⟨j, hj, ej⟩ := List.getElem_of_mem hm
      rw [List.length_map, List.length_take] at hj
      have h1 : ((tix r.sides L h t).map (·.1))[j]? = some k := by
        rw [List.getElem_map, List.getElem_take] at ej
        rw [List.getElem?_map, List.getElem?_eq_getElem (by omega), Option.map_some, ej]
      have h2 : ((tix r.sides L h t).map (·.1))[i]? = some k := by rw [List.getElem?_map, hk]; rfl
      have := nd_ix nd h1 h2
      omega
    have hrule : RuleAt H' r x.ra := by
      refine W.rule.same fun b o e => old (s1 _ _ (W.same _ _ e)) fun z => ?_
      rw [z, W.out x.d (by simp [Wt.addrs])] at e
      cases e
    walk_at "go"
    refine w_two (sp := fun _ => spRoom A) ob2 rfl (fun _ => inferInstance) (fun _ => inferInstance) fun one hone => ?_
    walk_at "go"
    refine ⟨x, kvs', k, rfl, ob2, hd', ?_⟩
    rw [hn2 k hnk, hd2 k y hy]
    walk_at "go"
    refine ⟨x.ra, r, rm r L y, t', rfl, hrule, ok, rm_lt ok L y, ?_⟩
    obtain ⟨z, hz⟩ := brk1_none hb (List.mem_of_getElem? hty)
    rw [hz]
    walk_at "go"
    have hzn := (touched_iff l n).mp (List.mem_of_getElem? hty)
    have hnew : rm r (L ++ [.deed l h t n]) y = z := (rm_deed kept hzn.1).1 t' z hzn.2 hz
    have hz2 : kvs'.length < sizeLine := by
      have h1 : L.length * (L.length + 1) ≤ 4000 * 4001 := Nat.mul_le_mul hL (by omega)
      exact Nat.lt_of_le_of_lt (show kvs'.length ≤ 4000 * 4001 + 4001 by omega) (by decide)
    refine w_dputI hd' hz2 ?_
    refine ⟨_, _, putK kvs' (.inl (k : Int)) (.int (z : Nat)), rfl, s2.put (minus_at (by simp)), upd_same, ?_, fun k' hk' y' hy' => ?_, fun k' hk' => ?_⟩
    · have := putK_length kvs' (.inl (k : Int)) (.int (z : Nat))
      omega
    · rw [valV_put]
      by_cases e : k' = k
      · subst e
        rw [if_pos rfl]
        rw [hy] at hy'
        cases hy'
        rw [hnew]
      · rw [if_neg (by simpa using fun q : (k' : Int) = k => e (by omega))]
        refine hn1 k' ?_ y' hy'
        rw [take_one hk, List.map_append] at hk'
        rcases mem_a hk' with h' | h'
        · exact h'
        · simp at h'; exact absurd h' e
    · rw [valV_put]
      rw [take_one hk, List.map_append] at hk'
      have e : k' ≠ k := fun e => hk' (by simp [e])
      rw [if_neg (by simpa using fun q : (k' : Int) = k => e (by omega))]
      exact hn2 k' fun h' => hk' (List.mem_append_left _ h')
  · rintro σ H' ⟨kv, tv, kvs', rfl, s2, hd', hl', hn1, hn2⟩
    walk_at "go"
    have old : ∀ {b o}, H1 b = some o → b ≠ x.d → H' b = some o := fun {b o} e ne => s2 _ _ (by rw [minus_ne (by simpa using ne)]; exact e)
    have all : (tix r.sides L h t).take us.length = tix r.sides L h t := List.take_of_length_le (by rw [hp.len]; exact Nat.le_refl _)
    rw [all] at hn1 hn2
    have sm : Same (minus H [x.d]) H' := fun b o e => by
      by_cases hbd : b = x.d
      · rw [hbd, minus_at (by simp)] at e; cases e
      · rw [minus_ne (by simpa using hbd)] at e
        exact old (s1 _ _ e) hbd
    have kk : ∀ k, keyAt r.sides (L ++ [.deed l h t n]) k = keyAt r.sides L k := fun k => by
      unfold keyAt
      rw [tiesOf_snoc]
      simp [tieAt]
    have notin : ∀ {k : Nat}, keyAt r.sides L k = none → ¬ k ∈ (tix r.sides L h t).map (·.1) := fun {k} e hm => by
      obtain ⟨⟨k', t'⟩, h1, h2⟩ := List.mem_map.mp hm
      dsimp only at h2
      subst h2
      obtain ⟨i, hi⟩ := List.getElem?_of_mem h1
      obtain ⟨y, hy, _⟩ := tix_at hi
      rw [hy] at e; cases e
    refine q H' sm ⟨old (s1 _ _ ob) (Ne.symm hxd), W.kind, W.rule, fun b o e => ?_, W.out, W.nd, ⟨kvs', hd', ?_, fun k y hy => ?_⟩, fun kvs2 e k hk => ?_, fun lt hlt => ?_⟩
    · exact old (s1 _ _ (W.same _ _ e)) fun z => by rw [z, W.out x.d (by simp [Wt.addrs])] at e; cases e
    · rw [List.length_append, List.length_singleton]
      have : (L.length + 1) * (L.length + 1 + 1) = L.length * (L.length + 1) + 2 * (L.length + 1) := by
        rw [Nat.mul_add (L.length + 1), Nat.mul_one, Nat.add_mul, Nat.one_mul, Nat.two_mul, Nat.mul_add L.length, Nat.mul_one]
        omega
      rw [this]
      omega
    · rw [kk] at hy
      by_cases hm : k ∈ (tix r.sides L h t).map (·.1)
      · rw [hn1 k hm y hy]; rfl
      · rw [hn2 k hm]
        have hw : wordOf y (.deed l h t n) = none := by
          cases hw : wordOf y (.deed l h t n) with
          | none => rfl
          | some t' =>
            have hin := (touched_iff l n).mpr ⟨keyAt_key hy, hw⟩
            obtain ⟨i, hi⟩ := List.getElem?_of_mem hin
            have hil : i < (tix r.sides L h t).length := by rw [tix_len]; exact (List.getElem?_eq_some_iff.mp hi).1
            obtain ⟨y2, hy2, hty2⟩ := tix_at (k := ((tix r.sides L h t)[i]).1) (t := ((tix r.sides L h t)[i]).2) (List.getElem?_eq_getElem hil)
            rw [hi] at hty2
            cases hty2
            have := keyAt_inj hy hy2
            exact absurd (by rw [this]; exact List.mem_map.mpr ⟨_, List.getElem_mem hil, rfl⟩) hm
        rw [(rm_deed kept (keyAt_key hy)).2 hw]
        exact hd2 k y hy
    · rw [hd'] at e
      cases e
      rw [kk] at hk
      rw [hn2 k (notin hk)]
      exact W.none_ kvs hd k hk
    · obtain ⟨vs, a, b⟩ := W.ties lt hlt
      refine ⟨vs, old (s1 _ _ a) (ne_of a hd (by intro z; cases z)), ?_⟩
      rw [tiesOf_snoc]
      have : (tieAt (.deed l h t n) L.length).toList = [] := rfl
      rw [this, List.append_nil]
      refine b.mono fun z v hz => ?_
      obtain ⟨p, e1, e2⟩ := hz
      exact ⟨p, e1, old (s1 _ _ e2) (ne_of e2 hd (by intro z; cases z))⟩
end

end U
namespace U
open PySem L2
/-! the steps that need no word -/
local macro_rules | `(tactic| walk_at "h") => `(tactic| focus ((repeat (first | assumption | exact upd_same | (apply at_ne; rotate_left; (first | assumption | exact Ne.symm (by assumption))) | (apply at_new; rotate_left; assumption))); done))
local macro_rules | `(tactic| walk_at "go") => `(tactic| repeat (with_reducible first
  | refine Go.by_ ?_
  | (apply w_at; (first | assumption | exact upd_same))
  | (apply w_sqT; (first | assumption | exact SqT.of (by assumption) | exact SqT.of upd_same))
  | (apply w_sqL; (first | assumption | exact SqL.of (by assumption) | exact SqL.of upd_same))
  | (apply w_sqLT1; (first | assumption | exact SqL.of (by assumption) | exact SqL.of upd_same))
  | (apply w_sqLT2; (first | assumption | exact SqT.of (by assumption) | exact SqT.of upd_same))
  | (apply w_at; walk_at "h")
  | (apply w_sqT; focus (apply SqT.of; walk_at "h"))
  | (apply w_sqL; focus (apply SqL.of; walk_at "h"))
  | (apply w_sqLT1; focus (apply SqL.of; walk_at "h"))
  | (apply w_sqLT2; focus (apply SqT.of; walk_at "h"))
  | (apply w_strT; decide)
  | (apply w_strF; decide)
  | (apply w_gTupH; (with_unfolding_all rfl))
  | (apply w_ixA; (first | assumption | with_unfolding_all rfl))))
local macro_rules | `(tactic| walk_at "k") => `(tactic| ((try dsimp only [cxOf, Cx.nox, List.map_cons, List.map_nil]); refine w_start ?_))
/-! ## Watches made; rows of deeds; the first watch that is broken -/
def spInitW (A : Ad) : Sp := fun vs H Q _ => ∃ (C p dx : Addr) (n : Str) (ra : Addr), vs = [.ref p, .str n, .ref ra] ∧ (C = A.a_Watch ∨ C = A.a_TieWatch) ∧ H p = some (.ins C dx []) ∧
  ∀ (d : Addr) (H' : Hp), Same (minus H [p]) H' → H d = none → H' p = some (.ins C dx (wF ⟨n, ra, d⟩)) → H' d = some (.dK []) → Q .non H'
def spInitT (A : Ad) : Sp := fun vs H Q _ => ∃ (p dx : Addr) (n : Str) (ra : Addr), vs = [.ref p, .str n, .ref ra] ∧ H p = some (.ins A.a_TieWatch dx []) ∧
  ∀ (d l : Addr) (H' : Hp), Same (minus H [p]) H' → H d = none → H l = none → d ≠ l → H' p = some (.ins A.a_TieWatch dx (tF ⟨n, ra, d, l⟩)) → H' d = some (.dK []) → H' l = some (.lst []) → Q .non H'
def spWatchOf (A : Ad) : Sp := fun vs H Q _ => ∃ (D : Hp) (n : Str) (r : Rl) (ra : Addr), vs = [.str n, .ref ra] ∧ RuleAt D r ra ∧ Same D H ∧ (r.sides = 1 ∨ r.sides = 2) ∧
  ∀ (x : Wt) (H' : Hp), Same H H' → (∀ b ∈ x.addrs, H b = none) → x.n = n → WatchAt A D H' x r [] → Q (.ref x.p) H'
/-- the watches of the rules, one by one -/
structure WatchesAt (A : Ad) (D H : Hp) (xs : List Wt) (rules : List (Str × Rl)) (L : List Ent) : Prop where
  len : xs.length = rules.length
  at_ : ∀ (i : Nat) (x : Wt), xs[i]? = some x → ∃ n r, rules[i]? = some (n, r) ∧ x.n = n ∧ WatchAt A D H x r L
def spBrokenBy (A : Ad) : Sp := fun vs H Q _ => ∃ (D : Hp) (l : Addr) (xs : List Wt) (rules : List (Str × Rl)) (L : List Ent) (h : Nat) (t : Str), vs = [.ref l, .int (h : Nat), .str t] ∧ H l = some (.lst (xs.map fun x => V.ref x.p)) ∧ WatchesAt A D H xs rules L ∧
  (∀ x ∈ rules, x.2.Ok) ∧ t.length ≤ 100 ∧ L.length ≤ 4000 ∧ (brkAt rules L h t = none → ∀ H', Same H H' → Q .non H') ∧
  (∀ n y, brkAt rules L h t = some (n, y) → ∀ (i : Nat) (x : Wt) (r : Rl) (k : Nat) (p : Addr) (H' : Hp), xs[i]? = some x → rules[i]? = some (n, r) → brk1 r L h t = some y → keyAt r.sides L k = some y → Same H H' → H' p = some (.tup [.ref x.p, .int (k : Nat)]) → Q (.ref p) H')
def spDeeds : Sp := fun vs H Q _ => ∃ (l : Addr) (us : List V) (L : List Ent) (h : Nat), vs = [.ref l, .int (h : Nat)] ∧ H l = some (.lst us) ∧ EntsAt H L us ∧ L.length ≤ 4000 ∧
  ∀ (p : Addr) (H' : Hp), Same H H' → H' p = some (.lst ((rowOf L (.one h)).map V.str)) → Q (.ref p) H'
def spDeedsT : Sp := fun vs H Q _ => ∃ (l : Addr) (us : List V) (L : List Ent) (k i a b : Nat), vs = [.ref l, .int (k : Nat)] ∧ H l = some (.lst us) ∧ EntsAt H L us ∧ L.length ≤ 4000 ∧ (∀ l h w n, Ent.deed l h w n ∈ L → w.length ≤ 100) ∧ (tiesOf L)[k]? = some (i, a, b) ∧ a ≠ b ∧
  ∀ (p : Addr) (H' : Hp), Same H H' → H' p = some (.lst ((rowOf L (.two i a b)).map V.str)) → Q (.ref p) H'
def spRowB (A : Ad) : Sp := fun vs H Q _ => ∃ (D : Hp) (l : Addr) (us : List V) (x : Wt) (r : Rl) (L : List Ent) (k h : Nat) (t t' : Str) (y : Ky), vs = [.ref l, .ref x.p, .int (k : Nat), .int (h : Nat), .str t] ∧ H l = some (.lst us) ∧ EntsAt H L us ∧ L.length ≤ 4000 ∧
  (∀ l h w n, Ent.deed l h w n ∈ L → w.length ≤ 100) ∧ (∀ l a b, Ent.tie l a b ∈ L → a ≠ b) ∧ t.length ≤ 100 ∧ WatchAt A D H x r L ∧ keyAt r.sides L k = some y ∧ wordOf y (.deed 0 h t 0) = some t' ∧
  ∀ (p : Addr) (H' : Hp), Same H H' → H' p = some (.lst ((rowOf L y ++ [t']).map V.str)) → Q (.ref p) H'
theorem upd_none {H : Hp} {a b : Addr} {o : HO} (e : upd H a o b = none) : H b = none ∧ b ≠ a := by
  by_cases h : b = a
  · subst h; rw [upd_same] at e; cases e
  · rw [upd_ne h] at e; exact ⟨e, h⟩
theorem putT (n : Str) (ra d l : Addr) : putF "ties" (.ref l) (wF ⟨n, ra, d⟩) = tF ⟨n, ra, d, l⟩ := by kernel_rfl
theorem brkAt_at {rules : List (Str × Rl)} {L : List Ent} {h : Nat} {w : Str} {i : Nat} {n : Str} {r : Rl} {y : Ky} (e0 : ((rules.take i).findSome? fun x => (brk1 x.2 L h w).map fun k => (x.1, k)) = none) (e1 : rules[i]? = some (n, r)) (e2 : brk1 r L h w = some y) : brkAt rules L h w = some (n, y) :=
  findSome_take e0 e1 (by dsimp only; rw [e2]; rfl)
section
variable {P : Program} {w : World} {K : PySem.W.Frag} {mg : Str → Option Value} {base : Heap} {A : Ad} (T : Tx K mg A)
include T
theorem ok_Watch_init : FnOk P w K mg base CX0 1 A.f_Watch_init A.d_Watch_init ["self", "name", "rule"] (spInitW A) := by
  refine T.F_Watch_init.ok sc_Watch_init (fun vs H Q E h => ?_) (fun cdv A' outer s H vs Q E hr h => ?_)
  · obtain ⟨C, p, dx, n, ra, rfl, _⟩ := h
    rfl
  obtain ⟨C, p, dx, n, ra, rfl, hC, hp, q⟩ := h
  have c : Cls K C := by rcases hC with rfl | rfl; exact T.c_Watch; exact T.c_TieWatch
  have n1 : NoAttr K C "name" := by rcases hC with rfl | rfl; exact T.n_Watch_name; exact T.n_TieWatch_name
  have n2 : NoAttr K C "rule" := by rcases hC with rfl | rfl; exact T.n_Watch_rule; exact T.n_TieWatch_rule
  have n3 : NoAttr K C "rooms" := by rcases hC with rfl | rfl; exact T.n_Watch_rooms; exact T.n_TieWatch_rooms
  refine ⟨_, (pss_cons (ps_fld (pv 0) (pv 1) rfl)
    (pss_cons (ps_fld (pv 0) (pv 2) rfl)
    (pss_one (ps_fld (pv 0) pe_dnewK rfl)))), ?_⟩
  walk_at "k"
  walk_at "go"
  refine ⟨C, dx, [], _, rfl, c, n1, by decide, rfl, ?_⟩
  walk_at "go"
  refine ⟨C, dx, _, _, rfl, c, n2, by show 1 < 1000; decide, rfl, ?_⟩
  walk_at "go"
  intro d hd
  obtain ⟨hd1, hd2⟩ := upd_none hd
  obtain ⟨hd3, hd4⟩ := upd_none hd1
  refine ⟨_, rfl, p, C, dx, _, rfl, at_new upd_same hd, c, n3, by show 2 < 1000; decide, ?_⟩
  refine q d _ (fun b o e => ?_) hd3 (by rw [wF_new]; exact upd_same) (at_ne upd_same hd4)
  have hb : b ≠ p := fun z => by rw [z, minus_at (by simp)] at e; cases e
  rw [minus_ne (by simpa using hb)] at e
  exact at_ne (at_new (at_ne (at_ne e hb) hb) hd) hb
theorem ok_TieWatch_init : FnOk P w K mg base CX0 2 A.f_TieWatch_init A.d_TieWatch_init ["self", "name", "rule"] (spInitT A) := by
  refine T.F_TieWatch_init.ok sc_TieWatch_init (fun vs H Q E h => ?_) (fun cdv A' outer s H vs Q E hr h => ?_)
  · obtain ⟨p, dx, n, ra, rfl, _⟩ := h
    rfl
  have G_Watch_init := ok_Watch_init (P := P) (w := w) (base := base) T
  obtain ⟨p, dx, n, ra, rfl, hp, q⟩ := h
  refine ⟨_, (pss_cons (ps_expr (pe_clsCall T.r_Watch T.v_Watch_init G_Watch_init (hr.mono (by decide)) rfl T.m_Watch T.F_Watch_init.kp T.b_Watch_init (pa_cons (pv 0) (pa_cons (pv 1) (pa_cons (pv 2) pa_nil)))))
    (pss_one (ps_fld (pv 0) (pe_lst pa_nil) rfl))), ?_⟩
  walk_at "k"
  walk_at "go"
  refine ⟨A.a_TieWatch, p, dx, n, ra, rfl, .inr rfl, hp, fun d H1 s1 hd e1 e2 => ?_⟩
  walk_at "go"
  intro l hl
  have e1' := at_new (u := .lst []) e1 hl
  walk_at "go"
  refine ⟨_, dx, _, _, rfl, T.c_TieWatch, T.n_TieWatch_ties, wF_len _, putT _ _ _ _, ?_⟩
  have hlp : l ≠ p := fun z => by rw [z, e1] at hl; cases hl
  have hl0 : H l = none := by
    have := s1.free hl
    rw [minus_ne (by simpa using hlp)] at this
    exact this
  have hdp : d ≠ p := fun z => by rw [z, hp] at hd; cases hd
  refine q d l _ ((s1.new hl).put (minus_at (by simp))) hd hl0 (ne_of_none e2 hl) upd_same (at_ne (at_new e2 hl) hdp) (at_ne upd_same hlp)
theorem ok_watch_of : FnOk P w K mg base CX0 4 A.f_watch_of A.d_watch_of ["name", "rule"] (spWatchOf A) := by
  refine T.F_watch_of.ok sc_watch_of (fun vs H Q E h => ?_) (fun cdv A' outer s H vs Q E hr h => ?_)
  · obtain ⟨D, n, r, ra, rfl, _⟩ := h
    rfl
  have G_Watch_init := ok_Watch_init (P := P) (w := w) (base := base) T
  have G_TieWatch_init := ok_TieWatch_init (P := P) (w := w) (base := base) T
  obtain ⟨D, n, r, ra, rfl, R, sd, hs, q⟩ := h
  obtain ⟨lw, lr, vs, h1, h2, h3, h4⟩ := id R
  have h1' := sd _ _ h1
  refine ⟨_, (pss_cons (ps_if (pt_cmpR op_eq (pe_ix ix_tup (pv 1) pe_int (fun _ _ => rfl)) pe_int (nomark _)) (pss_one (ps_ret (pe_make T.k_Watch G_Watch_init (hr.mono (by decide)) rfl T.m_Watch T.b_Watch_init .nil pass0 (pa_cons (pv 0) (pa_cons (pv 1) pa_nil))))) pss_nil)
    (pss_one (ps_ret (pe_make T.k_TieWatch G_TieWatch_init (hr.mono (by decide)) rfl T.m_TieWatch T.b_TieWatch_init .nil pass0 (pa_cons (pv 0) (pa_cons (pv 1) pa_nil)))))), ?_⟩
  walk_at "k"
  walk_at "go"
  refine if_d (fun c => ?_) (fun c => ?_)
  · have c' : r.sides = 1 := by omega
    walk_at "go"
    intro x dx hx hdx ne
    refine ⟨_, x, dx, n, ra, rfl, .inl rfl, upd_same, fun d H1 s1 hd e1 e2 => ⟨rfl, ?_⟩⟩
    obtain ⟨hd1, hd2⟩ := upd_none hd
    obtain ⟨hd3, hd4⟩ := upd_none hd1
    have s2 : Same H H1 := fun b o e => by
      have hb : b ≠ x := ne_of_none e hx
      exact s1 b o (by rw [minus_ne (by simpa using hb)]; exact at_ne (at_new e hdx) hb)
    refine q ⟨x, dx, d, none, n, ra⟩ H1 s2 (fun b hb => ?_) rfl ⟨e1, by simp [c'], R, sd.trans s2, fun b hb => sd.free ?_, ?_, ⟨[], e2, Nat.zero_le _, fun k y hy => ?_⟩, fun kvs e k hk => ?_, fun l hl => by cases hl⟩
    · simp [Wt.addrs] at hb
      rcases hb with rfl | rfl
      · exact hx
      · exact hd3
    · simp [Wt.addrs] at hb
      rcases hb with rfl | rfl
      · exact hx
      · exact hd3
    · simp [Wt.addrs]; exact fun z => hd2 z.symm
    · unfold keyAt at hy
      rw [if_pos c'] at hy
      cases hy
      rfl
    · rw [e2] at e; cases e; rfl
  · have c' : r.sides ≠ 1 := by omega
    walk_at "go"
    intro x dx hx hdx ne
    refine ⟨x, dx, n, ra, rfl, upd_same, fun d l H1 s1 hd hl hdl e1 e2 e3 => ⟨rfl, ?_⟩⟩
    obtain ⟨hd1, hd2⟩ := upd_none hd
    obtain ⟨hd3, hd4⟩ := upd_none hd1
    obtain ⟨hl1, hl2⟩ := upd_none hl
    obtain ⟨hl3, hl4⟩ := upd_none hl1
    have s2 : Same H H1 := fun b o e => by
      have hb : b ≠ x := ne_of_none e hx
      exact s1 b o (by rw [minus_ne (by simpa using hb)]; exact at_ne (at_new e hdx) hb)
    have all : ∀ b ∈ (⟨x, dx, d, some l, n, ra⟩ : Wt).addrs, H b = none := fun b hb => by
      simp [Wt.addrs] at hb
      rcases hb with rfl | (rfl | rfl)
      · exact hx
      · exact hd3
      · exact hl3
    refine q ⟨x, dx, d, some l, n, ra⟩ H1 s2 all rfl ⟨e1, by simp [c'], R, sd.trans s2, fun b hb => sd.free (all b hb), ?_, ⟨[], e2, Nat.zero_le _, fun k y hy => ?_⟩, fun kvs e k hk => ?_, fun l' hl' => ?_⟩
    · simp [Wt.addrs]
      exact ⟨⟨fun z => hd2 z.symm, fun z => hl2 z.symm⟩, hdl⟩
    · unfold keyAt at hy
      rw [if_neg c'] at hy
      simp [tiesOf, tiesFrom] at hy
    · rw [e2] at e; cases e; rfl
    · cases hl'
      exact ⟨[], e3, Each.nil⟩
theorem ok_broken_by : FnOk P w K mg base CX0 3 A.f_broken_by A.d_broken_by ["watches", "handle", "word"] (spBrokenBy A) := by
  refine T.F_broken_by.ok sc_broken_by (fun vs H Q E h => ?_) (fun cdv A' outer s H vs Q E hr h => ?_)
  · obtain ⟨D, l, xs, rules, L, h, t, rfl, _⟩ := h
    rfl
  have G_Watch_broken := ok_Watch_broken (P := P) (w := w) (base := base) T
  obtain ⟨D, l, xs, rules, L, h, t, rfl, hl, W, ok, ht, hL, q1, q2⟩ := h
  refine ⟨_, (pss_cons (ps_for PassesOwn.never rfl (pi_list (pv 0)) (pg_name (i := 3) sc_broken_by.nd rfl (Or.inl rfl)) (pss_cons (ps_set (i := 4) sc_broken_by.nd rfl (Or.inl rfl) (pe_or2 (pe_meth (pv 3) T.c_Watch T.e_Watch_broken G_Watch_broken (hr.mono (by decide)) T.b_Watch_broken .nil pass0 (pa_cons (pv 1) (pa_cons (pv 2) pa_nil))) (pe_meth (pv 3) T.c_TieWatch T.e_TieWatch_broken G_Watch_broken (hr.mono (by decide)) T.b_Watch_broken .nil pass0 (pa_cons (pv 1) (pa_cons (pv 2) pa_nil)))))
      (pss_one (ps_if (pt_cmpR op_notN (pv 4) pe_non (nomark _)) (pss_one (ps_ret (pe_tup (pa_cons (pv 3) (pa_cons (pv 4) pa_nil))))) pss_nil))))
    (pss_one (ps_ret pe_non))), ?_⟩
  walk_at "k"
  walk_at "go"
  refine w_forL (xs := xs.map fun x => V.ref x.p) (fun i σ H' => ∃ wv kv : Option V, σ = [some (.ref l), some (.int (h : Nat)), some (.str t), wv, kv] ∧ Same H H' ∧ ((rules.take i).findSome? fun x => (brk1 x.2 L h t).map fun k => (x.1, k)) = none)
    ⟨none, none, rfl, Same.refl _, rfl⟩ (fun i σ H' ⟨_, _, _, s1, _⟩ => SqL.of (s1 _ _ hl)) ?_ ?_
  · rintro i y σ H' hi ⟨wv, kv, rfl, s1, hn⟩
    rw [List.getElem?_map] at hi
    obtain ⟨x, hx⟩ : ∃ x, xs[i]? = some x := by
      cases e : xs[i]? with
      | none => rw [e] at hi; cases hi
      | some x => exact ⟨x, rfl⟩
    rw [hx] at hi
    cases hi
    obtain ⟨n, r, hr1, hn1, Wx⟩ := W.at_ i x hx
    have Wx' := Wx.put s1
    walk_at "go"
    refine w_two (sp := fun _ => spBroken A) Wx'.ob rfl (fun _ => inferInstance) (fun _ => inferInstance) fun one hone => ?_
    walk_at "go"
    refine ⟨D, x, r, L, h, t, rfl, Wx', ok _ (List.mem_of_getElem? hr1), ht, hL, fun hb H2 s2 => ?_, fun y k H2 hb hy s2 => ?_⟩
    · walk_at "go"
      refine ifF (by simp) ?_
      walk_at "go"
      exact ⟨_, _, rfl, s1.trans s2, findSome_next hn hr1 (by dsimp only; rw [hb]; rfl)⟩
    · walk_at "go"
      refine ifT (by simp) ?_
      walk_at "go"
      intro p hp
      exact q2 n y (brkAt_at hn hr1 hb) i x r k p _ hx hr1 hb hy ((s1.trans s2).new hp) upd_same
  · rintro σ H' ⟨wv, kv, rfl, s1, hn⟩
    walk_at "go"
    rw [List.length_map, W.len, List.take_length] at hn
    exact q1 hn H' s1
end

end U
namespace U
open PySem L2
/-! the steps that need no word -/
local macro_rules | `(tactic| walk_at "h") => `(tactic| focus ((repeat (first | assumption | exact upd_same | (apply at_ne; rotate_left; (first | assumption | exact Ne.symm (by assumption))) | (apply at_new; rotate_left; assumption))); done))
local macro_rules | `(tactic| walk_at "go") => `(tactic| repeat (with_reducible first
  | refine Go.by_ ?_
  | (apply w_at; (first | assumption | exact upd_same))
  | (apply w_sqT; (first | assumption | exact SqT.of (by assumption) | exact SqT.of upd_same))
  | (apply w_sqL; (first | assumption | exact SqL.of (by assumption) | exact SqL.of upd_same))
  | (apply w_sqLT1; (first | assumption | exact SqL.of (by assumption) | exact SqL.of upd_same))
  | (apply w_sqLT2; (first | assumption | exact SqT.of (by assumption) | exact SqT.of upd_same))
  | (apply w_at; walk_at "h")
  | (apply w_sqT; focus (apply SqT.of; walk_at "h"))
  | (apply w_sqL; focus (apply SqL.of; walk_at "h"))
  | (apply w_sqLT1; focus (apply SqL.of; walk_at "h"))
  | (apply w_sqLT2; focus (apply SqT.of; walk_at "h"))
  | (apply w_strT; decide)
  | (apply w_strF; decide)
  | (apply w_gTupH; (with_unfolding_all rfl))
  | (apply w_ixA; (first | assumption | with_unfolding_all rfl))))
local macro_rules | `(tactic| walk_at "k") => `(tactic| ((try dsimp only [cxOf, Cx.nox, List.map_cons, List.map_nil]); refine w_start ?_))
/-! ## Rows of deeds -/
theorem map_snoc {α β : Type} (f : α → β) (l : List α) (x : α) : (l ++ [x]).map f = l.map f ++ [f x] := by simp
theorem fm_step {L : List Ent} {i : Nat} {e : Ent} (f : Ent → Option Str) (h : L[i]? = some e) : ((L.take (i + 1)).filterMap f).map V.str = ((L.take i).filterMap f).map V.str ++ ((f e).toList).map V.str := by
  rw [take_one h, List.filterMap_append, List.map_append]
  congr 2
theorem fm_congr {α β : Type} {f g : α → Option β} : ∀ {l : List α}, (∀ x ∈ l, f x = g x) → l.filterMap f = l.filterMap g
  | [], _ => rfl
  | a :: l, h => by rw [List.filterMap_cons, List.filterMap_cons, h a List.mem_cons_self, fm_congr fun x hx => h x (List.mem_cons_of_mem _ hx)]
theorem fm_le (f : Ent → Option Str) (L : List Ent) (i : Nat) : (((L.take i).filterMap f).map V.str).length ≤ L.length := by
  rw [List.length_map]
  exact Nat.le_trans (List.length_filterMap_le _ _) (by rw [List.length_take]; omega)
def tieIx (L : List Ent) (j : Nat) : Option Nat := match L[j]? with
  | some (.tie _ _ _) => some j
  | _ => none
theorem begin_is (L : List Ent) : (List.range L.length).filterMap (tieIx L) = (tiesOf L).map (·.1) := by
  have key : ∀ (R P : List Ent), P ++ R = L → (List.range' P.length R.length).filterMap (tieIx L) = (tiesFrom P.length R).map (·.1) := by
    intro R
    induction R with
    | nil => intro P _; rfl
    | cons e r ih =>
      intro P hP
      rw [List.length_cons, List.range'_succ, List.filterMap_cons]
      have h2 := ih (P ++ [e]) (by rw [List.append_assoc]; exact hP)
      rw [List.length_append, List.length_singleton] at h2
      rw [h2]
      have he : L[P.length]? = some e := by rw [← hP, List.getElem?_append_right (Nat.le_refl _), Nat.sub_self]; rfl
      have ht : tieIx L P.length = (tieAt e P.length).map (·.1) := by
        unfold tieIx
        rw [he]
        cases e <;> rfl
      rw [ht]
      show _ = ((tieAt e P.length).toList ++ tiesFrom (P.length + 1) r).map (·.1)
      cases tieAt e P.length <;> simp
  have := key L [] rfl
  rw [List.range_eq_range']
  exact this
theorem w_cat1 {H H1 : Hp} {p : Addr} {xs : List V} {v : V} {Q : VK} (s1 : Same H H1) (e1 : H1 p = some (.lst xs)) (size : xs.length + [v].length ≤ sizeLine) (q : ∀ (p : Addr) (H' : Hp), Same H H' → H' p = some (.lst (xs ++ [v])) → Q (.ref p) H') :
    ∀ (b : Addr), H1 b = none → rCat (V.ref p) (V.ref b) (upd H1 b (HO.lst [v])) Q := fun b hb =>
  ⟨p, b, xs, [v], rfl, rfl, at_new e1 hb, upd_same, size, fun z hz => q z _ ((s1.new hb).new hz) upd_same⟩
section
variable {P : Program} {w : World} {K : PySem.W.Frag} {mg : Str → Option Value} {base : Heap} {A : Ad} (T : Tx K mg A)
include T
theorem ok_deeds_of : FnOk P w K mg base CX0 1 A.f_deeds_of A.d_deeds_of ["log", "handle"] spDeeds := by
  refine T.F_deeds_of.ok sc_deeds_of (fun vs H Q E h => ?_) (fun cdv A' outer s H vs Q E hr h => ?_)
  · obtain ⟨l, us, L, h, rfl, _⟩ := h
    rfl
  obtain ⟨l, us, L, h, rfl, hl, hE, hL, q⟩ := h
  refine ⟨_, (pss_one (ps_ret (pe_lc (own := [("entry", 2)]) (g := gName 2) rfl sc_deeds_of.nd (pi_list (pv 0)) (blkOk_by (own := [("entry", 2)]) (N := ["log", "handle", "entry"]) (sc := defScope st_deeds_of) (by decide +kernel)) (fun _ _ _ _ _ => pg_name (i := 2) sc_deeds_of.nd rfl (Or.inl rfl)) (fun _ _ _ _ _ => pts_one (PW.pt (pw_and (pt_cmpR op_eq (pe_callB (call_len_seqK (K := K) rfl) (by rfl) T.z_len PySem.boot_len (pa_cons (pv 2) pa_nil)) pe_int (nomark _)) (pw_and1 (pt_cmpR op_eq (pe_ix (ix_tupK (K := K) rfl) (pv 2) pe_int (fun _ _ => rfl)) (pv 1) (nomark _)))))) (fun _ _ _ _ _ => (pe_ix (ix_tupK (K := K) rfl) (pv 2) pe_int (fun _ _ => rfl)))))), ?_⟩
  walk_at "k"
  walk_at "go"
  refine w_lcL (xs := us) fun z hz => ⟨fun i H' => Same H H' ∧ H' z = some (.lst (((L.take i).filterMap (wordOf (.one h))).map V.str)), ⟨same_new hz, upd_same⟩, fun i H' ⟨s1, _⟩ => SqL.of (s1 _ _ hl), fun i x H' hi ⟨s1, e1⟩ => ?_, fun H' ⟨s1, e1⟩ => ?_⟩
  · obtain ⟨e, he, p, rfl, hp⟩ := hE.at_ i x hi
    have hp' := s1 _ _ hp
    have st := fm_step (wordOf (.one h)) he
    have size : (((L.take i).filterMap (wordOf (.one h))).map V.str).length < sizeLine := Nat.lt_of_le_of_lt (fm_le _ _ _) (Nat.lt_of_le_of_lt hL (by decide))
    cases e with
    | tie l' a b =>
      have hp2 : H' p = some (.tup [.int (l' : Nat), .int (a : Nat), .int (b : Nat)]) := hp'
      walk_at "go"
      refine ⟨rfl, ?_⟩
      walk_at "go"
      refine ifF (by simp) ?_
      walk_at "go"
      exact ⟨s1, by rw [st, e1]; simp [wordOf]⟩
    | deed l' h' t n =>
      have hp2 : H' p = some (.tup [.int (l' : Nat), .int (h' : Nat), .str t, .int n]) := hp'
      walk_at "go"
      refine ⟨rfl, ?_⟩
      walk_at "go"
      refine ifT (by simp) ?_
      walk_at "go"
      refine if_d (fun c => ?_) (fun c => ?_)
      · have c' : h' = h := by omega
        walk_at "go"
        refine ⟨_, e1, size, s1.put (show H z = none from hz), ?_⟩
        rw [st, upd_same]
        simp [wordOf, c']
      · have c' : ¬ h' = h := by omega
        exact ⟨s1, by rw [st, e1]; simp [wordOf, c']⟩
  · refine q z H' s1 ?_
    rw [List.take_of_length_le (by rw [hE.len]; exact Nat.le_refl _)] at e1
    exact e1
theorem ok_deeds_of_tie : FnOk P w K mg base CX0 1 A.f_deeds_of_tie A.d_deeds_of_tie ["log", "many"] spDeedsT := by
  refine T.F_deeds_of_tie.ok sc_deeds_of_tie (fun vs H Q E h => ?_) (fun cdv A' outer s H vs Q E hr h => ?_)
  · obtain ⟨l, us, L, k, i, a, b, rfl, _⟩ := h
    rfl
  obtain ⟨l, us, L, k, i, a, b, rfl, hl, hE, hL, hw, ht, hab, q⟩ := h
  obtain ⟨hi, tl, htl⟩ := tiesOf_at (List.mem_of_getElem? ht)
  refine ⟨_, (pss_cons (ps_set (i := 2) sc_deeds_of_tie.nd rfl (Or.inl rfl) (pe_ix ix_list (pe_lc (own := [("at", 7)]) (g := gName 7) rfl sc_deeds_of_tie.nd (pi_range1 rfl T.z_range (pa_cons (pe_callB call_len_seq (by rfl) T.z_len PySem.boot_len (pa_cons (pv 0) pa_nil)) pa_nil)) (blkOk_by (own := [("at", 7)]) (N := ["log", "many", "begin", "one", "other", "row", "entry", "at"]) (sc := defScope st_deeds_of_tie) (by decide +kernel)) (fun _ _ _ _ _ => pg_name (i := 7) sc_deeds_of_tie.nd rfl (Or.inl rfl)) (fun _ _ _ _ _ => pts_one (pt_cmpR op_eq (pe_callB (call_len_seqK (K := K) rfl) (by rfl) T.z_len PySem.boot_len (pa_cons (pe_ix (ix_listK (K := K) rfl) (pv 0) (pv 7) (fun _ _ => rfl)) pa_nil)) pe_int (nomark _))) (fun _ _ _ _ _ => (pv 7))) (pv 1) (fun _ _ => rfl)))
    (pss_cons (ps_set (i := 3) sc_deeds_of_tie.nd rfl (Or.inl rfl) (pe_ix ix_tup (pe_ix ix_list (pv 0) (pv 2) (fun _ _ => rfl)) pe_int (fun _ _ => rfl)))
    (pss_cons (ps_set (i := 4) sc_deeds_of_tie.nd rfl (Or.inl rfl) (pe_ix ix_tup (pe_ix ix_list (pv 0) (pv 2) (fun _ _ => rfl)) pe_int (fun _ _ => rfl)))
    (pss_cons (ps_set (i := 5) sc_deeds_of_tie.nd rfl (Or.inl rfl) (pe_lst pa_nil))
    (pss_cons (ps_for PassesOwn.never rfl (pi_list (pe_slice sl_list (pv 0) (po_some (pe_op op_add (pv 2) pe_int)) po_none)) (pg_name (i := 6) sc_deeds_of_tie.nd rfl (Or.inl rfl)) (pss_one (ps_if (PW.pt (pw_and (pt_cmpR op_eq (pe_callB call_len_seq (by rfl) T.z_len PySem.boot_len (pa_cons (pv 6) pa_nil)) pe_int (nomark _)) (pw_and1 (pt_cmpR op_eq (pe_ix ix_tup (pv 6) pe_int (fun _ _ => rfl)) (pv 3) (nomark _))))) (pss_one (ps_expr (pe_bm PySem.F.plainAttrs_list PySem.F.slot_list_append PySem.F.type_list_append mt_append (pv 5) (pa_cons (pe_op op_add_str pe_str (pe_ix ix_tup (pv 6) pe_int (fun _ _ => rfl))) pa_nil)))) (pss_one (ps_if (PW.pt (pw_and (pt_cmpR op_eq (pe_callB call_len_seq (by rfl) T.z_len PySem.boot_len (pa_cons (pv 6) pa_nil)) pe_int (nomark _)) (pw_and1 (pt_cmpR op_eq (pe_ix ix_tup (pv 6) pe_int (fun _ _ => rfl)) (pv 4) (nomark _))))) (pss_one (ps_expr (pe_bm PySem.F.plainAttrs_list PySem.F.slot_list_append PySem.F.type_list_append mt_append (pv 5) (pa_cons (pe_op op_add_str pe_str (pe_ix ix_tup (pv 6) pe_int (fun _ _ => rfl))) pa_nil)))) pss_nil)))))
    (pss_one (ps_ret (pv 5)))))))), ?_⟩
  walk_at "k"
  walk_at "go"
  refine w_rngI (n := us.length) (by rw [hE.len]; omega) ?_
  refine w_lcN (n := us.length) fun z hz => ⟨fun i H' => Same H H' ∧ H' z = some (.lst (((List.range i).filterMap (tieIx L)).map fun (j : Nat) => V.int (j : Nat))), ⟨same_new hz, upd_same⟩, fun j H' hj ⟨s1, e1⟩ => ?_, fun H1 ⟨s1, e1⟩ => ?_⟩
  · obtain ⟨e, he⟩ : ∃ e, L[j]? = some e := ⟨L[j]'(by rw [← hE.len]; exact hj), List.getElem?_eq_getElem _⟩
    obtain ⟨v, hv, p, rfl, hp⟩ := hE.get he
    have hv' : atI us (j : Int) = some (.ref p) := atI_nat hv
    have hl' := s1 _ _ hl
    have hp' := s1 _ _ hp
    have rs : List.range (j + 1) = List.range j ++ [j] := List.range_succ
    have size : (((List.range j).filterMap (tieIx L)).map fun (j : Nat) => V.int (j : Nat)).length < sizeLine := by
      rw [List.length_map]
      have h1 := List.length_filterMap_le (tieIx L) (List.range j)
      rw [List.length_range] at h1
      rw [hE.len] at hj
      exact Nat.lt_of_le_of_lt (show _ ≤ 4000 by omega) (by decide)
    cases e with
    | tie l' a' b' =>
      have hp2 : H' p = some (.tup [.int (l' : Nat), .int (a' : Nat), .int (b' : Nat)]) := hp'
      walk_at "go"
      refine ⟨rfl, ?_⟩
      walk_at "go"
      refine ifT (by simp) ?_
      walk_at "go"
      refine ⟨_, e1, size, s1.put (show H z = none from hz), ?_⟩
      rw [rs, upd_same, List.filterMap_append, List.map_append]
      have : tieIx L j = some j := by unfold tieIx; rw [he]
      simp [this]
    | deed l' h' t' n' =>
      have hp2 : H' p = some (.tup [.int (l' : Nat), .int (h' : Nat), .str t', .int n']) := hp'
      walk_at "go"
      refine ⟨rfl, ?_⟩
      walk_at "go"
      refine ifF (by simp) ?_
      refine ⟨s1, ?_⟩
      rw [e1, rs, List.filterMap_append, List.map_append]
      have : tieIx L j = none := by unfold tieIx; rw [he]
      simp [this]
  · rw [hE.len, begin_is L] at e1
    have e2 : atI (((tiesOf L).map (·.1)).map fun (j : Nat) => V.int (j : Nat)) (k : Int) = some (.int (i : Nat)) := atI_nat (by rw [List.getElem?_map, List.getElem?_map, ht]; rfl)
    obtain ⟨v, hv, p, rfl, hp⟩ := hE.get htl
    have hv' : atI us (i : Int) = some (.ref p) := atI_nat hv
    have hl1 := s1 _ _ hl
    have hp1 : H1 p = some (.tup [.int (tl : Nat), .int (a : Nat), .int (b : Nat)]) := s1 _ _ hp
    walk_at "go"
    intro lr hlr
    have hl2 := at_new (u := .lst []) hl1 hlr
    walk_at "go"
    intro ls hls
    have ecut : cutV us (some ((i : Int) + 1)) none = us.drop (i + 1) := cutV_drop (k := i + 1) (by rw [hE.len]; omega)
    rw [ecut]
    have s2 : Same H (upd (upd H1 lr (.lst [])) ls (.lst (us.drop (i + 1)))) := (s1.new hlr).new hls
    have hlr0 : H lr = none := s1.free hlr
    have eR := (hE.same s2).drop (i + 1)
    walk_at "go"
    refine w_forL (xs := us.drop (i + 1)) (fun j σ H' => ∃ ev : Option V, σ = [some (.ref l), some (.int (k : Nat)), some (.int (i : Nat)), some (.int (a : Nat)), some (.int (b : Nat)), some (.ref lr), ev, none] ∧ Same H H' ∧ H' ls = some (.lst (us.drop (i + 1))) ∧
        H' lr = some (.lst ((((L.drop (i + 1)).take j).filterMap (wordOf (.two i a b))).map V.str)))
      ⟨none, rfl, s2, upd_same, at_new upd_same hls⟩ (fun j σ H' ⟨_, _, _, e3, _⟩ => SqL.of e3) ?_ ?_
    · rintro j y σ H' hj ⟨ev, rfl, s3, e3, e4⟩
      obtain ⟨e, he, p', rfl, hp'⟩ := (hE.drop (i + 1)).at_ j y hj
      have hp2 := s3 _ _ hp'
      have st := fm_step (wordOf (.two i a b)) he
      have nlr : ls ≠ lr := fun z => by rw [z] at hls; rw [upd_same] at hls; cases hls
      have size : ((((L.drop (i + 1)).take j).filterMap (wordOf (.two i a b))).map V.str).length < sizeLine :=
        Nat.lt_of_le_of_lt (Nat.le_trans (fm_le _ _ _) (by rw [List.length_drop]; omega)) (Nat.lt_of_le_of_lt hL (by decide))
      cases e with
      | tie l' a' b' =>
        have hp3 : H' p' = some (.tup [.int (l' : Nat), .int (a' : Nat), .int (b' : Nat)]) := hp2
        walk_at "go"
        refine ifF (by simp) ?_
        walk_at "go"
        refine ifF (by simp) ?_
        walk_at "go"
        exact ⟨_, rfl, s3, e3, by rw [st, e4]; simp [wordOf]⟩
      | deed l' h' t' n' =>
        have hp3 : H' p' = some (.tup [.int (l' : Nat), .int (h' : Nat), .str t', .int n']) := hp2
        have hw' : t'.length ≤ 100 := hw _ _ _ _ (List.mem_of_mem_drop (List.mem_of_getElem? he))
        walk_at "go"
        refine ifT (by simp) ?_
        walk_at "go"
        refine if_d (fun c => ?_) (fun c => ?_)
        · have c' : h' = a := by omega
          walk_at "go"
          refine ⟨_, _, rfl, rfl, Nat.le_trans (show oneS.length + t'.length ≤ 1000 by rw [one_len]; omega) (by decide), ?_⟩
          walk_at "go"
          refine w_app e4 size ?_
          walk_at "go"
          refine ⟨_, rfl, s3.put (show H lr = none from hlr0), at_ne e3 nlr, ?_⟩
          rw [st, upd_same]
          simp [wordOf, sideW, c']
        · have c' : ¬ h' = a := by omega
          walk_at "go"
          refine ifT (by simp) ?_
          walk_at "go"
          refine if_d (fun c2 => ?_) (fun c2 => ?_)
          · have c2' : h' = b := by omega
            walk_at "go"
            refine ⟨_, _, rfl, rfl, Nat.le_trans (show twoS.length + t'.length ≤ 1000 by rw [two_len]; omega) (by decide), ?_⟩
            walk_at "go"
            refine w_app e4 size ?_
            walk_at "go"
            refine ⟨_, rfl, s3.put (show H lr = none from hlr0), at_ne e3 nlr, ?_⟩
            rw [st, upd_same]
            simp [wordOf, sideW, c2', Ne.symm hab]
          · have c2' : ¬ h' = b := by omega
            walk_at "go"
            exact ⟨_, rfl, s3, e3, by rw [st, e4]; simp [wordOf, sideW, c', c2']⟩
    · rintro σ H' ⟨ev, rfl, s3, e3, e4⟩
      walk_at "go"
      refine q lr H' s3 ?_
      rw [List.take_of_length_le (by rw [List.length_drop, List.length_drop, hE.len]; exact Nat.le_refl _)] at e4
      have er : rowOf L (.two i a b) = (L.drop (i + 1)).filterMap (wordOf (.two i a b)) := by
        unfold rowOf
        show (L.drop i).filterMap _ = _
        rw [List.drop_eq_getElem_cons hi]
        have : L[i] = .tie tl a b := (List.getElem?_eq_some_iff.mp htl).2
        rw [this, List.filterMap_cons, wordOf_new]
      rw [er]
      exact e4
theorem ok_row_broken : FnOk P w K mg base CX0 2 A.f_row_broken A.d_row_broken ["log", "watch", "key", "handle", "word"] (spRowB A) := by
  refine T.F_row_broken.ok sc_row_broken (fun vs H Q E h => ?_) (fun cdv A' outer s H vs Q E hr h => ?_)
  · obtain ⟨D, l, us, x, r, L, k, h, t, t', y, rfl, _⟩ := h
    rfl
  have G_Watch_handles_of := ok_Watch_handles_of (P := P) (w := w) (base := base) T
  have G_TieWatch_handles_of := ok_TieWatch_handles_of (P := P) (w := w) (base := base) T
  have G_deeds_of := ok_deeds_of (P := P) (w := w) (base := base) T
  have G_deeds_of_tie := ok_deeds_of_tie (P := P) (w := w) (base := base) T
  obtain ⟨D, l, us, x, r, L, k, h, t, t', y, rfl, hl, hE, hL, hw, hab, ht, W, hy, hwd, q⟩ := h
  have ob := W.ob
  obtain ⟨lw, lr, rv, h1, h2, h3, h4⟩ := W.rule.same W.same
  have rl := rowOf L y
  refine ⟨_, (pss_cons (ps_if (pt_cmpR op_eq (pe_ix ix_tup (pe_fld (pv 1) rfl) pe_int (fun _ _ => rfl)) pe_int (nomark _)) (pss_one (ps_ret (pe_op op_cat (pe_call G_deeds_of (hr.mono (by decide)) rfl T.m_deeds_of T.F_deeds_of.kp T.b_deeds_of .nil pass0 (pa_cons (pv 0) (pa_cons (pv 3) pa_nil))) (pe_lst (pa_cons (pv 4) pa_nil))))) pss_nil)
    (pss_cons (ps_if (pt_cmpR op_eq (pe_ix ix_list (pe_or2 (pe_meth (pv 1) T.c_Watch T.e_Watch_handles_of G_Watch_handles_of (hr.mono (by decide)) T.b_Watch_handles_of .nil pass0 (pa_cons (pv 2) pa_nil)) (pe_meth (pv 1) T.c_TieWatch T.e_TieWatch_handles_of G_TieWatch_handles_of (hr.mono (by decide)) T.b_TieWatch_handles_of .nil pass0 (pa_cons (pv 2) pa_nil))) pe_int (fun _ _ => rfl)) (pv 3) (nomark _)) (pss_one (ps_ret (pe_op op_cat (pe_call G_deeds_of_tie (hr.mono (by decide)) rfl T.m_deeds_of_tie T.F_deeds_of_tie.kp T.b_deeds_of_tie .nil pass0 (pa_cons (pv 0) (pa_cons (pv 2) pa_nil))) (pe_lst (pa_cons (pe_op op_add_str pe_str (pv 4)) pa_nil))))) pss_nil)
    (pss_one (ps_ret (pe_op op_cat (pe_call G_deeds_of_tie (hr.mono (by decide)) rfl T.m_deeds_of_tie T.F_deeds_of_tie.kp T.b_deeds_of_tie .nil pass0 (pa_cons (pv 0) (pa_cons (pv 2) pa_nil))) (pe_lst (pa_cons (pe_op op_add_str pe_str (pv 4)) pa_nil))))))), ?_⟩
  walk_at "k"
  walk_at "go"
  have small : ∀ (k : Ky), (((rowOf L k).map V.str).length + [V.str t'].length) ≤ sizeLine := fun k => by
    have h1 := List.length_filterMap_le (wordOf k) (L.drop k.start)
    rw [List.length_drop] at h1
    rw [List.length_map]
    exact Nat.le_trans (show (rowOf L k).length + 1 ≤ 4001 by unfold rowOf; omega) (by decide)
  refine if_d (fun c => ?_) (fun c => ?_)
  · have c' : r.sides = 1 := by omega
    unfold keyAt at hy
    rw [if_pos c'] at hy
    cases hy
    have hk : h = k ∧ t = t' := by
      simp only [wordOf] at hwd
      by_cases e : h = k
      · rw [if_pos e] at hwd; exact ⟨e, by injection hwd⟩
      · rw [if_neg e] at hwd; cases hwd
    obtain ⟨rfl, rfl⟩ := hk
    walk_at "go"
    refine ⟨l, us, L, h, rfl, hl, hE, hL, fun p H1 s1 e1 => ?_⟩
    walk_at "go"
    refine w_cat1 s1 e1 (small _) fun p H' s e => q p H' s ?_
    rw [e, List.map_append]; rfl
  · have c' : r.sides ≠ 1 := by omega
    obtain ⟨i, a, b, ht2, rfl⟩ : ∃ i a b, (tiesOf L)[k]? = some (i, a, b) ∧ y = .two i a b := by
      unfold keyAt at hy
      rw [if_neg c'] at hy
      cases e : (tiesOf L)[k]? with
      | none => rw [e] at hy; cases hy
      | some z => rw [e] at hy; cases hy; exact ⟨_, _, _, rfl, rfl⟩
    have nab : a ≠ b := by
      obtain ⟨_, tl, htl⟩ := tiesOf_at (List.mem_of_getElem? ht2)
      exact hab _ _ _ (List.mem_of_getElem? htl)
    walk_at "go"
    refine w_two (sp := fun one => spHandles A one) ob rfl (fun _ => inferInstance) (fun _ => inferInstance) fun one hone => ?_
    walk_at "go"
    refine ⟨D, x, r, L, k, _, rfl, W, hone, hy, fun lh H1 s1 e1 => ?_⟩
    walk_at "go"
    refine if_d (fun c2 => ?_) (fun c2 => ?_)
    · have c2' : h = a := by omega
      walk_at "go"
      refine ⟨l, us, L, k, i, a, b, rfl, s1 _ _ hl, hE.same s1, hL, hw, ht2, nab, fun p H2 s2 e2 => ?_⟩
      have et : t' = oneS ++ t := by
        simp only [wordOf, sideW, c2', if_true] at hwd
        injection hwd with z
        exact z.symm
      walk_at "go"
      refine ⟨_, _, rfl, rfl, Nat.le_trans (show oneS.length + t.length ≤ 1000 by rw [one_len]; omega) (by decide), ?_⟩
      walk_at "go"
      refine w_cat1 (s1.trans s2) e2 (small _) fun p H' s e => q p H' s ?_
      rw [e, et, List.map_append]; rfl
    · have c2' : ¬ h = a := by omega
      walk_at "go"
      refine ⟨l, us, L, k, i, a, b, rfl, s1 _ _ hl, hE.same s1, hL, hw, ht2, nab, fun p H2 s2 e2 => ?_⟩
      have et : t' = twoS ++ t := by
        by_cases z : h = b
        · simp only [wordOf, sideW, if_neg c2', if_pos z] at hwd
          injection hwd with z
          exact z.symm
        · simp only [wordOf, sideW, if_neg c2', if_neg z] at hwd
          cases hwd
      walk_at "go"
      refine ⟨_, _, rfl, rfl, Nat.le_trans (show twoS.length + t.length ≤ 1000 by rw [two_len]; omega) (by decide), ?_⟩
      walk_at "go"
      refine w_cat1 (s1.trans s2) e2 (small _) fun p H' s e => q p H' s ?_
      rw [e, et, List.map_append]; rfl
end

end U
namespace U
open PySem L2
/-! the steps that need no word -/
local macro_rules | `(tactic| walk_at "h") => `(tactic| focus ((repeat (first | assumption | exact upd_same | (apply at_ne; rotate_left; (first | assumption | exact Ne.symm (by assumption))) | (apply at_new; rotate_left; assumption))); done))
local macro_rules | `(tactic| walk_at "go") => `(tactic| repeat (with_reducible first
  | refine Go.by_ ?_
  | (apply w_at; (first | assumption | exact upd_same))
  | (apply w_sqT; (first | assumption | exact SqT.of (by assumption) | exact SqT.of upd_same))
  | (apply w_sqL; (first | assumption | exact SqL.of (by assumption) | exact SqL.of upd_same))
  | (apply w_sqLT1; (first | assumption | exact SqL.of (by assumption) | exact SqL.of upd_same))
  | (apply w_sqLT2; (first | assumption | exact SqT.of (by assumption) | exact SqT.of upd_same))
  | (apply w_at; walk_at "h")
  | (apply w_sqT; focus (apply SqT.of; walk_at "h"))
  | (apply w_sqL; focus (apply SqL.of; walk_at "h"))
  | (apply w_sqLT1; focus (apply SqL.of; walk_at "h"))
  | (apply w_sqLT2; focus (apply SqT.of; walk_at "h"))
  | (apply w_strT; decide)
  | (apply w_strF; decide)
  | (apply w_gTupH; (with_unfolding_all rfl))
  | (apply w_ixA; (first | assumption | with_unfolding_all rfl))))
local macro_rules | `(tactic| walk_at "k") => `(tactic| ((try dsimp only [cxOf, Cx.nox, List.map_cons, List.map_nil]); refine w_start ?_))
/-! ## The machine -/
structure Mc where
  p : Addr
  dx : Addr
  cd : Addr
  inp : Addr
  sl : Addr
  lg : Addr
def Mc.addrs (x : Mc) : List Addr := [x.p, x.sl, x.lg]
def Row.key : Row → Key
  | .opn _ s => .inl (s : Int)
  | .cpy _ s _ => .inl (s : Int)
  | .drp _ s => .inl (s : Int)
  | _ => .inl 0
/-- a dict of slots -/
structure SlotsAre (code : List Row) (kvs : List (Key × V)) (f : Nat → Option Nat) : Prop where
  val : ∀ k : Nat, (valV kvs (.inl (k : Int))).getD .non = optV (f k)
  nd : (kvs.map (·.1)).Nodup
  keys : ∀ k ∈ kvs.map (·.1), k ∈ code.map Row.key
theorem nodup_sub {α : Type} [DecidableEq α] : ∀ {xs ys : List α}, xs.Nodup → (∀ x ∈ xs, x ∈ ys) → xs.length ≤ ys.length
  | [], ys, _, _ => Nat.zero_le ys.length
  | x :: xs, ys, nd, h => by
    have hx : x ∈ ys := h x List.mem_cons_self
    have nd2 := List.nodup_cons.mp nd
    have := nodup_sub (xs := xs) (ys := ys.erase x) nd2.2 fun y hy => (List.mem_erase_of_ne fun z => nd2.1 (by rw [← z]; exact hy)).mpr (h y (List.mem_cons_of_mem _ hy))
    rw [List.length_erase_of_mem hx] at this
    have : 0 < ys.length := List.length_pos_of_mem hx
    rw [List.length_cons]
    omega
theorem SlotsAre.len {code : List Row} {kvs : List (Key × V)} {f : Nat → Option Nat} (h : SlotsAre code kvs f) : kvs.length ≤ code.length := by
  have := nodup_sub h.nd h.keys
  rwa [List.length_map, List.length_map] at this
theorem keys_put (kvs : List (Key × V)) (k : Key) (v : V) : (putK kvs k v).map (·.1) = kvs.map (·.1) ∨ (¬ k ∈ kvs.map (·.1) ∧ (putK kvs k v).map (·.1) = kvs.map (·.1) ++ [k]) := by
  unfold putK
  by_cases h : (kvs.any fun kv => decide (kv.1 = k)) = true
  · rw [if_pos h, List.map_map]
    refine .inl (List.map_congr_left fun x _ => ?_)
    show (if x.1 = k then (x.1, v) else x).1 = x.1
    split <;> rfl
  · rw [if_neg h, List.map_append]
    refine .inr ⟨fun m => h ?_, rfl⟩
    obtain ⟨x, hx, e⟩ := List.mem_map.mp m
    exact List.any_eq_true.mpr ⟨x, hx, decide_eq_true e⟩
theorem SlotsAre.put {code : List Row} {kvs : List (Key × V)} {f : Nat → Option Nat} (h : SlotsAre code kvs f) {s : Nat} {o : Option Nat} (m : (.inl (s : Int) : Key) ∈ code.map Row.key) : SlotsAre code (putK kvs (.inl (s : Int)) (optV o)) (setF f s o) := by
  refine ⟨fun k => ?_, ?_, ?_⟩
  · rw [valV_put]
    by_cases e : k = s
    · subst e; rw [if_pos rfl, setF_same]; rfl
    · rw [if_neg (by simpa using fun q : (k : Int) = s => e (by omega)), setF_ne _ _ e]; exact h.val k
  · rcases keys_put kvs (.inl (s : Int)) (optV o) with e | ⟨n, e⟩
    · rw [e]; exact h.nd
    · rw [e]
      exact List.nodup_append.mpr ⟨h.nd, List.nodup_cons.mpr ⟨List.not_mem_nil, List.nodup_nil⟩, fun a ha b hb z => n (by rw [← List.mem_singleton.mp hb, ← z]; exact ha)⟩
  · rcases keys_put kvs (.inl (s : Int)) (optV o) with e | ⟨n, e⟩
    · rw [e]; exact h.keys
    · rw [e]
      intro k hk
      rcases mem_a hk with hk | hk
      · exact h.keys k hk
      · rw [List.mem_singleton.mp hk]; exact m
structure MachAt (A : Ad) (D H : Hp) (x : Mc) (code : List Row) (inputs : List Int) (m : MC) (L : List Ent) : Prop where
  ob : ∃ u : Nat, H x.p = some (.ins A.a_Machine x.dx (mF ⟨x.cd, x.inp, (u : Nat), m.num, (m.pc : Nat), x.sl, (m.many : Nat), (m.ended : Nat), x.lg⟩)) ∧ m.rest = inputs.drop u ∧ u ≤ inputs.length
  slots : ∃ kvs, H x.sl = some (.dK kvs) ∧ SlotsAre code kvs m.slots
  same : Same D H
  out : ∀ b ∈ x.addrs, D b = none
  nd : x.addrs.Nodup
  rows : ∃ us, D x.cd = some (.lst us) ∧ RowsAt D code us
  short : code.length ≤ 1000
  inp : D x.inp = some (.lst (inputs.map V.int))
  log : ∃ us, H x.lg = some (.lst us) ∧ EntsAt H L us
theorem MachAt.keep {A : Ad} {D H H' : Hp} {x : Mc} {code : List Row} {inputs : List Int} {m : MC} {L : List Ent} (h : MachAt A D H x code inputs m L) (sd : Same D H') (s : ∀ b o, H b = some o → (b ∈ x.addrs ∨ ∃ xs, o = .tup xs) → H' b = some o) : MachAt A D H' x code inputs m L := by
  obtain ⟨⟨u, h1, h2⟩, ⟨kvs, h3, h4⟩, h5, h6, h7, h8, h9, h10, us, h11, h12⟩ := h
  refine ⟨⟨u, s _ _ h1 (.inl (by simp [Mc.addrs])), h2⟩, ⟨kvs, s _ _ h3 (.inl (by simp [Mc.addrs])), h4⟩, sd, h6, h7, h8, h9, h10, us, s _ _ h11 (.inl (by simp [Mc.addrs])), h12.mono fun e v p => ?_⟩
  obtain ⟨q, e1, e2⟩ := p
  exact ⟨q, e1, s _ _ e2 (.inr ⟨_, rfl⟩)⟩
theorem MachAt.put {A : Ad} {D H H' : Hp} {x : Mc} {code : List Row} {inputs : List Int} {m : MC} {L : List Ent} (h : MachAt A D H x code inputs m L) (s : Same H H') : MachAt A D H' x code inputs m L := h.keep (h.same.trans s) fun b o e _ => s b o e
/-- what is seen, as a tuple -/
def evV (pc : Nat) : Ev → List V
  | .deed l h w => [.int (pc : Nat), .str "deed", .int (l : Nat), .int (h : Nat), .str w]
  | .tie l a b => [.int (pc : Nat), .str "tie", .int (l : Nat), .int (a : Nat), .int (b : Nat)]
/-- m' is reached from m by going over n rows -/
inductive Near (code : List Row) : Nat → MC → MC → Prop
  | here {m : MC} : Near code 0 m m
  | over {n : Nat} {m m' : MC} {r : Row} (h : code[m.pc]? = some r) (hs : seen m r = none) (hf : r.isFin = false) (k : Near code n (goOver m r) m') : Near code (n + 1) m m'
theorem Runs.near {code : List Row} {m : MC} {es : List Ent} (h : Runs code m es) : ∃ n m' r, Near code n m m' ∧ code[m'.pc]? = some r ∧ ((seen m' r = none ∧ r.isFin = true ∧ es = []) ∨ ∃ ev es', seen m' r = some ev ∧ es = ev.ent m'.num :: es' ∧ Runs code (doing m' r) es') := by
  induction h with
  | stop h hs hf => exact ⟨0, _, _, .here, h, .inl ⟨hs, hf, rfl⟩⟩
  | over h hs hf k ih =>
    obtain ⟨n, m', r', a, b, c⟩ := ih
    exact ⟨n + 1, m', r', .over h hs hf a, b, c⟩
  | does h hs k => exact ⟨0, _, _, .here, h, .inr ⟨_, _, hs, rfl, k⟩⟩
def spMInit (A : Ad) : Sp := fun vs H Q _ => ∃ (p dx c i : Addr) (us ws : List V), vs = [.ref p, .ref c, .ref i] ∧ H p = some (.ins A.a_Machine dx []) ∧ H c = some (.lst us) ∧ H i = some (.lst ws) ∧
  ∀ (cd inp sl lg : Addr) (H' : Hp), Same (minus H [p]) H' → H' p = some (.ins A.a_Machine dx (mF ⟨cd, inp, 0, 0, 0, sl, 0, 0, lg⟩)) → H cd = none → H inp = none → H sl = none → H lg = none → sl ≠ lg → sl ≠ cd → sl ≠ inp → lg ≠ cd → lg ≠ inp →
    H' cd = some (.lst us) → H' inp = some (.lst ws) → H' sl = some (.dK []) → H' lg = some (.lst []) → Q .non H'
def spSeen (A : Ad) : Sp := fun vs H Q _ => ∃ (D : Hp) (x : Mc) (rp : Addr) (code : List Row) (inputs : List Int) (m : MC) (L : List Ent) (r : Row), vs = [.ref x.p, .ref rp] ∧ MachAt A D H x code inputs m L ∧ H rp = some (.tup (rowV r)) ∧
  (seen m r = none → ∀ H', Same H H' → Q .non H') ∧ (∀ ev, seen m r = some ev → ∀ (t : Addr) (H' : Hp), Same H H' → H' t = some (.tup (evV m.pc ev)) → Q (.ref t) H')
def spGoesOn (A : Ad) : Sp := fun vs H Q _ => ∃ (D : Hp) (x : Mc) (code : List Row) (inputs : List Int) (m : MC) (L : List Ent) (n : Int), vs = [.ref x.p, .int n] ∧ MachAt A D H x code inputs m L ∧
  (m.rest = [] → ∀ H', Same H H' → Q (.bl false) H') ∧ (∀ i r, m.rest = i :: r → ∀ H', Same (minus H [x.p]) H' → MachAt A D H' x code inputs { m with num := i, rest := r } L → Q (.bl (decide (n < i))) H')
def spGoOver (A : Ad) : Sp := fun vs H Q _ => ∃ (D : Hp) (x : Mc) (rp : Addr) (code : List Row) (inputs : List Int) (m : MC) (L : List Ent) (r : Row), vs = [.ref x.p, .ref rp] ∧ MachAt A D H x code inputs m L ∧ H rp = some (.tup (rowV r)) ∧ r ∈ code ∧
  ∀ (H' : Hp), Same (minus H [x.p, x.sl]) H' → MachAt A D H' x code inputs (goOver m r) L → Q .non H'
def spComing (A : Ad) : Sp := fun vs H Q _ => ∃ (D : Hp) (x : Mc) (code : List Row) (inputs : List Int) (m m' : MC) (L : List Ent) (r : Row) (n : Nat), vs = [.ref x.p] ∧ MachAt A D H x code inputs m L ∧ Near code n m m' ∧ code[m'.pc]? = some r ∧ (seen m' r = none → r.isFin = true) ∧
  ∀ (H' : Hp), Same (minus H [x.p, x.sl]) H' → MachAt A D H' x code inputs m' L → (seen m' r = none → Q .non H') ∧ (∀ ev, seen m' r = some ev → ∀ (t : Addr), H' t = some (.tup (evV m'.pc ev)) → Q (.ref t) H')
def spMDone (A : Ad) : Sp := fun vs H Q _ => ∃ (D : Hp) (x : Mc) (code : List Row) (inputs : List Int) (m : MC) (L : List Ent) (r : Row) (ev : Ev), vs = [.ref x.p] ∧ MachAt A D H x code inputs m L ∧ L.length ≤ 4000 ∧ code[m.pc]? = some r ∧ seen m r = some ev ∧
  ∀ (H' : Hp), Same (minus H x.addrs) H' → MachAt A D H' x code inputs (doing m r) (L ++ [ev.ent m.num]) → Q .non H'
theorem drop_cons {α : Type} {l : List α} {u : Nat} {i : α} {r : List α} (h : i :: r = l.drop u) : l[u]? = some i ∧ r = l.drop (u + 1) ∧ u < l.length := by
  have hu : u < l.length := by
    have := congrArg (·.length) h
    rw [List.length_cons, List.length_drop] at this
    omega
  rw [List.drop_eq_getElem_cons hu] at h
  injection h with a b
  exact ⟨by rw [List.getElem?_eq_getElem hu, a], b, hu⟩
theorem _root_.L2.Same.less {H H' : Hp} {S S' : List Addr} (s : Same (minus H S) H') (h : ∀ b ∈ S, b ∈ S') : Same (minus H S') H' := fun b o e => by
  by_cases hb : b ∈ S'
  · rw [minus_at hb] at e; cases e
  · rw [minus_ne hb] at e
    exact s b o (by rw [minus_ne fun z => hb (h b z)]; exact e)
theorem _root_.L2.Same.then {H H1 H2 : Hp} {S : List Addr} (s : Same (minus H S) H1) (t : Same (minus H1 S) H2) : Same (minus H S) H2 := fun b o e => by
  by_cases hb : b ∈ S
  · rw [minus_at hb] at e; cases e
  · exact t b o (by rw [minus_ne hb]; exact s b o e)
theorem _root_.L2.Same.at_ {H H' : Hp} {S : List Addr} (s : Same (minus H S) H') {b : Addr} {o : HO} (e : H b = some o) (hb : ¬ b ∈ S) : H' b = some o := s b o (by rw [minus_ne hb]; exact e)
theorem _root_.L2.Same.only {H : Hp} {S : List Addr} : Same (minus H S) H := minus_le H S
theorem MachAt.hold {A : Ad} {D H H' : Hp} {x : Mc} {code : List Row} {inputs : List Int} {m m' : MC} {L L' : List Ent} (h : MachAt A D H x code inputs m L) (s : Same (minus H x.addrs) H') {u : Nat}
    (e : H' x.p = some (.ins A.a_Machine x.dx (mF ⟨x.cd, x.inp, (u : Nat), m'.num, (m'.pc : Nat), x.sl, (m'.many : Nat), (m'.ended : Nat), x.lg⟩))) (hr : m'.rest = inputs.drop u) (hu : u ≤ inputs.length) (hs : ∃ kvs, H' x.sl = some (.dK kvs) ∧ SlotsAre code kvs m'.slots)
    (hl : ∃ us, H' x.lg = some (.lst us) ∧ EntsAt H' L' us) : MachAt A D H' x code inputs m' L' :=
  ⟨⟨u, e, hr, hu⟩, hs, (h.same.minus h.out).trans s, h.out, h.nd, h.rows, h.short, h.inp, hl⟩
theorem MachAt.pnsl {A : Ad} {D H : Hp} {x : Mc} {code : List Row} {inputs : List Int} {m : MC} {L : List Ent} (h : MachAt A D H x code inputs m L) : x.p ≠ x.sl ∧ x.p ≠ x.lg ∧ x.sl ≠ x.lg := by
  have := h.nd
  simp [Mc.addrs] at this
  exact ⟨this.1.1, this.1.2, this.2⟩
/-- the log stands still -/
theorem MachAt.logs {A : Ad} {D H H' : Hp} {x : Mc} {code : List Row} {inputs : List Int} {m : MC} {L : List Ent} (h : MachAt A D H x code inputs m L) (s : Same (minus H [x.p, x.sl]) H') : ∃ us, H' x.lg = some (.lst us) ∧ EntsAt H' L us := by
  obtain ⟨us, a, b⟩ := h.log
  obtain ⟨n1, n2, n3⟩ := h.pnsl
  obtain ⟨u, e, _⟩ := h.ob
  obtain ⟨kvs, e2, _⟩ := h.slots
  refine ⟨us, s.at_ a (by simp; exact ⟨n2.symm, n3.symm⟩), b.mono fun z v p => ?_⟩
  obtain ⟨q, e1, e3⟩ := p
  refine ⟨q, e1, s.at_ e3 ?_⟩
  simp
  exact ⟨ne_of e3 e (by intro z; cases z), ne_of e3 e2 (by intro z; cases z)⟩
theorem MachAt.row {A : Ad} {D H : Hp} {x : Mc} {code : List Row} {inputs : List Int} {m : MC} {L : List Ent} (h : MachAt A D H x code inputs m L) {i : Nat} {r : Row} (e : code[i]? = some r) :
    ∃ us p, H x.cd = some (.lst us) ∧ atI us (i : Int) = some (.ref p) ∧ H p = some (.tup (rowV r)) := by
  obtain ⟨us, a, b⟩ := h.rows
  obtain ⟨v, hv, p, rfl, hp⟩ := b.get e
  exact ⟨us, p, h.same _ _ a, atI_nat hv, h.same _ _ hp⟩
section
variable {P : Program} {w : World} {K : PySem.W.Frag} {mg : Str → Option Value} {base : Heap} {A : Ad} (T : Tx K mg A)
include T
theorem ok_Machine_goes_on : FnOk P w K mg base CX0 1 A.f_Machine_goes_on A.d_Machine_goes_on ["self", "bound"] (spGoesOn A) := by
  refine T.F_Machine_goes_on.ok sc_Machine_goes_on (fun vs H Q E h => ?_) (fun cdv A' outer s H vs Q E hr h => ?_)
  · obtain ⟨D, x, code, inputs, m, L, n, rfl, _⟩ := h
    rfl
  obtain ⟨D, x, code, inputs, m, L, n, rfl, M, q1, q2⟩ := h
  obtain ⟨u, ob, hr1, hu⟩ := M.ob
  have hi := M.same _ _ M.inp
  refine ⟨_, (pss_cons (ps_if (pt_cmpR op_eq (pe_fld (pv 0) rfl) (pe_callB call_len_seq (by rfl) T.z_len PySem.boot_len (pa_cons (pe_fld (pv 0) rfl) pa_nil)) (nomark _)) (pss_one (ps_ret pe_bl)) pss_nil)
    (pss_cons (ps_fld (pv 0) (pe_ix ix_list (pe_fld (pv 0) rfl) (pe_fld (pv 0) rfl) (fun _ _ => rfl)) rfl)
    (pss_cons (ps_fldaug (pv 0) pe_int in_add)
    (pss_one (ps_ret (pe_cmpR op_gt (pe_fld (pv 0) rfl) (pv 1) (nomark _))))))), ?_⟩
  walk_at "k"
  walk_at "go"
  refine if_d (fun c => ?_) (fun c => ?_)
  · rw [List.length_map] at c
    walk_at "go"
    exact q1 (by rw [hr1]; exact List.drop_eq_nil_of_le (by omega)) H (Same.refl H)
  · rw [List.length_map] at c
    obtain ⟨i, hi2⟩ : ∃ i, inputs[u]? = some i := ⟨inputs[u]'(by omega), List.getElem?_eq_getElem _⟩
    have hv : atI (inputs.map V.int) (u : Int) = some (.int i) := atI_nat (by rw [List.getElem?_map, hi2]; rfl)
    walk_at "go"
    obtain ⟨r, hr2⟩ : ∃ r, m.rest = i :: r := ⟨inputs.drop (u + 1), by
      rw [hr1, List.drop_eq_getElem_cons (by omega)]
      rw [List.getElem?_eq_getElem (by omega)] at hi2
      injection hi2 with z
      rw [z]⟩
    obtain ⟨_, hr3, hu3⟩ := drop_cons (hr2.symm.trans hr1)
    have s1 : Same (minus H [x.p]) (upd (upd H x.p (.ins A.a_Machine x.dx (mF ⟨x.cd, x.inp, (u : Nat), i, (m.pc : Nat), x.sl, (m.many : Nat), (m.ended : Nat), x.lg⟩))) x.p (.ins A.a_Machine x.dx (mF ⟨x.cd, x.inp, (u : Int) + 1, i, (m.pc : Nat), x.sl, (m.many : Nat), (m.ended : Nat), x.lg⟩))) :=
      (Same.only.put (minus_at (by simp))).put (minus_at (by simp))
    have s2 := s1.less (S' := [x.p, x.sl]) (by simp)
    refine q2 i r hr2 _ s1 (M.hold (s1.less (by simp [Mc.addrs])) (u := u + 1) (by rw [Int.natCast_add]; exact upd_same) hr3 (by omega) ?_ (M.logs s2))
    obtain ⟨kvs, a, b⟩ := M.slots
    exact ⟨kvs, s1.at_ a (by simpa using M.pnsl.1.symm), b⟩
theorem ok_Machine_seen : FnOk P w K mg base CX0 1 A.f_Machine_seen A.d_Machine_seen ["self", "row"] (spSeen A) := by
  refine T.F_Machine_seen.ok sc_Machine_seen (fun vs H Q E h => ?_) (fun cdv A' outer s H vs Q E hr h => ?_)
  · obtain ⟨D, x, rp, code, inputs, m, L, r, rfl, _⟩ := h
    rfl
  obtain ⟨D, x, rp, code, inputs, m, L, r, rfl, M, hrp, q1, q2⟩ := h
  have hu := hu_of hr
  obtain ⟨u, ob, hr1, hlu⟩ := M.ob
  obtain ⟨kvs, hk, S⟩ := M.slots
  refine ⟨_, (pss_cons (ps_if (pt_cmpR op_eq (pe_ix ix_tup (pv 1) pe_int (fun _ _ => rfl)) pe_str (nomark _)) (pss_one (ps_ret (pe_tup (pa_cons (pe_fld (pv 0) rfl) (pa_cons pe_str (pa_cons (pe_ix ix_tup (pv 1) pe_int (fun _ _ => rfl)) (pa_cons (pe_fld (pv 0) rfl) (pa_cons pe_str pa_nil)))))))) pss_nil)
    (pss_cons (ps_if (PW.pt (pw_and (pt_cmpR op_eq (pe_ix ix_tup (pv 1) pe_int (fun _ _ => rfl)) pe_str (nomark _)) (pw_and1 (pt_cmpR op_lt (pe_fld (pv 0) rfl) (pe_fld (pv 0) rfl) (nomark _))))) (pss_one (ps_ret (pe_tup (pa_cons (pe_fld (pv 0) rfl) (pa_cons pe_str (pa_cons (pe_ix ix_tup (pv 1) pe_int (fun _ _ => rfl)) (pa_cons (pe_fld (pv 0) rfl) (pa_cons pe_str pa_nil)))))))) pss_nil)
    (pss_cons (ps_if (PW.pt (pw_and (pt_cmpR op_eq (pe_ix ix_tup (pv 1) pe_int (fun _ _ => rfl)) pe_str (nomark _)) (pw_and1 (pt_cmpR op_notN (pe_dget1 hu (pe_fld (pv 0) rfl) (pe_ix ix_tup (pv 1) pe_int (fun _ _ => rfl)) ⟨rfl, rfl, rfl, rfl⟩) pe_non (nomark _))))) (pss_one (ps_ret (pe_tup (pa_cons (pe_fld (pv 0) rfl) (pa_cons pe_str (pa_cons (pe_ix ix_tup (pv 1) pe_int (fun _ _ => rfl)) (pa_cons (pe_dget hu (pe_fld (pv 0) rfl) (pe_ix ix_tup (pv 1) pe_int (fun _ _ => rfl)) (fun _ _ => rfl)) (pa_cons (pe_ix ix_tup (pv 1) pe_int (fun _ _ => rfl)) pa_nil)))))))) pss_nil)
    (pss_cons (ps_if (pt_cmpR op_eq (pe_ix ix_tup (pv 1) pe_int (fun _ _ => rfl)) pe_str (nomark _)) (pss_cons (ps_set (i := 2) sc_Machine_seen.nd rfl (Or.inl rfl) (pe_dget1 hu (pe_fld (pv 0) rfl) (pe_ix ix_tup (pv 1) pe_int (fun _ _ => rfl)) ⟨rfl, rfl, rfl, rfl⟩))
      (pss_cons (ps_set (i := 3) sc_Machine_seen.nd rfl (Or.inl rfl) (pe_dget1 hu (pe_fld (pv 0) rfl) (pe_ix ix_tup (pv 1) pe_int (fun _ _ => rfl)) ⟨rfl, rfl, rfl, rfl⟩))
      (pss_one (ps_if (PW.pt (pw_and (pt_cmpR op_notN (pv 2) pe_non (nomark _)) (pw_and (pt_cmpR op_notN (pv 3) pe_non (nomark _)) (pw_and1 (pt_cmpR op_ne (pv 2) (pv 3) (nomark _)))))) (pss_one (ps_ret (pe_tup (pa_cons (pe_fld (pv 0) rfl) (pa_cons pe_str (pa_cons (pe_ix ix_tup (pv 1) pe_int (fun _ _ => rfl)) (pa_cons (pv 2) (pa_cons (pv 3) pa_nil)))))))) pss_nil)))) pss_nil)
    (pss_one (ps_ret pe_non)))))), ?_⟩
  walk_at "k"
  cases r with
  | opn l s => 
    have hrp2 : H rp = some (.tup [.str "open", .int (l : Nat), .int (s : Nat)]) := hrp
    walk_at "go"
    exact fun t ht => q2 _ rfl t _ (same_new ht) upd_same
  | fin l =>
    have hrp2 : H rp = some (.tup [.str "end", .int (l : Nat)]) := hrp
    walk_at "go"
    refine if_d (fun c => ?_) (fun c => ?_)
    · walk_at "go"
      exact fun t ht => q2 _ (if_pos (by omega)) t _ (same_new ht) upd_same
    · walk_at "go"
      exact q1 (if_neg (by omega)) H (Same.refl H)
  | act l s t =>
    have hrp2 : H rp = some (.tup [.str "do", .int (l : Nat), .int (s : Nat), .str t]) := hrp
    have hv := S.val s
    walk_at "go"
    rw [hv]
    cases e : m.slots s with
    | none =>
      walk_at "go"
      refine ifF (by simp [optV]) ?_
      walk_at "go"
      exact q1 (by show (m.slots s).map _ = none; rw [e]; rfl) H (Same.refl H)
    | some a =>
      rw [e] at hv
      have hv2 : valV kvs (.inl (s : Int)) = some (.int (a : Nat)) := by
        cases z : valV kvs (.inl (s : Int)) with
        | none => rw [z] at hv; cases hv
        | some y => rw [z] at hv; exact congrArg some hv
      walk_at "go"
      refine ifT (by simp [optV]) ?_
      walk_at "go"
      refine w_dgxI hk hv2 ?_
      walk_at "go"
      exact fun z hz => q2 (.deed l a t) (by show (m.slots s).map _ = _; rw [e]; rfl) z _ (same_new hz) upd_same
  | tie l s t =>
    have hrp2 : H rp = some (.tup [.str "tie", .int (l : Nat), .int (s : Nat), .int (t : Nat)]) := hrp
    walk_at "go"
    rw [S.val s]
    walk_at "go"
    rw [S.val t]
    walk_at "go"
    have es : seen m (.tie l s t) = tieEv l (m.slots s) (m.slots t) := rfl
    cases e : m.slots s with
    | none =>
      refine ifF (by simp [optV]) ?_
      walk_at "go"
      exact q1 (by rw [es, e]; rfl) H (Same.refl H)
    | some a =>
      refine ifT (by simp [optV]) ?_
      walk_at "go"
      cases e2 : m.slots t with
      | none =>
        refine ifF (by simp [optV]) ?_
        walk_at "go"
        exact q1 (by rw [es, e, e2]; rfl) H (Same.refl H)
      | some b =>
        refine ifT (by simp [optV]) ?_
        walk_at "go"
        unfold optV
        walk_at "go"
        refine if_nd (fun c => ?_) (fun c => ?_)
        · walk_at "go"
          exact fun z hz => q2 (.tie l a b) (by rw [es, e, e2]; exact if_neg fun q => c (by rw [q])) z _ (same_new hz) upd_same
        · walk_at "go"
          exact q1 (by rw [es, e, e2]; exact if_pos (by omega)) H (Same.refl H)
  | cpy l s t =>
    have hrp2 : H rp = some (.tup [.str "copy", .int (l : Nat), .int (s : Nat), .int (t : Nat)]) := hrp
    walk_at "go"
    exact q1 rfl H (Same.refl H)
  | drp l s =>
    have hrp2 : H rp = some (.tup [.str "drop", .int (l : Nat), .int (s : Nat)]) := hrp
    walk_at "go"
    exact q1 rfl H (Same.refl H)
  | tst l n t =>
    have hrp2 : H rp = some (.tup [.str "test", .int (l : Nat), .int n, .int (t : Nat)]) := hrp
    walk_at "go"
    exact q1 rfl H (Same.refl H)
  | jmp l t =>
    have hrp2 : H rp = some (.tup [.str "jump", .int (l : Nat), .int (t : Nat)]) := hrp
    walk_at "go"
    exact q1 rfl H (Same.refl H)
end

end U
namespace U
open PySem L2
/-! the steps that need no word -/
local macro_rules | `(tactic| walk_at "h") => `(tactic| focus ((repeat (first | assumption | exact upd_same | (apply at_ne; rotate_left; (first | assumption | exact Ne.symm (by assumption))) | (apply at_new; rotate_left; assumption))); done))
local macro_rules | `(tactic| walk_at "go") => `(tactic| repeat (with_reducible first
  | refine Go.by_ ?_
  | (apply w_at; (first | assumption | exact upd_same))
  | (apply w_sqT; (first | assumption | exact SqT.of (by assumption) | exact SqT.of upd_same))
  | (apply w_sqL; (first | assumption | exact SqL.of (by assumption) | exact SqL.of upd_same))
  | (apply w_sqLT1; (first | assumption | exact SqL.of (by assumption) | exact SqL.of upd_same))
  | (apply w_sqLT2; (first | assumption | exact SqT.of (by assumption) | exact SqT.of upd_same))
  | (apply w_at; walk_at "h")
  | (apply w_sqT; focus (apply SqT.of; walk_at "h"))
  | (apply w_sqL; focus (apply SqL.of; walk_at "h"))
  | (apply w_sqLT1; focus (apply SqL.of; walk_at "h"))
  | (apply w_sqLT2; focus (apply SqT.of; walk_at "h"))
  | (apply w_strT; decide)
  | (apply w_strF; decide)
  | (apply w_gTupH; (with_unfolding_all rfl))
  | (apply w_ixA; (first | assumption | with_unfolding_all rfl))))
local macro_rules | `(tactic| walk_at "k") => `(tactic| ((try dsimp only [cxOf, Cx.nox, List.map_cons, List.map_nil]); refine w_start ?_))
/-! ## The machine, on -/
theorem key_mem {code : List Row} {r : Row} (h : r ∈ code) {k : Key} (e : r.key = k) : k ∈ code.map Row.key := List.mem_map.mpr ⟨r, h, e⟩
theorem near_row {code : List Row} {n : Nat} {m m' : MC} (h : Near code n m m') {r' : Row} (e : code[m'.pc]? = some r') : ∃ r, code[m.pc]? = some r := by
  cases h with
  | here => exact ⟨_, e⟩
  | over h _ _ _ => exact ⟨_, h⟩
theorem doing_rest (m : MC) (r : Row) : (doing m r).rest = m.rest := by cases r <;> rfl
theorem doing_num (m : MC) (r : Row) : (doing m r).num = m.num := by cases r <;> rfl
theorem MachAt.pc {A : Ad} {D H : Hp} {x : Mc} {code : List Row} {inputs : List Int} {m : MC} {L : List Ent} (M : MachAt A D H x code inputs m L) : ∃ u : Nat,
    H x.p = some (.ins A.a_Machine x.dx (mF ⟨x.cd, x.inp, (u : Nat), m.num, (m.pc : Nat), x.sl, (m.many : Nat), (m.ended : Nat), x.lg⟩)) ∧ m.rest = inputs.drop u ∧ u ≤ inputs.length ∧
    ∀ to : Nat, MachAt A D (upd H x.p (.ins A.a_Machine x.dx (mF ⟨x.cd, x.inp, (u : Nat), m.num, (to : Nat), x.sl, (m.many : Nat), (m.ended : Nat), x.lg⟩))) x code inputs { m with pc := to } L := by
  obtain ⟨u, ob, hr1, hlu⟩ := M.ob
  obtain ⟨kvs, hk, S⟩ := M.slots
  obtain ⟨n1, n2, n3⟩ := M.pnsl
  have s1 : ∀ {o}, Same (minus H [x.p, x.sl]) (upd H x.p o) := fun {o} => Same.only.put (minus_at (by simp))
  exact ⟨u, ob, hr1, hlu, fun to => M.hold (s1.less (by simp [Mc.addrs])) upd_same hr1 hlu ⟨kvs, at_ne hk n1.symm, S⟩ (M.logs s1)⟩
section
variable {P : Program} {w : World} {K : PySem.W.Frag} {mg : Str → Option Value} {base : Heap} {A : Ad} (T : Tx K mg A)
include T
theorem ok_Machine_go_over : FnOk P w K mg base CX0 2 A.f_Machine_go_over A.d_Machine_go_over ["self", "row"] (spGoOver A) := by
  refine T.F_Machine_go_over.ok sc_Machine_go_over (fun vs H Q E h => ?_) (fun cdv A' outer s H vs Q E hr h => ?_)
  · obtain ⟨D, x, rp, code, inputs, m, L, r, rfl, _⟩ := h
    rfl
  have G_Machine_goes_on := ok_Machine_goes_on (P := P) (w := w) (base := base) T
  obtain ⟨D, x, rp, code, inputs, m, L, r, rfl, M, hrp, hin, q⟩ := h
  have hu := hu_of hr
  obtain ⟨u, ob, hr1, hlu⟩ := M.ob
  obtain ⟨kvs, hk, S⟩ := M.slots
  obtain ⟨n1, n2, n3⟩ := M.pnsl
  have nrp : rp ≠ x.p := ne_of hrp ob (by intro z; cases z)
  have nrk : rp ≠ x.sl := ne_of hrp hk (by intro z; cases z)
  have size : kvs.length < sizeLine := Nat.lt_of_le_of_lt S.len (Nat.lt_of_le_of_lt M.short (by decide))
  have fin1 : ∀ (H' : Hp) (m' : MC), Same (minus H [x.p, x.sl]) H' → H' x.p = some (.ins A.a_Machine x.dx (mF ⟨x.cd, x.inp, (u : Nat), m'.num, (m'.pc : Nat), x.sl, (m'.many : Nat), (m'.ended : Nat), x.lg⟩)) → m'.rest = m.rest → (∃ kvs, H' x.sl = some (.dK kvs) ∧ SlotsAre code kvs m'.slots) → MachAt A D H' x code inputs m' L :=
    fun H' m' s1 e1 e2 e3 => M.hold (s1.less (by simp [Mc.addrs])) e1 (e2.trans hr1) hlu e3 (M.logs s1)
  have s0 : Same (minus H [x.p, x.sl]) H := Same.only
  refine ⟨_, (pss_cons (ps_if (pt_cmpR op_eq (pe_ix ix_tup (pv 1) pe_int (fun _ _ => rfl)) pe_str (nomark _)) (pss_one (ps_dput hu (pe_fld (pv 0) rfl) (pe_ix ix_tup (pv 1) pe_int (fun _ _ => rfl)) (pe_dget1 hu (pe_fld (pv 0) rfl) (pe_ix ix_tup (pv 1) pe_int (fun _ _ => rfl)) ⟨rfl, rfl, rfl, rfl⟩) rfl)) pss_nil)
    (pss_cons (ps_if (pt_cmpR op_eq (pe_ix ix_tup (pv 1) pe_int (fun _ _ => rfl)) pe_str (nomark _)) (pss_one (ps_dput hu (pe_fld (pv 0) rfl) (pe_ix ix_tup (pv 1) pe_int (fun _ _ => rfl)) pe_non rfl)) pss_nil)
    (pss_cons (ps_fldaug (pv 0) pe_int in_add)
    (pss_cons (ps_if (pt_cmpR op_eq (pe_ix ix_tup (pv 1) pe_int (fun _ _ => rfl)) pe_str (nomark _)) (pss_one (ps_fld (pv 0) (pe_ix ix_tup (pv 1) pe_int (fun _ _ => rfl)) rfl)) pss_nil)
    (pss_one (ps_if (PW.pt (pw_and (pt_cmpR op_eq (pe_ix ix_tup (pv 1) pe_int (fun _ _ => rfl)) pe_str (nomark _)) (pw_and1 (pt_not (pt_val (pe_meth (pv 0) T.c_Machine T.e_Machine_goes_on G_Machine_goes_on (hr.mono (by decide)) T.b_Machine_goes_on .nil pass0 (pa_cons (pe_ix ix_tup (pv 1) pe_int (fun _ _ => rfl)) pa_nil))))))) (pss_one (ps_fld (pv 0) (pe_ix ix_tup (pv 1) pe_int (fun _ _ => rfl)) rfl)) pss_nil)))))), ?_⟩
  walk_at "k"
  have s1 : ∀ {o}, Same (minus H [x.p, x.sl]) (upd H x.p o) := fun {o} => s0.put (minus_at (by simp))
  cases r with
  | opn l s =>
    have hrp2 : H rp = some (.tup [.str "open", .int (l : Nat), .int (s : Nat)]) := hrp
    walk_at "go"
    exact q _ s1 (fin1 _ _ s1 upd_same rfl ⟨kvs, at_ne hk n1.symm, S⟩)
  | fin l =>
    have hrp2 : H rp = some (.tup [.str "end", .int (l : Nat)]) := hrp
    walk_at "go"
    exact q _ s1 (fin1 _ _ s1 upd_same rfl ⟨kvs, at_ne hk n1.symm, S⟩)
  | act l s t =>
    have hrp2 : H rp = some (.tup [.str "do", .int (l : Nat), .int (s : Nat), .str t]) := hrp
    walk_at "go"
    exact q _ s1 (fin1 _ _ s1 upd_same rfl ⟨kvs, at_ne hk n1.symm, S⟩)
  | tie l s t =>
    have hrp2 : H rp = some (.tup [.str "tie", .int (l : Nat), .int (s : Nat), .int (t : Nat)]) := hrp
    walk_at "go"
    exact q _ s1 (fin1 _ _ s1 upd_same rfl ⟨kvs, at_ne hk n1.symm, S⟩)
  | cpy l s t =>
    have hrp2 : H rp = some (.tup [.str "copy", .int (l : Nat), .int (s : Nat), .int (t : Nat)]) := hrp
    walk_at "go"
    rw [S.val t]
    walk_at "go"
    refine w_dputI hk size ?_
    walk_at "go"
    have s2 : ∀ {o o'}, Same (minus H [x.p, x.sl]) (upd (upd H x.sl o') x.p o) := fun {o o'} => (s0.put (minus_at (by simp))).put (minus_at (by simp))
    exact q _ s2 (fin1 _ _ s2 upd_same rfl ⟨_, at_ne upd_same n1.symm, S.put (key_mem hin rfl)⟩)
  | drp l s =>
    have hrp2 : H rp = some (.tup [.str "drop", .int (l : Nat), .int (s : Nat)]) := hrp
    walk_at "go"
    refine w_dputI hk size ?_
    walk_at "go"
    have s2 : ∀ {o o'}, Same (minus H [x.p, x.sl]) (upd (upd H x.sl o') x.p o) := fun {o o'} => (s0.put (minus_at (by simp))).put (minus_at (by simp))
    exact q _ s2 (fin1 _ _ s2 upd_same rfl ⟨_, at_ne upd_same n1.symm, S.put (o := none) (key_mem hin rfl)⟩)
  | jmp l t =>
    have hrp2 : H rp = some (.tup [.str "jump", .int (l : Nat), .int (t : Nat)]) := hrp
    walk_at "go"
    have s2 : ∀ {o o'}, Same (minus H [x.p, x.sl]) (upd (upd H x.p o') x.p o) := fun {o o'} => (s0.put (minus_at (by simp))).put (minus_at (by simp))
    exact q _ s2 (fin1 _ _ s2 upd_same rfl ⟨kvs, at_ne (at_ne hk n1.symm) n1.symm, S⟩)
  | tst l n t =>
    have hrp2 : H rp = some (.tup [.str "test", .int (l : Nat), .int n, .int (t : Nat)]) := hrp
    walk_at "go"
    have hM : MachAt A D (upd H x.p (.ins A.a_Machine x.dx (mF ⟨x.cd, x.inp, (u : Nat), m.num, (m.pc : Int) + 1, x.sl, (m.many : Nat), (m.ended : Nat), x.lg⟩))) x code inputs { m with pc := m.pc + 1 } L :=
      fin1 _ _ s1 (by rw [Int.natCast_add]; exact upd_same) rfl ⟨kvs, at_ne hk n1.symm, S⟩
    refine ⟨D, x, code, inputs, _, L, n, rfl, hM, fun er H2 s2 => ?_, fun i r er H2 s2 hM2 => ?_⟩
    · have s3 : Same (minus H [x.p, x.sl]) H2 := s1.trans s2
      have er' : m.rest = [] := er
      obtain ⟨u2, ob2, _, _, hpc⟩ := (hM.put s2).pc
      have hrp3 := s2 _ _ (at_ne hrp2 nrp)
      walk_at "go"
      refine ifT rfl ?_
      walk_at "go"
      have e : goOver m (.tst l n t) = { m with pc := t } := by show (match m.rest with | [] => _ | i :: r => _) = _; rw [er']
      refine q _ (s3.put (minus_at (by simp))) ?_
      rw [e]
      exact hpc t
    · have er' : m.rest = i :: r := er
      have s3 : Same (minus H [x.p, x.sl]) H2 := s1.then (s2.less (by simp))
      obtain ⟨u2, ob2, _, _, hpc⟩ := hM2.pc
      have hrp3 := s2.at_ (at_ne hrp2 nrp) (by simpa using nrp)
      have e : goOver m (.tst l n t) = { m with num := i, rest := r, pc := if n < i then m.pc + 1 else t } := by show (match m.rest with | [] => _ | i :: r => _) = _; rw [er']
      walk_at "go"
      refine if_nd (fun c => ?_) (fun c => ?_)
      · walk_at "go"
        refine q _ (s3.put (minus_at (by simp))) ?_
        rw [e, if_neg c]
        exact hpc t
      · walk_at "go"
        refine q _ s3 ?_
        rw [e, if_pos c]
        exact hM2
theorem ok_Machine_coming : FnOk P w K mg base CX0 3 A.f_Machine_coming A.d_Machine_coming ["self"] (spComing A) := by
  refine T.F_Machine_coming.ok sc_Machine_coming (fun vs H Q E h => ?_) (fun cdv A' outer s H vs Q E hr h => ?_)
  · obtain ⟨D, x, code, inputs, m, m', L, r, n, rfl, _⟩ := h
    rfl
  have G_Machine_seen := ok_Machine_seen (P := P) (w := w) (base := base) T
  have G_Machine_go_over := ok_Machine_go_over (P := P) (w := w) (base := base) T
  obtain ⟨D, x, code, inputs, m, m', L, r, n, rfl, M, hn, hc, hf, q⟩ := h
  refine ⟨_, (pss_one (ps_while PassesOwn.never (pt_val pe_bl) (pss_cons (ps_set (i := 1) sc_Machine_coming.nd rfl (Or.inl rfl) (pe_meth (pv 0) T.c_Machine T.e_Machine_seen G_Machine_seen (hr.mono (by decide)) T.b_Machine_seen .nil pass0 (pa_cons (pe_ix ix_list (pe_fld (pv 0) rfl) (pe_fld (pv 0) rfl) (fun _ _ => rfl)) pa_nil)))
      (pss_cons (ps_if (pt_cmpR op_notN (pv 1) pe_non (nomark _)) (pss_one (ps_ret (pv 1))) pss_nil)
      (pss_cons (ps_if (pt_cmpR op_eq (pe_ix ix_tup (pe_ix ix_list (pe_fld (pv 0) rfl) (pe_fld (pv 0) rfl) (fun _ _ => rfl)) pe_int (fun _ _ => rfl)) pe_str (nomark _)) (pss_one (ps_ret pe_non)) pss_nil)
      (pss_one (ps_expr (pe_meth (pv 0) T.c_Machine T.e_Machine_go_over G_Machine_go_over (hr.mono (by decide)) T.b_Machine_go_over .nil pass0 (pa_cons (pe_ix ix_list (pe_fld (pv 0) rfl) (pe_fld (pv 0) rfl) (fun _ _ => rfl)) pa_nil))))))))), ?_⟩
  walk_at "k"
  walk_at "go"
  refine w_while (fun k σ H' => ∃ (mm : MC) (fv : Option V), σ = [some (.ref x.p), fv] ∧ Same (minus H [x.p, x.sl]) H' ∧ MachAt A D H' x code inputs mm L ∧ Near code k mm m') n ⟨m, none, rfl, Same.only, M, hn⟩ ?_
  rintro k σ H' ⟨mm, fv, rfl, s1, M1, hn1⟩
  obtain ⟨r1, hr1⟩ := near_row hn1 hc
  obtain ⟨us, rp, h1, h2, h3⟩ := M1.row hr1
  obtain ⟨u, ob, hrs, hlu⟩ := M1.ob
  walk_at "go"
  refine ⟨_, fun _ _ z => z, ?_⟩
  walk_at "go"
  refine ⟨D, x, rp, code, inputs, mm, L, r1, rfl, M1, h3, fun es H2 s2 => ?_, fun ev es t H2 s2 ht => ?_⟩
  · have ob2 := s2 _ _ ob
    have h12 := s2 _ _ h1
    have h32 := s2 _ _ h3
    have tg : ∃ w ws, rowV r1 = .str w :: ws ∧ (w = "end" ↔ r1.isFin = true) := by
      cases r1 <;> exact ⟨_, _, rfl, by simp [Row.isFin] <;> decide⟩
    obtain ⟨tw, ts, e1, e2⟩ := tg
    rw [e1] at h32
    have h0 : atI (V.str tw :: ts) (0 : Int) = some (.str tw) := atI_nat (j := 0) (show (V.str tw :: ts)[0]? = _ from rfl)
    walk_at "go"
    refine ifF (by simp) ?_
    walk_at "go"
    refine if_d (fun c => ?_) (fun c => ?_)
    · have hfin := e2.mp c
      cases hn1 with
      | here =>
        rw [hr1] at hc; cases hc
        walk_at "go"
        exact (q H2 (s1.trans s2) (M1.put s2)).1 es
      | over h _ hf2 _ => rw [hr1] at h; cases h; rw [hfin] at hf2; cases hf2
    · have hfin : ¬ r1.isFin = true := fun z => c (e2.mpr z)
      cases hn1 with
      | here =>
        rw [hr1] at hc; cases hc
        exact absurd (hf es) hfin
      | over h _ hf2 hk =>
        rw [hr1] at h; cases h
        walk_at "go"
        refine ⟨D, x, rp, code, inputs, mm, L, r1, rfl, M1.put s2, by rw [e1]; exact h32, List.mem_of_getElem? hr1, fun H3 s3 M3 => ?_⟩
        walk_at "go"
        exact ⟨_, Nat.lt_succ_self _, _, _, rfl, (s1.trans s2).then s3, M3, hk⟩
  · walk_at "go"
    refine ifT (by simp) ?_
    cases hn1 with
    | here =>
      rw [hr1] at hc; cases hc
      walk_at "go"
      exact (q H2 (s1.trans s2) (M1.put s2)).2 ev es t ht
    | over h hs2 _ _ => rw [hr1] at h; cases h; rw [hs2] at es; cases es
theorem ok_Machine_done : FnOk P w K mg base CX0 4 A.f_Machine_done A.d_Machine_done ["self"] (spMDone A) := by
  refine T.F_Machine_done.ok sc_Machine_done (fun vs H Q E h => ?_) (fun cdv A' outer s H vs Q E hr h => ?_)
  · obtain ⟨D, x, code, inputs, m, L, r, ev, rfl, _⟩ := h
    rfl
  have G_Machine_coming := ok_Machine_coming (P := P) (w := w) (base := base) T
  have hu := hu_of hr
  obtain ⟨D, x, code, inputs, m, L, r, ev, rfl, M, hL, hc, hev, q⟩ := h
  obtain ⟨u, ob, hrs, hlu⟩ := M.ob
  refine ⟨_, (pss_cons (ps_set (i := 1) sc_Machine_done.nd rfl (Or.inl rfl) (pe_meth0 (pv 0) T.c_Machine T.e_Machine_coming G_Machine_coming (hr.mono (by decide)) T.b_Machine_coming .nil pass0))
    (pss_cons (ps_if (pt_cmpR op_isN (pv 1) pe_non (nomark _)) (pss_one ps_retN) pss_nil)
    (pss_cons (ps_asg (pv 1) (pg_tup rfl (pgs_cons (pg_name (i := 2) sc_Machine_done.nd rfl (Or.inl rfl)) (pgs_cons (pg_name (i := 3) sc_Machine_done.nd rfl (Or.inl rfl)) (pgs_cons (pg_name (i := 4) sc_Machine_done.nd rfl (Or.inl rfl)) (pgs_cons (pg_name (i := 5) sc_Machine_done.nd rfl (Or.inl rfl)) (pgs_cons (pg_name (i := 6) sc_Machine_done.nd rfl (Or.inl rfl)) pgs_nil)))))))
    (pss_cons (ps_if (pt_cmpR op_eq (pv 3) pe_str (nomark _)) (pss_one (ps_expr (pe_bm PySem.F.plainAttrs_list PySem.F.slot_list_append PySem.F.type_list_append mt_append (pe_fld (pv 0) rfl) (pa_cons (pe_tup (pa_cons (pv 4) (pa_cons (pv 5) (pa_cons (pv 6) pa_nil)))) pa_nil)))) (pss_one (ps_expr (pe_bm PySem.F.plainAttrs_list PySem.F.slot_list_append PySem.F.type_list_append mt_append (pe_fld (pv 0) rfl) (pa_cons (pe_tup (pa_cons (pv 4) (pa_cons (pv 5) (pa_cons (pv 6) (pa_cons (pe_fld (pv 0) rfl) pa_nil))))) pa_nil)))))
    (pss_cons (ps_set (i := 7) sc_Machine_done.nd rfl (Or.inl rfl) (pe_ix ix_list (pe_fld (pv 0) rfl) (pv 2) (fun _ _ => rfl)))
    (pss_cons (ps_if (pt_cmpR op_eq (pe_ix ix_tup (pv 7) pe_int (fun _ _ => rfl)) pe_str (nomark _)) (pss_cons (ps_dput hu (pe_fld (pv 0) rfl) (pe_ix ix_tup (pv 7) pe_int (fun _ _ => rfl)) (pv 5) rfl)
      (pss_one (ps_fldaug (pv 0) pe_int in_add))) pss_nil)
    (pss_one (ps_if (pt_cmpR op_eq (pe_ix ix_tup (pv 7) pe_int (fun _ _ => rfl)) pe_str (nomark _)) (pss_one (ps_fldaug (pv 0) pe_int in_add)) (pss_one (ps_fldaug (pv 0) pe_int in_add)))))))))), ?_⟩
  walk_at "k"
  walk_at "go"
  refine ⟨D, x, code, inputs, m, m, L, r, 0, rfl, M, .here, hc, fun z => (by rw [hev] at z; cases z), fun H1 s1 M1 => ⟨fun z => (by rw [hev] at z; cases z), fun ev' hev' t ht => ?_⟩⟩
  rw [hev] at hev'
  cases hev'
  obtain ⟨u1, ob1, hr3, hu3, hpc⟩ := M1.pc
  obtain ⟨us, hlg, hE⟩ := M1.log
  obtain ⟨n1, n2, n3⟩ := M1.pnsl
  obtain ⟨kvs, hk, S⟩ := M1.slots
  obtain ⟨cs, rp, h1, h2, h3⟩ := M1.row hc
  have size : us.length < sizeLine := Nat.lt_of_le_of_lt (by rw [hE.len]; exact hL) (by decide)
  have ncd : x.cd ≠ x.lg := ne_of_none (M.rows.choose_spec.1) (M.out x.lg (by simp [Mc.addrs]))
  have nrp : rp ≠ x.p := ne_of h3 ob1 (by intro z; cases z)
  have nrl : rp ≠ x.lg := ne_of h3 hlg (by intro z; cases z)
  have nrk : rp ≠ x.sl := ne_of h3 hk (by intro z; cases z)
  have ncp : x.cd ≠ x.p := ne_of_none (M.rows.choose_spec.1) (M.out x.p (by simp [Mc.addrs]))
  have nck : x.cd ≠ x.sl := ne_of_none (M.rows.choose_spec.1) (M.out x.sl (by simp [Mc.addrs]))
  have dsize : kvs.length < sizeLine := Nat.lt_of_le_of_lt S.len (Nat.lt_of_le_of_lt M.short (by decide))
  have s1' := s1.less (S' := x.addrs) (by simp [Mc.addrs])
  have fin : ∀ (z : Addr) (H' : Hp) (m' : MC), H1 z = none → Same (minus (upd H1 z (.tup (entV (ev.ent m.num)))) x.addrs) H' → H' x.p = some (.ins A.a_Machine x.dx (mF ⟨x.cd, x.inp, (u1 : Nat), m'.num, (m'.pc : Nat), x.sl, (m'.many : Nat), (m'.ended : Nat), x.lg⟩)) →
      (∃ kvs, H' x.sl = some (.dK kvs) ∧ SlotsAre code kvs m'.slots) → H' x.lg = some (.lst (us ++ [.ref z])) → m' = doing m r → Q .non H' := fun z H' m' hz sm e1 e3 e4 em => by
    subst em
    have k1 : Same (minus H1 x.addrs) H' := fun b o e => by
      by_cases hb : b ∈ x.addrs
      · rw [minus_at hb] at e; cases e
      · rw [minus_ne hb] at e
        exact sm.at_ (at_new e hz) hb
    have tk : ∀ {b : Addr} {o : List V}, H1 b = some (.tup o) → H' b = some (.tup o) := fun {b o} e => k1.at_ e (by
      simp [Mc.addrs]
      exact ⟨ne_of e ob1 (by intro z; cases z), ne_of e hk (by intro z; cases z), ne_of e hlg (by intro z; cases z)⟩)
    refine q H' (s1'.then k1) (M1.hold k1 e1 ((doing_rest m r).trans hr3) hu3 e3 ⟨_, e4, (hE.mono fun e v p => ?_).snoc ⟨z, rfl, ?_⟩⟩)
    · obtain ⟨q, f1, f2⟩ := p
      exact ⟨q, f1, tk f2⟩
    · have nz : ¬ z ∈ x.addrs := by
        simp [Mc.addrs]
        exact ⟨fun y => (by rw [y, ob1] at hz; cases hz), fun y => (by rw [y, hk] at hz; cases hz), fun y => (by rw [y, hlg] at hz; cases hz)⟩
      exact sm.at_ upd_same nz
  have up : ∀ {G H' : Hp} {o : HO}, Same (minus G x.addrs) H' → Same (minus G x.addrs) (upd H' x.p o) := fun s => s.put (minus_at (by simp [Mc.addrs]))
  have ul : ∀ {G H' : Hp} {o : HO}, Same (minus G x.addrs) H' → Same (minus G x.addrs) (upd H' x.lg o) := fun s => s.put (minus_at (by simp [Mc.addrs]))
  have uk : ∀ {G H' : Hp} {o : HO}, Same (minus G x.addrs) H' → Same (minus G x.addrs) (upd H' x.sl o) := fun s => s.put (minus_at (by simp [Mc.addrs]))
  cases r with
  | opn l s =>
    have ev2 : Ev.deed l m.many "open" = ev := Option.some.inj hev
    subst ev2
    have ht2 : H1 t = some (.tup [.int (m.pc : Nat), .str "deed", .int (l : Nat), .int (m.many : Nat), .str "open"]) := ht
    have h4 : H1 rp = some (.tup [.str "open", .int (l : Nat), .int (s : Nat)]) := h3
    walk_at "go"
    refine ifF (by simp) ?_
    walk_at "go"
    intro z hz
    walk_at "go"
    refine w_app (at_new hlg hz) size ?_
    walk_at "go"
    refine w_dputI (at_ne (at_new hk hz) n3) dsize ?_
    walk_at "go"
    exact fin z _ (doing m (.opn l s)) hz (up (up (uk (ul Same.only)))) upd_same ⟨_, at_ne (at_ne upd_same n1.symm) n1.symm, S.put (o := some m.many) (key_mem (List.mem_of_getElem? hc) rfl)⟩ (at_ne (at_ne (at_ne upd_same n3.symm) n2.symm) n2.symm) rfl
  | fin l =>
    obtain ⟨c, ev2⟩ : m.ended < m.many ∧ Ev.deed l m.ended "end" = ev := by
      by_cases c : m.ended < m.many
      · exact ⟨c, by rw [show seen m (.fin l) = _ from if_pos c] at hev; exact Option.some.inj hev⟩
      · rw [show seen m (.fin l) = _ from if_neg c] at hev; cases hev
    subst ev2
    have ht2 : H1 t = some (.tup [.int (m.pc : Nat), .str "deed", .int (l : Nat), .int (m.ended : Nat), .str "end"]) := ht
    have h4 : H1 rp = some (.tup [.str "end", .int (l : Nat)]) := h3
    walk_at "go"
    refine ifF (by simp) ?_
    walk_at "go"
    intro z hz
    walk_at "go"
    refine w_app (at_new hlg hz) size ?_
    walk_at "go"
    exact fin z _ (doing m (.fin l)) hz (up (ul Same.only)) upd_same ⟨_, at_ne (at_ne (at_new hk hz) n3) n1.symm, S⟩ (at_ne upd_same n2.symm) rfl
  | act l s t' =>
    obtain ⟨a, ea, ev2⟩ : ∃ a, m.slots s = some a ∧ Ev.deed l a t' = ev := by
      have e : seen m (.act l s t') = (m.slots s).map fun h => .deed l h t' := rfl
      rw [e] at hev
      cases z : m.slots s with
      | none => rw [z] at hev; cases hev
      | some a => rw [z] at hev; exact ⟨a, rfl, Option.some.inj hev⟩
    subst ev2
    have ht2 : H1 t = some (.tup [.int (m.pc : Nat), .str "deed", .int (l : Nat), .int (a : Nat), .str t']) := ht
    have h4 : H1 rp = some (.tup [.str "do", .int (l : Nat), .int (s : Nat), .str t']) := h3
    walk_at "go"
    refine ifF (by simp) ?_
    walk_at "go"
    intro z hz
    walk_at "go"
    refine w_app (at_new hlg hz) size ?_
    walk_at "go"
    exact fin z _ (doing m (.act l s t')) hz (up (ul Same.only)) upd_same ⟨_, at_ne (at_ne (at_new hk hz) n3) n1.symm, S⟩ (at_ne upd_same n2.symm) rfl
  | tie l s t' =>
    obtain ⟨a, b, ev2⟩ : ∃ a b, Ev.tie l a b = ev := by
      have e : seen m (.tie l s t') = tieEv l (m.slots s) (m.slots t') := rfl
      rw [e] at hev
      unfold tieEv at hev
      split at hev
      · split at hev
        · cases hev
        · exact ⟨_, _, Option.some.inj hev⟩
      · cases hev
    subst ev2
    have ht2 : H1 t = some (.tup [.int (m.pc : Nat), .str "tie", .int (l : Nat), .int (a : Nat), .int (b : Nat)]) := ht
    have h4 : H1 rp = some (.tup [.str "tie", .int (l : Nat), .int (s : Nat), .int (t' : Nat)]) := h3
    walk_at "go"
    refine ifF (by simp) ?_
    walk_at "go"
    intro z hz
    walk_at "go"
    refine w_app (at_new hlg hz) size ?_
    walk_at "go"
    exact fin z _ (doing m (.tie l s t')) hz (up (ul Same.only)) upd_same ⟨_, at_ne (at_ne (at_new hk hz) n3) n1.symm, S⟩ (at_ne upd_same n2.symm) rfl
  | cpy l s t => cases hev
  | drp l s => cases hev
  | tst l n t => cases hev
  | jmp l t => cases hev
end

end U
namespace U
open PySem L2
/-! the steps that need no word -/
local macro_rules | `(tactic| walk_at "h") => `(tactic| focus ((repeat (first | assumption | exact upd_same | (apply at_ne; rotate_left; (first | assumption | exact Ne.symm (by assumption))) | (apply at_new; rotate_left; assumption))); done))
local macro_rules | `(tactic| walk_at "go") => `(tactic| repeat (with_reducible first
  | refine Go.by_ ?_
  | (apply w_at; (first | assumption | exact upd_same))
  | (apply w_sqT; (first | assumption | exact SqT.of (by assumption) | exact SqT.of upd_same))
  | (apply w_sqL; (first | assumption | exact SqL.of (by assumption) | exact SqL.of upd_same))
  | (apply w_sqLT1; (first | assumption | exact SqL.of (by assumption) | exact SqL.of upd_same))
  | (apply w_sqLT2; (first | assumption | exact SqT.of (by assumption) | exact SqT.of upd_same))
  | (apply w_at; walk_at "h")
  | (apply w_sqT; focus (apply SqT.of; walk_at "h"))
  | (apply w_sqL; focus (apply SqL.of; walk_at "h"))
  | (apply w_sqLT1; focus (apply SqL.of; walk_at "h"))
  | (apply w_sqLT2; focus (apply SqT.of; walk_at "h"))
  | (apply w_strT; decide)
  | (apply w_strF; decide)
  | (apply w_gTupH; (with_unfolding_all rfl))
  | (apply w_ixA; (first | assumption | with_unfolding_all rfl))))
local macro_rules | `(tactic| walk_at "k") => `(tactic| ((try dsimp only [cxOf, Cx.nox, List.map_cons, List.map_nil]); refine w_start ?_))
/-! ## The machine made; breaches -/
instance {σ : L2.St} {H : Hp} {Q : VK} : Go (tDNewK σ H Q) (∀ p, H p = none → Q (.ref p) (upd H p (.dK []))) := ⟨fun q => q⟩
def ostR (K : PySem.W.Frag) (f : Str) (D : L2.St → Hp → Prop) (σ : L2.St) (y x : V) (H2 : Hp) : Prop := ∃ a C : Addr, x = .ref a ∧ OexC K C ∧ PySem.W.findIn K (.ref C) f = some none ∧
  ((H2 a = some (exo a C none) ∧ ∀ dx, H2 dx = none → dx ≠ a → D σ (upd (upd H2 dx (exd dx [(f, y)])) a (exo a C (some dx)))) ∨
    ∃ (dx : Addr) (fs : List (Str × V)), H2 a = some (exo a C (some dx)) ∧ H2 dx = some (exd dx fs) ∧ fs.length ≤ 900 ∧ D σ (upd H2 dx (exd dx ((f, y) :: fs))))
instance {K : PySem.W.Frag} {f : Str} {to te : TE} {σ : L2.St} {H : Hp} {n b c : L2.St → Hp → Prop} {r : VK} : Go (tOst K f to te ⟨n, r, b, c⟩ σ H) (te σ H fun y H1 => to σ H1 fun x H2 => ostR K f n σ y x H2) := ⟨fun q => q⟩
theorem upd_nil {H : Hp} {a b : Addr} {o : HO} : upd H a o b = none ↔ H b = none ∧ b ≠ a := ⟨upd_none, fun ⟨h, n⟩ => by rw [upd_ne n]; exact h⟩
theorem _root_.L2.Same.step {D H : Hp} (s : Same D H) {p : Addr} {o : HO} (n : D p = none) : Same D (upd H p o) := s.put n
theorem putF_le (f : Str) (v : V) (fs : List (Str × V)) : (putF f v fs).length ≤ fs.length + 1 := by
  exact length_putF f v fs
class LenF (k : Nat) (fs : List (Str × V)) : Prop where
  h : fs.length ≤ k
instance {k : Nat} : LenF k [] := ⟨Nat.zero_le _⟩
instance {k : Nat} {f : Str} {v : V} {fs : List (Str × V)} [l : LenF k fs] : LenF (k + 1) (putF f v fs) := ⟨Nat.le_trans (putF_le _ _ _) (Nat.succ_le_succ l.h)⟩
instance (priority := low) {fs : List (Str × V)} [l : LenF 30 fs] : Few fs := ⟨Nat.lt_of_le_of_lt l.h (by decide)⟩
instance (priority := low) {fs : List (Str × V)} {f : Str} {v : V} : PutF fs f v (putF f v fs) := ⟨rfl⟩
def spBreach (A : Ad) : Sp := fun vs H Q _ => ∃ (a : Addr) (v1 v2 v3 v4 v5 : V), vs = [.ref a, v1, v2, v3, v4, v5] ∧ H a = some (exo a A.a_Breach none) ∧
  ∀ (d : Addr) (H' : Hp), H d = none → Same (minus H [a]) H' → H' a = some (exo a A.a_Breach (some d)) → H' d = some (exd d [("log", v5), ("row", v4), ("handles", v3), ("line", v2), ("rule", v1)]) → Q .non H'
section
variable {P : Program} {w : World} {K : PySem.W.Frag} {mg : Str → Option Value} {base : Heap} {A : Ad} (T : Tx K mg A)
include T
theorem ok_Machine_init : FnOk P w K mg base CX0 1 A.f_Machine_init A.d_Machine_init ["self", "code", "inputs"] (spMInit A) := by
  refine T.F_Machine_init.ok sc_Machine_init (fun vs H Q E h => ?_) (fun cdv A' outer s H vs Q E hr h => ?_)
  · obtain ⟨p, dx, c, i, us, ws, rfl, _⟩ := h
    rfl
  obtain ⟨p, dx, c, i, us, ws, rfl, hp, hc, hi, q⟩ := h
  have ncp : c ≠ p := ne_of hc hp (by intro z; cases z)
  have nip : i ≠ p := ne_of hi hp (by intro z; cases z)
  refine ⟨_, (pss_cons (ps_fld (pv 0) (pe_callTy call_list_of (by rfl) T.z_list (by decide +kernel) (pa_cons (pv 1) pa_nil)) rfl)
    (pss_cons (ps_fld (pv 0) (pe_callTy call_list_of (by rfl) T.z_list (by decide +kernel) (pa_cons (pv 2) pa_nil)) rfl)
    (pss_cons (ps_fld (pv 0) pe_int rfl)
    (pss_cons (ps_fld (pv 0) pe_int rfl)
    (pss_cons (ps_fld (pv 0) pe_int rfl)
    (pss_cons (ps_fld (pv 0) pe_dnewK rfl)
    (pss_cons (ps_fld (pv 0) pe_int rfl)
    (pss_cons (ps_fld (pv 0) pe_int rfl)
    (pss_one (ps_fld (pv 0) (pe_lst pa_nil) rfl)))))))))), ?_⟩
  walk_at "k"
  walk_at "go"
  intro cd hcd
  walk_at "go"
  intro inp hinp
  walk_at "go"
  intro sl hsl
  walk_at "go"
  intro lg hlg
  walk_at "go"
  have hcp : cd ≠ p := fun z => by rw [z, hp] at hcd; cases hcd
  simp only [upd_nil] at hinp hsl hlg
  obtain ⟨⟨i0, ic⟩, ip⟩ := hinp
  obtain ⟨⟨⟨⟨⟨⟨⟨s0, sc⟩, _⟩, si⟩, sp⟩, _⟩, _⟩, _⟩ := hsl
  obtain ⟨⟨⟨⟨⟨⟨⟨⟨⟨⟨⟨l0, lc⟩, _⟩, li⟩, lp⟩, _⟩, _⟩, _⟩, ls⟩, _⟩, _⟩, _⟩ := hlg
  have mp : minus H [p] p = none := minus_at (by simp)
  have mm : ∀ {b : Addr}, H b = none → minus H [p] b = none := fun {b} e => by
    unfold minus
    split
    · rfl
    · exact e
  refine q cd inp sl lg _ ?_ (by rw [mF_new]; exact upd_same) hcd i0 s0 l0 (Ne.symm ls) sc si lc li ?_ ?_ ?_ ?_
  · have := minus_le H [p]
    repeat (first | assumption | (apply L2.Same.step; rotate_left; (first | assumption | exact mm (by assumption))))
  · walk_at "h"
  · walk_at "h"
  · walk_at "h"
  · walk_at "h"

theorem ok_Breach_init : FnOk P w K mg base CX0 1 A.f_Breach_init A.d_Breach_init ["self", "rule", "line", "handles", "row", "log"] (spBreach A) := by
  refine T.F_Breach_init.ok sc_Breach_init (fun vs H Q E h => ?_) (fun cdv A' outer s H vs Q E hr h => ?_)
  · obtain ⟨a, v1, v2, v3, v4, v5, rfl, _⟩ := h
    rfl
  obtain ⟨a, v1, v2, v3, v4, v5, rfl, ha, q⟩ := h
  refine ⟨_, (pss_cons (ps_ost (pv 0) (pv 1))
    (pss_cons (ps_ost (pv 0) (pv 2))
    (pss_cons (ps_ost (pv 0) (pv 3))
    (pss_cons (ps_ost (pv 0) (pv 4))
    (pss_one (ps_ost (pv 0) (pv 5))))))), ?_⟩
  walk_at "k"
  walk_at "go"
  refine ⟨a, A.a_Breach, rfl, T.ox_Breach, T.xn_rule, .inl ⟨ha, fun d hd hda => ?_⟩⟩
  walk_at "go"
  refine ⟨a, A.a_Breach, rfl, T.ox_Breach, T.xn_line, .inr ⟨d, _, upd_same, at_ne upd_same hda, by simp, ?_⟩⟩
  walk_at "go"
  refine ⟨a, A.a_Breach, rfl, T.ox_Breach, T.xn_handles, .inr ⟨d, _, at_ne upd_same hda.symm, upd_same, by simp, ?_⟩⟩
  walk_at "go"
  refine ⟨a, A.a_Breach, rfl, T.ox_Breach, T.xn_row, .inr ⟨d, _, at_ne (at_ne upd_same hda.symm) hda.symm, upd_same, by simp, ?_⟩⟩
  walk_at "go"
  refine ⟨a, A.a_Breach, rfl, T.ox_Breach, T.xn_log, .inr ⟨d, _, at_ne (at_ne (at_ne upd_same hda.symm) hda.symm) hda.symm, upd_same, by simp, ?_⟩⟩
  walk_at "go"
  refine q d _ hd ?_ (at_ne (at_ne (at_ne (at_ne upd_same hda.symm) hda.symm) hda.symm) hda.symm) upd_same
  have hm : minus H [a] d = none := by rw [minus_ne (by simpa using hda)]; exact hd
  exact ((((((minus_le H [a]).put hm).put (minus_at (by simp))).put hm).put hm).put hm).put hm
end

end U
namespace U
open PySem L2
/-! the steps that need no word -/
local macro_rules | `(tactic| walk_at "h") => `(tactic| focus ((repeat (first | assumption | exact upd_same | (apply at_ne; rotate_left; (first | assumption | exact Ne.symm (by assumption))) | (apply at_new; rotate_left; assumption))); done))
local macro_rules | `(tactic| walk_at "go") => `(tactic| repeat (with_reducible first
  | refine Go.by_ ?_
  | (apply w_at; (first | assumption | exact upd_same))
  | (apply w_sqT; (first | assumption | exact SqT.of (by assumption) | exact SqT.of upd_same))
  | (apply w_sqL; (first | assumption | exact SqL.of (by assumption) | exact SqL.of upd_same))
  | (apply w_sqLT1; (first | assumption | exact SqL.of (by assumption) | exact SqL.of upd_same))
  | (apply w_sqLT2; (first | assumption | exact SqT.of (by assumption) | exact SqT.of upd_same))
  | (apply w_at; walk_at "h")
  | (apply w_sqT; focus (apply SqT.of; walk_at "h"))
  | (apply w_sqL; focus (apply SqL.of; walk_at "h"))
  | (apply w_sqLT1; focus (apply SqL.of; walk_at "h"))
  | (apply w_sqLT2; focus (apply SqT.of; walk_at "h"))
  | (apply w_strT; decide)
  | (apply w_strF; decide)
  | (apply w_gTupH; (with_unfolding_all rfl))
  | (apply w_ixA; (first | assumption | with_unfolding_all rfl))))
local macro_rules | `(tactic| walk_at "k") => `(tactic| ((try dsimp only [cxOf, Cx.nox, List.map_cons, List.map_nil]); refine w_start ?_))
/-! ## The watched run -/
instance {σ : L2.St} {H : Hp} {R : Bool → Hp → Prop} : Go (tYes σ H R) (R true H) := ⟨fun q => q⟩
def mkoR (C : Addr) (sp : Sp) (dvs : List V) (Q : XK) (vs : List V) (H1 : Hp) : Prop := tMkO C sp dvs (fun _ _ k => k vs H1) [] H1 Q
instance {C : Addr} {sp : Sp} {dvs : List V} {ta : TA} {σ : L2.St} {H : Hp} {Q : XK} : Go (tMkO C sp dvs ta σ H Q) (ta σ H fun vs H1 => mkoR C sp dvs Q vs H1) := ⟨fun q => q⟩
theorem MachAt.base {A : Ad} {D D' H : Hp} {x : Mc} {code : List Row} {inputs : List Int} {m : MC} {L : List Ent} (h : MachAt A D H x code inputs m L) (s : Same D D') (s' : Same D' H) (o : ∀ b ∈ x.addrs, D' b = none) : MachAt A D' H x code inputs m L := by
  obtain ⟨us, a, b⟩ := h.rows
  exact ⟨h.ob, h.slots, s', o, h.nd, ⟨us, s _ _ a, b.same s⟩, h.short, s _ _ h.inp, h.log⟩
structure Live (A : Ad) (D H : Hp) (x : Mc) (wl : Addr) (xs : List Wt) (code : List Row) (inputs : List Int) (rules : List (Str × Rl)) (m : MC) (P : List Ent) (F : Nat → List Ent) : Prop where
  M : MachAt A D H x code inputs m P
  len : xs.length = rules.length
  at_ : ∀ (i : Nat) (a : Wt), xs[i]? = some a → ∃ n r, rules[i]? = some (n, r) ∧ a.n = n ∧ WatchAt A D H a r (F i)
  l : H wl = some (.lst (xs.map fun a => V.ref a.p))
  nl : ¬ wl ∈ x.addrs
  nw : ∀ a ∈ xs, ¬ wl ∈ a.addrs
  dis : ∀ (i j : Nat) (a b : Wt), xs[i]? = some a → xs[j]? = some b → i ≠ j → ∀ c ∈ a.addrs, ¬ c ∈ b.addrs
  ap : ∀ a ∈ xs, ∀ c ∈ a.addrs, ¬ c ∈ x.addrs
section
variable {A : Ad} {D H H' : Hp} {x : Mc} {wl : Addr} {xs : List Wt} {code : List Row} {inputs : List Int} {rules : List (Str × Rl)} {m m' : MC} {P P' : List Ent} {F : Nat → List Ent}
theorem Live.put (h : Live A D H x wl xs code inputs rules m P F) (s : Same H H') : Live A D H' x wl xs code inputs rules m P F :=
  ⟨h.M.put s, h.len, fun i a e => let ⟨n, r, e1, e2, W⟩ := h.at_ i a e; ⟨n, r, e1, e2, W.put s⟩, s _ _ h.l, h.nl, h.nw, h.dis, h.ap⟩
/-- a tuple does not stand where the machine or a watch changes -/
theorem MachAt.tup (h : MachAt A D H x code inputs m P) {b : Addr} {o : List V} (e : H b = some (.tup o)) : ¬ b ∈ x.addrs := by
  obtain ⟨u, ob, _⟩ := h.ob
  obtain ⟨kvs, hk, _⟩ := h.slots
  obtain ⟨us, hl, _⟩ := h.log
  simp [Mc.addrs]
  exact ⟨ne_of e ob (by intro z; cases z), ne_of e hk (by intro z; cases z), ne_of e hl (by intro z; cases z)⟩
theorem WatchAt.tup {w : Wt} {r : Rl} (h : WatchAt A D H w r P) {b : Addr} {o : List V} (e : H b = some (.tup o)) : ¬ b ∈ w.addrs := by
  have ob := h.ob
  obtain ⟨kvs, hk, _⟩ := h.rooms
  intro hm
  rcases mem_c hm with z | hm
  · rw [z, ob] at e
    unfold Wt.ho at e
    split at e <;> cases e
  rcases mem_c hm with z | hm
  · rw [z, hk] at e; cases e
  cases ht : w.ties with
  | none => rw [ht] at hm; cases hm
  | some l =>
    rw [ht] at hm
    obtain ⟨vs, hl, _⟩ := h.ties l ht
    have z : b = l := by simpa using hm
    rw [z, hl] at e; cases e
theorem WatchAt.there {w : Wt} {r : Rl} (h : WatchAt A D H w r P) : ∀ b ∈ w.addrs, ∃ o, H b = some o := fun b hm => by
  rcases mem_c hm with z | hm
  · rw [z]; exact ⟨_, h.ob⟩
  rcases mem_c hm with z | hm
  · rw [z]; obtain ⟨kvs, hk, _⟩ := h.rooms; exact ⟨_, hk⟩
  cases ht : w.ties with
  | none => rw [ht] at hm; cases hm
  | some l =>
    rw [ht] at hm
    obtain ⟨vs, hl, _⟩ := h.ties l ht
    have z : b = l := by simpa using hm
    rw [z]; exact ⟨_, hl⟩
theorem Live.mach (h : Live A D H x wl xs code inputs rules m P F) (s : Same (minus H x.addrs) H') (M' : MachAt A D H' x code inputs m' P') : Live A D H' x wl xs code inputs rules m' P' F :=
  ⟨M', h.len, fun i a e => by
    obtain ⟨n, r, e1, e2, W⟩ := h.at_ i a e
    refine ⟨n, r, e1, e2, W.keep M'.same fun b o hb hor => ?_⟩
    rcases hor with hm | ⟨o', rfl⟩
    · exact s.at_ hb (h.ap a (List.mem_of_getElem? e) b hm)
    · exact s.at_ hb (h.M.tup hb), s.at_ h.l h.nl, h.nl, h.nw, h.dis, h.ap⟩
theorem Live.watch (h : Live A D H x wl xs code inputs rules m P F) {i : Nat} {a : Wt} {n : Str} {r : Rl} {L : List Ent} (hi : xs[i]? = some a) (hr : rules[i]? = some (n, r)) (s : Same (minus H a.addrs) H') (W' : WatchAt A D H' a r L) :
    Live A D H' x wl xs code inputs rules m P (fun j => if j = i then L else F j) := by
  have hm : a ∈ xs := List.mem_of_getElem? hi
  obtain ⟨n0, r0, e0, en, W⟩ := h.at_ i a hi
  refine ⟨h.M.keep W'.same fun b o hb hor => ?_, h.len, fun j c e => ?_, s.at_ h.l (h.nw a hm), h.nl, h.nw, h.dis, h.ap⟩
  · rcases hor with hb' | ⟨o', rfl⟩
    · exact s.at_ hb fun z => h.ap a hm b z hb'
    · exact s.at_ hb (W.tup hb)
  · by_cases hj : j = i
    · subst hj
      rw [hi] at e; cases e
      rw [hr] at e0; cases e0
      rw [if_pos rfl]
      exact ⟨_, _, hr, en, W'⟩
    · obtain ⟨n1, r1, e1, e2, W1⟩ := h.at_ j c e
      rw [if_neg hj]
      refine ⟨n1, r1, e1, e2, W1.keep W'.same fun b o hb hor => ?_⟩
      rcases hor with hb' | ⟨o', rfl⟩
      · exact s.at_ hb fun z => h.dis i j a c hi e (Ne.symm hj) b z hb'
      · exact s.at_ hb (W.tup hb)
theorem Live.same (h : Live A D H x wl xs code inputs rules m P F) {F' : Nat → List Ent} (e : ∀ i, i < xs.length → F i = F' i) : Live A D H x wl xs code inputs rules m P F' :=
  ⟨h.M, h.len, fun i a hi => by rw [← e i (List.getElem?_eq_some_iff.mp hi).1]; exact h.at_ i a hi, h.l, h.nl, h.nw, h.dis, h.ap⟩
theorem Live.all (h : Live A D H x wl xs code inputs rules m P fun _ => P') : WatchesAt A D H xs rules P' := ⟨h.len, h.at_⟩
end
/-- rules in a list: pairs of a title and a rule -/
def RulesIn (H : Hp) : List (Str × Rl) → List V → Prop := Each fun x v => ∃ a, TupAt H [.str x.1, .ref a] v ∧ RuleAt H x.2 a
theorem RuleAt.put {H H' : Hp} {r : Rl} {a : Addr} (s : Same H H') (h : RuleAt H r a) : RuleAt H' r a := h.same s
theorem RulesIn.put {H H' : Hp} {rs : List (Str × Rl)} {vs : List V} (h : RulesIn H rs vs) (s : Same H H') : RulesIn H' rs vs := h.mono fun _ _ ⟨a, t, r⟩ => ⟨a, t.same s, r.same s⟩
/-- what a breach tells -/
def brF (n : Str) (l : Nat) (lh lr ll : Addr) : List (Str × V) := [("log", .ref ll), ("row", .ref lr), ("handles", .ref lh), ("line", .int (l : Nat)), ("rule", .str n)]
def spRun (A : Ad) : Sp := fun vs H Q E => ∃ (c rl i : Addr) (code : List Row) (inputs : List Int) (rules : List (Str × Rl)) (us rs : List V) (L : List Ent), vs = [.ref c, .ref rl, .ref i] ∧ H c = some (.lst us) ∧ RowsAt H code us ∧ H i = some (.lst (inputs.map V.int)) ∧
  H rl = some (.lst rs) ∧ RulesIn H rules rs ∧ code.length ≤ 1000 ∧ Runs code (m0 inputs) L ∧ L.length ≤ 4000 ∧ (∀ x ∈ rules, x.2.Ok) ∧ rules.length ≤ 100 ∧ (∀ l h w n, Ent.deed l h w n ∈ L → w.length ≤ 100) ∧ (∀ l a b, Ent.tie l a b ∈ L → a ≠ b) ∧
  (due rules L = none → ∀ (p : Addr) (vs : List V) (H' : Hp), Same H H' → H' p = some (.lst vs) → EntsAt H' L vs → Q (.ref p) H') ∧
  (∀ k n y l h t z, due rules L = some (k, n, y) → L[k]? = some (.deed l h t z) → ∀ (d lh lr ll : Addr) (vs : List V) (H' : Hp), Same H H' → H' d = some (.xd (brF n l lh lr ll)) → H' lh = some (.lst (y.handles.map fun (a : Nat) => V.int (a : Nat))) →
    H' lr = some (.lst ((rowOf (L.take (k + 1)) y).map V.str)) → H' ll = some (.lst vs) → EntsAt H' (L.take k) vs → E (.ref A.a_Breach) (some d) H')
section
variable {P : Program} {w : World} {K : PySem.W.Frag} {mg : Str → Option Value} {base : Heap} {A : Ad} (T : Tx K mg A)
include T
theorem ok_run_watched : FnOk P w K mg base (CX P w) 5 A.f_run_watched A.d_run_watched ["code", "rules", "inputs"] (spRun A) := by
  refine T.F_run_watched.okX sc_run_watched (fun vs H Q E h => ?_) (fun cdv A' outer s H vs Q E hr h => ?_)
  · obtain ⟨c, rl, i, code, inputs, rules, us, rs, L, rfl, _⟩ := h
    rfl
  have G_Breach_init := ok_Breach_init (P := P) (w := w) (base := base) T
  have G_Watch_handles_of := ok_Watch_handles_of (P := P) (w := w) (base := base) T
  have G_Watch_tied := ok_Watch_tied (P := P) (w := w) (base := base) T
  have G_Watch_move := ok_Watch_move (P := P) (w := w) (base := base) T
  have G_TieWatch_tied := ok_TieWatch_tied (P := P) (w := w) (base := base) T
  have G_TieWatch_handles_of := ok_TieWatch_handles_of (P := P) (w := w) (base := base) T
  have G_watch_of := ok_watch_of (P := P) (w := w) (base := base) T
  have G_row_broken := ok_row_broken (P := P) (w := w) (base := base) T
  have G_broken_by := ok_broken_by (P := P) (w := w) (base := base) T
  have G_Machine_init := ok_Machine_init (P := P) (w := w) (base := base) T
  have G_Machine_coming := ok_Machine_coming (P := P) (w := w) (base := base) T
  have G_Machine_done := ok_Machine_done (P := P) (w := w) (base := base) T
  obtain ⟨c, rl, i, code, inputs, rules, us, rs, L, rfl, hc, hR, hi, hrl, hrs, hcl, hrun, hL, ok, hrn, hw, hab, q1, q2⟩ := h
  refine ⟨_, (pss_cons (ps_set (i := 3) sc_run_watched.nd rfl (Or.inl rfl) (pe_make T.k_Machine G_Machine_init (hr.mono (by decide)) rfl T.m_Machine T.b_Machine_init .nil pass0 (pa_cons (pv 0) (pa_cons (pv 2) pa_nil))))
    (pss_cons (ps_setLc (i := 4) (own := [("name", 15), ("rule", 16)]) rfl sc_run_watched.nd rfl rfl (sw_true rfl rfl rfl (by decide +kernel)) (pi_list (pv 1)) (blkOk_by (own := [("name", 15), ("rule", 16)]) (N := ["code", "rules", "inputs", "machine", "watches", "coming", "at", "kind", "line", "handle", "thing", "watch", "found", "key", "row", "name", "rule"]) (sc := defScope st_run_watched) (by decide +kernel)) (fun _ _ _ _ _ => (pg_tupK (K := K) (n := 2) rfl rfl (pgs_cons (pg_name (i := 15) sc_run_watched.nd rfl (Or.inl rfl)) (pgs_cons (pg_name (i := 16) sc_run_watched.nd rfl (Or.inl rfl)) pgs_nil)) rfl)) (fun _ _ _ _ _ => pts_nil) (fun _ _ _ _ _ => (pe_call G_watch_of (hr.mono (by decide)) rfl T.m_watch_of T.F_watch_of.kp T.b_watch_of .nil pass0 (pa_cons (pv 15) (pa_cons (pv 16) pa_nil)))))
    (pss_one (ps_while (passes_of rfl) (pt_val pe_bl) (pss_cons (ps_set (i := 5) sc_run_watched.nd rfl (Or.inl rfl) (pe_meth0 (pv 3) T.c_Machine T.e_Machine_coming G_Machine_coming (hr.mono (by decide)) T.b_Machine_coming .nil pass0))
      (pss_cons (ps_if (pt_cmpR op_isN (pv 5) pe_non (nomark _)) (pss_one (ps_ret (pe_callTy call_list_of (by rfl) T.z_list (by decide +kernel) (pa_cons (pe_fld (pv 3) rfl) pa_nil)))) pss_nil)
      (pss_cons (ps_asg (pv 5) (pg_tup rfl (pgs_cons (pg_name (i := 6) sc_run_watched.nd rfl (Or.inl rfl)) (pgs_cons (pg_name (i := 7) sc_run_watched.nd rfl (Or.inl rfl)) (pgs_cons (pg_name (i := 8) sc_run_watched.nd rfl (Or.inl rfl)) (pgs_cons (pg_name (i := 9) sc_run_watched.nd rfl (Or.inl rfl)) (pgs_cons (pg_name (i := 10) sc_run_watched.nd rfl (Or.inl rfl)) pgs_nil)))))))
      (pss_cons (ps_if (pt_cmpR op_eq (pv 7) pe_str (nomark _)) (pss_one (ps_for (passes_of rfl) rfl (pi_list (pv 4)) (pg_name (i := 11) sc_run_watched.nd rfl (Or.inl rfl)) (pss_one (ps_expr (pe_or2 (pe_meth (pv 11) T.c_Watch T.e_Watch_tied G_Watch_tied (hr.mono (by decide)) T.b_Watch_tied .nil pass0 (pa_cons (pv 9) (pa_cons (pv 10) pa_nil))) (pe_meth (pv 11) T.c_TieWatch T.e_TieWatch_tied G_TieWatch_tied (hr.mono (by decide)) T.b_TieWatch_tied .nil pass0 (pa_cons (pv 9) (pa_cons (pv 10) pa_nil)))))))) (pss_cons (ps_set (i := 12) sc_run_watched.nd rfl (Or.inl rfl) (pe_call G_broken_by (hr.mono (by decide)) rfl T.m_broken_by T.F_broken_by.kp T.b_broken_by .nil pass0 (pa_cons (pv 4) (pa_cons (pv 9) (pa_cons (pv 10) pa_nil)))))
        (pss_cons (ps_if (pt_cmpR op_notN (pv 12) pe_non (nomark _)) (pss_cons (ps_asg (pv 12) (pg_tup rfl (pgs_cons (pg_name (i := 11) sc_run_watched.nd rfl (Or.inl rfl)) (pgs_cons (pg_name (i := 13) sc_run_watched.nd rfl (Or.inl rfl)) pgs_nil))))
          (pss_cons (ps_set (i := 14) sc_run_watched.nd rfl (Or.inl rfl) (pe_call G_row_broken (hr.mono (by decide)) rfl T.m_row_broken T.F_row_broken.kp T.b_row_broken .nil pass0 (pa_cons (pe_fld (pv 3) rfl) (pa_cons (pv 11) (pa_cons (pv 13) (pa_cons (pv 9) (pa_cons (pv 10) pa_nil)))))))
          (pss_one (ps_raise rfl (takes_of rfl rfl rfl rfl) (pmk_oex T.ox_Breach T.xi_Breach T.xt_Breach G_Breach_init (hr.mono (by decide)) T.b_Breach_init .nil pass0 rfl T.m_Breach (pa_cons (pe_fld (pv 11) rfl) (pa_cons (pv 8) (pa_cons (pe_or2 (pe_meth (pv 11) T.c_Watch T.e_Watch_handles_of G_Watch_handles_of (hr.mono (by decide)) T.b_Watch_handles_of .nil pass0 (pa_cons (pv 13) pa_nil)) (pe_meth (pv 11) T.c_TieWatch T.e_TieWatch_handles_of G_TieWatch_handles_of (hr.mono (by decide)) T.b_TieWatch_handles_of .nil pass0 (pa_cons (pv 13) pa_nil))) (pa_cons (pv 14) (pa_cons (pe_callTy call_list_of (by rfl) T.z_list (by decide +kernel) (pa_cons (pe_fld (pv 3) rfl) pa_nil)) pa_nil)))))))))) pss_nil)
        (pss_one (ps_for (passes_of rfl) rfl (pi_list (pv 4)) (pg_name (i := 11) sc_run_watched.nd rfl (Or.inl rfl)) (pss_one (ps_expr (pe_or2 (pe_meth (pv 11) T.c_Watch T.e_Watch_move G_Watch_move (hr.mono (by decide)) T.b_Watch_move .nil pass0 (pa_cons (pv 9) (pa_cons (pv 10) pa_nil))) (pe_meth (pv 11) T.c_TieWatch T.e_TieWatch_move G_Watch_move (hr.mono (by decide)) T.b_Watch_move .nil pass0 (pa_cons (pv 9) (pa_cons (pv 10) pa_nil)))))))))))
      (pss_one (ps_expr (pe_meth0 (pv 3) T.c_Machine T.e_Machine_done G_Machine_done (hr.mono (by decide)) T.b_Machine_done .nil pass0))))))))))), ?_⟩
  walk_at "k"
  walk_at "go"
  intro x dx hx hdx ne
  refine ⟨x, dx, c, i, us, _, rfl, upd_same, at_new (at_new hc hdx) (by rw [upd_ne ne.symm]; exact hx), at_new (at_new hi hdx) (by rw [upd_ne ne.symm]; exact hx), fun cd inp sl lg H1 s1 e1 n1 n2 n3 n4 d1 d2 d3 d4 d5 hcd hinp hsl hlg => ⟨rfl, ?_⟩⟩
  simp only [upd_nil] at n1 n2 n3 n4
  have sH : Same H H1 := fun b o e => by
    have hb : b ≠ x := ne_of_none e hx
    exact s1.at_ (at_ne (at_new e hdx) hb) (by simpa using hb)
  have M0 : MachAt A (minus H1 [x, sl, lg]) H1 ⟨x, dx, cd, inp, sl, lg⟩ code inputs (m0 inputs) [] := by
    refine ⟨⟨0, e1, rfl, Nat.zero_le _⟩, ⟨[], hsl, fun k => rfl, List.nodup_nil, fun k hk => by cases hk⟩, minus_le _ _, fun b hb => minus_at (by simpa [Mc.addrs] using hb), ?_, ⟨us, by rw [minus_ne (by simp; exact ⟨n1.2, d2.symm, d4.symm⟩)]; exact hcd, ?_⟩, hcl, by rw [minus_ne (by simp; exact ⟨n2.2, d3.symm, d5.symm⟩)]; exact hinp, [], hlg, Each.nil⟩
    · simp [Mc.addrs]; exact ⟨⟨fun z => n3.2 z.symm, fun z => n4.2 z.symm⟩, d1⟩
    · refine (hR.same sH).mono fun r v p => ?_
      obtain ⟨q, f1, f2⟩ := p
      refine ⟨q, f1, ?_⟩
      rw [minus_ne]
      · exact f2
      · simp; exact ⟨ne_of f2 e1 (by intro z; cases z), ne_of f2 hsl (by intro z; cases z), ne_of f2 hlg (by intro z; cases z)⟩
  have hrl1 := sH _ _ hrl
  walk_at "go"
  have sD : Same H (minus H1 [x, sl, lg]) := sH.minus fun b hb => by
    simp at hb
    rcases hb with rfl | (rfl | rfl)
    · exact hx
    · exact n3.1.1
    · exact n4.1.1
  have hrs1 := hrs.put sH
  refine w_lcL (xs := rs) fun wl hwl => ⟨fun k H' => ∃ xs : List Wt, xs.length = k ∧ Same H1 H' ∧ H' wl = some (.lst (xs.map fun a => V.ref a.p)) ∧ (∀ (j : Nat) (a : Wt), xs[j]? = some a → ∃ n r, rules[j]? = some (n, r) ∧ a.n = n ∧ WatchAt A (minus H1 [x, sl, lg]) H' a r []) ∧
      (∀ a ∈ xs, ∀ c ∈ a.addrs, H1 c = none ∧ c ≠ wl ∧ ∃ o, H' c = some o) ∧ (∀ (i j : Nat) (a b : Wt), xs[i]? = some a → xs[j]? = some b → i ≠ j → ∀ c ∈ a.addrs, ¬ c ∈ b.addrs),
    ⟨[], rfl, same_new hwl, upd_same, fun j a e => (by simp at e), fun a ha => (by cases ha), fun i j a b e => (by simp at e)⟩, fun k H' ⟨xs, _, s2, _⟩ => SqL.of (s2 _ _ hrl1), fun k v H' hk ⟨xs, ek, s2, ez, ew, ea, ed⟩ => ?_, fun H' ⟨xs, ek, s2, ez, ew, ea, ed⟩ => ?_⟩
  · obtain ⟨⟨n, r⟩, er, ra, ⟨tp, rfl, ht⟩, hra⟩ := hrs1.at_ k v hk
    obtain ⟨⟨n', r'⟩, er', ra', ⟨tp', etp, ht'⟩, hra'⟩ := hrs.at_ k _ hk
    cases etp
    have ht2 := s2 _ _ ht
    rw [sH _ _ ht'] at ht
    cases ht
    rw [er] at er'
    cases er'
    have okr := ok _ (List.mem_of_getElem? er)
    walk_at "go"
    refine ⟨rfl, ?_⟩
    walk_at "go"
    refine ⟨_, n, r, ra, rfl, hra'.put sD, (minus_le _ _).trans s2, okr.sides, fun a H2 s3 hf hn Wa => ?_⟩
    have ez2 := s3 _ _ ez
    refine ⟨_, ez2, ?_, xs ++ [a], by simp [ek], (s2.trans s3).put hwl, by rw [upd_same, List.map_append]; rfl, fun j b e => ?_, fun b hb => ?_, fun i j b b' e e' nij => ?_⟩
    · rw [List.length_map, ek]
      have h1 := (List.getElem?_eq_some_iff.mp er).1
      exact Nat.lt_of_lt_of_le h1 (Nat.le_trans hrn (by decide))
    · have hawl : ¬ wl ∈ a.addrs := fun z => by rw [hf wl z] at ez; cases ez
      have kp : ∀ {b : Wt} {r : Rl}, WatchAt A (minus H1 [x, sl, lg]) H2 b r [] → ¬ wl ∈ b.addrs → WatchAt A (minus H1 [x, sl, lg]) (upd H2 wl (.lst (xs.map (fun a => V.ref a.p) ++ [V.ref a.p]))) b r [] := fun {b r} W nw =>
        W.keep ((((minus_le _ _).trans s2).trans s3).put (by
          unfold minus
          split
          · rfl
          · exact hwl)) fun q o e hor => at_ne e fun z => by
            rcases hor with h1 | ⟨o', rfl⟩
            · exact nw (z ▸ h1)
            · rw [z, ez2] at e; cases e
      by_cases hj : j < xs.length
      · rw [List.getElem?_append_left hj] at e
        obtain ⟨n1, r1, f1, f2, f3⟩ := ew j b e
        exact ⟨n1, r1, f1, f2, kp (f3.put s3) fun z => (ea b (List.mem_of_getElem? e) wl z).2.1 rfl⟩
      · have hjl := (List.getElem?_eq_some_iff.mp e).1
        rw [List.length_append, List.length_singleton] at hjl
        have hjk : j = xs.length := by omega
        rw [hjk, List.getElem?_append_right (Nat.le_refl _), Nat.sub_self] at e
        cases e
        exact ⟨n, r, by rw [hjk, ek]; exact er, hn, kp Wa hawl⟩
    · rcases mem_a hb with hb | hb
      · intro c hc
        obtain ⟨f1, f2, o, f3⟩ := ea b hb c hc
        exact ⟨f1, f2, o, at_ne (s3 _ _ f3) f2⟩
      · rw [show b = _ from List.mem_singleton.mp hb]
        intro c hc
        have f1 := hf c hc
        have f2 : c ≠ wl := fun z => by rw [z, ez] at f1; cases f1
        obtain ⟨o, f3⟩ := Wa.there c hc
        exact ⟨s2.free f1, f2, o, at_ne f3 f2⟩
    · have side : ∀ (i : Nat) (b : Wt), (xs ++ [a])[i]? = some b → (xs[i]? = some b ∧ i < xs.length) ∨ (b = a ∧ i = xs.length) := fun i b e => by
        by_cases hi : i < xs.length
        · rw [List.getElem?_append_left hi] at e; exact .inl ⟨e, hi⟩
        · have hil := (List.getElem?_eq_some_iff.mp e).1
          rw [List.length_append, List.length_singleton] at hil
          have hik : i = xs.length := by omega
          rw [hik, List.getElem?_append_right (Nat.le_refl _), Nat.sub_self] at e
          cases e
          exact .inr ⟨rfl, hik⟩
      rcases side i b e with ⟨f1, f2⟩ | ⟨rfl, f2⟩
      · rcases side j b' e' with ⟨g1, g2⟩ | ⟨rfl, g2⟩
        · exact ed i j b b' f1 g1 nij
        · intro c hc hc'
          obtain ⟨_, _, o, h3⟩ := ea b (List.mem_of_getElem? f1) c hc
          rw [hf c hc'] at h3; cases h3
      · rcases side j b' e' with ⟨g1, g2⟩ | ⟨rfl, g2⟩
        · intro c hc hc'
          obtain ⟨_, _, o, h3⟩ := ea b' (List.mem_of_getElem? g1) c hc'
          rw [hf c hc] at h3; cases h3
        · exact absurd (f2.trans g2.symm) nij
  · have hlen : xs.length = rules.length := by rw [ek, hrs1.len]
    have L0 : Live A (minus H1 [x, sl, lg]) H' ⟨x, dx, cd, inp, sl, lg⟩ wl xs code inputs rules (m0 inputs) [] fun _ => [] := by
      refine ⟨M0.put s2, hlen, ew, ez, fun z => ?_, fun a ha z => (ea a ha wl z).2.1 rfl, ed, fun a ha c hc z => ?_⟩
      · simp [Mc.addrs] at z
        rcases z with rfl | rfl | rfl
        · rw [e1] at hwl; cases hwl
        · rw [hsl] at hwl; cases hwl
        · rw [hlg] at hwl; cases hwl
      · have := (ea a ha c hc).1
        simp [Mc.addrs] at z
        rcases z with rfl | rfl | rfl
        · rw [e1] at this; cases this
        · rw [hsl] at this; cases this
        · rw [hlg] at this; cases this
    walk_at "go"
    refine w_while (fun k σ H' => ∃ (P R : List Ent) (m : MC) (v5 v6 v7 v8 v9 v10 v11 v12 v13 v14 : Option V), k = R.length ∧ σ = [some (.ref c), some (.ref rl), some (.ref i), some (.ref x), some (.ref wl), v5, v6, v7, v8, v9, v10, v11, v12, v13, v14, none, none] ∧ L = P ++ R ∧
      Live A (minus H1 [x, sl, lg]) H' ⟨x, dx, cd, inp, sl, lg⟩ wl xs code inputs rules m P (fun _ => P) ∧ Runs code m R ∧ KeptAll rules P ∧ dueFrom rules P R = due rules L) L.length
      ⟨[], L, m0 inputs, none, none, none, none, none, none, none, none, none, none, rfl, rfl, rfl, L0, hrun, fun x _ => Kept.nil x.2, rfl⟩ ?_
    rintro k σ H2 ⟨P, R, m, v5, v6, v7, v8, v9, v10, v11, v12, v13, v14, rfl, rfl, eL, Lv, hR2, kept, hdue⟩
    obtain ⟨nn, m', r, near, hc', hend⟩ := hR2.near
    obtain ⟨u, ob, _⟩ := Lv.M.ob
    have hfin : seen m' r = none → r.isFin = true := fun z => by
      rcases hend with ⟨_, h, _⟩ | ⟨ev, es, h, _⟩
      · exact h
      · rw [h] at z; cases z
    walk_at "go"
    refine ⟨_, fun _ _ z => z, ?_⟩
    walk_at "go"
    refine ⟨_, ⟨x, dx, cd, inp, sl, lg⟩, code, inputs, m, m', P, r, nn, rfl, Lv.M, near, hc', hfin, fun H3 s3 M3 => ?_⟩
    have Lv3 := Lv.mach (s3.less (by simp [Mc.addrs])) M3
    obtain ⟨u3, ob3, _⟩ := M3.ob
    obtain ⟨ls, hls, hEs⟩ := M3.log
    have sN : Same H H3 := sD.trans M3.same
    refine ⟨fun hns => ?_, fun ev hev t ht => ?_⟩
    · have hR0 : R = [] := by
        rcases hend with ⟨_, _, h⟩ | ⟨ev, es, h, _⟩
        · exact h
        · rw [h] at hns; cases hns
      subst hR0
      rw [List.append_nil] at eL
      subst eL
      walk_at "go"
      refine ifT (by simp) ?_
      walk_at "go"
      intro p hp
      exact q1 hdue.symm p ls _ (sN.new hp) upd_same ((hEs.same (same_new hp)))
    · obtain ⟨es, hR3, hrun3⟩ : ∃ es, R = ev.ent m'.num :: es ∧ Runs code (doing m' r) es := by
        rcases hend with ⟨h, _, _⟩ | ⟨ev', es, h, h2, h3⟩
        · rw [h] at hev; cases hev
        · rw [hev] at h; cases h; exact ⟨es, h2, h3⟩
      subst hR3
      have hPL : P.length ≤ 4000 := by
        have : L.length = P.length + (es.length + 1) := by rw [eL, List.length_append, List.length_cons]
        omega
      have eL2 : L = (P ++ [ev.ent m'.num]) ++ es := by rw [eL, List.append_assoc]; rfl
      have hl3 := Lv3.l
      cases ev with
      | tie l a b =>
        have ht2 : H3 t = some (.tup [.int (m'.pc : Nat), .str "tie", .int (l : Nat), .int (a : Nat), .int (b : Nat)]) := ht
        walk_at "go"
        refine ifF (by simp) ?_
        walk_at "go"
        refine w_forL (xs := xs.map fun a => V.ref a.p) (fun i' σ H' => ∃ v11 : Option V, σ = [some (.ref c), some (.ref rl), some (.ref i), some (.ref x), some (.ref wl), some (.ref t), some (.int (m'.pc : Nat)), some (.str "tie"), some (.int (l : Nat)), some (.int (a : Nat)), some (.int (b : Nat)), v11, v12, v13, v14, none, none] ∧
            Live A (minus H1 [x, sl, lg]) H' ⟨x, dx, cd, inp, sl, lg⟩ wl xs code inputs rules m' P (fun j => if j < i' then P ++ [.tie l a b] else P))
          ⟨_, rfl, Lv3.same fun j _ => rfl⟩ (fun i' σ H' ⟨_, _, Lz⟩ => SqL.of Lz.l) ?_ ?_
        · rintro i' y σ H4 hi4 ⟨v11', rfl, Lv4⟩
          obtain ⟨y', hy', rfl⟩ : ∃ y', xs[i']? = some y' ∧ V.ref y'.p = y := by
            rw [List.getElem?_map] at hi4
            cases e : xs[i']? with
            | none => rw [e] at hi4; cases hi4
            | some y' => rw [e] at hi4; cases hi4; exact ⟨_, rfl, rfl⟩
          obtain ⟨n1, r1, f1, f2, W4⟩ := Lv4.at_ i' y' hy'
          rw [if_neg (Nat.lt_irrefl _)] at W4
          walk_at "go"
          refine w_two (sp := fun one => spTied A one) W4.ob rfl (fun _ => inferInstance) (fun _ => inferInstance) fun one hone => ?_
          walk_at "go"
          refine ⟨_, y', r1, P, l, a, b, rfl, W4, hone, hPL, fun H5 s5 W5 => ?_⟩
          walk_at "go"
          refine ⟨_, rfl, (Lv4.watch hy' f1 s5 W5).same fun j _ => ?_⟩
          by_cases hj : j = i'
          · subst hj; rw [if_pos rfl, if_pos (Nat.lt_succ_self _)]
          · by_cases hj2 : j < i'
            · rw [if_neg hj, if_pos hj2, if_pos (by omega)]
            · rw [if_neg hj, if_neg hj2, if_neg (by omega)]
        · rintro σ H4 ⟨v11', rfl, Lv4⟩
          rw [List.length_map] at Lv4
          obtain ⟨u4, ob4, _⟩ := Lv4.M.ob
          walk_at "go"
          refine ⟨_, ⟨x, dx, cd, inp, sl, lg⟩, code, inputs, m', P, r, _, rfl, Lv4.M, hPL, hc', hev, fun H5 s5 M5 => ?_⟩
          walk_at "go"
          refine ⟨es.length, Nat.lt_succ_self _, P ++ [.tie l a b], es, doing m' r, _, _, _, _, _, _, _, _, _, _, rfl, rfl, eL2, (Lv4.mach s5 M5).same fun j hj => if_pos hj, hrun3, fun x hx => (kept x hx).tie l a b, hdue⟩
      | deed l h t' =>
        have ht2 : H3 t = some (.tup [.int (m'.pc : Nat), .str "deed", .int (l : Nat), .int (h : Nat), .str t']) := ht
        walk_at "go"
        refine ifF (by simp) ?_
        walk_at "go"
        have ht3 : t'.length ≤ 100 := hw _ _ _ _ (by rw [eL]; exact List.mem_append_right _ List.mem_cons_self)
        have hwP : ∀ l h w n, Ent.deed l h w n ∈ P → w.length ≤ 100 := fun l h w n hm => hw _ _ _ _ (by rw [eL]; exact List.mem_append_left _ hm)
        have habP : ∀ l a b, Ent.tie l a b ∈ P → a ≠ b := fun l a b hm => hab l _ _ (by rw [eL]; exact List.mem_append_left _ hm)
        refine ⟨_, wl, xs, rules, P, h, t', rfl, hl3, Lv3.all, ok, ht3, hPL, fun hb H4 s4 => ?_, fun n y hb i' xw rw_ k' p H4 hx4 hr4 hb4 hy4 s4 hp4 => ?_⟩
        · have Lv4 := Lv3.put s4
          have hl4 := Lv4.l
          have hd2 : dueFrom rules (P ++ [.deed l h t' m'.num]) es = due rules L := by
            rw [← hdue]
            show _ = (match brkAt rules P h t' with | some x => some (P.length, x.1, x.2) | none => dueFrom rules (P ++ [Ent.deed l h t' m'.num]) es)
            rw [hb]
          walk_at "go"
          refine ifF (by simp) ?_
          walk_at "go"
          refine w_forL (xs := xs.map fun a => V.ref a.p) (fun i' σ H' => ∃ v11 : Option V, σ = [some (.ref c), some (.ref rl), some (.ref i), some (.ref x), some (.ref wl), some (.ref t), some (.int (m'.pc : Nat)), some (.str "deed"), some (.int (l : Nat)), some (.int (h : Nat)), some (.str t'), v11, some V.non, v13, v14, none, none] ∧
              Live A (minus H1 [x, sl, lg]) H' ⟨x, dx, cd, inp, sl, lg⟩ wl xs code inputs rules m' P (fun j => if j < i' then P ++ [.deed l h t' m'.num] else P))
            ⟨_, rfl, Lv4.same fun j _ => rfl⟩ (fun i' σ H' ⟨_, _, Lz⟩ => SqL.of Lz.l) ?_ ?_
          · rintro i' y σ H5 hi5 ⟨v11', rfl, Lv5⟩
            obtain ⟨y', hy', rfl⟩ : ∃ y', xs[i']? = some y' ∧ V.ref y'.p = y := by
              rw [List.getElem?_map] at hi5
              cases e : xs[i']? with
              | none => rw [e] at hi5; cases hi5
              | some y' => rw [e] at hi5; cases hi5; exact ⟨_, rfl, rfl⟩
            obtain ⟨n1, r1, f1, f2, W5⟩ := Lv5.at_ i' y' hy'
            rw [if_neg (Nat.lt_irrefl _)] at W5
            walk_at "go"
            refine w_two (sp := fun _ => spMove A) W5.ob rfl (fun _ => inferInstance) (fun _ => inferInstance) fun one hone => ?_
            walk_at "go"
            have hm1 := List.mem_of_getElem? f1
            refine ⟨_, y', r1, P, l, h, t', m'.num, rfl, W5, ok _ hm1, kept _ hm1, ht3, hPL, brkAt_none hb _ hm1, fun H6 s6 W6 => ?_⟩
            walk_at "go"
            refine ⟨_, rfl, (Lv5.watch hy' f1 (s6.less (by simp [Wt.addrs])) W6).same fun j _ => ?_⟩
            by_cases hj : j = i'
            · subst hj; rw [if_pos rfl, if_pos (Nat.lt_succ_self _)]
            · by_cases hj2 : j < i'
              · rw [if_neg hj, if_pos hj2, if_pos (by omega)]
              · rw [if_neg hj, if_neg hj2, if_neg (by omega)]
          · rintro σ H5 ⟨v11', rfl, Lv5⟩
            rw [List.length_map] at Lv5
            obtain ⟨u5, ob5, _⟩ := Lv5.M.ob
            walk_at "go"
            refine ⟨_, ⟨x, dx, cd, inp, sl, lg⟩, code, inputs, m', P, r, _, rfl, Lv5.M, hPL, hc', hev, fun H6 s6 M6 => ?_⟩
            walk_at "go"
            refine ⟨es.length, Nat.lt_succ_self _, P ++ [.deed l h t' m'.num], es, doing m' r, _, _, _, _, _, _, _, _, _, _, rfl, rfl, eL2, (Lv5.mach s6 M6).same fun j hj => if_pos hj, hrun3, fun x hx => (kept x hx).deed (brkAt_none hb x hx), hd2⟩
        · have Lv4 := Lv3.put s4
          have hd2 : due rules L = some (P.length, n, y) := by
            rw [← hdue]
            show (match brkAt rules P h t' with | some x => some (P.length, x.1, x.2) | none => dueFrom rules (P ++ [Ent.deed l h t' m'.num]) es) = _
            rw [hb]
          obtain ⟨u4, ob4, _⟩ := Lv4.M.ob
          obtain ⟨ls4, hls4, hE4⟩ := Lv4.M.log
          obtain ⟨n4, r4, f4, g4, W4⟩ := Lv4.at_ i' xw hx4
          rw [hr4] at f4
          cases f4
          obtain ⟨t2, ht2m, ht2n⟩ := brk1_key hb4
          have hword : wordOf y (.deed 0 h t' 0) = some t2 := ((touched_iff 0 0).mp ht2m).2
          walk_at "go"
          refine ifT (by simp) ?_
          walk_at "go"
          refine ⟨_, lg, ls4, xw, rw_, P, k', h, t', t2, y, rfl, hls4, hE4, hPL, hwP, habP, ht3, W4, hy4, hword, fun pr H5 s5 er => ?_⟩
          have W5 := W4.put s5
          have ob5 := s5 _ _ ob4
          have hls5 := s5 _ _ hls4
          have nm : xw.n = n := g4
          have obw := W5.ob
          walk_at "go"
          refine w_two (sp := fun one => spHandles A one) W5.ob rfl (fun _ => inferInstance) (fun _ => inferInstance) fun one hone => ?_
          walk_at "go"
          refine ⟨_, xw, rw_, P, k', y, rfl, W5, hone, hy4, fun lh H6 s6 eh => ?_⟩
          have ob6 := s6 _ _ ob5
          have hls6 := s6 _ _ hls5
          walk_at "go"
          intro ll hll
          refine ⟨by simp, fun ex hex => ?_⟩
          refine ⟨ex, _, _, _, _, _, rfl, upd_same, fun d H7 hd s7 e7 e8 => ⟨rfl, d, _, e7, e8, ?_, ?_⟩⟩
          · exact (upd_none hd).1
          · obtain ⟨hd1, hdx⟩ := upd_none hd
            have keep : ∀ {b : Addr} {o : HO}, upd H6 ll (.lst ls4) b = some o → upd (del H7 ex) d (.xd [("log", V.ref ll), ("row", V.ref pr), ("handles", V.ref lh), ("line", V.int (l : Nat)), ("rule", V.str xw.n)]) b = some o := fun {b o} e => by
              have h1 : b ≠ ex := ne_of_none e hex
              have h2 : b ≠ d := ne_of_none e hd1
              rw [upd_ne h2]
              show del H7 ex b = some o
              rw [del_ne h1]
              exact s7.at_ (at_ne e h1) (by simpa using h1)
            have sF : Same H (upd (del H7 ex) d (.xd [("log", V.ref ll), ("row", V.ref pr), ("handles", V.ref lh), ("line", V.int (l : Nat)), ("rule", V.str xw.n)])) := fun b o e => keep (at_new (s6 _ _ (s5 _ _ (s4 _ _ (sN _ _ e)))) hll)
            refine q2 P.length n y l h t' m'.num hd2 ?_ d lh pr ll ls4 _ sF ?_ ?_ ?_ ?_ ?_
            · rw [eL, List.getElem?_append_right (Nat.le_refl _), Nat.sub_self]; rfl
            · rw [upd_same, nm]; rfl
            · exact keep (at_new eh hll)
            · refine keep (at_new (s6 _ _ (er.trans ?_)) hll)
              have et : L.take (P.length + 1) = P ++ [Ent.deed l h t' m'.num] := by
                rw [eL, List.take_append, List.take_of_length_le (by omega), show P.length + 1 - P.length = 1 by omega]
                rfl
              rw [et, rowOf_snoc (keyAt_key hy4).start]
              have : wordOf y (Ent.deed l h t' m'.num) = some t2 := hword
              rw [this]
              rfl
            · exact keep upd_same
            · rw [eL, List.take_left]
              exact (hE4.mono fun e v p => by
                obtain ⟨q, f1, f2⟩ := p
                exact ⟨q, f1, keep (at_new (s6 _ _ (s5 _ _ f2)) hll)⟩)
end

end U
namespace U
open PySem L2
/-! the steps that need no word -/
local macro_rules | `(tactic| walk_at "h") => `(tactic| focus ((repeat (first | assumption | exact upd_same | (apply at_ne; rotate_left; (first | assumption | exact Ne.symm (by assumption))) | (apply at_new; rotate_left; assumption))); done))
local macro_rules | `(tactic| walk_at "go") => `(tactic| repeat (with_reducible first
  | refine Go.by_ ?_
  | (apply w_at; (first | assumption | exact upd_same))
  | (apply w_sqT; (first | assumption | exact SqT.of (by assumption) | exact SqT.of upd_same))
  | (apply w_sqL; (first | assumption | exact SqL.of (by assumption) | exact SqL.of upd_same))
  | (apply w_sqLT1; (first | assumption | exact SqL.of (by assumption) | exact SqL.of upd_same))
  | (apply w_sqLT2; (first | assumption | exact SqT.of (by assumption) | exact SqT.of upd_same))
  | (apply w_at; walk_at "h")
  | (apply w_sqT; focus (apply SqT.of; walk_at "h"))
  | (apply w_sqL; focus (apply SqL.of; walk_at "h"))
  | (apply w_sqLT1; focus (apply SqL.of; walk_at "h"))
  | (apply w_sqLT2; focus (apply SqT.of; walk_at "h"))
  | (apply w_strT; decide)
  | (apply w_strF; decide)
  | (apply w_gTupH; (with_unfolding_all rfl))
  | (apply w_ixA; (first | assumption | with_unfolding_all rfl))))
local macro_rules | `(tactic| walk_at "k") => `(tactic| ((try dsimp only [cxOf, Cx.nox, List.map_cons, List.map_nil]); refine w_start ?_))
/-! ## Programs: lines and names -/
def fitW (s : Str) : Prop := s.length ≤ 100 ∧ ¬ 32 ∈ TL.tl s ∧ PyData.strOk s = true
def plV : Pl → List V
  | .opn x => [.str "open", .str x]
  | .act t x => [.str "do", .str t, .str x]
  | .cpy x y => [.str "copy", .str x, .str y]
  | .drp x => [.str "drop", .str x]
  | .tie x y => [.str "tie", .str x, .str y]
def plS : Pl → List Str
  | .opn x => ["open", x]
  | .act t x => ["do", t, x]
  | .cpy x y => ["copy", x, y]
  | .drp x => ["drop", x]
  | .tie x y => ["tie", x, y]
def plFit : Pl → Prop
  | .opn x => fitW x
  | .act t x => fitW t ∧ fitW x
  | .cpy x y => fitW x ∧ fitW y
  | .drp x => fitW x
  | .tie x y => fitW x ∧ fitW y
mutual
def StepAt (H : Hp) : Step → V → Prop
  | .pl p, v => TupAt H (plV p) v
  | .lend x y b, v => ∃ (l : Addr) (vs : List V), TupAt H [.str "lend", .str x, .str y, .ref l] v ∧ H l = some (.lst vs) ∧ StepsAt H b vs
  | .ite n b c, v => ∃ (l k : Addr) (vs ws : List V), TupAt H [.str "if", .int n, .ref l, .ref k] v ∧ H l = some (.lst vs) ∧ StepsAt H b vs ∧ H k = some (.lst ws) ∧ StepsAt H c ws
  | .whl n b, v => ∃ (l : Addr) (vs : List V), TupAt H [.str "while", .int n, .ref l] v ∧ H l = some (.lst vs) ∧ StepsAt H b vs
def StepsAt (H : Hp) : List Step → List V → Prop
  | [], vs => vs = []
  | s :: r, vs => ∃ v ws, vs = v :: ws ∧ StepAt H s v ∧ StepsAt H r ws
end
mutual
def FitS : Step → Prop
  | .pl p => plFit p
  | .lend x y b => fitW x ∧ fitW y ∧ FitL b
  | .ite n b c => n.natAbs.log2 < 1920 ∧ FitL b ∧ FitL c
  | .whl n b => n.natAbs.log2 < 1920 ∧ FitL b
def FitL : List Step → Prop
  | [] => True
  | s :: r => FitS s ∧ FitL r
end
mutual
theorem StepAt.same {H H' : Hp} (e : Same H H') : ∀ {s : Step} {v : V}, StepAt H s v → StepAt H' s v
  | .pl _, v, h => TupAt.same e h
  | .lend _ _ _, v, h => by
    obtain ⟨l, vs, a, b, c⟩ := h
    exact ⟨l, vs, a.same e, e _ _ b, StepsAt.same e c⟩
  | .ite _ _ _, v, h => by
    obtain ⟨l, k, vs, ws, a, b, c, d, f⟩ := h
    exact ⟨l, k, vs, ws, a.same e, e _ _ b, StepsAt.same e c, e _ _ d, StepsAt.same e f⟩
  | .whl _ _, v, h => by
    obtain ⟨l, vs, a, b, c⟩ := h
    exact ⟨l, vs, a.same e, e _ _ b, StepsAt.same e c⟩
theorem StepsAt.same {H H' : Hp} (e : Same H H') : ∀ {ss : List Step} {vs : List V}, StepsAt H ss vs → StepsAt H' ss vs
  | [], vs, h => h
  | _ :: _, vs, h => by
    obtain ⟨v, ws, a, b, c⟩ := h
    exact ⟨v, ws, a, StepAt.same e b, StepsAt.same e c⟩
end
theorem StepsAt.each {H : Hp} : ∀ {ss : List Step} {vs : List V}, StepsAt H ss vs → Each (StepAt H) ss vs
  | [], vs, h => by rw [show vs = [] from h]; exact Each.nil
  | s :: r, vs, h => by
    obtain ⟨v, ws, rfl, b, c⟩ := h
    exact (StepsAt.each c).cons b
theorem FitL.mem : ∀ {ss : List Step}, FitL ss → ∀ s ∈ ss, FitS s
  | [], _, s, h => by cases h
  | a :: r, h, s, hm => by
    rcases mem_c hm with rfl | hm
    · exact h.1
    · exact FitL.mem h.2 s hm
theorem deepL_mem : ∀ {ss : List Step} {s : Step}, s ∈ ss → deepS s ≤ deepL ss
  | a :: r, s, hm => by
    rcases mem_c hm with rfl | hm
    · exact Nat.le_max_left _ _
    · exact Nat.le_trans (deepL_mem hm) (Nat.le_max_right _ _)
theorem linesL_mem : ∀ {ss : List Step} {s : Step}, s ∈ ss → linesS s ≤ linesL ss
  | a :: r, s, hm => by
    rcases mem_c hm with rfl | hm
    · exact Nat.le_add_right _ _
    · exact Nat.le_trans (linesL_mem hm) (Nat.le_add_left _ _)
mutual
def linS : Step → List Str
  | .pl p => [Txt.join " " (plS p)]
  | .lend x y b => (("lend " : Str) ++ x ++ " " ++ y) :: (linL b ++ [("back" : Str)])
  | .ite n b c => (("if " : Str) ++ toString n) :: (linL b ++ (("else" : Str) :: (linL c ++ [("fi" : Str)])))
  | .whl n b => (("while " : Str) ++ toString n) :: (linL b ++ [("done" : Str)])
def linL : List Step → List Str
  | [] => []
  | s :: r => linS s ++ linL r
end
mutual
theorem linS_len : ∀ s : Step, (linS s).length = linesS s
  | .pl p => rfl
  | .lend x y b => by simp only [linS, linesS, List.length_cons, List.length_append, List.length_nil, linL_len b]; omega
  | .ite n b c => by simp only [linS, linesS, List.length_cons, List.length_append, List.length_nil, linL_len b, linL_len c]; omega
  | .whl n b => by simp only [linS, linesS, List.length_cons, List.length_append, List.length_nil, linL_len b]; omega
theorem linL_len : ∀ ss : List Step, (linL ss).length = linesL ss
  | [] => rfl
  | s :: r => by simp only [linL, linesL, List.length_append, linS_len s, linL_len r]
end
theorem linL_snoc : ∀ {ss : List Step} {i : Nat} {s : Step}, ss[i]? = some s → linL (ss.take (i + 1)) = linL (ss.take i) ++ linS s
  | a :: r, 0, s, e => by
    have : a = s := by simpa using e
    subst this
    show linS a ++ linL [] = [] ++ linS a
    simp [linL]
  | a :: r, i + 1, s, e => by
    have e' : r[i]? = some s := by simpa using e
    show linS a ++ linL (r.take (i + 1)) = (linS a ++ linL (r.take i)) ++ linS s
    rw [linL_snoc e', List.append_assoc]
theorem linesL_take (ss : List Step) (i : Nat) : linesL (ss.take i) ≤ linesL ss := by
  have h : ∀ (a b : List Step), linesL a ≤ linesL (a ++ b) := by
    intro a b
    induction a with
    | nil => exact Nat.zero_le _
    | cons x a ih => show linesS x + linesL a ≤ linesS x + linesL (a ++ b); omega
  have := h (ss.take i) (ss.drop i)
  rwa [List.take_append_drop] at this
def spLinS (d : Nat) : Sp := fun vs H Q _ => ∃ (v : V) (s : Step), vs = [v] ∧ StepAt H s v ∧ FitS s ∧ deepS s < d ∧ linesS s ≤ 1000 ∧ ∀ (p : Addr) (H' : Hp), Same H H' → H' p = some (.lst ((linS s).map V.str)) → Q (.ref p) H'
def spLinL (d : Nat) : Sp := fun vs H Q _ => ∃ (l : Addr) (ws : List V) (ss : List Step), vs = [.ref l] ∧ H l = some (.lst ws) ∧ StepsAt H ss ws ∧ FitL ss ∧ deepL ss < d ∧ linesL ss ≤ 1000 ∧ ∀ (p : Addr) (H' : Hp), Same H H' → H' p = some (.lst ((linL ss).map V.str)) → Q (.ref p) H'
def m1R (r : V → List V → Hp → VK → Prop) (te : TE) (σ : L2.St) (x : V) (H : Hp) (Q : VK) : Prop := (∃ a, x = .str a) ∧ te σ H fun y H2 => r x [y] H2 Q
instance {r : V → List V → Hp → VK → Prop} {to te : TE} {σ : L2.St} {H : Hp} {Q : VK} : Go (tM1 r to te σ H Q) (to σ H fun x H1 => m1R r te σ x H1 Q) := ⟨fun q => q⟩
instance {r : V → List V → Hp → VK → Prop} {te : TE} {σ : L2.St} {H : Hp} {Q : VK} {a : Str} : Go (m1R r te σ (.str a) H Q) (te σ H fun y H2 => r (.str a) [y] H2 Q) := ⟨fun q => ⟨⟨a, rfl⟩, q⟩⟩
theorem w_addS {a b : Str} {Q : VK} {H : Hp} (h : a.length + b.length ≤ 10000) (q : Q (.str (a ++ b)) H) : ∃ i j, V.str a = V.str i ∧ V.str b = V.str j ∧ i.length + j.length ≤ sizeLine ∧ Q (.str (i ++ j)) H := ⟨a, b, rfl, rfl, Nat.le_trans h (by decide), q⟩
theorem w_cat {a b : Addr} {xs ys : List V} {H : Hp} {Q : VK} (ha : H a = some (.lst xs)) (hb : H b = some (.lst ys)) (h : xs.length + ys.length ≤ 100000) (q : ∀ p, H p = none → Q (.ref p) (upd H p (.lst (xs ++ ys)))) : rCat (.ref a) (.ref b) H Q := ⟨a, b, xs, ys, rfl, rfl, ha, hb, Nat.le_trans h (by decide), q⟩
theorem num_len {n : Int} (h : n.natAbs.log2 < 1920) : (toString n : Str).length ≤ 5000 := by
  have len := int_text_length_le (k := 1920) (by decide) h
  rw [ofString_length]; omega
theorem fn_no {P : Program} {w : World} {K : PySem.W.Frag} {mg : Str → Option Value} {base : Heap} {CX : CXT} {k : Nat} {f : Addr} {fd : FuncData} {ps : List Str} {sp : Sp} (h : ∀ vs H Q E, ¬ sp vs H Q E) : FnOk P w K mg base CX k f fd ps sp :=
  ⟨fun vs H Q E q => (h vs H Q E q).elim, fun _ _ _ _ _ _ _ _ _ _ _ _ _ q => (h _ _ _ _ q).elim⟩
section
variable {P : Program} {w : World} {K : PySem.W.Frag} {mg : Str → Option Value} {base : Heap} {A : Ad} (T : Tx K mg A)
include T
theorem ok_lines_of_step_ {k d : Nat} (G_lines_of : FnOk P w K mg base CX0 k A.f_lines_of A.d_lines_of ["program"] (spLinL d)) : FnOk P w K mg base CX0 (k + 1) A.f_lines_of_step A.d_lines_of_step ["step"] (spLinS (d + 1)) := by
  refine T.F_lines_of_step.ok sc_lines_of_step (fun vs H Q E h => ?_) (fun cdv A' outer s H vs Q E hr h => ?_)
  · obtain ⟨v, s, rfl, _⟩ := h
    rfl
  obtain ⟨v, st, rfl, hst, fit, hd, hl, q⟩ := h
  refine ⟨_, (pss_cons (ps_if (pt_cmpR op_eq (pe_ix ix_tup (pv 0) pe_int (fun _ _ => rfl)) pe_str (nomark _)) (pss_one (ps_ret (pe_op op_cat (pe_op op_cat (pe_lst (pa_cons (pe_op op_add_str (pe_op op_add_str (pe_op op_add_str pe_str (pe_ix ix_tup (pv 0) pe_int (fun _ _ => rfl))) pe_str) (pe_ix ix_tup (pv 0) pe_int (fun _ _ => rfl))) pa_nil)) (pe_call G_lines_of hr rfl T.m_lines_of T.F_lines_of.kp T.b_lines_of .nil pass0 (pa_cons (pe_ix ix_tup (pv 0) pe_int (fun _ _ => rfl)) pa_nil))) (pe_lst (pa_cons pe_str pa_nil))))) pss_nil)
    (pss_cons (ps_if (pt_cmpR op_eq (pe_ix ix_tup (pv 0) pe_int (fun _ _ => rfl)) pe_str (nomark _)) (pss_one (ps_ret (pe_op op_cat (pe_op op_cat (pe_op op_cat (pe_op op_cat (pe_lst (pa_cons (pe_op op_add_str pe_str (pe_callTy call_str_int (by rfl) T.z_str (by decide +kernel) (pa_cons (pe_ix ix_tup (pv 0) pe_int (fun _ _ => rfl)) pa_nil))) pa_nil)) (pe_call G_lines_of hr rfl T.m_lines_of T.F_lines_of.kp T.b_lines_of .nil pass0 (pa_cons (pe_ix ix_tup (pv 0) pe_int (fun _ _ => rfl)) pa_nil))) (pe_lst (pa_cons pe_str pa_nil))) (pe_call G_lines_of hr rfl T.m_lines_of T.F_lines_of.kp T.b_lines_of .nil pass0 (pa_cons (pe_ix ix_tup (pv 0) pe_int (fun _ _ => rfl)) pa_nil))) (pe_lst (pa_cons pe_str pa_nil))))) pss_nil)
    (pss_cons (ps_if (pt_cmpR op_eq (pe_ix ix_tup (pv 0) pe_int (fun _ _ => rfl)) pe_str (nomark _)) (pss_one (ps_ret (pe_op op_cat (pe_op op_cat (pe_lst (pa_cons (pe_op op_add_str pe_str (pe_callTy call_str_int (by rfl) T.z_str (by decide +kernel) (pa_cons (pe_ix ix_tup (pv 0) pe_int (fun _ _ => rfl)) pa_nil))) pa_nil)) (pe_call G_lines_of hr rfl T.m_lines_of T.F_lines_of.kp T.b_lines_of .nil pass0 (pa_cons (pe_ix ix_tup (pv 0) pe_int (fun _ _ => rfl)) pa_nil))) (pe_lst (pa_cons pe_str pa_nil))))) pss_nil)
    (pss_one (ps_ret (pe_lst (pa_cons (pe_join pe_str (pv 0)) pa_nil))))))), ?_⟩
  walk_at "k"
  cases st with
  | pl p =>
    obtain ⟨a, rfl, ha⟩ := hst
    have fin : ∀ (ts : List Str), plV p = ts.map V.str → ts.length = (plS p).length → ts = plS p → (ts.map (·.length)).sum ≤ 1000 →
        SqT K H a ((plS p).map V.str) ∧ ((plS p).map (·.length)).sum + (plS p).length * (" " : Str).length ≤ 16777216 := fun ts e1 _ e2 e3 => by
      subst e2
      have h1 : (plS p).length ≤ 3 := by cases p <;> simp [plS]
      have h2 : (" " : Str).length = 1 := by decide
      rw [h2]
      exact ⟨SqT.of (by rw [ha, e1]), by omega⟩
    have small : ((plS p).map (·.length)).sum ≤ 1000 := by
      have l1 : ("open" : Str).length = 4 := by decide
      have l2 : ("do" : Str).length = 2 := by decide
      have l3 : ("copy" : Str).length = 4 := by decide
      have l4 : ("drop" : Str).length = 4 := by decide
      have l5 : ("tie" : Str).length = 3 := by decide
      cases p with
      | opn x => have := fit.1; simp [plS, l1]; omega
      | act t x => have h1 := fit.1.1; have h2 := fit.2.1; simp [plS, l2]; omega
      | cpy x y => have h1 := fit.1.1; have h2 := fit.2.1; simp [plS, l3]; omega
      | drp x => have := fit.1; simp [plS, l4]; omega
      | tie x y => have h1 := fit.1.1; have h2 := fit.2.1; simp [plS, l5]; omega
    have ha2 : ∃ hd tl, plV p = .str hd :: tl ∧ decide (hd = "lend") = false ∧ decide (hd = "if") = false ∧ decide (hd = "while") = false := by
      cases p <;> exact ⟨_, _, rfl, by decide, by decide, by decide⟩
    obtain ⟨hd, tl, e0, c1, c2, c3⟩ := ha2
    have ha0 := ha
    rw [e0] at ha0
    have h0 : atI (V.str hd :: tl) (0 : Int) = some (.str hd) := atI_nat (j := 0) (show (V.str hd :: tl)[0]? = _ from rfl)
    walk_at "go"
    refine ifF c1 ?_
    walk_at "go"
    refine ifF c2 ?_
    walk_at "go"
    refine ifF c3 ?_
    walk_at "go"
    obtain ⟨f1, f2⟩ := fin (plS p) (by cases p <;> rfl) rfl rfl small
    refine ⟨_, _, plS p, rfl, rfl, .inr f1, f2, ?_⟩
    walk_at "go"
    exact fun z hz => q z _ (same_new hz) upd_same
  | lend x y b =>
    obtain ⟨l, vs, ⟨a, rfl, ha⟩, hb1, hb2⟩ := hst
    obtain ⟨fx, fy, fb⟩ := fit
    have l1 : ("lend " : Str).length = 5 := by decide
    have l2 : (" " : Str).length = 1 := by decide
    have fx1 := fx.1
    have fy1 := fy.1
    have dl : deepL b < d := by have : deepS (.lend x y b) = 1 + deepL b := rfl; omega
    have ll : linesL b ≤ 998 := by have : linesS (.lend x y b) = 1 + (1 + linesL b) := rfl; omega
    have lb := linL_len b
    walk_at "go"
    refine ⟨_, _, rfl, rfl, Nat.le_trans (m := 10000) ?_ (by decide), ?_⟩
    · omega
    walk_at "go"
    refine ⟨_, _, rfl, rfl, Nat.le_trans (m := 10000) ?_ (by decide), ?_⟩
    · rw [str_len]
      omega
    walk_at "go"
    refine ⟨_, _, rfl, rfl, Nat.le_trans (m := 10000) ?_ (by decide), ?_⟩
    · rw [str_len, str_len]
      omega
    walk_at "go"
    intro z hz
    walk_at "go"
    refine ⟨l, vs, b, rfl, at_new hb1 hz, StepsAt.same (same_new hz) hb2, fb, dl, by omega, fun p H1 s1 e1 => ?_⟩
    walk_at "go"
    refine w_cat (s1 _ _ upd_same) e1 (by simp; omega) fun z2 hz2 => ?_
    walk_at "go"
    intro z3 hz3
    refine w_cat (at_new upd_same hz3) upd_same (by simp; omega) fun z4 hz4 => ?_
    refine q z4 _ ((((same_new hz).trans s1).new hz2 |>.new hz3).new hz4) ?_
    rw [upd_same]
    simp [linS]
  | ite n b c =>
    obtain ⟨l, k2, vs, ws, ⟨a, rfl, ha⟩, hb1, hb2, hc1, hc2⟩ := hst
    obtain ⟨fn, fb, fc⟩ := fit
    have l1 : ("if " : Str).length = 3 := by decide
    have ln := num_len fn
    have dl : deepL b < d ∧ deepL c < d := by have : deepS (.ite n b c) = 1 + max (deepL b) (deepL c) := rfl; omega
    have ll : linesL b + linesL c ≤ 997 := by have : linesS (.ite n b c) = 1 + (1 + linesL b) + (1 + linesL c) := rfl; omega
    have lb := linL_len b
    have lc := linL_len c
    walk_at "go"
    refine ⟨n, rfl, fn, ?_⟩
    refine ⟨_, _, rfl, rfl, Nat.le_trans (m := 10000) ?_ (by decide), ?_⟩
    · omega
    walk_at "go"
    intro z hz
    walk_at "go"
    refine ⟨l, vs, b, rfl, at_new hb1 hz, StepsAt.same (same_new hz) hb2, fb, dl.1, by omega, fun p H1 s1 e1 => ?_⟩
    walk_at "go"
    refine w_cat (s1 _ _ upd_same) e1 (by simp; omega) fun z2 hz2 => ?_
    walk_at "go"
    intro z3 hz3
    refine w_cat (at_new upd_same hz3) upd_same (by simp; omega) fun z4 hz4 => ?_
    have s4 := (((((same_new hz).trans s1).new hz2 |>.new hz3).new (o := .lst (([V.str (("if " : Str) ++ toString n)] ++ (linL b).map V.str) ++ [V.str "else"])) hz4))
    have ha4 := s4 _ _ ha
    walk_at "go"
    refine ⟨k2, ws, c, rfl, s4 _ _ hc1, StepsAt.same s4 hc2, fc, dl.2, by omega, fun p5 H5 s5 e5 => ?_⟩
    refine w_cat (s5 _ _ upd_same) e5 (by simp; omega) fun z6 hz6 => ?_
    walk_at "go"
    intro z7 hz7
    refine w_cat (at_new upd_same hz7) upd_same (by simp; omega) fun z8 hz8 => ?_
    refine q z8 _ (((s4.trans s5).new hz6 |>.new hz7).new hz8) ?_
    rw [upd_same]
    simp [linS]
  | whl n b =>
    obtain ⟨l, vs, ⟨a, rfl, ha⟩, hb1, hb2⟩ := hst
    obtain ⟨fn, fb⟩ := fit
    have l1 : ("while " : Str).length = 6 := by decide
    have ln := num_len fn
    have dl : deepL b < d := by have : deepS (.whl n b) = 1 + deepL b := rfl; omega
    have ll : linesL b ≤ 998 := by have : linesS (.whl n b) = 1 + (1 + linesL b) := rfl; omega
    have lb := linL_len b
    walk_at "go"
    refine ⟨n, rfl, fn, ?_⟩
    refine ⟨_, _, rfl, rfl, Nat.le_trans (m := 10000) ?_ (by decide), ?_⟩
    · omega
    walk_at "go"
    intro z hz
    walk_at "go"
    refine ⟨l, vs, b, rfl, at_new hb1 hz, StepsAt.same (same_new hz) hb2, fb, dl, by omega, fun p H1 s1 e1 => ?_⟩
    walk_at "go"
    refine w_cat (s1 _ _ upd_same) e1 (by simp; omega) fun z2 hz2 => ?_
    walk_at "go"
    intro z3 hz3
    refine w_cat (at_new upd_same hz3) upd_same (by simp; omega) fun z4 hz4 => ?_
    refine q z4 _ ((((same_new hz).trans s1).new hz2 |>.new hz3).new hz4) ?_
    rw [upd_same]
    simp [linS]
theorem ok_lines_of_ {k d : Nat} (G_lines_of_step : FnOk P w K mg base CX0 k A.f_lines_of_step A.d_lines_of_step ["step"] (spLinS d)) : FnOk P w K mg base CX0 (k + 1) A.f_lines_of A.d_lines_of ["program"] (spLinL d) := by
  refine T.F_lines_of.ok sc_lines_of (fun vs H Q E h => ?_) (fun cdv A' outer s H vs Q E hr h => ?_)
  · obtain ⟨l, ws, ss, rfl, _⟩ := h
    rfl
  obtain ⟨l, ws, ss, rfl, hl, hss, fit, hd, hle, q⟩ := h
  have EA := hss.each
  refine ⟨_, (pss_cons (ps_set (i := 1) sc_lines_of.nd rfl (Or.inl rfl) (pe_lst pa_nil))
    (pss_cons (ps_for PassesOwn.never rfl (pi_list (pv 0)) (pg_name (i := 2) sc_lines_of.nd rfl (Or.inl rfl)) (pss_one (ps_expr (pe_bm PySem.F.plainAttrs_list PySem.F.slot_list_extend PySem.F.type_list_extend mt_extend (pv 1) (pa_cons (pe_call G_lines_of_step hr rfl T.m_lines_of_step T.F_lines_of_step.kp T.b_lines_of_step .nil pass0 (pa_cons (pv 2) pa_nil)) pa_nil)))))
    (pss_one (ps_ret (pv 1))))), ?_⟩
  walk_at "k"
  walk_at "go"
  intro z hz
  walk_at "go"
  refine w_forL (xs := ws) (fun i σ H' => ∃ ev : Option V, σ = [some (.ref l), some (.ref z), ev] ∧ Same H H' ∧ H' z = some (.lst ((linL (ss.take i)).map V.str)))
    ⟨none, rfl, same_new hz, upd_same⟩ (fun i σ H' ⟨_, _, s1, _⟩ => SqL.of (s1 _ _ hl)) ?_ ?_
  · rintro i v σ H' hi ⟨ev, rfl, s1, e1⟩
    obtain ⟨s, hs, hv⟩ := EA.at_ i v hi
    have hm := List.mem_of_getElem? hs
    walk_at "go"
    refine ⟨v, s, rfl, hv.same s1, fit.mem s hm, Nat.lt_of_le_of_lt (deepL_mem hm) hd, Nat.le_trans (linesL_mem hm) hle, fun p H2 s2 e2 => ?_⟩
    walk_at "go"
    have e12 := s2 _ _ e1
    have hlen : linesL (ss.take (i + 1)) ≤ 1000 := Nat.le_trans (linesL_take _ _) hle
    rw [← linL_len, linL_snoc hs, List.length_append] at hlen
    refine ⟨z, p, _, _, rfl, rfl, e12, e2, ?_, ?_⟩
    · rw [List.length_map, List.length_map]
      exact Nat.le_trans hlen (by decide)
    walk_at "go"
    refine ⟨_, rfl, (s1.trans s2).put hz, ?_⟩
    rw [upd_same, linL_snoc hs, List.map_append]
  · rintro σ H' ⟨ev, rfl, s1, e1⟩
    walk_at "go"
    refine q z H' s1 ?_
    rw [EA.len, List.take_length] at e1
    exact e1
theorem ok_lines : ∀ d : Nat, FnOk P w K mg base CX0 (2 * d + 1) A.f_lines_of A.d_lines_of ["program"] (spLinL d)
  | 0 => fn_no fun vs H Q E ⟨_, _, _, _, _, _, _, h, _⟩ => by omega
  | d + 1 => ok_lines_of_ T (ok_lines_of_step_ T (ok_lines d))
end
/-! names -/
theorem w_inT {K : PySem.W.Frag} {H : Hp} {Q : VK} {p : Addr} {ws : List Str} {t : Str} (h : SqT K H p (ws.map V.str)) (q : Q (.bl (decide (t ∈ ws))) H) : rIn K false (.str t) (.ref p) H Q :=
  ⟨p, _, rfl, .inr h, rfl, flat_strs ws, by show Q (.bl (inV (.str t) (ws.map V.str))) H; rw [inV_strs]; exact q⟩
def namesW (w0 : Str) (r : List Str) : List Str := if w0 = "if" ∨ w0 = "while" then [] else if w0 = "do" then r.drop 1 else r
def namesLine (line : Str) : List Str := match Txt.split line " " with
  | [] => []
  | w0 :: r => namesW w0 r
def addK (acc : List Str) (x : Str) : List Str := if x ∈ acc then acc else acc ++ [x]
def namesOf (ls : List Str) : List Str := (ls.flatMap namesLine).foldl addK []
def GoodLine (line : Str) : Prop := line.length ≤ 6000 ∧ ∃ w0 r, Txt.split line " " = w0 :: r ∧ r.length ≤ 6000
def spNamesIn : Sp := fun vs H Q _ => ∃ line : Str, vs = [.str line] ∧ GoodLine line ∧ ∀ (p : Addr) (H' : Hp), Same H H' → H' p = some (.lst ((namesLine line).map V.str)) → Q (.ref p) H'
def spNamesOf : Sp := fun vs H Q _ => ∃ (l : Addr) (ws : List V) (ss : List Step), vs = [.ref l] ∧ H l = some (.lst ws) ∧ StepsAt H ss ws ∧ FitL ss ∧ deepL ss < 6 ∧ linesL ss ≤ 1000 ∧ (∀ x ∈ linL ss, GoodLine x) ∧ (linL ss).length * 6000 ≤ 10000000 ∧ ∀ (p : Addr) (H' : Hp), Same H H' → H' p = some (.lst ((namesOf (linL ss)).map V.str)) → Q (.ref p) H'
instance {r : V → List V → Hp → VK → Prop} {to : TE} {σ : L2.St} {H : Hp} {Q : VK} {a : Str} : Go (m1R r to σ (.str a) H Q) (to σ H fun y H2 => r (.str a) [y] H2 Q) := ⟨fun q => ⟨⟨a, rfl⟩, q⟩⟩
section
variable {P : Program} {w : World} {K : PySem.W.Frag} {mg : Str → Option Value} {base : Heap} {A : Ad} (T : Tx K mg A)
include T
theorem ok_names_in : FnOk P w K mg base CX0 1 A.f_names_in A.d_names_in ["line"] spNamesIn := by
  refine T.F_names_in.ok sc_names_in (fun vs H Q E h => ?_) (fun cdv A' outer s H vs Q E hr h => ?_)
  · obtain ⟨line, rfl, _⟩ := h
    rfl
  obtain ⟨line, rfl, ⟨hlen, w0, r, hsp, hr6⟩, q⟩ := h
  refine ⟨_, (pss_cons (ps_set (i := 1) sc_names_in.nd rfl (Or.inl rfl) (pe_split (pv 0) pe_str))
    (pss_cons (ps_if (pt_cmpR op_in_seq (pe_ix ix_list (pv 1) pe_int (fun _ _ => rfl)) (pe_tup (pa_cons pe_str (pa_cons pe_str pa_nil))) rfl) (pss_one (ps_ret (pe_lst pa_nil))) pss_nil)
    (pss_cons (ps_if (pt_cmpR op_eq (pe_ix ix_list (pv 1) pe_int (fun _ _ => rfl)) pe_str (nomark _)) (pss_one (ps_ret (pe_slice sl_list (pv 1) (po_some pe_int) po_none))) pss_nil)
    (pss_one (ps_ret (pe_slice sl_list (pv 1) (po_some pe_int) po_none)))))), ?_⟩
  walk_at "k"
  walk_at "go"
  refine ⟨line, " ", rfl, rfl, by decide, Nat.le_trans (show _ ≤ 6002 by omega) (by decide), fun p hp => ?_⟩
  have en : namesLine line = namesW w0 r := by unfold namesLine; rw [hsp]
  rw [hsp]
  have h0 : atI ((w0 :: r).map V.str) (0 : Int) = some (.str w0) := atI_nat (j := 0) (show ((w0 :: r).map V.str)[0]? = _ from rfl)
  walk_at "go"
  intro t ht
  have hp2 := at_new (u := .tup [V.str "if", V.str "while"]) (upd_same (H := H) (a := p) (o := .lst ((w0 :: r).map V.str))) ht
  refine w_inT (ws := ["if", "while"]) (SqT.of upd_same) ?_
  have sN : Same H (upd (upd H p (.lst ((w0 :: r).map V.str))) t (.tup [V.str "if", V.str "while"])) := (same_new hp).new ht
  have hlist : ((w0 :: r).map V.str).length ≤ 6001 := by simpa using hr6
  walk_at "go"
  refine if_d (fun c => ?_) (fun c => ?_)
  · have c' : w0 = "if" ∨ w0 = "while" := by simpa using c
    walk_at "go"
    intro z hz
    refine q z _ (sN.new hz) ?_
    rw [upd_same]
    rw [en]
    unfold namesW
    rw [if_pos c']
    rfl
  · have c' : ¬ (w0 = "if" ∨ w0 = "while") := by simpa using c
    walk_at "go"
    refine if_d (fun c2 => ?_) (fun c2 => ?_)
    · walk_at "go"
      intro z hz
      refine q z _ (sN.new hz) ?_
      rw [upd_same]
      rw [en]
      unfold namesW
      rw [if_neg c', if_pos c2]
      cases r with
      | nil => rfl
      | cons a r => rw [show (2 : Int) = ((2 : Nat) : Int) from rfl, cutV_drop (by simp)]; simp
    · walk_at "go"
      intro z hz
      refine q z _ (sN.new hz) ?_
      rw [upd_same]
      rw [en]
      unfold namesW
      rw [if_neg c', if_neg c2, show (1 : Int) = ((1 : Nat) : Int) from rfl, cutV_drop (by simp)]
      simp
end

end U
namespace U
open PySem L2
/-! the steps that need no word -/
local macro_rules | `(tactic| walk_at "h") => `(tactic| focus ((repeat (first | assumption | exact upd_same | (apply at_ne; rotate_left; (first | assumption | exact Ne.symm (by assumption))) | (apply at_new; rotate_left; assumption))); done))
local macro_rules | `(tactic| walk_at "go") => `(tactic| repeat (with_reducible first
  | refine Go.by_ ?_
  | (apply w_at; (first | assumption | exact upd_same))
  | (apply w_sqT; (first | assumption | exact SqT.of (by assumption) | exact SqT.of upd_same))
  | (apply w_sqL; (first | assumption | exact SqL.of (by assumption) | exact SqL.of upd_same))
  | (apply w_sqLT1; (first | assumption | exact SqL.of (by assumption) | exact SqL.of upd_same))
  | (apply w_sqLT2; (first | assumption | exact SqT.of (by assumption) | exact SqT.of upd_same))
  | (apply w_at; walk_at "h")
  | (apply w_sqT; focus (apply SqT.of; walk_at "h"))
  | (apply w_sqL; focus (apply SqL.of; walk_at "h"))
  | (apply w_sqLT1; focus (apply SqL.of; walk_at "h"))
  | (apply w_sqLT2; focus (apply SqT.of; walk_at "h"))
  | (apply w_strT; decide)
  | (apply w_strF; decide)
  | (apply w_gTupH; (with_unfolding_all rfl))
  | (apply w_ixA; (first | assumption | with_unfolding_all rfl))))
local macro_rules | `(tactic| walk_at "k") => `(tactic| ((try dsimp only [cxOf, Cx.nox, List.map_cons, List.map_nil]); refine w_start ?_))
def KeysAre (kvs : List (Key × V)) (ns : List Str) : Prop := kvs.map (·.1) = ns.map (fun x => (.inr x : Key))
theorem KeysAre.put {kvs : List (Key × V)} {ns : List Str} (h : KeysAre kvs ns) (x : Str) (v : V) : KeysAre (putK kvs (.inr x) v) (addK ns x) := by
  have hm : (.inr x : Key) ∈ kvs.map (·.1) ↔ x ∈ ns := by
    rw [h]
    constructor
    · intro hm
      obtain ⟨y, hy, e⟩ := List.mem_map.mp hm
      injection e with e
      rw [← e]; exact hy
    · intro hm
      exact List.mem_map.mpr ⟨x, hm, rfl⟩
  unfold KeysAre addK
  by_cases hx : x ∈ ns
  · rw [if_pos hx]
    rcases keys_put kvs (.inr x) v with e | ⟨n, e⟩
    · rw [e]; exact h
    · exact absurd (hm.mpr hx) n
  · rw [if_neg hx]
    rcases keys_put kvs (.inr x) v with e | ⟨n, e⟩
    · exfalso
      have : (.inr x : Key) ∈ (putK kvs (.inr x) v).map (·.1) := by
        have hv : valV (putK kvs (.inr x : Key) v) (.inr x) = some v := by rw [valV_put, if_pos rfl]
        unfold valV at hv
        cases hf : (putK kvs (.inr x : Key) v).find? fun kv => decide (kv.1 = .inr x) with
        | none => rw [hf] at hv; exact nomatch hv
        | some y =>
          have h1 := List.mem_of_find?_eq_some hf
          have h2 := List.find?_some hf
          exact List.mem_map.mpr ⟨y, h1, of_decide_eq_true h2⟩
      rw [e] at this
      exact hx (hm.mp this)
    · rw [e, h, List.map_append]; rfl
theorem addK_len : ∀ (l acc : List Str), (l.foldl addK acc).length ≤ acc.length + l.length
  | [], acc => Nat.le_refl _
  | x :: l, acc => by
    have h1 := addK_len l (addK acc x)
    have h2 : (addK acc x).length ≤ acc.length + 1 := by
      unfold addK
      split <;> simp
    rw [List.length_cons, List.foldl_cons]
    omega
theorem flat_len {α β : Type} {f : α → List β} {n : Nat} : ∀ {l : List α}, (∀ x ∈ l, (f x).length ≤ n) → (l.flatMap f).length ≤ l.length * n
  | [], _ => by simp
  | a :: l, h => by
    have h1 := h a List.mem_cons_self
    have h2 := flat_len (l := l) fun x hx => h x (List.mem_cons_of_mem _ hx)
    rw [List.flatMap_cons, List.length_append, List.length_cons, Nat.add_mul, Nat.one_mul]
    omega
theorem namesLine_len {x : Str} (h : GoodLine x) : (namesLine x).length ≤ 6000 := by
  obtain ⟨_, w0, r, e, hr⟩ := h
  have en : namesLine x = namesW w0 r := by unfold namesLine; rw [e]
  rw [en]
  unfold namesW
  split
  · simp
  split
  · rw [List.length_drop]; omega
  · exact hr
section
variable {P : Program} {w : World} {K : PySem.W.Frag} {mg : Str → Option Value} {base : Heap} {A : Ad} (T : Tx K mg A)
include T
theorem ok_names_of : FnOk P w K mg base CX0 14 A.f_names_of A.d_names_of ["program"] spNamesOf := by
  refine T.F_names_of.ok sc_names_of (fun vs H Q E h => ?_) (fun cdv A' outer s H vs Q E hr h => ?_)
  · obtain ⟨l, ws, ss, rfl, _⟩ := h
    rfl
  have G_lines_of := ok_lines (P := P) (w := w) (base := base) T 6
  have G_names_in := ok_names_in (P := P) (w := w) (base := base) T
  have hu := hu_of hr
  obtain ⟨l, ws, ss, rfl, hl, hss, fit, hd, hle, good, hnum, q⟩ := h
  refine ⟨_, (pss_cons (ps_set (i := 1) sc_names_of.nd rfl (Or.inl rfl) pe_dnewK)
    (pss_cons (ps_for PassesOwn.never rfl (pi_list (pe_call G_lines_of (hr.mono (by decide)) rfl T.m_lines_of T.F_lines_of.kp T.b_lines_of .nil pass0 (pa_cons (pv 0) pa_nil))) (pg_name (i := 2) sc_names_of.nd rfl (Or.inl rfl)) (pss_one (ps_for PassesOwn.never rfl (pi_list (pe_call G_names_in (hr.mono (by decide)) rfl T.m_names_in T.F_names_in.kp T.b_names_in .nil pass0 (pa_cons (pv 2) pa_nil))) (pg_name (i := 3) sc_names_of.nd rfl (Or.inl rfl)) (pss_one (ps_dput hu (pv 1) (pv 3) pe_bl rfl)))))
    (pss_one (ps_ret (pe_callTy (call_list_dK rfl) (by rfl) T.z_list (by decide +kernel) (pa_cons (pv 1) pa_nil)))))), ?_⟩
  walk_at "k"
  walk_at "go"
  intro d hdz
  walk_at "go"
  refine ⟨l, ws, ss, rfl, at_new hl hdz, hss.same (same_new hdz), fit, hd, hle, fun lp H1 s1 e1 => ?_⟩
  walk_at "go"
  have tot : ∀ (i j : Nat) (x : Str), x ∈ linL ss → ((((linL ss).take i).flatMap namesLine ++ (namesLine x).take j).foldl addK []).length < sizeLine := fun i j x hx => by
    have h1 := addK_len (((linL ss).take i).flatMap namesLine ++ (namesLine x).take j) []
    have h2 : (((linL ss).take i).flatMap namesLine).length ≤ ((linL ss).take i).length * 6000 := flat_len fun y hy => namesLine_len (good y (List.mem_of_mem_take hy))
    have h3 : ((linL ss).take i).length ≤ (linL ss).length := by rw [List.length_take]; omega
    have h4 := namesLine_len (good x hx)
    have h5 : ((namesLine x).take j).length ≤ 6000 := by rw [List.length_take]; omega
    rw [List.length_append] at h1
    have h6 : ((linL ss).take i).length * 6000 ≤ (linL ss).length * 6000 := Nat.mul_le_mul_right _ h3
    exact Nat.lt_of_le_of_lt (show _ ≤ 10006000 by rw [List.length_nil, Nat.zero_add] at h1; omega) (by decide)
  refine w_forL (xs := (linL ss).map V.str) (fun i σ H' => ∃ (lv nv : Option V) (kvs : List (Key × V)), σ = [some (.ref l), some (.ref d), lv, nv] ∧ Same H H' ∧ H' lp = some (.lst ((linL ss).map V.str)) ∧ H' d = some (.dK kvs) ∧ KeysAre kvs ((((linL ss).take i).flatMap namesLine).foldl addK []))
    ⟨none, none, [], rfl, (same_new hdz).trans s1, e1, s1 _ _ upd_same, rfl⟩ (fun i σ H' ⟨_, _, _, _, _, s2, _⟩ => SqL.of s2) ?_ ?_
  · rintro i v σ H2 hi ⟨lv, nv, kvs, rfl, s2, e2, ed, ks⟩
    obtain ⟨x, hx, rfl⟩ : ∃ x, (linL ss)[i]? = some x ∧ V.str x = v := by
      rw [List.getElem?_map] at hi
      cases e : (linL ss)[i]? with
      | none => rw [e] at hi; cases hi
      | some x => rw [e] at hi; cases hi; exact ⟨_, rfl, rfl⟩
    have hm := List.mem_of_getElem? hx
    walk_at "go"
    refine ⟨x, rfl, good x hm, fun np H3 s3 e3 => ?_⟩
    walk_at "go"
    have ed3 := s3 _ _ ed
    refine w_forL (xs := (namesLine x).map V.str) (fun j σ H' => ∃ (nv : Option V) (kvs : List (Key × V)), σ = [some (.ref l), some (.ref d), some (.str x), nv] ∧ Same H H' ∧ H' lp = some (.lst ((linL ss).map V.str)) ∧ H' np = some (.lst ((namesLine x).map V.str)) ∧ H' d = some (.dK kvs) ∧ KeysAre kvs ((((linL ss).take i).flatMap namesLine ++ (namesLine x).take j).foldl addK []))
      ⟨nv, kvs, rfl, s2.trans s3, s3 _ _ e2, e3, ed3, by rw [List.take_zero, List.append_nil]; exact ks⟩ (fun j σ H' ⟨_, _, _, _, _, s2, _⟩ => SqL.of s2) ?_ ?_
    · rintro j v σ H4 hj ⟨nv', kvs', rfl, s4, e4, e5, ed4, ks4⟩
      obtain ⟨y, hy, rfl⟩ : ∃ y, (namesLine x)[j]? = some y ∧ V.str y = v := by
        rw [List.getElem?_map] at hj
        cases e : (namesLine x)[j]? with
        | none => rw [e] at hj; cases hj
        | some y => rw [e] at hj; cases hj; exact ⟨_, rfl, rfl⟩
      walk_at "go"
      have n1 : lp ≠ d := ne_of e4 ed4 (by intro z; cases z)
      have n2 : np ≠ d := ne_of e5 ed4 (by intro z; cases z)
      refine w_dputS ed4 (by
        have := tot i j x hm
        have h2 := congrArg List.length ks4
        rw [List.length_map, List.length_map] at h2
        rw [h2]; exact this) ?_
      refine ⟨_, _, rfl, s4.put hdz, at_ne e4 n1, at_ne e5 n2, upd_same, ?_⟩
      have := ks4.put y (.bl true)
      rw [take_one hy, ← List.append_assoc, List.foldl_append]
      exact this
    · rintro σ H4 ⟨nv', kvs', rfl, s4, e4, e5, ed4, ks4⟩
      refine ⟨_, _, kvs', rfl, s4, e4, ed4, ?_⟩
      rw [take_one hx, List.flatMap_append]
      rw [List.length_map, List.take_length] at ks4
      simpa using ks4
  · rintro σ H2 ⟨lv, nv, kvs, rfl, s2, e2, ed, ks⟩
    walk_at "go"
    refine ⟨d, kvs, rfl, ed, fun z hz => q z _ (s2.new hz) ?_⟩
    rw [upd_same]
    rw [List.length_map, List.take_length] at ks
    unfold namesOf
    have h2 := congrArg (List.map kV) ks
    rw [List.map_map, List.map_map] at h2
    exact congrArg (fun z => some (HO.lst z)) h2
end

end U
namespace U
open PySem L2
/-! the steps that need no word -/
local macro_rules | `(tactic| walk_at "h") => `(tactic| focus ((repeat (first | assumption | exact upd_same | (apply at_ne; rotate_left; (first | assumption | exact Ne.symm (by assumption))) | (apply at_new; rotate_left; assumption))); done))
local macro_rules | `(tactic| walk_at "go") => `(tactic| repeat (with_reducible first
  | refine Go.by_ ?_
  | (apply w_at; (first | assumption | exact upd_same))
  | (apply w_sqT; (first | assumption | exact SqT.of (by assumption) | exact SqT.of upd_same))
  | (apply w_sqL; (first | assumption | exact SqL.of (by assumption) | exact SqL.of upd_same))
  | (apply w_sqLT1; (first | assumption | exact SqL.of (by assumption) | exact SqL.of upd_same))
  | (apply w_sqLT2; (first | assumption | exact SqT.of (by assumption) | exact SqT.of upd_same))
  | (apply w_at; walk_at "h")
  | (apply w_sqT; focus (apply SqT.of; walk_at "h"))
  | (apply w_sqL; focus (apply SqL.of; walk_at "h"))
  | (apply w_sqLT1; focus (apply SqL.of; walk_at "h"))
  | (apply w_sqLT2; focus (apply SqT.of; walk_at "h"))
  | (apply w_strT; decide)
  | (apply w_strF; decide)
  | (apply w_gTupH; (with_unfolding_all rfl))
  | (apply w_ixA; (first | assumption | with_unfolding_all rfl))))
local macro_rules | `(tactic| walk_at "k") => `(tactic| ((try dsimp only [cxOf, Cx.nox, List.map_cons, List.map_nil]); refine w_start ?_))
/-! ## The marker -/
/-- tuples and lists are kept -/
def Keeps (H H' : Hp) : Prop := ∀ b o, H b = some o → (∃ xs, o = .tup xs ∨ o = .lst xs) → H' b = some o
theorem Keeps.of {H H' : Hp} (s : Same H H') : Keeps H H' := fun b o e _ => s b o e
theorem Keeps.trans {H H1 H2 : Hp} (s : Keeps H H1) (t : Keeps H1 H2) : Keeps H H2 := fun b o e k => t b o (s b o e k) k
theorem TupAt.keep {H H' : Hp} {xs : List V} {v : V} (k : Keeps H H') (h : TupAt H xs v) : TupAt H' xs v := let ⟨a, e, f⟩ := h; ⟨a, e, k _ _ f ⟨_, .inl rfl⟩⟩
mutual
theorem StepAt.keep {H H' : Hp} (e : Keeps H H') : ∀ {s : Step} {v : V}, StepAt H s v → StepAt H' s v
  | .pl _, v, h => TupAt.keep e h
  | .lend _ _ _, v, h => by
    obtain ⟨l, vs, a, b, c⟩ := h
    exact ⟨l, vs, a.keep e, e _ _ b ⟨_, .inr rfl⟩, StepsAt.keep e c⟩
  | .ite _ _ _, v, h => by
    obtain ⟨l, k, vs, ws, a, b, c, d, f⟩ := h
    exact ⟨l, k, vs, ws, a.keep e, e _ _ b ⟨_, .inr rfl⟩, StepsAt.keep e c, e _ _ d ⟨_, .inr rfl⟩, StepsAt.keep e f⟩
  | .whl _ _, v, h => by
    obtain ⟨l, vs, a, b, c⟩ := h
    exact ⟨l, vs, a.keep e, e _ _ b ⟨_, .inr rfl⟩, StepsAt.keep e c⟩
theorem StepsAt.keep {H H' : Hp} (e : Keeps H H') : ∀ {ss : List Step} {vs : List V}, StepsAt H ss vs → StepsAt H' ss vs
  | [], vs, h => h
  | _ :: _, vs, h => by
    obtain ⟨v, ws, a, b, c⟩ := h
    exact ⟨v, ws, a, StepAt.keep e b, StepsAt.keep e c⟩
end
mutual
def MsAt (H : Hp) : MS → V → Prop
  | .row r, v => TupAt H (rowV r) v
  | .lend l s t h b l2, v => ∃ (q k : Addr) (vs : List V), TupAt H [.str "lend", .int (l : Nat), .ref q, .ref k, .int (l2 : Nat)] v ∧ H q = some (.tup [.int (s : Nat), .int (t : Nat), .int (h : Nat)]) ∧ H k = some (.lst vs) ∧ MssAt H b vs
  | .ite l n b mid c, v => ∃ (k j : Addr) (vs ws : List V), TupAt H [.str "if", .int (l : Nat), .int n, .ref k, .int (mid : Nat), .ref j] v ∧ H k = some (.lst vs) ∧ MssAt H b vs ∧ H j = some (.lst ws) ∧ MssAt H c ws
  | .whl l n b l2, v => ∃ (k : Addr) (vs : List V), TupAt H [.str "while", .int (l : Nat), .int n, .ref k, .int (l2 : Nat)] v ∧ H k = some (.lst vs) ∧ MssAt H b vs
def MssAt (H : Hp) : List MS → List V → Prop
  | [], vs => vs = []
  | s :: r, vs => ∃ v ws, vs = v :: ws ∧ MsAt H s v ∧ MssAt H r ws
end
mutual
theorem MsAt.keep {H H' : Hp} (e : Keeps H H') : ∀ {s : MS} {v : V}, MsAt H s v → MsAt H' s v
  | .row _, v, h => TupAt.keep e h
  | .lend _ _ _ _ _ _, v, h => by
    obtain ⟨q, l, vs, a, d, b, c⟩ := h
    exact ⟨q, l, vs, a.keep e, e _ _ d ⟨_, .inl rfl⟩, e _ _ b ⟨_, .inr rfl⟩, MssAt.keep e c⟩
  | .ite _ _ _ _ _, v, h => by
    obtain ⟨l, k, vs, ws, a, b, c, d, f⟩ := h
    exact ⟨l, k, vs, ws, a.keep e, e _ _ b ⟨_, .inr rfl⟩, MssAt.keep e c, e _ _ d ⟨_, .inr rfl⟩, MssAt.keep e f⟩
  | .whl _ _ _ _, v, h => by
    obtain ⟨l, vs, a, b, c⟩ := h
    exact ⟨l, vs, a.keep e, e _ _ b ⟨_, .inr rfl⟩, MssAt.keep e c⟩
theorem MssAt.keep {H H' : Hp} (e : Keeps H H') : ∀ {ss : List MS} {vs : List V}, MssAt H ss vs → MssAt H' ss vs
  | [], vs, h => h
  | _ :: _, vs, h => by
    obtain ⟨v, ws, a, b, c⟩ := h
    exact ⟨v, ws, a, MsAt.keep e b, MssAt.keep e c⟩
end
theorem MssAt.each {H : Hp} : ∀ {ss : List MS} {vs : List V}, MssAt H ss vs → Each (MsAt H) ss vs
  | [], vs, h => by rw [show vs = [] from h]; exact Each.nil
  | s :: r, vs, h => by
    obtain ⟨v, ws, rfl, b, c⟩ := h
    exact (MssAt.each c).cons b
theorem MssAt.snoc {H : Hp} {s : MS} {v : V} (h : MsAt H s v) : ∀ {ss : List MS} {vs : List V}, MssAt H ss vs → MssAt H (ss ++ [s]) (vs ++ [v])
  | [], vs, g => by rw [show vs = [] from g]; exact ⟨v, [], rfl, h, rfl⟩
  | _ :: _, vs, g => by
    obtain ⟨v', ws, rfl, b, c⟩ := g
    exact ⟨v', ws ++ [v], rfl, b, MssAt.snoc h c⟩
/-- what is new in H' -/
def fresh (H H' : Hp) : Hp := fun b => match H b with
  | none => H' b
  | some _ => none
theorem fresh_at {H H' : Hp} {b : Addr} {o : HO} (h : H b = none) (e : H' b = some o) : fresh H H' b = some o := by unfold fresh; rw [h]; exact e
theorem fresh_of {H H' : Hp} {b : Addr} {o : HO} (e : fresh H H' b = some o) : H b = none ∧ H' b = some o := by
  unfold fresh at e
  cases h : H b with
  | none => rw [h] at e; exact ⟨rfl, e⟩
  | some u => rw [h] at e; cases e
structure KAt (A : Ad) (ns : List Str) (H : Hp) (p dx sl : Addr) (line lent : Nat) : Prop where
  ob : H p = some (.ins A.a_Marker dx (kF ⟨sl, (line : Nat), (lent : Nat)⟩))
  d : ∃ kvs, H sl = some (.dK kvs) ∧ ∀ x ∈ ns, valV kvs (.inr x) = some (.int (ns.idxOf x : Nat))
theorem KAt.keep {A : Ad} {ns : List Str} {H H' : Hp} {p dx sl : Addr} {line lent line' lent' : Nat} (h : KAt A ns H p dx sl line lent) (s : Same (minus H [p]) H') (e : H' p = some (.ins A.a_Marker dx (kF ⟨sl, (line' : Nat), (lent' : Nat)⟩))) : KAt A ns H' p dx sl line' lent' := by
  obtain ⟨kvs, a, b⟩ := h.d
  exact ⟨e, kvs, s.at_ a (by simpa using ne_of a h.ob (by intro z; cases z)), b⟩
/-- all but the marker stands still: tuples and lists are kept -/
theorem KAt.keeps {A : Ad} {ns : List Str} {H H' : Hp} {p dx sl : Addr} {line lent : Nat} (h : KAt A ns H p dx sl line lent) (s : Same (minus H [p]) H') : Keeps H H' := fun b o e k => s.at_ e (by
  have : b ≠ p := by
    obtain ⟨xs, rfl | rfl⟩ := k
    · exact ne_of e h.ob (by intro z; cases z)
    · exact ne_of e h.ob (by intro z; cases z)
  simpa using this)
theorem dom_of {H H1 : Hp} {p : Addr} {o : HO} (s : Same (minus H [p]) H1) (e1 : H1 p = some o) {b : Addr} (h : H1 b = none) : H b = none := by
  by_cases hb : b = p
  · rw [hb, e1] at h; cases h
  · have := s.free h
    rwa [minus_ne (by simpa using hb)] at this
/-- what was new in a middle stretch is new -/
theorem keeps_mid {H H1 H2 H' : Hp} (d : ∀ b, H1 b = none → H b = none) (k : Keeps H2 H') : Keeps (fresh H1 H2) (fresh H H') := fun b o e kk => by
  obtain ⟨a, c⟩ := fresh_of e
  exact fresh_at (d b a) (k b o c kk)
theorem Keeps.put {H : Hp} {p C dx : Addr} {fs : List (Str × V)} {o : HO} (e : H p = some (.ins C dx fs)) : Keeps H (upd H p o) := fun b u h k => at_ne h (by
  obtain ⟨xs, rfl | rfl⟩ := k
  · exact ne_of h e (by intro z; cases z)
  · exact ne_of h e (by intro z; cases z))
theorem Keeps.new {H : Hp} {p : Addr} {o : HO} (e : H p = none) : Keeps H (upd H p o) := fun b u h _ => at_new h e
instance {f : Str} {v : V} : HasF (putF f v []) f v := ⟨by
  show List.lookup f [(f, v)] = some v
  simp [List.lookup]⟩
theorem KAt.val {A : Ad} {ns : List Str} {H : Hp} {p dx sl : Addr} {line lent : Nat} (h : KAt A ns H p dx sl line lent) : ∃ kvs, H sl = some (.dK kvs) ∧ p ≠ sl ∧ ∀ x ∈ ns, valV kvs (.inr x) = some (.int (ns.idxOf x : Nat)) := by
  obtain ⟨kvs, a, b⟩ := h.d
  exact ⟨kvs, a, ne_of h.ob a (by intro z; cases z), b⟩
theorem namesL_mem : ∀ {ss : List Step} {s : Step}, s ∈ ss → ∀ x ∈ namesS s, x ∈ namesL ss
  | a :: r, s, hm, x, hx => by
    rcases mem_c hm with rfl | hm
    · exact List.mem_append_left _ hx
    · exact List.mem_append_right _ (namesL_mem hm x hx)
theorem linesS_pos : ∀ s : Step, 1 ≤ linesS s
  | .pl _ => Nat.le_refl _
  | .lend _ _ _ => Nat.le_add_right _ _
  | .ite _ _ _ => by show 1 ≤ 1 + _ + _; omega
  | .whl _ _ => Nat.le_add_right _ _
theorem len_lines : ∀ ss : List Step, ss.length ≤ linesL ss
  | [] => Nat.le_refl _
  | s :: r => by
    have h1 := len_lines r
    have h2 := linesS_pos s
    show r.length + 1 ≤ linesS s + linesL r
    omega
theorem linesL_snoc : ∀ {ss : List Step} {i : Nat} {s : Step}, ss[i]? = some s → linesL (ss.take (i + 1)) = linesL (ss.take i) + linesS s
  | a :: r, 0, s, e => by
    have : a = s := by simpa using e
    subst this
    show linesS a + 0 = 0 + linesS a
    omega
  | a :: r, i + 1, s, e => by
    have e' : r[i]? = some s := by simpa using e
    show linesS a + linesL (r.take (i + 1)) = (linesS a + linesL (r.take i)) + linesS s
    rw [linesL_snoc e', Nat.add_assoc]
theorem lentsL_snoc : ∀ {ss : List Step} {i : Nat} {s : Step}, ss[i]? = some s → lentsL (ss.take (i + 1)) = lentsL (ss.take i) + lentsS s
  | a :: r, 0, s, e => by
    have : a = s := by simpa using e
    subst this
    show lentsS a + 0 = 0 + lentsS a
    omega
  | a :: r, i + 1, s, e => by
    have e' : r[i]? = some s := by simpa using e
    show lentsS a + lentsL (r.take (i + 1)) = (lentsS a + lentsL (r.take i)) + lentsS s
    rw [lentsL_snoc e', Nat.add_assoc]
theorem markL_snoc {f : Str → Nat} : ∀ {ss : List Step} {i l k : Nat} {s : Step}, ss[i]? = some s → markL f (ss.take (i + 1)) l k = markL f (ss.take i) l k ++ [markS f s (l + linesL (ss.take i)) (k + lentsL (ss.take i))]
  | a :: r, 0, l, k, s, e => by
    have : a = s := by simpa using e
    subst this
    rfl
  | a :: r, i + 1, l, k, s, e => by
    have e' : r[i]? = some s := by simpa using e
    show markS f a l k :: markL f (r.take (i + 1)) (l + linesS a) (k + lentsS a) = markS f a l k :: (markL f (r.take i) (l + linesS a) (k + lentsS a) ++ [markS f s (l + (linesS a + linesL (r.take i))) (k + (lentsS a + lentsL (r.take i)))])
    rw [markL_snoc e', Nat.add_assoc, Nat.add_assoc]
def spNextL (A : Ad) : Sp := fun vs H Q _ => ∃ (p dx sl : Addr) (line lent : Nat), vs = [.ref p] ∧ H p = some (.ins A.a_Marker dx (kF ⟨sl, (line : Nat), (lent : Nat)⟩)) ∧ Q (.int (line : Nat)) (upd H p (.ins A.a_Marker dx (kF ⟨sl, ((line + 1 : Nat) : Int), (lent : Nat)⟩)))
def spMkInit (A : Ad) : Sp := fun vs H Q _ => ∃ (p dx l : Addr) (ns : List Str), vs = [.ref p, .ref l] ∧ H p = some (.ins A.a_Marker dx []) ∧ H l = some (.lst (ns.map V.str)) ∧ ns.Nodup ∧ ns.length ≤ 10000 ∧
  ∀ (sl : Addr) (H' : Hp), Same (minus H [p]) H' → KAt A ns H' p dx sl 0 ns.length → Q .non H'
def spMarkS (A : Ad) (ns : List Str) (d : Nat) : Sp := fun vs H Q _ => ∃ (p dx sl : Addr) (line lent : Nat) (s : Step) (v : V), vs = [.ref p, v] ∧ KAt A ns H p dx sl line lent ∧ StepAt H s v ∧ deepS s < d ∧ linesS s ≤ 1000 ∧ (∀ x ∈ namesS s, x ∈ ns) ∧
  ∀ (v' : V) (H' : Hp), Same (minus H [p]) H' → KAt A ns H' p dx sl (line + linesS s) (lent + lentsS s) → MsAt (fresh H H') (markS (fun x => ns.idxOf x) s line lent) v' → Q v' H'
def spMarkL (A : Ad) (ns : List Str) (d : Nat) : Sp := fun vs H Q _ => ∃ (p dx sl : Addr) (line lent : Nat) (ss : List Step) (l : Addr) (ws : List V), vs = [.ref p, .ref l] ∧ KAt A ns H p dx sl line lent ∧ H l = some (.lst ws) ∧ StepsAt H ss ws ∧ deepL ss < d ∧ linesL ss ≤ 1000 ∧ (∀ x ∈ namesL ss, x ∈ ns) ∧
  ∀ (l' : Addr) (us : List V) (H' : Hp), Same (minus H [p]) H' → KAt A ns H' p dx sl (line + linesL ss) (lent + lentsL ss) → fresh H H' l' = some (.lst us) → MssAt (fresh H H') (markL (fun x => ns.idxOf x) ss line lent) us → Q (.ref l') H'
section
variable {P : Program} {w : World} {K : PySem.W.Frag} {mg : Str → Option Value} {base : Heap} {A : Ad} (T : Tx K mg A)
include T
theorem ok_Marker_next_line : FnOk P w K mg base CX0 1 A.f_Marker_next_line A.d_Marker_next_line ["self"] (spNextL A) := by
  refine T.F_Marker_next_line.ok sc_Marker_next_line (fun vs H Q E h => ?_) (fun cdv A' outer s H vs Q E hr h => ?_)
  · obtain ⟨p, dx, sl, line, lent, rfl, _⟩ := h
    rfl
  obtain ⟨p, dx, sl, line, lent, rfl, hp, q⟩ := h
  refine ⟨_, (pss_cons (ps_fldaug (pv 0) pe_int in_add)
    (pss_one (ps_ret (pe_op op_sub (pe_fld (pv 0) rfl) pe_int)))), ?_⟩
  walk_at "k"
  walk_at "go"
  rw [show (line : Int) + 1 - 1 = (line : Int) by omega]
  exact q
theorem ok_Marker_init : FnOk P w K mg base CX0 1 A.f_Marker_init A.d_Marker_init ["self", "names"] (spMkInit A) := by
  refine T.F_Marker_init.ok sc_Marker_init (fun vs H Q E h => ?_) (fun cdv A' outer s H vs Q E hr h => ?_)
  · obtain ⟨p, dx, l, ns, rfl, _⟩ := h
    rfl
  have hu := hu_of hr
  obtain ⟨p, dx, l, ns, rfl, hp, hl, nd, hn, q⟩ := h
  have nlp : l ≠ p := ne_of hl hp (by intro z; cases z)
  refine ⟨_, (pss_cons (ps_fld (pv 0) pe_dnewK rfl)
    (pss_cons (ps_for PassesOwn.never rfl (pi_list (pv 1)) (pg_name (i := 2) sc_Marker_init.nd rfl (Or.inl rfl)) (pss_one (ps_dput hu (pe_fld (pv 0) rfl) (pv 2) (pe_callB call_lenD (by rfl) T.z_len PySem.boot_len (pa_cons (pe_fld (pv 0) rfl) pa_nil)) rfl)))
    (pss_cons (ps_fld (pv 0) pe_int rfl)
    (pss_one (ps_fld (pv 0) (pe_callB call_len_seq (by rfl) T.z_len PySem.boot_len (pa_cons (pv 1) pa_nil)) rfl))))), ?_⟩
  walk_at "k"
  walk_at "go"
  intro sl hsl
  walk_at "go"
  have nsp : sl ≠ p := fun z => by rw [z, hp] at hsl; cases hsl
  have mm : minus H [p] sl = none := by rw [minus_ne (by simpa using nsp)]; exact hsl
  have mp : minus H [p] p = none := minus_at (by simp)
  refine w_forL (xs := ns.map V.str) (fun i σ H' => ∃ (nv : Option V) (kvs : List (Key × V)), σ = [some (.ref p), some (.ref l), nv] ∧ Same (minus H [p]) H' ∧ H' p = some (.ins A.a_Marker dx (putF (Str.ofString "slots") (V.ref sl) [])) ∧ H' sl = some (.dK kvs) ∧ KeysAre kvs (ns.take i) ∧ ∀ x ∈ ns.take i, valV kvs (.inr x) = some (.int (ns.idxOf x : Nat)))
    ⟨none, [], rfl, (Same.only.put mm).put mp, upd_same, at_ne upd_same nsp, rfl, fun x hx => (by simp at hx)⟩ (fun i σ H' ⟨_, _, _, s1, _⟩ => SqL.of (s1.at_ hl (by simpa using nlp))) ?_ ?_
  · rintro i v σ H1 hi ⟨nv, kvs, rfl, s1, e1, e2, ks, hv⟩
    obtain ⟨x, hx, rfl⟩ : ∃ x, ns[i]? = some x ∧ V.str x = v := by
      rw [List.getElem?_map] at hi
      cases e : ns[i]? with
      | none => rw [e] at hi; cases hi
      | some x => rw [e] at hi; cases hi; exact ⟨_, rfl, rfl⟩
    have hil : i < ns.length := (List.getElem?_eq_some_iff.mp hx).1
    have hix : ns.idxOf x = i := by
      have := nd.idxOf_getElem i hil
      rwa [(List.getElem?_eq_some_iff.mp hx).2] at this
    have hlen : kvs.length = i := by
      have := congrArg List.length ks
      rw [List.length_map, List.length_map, List.length_take] at this
      omega
    have hxn : ¬ x ∈ ns.take i := fun hm => by
      obtain ⟨j, hj, ej⟩ := List.getElem_of_mem hm
      rw [List.length_take] at hj
      rw [List.getElem_take] at ej
      have := nd.idxOf_getElem j (by omega)
      rw [ej, hix] at this
      omega
    walk_at "go"
    refine ⟨sl, kvs, rfl, e2, ?_⟩
    walk_at "go"
    refine w_dputS e2 (Nat.lt_of_le_of_lt (show _ ≤ 10000 by omega) (by decide)) ?_
    refine ⟨_, _, rfl, s1.put mm, at_ne e1 nsp.symm, upd_same, ?_, fun y hy => ?_⟩
    · have := ks.put x (.int kvs.length)
      unfold addK at this
      rw [if_neg hxn] at this
      rw [take_one hx]
      exact this
    · rw [valV_put]
      rw [take_one hx] at hy
      by_cases e : y = x
      · subst e
        rw [if_pos rfl, hix, hlen]
      · rw [if_neg (by simpa using e)]
        rcases mem_a hy with hy | hy
        · exact hv y hy
        · exact absurd (List.mem_singleton.mp hy) e
  · rintro σ H1 ⟨nv, kvs, rfl, s1, e1, e2, ks, hv⟩
    have hl1 := s1.at_ hl (by simpa using nlp)
    walk_at "go"
    rw [List.length_map, List.take_length] at hv
    refine q sl _ ((s1.put mp).put mp) ⟨?_, kvs, at_ne (at_ne e2 nsp) nsp, hv⟩
    rw [upd_same, List.length_map]
    exact congrArg (fun z => some (HO.ins A.a_Marker dx z)) (kF_new sl 0 (ns.length : Nat))
theorem ok_Marker_marked_step_ {ns : List Str} {k d : Nat} (G_Marker_marked : FnOk P w K mg base CX0 (k + 1) A.f_Marker_marked A.d_Marker_marked ["self", "steps"] (spMarkL A ns d)) : FnOk P w K mg base CX0 (k + 2) A.f_Marker_marked_step A.d_Marker_marked_step ["self", "step"] (spMarkS A ns (d + 1)) := by
  refine T.F_Marker_marked_step.ok sc_Marker_marked_step (fun vs H Q E h => ?_) (fun cdv A' outer s H vs Q E hr h => ?_)
  · obtain ⟨p, dx, sl, line, lent, s, v, rfl, _⟩ := h
    rfl
  have hu := hu_of hr
  have G_Marker_next_line := (ok_Marker_next_line (P := P) (w := w) (base := base) T).mono (show 1 ≤ k + 1 by omega)
  obtain ⟨p, dx, sl, line, lent, st, v, rfl, hK, hst, hd, hl, hn, q⟩ := h
  refine ⟨_, (pss_cons (ps_set (i := 2) sc_Marker_marked_step.nd rfl (Or.inl rfl) (pe_meth0 (pv 0) T.c_Marker T.e_Marker_next_line G_Marker_next_line hr T.b_Marker_next_line .nil pass0))
    (pss_cons (ps_if (pt_cmpR op_eq (pe_ix ix_tup (pv 1) pe_int (fun _ _ => rfl)) pe_str (nomark _)) (pss_cons (ps_set (i := 3) sc_Marker_marked_step.nd rfl (Or.inl rfl) (pe_tup (pa_cons (pe_dget hu (pe_fld (pv 0) rfl) (pe_ix ix_tup (pv 1) pe_int (fun _ _ => rfl)) (fun _ _ => rfl)) (pa_cons (pe_dget hu (pe_fld (pv 0) rfl) (pe_ix ix_tup (pv 1) pe_int (fun _ _ => rfl)) (fun _ _ => rfl)) (pa_cons (pe_fld (pv 0) rfl) pa_nil)))))
      (pss_cons (ps_fldaug (pv 0) pe_int in_add)
      (pss_cons (ps_set (i := 4) sc_Marker_marked_step.nd rfl (Or.inl rfl) (pe_meth (pv 0) T.c_Marker T.e_Marker_marked G_Marker_marked hr T.b_Marker_marked .nil pass0 (pa_cons (pe_ix ix_tup (pv 1) pe_int (fun _ _ => rfl)) pa_nil)))
      (pss_one (ps_ret (pe_tup (pa_cons pe_str (pa_cons (pv 2) (pa_cons (pv 3) (pa_cons (pv 4) (pa_cons (pe_meth0 (pv 0) T.c_Marker T.e_Marker_next_line G_Marker_next_line hr T.b_Marker_next_line .nil pass0) pa_nil))))))))))) pss_nil)
    (pss_cons (ps_if (pt_cmpR op_eq (pe_ix ix_tup (pv 1) pe_int (fun _ _ => rfl)) pe_str (nomark _)) (pss_cons (ps_set (i := 5) sc_Marker_marked_step.nd rfl (Or.inl rfl) (pe_meth (pv 0) T.c_Marker T.e_Marker_marked G_Marker_marked hr T.b_Marker_marked .nil pass0 (pa_cons (pe_ix ix_tup (pv 1) pe_int (fun _ _ => rfl)) pa_nil)))
      (pss_cons (ps_set (i := 6) sc_Marker_marked_step.nd rfl (Or.inl rfl) (pe_meth0 (pv 0) T.c_Marker T.e_Marker_next_line G_Marker_next_line hr T.b_Marker_next_line .nil pass0))
      (pss_cons (ps_set (i := 7) sc_Marker_marked_step.nd rfl (Or.inl rfl) (pe_meth (pv 0) T.c_Marker T.e_Marker_marked G_Marker_marked hr T.b_Marker_marked .nil pass0 (pa_cons (pe_ix ix_tup (pv 1) pe_int (fun _ _ => rfl)) pa_nil)))
      (pss_cons (ps_expr (pe_meth0 (pv 0) T.c_Marker T.e_Marker_next_line G_Marker_next_line hr T.b_Marker_next_line .nil pass0))
      (pss_one (ps_ret (pe_tup (pa_cons pe_str (pa_cons (pv 2) (pa_cons (pe_ix ix_tup (pv 1) pe_int (fun _ _ => rfl)) (pa_cons (pv 5) (pa_cons (pv 6) (pa_cons (pv 7) pa_nil))))))))))))) pss_nil)
    (pss_cons (ps_if (pt_cmpR op_eq (pe_ix ix_tup (pv 1) pe_int (fun _ _ => rfl)) pe_str (nomark _)) (pss_cons (ps_set (i := 4) sc_Marker_marked_step.nd rfl (Or.inl rfl) (pe_meth (pv 0) T.c_Marker T.e_Marker_marked G_Marker_marked hr T.b_Marker_marked .nil pass0 (pa_cons (pe_ix ix_tup (pv 1) pe_int (fun _ _ => rfl)) pa_nil)))
      (pss_one (ps_ret (pe_tup (pa_cons pe_str (pa_cons (pv 2) (pa_cons (pe_ix ix_tup (pv 1) pe_int (fun _ _ => rfl)) (pa_cons (pv 4) (pa_cons (pe_meth0 (pv 0) T.c_Marker T.e_Marker_next_line G_Marker_next_line hr T.b_Marker_next_line .nil pass0) pa_nil))))))))) pss_nil)
    (pss_cons (ps_if (pt_cmpR op_eq (pe_ix ix_tup (pv 1) pe_int (fun _ _ => rfl)) pe_str (nomark _)) (pss_one (ps_ret (pe_tup (pa_cons pe_str (pa_cons (pv 2) (pa_cons (pe_dget hu (pe_fld (pv 0) rfl) (pe_ix ix_tup (pv 1) pe_int (fun _ _ => rfl)) (fun _ _ => rfl)) (pa_cons (pe_ix ix_tup (pv 1) pe_int (fun _ _ => rfl)) pa_nil))))))) pss_nil)
    (pss_one (ps_ret (pe_op op_catT (pe_tup (pa_cons (pe_ix ix_tup (pv 1) pe_int (fun _ _ => rfl)) (pa_cons (pv 2) pa_nil))) (pe_callTy call_tuple_of (by rfl) T.z_tuple (by decide +kernel) (pa_cons (pe_lc (own := [("name", 8)]) (g := gName 8) rfl sc_Marker_marked_step.nd (pi_tup (pe_slice sl_tup (pv 1) (po_some pe_int) po_none)) (blkOk_by (own := [("name", 8)]) (N := ["self", "step", "line", "slots", "body", "some", "middle", "others", "name"]) (sc := defScope st_Marker_marked_step) (by decide +kernel)) (fun _ _ _ _ _ => pg_name (i := 8) sc_Marker_marked_step.nd rfl (Or.inl rfl)) (fun _ _ _ _ _ => pts_nil) (fun _ _ _ _ _ => (pe_dget hu (pe_fldK (K := K) rfl (pv 0) rfl) (pv 8) (fun _ _ => rfl)))) pa_nil)))))))))), ?_⟩
  walk_at "k"
  have hp := hK.ob
  obtain ⟨kvs, hsl, nps, hval⟩ := hK.val
  have mp : minus H [p] p = none := minus_at (by simp)
  cases st with
  | pl p' =>
    obtain ⟨a, rfl, ha⟩ := hst
    have nap : a ≠ p := ne_of ha hp (by intro z; cases z)
    have s3 := ((Same.only (H := H) (S := [p])).put mp (o := .ins A.a_Marker dx (kF ⟨sl, ((line + 1 : Nat) : Int), (lent : Nat)⟩)))
    have e3 : upd H p (.ins A.a_Marker dx (kF ⟨sl, ((line + 1 : Nat) : Int), (lent : Nat)⟩)) p = some (.ins A.a_Marker dx (kF ⟨sl, ((line + 1 : Nat) : Int), ((lent : Nat) : Int)⟩)) := upd_same
    have hsl3 := at_ne (u := .ins A.a_Marker dx (kF ⟨sl, ((line + 1 : Nat) : Int), (lent : Nat)⟩)) hsl nps.symm
    have kinds : (∃ hd nl, plV p' = .str hd :: nl.map V.str ∧ decide (hd = "lend") = false ∧ decide (hd = "if") = false ∧ decide (hd = "while") = false ∧ decide (hd = "do") = false ∧ nl ≠ [] ∧ nl.length ≤ 2 ∧ (∀ x ∈ nl, x ∈ p'.names) ∧
        rowV (rowP (fun x => ns.idxOf x) line p') = .str hd :: .int (line : Nat) :: nl.map fun x => V.int (ns.idxOf x : Nat)) ∨ ∃ t x, p' = .act t x := by
      cases p' with
      | opn x => exact .inl ⟨"open", [x], rfl, by decide, by decide, by decide, by decide, by simp, by simp, by simp [Pl.names], rfl⟩
      | act t x => exact .inr ⟨t, x, rfl⟩
      | cpy x y => exact .inl ⟨"copy", [x, y], rfl, by decide, by decide, by decide, by decide, by simp, by simp, by simp [Pl.names], rfl⟩
      | drp x => exact .inl ⟨"drop", [x], rfl, by decide, by decide, by decide, by decide, by simp, by simp, by simp [Pl.names], rfl⟩
      | tie x y => exact .inl ⟨"tie", [x, y], rfl, by decide, by decide, by decide, by decide, by simp, by simp, by simp [Pl.names], rfl⟩
    rcases kinds with ⟨hd, nl, e0, c1, c2, c3, c4, nn, n2, nin, er⟩ | ⟨t, x, rfl⟩
    · rw [e0] at ha
      have h0 : atI (V.str hd :: nl.map V.str) (0 : Int) = some (.str hd) := atI_nat (j := 0) (show (V.str hd :: nl.map V.str)[0]? = _ from rfl)
      walk_at "go"
      refine ⟨p, dx, sl, line, lent, rfl, hp, ?_⟩
      walk_at "go"
      refine ifF c1 ?_
      walk_at "go"
      refine ifF c2 ?_
      walk_at "go"
      refine ifF c3 ?_
      walk_at "go"
      refine ifF c4 ?_
      walk_at "go"
      intro t1 ht1
      have e4 : ∀ (o : HO), upd (upd H p (.ins A.a_Marker dx (kF ⟨sl, ((line + 1 : Nat) : Int), (lent : Nat)⟩))) t1 o a = some (.tup (.str hd :: nl.map V.str)) := fun o => at_new (at_ne ha nap) ht1
      walk_at "go"
      refine ⟨a, _, rfl, SqT.of (e4 _), fun h => ?_, fun t2 ht2 => ?_⟩
      · have := h.1
        rw [show (1 : Int) = ((1 : Nat) : Int) from rfl, HT.sIx_nat] at this
        simp at this
      rw [show (1 : Int) = ((1 : Nat) : Int) from rfl, cutV_drop (k := 1) (by simp), show (V.str hd :: nl.map V.str).drop 1 = nl.map V.str from rfl]
      have s5 := (s3.new (o := .tup [.str hd, .int (line : Nat)]) ht1).new (o := .tup (nl.map V.str)) ht2
      have hsl5 := at_new (u := .tup (nl.map V.str)) (at_new (u := .tup [.str hd, .int (line : Nat)]) hsl3 ht1) ht2
      have hp5 := at_new (u := .tup (nl.map V.str)) (at_new (u := .tup [.str hd, .int (line : Nat)]) e3 ht1) ht2
      have ht5 := at_new (u := .tup (nl.map V.str)) (upd_same (H := upd H p (.ins A.a_Marker dx (kF ⟨sl, ((line + 1 : Nat) : Int), (lent : Nat)⟩))) (a := t1) (o := .tup [.str hd, .int (line : Nat)])) ht2
      have hn5 : upd (upd (upd H p (.ins A.a_Marker dx (kF ⟨sl, ((line + 1 : Nat) : Int), (lent : Nat)⟩))) t1 (.tup [.str hd, .int (line : Nat)])) t2 (.tup (nl.map V.str)) t2 = some (.tup (nl.map V.str)) := upd_same
      generalize hH5 : upd (upd (upd H p (.ins A.a_Marker dx (kF ⟨sl, ((line + 1 : Nat) : Int), (lent : Nat)⟩))) t1 (.tup [.str hd, .int (line : Nat)])) t2 (.tup (nl.map V.str)) = H5 at s5 hsl5 hp5 ht5 hn5 ⊢
      walk_at "go"
      refine w_lcT (xs := nl.map V.str) fun z hz => ⟨fun i H' => Same H5 H' ∧ H' z = some (.lst ((nl.take i).map fun x => V.int (ns.idxOf x : Nat))), ⟨same_new hz, upd_same⟩, fun i H' ⟨s6, _⟩ => SqT.of (s6 _ _ hn5), fun i v H' hi ⟨s6, e6⟩ => ?_, fun H' ⟨s6, e6⟩ => ?_⟩
      · obtain ⟨x, hx, rfl⟩ : ∃ x, nl[i]? = some x ∧ V.str x = v := by
          rw [List.getElem?_map] at hi
          cases e : nl[i]? with
          | none => rw [e] at hi; cases hi
          | some x => rw [e] at hi; cases hi; exact ⟨_, rfl, rfl⟩
        have hp6 := s6 _ _ hp5
        walk_at "go"
        refine ⟨rfl, ?_⟩
        walk_at "go"
        refine w_dgxS (s6 _ _ hsl5) (hval x (hn x (nin x (List.mem_of_getElem? hx)))) ?_
        refine ⟨_, e6, ?_, s6.put hz, ?_⟩
        · rw [List.length_map, List.length_take]
          exact Nat.lt_of_le_of_lt (show _ ≤ 2 by omega) (by decide)
        · rw [upd_same, take_one hx, List.map_append]; rfl
      · rw [List.length_map, List.take_length] at e6
        walk_at "go"
        refine ⟨z, _, rfl, .inl ⟨SqL.of e6, fun t3 ht3 => ?_⟩⟩
        refine ⟨t1, t3, _, _, rfl, rfl, SqT.of (at_new (s6 _ _ ht5) ht3), SqT.of upd_same, by simp, ?_, fun h => ?_, fun _ t4 ht4 => ?_⟩
        · rw [List.length_map]
          exact Nat.le_trans (show _ ≤ 4 by simp; omega) (by decide)
        · exact absurd (List.map_eq_nil_iff.mp h) nn
        · have s7 := ((s5.trans s6).new (o := .tup (nl.map fun x => V.int (ns.idxOf x : Nat))) ht3).new (o := .tup ([.str hd, .int (line : Nat)] ++ nl.map fun x => V.int (ns.idxOf x : Nat))) ht4
          refine q (.ref t4) _ s7 (hK.keep s7 (at_new (at_new (s6 _ _ hp5) ht3) ht4)) ⟨t4, rfl, ?_⟩
          have hf : H t4 = none := dom_of s5 hp5 (s6.free (upd_none ht4).1)
          refine fresh_at hf ?_
          rw [upd_same, er]
          rfl
    · have ha2 : H a = some (.tup [.str "do", .str t, .str x]) := ha
      have hx := hval x (hn x (by show x ∈ [x]; simp))
      walk_at "go"
      refine ⟨p, dx, sl, line, lent, rfl, hp, ?_⟩
      walk_at "go"
      refine w_dgxS hsl3 hx ?_
      walk_at "go"
      intro z hz
      exact q (.ref z) _ (s3.new hz) (hK.keep (s3.new hz) (at_new e3 hz)) ⟨z, rfl, fresh_at (upd_none hz).1 upd_same⟩
  | lend x y b =>
    obtain ⟨l, vs, ⟨a, rfl, ha⟩, hb1, hb2⟩ := hst
    have nap : a ≠ p := ne_of ha hp (by intro z; cases z)
    have hx := hval x (hn x (List.mem_cons_self))
    have hy := hval y (hn y (List.mem_cons_of_mem _ (List.mem_cons_self)))
    have dl : deepL b < d := by have : deepS (.lend x y b) = 1 + deepL b := rfl; omega
    have ll : linesL b ≤ 998 := by have : linesS (.lend x y b) = 1 + (1 + linesL b) := rfl; omega
    walk_at "go"
    refine ⟨p, dx, sl, line, lent, rfl, hp, ?_⟩
    walk_at "go"
    refine w_dgxS (at_ne hsl nps.symm) hx ?_
    walk_at "go"
    refine w_dgxS (at_ne hsl nps.symm) hy ?_
    walk_at "go"
    intro q1 hq1
    obtain ⟨hq0, hqp⟩ := upd_none hq1
    walk_at "go"
    have s3 := ((Same.only (H := H) (S := [p])).put mp (o := .ins A.a_Marker dx (kF ⟨sl, ((line + 1 : Nat) : Int), (lent : Nat)⟩)) |>.new (p := q1) (o := .tup [.int (ns.idxOf x : Nat), .int (ns.idxOf y : Nat), .int (lent : Nat)]) hq1).put mp (o := .ins A.a_Marker dx (kF ⟨sl, ((line + 1 : Nat) : Int), (lent : Nat) + 1⟩))
    generalize hH3 : upd (upd (upd H p (.ins A.a_Marker dx (kF ⟨sl, ((line + 1 : Nat) : Int), (lent : Nat)⟩))) q1 (.tup [.int (ns.idxOf x : Nat), .int (ns.idxOf y : Nat), .int (lent : Nat)])) p (.ins A.a_Marker dx (kF ⟨sl, ((line + 1 : Nat) : Int), (lent : Nat) + 1⟩)) = H3 at s3 ⊢
    have e3 : H3 p = some (.ins A.a_Marker dx (kF ⟨sl, ((line + 1 : Nat) : Int), ((lent + 1 : Nat) : Int)⟩)) := by rw [← hH3, upd_same]; rfl
    have q3 : H3 q1 = some (.tup [.int (ns.idxOf x : Nat), .int (ns.idxOf y : Nat), .int (lent : Nat)]) := by rw [← hH3]; exact at_ne upd_same hqp
    have K3 := hK.keep s3 e3
    have kp3 := hK.keeps s3
    refine ⟨p, dx, sl, line + 1, lent + 1, b, l, vs, rfl, K3, kp3 _ _ hb1 ⟨_, .inr rfl⟩, StepsAt.keep kp3 hb2, dl, by omega, fun z hz => hn z (List.mem_cons_of_mem _ (List.mem_cons_of_mem _ hz)), fun l' us H4 s4 K4 e4 m4 => ?_⟩
    have kp4 := K3.keeps s4
    have hp4 := K4.ob
    walk_at "go"
    refine ⟨p, dx, sl, _, _, rfl, hp4, ?_⟩
    walk_at "go"
    intro z hz
    obtain ⟨hz4, hzp⟩ := upd_none hz
    have d3 : ∀ b, H3 b = none → H b = none := fun b => dom_of s3 e3
    have d4 : ∀ b, H4 b = none → H3 b = none := fun b => dom_of s4 hp4
    have k46 := (Keeps.put (o := .ins A.a_Marker dx (kF ⟨sl, ((line + 1 + linesL b + 1 : Nat) : Int), ((lent + 1 + lentsL b : Nat) : Int)⟩)) hp4).trans (Keeps.new (o := .tup [.str "lend", .int (line : Nat), .ref q1, .ref l', .int ((line + 1 + linesL b : Nat) : Int)]) hz)
    have s6 := (((s3.then s4).put mp (o := .ins A.a_Marker dx (kF ⟨sl, ((line + 1 + linesL b + 1 : Nat) : Int), ((lent + 1 + lentsL b : Nat) : Int)⟩))).new (o := .tup [.str "lend", .int (line : Nat), .ref q1, .ref l', .int ((line + 1 + linesL b : Nat) : Int)]) hz)
    refine q (.ref z) _ s6 (hK.keep s6 ?_) ⟨q1, l', us, ⟨z, rfl, fresh_at (d3 _ (d4 _ hz4)) upd_same⟩, fresh_at hq0 (k46 _ _ (kp4 _ _ q3 ⟨_, .inl rfl⟩) ⟨_, .inl rfl⟩), keeps_mid d3 k46 _ _ e4 ⟨_, .inr rfl⟩, MssAt.keep (keeps_mid d3 k46) m4⟩
    rw [upd_ne hzp.symm, upd_same]
    show some (HO.ins A.a_Marker dx (kF ⟨sl, ((line + 1 + linesL b + 1 : Nat) : Int), ((lent + 1 + lentsL b : Nat) : Int)⟩)) = some (HO.ins A.a_Marker dx (kF ⟨sl, ((line + (1 + (1 + linesL b)) : Nat) : Int), ((lent + (1 + lentsL b) : Nat) : Int)⟩))
    rw [show line + 1 + linesL b + 1 = line + (1 + (1 + linesL b)) by omega, show lent + 1 + lentsL b = lent + (1 + lentsL b) by omega]
  | ite n b c =>
    obtain ⟨l, k2, vs, ws, ⟨a, rfl, ha⟩, hb1, hb2, hc1, hc2⟩ := hst
    have nap : a ≠ p := ne_of ha hp (by intro z; cases z)
    have dl : deepL b < d ∧ deepL c < d := by have : deepS (.ite n b c) = 1 + max (deepL b) (deepL c) := rfl; omega
    have ll : linesL b + linesL c ≤ 997 := by have : linesS (.ite n b c) = 1 + (1 + linesL b) + (1 + linesL c) := rfl; omega
    walk_at "go"
    refine ⟨p, dx, sl, line, lent, rfl, hp, ?_⟩
    walk_at "go"
    have s3 := ((Same.only (H := H) (S := [p])).put mp (o := .ins A.a_Marker dx (kF ⟨sl, ((line + 1 : Nat) : Int), (lent : Nat)⟩)))
    generalize hH3 : upd H p (.ins A.a_Marker dx (kF ⟨sl, ((line + 1 : Nat) : Int), (lent : Nat)⟩)) = H3 at s3 ⊢
    have e3 : H3 p = some (.ins A.a_Marker dx (kF ⟨sl, ((line + 1 : Nat) : Int), ((lent : Nat) : Int)⟩)) := by rw [← hH3, upd_same]
    have K3 := hK.keep s3 e3
    have kp3 := hK.keeps s3
    refine ⟨p, dx, sl, line + 1, lent, b, l, vs, rfl, K3, kp3 _ _ hb1 ⟨_, .inr rfl⟩, StepsAt.keep kp3 hb2, dl.1, by omega, fun z hz => hn z (List.mem_append_left _ hz), fun l4 us4 H4 s4 K4 e4 m4 => ?_⟩
    have kp4 := K3.keeps s4
    have hp4 := K4.ob
    have ha4 := kp4 _ _ (kp3 _ _ ha ⟨_, .inl rfl⟩) ⟨_, .inl rfl⟩
    walk_at "go"
    refine ⟨p, dx, sl, _, _, rfl, hp4, ?_⟩
    walk_at "go"
    have s5' : Same (minus H4 [p]) (upd H4 p (.ins A.a_Marker dx (kF ⟨sl, ((line + 1 + linesL b + 1 : Nat) : Int), ((lent + lentsL b : Nat) : Int)⟩))) := Same.only.put (minus_at (by simp))
    generalize hH5 : upd H4 p (.ins A.a_Marker dx (kF ⟨sl, ((line + 1 + linesL b + 1 : Nat) : Int), ((lent + lentsL b : Nat) : Int)⟩)) = H5 at s5' ⊢
    have e5 : H5 p = some (.ins A.a_Marker dx (kF ⟨sl, ((line + 1 + linesL b + 1 : Nat) : Int), ((lent + lentsL b : Nat) : Int)⟩)) := by rw [← hH5, upd_same]
    have K5 := K4.keep s5' e5
    have kp5 := K4.keeps s5'
    have kp05 := (kp3.trans kp4).trans kp5
    refine ⟨p, dx, sl, _, _, c, k2, ws, rfl, K5, kp05 _ _ hc1 ⟨_, .inr rfl⟩, StepsAt.keep kp05 hc2, dl.2, by omega, fun z hz => hn z (List.mem_append_right _ hz), fun l6 us6 H6 s6 K6 e6 m6 => ?_⟩
    have kp6 := K5.keeps s6
    have hp6 := K6.ob
    have ha6 := kp6 _ _ (kp5 _ _ ha4 ⟨_, .inl rfl⟩) ⟨_, .inl rfl⟩
    walk_at "go"
    refine ⟨p, dx, sl, _, _, rfl, hp6, ?_⟩
    walk_at "go"
    intro z hz
    obtain ⟨hz6, hzp⟩ := upd_none hz
    have d3 : ∀ b, H3 b = none → H b = none := fun b => dom_of s3 e3
    have d4 : ∀ b, H4 b = none → H3 b = none := fun b => dom_of s4 hp4
    have d5 : ∀ b, H5 b = none → H4 b = none := fun b => dom_of s5' e5
    have d6 : ∀ b, H6 b = none → H5 b = none := fun b => dom_of s6 hp6
    have k68 := (Keeps.put (o := .ins A.a_Marker dx (kF ⟨sl, ((line + 1 + linesL b + 1 + linesL c + 1 : Nat) : Int), ((lent + lentsL b + lentsL c : Nat) : Int)⟩)) hp6).trans (Keeps.new (o := .tup [.str "if", .int (line : Nat), .int n, .ref l4, .int ((line + 1 + linesL b : Nat) : Int), .ref l6]) hz)
    have k48 := (kp5.trans kp6).trans k68
    have s8 := ((((s3.then s4).then s5').then s6).put mp (o := .ins A.a_Marker dx (kF ⟨sl, ((line + 1 + linesL b + 1 + linesL c + 1 : Nat) : Int), ((lent + lentsL b + lentsL c : Nat) : Int)⟩))).new (o := .tup [.str "if", .int (line : Nat), .int n, .ref l4, .int ((line + 1 + linesL b : Nat) : Int), .ref l6]) hz
    refine q (.ref z) _ s8 (hK.keep s8 ?_) ⟨l4, l6, us4, us6, ⟨z, rfl, fresh_at (d3 _ (d4 _ (d5 _ (d6 _ hz6)))) upd_same⟩, keeps_mid d3 k48 _ _ e4 ⟨_, .inr rfl⟩, MssAt.keep (keeps_mid d3 k48) m4, keeps_mid (fun b h => d3 b (d4 b (d5 b h))) k68 _ _ e6 ⟨_, .inr rfl⟩, MssAt.keep (keeps_mid (fun b h => d3 b (d4 b (d5 b h))) k68) ?_⟩
    · rw [upd_ne hzp.symm, upd_same]
      show some (HO.ins A.a_Marker dx (kF ⟨sl, ((line + 1 + linesL b + 1 + linesL c + 1 : Nat) : Int), ((lent + lentsL b + lentsL c : Nat) : Int)⟩)) = some (HO.ins A.a_Marker dx (kF ⟨sl, ((line + (1 + (1 + linesL b) + (1 + linesL c)) : Nat) : Int), ((lent + (lentsL b + lentsL c) : Nat) : Int)⟩))
      rw [show line + 1 + linesL b + 1 + linesL c + 1 = line + (1 + (1 + linesL b) + (1 + linesL c)) by omega, show lent + lentsL b + lentsL c = lent + (lentsL b + lentsL c) by omega]
    · rw [show line + 2 + linesL b = line + 1 + linesL b + 1 by omega]
      exact m6
  | whl n b =>
    obtain ⟨l, vs, ⟨a, rfl, ha⟩, hb1, hb2⟩ := hst
    have nap : a ≠ p := ne_of ha hp (by intro z; cases z)
    have dl : deepL b < d := by have : deepS (.whl n b) = 1 + deepL b := rfl; omega
    have ll : linesL b ≤ 998 := by have : linesS (.whl n b) = 1 + (1 + linesL b) := rfl; omega
    walk_at "go"
    refine ⟨p, dx, sl, line, lent, rfl, hp, ?_⟩
    walk_at "go"
    have s3 := ((Same.only (H := H) (S := [p])).put mp (o := .ins A.a_Marker dx (kF ⟨sl, ((line + 1 : Nat) : Int), (lent : Nat)⟩)))
    generalize hH3 : upd H p (.ins A.a_Marker dx (kF ⟨sl, ((line + 1 : Nat) : Int), (lent : Nat)⟩)) = H3 at s3 ⊢
    have e3 : H3 p = some (.ins A.a_Marker dx (kF ⟨sl, ((line + 1 : Nat) : Int), ((lent : Nat) : Int)⟩)) := by rw [← hH3, upd_same]
    have K3 := hK.keep s3 e3
    have kp3 := hK.keeps s3
    refine ⟨p, dx, sl, line + 1, lent, b, l, vs, rfl, K3, kp3 _ _ hb1 ⟨_, .inr rfl⟩, StepsAt.keep kp3 hb2, dl, by omega, fun z hz => hn z hz, fun l4 us4 H4 s4 K4 e4 m4 => ?_⟩
    have kp4 := K3.keeps s4
    have hp4 := K4.ob
    have ha4 := kp4 _ _ (kp3 _ _ ha ⟨_, .inl rfl⟩) ⟨_, .inl rfl⟩
    walk_at "go"
    refine ⟨p, dx, sl, _, _, rfl, hp4, ?_⟩
    walk_at "go"
    intro z hz
    obtain ⟨hz4, hzp⟩ := upd_none hz
    have d3 : ∀ b, H3 b = none → H b = none := fun b => dom_of s3 e3
    have d4 : ∀ b, H4 b = none → H3 b = none := fun b => dom_of s4 hp4
    have k46 := (Keeps.put (o := .ins A.a_Marker dx (kF ⟨sl, ((line + 1 + linesL b + 1 : Nat) : Int), ((lent + lentsL b : Nat) : Int)⟩)) hp4).trans (Keeps.new (o := .tup [.str "while", .int (line : Nat), .int n, .ref l4, .int ((line + 1 + linesL b : Nat) : Int)]) hz)
    have s6 := (((s3.then s4).put mp (o := .ins A.a_Marker dx (kF ⟨sl, ((line + 1 + linesL b + 1 : Nat) : Int), ((lent + lentsL b : Nat) : Int)⟩))).new (o := .tup [.str "while", .int (line : Nat), .int n, .ref l4, .int ((line + 1 + linesL b : Nat) : Int)]) hz)
    refine q (.ref z) _ s6 (hK.keep s6 ?_) ⟨l4, us4, ⟨z, rfl, fresh_at (d3 _ (d4 _ hz4)) upd_same⟩, keeps_mid d3 k46 _ _ e4 ⟨_, .inr rfl⟩, MssAt.keep (keeps_mid d3 k46) m4⟩
    rw [upd_ne hzp.symm, upd_same]
    show some (HO.ins A.a_Marker dx (kF ⟨sl, ((line + 1 + linesL b + 1 : Nat) : Int), ((lent + lentsL b : Nat) : Int)⟩)) = some (HO.ins A.a_Marker dx (kF ⟨sl, ((line + (1 + (1 + linesL b)) : Nat) : Int), ((lent + lentsL b : Nat) : Int)⟩))
    rw [show line + 1 + linesL b + 1 = line + (1 + (1 + linesL b)) by omega]
theorem ok_Marker_marked_ {ns : List Str} {k d : Nat} (G_Marker_marked_step : FnOk P w K mg base CX0 k A.f_Marker_marked_step A.d_Marker_marked_step ["self", "step"] (spMarkS A ns d)) : FnOk P w K mg base CX0 (k + 1) A.f_Marker_marked A.d_Marker_marked ["self", "steps"] (spMarkL A ns d) := by
  refine T.F_Marker_marked.ok sc_Marker_marked (fun vs H Q E h => ?_) (fun cdv A' outer s H vs Q E hr h => ?_)
  · obtain ⟨p, dx, sl, line, lent, ss, l, ws, rfl, _⟩ := h
    rfl
  obtain ⟨p, dx, sl, line, lent, ss, l, ws, rfl, hK, hl, hss, hd, hle, hn, q⟩ := h
  have hp := hK.ob
  have EA := hss.each
  have mp : minus H [p] p = none := minus_at (by simp)
  refine ⟨_, (pss_cons (ps_set (i := 2) sc_Marker_marked.nd rfl (Or.inl rfl) (pe_lst pa_nil))
    (pss_cons (ps_for PassesOwn.never rfl (pi_list (pv 1)) (pg_name (i := 3) sc_Marker_marked.nd rfl (Or.inl rfl)) (pss_one (ps_expr (pe_bm PySem.F.plainAttrs_list PySem.F.slot_list_append PySem.F.type_list_append mt_append (pv 2) (pa_cons (pe_meth (pv 0) T.c_Marker T.e_Marker_marked_step G_Marker_marked_step hr T.b_Marker_marked_step .nil pass0 (pa_cons (pv 3) pa_nil)) pa_nil)))))
    (pss_one (ps_ret (pv 2))))), ?_⟩
  walk_at "k"
  walk_at "go"
  intro z hz
  have nzp : z ≠ p := fun e => by rw [e, hp] at hz; cases hz
  have mz : minus H [p] z = none := by rw [minus_ne (by simpa using nzp)]; exact hz
  walk_at "go"
  refine w_forL (xs := ws) (fun i σ H' => ∃ (ev : Option V) (us : List V), σ = [some (.ref p), some (.ref l), some (.ref z), ev] ∧ Same (minus H [p]) H' ∧ KAt A ns H' p dx sl (line + linesL (ss.take i)) (lent + lentsL (ss.take i)) ∧ H' z = some (.lst us) ∧ us.length = i ∧ MssAt (fresh (upd H z (.lst [])) H') (markL (fun x => ns.idxOf x) (ss.take i) line lent) us)
    ⟨none, [], rfl, Same.only.new hz, hK.keep (Same.only.new hz) (at_new hp hz), upd_same, rfl, rfl⟩ (fun i σ H' ⟨_, _, _, s1, _⟩ => SqL.of (s1.at_ hl (by simpa using ne_of hl hp (by intro z; cases z)))) ?_ ?_
  · rintro i v σ H1 hi ⟨ev, us, rfl, s1, K1, e1, eu, m1⟩
    obtain ⟨st, hs, hv⟩ := EA.at_ i v hi
    have hm := List.mem_of_getElem? hs
    have hp1 := K1.ob
    have kp1 := hK.keeps s1
    walk_at "go"
    refine ⟨p, dx, sl, _, _, st, v, rfl, K1, hv.keep kp1, Nat.lt_of_le_of_lt (deepL_mem hm) hd, Nat.le_trans (linesL_mem hm) hle, fun x hx => hn x ?_, fun v' H2 s2 K2 m2 => ?_⟩
    · exact namesL_mem hm x hx
    have kp2 := K1.keeps s2
    have e2 := kp2 _ _ e1 ⟨_, .inr rfl⟩
    have hil : us.length < sizeLine := by
      have h1 := (List.getElem?_eq_some_iff.mp hi).1
      rw [EA.len] at h1
      have h2 := len_lines ss
      exact Nat.lt_of_le_of_lt (show _ ≤ 1000 by omega) (by decide)
    walk_at "go"
    refine w_app e2 hil ?_
    walk_at "go"
    have hlz : ¬ z ∈ [p] := by simpa using nzp
    have s3 : Same (minus H [p]) (upd H2 z (.lst (us ++ [v']))) := (s1.then s2).put mz
    refine ⟨_, us ++ [v'], rfl, s3, ?_, upd_same, by rw [List.length_append, eu]; rfl, ?_⟩
    · refine hK.keep s3 ?_
      rw [upd_ne nzp.symm, K2.ob, linesL_snoc hs, lentsL_snoc hs, Nat.add_assoc, Nat.add_assoc]
    · rw [markL_snoc hs]
      refine MssAt.snoc (MsAt.keep (fun b o e kk => ?_) m2) (MssAt.keep (fun b o e kk => ?_) m1)
      · obtain ⟨f1, f2⟩ := fresh_of e
        have hbz : b ≠ z := fun y => by rw [y, e1] at f1; cases f1
        refine fresh_at ?_ (at_ne f2 hbz)
        have := dom_of s1 hp1 f1
        rw [upd_ne hbz]; exact this
      · obtain ⟨f1, f2⟩ := fresh_of e
        have hbz : b ≠ z := fun y => by rw [y, upd_same] at f1; cases f1
        exact fresh_at f1 (at_ne (kp2 _ _ f2 kk) hbz)
  · rintro σ H1 ⟨ev, us, rfl, s1, K1, e1, eu, m1⟩
    walk_at "go"
    rw [EA.len, List.take_length] at K1 m1
    refine q z us H1 s1 K1 (fresh_at hz e1) (MssAt.keep (fun b o e kk => ?_) m1)
    obtain ⟨f1, f2⟩ := fresh_of e
    exact fresh_at (upd_none f1).1 f2
end

end U
namespace U
open PySem L2
/-! the steps that need no word -/
local macro_rules | `(tactic| walk_at "h") => `(tactic| focus ((repeat (first | assumption | exact upd_same | (apply at_ne; rotate_left; (first | assumption | exact Ne.symm (by assumption))) | (apply at_new; rotate_left; assumption))); done))
local macro_rules | `(tactic| walk_at "go") => `(tactic| repeat (with_reducible first
  | refine Go.by_ ?_
  | (apply w_at; (first | assumption | exact upd_same))
  | (apply w_sqT; (first | assumption | exact SqT.of (by assumption) | exact SqT.of upd_same))
  | (apply w_sqL; (first | assumption | exact SqL.of (by assumption) | exact SqL.of upd_same))
  | (apply w_sqLT1; (first | assumption | exact SqL.of (by assumption) | exact SqL.of upd_same))
  | (apply w_sqLT2; (first | assumption | exact SqT.of (by assumption) | exact SqT.of upd_same))
  | (apply w_at; walk_at "h")
  | (apply w_sqT; focus (apply SqT.of; walk_at "h"))
  | (apply w_sqL; focus (apply SqL.of; walk_at "h"))
  | (apply w_sqLT1; focus (apply SqL.of; walk_at "h"))
  | (apply w_sqLT2; focus (apply SqT.of; walk_at "h"))
  | (apply w_strT; decide)
  | (apply w_strF; decide)
  | (apply w_gTupH; (with_unfolding_all rfl))
  | (apply w_ixA; (first | assumption | with_unfolding_all rfl))))
local macro_rules | `(tactic| walk_at "k") => `(tactic| ((try dsimp only [cxOf, Cx.nox, List.map_cons, List.map_nil]); refine w_start ?_))
/-! ## The code laid -/
mutual
def deepM : MS → Nat
  | .row _ => 0
  | .lend _ _ _ _ b _ => 1 + deepMs b
  | .ite _ _ b _ c => 1 + max (deepMs b) (deepMs c)
  | .whl _ _ b _ => 1 + deepMs b
def deepMs : List MS → Nat
  | [] => 0
  | m :: r => max (deepM m) (deepMs r)
end
mutual
theorem deep_markS (f : Str → Nat) : ∀ (s : Step) (l k : Nat), deepM (markS f s l k) = deepS s
  | .pl _, _, _ => rfl
  | .lend _ _ b, l, k => by show 1 + deepMs (markL f b _ _) = 1 + deepL b; rw [deep_markL f b]
  | .ite _ b c, l, k => by show 1 + max (deepMs (markL f b _ _)) (deepMs (markL f c _ _)) = 1 + max (deepL b) (deepL c); rw [deep_markL f b, deep_markL f c]
  | .whl _ b, l, k => by show 1 + deepMs (markL f b _ _) = 1 + deepL b; rw [deep_markL f b]
theorem deep_markL (f : Str → Nat) : ∀ (ss : List Step) (l k : Nat), deepMs (markL f ss l k) = deepL ss
  | [], _, _ => rfl
  | s :: r, l, k => by show max (deepM (markS f s l k)) (deepMs (markL f r _ _)) = max (deepS s) (deepL r); rw [deep_markS f s, deep_markL f r]
end
mutual
def longM : MS → Nat
  | .row _ => 1
  | .lend _ _ _ _ b _ => 6 + longMs b
  | .ite _ _ b _ c => 2 + longMs b + longMs c
  | .whl _ _ b _ => 2 + longMs b
def longMs : List MS → Nat
  | [] => 0
  | m :: r => longM m + longMs r
end
mutual
theorem put_longS : ∀ (m : MS) (p : Nat), (putS m p).length = longM m
  | .row _, p => rfl
  | .lend l s t h b l2, p => by
    show ([Row.cpy l h s, .act l h "lend", .cpy l t h] ++ putL b (p + 3) ++ [Row.act l2 h "back", .drp l2 t, .drp l2 h]).length = 6 + longMs b
    rw [List.length_append, List.length_append, put_longL b]
    dsimp only [List.length]; omega
  | .ite l n b mid c, p => by
    show ([Row.tst l n _] ++ putL b (p + 1) ++ [Row.jmp mid _] ++ putL c _).length = 2 + longMs b + longMs c
    rw [List.length_append, List.length_append, List.length_append, put_longL b, put_longL c]
    dsimp only [List.length]; omega
  | .whl l n b l2, p => by
    show ([Row.tst l n _] ++ putL b (p + 1) ++ [Row.jmp l2 p]).length = 2 + longMs b
    rw [List.length_append, List.length_append, put_longL b]
    dsimp only [List.length]; omega
theorem put_longL : ∀ (ms : List MS) (p : Nat), (putL ms p).length = longMs ms
  | [], p => rfl
  | m :: r, p => by
    show (putS m p ++ putL r _).length = longM m + longMs r
    rw [List.length_append, put_longS m, put_longL r]
end
theorem longMs_mem : ∀ {ms : List MS} {m : MS}, m ∈ ms → longM m ≤ longMs ms
  | a :: r, m, hm => by
    rcases mem_c hm with rfl | hm
    · exact Nat.le_add_right _ _
    · exact Nat.le_trans (longMs_mem hm) (Nat.le_add_left _ _)
theorem deepMs_mem : ∀ {ms : List MS} {m : MS}, m ∈ ms → deepM m ≤ deepMs ms
  | a :: r, m, hm => by
    rcases mem_c hm with rfl | hm
    · exact Nat.le_max_left _ _
    · exact Nat.le_trans (deepMs_mem hm) (Nat.le_max_right _ _)
theorem longMs_snoc : ∀ {ms : List MS} {i : Nat} {m : MS}, ms[i]? = some m → longMs (ms.take (i + 1)) = longMs (ms.take i) + longM m
  | a :: r, 0, m, e => by
    have : a = m := by simpa using e
    subst this
    show longM a + 0 = 0 + longM a
    omega
  | a :: r, i + 1, m, e => by
    have e' : r[i]? = some m := by simpa using e
    show longM a + longMs (r.take (i + 1)) = (longM a + longMs (r.take i)) + longM m
    rw [longMs_snoc e', Nat.add_assoc]
theorem longMs_take : ∀ (ms : List MS) (i : Nat), longMs (ms.take i) ≤ longMs ms
  | [], i => by rw [List.take_nil]; exact Nat.le_refl _
  | m :: r, 0 => Nat.zero_le _
  | m :: r, i + 1 => by
    have := longMs_take r i
    show longM m + longMs (r.take i) ≤ longM m + longMs r
    omega
theorem putL_snoc : ∀ {ms : List MS} {i p : Nat} {m : MS}, ms[i]? = some m → putL (ms.take (i + 1)) p = putL (ms.take i) p ++ putS m (p + longMs (ms.take i))
  | a :: r, 0, p, m, e => by
    have : a = m := by simpa using e
    subst this
    show putS a p ++ [] = [] ++ putS a (p + 0)
    simp
  | a :: r, i + 1, p, m, e => by
    have e' : r[i]? = some m := by simpa using e
    show putS a p ++ putL (r.take (i + 1)) (p + (putS a p).length) = (putS a p ++ putL (r.take i) (p + (putS a p).length)) ++ putS m (p + (longM a + longMs (r.take i)))
    rw [putL_snoc e', put_longS, List.append_assoc, Nat.add_assoc]
structure PutAt (D H : Hp) (r : Addr) (rows : List Row) : Prop where
  same : Same D H
  out : D r = none
  ex : ∃ us, H r = some (.lst us) ∧ RowsAt H rows us
theorem PutAt.new {D H : Hp} {r : Addr} {rows : List Row} (h : PutAt D H r rows) {z : Addr} {o : HO} (hz : H z = none) : PutAt D (upd H z o) r rows := by
  obtain ⟨us, a, b⟩ := h.ex
  exact ⟨h.same.new hz, h.out, us, at_new a hz, b.same (same_new hz)⟩
theorem ixN_nat {n i : Nat} (h : i < n) : ixN n (i : Int) = some i := by
  unfold ixN
  rw [if_pos (by omega)]; rw [if_pos (by omega)]
  rfl
theorem Each.set {α : Type} {P : α → V → Prop} {xs : List α} {vs : List V} (h : Each P xs vs) {i : Nat} {x : α} {v : V} (p : P x v) : Each P (xs.set i x) (vs.set i v) := by
  refine ⟨by rw [List.length_set, List.length_set]; exact h.len, fun j w e => ?_⟩
  rw [List.getElem?_set] at e
  split at e
  · rename_i hij
    subst hij
    split at e
    · rename_i hl
      cases e
      exact ⟨x, by rw [List.getElem?_set, if_pos rfl, if_pos (by rw [← h.len]; exact hl)], p⟩
    · cases e
  · rename_i hij
    obtain ⟨y, hy, q⟩ := h.at_ j w e
    exact ⟨y, by rw [List.getElem?_set, if_neg hij]; exact hy, q⟩
theorem PutAt.app {D H : Hp} {r z : Addr} {rows : List Row} {row : Row} {xs : List V} {Q : VK} (h : PutAt D H r rows) (hz : H z = none) (e : rowV row = xs) (hl : rows.length ≤ 10000) (q : ∀ H2, PutAt D H2 r (rows ++ [row]) → Q .non H2) : rAppend (.ref r) [.ref z] (upd H z (.tup xs)) Q := by
  obtain ⟨us, a, b⟩ := h.ex
  have hrz : r ≠ z := ne_of_none a hz
  refine w_app (at_new a hz) (Nat.lt_of_le_of_lt (by rw [b.len]; exact hl) (by decide)) (q _ ⟨(h.same.new hz).put h.out, h.out, _, upd_same, ?_⟩)
  refine Each.snoc (b.mono fun y v p => ?_) ⟨z, rfl, by rw [e]; exact at_ne upd_same hrz.symm⟩
  obtain ⟨c, e1, e2⟩ := p
  exact ⟨c, e1, at_ne (at_new e2 hz) (ne_of e2 a (by intro z; cases z))⟩
theorem PutAt.set {D H : Hp} {r z : Addr} {rows : List Row} {row : Row} {xs : List V} {i : Nat} {Z : Hp → Prop} (h : PutAt D H r rows) (hz : H z = none) (e : rowV row = xs) (hi : i < rows.length) (q : ∀ H2, PutAt D H2 r (rows.set i row) → Z H2) : rSetL (.ref r) (.int (i : Nat)) (.ref z) (upd H z (.tup xs)) Z := by
  obtain ⟨us, a, b⟩ := h.ex
  have hrz : r ≠ z := ne_of_none a hz
  refine w_setL (at_new a hz) (j := i) (ixN_nat (by rw [b.len]; exact hi)) (q _ ⟨(h.same.new hz).put h.out, h.out, _, upd_same, ?_⟩)
  refine Each.set (b.mono fun y v p => ?_) ⟨z, rfl, by rw [e]; exact at_ne upd_same hrz.symm⟩
  obtain ⟨c, e1, e2⟩ := p
  exact ⟨c, e1, at_ne (at_new e2 hz) (ne_of e2 a (by intro z; cases z))⟩
theorem set_mid {α : Type} (xs : List α) (a b : α) (ys : List α) : (xs ++ a :: ys).set xs.length b = xs ++ b :: ys := by simp
def isLend : MS → Prop
  | .lend _ _ _ _ _ _ => True
  | _ => False
def isIte : MS → Prop
  | .ite _ _ _ _ _ => True
  | _ => False
def isWhl : MS → Prop
  | .whl _ _ _ _ => True
  | _ => False
def spPutS (f : MS → Prop) (d : Nat) : Sp := fun vs H Q _ => ∃ (D : Hp) (r : Addr) (v : V) (m : MS) (rows : List Row), vs = [.ref r, v, .bl false] ∧ MsAt D m v ∧ PutAt D H r rows ∧ f m ∧ deepM m < d ∧ rows.length + longM m ≤ 1000 ∧ ∀ H', PutAt D H' r (rows ++ putS m rows.length) → Q .non H'
def spPutL (d : Nat) : Sp := fun vs H Q _ => ∃ (D : Hp) (r l : Addr) (ws : List V) (ms : List MS) (rows : List Row), vs = [.ref r, .ref l, .bl false] ∧ D l = some (.lst ws) ∧ MssAt D ms ws ∧ PutAt D H r rows ∧ deepMs ms < d ∧ rows.length + longMs ms ≤ 1000 ∧ ∀ H', PutAt D H' r (rows ++ putL ms rows.length) → Q .non H'
section
variable {P : Program} {w : World} {K : PySem.W.Frag} {mg : Str → Option Value} {base : Heap} {A : Ad} (T : Tx K mg A)
include T
theorem ok_put_lend_ {k d : Nat} (G_put_steps : FnOk P w K mg base CX0 k A.f_put_steps A.d_put_steps ["rows", "marked", "turn"] (spPutL d)) : FnOk P w K mg base CX0 (k + 1) A.f_put_lend A.d_put_lend ["rows", "block", "turn"] (spPutS isLend (d + 1)) := by
  refine T.F_put_lend.ok sc_put_lend (fun vs H Q E h => ?_) (fun cdv A' outer s H vs Q E hr h => ?_)
  · obtain ⟨D, r, v, m, rows, rfl, _⟩ := h
    rfl
  obtain ⟨D, r, v, m, rows, rfl, hm, hP, hf, hd, hl, q⟩ := h
  refine ⟨_, (pss_cons (ps_asg (pe_ix ix_tup (pv 1) pe_int (fun _ _ => rfl)) (pg_tup rfl (pgs_cons (pg_name (i := 3) sc_put_lend.nd rfl (Or.inl rfl)) (pgs_cons (pg_name (i := 4) sc_put_lend.nd rfl (Or.inl rfl)) (pgs_cons (pg_name (i := 5) sc_put_lend.nd rfl (Or.inl rfl)) pgs_nil)))))
    (pss_cons (ps_expr (pe_bm PySem.F.plainAttrs_list PySem.F.slot_list_append PySem.F.type_list_append mt_append (pv 0) (pa_cons (pe_tup (pa_cons pe_str (pa_cons (pe_ix ix_tup (pv 1) pe_int (fun _ _ => rfl)) (pa_cons (pv 5) (pa_cons (pv 3) pa_nil))))) pa_nil)))
    (pss_cons (ps_expr (pe_bm PySem.F.plainAttrs_list PySem.F.slot_list_append PySem.F.type_list_append mt_append (pv 0) (pa_cons (pe_tup (pa_cons pe_str (pa_cons (pe_ix ix_tup (pv 1) pe_int (fun _ _ => rfl)) (pa_cons (pv 5) (pa_cons pe_str pa_nil))))) pa_nil)))
    (pss_cons (ps_expr (pe_bm PySem.F.plainAttrs_list PySem.F.slot_list_append PySem.F.type_list_append mt_append (pv 0) (pa_cons (pe_tup (pa_cons pe_str (pa_cons (pe_ix ix_tup (pv 1) pe_int (fun _ _ => rfl)) (pa_cons (pv 4) (pa_cons (pv 5) pa_nil))))) pa_nil)))
    (pss_cons (ps_expr (pe_call G_put_steps hr rfl T.m_put_steps T.F_put_steps.kp T.b_put_steps .nil pass0 (pa_cons (pv 0) (pa_cons (pe_ix ix_tup (pv 1) pe_int (fun _ _ => rfl)) (pa_cons (pv 2) pa_nil)))))
    (pss_cons (ps_expr (pe_bm PySem.F.plainAttrs_list PySem.F.slot_list_append PySem.F.type_list_append mt_append (pv 0) (pa_cons (pe_tup (pa_cons pe_str (pa_cons (pe_ix ix_tup (pv 1) pe_int (fun _ _ => rfl)) (pa_cons (pv 5) (pa_cons pe_str pa_nil))))) pa_nil)))
    (pss_cons (ps_expr (pe_bm PySem.F.plainAttrs_list PySem.F.slot_list_append PySem.F.type_list_append mt_append (pv 0) (pa_cons (pe_tup (pa_cons pe_str (pa_cons (pe_ix ix_tup (pv 1) pe_int (fun _ _ => rfl)) (pa_cons (pv 4) pa_nil)))) pa_nil)))
    (pss_one (ps_expr (pe_bm PySem.F.plainAttrs_list PySem.F.slot_list_append PySem.F.type_list_append mt_append (pv 0) (pa_cons (pe_tup (pa_cons pe_str (pa_cons (pe_ix ix_tup (pv 1) pe_int (fun _ _ => rfl)) (pa_cons (pv 5) pa_nil)))) pa_nil))))))))))), ?_⟩
  walk_at "k"
  cases m with
  | lend l s t h b l2 =>
    obtain ⟨qa, kb, vs, ⟨a, rfl, ha⟩, hqa, hkb, hms⟩ := hm
    have dl : deepMs b < d := by have : deepM (.lend l s t h b l2) = 1 + deepMs b := rfl; omega
    have ll : longM (.lend l s t h b l2) = 6 + longMs b := rfl
    have hP' := hP.same
    have haH := hP' _ _ ha
    have hqH := hP' _ _ hqa
    obtain ⟨us, hus, _⟩ := hP.ex
    walk_at "go"
    have P0 := hP
    intro z1 hz1
    walk_at "go"
    refine P0.app (row := .cpy l h s) hz1 rfl (by (try simp [put_longL]); omega) fun H1 P1 => ?_
    have ha1 := P1.same _ _ ha
    obtain ⟨us1, hus1, _⟩ := P1.ex
    walk_at "go"
    intro z2 hz2
    walk_at "go"
    refine P1.app (row := .act l h "lend") hz2 rfl (by (try simp [put_longL]); omega) fun H2 P2 => ?_
    have ha2 := P2.same _ _ ha
    obtain ⟨us2, hus2, _⟩ := P2.ex
    walk_at "go"
    intro z3 hz3
    walk_at "go"
    refine P2.app (row := .cpy l t h) hz3 rfl (by (try simp [put_longL]); omega) fun H3 P3 => ?_
    have ha3 := P3.same _ _ ha
    obtain ⟨us3, hus3, _⟩ := P3.ex
    walk_at "go"
    refine ⟨D, r, kb, _, b, _, rfl, hkb, hms, P3, dl, by (try simp [put_longL]); omega, fun H4 P4 => ?_⟩
    have ha4 := P4.same _ _ ha
    obtain ⟨us4, hus4, _⟩ := P4.ex
    walk_at "go"
    intro z5 hz5
    walk_at "go"
    refine P4.app (row := .act l2 h "back") hz5 rfl (by (try simp [put_longL]); omega) fun H5 P5 => ?_
    have ha5 := P5.same _ _ ha
    obtain ⟨us5, hus5, _⟩ := P5.ex
    walk_at "go"
    intro z6 hz6
    walk_at "go"
    refine P5.app (row := .drp l2 t) hz6 rfl (by (try simp [put_longL]); omega) fun H6 P6 => ?_
    have ha6 := P6.same _ _ ha
    obtain ⟨us6, hus6, _⟩ := P6.ex
    walk_at "go"
    intro z7 hz7
    walk_at "go"
    refine P6.app (row := .drp l2 h) hz7 rfl (by (try simp [put_longL]); omega) fun H7 P7 => ?_
    walk_at "go"
    refine q _ ?_
    have e : rows ++ [Row.cpy l h s] ++ [Row.act l h "lend"] ++ [Row.cpy l t h] ++ putL b (rows ++ [Row.cpy l h s] ++ [Row.act l h "lend"] ++ [Row.cpy l t h]).length ++ [Row.act l2 h "back"] ++ [Row.drp l2 t] ++ [Row.drp l2 h] = rows ++ putS (.lend l s t h b l2) rows.length := by
      show _ = rows ++ ([Row.cpy l h s, .act l h "lend", .cpy l t h] ++ putL b (rows.length + 3) ++ [Row.act l2 h "back", .drp l2 t, .drp l2 h])
      simp
    rw [← e]
    exact P7
  | row _ => exact hf.elim
  | ite _ _ _ _ _ => exact hf.elim
  | whl _ _ _ _ => exact hf.elim
theorem ok_put_if_ {k d : Nat} (G_put_steps : FnOk P w K mg base CX0 k A.f_put_steps A.d_put_steps ["rows", "marked", "turn"] (spPutL d)) : FnOk P w K mg base CX0 (k + 1) A.f_put_if A.d_put_if ["rows", "block", "turn"] (spPutS isIte (d + 1)) := by
  refine T.F_put_if.ok sc_put_if (fun vs H Q E h => ?_) (fun cdv A' outer s H vs Q E hr h => ?_)
  · obtain ⟨D, r, v, m, rows, rfl, _⟩ := h
    rfl
  obtain ⟨D, r, v, m, rows, rfl, hm, hP, hf, hd, hl, q⟩ := h
  refine ⟨_, (pss_cons (ps_set (i := 3) sc_put_if.nd rfl (Or.inl rfl) (pe_callB call_len_seq (by rfl) T.z_len PySem.boot_len (pa_cons (pv 0) pa_nil)))
    (pss_cons (ps_expr (pe_bm PySem.F.plainAttrs_list PySem.F.slot_list_append PySem.F.type_list_append mt_append (pv 0) (pa_cons (pe_tup (pa_cons pe_str (pa_cons (pe_ix ix_tup (pv 1) pe_int (fun _ _ => rfl)) (pa_cons (pe_ix ix_tup (pv 1) pe_int (fun _ _ => rfl)) (pa_cons pe_int pa_nil))))) pa_nil)))
    (pss_cons (ps_expr (pe_call G_put_steps hr rfl T.m_put_steps T.F_put_steps.kp T.b_put_steps .nil pass0 (pa_cons (pv 0) (pa_cons (pe_ix ix_tup (pv 1) pe_int (fun _ _ => rfl)) (pa_cons (pv 2) pa_nil)))))
    (pss_cons (ps_set (i := 4) sc_put_if.nd rfl (Or.inl rfl) (pe_callB call_len_seq (by rfl) T.z_len PySem.boot_len (pa_cons (pv 0) pa_nil)))
    (pss_cons (ps_expr (pe_bm PySem.F.plainAttrs_list PySem.F.slot_list_append PySem.F.type_list_append mt_append (pv 0) (pa_cons (pe_tup (pa_cons pe_str (pa_cons (pe_ix ix_tup (pv 1) pe_int (fun _ _ => rfl)) (pa_cons pe_int pa_nil)))) pa_nil)))
    (pss_cons (ps_asg (pe_tup (pa_cons pe_str (pa_cons (pe_ix ix_tup (pv 1) pe_int (fun _ _ => rfl)) (pa_cons (pe_ix ix_tup (pv 1) pe_int (fun _ _ => rfl)) (pa_cons (pe_callB call_len_seq (by rfl) T.z_len PySem.boot_len (pa_cons (pv 0) pa_nil)) pa_nil))))) (pg_sub (pv 0) (pv 3) set_list))
    (pss_cons (ps_expr (pe_call G_put_steps hr rfl T.m_put_steps T.F_put_steps.kp T.b_put_steps .nil pass0 (pa_cons (pv 0) (pa_cons (pe_ix ix_tup (pv 1) pe_int (fun _ _ => rfl)) (pa_cons (pv 2) pa_nil)))))
    (pss_one (ps_asg (pe_tup (pa_cons pe_str (pa_cons (pe_ix ix_tup (pv 1) pe_int (fun _ _ => rfl)) (pa_cons (pe_callB call_len_seq (by rfl) T.z_len PySem.boot_len (pa_cons (pv 0) pa_nil)) pa_nil)))) (pg_sub (pv 0) (pv 4) set_list)))))))))), ?_⟩
  walk_at "k"
  cases m with
  | ite l n b mid c =>
    obtain ⟨kb, kc, vs, ws, ⟨a, rfl, ha⟩, hkb, hmb, hkc, hmc⟩ := hm
    have dl : deepMs b < d ∧ deepMs c < d := by have : deepM (.ite l n b mid c) = 1 + max (deepMs b) (deepMs c) := rfl; omega
    have ll : longM (.ite l n b mid c) = 2 + longMs b + longMs c := rfl
    have haH := hP.same _ _ ha
    obtain ⟨us, hus, hR⟩ := hP.ex
    walk_at "go"
    rw [hR.len]
    intro z1 hz1
    walk_at "go"
    refine hP.app (row := .tst l n 0) hz1 rfl (by omega) fun H1 P1 => ?_
    have ha1 := P1.same _ _ ha
    obtain ⟨us1, hus1, hR1⟩ := P1.ex
    walk_at "go"
    refine ⟨D, r, kb, _, b, _, rfl, hkb, hmb, P1, dl.1, by (try simp) <;> omega, fun H2 P2 => ?_⟩
    have ha2 := P2.same _ _ ha
    obtain ⟨us2, hus2, hR2⟩ := P2.ex
    walk_at "go"
    rw [hR2.len]
    intro z3 hz3
    walk_at "go"
    refine P2.app (row := .jmp mid 0) hz3 rfl (by simp [put_longL] <;> omega) fun H3 P3 => ?_
    have ha3 := P3.same _ _ ha
    obtain ⟨us3, hus3, hR3⟩ := P3.ex
    walk_at "go"
    rw [hR3.len]
    intro z4 hz4
    walk_at "go"
    refine P3.set (row := .tst l n (rows.length + 1 + longMs b + 1)) hz4 ?_ (by (try simp) <;> omega) fun H4 P4 => ?_
    · simp [rowV, put_longL] <;> omega
    have e4 : (rows ++ [Row.tst l n 0] ++ putL b (rows ++ [Row.tst l n 0]).length ++ [Row.jmp mid 0]).set rows.length (.tst l n (rows.length + 1 + longMs b + 1)) = rows ++ [Row.tst l n (rows.length + 1 + longMs b + 1)] ++ putL b (rows.length + 1) ++ [Row.jmp mid 0] := by
      repeat rw [List.append_assoc]
      show (rows ++ Row.tst l n 0 :: _).set _ _ = _
      rw [set_mid]
      simp
    rw [e4] at P4
    have ha4 := P4.same _ _ ha
    obtain ⟨us4, hus4, hR4⟩ := P4.ex
    walk_at "go"
    refine ⟨D, r, kc, _, c, _, rfl, hkc, hmc, P4, dl.2, by simp [put_longL] <;> omega, fun H5 P5 => ?_⟩
    have ha5 := P5.same _ _ ha
    obtain ⟨us5, hus5, hR5⟩ := P5.ex
    walk_at "go"
    rw [hR5.len]
    intro z6 hz6
    walk_at "go"
    have en : (rows ++ [Row.tst l n 0] ++ putL b (rows ++ [Row.tst l n 0]).length).length = (rows ++ [Row.tst l n (rows.length + 1 + longMs b + 1)] ++ putL b (rows.length + 1)).length := by simp [put_longL]
    rw [en]
    refine P5.set (row := .jmp mid (rows.length + 1 + longMs b + 1 + longMs c)) hz6 ?_ (by simp [put_longL] <;> omega) fun H6 P6 => ?_
    · simp [rowV, put_longL] <;> omega
    refine q _ ?_
    have e6 : (rows ++ [Row.tst l n (rows.length + 1 + longMs b + 1)] ++ putL b (rows.length + 1) ++ [Row.jmp mid 0] ++ putL c (rows ++ [Row.tst l n (rows.length + 1 + longMs b + 1)] ++ putL b (rows.length + 1) ++ [Row.jmp mid 0]).length).set (rows ++ [Row.tst l n (rows.length + 1 + longMs b + 1)] ++ putL b (rows.length + 1)).length (.jmp mid (rows.length + 1 + longMs b + 1 + longMs c)) = rows ++ putS (.ite l n b mid c) rows.length := by
      rw [List.append_assoc _ [Row.jmp mid 0]]
      show (_ ++ Row.jmp mid 0 :: _).set _ _ = _
      rw [set_mid]
      show _ = rows ++ ([Row.tst l n (rows.length + 1 + (putL b (rows.length + 1)).length + 1)] ++ putL b (rows.length + 1) ++ [Row.jmp mid (rows.length + 1 + (putL b (rows.length + 1)).length + 1 + (putL c (rows.length + 1 + (putL b (rows.length + 1)).length + 1)).length)] ++ putL c (rows.length + 1 + (putL b (rows.length + 1)).length + 1))
      simp [put_longL, Nat.add_assoc]
      congr 1
      omega
    rw [← e6]
    exact P6
  | row _ => exact hf.elim
  | lend _ _ _ _ _ _ => exact hf.elim
  | whl _ _ _ _ => exact hf.elim
theorem ok_put_while_ {k d : Nat} (G_put_steps : FnOk P w K mg base CX0 k A.f_put_steps A.d_put_steps ["rows", "marked", "turn"] (spPutL d)) : FnOk P w K mg base CX0 (k + 1) A.f_put_while A.d_put_while ["rows", "block", "turn"] (spPutS isWhl (d + 1)) := by
  refine T.F_put_while.ok sc_put_while (fun vs H Q E h => ?_) (fun cdv A' outer s H vs Q E hr h => ?_)
  · obtain ⟨D, r, v, m, rows, rfl, _⟩ := h
    rfl
  obtain ⟨D, r, v, m, rows, rfl, hm, hP, hf, hd, hl, q⟩ := h
  refine ⟨_, (pss_cons (ps_set (i := 3) sc_put_while.nd rfl (Or.inl rfl) (pe_callB call_len_seq (by rfl) T.z_len PySem.boot_len (pa_cons (pv 0) pa_nil)))
    (pss_cons (ps_if (pt_val (pv 2)) (pss_cons (ps_expr (pe_bm PySem.F.plainAttrs_list PySem.F.slot_list_append PySem.F.type_list_append mt_append (pv 0) (pa_cons (pe_tup (pa_cons pe_str (pa_cons (pe_ix ix_tup (pv 1) pe_int (fun _ _ => rfl)) (pa_cons (pe_ix ix_tup (pv 1) pe_int (fun _ _ => rfl)) (pa_cons pe_int pa_nil))))) pa_nil)))
      (pss_one (ps_expr (pe_call G_put_steps hr rfl T.m_put_steps T.F_put_steps.kp T.b_put_steps .nil pass0 (pa_cons (pv 0) (pa_cons (pe_ix ix_tup (pv 1) pe_int (fun _ _ => rfl)) (pa_cons pe_bl pa_nil))))))) pss_nil)
    (pss_cons (ps_set (i := 4) sc_put_while.nd rfl (Or.inl rfl) (pe_callB call_len_seq (by rfl) T.z_len PySem.boot_len (pa_cons (pv 0) pa_nil)))
    (pss_cons (ps_expr (pe_bm PySem.F.plainAttrs_list PySem.F.slot_list_append PySem.F.type_list_append mt_append (pv 0) (pa_cons (pe_tup (pa_cons pe_str (pa_cons (pe_ix ix_tup (pv 1) pe_int (fun _ _ => rfl)) (pa_cons (pe_ix ix_tup (pv 1) pe_int (fun _ _ => rfl)) (pa_cons pe_int pa_nil))))) pa_nil)))
    (pss_cons (ps_expr (pe_call G_put_steps hr rfl T.m_put_steps T.F_put_steps.kp T.b_put_steps .nil pass0 (pa_cons (pv 0) (pa_cons (pe_ix ix_tup (pv 1) pe_int (fun _ _ => rfl)) (pa_cons pe_bl pa_nil)))))
    (pss_cons (ps_expr (pe_bm PySem.F.plainAttrs_list PySem.F.slot_list_append PySem.F.type_list_append mt_append (pv 0) (pa_cons (pe_tup (pa_cons pe_str (pa_cons (pe_ix ix_tup (pv 1) pe_int (fun _ _ => rfl)) (pa_cons (pv 4) pa_nil)))) pa_nil)))
    (pss_cons (ps_asg (pe_tup (pa_cons pe_str (pa_cons (pe_ix ix_tup (pv 1) pe_int (fun _ _ => rfl)) (pa_cons (pe_ix ix_tup (pv 1) pe_int (fun _ _ => rfl)) (pa_cons (pe_callB call_len_seq (by rfl) T.z_len PySem.boot_len (pa_cons (pv 0) pa_nil)) pa_nil))))) (pg_sub (pv 0) (pv 4) set_list))
    (pss_one (ps_asg (pe_tup (pa_cons pe_str (pa_cons (pe_ix ix_tup (pv 1) pe_int (fun _ _ => rfl)) (pa_cons (pe_ix ix_tup (pv 1) pe_int (fun _ _ => rfl)) (pa_cons (pe_callB call_len_seq (by rfl) T.z_len PySem.boot_len (pa_cons (pv 0) pa_nil)) pa_nil))))) (pg_sub (pv 0) (pv 3) set_list)))))))))), ?_⟩
  walk_at "k"
  cases m with
  | whl l n b l2 =>
    obtain ⟨kb, vs, ⟨a, rfl, ha⟩, hkb, hmb⟩ := hm
    have dl : deepMs b < d := by have : deepM (.whl l n b l2) = 1 + deepMs b := rfl; omega
    have ll : longM (.whl l n b l2) = 2 + longMs b := rfl
    have haH := hP.same _ _ ha
    obtain ⟨us, hus, hR⟩ := hP.ex
    walk_at "go"
    rw [hR.len]
    intro z1 hz1
    walk_at "go"
    refine hP.app (row := .tst l n 0) hz1 rfl (by omega) fun H1 P1 => ?_
    have ha1 := P1.same _ _ ha
    obtain ⟨us1, hus1, hR1⟩ := P1.ex
    walk_at "go"
    refine ⟨D, r, kb, _, b, _, rfl, hkb, hmb, P1, dl, by (try simp) <;> omega, fun H2 P2 => ?_⟩
    have ha2 := P2.same _ _ ha
    obtain ⟨us2, hus2, hR2⟩ := P2.ex
    walk_at "go"
    intro z3 hz3
    walk_at "go"
    refine P2.app (row := .jmp l2 rows.length) hz3 rfl (by simp [put_longL] <;> omega) fun H3 P3 => ?_
    have ha3 := P3.same _ _ ha
    obtain ⟨us3, hus3, hR3⟩ := P3.ex
    walk_at "go"
    rw [hR3.len]
    intro z4 hz4
    walk_at "go"
    refine P3.set (row := .tst l n (rows.length + 1 + longMs b + 1)) hz4 ?_ (by (try simp) <;> omega) fun H4 P4 => ?_
    · simp [rowV, put_longL] <;> omega
    have e4 : (rows ++ [Row.tst l n 0] ++ putL b (rows ++ [Row.tst l n 0]).length ++ [Row.jmp l2 rows.length]).set rows.length (.tst l n (rows.length + 1 + longMs b + 1)) = rows ++ Row.tst l n (rows.length + 1 + longMs b + 1) :: (putL b (rows.length + 1) ++ [Row.jmp l2 rows.length]) := by
      repeat rw [List.append_assoc]
      show (rows ++ Row.tst l n 0 :: _).set _ _ = _
      rw [set_mid]
      simp
    rw [e4] at P4
    have ha4 := P4.same _ _ ha
    obtain ⟨us4, hus4, hR4⟩ := P4.ex
    walk_at "go"
    rw [hR4.len]
    intro z5 hz5
    walk_at "go"
    refine P4.set (row := .tst l n (rows.length + 1 + longMs b + 1)) hz5 ?_ (by (try simp) <;> omega) fun H5 P5 => ?_
    · simp [rowV, put_longL] <;> omega
    refine q _ ?_
    rw [set_mid] at P5
    have e6 : rows ++ Row.tst l n (rows.length + 1 + longMs b + 1) :: (putL b (rows.length + 1) ++ [Row.jmp l2 rows.length]) = rows ++ putS (.whl l n b l2) rows.length := by
      show _ = rows ++ ([Row.tst l n (rows.length + 1 + (putL b (rows.length + 1)).length + 1)] ++ putL b (rows.length + 1) ++ [Row.jmp l2 rows.length])
      simp [put_longL]
    rw [← e6]
    exact P5
  | row _ => exact hf.elim
  | lend _ _ _ _ _ _ => exact hf.elim
  | ite _ _ _ _ _ => exact hf.elim
theorem ok_put_steps_ {k d : Nat} (G_put_lend : FnOk P w K mg base CX0 k A.f_put_lend A.d_put_lend ["rows", "block", "turn"] (spPutS isLend d)) (G_put_if : FnOk P w K mg base CX0 k A.f_put_if A.d_put_if ["rows", "block", "turn"] (spPutS isIte d)) (G_put_while : FnOk P w K mg base CX0 k A.f_put_while A.d_put_while ["rows", "block", "turn"] (spPutS isWhl d)) :
    FnOk P w K mg base CX0 (k + 1) A.f_put_steps A.d_put_steps ["rows", "marked", "turn"] (spPutL d) := by
  refine T.F_put_steps.ok sc_put_steps (fun vs H Q E h => ?_) (fun cdv A' outer s H vs Q E hr h => ?_)
  · obtain ⟨D, r, l, ws, ms, rows, rfl, _⟩ := h
    rfl
  obtain ⟨D, r, l, ws, ms, rows, rfl, hl, hms, hP, hd, hlen, q⟩ := h
  have EA := hms.each
  have hl0 := hP.same _ _ hl
  refine ⟨_, (pss_one (ps_for PassesOwn.never rfl (pi_list (pv 1)) (pg_name (i := 3) sc_put_steps.nd rfl (Or.inl rfl)) (pss_one (ps_if (pt_cmpR op_eq (pe_ix ix_tup (pv 3) pe_int (fun _ _ => rfl)) pe_str (nomark _)) (pss_one (ps_expr (pe_call G_put_lend hr rfl T.m_put_lend T.F_put_lend.kp T.b_put_lend .nil pass0 (pa_cons (pv 0) (pa_cons (pv 3) (pa_cons (pv 2) pa_nil)))))) (pss_one (ps_if (pt_cmpR op_eq (pe_ix ix_tup (pv 3) pe_int (fun _ _ => rfl)) pe_str (nomark _)) (pss_one (ps_expr (pe_call G_put_if hr rfl T.m_put_if T.F_put_if.kp T.b_put_if .nil pass0 (pa_cons (pv 0) (pa_cons (pv 3) (pa_cons (pv 2) pa_nil)))))) (pss_one (ps_if (pt_cmpR op_eq (pe_ix ix_tup (pv 3) pe_int (fun _ _ => rfl)) pe_str (nomark _)) (pss_one (ps_expr (pe_call G_put_while hr rfl T.m_put_while T.F_put_while.kp T.b_put_while .nil pass0 (pa_cons (pv 0) (pa_cons (pv 3) (pa_cons (pv 2) pa_nil)))))) (pss_one (ps_expr (pe_bm PySem.F.plainAttrs_list PySem.F.slot_list_append PySem.F.type_list_append mt_append (pv 0) (pa_cons (pv 3) pa_nil)))))))))))), ?_⟩
  walk_at "k"
  walk_at "go"
  refine w_forL (xs := ws) (fun i σ H' => ∃ ev : Option V, σ = [some (.ref r), some (.ref l), some (.bl false), ev] ∧ PutAt D H' r (rows ++ putL (ms.take i) rows.length))
    ⟨none, rfl, by show PutAt D H r (rows ++ []); rw [List.append_nil]; exact hP⟩ (fun i σ H' ⟨_, _, Pz⟩ => SqL.of (Pz.same _ _ hl)) ?_ ?_
  · rintro i v σ H1 hi ⟨ev, rfl, P1⟩
    obtain ⟨m, hm, hv⟩ := EA.at_ i v hi
    have hmem := List.mem_of_getElem? hm
    have hv1 := hv
    have dm : deepM m < d := Nat.lt_of_le_of_lt (deepMs_mem hmem) hd
    have lm : (rows ++ putL (ms.take i) rows.length).length + longM m ≤ 1000 := by
      rw [List.length_append, put_longL]
      have h1 := longMs_snoc hm
      have h2 := longMs_take ms (i + 1)
      omega
    have nx : ∀ H2, PutAt D H2 r ((rows ++ putL (ms.take i) rows.length) ++ putS m (rows ++ putL (ms.take i) rows.length).length) → PutAt D H2 r (rows ++ putL (ms.take (i + 1)) rows.length) := fun H2 h => by
      rw [putL_snoc hm, ← List.append_assoc]
      rwa [List.length_append, put_longL] at h
    cases m with
    | row row =>
      obtain ⟨a, rfl, ha⟩ := hv
      have tg : ∃ hd tl, rowV row = .str hd :: tl ∧ decide (hd = "lend") = false ∧ decide (hd = "if") = false ∧ decide (hd = "while") = false := by
        cases row <;> exact ⟨_, _, rfl, by decide, by decide, by decide⟩
      obtain ⟨hd', tl, e0, c1, c2, c3⟩ := tg
      have ha1 := P1.same _ _ ha
      rw [e0] at ha1
      have h0 : atI (V.str hd' :: tl) (0 : Int) = some (.str hd') := atI_nat (j := 0) (show (V.str hd' :: tl)[0]? = _ from rfl)
      obtain ⟨us1, hus1, hR1⟩ := P1.ex
      walk_at "go"
      refine ifF c1 ?_
      walk_at "go"
      refine ifF c2 ?_
      walk_at "go"
      refine ifF c3 ?_
      walk_at "go"
      refine w_app hus1 (Nat.lt_of_le_of_lt (show _ ≤ 1000 by rw [hR1.len]; omega) (by decide)) ?_
      walk_at "go"
      refine ⟨_, rfl, nx _ ⟨P1.same.put P1.out, P1.out, _, upd_same, ?_⟩⟩
      refine Each.snoc (hR1.mono fun y v p => ?_) ⟨a, rfl, ?_⟩
      · obtain ⟨c, f1, f2⟩ := p
        exact ⟨c, f1, at_ne f2 (ne_of f2 hus1 (by intro z; cases z))⟩
      · rw [e0]
        exact at_ne ha1 (ne_of ha1 hus1 (by intro z; cases z))
    | lend l' s t h b l2 =>
      obtain ⟨qa, kb, vs, ⟨a, rfl, ha⟩, hqa, hkb, hmb⟩ := hv
      have ha1 := P1.same _ _ ha
      walk_at "go"
      refine ⟨D, r, _, _, _, rfl, hv1, P1, trivial, dm, lm, fun H2 P2 => ?_⟩
      walk_at "go"
      exact ⟨_, rfl, nx _ P2⟩
    | ite l' n b mid c =>
      obtain ⟨kb, kc, vs, ws, ⟨a, rfl, ha⟩, hkb, hmb, hkc, hmc⟩ := hv
      have ha1 := P1.same _ _ ha
      walk_at "go"
      refine ⟨D, r, _, _, _, rfl, hv1, P1, trivial, dm, lm, fun H2 P2 => ?_⟩
      walk_at "go"
      exact ⟨_, rfl, nx _ P2⟩
    | whl l' n b l2 =>
      obtain ⟨kb, vs, ⟨a, rfl, ha⟩, hkb, hmb⟩ := hv
      have ha1 := P1.same _ _ ha
      walk_at "go"
      refine ⟨D, r, _, _, _, rfl, hv1, P1, trivial, dm, lm, fun H2 P2 => ?_⟩
      walk_at "go"
      exact ⟨_, rfl, nx _ P2⟩
  · rintro σ H1 ⟨ev, rfl, P1⟩
    walk_at "go"
    rw [EA.len, List.take_length] at P1
    exact q H1 P1
theorem ok_puts : ∀ d : Nat, FnOk P w K mg base CX0 (2 * d + 1) A.f_put_steps A.d_put_steps ["rows", "marked", "turn"] (spPutL d)
  | 0 => fn_no fun vs H Q E ⟨_, _, _, _, _, _, _, _, _, _, h, _⟩ => by omega
  | d + 1 => ok_put_steps_ T (ok_put_lend_ T (ok_puts d)) (ok_put_if_ T (ok_puts d)) (ok_put_while_ T (ok_puts d))
theorem ok_marks {ns : List Str} : ∀ d : Nat, FnOk P w K mg base CX0 (2 * d + 1) A.f_Marker_marked A.d_Marker_marked ["self", "steps"] (spMarkL A ns d)
  | 0 => fn_no fun vs H Q E ⟨_, _, _, _, _, _, _, _, _, _, _, _, h, _⟩ => by omega
  | d + 1 => ok_Marker_marked_ T (ok_Marker_marked_step_ T (k := 2 * d) (ok_marks d))
end

end U
namespace U
open PySem L2
/-! the steps that need no word -/
local macro_rules | `(tactic| walk_at "h") => `(tactic| focus ((repeat (first | assumption | exact upd_same | (apply at_ne; rotate_left; (first | assumption | exact Ne.symm (by assumption))) | (apply at_new; rotate_left; assumption))); done))
local macro_rules | `(tactic| walk_at "go") => `(tactic| repeat (with_reducible first
  | refine Go.by_ ?_
  | (apply w_at; (first | assumption | exact upd_same))
  | (apply w_sqT; (first | assumption | exact SqT.of (by assumption) | exact SqT.of upd_same))
  | (apply w_sqL; (first | assumption | exact SqL.of (by assumption) | exact SqL.of upd_same))
  | (apply w_sqLT1; (first | assumption | exact SqL.of (by assumption) | exact SqL.of upd_same))
  | (apply w_sqLT2; (first | assumption | exact SqT.of (by assumption) | exact SqT.of upd_same))
  | (apply w_at; walk_at "h")
  | (apply w_sqT; focus (apply SqT.of; walk_at "h"))
  | (apply w_sqL; focus (apply SqL.of; walk_at "h"))
  | (apply w_sqLT1; focus (apply SqL.of; walk_at "h"))
  | (apply w_sqLT2; focus (apply SqT.of; walk_at "h"))
  | (apply w_strT; decide)
  | (apply w_strF; decide)
  | (apply w_gTupH; (with_unfolding_all rfl))
  | (apply w_ixA; (first | assumption | with_unfolding_all rfl))))
local macro_rules | `(tactic| walk_at "k") => `(tactic| ((try dsimp only [cxOf, Cx.nox, List.map_cons, List.map_nil]); refine w_start ?_))
/-! ## A program's code -/
mutual
theorem long_markS (f : Str → Nat) : ∀ (s : Step) (l k : Nat), longM (markS f s l k) ≤ 6 * linesS s
  | .pl _, _, _ => by show 1 ≤ 6 * 1; omega
  | .lend _ _ b, l, k => by
    have := long_markL f b (l + 1) (k + 1)
    show 6 + longMs (markL f b _ _) ≤ 6 * (1 + (1 + linesL b)); omega
  | .ite _ b c, l, k => by
    have h1 := long_markL f b (l + 1) k
    have h2 := long_markL f c (l + 2 + linesL b) (k + lentsL b)
    show 2 + longMs (markL f b _ _) + longMs (markL f c _ _) ≤ 6 * (1 + (1 + linesL b) + (1 + linesL c)); omega
  | .whl _ b, l, k => by
    have := long_markL f b (l + 1) k
    show 2 + longMs (markL f b _ _) ≤ 6 * (1 + (1 + linesL b)); omega
theorem long_markL (f : Str → Nat) : ∀ (ss : List Step) (l k : Nat), longMs (markL f ss l k) ≤ 6 * linesL ss
  | [], _, _ => Nat.zero_le _
  | s :: r, l, k => by
    have h1 := long_markS f s l k
    have h2 := long_markL f r (l + linesS s) (k + lentsS s)
    show longM (markS f s _ _) + longMs (markL f r _ _) ≤ 6 * (linesS s + linesL r); omega
end
def ProgOk (ss : List Step) : Prop := FitL ss ∧ deepL ss < 6 ∧ linesL ss ≤ 100 ∧ (∀ x ∈ linL ss, GoodLine x) ∧ (∀ x ∈ namesL ss, x ∈ namesOf (linL ss)) ∧ (namesOf (linL ss)).Nodup ∧ (namesOf (linL ss)).length ≤ 10000
def codeOf (ss : List Step) : List Row := codeRows (fun x => (namesOf (linL ss)).idxOf x) (namesOf (linL ss)).length ss
def spCoded : Sp := fun vs H Q _ => ∃ (l : Addr) (ws : List V) (ss : List Step), vs = [.ref l, .bl false] ∧ H l = some (.lst ws) ∧ StepsAt H ss ws ∧ ProgOk ss ∧ ∀ (r : Addr) (us : List V) (H' : Hp), Same H H' → H' r = some (.lst us) → RowsAt H' (codeOf ss) us → Q (.ref r) H'
def spCodeOf : Sp := fun vs H Q _ => ∃ (l : Addr) (ws : List V) (ss : List Step), vs = [.ref l] ∧ H l = some (.lst ws) ∧ StepsAt H ss ws ∧ ProgOk ss ∧ ∀ (r : Addr) (us : List V) (H' : Hp), Same H H' → H' r = some (.lst us) → RowsAt H' (codeOf ss) us → Q (.ref r) H'
section
variable {P : Program} {w : World} {K : PySem.W.Frag} {mg : Str → Option Value} {base : Heap} {A : Ad} (T : Tx K mg A)
include T
theorem ok_coded : FnOk P w K mg base CX0 15 A.f_coded A.d_coded ["program", "turn"] spCoded := by
  refine T.F_coded.ok sc_coded (fun vs H Q E h => ?_) (fun cdv A' outer s H vs Q E hr h => ?_)
  · obtain ⟨l, ws, ss, rfl, _⟩ := h
    rfl
  have G_lines_of := ok_lines (P := P) (w := w) (base := base) T 6
  have G_names_of := ok_names_of (P := P) (w := w) (base := base) T
  have G_Marker_init := ok_Marker_init (P := P) (w := w) (base := base) T
  have G_put_steps := ok_puts (P := P) (w := w) (base := base) T 6
  obtain ⟨l, ws, ss, rfl, hl, hss, ⟨fit, hd, hle, good, hin, hnd, hnl⟩, q⟩ := h
  have G_Marker_marked := ok_marks (P := P) (w := w) (base := base) T (ns := namesOf (linL ss)) 6
  have h16 : (linL ss).length * 6000 ≤ 10000000 := by rw [linL_len]; omega
  refine ⟨_, (pss_cons (ps_set (i := 2) sc_coded.nd rfl (Or.inl rfl) (pe_make T.k_Marker G_Marker_init (hr.mono (by decide)) rfl T.m_Marker T.b_Marker_init .nil pass0 (pa_cons (pe_call G_names_of (hr.mono (by decide)) rfl T.m_names_of T.F_names_of.kp T.b_names_of .nil pass0 (pa_cons (pv 0) pa_nil)) pa_nil)))
    (pss_cons (ps_set (i := 3) sc_coded.nd rfl (Or.inl rfl) (pe_lst pa_nil))
    (pss_cons (ps_expr (pe_call G_put_steps (hr.mono (by decide)) rfl T.m_put_steps T.F_put_steps.kp T.b_put_steps .nil pass0 (pa_cons (pv 3) (pa_cons (pe_meth (pv 2) T.c_Marker T.e_Marker_marked G_Marker_marked (hr.mono (by decide)) T.b_Marker_marked .nil pass0 (pa_cons (pv 0) pa_nil)) (pa_cons (pv 1) pa_nil)))))
    (pss_cons (ps_expr (pe_bm PySem.F.plainAttrs_list PySem.F.slot_list_append PySem.F.type_list_append mt_append (pv 3) (pa_cons (pe_tup (pa_cons pe_str (pa_cons (pe_callB call_len_seq (by rfl) T.z_len PySem.boot_len (pa_cons (pe_call G_lines_of (hr.mono (by decide)) rfl T.m_lines_of T.F_lines_of.kp T.b_lines_of .nil pass0 (pa_cons (pv 0) pa_nil)) pa_nil)) pa_nil))) pa_nil)))
    (pss_one (ps_ret (pv 3))))))), ?_⟩
  walk_at "k"
  walk_at "go"
  refine ⟨l, ws, ss, rfl, hl, hss, fit, hd, by omega, good, h16, fun np H1 s1 e1 => ?_⟩
  walk_at "go"
  intro x dx hx hdx ne
  refine ⟨x, dx, np, _, rfl, upd_same, at_new (at_new e1 hdx) (by rw [upd_ne ne.symm]; exact hx), hnd, hnl, fun sl H2 s2 K2 => ⟨rfl, ?_⟩⟩
  have sH2 : Same H H2 := fun b o e => by
    have e' := s1 _ _ e
    have hb : b ≠ x := ne_of_none e' hx
    exact s2.at_ (at_ne (at_new e' hdx) hb) (by simpa using hb)
  walk_at "go"
  intro r hrn
  have ob2 := K2.ob
  have hrx : r ≠ x := fun z => by rw [z, ob2] at hrn; cases hrn
  have K2' : KAt A (namesOf (linL ss)) (upd H2 r (.lst [])) x dx sl 0 (namesOf (linL ss)).length := K2.keep (Same.only.new hrn) (at_new ob2 hrn)
  have ob2' := K2'.ob
  have sH2' := sH2.new (o := .lst []) hrn
  walk_at "go"
  refine ⟨x, dx, sl, 0, _, ss, l, ws, rfl, K2', sH2' _ _ hl, hss.same sH2', hd, by omega, hin, fun l' us H3 s3 K3 e3 m3 => ?_⟩
  have r3 : H3 r = some (.lst []) := s3.at_ upd_same (by simpa using hrx)
  have sH3 : Same H H3 := fun b o e => s3.at_ (sH2' _ _ e) (by
    have e' := s1 _ _ e
    simpa using ne_of_none e' hx)
  have hr0 : H r = none := sH2.free hrn
  have kD : Keeps (fresh (upd H2 r (.lst [])) H3) (minus H3 [r]) := fun b o e _ => by
    obtain ⟨f1, f2⟩ := fresh_of e
    rw [minus_ne]
    · exact f2
    · have : b ≠ r := fun z => by rw [z, upd_same] at f1; cases f1
      simpa using this
  walk_at "go"
  have P0 : PutAt (minus H3 [r]) H3 r [] := ⟨minus_le _ _, minus_at (by simp), [], r3, Each.nil⟩
  refine ⟨minus H3 [r], r, l', us, _, [], rfl, kD _ _ e3 ⟨_, .inr rfl⟩, MssAt.keep kD m3, P0, by rw [deep_markL]; exact hd, ?_, fun H4 P4 => ?_⟩
  · have := long_markL (fun x => (namesOf (linL ss)).idxOf x) ss 0 (namesOf (linL ss)).length
    show 0 + _ ≤ 1000
    omega
  obtain ⟨us4, hus4, hR4⟩ := P4.ex
  have sH4 : Same H H4 := (sH3.minus (S := [r]) fun b hb => by rw [List.mem_singleton.mp hb]; exact hr0).trans P4.same
  walk_at "go"
  refine ⟨l, ws, ss, rfl, sH4 _ _ hl, hss.same sH4, fit, hd, by omega, fun lp H5 s5 e5 => ?_⟩
  have P5 : PutAt (minus H3 [r]) H5 r ([] ++ putL (markL (fun x => (namesOf (linL ss)).idxOf x) ss 0 (namesOf (linL ss)).length) ([] : List Row).length) := ⟨P4.same.trans s5, P4.out, us4, s5 _ _ hus4, hR4.same s5⟩
  walk_at "go"
  rw [List.length_map, linL_len]
  intro z hz
  walk_at "go"
  refine P5.app (row := .fin (linesL ss)) hz rfl ?_ fun H6 P6 => ?_
  · have := long_markL (fun x => (namesOf (linL ss)).idxOf x) ss 0 (namesOf (linL ss)).length
    rw [List.nil_append, put_longL]
    omega
  obtain ⟨us6, hus6, hR6⟩ := P6.ex
  walk_at "go"
  exact q r us6 H6 ((sH3.minus (S := [r]) fun b hb => by rw [List.mem_singleton.mp hb]; exact hr0).trans P6.same) hus6 hR6
theorem ok_code_of : FnOk P w K mg base CX0 16 A.f_code_of A.d_code_of ["program"] spCodeOf := by
  refine T.F_code_of.ok sc_code_of (fun vs H Q E h => ?_) (fun cdv A' outer s H vs Q E hr h => ?_)
  · obtain ⟨l, ws, ss, rfl, _⟩ := h
    rfl
  have G_coded := ok_coded (P := P) (w := w) (base := base) T
  obtain ⟨l, ws, ss, rfl, hl, hss, ok, q⟩ := h
  refine ⟨_, (pss_one (ps_ret (pe_call G_coded (hr.mono (by decide)) rfl T.m_coded T.F_coded.kp T.b_coded .nil pass0 (pa_cons (pv 0) (pa_cons pe_bl pa_nil))))), ?_⟩
  walk_at "k"
  walk_at "go"
  exact ⟨l, ws, ss, rfl, hl, hss, ok, q⟩
end

end U
namespace U
open PySem L2
/-! the steps that need no word -/
local macro_rules | `(tactic| walk_at "h") => `(tactic| focus ((repeat (first | assumption | exact upd_same | (apply at_ne; rotate_left; (first | assumption | exact Ne.symm (by assumption))) | (apply at_new; rotate_left; assumption))); done))
local macro_rules | `(tactic| walk_at "go") => `(tactic| repeat (with_reducible first
  | refine Go.by_ ?_
  | (apply w_at; (first | assumption | exact upd_same))
  | (apply w_sqT; (first | assumption | exact SqT.of (by assumption) | exact SqT.of upd_same))
  | (apply w_sqL; (first | assumption | exact SqL.of (by assumption) | exact SqL.of upd_same))
  | (apply w_sqLT1; (first | assumption | exact SqL.of (by assumption) | exact SqL.of upd_same))
  | (apply w_sqLT2; (first | assumption | exact SqT.of (by assumption) | exact SqT.of upd_same))
  | (apply w_at; walk_at "h")
  | (apply w_sqT; focus (apply SqT.of; walk_at "h"))
  | (apply w_sqL; focus (apply SqL.of; walk_at "h"))
  | (apply w_sqLT1; focus (apply SqL.of; walk_at "h"))
  | (apply w_sqLT2; focus (apply SqT.of; walk_at "h"))
  | (apply w_strT; decide)
  | (apply w_strF; decide)
  | (apply w_gTupH; (with_unfolding_all rfl))
  | (apply w_ixA; (first | assumption | with_unfolding_all rfl))))
local macro_rules | `(tactic| walk_at "k") => `(tactic| ((try dsimp only [cxOf, Cx.nox, List.map_cons, List.map_nil]); refine w_start ?_))
/-! ## The law's own log -/
theorem w_isi {K : PySem.W.Frag} {H : Hp} {Q : VK} {x : V} {a b : String} {r : Bool} (ty : TyX K H x (.type a)) (e : kitB a b = some r) (q : Q (.bl r) H) : rIsi K [x, .ty b] H Q := ⟨x, .ty b, .type a, .type b, r, rfl, .ty b, ty, kit_ty e, q⟩
theorem w_slT {K : PySem.W.Frag} {H : Hp} {Q : VK} {a : Addr} {x : V} {xs : List V} (h : H a = some (.tup (x :: xs))) (q : ∀ p, H p = none → Q (.ref p) (upd H p (.tup xs))) : rSlT K (.ref a) (some 1) none H Q := by
  refine ⟨a, _, rfl, SqT.of h, fun z => ?_, fun p hp => ?_⟩
  · have := z.1
    rw [show (1 : Int) = ((1 : Nat) : Int) from rfl, HT.sIx_nat] at this
    simp at this
  · rw [show (1 : Int) = ((1 : Nat) : Int) from rfl, cutV_drop (k := 1) (by simp)]
    exact q p hp
def PartIs (H : Hp) (d : Nat) (n : Nat) (v : V) : Prop := (∃ x, v = .str x ∧ n = 0) ∨ (∃ i, v = .int i ∧ n = 0) ∨ (∃ (l : Addr) (vs : List V) (b : List Step), v = .ref l ∧ H l = some (.lst vs) ∧ StepsAt H b vs ∧ deepL b < d ∧ n = 1 + linesL b)
theorem PartIs.same {H H' : Hp} (e : Same H H') {d n : Nat} {v : V} (h : PartIs H d n v) : PartIs H' d n v := by
  rcases h with h | h | ⟨l, vs, b, h1, h2, h3, h4⟩
  · exact .inl h
  · exact .inr (.inl h)
  · exact .inr (.inr ⟨l, vs, b, h1, e _ _ h2, h3.same e, h4⟩)
theorem parts_of {H : Hp} {st : Step} {v : V} {d : Nat} (h : StepAt H st v) (hd : deepS st < d + 1) : ∃ (a : Addr) (hd : V) (xs : List V) (ns : List Nat), v = .ref a ∧ H a = some (.tup (hd :: xs)) ∧ Each (PartIs H d) ns xs ∧ linesS st = 1 + ns.sum := by
  have ps : ∀ x : Str, PartIs H d 0 (.str x) := fun x => .inl ⟨x, rfl, rfl⟩
  have pi : ∀ x : Int, PartIs H d 0 (.int x) := fun x => .inr (.inl ⟨x, rfl, rfl⟩)
  cases st with
  | pl p =>
    obtain ⟨a, rfl, ha⟩ := h
    cases p with
    | opn x => exact ⟨a, _, _, [0], rfl, ha, Each.nil.cons (ps _), rfl⟩
    | act t x => exact ⟨a, _, _, [0, 0], rfl, ha, (Each.nil.cons (ps _)).cons (ps _), rfl⟩
    | cpy x y => exact ⟨a, _, _, [0, 0], rfl, ha, (Each.nil.cons (ps _)).cons (ps _), rfl⟩
    | drp x => exact ⟨a, _, _, [0], rfl, ha, Each.nil.cons (ps _), rfl⟩
    | tie x y => exact ⟨a, _, _, [0, 0], rfl, ha, (Each.nil.cons (ps _)).cons (ps _), rfl⟩
  | lend x y b =>
    obtain ⟨l, vs, ⟨a, rfl, ha⟩, h1, h2⟩ := h
    have : deepS (.lend x y b) = 1 + deepL b := rfl
    exact ⟨a, _, _, [0, 0, 1 + linesL b], rfl, ha, ((Each.nil.cons (.inr (.inr ⟨l, vs, b, rfl, h1, h2, by omega, rfl⟩))).cons (ps _)).cons (ps _), by show 1 + (1 + linesL b) = _; simp⟩
  | ite n b c =>
    obtain ⟨l, k, vs, ws, ⟨a, rfl, ha⟩, h1, h2, h3, h4⟩ := h
    have : deepS (.ite n b c) = 1 + max (deepL b) (deepL c) := rfl
    exact ⟨a, _, _, [0, 1 + linesL b, 1 + linesL c], rfl, ha, ((Each.nil.cons (.inr (.inr ⟨k, ws, c, rfl, h3, h4, by omega, rfl⟩))).cons (.inr (.inr ⟨l, vs, b, rfl, h1, h2, by omega, rfl⟩))).cons (pi _), by show 1 + (1 + linesL b) + (1 + linesL c) = _; simp; omega⟩
  | whl n b =>
    obtain ⟨l, vs, ⟨a, rfl, ha⟩, h1, h2⟩ := h
    have : deepS (.whl n b) = 1 + deepL b := rfl
    exact ⟨a, _, _, [0, 1 + linesL b], rfl, ha, (Each.nil.cons (.inr (.inr ⟨l, vs, b, rfl, h1, h2, by omega, rfl⟩))).cons (pi _), by show 1 + (1 + linesL b) = _; simp⟩
def spLawLines (d : Nat) : Sp := fun vs H Q _ => ∃ (l : Addr) (ws : List V) (ss : List Step), vs = [.ref l] ∧ H l = some (.lst ws) ∧ StepsAt H ss ws ∧ deepL ss < d ∧ ∀ H', Same H H' → Q (.int (linesL ss : Nat)) H'
def stK (hd lg ip : Addr) (m n a : Int) : List (Key × V) := [(.inr "holds", .ref hd), (.inr "log", .ref lg), (.inr "many", .int m), (.inr "number", .int n), (.inr "at", .int a), (.inr "inputs", .ref ip)]
section
variable (hd lg ip : Addr) (m n a z : Int)
theorem stK_holds : valV (stK hd lg ip m n a) (.inr "holds") = some (.ref hd) := by kernel_rfl
theorem stK_log : valV (stK hd lg ip m n a) (.inr "log") = some (.ref lg) := by kernel_rfl
theorem stK_many : valV (stK hd lg ip m n a) (.inr "many") = some (.int m) := by kernel_rfl
theorem stK_num : valV (stK hd lg ip m n a) (.inr "number") = some (.int n) := by kernel_rfl
theorem stK_at : valV (stK hd lg ip m n a) (.inr "at") = some (.int a) := by kernel_rfl
theorem stK_ip : valV (stK hd lg ip m n a) (.inr "inputs") = some (.ref ip) := by kernel_rfl
theorem stK_pmany : putK (stK hd lg ip m n a) (.inr "many") (.int z) = stK hd lg ip z n a := by kernel_rfl
theorem stK_pnum : putK (stK hd lg ip m n a) (.inr "number") (.int z) = stK hd lg ip m z a := by kernel_rfl
theorem stK_pat : putK (stK hd lg ip m n a) (.inr "at") (.int z) = stK hd lg ip m n z := by kernel_rfl
theorem stK_len : (stK hd lg ip m n a).length < sizeLine := by show 6 < sizeLine; decide
end
/-- what names hold -/
structure HoldsAre (nm : List Str) (kvs : List (Key × V)) (f : Str → Option Nat) : Prop where
  val : ∀ x : Str, (valV kvs (.inr x)).getD .non = optV (f x)
  nd : (kvs.map (·.1)).Nodup
  keys : ∀ k ∈ kvs.map (·.1), k ∈ nm.map (fun x => (.inr x : Key))
theorem HoldsAre.len {nm : List Str} {kvs : List (Key × V)} {f : Str → Option Nat} (h : HoldsAre nm kvs f) : kvs.length ≤ nm.length := by
  have := nodup_sub h.nd h.keys
  rwa [List.length_map, List.length_map] at this
theorem HoldsAre.put {nm : List Str} {kvs : List (Key × V)} {f : Str → Option Nat} (h : HoldsAre nm kvs f) {x : Str} {o : Option Nat} (m : x ∈ nm) : HoldsAre nm (putK kvs (.inr x) (optV o)) (setF f x o) := by
  refine ⟨fun k => ?_, ?_, ?_⟩
  · rw [valV_put]
    by_cases e : k = x
    · subst e; rw [if_pos rfl, setF_same]; rfl
    · rw [if_neg (by simpa using e), setF_ne _ _ e]; exact h.val k
  · rcases keys_put kvs (.inr x) (optV o) with e | ⟨n, e⟩
    · rw [e]; exact h.nd
    · rw [e]
      exact List.nodup_append.mpr ⟨h.nd, List.nodup_cons.mpr ⟨List.not_mem_nil, List.nodup_nil⟩, fun a ha b hb z => n (by rw [← List.mem_singleton.mp hb, ← z]; exact ha)⟩
  · rcases keys_put kvs (.inr x) (optV o) with e | ⟨n, e⟩
    · rw [e]; exact h.keys
    · rw [e]
      intro k hk
      rcases mem_a hk with hk | hk
      · exact h.keys k hk
      · rw [List.mem_singleton.mp hk]; exact List.mem_map.mpr ⟨x, m, rfl⟩
structure Lw where
  p : Addr
  hd : Addr
  lg : Addr
  ip : Addr
def Lw.addrs (x : Lw) : List Addr := [x.p, x.hd, x.lg]
structure LwAt (D H : Hp) (x : Lw) (nm : List Str) (inputs : List Int) (s : LS) : Prop where
  same : Same D H
  out : ∀ b ∈ x.addrs, D b = none
  nd : x.addrs.Nodup
  inp : D x.ip = some (.lst (inputs.map V.int))
  nms : nm.length ≤ 1000
  st : ∃ u : Nat, H x.p = some (.dK (stK x.hd x.lg x.ip (s.many : Nat) s.num (u : Nat))) ∧ s.rest = inputs.drop u ∧ u ≤ inputs.length
  holds : ∃ kvs, H x.hd = some (.dK kvs) ∧ HoldsAre nm kvs s.holds
  log : ∃ us, H x.lg = some (.lst us) ∧ EntsAt H s.log us
theorem LwAt.ne {D H : Hp} {x : Lw} {nm : List Str} {inputs : List Int} {s : LS} (h : LwAt D H x nm inputs s) : x.p ≠ x.hd ∧ x.p ≠ x.lg ∧ x.hd ≠ x.lg := by
  have := h.nd
  simp [Lw.addrs] at this
  exact ⟨this.1.1, this.1.2, this.2⟩
theorem LwAt.put {D H H' : Hp} {x : Lw} {nm : List Str} {inputs : List Int} {s : LS} (h : LwAt D H x nm inputs s) (e : Same H H') : LwAt D H' x nm inputs s := by
  obtain ⟨a, b, c, d, n, ⟨u, f, g⟩, ⟨kvs, i, j⟩, us, k, l⟩ := h
  exact ⟨a.trans e, b, c, d, n, ⟨u, e _ _ f, g⟩, ⟨kvs, e _ _ i, j⟩, us, e _ _ k, l.same e⟩
/-- the state's own dict changes -/
theorem LwAt.setp {D H : Hp} {x : Lw} {nm : List Str} {inputs : List Int} {s s' : LS} (h : LwAt D H x nm inputs s) {u : Nat} (hs : s'.holds = s.holds) (hl : s'.log = s.log) (hr : s'.rest = inputs.drop u) (hu : u ≤ inputs.length) :
    LwAt D (upd H x.p (.dK (stK x.hd x.lg x.ip (s'.many : Nat) s'.num (u : Nat)))) x nm inputs s' := by
  obtain ⟨n1, n2, n3⟩ := h.ne
  obtain ⟨a, b, c, d, n, ⟨u0, f, _⟩, ⟨kvs, i, j⟩, us, k, l⟩ := h
  refine ⟨a.put (b _ (by simp [Lw.addrs])), b, c, d, n, ⟨u, upd_same, hr, hu⟩, ⟨kvs, at_ne i n1.symm, by rw [hs]; exact j⟩, us, at_ne k n2.symm, ?_⟩
  rw [hl]
  refine l.mono fun e v p => ?_
  obtain ⟨q, e1, e2⟩ := p
  exact ⟨q, e1, at_ne e2 (ne_of e2 f (by intro z; cases z))⟩
theorem LwAt.setH {D H : Hp} {x : Lw} {nm : List Str} {inputs : List Int} {s s' : LS} (h : LwAt D H x nm inputs s) {kvs : List (Key × V)} (hk : HoldsAre nm kvs s'.holds) (hl : s'.log = s.log) (hr : s'.rest = s.rest) (hm : s'.many = s.many) (hn : s'.num = s.num) :
    LwAt D (upd H x.hd (.dK kvs)) x nm inputs s' := by
  obtain ⟨n1, n2, n3⟩ := h.ne
  obtain ⟨a, b, c, d, n, ⟨u0, f, g⟩, ⟨kvs0, i, j⟩, us, k, l⟩ := h
  refine ⟨a.put (b _ (by simp [Lw.addrs])), b, c, d, n, ⟨u0, by rw [hm, hn]; exact at_ne f n1, by rw [hr]; exact g⟩, ⟨kvs, upd_same, hk⟩, us, at_ne k n3.symm, ?_⟩
  rw [hl]
  refine l.mono fun e v p => ?_
  obtain ⟨q, e1, e2⟩ := p
  exact ⟨q, e1, at_ne e2 (ne_of e2 i (by intro z; cases z))⟩
theorem LwAt.app {D H : Hp} {x : Lw} {nm : List Str} {inputs : List Int} {s s' : LS} {z : Addr} {e : Ent} {xs : List V} {Q : VK} (h : LwAt D H x nm inputs s) (hz : H z = none) (he : entV e = xs) (hb : s.log.length ≤ 1000000) (hs : s' = { s with log := s.log ++ [e] })
    (q : ∀ H2, LwAt D H2 x nm inputs s' → Q .non H2) : rAppend (.ref x.lg) [.ref z] (upd H z (.tup xs)) Q := by
  obtain ⟨n1, n2, n3⟩ := h.ne
  obtain ⟨a, b, c, d, n, ⟨u0, f, g⟩, ⟨kvs0, i, j⟩, us, k, l⟩ := h
  have hlz : x.lg ≠ z := ne_of_none k hz
  refine w_app (at_new k hz) (Nat.lt_of_le_of_lt (by rw [l.len]; exact hb) (by decide)) (q _ ?_)
  subst hs
  refine ⟨(a.new hz).put (b _ (by simp [Lw.addrs])), b, c, d, n, ⟨u0, at_ne (at_new f hz) n2, g⟩, ⟨kvs0, at_ne (at_new i hz) n3, j⟩, _, upd_same, ?_⟩
  refine Each.snoc (l.mono fun e v p => ?_) ⟨z, rfl, by rw [he]; exact at_ne upd_same hlz.symm⟩
  obtain ⟨q, e1, e2⟩ := p
  exact ⟨q, e1, at_ne (at_new e2 hz) (ne_of e2 k (by intro z; cases z))⟩
def spLawDeed : Sp := fun vs H Q _ => ∃ (D : Hp) (x : Lw) (nm : List Str) (inputs : List Int) (s : LS) (l : Nat) (o : Option Nat) (t : Str), vs = [.ref x.p, .int (l : Nat), optV o, .str t] ∧ LwAt D H x nm inputs s ∧ s.log.length ≤ 1000000 ∧ ∀ H', LwAt D H' x nm inputs (s.deed l o t) → Q .non H'
def spLawMore : Sp := fun vs H Q _ => ∃ (D : Hp) (x : Lw) (nm : List Str) (inputs : List Int) (s : LS) (n : Int), vs = [.ref x.p, .int n] ∧ LwAt D H x nm inputs s ∧ ∀ H', LwAt D H' x nm inputs (s.more n).2 → Q (.bl (s.more n).1) H'
def spLawPlain : Sp := fun vs H Q _ => ∃ (D : Hp) (x : Lw) (nm : List Str) (inputs : List Int) (s : LS) (l : Nat) (p : Pl) (v : V), vs = [.ref x.p, v, .int (l : Nat)] ∧ TupAt D (plV p) v ∧ LwAt D H x nm inputs s ∧ (∀ y ∈ p.names, y ∈ nm) ∧ s.log.length ≤ 1000000 ∧ ∀ H', LwAt D H' x nm inputs (plain p l s) → Q .non H'
section
variable {P : Program} {w : World} {K : PySem.W.Frag} {mg : Str → Option Value} {base : Heap} {A : Ad} (T : Tx K mg A)
include T
theorem ok_law_lines_ {k d : Nat} (G_law_lines : FnOk P w K mg base CX0 k A.f_law_lines A.d_law_lines ["_law_steps"] (spLawLines d)) : FnOk P w K mg base CX0 (k + 1) A.f_law_lines A.d_law_lines ["_law_steps"] (spLawLines (d + 1)) := by
  refine T.F_law_lines.ok sc_law_lines (fun vs H Q E h => ?_) (fun cdv A' outer s H vs Q E hr h => ?_)
  · obtain ⟨l, ws, ss, rfl, _⟩ := h
    rfl
  obtain ⟨l, ws, ss, rfl, hl, hss, hd, q⟩ := h
  have EA := hss.each
  refine ⟨_, (pss_cons (ps_set (i := 1) sc_law_lines.nd rfl (Or.inl rfl) pe_int)
    (pss_cons (ps_for PassesOwn.never rfl (pi_list (pv 0)) (pg_name (i := 2) sc_law_lines.nd rfl (Or.inl rfl)) (pss_cons (ps_set (i := 1) sc_law_lines.nd rfl (Or.inl rfl) (pe_op op_add (pv 1) pe_int))
      (pss_one (ps_for PassesOwn.never rfl (pi_tup (pe_slice sl_tup (pv 2) (po_some pe_int) po_none)) (pg_name (i := 3) sc_law_lines.nd rfl (Or.inl rfl)) (pss_one (ps_if (pt_val (pe_callB call_isi (by rfl) T.z_isinstance (by decide +kernel) (pa_cons (pv 3) (pa_cons (pe_bltn (v := .ty "list") rfl T.z_list (by decide +kernel) rfl) pa_nil)))) (pss_one (ps_set (i := 1) sc_law_lines.nd rfl (Or.inl rfl) (pe_op op_add (pe_op op_add (pv 1) pe_int) (pe_call G_law_lines hr rfl T.m_law_lines T.F_law_lines.kp T.b_law_lines .nil pass0 (pa_cons (pv 3) pa_nil))))) pss_nil))))))
    (pss_one (ps_ret (pv 1))))), ?_⟩
  walk_at "k"
  walk_at "go"
  refine w_forL (xs := ws) (fun i σ H' => ∃ e1 e2 : Option V, σ = [some (.ref l), some (.int (linesL (ss.take i) : Nat)), e1, e2] ∧ Same H H')
    ⟨none, none, rfl, Same.refl H⟩ (fun i σ H' ⟨_, _, _, s1⟩ => SqL.of (s1 _ _ hl)) ?_ ?_
  · rintro i v σ H1 hi ⟨e1, e2, rfl, s1⟩
    obtain ⟨st, hs, hv⟩ := EA.at_ i v hi
    have hv1 := hv.same s1
    have ds := deepL_mem (List.mem_of_getElem? hs)
    rw [linesL_snoc hs]
    obtain ⟨a, hd', xs, ns, rfl, ha, hp, hln⟩ := parts_of hv1 (Nat.lt_of_le_of_lt ds hd)
    rw [hln]
    walk_at "go"
    refine w_slT ha fun z hz => ?_
    walk_at "go"
    refine w_forT (xs := xs) (fun j σ H' => ∃ e2 : Option V, σ = [some (.ref l), some (.int ((linesL (ss.take i) + 1 + (ns.take j).sum : Nat) : Int)), some (.ref a), e2] ∧ Same H1 H' ∧ H' z = some (.tup xs))
      ⟨e2, rfl, same_new hz, upd_same⟩ (fun j σ H' ⟨_, _, _, s2⟩ => SqT.of s2) ?_ ?_
    · rintro j v σ H2 hj ⟨e2', rfl, s2, hz2⟩
      obtain ⟨n, hn, pv⟩ := hp.at_ j v hj
      have hsum : (ns.take (j + 1)).sum = (ns.take j).sum + n := by rw [take_one hn, List.sum_append]; simp
      rcases pv with ⟨x, rfl, rfl⟩ | ⟨x, rfl, rfl⟩ | ⟨lb, vs, b, rfl, h1, h2, h3, rfl⟩
      · walk_at "go"
        refine w_isi (.base (.str x)) rfl ?_
        walk_at "go"
        exact ⟨some (.str x), by rw [hsum]; rfl, s2, hz2⟩
      · walk_at "go"
        refine w_isi (.base (.int x)) rfl ?_
        walk_at "go"
        exact ⟨some (.int x), by rw [hsum]; rfl, s2, hz2⟩
      · have h12 := s2 _ _ h1
        walk_at "go"
        refine w_isi (.base (.lst h12)) rfl ?_
        walk_at "go"
        refine ⟨lb, vs, b, rfl, h12, h2.same s2, h3, fun H3 s3 => ?_⟩
        walk_at "go"
        refine ⟨some (.ref lb), ?_, s2.trans s3, s3 _ _ hz2⟩
        rw [hsum]
        have : ((linesL (ss.take i) + 1 + (ns.take j).sum : Nat) : Int) + 1 + (linesL b : Nat) = ((linesL (ss.take i) + 1 + ((ns.take j).sum + (1 + linesL b)) : Nat) : Int) := by omega
        rw [this]
    · rintro σ H2 ⟨e2', rfl, s2, hz2⟩
      refine ⟨some (.ref a), e2', ?_, s1.trans s2⟩
      rw [hp.len, List.take_length, Nat.add_assoc]
  · rintro σ H1 ⟨e1, e2, rfl, s1⟩
    walk_at "go"
    rw [EA.len, List.take_length]
    exact q H1 s1
theorem ok_law_deed : FnOk P w K mg base CX0 1 A.f_law_deed A.d_law_deed ["_law_state", "_law_line", "_law_handle", "_law_word"] spLawDeed := by
  refine T.F_law_deed.ok sc_law_deed (fun vs H Q E h => ?_) (fun cdv A' outer s H vs Q E hr h => ?_)
  · obtain ⟨D, x, nm, inputs, s, l, o, t, rfl, _⟩ := h
    rfl
  have hu := hu_of hr
  obtain ⟨D, x, nm, inputs, ls, l, o, t, rfl, L, hb, q⟩ := h
  obtain ⟨u, hp, hr1, hu1⟩ := L.st
  obtain ⟨us, hlg, hE⟩ := L.log
  refine ⟨_, (pss_one (ps_if (pt_cmpR op_notN (pv 2) pe_non (nomark _)) (pss_one (ps_expr (pe_bm PySem.F.plainAttrs_list PySem.F.slot_list_append PySem.F.type_list_append mt_append (pe_dget hu (pv 0) pe_str (fun _ _ => rfl)) (pa_cons (pe_tup (pa_cons (pv 1) (pa_cons (pv 2) (pa_cons (pv 3) (pa_cons (pe_dget hu (pv 0) pe_str (fun _ _ => rfl)) pa_nil))))) pa_nil)))) pss_nil)), ?_⟩
  walk_at "k"
  walk_at "go"
  cases o with
  | none =>
    refine ifF (by simp [optV]) ?_
    walk_at "go"
    exact q H L
  | some a =>
    refine ifT (by simp [optV]) ?_
    walk_at "go"
    refine w_dgxS hp (stK_log ..) ?_
    walk_at "go"
    refine w_dgxS hp (stK_num ..) ?_
    walk_at "go"
    intro z hz
    walk_at "go"
    exact L.app (e := .deed l a t ls.num) hz rfl hb rfl fun H2 L2 => (by walk_at "go"; exact q H2 L2)
theorem ok_law_lines : ∀ d : Nat, FnOk P w K mg base CX0 (d + 1) A.f_law_lines A.d_law_lines ["_law_steps"] (spLawLines d)
  | 0 => fn_no fun vs H Q E ⟨_, _, _, _, _, _, h, _⟩ => by omega
  | d + 1 => ok_law_lines_ T (ok_law_lines d)
theorem ok_law_more : FnOk P w K mg base CX0 1 A.f_law_more A.d_law_more ["_law_state", "_law_bound"] spLawMore := by
  refine T.F_law_more.ok sc_law_more (fun vs H Q E h => ?_) (fun cdv A' outer s H vs Q E hr h => ?_)
  · obtain ⟨D, x, nm, inputs, s, n, rfl, _⟩ := h
    rfl
  have hu := hu_of hr
  obtain ⟨D, x, nm, inputs, ls, n, rfl, L, q⟩ := h
  obtain ⟨u, hp, hr1, hu1⟩ := L.st
  have hi := L.same _ _ L.inp
  have nip : x.ip ≠ x.p := ne_of_none L.inp (L.out x.p (by simp [Lw.addrs]))
  refine ⟨_, (pss_cons (ps_if (pt_cmpR op_eq (pe_dget hu (pv 0) pe_str (fun _ _ => rfl)) (pe_callB call_len_seq (by rfl) T.z_len PySem.boot_len (pa_cons (pe_dget hu (pv 0) pe_str (fun _ _ => rfl)) pa_nil)) (nomark _)) (pss_one (ps_ret pe_bl)) pss_nil)
    (pss_cons (ps_dput hu (pv 0) pe_str (pe_ix ix_list (pe_dget hu (pv 0) pe_str (fun _ _ => rfl)) (pe_dget hu (pv 0) pe_str (fun _ _ => rfl)) (fun _ _ => rfl)) rfl)
    (pss_cons (ps_dput hu (pv 0) pe_str (pe_op op_add (pe_dget hu (pv 0) pe_str (fun _ _ => rfl)) pe_int) rfl)
    (pss_one (ps_ret (pe_cmpR op_gt (pe_dget hu (pv 0) pe_str (fun _ _ => rfl)) (pv 1) (nomark _))))))), ?_⟩
  walk_at "k"
  walk_at "go"
  refine w_dgxS hp (stK_at ..) ?_
  walk_at "go"
  refine w_dgxS hp (stK_ip ..) ?_
  walk_at "go"
  refine if_d (fun c => ?_) (fun c => ?_)
  · rw [List.length_map] at c
    have e : ls.rest = [] := by rw [hr1]; exact List.drop_eq_nil_of_le (by omega)
    have em : ls.more n = (false, ls) := by unfold LS.more; rw [e]
    walk_at "go"
    have := q H (by rw [em]; exact L)
    rw [em] at this
    exact this
  · rw [List.length_map] at c
    obtain ⟨i, hi2⟩ : ∃ i, inputs[u]? = some i := ⟨inputs[u]'(by omega), List.getElem?_eq_getElem _⟩
    have hv : atI (inputs.map V.int) (u : Int) = some (.int i) := atI_nat (by rw [List.getElem?_map, hi2]; rfl)
    obtain ⟨r, hr2⟩ : ∃ r, ls.rest = i :: r := ⟨inputs.drop (u + 1), by
      rw [hr1, List.drop_eq_getElem_cons (by omega)]
      rw [List.getElem?_eq_getElem (by omega)] at hi2
      injection hi2 with z
      rw [z]⟩
    obtain ⟨_, hr3, hu3⟩ := drop_cons (hr2.symm.trans hr1)
    have em : ls.more n = (decide (n < i), { ls with num := i, rest := r }) := by unfold LS.more; rw [hr2]
    walk_at "go"
    refine w_dgxS hp (stK_ip ..) ?_
    walk_at "go"
    refine w_dgxS hp (stK_at ..) ?_
    walk_at "go"
    refine w_dputS hp (stK_len ..) ?_
    rw [stK_pnum]
    walk_at "go"
    refine w_dgxS upd_same (stK_at ..) ?_
    walk_at "go"
    refine w_dputS upd_same (stK_len ..) ?_
    rw [stK_pat]
    walk_at "go"
    refine w_dgxS upd_same (stK_num ..) ?_
    walk_at "go"
    have L2 : LwAt D (upd H x.p (.dK (stK x.hd x.lg x.ip (ls.many : Nat) i (u : Nat)))) x nm inputs { ls with num := i } := L.setp (s' := { ls with num := i }) rfl rfl hr1 hu1
    have L3 := L2.setp (s' := { ls with num := i, rest := r }) (u := u + 1) rfl rfl hr3 (by omega)
    rw [em] at q
    exact q _ L3
theorem ok_law_plain : FnOk P w K mg base CX0 2 A.f_law_plain A.d_law_plain ["_law_state", "_law_step_here", "_law_line"] spLawPlain := by
  refine T.F_law_plain.ok sc_law_plain (fun vs H Q E h => ?_) (fun cdv A' outer s H vs Q E hr h => ?_)
  · obtain ⟨D, x, nm, inputs, s, l, p, v, rfl, _⟩ := h
    rfl
  have hu := hu_of hr
  have G_law_deed := ok_law_deed (P := P) (w := w) (base := base) T
  obtain ⟨D, x, nm, inputs, ls, l, p, v, rfl, ⟨a, rfl, ha⟩, L, hn, hb, q⟩ := h
  obtain ⟨u, hp, hr1, hu1⟩ := L.st
  obtain ⟨kvs, hh, HA⟩ := L.holds
  obtain ⟨n1, n2, n3⟩ := L.ne
  have haH := L.same _ _ ha
  have size : kvs.length < sizeLine := Nat.lt_of_le_of_lt (Nat.le_trans HA.len L.nms) (by decide)
  have nap : a ≠ x.p := ne_of haH hp (by intro z; cases z)
  have nah : a ≠ x.hd := ne_of haH hh (by intro z; cases z)
  refine ⟨_, (pss_cons (ps_set (i := 3) sc_law_plain.nd rfl (Or.inl rfl) (pe_dget hu (pv 0) pe_str (fun _ _ => rfl)))
    (pss_cons (ps_set (i := 4) sc_law_plain.nd rfl (Or.inl rfl) (pe_dget1 hu (pv 3) (pe_ix ix_tup (pv 1) pe_int (fun _ _ => rfl)) ⟨rfl, rfl, rfl, rfl⟩))
    (pss_one (ps_if (pt_cmpR op_eq (pe_ix ix_tup (pv 1) pe_int (fun _ _ => rfl)) pe_str (nomark _)) (pss_cons (ps_dput hu (pv 3) (pe_ix ix_tup (pv 1) pe_int (fun _ _ => rfl)) (pe_dget hu (pv 0) pe_str (fun _ _ => rfl)) rfl)
      (pss_cons (ps_dput hu (pv 0) pe_str (pe_op op_add (pe_dget hu (pv 0) pe_str (fun _ _ => rfl)) pe_int) rfl)
      (pss_one (ps_expr (pe_call G_law_deed (hr.mono (by decide)) rfl T.m_law_deed T.F_law_deed.kp T.b_law_deed .nil pass0 (pa_cons (pv 0) (pa_cons (pv 2) (pa_cons (pe_dget hu (pv 3) (pe_ix ix_tup (pv 1) pe_int (fun _ _ => rfl)) (fun _ _ => rfl)) (pa_cons pe_str pa_nil))))))))) (pss_one (ps_if (pt_cmpR op_eq (pe_ix ix_tup (pv 1) pe_int (fun _ _ => rfl)) pe_str (nomark _)) (pss_one (ps_expr (pe_call G_law_deed (hr.mono (by decide)) rfl T.m_law_deed T.F_law_deed.kp T.b_law_deed .nil pass0 (pa_cons (pv 0) (pa_cons (pv 2) (pa_cons (pe_dget1 hu (pv 3) (pe_ix ix_tup (pv 1) pe_int (fun _ _ => rfl)) ⟨rfl, rfl, rfl, rfl⟩) (pa_cons (pe_ix ix_tup (pv 1) pe_int (fun _ _ => rfl)) pa_nil))))))) (pss_one (ps_if (pt_cmpR op_eq (pe_ix ix_tup (pv 1) pe_int (fun _ _ => rfl)) pe_str (nomark _)) (pss_one (ps_dput hu (pv 3) (pe_ix ix_tup (pv 1) pe_int (fun _ _ => rfl)) (pe_dget1 hu (pv 3) (pe_ix ix_tup (pv 1) pe_int (fun _ _ => rfl)) ⟨rfl, rfl, rfl, rfl⟩) rfl)) (pss_one (ps_if (pt_cmpR op_eq (pe_ix ix_tup (pv 1) pe_int (fun _ _ => rfl)) pe_str (nomark _)) (pss_one (ps_dput hu (pv 3) (pe_ix ix_tup (pv 1) pe_int (fun _ _ => rfl)) pe_non rfl)) (pss_one (ps_if (PW.pt (pw_and (pt_cmpR op_notN (pv 4) pe_non (nomark _)) (pw_and (pt_cmpR op_notN (pe_dget1 hu (pv 3) (pe_ix ix_tup (pv 1) pe_int (fun _ _ => rfl)) ⟨rfl, rfl, rfl, rfl⟩) pe_non (nomark _)) (pw_and1 (pt_cmpR op_ne (pv 4) (pe_dget1 hu (pv 3) (pe_ix ix_tup (pv 1) pe_int (fun _ _ => rfl)) ⟨rfl, rfl, rfl, rfl⟩) (nomark _)))))) (pss_one (ps_expr (pe_bm PySem.F.plainAttrs_list PySem.F.slot_list_append PySem.F.type_list_append mt_append (pe_dget hu (pv 0) pe_str (fun _ _ => rfl)) (pa_cons (pe_tup (pa_cons (pv 2) (pa_cons (pv 4) (pa_cons (pe_dget1 hu (pv 3) (pe_ix ix_tup (pv 1) pe_int (fun _ _ => rfl)) ⟨rfl, rfl, rfl, rfl⟩) pa_nil)))) pa_nil)))) pss_nil)))))))))))), ?_⟩
  walk_at "k"
  walk_at "go"
  refine w_dgxS hp (stK_holds ..) ?_
  cases p with
  | opn y =>
    have ha2 : H a = some (.tup [.str "open", .str y]) := haH
    walk_at "go"
    refine w_dgxS hp (stK_many ..) ?_
    walk_at "go"
    refine w_dputS hh size ?_
    walk_at "go"
    refine w_dgxS (at_ne hp n1) (stK_many ..) ?_
    walk_at "go"
    refine w_dputS (at_ne hp n1) (stK_len ..) ?_
    rw [stK_pmany]
    walk_at "go"
    have hy : y ∈ nm := hn y (by simp [Pl.names])
    refine w_dgxS (at_ne upd_same n1.symm) (v := .int (ls.many : Nat)) (by rw [valV_put, if_pos rfl]) ?_
    walk_at "go"
    have L1 : LwAt D (upd H x.hd (.dK (putK kvs (.inr y) (optV (some ls.many))))) x nm inputs { ls with holds := setF ls.holds y (some ls.many) } := L.setH (s' := { ls with holds := setF ls.holds y (some ls.many) }) (HA.put hy) rfl rfl rfl rfl
    have L2 := L1.setp (s' := { ls with holds := setF ls.holds y (some ls.many), many := ls.many + 1 }) (u := u) rfl rfl hr1 hu1
    rw [show ((ls.many + 1 : Nat) : Int) = (ls.many : Int) + 1 by omega] at L2
    refine ⟨D, x, nm, inputs, _, l, some ls.many, "open", rfl, L2, hb, fun H2 L3 => q H2 L3⟩
  | act t y =>
    have ha2 : H a = some (.tup [.str "do", .str t, .str y]) := haH
    walk_at "go"
    rw [HA.val y]
    refine ⟨D, x, nm, inputs, ls, l, ls.holds y, t, rfl, L, hb, fun H2 L3 => q H2 L3⟩
  | cpy y z =>
    have ha2 : H a = some (.tup [.str "copy", .str y, .str z]) := haH
    have hy : y ∈ nm := hn y (by simp [Pl.names])
    walk_at "go"
    rw [HA.val z]
    walk_at "go"
    refine w_dputS hh size ?_
    exact q _ (L.setH (s' := ls.set y (ls.holds z)) (HA.put hy) rfl rfl rfl rfl)
  | drp y =>
    have ha2 : H a = some (.tup [.str "drop", .str y]) := haH
    have hy : y ∈ nm := hn y (by simp [Pl.names])
    walk_at "go"
    refine w_dputS hh size ?_
    exact q _ (L.setH (s' := ls.set y none) (HA.put (o := none) hy) rfl rfl rfl rfl)
  | tie y z =>
    have ha2 : H a = some (.tup [.str "tie", .str y, .str z]) := haH
    have q' : ∀ H', LwAt D H' x nm inputs (ls.tied l (ls.holds y) (ls.holds z)) → Q .non H' := q
    walk_at "go"
    rw [HA.val y]
    cases ey : ls.holds y with
    | none =>
      rw [ey] at q'
      refine ifF (by simp [optV]) ?_
      walk_at "go"
      exact q' H L
    | some i =>
      rw [ey] at q'
      refine ifT (by simp [optV]) ?_
      walk_at "go"
      rw [HA.val z]
      cases ez : ls.holds z with
      | none =>
        rw [ez] at q'
        refine ifF (by simp [optV]) ?_
        walk_at "go"
        exact q' H L
      | some j =>
        rw [ez] at q'
        refine ifT (by simp [optV]) ?_
        walk_at "go"
        rw [HA.val z, ez]
        unfold optV
        walk_at "go"
        refine if_nd (fun c => ?_) (fun c => ?_)
        · walk_at "go"
          refine w_dgxS hp (stK_log ..) ?_
          obtain ⟨us, hlg, hE⟩ := L.log
          walk_at "go"
          rw [HA.val z, ez]
          unfold optV
          walk_at "go"
          intro t ht
          walk_at "go"
          refine L.app (e := .tie l i j) ht rfl hb rfl fun H2 L2 => ?_
          walk_at "go"
          refine q' H2 ?_
          show LwAt D H2 x nm inputs (if i = j then ls else { ls with log := ls.log ++ [.tie l i j] })
          rw [if_neg fun z => c (by rw [z])]
          exact L2
        · walk_at "go"
          refine q' H ?_
          show LwAt D H x nm inputs (if i = j then ls else { ls with log := ls.log ++ [.tie l i j] })
          rw [if_pos (by omega)]
          exact L
end

end U
namespace U
open PySem L2
/-! the steps that need no word -/
local macro_rules | `(tactic| walk_at "h") => `(tactic| focus ((repeat (first | assumption | exact upd_same | (apply at_ne; rotate_left; (first | assumption | exact Ne.symm (by assumption))) | (apply at_new; rotate_left; assumption))); done))
local macro_rules | `(tactic| walk_at "go") => `(tactic| repeat (with_reducible first
  | refine Go.by_ ?_
  | (apply w_at; (first | assumption | exact upd_same))
  | (apply w_sqT; (first | assumption | exact SqT.of (by assumption) | exact SqT.of upd_same))
  | (apply w_sqL; (first | assumption | exact SqL.of (by assumption) | exact SqL.of upd_same))
  | (apply w_sqLT1; (first | assumption | exact SqL.of (by assumption) | exact SqL.of upd_same))
  | (apply w_sqLT2; (first | assumption | exact SqT.of (by assumption) | exact SqT.of upd_same))
  | (apply w_at; walk_at "h")
  | (apply w_sqT; focus (apply SqT.of; walk_at "h"))
  | (apply w_sqL; focus (apply SqL.of; walk_at "h"))
  | (apply w_sqLT1; focus (apply SqL.of; walk_at "h"))
  | (apply w_sqLT2; focus (apply SqT.of; walk_at "h"))
  | (apply w_strT; decide)
  | (apply w_strF; decide)
  | (apply w_gTupH; (with_unfolding_all rfl))
  | (apply w_ixA; (first | assumption | with_unfolding_all rfl))))
local macro_rules | `(tactic| walk_at "k") => `(tactic| ((try dsimp only [cxOf, Cx.nox, List.map_cons, List.map_nil]); refine w_start ?_))
/-! ## The law's log, on -/
theorem goL_snoc : ∀ {ss : List Step} {i : Nat} {l : Nat} {s : LS} {st : Step}, ss[i]? = some st → goL (ss.take (i + 1)) l s = goS st (l + linesL (ss.take i)) (goL (ss.take i) l s)
  | a :: r, 0, l, s, st, e => by
    have : a = st := by simpa using e
    subst this
    show goL [] (l + linesS a) (goS a l s) = goS a (l + 0) s
    rfl
  | a :: r, i + 1, l, s, st, e => by
    have e' : r[i]? = some st := by simpa using e
    show goL (r.take (i + 1)) (l + linesS a) (goS a l s) = goS st (l + (linesS a + linesL (r.take i))) (goL (r.take i) (l + linesS a) (goS a l s))
    rw [goL_snoc e', Nat.add_assoc]
theorem sizeL_snoc : ∀ {ss : List Step} {i : Nat} {s : Step}, ss[i]? = some s → sizeL (ss.take (i + 1)) = sizeL (ss.take i) + sizeS s
  | a :: r, 0, s, e => by
    have : a = s := by simpa using e
    subst this
    show sizeS a + 0 = 0 + sizeS a
    omega
  | a :: r, i + 1, s, e => by
    have e' : r[i]? = some s := by simpa using e
    show sizeS a + sizeL (r.take (i + 1)) = (sizeS a + sizeL (r.take i)) + sizeS s
    rw [sizeL_snoc e', Nat.add_assoc]
theorem sizeL_take : ∀ (ms : List Step) (i : Nat), sizeL (ms.take i) ≤ sizeL ms
  | [], i => by rw [List.take_nil]; exact Nat.le_refl _
  | m :: r, 0 => Nat.zero_le _
  | m :: r, i + 1 => by
    have := sizeL_take r i
    show sizeS m + sizeL (r.take i) ≤ sizeS m + sizeL r
    omega
/-- room for the log -/
def Rm (c : Nat) (s : LS) : Prop := s.log.length + 2 * c * (1 + s.rest.length) ≤ 1000000
theorem Cost.room {c : Nat} {s s' : LS} (h : Cost c s s') (d : Nat) (r : Rm (c + d) s) : Rm d s' := by
  obtain ⟨⟨ev, e1, e2⟩, _, e3⟩ := h
  unfold Rm at *
  rw [e1, List.length_append]
  have h1 : 2 * (c + d) * (1 + s.rest.length) = 2 * c * (1 + s.rest.length) + 2 * d * (1 + s.rest.length) := by rw [Nat.mul_add 2 c d, Nat.add_mul]
  have h2 : 2 * c * (1 + s.rest.length - s'.rest.length) ≤ 2 * c * (1 + s.rest.length) := Nat.mul_le_mul_left _ (by omega)
  have h3 : 2 * d * (1 + s'.rest.length) ≤ 2 * d * (1 + s.rest.length) := Nat.mul_le_mul_left _ (by omega)
  omega
theorem Rm.less {c d : Nat} {s : LS} (r : Rm c s) (h : d ≤ c) : Rm d s := by
  unfold Rm at *
  have := Nat.mul_le_mul_right (1 + s.rest.length) (Nat.mul_le_mul_left 2 h)
  omega
/-- in a loop -/
def Rw (c : Nat) (s : LS) : Prop := s.log.length + 2 * c * s.rest.length ≤ 1000000
theorem Rw.body {c : Nat} {s s1 : LS} {n : Int} (r : Rw c s) (h : s.more n = (true, s1)) : Rm c s1 := by
  have e := more_true h
  have l : s1.log = s.log := by
    unfold LS.more at h
    split at h
    · cases h
    · have := (Prod.mk.inj h).2; rw [← this]
  unfold Rw at r
  unfold Rm
  rw [l, Nat.add_comm 1, e]
  exact r
theorem Rw.next {c : Nat} {s s1 s2 : LS} {n : Int} (r : Rw c s) (h : s.more n = (true, s1)) (g : Cost c s1 s2) : Rw c s2 := by
  have e := more_true h
  have l : s1.log = s.log := by
    unfold LS.more at h
    split at h
    · cases h
    · have := (Prod.mk.inj h).2; rw [← this]
  obtain ⟨⟨ev, e1, e2⟩, _, e3⟩ := g
  unfold Rw at *
  rw [e1, List.length_append, l]
  have : 2 * c * (1 + s1.rest.length - s2.rest.length) + 2 * c * s2.rest.length = 2 * c * (1 + s1.rest.length) := by
    rw [← Nat.mul_add]
    congr 1
    omega
  rw [Nat.add_comm 1, e] at this e2
  omega
def spLawLent (d : Nat) : Sp := fun vs H Q _ => ∃ (D : Hp) (x : Lw) (nm : List Str) (inputs : List Int) (s : LS) (l : Nat) (y z : Str) (b : List Step) (v : V), vs = [.ref x.p, v, .int (l : Nat)] ∧ StepAt D (.lend y z b) v ∧ LwAt D H x nm inputs s ∧ (∀ t ∈ namesS (.lend y z b), t ∈ nm) ∧ deepS (.lend y z b) < d ∧ Rm (sizeS (.lend y z b)) s ∧
  ∀ H', LwAt D H' x nm inputs (goS (.lend y z b) l s) → Q .non H'
def spLawGo (d : Nat) : Sp := fun vs H Q _ => ∃ (D : Hp) (x : Lw) (nm : List Str) (inputs : List Int) (s : LS) (l : Nat) (ss : List Step) (p : Addr) (ws : List V), vs = [.ref x.p, .ref p, .int (l : Nat)] ∧ D p = some (.lst ws) ∧ StepsAt D ss ws ∧ LwAt D H x nm inputs s ∧ (∀ y ∈ namesL ss, y ∈ nm) ∧ deepL ss < d ∧ Rm (sizeL ss) s ∧
  ∀ H', LwAt D H' x nm inputs (goL ss l s) → Q .non H'
theorem Rm.log {c : Nat} {s : LS} (r : Rm c s) : s.log.length ≤ 1000000 := by unfold Rm at r; omega
section
variable {P : Program} {w : World} {K : PySem.W.Frag} {mg : Str → Option Value} {base : Heap} {A : Ad} (T : Tx K mg A)
include T
theorem ok_law_lent_ {k d : Nat} (hk : 7 ≤ k) (hd6 : d ≤ 6) (G_law_go : FnOk P w K mg base CX0 k A.f_law_go A.d_law_go ["_law_state", "_law_steps", "_law_line"] (spLawGo d)) : FnOk P w K mg base CX0 (k + 1) A.f_law_lent A.d_law_lent ["_law_state", "_law_step_here", "_law_line"] (spLawLent (d + 1)) := by
  refine T.F_law_lent.ok sc_law_lent (fun vs H Q E h => ?_) (fun cdv A' outer s H vs Q E hr h => ?_)
  · obtain ⟨D, x, nm, inputs, s, l, y, z, b, v, rfl, _⟩ := h
    rfl
  have hu := hu_of hr
  have G_law_deed := (ok_law_deed (P := P) (w := w) (base := base) T).mono (show 1 ≤ k by omega)
  have G_law_lines := (ok_law_lines (P := P) (w := w) (base := base) T 6).mono hk
  obtain ⟨D, x, nm, inputs, ls, l, y, z, b, v, rfl, ⟨lb, bs, ⟨a, rfl, ha⟩, hlb, hbs⟩, L, hn, hd, hrm, q⟩ := h
  obtain ⟨u, hp, hr1, hu1⟩ := L.st
  obtain ⟨kvs, hh, HA⟩ := L.holds
  have haH := L.same _ _ ha
  have hz : z ∈ nm := hn z (List.mem_cons_of_mem _ List.mem_cons_self)
  have ed : deepS (.lend y z b) = 1 + deepL b := rfl
  have es : sizeS (.lend y z b) = 1 + sizeL b := rfl
  refine ⟨_, (pss_cons (ps_set (i := 3) sc_law_lent.nd rfl (Or.inl rfl) (pe_dget1 hu (pe_dget hu (pv 0) pe_str (fun _ _ => rfl)) (pe_ix ix_tup (pv 1) pe_int (fun _ _ => rfl)) ⟨rfl, rfl, rfl, rfl⟩))
    (pss_cons (ps_expr (pe_call G_law_deed hr rfl T.m_law_deed T.F_law_deed.kp T.b_law_deed .nil pass0 (pa_cons (pv 0) (pa_cons (pv 2) (pa_cons (pv 3) (pa_cons pe_str pa_nil))))))
    (pss_cons (ps_dput hu (pe_dget hu (pv 0) pe_str (fun _ _ => rfl)) (pe_ix ix_tup (pv 1) pe_int (fun _ _ => rfl)) (pv 3) rfl)
    (pss_cons (ps_expr (pe_call G_law_go hr rfl T.m_law_go T.F_law_go.kp T.b_law_go .nil pass0 (pa_cons (pv 0) (pa_cons (pe_ix ix_tup (pv 1) pe_int (fun _ _ => rfl)) (pa_cons (pe_op op_add (pv 2) pe_int) pa_nil)))))
    (pss_cons (ps_expr (pe_call G_law_deed hr rfl T.m_law_deed T.F_law_deed.kp T.b_law_deed .nil pass0 (pa_cons (pv 0) (pa_cons (pe_op op_add (pe_op op_add (pv 2) pe_int) (pe_call G_law_lines hr rfl T.m_law_lines T.F_law_lines.kp T.b_law_lines .nil pass0 (pa_cons (pe_ix ix_tup (pv 1) pe_int (fun _ _ => rfl)) pa_nil))) (pa_cons (pv 3) (pa_cons pe_str pa_nil))))))
    (pss_one (ps_dput hu (pe_dget hu (pv 0) pe_str (fun _ _ => rfl)) (pe_ix ix_tup (pv 1) pe_int (fun _ _ => rfl)) pe_non rfl))))))), ?_⟩
  walk_at "k"
  walk_at "go"
  refine w_dgxS hp (stK_holds ..) ?_
  walk_at "go"
  rw [HA.val y]
  walk_at "go"
  refine ⟨D, x, nm, inputs, ls, l, ls.holds y, "lend", rfl, L, hrm.log, fun H1 L1 => ?_⟩
  obtain ⟨u1, hp1, _⟩ := L1.st
  obtain ⟨kvs1, hh1, HA1⟩ := L1.holds
  have ha1 := L1.same _ _ ha
  have size1 : kvs1.length < sizeLine := Nat.lt_of_le_of_lt (Nat.le_trans HA1.len L1.nms) (by decide)
  walk_at "go"
  refine w_dgxS hp1 (stK_holds ..) ?_
  walk_at "go"
  refine w_dputS hh1 size1 ?_
  have L2 := L1.setH (s' := LS.set (LS.deed ls l (ls.holds y) "lend") z (ls.holds y)) (HA1.put (o := ls.holds y) hz) rfl rfl rfl rfl
  have ha2 := L2.same _ _ ha
  walk_at "go"
  have cst : Cost 1 ls (LS.set (LS.deed ls l (ls.holds y) "lend") z (ls.holds y)) := cost_deed ls l (ls.holds y) "lend" rfl (by show (LS.deed ls l (ls.holds y) "lend").many ≤ _; rw [deed_many]; omega) (deed_rest _ _ _ _)
  refine ⟨D, x, nm, inputs, _, l + 1, b, lb, bs, rfl, hlb, hbs, L2, fun t ht => hn t (List.mem_cons_of_mem _ (List.mem_cons_of_mem _ ht)), by omega, cst.room _ (by rw [← es]; exact hrm), fun H3 L3 => ?_⟩
  have ha3 := L3.same _ _ ha
  have r3 := (costL b (l + 1) (LS.set (LS.deed ls l (ls.holds y) "lend") z (ls.holds y))).room 0 (cst.room _ (by show Rm (1 + sizeL b) ls; rw [← es]; exact hrm))
  walk_at "go"
  refine ⟨lb, bs, b, rfl, L3.same _ _ hlb, hbs.same L3.same, by omega, fun H4 s4 => ?_⟩
  have L4 := L3.put s4
  walk_at "go"
  refine ⟨D, x, nm, inputs, _, l + 1 + linesL b, ls.holds y, "back", by simp, L4, r3.log, fun H5 L5 => ?_⟩
  obtain ⟨u5, hp5, _⟩ := L5.st
  obtain ⟨kvs5, hh5, HA5⟩ := L5.holds
  have ha5 := L5.same _ _ ha
  have size5 : kvs5.length < sizeLine := Nat.lt_of_le_of_lt (Nat.le_trans HA5.len L5.nms) (by decide)
  walk_at "go"
  refine w_dgxS hp5 (stK_holds ..) ?_
  walk_at "go"
  refine w_dputS hh5 size5 ?_
  refine q _ ?_
  unfold goS
  exact L5.setH (s' := LS.set (LS.deed (goL b (l + 1) (LS.set (LS.deed ls l (ls.holds y) "lend") z (ls.holds y))) (l + 1 + linesL b) (ls.holds y) "back") z none) (HA5.put (o := none) hz) rfl rfl rfl rfl
theorem ok_law_go_ {k d : Nat} (hk : 8 ≤ k) (hd6 : d ≤ 6) (G_law_lent : FnOk P w K mg base CX0 (k + 1) A.f_law_lent A.d_law_lent ["_law_state", "_law_step_here", "_law_line"] (spLawLent (d + 1))) (G_law_go0 : FnOk P w K mg base CX0 k A.f_law_go A.d_law_go ["_law_state", "_law_steps", "_law_line"] (spLawGo d)) :
    FnOk P w K mg base CX0 (k + 2) A.f_law_go A.d_law_go ["_law_state", "_law_steps", "_law_line"] (spLawGo (d + 1)) := by
  refine T.F_law_go.ok sc_law_go (fun vs H Q E h => ?_) (fun cdv A' outer s H vs Q E hr h => ?_)
  · obtain ⟨D, x, nm, inputs, s, l, ss, p, ws, rfl, _⟩ := h
    rfl
  have G_law_go := G_law_go0.mono (show k ≤ k + 1 by omega)
  have G_law_more := (ok_law_more (P := P) (w := w) (base := base) T).mono (show 1 ≤ k + 1 by omega)
  have G_law_plain := (ok_law_plain (P := P) (w := w) (base := base) T).mono (show 2 ≤ k + 1 by omega)
  have G_law_lines := (ok_law_lines (P := P) (w := w) (base := base) T 7).mono (show 7 + 1 ≤ k + 1 by omega)
  obtain ⟨D, x, nm, inputs, ls, l, ss, p, ws, rfl, hp, hss, L, hn, hd, hrm, q⟩ := h
  have EA := hss.each
  have hpH := L.same _ _ hp
  refine ⟨_, (pss_one (ps_for PassesOwn.never rfl (pi_list (pv 1)) (pg_name (i := 3) sc_law_go.nd rfl (Or.inl rfl)) (pss_cons (ps_if (pt_cmpR op_eq (pe_ix ix_tup (pv 3) pe_int (fun _ _ => rfl)) pe_str (nomark _)) (pss_one (ps_expr (pe_call G_law_lent hr rfl T.m_law_lent T.F_law_lent.kp T.b_law_lent .nil pass0 (pa_cons (pv 0) (pa_cons (pv 3) (pa_cons (pv 2) pa_nil)))))) (pss_one (ps_if (pt_cmpR op_eq (pe_ix ix_tup (pv 3) pe_int (fun _ _ => rfl)) pe_str (nomark _)) (pss_one (ps_if (pt_val (pe_call G_law_more hr rfl T.m_law_more T.F_law_more.kp T.b_law_more .nil pass0 (pa_cons (pv 0) (pa_cons (pe_ix ix_tup (pv 3) pe_int (fun _ _ => rfl)) pa_nil)))) (pss_one (ps_expr (pe_call G_law_go hr rfl T.m_law_go T.F_law_go.kp T.b_law_go .nil pass0 (pa_cons (pv 0) (pa_cons (pe_ix ix_tup (pv 3) pe_int (fun _ _ => rfl)) (pa_cons (pe_op op_add (pv 2) pe_int) pa_nil)))))) (pss_one (ps_expr (pe_call G_law_go hr rfl T.m_law_go T.F_law_go.kp T.b_law_go .nil pass0 (pa_cons (pv 0) (pa_cons (pe_ix ix_tup (pv 3) pe_int (fun _ _ => rfl)) (pa_cons (pe_op op_add (pe_op op_add (pv 2) pe_int) (pe_call G_law_lines hr rfl T.m_law_lines T.F_law_lines.kp T.b_law_lines .nil pass0 (pa_cons (pe_ix ix_tup (pv 3) pe_int (fun _ _ => rfl)) pa_nil))) pa_nil)))))))) (pss_one (ps_if (pt_cmpR op_eq (pe_ix ix_tup (pv 3) pe_int (fun _ _ => rfl)) pe_str (nomark _)) (pss_one (ps_while PassesOwn.never (pt_val (pe_call G_law_more hr rfl T.m_law_more T.F_law_more.kp T.b_law_more .nil pass0 (pa_cons (pv 0) (pa_cons (pe_ix ix_tup (pv 3) pe_int (fun _ _ => rfl)) pa_nil)))) (pss_one (ps_expr (pe_call G_law_go hr rfl T.m_law_go T.F_law_go.kp T.b_law_go .nil pass0 (pa_cons (pv 0) (pa_cons (pe_ix ix_tup (pv 3) pe_int (fun _ _ => rfl)) (pa_cons (pe_op op_add (pv 2) pe_int) pa_nil)))))))) (pss_one (ps_expr (pe_call G_law_plain hr rfl T.m_law_plain T.F_law_plain.kp T.b_law_plain .nil pass0 (pa_cons (pv 0) (pa_cons (pv 3) (pa_cons (pv 2) pa_nil)))))))))))
      (pss_one (ps_set (i := 2) sc_law_go.nd rfl (Or.inl rfl) (pe_op op_add (pv 2) (pe_call G_law_lines hr rfl T.m_law_lines T.F_law_lines.kp T.b_law_lines .nil pass0 (pa_cons (pe_lst (pa_cons (pv 3) pa_nil)) pa_nil)))))))), ?_⟩
  walk_at "k"
  walk_at "go"
  refine w_forL (xs := ws) (fun i σ H' => ∃ ev : Option V, σ = [some (.ref x.p), some (.ref p), some (.int ((l + linesL (ss.take i) : Nat) : Int)), ev] ∧ LwAt D H' x nm inputs (goL (ss.take i) l ls))
    ⟨none, rfl, L⟩ (fun i σ H' ⟨_, _, Lz⟩ => SqL.of (Lz.same _ _ hp)) ?_ ?_
  · rintro i v σ H1 hi ⟨ev, rfl, L1⟩
    obtain ⟨st, hs, hv⟩ := EA.at_ i v hi
    have hmem := List.mem_of_getElem? hs
    have hv1 := hv.same L1.same
    have ds : deepS st < d + 1 := Nat.lt_of_le_of_lt (deepL_mem hmem) hd
    have hns : ∀ y ∈ namesS st, y ∈ nm := fun y hy => hn y (namesL_mem hmem y hy)
    have rm1 : Rm (sizeS st) (goL (ss.take i) l ls) := (costL (ss.take i) l ls).room (sizeS st) (hrm.less (by rw [← sizeL_snoc hs]; exact sizeL_take _ _))
    have fin : ∀ {nn bb cc : L2.St → Hp → Prop} {rr : VK} (H2 : Hp), LwAt D H2 x nm inputs (goL (ss.take (i + 1)) l ls) → ∀ v, StepAt D st v → (∀ (H3 : Hp), LwAt D H3 x nm inputs (goL (ss.take (i + 1)) l ls) → nn [some (.ref x.p), some (.ref p), some (.int ((l + linesL (ss.take (i + 1)) : Nat) : Int)), some v] H3) →
        (tAsg (tOp (rI0 fun i j => V.int (i + j)) (tVar 2) (tCall (spLawLines 7) [] E0 (tCons (tLst (tCons (tVar 3) tNil)) tNil))) (gName 2)) ⟨nn, rr, bb, cc⟩ [some (.ref x.p), some (.ref p), some (.int ((l + linesL (ss.take i) : Nat) : Int)), some v] H2 := fun {nn bb cc rr} H2 L2 v hv hnn => by
      walk_at "go"
      intro z hz
      walk_at "go"
      refine ⟨z, [v], [st], rfl, upd_same, ⟨v, [], rfl, hv.same (L2.same.new hz), rfl⟩, by show max (deepS st) 0 < 7; omega, fun H3 s3 => ?_⟩
      walk_at "go"
      have e : ((l + linesL (ss.take i) : Nat) : Int) + (linesL [st] : Nat) = ((l + linesL (ss.take (i + 1)) : Nat) : Int) := by
        rw [linesL_snoc hs]
        have : linesL [st] = linesS st := by show linesS st + 0 = _; omega
        rw [this]
        omega
      rw [e]
      exact hnn _ (L2.put ((same_new hz).trans s3))
    have gs := goL_snoc (l := l) (s := ls) hs
    cases st with
    | pl p' =>
      obtain ⟨a, rfl, ha⟩ := hv
      have ha1 := L1.same _ _ ha
      have tg : ∃ hd tl, plV p' = .str hd :: tl ∧ decide (hd = "lend") = false ∧ decide (hd = "if") = false ∧ decide (hd = "while") = false := by
        cases p' <;> exact ⟨_, _, rfl, by decide, by decide, by decide⟩
      obtain ⟨hd', tl, e0, c1, c2, c3⟩ := tg
      have ha2 : H1 a = some (.tup (V.str hd' :: tl)) := by rw [← e0]; exact ha1
      have h0 : atI (V.str hd' :: tl) (0 : Int) = some (.str hd') := atI_nat (j := 0) (show (V.str hd' :: tl)[0]? = _ from rfl)
      clear ha1
      walk_at "go"
      refine ifF c1 ?_
      walk_at "go"
      refine ifF c2 ?_
      walk_at "go"
      refine ifF c3 ?_
      walk_at "go"
      refine ⟨D, x, nm, inputs, _, _, p', .ref a, rfl, ⟨a, rfl, ha⟩, L1, hns, rm1.log, fun H2 L2 => ?_⟩
      rw [show goS (.pl p') (l + linesL (ss.take i)) (goL (ss.take i) l ls) = plain p' (l + linesL (ss.take i)) (goL (ss.take i) l ls) from rfl] at gs
      rw [← gs] at L2
      exact fin H2 L2 (.ref a) ⟨a, rfl, ha⟩ fun H3 L3 => ⟨_, rfl, L3⟩
    | lend y z b =>
      obtain ⟨lb, bs, ⟨a, rfl, ha⟩, hlb, hbs⟩ := id hv
      have ha1 := L1.same _ _ ha
      walk_at "go"
      refine ⟨D, x, nm, inputs, _, _, y, z, b, .ref a, rfl, hv, L1, hns, ds, rm1, fun H2 L2 => ?_⟩
      rw [← gs] at L2
      exact fin H2 L2 (.ref a) hv fun H3 L3 => ⟨_, rfl, L3⟩
    | ite n b c =>
      obtain ⟨lb, lc, bs, cs, ⟨a, rfl, ha⟩, hlb, hbs, hlc, hcs⟩ := id hv
      have ha1 := L1.same _ _ ha
      have eds : deepS (.ite n b c) = 1 + max (deepL b) (deepL c) := rfl
      have ess : sizeS (.ite n b c) = 1 + sizeL b + sizeL c := rfl
      have mr := cost_more (s := goL (ss.take i) l ls) (n := n) (b := ((goL (ss.take i) l ls).more n).1) (s1 := ((goL (ss.take i) l ls).more n).2) rfl 0
      walk_at "go"
      refine ⟨D, x, nm, inputs, _, n, rfl, L1, fun H2 L2 => ?_⟩
      have ha2 := L2.same _ _ ha
      have gs2 : goL (ss.take (i + 1)) l ls = (match (goL (ss.take i) l ls).more n with | (true, s1) => goL b (l + linesL (ss.take i) + 1) s1 | (false, s1) => goL c (l + linesL (ss.take i) + 2 + linesL b) s1) := gs
      rcases hm : (goL (ss.take i) l ls).more n with ⟨bb, s1⟩
      rw [hm] at gs2 L2 mr
      cases bb with
      | true =>
        walk_at "go"
        refine ⟨D, x, nm, inputs, _, l + linesL (ss.take i) + 1, b, lb, bs, by simp, hlb, hbs, L2, fun t ht => hns t (List.mem_append_left _ ht), by omega, mr.room _ (rm1.less (by omega)), fun H3 L3 => ?_⟩
        have gs3 : goL (ss.take (i + 1)) l ls = goL b (l + linesL (ss.take i) + 1) s1 := gs2
        rw [← gs3] at L3
        exact fin H3 L3 (.ref a) hv fun H3 L3 => ⟨_, rfl, L3⟩
      | false =>
        walk_at "go"
        refine ⟨lb, bs, b, rfl, L2.same _ _ hlb, hbs.same L2.same, by omega, fun H3 s3 => ?_⟩
        have L3 := L2.put s3
        walk_at "go"
        refine ⟨D, x, nm, inputs, _, l + linesL (ss.take i) + 2 + linesL b, c, lc, cs, by simp, hlc, hcs, L3, fun t ht => hns t (List.mem_append_right _ ht), by omega, mr.room _ (rm1.less (by omega)), fun H4 L4 => ?_⟩
        have gs3 : goL (ss.take (i + 1)) l ls = goL c (l + linesL (ss.take i) + 2 + linesL b) s1 := gs2
        rw [← gs3] at L4
        exact fin H4 L4 (.ref a) hv fun H3 L3 => ⟨_, rfl, L3⟩
    | whl n b =>
      obtain ⟨lb, bs, ⟨a, rfl, ha⟩, hlb, hbs⟩ := id hv
      have ha1 := L1.same _ _ ha
      have eds : deepS (.whl n b) = 1 + deepL b := rfl
      have ess : sizeS (.whl n b) = 1 + sizeL b := rfl
      have gs2 : goL (ss.take (i + 1)) l ls = loop ((goL (ss.take i) l ls).rest.length + 1) n (fun s1 => goL b (l + linesL (ss.take i) + 1) s1) (goL (ss.take i) l ls) := gs
      walk_at "go"
      refine w_while (fun m σ H' => ∃ t : LS, σ = [some (.ref x.p), some (.ref p), some (.int ((l + linesL (ss.take i) : Nat) : Int)), some (.ref a)] ∧ LwAt D H' x nm inputs t ∧ t.rest.length + 1 ≤ m ∧ Rw (sizeL b) t ∧ loop m n (fun s1 => goL b (l + linesL (ss.take i) + 1) s1) t = goL (ss.take (i + 1)) l ls)
        _ ⟨goL (ss.take i) l ls, rfl, L1, Nat.le_refl _, ?_, gs2.symm⟩ ?_
      · have := rm1.less (d := sizeL b) (by omega)
        unfold Rm at this
        unfold Rw
        have h2 : 2 * sizeL b * (goL (ss.take i) l ls).rest.length ≤ 2 * sizeL b * (1 + (goL (ss.take i) l ls).rest.length) := Nat.mul_le_mul_left _ (by omega)
        omega
      · rintro m σ H2 ⟨t, rfl, L2, hm, hw2, hloop⟩
        have ha2 := L2.same _ _ ha
        walk_at "go"
        refine ⟨D, x, nm, inputs, t, n, rfl, L2, fun H3 L3 => ?_⟩
        have ha3 := L3.same _ _ ha
        rcases hmore : t.more n with ⟨bb, s1⟩
        rw [hmore] at L3
        cases m with
        | zero => omega
        | succ m =>
          have hl2 : (match t.more n with | (true, s1) => loop m n (fun s1 => goL b (l + linesL (ss.take i) + 1) s1) (goL b (l + linesL (ss.take i) + 1) s1) | (false, s1) => s1) = goL (ss.take (i + 1)) l ls := hloop
          rw [hmore] at hl2
          cases bb with
          | true =>
            have hl3 : loop m n (fun s1 => goL b (l + linesL (ss.take i) + 1) s1) (goL b (l + linesL (ss.take i) + 1) s1) = goL (ss.take (i + 1)) l ls := hl2
            have hr1 := more_true hmore
            have cb := costL b (l + linesL (ss.take i) + 1) s1
            walk_at "go"
            refine ⟨_, fun _ _ z => z, ?_⟩
            walk_at "go"
            refine ⟨D, x, nm, inputs, s1, l + linesL (ss.take i) + 1, b, lb, bs, by simp, hlb, hbs, L3, fun t ht => hns t ht, by omega, hw2.body hmore, fun H4 L4 => ?_⟩
            refine ⟨m, Nat.lt_succ_self _, _, rfl, L4, ?_, hw2.next hmore cb, hl3⟩
            have := cb.rest
            omega
          | false =>
            have hl3 : s1 = goL (ss.take (i + 1)) l ls := hl2
            subst hl3
            refine ⟨false, rfl, ifF rfl ?_⟩
            exact fin H3 L3 (.ref a) hv fun H3 L3 => ⟨_, rfl, L3⟩
  · rintro σ H1 ⟨ev, rfl, L1⟩
    walk_at "go"
    rw [EA.len, List.take_length] at L1
    exact q H1 L1
theorem ok_law_go : ∀ d : Nat, d ≤ 7 → FnOk P w K mg base CX0 (2 * d + 8) A.f_law_go A.d_law_go ["_law_state", "_law_steps", "_law_line"] (spLawGo d)
  | 0, _ => fn_no fun vs H Q E ⟨_, _, _, _, _, _, _, _, _, _, _, _, _, _, h, _⟩ => by omega
  | d + 1, h => ok_law_go_ T (k := 2 * d + 8) (by omega) (by omega) (ok_law_lent_ T (by omega) (by omega) (ok_law_go d (by omega))) (ok_law_go d (by omega))
end

end U
namespace U
open PySem L2
/-! the steps that need no word -/
local macro_rules | `(tactic| walk_at "h") => `(tactic| focus ((repeat (first | assumption | exact upd_same | (apply at_ne; rotate_left; (first | assumption | exact Ne.symm (by assumption))) | (apply at_new; rotate_left; assumption))); done))
local macro_rules | `(tactic| walk_at "go") => `(tactic| repeat (with_reducible first
  | refine Go.by_ ?_
  | (apply w_at; (first | assumption | exact upd_same))
  | (apply w_sqT; (first | assumption | exact SqT.of (by assumption) | exact SqT.of upd_same))
  | (apply w_sqL; (first | assumption | exact SqL.of (by assumption) | exact SqL.of upd_same))
  | (apply w_sqLT1; (first | assumption | exact SqL.of (by assumption) | exact SqL.of upd_same))
  | (apply w_sqLT2; (first | assumption | exact SqT.of (by assumption) | exact SqT.of upd_same))
  | (apply w_at; walk_at "h")
  | (apply w_sqT; focus (apply SqT.of; walk_at "h"))
  | (apply w_sqL; focus (apply SqL.of; walk_at "h"))
  | (apply w_sqLT1; focus (apply SqL.of; walk_at "h"))
  | (apply w_sqLT2; focus (apply SqT.of; walk_at "h"))
  | (apply w_strT; decide)
  | (apply w_strF; decide)
  | (apply w_gTupH; (with_unfolding_all rfl))
  | (apply w_ixA; (first | assumption | with_unfolding_all rfl))))
local macro_rules | `(tactic| walk_at "k") => `(tactic| ((try dsimp only [cxOf, Cx.nox, List.map_cons, List.map_nil]); refine w_start ?_))
instance {trs : List (TE × TE)} {σ : L2.St} {H : Hp} {Q : VK} : Go (tDisp trs σ H Q) (∀ p, H p = none → tPairs trs σ (upd H p (.dK [])) fun ps H2 => H2 p = some (.dK []) ∧ ∃ kvs : List (Key × V), ps = kvs.map (fun kv => (kV kv.1, kv.2)) ∧ kvs.length ≤ 15 ∧ Q (.ref p) (upd H2 p (.dK (mergeK [] kvs)))) := ⟨fun q => q⟩
instance {tk tv : TE} {r : List (TE × TE)} {σ : L2.St} {H : Hp} {Q : List (V × V) → Hp → Prop} : Go (tPairs ((tk, tv) :: r) σ H Q) (tk σ H fun x H1 => tv σ H1 fun y H2 => tPairs r σ H2 fun ps H3 => Q ((x, y) :: ps) H3) := ⟨fun q => q⟩
instance {σ : L2.St} {H : Hp} {Q : List (V × V) → Hp → Prop} : Go (tPairs [] σ H Q) (Q [] H) := ⟨fun q => q⟩
theorem stK_merge (hd lg ip : Addr) : mergeK [] (stK hd lg ip 0 0 0) = stK hd lg ip 0 0 0 := by kernel_rfl
theorem ends_snoc (l : Nat) (n : Int) (i : Nat) : endsOf l n 0 (i + 1) = endsOf l n 0 i ++ [.deed l i "end" n] := by
  unfold endsOf
  rw [List.range_succ, List.map_append]
  simp
theorem ends_len (l : Nat) (n : Int) (i : Nat) : (endsOf l n 0 i).length = i := by unfold endsOf; simp
def spLawLog : Sp := fun vs H Q _ => ∃ (p ip : Addr) (ws : List V) (ss : List Step) (inputs : List Int) (nm : List Str), vs = [.ref p, .ref ip] ∧ H p = some (.lst ws) ∧ StepsAt H ss ws ∧ H ip = some (.lst (inputs.map V.int)) ∧ nm.length ≤ 1000 ∧ (∀ y ∈ namesL ss, y ∈ nm) ∧ deepL ss < 6 ∧
  Rm (sizeL ss) (s0 inputs) ∧ (logOf ss inputs).length ≤ 100000 ∧ ∀ (l : Addr) (us : List V) (H' : Hp), Same H H' → H' l = some (.lst us) → EntsAt H' (logOf ss inputs) us → Q (.ref l) H'
section
variable {P : Program} {w : World} {K : PySem.W.Frag} {mg : Str → Option Value} {base : Heap} {A : Ad} (T : Tx K mg A)
include T
theorem ok_law_log : FnOk P w K mg base CX0 21 A.f_law_log A.d_law_log ["_law_program_here", "_law_inputs"] spLawLog := by
  refine T.F_law_log.ok sc_law_log (fun vs H Q E h => ?_) (fun cdv A' outer s H vs Q E hr h => ?_)
  · obtain ⟨p, ip, ws, ss, inputs, nm, rfl, _⟩ := h
    rfl
  have hu := hu_of hr
  have G_law_go := ok_law_go (P := P) (w := w) (base := base) T 6 (by decide)
  have G_law_deed := ok_law_deed (P := P) (w := w) (base := base) T
  have G_law_lines := ok_law_lines (P := P) (w := w) (base := base) T 6
  obtain ⟨p, ip, ws, ss, inputs, nm, rfl, hp, hss, hi, hnm, hn, hd, hrm, hlen, q⟩ := h
  refine ⟨_, (pss_cons (ps_set (i := 2) sc_law_log.nd rfl (Or.inl rfl) (pe_disp (pps_cons pe_str pe_dnewK (pps_cons pe_str (pe_lst pa_nil) (pps_cons pe_str pe_int (pps_cons pe_str pe_int (pps_cons pe_str pe_int (pps_cons pe_str (pv 1) pps_nil)))))) (by rfl) (by rfl) (fun z => by cases z) (by decide)))
    (pss_cons (ps_expr (pe_call G_law_go (hr.mono (by decide)) rfl T.m_law_go T.F_law_go.kp T.b_law_go .nil pass0 (pa_cons (pv 2) (pa_cons (pv 0) (pa_cons pe_int pa_nil)))))
    (pss_cons (ps_for PassesOwn.never rfl (pi_range1 rfl T.z_range (pa_cons (pe_dget hu (pv 2) pe_str (fun _ _ => rfl)) pa_nil)) (pg_name (i := 3) sc_law_log.nd rfl (Or.inl rfl)) (pss_one (ps_expr (pe_call G_law_deed (hr.mono (by decide)) rfl T.m_law_deed T.F_law_deed.kp T.b_law_deed .nil pass0 (pa_cons (pv 2) (pa_cons (pe_call G_law_lines (hr.mono (by decide)) rfl T.m_law_lines T.F_law_lines.kp T.b_law_lines .nil pass0 (pa_cons (pv 0) pa_nil)) (pa_cons (pv 3) (pa_cons pe_str pa_nil))))))))
    (pss_one (ps_ret (pe_dget hu (pv 2) pe_str (fun _ _ => rfl))))))), ?_⟩
  walk_at "k"
  walk_at "go"
  intro d hdn
  walk_at "go"
  intro hd' hhd
  walk_at "go"
  intro lg hlg
  walk_at "go"
  obtain ⟨hh0, hhd2⟩ := upd_none hhd
  obtain ⟨hl1, hl2⟩ := upd_none hlg
  obtain ⟨hl3, hl4⟩ := upd_none hl1
  refine ⟨at_new (at_new upd_same hhd) hlg, stK hd' lg ip 0 0 0, rfl, by show 6 ≤ 15; decide, ?_⟩
  rw [stK_merge]
  have sH : Same H (upd (upd (upd (upd H d (.dK [])) hd' (.dK [])) lg (.lst [])) d (.dK (stK hd' lg ip 0 0 0))) := (((same_new hdn).new hhd).new hlg).put hdn
  have L0 : LwAt H (upd (upd (upd (upd H d (.dK [])) hd' (.dK [])) lg (.lst [])) d (.dK (stK hd' lg ip 0 0 0))) ⟨d, hd', lg, ip⟩ nm inputs (s0 inputs) := by
    refine ⟨sH, fun b hb => ?_, ?_, hi, hnm, ⟨0, upd_same, rfl, Nat.zero_le _⟩, ⟨[], at_ne (at_ne upd_same hl2.symm) hhd2, fun x => rfl, List.nodup_nil, fun k hk => by cases hk⟩, [], at_ne upd_same hl4, Each.nil⟩
    · simp [Lw.addrs] at hb
      rcases hb with rfl | (rfl | rfl)
      · exact hdn
      · exact hh0
      · exact hl3
    · simp [Lw.addrs]
      exact ⟨⟨fun z => hhd2 z.symm, fun z => hl4 z.symm⟩, fun z => hl2 z.symm⟩
  walk_at "go"
  refine ⟨H, ⟨d, hd', lg, ip⟩, nm, inputs, s0 inputs, 0, ss, p, ws, rfl, hp, hss, L0, hn, hd, hrm, fun H1 L1 => ?_⟩
  obtain ⟨u1, hp1, _⟩ := L1.st
  have hmany : (goL ss 0 (s0 inputs)).many ≤ 100000 := by
    unfold logOf at hlen
    rw [List.length_append, ends_len] at hlen
    omega
  walk_at "go"
  refine w_dgxS hp1 (stK_many ..) ?_
  walk_at "go"
  refine w_rngI (n := (goL ss 0 (s0 inputs)).many) (by omega) ?_
  refine w_forN (n := (goL ss 0 (s0 inputs)).many) (fun i σ H' => ∃ ev : Option V, σ = [some (.ref p), some (.ref ip), some (.ref d), ev] ∧ LwAt H H' ⟨d, hd', lg, ip⟩ nm inputs { goL ss 0 (s0 inputs) with log := (goL ss 0 (s0 inputs)).log ++ endsOf (linesL ss) (goL ss 0 (s0 inputs)).num 0 i })
    ⟨none, rfl, by simpa [endsOf] using L1⟩ ?_ ?_
  · rintro i σ H2 hi2 ⟨ev, rfl, L2⟩
    walk_at "go"
    refine ⟨p, ws, ss, rfl, L2.same _ _ hp, hss.same L2.same, hd, fun H3 s3 => ?_⟩
    walk_at "go"
    refine ⟨H, ⟨d, hd', lg, ip⟩, nm, inputs, _, linesL ss, some i, "end", rfl, L2.put s3, ?_, fun H4 L4 => ?_⟩
    · unfold logOf at hlen
      rw [List.length_append, ends_len] at hlen
      show (_ ++ _ : List Ent).length ≤ _
      rw [List.length_append, ends_len]
      omega
    refine ⟨_, rfl, ?_⟩
    rw [ends_snoc, ← List.append_assoc]
    exact L4
  · rintro σ H2 ⟨ev, rfl, L2⟩
    obtain ⟨u2, hp2, _⟩ := L2.st
    obtain ⟨us, hus, hE⟩ := L2.log
    walk_at "go"
    refine w_dgxS hp2 (stK_log ..) ?_
    exact q lg us H2 L2.same hus hE
end

end U
namespace U
open PySem L2
/-! the steps that need no word -/
local macro_rules | `(tactic| walk_at "h") => `(tactic| focus ((repeat (first | assumption | exact upd_same | (apply at_ne; rotate_left; (first | assumption | exact Ne.symm (by assumption))) | (apply at_new; rotate_left; assumption))); done))
local macro_rules | `(tactic| walk_at "go") => `(tactic| repeat (with_reducible first
  | refine Go.by_ ?_
  | (apply w_at; (first | assumption | exact upd_same))
  | (apply w_sqT; (first | assumption | exact SqT.of (by assumption) | exact SqT.of upd_same))
  | (apply w_sqL; (first | assumption | exact SqL.of (by assumption) | exact SqL.of upd_same))
  | (apply w_sqLT1; (first | assumption | exact SqL.of (by assumption) | exact SqL.of upd_same))
  | (apply w_sqLT2; (first | assumption | exact SqT.of (by assumption) | exact SqT.of upd_same))
  | (apply w_at; walk_at "h")
  | (apply w_sqT; focus (apply SqT.of; walk_at "h"))
  | (apply w_sqL; focus (apply SqL.of; walk_at "h"))
  | (apply w_sqLT1; focus (apply SqL.of; walk_at "h"))
  | (apply w_sqLT2; focus (apply SqT.of; walk_at "h"))
  | (apply w_strT; decide)
  | (apply w_strF; decide)
  | (apply w_gTupH; (with_unfolding_all rfl))
  | (apply w_ixA; (first | assumption | with_unfolding_all rfl))))
local macro_rules | `(tactic| walk_at "k") => `(tactic| ((try dsimp only [cxOf, Cx.nox, List.map_cons, List.map_nil]); refine w_start ?_))
/-! ## A dict whose keys are pairs of a text and a tuple of whole numbers -/
abbrev NKy := Str × List Int
def encK (k : NKy) : NestedKey := .tup [.text k.1, .tup (k.2.map .num)]
theorem num_inj : ∀ {a b : List Int}, a.map NestedKey.num = b.map NestedKey.num → a = b
  | [], [], _ => rfl
  | [], _ :: _, h => by cases h
  | _ :: _, [], h => by cases h
  | x :: a, y :: b, h => by
    obtain ⟨h1, h2⟩ := List.cons.inj h
    rw [NestedKey.num.inj h1, num_inj h2]
theorem encK_inj {a b : NKy} (h : encK a = encK b) : a = b := by
  obtain ⟨x, l⟩ := a
  obtain ⟨y, m⟩ := b
  unfold encK at h
  injection h with h
  injection h with h1 h2
  injection h1 with h1
  injection h2 with h2 _
  injection h2 with h2
  have := num_inj h2
  dsimp only at h1 this
  rw [h1, this]
def KeyAt (H : Hp) (k : NKy) (b : Addr) : Prop := ∃ c, H b = some (.tup [.str k.1, .ref c]) ∧ H c = some (.tup (k.2.map V.int))
theorem KeyAt.keep {H H' : Hp} {k : NKy} {b : Addr} (h : KeyAt H k b) (e : ∀ b ys, H b = some (.tup ys) → H' b = some (.tup ys)) : KeyAt H' k b := by
  obtain ⟨c, e1, e2⟩ := h
  exact ⟨c, e _ _ e1, e _ _ e2⟩
abbrev NT (H : Hp) : List (NKy × V) → List (NestedKey × Addr × Value) → Prop := Paired fun p q => q.1 = encK p.1 ∧ KeyAt H p.1 q.2.1 ∧ RelV p.2 q.2.2
theorem NT.val {H : Hp} {kvs : List (NKy × V)} {xs : List (NestedKey × Addr × Value)} (r : NT H kvs xs) (k : NKy) : RelO (valV kvs k) ((atKey xs (encK k)).map (·.2)) := by
  induction r with
  | nil => exact True.intro
  | @cons p q ps qs h t ih =>
    obtain ⟨h1, _, h2⟩ := h
    by_cases e : p.1 = k
    · have e' : q.1 = encK k := by rw [h1, e]
      have b : atKey (q :: qs) (encK k) = some q.2 := by simp [atKey, List.find?_cons, e']
      rw [valV_pos e, b]; exact h2
    · have e' : ¬ q.1 = encK k := fun z => e (encK_inj (h1.symm.trans z))
      have b : atKey (q :: qs) (encK k) = atKey qs (encK k) := by simp [atKey, List.find?_cons, e']
      rw [valV_neg e, b]; exact ih
theorem NT.repl {H : Hp} {kvs : List (NKy × V)} {xs : List (NestedKey × Addr × Value)} (r : NT H kvs xs) (k : NKy) {y : V} {u : Value} (ry : RelV y u) :
    NT H (kvs.map fun kv => if kv.1 = k then (kv.1, y) else kv) (xs.map (putAt (encK k) u)) := by
  induction r with
  | nil => exact .nil
  | @cons p q ps qs h t ih =>
    simp only [List.map_cons]
    refine .cons ?_ ih
    obtain ⟨h1, h2, h3⟩ := h
    unfold putAt
    by_cases e : p.1 = k
    · rw [if_pos e, if_pos (by rw [h1, e])]; exact ⟨h1, h2, ry⟩
    · rw [if_neg e, if_neg (fun z => e (encK_inj (h1.symm.trans z)))]; exact ⟨h1, h2, h3⟩
theorem NT.put {H : Hp} {kvs : List (NKy × V)} {xs : List (NestedKey × Addr × Value)} (r : NT H kvs xs) (k : NKy) {b : Addr} {y : V} {u : Value} (hb : KeyAt H k b) (ry : RelV y u) : NT H (putK kvs k y) (storedH xs (encK k) b u) := by
  have e : (kvs.any fun kv => decide (kv.1 = k)) = (atKey xs (encK k)).isSome := by
    rw [valV_any]; exact (r.val k).isSome_eq.trans Option.isSome_map
  unfold putK storedH
  rw [e]
  by_cases q : (atKey xs (encK k)).isSome = true
  · simp only [q, if_true]; exact r.repl k ry
  · simp only [q]; exact Paired.snoc r ⟨rfl, hb, ry⟩
theorem NT.keeps {H H' : Hp} {kvs : List (NKy × V)} {xs : List (NestedKey × Addr × Value)} (r : NT H kvs xs) (ht : ∀ b ys, H b = some (.tup ys) → H' b = some (.tup ys)) : NT H' kvs xs := Paired.mapP r fun _ _ z => ⟨z.1, z.2.1.keep ht, z.2.2⟩
/-- the dict's own object -/
def nD (P : Program) (w : World) (a : Addr) (xs : List (NestedKey × Addr × Value)) : Heap → Prop := fun h => ∃ o es ep, h.get? a = some o ∧ o.ExactDict ∧ o.data = .dict es ep ∧ es.toList = xs.map (entryOfKey (nestedKind P w))
def NAt (P : Program) (w : World) (H : Hp) (a : Addr) (kvs : List (NKy × V)) : Prop := (a == sysModules) = false ∧ kvs.length ≤ sizeLine ∧ ∃ xs, H a = some (.ext (nD P w a xs)) ∧ NT H kvs xs ∧ (xs.map (·.1)).Nodup
theorem NAt.put_ {P : Program} {w : World} {H H' : Hp} {a : Addr} {kvs : List (NKy × V)} (h : NAt P w H a kvs) (e : ∀ o, H a = some o → H' a = some o) (t : ∀ b ys, H b = some (.tup ys) → H' b = some (.tup ys)) : NAt P w H' a kvs := by
  obtain ⟨h1, h2, xs, h3, h4, h5⟩ := h
  exact ⟨h1, h2, xs, e _ h3, h4.keeps t, h5⟩
theorem NAt.same {P : Program} {w : World} {H H' : Hp} {a : Addr} {kvs : List (NKy × V)} (h : NAt P w H a kvs) (e : Same H H') : NAt P w H' a kvs := h.put_ (fun o q => e _ _ q) fun b ys q => e _ _ q
theorem nums_are : ∀ {l : List Int} {us : List Value} {h : Heap}, Vals (l.map V.int) us → NestedAll h (l.map .num) us
  | [], _, _, .nil => .nil
  | x :: l, _, h, r => by
    cases r with
    | cons r1 r2 =>
      obtain ⟨t, rfl⟩ := r1
      exact .cons (.int _ _) (nums_are r2)
theorem num_depth : ∀ l : List Int, NestedKey.depthAll (l.map .num) ≤ 1
  | [] => Nat.zero_le _
  | x :: l => by
    have := num_depth l
    simp only [List.map_cons, NestedKey.depthAll, NestedKey.depth]
    omega
section
variable {P : Program} {w : World} {H : Hp} {h : Heap} {a b : Addr} {kvs : List (NKy × V)} {k : NKy}
theorem nkey_of (ok : HOk P w H h) (e : KeyAt H k b) : (nestedKind P w).is h (encK k) b := by
  obtain ⟨c, e1, e2⟩ := e
  obtain ⟨_, its, r, o, h1, h2, n, h3⟩ := (show ObjOk P w H h b (.tup [.str k.1, .ref c]) from ok b _ e1)
  obtain ⟨_, its2, r2, o2, g1, g2, n2, g3⟩ := (show ObjOk P w H h c (.tup (k.2.map V.int)) from ok c _ e2)
  cases r with
  | cons ra rb =>
    cases rb with
    | cons rc rd =>
      cases rd
      obtain ⟨t, rfl⟩ := ra
      cases (show _ = Value.ref c from rc)
      refine ⟨.tup h1 h2 h3 (.cons (.text _ _) (.cons (.tup g1 g2 g3 (by simpa using nums_are r2)) .nil)), ?_⟩
      have := num_depth k.2
      simp only [encK, NestedKey.depth, NestedKey.depthAll]
      omega
theorem ndict_of (ok : HOk P w H h) (e : NAt P w H a kvs) : (a == sysModules) = false ∧ kvs.length ≤ sizeLine ∧ ∃ xs, H a = some (.ext (nD P w a xs)) ∧ NT H kvs xs ∧ h.DictOfH (nestedKind P w) a xs := by
  obtain ⟨h1, h2, xs, h3, h4, h5⟩ := e
  obtain ⟨⟨o, es, ep, g1, g2, g3, g4⟩, _⟩ := (show ObjOk P w H h a (.ext (nD P w a xs)) from ok a _ h3)
  refine ⟨h1, h2, xs, h3, h4, o, es, ep, g1, g2, g3, g4, fun x hx => ?_, h5⟩
  have all : ∀ {l : List (NKy × V)} {m : List (NestedKey × Addr × Value)}, NT H l m → ∀ x ∈ m, (nestedKind P w).is h x.1 x.2.1 := by
    intro l m q
    induction q with
    | nil => exact fun x z => nomatch z
    | @cons p q ps qs hq t ih =>
      intro x hx
      rcases mem_c hx with e | hx
      · subst e
        rw [hq.1]
        exact nkey_of ok hq.2.1
      · exact ih x hx
  exact all h4 x hx
theorem nd_stays {xs : List (NestedKey × Addr × Value)} : ∀ h1 h2 : Heap, nD P w a xs h1 → (∀ o, h1.get? a = some o → h2.get? a = some o) → nD P w a xs h2 := fun h1 h2 ⟨o, es, ep, e, r⟩ k => ⟨o, es, ep, k o e, r⟩
end
section
variable {X : Cx} {pins : List (Addr × Obj)} {σ : L2.St} {H : Hp} {s : Shared} {a b : Addr} {v z : V} {u r : Value} {A : Around} {E : Value → Shared → Prop} {kvs : List (NKy × V)} {k : NKy}
theorem nroom {A : Around} (hu : A.units + 64 < cLine) : A.in1.units + 8 < cLine := by
  show A.units + 1 + 8 < cLine
  omega
theorem n_get2 {Q : Value → Shared → Prop} (hu : A.units + 64 < cLine) (I : Inv X pins σ H s) (e : NAt X.prog X.w H a kvs) (eb : KeyAt H k b) (rd : RelV z r) (h : ∀ w' s', Inv X pins σ H s' → RelV ((valV kvs k).getD z) w' → Q w' s') :
    wpAny (model X.prog X.w) A (call (.builtin "dict.get") [.ref a, .ref b, r]) Q E s := by
  obtain ⟨hd, _, xs, _, rel, dd⟩ := ndict_of I.hok e
  refine call_meetsIn PySem.F.slot_dict_get dd.typeIs PySem.F.entry_dict_get (PySem.F.args_dict_get_3 _ _ _) (meetsH_dict_get_default (nestedKind X.prog X.w) a b hd r) ⟨nroom hu, encK k, xs, nkey_of I.hok eb, dd, h _ _ (I.tok _) ?_⟩
  exact (rel.val k).getD rd
theorem n_setItem {Q : Unit → Shared → Prop} (hu : A.units + 64 < cLine) (I : Inv X pins σ H s) (e : NAt X.prog X.w H a kvs) (eb : KeyAt H k b) (l : kvs.length < sizeLine) (rv : RelV v r) (h : ∀ φ s', NAt X.prog X.w (upd H a (.ext φ)) a (putK kvs k v) → Inv X pins σ (upd H a (.ext φ)) s' → Q () s') :
    wpAny (model X.prog X.w) A (setItem (.ref a) (.ref b) r) Q E s := by
  obtain ⟨hd, hz0, xs, ea, rel, dd⟩ := ndict_of I.hok e
  have hz : xs.length ≤ sizeLine := by rw [← Paired.length rel]; exact hz0
  have hl : (putK kvs k v).length ≤ sizeLine := Nat.le_trans (length_putK kvs k v) l
  refine wpAny_setItem_heap (hsz := hz) (nroom hu) (nkey_of I.hok eb) dd fun h' dd' hs => ?_
  obtain ⟨q, es, ep, hq, h2, h3, h4, h6, h5⟩ := dd'
  have kt : ∀ c ys, H c = some (.tup ys) → upd H a (.ext (nD X.prog X.w a (storedH xs (encK k) b r))) c = some (.tup ys) := fun c ys ec => by
    rw [upd_ne (ne_of ec ea (fun z => nomatch z))]
    exact ec
  refine h (nD X.prog X.w a (storedH xs (encK k) b r)) _ ⟨hd, hl, _, upd_same, (rel.put k eb rv).keeps kt, h5⟩ (d_write I (by rw [ea]; exact True.intro) hs ⟨q, hq⟩ ⟨⟨q, es, ep, hq, h2, h3, h4⟩, ⟨q, hq⟩, nd_stays⟩)
end
/-! readings and rules -/
def tDNewN (P : Program) (w : World) : TE := fun _ H Q => ∀ p, H p = none → (p == sysModules) = false → Q (.ref p) (upd H p (.ext (nD P w p [])))
def tDGetN (P : Program) (w : World) (td ty tx : TE) : TE := fun σ H Q => td σ H fun x H1 => ∃ a, x = .ref a ∧ (∃ kvs, NAt P w H1 a kvs) ∧ ty σ H1 fun y H2 => tx σ H2 fun z H3 => ∃ kvs k b, NAt P w H3 a kvs ∧ y = .ref b ∧ KeyAt H3 k b ∧ Q ((valV kvs k).getD z) H3
def sDPutN (P : Program) (w : World) (td ty tv : TE) : TS := fun D σ H => tv σ H fun v H1 => td σ H1 fun x H2 => ty σ H2 fun y H3 => ∃ a kvs k b, x = .ref a ∧ y = .ref b ∧ NAt P w H3 a kvs ∧ KeyAt H3 k b ∧ kvs.length < sizeLine ∧ ∀ φ, NAt P w (upd H3 a (.ext φ)) a (putK kvs k v) → D.nx σ (upd H3 a (.ext φ))
section
variable {X : Cx} {o i e f value : Expr} {apos cpos pos pos' : Pos} {td ty tx tv : TE}
theorem hu64 {A : Around} {k : Nat} (hr : Room k A) : A.units + 64 < cLine := hr.units
theorem pe_dnewN : PE X (.Dict [] [] pos) (tDNewN X.prog X.w) := ⟨fun pins s σ H Q I h => by
  have big : (s.heap.objs.size == sysModules) = false := beq_eq_false_iff_ne.mpr (Ne.symm (Nat.ne_of_lt I.big))
  have hg : (s.heap.push { cls := .type "dict", data := .dict #[] }).get? s.heap.objs.size = some { cls := .type "dict", data := .dict #[] } := Heap.get?_push_size _ rfl
  exact wpAny_Dict_empty ⟨.ref s.heap.objs.size, _, I.laid (a := s.heap.objs.size) (o := .ext (nD X.prog X.w s.heap.objs.size [])) (t' := s.toks) (fun _ _ q => Heap.get?_push_of_some _ q) (Nat.le_refl _)
    ⟨⟨_, #[], 0, hg, ⟨rfl, rfl, rfl⟩, rfl, rfl⟩, ⟨_, hg⟩, nd_stays⟩, rfl, h _ (I.hok.fresh (Nat.le_refl _)) big⟩⟩
theorem n_typeIs {pins : List (Addr × Obj)} {σ : L2.St} {H : Hp} {s : Shared} {a : Addr} {kvs : List (NKy × V)} (I : Inv X pins σ H s) (e : NAt X.prog X.w H a kvs) : s.TypeIs (.ref a) "dict" ∧ (∀ b, Value.ref a = .ref b → ∃ ob, s.heap.get? b = some ob ∧ ob.dict = none) := by
  obtain ⟨hd, _, xs, _, rel, dd⟩ := ndict_of I.hok e
  refine ⟨dd.typeIs, fun b q => ?_⟩
  cases q
  exact let ⟨ob, _, _, h1, h2, _⟩ := dd; ⟨ob, h1, h2.2.1⟩
theorem pe_dgetN {k : Nat} (hr : Room k X.A) (ho : PE X o td) (he : PE X e ty) (hf : PE X f tx) (m : M2 X o "get" apos e f cpos) : PE X (.Call (.Attribute o "get" apos) [e, f] [] cpos) (tDGetN X.prog X.w td ty tx) := by
  refine ⟨fun pins s σ H Q I h => ?_⟩
  refine wpAny_Call_method m.base m.few m.line PySem.F.plainAttrs_dict PySem.F.slot_dict_get PySem.F.type_dict_get (thn (ho.run pins s σ H _ I h) fun u s1 ⟨x, H1, I1, rx, a, ex, ⟨kvs0, d⟩, q1⟩ => ?_)
  subst ex
  obtain rfl : u = Value.ref a := rx
  obtain ⟨t1, t2⟩ := n_typeIs I1 d
  refine ⟨t1, t2, ?_⟩
  rw [m.trees]
  refine Calls.callWith_builtin rfl (Calls.evalArgs_plain (Calls.spliced_cons (thn (he.run pins s1 σ H1 _ I1 q1) fun iv s2 ⟨y, H2, I2, ry, q2⟩ => Calls.spliced_cons (thn (hf.run pins s2 σ H2 _ I2 q2) fun fv s3 ⟨z, H3, I3, rz, kvs, kk, b, g, ey, eb, q3⟩ => Calls.spliced_nil ?_))))
  subst ey
  obtain rfl : iv = Value.ref b := ry
  exact n_get2 (hu64 hr) I3 g eb rz fun w' s4 I4 rw' => ⟨_, H3, I4, rw', q3⟩
theorem ps_dputN {k : Nat} (hr : Room k X.A) (ho : PE X o td) (hi : PE X i ty) (hv : PE X value tv) (hs : swapsWith value (some (.Subscript o i pos')) pos.line X.env = pure false) :
    PS X (.Assign [.Subscript o i pos'] value pos) (sDPutN X.prog X.w td ty tv) := by
  refine ⟨fun pins s σ H D I h => ?_⟩
  refine wpAny_Assign_Subscript (thn (hv.run pins s σ H _ I h) fun r s1 ⟨v, H1, I1, rv, q1⟩ => thn (ho.run pins s1 σ H1 _ I1 q1) fun u s2 ⟨x, H2, I2, rx, q2⟩ => thn (hi.run pins s2 σ H2 _ I2 q2) fun iv s3 ⟨y, H3, I3, ry, a, kvs, kk, b, ex, ey, g, eb, hl, q3⟩ => ?_) hs
  subst ex ey
  obtain rfl : u = Value.ref a := rx
  obtain rfl : iv = Value.ref b := ry
  exact n_setItem (hu64 hr) I3 g eb hl rv fun φ s4 n4 I4 => ⟨σ, _, I4, q3 φ n4⟩
end

end U
namespace U
open PySem L2
/-! the steps that need no word -/
local macro_rules | `(tactic| walk_at "h") => `(tactic| focus ((repeat (first | assumption | exact upd_same | (apply at_ne; rotate_left; (first | assumption | exact Ne.symm (by assumption))) | (apply at_new; rotate_left; assumption))); done))
local macro_rules | `(tactic| walk_at "go") => `(tactic| repeat (with_reducible first
  | refine Go.by_ ?_
  | (apply w_at; (first | assumption | exact upd_same))
  | (apply w_sqT; (first | assumption | exact SqT.of (by assumption) | exact SqT.of upd_same))
  | (apply w_sqL; (first | assumption | exact SqL.of (by assumption) | exact SqL.of upd_same))
  | (apply w_sqLT1; (first | assumption | exact SqL.of (by assumption) | exact SqL.of upd_same))
  | (apply w_sqLT2; (first | assumption | exact SqT.of (by assumption) | exact SqT.of upd_same))
  | (apply w_at; walk_at "h")
  | (apply w_sqT; focus (apply SqT.of; walk_at "h"))
  | (apply w_sqL; focus (apply SqL.of; walk_at "h"))
  | (apply w_sqLT1; focus (apply SqL.of; walk_at "h"))
  | (apply w_sqLT2; focus (apply SqT.of; walk_at "h"))
  | (apply w_strT; decide)
  | (apply w_strF; decide)
  | (apply w_gTupH; (with_unfolding_all rfl))
  | (apply w_ixA; (first | assumption | with_unfolding_all rfl))))
local macro_rules | `(tactic| walk_at "k") => `(tactic| ((try dsimp only [cxOf, Cx.nox, List.map_cons, List.map_nil]); refine w_start ?_))
/-! ## Rows and touched keys, as the law finds them -/
def Ky.nk : Ky → List Int
  | .one h => [0, (h : Nat)]
  | .two i a b => [(i : Nat), (a : Nat), (b : Nat)]
theorem nk_inj {a b : Ky} (h : a.nk = b.nk) : a = b := by
  cases a with
  | one x =>
    cases b with
    | one y => simp [Ky.nk] at h; rw [Int.ofNat.inj h]
    | two _ _ _ => simp [Ky.nk] at h
  | two i a c =>
    cases b with
    | one y => simp [Ky.nk] at h
    | two i' a' c' =>
      simp [Ky.nk] at h
      obtain ⟨h1, h2, h3⟩ := h
      rw [show i = i' by omega, show a = a' by omega, show c = c' by omega]
def Ky.fit : Ky → Prop
  | .one _ => True
  | .two _ a b => a ≠ b
theorem inV_ints (t : Int) : ∀ ws : List Int, inV (.int t) (ws.map V.int) = decide (t ∈ ws)
  | [] => by simp [inV]
  | a :: ws => by
    have ih := inV_ints t ws
    show (eqV (.int a) (.int t) || inV (.int t) (ws.map V.int)) = _
    rw [ih]
    show ((a == t) || decide (t ∈ ws)) = decide (t ∈ a :: ws)
    by_cases h : t = a
    · subst h; simp
    · have h2 : (a == t) = false := by simpa using fun q : a = t => h q.symm
      rw [h2]; simp [h]
theorem w_inTI {K : PySem.W.Frag} {H : Hp} {Q : VK} {p : Addr} {ws : List Int} {t : Int} (h : H p = some (.tup (ws.map V.int))) (q : Q (.bl (decide (t ∈ ws))) H) : rIn K false (.int t) (.ref p) H Q :=
  ⟨p, _, rfl, .inr (SqT.of h), rfl, by simp [flatV], by show Q (.bl (inV (.int t) (ws.map V.int))) H; rw [inV_ints]; exact q⟩
def spRowOf : Sp := fun vs H Q _ => ∃ (l kp : Addr) (us : List V) (L : List Ent) (k : Ky), vs = [.ref l, .ref kp] ∧ H l = some (.lst us) ∧ EntsAt H L us ∧ H kp = some (.tup (k.nk.map V.int)) ∧ k.fit ∧ L.length ≤ 4001 ∧ k.start ≤ L.length ∧ (∀ l h w n, Ent.deed l h w n ∈ L → w.length ≤ 100) ∧
  ∀ (p : Addr) (H' : Hp), Same H H' → H' p = some (.lst ((rowOf L k).map V.str)) → Q (.ref p) H'
section
variable {P : Program} {w : World} {K : PySem.W.Frag} {mg : Str → Option Value} {base : Heap} {A : Ad} (T : Tx K mg A)
include T
theorem ok_law_row_of : FnOk P w K mg base CX0 1 A.f_law_row_of A.d_law_row_of ["_law_log_here", "_law_key"] spRowOf := by
  refine T.F_law_row_of.ok sc_law_row_of (fun vs H Q E h => ?_) (fun cdv A' outer s H vs Q E hr h => ?_)
  · obtain ⟨l, kp, us, L, k, rfl, _⟩ := h
    rfl
  obtain ⟨l, kp, us, L, k, rfl, hl, hE, hk, kf, hL, hst, hw, q⟩ := h
  refine ⟨_, (pss_cons (ps_set (i := 2) sc_law_row_of.nd rfl (Or.inl rfl) (pe_lst pa_nil))
    (pss_cons (ps_for PassesOwn.never rfl (pi_list (pe_slice sl_list (pv 0) (po_some (pe_ix ix_tup (pv 1) pe_int (fun _ _ => rfl))) po_none)) (pg_name (i := 3) sc_law_row_of.nd rfl (Or.inl rfl)) (pss_cons (ps_if (PW.pt (pw_and (pt_cmpR op_eq (pe_callB call_len_seq (by rfl) T.z_len PySem.boot_len (pa_cons (pv 3) pa_nil)) pe_int (nomark _)) (pw_and (pt_cmpR op_eq (pe_callB call_len_seq (by rfl) T.z_len PySem.boot_len (pa_cons (pv 1) pa_nil)) pe_int (nomark _)) (pw_and1 (pt_cmpR op_eq (pe_ix ix_tup (pv 3) pe_int (fun _ _ => rfl)) (pe_ix ix_tup (pv 1) pe_int (fun _ _ => rfl)) (nomark _)))))) (pss_one (ps_expr (pe_bm PySem.F.plainAttrs_list PySem.F.slot_list_append PySem.F.type_list_append mt_append (pv 2) (pa_cons (pe_ix ix_tup (pv 3) pe_int (fun _ _ => rfl)) pa_nil)))) pss_nil)
      (pss_one (ps_if (PW.pt (pw_and (pt_cmpR op_eq (pe_callB call_len_seq (by rfl) T.z_len PySem.boot_len (pa_cons (pv 3) pa_nil)) pe_int (nomark _)) (pw_and (pt_cmpR op_eq (pe_callB call_len_seq (by rfl) T.z_len PySem.boot_len (pa_cons (pv 1) pa_nil)) pe_int (nomark _)) (pw_and1 (pt_cmpR op_in_seq (pe_ix ix_tup (pv 3) pe_int (fun _ _ => rfl)) (pe_slice sl_tup (pv 1) (po_some pe_int) po_none) rfl))))) (pss_one (ps_expr (pe_bm PySem.F.plainAttrs_list PySem.F.slot_list_append PySem.F.type_list_append mt_append (pv 2) (pa_cons (pe_op op_add_str (pe_ix ix_list (pe_lst (pa_cons pe_str (pa_cons pe_str pa_nil))) (pe_callTy call_int1 (by rfl) T.z_int (by decide +kernel) (pa_cons (pe_cmpR op_eq (pe_ix ix_tup (pv 3) pe_int (fun _ _ => rfl)) (pe_ix ix_tup (pv 1) pe_int (fun _ _ => rfl)) (nomark _)) pa_nil)) (fun _ _ => rfl)) (pe_ix ix_tup (pv 3) pe_int (fun _ _ => rfl))) pa_nil)))) pss_nil))))
    (pss_one (ps_ret (pv 2))))), ?_⟩
  walk_at "k"
  have hk0 : atI (k.nk.map V.int) (0 : Int) = some (.int (k.start : Nat)) := by
    cases k <;> exact atI_nat (j := 0) rfl
  walk_at "go"
  intro z hz
  walk_at "go"
  intro sl hsl
  rw [cutV_drop (by rw [hE.len]; exact hst)]
  have hz0 := hz
  have szl : upd (upd H z (.lst [])) sl (.lst (us.drop k.start)) sl = some (.lst (us.drop k.start)) := upd_same
  have sH : Same H (upd (upd H z (.lst [])) sl (.lst (us.drop k.start))) := (same_new hz).new hsl
  have hzs := at_new (u := .lst (us.drop k.start)) (upd_same (H := H) (a := z) (o := .lst [])) hsl
  generalize upd (upd H z (.lst [])) sl (.lst (us.drop k.start)) = H0 at szl sH hzs ⊢
  walk_at "go"
  refine w_forL (xs := us.drop k.start) (fun i σ H' => ∃ ev : Option V, σ = [some (.ref l), some (.ref kp), some (.ref z), ev] ∧ Same H H' ∧ H' sl = some (.lst (us.drop k.start)) ∧ H' z = some (.lst ((((L.drop k.start).take i).filterMap (wordOf k)).map V.str)))
    ⟨none, rfl, sH, szl, hzs⟩ (fun i σ H' ⟨_, _, _, s1, _⟩ => SqL.of s1) ?_ ?_
  · rintro i v σ H1 hi ⟨ev, rfl, s1, e1, e2⟩
    obtain ⟨e, he, p, rfl, hp⟩ := (hE.drop k.start).at_ i v hi
    have hp1 := s1 _ _ hp
    have hkp1 := s1 _ _ hk
    have st := fm_step (wordOf k) he
    have size : ((((L.drop k.start).take i).filterMap (wordOf k)).map V.str).length < sizeLine :=
      Nat.lt_of_le_of_lt (Nat.le_trans (fm_le _ _ _) (by rw [List.length_drop]; omega)) (Nat.lt_of_le_of_lt hL (by decide))
    have nsz : sl ≠ z := fun y => by rw [y, e2] at e1; rw [y] at hsl; rw [upd_same] at hsl; cases hsl
    cases e with
    | tie l' a' b' =>
      have hp2 : H1 p = some (.tup [.int (l' : Nat), .int (a' : Nat), .int (b' : Nat)]) := hp1
      walk_at "go"
      refine ifF (by simp) ?_
      walk_at "go"
      refine ifF (by simp) ?_
      walk_at "go"
      exact ⟨_, rfl, s1, e1, by rw [st, e2]; simp [wordOf]⟩
    | deed l' h' t' n' =>
      have hp2 : H1 p = some (.tup [.int (l' : Nat), .int (h' : Nat), .str t', .int n']) := hp1
      have hw' : t'.length ≤ 100 := hw _ _ _ _ (List.mem_of_mem_drop (List.mem_of_getElem? he))
      cases k with
      | one h =>
        have hk2 : H1 kp = some (.tup [.int 0, .int (h : Nat)]) := hkp1
        clear hkp1
        walk_at "go"
        refine ifT (by simp) ?_
        walk_at "go"
        refine ifT (by simp) ?_
        walk_at "go"
        refine if_d (fun c => ?_) (fun c => ?_)
        · have c' : h' = h := by omega
          walk_at "go"
          refine w_app e2 size ?_
          walk_at "go"
          have hp3 := at_ne (u := .lst ((((L.drop (Ky.one h).start).take i).filterMap (wordOf (Ky.one h))).map V.str ++ [V.str t'])) hp2 (ne_of hp2 e2 (by intro z; cases z))
          have hk3 := at_ne (u := .lst ((((L.drop (Ky.one h).start).take i).filterMap (wordOf (Ky.one h))).map V.str ++ [V.str t'])) hk2 (ne_of hk2 e2 (by intro z; cases z))
          walk_at "go"
          refine ifT (by simp) ?_
          walk_at "go"
          refine ifF (by simp) ?_
          walk_at "go"
          refine ⟨_, rfl, s1.put hz0, at_ne e1 nsz, ?_⟩
          rw [upd_same, st]
          simp [wordOf, c']
        · have c' : ¬ h' = h := by omega
          walk_at "go"
          refine ifT (by simp) ?_
          walk_at "go"
          refine ifF (by simp) ?_
          walk_at "go"
          exact ⟨_, rfl, s1, e1, by rw [st, e2]; simp [wordOf, c']⟩
      | two j a b =>
        have hk2 : H1 kp = some (.tup [.int (j : Nat), .int (a : Nat), .int (b : Nat)]) := hkp1
        clear hkp1
        walk_at "go"
        refine ifT (by simp) ?_
        walk_at "go"
        refine ifF (by simp) ?_
        walk_at "go"
        refine ifT (by simp) ?_
        walk_at "go"
        refine ifT (by simp) ?_
        walk_at "go"
        refine w_slT hk2 fun t1 ht1 => ?_
        walk_at "go"
        refine w_inTI (ws := [(a : Int), (b : Int)]) upd_same ?_
        have hp4 := at_new (u := .tup [V.int (a : Nat), V.int (b : Nat)]) hp2 ht1
        have hk4 := at_new (u := .tup [V.int (a : Nat), V.int (b : Nat)]) hk2 ht1
        have e14 := at_new (u := .tup [V.int (a : Nat), V.int (b : Nat)]) e1 ht1
        have e24 := at_new (u := .tup [V.int (a : Nat), V.int (b : Nat)]) e2 ht1
        have s4 := s1.new (o := .tup [V.int (a : Nat), V.int (b : Nat)]) ht1
        generalize hH4 : upd H1 t1 (.tup [V.int (a : Nat), V.int (b : Nat)]) = H4 at hp4 hk4 e14 e24 s4 ⊢
        walk_at "go"
        refine if_d (fun c => ?_) (fun c => ?_)
        · walk_at "go"
          intro z1 hz1
          have hp5 := at_new (u := .lst [V.str "1.", V.str "2."]) hp4 hz1
          have hk5 := at_new (u := .lst [V.str "1.", V.str "2."]) hk4 hz1
          have e25 := at_new (u := .lst [V.str "1.", V.str "2."]) e24 hz1
          walk_at "go"
          have hix : ∃ x : Str, (if decide ((h' : Int) = (b : Int)) = true then (1 : Int) else 0) = (if h' = b then 1 else 0) ∧ atI [V.str "1.", V.str "2."] (if h' = b then 1 else 0 : Int) = some (.str x) ∧ x.length ≤ 2 ∧ sideW a b h' t' = some (x ++ t') := by
            by_cases e : h' = b
            · refine ⟨"2.", by simp [e], by rw [if_pos e]; rfl, by decide, ?_⟩
              have : h' ≠ a := fun z => kf (by rw [← z, e])
              unfold sideW
              rw [if_neg this, if_pos e] <;> rfl
            · refine ⟨"1.", by simp; omega, by rw [if_neg e]; rfl, by decide, ?_⟩
              have : h' = a := by
                rcases mem_c c with y | y
                · omega
                · have := List.mem_singleton.mp y; omega
              unfold sideW
              rw [if_pos this] <;> rfl
          obtain ⟨x, ex, hx, hxl, hsw⟩ := hix
          rw [ex]
          refine w_ixA hx ?_
          walk_at "go"
          refine ⟨_, _, rfl, rfl, Nat.le_trans (show x.length + t'.length ≤ 1000 by omega) (by decide), ?_⟩
          walk_at "go"
          refine w_app e25 size ?_
          walk_at "go"
          refine ⟨_, rfl, (s4.new hz1).put hz0, at_ne (at_new e14 hz1) nsz, ?_⟩
          rw [upd_same, st]
          show _ = some (HO.lst (_ ++ (sideW a b h' t').toList.map V.str))
          rw [hsw]
          rfl
        · walk_at "go"
          refine ⟨_, rfl, s4, e14, ?_⟩
          rw [st, e24]
          show _ = some (HO.lst (_ ++ (sideW a b h' t').toList.map V.str))
          have h1 : h' ≠ a := fun z => c (by rw [z]; simp)
          have h2 : h' ≠ b := fun z => c (by rw [z]; simp)
          unfold sideW
          rw [if_neg h1, if_neg h2]
          simp
  · rintro σ H1 ⟨ev, rfl, s1, e1, e2⟩
    walk_at "go"
    refine q z H1 s1 ?_
    rw [List.take_of_length_le (by rw [List.length_drop, List.length_drop, hE.len]; exact Nat.le_refl _)] at e2
    exact e2
end
def TouchAt (H : Hp) (x : Ky × Str) (v : V) : Prop := ∃ kp tp, v = .ref tp ∧ H tp = some (.tup [.ref kp, .str x.2]) ∧ H kp = some (.tup (x.1.nk.map V.int))
theorem TouchAt.same {H H' : Hp} {x : Ky × Str} {v : V} (s : Same H H') (h : TouchAt H x v) : TouchAt H' x v := by
  obtain ⟨kp, tp, e, a, b⟩ := h
  exact ⟨kp, tp, e, s _ _ a, s _ _ b⟩
def spLTouched : Sp := fun vs H Q _ => ∃ (sides : Nat) (tl ep : Addr) (ts : List V) (L : List Ent) (l h : Nat) (t : Str) (n : Int), vs = [.int (sides : Nat), .ref tl, .ref ep] ∧ H tl = some (.lst ts) ∧ Each (fun (x : Nat × Nat × Nat) => TupAt H [.int (x.1 : Nat), .int (x.2.1 : Nat), .int (x.2.2 : Nat)]) (tiesOf L) ts ∧
  H ep = some (.tup (entV (.deed l h t n))) ∧ t.length ≤ 100 ∧ L.length ≤ 4000 ∧ (∀ x ∈ tiesOf L, x.2.1 ≠ x.2.2) ∧ ∀ (p : Addr) (us : List V) (H' : Hp), Same H H' → H' p = some (.lst us) → Each (TouchAt H') (touched sides L h t) us → Q (.ref p) H'
section
variable {P : Program} {w : World} {K : PySem.W.Frag} {mg : Str → Option Value} {base : Heap} {A : Ad} (T : Tx K mg A)
include T
theorem ok_law_touched : FnOk P w K mg base CX0 1 A.f_law_touched A.d_law_touched ["_law_sides", "_law_ties", "_law_entry"] spLTouched := by
  refine T.F_law_touched.ok sc_law_touched (fun vs H Q E h => ?_) (fun cdv A' outer s H vs Q E hr h => ?_)
  · obtain ⟨sides, tl, ep, ts, L, l, h, t, n, rfl, _⟩ := h
    rfl
  obtain ⟨sides, tl, ep, ts, L, l, h, t, n, rfl, htl, hts, hep, ht, hL, hab, q⟩ := h
  have hep2 : H ep = some (.tup [.int (l : Nat), .int (h : Nat), .str t, .int n]) := hep
  refine ⟨_, (pss_cons (ps_if (pt_cmpR op_eq (pv 0) pe_int (nomark _)) (pss_one (ps_ret (pe_lst (pa_cons (pe_tup (pa_cons (pe_tup (pa_cons pe_int (pa_cons (pe_ix ix_tup (pv 2) pe_int (fun _ _ => rfl)) pa_nil))) (pa_cons (pe_ix ix_tup (pv 2) pe_int (fun _ _ => rfl)) pa_nil))) pa_nil)))) pss_nil)
    (pss_one (ps_ret (pe_lc (own := [("_law_tie", 3)]) (g := gName 3) rfl sc_law_touched.nd (pi_list (pv 1)) (blkOk_by (own := [("_law_tie", 3)]) (N := ["_law_sides", "_law_ties", "_law_entry", "_law_tie"]) (sc := defScope st_law_touched) (by decide +kernel)) (fun _ _ _ _ _ => pg_name (i := 3) sc_law_touched.nd rfl (Or.inl rfl)) (fun _ _ _ _ _ => pts_one (pt_cmpR (op_in_seqK (K := K) rfl) (pe_ix (ix_tupK (K := K) rfl) (pv 2) pe_int (fun _ _ => rfl)) (pe_slice (sl_tupK (K := K) rfl) (pv 3) (po_some pe_int) po_none) rfl)) (fun _ _ _ _ _ => (pe_tup (pa_cons (pv 3) (pa_cons (pe_op op_add_str (pe_ix (ix_listK (K := K) rfl) (pe_lst (pa_cons pe_str (pa_cons pe_str pa_nil))) (pe_callTy call_int1 (by rfl) T.z_int (by decide +kernel) (pa_cons (pe_cmpR op_eq (pe_ix (ix_tupK (K := K) rfl) (pv 2) pe_int (fun _ _ => rfl)) (pe_ix (ix_tupK (K := K) rfl) (pv 3) pe_int (fun _ _ => rfl)) (nomark _)) pa_nil)) (fun _ _ => rfl)) (pe_ix (ix_tupK (K := K) rfl) (pv 2) pe_int (fun _ _ => rfl))) pa_nil)))))))), ?_⟩
  walk_at "k"
  walk_at "go"
  refine if_d (fun c => ?_) (fun c => ?_)
  · have c' : sides = 1 := by omega
    walk_at "go"
    intro kp hkp
    walk_at "go"
    intro tp htp
    walk_at "go"
    intro p hp
    refine q p _ _ (((same_new hkp).new htp).new hp) upd_same ?_
    unfold touched
    rw [if_pos c']
    exact Each.nil.cons ⟨kp, tp, rfl, at_new upd_same hp, at_new (at_new upd_same htp) hp⟩
  · have c' : ¬ sides = 1 := by omega
    have etouch : touched sides L h t = (tiesOf L).filterMap (touchT h t) := by unfold touched; rw [if_neg c']
    walk_at "go"
    refine w_lcL (xs := ts) fun z hz => ⟨fun i H' => Same H H' ∧ ∃ us, H' z = some (.lst us) ∧ Each (TouchAt H') (((tiesOf L).take i).filterMap (touchT h t)) us, ⟨same_new hz, [], upd_same, Each.nil⟩, fun i H' ⟨s1, _⟩ => SqL.of (s1 _ _ htl), fun i x H' hi ⟨s1, us, e1, hu⟩ => ?_, fun H1 ⟨s1, us, e1, hu⟩ => ?_⟩
    · obtain ⟨⟨j, a, b⟩, hx, p, rfl, hp⟩ := hts.at_ i x hi
      have hp1 := s1 _ _ hp
      have hep1 := s1 _ _ hep2
      have nab : a ≠ b := hab _ (List.mem_of_getElem? hx)
      have stp : ((tiesOf L).take (i + 1)).filterMap (touchT h t) = ((tiesOf L).take i).filterMap (touchT h t) ++ (touchT h t (j, a, b)).toList := by
        rw [take_one hx, List.filterMap_append]; congr 1
      have size : us.length < sizeLine := by
        have h1 := List.length_filterMap_le (touchT h t) ((tiesOf L).take i)
        have h2 := tiesOf_len L
        rw [List.length_take] at h1
        rw [hu.len]
        exact Nat.lt_of_le_of_lt (show _ ≤ 4000 by omega) (by decide)
      walk_at "go"
      refine ⟨rfl, ?_⟩
      walk_at "go"
      refine w_slT hp1 fun t1 ht1 => ?_
      refine w_inTI (ws := [(a : Int), (b : Int)]) upd_same ?_
      have hp4 := at_new (u := .tup [V.int (a : Nat), V.int (b : Nat)]) hp1 ht1
      have hep4 := at_new (u := .tup [V.int (a : Nat), V.int (b : Nat)]) hep1 ht1
      have e14 := at_new (u := .tup [V.int (a : Nat), V.int (b : Nat)]) e1 ht1
      have s4 := s1.new (o := .tup [V.int (a : Nat), V.int (b : Nat)]) ht1
      have hu4 := hu.mono fun x v (y : TouchAt H' x v) => y.same (same_new (o := .tup [V.int (a : Nat), V.int (b : Nat)]) ht1)
      generalize hH4 : upd H' t1 (.tup [V.int (a : Nat), V.int (b : Nat)]) = H4 at hp4 hep4 e14 s4 hu4 ⊢
      walk_at "go"
      refine if_d (fun c => ?_) (fun c => ?_)
      · walk_at "go"
        intro z1 hz1
        have hp5 := at_new (u := .lst [V.str "1.", V.str "2."]) hp4 hz1
        have hep5 := at_new (u := .lst [V.str "1.", V.str "2."]) hep4 hz1
        have e15 := at_new (u := .lst [V.str "1.", V.str "2."]) e14 hz1
        walk_at "go"
        have hix : ∃ x : Str, (if decide ((h : Int) = (b : Int)) = true then (1 : Int) else 0) = (if h = b then 1 else 0) ∧ atI [V.str "1.", V.str "2."] (if h = b then 1 else 0 : Int) = some (.str x) ∧ x.length ≤ 2 ∧ sideW a b h t = some (x ++ t) := by
          by_cases e : h = b
          · refine ⟨"2.", by simp [e], by rw [if_pos e]; rfl, by decide, ?_⟩
            have : h ≠ a := fun z => nab (by rw [← z, e])
            unfold sideW
            rw [if_neg this, if_pos e] <;> rfl
          · refine ⟨"1.", by simp; omega, by rw [if_neg e]; rfl, by decide, ?_⟩
            have : h = a := by
              rcases mem_c c with y | y
              · omega
              · have := List.mem_singleton.mp y; omega
            unfold sideW
            rw [if_pos this] <;> rfl
        obtain ⟨x, ex, hx2, hxl, hsw⟩ := hix
        rw [ex]
        refine w_ixA hx2 ?_
        walk_at "go"
        refine ⟨_, _, rfl, rfl, Nat.le_trans (show x.length + t.length ≤ 1000 by omega) (by decide), ?_⟩
        walk_at "go"
        intro z2 hz2
        refine ⟨_, at_new e15 hz2, size, ((s4.new hz1).new hz2).put hz, _, upd_same, ?_⟩
        have et : touchT h t (j, a, b) = some (.two j a b, x ++ t) := by unfold touchT; rw [hsw]; rfl
        rw [stp, et]
        have up : ∀ {q : Addr} {ys : List V}, H4 q = some (.tup ys) → upd (upd (upd H4 z1 (.lst [V.str "1.", V.str "2."])) z2 (.tup [V.ref p, V.str (x ++ t)])) z (.lst (us ++ [V.ref z2])) q = some (.tup ys) := fun {q ys} e => at_ne (at_new (at_new e hz1) hz2) (ne_of e e14 (by intro y; cases y))
        refine Each.snoc (hu4.mono fun y v g => ?_) ⟨p, z2, rfl, at_ne upd_same (fun y => ?_), up hp4⟩
        · obtain ⟨kp, tp, g1, g2, g3⟩ := g
          exact ⟨kp, tp, g1, up g2, up g3⟩
        · rw [y, e15] at hz2; cases hz2
      · refine ⟨s4, us, e14, ?_⟩
        have h1 : h ≠ a := fun z => c (by rw [z]; simp)
        have h2 : h ≠ b := fun z => c (by rw [z]; simp)
        have et : touchT h t (j, a, b) = none := by unfold touchT sideW; rw [if_neg h1, if_neg h2]; rfl
        rw [stp, et]
        simpa using hu4
    · walk_at "go"
      refine q z us H1 s1 e1 ?_
      rw [hts.len, List.take_length] at hu
      rw [etouch]
      exact hu
end

end U
namespace U
open PySem L2
/-! the steps that need no word -/
local macro_rules | `(tactic| walk_at "h") => `(tactic| focus ((repeat (first | assumption | exact upd_same | (apply at_ne; rotate_left; (first | assumption | exact Ne.symm (by assumption))) | (apply at_new; rotate_left; assumption))); done))
local macro_rules | `(tactic| walk_at "go") => `(tactic| repeat (with_reducible first
  | refine Go.by_ ?_
  | (apply w_at; (first | assumption | exact upd_same))
  | (apply w_sqT; (first | assumption | exact SqT.of (by assumption) | exact SqT.of upd_same))
  | (apply w_sqL; (first | assumption | exact SqL.of (by assumption) | exact SqL.of upd_same))
  | (apply w_sqLT1; (first | assumption | exact SqL.of (by assumption) | exact SqL.of upd_same))
  | (apply w_sqLT2; (first | assumption | exact SqT.of (by assumption) | exact SqT.of upd_same))
  | (apply w_at; walk_at "h")
  | (apply w_sqT; focus (apply SqT.of; walk_at "h"))
  | (apply w_sqL; focus (apply SqL.of; walk_at "h"))
  | (apply w_sqLT1; focus (apply SqL.of; walk_at "h"))
  | (apply w_sqLT2; focus (apply SqT.of; walk_at "h"))
  | (apply w_strT; decide)
  | (apply w_strF; decide)
  | (apply w_gTupH; (with_unfolding_all rfl))
  | (apply w_ixA; (first | assumption | with_unfolding_all rfl))))
local macro_rules | `(tactic| walk_at "k") => `(tactic| ((try dsimp only [cxOf, Cx.nox, List.map_cons, List.map_nil]); refine w_start ?_))
/-! ## What is due, as the law finds it -/
def vrm (kvs : List (NKy × V)) (n : Str) (k : Ky) : V := (valV kvs (n, k.nk)).getD (.int 0)
theorem vrm_put (kvs : List (NKy × V)) (n n' : Str) (k k' : Ky) (v : V) : vrm (putK kvs (n, k.nk) v) n' k' = if n' = n ∧ k' = k then v else vrm kvs n' k' := by
  unfold vrm
  rw [valV_put]
  by_cases h : n' = n ∧ k' = k
  · rw [if_pos h, if_pos (by rw [h.1, h.2])]
    rfl
  · rw [if_neg h, if_neg (fun z => h ?_)]
    injection z with z1 z2
    exact ⟨z1, nk_inj z2⟩
def NoKey (kvs : List (NKy × V)) (m : Nat) : Prop := ∀ (n : Str) (i a b : Nat), m ≤ i → valV kvs (n, (Ky.two i a b).nk) = none
/-- what the law's state holds -/
structure Dz (P : Program) (w : World) (H H' : Hp) (tl rd : Addr) (ts : List V) (L : List Ent) (kvs : List (NKy × V)) : Prop where
  same : Same H H'
  nt : H tl = none
  nr : H rd = none
  tl_ : H' tl = some (.lst ts)
  ties : Each (fun (x : Nat × Nat × Nat) => TupAt H' [.int (x.1 : Nat), .int (x.2.1 : Nat), .int (x.2.2 : Nat)]) (tiesOf L) ts
  rooms : NAt P w H' rd kvs
theorem Dz.put {P : Program} {w : World} {H H' H2 : Hp} {tl rd : Addr} {ts : List V} {L : List Ent} {kvs : List (NKy × V)} (h : Dz P w H H' tl rd ts L kvs) (s : Same H' H2) : Dz P w H H2 tl rd ts L kvs :=
  ⟨h.same.trans s, h.nt, h.nr, s _ _ h.tl_, h.ties.mono fun _ _ p => p.same s, h.rooms.same s⟩
theorem NAt.keeps {P : Program} {w : World} {H : Hp} {rd : Addr} {kvs : List (NKy × V)} (h : NAt P w H rd kvs) {φ : Heap → Prop} : Keeps H (upd H rd (.ext φ)) := fun b o e k => at_ne e (by
  obtain ⟨_, _, xs, h3, _⟩ := h
  obtain ⟨ys, rfl | rfl⟩ := k
  · exact ne_of e h3 (by intro z; cases z)
  · exact ne_of e h3 (by intro z; cases z))
theorem Dz.set {P : Program} {w : World} {H H' : Hp} {tl rd : Addr} {ts : List V} {L : List Ent} {kvs kvs' : List (NKy × V)} {φ : Heap → Prop} (h : Dz P w H H' tl rd ts L kvs) (n : NAt P w (upd H' rd (.ext φ)) rd kvs') : Dz P w H (upd H' rd (.ext φ)) tl rd ts L kvs' :=
  ⟨h.same.put h.nr, h.nt, h.nr, h.rooms.keeps _ _ h.tl_ ⟨_, .inr rfl⟩, h.ties.mono fun _ _ p => p.keep h.rooms.keeps, n⟩
theorem TouchAt.keep {H H' : Hp} {x : Ky × Str} {v : V} (s : Keeps H H') (h : TouchAt H x v) : TouchAt H' x v := by
  obtain ⟨kp, tp, e, a, b⟩ := h
  exact ⟨kp, tp, e, s _ _ a ⟨_, .inl rfl⟩, s _ _ b ⟨_, .inl rfl⟩⟩
theorem touched_len (sides : Nat) (L : List Ent) (h : Nat) (w : Str) : (touched sides L h w).length ≤ L.length + 1 := by rw [← tix_len]; exact tix_le _ _ _ _
theorem touched_new {sides : Nat} {L : List Ent} {h : Nat} {w : Str} {j : Nat} {y : Ky} {t : Str} (e : (touched sides L h w)[j]? = some (y, t)) : ¬ y ∈ ((touched sides L h w).take j).map (·.1) := fun hm => by
  obtain ⟨i, hi, ei⟩ := List.getElem_of_mem hm
  have hj := (List.getElem?_eq_some_iff.mp e).1
  rw [List.length_map, List.length_take] at hi
  have hi2 : i < (touched sides L h w).length := by omega
  rw [List.getElem_map, List.getElem_take] at ei
  have hi' : i < (tix sides L h w).length := by rw [tix_len]; exact hi2
  have hj' : j < (tix sides L h w).length := by rw [tix_len]; exact hj
  obtain ⟨y1, hy1, hty1⟩ := tix_at (k := ((tix sides L h w)[i]).1) (t := ((tix sides L h w)[i]).2) (List.getElem?_eq_getElem hi')
  obtain ⟨y2, hy2, hty2⟩ := tix_at (k := ((tix sides L h w)[j]).1) (t := ((tix sides L h w)[j]).2) (List.getElem?_eq_getElem hj')
  rw [e] at hty2
  rw [List.getElem?_eq_getElem hi2] at hty1
  have e1 : y1 = y := by
    have := Option.some.inj hty1
    rw [this] at ei
    exact ei
  have e2 : y = y2 := by injection hty2 with z; injection z with z1 _
  subst e2
  subst e1
  have hk := keyAt_inj hy1 hy2
  have := nd_ix (tix_nodup sides L h w) (i := i) (j := j) (by rw [List.getElem?_map, List.getElem?_eq_getElem hi']; rfl) (by rw [List.getElem?_map, List.getElem?_eq_getElem hj', Option.map_some, ← hk])
  omega
def ngR (P : Program) (w : World) (ty tx : TE) (σ : L2.St) (x : V) (H1 : Hp) (Q : VK) : Prop := ∃ a, x = .ref a ∧ (∃ kvs, NAt P w H1 a kvs) ∧ ty σ H1 fun y H2 => tx σ H2 fun z H3 => ∃ kvs k b, NAt P w H3 a kvs ∧ y = .ref b ∧ KeyAt H3 k b ∧ Q ((valV kvs k).getD z) H3
instance {P : Program} {w : World} {td ty tx : TE} {σ : L2.St} {H : Hp} {Q : VK} : Go (tDGetN P w td ty tx σ H Q) (td σ H fun x H1 => ngR P w ty tx σ x H1 Q) := ⟨fun q => q⟩
def npR (P : Program) (w : World) (D : L2.St → Hp → Prop) (σ : L2.St) (v x y : V) (H3 : Hp) : Prop := ∃ a kvs k b, x = .ref a ∧ y = .ref b ∧ NAt P w H3 a kvs ∧ KeyAt H3 k b ∧ kvs.length < sizeLine ∧ ∀ φ, NAt P w (upd H3 a (.ext φ)) a (putK kvs k v) → D σ (upd H3 a (.ext φ))
instance {P : Program} {w : World} {td ty tv : TE} {σ : L2.St} {H : Hp} {n b c : L2.St → Hp → Prop} {r : VK} : Go (sDPutN P w td ty tv ⟨n, r, b, c⟩ σ H) (tv σ H fun v H1 => td σ H1 fun x H2 => ty σ H2 fun y H3 => npR P w n σ v x y H3) := ⟨fun q => q⟩
def spDue : Sp := fun vs H Q _ => ∃ (rl lg : Addr) (rules : List (Str × Rl)) (rs us : List V) (L : List Ent), vs = [.ref rl, .ref lg] ∧ H rl = some (.lst rs) ∧ RulesIn H rules rs ∧ H lg = some (.lst us) ∧ EntsAt H L us ∧
  L.length ≤ 1800 ∧ rules.length ≤ 3 ∧ (∀ x ∈ rules, x.2.Ok) ∧ (rules.map (·.1)).Nodup ∧ (∀ l h w n, Ent.deed l h w n ∈ L → w.length ≤ 100) ∧ (∀ l a b, Ent.tie l a b ∈ L → a ≠ b) ∧
  (due rules L = none → ∀ H', Same H H' → Q .non H') ∧
  (∀ k n y, due rules L = some (k, n, y) → ∀ (p hp rp : Addr) (H' : Hp), Same H H' → H' p = some (.tup [.int (k : Nat), .str n, .ref hp, .ref rp]) → H' hp = some (.lst (y.handles.map fun (a : Nat) => V.int (a : Nat))) → H' rp = some (.lst ((rowOf (L.take (k + 1)) y).map V.str)) → Q (.ref p) H')
section
variable {P : Program} {w : World} {K : PySem.W.Frag} {mg : Str → Option Value} {base : Heap} {A : Ad} (T : Tx K mg A)
include T
theorem ok_law_due : FnOk P w K mg base CX0 2 A.f_law_due A.d_law_due ["_law_rules", "_law_log_here"] spDue := by
  refine T.F_law_due.ok sc_law_due (fun vs H Q E h => ?_) (fun cdv A' outer s H vs Q E hr h => ?_)
  · obtain ⟨rl, lg, rules, rs, us, L, rfl, _⟩ := h
    rfl
  have G_law_next := ok_law_next (P := P) (w := w) (base := base) T
  have G_law_row_of := ok_law_row_of (P := P) (w := w) (base := base) T
  have G_law_touched := ok_law_touched (P := P) (w := w) (base := base) T
  obtain ⟨rl, lg, rules, rs, us, L, rfl, hrl, hrs, hlg, hE, hL, hrn, ok, hnd, hw, hab, q1, q2⟩ := h
  refine ⟨_, (pss_cons (ps_set (i := 2) sc_law_due.nd rfl (Or.inl rfl) (pe_lst pa_nil))
    (pss_cons (ps_set (i := 3) sc_law_due.nd rfl (Or.inl rfl) pe_dnewN)
    (pss_cons (ps_for PassesOwn.never rfl (pi_enum (by rfl) T.z_enumerate (pa_cons (pv 1) pa_nil)) (pg_tup rfl (pgs_cons (pg_name (i := 4) sc_law_due.nd rfl (Or.inl rfl)) (pgs_cons (pg_name (i := 5) sc_law_due.nd rfl (Or.inl rfl)) pgs_nil))) (pss_cons (ps_if (pt_cmpR op_eq (pe_callB call_len_seq (by rfl) T.z_len PySem.boot_len (pa_cons (pv 5) pa_nil)) pe_int (nomark _)) (pss_cons (ps_expr (pe_bm PySem.F.plainAttrs_list PySem.F.slot_list_append PySem.F.type_list_append mt_append (pv 2) (pa_cons (pe_tup (pa_cons (pv 4) (pa_cons (pe_ix ix_tup (pv 5) pe_int (fun _ _ => rfl)) (pa_cons (pe_ix ix_tup (pv 5) pe_int (fun _ _ => rfl)) pa_nil)))) pa_nil)))
        (pss_one ps_continue)) pss_nil)
      (pss_cons (ps_for PassesOwn.never rfl (pi_list (pv 0)) (pg_tup rfl (pgs_cons (pg_name (i := 6) sc_law_due.nd rfl (Or.inl rfl)) (pgs_cons (pg_name (i := 7) sc_law_due.nd rfl (Or.inl rfl)) pgs_nil))) (pss_one (ps_for PassesOwn.never rfl (pi_list (pe_call G_law_touched (hr.mono (by decide)) rfl T.m_law_touched T.F_law_touched.kp T.b_law_touched .nil pass0 (pa_cons (pe_ix ix_tup (pv 7) pe_int (fun _ _ => rfl)) (pa_cons (pv 2) (pa_cons (pv 5) pa_nil))))) (pg_tup rfl (pgs_cons (pg_name (i := 8) sc_law_due.nd rfl (Or.inl rfl)) (pgs_cons (pg_name (i := 9) sc_law_due.nd rfl (Or.inl rfl)) pgs_nil))) (pss_one (ps_if (pt_cmpR op_isN (pe_call G_law_next (hr.mono (by decide)) rfl T.m_law_next T.F_law_next.kp T.b_law_next .nil pass0 (pa_cons (pv 7) (pa_cons (pe_dgetN hr (pv 3) (pe_tup (pa_cons (pv 6) (pa_cons (pv 8) pa_nil))) pe_int ⟨rfl, rfl, rfl, rfl⟩) (pa_cons (pv 9) pa_nil)))) pe_non (nomark _)) (pss_one (ps_ret (pe_tup (pa_cons (pv 4) (pa_cons (pv 6) (pa_cons (pe_callTy call_list_of (by rfl) T.z_list (by decide +kernel) (pa_cons (pe_slice sl_tup (pv 8) (po_some pe_int) po_none) pa_nil)) (pa_cons (pe_call G_law_row_of (hr.mono (by decide)) rfl T.m_law_row_of T.F_law_row_of.kp T.b_law_row_of .nil pass0 (pa_cons (pe_slice sl_list (pv 1) po_none (po_some (pe_op op_add (pv 4) pe_int))) (pa_cons (pv 8) pa_nil))) pa_nil))))))) pss_nil)))))
      (pss_one (ps_for PassesOwn.never rfl (pi_list (pv 0)) (pg_tup rfl (pgs_cons (pg_name (i := 6) sc_law_due.nd rfl (Or.inl rfl)) (pgs_cons (pg_name (i := 7) sc_law_due.nd rfl (Or.inl rfl)) pgs_nil))) (pss_one (ps_for PassesOwn.never rfl (pi_list (pe_call G_law_touched (hr.mono (by decide)) rfl T.m_law_touched T.F_law_touched.kp T.b_law_touched .nil pass0 (pa_cons (pe_ix ix_tup (pv 7) pe_int (fun _ _ => rfl)) (pa_cons (pv 2) (pa_cons (pv 5) pa_nil))))) (pg_tup rfl (pgs_cons (pg_name (i := 8) sc_law_due.nd rfl (Or.inl rfl)) (pgs_cons (pg_name (i := 9) sc_law_due.nd rfl (Or.inl rfl)) pgs_nil))) (pss_one (ps_dputN hr (pv 3) (pe_tup (pa_cons (pv 6) (pa_cons (pv 8) pa_nil))) (pe_call G_law_next (hr.mono (by decide)) rfl T.m_law_next T.F_law_next.kp T.b_law_next .nil pass0 (pa_cons (pv 7) (pa_cons (pe_dgetN hr (pv 3) (pe_tup (pa_cons (pv 6) (pa_cons (pv 8) pa_nil))) pe_int ⟨rfl, rfl, rfl, rfl⟩) (pa_cons (pv 9) pa_nil)))) rfl)))))))))
    (pss_one (ps_ret pe_non))))), ?_⟩
  walk_at "k"
  walk_at "go"
  intro tl htl
  walk_at "go"
  intro rd hrd hsys
  obtain ⟨hr0, hrt⟩ := upd_none hrd
  have Z0 : Dz P w H (upd (upd H tl (.lst [])) rd (.ext (nD P w rd []))) tl rd [] [] [] := ⟨(same_new htl).new hrd, htl, hr0, at_new upd_same hrd, Each.nil, hsys, Nat.zero_le _, [], upd_same, .nil, List.nodup_nil⟩
  have hlg0 := Z0.same _ _ hlg
  walk_at "go"
  refine w_forE (xs := us) (fun i σ H' => ∃ (v4 v5 v6 v7 v8 v9 : Option V) (ts : List V) (kvs : List (NKy × V)), σ = [some (.ref rl), some (.ref lg), some (.ref tl), some (.ref rd), v4, v5, v6, v7, v8, v9] ∧ Dz P w H H' tl rd ts (L.take i) kvs ∧ i ≤ L.length ∧
      (∀ x ∈ rules, ∀ k, KeyOf x.2.sides (L.take i) k → vrm kvs x.1 k = .int (rm x.2 (L.take i) k : Nat)) ∧ NoKey kvs i ∧ KeptAll rules (L.take i) ∧ dueFrom rules (L.take i) (L.drop i) = due rules L ∧ kvs.length ≤ i * (rules.length * (L.length + 1)))
    ⟨none, none, none, none, none, none, [], [], rfl, Z0, Nat.zero_le _, fun x _ k hk => ?_, fun n i a b _ => rfl, fun x _ => Kept.nil x.2, rfl, Nat.zero_le _⟩ (fun i σ H' ⟨_, _, _, _, _, _, _, _, _, Z, _⟩ => SqL.of (Z.same _ _ hlg)) ?_ ?_
  · have : rm x.2 [] k = 0 := by
      unfold rm roomOf rowOf
      simp
    show vrm [] x.1 k = _
    rw [show ([] : List Ent) = L.take 0 from rfl] at this
    rw [this]
    rfl
  · rintro i v t σ H1 hi ⟨v4, v5, v6, v7, v8, v9, ts, kvs, rfl, Z, hil, hrm, hno, kept, hdue, hsz⟩ ht
    obtain ⟨e, he, ep, rfl, hep⟩ := hE.at_ i v hi
    have Z1 := Z.put (same_new (o := .tup [.int (i : Nat), .ref ep]) ht)
    have hep1 := Z1.same _ _ hep
    have htt : upd H1 t (.tup [.int (i : Nat), .ref ep]) t = some (.tup [.int (i : Nat), .ref ep]) := upd_same
    generalize upd H1 t (.tup [.int (i : Nat), .ref ep]) = H2 at Z1 hep1 htt ⊢
    have hi2 : i < L.length := (List.getElem?_eq_some_iff.mp he).1
    have ed : L.drop i = e :: L.drop (i + 1) := by
      rw [List.drop_eq_getElem_cons hi2]
      rw [(List.getElem?_eq_some_iff.mp he).2]
    have et : L.take (i + 1) = L.take i ++ [e] := take_one he
    have el : (L.take i).length = i := by rw [List.length_take]; omega
    have htlen : ts.length ≤ 1800 := by
      rw [Z.ties.len]
      have := tiesOf_len (L.take i)
      omega
    rw [ed] at hdue
    have mem : ∀ x, x ∈ L.take i → x ∈ L := fun x hx => List.mem_of_mem_take hx
    cases e with
    | tie l a b =>
      have hep2 : H2 ep = some (.tup [.int (l : Nat), .int (a : Nat), .int (b : Nat)]) := hep1
      have htl2 := Z1.tl_
      walk_at "go"
      refine ifT (by simp) ?_
      walk_at "go"
      intro z hz
      walk_at "go"
      refine w_app (at_new htl2 hz) (Nat.lt_of_le_of_lt htlen (by decide)) ?_
      walk_at "go"
      have nrt : rd ≠ tl := hrt
      have ztl : tl ≠ z := ne_of_none htl2 hz
      have kk : ∀ c ys, H2 c = some (.tup ys) → upd (upd H2 z (.tup [.int (i : Nat), .int (a : Nat), .int (b : Nat)])) tl (.lst (ts ++ [.ref z])) c = some (.tup ys) := fun c ys e => at_ne (at_new e hz) (ne_of e htl2 (by intro z; cases z))
      refine ⟨_, _, _, _, _, _, ts ++ [.ref z], kvs, rfl, ⟨(Z1.same.new hz).put Z1.nt, Z1.nt, Z1.nr, upd_same, ?_, Z1.rooms.put_ (fun o e => at_ne (at_new e hz) nrt) kk⟩, hi2, fun x hx k hk => ?_, fun n i' a' b' h => hno n i' a' b' (by omega), ?_, ?_, ?_⟩
      · rw [et, tiesOf_snoc, el]
        refine Each.snoc (Z1.ties.mono fun x v p => ?_) ⟨z, rfl, at_ne upd_same ztl.symm⟩
        obtain ⟨q, f1, f2⟩ := p
        exact ⟨q, f1, kk _ _ f2⟩
      · rw [et] at hk ⊢
        by_cases hk2 : KeyOf x.2.sides (L.take i) k
        · rw [rm_tie hk2.start]
          exact hrm x hx k hk2
        · cases k with
          | one h => exact absurd hk hk2
          | two i' a' b' =>
            have hm := hk.2
            rw [tiesOf_snoc, el] at hm
            rcases mem_a hm with hm | hm
            · exact absurd ⟨hk.1, hm⟩ hk2
            · have e3 : (i', a', b') = (i, a, b) := by simpa [tieAt] using hm
              cases e3
              rw [rm_tie (show (Ky.two i a b).start ≤ _ by show i ≤ _; omega)]
              have : rm x.2 (L.take i) (.two i a b) = 0 := by
                unfold rm roomOf
                rw [rowOf_end (show _ ≤ i by omega)]
                rfl
              rw [this]
              unfold vrm
              rw [hno x.1 i a b (Nat.le_refl _)]
              rfl
      · rw [et]
        exact fun x hx => (kept x hx).tie l a b
      · rw [et]
        exact hdue
      · rw [Nat.add_mul]
        omega
    | deed l h t' n =>
      have hep2 : H2 ep = some (.tup [.int (l : Nat), .int (h : Nat), .str t', .int n]) := hep1
      have ht3 : t'.length ≤ 100 := hw _ _ _ _ (List.mem_of_getElem? he)
      have hab' : ∀ x ∈ tiesOf (L.take i), x.2.1 ≠ x.2.2 := fun x hx => by
        obtain ⟨_, l0, h0⟩ := tiesOf_at hx
        exact hab _ _ _ (mem _ (List.mem_of_getElem? h0))
      walk_at "go"
      refine ifF (by simp) ?_
      have hrl2 := Z1.same _ _ hrl
      walk_at "go"
      refine w_forL (xs := rs) (fun a σ H' => ∃ v6 v7 v8 v9 : Option V, σ = [some (.ref rl), some (.ref lg), some (.ref tl), some (.ref rd), some (.int (i : Nat)), some (.ref ep), v6, v7, v8, v9] ∧ Dz P w H H' tl rd ts (L.take i) kvs ∧
          ((rules.take a).findSome? fun x => (brk1 x.2 (L.take i) h t').map fun k => (x.1, k)) = none)
        ⟨v6, v7, v8, v9, rfl, Z1, rfl⟩ (fun a σ H' ⟨_, _, _, _, _, Z, _⟩ => SqL.of (Z.same _ _ hrl)) ?_ ?_
      · rintro a v σ H3 ha ⟨v6', v7', v8', v9', rfl, Z3, hn3⟩
        obtain ⟨⟨n1, r1⟩, hr1, ra, ⟨pp, rfl, hpp⟩, hra⟩ := hrs.at_ a v ha
        have hpp3 := Z3.same _ _ hpp
        have hep3 := Z3.same _ _ hep
        have okr := ok _ (List.mem_of_getElem? hr1)
        obtain ⟨lw, lr, rv, hra1, _⟩ := id hra
        have hra3 := Z3.same _ _ hra1
        walk_at "go"
        refine ⟨r1.sides, tl, ep, ts, L.take i, l, h, t', n, rfl, Z3.tl_, Z3.ties, hep3, ht3, by omega, hab', fun q uq H4 s4 hq hq2 => ?_⟩
        have Z4 := Z3.put s4
        walk_at "go"
        refine w_forL (xs := uq) (fun j σ H' => ∃ v8 v9 : Option V, σ = [some (.ref rl), some (.ref lg), some (.ref tl), some (.ref rd), some (.int (i : Nat)), some (.ref ep), some (.str n1), some (.ref ra), v8, v9] ∧ Dz P w H H' tl rd ts (L.take i) kvs ∧
            Same H4 H' ∧ ((touched r1.sides (L.take i) h t').take j).findSome? (brkF r1 (L.take i)) = none)
          ⟨v8', v9', rfl, Z4, Same.refl _, rfl⟩ (fun j σ H' ⟨_, _, _, _, s5, _⟩ => SqL.of (s5 _ _ hq)) ?_ ?_
        · rintro j v σ H5 hj ⟨v8'', v9'', rfl, Z5, s5, hn5⟩
          obtain ⟨⟨y, tx⟩, hy, kp, tp, rfl, htp, hkp⟩ := hq2.at_ j v hj
          have htp5 := s5 _ _ htp
          have hkp5 := s5 _ _ hkp
          obtain ⟨hko, hwo⟩ := (touched_iff l n).mp (List.mem_of_getElem? hy)
          walk_at "go"
          refine ⟨rd, rfl, ⟨kvs, Z5.rooms⟩, ?_⟩
          walk_at "go"
          intro z6 hz6
          have Z6 := Z5.put (same_new (o := .tup [.str n1, .ref kp]) hz6)
          walk_at "go"
          refine ⟨kvs, (n1, y.nk), z6, Z6.rooms, rfl, ⟨kp, upd_same, at_new hkp5 hz6⟩, ?_⟩
          have hv := hrm (n1, r1) (List.mem_of_getElem? hr1) y hko
          unfold vrm at hv
          rw [hv]
          walk_at "go"
          refine ⟨ra, r1, rm r1 (L.take i) y, tx, rfl, hra.put Z6.same, okr, rm_lt okr _ _, ?_⟩
          have htp6 := at_new (u := .tup [.str n1, .ref kp]) htp5 hz6
          have hkp6 := at_new (u := .tup [.str n1, .ref kp]) hkp5 hz6
          have s6 : Same H4 (upd H5 z6 (.tup [.str n1, .ref kp])) := s5.new hz6
          generalize upd H5 z6 (.tup [.str n1, .ref kp]) = H6 at Z6 htp6 hkp6 s6 ⊢
          walk_at "go"
          refine if_d (fun c => ?_) (fun c => ?_)
          · have e : brkF r1 (L.take i) (y, tx) = some y := if_pos (optV_non.mp c)
            have hb : brkAt rules (L.take i) h t' = some (n1, y) := brkAt_at hn3 hr1 (by rw [brk1_eq]; exact findSome_take hn5 hy e)
            have hd2 : due rules L = some (i, n1, y) := by
              rw [← hdue]
              show (match brkAt rules (L.take i) h t' with | some x => some ((L.take i).length, x.1, x.2) | none => _) = _
              rw [hb, el]
            have kfit : y.fit := by
              cases y with
              | one _ => trivial
              | two i' a' b' => exact hab' _ hko.2
            have hkst : y.start ≤ i := by have := hko.start; omega
            obtain ⟨x0, xr, exr, hxr⟩ : ∃ x0 xr, y.nk = x0 :: xr ∧ xr = y.handles.map fun (a : Nat) => (a : Int) := by
              cases y <;> exact ⟨_, _, rfl, rfl⟩
            rw [exr] at hkp6
            have hlg6 := Z6.same _ _ hlg
            walk_at "go"
            refine w_slT (x := .int x0) (xs := xr.map V.int) hkp6 fun z7 hz7 => ?_
            walk_at "go"
            intro z8 hz8
            walk_at "go"
            intro z9 hz9
            have s9 := ((same_new (o := .tup (xr.map V.int)) hz7).new (o := .lst (xr.map V.int)) hz8).new (o := .lst (cutV us none (some ((i : Int) + 1)))) hz9
            have h89 := at_new (u := .lst (cutV us none (some ((i : Int) + 1)))) (upd_same (H := upd H6 z7 (.tup (xr.map V.int))) (a := z8) (o := .lst (xr.map V.int))) hz9
            have h99 : upd (upd (upd H6 z7 (.tup (xr.map V.int))) z8 (.lst (xr.map V.int))) z9 (.lst (cutV us none (some ((i : Int) + 1)))) z9 = some (.lst (cutV us none (some ((i : Int) + 1)))) := upd_same
            generalize upd (upd (upd H6 z7 (.tup (xr.map V.int))) z8 (.lst (xr.map V.int))) z9 (.lst (cutV us none (some ((i : Int) + 1)))) = H9 at s9 h89 h99 ⊢
            have ecut : cutV us none (some ((i : Int) + 1)) = us.take (i + 1) := by
              rw [show (i : Int) + 1 = ((i + 1 : Nat) : Int) by omega]
              exact cutV_take us (i + 1)
            rw [ecut] at h99
            walk_at "go"
            refine ⟨z9, kp, us.take (i + 1), L.take (i + 1), y, rfl, h99, (hE.take (i + 1)).mono fun e v p => p.same (Z6.same.trans s9), by rw [exr]; exact s9 _ _ hkp6, kfit, by rw [List.length_take]; omega, by rw [List.length_take]; omega, fun l h w n hm => hw l h w n (List.mem_of_mem_take hm), fun rp H10 s10 e10 => ?_⟩
            walk_at "go"
            intro p hp
            refine q2 i n1 y hd2 p z8 rp _ (((Z6.same.trans s9).trans s10).new hp) upd_same (at_new (s10 _ _ ?_) hp) (at_new e10 hp)
            rw [h89, hxr, List.map_map]
            rfl
          · have e : brkF r1 (L.take i) (y, tx) = none := if_neg fun z => c (optV_non.mpr z)
            walk_at "go"
            exact ⟨_, _, rfl, Z6, s6, findSome_next hn5 hy e⟩
        · rintro σ H5 ⟨v8'', v9'', rfl, Z5, s5, hn5⟩
          have e5 : (touched r1.sides (L.take i) h t').take uq.length = touched r1.sides (L.take i) h t' := List.take_of_length_le (by rw [hq2.len]; exact Nat.le_refl _)
          rw [e5] at hn5
          exact ⟨_, _, _, _, rfl, Z5, findSome_next hn3 hr1 (by dsimp only; rw [brk1_eq, hn5]; rfl)⟩
      · rintro σ H3 ⟨v6', v7', v8', v9', rfl, Z3, hn3⟩
        rw [hrs.len, List.take_length] at hn3
        have hb : brkAt rules (L.take i) h t' = none := hn3
        have hd2 : dueFrom rules (L.take i ++ [Ent.deed l h t' n]) (L.drop (i + 1)) = due rules L := by
          rw [← hdue]
          show _ = (match brkAt rules (L.take i) h t' with | some x => some ((L.take i).length, x.1, x.2) | none => _)
          rw [hb]
        have hrl3 := Z3.same _ _ hrl
        have kdeed : ∀ x ∈ rules, ∀ k, KeyOf x.2.sides (L.take i) k → wordOf k (Ent.deed l h t' n) = none → rm x.2 (L.take i ++ [Ent.deed l h t' n]) k = rm x.2 (L.take i) k := fun x hx k hk hwn => (rm_deed (kept x hx) hk).2 hwn
        have big : i * (rules.length * (L.length + 1)) ≤ 1800 * (3 * 1801) := Nat.mul_le_mul (by omega) (Nat.mul_le_mul hrn (by omega))
        walk_at "go"
        refine w_forL (xs := rs) (fun a σ H' => ∃ (v6 v7 v8 v9 : Option V) (kvs' : List (NKy × V)), σ = [some (.ref rl), some (.ref lg), some (.ref tl), some (.ref rd), some (.int (i : Nat)), some (.ref ep), v6, v7, v8, v9] ∧ Dz P w H H' tl rd ts (L.take i) kvs' ∧
            (∀ b n' r, rules[b]? = some (n', r) → ∀ k, KeyOf r.sides (L.take i) k → vrm kvs' n' k = .int (rm r (if b < a then L.take i ++ [Ent.deed l h t' n] else L.take i) k : Nat)) ∧ NoKey kvs' i ∧ kvs'.length ≤ i * (rules.length * (L.length + 1)) + a * (L.length + 1))
          ⟨v6', v7', v8', v9', kvs, rfl, Z3, fun b n' r hb' k hk => by rw [if_neg (Nat.not_lt_zero _)]; exact hrm (n', r) (List.mem_of_getElem? hb') k hk, hno, by omega⟩ (fun a σ H' ⟨_, _, _, _, _, _, Z, _⟩ => SqL.of (Z.same _ _ hrl)) ?_ ?_
        · rintro a v σ H4 ha ⟨v6'', v7'', v8'', v9'', kvs4, rfl, Z4, hrm4, hno4, hsz4⟩
          obtain ⟨⟨n1, r1⟩, hr1, ra, ⟨pp, rfl, hpp⟩, hra⟩ := hrs.at_ a v ha
          have hpp4 := Z4.same _ _ hpp
          have hep4 := Z4.same _ _ hep
          have hmr1 := List.mem_of_getElem? hr1
          have okr := ok _ hmr1
          have al : a < rules.length := (List.getElem?_eq_some_iff.mp hr1).1
          obtain ⟨lw, lr, rv, hra1, _⟩ := id hra
          have hra4 := Z4.same _ _ hra1
          walk_at "go"
          refine ⟨r1.sides, tl, ep, ts, L.take i, l, h, t', n, rfl, Z4.tl_, Z4.ties, hep4, ht3, by omega, hab', fun q uq H5 s5 hq hq2 => ?_⟩
          have Z5 := Z4.put s5
          have lent := touched_len r1.sides (L.take i) h t'
          walk_at "go"
          refine w_forL (xs := uq) (fun j σ H' => ∃ (v8 v9 : Option V) (kvs' : List (NKy × V)), σ = [some (.ref rl), some (.ref lg), some (.ref tl), some (.ref rd), some (.int (i : Nat)), some (.ref ep), some (.str n1), some (.ref ra), v8, v9] ∧ Dz P w H H' tl rd ts (L.take i) kvs' ∧
              Keeps H5 H' ∧ (∀ b n' r, rules[b]? = some (n', r) → ∀ k, KeyOf r.sides (L.take i) k → vrm kvs' n' k = .int (rm r (if b < a ∨ (b = a ∧ k ∈ ((touched r1.sides (L.take i) h t').take j).map (·.1)) then L.take i ++ [Ent.deed l h t' n] else L.take i) k : Nat)) ∧
              NoKey kvs' i ∧ kvs'.length ≤ i * (rules.length * (L.length + 1)) + a * (L.length + 1) + j)
            ⟨v8'', v9'', kvs4, rfl, Z5, fun b o e _ => e, fun b n' r hb' k hk => ?_, hno4, by omega⟩ (fun j σ H' ⟨_, _, _, _, _, kp, _⟩ => SqL.of (kp _ _ hq ⟨_, .inr rfl⟩)) ?_ ?_
          · rw [hrm4 b n' r hb' k hk]
            simp
          · rintro j v σ H6 hj ⟨v8a, v9a, kvs6, rfl, Z6, kp6, hrm6, hno6, hsz6⟩
            obtain ⟨⟨y, tx⟩, hy, kp, tp, rfl, htp, hkp⟩ := hq2.at_ j v hj
            have htp6 := kp6 _ _ htp ⟨_, .inl rfl⟩
            have hkp6 := kp6 _ _ hkp ⟨_, .inl rfl⟩
            obtain ⟨hko, hwo⟩ := (touched_iff l n).mp (List.mem_of_getElem? hy)
            have hnew := touched_new hy
            obtain ⟨z, hz⟩ := brk1_none (brkAt_none hb _ hmr1) (List.mem_of_getElem? hy)
            have hz1 : rm r1 (L.take i ++ [Ent.deed l h t' n]) y = z := (rm_deed (kept _ hmr1) hko).1 tx z hwo hz
            have hjl : j < L.length + 1 := by
              have := (List.getElem?_eq_some_iff.mp hy).1
              omega
            walk_at "go"
            refine ⟨rd, rfl, ⟨kvs6, Z6.rooms⟩, ?_⟩
            walk_at "go"
            intro z6 hz6
            have Z7 := Z6.put (same_new (o := .tup [.str n1, .ref kp]) hz6)
            walk_at "go"
            refine ⟨kvs6, (n1, y.nk), z6, Z7.rooms, rfl, ⟨kp, upd_same, at_new hkp6 hz6⟩, ?_⟩
            have hv := hrm6 a n1 r1 hr1 y hko
            rw [if_neg (by rintro (h | ⟨_, h⟩); exact absurd h (Nat.lt_irrefl _); exact hnew h)] at hv
            unfold vrm at hv
            rw [hv]
            walk_at "go"
            refine ⟨ra, r1, rm r1 (L.take i) y, tx, rfl, hra.put Z7.same, okr, rm_lt okr _ _, ?_⟩
            rw [hz]
            walk_at "go"
            intro z8 hz8
            have Z8 := Z7.put (same_new (o := .tup [.str n1, .ref kp]) hz8)
            refine ⟨rd, kvs6, (n1, y.nk), z8, rfl, rfl, Z8.rooms, ⟨kp, upd_same, at_new (at_new hkp6 hz6) hz8⟩, ?_, fun φ N9 => ?_⟩
            · have : a * (L.length + 1) ≤ 3 * 1801 := Nat.mul_le_mul (by omega) (by omega)
              exact Nat.lt_of_le_of_lt (show _ ≤ 1800 * (3 * 1801) + 3 * 1801 + 1801 by omega) (by decide)
            refine ⟨_, _, putK kvs6 (n1, y.nk) (.int (z : Nat)), rfl, Z8.set N9, ?_, fun b n' r hb' k hk => ?_, fun n' i' a' b' hle => ?_, ?_⟩
            · exact ((kp6.trans (Keeps.new hz6)).trans (Keeps.new hz8)).trans Z8.rooms.keeps
            · rw [vrm_put]
              have st : ((touched r1.sides (L.take i) h t').take (j + 1)).map (·.1) = ((touched r1.sides (L.take i) h t').take j).map (·.1) ++ [y] := by rw [take_one hy, List.map_append]; rfl
              rw [st]
              by_cases hba : b = a
              · subst hba
                rw [hr1] at hb'
                cases hb'
                by_cases hky : k = y
                · subst hky
                  rw [if_pos ⟨rfl, rfl⟩, if_pos (.inr ⟨rfl, by simp⟩), hz1]
                · rw [if_neg fun z => hky z.2, hrm6 b n1 r1 hr1 k hk]
                  have : (b < b ∨ b = b ∧ k ∈ ((touched r1.sides (L.take i) h t').take j).map (·.1)) ↔ (b < b ∨ b = b ∧ k ∈ ((touched r1.sides (L.take i) h t').take j).map (·.1) ++ [y]) := by
                    simp [hky]
                  by_cases hh : (b < b ∨ b = b ∧ k ∈ ((touched r1.sides (L.take i) h t').take j).map (·.1))
                  · rw [if_pos hh, if_pos (this.mp hh)]
                  · rw [if_neg hh, if_neg fun z => hh (this.mpr z)]
              · have hne : n' ≠ n1 := fun z => hba (nd_ix hnd (i := b) (j := a) (x := n1) (by rw [List.getElem?_map, hb', z]; rfl) (by rw [List.getElem?_map, hr1]; rfl))
                rw [if_neg fun z => hne z.1, hrm6 b n' r hb' k hk]
                have : ∀ S : List Ky, (b < a ∨ (b = a ∧ k ∈ S)) ↔ b < a := fun S => ⟨fun h => h.elim id fun h => absurd h.1 hba, .inl⟩
                by_cases hh : b < a
                · rw [if_pos (.inl hh), if_pos (.inl hh)]
                · rw [if_neg fun z => hh ((this _).mp z), if_neg fun z => hh ((this _).mp z)]
            · rw [valV_put, if_neg, hno6 n' i' a' b' hle]
              intro z
              injection z with z1 z2
              have z3 := nk_inj z2
              rw [← z3] at hko
              have := (tiesOf_at hko.2).1
              omega
            · have := length_putK kvs6 (n1, y.nk) (.int (z : Nat))
              omega
          · rintro σ H6 ⟨v8a, v9a, kvs6, rfl, Z6, kp6, hrm6, hno6, hsz6⟩
            have e5 : (touched r1.sides (L.take i) h t').take uq.length = touched r1.sides (L.take i) h t' := List.take_of_length_le (by rw [hq2.len]; exact Nat.le_refl _)
            rw [e5] at hrm6
            refine ⟨_, _, _, _, kvs6, rfl, Z6, fun b n' r hb' k hk => ?_, hno6, ?_⟩
            · rw [hrm6 b n' r hb' k hk]
              by_cases hba : b < a
              · rw [if_pos (.inl hba), if_pos (by omega)]
              · by_cases hbe : b = a
                · subst hbe
                  rw [hr1] at hb'
                  cases hb'
                  rw [if_pos (show b < b + 1 by omega)]
                  by_cases hkt : k ∈ (touched r1.sides (L.take i) h t').map (·.1)
                  · rw [if_pos (.inr ⟨rfl, hkt⟩)]
                  · rw [if_neg (by rintro (h | ⟨_, h⟩); exact absurd h (Nat.lt_irrefl _); exact hkt h)]
                    have hwn : wordOf k (Ent.deed l h t' n) = none := by
                      cases hw2 : wordOf k (Ent.deed l h t' n) with
                      | none => rfl
                      | some t2 => exact absurd (List.mem_map.mpr ⟨(k, t2), (touched_iff l n).mpr ⟨hk, hw2⟩, rfl⟩) hkt
                    rw [kdeed _ hmr1 k hk hwn]
                · rw [if_neg (by rintro (h | ⟨h, _⟩); exact hba h; exact hbe h), if_neg (by omega)]
            · have : uq.length ≤ L.length + 1 := by rw [hq2.len]; omega
              rw [Nat.add_mul]
              omega
        · rintro σ H4 ⟨v6'', v7'', v8'', v9'', kvs4, rfl, Z4, hrm4, hno4, hsz4⟩
          rw [hrs.len] at hrm4 hsz4
          have tdeed : tiesOf (L.take i ++ [Ent.deed l h t' n]) = tiesOf (L.take i) := by
            rw [tiesOf_snoc]
            show tiesOf (L.take i) ++ [] = _
            rw [List.append_nil]
          refine ⟨_, _, _, _, _, _, ts, kvs4, rfl, ⟨Z4.same, Z4.nt, Z4.nr, Z4.tl_, by rw [et, tdeed]; exact Z4.ties, Z4.rooms⟩, hi2, fun x hx k hk => ?_, fun n' i' a' b' hle => hno4 n' i' a' b' (by omega), ?_, ?_, ?_⟩
          · rw [et] at hk ⊢
            obtain ⟨b, hb'⟩ := List.getElem?_of_mem hx
            have := hrm4 b x.1 x.2 hb' k (keyOf_deed hk)
            rwa [if_pos (List.getElem?_eq_some_iff.mp hb').1] at this
          · rw [et]
            exact fun x hx => (kept x hx).deed (brkAt_none hb x hx)
          · rw [et]
            exact hd2
          · rw [Nat.add_mul]
            omega
  · rintro σ H1 ⟨v4, v5, v6, v7, v8, v9, ts, kvs, rfl, Z, hil, hrm, hno, kept, hdue, hsz⟩
    rw [hE.len, List.take_length, List.drop_length] at hdue
    walk_at "go"
    exact q1 hdue.symm H1 Z.same
end

end U
namespace U
open PySem L2
/-! the steps that need no word -/
local macro_rules | `(tactic| walk_at "h") => `(tactic| focus ((repeat (first | assumption | exact upd_same | (apply at_ne; rotate_left; (first | assumption | exact Ne.symm (by assumption))) | (apply at_new; rotate_left; assumption))); done))
local macro_rules | `(tactic| walk_at "go") => `(tactic| repeat (with_reducible first
  | refine Go.by_ ?_
  | (apply w_at; (first | assumption | exact upd_same))
  | (apply w_sqT; (first | assumption | exact SqT.of (by assumption) | exact SqT.of upd_same))
  | (apply w_sqL; (first | assumption | exact SqL.of (by assumption) | exact SqL.of upd_same))
  | (apply w_sqLT1; (first | assumption | exact SqL.of (by assumption) | exact SqL.of upd_same))
  | (apply w_sqLT2; (first | assumption | exact SqT.of (by assumption) | exact SqT.of upd_same))
  | (apply w_at; walk_at "h")
  | (apply w_sqT; focus (apply SqT.of; walk_at "h"))
  | (apply w_sqL; focus (apply SqL.of; walk_at "h"))
  | (apply w_sqLT1; focus (apply SqL.of; walk_at "h"))
  | (apply w_sqLT2; focus (apply SqT.of; walk_at "h"))
  | (apply w_strT; decide)
  | (apply w_strF; decide)
  | (apply w_gTupH; (with_unfolding_all rfl))
  | (apply w_ixA; (first | assumption | with_unfolding_all rfl))))
local macro_rules | `(tactic| walk_at "k") => `(tactic| ((try dsimp only [cxOf, Cx.nox, List.map_cons, List.map_nil]); refine w_start ?_))
/-! ## try .. except X as e .. else; isinstance of a caught error that has fields -/
theorem runs_one {M : Model} {C : Ctx} {p : Pos} {t : Sem PySem.Fin} {fs : List Frame} {s s1 : Shared} {e1 : End} (h : PySem.Runs M C p t fs s e1 s1) :
    ∀ {e2 : End} {s2 : Shared}, PySem.Runs M C p t fs s e2 s2 → e1 = e2 ∧ s1 = s2 := by
  induction h with
  | done => intro _ _ g; cases g; exact ⟨rfl, rfl⟩
  | raise => intro _ _ g; cases g; exact ⟨rfl, rfl⟩
  | yield => intro _ _ g; cases g; exact ⟨rfl, rfl⟩
  | again _ _ ih => intro _ _ g; cases g with | again _ g => exact ih g
  | rule _ ih => intro _ _ g; cases g with | rule g => exact ih g
  | «at» _ ih => intro _ _ g; cases g with | «at» g => exact ih g
  | load q _ ih => intro _ _ g; cases g with | load z g => cases q.symm.trans z; exact ih g
  | update _ _ ih => intro _ _ g; cases g with | update _ g => exact ih g
  | loadIfAlive _ ih => intro _ _ g; cases g with | loadIfAlive g => exact ih g
  | point _ ih => intro _ _ g; cases g with | point g => exact ih g
  | alloc _ ih => intro _ _ g; cases g with | alloc g => exact ih g
  | fresh _ ih => intro _ _ g; cases g with | fresh g => exact ih g
  | ask _ ih => intro _ _ g; cases g with | ask g => exact ih g
  | choose _ _ ih => intro _ _ g; cases g with | choose _ g => exact ih g
  | os _ ih => intro _ _ g; cases g with | os g => exact ih g
  | handled _ ih => intro _ _ g; cases g with | handled g => exact ih g
  | genState q _ ih => intro _ _ g; cases g with | genState z g => cases q.symm.trans z; exact ih g
  | stack _ ih => intro _ _ g; cases g with | stack g => exact ih g
  | thread _ ih => intro _ _ g; cases g with | thread g => exact ih g
  | newGen _ ih => intro _ _ g; cases g with | newGen g => exact ih g
  | call _ _ i1 i2 =>
    intro _ _ g
    cases g with
    | call a b => obtain ⟨x, rfl⟩ := i1 a; cases x; exact i2 b
    | callSusp a => obtain ⟨x, _⟩ := i1 a; cases x
  | callSusp _ i1 =>
    intro _ _ g
    cases g with
    | call a b => obtain ⟨x, _⟩ := i1 a; cases x
    | callSusp a => obtain ⟨x, rfl⟩ := i1 a; cases x; exact ⟨rfl, rfl⟩
  | resumeFresh q _ _ _ i1 i2 =>
    intro _ _ g
    cases g with
    | resumeFresh z a _ b => cases q.symm.trans z; obtain ⟨rfl, rfl⟩ := i1 a; exact i2 b
    | resumeSuspended z a _ b => cases q.symm.trans z
    | resumeJustStarted z ne b => exact absurd rfl ne
    | resumeRunning z b => cases q.symm.trans z
    | resumeFinished z b => cases q.symm.trans z
  | resumeSuspended q _ _ _ i1 i2 =>
    intro _ _ g
    cases g with
    | resumeSuspended z a _ b => cases q.symm.trans z; obtain ⟨rfl, rfl⟩ := i1 a; exact i2 b
    | resumeFresh z a _ b => cases q.symm.trans z
    | resumeJustStarted z ne b => cases q.symm.trans z
    | resumeThrowFresh z b => cases q.symm.trans z
    | resumeRunning z b => cases q.symm.trans z
    | resumeFinished z b => cases q.symm.trans z
  | resumeJustStarted q ne _ ih =>
    intro _ _ g
    cases g with
    | resumeJustStarted z _ b => exact ih b
    | resumeFresh z a _ b => exact absurd rfl ne
    | resumeSuspended z a _ b => cases q.symm.trans z
    | resumeRunning z b => cases q.symm.trans z
    | resumeFinished z b => cases q.symm.trans z
  | resumeThrowFresh q _ ih =>
    intro _ _ g
    cases g with
    | resumeThrowFresh z b => exact ih b
    | resumeSuspended z a _ b => cases q.symm.trans z
    | resumeRunning z b => cases q.symm.trans z
    | resumeFinished z b => cases q.symm.trans z
  | resumeRunning q _ ih =>
    intro _ _ g
    cases g with
    | resumeRunning z b => exact ih b
    | resumeFresh z a _ b => cases q.symm.trans z
    | resumeSuspended z a _ b => cases q.symm.trans z
    | resumeJustStarted z ne b => cases q.symm.trans z
    | resumeThrowFresh z b => cases q.symm.trans z
    | resumeFinished z b => cases q.symm.trans z
  | resumeFinished q _ ih =>
    intro _ _ g
    cases g with
    | resumeFinished z b => exact ih b
    | resumeFresh z a _ b => cases q.symm.trans z
    | resumeSuspended z a _ b => cases q.symm.trans z
    | resumeJustStarted z ne b => cases q.symm.trans z
    | resumeThrowFresh z b => cases q.symm.trans z
    | resumeRunning z b => cases q.symm.trans z
  | segRet _ _ i1 i2 =>
    intro _ _ g
    cases g with
    | segRet a b => obtain ⟨x, rfl⟩ := i1 a; cases x; exact i2 b
    | segSuspOut _ a => obtain ⟨x, _⟩ := i1 a; cases x
    | segSuspGen _ a _ _ => obtain ⟨x, _⟩ := i1 a; cases x
  | segGen _ _ i1 i2 =>
    intro _ _ g
    cases g with
    | segGen a b => obtain ⟨x, rfl⟩ := i1 a; cases x; exact i2 b
    | segSuspOut _ a => obtain ⟨x, _⟩ := i1 a; cases x
    | segSuspGen _ a _ _ => obtain ⟨x, _⟩ := i1 a; cases x
  | segSuspOut q _ i1 =>
    intro _ _ g
    cases g with
    | segRet a b => obtain ⟨x, _⟩ := i1 a; cases x
    | segGen a b => obtain ⟨x, _⟩ := i1 a; cases x
    | segSuspOut _ a => obtain ⟨x, rfl⟩ := i1 a; cases x; exact ⟨rfl, rfl⟩
    | segSuspGen z a _ _ => cases q.symm.trans z
  | segSuspGen q _ _ _ i1 i2 =>
    intro _ _ g
    cases g with
    | segRet a b => obtain ⟨x, _⟩ := i1 a; cases x
    | segGen a b => obtain ⟨x, _⟩ := i1 a; cases x
    | segSuspOut z a => cases q.symm.trans z
    | segSuspGen z a _ b => cases q.symm.trans z; obtain ⟨x, rfl⟩ := i1 a; cases x; exact i2 b
/-- .. and so does a waking -/
theorem wakes_one {M : Model} {C : Ctx} {p : Pos} {g : Nat} {r : Resume} {s s1 s2 : Shared} {x1 x2 : GenResult} (h1 : Wakes M C p g r s x1 s1) (h2 : Wakes M C p g r s x2 s2) : x1 = x2 ∧ s1 = s2 := by
  unfold Wakes at h1 h2
  split at h1
  · exact h1.elim
  · rename_i e
    rw [e] at h2
    dsimp only at h2
    split at h1
    · obtain ⟨e1, t1, a1, _, rfl, rfl⟩ := h1
      obtain ⟨e2, t2, a2, _, rfl, rfl⟩ := h2
      obtain ⟨rfl, rfl⟩ := runs_one a1 a2
      exact ⟨rfl, rfl⟩
    · rename_i ne
      split at h2
      · rename_i z
        cases z
        exact (ne rfl).elim
      · exact ⟨h1.1.trans h2.1.symm, h1.2.trans h2.2.symm⟩
      · rename_i z
        cases z
    · exact ⟨h1.1.trans h2.1.symm, h1.2.trans h2.2.symm⟩
  · rename_i e
    rw [e] at h2
    obtain ⟨e1, t1, a1, _, rfl, rfl⟩ := h1
    obtain ⟨e2, t2, a2, _, rfl, rfl⟩ := h2
    obtain ⟨rfl, rfl⟩ := runs_one a1 a2
    exact ⟨rfl, rfl⟩
  · rename_i e
    rw [e] at h2
    exact ⟨h1.1.trans h2.1.symm, h1.2.trans h2.2.symm⟩
  · rename_i e
    rw [e] at h2
    exact ⟨h1.1.trans h2.1.symm, h1.2.trans h2.2.symm⟩
/-- two things known of one tree hold together -/
theorem wp_twice {M : Model} {C : Ctx} {α : Type} (t : Sem α) {Q1 Q2 : α → Pos → Shared → Prop} {E1 E2 : Value → Pos → Shared → Prop} : ∀ {p : Pos} {s : Shared},
    Sem.wp M C t Q1 E1 p s → Sem.wp M C t Q2 E2 p s → Sem.wp M C t (fun a q u => Q1 a q u ∧ Q2 a q u) (fun a q u => E1 a q u ∧ E2 a q u) p s := by
  induction t with
  | pure a => exact fun a b => ⟨a, b⟩
  | raise e => exact fun a b => ⟨a, b⟩
  | unsupported => exact fun a _ => a
  | finish => exact fun a _ => a
  | yield => exact fun a _ => a
  | fork => exact fun a _ => a
  | await => exact fun a _ => a
  | register => exact fun a _ => a
  | rule _ k ih => exact fun a b => ih _ a b
  | «at» _ k ih => exact fun a b => ih _ a b
  | alloc _ k ih => exact fun a b => ih _ a b
  | loadIfAlive _ k ih => exact fun a b => ih _ a b
  | point _ k ih => exact fun a b => ih _ a b
  | fresh k ih => exact fun a b => ih _ a b
  | ask k ih => exact fun a b => ih _ a b
  | os _ _ k ih => exact fun a b => ih _ a b
  | handled _ k ih => exact fun a b => ih _ a b
  | newGen _ k ih => exact fun a b => ih _ a b
  | stack k ih => exact fun a b => ih _ a b
  | thread k ih => exact fun a b => ih _ a b
  | load _ _ k ih => rintro p s ⟨o, e, a⟩ ⟨o2, e2, b⟩; cases e.symm.trans e2; exact ⟨o, e, ih _ a b⟩
  | genState _ k ih => rintro p s ⟨o, e, a⟩ ⟨o2, e2, b⟩; cases e.symm.trans e2; exact ⟨o, e, ih _ a b⟩
  | update _ _ _ k ih => exact fun ⟨e, a⟩ ⟨_, b⟩ => ⟨e, ih _ a b⟩
  | choose _ _ k ih => exact fun ⟨e, a⟩ ⟨_, b⟩ => ⟨e, ih _ a b⟩
  | call c h g l k ih =>
    rintro p s ⟨r, s1, e, a⟩ ⟨r2, s2, e2, b⟩
    obtain ⟨x, rfl⟩ := runs_one e e2
    cases x
    exact ⟨r, s1, e, ih _ a b⟩
  | resume g r l k ih =>
    rintro p s ⟨r, s1, e, a⟩ ⟨r2, s2, e2, b⟩
    obtain ⟨rfl, rfl⟩ := wakes_one e e2
    exact ⟨r, s1, e, ih _ a b⟩
section
open PySem.Spec PyProof.Rows
/-- the code of a try that has no finally, as its wp reads it -/
theorem wp_try_eq {M : Model} {C : PySem.Ctx} {env : Env} {b : Stmt} {rest orelse : List Stmt} {g : ExceptHandler} {gs : List ExceptHandler} {pos p : Pos} {s : Shared} {Q : Flow → Pos → Shared → Prop} {E : Value → Pos → Shared → Prop} :
    Sem.wp M C (exec (.Try (b :: rest) (g :: gs) orelse [] pos) env) Q E p s ↔
      Sem.wp M C (exec b env) (fun f q u => match f with
          | .next => Sem.wp M C (execs rest env) (fun f q u => match f with | .next => Sem.wp M C (execs orelse env) Q E q u | f => Q f q u) (fun e q u => Sem.wp M C (do noteFrame e env; setFlight e none; handleBy e env (g :: gs)) Q E q u) q u
          | f => Q f q u)
        (fun e q u => Sem.wp M C (do noteFrame e env; setFlight e none; handleBy e env (g :: gs)) Q E q u) pos s := by
  rw [arm_exec_Try, Sem.wp_bind', Sem.wp_cmd_standAt]
  unfold tryStmt
  simp only [List.isEmpty_nil, if_true, List.isEmpty_cons, Bool.false_and, Bool.false_eq_true, if_false, Sem.wp_bind', Sem.wp_attempt, execs_cons]
  constructor
  all_goals
    intro h
    refine Sem.wp_mono M C _ (fun f q u z => ?_) (fun _ _ _ z => z) _ _ h
    cases f with
    | next => refine Sem.wp_mono M C _ (fun f q u z => ?_) (fun _ _ _ z => z) _ _ z; cases f <;> exact z
    | _ => exact z
section
variable {X : Cx} {x n : Str} {c : Value} {i : Nat} {suite orelse : List Stmt} {b b₀ : Stmt} {np pos pos' : Pos} {tb : WX → TS} {ts : Addr → Value → Option Addr → TS} {u : TS} {Wout : WX}
/-- try: b / except x as n: .. / else: orelse. Two runs of what the library knows are laid one over the other: the try with the else's suite within its body (where it raises as the body does), and the body alone -/
theorem ps_try_asE (ho : PSs X orelse u) (hoi : ∀ (pn : List (Addr × Obj)) (xe : Value → Shared → Prop), PSs (X.tr pn xe) orelse u)
    (hs : X.stack = X.env :: X.outer) (hf : X.env.frame = some X.env.locals) (hN : X.N.Nodup) (hi : X.N[i]? = some n) (hln : X.env.kindOf n = some .local) (hc : Names X x c) (tk : Takes X Wout)
    (hb : ∀ (W : WX) (pn : List (Addr × Obj)) (xe : Value → Shared → Prop), Takes (X.tr pn xe) W → PassesOwn (model X.prog X.w) X.A X.env xe → PS (X.tr pn xe) b (tb W))
    (hsu : ∀ a oe cls d pn, Zc cls d oe → (∃ vs, oe.data = .fields vs) → PSs (X.suite a ((a, oe) :: pn)) (b₀ :: suite) (ts a cls d)) :
    PS X (.Try [b] [.ExceptHandler (some (.Name x np)) (some n) (b₀ :: suite) pos'] orelse [] pos) (fun D σ H => tb (wAs X.K c i ts Wout D) { D with nx := u D } σ H) := by
  refine ⟨fun pins s σ H D I h C p hC => ?_⟩
  have ok := I.ok
  have one := wp_try_eq.mp ((ps_try_as (body := b :: orelse) (pos := pos) (np := np) (pos' := pos') (tb := fun W => tSeq (tb W) u) hs hf hN hi hln hc tk (fun W pn xe t q => pss_cons (hb W pn xe t q) (hoi pn xe)) hsu).run pins s σ H D I h C p hC)
  have two := (hb (wAs X.K c i ts Wout D) (X.pn ++ pins) (fun e s1 => wpAny (model X.prog X.w) X.A (noteFrame e X.env) (fun _ s2 => wpAny (model X.prog X.w) X.A (setFlight e none) (fun _ _ => True) (fun _ _ => True) s2) (fun _ _ => True) s1)
    (fun e s1 z => by
      obtain ⟨a, B, sI, pI, σ1, H1, cl, d, rfl, _, _, _, sky, _⟩ := z
      exact Sky.land Zc.steady (ok.frames.trans (congrArg some hs)) hf (by rw [← hs]; exact sky) fun _ _ _ => trivial) PassesOwn.looking).run [] s σ H { D with nx := u D } (I.toTry _) h C pos hC
  refine wp_try_eq.mpr (Sem.wp_mono _ C _ (fun f q t z => ?_) (fun _ _ _ z => z.1) pos s (wp_twice _ one two))
  cases f with
  | next =>
    obtain ⟨_, σ1, H1, J, w⟩ := z
    exact ho.run pins t σ1 H1 D (J.ofTry ok) w C q hC
  | _ => exact z.1
end
end
/-- isinstance(e, c), e the caught error with its dict -/
def rIsE2 (K : PySem.W.Frag) (D a : Addr) (d : Option Addr) : List V → Hp → VK → Prop := fun xs H Q => ∃ (c : V) (cv : Value) (b : Bool) (dd : Addr) (fs : List (Str × V)), xs = [.ref a, c] ∧ (∀ u, RelV c u → u = cv) ∧ PySem.W.kitOne K (.ref D) cv = some b ∧ d = some dd ∧ H dd = some (.xd fs) ∧ Q (.bl b) H
theorem call_isE2 {X : Cx} {a D : Addr} {cls : Value} {oe : Obj} {d : Option Addr} {pn : List (Addr × Obj)} (C : ExcC X.K D) (hz : Zc cls d oe) (hf : ∃ vs, oe.data = .fields vs) : CallR (X.suite a ((a, oe) :: pn)) (.builtin "isinstance") (fun xs H Q => cls = .ref D ∧ rIsE2 X.K D a d xs H Q) := by
  intro pins s σ H xs us Q I r ⟨h1, c, cv, b, dd, fs, h2, h3, h4, h5, h6, q⟩
  subst h1 h2 h5
  match us, r with
  | [_, u2], .cons k1 (.cons k2 .nil) =>
    cases k1
    cases h3 u2 k2
    have ⟨vs, hv⟩ := hf
    have ⟨_, hns, _⟩ : ObjOk X.prog X.w H s.heap dd (.xd fs) := I.hok dd _ h6
    have ⟨od, ho, _⟩ := lookIn_ns hns
    have got := (I.pin (a, oe) (List.mem_append_left _ (List.mem_cons_self ..))).1
    have no : PySem.W.notCls oe = true := by unfold PySem.W.notCls; rw [hv] <;> rfl
    have ⟨cd, hcd, _⟩ := PySem.W.any_some C.hd
    exact PySem.W.kia_one (PySem.W.kitx_exc (by rw [hcd]; rfl) C.hg C.hk C.hs C.ha C.hn C.ht C.hm) I.kIn (⟨got, hz.1, no, by rw [hz.2]; exact ho⟩ : PySem.W.InstAt s.heap a oe D (some od)) h4 (fun z => nomatch z) fun tk => ⟨.bl b, H, I.kept (t' := tk) fun _ _ z => z, rfl, q⟩

end U
namespace U
open PySem L2
/-! the steps that need no word -/
local macro_rules | `(tactic| walk_at "h") => `(tactic| focus ((repeat (first | assumption | exact upd_same | (apply at_ne; rotate_left; (first | assumption | exact Ne.symm (by assumption))) | (apply at_new; rotate_left; assumption))); done))
local macro_rules | `(tactic| walk_at "go") => `(tactic| repeat (with_reducible first
  | refine Go.by_ ?_
  | (apply w_at; (first | assumption | exact upd_same))
  | (apply w_sqT; (first | assumption | exact SqT.of (by assumption) | exact SqT.of upd_same))
  | (apply w_sqL; (first | assumption | exact SqL.of (by assumption) | exact SqL.of upd_same))
  | (apply w_sqLT1; (first | assumption | exact SqL.of (by assumption) | exact SqL.of upd_same))
  | (apply w_sqLT2; (first | assumption | exact SqT.of (by assumption) | exact SqT.of upd_same))
  | (apply w_at; walk_at "h")
  | (apply w_sqT; focus (apply SqT.of; walk_at "h"))
  | (apply w_sqL; focus (apply SqL.of; walk_at "h"))
  | (apply w_sqLT1; focus (apply SqL.of; walk_at "h"))
  | (apply w_sqLT2; focus (apply SqT.of; walk_at "h"))
  | (apply w_strT; decide)
  | (apply w_strF; decide)
  | (apply w_gTupH; (with_unfolding_all rfl))
  | (apply w_ixA; (first | assumption | with_unfolding_all rfl))))
local macro_rules | `(tactic| walk_at "k") => `(tactic| ((try dsimp only [cxOf, Cx.nox, List.map_cons, List.map_nil]); refine w_start ?_))
/-! ## What the program tells -/
def spTold (A : Ad) : Sp := fun vs H Q _ => ∃ (c rl i : Addr) (code : List Row) (inputs : List Int) (rules : List (Str × Rl)) (us rs : List V) (L : List Ent), vs = [.ref c, .ref rl, .ref i] ∧ H c = some (.lst us) ∧ RowsAt H code us ∧ H i = some (.lst (inputs.map V.int)) ∧
  H rl = some (.lst rs) ∧ RulesIn H rules rs ∧ code.length ≤ 1000 ∧ Runs code (m0 inputs) L ∧ L.length ≤ 4000 ∧ (∀ x ∈ rules, x.2.Ok) ∧ rules.length ≤ 100 ∧ (∀ l h w n, Ent.deed l h w n ∈ L → w.length ≤ 100) ∧ (∀ l a b, Ent.tie l a b ∈ L → a ≠ b) ∧
  (due rules L = none → ∀ (t p : Addr) (vs : List V) (H' : Hp), Same H H' → H' t = some (.tup [.str "ended", .ref p]) → H' p = some (.lst vs) → EntsAt H' L vs → Q (.ref t) H') ∧
  (∀ k n y l h w z, due rules L = some (k, n, y) → L[k]? = some (.deed l h w z) → ∀ (t kt lh lr ll : Addr) (vs : List V) (H' : Hp), Same H H' → H' t = some (.tup [.str "stopped", .ref kt]) → H' kt = some (.tup [.str n, .int (l : Nat), .ref lh, .ref lr, .ref ll]) →
    H' lh = some (.lst (y.handles.map fun (a : Nat) => V.int (a : Nat))) → H' lr = some (.lst ((rowOf (L.take (k + 1)) y).map V.str)) → H' ll = some (.lst vs) → EntsAt H' (L.take k) vs → Q (.ref t) H')
instance {a : Addr} {cls : Value} {d : Option Addr} {C : Addr} {f : Str} {te : TE} {σ : L2.St} {H : Hp} {Q : VK} : Go (tXf a cls d C f te σ H Q) (te σ H fun x H1 => x = .ref a ∧ cls = .ref C ∧ ∃ (dd : Addr) (fs : List (Str × V)) (v : V), d = some dd ∧ H1 dd = some (.xd fs) ∧ fs.lookup f = some v ∧ Q v H1) := ⟨fun q => q⟩
instance {sp : Sp} {E : L2.St → XK} {t : TA} {σ : L2.St} {H : Hp} {Q : VK} : Go (tCallS sp E t σ H Q) (t σ H fun vs H1 => sp vs H1 Q (E σ)) := ⟨fun q => q⟩
theorem brF_rule (n : Str) (l : Nat) (lh lr ll : Addr) : (brF n l lh lr ll).lookup ("rule" : Str) = some (.str n) := by kernel_rfl
theorem brF_line (n : Str) (l : Nat) (lh lr ll : Addr) : (brF n l lh lr ll).lookup ("line" : Str) = some (.int (l : Nat)) := by kernel_rfl
theorem brF_handles (n : Str) (l : Nat) (lh lr ll : Addr) : (brF n l lh lr ll).lookup ("handles" : Str) = some (.ref lh) := by kernel_rfl
theorem brF_row (n : Str) (l : Nat) (lh lr ll : Addr) : (brF n l lh lr ll).lookup ("row" : Str) = some (.ref lr) := by kernel_rfl
theorem brF_log (n : Str) (l : Nat) (lh lr ll : Addr) : (brF n l lh lr ll).lookup ("log" : Str) = some (.ref ll) := by kernel_rfl
section
variable {P : Program} {w : World} {K : PySem.W.Frag} {mg : Str → Option Value} {base : Heap} {A : Ad} (T : Tx K mg A)
include T
theorem ok_law_told : FnOk P w K mg base CX0 6 A.f_law_told A.d_law_told ["_law_code", "_law_rules", "_law_inputs"] (spTold A) := by
  refine T.F_law_told.ok sc_law_told (fun vs H Q E h => ?_) (fun cdv A' outer s H vs Q E hr h => ?_)
  · obtain ⟨c, rl, i, code, inputs, rules, us, rs, L, rfl, _⟩ := h
    rfl
  have G_run_watched := ok_run_watched (P := P) (w := w) (base := base) T
  obtain ⟨c, rl, i, code, inputs, rules, us, rs, L, rfl, hc, hR, hi, hrl, hrs, hcl, hrun, hL, ok, hrn, hw, hab, q1, q2⟩ := h
  refine ⟨_, (pss_cons (ps_set (i := 3) sc_law_told.nd rfl (Or.inl rfl) pe_non)
    (pss_cons (ps_try_asE (i := 5) (c := .ref A.a_Breach) (pss_one (ps_ret (pe_tup (pa_cons pe_str (pa_cons (pv 4) pa_nil))))) (fun _ _ => pss_one (ps_ret (pe_tup (pa_cons pe_str (pa_cons (pv 4) pa_nil))))) rfl rfl sc_law_told.nd rfl rfl ⟨rfl, by decide, .inl T.m_Breach⟩ takes0
      (fun W pn xe tk po => (ps_set (i := 4) sc_law_told.nd rfl (Or.inl rfl) (pe_callS G_run_watched (hr.mono (by decide)) rfl T.m_run_watched T.F_run_watched.kp T.b_run_watched (fun σ => passAt tk σ) (pa_cons (pv 0) (pa_cons (pv 1) (pa_cons (pv 2) pa_nil))))))
      (fun a oe cls d pn hz hfz => pss_cons (ps_set (i := 3) sc_law_told.nd rfl (Or.inl rfl) (pe_tup (pa_cons (pe_xf T.xf_Breach T.xn_rule hz hfz (pv 5)) (pa_cons (pe_xf T.xf_Breach T.xn_line hz hfz (pv 5)) (pa_cons (pe_xf T.xf_Breach T.xn_handles hz hfz (pv 5)) (pa_cons (pe_xf T.xf_Breach T.xn_row hz hfz (pv 5)) (pa_cons (pe_xf T.xf_Breach T.xn_log hz hfz (pv 5)) pa_nil)))))))
        (pss_one (ps_if (PW.pt (pw_or (pt_not (pt_val (pe_callB (call_isE2 T.exc_Breach hz hfz) (by rfl) T.z_isinstance (by decide +kernel) (pa_cons (pv 5) (pa_cons (pe_glob (v := .ref A.a_UseError) rfl T.m_UseError rfl) pa_nil)))))
          (pw_or (pt_val (pe_callB (call_isE2 T.exc_Breach hz hfz) (by rfl) T.z_isinstance (by decide +kernel) (pa_cons (pv 5) (pa_cons (pe_glob (v := .ref A.a_TooGreat) rfl T.m_TooGreat rfl) pa_nil))))
          (pw_or1 (pt_val (pe_callB (call_isE2 T.exc_Breach hz hfz) (by rfl) T.z_isinstance (by decide +kernel) (pa_cons (pv 5) (pa_cons (pe_glob (v := .ref A.a_NoFit) rfl T.m_NoFit rfl) pa_nil))))))))
          (pss_one (ps_ret (pe_tup (pa_cons pe_str (pa_cons (pe_lst pa_nil) pa_nil))))) pss_nil))))
    (pss_one (ps_ret (pe_tup (pa_cons pe_str (pa_cons (pv 3) pa_nil))))))), ?_⟩
  walk_at "k"
  walk_at "go"
  refine ⟨c, rl, i, code, inputs, rules, us, rs, L, rfl, hc, hR, hi, hrl, hrs, hcl, hrun, hL, ok, hrn, hw, hab, fun hd p vs H1 s1 e1 he1 => ?_, fun k n y l h t z hd hk d lh lr ll vs H1 s1 ed e1 e2 e3 he3 => ?_⟩
  · walk_at "go"
    intro tp htp
    exact q1 hd tp p vs _ (s1.new htp) upd_same (at_new e1 htp) (he1.same (same_new htp))
  · refine ⟨true, T.xm_Breach, fun _ a ha => ?_, fun z => by cases z⟩
    rw [List.set_cons_succ, List.set_cons_succ, List.set_cons_succ, List.set_cons_succ, List.set_cons_succ, List.set_cons_zero]
    walk_at "go"
    refine ⟨rfl, rfl, d, _, _, rfl, ed, brF_rule .., ?_⟩
    walk_at "go"
    refine ⟨rfl, rfl, d, _, _, rfl, ed, brF_line .., ?_⟩
    walk_at "go"
    refine ⟨rfl, rfl, d, _, _, rfl, ed, brF_handles .., ?_⟩
    walk_at "go"
    refine ⟨rfl, rfl, d, _, _, rfl, ed, brF_row .., ?_⟩
    walk_at "go"
    refine ⟨rfl, rfl, d, _, _, rfl, ed, brF_log .., ?_⟩
    walk_at "go"
    intro kt hkt
    have ed2 := at_new (u := .tup [V.str n, .int (l : Nat), .ref lh, .ref lr, .ref ll]) ed hkt
    walk_at "go"
    refine ⟨rfl, .ref A.a_UseError, .ref A.a_UseError, true, d, _, rfl, fun u r => r, T.xk_UseError, rfl, ed2, ?_⟩
    walk_at "go"
    refine ifF rfl ?_
    walk_at "go"
    refine ⟨rfl, .ref A.a_TooGreat, .ref A.a_TooGreat, false, d, _, rfl, fun u r => r, T.xk_TooGreat, rfl, ed2, ?_⟩
    walk_at "go"
    refine ⟨rfl, .ref A.a_NoFit, .ref A.a_NoFit, false, d, _, rfl, fun u r => r, T.xk_NoFit, rfl, ed2, ?_⟩
    walk_at "go"
    rw [List.set_cons_succ, List.set_cons_succ, List.set_cons_succ, List.set_cons_succ, List.set_cons_succ, List.set_cons_zero]
    walk_at "go"
    intro tp htp
    have k2 : Same H1 (upd (upd H1 kt (.tup [V.str n, .int (l : Nat), .ref lh, .ref lr, .ref ll])) tp (.tup [.str "stopped", .ref kt])) := (same_new hkt).new htp
    exact q2 k n y l h t z hd hk tp kt lh lr ll vs _ (s1.trans k2) upd_same (at_new upd_same htp) (k2 _ _ e1) (k2 _ _ e2) (k2 _ _ e3) (he3.same k2)
end

end U
namespace U
open PySem L2
/-! the steps that need no word -/
local macro_rules | `(tactic| walk_at "h") => `(tactic| focus ((repeat (first | assumption | exact upd_same | (apply at_ne; rotate_left; (first | assumption | exact Ne.symm (by assumption))) | (apply at_new; rotate_left; assumption))); done))
local macro_rules | `(tactic| walk_at "go") => `(tactic| repeat (with_reducible first
  | refine Go.by_ ?_
  | (apply w_at; (first | assumption | exact upd_same))
  | (apply w_sqT; (first | assumption | exact SqT.of (by assumption) | exact SqT.of upd_same))
  | (apply w_sqL; (first | assumption | exact SqL.of (by assumption) | exact SqL.of upd_same))
  | (apply w_sqLT1; (first | assumption | exact SqL.of (by assumption) | exact SqL.of upd_same))
  | (apply w_sqLT2; (first | assumption | exact SqT.of (by assumption) | exact SqT.of upd_same))
  | (apply w_at; walk_at "h")
  | (apply w_sqT; focus (apply SqT.of; walk_at "h"))
  | (apply w_sqL; focus (apply SqL.of; walk_at "h"))
  | (apply w_sqLT1; focus (apply SqL.of; walk_at "h"))
  | (apply w_sqLT2; focus (apply SqT.of; walk_at "h"))
  | (apply w_strT; decide)
  | (apply w_strF; decide)
  | (apply w_gTupH; (with_unfolding_all rfl))
  | (apply w_ixA; (first | assumption | with_unfolding_all rfl))))
local macro_rules | `(tactic| walk_at "k") => `(tactic| ((try dsimp only [cxOf, Cx.nox, List.map_cons, List.map_nil]); refine w_start ?_))
/-! ## The law's comparing -/
open RZ
theorem w_forZL {K : PySem.W.Frag} {σ : L2.St} {H : Hp} {g : TG} {tb : TS} {a b : Addr} {xs ys : List V} {nn bb cc : L2.St → Hp → Prop} {rr : VK} (hlen : xs.length = ys.length) (Pv : Nat → L2.St → Hp → Prop) (h0 : Pv 0 σ H) (hl : ∀ i σ H, Pv i σ H → SqL K H a xs ∧ SqL K H b ys)
    (hs : ∀ (i : Nat) (x y : V) (T : Addr) (σ : L2.St) (H : Hp), xs[i]? = some x → ys[i]? = some y → Pv i σ H → H T = none → g (.ref T) σ (upd H T (.tup [x, y])) fun σ2 H2 => tb ⟨Pv (i + 1), rr, nn, Pv (i + 1)⟩ σ2 H2)
    (hd : ∀ σ H, Pv xs.length σ H → nn σ H) : forR g tb ⟨nn, rr, bb, cc⟩ σ (Itz K a b) H := for_zipL (D := ⟨nn, rr, bb, cc⟩) hlen Pv h0 hl hs hd
theorem w_forZT {K : PySem.W.Frag} {σ : L2.St} {H : Hp} {g : TG} {tb : TS} {a b : Addr} {xs ys : List V} {nn bb cc : L2.St → Hp → Prop} {rr : VK} (hlen : xs.length = ys.length) (Pv : Nat → L2.St → Hp → Prop) (h0 : Pv 0 σ H) (hl : ∀ i σ H, Pv i σ H → SqT K H a xs ∧ SqT K H b ys)
    (hs : ∀ (i : Nat) (x y : V) (T : Addr) (σ : L2.St) (H : Hp), xs[i]? = some x → ys[i]? = some y → Pv i σ H → H T = none → g (.ref T) σ (upd H T (.tup [x, y])) fun σ2 H2 => tb ⟨Pv (i + 1), rr, nn, Pv (i + 1)⟩ σ2 H2)
    (hd : ∀ σ H, Pv xs.length σ H → nn σ H) : forR g tb ⟨nn, rr, bb, cc⟩ σ (ItzT K a b) H := for_zipT (D := ⟨nn, rr, bb, cc⟩) hlen Pv h0 hl hs hd
def zipAR (K : PySem.W.Frag) (R : It → Hp → Prop) (vs : List V) (H1 : Hp) : Prop := ∃ a b xs ys, vs = [.ref a, .ref b] ∧ ((SqL K H1 a xs ∧ SqL K H1 b ys ∧ R (Itz K a b) H1) ∨ (SqT K H1 a xs ∧ SqT K H1 b ys ∧ R (ItzT K a b) H1))
instance {K : PySem.W.Frag} {ta : TA} {σ : L2.St} {H : Hp} {R : It → Hp → Prop} : Go (iZipA K ta σ H R) (ta σ H fun vs H1 => zipAR K R vs H1) := ⟨fun q => q⟩
def spWhole : Sp := fun vs H Q _ => ∃ i : Int, vs = [.int i] ∧ Q (.bl true) H
def spIsLog : Sp := fun vs H Q _ => ∃ (p q : Addr) (us ws : List V) (L : List Ent), vs = [.ref p, .ref q] ∧ H p = some (.lst us) ∧ EntsAt H L us ∧ H q = some (.lst ws) ∧ EntsAt H L ws ∧ ∀ H', Same H H' → Q (.bl true) H'
theorem entV_flat (e : Ent) : ∀ v ∈ entV e, (∃ i, v = V.int i) ∨ ∃ x, v = V.str x := by
  cases e with
  | deed l h t n =>
    intro v hv
    simp [entV] at hv
    rcases hv with rfl | rfl | rfl | rfl
    · exact .inl ⟨_, rfl⟩
    · exact .inl ⟨_, rfl⟩
    · exact .inr ⟨_, rfl⟩
    · exact .inl ⟨_, rfl⟩
  | tie l a b =>
    intro v hv
    simp [entV] at hv
    rcases hv with rfl | rfl | rfl <;> exact .inl ⟨_, rfl⟩
section
variable {P : Program} {w : World} {K : PySem.W.Frag} {mg : Str → Option Value} {base : Heap} {A : Ad} (T : Tx K mg A)
include T
theorem ok_law_whole : FnOk P w K mg base CX0 1 A.f_law_whole A.d_law_whole ["_law_found"] spWhole := by
  refine T.F_law_whole.ok sc_law_whole (fun vs H Q E h => ?_) (fun cdv A' outer s H vs Q E hr h => ?_)
  · obtain ⟨i, rfl, _⟩ := h
    rfl
  obtain ⟨i, rfl, q⟩ := h
  refine ⟨_, (pss_one (ps_ret (pe_and (pe_callB call_isi (by rfl) T.z_isinstance (by decide +kernel) (pa_cons (pv 0) (pa_cons (pe_bltn (v := .ty "int") rfl T.z_int (by decide +kernel) rfl) pa_nil))) (pe_one (pe_not (pe_callB call_isi (by rfl) T.z_isinstance (by decide +kernel) (pa_cons (pv 0) (pa_cons (pe_bltn (v := .ty "bool") rfl T.z_bool (by decide +kernel) rfl) pa_nil)))))))), ?_⟩
  walk_at "k"
  walk_at "go"
  refine w_isi (.base (.int i)) rfl ?_
  walk_at "go"
  refine w_isi (.base (.int i)) rfl ?_
  walk_at "go"
  exact q
theorem ok_law_is_log : FnOk P w K mg base CX0 2 A.f_law_is_log A.d_law_is_log ["_law_found", "_law_due_here"] spIsLog := by
  refine T.F_law_is_log.ok sc_law_is_log (fun vs H Q E h => ?_) (fun cdv A' outer s H vs Q E hr h => ?_)
  · obtain ⟨p, q, us, ws, L, rfl, _⟩ := h
    rfl
  have G_law_whole := ok_law_whole (P := P) (w := w) (base := base) T
  obtain ⟨p, q, us, ws, L, rfl, hp, hE, hq, hW, q1⟩ := h
  have elen : us.length = ws.length := by rw [hE.len, hW.len]
  refine ⟨_, (pss_cons (ps_if (PW.pt (pw_or (pt_not (pt_val (pe_callB call_isi (by rfl) T.z_isinstance (by decide +kernel) (pa_cons (pv 0) (pa_cons (pe_bltn (v := .ty "list") rfl T.z_list (by decide +kernel) rfl) pa_nil))))) (pw_or1 (pt_cmpR op_ne (pe_callB call_len_seq (by rfl) T.z_len PySem.boot_len (pa_cons (pv 0) pa_nil)) (pe_callB call_len_seq (by rfl) T.z_len PySem.boot_len (pa_cons (pv 1) pa_nil)) (nomark _))))) (pss_one (ps_ret pe_bl)) pss_nil)
    (pss_cons (ps_for PassesOwn.never rfl (pi_zipA (by rfl) T.z_zip (pa_cons (pv 0) (pa_cons (pv 1) pa_nil))) (pg_tup rfl (pgs_cons (pg_name (i := 2) sc_law_is_log.nd rfl (Or.inl rfl)) (pgs_cons (pg_name (i := 3) sc_law_is_log.nd rfl (Or.inl rfl)) pgs_nil))) (pss_cons (ps_if (PW.pt (pw_or (pt_not (pt_val (pe_callB call_isi (by rfl) T.z_isinstance (by decide +kernel) (pa_cons (pv 2) (pa_cons (pe_bltn (v := .ty "tuple") rfl T.z_tuple (by decide +kernel) rfl) pa_nil))))) (pw_or1 (pt_cmpR op_ne (pe_callB call_len_seq (by rfl) T.z_len PySem.boot_len (pa_cons (pv 2) pa_nil)) (pe_callB call_len_seq (by rfl) T.z_len PySem.boot_len (pa_cons (pv 3) pa_nil)) (nomark _))))) (pss_one (ps_ret pe_bl)) pss_nil)
      (pss_one (ps_for PassesOwn.never rfl (pi_zipA (by rfl) T.z_zip (pa_cons (pv 2) (pa_cons (pv 3) pa_nil))) (pg_tup rfl (pgs_cons (pg_name (i := 4) sc_law_is_log.nd rfl (Or.inl rfl)) (pgs_cons (pg_name (i := 5) sc_law_is_log.nd rfl (Or.inl rfl)) pgs_nil))) (pss_one (ps_if (PW.pt (pw_or (PW.pt (pw_and (pt_val (pe_callB call_isi (by rfl) T.z_isinstance (by decide +kernel) (pa_cons (pv 5) (pa_cons (pe_bltn (v := .ty "int") rfl T.z_int (by decide +kernel) rfl) pa_nil)))) (pw_and1 (pt_not (pt_val (pe_call G_law_whole (hr.mono (by decide)) rfl T.m_law_whole T.F_law_whole.kp T.b_law_whole .nil pass0 (pa_cons (pv 4) pa_nil))))))) (pw_or1 (pt_cmpR op_ne (pv 4) (pv 5) (nomark _))))) (pss_one (ps_ret pe_bl)) pss_nil))))))
    (pss_one (ps_ret pe_bl)))), ?_⟩
  walk_at "k"
  walk_at "go"
  refine w_isi (.base (.lst hp)) rfl ?_
  walk_at "go"
  refine ifF rfl ?_
  walk_at "go"
  refine ifF (by simp [elen]) ?_
  walk_at "go"
  refine ⟨p, q, us, ws, rfl, .inl ⟨SqL.of hp, SqL.of hq, ?_⟩⟩
  refine w_forZL elen (fun i σ H' => ∃ v2 v3 v4 v5 : Option V, σ = [some (.ref p), some (.ref q), v2, v3, v4, v5] ∧ Same H H') ⟨_, _, _, _, rfl, Same.refl _⟩ (fun i σ H' ⟨_, _, _, _, _, s1⟩ => ⟨SqL.of (s1 _ _ hp), SqL.of (s1 _ _ hq)⟩) ?_ ?_
  · rintro i x y t σ H1 hx hy ⟨v2, v3, v4, v5, rfl, s1⟩ ht
    obtain ⟨e, he, a, rfl, ha⟩ := hE.at_ i x hx
    obtain ⟨e', he', b, rfl, hb⟩ := hW.at_ i y hy
    rw [he] at he'
    cases he'
    have s2 : Same H (upd H1 t (.tup [.ref a, .ref b])) := s1.new ht
    have ha2 := s2 _ _ ha
    have hb2 := s2 _ _ hb
    have ht2 : upd H1 t (.tup [.ref a, .ref b]) t = some (.tup [.ref a, .ref b]) := upd_same
    generalize upd H1 t (.tup [.ref a, .ref b]) = H2 at s2 ha2 hb2 ht2 ⊢
    walk_at "go"
    refine w_isi (.base (.tup ha2)) rfl ?_
    walk_at "go"
    refine ifF rfl ?_
    walk_at "go"
    refine ifF (by simp) ?_
    walk_at "go"
    refine ⟨a, b, _, _, rfl, .inr ⟨SqT.of ha2, SqT.of hb2, ?_⟩⟩
    refine w_forZT rfl (fun j σ H' => ∃ v4 v5 : Option V, σ = [some (.ref p), some (.ref q), some (.ref a), some (.ref b), v4, v5] ∧ Same H2 H') ⟨_, _, rfl, Same.refl _⟩ (fun i σ H' ⟨_, _, _, s3⟩ => ⟨SqT.of (s3 _ _ ha2), SqT.of (s3 _ _ hb2)⟩) ?_ ?_
    · rintro j x y t' σ H3 hx hy ⟨v4, v5, rfl, s3⟩ ht'
      rw [hx] at hy
      cases hy
      have s4 : Same H2 (upd H3 t' (.tup [x, x])) := s3.new ht'
      rcases entV_flat e x (List.mem_of_getElem? hx) with ⟨n, rfl⟩ | ⟨n, rfl⟩
      · walk_at "go"
        refine w_isi (.base (.int n)) rfl ?_
        walk_at "go"
        refine ⟨n, rfl, ?_⟩
        walk_at "go"
        refine ifF rfl ?_
        walk_at "go"
        refine ifF (by simp) ?_
        walk_at "go"
        exact ⟨_, _, rfl, s4⟩
      · walk_at "go"
        refine w_isi (r := false) (.base (.str n)) rfl ?_
        walk_at "go"
        refine ifF (by simp) ?_
        walk_at "go"
        exact ⟨_, _, rfl, s4⟩
    · rintro σ H3 ⟨v4, v5, rfl, s3⟩
      exact ⟨_, _, _, _, rfl, s2.trans s3⟩
  · rintro σ H1 ⟨v2, v3, v4, v5, rfl, s1⟩
    walk_at "go"
    exact q1 H1 s1
end
theorem dp_ints (K : PySem.W.Frag) (H : Hp) : ∀ l : List Int, DpAll K H (l.map V.int) (l.map PyData.int)
  | [] => .nil
  | x :: l => .cons (.int x) (dp_ints K H l)
theorem dp_strs (K : PySem.W.Frag) (H : Hp) : ∀ l : List Str, DpAll K H (l.map V.str) (l.map PyData.str)
  | [] => .nil
  | x :: l => .cons (.str x) (dp_strs K H l)
/-- what was told, against what is due -/
theorem lay_ints : ∀ l : List Int, PyData.canLayAll0 (l.map PyData.int) = true
  | [] => rfl
  | x :: l => by
    show (PyData.canLay0 (.int x) && PyData.canLayAll0 (l.map PyData.int)) = true
    rw [lay_ints l]; rfl
theorem lay_strs : ∀ l : List Str, (∀ x ∈ l, PyData.strOk x = true) → PyData.canLayAll0 (l.map PyData.str) = true
  | [], _ => rfl
  | x :: l, h => by
    show (PyData.strOk x && PyData.canLayAll0 (l.map PyData.str)) = true
    rw [lay_strs l fun y hy => h y (List.mem_cons_of_mem _ hy), h x List.mem_cons_self]; rfl
theorem dep_ints : ∀ l : List Int, PyData.depthAll (l.map PyData.int) = 0
  | [] => rfl
  | x :: l => by
    show max 0 (PyData.depthAll (l.map PyData.int)) = 0
    rw [dep_ints l]; rfl
theorem dep_strs : ∀ l : List Str, PyData.depthAll (l.map PyData.str) = 0
  | [] => rfl
  | x :: l => by
    show max 0 (PyData.depthAll (l.map PyData.str)) = 0
    rw [dep_strs l]; rfl
theorem lay_told {n : Str} {l : Int} {a : List Int} {b : List Str} (hn : PyData.strOk n = true) (hb : ∀ x ∈ b, PyData.strOk x = true) : PyData.canLay0 (.tuple [.str n, .int l, .list (a.map PyData.int), .list (b.map PyData.str)]) = true := by
  show (PyData.strOk n && (true && (PyData.canLayAll0 (a.map PyData.int) && (PyData.canLayAll0 (b.map PyData.str) && true)))) = true
  rw [hn, lay_ints, lay_strs b hb]; rfl
theorem sh_told {n : Str} {l : Int} {a : List Int} {b : List Str} (hn : PyData.strOk n = true) (hb : ∀ x ∈ b, PyData.strOk x = true) : SeqAt.shaped (.tuple [.str n, .int l, .list (a.map PyData.int), .list (b.map PyData.str)]) = true := by
  refine Bool.and_eq_true_iff.mpr ⟨lay_told hn hb, decide_eq_true ?_⟩
  show max 0 (max 0 (max (PyData.depthAll (a.map PyData.int) + 1) (max (PyData.depthAll (b.map PyData.str) + 1) 0))) + 1 ≤ 64
  rw [dep_ints, dep_strs]
  decide
def spAsDue : Sp := fun vs H Q _ => ∃ (t lg : Addr) (L : List Ent) (us : List V) (dv : V), vs = [.ref t, .ref lg, dv] ∧ H lg = some (.lst us) ∧ EntsAt H L us ∧
  ((dv = .non ∧ ∃ p ws, H t = some (.tup [.str "ended", .ref p]) ∧ H p = some (.lst ws) ∧ EntsAt H L ws) ∨
   (∃ (dp hp rp kt lh lr ll : Addr) (k l h : Nat) (x : Str) (z : Int) (n : Str) (hs : List Nat) (row : List Str) (ws : List V), dv = .ref dp ∧ H dp = some (.tup [.int (k : Nat), .str n, .ref hp, .ref rp]) ∧ H hp = some (.lst (hs.map fun (a : Nat) => V.int (a : Nat))) ∧ H rp = some (.lst (row.map V.str)) ∧
      L[k]? = some (.deed l h x z) ∧ H t = some (.tup [.str "stopped", .ref kt]) ∧ H kt = some (.tup [.str n, .int (l : Nat), .ref lh, .ref lr, .ref ll]) ∧ H lh = some (.lst (hs.map fun (a : Nat) => V.int (a : Nat))) ∧ H lr = some (.lst (row.map V.str)) ∧ H ll = some (.lst ws) ∧ EntsAt H (L.take k) ws ∧ PyData.strOk n = true ∧ ∀ x ∈ row, PyData.strOk x = true)) ∧
  ∀ H', Same H H' → Q (.bl true) H'
section
variable {P : Program} {w : World} {K : PySem.W.Frag} {mg : Str → Option Value} {base : Heap} {A : Ad} (T : Tx K mg A)
include T
theorem ok_law_as_due : FnOk P w K mg base CX0 3 A.f_law_as_due A.d_law_as_due ["_law_told_here", "_law_log_here", "_law_due_here"] spAsDue := by
  refine T.F_law_as_due.ok sc_law_as_due (fun vs H Q E h => ?_) (fun cdv A' outer s H vs Q E hr h => ?_)
  · obtain ⟨t, lg, L, us, dv, rfl, _⟩ := h
    rfl
  have G_law_whole := ok_law_whole (P := P) (w := w) (base := base) T
  have G_law_is_log := ok_law_is_log (P := P) (w := w) (base := base) T
  obtain ⟨t, lg, L, us, dv, rfl, hlg, hE, hcase, q⟩ := h
  refine ⟨_, (pss_cons (ps_if (pt_cmpR op_isN (pv 2) pe_non (nomark _)) (pss_one (ps_ret (pe_and (pe_cmpR op_eq (pe_ix ix_tup (pv 0) pe_int (fun _ _ => rfl)) pe_str (nomark _)) (pe_one (pe_call G_law_is_log (hr.mono (by decide)) rfl T.m_law_is_log T.F_law_is_log.kp T.b_law_is_log .nil pass0 (pa_cons (pe_ix ix_tup (pv 0) pe_int (fun _ _ => rfl)) (pa_cons (pv 1) pa_nil))))))) pss_nil)
    (pss_cons (ps_if (PW.pt (pw_or (pt_cmpR op_ne (pe_ix ix_tup (pv 0) pe_int (fun _ _ => rfl)) pe_str (nomark _)) (pw_or (pt_not (pt_val (pe_callB call_isi (by rfl) T.z_isinstance (by decide +kernel) (pa_cons (pe_ix ix_tup (pe_ix ix_tup (pv 0) pe_int (fun _ _ => rfl)) pe_int (fun _ _ => rfl)) (pa_cons (pe_bltn (v := .ty "str") rfl T.z_str (by decide +kernel) rfl) pa_nil))))) (pw_or1 (pt_not (pt_val (pe_call G_law_whole (hr.mono (by decide)) rfl T.m_law_whole T.F_law_whole.kp T.b_law_whole .nil pass0 (pa_cons (pe_ix ix_tup (pe_ix ix_tup (pv 0) pe_int (fun _ _ => rfl)) pe_int (fun _ _ => rfl)) pa_nil)))))))) (pss_one (ps_ret pe_bl)) pss_nil)
    (pss_cons (ps_if (PW.pt (pw_or (pt_not (pt_val (pe_callB call_isi (by rfl) T.z_isinstance (by decide +kernel) (pa_cons (pe_ix ix_tup (pe_ix ix_tup (pv 0) pe_int (fun _ _ => rfl)) pe_int (fun _ _ => rfl)) (pa_cons (pe_bltn (v := .ty "list") rfl T.z_list (by decide +kernel) rfl) pa_nil))))) (pw_or1 (pt_not (pt_val (pe_callB call_isi (by rfl) T.z_isinstance (by decide +kernel) (pa_cons (pe_ix ix_tup (pe_ix ix_tup (pv 0) pe_int (fun _ _ => rfl)) pe_int (fun _ _ => rfl)) (pa_cons (pe_bltn (v := .ty "list") rfl T.z_list (by decide +kernel) rfl) pa_nil)))))))) (pss_one (ps_ret pe_bl)) pss_nil)
    (pss_cons (ps_if (pt_cmpR (op_neD hr.units) (pe_lc (own := [("_law_handle", 3)]) (g := gName 3) rfl sc_law_as_due.nd (pi_list (pe_ix ix_tup (pe_ix ix_tup (pv 0) pe_int (fun _ _ => rfl)) pe_int (fun _ _ => rfl))) (blkOk_by (own := [("_law_handle", 3)]) (N := ["_law_told_here", "_law_log_here", "_law_due_here", "_law_handle"]) (sc := defScope st_law_as_due) (by decide +kernel)) (fun _ _ _ _ _ => pg_name (i := 3) sc_law_as_due.nd rfl (Or.inl rfl)) (fun _ _ _ _ _ => pts_one (pt_not (pt_val (pe_call G_law_whole (hr.mono (by decide)) rfl T.m_law_whole T.F_law_whole.kp T.b_law_whole .nil pass0 (pa_cons (pv 3) pa_nil))))) (fun _ _ _ _ _ => (pv 3))) (pe_lst pa_nil) (nomark _)) (pss_one (ps_ret pe_bl)) pss_nil)
    (pss_cons (ps_if (pt_cmpR (op_neD hr.units) (pe_slice sl_tup (pe_ix ix_tup (pv 0) pe_int (fun _ _ => rfl)) po_none (po_some pe_int)) (pe_tup (pa_cons (pe_ix ix_tup (pv 2) pe_int (fun _ _ => rfl)) (pa_cons (pe_ix ix_tup (pe_ix ix_list (pv 1) (pe_ix ix_tup (pv 2) pe_int (fun _ _ => rfl)) (fun _ _ => rfl)) pe_int (fun _ _ => rfl)) (pa_cons (pe_ix ix_tup (pv 2) pe_int (fun _ _ => rfl)) (pa_cons (pe_ix ix_tup (pv 2) pe_int (fun _ _ => rfl)) pa_nil))))) (nomark _)) (pss_one (ps_ret pe_bl)) pss_nil)
    (pss_one (ps_ret (pe_call G_law_is_log (hr.mono (by decide)) rfl T.m_law_is_log T.F_law_is_log.kp T.b_law_is_log .nil pass0 (pa_cons (pe_ix ix_tup (pe_ix ix_tup (pv 0) pe_int (fun _ _ => rfl)) pe_int (fun _ _ => rfl)) (pa_cons (pe_slice sl_list (pv 1) po_none (po_some (pe_ix ix_tup (pv 2) pe_int (fun _ _ => rfl)))) pa_nil)))))))))), ?_⟩
  walk_at "k"
  rcases hcase with ⟨rfl, p, ws, ht, hp, hW⟩ | ⟨dp, hp, rp, kt, lh, lr, ll, k, l, h, x, z, n, hs, row, ws, rfl, hdp, hhp, hrp, hk, ht, hkt, hlh, hlr, hll, hW, okn, okr⟩
  · walk_at "go"
    refine ifT rfl ?_
    walk_at "go"
    refine ⟨p, lg, ws, us, L, rfl, hp, hW, hlg, hE, fun H1 s1 => ?_⟩
    walk_at "go"
    exact q H1 s1
  · obtain ⟨v, hv, a, rfl, ha⟩ := hE.get hk
    have hv2 : atI us (k : Int) = some (.ref a) := atI_nat hv
    have ha2 : H a = some (.tup [.int (l : Nat), .int (h : Nat), .str x, .int z]) := ha
    walk_at "go"
    refine ifF (by simp) ?_
    walk_at "go"
    refine ifF (by simp) ?_
    walk_at "go"
    refine w_isi (r := true) (.base (.str n)) rfl ?_
    walk_at "go"
    refine ifF rfl ?_
    walk_at "go"
    refine ⟨_, rfl, ?_⟩
    walk_at "go"
    refine ifF rfl ?_
    walk_at "go"
    refine w_isi (r := true) (.base (.lst hlh)) rfl ?_
    walk_at "go"
    refine ifF rfl ?_
    walk_at "go"
    refine w_isi (r := true) (.base (.lst hlr)) rfl ?_
    walk_at "go"
    refine ifF rfl ?_
    walk_at "go"
    refine w_lcL (xs := hs.map fun (a : Nat) => V.int (a : Nat)) fun z1 hz1 => ⟨fun i H' => Same H H' ∧ H' z1 = some (.lst []), ⟨same_new hz1, upd_same⟩, fun i H' ⟨s1, _⟩ => SqL.of (s1 _ _ hlh), fun i v H' hi ⟨s1, e1⟩ => ?_, fun H1 ⟨s1, e1⟩ => ?_⟩
    · obtain ⟨a', ha', rfl⟩ : ∃ a', hs[i]? = some a' ∧ V.int (a' : Nat) = v := by
        rw [List.getElem?_map] at hi
        cases e : hs[i]? with
        | none => rw [e] at hi; cases hi
        | some x => rw [e] at hi; cases hi; exact ⟨_, rfl, rfl⟩
      walk_at "go"
      refine ⟨rfl, ?_⟩
      walk_at "go"
      refine ⟨_, rfl, ?_⟩
      walk_at "go"
      refine ifF rfl ?_
      exact ⟨s1, e1⟩
    · walk_at "go"
      intro z2 hz2
      refine ⟨.list [], .list [], .lst (SqL.of (at_new e1 hz2)) .nil, .lst (SqL.of upd_same) .nil, rfl, rfl, ?_⟩
      have s2 := s1.new (o := .lst []) hz2
      generalize upd H1 z2 (.lst []) = H2 at s2 ⊢
      have ht2 := s2 _ _ ht
      have hkt2 := s2 _ _ hkt
      have hdp2 := s2 _ _ hdp
      have hlg2 := s2 _ _ hlg
      have ha3 := s2 _ _ ha2
      walk_at "go"
      refine ifF rfl ?_
      walk_at "go"
      refine ⟨kt, _, rfl, SqT.of hkt2, fun z => ?_, fun z3 hz3 => ?_⟩
      · have := z.2
        rw [show (4 : Int) = ((4 : Nat) : Int) from rfl, HT.sIx_nat] at this
        simp at this
      rw [show (4 : Int) = ((4 : Nat) : Int) from rfl, cutV_take, show [V.str n, V.int (l : Nat), V.ref lh, V.ref lr, V.ref ll].take 4 = [V.str n, V.int (l : Nat), V.ref lh, V.ref lr] from rfl]
      have s3 := s2.new (o := .tup [V.str n, V.int (l : Nat), V.ref lh, V.ref lr]) hz3
      have h3 : upd H2 z3 (.tup [V.str n, V.int (l : Nat), V.ref lh, V.ref lr]) z3 = some (.tup [V.str n, V.int (l : Nat), V.ref lh, V.ref lr]) := upd_same
      have k23 : Same H2 (upd H2 z3 (.tup [V.str n, V.int (l : Nat), V.ref lh, V.ref lr])) := same_new hz3
      generalize upd H2 z3 (.tup [V.str n, V.int (l : Nat), V.ref lh, V.ref lr]) = H3 at s3 h3 k23 ⊢
      have hdp3 := k23 _ _ hdp2
      have hlg3 := k23 _ _ hlg2
      have ha4 := k23 _ _ ha3
      walk_at "go"
      intro z4 hz4
      have s4 := s3.new (o := .tup [V.str n, V.int (l : Nat), V.ref hp, V.ref rp]) hz4
      have h44 : upd H3 z4 (.tup [V.str n, V.int (l : Nat), V.ref hp, V.ref rp]) z4 = some (.tup [V.str n, V.int (l : Nat), V.ref hp, V.ref rp]) := upd_same
      have h34 := at_new (u := .tup [V.str n, V.int (l : Nat), V.ref hp, V.ref rp]) h3 hz4
      generalize upd H3 z4 (.tup [V.str n, V.int (l : Nat), V.ref hp, V.ref rp]) = H4 at s4 h44 h34 ⊢
      have ehs : (hs.map fun (a : Nat) => V.int (a : Nat)) = (hs.map fun (a : Nat) => (a : Int)).map V.int := by rw [List.map_map]; rfl
      refine ⟨.tuple [.str n, .int (l : Nat), .list ((hs.map fun (a : Nat) => (a : Int)).map PyData.int), .list (row.map PyData.str)], .tuple [.str n, .int (l : Nat), .list ((hs.map fun (a : Nat) => (a : Int)).map PyData.int), .list (row.map PyData.str)],
        .tup (SqT.of h34) (.cons (.str n) (.cons (.int _) (.cons (.lst (SqL.of (s4 _ _ hlh)) (by rw [ehs]; exact dp_ints _ _ _)) (.cons (.lst (SqL.of (s4 _ _ hlr)) (dp_strs _ _ _)) .nil)))),
        .tup (SqT.of h44) (.cons (.str n) (.cons (.int _) (.cons (.lst (SqL.of (s4 _ _ hhp)) (by rw [ehs]; exact dp_ints _ _ _)) (.cons (.lst (SqL.of (s4 _ _ hrp)) (dp_strs _ _ _)) .nil)))), sh_told okn okr, sh_told okn okr, ?_⟩
      have heqv : PyData.eqv (.tuple [.str n, .int (l : Nat), .list ((hs.map fun (a : Nat) => (a : Int)).map PyData.int), .list (row.map PyData.str)]) (.tuple [.str n, .int (l : Nat), .list ((hs.map fun (a : Nat) => (a : Int)).map PyData.int), .list (row.map PyData.str)]) = true := SeqAt.eqv_refl _ (lay_told okn okr)
      rw [heqv]
      have ht4 := s4 _ _ ht
      have hkt4 := s4 _ _ hkt
      have hdp4 := s4 _ _ hdp
      have hlg4 := s4 _ _ hlg
      walk_at "go"
      refine ifF rfl ?_
      walk_at "go"
      intro z5 hz5
      rw [show some ((k : Nat) : Int) = some ((k : Nat) : Int) from rfl, cutV_take]
      have s5 := s4.new (o := .lst (us.take k)) hz5
      refine ⟨ll, z5, ws, us.take k, L.take k, rfl, s5 _ _ hll, hW.same s5, upd_same, (hE.take k).mono fun e v p => p.same s5, fun H6 s6 => ?_⟩
      exact q H6 (s5.trans s6)
end

end U
namespace U
open PySem L2
/-! the steps that need no word -/
local macro_rules | `(tactic| walk_at "h") => `(tactic| focus ((repeat (first | assumption | exact upd_same | (apply at_ne; rotate_left; (first | assumption | exact Ne.symm (by assumption))) | (apply at_new; rotate_left; assumption))); done))
local macro_rules | `(tactic| walk_at "go") => `(tactic| repeat (with_reducible first
  | refine Go.by_ ?_
  | (apply w_at; (first | assumption | exact upd_same))
  | (apply w_sqT; (first | assumption | exact SqT.of (by assumption) | exact SqT.of upd_same))
  | (apply w_sqL; (first | assumption | exact SqL.of (by assumption) | exact SqL.of upd_same))
  | (apply w_sqLT1; (first | assumption | exact SqL.of (by assumption) | exact SqL.of upd_same))
  | (apply w_sqLT2; (first | assumption | exact SqT.of (by assumption) | exact SqT.of upd_same))
  | (apply w_at; walk_at "h")
  | (apply w_sqT; focus (apply SqT.of; walk_at "h"))
  | (apply w_sqL; focus (apply SqL.of; walk_at "h"))
  | (apply w_sqLT1; focus (apply SqL.of; walk_at "h"))
  | (apply w_sqLT2; focus (apply SqT.of; walk_at "h"))
  | (apply w_strT; decide)
  | (apply w_strF; decide)
  | (apply w_gTupH; (with_unfolding_all rfl))
  | (apply w_ixA; (first | assumption | with_unfolding_all rfl))))
local macro_rules | `(tactic| walk_at "k") => `(tactic| ((try dsimp only [cxOf, Cx.nox, List.map_cons, List.map_nil]); refine w_start ?_))
/-! ## Drawn numbers and words -/
def mixZ (c k : Int) : Int := ((((c % 2147483647 + 7919 * k * k + k) * 48271) % 2147483647) * (((c % 2147483647 + 7919 * k * k + k) * 48271) % 2147483647)) % 1000003
theorem mixZ_pos (c k : Int) : 0 ≤ mixZ c k := Int.emod_nonneg _ (by decide)
theorem mixZ_lt (c k : Int) : mixZ c k < 1000003 := Int.emod_lt_of_pos _ (by decide)
def sizeZ (c : Int) : Nat := (1 + c % 8).toNat
def placeZ (c : Int) : Nat := (c / 8 % (1 + c % 8)).toNat
def ltrZ (c : Int) (k j : Nat) : Nat := ((mixZ c (j : Nat) + 5 * (k : Nat) * (if j = placeZ c then 1 else 0)) % 26).toNat
def wordZ (c : Int) (k : Nat) : Str := ⟨((List.range (sizeZ c)).map fun j => 97 + ltrZ c k j).toArray⟩
def wordsZ (c : Int) (n : Nat) : List Str := (List.range n).map (wordZ c)
theorem sizeZ_eq (c : Int) : ((sizeZ c : Nat) : Int) = 1 + c % 8 := by
  have := Int.emod_nonneg c (show (8 : Int) ≠ 0 by decide)
  unfold sizeZ; omega
theorem sizeZ_le (c : Int) : 1 ≤ sizeZ c ∧ sizeZ c ≤ 8 := by
  have h1 := Int.emod_nonneg c (show (8 : Int) ≠ 0 by decide)
  have h2 := Int.emod_lt_of_pos c (show (0 : Int) < 8 by decide)
  unfold sizeZ; omega
theorem placeZ_lt (c : Int) : placeZ c < sizeZ c := by
  have h1 := Int.emod_nonneg c (show (8 : Int) ≠ 0 by decide)
  have h3 : 0 < 1 + c % 8 := by omega
  have h4 := Int.emod_lt_of_pos (c / 8) h3
  have h5 := Int.emod_nonneg (c / 8) (show (1 + c % 8 : Int) ≠ 0 by omega)
  unfold placeZ sizeZ; omega
theorem placeZ_eq (c : Int) : ((placeZ c : Nat) : Int) = c / 8 % (1 + c % 8) := by
  have h1 := Int.emod_nonneg c (show (8 : Int) ≠ 0 by decide)
  have h5 := Int.emod_nonneg (c / 8) (show (1 + c % 8 : Int) ≠ 0 by omega)
  unfold placeZ; omega
theorem ltrZ_lt (c : Int) (k j : Nat) : ltrZ c k j < 26 := by
  unfold ltrZ
  have h1 := Int.emod_lt_of_pos (mixZ c (j : Nat) + 5 * (k : Nat) * (if j = placeZ c then 1 else 0)) (show (0 : Int) < 26 by decide)
  have h2 := Int.emod_nonneg (mixZ c (j : Nat) + 5 * (k : Nat) * (if j = placeZ c then 1 else 0)) (show (26 : Int) ≠ 0 by decide)
  omega
theorem ltrZ_eq (c : Int) (k j : Nat) : ((ltrZ c k j : Nat) : Int) = (mixZ c (j : Nat) + 5 * (k : Nat) * (if j = placeZ c then 1 else 0)) % 26 := by
  unfold ltrZ
  have h2 := Int.emod_nonneg (mixZ c (j : Nat) + 5 * (k : Nat) * (if j = placeZ c then 1 else 0)) (show (26 : Int) ≠ 0 by decide)
  omega
theorem wordZ_len (c : Int) (k : Nat) : (wordZ c k).length = sizeZ c := by
  show (List.toArray _).size = _
  simp [wordZ]
theorem wordZ_ok (c : Int) (k : Nat) : PyData.strOk (wordZ c k) = true := by
  unfold PyData.strOk wordZ
  simp
  intro j _
  have := ltrZ_lt c k j
  omega
theorem wordZ_fit (c : Int) (k : Nat) : fitW (wordZ c k) := by
  refine ⟨by rw [wordZ_len]; have := sizeZ_le c; omega, fun h => ?_, wordZ_ok c k⟩
  have h' : 32 ∈ (List.range (sizeZ c)).map fun j => 97 + ltrZ c k j := by simpa [wordZ] using h
  obtain ⟨j, _, e⟩ := List.mem_map.mp h'
  omega
theorem wordZ_inj {c : Int} {k k' : Nat} (hk : k < 5) (hk' : k' < 5) (h : wordZ c k = wordZ c k') : k = k' := by
  have e1 : (List.range (sizeZ c)).map (fun j => 97 + ltrZ c k j) = (List.range (sizeZ c)).map (fun j => 97 + ltrZ c k' j) := by
    have := congrArg (fun s : Str => s.cps.toList) h
    simpa [wordZ] using this
  have e2 : ((List.range (sizeZ c)).map (fun j => 97 + ltrZ c k j))[placeZ c]? = ((List.range (sizeZ c)).map (fun j => 97 + ltrZ c k' j))[placeZ c]? := by rw [e1]
  rw [List.getElem?_map, List.getElem?_map, List.getElem?_range (placeZ_lt c)] at e2
  have e3 : 97 + ltrZ c k (placeZ c) = 97 + ltrZ c k' (placeZ c) := by simpa using e2
  have e4 := ltrZ_eq c k (placeZ c)
  have e5 := ltrZ_eq c k' (placeZ c)
  rw [if_pos rfl] at e4 e5
  omega
def spCellAt (K : PySem.W.Frag) : Sp := fun vs H Q _ => ∃ (a : Addr) (ns : List Int) (k : Nat), vs = [.ref a, .int (k : Nat)] ∧ SqL K H a (ns.map V.int) ∧ Q (.int (ns.getD k 0)) H
def spMixed : Sp := fun vs H Q _ => ∃ (c : Int) (k : Nat), vs = [.int c, .int (k : Nat)] ∧ k ≤ 1000 ∧ Q (.int (mixZ c (k : Nat))) H
def spWords : Sp := fun vs H Q _ => ∃ (c : Int) (n : Nat), vs = [.int c, .int (n : Nat)] ∧ n ≤ 5 ∧ ∀ (p : Addr) (H' : Hp), Same H H' → H' p = some (.lst ((wordsZ c n).map V.str)) → Q (.ref p) H'
theorem rI_go {C : Int → Int → Prop} {g : Int → Int → V} {i j : Int} {H : Hp} {Q : VK} (c : C i j) (q : Q (g i j) H) : rI C g (.int i) (.int j) H Q := ⟨i, j, rfl, rfl, c, q⟩
theorem letter_at (i : Nat) (h : i < 26) : atI (("abcdefghijklmnopqrstuvwxyz" : Str).cps.toList) (i : Int) = some (97 + i) := by
  refine atI_nat ?_
  have : ∀ i : Fin 26, (("abcdefghijklmnopqrstuvwxyz" : Str).cps.toList)[i.val]? = some (97 + i.val) := by decide +kernel
  exact this ⟨i, h⟩
section
variable {P : Program} {w : World} {K : PySem.W.Frag} {mg : Str → Option Value} {base : Heap} {A : Ad} (T : Tx K mg A)
include T
theorem ok_law_mixed : FnOk P w K mg base CX0 1 A.f_law_mixed A.d_law_mixed ["_law_cell", "_law_k"] spMixed := by
  refine T.F_law_mixed.ok sc_law_mixed (fun vs H Q E h => ?_) (fun cdv A' outer s H vs Q E hr h => ?_)
  · obtain ⟨c, k, rfl, _⟩ := h
    rfl
  obtain ⟨c, k, rfl, hk, q⟩ := h
  refine ⟨_, (pss_cons (ps_set (i := 2) sc_law_mixed.nd rfl (Or.inl rfl) (pe_op op_mod (pe_op op_mul (pe_op op_add (pe_op op_add (pe_op op_mod (pv 0) pe_int) (pe_op op_mul (pe_op op_mul pe_int (pv 1)) (pv 1))) (pv 1)) pe_int) pe_int))
    (pss_one (ps_ret (pe_op op_mod (pe_op op_mul (pv 2) (pv 2)) pe_int)))), ?_⟩
  walk_at "k"
  walk_at "go"
  refine rI_go (by decide) ?_
  walk_at "go"
  refine rI_go (.inl (by decide)) ?_
  walk_at "go"
  refine rI_go (Or.inr (by omega)) ?_
  walk_at "go"
  refine rI_go (Or.inr (by decide)) ?_
  walk_at "go"
  refine rI_go (by decide) ?_
  walk_at "go"
  have h1 := Int.emod_nonneg ((c % 2147483647 + 7919 * (k : Int) * (k : Int) + (k : Int)) * 48271) (show (2147483647 : Int) ≠ 0 by decide)
  have h2 := Int.emod_lt_of_pos ((c % 2147483647 + 7919 * (k : Int) * (k : Int) + (k : Int)) * 48271) (show (0 : Int) < 2147483647 by decide)
  refine rI_go (.inl ⟨by omega, by omega⟩) ?_
  walk_at "go"
  refine rI_go (by decide) ?_
  exact q
theorem ok_law_cell_at : FnOk P w K mg base CX0 1 A.f_law_cell_at A.d_law_cell_at ["_law_script", "_law_k"] (spCellAt K) := by
  refine T.F_law_cell_at.ok sc_law_cell_at (fun vs H Q E h => ?_) (fun cdv A' outer s H vs Q E hr h => ?_)
  · obtain ⟨a, ns, k, rfl, _⟩ := h
    rfl
  obtain ⟨a, ns, k, rfl, ha, q⟩ := h
  refine ⟨_, (pss_cons (ps_if (pt_cmpR op_lt (pv 1) (pe_callB call_len_seq (by rfl) T.z_len PySem.boot_len (pa_cons (pv 0) pa_nil)) (nomark _)) (pss_one (ps_ret (pe_ix ix_list (pv 0) (pv 1) (fun _ _ => rfl)))) pss_nil)
    (pss_one (ps_ret pe_int))), ?_⟩
  walk_at "k"
  walk_at "go"
  refine if_d (fun c => ?_) (fun c => ?_)
  · rw [List.length_map] at c
    have hk : k < ns.length := by omega
    have hv : atI (ns.map V.int) (k : Int) = some (.int (ns.getD k 0)) := atI_nat (by rw [List.getElem?_map, List.getElem?_eq_getElem hk, List.getD_eq_getElem?_getD, List.getElem?_eq_getElem hk]; rfl)
    walk_at "go"
    exact q
  · rw [List.length_map] at c
    have hk : ns.getD k 0 = 0 := by rw [List.getD_eq_getElem?_getD, List.getElem?_eq_none (by omega)]; rfl
    walk_at "go"
    rw [hk] at q
    exact q
theorem ok_law_words : FnOk P w K mg base CX0 2 A.f_law_words A.d_law_words ["_law_cell", "_law_many"] spWords := by
  refine T.F_law_words.ok sc_law_words (fun vs H Q E h => ?_) (fun cdv A' outer s H vs Q E hr h => ?_)
  · obtain ⟨c, n, rfl, _⟩ := h
    rfl
  have G_law_mixed := ok_law_mixed (P := P) (w := w) (base := base) T
  obtain ⟨c, n, rfl, hn, q⟩ := h
  have hs := sizeZ_le c
  refine ⟨_, (pss_cons (ps_set (i := 2) sc_law_words.nd rfl (Or.inl rfl) pe_str)
    (pss_cons (ps_set (i := 3) sc_law_words.nd rfl (Or.inl rfl) (pe_op op_add pe_int (pe_op op_mod (pv 0) pe_int)))
    (pss_cons (ps_set (i := 4) sc_law_words.nd rfl (Or.inl rfl) (pe_op op_mod (pe_op op_fdiv (pv 0) pe_int) (pv 3)))
    (pss_cons (ps_set (i := 5) sc_law_words.nd rfl (Or.inl rfl) (pe_lst pa_nil))
    (pss_cons (ps_for PassesOwn.never rfl (pi_range1 rfl T.z_range (pa_cons (pv 1) pa_nil)) (pg_name (i := 6) sc_law_words.nd rfl (Or.inl rfl)) (pss_cons (ps_set (i := 7) sc_law_words.nd rfl (Or.inl rfl) pe_str)
      (pss_cons (ps_for PassesOwn.never rfl (pi_range1 rfl T.z_range (pa_cons (pv 3) pa_nil)) (pg_name (i := 8) sc_law_words.nd rfl (Or.inl rfl)) (pss_one (ps_set (i := 7) sc_law_words.nd rfl (Or.inl rfl) (pe_op op_add_str (pv 7) (pe_ix ix_str (pv 2) (pe_op op_mod (pe_op op_add (pe_call G_law_mixed (hr.mono (by decide)) rfl T.m_law_mixed T.F_law_mixed.kp T.b_law_mixed .nil pass0 (pa_cons (pv 0) (pa_cons (pv 8) pa_nil))) (pe_op op_mul (pe_op op_mul pe_int (pv 6)) (pe_callTy call_int1 (by rfl) T.z_int (by decide +kernel) (pa_cons (pe_cmpR op_eq (pv 8) (pv 4) (nomark _)) pa_nil)))) pe_int) (fun _ _ => rfl))))))
      (pss_one (ps_expr (pe_bm PySem.F.plainAttrs_list PySem.F.slot_list_append PySem.F.type_list_append mt_append (pv 5) (pa_cons (pv 7) pa_nil)))))))
    (pss_one (ps_ret (pv 5)))))))), ?_⟩
  walk_at "k"
  walk_at "go"
  refine rI_go (by decide) ?_
  walk_at "go"
  refine rI_go ⟨by decide, by decide⟩ ?_
  walk_at "go"
  refine rI_go (by have := sizeZ_eq c; omega) ?_
  walk_at "go"
  intro p hp
  rw [← placeZ_eq, ← sizeZ_eq]
  walk_at "go"
  refine w_rngI (n := n) (by omega) ?_
  refine w_forN (n := n) (fun i σ H' => ∃ v6 v7 v8 : Option V, σ = [some (.int c), some (.int (n : Nat)), some (.str "abcdefghijklmnopqrstuvwxyz"), some (.int (sizeZ c : Nat)), some (.int (placeZ c : Nat)), some (.ref p), v6, v7, v8] ∧ Same H H' ∧ H' p = some (.lst ((wordsZ c i).map V.str)))
    ⟨none, none, none, rfl, same_new hp, upd_same⟩ ?_ ?_
  · rintro i σ H1 hi ⟨v6, v7, v8, rfl, s1, e1⟩
    walk_at "go"
    refine w_rngI (n := sizeZ c) (by omega) ?_
    refine w_forN (n := sizeZ c) (fun j σ H' => ∃ v8 : Option V, σ = [some (.int c), some (.int (n : Nat)), some (.str "abcdefghijklmnopqrstuvwxyz"), some (.int (sizeZ c : Nat)), some (.int (placeZ c : Nat)), some (.ref p), some (.int (i : Nat)), some (.str ⟨((List.range j).map fun j => 97 + ltrZ c i j).toArray⟩), v8] ∧ H' = H1)
      ⟨v8, rfl, rfl⟩ ?_ ?_
    · rintro j σ H2 hj ⟨v8', rfl, rfl⟩
      walk_at "go"
      refine ⟨c, j, rfl, by omega, ?_⟩
      walk_at "go"
      refine rI_go (.inl (by decide)) ?_
      walk_at "go"
      refine rI_go (.inl (by omega)) ?_
      walk_at "go"
      refine rI_go (by decide) ?_
      have ee : (mixZ c (j : Nat) + 5 * (i : Int) * (if decide ((j : Int) = (placeZ c : Nat)) = true then 1 else 0)) % 26 = ((ltrZ c i j : Nat) : Int) := by
        rw [ltrZ_eq]
        by_cases e : j = placeZ c
        · rw [if_pos e, if_pos (by rw [e]; simp)]
        · rw [if_neg e, if_neg (by simp; omega)]
      rw [ee]
      refine ⟨_, _, _, rfl, rfl, by decide, letter_at _ (ltrZ_lt c i j), ?_⟩
      refine ⟨_, _, rfl, rfl, ?_, ?_⟩
      · have : (⟨((List.range j).map fun j => 97 + ltrZ c i j).toArray⟩ : Str).length = j := by
          show (List.toArray _).size = _
          simp
        rw [this]
        exact Nat.le_trans (show j + 1 ≤ 10 by omega) (by decide)
      walk_at "go"
      refine ⟨some (.int (j : Nat)), ?_, rfl⟩
      have e2 : ((⟨((List.range j).map fun j => 97 + ltrZ c i j).toArray⟩ : Str) ++ (⟨#[97 + ltrZ c i j]⟩ : Str)) = ⟨((List.range (j + 1)).map fun j => 97 + ltrZ c i j).toArray⟩ := by
        rw [List.range_succ, List.map_append]
        show (⟨_ ++ _⟩ : Str) = _
        congr 1
        simp
      rw [e2]
    · rintro σ H2 ⟨v8', rfl, rfl⟩
      walk_at "go"
      refine w_app e1 (Nat.lt_of_le_of_lt (show _ ≤ 5 by simp [wordsZ]; omega) (by decide)) ?_
      refine ⟨_, _, _, rfl, s1.put hp, ?_⟩
      rw [upd_same]
      unfold wordsZ
      rw [List.range_succ, List.map_append, List.map_append]
      rfl
  · rintro σ H1 ⟨v6, v7, v8, rfl, s1, e1⟩
    walk_at "go"
    exact q p H1 s1 e1
end

end U
namespace U
open PySem L2
/-! the steps that need no word -/
local macro_rules | `(tactic| walk_at "h") => `(tactic| focus ((repeat (first | assumption | exact upd_same | (apply at_ne; rotate_left; (first | assumption | exact Ne.symm (by assumption))) | (apply at_new; rotate_left; assumption))); done))
local macro_rules | `(tactic| walk_at "go") => `(tactic| repeat (with_reducible first
  | refine Go.by_ ?_
  | (apply w_at; (first | assumption | exact upd_same))
  | (apply w_sqT; (first | assumption | exact SqT.of (by assumption) | exact SqT.of upd_same))
  | (apply w_sqL; (first | assumption | exact SqL.of (by assumption) | exact SqL.of upd_same))
  | (apply w_sqLT1; (first | assumption | exact SqL.of (by assumption) | exact SqL.of upd_same))
  | (apply w_sqLT2; (first | assumption | exact SqT.of (by assumption) | exact SqT.of upd_same))
  | (apply w_at; walk_at "h")
  | (apply w_sqT; focus (apply SqT.of; walk_at "h"))
  | (apply w_sqL; focus (apply SqL.of; walk_at "h"))
  | (apply w_sqLT1; focus (apply SqL.of; walk_at "h"))
  | (apply w_sqLT2; focus (apply SqT.of; walk_at "h"))
  | (apply w_strT; decide)
  | (apply w_strF; decide)
  | (apply w_gTupH; (with_unfolding_all rfl))
  | (apply w_ixA; (first | assumption | with_unfolding_all rfl))))
local macro_rules | `(tactic| walk_at "k") => `(tactic| ((try dsimp only [cxOf, Cx.nox, List.map_cons, List.map_nil]); refine w_start ?_))
/-! ## Drawn steps and inputs -/
def spStep : Sp := fun vs H Q _ => ∃ (c : Int) (nl wl : Addr) (names ws : List Str), vs = [.int c, .ref nl, .ref wl] ∧ H nl = some (.lst (names.map V.str)) ∧ H wl = some (.lst (ws.map V.str)) ∧ names ≠ [] ∧ ws ≠ [] ∧ (∀ x ∈ names, fitW x) ∧ (∀ x ∈ ws, fitW x) ∧
  ∀ (p : Pl) (v : V) (H' : Hp), Same H H' → TupAt H' (plV p) v → plFit p → (∀ y ∈ p.names, y ∈ names) → Q v H'
def spInput : Sp := fun vs H Q _ => ∃ c l : Int, vs = [.int c, .int l] ∧ ∀ i : Int, Q (.int i) H
/-- a drawn place in a list of texts -/
theorem pick_at {xs : List Str} (h : xs ≠ []) (c : Int) (k : Nat) : ∃ x, x ∈ xs ∧ atI (xs.map V.str) (mixZ c (k : Nat) % (((xs.map V.str).length : Nat) : Int)) = some (.str x) := by
  have hp : 0 < (xs.map V.str).length := by rw [List.length_map]; exact List.length_pos_iff.mpr h
  have h1 := Int.emod_nonneg (mixZ c (k : Nat)) (show (((xs.map V.str).length : Nat) : Int) ≠ 0 by omega)
  have h2 := Int.emod_lt_of_pos (mixZ c (k : Nat)) (show (0 : Int) < (((xs.map V.str).length : Nat) : Int) by omega)
  obtain ⟨i, hi⟩ : ∃ i : Nat, mixZ c (k : Nat) % (((xs.map V.str).length : Nat) : Int) = (i : Int) := ⟨_, (Int.toNat_of_nonneg h1).symm⟩
  rw [hi] at h2 ⊢
  have hl : i < xs.length := by rw [List.length_map] at h2; omega
  exact ⟨xs[i], List.getElem_mem hl, atI_nat (by rw [List.getElem?_map, List.getElem?_eq_getElem hl]; rfl)⟩
section
variable {P : Program} {w : World} {K : PySem.W.Frag} {mg : Str → Option Value} {base : Heap} {A : Ad} (T : Tx K mg A)
include T
theorem ok_law_input : FnOk P w K mg base CX0 1 A.f_law_input A.d_law_input ["_law_cell", "_law_low"] spInput := by
  refine T.F_law_input.ok sc_law_input (fun vs H Q E h => ?_) (fun cdv A' outer s H vs Q E hr h => ?_)
  · obtain ⟨c, l, rfl, _⟩ := h
    rfl
  obtain ⟨c, l, rfl, q⟩ := h
  refine ⟨_, (pss_cons (ps_if (pt_cmpR op_eq (pe_op op_mod (pe_op op_fdiv (pv 0) pe_int) pe_int) pe_int (nomark _)) (pss_one (ps_ret (pe_op op_sub (pe_op op_mod (pe_op op_mul (pv 0) pe_int) (pe_op op_add (pe_op op_mul pe_int (pe_op op_pow pe_int pe_int)) pe_int)) (pe_op op_pow pe_int pe_int)))) pss_nil)
    (pss_one (ps_ret (pe_op op_sub (pe_op op_add (pv 1) (pe_op op_mod (pv 0) pe_int)) pe_int)))), ?_⟩
  walk_at "k"
  walk_at "go"
  refine rI_go ⟨by decide, by decide⟩ ?_
  walk_at "go"
  refine rI_go (by decide) ?_
  walk_at "go"
  refine if_d (fun _ => ?_) (fun _ => ?_)
  · walk_at "go"
    refine rI_go (.inr (by decide)) ?_
    walk_at "go"
    refine rI_go ⟨by decide, by decide, by decide⟩ ?_
    walk_at "go"
    refine rI_go (.inl (by decide)) ?_
    walk_at "go"
    refine rI_go (by decide) ?_
    walk_at "go"
    refine rI_go ⟨by decide, by decide, by decide⟩ ?_
    walk_at "go"
    exact q _
  · walk_at "go"
    refine rI_go (by decide) ?_
    walk_at "go"
    exact q _
theorem ok_law_step : FnOk P w K mg base CX0 2 A.f_law_step A.d_law_step ["_law_cell", "_law_names", "_law_words_here"] spStep := by
  refine T.F_law_step.ok sc_law_step (fun vs H Q E h => ?_) (fun cdv A' outer s H vs Q E hr h => ?_)
  · obtain ⟨c, nl, wl, names, ws, rfl, _⟩ := h
    rfl
  have G_law_mixed := ok_law_mixed (P := P) (w := w) (base := base) T
  obtain ⟨c, nl, wl, names, ws, rfl, hnl, hwl, hne, hwe, fn, fw, q⟩ := h
  obtain ⟨x, hx, ex⟩ := pick_at hne c 1
  obtain ⟨y, hy, ey⟩ := pick_at hne c 2
  obtain ⟨z, hz, ez⟩ := pick_at hwe c 3
  have pn : (0 : Int) < (((names.map V.str).length : Nat) : Int) := by have := List.length_pos_iff.mpr hne; rw [List.length_map]; omega
  have pw : (0 : Int) < (((ws.map V.str).length : Nat) : Int) := by have := List.length_pos_iff.mpr hwe; rw [List.length_map]; omega
  refine ⟨_, (pss_cons (ps_set (i := 3) sc_law_step.nd rfl (Or.inl rfl) (pe_ix ix_list (pv 1) (pe_op op_mod (pe_call G_law_mixed (hr.mono (by decide)) rfl T.m_law_mixed T.F_law_mixed.kp T.b_law_mixed .nil pass0 (pa_cons (pv 0) (pa_cons pe_int pa_nil))) (pe_callB call_len_seq (by rfl) T.z_len PySem.boot_len (pa_cons (pv 1) pa_nil))) (fun _ _ => rfl)))
    (pss_cons (ps_set (i := 4) sc_law_step.nd rfl (Or.inl rfl) (pe_ix ix_list (pv 1) (pe_op op_mod (pe_call G_law_mixed (hr.mono (by decide)) rfl T.m_law_mixed T.F_law_mixed.kp T.b_law_mixed .nil pass0 (pa_cons (pv 0) (pa_cons pe_int pa_nil))) (pe_callB call_len_seq (by rfl) T.z_len PySem.boot_len (pa_cons (pv 1) pa_nil))) (fun _ _ => rfl)))
    (pss_cons (ps_if (pt_cmpR op_lt (pe_op op_mod (pv 0) pe_int) pe_int (nomark _)) (pss_one (ps_ret (pe_tup (pa_cons pe_str (pa_cons (pv 3) pa_nil))))) pss_nil)
    (pss_cons (ps_if (pt_cmpR op_eq (pe_op op_mod (pv 0) pe_int) pe_int (nomark _)) (pss_one (ps_ret (pe_tup (pa_cons pe_str (pa_cons (pv 3) (pa_cons (pv 4) pa_nil)))))) pss_nil)
    (pss_cons (ps_if (pt_cmpR op_eq (pe_op op_mod (pv 0) pe_int) pe_int (nomark _)) (pss_one (ps_ret (pe_tup (pa_cons pe_str (pa_cons (pv 3) pa_nil))))) pss_nil)
    (pss_cons (ps_if (pt_cmpR op_eq (pe_op op_mod (pv 0) pe_int) pe_int (nomark _)) (pss_one (ps_ret (pe_tup (pa_cons pe_str (pa_cons (pv 3) (pa_cons (pv 4) pa_nil)))))) pss_nil)
    (pss_one (ps_ret (pe_tup (pa_cons pe_str (pa_cons (pe_ix ix_list (pv 2) (pe_op op_mod (pe_call G_law_mixed (hr.mono (by decide)) rfl T.m_law_mixed T.F_law_mixed.kp T.b_law_mixed .nil pass0 (pa_cons (pv 0) (pa_cons pe_int pa_nil))) (pe_callB call_len_seq (by rfl) T.z_len PySem.boot_len (pa_cons (pv 2) pa_nil))) (fun _ _ => rfl)) (pa_cons (pv 3) pa_nil)))))))))))), ?_⟩
  walk_at "k"
  walk_at "go"
  refine ⟨c, 1, rfl, by decide, ?_⟩
  walk_at "go"
  refine rI_go pn ?_
  walk_at "go"
  refine ⟨c, 2, rfl, by decide, ?_⟩
  walk_at "go"
  refine rI_go pn ?_
  walk_at "go"
  refine rI_go (by decide) ?_
  walk_at "go"
  refine if_d (fun _ => ?_) (fun _ => ?_)
  · walk_at "go"
    exact fun t ht => q (.opn x) _ _ (same_new ht) ⟨t, rfl, upd_same⟩ (fn x hx) (by simp [Pl.names, hx])
  walk_at "go"
  refine rI_go (by decide) ?_
  walk_at "go"
  refine if_d (fun _ => ?_) (fun _ => ?_)
  · walk_at "go"
    exact fun t ht => q (.cpy x y) _ _ (same_new ht) ⟨t, rfl, upd_same⟩ ⟨fn x hx, fn y hy⟩ (by simp [Pl.names, hx, hy])
  walk_at "go"
  refine rI_go (by decide) ?_
  walk_at "go"
  refine if_d (fun _ => ?_) (fun _ => ?_)
  · walk_at "go"
    exact fun t ht => q (.drp x) _ _ (same_new ht) ⟨t, rfl, upd_same⟩ (fn x hx) (by simp [Pl.names, hx])
  walk_at "go"
  refine rI_go (by decide) ?_
  walk_at "go"
  refine if_d (fun _ => ?_) (fun _ => ?_)
  · walk_at "go"
    exact fun t ht => q (.tie x y) _ _ (same_new ht) ⟨t, rfl, upd_same⟩ ⟨fn x hx, fn y hy⟩ (by simp [Pl.names, hx, hy])
  walk_at "go"
  refine ⟨c, 3, rfl, by decide, ?_⟩
  walk_at "go"
  refine rI_go pw ?_
  walk_at "go"
  exact fun t ht => q (.act z x) _ _ (same_new ht) ⟨t, rfl, upd_same⟩ ⟨fw z hz, fn x hx⟩ (by simp [Pl.names, hx])
end

end U
namespace U
open PySem L2
/-! the steps that need no word -/
local macro_rules | `(tactic| walk_at "h") => `(tactic| focus ((repeat (first | assumption | exact upd_same | (apply at_ne; rotate_left; (first | assumption | exact Ne.symm (by assumption))) | (apply at_new; rotate_left; assumption))); done))
local macro_rules | `(tactic| walk_at "go") => `(tactic| repeat (with_reducible first
  | refine Go.by_ ?_
  | (apply w_at; (first | assumption | exact upd_same))
  | (apply w_sqT; (first | assumption | exact SqT.of (by assumption) | exact SqT.of upd_same))
  | (apply w_sqL; (first | assumption | exact SqL.of (by assumption) | exact SqL.of upd_same))
  | (apply w_sqLT1; (first | assumption | exact SqL.of (by assumption) | exact SqL.of upd_same))
  | (apply w_sqLT2; (first | assumption | exact SqT.of (by assumption) | exact SqT.of upd_same))
  | (apply w_at; walk_at "h")
  | (apply w_sqT; focus (apply SqT.of; walk_at "h"))
  | (apply w_sqL; focus (apply SqL.of; walk_at "h"))
  | (apply w_sqLT1; focus (apply SqL.of; walk_at "h"))
  | (apply w_sqLT2; focus (apply SqT.of; walk_at "h"))
  | (apply w_strT; decide)
  | (apply w_strF; decide)
  | (apply w_gTupH; (with_unfolding_all rfl))
  | (apply w_ixA; (first | assumption | with_unfolding_all rfl))))
local macro_rules | `(tactic| walk_at "k") => `(tactic| ((try dsimp only [cxOf, Cx.nox, List.map_cons, List.map_nil]); refine w_start ?_))
/-! ## Drawn programs -/
inductive Hd where
  | lend (x y : Str) | ifh (n : Int) | ifb (n : Int) (b : List Step) | whl (n : Int)
def HdAt (H : Hp) : Hd → V → Prop
  | .lend x y, v => TupAt H [.str "lend", .str x, .str y] v
  | .ifh n, v => TupAt H [.str "if", .int n] v
  | .ifb n b, v => ∃ (l : Addr) (vs : List V), TupAt H [.str "if", .int n, .ref l] v ∧ H l = some (.lst vs) ∧ StepsAt H b vs
  | .whl n, v => TupAt H [.str "while", .int n] v
theorem HdAt.same {H H' : Hp} {h : Hd} {v : V} (s : Same H H') (g : HdAt H h v) : HdAt H' h v := by
  cases h with
  | lend x y => exact TupAt.same s g
  | ifh n => exact TupAt.same s g
  | ifb n b => obtain ⟨l, vs, a, b, c⟩ := g; exact ⟨l, vs, a.same s, s _ _ b, c.same s⟩
  | whl n => exact TupAt.same s g
def Hd.ok (nm : List Str) : Hd → Prop
  | .lend x y => fitW x ∧ fitW y ∧ x ∈ nm ∧ y ∈ nm
  | .ifh n => n.natAbs.log2 < 1920
  | .ifb n b => n.natAbs.log2 < 1920 ∧ FitL b ∧ ∀ y ∈ namesL b, y ∈ nm
  | .whl n => n.natAbs.log2 < 1920
def Hd.size : Hd → Nat
  | .ifb _ b => 1 + sizeL b
  | _ => 1
def Hd.deep : Hd → Nat
  | .ifb _ b => deepL b
  | _ => 0
def Hd.w : Hd → Nat
  | .ifh _ => 2
  | _ => 1
def Hd.done (ss : List Step) : Hd → Step
  | .lend x y => .lend x y ss
  | .ifh n => .whl n ss
  | .ifb n b => .ite n b ss
  | .whl n => .whl n ss
theorem fz {H H' : Hp} {M M' : List Addr} (h : ∀ b o, ¬ b ∈ M → H b = some o → H' b = some o ∧ ¬ b ∈ M') : Same (minus H M) (minus H' M') := fun b o e => by
  by_cases hb : b ∈ M
  · rw [minus_at hb] at e; cases e
  · rw [minus_ne hb] at e
    obtain ⟨a, c⟩ := h b o hb e
    rw [minus_ne c]; exact a
def marks (pl hl : Addr) (stk : List (Addr × List Step)) : List Addr := pl :: hl :: stk.map (·.1)
structure Stk (nm : List Str) (D H : Hp) (pl hl : Addr) (stk : List (Addr × List Step)) (hst : List Hd) : Prop where
  same : Same D H
  out : ∀ b ∈ marks pl hl stk, D b = none
  nd : (marks pl hl stk).Nodup
  pl_ : H pl = some (.lst ((stk.map (·.1)).reverse.map V.ref))
  hl_ : ∃ hvs, H hl = some (.lst hvs.reverse) ∧ Each (HdAt (minus H (marks pl hl stk))) hst hvs
  len : stk.length = hst.length + 1
  piles : ∀ x ∈ stk, ∃ vs, H x.1 = some (.lst vs) ∧ StepsAt (minus H (marks pl hl stk)) x.2 vs
  ok : ∀ x ∈ stk, FitL x.2 ∧ (∀ y ∈ namesL x.2, y ∈ nm) ∧ sizeL x.2 ≤ 1000
  hok : ∀ h ∈ hst, h.ok nm
  few : hst.length ≤ 4
  deep : ∀ (i : Nat) (x : Addr × List Step), stk[i]? = some x → deepL x.2 + (hst.length - i) ≤ 4
  hdeep : ∀ (i : Nat) (h : Hd), hst[i]? = some h → h.deep + (hst.length - i) ≤ 4
def stkSize (stk : List (Addr × List Step)) (hst : List Hd) : Nat := (stk.map fun x => sizeL x.2).sum + (hst.map Hd.size).sum
def hstW (hst : List Hd) : Nat := (hst.map Hd.w).sum
theorem StepsAt.snoc {H : Hp} {s : Step} {v : V} (h : StepAt H s v) : ∀ {ss : List Step} {vs : List V}, StepsAt H ss vs → StepsAt H (ss ++ [s]) (vs ++ [v])
  | [], vs, g => by rw [show vs = [] from g]; exact ⟨v, [], rfl, h, rfl⟩
  | _ :: _, vs, g => by
    obtain ⟨v', ws, rfl, b, c⟩ := g
    exact ⟨v', ws ++ [v], rfl, b, StepsAt.snoc h c⟩
theorem fitL_snoc {s : Step} : ∀ {ss : List Step}, FitL ss → FitS s → FitL (ss ++ [s])
  | [], _, h => ⟨h, trivial⟩
  | a :: r, g, h => ⟨g.1, fitL_snoc g.2 h⟩
theorem namesL_snoc (s : Step) : ∀ ss : List Step, namesL (ss ++ [s]) = namesL ss ++ namesS s
  | [] => by show namesS s ++ [] = [] ++ namesS s; simp
  | a :: r => by show namesS a ++ namesL (r ++ [s]) = (namesS a ++ namesL r) ++ namesS s; rw [namesL_snoc s r, List.append_assoc]
theorem sizeL_app (s : Step) : ∀ ss : List Step, sizeL (ss ++ [s]) = sizeL ss + sizeS s
  | [] => by show sizeS s + 0 = 0 + sizeS s; omega
  | a :: r => by show sizeS a + sizeL (r ++ [s]) = (sizeS a + sizeL r) + sizeS s; rw [sizeL_app s r]; omega
theorem deepL_app (s : Step) : ∀ ss : List Step, deepL (ss ++ [s]) = max (deepL ss) (deepS s)
  | [] => by show max (deepS s) 0 = max 0 (deepS s); omega
  | a :: r => by show max (deepS a) (deepL (r ++ [s])) = max (max (deepS a) (deepL r)) (deepS s); rw [deepL_app s r]; omega
section
variable {nm : List Str} {D H H1 : Hp} {pl hl q : Addr} {stk : List (Addr × List Step)} {hst : List Hd} {ss : List Step}
theorem Stk.put (h : Stk nm D H pl hl stk hst) (s : Same H H1) : Stk nm D H1 pl hl stk hst := by
  obtain ⟨hvs, a, b⟩ := h.hl_
  have f : Same (minus H (marks pl hl stk)) (minus H1 (marks pl hl stk)) := fz fun b o hb e => ⟨s b o e, hb⟩
  exact ⟨h.same.trans s, h.out, h.nd, s _ _ h.pl_, ⟨hvs, s _ _ a, b.mono fun _ _ p => p.same f⟩, h.len, fun x hx => let ⟨vs, c, d⟩ := h.piles x hx; ⟨vs, s _ _ c, d.same f⟩, h.ok, h.hok, h.few, h.deep, h.hdeep⟩
theorem mem_marks {x : Addr × List Step} (h : x ∈ stk) : x.1 ∈ marks pl hl stk := List.mem_cons_of_mem _ (List.mem_cons_of_mem _ (List.mem_map.mpr ⟨x, h, rfl⟩))
/-- a tuple or any fresh thing does not stand where piles change -/
theorem Stk.away (h : Stk nm D H pl hl stk hst) {z : Addr} {o : HO} (e : H z = some o) (n : ∀ vs, o ≠ .lst vs) : ¬ z ∈ marks pl hl stk := fun hm => by
  rcases mem_c hm with rfl | hm
  · rw [h.pl_] at e; cases e; exact n _ rfl
  rcases mem_c hm with rfl | hm
  · obtain ⟨hvs, a, _⟩ := h.hl_
    rw [a] at e; cases e; exact n _ rfl
  · obtain ⟨x, hx, rfl⟩ := List.mem_map.mp hm
    obtain ⟨vs, c, _⟩ := h.piles x hx
    rw [c] at e; cases e; exact n _ rfl
/-- a step on the topmost pile -/
theorem Stk.step {st : Step} {v : V} {vs : List V} (h : Stk nm D H pl hl ((q, ss) :: stk) hst) (hq : H q = some (.lst vs)) (hv : StepAt (minus H (marks pl hl ((q, ss) :: stk))) st v) (hf : FitS st) (hn : ∀ y ∈ namesS st, y ∈ nm) (hd : deepS st + hst.length ≤ 4) (hs : sizeL ss + sizeS st ≤ 1000) :
    Stk nm D (upd H q (.lst (vs ++ [v]))) pl hl ((q, ss ++ [st]) :: stk) hst := by
  have hM : marks pl hl ((q, ss ++ [st]) :: stk) = marks pl hl ((q, ss) :: stk) := rfl
  have qm : q ∈ marks pl hl ((q, ss) :: stk) := mem_marks (x := (q, ss)) List.mem_cons_self
  have f : Same (minus H (marks pl hl ((q, ss) :: stk))) (minus (upd H q (.lst (vs ++ [v]))) (marks pl hl ((q, ss) :: stk))) := fz fun b o hb e => ⟨at_ne e fun z => hb (z ▸ qm), hb⟩
  have nd := h.nd
  have n1 : pl ≠ q := fun z => by simp [marks] at nd; exact nd.1.2.1 z
  have n2 : hl ≠ q := fun z => by simp [marks] at nd; exact nd.2.1.1 z
  have n3 : ∀ x ∈ stk, x.1 ≠ q := fun x hx z => by
    have := (List.nodup_cons.mp (List.nodup_cons.mp (List.nodup_cons.mp h.nd).2).2).1
    exact this (List.mem_map.mpr ⟨x, hx, z⟩)
  obtain ⟨hvs, a, b⟩ := h.hl_
  refine ⟨h.same.put (h.out _ qm), h.out, h.nd, at_ne h.pl_ n1, ⟨hvs, at_ne a n2, b.mono fun _ _ p => p.same f⟩, h.len, fun x hx => ?_, fun x hx => ?_, h.hok, h.few, fun i x hi => ?_, h.hdeep⟩
  · rcases mem_c hx with rfl | hx
    · obtain ⟨vs', c, d⟩ := h.piles (q, ss) List.mem_cons_self
      rw [hq] at c
      cases c
      exact ⟨vs ++ [v], upd_same, (d.same f).snoc (hv.same f)⟩
    · obtain ⟨vs', c, d⟩ := h.piles x (List.mem_cons_of_mem _ hx)
      exact ⟨vs', at_ne c (n3 x hx), d.same f⟩
  · rcases mem_c hx with rfl | hx
    · obtain ⟨a, b, c⟩ := h.ok (q, ss) List.mem_cons_self
      refine ⟨fitL_snoc a hf, fun y hy => ?_, by rw [sizeL_app]; exact hs⟩
      rw [namesL_snoc] at hy
      rcases mem_a hy with hy | hy
      · exact b y hy
      · exact hn y hy
    · exact h.ok x (List.mem_cons_of_mem _ hx)
  · cases i with
    | zero =>
      have e : x = (q, ss ++ [st]) := by simpa using hi.symm
      subst e
      have := h.deep 0 (q, ss) rfl
      show deepL (ss ++ [st]) + _ ≤ 4
      rw [deepL_app]
      have h0 : deepL ss + hst.length ≤ 4 := this
      show max _ _ + (hst.length - 0) ≤ 4
      omega
    | succ i => exact h.deep (i + 1) x hi
/-- a head, and a pile of its own -/
theorem Stk.push {hd : Hd} {v : V} {hvs : List V} {q : Addr} (h : Stk nm D H pl hl stk hst) (hh : H hl = some (.lst hvs.reverse)) (hE : Each (HdAt (minus H (marks pl hl stk))) hst hvs) (hv : HdAt (minus H (marks pl hl stk)) hd v) (ho : hd.ok nm) (hd0 : hd.deep + (hst.length + 1) ≤ 4) (hq : H q = none) :
    Stk nm D (upd (upd (upd H hl (.lst (hvs.reverse ++ [v]))) q (.lst [])) pl (.lst ((stk.map (·.1)).reverse.map V.ref ++ [V.ref q]))) pl hl ((q, []) :: stk) (hd :: hst) := by
  have nd := h.nd
  have n0 : pl ≠ hl := fun z => by simp [marks] at nd; exact nd.1.1 z
  have qp : q ≠ pl := fun z => by rw [z, h.pl_] at hq; cases hq
  have qh : q ≠ hl := fun z => by rw [z, hh] at hq; cases hq
  have qs : ∀ x ∈ stk, x.1 ≠ q := fun x hx z => by
    obtain ⟨vs, c, _⟩ := h.piles x hx
    rw [z, hq] at c; cases c
  have plm : ∀ x ∈ stk, x.1 ≠ pl ∧ x.1 ≠ hl := fun x hx => by
    have h1 := (List.nodup_cons.mp h.nd).1
    have h2 := (List.nodup_cons.mp (List.nodup_cons.mp h.nd).2).1
    exact ⟨fun z => h1 (List.mem_cons_of_mem _ (List.mem_map.mpr ⟨x, hx, z⟩)), fun z => h2 (List.mem_map.mpr ⟨x, hx, z⟩)⟩
  have f : Same (minus H (marks pl hl stk)) (minus (upd (upd (upd H hl (.lst (hvs.reverse ++ [v]))) q (.lst [])) pl (.lst ((stk.map (·.1)).reverse.map V.ref ++ [V.ref q]))) (marks pl hl ((q, []) :: stk))) := fz fun b o hb e => by
    have b1 : b ≠ pl := fun z => hb (z ▸ List.mem_cons_self)
    have b2 : b ≠ hl := fun z => hb (z ▸ List.mem_cons_of_mem _ List.mem_cons_self)
    have b3 : b ≠ q := ne_of_none e hq
    refine ⟨at_ne (at_ne (at_ne e b2) b3) b1, fun hm => ?_⟩
    rcases mem_c hm with z | hm
    · exact b1 z
    rcases mem_c hm with z | hm
    · exact b2 z
    rcases mem_c hm with z | hm
    · exact b3 z
    · exact hb (List.mem_cons_of_mem _ (List.mem_cons_of_mem _ hm))
  have Dq : D q = none := h.same.free hq
  refine ⟨((h.same.put (h.out _ (List.mem_cons_of_mem _ List.mem_cons_self))).put Dq).put (h.out _ List.mem_cons_self), fun b hb => ?_, ?_, ?_, ⟨v :: hvs, ?_, (hE.mono fun _ _ p => p.same f).cons (hv.same f)⟩, by simp [h.len], fun x hx => ?_, fun x hx => ?_, fun x hx => ?_, ?_, fun i x hi => ?_, fun i x hi => ?_⟩
  · rcases mem_c hb with rfl | hb
    · exact h.out _ List.mem_cons_self
    rcases mem_c hb with rfl | hb
    · exact h.out _ (List.mem_cons_of_mem _ List.mem_cons_self)
    rcases mem_c hb with rfl | hb
    · exact Dq
    · exact h.out _ (List.mem_cons_of_mem _ (List.mem_cons_of_mem _ hb))
  · have h1 := List.nodup_cons.mp h.nd
    have h2 := List.nodup_cons.mp h1.2
    refine List.nodup_cons.mpr ⟨fun hm => ?_, List.nodup_cons.mpr ⟨fun hm => ?_, List.nodup_cons.mpr ⟨fun hm => ?_, h2.2⟩⟩⟩
    · rcases mem_c hm with z | hm
      · exact n0 z
      rcases mem_c hm with z | hm
      · exact qp z.symm
      · exact h1.1 (List.mem_cons_of_mem _ hm)
    · rcases mem_c hm with z | hm
      · exact qh z.symm
      · exact h2.1 hm
    · obtain ⟨x, hx, z⟩ := List.mem_map.mp hm
      exact qs x hx z
  · rw [upd_same]
    simp
  · rw [upd_ne n0.symm, upd_ne qh.symm, upd_same]
    simp
  · rcases mem_c hx with rfl | hx
    · exact ⟨[], at_ne upd_same qp, rfl⟩
    · obtain ⟨vs, c, d⟩ := h.piles x hx
      exact ⟨vs, at_ne (at_ne (at_ne c (plm x hx).2) (qs x hx)) (plm x hx).1, d.same f⟩
  · rcases mem_c hx with rfl | hx
    · exact ⟨trivial, fun y hy => (by cases hy), Nat.zero_le _⟩
    · exact h.ok x hx
  · rcases mem_c hx with rfl | hx
    · exact ho
    · exact h.hok x hx
  · show hst.length + 1 ≤ 4
    omega
  · cases i with
    | zero =>
      have e : x = (q, []) := by simpa using hi.symm
      subst e
      show 0 + (hst.length + 1 - 0) ≤ 4
      omega
    | succ i =>
      have := h.deep i x (by simpa using hi)
      show deepL x.2 + (hst.length + 1 - (i + 1)) ≤ 4
      omega
  · cases i with
    | zero =>
      have e : x = hd := by simpa using hi.symm
      subst e
      show x.deep + (hst.length + 1 - 0) ≤ 4
      omega
    | succ i =>
      have := h.hdeep i x (by simpa using hi)
      show x.deep + (hst.length + 1 - (i + 1)) ≤ 4
      omega
/-- the topmost pile and head taken off -/
theorem Stk.pop {hd : Hd} (h : Stk nm D H pl hl ((q, ss) :: stk) (hd :: hst)) : ∃ (v : V) (hvs vs : List V), H hl = some (.lst (hvs.reverse ++ [v])) ∧ H q = some (.lst vs) ∧
    Stk nm D (upd (upd H pl (.lst ((stk.map (·.1)).reverse.map V.ref))) hl (.lst hvs.reverse)) pl hl stk hst ∧
    HdAt (minus (upd (upd H pl (.lst ((stk.map (·.1)).reverse.map V.ref))) hl (.lst hvs.reverse)) (marks pl hl stk)) hd v ∧
    StepsAt (minus (upd (upd H pl (.lst ((stk.map (·.1)).reverse.map V.ref))) hl (.lst hvs.reverse)) (marks pl hl stk)) ss vs ∧ q ≠ pl ∧ q ≠ hl ∧ ¬ q ∈ marks pl hl stk ∧
    FitL ss ∧ (∀ y ∈ namesL ss, y ∈ nm) ∧ hd.ok nm ∧ deepL ss + (hst.length + 1) ≤ 4 ∧ hd.deep + (hst.length + 1) ≤ 4 := by
  obtain ⟨hvs', a, b⟩ := h.hl_
  obtain ⟨v, hvs, rfl⟩ : ∃ v hvs, hvs' = v :: hvs := by
    cases hvs' with
    | nil => have := b.len; simp at this
    | cons v hvs => exact ⟨v, hvs, rfl⟩
  have hv := b.both (i := 0) (x := hd) (v := v) rfl rfl
  have hE : Each (HdAt (minus H (marks pl hl ((q, ss) :: stk)))) hst hvs := by
    have := b.drop 1
    simpa using this
  obtain ⟨vs, c, d⟩ := h.piles (q, ss) List.mem_cons_self
  have h1 := List.nodup_cons.mp h.nd
  have h2 := List.nodup_cons.mp h1.2
  have h3 := List.nodup_cons.mp h2.2
  have qp : q ≠ pl := fun z => h1.1 (z ▸ List.mem_cons_of_mem _ List.mem_cons_self)
  have qh : q ≠ hl := fun z => h2.1 (z ▸ List.mem_cons_self)
  have n0 : pl ≠ hl := fun z => h1.1 (z ▸ List.mem_cons_self)
  have qm : ¬ q ∈ marks pl hl stk := fun hm => by
    rcases mem_c hm with z | hm
    · exact qp z
    rcases mem_c hm with z | hm
    · exact qh z
    · exact h3.1 hm
  have f : Same (minus H (marks pl hl ((q, ss) :: stk))) (minus (upd (upd H pl (.lst ((stk.map (·.1)).reverse.map V.ref))) hl (.lst hvs.reverse)) (marks pl hl stk)) := fz fun b o hb e => by
    have b1 : b ≠ pl := fun z => hb (z ▸ List.mem_cons_self)
    have b2 : b ≠ hl := fun z => hb (z ▸ List.mem_cons_of_mem _ List.mem_cons_self)
    refine ⟨at_ne (at_ne e b1) b2, fun hm => ?_⟩
    rcases mem_c hm with z | hm
    · exact b1 z
    rcases mem_c hm with z | hm
    · exact b2 z
    · exact hb (List.mem_cons_of_mem _ (List.mem_cons_of_mem _ (List.mem_cons_of_mem _ hm)))
  obtain ⟨o1, o2, o3⟩ := h.ok (q, ss) List.mem_cons_self
  refine ⟨v, hvs, vs, by rw [a]; simp, c, ⟨(h.same.put (h.out _ List.mem_cons_self)).put (h.out _ (List.mem_cons_of_mem _ List.mem_cons_self)), fun b hb => ?_, ?_, at_ne upd_same n0, ⟨hvs, upd_same, hE.mono fun _ _ p => p.same f⟩, ?_, fun x hx => ?_, fun x hx => h.ok x (List.mem_cons_of_mem _ hx), fun x hx => h.hok x (List.mem_cons_of_mem _ hx), ?_, fun i x hi => ?_, fun i x hi => ?_⟩,
    hv.same f, d.same f, qp, qh, qm, o1, o2, h.hok hd List.mem_cons_self, h.deep 0 (q, ss) rfl, h.hdeep 0 hd rfl⟩
  · rcases mem_c hb with rfl | hb
    · exact h.out _ List.mem_cons_self
    rcases mem_c hb with rfl | hb
    · exact h.out _ (List.mem_cons_of_mem _ List.mem_cons_self)
    · exact h.out _ (List.mem_cons_of_mem _ (List.mem_cons_of_mem _ (List.mem_cons_of_mem _ hb)))
  · refine List.nodup_cons.mpr ⟨fun hm => ?_, List.nodup_cons.mpr ⟨fun hm => h2.1 (List.mem_cons_of_mem _ hm), h3.2⟩⟩
    rcases mem_c hm with z | hm
    · exact n0 z
    · exact h1.1 (List.mem_cons_of_mem _ (List.mem_cons_of_mem _ hm))
  · have := h.len
    simp at this
    exact this
  · obtain ⟨vs', c', d'⟩ := h.piles x (List.mem_cons_of_mem _ hx)
    have x1 : x.1 ≠ pl := fun z => h1.1 (z ▸ List.mem_cons_of_mem _ (List.mem_cons_of_mem _ (List.mem_map.mpr ⟨x, hx, rfl⟩)))
    have x2 : x.1 ≠ hl := fun z => h2.1 (z ▸ List.mem_cons_of_mem _ (List.mem_map.mpr ⟨x, hx, rfl⟩))
    exact ⟨vs', at_ne (at_ne c' x1) x2, d'.same f⟩
  · have := h.few
    show hst.length ≤ 4
    simp at this; omega
  · have := h.deep (i + 1) x (by simpa using hi)
    have e : (hd :: hst).length - (i + 1) = hst.length - i := by simp
    rwa [e] at this
  · have := h.hdeep (i + 1) x (by simpa using hi)
    have e : (hd :: hst).length - (i + 1) = hst.length - i := by simp
    rwa [e] at this
end

end U
namespace U
open PySem L2
/-! the steps that need no word -/
local macro_rules | `(tactic| walk_at "h") => `(tactic| focus ((repeat (first | assumption | exact upd_same | (apply at_ne; rotate_left; (first | assumption | exact Ne.symm (by assumption))) | (apply at_new; rotate_left; assumption))); done))
local macro_rules | `(tactic| walk_at "go") => `(tactic| repeat (with_reducible first
  | refine Go.by_ ?_
  | (apply w_at; (first | assumption | exact upd_same))
  | (apply w_sqT; (first | assumption | exact SqT.of (by assumption) | exact SqT.of upd_same))
  | (apply w_sqL; (first | assumption | exact SqL.of (by assumption) | exact SqL.of upd_same))
  | (apply w_sqLT1; (first | assumption | exact SqL.of (by assumption) | exact SqL.of upd_same))
  | (apply w_sqLT2; (first | assumption | exact SqT.of (by assumption) | exact SqT.of upd_same))
  | (apply w_at; walk_at "h")
  | (apply w_sqT; focus (apply SqT.of; walk_at "h"))
  | (apply w_sqL; focus (apply SqL.of; walk_at "h"))
  | (apply w_sqLT1; focus (apply SqL.of; walk_at "h"))
  | (apply w_sqLT2; focus (apply SqT.of; walk_at "h"))
  | (apply w_strT; decide)
  | (apply w_strF; decide)
  | (apply w_gTupH; (with_unfolding_all rfl))
  | (apply w_ixA; (first | assumption | with_unfolding_all rfl))))
local macro_rules | `(tactic| walk_at "k") => `(tactic| ((try dsimp only [cxOf, Cx.nox, List.map_cons, List.map_nil]); refine w_start ?_))
def rNeNil (K : PySem.W.Frag) : R2 := fun x y H Q => ∃ a b xs, x = .ref a ∧ y = .ref b ∧ SqL K H a xs ∧ SqL K H b [] ∧ Q (.bl (!xs.isEmpty)) H
theorem op_neNil {X : Cx} (hu : X.A.units + 64 < cLine) : OpR X (compareOp .NotEq) (rNeNil X.K) := by
  intro pins s σ H x y v u Q I rx ry ⟨a, b, xs, e1, e2, ha, hb, q⟩
  subst e1 e2
  cases rx
  cases ry
  obtain ⟨its, r1, ⟨o1, n1, ho1, hc1, _, hd1⟩, _⟩ := I.list ha
  obtain ⟨its2, r2, ⟨o2, n2, ho2, hc2, _, hd2⟩, _⟩ := I.list hb
  cases r2
  have hu' : X.A.units < cLine := by omega
  have l1 : s.heap.IsList a its.toArray := ⟨o1, ho1, hc1, n1, hd1⟩
  have l2 : s.heap.IsList b #[] := ⟨o2, ho2, hc2, n2, hd2⟩
  cases r1 with
  | nil => exact SeqAt.RcNeAt.lists (e := fun _ => true) l1 l2 rfl hu' (fun j h1 _ => by simp at h1) X.prog X.w _ _ ⟨.bl false, H, I, rfl, q⟩
  | cons ra rb => exact SeqAt.RcNeAt.lists_lengths l1 l2 (by simp) hu' X.prog X.w _ _ ⟨.bl true, H, I, rfl, q⟩

end U
namespace U
open PySem L2
/-! the steps that need no word -/
local macro_rules | `(tactic| walk_at "h") => `(tactic| focus ((repeat (first | assumption | exact upd_same | (apply at_ne; rotate_left; (first | assumption | exact Ne.symm (by assumption))) | (apply at_new; rotate_left; assumption))); done))
local macro_rules | `(tactic| walk_at "go") => `(tactic| repeat (with_reducible first
  | refine Go.by_ ?_
  | (apply w_at; (first | assumption | exact upd_same))
  | (apply w_sqT; (first | assumption | exact SqT.of (by assumption) | exact SqT.of upd_same))
  | (apply w_sqL; (first | assumption | exact SqL.of (by assumption) | exact SqL.of upd_same))
  | (apply w_sqLT1; (first | assumption | exact SqL.of (by assumption) | exact SqL.of upd_same))
  | (apply w_sqLT2; (first | assumption | exact SqT.of (by assumption) | exact SqT.of upd_same))
  | (apply w_at; walk_at "h")
  | (apply w_sqT; focus (apply SqT.of; walk_at "h"))
  | (apply w_sqL; focus (apply SqL.of; walk_at "h"))
  | (apply w_sqLT1; focus (apply SqL.of; walk_at "h"))
  | (apply w_sqLT2; focus (apply SqT.of; walk_at "h"))
  | (apply w_strT; decide)
  | (apply w_strF; decide)
  | (apply w_gTupH; (with_unfolding_all rfl))
  | (apply w_ixA; (first | assumption | with_unfolding_all rfl))))
local macro_rules | `(tactic| walk_at "k") => `(tactic| ((try dsimp only [cxOf, Cx.nox, List.map_cons, List.map_nil]); refine w_start ?_))
theorem atI_last {xs : List V} {v : V} : atI (xs ++ [v]) (-1) = some v := by
  unfold atI ixN
  rw [if_neg (by decide), if_pos (by simp; omega)]
  show (xs ++ [v])[((-1 : Int) + ((xs ++ [v]).length : Nat)).toNat]? = some v
  have : ((-1 : Int) + ((xs ++ [v]).length : Nat)).toNat = xs.length := by simp; omega
  rw [this, List.getElem?_append_right (Nat.le_refl _), Nat.sub_self]
  rfl
theorem w_pop {l : Addr} {xs : List V} {y : V} {H : Hp} {Q : VK} (h : H l = some (.lst (xs ++ [y]))) (q : Q y (upd H l (.lst xs))) : rPop (.ref l) [] H Q :=
  ⟨l, xs ++ [y], y, rfl, rfl, h, by simp, by rw [List.dropLast_concat]; exact q⟩
theorem w_catT {K : PySem.W.Frag} {H : Hp} {Q : VK} {a b : Addr} {xs : List V} {y : V} (ha : H a = some (.tup xs)) (hb : H b = some (.tup [y])) (hx : xs ≠ []) (hl : xs.length ≤ 10) (q : ∀ p, H p = none → Q (.ref p) (upd H p (.tup (xs ++ [y])))) : rCatT K (.ref a) (.ref b) H Q :=
  ⟨a, b, xs, [y], rfl, rfl, SqT.of ha, SqT.of hb, hx, Nat.le_trans (show xs.length + 1 ≤ 11 by omega) (by decide), fun z => (by cases z), fun _ => q⟩
theorem Stk.fresh {nm : List Str} {D H : Hp} {pl hl : Addr} {stk : List (Addr × List Step)} {hst : List Hd} (h : Stk nm D H pl hl stk hst) {z : Addr} (e : H z = none) : ¬ z ∈ marks pl hl stk := fun hm => by
  rcases mem_c hm with rfl | hm
  · rw [h.pl_] at e; cases e
  rcases mem_c hm with rfl | hm
  · obtain ⟨hvs, a, _⟩ := h.hl_
    rw [a] at e; cases e
  · obtain ⟨x, hx, rfl⟩ := List.mem_map.mp hm
    obtain ⟨vs, c, _⟩ := h.piles x hx
    rw [c] at e; cases e
theorem sizeL_nil : sizeL [] = 0 := rfl
def spShut : Sp := fun vs H Q _ => ∃ (nm : List Str) (D : Hp) (pl hl : Addr) (q : Addr) (ss : List Step) (stk : List (Addr × List Step)) (hd : Hd) (hst : List Hd), vs = [.ref pl, .ref hl] ∧ Stk nm D H pl hl ((q, ss) :: stk) (hd :: hst) ∧ stkSize ((q, ss) :: stk) (hd :: hst) ≤ 1000 ∧
  ∀ (H' : Hp) (stk' : List (Addr × List Step)) (hst' : List Hd), Stk nm D H' pl hl stk' hst' → stkSize stk' hst' = stkSize ((q, ss) :: stk) (hd :: hst) → hstW hst' + 1 = hstW (hd :: hst) → Q .non H'
theorem size_done (ss : List Step) (hd : Hd) : sizeS (hd.done ss) = hd.size + sizeL ss := by
  cases hd with
  | lend x y => rfl
  | ifh n => rfl
  | ifb n b => show 1 + sizeL b + sizeL ss = _; rfl
  | whl n => rfl
section
variable {P : Program} {w : World} {K : PySem.W.Frag} {mg : Str → Option Value} {base : Heap} {A : Ad} (T : Tx K mg A)
include T
theorem ok_law_shut : FnOk P w K mg base CX0 1 A.f_law_shut A.d_law_shut ["_law_piles", "_law_heads"] spShut := by
  refine T.F_law_shut.ok sc_law_shut (fun vs H Q E h => ?_) (fun cdv A' outer s H vs Q E hr h => ?_)
  · obtain ⟨nm, D, pl, hl, q, ss, stk, hd, hst, rfl, _⟩ := h
    rfl
  obtain ⟨nm, D, pl, hl, q, ss, stk, hd, hst, rfl, S, hz, k⟩ := h
  obtain ⟨v, hvs, vs, hhl, hq, S1, hv, hss, qp, qh, qm, o1, o2, o3, d1, d2⟩ := S.pop
  have hpl := S.pl_
  rw [List.map_cons, List.reverse_cons, List.map_append] at hpl
  have n0 : pl ≠ hl := fun z => by have := S.nd; simp [marks] at this; exact this.1.1 z
  refine ⟨_, (pss_cons (ps_set (i := 2) sc_law_shut.nd rfl (Or.inl rfl) (pe_bm0 PySem.F.plainAttrs_list PySem.F.slot_list_pop PySem.F.type_list_pop mt_pop (pv 0)))
    (pss_cons (ps_set (i := 3) sc_law_shut.nd rfl (Or.inl rfl) (pe_bm0 PySem.F.plainAttrs_list PySem.F.slot_list_pop PySem.F.type_list_pop mt_pop (pv 1)))
    (pss_one (ps_if (PW.pt (pw_and (pt_cmpR op_eq (pe_ix ix_tup (pv 3) pe_int (fun _ _ => rfl)) pe_str (nomark _)) (pw_and1 (pt_cmpR op_eq (pe_callB call_len_seq (by rfl) T.z_len PySem.boot_len (pa_cons (pv 3) pa_nil)) pe_int (nomark _))))) (pss_cons (ps_expr (pe_bm PySem.F.plainAttrs_list PySem.F.slot_list_append PySem.F.type_list_append mt_append (pv 1) (pa_cons (pe_op op_catT (pv 3) (pe_tup (pa_cons (pv 2) pa_nil))) pa_nil)))
      (pss_one (ps_expr (pe_bm PySem.F.plainAttrs_list PySem.F.slot_list_append PySem.F.type_list_append mt_append (pv 0) (pa_cons (pe_lst pa_nil) pa_nil))))) (pss_one (ps_expr (pe_bm PySem.F.plainAttrs_list PySem.F.slot_list_append PySem.F.type_list_append mt_append (pe_ix ix_list (pv 0) (pe_un un_neg pe_int) (fun _ _ => rfl)) (pa_cons (pe_op op_catT (pv 3) (pe_tup (pa_cons (pv 2) pa_nil))) pa_nil)))))))), ?_⟩
  walk_at "k"
  walk_at "go"
  refine w_pop hpl ?_
  walk_at "go"
  refine w_pop (at_ne hhl n0.symm) ?_
  have hq1 : upd (upd H pl (.lst ((stk.map (·.1)).reverse.map V.ref))) hl (.lst hvs.reverse) q = some (.lst vs) := at_ne (at_ne hq qp) qh
  have mq : minus (upd (upd H pl (.lst ((stk.map (·.1)).reverse.map V.ref))) hl (.lst hvs.reverse)) (marks pl hl stk) q = some (.lst vs) := by rw [minus_ne qm]; exact hq1
  have zsz : sizeL ss ≤ stkSize ((q, ss) :: stk) (hd :: hst) := by unfold stkSize; simp; omega
  generalize upd (upd H pl (.lst ((stk.map (·.1)).reverse.map V.ref))) hl (.lst hvs.reverse) = H1 at S1 hv hss hq1 mq ⊢
  have hl1 := S1.hl_
  have mle := minus_le H1 (marks pl hl stk)
  have len_size : ∀ ss : List Step, ss.length ≤ sizeL ss := fun ss => by
    induction ss with
    | nil => exact Nat.le_refl _
    | cons a r ih =>
      have : 1 ≤ sizeS a := by cases a <;> (unfold sizeS; omega)
      show r.length + 1 ≤ sizeS a + sizeL r
      omega
  obtain ⟨q1, ss1, stk, rfl⟩ : ∃ q1 ss1 stk', stk = (q1, ss1) :: stk' := by
    cases stk with
    | nil => have := S1.len; simp at this
    | cons x r => exact ⟨x.1, x.2, r, rfl⟩
  cases hd with
  | ifh n =>
    obtain ⟨a, rfl, ha⟩ := hv
    have ha1 := mle _ _ ha
    obtain ⟨hvs1, hhl1, hE1⟩ := hl1
    walk_at "go"
    refine ifT (by simp) ?_
    walk_at "go"
    intro t1 ht1
    have hz1 := S1.put (same_new (o := .tup [V.ref q]) ht1)
    have ha2 := at_new (u := .tup [V.ref q]) ha1 ht1
    walk_at "go"
    refine w_catT ha2 upd_same (by simp) (by simp) fun t2 ht2 => ?_
    have S2 := hz1.put (same_new (o := .tup ([V.str "if", V.int n] ++ [V.ref q])) ht2)
    have f13 : Same (minus H1 (marks pl hl ((q1, ss1) :: stk))) (minus (upd (upd H1 t1 (.tup [V.ref q])) t2 (.tup ([V.str "if", V.int n] ++ [V.ref q]))) (marks pl hl ((q1, ss1) :: stk))) := fz fun b o hb e => ⟨at_new (at_new e ht1) ht2, hb⟩
    have ht22 : upd (upd H1 t1 (.tup [V.ref q])) t2 (.tup ([V.str "if", V.int n] ++ [V.ref q])) t2 = some (.tup ([V.str "if", V.int n] ++ [V.ref q])) := upd_same
    have nt2 := hz1.fresh ht2
    generalize upd (upd H1 t1 (.tup [V.ref q])) t2 (.tup ([V.str "if", V.int n] ++ [V.ref q])) = H3 at S2 f13 ht22 ⊢
    obtain ⟨hvs2, hhl2, hE2⟩ := S2.hl_
    have hpl2 := S2.pl_
    walk_at "go"
    refine w_app hhl2 (Nat.lt_of_le_of_lt (show _ ≤ 4 by rw [List.length_reverse, hE2.len]; exact S2.few) (by decide)) ?_
    have hpl3 := at_ne (u := .lst (hvs2.reverse ++ [V.ref t2])) hpl2 n0
    walk_at "go"
    intro q2 hq2
    walk_at "go"
    refine w_app (at_new hpl3 hq2) (Nat.lt_of_le_of_lt (show _ ≤ 5 by have h1 := S2.len; have h2 := S2.few; simp at h1; simp; omega) (by decide)) ?_
    walk_at "go"
    refine k _ _ _ (S2.push (hd := .ifb n ss) (v := .ref t2) hhl2 hE2 ⟨q, vs, ⟨t2, rfl, by rw [minus_ne nt2]; exact ht22⟩, f13 _ _ mq, hss.same f13⟩ ⟨o3, o1, o2⟩ d1 (upd_none hq2).1) ?_ ?_
    · unfold stkSize; simp [Hd.size, sizeL_nil]; omega
    · unfold hstW; simp [Hd.w]; omega
  | lend x y =>
    obtain ⟨a, rfl, ha⟩ := hv
    have ha1 := mle _ _ ha
    have hpl1 := S1.pl_
    rw [List.map_cons, List.reverse_cons, List.map_append] at hpl1
    have hlast : atI ((stk.map (·.1)).reverse.map V.ref ++ [q1].map V.ref) (-1) = some (V.ref q1) := atI_last
    obtain ⟨vs0, hq10, _⟩ := S1.piles (q1, ss1) List.mem_cons_self
    have hq100 : H1 q1 = some (.lst vs0) := hq10
    walk_at "go"

    walk_at "go"
    intro t1 ht1
    have hz1 := S1.put (same_new (o := .tup [V.ref q]) ht1)
    have ha2 := at_new (u := .tup [V.ref q]) ha1 ht1
    walk_at "go"
    refine w_catT ha2 upd_same (by simp) (by simp) fun t2 ht2 => ?_
    have S2 := hz1.put (same_new (o := .tup ([V.str "lend", V.str x, V.str y] ++ [V.ref q])) ht2)
    have s13 : Same H1 (upd (upd H1 t1 (.tup [V.ref q])) t2 (.tup ([V.str "lend", V.str x, V.str y] ++ [V.ref q]))) := (same_new ht1).new ht2
    have ht22 : upd (upd H1 t1 (.tup [V.ref q])) t2 (.tup ([V.str "lend", V.str x, V.str y] ++ [V.ref q])) t2 = some (.tup ([V.str "lend", V.str x, V.str y] ++ [V.ref q])) := upd_same
    have nt2 := hz1.fresh ht2
    generalize upd (upd H1 t1 (.tup [V.ref q])) t2 (.tup ([V.str "lend", V.str x, V.str y] ++ [V.ref q])) = H3 at S2 s13 ht22 ⊢
    have f13 : Same (minus H1 (marks pl hl ((q1, ss1) :: stk))) (minus H3 (marks pl hl ((q1, ss1) :: stk))) := fz fun b o hb e => ⟨s13 b o e, hb⟩
    obtain ⟨vs1, hq13, hss1⟩ := S2.piles (q1, ss1) List.mem_cons_self
    have hq33 : H3 q1 = some (.lst vs1) := hq13
    have zz : sizeL ss1 + sizeS (Hd.done ss (Hd.lend x y)) ≤ 1000 := by
      rw [size_done]
      have : sizeL ss1 + ((Hd.lend x y).size + sizeL ss) ≤ stkSize ((q, ss) :: (q1, ss1) :: stk) ((Hd.lend x y) :: hst) := by unfold stkSize; simp; omega
      omega
    walk_at "go"
    refine w_app hq33 ?_ ?_
    · have h1 : vs1.length = ss1.length := hss1.each.len
      have h2 := len_size ss1
      exact Nat.lt_of_le_of_lt (show vs1.length ≤ 1000 by omega) (by decide)
    walk_at "go"
    refine k _ _ _ (S2.step (st := Hd.done ss (Hd.lend x y)) hq33 ⟨q, vs, ⟨t2, rfl, by rw [minus_ne nt2]; exact ht22⟩, f13 _ _ mq, hss.same f13⟩ ⟨o3.1, o3.2.1, o1⟩ (fun y hy => by rcases mem_c hy with rfl | hy; exact o3.2.2.1; rcases mem_c hy with rfl | hy; exact o3.2.2.2; exact o2 y hy) (by show 1 + deepL ss + _ ≤ 4; omega) zz) ?_ ?_
    · unfold stkSize
      simp only [List.map_cons, List.sum_cons, sizeL_app, size_done]
      omega
    · unfold hstW; simp [Hd.w]; omega
  | ifb n b =>
    obtain ⟨lb, bs, ⟨a, rfl, ha⟩, hlb, hbs⟩ := hv
    have ha1 := mle _ _ ha
    have hpl1 := S1.pl_
    rw [List.map_cons, List.reverse_cons, List.map_append] at hpl1
    have hlast : atI ((stk.map (·.1)).reverse.map V.ref ++ [q1].map V.ref) (-1) = some (V.ref q1) := atI_last
    obtain ⟨vs0, hq10, _⟩ := S1.piles (q1, ss1) List.mem_cons_self
    have hq100 : H1 q1 = some (.lst vs0) := hq10
    walk_at "go"
    refine ifF (by simp) ?_
    walk_at "go"
    intro t1 ht1
    have hz1 := S1.put (same_new (o := .tup [V.ref q]) ht1)
    have ha2 := at_new (u := .tup [V.ref q]) ha1 ht1
    walk_at "go"
    refine w_catT ha2 upd_same (by simp) (by simp) fun t2 ht2 => ?_
    have S2 := hz1.put (same_new (o := .tup ([V.str "if", V.int n, V.ref lb] ++ [V.ref q])) ht2)
    have s13 : Same H1 (upd (upd H1 t1 (.tup [V.ref q])) t2 (.tup ([V.str "if", V.int n, V.ref lb] ++ [V.ref q]))) := (same_new ht1).new ht2
    have ht22 : upd (upd H1 t1 (.tup [V.ref q])) t2 (.tup ([V.str "if", V.int n, V.ref lb] ++ [V.ref q])) t2 = some (.tup ([V.str "if", V.int n, V.ref lb] ++ [V.ref q])) := upd_same
    have nt2 := hz1.fresh ht2
    generalize upd (upd H1 t1 (.tup [V.ref q])) t2 (.tup ([V.str "if", V.int n, V.ref lb] ++ [V.ref q])) = H3 at S2 s13 ht22 ⊢
    have f13 : Same (minus H1 (marks pl hl ((q1, ss1) :: stk))) (minus H3 (marks pl hl ((q1, ss1) :: stk))) := fz fun b o hb e => ⟨s13 b o e, hb⟩
    obtain ⟨vs1, hq13, hss1⟩ := S2.piles (q1, ss1) List.mem_cons_self
    have hq33 : H3 q1 = some (.lst vs1) := hq13
    have zz : sizeL ss1 + sizeS (Hd.done ss (Hd.ifb n b)) ≤ 1000 := by
      rw [size_done]
      have : sizeL ss1 + ((Hd.ifb n b).size + sizeL ss) ≤ stkSize ((q, ss) :: (q1, ss1) :: stk) ((Hd.ifb n b) :: hst) := by unfold stkSize; simp; omega
      omega
    walk_at "go"
    refine w_app hq33 ?_ ?_
    · have h1 : vs1.length = ss1.length := hss1.each.len
      have h2 := len_size ss1
      exact Nat.lt_of_le_of_lt (show vs1.length ≤ 1000 by omega) (by decide)
    walk_at "go"
    refine k _ _ _ (S2.step (st := Hd.done ss (Hd.ifb n b)) hq33 ⟨lb, q, bs, vs, ⟨t2, rfl, by rw [minus_ne nt2]; exact ht22⟩, f13 _ _ hlb, hbs.same f13, f13 _ _ mq, hss.same f13⟩ ⟨o3.1, o3.2.1, o1⟩ (fun y hy => by rcases mem_a hy with hy | hy; exact o3.2.2 y hy; exact o2 y hy) (by have d2' : deepL b + (hst.length + 1) ≤ 4 := d2; show 1 + max (deepL b) (deepL ss) + _ ≤ 4; omega) zz) ?_ ?_
    · unfold stkSize
      simp only [List.map_cons, List.sum_cons, sizeL_app, size_done]
      omega
    · unfold hstW; simp [Hd.w]; omega
  | whl n =>
    obtain ⟨a, rfl, ha⟩ := hv
    have ha1 := mle _ _ ha
    have hpl1 := S1.pl_
    rw [List.map_cons, List.reverse_cons, List.map_append] at hpl1
    have hlast : atI ((stk.map (·.1)).reverse.map V.ref ++ [q1].map V.ref) (-1) = some (V.ref q1) := atI_last
    obtain ⟨vs0, hq10, _⟩ := S1.piles (q1, ss1) List.mem_cons_self
    have hq100 : H1 q1 = some (.lst vs0) := hq10
    walk_at "go"

    walk_at "go"
    intro t1 ht1
    have hz1 := S1.put (same_new (o := .tup [V.ref q]) ht1)
    have ha2 := at_new (u := .tup [V.ref q]) ha1 ht1
    walk_at "go"
    refine w_catT ha2 upd_same (by simp) (by simp) fun t2 ht2 => ?_
    have S2 := hz1.put (same_new (o := .tup ([V.str "while", V.int n] ++ [V.ref q])) ht2)
    have s13 : Same H1 (upd (upd H1 t1 (.tup [V.ref q])) t2 (.tup ([V.str "while", V.int n] ++ [V.ref q]))) := (same_new ht1).new ht2
    have ht22 : upd (upd H1 t1 (.tup [V.ref q])) t2 (.tup ([V.str "while", V.int n] ++ [V.ref q])) t2 = some (.tup ([V.str "while", V.int n] ++ [V.ref q])) := upd_same
    have nt2 := hz1.fresh ht2
    generalize upd (upd H1 t1 (.tup [V.ref q])) t2 (.tup ([V.str "while", V.int n] ++ [V.ref q])) = H3 at S2 s13 ht22 ⊢
    have f13 : Same (minus H1 (marks pl hl ((q1, ss1) :: stk))) (minus H3 (marks pl hl ((q1, ss1) :: stk))) := fz fun b o hb e => ⟨s13 b o e, hb⟩
    obtain ⟨vs1, hq13, hss1⟩ := S2.piles (q1, ss1) List.mem_cons_self
    have hq33 : H3 q1 = some (.lst vs1) := hq13
    have zz : sizeL ss1 + sizeS (Hd.done ss (Hd.whl n)) ≤ 1000 := by
      rw [size_done]
      have : sizeL ss1 + ((Hd.whl n).size + sizeL ss) ≤ stkSize ((q, ss) :: (q1, ss1) :: stk) ((Hd.whl n) :: hst) := by unfold stkSize; simp; omega
      omega
    walk_at "go"
    refine w_app hq33 ?_ ?_
    · have h1 : vs1.length = ss1.length := hss1.each.len
      have h2 := len_size ss1
      exact Nat.lt_of_le_of_lt (show vs1.length ≤ 1000 by omega) (by decide)
    walk_at "go"
    refine k _ _ _ (S2.step (st := Hd.done ss (Hd.whl n)) hq33 ⟨q, vs, ⟨t2, rfl, by rw [minus_ne nt2]; exact ht22⟩, f13 _ _ mq, hss.same f13⟩ ⟨o3, o1⟩ (fun y hy => o2 y hy) (by show 1 + deepL ss + _ ≤ 4; omega) zz) ?_ ?_
    · unfold stkSize
      simp only [List.map_cons, List.sum_cons, sizeL_app, size_done]
      omega
    · unfold hstW; simp [Hd.w]; omega
end

end U
namespace U
open PySem L2
/-! the steps that need no word -/
local macro_rules | `(tactic| walk_at "h") => `(tactic| focus ((repeat (first | assumption | exact upd_same | (apply at_ne; rotate_left; (first | assumption | exact Ne.symm (by assumption))) | (apply at_new; rotate_left; assumption))); done))
local macro_rules | `(tactic| walk_at "go") => `(tactic| repeat (with_reducible first
  | refine Go.by_ ?_
  | (apply w_at; (first | assumption | exact upd_same))
  | (apply w_sqT; (first | assumption | exact SqT.of (by assumption) | exact SqT.of upd_same))
  | (apply w_sqL; (first | assumption | exact SqL.of (by assumption) | exact SqL.of upd_same))
  | (apply w_sqLT1; (first | assumption | exact SqL.of (by assumption) | exact SqL.of upd_same))
  | (apply w_sqLT2; (first | assumption | exact SqT.of (by assumption) | exact SqT.of upd_same))
  | (apply w_at; walk_at "h")
  | (apply w_sqT; focus (apply SqT.of; walk_at "h"))
  | (apply w_sqL; focus (apply SqL.of; walk_at "h"))
  | (apply w_sqLT1; focus (apply SqL.of; walk_at "h"))
  | (apply w_sqLT2; focus (apply SqT.of; walk_at "h"))
  | (apply w_strT; decide)
  | (apply w_strF; decide)
  | (apply w_gTupH; (with_unfolding_all rfl))
  | (apply w_ixA; (first | assumption | with_unfolding_all rfl))))
local macro_rules | `(tactic| walk_at "k") => `(tactic| ((try dsimp only [cxOf, Cx.nox, List.map_cons, List.map_nil]); refine w_start ?_))
theorem if_share {p A B U : Prop} [Decidable p] (hB : B) (hU : p → B → U) : if decide p = true then U else (if false = true then A else B) := by
  by_cases h : p
  · rw [if_pos (decide_eq_true h)]; exact hU h hB
  · rw [if_neg (by simp [h]), if_neg Bool.false_ne_true]; exact hB
theorem len_size : ∀ ss : List Step, ss.length ≤ sizeL ss
  | [] => Nat.le_refl _
  | a :: r => by
    have ih := len_size r
    have : 1 ≤ sizeS a := by cases a <;> (unfold sizeS; omega)
    show r.length + 1 ≤ sizeS a + sizeL r
    omega
theorem small_log {n : Int} (h : n.natAbs ≤ 10 ^ 61) : n.natAbs.log2 < 1920 := by
  by_cases h0 : n.natAbs = 0
  · rw [h0]; decide
  · exact (Nat.log2_lt h0).mpr (Nat.lt_of_le_of_lt h (by decide +kernel))
def spProg : Sp := fun vs H Q _ => ∃ (cl nl wl : Addr) (cells : List Int) (nm ws : List Str) (low : Int), vs = [.ref cl, .ref nl, .ref wl, .int low] ∧ H cl = some (.lst (cells.map V.int)) ∧ H nl = some (.lst (nm.map V.str)) ∧ H wl = some (.lst (ws.map V.str)) ∧
  cells.length ≤ 12 ∧ nm ≠ [] ∧ ws ≠ [] ∧ (∀ x ∈ nm, fitW x) ∧ (∀ x ∈ ws, fitW x) ∧ low.natAbs ≤ 10 ^ 60 ∧
  ∀ (p : Addr) (vs : List V) (ss : List Step) (H' : Hp), Same H H' → H' p = some (.lst vs) → StepsAt H' ss vs → FitL ss → (∀ y ∈ namesL ss, y ∈ nm) → deepL ss ≤ 4 → sizeL ss ≤ 13 → Q (.ref p) H'
section
variable {P : Program} {w : World} {K : PySem.W.Frag} {mg : Str → Option Value} {base : Heap} {A : Ad} (T : Tx K mg A)
include T
theorem ok_law_program : FnOk P w K mg base CX0 3 A.f_law_program A.d_law_program ["_law_cells", "_law_names", "_law_words_here", "_law_low"] spProg := by
  refine T.F_law_program.ok sc_law_program (fun vs H Q E h => ?_) (fun cdv A' outer s H vs Q E hr h => ?_)
  · obtain ⟨cl, nl, wl, cells, nm, ws, low, rfl, _⟩ := h
    rfl
  have G_law_mixed := ok_law_mixed (P := P) (w := w) (base := base) T
  have G_law_step := ok_law_step (P := P) (w := w) (base := base) T
  have G_law_shut := ok_law_shut (P := P) (w := w) (base := base) T
  obtain ⟨cl, nl, wl, cells, nm, ws, low, rfl, hcl, hnl, hwl, hcn, hne, hwe, fn, fw, hlow, k⟩ := h
  obtain ⟨x0, nr, hx0⟩ : ∃ x0 nr, nm = x0 :: nr := by
    cases nm with
    | nil => exact absurd rfl hne
    | cons x r => exact ⟨x, r, rfl⟩
  have hv0 : atI (nm.map V.str) (0 : Int) = some (.str x0) := atI_nat (j := 0) (by rw [hx0]; rfl)
  refine ⟨_, (pss_cons (ps_set (i := 4) sc_law_program.nd rfl (Or.inl rfl) (pe_lst (pa_cons (pe_lst (pa_cons (pe_tup (pa_cons pe_str (pa_cons (pe_ix ix_list (pv 1) pe_int (fun _ _ => rfl)) pa_nil))) pa_nil)) pa_nil)))
    (pss_cons (ps_set (i := 5) sc_law_program.nd rfl (Or.inl rfl) (pe_lst pa_nil))
    (pss_cons (ps_set (i := 6) sc_law_program.nd rfl (Or.inl rfl) pe_int)
    (pss_cons (ps_set (i := 7) sc_law_program.nd rfl (Or.inl rfl) pe_int)
    (pss_cons (ps_for PassesOwn.never rfl (pi_list (pv 0)) (pg_name (i := 8) sc_law_program.nd rfl (Or.inl rfl)) (pss_cons (ps_set (i := 9) sc_law_program.nd rfl (Or.inl rfl) (pe_op op_mod (pv 8) pe_int))
      (pss_cons (ps_set (i := 10) sc_law_program.nd rfl (Or.inl rfl) (pe_op op_add (pv 3) (pe_op op_mod (pe_call G_law_mixed (hr.mono (by decide)) rfl T.m_law_mixed T.F_law_mixed.kp T.b_law_mixed .nil pass0 (pa_cons (pv 8) (pa_cons pe_int pa_nil))) pe_int)))
      (pss_cons (ps_set (i := 7) sc_law_program.nd rfl (Or.inl rfl) (pe_op op_add (pv 7) (pe_callTy call_int1 (by rfl) T.z_int (by decide +kernel) (pa_cons (pe_cmpR op_eq (pv 9) pe_int (nomark _)) pa_nil))))
      (pss_one (ps_if (PW.pt (pw_and (pt_cmpR op_eq (pv 9) pe_int (nomark _)) (pw_and (pt_cmpR op_lt (pv 6) pe_int (nomark _)) (pw_and1 (pt_cmpR op_lt (pe_callB call_len_seq (by rfl) T.z_len PySem.boot_len (pa_cons (pv 5) pa_nil)) pe_int (nomark _)))))) (pss_cons (ps_set (i := 6) sc_law_program.nd rfl (Or.inl rfl) (pe_op op_add (pv 6) pe_int))
        (pss_cons (ps_expr (pe_bm PySem.F.plainAttrs_list PySem.F.slot_list_append PySem.F.type_list_append mt_append (pv 5) (pa_cons (pe_tup (pa_cons pe_str (pa_cons (pe_ix ix_list (pv 1) (pe_op op_mod (pe_call G_law_mixed (hr.mono (by decide)) rfl T.m_law_mixed T.F_law_mixed.kp T.b_law_mixed .nil pass0 (pa_cons (pv 8) (pa_cons pe_int pa_nil))) (pe_callB call_len_seq (by rfl) T.z_len PySem.boot_len (pa_cons (pv 1) pa_nil))) (fun _ _ => rfl)) (pa_cons (pe_ix ix_list (pv 1) (pe_op op_mod (pe_call G_law_mixed (hr.mono (by decide)) rfl T.m_law_mixed T.F_law_mixed.kp T.b_law_mixed .nil pass0 (pa_cons (pv 8) (pa_cons pe_int pa_nil))) (pe_callB call_len_seq (by rfl) T.z_len PySem.boot_len (pa_cons (pv 1) pa_nil))) (fun _ _ => rfl)) pa_nil)))) pa_nil)))
        (pss_one (ps_expr (pe_bm PySem.F.plainAttrs_list PySem.F.slot_list_append PySem.F.type_list_append mt_append (pv 4) (pa_cons (pe_lst pa_nil) pa_nil)))))) (pss_one (ps_if (PW.pt (pw_and (pt_cmpR op_in_seq (pv 9) (pe_tup (pa_cons pe_int (pa_cons pe_int (pa_cons pe_int pa_nil)))) rfl) (pw_and1 (pt_cmpR op_lt (pe_callB call_len_seq (by rfl) T.z_len PySem.boot_len (pa_cons (pv 5) pa_nil)) pe_int (nomark _))))) (pss_cons (ps_expr (pe_bm PySem.F.plainAttrs_list PySem.F.slot_list_append PySem.F.type_list_append mt_append (pv 5) (pa_cons (pe_tup (pa_cons (pe_ix ix_list (pe_lst (pa_cons pe_str (pa_cons pe_str (pa_cons pe_str pa_nil)))) (pe_op op_sub (pv 9) pe_int) (fun _ _ => rfl)) (pa_cons (pv 10) pa_nil))) pa_nil)))
          (pss_one (ps_expr (pe_bm PySem.F.plainAttrs_list PySem.F.slot_list_append PySem.F.type_list_append mt_append (pv 4) (pa_cons (pe_lst pa_nil) pa_nil))))) (pss_one (ps_if (PW.pt (pw_and (pt_cmpR op_in_seq (pv 9) (pe_tup (pa_cons pe_int (pa_cons pe_int pa_nil))) rfl) (pw_and1 (pt_cmpR (op_neNil hr.units) (pv 5) (pe_lst pa_nil) (nomark _))))) (pss_one (ps_expr (pe_call G_law_shut (hr.mono (by decide)) rfl T.m_law_shut T.F_law_shut.kp T.b_law_shut .nil pass0 (pa_cons (pv 4) (pa_cons (pv 5) pa_nil))))) (pss_one (ps_expr (pe_bm PySem.F.plainAttrs_list PySem.F.slot_list_append PySem.F.type_list_append mt_append (pe_ix ix_list (pv 4) (pe_un un_neg pe_int) (fun _ _ => rfl)) (pa_cons (pe_call G_law_step (hr.mono (by decide)) rfl T.m_law_step T.F_law_step.kp T.b_law_step .nil pass0 (pa_cons (pe_op op_add (pv 8) (pe_callTy call_int1 (by rfl) T.z_int (by decide +kernel) (pa_cons (pe_and (pe_cmpR op_eq (pv 9) pe_int (nomark _)) (pe_one (pe_cmpR op_gt (pv 7) pe_int (nomark _)))) pa_nil))) (pa_cons (pv 1) (pa_cons (pv 2) pa_nil)))) pa_nil))))))))))))))
    (pss_cons (ps_while PassesOwn.never (pt_cmpR (op_neNil hr.units) (pv 5) (pe_lst pa_nil) (nomark _)) (pss_one (ps_expr (pe_call G_law_shut (hr.mono (by decide)) rfl T.m_law_shut T.F_law_shut.kp T.b_law_shut .nil pass0 (pa_cons (pv 4) (pa_cons (pv 5) pa_nil))))))
    (pss_one (ps_ret (pe_ix ix_list (pv 4) pe_int (fun _ _ => rfl)))))))))), ?_⟩
  walk_at "k"
  walk_at "go"
  intro t ht
  walk_at "go"
  intro q hq
  walk_at "go"
  intro pl hpl
  walk_at "go"
  intro hl hhl
  walk_at "go"
  have hq0 := upd_none hq
  have hpl0 := upd_none hpl
  have hpl1 := upd_none hpl0.1
  have hhl0 := upd_none hhl
  have hhl1 := upd_none hhl0.1
  have hhl2 := upd_none hhl1.1
  have S0 : Stk nm H (upd (upd (upd (upd H t (.tup [.str "open", .str x0])) q (.lst [.ref t])) pl (.lst [.ref q])) hl (.lst [])) pl hl [(q, [.pl (.opn x0)])] [] := by
    refine ⟨(((same_new ht).new hq).new hpl).new hhl, fun b hb => ?_, ?_, at_new upd_same hhl, ⟨[], upd_same, Each.nil⟩, rfl, fun x hx => ?_, fun x hx => ?_, fun h hh => (by cases hh), Nat.zero_le _, fun i x hi => ?_, fun i h hi => (by simp at hi)⟩
    · simp [marks] at hb
      rcases hb with rfl | (rfl | rfl)
      · exact hpl1.1
      · exact hhl2.1
      · exact hq0.1
    · simp [marks]
      exact ⟨⟨fun z => hhl0.2 z.symm, hpl0.2⟩, hhl1.2⟩
    · have : x = (q, [.pl (.opn x0)]) := by simpa using hx
      subst this
      refine ⟨[.ref t], at_new (at_new upd_same hpl) hhl, .ref t, [], rfl, ⟨t, rfl, ?_⟩, rfl⟩
      rw [minus_ne]
      · exact at_new (at_new (at_new upd_same hq) hpl) hhl
      · simp [marks]
        exact ⟨fun z => hpl1.2 z.symm, fun z => hhl2.2 z.symm, fun z => hq0.2 z.symm⟩
    · have : x = (q, [.pl (.opn x0)]) := by simpa using hx
      subst this
      refine ⟨⟨fn x0 (by rw [hx0]; exact List.mem_cons_self), trivial⟩, fun y hy => ?_, by show 1 + 0 ≤ 1000; decide⟩
      have : y = x0 := by simpa [namesL, namesS, Pl.names] using hy
      rw [this, hx0]; exact List.mem_cons_self
    · cases i with
      | zero =>
        have : x = (q, [.pl (.opn x0)]) := by simpa using hi.symm
        subst this
        show max 0 0 + 0 ≤ 4
        decide
      | succ i => simp at hi
  have hcl0 := S0.same _ _ hcl
  walk_at "go"
  refine w_forL (xs := cells.map V.int) (fun i σ H' => ∃ (lends ties : Int) (v8 v9 v10 : Option V) (stk : List (Addr × List Step)) (hst : List Hd), σ = [some (.ref cl), some (.ref nl), some (.ref wl), some (.int low), some (.ref pl), some (.ref hl), some (.int lends), some (.int ties), v8, v9, v10] ∧ Stk nm H H' pl hl stk hst ∧ stkSize stk hst ≤ i + 1)
    ⟨0, 0, none, none, none, _, _, rfl, S0, by show 1 + 0 + 0 ≤ 0 + 1; decide⟩ (fun i σ H' ⟨_, _, _, _, _, _, _, _, S, _⟩ => SqL.of (S.same _ _ hcl)) ?_ ?_
  · rintro i v σ H1 hi ⟨lends, ties, v8, v9, v10, stk, hst, rfl, S, hsz⟩
    obtain ⟨c, hc, rfl⟩ : ∃ c, cells[i]? = some c ∧ V.int c = v := by
      rw [List.getElem?_map] at hi
      cases e : cells[i]? with
      | none => rw [e] at hi; cases hi
      | some x => rw [e] at hi; cases hi; exact ⟨_, rfl, rfl⟩
    have hi12 : i < 12 := Nat.lt_of_lt_of_le (List.getElem?_eq_some_iff.mp hc).1 hcn
    obtain ⟨xa, hxa, exa⟩ := pick_at hne c 1
    obtain ⟨xb, hxb, exb⟩ := pick_at hne c 2
    have pn : (0 : Int) < (((nm.map V.str).length : Nat) : Int) := by have := List.length_pos_iff.mpr hne; rw [List.length_map]; omega
    have m5 := Int.emod_nonneg (mixZ c 5) (show (3 : Int) ≠ 0 by decide)
    have m6 := Int.emod_lt_of_pos (mixZ c 5) (show (0 : Int) < 3 by decide)
    have hb : (low + mixZ c 5 % 3).natAbs.log2 < 1920 := small_log (by omega)
    obtain ⟨hvs, hhl1', hE1⟩ := S.hl_
    have hnl1 := S.same _ _ hnl
    have hplS := S.pl_
    walk_at "go"
    refine rI_go (by decide) ?_
    walk_at "go"
    refine ⟨c, 5, rfl, by decide, ?_⟩
    walk_at "go"
    refine rI_go (by decide) ?_
    walk_at "go"
    have n0 : pl ≠ hl := fun z => by have := S.nd; simp [marks] at this; exact this.1.1 z
    obtain ⟨q1, ss1, stk, rfl⟩ : ∃ q1 ss1 stk', stk = (q1, ss1) :: stk' := by
      cases stk with
      | nil => have := S.len; simp at this
      | cons x r => exact ⟨x.1, x.2, r, rfl⟩
    refine if_share ?_ (fun c9 hB => ?_)
    · walk_at "go"
      intro t1 ht1
      refine w_inTI (ws := [10, 11, 12]) upd_same ?_
      have S2 := S.put (same_new (o := .tup [V.int 10, V.int 11, V.int 12]) ht1)
      generalize upd H1 t1 (.tup [V.int 10, V.int 11, V.int 12]) = H2 at S2 ⊢
      obtain ⟨hvs2, hhl2, hE2⟩ := S2.hl_
      walk_at "go"
      refine if_share ?_ (fun c10 hB2 => ?_)
      · walk_at "go"
        intro t3 ht3
        refine w_inTI (ws := [13, 14]) upd_same ?_
        have S3 := S2.put (same_new (o := .tup [V.int 13, V.int 14]) ht3)
        generalize upd H2 t3 (.tup [V.int 13, V.int 14]) = H3 at S3 ⊢
        obtain ⟨hvs3, hhl3, hE3⟩ := S3.hl_
        walk_at "go"
        refine if_share ?_ (fun c13 hB3 => ?_)
        · have Sx := S3
          generalize H3 = Hx at Sx ⊢
          obtain ⟨vs9, hq9, _⟩ := Sx.piles (q1, ss1) List.mem_cons_self
          have hq99 : Hx q1 = some (.lst vs9) := hq9
          have hplx : Hx pl = some (.lst ((stk.map (·.1)).reverse.map V.ref ++ [V.ref q1])) := by rw [Sx.pl_]; simp
          have hlast : atI ((stk.map (·.1)).reverse.map V.ref ++ [V.ref q1]) (-1) = some (V.ref q1) := atI_last
          walk_at "go"
          refine if_d (fun c8 => ?_) (fun c8 => ?_)
          · walk_at "go"
            refine ⟨_, nl, wl, nm, ws, rfl, Sx.same _ _ hnl, Sx.same _ _ hwl, hne, hwe, fn, fw, fun p' v H7 s7 hv7 hf7 hn7 => ?_⟩
            have S7 := Sx.put s7
            obtain ⟨vs7, hq7, hss7⟩ := S7.piles (q1, ss1) List.mem_cons_self
            have hq77 : H7 q1 = some (.lst vs7) := hq7
            have sz7 : sizeL ss1 ≤ stkSize ((q1, ss1) :: stk) hst := by unfold stkSize; simp; omega
            walk_at "go"
            refine w_app hq77 ?_ ?_
            · have h1 : vs7.length = ss1.length := hss7.each.len
              have h2 := len_size ss1
              exact Nat.lt_of_le_of_lt (show vs7.length ≤ 1000 by omega) (by decide)
            walk_at "go"
            obtain ⟨a7, rfl, ha7⟩ := hv7
            refine ⟨_, _, _, _, _, _, hst, rfl, S7.step (st := .pl p') hq77 ⟨a7, rfl, by rw [minus_ne (S7.away ha7 (fun vs z => by cases z))]; exact ha7⟩ hf7 (fun y hy => hn7 y hy) (by show 0 + _ ≤ 4; have := S.few; omega) (by show sizeL ss1 + 1 ≤ 1000; omega), ?_⟩
            unfold stkSize at hsz ⊢
            simp only [List.map_cons, List.sum_cons, sizeL_app] at hsz ⊢
            show sizeL ss1 + 1 + _ + _ ≤ _
            omega
          · walk_at "go"
            refine ⟨_, nl, wl, nm, ws, rfl, Sx.same _ _ hnl, Sx.same _ _ hwl, hne, hwe, fn, fw, fun p' v H7 s7 hv7 hf7 hn7 => ?_⟩
            have S7 := Sx.put s7
            obtain ⟨vs7, hq7, hss7⟩ := S7.piles (q1, ss1) List.mem_cons_self
            have hq77 : H7 q1 = some (.lst vs7) := hq7
            have sz7 : sizeL ss1 ≤ stkSize ((q1, ss1) :: stk) hst := by unfold stkSize; simp; omega
            walk_at "go"
            refine w_app hq77 ?_ ?_
            · have h1 : vs7.length = ss1.length := hss7.each.len
              have h2 := len_size ss1
              exact Nat.lt_of_le_of_lt (show vs7.length ≤ 1000 by omega) (by decide)
            walk_at "go"
            obtain ⟨a7, rfl, ha7⟩ := hv7
            refine ⟨_, _, _, _, _, _, hst, rfl, S7.step (st := .pl p') hq77 ⟨a7, rfl, by rw [minus_ne (S7.away ha7 (fun vs z => by cases z))]; exact ha7⟩ hf7 (fun y hy => hn7 y hy) (by show 0 + _ ≤ 4; have := S.few; omega) (by show sizeL ss1 + 1 ≤ 1000; omega), ?_⟩
            unfold stkSize at hsz ⊢
            simp only [List.map_cons, List.sum_cons, sizeL_app] at hsz ⊢
            show sizeL ss1 + 1 + _ + _ ≤ _
            omega
        · walk_at "go"
          intro z3 hz3
          refine ⟨hl, z3, hvs3.reverse, rfl, rfl, SqL.of (at_new hhl3 hz3), SqL.of upd_same, ?_⟩
          have S4 := S3.put (same_new (o := .lst []) hz3)
          generalize upd H3 z3 (.lst []) = H4 at S4 ⊢
          cases hst with
          | nil =>
            have e0 : hvs3 = [] := List.length_eq_zero_iff.mp hE3.len
            rw [e0]
            refine ⟨false, rfl, ifF rfl ?_⟩
            have Sx := S4
            generalize H4 = Hx at Sx ⊢
            obtain ⟨vs9, hq9, _⟩ := Sx.piles (q1, ss1) List.mem_cons_self
            have hq99 : Hx q1 = some (.lst vs9) := hq9
            have hplx : Hx pl = some (.lst ((stk.map (·.1)).reverse.map V.ref ++ [V.ref q1])) := by rw [Sx.pl_]; simp
            have hlast : atI ((stk.map (·.1)).reverse.map V.ref ++ [V.ref q1]) (-1) = some (V.ref q1) := atI_last
            walk_at "go"
            refine if_d (fun c8 => ?_) (fun c8 => ?_)
            · walk_at "go"
              refine ⟨_, nl, wl, nm, ws, rfl, Sx.same _ _ hnl, Sx.same _ _ hwl, hne, hwe, fn, fw, fun p' v H7 s7 hv7 hf7 hn7 => ?_⟩
              have S7 := Sx.put s7
              obtain ⟨vs7, hq7, hss7⟩ := S7.piles (q1, ss1) List.mem_cons_self
              have hq77 : H7 q1 = some (.lst vs7) := hq7
              have sz7 : sizeL ss1 ≤ stkSize ((q1, ss1) :: stk) [] := by unfold stkSize; simp <;> omega
              walk_at "go"
              refine w_app hq77 ?_ ?_
              · have h1 : vs7.length = ss1.length := hss7.each.len
                have h2 := len_size ss1
                exact Nat.lt_of_le_of_lt (show vs7.length ≤ 1000 by omega) (by decide)
              walk_at "go"
              obtain ⟨a7, rfl, ha7⟩ := hv7
              refine ⟨_, _, _, _, _, _, [], rfl, S7.step (st := .pl p') hq77 ⟨a7, rfl, by rw [minus_ne (S7.away ha7 (fun vs z => by cases z))]; exact ha7⟩ hf7 (fun y hy => hn7 y hy) (by show 0 + _ ≤ 4; have := S.few; omega) (by show sizeL ss1 + 1 ≤ 1000; omega), ?_⟩
              unfold stkSize at hsz ⊢
              simp only [List.map_cons, List.sum_cons, sizeL_app] at hsz ⊢
              show sizeL ss1 + 1 + _ + _ ≤ _
              omega
            · walk_at "go"
              refine ⟨_, nl, wl, nm, ws, rfl, Sx.same _ _ hnl, Sx.same _ _ hwl, hne, hwe, fn, fw, fun p' v H7 s7 hv7 hf7 hn7 => ?_⟩
              have S7 := Sx.put s7
              obtain ⟨vs7, hq7, hss7⟩ := S7.piles (q1, ss1) List.mem_cons_self
              have hq77 : H7 q1 = some (.lst vs7) := hq7
              have sz7 : sizeL ss1 ≤ stkSize ((q1, ss1) :: stk) [] := by unfold stkSize; simp <;> omega
              walk_at "go"
              refine w_app hq77 ?_ ?_
              · have h1 : vs7.length = ss1.length := hss7.each.len
                have h2 := len_size ss1
                exact Nat.lt_of_le_of_lt (show vs7.length ≤ 1000 by omega) (by decide)
              walk_at "go"
              obtain ⟨a7, rfl, ha7⟩ := hv7
              refine ⟨_, _, _, _, _, _, [], rfl, S7.step (st := .pl p') hq77 ⟨a7, rfl, by rw [minus_ne (S7.away ha7 (fun vs z => by cases z))]; exact ha7⟩ hf7 (fun y hy => hn7 y hy) (by show 0 + _ ≤ 4; have := S.few; omega) (by show sizeL ss1 + 1 ≤ 1000; omega), ?_⟩
              unfold stkSize at hsz ⊢
              simp only [List.map_cons, List.sum_cons, sizeL_app] at hsz ⊢
              show sizeL ss1 + 1 + _ + _ ≤ _
              omega
          | cons hd hst =>
            have e0 : hvs3.reverse.isEmpty = false := by
              have := hE3.len
              cases hvs3 with
              | nil => simp at this
              | cons a b => simp
            rw [e0]
            refine ⟨true, rfl, ifT rfl ?_⟩
            walk_at "go"
            refine ⟨nm, H, pl, hl, q1, ss1, stk, hd, hst, rfl, S4, by omega, fun H5 stk5 hst5 S5 z5 _ => ?_⟩
            walk_at "go"
            exact ⟨_, _, _, _, _, _, _, rfl, S5, by omega⟩
      · walk_at "go"
        refine if_d (fun c4 => ?_) (fun c4 => ?_)
        · have c4' : hst.length < 4 := by rw [List.length_reverse, hE2.len] at c4; omega
          walk_at "go"
          intro t3 ht3
          obtain ⟨wd, hd, hix, hat, hok, hdp, hsz1⟩ : ∃ (wd : Str) (hd : Hd), atI [V.str "if", V.str "while", V.str "while"] (c % 16 - 10) = some (.str wd) ∧ (∀ (Hz : Hp) (z : Addr), Hz z = some (.tup [.str wd, .int (low + mixZ c 5 % 3)]) → HdAt Hz hd (.ref z)) ∧ hd.ok nm ∧ hd.deep = 0 ∧ hd.size = 1 := by
            rcases mem_c c10 with e | e
            · exact ⟨"if", .ifh (low + mixZ c 5 % 3), by rw [e]; rfl, fun Hz z e => ⟨z, rfl, e⟩, hb, rfl, rfl⟩
            rcases mem_c e with e | e
            · exact ⟨"while", .whl (low + mixZ c 5 % 3), by rw [e]; rfl, fun Hz z e => ⟨z, rfl, e⟩, hb, rfl, rfl⟩
            · have e := List.mem_singleton.mp e
              exact ⟨"while", .whl (low + mixZ c 5 % 3), by rw [e]; rfl, fun Hz z e => ⟨z, rfl, e⟩, hb, rfl, rfl⟩
          walk_at "go"
          intro z5 hz5
          have S5 := S2.put (same_new (o := .lst [V.str "if", V.str "while", V.str "while"]) ht3)
          have S6 := S5.put (same_new (o := .tup [.str wd, .int (low + mixZ c 5 % 3)]) hz5)
          have nz5 := S5.fresh hz5
          have hz55 : upd (upd H2 t3 (.lst [V.str "if", V.str "while", V.str "while"])) z5 (.tup [.str wd, .int (low + mixZ c 5 % 3)]) z5 = some (.tup [.str wd, .int (low + mixZ c 5 % 3)]) := upd_same
          generalize upd (upd H2 t3 (.lst [V.str "if", V.str "while", V.str "while"])) z5 (.tup [.str wd, .int (low + mixZ c 5 % 3)]) = H6 at S6 hz55 ⊢
          obtain ⟨hvs6, hhl6, hE6⟩ := S6.hl_
          walk_at "go"
          refine w_app hhl6 (Nat.lt_of_le_of_lt (show _ ≤ 4 by rw [List.length_reverse, hE6.len]; exact S6.few) (by decide)) ?_
          have hpl7 := at_ne (u := .lst (hvs6.reverse ++ [V.ref z5])) S6.pl_ n0
          walk_at "go"
          intro q2 hq2
          walk_at "go"
          refine w_app (at_new hpl7 hq2) (Nat.lt_of_le_of_lt (show _ ≤ 5 by have h1 := S6.len; have h2 := S6.few; simp at h1; simp; omega) (by decide)) ?_
          walk_at "go"
          refine ⟨_, _, _, _, _, _, _, rfl, S6.push (hd := hd) (v := .ref z5) hhl6 hE6 (hat _ _ (by rw [minus_ne nz5]; exact hz55)) hok (by rw [hdp]; omega) (upd_none hq2).1, ?_⟩
          unfold stkSize at hsz ⊢
          simp only [List.map_cons, List.sum_cons, sizeL_nil, hsz1] at hsz ⊢
          omega
        · exact hB2
    · walk_at "go"
      refine if_d (fun cl2 => ?_) (fun cl2 => ?_)
      · walk_at "go"
        refine if_d (fun c4 => ?_) (fun c4 => ?_)
        · have c4' : hst.length < 4 := by rw [List.length_reverse, hE1.len] at c4; omega
          walk_at "go"
          refine ⟨c, 1, rfl, by decide, ?_⟩
          walk_at "go"
          refine rI_go pn ?_
          walk_at "go"
          refine ⟨c, 2, rfl, by decide, ?_⟩
          walk_at "go"
          refine rI_go pn ?_
          walk_at "go"
          intro z5 hz5
          have S6 := S.put (same_new (o := .tup [.str "lend", .str xa, .str xb]) hz5)
          have nz5 := S.fresh hz5
          have hz55 : upd H1 z5 (.tup [.str "lend", .str xa, .str xb]) z5 = some (.tup [.str "lend", .str xa, .str xb]) := upd_same
          generalize upd H1 z5 (.tup [.str "lend", .str xa, .str xb]) = H6 at S6 hz55 ⊢
          obtain ⟨hvs6, hhl6, hE6⟩ := S6.hl_
          walk_at "go"
          refine w_app hhl6 (Nat.lt_of_le_of_lt (show _ ≤ 4 by rw [List.length_reverse, hE6.len]; exact S6.few) (by decide)) ?_
          have hpl7 := at_ne (u := .lst (hvs6.reverse ++ [V.ref z5])) S6.pl_ n0
          walk_at "go"
          intro q2 hq2
          walk_at "go"
          refine w_app (at_new hpl7 hq2) (Nat.lt_of_le_of_lt (show _ ≤ 5 by have h1 := S6.len; have h2 := S6.few; simp at h1; simp; omega) (by decide)) ?_
          walk_at "go"
          refine ⟨_, _, _, _, _, _, _, rfl, S6.push (hd := .lend xa xb) (v := .ref z5) hhl6 hE6 ⟨z5, rfl, by rw [minus_ne nz5]; exact hz55⟩ ⟨fn _ hxa, fn _ hxb, hxa, hxb⟩ (by show 0 + _ ≤ 4; omega) (upd_none hq2).1, ?_⟩
          unfold stkSize at hsz ⊢
          simp only [List.map_cons, List.sum_cons, sizeL_nil] at hsz ⊢
          show _ + _ + (1 + _) ≤ _
          omega
        · exact hB
      · exact hB
  · rintro σ H1 ⟨lends, ties, v8, v9, v10, stk, hst, rfl, S, hsz⟩
    rw [List.length_map] at hsz
    walk_at "go"
    refine w_while (fun m σ H' => ∃ (stk : List (Addr × List Step)) (hst : List Hd), σ = [some (.ref cl), some (.ref nl), some (.ref wl), some (.int low), some (.ref pl), some (.ref hl), some (.int lends), some (.int ties), v8, v9, v10] ∧ Stk nm H H' pl hl stk hst ∧ stkSize stk hst ≤ 13 ∧ m = hstW hst)
      (hstW hst) ⟨stk, hst, rfl, S, by omega, rfl⟩ ?_
    rintro m σ H2 ⟨stk, hst, rfl, S, hsz, rfl⟩
    obtain ⟨hvs, hhl1, hE1⟩ := S.hl_
    obtain ⟨q1, ss1, stk, rfl⟩ : ∃ q1 ss1 stk', stk = (q1, ss1) :: stk' := by
      cases stk with
      | nil => have := S.len; simp at this
      | cons x r => exact ⟨x.1, x.2, r, rfl⟩
    walk_at "go"
    intro z3 hz3
    refine ⟨hl, z3, hvs.reverse, rfl, rfl, SqL.of (at_new hhl1 hz3), SqL.of upd_same, ?_⟩
    have S4 := S.put (same_new (o := .lst []) hz3)
    generalize upd H2 z3 (.lst []) = H4 at S4 ⊢
    cases hst with
    | nil =>
      have e0 : hvs = [] := List.length_eq_zero_iff.mp hE1.len
      rw [e0]
      refine ⟨false, rfl, ifF rfl ?_⟩
      have estk : stk = [] := by have := S.len; simp at this; exact this
      subst estk
      have hpl4 := S4.pl_
      have hpl5 : H4 pl = some (.lst [V.ref q1]) := hpl4
      obtain ⟨vs9, hq9, hss9⟩ := S4.piles (q1, ss1) List.mem_cons_self
      obtain ⟨o1, o2, _⟩ := S4.ok (q1, ss1) List.mem_cons_self
      have dd := S4.deep 0 (q1, ss1) rfl
      walk_at "go"
      refine k q1 vs9 ss1 H4 S4.same hq9 (hss9.same (minus_le _ _)) o1 o2 (by have : deepL ss1 + 0 ≤ 4 := dd; omega) ?_
      unfold stkSize at hsz
      simp at hsz
      exact hsz
    | cons hd hst =>
      have e0 : hvs.reverse.isEmpty = false := by
        have := hE1.len
        cases hvs with
        | nil => simp at this
        | cons a b => simp
      rw [e0]
      refine ⟨true, rfl, ifT rfl ?_⟩
      refine ⟨_, fun _ _ z => z, ?_⟩
      walk_at "go"
      refine ⟨nm, H, pl, hl, q1, ss1, stk, hd, hst, rfl, S4, by omega, fun H5 stk5 hst5 S5 z5 w5 => ?_⟩
      walk_at "go"
      exact ⟨hstW hst5, by omega, stk5, hst5, rfl, S5, by omega, rfl⟩
end

end U
namespace U
open PySem L2
/-! the steps that need no word -/
local macro_rules | `(tactic| walk_at "h") => `(tactic| focus ((repeat (first | assumption | exact upd_same | (apply at_ne; rotate_left; (first | assumption | exact Ne.symm (by assumption))) | (apply at_new; rotate_left; assumption))); done))
local macro_rules | `(tactic| walk_at "go") => `(tactic| repeat (with_reducible first
  | refine Go.by_ ?_
  | (apply w_at; (first | assumption | exact upd_same))
  | (apply w_sqT; (first | assumption | exact SqT.of (by assumption) | exact SqT.of upd_same))
  | (apply w_sqL; (first | assumption | exact SqL.of (by assumption) | exact SqL.of upd_same))
  | (apply w_sqLT1; (first | assumption | exact SqL.of (by assumption) | exact SqL.of upd_same))
  | (apply w_sqLT2; (first | assumption | exact SqT.of (by assumption) | exact SqT.of upd_same))
  | (apply w_at; walk_at "h")
  | (apply w_sqT; focus (apply SqT.of; walk_at "h"))
  | (apply w_sqL; focus (apply SqL.of; walk_at "h"))
  | (apply w_sqLT1; focus (apply SqL.of; walk_at "h"))
  | (apply w_sqLT2; focus (apply SqT.of; walk_at "h"))
  | (apply w_strT; decide)
  | (apply w_strF; decide)
  | (apply w_gTupH; (with_unfolding_all rfl))
  | (apply w_ixA; (first | assumption | with_unfolding_all rfl))))
local macro_rules | `(tactic| walk_at "k") => `(tactic| ((try dsimp only [cxOf, Cx.nox, List.map_cons, List.map_nil]); refine w_start ?_))
/-! ## sorted(set(texts)): a list of texts, no longer than the given one -/
namespace TX
open PySem PySem.Spec PyProof.Rows L2
/-- the payload D of a set holds the texts l; its table rises, and its order is the world's or the table's -/
structure Holds (P : Program) (w : World) (D : Froz.SD) (l : List Str) : Prop where
  tx : Froz.TxOk P w D l
  up : Ris D.2.2.place.toList
  led : w.params.followText "set-order" = true ∨ D.2.2.led = true
/-- a set of at most n texts at a -/
def SetS (P : Program) (w : World) (h : Heap) (a : Addr) (n : Nat) : Prop := ∃ D l, h.get? a = some (Froz.sObj "set" D) ∧ Holds P w D l ∧ l.length ≤ n
section
variable {P : Program} {w : World} {h h' : Heap} {a : Addr} {n : Nat} {D : Froz.SD} {l : List Str} {k : Str} {u : Tok}
theorem SetS.at : SetS P w h a n → (∀ o, h.get? a = some o → h'.get? a = some o) → SetS P w h' a n := fun ⟨D, l, e, r⟩ k => ⟨D, l, k _ e, r⟩
/-- what a new set holds -/
def d0 (w : World) : Froz.SD := (#[], 0, .fresh 0 0 (!w.params.followText "set-order"))
theorem Holds.start : Holds P w (d0 w) [] := by
  refine ⟨Froz.TxOk.nil rfl, List.Pairwise.nil, ?_⟩
  unfold d0
  cases w.params.followText "set-order" with
  | true => exact .inl rfl
  | false => exact .inr rfl
theorem tail_up {ep : Nat} {es : Array (Int × Value)} {t : SetTable} {b : Bool} (r : Ris t.place.toList) : Ris (Froz.tailTx ep es t b).2.2.place.toList := by
  unfold Froz.tailTx
  split
  · exact relayAll_ris ..
  · exact r
theorem tail_led {ep : Nat} {es : Array (Int × Value)} {t : SetTable} {b : Bool} : (Froz.tailTx ep es t b).2.2.led = t.led := by
  unfold Froz.tailTx
  split
  · exact relayAll_led ..
  · rfl
theorem Holds.more (F : Holds P w D l) : Holds P w (Froz.addTx (hashStr w k) (.str k u) D) (k :: l) := by
  obtain ⟨es, ep, t⟩ := D
  have r1 := layNew_ris t es (hashStr w k) (.str k u) F.up
  have d1 := layNew_led t es (hashStr w k) (.str k u)
  refine ⟨Froz.add_ok u F.tx, tail_up ?_, F.led.imp_right fun z => tail_led.trans ?_⟩
  · show Ris (SetTable.place (if _ then _ else _)).toList
    split <;> exact r1
  · show SetTable.led (if _ then _ else _) = true
    split <;> exact d1.trans z
end
section
variable {P : Program} {w : World} {A : Around} {E : Value → Shared → Prop} {s : Shared} {a : Addr} {n : Nat} {D : Froz.SD} {l : List Str} {k : Str} {u : Tok}
/-- a text is put in: it is new, or nothing happens -/
theorem add_txt {Q : Bool → Shared → Prop} (F : Holds P w D l) (ha : s.heap.get? a = some (Froz.sObj "set" D)) (room : l.length + 1 < scanBound)
    (q : ∀ b h' D' l', Heap.SameBut a s.heap h' → h'.get? a = some (Froz.sObj "set" D') → Holds P w D' l' → l'.length ≤ l.length + 1 → Q b { s with heap := h' }) : wpAny (model P w) A (setAddHashed a (.str k u) (hashStr w k)) Q E s := by
  by_cases new : k ∉ l
  · exact Froz.add_x ha F.tx new room (q true _ _ _ (Heap.SameBut.update ..) (Froz.get_upd _ ha rfl) F.more (Nat.le_refl _))
  · have few : D.1.size < scanBound := by have := F.tx.sz; omega
    have ⟨e, he, same⟩ := (F.tx.mem k).mp (Decidable.not_not.mp new)
    cases at_ : D.1.toList.findIdx? (fun e => (strKind P w).is k e.2) with
    | none => have := List.findIdx?_eq_none_iff.mp at_ e he; rw [same] at this; cases this
    | some j =>
      have scan : wpAny (model P w) A (setAddByScan a (.str k u) (hashStr w k) D.1 D.2.2) (fun r s1 => r = some false ∧ s1 = s) E s := by
        unfold setAddByScan
        refine wpAny_bind (wpAny_rule (wpAny_bind (wpAny_setScan_of (knd := strKind P w) (Froz.is_str k u) ha rfl F.tx.fit F.tx.el ?_)))
        rw [at_]
        exact wpAny_pure ⟨rfl, rfl⟩
      unfold setAddHashed setAddHashedIn; refine wpAny_holding (wpAny_bind (wpAny_setState_of ha rfl F.tx.fit ?_))
      dsimp only
      rw [byScan_of (knd := strKind P w) rfl few F.tx.el, if_pos rfl]
      refine wpAny_bind (wpAny_mono scan (fun r s1 ⟨e1, e2⟩ => ?_) fun _ _ z => z)
      subst e1 e2
      exact wpAny_pure (q _ _ D l (Heap.SameBut.refl ..) ha F (Nat.le_succ _))
/-- set.update's loop, over anything that gives n texts -/
theorem loop_txts {I S : Addr} {fp wr : List Addr} {G : Array GenState → Array GenState → Prop} {Pv : Nat → Value → Prop} {St : Nat → Shared → Prop} {R : Result → Shared → Prop} (W : WalksS P w A.in1 I fp wr G n Pv St) (out : S ∉ fp) (few : n + 1 < scanBound) (txt : ∀ i v, Pv i v → ∃ x t, v = .str x t) :
    ∀ (m i : Nat) (s : Shared) (D : Froz.SD) (l : List Str), i + m = n → St i s → s.heap.get? S = some (Froz.sObj "set" D) → Holds P w D l → l.length ≤ i →
      (∀ s', Moved (S :: wr) G s s' → SetS P w s'.heap S n → R (.ok (.ret .none)) s') → codeAny (model P w) A (.builtin "set.update.loop" ⟨[.ref S, .ref I], []⟩) R s := by
  intro m
  have own : ∀ {b : Addr}, b ∈ wr → b ≠ S := fun hb e => out (W.sub _ (e ▸ hb))
  induction m with
  | zero =>
    intro i s D l (e : i = n) st hD F hl end_; subst e
    refine codeAny_builtin PyProof.Rows.F.entry_set_update_loop ?_; rw [Around.under_plainId PyProof.Rows.F.plain_set_update_loop _]
    refine wpAny_bind (m := pyNext (.ref I)) (W.done s _ _ st fun s1 mv => wpAny_pure (end_ s1 (mv.mono fun _ => List.mem_cons_of_mem _) ⟨D, l, mv.heap S _ (fun z => own z rfl) hD, F, hl⟩))
  | succ m ih =>
    intro i s D l e st hD F hl end_
    refine codeAny_builtin PyProof.Rows.F.entry_set_update_loop ?_; rw [Around.under_plainId PyProof.Rows.F.plain_set_update_loop _]
    refine wpAny_bind (m := pyNext (.ref I)) (W.item i s _ _ (by omega) st fun v s1 hv st1 mv => ?_)
    obtain ⟨x, t, rfl⟩ := txt i v hv
    have hD1 := mv.heap S _ (fun z => own z rfl) hD
    refine wpAny_bind (m := holding [Value.str x t] (setAdd S (.str x t))) (wpAny_holding ?_)
    unfold setAdd; refine wpAny_holding (wpAny_bind ((strKind P w).pyHash (Froz.is_str x t) (add_txt (s := { s1 with toks := s1.toks + 1 }) F hD1 (by omega) fun b h' D' l' sb hD' F' hl' => ?_)))
    have keep : ∀ c ∈ fp, ∀ o, s1.heap.get? c = some o → h'.get? c = some o := fun c hc o q => (sb.2 c fun z => out (z ▸ hc)).trans q
    refine wpAny_pure ⟨plainId_quiet PyProof.Rows.F.plain_set_update_loop _, ih (i + 1) { s1 with heap := h', toks := s1.toks + 1 } D' l' (by omega) (W.frame _ s1 _ _ st1 (Nat.le_succ _) keep) hD' F' (by omega) fun s2 mv2 R2 => ?_⟩
    refine end_ s2 (Moved.trans W.gtrans ((mv.mono fun _ => List.mem_cons_of_mem _).then_heap (Nat.le_succ _) fun c o hc q => ?_) mv2) R2
    exact (sb.2 c fun z => hc (z ▸ List.mem_cons_self ..)).trans q
/-- set.__init__ of a new set and a list of texts -/
theorem init_txts {S l : Addr} {items : Array Value} {Q : PySem.Fin → Shared → Prop} (hh : A.handled = none) (hS : s.heap.get? S = some (Froz.sObj "set" (d0 w))) (hl : s.heap.IsList l items) (ne : S ≠ l)
    (txt : ∀ v ∈ items.toList, ∃ x t, v = Value.str x t) (few : items.size + 1 < scanBound)
    (q : ∀ h' tk, SetS P w h' S items.size → (∀ b o, b ≠ S → s.heap.get? b = some o → h'.get? b = some o) → Q (.done (.ret .none)) { s with heap := h', toks := tk }) :
    wpAny (model P w) A (Builtin.«set.__init__» ⟨[.ref S, .ref l], []⟩) Q E s := by
  obtain ⟨⟨lc, ld, lo, ls⟩, e1, e2, ln, e3⟩ := id hl
  dsimp only at e2 e3
  subst e2 e3
  have f1 := PySem.F.sub_list_set
  have f2 := PySem.F.sub_list_frozenset
  have f3 : (Value.type "list" == Value.type "dict") = false := by decide
  unfold Builtin.«set.__init__» noKeywords Builtin.Frozenset.updateFrom; generalize iter_ : pyIter = PI
  wp_walk
  subst iter_
  have lS := Heap.lt_size hS
  have ll := Heap.lt_size e1
  refine wpAny_pyIter_list hl (wpAny_bind (wpAny_runValue ?_))
  refine loop_txts (n := items.size) (Walks.list ?hA _ l (Nat.ne_of_lt ll) items).toS ?out few (fun i v hv => txt v (List.mem_of_getElem? ((Array.getElem?_toList ..).trans hv))) items.size 0 _ (d0 w) [] (Nat.zero_add _)
    ⟨⟨_, Heap.get?_push_size _ rfl, rfl, rfl⟩, hl.push _⟩ (Heap.get?_push_of_some _ hS) Holds.start (Nat.zero_le _) fun s1 mv R1 => ?_
  case hA => simp [hh]
  case out => simp only [List.mem_cons, List.not_mem_nil, or_false, not_or]; exact ⟨Nat.ne_of_lt lS, ne⟩
  obtain ⟨h1, g1, r1, k1, o1⟩ := s1
  obtain rfl : g1 = s.gens := mv.gens
  obtain rfl : r1 = s.drawn := mv.drawn
  obtain rfl : o1 = s.os := mv.os
  refine wpAny_pure (wpAny_pure (q h1 k1 R1 fun b o hb hq => mv.heap b o (fun z => ?_) (Heap.get?_push_of_some _ hq)))
  rcases mem_c z with z | z
  · exact hb z
  · exact absurd (Heap.lt_size hq) (by rw [List.mem_singleton.mp z]; exact Nat.lt_irrefl _)
set_option maxHeartbeats 4200000 in
/-- set(xs), xs a list of texts -/
theorem call_set_txts {l : Addr} {items : Array Value} {Q : Value → Shared → Prop} (hh : A.handled = none) (hl : s.heap.IsList l items) (txt : ∀ v ∈ items.toList, ∃ x t, v = Value.str x t) (few : items.size + 1 < scanBound)
    (q : ∀ h' tk, SetS P w h' s.heap.objs.size items.size → (∀ b o, s.heap.get? b = some o → h'.get? b = some o) → Q (.ref s.heap.objs.size) { s with heap := h', toks := tk }) : wpAny (model P w) A (call (.type "set") [.ref l]) Q E s := by
  have F := PySem.F.called_set
  have ⟨c, tl, f1⟩ := F.mro
  have f2 := F.made; have f3 := F.sub; have f4 := F.notType; have f5 := F.canCreate; have f6 := F.init.lookup; have f7 := fun v => F.init.bind v
  have f8 := PySem.F.typeCall_set_1 (.ref l)
  refine wpAny_call (codeAny_of_tree (show wpAny _ _ (callAny (.type "set") _) _ _ _ from wpAny_pure ⟨Code.quiet_builtin _ (by decide +kernel), codeAny_builtin PySem.F.entry_type_call ?_⟩))
  rw [Around.under_plain (weight_type_call_type _ [.ref l] []) rfl]
  repeat any_goals (first | assumption | wp_step)
  refine codeAny_mono (code_set_led1 (.ref l) (E := E) (Q₁ := fun v t => v = .ref s.heap.objs.size ∧ t = { s with heap := s.heap.push (Froz.sObj "set" (d0 w)) }) ⟨rfl, rfl⟩) fun r t z => ?_
  match r, z with
  | .error _, z => exact z
  | .ok (.ret _), ⟨e1, e2⟩ =>
    subst e1 e2
    have new : (s.heap.push (Froz.sObj "set" (d0 w))).get? s.heap.objs.size = some (Froz.sObj "set" (d0 w)) := Heap.get?_push_size _ rfl
    have ty : Shared.TypeIs { s with heap := s.heap.push (Froz.sObj "set" (d0 w)) } (.ref s.heap.objs.size) "set" := ⟨_, new, rfl⟩
    have f9 := f7 (.ref s.heap.objs.size)
    repeat any_goals (first | assumption | wp_step)
    have ⟨_, lo, _⟩ := id hl
    have far : ∀ {b o}, s.heap.get? b = some o → b ≠ s.heap.objs.size := fun q => Nat.ne_of_lt (Heap.lt_size q)
    refine codeAny_mono (codeAny_call_builtin (R := wants (fun r t => r = .none ∧ ∃ h' tk, t = { s with heap := h', toks := tk } ∧ SetS P w h' s.heap.objs.size items.size ∧ ∀ b o, s.heap.get? b = some o → h'.get? b = some o) E) F.init.plain PySem.F.entry_set_init
      (check_set_init_1 ty (init_txts (by simp [hh]) new (hl.push _) (far lo).symm txt few fun h' tk R k => ⟨rfl, h', tk, rfl, R, fun b o q => k b o (far q) (Heap.get?_push_of_some _ q)⟩))) fun r t z => ?_
    match r, z with
    | .error _, z => exact z
    | .ok (.ret _), ⟨e1, h', tk, e2, R, k⟩ =>
      subst e1 e2
      repeat any_goals (first | assumption | wp_step)
      exact q h' tk R k
end
end TX

end U
namespace U
open PySem L2
/-! the steps that need no word -/
local macro_rules | `(tactic| walk_at "h") => `(tactic| focus ((repeat (first | assumption | exact upd_same | (apply at_ne; rotate_left; (first | assumption | exact Ne.symm (by assumption))) | (apply at_new; rotate_left; assumption))); done))
local macro_rules | `(tactic| walk_at "go") => `(tactic| repeat (with_reducible first
  | refine Go.by_ ?_
  | (apply w_at; (first | assumption | exact upd_same))
  | (apply w_sqT; (first | assumption | exact SqT.of (by assumption) | exact SqT.of upd_same))
  | (apply w_sqL; (first | assumption | exact SqL.of (by assumption) | exact SqL.of upd_same))
  | (apply w_sqLT1; (first | assumption | exact SqL.of (by assumption) | exact SqL.of upd_same))
  | (apply w_sqLT2; (first | assumption | exact SqT.of (by assumption) | exact SqT.of upd_same))
  | (apply w_at; walk_at "h")
  | (apply w_sqT; focus (apply SqT.of; walk_at "h"))
  | (apply w_sqL; focus (apply SqL.of; walk_at "h"))
  | (apply w_sqLT1; focus (apply SqL.of; walk_at "h"))
  | (apply w_sqLT2; focus (apply SqT.of; walk_at "h"))
  | (apply w_strT; decide)
  | (apply w_strF; decide)
  | (apply w_gTupH; (with_unfolding_all rfl))
  | (apply w_ixA; (first | assumption | with_unfolding_all rfl))))
local macro_rules | `(tactic| walk_at "k") => `(tactic| ((try dsimp only [cxOf, Cx.nox, List.map_cons, List.map_nil]); refine w_start ?_))
namespace TX
open PySem PySem.Spec PyProof.Rows L2
section
variable {P : Program} {w : World} {A : Around} {E : Value → Shared → Prop} {s : Shared} {n : Nat} {a : Addr}
/-- sorted(found): a new list of at most n texts -/
theorem sorted_txts {Q : Value → Shared → Prop} (R : SetS P w s.heap a n) (hh : A.handled = none) (h64 : n < 64)
    (q : ∀ s' p (out : Array Value) c ys, (∀ b o, s.heap.get? b = some o → s'.heap.get? b = some o) → s'.gens = s.gens ∧ s'.os = s.os → s.heap.objs.size ≤ p → s'.heap.get? p = some (seqObj "list" out c) → StrsAre out.toList ys → ys.length ≤ n → Q (.ref p) s') :
    wpAny (model P w) A (call (.builtin "sorted") [Value.ref a]) Q E s := by
  obtain ⟨D, l, ha, F, hl⟩ := R
  have sz := F.tx.sz
  have sb : D.1.size < scanBound := by unfold scanBound; omega
  refine Calls.call_function_entry kind_sorted plain_sorted entry_sorted (args_sorted1 _) ?_; unfold Builtin.«sorted»
  refine wpAny_bind (m := checkCount "sorted" 1 1 _) (wpAny_pure (wpAny_bind (collect_set (A := A.in1) hh ⟨_, ha, rfl, rfl⟩ F.tx.fit sb F.up F.led fun s1 vs k1 z1 g1 o1 pm => ?_)))
  have few : vs.length ≤ n := by rw [pm.length_eq, List.length_map, Array.length_toList]; omega
  have tx := strsAre_map vs fun v hv => by
    have ⟨e, he, ev⟩ := List.mem_map.mp (pm.mem_iff.mp hv)
    have ⟨⟨k, hk, _⟩, _⟩ := F.tx.el e he
    have ⟨t, ht⟩ := Value.isStrOf_shape hk
    exact ⟨k, t, ev.symm.trans ht⟩
  have new : (s1.heap.push (seqObj "list" vs.toArray 0)).get? s1.heap.objs.size = some (seqObj "list" vs.toArray 0) := Heap.get?_push_size _ rfl
  refine wpAny_bind (wpAny_newList (wpAny_bind (wpAny_holding ?_)) (by rw [sizeLine_eq]; omega))
  refine wpAny_call_entry slot_list_sort ⟨_, new, rfl⟩ entry_list_sort (list_sort_treeK strKind_oneLt new tx.keysOf (fun _ _ _ e => keyKind_strs (e ▸ tx)) (by omega) fun st a1 a2 => ⟨_, rfl, ?_⟩) (args_list_sort _)
  have ⟨ys, b1, b2, _⟩ := sorted_out_str tx a1 a2
  have ⟨c, hc⟩ := sortedHeap_at (vs := vs) (out := (arrOf st).map (·.2)) new
  refine wpAny_pure ⟨_, rfl, q _ s1.heap.objs.size _ c ys (fun b u e => ?_) ⟨g1, o1⟩ z1 hc b1 (by rw [b2.length_eq, List.length_map]; exact few)⟩
  have lt := Heap.lt_size (k1 b u e)
  exact (sortedHeap_old (Nat.ne_of_lt lt) (by rw [size_push']; exact Nat.lt_succ_of_lt lt)).trans (Heap.get?_push_of_some _ (k1 b u e))
end
/-- such a set as a tracked thing -/
def SetSO (P : Program) (w : World) (a : Addr) (n : Nat) : HO := .ext fun h => SetS P w h a n
section
variable {X : Cx}
/-- set(xs), xs a list of texts -/
def rSetTS (X : Cx) : List V → Hp → VK → Prop := fun xs H Q => ∃ (l : Addr) (ks : List Str), xs = [V.ref l] ∧ SqL X.K H l (ks.map V.str) ∧ ks.length < 64 ∧ ∀ a, H a = none → Q (.ref a) (upd H a (SetSO X.prog X.w a ks.length))
theorem _root_.U.cr_setTS (hc : X.calm = true) : CallR X (.type "set") (rSetTS X) := fun pins s σ H xs us Q I r ⟨l, ks, e, hl, hf, q⟩ => by
  subst e
  rw [Vals.ref1 r]
  have ⟨its, rv, pl, _⟩ := I.list hl
  have len : its.toArray.size = ks.length := by have e := rv.length; rw [List.length_map] at e; exact e.symm
  refine call_set_txts (P := X.prog) (w := X.w) (I.ok.hd hc) pl.isList (fun v hv => StrsAre.all rv.strs v (by simpa using hv)) (by unfold scanBound; omega) fun h' tk R k => ?_
  rw [len] at R
  have ok : ∀ {H' : Hp}, ObjOk X.prog X.w H' h' s.heap.objs.size (SetSO X.prog X.w s.heap.objs.size ks.length) := fun {_} => ⟨R, ⟨_, R.choose_spec.choose_spec.1⟩, fun _ _ p k => SetS.at p k⟩
  exact ⟨.ref s.heap.objs.size, _, I.laid (t' := tk) k (Nat.le_refl _) ok, rfl, q _ (I.hok.fresh (Nat.le_refl _))⟩
/-- sorted(set of texts) -/
def rSortedTS (X : Cx) : List V → Hp → VK → Prop := fun vs H Q => ∃ (a : Addr) (n : Nat), vs = [V.ref a] ∧ H a = some (SetSO X.prog X.w a n) ∧ n < 64 ∧ ∀ (ys : List Str) (p : Addr), ys.length ≤ n → H p = none → Q (.ref p) (upd H p (.lst (ys.map V.str)))
theorem _root_.U.cr_sortedTS (hc : X.calm = true) : CallR X (.builtin "sorted") (rSortedTS X) := fun pins s σ H vs us Q I r ⟨a, n, e, ha, h64, q⟩ => by
  subst e
  rw [Vals.ref1 r]
  refine sorted_txts (P := X.prog) (I.hok a _ ha).1 (I.ok.hd hc) h64 fun s' p out c ys k ⟨g, o⟩ hp hg hi hle => ?_
  have same : { s with heap := s'.heap, gens := s'.gens, drawn := s'.drawn, toks := s'.toks } = s' := by cases s'; cases o; rfl
  have J : Inv X pins σ (upd H p (.lst (ys.map V.str))) { s with heap := s'.heap, gens := s'.gens, drawn := s'.drawn, toks := s'.toks } :=
    I.call (ch := []) (Un.laid k hp (I.hok.fresh hp)) (I.hok.laid k hp ⟨by rw [List.length_map, sizeLine_eq]; omega, out.toList, c, vals_of_strs hi, hg⟩) (by rw [g]; exact I.bare) (fun _ z => nomatch z)
  rw [same] at J
  exact ⟨.ref p, _, J, rfl, q ys p hle (I.hok.fresh hp)⟩
end
end TX

end U
namespace U
open PySem L2
/-! the steps that need no word -/
local macro_rules | `(tactic| walk_at "h") => `(tactic| focus ((repeat (first | assumption | exact upd_same | (apply at_ne; rotate_left; (first | assumption | exact Ne.symm (by assumption))) | (apply at_new; rotate_left; assumption))); done))
local macro_rules | `(tactic| walk_at "go") => `(tactic| repeat (with_reducible first
  | refine Go.by_ ?_
  | (apply w_at; (first | assumption | exact upd_same))
  | (apply w_sqT; (first | assumption | exact SqT.of (by assumption) | exact SqT.of upd_same))
  | (apply w_sqL; (first | assumption | exact SqL.of (by assumption) | exact SqL.of upd_same))
  | (apply w_sqLT1; (first | assumption | exact SqL.of (by assumption) | exact SqL.of upd_same))
  | (apply w_sqLT2; (first | assumption | exact SqT.of (by assumption) | exact SqT.of upd_same))
  | (apply w_at; walk_at "h")
  | (apply w_sqT; focus (apply SqT.of; walk_at "h"))
  | (apply w_sqL; focus (apply SqL.of; walk_at "h"))
  | (apply w_sqLT1; focus (apply SqL.of; walk_at "h"))
  | (apply w_sqLT2; focus (apply SqT.of; walk_at "h"))
  | (apply w_strT; decide)
  | (apply w_strF; decide)
  | (apply w_gTupH; (with_unfolding_all rfl))
  | (apply w_ixA; (first | assumption | with_unfolding_all rfl))))
local macro_rules | `(tactic| walk_at "k") => `(tactic| ((try dsimp only [cxOf, Cx.nox, List.map_cons, List.map_nil]); refine w_start ?_))
/-! ## A drawn rule -/
theorem join_ {G : Addr → List Str → Hp → Prop} {Goal : Prop} (I : Addr → List Str → Hp → Prop) (h1 : (∀ b ts H, I b ts H → G b ts H) → Goal) (h2 : ∀ b ts H, I b ts H → G b ts H) : Goal := h1 h2
/-- one row, many rooms: what it may hold -/
def rowOk (m : Nat) (x : List (Option Nat)) : Prop := ∀ y ∈ x, ∀ k, y = some k → k < m
def RoomAt (D : Hp) (lr : Addr) (H : Hp) (x : List (Option Nat)) (v : V) : Prop := ∃ a, v = .ref a ∧ a ≠ lr ∧ D a = none ∧ H a = some (.lst (x.map optV))
/-- what is new in H' -/
def newIn (D H' : Hp) : Hp := fun x => match D x with
  | none => H' x
  | some _ => none
theorem newIn_at {D H' : Hp} {x : Addr} {o : HO} (n : D x = none) (e : H' x = some o) : newIn D H' x = some o := by unfold newIn; rw [n]; exact e
theorem newIn_is {D H' : Hp} {x : Addr} {o : HO} (h : newIn D H' x = some o) : D x = none ∧ H' x = some o := by
  unfold newIn at h
  cases e : D x with
  | none => rw [e] at h; exact ⟨rfl, h⟩
  | some u => rw [e] at h; cases h
theorem none_of {D H : Hp} (s : Same D H) {x : Addr} (n : H x = none) : D x = none := by
  cases e : D x with
  | none => rfl
  | some o => have := s _ _ e; rw [n] at this; cases this
theorem rowOk.snoc {m : Nat} {x : List (Option Nat)} {y : Option Nat} (h : rowOk m x) (hy : ∀ k, y = some k → k < m) : rowOk m (x ++ [y]) := fun z hz k e => by
  rcases mem_a hz with hz | hz
  · exact h z hz k e
  · rw [List.mem_singleton.mp hz] at e; exact hy k e
def spRule : Sp := fun vs H Q _ => ∃ (c : Int) (wl : Addr) (ws : List Str), vs = [.int c, .ref wl] ∧ H wl = some (.lst (ws.map V.str)) ∧ ws.length ≤ 7 ∧ (∀ x ∈ ws, fitW x) ∧
  ∀ (r : Rl) (a : Addr) (H' : Hp), Same H H' → r.Ok → RuleAt (newIn H H') r a → Q (.ref a) H'
theorem pre_len {x : Str} (pre : String) (hx : fitW x) (hp : (Str.ofString pre).length ≤ 10) : (Str.ofString pre).length + x.length ≤ 110 := by have := hx.1; omega
section
variable {P : Program} {w : World} {K : PySem.W.Frag} {mg : Str → Option Value} {base : Heap} {A : Ad} (T : Tx K mg A)
include T
theorem ok_law_rule : FnOk P w K mg base CX0 2 A.f_law_rule A.d_law_rule ["_law_cell", "_law_words_here"] spRule := by
  refine T.F_law_rule.ok sc_law_rule (fun vs H Q E h => ?_) (fun cdv A' outer s H vs Q E hr h => ?_)
  · obtain ⟨c, wl, ws, rfl, _⟩ := h
    rfl
  have G_law_mixed := ok_law_mixed (P := P) (w := w) (base := base) T
  obtain ⟨c, wl, ws, rfl, hwl, hw7, fw, q⟩ := h
  obtain ⟨sd, hsd, hsd2⟩ : ∃ sd : Nat, 1 + c / 12 % 2 = (sd : Int) ∧ (sd = 1 ∨ sd = 2) := ⟨(1 + c / 12 % 2).toNat, by omega, by omega⟩
  obtain ⟨m, hm, hm1, hm4⟩ : ∃ m : Nat, 1 + c / 3 % 4 = (m : Int) ∧ 1 ≤ m ∧ m ≤ 4 := ⟨(1 + c / 3 % 4).toNat, by omega, by omega, by omega⟩
  refine ⟨_, (pss_cons (ps_set (i := 2) sc_law_rule.nd rfl (Or.inl rfl) (pe_op op_add pe_int (pe_op op_mod (pe_op op_fdiv (pv 0) pe_int) pe_int)))
    (pss_cons (ps_set (i := 3) sc_law_rule.nd rfl (Or.inr rfl) (pe_callTy call_list_of (by rfl) T.z_list (by decide +kernel) (pa_cons (pv 1) pa_nil)))
    (pss_cons (ps_if (pt_cmpR op_eq (pv 2) pe_int (nomark _)) (pss_one (ps_set (i := 3) sc_law_rule.nd rfl (Or.inr rfl) (pe_op op_cat (pe_lc (own := [("_law_word", 10)]) (g := gName 10) rfl sc_law_rule.nd (pi_list (pv 1)) (blkOk_by (own := [("_law_word", 10)]) (N := ["_law_cell", "_law_words_here", "_law_sides", "_law_texts", "_law_many", "_law_rooms", "_law_room", "_law_row", "_law_j", "_law_number", "_law_word", "_law_k"]) (sc := defScope st_law_rule) (by decide +kernel)) (fun _ _ _ _ _ => pg_name (i := 10) sc_law_rule.nd rfl (Or.inl rfl)) (fun _ _ _ _ _ => pts_nil) (fun _ _ _ _ _ => (pe_op op_add_str pe_str (pv 10)))) (pe_lc (own := [("_law_word", 10)]) (g := gName 10) rfl sc_law_rule.nd (pi_list (pv 1)) (blkOk_by (own := [("_law_word", 10)]) (N := ["_law_cell", "_law_words_here", "_law_sides", "_law_texts", "_law_many", "_law_rooms", "_law_room", "_law_row", "_law_j", "_law_number", "_law_word", "_law_k"]) (sc := defScope st_law_rule) (by decide +kernel)) (fun _ _ _ _ _ => pg_name (i := 10) sc_law_rule.nd rfl (Or.inl rfl)) (fun _ _ _ _ _ => pts_nil) (fun _ _ _ _ _ => (pe_op op_add_str pe_str (pv 10))))))) pss_nil)
    (pss_cons (ps_set (i := 3) sc_law_rule.nd rfl (Or.inr rfl) (pe_callB (cr_sortedTS rfl) (by rfl) T.z_sorted (by decide +kernel) (pa_cons (pe_callTy (cr_setTS rfl) (by rfl) T.z_set (by decide +kernel) (pa_cons (pe_lc (own := [("_law_k", 11)]) (g := gName 11) rfl sc_law_rule.nd (pi_range1 rfl T.z_range (pa_cons (pe_callB call_len_seq (by rfl) T.z_len PySem.boot_len (pa_cons (pv 3) pa_nil)) pa_nil)) (blkOk_by (own := [("_law_k", 11)]) (N := ["_law_cell", "_law_words_here", "_law_sides", "_law_texts", "_law_many", "_law_rooms", "_law_room", "_law_row", "_law_j", "_law_number", "_law_word", "_law_k"]) (sc := defScope st_law_rule) (by decide +kernel)) (fun _ _ _ _ _ => pg_name (i := 11) sc_law_rule.nd rfl (Or.inl rfl)) (fun _ _ _ _ _ => pts_one (pt_cmpR op_lt (pe_op op_mod (pe_call G_law_mixed (hr.mono (by decide)) rfl T.m_law_mixed T.F_law_mixed.kp T.b_law_mixed .nil pass0 (pa_cons (pv 0) (pa_cons (pe_op op_add pe_int (pv 11)) pa_nil))) pe_int) pe_int (nomark _))) (fun _ _ _ _ _ => (pe_ix (ix_listK (K := K) rfl) (pv 3) (pv 11) (fun _ _ => rfl)))) pa_nil)) pa_nil)))
    (pss_cons (ps_set (i := 4) sc_law_rule.nd rfl (Or.inl rfl) (pe_op op_add pe_int (pe_op op_mod (pe_op op_fdiv (pv 0) pe_int) pe_int)))
    (pss_cons (ps_set (i := 5) sc_law_rule.nd rfl (Or.inl rfl) (pe_lst pa_nil))
    (pss_cons (ps_for PassesOwn.never rfl (pi_range1 rfl T.z_range (pa_cons (pv 4) pa_nil)) (pg_name (i := 6) sc_law_rule.nd rfl (Or.inl rfl)) (pss_cons (ps_set (i := 7) sc_law_rule.nd rfl (Or.inl rfl) (pe_lst pa_nil))
      (pss_cons (ps_for PassesOwn.never rfl (pi_range1 rfl T.z_range (pa_cons (pe_callB call_len_seq (by rfl) T.z_len PySem.boot_len (pa_cons (pv 3) pa_nil)) pa_nil)) (pg_name (i := 8) sc_law_rule.nd rfl (Or.inl rfl)) (pss_cons (ps_set (i := 9) sc_law_rule.nd rfl (Or.inl rfl) (pe_call G_law_mixed (hr.mono (by decide)) rfl T.m_law_mixed T.F_law_mixed.kp T.b_law_mixed .nil pass0 (pa_cons (pv 0) (pa_cons (pe_op op_add (pe_op op_add pe_int (pe_op op_mul pe_int (pv 6))) (pv 8)) pa_nil))))
        (pss_one (ps_if (pt_cmpR op_eq (pe_op op_mod (pe_op op_fdiv (pv 9) pe_int) (pe_ix ix_list (pe_lst (pa_cons pe_int (pa_cons pe_int (pa_cons pe_int pa_nil)))) (pe_op op_mod (pv 0) pe_int) (fun _ _ => rfl))) pe_int (nomark _)) (pss_one (ps_expr (pe_bm PySem.F.plainAttrs_list PySem.F.slot_list_append PySem.F.type_list_append mt_append (pv 7) (pa_cons pe_non pa_nil)))) (pss_one (ps_expr (pe_bm PySem.F.plainAttrs_list PySem.F.slot_list_append PySem.F.type_list_append mt_append (pv 7) (pa_cons (pe_op op_mod (pv 9) (pv 4)) pa_nil))))))))
      (pss_one (ps_expr (pe_bm PySem.F.plainAttrs_list PySem.F.slot_list_append PySem.F.type_list_append mt_append (pv 5) (pa_cons (pv 7) pa_nil)))))))
    (pss_one (ps_ret (pe_tup (pa_cons (pv 2) (pa_cons (pv 3) (pa_cons (pv 5) pa_nil))))))))))))), ?_⟩
  walk_at "k"
  walk_at "go"
  refine rI_go ⟨by decide, by decide⟩ ?_
  walk_at "go"
  refine rI_go (by decide) ?_
  walk_at "go"
  rw [hsd]
  intro l hl
  walk_at "go"
  apply join_ (I := fun b ts H1 => Same H H1 ∧ H1 b = some (.lst (ts.map V.str)) ∧ ts.length ≤ 14)
  · intro hN
    refine if_d (fun c2 => ?_) (fun c2 => ?_)
    · have hwl1 := at_new (u := .lst (ws.map V.str)) hwl hl
      have s0 := same_new (o := .lst (ws.map V.str)) hl
      generalize upd H l (.lst (ws.map V.str)) = H0 at hwl1 s0 ⊢
      walk_at "go"
      refine w_lcL (xs := ws.map V.str) fun z hz => ⟨fun i H' => Same H0 H' ∧ H' z = some (.lst (((ws.take i).map fun x => Str.ofString "1." ++ x).map V.str)), ⟨same_new hz, upd_same⟩, fun i H' ⟨s1, _⟩ => SqL.of (s1 _ _ hwl1), fun i v H' hi ⟨s1, e1⟩ => ?_, fun H1 ⟨s1, e1⟩ => ?_⟩
      · obtain ⟨x, hx, rfl⟩ : ∃ x, ws[i]? = some x ∧ V.str x = v := by
          rw [List.getElem?_map] at hi
          cases e : ws[i]? with
          | none => rw [e] at hi; cases hi
          | some x => rw [e] at hi; cases hi; exact ⟨_, rfl, rfl⟩
        walk_at "go"
        refine ⟨rfl, ?_⟩
        walk_at "go"
        refine ⟨_, _, rfl, rfl, Nat.le_trans (pre_len "1." (fw x (List.mem_of_getElem? hx)) (by decide)) (by decide), ?_⟩
        refine ⟨_, e1, Nat.lt_of_le_of_lt (show _ ≤ 7 by simp; omega) (by decide), s1.put hz, ?_⟩
        rw [upd_same, take_one hx, List.map_append, List.map_append]; rfl
      · have hwl2 := s1 _ _ hwl1
        walk_at "go"
        refine w_lcL (xs := ws.map V.str) fun z2 hz2 => ⟨fun i H' => Same H1 H' ∧ H' z2 = some (.lst (((ws.take i).map fun x => Str.ofString "2." ++ x).map V.str)), ⟨same_new hz2, upd_same⟩, fun i H' ⟨s1, _⟩ => SqL.of (s1 _ _ hwl2), fun i v H' hi ⟨s2, e2⟩ => ?_, fun H2 ⟨s2, e2⟩ => ?_⟩
        · obtain ⟨x, hx, rfl⟩ : ∃ x, ws[i]? = some x ∧ V.str x = v := by
            rw [List.getElem?_map] at hi
            cases e : ws[i]? with
            | none => rw [e] at hi; cases hi
            | some x => rw [e] at hi; cases hi; exact ⟨_, rfl, rfl⟩
          walk_at "go"
          refine ⟨rfl, ?_⟩
          walk_at "go"
          refine ⟨_, _, rfl, rfl, Nat.le_trans (pre_len "2." (fw x (List.mem_of_getElem? hx)) (by decide)) (by decide), ?_⟩
          refine ⟨_, e2, Nat.lt_of_le_of_lt (show _ ≤ 7 by simp; omega) (by decide), s2.put hz2, ?_⟩
          rw [upd_same, take_one hx, List.map_append, List.map_append]; rfl
        · refine w_cat (s2 _ _ e1) e2 (by simp; omega) fun z3 hz3 => ?_
          have e3 : upd H2 z3 (.lst ((((ws.take (ws.map V.str).length).map fun x => Str.ofString "1." ++ x).map V.str) ++ (((ws.take (ws.map V.str).length).map fun x => Str.ofString "2." ++ x).map V.str))) z3 = some (.lst (((((ws.take (ws.map V.str).length).map fun x => Str.ofString "1." ++ x) ++ ((ws.take (ws.map V.str).length).map fun x => Str.ofString "2." ++ x))).map V.str)) := by rw [upd_same, List.map_append]
          have s3 := ((s0.trans s1).trans s2).new (o := .lst ((((ws.take (ws.map V.str).length).map fun x => Str.ofString "1." ++ x).map V.str) ++ (((ws.take (ws.map V.str).length).map fun x => Str.ofString "2." ++ x).map V.str))) hz3
          have l3 : ((((ws.take (ws.map V.str).length).map fun x => Str.ofString "1." ++ x) ++ ((ws.take (ws.map V.str).length).map fun x => Str.ofString "2." ++ x))).length ≤ 14 := by simp; omega
          generalize upd H2 z3 (.lst ((((ws.take (ws.map V.str).length).map fun x => Str.ofString "1." ++ x).map V.str) ++ (((ws.take (ws.map V.str).length).map fun x => Str.ofString "2." ++ x).map V.str))) = H3 at e3 s3 ⊢
          generalize ((((ws.take (ws.map V.str).length).map fun x => Str.ofString "1." ++ x) ++ ((ws.take (ws.map V.str).length).map fun x => Str.ofString "2." ++ x))) = ts at e3 l3
          walk_at "go"
          exact hN z3 ts H3 ⟨s3, e3, l3⟩
    · have e3 : upd H l (.lst (ws.map V.str)) l = some (.lst (ws.map V.str)) := upd_same
      have s0 := same_new (o := .lst (ws.map V.str)) hl
      walk_at "go"
      exact hN l ws _ ⟨s0, e3, by omega⟩
  · rintro b ts H1 ⟨s1, e1, l14⟩
    walk_at "go"
    refine w_rngI (n := (ts.map V.str).length) (by rw [List.length_map]; omega) ?_
    refine w_lcN (n := (ts.map V.str).length) fun z hz => ⟨fun i H' => Same H1 H' ∧ ∃ us : List Str, us.length ≤ i ∧ H' z = some (.lst (us.map V.str)), ⟨same_new hz, [], Nat.le_refl _, upd_same⟩, fun i H' hi ⟨s2, us, hu, e2⟩ => ?_, fun H2 ⟨s2, us, hu, e2⟩ => ?_⟩
    · rw [List.length_map] at hi
      have e1' := s2 _ _ e1
      have hv : atI (ts.map V.str) (i : Int) = some (.str ts[i]) := atI_nat (by rw [List.getElem?_map, List.getElem?_eq_getElem hi]; rfl)
      walk_at "go"
      refine ⟨rfl, ?_⟩
      walk_at "go"
      refine ⟨c, 40 + i, by rw [Int.natCast_add]; rfl, by omega, ?_⟩
      walk_at "go"
      refine rI_go (by decide) ?_
      walk_at "go"
      refine if_d (fun _ => ?_) (fun _ => ?_)
      · walk_at "go"
        refine ⟨_, e2, Nat.lt_of_le_of_lt (show _ ≤ 14 by rw [List.length_map]; omega) (by decide), s2.put hz, us ++ [ts[i]], by simp; omega, ?_⟩
        rw [upd_same, List.map_append]; rfl
      · exact ⟨s2, us, by omega, e2⟩
    · rw [List.length_map] at hu
      walk_at "go"
      refine ⟨z, us, rfl, SqL.of e2, by omega, fun a ha => ?_⟩
      walk_at "go"
      refine ⟨a, us.length, rfl, upd_same, by omega, fun ys p hy hp => ?_⟩
      have hp0 := none_of ((s1.trans s2).new (o := TX.SetSO P w a us.length) ha) hp
      have s4 := ((s1.trans s2).new (o := TX.SetSO P w a us.length) ha).new (o := .lst (ys.map V.str)) hp
      have e4 : upd (upd H2 a (TX.SetSO P w a us.length)) p (.lst (ys.map V.str)) p = some (.lst (ys.map V.str)) := upd_same
      generalize upd (upd H2 a (TX.SetSO P w a us.length)) p (.lst (ys.map V.str)) = H4 at s4 e4 ⊢
      have ly : ys.length ≤ 14 := by omega
      walk_at "go"
      refine rI_go ⟨by decide, by decide⟩ ?_
      walk_at "go"
      refine rI_go (by decide) ?_
      walk_at "go"
      rw [hm]
      intro lr hlr
      have npl : p ≠ lr := ne_of_none e4 hlr
      have hlr0 : H lr = none := by
        cases e : H lr with
        | none => rfl
        | some o => have := s4 _ _ e; rw [hlr] at this; cases this
      have s5 := s4.new (o := .lst []) hlr
      have e5 := at_new (u := .lst []) e4 hlr
      have r5 : upd H4 lr (.lst []) lr = some (.lst []) := upd_same
      generalize upd H4 lr (.lst []) = H5 at s5 e5 r5 ⊢
      walk_at "go"
      refine w_rngI (n := m) (by omega) ?_
      refine w_forN (n := m) (fun i σ H' => ∃ (v6 v7 v8 v9 : Option V) (rooms : List (List (Option Nat))) (vs : List V), σ = [some (.int c), some (.ref wl), some (.int (sd : Nat)), some (.ref p), some (.int (m : Nat)), some (.ref lr), v6, v7, v8, v9, none, none] ∧ Same H H' ∧ H' p = some (.lst (ys.map V.str)) ∧ H' lr = some (.lst vs) ∧ rooms.length = i ∧ (∀ x ∈ rooms, x.length = ys.length ∧ rowOk m x) ∧ Each (RoomAt H lr H') rooms vs)
        ⟨none, none, none, none, [], [], rfl, s5, e5, r5, rfl, fun x hx => (by cases hx), Each.nil⟩ ?_ ?_
      · rintro i σ H6 hi ⟨v6, v7, v8, v9, rooms, vs, rfl, s6, e6, r6, hrl, hrs, hE⟩
        walk_at "go"
        intro z7 hz7
        have n7 : z7 ≠ lr := fun e => by rw [e, r6] at hz7; cases hz7
        have e7 := at_new (u := .lst []) e6 hz7
        walk_at "go"
        refine w_rngI (n := (ys.map V.str).length) (by rw [List.length_map]; omega) ?_
        refine w_forN (n := (ys.map V.str).length) (fun j σ H' => ∃ (v8 v9 : Option V) (row : List (Option Nat)), σ = [some (.int c), some (.ref wl), some (.int (sd : Nat)), some (.ref p), some (.int (m : Nat)), some (.ref lr), some (.int (i : Nat)), some (.ref z7), v8, v9, none, none] ∧ Same H6 H' ∧ H' z7 = some (.lst (row.map optV)) ∧ row.length = j ∧ rowOk m row)
          ⟨v8, v9, [], rfl, same_new hz7, upd_same, rfl, fun y hy => (by cases hy)⟩ ?_ ?_
        · rintro j σ H8 hj ⟨v8, v9, row, rfl, s8, e8, hrow, hok⟩
          rw [List.length_map] at hj
          walk_at "go"
          refine rI_go (.inl (by decide)) ?_
          walk_at "go"
          refine ⟨c, 100 + 17 * i + j, by rw [Int.natCast_add, Int.natCast_add, Int.natCast_mul]; rfl, by omega, ?_⟩
          walk_at "go"
          refine rI_go ⟨by decide, by decide⟩ ?_
          walk_at "go"
          intro t9 ht9
          have e9 : upd H8 t9 (.lst [V.int 3, V.int 9, V.int 30]) t9 = some (.lst [V.int 3, V.int 9, V.int 30]) := upd_same
          have e8' := at_new (u := .lst [V.int 3, V.int 9, V.int 30]) e8 ht9
          have s9 := s8.new (o := .lst [V.int 3, V.int 9, V.int 30]) ht9
          generalize upd H8 t9 (.lst [V.int 3, V.int 9, V.int 30]) = H9 at e9 e8' s9 ⊢
          walk_at "go"
          refine rI_go (by decide) ?_
          obtain ⟨d, hd, hd0⟩ : ∃ d : Int, atI [V.int 3, V.int 9, V.int 30] (c % 3) = some (.int d) ∧ 0 < d := by
            have h3 : c % 3 = 0 ∨ c % 3 = 1 ∨ c % 3 = 2 := by omega
            rcases h3 with e | e | e
            · rw [e]; exact ⟨3, rfl, by decide⟩
            · rw [e]; exact ⟨9, rfl, by decide⟩
            · rw [e]; exact ⟨30, rfl, by decide⟩
          walk_at "go"
          refine rI_go hd0 ?_
          walk_at "go"
          have hz9 : row.length < sizeLine := Nat.lt_of_le_of_lt (show _ ≤ 14 by omega) (by decide)
          refine if_d (fun _ => ?_) (fun _ => ?_)
          · walk_at "go"
            refine w_app e8' (by rw [List.length_map]; exact hz9) ?_
            refine ⟨_, _, row ++ [none], rfl, s9.put hz7, ?_, by simp [hrow], hok.snoc (fun k e => by cases e)⟩
            rw [upd_same, List.map_append]; rfl
          · walk_at "go"
            have hmp : (0 : Int) < (m : Nat) := by omega
            refine rI_go hmp ?_
            walk_at "go"
            refine w_app e8' (by rw [List.length_map]; exact hz9) ?_
            have h1 := Int.emod_nonneg (mixZ c ((100 + 17 * i + j : Nat) : Int)) (show ((m : Nat) : Int) ≠ 0 by omega)
            have h2 := Int.emod_lt_of_pos (mixZ c ((100 + 17 * i + j : Nat) : Int)) hmp
            obtain ⟨k, hk⟩ : ∃ k : Nat, mixZ c ((100 + 17 * i + j : Nat) : Int) % (m : Nat) = (k : Int) := ⟨_, (Int.toNat_of_nonneg h1).symm⟩
            rw [hk] at h2 ⊢
            refine ⟨_, _, row ++ [some k], rfl, s9.put hz7, ?_, by simp [hrow], hok.snoc (fun k' e => by cases e; omega)⟩
            rw [upd_same, List.map_append]; rfl
        · rintro σ H8 ⟨v8, v9, row, rfl, s8, e8, hrow, hok⟩
          rw [List.length_map] at hrow
          have r8 := s8 _ _ r6
          have e6' := s8 _ _ e6
          walk_at "go"
          refine w_app r8 (Nat.lt_of_le_of_lt (show _ ≤ 4 by rw [hE.len, hrl]; omega) (by decide)) ?_
          refine ⟨_, _, _, _, rooms ++ [row], vs ++ [V.ref z7], rfl, (s6.trans s8).put hlr0, at_ne e6' npl, upd_same, by simp [hrl], fun x hx => ?_, ?_⟩
          · rcases mem_a hx with hx | hx
            · exact hrs x hx
            · rw [List.mem_singleton.mp hx]; exact ⟨hrow, hok⟩
          · exact Each.snoc (hE.mono fun x v ⟨a, e, na, nd, ha⟩ => ⟨a, e, na, nd, at_ne (s8 _ _ ha) na⟩) ⟨z7, rfl, n7, none_of s6 hz7, at_ne e8 n7⟩
      · rintro σ H6 ⟨v6, v7, v8, v9, rooms, vs, rfl, s6, e6, r6, hrl, hrs, hE⟩
        walk_at "go"
        intro z10 hz10
        refine q ⟨sd, ys, rooms⟩ z10 _ (s6.new hz10) ⟨hsd2, by show 0 < rooms.length; omega, fun x hx => (hrs x hx).1, fun x hx => by show rowOk rooms.length x; rw [hrl]; exact (hrs x hx).2, by show ys.length ≤ 100; omega, by show rooms.length ≤ 100; omega⟩ ?_
        refine ⟨p, lr, vs, newIn_at (none_of s6 hz10) upd_same, newIn_at hp0 (at_new e6 hz10), newIn_at hlr0 (at_new r6 hz10), hE.mono fun x v ⟨a, e, _, nd, ha⟩ => ⟨a, e, newIn_at nd (at_new ha hz10)⟩⟩
end

end U
namespace U
open PySem L2
/-! the steps that need no word -/
local macro_rules | `(tactic| walk_at "h") => `(tactic| focus ((repeat (first | assumption | exact upd_same | (apply at_ne; rotate_left; (first | assumption | exact Ne.symm (by assumption))) | (apply at_new; rotate_left; assumption))); done))
local macro_rules | `(tactic| walk_at "go") => `(tactic| repeat (with_reducible first
  | refine Go.by_ ?_
  | (apply w_at; (first | assumption | exact upd_same))
  | (apply w_sqT; (first | assumption | exact SqT.of (by assumption) | exact SqT.of upd_same))
  | (apply w_sqL; (first | assumption | exact SqL.of (by assumption) | exact SqL.of upd_same))
  | (apply w_sqLT1; (first | assumption | exact SqL.of (by assumption) | exact SqL.of upd_same))
  | (apply w_sqLT2; (first | assumption | exact SqT.of (by assumption) | exact SqT.of upd_same))
  | (apply w_at; walk_at "h")
  | (apply w_sqT; focus (apply SqT.of; walk_at "h"))
  | (apply w_sqL; focus (apply SqL.of; walk_at "h"))
  | (apply w_sqLT1; focus (apply SqL.of; walk_at "h"))
  | (apply w_sqLT2; focus (apply SqT.of; walk_at "h"))
  | (apply w_strT; decide)
  | (apply w_strF; decide)
  | (apply w_gTupH; (with_unfolding_all rfl))
  | (apply w_ixA; (first | assumption | with_unfolding_all rfl))))
local macro_rules | `(tactic| walk_at "k") => `(tactic| ((try dsimp only [cxOf, Cx.nox, List.map_cons, List.map_nil]); refine w_start ?_))
/-! ## Plain facts of a drawn program: its lines and names -/
theorem sp_len : (" " : Str).length = 1 := by decide
theorem split1 {a : Str} (ha : ¬ 32 ∈ TL.tl a) : Txt.split a " " = [a] := by
  have h := TL.split_join (y := (" " : Str)) (s := 32) (S := []) (by decide +kernel) (by decide +kernel) (parts := [a]) (by simp) (fun p hp => by rw [List.mem_singleton.mp hp]; exact ha)
  rw [TL.join_eq] at h
  exact h
theorem split2 {a b : Str} (ha : ¬ 32 ∈ TL.tl a) (hb : ¬ 32 ∈ TL.tl b) : Txt.split (a ++ " " ++ b) " " = [a, b] := by
  have h := TL.split_join (y := (" " : Str)) (s := 32) (S := []) (by decide +kernel) (by decide +kernel) (parts := [a, b]) (by simp) (fun p hp => by
    rcases mem_c hp with e | hp
    · rw [e]; exact ha
    · rw [List.mem_singleton.mp hp]; exact hb)
  rw [TL.join_eq] at h
  exact h
theorem split3 {a b c : Str} (ha : ¬ 32 ∈ TL.tl a) (hb : ¬ 32 ∈ TL.tl b) (hc : ¬ 32 ∈ TL.tl c) : Txt.split (a ++ " " ++ (b ++ " " ++ c)) " " = [a, b, c] := by
  have h := TL.split_join (y := (" " : Str)) (s := 32) (S := []) (by decide +kernel) (by decide +kernel) (parts := [a, b, c]) (by simp) (fun p hp => by
    rcases mem_c hp with e | hp
    · rw [e]; exact ha
    rcases mem_c hp with e | hp
    · rw [e]; exact hb
    · rw [List.mem_singleton.mp hp]; exact hc)
  rw [TL.join_eq] at h
  exact h
/-- what is known of a line -/
def LineIs (x : Str) (ns : List Str) : Prop := GoodLine x ∧ namesLine x = ns ∧ ns.length ≤ 2
theorem line_of {x w0 : Str} {r ns : List Str} (e : Txt.split x " " = w0 :: r) (hx : x.length ≤ 6000) (hr : r.length ≤ 2) (hn : namesW w0 r = ns) : LineIs x ns := by
  have en : namesLine x = ns := by unfold namesLine; rw [e]; exact hn
  refine ⟨⟨hx, w0, r, e, by omega⟩, en, ?_⟩
  rw [← hn]
  unfold namesW
  split
  · simp
  split
  · rw [List.length_drop]; omega
  · exact hr
theorem app_len (a b : Str) : (a ++ b).length = a.length + b.length := by
  show (a ++ b).cps.size = _
  rw [Str.cps_append, Array.size_append]; rfl
theorem line_pl {p : Pl} (f : plFit p) : LineIs (Txt.join " " (plS p)) p.names := by
  have w1 : ("open" : Str).length = 4 := by decide
  have w2 : ("do" : Str).length = 2 := by decide
  have w3 : ("copy" : Str).length = 4 := by decide
  have w4 : ("drop" : Str).length = 4 := by decide
  have w5 : ("tie" : Str).length = 3 := by decide
  rw [TL.join_eq]
  cases p with
  | opn x =>
    refine line_of (w0 := "open") (r := [x]) (split2 (by decide +kernel) f.2.1) ?_ (by simp) ?_
    · have := f.1
      show ((("open" : Str) ++ " ") ++ x).length ≤ 6000
      rw [app_len, app_len, sp_len, w1]; omega
    · unfold namesW; rw [if_neg (by decide +kernel), if_neg (by decide +kernel)]; rfl
  | act t x =>
    refine line_of (w0 := "do") (r := [t, x]) (split3 (by decide +kernel) f.1.2.1 f.2.2.1) ?_ (by simp) ?_
    · have h1 := f.1.1
      have h2 := f.2.1
      show ((("do" : Str) ++ " ") ++ (t ++ " " ++ x)).length ≤ 6000
      rw [app_len, app_len, app_len, app_len, sp_len, w2]; omega
    · unfold namesW; rw [if_neg (by decide +kernel), if_pos (by decide +kernel)]; rfl
  | cpy x y =>
    refine line_of (w0 := "copy") (r := [x, y]) (split3 (by decide +kernel) f.1.2.1 f.2.2.1) ?_ (by simp) ?_
    · have h1 := f.1.1
      have h2 := f.2.1
      show ((("copy" : Str) ++ " ") ++ (x ++ " " ++ y)).length ≤ 6000
      rw [app_len, app_len, app_len, app_len, sp_len, w3]; omega
    · unfold namesW; rw [if_neg (by decide +kernel), if_neg (by decide +kernel)]; rfl
  | drp x =>
    refine line_of (w0 := "drop") (r := [x]) (split2 (by decide +kernel) f.2.1) ?_ (by simp) ?_
    · have := f.1
      show ((("drop" : Str) ++ " ") ++ x).length ≤ 6000
      rw [app_len, app_len, sp_len, w4]; omega
    · unfold namesW; rw [if_neg (by decide +kernel), if_neg (by decide +kernel)]; rfl
  | tie x y =>
    refine line_of (w0 := "tie") (r := [x, y]) (split3 (by decide +kernel) f.1.2.1 f.2.2.1) ?_ (by simp) ?_
    · have h1 := f.1.1
      have h2 := f.2.1
      show ((("tie" : Str) ++ " ") ++ (x ++ " " ++ y)).length ≤ 6000
      rw [app_len, app_len, app_len, app_len, sp_len, w5]; omega
    · unfold namesW; rw [if_neg (by decide +kernel), if_neg (by decide +kernel)]; rfl
theorem str_assoc (a b c : Str) : a ++ b ++ c = a ++ (b ++ c) := by
  refine TL.ext_tl ?_
  rw [TL.tl_append, TL.tl_append, TL.tl_append, TL.tl_append, List.append_assoc]
theorem line_lend {x y : Str} (fx : fitW x) (fy : fitW y) : LineIs (("lend " : Str) ++ x ++ " " ++ y) [x, y] := by
  have w5 : ("lend" : Str).length = 4 := by decide
  have e : (("lend " : Str) ++ x ++ " " ++ y) = ("lend" : Str) ++ " " ++ (x ++ " " ++ y) := by
    rw [show ("lend " : Str) = ("lend" : Str) ++ " " by decide +kernel, str_assoc, str_assoc, ← str_assoc x]
  rw [e]
  refine line_of (w0 := "lend") (r := [x, y]) (split3 (by decide +kernel) fx.2.1 fy.2.1) ?_ (by simp) ?_
  · have h1 := fx.1
    have h2 := fy.1
    rw [app_len, app_len, app_len, app_len, sp_len, w5]; omega
  · unfold namesW; rw [if_neg (by decide +kernel), if_neg (by decide +kernel)]
theorem num_free (n : Int) : ¬ 32 ∈ TL.tl (toString n : Str) := PyProof.Rows.int_text_free' 32 (by decide) n
theorem line_if {n : Int} (h : n.natAbs.log2 < 1920) : LineIs (("if " : Str) ++ toString n) [] := by
  have w5 : ("if" : Str).length = 2 := by decide
  rw [show ("if " : Str) = ("if" : Str) ++ " " by decide +kernel]
  refine line_of (w0 := "if") (r := [(toString n : Str)]) (split2 (by decide +kernel) (num_free n)) ?_ (by simp) ?_
  · have := num_len h
    rw [app_len, app_len, sp_len, w5]; omega
  · unfold namesW; rw [if_pos (.inl rfl)]
theorem line_while {n : Int} (h : n.natAbs.log2 < 1920) : LineIs (("while " : Str) ++ toString n) [] := by
  have w5 : ("while" : Str).length = 5 := by decide
  rw [show ("while " : Str) = ("while" : Str) ++ " " by decide +kernel]
  refine line_of (w0 := "while") (r := [(toString n : Str)]) (split2 (by decide +kernel) (num_free n)) ?_ (by simp) ?_
  · have := num_len h
    rw [app_len, app_len, sp_len, w5]; omega
  · unfold namesW; rw [if_pos (.inr rfl)]
theorem line_word {a : String} (h1 : ¬ 32 ∈ TL.tl (a : Str)) (h2 : (a : Str).length ≤ 100) : LineIs (a : Str) [] := by
  refine line_of (w0 := a) (r := []) (split1 h1) (by omega) (by simp) ?_
  unfold namesW
  split
  · rfl
  split <;> rfl
mutual
/-- every line is good, and their names are the program's -/
theorem linesS_ok : ∀ s : Step, FitS s → (∀ x ∈ linS s, GoodLine x ∧ (namesLine x).length ≤ 2) ∧ (linS s).flatMap namesLine = namesS s
  | .pl p, f => by
    have h := line_pl f
    refine ⟨fun x hx => ?_, ?_⟩
    · rw [List.mem_singleton.mp (show x ∈ [Txt.join " " (plS p)] from hx)]
      exact ⟨h.1, by rw [h.2.1]; exact h.2.2⟩
    · show [Txt.join " " (plS p)].flatMap namesLine = p.names
      simp [h.2.1]
  | .lend x y b, f => by
    have h := line_lend f.1 f.2.1
    have hw := line_word (a := "back") (by decide +kernel) (by decide)
    obtain ⟨b1, b2⟩ := linesL_ok b f.2.2
    refine ⟨fun z hz => ?_, ?_⟩
    · rcases mem_c (show z ∈ (("lend " : Str) ++ x ++ " " ++ y) :: (linL b ++ [("back" : Str)]) from hz) with e | hz
      · rw [e]; exact ⟨h.1, by rw [h.2.1]; exact h.2.2⟩
      rcases mem_a hz with hz | hz
      · exact b1 z hz
      · rw [List.mem_singleton.mp hz]; exact ⟨hw.1, by rw [hw.2.1]; exact hw.2.2⟩
    · show ((("lend " : Str) ++ x ++ " " ++ y) :: (linL b ++ [("back" : Str)])).flatMap namesLine = x :: y :: namesL b
      rw [List.flatMap_cons, List.flatMap_append, h.2.1, b2, List.flatMap_cons, hw.2.1]; simp
  | .ite n b c, f => by
    have h := line_if f.1
    have he := line_word (a := "else") (by decide +kernel) (by decide)
    have hw := line_word (a := "fi") (by decide +kernel) (by decide)
    obtain ⟨b1, b2⟩ := linesL_ok b f.2.1
    obtain ⟨c1, c2⟩ := linesL_ok c f.2.2
    refine ⟨fun z hz => ?_, ?_⟩
    · rcases mem_c (show z ∈ (("if " : Str) ++ toString n) :: (linL b ++ (("else" : Str) :: (linL c ++ [("fi" : Str)]))) from hz) with e | hz
      · rw [e]; exact ⟨h.1, by rw [h.2.1]; exact h.2.2⟩
      rcases mem_a hz with hz | hz
      · exact b1 z hz
      rcases mem_c hz with e | hz
      · rw [e]; exact ⟨he.1, by rw [he.2.1]; exact he.2.2⟩
      rcases mem_a hz with hz | hz
      · exact c1 z hz
      · rw [List.mem_singleton.mp hz]; exact ⟨hw.1, by rw [hw.2.1]; exact hw.2.2⟩
    · show ((("if " : Str) ++ toString n) :: (linL b ++ (("else" : Str) :: (linL c ++ [("fi" : Str)])))).flatMap namesLine = namesL b ++ namesL c
      rw [List.flatMap_cons, List.flatMap_append, h.2.1, b2, List.flatMap_cons, he.2.1, List.flatMap_append, c2, List.flatMap_cons, hw.2.1]; simp
  | .whl n b, f => by
    have h := line_while f.1
    have hw := line_word (a := "done") (by decide +kernel) (by decide)
    obtain ⟨b1, b2⟩ := linesL_ok b f.2
    refine ⟨fun z hz => ?_, ?_⟩
    · rcases mem_c (show z ∈ (("while " : Str) ++ toString n) :: (linL b ++ [("done" : Str)]) from hz) with e | hz
      · rw [e]; exact ⟨h.1, by rw [h.2.1]; exact h.2.2⟩
      rcases mem_a hz with hz | hz
      · exact b1 z hz
      · rw [List.mem_singleton.mp hz]; exact ⟨hw.1, by rw [hw.2.1]; exact hw.2.2⟩
    · show ((("while " : Str) ++ toString n) :: (linL b ++ [("done" : Str)])).flatMap namesLine = namesL b
      rw [List.flatMap_cons, List.flatMap_append, h.2.1, b2, List.flatMap_cons, hw.2.1]; simp
theorem linesL_ok : ∀ ss : List Step, FitL ss → (∀ x ∈ linL ss, GoodLine x ∧ (namesLine x).length ≤ 2) ∧ (linL ss).flatMap namesLine = namesL ss
  | [], _ => ⟨fun x hx => (by cases hx), rfl⟩
  | s :: r, f => by
    obtain ⟨a1, a2⟩ := linesS_ok s f.1
    obtain ⟨b1, b2⟩ := linesL_ok r f.2
    refine ⟨fun x hx => ?_, ?_⟩
    · rcases mem_a (show x ∈ linS s ++ linL r from hx) with hx | hx
      · exact a1 x hx
      · exact b1 x hx
    · show (linS s ++ linL r).flatMap namesLine = namesS s ++ namesL r
      rw [List.flatMap_append, a2, b2]
end
theorem addK_mem : ∀ (l acc : List Str) (x : Str), x ∈ l.foldl addK acc ↔ x ∈ acc ∨ x ∈ l
  | [], acc, x => by simp
  | a :: l, acc, x => by
    rw [List.foldl_cons, addK_mem l]
    unfold addK
    split
    · rename_i h
      constructor
      · rintro (h1 | h1)
        · exact .inl h1
        · exact .inr (List.mem_cons_of_mem _ h1)
      · rintro (h1 | h1)
        · exact .inl h1
        · rcases mem_c h1 with e | e
          · rw [e]; exact .inl h
          · exact .inr e
    · rw [List.mem_append, List.mem_singleton, List.mem_cons, or_assoc]
theorem addK_nd : ∀ (l acc : List Str), acc.Nodup → (l.foldl addK acc).Nodup
  | [], acc, h => h
  | a :: l, acc, h => by
    rw [List.foldl_cons]
    refine addK_nd l _ ?_
    unfold addK
    split
    · exact h
    · rename_i n
      exact List.nodup_append.mpr ⟨h, by simp, fun x hx y hy => by rw [List.mem_singleton.mp hy]; exact fun e => n (e ▸ hx)⟩
mutual
theorem linesS_size : ∀ s : Step, linesS s ≤ 3 * sizeS s
  | .pl _ => by show 1 ≤ 3 * 1; omega
  | .lend _ _ b => by have := linesL_size b; show 1 + (1 + linesL b) ≤ 3 * (1 + sizeL b); omega
  | .ite _ b c => by have h1 := linesL_size b; have h2 := linesL_size c; show 1 + (1 + linesL b) + (1 + linesL c) ≤ 3 * (1 + sizeL b + sizeL c); omega
  | .whl _ b => by have := linesL_size b; show 1 + (1 + linesL b) ≤ 3 * (1 + sizeL b); omega
theorem linesL_size : ∀ ss : List Step, linesL ss ≤ 3 * sizeL ss
  | [] => by show 0 ≤ 3 * 0; omega
  | s :: r => by have h1 := linesS_size s; have h2 := linesL_size r; show linesS s + linesL r ≤ 3 * (sizeS s + sizeL r); omega
end
theorem progOk_of {ss : List Step} (f : FitL ss) (hd : deepL ss ≤ 4) (hs : sizeL ss ≤ 13) : ProgOk ss := by
  obtain ⟨h1, h2⟩ := linesL_ok ss f
  have hl := linesL_size ss
  have e : namesOf (linL ss) = (namesL ss).foldl addK [] := by unfold namesOf; rw [h2]
  refine ⟨f, by omega, by omega, fun x hx => (h1 x hx).1, fun x hx => ?_, ?_, ?_⟩
  · rw [e, addK_mem]; exact .inr hx
  · rw [e]; exact addK_nd _ _ List.nodup_nil
  · have k1 := addK_len (namesL ss) []
    have k2 := flat_len (f := namesLine) (l := linL ss) fun x hx => (h1 x hx).2
    rw [h2, linL_len] at k2
    rw [e]
    simp only [List.length_nil] at k1
    omega
theorem nam_of {ss : List Step} (p : ProgOk ss) : Nam (fun x => (namesOf (linL ss)).idxOf x) (namesL ss) (namesOf (linL ss)).length where
  inj := fun x hx y hy e => by
    have h1 := List.idxOf_lt_length_iff.mpr (p.2.2.2.2.1 x hx)
    have h2 := List.idxOf_lt_length_iff.mpr (p.2.2.2.2.1 y hy)
    have a := List.getElem_idxOf h1
    have b := List.getElem_idxOf h2
    have e' : (namesOf (linL ss)).idxOf x = (namesOf (linL ss)).idxOf y := e
    rw [← a, ← b]
    congr 1
  lt := fun x hx => List.idxOf_lt_length_iff.mpr (p.2.2.2.2.1 x hx)
theorem runs_of {ss : List Step} (p : ProgOk ss) (inputs : List Int) : Runs (codeOf ss) (m0 inputs) (logOf ss inputs) := runs_log (nam_of p) ss inputs fun _ h => h
theorem code_len {ss : List Step} (hs : sizeL ss ≤ 13) : (codeOf ss).length ≤ 1000 := by
  have hl := linesL_size ss
  unfold codeOf codeRows
  rw [List.length_append, put_longL, List.length_singleton]
  have := long_markL (fun x => (namesOf (linL ss)).idxOf x) ss 0 (namesOf (linL ss)).length
  omega
theorem log_few (prog : List Step) (inputs : List Int) (hs : sizeL prog ≤ 13) (hi : inputs.length ≤ 44) : (logOf prog inputs).length ≤ 1755 := by
  obtain ⟨⟨ev, e, l⟩, m, r⟩ := costL prog 0 (s0 inputs)
  unfold logOf
  rw [e]
  have hr : (s0 inputs).rest.length = inputs.length := rfl
  rw [hr] at l m
  have b : 1 + inputs.length - (goL prog 0 (s0 inputs)).rest.length ≤ 45 := by omega
  have k1 : 2 * sizeL prog * (1 + inputs.length - (goL prog 0 (s0 inputs)).rest.length) ≤ 26 * 45 := Nat.mul_le_mul (by omega) b
  have k2 : sizeL prog * (1 + inputs.length - (goL prog 0 (s0 inputs)).rest.length) ≤ 13 * 45 := Nat.mul_le_mul hs b
  have m0 : (s0 inputs).many = 0 := rfl
  have l0 : (s0 inputs).log = [] := rfl
  rw [m0] at m
  rw [l0]
  simp only [List.length_append, List.length_nil, endsOf, List.length_map, List.length_range]
  omega
/-! ### what the log's entries are -/
def EntOk : Ent → Prop
  | .deed _ _ t _ => t.length ≤ 100 ∧ PyData.strOk t = true
  | .tie _ a b => a ≠ b
def LogIs (s : LS) : Prop := ∀ e ∈ s.log, EntOk e
theorem LogIs.deed {s : LS} (h : LogIs s) (l : Nat) (o : Option Nat) {t : Str} (ht : t.length ≤ 100 ∧ PyData.strOk t = true) : LogIs (s.deed l o t) := fun e he => by
  cases o with
  | none => exact h e he
  | some a =>
    rcases mem_a (show e ∈ s.log ++ [Ent.deed l a t s.num] from he) with he | he
    · exact h e he
    · rw [List.mem_singleton.mp he]; exact ht
theorem LogIs.more {s s1 : LS} {n : Int} {b : Bool} (h : LogIs s) (e : s.more n = (b, s1)) : LogIs s1 := by
  unfold LS.more at e
  split at e
  · have := (Prod.mk.inj e).2; subst this; exact h
  · have := (Prod.mk.inj e).2; subst this; exact h
theorem word_ok {a : String} (h1 : (a : Str).length ≤ 100) (h2 : PyData.strOk (a : Str) = true) : (a : Str).length ≤ 100 ∧ PyData.strOk (a : Str) = true := ⟨h1, h2⟩
theorem LogIs.plain {s : LS} (h : LogIs s) {p : Pl} (f : plFit p) (l : Nat) : LogIs (plain p l s) := by
  cases p with
  | opn x => exact LogIs.deed (s := { s with holds := setF s.holds x (some s.many), many := s.many + 1 }) h l _ (word_ok (by decide) (by decide +kernel))
  | act t x => exact h.deed l _ ⟨f.1.1, f.1.2.2⟩
  | cpy x y => exact h
  | drp x => exact h
  | tie x y =>
    show LogIs (s.tied l (s.holds x) (s.holds y))
    unfold LS.tied
    split
    · rename_i a b _ _
      split
      · exact h
      · rename_i ne
        intro e he
        rcases mem_a he with he | he
        · exact h e he
        · rw [List.mem_singleton.mp he]; exact ne
    · exact h
theorem LogIs.loop {n : Int} {f : LS → LS} (hf : ∀ s, LogIs s → LogIs (f s)) : ∀ (k : Nat) (s : LS), LogIs s → LogIs (loop k n f s)
  | 0, s, h => h
  | k + 1, s, h => by
    unfold U.loop
    split
    · rename_i s1 e
      exact LogIs.loop hf k _ (hf _ (h.more e))
    · rename_i s1 e
      exact h.more e
mutual
theorem logS : ∀ (st : Step) (l : Nat) (s : LS), FitS st → LogIs s → LogIs (goS st l s)
  | .pl p, l, s, f, h => by unfold goS; exact h.plain f l
  | .lend x y b, l, s, f, h => by
    unfold goS
    have h1 : LogIs (LS.set (LS.deed s l (s.holds x) "lend") y (s.holds x)) := h.deed l _ (word_ok (by decide) (by decide +kernel))
    have h2 := logL b (l + 1) _ f.2.2 h1
    exact LogIs.deed h2 _ _ (word_ok (by decide) (by decide +kernel))
  | .ite n b c, l, s, f, h => by
    unfold goS
    split
    · rename_i s1 e
      exact logL b _ _ f.2.1 (h.more e)
    · rename_i s1 e
      exact logL c _ _ f.2.2 (h.more e)
  | .whl n b, l, s, f, h => by
    unfold goS
    exact LogIs.loop (fun s1 h1 => logL b (l + 1) s1 f.2 h1) _ _ h
theorem logL : ∀ (sts : List Step) (l : Nat) (s : LS), FitL sts → LogIs s → LogIs (goL sts l s)
  | [], l, s, _, h => by unfold goL; exact h
  | st :: r, l, s, f, h => by
    unfold goL
    exact logL r _ _ f.2 (logS st l s f.1 h)
end
theorem log_ok {ss : List Step} (f : FitL ss) (inputs : List Int) : ∀ e ∈ logOf ss inputs, EntOk e := fun e he => by
  unfold logOf at he
  rcases mem_a he with he | he
  · exact logL ss 0 (s0 inputs) f (fun e he => by cases he) e he
  · obtain ⟨i, _, rfl⟩ := List.mem_map.mp he
    exact word_ok (by decide) (by decide +kernel)
theorem ok_app {a b : Str} (ha : PyData.strOk a = true) (hb : PyData.strOk b = true) : PyData.strOk (a ++ b) = true := by
  unfold PyData.strOk at ha hb ⊢
  rw [Str.cps_append, Array.all_append, ha, hb]; rfl
theorem wordOf_ok {k : Ky} {e : Ent} (h : EntOk e) {x : Str} (hx : wordOf k e = some x) : PyData.strOk x = true := by
  cases e with
  | tie _ _ _ => cases hx
  | deed l a t n =>
    cases k with
    | one b =>
      unfold wordOf at hx
      dsimp only at hx
      split at hx
      · cases hx; exact h.2
      · cases hx
    | two i b c =>
      have hx' : sideW b c a t = some x := hx
      unfold sideW at hx'
      split at hx'
      · cases hx'; exact ok_app (by decide +kernel) h.2
      split at hx'
      · cases hx'; exact ok_app (by decide +kernel) h.2
      · cases hx'
theorem rowOf_ok {L : List Ent} (h : ∀ e ∈ L, EntOk e) (k : Ky) : ∀ x ∈ rowOf L k, PyData.strOk x = true := fun x hx => by
  unfold rowOf at hx
  obtain ⟨e, he, q⟩ := List.mem_filterMap.mp hx
  exact wordOf_ok (h e (List.mem_of_mem_drop he)) q

end U
namespace U
open PySem L2
/-! the steps that need no word -/
local macro_rules | `(tactic| walk_at "h") => `(tactic| focus ((repeat (first | assumption | exact upd_same | (apply at_ne; rotate_left; (first | assumption | exact Ne.symm (by assumption))) | (apply at_new; rotate_left; assumption))); done))
local macro_rules | `(tactic| walk_at "go") => `(tactic| repeat (with_reducible first
  | refine Go.by_ ?_
  | (apply w_at; (first | assumption | exact upd_same))
  | (apply w_sqT; (first | assumption | exact SqT.of (by assumption) | exact SqT.of upd_same))
  | (apply w_sqL; (first | assumption | exact SqL.of (by assumption) | exact SqL.of upd_same))
  | (apply w_sqLT1; (first | assumption | exact SqL.of (by assumption) | exact SqL.of upd_same))
  | (apply w_sqLT2; (first | assumption | exact SqT.of (by assumption) | exact SqT.of upd_same))
  | (apply w_at; walk_at "h")
  | (apply w_sqT; focus (apply SqT.of; walk_at "h"))
  | (apply w_sqL; focus (apply SqL.of; walk_at "h"))
  | (apply w_sqLT1; focus (apply SqL.of; walk_at "h"))
  | (apply w_sqLT2; focus (apply SqT.of; walk_at "h"))
  | (apply w_strT; decide)
  | (apply w_strF; decide)
  | (apply w_gTupH; (with_unfolding_all rfl))
  | (apply w_ixA; (first | assumption | with_unfolding_all rfl))))
local macro_rules | `(tactic| walk_at "k") => `(tactic| ((try dsimp only [cxOf, Cx.nox, List.map_cons, List.map_nil]); refine w_start ?_))
open RZ
def spLaw (K : PySem.W.Frag) : Sp := fun vs H Q _ => ∃ (a : Addr) (ns : List Int), vs = [.ref a] ∧ SqL K H a (ns.map V.int) ∧ ns.length ≤ 63 ∧ ∀ H', Q (.bl true) H'
def cutL {α : Type} (xs : List α) (lo hi : Option Int) : List α := (xs.drop (HT.sIx xs.length 0 lo)).take (HT.sIx xs.length xs.length hi - HT.sIx xs.length 0 lo)
theorem cut_map {α : Type} (f : α → V) (xs : List α) (lo hi : Option Int) : cutV (xs.map f) lo hi = (cutL xs lo hi).map f := by
  unfold cutV cutL
  rw [List.length_map, List.map_take, List.map_drop]
theorem cutL_len {α : Type} (xs : List α) (lo hi : Nat) : (cutL xs (some (lo : Int)) (some (hi : Int))).length ≤ hi - lo := by
  unfold cutL
  rw [List.length_take, HT.sIx_nat, HT.sIx_nat]
  omega
theorem cutL_sub {α : Type} {xs : List α} {lo hi : Option Int} {x : α} (h : x ∈ cutL xs lo hi) : x ∈ xs := List.mem_of_mem_drop (List.mem_of_mem_take h)
theorem cutL_ne {α : Type} {xs : List α} {hi : Nat} (hx : xs ≠ []) (h : 0 < hi) : cutL xs none (some (hi : Int)) ≠ [] := by
  unfold cutL
  rw [HT.sIx_nat, HT.sIx_none, List.drop_zero]
  intro e
  have := congrArg List.length e
  have h1 := List.length_pos_iff.mpr hx
  rw [List.length_take, List.length_nil] at this
  omega
theorem wordsZ_len (c : Int) (n : Nat) : (wordsZ c n).length = n := by simp [wordsZ]
theorem wordsZ_fit {c : Int} {n : Nat} {x : Str} (h : x ∈ wordsZ c n) : fitW x := by
  obtain ⟨i, _, rfl⟩ := List.mem_map.mp h
  exact wordZ_fit c i
theorem wordsZ_nd (c : Int) {n : Nat} (hn : n ≤ 5) : (wordsZ c n).Nodup := by
  unfold wordsZ
  refine List.pairwise_map.mpr (List.Pairwise.imp_of_mem (fun {a b} ha hb hne e => hne (wordZ_inj ?_ ?_ e)) List.nodup_range)
  · have := List.mem_range.mp ha; omega
  · have := List.mem_range.mp hb; omega
theorem low_ok (x : Int) : (x % (10 : Int) ^ (59 : Int).toNat - 5 * (10 : Int) ^ (58 : Int).toNat).natAbs ≤ 10 ^ 60 := by
  have e1 : (10 : Int) ^ (59 : Int).toNat = 100000000000000000000000000000000000000000000000000000000000 := by decide
  have e2 : (10 : Int) ^ (58 : Int).toNat = 10000000000000000000000000000000000000000000000000000000000 := by decide
  have e3 : (10 : Nat) ^ 60 = 1000000000000000000000000000000000000000000000000000000000000 := by decide
  rw [e1, e2, e3]
  omega
theorem minus_mono {H H' : Hp} {S : List Addr} (s : Same H H') : Same (minus H S) (minus H' S) := fun b o e => by
  unfold minus at e ⊢
  split at e
  · cases e
  · rename_i h
    rw [if_neg h]; exact s _ _ e
theorem rules_snoc {H15 H16 : Hp} {p12 p17 ra : Addr} {ti : Str} {r : Rl} {rules : List (Str × Rl)} {rs : List V} {l12 : List V} (h : RulesIn (minus H16 [p12]) rules rs) (h15 : H15 p12 = some (.lst l12)) (hp : H16 p17 = none) (n17 : p17 ≠ p12)
    (hr : RuleAt (newIn H15 H16) r ra) : RulesIn (minus (upd (upd H16 p17 (.tup [V.str ti, V.ref ra])) p12 (.lst (rs ++ [V.ref p17]))) [p12]) (rules ++ [(ti, r)]) (rs ++ [V.ref p17]) := by
  have up : ∀ b o, b ≠ p12 → H16 b = some o → minus (upd (upd H16 p17 (.tup [V.str ti, V.ref ra])) p12 (.lst (rs ++ [V.ref p17]))) [p12] b = some o := fun b o nb e => by
    rw [minus_ne (by simpa using nb), upd_ne nb]
    exact at_new e hp
  refine Each.snoc (RulesIn.put h fun b o e => ?_) ⟨ra, ⟨p17, rfl, ?_⟩, hr.same fun b o e => ?_⟩
  · have nb : b ≠ p12 := fun q => by rw [q, minus_at (by simp)] at e; cases e
    exact up b o nb (minus_le _ _ _ _ e)
  · rw [minus_ne (by simpa using n17), upd_ne n17, upd_same]
  · obtain ⟨e1, e2⟩ := newIn_is e
    exact up b o (fun q => by rw [q, h15] at e1; cases e1) e2
theorem due_is {rules : List (Str × Rl)} {L : List Ent} {k : Nat} {n : Str} {y : Ky} (e : due rules L = some (k, n, y)) : (∃ l h w z, L[k]? = some (.deed l h w z)) ∧ n ∈ rules.map (·.1) := by
  obtain ⟨_, _, l, h, w, z, e1, e2⟩ := dueFrom_some (P := []) (R := L) e
  obtain ⟨r, hr, _⟩ := brkAt_key e2
  exact ⟨⟨l, h, w, z, by simpa using e1⟩, List.mem_map.mpr ⟨_, hr, rfl⟩⟩
theorem rm_ok {ss : List Step} (h : sizeL ss ≤ 13) {is : List Int} (hi : is.length ≤ 44) : Rm (sizeL ss) (s0 is) := by
  unfold Rm
  show 0 + 2 * sizeL ss * (1 + is.length) ≤ 1000000
  have : 2 * sizeL ss * (1 + is.length) ≤ 26 * 45 := Nat.mul_le_mul (by omega) (by omega)
  omega
section
variable {P : Program} {w : World} {K : PySem.W.Frag} {mg : Str → Option Value} {base : Heap} {A : Ad} (T : Tx K mg A)
include T
theorem ok_law : FnOk P w K mg base CX0 22 A.f_law A.d_law ["_law_script"] (spLaw K) := by
  refine T.F_law.ok sc_law (fun vs H Q E h => ?_) (fun cdv A' outer s H vs Q E hr h => ?_)
  · obtain ⟨a, ns, rfl, _⟩ := h
    rfl
  have G_law_words := ok_law_words (P := P) (w := w) (base := base) T
  have G_law_cell_at := ok_law_cell_at (P := P) (w := w) (base := base) T
  have G_law_program := ok_law_program (P := P) (w := w) (base := base) T
  have G_law_input := ok_law_input (P := P) (w := w) (base := base) T
  have G_law_rule := ok_law_rule (P := P) (w := w) (base := base) T
  have G_law_log := ok_law_log (P := P) (w := w) (base := base) T
  have G_law_due := ok_law_due (P := P) (w := w) (base := base) T
  have G_law_as_due := ok_law_as_due (P := P) (w := w) (base := base) T
  have G_law_told := ok_law_told (P := P) (w := w) (base := base) T
  have G_code_of := ok_code_of (P := P) (w := w) (base := base) T
  obtain ⟨a, ns, rfl, hS, h63, k⟩ := h
  refine ⟨_, (pss_cons (ps_set (i := 1) sc_law.nd rfl (Or.inl rfl) (pe_slice sl_list (pe_call G_law_words (hr.mono (by decide)) rfl T.m_law_words T.F_law_words.kp T.b_law_words .nil pass0 (pa_cons (pe_call G_law_cell_at (hr.mono (by decide)) rfl T.m_law_cell_at T.F_law_cell_at.kp T.b_law_cell_at .nil pass0 (pa_cons (pv 0) (pa_cons pe_int pa_nil))) (pa_cons pe_int pa_nil))) po_none (po_some (pe_op op_add pe_int (pe_op op_mod (pe_op op_fdiv (pe_call G_law_cell_at (hr.mono (by decide)) rfl T.m_law_cell_at T.F_law_cell_at.kp T.b_law_cell_at .nil pass0 (pa_cons (pv 0) (pa_cons pe_int pa_nil))) pe_int) pe_int)))))
    (pss_cons (ps_set (i := 2) sc_law.nd rfl (Or.inl rfl) (pe_call G_law_words (hr.mono (by decide)) rfl T.m_law_words T.F_law_words.kp T.b_law_words .nil pass0 (pa_cons (pe_call G_law_cell_at (hr.mono (by decide)) rfl T.m_law_cell_at T.F_law_cell_at.kp T.b_law_cell_at .nil pass0 (pa_cons (pv 0) (pa_cons pe_int pa_nil))) (pa_cons pe_int pa_nil))))
    (pss_cons (ps_set (i := 3) sc_law.nd rfl (Or.inr rfl) (pe_op op_sub (pe_op op_mod (pe_call G_law_cell_at (hr.mono (by decide)) rfl T.m_law_cell_at T.F_law_cell_at.kp T.b_law_cell_at .nil pass0 (pa_cons (pv 0) (pa_cons pe_int pa_nil))) (pe_op op_pow pe_int pe_int)) (pe_op op_mul pe_int (pe_op op_pow pe_int pe_int))))
    (pss_cons (ps_set (i := 4) sc_law.nd rfl (Or.inl rfl) (pe_op op_cat (pv 2) (pe_lst (pa_cons pe_str (pa_cons pe_str (pa_cons pe_str (pa_cons pe_str pa_nil)))))))
    (pss_cons (ps_set (i := 5) sc_law.nd rfl (Or.inl rfl) (pe_call G_law_program (hr.mono (by decide)) rfl T.m_law_program T.F_law_program.kp T.b_law_program .nil pass0 (pa_cons (pe_slice sl_list (pv 0) (po_some pe_int) (po_some pe_int)) (pa_cons (pv 1) (pa_cons (pv 4) (pa_cons (pv 3) pa_nil))))))
    (pss_cons (ps_setLc (i := 6) (own := [("_law_cell", 10)]) (g := gName 10) rfl sc_law.nd rfl rfl (sw_true rfl rfl rfl (by decide +kernel)) (pi_list (pe_slice sl_list (pv 0) (po_some pe_int) (po_some pe_int))) (blkOk_by (own := [("_law_cell", 10)]) (N := ["_law_script", "_law_names", "_law_words_here", "_law_low", "_law_some", "_law_program_here", "_law_inputs", "_law_titles", "_law_rules", "_law_title", "_law_cell", "_law_log_here", "_law_due_here"]) (sc := defScope st_law) (by decide +kernel)) (fun _ _ _ _ _ => pg_name (i := 10) sc_law.nd rfl (Or.inl rfl)) (fun _ _ _ _ _ => pts_nil) (fun _ _ _ _ _ => (pe_call G_law_input (hr.mono (by decide)) rfl T.m_law_input T.F_law_input.kp T.b_law_input .nil pass0 (pa_cons (pv 10) (pa_cons (pv 3) pa_nil)))))
    (pss_cons (ps_set (i := 7) sc_law.nd rfl (Or.inl rfl) (pe_call G_law_words (hr.mono (by decide)) rfl T.m_law_words T.F_law_words.kp T.b_law_words .nil pass0 (pa_cons (pe_call G_law_cell_at (hr.mono (by decide)) rfl T.m_law_cell_at T.F_law_cell_at.kp T.b_law_cell_at .nil pass0 (pa_cons (pv 0) (pa_cons pe_int pa_nil))) (pa_cons pe_int pa_nil))))
    (pss_cons (ps_set (i := 8) sc_law.nd rfl (Or.inl rfl) (pe_lst pa_nil))
    (pss_cons (ps_for PassesOwn.never rfl (pi_zip (by rfl) T.z_zip (pa_cons (pv 7) (pa_cons (pe_slice sl_list (pv 0) (po_some pe_int) (po_some (pe_op op_add pe_int (pe_op op_mod (pe_op op_fdiv (pe_call G_law_cell_at (hr.mono (by decide)) rfl T.m_law_cell_at T.F_law_cell_at.kp T.b_law_cell_at .nil pass0 (pa_cons (pv 0) (pa_cons pe_int pa_nil))) pe_int) pe_int)))) pa_nil))) (pg_tup rfl (pgs_cons (pg_name (i := 9) sc_law.nd rfl (Or.inl rfl)) (pgs_cons (pg_name (i := 10) sc_law.nd rfl (Or.inl rfl)) pgs_nil))) (pss_one (ps_expr (pe_bm PySem.F.plainAttrs_list PySem.F.slot_list_append PySem.F.type_list_append mt_append (pv 8) (pa_cons (pe_tup (pa_cons (pv 9) (pa_cons (pe_call G_law_rule (hr.mono (by decide)) rfl T.m_law_rule T.F_law_rule.kp T.b_law_rule .nil pass0 (pa_cons (pv 10) (pa_cons (pv 4) pa_nil))) pa_nil))) pa_nil)))))
    (pss_cons (ps_set (i := 11) sc_law.nd rfl (Or.inl rfl) (pe_call G_law_log (hr.mono (by decide)) rfl T.m_law_log T.F_law_log.kp T.b_law_log .nil pass0 (pa_cons (pv 5) (pa_cons (pv 6) pa_nil))))
    (pss_cons (ps_set (i := 12) sc_law.nd rfl (Or.inl rfl) (pe_call G_law_due (hr.mono (by decide)) rfl T.m_law_due T.F_law_due.kp T.b_law_due .nil pass0 (pa_cons (pv 8) (pa_cons (pv 11) pa_nil))))
    (pss_one (ps_ret (pe_call G_law_as_due (hr.mono (by decide)) rfl T.m_law_as_due T.F_law_as_due.kp T.b_law_as_due .nil pass0 (pa_cons (pe_call G_law_told (hr.mono (by decide)) rfl T.m_law_told T.F_law_told.kp T.b_law_told .nil pass0 (pa_cons (pe_call G_code_of (hr.mono (by decide)) rfl T.m_code_of T.F_code_of.kp T.b_code_of .nil pass0 (pa_cons (pv 5) pa_nil)) (pa_cons (pv 8) (pa_cons (pe_callTy call_list_of (by rfl) T.z_list (by decide +kernel) (pa_cons (pv 6) pa_nil)) pa_nil)))) (pa_cons (pv 11) (pa_cons (pv 12) pa_nil))))))))))))))))), ?_⟩
  walk_at "k"
  walk_at "go"
  refine ⟨a, ns, 0, rfl, hS, ?_⟩
  walk_at "go"
  refine ⟨ns.getD 0 0, 5, rfl, by omega, fun p1 H1 s1 e1 => ?_⟩
  have hS1 := s1.seq hS
  walk_at "go"
  refine ⟨a, ns, 0, rfl, hS1, ?_⟩
  walk_at "go"
  refine rI_go ⟨by decide, by decide⟩ ?_
  walk_at "go"
  refine rI_go (by decide) ?_
  obtain ⟨n1, hn1, hn1p, hn14⟩ : ∃ n1 : Nat, 1 + ns.getD 0 0 / 64 % 4 = (n1 : Int) ∧ 0 < n1 ∧ n1 ≤ 4 := ⟨(1 + ns.getD 0 0 / 64 % 4).toNat, by omega, by omega, by omega⟩
  walk_at "go"
  rw [hn1]
  intro p2 hp2
  rw [cut_map]
  have ne2 : cutL (wordsZ (ns.getD 0 0) 5) none (some (n1 : Int)) ≠ [] := cutL_ne (by intro e; have := congrArg List.length e; rw [wordsZ_len] at this; cases this) hn1p
  have fit2 : ∀ x ∈ cutL (wordsZ (ns.getD 0 0) 5) none (some (n1 : Int)), fitW x := fun x hx => wordsZ_fit (cutL_sub hx)
  have len2 : (cutL (wordsZ (ns.getD 0 0) 5) none (some (n1 : Int))).length ≤ 5 := by
    unfold cutL
    have h5 := wordsZ_len (ns.getD 0 0) 5
    rw [List.length_take, List.length_drop]; omega
  generalize cutL (wordsZ (ns.getD 0 0) 5) none (some (n1 : Int)) = nm at ne2 fit2 len2 ⊢
  have s2 := s1.new (o := .lst (nm.map V.str)) hp2
  have e2 : upd H1 p2 (.lst (nm.map V.str)) p2 = some (.lst (nm.map V.str)) := upd_same
  generalize upd H1 p2 (.lst (nm.map V.str)) = H2 at s2 e2 ⊢
  clear s1 e1 hS1
  have hS2 := s2.seq hS
  walk_at "go"
  refine ⟨a, ns, 1, rfl, hS2, ?_⟩
  walk_at "go"
  refine ⟨ns.getD 1 0, 3, rfl, by omega, fun p3 H3 s3 e3 => ?_⟩
  have e23 := s3 _ _ e2
  have sH3 := s2.trans s3
  have hS3 := sH3.seq hS
  walk_at "go"
  refine ⟨a, ns, 2, rfl, hS3, ?_⟩
  walk_at "go"
  refine rI_go ⟨by decide, by decide, by decide⟩ ?_
  walk_at "go"
  refine rI_go (by decide) ?_
  walk_at "go"
  refine rI_go ⟨by decide, by decide, by decide⟩ ?_
  walk_at "go"
  refine rI_go (.inl (by decide)) ?_
  walk_at "go"
  have hlow := low_ok (ns.getD 2 0)
  generalize ns.getD 2 0 % (10 : Int) ^ (59 : Int).toNat - 5 * (10 : Int) ^ (58 : Int).toNat = low at hlow ⊢
  walk_at "go"
  intro p4 hp4
  refine w_cat (at_new e3 hp4) upd_same (by rw [List.length_map, wordsZ_len]; simp) fun p5 hp5 => ?_
  obtain ⟨ws, hws⟩ : ∃ ws : List Str, ws = wordsZ (ns.getD 1 0) 3 ++ (["open", "lend", "back", "end"] : List Str) := ⟨_, rfl⟩
  have ew : (wordsZ (ns.getD 1 0) 3).map V.str ++ [V.str "open", V.str "lend", V.str "back", V.str "end"] = ws.map V.str := by rw [hws, List.map_append]; rfl
  have fw : ∀ x ∈ ws, fitW x := fun x hx => by
    rw [hws] at hx
    rcases mem_a hx with hx | hx
    · exact wordsZ_fit hx
    · have key : ∀ y ∈ (["open", "lend", "back", "end"] : List Str), fitW y := by
        intro y hy
        simp only [List.mem_cons, List.not_mem_nil, or_false] at hy
        rcases hy with rfl | rfl | rfl | rfl
        · exact ⟨by decide, by decide +kernel, by decide +kernel⟩
        · exact ⟨by decide, by decide +kernel, by decide +kernel⟩
        · exact ⟨by decide, by decide +kernel, by decide +kernel⟩
        · exact ⟨by decide, by decide +kernel, by decide +kernel⟩
      exact key x hx
  have hw7 : ws.length ≤ 7 := by rw [hws, List.length_append, wordsZ_len]; simp
  have hwne : ws ≠ [] := by rw [hws]; simp
  rw [show (wordsZ (ns.getD 1 0) 3).map V.str ++ [V.str (Str.ofString "open"), V.str (Str.ofString "lend"), V.str (Str.ofString "back"), V.str (Str.ofString "end")] = ws.map V.str from ew]
  have s5 := (sH3.new (o := .lst [V.str (Str.ofString "open"), V.str (Str.ofString "lend"), V.str (Str.ofString "back"), V.str (Str.ofString "end")]) hp4).new (o := .lst (ws.map V.str)) hp5
  have e25 := at_new (u := .lst (ws.map V.str)) (at_new (u := .lst [V.str (Str.ofString "open"), V.str (Str.ofString "lend"), V.str (Str.ofString "back"), V.str (Str.ofString "end")]) e23 hp4) hp5
  have e5 : upd (upd H3 p4 (.lst [V.str (Str.ofString "open"), V.str (Str.ofString "lend"), V.str (Str.ofString "back"), V.str (Str.ofString "end")])) p5 (.lst (ws.map V.str)) p5 = some (.lst (ws.map V.str)) := upd_same
  generalize upd (upd H3 p4 (.lst [V.str (Str.ofString "open"), V.str (Str.ofString "lend"), V.str (Str.ofString "back"), V.str (Str.ofString "end")])) p5 (.lst (ws.map V.str)) = H5 at s5 e25 e5 ⊢
  have hS5 := s5.seq hS
  walk_at "go"
  intro p6 hp6
  rw [cut_map]
  have l6 : (cutL ns (some 4) (some 16)).length ≤ 12 := cutL_len ns 4 16
  have e6 : upd H5 p6 (.lst ((cutL ns (some 4) (some 16)).map V.int)) p6 = some (.lst ((cutL ns (some 4) (some 16)).map V.int)) := upd_same
  have s6 := s5.new (o := .lst ((cutL ns (some 4) (some 16)).map V.int)) hp6
  have e26 := at_new (u := .lst ((cutL ns (some 4) (some 16)).map V.int)) e25 hp6
  have e56 := at_new (u := .lst ((cutL ns (some 4) (some 16)).map V.int)) e5 hp6
  generalize upd H5 p6 (.lst ((cutL ns (some 4) (some 16)).map V.int)) = H6 at s6 e26 e56 e6 ⊢
  walk_at "go"
  refine ⟨p6, p2, p5, _, nm, ws, low, rfl, e6, e26, e56, l6, ne2, hwne, fit2, fw, hlow, fun pp pvs ss H7 s67 e7 hss fit hnm hd hsz => ?_⟩
  have s7 := s6.trans s67
  have e57 := s67 _ _ e56
  have hS7 := s7.seq hS
  have pok := progOk_of fit hd hsz
  clear e23 e25 e26 e56 e6 e5 hS5 hS3 hS2 s5 s6 s67 e2 e3
  walk_at "go"
  intro p8 hp8
  rw [cut_map]
  have l8 : (cutL ns (some 19) (some 63)).length ≤ 44 := cutL_len ns 19 63
  generalize cutL ns (some 19) (some 63) = ics at l8 ⊢
  have s8 := s7.new (o := .lst (ics.map V.int)) hp8
  have e78 := at_new (u := .lst (ics.map V.int)) e7 hp8
  have hss8 := hss.same (same_new (o := .lst (ics.map V.int)) hp8)
  have e58 := at_new (u := .lst (ics.map V.int)) e57 hp8
  have e8 : upd H7 p8 (.lst (ics.map V.int)) p8 = some (.lst (ics.map V.int)) := upd_same
  generalize upd H7 p8 (.lst (ics.map V.int)) = H8 at s8 e78 hss8 e58 e8 ⊢
  walk_at "go"
  refine w_lcL (xs := ics.map V.int) fun z hz => ⟨fun i H' => Same H8 H' ∧ ∃ is : List Int, is.length = i ∧ H' z = some (.lst (is.map V.int)), ⟨same_new hz, [], rfl, upd_same⟩, fun i H' ⟨s1, _⟩ => SqL.of (s1 _ _ e8), fun i v H' hi ⟨s1, is, hi1, ei⟩ => ?_, fun H9 ⟨s9, is, hi9, ei⟩ => ?_⟩
  · have hil := (List.getElem?_eq_some_iff.mp hi).1
    rw [List.length_map] at hil
    obtain ⟨x, hx, rfl⟩ : ∃ x, ics[i]? = some x ∧ V.int x = v := by
      rw [List.getElem?_map] at hi
      cases e : ics[i]? with
      | none => rw [e] at hi; cases hi
      | some x => rw [e] at hi; cases hi; exact ⟨_, rfl, rfl⟩
    walk_at "go"
    refine ⟨rfl, ?_⟩
    walk_at "go"
    refine ⟨x, low, rfl, fun j => ?_⟩
    refine ⟨_, ei, Nat.lt_of_le_of_lt (show _ ≤ 44 by rw [List.length_map]; omega) (by decide), s1.put hz, is ++ [j], by simp [hi1], ?_⟩
    rw [upd_same, List.map_append]; rfl
  · have hil : is.length ≤ 44 := by rw [hi9, List.length_map]; exact l8
    have s10 := s8.trans s9
    have hS10 := s10.seq hS
    have e79 := s9 _ _ e78
    have hss9 := hss8.same s9
    have e59 := s9 _ _ e58
    clear s7 e7 hss e57 hS7 e78 hss8 e58 e8 s8 s9
    walk_at "go"
    refine ⟨a, ns, 3, rfl, hS10, ?_⟩
    refine ⟨ns.getD 3 0, 4, rfl, by omega, fun p11 H11 s11 e11 => ?_⟩
    have s12 := s10.trans s11
    have e7b := s11 _ _ e79
    have hssb := hss9.same s11
    have e5b := s11 _ _ e59
    have eib := s11 _ _ ei
    walk_at "go"
    intro p12 hp12
    have s13 := s12.new (o := .lst []) hp12
    have e7c := at_new (u := .lst []) e7b hp12
    have hssc := hssb.same (same_new (o := .lst []) hp12)
    have e5c := at_new (u := .lst []) e5b hp12
    have eic := at_new (u := .lst []) eib hp12
    have e11c := at_new (u := .lst []) e11 hp12
    have e12c : upd H11 p12 (.lst []) p12 = some (.lst []) := upd_same
    have sm : Same H11 (upd H11 p12 (.lst [])) := same_new hp12
    generalize upd H11 p12 (.lst []) = H12 at s13 e7c hssc e5c eic e11c e12c sm ⊢
    have hS13 := s13.seq hS
    walk_at "go"
    refine ⟨a, ns, 3, rfl, hS13, ?_⟩
    walk_at "go"
    refine rI_go ⟨by decide, by decide⟩ ?_
    walk_at "go"
    refine rI_go (by decide) ?_
    obtain ⟨n3, hn3, hn34⟩ : ∃ n3 : Nat, 16 + ns.getD 3 0 / 64 % 4 = (n3 : Int) ∧ n3 ≤ 19 := ⟨(16 + ns.getD 3 0 / 64 % 4).toNat, by omega, by omega⟩
    walk_at "go"
    rw [hn3]
    intro p13 hp13
    rw [cut_map]
    have l13 : (cutL ns (some 16) (some (n3 : Int))).length ≤ 3 := Nat.le_trans (cutL_len ns 16 n3) (by omega)
    generalize cutL ns (some 16) (some (n3 : Int)) = rcs at l13 ⊢
    have sm2 := sm.new (o := .lst (rcs.map V.int)) hp13
    have e11d := at_new (u := .lst (rcs.map V.int)) e11c hp13
    have e12d := at_new (u := .lst (rcs.map V.int)) e12c hp13
    have e13d : upd H12 p13 (.lst (rcs.map V.int)) p13 = some (.lst (rcs.map V.int)) := upd_same
    have n1213 : p13 ≠ p12 := fun e => by rw [e, e12c] at hp13; cases hp13
    have n1113 : p11 ≠ p12 := fun e => by rw [e, hp12] at e11; cases e11
    generalize upd H12 p13 (.lst (rcs.map V.int)) = H13 at sm2 e11d e12d e13d ⊢
    have hlen : rcs.length = min ((wordsZ (ns.getD 3 0) 4).map V.str).length (rcs.map V.int).length := by
      rw [List.length_map, List.length_map, wordsZ_len]; omega
    walk_at "go"
    refine w_forZ (xs := (wordsZ (ns.getD 3 0) 4).map V.str) (ys := rcs.map V.int) hlen (fun i σ H' => ∃ (v9 v10 : Option V) (rules : List (Str × Rl)) (rs : List V), σ = [some (.ref a), some (.ref p2), some (.ref p3), some (.int low), some (.ref p5), some (.ref pp), some (.ref z), some (.ref p11), some (.ref p12), v9, v10, none, none] ∧ Same H11 H' ∧ H' p13 = some (.lst (rcs.map V.int)) ∧ H' p12 = some (.lst rs) ∧ rules.length = i ∧ RulesIn (minus H' [p12]) rules rs ∧ rules.map (·.1) = (wordsZ (ns.getD 3 0) 4).take i ∧ (∀ x ∈ rules, x.2.Ok))
      ⟨none, none, [], [], rfl, sm2, e13d, e12d, rfl, Each.nil, rfl, fun x hx => by cases hx⟩ (fun i σ H' ⟨_, _, _, _, _, s, h13, _⟩ => ⟨SqL.of (s _ _ e11), SqL.of h13⟩) ?_ ?_
    · rintro i x y T9 σ H14 hx hy ⟨v9, v10, rules, rs, rfl, s14, h13, h12, hrl, hrs, hnames, hok⟩ hT9
      have hil := (List.getElem?_eq_some_iff.mp hy).1
      rw [List.length_map] at hil
      obtain ⟨rc, hrc, rfl⟩ : ∃ rc, rcs[i]? = some rc ∧ V.int rc = y := by
        rw [List.getElem?_map] at hy
        cases e : rcs[i]? with
        | none => rw [e] at hy; cases hy
        | some x => rw [e] at hy; cases hy; exact ⟨_, rfl, rfl⟩
      obtain ⟨ti, hti, rfl⟩ : ∃ ti, (wordsZ (ns.getD 3 0) 4)[i]? = some ti ∧ V.str ti = x := by
        rw [List.getElem?_map] at hx
        cases e : (wordsZ (ns.getD 3 0) 4)[i]? with
        | none => rw [e] at hx; cases hx
        | some x => rw [e] at hx; cases hx; exact ⟨_, rfl, rfl⟩
      have s15 := s14.new (o := .tup [V.str ti, V.int rc]) hT9
      have e15 : upd H14 T9 (.tup [V.str ti, V.int rc]) T9 = some (.tup [V.str ti, V.int rc]) := upd_same
      have h13b := at_new (u := .tup [V.str ti, V.int rc]) h13 hT9
      have h12b := at_new (u := .tup [V.str ti, V.int rc]) h12 hT9
      have hrs15 := RulesIn.put hrs (minus_mono (S := [p12]) (same_new (H := H14) (o := .tup [V.str ti, V.int rc]) hT9))
      have e5d := s15 _ _ e5b
      generalize upd H14 T9 (.tup [V.str ti, V.int rc]) = H15 at s15 e15 h13b h12b hrs15 e5d ⊢
      walk_at "go"
      refine ⟨rc, p5, ws, rfl, e5d, hw7, fw, fun r ra H16 s16 rok hra => ?_⟩
      have s17 := s15.trans s16
      have h13c := s16 _ _ h13b
      have h12c := s16 _ _ h12b
      have hrs16 := RulesIn.put hrs15 (minus_mono (S := [p12]) s16)
      walk_at "go"
      intro p17 hp17
      have h12d := at_new (u := .tup [V.str ti, V.ref ra]) h12c hp17
      have n17 : p17 ≠ p12 := fun e => by rw [e, h12c] at hp17; cases hp17
      walk_at "go"
      refine w_app h12d (Nat.lt_of_le_of_lt (show _ ≤ 3 by rw [hrs.len, hrl]; omega) (by decide)) ?_
      refine ⟨_, _, rules ++ [(ti, r)], rs ++ [V.ref p17], rfl, (s17.new hp17).put hp12, at_ne (at_new h13c hp17) n1213, upd_same, by simp [hrl], ?_, ?_, fun x hx => ?_⟩
      · exact rules_snoc hrs16 h12b hp17 n17 hra
      · rw [List.map_append, hnames, take_one hti]; rfl
      · rcases mem_a hx with hx | hx
        · exact hok x hx
        · rw [List.mem_singleton.mp hx]; exact rok
    · rintro σ H14 ⟨v9, v10, rules, rs, rfl, s14, h13, h12, hrl, hrs, hnames, hok⟩
      have hrs14 : RulesIn H14 rules rs := hrs.put (minus_le _ _)
      have e7d := s14 _ _ e7b
      have hssd := hssb.same s14
      have eid := s14 _ _ eib
      have hil' := hil
      walk_at "go"
      have nml : (namesL ss).length ≤ 1000 := by
        obtain ⟨h1, h2⟩ := linesL_ok ss fit
        have k2 := flat_len (f := namesLine) (l := linL ss) fun x hx => (h1 x hx).2
        have k3 := linesL_size ss
        rw [h2, linL_len] at k2
        omega
      have lgl := log_few ss is hsz hil
      have lok := log_ok fit is
      have lw : ∀ l h w n, Ent.deed l h w n ∈ logOf ss is → w.length ≤ 100 := fun l h w n e => (lok _ e).1
      have lt : ∀ l a b, Ent.tie l a b ∈ logOf ss is → a ≠ b := fun l a b e => lok _ e
      have rns := runs_of pok is
      have hcode := code_len hsz
      have hnd : (rules.map (·.1)).Nodup := by rw [hnames]; exact (wordsZ_nd _ (by omega)).sublist (List.take_sublist _ _)
      have r3 : rules.length ≤ 3 := by omega
      refine ⟨pp, z, _, ss, is, namesL ss, rfl, e7d, hssd, eid, nml, fun y hy => hy, by omega, rm_ok hsz hil, by omega, fun lg us H15 s15 elg hlg => ?_⟩
      have e7e := s15 _ _ e7d
      have hsse := hssd.same s15
      have eie := s15 _ _ eid
      have h12e := s15 _ _ h12
      have hrse := RulesIn.put hrs14 s15
      generalize hL : logOf ss is = L at *
      walk_at "go"
      cases hdue : due rules L with
      | none =>
        refine ⟨p12, lg, rules, rs, us, L, rfl, h12e, hrse, elg, hlg, by omega, r3, hok, hnd, lw, lt, fun _ H16 s16 => ?_, fun k n y e => by rw [hdue] at e; cases e⟩
        have e7f := s16 _ _ e7e
        have hssf := hsse.same s16
        have eif := s16 _ _ eie
        have h12f := s16 _ _ h12e
        have hrsf := RulesIn.put hrse s16
        have elgf := s16 _ _ elg
        have hlgf := hlg.same s16
        walk_at "go"
        refine ⟨pp, _, ss, rfl, e7f, hssf, pok, fun cr cus H17 s17 ecr hcr => ?_⟩
        have eig := s17 _ _ eif
        have h12g := s17 _ _ h12f
        have hrsg := RulesIn.put hrsf s17
        have elgg := s17 _ _ elgf
        have hlgg := hlgf.same s17
        walk_at "go"
        intro p18 hp18
        have s18 := same_new (o := .lst (is.map V.int)) hp18
        have e18 : upd H17 p18 (.lst (is.map V.int)) p18 = some (.lst (is.map V.int)) := upd_same
        generalize upd H17 p18 (.lst (is.map V.int)) = H18 at s18 e18 ⊢
        refine ⟨cr, p12, p18, codeOf ss, is, rules, cus, rs, L, rfl, s18 _ _ ecr, hcr.same s18, e18, s18 _ _ h12g, RulesIn.put hrsg s18, hcode, rns, by omega, hok, by omega, lw, lt, fun _ t p vs H19 s19 ht hp hvs => ?_, fun k n y l h w z e => by rw [hdue] at e; cases e⟩
        walk_at "go"
        refine ⟨t, lg, L, us, .non, rfl, s19 _ _ (s18 _ _ elgg), (hlgg.same s18).same s19, .inl ⟨rfl, p, vs, ht, hp, hvs⟩, fun H20 _ => k H20⟩
      | some x =>
        obtain ⟨kk, n, y⟩ := x
        obtain ⟨⟨l0, h0, w0, z0, hk0⟩, hnm0⟩ := due_is hdue
        have nok : PyData.strOk n = true := by
          rw [hnames] at hnm0
          obtain ⟨j, _, rfl⟩ := List.mem_map.mp (List.mem_of_mem_take hnm0)
          exact wordZ_ok _ _
        refine ⟨p12, lg, rules, rs, us, L, rfl, h12e, hrse, elg, hlg, by omega, r3, hok, hnd, lw, lt, fun e => (by rw [hdue] at e; cases e), fun k' n' y' e dp hp0 rp H16 s16 edp ehp erp => ?_⟩
        rw [hdue] at e
        cases e
        have e7f := s16 _ _ e7e
        have hssf := hsse.same s16
        have eif := s16 _ _ eie
        have h12f := s16 _ _ h12e
        have hrsf := RulesIn.put hrse s16
        have elgf := s16 _ _ elg
        have hlgf := hlg.same s16
        walk_at "go"
        refine ⟨pp, _, ss, rfl, e7f, hssf, pok, fun cr cus H17 s17 ecr hcr => ?_⟩
        have eig := s17 _ _ eif
        have h12g := s17 _ _ h12f
        have hrsg := RulesIn.put hrsf s17
        have elgg := s17 _ _ elgf
        have hlgg := hlgf.same s17
        walk_at "go"
        intro p18 hp18
        have s18 := same_new (o := .lst (is.map V.int)) hp18
        have e18 : upd H17 p18 (.lst (is.map V.int)) p18 = some (.lst (is.map V.int)) := upd_same
        generalize upd H17 p18 (.lst (is.map V.int)) = H18 at s18 e18 ⊢
        refine ⟨cr, p12, p18, codeOf ss, is, rules, cus, rs, L, rfl, s18 _ _ ecr, hcr.same s18, e18, s18 _ _ h12g, RulesIn.put hrsg s18, hcode, rns, by omega, hok, by omega, lw, lt, fun e => (by rw [hdue] at e; cases e), fun k' n' y' l h x zz e ek t kt lh lr ll vs H19 s19 ht hkt hlh hlr hll hvs => ?_⟩
        rw [hdue] at e
        cases e
        walk_at "go"
        have sall := (s17.trans s18).trans s19
        refine ⟨t, lg, L, us, .ref dp, rfl, s19 _ _ (s18 _ _ elgg), (hlgg.same s18).same s19, .inr ⟨dp, hp0, rp, kt, lh, lr, ll, kk, l, h, x, zz, n, y.handles, rowOf (L.take (kk + 1)) y, vs, rfl, sall _ _ edp, sall _ _ ehp, sall _ _ erp, ek, ht, hkt, hlh, hlr, hll, hvs, nok, fun x hx => rowOf_ok (fun e he => lok e (List.mem_of_mem_take he)) y x hx⟩, fun H20 _ => k H20⟩
end

end U
namespace U
open PySem L2
/-! the steps that need no word -/
local macro_rules | `(tactic| walk_at "h") => `(tactic| focus ((repeat (first | assumption | exact upd_same | (apply at_ne; rotate_left; (first | assumption | exact Ne.symm (by assumption))) | (apply at_new; rotate_left; assumption))); done))
local macro_rules | `(tactic| walk_at "go") => `(tactic| repeat (with_reducible first
  | refine Go.by_ ?_
  | (apply w_at; (first | assumption | exact upd_same))
  | (apply w_sqT; (first | assumption | exact SqT.of (by assumption) | exact SqT.of upd_same))
  | (apply w_sqL; (first | assumption | exact SqL.of (by assumption) | exact SqL.of upd_same))
  | (apply w_sqLT1; (first | assumption | exact SqL.of (by assumption) | exact SqL.of upd_same))
  | (apply w_sqLT2; (first | assumption | exact SqT.of (by assumption) | exact SqT.of upd_same))
  | (apply w_at; walk_at "h")
  | (apply w_sqT; focus (apply SqT.of; walk_at "h"))
  | (apply w_sqL; focus (apply SqL.of; walk_at "h"))
  | (apply w_sqLT1; focus (apply SqL.of; walk_at "h"))
  | (apply w_sqLT2; focus (apply SqT.of; walk_at "h"))
  | (apply w_strT; decide)
  | (apply w_strF; decide)
  | (apply w_gTupH; (with_unfolding_all rfl))
  | (apply w_ixA; (first | assumption | with_unfolding_all rfl))))
local macro_rules | `(tactic| walk_at "k") => `(tactic| ((try dsimp only [cxOf, Cx.nox, List.map_cons, List.map_nil]); refine w_start ?_))
theorem tx_mk {K : PySem.W.Frag} {h : Heap} {mg : Str → Option Value} {f_Breach_init f_next_room f_Watch_init f_Watch_touched f_Watch_handles_of f_Watch_tied f_Watch_room_of f_Watch_broken f_Watch_move f_TieWatch_init f_TieWatch_tied f_TieWatch_handles_of f_TieWatch_touched f_watch_of f_deeds_of f_deeds_of_tie f_row_broken f_broken_by f_Machine_init f_Machine_coming f_Machine_seen f_Machine_go_over f_Machine_goes_on f_Machine_done f_run_watched f_lines_of_step f_lines_of f_names_in f_names_of f_Marker_init f_Marker_next_line f_Marker_marked f_Marker_marked_step f_put_lend f_put_if f_put_while f_put_steps f_coded f_code_of f_law_cell_at f_law_mixed f_law_words f_law_step f_law_shut f_law_program f_law_input f_law_rule f_law_next f_law_row_of f_law_touched f_law_due f_law_told f_law_whole f_law_is_log f_law_as_due f_law_lines f_law_deed f_law_more f_law_plain f_law_lent f_law_go f_law_log f_law a_Watch a_TieWatch a_Machine a_Marker a_UseError a_NoFit a_TooGreat a_Breach : Addr} {d_Breach_init d_next_room d_Watch_init d_Watch_touched d_Watch_handles_of d_Watch_tied d_Watch_room_of d_Watch_broken d_Watch_move d_TieWatch_init d_TieWatch_tied d_TieWatch_handles_of d_TieWatch_touched d_watch_of d_deeds_of d_deeds_of_tie d_row_broken d_broken_by d_Machine_init d_Machine_coming d_Machine_seen d_Machine_go_over d_Machine_goes_on d_Machine_done d_run_watched d_lines_of_step d_lines_of d_names_in d_names_of d_Marker_init d_Marker_next_line d_Marker_marked d_Marker_marked_step d_put_lend d_put_if d_put_while d_put_steps d_coded d_code_of d_law_cell_at d_law_mixed d_law_words d_law_step d_law_shut d_law_program d_law_input d_law_rule d_law_next d_law_row_of d_law_touched d_law_due d_law_told d_law_whole d_law_is_log d_law_as_due d_law_lines d_law_deed d_law_more d_law_plain d_law_lent d_law_go d_law_log d_law : FuncData} {xnm xq : Str} {xN : Addr} {xbs : List Value} {xsn : List Str} {xsub : List Value} {xab : Bool} {xcol : Option Bool} {xdd : Option Addr} {xm0 xm1 xm2 xm3 xm5 : Option Value} (X : K.In h) (G : h.Ns mainGlobals mg)
    (q_Watch : PySem.W.nsIn K mainGlobals "Watch" = some (some (.ref a_Watch)))
    (q_TieWatch : PySem.W.nsIn K mainGlobals "TieWatch" = some (some (.ref a_TieWatch)))
    (q_Machine : PySem.W.nsIn K mainGlobals "Machine" = some (some (.ref a_Machine)))
    (q_Marker : PySem.W.nsIn K mainGlobals "Marker" = some (some (.ref a_Marker)))
    (q_UseError : PySem.W.nsIn K mainGlobals "UseError" = some (some (.ref a_UseError)))
    (q_NoFit : PySem.W.nsIn K mainGlobals "NoFit" = some (some (.ref a_NoFit)))
    (q_TooGreat : PySem.W.nsIn K mainGlobals "TooGreat" = some (some (.ref a_TooGreat)))
    (q_Breach : PySem.W.nsIn K mainGlobals "Breach" = some (some (.ref a_Breach)))
    (q_next_room : PySem.W.nsIn K mainGlobals "next_room" = some (some (.ref f_next_room)))
    (q_watch_of : PySem.W.nsIn K mainGlobals "watch_of" = some (some (.ref f_watch_of)))
    (q_deeds_of : PySem.W.nsIn K mainGlobals "deeds_of" = some (some (.ref f_deeds_of)))
    (q_deeds_of_tie : PySem.W.nsIn K mainGlobals "deeds_of_tie" = some (some (.ref f_deeds_of_tie)))
    (q_row_broken : PySem.W.nsIn K mainGlobals "row_broken" = some (some (.ref f_row_broken)))
    (q_broken_by : PySem.W.nsIn K mainGlobals "broken_by" = some (some (.ref f_broken_by)))
    (q_run_watched : PySem.W.nsIn K mainGlobals "run_watched" = some (some (.ref f_run_watched)))
    (q_lines_of_step : PySem.W.nsIn K mainGlobals "lines_of_step" = some (some (.ref f_lines_of_step)))
    (q_lines_of : PySem.W.nsIn K mainGlobals "lines_of" = some (some (.ref f_lines_of)))
    (q_names_in : PySem.W.nsIn K mainGlobals "names_in" = some (some (.ref f_names_in)))
    (q_names_of : PySem.W.nsIn K mainGlobals "names_of" = some (some (.ref f_names_of)))
    (q_put_lend : PySem.W.nsIn K mainGlobals "put_lend" = some (some (.ref f_put_lend)))
    (q_put_if : PySem.W.nsIn K mainGlobals "put_if" = some (some (.ref f_put_if)))
    (q_put_while : PySem.W.nsIn K mainGlobals "put_while" = some (some (.ref f_put_while)))
    (q_put_steps : PySem.W.nsIn K mainGlobals "put_steps" = some (some (.ref f_put_steps)))
    (q_coded : PySem.W.nsIn K mainGlobals "coded" = some (some (.ref f_coded)))
    (q_code_of : PySem.W.nsIn K mainGlobals "code_of" = some (some (.ref f_code_of)))
    (q_law_cell_at : PySem.W.nsIn K mainGlobals "_law_cell_at" = some (some (.ref f_law_cell_at)))
    (q_law_mixed : PySem.W.nsIn K mainGlobals "_law_mixed" = some (some (.ref f_law_mixed)))
    (q_law_words : PySem.W.nsIn K mainGlobals "_law_words" = some (some (.ref f_law_words)))
    (q_law_step : PySem.W.nsIn K mainGlobals "_law_step" = some (some (.ref f_law_step)))
    (q_law_shut : PySem.W.nsIn K mainGlobals "_law_shut" = some (some (.ref f_law_shut)))
    (q_law_program : PySem.W.nsIn K mainGlobals "_law_program" = some (some (.ref f_law_program)))
    (q_law_input : PySem.W.nsIn K mainGlobals "_law_input" = some (some (.ref f_law_input)))
    (q_law_rule : PySem.W.nsIn K mainGlobals "_law_rule" = some (some (.ref f_law_rule)))
    (q_law_next : PySem.W.nsIn K mainGlobals "_law_next" = some (some (.ref f_law_next)))
    (q_law_row_of : PySem.W.nsIn K mainGlobals "_law_row_of" = some (some (.ref f_law_row_of)))
    (q_law_touched : PySem.W.nsIn K mainGlobals "_law_touched" = some (some (.ref f_law_touched)))
    (q_law_due : PySem.W.nsIn K mainGlobals "_law_due" = some (some (.ref f_law_due)))
    (q_law_told : PySem.W.nsIn K mainGlobals "_law_told" = some (some (.ref f_law_told)))
    (q_law_whole : PySem.W.nsIn K mainGlobals "_law_whole" = some (some (.ref f_law_whole)))
    (q_law_is_log : PySem.W.nsIn K mainGlobals "_law_is_log" = some (some (.ref f_law_is_log)))
    (q_law_as_due : PySem.W.nsIn K mainGlobals "_law_as_due" = some (some (.ref f_law_as_due)))
    (q_law_lines : PySem.W.nsIn K mainGlobals "_law_lines" = some (some (.ref f_law_lines)))
    (q_law_deed : PySem.W.nsIn K mainGlobals "_law_deed" = some (some (.ref f_law_deed)))
    (q_law_more : PySem.W.nsIn K mainGlobals "_law_more" = some (some (.ref f_law_more)))
    (q_law_plain : PySem.W.nsIn K mainGlobals "_law_plain" = some (some (.ref f_law_plain)))
    (q_law_lent : PySem.W.nsIn K mainGlobals "_law_lent" = some (some (.ref f_law_lent)))
    (q_law_go : PySem.W.nsIn K mainGlobals "_law_go" = some (some (.ref f_law_go)))
    (q_law_log : PySem.W.nsIn K mainGlobals "_law_log" = some (some (.ref f_law_log)))
    (q_law : PySem.W.nsIn K mainGlobals "law" = some (some (.ref f_law)))
    (xi_Breach : PySem.W.findIn K (.ref a_Breach) "__init__" = some (some (.ref f_Breach_init)))
    (k_Watch : Mk K a_Watch f_Watch_init)
    (k_TieWatch : Mk K a_TieWatch f_TieWatch_init)
    (k_Machine : Mk K a_Machine f_Machine_init)
    (k_Marker : Mk K a_Marker f_Marker_init)
    (e_Watch_touched : Meth K a_Watch "touched" f_Watch_touched)
    (e_Watch_handles_of : Meth K a_Watch "handles_of" f_Watch_handles_of)
    (e_Watch_tied : Meth K a_Watch "tied" f_Watch_tied)
    (e_Watch_room_of : Meth K a_Watch "room_of" f_Watch_room_of)
    (e_Watch_broken : Meth K a_Watch "broken" f_Watch_broken)
    (e_Watch_move : Meth K a_Watch "move" f_Watch_move)
    (e_TieWatch_tied : Meth K a_TieWatch "tied" f_TieWatch_tied)
    (e_TieWatch_handles_of : Meth K a_TieWatch "handles_of" f_TieWatch_handles_of)
    (e_TieWatch_touched : Meth K a_TieWatch "touched" f_TieWatch_touched)
    (e_TieWatch_room_of : Meth K a_TieWatch "room_of" f_Watch_room_of)
    (e_TieWatch_broken : Meth K a_TieWatch "broken" f_Watch_broken)
    (e_TieWatch_move : Meth K a_TieWatch "move" f_Watch_move)
    (e_Machine_coming : Meth K a_Machine "coming" f_Machine_coming)
    (e_Machine_seen : Meth K a_Machine "seen" f_Machine_seen)
    (e_Machine_go_over : Meth K a_Machine "go_over" f_Machine_go_over)
    (e_Machine_goes_on : Meth K a_Machine "goes_on" f_Machine_goes_on)
    (e_Machine_done : Meth K a_Machine "done" f_Machine_done)
    (e_Marker_next_line : Meth K a_Marker "next_line" f_Marker_next_line)
    (e_Marker_marked : Meth K a_Marker "marked" f_Marker_marked)
    (e_Marker_marked_step : Meth K a_Marker "marked_step" f_Marker_marked_step)
    (F_Breach_init : Fun K "__init__" "Breach.__init__" st_Breach_init f_Breach_init d_Breach_init)
    (F_next_room : Fun K "next_room" "next_room" st_next_room f_next_room d_next_room)
    (F_Watch_init : Fun K "__init__" "Watch.__init__" st_Watch_init f_Watch_init d_Watch_init)
    (F_Watch_touched : Fun K "touched" "Watch.touched" st_Watch_touched f_Watch_touched d_Watch_touched)
    (F_Watch_handles_of : Fun K "handles_of" "Watch.handles_of" st_Watch_handles_of f_Watch_handles_of d_Watch_handles_of)
    (F_Watch_tied : Fun K "tied" "Watch.tied" st_Watch_tied f_Watch_tied d_Watch_tied)
    (F_Watch_room_of : Fun K "room_of" "Watch.room_of" st_Watch_room_of f_Watch_room_of d_Watch_room_of)
    (F_Watch_broken : Fun K "broken" "Watch.broken" st_Watch_broken f_Watch_broken d_Watch_broken)
    (F_Watch_move : Fun K "move" "Watch.move" st_Watch_move f_Watch_move d_Watch_move)
    (F_TieWatch_init : Fun K "__init__" "TieWatch.__init__" st_TieWatch_init f_TieWatch_init d_TieWatch_init)
    (F_TieWatch_tied : Fun K "tied" "TieWatch.tied" st_TieWatch_tied f_TieWatch_tied d_TieWatch_tied)
    (F_TieWatch_handles_of : Fun K "handles_of" "TieWatch.handles_of" st_TieWatch_handles_of f_TieWatch_handles_of d_TieWatch_handles_of)
    (F_TieWatch_touched : Fun K "touched" "TieWatch.touched" st_TieWatch_touched f_TieWatch_touched d_TieWatch_touched)
    (F_watch_of : Fun K "watch_of" "watch_of" st_watch_of f_watch_of d_watch_of)
    (F_deeds_of : Fun K "deeds_of" "deeds_of" st_deeds_of f_deeds_of d_deeds_of)
    (F_deeds_of_tie : Fun K "deeds_of_tie" "deeds_of_tie" st_deeds_of_tie f_deeds_of_tie d_deeds_of_tie)
    (F_row_broken : Fun K "row_broken" "row_broken" st_row_broken f_row_broken d_row_broken)
    (F_broken_by : Fun K "broken_by" "broken_by" st_broken_by f_broken_by d_broken_by)
    (F_Machine_init : Fun K "__init__" "Machine.__init__" st_Machine_init f_Machine_init d_Machine_init)
    (F_Machine_coming : Fun K "coming" "Machine.coming" st_Machine_coming f_Machine_coming d_Machine_coming)
    (F_Machine_seen : Fun K "seen" "Machine.seen" st_Machine_seen f_Machine_seen d_Machine_seen)
    (F_Machine_go_over : Fun K "go_over" "Machine.go_over" st_Machine_go_over f_Machine_go_over d_Machine_go_over)
    (F_Machine_goes_on : Fun K "goes_on" "Machine.goes_on" st_Machine_goes_on f_Machine_goes_on d_Machine_goes_on)
    (F_Machine_done : Fun K "done" "Machine.done" st_Machine_done f_Machine_done d_Machine_done)
    (F_run_watched : Fun K "run_watched" "run_watched" st_run_watched f_run_watched d_run_watched)
    (F_lines_of_step : Fun K "lines_of_step" "lines_of_step" st_lines_of_step f_lines_of_step d_lines_of_step)
    (F_lines_of : Fun K "lines_of" "lines_of" st_lines_of f_lines_of d_lines_of)
    (F_names_in : Fun K "names_in" "names_in" st_names_in f_names_in d_names_in)
    (F_names_of : Fun K "names_of" "names_of" st_names_of f_names_of d_names_of)
    (F_Marker_init : Fun K "__init__" "Marker.__init__" st_Marker_init f_Marker_init d_Marker_init)
    (F_Marker_next_line : Fun K "next_line" "Marker.next_line" st_Marker_next_line f_Marker_next_line d_Marker_next_line)
    (F_Marker_marked : Fun K "marked" "Marker.marked" st_Marker_marked f_Marker_marked d_Marker_marked)
    (F_Marker_marked_step : Fun K "marked_step" "Marker.marked_step" st_Marker_marked_step f_Marker_marked_step d_Marker_marked_step)
    (F_put_lend : Fun K "put_lend" "put_lend" st_put_lend f_put_lend d_put_lend)
    (F_put_if : Fun K "put_if" "put_if" st_put_if f_put_if d_put_if)
    (F_put_while : Fun K "put_while" "put_while" st_put_while f_put_while d_put_while)
    (F_put_steps : Fun K "put_steps" "put_steps" st_put_steps f_put_steps d_put_steps)
    (F_coded : Fun K "coded" "coded" st_coded f_coded d_coded)
    (F_code_of : Fun K "code_of" "code_of" st_code_of f_code_of d_code_of)
    (F_law_cell_at : Fun K "_law_cell_at" "_law_cell_at" st_law_cell_at f_law_cell_at d_law_cell_at)
    (F_law_mixed : Fun K "_law_mixed" "_law_mixed" st_law_mixed f_law_mixed d_law_mixed)
    (F_law_words : Fun K "_law_words" "_law_words" st_law_words f_law_words d_law_words)
    (F_law_step : Fun K "_law_step" "_law_step" st_law_step f_law_step d_law_step)
    (F_law_shut : Fun K "_law_shut" "_law_shut" st_law_shut f_law_shut d_law_shut)
    (F_law_program : Fun K "_law_program" "_law_program" st_law_program f_law_program d_law_program)
    (F_law_input : Fun K "_law_input" "_law_input" st_law_input f_law_input d_law_input)
    (F_law_rule : Fun K "_law_rule" "_law_rule" st_law_rule f_law_rule d_law_rule)
    (F_law_next : Fun K "_law_next" "_law_next" st_law_next f_law_next d_law_next)
    (F_law_row_of : Fun K "_law_row_of" "_law_row_of" st_law_row_of f_law_row_of d_law_row_of)
    (F_law_touched : Fun K "_law_touched" "_law_touched" st_law_touched f_law_touched d_law_touched)
    (F_law_due : Fun K "_law_due" "_law_due" st_law_due f_law_due d_law_due)
    (F_law_told : Fun K "_law_told" "_law_told" st_law_told f_law_told d_law_told)
    (F_law_whole : Fun K "_law_whole" "_law_whole" st_law_whole f_law_whole d_law_whole)
    (F_law_is_log : Fun K "_law_is_log" "_law_is_log" st_law_is_log f_law_is_log d_law_is_log)
    (F_law_as_due : Fun K "_law_as_due" "_law_as_due" st_law_as_due f_law_as_due d_law_as_due)
    (F_law_lines : Fun K "_law_lines" "_law_lines" st_law_lines f_law_lines d_law_lines)
    (F_law_deed : Fun K "_law_deed" "_law_deed" st_law_deed f_law_deed d_law_deed)
    (F_law_more : Fun K "_law_more" "_law_more" st_law_more f_law_more d_law_more)
    (F_law_plain : Fun K "_law_plain" "_law_plain" st_law_plain f_law_plain d_law_plain)
    (F_law_lent : Fun K "_law_lent" "_law_lent" st_law_lent f_law_lent d_law_lent)
    (F_law_go : Fun K "_law_go" "_law_go" st_law_go f_law_go d_law_go)
    (F_law_log : Fun K "_law_log" "_law_log" st_law_log f_law_log d_law_log)
    (F_law : Fun K "law" "law" st_law f_law d_law)
    (c_Watch : Cls K a_Watch)
    (n_Watch_name : PySem.W.findIn K (.ref a_Watch) "name" = some none)
    (n_Watch_rule : PySem.W.findIn K (.ref a_Watch) "rule" = some none)
    (n_Watch_rooms : PySem.W.findIn K (.ref a_Watch) "rooms" = some none)
    (c_TieWatch : Cls K a_TieWatch)
    (n_TieWatch_name : PySem.W.findIn K (.ref a_TieWatch) "name" = some none)
    (n_TieWatch_rule : PySem.W.findIn K (.ref a_TieWatch) "rule" = some none)
    (n_TieWatch_rooms : PySem.W.findIn K (.ref a_TieWatch) "rooms" = some none)
    (n_TieWatch_ties : PySem.W.findIn K (.ref a_TieWatch) "ties" = some none)
    (c_Machine : Cls K a_Machine)
    (n_Machine_code : PySem.W.findIn K (.ref a_Machine) "code" = some none)
    (n_Machine_inputs : PySem.W.findIn K (.ref a_Machine) "inputs" = some none)
    (n_Machine_used : PySem.W.findIn K (.ref a_Machine) "used" = some none)
    (n_Machine_number : PySem.W.findIn K (.ref a_Machine) "number" = some none)
    (n_Machine_at : PySem.W.findIn K (.ref a_Machine) "at" = some none)
    (n_Machine_slots : PySem.W.findIn K (.ref a_Machine) "slots" = some none)
    (n_Machine_many : PySem.W.findIn K (.ref a_Machine) "many" = some none)
    (n_Machine_ended : PySem.W.findIn K (.ref a_Machine) "ended" = some none)
    (n_Machine_log : PySem.W.findIn K (.ref a_Machine) "log" = some none)
    (c_Marker : Cls K a_Marker)
    (n_Marker_slots : PySem.W.findIn K (.ref a_Marker) "slots" = some none)
    (n_Marker_line : PySem.W.findIn K (.ref a_Marker) "line" = some none)
    (n_Marker_lent : PySem.W.findIn K (.ref a_Marker) "lent" = some none)
    (z_len : PySem.W.nsIn K mainGlobals "len" = some none)
    (z_range : PySem.W.nsIn K mainGlobals "range" = some none)
    (z_enumerate : PySem.W.nsIn K mainGlobals "enumerate" = some none)
    (z_zip : PySem.W.nsIn K mainGlobals "zip" = some none)
    (z_list : PySem.W.nsIn K mainGlobals "list" = some none)
    (z_tuple : PySem.W.nsIn K mainGlobals "tuple" = some none)
    (z_set : PySem.W.nsIn K mainGlobals "set" = some none)
    (z_sorted : PySem.W.nsIn K mainGlobals "sorted" = some none)
    (z_int : PySem.W.nsIn K mainGlobals "int" = some none)
    (z_str : PySem.W.nsIn K mainGlobals "str" = some none)
    (z_bool : PySem.W.nsIn K mainGlobals "bool" = some none)
    (z_isinstance : PySem.W.nsIn K mainGlobals "isinstance" = some none)
    (r_Watch : ClX.CRead K a_Watch (.type "type"))
    (v_Watch_init : ClX.CVal K a_Watch (.type "type") "__init__" (.ref f_Watch_init) (.ref f_Watch_init))
    (xL_Breach : K.lookup a_Breach = some (excClassObj xnm xq a_Breach xN xbs [.ref a_UseError, .type "ValueError", .type "Exception", .type "BaseException", .type "object"] true xsn xsub xab xcol xdd xm0 xm1 xm2 xm3 xm5 "ValueError.__new__"))
    (ox1 : PySem.W.findIn K (.ref a_Breach) "__setattr__" = some (some (.builtin "object.__setattr__")))
    (ox2 : PySem.W.subIn K (.ref a_Breach) (.type "BaseException") = some true)
    (ox3 : PySem.W.typeIn K (.ref a_Breach) = some (.type "type"))
    (ox4 : PySem.W.keepIn K (.ref a_Breach) = true)
    (xt_Breach : PySem.W.typeIn K (.ref f_Breach_init) = some (.type "function"))
    (xf_Breach : XfC K a_Breach)
    (xn_rule : PySem.W.findIn K (.ref a_Breach) "rule" = some none)
    (xn_line : PySem.W.findIn K (.ref a_Breach) "line" = some none)
    (xn_handles : PySem.W.findIn K (.ref a_Breach) "handles" = some none)
    (xn_row : PySem.W.findIn K (.ref a_Breach) "row" = some none)
    (xn_log : PySem.W.findIn K (.ref a_Breach) "log" = some none)
    (exc_Breach : ExcC K a_Breach)
    (xm_Breach : PySem.W.exmOne K (.ref a_Breach) (.ref a_Breach) = some true)
    (xk_UseError : PySem.W.kitOne K (.ref a_Breach) (.ref a_UseError) = some true)
    (xk_NoFit : PySem.W.kitOne K (.ref a_Breach) (.ref a_NoFit) = some false)
    (xk_TooGreat : PySem.W.kitOne K (.ref a_Breach) (.ref a_TooGreat) = some false)
    : Tx K mg ({ f_Breach_init := f_Breach_init, f_next_room := f_next_room, f_Watch_init := f_Watch_init, f_Watch_touched := f_Watch_touched, f_Watch_handles_of := f_Watch_handles_of, f_Watch_tied := f_Watch_tied, f_Watch_room_of := f_Watch_room_of, f_Watch_broken := f_Watch_broken, f_Watch_move := f_Watch_move, f_TieWatch_init := f_TieWatch_init, f_TieWatch_tied := f_TieWatch_tied, f_TieWatch_handles_of := f_TieWatch_handles_of, f_TieWatch_touched := f_TieWatch_touched, f_watch_of := f_watch_of, f_deeds_of := f_deeds_of, f_deeds_of_tie := f_deeds_of_tie, f_row_broken := f_row_broken, f_broken_by := f_broken_by, f_Machine_init := f_Machine_init, f_Machine_coming := f_Machine_coming, f_Machine_seen := f_Machine_seen, f_Machine_go_over := f_Machine_go_over, f_Machine_goes_on := f_Machine_goes_on, f_Machine_done := f_Machine_done, f_run_watched := f_run_watched, f_lines_of_step := f_lines_of_step, f_lines_of := f_lines_of, f_names_in := f_names_in, f_names_of := f_names_of, f_Marker_init := f_Marker_init, f_Marker_next_line := f_Marker_next_line, f_Marker_marked := f_Marker_marked, f_Marker_marked_step := f_Marker_marked_step, f_put_lend := f_put_lend, f_put_if := f_put_if, f_put_while := f_put_while, f_put_steps := f_put_steps, f_coded := f_coded, f_code_of := f_code_of, f_law_cell_at := f_law_cell_at, f_law_mixed := f_law_mixed, f_law_words := f_law_words, f_law_step := f_law_step, f_law_shut := f_law_shut, f_law_program := f_law_program, f_law_input := f_law_input, f_law_rule := f_law_rule, f_law_next := f_law_next, f_law_row_of := f_law_row_of, f_law_touched := f_law_touched, f_law_due := f_law_due, f_law_told := f_law_told, f_law_whole := f_law_whole, f_law_is_log := f_law_is_log, f_law_as_due := f_law_as_due, f_law_lines := f_law_lines, f_law_deed := f_law_deed, f_law_more := f_law_more, f_law_plain := f_law_plain, f_law_lent := f_law_lent, f_law_go := f_law_go, f_law_log := f_law_log, f_law := f_law, a_Watch := a_Watch, a_TieWatch := a_TieWatch, a_Machine := a_Machine, a_Marker := a_Marker, a_UseError := a_UseError, a_NoFit := a_NoFit, a_TooGreat := a_TooGreat, a_Breach := a_Breach, d_Breach_init := d_Breach_init, d_next_room := d_next_room, d_Watch_init := d_Watch_init, d_Watch_touched := d_Watch_touched, d_Watch_handles_of := d_Watch_handles_of, d_Watch_tied := d_Watch_tied, d_Watch_room_of := d_Watch_room_of, d_Watch_broken := d_Watch_broken, d_Watch_move := d_Watch_move, d_TieWatch_init := d_TieWatch_init, d_TieWatch_tied := d_TieWatch_tied, d_TieWatch_handles_of := d_TieWatch_handles_of, d_TieWatch_touched := d_TieWatch_touched, d_watch_of := d_watch_of, d_deeds_of := d_deeds_of, d_deeds_of_tie := d_deeds_of_tie, d_row_broken := d_row_broken, d_broken_by := d_broken_by, d_Machine_init := d_Machine_init, d_Machine_coming := d_Machine_coming, d_Machine_seen := d_Machine_seen, d_Machine_go_over := d_Machine_go_over, d_Machine_goes_on := d_Machine_goes_on, d_Machine_done := d_Machine_done, d_run_watched := d_run_watched, d_lines_of_step := d_lines_of_step, d_lines_of := d_lines_of, d_names_in := d_names_in, d_names_of := d_names_of, d_Marker_init := d_Marker_init, d_Marker_next_line := d_Marker_next_line, d_Marker_marked := d_Marker_marked, d_Marker_marked_step := d_Marker_marked_step, d_put_lend := d_put_lend, d_put_if := d_put_if, d_put_while := d_put_while, d_put_steps := d_put_steps, d_coded := d_coded, d_code_of := d_code_of, d_law_cell_at := d_law_cell_at, d_law_mixed := d_law_mixed, d_law_words := d_law_words, d_law_step := d_law_step, d_law_shut := d_law_shut, d_law_program := d_law_program, d_law_input := d_law_input, d_law_rule := d_law_rule, d_law_next := d_law_next, d_law_row_of := d_law_row_of, d_law_touched := d_law_touched, d_law_due := d_law_due, d_law_told := d_law_told, d_law_whole := d_law_whole, d_law_is_log := d_law_is_log, d_law_as_due := d_law_as_due, d_law_lines := d_law_lines, d_law_deed := d_law_deed, d_law_more := d_law_more, d_law_plain := d_law_plain, d_law_lent := d_law_lent, d_law_go := d_law_go, d_law_log := d_law_log, d_law := d_law } : Ad) :=
  { F_Breach_init := F_Breach_init,
    b_Breach_init := F_Breach_init.binds (ps := ["self", "rule", "line", "handles", "row", "log"]) fun _ _ _ _ _ _ us hl => match us, hl with | [_, _, _, _, _, _], _ => rfl,
    F_next_room := F_next_room,
    b_next_room := F_next_room.binds (ps := ["rule", "room", "word"]) fun _ _ _ _ _ _ us hl => match us, hl with | [_, _, _], _ => rfl,
    m_next_room := PySem.W.mg_of X G q_next_room,
    F_Watch_init := F_Watch_init,
    b_Watch_init := F_Watch_init.binds (ps := ["self", "name", "rule"]) fun _ _ _ _ _ _ us hl => match us, hl with | [_, _, _], _ => rfl,
    F_Watch_touched := F_Watch_touched,
    b_Watch_touched := F_Watch_touched.binds (ps := ["self", "handle", "word"]) fun _ _ _ _ _ _ us hl => match us, hl with | [_, _, _], _ => rfl,
    F_Watch_handles_of := F_Watch_handles_of,
    b_Watch_handles_of := F_Watch_handles_of.binds (ps := ["self", "key"]) fun _ _ _ _ _ _ us hl => match us, hl with | [_, _], _ => rfl,
    F_Watch_tied := F_Watch_tied,
    b_Watch_tied := F_Watch_tied.binds (ps := ["self", "one", "other"]) fun _ _ _ _ _ _ us hl => match us, hl with | [_, _, _], _ => rfl,
    F_Watch_room_of := F_Watch_room_of,
    b_Watch_room_of := F_Watch_room_of.binds (ps := ["self", "key"]) fun _ _ _ _ _ _ us hl => match us, hl with | [_, _], _ => rfl,
    F_Watch_broken := F_Watch_broken,
    b_Watch_broken := F_Watch_broken.binds (ps := ["self", "handle", "word"]) fun _ _ _ _ _ _ us hl => match us, hl with | [_, _, _], _ => rfl,
    F_Watch_move := F_Watch_move,
    b_Watch_move := F_Watch_move.binds (ps := ["self", "handle", "word"]) fun _ _ _ _ _ _ us hl => match us, hl with | [_, _, _], _ => rfl,
    F_TieWatch_init := F_TieWatch_init,
    b_TieWatch_init := F_TieWatch_init.binds (ps := ["self", "name", "rule"]) fun _ _ _ _ _ _ us hl => match us, hl with | [_, _, _], _ => rfl,
    F_TieWatch_tied := F_TieWatch_tied,
    b_TieWatch_tied := F_TieWatch_tied.binds (ps := ["self", "one", "other"]) fun _ _ _ _ _ _ us hl => match us, hl with | [_, _, _], _ => rfl,
    F_TieWatch_handles_of := F_TieWatch_handles_of,
    b_TieWatch_handles_of := F_TieWatch_handles_of.binds (ps := ["self", "key"]) fun _ _ _ _ _ _ us hl => match us, hl with | [_, _], _ => rfl,
    F_TieWatch_touched := F_TieWatch_touched,
    b_TieWatch_touched := F_TieWatch_touched.binds (ps := ["self", "handle", "word"]) fun _ _ _ _ _ _ us hl => match us, hl with | [_, _, _], _ => rfl,
    F_watch_of := F_watch_of,
    b_watch_of := F_watch_of.binds (ps := ["name", "rule"]) fun _ _ _ _ _ _ us hl => match us, hl with | [_, _], _ => rfl,
    m_watch_of := PySem.W.mg_of X G q_watch_of,
    F_deeds_of := F_deeds_of,
    b_deeds_of := F_deeds_of.binds (ps := ["log", "handle"]) fun _ _ _ _ _ _ us hl => match us, hl with | [_, _], _ => rfl,
    m_deeds_of := PySem.W.mg_of X G q_deeds_of,
    F_deeds_of_tie := F_deeds_of_tie,
    b_deeds_of_tie := F_deeds_of_tie.binds (ps := ["log", "many"]) fun _ _ _ _ _ _ us hl => match us, hl with | [_, _], _ => rfl,
    m_deeds_of_tie := PySem.W.mg_of X G q_deeds_of_tie,
    F_row_broken := F_row_broken,
    b_row_broken := F_row_broken.binds (ps := ["log", "watch", "key", "handle", "word"]) fun _ _ _ _ _ _ us hl => match us, hl with | [_, _, _, _, _], _ => rfl,
    m_row_broken := PySem.W.mg_of X G q_row_broken,
    F_broken_by := F_broken_by,
    b_broken_by := F_broken_by.binds (ps := ["watches", "handle", "word"]) fun _ _ _ _ _ _ us hl => match us, hl with | [_, _, _], _ => rfl,
    m_broken_by := PySem.W.mg_of X G q_broken_by,
    F_Machine_init := F_Machine_init,
    b_Machine_init := F_Machine_init.binds (ps := ["self", "code", "inputs"]) fun _ _ _ _ _ _ us hl => match us, hl with | [_, _, _], _ => rfl,
    F_Machine_coming := F_Machine_coming,
    b_Machine_coming := F_Machine_coming.binds (ps := ["self"]) fun _ _ _ _ _ _ us hl => match us, hl with | [_], _ => rfl,
    F_Machine_seen := F_Machine_seen,
    b_Machine_seen := F_Machine_seen.binds (ps := ["self", "row"]) fun _ _ _ _ _ _ us hl => match us, hl with | [_, _], _ => rfl,
    F_Machine_go_over := F_Machine_go_over,
    b_Machine_go_over := F_Machine_go_over.binds (ps := ["self", "row"]) fun _ _ _ _ _ _ us hl => match us, hl with | [_, _], _ => rfl,
    F_Machine_goes_on := F_Machine_goes_on,
    b_Machine_goes_on := F_Machine_goes_on.binds (ps := ["self", "bound"]) fun _ _ _ _ _ _ us hl => match us, hl with | [_, _], _ => rfl,
    F_Machine_done := F_Machine_done,
    b_Machine_done := F_Machine_done.binds (ps := ["self"]) fun _ _ _ _ _ _ us hl => match us, hl with | [_], _ => rfl,
    F_run_watched := F_run_watched,
    b_run_watched := F_run_watched.binds (ps := ["code", "rules", "inputs"]) fun _ _ _ _ _ _ us hl => match us, hl with | [_, _, _], _ => rfl,
    m_run_watched := PySem.W.mg_of X G q_run_watched,
    F_lines_of_step := F_lines_of_step,
    b_lines_of_step := F_lines_of_step.binds (ps := ["step"]) fun _ _ _ _ _ _ us hl => match us, hl with | [_], _ => rfl,
    m_lines_of_step := PySem.W.mg_of X G q_lines_of_step,
    F_lines_of := F_lines_of,
    b_lines_of := F_lines_of.binds (ps := ["program"]) fun _ _ _ _ _ _ us hl => match us, hl with | [_], _ => rfl,
    m_lines_of := PySem.W.mg_of X G q_lines_of,
    F_names_in := F_names_in,
    b_names_in := F_names_in.binds (ps := ["line"]) fun _ _ _ _ _ _ us hl => match us, hl with | [_], _ => rfl,
    m_names_in := PySem.W.mg_of X G q_names_in,
    F_names_of := F_names_of,
    b_names_of := F_names_of.binds (ps := ["program"]) fun _ _ _ _ _ _ us hl => match us, hl with | [_], _ => rfl,
    m_names_of := PySem.W.mg_of X G q_names_of,
    F_Marker_init := F_Marker_init,
    b_Marker_init := F_Marker_init.binds (ps := ["self", "names"]) fun _ _ _ _ _ _ us hl => match us, hl with | [_, _], _ => rfl,
    F_Marker_next_line := F_Marker_next_line,
    b_Marker_next_line := F_Marker_next_line.binds (ps := ["self"]) fun _ _ _ _ _ _ us hl => match us, hl with | [_], _ => rfl,
    F_Marker_marked := F_Marker_marked,
    b_Marker_marked := F_Marker_marked.binds (ps := ["self", "steps"]) fun _ _ _ _ _ _ us hl => match us, hl with | [_, _], _ => rfl,
    F_Marker_marked_step := F_Marker_marked_step,
    b_Marker_marked_step := F_Marker_marked_step.binds (ps := ["self", "step"]) fun _ _ _ _ _ _ us hl => match us, hl with | [_, _], _ => rfl,
    F_put_lend := F_put_lend,
    b_put_lend := F_put_lend.binds (ps := ["rows", "block", "turn"]) fun _ _ _ _ _ _ us hl => match us, hl with | [_, _, _], _ => rfl,
    m_put_lend := PySem.W.mg_of X G q_put_lend,
    F_put_if := F_put_if,
    b_put_if := F_put_if.binds (ps := ["rows", "block", "turn"]) fun _ _ _ _ _ _ us hl => match us, hl with | [_, _, _], _ => rfl,
    m_put_if := PySem.W.mg_of X G q_put_if,
    F_put_while := F_put_while,
    b_put_while := F_put_while.binds (ps := ["rows", "block", "turn"]) fun _ _ _ _ _ _ us hl => match us, hl with | [_, _, _], _ => rfl,
    m_put_while := PySem.W.mg_of X G q_put_while,
    F_put_steps := F_put_steps,
    b_put_steps := F_put_steps.binds (ps := ["rows", "marked", "turn"]) fun _ _ _ _ _ _ us hl => match us, hl with | [_, _, _], _ => rfl,
    m_put_steps := PySem.W.mg_of X G q_put_steps,
    F_coded := F_coded,
    b_coded := F_coded.binds (ps := ["program", "turn"]) fun _ _ _ _ _ _ us hl => match us, hl with | [_, _], _ => rfl,
    m_coded := PySem.W.mg_of X G q_coded,
    F_code_of := F_code_of,
    b_code_of := F_code_of.binds (ps := ["program"]) fun _ _ _ _ _ _ us hl => match us, hl with | [_], _ => rfl,
    m_code_of := PySem.W.mg_of X G q_code_of,
    F_law_cell_at := F_law_cell_at,
    b_law_cell_at := F_law_cell_at.binds (ps := ["_law_script", "_law_k"]) fun _ _ _ _ _ _ us hl => match us, hl with | [_, _], _ => rfl,
    m_law_cell_at := PySem.W.mg_of X G q_law_cell_at,
    F_law_mixed := F_law_mixed,
    b_law_mixed := F_law_mixed.binds (ps := ["_law_cell", "_law_k"]) fun _ _ _ _ _ _ us hl => match us, hl with | [_, _], _ => rfl,
    m_law_mixed := PySem.W.mg_of X G q_law_mixed,
    F_law_words := F_law_words,
    b_law_words := F_law_words.binds (ps := ["_law_cell", "_law_many"]) fun _ _ _ _ _ _ us hl => match us, hl with | [_, _], _ => rfl,
    m_law_words := PySem.W.mg_of X G q_law_words,
    F_law_step := F_law_step,
    b_law_step := F_law_step.binds (ps := ["_law_cell", "_law_names", "_law_words_here"]) fun _ _ _ _ _ _ us hl => match us, hl with | [_, _, _], _ => rfl,
    m_law_step := PySem.W.mg_of X G q_law_step,
    F_law_shut := F_law_shut,
    b_law_shut := F_law_shut.binds (ps := ["_law_piles", "_law_heads"]) fun _ _ _ _ _ _ us hl => match us, hl with | [_, _], _ => rfl,
    m_law_shut := PySem.W.mg_of X G q_law_shut,
    F_law_program := F_law_program,
    b_law_program := F_law_program.binds (ps := ["_law_cells", "_law_names", "_law_words_here", "_law_low"]) fun _ _ _ _ _ _ us hl => match us, hl with | [_, _, _, _], _ => rfl,
    m_law_program := PySem.W.mg_of X G q_law_program,
    F_law_input := F_law_input,
    b_law_input := F_law_input.binds (ps := ["_law_cell", "_law_low"]) fun _ _ _ _ _ _ us hl => match us, hl with | [_, _], _ => rfl,
    m_law_input := PySem.W.mg_of X G q_law_input,
    F_law_rule := F_law_rule,
    b_law_rule := F_law_rule.binds (ps := ["_law_cell", "_law_words_here"]) fun _ _ _ _ _ _ us hl => match us, hl with | [_, _], _ => rfl,
    m_law_rule := PySem.W.mg_of X G q_law_rule,
    F_law_next := F_law_next,
    b_law_next := F_law_next.binds (ps := ["_law_rule_here", "_law_room", "_law_text"]) fun _ _ _ _ _ _ us hl => match us, hl with | [_, _, _], _ => rfl,
    m_law_next := PySem.W.mg_of X G q_law_next,
    F_law_row_of := F_law_row_of,
    b_law_row_of := F_law_row_of.binds (ps := ["_law_log_here", "_law_key"]) fun _ _ _ _ _ _ us hl => match us, hl with | [_, _], _ => rfl,
    m_law_row_of := PySem.W.mg_of X G q_law_row_of,
    F_law_touched := F_law_touched,
    b_law_touched := F_law_touched.binds (ps := ["_law_sides", "_law_ties", "_law_entry"]) fun _ _ _ _ _ _ us hl => match us, hl with | [_, _, _], _ => rfl,
    m_law_touched := PySem.W.mg_of X G q_law_touched,
    F_law_due := F_law_due,
    b_law_due := F_law_due.binds (ps := ["_law_rules", "_law_log_here"]) fun _ _ _ _ _ _ us hl => match us, hl with | [_, _], _ => rfl,
    m_law_due := PySem.W.mg_of X G q_law_due,
    F_law_told := F_law_told,
    b_law_told := F_law_told.binds (ps := ["_law_code", "_law_rules", "_law_inputs"]) fun _ _ _ _ _ _ us hl => match us, hl with | [_, _, _], _ => rfl,
    m_law_told := PySem.W.mg_of X G q_law_told,
    F_law_whole := F_law_whole,
    b_law_whole := F_law_whole.binds (ps := ["_law_found"]) fun _ _ _ _ _ _ us hl => match us, hl with | [_], _ => rfl,
    m_law_whole := PySem.W.mg_of X G q_law_whole,
    F_law_is_log := F_law_is_log,
    b_law_is_log := F_law_is_log.binds (ps := ["_law_found", "_law_due_here"]) fun _ _ _ _ _ _ us hl => match us, hl with | [_, _], _ => rfl,
    m_law_is_log := PySem.W.mg_of X G q_law_is_log,
    F_law_as_due := F_law_as_due,
    b_law_as_due := F_law_as_due.binds (ps := ["_law_told_here", "_law_log_here", "_law_due_here"]) fun _ _ _ _ _ _ us hl => match us, hl with | [_, _, _], _ => rfl,
    m_law_as_due := PySem.W.mg_of X G q_law_as_due,
    F_law_lines := F_law_lines,
    b_law_lines := F_law_lines.binds (ps := ["_law_steps"]) fun _ _ _ _ _ _ us hl => match us, hl with | [_], _ => rfl,
    m_law_lines := PySem.W.mg_of X G q_law_lines,
    F_law_deed := F_law_deed,
    b_law_deed := F_law_deed.binds (ps := ["_law_state", "_law_line", "_law_handle", "_law_word"]) fun _ _ _ _ _ _ us hl => match us, hl with | [_, _, _, _], _ => rfl,
    m_law_deed := PySem.W.mg_of X G q_law_deed,
    F_law_more := F_law_more,
    b_law_more := F_law_more.binds (ps := ["_law_state", "_law_bound"]) fun _ _ _ _ _ _ us hl => match us, hl with | [_, _], _ => rfl,
    m_law_more := PySem.W.mg_of X G q_law_more,
    F_law_plain := F_law_plain,
    b_law_plain := F_law_plain.binds (ps := ["_law_state", "_law_step_here", "_law_line"]) fun _ _ _ _ _ _ us hl => match us, hl with | [_, _, _], _ => rfl,
    m_law_plain := PySem.W.mg_of X G q_law_plain,
    F_law_lent := F_law_lent,
    b_law_lent := F_law_lent.binds (ps := ["_law_state", "_law_step_here", "_law_line"]) fun _ _ _ _ _ _ us hl => match us, hl with | [_, _, _], _ => rfl,
    m_law_lent := PySem.W.mg_of X G q_law_lent,
    F_law_go := F_law_go,
    b_law_go := F_law_go.binds (ps := ["_law_state", "_law_steps", "_law_line"]) fun _ _ _ _ _ _ us hl => match us, hl with | [_, _, _], _ => rfl,
    m_law_go := PySem.W.mg_of X G q_law_go,
    F_law_log := F_law_log,
    b_law_log := F_law_log.binds (ps := ["_law_program_here", "_law_inputs"]) fun _ _ _ _ _ _ us hl => match us, hl with | [_, _], _ => rfl,
    m_law_log := PySem.W.mg_of X G q_law_log,
    F_law := F_law,
    b_law := F_law.binds (ps := ["_law_script"]) fun _ _ _ _ _ _ us hl => match us, hl with | [_], _ => rfl,
    m_law := PySem.W.mg_of X G q_law,
    c_Watch := c_Watch,
    k_Watch := k_Watch,
    m_Watch := PySem.W.mg_of X G q_Watch,
    n_Watch_name := n_Watch_name,
    n_Watch_rule := n_Watch_rule,
    n_Watch_rooms := n_Watch_rooms,
    e_Watch_touched := e_Watch_touched,
    e_Watch_handles_of := e_Watch_handles_of,
    e_Watch_tied := e_Watch_tied,
    e_Watch_room_of := e_Watch_room_of,
    e_Watch_broken := e_Watch_broken,
    e_Watch_move := e_Watch_move,
    c_TieWatch := c_TieWatch,
    k_TieWatch := k_TieWatch,
    m_TieWatch := PySem.W.mg_of X G q_TieWatch,
    n_TieWatch_name := n_TieWatch_name,
    n_TieWatch_rule := n_TieWatch_rule,
    n_TieWatch_rooms := n_TieWatch_rooms,
    n_TieWatch_ties := n_TieWatch_ties,
    e_TieWatch_tied := e_TieWatch_tied,
    e_TieWatch_handles_of := e_TieWatch_handles_of,
    e_TieWatch_touched := e_TieWatch_touched,
    e_TieWatch_room_of := e_TieWatch_room_of,
    e_TieWatch_broken := e_TieWatch_broken,
    e_TieWatch_move := e_TieWatch_move,
    c_Machine := c_Machine,
    k_Machine := k_Machine,
    m_Machine := PySem.W.mg_of X G q_Machine,
    n_Machine_code := n_Machine_code,
    n_Machine_inputs := n_Machine_inputs,
    n_Machine_used := n_Machine_used,
    n_Machine_number := n_Machine_number,
    n_Machine_at := n_Machine_at,
    n_Machine_slots := n_Machine_slots,
    n_Machine_many := n_Machine_many,
    n_Machine_ended := n_Machine_ended,
    n_Machine_log := n_Machine_log,
    e_Machine_coming := e_Machine_coming,
    e_Machine_seen := e_Machine_seen,
    e_Machine_go_over := e_Machine_go_over,
    e_Machine_goes_on := e_Machine_goes_on,
    e_Machine_done := e_Machine_done,
    c_Marker := c_Marker,
    k_Marker := k_Marker,
    m_Marker := PySem.W.mg_of X G q_Marker,
    n_Marker_slots := n_Marker_slots,
    n_Marker_line := n_Marker_line,
    n_Marker_lent := n_Marker_lent,
    e_Marker_next_line := e_Marker_next_line,
    e_Marker_marked := e_Marker_marked,
    e_Marker_marked_step := e_Marker_marked_step,
    z_len := PySem.W.mg_none_of X G z_len,
    z_range := PySem.W.mg_none_of X G z_range,
    z_enumerate := PySem.W.mg_none_of X G z_enumerate,
    z_zip := PySem.W.mg_none_of X G z_zip,
    z_list := PySem.W.mg_none_of X G z_list,
    z_tuple := PySem.W.mg_none_of X G z_tuple,
    z_set := PySem.W.mg_none_of X G z_set,
    z_sorted := PySem.W.mg_none_of X G z_sorted,
    z_int := PySem.W.mg_none_of X G z_int,
    z_str := PySem.W.mg_none_of X G z_str,
    z_bool := PySem.W.mg_none_of X G z_bool,
    z_isinstance := PySem.W.mg_none_of X G z_isinstance,
    m_UseError := PySem.W.mg_of X G q_UseError,
    m_NoFit := PySem.W.mg_of X G q_NoFit,
    m_TooGreat := PySem.W.mg_of X G q_TooGreat,
    m_Breach := PySem.W.mg_of X G q_Breach,
    ox_Breach := ⟨⟨xnm, xq, xN, xbs, _, xsn, xsub, xab, xcol, xdd, xm0, xm1, xm2, xm3, xm5, xL_Breach, (show PySem.HandSPX.refsVE PySem.HandSPX.veTail = true by decide +kernel)⟩, ox1, ox2, ox3, ox4⟩,
    r_Watch := r_Watch,
    v_Watch_init := v_Watch_init,
    xi_Breach := xi_Breach,
    xt_Breach := xt_Breach,
    xf_Breach := xf_Breach,
    xn_rule := xn_rule,
    xn_line := xn_line,
    xn_handles := xn_handles,
    xn_row := xn_row,
    xn_log := xn_log,
    exc_Breach := exc_Breach,
    xm_Breach := xm_Breach,
    xk_UseError := xk_UseError,
    xk_NoFit := xk_NoFit,
    xk_TooGreat := xk_TooGreat }
theorem all_mk {l : PySem.W.OpenLaw} {w : World} {K : PySem.W.Frag} {h : Heap} {mg : Str → Option Value} {fa : Addr} {f_Breach_init f_next_room f_Watch_init f_Watch_touched f_Watch_handles_of f_Watch_tied f_Watch_room_of f_Watch_broken f_Watch_move f_TieWatch_init f_TieWatch_tied f_TieWatch_handles_of f_TieWatch_touched f_watch_of f_deeds_of f_deeds_of_tie f_row_broken f_broken_by f_Machine_init f_Machine_coming f_Machine_seen f_Machine_go_over f_Machine_goes_on f_Machine_done f_run_watched f_lines_of_step f_lines_of f_names_in f_names_of f_Marker_init f_Marker_next_line f_Marker_marked f_Marker_marked_step f_put_lend f_put_if f_put_while f_put_steps f_coded f_code_of f_law_cell_at f_law_mixed f_law_words f_law_step f_law_shut f_law_program f_law_input f_law_rule f_law_next f_law_row_of f_law_touched f_law_due f_law_told f_law_whole f_law_is_log f_law_as_due f_law_lines f_law_deed f_law_more f_law_plain f_law_lent f_law_go f_law_log f_law a_Watch a_TieWatch a_Machine a_Marker a_UseError a_NoFit a_TooGreat a_Breach : Addr} {d_Breach_init d_next_room d_Watch_init d_Watch_touched d_Watch_handles_of d_Watch_tied d_Watch_room_of d_Watch_broken d_Watch_move d_TieWatch_init d_TieWatch_tied d_TieWatch_handles_of d_TieWatch_touched d_watch_of d_deeds_of d_deeds_of_tie d_row_broken d_broken_by d_Machine_init d_Machine_coming d_Machine_seen d_Machine_go_over d_Machine_goes_on d_Machine_done d_run_watched d_lines_of_step d_lines_of d_names_in d_names_of d_Marker_init d_Marker_next_line d_Marker_marked d_Marker_marked_step d_put_lend d_put_if d_put_while d_put_steps d_coded d_code_of d_law_cell_at d_law_mixed d_law_words d_law_step d_law_shut d_law_program d_law_input d_law_rule d_law_next d_law_row_of d_law_touched d_law_due d_law_told d_law_whole d_law_is_log d_law_as_due d_law_lines d_law_deed d_law_more d_law_plain d_law_lent d_law_go d_law_log d_law : FuncData} {xnm xq : Str} {xN : Addr} {xbs : List Value} {xsn : List Str} {xsub : List Value} {xab : Bool} {xcol : Option Bool} {xdd : Option Addr} {xm0 xm1 xm2 xm3 xm5 : Option Value} (X : K.In h) (G : h.Ns mainGlobals mg) (hfa : mg "law" = some (.ref fa))
    (q_Watch : PySem.W.nsIn K mainGlobals "Watch" = some (some (.ref a_Watch)))
    (q_TieWatch : PySem.W.nsIn K mainGlobals "TieWatch" = some (some (.ref a_TieWatch)))
    (q_Machine : PySem.W.nsIn K mainGlobals "Machine" = some (some (.ref a_Machine)))
    (q_Marker : PySem.W.nsIn K mainGlobals "Marker" = some (some (.ref a_Marker)))
    (q_UseError : PySem.W.nsIn K mainGlobals "UseError" = some (some (.ref a_UseError)))
    (q_NoFit : PySem.W.nsIn K mainGlobals "NoFit" = some (some (.ref a_NoFit)))
    (q_TooGreat : PySem.W.nsIn K mainGlobals "TooGreat" = some (some (.ref a_TooGreat)))
    (q_Breach : PySem.W.nsIn K mainGlobals "Breach" = some (some (.ref a_Breach)))
    (q_next_room : PySem.W.nsIn K mainGlobals "next_room" = some (some (.ref f_next_room)))
    (q_watch_of : PySem.W.nsIn K mainGlobals "watch_of" = some (some (.ref f_watch_of)))
    (q_deeds_of : PySem.W.nsIn K mainGlobals "deeds_of" = some (some (.ref f_deeds_of)))
    (q_deeds_of_tie : PySem.W.nsIn K mainGlobals "deeds_of_tie" = some (some (.ref f_deeds_of_tie)))
    (q_row_broken : PySem.W.nsIn K mainGlobals "row_broken" = some (some (.ref f_row_broken)))
    (q_broken_by : PySem.W.nsIn K mainGlobals "broken_by" = some (some (.ref f_broken_by)))
    (q_run_watched : PySem.W.nsIn K mainGlobals "run_watched" = some (some (.ref f_run_watched)))
    (q_lines_of_step : PySem.W.nsIn K mainGlobals "lines_of_step" = some (some (.ref f_lines_of_step)))
    (q_lines_of : PySem.W.nsIn K mainGlobals "lines_of" = some (some (.ref f_lines_of)))
    (q_names_in : PySem.W.nsIn K mainGlobals "names_in" = some (some (.ref f_names_in)))
    (q_names_of : PySem.W.nsIn K mainGlobals "names_of" = some (some (.ref f_names_of)))
    (q_put_lend : PySem.W.nsIn K mainGlobals "put_lend" = some (some (.ref f_put_lend)))
    (q_put_if : PySem.W.nsIn K mainGlobals "put_if" = some (some (.ref f_put_if)))
    (q_put_while : PySem.W.nsIn K mainGlobals "put_while" = some (some (.ref f_put_while)))
    (q_put_steps : PySem.W.nsIn K mainGlobals "put_steps" = some (some (.ref f_put_steps)))
    (q_coded : PySem.W.nsIn K mainGlobals "coded" = some (some (.ref f_coded)))
    (q_code_of : PySem.W.nsIn K mainGlobals "code_of" = some (some (.ref f_code_of)))
    (q_law_cell_at : PySem.W.nsIn K mainGlobals "_law_cell_at" = some (some (.ref f_law_cell_at)))
    (q_law_mixed : PySem.W.nsIn K mainGlobals "_law_mixed" = some (some (.ref f_law_mixed)))
    (q_law_words : PySem.W.nsIn K mainGlobals "_law_words" = some (some (.ref f_law_words)))
    (q_law_step : PySem.W.nsIn K mainGlobals "_law_step" = some (some (.ref f_law_step)))
    (q_law_shut : PySem.W.nsIn K mainGlobals "_law_shut" = some (some (.ref f_law_shut)))
    (q_law_program : PySem.W.nsIn K mainGlobals "_law_program" = some (some (.ref f_law_program)))
    (q_law_input : PySem.W.nsIn K mainGlobals "_law_input" = some (some (.ref f_law_input)))
    (q_law_rule : PySem.W.nsIn K mainGlobals "_law_rule" = some (some (.ref f_law_rule)))
    (q_law_next : PySem.W.nsIn K mainGlobals "_law_next" = some (some (.ref f_law_next)))
    (q_law_row_of : PySem.W.nsIn K mainGlobals "_law_row_of" = some (some (.ref f_law_row_of)))
    (q_law_touched : PySem.W.nsIn K mainGlobals "_law_touched" = some (some (.ref f_law_touched)))
    (q_law_due : PySem.W.nsIn K mainGlobals "_law_due" = some (some (.ref f_law_due)))
    (q_law_told : PySem.W.nsIn K mainGlobals "_law_told" = some (some (.ref f_law_told)))
    (q_law_whole : PySem.W.nsIn K mainGlobals "_law_whole" = some (some (.ref f_law_whole)))
    (q_law_is_log : PySem.W.nsIn K mainGlobals "_law_is_log" = some (some (.ref f_law_is_log)))
    (q_law_as_due : PySem.W.nsIn K mainGlobals "_law_as_due" = some (some (.ref f_law_as_due)))
    (q_law_lines : PySem.W.nsIn K mainGlobals "_law_lines" = some (some (.ref f_law_lines)))
    (q_law_deed : PySem.W.nsIn K mainGlobals "_law_deed" = some (some (.ref f_law_deed)))
    (q_law_more : PySem.W.nsIn K mainGlobals "_law_more" = some (some (.ref f_law_more)))
    (q_law_plain : PySem.W.nsIn K mainGlobals "_law_plain" = some (some (.ref f_law_plain)))
    (q_law_lent : PySem.W.nsIn K mainGlobals "_law_lent" = some (some (.ref f_law_lent)))
    (q_law_go : PySem.W.nsIn K mainGlobals "_law_go" = some (some (.ref f_law_go)))
    (q_law_log : PySem.W.nsIn K mainGlobals "_law_log" = some (some (.ref f_law_log)))
    (q_law : PySem.W.nsIn K mainGlobals "law" = some (some (.ref f_law)))
    (xi_Breach : PySem.W.findIn K (.ref a_Breach) "__init__" = some (some (.ref f_Breach_init)))
    (k_Watch : Mk K a_Watch f_Watch_init)
    (k_TieWatch : Mk K a_TieWatch f_TieWatch_init)
    (k_Machine : Mk K a_Machine f_Machine_init)
    (k_Marker : Mk K a_Marker f_Marker_init)
    (e_Watch_touched : Meth K a_Watch "touched" f_Watch_touched)
    (e_Watch_handles_of : Meth K a_Watch "handles_of" f_Watch_handles_of)
    (e_Watch_tied : Meth K a_Watch "tied" f_Watch_tied)
    (e_Watch_room_of : Meth K a_Watch "room_of" f_Watch_room_of)
    (e_Watch_broken : Meth K a_Watch "broken" f_Watch_broken)
    (e_Watch_move : Meth K a_Watch "move" f_Watch_move)
    (e_TieWatch_tied : Meth K a_TieWatch "tied" f_TieWatch_tied)
    (e_TieWatch_handles_of : Meth K a_TieWatch "handles_of" f_TieWatch_handles_of)
    (e_TieWatch_touched : Meth K a_TieWatch "touched" f_TieWatch_touched)
    (e_TieWatch_room_of : Meth K a_TieWatch "room_of" f_Watch_room_of)
    (e_TieWatch_broken : Meth K a_TieWatch "broken" f_Watch_broken)
    (e_TieWatch_move : Meth K a_TieWatch "move" f_Watch_move)
    (e_Machine_coming : Meth K a_Machine "coming" f_Machine_coming)
    (e_Machine_seen : Meth K a_Machine "seen" f_Machine_seen)
    (e_Machine_go_over : Meth K a_Machine "go_over" f_Machine_go_over)
    (e_Machine_goes_on : Meth K a_Machine "goes_on" f_Machine_goes_on)
    (e_Machine_done : Meth K a_Machine "done" f_Machine_done)
    (e_Marker_next_line : Meth K a_Marker "next_line" f_Marker_next_line)
    (e_Marker_marked : Meth K a_Marker "marked" f_Marker_marked)
    (e_Marker_marked_step : Meth K a_Marker "marked_step" f_Marker_marked_step)
    (F_Breach_init : Fun K "__init__" "Breach.__init__" st_Breach_init f_Breach_init d_Breach_init)
    (F_next_room : Fun K "next_room" "next_room" st_next_room f_next_room d_next_room)
    (F_Watch_init : Fun K "__init__" "Watch.__init__" st_Watch_init f_Watch_init d_Watch_init)
    (F_Watch_touched : Fun K "touched" "Watch.touched" st_Watch_touched f_Watch_touched d_Watch_touched)
    (F_Watch_handles_of : Fun K "handles_of" "Watch.handles_of" st_Watch_handles_of f_Watch_handles_of d_Watch_handles_of)
    (F_Watch_tied : Fun K "tied" "Watch.tied" st_Watch_tied f_Watch_tied d_Watch_tied)
    (F_Watch_room_of : Fun K "room_of" "Watch.room_of" st_Watch_room_of f_Watch_room_of d_Watch_room_of)
    (F_Watch_broken : Fun K "broken" "Watch.broken" st_Watch_broken f_Watch_broken d_Watch_broken)
    (F_Watch_move : Fun K "move" "Watch.move" st_Watch_move f_Watch_move d_Watch_move)
    (F_TieWatch_init : Fun K "__init__" "TieWatch.__init__" st_TieWatch_init f_TieWatch_init d_TieWatch_init)
    (F_TieWatch_tied : Fun K "tied" "TieWatch.tied" st_TieWatch_tied f_TieWatch_tied d_TieWatch_tied)
    (F_TieWatch_handles_of : Fun K "handles_of" "TieWatch.handles_of" st_TieWatch_handles_of f_TieWatch_handles_of d_TieWatch_handles_of)
    (F_TieWatch_touched : Fun K "touched" "TieWatch.touched" st_TieWatch_touched f_TieWatch_touched d_TieWatch_touched)
    (F_watch_of : Fun K "watch_of" "watch_of" st_watch_of f_watch_of d_watch_of)
    (F_deeds_of : Fun K "deeds_of" "deeds_of" st_deeds_of f_deeds_of d_deeds_of)
    (F_deeds_of_tie : Fun K "deeds_of_tie" "deeds_of_tie" st_deeds_of_tie f_deeds_of_tie d_deeds_of_tie)
    (F_row_broken : Fun K "row_broken" "row_broken" st_row_broken f_row_broken d_row_broken)
    (F_broken_by : Fun K "broken_by" "broken_by" st_broken_by f_broken_by d_broken_by)
    (F_Machine_init : Fun K "__init__" "Machine.__init__" st_Machine_init f_Machine_init d_Machine_init)
    (F_Machine_coming : Fun K "coming" "Machine.coming" st_Machine_coming f_Machine_coming d_Machine_coming)
    (F_Machine_seen : Fun K "seen" "Machine.seen" st_Machine_seen f_Machine_seen d_Machine_seen)
    (F_Machine_go_over : Fun K "go_over" "Machine.go_over" st_Machine_go_over f_Machine_go_over d_Machine_go_over)
    (F_Machine_goes_on : Fun K "goes_on" "Machine.goes_on" st_Machine_goes_on f_Machine_goes_on d_Machine_goes_on)
    (F_Machine_done : Fun K "done" "Machine.done" st_Machine_done f_Machine_done d_Machine_done)
    (F_run_watched : Fun K "run_watched" "run_watched" st_run_watched f_run_watched d_run_watched)
    (F_lines_of_step : Fun K "lines_of_step" "lines_of_step" st_lines_of_step f_lines_of_step d_lines_of_step)
    (F_lines_of : Fun K "lines_of" "lines_of" st_lines_of f_lines_of d_lines_of)
    (F_names_in : Fun K "names_in" "names_in" st_names_in f_names_in d_names_in)
    (F_names_of : Fun K "names_of" "names_of" st_names_of f_names_of d_names_of)
    (F_Marker_init : Fun K "__init__" "Marker.__init__" st_Marker_init f_Marker_init d_Marker_init)
    (F_Marker_next_line : Fun K "next_line" "Marker.next_line" st_Marker_next_line f_Marker_next_line d_Marker_next_line)
    (F_Marker_marked : Fun K "marked" "Marker.marked" st_Marker_marked f_Marker_marked d_Marker_marked)
    (F_Marker_marked_step : Fun K "marked_step" "Marker.marked_step" st_Marker_marked_step f_Marker_marked_step d_Marker_marked_step)
    (F_put_lend : Fun K "put_lend" "put_lend" st_put_lend f_put_lend d_put_lend)
    (F_put_if : Fun K "put_if" "put_if" st_put_if f_put_if d_put_if)
    (F_put_while : Fun K "put_while" "put_while" st_put_while f_put_while d_put_while)
    (F_put_steps : Fun K "put_steps" "put_steps" st_put_steps f_put_steps d_put_steps)
    (F_coded : Fun K "coded" "coded" st_coded f_coded d_coded)
    (F_code_of : Fun K "code_of" "code_of" st_code_of f_code_of d_code_of)
    (F_law_cell_at : Fun K "_law_cell_at" "_law_cell_at" st_law_cell_at f_law_cell_at d_law_cell_at)
    (F_law_mixed : Fun K "_law_mixed" "_law_mixed" st_law_mixed f_law_mixed d_law_mixed)
    (F_law_words : Fun K "_law_words" "_law_words" st_law_words f_law_words d_law_words)
    (F_law_step : Fun K "_law_step" "_law_step" st_law_step f_law_step d_law_step)
    (F_law_shut : Fun K "_law_shut" "_law_shut" st_law_shut f_law_shut d_law_shut)
    (F_law_program : Fun K "_law_program" "_law_program" st_law_program f_law_program d_law_program)
    (F_law_input : Fun K "_law_input" "_law_input" st_law_input f_law_input d_law_input)
    (F_law_rule : Fun K "_law_rule" "_law_rule" st_law_rule f_law_rule d_law_rule)
    (F_law_next : Fun K "_law_next" "_law_next" st_law_next f_law_next d_law_next)
    (F_law_row_of : Fun K "_law_row_of" "_law_row_of" st_law_row_of f_law_row_of d_law_row_of)
    (F_law_touched : Fun K "_law_touched" "_law_touched" st_law_touched f_law_touched d_law_touched)
    (F_law_due : Fun K "_law_due" "_law_due" st_law_due f_law_due d_law_due)
    (F_law_told : Fun K "_law_told" "_law_told" st_law_told f_law_told d_law_told)
    (F_law_whole : Fun K "_law_whole" "_law_whole" st_law_whole f_law_whole d_law_whole)
    (F_law_is_log : Fun K "_law_is_log" "_law_is_log" st_law_is_log f_law_is_log d_law_is_log)
    (F_law_as_due : Fun K "_law_as_due" "_law_as_due" st_law_as_due f_law_as_due d_law_as_due)
    (F_law_lines : Fun K "_law_lines" "_law_lines" st_law_lines f_law_lines d_law_lines)
    (F_law_deed : Fun K "_law_deed" "_law_deed" st_law_deed f_law_deed d_law_deed)
    (F_law_more : Fun K "_law_more" "_law_more" st_law_more f_law_more d_law_more)
    (F_law_plain : Fun K "_law_plain" "_law_plain" st_law_plain f_law_plain d_law_plain)
    (F_law_lent : Fun K "_law_lent" "_law_lent" st_law_lent f_law_lent d_law_lent)
    (F_law_go : Fun K "_law_go" "_law_go" st_law_go f_law_go d_law_go)
    (F_law_log : Fun K "_law_log" "_law_log" st_law_log f_law_log d_law_log)
    (F_law : Fun K "law" "law" st_law f_law d_law)
    (c_Watch : Cls K a_Watch)
    (n_Watch_name : PySem.W.findIn K (.ref a_Watch) "name" = some none)
    (n_Watch_rule : PySem.W.findIn K (.ref a_Watch) "rule" = some none)
    (n_Watch_rooms : PySem.W.findIn K (.ref a_Watch) "rooms" = some none)
    (c_TieWatch : Cls K a_TieWatch)
    (n_TieWatch_name : PySem.W.findIn K (.ref a_TieWatch) "name" = some none)
    (n_TieWatch_rule : PySem.W.findIn K (.ref a_TieWatch) "rule" = some none)
    (n_TieWatch_rooms : PySem.W.findIn K (.ref a_TieWatch) "rooms" = some none)
    (n_TieWatch_ties : PySem.W.findIn K (.ref a_TieWatch) "ties" = some none)
    (c_Machine : Cls K a_Machine)
    (n_Machine_code : PySem.W.findIn K (.ref a_Machine) "code" = some none)
    (n_Machine_inputs : PySem.W.findIn K (.ref a_Machine) "inputs" = some none)
    (n_Machine_used : PySem.W.findIn K (.ref a_Machine) "used" = some none)
    (n_Machine_number : PySem.W.findIn K (.ref a_Machine) "number" = some none)
    (n_Machine_at : PySem.W.findIn K (.ref a_Machine) "at" = some none)
    (n_Machine_slots : PySem.W.findIn K (.ref a_Machine) "slots" = some none)
    (n_Machine_many : PySem.W.findIn K (.ref a_Machine) "many" = some none)
    (n_Machine_ended : PySem.W.findIn K (.ref a_Machine) "ended" = some none)
    (n_Machine_log : PySem.W.findIn K (.ref a_Machine) "log" = some none)
    (c_Marker : Cls K a_Marker)
    (n_Marker_slots : PySem.W.findIn K (.ref a_Marker) "slots" = some none)
    (n_Marker_line : PySem.W.findIn K (.ref a_Marker) "line" = some none)
    (n_Marker_lent : PySem.W.findIn K (.ref a_Marker) "lent" = some none)
    (z_len : PySem.W.nsIn K mainGlobals "len" = some none)
    (z_range : PySem.W.nsIn K mainGlobals "range" = some none)
    (z_enumerate : PySem.W.nsIn K mainGlobals "enumerate" = some none)
    (z_zip : PySem.W.nsIn K mainGlobals "zip" = some none)
    (z_list : PySem.W.nsIn K mainGlobals "list" = some none)
    (z_tuple : PySem.W.nsIn K mainGlobals "tuple" = some none)
    (z_set : PySem.W.nsIn K mainGlobals "set" = some none)
    (z_sorted : PySem.W.nsIn K mainGlobals "sorted" = some none)
    (z_int : PySem.W.nsIn K mainGlobals "int" = some none)
    (z_str : PySem.W.nsIn K mainGlobals "str" = some none)
    (z_bool : PySem.W.nsIn K mainGlobals "bool" = some none)
    (z_isinstance : PySem.W.nsIn K mainGlobals "isinstance" = some none)
    (r_Watch : ClX.CRead K a_Watch (.type "type"))
    (v_Watch_init : ClX.CVal K a_Watch (.type "type") "__init__" (.ref f_Watch_init) (.ref f_Watch_init))
    (xL_Breach : K.lookup a_Breach = some (excClassObj xnm xq a_Breach xN xbs [.ref a_UseError, .type "ValueError", .type "Exception", .type "BaseException", .type "object"] true xsn xsub xab xcol xdd xm0 xm1 xm2 xm3 xm5 "ValueError.__new__"))
    (ox1 : PySem.W.findIn K (.ref a_Breach) "__setattr__" = some (some (.builtin "object.__setattr__")))
    (ox2 : PySem.W.subIn K (.ref a_Breach) (.type "BaseException") = some true)
    (ox3 : PySem.W.typeIn K (.ref a_Breach) = some (.type "type"))
    (ox4 : PySem.W.keepIn K (.ref a_Breach) = true)
    (xt_Breach : PySem.W.typeIn K (.ref f_Breach_init) = some (.type "function"))
    (xf_Breach : XfC K a_Breach)
    (xn_rule : PySem.W.findIn K (.ref a_Breach) "rule" = some none)
    (xn_line : PySem.W.findIn K (.ref a_Breach) "line" = some none)
    (xn_handles : PySem.W.findIn K (.ref a_Breach) "handles" = some none)
    (xn_row : PySem.W.findIn K (.ref a_Breach) "row" = some none)
    (xn_log : PySem.W.findIn K (.ref a_Breach) "log" = some none)
    (exc_Breach : ExcC K a_Breach)
    (xm_Breach : PySem.W.exmOne K (.ref a_Breach) (.ref a_Breach) = some true)
    (xk_UseError : PySem.W.kitOne K (.ref a_Breach) (.ref a_UseError) = some true)
    (xk_NoFit : PySem.W.kitOne K (.ref a_Breach) (.ref a_NoFit) = some false)
    (xk_TooGreat : PySem.W.kitOne K (.ref a_Breach) (.ref a_TooGreat) = some false)
    : ∃ fd : FuncData, (∀ (s : Shared) (v : Value), BindsTo s fd ⟨[v], []⟩ [("_law_script", v)]) ∧ ∀ base : Heap, K.In base → base.Ns mainGlobals mg → FnOk l.prog w K mg base CX0 22 fa fd ["_law_script"] (spLaw K) := by
  have e := hfa.symm.trans (PySem.W.mg_of X G q_law)
  cases e
  have T := tx_mk X G q_Watch q_TieWatch q_Machine q_Marker q_UseError q_NoFit q_TooGreat q_Breach q_next_room q_watch_of q_deeds_of q_deeds_of_tie q_row_broken q_broken_by q_run_watched q_lines_of_step q_lines_of q_names_in q_names_of q_put_lend q_put_if q_put_while q_put_steps q_coded q_code_of q_law_cell_at q_law_mixed q_law_words q_law_step q_law_shut q_law_program q_law_input q_law_rule q_law_next q_law_row_of q_law_touched q_law_due q_law_told q_law_whole q_law_is_log q_law_as_due q_law_lines q_law_deed q_law_more q_law_plain q_law_lent q_law_go q_law_log q_law xi_Breach k_Watch k_TieWatch k_Machine k_Marker e_Watch_touched e_Watch_handles_of e_Watch_tied e_Watch_room_of e_Watch_broken e_Watch_move e_TieWatch_tied e_TieWatch_handles_of e_TieWatch_touched e_TieWatch_room_of e_TieWatch_broken e_TieWatch_move e_Machine_coming e_Machine_seen e_Machine_go_over e_Machine_goes_on e_Machine_done e_Marker_next_line e_Marker_marked e_Marker_marked_step F_Breach_init F_next_room F_Watch_init F_Watch_touched F_Watch_handles_of F_Watch_tied F_Watch_room_of F_Watch_broken F_Watch_move F_TieWatch_init F_TieWatch_tied F_TieWatch_handles_of F_TieWatch_touched F_watch_of F_deeds_of F_deeds_of_tie F_row_broken F_broken_by F_Machine_init F_Machine_coming F_Machine_seen F_Machine_go_over F_Machine_goes_on F_Machine_done F_run_watched F_lines_of_step F_lines_of F_names_in F_names_of F_Marker_init F_Marker_next_line F_Marker_marked F_Marker_marked_step F_put_lend F_put_if F_put_while F_put_steps F_coded F_code_of F_law_cell_at F_law_mixed F_law_words F_law_step F_law_shut F_law_program F_law_input F_law_rule F_law_next F_law_row_of F_law_touched F_law_due F_law_told F_law_whole F_law_is_log F_law_as_due F_law_lines F_law_deed F_law_more F_law_plain F_law_lent F_law_go F_law_log F_law c_Watch n_Watch_name n_Watch_rule n_Watch_rooms c_TieWatch n_TieWatch_name n_TieWatch_rule n_TieWatch_rooms n_TieWatch_ties c_Machine n_Machine_code n_Machine_inputs n_Machine_used n_Machine_number n_Machine_at n_Machine_slots n_Machine_many n_Machine_ended n_Machine_log c_Marker n_Marker_slots n_Marker_line n_Marker_lent z_len z_range z_enumerate z_zip z_list z_tuple z_set z_sorted z_int z_str z_bool z_isinstance r_Watch v_Watch_init xL_Breach ox1 ox2 ox3 ox4 xt_Breach xf_Breach xn_rule xn_line xn_handles xn_row xn_log exc_Breach xm_Breach xk_UseError xk_NoFit xk_TooGreat
  refine ⟨d_law, fun s v => ?_, fun base _ _ => ok_law (P := l.prog) (w := w) (base := base) T⟩
  obtain ⟨oc, od, kV, doc, pm, an, cdv, ct, osl, e, _, _⟩ := F_law.ex
  rw [e]
  exact .of_eq rfl
theorem walk {l : PySem.W.OpenLaw} {q : Program} {loose : List Str} {XP : (Str → Option Value) → Heap → Prop} {YP : World → Heap → Prop} {d : DefRec} {K : Params → PySem.W.Frag} (hn : l.most = some 63) (hdf : d.params.defaults = [])
    (hY : ∀ (w : World) (h : Heap), YP w h → (K w.params).In h)
    (F : ∀ (w : World) (mg : Str → Option Value) (fa : Addr) (h : Heap), (K w.params).In h → h.Ns mainGlobals mg → mg d.name = some (.ref fa) →
      ∃ fd : FuncData, (∀ (s : Shared) (u : Value), BindsTo s fd ⟨[u], []⟩ [("_law_script", u)]) ∧ ∀ base : Heap, (K w.params).In base → base.Ns mainGlobals mg → FnOk l.prog w (K w.params) mg base CX0 22 fa fd ["_law_script"] (spLaw (K w.params))) :
    PySem.W.WalkO q loose XP YP l.row.toRowW d [] (fun f vs => PySem.call f vs) :=
  L2.walk_of (n := 63) (k := 22) (x := "_law_script") (CX := fun _ => CX0) (sp := fun w => spLaw (K w.params)) hn (by decide) hdf ⟨rfl, by decide, by decide⟩ hY F (fun _ _ a ns hl _ hS => ⟨a, ns, rfl, hS, hl, fun _ => rfl⟩) fun _ _ _ _ _ z => z

end U
open PySem PySem.W PyProof.Rows U L2 in
set_option maxRecDepth 100000 in
set_option maxHeartbeats 0 in
theorem PySem.Challenge.cw_usewarden_k47_whole_watched_holds : PySem.Challenge.rw_usewarden_k47_whole_watched.Holds := by
  w_on; o_law; k_head; (case hw => w_witness2)
  k_fill
  refine U.walk (l := PySem.Challenge.rw_usewarden_k47_whole_watched) rfl rfl (fun w h Y => PySem.W.kIn_of Y) ?F
  case F =>
    intro w mg fa h KX G hmg
    refine' U.all_mk KX G hmg ?q_Watch ?q_TieWatch ?q_Machine ?q_Marker ?q_UseError ?q_NoFit ?q_TooGreat ?q_Breach ?q_next_room ?q_watch_of ?q_deeds_of ?q_deeds_of_tie ?q_row_broken ?q_broken_by ?q_run_watched ?q_lines_of_step ?q_lines_of ?q_names_in ?q_names_of ?q_put_lend ?q_put_if ?q_put_while ?q_put_steps ?q_coded ?q_code_of ?q_law_cell_at ?q_law_mixed ?q_law_words ?q_law_step ?q_law_shut ?q_law_program ?q_law_input ?q_law_rule ?q_law_next ?q_law_row_of ?q_law_touched ?q_law_due ?q_law_told ?q_law_whole ?q_law_is_log ?q_law_as_due ?q_law_lines ?q_law_deed ?q_law_more ?q_law_plain ?q_law_lent ?q_law_go ?q_law_log ?q_law ?xi_Breach ?k_Watch ?k_TieWatch ?k_Machine ?k_Marker ?e_Watch_touched ?e_Watch_handles_of ?e_Watch_tied ?e_Watch_room_of ?e_Watch_broken ?e_Watch_move ?e_TieWatch_tied ?e_TieWatch_handles_of ?e_TieWatch_touched ?e_TieWatch_room_of ?e_TieWatch_broken ?e_TieWatch_move ?e_Machine_coming ?e_Machine_seen ?e_Machine_go_over ?e_Machine_goes_on ?e_Machine_done ?e_Marker_next_line ?e_Marker_marked ?e_Marker_marked_step ?F_Breach_init ?F_next_room ?F_Watch_init ?F_Watch_touched ?F_Watch_handles_of ?F_Watch_tied ?F_Watch_room_of ?F_Watch_broken ?F_Watch_move ?F_TieWatch_init ?F_TieWatch_tied ?F_TieWatch_handles_of ?F_TieWatch_touched ?F_watch_of ?F_deeds_of ?F_deeds_of_tie ?F_row_broken ?F_broken_by ?F_Machine_init ?F_Machine_coming ?F_Machine_seen ?F_Machine_go_over ?F_Machine_goes_on ?F_Machine_done ?F_run_watched ?F_lines_of_step ?F_lines_of ?F_names_in ?F_names_of ?F_Marker_init ?F_Marker_next_line ?F_Marker_marked ?F_Marker_marked_step ?F_put_lend ?F_put_if ?F_put_while ?F_put_steps ?F_coded ?F_code_of ?F_law_cell_at ?F_law_mixed ?F_law_words ?F_law_step ?F_law_shut ?F_law_program ?F_law_input ?F_law_rule ?F_law_next ?F_law_row_of ?F_law_touched ?F_law_due ?F_law_told ?F_law_whole ?F_law_is_log ?F_law_as_due ?F_law_lines ?F_law_deed ?F_law_more ?F_law_plain ?F_law_lent ?F_law_go ?F_law_log ?F_law ?c_Watch ?n_Watch_name ?n_Watch_rule ?n_Watch_rooms ?c_TieWatch ?n_TieWatch_name ?n_TieWatch_rule ?n_TieWatch_rooms ?n_TieWatch_ties ?c_Machine ?n_Machine_code ?n_Machine_inputs ?n_Machine_used ?n_Machine_number ?n_Machine_at ?n_Machine_slots ?n_Machine_many ?n_Machine_ended ?n_Machine_log ?c_Marker ?n_Marker_slots ?n_Marker_line ?n_Marker_lent ?z_len ?z_range ?z_enumerate ?z_zip ?z_list ?z_tuple ?z_set ?z_sorted ?z_int ?z_str ?z_bool ?z_isinstance ?r_Watch ?v_Watch_init ?xL_Breach ?ox1 ?ox2 ?ox3 ?ox4 ?xt_Breach ?xf_Breach ?xn_rule ?xn_line ?xn_handles ?xn_row ?xn_log ?exc_Breach ?xm_Breach ?xk_UseError ?xk_NoFit ?xk_TooGreat
    (case q_Watch => k_is)
    (case q_TieWatch => k_is)
    (case q_Machine => k_is)
    (case q_Marker => k_is)
    (case q_UseError => k_is)
    (case q_NoFit => k_is)
    (case q_TooGreat => k_is)
    (case q_Breach => k_is)
    (case q_next_room => k_is)
    (case q_watch_of => k_is)
    (case q_deeds_of => k_is)
    (case q_deeds_of_tie => k_is)
    (case q_row_broken => k_is)
    (case q_broken_by => k_is)
    (case q_run_watched => k_is)
    (case q_lines_of_step => k_is)
    (case q_lines_of => k_is)
    (case q_names_in => k_is)
    (case q_names_of => k_is)
    (case q_put_lend => k_is)
    (case q_put_if => k_is)
    (case q_put_while => k_is)
    (case q_put_steps => k_is)
    (case q_coded => k_is)
    (case q_code_of => k_is)
    (case q_law_cell_at => k_is)
    (case q_law_mixed => k_is)
    (case q_law_words => k_is)
    (case q_law_step => k_is)
    (case q_law_shut => k_is)
    (case q_law_program => k_is)
    (case q_law_input => k_is)
    (case q_law_rule => k_is)
    (case q_law_next => k_is)
    (case q_law_row_of => k_is)
    (case q_law_touched => k_is)
    (case q_law_due => k_is)
    (case q_law_told => k_is)
    (case q_law_whole => k_is)
    (case q_law_is_log => k_is)
    (case q_law_as_due => k_is)
    (case q_law_lines => k_is)
    (case q_law_deed => k_is)
    (case q_law_more => k_is)
    (case q_law_plain => k_is)
    (case q_law_lent => k_is)
    (case q_law_go => k_is)
    (case q_law_log => k_is)
    (case q_law => k_is)
    (case xi_Breach => k_is)
    (case k_Watch => (refine' ⟨?x1_k_Watch, ?x2_k_Watch, ?x3_k_Watch, ?x4_k_Watch⟩; (case x2_k_Watch => k_is); (case x1_k_Watch => k_is); (case x3_k_Watch => k_is); (case x4_k_Watch => k_is)))
    (case k_TieWatch => (refine' ⟨?x1_k_TieWatch, ?x2_k_TieWatch, ?x3_k_TieWatch, ?x4_k_TieWatch⟩; (case x2_k_TieWatch => k_is); (case x1_k_TieWatch => k_is); (case x3_k_TieWatch => k_is); (case x4_k_TieWatch => k_is)))
    (case k_Machine => (refine' ⟨?x1_k_Machine, ?x2_k_Machine, ?x3_k_Machine, ?x4_k_Machine⟩; (case x2_k_Machine => k_is); (case x1_k_Machine => k_is); (case x3_k_Machine => k_is); (case x4_k_Machine => k_is)))
    (case k_Marker => (refine' ⟨?x1_k_Marker, ?x2_k_Marker, ?x3_k_Marker, ?x4_k_Marker⟩; (case x2_k_Marker => k_is); (case x1_k_Marker => k_is); (case x3_k_Marker => k_is); (case x4_k_Marker => k_is)))
    (case e_Watch_touched => (refine' ⟨?x1_e_Watch_touched, ?x2_e_Watch_touched, ?x3_e_Watch_touched⟩; (case x1_e_Watch_touched => k_is); (case x2_e_Watch_touched => k_is); (case x3_e_Watch_touched => k_is)))
    (case e_Watch_handles_of => (refine' ⟨?x1_e_Watch_handles_of, ?x2_e_Watch_handles_of, ?x3_e_Watch_handles_of⟩; (case x1_e_Watch_handles_of => k_is); (case x2_e_Watch_handles_of => k_is); (case x3_e_Watch_handles_of => k_is)))
    (case e_Watch_tied => (refine' ⟨?x1_e_Watch_tied, ?x2_e_Watch_tied, ?x3_e_Watch_tied⟩; (case x1_e_Watch_tied => k_is); (case x2_e_Watch_tied => k_is); (case x3_e_Watch_tied => k_is)))
    (case e_Watch_room_of => (refine' ⟨?x1_e_Watch_room_of, ?x2_e_Watch_room_of, ?x3_e_Watch_room_of⟩; (case x1_e_Watch_room_of => k_is); (case x2_e_Watch_room_of => k_is); (case x3_e_Watch_room_of => k_is)))
    (case e_Watch_broken => (refine' ⟨?x1_e_Watch_broken, ?x2_e_Watch_broken, ?x3_e_Watch_broken⟩; (case x1_e_Watch_broken => k_is); (case x2_e_Watch_broken => k_is); (case x3_e_Watch_broken => k_is)))
    (case e_Watch_move => (refine' ⟨?x1_e_Watch_move, ?x2_e_Watch_move, ?x3_e_Watch_move⟩; (case x1_e_Watch_move => k_is); (case x2_e_Watch_move => k_is); (case x3_e_Watch_move => k_is)))
    (case e_TieWatch_tied => (refine' ⟨?x1_e_TieWatch_tied, ?x2_e_TieWatch_tied, ?x3_e_TieWatch_tied⟩; (case x1_e_TieWatch_tied => k_is); (case x2_e_TieWatch_tied => k_is); (case x3_e_TieWatch_tied => k_is)))
    (case e_TieWatch_handles_of => (refine' ⟨?x1_e_TieWatch_handles_of, ?x2_e_TieWatch_handles_of, ?x3_e_TieWatch_handles_of⟩; (case x1_e_TieWatch_handles_of => k_is); (case x2_e_TieWatch_handles_of => k_is); (case x3_e_TieWatch_handles_of => k_is)))
    (case e_TieWatch_touched => (refine' ⟨?x1_e_TieWatch_touched, ?x2_e_TieWatch_touched, ?x3_e_TieWatch_touched⟩; (case x1_e_TieWatch_touched => k_is); (case x2_e_TieWatch_touched => k_is); (case x3_e_TieWatch_touched => k_is)))
    (case e_TieWatch_room_of => (refine' ⟨?x1_e_TieWatch_room_of, ?x2_e_TieWatch_room_of, ?x3_e_TieWatch_room_of⟩; (case x1_e_TieWatch_room_of => k_is); (case x2_e_TieWatch_room_of => k_is); (case x3_e_TieWatch_room_of => k_is)))
    (case e_TieWatch_broken => (refine' ⟨?x1_e_TieWatch_broken, ?x2_e_TieWatch_broken, ?x3_e_TieWatch_broken⟩; (case x1_e_TieWatch_broken => k_is); (case x2_e_TieWatch_broken => k_is); (case x3_e_TieWatch_broken => k_is)))
    (case e_TieWatch_move => (refine' ⟨?x1_e_TieWatch_move, ?x2_e_TieWatch_move, ?x3_e_TieWatch_move⟩; (case x1_e_TieWatch_move => k_is); (case x2_e_TieWatch_move => k_is); (case x3_e_TieWatch_move => k_is)))
    (case e_Machine_coming => (refine' ⟨?x1_e_Machine_coming, ?x2_e_Machine_coming, ?x3_e_Machine_coming⟩; (case x1_e_Machine_coming => k_is); (case x2_e_Machine_coming => k_is); (case x3_e_Machine_coming => k_is)))
    (case e_Machine_seen => (refine' ⟨?x1_e_Machine_seen, ?x2_e_Machine_seen, ?x3_e_Machine_seen⟩; (case x1_e_Machine_seen => k_is); (case x2_e_Machine_seen => k_is); (case x3_e_Machine_seen => k_is)))
    (case e_Machine_go_over => (refine' ⟨?x1_e_Machine_go_over, ?x2_e_Machine_go_over, ?x3_e_Machine_go_over⟩; (case x1_e_Machine_go_over => k_is); (case x2_e_Machine_go_over => k_is); (case x3_e_Machine_go_over => k_is)))
    (case e_Machine_goes_on => (refine' ⟨?x1_e_Machine_goes_on, ?x2_e_Machine_goes_on, ?x3_e_Machine_goes_on⟩; (case x1_e_Machine_goes_on => k_is); (case x2_e_Machine_goes_on => k_is); (case x3_e_Machine_goes_on => k_is)))
    (case e_Machine_done => (refine' ⟨?x1_e_Machine_done, ?x2_e_Machine_done, ?x3_e_Machine_done⟩; (case x1_e_Machine_done => k_is); (case x2_e_Machine_done => k_is); (case x3_e_Machine_done => k_is)))
    (case e_Marker_next_line => (refine' ⟨?x1_e_Marker_next_line, ?x2_e_Marker_next_line, ?x3_e_Marker_next_line⟩; (case x1_e_Marker_next_line => k_is); (case x2_e_Marker_next_line => k_is); (case x3_e_Marker_next_line => k_is)))
    (case e_Marker_marked => (refine' ⟨?x1_e_Marker_marked, ?x2_e_Marker_marked, ?x3_e_Marker_marked⟩; (case x1_e_Marker_marked => k_is); (case x2_e_Marker_marked => k_is); (case x3_e_Marker_marked => k_is)))
    (case e_Marker_marked_step => (refine' ⟨?x1_e_Marker_marked_step, ?x2_e_Marker_marked_step, ?x3_e_Marker_marked_step⟩; (case x1_e_Marker_marked_step => k_is); (case x2_e_Marker_marked_step => k_is); (case x3_e_Marker_marked_step => k_is)))
    (case F_Breach_init => (refine' fun_mk (st := st_Breach_init) ?x1_F_Breach_init ?x2_F_Breach_init ?x3_F_Breach_init; (case x1_F_Breach_init => k_is); (case x2_F_Breach_init => k_is); (case x3_F_Breach_init => k_is)))
    (case F_next_room => (refine' fun_mk (st := st_next_room) ?x1_F_next_room ?x2_F_next_room ?x3_F_next_room; (case x1_F_next_room => k_is); (case x2_F_next_room => k_is); (case x3_F_next_room => k_is)))
    (case F_Watch_init => (refine' fun_mk (st := st_Watch_init) ?x1_F_Watch_init ?x2_F_Watch_init ?x3_F_Watch_init; (case x1_F_Watch_init => k_is); (case x2_F_Watch_init => k_is); (case x3_F_Watch_init => k_is)))
    (case F_Watch_touched => (refine' fun_mk (st := st_Watch_touched) ?x1_F_Watch_touched ?x2_F_Watch_touched ?x3_F_Watch_touched; (case x1_F_Watch_touched => k_is); (case x2_F_Watch_touched => k_is); (case x3_F_Watch_touched => k_is)))
    (case F_Watch_handles_of => (refine' fun_mk (st := st_Watch_handles_of) ?x1_F_Watch_handles_of ?x2_F_Watch_handles_of ?x3_F_Watch_handles_of; (case x1_F_Watch_handles_of => k_is); (case x2_F_Watch_handles_of => k_is); (case x3_F_Watch_handles_of => k_is)))
    (case F_Watch_tied => (refine' fun_mk (st := st_Watch_tied) ?x1_F_Watch_tied ?x2_F_Watch_tied ?x3_F_Watch_tied; (case x1_F_Watch_tied => k_is); (case x2_F_Watch_tied => k_is); (case x3_F_Watch_tied => k_is)))
    (case F_Watch_room_of => (refine' fun_mk (st := st_Watch_room_of) ?x1_F_Watch_room_of ?x2_F_Watch_room_of ?x3_F_Watch_room_of; (case x1_F_Watch_room_of => k_is); (case x2_F_Watch_room_of => k_is); (case x3_F_Watch_room_of => k_is)))
    (case F_Watch_broken => (refine' fun_mk (st := st_Watch_broken) ?x1_F_Watch_broken ?x2_F_Watch_broken ?x3_F_Watch_broken; (case x1_F_Watch_broken => k_is); (case x2_F_Watch_broken => k_is); (case x3_F_Watch_broken => k_is)))
    (case F_Watch_move => (refine' fun_mk (st := st_Watch_move) ?x1_F_Watch_move ?x2_F_Watch_move ?x3_F_Watch_move; (case x1_F_Watch_move => k_is); (case x2_F_Watch_move => k_is); (case x3_F_Watch_move => k_is)))
    (case F_TieWatch_init => (refine' fun_mk (st := st_TieWatch_init) ?x1_F_TieWatch_init ?x2_F_TieWatch_init ?x3_F_TieWatch_init; (case x1_F_TieWatch_init => k_is); (case x2_F_TieWatch_init => k_is); (case x3_F_TieWatch_init => k_is)))
    (case F_TieWatch_tied => (refine' fun_mk (st := st_TieWatch_tied) ?x1_F_TieWatch_tied ?x2_F_TieWatch_tied ?x3_F_TieWatch_tied; (case x1_F_TieWatch_tied => k_is); (case x2_F_TieWatch_tied => k_is); (case x3_F_TieWatch_tied => k_is)))
    (case F_TieWatch_handles_of => (refine' fun_mk (st := st_TieWatch_handles_of) ?x1_F_TieWatch_handles_of ?x2_F_TieWatch_handles_of ?x3_F_TieWatch_handles_of; (case x1_F_TieWatch_handles_of => k_is); (case x2_F_TieWatch_handles_of => k_is); (case x3_F_TieWatch_handles_of => k_is)))
    (case F_TieWatch_touched => (refine' fun_mk (st := st_TieWatch_touched) ?x1_F_TieWatch_touched ?x2_F_TieWatch_touched ?x3_F_TieWatch_touched; (case x1_F_TieWatch_touched => k_is); (case x2_F_TieWatch_touched => k_is); (case x3_F_TieWatch_touched => k_is)))
    (case F_watch_of => (refine' fun_mk (st := st_watch_of) ?x1_F_watch_of ?x2_F_watch_of ?x3_F_watch_of; (case x1_F_watch_of => k_is); (case x2_F_watch_of => k_is); (case x3_F_watch_of => k_is)))
    (case F_deeds_of => (refine' fun_mk (st := st_deeds_of) ?x1_F_deeds_of ?x2_F_deeds_of ?x3_F_deeds_of; (case x1_F_deeds_of => k_is); (case x2_F_deeds_of => k_is); (case x3_F_deeds_of => k_is)))
    (case F_deeds_of_tie => (refine' fun_mk (st := st_deeds_of_tie) ?x1_F_deeds_of_tie ?x2_F_deeds_of_tie ?x3_F_deeds_of_tie; (case x1_F_deeds_of_tie => k_is); (case x2_F_deeds_of_tie => k_is); (case x3_F_deeds_of_tie => k_is)))
    (case F_row_broken => (refine' fun_mk (st := st_row_broken) ?x1_F_row_broken ?x2_F_row_broken ?x3_F_row_broken; (case x1_F_row_broken => k_is); (case x2_F_row_broken => k_is); (case x3_F_row_broken => k_is)))
    (case F_broken_by => (refine' fun_mk (st := st_broken_by) ?x1_F_broken_by ?x2_F_broken_by ?x3_F_broken_by; (case x1_F_broken_by => k_is); (case x2_F_broken_by => k_is); (case x3_F_broken_by => k_is)))
    (case F_Machine_init => (refine' fun_mk (st := st_Machine_init) ?x1_F_Machine_init ?x2_F_Machine_init ?x3_F_Machine_init; (case x1_F_Machine_init => k_is); (case x2_F_Machine_init => k_is); (case x3_F_Machine_init => k_is)))
    (case F_Machine_coming => (refine' fun_mk (st := st_Machine_coming) ?x1_F_Machine_coming ?x2_F_Machine_coming ?x3_F_Machine_coming; (case x1_F_Machine_coming => k_is); (case x2_F_Machine_coming => k_is); (case x3_F_Machine_coming => k_is)))
    (case F_Machine_seen => (refine' fun_mk (st := st_Machine_seen) ?x1_F_Machine_seen ?x2_F_Machine_seen ?x3_F_Machine_seen; (case x1_F_Machine_seen => k_is); (case x2_F_Machine_seen => k_is); (case x3_F_Machine_seen => k_is)))
    (case F_Machine_go_over => (refine' fun_mk (st := st_Machine_go_over) ?x1_F_Machine_go_over ?x2_F_Machine_go_over ?x3_F_Machine_go_over; (case x1_F_Machine_go_over => k_is); (case x2_F_Machine_go_over => k_is); (case x3_F_Machine_go_over => k_is)))
    (case F_Machine_goes_on => (refine' fun_mk (st := st_Machine_goes_on) ?x1_F_Machine_goes_on ?x2_F_Machine_goes_on ?x3_F_Machine_goes_on; (case x1_F_Machine_goes_on => k_is); (case x2_F_Machine_goes_on => k_is); (case x3_F_Machine_goes_on => k_is)))
    (case F_Machine_done => (refine' fun_mk (st := st_Machine_done) ?x1_F_Machine_done ?x2_F_Machine_done ?x3_F_Machine_done; (case x1_F_Machine_done => k_is); (case x2_F_Machine_done => k_is); (case x3_F_Machine_done => k_is)))
    (case F_run_watched => (refine' fun_mk (st := st_run_watched) ?x1_F_run_watched ?x2_F_run_watched ?x3_F_run_watched; (case x1_F_run_watched => k_is); (case x2_F_run_watched => k_is); (case x3_F_run_watched => k_is)))
    (case F_lines_of_step => (refine' fun_mk (st := st_lines_of_step) ?x1_F_lines_of_step ?x2_F_lines_of_step ?x3_F_lines_of_step; (case x1_F_lines_of_step => k_is); (case x2_F_lines_of_step => k_is); (case x3_F_lines_of_step => k_is)))
    (case F_lines_of => (refine' fun_mk (st := st_lines_of) ?x1_F_lines_of ?x2_F_lines_of ?x3_F_lines_of; (case x1_F_lines_of => k_is); (case x2_F_lines_of => k_is); (case x3_F_lines_of => k_is)))
    (case F_names_in => (refine' fun_mk (st := st_names_in) ?x1_F_names_in ?x2_F_names_in ?x3_F_names_in; (case x1_F_names_in => k_is); (case x2_F_names_in => k_is); (case x3_F_names_in => k_is)))
    (case F_names_of => (refine' fun_mk (st := st_names_of) ?x1_F_names_of ?x2_F_names_of ?x3_F_names_of; (case x1_F_names_of => k_is); (case x2_F_names_of => k_is); (case x3_F_names_of => k_is)))
    (case F_Marker_init => (refine' fun_mk (st := st_Marker_init) ?x1_F_Marker_init ?x2_F_Marker_init ?x3_F_Marker_init; (case x1_F_Marker_init => k_is); (case x2_F_Marker_init => k_is); (case x3_F_Marker_init => k_is)))
    (case F_Marker_next_line => (refine' fun_mk (st := st_Marker_next_line) ?x1_F_Marker_next_line ?x2_F_Marker_next_line ?x3_F_Marker_next_line; (case x1_F_Marker_next_line => k_is); (case x2_F_Marker_next_line => k_is); (case x3_F_Marker_next_line => k_is)))
    (case F_Marker_marked => (refine' fun_mk (st := st_Marker_marked) ?x1_F_Marker_marked ?x2_F_Marker_marked ?x3_F_Marker_marked; (case x1_F_Marker_marked => k_is); (case x2_F_Marker_marked => k_is); (case x3_F_Marker_marked => k_is)))
    (case F_Marker_marked_step => (refine' fun_mk (st := st_Marker_marked_step) ?x1_F_Marker_marked_step ?x2_F_Marker_marked_step ?x3_F_Marker_marked_step; (case x1_F_Marker_marked_step => k_is); (case x2_F_Marker_marked_step => k_is); (case x3_F_Marker_marked_step => k_is)))
    (case F_put_lend => (refine' fun_mk (st := st_put_lend) ?x1_F_put_lend ?x2_F_put_lend ?x3_F_put_lend; (case x1_F_put_lend => k_is); (case x2_F_put_lend => k_is); (case x3_F_put_lend => k_is)))
    (case F_put_if => (refine' fun_mk (st := st_put_if) ?x1_F_put_if ?x2_F_put_if ?x3_F_put_if; (case x1_F_put_if => k_is); (case x2_F_put_if => k_is); (case x3_F_put_if => k_is)))
    (case F_put_while => (refine' fun_mk (st := st_put_while) ?x1_F_put_while ?x2_F_put_while ?x3_F_put_while; (case x1_F_put_while => k_is); (case x2_F_put_while => k_is); (case x3_F_put_while => k_is)))
    (case F_put_steps => (refine' fun_mk (st := st_put_steps) ?x1_F_put_steps ?x2_F_put_steps ?x3_F_put_steps; (case x1_F_put_steps => k_is); (case x2_F_put_steps => k_is); (case x3_F_put_steps => k_is)))
    (case F_coded => (refine' fun_mk (st := st_coded) ?x1_F_coded ?x2_F_coded ?x3_F_coded; (case x1_F_coded => k_is); (case x2_F_coded => k_is); (case x3_F_coded => k_is)))
    (case F_code_of => (refine' fun_mk (st := st_code_of) ?x1_F_code_of ?x2_F_code_of ?x3_F_code_of; (case x1_F_code_of => k_is); (case x2_F_code_of => k_is); (case x3_F_code_of => k_is)))
    (case F_law_cell_at => (refine' fun_mk (st := st_law_cell_at) ?x1_F_law_cell_at ?x2_F_law_cell_at ?x3_F_law_cell_at; (case x1_F_law_cell_at => k_is); (case x2_F_law_cell_at => k_is); (case x3_F_law_cell_at => k_is)))
    (case F_law_mixed => (refine' fun_mk (st := st_law_mixed) ?x1_F_law_mixed ?x2_F_law_mixed ?x3_F_law_mixed; (case x1_F_law_mixed => k_is); (case x2_F_law_mixed => k_is); (case x3_F_law_mixed => k_is)))
    (case F_law_words => (refine' fun_mk (st := st_law_words) ?x1_F_law_words ?x2_F_law_words ?x3_F_law_words; (case x1_F_law_words => k_is); (case x2_F_law_words => k_is); (case x3_F_law_words => k_is)))
    (case F_law_step => (refine' fun_mk (st := st_law_step) ?x1_F_law_step ?x2_F_law_step ?x3_F_law_step; (case x1_F_law_step => k_is); (case x2_F_law_step => k_is); (case x3_F_law_step => k_is)))
    (case F_law_shut => (refine' fun_mk (st := st_law_shut) ?x1_F_law_shut ?x2_F_law_shut ?x3_F_law_shut; (case x1_F_law_shut => k_is); (case x2_F_law_shut => k_is); (case x3_F_law_shut => k_is)))
    (case F_law_program => (refine' fun_mk (st := st_law_program) ?x1_F_law_program ?x2_F_law_program ?x3_F_law_program; (case x1_F_law_program => k_is); (case x2_F_law_program => k_is); (case x3_F_law_program => k_is)))
    (case F_law_input => (refine' fun_mk (st := st_law_input) ?x1_F_law_input ?x2_F_law_input ?x3_F_law_input; (case x1_F_law_input => k_is); (case x2_F_law_input => k_is); (case x3_F_law_input => k_is)))
    (case F_law_rule => (refine' fun_mk (st := st_law_rule) ?x1_F_law_rule ?x2_F_law_rule ?x3_F_law_rule; (case x1_F_law_rule => k_is); (case x2_F_law_rule => k_is); (case x3_F_law_rule => k_is)))
    (case F_law_next => (refine' fun_mk (st := st_law_next) ?x1_F_law_next ?x2_F_law_next ?x3_F_law_next; (case x1_F_law_next => k_is); (case x2_F_law_next => k_is); (case x3_F_law_next => k_is)))
    (case F_law_row_of => (refine' fun_mk (st := st_law_row_of) ?x1_F_law_row_of ?x2_F_law_row_of ?x3_F_law_row_of; (case x1_F_law_row_of => k_is); (case x2_F_law_row_of => k_is); (case x3_F_law_row_of => k_is)))
    (case F_law_touched => (refine' fun_mk (st := st_law_touched) ?x1_F_law_touched ?x2_F_law_touched ?x3_F_law_touched; (case x1_F_law_touched => k_is); (case x2_F_law_touched => k_is); (case x3_F_law_touched => k_is)))
    (case F_law_due => (refine' fun_mk (st := st_law_due) ?x1_F_law_due ?x2_F_law_due ?x3_F_law_due; (case x1_F_law_due => k_is); (case x2_F_law_due => k_is); (case x3_F_law_due => k_is)))
    (case F_law_told => (refine' fun_mk (st := st_law_told) ?x1_F_law_told ?x2_F_law_told ?x3_F_law_told; (case x1_F_law_told => k_is); (case x2_F_law_told => k_is); (case x3_F_law_told => k_is)))
    (case F_law_whole => (refine' fun_mk (st := st_law_whole) ?x1_F_law_whole ?x2_F_law_whole ?x3_F_law_whole; (case x1_F_law_whole => k_is); (case x2_F_law_whole => k_is); (case x3_F_law_whole => k_is)))
    (case F_law_is_log => (refine' fun_mk (st := st_law_is_log) ?x1_F_law_is_log ?x2_F_law_is_log ?x3_F_law_is_log; (case x1_F_law_is_log => k_is); (case x2_F_law_is_log => k_is); (case x3_F_law_is_log => k_is)))
    (case F_law_as_due => (refine' fun_mk (st := st_law_as_due) ?x1_F_law_as_due ?x2_F_law_as_due ?x3_F_law_as_due; (case x1_F_law_as_due => k_is); (case x2_F_law_as_due => k_is); (case x3_F_law_as_due => k_is)))
    (case F_law_lines => (refine' fun_mk (st := st_law_lines) ?x1_F_law_lines ?x2_F_law_lines ?x3_F_law_lines; (case x1_F_law_lines => k_is); (case x2_F_law_lines => k_is); (case x3_F_law_lines => k_is)))
    (case F_law_deed => (refine' fun_mk (st := st_law_deed) ?x1_F_law_deed ?x2_F_law_deed ?x3_F_law_deed; (case x1_F_law_deed => k_is); (case x2_F_law_deed => k_is); (case x3_F_law_deed => k_is)))
    (case F_law_more => (refine' fun_mk (st := st_law_more) ?x1_F_law_more ?x2_F_law_more ?x3_F_law_more; (case x1_F_law_more => k_is); (case x2_F_law_more => k_is); (case x3_F_law_more => k_is)))
    (case F_law_plain => (refine' fun_mk (st := st_law_plain) ?x1_F_law_plain ?x2_F_law_plain ?x3_F_law_plain; (case x1_F_law_plain => k_is); (case x2_F_law_plain => k_is); (case x3_F_law_plain => k_is)))
    (case F_law_lent => (refine' fun_mk (st := st_law_lent) ?x1_F_law_lent ?x2_F_law_lent ?x3_F_law_lent; (case x1_F_law_lent => k_is); (case x2_F_law_lent => k_is); (case x3_F_law_lent => k_is)))
    (case F_law_go => (refine' fun_mk (st := st_law_go) ?x1_F_law_go ?x2_F_law_go ?x3_F_law_go; (case x1_F_law_go => k_is); (case x2_F_law_go => k_is); (case x3_F_law_go => k_is)))
    (case F_law_log => (refine' fun_mk (st := st_law_log) ?x1_F_law_log ?x2_F_law_log ?x3_F_law_log; (case x1_F_law_log => k_is); (case x2_F_law_log => k_is); (case x3_F_law_log => k_is)))
    (case F_law => (refine' fun_mk (st := st_law) ?x1_F_law ?x2_F_law ?x3_F_law; (case x1_F_law => k_is); (case x2_F_law => k_is); (case x3_F_law => k_is)))
    (case c_Watch => (refine' ⟨?x1_c_Watch, ?x2_c_Watch, ?x3_c_Watch, ?x4_c_Watch⟩; (case x1_c_Watch => k_is); (case x2_c_Watch => k_is); (case x3_c_Watch => k_is); (case x4_c_Watch => k_is)))
    (case n_Watch_name => k_is)
    (case n_Watch_rule => k_is)
    (case n_Watch_rooms => k_is)
    (case c_TieWatch => (refine' ⟨?x1_c_TieWatch, ?x2_c_TieWatch, ?x3_c_TieWatch, ?x4_c_TieWatch⟩; (case x1_c_TieWatch => k_is); (case x2_c_TieWatch => k_is); (case x3_c_TieWatch => k_is); (case x4_c_TieWatch => k_is)))
    (case n_TieWatch_name => k_is)
    (case n_TieWatch_rule => k_is)
    (case n_TieWatch_rooms => k_is)
    (case n_TieWatch_ties => k_is)
    (case c_Machine => (refine' ⟨?x1_c_Machine, ?x2_c_Machine, ?x3_c_Machine, ?x4_c_Machine⟩; (case x1_c_Machine => k_is); (case x2_c_Machine => k_is); (case x3_c_Machine => k_is); (case x4_c_Machine => k_is)))
    (case n_Machine_code => k_is)
    (case n_Machine_inputs => k_is)
    (case n_Machine_used => k_is)
    (case n_Machine_number => k_is)
    (case n_Machine_at => k_is)
    (case n_Machine_slots => k_is)
    (case n_Machine_many => k_is)
    (case n_Machine_ended => k_is)
    (case n_Machine_log => k_is)
    (case c_Marker => (refine' ⟨?x1_c_Marker, ?x2_c_Marker, ?x3_c_Marker, ?x4_c_Marker⟩; (case x1_c_Marker => k_is); (case x2_c_Marker => k_is); (case x3_c_Marker => k_is); (case x4_c_Marker => k_is)))
    (case n_Marker_slots => k_is)
    (case n_Marker_line => k_is)
    (case n_Marker_lent => k_is)
    (case z_len => k_is)
    (case z_range => k_is)
    (case z_enumerate => k_is)
    (case z_zip => k_is)
    (case z_list => k_is)
    (case z_tuple => k_is)
    (case z_set => k_is)
    (case z_sorted => k_is)
    (case z_int => k_is)
    (case z_str => k_is)
    (case z_bool => k_is)
    (case z_isinstance => k_is)
    (case r_Watch => (refine' ⟨?x1_r_Watch, ?x2_r_Watch⟩; (case x1_r_Watch => k_is); (case x2_r_Watch => k_is)))
    (case v_Watch_init => (refine' ⟨?x1_v_Watch_init, rfl⟩; (case x1_v_Watch_init => k_is)))
    (case xL_Breach => k_is)
    (case ox1 => k_is)
    (case ox2 => k_is)
    (case ox3 => k_is)
    (case ox4 => k_is)
    (case xt_Breach => k_is)
    (case xf_Breach => (refine' ⟨?x1_xf_Breach, ?x2_xf_Breach, ?x3_xf_Breach, ?x4_xf_Breach⟩; (case x1_xf_Breach => k_is); (case x2_xf_Breach => k_is); (case x3_xf_Breach => k_is); (case x4_xf_Breach => k_is)))
    (case xn_rule => k_is)
    (case xn_line => k_is)
    (case xn_handles => k_is)
    (case xn_row => k_is)
    (case xn_log => k_is)
    (case exc_Breach => (refine' ⟨?x1_exc_Breach, ?x2_exc_Breach, ?x3_exc_Breach, ?x4_exc_Breach, ?x5_exc_Breach, ?x6_exc_Breach, ?x7_exc_Breach, ?x8_exc_Breach⟩; (case x1_exc_Breach => k_is); (case x2_exc_Breach => k_is); (case x3_exc_Breach => k_is); (case x4_exc_Breach => k_is); (case x5_exc_Breach => k_is); (case x6_exc_Breach => k_is); (case x7_exc_Breach => k_is); (case x8_exc_Breach => k_is)))
    (case xm_Breach => kts_exm)
    (case xk_UseError => kit_is)
    (case xk_NoFit => kit_is)
    (case xk_TooGreat => kit_is)
#print axioms PySem.Challenge.cw_usewarden_k47_whole_watched_holds

