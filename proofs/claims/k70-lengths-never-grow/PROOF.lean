import PyProof.Rows.All
import Wide.All
import OpenK.AllK
import Wide.FinOn
import HandS.ForMost
import HandS.Flow
import HandS.Style
import HandS.IsInst
import HandS.MakeKwOnly
import HandS.Defaults
import HandS.Wide
import HandS.SortInts
import HandS.DictComp
import HandS.ListItems
import HandS.Conv
import HandS.Walk
import HandS.HeadHook2
import HandS.Head2
import HandS.HeadEnd
import PySem.Challenge.RW_ringlaps_k70_whole_lengths_never_grow
set_option Elab.async false
set_option linter.all false
set_option maxRecDepth 100000
set_option maxHeartbeats 4000000
namespace RL
open PySem L2
class One (G : Prop) (G1 : outParam Prop) : Prop where
  h : G1 → G
class OneS (G : Prop) (G1 : outParam Prop) : Prop where
  h : G1 → G
class ChS (G : Prop) (G1 : outParam Prop) : Prop where
  h : G1 → G
class GoS (G : Prop) (G1 : outParam Prop) : Prop where
  h : G1 → G
class Chn (G : Prop) (G1 : outParam Prop) : Prop where
  h : G1 → G
class Go (G : Prop) (G1 : outParam Prop) : Prop where
  h : G1 → G
instance (priority := 10) chn0 {G : Prop} : Chn G G := ⟨id⟩
instance (priority := 100) chn1 {G G1 G2 : Prop} [a : One G G1] [b : Chn G1 G2] : Chn G G2 := ⟨fun h => a.h (b.h h)⟩
instance (priority := 10) chs0 {G : Prop} : ChS G G := ⟨id⟩
instance (priority := 100) chs1 {G G1 G2 : Prop} [a : One G G1] [b : ChS G1 G2] : ChS G G2 := ⟨fun h => a.h (b.h h)⟩
instance (priority := 90) chs2 {G G1 G2 : Prop} [a : OneS G G1] [b : ChS G1 G2] : ChS G G2 := ⟨fun h => a.h (b.h h)⟩
instance (priority := 100) gos1 {G G1 G2 : Prop} [a : One G G1] [b : ChS G1 G2] : GoS G G2 := ⟨fun h => a.h (b.h h)⟩
instance (priority := 90) gos2 {G G1 G2 : Prop} [a : OneS G G1] [b : ChS G1 G2] : GoS G G2 := ⟨fun h => a.h (b.h h)⟩
instance go1 {G G1 G2 : Prop} [a : One G G1] [b : Chn G1 G2] : Go G G2 := ⟨fun h => a.h (b.h h)⟩
def SetK (σ : L2.St) (i : Nat) (v : V) (N : L2.St → Hp → Prop) (H : Hp) : Prop := N (σ.set i (some v)) H
def IfK (b : Bool) (A B : Prop) : Prop := if b = true then A else B
def BlK (x : V) (R : Bool → Prop) : Prop := ∃ k, x = .bl k ∧ R k
theorem ifT {A B : Prop} (h : A) : IfK true A B := by unfold IfK; rw [if_pos rfl]; exact h
instance o_ifT {A B : Prop} : One (IfK true A B) (A) := ⟨ifT⟩
theorem ifF {A B : Prop} (h : B) : IfK false A B := by unfold IfK; rw [if_neg Bool.false_ne_true]; exact h
instance o_ifF {A B : Prop} : One (IfK false A B) (B) := ⟨ifF⟩
theorem ifD {p : Prop} [Decidable p] {A B : Prop} (h1 : p → A) (h2 : ¬ p → B) : IfK (decide p) A B := by
  by_cases h : p
  · rw [decide_eq_true h]; exact ifT (h1 h)
  · rw [decide_eq_false h]; exact ifF (h2 h)
theorem ifN {p : Prop} [Decidable p] {A B : Prop} (h1 : ¬ p → A) (h2 : p → B) : IfK (!decide p) A B := by
  by_cases h : p
  · rw [decide_eq_true h]; exact ifF (h2 h)
  · rw [decide_eq_false h]; exact ifT (h1 h)
theorem ifB {b : Bool} {A B : Prop} (h1 : b = true → A) (h2 : b = false → B) : IfK b A B := by
  cases b with
  | true => exact ifT (h1 rfl)
  | false => exact ifF (h2 rfl)
theorem ifE {b c : Bool} {A B : Prop} (e : b = c) (h : IfK c A B) : IfK b A B := e ▸ h
theorem ifDT {p : Prop} [Decidable p] {A B : Prop} (hp : p) (h : A) : IfK (decide p) A B := ifD (fun _ => h) fun n => absurd hp n
theorem ifDF {p : Prop} [Decidable p] {A B : Prop} (hp : ¬ p) (h : B) : IfK (decide p) A B := ifD (fun n => absurd n hp) fun _ => h
theorem ifNT {p : Prop} [Decidable p] {A B : Prop} (hp : ¬ p) (h : A) : IfK (!decide p) A B := ifN (fun _ => h) fun n => absurd n hp
theorem ifNF {p : Prop} [Decidable p] {A B : Prop} (hp : p) (h : B) : IfK (!decide p) A B := ifN (fun n => absurd hp n) fun _ => h
theorem blk {k : Bool} {R : Bool → Prop} (h : R k) : BlK (.bl k) R := ⟨k, rfl, h⟩
instance o_blk {k : Bool} {R : Bool → Prop} : One (BlK (.bl k) R) (R k) := ⟨blk⟩
section
variable {a b c d e f g i j k l m n o p q : Option V} {r : List (Option V)} {N : L2.St → Hp → Prop} {H : Hp} {v : V}
theorem sk0 (h : N (some v :: r) H) : SetK (a :: r) 0 v N H := h
instance o_sk0 : One (SetK (a :: r) 0 v N H) (N (some v :: r) H) := ⟨sk0⟩
theorem sk1 (h : N (a :: some v :: r) H) : SetK (a :: b :: r) 1 v N H := h
instance o_sk1 : One (SetK (a :: b :: r) 1 v N H) (N (a :: some v :: r) H) := ⟨sk1⟩
theorem sk2 (h : N (a :: b :: some v :: r) H) : SetK (a :: b :: c :: r) 2 v N H := h
instance o_sk2 : One (SetK (a :: b :: c :: r) 2 v N H) (N (a :: b :: some v :: r) H) := ⟨sk2⟩
theorem sk3 (h : N (a :: b :: c :: some v :: r) H) : SetK (a :: b :: c :: d :: r) 3 v N H := h
instance o_sk3 : One (SetK (a :: b :: c :: d :: r) 3 v N H) (N (a :: b :: c :: some v :: r) H) := ⟨sk3⟩
theorem sk4 (h : N (a :: b :: c :: d :: some v :: r) H) : SetK (a :: b :: c :: d :: e :: r) 4 v N H := h
instance o_sk4 : One (SetK (a :: b :: c :: d :: e :: r) 4 v N H) (N (a :: b :: c :: d :: some v :: r) H) := ⟨sk4⟩
theorem sk5 (h : N (a :: b :: c :: d :: e :: some v :: r) H) : SetK (a :: b :: c :: d :: e :: f :: r) 5 v N H := h
instance o_sk5 : One (SetK (a :: b :: c :: d :: e :: f :: r) 5 v N H) (N (a :: b :: c :: d :: e :: some v :: r) H) := ⟨sk5⟩
theorem sk6 (h : N (a :: b :: c :: d :: e :: f :: some v :: r) H) : SetK (a :: b :: c :: d :: e :: f :: g :: r) 6 v N H := h
instance o_sk6 : One (SetK (a :: b :: c :: d :: e :: f :: g :: r) 6 v N H) (N (a :: b :: c :: d :: e :: f :: some v :: r) H) := ⟨sk6⟩
theorem sk7 (h : N (a :: b :: c :: d :: e :: f :: g :: some v :: r) H) : SetK (a :: b :: c :: d :: e :: f :: g :: i :: r) 7 v N H := h
instance o_sk7 : One (SetK (a :: b :: c :: d :: e :: f :: g :: i :: r) 7 v N H) (N (a :: b :: c :: d :: e :: f :: g :: some v :: r) H) := ⟨sk7⟩
theorem sk8 (h : N (a :: b :: c :: d :: e :: f :: g :: i :: some v :: r) H) : SetK (a :: b :: c :: d :: e :: f :: g :: i :: j :: r) 8 v N H := h
instance o_sk8 : One (SetK (a :: b :: c :: d :: e :: f :: g :: i :: j :: r) 8 v N H) (N (a :: b :: c :: d :: e :: f :: g :: i :: some v :: r) H) := ⟨sk8⟩
theorem sk9 (h : N (a :: b :: c :: d :: e :: f :: g :: i :: j :: some v :: r) H) : SetK (a :: b :: c :: d :: e :: f :: g :: i :: j :: k :: r) 9 v N H := h
instance o_sk9 : One (SetK (a :: b :: c :: d :: e :: f :: g :: i :: j :: k :: r) 9 v N H) (N (a :: b :: c :: d :: e :: f :: g :: i :: j :: some v :: r) H) := ⟨sk9⟩
theorem sk10 (h : N (a :: b :: c :: d :: e :: f :: g :: i :: j :: k :: some v :: r) H) : SetK (a :: b :: c :: d :: e :: f :: g :: i :: j :: k :: l :: r) 10 v N H := h
instance o_sk10 : One (SetK (a :: b :: c :: d :: e :: f :: g :: i :: j :: k :: l :: r) 10 v N H) (N (a :: b :: c :: d :: e :: f :: g :: i :: j :: k :: some v :: r) H) := ⟨sk10⟩
theorem sk11 (h : N (a :: b :: c :: d :: e :: f :: g :: i :: j :: k :: l :: some v :: r) H) : SetK (a :: b :: c :: d :: e :: f :: g :: i :: j :: k :: l :: m :: r) 11 v N H := h
instance o_sk11 : One (SetK (a :: b :: c :: d :: e :: f :: g :: i :: j :: k :: l :: m :: r) 11 v N H) (N (a :: b :: c :: d :: e :: f :: g :: i :: j :: k :: l :: some v :: r) H) := ⟨sk11⟩
theorem sk12 (h : N (a :: b :: c :: d :: e :: f :: g :: i :: j :: k :: l :: m :: some v :: r) H) : SetK (a :: b :: c :: d :: e :: f :: g :: i :: j :: k :: l :: m :: n :: r) 12 v N H := h
instance o_sk12 : One (SetK (a :: b :: c :: d :: e :: f :: g :: i :: j :: k :: l :: m :: n :: r) 12 v N H) (N (a :: b :: c :: d :: e :: f :: g :: i :: j :: k :: l :: m :: some v :: r) H) := ⟨sk12⟩
theorem sk13 (h : N (a :: b :: c :: d :: e :: f :: g :: i :: j :: k :: l :: m :: n :: some v :: r) H) : SetK (a :: b :: c :: d :: e :: f :: g :: i :: j :: k :: l :: m :: n :: o :: r) 13 v N H := h
instance o_sk13 : One (SetK (a :: b :: c :: d :: e :: f :: g :: i :: j :: k :: l :: m :: n :: o :: r) 13 v N H) (N (a :: b :: c :: d :: e :: f :: g :: i :: j :: k :: l :: m :: n :: some v :: r) H) := ⟨sk13⟩
theorem sk14 (h : N (a :: b :: c :: d :: e :: f :: g :: i :: j :: k :: l :: m :: n :: o :: some v :: r) H) : SetK (a :: b :: c :: d :: e :: f :: g :: i :: j :: k :: l :: m :: n :: o :: p :: r) 14 v N H := h
instance o_sk14 : One (SetK (a :: b :: c :: d :: e :: f :: g :: i :: j :: k :: l :: m :: n :: o :: p :: r) 14 v N H) (N (a :: b :: c :: d :: e :: f :: g :: i :: j :: k :: l :: m :: n :: o :: some v :: r) H) := ⟨sk14⟩
theorem sk15 (h : N (a :: b :: c :: d :: e :: f :: g :: i :: j :: k :: l :: m :: n :: o :: p :: some v :: r) H) : SetK (a :: b :: c :: d :: e :: f :: g :: i :: j :: k :: l :: m :: n :: o :: p :: q :: r) 15 v N H := h
instance o_sk15 : One (SetK (a :: b :: c :: d :: e :: f :: g :: i :: j :: k :: l :: m :: n :: o :: p :: q :: r) 15 v N H) (N (a :: b :: c :: d :: e :: f :: g :: i :: j :: k :: l :: m :: n :: o :: p :: some v :: r) H) := ⟨sk15⟩
variable {Q : VK}
theorem xv0 (h : Q v H) : tVar 0 (some v :: r) H Q := ⟨v, rfl, h⟩
instance o_xv0 : One (tVar 0 (some v :: r) H Q) (Q v H) := ⟨xv0⟩
theorem xv1 (h : Q v H) : tVar 1 (a :: some v :: r) H Q := ⟨v, rfl, h⟩
instance o_xv1 : One (tVar 1 (a :: some v :: r) H Q) (Q v H) := ⟨xv1⟩
theorem xv2 (h : Q v H) : tVar 2 (a :: b :: some v :: r) H Q := ⟨v, rfl, h⟩
instance o_xv2 : One (tVar 2 (a :: b :: some v :: r) H Q) (Q v H) := ⟨xv2⟩
theorem xv3 (h : Q v H) : tVar 3 (a :: b :: c :: some v :: r) H Q := ⟨v, rfl, h⟩
instance o_xv3 : One (tVar 3 (a :: b :: c :: some v :: r) H Q) (Q v H) := ⟨xv3⟩
theorem xv4 (h : Q v H) : tVar 4 (a :: b :: c :: d :: some v :: r) H Q := ⟨v, rfl, h⟩
instance o_xv4 : One (tVar 4 (a :: b :: c :: d :: some v :: r) H Q) (Q v H) := ⟨xv4⟩
theorem xv5 (h : Q v H) : tVar 5 (a :: b :: c :: d :: e :: some v :: r) H Q := ⟨v, rfl, h⟩
instance o_xv5 : One (tVar 5 (a :: b :: c :: d :: e :: some v :: r) H Q) (Q v H) := ⟨xv5⟩
theorem xv6 (h : Q v H) : tVar 6 (a :: b :: c :: d :: e :: f :: some v :: r) H Q := ⟨v, rfl, h⟩
instance o_xv6 : One (tVar 6 (a :: b :: c :: d :: e :: f :: some v :: r) H Q) (Q v H) := ⟨xv6⟩
theorem xv7 (h : Q v H) : tVar 7 (a :: b :: c :: d :: e :: f :: g :: some v :: r) H Q := ⟨v, rfl, h⟩
instance o_xv7 : One (tVar 7 (a :: b :: c :: d :: e :: f :: g :: some v :: r) H Q) (Q v H) := ⟨xv7⟩
theorem xv8 (h : Q v H) : tVar 8 (a :: b :: c :: d :: e :: f :: g :: i :: some v :: r) H Q := ⟨v, rfl, h⟩
instance o_xv8 : One (tVar 8 (a :: b :: c :: d :: e :: f :: g :: i :: some v :: r) H Q) (Q v H) := ⟨xv8⟩
theorem xv9 (h : Q v H) : tVar 9 (a :: b :: c :: d :: e :: f :: g :: i :: j :: some v :: r) H Q := ⟨v, rfl, h⟩
instance o_xv9 : One (tVar 9 (a :: b :: c :: d :: e :: f :: g :: i :: j :: some v :: r) H Q) (Q v H) := ⟨xv9⟩
theorem xv10 (h : Q v H) : tVar 10 (a :: b :: c :: d :: e :: f :: g :: i :: j :: k :: some v :: r) H Q := ⟨v, rfl, h⟩
instance o_xv10 : One (tVar 10 (a :: b :: c :: d :: e :: f :: g :: i :: j :: k :: some v :: r) H Q) (Q v H) := ⟨xv10⟩
theorem xv11 (h : Q v H) : tVar 11 (a :: b :: c :: d :: e :: f :: g :: i :: j :: k :: l :: some v :: r) H Q := ⟨v, rfl, h⟩
instance o_xv11 : One (tVar 11 (a :: b :: c :: d :: e :: f :: g :: i :: j :: k :: l :: some v :: r) H Q) (Q v H) := ⟨xv11⟩
theorem xv12 (h : Q v H) : tVar 12 (a :: b :: c :: d :: e :: f :: g :: i :: j :: k :: l :: m :: some v :: r) H Q := ⟨v, rfl, h⟩
instance o_xv12 : One (tVar 12 (a :: b :: c :: d :: e :: f :: g :: i :: j :: k :: l :: m :: some v :: r) H Q) (Q v H) := ⟨xv12⟩
theorem xv13 (h : Q v H) : tVar 13 (a :: b :: c :: d :: e :: f :: g :: i :: j :: k :: l :: m :: n :: some v :: r) H Q := ⟨v, rfl, h⟩
instance o_xv13 : One (tVar 13 (a :: b :: c :: d :: e :: f :: g :: i :: j :: k :: l :: m :: n :: some v :: r) H Q) (Q v H) := ⟨xv13⟩
theorem xv14 (h : Q v H) : tVar 14 (a :: b :: c :: d :: e :: f :: g :: i :: j :: k :: l :: m :: n :: o :: some v :: r) H Q := ⟨v, rfl, h⟩
instance o_xv14 : One (tVar 14 (a :: b :: c :: d :: e :: f :: g :: i :: j :: k :: l :: m :: n :: o :: some v :: r) H Q) (Q v H) := ⟨xv14⟩
theorem xv15 (h : Q v H) : tVar 15 (a :: b :: c :: d :: e :: f :: g :: i :: j :: k :: l :: m :: n :: o :: p :: some v :: r) H Q := ⟨v, rfl, h⟩
instance o_xv15 : One (tVar 15 (a :: b :: c :: d :: e :: f :: g :: i :: j :: k :: l :: m :: n :: o :: p :: some v :: r) H Q) (Q v H) := ⟨xv15⟩
end
section
variable {K : PySem.W.Frag} {σ : L2.St} {H : Hp} {te ta tb tl : TE} {t u tw tz tu : TS} {c : TT} {nx bk ct : L2.St → Hp → Prop} {rt : VK} {i : Nat} {g : TG} {wi : TI}
def LoopK (J : It) (g : TG) (tb : TS) (D : Ends) (σ : L2.St) (H : Hp) : Prop := ∃ W : Nat → Nat → L2.St → Hp → Prop, (∃ m, W 0 m σ H) ∧ ∀ i m σ H, W i m σ H →
  (J.stop i H ∧ D.nx σ H) ∨ (J.go i H ∧ ∃ N : L2.St → Hp → Prop, (∀ σ' H', N σ' H' → ∃ m', m' < m ∧ W (i + 1) m' σ' H') ∧ ∀ x H', J.yld i H x H' → g x σ H' fun σ2 H2 => tb { D with nx := N, ct := N, bk := D.nx } σ2 H2)
theorem q_asg (h : te σ H fun x H1 => SetK σ i x (tz ⟨nx, rt, bk, ct⟩) H1) : tSeq (tAsg te (gName i)) tz ⟨nx, rt, bk, ct⟩ σ H := h
instance o_q_asg : OneS (tSeq (tAsg te (gName i)) tz ⟨nx, rt, bk, ct⟩ σ H) (te σ H fun x H1 => SetK σ i x (tz ⟨nx, rt, bk, ct⟩) H1) := ⟨q_asg⟩
theorem s_asg (h : te σ H fun x H1 => SetK σ i x nx H1) : tAsg te (gName i) ⟨nx, rt, bk, ct⟩ σ H := h
instance o_s_asg : OneS (tAsg te (gName i) ⟨nx, rt, bk, ct⟩ σ H) (te σ H fun x H1 => SetK σ i x nx H1) := ⟨s_asg⟩
theorem q_asgG (h : te σ H fun x H1 => g x σ H1 (tz ⟨nx, rt, bk, ct⟩)) : tSeq (tAsg te g) tz ⟨nx, rt, bk, ct⟩ σ H := h
instance o_q_asgG : OneS (tSeq (tAsg te g) tz ⟨nx, rt, bk, ct⟩ σ H) (te σ H fun x H1 => g x σ H1 (tz ⟨nx, rt, bk, ct⟩)) := ⟨q_asgG⟩
theorem s_asgG (h : te σ H fun x H1 => g x σ H1 nx) : tAsg te g ⟨nx, rt, bk, ct⟩ σ H := h
instance o_s_asgG : OneS (tAsg te g ⟨nx, rt, bk, ct⟩ σ H) (te σ H fun x H1 => g x σ H1 nx) := ⟨s_asgG⟩
theorem q_drop (h : te σ H fun _ H1 => tz ⟨nx, rt, bk, ct⟩ σ H1) : tSeq (tDrop te) tz ⟨nx, rt, bk, ct⟩ σ H := h
instance o_q_drop : OneS (tSeq (tDrop te) tz ⟨nx, rt, bk, ct⟩ σ H) (te σ H fun _ H1 => tz ⟨nx, rt, bk, ct⟩ σ H1) := ⟨q_drop⟩
theorem s_drop (h : te σ H fun _ H1 => nx σ H1) : tDrop te ⟨nx, rt, bk, ct⟩ σ H := h
instance o_s_drop : OneS (tDrop te ⟨nx, rt, bk, ct⟩ σ H) (te σ H fun _ H1 => nx σ H1) := ⟨s_drop⟩
theorem s_ret (h : te σ H rt) : tRet te ⟨nx, rt, bk, ct⟩ σ H := h
instance o_s_ret : OneS (tRet te ⟨nx, rt, bk, ct⟩ σ H) (te σ H rt) := ⟨s_ret⟩
theorem s_retN (h : rt .non H) : tRetN ⟨nx, rt, bk, ct⟩ σ H := h
instance o_s_retN : OneS (tRetN ⟨nx, rt, bk, ct⟩ σ H) (rt .non H) := ⟨s_retN⟩
theorem q_if (h : c σ H fun b H1 => IfK b (t ⟨tz ⟨nx, rt, bk, ct⟩, rt, bk, ct⟩ σ H1) (u ⟨tz ⟨nx, rt, bk, ct⟩, rt, bk, ct⟩ σ H1)) : tSeq (tIfS c t u) tz ⟨nx, rt, bk, ct⟩ σ H := h
instance o_q_if : OneS (tSeq (tIfS c t u) tz ⟨nx, rt, bk, ct⟩ σ H) (c σ H fun b H1 => IfK b (t ⟨tz ⟨nx, rt, bk, ct⟩, rt, bk, ct⟩ σ H1) (u ⟨tz ⟨nx, rt, bk, ct⟩, rt, bk, ct⟩ σ H1)) := ⟨q_if⟩
theorem s_if (h : c σ H fun b H1 => IfK b (t ⟨nx, rt, bk, ct⟩ σ H1) (u ⟨nx, rt, bk, ct⟩ σ H1)) : tIfS c t u ⟨nx, rt, bk, ct⟩ σ H := h
instance o_s_if : OneS (tIfS c t u ⟨nx, rt, bk, ct⟩ σ H) (c σ H fun b H1 => IfK b (t ⟨nx, rt, bk, ct⟩ σ H1) (u ⟨nx, rt, bk, ct⟩ σ H1)) := ⟨s_if⟩
theorem s_next (h : nx σ H) : tNext ⟨nx, rt, bk, ct⟩ σ H := h
instance o_s_next : One (tNext ⟨nx, rt, bk, ct⟩ σ H) (nx σ H) := ⟨s_next⟩
theorem s_brk (h : bk σ H) : tBreak ⟨nx, rt, bk, ct⟩ σ H := h
instance o_s_brk : OneS (tBreak ⟨nx, rt, bk, ct⟩ σ H) (bk σ H) := ⟨s_brk⟩
theorem s_cont (h : ct σ H) : tCont ⟨nx, rt, bk, ct⟩ σ H := h
instance o_s_cont : OneS (tCont ⟨nx, rt, bk, ct⟩ σ H) (ct σ H) := ⟨s_cont⟩
theorem q_seq (h : tSeq t (fun D => tSeq u tz D) ⟨nx, rt, bk, ct⟩ σ H) : tSeq (tSeq t u) tz ⟨nx, rt, bk, ct⟩ σ H := h
instance o_q_seq : OneS (tSeq (tSeq t u) tz ⟨nx, rt, bk, ct⟩ σ H) (tSeq t (fun D => tSeq u tz D) ⟨nx, rt, bk, ct⟩ σ H) := ⟨q_seq⟩
theorem q_for (h : wi σ H fun J H1 => LoopK J g tu ⟨tz ⟨nx, rt, bk, ct⟩, rt, bk, ct⟩ σ H1) : tSeq (tFor wi g tu) tz ⟨nx, rt, bk, ct⟩ σ H := h
instance o_q_for : OneS (tSeq (tFor wi g tu) tz ⟨nx, rt, bk, ct⟩ σ H) (wi σ H fun J H1 => LoopK J g tu ⟨tz ⟨nx, rt, bk, ct⟩, rt, bk, ct⟩ σ H1) := ⟨q_for⟩
theorem s_for (h : wi σ H fun J H1 => LoopK J g tu ⟨nx, rt, bk, ct⟩ σ H1) : tFor wi g tu ⟨nx, rt, bk, ct⟩ σ H := h
instance o_s_for : OneS (tFor wi g tu ⟨nx, rt, bk, ct⟩ σ H) (wi σ H fun J H1 => LoopK J g tu ⟨nx, rt, bk, ct⟩ σ H1) := ⟨s_for⟩
theorem r_ip {f : Int → Int → Int} {a b : Int} {Q : VK} (h : Q (.int (f a b)) H) : ipI f (.int a) (.int b) H Q := ⟨a, b, rfl, rfl, h⟩
instance o_r_ip {f : Int → Int → Int} {a b : Int} {Q : VK} : One (ipI f (.int a) (.int b) H Q) (Q (.int (f a b)) H) := ⟨r_ip⟩
theorem q_cut (M : L2.St → Hp → Prop) (h : ∀ N : L2.St → Hp → Prop, (∀ σ' H', M σ' H' → N σ' H') → t ⟨N, rt, bk, ct⟩ σ H) (k : ∀ σ' H', M σ' H' → tz ⟨nx, rt, bk, ct⟩ σ' H') : tSeq t tz ⟨nx, rt, bk, ct⟩ σ H := h _ k
theorem q_asgM (M : V → Hp → Prop) (h : ∀ R : VK, (∀ v H1, M v H1 → R v H1) → te σ H R) (k : ∀ v H1, M v H1 → SetK σ i v (tz ⟨nx, rt, bk, ct⟩) H1) : tSeq (tAsg te (gName i)) tz ⟨nx, rt, bk, ct⟩ σ H := h _ k
def ItLK (K : PySem.W.Frag) (x : V) (R : It → Hp → Prop) (H : Hp) : Prop := ∃ a, x = .ref a ∧ (∃ xs, SqL K H a xs) ∧ R (Itl K a) H
def ItTK (K : PySem.W.Frag) (x : V) (R : It → Hp → Prop) (H : Hp) : Prop := ∃ a, x = .ref a ∧ (∃ xs, SqT K H a xs) ∧ R (Itt K a) H
theorem x_iList {R : It → Hp → Prop} (h : tl σ H fun x H1 => ItLK K x R H1) : iList K tl σ H R := h
instance o_x_iList {R : It → Hp → Prop} : One (iList K tl σ H R) (tl σ H fun x H1 => ItLK K x R H1) := ⟨x_iList⟩
theorem x_iTup {R : It → Hp → Prop} (h : tl σ H fun x H1 => ItTK K x R H1) : iTup K tl σ H R := h
instance o_x_iTup {R : It → Hp → Prop} : One (iTup K tl σ H R) (tl σ H fun x H1 => ItTK K x R H1) := ⟨x_iTup⟩
theorem x_iRng1 {ta : TA} {R : It → Hp → Prop} (h : ta σ H fun vs H1 => ∃ j : Int, vs = [.int j] ∧ -(2 ^ 62) ≤ j ∧ j < 2 ^ 62 ∧ R (Itr 0 j.toNat) H1) : iRng1 ta σ H R := h
instance o_x_iRng1 {ta : TA} {R : It → Hp → Prop} : One (iRng1 ta σ H R) (ta σ H fun vs H1 => ∃ j : Int, vs = [.int j] ∧ -(2 ^ 62) ≤ j ∧ j < 2 ^ 62 ∧ R (Itr 0 j.toNat) H1) := ⟨x_iRng1⟩
theorem x_iRng2 {ta : TA} {R : It → Hp → Prop} (h : ta σ H fun vs H1 => ∃ i j : Int, vs = [.int i, .int j] ∧ (-(2 ^ 62) ≤ i ∧ i < 2 ^ 62 ∧ -(2 ^ 62) ≤ j ∧ j < 2 ^ 62) ∧ R (Itr i (j - i).toNat) H1) : iRng2 ta σ H R := h
instance o_x_iRng2 {ta : TA} {R : It → Hp → Prop} : One (iRng2 ta σ H R) (ta σ H fun vs H1 => ∃ i j : Int, vs = [.int i, .int j] ∧ (-(2 ^ 62) ≤ i ∧ i < 2 ^ 62 ∧ -(2 ^ 62) ≤ j ∧ j < 2 ^ 62) ∧ R (Itr i (j - i).toNat) H1) := ⟨x_iRng2⟩
theorem loopL {a : Addr} {j : Nat} (xs : List V) (Pv : Nat → L2.St → Hp → Prop) (h0 : Pv 0 σ H) (hl : ∀ i σ H, i ≤ xs.length → Pv i σ H → SqL K H a xs)
    (hs : ∀ i x σ H, xs[i]? = some x → Pv i σ H → SetK σ j x (tu ⟨Pv (i + 1), rt, nx, Pv (i + 1)⟩) H) (hd : ∀ σ H, Pv xs.length σ H → nx σ H) : LoopK (Itl K a) (gName j) tu ⟨nx, rt, bk, ct⟩ σ H :=
  for_list (K := K) (a := a) (xs := xs) (g := gName j) (tb := tu) (D := ⟨nx, rt, bk, ct⟩) Pv h0 hl (fun i x σ H hi hp => hs i x σ H hi hp) hd
theorem loopT {a : Addr} {j : Nat} (xs : List V) (Pv : Nat → L2.St → Hp → Prop) (h0 : Pv 0 σ H) (hl : ∀ i σ H, i ≤ xs.length → Pv i σ H → SqT K H a xs)
    (hs : ∀ i x σ H, xs[i]? = some x → Pv i σ H → SetK σ j x (tu ⟨Pv (i + 1), rt, nx, Pv (i + 1)⟩) H) (hd : ∀ σ H, Pv xs.length σ H → nx σ H) : LoopK (Itt K a) (gName j) tu ⟨nx, rt, bk, ct⟩ σ H :=
  for_tup (K := K) (a := a) (xs := xs) (g := gName j) (tb := tu) (D := ⟨nx, rt, bk, ct⟩) Pv h0 hl (fun i x σ H hi hp => hs i x σ H hi hp) hd
theorem loopR {lo : Int} {n j : Nat} (Pv : Nat → L2.St → Hp → Prop) (h0 : Pv 0 σ H) (hs : ∀ i σ H, i < n → Pv i σ H → SetK σ j (.int (lo + i)) (tu ⟨Pv (i + 1), rt, nx, Pv (i + 1)⟩) H)
    (hd : ∀ σ H, Pv n σ H → nx σ H) : LoopK (Itr lo n) (gName j) tu ⟨nx, rt, bk, ct⟩ σ H :=
  for_range (lo := lo) (n := n) (g := gName j) (tb := tu) (D := ⟨nx, rt, bk, ct⟩) Pv h0 (fun i σ H hi hp => hs i σ H hi hp) hd
theorem q_while (W : Nat → L2.St → Hp → Prop) (m0 : Nat) (h0 : W m0 σ H)
    (hs : ∀ m σ H, W m σ H → ∀ (N : L2.St → Hp → Prop) (R : Bool → Hp → Prop), (∀ m' σ' H', m' < m → W m' σ' H' → N σ' H') → (∀ H1, tu ⟨N, rt, tz ⟨nx, rt, bk, ct⟩, N⟩ σ H1 → R true H1) → (∀ H1, tz ⟨nx, rt, bk, ct⟩ σ H1 → R false H1) → c σ H R) :
    tSeq (tWhile c tu) tz ⟨nx, rt, bk, ct⟩ σ H := by
  refine ⟨W, ⟨m0, h0⟩, fun m σ' H' hw => ?_⟩
  refine hs m σ' H' hw (fun σ2 H2 => ∃ m', m' < m ∧ W m' σ2 H2) _ (fun m' σ2 H2 a b => ⟨m', a, b⟩) (fun H1 q => ?_) (fun H1 q => ?_)
  · show (if true = true then _ else _)
    rw [if_pos rfl]
    exact ⟨_, fun _ _ z => z, q⟩
  · show (if false = true then _ else _)
    rw [if_neg Bool.false_ne_true]
    exact q
end
theorem cxK {CX : CXT} {P : Program} {w : World} {K : PySem.W.Frag} {mg : Str → Option Value} {base : Heap} {N : List Str} {qual : Str} {scope : Scope} {f : Addr} {cd : Value} {A : Around} {outer : List Env} {s : Shared} {H : Hp} {E : XK} :
    (cxOf CX P w K mg base N qual scope f cd A outer s H E).nox.K = K := rfl
theorem cxKX {CX : CXT} {P : Program} {w : World} {K : PySem.W.Frag} {mg : Str → Option Value} {base : Heap} {N : List Str} {qual : Str} {scope : Scope} {f : Addr} {cd : Value} {A : Around} {outer : List Env} {s : Shared} {H : Hp} {E : XK} :
    (cxOf CX P w K mg base N qual scope f cd A outer s H E).K = K := rfl
theorem ent {t : TS} {D : Ends} {σ σ' : L2.St} {H : Hp} (e : σ = σ') (h : t D σ' H) : t D σ H := e ▸ h
section
variable {K : PySem.W.Frag} {σ : L2.St} {H : Hp} {te ta tb tc : TE} {t u : TT} {Q : VK} {R : Bool → Hp → Prop} {x y v : V} {a b : Int}
theorem x_c (h : Q v H) : tC v σ H Q := h
instance o_x_c : One (tC v σ H Q) (Q v H) := ⟨x_c⟩
theorem x_op {r : R2} (h : ta σ H fun x H1 => tb σ H1 fun y H2 => r x y H2 Q) : tOp r ta tb σ H Q := h
instance o_x_op {r : R2} : One (tOp r ta tb σ H Q) (ta σ H fun x H1 => tb σ H1 fun y H2 => r x y H2 Q) := ⟨x_op⟩
theorem x_un {r : V → Hp → VK → Prop} (h : ta σ H fun x H1 => r x H1 Q) : tUn r ta σ H Q := h
instance o_x_un {r : V → Hp → VK → Prop} : One (tUn r ta σ H Q) (ta σ H fun x H1 => r x H1 Q) := ⟨x_un⟩
theorem r_u {g : Int → V} (h : Q (g a) H) : rU g (.int a) H Q := ⟨a, rfl, h⟩
instance o_r_u {g : Int → V} : One (rU g (.int a) H Q) (Q (g a) H) := ⟨r_u⟩
theorem r_i0 {g : Int → Int → V} (h : Q (g a b) H) : rI0 g (.int a) (.int b) H Q := ⟨a, b, rfl, rfl, h⟩
instance o_r_i0 {g : Int → Int → V} : One (rI0 g (.int a) (.int b) H Q) (Q (g a b) H) := ⟨r_i0⟩
theorem r_i {C : Int → Int → Prop} {g : Int → Int → V} (hc : C a b) (h : Q (g a b) H) : rI C g (.int a) (.int b) H Q := ⟨a, b, rfl, rfl, hc, h⟩
theorem r_eqI (h : Q (.bl (decide (a = b))) H) : rEq (.int a) (.int b) H Q := ⟨rfl, by rw [show decide (V.int a = V.int b) = decide (a = b) by rw [dec_int]; rfl]; exact h⟩
instance o_r_eqI : One (rEq (.int a) (.int b) H Q) (Q (.bl (decide (a = b))) H) := ⟨r_eqI⟩
theorem r_neI (h : Q (.bl (!decide (a = b))) H) : rNe (.int a) (.int b) H Q := ⟨rfl, by rw [show decide (V.int a = V.int b) = decide (a = b) by rw [dec_int]; rfl]; exact h⟩
instance o_r_neI : One (rNe (.int a) (.int b) H Q) (Q (.bl (!decide (a = b))) H) := ⟨r_neI⟩
theorem r_eqS {a b : Str} (h : Q (.bl (decide (a = b))) H) : rEq (.str a) (.str b) H Q := ⟨rfl, by rw [show decide (V.str a = V.str b) = decide (a = b) by rw [Bool.eq_iff_iff]; simp]; exact h⟩
instance o_r_eqS {a b : Str} : One (rEq (.str a) (.str b) H Q) (Q (.bl (decide (a = b))) H) := ⟨r_eqS⟩
theorem r_neS {a b : Str} (h : Q (.bl (!decide (a = b))) H) : rNe (.str a) (.str b) H Q := ⟨rfl, by rw [show decide (V.str a = V.str b) = decide (a = b) by rw [Bool.eq_iff_iff]; simp]; exact h⟩
instance o_r_neS {a b : Str} : One (rNe (.str a) (.str b) H Q) (Q (.bl (!decide (a = b))) H) := ⟨r_neS⟩
theorem x_test (h : ta σ H fun x H1 => BlK x fun k => R k H1) : tTest ta σ H R := h
instance o_x_test : One (tTest ta σ H R) (ta σ H fun x H1 => BlK x fun k => R k H1) := ⟨x_test⟩
theorem x_tB (h : ta σ H fun x H1 => BlK x fun k => R k H1) : tB ta σ H R := h
instance o_x_tB : One (tB ta σ H R) (ta σ H fun x H1 => BlK x fun k => R k H1) := ⟨x_tB⟩
theorem x_and (h : t σ H fun c H1 => IfK c (u σ H1 R) (R false H1)) : tAnd t u σ H R := h
instance o_x_and : One (tAnd t u σ H R) (t σ H fun c H1 => IfK c (u σ H1 R) (R false H1)) := ⟨x_and⟩
theorem x_or (h : t σ H fun c H1 => IfK c (R true H1) (u σ H1 R)) : tOr t u σ H R := h
instance o_x_or : One (tOr t u σ H R) (t σ H fun c H1 => IfK c (R true H1) (u σ H1 R)) := ⟨x_or⟩
theorem x_not (h : t σ H fun c H1 => R (!c) H1) : tNot t σ H R := h
instance o_x_not : One (tNot t σ H R) (t σ H fun c H1 => R (!c) H1) := ⟨x_not⟩
theorem x_andV (h : ta σ H fun x H1 => BlK x fun c => IfK c (tb σ H1 Q) (Q (.bl false) H1)) : tAndV ta tb σ H Q := h
instance o_x_andV : One (tAndV ta tb σ H Q) (ta σ H fun x H1 => BlK x fun c => IfK c (tb σ H1 Q) (Q (.bl false) H1)) := ⟨x_andV⟩
theorem x_orV (h : ta σ H fun x H1 => BlK x fun c => IfK c (Q (.bl true) H1) (tb σ H1 Q)) : tOrV ta tb σ H Q := h
instance o_x_orV : One (tOrV ta tb σ H Q) (ta σ H fun x H1 => BlK x fun c => IfK c (Q (.bl true) H1) (tb σ H1 Q)) := ⟨x_orV⟩
theorem x_notV (h : ta σ H fun x H1 => BlK x fun c => Q (.bl (!c)) H1) : tNotV ta σ H Q := h
instance o_x_notV : One (tNotV ta σ H Q) (ta σ H fun x H1 => BlK x fun c => Q (.bl (!c)) H1) := ⟨x_notV⟩
theorem x_ifE (h : t σ H fun c H1 => IfK c (ta σ H1 Q) (tb σ H1 Q)) : tIf t ta tb σ H Q := h
instance o_x_ifE : One (tIf t ta tb σ H Q) (t σ H fun c H1 => IfK c (ta σ H1 Q) (tb σ H1 Q)) := ⟨x_ifE⟩
theorem x_isN (h : ta σ H fun x H1 => Q (.bl (decide (x = .non))) H1) : tIsN ta σ H Q := h
instance o_x_isN : One (tIsN ta σ H Q) (ta σ H fun x H1 => Q (.bl (decide (x = .non))) H1) := ⟨x_isN⟩
theorem x_notN (h : ta σ H fun x H1 => Q (.bl (!decide (x = .non))) H1) : tNotN ta σ H Q := h
instance o_x_notN : One (tNotN ta σ H Q) (ta σ H fun x H1 => Q (.bl (!decide (x = .non))) H1) := ⟨x_notN⟩
def ChK (z : V) (A B : Prop) : Prop := ∃ k, z = .bl k ∧ (if k = true then A else B)
theorem chk {k : Bool} {A B : Prop} (h : IfK k A B) : ChK (.bl k) A B := ⟨k, rfl, h⟩
instance o_chk {k : Bool} {A B : Prop} : One (ChK (.bl k) A B) (IfK k A B) := ⟨chk⟩
theorem x_chain {r r' : R2} (h : ta σ H fun x H1 => tb σ H1 fun y H2 => r x y H2 fun z H3 => ChK z (tc σ H3 fun w' H4 => r' y w' H4 Q) (Q (.bl false) H3)) : tChain r r' ta tb tc σ H Q := h
instance o_x_chain {r r' : R2} : One (tChain r r' ta tb tc σ H Q) (ta σ H fun x H1 => tb σ H1 fun y H2 => r x y H2 fun z H3 => ChK z (tc σ H3 fun w' H4 => r' y w' H4 Q) (Q (.bl false) H3)) := ⟨x_chain⟩
theorem divW {i j : Int} (h : 0 < j) (h2 : j < 2 ^ 62) : CDivW i j := wide_div (b := 62) h (by omega) (by decide) (by decide)
theorem r_ixL {p : Addr} {xs : List V} {i : Int} (h : SqL K H p xs) (ha : atI xs i = some v) (q : Q v H) : rIxL K (.ref p) (.int i) H Q := ⟨p, xs, i, v, rfl, rfl, h, ha, q⟩
theorem r_ixT {p : Addr} {xs : List V} {i : Int} (h : SqT K H p xs) (ha : atI xs i = some v) (q : Q v H) : rIxT K (.ref p) (.int i) H Q := ⟨p, xs, i, v, rfl, rfl, h, ha, q⟩
theorem x_call {sp : Sp} {E : XK} {ta : TA} (h : ta σ H fun vs H1 => sp vs H1 Q E) : tCall sp [] E ta σ H Q := by
  have e : (fun (vs : List V) H1 => sp (vs ++ []) H1 Q E) = fun vs H1 => sp vs H1 Q E := by funext vs H1; rw [List.append_nil]
  show ta σ H fun vs H1 => sp (vs ++ []) H1 Q E
  rw [e]
  exact h
instance o_x_call {sp : Sp} {E : XK} {ta : TA} : One (tCall sp [] E ta σ H Q) (ta σ H fun vs H1 => sp vs H1 Q E) := ⟨x_call⟩
def MtK (C : Addr) (m : Str) (x : V) (H1 : Hp) (A : Prop) : Prop := ∃ a dx fs, x = .ref a ∧ H1 a = some (.ins C dx fs) ∧ fs.lookup m = none ∧ A
theorem x_meth {C : Addr} {m : Str} {sp : Sp} {E : XK} {tx : TA} (h : ta σ H fun x H1 => MtK C m x H1 (tx σ H1 fun vs H2 => sp (x :: vs) H2 Q E)) : tMeth C m sp [] E ta tx σ H Q := by
  have e : ∀ x : V, (fun (vs : List V) H2 => sp (x :: (vs ++ [])) H2 Q E) = fun vs H2 => sp (x :: vs) H2 Q E := fun x => by funext vs H2; rw [List.append_nil]
  show ta σ H fun x H1 => ∃ a dx fs, x = .ref a ∧ H1 a = some (.ins C dx fs) ∧ fs.lookup m = none ∧ tx σ H1 fun vs H2 => sp (x :: (vs ++ [])) H2 Q E
  have e2 : (fun (x : V) (H1 : Hp) => ∃ a dx fs, x = .ref a ∧ H1 a = some (.ins C dx fs) ∧ fs.lookup m = none ∧ tx σ H1 fun vs H2 => sp (x :: (vs ++ [])) H2 Q E) =
      fun x H1 => MtK C m x H1 (tx σ H1 fun vs H2 => sp (x :: vs) H2 Q E) := by
    funext x H1
    rw [e x]
    rfl
  rw [e2]
  exact h
instance o_x_meth {C : Addr} {m : Str} {sp : Sp} {E : XK} {tx : TA} : One (tMeth C m sp [] E ta tx σ H Q) (ta σ H fun x H1 => MtK C m x H1 (tx σ H1 fun vs H2 => sp (x :: vs) H2 Q E)) := ⟨x_meth⟩
theorem mtk {C a dx : Addr} {fs : List (Str × V)} {m : Str} {A : Prop} (h : H a = some (.ins C dx fs)) (hl : fs.lookup m = none) (q : A) : MtK C m (.ref a) H A := ⟨a, dx, fs, rfl, h, hl, q⟩
theorem x_nil {R : List V → Hp → Prop} (h : R [] H) : tNil σ H R := h
instance o_x_nil {R : List V → Hp → Prop} : One (tNil σ H R) (R [] H) := ⟨x_nil⟩
theorem x_cons {tr : TA} {R : List V → Hp → Prop} (h : ta σ H fun x H1 => tr σ H1 fun xs H2 => R (x :: xs) H2) : tCons ta tr σ H R := h
instance o_x_cons {tr : TA} {R : List V → Hp → Prop} : One (tCons ta tr σ H R) (ta σ H fun x H1 => tr σ H1 fun xs H2 => R (x :: xs) H2) := ⟨x_cons⟩
theorem x_cb {r : List V → Hp → VK → Prop} {tx : TA} (h : tx σ H fun vs H1 => r vs H1 Q) : tCB r tx σ H Q := h
instance o_x_cb {r : List V → Hp → VK → Prop} {tx : TA} : One (tCB r tx σ H Q) (tx σ H fun vs H1 => r vs H1 Q) := ⟨x_cb⟩
def StFK (K : PySem.W.Frag) (x : V) (f : Str) (y : V) (A : Hp → Prop) (H2 : Hp) : Prop := ∃ a C dx fs, x = .ref a ∧ H2 a = some (.ins C dx fs) ∧ Cls K C ∧ NoAttr K C f ∧ fs.length < 1000 ∧ A (upd H2 a (.ins C dx (putF f y fs)))
def FldK (K : PySem.W.Frag) (f : Str) (x : V) (Q : VK) (H1 : Hp) : Prop := ∃ a C dx fs v, x = .ref a ∧ H1 a = some (.ins C dx fs) ∧ Cls K C ∧ NoAttr K C f ∧ fs.lookup f = some v ∧ Q v H1
theorem x_fld {f : Str} (h : ta σ H fun x H1 => FldK K f x Q H1) : tFld K ta f σ H Q := h
instance o_x_fld {f : Str} : One (tFld K ta f σ H Q) (ta σ H fun x H1 => FldK K f x Q H1) := ⟨x_fld⟩
theorem fldk {f : Str} {a C dx : Addr} {fs : List (Str × V)} (ho : H a = some (.ins C dx fs)) (hc : Cls K C) (hn : NoAttr K C f) (hl : fs.lookup f = some v) (q : Q v H) : FldK K f (.ref a) Q H := ⟨a, C, dx, fs, v, rfl, ho, hc, hn, hl, q⟩
end
structure Fr (M : List Addr) (H H' : Hp) : Prop where
  at_ : ∀ a o, H a = some o → a ∉ M → H' a = some o
  tp : ∀ t xs, H t = some (.tup xs) → H' t = some (.tup xs)
  fz : ∀ t o u, H t = some (.frz o u) → H' t = some (.frz o u)
section
variable {K : PySem.W.Frag} {M M' : List Addr} {H H1 H2 : Hp} {a l p : Addr} {o : HO}
theorem Fr.refl (M : List Addr) (H : Hp) : Fr M H H := ⟨fun _ _ h _ => h, fun _ _ h => h, fun _ _ _ h => h⟩
theorem Fr.trans (x : Fr M H H1) (y : Fr M H1 H2) : Fr M H H2 := ⟨fun a o h n => y.at_ a o (x.at_ a o h n) n, fun t xs h => y.tp t xs (x.tp t xs h), fun t u w h => y.fz t u w (x.fz t u w h)⟩
theorem Fr.mono (x : Fr M H H1) (h : ∀ a ∈ M, a ∈ M') : Fr M' H H1 := ⟨fun a o e n => x.at_ a o e fun z => n (h a z), x.tp, x.fz⟩
theorem Fr.up (x : Fr [] H H1) : Fr M H H1 := x.mono fun _ z => nomatch z
theorem Fr.drop (x : Fr M H H1) (y : Fr (p :: M) H1 H2) (n : H p = none) : Fr M H H2 :=
  ⟨fun a o e m => y.at_ a o (x.at_ a o e m) fun z => by
    rcases List.mem_cons.mp z with z | z
    · rw [z, n] at e; cases e
    · exact m z, fun t xs e => y.tp t xs (x.tp t xs e), fun t u w e => y.fz t u w (x.fz t u w e)⟩
theorem Fr.new (n : H p = none) : Fr [] H (upd H p o) :=
  ⟨fun a u e _ => by rw [upd_ne (ne_of_none e n)]; exact e, fun t xs e => by rw [upd_ne (ne_of_none e n)]; exact e, fun t u w e => by rw [upd_ne (ne_of_none e n)]; exact e⟩
theorem Fr.lst {xs : List V} (h : H l = some (.lst xs)) : Fr [l] H (upd H l o) :=
  ⟨fun a u e m => by rw [upd_ne fun z => m (by rw [z]; exact List.mem_singleton.mpr rfl)]; exact e, fun t ys e => by rw [upd_ne (ne_of e h (by intro z; cases z))]; exact e,
    fun t u w e => by rw [upd_ne (ne_of e h (by intro z; cases z))]; exact e⟩
theorem Fr.dct {kvs : List (Key × V)} (h : H l = some (.dK kvs)) : Fr [l] H (upd H l o) :=
  ⟨fun a u e m => by rw [upd_ne fun z => m (by rw [z]; exact List.mem_singleton.mpr rfl)]; exact e, fun t ys e => by rw [upd_ne (ne_of e h (by intro z; cases z))]; exact e,
    fun t u w e => by rw [upd_ne (ne_of e h (by intro z; cases z))]; exact e⟩
theorem Fr.ins {C dx : Addr} {fs : List (Str × V)} (h : H l = some (.ins C dx fs)) : Fr [l] H (upd H l o) :=
  ⟨fun a u e m => by rw [upd_ne fun z => m (by rw [z]; exact List.mem_singleton.mpr rfl)]; exact e, fun t ys e => by rw [upd_ne (ne_of e h (by intro z; cases z))]; exact e,
    fun t u w e => by rw [upd_ne (ne_of e h (by intro z; cases z))]; exact e⟩
theorem Fr.rd (x : Fr M H H1) {u : HO} (h : Rd H a u) (n : a ∉ M) : Rd H1 a u := by
  rcases h with h | ⟨o, h⟩
  · exact .inl (x.at_ _ _ h n)
  · exact .inr ⟨o, x.fz _ _ _ h⟩
theorem Fr.sqL (x : Fr M H H1) {xs : List V} (h : SqL K H a xs) (n : a ∉ M) : SqL K H1 a xs := by
  rcases h with h | h
  · exact .inl (x.rd h n)
  · exact .inr h
theorem Fr.sqT (x : Fr M H H1) {xs : List V} (h : SqT K H a xs) : SqT K H1 a xs := by
  rcases h with (h | ⟨o, h⟩) | h
  · exact .inl (.inl (x.tp _ _ h))
  · exact .inl (.inr ⟨o, x.fz _ _ _ h⟩)
  · exact .inr h
theorem Fr.free (x : Fr [] H H1) (h : H1 p = none) : H p = none := by
  cases e : H p with
  | none => rfl
  | some o => rw [x.at_ p o e (fun z => nomatch z)] at h; cases h
theorem sqL_of {xs : List V} (h : H a = some (.lst xs)) : SqL K H a xs := .inl (.inl h)
theorem sqT_of {xs : List V} (h : H a = some (.tup xs)) : SqT K H a xs := .inl (.inl h)
theorem small {n : Nat} (h : n ≤ 100000) : n ≤ sizeLine := Nat.le_trans h (by decide)
theorem small' {n : Nat} (h : n ≤ 100000) : n < sizeLine := Nat.lt_of_le_of_lt h (by decide)
end
section
variable {K : PySem.W.Frag} {σ : L2.St} {H : Hp} {te ta tb tl td ty : TE} {Q : VK} {x y v : V} {tz : TS} {nx bk ct : L2.St → Hp → Prop} {rt : VK}
def NewK (o : HO) (Q : VK) (H : Hp) : Prop := ∀ p, H p = none → Q (.ref p) (upd H p o)
theorem newk {o : HO} (h : ∀ (p : Addr) (H' : Hp), H p = none → H' p = some o → Fr [] H H' → Q (.ref p) H') : NewK o Q H := fun p np => h p _ np upd_same (Fr.new np)
def TupK (xs : List V) (Q : VK) (H : Hp) : Prop := xs.length ≤ sizeLine ∧ NewK (.tup xs) Q H
theorem x_tup {t : TA} (h : t σ H fun xs H1 => TupK xs Q H1) : tTup t σ H Q := h
instance o_x_tup {t : TA} : One (tTup t σ H Q) (t σ H fun xs H1 => TupK xs Q H1) := ⟨x_tup⟩
theorem tupk {xs : List V} (hl : xs.length ≤ 100000) (h : ∀ (p : Addr) (H' : Hp), H p = none → H' p = some (.tup xs) → Fr [] H H' → Q (.ref p) H') : TupK xs Q H := ⟨small hl, newk h⟩
def LstK (xs : List V) (Q : VK) (H : Hp) : Prop := xs.length ≤ sizeLine ∧ NewK (.lst xs) Q H
theorem x_lst {t : TA} (h : t σ H fun xs H1 => LstK xs Q H1) : tLst t σ H Q := h
instance o_x_lst {t : TA} : One (tLst t σ H Q) (t σ H fun xs H1 => LstK xs Q H1) := ⟨x_lst⟩
theorem lstk {xs : List V} (hl : xs.length ≤ 100000) (h : ∀ (p : Addr) (H' : Hp), H p = none → H' p = some (.lst xs) → Fr [] H H' → Q (.ref p) H') : LstK xs Q H := ⟨small hl, newk h⟩
theorem x_dnew (h : NewK (.dK []) Q H) : tDNewK σ H Q := h
instance o_x_dnew : One (tDNewK σ H Q) (NewK (.dK []) Q H) := ⟨x_dnew⟩
theorem chgL {l : Addr} {o : HO} {xs : List V} {A : Hp → Prop} (h : H l = some (.lst xs)) (k : ∀ H' : Hp, H' l = some o → Fr [l] H H' → A H') : A (upd H l o) := k _ upd_same (Fr.lst h)
theorem chgD {l : Addr} {o : HO} {kvs : List (Key × V)} {A : Hp → Prop} (h : H l = some (.dK kvs)) (k : ∀ H' : Hp, H' l = some o → Fr [l] H H' → A H') : A (upd H l o) := k _ upd_same (Fr.dct h)
theorem chgI {l C dx : Addr} {o : HO} {fs : List (Str × V)} {A : Hp → Prop} (h : H l = some (.ins C dx fs)) (k : ∀ H' : Hp, H' l = some o → Fr [l] H H' → A H') : A (upd H l o) := k _ upd_same (Fr.ins h)
theorem q_fld {tv : TE} {f : Str} (h : tv σ H fun y H1 => ta σ H1 fun x H2 => StFK K x f y (tz ⟨nx, rt, bk, ct⟩ σ) H2) : tSeq (sFld K ta tv f) tz ⟨nx, rt, bk, ct⟩ σ H := h
instance o_q_fld {tv : TE} {f : Str} : OneS (tSeq (sFld K ta tv f) tz ⟨nx, rt, bk, ct⟩ σ H) (tv σ H fun y H1 => ta σ H1 fun x H2 => StFK K x f y (tz ⟨nx, rt, bk, ct⟩ σ) H2) := ⟨q_fld⟩
theorem s_fld {tv : TE} {f : Str} (h : tv σ H fun y H1 => ta σ H1 fun x H2 => StFK K x f y (nx σ) H2) : sFld K ta tv f ⟨nx, rt, bk, ct⟩ σ H := h
instance o_s_fld {tv : TE} {f : Str} : OneS (sFld K ta tv f ⟨nx, rt, bk, ct⟩ σ H) (tv σ H fun y H1 => ta σ H1 fun x H2 => StFK K x f y (nx σ) H2) := ⟨s_fld⟩
theorem stfk {a C dx : Addr} {f : Str} {fs : List (Str × V)} {A : Hp → Prop} (ho : H a = some (.ins C dx fs)) (hc : Cls K C) (hn : NoAttr K C f) (hl : fs.length < 1000) (k : ∀ H', H' a = some (.ins C dx (putF f y fs)) → Fr [a] H H' → A H') : StFK K (.ref a) f y A H :=
  ⟨a, C, dx, fs, rfl, ho, hc, hn, hl, chgI ho k⟩
def TyLK (K : PySem.W.Frag) (T : String) (x : V) (H : Hp) (A : Prop) : Prop := tyV K T x H ∧ A
theorem x_bm {T : String} {r : V → List V → Hp → VK → Prop} {t : TA} (h : ta σ H fun x H1 => TyLK K T x H1 (t σ H1 fun xs H2 => r x xs H2 Q)) : tBM K T r ta t σ H Q := h
instance o_x_bm {T : String} {r : V → List V → Hp → VK → Prop} {t : TA} : One (tBM K T r ta t σ H Q) (ta σ H fun x H1 => TyLK K T x H1 (t σ H1 fun xs H2 => r x xs H2 Q)) := ⟨x_bm⟩
theorem x_bm0 {T : String} {r : V → List V → Hp → VK → Prop} (h : ta σ H fun x H1 => TyLK K T x H1 (r x [] H1 Q)) : tBM0 K T r ta σ H Q := h
instance o_x_bm0 {T : String} {r : V → List V → Hp → VK → Prop} : One (tBM0 K T r ta σ H Q) (ta σ H fun x H1 => TyLK K T x H1 (r x [] H1 Q)) := ⟨x_bm0⟩
theorem tyLst {l : Addr} {xs : List V} {A : Prop} (h : H l = some (.lst xs)) (a : A) : TyLK K "list" (.ref l) H A := ⟨Or.inl ⟨rfl, xs, sqL_of h⟩, a⟩
theorem r_app {l : Addr} {xs : List V} (h : H l = some (.lst xs)) (hl : xs.length ≤ 100000) (k : ∀ H' : Hp, H' l = some (.lst (xs ++ [y])) → Fr [l] H H' → Q .non H') : rAppend (.ref l) [y] H Q :=
  ⟨l, xs, y, rfl, rfl, h, small' hl, chgL (A := fun H' => Q .non H') h k⟩
theorem r_pop0 {l : Addr} {xs : List V} {y : V} (h : H l = some (.lst xs)) (hy : xs[xs.length - 1]? = some y) (k : ∀ H' : Hp, H' l = some (.lst xs.dropLast) → Fr [l] H H' → Q y H') : rPop (.ref l) [] H Q :=
  ⟨l, xs, y, rfl, rfl, h, hy, chgL (A := fun H' => Q y H') h k⟩
theorem seqIx {n : Nat} {j : Nat} (h : j < n) : seqIndex? (j : Int) n = some j := by
  unfold seqIndex?
  simp
  omega
theorem r_popAt {l : Addr} {xs : List V} {j : Nat} {y : V} (h : H l = some (.lst xs)) (hy : xs[j]? = some y) (hj : j < 100000) (k : ∀ H' : Hp, H' l = some (.lst (xs.eraseIdx j)) → Fr [l] H H' → Q y H') : rPopAt (.ref l) [.int (j : Int)] H Q :=
  ⟨l, xs, j, j, y, rfl, rfl, h, by omega, by omega, seqIx (List.getElem?_eq_some_iff.mp hy).1, hy, chgL (A := fun H' => Q y H') h k⟩
theorem x_gsub {t : TSet} {N : L2.St → Hp → Prop} (h : ta σ H fun o H1 => tb σ H1 fun i H2 => t o i v H2 fun H3 => N σ H3) : gSub ta tb t v σ H N := h
instance o_x_gsub {t : TSet} {N : L2.St → Hp → Prop} : One (gSub ta tb t v σ H N) (ta σ H fun o H1 => tb σ H1 fun i H2 => t o i v H2 fun H3 => N σ H3) := ⟨x_gsub⟩
theorem r_setL {l : Addr} {xs : List V} {k : Int} {j : Nat} {A : Hp → Prop} (h : H l = some (.lst xs)) (hk : k = (j : Int)) (hj : j < xs.length) (q : ∀ H' : Hp, H' l = some (.lst (xs.set j v)) → Fr [l] H H' → A H') : rSetL (.ref l) (.int k) v H A := by
  refine ⟨l, xs, k, j, rfl, rfl, h, ?_, chgL h q⟩
  subst hk
  unfold ixN
  rw [if_pos (by omega), if_pos (by omega)]
  simp
def DGetK (x y : V) (Q : VK) (H : Hp) : Prop := ∃ a v, x = .ref a ∧ DGet H a y (some v) ∧ Q v H
theorem x_dget (h : td σ H fun x H1 => ty σ H1 fun y H2 => DGetK x y Q H2) : tDGet td ty σ H Q := h
instance o_x_dget : One (tDGet td ty σ H Q) (td σ H fun x H1 => ty σ H1 fun y H2 => DGetK x y Q H2) := ⟨x_dget⟩
theorem dgetk {a : Addr} {kvs : List (Key × V)} {n : Int} (h : Rd H a (.dK kvs)) (e : valV kvs (.inl n) = some v) (q : Q v H) : DGetK (.ref a) (.int n) Q H := ⟨a, v, rfl, .inl ⟨kvs, .inl n, h, rfl, e.symm⟩, q⟩
def DInK (x y : V) (R : Option V → Prop) (H : Hp) : Prop := ∃ a o, x = .ref a ∧ DGet H a y o ∧ R o
theorem x_din (h : ty σ H fun y H1 => td σ H1 fun x H2 => DInK x y (fun o => Q (.bl o.isSome) H2) H2) : tDIn ty td σ H Q := h
instance o_x_din : One (tDIn ty td σ H Q) (ty σ H fun y H1 => td σ H1 fun x H2 => DInK x y (fun o => Q (.bl o.isSome) H2) H2) := ⟨x_din⟩
theorem x_dnin (h : ty σ H fun y H1 => td σ H1 fun x H2 => DInK x y (fun o => Q (.bl (!o.isSome)) H2) H2) : tDNotIn ty td σ H Q := h
instance o_x_dnin : One (tDNotIn ty td σ H Q) (ty σ H fun y H1 => td σ H1 fun x H2 => DInK x y (fun o => Q (.bl (!o.isSome)) H2) H2) := ⟨x_dnin⟩
theorem dink {a : Addr} {kvs : List (Key × V)} {n : Int} {R : Option V → Prop} (h : Rd H a (.dK kvs)) (q : R (valV kvs (.inl n))) : DInK (.ref a) (.int n) R H := ⟨a, _, rfl, .inl ⟨kvs, .inl n, h, rfl, rfl⟩, q⟩
def DPutK (x y v : V) (A : Hp → Prop) (H : Hp) : Prop := ∃ a H4, x = .ref a ∧ DPut H a y v H4 ∧ A H4
theorem q_dput {tv : TE} (h : tv σ H fun v H1 => td σ H1 fun x H2 => ty σ H2 fun y H3 => DPutK x y v (tz ⟨nx, rt, bk, ct⟩ σ) H3) : tSeq (sDPut td ty tv) tz ⟨nx, rt, bk, ct⟩ σ H := h
instance o_q_dput {tv : TE} : OneS (tSeq (sDPut td ty tv) tz ⟨nx, rt, bk, ct⟩ σ H) (tv σ H fun v H1 => td σ H1 fun x H2 => ty σ H2 fun y H3 => DPutK x y v (tz ⟨nx, rt, bk, ct⟩ σ) H3) := ⟨q_dput⟩
theorem s_dput {tv : TE} (h : tv σ H fun v H1 => td σ H1 fun x H2 => ty σ H2 fun y H3 => DPutK x y v (nx σ) H3) : sDPut td ty tv ⟨nx, rt, bk, ct⟩ σ H := h
instance o_s_dput {tv : TE} : OneS (sDPut td ty tv ⟨nx, rt, bk, ct⟩ σ H) (tv σ H fun v H1 => td σ H1 fun x H2 => ty σ H2 fun y H3 => DPutK x y v (nx σ) H3) := ⟨s_dput⟩
theorem dputk {a : Addr} {kvs : List (Key × V)} {n : Int} {A : Hp → Prop} (h : H a = some (.dK kvs)) (hl : kvs.length ≤ 100000) (k : ∀ H' : Hp, H' a = some (.dK (putK kvs (.inl n) v)) → Fr [a] H H' → A H') : DPutK (.ref a) (.int n) v A H :=
  ⟨a, _, rfl, .inl ⟨kvs, .inl n, h, rfl, small' hl, rfl⟩, chgD h k⟩
end
structure GF (P : Program) (w : World) (K : PySem.W.Frag) (mg : Str → Option Value) (base : Heap) (x : Str) (k : Nat) (ps : List Str) (sp : Sp) : Prop where
  ex : ∃ (f : Addr) (fd : FuncData), mg x = some (.ref f) ∧ PySem.W.keepIn K (.ref f) = true ∧ Binds K fd ps [] ∧ FnOk P w K mg base CX0 k f fd ps sp
structure GM (P : Program) (w : World) (K : PySem.W.Frag) (mg : Str → Option Value) (base : Heap) (C : Addr) (m : Str) (k : Nat) (ps : List Str) (sp : Sp) : Prop where
  cl : Cls K C
  ex : ∃ (f : Addr) (fd : FuncData), Meth K C m f ∧ Binds K fd ps [] ∧ FnOk P w K mg base CX0 k f fd ps sp
section
variable {X : Cx} {k : Nat} {ps : List Str} {sp : Sp} {x m : Str} {p pos apos : Pos} {e o : Expr} {es : List Expr} {t : TA} {ta : TE} {C : Addr}
theorem c_fn (G : GF X.prog X.w X.K X.mg X.base x k ps sp) (hr : Room k X.A) (ha : PA X (e :: es) t) (hg : Gl X x := by rfl) (hdb : (x == ("__debug__" : Str)) = false := by decide)
    (he : starEach (e :: es) X.env = (false, eval e X.env) :: starEach es X.env := by rfl) (hpl : (backTo pos (starEach es X.env)).any (·.1) = false := by rfl) :
    PE X (.Call (.Name x p) (e :: es) [] pos) (tCall sp [] E0 t) := by
  obtain ⟨f, fd, hm, hk, hb, F⟩ := G.ex
  exact pe_call F hr hg hm hk hb .nil pass0 ha hdb he hpl
theorem c_mt {pl : Sem Bool} (G : GM X.prog X.w X.K X.mg X.base C m k ps sp) (hr : Room k X.A) (he : PE X o ta) (ha : PA X (e :: es) t)
    (hst : starEach (e :: es) X.env = (false, eval e X.env) :: starEach es X.env := by rfl) (hpl : (backTo pos (starEach es X.env)).any (·.1) = false := by rfl)
    (ht : eval (.Call (.Attribute o m apos) (e :: es) [] pos) X.env = (do
      let ov ← eval o X.env
      standAt apos.atName
      let (f, first) ← holding [ov] (getMethod ov m pl)
      callWith pos f first (backTo pos (starEach (e :: es) X.env)) (backToKw pos (keywordEach [] X.env))) := by rfl) :
    PE X (.Call (.Attribute o m apos) (e :: es) [] pos) (tMeth C m sp [] E0 ta t) := by
  obtain ⟨f, fd, hm, hb, F⟩ := G.ex
  exact pe_meth he G.cl hm F hr hb .nil pass0 ha hst hpl ht
theorem c_mt0 {pl : Sem Bool} (G : GM X.prog X.w X.K X.mg X.base C m k ps sp) (hr : Room k X.A) (he : PE X o ta)
    (ht : eval (.Call (.Attribute o m apos) [] [] pos) X.env = (do
      let ov ← eval o X.env
      standAt apos.atName
      let (f, first) ← holding [ov] (getMethod ov m pl)
      callWith pos f first (backTo pos (starEach [] X.env)) (backToKw pos (keywordEach [] X.env))) := by rfl) :
    PE X (.Call (.Attribute o m apos) [] [] pos) (tMeth C m sp [] E0 ta tNil) := by
  obtain ⟨f, fd, hm, hb, F⟩ := G.ex
  exact pe_meth0 he G.cl hm F hr hb .nil pass0 ht
end
end RL
namespace RL
open PySem L2
structure DOk (kvs : List (Key × V)) (m : Int → Option V) : Prop where
  nd : (kvs.map (·.1)).Nodup
  ik : ∃ ks : List Int, kvs.map (·.1) = ks.map Sum.inl
  val : ∀ n, valV kvs (.inl n) = m n
structure Asc (hs : List Int) (m : Int → Option V) : Prop where
  up : hs.Pairwise (· < ·)
  mem : ∀ n, n ∈ hs ↔ (m n).isSome = true
section
variable {kvs : List (Key × V)} {m : Int → Option V} {hs : List Int} {n : Int} {v : V}
theorem mem_of_valV {κ : Type} [DecidableEq κ] {kvs : List (κ × V)} {k : κ} : k ∈ kvs.map (·.1) ↔ (valV kvs k).isSome = true := by
  constructor
  · intro h
    rw [← valV_any]
    obtain ⟨p, hp, e⟩ := List.mem_map.mp h
    exact List.any_eq_true.mpr ⟨p, hp, decide_eq_true e⟩
  · intro h
    rw [← valV_any] at h
    obtain ⟨p, hp, e⟩ := List.any_eq_true.mp h
    exact List.mem_map.mpr ⟨p, hp, of_decide_eq_true e⟩
theorem DOk.nil : DOk [] (fun _ => none) := ⟨List.nodup_nil, ⟨[], rfl⟩, fun _ => rfl⟩
theorem DOk.mem (d : DOk kvs m) : Sum.inl n ∈ kvs.map (·.1) ↔ (m n).isSome = true := by rw [mem_of_valV, d.val]
theorem nodup_map_inl {ks : List Int} : (ks.map (Sum.inl : Int → Key)).Nodup ↔ ks.Nodup := by
  induction ks with
  | nil => simp
  | cons a r ih => simp only [List.map_cons, List.nodup_cons, ih, List.mem_map]; simp
theorem putK_old {κ : Type} [DecidableEq κ] {kvs : List (κ × V)} {k : κ} {v : V} (h : (valV kvs k).isSome = true) : (putK kvs k v).map (·.1) = kvs.map (·.1) := by
  unfold putK
  rw [valV_any] 
  rw [if_pos h, List.map_map]
  apply List.map_congr_left
  intro p _
  show (if p.1 = k then (p.1, v) else p).1 = p.1
  split <;> rfl
theorem DOk.put (d : DOk kvs m) : DOk (putK kvs (.inl n) v) (fun i => if i = n then some v else m i) := by
  obtain ⟨ks, hk⟩ := d.ik
  cases e : valV kvs (.inl n) with
  | some w =>
    have ek := putK_old (kvs := kvs) (k := Sum.inl n) (v := v) (by rw [e]; rfl)
    refine ⟨by rw [ek]; exact d.nd, ⟨ks, by rw [ek]; exact hk⟩, fun i => ?_⟩
    rw [valV_put, d.val]
    by_cases h : i = n
    · subst h; simp
    · rw [if_neg h, if_neg (fun z => h (Sum.inl.inj z))]
  | none =>
    refine ⟨nd_putK v d.nd e, ⟨ks ++ [n], by rw [putK_new v e, List.map_append, List.map_append, hk]; rfl⟩, fun i => ?_⟩
    rw [valV_put, d.val]
    by_cases h : i = n
    · subst h; simp
    · rw [if_neg h, if_neg (fun z => h (Sum.inl.inj z))]
theorem DOk.cong {m' : Int → Option V} (d : DOk kvs m) (h : ∀ n, m n = m' n) : DOk kvs m' := ⟨d.nd, d.ik, fun n => (d.val n).trans (h n)⟩
theorem putK_len1 (kvs : List (Key × V)) (k : Key) (v : V) : (putK kvs k v).length ≤ kvs.length + 1 := by
  cases e : valV kvs k with
  | some w =>
    have h := congrArg List.length (putK_old (kvs := kvs) (k := k) (v := v) (by rw [e]; rfl))
    rw [List.length_map, List.length_map] at h
    omega
  | none => rw [putK_new v e, List.length_append]; exact Nat.le_refl _
theorem Asc.nodup (a : Asc hs m) : hs.Nodup := a.up.imp fun h => Int.ne_of_lt h
theorem perm_of_nodup {α : Type} [DecidableEq α] : ∀ {l₁ l₂ : List α}, l₁.Nodup → l₂.Nodup → (∀ x, x ∈ l₁ ↔ x ∈ l₂) → l₁.Perm l₂
  | [], l₂, _, _, h => by
    cases l₂ with
    | nil => exact .nil
    | cons b r => exact absurd ((h b).mpr (List.mem_cons_self)) (by simp)
  | a :: r, l₂, n1, n2, h => by
    have ha : a ∈ l₂ := (h a).mp List.mem_cons_self
    have p := List.perm_cons_erase ha
    refine (List.Perm.cons a (perm_of_nodup (List.nodup_cons.mp n1).2 (n2.erase a) fun x => ?_)).trans p.symm
    rw [n2.mem_erase_iff]
    constructor
    · intro hx
      exact ⟨fun e => (List.nodup_cons.mp n1).1 (e ▸ hx), (h x).mp (List.mem_cons_of_mem _ hx)⟩
    · rintro ⟨hne, hx⟩
      rcases List.mem_cons.mp ((h x).mpr hx) with e | e
      · exact absurd e hne
      · exact e
theorem up_unique : ∀ {l₁ l₂ : List Int}, l₁.Pairwise (· < ·) → l₂.Pairwise (· < ·) → (∀ x, x ∈ l₁ ↔ x ∈ l₂) → l₁ = l₂
  | [], [], _, _, _ => rfl
  | [], b :: r, _, _, h => absurd ((h b).mpr List.mem_cons_self) (by simp)
  | a :: r, [], _, _, h => absurd ((h a).mp List.mem_cons_self) (by simp)
  | a :: r, b :: s, p1, p2, h => by
    obtain ⟨h1, p1⟩ := List.pairwise_cons.mp p1
    obtain ⟨h2, p2'⟩ := List.pairwise_cons.mp p2
    have e : a = b := by
      have x1 : a ∈ b :: s := (h a).mp List.mem_cons_self
      have x2 : b ∈ a :: r := (h b).mpr List.mem_cons_self
      rcases List.mem_cons.mp x1 with e | e
      · exact e
      · rcases List.mem_cons.mp x2 with e' | e'
        · exact e'.symm
        · have := h2 a e; have := h1 b e'; omega
    subst e
    congr 1
    refine up_unique p1 p2' fun x => ?_
    constructor
    · intro hx
      rcases List.mem_cons.mp ((h x).mp (List.mem_cons_of_mem _ hx)) with e | e
      · have := h1 x hx; omega
      · exact e
    · intro hx
      rcases List.mem_cons.mp ((h x).mpr (List.mem_cons_of_mem _ hx)) with e | e
      · have := h2 x hx; omega
      · exact e
theorem DOk.len (d : DOk kvs m) (a : Asc hs m) : kvs.length = hs.length := by
  obtain ⟨ks, hk⟩ := d.ik
  have n1 : ks.Nodup := nodup_map_inl.mp (by rw [← hk]; exact d.nd)
  have e1 : kvs.length = ks.length := by have := congrArg List.length hk; simpa using this
  rw [e1]
  refine (perm_of_nodup n1 a.nodup fun x => ?_).length_eq
  rw [a.mem, ← d.mem, hk]
  simp
theorem DOk.lenN (d : DOk kvs m) (nd : hs.Nodup) (hm : ∀ n, n ∈ hs ↔ (m n).isSome = true) : kvs.length = hs.length := by
  obtain ⟨ks, hk⟩ := d.ik
  have n1 : ks.Nodup := nodup_map_inl.mp (by rw [← hk]; exact d.nd)
  have e1 : kvs.length = ks.length := by have := congrArg List.length hk; simpa using this
  rw [e1]
  refine (perm_of_nodup n1 nd fun x => ?_).length_eq
  rw [hm, ← d.mem, hk]
  simp
theorem up_of_sorted : ∀ {l : List Int}, l.Pairwise (· ≤ ·) → l.Nodup → l.Pairwise (· < ·)
  | [], _, _ => .nil
  | a :: r, h, n => by
    obtain ⟨h1, h2⟩ := List.pairwise_cons.mp h
    obtain ⟨n1, n2⟩ := List.nodup_cons.mp n
    refine List.pairwise_cons.mpr ⟨fun x hx => ?_, up_of_sorted h2 n2⟩
    have := h1 x hx
    have : a ≠ x := fun e => n1 (e ▸ hx)
    omega
end
section
variable {X : Cx} {K : PySem.W.Frag} {H : Hp} {Q : VK} {i j : Int} {a p : Addr} {xs : List V} {σ : L2.St} {ta : TE}
def rInt1 : List V → Hp → VK → Prop := fun xs H Q => (∃ i, xs = [.int i] ∧ Q (.int i) H) ∨ ∃ k, xs = [.bl k] ∧ Q (.int (if k then 1 else 0)) H
theorem cb_int : CallR X (.type "int") rInt1 := call_int1
theorem r_int (q : Q (.int i) H) : rInt1 [.int i] H Q := .inl ⟨i, rfl, q⟩
instance o_r_int : One (rInt1 [.int i] H Q) (Q (.int i) H) := ⟨r_int⟩
def rAbs : List V → Hp → VK → Prop := fun xs H Q => ∃ i, xs = [.int i] ∧ Q (.int (if i < 0 then -i else i)) H
theorem cb_abs : CallR X (.builtin "abs") rAbs := call_abs
theorem r_abs (q : Q (.int (if i < 0 then -i else i)) H) : rAbs [.int i] H Q := ⟨i, rfl, q⟩
instance o_r_abs : One (rAbs [.int i] H Q) (Q (.int (if i < 0 then -i else i)) H) := ⟨r_abs⟩
def rMax2 : List V → Hp → VK → Prop := fun xs H Q => ∃ i j, xs = [.int i, .int j] ∧ Q (.int (if j > i then j else i)) H
theorem cb_max2 (hc : X.calm = true) : CallR X (.builtin "max") rMax2 := call_max2 hc
theorem r_max2 (q : Q (.int (if j > i then j else i)) H) : rMax2 [.int i, .int j] H Q := ⟨i, j, rfl, q⟩
instance o_r_max2 : One (rMax2 [.int i, .int j] H Q) (Q (.int (if j > i then j else i)) H) := ⟨r_max2⟩
def rMin2 : List V → Hp → VK → Prop := fun xs H Q => ∃ i j, xs = [.int i, .int j] ∧ Q (.int (if j < i then j else i)) H
theorem r_min2 (q : Q (.int (if j < i then j else i)) H) : rMin2 [.int i, .int j] H Q := ⟨i, j, rfl, q⟩
instance o_r_min2 : One (rMin2 [.int i, .int j] H Q) (Q (.int (if j < i then j else i)) H) := ⟨r_min2⟩
def rLenS (K : PySem.W.Frag) : List V → Hp → VK → Prop := fun xs H Q => ∃ p ys, xs = [.ref p] ∧ (SqL K H p ys ∨ SqT K H p ys) ∧ Q (.int ys.length) H
theorem cb_lenS : CallR X (.builtin "len") (rLenS X.K) := call_len_seq
theorem r_lenL (h : SqL K H p xs) (q : Q (.int xs.length) H) : rLenS K [.ref p] H Q := ⟨p, xs, rfl, .inl h, q⟩
def rLenD : List V → Hp → VK → Prop := fun xs H Q => ∃ a kvs, xs = [V.ref a] ∧ Rd H a (.dK kvs) ∧ Q (.int kvs.length) H
theorem cb_lenD : CallR X (.builtin "len") rLenD := by
  intro pins s σ H xs us Q I r h
  obtain ⟨a, kvs, rfl, ha, q⟩ := h
  obtain ⟨u, rfl, ru⟩ := vals1 r
  cases ru
  exact d_len I ha fun t s' I' => ⟨.int kvs.length, H, I', ⟨t, rfl⟩, q⟩
theorem r_lenD {kvs : List (Key × V)} (h : Rd H a (.dK kvs)) (q : Q (.int kvs.length) H) : rLenD [.ref a] H Q := ⟨a, kvs, rfl, h, q⟩
def rListOf (K : PySem.W.Frag) : List V → Hp → VK → Prop := fun xs H Q => ∃ p ys, xs = [.ref p] ∧ (SqL K H p ys ∨ SqT K H p ys) ∧ NewK (.lst ys) Q H
theorem cb_listOf : CallR X (.type "list") (rListOf X.K) := call_list_of
theorem r_listL (h : SqL K H p xs) (q : ∀ (l : Addr) (H' : Hp), H l = none → H' l = some (.lst xs) → Fr [] H H' → Q (.ref l) H') : rListOf K [.ref p] H Q := ⟨p, xs, rfl, .inl h, newk q⟩
def rTupOf (K : PySem.W.Frag) : List V → Hp → VK → Prop := fun xs H Q => ∃ p ys, xs = [.ref p] ∧ ((SqL K H p ys ∧ ∀ l, H l = none → Q (.ref l) (upd H l (.tup ys))) ∨ (SqT K H p ys ∧ Q (.ref p) H))
theorem cb_tupOf : CallR X (.type "tuple") (rTupOf X.K) := call_tuple_of
theorem r_tupL (h : SqL K H p xs) (q : ∀ (l : Addr) (H' : Hp), H l = none → H' l = some (.tup xs) → Fr [] H H' → Q (.ref l) H') : rTupOf K [.ref p] H Q := ⟨p, xs, rfl, .inl ⟨h, newk q⟩⟩
def rDictD : List V → Hp → VK → Prop := fun xs H Q => ∃ (a : Addr) (kvs : List (Key × V)), xs = [.ref a] ∧ Rd H a (.dK kvs) ∧ NewK (.dK kvs) Q H
theorem cb_dictD : CallR X (.type "dict") rDictD := call_dictD
theorem r_dictD {kvs : List (Key × V)} (h : Rd H a (.dK kvs)) (q : ∀ (l : Addr) (H' : Hp), H l = none → H' l = some (.dK kvs) → Fr [] H H' → Q (.ref l) H') : rDictD [.ref a] H Q := ⟨a, kvs, rfl, h, newk q⟩
def rSortD : List V → Hp → VK → Prop := fun xs H Q => ∃ (a : Addr) (kvs : List (Key × V)) (ks : List Int), xs = [.ref a] ∧ Rd H a (.dK kvs) ∧ kvs.map (·.1) = ks.map Sum.inl ∧ ks.length < 64 ∧
    ∀ (ys : List Int) (p : Addr), ys.Perm ks → ys.Pairwise (· ≤ ·) → H p = none → Q (.ref p) (upd H p (.lst (ys.map V.int)))
theorem cb_sortD (hc : X.calm = true) : CallR X (.builtin "sorted") rSortD := call_sortedDI hc
theorem r_sortD {kvs : List (Key × V)} {m : Int → Option V} {hs : List Int} (h : Rd H a (.dK kvs)) (d : DOk kvs m) (as : Asc hs m) (hl : hs.length < 64)
    (q : ∀ (l : Addr) (H' : Hp), H l = none → H' l = some (.lst (hs.map V.int)) → Fr [] H H' → Q (.ref l) H') : rSortD [.ref a] H Q := by
  obtain ⟨ks, hk⟩ := d.ik
  have n1 : ks.Nodup := nodup_map_inl.mp (by rw [← hk]; exact d.nd)
  have e1 : kvs.length = ks.length := by have := congrArg List.length hk; simpa using this
  have e2 := d.len as
  refine ⟨a, kvs, ks, rfl, h, hk, by omega, fun ys p hp hy np => ?_⟩
  have e : ys = hs := by
    refine up_unique (up_of_sorted hy (hp.nodup_iff.mpr n1)) as.up fun x => ?_
    rw [hp.mem_iff, as.mem, ← d.mem, hk]
    simp
  subst e
  exact q p _ np upd_same (Fr.new np)
def rSortI (K : PySem.W.Frag) : List V → Hp → VK → Prop := rSortedI K
theorem cb_sortI : CallR X (.builtin "sorted") (rSortI X.K) := cr_sortedI
theorem r_sortI {ns : List Int} (h : SqL K H a (ns.map V.int)) (q : ∀ (ys : List Int) (l : Addr) (H' : Hp), ys.Perm ns → ys.Pairwise (· ≤ ·) → H l = none → H' l = some (.lst (ys.map V.int)) → Fr [] H H' → Q (.ref l) H') : rSortI K [.ref a] H Q :=
  ⟨a, ns, rfl, h, fun ys p h1 h2 np => q ys p _ h1 h2 np upd_same (Fr.new np)⟩
theorem r_min {ns : List Int} (h : SqL K H a (ns.map V.int)) (h0 : 0 < ns.length) (q : ∀ m, m ∈ ns → (∀ y, y ∈ ns → m ≤ y) → Q (.int m) H) : rMin K [.ref a] H Q := ⟨a, ns, rfl, h, h0, q⟩
def rIsBl : R2 := fun x y H Q => ∃ b, y = .bl b ∧ Q (.bl (decide (x = .bl b))) H
theorem op_isB : OpR X (compareOp .Is) rIsBl := by
  intro pins s σ H x y v u Q I rx ry h
  obtain ⟨b, rfl, q⟩ := h
  cases (show u = Value.bool b from ry)
  by_cases e : x = .bl b
  · subst e
    cases (show v = Value.bool b from rx)
    exact wpAny_is_self rfl ⟨.bl true, H, I, rfl, by simpa using q⟩
  · refine wpAny_is_other ?_ ?_ ⟨.bl false, H, I, rfl, by simpa [e] using q⟩
    · cases x <;> (try (obtain ⟨t, rfl⟩ := (show ∃ t, v = _ from rx); rfl)) <;> (cases (show v = _ from rx); rfl)
    · intro z
      subst z
      cases x with
      | bl b' => cases (show Value.bool b = Value.bool b' from rx); exact e rfl
      | non => exact absurd (show Value.bool b = Value.none from rx) (by simp)
      | int i => obtain ⟨t, h⟩ := (show ∃ t, Value.bool b = Value.int i t from rx); cases h
      | str i => obtain ⟨t, h⟩ := (show ∃ t, Value.bool b = Value.str i t from rx); cases h
      | byt i => obtain ⟨t, h⟩ := (show ∃ t, Value.bool b = Value.bytes i t from rx); cases h
      | flt i => obtain ⟨t, h⟩ := (show ∃ t, Value.bool b = Value.float i t from rx); cases h
      | ref i => exact absurd (show Value.bool b = Value.ref i from rx) (by simp)
      | ty i => exact absurd (show Value.bool b = Value.type i from rx) (by simp)
theorem r_isB {x : V} {b : Bool} (q : Q (.bl (decide (x = .bl b))) H) : rIsBl x (.bl b) H Q := ⟨b, rfl, q⟩
instance o_r_isB {x : V} {b : Bool} : One (rIsBl x (.bl b) H Q) (Q (.bl (decide (x = .bl b))) H) := ⟨r_isB⟩
def rIsNn : R2 := fun x y H Q => y = .non ∧ Q (.bl (decide (x = .non))) H
theorem op_isNn : OpR X (compareOp .Is) rIsNn := op_isN
theorem r_isN {x : V} (q : Q (.bl (decide (x = .non))) H) : rIsNn x .non H Q := ⟨rfl, q⟩
instance o_r_isN {x : V} : One (rIsNn x .non H Q) (Q (.bl (decide (x = .non))) H) := ⟨r_isN⟩
def rNotNn : R2 := fun x y H Q => y = .non ∧ Q (.bl (!decide (x = .non))) H
theorem op_notNn : OpR X (compareOp .IsNot) rNotNn := op_notN
theorem r_notN {x : V} (q : Q (.bl (!decide (x = .non))) H) : rNotNn x .non H Q := ⟨rfl, q⟩
instance o_r_notN {x : V} : One (rNotNn x .non H Q) (Q (.bl (!decide (x = .non))) H) := ⟨r_notN⟩
theorem b_len : bootBuiltins "len" = some (.builtin "len") := PySem.boot_len
theorem b_abs : bootBuiltins "abs" = some (.builtin "abs") := by decide +kernel
theorem b_max : bootBuiltins "max" = some (.builtin "max") := by decide +kernel
theorem b_min : bootBuiltins "min" = some (.builtin "min") := by decide +kernel
theorem b_sorted : bootBuiltins "sorted" = some (.builtin "sorted") := by decide +kernel
theorem b_isinstance : bootBuiltins "isinstance" = some (.builtin "isinstance") := by decide +kernel
theorem b_int : bootBuiltins "int" = some (.type "int") := by decide +kernel
theorem b_bool : bootBuiltins "bool" = some (.type "bool") := by decide +kernel
theorem b_str : bootBuiltins "str" = some (.type "str") := by decide +kernel
theorem b_list : bootBuiltins "list" = some (.type "list") := by decide +kernel
theorem b_tuple : bootBuiltins "tuple" = some (.type "tuple") := by decide +kernel
theorem b_dict : bootBuiltins "dict" = some (.type "dict") := by decide +kernel
theorem pe_ty {x : Str} {n : String} {pos : Pos} (hm : X.mg x = none) (hv : bootBuiltins x = some (.type n)) (hg : Gl X x := by rfl) (hn : x ≠ "__name__" := by decide) (hd : (x == ("__debug__" : Str)) = false := by decide) : PE X (.Name x pos) (tC (.ty n)) :=
  pe_bltn hg hm hv rfl hn hd
theorem r_isi {x : V} {n t : String} {b : Bool} (ty : TyX K H x (.type t)) (hk : kitB t n = some b) (q : Q (.bl b) H) : rIsi K [x, .ty n] H Q := ⟨x, .ty n, _, _, b, rfl, .ty n, ty, kit_ty hk, q⟩
end
end RL
namespace RL
open PySem L2
section
variable {X : Cx} {tg : Expr}
def iSeq (K : PySem.W.Frag) (tl : TE) : TI := fun σ H R => tl σ H fun x H1 => ∃ a, x = .ref a ∧ (((∃ xs, SqL K H1 a xs) ∧ R (Itl K a) H1) ∨ ((∃ xs, SqT K H1 a xs) ∧ R (Itt K a) H1))
theorem pi_seq {l : Expr} {tl : TE} (hl : PE X l tl) : PI X tg l (iSeq X.K tl) := by
  refine ⟨fun pins s σ H R I h => ?_⟩
  refine thn (hl.run pins s σ H _ I h) fun v s1 ⟨x, H1, I1, r1, q1⟩ => ?_
  obtain ⟨a, e, q1⟩ := q1
  subst e
  cases r1
  rcases q1 with ⟨⟨xs, hq⟩, q⟩ | ⟨⟨xs, hq⟩, q⟩
  · obtain ⟨its, rv, p, hz⟩ := I1.list hq
    refine wpAny_pyIter_list p.isList ?_
    refine ⟨s1.heap.objs.size, [s1.heap.objs.size], _, _, H1, rfl, I1.kept (t' := s1.toks) fun b o e => Heap.get?_push_of_some _ e, turn_list a _, ⟨_, Heap.get?_push_size _ rfl, rfl, rfl⟩, fun b hb => ?_, q⟩
    have e : b = s1.heap.objs.size := by simpa using hb
    subst e
    exact I1.fpOk (Nat.le_refl _) (I1.hok.fresh (Nat.le_refl _))
  · obtain ⟨its, rv, p, hz⟩ := I1.tuple hq
    refine wpAny_pyIter_tuple (show s1.heap.IsTuple a its.toArray from p) ?_
    refine ⟨s1.heap.objs.size, [s1.heap.objs.size], _, _, H1, rfl, I1.kept (t' := s1.toks) fun b o e => Heap.get?_push_of_some _ e, turn_tuple a _, ⟨_, Heap.get?_push_size _ rfl, rfl, rfl⟩, fun b hb => ?_, q⟩
    have e : b = s1.heap.objs.size := by simpa using hb
    subst e
    exact I1.fpOk (Nat.le_refl _) (I1.hok.fresh (Nat.le_refl _))
variable {K : PySem.W.Frag} {σ : L2.St} {H : Hp} {tl : TE}
def ItSK (K : PySem.W.Frag) (x : V) (R : It → Hp → Prop) (H1 : Hp) : Prop := ∃ a, x = .ref a ∧ (((∃ xs, SqL K H1 a xs) ∧ R (Itl K a) H1) ∨ ((∃ xs, SqT K H1 a xs) ∧ R (Itt K a) H1))
theorem x_iSeq {R : It → Hp → Prop} (h : tl σ H fun x H1 => ItSK K x R H1) : iSeq K tl σ H R := h
instance o_x_iSeq {R : It → Hp → Prop} : One (iSeq K tl σ H R) (tl σ H fun x H1 => ItSK K x R H1) := ⟨x_iSeq⟩
def Sq (K : PySem.W.Frag) (H : Hp) (a : Addr) (xs : List V) : Prop := SqL K H a xs ∨ SqT K H a xs
end
inductive LT where
  | tell (r s : Int) | ask (r s : Int) | ans (r s n : Int)
  deriving DecidableEq
def LT.vs : LT → List V
  | .tell r s => [.str "tell", .int r, .int s]
  | .ask r s => [.str "ask", .int r, .int s]
  | .ans r s n => [.str "answer", .int r, .int s, .int n]
def LT.pl : LT → List Int
  | .tell r s => [r, s]
  | .ask r s => [r, s]
  | .ans r s n => [r, s, n]
structure LetsIs (H : Hp) (ls : List LT) (lv : List V) : Prop where
  len : lv.length = ls.length
  at_ : ∀ (i : Nat) (l : LT), ls[i]? = some l → ∃ t, lv[i]? = some (.ref t) ∧ H t = some (.tup l.vs)
section
variable {H H' : Hp} {M : List Addr} {ls : List LT} {lv : List V} {l : LT} {t : Addr} {i : Nat}
theorem LetsIs.nil : LetsIs H [] [] := ⟨rfl, fun i l h => by simp at h⟩
theorem LetsIs.fr (x : LetsIs H ls lv) (f : Fr M H H') : LetsIs H' ls lv := ⟨x.len, fun i l h => let ⟨t, a, b⟩ := x.at_ i l h; ⟨t, a, f.tp _ _ b⟩⟩
theorem LetsIs.snoc (x : LetsIs H ls lv) (h : H t = some (.tup l.vs)) : LetsIs H (ls ++ [l]) (lv ++ [.ref t]) := by
  refine ⟨by rw [List.length_append, List.length_append, x.len]; rfl, fun i m e => ?_⟩
  by_cases hi : i < ls.length
  · rw [List.getElem?_append_left hi] at e
    obtain ⟨u, a, b⟩ := x.at_ i m e
    exact ⟨u, by rw [List.getElem?_append_left (by rw [x.len]; exact hi)]; exact a, b⟩
  · rw [List.getElem?_append_right (by omega)] at e
    have h0 : i - ls.length = 0 := by
      cases hk : i - ls.length with
      | zero => rfl
      | succ k => rw [hk] at e; simp at e
    rw [h0] at e
    have e' : l = m := Option.some.inj e
    subst e'
    exact ⟨t, by rw [List.getElem?_append_right (by rw [x.len]; omega), x.len, h0]; rfl, h⟩
theorem LetsIs.erase (x : LetsIs H ls lv) (k : Nat) : LetsIs H (ls.eraseIdx k) (lv.eraseIdx k) := by
  refine ⟨by rw [List.length_eraseIdx, List.length_eraseIdx, x.len], fun i m e => ?_⟩
  rw [List.getElem?_eraseIdx] at e
  by_cases h : i < k
  · rw [if_pos h] at e
    obtain ⟨u, a, b⟩ := x.at_ i m e
    exact ⟨u, by rw [List.getElem?_eraseIdx, if_pos h]; exact a, b⟩
  · rw [if_neg h] at e
    obtain ⟨u, a, b⟩ := x.at_ (i + 1) m e
    exact ⟨u, by rw [List.getElem?_eraseIdx, if_neg h]; exact a, b⟩
end
structure NS where
  size : Int
  hs : List Int
  f : Int → Int
  b : Int → Option Int
  post : List LT
def oV : Option Int → V
  | none => .non
  | some x => .int x
def NS.mf (N : NS) : Int → Option V := fun h => if h ∈ N.hs then some (.int (N.f h)) else none
def NS.mb (N : NS) : Int → Option V := fun h => if h ∈ N.hs then some (oV (N.b h)) else none
def NS.lb (N : NS) : Int → Option V := fun h => (N.b h).map V.int
structure NS.Ok (N : NS) : Prop where
  s0 : 0 < N.size
  s1 : N.size < 2 ^ 40
  up : N.hs.Pairwise (· < ·)
  on : ∀ h ∈ N.hs, 0 ≤ h ∧ h < N.size
  fh : ∀ h ∈ N.hs, N.f h ∈ N.hs
  bh : ∀ h x, N.b h = some x → h ∈ N.hs ∧ x ∈ N.hs
  ph : ∀ l ∈ N.post, ∀ x ∈ l.pl, x ∈ N.hs
  hl : N.hs.length ≤ 45
  pl : N.post.length ≤ 1000
theorem NS.Ok.ascF {N : NS} (h : N.Ok) : Asc N.hs N.mf := ⟨h.up, fun n => by unfold NS.mf; split <;> simp [*]⟩
theorem NS.Ok.ascB {N : NS} (h : N.Ok) : Asc N.hs N.mb := ⟨h.up, fun n => by unfold NS.mb; split <;> simp [*]⟩
theorem NS.mf_at {N : NS} {h : Int} (m : h ∈ N.hs) : N.mf h = some (.int (N.f h)) := if_pos m
theorem NS.mb_at {N : NS} {h : Int} (m : h ∈ N.hs) : N.mb h = some (oV (N.b h)) := if_pos m
def netF (z : Int) (da db dl : Addr) : List (Str × V) := [("size", .int z), ("_nexts", .ref da), ("_befores", .ref db), ("_letters", .ref dl)]
structure NetAt (C : Addr) (H : Hp) (p da db dl : Addr) (N : NS) : Prop where
  ob : ∃ dx, H p = some (.ins C dx (netF N.size da db dl))
  nx : ∃ kvs, H da = some (.dK kvs) ∧ DOk kvs N.mf
  bf : ∃ kvs, H db = some (.dK kvs) ∧ DOk kvs N.mb
  ls : ∃ lv, H dl = some (.lst lv) ∧ LetsIs H N.post lv
  ne : da ≠ db
structure TabAt (H : Hp) (dn dk dp : Addr) (N : NS) : Prop where
  nx : ∃ kvs, H dn = some (.dK kvs) ∧ DOk kvs N.mf
  bf : ∃ kvs, H dk = some (.dK kvs) ∧ DOk kvs N.lb
  ls : ∃ lv, H dp = some (.lst lv) ∧ LetsIs H N.post lv
  ne : dn ≠ dk
section
variable {C p da db dl dn dk dp : Addr} {H H' : Hp} {M : List Addr} {N : NS}
theorem NetAt.fr (x : NetAt C H p da db dl N) (f : Fr M H H') (h1 : p ∉ M) (h2 : da ∉ M) (h3 : db ∉ M) (h4 : dl ∉ M) : NetAt C H' p da db dl N :=
  ⟨let ⟨dx, e⟩ := x.ob; ⟨dx, f.at_ _ _ e h1⟩, let ⟨k, e, d⟩ := x.nx; ⟨k, f.at_ _ _ e h2, d⟩, let ⟨k, e, d⟩ := x.bf; ⟨k, f.at_ _ _ e h3, d⟩, let ⟨k, e, d⟩ := x.ls; ⟨k, f.at_ _ _ e h4, d.fr f⟩, x.ne⟩
theorem NetAt.ex (x : NetAt C H p da db dl N) (f : Fr [] H H') : NetAt C H' p da db dl N := x.fr f (fun z => nomatch z) (fun z => nomatch z) (fun z => nomatch z) (fun z => nomatch z)
theorem TabAt.fr (x : TabAt H dn dk dp N) (f : Fr M H H') (h1 : dn ∉ M) (h2 : dk ∉ M) (h3 : dp ∉ M) : TabAt H' dn dk dp N :=
  ⟨let ⟨k, e, d⟩ := x.nx; ⟨k, f.at_ _ _ e h1, d⟩, let ⟨k, e, d⟩ := x.bf; ⟨k, f.at_ _ _ e h2, d⟩, let ⟨k, e, d⟩ := x.ls; ⟨k, f.at_ _ _ e h3, d.fr f⟩, x.ne⟩
theorem TabAt.ex (x : TabAt H dn dk dp N) (f : Fr [] H H') : TabAt H' dn dk dp N := x.fr f (fun z => nomatch z) (fun z => nomatch z) (fun z => nomatch z)
end
structure NetT (K : PySem.W.Frag) (C : Addr) : Prop where
  cl : Cls K C
  n1 : NoAttr K C "size"
  n2 : NoAttr K C "_nexts"
  n3 : NoAttr K C "_befores"
  n4 : NoAttr K C "_letters"
theorem lk_ne {k k' : Str} {v : V} {l : List (Str × V)} (h : (k == k') = false) : ((k', v) :: l).lookup k = l.lookup k := by rw [List.lookup_cons, h]
theorem lk_eq {k : Str} {v : V} {l : List (Str × V)} : ((k, v) :: l).lookup k = some v := by rw [List.lookup_cons]; simp
theorem lk_nil {k : Str} : ([] : List (Str × V)).lookup k = none := rfl
theorem putF_ne {k k' : Str} {v w : V} {l : List (Str × V)} (h : ¬ k' = k) : putF k v ((k', w) :: l) = (k', w) :: putF k v l := by
  show (if k' = k then _ else _) = _
  rw [if_neg h]
section
variable {K : PySem.W.Frag} {C p dx da db dl : Addr} {H : Hp} {z : Int} {Q : VK}
theorem netF_1 : (netF z da db dl).lookup ("size" : Str) = some (.int z) := lk_eq
theorem netF_2 : (netF z da db dl).lookup ("_nexts" : Str) = some (.ref da) := (lk_ne (by decide +kernel)).trans lk_eq
theorem netF_3 : (netF z da db dl).lookup ("_befores" : Str) = some (.ref db) := (lk_ne (by decide +kernel)).trans ((lk_ne (by decide +kernel)).trans lk_eq)
theorem netF_4 : (netF z da db dl).lookup ("_letters" : Str) = some (.ref dl) := (lk_ne (by decide +kernel)).trans ((lk_ne (by decide +kernel)).trans ((lk_ne (by decide +kernel)).trans lk_eq))
def netNo (m : Str) : Bool := !(m == "size") && !(m == "_nexts") && !(m == "_befores") && !(m == "_letters")
theorem netF_no {m : Str} (h : netNo m = true) : (netF z da db dl).lookup m = none := by
  unfold netNo at h
  simp only [Bool.and_eq_true, Bool.not_eq_true'] at h
  obtain ⟨⟨⟨h1, h2⟩, h3⟩, h4⟩ := h
  exact (lk_ne h1).trans ((lk_ne h2).trans ((lk_ne h3).trans ((lk_ne h4).trans lk_nil)))
theorem NetT.f1 (T : NetT K C) (h : H p = some (.ins C dx (netF z da db dl))) (q : Q (.int z) H) : FldK K "size" (.ref p) Q H := fldk h T.cl T.n1 netF_1 q
theorem NetT.f2 (T : NetT K C) (h : H p = some (.ins C dx (netF z da db dl))) (q : Q (.ref da) H) : FldK K "_nexts" (.ref p) Q H := fldk h T.cl T.n2 netF_2 q
theorem NetT.f3 (T : NetT K C) (h : H p = some (.ins C dx (netF z da db dl))) (q : Q (.ref db) H) : FldK K "_befores" (.ref p) Q H := fldk h T.cl T.n3 netF_3 q
theorem NetT.f4 (T : NetT K C) (h : H p = some (.ins C dx (netF z da db dl))) (q : Q (.ref dl) H) : FldK K "_letters" (.ref p) Q H := fldk h T.cl T.n4 netF_4 q
theorem net_mt {m : Str} {A : Prop} (h : H p = some (.ins C dx (netF z da db dl))) (hm : netNo m = true) (q : A) : MtK C m (.ref p) H A := mtk h (netF_no hm) q
end
inductive D where
  | non | bl (b : Bool) | int (i : Int) | str (s : Str) | tup (ds : List D) | lst (ds : List D) | dct (kvs : List (Int × Int))
mutual
def Rep (H : Hp) : D → V → Prop
  | .non, v => v = .non
  | .bl b, v => v = .bl b
  | .int i, v => v = .int i
  | .str s, v => v = .str s
  | .tup ds, v => ∃ a vs, v = .ref a ∧ H a = some (.tup vs) ∧ RepL H ds vs
  | .lst ds, v => ∃ a vs, v = .ref a ∧ H a = some (.lst vs) ∧ RepL H ds vs
  | .dct kvs, v => ∃ a, v = .ref a ∧ H a = some (.dK (kvs.map fun p => (Sum.inl p.1, V.int p.2)))
def RepL (H : Hp) : List D → List V → Prop
  | [], vs => vs = []
  | d :: ds, vs => ∃ v r, vs = v :: r ∧ Rep H d v ∧ RepL H ds r
end
mutual
theorem Rep.fr0 {H H' : Hp} (f : Fr [] H H') : ∀ (d : D) (v : V), Rep H d v → Rep H' d v
  | .non, _, h => h
  | .bl _, _, h => h
  | .int _, _, h => h
  | .str _, _, h => h
  | .tup ds, _, ⟨a, vs, e, h, r⟩ => ⟨a, vs, e, f.tp _ _ h, RepL.fr0 f ds vs r⟩
  | .lst ds, _, ⟨a, vs, e, h, r⟩ => ⟨a, vs, e, f.at_ _ _ h (fun z => nomatch z), RepL.fr0 f ds vs r⟩
  | .dct kvs, _, ⟨a, e, h⟩ => ⟨a, e, f.at_ _ _ h (fun z => nomatch z)⟩
theorem RepL.fr0 {H H' : Hp} (f : Fr [] H H') : ∀ (ds : List D) (vs : List V), RepL H ds vs → RepL H' ds vs
  | [], _, h => h
  | d :: ds, _, ⟨v, r, e, h, t⟩ => ⟨v, r, e, Rep.fr0 f d v h, RepL.fr0 f ds r t⟩
end
theorem RepL.len {H : Hp} : ∀ {ds : List D} {vs : List V}, RepL H ds vs → vs.length = ds.length
  | [], _, h => by rw [show _ = [] from h]; rfl
  | d :: ds, _, ⟨v, r, e, _, t⟩ => by rw [e, List.length_cons, List.length_cons, RepL.len t]
theorem RepL.get {H : Hp} : ∀ {ds : List D} {vs : List V} {i : Nat} {d : D}, RepL H ds vs → ds[i]? = some d → ∃ v, vs[i]? = some v ∧ Rep H d v
  | [], _, i, d, _, h => by simp at h
  | d :: ds, _, 0, d', ⟨v, r, e, h, _⟩, h' => by
    have e' : d = d' := by simpa using h'
    subst e'
    exact ⟨v, by rw [e]; rfl, h⟩
  | d :: ds, _, i + 1, d', ⟨v, r, e, _, t⟩, h' => by
    obtain ⟨w, a, b⟩ := RepL.get (i := i) (d := d') t (by simpa using h')
    exact ⟨w, by rw [e]; simpa using a, b⟩
def LT.d : LT → D
  | .tell r s => .tup [.str "tell", .int r, .int s]
  | .ask r s => .tup [.str "ask", .int r, .int s]
  | .ans r s n => .tup [.str "answer", .int r, .int s, .int n]
theorem LT.rep {H : Hp} {l : LT} {t : Addr} (h : H t = some (.tup l.vs)) : Rep H l.d (.ref t) := by
  cases l <;> exact ⟨t, _, rfl, h, _, _, rfl, rfl, _, _, rfl, rfl, _, _, rfl, rfl, by first | exact rfl | exact ⟨_, _, rfl, rfl, rfl⟩⟩
def oD : Option Int → D
  | none => .non
  | some x => .int x
end RL
namespace RL
open PySem L2
section
variable {X : Cx} {K : PySem.W.Frag} {e o a b iter value : Expr} {es elts : List Expr} {f name m : Str} {pos apos cpos pos' p tpos : Pos} {ta tb to te tv tl : TE} {t : TA} {tg : Expr} {T id : String} {k kk : Nat}
theorem pe_fldK (hK : X.K = K) (he : PE X e ta) (hb : attributeBase e f X.env (eval e X.env) = eval e X.env) : PE X (.Attribute e f pos) (tFld K ta f) := by subst hK; exact pe_fld he hb
theorem ps_fldK (hK : X.K = K) (ha : PE X o ta) (hv : PE X value tv) (hs : swapsWith value (some (.Attribute o f pos')) pos.line X.env = pure false) : PS X (.Assign [.Attribute o f pos'] value pos) (sFld K ta tv f) := by subst hK; exact ps_fld ha hv hs
theorem ix_listK (hK : X.K = K) : IxR X (rIxL K) := by subst hK; exact ix_list
theorem ix_tupK (hK : X.K = K) : IxR X (rIxT K) := by subst hK; exact ix_tup
theorem ix_seqK (hK : X.K = K) : IxR X (rIx K) := by subst hK; exact ix_seq
theorem sl_listK (hK : X.K = K) : SlR X (rSlL K) := by subst hK; exact sl_list
theorem sl_tupK (hK : X.K = K) : SlR X (rSlT K) := by subst hK; exact sl_tup
theorem cb_lenSK (hK : X.K = K) : CallR X (.builtin "len") (rLenS K) := by subst hK; exact cb_lenS
theorem cb_listOfK (hK : X.K = K) : CallR X (.type "list") (rListOf K) := by subst hK; exact cb_listOf
theorem cb_tupOfK (hK : X.K = K) : CallR X (.type "tuple") (rTupOf K) := by subst hK; exact cb_tupOf
theorem cb_sortIK (hK : X.K = K) : CallR X (.builtin "sorted") (rSortI K) := by subst hK; exact cb_sortI
theorem cb_minK (hK : X.K = K) (hc : X.calm = true) : CallR X (.builtin "min") (rMin K) := by subst hK; exact cr_min hc
theorem cb_isiK (hK : X.K = K) : CallR X (.builtin "isinstance") (rIsi K) := by subst hK; exact call_isi
theorem pi_listK (hK : X.K = K) {l : Expr} (hl : PE X l tl) : PI X tg l (iList K tl) := by subst hK; exact pi_list hl
theorem pi_seqK (hK : X.K = K) {l : Expr} (hl : PE X l tl) : PI X tg l (iSeq K tl) := by subst hK; exact pi_seq hl
theorem pe_bmK {r : V → List V → Hp → VK → Prop} (hK : X.K = K) (pa : PlainAttrs T) (slot : Slot T name id) (hty : typeOf (.builtin id) = pure (.type "method_descriptor")) (hm : MtR X id r) (ho : PE X o to) (ha : PA X (e :: es) t)
    (hbase : attributeBase o name X.env (eval o X.env) = eval o X.env := by rfl)
    (hfew : ((backTo cpos (starEach (e :: es) X.env)).all (fun x => !x.1) && (backToKw cpos (keywordEach [] X.env)).all (fun x => x.1.isSome)
      && decide ((e :: es).length + ([] : List Keyword).length + (if ([] : List Keyword).isEmpty then 0 else 1) < 30)) = true := by rfl)
    (hline : (apos.endLine == cpos.line) = true := by rfl) (hs : starEach (e :: es) X.env = (false, eval e X.env) :: starEach es X.env := by rfl) (hplain : (backTo cpos (starEach es X.env)).any (·.1) = false := by rfl) :
    PE X (.Call (.Attribute o name apos) (e :: es) [] cpos) (tBM K T r to t) := by subst hK; exact pe_bm pa slot hty hm ho ha hbase hfew hline hs hplain
theorem pe_bm0K {r : V → List V → Hp → VK → Prop} (hK : X.K = K) (pa : PlainAttrs T) (slot : Slot T name id) (hty : typeOf (.builtin id) = pure (.type "method_descriptor")) (hm : MtR X id r) (ho : PE X o to)
    (hbase : attributeBase o name X.env (eval o X.env) = eval o X.env := by rfl) (hline : (apos.endLine == cpos.line) = true := by rfl) : PE X (.Call (.Attribute o name apos) [] [] cpos) (tBM0 K T r to) := by subst hK; exact pe_bm0 pa slot hty hm ho hbase hline
end
section
variable {K : PySem.W.Frag} {σ : L2.St} {H : Hp} {te tl tk tv : TE} {tt : TT} {Q : VK} {J : It} {g : TG} {vs : List Nat} {wi : TI} {n j : Nat} {G : Hp → Prop} {Y : Nat → Hp → V → Hp → Prop}
def LcK (J : It) (g : TG) (tt : TT) (te : TE) (vs : List Nat) (σ : L2.St) (Q : VK) (H1 : Hp) : Prop := ∀ D, H1 D = none → ∃ W : Nat → Nat → Hp → Prop, (∃ m, W 0 m (upd H1 D (.lst []))) ∧ ∀ i m H, W i m H →
  (J.stop i H ∧ Q (.ref D) H) ∨ (J.go i H ∧ ∃ Nx : Hp → Prop, (∀ H', Nx H' → ∃ m', m' < m ∧ W (i + 1) m' H') ∧ ∀ x H', J.yld i H x H' → g x (wipe σ vs) H' fun σ2 H2 => wipe σ2 vs = wipe σ vs ∧ tt σ2 H2 fun b H3 =>
    if b = true then te σ2 H3 fun y H4 => ∃ acc, H4 D = some (.lst acc) ∧ acc.length < sizeLine ∧ Nx (upd H4 D (.lst (acc ++ [y]))) else Nx H3)
theorem x_lc (h : wi σ H fun J H1 => LcK J g tt te vs σ Q H1) : tLc wi g tt te vs σ H Q := h
instance o_x_lc : One (tLc wi g tt te vs σ H Q) (wi σ H fun J H1 => LcK J g tt te vs σ Q H1) := ⟨x_lc⟩
theorem set_set (σ : L2.St) (j : Nat) (a b : Option V) : (σ.set j a).set j b = σ.set j b := List.set_set ..
theorem lcW (w : Walk J n G Y) (Pv : Nat → List V → Hp → Prop) (h0 : ∀ D H', H D = none → H' D = some (.lst []) → Fr [] H H' → Pv 0 [] H') (hG : ∀ i acc H', i ≤ n → Pv i acc H' → G H') (hn : n ≤ 100000) (hl : ∀ i acc H', Pv i acc H' → acc.length ≤ i)
    (hs : ∀ D i x acc H0 H', i < n → H D = none → H0 D = some (.lst acc) → Pv i acc H0 → Y i H0 x H' → SetK σ j x (fun σ2 H2 => ∀ (R1 : Bool → Hp → Prop) (R2 : VK),
      (∀ y H4, H4 D = some (.lst acc) → (∀ H5, H5 D = some (.lst (acc ++ [y])) → Fr [D] H4 H5 → Pv (i + 1) (acc ++ [y]) H5) → R2 y H4) → (∀ H3, te σ2 H3 R2 → R1 true H3) → (∀ H3, H3 D = some (.lst acc) → Pv (i + 1) acc H3 → R1 false H3) → tt σ2 H2 R1) H')
    (hd : ∀ p H' acc, H p = none → H' p = some (.lst acc) → Pv n acc H' → Q (.ref p) H') : LcK J (gName j) tt te [j] σ Q H := by
  intro D hD
  refine lc_it w (fun i H' => ∃ acc, H' D = some (.lst acc) ∧ Pv i acc H') ⟨[], upd_same, h0 D _ hD upd_same (Fr.new hD)⟩ (fun i H' hi ⟨acc, _, p⟩ => hG i acc H' hi p) (fun i x H0 H' hi ⟨acc, e, p⟩ y => ?_) (fun H' ⟨acc, e, p⟩ => hd D H' acc hD e p)
  have q := hs D i x acc H0 H' hi hD e p y
  have e1 : wipe σ [j] = σ.set j none := rfl
  show wipe ((wipe σ [j]).set j (some x)) [j] = wipe σ [j] ∧ tt ((wipe σ [j]).set j (some x)) H' _
  rw [e1, set_set]
  refine ⟨by show ((σ.set j (some x)).set j none) = _; rw [set_set], ?_⟩
  have hla := hl i acc H0 p
  refine q _ (fun y H4 => ∃ acc, H4 D = some (.lst acc) ∧ acc.length < sizeLine ∧ ∃ acc', (upd H4 D (.lst (acc ++ [y]))) D = some (.lst acc') ∧ Pv (i + 1) acc' (upd H4 D (.lst (acc ++ [y])))) (fun y H4 a b => ⟨acc, a, small' (by omega), _, upd_same, b _ upd_same (Fr.lst a)⟩) (fun H3 r => ?_) (fun H3 a b => ?_)
  · rw [if_pos rfl]; exact r
  · rw [if_neg Bool.false_ne_true]; exact ⟨acc, a, b⟩
theorem take_snoc {α : Type} {xs : List α} {i : Nat} {x : α} (h : xs[i]? = some x) : xs.take (i + 1) = xs.take i ++ [x] := by
  rw [List.take_succ, h]; rfl
theorem filter_snoc {α : Type} {xs : List α} {c : α → Bool} {i : Nat} {x : α} (h : xs[i]? = some x) : (xs.take (i + 1)).filter c = (xs.take i).filter c ++ if c x = true then [x] else [] := by
  rw [take_snoc h, List.filter_append]
  congr 1
  rw [List.filter_cons]; split <;> rfl
theorem lcV (w : Walk J n G Y) (xs : List V) (hn : n = xs.length) (hY : ∀ i H0 x H', i < n → Y i H0 x H' → xs[i]? = some x ∧ Fr [] H0 H') (c : V → Bool) (val : V → V) (hG : ∀ H', Fr [] H H' → G H') (hz : xs.length ≤ 100000)
    (hs : ∀ x H', x ∈ xs → Fr [] H H' → SetK σ j x (fun σ2 H2 => (∀ R : Bool → Hp → Prop, (∀ H3, Fr [] H2 H3 → R (c x) H3) → tt σ2 H2 R) ∧ (c x = true → ∀ H3, Fr [] H2 H3 → ∀ R : VK, (∀ H4, Fr [] H3 H4 → R (val x) H4) → te σ2 H3 R)) H')
    (hd : ∀ p H', H p = none → H' p = some (.lst ((xs.filter c).map val)) → Fr [] H H' → Q (.ref p) H') : LcK J (gName j) tt te [j] σ Q H := by
  subst hn
  intro D hD
  refine lc_it w (fun i H' => H' D = some (.lst (((xs.take i).filter c).map val)) ∧ Fr [] H H') ⟨by rw [upd_same]; rfl, Fr.new hD⟩ (fun i H' _ p => hG H' p.2) (fun i x H0 H' hi p y => ?_) (fun H' p => hd D H' hD (by rw [p.1, List.take_length]) p.2)
  obtain ⟨hx, hy⟩ := hY i H0 x H' hi y
  have e1 : wipe σ [j] = σ.set j none := rfl
  have f1 : Fr [] H H' := p.2.trans hy
  have d1 := hy.at_ _ _ p.1 (fun z => nomatch z)
  obtain ⟨q1, q2⟩ := hs x H' (List.mem_of_getElem? hx) f1
  show wipe ((wipe σ [j]).set j (some x)) [j] = wipe σ [j] ∧ tt ((wipe σ [j]).set j (some x)) H' _
  rw [e1, set_set]
  refine ⟨by show ((σ.set j (some x)).set j none) = _; rw [set_set], q1 _ fun H3 f3 => ?_⟩
  have d3 := f3.at_ _ _ d1 (fun z => nomatch z)
  cases hc : c x with
  | true =>
    rw [if_pos rfl]
    refine q2 hc H3 f3 _ fun H4 f4 => ⟨_, f4.at_ _ _ d3 (fun z => nomatch z), small' ?_, ?_, ?_⟩
    · rw [List.length_map]
      have := List.length_filter_le c (xs.take i)
      rw [List.length_take] at this
      omega
    · rw [upd_same, filter_snoc hx, if_pos hc, List.map_append]; rfl
    · have f := (f1.trans f3).trans f4
      exact f.drop (Fr.lst (f4.at_ _ _ d3 (fun z => nomatch z))) hD
  | false =>
    rw [if_neg Bool.false_ne_true]
    refine ⟨?_, f1.trans f3⟩
    rw [d3, filter_snoc hx, if_neg (by rw [hc]; decide), List.append_nil]
theorem lcP (w : Walk J n G Y) (xs : List V) (hn : n = xs.length) (hY : ∀ i H0 x H', i < n → Y i H0 x H' → xs[i]? = some x ∧ Fr [] H0 H') (c : V → Bool) (P : V → V → Hp → Prop) (hP : ∀ M x y H1 H2, P x y H1 → Fr M H1 H2 → P x y H2) (hG : ∀ H', Fr [] H H' → G H') (hz : xs.length ≤ 100000)
    (hs : ∀ x H', x ∈ xs → Fr [] H H' → SetK σ j x (fun σ2 H2 => (∀ R : Bool → Hp → Prop, (∀ H3, Fr [] H2 H3 → R (c x) H3) → tt σ2 H2 R) ∧ (c x = true → ∀ H3, Fr [] H2 H3 → ∀ R : VK, (∀ y H4, Fr [] H3 H4 → P x y H4 → R y H4) → te σ2 H3 R)) H')
    (hd : ∀ p H' ys, H p = none → H' p = some (.lst ys) → ys.length = (xs.filter c).length → (∀ (i : Nat) x, (xs.filter c)[i]? = some x → ∃ y, ys[i]? = some y ∧ P x y H') → Fr [] H H' → Q (.ref p) H') : LcK J (gName j) tt te [j] σ Q H := by
  subst hn
  intro D hD
  refine lc_it w (fun i H' => ∃ ys, H' D = some (.lst ys) ∧ ys.length = ((xs.take i).filter c).length ∧ (∀ (k : Nat) x, ((xs.take i).filter c)[k]? = some x → ∃ y, ys[k]? = some y ∧ P x y H') ∧ Fr [] H H') ⟨[], by rw [upd_same], rfl, fun k x h => by simp at h, Fr.new hD⟩ (fun i H' _ ⟨_, _, _, _, f⟩ => hG H' f)
    (fun i x H0 H' hi ⟨ys, e, el, ep, f⟩ y => ?_) (fun H' ⟨ys, e, el, ep, f⟩ => hd D H' ys hD e (by rw [el, List.take_length]) (by rw [List.take_length] at ep; exact ep) f)
  obtain ⟨hx, hy⟩ := hY i H0 x H' hi y
  have e1 : wipe σ [j] = σ.set j none := rfl
  have f1 : Fr [] H H' := f.trans hy
  have d1 := hy.at_ _ _ e (fun z => nomatch z)
  obtain ⟨q1, q2⟩ := hs x H' (List.mem_of_getElem? hx) f1
  show wipe ((wipe σ [j]).set j (some x)) [j] = wipe σ [j] ∧ tt ((wipe σ [j]).set j (some x)) H' _
  rw [e1, set_set]
  refine ⟨by show ((σ.set j (some x)).set j none) = _; rw [set_set], q1 _ fun H3 f3 => ?_⟩
  have d3 := f3.at_ _ _ d1 (fun z => nomatch z)
  cases hc : c x with
  | true =>
    rw [if_pos rfl]
    refine q2 hc H3 f3 _ fun y H4 f4 py => ⟨_, f4.at_ _ _ d3 (fun z => nomatch z), small' ?_, ys ++ [y], upd_same, ?_, fun k x' hk => ?_, ?_⟩
    · have := List.length_filter_le c (xs.take i)
      rw [List.length_take] at this
      omega
    · rw [List.length_append, el, filter_snoc hx, if_pos hc, List.length_append]; rfl
    · have fu : Fr [D] H4 (upd H4 D (.lst (ys ++ [y]))) := Fr.lst (f4.at_ _ _ d3 (fun z => nomatch z))
      rw [filter_snoc hx, if_pos hc] at hk
      by_cases hl : k < ((xs.take i).filter c).length
      · rw [List.getElem?_append_left hl] at hk
        obtain ⟨y', a, b⟩ := ep k x' hk
        exact ⟨y', by rw [List.getElem?_append_left (by omega)]; exact a, hP _ _ _ _ _ (hP _ _ _ _ _ b ((hy.trans f3).trans f4)) fu⟩
      · rw [List.getElem?_append_right (by omega)] at hk
        have h0 : k - ((xs.take i).filter c).length = 0 := by
          cases hq : k - ((xs.take i).filter c).length with
          | zero => rfl
          | succ m => rw [hq] at hk; simp at hk
        rw [h0] at hk
        have e' : x = x' := Option.some.inj hk
        subst e'
        exact ⟨y, by rw [List.getElem?_append_right (by omega), el, h0]; rfl, hP _ _ _ _ _ py fu⟩
    · have f := (f1.trans f3).trans f4
      exact f.drop (Fr.lst (f4.at_ _ _ d3 (fun z => nomatch z))) hD
  | false =>
    rw [if_neg Bool.false_ne_true]
    refine ⟨ys, d3, ?_, fun k x' hk => ?_, f1.trans f3⟩
    · rw [el, filter_snoc hx, if_neg (by rw [hc]; decide), List.append_nil]
    · rw [filter_snoc hx, if_neg (by rw [hc]; decide), List.append_nil] at hk
      obtain ⟨y', a, b⟩ := ep k x' hk
      exact ⟨y', a, hP _ _ _ _ _ b (hy.trans f3)⟩
def DcK (J : It) (g : TG) (tt : TT) (tk tv : TE) (vs : List Nat) (σ : L2.St) (Q : VK) (H1 : Hp) : Prop := ∀ D, H1 D = none → ∃ W : Nat → Nat → Hp → Prop, (∃ m, W 0 m (upd H1 D (.dK []))) ∧ ∀ i m H, W i m H →
  (J.stop i H ∧ Q (.ref D) H) ∨ (J.go i H ∧ ∃ Nx : Hp → Prop, (∀ H', Nx H' → ∃ m', m' < m ∧ W (i + 1) m' H') ∧ ∀ x H', J.yld i H x H' → g x (wipe σ vs) H' fun σ2 H2 => wipe σ2 vs = wipe σ vs ∧ tt σ2 H2 fun b H3 =>
    if b = true then tk σ2 H3 fun y H4 => tv σ2 H4 fun z H5 => ∃ kvs k, y = kV k ∧ H5 D = some (.dK kvs) ∧ kvs.length < sizeLine ∧ Nx (upd H5 D (.dK (putK kvs k z))) else Nx H3)
theorem x_dc (h : wi σ H fun J H1 => DcK J g tt tk tv vs σ Q H1) : tDc wi g tt tk tv vs σ H Q := h
instance o_x_dc : One (tDc wi g tt tk tv vs σ H Q) (wi σ H fun J H1 => DcK J g tt tk tv vs σ Q H1) := ⟨x_dc⟩
theorem dcV (w : Walk J n G Y) (ns : List Int) (nd : ns.Nodup) (hn : n = ns.length) (hY : ∀ i H0 x H', i < n → Y i H0 x H' → (∃ k, ns[i]? = some k ∧ x = .int k) ∧ Fr [] H0 H') (c : Int → Bool) (val : Int → V) (hG : ∀ H', Fr [] H H' → G H') (hz : ns.length ≤ 100000)
    (hs : ∀ k H', k ∈ ns → Fr [] H H' → SetK σ j (.int k) (fun σ2 H2 => (∀ R : Bool → Hp → Prop, (∀ H3, Fr [] H2 H3 → R (c k) H3) → tt σ2 H2 R) ∧ (c k = true → ∀ H3, Fr [] H2 H3 → ∀ R : V → V → Hp → Prop, (∀ H4, Fr [] H3 H4 → R (.int k) (val k) H4) → tk σ2 H3 fun y H4 => tv σ2 H4 fun z H5 => R y z H5)) H')
    (hd : ∀ p H', H p = none → H' p = some (.dK ((ns.filter c).map fun k => (Sum.inl k, val k))) → Fr [] H H' → Q (.ref p) H') : DcK J (gName j) tt tk tv [j] σ Q H := by
  subst hn
  intro D hD
  refine ⟨fun i m H' => m = ns.length - i ∧ i ≤ ns.length ∧ H' D = some (.dK (((ns.take i).filter c).map fun k => (Sum.inl k, val k))) ∧ Fr [] H H', ⟨ns.length, by simp, Nat.zero_le _, by rw [upd_same]; rfl, Fr.new hD⟩, ?_⟩
  rintro i m H0 ⟨rfl, hi, hd0, f0⟩
  have q := hG _ f0
  by_cases hlt : i < ns.length
  · refine .inr ⟨w.goes i H0 hlt q, fun H' => H' D = some (.dK (((ns.take (i + 1)).filter c).map fun k => (Sum.inl k, val k))) ∧ Fr [] H H', fun H' p' => ⟨ns.length - (i + 1), by omega, rfl, hlt, p'⟩, fun x H' y => ?_⟩
    obtain ⟨⟨k, hk, ex⟩, hy⟩ := hY i H0 x H' hlt (w.yields i H0 x H' hlt q y)
    subst ex
    have e1 : wipe σ [j] = σ.set j none := rfl
    have f1 : Fr [] H H' := f0.trans hy
    have d1 := hy.at_ _ _ hd0 (fun z => nomatch z)
    have hmem := List.mem_of_getElem? hk
    obtain ⟨q1, q2⟩ := hs k H' hmem f1
    show wipe ((wipe σ [j]).set j (some (.int k))) [j] = wipe σ [j] ∧ tt ((wipe σ [j]).set j (some (.int k))) H' _
    rw [e1, set_set]
    refine ⟨by show ((σ.set j (some (.int k))).set j none) = _; rw [set_set], q1 _ fun H3 f3 => ?_⟩
    have d3 := f3.at_ _ _ d1 (fun z => nomatch z)
    cases hc : c k with
    | true =>
      rw [if_pos rfl]
      refine q2 hc H3 f3 _ fun H4 f4 => ⟨_, Sum.inl k, rfl, f4.at_ _ _ d3 (fun z => nomatch z), small' ?_, ?_, ?_⟩
      · rw [List.length_map]
        have := List.length_filter_le c (ns.take i)
        rw [List.length_take] at this
        omega
      · rw [upd_same, filter_snoc hk, if_pos hc, List.map_append, putK_new]
        · rfl
        · cases e : valV (((ns.take i).filter c).map fun k => ((Sum.inl k : Key), val k)) (Sum.inl k) with
          | none => rfl
          | some v =>
            exfalso
            have m1 := mem_of_valV.mpr (show (valV (((ns.take i).filter c).map fun k => ((Sum.inl k : Key), val k)) (Sum.inl k)).isSome = true by rw [e]; rfl)
            rw [List.map_map] at m1
            obtain ⟨k', hk', ek⟩ := List.mem_map.mp m1
            have ek' : k' = k := Sum.inl.inj ek
            subst ek'
            have m2 : k' ∈ ns.take i := (List.mem_filter.mp hk').1
            obtain ⟨i', hi', e'⟩ := List.mem_iff_getElem.mp m2
            rw [List.length_take] at hi'
            rw [List.getElem_take] at e'
            have : i' = i := nd_ix nd (by rw [List.getElem?_eq_getElem (by omega), e']) hk
            omega
      · exact ((f1.trans f3).trans f4).drop (Fr.dct (f4.at_ _ _ d3 (fun z => nomatch z))) hD
    | false =>
      rw [if_neg Bool.false_ne_true]
      refine ⟨?_, f1.trans f3⟩
      rw [d3, filter_snoc hk, if_neg (by rw [hc]; decide), List.append_nil]
  · have e : i = ns.length := by omega
    subst e
    exact .inl ⟨w.stops H0 q, hd D H0 hD (by rw [hd0, List.take_length]) f0⟩
theorem valV_mapK (val : Int → V) : ∀ (ns : List Int) (n : Int), valV (ns.map fun k => ((Sum.inl k : Key), val k)) (Sum.inl n) = if n ∈ ns then some (val n) else none
  | [], n => rfl
  | k :: r, n => by
    rw [List.map_cons]
    by_cases e : k = n
    · subst e
      rw [valV_pos rfl, if_pos List.mem_cons_self]
    · rw [valV_neg (fun z => e (Sum.inl.inj z)), valV_mapK val r n]
      by_cases h : n ∈ r
      · rw [if_pos h, if_pos (List.mem_cons_of_mem _ h)]
      · rw [if_neg h, if_neg (fun z => (List.mem_cons.mp z).elim (fun z => e z.symm) h)]
theorem DOk.ofMap {ns : List Int} (nd : ns.Nodup) (val : Int → V) : DOk (ns.map fun k => ((Sum.inl k : Key), val k)) (fun n => if n ∈ ns then some (val n) else none) :=
  ⟨by rw [List.map_map]; exact nodup_map_inl.mpr nd, ⟨ns, by rw [List.map_map]; rfl⟩, valV_mapK val ns⟩
theorem walkL {a : Addr} {xs : List V} {R : It → Hp → Prop} (hx : SqL K H a xs) (h : R (Itl K a) H) : ItLK K (.ref a) R H := ⟨a, rfl, ⟨xs, hx⟩, h⟩
theorem yAt {xs : List V} {i : Nat} {H0 H' : Hp} {x : V} (h : YAt xs i H0 x H') : xs[i]? = some x ∧ Fr [] H0 H' := ⟨h.2, by rw [h.1]; exact Fr.refl _ _⟩
theorem yAtI {ns : List Int} {i : Nat} {H0 H' : Hp} {x : V} (h : YAt (ns.map V.int) i H0 x H') : (∃ k, ns[i]? = some k ∧ x = .int k) ∧ Fr [] H0 H' := by
  obtain ⟨a, b⟩ := yAt h
  rw [List.getElem?_map] at a
  cases e : ns[i]? with
  | none => rw [e] at a; cases a
  | some k => rw [e] at a; exact ⟨⟨k, rfl, (Option.some.inj a).symm⟩, b⟩
def PartK (x : V) (R : Option Int → Hp → Prop) (H : Hp) : Prop := ∃ i, x = .int i ∧ R (some i) H
theorem x_part {R : Option Int → Hp → Prop} (h : te σ H fun x H1 => PartK x R H1) : tPart te σ H R := h
instance o_x_part {R : Option Int → Hp → Prop} : One (tPart te σ H R) (te σ H fun x H1 => PartK x R H1) := ⟨x_part⟩
theorem partk {i : Int} {R : Option Int → Hp → Prop} (h : R (some i) H) : PartK (.int i) R H := ⟨i, rfl, h⟩
instance o_partk {i : Int} {R : Option Int → Hp → Prop} : One (PartK (.int i) R H) (R (some i) H) := ⟨partk⟩
theorem x_nopart {R : Option Int → Hp → Prop} (h : R none H) : tNoPart σ H R := h
instance o_x_nopart {R : Option Int → Hp → Prop} : One (tNoPart σ H R) (R none H) := ⟨x_nopart⟩
theorem x_sl {r : V → Option Int → Option Int → Hp → VK → Prop} {t1 t2 : TO} (h : te σ H fun x H1 => t1 σ H1 fun l H2 => t2 σ H2 fun u H3 => r x l u H3 Q) : tSl r te t1 t2 σ H Q := h
instance o_x_sl {r : V → Option Int → Option Int → Hp → VK → Prop} {t1 t2 : TO} : One (tSl r te t1 t2 σ H Q) (te σ H fun x H1 => t1 σ H1 fun l H2 => t2 σ H2 fun u H3 => r x l u H3 Q) := ⟨x_sl⟩
theorem r_slL {a : Addr} {xs : List V} {lo hi : Option Int} (h : SqL K H a xs) (q : ∀ p H', H p = none → H' p = some (.lst (cutV xs lo hi)) → Fr [] H H' → Q (.ref p) H') : rSlL K (.ref a) lo hi H Q := ⟨a, xs, rfl, h, newk q⟩
theorem r_slT {a : Addr} {xs : List V} {lo hi : Option Int} (h : SqT K H a xs) (hn : ¬ (HT.sIx xs.length 0 lo = 0 ∧ HT.sIx xs.length xs.length hi = xs.length)) (q : ∀ p H', H p = none → H' p = some (.tup (cutV xs lo hi)) → Fr [] H H' → Q (.ref p) H') : rSlT K (.ref a) lo hi H Q := ⟨a, xs, rfl, h, hn, newk q⟩
theorem cut_to (xs : List V) (k : Nat) : cutV xs none (some (k : Int)) = xs.take k := by
  unfold cutV
  rw [HT.sIx_none, HT.sIx_nat, List.drop_zero, Nat.sub_zero]
  by_cases h : k ≤ xs.length
  · rw [Nat.min_eq_left h]
  · rw [Nat.min_eq_right (by omega), List.take_length, List.take_of_length_le (by omega)]
theorem cut_from (xs : List V) (k : Nat) : cutV xs (some (k : Int)) none = xs.drop k := by
  unfold cutV
  rw [HT.sIx_none, HT.sIx_nat]
  by_cases h : k ≤ xs.length
  · rw [Nat.min_eq_left h, List.take_of_length_le (by rw [List.length_drop]; exact Nat.le_refl _)]
  · rw [Nat.min_eq_right (by omega), Nat.sub_self, List.take_zero, List.drop_of_length_le (by omega)]
def DG1 (x : V) (ty : TE) (σ : L2.St) (Q : VK) (H1 : Hp) : Prop := ∃ a, x = .ref a ∧ IsD H1 a ∧ ty σ H1 fun y H2 => ∃ o, DGet H2 a y o ∧ Q (o.getD .non) H2
theorem x_dget1 {td ty : TE} (h : td σ H fun x H1 => DG1 x ty σ Q H1) : tDGet1 td ty σ H Q := h
instance o_x_dget1 {td ty : TE} : One (tDGet1 td ty σ H Q) (td σ H fun x H1 => DG1 x ty σ Q H1) := ⟨x_dget1⟩
def DG1b (a : Addr) (y : V) (Q : VK) (H2 : Hp) : Prop := ∃ o, DGet H2 a y o ∧ Q (o.getD .non) H2
theorem dg1a {a : Addr} {kvs : List (Key × V)} {ty : TE} (h : Rd H a (.dK kvs)) (q : ty σ H fun y H2 => DG1b a y Q H2) : DG1 (.ref a) ty σ Q H := ⟨a, rfl, .inl ⟨kvs, h⟩, q⟩
theorem dg1b {a : Addr} {kvs : List (Key × V)} {n : Int} (h : Rd H a (.dK kvs)) (q : Q ((valV kvs (.inl n)).getD .non) H) : DG1b a (.int n) Q H := ⟨_, .inl ⟨kvs, .inl n, h, rfl, rfl⟩, q⟩
section
variable {tu : TS} {nx bk ct : L2.St → Hp → Prop} {rt : VK} {a : Addr}
theorem loopS (xs : List V) (hx : Sq K H a xs) (Pv : Nat → L2.St → Hp → Prop) (h0 : Pv 0 σ H) (hf : ∀ i σ' H', Pv i σ' H' → Fr [] H H')
    (hs : ∀ i x σ' H', xs[i]? = some x → Pv i σ' H' → SetK σ' j x (tu ⟨Pv (i + 1), rt, nx, Pv (i + 1)⟩) H') (hd : ∀ σ' H', Pv xs.length σ' H' → nx σ' H') :
    ItSK K (.ref a) (fun J H1 => LoopK J (gName j) tu ⟨nx, rt, bk, ct⟩ σ H1) H := by
  rcases hx with hx | hx
  · exact ⟨a, rfl, .inl ⟨⟨xs, hx⟩, loopL xs Pv h0 (fun i σ' H' _ p => (hf i σ' H' p).sqL hx (fun z => nomatch z)) hs hd⟩⟩
  · exact ⟨a, rfl, .inr ⟨⟨xs, hx⟩, loopT xs Pv h0 (fun i σ' H' _ p => (hf i σ' H' p).sqT hx) hs hd⟩⟩
theorem loopLF {M : List Addr} (xs : List V) (hx : SqL K H a xs) (ha : a ∉ M) (Pv : Nat → L2.St → Hp → Prop) (h0 : Pv 0 σ H) (hf : ∀ i σ' H', Pv i σ' H' → Fr M H H')
    (hs : ∀ i x σ' H', xs[i]? = some x → Pv i σ' H' → SetK σ' j x (tu ⟨Pv (i + 1), rt, nx, Pv (i + 1)⟩) H') (hd : ∀ σ' H', Pv xs.length σ' H' → nx σ' H') :
    ItLK K (.ref a) (fun J H1 => LoopK J (gName j) tu ⟨nx, rt, bk, ct⟩ σ H1) H :=
  ⟨a, rfl, ⟨xs, hx⟩, loopL xs Pv h0 (fun i σ' H' _ p => (hf i σ' H' p).sqL hx ha) hs hd⟩
theorem loopR1 (n : Int) (hn : n < 2 ^ 62) (hn' : -(2 ^ 62) ≤ n) (Pv : Nat → L2.St → Hp → Prop) (h0 : Pv 0 σ H) (hs : ∀ (i : Nat) σ' H', (i : Int) < n → Pv i σ' H' → SetK σ' j (.int (i : Int)) (tu ⟨Pv (i + 1), rt, nx, Pv (i + 1)⟩) H')
    (hd : ∀ σ' H', Pv n.toNat σ' H' → nx σ' H') :
    ∃ j' : Int, [V.int n] = [.int j'] ∧ -(2 ^ 62) ≤ j' ∧ j' < 2 ^ 62 ∧ (fun J H1 => LoopK J (gName j) tu ⟨nx, rt, bk, ct⟩ σ H1) (Itr 0 j'.toNat) H := by
  refine ⟨n, rfl, hn', hn, loopR Pv h0 (fun i σ' H' hi p => ?_) hd⟩
  rw [show (0 : Int) + (i : Int) = (i : Int) by omega]
  exact hs i σ' H' (by omega) p
theorem mem_ints {ns : List Int} {i : Nat} {x : V} (h : (ns.map V.int)[i]? = some x) : ∃ n, ns[i]? = some n ∧ n ∈ ns ∧ x = .int n := by
  rw [List.getElem?_map] at h
  cases e : ns[i]? with
  | none => rw [e] at h; cases h
  | some n => rw [e] at h; exact ⟨n, rfl, List.mem_of_getElem? e, (Option.some.inj h).symm⟩
theorem mem_intsM {ns : List Int} {x : V} (h : x ∈ ns.map V.int) : ∃ n, n ∈ ns ∧ x = .int n := by
  obtain ⟨n, a, b⟩ := List.mem_map.mp h
  exact ⟨n, a, b.symm⟩
end
def LkFr (d : Addr) (H H1 : Hp) : Prop := ∀ a o, a ≠ d → H a = some o → H1 a = some o
def UnlK (d : Addr) (od : Obj) (kvs : List (Key × V)) (v : V) (Q : VK) (H2 : Hp) : Prop := H2 d = some (.frz od (.dK kvs)) ∧ Q v (upd H2 d (.dK kvs))
theorem x_lockE {d : Addr} {kvs : List (Key × V)} (hd : H d = some (.dK kvs)) (q : ∀ od H1, H1 d = some (.frz od (.dK kvs)) → LkFr d H H1 → te σ H1 fun v H2 => UnlK d od kvs v Q H2) : tLockE te σ H Q :=
  ⟨d, _, hd, trivial, fun od => q od _ upd_same fun a o n e => by rw [upd_ne n]; exact e⟩
theorem unlk {d : Addr} {od : Obj} {kvs : List (Key × V)} {v : V} {H1 H2 : Hp} (hd : H d = some (.dK kvs)) (e : H1 d = some (.frz od (.dK kvs))) (l : LkFr d H H1) (f : Fr [] H1 H2)
    (q : ∀ H3, Fr [] H H3 → (∀ a o, a ≠ d → H2 a = some o → H3 a = some o) → Q v H3) : UnlK d od kvs v Q H2 := by
  have nn : ∀ a : Addr, a ∉ ([] : List Addr) := fun a z => nomatch z
  refine ⟨f.fz _ _ _ e, q _ ⟨fun a o h _ => ?_, fun t xs h => ?_, fun t o u h => ?_⟩ fun a o n h => by rw [upd_ne n]; exact h⟩
  · by_cases z : a = d
    · subst z; rw [hd] at h; cases h; exact upd_same
    · rw [upd_ne z]; exact f.at_ _ _ (l a o z h) (nn a)
  · have z : t ≠ d := ne_of h hd (by intro z; cases z)
    rw [upd_ne z]; exact f.tp _ _ (l t _ z h)
  · have z : t ≠ d := ne_of h hd (by intro z; cases z)
    rw [upd_ne z]; exact f.fz _ _ _ (l t _ z h)
def KeysK (x : V) (R : It → Hp → Prop) (H1 : Hp) : Prop := ∃ d o, x = .ref d ∧ ((∃ kvs, H1 d = some (.frz o (.dK kvs)) ∧ R (Itk d o kvs) H1) ∨ ∃ kvs, H1 d = some (.frz o (.dT kvs)) ∧ R (Itkt d o kvs) H1)
theorem x_iKeys {td : TE} {R : It → Hp → Prop} (h : td σ H fun x H1 => KeysK x R H1) : iKeys td σ H R := h
instance o_x_iKeys {td : TE} {R : It → Hp → Prop} : One (iKeys td σ H R) (td σ H fun x H1 => KeysK x R H1) := ⟨x_iKeys⟩
theorem keysk {d : Addr} {o : Obj} {kvs : List (Key × V)} {R : It → Hp → Prop} (h : H d = some (.frz o (.dK kvs))) (q : R (Itk d o kvs) H) : KeysK (.ref d) R H := ⟨d, o, rfl, .inl ⟨kvs, h, q⟩⟩
theorem yKey {kvs : List (Key × V)} {ns : List Int} (hk : kvs.map (·.1) = ns.map Sum.inl) {i : Nat} {H0 H' : Hp} {x : V} (h : H' = H0 ∧ ∃ k v, kvs[i]? = some (k, v) ∧ x = kV k) : (∃ k, ns[i]? = some k ∧ x = .int k) ∧ Fr [] H0 H' := by
  obtain ⟨e, k, v, hi, ex⟩ := h
  have h1 : (kvs.map (·.1))[i]? = some k := by rw [List.getElem?_map, hi]; rfl
  rw [hk, List.getElem?_map] at h1
  cases e2 : ns[i]? with
  | none => rw [e2] at h1; cases h1
  | some n =>
    rw [e2] at h1
    have h2 : Sum.inl n = k := Option.some.inj h1
    subst h2
    exact ⟨⟨n, rfl, ex⟩, by rw [e]; exact Fr.refl _ _⟩
end
section
variable {K : PySem.W.Frag} {σ : L2.St} {H : Hp} {Q : VK}
def MkK (C : Addr) (n m : Nat) (sp : Sp) (gV : List V → List V → List V) (E : XK) (vs zs : List V) (Q : VK) (H2 : Hp) : Prop := vs.length = n ∧ zs.length = m ∧ ∀ x dx, H2 x = none → H2 dx = none → dx ≠ x →
  sp (gV (.ref x :: vs) zs) (upd (upd H2 dx (.own x)) x (.ins C dx [])) (fun v H3 => v = .non ∧ Q (.ref x) H3) E
theorem x_mk {C : Addr} {n m : Nat} {sp : Sp} {gV : List V → List V → List V} {E : XK} {t tk : TA} (h : t σ H fun vs H1 => tk σ H1 fun zs H2 => MkK C n m sp gV E vs zs Q H2) : tMakeK C n m sp gV E t tk σ H Q := h
instance o_x_mk {C : Addr} {n m : Nat} {sp : Sp} {gV : List V → List V → List V} {E : XK} {t tk : TA} : One (tMakeK C n m sp gV E t tk σ H Q) (t σ H fun vs H1 => tk σ H1 fun zs H2 => MkK C n m sp gV E vs zs Q H2) := ⟨x_mk⟩
theorem new_ins {x dx C : Addr} (nx : H x = none) (nd : H dx = none) (ne : dx ≠ x) : Fr [] H (upd (upd H dx (.own x)) x (.ins C dx [])) := by
  have e1 : upd H dx (.own x) x = none := by rw [upd_ne ne.symm]; exact nx
  exact (Fr.new nd).trans (Fr.new e1)
structure GC (P : Program) (w : World) (K : PySem.W.Frag) (mg : Str → Option Value) (base : Heap) (C : Addr) (cls : Str) (k : Nat) (ps : List Str) (n : Nat) (ks : List Str) (gV : List V → List V → List V) (sp : Sp) : Prop where
  ex : ∃ (f : Addr) (fd : FuncData) (g : List Value → List Value → List Value), L2.Mk K C f ∧ mg cls = some (.ref C) ∧ FnOk P w K mg base CX0 k f fd ps sp ∧ KBn K fd ps (n + 1) ks g gV
variable {X : Cx} {C : Addr} {x : Str} {k n : Nat} {ps ks : List Str} {gV : List V → List V → List V} {sp : Sp} {p pos : Pos} {e : Expr} {es : List Expr} {kws : List Keyword} {t tk : TA}
theorem c_mk (G : GC X.prog X.w X.K X.mg X.base C x k ps n ks gV sp) (hr : Room (k + 1) X.A) (ha : PA X (e :: es) t) (hkw : PK X kws tk) (hg : Gl X x := by rfl)
    (hall : (backToKw pos (keywordEach kws X.env)).all (·.1.isSome) = true := by rfl) (hks : (backToKw pos (keywordEach kws X.env)).filterMap (·.1) = ks := by rfl) (hdb : (x == ("__debug__" : Str)) = false := by decide)
    (he : starEach (e :: es) X.env = (false, eval e X.env) :: starEach es X.env := by rfl) (hpl : ((backTo pos (starEach (e :: es) X.env)).any (·.1) || (backToKw pos (keywordEach kws X.env)).any (·.1.isNone)) = false := by rfl) :
    PE X (.Call (.Name x p) (e :: es) kws pos) (tMakeK C n ks.length sp gV E0 t tk) := by
  obtain ⟨f, fd, g, M, hm, F, hb⟩ := G.ex
  exact pe_makeK M F hr hg hm hb pass0 ha hkw hall hks hdb he hpl
end
end RL
namespace RL
section
open PySem L2
variable {σ : L2.St} {H : Hp} {te : TE} {tz : TS} {nx bk ct : L2.St → Hp → Prop} {rt : VK} {i : Nat} {f : Int → Int → Int}
theorem q_augI (h : tVar i σ H fun x H0 => te σ H0 fun y H1 => ipI f x y H1 fun z H2 => SetK σ i z (tz ⟨nx, rt, bk, ct⟩) H2) : tSeq (tAug i te (ipI f)) tz ⟨nx, rt, bk, ct⟩ σ H := h
instance o_q_augI : OneS (tSeq (tAug i te (ipI f)) tz ⟨nx, rt, bk, ct⟩ σ H) (tVar i σ H fun x H0 => te σ H0 fun y H1 => ipI f x y H1 fun z H2 => SetK σ i z (tz ⟨nx, rt, bk, ct⟩) H2) := ⟨q_augI⟩
theorem s_augI (h : tVar i σ H fun x H0 => te σ H0 fun y H1 => ipI f x y H1 fun z H2 => SetK σ i z nx H2) : tAug i te (ipI f) ⟨nx, rt, bk, ct⟩ σ H := h
instance o_s_augI : OneS (tAug i te (ipI f) ⟨nx, rt, bk, ct⟩ σ H) (tVar i σ H fun x H0 => te σ H0 fun y H1 => ipI f x y H1 fun z H2 => SetK σ i z nx H2) := ⟨s_augI⟩
end
theorem ifTn {A B : Prop} (h : A) : IfK (!false) A B := ifT h
instance o_ifTn {A B : Prop} : One (IfK (!false) A B) (A) := ⟨ifTn⟩
theorem ifFn {A B : Prop} (h : B) : IfK (!true) A B := ifF h
instance o_ifFn {A B : Prop} : One (IfK (!true) A B) (B) := ⟨ifFn⟩
def far (size s e : Int) : Int := if (e - s) % size = 0 then size else (e - s) % size
def btw (size s p e : Int) : Bool := decide (far size s p < far size s e)
def it (f : Int → Int) : Nat → Int → Int
  | 0, h => h
  | n + 1, h => it f n (f h)
def wl (size : Int) (f : Int → Int) : Nat → Int → Int
  | 0, _ => 0
  | n + 1, h => far size h (f h) + wl size f n (f h)
def Tr (size : Int) (f : Int → Int) (a e s : Int) : Prop := ∃ n, 1 ≤ n ∧ it f n a = e ∧ wl size f n a = s
def Ans (size : Int) (f : Int → Int) (a d : Int) (j : Nat) : Prop := d ≤ wl size f j a ∧ ∀ i, i < j → wl size f i a < d
section
variable {size : Int} {f g : Int → Int} {a h e s d u v x : Int} {m n i j : Nat} {hs : List Int}
theorem far_pos (h : 0 < size) : 0 < far size s e ∧ far size s e ≤ size := by
  unfold far
  have h1 := Int.emod_nonneg (e - s) (show size ≠ 0 by omega)
  have h2 := Int.emod_lt_of_pos (e - s) h
  split <;> omega
theorem far_self : far size s s = size := by
  unfold far
  rw [Int.sub_self, Int.zero_emod, if_pos rfl]
theorem far_emod (h : 0 < size) : far size s e % size = (e - s) % size := by
  unfold far
  split
  · rename_i h0; rw [h0, Int.emod_self]
  · exact Int.emod_emod_of_dvd _ (Int.dvd_refl _)
theorem far_dvd (h : 0 < size) : size ∣ far size s e - (e - s) := Int.dvd_of_emod_eq_zero (by rw [Int.sub_emod, far_emod h]; simp)
theorem far_uniq (h : 0 < size) {k : Int} (k0 : 0 < k) (k1 : k ≤ size) (hd : size ∣ k - (e - s)) : k = far size s e := by
  obtain ⟨p0, p1⟩ := far_pos (s := s) (e := e) h
  have h2 := Int.dvd_sub hd (far_dvd (s := s) (e := e) h)
  obtain ⟨q, hq⟩ := h2
  have hq' : k - far size s e = size * q := by omega
  have : q = 0 := by
    rcases Int.lt_trichotomy q 0 with hl | hl | hl
    · have : size * q ≤ size * (-1) := Int.mul_le_mul_of_nonneg_left (by omega) (by omega)
      omega
    · exact hl
    · have : size * 1 ≤ size * q := Int.mul_le_mul_of_nonneg_left (by omega) (by omega)
      omega
  rw [this] at hq'
  omega
theorem btw_left (h : 0 < size) : btw size s s e = false := by
  unfold btw
  rw [far_self]
  have := far_pos (s := s) (e := e) h
  exact decide_eq_false (by omega)
theorem btw_right : btw size s e e = false := by
  unfold btw
  exact decide_eq_false (by omega)
theorem btw_split (h : 0 < size) (hb : btw size u x v = true) : far size u x + far size x v = far size u v := by
  have hb' : far size u x < far size u v := of_decide_eq_true hb
  have p1 := far_pos (s := u) (e := x) h
  have p2 := far_pos (s := u) (e := v) h
  have e1 : far size u v - far size u x = far size x v := by
    refine far_uniq h (by omega) (by omega) ?_
    have a1 := far_dvd (s := u) (e := v) h
    have a2 := far_dvd (s := u) (e := x) h
    have := Int.dvd_sub a1 a2
    have e2 : far size u v - (v - u) - (far size u x - (x - u)) = far size u v - far size u x - (v - x) := by omega
    rw [e2] at this
    exact this
  omega
theorem it_add : it f (m + n) h = it f n (it f m h) := by
  induction m generalizing h with
  | zero => rw [Nat.zero_add]; rfl
  | succ m ih => rw [Nat.succ_add]; exact ih
theorem it_succ : it f (n + 1) h = f (it f n h) := it_add (m := n) (n := 1)
theorem wl_add : wl size f (m + n) h = wl size f m h + wl size f n (it f m h) := by
  induction m generalizing h with
  | zero => rw [Nat.zero_add]; show _ = 0 + _; rw [Int.zero_add]; rfl
  | succ m ih => rw [Nat.succ_add]; show far size h (f h) + wl size f (m + n) (f h) = _; rw [ih]; show _ = far size h (f h) + _ + _; rw [Int.add_assoc]; rfl
theorem wl_succ : wl size f (n + 1) h = wl size f n h + far size (it f n h) (f (it f n h)) := by
  rw [wl_add]; show _ + (far size _ _ + 0) = _; rw [Int.add_zero]
theorem wl_ge (h0 : 0 < size) : (n : Int) ≤ wl size f n h := by
  induction n generalizing h with
  | zero => exact Int.le_refl _
  | succ n ih => have := ih (h := f h); have := far_pos (s := h) (e := f h) h0; show ((n + 1 : Nat) : Int) ≤ far size h (f h) + wl size f n (f h); omega
theorem wl_lt (h0 : 0 < size) (hij : i < j) : wl size f i h < wl size f j h := by
  obtain ⟨k, rfl⟩ : ∃ k, j = i + (k + 1) := ⟨j - i - 1, by omega⟩
  rw [wl_add]
  have := wl_ge (n := k + 1) (f := f) (h := it f i h) h0
  omega
theorem wl_le (h0 : 0 < size) (hij : i ≤ j) : wl size f i h ≤ wl size f j h := by
  rcases Nat.lt_or_eq_of_le hij with e | e
  · exact Int.le_of_lt (wl_lt h0 e)
  · rw [e]; exact Int.le_refl _
theorem wl_dvd (h0 : 0 < size) : size ∣ wl size f n h - (it f n h - h) := by
  induction n generalizing h with
  | zero => show size ∣ (0 : Int) - (h - h); simp
  | succ n ih =>
    have a1 := ih (h := f h)
    have a2 := far_dvd (s := h) (e := f h) h0
    have := Int.dvd_add a1 a2
    have e : wl size f n (f h) - (it f n (f h) - f h) + (far size h (f h) - (f h - h)) = wl size f (n + 1) h - (it f (n + 1) h - h) := by
      show _ = far size h (f h) + wl size f n (f h) - (it f n (f h) - h)
      omega
    rw [e] at this
    exact this
theorem Ans.uniq (h0 : 0 < size) (x : Ans size f a d i) (y : Ans size f a d j) : i = j := by
  rcases Nat.lt_trichotomy i j with q | q | q
  · have := y.2 i q; have := x.1; omega
  · exact q
  · have := x.2 j q; have := y.1; omega
theorem it_mem (hf : ∀ h ∈ hs, f h ∈ hs) (hh : h ∈ hs) : it f n h ∈ hs := by
  induction n generalizing h with
  | zero => exact hh
  | succ n ih => exact ih (hf h hh)
theorem nodup_sub_len : ∀ {l m : List Int}, l.Nodup → (∀ x ∈ l, x ∈ m) → l.length ≤ m.length
  | [], _, _, _ => Nat.zero_le _
  | a :: r, m, n, h => by
    obtain ⟨n1, n2⟩ := List.nodup_cons.mp n
    have ha := h a List.mem_cons_self
    have := nodup_sub_len (l := r) (m := m.erase a) n2 fun x hx => (List.mem_erase_of_ne (fun e => n1 (by rw [← e]; exact hx))).mpr (h x (List.mem_cons_of_mem _ hx))
    rw [List.length_erase_of_mem ha] at this
    have := List.length_pos_of_mem ha
    rw [List.length_cons]
    omega
theorem pigeon {c : Nat → Int} {n : Nat} (hn : hs.length ≤ n) (hc : ∀ i, i ≤ n → c i ∈ hs) : ∃ i j, i < j ∧ j ≤ n ∧ c i = c j := by
  apply Classical.byContradiction
  intro hno
  have nd : ((List.range (n + 1)).map c).Nodup := by
    rw [List.nodup_iff_pairwise_ne, List.pairwise_map]
    refine List.Pairwise.imp_of_mem (R := (· < ·)) (fun {i j} hi hj hlt e => ?_) List.pairwise_lt_range
    have h1 := List.mem_range.mp hj
    exact hno ⟨i, j, hlt, by omega, e⟩
  have := nodup_sub_len nd fun x hx => by
    obtain ⟨i, hi, e⟩ := List.mem_map.mp hx
    have := List.mem_range.mp hi
    exact e ▸ hc i (by omega)
  rw [List.length_map, List.length_range] at this
  omega
theorem wl_turn (h0 : 0 < size) (hf : ∀ h ∈ hs, f h ∈ hs) (hh : h ∈ hs) (hn : hs.length ≤ n) : size ≤ wl size f n h := by
  obtain ⟨i, j, hij, hj, e⟩ := pigeon (c := fun i => it f i h) hn fun i _ => it_mem hf hh
  have e' : it f i h = it f j h := e
  obtain ⟨k, rfl⟩ : ∃ k, j = i + (k + 1) := ⟨j - i - 1, by omega⟩
  rw [it_add] at e'
  have h1 := wl_dvd (f := f) (n := k + 1) (h := it f i h) h0
  rw [← e'] at h1
  have h2 := wl_ge (n := k + 1) (f := f) (h := it f i h) h0
  have h3 : size ≤ wl size f (k + 1) (it f i h) := Int.le_of_dvd (by omega) (by rw [Int.sub_self, Int.sub_zero] at h1; exact h1)
  have h4 := wl_add (size := size) (f := f) (m := i) (n := k + 1) (h := h)
  have h5 := wl_ge (n := i) (f := f) (h := h) h0
  have h6 := wl_le (f := f) (h := h) h0 hj
  omega
theorem wl_turns (h0 : 0 < size) (hf : ∀ h ∈ hs, f h ∈ hs) (hh : h ∈ hs) : ∀ q : Nat, size * q ≤ wl size f (hs.length * q) h
  | 0 => by show size * 0 ≤ 0; omega
  | q + 1 => by
    have ih := wl_turns h0 hf hh q
    rw [Nat.mul_succ, wl_add]
    have := wl_turn (n := hs.length) h0 hf (it_mem (n := hs.length * q) hf hh) (Nat.le_refl _)
    have e : size * ((q + 1 : Nat) : Int) = size * q + size := by rw [Int.natCast_add, Int.mul_add]; simp
    omega
theorem on_ring (hf : ∀ h ∈ hs, f h ∈ hs) (hh : h ∈ hs) (hn : hs.length ≤ n) : ∃ p, 1 ≤ p ∧ p ≤ hs.length ∧ it f p (it f n h) = it f n h := by
  obtain ⟨i, j, hij, hj, e⟩ := pigeon (c := fun i => it f i h) (Nat.le_refl hs.length) fun i _ => it_mem hf hh
  have e' : it f i h = it f j h := e
  refine ⟨j - i, by omega, by omega, ?_⟩
  obtain ⟨k, rfl⟩ : ∃ k, n = i + k := ⟨n - i, by omega⟩
  rw [← it_add, show i + k + (j - i) = j + k by omega, it_add, it_add, e']
end
end RL
namespace RL
def sub1 : PySem.Stmt → List PySem.Stmt
  | .For _ _ b _ _ => b
  | .While _ b _ _ => b
  | .If _ b _ _ => b
  | _ => []
def stAt (b : List PySem.Stmt) (i : Nat) : PySem.Stmt := b.getD i (.Pass ⟨0, 0, 0, 0⟩)
section
open PySem L2
variable {a b c d e f g i j k l m n o p q a1 b1 c1 d1 e1 f1 g1 i1 j1 : Option V} {v : V} {r : L2.St} {H : Hp} {N : L2.St → Hp → Prop} {Q : VK}
theorem sk16 (h : N (a :: b :: c :: d :: e :: f :: g :: i :: j :: k :: l :: m :: n :: o :: p :: q :: some v :: r) H) : SetK (a :: b :: c :: d :: e :: f :: g :: i :: j :: k :: l :: m :: n :: o :: p :: q :: a1 :: r) 16 v N H := h
instance o_sk16 : One (SetK (a :: b :: c :: d :: e :: f :: g :: i :: j :: k :: l :: m :: n :: o :: p :: q :: a1 :: r) 16 v N H) (N (a :: b :: c :: d :: e :: f :: g :: i :: j :: k :: l :: m :: n :: o :: p :: q :: some v :: r) H) := ⟨sk16⟩
theorem xv16 (h : Q v H) : tVar 16 (a :: b :: c :: d :: e :: f :: g :: i :: j :: k :: l :: m :: n :: o :: p :: q :: some v :: r) H Q := ⟨v, rfl, h⟩
instance o_xv16 : One (tVar 16 (a :: b :: c :: d :: e :: f :: g :: i :: j :: k :: l :: m :: n :: o :: p :: q :: some v :: r) H Q) (Q v H) := ⟨xv16⟩
theorem sk17 (h : N (a :: b :: c :: d :: e :: f :: g :: i :: j :: k :: l :: m :: n :: o :: p :: q :: a1 :: some v :: r) H) : SetK (a :: b :: c :: d :: e :: f :: g :: i :: j :: k :: l :: m :: n :: o :: p :: q :: a1 :: b1 :: r) 17 v N H := h
instance o_sk17 : One (SetK (a :: b :: c :: d :: e :: f :: g :: i :: j :: k :: l :: m :: n :: o :: p :: q :: a1 :: b1 :: r) 17 v N H) (N (a :: b :: c :: d :: e :: f :: g :: i :: j :: k :: l :: m :: n :: o :: p :: q :: a1 :: some v :: r) H) := ⟨sk17⟩
theorem xv17 (h : Q v H) : tVar 17 (a :: b :: c :: d :: e :: f :: g :: i :: j :: k :: l :: m :: n :: o :: p :: q :: a1 :: some v :: r) H Q := ⟨v, rfl, h⟩
instance o_xv17 : One (tVar 17 (a :: b :: c :: d :: e :: f :: g :: i :: j :: k :: l :: m :: n :: o :: p :: q :: a1 :: some v :: r) H Q) (Q v H) := ⟨xv17⟩
theorem sk18 (h : N (a :: b :: c :: d :: e :: f :: g :: i :: j :: k :: l :: m :: n :: o :: p :: q :: a1 :: b1 :: some v :: r) H) : SetK (a :: b :: c :: d :: e :: f :: g :: i :: j :: k :: l :: m :: n :: o :: p :: q :: a1 :: b1 :: c1 :: r) 18 v N H := h
instance o_sk18 : One (SetK (a :: b :: c :: d :: e :: f :: g :: i :: j :: k :: l :: m :: n :: o :: p :: q :: a1 :: b1 :: c1 :: r) 18 v N H) (N (a :: b :: c :: d :: e :: f :: g :: i :: j :: k :: l :: m :: n :: o :: p :: q :: a1 :: b1 :: some v :: r) H) := ⟨sk18⟩
theorem xv18 (h : Q v H) : tVar 18 (a :: b :: c :: d :: e :: f :: g :: i :: j :: k :: l :: m :: n :: o :: p :: q :: a1 :: b1 :: some v :: r) H Q := ⟨v, rfl, h⟩
instance o_xv18 : One (tVar 18 (a :: b :: c :: d :: e :: f :: g :: i :: j :: k :: l :: m :: n :: o :: p :: q :: a1 :: b1 :: some v :: r) H Q) (Q v H) := ⟨xv18⟩
theorem sk19 (h : N (a :: b :: c :: d :: e :: f :: g :: i :: j :: k :: l :: m :: n :: o :: p :: q :: a1 :: b1 :: c1 :: some v :: r) H) : SetK (a :: b :: c :: d :: e :: f :: g :: i :: j :: k :: l :: m :: n :: o :: p :: q :: a1 :: b1 :: c1 :: d1 :: r) 19 v N H := h
instance o_sk19 : One (SetK (a :: b :: c :: d :: e :: f :: g :: i :: j :: k :: l :: m :: n :: o :: p :: q :: a1 :: b1 :: c1 :: d1 :: r) 19 v N H) (N (a :: b :: c :: d :: e :: f :: g :: i :: j :: k :: l :: m :: n :: o :: p :: q :: a1 :: b1 :: c1 :: some v :: r) H) := ⟨sk19⟩
theorem xv19 (h : Q v H) : tVar 19 (a :: b :: c :: d :: e :: f :: g :: i :: j :: k :: l :: m :: n :: o :: p :: q :: a1 :: b1 :: c1 :: some v :: r) H Q := ⟨v, rfl, h⟩
instance o_xv19 : One (tVar 19 (a :: b :: c :: d :: e :: f :: g :: i :: j :: k :: l :: m :: n :: o :: p :: q :: a1 :: b1 :: c1 :: some v :: r) H Q) (Q v H) := ⟨xv19⟩
theorem sk20 (h : N (a :: b :: c :: d :: e :: f :: g :: i :: j :: k :: l :: m :: n :: o :: p :: q :: a1 :: b1 :: c1 :: d1 :: some v :: r) H) : SetK (a :: b :: c :: d :: e :: f :: g :: i :: j :: k :: l :: m :: n :: o :: p :: q :: a1 :: b1 :: c1 :: d1 :: e1 :: r) 20 v N H := h
instance o_sk20 : One (SetK (a :: b :: c :: d :: e :: f :: g :: i :: j :: k :: l :: m :: n :: o :: p :: q :: a1 :: b1 :: c1 :: d1 :: e1 :: r) 20 v N H) (N (a :: b :: c :: d :: e :: f :: g :: i :: j :: k :: l :: m :: n :: o :: p :: q :: a1 :: b1 :: c1 :: d1 :: some v :: r) H) := ⟨sk20⟩
theorem xv20 (h : Q v H) : tVar 20 (a :: b :: c :: d :: e :: f :: g :: i :: j :: k :: l :: m :: n :: o :: p :: q :: a1 :: b1 :: c1 :: d1 :: some v :: r) H Q := ⟨v, rfl, h⟩
instance o_xv20 : One (tVar 20 (a :: b :: c :: d :: e :: f :: g :: i :: j :: k :: l :: m :: n :: o :: p :: q :: a1 :: b1 :: c1 :: d1 :: some v :: r) H Q) (Q v H) := ⟨xv20⟩
theorem sk21 (h : N (a :: b :: c :: d :: e :: f :: g :: i :: j :: k :: l :: m :: n :: o :: p :: q :: a1 :: b1 :: c1 :: d1 :: e1 :: some v :: r) H) : SetK (a :: b :: c :: d :: e :: f :: g :: i :: j :: k :: l :: m :: n :: o :: p :: q :: a1 :: b1 :: c1 :: d1 :: e1 :: f1 :: r) 21 v N H := h
instance o_sk21 : One (SetK (a :: b :: c :: d :: e :: f :: g :: i :: j :: k :: l :: m :: n :: o :: p :: q :: a1 :: b1 :: c1 :: d1 :: e1 :: f1 :: r) 21 v N H) (N (a :: b :: c :: d :: e :: f :: g :: i :: j :: k :: l :: m :: n :: o :: p :: q :: a1 :: b1 :: c1 :: d1 :: e1 :: some v :: r) H) := ⟨sk21⟩
theorem xv21 (h : Q v H) : tVar 21 (a :: b :: c :: d :: e :: f :: g :: i :: j :: k :: l :: m :: n :: o :: p :: q :: a1 :: b1 :: c1 :: d1 :: e1 :: some v :: r) H Q := ⟨v, rfl, h⟩
instance o_xv21 : One (tVar 21 (a :: b :: c :: d :: e :: f :: g :: i :: j :: k :: l :: m :: n :: o :: p :: q :: a1 :: b1 :: c1 :: d1 :: e1 :: some v :: r) H Q) (Q v H) := ⟨xv21⟩
theorem sk22 (h : N (a :: b :: c :: d :: e :: f :: g :: i :: j :: k :: l :: m :: n :: o :: p :: q :: a1 :: b1 :: c1 :: d1 :: e1 :: f1 :: some v :: r) H) : SetK (a :: b :: c :: d :: e :: f :: g :: i :: j :: k :: l :: m :: n :: o :: p :: q :: a1 :: b1 :: c1 :: d1 :: e1 :: f1 :: g1 :: r) 22 v N H := h
instance o_sk22 : One (SetK (a :: b :: c :: d :: e :: f :: g :: i :: j :: k :: l :: m :: n :: o :: p :: q :: a1 :: b1 :: c1 :: d1 :: e1 :: f1 :: g1 :: r) 22 v N H) (N (a :: b :: c :: d :: e :: f :: g :: i :: j :: k :: l :: m :: n :: o :: p :: q :: a1 :: b1 :: c1 :: d1 :: e1 :: f1 :: some v :: r) H) := ⟨sk22⟩
theorem xv22 (h : Q v H) : tVar 22 (a :: b :: c :: d :: e :: f :: g :: i :: j :: k :: l :: m :: n :: o :: p :: q :: a1 :: b1 :: c1 :: d1 :: e1 :: f1 :: some v :: r) H Q := ⟨v, rfl, h⟩
instance o_xv22 : One (tVar 22 (a :: b :: c :: d :: e :: f :: g :: i :: j :: k :: l :: m :: n :: o :: p :: q :: a1 :: b1 :: c1 :: d1 :: e1 :: f1 :: some v :: r) H Q) (Q v H) := ⟨xv22⟩
theorem sk23 (h : N (a :: b :: c :: d :: e :: f :: g :: i :: j :: k :: l :: m :: n :: o :: p :: q :: a1 :: b1 :: c1 :: d1 :: e1 :: f1 :: g1 :: some v :: r) H) : SetK (a :: b :: c :: d :: e :: f :: g :: i :: j :: k :: l :: m :: n :: o :: p :: q :: a1 :: b1 :: c1 :: d1 :: e1 :: f1 :: g1 :: i1 :: r) 23 v N H := h
instance o_sk23 : One (SetK (a :: b :: c :: d :: e :: f :: g :: i :: j :: k :: l :: m :: n :: o :: p :: q :: a1 :: b1 :: c1 :: d1 :: e1 :: f1 :: g1 :: i1 :: r) 23 v N H) (N (a :: b :: c :: d :: e :: f :: g :: i :: j :: k :: l :: m :: n :: o :: p :: q :: a1 :: b1 :: c1 :: d1 :: e1 :: f1 :: g1 :: some v :: r) H) := ⟨sk23⟩
theorem xv23 (h : Q v H) : tVar 23 (a :: b :: c :: d :: e :: f :: g :: i :: j :: k :: l :: m :: n :: o :: p :: q :: a1 :: b1 :: c1 :: d1 :: e1 :: f1 :: g1 :: some v :: r) H Q := ⟨v, rfl, h⟩
instance o_xv23 : One (tVar 23 (a :: b :: c :: d :: e :: f :: g :: i :: j :: k :: l :: m :: n :: o :: p :: q :: a1 :: b1 :: c1 :: d1 :: e1 :: f1 :: g1 :: some v :: r) H Q) (Q v H) := ⟨xv23⟩
end
section
open PySem L2
theorem cutT {t : TT} {σ : L2.St} {H : Hp} {R : Bool → Hp → Prop} (M : Bool → Hp → Prop) (h : ∀ R' : Bool → Hp → Prop, (∀ b H1, M b H1 → R' b H1) → t σ H R') (k : ∀ b H1, M b H1 → R b H1) : t σ H R := h _ k
end
section
variable {size : Int} {f g : Int → Int} {a h e s d u v x : Int} {m n i j : Nat} {hs : List Int}
theorem far_least (h0 : 0 < size) {k : Int} (k0 : 0 < k) (hd : size ∣ k - (e - s)) : far size s e ≤ k := by
  obtain ⟨p0, p1⟩ := far_pos (s := s) (e := e) h0
  have h2 := Int.dvd_sub (far_dvd (s := s) (e := e) h0) hd
  rw [show far size s e - (e - s) - (k - (e - s)) = far size s e - k by omega] at h2
  apply Classical.byContradiction
  intro hc
  have := Int.le_of_dvd (by omega) h2
  omega
theorem btw_back (h0 : 0 < size) (hb : btw size u x v = true) : far size x v ≤ far size x u := by
  have e1 := btw_split h0 hb
  have d1 := far_dvd (s := u) (e := x) h0
  have d2 := far_dvd (s := x) (e := u) h0
  have d3 := Int.dvd_add d1 d2
  rw [show far size u x - (x - u) + (far size x u - (u - x)) = far size u x + far size x u by omega] at d3
  have p1 := far_pos (s := u) (e := x) h0
  have p2 := far_pos (s := x) (e := u) h0
  have p3 := far_pos (s := u) (e := v) h0
  have := Int.le_of_dvd (by omega) d3
  omega
theorem btw_ne (h0 : 0 < size) (hb : btw size u x v = true) : x ≠ u := fun e => by
  subst e
  rw [btw_left h0] at hb
  cases hb
theorem it_cong (hg : ∀ h, h ≠ u → g h = f h) : ∀ {n : Nat} {x : Int}, (∀ i, i < n → it f i x ≠ u) → it g n x = it f n x ∧ wl size g n x = wl size f n x
  | 0, x, _ => ⟨rfl, rfl⟩
  | n + 1, x, hn => by
    have h0 : g x = f x := hg x (hn 0 (by omega))
    obtain ⟨a, b⟩ := it_cong hg (n := n) (x := f x) fun i hi => hn (i + 1) (by omega)
    refine ⟨?_, ?_⟩
    · show it g n (g x) = it f n (f x); rw [h0, a]
    · show far size x (g x) + wl size g n (g x) = far size x (f x) + wl size f n (f x); rw [h0, b]
theorem free_way (h0 : 0 < size) (hb : btw size u x v = true) (hn : it f n x = v) (hw : wl size f n x = far size x v) : ∀ i, i < n → it f i x ≠ u := fun i hi e => by
  have a1 := wl_lt (f := f) (h := x) h0 hi
  have a2 := wl_dvd (f := f) (n := i) (h := x) h0
  rw [e] at a2
  have a3 := btw_back h0 hb
  cases i with
  | zero => exact btw_ne h0 hb e
  | succ i =>
    have a4 := wl_ge (n := i + 1) (f := f) (h := x) h0
    have := far_least h0 (by omega) a2
    omega
theorem parted (h0 : 0 < size) (hb : btw size u x (f u) = true) (t : Tr size f x (f u) (far size x (f u))) (hg : ∀ h, h ≠ u → g h = f h) (hu : g u = x) : Tr size g u (f u) (far size u (f u)) := by
  obtain ⟨n, n1, e1, e2⟩ := t
  obtain ⟨c1, c2⟩ := it_cong (size := size) hg (free_way h0 hb e1 e2)
  refine ⟨n + 1, by omega, ?_, ?_⟩
  · show it g n (g u) = _; rw [hu, c1, e1]
  · show far size u (g u) + wl size g n (g u) = _; rw [hu, c2, e2, btw_split h0 hb]
theorem ways_kept (h1 : ∀ a, ∃ m, 1 ≤ m ∧ it g m a = f a ∧ wl size g m a = far size a (f a)) : ∀ (n : Nat) (a : Int), ∃ m, n ≤ m ∧ it g m a = it f n a ∧ wl size g m a = wl size f n a
  | 0, a => ⟨0, Nat.le_refl _, rfl, rfl⟩
  | n + 1, a => by
    obtain ⟨m, m1, e1, e2⟩ := h1 a
    obtain ⟨m', m2, e3, e4⟩ := ways_kept h1 n (f a)
    refine ⟨m + m', by omega, ?_, ?_⟩
    · rw [it_add, e1, e3]; rfl
    · rw [wl_add, e1, e2, e4]; rfl
theorem Tr.kept (h1 : ∀ a, ∃ m, 1 ≤ m ∧ it g m a = f a ∧ wl size g m a = far size a (f a)) (t : Tr size f a e s) : Tr size g a e s := by
  obtain ⟨n, n1, e1, e2⟩ := t
  obtain ⟨m, m1, c1, c2⟩ := ways_kept h1 n a
  exact ⟨m, by omega, c1.trans e1, c2.trans e2⟩
theorem Tr.part (h0 : 0 < size) (hb : btw size u x (f u) = true) (t : Tr size f x (f u) (far size x (f u))) (hg : ∀ h, h ≠ u → g h = f h) (hu : g u = x) (q : Tr size f a e s) : Tr size g a e s :=
  q.kept fun a => by
    by_cases ea : a = u
    · subst ea
      obtain ⟨m, m1, c1, c2⟩ := parted h0 hb t hg hu
      exact ⟨m, m1, c1, c2⟩
    · exact ⟨1, Nat.le_refl _, hg a ea, by show far size a (g a) + 0 = _; rw [hg a ea]; omega⟩
theorem Tr.one : Tr size f a (f a) (far size a (f a)) := ⟨1, Nat.le_refl _, rfl, by show _ + 0 = _; omega⟩
theorem Tr.ans (h0 : 0 < size) (t : Tr size f a e s) (hd : d ≤ s) (x : Ans size f a d j) : wl size f j a ≤ s := by
  obtain ⟨n, n1, e1, e2⟩ := t
  apply Classical.byContradiction
  intro hc
  have : n < j := by
    apply Classical.byContradiction
    intro hn
    have := wl_le (f := f) (h := a) h0 (show j ≤ n by omega)
    omega
  have := x.2 n this
  omega
theorem Ans.pos (hd : 0 < d) (x : Ans size f a d j) : 1 ≤ j := by
  cases j with
  | zero => have h : d ≤ 0 := x.1; omega
  | succ j => omega
theorem Ans.tr (hd : 0 < d) (x : Ans size f a d j) : Tr size f a (it f j a) (wl size f j a) := ⟨j, x.pos hd, rfl, rfl⟩
theorem Ans.lt (h0 : 0 < size) (hd : 0 < d) (hs : d ≤ size) (x : Ans size f a d j) : wl size f j a < d + size := by
  cases j with
  | zero => show 0 < _; omega
  | succ j =>
    have := x.2 j (by omega)
    have := far_pos (s := it f j a) (e := f (it f j a)) h0
    rw [wl_succ]
    omega
end
end RL
open PySem L2 RL
open LiI (pe_listItems rItemsL tListItems)
local macro_rules | `(tactic| l_intsW) => `(tactic| first
  | assumption
  | (exact List.not_mem_nil)
  | (simp only [List.mem_cons, List.not_mem_nil, or_false, not_or]; (repeat' constructor) <;> first
    | assumption
    | (exact Ne.symm (by assumption))
    | (refine @L2.ne_of_none ?nH _ _ ?no ?na ?nb; (case nb => assumption); (case na => assumption))
    | (refine Ne.symm (@L2.ne_of_none ?nH _ _ ?no ?na ?nb); (case nb => assumption); (case na => assumption))
    | (refine @L2.ne_of ?nH _ _ ?no ?nu ?na ?nb ?nc; (case na => assumption); (case nb => assumption); (case nc => with_unfolding_all (intro z; cases z)))))
local macro_rules | `(tactic| k_clsL) => `(tactic| first
  | assumption
  | ((with_reducible refine Fr.at_ (by assumption) _ _ ?fa ?fb); (case fa => k_clsL); (case fb => l_intsW))
  | ((with_reducible refine Fr.tp (by assumption) _ _ ?_); k_clsL))
local macro_rules | `(tactic| tb_start) => `(tactic| first
  | (refine Go.h ?_)
  | ((with_reducible refine r_i ?rc ?_); (case rc => first | assumption | omega | (unfold CPow; decide) | (unfold CMul; omega) | (exact divW (by omega) (by omega))))
  | ((with_reducible refine r_ixL (sqL_of ?rh) ?ra ?_); (case rh => assumption); (case ra => first | rfl | assumption))
  | (with_reducible refine NetT.f1 (by assumption) (by k_clsL) ?_)
  | (with_reducible refine NetT.f2 (by assumption) (by k_clsL) ?_)
  | (with_reducible refine NetT.f3 (by assumption) (by k_clsL) ?_)
  | (with_reducible refine NetT.f4 (by assumption) (by k_clsL) ?_)
  | ((with_reducible refine net_mt (by k_clsL) ?nm ?_); (case nm => decide +kernel))
  | (with_reducible refine tyLst (by k_clsL) ?_))
local macro_rules | `(tactic| tb_rel) => `(tactic| first
  | (refine GoS.h ?_)
  | ((with_reducible refine r_i ?rc ?_); (case rc => first | assumption | omega | (unfold CPow; decide) | (unfold CMul; omega) | (exact divW (by omega) (by omega))))
  | ((with_reducible refine r_ixL (sqL_of ?rh) ?ra ?_); (case rh => assumption); (case ra => first | rfl | assumption))
  | (with_reducible refine NetT.f1 (by assumption) (by k_clsL) ?_)
  | (with_reducible refine NetT.f2 (by assumption) (by k_clsL) ?_)
  | (with_reducible refine NetT.f3 (by assumption) (by k_clsL) ?_)
  | (with_reducible refine NetT.f4 (by assumption) (by k_clsL) ?_)
  | ((with_reducible refine net_mt (by k_clsL) ?nm ?_); (case nm => decide +kernel))
  | (with_reducible refine tyLst (by k_clsL) ?_))
local macro_rules | `(tactic| k_places) => `(tactic| (repeat tb_start))
local macro_rules | `(tactic| k_offL) => `(tactic| (repeat tb_rel))
set_option synthInstance.maxHeartbeats 4000000
set_option synthInstance.maxSize 4000
namespace RL
def top (i : Nat) : Stmt := PySem.Challenge.pw_ringlaps_k70_whole_lengths_never_grow.main.body.getD i (.Pass ⟨0, 0, 0, 0⟩)
def spFar : Sp := fun vs H Q _ => ∃ size s e : Int, vs = [.int size, .int s, .int e] ∧ 0 < size ∧ Q (.int (far size s e)) H
theorem i_far {size s e : Int} {H : Hp} {Q : VK} {E : XK} (h : 0 < size) (q : Q (.int (far size s e)) H) : spFar [.int size, .int s, .int e] H Q E := ⟨_, _, _, rfl, h, q⟩
section
variable {P : Program} {w : World} {K : PySem.W.Frag} {mg : Str → Option Value} {base : Heap} {CNet CMender CDesk CStore CWalk : Addr}
abbrev s_far : Stmt := top 2
theorem sc_far : FnScope ["size", "start", "end", "steps"] ["size", "start", "end"] (defScope s_far) := ⟨rfl, rfl, rfl, by decide +kernel, rfl, by decide +kernel, by decide +kernel⟩
theorem ok_far {f : Addr} {fd : FuncData} (F : Fun K "far" "far" s_far f fd) : FnOk P w K mg base CX0 1 f fd ["size", "start", "end"] spFar := by
  refine F.ok sc_far (fun vs H Q E h => ?_) (fun cdv A outer s H vs Q E hr h => ?_)
  · obtain ⟨_, _, _, rfl, _⟩ := h; rfl
  · obtain ⟨size, st, e, rfl, h0, k⟩ := h
    refine ⟨_, (pss_cons (ps_set (i := 3) sc_far.nd rfl (Or.inl rfl) (pe_op op_mod (pe_op op_sub (pv 2) (pv 1)) (pv 0)))
      (pss_cons (ps_if (pt_cmpR op_eq (pv 3) pe_int (nomark _)) (pss_one (ps_ret (pv 0))) pss_nil)
      (pss_one (ps_ret (pv 3))))), ?_⟩
    (try simp only [cxK, cxKX, List.map])
    refine ent (σ' := [some _, some _, some _, none]) rfl ?_
    k_offL
    refine ifD (fun h => ?_) (fun h => ?_)
    · k_offL
      unfold far at k
      rw [if_pos h] at k
      exact k
    · k_offL
      unfold far at k
      rw [if_neg h] at k
      exact k
end
def spBetween : Sp := fun vs H Q _ => ∃ size s p e : Int, vs = [.int size, .int s, .int p, .int e] ∧ 0 < size ∧ Q (.bl (btw size s p e)) H
theorem i_between {size s p e : Int} {H : Hp} {Q : VK} {E : XK} (h : 0 < size) (q : Q (.bl (btw size s p e)) H) : spBetween [.int size, .int s, .int p, .int e] H Q E := ⟨_, _, _, _, rfl, h, q⟩
section
variable {P : Program} {w : World} {K : PySem.W.Frag} {mg : Str → Option Value} {base : Heap} {CNet CMender CDesk CStore CWalk : Addr}
abbrev s_between : Stmt := top 3
theorem sc_between : FnScope ["size", "start", "place", "end"] ["size", "start", "place", "end"] (defScope s_between) := ⟨rfl, rfl, rfl, by decide +kernel, rfl, by decide +kernel, by decide +kernel⟩
theorem ok_between {f : Addr} {fd : FuncData} (F : Fun K "between" "between" s_between f fd) (G_far : GF P w K mg base "far" 1 ["size", "start", "end"] spFar) : FnOk P w K mg base CX0 2 f fd ["size", "start", "place", "end"] spBetween := by
  refine F.ok sc_between (fun vs H Q E h => ?_) (fun cdv A outer s H vs Q E hr h => ?_)
  · obtain ⟨_, _, _, _, rfl, _⟩ := h; rfl
  · obtain ⟨size, st, p, e, rfl, h0, k⟩ := h
    refine ⟨_, (pss_one (ps_ret (pe_cmpR op_lt (c_fn G_far (hr.mono (by decide)) (pa_cons (pv 0) (pa_cons (pv 1) (pa_cons (pv 2) pa_nil)))) (c_fn G_far (hr.mono (by decide)) (pa_cons (pv 0) (pa_cons (pv 1) (pa_cons (pv 3) pa_nil)))) (nomark _)))), ?_⟩
    (try simp only [cxK, cxKX, List.map])
    refine ent (σ' := [some _, some _, some _, some _]) rfl ?_
    k_offL
    refine i_far h0 ?_
    k_offL
    refine i_far h0 ?_
    k_offL
    exact k
end
def spLetterPlaces : Sp := fun vs H Q _ => ∃ (t : Addr) (l : LT), vs = [.ref t] ∧ H t = some (.tup l.vs) ∧ ∀ p H', H p = none → H' p = some (.tup (l.pl.map V.int)) → Fr [] H H' → Q (.ref p) H'
theorem LT.cut (l : LT) : cutV l.vs (some 1) none = l.pl.map V.int := by cases l <;> rfl
section
variable {P : Program} {w : World} {K : PySem.W.Frag} {mg : Str → Option Value} {base : Heap} {CNet CMender CDesk CStore CWalk : Addr}
abbrev s_letter_places : Stmt := top 20
theorem sc_letter_places : FnScope ["letter"] ["letter"] (defScope s_letter_places) := ⟨rfl, rfl, rfl, by decide +kernel, rfl, by decide +kernel, by decide +kernel⟩
theorem ok_letter_places {f : Addr} {fd : FuncData} (F : Fun K "letter_places" "letter_places" s_letter_places f fd) : FnOk P w K mg base CX0 1 f fd ["letter"] spLetterPlaces := by
  refine F.ok sc_letter_places (fun vs H Q E h => ?_) (fun cdv A outer s H vs Q E hr h => ?_)
  · obtain ⟨_, _, rfl, _⟩ := h; rfl
  · obtain ⟨t, l, rfl, ht, k⟩ := h
    refine ⟨_, (pss_one (ps_ret (pe_slice (sl_tupK (K := K) rfl) (pv 0) (po_some pe_int) po_none))), ?_⟩
    (try simp only [cxK, cxKX, List.map])
    refine ent (σ' := [some _]) rfl ?_
    k_offL
    refine r_slT (sqT_of ht) (fun z => by cases l <;> exact absurd (show (1 : Nat) = 0 from z.1) (by decide)) fun p H' np hp f => ?_
    rw [LT.cut] at hp
    exact k p H' np hp f
end
def spCheckPlace : Sp := fun vs H Q _ => ∃ size p : Int, vs = [.int size, .int p] ∧ 0 ≤ p ∧ p < size ∧ Q .non H
theorem i_check_place {size p : Int} {H : Hp} {Q : VK} {E : XK} (h0 : 0 ≤ p) (h : p < size) (q : Q .non H) : spCheckPlace [.int size, .int p] H Q E := ⟨_, _, rfl, h0, h, q⟩
section
variable {P : Program} {w : World} {K : PySem.W.Frag} {mg : Str → Option Value} {base : Heap} {CNet CMender CDesk CStore CWalk : Addr}
abbrev s_check_place : Stmt := top 22
theorem sc_check_place : FnScope ["size", "place"] ["size", "place"] (defScope s_check_place) := ⟨rfl, rfl, rfl, by decide +kernel, rfl, by decide +kernel, by decide +kernel⟩
theorem ok_check_place {f : Addr} {fd : FuncData} (F : Fun K "check_place" "check_place" s_check_place f fd) : FnOk P w K mg base CX0 1 f fd ["size", "place"] spCheckPlace := by
  refine F.ok sc_check_place (fun vs H Q E h => ?_) (fun cdv A outer s H vs Q E hr h => ?_)
  · obtain ⟨_, _, rfl, _⟩ := h; rfl
  · obtain ⟨size, p, rfl, h0, h1, k⟩ := h
    refine ⟨_, (pss_one (ps_if (pt_not (pt_chain op_le op_lt pe_int (pv 1) (pv 0))) (pss_one ps_never) pss_nil)), ?_⟩
    (try simp only [cxK, cxKX, List.map])
    refine ent (σ' := [some _, some _]) rfl ?_
    k_offL
    refine ifDT h0 ?_
    k_offL
    refine ifNF h1 ?_
    k_offL
    exact k
end
def spCheckHouses (K : PySem.W.Frag) : Sp := fun vs H Q _ => ∃ (a p : Addr) (kvs : List (Key × V)) (m : Int → Option V) (ns : List Int), vs = [.ref a, .ref p] ∧ Rd H a (.dK kvs) ∧ DOk kvs m ∧ Sq K H p (ns.map V.int) ∧ (∀ n ∈ ns, (m n).isSome = true) ∧ Q .non H
theorem i_check_houses {K : PySem.W.Frag} {a p : Addr} {kvs : List (Key × V)} {m : Int → Option V} (ns : List Int) {H : Hp} {Q : VK} {E : XK} (h : Rd H a (.dK kvs)) (d : DOk kvs m) (hp : Sq K H p (ns.map V.int)) (hm : ∀ n ∈ ns, (m n).isSome = true) (q : Q .non H) :
    spCheckHouses K [.ref a, .ref p] H Q E := ⟨a, p, kvs, m, ns, rfl, h, d, hp, hm, q⟩
section
variable {P : Program} {w : World} {K : PySem.W.Frag} {mg : Str → Option Value} {base : Heap} {CNet CMender CDesk CStore CWalk : Addr}
abbrev s_check_houses : Stmt := top 23
theorem sc_check_houses : FnScope ["houses", "places", "place"] ["houses", "places"] (defScope s_check_houses) := ⟨rfl, rfl, rfl, by decide +kernel, rfl, by decide +kernel, by decide +kernel⟩
theorem ok_check_houses {f : Addr} {fd : FuncData} (F : Fun K "check_houses" "check_houses" s_check_houses f fd) : FnOk P w K mg base CX0 1 f fd ["houses", "places"] (spCheckHouses K) := by
  refine F.ok sc_check_houses (fun vs H Q E h => ?_) (fun cdv A outer s H vs Q E hr h => ?_)
  · obtain ⟨_, _, _, _, _, rfl, _⟩ := h; rfl
  · obtain ⟨a, p, kvs, m, ns, rfl, ha, d, hp, hm, k⟩ := h
    refine ⟨_, (pss_one (ps_for PassesOwn.never rfl (pi_seqK (K := K) rfl (pv 1)) (pg_name (i := 2) sc_check_houses.nd rfl (Or.inl rfl))
      (pss_one (ps_if (pt_cmp (pc_dnotin (hu_of hr) (pv 2) (pv 0))) (pss_one ps_never) pss_nil)))), ?_⟩
    (try simp only [cxK, cxKX, List.map])
    refine ent (σ' := [some _, some _, none]) rfl ?_
    k_offL
    refine loopS (ns.map V.int) hp (fun i σ' H' => (∃ v, σ' = [some (.ref a), some (.ref p), v]) ∧ H' = H) ⟨⟨_, rfl⟩, rfl⟩ (fun i σ' H' z => by rw [z.2]; exact Fr.refl _ _) ?_ ?_
    · rintro i x σ' _ hi ⟨⟨v, rfl⟩, rfl⟩
      obtain ⟨n, _, hn, rfl⟩ := mem_ints hi
      k_offL
      refine dink ha ?_
      refine blk (ifE (show _ = false by rw [d.val, hm n hn]; rfl) ?_)
      k_offL
      exact ⟨⟨_, rfl⟩, rfl⟩
    · rintro σ' _ ⟨⟨v, rfl⟩, rfl⟩
      exact k
end
def spCheckTables : Sp := fun vs H Q _ => ∃ (a b l : Addr) (kn kb : List (Key × V)) (lv : List V) (N : NS) (bd : Unit), vs = [.int N.size, .ref a, .ref b, .ref l] ∧ H a = some (.dK kn) ∧ DOk kn N.mf ∧ H b = some (.dK kb) ∧ DOk kb N.lb ∧ H l = some (.lst lv) ∧ LetsIs H N.post lv ∧ N.Ok ∧
  ∀ H', Fr [] H H' → Q .non H'
def NS.bs (N : NS) : List Int := N.hs.filter fun h => (N.b h).isSome
theorem NS.Ok.ascL {N : NS} (h : N.Ok) : Asc N.bs N.lb := ⟨h.up.filter _, fun n => by
  unfold NS.bs NS.lb
  rw [List.mem_filter, Option.isSome_map]
  constructor
  · exact fun z => z.2
  · intro z
    obtain ⟨x, hx⟩ := Option.isSome_iff_exists.mp z
    exact ⟨(h.bh n x hx).1, z⟩⟩
theorem NS.Ok.bl {N : NS} (h : N.Ok) : N.bs.length ≤ 45 := Nat.le_trans (List.length_filter_le _ _) h.hl
theorem NS.mf_some {N : NS} {h : Int} (m : h ∈ N.hs) : (N.mf h).isSome = true := by rw [NS.mf_at m]; rfl
section
variable {P : Program} {w : World} {K : PySem.W.Frag} {mg : Str → Option Value} {base : Heap} {CNet CMender CDesk CStore CWalk : Addr}
abbrev s_check_tables : Stmt := top 24
theorem sc_check_tables : FnScope ["size", "nexts", "behinds", "post", "house", "letter"] ["size", "nexts", "behinds", "post"] (defScope s_check_tables) := ⟨rfl, rfl, rfl, by decide +kernel, rfl, by decide +kernel, by decide +kernel⟩
theorem ok_check_tables {f : Addr} {fd : FuncData} (F : Fun K "check_tables" "check_tables" s_check_tables f fd) (m_sorted : mg "sorted" = none) (G_check_place : GF P w K mg base "check_place" 1 ["size", "place"] spCheckPlace) (G_check_houses : GF P w K mg base "check_houses" 1 ["houses", "places"] (spCheckHouses K)) (G_letter_places : GF P w K mg base "letter_places" 1 ["letter"] spLetterPlaces) : FnOk P w K mg base CX0 2 f fd ["size", "nexts", "behinds", "post"] spCheckTables := by
  refine F.ok sc_check_tables (fun vs H Q E h => ?_) (fun cdv A outer s H vs Q E hr h => ?_)
  · obtain ⟨_, _, _, _, _, _, _, _, rfl, _⟩ := h; rfl
  · obtain ⟨a, b, l, kn, kb, lv, N, _, rfl, ha, da, hb, db, hl, ls, ok, k⟩ := h
    refine ⟨_, (pss_cons (ps_for PassesOwn.never rfl (pi_listK (K := K) rfl (pe_callB (cb_sortD rfl) (by rfl) m_sorted b_sorted (pa_cons (pv 1) pa_nil))) (pg_name (i := 4) sc_check_tables.nd rfl (Or.inl rfl))
      (pss_one (ps_expr (c_fn G_check_place (hr.mono (by decide)) (pa_cons (pv 0) (pa_cons (pv 4) pa_nil))))))
      (pss_cons (ps_for PassesOwn.never rfl (pi_listK (K := K) rfl (pe_callB (cb_sortD rfl) (by rfl) m_sorted b_sorted (pa_cons (pv 1) pa_nil))) (pg_name (i := 4) sc_check_tables.nd rfl (Or.inl rfl))
      (pss_one (ps_expr (c_fn G_check_houses (hr.mono (by decide)) (pa_cons (pv 1) (pa_cons (pe_lst (pa_cons (pe_dget (hu_of hr) (pv 1) (pv 4) (by intro _ _; rfl)) pa_nil)) pa_nil))))))
      (pss_cons (ps_for PassesOwn.never rfl (pi_listK (K := K) rfl (pe_callB (cb_sortD rfl) (by rfl) m_sorted b_sorted (pa_cons (pv 2) pa_nil))) (pg_name (i := 4) sc_check_tables.nd rfl (Or.inl rfl))
      (pss_one (ps_expr (c_fn G_check_houses (hr.mono (by decide)) (pa_cons (pv 1) (pa_cons (pe_lst (pa_cons (pv 4) (pa_cons (pe_dget (hu_of hr) (pv 2) (pv 4) (by intro _ _; rfl)) pa_nil))) pa_nil))))))
      (pss_one (ps_for PassesOwn.never rfl (pi_listK (K := K) rfl (pv 3)) (pg_name (i := 5) sc_check_tables.nd rfl (Or.inl rfl))
      (pss_one (ps_expr (c_fn G_check_houses (hr.mono (by decide)) (pa_cons (pv 1) (pa_cons (c_fn G_letter_places (hr.mono (by decide)) (pa_cons (pv 5) pa_nil)) pa_nil)))))))))), ?_⟩
    (try simp only [cxK, cxKX, List.map])
    refine ent (σ' := [some _, some _, some _, some _, none, none]) rfl ?_
    k_offL
    refine r_sortD (.inl ha) da ok.ascF (by have := ok.hl; omega) fun s1 H1 n1 e1 f1 => ?_
    refine loopLF (M := []) (N.hs.map V.int) (sqL_of e1) (fun z => nomatch z) (fun i σ' H' => (∃ v v2, σ' = [some (.int N.size), some (.ref a), some (.ref b), some (.ref l), v, v2]) ∧ Fr [] H1 H') ⟨⟨_, _, rfl⟩, Fr.refl _ _⟩ (fun i σ' H' z => z.2) ?_ ?_
    · rintro i x σ' H2 hi ⟨⟨v, v2, rfl⟩, f2⟩
      obtain ⟨n, _, hn, rfl⟩ := mem_ints hi
      k_offL
      refine i_check_place (ok.on n hn).1 (ok.on n hn).2 ?_
      k_offL
      exact ⟨⟨_, _, rfl⟩, f2⟩
    · rintro σ' H2 ⟨⟨v, v2, rfl⟩, f2⟩
      have g2 := f1.trans f2
      k_offL
      refine r_sortD (.inl (g2.at_ _ _ ha (fun z => nomatch z))) da ok.ascF (by have := ok.hl; omega) fun s2 H3 n3 e3 f3 => ?_
      have g3 := g2.trans f3
      refine loopLF (M := []) (N.hs.map V.int) (sqL_of e3) (fun z => nomatch z) (fun i σ' H' => (∃ v v2, σ' = [some (.int N.size), some (.ref a), some (.ref b), some (.ref l), v, v2]) ∧ Fr [] H3 H') ⟨⟨_, _, rfl⟩, Fr.refl _ _⟩ (fun i σ' H' z => z.2) ?_ ?_
      · rintro i x σ' H4 hi ⟨⟨v, v2, rfl⟩, f4⟩
        have g4 := g3.trans f4
        obtain ⟨n, _, hn, rfl⟩ := mem_ints hi
        k_offL
        refine dgetk (.inl (g4.at_ _ _ ha (fun z => nomatch z))) (by rw [da.val, NS.mf_at hn]) ?_
        k_offL
        refine lstk (by show 1 ≤ 100000; decide) fun p H5 n5 e5 f5 => ?_
        k_offL
        refine i_check_houses [N.f n] (.inl ((g4.trans f5).at_ _ _ ha (fun z => nomatch z))) da (.inl (sqL_of e5)) (fun x hx => ?_) ?_
        · rw [List.mem_singleton.mp hx]; exact NS.mf_some (ok.fh n hn)
        · k_offL
          exact ⟨⟨_, _, rfl⟩, f4.trans f5⟩
      · rintro σ' H4 ⟨⟨v, v2, rfl⟩, f4⟩
        have g4 := g3.trans f4
        k_offL
        refine r_sortD (.inl (g4.at_ _ _ hb (fun z => nomatch z))) db ok.ascL (by have := ok.bl; omega) fun s3 H5 n5 e5 f5 => ?_
        have g5 := g4.trans f5
        refine loopLF (M := []) (N.bs.map V.int) (sqL_of e5) (fun z => nomatch z) (fun i σ' H' => (∃ v v2, σ' = [some (.int N.size), some (.ref a), some (.ref b), some (.ref l), v, v2]) ∧ Fr [] H5 H') ⟨⟨_, _, rfl⟩, Fr.refl _ _⟩ (fun i σ' H' z => z.2) ?_ ?_
        · rintro i x σ' H6 hi ⟨⟨v, v2, rfl⟩, f6⟩
          have g6 := g5.trans f6
          obtain ⟨n, _, hn, rfl⟩ := mem_ints hi
          obtain ⟨hn1, hn2⟩ := List.mem_filter.mp hn
          obtain ⟨x, hx⟩ := Option.isSome_iff_exists.mp hn2
          k_offL
          refine dgetk (v := .int x) (.inl (g6.at_ _ _ hb (fun z => nomatch z))) (by rw [db.val]; unfold NS.lb; rw [hx]; rfl) ?_
          k_offL
          refine lstk (by show 2 ≤ 100000; decide) fun p H7 n7 e7 f7 => ?_
          k_offL
          refine i_check_houses [n, x] (.inl ((g6.trans f7).at_ _ _ ha (fun z => nomatch z))) da (.inl (sqL_of e7)) (fun y hy => ?_) ?_
          · rcases List.mem_cons.mp hy with e | e
            · rw [e]; exact NS.mf_some hn1
            · rw [List.mem_singleton.mp e]; exact NS.mf_some (ok.bh n x hx).2
          · k_offL
            exact ⟨⟨_, _, rfl⟩, f6.trans f7⟩
        · rintro σ' H6 ⟨⟨v, v2, rfl⟩, f6⟩
          have g6 := g5.trans f6
          k_offL
          refine loopLF (M := []) lv (sqL_of (g6.at_ _ _ hl (fun z => nomatch z))) (fun z => nomatch z) (fun i σ' H' => (∃ v v2, σ' = [some (.int N.size), some (.ref a), some (.ref b), some (.ref l), v, v2]) ∧ Fr [] H6 H') ⟨⟨_, _, rfl⟩, Fr.refl _ _⟩ (fun i σ' H' z => z.2) ?_ ?_
          · rintro i x σ' H7 hi ⟨⟨v, v2, rfl⟩, f7⟩
            have g7 := g6.trans f7
            have hlt : i < N.post.length := by rw [← ls.len]; exact (List.getElem?_eq_some_iff.mp hi).1
            obtain ⟨t, ht, hT⟩ := ls.at_ i N.post[i] (List.getElem?_eq_getElem hlt)
            rw [hi] at ht
            cases ht
            k_offL
            refine ⟨t, N.post[i], rfl, g7.tp _ _ hT, fun p H8 n8 e8 f8 => ?_⟩
            k_offL
            refine i_check_houses N.post[i].pl (.inl ((g7.trans f8).at_ _ _ ha (fun z => nomatch z))) da (.inr (sqT_of e8)) (fun y hy => NS.mf_some (ok.ph _ (List.getElem_mem hlt) y hy)) ?_
            k_offL
            exact ⟨⟨_, _, rfl⟩, f7.trans f8⟩
          · rintro σ' H7 ⟨⟨v, v2, rfl⟩, f7⟩
            exact k H7 (g6.trans f7)
end
end RL
set_option synthInstance.maxHeartbeats 4000000
set_option synthInstance.maxSize 4000
namespace RL
def BefArg (H : Hp) (v : V) (N : NS) : Prop := (v = .non ∧ ∀ h, N.b h = none) ∨ ∃ a kvs, v = .ref a ∧ H a = some (.dK kvs) ∧ DOk kvs N.lb
def LetArg (H : Hp) (v : V) (N : NS) : Prop := (v = .non ∧ N.post = []) ∨ ∃ a lv, v = .ref a ∧ H a = some (.lst lv) ∧ LetsIs H N.post lv
def spNetInit (C : Addr) : Sp := fun vs H Q _ => ∃ (p dx n : Addr) (bv lv : V) (kn : List (Key × V)) (N : NS), vs = [.ref p, .int N.size, .ref n, bv, lv] ∧ H p = some (.ins C dx []) ∧ H n = some (.dK kn) ∧ DOk kn N.mf ∧ BefArg H bv N ∧ LetArg H lv N ∧ N.Ok ∧
  ∀ (da db dl : Addr) H', H da = none → H db = none → H dl = none → da ≠ db → NetAt C H' p da db dl N → Fr [p] H H' → Q .non H'
theorem DOk.nilB {N : NS} (h : ∀ h, N.b h = none) : DOk [] N.lb := DOk.nil.cong fun n => by unfold NS.lb; rw [h n]; rfl
theorem netF_put (z : Int) (da db dl : Addr) : putF "_letters" (.ref dl) (putF "_befores" (.ref db) (putF "_nexts" (.ref da) (putF "size" (.int z) []))) = netF z da db dl := by
  show putF "_letters" (.ref dl) (putF "_befores" (.ref db) (putF "_nexts" (.ref da) [(("size" : Str), V.int z)])) = _
  rw [putF_ne (by decide +kernel)]
  show putF "_letters" (.ref dl) (putF "_befores" (.ref db) [(("size" : Str), V.int z), (("_nexts" : Str), V.ref da)]) = _
  rw [putF_ne (by decide +kernel), putF_ne (by decide +kernel)]
  show putF "_letters" (.ref dl) [(("size" : Str), V.int z), (("_nexts" : Str), V.ref da), (("_befores" : Str), V.ref db)] = _
  rw [putF_ne (by decide +kernel), putF_ne (by decide +kernel), putF_ne (by decide +kernel)]
  rfl
theorem i_net {C n : Addr} {bv lv : V} {kn : List (Key × V)} {N : NS} {H : Hp} {Q : VK} {E : XK} {gV : List V → List V → List V} {vs zs : List V} {a b : Nat} (ha : vs.length = a) (hz : zs.length = b) (hg : ∀ x, gV (.ref x :: vs) zs = [.ref x, .int N.size, .ref n, bv, lv])
    (hn : H n = some (.dK kn)) (dn : DOk kn N.mf) (hb : BefArg H bv N) (hl : LetArg H lv N) (ok : N.Ok)
    (k : ∀ (x da db dl : Addr) H', H x = none → H da = none → H db = none → H dl = none → NetAt C H' x da db dl N → Fr [] H H' → Q (.ref x) H') : MkK C a b (spNetInit C) gV E vs zs Q H := by
  refine ⟨ha, hz, fun x dx nx nd ne => ?_⟩
  have f0 := new_ins (C := C) nx nd ne
  have nn : ∀ a : Addr, a ∉ ([] : List Addr) := fun a z => nomatch z
  rw [hg x]
  refine ⟨x, dx, n, bv, lv, kn, N, rfl, upd_same, f0.at_ _ _ hn (nn _), dn, ?_, ?_, ok, fun da db dl H' na nb nl _ hN f => ⟨rfl, k x da db dl H' nx (f0.free na) (f0.free nb) (f0.free nl) hN (f0.drop f nx)⟩⟩
  · rcases hb with hb | ⟨a, kvs, e, e1, d⟩
    · exact .inl hb
    · exact .inr ⟨a, kvs, e, f0.at_ _ _ e1 (nn _), d⟩
  · rcases hl with hb | ⟨a, kvs, e, e1, d⟩
    · exact .inl hb
    · exact .inr ⟨a, kvs, e, f0.at_ _ _ e1 (nn _), d.fr f0⟩
section
variable {P : Program} {w : World} {K : PySem.W.Frag} {mg : Str → Option Value} {base : Heap} {CNet CMender CDesk CStore CWalk : Addr}
abbrev s_Net___init__ : Stmt := inClass (top 25) 0
theorem sc_Net___init__ : FnScope ["self", "size", "nexts", "befores", "letters", "behinds", "post", "house"] ["self", "size", "nexts", "befores", "letters"] (defScope s_Net___init__) := ⟨rfl, rfl, rfl, by decide +kernel, rfl, by decide +kernel, by decide +kernel⟩
theorem ok_Net___init__ {f : Addr} {fd : FuncData} (F : Fun K "__init__" "Net.__init__" s_Net___init__ f fd) (G_check_tables : GF P w K mg base "check_tables" 2 ["size", "nexts", "behinds", "post"] spCheckTables) (m_dict : mg "dict" = none) (m_list : mg "list" = none) (T : NetT K CNet) : FnOk P w K mg base CX0 3 f fd ["self", "size", "nexts", "befores", "letters"] (spNetInit CNet) := by
  refine F.ok sc_Net___init__ (fun vs H Q E h => ?_) (fun cdv A outer s H vs Q E hr h => ?_)
  · obtain ⟨_, _, _, _, _, _, _, rfl, _⟩ := h; rfl
  · obtain ⟨p, dx, n, bv, lv, kn, N, rfl, hp, hn, dn, hb, hl, ok, k⟩ := h
    refine ⟨_, (pss_cons (ps_set (i := 5) sc_Net___init__.nd rfl (Or.inr rfl) (pe_ifExp (pt_cmpR op_isNn (pv 3) pe_non (nomark _)) pe_dnewK (pv 3)))
      (pss_cons (ps_set (i := 6) sc_Net___init__.nd rfl (Or.inl rfl) (pe_ifExp (pt_cmpR op_isNn (pv 4) pe_non (nomark _)) (pe_lst pa_nil) (pv 4)))
      (pss_cons (ps_expr (c_fn G_check_tables (hr.mono (by decide)) (pa_cons (pv 1) (pa_cons (pv 2) (pa_cons (pv 5) (pa_cons (pv 6) pa_nil))))))
      (pss_cons (ps_fldK (K := K) rfl (pv 0) (pv 1) rfl)
      (pss_cons (ps_fldK (K := K) rfl (pv 0) (pe_callTy cb_dictD (by rfl) m_dict b_dict (pa_cons (pv 2) pa_nil)) rfl)
      (pss_cons (ps_fldK (K := K) rfl (pv 0) (pe_lock (pe_dc (own := [("house", 7)]) (g := gName 7) rfl sc_Net___init__.nd (pi_keys (pv 2)) (blkOk_by (N := ["self", "size", "nexts", "befores", "letters", "behinds", "post", "house"]) (sc := defScope s_Net___init__) (by decide +kernel)) (fun _ _ _ _ _ => (pg_name (i := 7) sc_Net___init__.nd rfl (Or.inl rfl))) (fun _ _ _ _ _ => pts_nil) (fun _ _ _ _ _ => (pv 7)) (fun _ _ _ _ _ => (pe_dget1 (hu_of hr) (pv 5) (pv 7) ⟨by rfl, by rfl, by rfl, by rfl⟩)))) rfl)
      (pss_one (ps_fldK (K := K) rfl (pv 0) (pe_callTy (cb_listOfK (K := K) rfl) (by rfl) m_list b_list (pa_cons (pv 6) pa_nil)) rfl)))))))), ?_⟩
    (try simp only [cxK, cxKX, List.map])
    refine ent (σ' := [some _, some _, some _, some _, some _, none, none, none]) rfl ?_
    have nn : ∀ a : Addr, a ∉ ([] : List Addr) := fun a z => nomatch z
    have hL : ∀ (H1 : Hp), Fr [] H H1 → LetArg H1 lv N := fun H1 f => by
      rcases hl with hl | ⟨a, kvs, e, e1, d⟩
      · exact .inl hl
      · exact .inr ⟨a, kvs, e, f.at_ _ _ e1 (nn _), d.fr f⟩
    refine q_asgM (fun v H1 => ∃ (ab : Addr) (kb : List (Key × V)), v = .ref ab ∧ Fr [] H H1 ∧ H1 ab = some (.dK kb) ∧ DOk kb N.lb) (fun R kR => ?_) ?_
    · k_offL
      refine ifD (fun e => ?_) (fun e => ?_)
      · k_offL
        refine newk fun ab H1 n1 e1 f1 => ?_
        rcases hb with ⟨_, hb⟩ | ⟨a, kvs, e', _⟩
        · exact kR _ _ ⟨ab, [], rfl, f1, e1, DOk.nilB hb⟩
        · rw [e'] at e; cases e
      · k_offL
        rcases hb with ⟨e', _⟩ | ⟨a, kvs, e', e1, d⟩
        · exact absurd e' e
        · subst e'
          exact kR _ _ ⟨a, kvs, rfl, Fr.refl _ _, e1, d⟩
    rintro _ H1 ⟨ab, kb, rfl, f1, eb, db⟩
    k_places
    refine q_asgM (fun v H2 => ∃ (al : Addr) (kl : List V), v = .ref al ∧ Fr [] H1 H2 ∧ H2 al = some (.lst kl) ∧ LetsIs H2 N.post kl) (fun R kR => ?_) ?_
    · k_offL
      refine ifD (fun e => ?_) (fun e => ?_)
      · k_offL
        refine lstk (by show 0 ≤ 100000; decide) fun al H2 n2 e2 f2 => ?_
        rcases hl with ⟨_, hl⟩ | ⟨a, kvs, e', _⟩
        · exact kR _ _ ⟨al, [], rfl, f2, e2, by rw [hl]; exact LetsIs.nil⟩
        · rw [e'] at e; cases e
      · k_offL
        rcases hL H1 f1 with ⟨e', _⟩ | ⟨a, kvs, e', e1, d⟩
        · exact absurd e' e
        · subst e'
          exact kR _ _ ⟨a, kvs, rfl, Fr.refl _ _, e1, d⟩
    rintro _ H2 ⟨al, kl, rfl, f2, el, dl⟩
    k_offL
    have f02 := f1.trans f2
    refine ⟨n, ab, al, kn, kb, kl, N, (), rfl, f02.at_ _ _ hn (nn _), dn, f2.at_ _ _ eb (nn _), db, el, dl, ok, fun H3 f3 => ?_⟩
    have f03 := f02.trans f3
    k_offL
    refine stfk (f03.at_ _ _ hp (nn _)) T.cl T.n1 (by decide) fun H4 e4 f4 => ?_
    have pn : n ≠ p := ne_of hn hp (by intro z; cases z)
    have pal : al ≠ p := ne_of el (f02.at_ _ _ hp (nn _)) (by intro z; cases z)
    have pab : ab ≠ p := ne_of eb (f1.at_ _ _ hp (nn _)) (by intro z; cases z)
    have m1 : ∀ a : Addr, a ≠ p → a ∉ [p] := fun a h z => h (List.mem_singleton.mp z)
    have f04 : Fr [p] H H4 := f03.up.trans f4
    k_offL
    refine r_dictD (.inl (f04.at_ _ _ hn (m1 _ pn))) fun da H5 n5 e5 f5 => ?_
    k_offL
    have q5 : H5 p = some (.ins CNet dx [("size", V.int N.size)]) := f5.at_ _ _ e4 (nn _)
    refine stfk q5 T.cl T.n2 (by show 1 < 1000; decide) fun H6 e6 f6 => ?_
    have pda : da ≠ p := (ne_of_none e4 n5).symm
    have f06 : Fr [p] H H6 := (f04.trans f5.up).trans f6
    have n0a : H da = none := by
      cases q : H da with
      | none => rfl
      | some o => rw [f04.at_ _ _ q (m1 _ pda)] at n5; cases n5
    k_offL
    have qn : H6 n = some (.dK kn) := f06.at_ _ _ hn (m1 _ pn)
    have qda : H6 da = some (.dK kn) := f6.at_ _ _ e5 (m1 _ pda)
    obtain ⟨ks, hks⟩ := dn.ik
    have nd : ks.Nodup := nodup_map_inl.mp (by rw [← hks]; exact dn.nd)
    have hln : kn.length = ks.length := by have := congrArg List.length hks; simpa using this
    have hlk := dn.len ok.ascF
    have hlm := ok.hl
    have f46 := f5.up (M := [p]) |>.trans f6
    have qab : H6 ab = some (.dK kb) := f46.at_ _ _ (f4.at_ _ _ ((f2.trans f3).at_ _ _ eb (nn _)) (m1 _ pab)) (m1 _ pab)
    refine x_lockE qn fun od H7 e7 l7 => ?_
    have rab : Rd H7 ab (.dK kb) := by
      by_cases z : ab = n
      · subst z
        rw [qab] at qn
        cases qn
        exact .inr ⟨od, e7⟩
      · exact .inl (l7 _ _ z qab)
    k_offL
    refine keysk e7 ?_
    refine dcV (walk_keys (kvs := kn)) ks nd hln (fun i H0 x H' _ y => yKey hks y) (fun _ => true) (fun k => oV (N.b k)) (fun H' f => f.fz _ _ _ e7) (by omega) (fun k' H' hk' f => ?_) fun db' H8 n8 e8 f8 => ?_
    · refine sk7 ⟨fun R kR => kR H' (Fr.refl _ _), fun _ H3 f3' R kR => ?_⟩
      have r3 : Rd H3 ab (.dK kb) := (f.trans f3').rd rab (nn _)
      k_offL
      refine dg1a r3 ?_
      k_offL
      refine dg1b r3 ?_
      have ev : (valV kb (Sum.inl k')).getD V.non = oV (N.b k') := by
        rw [db.val]
        unfold NS.lb
        cases N.b k' <;> rfl
      rw [ev]
      exact kR H3 (Fr.refl _ _)
    · have nd7 : db' ≠ n := (ne_of_none e7 n8).symm
      refine unlk qn e7 l7 f8 fun H9 f9 keep => ?_
      have e9 := keep _ _ nd7 e8
      have q9 := f9.at_ _ _ e6 (nn _)
      have f09 : Fr [p] H H9 := f06.trans f9.up
      k_offL
      refine stfk q9 T.cl T.n3 (by show 2 < 1000; decide) fun H10 e10 f10 => ?_
      have f0a : Fr [p] H H10 := f09.trans f10
      have n6b : H6 db' = none := by
        cases q : H6 db' with
        | none => rfl
        | some o => rw [l7 _ _ nd7 q] at n8; cases n8
      have pdb : db' ≠ p := (ne_of_none e6 n6b).symm
      have dab : da ≠ db' := ne_of_none qda n6b
      have n0b : H db' = none := by
        cases q : H db' with
        | none => rfl
        | some o => rw [f06.at_ _ _ q (m1 _ pdb)] at n6b; cases n6b
      have qal : H10 al = some (.lst kl) := f10.at_ _ _ (f9.at_ _ _ (f46.at_ _ _ (f4.at_ _ _ (f3.at_ _ _ el (nn _)) (m1 _ pal)) (m1 _ pal)) (nn _)) (m1 _ pal)
      k_offL
      refine r_listL (sqL_of qal) fun dl' H11 n11 e11 f11 => ?_
      k_offL
      have pdl : dl' ≠ p := (ne_of_none e10 n11).symm
      refine stfk (f11.at_ _ _ e10 (nn _)) T.cl T.n4 (by show 3 < 1000; decide) fun H12 e12 f12 => ?_
      have f0c : Fr [p] H H12 := (f0a.trans f11.up).trans f12
      have n0l : H dl' = none := by
        cases q : H dl' with
        | none => rfl
        | some o => rw [f0a.at_ _ _ q (m1 _ pdl)] at n11; cases n11
      have f6c : Fr [p] H6 H12 := ((f9.up.trans f10).trans f11.up).trans f12
      have hk9 : (fun k => ((Sum.inl k : Key), oV (N.b k))) = fun k => ((Sum.inl k : Key), oV (N.b k)) := rfl
      refine k da db' dl' H12 n0a n0b n0l dab ⟨⟨dx, by rw [e12]; exact congrArg (fun z => some (HO.ins CNet dx z)) (netF_put N.size da db' dl')⟩, ⟨kn, f6c.at_ _ _ qda (m1 _ pda), dn⟩,
        ⟨_, f12.at_ _ _ (f11.at_ _ _ (f10.at_ _ _ e9 (m1 _ pdb)) (nn _)) (m1 _ pdb), ?_⟩, ⟨kl, f12.at_ _ _ e11 (m1 _ pdl), dl.fr (((((f3.up (M := [p])).trans f4).trans f46).trans f9.up |>.trans f10).trans f11.up |>.trans f12)⟩, dab⟩ f0c
      rw [List.filter_eq_self.mpr fun _ _ => rfl]
      refine (DOk.ofMap nd fun k => oV (N.b k)).cong fun x => ?_
      have hx : x ∈ ks ↔ x ∈ N.hs := by
        rw [ok.ascF.mem, ← dn.mem, hks]
        simp
      unfold NS.mb
      by_cases z : x ∈ N.hs
      · rw [if_pos z, if_pos (hx.mpr z)]
      · rw [if_neg z, if_neg fun q => z (hx.mp q)]
end
end RL
set_option synthInstance.maxHeartbeats 4000000
set_option synthInstance.maxSize 4000
namespace RL
section
variable {P : Program} {w : World} {K : PySem.W.Frag} {mg : Str → Option Value} {base : Heap} {CNet CMender CDesk CStore CWalk : Addr}
abbrev s_Net_houses : Stmt := inClass (top 25) 1
end
def NS.kn (N : NS) : List (Key × V) := N.hs.map fun h => (Sum.inl h, V.int (N.f h))
theorem NS.Ok.nd {N : NS} (h : N.Ok) : N.hs.Nodup := h.up.imp fun h => Int.ne_of_lt h
theorem NS.Ok.dkn {N : NS} (h : N.Ok) : DOk N.kn N.mf := DOk.ofMap h.nd fun k => V.int (N.f k)
def spNexts (C : Addr) : Sp := fun vs H Q _ => ∃ (p da db dl : Addr) (N : NS), vs = [.ref p] ∧ NetAt C H p da db dl N ∧ N.Ok ∧ ∀ l H', H l = none → H' l = some (.dK N.kn) → Fr [] H H' → Q (.ref l) H'
section
variable {P : Program} {w : World} {K : PySem.W.Frag} {mg : Str → Option Value} {base : Heap} {CNet CMender CDesk CStore CWalk : Addr}
abbrev s_Net_nexts : Stmt := inClass (top 25) 4
theorem sc_Net_nexts : FnScope ["self", "house"] ["self"] (defScope s_Net_nexts) := ⟨rfl, rfl, rfl, by decide +kernel, rfl, by decide +kernel, by decide +kernel⟩
theorem ok_Net_nexts {f : Addr} {fd : FuncData} (F : Fun K "nexts" "Net.nexts" s_Net_nexts f fd) (m_sorted : mg "sorted" = none) (T : NetT K CNet) : FnOk P w K mg base CX0 1 f fd ["self"] (spNexts CNet) := by
  refine F.ok sc_Net_nexts (fun vs H Q E h => ?_) (fun cdv A outer s H vs Q E hr h => ?_)
  · obtain ⟨_, _, _, _, _, rfl, _⟩ := h; rfl
  · obtain ⟨p, da, db, dl, N, rfl, hN, ok, k⟩ := h
    refine ⟨_, (pss_one (ps_ret (pe_dc (own := [("house", 1)]) (g := gName 1) rfl sc_Net_nexts.nd (pi_listK (K := K) rfl (pe_callB (cb_sortD rfl) (by rfl) m_sorted b_sorted (pa_cons (pe_fldK (K := K) rfl (pv 0) (by rfl)) pa_nil))) (blkOk_by (N := ["self", "house"]) (sc := defScope s_Net_nexts) (by decide +kernel)) (fun _ _ _ _ _ => (pg_name (i := 1) sc_Net_nexts.nd rfl (Or.inl rfl))) (fun _ _ _ _ _ => pts_nil) (fun _ _ _ _ _ => (pv 1)) (fun _ _ _ _ _ => (pe_dget (hu_of hr) (pe_fldK (K := K) rfl (pv 0) (by rfl)) (pv 1) (by intro _ _; rfl)))))), ?_⟩
    (try simp only [cxK, cxKX, List.map])
    refine ent (σ' := [some _, none]) rfl ?_
    obtain ⟨⟨dx, hp⟩, ⟨kn, hn, dn⟩, _⟩ := id hN
    have hlen := ok.hl
    k_offL
    refine r_sortD (.inl hn) dn ok.ascF (by omega) fun l1 H1 n1 e1 f1 => ?_
    refine walkL (sqL_of e1) ?_
    refine dcV (walk_list (xs := N.hs.map V.int)) N.hs ok.nd (by rw [List.length_map]) (fun i H0 x H' _ y => yAtI y) (fun _ => true) (fun h => .int (N.f h)) (fun H' f => f.sqL (sqL_of e1) (fun z => nomatch z)) (by omega) (fun h H' hm f => ?_) fun q H2 n2 e2 f2 => ?_
    · refine sk1 ⟨fun R kR => kR H' (Fr.refl _ _), fun _ H3 f3 R kR => ?_⟩
      k_offL
      refine dgetk (.inl (by k_clsL)) (by rw [dn.val, NS.mf_at hm]) ?_
      exact kR H3 (Fr.refl _ _)
    · rw [List.filter_eq_self.mpr fun _ _ => rfl] at e2
      exact k q H2 (f1.free n2) e2 (f1.trans f2)
end
def NS.kb (N : NS) : List (Key × V) := N.bs.map fun h => (Sum.inl h, oV (N.b h))
theorem NS.Ok.dkb {N : NS} (h : N.Ok) : DOk N.kb N.lb := (DOk.ofMap (h.nd.filter _) fun k => oV (N.b k)).cong fun n => by
  show (if n ∈ N.bs then some (oV (N.b n)) else none) = (N.b n).map V.int
  cases e : N.b n with
  | none =>
    have z : ¬ n ∈ N.bs := fun z => by
      have := (List.mem_filter.mp z).2
      simp [e] at this
    rw [if_neg z]; rfl
  | some x =>
    have z : n ∈ N.bs := List.mem_filter.mpr ⟨(h.bh n x e).1, by simp [e]⟩
    rw [if_pos z]; rfl
def spBefores (C : Addr) : Sp := fun vs H Q _ => ∃ (p da db dl : Addr) (N : NS), vs = [.ref p] ∧ NetAt C H p da db dl N ∧ N.Ok ∧ ∀ l H', H l = none → H' l = some (.dK N.kb) → Fr [] H H' → Q (.ref l) H'
section
variable {P : Program} {w : World} {K : PySem.W.Frag} {mg : Str → Option Value} {base : Heap} {CNet CMender CDesk CStore CWalk : Addr}
abbrev s_Net_befores : Stmt := inClass (top 25) 5
theorem sc_Net_befores : FnScope ["self", "behinds", "house"] ["self"] (defScope s_Net_befores) := ⟨rfl, rfl, rfl, by decide +kernel, rfl, by decide +kernel, by decide +kernel⟩
theorem ok_Net_befores {f : Addr} {fd : FuncData} (F : Fun K "befores" "Net.befores" s_Net_befores f fd) (m_sorted : mg "sorted" = none) (T : NetT K CNet) : FnOk P w K mg base CX0 1 f fd ["self"] (spBefores CNet) := by
  refine F.ok sc_Net_befores (fun vs H Q E h => ?_) (fun cdv A outer s H vs Q E hr h => ?_)
  · obtain ⟨_, _, _, _, _, rfl, _⟩ := h; rfl
  · obtain ⟨p, da, db, dl, N, rfl, hN, ok, k⟩ := h
    refine ⟨_, (pss_cons (ps_set (i := 1) sc_Net_befores.nd rfl (Or.inr rfl) (pe_fldK (K := K) rfl (pv 0) (by rfl)))
      (pss_one (ps_ret (pe_dc (own := [("house", 2)]) (g := gName 2) rfl sc_Net_befores.nd (pi_listK (K := K) rfl (pe_callB (cb_sortD rfl) (by rfl) m_sorted b_sorted (pa_cons (pv 1) pa_nil))) (blkOk_by (N := ["self", "behinds", "house"]) (sc := defScope s_Net_befores) (by decide +kernel)) (fun _ _ _ _ _ => (pg_name (i := 2) sc_Net_befores.nd rfl (Or.inl rfl))) (fun _ _ _ _ _ => pts_one (pt_cmpR op_notNn (pe_dget (hu_of hr) (pv 1) (pv 2) (by intro _ _; rfl)) pe_non (nomark _))) (fun _ _ _ _ _ => (pv 2)) (fun _ _ _ _ _ => (pe_dget (hu_of hr) (pv 1) (pv 2) (by intro _ _; rfl))))))), ?_⟩
    (try simp only [cxK, cxKX, List.map])
    refine ent (σ' := [some _, none, none]) rfl ?_
    obtain ⟨⟨dx, hp⟩, ⟨kn, hn, dn⟩, ⟨kb, hb, eb⟩, _⟩ := id hN
    have hlen := ok.hl
    k_offL
    refine r_sortD (.inl hb) eb ok.ascB (by omega) fun l1 H1 n1 e1 f1 => ?_
    refine walkL (sqL_of e1) ?_
    refine dcV (walk_list (xs := N.hs.map V.int)) N.hs ok.nd (by rw [List.length_map]) (fun i H0 x H' _ y => yAtI y) (fun h => (N.b h).isSome) (fun h => oV (N.b h)) (fun H' f => f.sqL (sqL_of e1) (fun z => nomatch z)) (by omega) (fun h H' hm f => ?_) fun q H2 n2 e2 f2 => ?_
    · refine sk2 ⟨fun R kR => ?_, fun _ H3 f3 R kR => ?_⟩
      · k_offL
        refine dgetk (.inl (by k_clsL)) (by rw [eb.val, NS.mb_at hm]) ?_
        k_offL
        have ev : (!decide (oV (N.b h) = V.non)) = (N.b h).isSome := by cases N.b h <;> rfl
        rw [ev]
        exact kR H' (Fr.refl _ _)
      · k_offL
        refine dgetk (.inl (by k_clsL)) (by rw [eb.val, NS.mb_at hm]) ?_
        exact kR H3 (Fr.refl _ _)
    · exact k q H2 (f1.free n2) e2 (f1.trans f2)
end
section
variable {P : Program} {w : World} {K : PySem.W.Frag} {mg : Str → Option Value} {base : Heap} {CNet CMender CDesk CStore CWalk : Addr}
abbrev s_Net_letters : Stmt := inClass (top 25) 6
end
def NS.push (N : NS) (l : LT) : NS := { N with post := N.post ++ [l] }
def spSend (C : Addr) : Sp := fun vs H Q _ => ∃ (p da db dl : Addr) (N : NS) (w : Str) (h : Int) (l : LT), vs = [.ref p, .str w, .int h] ∧ NetAt C H p da db dl N ∧ h ∈ N.hs ∧ N.Ok ∧ l.vs = [.str w, .int (N.f h), .int h] ∧
  ∀ t H', H' t = some (.tup l.vs) → NetAt C H' p da db dl (N.push l) → Fr [dl] H H' → Q (.ref t) H'
section
variable {P : Program} {w : World} {K : PySem.W.Frag} {mg : Str → Option Value} {base : Heap} {CNet CMender CDesk CStore CWalk : Addr}
abbrev s_Net__send : Stmt := inClass (top 25) 11
theorem sc_Net__send : FnScope ["self", "word", "house", "letter"] ["self", "word", "house"] (defScope s_Net__send) := ⟨rfl, rfl, rfl, by decide +kernel, rfl, by decide +kernel, by decide +kernel⟩
theorem ok_Net__send {f : Addr} {fd : FuncData} (F : Fun K "_send" "Net._send" s_Net__send f fd) (G_check_houses : GF P w K mg base "check_houses" 1 ["houses", "places"] (spCheckHouses K)) (T : NetT K CNet) : FnOk P w K mg base CX0 2 f fd ["self", "word", "house"] (spSend CNet) := by
  refine F.ok sc_Net__send (fun vs H Q E h => ?_) (fun cdv A outer s H vs Q E hr h => ?_)
  · obtain ⟨_, _, _, _, _, _, _, _, rfl, _⟩ := h; rfl
  · obtain ⟨p, da, db, dl, N, wd, x, l, rfl, hN, hx, ok, hl, k⟩ := h
    refine ⟨_, (pss_cons (ps_expr (c_fn G_check_houses (hr.mono (by decide)) (pa_cons (pe_fldK (K := K) rfl (pv 0) (by rfl)) (pa_cons (pe_lst (pa_cons (pv 2) pa_nil)) pa_nil))))
      (pss_cons (ps_set (i := 3) sc_Net__send.nd rfl (Or.inl rfl) (pe_tup (pa_cons (pv 1) (pa_cons (pe_dget (hu_of hr) (pe_fldK (K := K) rfl (pv 0) (by rfl)) (pv 2) (by intro _ _; rfl)) (pa_cons (pv 2) pa_nil)))))
      (pss_cons (ps_expr (pe_bmK (K := K) rfl PySem.F.plainAttrs_list PySem.F.slot_list_append PySem.F.type_list_append mt_append (pe_fldK (K := K) rfl (pv 0) (by rfl)) (pa_cons (pv 3) pa_nil)))
      (pss_one (ps_ret (pv 3)))))), ?_⟩
    (try simp only [cxK, cxKX, List.map])
    refine ent (σ' := [some _, some _, some _, none]) rfl ?_
    obtain ⟨⟨dx, hp⟩, ⟨kn, hn, dn⟩, ⟨kb, hb, eb⟩, ⟨lv, hl', ls⟩, ne⟩ := id hN
    k_offL
    refine lstk (by show 1 ≤ 100000; decide) fun t H1 n1 e1 f1 => ?_
    k_offL
    refine i_check_houses [x] (.inl (by k_clsL)) dn (.inl (sqL_of e1)) (fun y hy => by rw [List.mem_singleton.mp hy]; exact NS.mf_some hx) ?_
    k_offL
    refine dgetk (.inl (by k_clsL)) (by rw [dn.val, NS.mf_at hx]) ?_
    k_offL
    refine tupk (by show 3 ≤ 100000; decide) fun t H2 n2 e2 f2 => ?_
    rw [← hl] at e2
    k_offL
    refine r_app (xs := lv) (by k_clsL) (by rw [ls.len]; have := ok.pl; omega) fun H3 e3 f3 => ?_
    k_offL
    have f03 : Fr [dl] H H3 := ((f1.trans f2).up (M := [dl])).trans f3
    refine k t H3 (f3.tp _ _ e2) ⟨⟨dx, by k_clsL⟩, ⟨kn, by k_clsL, dn⟩, ⟨kb, by k_clsL, eb⟩, ⟨_, e3, (ls.fr f03).snoc (f3.tp _ _ e2)⟩, ne⟩ f03
end
def spTell (C : Addr) : Sp := fun vs H Q _ => ∃ (p da db dl : Addr) (N : NS) (h : Int), vs = [.ref p, .int h] ∧ NetAt C H p da db dl N ∧ h ∈ N.hs ∧ N.Ok ∧
  ∀ t H', H' t = some (.tup (LT.tell (N.f h) h).vs) → NetAt C H' p da db dl (N.push (.tell (N.f h) h)) → Fr [dl] H H' → Q (.ref t) H'
section
variable {P : Program} {w : World} {K : PySem.W.Frag} {mg : Str → Option Value} {base : Heap} {CNet CMender CDesk CStore CWalk : Addr}
abbrev s_Net_tell : Stmt := inClass (top 25) 9
theorem sc_Net_tell : FnScope ["self", "house"] ["self", "house"] (defScope s_Net_tell) := ⟨rfl, rfl, rfl, by decide +kernel, rfl, by decide +kernel, by decide +kernel⟩
theorem ok_Net_tell {f : Addr} {fd : FuncData} (F : Fun K "tell" "Net.tell" s_Net_tell f fd) (G_Net__send : GM P w K mg base CNet "_send" 2 ["self", "word", "house"] (spSend CNet)) (T : NetT K CNet) : FnOk P w K mg base CX0 3 f fd ["self", "house"] (spTell CNet) := by
  refine F.ok sc_Net_tell (fun vs H Q E h => ?_) (fun cdv A outer s H vs Q E hr h => ?_)
  · obtain ⟨_, _, _, _, _, _, rfl, _⟩ := h; rfl
  · obtain ⟨p, da, db, dl, N, x, rfl, hN, hx, ok, k⟩ := h
    refine ⟨_, (pss_one (ps_ret (c_mt G_Net__send (hr.mono (by decide)) (pv 0) (pa_cons pe_str (pa_cons (pv 1) pa_nil))))), ?_⟩
    (try simp only [cxK, cxKX, List.map])
    refine ent (σ' := [some _, some _]) rfl ?_
    obtain ⟨⟨dx, hp⟩, _⟩ := id hN
    k_offL
    exact ⟨p, da, db, dl, N, _, x, .tell (N.f x) x, rfl, hN, hx, ok, rfl, k⟩
end
def spAsk (C : Addr) : Sp := fun vs H Q _ => ∃ (p da db dl : Addr) (N : NS) (h : Int), vs = [.ref p, .int h] ∧ NetAt C H p da db dl N ∧ h ∈ N.hs ∧ N.Ok ∧
  ∀ t H', H' t = some (.tup (LT.ask (N.f h) h).vs) → NetAt C H' p da db dl (N.push (.ask (N.f h) h)) → Fr [dl] H H' → Q (.ref t) H'
section
variable {P : Program} {w : World} {K : PySem.W.Frag} {mg : Str → Option Value} {base : Heap} {CNet CMender CDesk CStore CWalk : Addr}
abbrev s_Net_ask : Stmt := inClass (top 25) 10
theorem sc_Net_ask : FnScope ["self", "house"] ["self", "house"] (defScope s_Net_ask) := ⟨rfl, rfl, rfl, by decide +kernel, rfl, by decide +kernel, by decide +kernel⟩
theorem ok_Net_ask {f : Addr} {fd : FuncData} (F : Fun K "ask" "Net.ask" s_Net_ask f fd) (G_Net__send : GM P w K mg base CNet "_send" 2 ["self", "word", "house"] (spSend CNet)) (T : NetT K CNet) : FnOk P w K mg base CX0 3 f fd ["self", "house"] (spAsk CNet) := by
  refine F.ok sc_Net_ask (fun vs H Q E h => ?_) (fun cdv A outer s H vs Q E hr h => ?_)
  · obtain ⟨_, _, _, _, _, _, rfl, _⟩ := h; rfl
  · obtain ⟨p, da, db, dl, N, x, rfl, hN, hx, ok, k⟩ := h
    refine ⟨_, (pss_one (ps_ret (c_mt G_Net__send (hr.mono (by decide)) (pv 0) (pa_cons pe_str (pa_cons (pv 1) pa_nil))))), ?_⟩
    (try simp only [cxK, cxKX, List.map])
    refine ent (σ' := [some _, some _]) rfl ?_
    obtain ⟨⟨dx, hp⟩, _⟩ := id hN
    k_offL
    exact ⟨p, da, db, dl, N, _, x, .ask (N.f x) x, rfl, hN, hx, ok, rfl, k⟩
end
def spCheckIndex (C : Addr) : Sp := fun vs H Q _ => ∃ (p da db dl : Addr) (N : NS) (i : Nat), vs = [.ref p, .int (i : Int)] ∧ NetAt C H p da db dl N ∧ i < N.post.length ∧ Q .non H
section
variable {P : Program} {w : World} {K : PySem.W.Frag} {mg : Str → Option Value} {base : Heap} {CNet CMender CDesk CStore CWalk : Addr}
abbrev s_Net__check_index : Stmt := inClass (top 25) 12
theorem sc_Net__check_index : FnScope ["self", "at"] ["self", "at"] (defScope s_Net__check_index) := ⟨rfl, rfl, rfl, by decide +kernel, rfl, by decide +kernel, by decide +kernel⟩
theorem ok_Net__check_index {f : Addr} {fd : FuncData} (F : Fun K "_check_index" "Net._check_index" s_Net__check_index f fd) (m_len : mg "len" = none) (T : NetT K CNet) : FnOk P w K mg base CX0 1 f fd ["self", "at"] (spCheckIndex CNet) := by
  refine F.ok sc_Net__check_index (fun vs H Q E h => ?_) (fun cdv A outer s H vs Q E hr h => ?_)
  · obtain ⟨_, _, _, _, _, _, rfl, _⟩ := h; rfl
  · obtain ⟨p, da, db, dl, N, i, rfl, hN, hi, k⟩ := h
    refine ⟨_, (pss_one (ps_if (pt_not (pt_chain op_le op_lt pe_int (pv 1) (pe_callB (cb_lenSK (K := K) rfl) (by rfl) m_len b_len (pa_cons (pe_fldK (K := K) rfl (pv 0) (by rfl)) pa_nil)))) (pss_one ps_never) pss_nil)), ?_⟩
    (try simp only [cxK, cxKX, List.map])
    refine ent (σ' := [some _, some _]) rfl ?_
    obtain ⟨⟨dx, hp⟩, _, _, ⟨lv, hl, ls⟩, _⟩ := id hN
    k_offL
    refine ifDT (by omega) ?_
    k_offL
    refine r_lenL (sqL_of hl) ?_
    k_offL
    refine ifNF (by rw [ls.len]; omega) ?_
    k_offL
    exact k
end
def NS.del (N : NS) (i : Nat) : NS := { N with post := N.post.eraseIdx i }
def spLose (C : Addr) : Sp := fun vs H Q _ => ∃ (p da db dl : Addr) (N : NS) (i : Nat) (l : LT), vs = [.ref p, .int (i : Int)] ∧ NetAt C H p da db dl N ∧ N.post[i]? = some l ∧ N.Ok ∧
  ∀ t H', H' t = some (.tup l.vs) → NetAt C H' p da db dl (N.del i) → Fr [dl] H H' → Q (.ref t) H'
section
variable {P : Program} {w : World} {K : PySem.W.Frag} {mg : Str → Option Value} {base : Heap} {CNet CMender CDesk CStore CWalk : Addr}
abbrev s_Net_lose : Stmt := inClass (top 25) 13
theorem sc_Net_lose : FnScope ["self", "at"] ["self", "at"] (defScope s_Net_lose) := ⟨rfl, rfl, rfl, by decide +kernel, rfl, by decide +kernel, by decide +kernel⟩
theorem ok_Net_lose {f : Addr} {fd : FuncData} (F : Fun K "lose" "Net.lose" s_Net_lose f fd) (G_Net__check_index : GM P w K mg base CNet "_check_index" 1 ["self", "at"] (spCheckIndex CNet)) (T : NetT K CNet) : FnOk P w K mg base CX0 2 f fd ["self", "at"] (spLose CNet) := by
  refine F.ok sc_Net_lose (fun vs H Q E h => ?_) (fun cdv A outer s H vs Q E hr h => ?_)
  · obtain ⟨_, _, _, _, _, _, _, rfl, _⟩ := h; rfl
  · obtain ⟨p, da, db, dl, N, i, l, rfl, hN, hi, ok, k⟩ := h
    refine ⟨_, (pss_cons (ps_expr (c_mt G_Net__check_index (hr.mono (by decide)) (pv 0) (pa_cons (pv 1) pa_nil)))
      (pss_one (ps_ret (pe_bmK (K := K) rfl PySem.F.plainAttrs_list PySem.F.slot_list_pop PySem.F.type_list_pop mt_popAt (pe_fldK (K := K) rfl (pv 0) (by rfl)) (pa_cons (pv 1) pa_nil))))), ?_⟩
    (try simp only [cxK, cxKX, List.map])
    refine ent (σ' := [some _, some _]) rfl ?_
    obtain ⟨⟨dx, hp⟩, ⟨kn, hn, dn⟩, ⟨kb, hb, eb⟩, ⟨lv, hl, ls⟩, ne⟩ := id hN
    have hlt := (List.getElem?_eq_some_iff.mp hi).1
    have hpl := ok.pl
    obtain ⟨t, ht, hT⟩ := ls.at_ i l hi
    k_offL
    refine ⟨p, da, db, dl, N, i, rfl, hN, hlt, ?_⟩
    k_offL
    refine r_popAt hl ht (by omega) fun H1 e1 f1 => ?_
    k_offL
    exact k t H1 (f1.tp _ _ hT) ⟨⟨dx, by k_clsL⟩, ⟨kn, by k_clsL, dn⟩, ⟨kb, by k_clsL, eb⟩, ⟨_, e1, (ls.fr f1).erase i⟩, ne⟩ f1
end
def spRepeat (C : Addr) : Sp := fun vs H Q _ => ∃ (p da db dl : Addr) (N : NS) (i : Nat) (l : LT), vs = [.ref p, .int (i : Int)] ∧ NetAt C H p da db dl N ∧ N.post[i]? = some l ∧ N.Ok ∧
  ∀ t H', H' t = some (.tup l.vs) → NetAt C H' p da db dl (N.push l) → Fr [dl] H H' → Q (.ref t) H'
section
variable {P : Program} {w : World} {K : PySem.W.Frag} {mg : Str → Option Value} {base : Heap} {CNet CMender CDesk CStore CWalk : Addr}
abbrev s_Net_repeat : Stmt := inClass (top 25) 14
theorem sc_Net_repeat : FnScope ["self", "at", "letter"] ["self", "at"] (defScope s_Net_repeat) := ⟨rfl, rfl, rfl, by decide +kernel, rfl, by decide +kernel, by decide +kernel⟩
theorem ok_Net_repeat {f : Addr} {fd : FuncData} (F : Fun K "repeat" "Net.repeat" s_Net_repeat f fd) (G_Net__check_index : GM P w K mg base CNet "_check_index" 1 ["self", "at"] (spCheckIndex CNet)) (T : NetT K CNet) : FnOk P w K mg base CX0 2 f fd ["self", "at"] (spRepeat CNet) := by
  refine F.ok sc_Net_repeat (fun vs H Q E h => ?_) (fun cdv A outer s H vs Q E hr h => ?_)
  · obtain ⟨_, _, _, _, _, _, _, rfl, _⟩ := h; rfl
  · obtain ⟨p, da, db, dl, N, i, l, rfl, hN, hi, ok, k⟩ := h
    refine ⟨_, (pss_cons (ps_expr (c_mt G_Net__check_index (hr.mono (by decide)) (pv 0) (pa_cons (pv 1) pa_nil)))
      (pss_cons (ps_set (i := 2) sc_Net_repeat.nd rfl (Or.inl rfl) (pe_ix (ix_listK (K := K) rfl) (pe_fldK (K := K) rfl (pv 0) (by rfl)) (pv 1) (by intro _ _; rfl)))
      (pss_cons (ps_expr (pe_bmK (K := K) rfl PySem.F.plainAttrs_list PySem.F.slot_list_append PySem.F.type_list_append mt_append (pe_fldK (K := K) rfl (pv 0) (by rfl)) (pa_cons (pv 2) pa_nil)))
      (pss_one (ps_ret (pv 2)))))), ?_⟩
    (try simp only [cxK, cxKX, List.map])
    refine ent (σ' := [some _, some _, none]) rfl ?_
    obtain ⟨⟨dx, hp⟩, ⟨kn, hn, dn⟩, ⟨kb, hb, eb⟩, ⟨lv, hl, ls⟩, ne⟩ := id hN
    have hlt := (List.getElem?_eq_some_iff.mp hi).1
    have hpl := ok.pl
    obtain ⟨t, ht, hT⟩ := ls.at_ i l hi
    k_offL
    refine ⟨p, da, db, dl, N, i, rfl, hN, hlt, ?_⟩
    k_offL
    refine r_ixL (sqL_of hl) (atI_nat ht) ?_
    k_offL
    refine r_app hl (by rw [ls.len]; omega) fun H1 e1 f1 => ?_
    k_offL
    exact k t H1 (f1.tp _ _ hT) ⟨⟨dx, by k_clsL⟩, ⟨kn, by k_clsL, dn⟩, ⟨kb, by k_clsL, eb⟩, ⟨_, e1, (ls.fr f1).snoc (f1.tp _ _ hT)⟩, ne⟩ f1
end
end RL
set_option synthInstance.maxHeartbeats 4000000
set_option synthInstance.maxSize 4000
namespace RL
def NS.setF (N : NS) (u x : Int) : NS := { N with f := fun h => if h = u then x else N.f h }
def NS.setB (N : NS) (u : Int) (x : Option Int) : NS := { N with b := fun h => if h = u then x else N.b h }
def NS.readL (N : NS) : LT → NS × List V
  | .tell v u => match N.b v with
    | none => (N.setB v (some u), [.str "before", .int v, .int u])
    | some b => if btw N.size b u v = true then (N.setB v (some u), [.str "before", .int v, .int u]) else (N, [.str "kept", .int v, .non])
  | .ask v u => match N.b v with
    | none => (N, [.str "kept", .int v, .non])
    | some x => (N.push (.ans u v x), [.str "wrote", .int v, .int x])
  | .ans u v x => if N.f u = v ∧ btw N.size u x v = true then (N.setF u x, [.str "next", .int u, .int x]) else (N, [.str "kept", .int u, .non])
theorem NS.mb_setB (N : NS) (v : Int) (x : Option Int) (hv : v ∈ N.hs) (h : Int) : (if h = v then some (oV x) else N.mb h) = (N.setB v x).mb h := by
  unfold NS.mb
  show _ = if h ∈ N.hs then some (oV (if h = v then x else N.b h)) else none
  by_cases e : h = v
  · subst e; rw [if_pos rfl, if_pos hv, if_pos rfl]
  · rw [if_neg e]
    by_cases m : h ∈ N.hs
    · rw [if_pos m, if_pos m, if_neg e]
    · rw [if_neg m, if_neg m]
theorem NS.mf_setF (N : NS) (v x : Int) (hv : v ∈ N.hs) (h : Int) : (if h = v then some (.int x) else N.mf h) = (N.setF v x).mf h := by
  unfold NS.mf
  show _ = if h ∈ N.hs then some (V.int (if h = v then x else N.f h)) else none
  by_cases e : h = v
  · subst e; rw [if_pos rfl, if_pos hv, if_pos rfl]
  · rw [if_neg e]
    by_cases m : h ∈ N.hs
    · rw [if_pos m, if_pos m, if_neg e]
    · rw [if_neg m, if_neg m]
theorem NS.Ok.kbl {N : NS} (ok : N.Ok) {kb : List (Key × V)} (d : DOk kb N.mb) : kb.length ≤ 100000 := by have := d.len ok.ascB; have := ok.hl; omega
theorem NS.Ok.knl {N : NS} (ok : N.Ok) {kb : List (Key × V)} (d : DOk kb N.mf) : kb.length ≤ 100000 := by have := d.len ok.ascF; have := ok.hl; omega
def spReadAnswer (C : Addr) : Sp := fun vs H Q _ => ∃ (p da db dl : Addr) (N : NS) (u v x : Int), vs = [.ref p, .int u, .int v, .int x] ∧ NetAt C H p da db dl N ∧ u ∈ N.hs ∧ N.Ok ∧
  ∀ t H', H' t = some (.tup (N.readL (.ans u v x)).2) → NetAt C H' p da db dl (N.readL (.ans u v x)).1 → Fr [da] H H' → Q (.ref t) H'
section
variable {P : Program} {w : World} {K : PySem.W.Frag} {mg : Str → Option Value} {base : Heap} {CNet CMender CDesk CStore CWalk : Addr}
abbrev s_Net__read_answer : Stmt := inClass (top 25) 18
theorem sc_Net__read_answer : FnScope ["self", "reader", "sender", "named"] ["self", "reader", "sender", "named"] (defScope s_Net__read_answer) := ⟨rfl, rfl, rfl, by decide +kernel, rfl, by decide +kernel, by decide +kernel⟩
theorem ok_Net__read_answer {f : Addr} {fd : FuncData} (F : Fun K "_read_answer" "Net._read_answer" s_Net__read_answer f fd) (G_between : GF P w K mg base "between" 2 ["size", "start", "place", "end"] spBetween) (T : NetT K CNet) : FnOk P w K mg base CX0 3 f fd ["self", "reader", "sender", "named"] (spReadAnswer CNet) := by
  refine F.ok sc_Net__read_answer (fun vs H Q E h => ?_) (fun cdv A outer s H vs Q E hr h => ?_)
  · obtain ⟨_, _, _, _, _, _, _, _, rfl, _⟩ := h; rfl
  · obtain ⟨p, da, db, dl, N, u, v, x, rfl, hN, hu, ok, k⟩ := h
    refine ⟨_, (pss_cons (ps_if (PW.pt (pw_and (pt_cmpR op_eq (pe_dget (hu_of hr) (pe_fldK (K := K) rfl (pv 0) (by rfl)) (pv 1) (by intro _ _; rfl)) (pv 2) (nomark _)) (pw_and1 (pt_val (c_fn G_between (hr.mono (by decide)) (pa_cons (pe_fldK (K := K) rfl (pv 0) (by rfl)) (pa_cons (pv 1) (pa_cons (pv 3) (pa_cons (pv 2) pa_nil))))))))) (pss_cons (ps_dput (hu_of hr) (pe_fldK (K := K) rfl (pv 0) (by rfl)) (pv 1) (pv 3) rfl)
      (pss_one (ps_ret (pe_tup (pa_cons pe_str (pa_cons (pv 1) (pa_cons (pv 3) pa_nil))))))) pss_nil)
      (pss_one (ps_ret (pe_tup (pa_cons pe_str (pa_cons (pv 1) (pa_cons pe_non pa_nil))))))), ?_⟩
    (try simp only [cxK, cxKX, List.map])
    refine ent (σ' := [some _, some _, some _, some _]) rfl ?_
    obtain ⟨⟨dx, hp⟩, ⟨kn, hn, dn⟩, ⟨kb, hb, eb⟩, ⟨lv, hl, ls⟩, ne⟩ := id hN
    have h0 := ok.s0
    have ne' := ne.symm
    k_offL
    refine dgetk (.inl hn) (by rw [dn.val, NS.mf_at hu]) ?_
    have no : ¬ (N.f u = v ∧ btw N.size u x v = true) → (∀ t H', H t = none → H' t = some (.tup [.str "kept", .int u, .non]) → Fr [] H H' → Q (.ref t) H') := by
      intro e t H' n2 e2 f2
      have e' : N.readL (.ans u v x) = (N, [.str "kept", .int u, .non]) := if_neg e
      rw [e'] at k
      exact k t H' e2 (hN.ex f2) f2.up
    k_offL
    refine ifD (fun e => ?_) (fun e => ?_)
    · k_offL
      refine i_between h0 ?_
      k_offL
      refine ifB (fun e2 => ?_) (fun e2 => ?_)
      · k_offL
        refine dputk hn (ok.knl dn) fun H1 e1 f1 => ?_
        k_offL
        refine tupk (by show 3 ≤ 100000; decide) fun t H' n2 e3 f2 => ?_
        have e' : N.readL (.ans u v x) = (N.setF u x, [.str "next", .int u, .int x]) := if_pos ⟨e, e2⟩
        rw [e'] at k
        exact k t H' e3 ⟨⟨dx, by k_clsL⟩, ⟨_, by k_clsL, dn.put.cong fun h => N.mf_setF u x hu h⟩, ⟨kb, by k_clsL, eb⟩, ⟨lv, by k_clsL, ls.fr (f1.trans f2.up)⟩, ne⟩ (f1.trans f2.up)
      · k_offL
        refine tupk (by show 3 ≤ 100000; decide) fun t H' n2 e3 f2 => ?_
        exact no (fun z => by rw [z.2] at e2; cases e2) t H' n2 e3 f2
    · k_offL
      refine tupk (by show 3 ≤ 100000; decide) fun t H' n2 e3 f2 => ?_
      exact no (fun z => e z.1) t H' n2 e3 f2
end
def spReadTell (C : Addr) : Sp := fun vs H Q _ => ∃ (p da db dl : Addr) (N : NS) (v u : Int), vs = [.ref p, .int v, .int u] ∧ NetAt C H p da db dl N ∧ v ∈ N.hs ∧ N.Ok ∧
  ∀ t H', H' t = some (.tup (N.readL (.tell v u)).2) → NetAt C H' p da db dl (N.readL (.tell v u)).1 → Fr [db] H H' → Q (.ref t) H'
section
variable {P : Program} {w : World} {K : PySem.W.Frag} {mg : Str → Option Value} {base : Heap} {CNet CMender CDesk CStore CWalk : Addr}
abbrev s_Net__read_tell : Stmt := inClass (top 25) 16
theorem sc_Net__read_tell : FnScope ["self", "reader", "sender", "before"] ["self", "reader", "sender"] (defScope s_Net__read_tell) := ⟨rfl, rfl, rfl, by decide +kernel, rfl, by decide +kernel, by decide +kernel⟩
theorem ok_Net__read_tell {f : Addr} {fd : FuncData} (F : Fun K "_read_tell" "Net._read_tell" s_Net__read_tell f fd) (G_between : GF P w K mg base "between" 2 ["size", "start", "place", "end"] spBetween) (T : NetT K CNet) : FnOk P w K mg base CX0 3 f fd ["self", "reader", "sender"] (spReadTell CNet) := by
  refine F.ok sc_Net__read_tell (fun vs H Q E h => ?_) (fun cdv A outer s H vs Q E hr h => ?_)
  · obtain ⟨_, _, _, _, _, _, _, rfl, _⟩ := h; rfl
  · obtain ⟨p, da, db, dl, N, v, u, rfl, hN, hv, ok, k⟩ := h
    refine ⟨_, (pss_cons (ps_set (i := 3) sc_Net__read_tell.nd rfl (Or.inl rfl) (pe_dget (hu_of hr) (pe_fldK (K := K) rfl (pv 0) (by rfl)) (pv 1) (by intro _ _; rfl)))
      (pss_cons (ps_if (PW.pt (pw_or (pt_cmpR op_isNn (pv 3) pe_non (nomark _)) (pw_or1 (pt_val (c_fn G_between (hr.mono (by decide)) (pa_cons (pe_fldK (K := K) rfl (pv 0) (by rfl)) (pa_cons (pv 3) (pa_cons (pv 2) (pa_cons (pv 1) pa_nil))))))))) (pss_cons (ps_dput (hu_of hr) (pe_fldK (K := K) rfl (pv 0) (by rfl)) (pv 1) (pv 2) rfl)
      (pss_one (ps_ret (pe_tup (pa_cons pe_str (pa_cons (pv 1) (pa_cons (pv 2) pa_nil))))))) pss_nil)
      (pss_one (ps_ret (pe_tup (pa_cons pe_str (pa_cons (pv 1) (pa_cons pe_non pa_nil)))))))), ?_⟩
    (try simp only [cxK, cxKX, List.map])
    refine ent (σ' := [some _, some _, some _, none]) rfl ?_
    obtain ⟨⟨dx, hp⟩, ⟨kn, hn, dn⟩, ⟨kb, hb, eb⟩, ⟨lv, hl, ls⟩, ne⟩ := id hN
    have h0 := ok.s0
    have ne' := ne.symm
    k_offL
    refine dgetk (.inl hb) (by rw [eb.val, NS.mb_at hv]) ?_
    have yes : (N.readL (.tell v u)) = (N.setB v (some u), [.str "before", .int v, .int u]) → (∀ H1 t H', H1 db = some (.dK (putK kb (.inl v) (.int u))) → Fr [db] H H1 → H1 t = none → H' t = some (.tup [.str "before", .int v, .int u]) → Fr [] H1 H' → Q (.ref t) H') := by
      intro e H1 t H' e1 f1 n2 e2 f2
      rw [e] at k
      exact k t H' e2 ⟨⟨dx, by k_clsL⟩, ⟨kn, by k_clsL, dn⟩, ⟨_, by k_clsL, eb.put.cong fun h => N.mb_setB v (some u) hv h⟩, ⟨lv, by k_clsL, ls.fr (f1.trans f2.up)⟩, ne⟩ (f1.trans f2.up)
    have no : (N.readL (.tell v u)) = (N, [.str "kept", .int v, .non]) → (∀ t H', H t = none → H' t = some (.tup [.str "kept", .int v, .non]) → Fr [] H H' → Q (.ref t) H') := by
      intro e t H' n2 e2 f2
      rw [e] at k
      exact k t H' e2 (hN.ex f2) f2.up
    cases hbv : N.b v with
    | none =>
      k_offL
      refine ifDT rfl ?_
      k_offL
      refine dputk hb (ok.kbl eb) fun H1 e1 f1 => ?_
      k_offL
      refine tupk (by show 3 ≤ 100000; decide) fun t H' n2 e2 f2 => ?_
      exact yes (by simp only [NS.readL, hbv]) H1 t H' e1 f1 n2 e2 f2
    | some b =>
      k_offL
      refine ifDF (fun z => nomatch z) ?_
      show tTest _ _ _ _
      k_offL
      refine i_between h0 ?_
      k_offL
      refine ifB (fun e => ?_) (fun e => ?_)
      · k_offL
        refine dputk hb (ok.kbl eb) fun H1 e1 f1 => ?_
        k_offL
        refine tupk (by show 3 ≤ 100000; decide) fun t H' n2 e2 f2 => ?_
        exact yes (by simp only [NS.readL, hbv, e, if_true]) H1 t H' e1 f1 n2 e2 f2
      · k_offL
        refine tupk (by show 3 ≤ 100000; decide) fun t H' n2 e2 f2 => ?_
        exact no (by simp only [NS.readL, hbv, e, Bool.false_eq_true, if_false]) t H' n2 e2 f2
end
def spReadAsk (C : Addr) : Sp := fun vs H Q _ => ∃ (p da db dl : Addr) (N : NS) (v u : Int), vs = [.ref p, .int v, .int u] ∧ NetAt C H p da db dl N ∧ v ∈ N.hs ∧ N.Ok ∧
  ∀ t H', H' t = some (.tup (N.readL (.ask v u)).2) → NetAt C H' p da db dl (N.readL (.ask v u)).1 → Fr [dl] H H' → Q (.ref t) H'
section
variable {P : Program} {w : World} {K : PySem.W.Frag} {mg : Str → Option Value} {base : Heap} {CNet CMender CDesk CStore CWalk : Addr}
abbrev s_Net__read_ask : Stmt := inClass (top 25) 17
theorem sc_Net__read_ask : FnScope ["self", "reader", "sender", "before"] ["self", "reader", "sender"] (defScope s_Net__read_ask) := ⟨rfl, rfl, rfl, by decide +kernel, rfl, by decide +kernel, by decide +kernel⟩
theorem ok_Net__read_ask {f : Addr} {fd : FuncData} (F : Fun K "_read_ask" "Net._read_ask" s_Net__read_ask f fd) (T : NetT K CNet) : FnOk P w K mg base CX0 1 f fd ["self", "reader", "sender"] (spReadAsk CNet) := by
  refine F.ok sc_Net__read_ask (fun vs H Q E h => ?_) (fun cdv A outer s H vs Q E hr h => ?_)
  · obtain ⟨_, _, _, _, _, _, _, rfl, _⟩ := h; rfl
  · obtain ⟨p, da, db, dl, N, v, u, rfl, hN, hv, ok, k⟩ := h
    refine ⟨_, (pss_cons (ps_set (i := 3) sc_Net__read_ask.nd rfl (Or.inl rfl) (pe_dget (hu_of hr) (pe_fldK (K := K) rfl (pv 0) (by rfl)) (pv 1) (by intro _ _; rfl)))
      (pss_cons (ps_if (pt_cmpR op_isNn (pv 3) pe_non (nomark _)) (pss_one (ps_ret (pe_tup (pa_cons pe_str (pa_cons (pv 1) (pa_cons pe_non pa_nil)))))) pss_nil)
      (pss_cons (ps_expr (pe_bmK (K := K) rfl PySem.F.plainAttrs_list PySem.F.slot_list_append PySem.F.type_list_append mt_append (pe_fldK (K := K) rfl (pv 0) (by rfl)) (pa_cons (pe_tup (pa_cons pe_str (pa_cons (pv 2) (pa_cons (pv 1) (pa_cons (pv 3) pa_nil))))) pa_nil)))
      (pss_one (ps_ret (pe_tup (pa_cons pe_str (pa_cons (pv 1) (pa_cons (pv 3) pa_nil))))))))), ?_⟩
    (try simp only [cxK, cxKX, List.map])
    refine ent (σ' := [some _, some _, some _, none]) rfl ?_
    obtain ⟨⟨dx, hp⟩, ⟨kn, hn, dn⟩, ⟨kb, hb, eb⟩, ⟨lv, hl, ls⟩, ne⟩ := id hN
    have h0 := ok.s0
    k_offL
    refine dgetk (.inl hb) (by rw [eb.val, NS.mb_at hv]) ?_
    cases hbv : N.b v with
    | none =>
      k_offL
      refine ifDT rfl ?_
      k_offL
      refine tupk (by show 3 ≤ 100000; decide) fun t H' n2 e2 f2 => ?_
      simp only [NS.readL, hbv] at k
      exact k t H' e2 (hN.ex f2) f2.up
    | some x =>
      k_offL
      refine ifDF (fun z => nomatch z) ?_
      simp only [NS.readL, hbv] at k
      k_offL
      refine tupk (by show 4 ≤ 100000; decide) fun t1 H1 n1 e1 f1 => ?_
      k_offL
      refine r_app (xs := lv) (by k_clsL) (by rw [ls.len]; have := ok.pl; omega) fun H2 e2 f2 => ?_
      k_offL
      refine tupk (by show 3 ≤ 100000; decide) fun t3 H3 n3 e3 f3 => ?_
      exact k t3 H3 e3 ⟨⟨dx, by k_clsL⟩, ⟨kn, by k_clsL, dn⟩, ⟨kb, by k_clsL, eb⟩, ⟨_, by k_clsL, (ls.fr ((f1.up.trans f2).trans f3.up)).snoc (f3.tp _ _ (f2.tp _ _ e1))⟩, ne⟩ ((f1.up.trans f2).trans f3.up)
end
def NS.read (N : NS) (i : Nat) (l : LT) : NS × List V := (N.del i).readL l
def spRead (C : Addr) : Sp := fun vs H Q _ => ∃ (p da db dl : Addr) (N : NS) (i : Nat) (l : LT), vs = [.ref p, .int (i : Int)] ∧ NetAt C H p da db dl N ∧ N.post[i]? = some l ∧ N.Ok ∧
  ∀ t H', H' t = some (.tup (N.read i l).2) → NetAt C H' p da db dl (N.read i l).1 → Fr [da, db, dl] H H' → Q (.ref t) H'
theorem NS.Ok.del {N : NS} (ok : N.Ok) (i : Nat) : (N.del i).Ok :=
  ⟨ok.s0, ok.s1, ok.up, ok.on, ok.fh, ok.bh, fun l hl => ok.ph l (List.mem_of_mem_eraseIdx hl), ok.hl, Nat.le_trans (List.length_eraseIdx_le ..) ok.pl⟩
section
variable {P : Program} {w : World} {K : PySem.W.Frag} {mg : Str → Option Value} {base : Heap} {CNet CMender CDesk CStore CWalk : Addr}
abbrev s_Net_read : Stmt := inClass (top 25) 15
theorem sc_Net_read : FnScope ["self", "at", "letter"] ["self", "at"] (defScope s_Net_read) := ⟨rfl, rfl, rfl, by decide +kernel, rfl, by decide +kernel, by decide +kernel⟩
theorem ok_Net_read {f : Addr} {fd : FuncData} (F : Fun K "read" "Net.read" s_Net_read f fd) (G_Net_lose : GM P w K mg base CNet "lose" 2 ["self", "at"] (spLose CNet)) (G_Net__read_tell : GM P w K mg base CNet "_read_tell" 3 ["self", "reader", "sender"] (spReadTell CNet)) (G_Net__read_ask : GM P w K mg base CNet "_read_ask" 1 ["self", "reader", "sender"] (spReadAsk CNet)) (G_Net__read_answer : GM P w K mg base CNet "_read_answer" 3 ["self", "reader", "sender", "named"] (spReadAnswer CNet)) (T : NetT K CNet) : FnOk P w K mg base CX0 4 f fd ["self", "at"] (spRead CNet) := by
  refine F.ok sc_Net_read (fun vs H Q E h => ?_) (fun cdv A outer s H vs Q E hr h => ?_)
  · obtain ⟨_, _, _, _, _, _, _, rfl, _⟩ := h; rfl
  · obtain ⟨p, da, db, dl, N, i, l, rfl, hN, hi, ok, k⟩ := h
    refine ⟨_, (pss_cons (ps_set (i := 2) sc_Net_read.nd rfl (Or.inl rfl) (c_mt G_Net_lose (hr.mono (by decide)) (pv 0) (pa_cons (pv 1) pa_nil)))
      (pss_cons (ps_if (pt_cmpR op_eq (pe_ix (ix_tupK (K := K) rfl) (pv 2) pe_int (by intro _ _; rfl)) pe_str (nomark _)) (pss_one (ps_ret (c_mt G_Net__read_tell (hr.mono (by decide)) (pv 0) (pa_cons (pe_ix (ix_tupK (K := K) rfl) (pv 2) pe_int (by intro _ _; rfl)) (pa_cons (pe_ix (ix_tupK (K := K) rfl) (pv 2) pe_int (by intro _ _; rfl)) pa_nil))))) pss_nil)
      (pss_cons (ps_if (pt_cmpR op_eq (pe_ix (ix_tupK (K := K) rfl) (pv 2) pe_int (by intro _ _; rfl)) pe_str (nomark _)) (pss_one (ps_ret (c_mt G_Net__read_ask (hr.mono (by decide)) (pv 0) (pa_cons (pe_ix (ix_tupK (K := K) rfl) (pv 2) pe_int (by intro _ _; rfl)) (pa_cons (pe_ix (ix_tupK (K := K) rfl) (pv 2) pe_int (by intro _ _; rfl)) pa_nil))))) pss_nil)
      (pss_one (ps_ret (c_mt G_Net__read_answer (hr.mono (by decide)) (pv 0) (pa_cons (pe_ix (ix_tupK (K := K) rfl) (pv 2) pe_int (by intro _ _; rfl)) (pa_cons (pe_ix (ix_tupK (K := K) rfl) (pv 2) pe_int (by intro _ _; rfl)) (pa_cons (pe_ix (ix_tupK (K := K) rfl) (pv 2) pe_int (by intro _ _; rfl)) pa_nil))))))))), ?_⟩
    (try simp only [cxK, cxKX, List.map])
    refine ent (σ' := [some _, some _, none]) rfl ?_
    obtain ⟨⟨dx, hp⟩, _⟩ := id hN
    have m1 : ∀ a ∈ [dl], a ∈ [da, db, dl] := fun a h => by simp at h; simp [h]
    have m2 : ∀ a ∈ [db], a ∈ [da, db, dl] := fun a h => by simp at h; simp [h]
    have m3 : ∀ a ∈ [da], a ∈ [da, db, dl] := fun a h => by simp at h; simp [h]
    have hm := List.mem_of_getElem? hi
    k_offL
    refine ⟨p, da, db, dl, N, i, l, rfl, hN, hi, ok, fun t H1 e1 hN1 f1 => ?_⟩
    k_offL
    obtain ⟨⟨dx1, hp1⟩, _⟩ := id hN1
    cases l with
    | tell v u =>
      refine r_ixT (sqT_of e1) (v := .str "tell") rfl ?_
      k_offL
      refine ifDT rfl ?_
      k_offL
      refine r_ixT (sqT_of e1) (v := .int v) rfl ?_
      k_offL
      refine r_ixT (sqT_of e1) (v := .int u) rfl ?_
      k_offL
      exact ⟨p, da, db, dl, N.del i, v, u, rfl, hN1, ok.ph _ hm v (by simp [LT.pl]), ok.del i, fun t H2 e2 hN2 f2 => k t H2 e2 hN2 ((f1.mono m1).trans (f2.mono m2))⟩
    | ask v u =>
      refine r_ixT (sqT_of e1) (v := .str "ask") rfl ?_
      k_offL
      refine ifDF (by decide +kernel) ?_
      k_offL
      refine r_ixT (sqT_of e1) (v := .str "ask") rfl ?_
      k_offL
      refine ifDT rfl ?_
      k_offL
      refine r_ixT (sqT_of e1) (v := .int v) rfl ?_
      k_offL
      refine r_ixT (sqT_of e1) (v := .int u) rfl ?_
      k_offL
      exact ⟨p, da, db, dl, N.del i, v, u, rfl, hN1, ok.ph _ hm v (by simp [LT.pl]), ok.del i, fun t H2 e2 hN2 f2 => k t H2 e2 hN2 ((f1.mono m1).trans (f2.mono m1))⟩
    | ans u v x =>
      refine r_ixT (sqT_of e1) (v := .str "answer") rfl ?_
      k_offL
      refine ifDF (by decide +kernel) ?_
      k_offL
      refine r_ixT (sqT_of e1) (v := .str "answer") rfl ?_
      k_offL
      refine ifDF (by decide +kernel) ?_
      k_offL
      refine r_ixT (sqT_of e1) (v := .int u) rfl ?_
      k_offL
      refine r_ixT (sqT_of e1) (v := .int v) rfl ?_
      k_offL
      refine r_ixT (sqT_of e1) (v := .int x) rfl ?_
      k_offL
      exact ⟨p, da, db, dl, N.del i, u, v, x, rfl, hN1, ok.ph _ hm u (by simp [LT.pl]), ok.del i, fun t H2 e2 hN2 f2 => k t H2 e2 hN2 ((f1.mono m1).trans (f2.mono m3))⟩
end
end RL
set_option synthInstance.maxHeartbeats 4000000
set_option synthInstance.maxSize 4000
namespace RL
def NS.rows (N : NS) : List D := N.hs.map fun h => .tup [.int h, .int (N.f h), oD (N.b h)]
def NS.snap (N : NS) : D := .tup [.int N.size, .tup N.rows, .tup (N.post.map LT.d)]
def RowIs (N : NS) (x y : V) (H : Hp) : Prop := ∃ h t, x = .int h ∧ y = .ref t ∧ H t = some (.tup [.int h, .int (N.f h), oV (N.b h)])
theorem oV_rep {H : Hp} : ∀ x : Option Int, Rep H (oD x) (oV x)
  | none => rfl
  | some _ => rfl
theorem RepL.of {H : Hp} : ∀ {ds : List D} {vs : List V}, vs.length = ds.length → (∀ (i : Nat) d, ds[i]? = some d → ∃ v, vs[i]? = some v ∧ Rep H d v) → RepL H ds vs
  | [], vs, hl, _ => List.length_eq_zero_iff.mp hl
  | d :: ds, [], hl, _ => by simp at hl
  | d :: ds, v :: r, hl, h => by
    refine ⟨v, r, rfl, ?_, RepL.of (by simpa using hl) fun i d' hd => ?_⟩
    · obtain ⟨w, a, b⟩ := h 0 d rfl
      have e : v = w := by simpa using a
      rw [e]; exact b
    · obtain ⟨w, a, b⟩ := h (i + 1) d' (by simpa using hd)
      exact ⟨w, by simpa using a, b⟩
theorem rows_rep {N : NS} {H : Hp} {ys : List V} (hl : ys.length = (N.hs.map V.int).length) (h : ∀ (i : Nat) x, (N.hs.map V.int)[i]? = some x → ∃ y, ys[i]? = some y ∧ RowIs N x y H) : RepL H N.rows ys := by
  refine RepL.of (by rw [hl, List.length_map]; unfold NS.rows; rw [List.length_map]) fun i d hd => ?_
  unfold NS.rows at hd
  rw [List.getElem?_map] at hd
  cases e : N.hs[i]? with
  | none => rw [e] at hd; cases hd
  | some k =>
    rw [e] at hd
    have hd' := Option.some.inj hd
    subst hd'
    obtain ⟨y, hy, k', t, e1, e2, e3⟩ := h i (.int k) (by rw [List.getElem?_map, e]; rfl)
    cases e1
    subst e2
    exact ⟨_, hy, t, _, rfl, e3, _, _, rfl, rfl, _, _, rfl, rfl, _, _, rfl, oV_rep _, rfl⟩
theorem LetsIs.rep {H : Hp} {ls : List LT} {lv : List V} (x : LetsIs H ls lv) : RepL H (ls.map LT.d) lv := by
  refine RepL.of (by rw [x.len, List.length_map]) fun i d hd => ?_
  rw [List.getElem?_map] at hd
  cases e : ls[i]? with
  | none => rw [e] at hd; cases hd
  | some l =>
    rw [e] at hd
    have hd' := Option.some.inj hd
    subst hd'
    obtain ⟨t, a, b⟩ := x.at_ i l e
    exact ⟨_, a, LT.rep b⟩
def spSnapshot (C : Addr) : Sp := fun vs H Q _ => ∃ (p da db dl : Addr) (N : NS), vs = [.ref p] ∧ NetAt C H p da db dl N ∧ N.Ok ∧ ∀ t H', Rep H' N.snap (.ref t) → Fr [] H H' → Q (.ref t) H'
section
variable {P : Program} {w : World} {K : PySem.W.Frag} {mg : Str → Option Value} {base : Heap} {CNet CMender CDesk CStore CWalk : Addr}
abbrev s_Net_snapshot : Stmt := inClass (top 25) 7
theorem sc_Net_snapshot : FnScope ["self", "rows", "house"] ["self"] (defScope s_Net_snapshot) := ⟨rfl, rfl, rfl, by decide +kernel, rfl, by decide +kernel, by decide +kernel⟩
theorem ok_Net_snapshot {f : Addr} {fd : FuncData} (F : Fun K "snapshot" "Net.snapshot" s_Net_snapshot f fd) (m_sorted : mg "sorted" = none) (m_tuple : mg "tuple" = none) (T : NetT K CNet) : FnOk P w K mg base CX0 1 f fd ["self"] (spSnapshot CNet) := by
  refine F.ok sc_Net_snapshot (fun vs H Q E h => ?_) (fun cdv A outer s H vs Q E hr h => ?_)
  · obtain ⟨_, _, _, _, _, rfl, _⟩ := h; rfl
  · obtain ⟨p, da, db, dl, N, rfl, hN, ok, k⟩ := h
    refine ⟨_, (pss_cons (ps_setLc (i := 1) (own := [("house", 2)]) (g := gName 2) rfl sc_Net_snapshot.nd rfl rfl (sw_true rfl rfl rfl (by decide +kernel)) (pi_listK (K := K) rfl (pe_callB (cb_sortD rfl) (by rfl) m_sorted b_sorted (pa_cons (pe_fldK (K := K) rfl (pv 0) (by rfl)) pa_nil))) (blkOk_by (N := ["self", "rows", "house"]) (sc := defScope s_Net_snapshot) (by decide +kernel)) (fun _ _ _ _ _ => (pg_name (i := 2) sc_Net_snapshot.nd rfl (Or.inl rfl))) (fun _ _ _ _ _ => pts_nil) (fun _ _ _ _ _ => (pe_tup (pa_cons (pv 2) (pa_cons (pe_dget (hu_of hr) (pe_fldK (K := K) rfl (pv 0) (by rfl)) (pv 2) (by intro _ _; rfl)) (pa_cons (pe_dget (hu_of hr) (pe_fldK (K := K) rfl (pv 0) (by rfl)) (pv 2) (by intro _ _; rfl)) pa_nil))))))
      (pss_one (ps_ret (pe_tup (pa_cons (pe_fldK (K := K) rfl (pv 0) (by rfl)) (pa_cons (pe_callTy (cb_tupOfK (K := K) rfl) (by rfl) m_tuple b_tuple (pa_cons (pv 1) pa_nil)) (pa_cons (pe_callTy (cb_tupOfK (K := K) rfl) (by rfl) m_tuple b_tuple (pa_cons (pe_fldK (K := K) rfl (pv 0) (by rfl)) pa_nil)) pa_nil))))))), ?_⟩
    (try simp only [cxK, cxKX, List.map])
    refine ent (σ' := [some _, none, none]) rfl ?_
    obtain ⟨⟨dx, hp⟩, ⟨kn, hn, dn⟩, ⟨kb, hb, eb⟩, ⟨lv, hl, ls⟩, ne⟩ := id hN
    have hlen := ok.hl
    k_offL
    refine r_sortD (.inl hn) dn ok.ascF (by omega) fun l1 H1 n1 e1 f1 => ?_
    refine walkL (sqL_of e1) ?_
    refine lcP (walk_list (xs := N.hs.map V.int)) (N.hs.map V.int) rfl (fun i H0 x H' _ y => yAt y) (fun _ => true) (RowIs N) (fun M x y H1 H2 ⟨h, t, a, b, c⟩ f => ⟨h, t, a, b, f.tp _ _ c⟩) (fun H' f => f.sqL (sqL_of e1) (fun z => nomatch z)) (by rw [List.length_map]; omega) (fun x H' hm f => ?_) fun q H2 ys n2 e2 hl2 hy f2 => ?_
    · obtain ⟨h, hh, rfl⟩ := mem_intsM hm
      refine sk2 ⟨fun R kR => kR H' (Fr.refl _ _), fun _ H3 f3 R kR => ?_⟩
      k_offL
      refine dgetk (kvs := kn) (.inl (by k_clsL)) (by rw [dn.val, NS.mf_at hh]) ?_
      k_offL
      refine dgetk (kvs := kb) (.inl (by k_clsL)) (by rw [eb.val, NS.mb_at hh]) ?_
      k_offL
      refine tupk (by show 3 ≤ 100000; decide) fun t H4 n4 e4 f4 => ?_
      exact kR _ _ f4 ⟨h, t, rfl, rfl, e4⟩
    · rw [List.filter_eq_self.mpr fun _ _ => rfl] at hl2 hy
      have rr := rows_rep hl2 hy
      k_offL
      refine r_tupL (sqL_of e2) fun t3 H3 n3 e3 f3 => ?_
      k_offL
      refine r_tupL (xs := lv) (sqL_of (by k_clsL)) fun t4 H4 n4 e4 f4 => ?_
      k_offL
      refine tupk (by show 3 ≤ 100000; decide) fun t5 H5 n5 e5 f5 => ?_
      have g : Fr [] H2 H5 := (f3.trans f4).trans f5
      have g0 : Fr [] H H5 := (f1.trans f2).trans g
      exact k t5 H5 ⟨t5, _, rfl, e5, _, _, rfl, rfl, _, _, rfl, ⟨t3, ys, rfl, (f4.trans f5).tp _ _ e3, RepL.fr0 g _ _ rr⟩, _, _, rfl, ⟨t4, lv, rfl, f5.tp _ _ e4, RepL.fr0 g0 _ _ ls.rep⟩, rfl⟩ g0
end
def spClone (C : Addr) : Sp := fun vs H Q _ => ∃ (p da db dl : Addr) (N : NS), vs = [.ref p] ∧ NetAt C H p da db dl N ∧ N.Ok ∧
  ∀ (x xa xb xl : Addr) H', H x = none → H xa = none → H xb = none → H xl = none → NetAt C H' x xa xb xl N → Fr [] H H' → Q (.ref x) H'
section
variable {P : Program} {w : World} {K : PySem.W.Frag} {mg : Str → Option Value} {base : Heap} {CNet CMender CDesk CStore CWalk : Addr}
abbrev s_Net_clone : Stmt := inClass (top 25) 8
theorem sc_Net_clone : FnScope ["self"] ["self"] (defScope s_Net_clone) := ⟨rfl, rfl, rfl, by decide +kernel, rfl, by decide +kernel, by decide +kernel⟩
theorem ok_Net_clone {f : Addr} {fd : FuncData} (F : Fun K "clone" "Net.clone" s_Net_clone f fd) (N_Net_befores_letters : GC P w K mg base CNet "Net" 3 ["self", "size", "nexts", "befores", "letters"] 2 ["befores", "letters"] (fun vs zs => vs ++ zs) (spNetInit CNet)) (G_Net_befores : GM P w K mg base CNet "befores" 1 ["self"] (spBefores CNet)) (T : NetT K CNet) : FnOk P w K mg base CX0 5 f fd ["self"] (spClone CNet) := by
  refine F.ok sc_Net_clone (fun vs H Q E h => ?_) (fun cdv A outer s H vs Q E hr h => ?_)
  · obtain ⟨_, _, _, _, _, rfl, _⟩ := h; rfl
  · obtain ⟨p, da, db, dl, N, rfl, hN, ok, k⟩ := h
    refine ⟨_, (pss_one (ps_ret (c_mk N_Net_befores_letters (hr.mono (by decide)) (pa_cons (pe_fldK (K := K) rfl (pv 0) (by rfl)) (pa_cons (pe_fldK (K := K) rfl (pv 0) (by rfl)) pa_nil)) (pk_cons (c_mt0 G_Net_befores (hr.mono (by decide)) (pv 0)) (pk_cons (pe_fldK (K := K) rfl (pv 0) (by rfl)) pk_nil))))), ?_⟩
    (try simp only [cxK, cxKX, List.map])
    refine ent (σ' := [some _]) rfl ?_
    obtain ⟨⟨dx, hp⟩, ⟨kn, hn, dn⟩, ⟨kb, hb, eb⟩, ⟨lv, hl, ls⟩, ne⟩ := id hN
    k_offL
    refine ⟨p, da, db, dl, N, rfl, hN, ok, fun t H1 n1 e1 f1 => ?_⟩
    k_offL
    refine i_net (N := N) (kn := kn) rfl rfl (fun x => rfl) (by k_clsL) dn (.inr ⟨t, _, rfl, e1, ok.dkb⟩) (.inr ⟨dl, lv, rfl, by k_clsL, ls.fr f1⟩) ok fun x xa xb xl H2 m1 m2 m3 m4 hN2 f2 => ?_
    exact k x xa xb xl H2 (f1.free m1) (f1.free m2) (f1.free m3) (f1.free m4) hN2 (f1.trans f2)
end
def NS.admit (N : NS) (y x : Int) (hs' : List Int) : NS := { N with hs := hs', f := fun h => if h = y then x else N.f h }
def spAdmit (C : Addr) : Sp := fun vs H Q _ => ∃ (p da db dl : Addr) (N : NS) (y x : Int), vs = [.ref p, .int y, .int x] ∧ NetAt C H p da db dl N ∧ y ∉ N.hs ∧ (x = y ∨ x ∈ N.hs) ∧ 0 ≤ y ∧ y < N.size ∧ N.Ok ∧
  ∀ H', (∀ hs', (∀ h, h ∈ hs' ↔ h = y ∨ h ∈ N.hs) → NetAt C H' p da db dl (N.admit y x hs')) → Fr [da, db] H H' → Q .non H'
section
variable {P : Program} {w : World} {K : PySem.W.Frag} {mg : Str → Option Value} {base : Heap} {CNet CMender CDesk CStore CWalk : Addr}
abbrev s_Net_admit : Stmt := inClass (top 25) 19
theorem sc_Net_admit : FnScope ["self", "place", "host"] ["self", "place", "host"] (defScope s_Net_admit) := ⟨rfl, rfl, rfl, by decide +kernel, rfl, by decide +kernel, by decide +kernel⟩
theorem ok_Net_admit {f : Addr} {fd : FuncData} (F : Fun K "admit" "Net.admit" s_Net_admit f fd) (G_check_place : GF P w K mg base "check_place" 1 ["size", "place"] spCheckPlace) (G_check_houses : GF P w K mg base "check_houses" 1 ["houses", "places"] (spCheckHouses K)) (T : NetT K CNet) : FnOk P w K mg base CX0 2 f fd ["self", "place", "host"] (spAdmit CNet) := by
  refine F.ok sc_Net_admit (fun vs H Q E h => ?_) (fun cdv A outer s H vs Q E hr h => ?_)
  · obtain ⟨_, _, _, _, _, _, _, rfl, _⟩ := h; rfl
  · obtain ⟨p, da, db, dl, N, y, x, rfl, hN, hy, hx, y0, y1, ok, k⟩ := h
    refine ⟨_, (pss_cons (ps_expr (c_fn G_check_place (hr.mono (by decide)) (pa_cons (pe_fldK (K := K) rfl (pv 0) (by rfl)) (pa_cons (pv 1) pa_nil))))
      (pss_cons (ps_if (pt_cmp (pc_din (hu_of hr) (pv 1) (pe_fldK (K := K) rfl (pv 0) (by rfl)))) (pss_one ps_never) pss_nil)
      (pss_cons (ps_if (pt_cmpR op_ne (pv 2) (pv 1) (nomark _)) (pss_one (ps_expr (c_fn G_check_houses (hr.mono (by decide)) (pa_cons (pe_fldK (K := K) rfl (pv 0) (by rfl)) (pa_cons (pe_lst (pa_cons (pv 2) pa_nil)) pa_nil))))) pss_nil)
      (pss_cons (ps_dput (hu_of hr) (pe_fldK (K := K) rfl (pv 0) (by rfl)) (pv 1) (pv 2) rfl)
      (pss_one (ps_dput (hu_of hr) (pe_fldK (K := K) rfl (pv 0) (by rfl)) (pv 1) pe_non rfl)))))), ?_⟩
    (try simp only [cxK, cxKX, List.map])
    refine ent (σ' := [some _, some _, some _]) rfl ?_
    obtain ⟨⟨dx, hp⟩, ⟨kn, hn, dn⟩, ⟨kb, hb, eb⟩, ⟨lv, hl, ls⟩, ne⟩ := id hN
    have ne' := ne.symm
    have bn : N.b y = none := by
      cases e : N.b y with
      | none => rfl
      | some z => exact absurd (ok.bh y z e).1 hy
    k_offL
    refine i_check_place y0 y1 ?_
    k_offL
    refine dink (.inl hn) ?_
    refine blk (ifE (show _ = false by rw [dn.val]; unfold NS.mf; rw [if_neg hy]; rfl) ?_)
    k_places
    refine q_cut (fun σ' H' => σ' = [some (.ref p), some (.int y), some (.int x)] ∧ Fr [] H H') (fun Nx kN => ?_) ?_
    · k_offL
      refine ifN (fun e => ?_) (fun e => ?_)
      · k_offL
        refine lstk (by show 1 ≤ 100000; decide) fun t H1 n1 e1 f1 => ?_
        k_offL
        refine i_check_houses [x] (.inl (by k_clsL)) dn (.inl (sqL_of e1)) (fun z hz => by rw [List.mem_singleton.mp hz]; exact NS.mf_some (hx.resolve_left e)) ?_
        k_offL
        exact kN _ _ ⟨rfl, f1⟩
      · k_offL
        exact kN _ _ ⟨rfl, Fr.refl _ _⟩
    rintro _ H1 ⟨rfl, f1⟩
    k_offL
    refine dputk (kvs := kn) (by k_clsL) (ok.knl dn) fun H2 e2 f2 => ?_
    k_offL
    refine dputk (kvs := kb) (by k_clsL) (ok.kbl eb) fun H3 e3 f3 => ?_
    have q1 : H3 p = some (.ins CNet dx (netF N.size da db dl)) := by k_clsL
    have q2 : H3 da = some (.dK (putK kn (.inl y) (.int x))) := by k_clsL
    have q4 : H3 dl = some (.lst lv) := by k_clsL
    have f : Fr [da, db] H H3 := (f1.up.trans (f2.mono fun a h => by simp at h; simp [h])).trans (f3.mono fun a h => by simp at h; simp [h])
    refine k H3 (fun hs' hm => ⟨⟨dx, q1⟩, ⟨_, q2, dn.put.cong fun h => ?_⟩, ⟨_, e3, eb.put.cong fun h => ?_⟩, ⟨lv, q4, ls.fr f⟩, ne⟩) f
    · unfold NS.mf
      show (if h = y then _ else _) = if h ∈ hs' then some (V.int (if h = y then x else N.f h)) else none
      by_cases e : h = y
      · rw [if_pos e, if_pos ((hm h).mpr (.inl e)), if_pos e]
      · rw [if_neg e, if_neg e]
        by_cases m : h ∈ N.hs
        · rw [if_pos m, if_pos ((hm h).mpr (.inr m))]
        · rw [if_neg m, if_neg fun z => ((hm h).mp z).elim e m]
    · unfold NS.mb
      show (if h = y then _ else _) = if h ∈ hs' then some (oV (N.b h)) else none
      by_cases e : h = y
      · rw [if_pos e, if_pos ((hm h).mpr (.inl e)), e, bn]; rfl
      · rw [if_neg e]
        by_cases m : h ∈ N.hs
        · rw [if_pos m, if_pos ((hm h).mpr (.inr m))]
        · rw [if_neg m, if_neg fun z => ((hm h).mp z).elim e m]
end
def spHold (C : Addr) : Sp := fun vs H Q _ => ∃ (p da db dl : Addr) (N : NS) (u x : Int), vs = [.ref p, .int u, .int x] ∧ NetAt C H p da db dl N ∧ u ∈ N.hs ∧ x ∈ N.hs ∧ N.Ok ∧
  ∀ H', NetAt C H' p da db dl (N.setF u x) → Fr [da] H H' → Q (.int (N.f u)) H'
section
variable {P : Program} {w : World} {K : PySem.W.Frag} {mg : Str → Option Value} {base : Heap} {CNet CMender CDesk CStore CWalk : Addr}
abbrev s_Net_hold : Stmt := inClass (top 25) 20
theorem sc_Net_hold : FnScope ["self", "house", "target", "old"] ["self", "house", "target"] (defScope s_Net_hold) := ⟨rfl, rfl, rfl, by decide +kernel, rfl, by decide +kernel, by decide +kernel⟩
theorem ok_Net_hold {f : Addr} {fd : FuncData} (F : Fun K "hold" "Net.hold" s_Net_hold f fd) (G_check_houses : GF P w K mg base "check_houses" 1 ["houses", "places"] (spCheckHouses K)) (T : NetT K CNet) : FnOk P w K mg base CX0 2 f fd ["self", "house", "target"] (spHold CNet) := by
  refine F.ok sc_Net_hold (fun vs H Q E h => ?_) (fun cdv A outer s H vs Q E hr h => ?_)
  · obtain ⟨_, _, _, _, _, _, _, rfl, _⟩ := h; rfl
  · obtain ⟨p, da, db, dl, N, u, x, rfl, hN, hu, hx, ok, k⟩ := h
    refine ⟨_, (pss_cons (ps_expr (c_fn G_check_houses (hr.mono (by decide)) (pa_cons (pe_fldK (K := K) rfl (pv 0) (by rfl)) (pa_cons (pe_lst (pa_cons (pv 1) (pa_cons (pv 2) pa_nil))) pa_nil))))
      (pss_cons (ps_set (i := 3) sc_Net_hold.nd rfl (Or.inl rfl) (pe_dget (hu_of hr) (pe_fldK (K := K) rfl (pv 0) (by rfl)) (pv 1) (by intro _ _; rfl)))
      (pss_cons (ps_dput (hu_of hr) (pe_fldK (K := K) rfl (pv 0) (by rfl)) (pv 1) (pv 2) rfl)
      (pss_one (ps_ret (pv 3)))))), ?_⟩
    (try simp only [cxK, cxKX, List.map])
    refine ent (σ' := [some _, some _, some _, none]) rfl ?_
    obtain ⟨⟨dx, hp⟩, ⟨kn, hn, dn⟩, ⟨kb, hb, eb⟩, ⟨lv, hl, ls⟩, ne⟩ := id hN
    have ne' := ne.symm
    k_offL
    refine lstk (by show 2 ≤ 100000; decide) fun t H1 n1 e1 f1 => ?_
    k_offL
    refine i_check_houses [u, x] (.inl (by k_clsL)) dn (.inl (sqL_of e1)) (fun z hz => ?_) ?_
    · rcases List.mem_cons.mp hz with e | e
      · rw [e]; exact NS.mf_some hu
      · rw [List.mem_singleton.mp e]; exact NS.mf_some hx
    k_offL
    refine dgetk (kvs := kn) (.inl (by k_clsL)) (by rw [dn.val, NS.mf_at hu]) ?_
    k_offL
    refine dputk (kvs := kn) (by k_clsL) (ok.knl dn) fun H2 e2 f2 => ?_
    k_offL
    have q1 : H2 p = some (.ins CNet dx (netF N.size da db dl)) := by k_clsL
    have q3 : H2 db = some (.dK kb) := by k_clsL
    have q4 : H2 dl = some (.lst lv) := by k_clsL
    exact k H2 ⟨⟨dx, q1⟩, ⟨_, e2, dn.put.cong fun h => N.mf_setF u x hu h⟩, ⟨kb, q3, eb⟩, ⟨lv, q4, ls.fr (f1.up.trans f2)⟩, ne⟩ (f1.up.trans f2)
end
def spSetBefore (C : Addr) : Sp := fun vs H Q _ => ∃ (p da db dl : Addr) (N : NS) (u : Int) (x : Option Int), vs = [.ref p, .int u, oV x] ∧ NetAt C H p da db dl N ∧ u ∈ N.hs ∧ (∀ y, x = some y → y ∈ N.hs) ∧ N.Ok ∧
  ∀ H', NetAt C H' p da db dl (N.setB u x) → Fr [db] H H' → Q .non H'
section
variable {P : Program} {w : World} {K : PySem.W.Frag} {mg : Str → Option Value} {base : Heap} {CNet CMender CDesk CStore CWalk : Addr}
abbrev s_Net_set_before : Stmt := inClass (top 25) 21
theorem sc_Net_set_before : FnScope ["self", "house", "before"] ["self", "house", "before"] (defScope s_Net_set_before) := ⟨rfl, rfl, rfl, by decide +kernel, rfl, by decide +kernel, by decide +kernel⟩
theorem ok_Net_set_before {f : Addr} {fd : FuncData} (F : Fun K "set_before" "Net.set_before" s_Net_set_before f fd) (G_check_houses : GF P w K mg base "check_houses" 1 ["houses", "places"] (spCheckHouses K)) (T : NetT K CNet) : FnOk P w K mg base CX0 2 f fd ["self", "house", "before"] (spSetBefore CNet) := by
  refine F.ok sc_Net_set_before (fun vs H Q E h => ?_) (fun cdv A outer s H vs Q E hr h => ?_)
  · obtain ⟨_, _, _, _, _, _, _, rfl, _⟩ := h; rfl
  · obtain ⟨p, da, db, dl, N, u, x, rfl, hN, hu, hx, ok, k⟩ := h
    refine ⟨_, (pss_cons (ps_expr (c_fn G_check_houses (hr.mono (by decide)) (pa_cons (pe_fldK (K := K) rfl (pv 0) (by rfl)) (pa_cons (pe_ifExp (pt_cmpR op_isNn (pv 2) pe_non (nomark _)) (pe_lst (pa_cons (pv 1) pa_nil)) (pe_lst (pa_cons (pv 1) (pa_cons (pv 2) pa_nil)))) pa_nil))))
      (pss_one (ps_dput (hu_of hr) (pe_fldK (K := K) rfl (pv 0) (by rfl)) (pv 1) (pv 2) rfl))), ?_⟩
    (try simp only [cxK, cxKX, List.map])
    refine ent (σ' := [some _, some _, some _]) rfl ?_
    obtain ⟨⟨dx, hp⟩, ⟨kn, hn, dn⟩, ⟨kb, hb, eb⟩, ⟨lv, hl, ls⟩, ne⟩ := id hN
    have ne' := ne.symm
    refine q_cut (fun σ' H' => σ' = [some (.ref p), some (.int u), some (oV x)] ∧ Fr [] H H') (fun Nx kN => ?_) ?_
    · cases x with
      | none =>
        k_offL
        refine ifDT rfl ?_
        k_offL
        refine lstk (by show 1 ≤ 100000; decide) fun t H1 n1 e1 f1 => ?_
        k_offL
        refine i_check_houses [u] (.inl (by k_clsL)) dn (.inl (sqL_of e1)) (fun z hz => by rw [List.mem_singleton.mp hz]; exact NS.mf_some hu) ?_
        exact kN _ _ ⟨rfl, f1⟩
      | some x =>
        k_offL
        refine ifDF (fun z => nomatch z) ?_
        k_offL
        refine lstk (by show 2 ≤ 100000; decide) fun t H1 n1 e1 f1 => ?_
        k_offL
        refine i_check_houses [u, x] (.inl (by k_clsL)) dn (.inl (sqL_of e1)) (fun z hz => ?_) ?_
        · rcases List.mem_cons.mp hz with e | e
          · rw [e]; exact NS.mf_some hu
          · rw [List.mem_singleton.mp e]; exact NS.mf_some (hx x rfl)
        exact kN _ _ ⟨rfl, f1⟩
    rintro _ H1 ⟨rfl, f1⟩
    k_offL
    refine dputk (kvs := kb) (by k_clsL) (ok.kbl eb) fun H2 e2 f2 => ?_
    have q1 : H2 p = some (.ins CNet dx (netF N.size da db dl)) := by k_clsL
    have q2 : H2 da = some (.dK kn) := by k_clsL
    have q4 : H2 dl = some (.lst lv) := by k_clsL
    exact k H2 ⟨⟨dx, q1⟩, ⟨kn, q2, dn⟩, ⟨_, e2, eb.put.cong fun h => N.mb_setB u x hu h⟩, ⟨lv, q4, ls.fr (f1.up.trans f2)⟩, ne⟩ (f1.up.trans f2)
end
end RL
set_option synthInstance.maxHeartbeats 4000000
set_option synthInstance.maxSize 4000
namespace RL
def T5 (tp tc : Addr) (i : Nat) (c k r : Int) (H : Hp) : Prop := H tp = some (.lst [.ref tc, .int (i : Int), .int c, .int k, .int r])
structure TapeAt (H : Hp) (tp tc : Addr) : Prop where
  ex : ∃ (cs : List Int) (i : Nat) (c k r : Int), T5 tp tc i c k r H ∧ H tc = some (.lst (cs.map V.int)) ∧ i < cs.length ∧ cs.length ≤ 64
theorem TapeAt.fr {H H' : Hp} {tp tc : Addr} {M : List Addr} (x : TapeAt H tp tc) (f : Fr M H H') (h1 : tp ∉ M) (h2 : tc ∉ M) : TapeAt H' tp tc :=
  let ⟨cs, i, c, k, r, a, b, d⟩ := x.ex
  ⟨cs, i, c, k, r, f.at_ _ _ a h1, f.at_ _ _ b h2, d⟩
theorem TapeAt.ex0 {H H' : Hp} {tp tc : Addr} (x : TapeAt H tp tc) (f : Fr [] H H') : TapeAt H' tp tc := x.fr f List.not_mem_nil List.not_mem_nil
theorem TapeAt.ne {H : Hp} {tp tc : Addr} (x : TapeAt H tp tc) : tc ≠ tp := by
  obtain ⟨cs, i, c, k, r, a, b, d⟩ := x.ex
  intro e
  subst e
  rw [show H tc = _ from a] at b
  have b' := HO.lst.inj (Option.some.inj b)
  match cs, b' with
  | [], b' => cases b'
  | x :: r, b' => cases b'
def absV : V → V
  | .int i => .int (if i < 0 then -i else i)
  | v => v
theorem absV_map (ns : List Int) : (ns.map V.int).map absV = (ns.map fun i => if i < 0 then -i else i).map V.int := by
  rw [List.map_map, List.map_map]; rfl
def spTape (K : PySem.W.Frag) : Sp := fun vs H Q _ => ∃ (a : Addr) (ns : List Int), vs = [.ref a] ∧ SqL K H a (ns.map V.int) ∧ ns.length ≤ 63 ∧ ∀ tp tc H', H tp = none → H tc = none → TapeAt H' tp tc → Fr [] H H' → Q (.ref tp) H'
section
variable {P : Program} {w : World} {K : PySem.W.Frag} {mg : Str → Option Value} {base : Heap} {CNet CMender CDesk CStore CWalk : Addr}
abbrev s__law_tape : Stmt := top 27
theorem sc__law_tape : FnScope ["script", "cells", "cell"] ["script"] (defScope s__law_tape) := ⟨rfl, rfl, rfl, by decide +kernel, rfl, by decide +kernel, by decide +kernel⟩
theorem ok__law_tape {f : Addr} {fd : FuncData} (F : Fun K "_law_tape" "_law_tape" s__law_tape f fd) (m_abs : mg "abs" = none) (m_int : mg "int" = none) (m_len : mg "len" = none) : FnOk P w K mg base CX0 1 f fd ["script"] (spTape K) := by
  refine F.ok sc__law_tape (fun vs H Q E h => ?_) (fun cdv A outer s H vs Q E hr h => ?_)
  · obtain ⟨_, _, rfl, _⟩ := h; rfl
  · obtain ⟨a, ns, rfl, hS, hlen, k⟩ := h
    refine ⟨_, (pss_cons (ps_setLc (i := 1) (own := [("cell", 2)]) (g := gName 2) rfl sc__law_tape.nd rfl rfl (sw_true rfl rfl rfl (by decide +kernel)) (pi_listK (K := K) rfl (pv 0)) (blkOk_by (N := ["script", "cells", "cell"]) (sc := defScope s__law_tape) (by decide +kernel)) (fun _ _ _ _ _ => (pg_name (i := 2) sc__law_tape.nd rfl (Or.inl rfl))) (fun _ _ _ _ _ => pts_nil) (fun _ _ _ _ _ => (pe_callB cb_abs (by rfl) m_abs b_abs (pa_cons (pe_callTy cb_int (by rfl) m_int b_int (pa_cons (pv 2) pa_nil)) pa_nil))))
      (pss_cons (ps_if (pt_cmpR op_eq (pe_callB (cb_lenSK (K := K) rfl) (by rfl) m_len b_len (pa_cons (pv 1) pa_nil)) pe_int (nomark _)) (pss_one (ps_set (i := 1) sc__law_tape.nd rfl (Or.inl rfl) (pe_lst (pa_cons pe_int pa_nil)))) pss_nil)
      (pss_one (ps_ret (pe_lst (pa_cons (pv 1) (pa_cons pe_int (pa_cons (pe_ix (ix_listK (K := K) rfl) (pv 1) pe_int (by intro _ _; rfl)) (pa_cons pe_int (pa_cons pe_int pa_nil)))))))))), ?_⟩
    (try simp only [cxK, cxKX, List.map])
    refine ent (σ' := [some _, none, none]) rfl ?_
    k_offL
    refine walkL hS ?_
    refine lcV (walk_list (xs := ns.map V.int)) (ns.map V.int) rfl (fun i H0 x H' _ y => yAt y) (fun _ => true) absV (fun H' f => f.sqL hS List.not_mem_nil) (by rw [List.length_map]; omega) (fun x H' hm f => ?_) fun l1 H1 n1 e1 f1 => ?_
    · obtain ⟨z, _, rfl⟩ := mem_intsM hm
      refine sk2 ⟨fun R kR => kR H' (Fr.refl _ _), fun _ H3 f3 R kR => ?_⟩
      k_offL
      exact kR H3 (Fr.refl _ _)
    rw [List.filter_eq_self.mpr fun _ _ => rfl, absV_map] at e1
    k_places
    refine q_cut (fun σ' H' => ∃ (tc : Addr) (cs : List Int), σ' = [some (.ref a), some (.ref tc), none] ∧ H tc = none ∧ H' tc = some (.lst (cs.map V.int)) ∧ 0 < cs.length ∧ cs.length ≤ 64 ∧ Fr [] H H') (fun Nx kN => ?_) ?_
    · k_offL
      refine r_lenL (sqL_of e1) ?_
      k_offL
      refine ifD (fun e => ?_) (fun e => ?_)
      · k_offL
        refine lstk (by show 1 ≤ 100000; decide) fun l2 H2 n2 e2 f2 => ?_
        k_offL
        exact kN _ _ ⟨l2, [0], rfl, f1.free n2, e2, by decide, by decide, f1.trans f2⟩
      · k_offL
        refine kN _ _ ⟨l1, _, rfl, n1, e1, ?_, ?_, f1⟩
        · simp only [List.length_map] at e ⊢; omega
        · simp only [List.length_map]; omega
    rintro _ H2 ⟨tc, cs, rfl, n2, e2, h0, hl, f2⟩
    k_offL
    refine r_ixL (sqL_of e2) (v := .int cs[0]) (at_of (j := 0) rfl (by rw [List.getElem?_map, List.getElem?_eq_getElem h0]; rfl)) ?_
    k_offL
    refine lstk (by show 5 ≤ 100000; decide) fun tp H3 n3 e3 f3 => ?_
    exact k tp tc H3 (f2.free n3) n2 ⟨cs, 0, cs[0], 0, 0, e3, f3.at_ _ _ e2 List.not_mem_nil, h0, hl⟩ (f2.trans f3)
end
def spPick : Sp := fun vs H Q _ => ∃ (tp tc : Addr) (size : Int) (_ : Unit), vs = [.ref tp, .int size] ∧ TapeAt H tp tc ∧ 0 < size ∧ size < 2 ^ 62 ∧ ∀ n H', 0 ≤ n → n < size → TapeAt H' tp tc → Fr [tp] H H' → Q (.int n) H'
theorem i_pick {tp tc : Addr} {size : Int} {H : Hp} {Q : VK} {E : XK} (t : TapeAt H tp tc) (h0 : 0 < size) (h1 : size < 2 ^ 62) (q : ∀ n H', 0 ≤ n → n < size → TapeAt H' tp tc → Fr [tp] H H' → Q (.int n) H') : spPick [.ref tp, .int size] H Q E := ⟨tp, tc, size, (), rfl, t, h0, h1, q⟩
theorem ix_at {xs : List V} {i : Int} {v : V} (j : Nat) (e : i = (j : Int)) (h : xs[j]? = some v) : atI xs i = some v := at_of e h
section
variable {P : Program} {w : World} {K : PySem.W.Frag} {mg : Str → Option Value} {base : Heap} {CNet CMender CDesk CStore CWalk : Addr}
abbrev s__law_pick : Stmt := top 28
theorem sc__law_pick : FnScope ["tape", "size", "cells", "cell", "k", "number", "used", "mixed"] ["tape", "size"] (defScope s__law_pick) := ⟨rfl, rfl, rfl, by decide +kernel, rfl, by decide +kernel, by decide +kernel⟩
theorem ok__law_pick {f : Addr} {fd : FuncData} (F : Fun K "_law_pick" "_law_pick" s__law_pick f fd) (m_int : mg "int" = none) (m_len : mg "len" = none) : FnOk P w K mg base CX0 1 f fd ["tape", "size"] spPick := by
  refine F.ok sc__law_pick (fun vs H Q E h => ?_) (fun cdv A outer s H vs Q E hr h => ?_)
  · obtain ⟨_, _, _, _, rfl, _⟩ := h; rfl
  · obtain ⟨tp, tc, size, _, rfl, t, h0, h1, k⟩ := h
    refine ⟨_, (pss_cons (ps_set (i := 2) sc__law_pick.nd rfl (Or.inl rfl) (pe_ix (ix_listK (K := K) rfl) (pv 0) pe_int (by intro _ _; rfl)))
      (pss_cons (ps_set (i := 3) sc__law_pick.nd rfl (Or.inl rfl) (pe_ix (ix_listK (K := K) rfl) (pv 2) (pe_ix (ix_listK (K := K) rfl) (pv 0) pe_int (by intro _ _; rfl)) (by intro _ _; rfl)))
      (pss_cons (ps_set (i := 4) sc__law_pick.nd rfl (Or.inl rfl) (pe_op op_add (pe_ix (ix_listK (K := K) rfl) (pv 0) pe_int (by intro _ _; rfl)) (pe_op op_mul pe_int (pe_ix (ix_listK (K := K) rfl) (pv 0) pe_int (by intro _ _; rfl)))))
      (pss_cons (ps_if (PW.pt (pw_and (pt_cmpR op_ge (pv 3) (pe_op op_pow pe_int pe_int) (nomark _)) (pw_and1 (pt_cmpR op_eq (pe_ix (ix_listK (K := K) rfl) (pv 0) pe_int (by intro _ _; rfl)) pe_int (nomark _))))) (pss_cons (ps_set (i := 5) sc__law_pick.nd rfl (Or.inl rfl) (pe_op op_mod (pe_callTy cb_int (by rfl) m_int b_int (pa_cons (pe_ix (ix_listK (K := K) rfl) (pv 0) pe_int (by intro _ _; rfl)) pa_nil)) (pv 1)))
      (pss_cons (ps_asg (pe_op op_fdivW (pe_ix (ix_listK (K := K) rfl) (pv 0) pe_int (by intro _ _; rfl)) (pv 1)) (pg_sub (pv 0) pe_int set_list))
      (pss_one (ps_set (i := 6) sc__law_pick.nd rfl (Or.inl rfl) (pe_cmpR op_eq (pe_ix (ix_listK (K := K) rfl) (pv 0) pe_int (by intro _ _; rfl)) pe_int (nomark _)))))) (pss_cons (ps_set (i := 7) sc__law_pick.nd rfl (Or.inl rfl) (pe_op op_mod (pe_callTy cb_int (by rfl) m_int b_int (pa_cons (pe_op op_add (pe_op op_add (pv 3) (pe_op op_mul pe_int (pv 4))) pe_int) pa_nil)) pe_int))
      (pss_cons (ps_set (i := 7) sc__law_pick.nd rfl (Or.inl rfl) (pe_op op_mod (pe_callTy cb_int (by rfl) m_int b_int (pa_cons (pe_op op_mul (pv 7) (pe_op op_add (pv 7) pe_int)) pa_nil)) pe_int))
      (pss_cons (ps_set (i := 7) sc__law_pick.nd rfl (Or.inl rfl) (pe_op op_mod (pe_callTy cb_int (by rfl) m_int b_int (pa_cons (pe_op op_add (pe_op op_mul (pv 7) (pe_op op_add (pv 7) pe_int)) (pe_op op_mul pe_int (pv 4))) pa_nil)) pe_int))
      (pss_cons (ps_set (i := 5) sc__law_pick.nd rfl (Or.inl rfl) (pe_op op_mod (pe_callTy cb_int (by rfl) m_int b_int (pa_cons (pe_op op_fdivW (pv 7) pe_int) pa_nil)) (pv 1)))
      (pss_one (ps_set (i := 6) sc__law_pick.nd rfl (Or.inl rfl) (pe_cmpR op_eq (pe_op op_mod (pe_callTy cb_int (by rfl) m_int b_int (pa_cons (pv 4) pa_nil)) pe_int) pe_int (nomark _)))))))))
      (pss_cons (ps_asg (pe_op op_add (pe_ix (ix_listK (K := K) rfl) (pv 0) pe_int (by intro _ _; rfl)) pe_int) (pg_sub (pv 0) pe_int set_list))
      (pss_cons (ps_if (pt_val (pv 6)) (pss_cons (ps_asg pe_int (pg_sub (pv 0) pe_int set_list))
      (pss_cons (ps_asg (pe_op op_add (pe_ix (ix_listK (K := K) rfl) (pv 0) pe_int (by intro _ _; rfl)) pe_int) (pg_sub (pv 0) pe_int set_list))
      (pss_cons (ps_if (pt_cmpR op_eq (pe_ix (ix_listK (K := K) rfl) (pv 0) pe_int (by intro _ _; rfl)) (pe_callB (cb_lenSK (K := K) rfl) (by rfl) m_len b_len (pa_cons (pv 2) pa_nil)) (nomark _)) (pss_cons (ps_asg pe_int (pg_sub (pv 0) pe_int set_list))
      (pss_one (ps_asg (pe_op op_add (pe_ix (ix_listK (K := K) rfl) (pv 0) pe_int (by intro _ _; rfl)) pe_int) (pg_sub (pv 0) pe_int set_list)))) pss_nil)
      (pss_one (ps_asg (pe_ix (ix_listK (K := K) rfl) (pv 2) (pe_ix (ix_listK (K := K) rfl) (pv 0) pe_int (by intro _ _; rfl)) (by intro _ _; rfl)) (pg_sub (pv 0) pe_int set_list)))))) pss_nil)
      (pss_one (ps_ret (pv 5))))))))), ?_⟩
    (try simp only [cxK, cxKX, List.map])
    refine ent (σ' := [some _, some _, none, none, none, none, none, none]) rfl ?_
    have hne := t.ne
    obtain ⟨cs, i, c, kk, r, tt, tcs, hi, hl⟩ := t.ex
    have hcell : (cs.map V.int)[i]? = some (.int cs[i]) := by rw [List.getElem?_map, List.getElem?_eq_getElem hi]; rfl
    k_offL
    refine r_ixL (sqL_of tt) (ix_at 0 rfl rfl) ?_
    k_offL
    refine r_ixL (sqL_of tt) (ix_at 1 rfl rfl) ?_
    k_offL
    refine r_ixL (sqL_of tcs) (ix_at i rfl hcell) ?_
    k_offL
    refine r_ixL (sqL_of tt) (ix_at 3 rfl rfl) ?_
    k_offL
    refine r_ixL (sqL_of tt) (ix_at 4 rfl rfl) ?_
    k_places
    refine q_cut (fun σ' H' => ∃ (n c' : Int) (b : Bool) (kv mx : Option V), σ' = [some (.ref tp), some (.int size), some (.ref tc), some (.int cs[i]), kv, some (.int n), some (.bl b), mx] ∧ 0 ≤ n ∧ n < size ∧ T5 tp tc i c' kk r H' ∧ Fr [tp] H H') (fun Nx kN => ?_) ?_
    · k_offL
      have mix : ∀ (A B : Int → Int) (X : Int), ∀ b kv mx, Nx [some (.ref tp), some (.int size), some (.ref tc), some (.int cs[i]), kv, some (.int (X % size)), some (.bl b), mx] H := fun A B X b kv mx =>
        kN _ _ ⟨_, c, b, kv, mx, rfl, Int.emod_nonneg _ (by omega), Int.emod_lt_of_pos _ h0, tt, Fr.refl _ _⟩
      refine ifD (fun e => ?_) (fun e => ?_)
      · k_offL
        refine r_ixL (sqL_of tt) (ix_at 4 rfl rfl) ?_
        k_offL
        refine ifD (fun e2 => ?_) (fun e2 => ?_)
        · k_offL
          refine r_ixL (sqL_of tt) (ix_at 2 rfl rfl) ?_
          k_offL
          refine r_ixL (sqL_of tt) (ix_at 2 rfl rfl) ?_
          k_offL
          refine r_setL tt (j := 2) rfl (by show 2 < 5; decide) fun H1 e1 f1 => ?_
          k_offL
          refine r_ixL (sqL_of e1) (ix_at 2 rfl rfl) ?_
          k_offL
          exact kN _ _ ⟨_, _, _, _, _, rfl, Int.emod_nonneg _ (by omega), Int.emod_lt_of_pos _ h0, e1, f1⟩
        · k_offL
          exact mix id id _ _ _ _
      · k_offL
        exact mix id id _ _ _ _
    rintro _ H1 ⟨n, c', b, kv, mx, rfl, n0, n1, t1, f1⟩
    have tcs1 : H1 tc = some (.lst (cs.map V.int)) := f1.at_ _ _ tcs (fun z => hne (List.mem_singleton.mp z))
    k_offL
    refine r_ixL (sqL_of t1) (ix_at 3 rfl rfl) ?_
    k_offL
    refine r_setL t1 (j := 3) rfl (by show 3 < 5; decide) fun H2 e2 f2 => ?_
    have f02 := f1.trans f2
    have tcs2 : H2 tc = some (.lst (cs.map V.int)) := f2.at_ _ _ tcs1 (fun z => hne (List.mem_singleton.mp z))
    k_offL
    refine ifB (fun eb => ?_) (fun eb => ?_)
    · k_offL
      refine r_setL e2 (j := 3) rfl (by show 3 < 5; decide) fun H3 e3 f3 => ?_
      k_offL
      refine r_ixL (sqL_of e3) (v := .int (i : Int)) (ix_at 1 rfl rfl) ?_
      k_offL
      refine r_setL e3 (j := 1) rfl (by show 1 < 5; decide) fun H4 e4 f4 => ?_
      k_offL
      refine r_ixL (sqL_of e4) (ix_at 1 rfl rfl) ?_
      k_offL
      have f04 := (f02.trans f3).trans f4
      have tcs4 : H4 tc = some (.lst (cs.map V.int)) := f04.at_ _ _ tcs (fun z => hne (List.mem_singleton.mp z))
      refine r_lenL (sqL_of tcs4) ?_
      k_offL
      refine ifD (fun ew => ?_) (fun ew => ?_)
      · k_offL
        refine r_setL e4 (j := 1) rfl (by show 1 < 5; decide) fun H5 e5 f5 => ?_
        k_offL
        refine r_ixL (sqL_of e5) (ix_at 4 rfl rfl) ?_
        k_offL
        refine r_setL e5 (j := 4) rfl (by show 4 < 5; decide) fun H6 e6 f6 => ?_
        k_offL
        refine r_ixL (sqL_of e6) (v := .int 0) (ix_at 1 rfl rfl) ?_
        have f06 := (f04.trans f5).trans f6
        have tcs6 : H6 tc = some (.lst (cs.map V.int)) := f06.at_ _ _ tcs (fun z => hne (List.mem_singleton.mp z))
        have hp : 0 < cs.length := by omega
        k_offL
        refine r_ixL (sqL_of tcs6) (v := .int cs[0]) (ix_at 0 rfl (by rw [List.getElem?_map, List.getElem?_eq_getElem hp]; rfl)) ?_
        k_offL
        refine r_setL e6 (j := 2) rfl (by show 2 < 5; decide) fun H7 e7 f7 => ?_
        k_offL
        exact k n H7 n0 n1 ⟨cs, 0, _, _, _, e7, f7.at_ _ _ tcs6 (fun z => hne (List.mem_singleton.mp z)), hp, hl⟩ (f06.trans f7)
      · k_offL
        refine r_ixL (sqL_of e4) (v := .int ((i : Int) + 1)) (ix_at 1 rfl rfl) ?_
        k_offL
        rw [List.length_map] at ew
        have hi2 : i + 1 < cs.length := by omega
        refine r_ixL (sqL_of tcs4) (v := .int cs[i + 1]) (ix_at (i + 1) (by omega) (by rw [List.getElem?_map, List.getElem?_eq_getElem hi2]; rfl)) ?_
        k_offL
        refine r_setL e4 (j := 2) rfl (by show 2 < 5; decide) fun H7 e7 f7 => ?_
        k_offL
        exact k n H7 n0 n1 ⟨cs, i + 1, _, _, _, e7, f7.at_ _ _ tcs4 (fun z => hne (List.mem_singleton.mp z)), hi2, hl⟩ (f04.trans f7)
    · k_offL
      exact k n H2 n0 n1 ⟨cs, i, _, _, _, e2, tcs2, hi, hl⟩ f02
end
end RL
set_option synthInstance.maxHeartbeats 4000000
set_option synthInstance.maxSize 4000
namespace RL
theorem mem_one {a b : Addr} (h : b ≠ a) : b ∉ [a] := fun z => h (List.mem_singleton.mp z)
def NxD (ps done : List Int) (kvs : List (Key × V)) : Prop := ∃ g : Int → Int, DOk kvs (fun h => if h ∈ done then some (.int (g h)) else none) ∧ (∀ h ∈ done, g h ∈ ps) ∧ kvs.length ≤ done.length
theorem NxD.nil {ps : List Int} : NxD ps [] [] := ⟨fun _ => 0, DOk.nil.cong fun n => by simp, (fun _ h => nomatch h), Nat.le_refl _⟩
theorem NxD.put {ps done : List Int} {kvs : List (Key × V)} (x : NxD ps done kvs) {h y : Int} (hy : y ∈ ps) : NxD ps (done ++ [h]) (putK kvs (.inl h) (.int y)) := by
  obtain ⟨g, d, m, l⟩ := x
  refine ⟨fun z => if z = h then y else g z, d.put.cong fun n => ?_, fun z hz => ?_, ?_⟩
  · by_cases e : n = h
    · subst e; simp
    · by_cases hm : n ∈ done
      · simp [e, hm]
      · simp [e, hm]
  · by_cases e : z = h
    · show (if z = h then y else g z) ∈ ps
      rw [if_pos e]; exact hy
    · show (if z = h then y else g z) ∈ ps
      rw [if_neg e]
      exact m z ((List.mem_append.mp hz).resolve_right fun q => e (List.mem_singleton.mp q))
  · have := putK_len1 kvs (.inl h) (.int y)
    rw [List.length_append]
    simp only [List.length_singleton]
    omega
theorem ints_get {ps : List Int} {j : Nat} (h : j < ps.length) : (ps.map V.int)[j]? = some (.int ps[j]) := by rw [List.getElem?_map, List.getElem?_eq_getElem h]; rfl
theorem take_get {ps : List Int} {j : Nat} (h : j < ps.length) : ps.take (j + 1) = ps.take j ++ [ps[j]] := take_snoc (List.getElem?_eq_getElem h)
def spSize : Sp := fun vs H Q _ => ∃ (tp tc : Addr) (count : Int) (_ : Unit), vs = [.ref tp, .int count] ∧ TapeAt H tp tc ∧ 0 ≤ count ∧ count ≤ 100 ∧ ∀ n H', 1 ≤ n → count ≤ n → n < 2 ^ 31 → TapeAt H' tp tc → Fr [tp] H H' → Q (.int n) H'
section
variable {P : Program} {w : World} {K : PySem.W.Frag} {mg : Str → Option Value} {base : Heap} {CNet CMender CDesk CStore CWalk : Addr}
abbrev s__law_size : Stmt := top 29
theorem sc__law_size : FnScope ["tape", "count", "kind", "least"] ["tape", "count"] (defScope s__law_size) := ⟨rfl, rfl, rfl, by decide +kernel, rfl, by decide +kernel, by decide +kernel⟩
theorem ok__law_size {f : Addr} {fd : FuncData} (F : Fun K "_law_size" "_law_size" s__law_size f fd) (G__law_pick : GF P w K mg base "_law_pick" 1 ["tape", "size"] spPick) (m_max : mg "max" = none) : FnOk P w K mg base CX0 2 f fd ["tape", "count"] spSize := by
  refine F.ok sc__law_size (fun vs H Q E h => ?_) (fun cdv A outer s H vs Q E hr h => ?_)
  · obtain ⟨_, _, _, _, rfl, _⟩ := h; rfl
  · obtain ⟨tp, tc, count, _, rfl, t, c0, c1, k⟩ := h
    refine ⟨_, (pss_cons (ps_set (i := 2) sc__law_size.nd rfl (Or.inl rfl) (c_fn G__law_pick (hr.mono (by decide)) (pa_cons (pv 0) (pa_cons pe_int pa_nil))))
      (pss_cons (ps_set (i := 3) sc__law_size.nd rfl (Or.inl rfl) (pe_callB (cb_max2 rfl) (by rfl) m_max b_max (pa_cons pe_int (pa_cons (pv 1) pa_nil))))
      (pss_cons (ps_if (pt_cmpR op_eq (pv 2) pe_int (nomark _)) (pss_one (ps_ret (pv 3))) pss_nil)
      (pss_cons (ps_if (pt_cmpR op_eq (pv 2) pe_int (nomark _)) (pss_one (ps_ret (pe_op op_add (pv 3) (c_fn G__law_pick (hr.mono (by decide)) (pa_cons (pv 0) (pa_cons pe_int pa_nil)))))) pss_nil)
      (pss_cons (ps_if (pt_cmpR op_eq (pv 2) pe_int (nomark _)) (pss_one (ps_ret (pe_op op_add (pv 3) (c_fn G__law_pick (hr.mono (by decide)) (pa_cons (pv 0) (pa_cons pe_int pa_nil)))))) pss_nil)
      (pss_one (ps_ret (pe_op op_add (pe_op op_add (pv 3) pe_int) (c_fn G__law_pick (hr.mono (by decide)) (pa_cons (pv 0) (pa_cons pe_int pa_nil))))))))))), ?_⟩
    (try simp only [cxK, cxKX, List.map])
    refine ent (σ' := [some _, some _, none, none]) rfl ?_
    k_offL
    refine i_pick t (by decide) (by decide) fun n1 H1 a1 b1 t1 f1 => ?_
    k_offL
    have hm : ∃ m : Int, (if count > 1 then count else 1) = m ∧ 1 ≤ m ∧ count ≤ m ∧ m ≤ 100 := ⟨_, rfl, by split <;> omega, by split <;> omega, by split <;> omega⟩
    obtain ⟨m, em, m1, m2, m3⟩ := hm
    rw [em]
    refine ifD (fun e => ?_) (fun e => ?_)
    · k_offL
      exact k m H1 m1 m2 (by omega) t1 f1
    · k_offL
      refine ifD (fun e2 => ?_) (fun e2 => ?_)
      · k_offL
        refine i_pick t1 (by decide) (by decide) fun n2 H2 a2 b2 t2 f2 => ?_
        k_offL
        exact k _ H2 (by omega) (by omega) (by omega) t2 (f1.trans f2)
      · k_offL
        refine ifD (fun e3 => ?_) (fun e3 => ?_)
        · k_offL
          refine i_pick t1 (by decide) (by decide) fun n2 H2 a2 b2 t2 f2 => ?_
          k_offL
          exact k _ H2 (by omega) (by omega) (by omega) t2 (f1.trans f2)
        · k_offL
          refine i_pick t1 (by decide) (by decide) fun n2 H2 a2 b2 t2 f2 => ?_
          k_offL
          exact k _ H2 (by omega) (by omega) (by omega) t2 (f1.trans f2)
end
structure Pl (size : Int) (ps : List Int) : Prop where
  nd : ps.Nodup
  on : ∀ p ∈ ps, 0 ≤ p ∧ p < size
def spPlaces : Sp := fun vs H Q _ => ∃ (tp tc : Addr) (size : Int) (count : Int) (_ : Unit), vs = [.ref tp, .int size, .int count] ∧ TapeAt H tp tc ∧ 0 ≤ count ∧ count ≤ size ∧ count ≤ 60 ∧ size < 2 ^ 40 ∧
  ∀ l ps H', H l = none → H' l = some (.lst (ps.map V.int)) → (ps.length : Int) = count → Pl size ps → TapeAt H' tp tc → Fr [tp] H H' → Q (.ref l) H'
section
variable {P : Program} {w : World} {K : PySem.W.Frag} {mg : Str → Option Value} {base : Heap} {CNet CMender CDesk CStore CWalk : Addr}
abbrev s__law_places : Stmt := top 30
theorem sc__law_places : FnScope ["tape", "size", "count", "places", "k", "place", "other"] ["tape", "size", "count"] (defScope s__law_places) := ⟨rfl, rfl, rfl, by decide +kernel, rfl, by decide +kernel, by decide +kernel⟩
theorem ok__law_places {f : Addr} {fd : FuncData} (F : Fun K "_law_places" "_law_places" s__law_places f fd) (m_range : mg "range" = none) (G__law_pick : GF P w K mg base "_law_pick" 1 ["tape", "size"] spPick) (m_sorted : mg "sorted" = none) : FnOk P w K mg base CX0 2 f fd ["tape", "size", "count"] spPlaces := by
  refine F.ok sc__law_places (fun vs H Q E h => ?_) (fun cdv A outer s H vs Q E hr h => ?_)
  · obtain ⟨_, _, _, _, _, rfl, _⟩ := h; rfl
  · obtain ⟨tp, tc, size, count, _, rfl, t, c0, c1, c2, s1, k⟩ := h
    refine ⟨_, (pss_cons (ps_set (i := 3) sc__law_places.nd rfl (Or.inl rfl) (pe_lst pa_nil))
      (pss_cons (ps_for PassesOwn.never rfl (pi_range1 (by rfl) m_range (pa_cons (pv 2) pa_nil)) (pg_name (i := 4) sc__law_places.nd rfl (Or.inl rfl))
      (pss_cons (ps_set (i := 5) sc__law_places.nd rfl (Or.inl rfl) (c_fn G__law_pick (hr.mono (by decide)) (pa_cons (pv 0) (pa_cons (pe_op op_sub (pv 1) (pv 4)) pa_nil))))
      (pss_cons (ps_for PassesOwn.never rfl (pi_listK (K := K) rfl (pe_callB (cb_sortIK (K := K) rfl) (by rfl) m_sorted b_sorted (pa_cons (pv 3) pa_nil))) (pg_name (i := 6) sc__law_places.nd rfl (Or.inl rfl))
      (pss_one (ps_if (pt_cmpR op_le (pv 6) (pv 5) (nomark _)) (pss_one (ps_set (i := 5) sc__law_places.nd rfl (Or.inl rfl) (pe_op op_add (pv 5) pe_int))) pss_nil)))
      (pss_one (ps_expr (pe_bmK (K := K) rfl PySem.F.plainAttrs_list PySem.F.slot_list_append PySem.F.type_list_append mt_append (pv 3) (pa_cons (pv 5) pa_nil)))))))
      (pss_one (ps_ret (pv 3))))), ?_⟩
    (try simp only [cxK, cxKX, List.map])
    refine ent (σ' := [some _, some _, some _, none, none, none, none]) rfl ?_
    k_offL
    refine lstk (by show 0 ≤ 100000; decide) fun lp H1 n1 e1 f1 => ?_
    k_offL
    have t1 := t.ex0 f1
    obtain ⟨_, _, _, _, _, tt, tcs, _⟩ := t.ex
    have hlt : tp ≠ lp := ne_of_none tt n1
    have hlc : tc ≠ lp := ne_of_none tcs n1
    refine loopR1 count (by omega) (by omega) (fun i σ' H' => (∃ a b c, σ' = [some (.ref tp), some (.int size), some (.int count), some (.ref lp), a, b, c]) ∧ ∃ ps, H' lp = some (.lst (ps.map V.int)) ∧ ps.length = i ∧ Pl size ps ∧ TapeAt H' tp tc ∧ Fr [tp] H H')
      ⟨⟨_, _, _, rfl⟩, [], e1, rfl, ⟨List.nodup_nil, fun _ h => nomatch h⟩, t1, f1.up⟩ ?_ ?_
    · rintro i σ' H2 hi ⟨⟨a, b, c, rfl⟩, ps, e2, hl, pl, t2, f2⟩
      k_offL
      refine i_pick t2 (by omega) (by omega) fun p0 H3 a3 b3 t3 f3 => ?_
      k_offL
      have e3 : H3 lp = some (.lst (ps.map V.int)) := f3.at_ _ _ e2 (mem_one hlt.symm)
      refine r_sortI (sqL_of e3) fun ys l4 H4 hp hy n4 e4 f4 => ?_
      have yl : ys.length = i := by rw [hp.length_eq, hl]
      have yu := up_of_sorted hy (hp.nodup_iff.mpr pl.nd)
      refine loopLF (M := []) (ys.map V.int) (sqL_of e4) List.not_mem_nil (fun j σ' H' => ∃ (x : Int) (d : Option V), σ' = [some (.ref tp), some (.int size), some (.int count), some (.ref lp), some (.int (i : Int)), some (.int x), d] ∧ p0 ≤ x ∧ x ≤ p0 + j ∧ (∀ z ∈ ys.take j, z ≠ x) ∧ ((∀ z ∈ ys.take j, z < x) ∨ ∃ z ∈ ys.take j, x < z) ∧ Fr [] H4 H')
        ⟨p0, _, rfl, by omega, by omega, (fun _ h => nomatch h), .inl (fun _ h => nomatch h), Fr.refl _ _⟩ (fun j σ' H' ⟨_, _, _, _, _, _, _, f⟩ => f) ?_ ?_
      · rintro j x σ' H5 hj ⟨x0, d2, rfl, x1, x2, x3, x4, f5⟩
        obtain ⟨s, hs, hm, rfl⟩ := mem_ints hj
        have hts := take_snoc hs
        k_offL
        refine ifD (fun e => ?_) (fun e => ?_)
        · k_offL
          refine ⟨x0 + 1, _, rfl, by omega, by omega, fun z hz => ?_, ?_, f5⟩
          · rw [hts] at hz
            rcases List.mem_append.mp hz with q | q
            · rcases x4 with g | ⟨z', hz', g⟩
              · have := g z q; omega
              · exfalso
                have h1 : z' < s := by
                  obtain ⟨m, hm', em⟩ := List.mem_iff_getElem.mp hz'
                  rw [List.length_take] at hm'
                  rw [List.getElem_take] at em
                  have hjl := (List.getElem?_eq_some_iff.mp hs).1
                  have hjs := (List.getElem?_eq_some_iff.mp hs).2
                  have := List.pairwise_iff_getElem.mp yu m j (by omega) hjl (by omega)
                  omega
                omega
            · have := List.mem_singleton.mp q; omega
          · left
            intro z hz
            rw [hts] at hz
            rcases List.mem_append.mp hz with q | q
            · rcases x4 with g | ⟨z', hz', g⟩
              · have := g z q; omega
              · exfalso
                have h1 : z' < s := by
                  obtain ⟨m, hm', em⟩ := List.mem_iff_getElem.mp hz'
                  rw [List.length_take] at hm'
                  rw [List.getElem_take] at em
                  have hjl := (List.getElem?_eq_some_iff.mp hs).1
                  have hjs := (List.getElem?_eq_some_iff.mp hs).2
                  have := List.pairwise_iff_getElem.mp yu m j (by omega) hjl (by omega)
                  omega
                omega
            · have := List.mem_singleton.mp q; omega
        · k_offL
          refine ⟨x0, _, rfl, x1, by omega, fun z hz => ?_, ?_, f5⟩
          · rw [hts] at hz
            rcases List.mem_append.mp hz with q | q
            · exact x3 z q
            · have := List.mem_singleton.mp q; omega
          · right
            exact ⟨s, by rw [hts]; simp, by omega⟩
      · rintro σ' H5 ⟨x0, d2, rfl, x1, x2, x3, x4, f5⟩
        rw [List.length_map] at x2 x3
        rw [List.take_length] at x3
        have e5 : H5 lp = some (.lst (ps.map V.int)) := (f4.trans f5).at_ _ _ e3 List.not_mem_nil
        k_offL
        refine r_app e5 (by rw [List.length_map]; omega) fun H6 e6 f6 => ?_
        k_offL
        have g6 : Fr [] H4 H5 := f5
        have f05 : Fr [tp] H H5 := (f2.trans f3).trans ((f4.trans f5).up)
        refine ⟨⟨_, _, _, rfl⟩, ps ++ [x0], by rw [e6, List.map_append]; rfl, by rw [List.length_append, hl]; rfl, ⟨?_, fun p hp' => ?_⟩, ?_, f05.drop (f6.mono fun a h => by simp at h; simp [h]) n1⟩
        · refine nd_snoc pl.nd fun hm => x3 x0 (hp.mem_iff.mpr hm) rfl
        · rcases List.mem_append.mp hp' with q | q
          · exact pl.on p q
          · have := List.mem_singleton.mp q
            rw [yl] at x2
            omega
        · exact ((t3.ex0 f4).ex0 f5).fr f6 (mem_one hlt) (mem_one hlc)
    · rintro σ' H2 ⟨⟨a, b, c, rfl⟩, ps, e2, hl, pl, t2, f2⟩
      k_offL
      exact k lp ps H2 n1 e2 (by omega) pl t2 f2
end
section
variable {P : Program} {w : World} {K : PySem.W.Frag} {mg : Str → Option Value} {base : Heap} {CNet CMender CDesk CStore CWalk : Addr}
abbrev s__law_far : Stmt := top 33
theorem sc__law_far : FnScope ["size", "start", "end", "steps"] ["size", "start", "end"] (defScope s__law_far) := ⟨rfl, rfl, rfl, by decide +kernel, rfl, by decide +kernel, by decide +kernel⟩
theorem ok__law_far {f : Addr} {fd : FuncData} (F : Fun K "_law_far" "_law_far" s__law_far f fd) (m_int : mg "int" = none) : FnOk P w K mg base CX0 1 f fd ["size", "start", "end"] spFar := by
  refine F.ok sc__law_far (fun vs H Q E h => ?_) (fun cdv A outer s H vs Q E hr h => ?_)
  · obtain ⟨_, _, _, rfl, _⟩ := h; rfl
  · obtain ⟨size, st, e, rfl, h0, k⟩ := h
    refine ⟨_, (pss_cons (ps_set (i := 3) sc__law_far.nd rfl (Or.inl rfl) (pe_op op_mod (pe_callTy cb_int (by rfl) m_int b_int (pa_cons (pe_op op_sub (pv 2) (pv 1)) pa_nil)) (pv 0)))
      (pss_cons (ps_if (pt_cmpR op_eq (pv 3) pe_int (nomark _)) (pss_one (ps_ret (pv 0))) pss_nil)
      (pss_one (ps_ret (pv 3))))), ?_⟩
    (try simp only [cxK, cxKX, List.map])
    refine ent (σ' := [some _, some _, some _, none]) rfl ?_
    k_offL
    refine ifD (fun h => ?_) (fun h => ?_)
    · k_offL
      unfold far at k
      rw [if_pos h] at k
      exact k
    · k_offL
      unfold far at k
      rw [if_neg h] at k
      exact k
end
section
variable {P : Program} {w : World} {K : PySem.W.Frag} {mg : Str → Option Value} {base : Heap} {CNet CMender CDesk CStore CWalk : Addr}
abbrev s__law_between : Stmt := top 34
theorem sc__law_between : FnScope ["size", "start", "place", "end"] ["size", "start", "place", "end"] (defScope s__law_between) := ⟨rfl, rfl, rfl, by decide +kernel, rfl, by decide +kernel, by decide +kernel⟩
theorem ok__law_between {f : Addr} {fd : FuncData} (F : Fun K "_law_between" "_law_between" s__law_between f fd) (G__law_far : GF P w K mg base "_law_far" 1 ["size", "start", "end"] spFar) : FnOk P w K mg base CX0 2 f fd ["size", "start", "place", "end"] spBetween := by
  refine F.ok sc__law_between (fun vs H Q E h => ?_) (fun cdv A outer s H vs Q E hr h => ?_)
  · obtain ⟨_, _, _, _, rfl, _⟩ := h; rfl
  · obtain ⟨size, st, p, e, rfl, h0, k⟩ := h
    refine ⟨_, (pss_cons (ps_if (PW.pt (pw_or (pt_cmpR op_eq (pv 2) (pv 1) (nomark _)) (pw_or1 (pt_cmpR op_eq (pv 2) (pv 3) (nomark _))))) (pss_one (ps_ret pe_bl)) pss_nil)
      (pss_one (ps_ret (pe_cmpR op_lt (c_fn G__law_far (hr.mono (by decide)) (pa_cons (pv 0) (pa_cons (pv 1) (pa_cons (pv 2) pa_nil)))) (c_fn G__law_far (hr.mono (by decide)) (pa_cons (pv 0) (pa_cons (pv 1) (pa_cons (pv 3) pa_nil)))) (nomark _))))), ?_⟩
    (try simp only [cxK, cxKX, List.map])
    refine ent (σ' := [some _, some _, some _, some _]) rfl ?_
    k_offL
    refine ifD (fun e1 => ?_) (fun e1 => ?_)
    · k_offL
      subst e1
      rw [btw_left h0] at k
      exact k
    · k_offL
      refine ifD (fun e2 => ?_) (fun e2 => ?_)
      · k_offL
        subst e2
        rw [btw_right] at k
        exact k
      · k_offL
        refine i_far h0 ?_
        k_offL
        refine i_far h0 ?_
        k_offL
        exact k
end
end RL
set_option synthInstance.maxHeartbeats 4000000
set_option synthInstance.maxSize 4000
namespace RL
def mfOf (hs : List Int) (f : Int → Int) : Int → Option V := fun h => if h ∈ hs then some (.int (f h)) else none
structure NxAt (H : Hp) (a : Addr) (hs : List Int) (f : Int → Int) : Prop where
  ex : ∃ kvs, Rd H a (.dK kvs) ∧ DOk kvs (mfOf hs f) ∧ kvs.length = hs.length
  nd : hs.Nodup
  cl : ∀ h ∈ hs, f h ∈ hs
theorem NxAt.fr {H H' : Hp} {a : Addr} {hs : List Int} {f : Int → Int} {M : List Addr} (x : NxAt H a hs f) (g : Fr M H H') (n : a ∉ M) : NxAt H' a hs f :=
  ⟨let ⟨k, r, d⟩ := x.ex; ⟨k, g.rd r n, d⟩, x.nd, x.cl⟩
theorem mfOf_at {hs : List Int} {f : Int → Int} {h : Int} (m : h ∈ hs) : mfOf hs f h = some (.int (f h)) := if_pos m
theorem mfOf_some {hs : List Int} {f : Int → Int} {n : Int} : n ∈ hs ↔ (mfOf hs f n).isSome = true := by unfold mfOf; split <;> simp [*]
theorem NxAt.mk' {H : Hp} {a : Addr} {hs : List Int} {f : Int → Int} {kvs : List (Key × V)} (r : Rd H a (.dK kvs)) (d : DOk kvs (mfOf hs f)) (nd : hs.Nodup) (cl : ∀ h ∈ hs, f h ∈ hs) : NxAt H a hs f := ⟨⟨kvs, r, d, d.lenN nd fun _ => mfOf_some⟩, nd, cl⟩
structure Per (f : Int → Int) (h : Int) (m : Nat) : Prop where
  p1 : 1 ≤ m
  rt : it f m h = h
  no : ∀ j, 0 < j → j < m → it f j h ≠ h
def ringL (f : Int → Int) (h : Int) (m : Nat) : List Int := (List.range m).map fun j => it f j h
theorem ringL_succ {f : Int → Int} {h : Int} {m : Nat} : ringL f h (m + 1) = ringL f h m ++ [it f m h] := by
  unfold ringL
  rw [List.range_succ, List.map_append]
  rfl
theorem ringL_mem {f : Int → Int} {hs : List Int} {h : Int} {m : Nat} (hf : ∀ h ∈ hs, f h ∈ hs) (hh : h ∈ hs) : ∀ x ∈ ringL f h m, x ∈ hs := fun x hx => by
  obtain ⟨j, _, e⟩ := List.mem_map.mp hx
  exact e ▸ it_mem hf hh
def spLawNexts : Sp := fun vs H Q _ => ∃ (tp tc lp : Addr) (ps : List Int) (_ : Unit), vs = [.ref tp, .ref lp] ∧ TapeAt H tp tc ∧ H lp = some (.lst (ps.map V.int)) ∧ lp ≠ tp ∧ ps.length ≤ 60 ∧
  ∀ d kvs H', H d = none → H' d = some (.dK kvs) → NxD ps ps kvs → TapeAt H' tp tc → Fr [tp] H H' → Q (.ref d) H'
section
variable {P : Program} {w : World} {K : PySem.W.Frag} {mg : Str → Option Value} {base : Heap} {CNet CMender CDesk CStore CWalk : Addr}
abbrev s__law_nexts : Stmt := top 31
theorem sc__law_nexts : FnScope ["tape", "places", "nexts", "count", "first", "last", "ring", "at"] ["tape", "places"] (defScope s__law_nexts) := ⟨rfl, rfl, rfl, by decide +kernel, rfl, by decide +kernel, by decide +kernel⟩
theorem ok__law_nexts {f : Addr} {fd : FuncData} (F : Fun K "_law_nexts" "_law_nexts" s__law_nexts f fd) (m_len : mg "len" = none) (m_range : mg "range" = none) (G__law_pick : GF P w K mg base "_law_pick" 1 ["tape", "size"] spPick) : FnOk P w K mg base CX0 2 f fd ["tape", "places"] spLawNexts := by
  refine F.ok sc__law_nexts (fun vs H Q E h => ?_) (fun cdv A outer s H vs Q E hr h => ?_)
  · obtain ⟨_, _, _, _, _, rfl, _⟩ := h; rfl
  · obtain ⟨tp, tc, lp, ps, _, rfl, t, hp, hne, hlen, k⟩ := h
    refine ⟨_, (pss_cons (ps_set (i := 2) sc__law_nexts.nd rfl (Or.inl rfl) pe_dnewK)
      (pss_cons (ps_set (i := 3) sc__law_nexts.nd rfl (Or.inl rfl) (pe_callB (cb_lenSK (K := K) rfl) (by rfl) m_len b_len (pa_cons (pv 1) pa_nil)))
      (pss_cons (ps_set (i := 4) sc__law_nexts.nd rfl (Or.inl rfl) pe_int)
      (pss_cons (ps_set (i := 5) sc__law_nexts.nd rfl (Or.inl rfl) pe_int)
      (pss_cons (ps_set (i := 6) sc__law_nexts.nd rfl (Or.inl rfl) pe_int)
      (pss_cons (ps_for PassesOwn.never rfl (pi_range1 (by rfl) m_range (pa_cons (pv 3) pa_nil)) (pg_name (i := 7) sc__law_nexts.nd rfl (Or.inl rfl))
      (pss_cons (ps_if (pt_cmpR op_eq (pv 7) (pv 5) (nomark _)) (pss_cons (ps_set (i := 4) sc__law_nexts.nd rfl (Or.inl rfl) (pv 7))
      (pss_cons (ps_set (i := 5) sc__law_nexts.nd rfl (Or.inl rfl) (pv 3))
      (pss_cons (ps_if (pt_cmpR op_eq (c_fn G__law_pick (hr.mono (by decide)) (pa_cons (pv 0) (pa_cons pe_int pa_nil))) pe_int (nomark _)) (pss_one (ps_set (i := 5) sc__law_nexts.nd rfl (Or.inl rfl) (pe_op op_add (pe_op op_add (pv 7) pe_int) (c_fn G__law_pick (hr.mono (by decide)) (pa_cons (pv 0) (pa_cons (pe_op op_sub (pv 3) (pv 7)) pa_nil)))))) pss_nil)
      (pss_one (ps_set (i := 6) sc__law_nexts.nd rfl (Or.inl rfl) (pe_op op_add pe_int (c_fn G__law_pick (hr.mono (by decide)) (pa_cons (pv 0) (pa_cons (pe_op op_sub (pv 5) (pv 4)) pa_nil))))))))) pss_nil)
      (pss_one (ps_if (pt_cmpR op_lt (pe_op op_sub (pv 7) (pv 4)) (pe_op op_sub (pv 6) pe_int) (nomark _)) (pss_one (ps_dput (hu_of hr) (pv 2) (pe_ix (ix_listK (K := K) rfl) (pv 1) (pv 7) (by intro _ _; rfl)) (pe_ix (ix_listK (K := K) rfl) (pv 1) (pe_op op_add (pv 7) pe_int) (by intro _ _; rfl)) rfl)) (pss_one (ps_if (pt_cmpR op_eq (pe_op op_sub (pv 7) (pv 4)) (pe_op op_sub (pv 6) pe_int) (nomark _)) (pss_one (ps_dput (hu_of hr) (pv 2) (pe_ix (ix_listK (K := K) rfl) (pv 1) (pv 7) (by intro _ _; rfl)) (pe_ix (ix_listK (K := K) rfl) (pv 1) (pv 4) (by intro _ _; rfl)) rfl)) (pss_one (ps_dput (hu_of hr) (pv 2) (pe_ix (ix_listK (K := K) rfl) (pv 1) (pv 7) (by intro _ _; rfl)) (pe_ix (ix_listK (K := K) rfl) (pv 1) (pe_op op_add (pv 4) (c_fn G__law_pick (hr.mono (by decide)) (pa_cons (pv 0) (pa_cons (pe_op op_sub (pv 7) (pv 4)) pa_nil)))) (by intro _ _; rfl)) rfl))))))))
      (pss_one (ps_ret (pv 2))))))))), ?_⟩
    (try simp only [cxK, cxKX, List.map])
    refine ent (σ' := [some _, some _, none, none, none, none, none, none]) rfl ?_
    obtain ⟨_, _, _, _, _, tt, tcs, _⟩ := t.ex
    k_offL
    refine newk fun d H1 n1 e1 f1 => ?_
    have hdt : tp ≠ d := ne_of_none tt n1
    have hdc : tc ≠ d := ne_of_none tcs n1
    have hdl : lp ≠ d := ne_of_none hp n1
    k_offL
    refine r_lenL (sqL_of (f1.at_ _ _ hp List.not_mem_nil)) ?_
    rw [List.length_map]
    k_offL
    refine loopR1 _ (by omega) (by omega) (fun i σ' H' => ∃ (a l r : Int) (v : Option V) (kvs : List (Key × V)), σ' = [some (.ref tp), some (.ref lp), some (.ref d), some (.int (ps.length : Int)), some (.int a), some (.int l), some (.int r), v] ∧ 0 ≤ a ∧ a ≤ (i : Int) ∧ (i : Int) ≤ l ∧ l ≤ (ps.length : Int) ∧ ((i : Int) < l → 1 ≤ r ∧ r ≤ l - a) ∧
        H' d = some (.dK kvs) ∧ NxD ps (ps.take i) kvs ∧ TapeAt H' tp tc ∧ Fr [tp] H H')
      ⟨0, 0, 0, _, [], rfl, by omega, by omega, by omega, by omega, by omega, e1, NxD.nil, t.ex0 f1, f1.up⟩ ?_ ?_
    · rintro i σ' H2 hi ⟨a, l, r, v, kvs, rfl, a0, a1, l0, l1, r1, e2, nx, t2, f2⟩
      have hi' : i < ps.length := by omega
      have hp2 : H2 lp = some (.lst (ps.map V.int)) := f2.at_ _ _ hp (mem_one hne)
      k_places
      refine q_cut (fun σ' H' => ∃ (a l r : Int), σ' = [some (.ref tp), some (.ref lp), some (.ref d), some (.int (ps.length : Int)), some (.int a), some (.int l), some (.int r), some (.int (i : Int))] ∧ 0 ≤ a ∧ a ≤ (i : Int) ∧ (i : Int) < l ∧ l ≤ (ps.length : Int) ∧ 1 ≤ r ∧ r ≤ l - a ∧ TapeAt H' tp tc ∧ Fr [tp] H2 H') (fun Nx kN => ?_) ?_
      · k_offL
        refine ifD (fun e => ?_) (fun e => ?_)
        · k_offL
          refine i_pick t2 (by decide) (by decide) fun n3 H3 a3 b3 t3 f3 => ?_
          k_offL
          refine ifD (fun e3 => ?_) (fun e3 => ?_)
          · k_offL
            refine i_pick t3 (by omega) (by omega) fun n4 H4 a4 b4 t4 f4 => ?_
            k_offL
            refine i_pick t4 (by omega) (by omega) fun n5 H5 a5 b5 t5 f5 => ?_
            k_offL
            exact kN _ _ ⟨_, _, _, rfl, by omega, by omega, by omega, by omega, by omega, by omega, t5, (f3.trans f4).trans f5⟩
          · k_offL
            refine i_pick t3 (by omega) (by omega) fun n5 H5 a5 b5 t5 f5 => ?_
            k_offL
            exact kN _ _ ⟨_, _, _, rfl, by omega, by omega, by omega, by omega, by omega, by omega, t5, f3.trans f5⟩
        · k_offL
          obtain ⟨r1, r2⟩ := r1 (by omega)
          exact kN _ _ ⟨a, l, r, rfl, a0, a1, by omega, l1, r1, r2, t2, Fr.refl _ _⟩
      rintro _ H3 ⟨a, l, r, rfl, a0, a1, l0, l1, r1, r2, t3, f3⟩
      have hp3 : H3 lp = some (.lst (ps.map V.int)) := f3.at_ _ _ hp2 (mem_one hne)
      have e3 : H3 d = some (.dK kvs) := f3.at_ _ _ e2 (mem_one hdt.symm)
      have hkl : kvs.length ≤ 100000 := by
        obtain ⟨_, _, _, hk⟩ := nx
        rw [List.length_take] at hk
        omega
      have fin : ∀ (y : Int) (H4 H5 : Hp), y ∈ ps → Fr [tp] H3 H4 → TapeAt H4 tp tc → H4 d = some (.dK kvs) → H5 d = some (.dK (putK kvs (.inl ps[i]) (.int y))) → Fr [d] H4 H5 →
          (∃ (a l r : Int) (v : Option V) (kvs : List (Key × V)), [some (V.ref tp), some (.ref lp), some (.ref d), some (.int (ps.length : Int)), some (.int a), some (.int l), some (.int r), some (.int (i : Int))] = [some (.ref tp), some (.ref lp), some (.ref d), some (.int (ps.length : Int)), some (.int a), some (.int l), some (.int r), v] ∧ True) → True := fun _ _ _ _ _ _ _ _ _ _ => trivial
      clear fin
      have ix1 : (ps.map V.int)[i]? = some (.int ps[i]) := ints_get hi'
      k_offL
      refine ifD (fun e => ?_) (fun e => ?_)
      · have hi2 : i + 1 < ps.length := by omega
        k_offL
        refine r_ixL (sqL_of hp3) (ix_at (i + 1) (by omega) (ints_get hi2)) ?_
        k_offL
        refine r_ixL (sqL_of hp3) (ix_at i rfl ix1) ?_
        refine dputk e3 hkl fun H5 e5 f5 => ?_
        exact ⟨a, l, r, _, _, rfl, a0, by omega, by omega, l1, fun _ => ⟨r1, r2⟩, e5, by rw [take_get hi']; exact nx.put (List.getElem_mem hi2), t3.fr f5 (mem_one hdt) (mem_one hdc), (f2.trans f3).drop (f5.mono fun a h => by simp at h; simp [h]) n1⟩
      · k_offL
        refine ifD (fun e2 => ?_) (fun e2 => ?_)
        · have ha : a.toNat < ps.length := by omega
          k_offL
          refine r_ixL (sqL_of hp3) (ix_at a.toNat (by omega) (ints_get ha)) ?_
          k_offL
          refine r_ixL (sqL_of hp3) (ix_at i rfl ix1) ?_
          refine dputk e3 hkl fun H5 e5 f5 => ?_
          exact ⟨a, l, r, _, _, rfl, a0, by omega, by omega, l1, fun _ => ⟨r1, r2⟩, e5, by rw [take_get hi']; exact nx.put (List.getElem_mem ha), t3.fr f5 (mem_one hdt) (mem_one hdc), (f2.trans f3).drop (f5.mono fun a h => by simp at h; simp [h]) n1⟩
        · k_offL
          refine i_pick t3 (by omega) (by omega) fun n4 H4 a4 b4 t4 f4 => ?_
          have hp4 : H4 lp = some (.lst (ps.map V.int)) := f4.at_ _ _ hp3 (mem_one hne)
          have e4 : H4 d = some (.dK kvs) := f4.at_ _ _ e3 (mem_one hdt.symm)
          have ha : (a + n4).toNat < ps.length := by omega
          k_offL
          refine r_ixL (sqL_of hp4) (ix_at (a + n4).toNat (by omega) (ints_get ha)) ?_
          k_offL
          refine r_ixL (sqL_of hp4) (ix_at i rfl ix1) ?_
          refine dputk e4 hkl fun H5 e5 f5 => ?_
          exact ⟨a, l, r, _, _, rfl, a0, by omega, by omega, l1, fun _ => ⟨r1, r2⟩, e5, by rw [take_get hi']; exact nx.put (List.getElem_mem ha), t4.fr f5 (mem_one hdt) (mem_one hdc), ((f2.trans f3).trans f4).drop (f5.mono fun a h => by simp at h; simp [h]) n1⟩
    · rintro σ' H2 ⟨a, l, r, v, kvs, rfl, a0, a1, l0, l1, r1, e2, nx, t2, f2⟩
      k_offL
      rw [show (ps.length : Int).toNat = ps.length by omega, List.take_length] at nx
      exact k d kvs H2 n1 e2 nx t2 f2
end
def spRing : Sp := fun vs H Q _ => ∃ (a : Addr) (hs : List Int) (f : Int → Int) (h : Int) (_ : Unit), vs = [.ref a, .int h] ∧ NxAt H a hs f ∧ h ∈ hs ∧ hs.length ≤ 60 ∧
  ∀ l m H', H l = none → H' l = some (.lst ((ringL f (it f hs.length h) m).map V.int)) → Per f (it f hs.length h) m → m ≤ hs.length → Fr [] H H' → Q (.ref l) H'
section
variable {P : Program} {w : World} {K : PySem.W.Frag} {mg : Str → Option Value} {base : Heap} {CNet CMender CDesk CStore CWalk : Addr}
abbrev s__law_ring : Stmt := top 35
theorem sc__law_ring : FnScope ["nexts", "house", "k", "ring", "at"] ["nexts", "house"] (defScope s__law_ring) := ⟨rfl, rfl, rfl, by decide +kernel, rfl, by decide +kernel, by decide +kernel⟩
theorem ok__law_ring {f : Addr} {fd : FuncData} (F : Fun K "_law_ring" "_law_ring" s__law_ring f fd) (m_range : mg "range" = none) (m_len : mg "len" = none) : FnOk P w K mg base CX0 1 f fd ["nexts", "house"] spRing := by
  refine F.ok sc__law_ring (fun vs H Q E h => ?_) (fun cdv A outer s H vs Q E hr h => ?_)
  · obtain ⟨_, _, _, _, _, rfl, _⟩ := h; rfl
  · obtain ⟨a, hs, f, h, _, rfl, N, hh, hlen, k⟩ := h
    refine ⟨_, (pss_cons (ps_for PassesOwn.never rfl (pi_range1 (by rfl) m_range (pa_cons (pe_callB cb_lenD (by rfl) m_len b_len (pa_cons (pv 0) pa_nil)) pa_nil)) (pg_name (i := 2) sc__law_ring.nd rfl (Or.inl rfl))
      (pss_one (ps_set (i := 1) sc__law_ring.nd rfl (Or.inl rfl) (pe_dget (hu_of hr) (pv 0) (pv 1) (by intro _ _; rfl)))))
      (pss_cons (ps_set (i := 3) sc__law_ring.nd rfl (Or.inl rfl) (pe_lst (pa_cons (pv 1) pa_nil)))
      (pss_cons (ps_set (i := 4) sc__law_ring.nd rfl (Or.inl rfl) (pe_dget (hu_of hr) (pv 0) (pv 1) (by intro _ _; rfl)))
      (pss_cons (ps_for PassesOwn.never rfl (pi_range1 (by rfl) m_range (pa_cons (pe_callB cb_lenD (by rfl) m_len b_len (pa_cons (pv 0) pa_nil)) pa_nil)) (pg_name (i := 2) sc__law_ring.nd rfl (Or.inl rfl))
      (pss_cons (ps_if (pt_cmpR op_eq (pv 4) (pv 1) (nomark _)) (pss_one ps_break) pss_nil)
      (pss_cons (ps_expr (pe_bmK (K := K) rfl PySem.F.plainAttrs_list PySem.F.slot_list_append PySem.F.type_list_append mt_append (pv 3) (pa_cons (pv 4) pa_nil)))
      (pss_one (ps_set (i := 4) sc__law_ring.nd rfl (Or.inl rfl) (pe_dget (hu_of hr) (pv 0) (pv 4) (by intro _ _; rfl)))))))
      (pss_one (ps_ret (pv 3))))))), ?_⟩
    (try simp only [cxK, cxKX, List.map])
    refine ent (σ' := [some _, some _, none, none, none]) rfl ?_
    obtain ⟨kvs, rd, dk, hkl⟩ := N.ex
    have get : ∀ {H' : Hp} {x : Int} {Q : VK}, Fr [] H H' → x ∈ hs → Q (.int (f x)) H' → DGetK (.ref a) (.int x) Q H' := fun {H' x Q} g m q => dgetk (g.rd rd List.not_mem_nil) (by rw [dk.val, mfOf_at m]) q
    have im : ∀ n x, x ∈ hs → it f n x ∈ hs := fun n x hx => it_mem N.cl hx
    k_offL
    refine r_lenD rd ?_
    rw [hkl]
    k_offL
    refine loopR1 _ (by omega) (by omega) (fun i σ' H' => H' = H ∧ ∃ v, σ' = [some (.ref a), some (.int (it f i h)), v, none, none]) ⟨rfl, _, rfl⟩ ?_ ?_
    · rintro i σ' _ hi ⟨rfl, v, rfl⟩
      k_offL
      refine get (Fr.refl _ _) (im i h hh) ?_
      k_offL
      exact ⟨rfl, _, by rw [it_succ]⟩
    rintro σ' _ ⟨rfl, v, rfl⟩
    rw [show (hs.length : Int).toNat = hs.length by omega]
    obtain ⟨p, p1, p2, p3⟩ := on_ring (n := hs.length) N.cl hh (Nat.le_refl _)
    revert p3
    generalize hq : it f hs.length h = h0 at *
    intro p3
    have m0 : h0 ∈ hs := hq ▸ im _ h hh
    k_offL
    refine lstk (by show 1 ≤ 100000; decide) fun rl H1 n1 e1 f1 => ?_
    k_offL
    refine get f1 m0 ?_
    k_offL
    refine r_lenD (f1.rd rd List.not_mem_nil) ?_
    rw [hkl]
    k_offL
    refine loopR1 _ (by omega) (by omega) (fun i σ' H' => (∃ v, σ' = [some (.ref a), some (.int h0), v, some (.ref rl), some (.int (it f (i + 1) h0))]) ∧ H' rl = some (.lst ((ringL f h0 (i + 1)).map V.int)) ∧ (∀ j, 0 < j → j ≤ i → it f j h0 ≠ h0) ∧ Fr [] _ H')
      ⟨⟨_, rfl⟩, e1, fun j a b => absurd a (by omega), f1⟩ ?_ ?_
    · rintro i σ' H2 hi ⟨⟨v, rfl⟩, e2, no, f2⟩
      k_offL
      refine ifD (fun e => ?_) (fun e => ?_)
      · k_offL
        refine k rl (i + 1) H2 n1 e2 ⟨by omega, e, fun j a b => no j a (by omega)⟩ (by omega) f2
      · k_offL
        refine r_app e2 (by rw [List.length_map]; unfold ringL; rw [List.length_map, List.length_range]; omega) fun H3 e3 f3 => ?_
        have f03 := f2.drop f3 n1
        k_offL
        refine get f03 (im (i + 1) h0 m0) ?_
        k_offL
        refine ⟨⟨_, by rw [it_succ (n := i + 1)]⟩, ?_, fun j a b => ?_, f03⟩
        · rw [e3, ringL_succ (m := i + 1), List.map_append]; rfl
        · rcases Nat.lt_or_eq_of_le b with q | q
          · exact no j a (by omega)
          · rw [q]; exact e
    · rintro σ' H2 ⟨⟨v, rfl⟩, e2, no, f2⟩
      exact absurd p3 (no p (by omega) (by omega))
end
def spRoot : Sp := fun vs H Q _ => ∃ (a : Addr) (hs : List Int) (f : Int → Int) (h : Int) (_ : Unit), vs = [.ref a, .int h] ∧ NxAt H a hs f ∧ h ∈ hs ∧ hs.length ≤ 60 ∧
  ∀ r m H', Per f (it f hs.length h) m → m ≤ hs.length → r ∈ ringL f (it f hs.length h) m → (∀ y ∈ ringL f (it f hs.length h) m, r ≤ y) → Fr [] H H' → Q (.int r) H'
section
variable {P : Program} {w : World} {K : PySem.W.Frag} {mg : Str → Option Value} {base : Heap} {CNet CMender CDesk CStore CWalk : Addr}
abbrev s__law_root : Stmt := top 36
theorem sc__law_root : FnScope ["nexts", "house"] ["nexts", "house"] (defScope s__law_root) := ⟨rfl, rfl, rfl, by decide +kernel, rfl, by decide +kernel, by decide +kernel⟩
theorem ok__law_root {f : Addr} {fd : FuncData} (F : Fun K "_law_root" "_law_root" s__law_root f fd) (m_min : mg "min" = none) (G__law_ring : GF P w K mg base "_law_ring" 1 ["nexts", "house"] spRing) : FnOk P w K mg base CX0 2 f fd ["nexts", "house"] spRoot := by
  refine F.ok sc__law_root (fun vs H Q E h => ?_) (fun cdv A outer s H vs Q E hr h => ?_)
  · obtain ⟨_, _, _, _, _, rfl, _⟩ := h; rfl
  · obtain ⟨a, hs, f, h, _, rfl, N, hh, hlen, k⟩ := h
    refine ⟨_, (pss_one (ps_ret (pe_callB (cb_minK (K := K) rfl rfl) (by rfl) m_min b_min (pa_cons (c_fn G__law_ring (hr.mono (by decide)) (pa_cons (pv 0) (pa_cons (pv 1) pa_nil))) pa_nil)))), ?_⟩
    (try simp only [cxK, cxKX, List.map])
    refine ent (σ' := [some _, some _]) rfl ?_
    k_offL
    refine ⟨a, hs, f, h, (), rfl, N, hh, hlen, fun l m H1 n1 e1 per hm f1 => ?_⟩
    k_offL
    refine r_min (sqL_of e1) (by unfold ringL; rw [List.length_map, List.length_range]; exact per.p1) fun r a b => ?_
    exact k r m H1 per hm a b f1
end
end RL
set_option synthInstance.maxHeartbeats 4000000
set_option synthInstance.maxSize 4000
namespace RL
theorem NS.lb_setB (N : NS) (v u h : Int) : (if h = v then some (.int u) else N.lb h) = (N.setB v (some u)).lb h := by
  unfold NS.lb
  show _ = (if h = v then some u else N.b h).map V.int
  by_cases e : h = v
  · rw [if_pos e, if_pos e]; rfl
  · rw [if_neg e, if_neg e]
theorem NS.Ok.lbl {N : NS} (ok : N.Ok) {kb : List (Key × V)} (d : DOk kb N.lb) : kb.length ≤ 100000 := by have := d.len ok.ascL; have := ok.bl; omega
def ofV : V → D
  | .non => .non
  | .bl b => .bl b
  | .int i => .int i
  | .str s => .str s
  | _ => .non
def flatR : V → Bool
  | .non => true
  | .bl _ => true
  | .int _ => true
  | .str _ => true
  | _ => false
theorem ofV_rep {H : Hp} : ∀ {v : V}, flatR v = true → Rep H (ofV v) v
  | .non, _ => rfl
  | .bl _, _ => rfl
  | .int _, _ => rfl
  | .str _, _ => rfl
theorem ofVs_rep {H : Hp} : ∀ {vs : List V}, vs.all flatR = true → RepL H (vs.map ofV) vs
  | [], _ => rfl
  | v :: r, h => by
    rw [List.all_cons, Bool.and_eq_true] at h
    exact ⟨v, r, rfl, ofV_rep h.1, ofVs_rep h.2⟩
theorem read_flat (N : NS) (l : LT) : (N.readL l).2.all flatR = true := by
  cases l with
  | tell v u => simp only [NS.readL]; split <;> (try split) <;> rfl
  | ask v u => simp only [NS.readL]; split <;> rfl
  | ans u v x => simp only [NS.readL]; split <;> rfl
theorem lt_flat (l : LT) : l.vs.all flatR = true := by cases l <;> rfl
section
variable {P : Program} {w : World} {K : PySem.W.Frag} {mg : Str → Option Value} {base : Heap} {CNet CMender CDesk CStore CWalk : Addr}
abbrev s__law_rings : Stmt := top 32
theorem sc__law_rings : FnScope ["tape", "places", "nexts", "cut", "group", "ring", "at"] ["tape", "places"] (defScope s__law_rings) := ⟨rfl, rfl, rfl, by decide +kernel, rfl, by decide +kernel, by decide +kernel⟩
theorem ok__law_rings {f : Addr} {fd : FuncData} (F : Fun K "_law_rings" "_law_rings" s__law_rings f fd) (G__law_pick : GF P w K mg base "_law_pick" 1 ["tape", "size"] spPick) (G__law_nexts : GF P w K mg base "_law_nexts" 2 ["tape", "places"] spLawNexts) (m_len : mg "len" = none) (m_max : mg "max" = none) (m_range : mg "range" = none) : FnOk P w K mg base CX0 3 f fd ["tape", "places"] spLawNexts := by
  refine F.ok sc__law_rings (fun vs H Q E h => ?_) (fun cdv A outer s H vs Q E hr h => ?_)
  · obtain ⟨_, _, _, _, _, rfl, _⟩ := h; rfl
  · obtain ⟨tp, tc, lp, ps, _, rfl, t, hp, hne, hlen, k⟩ := h
    refine ⟨_, (pss_cons (ps_if (pt_cmpR op_eq (c_fn G__law_pick (hr.mono (by decide)) (pa_cons (pv 0) (pa_cons pe_int pa_nil))) pe_int (nomark _)) (pss_one (ps_ret (c_fn G__law_nexts (hr.mono (by decide)) (pa_cons (pv 0) (pa_cons (pv 1) pa_nil))))) pss_nil)
      (pss_cons (ps_set (i := 2) sc__law_rings.nd rfl (Or.inl rfl) pe_dnewK)
      (pss_cons (ps_set (i := 3) sc__law_rings.nd rfl (Or.inl rfl) (pe_callB (cb_lenSK (K := K) rfl) (by rfl) m_len b_len (pa_cons (pv 1) pa_nil)))
      (pss_cons (ps_if (pt_cmpR op_eq (c_fn G__law_pick (hr.mono (by decide)) (pa_cons (pv 0) (pa_cons pe_int pa_nil))) pe_int (nomark _)) (pss_one (ps_set (i := 3) sc__law_rings.nd rfl (Or.inl rfl) (c_fn G__law_pick (hr.mono (by decide)) (pa_cons (pv 0) (pa_cons (pe_op op_add (pv 3) pe_int) pa_nil))))) pss_nil)
      (pss_cons (ps_for PassesOwn.never rfl (pi_listK (K := K) rfl (pe_lst (pa_cons (pe_slice (sl_listK (K := K) rfl) (pv 1) po_none (po_some (pv 3))) (pa_cons (pe_slice (sl_listK (K := K) rfl) (pv 1) (po_some (pv 3)) po_none) pa_nil)))) (pg_name (i := 4) sc__law_rings.nd rfl (Or.inl rfl))
      (pss_cons (ps_set (i := 5) sc__law_rings.nd rfl (Or.inl rfl) (pe_callB (cb_max2 rfl) (by rfl) m_max b_max (pa_cons pe_int (pa_cons (pe_op op_sub (pe_callB (cb_lenSK (K := K) rfl) (by rfl) m_len b_len (pa_cons (pv 4) pa_nil)) (c_fn G__law_pick (hr.mono (by decide)) (pa_cons (pv 0) (pa_cons pe_int pa_nil)))) pa_nil))))
      (pss_one (ps_for PassesOwn.never rfl (pi_range1 (by rfl) m_range (pa_cons (pe_callB (cb_lenSK (K := K) rfl) (by rfl) m_len b_len (pa_cons (pv 4) pa_nil)) pa_nil)) (pg_name (i := 6) sc__law_rings.nd rfl (Or.inl rfl))
      (pss_one (ps_if (pt_cmpR op_lt (pv 6) (pe_op op_sub (pv 5) pe_int) (nomark _)) (pss_one (ps_dput (hu_of hr) (pv 2) (pe_ix (ix_listK (K := K) rfl) (pv 4) (pv 6) (by intro _ _; rfl)) (pe_ix (ix_listK (K := K) rfl) (pv 4) (pe_op op_add (pv 6) pe_int) (by intro _ _; rfl)) rfl)) (pss_one (ps_if (pt_cmpR op_eq (pv 6) (pe_op op_sub (pv 5) pe_int) (nomark _)) (pss_one (ps_dput (hu_of hr) (pv 2) (pe_ix (ix_listK (K := K) rfl) (pv 4) (pv 6) (by intro _ _; rfl)) (pe_ix (ix_listK (K := K) rfl) (pv 4) pe_int (by intro _ _; rfl)) rfl)) (pss_one (ps_dput (hu_of hr) (pv 2) (pe_ix (ix_listK (K := K) rfl) (pv 4) (pv 6) (by intro _ _; rfl)) (pe_ix (ix_listK (K := K) rfl) (pv 4) (c_fn G__law_pick (hr.mono (by decide)) (pa_cons (pv 0) (pa_cons (pv 6) pa_nil))) (by intro _ _; rfl)) rfl))))))))))
      (pss_one (ps_ret (pv 2)))))))), ?_⟩
    (try simp only [cxK, cxKX, List.map])
    refine ent (σ' := [some _, some _, none, none, none, none, none]) rfl ?_
    obtain ⟨_, _, _, _, _, tt, tcs, _⟩ := t.ex
    k_offL
    refine i_pick t (by decide) (by decide) fun n1 H1 a1 b1 t1 f1 => ?_
    have hp1 : H1 lp = some (.lst (ps.map V.int)) := f1.at_ _ _ hp (mem_one hne)
    k_places
    refine ifD (fun e => ?_) (fun e => ?_)
    · k_offL
      exact ⟨tp, tc, lp, ps, (), rfl, t1, hp1, hne, hlen, fun d kvs H2 n2 e2 nx t2 f2 => k d kvs H2 (by
        cases q : H d with
        | none => rfl
        | some o =>
          have z : d ≠ tp := fun z => by subst z; obtain ⟨_, _, _, _, _, tt1, _⟩ := t1.ex; rw [show H1 d = _ from tt1] at n2; cases n2
          rw [f1.at_ _ _ q (mem_one z)] at n2; cases n2) e2 nx t2 (f1.trans f2)⟩
    k_offL
    refine newk fun d H2 n2 e2 f2 => ?_
    have hdt : tp ≠ d := by
      obtain ⟨_, _, _, _, _, tt1, _⟩ := t1.ex
      exact ne_of_none tt1 n2
    have n0 : H d = none := by
      cases q : H d with
      | none => rfl
      | some o => rw [f1.at_ _ _ q (mem_one hdt.symm)] at n2; cases n2
    have hdc : tc ≠ d := ne_of_none tcs n0
    have hdl : lp ≠ d := ne_of_none hp n0
    have hp2 : H2 lp = some (.lst (ps.map V.int)) := f2.at_ _ _ hp1 List.not_mem_nil
    have t2 := t1.ex0 f2
    k_offL
    refine r_lenL (sqL_of hp2) ?_
    rw [List.length_map]
    k_places
    refine q_cut (fun σ' H' => ∃ c : Nat, σ' = [some (.ref tp), some (.ref lp), some (.ref d), some (.int (c : Int)), none, none, none] ∧ c ≤ ps.length ∧ TapeAt H' tp tc ∧ Fr [tp] H2 H') (fun Nx kN => ?_) ?_
    · k_offL
      refine i_pick t2 (by decide) (by decide) fun n3 H3 a3 b3 t3 f3 => ?_
      k_offL
      refine ifD (fun e3 => ?_) (fun e3 => ?_)
      · k_offL
        refine i_pick t3 (by omega) (by omega) fun n4 H4 a4 b4 t4 f4 => ?_
        k_offL
        exact kN _ _ ⟨n4.toNat, by rw [show (n4.toNat : Int) = n4 by omega], by omega, t4, f3.trans f4⟩
      · k_offL
        exact kN _ _ ⟨ps.length, rfl, Nat.le_refl _, t3, f3⟩
    rintro _ H3 ⟨c, rfl, hc, t3, f3⟩
    have hp3 : H3 lp = some (.lst (ps.map V.int)) := f3.at_ _ _ hp2 (mem_one hne)
    have e3 : H3 d = some (.dK []) := f3.at_ _ _ e2 (mem_one hdt.symm)
    k_offL
    refine r_slL (sqL_of hp3) fun g1 H4 n4 e4 f4 => ?_
    rw [cut_to, ← List.map_take] at e4
    k_offL
    refine r_slL (sqL_of (f4.at_ _ _ hp3 List.not_mem_nil)) fun g2 H5 n5 e5 f5 => ?_
    rw [cut_from, ← List.map_drop] at e5
    k_offL
    refine lstk (by show 2 ≤ 100000; decide) fun gl H6 n6 e6 f6 => ?_
    have q1 : H6 g1 = some (.lst ((ps.take c).map V.int)) := (f5.trans f6).at_ _ _ e4 List.not_mem_nil
    have q2 : H6 g2 = some (.lst ((ps.drop c).map V.int)) := f6.at_ _ _ e5 List.not_mem_nil
    have g36 : Fr [] H3 H6 := (f4.trans f5).trans f6
    have f06 : Fr [tp] H H6 := ((f1.trans f2.up).trans f3).trans g36.up
    have t6 := t3.ex0 g36
    have e6' : H6 d = some (.dK []) := g36.at_ _ _ e3 List.not_mem_nil
    have ne : ∀ {a o}, H6 a = some o → (∀ x y, o ≠ .dK x ∨ y) → True := fun _ _ => trivial
    clear ne
    have hgd : ∀ {a : Addr} {xs : List V}, H6 a = some (.lst xs) → a ≠ d := fun h z => by subst z; rw [e6'] at h; cases h
    obtain ⟨_, _, _, _, _, tt6, tcs6, _⟩ := t6.ex
    have ht1 : g1 ≠ tp := fun z => by
      subst z
      obtain ⟨_, _, _, _, _, tt3, _⟩ := t3.ex
      rw [show H3 g1 = _ from tt3] at n4; cases n4
    have ht2 : g2 ≠ tp := fun z => by
      subst z
      obtain ⟨_, _, _, _, _, tt4, _⟩ := (t3.ex0 f4).ex
      rw [show H4 g2 = _ from tt4] at n5; cases n5
    have htl : gl ≠ tp := fun z => by
      subst z
      obtain ⟨_, _, _, _, _, tt5, _⟩ := ((t3.ex0 f4).ex0 f5).ex
      rw [show H5 gl = _ from tt5] at n6; cases n6
    refine loopLF (M := [d, tp]) [.ref g1, .ref g2] (sqL_of e6) (by simp [hgd e6, htl]) (fun i σ' H' => ∃ (v5 v6 v7 : Option V) (kvs : List (Key × V)), σ' = [some (.ref tp), some (.ref lp), some (.ref d), some (.int (c : Int)), v5, v6, v7] ∧ H' d = some (.dK kvs) ∧ NxD ps (if i = 0 then [] else if i = 1 then ps.take c else ps) kvs ∧ TapeAt H' tp tc ∧ Fr [d, tp] H6 H')
      ⟨_, _, _, [], rfl, e6', NxD.nil, t6, Fr.refl _ _⟩ (fun i σ' H' ⟨_, _, _, _, _, _, _, _, f⟩ => f) ?_ ?_
    · rintro i x σ' H7 hi ⟨v5, v6, v7, kvs, rfl, e7, nx, t7, f7⟩
      obtain ⟨g, gs, dn, hx, hg, hgt, hnx, hnx', hgl⟩ : ∃ (g : Addr) (gs dn : List Int), x = .ref g ∧ H7 g = some (.lst (gs.map V.int)) ∧ g ≠ tp ∧ (if i = 0 then ([] : List Int) else if i = 1 then ps.take c else ps) = dn ∧ (if i + 1 = 0 then ([] : List Int) else if i + 1 = 1 then ps.take c else ps) = dn ++ gs ∧ (∀ y ∈ gs, y ∈ ps) ∧ gs.length ≤ 60 := by
        match i, hi with
        | 0, hi =>
          have e := Option.some.inj hi
          exact ⟨g1, ps.take c, [], e.symm, f7.at_ _ _ q1 (by simp [hgd q1, ht1]), ht1, rfl, rfl, fun y hy => List.mem_of_mem_take hy, by rw [List.length_take]; omega⟩
        | 1, hi =>
          have e := Option.some.inj hi
          exact ⟨g2, ps.drop c, ps.take c, e.symm, f7.at_ _ _ q2 (by simp [hgd q2, ht2]), ht2, rfl, (List.take_append_drop c ps).symm, fun y hy => List.mem_of_mem_drop hy, by rw [List.length_drop]; omega⟩
        | i + 2, hi => simp at hi
      subst hx
      rw [hnx] at nx
      rw [hnx']
      obtain ⟨hgl1, hgl2⟩ := hgl
      have hgd' : g ≠ d := fun z => by subst z; rw [e7] at hg; cases hg
      k_offL
      refine r_lenL (sqL_of hg) ?_
      rw [List.length_map]
      k_offL
      refine i_pick t7 (by decide) (by decide) fun n8 H8 a8 b8 t8 f8 => ?_
      k_offL
      obtain ⟨rg, er, r1, r2⟩ : ∃ rg : Int, (if (gs.length : Int) - n8 > 1 then (gs.length : Int) - n8 else 1) = rg ∧ 1 ≤ rg ∧ (rg = 1 ∨ rg ≤ gs.length) := ⟨_, rfl, by split <;> omega, by split <;> omega⟩
      rw [er]
      have hg8 : H8 g = some (.lst (gs.map V.int)) := f8.at_ _ _ hg (mem_one hgt)
      have e8 : H8 d = some (.dK kvs) := f8.at_ _ _ e7 (mem_one hdt.symm)
      refine r_lenL (sqL_of hg8) ?_
      rw [List.length_map]
      k_offL
      refine loopR1 _ (by omega) (by omega) (fun j σ' H' => ∃ (v : Option V) (kvs : List (Key × V)), σ' = [some (.ref tp), some (.ref lp), some (.ref d), some (.int (c : Int)), some (.ref g), some (.int rg), v] ∧ H' d = some (.dK kvs) ∧ NxD ps (dn ++ gs.take j) kvs ∧ TapeAt H' tp tc ∧ Fr [d, tp] H8 H')
        ⟨_, kvs, rfl, e8, by rw [List.take_zero, List.append_nil]; exact nx, t8, Fr.refl _ _⟩ ?_ ?_
      · rintro j σ' H9 hj ⟨v, kvs9, rfl, e9, nx9, t9, f9⟩
        have hj' : j < gs.length := by omega
        have hg9 : H9 g = some (.lst (gs.map V.int)) := f9.at_ _ _ hg8 (by simp [hgd', hgt])
        have hkl : kvs9.length ≤ 100000 := by
          obtain ⟨_, _, _, hk⟩ := nx9
          rw [List.length_append, List.length_take] at hk
          have h1 : dn.length ≤ 60 := by
            rw [← hnx]
            split
            · decide
            · split
              · rw [List.length_take]; omega
              · omega
          omega
        have ix1 : (gs.map V.int)[j]? = some (.int gs[j]) := ints_get hj'
        have mm : ∀ a ∈ [d], a ∈ [d, tp] := fun a h => by simp at h; simp [h]
        have m2 : ∀ a ∈ [tp], a ∈ [d, tp] := fun a h => by simp at h; simp [h]
        have put : ∀ y, y ∈ ps → NxD ps (dn ++ gs.take (j + 1)) (putK kvs9 (.inl gs[j]) (.int y)) := fun y hy => by
          rw [take_get hj', ← List.append_assoc]; exact nx9.put hy
        k_offL
        refine ifD (fun e => ?_) (fun e => ?_)
        · have hi2 : j + 1 < gs.length := by omega
          k_offL
          refine r_ixL (sqL_of hg9) (ix_at (j + 1) (by omega) (ints_get hi2)) ?_
          k_offL
          refine r_ixL (sqL_of hg9) (ix_at j rfl ix1) ?_
          refine dputk e9 hkl fun H10 e10 f10 => ?_
          exact ⟨_, _, rfl, e10, put _ (hgl1 _ (List.getElem_mem hi2)), t9.fr f10 (mem_one hdt) (mem_one hdc), f9.trans (f10.mono mm)⟩
        · k_offL
          refine ifD (fun e2 => ?_) (fun e2 => ?_)
          · have h0 : 0 < gs.length := by omega
            k_offL
            refine r_ixL (sqL_of hg9) (ix_at 0 rfl (ints_get h0)) ?_
            k_offL
            refine r_ixL (sqL_of hg9) (ix_at j rfl ix1) ?_
            refine dputk e9 hkl fun H10 e10 f10 => ?_
            exact ⟨_, _, rfl, e10, put _ (hgl1 _ (List.getElem_mem h0)), t9.fr f10 (mem_one hdt) (mem_one hdc), f9.trans (f10.mono mm)⟩
          · k_offL
            refine i_pick t9 (by omega) (by omega) fun n10 H10 a10 b10 t10 f10 => ?_
            have hg10 : H10 g = some (.lst (gs.map V.int)) := f10.at_ _ _ hg9 (mem_one hgt)
            have e10 : H10 d = some (.dK kvs9) := f10.at_ _ _ e9 (mem_one hdt.symm)
            have h0 : n10.toNat < gs.length := by omega
            k_offL
            refine r_ixL (sqL_of hg10) (ix_at n10.toNat (by omega) (ints_get h0)) ?_
            k_offL
            refine r_ixL (sqL_of hg10) (ix_at j rfl ix1) ?_
            refine dputk e10 hkl fun H11 e11 f11 => ?_
            exact ⟨_, _, rfl, e11, put _ (hgl1 _ (List.getElem_mem h0)), t10.fr f11 (mem_one hdt) (mem_one hdc), (f9.trans (f10.mono m2)).trans (f11.mono mm)⟩
      · rintro σ' H9 ⟨v, kvs9, rfl, e9, nx9, t9, f9⟩
        rw [show (gs.length : Int).toNat = gs.length by omega, List.take_length] at nx9
        exact ⟨_, _, _, kvs9, rfl, e9, nx9, t9, (f7.trans (f8.mono fun a h => by simp at h; simp [h])).trans f9⟩
    · rintro σ' H7 ⟨v5, v6, v7, kvs, rfl, e7, nx, t7, f7⟩
      k_offL
      exact k d kvs H7 n0 e7 nx t7 (f06.drop f7 n0)
end
def spLawRead : Sp := fun vs H Q _ => ∃ (dn dk dp : Addr) (N : NS) (i : Nat) (l : LT) (_ _ _ : Unit), vs = [.int N.size, .ref dn, .ref dk, .ref dp, .int (i : Int)] ∧ TabAt H dn dk dp N ∧ N.Ok ∧ N.post[i]? = some l ∧
  ∀ t H', H' t = some (.tup (N.read i l).2) → TabAt H' dn dk dp (N.read i l).1 → Fr [dn, dk, dp] H H' → Q (.ref t) H'
section
variable {P : Program} {w : World} {K : PySem.W.Frag} {mg : Str → Option Value} {base : Heap} {CNet CMender CDesk CStore CWalk : Addr}
abbrev s__law_read : Stmt := top 38
theorem sc__law_read : FnScope ["size", "nexts", "behinds", "post", "at", "letter", "reader", "sender", "before"] ["size", "nexts", "behinds", "post", "at"] (defScope s__law_read) := ⟨rfl, rfl, rfl, by decide +kernel, rfl, by decide +kernel, by decide +kernel⟩
theorem ok__law_read {f : Addr} {fd : FuncData} (F : Fun K "_law_read" "_law_read" s__law_read f fd) (G__law_between : GF P w K mg base "_law_between" 2 ["size", "start", "place", "end"] spBetween) : FnOk P w K mg base CX0 3 f fd ["size", "nexts", "behinds", "post", "at"] spLawRead := by
  refine F.ok sc__law_read (fun vs H Q E h => ?_) (fun cdv A outer s H vs Q E hr h => ?_)
  · obtain ⟨_, _, _, _, _, _, _, _, _, rfl, _⟩ := h; rfl
  · obtain ⟨dn, dk, dp, N, i, l, _, _, _, rfl, T, ok, hi, k⟩ := h
    refine ⟨_, (pss_cons (ps_set (i := 5) sc__law_read.nd rfl (Or.inl rfl) (pe_bmK (K := K) rfl PySem.F.plainAttrs_list PySem.F.slot_list_pop PySem.F.type_list_pop mt_popAt (pv 3) (pa_cons (pv 4) pa_nil)))
      (pss_cons (ps_set (i := 6) sc__law_read.nd rfl (Or.inl rfl) (pe_ix (ix_tupK (K := K) rfl) (pv 5) pe_int (by intro _ _; rfl)))
      (pss_cons (ps_set (i := 7) sc__law_read.nd rfl (Or.inl rfl) (pe_ix (ix_tupK (K := K) rfl) (pv 5) pe_int (by intro _ _; rfl)))
      (pss_cons (ps_set (i := 8) sc__law_read.nd rfl (Or.inl rfl) (pe_dget1 (hu_of hr) (pv 2) (pv 6) ⟨by rfl, by rfl, by rfl, by rfl⟩))
      (pss_cons (ps_if (pt_cmpR op_eq (pe_ix (ix_tupK (K := K) rfl) (pv 5) pe_int (by intro _ _; rfl)) pe_str (nomark _)) (pss_one (ps_if (PW.pt (pw_or (pt_cmpR op_isNn (pv 8) pe_non (nomark _)) (pw_or1 (pt_val (c_fn G__law_between (hr.mono (by decide)) (pa_cons (pv 0) (pa_cons (pv 8) (pa_cons (pv 7) (pa_cons (pv 6) pa_nil))))))))) (pss_cons (ps_dput (hu_of hr) (pv 2) (pv 6) (pv 7) rfl)
      (pss_one (ps_ret (pe_tup (pa_cons pe_str (pa_cons (pv 6) (pa_cons (pv 7) pa_nil))))))) pss_nil)) (pss_one (ps_if (pt_cmpR op_eq (pe_ix (ix_tupK (K := K) rfl) (pv 5) pe_int (by intro _ _; rfl)) pe_str (nomark _)) (pss_one (ps_if (pt_cmpR op_notNn (pv 8) pe_non (nomark _)) (pss_cons (ps_expr (pe_bmK (K := K) rfl PySem.F.plainAttrs_list PySem.F.slot_list_append PySem.F.type_list_append mt_append (pv 3) (pa_cons (pe_tup (pa_cons pe_str (pa_cons (pv 7) (pa_cons (pv 6) (pa_cons (pv 8) pa_nil))))) pa_nil)))
      (pss_one (ps_ret (pe_tup (pa_cons pe_str (pa_cons (pv 6) (pa_cons (pv 8) pa_nil))))))) pss_nil)) (pss_one (ps_if (PW.pt (pw_and (pt_cmpR op_eq (pe_dget (hu_of hr) (pv 1) (pv 6) (by intro _ _; rfl)) (pv 7) (nomark _)) (pw_and1 (pt_val (c_fn G__law_between (hr.mono (by decide)) (pa_cons (pv 0) (pa_cons (pv 6) (pa_cons (pe_ix (ix_tupK (K := K) rfl) (pv 5) pe_int (by intro _ _; rfl)) (pa_cons (pv 7) pa_nil))))))))) (pss_cons (ps_dput (hu_of hr) (pv 1) (pv 6) (pe_ix (ix_tupK (K := K) rfl) (pv 5) pe_int (by intro _ _; rfl)) rfl)
      (pss_one (ps_ret (pe_tup (pa_cons pe_str (pa_cons (pv 6) (pa_cons (pe_ix (ix_tupK (K := K) rfl) (pv 5) pe_int (by intro _ _; rfl)) pa_nil))))))) pss_nil)))))
      (pss_one (ps_ret (pe_tup (pa_cons pe_str (pa_cons (pv 6) (pa_cons pe_non pa_nil))))))))))), ?_⟩
    (try simp only [cxK, cxKX, List.map])
    refine ent (σ' := [some _, some _, some _, some _, some _, none, none, none, none]) rfl ?_
    obtain ⟨⟨kn, hn, dN⟩, ⟨kb, hb, dB⟩, ⟨lv, hl, ls⟩, ne⟩ := id T
    have h0 := ok.s0
    have ne' := ne.symm
    have hlt := (List.getElem?_eq_some_iff.mp hi).1
    have hpl := ok.pl
    have hm := ok.ph l (List.mem_of_getElem? hi)
    obtain ⟨t0, ht, hT⟩ := ls.at_ i l hi
    have m1 : ∀ a ∈ [dn], a ∈ [dn, dk, dp] := fun a h => by simp at h; simp [h]
    have m2 : ∀ a ∈ [dk], a ∈ [dn, dk, dp] := fun a h => by simp at h; simp [h]
    have m3 : ∀ a ∈ [dp], a ∈ [dn, dk, dp] := fun a h => by simp at h; simp [h]
    k_offL
    refine r_popAt hl ht (by omega) fun H1 e1 f1 => ?_
    have hT1 := f1.tp _ _ hT
    have hn1 : H1 dn = some (.dK kn) := by k_clsL
    have hb1 : H1 dk = some (.dK kb) := by k_clsL
    have ls1 : LetsIs H1 (N.del i).post (lv.eraseIdx i) := (ls.fr f1).erase i
    have ok1 := ok.del i
    have kept : ∀ v, N.read i l = (N.del i, [.str "kept", .int v, .non]) → ∀ t H', H' t = some (.tup [.str "kept", .int v, .non]) → Fr [] H1 H' → Q (.ref t) H' := fun v e t H' et ft => by
      rw [e] at k
      exact k t H' et ⟨⟨kn, by k_clsL, dN⟩, ⟨kb, by k_clsL, dB⟩, ⟨_, by k_clsL, ls1.fr ft⟩, ne⟩ ((f1.mono m3).trans ft.up)
    k_offL
    cases l with
    | tell v u =>
      refine r_ixT (sqT_of hT1) (v := .int v) rfl ?_
      k_offL
      refine r_ixT (sqT_of hT1) (v := .int u) rfl ?_
      k_offL
      refine dg1a (.inl hb1) ?_
      k_offL
      refine dg1b (.inl hb1) ?_
      have hv : v ∈ N.hs := hm v (by simp [LT.pl])
      have eb : (valV kb (Sum.inl v)).getD V.non = oV (N.b v) := by
        rw [dB.val]; unfold NS.lb; cases N.b v <;> rfl
      rw [eb]
      have yes : N.read i (.tell v u) = ((N.del i).setB v (some u), [.str "before", .int v, .int u]) → ∀ H2 t H', H2 dk = some (.dK (putK kb (.inl v) (.int u))) → Fr [dk] H1 H2 → H' t = some (.tup [.str "before", .int v, .int u]) → Fr [] H2 H' → Q (.ref t) H' := fun e H2 t H' e2 f2 et ft => by
        rw [e] at k
        exact k t H' et ⟨⟨kn, by k_clsL, dN⟩, ⟨_, by k_clsL, dB.put.cong fun h => (N.del i).lb_setB v u h⟩, ⟨_, by k_clsL, ls1.fr (f2.trans ft.up)⟩, ne⟩ (((f1.mono m3).trans (f2.mono m2)).trans ft.up)
      k_offL
      refine r_ixT (sqT_of hT1) (v := .str "tell") rfl ?_
      k_offL
      refine ifDT rfl ?_
      cases hbv : N.b v with
      | none =>
        k_offL
        refine ifDT rfl ?_
        k_offL
        refine dputk hb1 (ok.lbl dB) fun H2 e2 f2 => ?_
        k_offL
        refine tupk (by show 3 ≤ 100000; decide) fun t H' n3 et ft => ?_
        exact yes (by show (N.del i).readL _ = _; simp only [NS.readL]; rw [show (N.del i).b v = none from hbv]) H2 t H' e2 f2 et ft
      | some b =>
        k_offL
        refine ifDF (fun z => nomatch z) ?_
        show tTest _ _ _ _
        k_offL
        refine i_between h0 ?_
        k_offL
        refine ifB (fun e => ?_) (fun e => ?_)
        · k_offL
          refine dputk hb1 (ok.lbl dB) fun H2 e2 f2 => ?_
          k_offL
          refine tupk (by show 3 ≤ 100000; decide) fun t H' n3 et ft => ?_
          exact yes (by show (N.del i).readL _ = _; simp only [NS.readL]; rw [show (N.del i).b v = some b from hbv]; exact if_pos e) H2 t H' e2 f2 et ft
        · k_offL
          refine tupk (by show 3 ≤ 100000; decide) fun t H' n3 et ft => ?_
          exact kept v (by show (N.del i).readL _ = _; simp only [NS.readL]; rw [show (N.del i).b v = some b from hbv]; exact if_neg (by rw [show btw (N.del i).size b u v = false from e]; decide)) t H' et ft
    | ask v u =>
      refine r_ixT (sqT_of hT1) (v := .int v) rfl ?_
      k_offL
      refine r_ixT (sqT_of hT1) (v := .int u) rfl ?_
      k_offL
      refine dg1a (.inl hb1) ?_
      k_offL
      refine dg1b (.inl hb1) ?_
      have hv : v ∈ N.hs := hm v (by simp [LT.pl])
      have eb : (valV kb (Sum.inl v)).getD V.non = oV (N.b v) := by
        rw [dB.val]; unfold NS.lb; cases N.b v <;> rfl
      rw [eb]
      k_offL
      refine r_ixT (sqT_of hT1) (v := .str "ask") rfl ?_
      k_offL
      refine ifDF (by decide +kernel) ?_
      k_offL
      refine r_ixT (sqT_of hT1) (v := .str "ask") rfl ?_
      k_offL
      refine ifDT rfl ?_
      cases hbv : N.b v with
      | none =>
        k_offL
        refine ifNF rfl ?_
        k_offL
        refine tupk (by show 3 ≤ 100000; decide) fun t H' n3 et ft => ?_
        exact kept v (by show (N.del i).readL _ = _; simp only [NS.readL]; rw [show (N.del i).b v = none from hbv]) t H' et ft
      | some b =>
        k_offL
        refine ifNT (fun z => nomatch z) ?_
        k_offL
        refine tupk (by show 4 ≤ 100000; decide) fun t2 H2 n2 e2 f2 => ?_
        k_offL
        refine r_app (xs := lv.eraseIdx i) (by k_clsL) (by rw [ls1.len]; have := ok1.pl; omega) fun H3 e3 f3 => ?_
        k_offL
        refine tupk (by show 3 ≤ 100000; decide) fun t H' n4 et ft => ?_
        have er : N.read i (.ask v u) = ((N.del i).push (.ans u v b), [.str "wrote", .int v, .int b]) := by
          show (N.del i).readL _ = _; simp only [NS.readL]; rw [show (N.del i).b v = some b from hbv]
        rw [er] at k
        exact k t H' et ⟨⟨kn, by k_clsL, dN⟩, ⟨kb, by k_clsL, dB⟩, ⟨_, by k_clsL, (ls1.fr ((f2.up.trans f3).trans ft.up)).snoc (ft.tp _ _ (f3.tp _ _ e2))⟩, ne⟩ ((((f1.mono m3).trans f2.up).trans (f3.mono m3)).trans ft.up)
    | ans u v x =>
      refine r_ixT (sqT_of hT1) (v := .int u) rfl ?_
      k_offL
      refine r_ixT (sqT_of hT1) (v := .int v) rfl ?_
      k_offL
      refine dg1a (.inl hb1) ?_
      k_offL
      refine dg1b (.inl hb1) ?_
      have hu : u ∈ N.hs := hm u (by simp [LT.pl])
      k_offL
      refine r_ixT (sqT_of hT1) (v := .str "answer") rfl ?_
      k_offL
      refine ifDF (by decide +kernel) ?_
      k_offL
      refine r_ixT (sqT_of hT1) (v := .str "answer") rfl ?_
      k_offL
      refine ifDF (by decide +kernel) ?_
      k_offL
      refine dgetk (.inl hn1) (by rw [dN.val, NS.mf_at hu]) ?_
      k_offL
      have no : ¬ (N.f u = v ∧ btw N.size u x v = true) → N.read i (.ans u v x) = (N.del i, [.str "kept", .int u, .non]) := fun z => if_neg z
      refine ifD (fun e => ?_) (fun e => ?_)
      · k_offL
        refine r_ixT (sqT_of hT1) (v := .int x) rfl ?_
        k_offL
        refine i_between h0 ?_
        k_offL
        refine ifB (fun e2 => ?_) (fun e2 => ?_)
        · k_offL
          refine r_ixT (sqT_of hT1) (v := .int x) rfl ?_
          k_offL
          refine dputk hn1 (ok.knl dN) fun H2 e3 f3 => ?_
          k_offL
          refine r_ixT (sqT_of (f3.tp _ _ hT1)) (v := .int x) rfl ?_
          k_offL
          refine tupk (by show 3 ≤ 100000; decide) fun t H' n4 et ft => ?_
          have er : N.read i (.ans u v x) = ((N.del i).setF u x, [.str "next", .int u, .int x]) := if_pos ⟨e, e2⟩
          rw [er] at k
          exact k t H' et ⟨⟨_, by k_clsL, dN.put.cong fun h => (N.del i).mf_setF u x hu h⟩, ⟨kb, by k_clsL, dB⟩, ⟨_, by k_clsL, ls1.fr (f3.trans ft.up)⟩, ne⟩ (((f1.mono m3).trans (f3.mono m1)).trans ft.up)
        · k_offL
          refine tupk (by show 3 ≤ 100000; decide) fun t H' n4 et ft => ?_
          exact kept u (no fun z => by rw [z.2] at e2; cases e2) t H' et ft
      · k_offL
        refine tupk (by show 3 ≤ 100000; decide) fun t H' n4 et ft => ?_
        exact kept u (no fun z => e z.1) t H' et ft
end
end RL
set_option synthInstance.maxHeartbeats 4000000
set_option synthInstance.maxSize 4000
namespace RL
inductive Fits : Nat → D → Prop where
  | non {n : Nat} : Fits n .non
  | bl {n : Nat} {b : Bool} : Fits n (.bl b)
  | int {n : Nat} {i : Int} : Fits n (.int i)
  | str {n : Nat} {s : Str} : Fits n (.str s)
  | tup {n : Nat} {ds : List D} (h : ∀ d ∈ ds, Fits n d) (l : ds.length ≤ 100000) : Fits (n + 1) (.tup ds)
  | lst {n : Nat} {ds : List D} (h : ∀ d ∈ ds, Fits n d) (l : ds.length ≤ 100000) : Fits (n + 1) (.lst ds)
  | dct {n : Nat} {kvs : List (Int × Int)} (l : kvs.length ≤ 100000) : Fits (n + 3) (.dct kvs)
theorem Fits.up {n m : Nat} {d : D} (h : Fits n d) (q : n ≤ m) : Fits m d := by
  induction h generalizing m with
  | non => exact .non
  | bl => exact .bl
  | int => exact .int
  | str => exact .str
  | tup h l ih => obtain ⟨k, rfl⟩ : ∃ k, m = k + 1 := ⟨m - 1, by omega⟩; exact .tup (fun d hd => ih d hd (by omega)) l
  | lst h l ih => obtain ⟨k, rfl⟩ : ∃ k, m = k + 1 := ⟨m - 1, by omega⟩; exact .lst (fun d hd => ih d hd (by omega)) l
  | dct l => obtain ⟨k, rfl⟩ : ∃ k, m = k + 3 := ⟨m - 3, by omega⟩; exact .dct l
theorem Fits.ofV (v : V) : Fits 0 (ofV v) := by cases v <;> constructor
def flatD (vs : List V) : D := .tup (vs.map ofV)
theorem Fits.flat {vs : List V} (h : vs.length ≤ 100000) : Fits 1 (flatD vs) := .tup (fun d hd => by obtain ⟨v, _, e⟩ := List.mem_map.mp hd; exact e ▸ Fits.ofV v) (by rw [List.length_map]; exact h)
theorem Rep.flat {H : Hp} {t : Addr} {vs : List V} (h : H t = some (.tup vs)) (f : vs.all flatR = true) : Rep H (flatD vs) (.ref t) := ⟨t, vs, rfl, h, ofVs_rep f⟩
def spSame : Nat → Sp
  | 0 => fun _ _ _ _ => False
  | n + 1 => fun vs H Q _ => ∃ (a b : V) (d : D), vs = [a, b] ∧ Rep H d a ∧ Rep H d b ∧ Fits n d ∧ ∀ H', Fr [] H H' → Q (.bl true) H'
theorem items_rep {H' : Hp} : ∀ {kvs : List (Int × Int)} {ts : List Addr}, Paired (fun (t : Addr) (q : Key × V) => H' t = some (.tup [kV q.1, q.2])) ts (kvs.map fun p => ((Sum.inl p.1 : Key), V.int p.2)) → RepL H' (kvs.map fun p => .tup [.int p.1, .int p.2]) (ts.map V.ref)
  | [], [], _ => rfl
  | p :: r, t :: ts, h => by
    cases h with
    | cons h1 h2 => exact ⟨_, _, rfl, ⟨t, _, rfl, h1, _, _, rfl, rfl, _, _, rfl, rfl, rfl⟩, items_rep h2⟩
theorem fr_all {H H' : Hp} (h : ∀ b o, H b = some o → H' b = some o) : Fr [] H H' := ⟨fun a o e _ => h a o e, fun t xs e => h _ _ e, fun t u w e => h _ _ e⟩
theorem r_ixS {K : PySem.W.Frag} {H : Hp} {Q : VK} {v : V} {p : Addr} {xs : List V} {i : Int} (h : Sq K H p xs) (ha : atI xs i = some v) (q : Q v H) : rIx K (.ref p) (.int i) H Q := by
  rcases h with h | h
  · exact .inl ⟨p, xs, i, v, rfl, rfl, h, ha, q⟩
  · exact .inr (.inl ⟨p, xs, i, v, rfl, rfl, h, ha, q⟩)
theorem r_lenS {K : PySem.W.Frag} {H : Hp} {Q : VK} {p : Addr} {xs : List V} (h : Sq K H p xs) (q : Q (.int xs.length) H) : rLenS K [.ref p] H Q := ⟨p, xs, rfl, h, q⟩
def ItK (x : V) (Q : VK) (H : Hp) : Prop := rItemsL x H Q
theorem x_items {te : TE} {σ : L2.St} {H : Hp} {Q : VK} (h : te σ H fun x H1 => ItK x Q H1) : tListItems te σ H Q := h
section
variable {P : Program} {w : World} {K : PySem.W.Frag} {mg : Str → Option Value} {base : Heap} {CNet CMender CDesk CStore CWalk : Addr}
abbrev s__law_same : Stmt := top 39
theorem sc__law_same : FnScope ["actual", "due", "k"] ["actual", "due"] (defScope s__law_same) := ⟨rfl, rfl, rfl, by decide +kernel, rfl, by decide +kernel, by decide +kernel⟩
theorem ok__law_same {f : Addr} {fd : FuncData} (F : Fun K "_law_same" "_law_same" s__law_same f fd) (m_isinstance : mg "isinstance" = none) (m_int : mg "int" = none) (m_bool : mg "bool" = none) (m_str : mg "str" = none) (m_dict : mg "dict" = none) (m_list : mg "list" = none) (m_tuple : mg "tuple" = none) (m_len : mg "len" = none) (m_range : mg "range" = none) (G0 : ∀ n, FnOk P w K mg base CX0 (n + 1) f fd ["actual", "due"] (spSame n) → GF P w K mg base "_law_same" (n + 1) ["actual", "due"] (spSame n)) : ∀ n, FnOk P w K mg base CX0 (n + 1) f fd ["actual", "due"] (spSame n)
  | 0 => F.ok sc__law_same (fun vs H Q E h => h.elim) (fun cdv A outer s H vs Q E hr h => h.elim)
  | n + 1 => by
    have G__law_same := G0 n (ok__law_same F m_isinstance m_int m_bool m_str m_dict m_list m_tuple m_len m_range G0 n)
    refine F.ok sc__law_same (fun vs H Q E h => by obtain ⟨_, _, _, rfl, _⟩ := h; rfl) (fun cdv A outer s H vs Q E hr h => ?_)
    obtain ⟨a, b, d, rfl, ra, rb, fit, k⟩ := h
    refine ⟨_, (pss_cons (ps_if (pt_cmpR op_isNn (pv 1) pe_non (nomark _)) (pss_one (ps_ret (pe_cmpR op_isNn (pv 0) pe_non (nomark _)))) pss_nil)
      (pss_cons (ps_if (pt_cmpR op_isB (pv 1) pe_bl (nomark _)) (pss_one (ps_ret (pe_cmpR op_isB (pv 0) pe_bl (nomark _)))) pss_nil)
      (pss_cons (ps_if (pt_cmpR op_isB (pv 1) pe_bl (nomark _)) (pss_one (ps_ret (pe_cmpR op_isB (pv 0) pe_bl (nomark _)))) pss_nil)
      (pss_cons (ps_if (pt_val (pe_callB (cb_isiK (K := K) rfl) (by rfl) m_isinstance b_isinstance (pa_cons (pv 1) (pa_cons (pe_ty m_int b_int) pa_nil)))) (pss_one (ps_ret (pe_and (pe_callB (cb_isiK (K := K) rfl) (by rfl) m_isinstance b_isinstance (pa_cons (pv 0) (pa_cons (pe_ty m_int b_int) pa_nil))) (pe_and (pe_not (pe_callB (cb_isiK (K := K) rfl) (by rfl) m_isinstance b_isinstance (pa_cons (pv 0) (pa_cons (pe_ty m_bool b_bool) pa_nil)))) (pe_one (pe_cmpR op_eq (pv 0) (pv 1) (nomark _))))))) pss_nil)
      (pss_cons (ps_if (pt_val (pe_callB (cb_isiK (K := K) rfl) (by rfl) m_isinstance b_isinstance (pa_cons (pv 1) (pa_cons (pe_ty m_str b_str) pa_nil)))) (pss_one (ps_ret (pe_and (pe_callB (cb_isiK (K := K) rfl) (by rfl) m_isinstance b_isinstance (pa_cons (pv 0) (pa_cons (pe_ty m_str b_str) pa_nil))) (pe_one (pe_cmpR op_eq (pv 0) (pv 1) (nomark _)))))) pss_nil)
      (pss_cons (ps_if (pt_val (pe_callB (cb_isiK (K := K) rfl) (by rfl) m_isinstance b_isinstance (pa_cons (pv 1) (pa_cons (pe_ty m_dict b_dict) pa_nil)))) (pss_one (ps_ret (pe_and (pe_callB (cb_isiK (K := K) rfl) (by rfl) m_isinstance b_isinstance (pa_cons (pv 0) (pa_cons (pe_ty m_dict b_dict) pa_nil))) (pe_one (c_fn G__law_same (hr.mono (Nat.le_refl _)) (pa_cons (pe_listItems rfl (pv 0) (by rfl) m_list b_list) (pa_cons (pe_listItems rfl (pv 1) (by rfl) m_list b_list) pa_nil))))))) pss_nil)
      (pss_cons (ps_if (PW.pt (pw_and (pt_val (pe_callB (cb_isiK (K := K) rfl) (by rfl) m_isinstance b_isinstance (pa_cons (pv 1) (pa_cons (pe_ty m_tuple b_tuple) pa_nil)))) (pw_and1 (pt_not (pt_val (pe_callB (cb_isiK (K := K) rfl) (by rfl) m_isinstance b_isinstance (pa_cons (pv 0) (pa_cons (pe_ty m_tuple b_tuple) pa_nil)))))))) (pss_one (ps_ret pe_bl)) pss_nil)
      (pss_cons (ps_if (PW.pt (pw_and (pt_val (pe_callB (cb_isiK (K := K) rfl) (by rfl) m_isinstance b_isinstance (pa_cons (pv 1) (pa_cons (pe_ty m_list b_list) pa_nil)))) (pw_and1 (pt_not (pt_val (pe_callB (cb_isiK (K := K) rfl) (by rfl) m_isinstance b_isinstance (pa_cons (pv 0) (pa_cons (pe_ty m_list b_list) pa_nil)))))))) (pss_one (ps_ret pe_bl)) pss_nil)
      (pss_cons (ps_if (pt_cmpR op_ne (pe_callB (cb_lenSK (K := K) rfl) (by rfl) m_len b_len (pa_cons (pv 0) pa_nil)) (pe_callB (cb_lenSK (K := K) rfl) (by rfl) m_len b_len (pa_cons (pv 1) pa_nil)) (nomark _)) (pss_one (ps_ret pe_bl)) pss_nil)
      (pss_cons (ps_for PassesOwn.never rfl (pi_range1 (by rfl) m_range (pa_cons (pe_callB (cb_lenSK (K := K) rfl) (by rfl) m_len b_len (pa_cons (pv 1) pa_nil)) pa_nil)) (pg_name (i := 2) sc__law_same.nd rfl (Or.inl rfl))
      (pss_one (ps_if (pt_not (pt_val (c_fn G__law_same (hr.mono (Nat.le_refl _)) (pa_cons (pe_ix (ix_seqK (K := K) rfl) (pv 0) (pv 2) (by intro _ _; rfl)) (pa_cons (pe_ix (ix_seqK (K := K) rfl) (pv 1) (pv 2) (by intro _ _; rfl)) pa_nil))))) (pss_one (ps_ret pe_bl)) pss_nil)))
      (pss_one (ps_ret pe_bl)))))))))))), ?_⟩
    (try simp only [cxK, cxKX, List.map])
    refine ent (σ' := [some _, some _, none]) rfl ?_
    have k0 := k H (Fr.refl _ _)
    have isd : ∀ {x : V} {c : Bool}, x ≠ .bl c → decide (x = .bl c) = false := fun h => decide_eq_false h
    cases d with
    | non =>
      obtain rfl : a = .non := ra
      obtain rfl : b = .non := rb
      k_offL
      refine ifDT rfl ?_
      k_offL
      exact k0
    | bl c =>
      obtain rfl : a = .bl c := ra
      obtain rfl : b = .bl c := rb
      k_offL
      refine ifDF (fun z => nomatch z) ?_
      k_offL
      cases c with
      | true =>
        refine ifDT rfl ?_
        k_offL
        exact k0
      | false =>
        refine ifDF (fun z => nomatch z) ?_
        k_offL
        refine ifDT rfl ?_
        k_offL
        exact k0
    | int i =>
      obtain rfl : a = .int i := ra
      obtain rfl : b = .int i := rb
      have ty : TyX K H (.int i) (.type "int") := .base (.int i)
      k_offL
      refine ifDF (fun z => nomatch z) ?_
      k_offL
      refine ifDF (fun z => nomatch z) ?_
      k_offL
      refine ifDF (fun z => nomatch z) ?_
      k_offL
      refine r_isi ty (b := true) (by decide +kernel) ?_
      k_offL
      refine r_isi ty (b := true) (by decide +kernel) ?_
      k_offL
      refine r_isi ty (b := false) (by decide +kernel) ?_
      k_offL
      rw [show decide (i = i) = true from decide_eq_true rfl]
      exact k0
    | str i =>
      obtain rfl : a = .str i := ra
      obtain rfl : b = .str i := rb
      have ty : TyX K H (.str i) (.type "str") := .base (.str i)
      k_offL
      refine ifDF (fun z => nomatch z) ?_
      k_offL
      refine ifDF (fun z => nomatch z) ?_
      k_offL
      refine ifDF (fun z => nomatch z) ?_
      k_offL
      refine r_isi ty (b := false) (by decide +kernel) ?_
      k_offL
      refine r_isi ty (b := true) (by decide +kernel) ?_
      k_offL
      refine r_isi ty (b := true) (by decide +kernel) ?_
      k_offL
      rw [show decide (i = i) = true from decide_eq_true rfl]
      exact k0
    | dct kvs =>
      obtain ⟨a, rfl, ha⟩ := ra
      obtain ⟨b, rfl, hb⟩ := rb
      have tya : TyX K H (.ref a) (.type "dict") := .base (.dK ha)
      have ty : TyX K H (.ref b) (.type "dict") := .base (.dK hb)
      k_offL
      refine ifDF (fun z => nomatch z) ?_
      k_offL
      refine ifDF (fun z => nomatch z) ?_
      k_offL
      refine ifDF (fun z => nomatch z) ?_
      k_offL
      refine r_isi ty (b := false) (by decide +kernel) ?_
      k_offL
      refine r_isi ty (b := false) (by decide +kernel) ?_
      k_offL
      refine r_isi ty (b := true) (by decide +kernel) ?_
      k_offL
      refine r_isi tya (b := true) (by decide +kernel) ?_
      k_offL
      refine x_items ?_
      k_offL
      refine ⟨a, _, rfl, ha, fun H1 p ts g n1 n2 n3 e1 e2 => ?_⟩
      have f1 := fr_all g
      k_offL
      refine x_items ?_
      k_offL
      refine ⟨b, _, rfl, g _ _ hb, fun H2 p2 ts2 g2 m1 m2 m3 e3 e4 => ?_⟩
      have f2 := fr_all g2
      k_offL
      cases fit with
      | dct hl =>
        rename_i n
        refine ⟨_, _, .lst (kvs.map fun p => .tup [.int p.1, .int p.2]), rfl, ⟨p, _, rfl, g2 _ _ e1, RepL.fr0 f2 _ _ (items_rep e2)⟩, ⟨p2, _, rfl, e3, items_rep e4⟩, .lst (n := n + 1) (fun d hd => ?_) (by rw [List.length_map]; exact hl), fun H' f => k H' ((f1.trans f2).trans f)⟩
        obtain ⟨q, _, e⟩ := List.mem_map.mp hd
        subst e
        exact .tup (fun d hd => by simp at hd; rcases hd with e | e <;> (subst e; exact .int)) (show 2 ≤ 100000 by decide)
    | tup ds =>
      obtain ⟨a, va, rfl, ha, la⟩ := ra
      obtain ⟨b, vb, rfl, hb, lb⟩ := rb
      have tya : TyX K H (.ref a) (.type "tuple") := .base (.tup ha)
      have ty : TyX K H (.ref b) (.type "tuple") := .base (.tup hb)
      k_offL
      refine ifDF (fun z => nomatch z) ?_
      k_offL
      refine ifDF (fun z => nomatch z) ?_
      k_offL
      refine ifDF (fun z => nomatch z) ?_
      k_offL
      refine r_isi ty (b := false) (by decide +kernel) ?_
      k_offL
      refine r_isi ty (b := false) (by decide +kernel) ?_
      k_offL
      refine r_isi ty (b := false) (by decide +kernel) ?_
      k_offL
      refine r_isi ty (b := true) (by decide +kernel) ?_
      k_offL
      refine r_isi tya (b := true) (by decide +kernel) ?_
      k_offL
      refine r_isi ty (b := false) (by decide +kernel) ?_
      k_offL
      refine r_lenS (.inr (sqT_of ha)) ?_
      k_offL
      refine r_lenS (.inr (sqT_of hb)) ?_
      k_offL
      refine ifNF (by rw [la.len, lb.len]) ?_
      k_offL
      refine r_lenS (.inr (sqT_of hb)) ?_
      cases fit with
      | tup hf hl =>
        rename_i n
        refine loopR1 _ (by rw [lb.len]; omega) (by omega) (fun i σ' H' => (∃ v, σ' = [some (.ref a), some (.ref b), v]) ∧ Fr [] H H') ⟨⟨_, rfl⟩, Fr.refl _ _⟩ ?_ ?_
        · rintro i σ' H1 hi ⟨⟨v, rfl⟩, f1⟩
          have hi' : i < ds.length := by rw [lb.len] at hi; omega
          have hd := List.getElem?_eq_getElem hi'
          obtain ⟨x, hx, rx⟩ := la.get hd
          obtain ⟨y, hy, ry⟩ := lb.get hd
          k_offL
          refine r_ixS (.inr (sqT_of (f1.tp _ _ ha))) (atI_nat hx) ?_
          k_offL
          refine r_ixS (.inr (sqT_of (f1.tp _ _ hb))) (atI_nat hy) ?_
          k_offL
          refine ⟨x, y, ds[i], rfl, Rep.fr0 f1 _ _ rx, Rep.fr0 f1 _ _ ry, hf _ (List.getElem_mem hi'), fun H2 f2 => ?_⟩
          k_offL
          exact ⟨⟨_, rfl⟩, f1.trans f2⟩
        · rintro σ' H1 ⟨⟨v, rfl⟩, f1⟩
          k_offL
          exact k H1 f1
    | lst ds =>
      obtain ⟨a, va, rfl, ha, la⟩ := ra
      obtain ⟨b, vb, rfl, hb, lb⟩ := rb
      have tya : TyX K H (.ref a) (.type "list") := .base (.lst ha)
      have ty : TyX K H (.ref b) (.type "list") := .base (.lst hb)
      k_offL
      refine ifDF (fun z => nomatch z) ?_
      k_offL
      refine ifDF (fun z => nomatch z) ?_
      k_offL
      refine ifDF (fun z => nomatch z) ?_
      k_offL
      refine r_isi ty (b := false) (by decide +kernel) ?_
      k_offL
      refine r_isi ty (b := false) (by decide +kernel) ?_
      k_offL
      refine r_isi ty (b := false) (by decide +kernel) ?_
      k_offL
      refine r_isi ty (b := false) (by decide +kernel) ?_
      k_offL
      refine r_isi ty (b := true) (by decide +kernel) ?_
      k_offL
      refine r_isi tya (b := true) (by decide +kernel) ?_
      k_offL
      refine r_lenS (.inl (sqL_of ha)) ?_
      k_offL
      refine r_lenS (.inl (sqL_of hb)) ?_
      k_offL
      refine ifNF (by rw [la.len, lb.len]) ?_
      k_offL
      refine r_lenS (.inl (sqL_of hb)) ?_
      cases fit with
      | lst hf hl =>
        rename_i n
        refine loopR1 _ (by rw [lb.len]; omega) (by omega) (fun i σ' H' => (∃ v, σ' = [some (.ref a), some (.ref b), v]) ∧ Fr [] H H') ⟨⟨_, rfl⟩, Fr.refl _ _⟩ ?_ ?_
        · rintro i σ' H1 hi ⟨⟨v, rfl⟩, f1⟩
          have hi' : i < ds.length := by rw [lb.len] at hi; omega
          have hd := List.getElem?_eq_getElem hi'
          obtain ⟨x, hx, rx⟩ := la.get hd
          obtain ⟨y, hy, ry⟩ := lb.get hd
          k_offL
          refine r_ixS (.inl (sqL_of (f1.at_ _ _ ha List.not_mem_nil))) (atI_nat hx) ?_
          k_offL
          refine r_ixS (.inl (sqL_of (f1.at_ _ _ hb List.not_mem_nil))) (atI_nat hy) ?_
          k_offL
          refine ⟨x, y, ds[i], rfl, Rep.fr0 f1 _ _ rx, Rep.fr0 f1 _ _ ry, hf _ (List.getElem_mem hi'), fun H2 f2 => ?_⟩
          k_offL
          exact ⟨⟨_, rfl⟩, f1.trans f2⟩
        · rintro σ' H1 ⟨⟨v, rfl⟩, f1⟩
          k_offL
          exact k H1 f1
end
end RL
set_option synthInstance.maxHeartbeats 4000000
set_option synthInstance.maxSize 4000
namespace RL
theorem Ans.hit {size : Int} {f : Int → Int} {a d e : Int} {j : Nat} (h0 : 0 < size) (hd : 0 < d) (x : Ans size f a d j) : Tr size f a e d ↔ wl size f j a = d ∧ it f j a = e := by
  constructor
  · rintro ⟨n, n1, e1, e2⟩
    have : j = n := Ans.uniq h0 x ⟨by omega, fun i hi => by have := wl_lt (f := f) (h := a) h0 hi; omega⟩
    subst this
    exact ⟨e2, e1⟩
  · rintro ⟨e1, e2⟩
    refine ⟨j, ?_, e2, e1⟩
    cases j with
    | zero => have : (0 : Int) = d := e1; omega
    | succ j => omega
theorem NxAt.get {H : Hp} {a : Addr} {hs : List Int} {f : Int → Int} {x : Int} {Q : VK} (N : NxAt H a hs f) (m : x ∈ hs) (q : Q (.int (f x)) H) : DGetK (.ref a) (.int x) Q H := by
  obtain ⟨kvs, rd, dk, _⟩ := N.ex
  exact dgetk rd (by rw [dk.val, mfOf_at m]) q
theorem NxAt.ex0 {H H' : Hp} {a : Addr} {hs : List Int} {f : Int → Int} (x : NxAt H a hs f) (g : Fr [] H H') : NxAt H' a hs f := x.fr g List.not_mem_nil
theorem NS.nxAt {N : NS} (ok : N.Ok) {H : Hp} {a : Addr} {kvs : List (Key × V)} (h : H a = some (.dK kvs)) (d : DOk kvs N.mf) : NxAt H a N.hs N.f := .mk' (.inl h) d ok.nd ok.fh
def spCheckHouse : Sp := fun vs H Q _ => ∃ (a : Addr) (kvs : List (Key × V)) (h : Int), vs = [.ref a, .int h] ∧ Rd H a (.dK kvs) ∧ (valV kvs (.inl h)).isSome = true ∧ Q .non H
section
variable {P : Program} {w : World} {K : PySem.W.Frag} {mg : Str → Option Value} {base : Heap} {CNet CMender CDesk CStore CWalk : Addr}
abbrev s_check_house : Stmt := top 11
theorem sc_check_house : FnScope ["nexts", "house"] ["nexts", "house"] (defScope s_check_house) := ⟨rfl, rfl, rfl, by decide +kernel, rfl, by decide +kernel, by decide +kernel⟩
theorem ok_check_house {f : Addr} {fd : FuncData} (F : Fun K "check_house" "check_house" s_check_house f fd) : FnOk P w K mg base CX0 1 f fd ["nexts", "house"] spCheckHouse := by
  refine F.ok sc_check_house (fun vs H Q E h => ?_) (fun cdv A outer s H vs Q E hr h => ?_)
  · obtain ⟨_, _, _, rfl, _⟩ := h; rfl
  · obtain ⟨a, kvs, x, rfl, ha, hm, k⟩ := h
    refine ⟨_, (pss_one (ps_if (pt_cmp (pc_dnotin (hu_of hr) (pv 1) (pv 0))) (pss_one ps_never) pss_nil)), ?_⟩
    (try simp only [cxK, cxKX, List.map])
    refine ent (σ' := [some _, some _]) rfl ?_
    k_offL
    refine dink ha ?_
    refine blk (ifE (show _ = false by rw [hm]; rfl) ?_)
    k_offL
    exact k
end
def spHouseAt (C : Addr) : Sp := fun vs H Q _ => ∃ (p da db dl : Addr) (N : NS) (h d : Int), vs = [.ref p, .int h, .int d] ∧ NetAt C H p da db dl N ∧ N.Ok ∧ h ∈ N.hs ∧ 0 < d ∧ d ≤ N.size ∧
  ∀ t H' j, Ans N.size N.f h d j → H' t = some (.tup [.int (it N.f j h), .int (wl N.size N.f j h)]) → Fr [] H H' → Q (.ref t) H'
theorem DOk.some' {kvs : List (Key × V)} {m : Int → Option V} (d : DOk kvs m) {h : Int} {v : V} (e : m h = some v) : (valV kvs (.inl h)).isSome = true := by rw [d.val, e]; rfl
section
variable {P : Program} {w : World} {K : PySem.W.Frag} {mg : Str → Option Value} {base : Heap} {CNet CMender CDesk CStore CWalk : Addr}
abbrev s_house_at : Stmt := top 12
theorem sc_house_at : FnScope ["net", "start", "distance", "nexts", "house", "length"] ["net", "start", "distance"] (defScope s_house_at) := ⟨rfl, rfl, rfl, by decide +kernel, rfl, by decide +kernel, by decide +kernel⟩
theorem ok_house_at {f : Addr} {fd : FuncData} (F : Fun K "house_at" "house_at" s_house_at f fd) (G_Net_nexts : GM P w K mg base CNet "nexts" 1 ["self"] (spNexts CNet)) (G_check_house : GF P w K mg base "check_house" 1 ["nexts", "house"] spCheckHouse) (G_far : GF P w K mg base "far" 1 ["size", "start", "end"] spFar) (T : NetT K CNet) : FnOk P w K mg base CX0 2 f fd ["net", "start", "distance"] (spHouseAt CNet) := by
  refine F.ok sc_house_at (fun vs H Q E h => ?_) (fun cdv A outer s H vs Q E hr h => ?_)
  · obtain ⟨_, _, _, _, _, _, _, rfl, _⟩ := h; rfl
  · obtain ⟨p, da, db, dl, N, x, d, rfl, hN, ok, hx, d0, d1, k⟩ := h
    refine ⟨_, (pss_cons (ps_set (i := 3) sc_house_at.nd rfl (Or.inl rfl) (c_mt0 G_Net_nexts (hr.mono (by decide)) (pv 0)))
      (pss_cons (ps_expr (c_fn G_check_house (hr.mono (by decide)) (pa_cons (pv 3) (pa_cons (pv 1) pa_nil))))
      (pss_cons (ps_set (i := 4) sc_house_at.nd rfl (Or.inl rfl) (pv 1))
      (pss_cons (ps_set (i := 5) sc_house_at.nd rfl (Or.inl rfl) pe_int)
      (pss_cons (ps_while PassesOwn.never (pt_cmpR op_lt (pv 5) (pv 2) (nomark _)) (pss_cons (ps_aug (i := 5) sc_house_at.nd rfl (Or.inl rfl) (c_fn G_far (hr.mono (by decide)) (pa_cons (pe_fldK (K := K) rfl (pv 0) (by rfl)) (pa_cons (pv 4) (pa_cons (pe_dget (hu_of hr) (pv 3) (pv 4) (by intro _ _; rfl)) pa_nil)))) ip_add)
      (pss_one (ps_set (i := 4) sc_house_at.nd rfl (Or.inl rfl) (pe_dget (hu_of hr) (pv 3) (pv 4) (by intro _ _; rfl))))))
      (pss_one (ps_ret (pe_tup (pa_cons (pv 4) (pa_cons (pv 5) pa_nil)))))))))), ?_⟩
    (try simp only [cxK, cxKX, List.map])
    refine ent (σ' := [some _, some _, some _, none, none, none]) rfl ?_
    obtain ⟨⟨dx, hp⟩, _⟩ := id hN
    have h0 := ok.s0
    have h1 := ok.s1
    k_offL
    refine ⟨p, da, db, dl, N, rfl, hN, ok, fun l H1 n1 e1 f1 => ?_⟩
    k_offL
    refine ⟨l, _, x, rfl, .inl e1, ok.dkn.some' (NS.mf_at hx), ?_⟩
    k_offL
    refine q_while (fun m σ' H' => ∃ j, m + j = N.hs.length ∧ σ' = [some (.ref p), some (.int x), some (.int d), some (.ref l), some (.int (it N.f j x)), some (.int (wl N.size N.f j x))] ∧ (∀ i, i < j → wl N.size N.f i x < d) ∧ Fr [] H1 H') N.hs.length ⟨0, rfl, rfl, fun i hi => absurd hi (by omega), Fr.refl _ _⟩ ?_
    rintro m σ' H2 ⟨j, hm, rfl, hj, f2⟩ Nx R kN kT kF
    have hp2 := f1.at_ _ _ hp List.not_mem_nil
    have hp3 := f2.at_ _ _ hp2 List.not_mem_nil
    have nx := NS.nxAt ok (f2.at_ _ _ e1 List.not_mem_nil) ok.dkn
    have hmj := it_mem (n := j) ok.fh hx
    k_offL
    by_cases e : wl N.size N.f j x < d
    · rw [decide_eq_true e]
      refine kT _ ?_
      k_offL
      refine nx.get hmj ?_
      k_offL
      refine i_far h0 ?_
      k_offL
      refine nx.get hmj ?_
      k_offL
      have hlt : j < N.hs.length := by
        apply Classical.byContradiction
        intro hc
        have := wl_turn (n := j) h0 ok.fh hx (by omega)
        omega
      refine kN (m - 1) _ _ (by omega) ⟨j + 1, by omega, ?_, fun i hi => ?_, f2⟩
      · rw [it_succ, wl_succ]
      · rcases Nat.lt_or_eq_of_le (Nat.le_of_lt_succ hi) with q | q
        · exact hj i q
        · rw [q]; exact e
    · rw [decide_eq_false e]
      refine kF _ ?_
      k_offL
      refine tupk (by show 2 ≤ 100000; decide) fun t H3 n3 e3 f3 => ?_
      exact k t H3 j ⟨by omega, hj⟩ e3 ((f1.trans f2).trans f3)
end
def spCheckLookUp (C : Addr) : Sp := fun vs H Q _ => ∃ (p da db dl : Addr) (N : NS) (h key : Int), vs = [.ref p, .int h, .int key] ∧ NetAt C H p da db dl N ∧ N.Ok ∧ h ∈ N.hs ∧ 0 ≤ key ∧ key < N.size ∧ ∀ H', Fr [] H H' → Q .non H'
section
variable {P : Program} {w : World} {K : PySem.W.Frag} {mg : Str → Option Value} {base : Heap} {CNet CMender CDesk CStore CWalk : Addr}
abbrev s_check_look_up : Stmt := top 14
theorem sc_check_look_up : FnScope ["net", "house", "key"] ["net", "house", "key"] (defScope s_check_look_up) := ⟨rfl, rfl, rfl, by decide +kernel, rfl, by decide +kernel, by decide +kernel⟩
theorem ok_check_look_up {f : Addr} {fd : FuncData} (F : Fun K "check_look_up" "check_look_up" s_check_look_up f fd) (G_Net_nexts : GM P w K mg base CNet "nexts" 1 ["self"] (spNexts CNet)) (T : NetT K CNet) : FnOk P w K mg base CX0 2 f fd ["net", "house", "key"] (spCheckLookUp CNet) := by
  refine F.ok sc_check_look_up (fun vs H Q E h => ?_) (fun cdv A outer s H vs Q E hr h => ?_)
  · obtain ⟨_, _, _, _, _, _, _, rfl, _⟩ := h; rfl
  · obtain ⟨p, da, db, dl, N, x, key, rfl, hN, ok, hx, k0, k1, k⟩ := h
    refine ⟨_, (pss_cons (ps_if (pt_cmp (pc_dnotin (hu_of hr) (pv 1) (c_mt0 G_Net_nexts (hr.mono (by decide)) (pv 0)))) (pss_one ps_never) pss_nil)
      (pss_one (ps_if (pt_not (pt_chain op_le op_lt pe_int (pv 2) (pe_fldK (K := K) rfl (pv 0) (by rfl)))) (pss_one ps_never) pss_nil))), ?_⟩
    (try simp only [cxK, cxKX, List.map])
    refine ent (σ' := [some _, some _, some _]) rfl ?_
    obtain ⟨⟨dx, hp⟩, _⟩ := id hN
    k_offL
    refine ⟨p, da, db, dl, N, rfl, hN, ok, fun l H1 n1 e1 f1 => ?_⟩
    refine dink (.inl e1) ?_
    refine blk (ifE (show _ = false by rw [ok.dkn.some' (NS.mf_at hx)]; rfl) ?_)
    k_offL
    refine ifDT k0 ?_
    have hp2 := f1.at_ _ _ hp List.not_mem_nil
    k_offL
    refine ifNF k1 ?_
    k_offL
    exact k H1 f1
end
def spAnswer (C : Addr) : Sp := fun vs H Q _ => ∃ (p da db dl : Addr) (N : NS) (h key : Int), vs = [.ref p, .int h, .int key] ∧ NetAt C H p da db dl N ∧ N.Ok ∧ h ∈ N.hs ∧ 0 ≤ key ∧ key < N.size ∧
  ∀ t H' j, Ans N.size N.f h (far N.size h key) j → H' t = some (.tup [.int (it N.f j h), .int (wl N.size N.f j h)]) → Fr [] H H' → Q (.ref t) H'
section
variable {P : Program} {w : World} {K : PySem.W.Frag} {mg : Str → Option Value} {base : Heap} {CNet CMender CDesk CStore CWalk : Addr}
abbrev s_answer : Stmt := top 15
theorem sc_answer : FnScope ["net", "house", "key"] ["net", "house", "key"] (defScope s_answer) := ⟨rfl, rfl, rfl, by decide +kernel, rfl, by decide +kernel, by decide +kernel⟩
theorem ok_answer {f : Addr} {fd : FuncData} (F : Fun K "answer" "answer" s_answer f fd) (G_check_look_up : GF P w K mg base "check_look_up" 2 ["net", "house", "key"] (spCheckLookUp CNet)) (G_house_at : GF P w K mg base "house_at" 2 ["net", "start", "distance"] (spHouseAt CNet)) (G_far : GF P w K mg base "far" 1 ["size", "start", "end"] spFar) (T : NetT K CNet) : FnOk P w K mg base CX0 3 f fd ["net", "house", "key"] (spAnswer CNet) := by
  refine F.ok sc_answer (fun vs H Q E h => ?_) (fun cdv A outer s H vs Q E hr h => ?_)
  · obtain ⟨_, _, _, _, _, _, _, rfl, _⟩ := h; rfl
  · obtain ⟨p, da, db, dl, N, x, key, rfl, hN, ok, hx, k0, k1, k⟩ := h
    refine ⟨_, (pss_cons (ps_expr (c_fn G_check_look_up (hr.mono (by decide)) (pa_cons (pv 0) (pa_cons (pv 1) (pa_cons (pv 2) pa_nil)))))
      (pss_one (ps_ret (c_fn G_house_at (hr.mono (by decide)) (pa_cons (pv 0) (pa_cons (pv 1) (pa_cons (c_fn G_far (hr.mono (by decide)) (pa_cons (pe_fldK (K := K) rfl (pv 0) (by rfl)) (pa_cons (pv 1) (pa_cons (pv 2) pa_nil)))) pa_nil))))))), ?_⟩
    (try simp only [cxK, cxKX, List.map])
    refine ent (σ' := [some _, some _, some _]) rfl ?_
    obtain ⟨⟨dx, hp⟩, _⟩ := id hN
    have h0 := ok.s0
    k_offL
    refine ⟨p, da, db, dl, N, x, key, rfl, hN, ok, hx, k0, k1, fun H1 f1 => ?_⟩
    have hp2 := f1.at_ _ _ hp List.not_mem_nil
    k_offL
    refine i_far h0 ?_
    k_offL
    exact ⟨p, da, db, dl, N, x, _, rfl, hN.ex f1, ok, hx, (far_pos h0).1, (far_pos h0).2, fun t H2 j a e f2 => k t H2 j a e (f1.trans f2)⟩
end
def spLawHolds : Sp := fun vs H Q _ => ∃ (size : Int) (a t : Addr) (hs : List Int) (f : Int → Int) (h e s : Int), vs = [.int size, .ref a, .ref t] ∧ NxAt H a hs f ∧ H t = some (.tup [.int h, .int e, .int s]) ∧ h ∈ hs ∧ hs.length ≤ 60 ∧ 0 < size ∧ size < 2 ^ 40 ∧ 0 < s ∧ s ≤ 4 * size ∧
  ∀ b H', (b = true ↔ Tr size f h e s) → Fr [] H H' → Q (.bl b) H'
section
variable {P : Program} {w : World} {K : PySem.W.Frag} {mg : Str → Option Value} {base : Heap} {CNet CMender CDesk CStore CWalk : Addr}
abbrev s__law_holds : Stmt := top 37
theorem sc__law_holds : FnScope ["size", "nexts", "saying", "at", "length", "k"] ["size", "nexts", "saying"] (defScope s__law_holds) := ⟨rfl, rfl, rfl, by decide +kernel, rfl, by decide +kernel, by decide +kernel⟩
theorem ok__law_holds {f : Addr} {fd : FuncData} (F : Fun K "_law_holds" "_law_holds" s__law_holds f fd) (m_range : mg "range" = none) (m_len : mg "len" = none) (G__law_far : GF P w K mg base "_law_far" 1 ["size", "start", "end"] spFar) : FnOk P w K mg base CX0 2 f fd ["size", "nexts", "saying"] spLawHolds := by
  refine F.ok sc__law_holds (fun vs H Q E h => ?_) (fun cdv A outer s H vs Q E hr h => ?_)
  · obtain ⟨_, _, _, _, _, _, _, _, rfl, _⟩ := h; rfl
  · obtain ⟨size, a, t, hs, f, x, e, s', rfl, N, ht, hx, hl, h0, h1, s0, s1, k⟩ := h
    refine ⟨_, (pss_cons (ps_set (i := 3) sc__law_holds.nd rfl (Or.inl rfl) (pe_ix (ix_tupK (K := K) rfl) (pv 2) pe_int (by intro _ _; rfl)))
      (pss_cons (ps_set (i := 4) sc__law_holds.nd rfl (Or.inl rfl) pe_int)
      (pss_cons (ps_for PassesOwn.never rfl (pi_range1 (by rfl) m_range (pa_cons (pe_op op_mul (pe_callB cb_lenD (by rfl) m_len b_len (pa_cons (pv 1) pa_nil)) (pe_op op_add (pe_op op_fdivW (pe_ix (ix_tupK (K := K) rfl) (pv 2) pe_int (by intro _ _; rfl)) (pv 0)) pe_int)) pa_nil)) (pg_name (i := 5) sc__law_holds.nd rfl (Or.inl rfl))
      (pss_cons (ps_if (pt_cmpR op_ge (pv 4) (pe_ix (ix_tupK (K := K) rfl) (pv 2) pe_int (by intro _ _; rfl)) (nomark _)) (pss_one ps_break) pss_nil)
      (pss_cons (ps_set (i := 4) sc__law_holds.nd rfl (Or.inl rfl) (pe_op op_add (pv 4) (c_fn G__law_far (hr.mono (by decide)) (pa_cons (pv 0) (pa_cons (pv 3) (pa_cons (pe_dget (hu_of hr) (pv 1) (pv 3) (by intro _ _; rfl)) pa_nil))))))
      (pss_one (ps_set (i := 3) sc__law_holds.nd rfl (Or.inl rfl) (pe_dget (hu_of hr) (pv 1) (pv 3) (by intro _ _; rfl)))))))
      (pss_one (ps_ret (pe_and (pe_cmpR op_eq (pv 4) (pe_ix (ix_tupK (K := K) rfl) (pv 2) pe_int (by intro _ _; rfl)) (nomark _)) (pe_one (pe_cmpR op_eq (pv 3) (pe_ix (ix_tupK (K := K) rfl) (pv 2) pe_int (by intro _ _; rfl)) (nomark _))))))))), ?_⟩
    (try simp only [cxK, cxKX, List.map])
    refine ent (σ' := [some _, some _, some _, none, none, none]) rfl ?_
    obtain ⟨kvs, rd, dk, hkl⟩ := N.ex
    k_offL
    refine r_ixT (sqT_of ht) (v := .int x) rfl ?_
    k_offL
    refine r_lenD rd ?_
    rw [hkl]
    k_offL
    refine r_ixT (sqT_of ht) (v := .int s') rfl ?_
    k_offL
    have q0 : 0 ≤ s' / size := Int.ediv_nonneg (by omega) (by omega)
    have q1 : s' / size ≤ 4 := Int.ediv_le_of_le_mul h0 (by omega)
    have q2 : s' < size * (s' / size + 1) := by
      have := Int.emod_lt_of_pos s' h0
      have := Int.mul_ediv_add_emod s' size
      rw [Int.mul_add]
      omega
    obtain ⟨q, hq⟩ : ∃ q : Nat, s' / size + 1 = (q : Int) := ⟨(s' / size + 1).toNat, by omega⟩
    have hq' : Int.fdiv s' size = s' / size := Int.fdiv_eq_ediv_of_nonneg _ (by omega)
    have ans : ∀ {j : Nat} {H' : Hp}, Ans size f x s' j → Fr [] H H' → (∀ b, (b = true ↔ wl size f j x = s' ∧ it f j x = e) → Q (.bl b) H') := fun A g b hb => k b _ (hb.trans (A.hit h0 s0).symm) g
    have hn : (hs.length : Int) * (s' / size + 1) = ((hs.length * q : Nat) : Int) := by rw [hq, Int.natCast_mul]
    have hq5 : q ≤ 5 := by omega
    have hn2 : hs.length * q ≤ 60 * 5 := Nat.mul_le_mul hl hq5
    rw [hn]
    refine loopR1 _ (by omega) (by omega) (fun i σ' H' => (∃ v, σ' = [some (.int size), some (.ref a), some (.ref t), some (.int (it f i x)), some (.int (wl size f i x)), v]) ∧ (∀ i', i' < i → wl size f i' x < s') ∧ Fr [] H H') ⟨⟨_, rfl⟩, fun i hi => absurd hi (by omega), Fr.refl _ _⟩ ?_ ?_
    · rintro i σ' H1 hi ⟨⟨v, rfl⟩, hj, f1⟩
      have N1 := N.ex0 f1
      have ht1 := f1.tp _ _ ht
      have hm := it_mem (n := i) N.cl hx
      k_offL
      refine r_ixT (sqT_of ht1) (v := .int s') rfl ?_
      k_offL
      refine ifD (fun e3 => ?_) (fun e3 => ?_)
      · k_offL
        refine r_ixT (sqT_of ht1) (v := .int s') rfl ?_
        k_offL
        refine ifD (fun e1 => ?_) (fun e1 => ?_)
        · k_offL
          refine r_ixT (sqT_of ht1) (v := .int e) rfl ?_
          k_offL
          exact ans ⟨by omega, hj⟩ f1 _ (by rw [decide_eq_true_iff]; exact ⟨fun z => ⟨e1, z⟩, fun z => z.2⟩)
        · k_offL
          exact ans ⟨by omega, hj⟩ f1 _ ⟨fun z => (nomatch z), fun z => absurd z.1 e1⟩
      · k_offL
        refine N1.get hm ?_
        k_offL
        refine i_far h0 ?_
        k_offL
        refine N1.get hm ?_
        k_offL
        refine ⟨⟨_, by rw [it_succ, wl_succ]⟩, fun i' hi' => ?_, f1⟩
        rcases Nat.lt_or_eq_of_le (Nat.le_of_lt_succ hi') with q | q
        · exact hj i' q
        · rw [q]; omega
    · rintro σ' H1 ⟨⟨v, rfl⟩, hj, f1⟩
      rw [show ((hs.length * q : Nat) : Int).toNat = hs.length * q by omega] at hj ⊢
      have a2 := wl_turns h0 N.cl hx q
      rw [hq] at q2
      have ht1 := f1.tp _ _ ht
      k_offL
      refine r_ixT (sqT_of ht1) (v := .int s') rfl ?_
      k_offL
      refine ifD (fun e1 => ?_) (fun e1 => ?_)
      · k_offL
        refine r_ixT (sqT_of ht1) (v := .int e) rfl ?_
        k_offL
        exact ans ⟨by omega, hj⟩ f1 _ (by rw [decide_eq_true_iff]; exact ⟨fun z => ⟨e1, z⟩, fun z => z.2⟩)
      · k_offL
        exact ans ⟨by omega, hj⟩ f1 _ ⟨fun z => (nomatch z), fun z => absurd z.1 e1⟩
end
def spLawAnswer : Sp := fun vs H Q _ => ∃ (size : Int) (a : Addr) (hs : List Int) (f : Int → Int) (h key : Int), vs = [.int size, .ref a, .int h, .int key] ∧ NxAt H a hs f ∧ h ∈ hs ∧ hs.length ≤ 60 ∧ 0 < size ∧ size < 2 ^ 40 ∧
  ∀ t H' j, Ans size f h (far size h key) j → H' t = some (.tup [.int (it f j h), .int (wl size f j h)]) → Fr [] H H' → Q (.ref t) H'
section
variable {P : Program} {w : World} {K : PySem.W.Frag} {mg : Str → Option Value} {base : Heap} {CNet CMender CDesk CStore CWalk : Addr}
abbrev s__law_answer : Stmt := top 45
theorem sc__law_answer : FnScope ["size", "nexts", "house", "key", "wanted", "at", "length", "k"] ["size", "nexts", "house", "key"] (defScope s__law_answer) := ⟨rfl, rfl, rfl, by decide +kernel, rfl, by decide +kernel, by decide +kernel⟩
theorem ok__law_answer {f : Addr} {fd : FuncData} (F : Fun K "_law_answer" "_law_answer" s__law_answer f fd) (G__law_far : GF P w K mg base "_law_far" 1 ["size", "start", "end"] spFar) (m_range : mg "range" = none) (m_len : mg "len" = none) : FnOk P w K mg base CX0 2 f fd ["size", "nexts", "house", "key"] spLawAnswer := by
  refine F.ok sc__law_answer (fun vs H Q E h => ?_) (fun cdv A outer s H vs Q E hr h => ?_)
  · obtain ⟨_, _, _, _, _, _, rfl, _⟩ := h; rfl
  · obtain ⟨size, a, hs, f, x, key, rfl, N, hx, hl, h0, h1, k⟩ := h
    refine ⟨_, (pss_cons (ps_set (i := 4) sc__law_answer.nd rfl (Or.inl rfl) (c_fn G__law_far (hr.mono (by decide)) (pa_cons (pv 0) (pa_cons (pv 2) (pa_cons (pv 3) pa_nil)))))
      (pss_cons (ps_set (i := 5) sc__law_answer.nd rfl (Or.inl rfl) (pe_dget (hu_of hr) (pv 1) (pv 2) (by intro _ _; rfl)))
      (pss_cons (ps_set (i := 6) sc__law_answer.nd rfl (Or.inl rfl) (c_fn G__law_far (hr.mono (by decide)) (pa_cons (pv 0) (pa_cons (pv 2) (pa_cons (pv 5) pa_nil)))))
      (pss_cons (ps_for PassesOwn.never rfl (pi_range1 (by rfl) m_range (pa_cons (pe_callB cb_lenD (by rfl) m_len b_len (pa_cons (pv 1) pa_nil)) pa_nil)) (pg_name (i := 7) sc__law_answer.nd rfl (Or.inl rfl))
      (pss_cons (ps_if (pt_cmpR op_ge (pv 6) (pv 4) (nomark _)) (pss_one ps_break) pss_nil)
      (pss_cons (ps_set (i := 6) sc__law_answer.nd rfl (Or.inl rfl) (pe_op op_add (pv 6) (c_fn G__law_far (hr.mono (by decide)) (pa_cons (pv 0) (pa_cons (pv 5) (pa_cons (pe_dget (hu_of hr) (pv 1) (pv 5) (by intro _ _; rfl)) pa_nil))))))
      (pss_one (ps_set (i := 5) sc__law_answer.nd rfl (Or.inl rfl) (pe_dget (hu_of hr) (pv 1) (pv 5) (by intro _ _; rfl)))))))
      (pss_one (ps_ret (pe_tup (pa_cons (pv 5) (pa_cons (pv 6) pa_nil))))))))), ?_⟩
    (try simp only [cxK, cxKX, List.map])
    refine ent (σ' := [some _, some _, some _, some _, none, none, none, none]) rfl ?_
    obtain ⟨kvs, rd, dk, hkl⟩ := N.ex
    k_offL
    refine i_far h0 ?_
    k_offL
    refine N.get hx ?_
    k_offL
    refine i_far h0 ?_
    k_offL
    refine r_lenD rd ?_
    rw [hkl]
    k_offL
    have w1 : wl size f 1 x = far size x (f x) := by show _ + 0 = _; omega
    refine loopR1 _ (by omega) (by omega) (fun i σ' H' => (∃ v, σ' = [some (.int size), some (.ref a), some (.int x), some (.int key), some (.int (far size x key)), some (.int (it f (i + 1) x)), some (.int (wl size f (i + 1) x)), v]) ∧ (∀ i', i' ≤ i → wl size f i' x < far size x key) ∧ Fr [] H H') ⟨⟨_, by rw [w1]; rfl⟩, fun i hi => by
        have := (far_pos (s := x) (e := key) h0).1
        rw [Nat.le_zero.mp hi]; exact this, Fr.refl _ _⟩ ?_ ?_
    · rintro i σ' H1 hi ⟨⟨v, rfl⟩, hj, f1⟩
      have N1 := N.ex0 f1
      have hm := it_mem (n := i + 1) N.cl hx
      k_offL
      refine ifD (fun e => ?_) (fun e => ?_)
      · k_offL
        refine tupk (by show 2 ≤ 100000; decide) fun t H3 n3 e3 f3 => ?_
        exact k t H3 (i + 1) ⟨by omega, fun i' hi' => hj i' (by omega)⟩ e3 (f1.trans f3)
      · k_offL
        refine N1.get hm ?_
        k_offL
        refine i_far h0 ?_
        k_offL
        refine N1.get hm ?_
        k_offL
        refine ⟨⟨_, by rw [it_succ (n := i + 1), wl_succ (n := i + 1)]⟩, fun i' hi' => ?_, f1⟩
        rcases Nat.lt_or_eq_of_le hi' with q | q
        · exact hj i' (by omega)
        · rw [q]; omega
    · rintro σ' H1 ⟨⟨v, rfl⟩, hj, f1⟩
      exfalso
      have a1 := hj hs.length (by omega)
      have a2 := wl_turn (n := hs.length) h0 N.cl hx (Nat.le_refl _)
      have a3 := (far_pos (s := x) (e := key) h0).2
      omega
end
def spLawQuestion : Sp := fun vs H Q _ => ∃ (tp tc lp : Addr) (size : Int) (ps : List Int), vs = [.ref tp, .int size, .ref lp] ∧ TapeAt H tp tc ∧ H lp = some (.lst (ps.map V.int)) ∧ lp ≠ tp ∧ 0 < ps.length ∧ ps.length ≤ 100 ∧ 0 < size ∧ size < 2 ^ 40 ∧
  ∀ t x key H', x ∈ ps → 0 ≤ key → key < size → H' t = some (.tup [.int x, .int key]) → TapeAt H' tp tc → Fr [tp] H H' → Q (.ref t) H'
theorem i_question {tp tc lp : Addr} {size : Int} {ps : List Int} {H : Hp} {Q : VK} {E : XK} (t : TapeAt H tp tc) (hp : H lp = some (.lst (ps.map V.int))) (hn : lp ≠ tp) (l0 : 0 < ps.length) (l1 : ps.length ≤ 100) (h0 : 0 < size) (h1 : size < 2 ^ 40)
    (q : ∀ t x key H', x ∈ ps → 0 ≤ key → key < size → H' t = some (.tup [.int x, .int key]) → TapeAt H' tp tc → Fr [tp] H H' → Q (.ref t) H') : spLawQuestion [.ref tp, .int size, .ref lp] H Q E := ⟨tp, tc, lp, size, ps, rfl, t, hp, hn, l0, l1, h0, h1, q⟩
section
variable {P : Program} {w : World} {K : PySem.W.Frag} {mg : Str → Option Value} {base : Heap} {CNet CMender CDesk CStore CWalk : Addr}
abbrev s__law_question : Stmt := top 46
theorem sc__law_question : FnScope ["tape", "size", "houses", "house", "near", "keys"] ["tape", "size", "houses"] (defScope s__law_question) := ⟨rfl, rfl, rfl, by decide +kernel, rfl, by decide +kernel, by decide +kernel⟩
theorem ok__law_question {f : Addr} {fd : FuncData} (F : Fun K "_law_question" "_law_question" s__law_question f fd) (G__law_pick : GF P w K mg base "_law_pick" 1 ["tape", "size"] spPick) (m_len : mg "len" = none) (m_int : mg "int" = none) : FnOk P w K mg base CX0 2 f fd ["tape", "size", "houses"] spLawQuestion := by
  refine F.ok sc__law_question (fun vs H Q E h => ?_) (fun cdv A outer s H vs Q E hr h => ?_)
  · obtain ⟨_, _, _, _, _, rfl, _⟩ := h; rfl
  · obtain ⟨tp, tc, lp, size, ps, rfl, t, hp, hne, l0, l1, h0, h1, k⟩ := h
    refine ⟨_, (pss_cons (ps_set (i := 3) sc__law_question.nd rfl (Or.inl rfl) (pe_ix (ix_listK (K := K) rfl) (pv 2) (c_fn G__law_pick (hr.mono (by decide)) (pa_cons (pv 0) (pa_cons (pe_callB (cb_lenSK (K := K) rfl) (by rfl) m_len b_len (pa_cons (pv 2) pa_nil)) pa_nil))) (by intro _ _; rfl)))
      (pss_cons (ps_set (i := 4) sc__law_question.nd rfl (Or.inl rfl) (pe_ix (ix_listK (K := K) rfl) (pv 2) (c_fn G__law_pick (hr.mono (by decide)) (pa_cons (pv 0) (pa_cons (pe_callB (cb_lenSK (K := K) rfl) (by rfl) m_len b_len (pa_cons (pv 2) pa_nil)) pa_nil))) (by intro _ _; rfl)))
      (pss_cons (ps_set (i := 5) sc__law_question.nd rfl (Or.inl rfl) (pe_lst (pa_cons (pv 3) (pa_cons (pv 4) (pa_cons (pe_op op_sub (pv 4) pe_int) (pa_cons (pe_op op_add (pv 4) pe_int) (pa_cons (c_fn G__law_pick (hr.mono (by decide)) (pa_cons (pv 0) (pa_cons (pv 1) pa_nil))) pa_nil)))))))
      (pss_one (ps_ret (pe_tup (pa_cons (pv 3) (pa_cons (pe_op op_mod (pe_callTy cb_int (by rfl) m_int b_int (pa_cons (pe_ix (ix_listK (K := K) rfl) (pv 5) (c_fn G__law_pick (hr.mono (by decide)) (pa_cons (pv 0) (pa_cons pe_int pa_nil))) (by intro _ _; rfl)) pa_nil)) (pv 1)) pa_nil)))))))), ?_⟩
    (try simp only [cxK, cxKX, List.map])
    refine ent (σ' := [some _, some _, some _, none, none, none]) rfl ?_
    k_offL
    refine r_lenL (sqL_of hp) ?_
    rw [List.length_map]
    k_offL
    refine i_pick t (by omega) (by omega) fun n1 H1 a1 b1 t1 f1 => ?_
    have hp1 : H1 lp = some (.lst (ps.map V.int)) := f1.at_ _ _ hp (mem_one hne)
    have g1 : n1.toNat < ps.length := by omega
    refine r_ixL (sqL_of hp1) (ix_at n1.toNat (by omega) (ints_get g1)) ?_
    k_offL
    refine r_lenL (sqL_of hp1) ?_
    rw [List.length_map]
    k_offL
    refine i_pick t1 (by omega) (by omega) fun n2 H2 a2 b2 t2 f2 => ?_
    have hp2 : H2 lp = some (.lst (ps.map V.int)) := f2.at_ _ _ hp1 (mem_one hne)
    have g2 : n2.toNat < ps.length := by omega
    refine r_ixL (sqL_of hp2) (ix_at n2.toNat (by omega) (ints_get g2)) ?_
    k_offL
    refine i_pick t2 (by omega) (by omega) fun n3 H3 a3 b3 t3 f3 => ?_
    k_offL
    refine lstk (by show 5 ≤ 100000; decide) fun kl H4 n4 e4 f4 => ?_
    obtain ⟨_, _, _, _, _, tt, tcs, _⟩ := t3.ex
    have t4 := t3.ex0 f4
    have hkt : kl ≠ tp := (ne_of_none tt n4).symm
    k_offL
    refine i_pick t4 (by decide) (by decide) fun n5 H5 a5 b5 t5 f5 => ?_
    have e5 : H5 kl = some (.lst ([ps[n1.toNat], ps[n2.toNat], ps[n2.toNat] - 1, ps[n2.toNat] + 1, n3].map V.int)) := f5.at_ _ _ e4 (mem_one hkt)
    have g5 : n5.toNat < [ps[n1.toNat], ps[n2.toNat], ps[n2.toNat] - 1, ps[n2.toNat] + 1, n3].length := by show _ < 5; omega
    refine r_ixL (sqL_of e5) (ix_at n5.toNat (by omega) (ints_get g5)) ?_
    k_offL
    refine tupk (by show 2 ≤ 100000; decide) fun t6 H6 n6 e6 f6 => ?_
    exact k t6 _ _ H6 (List.getElem_mem g1) (Int.emod_nonneg _ (by omega)) (Int.emod_lt_of_pos _ h0) e6 (t5.ex0 f6) ((((f1.trans f2).trans f3).trans f4.up).trans (f5.trans f6.up))
end
def spLawOrdered : Sp := fun vs H Q _ => ∃ (a : Addr) (N : NS) (kvs : List (Key × V)), vs = [.ref a] ∧ H a = some (.dK kvs) ∧ DOk kvs N.mf ∧ N.Ok ∧ ∀ l H', H l = none → H' l = some (.dK N.kn) → Fr [] H H' → Q (.ref l) H'
theorem kn_val (N : NS) (ks : List Int) (n : Int) (h : n ∉ ks) : valV (ks.map fun h => ((Sum.inl h : Key), V.int (N.f h))) (Sum.inl n) = none := by
  rw [valV_mapK (fun k => V.int (N.f k)), if_neg h]
section
variable {P : Program} {w : World} {K : PySem.W.Frag} {mg : Str → Option Value} {base : Heap} {CNet CMender CDesk CStore CWalk : Addr}
abbrev s__law_ordered : Stmt := top 48
theorem sc__law_ordered : FnScope ["table", "due", "key"] ["table"] (defScope s__law_ordered) := ⟨rfl, rfl, rfl, by decide +kernel, rfl, by decide +kernel, by decide +kernel⟩
theorem ok__law_ordered {f : Addr} {fd : FuncData} (F : Fun K "_law_ordered" "_law_ordered" s__law_ordered f fd) (m_sorted : mg "sorted" = none) : FnOk P w K mg base CX0 1 f fd ["table"] spLawOrdered := by
  refine F.ok sc__law_ordered (fun vs H Q E h => ?_) (fun cdv A outer s H vs Q E hr h => ?_)
  · obtain ⟨_, _, _, rfl, _⟩ := h; rfl
  · obtain ⟨a, N, kvs, rfl, ha, d, ok, k⟩ := h
    refine ⟨_, (pss_cons (ps_set (i := 1) sc__law_ordered.nd rfl (Or.inl rfl) pe_dnewK)
      (pss_cons (ps_for PassesOwn.never rfl (pi_listK (K := K) rfl (pe_callB (cb_sortD rfl) (by rfl) m_sorted b_sorted (pa_cons (pv 0) pa_nil))) (pg_name (i := 2) sc__law_ordered.nd rfl (Or.inl rfl))
      (pss_one (ps_dput (hu_of hr) (pv 1) (pv 2) (pe_dget (hu_of hr) (pv 0) (pv 2) (by intro _ _; rfl)) rfl)))
      (pss_one (ps_ret (pv 1))))), ?_⟩
    (try simp only [cxK, cxKX, List.map])
    refine ent (σ' := [some _, none, none]) rfl ?_
    have hl := ok.hl
    k_offL
    refine newk fun l H1 n1 e1 f1 => ?_
    have hal : a ≠ l := ne_of_none ha n1
    k_offL
    refine r_sortD (.inl (f1.at_ _ _ ha List.not_mem_nil)) d ok.ascF (by omega) fun l2 H2 n2 e2 f2 => ?_
    have e12 := f2.at_ _ _ e1 List.not_mem_nil
    have hl2 : l2 ≠ l := (ne_of_none e1 n2).symm
    refine loopLF (M := [l]) (N.hs.map V.int) (sqL_of e2) (mem_one hl2) (fun i σ' H' => (∃ v, σ' = [some (.ref a), some (.ref l), v]) ∧ H' l = some (.dK ((N.hs.take i).map fun h => (Sum.inl h, V.int (N.f h)))) ∧ Fr [l] H2 H') ⟨⟨_, rfl⟩, e12, Fr.refl _ _⟩ (fun i σ' H' z => z.2.2) ?_ ?_
    · rintro i x σ' H3 hi ⟨⟨v, rfl⟩, e3, f3⟩
      obtain ⟨n, hn, hm, rfl⟩ := mem_ints hi
      k_offL
      refine dgetk (.inl (f3.at_ _ _ ((f1.trans f2).at_ _ _ ha List.not_mem_nil) (mem_one hal))) (by rw [d.val, NS.mf_at hm]) ?_
      k_offL
      refine dputk e3 (by rw [List.length_map, List.length_take]; omega) fun H4 e4 f4 => ?_
      refine ⟨⟨_, rfl⟩, ?_, f3.trans f4⟩
      rw [e4, putK_new _ (kn_val N _ n fun hc => ?_), take_snoc hn, List.map_append]
      · rfl
      · obtain ⟨i', hi', e'⟩ := List.mem_iff_getElem.mp hc
        rw [List.length_take] at hi'
        rw [List.getElem_take] at e'
        have : i' = i := nd_ix ok.nd (by rw [List.getElem?_eq_getElem (by omega), e']) hn
        omega
    · rintro σ' H3 ⟨⟨v, rfl⟩, e3, f3⟩
      rw [List.length_map, List.take_length] at e3
      k_offL
      exact k l H3 n1 e3 ((f1.trans f2).drop f3 n1)
end
end RL
set_option synthInstance.maxHeartbeats 4000000
set_option synthInstance.maxSize 4000
namespace RL
theorem pl2 {hs : List Int} {a b : Int} (ha : a ∈ hs) (hb : b ∈ hs) : ∀ y ∈ [a, b], y ∈ hs := fun y hy => by
  rcases List.mem_cons.mp hy with e | e
  · exact e ▸ ha
  · exact List.mem_singleton.mp e ▸ hb
theorem pl3 {hs : List Int} {a b c : Int} (ha : a ∈ hs) (hb : b ∈ hs) (hc : c ∈ hs) : ∀ y ∈ [a, b, c], y ∈ hs := fun y hy => by
  rcases List.mem_cons.mp hy with e | e
  · exact e ▸ ha
  · exact pl2 hb hc y e
section
variable {N N' N'' : NS} {l : LT} {u v x h : Int} {i : Nat}
theorem NS.Ok.push (ok : N.Ok) (h : ∀ x ∈ l.pl, x ∈ N.hs) (hl : N.post.length < 1000) : (N.push l).Ok :=
  ⟨ok.s0, ok.s1, ok.up, ok.on, ok.fh, ok.bh, fun m hm x hx => by
    rcases List.mem_append.mp hm with q | q
    · exact ok.ph m q x hx
    · rw [List.mem_singleton.mp q] at hx; exact h x hx, ok.hl, by show (N.post ++ [l]).length ≤ 1000; rw [List.length_append]; show _ + 1 ≤ _; omega⟩
theorem NS.Ok.setF (ok : N.Ok) (hu : u ∈ N.hs) (hx : x ∈ N.hs) : (N.setF u x).Ok :=
  ⟨ok.s0, ok.s1, ok.up, ok.on, fun h hh => by
    show (if h = u then x else N.f h) ∈ N.hs
    split
    · exact hx
    · exact ok.fh h hh, ok.bh, ok.ph, ok.hl, ok.pl⟩
theorem NS.Ok.setB (ok : N.Ok) (hu : u ∈ N.hs) (hx : x ∈ N.hs) : (N.setB u (some x)).Ok :=
  ⟨ok.s0, ok.s1, ok.up, ok.on, ok.fh, fun h y e => by
    have e' : (if h = u then some x else N.b h) = some y := e
    by_cases q : h = u
    · rw [if_pos q] at e'; cases e'; exact ⟨q ▸ hu, hx⟩
    · rw [if_neg q] at e'; exact ok.bh h y e', ok.ph, ok.hl, ok.pl⟩
theorem NS.Ok.readL (ok : N.Ok) (h : ∀ x ∈ l.pl, x ∈ N.hs) (hl : N.post.length < 1000) : (N.readL l).1.Ok := by
  cases l with
  | tell v u =>
    have hv := h v (by simp [LT.pl])
    have hu := h u (by simp [LT.pl])
    simp only [NS.readL]
    split
    · exact ok.setB hv hu
    · split
      · exact ok.setB hv hu
      · exact ok
  | ask v u =>
    have hv := h v (by simp [LT.pl])
    have hu := h u (by simp [LT.pl])
    simp only [NS.readL]
    split
    · exact ok
    · rename_i x e
      exact ok.push (pl3 hu hv (ok.bh v x e).2) hl
  | ans u v x =>
    have hu := h u (by simp [LT.pl])
    have hx := h x (by simp [LT.pl])
    simp only [NS.readL]
    split
    · exact ok.setF hu hx
    · exact ok
theorem readL_hs (N : NS) (l : LT) : (N.readL l).1.hs = N.hs ∧ (N.readL l).1.size = N.size := by
  cases l with
  | tell v u => simp only [NS.readL]; split <;> (try split) <;> exact ⟨rfl, rfl⟩
  | ask v u => simp only [NS.readL]; split <;> exact ⟨rfl, rfl⟩
  | ans u v x => simp only [NS.readL]; split <;> exact ⟨rfl, rfl⟩
theorem readL_len (N : NS) (l : LT) : (N.readL l).1.post.length ≤ N.post.length + 1 := by
  have e (m : LT) : (N.push m).post.length = N.post.length + 1 := by show (N.post ++ [m]).length = _; rw [List.length_append]; rfl
  cases l with
  | tell v u => simp only [NS.readL]; split <;> (try split) <;> exact Nat.le_succ _
  | ask v u =>
    simp only [NS.readL]; split
    · exact Nat.le_succ _
    · rw [e]; exact Nat.le_refl _
  | ans u v x => simp only [NS.readL]; split <;> exact Nat.le_succ _
theorem readL_vs (N : NS) (l : LT) : (N.readL l).2.length = 3 := by
  cases l with
  | tell v u => simp only [NS.readL]; split <;> (try split) <;> rfl
  | ask v u => simp only [NS.readL]; split <;> rfl
  | ans u v x => simp only [NS.readL]; split <;> rfl
theorem lt_len (l : LT) : l.vs.length ≤ 4 := by cases l <;> simp [LT.vs]
inductive Small : NS → NS → Prop where
  | tell (N : NS) (h : Int) (m : h ∈ N.hs) (q : N.post.length < 1000) : Small N (N.push (.tell (N.f h) h))
  | ask (N : NS) (h : Int) (m : h ∈ N.hs) (q : N.post.length < 1000) : Small N (N.push (.ask (N.f h) h))
  | dup (N : NS) (l : LT) (m : l ∈ N.post) (q : N.post.length < 1000) : Small N (N.push l)
  | del (N : NS) (i : Nat) : Small N (N.del i)
  | read (N : NS) (i : Nat) (l : LT) (m : N.post[i]? = some l) : Small N (N.read i l).1
inductive Steps : NS → NS → Prop where
  | refl (N : NS) : Steps N N
  | more {N N' N'' : NS} (a : Steps N N') (b : Small N' N'') : Steps N N''
theorem Steps.one (a : Small N N') : Steps N N' := .more (.refl N) a
theorem Steps.trans (a : Steps N N') (b : Steps N' N'') : Steps N N'' := by
  induction b with
  | refl => exact a
  | more _ c ih => exact .more ih c
theorem del_len (h : N.post[i]? = some l) : (N.del i).post.length + 1 = N.post.length := by
  have := (List.getElem?_eq_some_iff.mp h).1
  show (N.post.eraseIdx i).length + 1 = _
  rw [List.length_eraseIdx_of_lt this]
  omega
theorem read_len (h : N.post[i]? = some l) : (N.read i l).1.post.length ≤ N.post.length := by
  have := del_len h
  have := readL_len (N.del i) l
  show ((N.del i).readL l).1.post.length ≤ _
  omega
theorem Small.ok (s : Small N N') (ok : N.Ok) : N'.Ok := by
  cases s with
  | tell h m q => exact ok.push (pl2 (ok.fh h m) m) q
  | ask h m q => exact ok.push (pl2 (ok.fh h m) m) q
  | dup l m q => exact ok.push (ok.ph l m) q
  | del i => exact ok.del i
  | read i l m => exact (ok.del i).readL (ok.ph l (List.mem_of_getElem? m)) (by have := del_len m; have := ok.pl; omega)
theorem Small.same (s : Small N N') : N'.hs = N.hs ∧ N'.size = N.size := by
  cases s with
  | tell h m q => exact ⟨rfl, rfl⟩
  | ask h m q => exact ⟨rfl, rfl⟩
  | dup l m q => exact ⟨rfl, rfl⟩
  | del i => exact ⟨rfl, rfl⟩
  | read i l m => exact readL_hs (N.del i) l
theorem Steps.ok (s : Steps N N') (ok : N.Ok) : N'.Ok := by
  induction s with
  | refl => exact ok
  | more _ c ih => exact c.ok ih
theorem Steps.same (s : Steps N N') : N'.hs = N.hs ∧ N'.size = N.size := by
  induction s with
  | refl => exact ⟨rfl, rfl⟩
  | more _ c ih => exact ⟨c.same.1.trans ih.1, c.same.2.trans ih.2⟩
end
structure Ads where
  (p da db dl dn dk dp tp tc : Addr)
def Ads.all (A : Ads) : List Addr := [A.da, A.db, A.dl, A.dn, A.dk, A.dp, A.tp]
structure WW (C : Addr) (H : Hp) (A : Ads) (N M : NS) : Prop where
  net : NetAt C H A.p A.da A.db A.dl N
  tab : TabAt H A.dn A.dk A.dp M
  tape : TapeAt H A.tp A.tc
  nd : [A.p, A.da, A.db, A.dl, A.dn, A.dk, A.dp, A.tp, A.tc].Nodup
section
variable {C : Addr} {H H' H1 H2 : Hp} {A : Ads} {N M N' : NS} {l : LT} {t : Addr}
theorem WW.net' (w : WW C H A N M) (f : Fr [A.da, A.db, A.dl] H H') (h : NetAt C H' A.p A.da A.db A.dl N') : WW C H' A N' M := by
  have nd := w.nd
  simp only [List.nodup_cons, List.mem_cons, List.not_mem_nil, or_false, not_or] at nd
  obtain ⟨_, ⟨a1, a2, a3, a4, a5, a6, a7⟩, ⟨b1, b2, b3, b4, b5, b6⟩, ⟨c1, c2, c3, c4, c5⟩, _⟩ := nd
  exact ⟨h, w.tab.fr f (by simp [Ne.symm a3, Ne.symm b2, Ne.symm c1]) (by simp [Ne.symm a4, Ne.symm b3, Ne.symm c2]) (by simp [Ne.symm a5, Ne.symm b4, Ne.symm c3]), w.tape.fr f (by simp [Ne.symm a6, Ne.symm b5, Ne.symm c4]) (by simp [Ne.symm a7, Ne.symm b6, Ne.symm c5]), w.nd⟩
theorem WW.tab' (w : WW C H A N M) (f : Fr [A.dn, A.dk, A.dp] H H') (h : TabAt H' A.dn A.dk A.dp N') : WW C H' A N N' := by
  have nd := w.nd
  simp only [List.nodup_cons, List.mem_cons, List.not_mem_nil, or_false, not_or] at nd
  obtain ⟨⟨_, _, _, p4, p5, p6, _, _⟩, ⟨_, _, a3, a4, a5, _, _⟩, ⟨_, b2, b3, b4, _, _⟩, ⟨c1, c2, c3, _, _⟩, ⟨_, _, d3, d4⟩, ⟨_, e2, e3⟩, ⟨g1, g2⟩, _⟩ := nd
  exact ⟨w.net.fr f (by simp [p4, p5, p6]) (by simp [a3, a4, a5]) (by simp [b2, b3, b4]) (by simp [c1, c2, c3]), h, w.tape.fr f (by simp [Ne.symm d3, Ne.symm e2, Ne.symm g1]) (by simp [Ne.symm d4, Ne.symm e3, Ne.symm g2]), w.nd⟩
theorem WW.tape' (w : WW C H A N M) (f : Fr [A.tp] H H') (h : TapeAt H' A.tp A.tc) : WW C H' A N M := by
  have nd := w.nd
  simp only [List.nodup_cons, List.mem_cons, List.not_mem_nil, or_false, not_or] at nd
  obtain ⟨⟨_, _, _, _, _, _, p7, _⟩, ⟨_, _, _, _, _, a6, _⟩, ⟨_, _, _, _, b5, _⟩, ⟨_, _, _, c4, _⟩, ⟨_, _, d3, _⟩, ⟨_, e2, _⟩, ⟨g1, _⟩, _⟩ := nd
  exact ⟨w.net.fr f (by simp [p7]) (by simp [a6]) (by simp [b5]) (by simp [c4]), w.tab.fr f (by simp [d3]) (by simp [e2]) (by simp [g1]), h, w.nd⟩
theorem WW.ex0 (w : WW C H A N M) (f : Fr [] H H') : WW C H' A N M := ⟨w.net.ex f, w.tab.ex f, w.tape.ex0 f, w.nd⟩
theorem Fr.net (f : Fr [A.da, A.db, A.dl] H H') : Fr A.all H H' := f.mono fun a h => by simp at h; simp only [Ads.all, List.mem_cons]; rcases h with h | h | h <;> simp [h]
theorem Fr.tab (f : Fr [A.dn, A.dk, A.dp] H H') : Fr A.all H H' := f.mono fun a h => by simp at h; simp only [Ads.all, List.mem_cons]; rcases h with h | h | h <;> simp [h]
theorem Fr.tape (f : Fr [A.tp] H H') : Fr A.all H H' := f.mono fun a h => by simp at h; simp only [Ads.all, List.mem_cons]; simp [h]
theorem Fr.dl (f : Fr [A.dl] H H') : Fr [A.da, A.db, A.dl] H H' := f.mono fun a h => by simp at h; simp [h]
theorem Fr.dp (f : Fr [A.dp] H H') : Fr [A.dn, A.dk, A.dp] H H' := f.mono fun a h => by simp at h; simp [h]
theorem WW.ne (w : WW C H A N M) : A.dn ≠ A.dp ∧ A.dk ≠ A.dp ∧ A.dn ≠ A.tp ∧ A.dk ≠ A.tp ∧ A.dp ≠ A.tp := by
  have nd := w.nd
  simp only [List.nodup_cons, List.mem_cons, List.not_mem_nil, or_false, not_or] at nd
  obtain ⟨_, _, _, _, ⟨_, d2, d3, _⟩, ⟨e1, e2, _⟩, ⟨g1, _⟩, _⟩ := nd
  exact ⟨d2, e1, d3, e2, g1⟩
theorem TabAt.push {dn dk dp : Addr} {lv : List V} (T : TabAt H dn dk dp N) (hl : H dp = some (.lst lv)) (f1 : Fr [] H H1) (ht : H1 t = some (.tup l.vs)) (e2 : H2 dp = some (.lst (lv ++ [.ref t]))) (f2 : Fr [dp] H1 H2) (n1 : dn ≠ dp) (n2 : dk ≠ dp) : TabAt H2 dn dk dp (N.push l) := by
  obtain ⟨⟨kn, hn, dN⟩, ⟨kb, hb, dB⟩, ⟨lv', hl', ls⟩, ne⟩ := T
  rw [hl] at hl'
  cases hl'
  exact ⟨⟨kn, f2.at_ _ _ (f1.at_ _ _ hn List.not_mem_nil) (mem_one n1), dN⟩, ⟨kb, f2.at_ _ _ (f1.at_ _ _ hb List.not_mem_nil) (mem_one n2), dB⟩, ⟨_, e2, (ls.fr (f1.up.trans f2)).snoc (f2.tp _ _ ht)⟩, ne⟩
theorem TabAt.pop {dn dk dp : Addr} {lv : List V} {i : Nat} (T : TabAt H dn dk dp N) (hl : H dp = some (.lst lv)) (e2 : H2 dp = some (.lst (lv.eraseIdx i))) (f2 : Fr [dp] H H2) (n1 : dn ≠ dp) (n2 : dk ≠ dp) : TabAt H2 dn dk dp (N.del i) := by
  obtain ⟨⟨kn, hn, dN⟩, ⟨kb, hb, dB⟩, ⟨lv', hl', ls⟩, ne⟩ := T
  rw [hl] at hl'
  cases hl'
  exact ⟨⟨kn, f2.at_ _ _ hn (mem_one n1), dN⟩, ⟨kb, f2.at_ _ _ hb (mem_one n2), dB⟩, ⟨_, e2, (ls.fr f2).erase i⟩, ne⟩
end
theorem i_same {H : Hp} {Q : VK} {E : XK} {a b : V} {n : Nat} (d : D) (ha : Rep H d a) (hb : Rep H d b) (fit : Fits n d) (q : ∀ H', Fr [] H H' → Q (.bl true) H') : spSame (n + 1) [a, b] H Q E := ⟨a, b, d, rfl, ha, hb, fit, q⟩
theorem i_sameT {H : Hp} {Q : VK} {E : XK} {t1 t2 : Addr} {vs : List V} (ha : H t1 = some (.tup vs)) (hb : H t2 = some (.tup vs)) (fl : vs.all flatR = true) (hl : vs.length ≤ 100000) (q : ∀ H', Fr [] H H' → Q (.bl true) H') : spSame 4 [.ref t1, .ref t2] H Q E :=
  i_same (flatD vs) (Rep.flat ha fl) (Rep.flat hb fl) ((Fits.flat hl).up (by decide)) q
def spStands (C : Addr) : Sp := fun vs H Q _ => ∃ (p da db dl dn dk dp : Addr), ∃ N : NS, vs = [.ref p, .int N.size, .ref dn, .ref dk, .ref dp] ∧ NetAt C H p da db dl N ∧ TabAt H dn dk dp N ∧ N.Ok ∧ ∀ H', Fr [] H H' → Q (.bl true) H'
theorem snap_fits {N : NS} (ok : N.Ok) : Fits 3 N.snap := by
  have hl := ok.hl
  have pl := ok.pl
  refine .tup (fun d hd => ?_) (show 3 ≤ 100000 by decide)
  simp at hd
  rcases hd with e | e | e
  · subst e; exact .int
  · subst e
    refine .tup (fun d hd => ?_) (by unfold NS.rows; rw [List.length_map]; omega)
    obtain ⟨h, _, e⟩ := List.mem_map.mp hd
    subst e
    refine .tup (fun d hd => ?_) (show 3 ≤ 100000 by decide)
    simp at hd
    rcases hd with e | e | e
    · subst e; exact .int
    · subst e; exact .int
    · subst e; cases N.b h <;> constructor
  · subst e
    refine .tup (fun d hd => ?_) (by rw [List.length_map]; omega)
    obtain ⟨l, _, e⟩ := List.mem_map.mp hd
    subst e
    cases l with
    | tell r s => exact .tup (fun d hd => by simp at hd; rcases hd with e | e | e <;> (subst e; constructor)) (by simp)
    | ask r s => exact .tup (fun d hd => by simp at hd; rcases hd with e | e | e <;> (subst e; constructor)) (by simp)
    | ans r s n => exact .tup (fun d hd => by simp at hd; rcases hd with e | e | e | e <;> (subst e; constructor)) (by simp)
section
variable {P : Program} {w : World} {K : PySem.W.Frag} {mg : Str → Option Value} {base : Heap} {CNet CMender CDesk CStore CWalk : Addr}
abbrev s__law_stands : Stmt := top 41
theorem sc__law_stands : FnScope ["net", "size", "nexts", "behinds", "post", "rows", "house"] ["net", "size", "nexts", "behinds", "post"] (defScope s__law_stands) := ⟨rfl, rfl, rfl, by decide +kernel, rfl, by decide +kernel, by decide +kernel⟩
theorem ok__law_stands {f : Addr} {fd : FuncData} (F : Fun K "_law_stands" "_law_stands" s__law_stands f fd) (m_sorted : mg "sorted" = none) (G__law_same : GF P w K mg base "_law_same" 5 ["actual", "due"] (spSame 4)) (m_tuple : mg "tuple" = none) (G_Net_snapshot : GM P w K mg base CNet "snapshot" 1 ["self"] (spSnapshot CNet)) (T : NetT K CNet) : FnOk P w K mg base CX0 6 f fd ["net", "size", "nexts", "behinds", "post"] (spStands CNet) := by
  refine F.ok sc__law_stands (fun vs H Q E h => ?_) (fun cdv A outer s H vs Q E hr h => ?_)
  · obtain ⟨_, _, _, _, _, _, _, _, rfl, _⟩ := h; rfl
  · obtain ⟨p, da, db, dl, dn, dk, dp, N, rfl, hN, hT, ok, k⟩ := h
    refine ⟨_, (pss_cons (ps_setLc (i := 5) (own := [("house", 6)]) (g := gName 6) rfl sc__law_stands.nd rfl rfl (sw_true rfl rfl rfl (by decide +kernel)) (pi_listK (K := K) rfl (pe_callB (cb_sortD rfl) (by rfl) m_sorted b_sorted (pa_cons (pv 2) pa_nil))) (blkOk_by (N := ["net", "size", "nexts", "behinds", "post", "rows", "house"]) (sc := defScope s__law_stands) (by decide +kernel)) (fun _ _ _ _ _ => (pg_name (i := 6) sc__law_stands.nd rfl (Or.inl rfl))) (fun _ _ _ _ _ => pts_nil) (fun _ _ _ _ _ => (pe_tup (pa_cons (pv 6) (pa_cons (pe_dget (hu_of hr) (pv 2) (pv 6) (by intro _ _; rfl)) (pa_cons (pe_dget1 (hu_of hr) (pv 3) (pv 6) ⟨by rfl, by rfl, by rfl, by rfl⟩) pa_nil))))))
      (pss_one (ps_ret (c_fn G__law_same (hr.mono (by decide)) (pa_cons (c_mt0 G_Net_snapshot (hr.mono (by decide)) (pv 0)) (pa_cons (pe_tup (pa_cons (pv 1) (pa_cons (pe_callTy (cb_tupOfK (K := K) rfl) (by rfl) m_tuple b_tuple (pa_cons (pv 5) pa_nil)) (pa_cons (pe_callTy (cb_tupOfK (K := K) rfl) (by rfl) m_tuple b_tuple (pa_cons (pv 4) pa_nil)) pa_nil)))) pa_nil)))))), ?_⟩
    (try simp only [cxK, cxKX, List.map])
    refine ent (σ' := [some _, some _, some _, some _, some _, none, none]) rfl ?_
    obtain ⟨⟨dx, hp⟩, _⟩ := id hN
    obtain ⟨⟨kn, hn, dN⟩, ⟨kb, hb, dB⟩, ⟨lv, hl, ls⟩, ne⟩ := id hT
    have hlen := ok.hl
    k_offL
    refine r_sortD (.inl hn) dN ok.ascF (by omega) fun l1 H1 n1 e1 f1 => ?_
    refine walkL (sqL_of e1) ?_
    refine lcP (walk_list (xs := N.hs.map V.int)) (N.hs.map V.int) rfl (fun i H0 x H' _ y => yAt y) (fun _ => true) (RowIs N) (fun M x y H1 H2 ⟨h, t, a, b, c⟩ f => ⟨h, t, a, b, f.tp _ _ c⟩) (fun H' f => f.sqL (sqL_of e1) (fun z => nomatch z)) (by rw [List.length_map]; omega) (fun x H' hm f => ?_) fun q H2 ys n2 e2 hl2 hy f2 => ?_
    · obtain ⟨h, hh, rfl⟩ := mem_intsM hm
      refine sk6 ⟨fun R kR => kR H' (Fr.refl _ _), fun _ H3 f3 R kR => ?_⟩
      k_offL
      refine dgetk (kvs := kn) (.inl (by k_clsL)) (by rw [dN.val, NS.mf_at hh]) ?_
      k_offL
      refine dg1a (kvs := kb) (.inl (by k_clsL)) ?_
      k_offL
      refine dg1b (kvs := kb) (.inl (by k_clsL)) ?_
      k_offL
      refine tupk (by show 3 ≤ 100000; decide) fun t H4 n4 e4 f4 => ?_
      refine kR _ _ f4 ⟨h, t, rfl, rfl, ?_⟩
      rw [e4, dB.val]
      unfold NS.lb
      cases N.b h <;> rfl
    · rw [List.filter_eq_self.mpr fun _ _ => rfl] at hl2 hy
      have rr := rows_rep hl2 hy
      have f12 := f1.trans f2
      have hN2 := hN.ex f12
      have ls2 := ls.fr f12
      have hl3 := f12.at_ _ _ hl List.not_mem_nil
      k_offL
      refine ⟨p, da, db, dl, N, rfl, hN2, ok, fun t H3 r3 f3 => ?_⟩
      k_offL
      refine r_tupL (sqL_of (f3.at_ _ _ e2 List.not_mem_nil)) fun t4 H4 n4 e4 f4 => ?_
      k_offL
      refine r_tupL (sqL_of (f4.at_ _ _ (f3.at_ _ _ hl3 List.not_mem_nil) List.not_mem_nil)) fun t5 H5 n5 e5 f5 => ?_
      k_offL
      refine tupk (by show 3 ≤ 100000; decide) fun t6 H6 n6 e6 f6 => ?_
      k_offL
      have f46 := (f4.trans f5).trans f6
      refine i_same N.snap (Rep.fr0 f46 _ _ r3) ⟨t6, _, rfl, e6, _, _, rfl, rfl, _, _, rfl, ?_, _, _, rfl, ?_, rfl⟩ (snap_fits ok) fun H7 f7 => k H7 ((f12.trans f3).trans (f46.trans f7))
      · exact ⟨t4, _, rfl, (f5.trans f6).tp _ _ e4, RepL.fr0 (f3.trans f46) _ _ rr⟩
      · exact ⟨t5, _, rfl, f6.tp _ _ e5, ((ls2.fr f3).fr f46).rep⟩
end
end RL
set_option synthInstance.maxHeartbeats 4000000
set_option synthInstance.maxSize 4000
namespace RL
def lawArgs (A : Ads) (N : NS) : List V := [.ref A.tp, .ref A.p, .int N.size, .ref A.dn, .ref A.dk, .ref A.dp]
theorem WW.off {C : Addr} {H : Hp} {A : Ads} {N M : NS} (w : WW C H A N M) : A.dn ∉ [A.da, A.db, A.dl] ∧ A.dk ∉ [A.da, A.db, A.dl] ∧ A.dp ∉ [A.da, A.db, A.dl] := by
  have nd := w.nd
  simp only [List.nodup_cons, List.mem_cons, List.not_mem_nil, or_false, not_or] at nd
  obtain ⟨_, ⟨_, _, a3, a4, a5, _⟩, ⟨_, b2, b3, b4, _⟩, ⟨c1, c2, c3, _⟩, _⟩ := nd
  exact ⟨by simp [Ne.symm a3, Ne.symm b2, Ne.symm c1], by simp [Ne.symm a4, Ne.symm b3, Ne.symm c2], by simp [Ne.symm a5, Ne.symm b4, Ne.symm c3]⟩
def spDeed (C : Addr) : Sp := fun vs H Q _ => ∃ (A : Ads) (N : NS) (_ _ : Unit), vs = lawArgs A N ∧ WW C H A N N ∧ N.Ok ∧ 0 < N.hs.length ∧ N.post.length ≤ 60 ∧ ∀ N' H', Steps N N' → N'.post.length ≤ 60 → WW C H' A N' N' → Fr A.all H H' → Q (.bl true) H'
theorem push_len {N : NS} {l : LT} : (N.push l).post.length = N.post.length + 1 := by show (N.post ++ [l]).length = _; rw [List.length_append]; rfl
section
variable {P : Program} {w : World} {K : PySem.W.Frag} {mg : Str → Option Value} {base : Heap} {CNet CMender CDesk CStore CWalk : Addr}
abbrev s__law_deed : Stmt := top 40
theorem sc__law_deed : FnScope ["tape", "net", "size", "nexts", "behinds", "post", "houses", "house", "kind", "at"] ["tape", "net", "size", "nexts", "behinds", "post"] (defScope s__law_deed) := ⟨rfl, rfl, rfl, by decide +kernel, rfl, by decide +kernel, by decide +kernel⟩
theorem ok__law_deed {f : Addr} {fd : FuncData} (F : Fun K "_law_deed" "_law_deed" s__law_deed f fd) (m_sorted : mg "sorted" = none) (G__law_pick : GF P w K mg base "_law_pick" 1 ["tape", "size"] spPick) (m_len : mg "len" = none) (G__law_same : GF P w K mg base "_law_same" 5 ["actual", "due"] (spSame 4)) (G_Net_lose : GM P w K mg base CNet "lose" 2 ["self", "at"] (spLose CNet)) (G_Net_repeat : GM P w K mg base CNet "repeat" 2 ["self", "at"] (spRepeat CNet)) (G__law_read : GF P w K mg base "_law_read" 3 ["size", "nexts", "behinds", "post", "at"] spLawRead) (G_Net_read : GM P w K mg base CNet "read" 4 ["self", "at"] (spRead CNet)) (m_int : mg "int" = none) (G_Net_tell : GM P w K mg base CNet "tell" 3 ["self", "house"] (spTell CNet)) (G_Net_ask : GM P w K mg base CNet "ask" 3 ["self", "house"] (spAsk CNet)) (T : NetT K CNet) : FnOk P w K mg base CX0 6 f fd ["tape", "net", "size", "nexts", "behinds", "post"] (spDeed CNet) := by
  refine F.ok sc__law_deed (fun vs H Q E h => ?_) (fun cdv A outer s H vs Q E hr h => ?_)
  · obtain ⟨_, _, _, _, rfl, _⟩ := h; rfl
  · obtain ⟨A, N, _, _, rfl, W, ok, hpos, hpl, k⟩ := h
    unfold lawArgs
    refine ⟨_, (pss_cons (ps_set (i := 6) sc__law_deed.nd rfl (Or.inl rfl) (pe_callB (cb_sortD rfl) (by rfl) m_sorted b_sorted (pa_cons (pv 3) pa_nil)))
      (pss_cons (ps_set (i := 7) sc__law_deed.nd rfl (Or.inl rfl) (pe_ix (ix_listK (K := K) rfl) (pv 6) (c_fn G__law_pick (hr.mono (by decide)) (pa_cons (pv 0) (pa_cons (pe_callB (cb_lenSK (K := K) rfl) (by rfl) m_len b_len (pa_cons (pv 6) pa_nil)) pa_nil))) (by intro _ _; rfl)))
      (pss_cons (ps_set (i := 8) sc__law_deed.nd rfl (Or.inl rfl) (c_fn G__law_pick (hr.mono (by decide)) (pa_cons (pv 0) (pa_cons pe_int pa_nil))))
      (pss_cons (ps_if (PW.pt (pw_or (pt_cmpR op_ge (pe_callB (cb_lenSK (K := K) rfl) (by rfl) m_len b_len (pa_cons (pv 5) pa_nil)) pe_int (nomark _)) (pw_or1 (PW.pt (pw_and (pt_cmpR op_ge (pv 8) pe_int (nomark _)) (pw_and1 (pt_cmpR op_gt (pe_callB (cb_lenSK (K := K) rfl) (by rfl) m_len b_len (pa_cons (pv 5) pa_nil)) pe_int (nomark _)))))))) (pss_cons (ps_set (i := 9) sc__law_deed.nd rfl (Or.inl rfl) (c_fn G__law_pick (hr.mono (by decide)) (pa_cons (pv 0) (pa_cons (pe_callB (cb_lenSK (K := K) rfl) (by rfl) m_len b_len (pa_cons (pv 5) pa_nil)) pa_nil))))
      (pss_cons (ps_if (pt_cmpR op_eq (pv 8) pe_int (nomark _)) (pss_one (ps_ret (c_fn G__law_same (hr.mono (by decide)) (pa_cons (c_mt G_Net_lose (hr.mono (by decide)) (pv 1) (pa_cons (pv 9) pa_nil)) (pa_cons (pe_bmK (K := K) rfl PySem.F.plainAttrs_list PySem.F.slot_list_pop PySem.F.type_list_pop mt_popAt (pv 5) (pa_cons (pv 9) pa_nil)) pa_nil))))) pss_nil)
      (pss_cons (ps_if (PW.pt (pw_and (pt_cmpR op_eq (pv 8) pe_int (nomark _)) (pw_and1 (pt_cmpR op_lt (pe_callB (cb_lenSK (K := K) rfl) (by rfl) m_len b_len (pa_cons (pv 5) pa_nil)) pe_int (nomark _))))) (pss_cons (ps_expr (pe_bmK (K := K) rfl PySem.F.plainAttrs_list PySem.F.slot_list_append PySem.F.type_list_append mt_append (pv 5) (pa_cons (pe_ix (ix_listK (K := K) rfl) (pv 5) (pv 9) (by intro _ _; rfl)) pa_nil)))
      (pss_one (ps_ret (c_fn G__law_same (hr.mono (by decide)) (pa_cons (c_mt G_Net_repeat (hr.mono (by decide)) (pv 1) (pa_cons (pv 9) pa_nil)) (pa_cons (pe_ix (ix_listK (K := K) rfl) (pv 5) (pv 9) (by intro _ _; rfl)) pa_nil)))))) pss_nil)
      (pss_one (ps_ret (c_fn G__law_same (hr.mono (by decide)) (pa_cons (c_mt G_Net_read (hr.mono (by decide)) (pv 1) (pa_cons (pv 9) pa_nil)) (pa_cons (c_fn G__law_read (hr.mono (by decide)) (pa_cons (pv 2) (pa_cons (pv 3) (pa_cons (pv 4) (pa_cons (pv 5) (pa_cons (pv 9) pa_nil)))))) pa_nil)))))))) pss_nil)
      (pss_cons (ps_if (pt_cmpR op_eq (pe_op op_mod (pe_callTy cb_int (by rfl) m_int b_int (pa_cons (pv 8) pa_nil)) pe_int) pe_int (nomark _)) (pss_cons (ps_expr (pe_bmK (K := K) rfl PySem.F.plainAttrs_list PySem.F.slot_list_append PySem.F.type_list_append mt_append (pv 5) (pa_cons (pe_tup (pa_cons pe_str (pa_cons (pe_dget (hu_of hr) (pv 3) (pv 7) (by intro _ _; rfl)) (pa_cons (pv 7) pa_nil)))) pa_nil)))
      (pss_one (ps_ret (c_fn G__law_same (hr.mono (by decide)) (pa_cons (c_mt G_Net_tell (hr.mono (by decide)) (pv 1) (pa_cons (pv 7) pa_nil)) (pa_cons (pe_tup (pa_cons pe_str (pa_cons (pe_dget (hu_of hr) (pv 3) (pv 7) (by intro _ _; rfl)) (pa_cons (pv 7) pa_nil)))) pa_nil)))))) pss_nil)
      (pss_cons (ps_expr (pe_bmK (K := K) rfl PySem.F.plainAttrs_list PySem.F.slot_list_append PySem.F.type_list_append mt_append (pv 5) (pa_cons (pe_tup (pa_cons pe_str (pa_cons (pe_dget (hu_of hr) (pv 3) (pv 7) (by intro _ _; rfl)) (pa_cons (pv 7) pa_nil)))) pa_nil)))
      (pss_one (ps_ret (c_fn G__law_same (hr.mono (by decide)) (pa_cons (c_mt G_Net_ask (hr.mono (by decide)) (pv 1) (pa_cons (pv 7) pa_nil)) (pa_cons (pe_tup (pa_cons pe_str (pa_cons (pe_dget (hu_of hr) (pv 3) (pv 7) (by intro _ _; rfl)) (pa_cons (pv 7) pa_nil)))) pa_nil))))))))))), ?_⟩
    (try simp only [cxK, cxKX, List.map])
    refine ent (σ' := [some _, some _, some _, some _, some _, some _, none, none, none, none]) rfl ?_
    obtain ⟨dn_dp, dk_dp, dn_tp, dk_tp, dp_tp⟩ := W.ne
    obtain ⟨kn, hn, dN⟩ := W.tab.nx
    obtain ⟨kb, hb, dB⟩ := W.tab.bf
    obtain ⟨lv, hl, ls⟩ := W.tab.ls
    obtain ⟨dx, hp⟩ := W.net.ob
    have hlen := ok.hl
    have lvl := ls.len
    have fin : ∀ {N' : NS} {H3 : Hp} {t1 t2 : Addr} {vs : List V} {E : XK}, H3 t1 = some (.tup vs) → H3 t2 = some (.tup vs) → vs.all flatR = true → vs.length ≤ 100000 → Steps N N' → N'.post.length ≤ 60 → WW CNet H3 A N' N' → Fr A.all H H3 → spSame 4 [.ref t1, .ref t2] H3 Q E :=
      fun e1 e2 fl hl st pl w f => i_sameT e1 e2 fl hl fun H4 f4 => k _ H4 st pl (w.ex0 f4) (f.trans f4.up)
    k_offL
    refine r_sortD (.inl hn) dN ok.ascF (by omega) fun l1 H1 n1 e1 f1 => ?_
    have W1 := W.ex0 f1
    obtain ⟨_, _, _, _, _, tt1, _⟩ := W.tape.ex
    have h1t : l1 ≠ A.tp := (ne_of_none tt1 n1).symm
    k_offL
    refine r_lenL (sqL_of e1) ?_
    rw [List.length_map]
    k_offL
    refine i_pick W1.tape (by omega) (by omega) fun m2 H2 a2 b2 t2 f2 => ?_
    have W2 := W1.tape' f2 t2
    have g2 : m2.toNat < N.hs.length := by omega
    have e12 : H2 l1 = some (.lst (N.hs.map V.int)) := f2.at_ _ _ e1 (mem_one h1t)
    refine r_ixL (sqL_of e12) (ix_at m2.toNat (by omega) (ints_get g2)) ?_
    have hh : N.hs[m2.toNat] ∈ N.hs := List.getElem_mem g2
    revert hh
    generalize N.hs[m2.toNat] = h0
    intro hh
    k_offL
    refine i_pick W2.tape (by decide) (by decide) fun kind H3 a3 b3 t3 f3 => ?_
    have W3 := W2.tape' f3 t3
    have fr3 : Fr A.all H H3 := f1.up.trans ((f2.trans f3).tape)
    have hn3 : H3 A.dn = some (.dK kn) := f3.at_ _ _ (f2.at_ _ _ (f1.at_ _ _ hn List.not_mem_nil) (mem_one dn_tp)) (mem_one dn_tp)
    have hl3 : H3 A.dp = some (.lst lv) := f3.at_ _ _ (f2.at_ _ _ (f1.at_ _ _ hl List.not_mem_nil) (mem_one dp_tp)) (mem_one dp_tp)
    have hp3 := W3.net.ob
    obtain ⟨dx3, hp3⟩ := hp3
    k_places
    refine q_if ?_
    refine cutT (t := tOr _ _) (fun b H' => H' = H3 ∧ ((b = true ∧ 0 < N.post.length) ∨ (b = false ∧ N.post.length < 60))) (fun R kR => ?_) ?_
    · k_offL
      refine r_lenL (sqL_of hl3) ?_
      rw [lvl]
      k_offL
      refine ifD (fun e => kR _ _ ⟨rfl, .inl ⟨rfl, by omega⟩⟩) (fun e => ?_)
      k_offL
      refine ifD (fun e2 => ?_) (fun e2 => kR _ _ ⟨rfl, .inr ⟨rfl, by omega⟩⟩)
      k_offL
      refine r_lenL (sqL_of hl3) ?_
      rw [lvl]
      k_offL
      by_cases e3 : (0 : Int) < N.post.length
      · rw [decide_eq_true e3]; exact kR _ _ ⟨rfl, .inl ⟨rfl, by omega⟩⟩
      · rw [decide_eq_false e3]; exact kR _ _ ⟨rfl, .inr ⟨rfl, by omega⟩⟩
    rintro b _ ⟨rfl, hb⟩
    rcases hb with ⟨rfl, h60⟩ | ⟨rfl, h60⟩
    · -- something in the post
      k_offL
      refine r_lenL (sqL_of hl3) ?_
      rw [lvl]
      k_offL
      refine i_pick W3.tape (by omega) (by omega) fun at_ H4 a4 b4 t4 f4 => ?_
      have W4 := W3.tape' f4 t4
      have fr4 : Fr A.all H H4 := fr3.trans f4.tape
      have hl4 : H4 A.dp = some (.lst lv) := f4.at_ _ _ hl3 (mem_one dp_tp)
      obtain ⟨j, rfl⟩ : ∃ j : Nat, at_ = (j : Int) := ⟨at_.toNat, by omega⟩
      have hj : j < N.post.length := by omega
      have hpj := List.getElem?_eq_getElem hj
      revert hpj
      generalize N.post[j] = l
      intro hpj
      obtain ⟨lv', hl4', ls4⟩ := W4.tab.ls
      obtain rfl : lv = lv' := HO.lst.inj (Option.some.inj (hl4.symm.trans hl4'))
      obtain ⟨tj, htj, hTj⟩ := ls4.at_ j l hpj
      obtain ⟨dx4, hp4⟩ := W4.net.ob
      k_offL
      refine ifD (fun e4 => ?_) (fun e4 => ?_)
      · k_offL
        refine ⟨A.p, A.da, A.db, A.dl, N, j, l, rfl, W4.net, hpj, ok, fun t5 H5 e5 hN5 f5 => ?_⟩
        have W5 := W4.net' f5.dl hN5
        have hl5 : H5 A.dp = some (.lst lv) := f5.dl.at_ _ _ hl4 W.off.2.2
        k_offL
        refine r_popAt hl5 htj (by omega) fun H6 e6 f6 => ?_
        k_offL
        have W6 := W5.tab' f6.dp (W5.tab.pop hl5 e6 f6 dn_dp dk_dp)
        exact fin (f6.tp _ _ e5) (f6.tp _ _ (f5.tp _ _ hTj)) (lt_flat l) (by have := lt_len l; omega) (.one (.del N j)) (by have := del_len hpj; omega) W6 ((fr4.trans f5.dl.net).trans f6.dp.tab)
      · k_places
        refine q_if ?_
        refine cutT (t := tAnd _ _) (fun b H' => H' = H4 ∧ (b = true → N.post.length < 60)) (fun R kR => ?_) ?_
        · k_offL
          refine ifD (fun e => ?_) (fun e => kR _ _ ⟨rfl, fun z => nomatch z⟩)
          k_offL
          refine r_lenL (sqL_of hl4) ?_
          rw [lvl]
          k_offL
          exact kR _ _ ⟨rfl, fun z => by have := of_decide_eq_true z; omega⟩
        rintro b _ ⟨rfl, hb⟩
        cases b with
        | true =>
          have hb := hb rfl
          k_offL
          refine r_ixL (sqL_of hl4) (atI_nat htj) ?_
          k_offL
          refine r_app hl4 (by omega) fun H5 e5 f5 => ?_
          have W5 := W4.tab' f5.dp (W4.tab.push hl4 (Fr.refl _ _) hTj e5 f5 dn_dp dk_dp)
          obtain ⟨dx5, hp5⟩ := W5.net.ob
          k_offL
          refine ⟨A.p, A.da, A.db, A.dl, N, j, l, rfl, W5.net, hpj, ok, fun t6 H6 e6 hN6 f6 => ?_⟩
          have W6 := W5.net' f6.dl hN6
          have e56 := f6.dl.at_ _ _ e5 W.off.2.2
          have g56 : (lv ++ [V.ref tj])[j]? = some (V.ref tj) := by rw [List.getElem?_append_left (by omega)]; exact htj
          k_offL
          refine r_ixL (sqL_of e56) (atI_nat g56) ?_
          k_offL
          exact fin e6 (f6.tp _ _ (f5.tp _ _ hTj)) (lt_flat l) (by have := lt_len l; omega) (.one (.dup N l (List.mem_of_getElem? hpj) (by omega))) (by rw [push_len]; omega) W6 ((fr4.trans f5.dp.tab).trans f6.dl.net)
        | false =>
          k_offL
          refine ⟨A.p, A.da, A.db, A.dl, N, j, l, rfl, W4.net, hpj, ok, fun t5 H5 e5 hN5 f5 => ?_⟩
          have W5 := W4.net' f5 hN5
          k_offL
          refine ⟨A.dn, A.dk, A.dp, N, j, l, (), (), (), rfl, W5.tab, ok, hpj, fun t6 H6 e6 T6 f6 => ?_⟩
          have W6 := W5.tab' f6 T6
          k_offL
          exact fin (f6.tp _ _ e5) e6 (read_flat _ l) (by rw [show (N.read j l).2.length = 3 from readL_vs (N.del j) l]; decide) (.one (.read N j l hpj)) (by have := read_len hpj; omega) W6 ((fr4.trans f5.net).trans f6.tab)
    · -- a new letter
      k_offL
      refine ifD (fun e => ?_) (fun e => ?_)
      · k_offL
        refine dgetk (.inl hn3) (by rw [dN.val, NS.mf_at hh]) ?_
        k_offL
        refine tupk (by show 3 ≤ 100000; decide) fun t4 H4 n4 e4 f4 => ?_
        have hl4 := f4.at_ _ _ hl3 List.not_mem_nil
        k_offL
        refine r_app hl4 (by omega) fun H5 e5 f5 => ?_
        have W5 := W3.tab' (f4.up.trans f5.dp) (W3.tab.push (l := .tell (N.f h0) h0) hl3 f4 e4 e5 f5 dn_dp dk_dp)
        obtain ⟨dx5, hp5⟩ := W5.net.ob
        obtain ⟨kn5, hn5, dN5⟩ := W5.tab.nx
        k_offL
        refine ⟨A.p, A.da, A.db, A.dl, N, h0, rfl, W5.net, hh, ok, fun t6 H6 e6 hN6 f6 => ?_⟩
        have W6 := W5.net' f6.dl hN6
        have hn6 := f6.dl.at_ _ _ hn5 W.off.1
        k_offL
        refine dgetk (.inl hn6) (by rw [dN5.val]; exact NS.mf_at hh) ?_
        k_offL
        refine tupk (by show 3 ≤ 100000; decide) fun t7 H7 n7 e7 f7 => ?_
        k_offL
        exact fin (f7.tp _ _ e6) e7 (lt_flat (.tell (N.f h0) h0)) (by have := lt_len (.tell (N.f h0) h0); omega) (.one (.tell N h0 hh (by omega))) (by rw [push_len]; omega) (W6.ex0 f7) (((fr3.trans (f4.up.trans f5.dp).tab).trans f6.dl.net).trans f7.up)
      · k_offL
        refine dgetk (.inl hn3) (by rw [dN.val, NS.mf_at hh]) ?_
        k_offL
        refine tupk (by show 3 ≤ 100000; decide) fun t4 H4 n4 e4 f4 => ?_
        have hl4 := f4.at_ _ _ hl3 List.not_mem_nil
        k_offL
        refine r_app hl4 (by omega) fun H5 e5 f5 => ?_
        have W5 := W3.tab' (f4.up.trans f5.dp) (W3.tab.push (l := .ask (N.f h0) h0) hl3 f4 e4 e5 f5 dn_dp dk_dp)
        obtain ⟨dx5, hp5⟩ := W5.net.ob
        obtain ⟨kn5, hn5, dN5⟩ := W5.tab.nx
        k_offL
        refine ⟨A.p, A.da, A.db, A.dl, N, h0, rfl, W5.net, hh, ok, fun t6 H6 e6 hN6 f6 => ?_⟩
        have W6 := W5.net' f6.dl hN6
        have hn6 := f6.dl.at_ _ _ hn5 W.off.1
        k_offL
        refine dgetk (.inl hn6) (by rw [dN5.val]; exact NS.mf_at hh) ?_
        k_offL
        refine tupk (by show 3 ≤ 100000; decide) fun t7 H7 n7 e7 f7 => ?_
        k_offL
        exact fin (f7.tp _ _ e6) e7 (lt_flat (.ask (N.f h0) h0)) (by have := lt_len (.ask (N.f h0) h0); omega) (.one (.ask N h0 hh (by omega))) (by rw [push_len]; omega) (W6.ex0 f7) (((fr3.trans (f4.up.trans f5.dp).tab).trans f6.dl.net).trans f7.up)
end
end RL
set_option synthInstance.maxHeartbeats 4000000
set_option synthInstance.maxSize 4000
namespace RL
section
variable {N M : NS} {l : LT} {h v u x : Int} {hs : List Int}
theorem push_del : (N.push l).del N.post.length = N := by
  have : (N.post ++ [l]).eraseIdx N.post.length = N.post := by
    rw [List.eraseIdx_append_of_length_le (Nat.le_refl _), Nat.sub_self]
    show N.post ++ [] = _
    rw [List.append_nil]
  show { N with post := (N.post ++ [l]).eraseIdx N.post.length } = N
  rw [this]
theorem push_read : (N.push l).read N.post.length l = N.readL l := by
  show ((N.push l).del N.post.length).readL l = _
  rw [push_del]
theorem push_at : (N.push l).post[N.post.length]? = some l := by
  show (N.post ++ [l])[N.post.length]? = _
  rw [List.getElem?_append_right (Nat.le_refl _), Nat.sub_self]
  rfl
def NS.ct (N : NS) (h : Int) : NS := (N.readL (.tell (N.f h) h)).1
def NS.cond (N : NS) (h : Int) : Bool := match N.b (N.f h) with
  | none => true
  | some x => btw N.size x h (N.f h)
theorem ct_eq : N.ct h = if N.cond h = true then N.setB (N.f h) (some h) else N := by
  unfold NS.ct NS.cond
  simp only [NS.readL]
  cases e : N.b (N.f h) with
  | none => rfl
  | some x => simp only []; split <;> rfl
def NS.ca (N : NS) (h : Int) : NS := match N.b (N.f h) with
  | none => N
  | some x => (N.readL (.ans h (N.f h) x)).1
def NS.cn (N : NS) (h : Int) : Int := match N.b (N.f h) with
  | none => 0
  | some x => if btw N.size h x (N.f h) = true then 1 else 0
theorem ca_eq (e : N.b (N.f h) = some x) : N.ca h = (if btw N.size h x (N.f h) = true then N.setF h x else N) ∧ N.cn h = if btw N.size h x (N.f h) = true then 1 else 0 := by
  unfold NS.ca NS.cn
  rw [e]
  refine ⟨?_, rfl⟩
  show (if N.f h = N.f h ∧ btw N.size h x (N.f h) = true then (N.setF h x, _) else (N, _)).1 = _
  by_cases q : btw N.size h x (N.f h) = true
  · rw [if_pos ⟨rfl, q⟩, if_pos q]
  · rw [if_neg fun z => q z.2, if_neg q]
def NS.cts (N : NS) (l : List Int) : NS := l.foldl NS.ct N
def NS.cas (N : NS) (l : List Int) : NS × Int := l.foldl (fun p h => (p.1.ca h, p.2 + p.1.cn h)) (N, 0)
def NS.calm (N : NS) : NS × Int := (N.cts N.hs).cas N.hs
theorem cts_snoc {l : List Int} : N.cts (l ++ [h]) = (N.cts l).ct h := by unfold NS.cts; rw [List.foldl_append]; rfl
theorem cas_snoc {l : List Int} : N.cas (l ++ [h]) = ((N.cas l).1.ca h, (N.cas l).2 + (N.cas l).1.cn h) := by unfold NS.cas; rw [List.foldl_append]; rfl
structure CtOk (N M : NS) : Prop where
  f : M.f = N.f
  hs : M.hs = N.hs
  z : M.size = N.size
  po : M.post = N.post
  ok : M.Ok
  st : Steps N M
theorem ct_steps (ok : N.Ok) (m : h ∈ N.hs) (q : N.post.length < 1000) : Steps N (N.ct h) := by
  have a := Small.tell N h m q
  have b := Small.read _ _ _ (push_at (N := N) (l := .tell (N.f h) h))
  rw [push_read] at b
  exact .more (.one a) b
theorem CtOk.refl (ok : N.Ok) : CtOk N N := ⟨rfl, rfl, rfl, rfl, ok, .refl N⟩
theorem CtOk.more (c : CtOk N M) (m : h ∈ N.hs) (q : N.post.length < 1000) : CtOk N (M.ct h) := by
  have m' : h ∈ M.hs := c.hs ▸ m
  have s := ct_steps c.ok m' (by rw [c.po]; exact q)
  refine ⟨?_, ?_, ?_, ?_, s.ok c.ok, c.st.trans s⟩ <;> (rw [ct_eq]; split)
  · exact c.f
  · exact c.f
  · exact c.hs
  · exact c.hs
  · exact c.z
  · exact c.z
  · exact c.po
  · exact c.po
theorem cts_ok (ok : N.Ok) (q : N.post.length < 1000) (l : List Int) (hl : ∀ h ∈ l, h ∈ N.hs) : ∀ i, CtOk N (N.cts (l.take i))
  | 0 => by rw [List.take_zero]; exact .refl ok
  | i + 1 => by
    have ih := cts_ok ok q l hl i
    by_cases hi : i < l.length
    · rw [take_get hi, cts_snoc]; exact ih.more (hl _ (List.getElem_mem hi)) q
    · rw [List.take_of_length_le (by omega)] at ih ⊢; exact ih
theorem ct_some {y : Int} (e : (N.b y).isSome = true) : ((N.ct h).b y).isSome = true := by
  rw [ct_eq]
  split
  · show (if y = N.f h then some h else N.b y).isSome = true
    split
    · rfl
    · exact e
  · exact e
theorem ct_here : ((N.ct h).b (N.f h)).isSome = true := by
  rw [ct_eq]
  split
  · show (if N.f h = N.f h then some h else N.b (N.f h)).isSome = true
    rw [if_pos rfl]; rfl
  · rename_i q
    unfold NS.cond at q
    cases e : N.b (N.f h) with
    | none => rw [e] at q; exact absurd rfl q
    | some x => rfl
theorem cts_some (ok : N.Ok) (q : N.post.length < 1000) (l : List Int) (hl : ∀ h ∈ l, h ∈ N.hs) : ∀ i, ∀ h ∈ l.take i, ((N.cts (l.take i)).b (N.f h)).isSome = true
  | 0 => fun h hh => by rw [List.take_zero] at hh; cases hh
  | i + 1 => fun h hh => by
    have ih := cts_some ok q l hl i
    by_cases hi : i < l.length
    · rw [take_get hi] at hh ⊢
      rw [cts_snoc]
      rcases List.mem_append.mp hh with z | z
      · exact ct_some (ih h z)
      · rw [List.mem_singleton.mp z, ← (cts_ok ok q l hl i).f]; exact ct_here
    · rw [List.take_of_length_le (by omega)] at ih hh ⊢; exact ih h hh
structure CaOk (N M : NS) (done : List Int) : Prop where
  b : M.b = N.b
  hs : M.hs = N.hs
  z : M.size = N.size
  po : M.post = N.post
  f : ∀ h, h ∉ done → M.f h = N.f h
  ok : M.Ok
  st : Steps N M
theorem CaOk.refl (ok : N.Ok) : CaOk N N [] := ⟨rfl, rfl, rfl, rfl, fun _ _ => rfl, ok, .refl N⟩
theorem ca_steps (ok : N.Ok) (m : h ∈ N.hs) (q : N.post.length < 1000) (e : N.b (N.f h) = some x) : Steps N (N.ca h) := by
  have a := Small.ask N h m q
  have b := Small.read _ _ _ (push_at (N := N) (l := .ask (N.f h) h))
  rw [push_read] at b
  have e2 : (N.readL (.ask (N.f h) h)).1 = N.push (.ans h (N.f h) x) := by simp only [NS.readL, e]
  rw [e2] at b
  have c := Small.read _ _ _ (push_at (N := N) (l := .ans h (N.f h) x))
  rw [push_read] at c
  unfold NS.ca
  rw [e]
  exact .more (.more (.one a) b) c
theorem CaOk.more {done : List Int} (c : CaOk N M done) (m : h ∈ N.hs) (n : h ∉ done) (q : N.post.length < 1000) (e : N.b (N.f h) = some x) : CaOk N (M.ca h) (done ++ [h]) := by
  have m' : h ∈ M.hs := c.hs ▸ m
  have e' : M.b (M.f h) = some x := by rw [c.f h n, c.b]; exact e
  have s := ca_steps c.ok m' (by rw [c.po]; exact q) e'
  have hf : ∀ y, y ∉ done ++ [h] → y ∉ done ∧ y ≠ h := fun y hy => ⟨fun z => hy (List.mem_append_left _ z), fun z => hy (List.mem_append_right _ (List.mem_singleton.mpr z))⟩
  refine ⟨?_, ?_, ?_, ?_, ?_, s.ok c.ok, c.st.trans s⟩ <;> (rw [(ca_eq e').1]; split)
  · exact c.b
  · exact c.b
  · exact c.hs
  · exact c.hs
  · exact c.z
  · exact c.z
  · exact c.po
  · exact c.po
  · exact fun y hy => by
      show (if y = h then x else M.f y) = _
      rw [if_neg (hf y hy).2]; exact c.f y (hf y hy).1
  · exact fun y hy => c.f y (hf y hy).1
theorem not_took {l : List Int} (nd : l.Nodup) {i : Nat} (hi : i < l.length) : l[i] ∉ l.take i := fun hc => by
  obtain ⟨i', hi', e'⟩ := List.mem_iff_getElem.mp hc
  rw [List.length_take] at hi'
  rw [List.getElem_take] at e'
  have : i' = i := nd_ix nd (by rw [List.getElem?_eq_getElem (by omega), e']) (List.getElem?_eq_getElem hi)
  omega
theorem cas_ok (ok : N.Ok) (q : N.post.length < 1000) (l : List Int) (nd : l.Nodup) (hl : ∀ h ∈ l, h ∈ N.hs ∧ (N.b (N.f h)).isSome = true) : ∀ i, CaOk N (N.cas (l.take i)).1 (l.take i)
  | 0 => by rw [List.take_zero]; exact .refl ok
  | i + 1 => by
    have ih := cas_ok ok q l nd hl i
    by_cases hi : i < l.length
    · obtain ⟨h1, h2⟩ := hl _ (List.getElem_mem hi)
      obtain ⟨x, hx⟩ := Option.isSome_iff_exists.mp h2
      rw [take_get hi, cas_snoc]; exact ih.more h1 (not_took nd hi) q hx
    · rw [List.take_of_length_le (by omega)] at ih ⊢; exact ih
theorem calm_ok (ok : N.Ok) (q : N.post.length < 1000) : CtOk N (N.cts N.hs) ∧ (∀ h ∈ N.hs, ((N.cts N.hs).b (N.f h)).isSome = true) ∧ Steps N N.calm.1 ∧ N.calm.1.post = N.post := by
  have a := cts_ok ok q N.hs (fun _ h => h) N.hs.length
  have b := cts_some ok q N.hs (fun _ h => h) N.hs.length
  rw [List.take_length] at a b
  have c := cas_ok a.ok (by rw [a.po]; exact q) N.hs ok.nd (fun h hh => ⟨by rw [a.hs]; exact hh, by rw [a.f]; exact b h hh⟩) N.hs.length
  rw [List.take_length] at c
  exact ⟨a, b, a.st.trans c.st, c.po.trans a.po⟩
end
def spTellAll (C : Addr) : Sp := fun vs H Q _ => ∃ (p da db dl a : Addr) (kvs : List (Key × V)) (N : NS) (_ : Unit), vs = [.ref p, .ref a] ∧ NetAt C H p da db dl N ∧ N.Ok ∧ N.post.length < 1000 ∧ H a = some (.dK kvs) ∧ DOk kvs N.mf ∧ a ≠ db ∧
  ∀ l kb H', H l = none → H' l = some (.dK kb) → DOk kb (N.cts N.hs).lb → NetAt C H' p da db dl (N.cts N.hs) → Fr [db] H H' → Q (.ref l) H'
section
variable {P : Program} {w : World} {K : PySem.W.Frag} {mg : Str → Option Value} {base : Heap} {CNet CMender CDesk CStore CWalk : Addr}
abbrev s_tell_all : Stmt := top 17
theorem sc_tell_all : FnScope ["net", "nexts", "size", "befores", "house", "reader"] ["net", "nexts"] (defScope s_tell_all) := ⟨rfl, rfl, rfl, by decide +kernel, rfl, by decide +kernel, by decide +kernel⟩
theorem ok_tell_all {f : Addr} {fd : FuncData} (F : Fun K "tell_all" "tell_all" s_tell_all f fd) (G_Net_befores : GM P w K mg base CNet "befores" 1 ["self"] (spBefores CNet)) (m_sorted : mg "sorted" = none) (G_between : GF P w K mg base "between" 2 ["size", "start", "place", "end"] spBetween) (G_Net_set_before : GM P w K mg base CNet "set_before" 2 ["self", "house", "before"] (spSetBefore CNet)) (T : NetT K CNet) : FnOk P w K mg base CX0 3 f fd ["net", "nexts"] (spTellAll CNet) := by
  refine F.ok sc_tell_all (fun vs H Q E h => ?_) (fun cdv A outer s H vs Q E hr h => ?_)
  · obtain ⟨_, _, _, _, _, _, _, _, rfl, _⟩ := h; rfl
  · obtain ⟨p, da, db, dl, a, kvs, N, _, rfl, hN, ok, q, ha, dN, hab, k⟩ := h
    refine ⟨_, (pss_cons (ps_set (i := 2) sc_tell_all.nd rfl (Or.inl rfl) (pe_fldK (K := K) rfl (pv 0) (by rfl)))
      (pss_cons (ps_set (i := 3) sc_tell_all.nd rfl (Or.inl rfl) (c_mt0 G_Net_befores (hr.mono (by decide)) (pv 0)))
      (pss_cons (ps_for PassesOwn.never rfl (pi_listK (K := K) rfl (pe_callB (cb_sortD rfl) (by rfl) m_sorted b_sorted (pa_cons (pv 1) pa_nil))) (pg_name (i := 4) sc_tell_all.nd rfl (Or.inl rfl))
      (pss_cons (ps_set (i := 5) sc_tell_all.nd rfl (Or.inl rfl) (pe_dget (hu_of hr) (pv 1) (pv 4) (by intro _ _; rfl)))
      (pss_one (ps_if (PW.pt (pw_or (pt_cmp (pc_dnotin (hu_of hr) (pv 5) (pv 3))) (pw_or1 (pt_val (c_fn G_between (hr.mono (by decide)) (pa_cons (pv 2) (pa_cons (pe_dget (hu_of hr) (pv 3) (pv 5) (by intro _ _; rfl)) (pa_cons (pv 4) (pa_cons (pv 5) pa_nil))))))))) (pss_cons (ps_dput (hu_of hr) (pv 3) (pv 5) (pv 4) rfl)
      (pss_one (ps_expr (c_mt G_Net_set_before (hr.mono (by decide)) (pv 0) (pa_cons (pv 5) (pa_cons (pv 4) pa_nil)))))) pss_nil))))
      (pss_one (ps_ret (pv 3)))))), ?_⟩
    (try simp only [cxK, cxKX, List.map])
    refine ent (σ' := [some _, some _, none, none, none, none]) rfl ?_
    obtain ⟨⟨dx, hp⟩, _⟩ := id hN
    have hlen := ok.hl
    k_offL
    refine ⟨p, da, db, dl, N, rfl, hN, ok, fun l H1 n1 e1 f1 => ?_⟩
    have ha1 := f1.at_ _ _ ha List.not_mem_nil
    have hN1 := hN.ex f1
    have hal : a ≠ l := ne_of_none ha n1
    k_offL
    refine r_sortD (.inl ha1) dN ok.ascF (by omega) fun l1 H2 n2 e2 f2 => ?_
    have hN2 := hN1.ex f2
    have hl1 : l1 ≠ l := (ne_of_none e1 n2).symm
    have hdb : l1 ≠ db := by
      obtain ⟨_, hb1, _⟩ := hN1.bf
      exact (ne_of_none hb1 n2).symm
    obtain ⟨_, hb0, _⟩ := hN.bf
    obtain ⟨_, ha0, _⟩ := hN.nx
    obtain ⟨_, hl0, _⟩ := hN.ls
    have lp : p ≠ l := ne_of_none hp n1
    have lb : db ≠ l := ne_of_none hb0 n1
    have la : da ≠ l := ne_of_none ha0 n1
    have ll : dl ≠ l := ne_of_none hl0 n1
    refine loopLF (M := [db, l]) (N.hs.map V.int) (sqL_of e2) (by simp [hl1, hdb]) (fun i σ' H' => ∃ (v1 v2 : Option V) (kb : List (Key × V)), σ' = [some (.ref p), some (.ref a), some (.int N.size), some (.ref l), v1, v2] ∧ H' l = some (.dK kb) ∧ DOk kb (N.cts (N.hs.take i)).lb ∧ NetAt CNet H' p da db dl (N.cts (N.hs.take i)) ∧ Fr [db, l] H2 H')
      ⟨_, _, _, rfl, f2.at_ _ _ e1 List.not_mem_nil, by rw [List.take_zero]; exact ok.dkb, by rw [List.take_zero]; exact hN2, Fr.refl _ _⟩ (fun i σ' H' ⟨_, _, _, _, _, _, _, f⟩ => f) ?_ ?_
    · rintro i x σ' H3 hi ⟨v1, v2, kb, rfl, e3, d3, hN3, f3⟩
      obtain ⟨h, hh, hm, rfl⟩ := mem_ints hi
      have hts := take_snoc hh
      have c := cts_ok ok q N.hs (fun _ h => h) i
      rw [hts, cts_snoc, ct_eq]
      revert c d3 hN3
      generalize N.cts (N.hs.take i) = M
      intro d3 hN3 c
      obtain ⟨⟨dx3, hp3⟩, _⟩ := id hN3
      have h0 := ok.s0
      have ha3 := f3.at_ _ _ (f2.at_ _ _ ha1 List.not_mem_nil) (by simp [hab, hal])
      have hm' : N.f h ∈ N.hs := ok.fh h hm
      k_offL
      refine dgetk (.inl ha3) (by rw [dN.val, NS.mf_at hm]) ?_
      k_places
      refine s_if ?_
      refine cutT (t := tOr _ _) (fun b H' => H' = H3 ∧ b = M.cond h) (fun R kR => ?_) ?_
      · k_offL
        refine dink (.inl e3) ?_
        have e3v : valV kb (.inl (N.f h)) = (M.b (N.f h)).map V.int := d3.val _
        unfold NS.cond at kR
        rw [c.f, c.z] at kR
        cases eb : M.b (N.f h) with
        | none =>
          rw [eb] at e3v kR
          rw [e3v]
          exact blk (ifT (kR _ _ ⟨rfl, rfl⟩))
        | some y =>
          rw [eb] at e3v kR
          rw [e3v]
          refine blk (ifF ?_)
          k_offL
          refine dgetk (.inl e3) e3v ?_
          k_offL
          refine i_between h0 ?_
          k_offL
          exact kR _ _ ⟨rfl, rfl⟩
      rintro b _ ⟨rfl, rfl⟩
      refine ifB (fun e => ?_) (fun e => ?_)
      · rw [if_pos e]
        k_offL
        refine dputk e3 (by have := d3.len c.ok.ascL; have := c.ok.bl; omega) fun H4 e4 f4 => ?_
        have hN4 := hN3.fr f4 (mem_one lp) (mem_one la) (mem_one lb) (mem_one ll)
        obtain ⟨⟨dx4, hp4⟩, _⟩ := id hN4
        k_offL
        refine ⟨p, da, db, dl, M, N.f h, some h, rfl, hN4, c.hs ▸ hm', fun y e => by cases e; exact c.hs ▸ hm, c.ok, fun H5 hN5 f5 => ?_⟩
        k_offL
        refine ⟨_, _, _, rfl, f5.at_ _ _ e4 (mem_one lb.symm), ?_, by rw [c.f]; exact hN5, (f3.trans (f4.mono fun a h => by simp at h; simp [h])).trans (f5.mono fun a h => by simp at h; simp [h])⟩
        rw [c.f]
        exact d3.put.cong fun y => M.lb_setB (N.f h) h y
      · rw [if_neg (by rw [e]; decide)]
        k_offL
        exact ⟨_, _, _, rfl, e3, d3, hN3, f3⟩
    · rintro σ' H3 ⟨v1, v2, kb, rfl, e3, d3, hN3, f3⟩
      rw [List.length_map, List.take_length] at d3 hN3
      k_offL
      exact k l kb H3 n1 e3 d3 hN3 ((f1.trans f2).up.drop (M := [db]) (f3.mono fun a h => by simp at h; rcases h with h | h <;> simp [h]) n1)
end
def spCalm (C : Addr) : Sp := fun vs H Q _ => ∃ (p da db dl : Addr) (N : NS), vs = [.ref p] ∧ NetAt C H p da db dl N ∧ N.Ok ∧ N.post.length < 1000 ∧ ∀ H', NetAt C H' p da db dl N.calm.1 → Fr [da, db] H H' → Q (.int N.calm.2) H'
section
variable {P : Program} {w : World} {K : PySem.W.Frag} {mg : Str → Option Value} {base : Heap} {CNet CMender CDesk CStore CWalk : Addr}
abbrev s_calm_round : Stmt := top 18
theorem sc_calm_round : FnScope ["net", "size", "nexts", "befores", "changed", "house", "asked", "named"] ["net"] (defScope s_calm_round) := ⟨rfl, rfl, rfl, by decide +kernel, rfl, by decide +kernel, by decide +kernel⟩
theorem ok_calm_round {f : Addr} {fd : FuncData} (F : Fun K "calm_round" "calm_round" s_calm_round f fd) (G_Net_nexts : GM P w K mg base CNet "nexts" 1 ["self"] (spNexts CNet)) (G_tell_all : GF P w K mg base "tell_all" 3 ["net", "nexts"] (spTellAll CNet)) (m_sorted : mg "sorted" = none) (G_between : GF P w K mg base "between" 2 ["size", "start", "place", "end"] spBetween) (G_Net_hold : GM P w K mg base CNet "hold" 2 ["self", "house", "target"] (spHold CNet)) (T : NetT K CNet) : FnOk P w K mg base CX0 4 f fd ["net"] (spCalm CNet) := by
  refine F.ok sc_calm_round (fun vs H Q E h => ?_) (fun cdv A outer s H vs Q E hr h => ?_)
  · obtain ⟨_, _, _, _, _, rfl, _⟩ := h; rfl
  · obtain ⟨p, da, db, dl, N, rfl, hN, ok, q, k⟩ := h
    refine ⟨_, (pss_cons (ps_set (i := 1) sc_calm_round.nd rfl (Or.inl rfl) (pe_fldK (K := K) rfl (pv 0) (by rfl)))
      (pss_cons (ps_set (i := 2) sc_calm_round.nd rfl (Or.inl rfl) (c_mt0 G_Net_nexts (hr.mono (by decide)) (pv 0)))
      (pss_cons (ps_set (i := 3) sc_calm_round.nd rfl (Or.inl rfl) (c_fn G_tell_all (hr.mono (by decide)) (pa_cons (pv 0) (pa_cons (pv 2) pa_nil))))
      (pss_cons (ps_set (i := 4) sc_calm_round.nd rfl (Or.inl rfl) pe_int)
      (pss_cons (ps_for PassesOwn.never rfl (pi_listK (K := K) rfl (pe_callB (cb_sortD rfl) (by rfl) m_sorted b_sorted (pa_cons (pv 2) pa_nil))) (pg_name (i := 5) sc_calm_round.nd rfl (Or.inl rfl))
      (pss_cons (ps_set (i := 6) sc_calm_round.nd rfl (Or.inl rfl) (pe_dget (hu_of hr) (pv 2) (pv 5) (by intro _ _; rfl)))
      (pss_cons (ps_set (i := 7) sc_calm_round.nd rfl (Or.inl rfl) (pe_dget (hu_of hr) (pv 3) (pv 6) (by intro _ _; rfl)))
      (pss_one (ps_if (pt_val (c_fn G_between (hr.mono (by decide)) (pa_cons (pv 1) (pa_cons (pv 5) (pa_cons (pv 7) (pa_cons (pv 6) pa_nil)))))) (pss_cons (ps_expr (c_mt G_Net_hold (hr.mono (by decide)) (pv 0) (pa_cons (pv 5) (pa_cons (pv 7) pa_nil))))
      (pss_one (ps_aug (i := 4) sc_calm_round.nd rfl (Or.inl rfl) pe_int ip_add))) pss_nil)))))
      (pss_one (ps_ret (pv 4)))))))), ?_⟩
    (try simp only [cxK, cxKX, List.map])
    refine ent (σ' := [some _, none, none, none, none, none, none, none]) rfl ?_
    obtain ⟨⟨dx, hp⟩, _⟩ := id hN
    have hlen := ok.hl
    have h0 := ok.s0
    obtain ⟨c1, c2, _, _⟩ := calm_ok ok q
    k_offL
    refine ⟨p, da, db, dl, N, rfl, hN, ok, fun a H1 n1 e1 f1 => ?_⟩
    have hN1 := hN.ex f1
    obtain ⟨_, hb0, _⟩ := hN.bf
    obtain ⟨_, ha0, _⟩ := hN.nx
    have ab : a ≠ db := (ne_of_none hb0 n1).symm
    have aa : a ≠ da := (ne_of_none ha0 n1).symm
    k_offL
    refine ⟨p, da, db, dl, a, _, N, (), rfl, hN1, ok, q, e1, ok.dkn, ab, fun l kb H2 n2 e2 d2 hN2 f2 => ?_⟩
    have ha2 := f2.at_ _ _ e1 (mem_one ab)
    have lb : l ≠ db := by
      obtain ⟨_, hb1, _⟩ := hN1.bf
      exact (ne_of_none hb1 n2).symm
    have la : l ≠ da := by
      obtain ⟨_, hb1, _⟩ := hN1.nx
      exact (ne_of_none hb1 n2).symm
    k_offL
    refine r_sortD (.inl ha2) ok.dkn ok.ascF (by omega) fun l1 H3 n3 e3 f3 => ?_
    have hN3 := hN2.ex f3
    have l1a : l1 ≠ da := by
      obtain ⟨_, hb1, _⟩ := hN2.nx
      exact (ne_of_none hb1 n3).symm
    refine loopLF (M := [da]) (N.hs.map V.int) (sqL_of e3) (mem_one l1a) (fun i σ' H' => ∃ (v1 v2 v3 : Option V), σ' = [some (.ref p), some (.int N.size), some (.ref a), some (.ref l), some (.int ((N.cts N.hs).cas (N.hs.take i)).2), v1, v2, v3] ∧ NetAt CNet H' p da db dl ((N.cts N.hs).cas (N.hs.take i)).1 ∧ Fr [da] H3 H')
      ⟨_, _, _, rfl, hN3, Fr.refl _ _⟩ (fun i σ' H' ⟨_, _, _, _, _, f⟩ => f) ?_ ?_
    · rintro i x σ' H4 hi ⟨v1, v2, v3, rfl, hN4, f4⟩
      obtain ⟨h, hh, hm, rfl⟩ := mem_ints hi
      have hts := take_snoc hh
      have c := cas_ok c1.ok (by rw [c1.po]; exact q) N.hs ok.nd (fun h hh => ⟨by rw [c1.hs]; exact hh, by rw [c1.f]; exact c2 h hh⟩) i
      have nt : h ∉ N.hs.take i := by
        obtain ⟨h1, h2⟩ := List.getElem?_eq_some_iff.mp hh
        rw [← h2]; exact not_took ok.nd h1
      rw [hts, cas_snoc]
      revert c hN4
      generalize (N.cts N.hs).cas (N.hs.take i) = Mc
      obtain ⟨M, cc⟩ := Mc
      intro hN4 c
      have hf : M.f h = N.f h := by rw [c.f h nt, c1.f]
      obtain ⟨y, hy⟩ := Option.isSome_iff_exists.mp (c2 h hm)
      have hyM : M.b (M.f h) = some y := by rw [hf, c.b]; exact hy
      obtain ⟨ce1, ce2⟩ := ca_eq hyM
      obtain ⟨⟨dx4, hp4⟩, _⟩ := id hN4
      have zz : M.size = N.size := c.z.trans c1.z
      have hsz : M.hs = N.hs := c.hs.trans c1.hs
      rw [hf, zz] at ce1 ce2
      show SetK _ _ _ _ _
      k_offL
      refine dgetk (.inl (f4.at_ _ _ (f3.at_ _ _ ha2 List.not_mem_nil) (mem_one aa))) (by rw [ok.dkn.val, NS.mf_at hm]) ?_
      k_offL
      refine dgetk (v := .int y) (.inl (f4.at_ _ _ (f3.at_ _ _ e2 List.not_mem_nil) (mem_one la))) (by rw [d2.val]; show ((N.cts N.hs).b (N.f h)).map V.int = _; rw [hy]; rfl) ?_
      k_offL
      refine i_between h0 ?_
      k_offL
      refine ifB (fun e => ?_) (fun e => ?_)
      · rw [if_pos e] at ce1 ce2
        k_offL
        refine ⟨p, da, db, dl, M, h, y, rfl, hN4, hsz ▸ hm, (c.ok.bh _ y hyM).2, c.ok, fun H5 hN5 f5 => ?_⟩
        k_offL
        refine ⟨some (V.int h), some (.int (N.f h)), some (.int y), ?_, ?_, f4.trans f5⟩
        · show _ = [_, _, _, _, some (V.int (cc + M.cn h)), _, _, _]
          rw [ce2]
        · show NetAt CNet H5 p da db dl (M.ca h)
          rw [ce1]; exact hN5
      · rw [if_neg (by rw [e]; decide)] at ce1 ce2
        k_offL
        refine ⟨some (V.int h), some (.int (N.f h)), some (.int y), ?_, ?_, f4⟩
        · show _ = [_, _, _, _, some (V.int (cc + M.cn h)), _, _, _]
          rw [ce2, Int.add_zero]
        · show NetAt CNet H4 p da db dl (M.ca h)
          rw [ce1]; exact hN4
    · rintro σ' H4 ⟨v1, v2, v3, rfl, hN4, f4⟩
      rw [List.length_map, List.take_length] at hN4 ⊢
      k_offL
      exact k H4 hN4 (((f1.up.trans (f2.mono fun a h => by simp at h; simp [h])).trans f3.up).trans (f4.mono fun a h => by simp at h; simp [h]))
end
end RL
set_option synthInstance.maxHeartbeats 4000000
set_option synthInstance.maxSize 4000
namespace RL
def NS.emp (N : NS) : NS := { N with post := [] }
section
variable {N : NS} {h v u x : Int}
theorem NS.Ok.emp (ok : N.Ok) : N.emp.Ok := ⟨ok.s0, ok.s1, ok.up, ok.on, ok.fh, ok.bh, (fun _ h => nomatch h), ok.hl, Nat.zero_le _⟩
theorem emp_tell : (N.emp.readL (.tell v u)).1 = (N.readL (.tell v u)).1.emp := by
  simp only [NS.readL]
  show (match N.b v with | none => _ | some b => _ : NS × List V).1 = _
  cases N.b v with
  | none => rfl
  | some b =>
    simp only []
    show (if btw N.size b u v = true then _ else _ : NS × List V).1 = _
    split <;> rfl
theorem emp_ans : (N.emp.readL (.ans u v x)).1 = (N.readL (.ans u v x)).1.emp := by
  show (if N.f u = v ∧ btw N.size u x v = true then _ else _ : NS × List V).1 = (if N.f u = v ∧ btw N.size u x v = true then _ else _ : NS × List V).1.emp
  split <;> rfl
theorem emp_ask (e : N.b v = some x) : (N.emp.readL (.ask v u)).1 = N.emp.push (.ans u v x) := by
  simp only [NS.readL]
  show (match N.b v with | none => _ | some b => _ : NS × List V).1 = _
  rw [e]
end
section
variable {P : Program} {w : World} {K : PySem.W.Frag} {mg : Str → Option Value} {base : Heap} {CNet CMender CDesk CStore CWalk : Addr}
abbrev s__law_exchange : Stmt := top 42
theorem sc__law_exchange : FnScope ["tape", "net", "size", "nexts", "behinds", "post", "houses", "house", "at"] ["tape", "net", "size", "nexts", "behinds", "post"] (defScope s__law_exchange) := ⟨rfl, rfl, rfl, by decide +kernel, rfl, by decide +kernel, by decide +kernel⟩
theorem ok__law_exchange {f : Addr} {fd : FuncData} (F : Fun K "_law_exchange" "_law_exchange" s__law_exchange f fd) (m_sorted : mg "sorted" = none) (G__law_pick : GF P w K mg base "_law_pick" 1 ["tape", "size"] spPick) (m_len : mg "len" = none) (G__law_same : GF P w K mg base "_law_same" 5 ["actual", "due"] (spSame 4)) (G_Net_tell : GM P w K mg base CNet "tell" 3 ["self", "house"] (spTell CNet)) (G__law_read : GF P w K mg base "_law_read" 3 ["size", "nexts", "behinds", "post", "at"] spLawRead) (G_Net_read : GM P w K mg base CNet "read" 4 ["self", "at"] (spRead CNet)) (G_Net_ask : GM P w K mg base CNet "ask" 3 ["self", "house"] (spAsk CNet)) (T : NetT K CNet) : FnOk P w K mg base CX0 6 f fd ["tape", "net", "size", "nexts", "behinds", "post"] (spDeed CNet) := by
  refine F.ok sc__law_exchange (fun vs H Q E h => ?_) (fun cdv A outer s H vs Q E hr h => ?_)
  · obtain ⟨_, _, _, _, rfl, _⟩ := h; rfl
  · obtain ⟨A, N, _, _, rfl, W, ok, hpos, hpl, k⟩ := h
    unfold lawArgs
    refine ⟨_, (pss_cons (ps_set (i := 6) sc__law_exchange.nd rfl (Or.inl rfl) (pe_callB (cb_sortD rfl) (by rfl) m_sorted b_sorted (pa_cons (pv 3) pa_nil)))
      (pss_cons (ps_set (i := 7) sc__law_exchange.nd rfl (Or.inl rfl) (pe_ix (ix_listK (K := K) rfl) (pv 6) (c_fn G__law_pick (hr.mono (by decide)) (pa_cons (pv 0) (pa_cons (pe_callB (cb_lenSK (K := K) rfl) (by rfl) m_len b_len (pa_cons (pv 6) pa_nil)) pa_nil))) (by intro _ _; rfl)))
      (pss_cons (ps_set (i := 8) sc__law_exchange.nd rfl (Or.inl rfl) (pe_callB (cb_lenSK (K := K) rfl) (by rfl) m_len b_len (pa_cons (pv 5) pa_nil)))
      (pss_cons (ps_if (pt_cmpR op_gt (pv 8) pe_int (nomark _)) (pss_one (ps_ret pe_bl)) pss_nil)
      (pss_cons (ps_expr (pe_bmK (K := K) rfl PySem.F.plainAttrs_list PySem.F.slot_list_append PySem.F.type_list_append mt_append (pv 5) (pa_cons (pe_tup (pa_cons pe_str (pa_cons (pe_dget (hu_of hr) (pv 3) (pv 7) (by intro _ _; rfl)) (pa_cons (pv 7) pa_nil)))) pa_nil)))
      (pss_cons (ps_if (pt_not (pt_val (c_fn G__law_same (hr.mono (by decide)) (pa_cons (c_mt G_Net_tell (hr.mono (by decide)) (pv 1) (pa_cons (pv 7) pa_nil)) (pa_cons (pe_tup (pa_cons pe_str (pa_cons (pe_dget (hu_of hr) (pv 3) (pv 7) (by intro _ _; rfl)) (pa_cons (pv 7) pa_nil)))) pa_nil))))) (pss_one (ps_ret pe_bl)) pss_nil)
      (pss_cons (ps_if (pt_not (pt_val (c_fn G__law_same (hr.mono (by decide)) (pa_cons (c_mt G_Net_read (hr.mono (by decide)) (pv 1) (pa_cons (pv 8) pa_nil)) (pa_cons (c_fn G__law_read (hr.mono (by decide)) (pa_cons (pv 2) (pa_cons (pv 3) (pa_cons (pv 4) (pa_cons (pv 5) (pa_cons (pv 8) pa_nil)))))) pa_nil))))) (pss_one (ps_ret pe_bl)) pss_nil)
      (pss_cons (ps_expr (pe_bmK (K := K) rfl PySem.F.plainAttrs_list PySem.F.slot_list_append PySem.F.type_list_append mt_append (pv 5) (pa_cons (pe_tup (pa_cons pe_str (pa_cons (pe_dget (hu_of hr) (pv 3) (pv 7) (by intro _ _; rfl)) (pa_cons (pv 7) pa_nil)))) pa_nil)))
      (pss_cons (ps_if (pt_not (pt_val (c_fn G__law_same (hr.mono (by decide)) (pa_cons (c_mt G_Net_ask (hr.mono (by decide)) (pv 1) (pa_cons (pv 7) pa_nil)) (pa_cons (pe_tup (pa_cons pe_str (pa_cons (pe_dget (hu_of hr) (pv 3) (pv 7) (by intro _ _; rfl)) (pa_cons (pv 7) pa_nil)))) pa_nil))))) (pss_one (ps_ret pe_bl)) pss_nil)
      (pss_cons (ps_if (pt_not (pt_val (c_fn G__law_same (hr.mono (by decide)) (pa_cons (c_mt G_Net_read (hr.mono (by decide)) (pv 1) (pa_cons (pv 8) pa_nil)) (pa_cons (c_fn G__law_read (hr.mono (by decide)) (pa_cons (pv 2) (pa_cons (pv 3) (pa_cons (pv 4) (pa_cons (pv 5) (pa_cons (pv 8) pa_nil)))))) pa_nil))))) (pss_one (ps_ret pe_bl)) pss_nil)
      (pss_one (ps_ret (pe_or (pe_cmpR op_eq (pe_callB (cb_lenSK (K := K) rfl) (by rfl) m_len b_len (pa_cons (pv 5) pa_nil)) (pv 8) (nomark _)) (pe_one (c_fn G__law_same (hr.mono (by decide)) (pa_cons (c_mt G_Net_read (hr.mono (by decide)) (pv 1) (pa_cons (pv 8) pa_nil)) (pa_cons (c_fn G__law_read (hr.mono (by decide)) (pa_cons (pv 2) (pa_cons (pv 3) (pa_cons (pv 4) (pa_cons (pv 5) (pa_cons (pv 8) pa_nil)))))) pa_nil))))))))))))))))), ?_⟩
    (try simp only [cxK, cxKX, List.map])
    refine ent (σ' := [some _, some _, some _, some _, some _, some _, none, none, none]) rfl ?_
    obtain ⟨dn_dp, dk_dp, dn_tp, dk_tp, dp_tp⟩ := W.ne
    obtain ⟨kn, hn, dN⟩ := W.tab.nx
    obtain ⟨lv, hl, ls⟩ := W.tab.ls
    have hlen := ok.hl
    have lvl := ls.len
    k_offL
    refine r_sortD (.inl hn) dN ok.ascF (by omega) fun l1 H1 n1 e1 f1 => ?_
    have W1 := W.ex0 f1
    obtain ⟨_, _, _, _, _, tt1, _⟩ := W.tape.ex
    have h1t : l1 ≠ A.tp := (ne_of_none tt1 n1).symm
    k_offL
    refine r_lenL (sqL_of e1) ?_
    rw [List.length_map]
    k_offL
    refine i_pick W1.tape (by omega) (by omega) fun m2 H2 a2 b2 t2 f2 => ?_
    have W2 := W1.tape' f2 t2
    have g2 : m2.toNat < N.hs.length := by omega
    have e12 : H2 l1 = some (.lst (N.hs.map V.int)) := f2.at_ _ _ e1 (mem_one h1t)
    refine r_ixL (sqL_of e12) (ix_at m2.toNat (by omega) (ints_get g2)) ?_
    have hh : N.hs[m2.toNat] ∈ N.hs := List.getElem_mem g2
    revert hh
    generalize N.hs[m2.toNat] = h0
    intro hh
    have fr2 : Fr A.all H H2 := f1.up.trans f2.tape
    have hl2 : H2 A.dp = some (.lst lv) := f2.at_ _ _ (f1.at_ _ _ hl List.not_mem_nil) (mem_one dp_tp)
    have hn2 : H2 A.dn = some (.dK kn) := f2.at_ _ _ (f1.at_ _ _ hn List.not_mem_nil) (mem_one dn_tp)
    k_offL
    refine r_lenL (sqL_of hl2) ?_
    rw [lvl]
    k_offL
    refine ifD (fun e => ?_) (fun e => ?_)
    · k_offL
      exact k N H2 (.refl N) hpl W2 fr2
    have h50 : N.post.length ≤ 50 := by omega
    k_offL
    refine dgetk (.inl hn2) (by rw [dN.val, NS.mf_at hh]) ?_
    k_offL
    refine tupk (by show 3 ≤ 100000; decide) fun t4 H4 n4 e4 f4 => ?_
    have hl4 := f4.at_ _ _ hl2 List.not_mem_nil
    k_offL
    refine r_app hl4 (by omega) fun H5 e5 f5 => ?_
    have W5 := W2.tab' (f4.up.trans f5.dp) (W2.tab.push (l := .tell (N.f h0) h0) hl2 f4 e4 e5 f5 dn_dp dk_dp)
    have fr5 : Fr A.all H H5 := fr2.trans (f4.up.trans f5.dp).tab
    obtain ⟨dx5, hp5⟩ := W5.net.ob
    obtain ⟨kn5, hn5, dN5⟩ := W5.tab.nx
    k_offL
    refine ⟨A.p, A.da, A.db, A.dl, N, h0, rfl, W5.net, hh, ok, fun t6 H6 e6 hN6 f6 => ?_⟩
    have W6 := W5.net' f6.dl hN6
    have fr6 : Fr A.all H H6 := fr5.trans f6.dl.net
    have hn6 := f6.dl.at_ _ _ hn5 W.off.1
    k_offL
    refine dgetk (.inl hn6) (by rw [dN5.val]; exact NS.mf_at hh) ?_
    k_offL
    refine tupk (by show 3 ≤ 100000; decide) fun t7 H7 n7 e7 f7 => ?_
    k_offL
    refine i_sameT (f7.tp _ _ e6) e7 (lt_flat (.tell (N.f h0) h0)) (by have := lt_len (.tell (N.f h0) h0); omega) fun H8 f8 => ?_
    have W8 := (W6.ex0 f7).ex0 f8
    have fr8 : Fr A.all H H8 := (fr6.trans f7.up).trans f8.up
    have s1 := Small.tell N h0 hh (by omega)
    have ok8 := s1.ok ok
    k_offL
    obtain ⟨dx8, hp8⟩ := W8.net.ob
    k_offL
    refine ⟨A.p, A.da, A.db, A.dl, _, N.post.length, _, rfl, W8.net, push_at, ok8, fun t9 H9 e9 hN9 f9 => ?_⟩
    have W9 := W8.net' f9 hN9
    k_offL
    refine ⟨A.dn, A.dk, A.dp, N.push (.tell (N.f h0) h0), N.post.length, _, (), (), (), rfl, W9.tab, ok8, push_at, fun ta Ha ea Ta fa => ?_⟩
    have Wa := W9.tab' fa Ta
    have fra : Fr A.all H Ha := (fr8.trans f9.net).trans fa.tab
    have s2 : Steps N (N.ct h0) := ct_steps ok hh (by omega)
    rw [push_read] at Wa e9 ea
    have cok : CtOk N (N.ct h0) := (CtOk.refl ok).more hh (by omega)
    k_offL
    refine i_sameT (fa.tp _ _ e9) ea (read_flat _ _) (by rw [readL_vs]; decide) fun Hb fb => ?_
    have Wb : WW CNet Hb A (N.ct h0) (N.ct h0) := Wa.ex0 fb
    have frb : Fr A.all H Hb := fra.trans fb.up
    revert s2 cok Wb
    generalize N.ct h0 = M
    intro s2 cok Wb
    have okM := cok.ok
    have hM : h0 ∈ M.hs := cok.hs ▸ hh
    have zM : M.size = N.size := cok.z
    have pM : M.post.length = N.post.length := by rw [cok.po]
    have fM : M.f h0 = N.f h0 := by rw [cok.f]
    obtain ⟨knb, hnb, dNb⟩ := Wb.tab.nx
    obtain ⟨lvb, hlb, lsb⟩ := Wb.tab.ls
    have lvbl := lsb.len
    k_offL
    refine dgetk (.inl hnb) (by rw [dNb.val, NS.mf_at hM]) ?_
    k_offL
    refine tupk (by show 3 ≤ 100000; decide) fun tc Hc nc ec fc => ?_
    have hlc := fc.at_ _ _ hlb List.not_mem_nil
    k_offL
    refine r_app hlc (by omega) fun Hd ed fd' => ?_
    have Wd := Wb.tab' (fc.up.trans fd'.dp) (Wb.tab.push (l := .ask (M.f h0) h0) hlb fc ec ed fd' dn_dp dk_dp)
    have frd : Fr A.all H Hd := frb.trans (fc.up.trans fd'.dp).tab
    obtain ⟨dxd, hpd⟩ := Wd.net.ob
    obtain ⟨knd, hnd, dNd⟩ := Wd.tab.nx
    k_offL
    refine ⟨A.p, A.da, A.db, A.dl, M, h0, rfl, Wd.net, hM, okM, fun te He ee hNe fe => ?_⟩
    have We := Wd.net' fe.dl hNe
    have fre : Fr A.all H He := frd.trans fe.dl.net
    have hne := fe.dl.at_ _ _ hnd W.off.1
    k_offL
    refine dgetk (.inl hne) (by rw [dNd.val]; exact NS.mf_at hM) ?_
    k_offL
    refine tupk (by show 3 ≤ 100000; decide) fun tf Hf nf ef ff => ?_
    k_offL
    refine i_sameT (ff.tp _ _ ee) ef (lt_flat (.ask (M.f h0) h0)) (by have := lt_len (.ask (M.f h0) h0); omega) fun Hg fg => ?_
    have Wg := (We.ex0 ff).ex0 fg
    have frg : Fr A.all H Hg := (fre.trans ff.up).trans fg.up
    have s3 := Small.ask M h0 hM (by omega)
    have okg := s3.ok okM
    obtain ⟨dxg, hpg⟩ := Wg.net.ob
    have atM : (N.post.length : Int) = (M.post.length : Int) := by rw [pM]
    rw [atM, ← zM]
    k_offL
    refine ⟨A.p, A.da, A.db, A.dl, _, M.post.length, _, rfl, Wg.net, push_at, okg, fun th Hh eh hNh fh => ?_⟩
    have Wh := Wg.net' fh hNh
    k_offL
    refine ⟨A.dn, A.dk, A.dp, M.push (.ask (M.f h0) h0), M.post.length, _, (), (), (), rfl, Wh.tab, okg, push_at, fun ti Hi ei Ti fi => ?_⟩
    have Wi := Wh.tab' fi Ti
    have fri : Fr A.all H Hi := (frg.trans fh.net).trans fi.tab
    have s4 := Small.read _ _ _ (push_at (N := M) (l := .ask (M.f h0) h0))
    rw [push_read] at Wi eh ei s4
    k_offL
    refine i_sameT (fi.tp _ _ eh) ei (read_flat _ _) (by rw [readL_vs]; decide) fun Hj fj => ?_
    have Wj := Wi.ex0 fj
    have frj : Fr A.all H Hj := fri.trans fj.up
    have s5 : Steps N (M.readL (.ask (M.f h0) h0)).1 := .more (.more s2 s3) s4
    have okj := s5.ok ok
    obtain ⟨lvj, hlj, lsj⟩ := Wj.tab.ls
    k_offL
    refine r_lenL (sqL_of hlj) ?_
    rw [lsj.len]
    have hwr : (M.readL (.ask (M.f h0) h0)).1 = M ∨ ∃ x, (M.readL (.ask (M.f h0) h0)).1 = M.push (.ans h0 (M.f h0) x) := by
      simp only [NS.readL]
      cases M.b (M.f h0) with
      | none => exact .inl rfl
      | some x => exact .inr ⟨x, rfl⟩
    rcases hwr with e | ⟨x, e⟩ <;> rw [e] at Wj s5 okj ⊢
    · k_offL
      refine ifDT (by rfl) ?_
      exact k M Hj s5 (by omega) Wj frj
    · k_offL
      refine ifDF (by rw [push_len]; omega) ?_
      obtain ⟨dxj, hpj⟩ := Wj.net.ob
      k_offL
      refine ⟨A.p, A.da, A.db, A.dl, _, M.post.length, _, rfl, Wj.net, push_at, okj, fun tk Hk ek hNk fk => ?_⟩
      have Wk := Wj.net' fk hNk
      k_offL
      refine ⟨A.dn, A.dk, A.dp, M.push (.ans h0 (M.f h0) x), M.post.length, _, (), (), (), rfl, Wk.tab, okj, push_at, fun tm Hm em Tm fm => ?_⟩
      have Wm := Wk.tab' fm Tm
      have frm : Fr A.all H Hm := (frj.trans fk.net).trans fm.tab
      have s6 := Small.read _ _ _ (push_at (N := M) (l := .ans h0 (M.f h0) x))
      have ln := read_len (push_at (N := M) (l := .ans h0 (M.f h0) x))
      rw [push_len] at ln
      k_offL
      refine i_sameT (fm.tp _ _ ek) em (read_flat _ _) (by rw [show ((M.push (.ans h0 (M.f h0) x)).read M.post.length _).2.length = 3 from readL_vs _ _]; decide) fun Hn fn => ?_
      k_offL
      exact k _ Hn (.more s5 s6) (by omega) (Wm.ex0 fn) (frm.trans fn.up)
end
def spLawCalm : Sp := fun vs H Q _ => ∃ (dn dk dp : Addr) (N : NS) (_ _ _ _ : Unit), vs = [.int N.size, .ref dn, .ref dk] ∧ TabAt H dn dk dp N ∧ N.Ok ∧ N.post.length < 1000 ∧ dn ≠ dp ∧ dk ≠ dp ∧ ∀ H', TabAt H' dn dk dp N.calm.1 → Fr [dn, dk] H H' → Q (.int N.calm.2) H'
theorem TabAt.desk {H : Hp} {dn dk dp d : Addr} {N : NS} (T : TabAt H dn dk dp N) (e : H d = some (.lst [])) : TabAt H dn dk d N.emp := ⟨T.nx, T.bf, ⟨[], e, .nil⟩, T.ne⟩
theorem TabAt.back {H H' : Hp} {dn dk dp d : Addr} {N M : NS} {m : List Addr} (T : TabAt H dn dk dp N) (f : Fr m H H') (n : dp ∉ m) (T' : TabAt H' dn dk d M.emp) (e : M.post = N.post) : TabAt H' dn dk dp M := by
  obtain ⟨lv, hl, ls⟩ := T.ls
  exact ⟨T'.nx, T'.bf, ⟨lv, f.at_ _ _ hl n, by rw [e]; exact ls.fr f⟩, T'.ne⟩
section
variable {P : Program} {w : World} {K : PySem.W.Frag} {mg : Str → Option Value} {base : Heap} {CNet CMender CDesk CStore CWalk : Addr}
abbrev s__law_calm : Stmt := top 43
theorem sc__law_calm : FnScope ["size", "nexts", "behinds", "desk", "house", "changed"] ["size", "nexts", "behinds"] (defScope s__law_calm) := ⟨rfl, rfl, rfl, by decide +kernel, rfl, by decide +kernel, by decide +kernel⟩
theorem ok__law_calm {f : Addr} {fd : FuncData} (F : Fun K "_law_calm" "_law_calm" s__law_calm f fd) (m_sorted : mg "sorted" = none) (G__law_read : GF P w K mg base "_law_read" 3 ["size", "nexts", "behinds", "post", "at"] spLawRead) : FnOk P w K mg base CX0 4 f fd ["size", "nexts", "behinds"] spLawCalm := by
  refine F.ok sc__law_calm (fun vs H Q E h => ?_) (fun cdv A outer s H vs Q E hr h => ?_)
  · obtain ⟨_, _, _, _, _, _, _, _, rfl, _⟩ := h; rfl
  · obtain ⟨dn, dk, dp, N, _, _, _, _, rfl, T, ok, q, np, kp, k⟩ := h
    refine ⟨_, (pss_cons (ps_set (i := 3) sc__law_calm.nd rfl (Or.inl rfl) (pe_lst pa_nil))
      (pss_cons (ps_for PassesOwn.never rfl (pi_listK (K := K) rfl (pe_callB (cb_sortD rfl) (by rfl) m_sorted b_sorted (pa_cons (pv 1) pa_nil))) (pg_name (i := 4) sc__law_calm.nd rfl (Or.inl rfl))
      (pss_cons (ps_expr (pe_bmK (K := K) rfl PySem.F.plainAttrs_list PySem.F.slot_list_append PySem.F.type_list_append mt_append (pv 3) (pa_cons (pe_tup (pa_cons pe_str (pa_cons (pe_dget (hu_of hr) (pv 1) (pv 4) (by intro _ _; rfl)) (pa_cons (pv 4) pa_nil)))) pa_nil)))
      (pss_one (ps_expr (c_fn G__law_read (hr.mono (by decide)) (pa_cons (pv 0) (pa_cons (pv 1) (pa_cons (pv 2) (pa_cons (pv 3) (pa_cons pe_int pa_nil))))))))))
      (pss_cons (ps_set (i := 5) sc__law_calm.nd rfl (Or.inl rfl) pe_int)
      (pss_cons (ps_for PassesOwn.never rfl (pi_listK (K := K) rfl (pe_callB (cb_sortD rfl) (by rfl) m_sorted b_sorted (pa_cons (pv 1) pa_nil))) (pg_name (i := 4) sc__law_calm.nd rfl (Or.inl rfl))
      (pss_cons (ps_expr (pe_bmK (K := K) rfl PySem.F.plainAttrs_list PySem.F.slot_list_append PySem.F.type_list_append mt_append (pv 3) (pa_cons (pe_tup (pa_cons pe_str (pa_cons (pe_dget (hu_of hr) (pv 1) (pv 4) (by intro _ _; rfl)) (pa_cons (pv 4) pa_nil)))) pa_nil)))
      (pss_cons (ps_expr (c_fn G__law_read (hr.mono (by decide)) (pa_cons (pv 0) (pa_cons (pv 1) (pa_cons (pv 2) (pa_cons (pv 3) (pa_cons pe_int pa_nil)))))))
      (pss_one (ps_if (pt_cmpR op_eq (pe_ix (ix_tupK (K := K) rfl) (c_fn G__law_read (hr.mono (by decide)) (pa_cons (pv 0) (pa_cons (pv 1) (pa_cons (pv 2) (pa_cons (pv 3) (pa_cons pe_int pa_nil)))))) pe_int (by intro _ _; rfl)) pe_str (nomark _)) (pss_one (ps_set (i := 5) sc__law_calm.nd rfl (Or.inl rfl) (pe_op op_add (pv 5) pe_int))) pss_nil)))))
      (pss_one (ps_ret (pv 5))))))), ?_⟩
    (try simp only [cxK, cxKX, List.map])
    refine ent (σ' := [some _, some _, some _, none, none, none]) rfl ?_
    obtain ⟨kn, hn, dN⟩ := T.nx
    obtain ⟨kb, hb, dB⟩ := T.bf
    obtain ⟨lv, hl, ls⟩ := T.ls
    have hlen := ok.hl
    obtain ⟨c1, c2, c3, c4⟩ := calm_ok ok q
    k_offL
    refine lstk (by show 0 ≤ 100000; decide) fun d H1 n1 e1 f1 => ?_
    have nd : dn ≠ d := ne_of_none hn n1
    have kd : dk ≠ d := ne_of_none hb n1
    have pd : dp ≠ d := ne_of_none hl n1
    have T1 := (T.ex f1).desk e1
    k_offL
    refine r_sortD (.inl (f1.at_ _ _ hn List.not_mem_nil)) dN ok.ascF (by omega) fun l1 H2 n2 e2 f2 => ?_
    have T2 := T1.ex f2
    have hl1 : l1 ∉ [dn, dk, d] := by
      have h1 := ne_of_none (f1.at_ _ _ hn List.not_mem_nil) n2
      have h2 := ne_of_none (f1.at_ _ _ hb List.not_mem_nil) n2
      have h3 := ne_of_none e1 n2
      simp [h1.symm, h2.symm, h3.symm]
    have ml : ∀ a ∈ [d], a ∈ [dn, dk, d] := fun a h => by simp at h; simp [h]
    refine loopLF (M := [dn, dk, d]) (N.hs.map V.int) (sqL_of e2) hl1 (fun i σ' H' => ∃ (v1 v2 : Option V), σ' = [some (.int N.size), some (.ref dn), some (.ref dk), some (.ref d), v1, v2] ∧ TabAt H' dn dk d (N.cts (N.hs.take i)).emp ∧ Fr [dn, dk, d] H2 H')
      ⟨_, _, rfl, by rw [List.take_zero]; exact T2, Fr.refl _ _⟩ (fun i σ' H' ⟨_, _, _, _, f⟩ => f) ?_ ?_
    · rintro i x σ' H3 hi ⟨v1, v2, rfl, T3, f3⟩
      obtain ⟨h, hh, hm, rfl⟩ := mem_ints hi
      have c := cts_ok ok q N.hs (fun _ h => h) i
      rw [take_snoc hh, cts_snoc]
      revert c T3
      generalize N.cts (N.hs.take i) = M
      intro T3 c
      have hm' : h ∈ M.hs := c.hs ▸ hm
      obtain ⟨kn3, hn3, dN3⟩ := T3.nx
      obtain ⟨lv3, hl3, ls3⟩ := T3.ls
      obtain rfl : lv3 = [] := List.eq_nil_of_length_eq_zero ls3.len
      k_offL
      refine dgetk (.inl hn3) (by rw [dN3.val]; exact NS.mf_at (N := M.emp) hm') ?_
      k_offL
      refine tupk (by show 3 ≤ 100000; decide) fun t4 H4 n4 e4 f4 => ?_
      have hl4 := f4.at_ _ _ hl3 List.not_mem_nil
      k_offL
      refine r_app hl4 (by decide) fun H5 e5 f5 => ?_
      have T5 := T3.push (l := .tell (M.f h) h) hl3 f4 e4 e5 f5 nd kd
      have ok5 : (M.emp.push (.tell (M.f h) h)).Ok := c.ok.emp.push (pl2 (c.ok.fh h hm') hm') (show 0 < 1000 by decide)
      k_offL
      refine ⟨dn, dk, d, M.emp.push (.tell (M.f h) h), 0, .tell (M.f h) h, (), (), (), ?_, T5, ok5, rfl, fun t6 H6 e6 T6 f6 => ?_⟩
      · show [V.int N.size, _, _, _, _] = [V.int M.size, _, _, _, _]
        rw [c.z]; rfl
      rw [show (0 : Nat) = M.emp.post.length from rfl, push_read, emp_tell] at T6
      k_offL
      exact ⟨_, _, rfl, T6, (f3.trans ((f4.up.trans f5).mono ml)).trans f6⟩
    · rintro σ' H3 ⟨v1, v2, rfl, T3, f3⟩
      rw [List.length_map, List.take_length] at T3
      obtain ⟨kn3, hn3, dN3⟩ := T3.nx
      have ok1 := c1.ok
      k_offL
      refine r_sortD (.inl hn3) dN3 ok1.emp.ascF (by have := ok1.hl; show (N.cts N.hs).hs.length < 64; omega) fun l4 H4 n4 e4 f4 => ?_
      have T4 := T3.ex f4
      have hs4 : (N.cts N.hs).emp.hs = N.hs := c1.hs
      rw [hs4] at e4
      have hl4 : l4 ∉ [dn, dk, d] := by
        obtain ⟨_, hb3, _⟩ := T3.bf
        obtain ⟨_, hl3, _⟩ := T3.ls
        have h1 := ne_of_none hn3 n4
        have h2 := ne_of_none hb3 n4
        have h3 := ne_of_none hl3 n4
        simp [h1.symm, h2.symm, h3.symm]
      refine loopLF (M := [dn, dk, d]) (N.hs.map V.int) (sqL_of e4) hl4 (fun i σ' H' => ∃ (v1 : Option V), σ' = [some (.int N.size), some (.ref dn), some (.ref dk), some (.ref d), v1, some (.int ((N.cts N.hs).cas (N.hs.take i)).2)] ∧ TabAt H' dn dk d ((N.cts N.hs).cas (N.hs.take i)).1.emp ∧ Fr [dn, dk, d] H4 H')
        ⟨_, rfl, T4, Fr.refl _ _⟩ (fun i σ' H' ⟨_, _, _, f⟩ => f) ?_ ?_
      · rintro i x σ' H5 hi ⟨v1, rfl, T5, f5⟩
        obtain ⟨h, hh, hm, rfl⟩ := mem_ints hi
        have c := cas_ok c1.ok (by rw [c1.po]; exact q) N.hs ok.nd (fun h hh => ⟨by rw [c1.hs]; exact hh, by rw [c1.f]; exact c2 h hh⟩) i
        have nt : h ∉ N.hs.take i := by
          obtain ⟨h1, h2⟩ := List.getElem?_eq_some_iff.mp hh
          rw [← h2]; exact not_took ok.nd h1
        rw [take_snoc hh, cas_snoc]
        revert c T5
        generalize (N.cts N.hs).cas (N.hs.take i) = Mc
        obtain ⟨M, cc⟩ := Mc
        intro T5 c
        have hf : M.f h = N.f h := by rw [c.f h nt, c1.f]
        obtain ⟨y, hy⟩ := Option.isSome_iff_exists.mp (c2 h hm)
        have hyM : M.b (M.f h) = some y := by rw [hf, c.b]; exact hy
        obtain ⟨ce1, ce2⟩ := ca_eq hyM
        have zz : M.size = N.size := c.z.trans c1.z
        have hsz : M.hs = N.hs := c.hs.trans c1.hs
        have hm' : h ∈ M.hs := hsz ▸ hm
        have hM := c.ok
        obtain ⟨kn5, hn5, dN5⟩ := T5.nx
        obtain ⟨lv5, hl5, ls5⟩ := T5.ls
        obtain rfl : lv5 = [] := List.eq_nil_of_length_eq_zero ls5.len
        show SetK _ _ _ _ _
        k_offL
        refine dgetk (.inl hn5) (by rw [dN5.val]; exact NS.mf_at (N := M.emp) hm') ?_
        k_offL
        refine tupk (by show 3 ≤ 100000; decide) fun t6 H6 n6 e6 f6 => ?_
        have hl6 := f6.at_ _ _ hl5 List.not_mem_nil
        k_offL
        refine r_app hl6 (by decide) fun H7 e7 f7 => ?_
        have T7 := T5.push (l := .ask (M.f h) h) hl5 f6 e6 e7 f7 nd kd
        have ok7 : (M.emp.push (.ask (M.f h) h)).Ok := hM.emp.push (pl2 (hM.fh h hm') hm') (show 0 < 1000 by decide)
        k_offL
        refine ⟨dn, dk, d, M.emp.push (.ask (M.f h) h), 0, .ask (M.f h) h, (), (), (), ?_, T7, ok7, rfl, fun t8 H8 e8 T8 f8 => ?_⟩
        · show [V.int N.size, _, _, _, _] = [V.int M.size, _, _, _, _]
          rw [zz]; rfl
        rw [show (0 : Nat) = M.emp.post.length from rfl, push_read, emp_ask hyM] at T8
        have ok8 : (M.emp.push (.ans h (M.f h) y)).Ok := hM.emp.push (pl3 hm' (hM.fh h hm') (hM.bh _ y hyM).2) (show 0 < 1000 by decide)
        k_offL
        refine ⟨dn, dk, d, M.emp.push (.ans h (M.f h) y), 0, .ans h (M.f h) y, (), (), (), ?_, T8, ok8, rfl, fun t9 H9 e9 T9 f9 => ?_⟩
        · show [V.int N.size, _, _, _, _] = [V.int M.size, _, _, _, _]
          rw [zz]; rfl
        rw [show (0 : Nat) = M.emp.post.length from rfl, push_read] at T9 e9
        rw [emp_ans] at T9
        have ex : (M.readL (.ans h (M.f h) y)).1 = M.ca h := by unfold NS.ca; rw [hyM]
        rw [ex] at T9
        have f59 : Fr [dn, dk, d] H5 H9 := (((f6.up.trans f7).mono ml).trans f8).trans f9
        by_cases hbt : btw M.size h y (M.f h) = true
        · have er : (M.emp.readL (.ans h (M.f h) y)).2 = [.str "next", .int h, .int y] := congrArg Prod.snd (if_pos (⟨rfl, hbt⟩ : M.f h = M.f h ∧ _))
          rw [er] at e9
          rw [if_pos hbt] at ce2
          k_offL
          refine r_ixT (sqT_of e9) (v := .str "next") rfl ?_
          k_offL
          refine ifDT rfl ?_
          k_offL
          refine ⟨some (V.int h), ?_, T9, f5.trans f59⟩
          show _ = [_, _, _, _, _, some (V.int (cc + M.cn h))]
          rw [ce2]
        · have er : (M.emp.readL (.ans h (M.f h) y)).2 = [.str "kept", .int h, .non] := congrArg Prod.snd (if_neg (fun z : M.f h = M.f h ∧ btw M.size h y (M.f h) = true => hbt z.2))
          rw [er] at e9
          rw [if_neg hbt] at ce2
          k_offL
          refine r_ixT (sqT_of e9) (v := .str "kept") rfl ?_
          k_offL
          refine ifDF (by decide +kernel) ?_
          k_offL
          refine ⟨some (V.int h), ?_, T9, f5.trans f59⟩
          show _ = [_, _, _, _, _, some (V.int (cc + M.cn h))]
          rw [ce2, Int.add_zero]
      · rintro σ' H5 ⟨v1, rfl, T5, f5⟩
        rw [List.length_map, List.take_length] at T5 ⊢
        have f25 : Fr [dn, dk, d] H H5 := (((f1.trans f2).up.trans f3).trans f4.up).trans f5
        have f0 : Fr [dn, dk] H H5 := (Fr.refl _ H).drop (f25.mono fun a h => by simp at h; rcases h with h | h | h <;> simp [h]) n1
        have pk : dp ∉ [dn, dk] := by simp [np.symm, kp.symm]
        k_offL
        exact k H5 (T.back f0 pk T5 c4) f0
end
section
variable {P : Program} {w : World} {K : PySem.W.Frag} {mg : Str → Option Value} {base : Heap} {CNet CMender CDesk CStore CWalk : Addr}
abbrev s__law_step : Stmt := top 47
theorem sc__law_step : FnScope ["tape", "net", "size", "nexts", "behinds", "post", "kind"] ["tape", "net", "size", "nexts", "behinds", "post"] (defScope s__law_step) := ⟨rfl, rfl, rfl, by decide +kernel, rfl, by decide +kernel, by decide +kernel⟩
theorem ok__law_step {f : Addr} {fd : FuncData} (F : Fun K "_law_step" "_law_step" s__law_step f fd) (G__law_pick : GF P w K mg base "_law_pick" 1 ["tape", "size"] spPick) (G__law_same : GF P w K mg base "_law_same" 5 ["actual", "due"] (spSame 4)) (G__law_calm : GF P w K mg base "_law_calm" 4 ["size", "nexts", "behinds"] spLawCalm) (G_calm_round : GF P w K mg base "calm_round" 4 ["net"] (spCalm CNet)) (G__law_exchange : GF P w K mg base "_law_exchange" 6 ["tape", "net", "size", "nexts", "behinds", "post"] (spDeed CNet)) (G__law_deed : GF P w K mg base "_law_deed" 6 ["tape", "net", "size", "nexts", "behinds", "post"] (spDeed CNet)) (T : NetT K CNet) : FnOk P w K mg base CX0 7 f fd ["tape", "net", "size", "nexts", "behinds", "post"] (spDeed CNet) := by
  refine F.ok sc__law_step (fun vs H Q E h => ?_) (fun cdv A outer s H vs Q E hr h => ?_)
  · obtain ⟨_, _, _, _, rfl, _⟩ := h; rfl
  · obtain ⟨A, N, _, _, rfl, W, ok, hpos, hpl, k⟩ := h
    unfold lawArgs
    refine ⟨_, (pss_cons (ps_set (i := 6) sc__law_step.nd rfl (Or.inl rfl) (c_fn G__law_pick (hr.mono (by decide)) (pa_cons (pv 0) (pa_cons pe_int pa_nil))))
      (pss_cons (ps_if (pt_cmpR op_eq (pv 6) pe_int (nomark _)) (pss_one (ps_ret (c_fn G__law_same (hr.mono (by decide)) (pa_cons (c_fn G_calm_round (hr.mono (by decide)) (pa_cons (pv 1) pa_nil)) (pa_cons (c_fn G__law_calm (hr.mono (by decide)) (pa_cons (pv 2) (pa_cons (pv 3) (pa_cons (pv 4) pa_nil)))) pa_nil))))) pss_nil)
      (pss_cons (ps_if (pt_cmpR op_lt (pv 6) pe_int (nomark _)) (pss_one (ps_ret (c_fn G__law_exchange (hr.mono (by decide)) (pa_cons (pv 0) (pa_cons (pv 1) (pa_cons (pv 2) (pa_cons (pv 3) (pa_cons (pv 4) (pa_cons (pv 5) pa_nil))))))))) pss_nil)
      (pss_one (ps_ret (c_fn G__law_deed (hr.mono (by decide)) (pa_cons (pv 0) (pa_cons (pv 1) (pa_cons (pv 2) (pa_cons (pv 3) (pa_cons (pv 4) (pa_cons (pv 5) pa_nil)))))))))))), ?_⟩
    (try simp only [cxK, cxKX, List.map])
    refine ent (σ' := [some _, some _, some _, some _, some _, some _, none]) rfl ?_
    obtain ⟨dn_dp, dk_dp, dn_tp, dk_tp, dp_tp⟩ := W.ne
    k_offL
    refine i_pick W.tape (by decide) (by decide) fun kind H1 a1 b1 t1 f1 => ?_
    have W1 := W.tape' f1 t1
    have fr1 : Fr A.all H H1 := f1.tape
    obtain ⟨dx1, hp1⟩ := W1.net.ob
    k_offL
    refine ifD (fun e => ?_) (fun e => ?_)
    · obtain ⟨_, _, c3, c4⟩ := calm_ok ok (by omega)
      k_offL
      refine ⟨A.p, A.da, A.db, A.dl, N, rfl, W1.net, ok, by omega, fun H2 hN2 f2 => ?_⟩
      have f2' : Fr [A.da, A.db, A.dl] H1 H2 := f2.mono fun a h => by simp at h; rcases h with h | h <;> simp [h]
      have W2 := W1.net' f2' hN2
      k_offL
      refine ⟨A.dn, A.dk, A.dp, N, (), (), (), (), rfl, W2.tab, ok, by omega, dn_dp, dk_dp, fun H3 T3 f3 => ?_⟩
      have f3' : Fr [A.dn, A.dk, A.dp] H2 H3 := f3.mono fun a h => by simp at h; rcases h with h | h <;> simp [h]
      have W3 := W2.tab' f3' T3
      k_offL
      exact i_same (.int N.calm.2) rfl rfl .int fun H4 f4 => k _ H4 c3 (by rw [c4]; exact hpl) (W3.ex0 f4) (((fr1.trans f2'.net).trans f3'.tab).trans f4.up)
    · k_offL
      refine ifD (fun e2 => ?_) (fun e2 => ?_)
      · k_offL
        exact ⟨A, N, (), (), rfl, W1, ok, hpos, hpl, fun N' H2 s l w f => k N' H2 s l w (fr1.trans f)⟩
      · k_offL
        exact ⟨A, N, (), (), rfl, W1, ok, hpos, hpl, fun N' H2 s l w f => k N' H2 s l w (fr1.trans f)⟩
end
end RL
set_option synthInstance.maxHeartbeats 4000000
set_option synthInstance.maxSize 4000
namespace RL
structure NS.Say (N : NS) : Prop where
  sb : ∀ v u, N.b v = some u → Tr N.size N.f u v (far N.size u v)
  st : ∀ r s, LT.tell r s ∈ N.post → Tr N.size N.f s r (far N.size s r)
  sa : ∀ u v x, LT.ans u v x ∈ N.post → Tr N.size N.f x v (far N.size x v)
structure PrIs (H : Hp) (ps : List (Int × Int)) (lv : List V) : Prop where
  len : lv.length = ps.length
  at_ : ∀ (i : Nat) p, ps[i]? = some p → ∃ t, lv[i]? = some (.ref t) ∧ H t = some (.tup [.int p.1, .int p.2])
section
variable {H H' : Hp} {M : List Addr} {ps : List (Int × Int)} {lv : List V} {p : Int × Int} {t : Addr}
theorem PrIs.nil : PrIs H [] [] := ⟨rfl, fun i l h => by simp at h⟩
theorem PrIs.fr (x : PrIs H ps lv) (f : Fr M H H') : PrIs H' ps lv := ⟨x.len, fun i l h => let ⟨t, a, b⟩ := x.at_ i l h; ⟨t, a, f.tp _ _ b⟩⟩
theorem PrIs.snoc (x : PrIs H ps lv) (h : H t = some (.tup [.int p.1, .int p.2])) : PrIs H (ps ++ [p]) (lv ++ [.ref t]) := by
  refine ⟨by rw [List.length_append, List.length_append, x.len]; rfl, fun i m e => ?_⟩
  by_cases hi : i < ps.length
  · rw [List.getElem?_append_left hi] at e
    obtain ⟨u, a, b⟩ := x.at_ i m e
    exact ⟨u, by rw [List.getElem?_append_left (by rw [x.len]; exact hi)]; exact a, b⟩
  · rw [List.getElem?_append_right (by omega)] at e
    have h0 : i - ps.length = 0 := by
      cases hk : i - ps.length with
      | zero => rfl
      | succ k => rw [hk] at e; simp at e
    rw [h0] at e
    have e' : p = m := Option.some.inj e
    subst e'
    exact ⟨t, by rw [List.getElem?_append_right (by rw [x.len]; omega), x.len, h0]; rfl, h⟩
theorem PrIs.set (x : PrIs H ps lv) (i : Nat) (h : H t = some (.tup [.int p.1, .int p.2])) : PrIs H (ps.set i p) (lv.set i (.ref t)) := by
  refine ⟨by rw [List.length_set, List.length_set, x.len], fun j m e => ?_⟩
  rw [List.getElem?_set] at e ⊢
  by_cases hi : i = j
  · rw [if_pos hi] at e ⊢
    by_cases hl : i < ps.length
    · rw [if_pos hl] at e
      cases e
      rw [if_pos (by rw [x.len]; exact hl)]
      exact ⟨t, rfl, h⟩
    · rw [if_neg hl] at e; cases e
  · rw [if_neg hi] at e ⊢
    exact x.at_ j m e
end
def spStart : Sp := fun vs H Q _ => ∃ (tp tc dn lp dk dp : Addr) (N : NS) (ps : List Int), vs = [.ref tp, .int N.size, .ref dn, .ref lp, .ref dk, .ref dp] ∧ TabAt H dn dk dp N ∧ TapeAt H tp tc ∧ H lp = some (.lst (ps.map V.int)) ∧ N.Ok ∧ N.Say ∧ N.post = [] ∧ (∀ x ∈ ps, x ∈ N.hs) ∧ ps.length ≤ 40 ∧ [dp, tp, tc, lp].Nodup ∧
  ∀ N' H', N'.f = N.f → N'.hs = N.hs → N'.size = N.size → N'.Ok → N'.Say → N'.post.length ≤ ps.length → TabAt H' dn dk dp N' → TapeAt H' tp tc → Fr [tp, dk, dp] H H' → Q .non H'
theorem map_filter_int (c : Int → Bool) : ∀ (ys : List Int), (ys.map V.int).filter (fun v => match v with | .int i => c i | _ => false) = (ys.filter c).map V.int
  | [] => rfl
  | y :: r => by
    rw [List.map_cons, List.filter_cons, List.filter_cons]
    show (if c y = true then _ else _) = _
    rw [map_filter_int c r]
    split <;> rfl
section
variable {P : Program} {w : World} {K : PySem.W.Frag} {mg : Str → Option Value} {base : Heap} {CNet CMender CDesk CStore CWalk : Addr}
abbrev s__law_start : Stmt := top 44
theorem sc__law_start : FnScope ["tape", "size", "nexts", "places", "behinds", "post", "roots", "place", "group", "one", "other", "kind"] ["tape", "size", "nexts", "places", "behinds", "post"] (defScope s__law_start) := ⟨rfl, rfl, rfl, by decide +kernel, rfl, by decide +kernel, by decide +kernel⟩
theorem ok__law_start {f : Addr} {fd : FuncData} (F : Fun K "_law_start" "_law_start" s__law_start f fd) (G__law_root : GF P w K mg base "_law_root" 2 ["nexts", "house"] spRoot) (m_sorted : mg "sorted" = none) (G__law_pick : GF P w K mg base "_law_pick" 1 ["tape", "size"] spPick) (m_len : mg "len" = none) (G__law_holds : GF P w K mg base "_law_holds" 2 ["size", "nexts", "saying"] spLawHolds) (G__law_far : GF P w K mg base "_law_far" 1 ["size", "start", "end"] spFar) : FnOk P w K mg base CX0 3 f fd ["tape", "size", "nexts", "places", "behinds", "post"] spStart := by
  refine F.ok sc__law_start (fun vs H Q E h => ?_) (fun cdv A outer s H vs Q E hr h => ?_)
  · obtain ⟨_, _, _, _, _, _, _, _, rfl, _⟩ := h; rfl
  · obtain ⟨tp, tc, dn, lp, dk, dp, N, ps, rfl, T, t, hp, ok, say, hpost, hps, hl40, nd, k⟩ := h
    refine ⟨_, (pss_cons (ps_set (i := 6) sc__law_start.nd rfl (Or.inr rfl) pe_dnewK)
      (pss_cons (ps_for PassesOwn.never rfl (pi_listK (K := K) rfl (pv 3)) (pg_name (i := 7) sc__law_start.nd rfl (Or.inr rfl))
      (pss_one (ps_dput (hu_of hr) (pv 6) (pv 7) (c_fn G__law_root (hr.mono (by decide)) (pa_cons (pv 2) (pa_cons (pv 7) pa_nil))) rfl)))
      (pss_one (ps_for PassesOwn.never rfl (pi_listK (K := K) rfl (pv 3)) (pg_name (i := 7) sc__law_start.nd rfl (Or.inr rfl))
      (pss_cons (ps_setLc (i := 8) (own := [("one", 9)]) (g := gName 9) rfl sc__law_start.nd rfl rfl (sw_true rfl rfl rfl (by decide +kernel)) (pi_listK (K := K) rfl (pe_callB (cb_sortIK (K := K) rfl) (by rfl) m_sorted b_sorted (pa_cons (pv 3) pa_nil))) (blkOk_by (N := ["tape", "size", "nexts", "places", "behinds", "post", "roots", "place", "group", "one", "other", "kind"]) (sc := defScope s__law_start) (by decide +kernel)) (fun _ _ _ _ _ => (pg_name (i := 9) sc__law_start.nd rfl (Or.inl rfl))) (fun _ _ _ _ _ => pts_one (pt_cmpR op_eq (pe_dget (hu_of hr) (pv 6) (pv 9) (by intro _ _; rfl)) (pe_dget (hu_of hr) (pv 6) (pv 7) (by intro _ _; rfl)) (nomark _))) (fun _ _ _ _ _ => (pv 9)))
      (pss_cons (ps_set (i := 9) sc__law_start.nd rfl (Or.inl rfl) (pe_ix (ix_listK (K := K) rfl) (pv 8) (c_fn G__law_pick (hr.mono (by decide)) (pa_cons (pv 0) (pa_cons (pe_callB (cb_lenSK (K := K) rfl) (by rfl) m_len b_len (pa_cons (pv 8) pa_nil)) pa_nil))) (by intro _ _; rfl)))
      (pss_cons (ps_set (i := 10) sc__law_start.nd rfl (Or.inl rfl) (pe_ix (ix_listK (K := K) rfl) (pv 3) (c_fn G__law_pick (hr.mono (by decide)) (pa_cons (pv 0) (pa_cons (pe_callB (cb_lenSK (K := K) rfl) (by rfl) m_len b_len (pa_cons (pv 3) pa_nil)) pa_nil))) (by intro _ _; rfl)))
      (pss_cons (ps_set (i := 11) sc__law_start.nd rfl (Or.inl rfl) (c_fn G__law_pick (hr.mono (by decide)) (pa_cons (pv 0) (pa_cons pe_int pa_nil))))
      (pss_cons (ps_if (pt_not (pt_val (c_fn G__law_holds (hr.mono (by decide)) (pa_cons (pv 1) (pa_cons (pv 2) (pa_cons (pe_tup (pa_cons (pv 9) (pa_cons (pv 7) (pa_cons (c_fn G__law_far (hr.mono (by decide)) (pa_cons (pv 1) (pa_cons (pv 9) (pa_cons (pv 7) pa_nil)))) pa_nil)))) pa_nil)))))) (pss_one (ps_set (i := 11) sc__law_start.nd rfl (Or.inl rfl) pe_int)) pss_nil)
      (pss_one (ps_if (pt_cmpR op_lt (pv 11) pe_int (nomark _)) (pss_one (ps_dput (hu_of hr) (pv 4) (pv 7) (pv 9) rfl)) (pss_one (ps_if (pt_cmpR op_eq (pv 11) pe_int (nomark _)) (pss_one (ps_expr (pe_bmK (K := K) rfl PySem.F.plainAttrs_list PySem.F.slot_list_append PySem.F.type_list_append mt_append (pv 5) (pa_cons (pe_tup (pa_cons pe_str (pa_cons (pv 7) (pa_cons (pv 9) pa_nil)))) pa_nil)))) (pss_one (ps_if (pt_cmpR op_eq (pv 11) pe_int (nomark _)) (pss_one (ps_expr (pe_bmK (K := K) rfl PySem.F.plainAttrs_list PySem.F.slot_list_append PySem.F.type_list_append mt_append (pv 5) (pa_cons (pe_tup (pa_cons pe_str (pa_cons (pv 10) (pa_cons (pv 7) (pa_cons (pv 9) pa_nil))))) pa_nil)))) (pss_one (ps_if (pt_cmpR op_eq (pv 11) pe_int (nomark _)) (pss_one (ps_expr (pe_bmK (K := K) rfl PySem.F.plainAttrs_list PySem.F.slot_list_append PySem.F.type_list_append mt_append (pv 5) (pa_cons (pe_tup (pa_cons pe_str (pa_cons (pv 7) (pa_cons (pv 10) pa_nil)))) pa_nil)))) pss_nil))))))))))))))))), ?_⟩
    (try simp only [cxK, cxKX, List.map])
    refine ent (σ' := [some _, some _, some _, some _, some _, some _, none, none, none, none, none, none]) rfl ?_
    simp only [List.nodup_cons, List.mem_cons, List.not_mem_nil, or_false, not_or] at nd
    obtain ⟨⟨dp_tp, dp_tc, dp_lp⟩, ⟨tp_tc, tp_lp⟩, tc_lp, _⟩ := nd
    have hlen := ok.hl
    have h0 := ok.s0
    have h1 := ok.s1
    obtain ⟨kn, hn, dN⟩ := T.nx
    obtain ⟨kb, hb, dB⟩ := T.bf
    obtain ⟨lv, hl, ls⟩ := T.ls
    obtain ⟨_, _, _, _, _, tt, tcs, _⟩ := t.ex
    have nxt := NS.nxAt ok hn dN
    have dn_tp : dn ≠ tp := ne_of hn tt (fun z => nomatch z)
    have dk_tp : dk ≠ tp := ne_of hb tt (fun z => nomatch z)
    have dn_dp : dn ≠ dp := ne_of hn hl (fun z => nomatch z)
    have dk_dp : dk ≠ dp := ne_of hb hl (fun z => nomatch z)
    have dk_tc : dk ≠ tc := ne_of hb tcs (fun z => nomatch z)
    have dk_lp : dk ≠ lp := ne_of hb hp (fun z => nomatch z)
    have dn_lp : dn ≠ lp := ne_of hn hp (fun z => nomatch z)
    k_offL
    refine newk fun rd H1 n1 e1 f1 => ?_
    have r_lp : lp ≠ rd := ne_of_none hp n1
    have r_tp : tp ≠ rd := ne_of_none tt n1
    have r_tc : tc ≠ rd := ne_of_none tcs n1
    have r_dn : dn ≠ rd := ne_of_none hn n1
    have r_dk : dk ≠ rd := ne_of_none hb n1
    have r_dp : dp ≠ rd := ne_of_none hl n1
    have hp1 := f1.at_ _ _ hp List.not_mem_nil
    k_offL
    refine loopLF (M := [rd]) (ps.map V.int) (sqL_of hp1) (mem_one r_lp) (fun i σ' H' => ∃ (v : Option V) (kvs : List (Key × V)), σ' = [some (.ref tp), some (.int N.size), some (.ref dn), some (.ref lp), some (.ref dk), some (.ref dp), some (.ref rd), v, none, none, none, none] ∧ H' rd = some (.dK kvs) ∧ NxD N.hs (ps.take i) kvs ∧ Fr [rd] H1 H')
      ⟨_, [], rfl, e1, NxD.nil, Fr.refl _ _⟩ (fun i σ' H' ⟨_, _, _, _, _, f⟩ => f) ?_ ?_
    · rintro i x σ' H2 hi ⟨v, kvs, rfl, e2, nx, f2⟩
      obtain ⟨h, hh, hm, rfl⟩ := mem_ints hi
      have nxt2 := (nxt.ex0 f1).fr f2 (mem_one r_dn)
      k_offL
      refine ⟨dn, N.hs, N.f, h, (), rfl, nxt2, hps h hm, by omega, fun r m H3 per hm2 hr _ f3 => ?_⟩
      k_offL
      refine dputk (f3.at_ _ _ e2 List.not_mem_nil) (by obtain ⟨_, _, _, hk⟩ := nx; rw [List.length_take] at hk; omega) fun H4 e4 f4 => ?_
      exact ⟨_, _, rfl, e4, by rw [take_snoc hh]; exact nx.put (ringL_mem ok.fh (it_mem ok.fh (hps h hm)) r hr), f2.trans (f3.up.trans f4)⟩
    rintro σ' H2 ⟨v, kvs, rfl, e2, ⟨g, dg, gm, _⟩, f2⟩
    rw [List.length_map, List.take_length] at dg gm
    have f02 : Fr [] H H2 := (Fr.refl _ H).drop (f1.up.trans f2) n1
    have t2 := t.ex0 f02
    have T2 := T.ex f02
    have hp2 := f02.at_ _ _ hp List.not_mem_nil
    k_offL
    refine loopLF (M := [tp, dk, dp]) (ps.map V.int) (sqL_of hp2) (by simp [Ne.symm tp_lp, Ne.symm dk_lp, Ne.symm dp_lp]) (fun i σ' H' => ∃ (v1 v2 v3 v4 v5 : Option V) (M : NS), σ' = [some (.ref tp), some (.int N.size), some (.ref dn), some (.ref lp), some (.ref dk), some (.ref dp), some (.ref rd), v1, v2, v3, v4, v5] ∧ M.f = N.f ∧ M.hs = N.hs ∧ M.size = N.size ∧ M.Ok ∧ M.Say ∧ M.post.length ≤ i ∧ TabAt H' dn dk dp M ∧ TapeAt H' tp tc ∧ Fr [tp, dk, dp] H2 H')
      ⟨_, _, _, _, _, N, rfl, rfl, rfl, rfl, ok, say, by rw [hpost]; exact Nat.zero_le _, T2, t2, Fr.refl _ _⟩ (fun i σ' H' ⟨_, _, _, _, _, _, _, _, _, _, _, _, _, _, _, f⟩ => f) ?_ ?_
    · rintro i x σ' H3 hi ⟨v1, v2, v3, v4, v5, M, rfl, mf, mh, mz, okM, sayM, pl, T3, t3, f3⟩
      obtain ⟨h, hh, hm, rfl⟩ := mem_ints hi
      have hi40 : i < 40 := by have := (List.getElem?_eq_some_iff.mp hh).1; omega
      have n3 : ∀ a : Addr, a ≠ tp → a ≠ dk → a ≠ dp → a ∉ [tp, dk, dp] := fun a x y z => by simp [x, y, z]
      have hp3 := f3.at_ _ _ hp2 (n3 _ (Ne.symm tp_lp) dk_lp.symm (Ne.symm dp_lp))
      have e3 : H3 rd = some (.dK kvs) := f3.at_ _ _ e2 (n3 _ r_tp.symm r_dk.symm r_dp.symm)
      have gv : ∀ y ∈ ps, valV kvs (.inl y) = some (.int (g y)) := fun y hy => by rw [dg.val, if_pos hy]
      k_offL
      refine r_sortI (sqL_of hp3) fun ys l4 H4 perm hy n4 e4 f4 => ?_
      have e34 := f4.at_ _ _ e3 List.not_mem_nil
      refine walkL (sqL_of e4) ?_
      refine lcV (walk_list (xs := ys.map V.int)) (ys.map V.int) rfl (fun i H0 x H' _ y => yAt y) (fun v => match v with | .int i => decide (g i = g h) | _ => false) id (fun H' f => f.sqL (sqL_of e4) List.not_mem_nil) (by rw [List.length_map, perm.length_eq]; omega) (fun x H' hx f => ?_) fun gl H5 n5 e5 f5 => ?_
      · obtain ⟨y, hy, rfl⟩ := mem_intsM hx
        refine sk9 ⟨fun R kR => ?_, fun _ H6 f6 R kR => ?_⟩
        · k_offL
          refine dgetk (.inl (f.at_ _ _ e34 List.not_mem_nil)) (gv y (perm.mem_iff.mp hy)) ?_
          k_offL
          refine dgetk (.inl (f.at_ _ _ e34 List.not_mem_nil)) (gv h hm) ?_
          k_offL
          exact kR _ (Fr.refl _ _)
        · k_offL
          exact kR _ (Fr.refl _ _)
      rw [map_filter_int (fun y => decide (g y = g h)), List.map_id] at e5
      have f35 : Fr [] H3 H5 := f4.trans f5
      have hgr : ∀ y ∈ ys.filter (fun y => decide (g y = g h)), y ∈ ps := fun y hy => perm.mem_iff.mp (List.mem_filter.mp hy).1
      have hgp : 0 < (ys.filter (fun y => decide (g y = g h))).length := List.length_pos_of_mem (List.mem_filter.mpr ⟨perm.mem_iff.mpr hm, decide_eq_true rfl⟩)
      have hgl : (ys.filter (fun y => decide (g y = g h))).length ≤ 40 := Nat.le_trans (List.length_filter_le _ _) (by rw [perm.length_eq]; exact hl40)
      revert hgr hgp hgl e5
      generalize ys.filter (fun y => decide (g y = g h)) = gs
      intro e5 hgr hgp hgl
      have t5 := t3.ex0 f35
      have gtp : gl ≠ tp := by
        obtain ⟨_, _, _, _, _, tt4, _⟩ := (t3.ex0 f4).ex
        exact (ne_of_none tt4 n5).symm
      k_offL
      refine r_lenL (sqL_of e5) ?_
      rw [List.length_map]
      k_offL
      refine i_pick t5 (by omega) (by omega) fun m6 H6 a6 b6 t6 f6 => ?_
      have g6 : m6.toNat < gs.length := by omega
      refine r_ixL (sqL_of (f6.at_ _ _ e5 (mem_one gtp))) (ix_at m6.toNat (by omega) (ints_get g6)) ?_
      have hone := hgr _ (List.getElem_mem g6)
      revert hone
      generalize gs[m6.toNat] = one
      intro hone
      have hp6 := f6.at_ _ _ (f35.at_ _ _ hp3 List.not_mem_nil) (mem_one (Ne.symm tp_lp))
      have psl : 0 < ps.length := List.length_pos_of_mem hm
      k_offL
      refine r_lenL (sqL_of hp6) ?_
      rw [List.length_map]
      k_offL
      refine i_pick t6 (by omega) (by omega) fun m7 H7 a7 b7 t7 f7 => ?_
      have g7 : m7.toNat < ps.length := by omega
      refine r_ixL (sqL_of (f7.at_ _ _ hp6 (mem_one (Ne.symm tp_lp)))) (ix_at m7.toNat (by omega) (ints_get g7)) ?_
      have hoth := List.getElem_mem g7
      revert hoth
      generalize ps[m7.toNat] = other
      intro hoth
      k_offL
      refine i_pick t7 (by decide) (by decide) fun kind H8 a8 b8 t8 f8 => ?_
      have f38 : Fr [tp] H3 H8 := ((f35.up.trans f6).trans f7).trans f8
      have T8 : TabAt H8 dn dk dp M := T3.fr f38 (mem_one dn_tp) (mem_one dk_tp) (mem_one dp_tp)
      have f28 : Fr [tp, dk, dp] H2 H8 := f3.trans (f38.mono fun a h => by simp at h; simp [h])
      have nxt8 := nxt.fr (f02.up.trans f28) (n3 _ dn_tp T.ne dn_dp)
      k_places
      refine q_cut (fun σ' H' => ∃ kd : Int, σ' = [some (.ref tp), some (.int N.size), some (.ref dn), some (.ref lp), some (.ref dk), some (.ref dp), some (.ref rd), some (.int h), some (.ref gl), some (.int one), some (.int other), some (.int kd)] ∧ (kd < 4 → Tr N.size N.f one h (far N.size one h)) ∧ Fr [] H8 H') (fun Nx kN => ?_) ?_
      · k_offL
        refine i_far h0 ?_
        k_offL
        refine tupk (by show 3 ≤ 100000; decide) fun t9 H9 n9 e9 f9 => ?_
        k_offL
        refine ⟨N.size, dn, t9, N.hs, N.f, one, h, far N.size one h, rfl, nxt8.ex0 f9, e9, hps one hone, by omega, h0, h1, (far_pos h0).1, by have := (far_pos (s := one) (e := h) h0).2; omega, fun b H10 hb f10 => ?_⟩
        k_offL
        cases b with
        | true =>
          k_offL
          exact kN _ _ ⟨kind, rfl, fun _ => hb.mp rfl, f9.trans f10⟩
        | false =>
          k_offL
          exact kN _ _ ⟨5, rfl, fun z => absurd z (by decide), f9.trans f10⟩
      rintro _ H9 ⟨kd, rfl, htr, f9⟩
      have T9 := T8.ex f9
      have t9 := t8.ex0 f9
      have f29 : Fr [tp, dk, dp] H2 H9 := f28.trans f9.up
      have h1m : one ∈ M.hs := by rw [mh]; exact hps one hone
      have hhm : h ∈ M.hs := by rw [mh]; exact hps h hm
      have hom : other ∈ M.hs := by rw [mh]; exact hps other hoth
      obtain ⟨kb9, hb9, dB9⟩ := T9.bf
      obtain ⟨kn9, hn9, dN9⟩ := T9.nx
      obtain ⟨lv9, hl9, ls9⟩ := T9.ls
      have lvl := ls9.len
      have laid : ∀ (l : LT) (H10 H11 : Hp) (u : Addr), (∀ x ∈ l.pl, x ∈ M.hs) → (∀ r s, l = .tell r s → Tr N.size N.f s r (far N.size s r)) → (∀ u v x, l = .ans u v x → Tr N.size N.f x v (far N.size x v)) → Fr [] H9 H10 → H10 u = some (.tup l.vs) → H11 dp = some (.lst (lv9 ++ [.ref u])) → Fr [dp] H10 H11 →
          (M.push l).f = N.f ∧ (M.push l).hs = N.hs ∧ (M.push l).size = N.size ∧ (M.push l).Ok ∧ (M.push l).Say ∧ (M.push l).post.length ≤ i + 1 ∧ TabAt H11 dn dk dp (M.push l) ∧ TapeAt H11 tp tc ∧ Fr [tp, dk, dp] H2 H11 := fun l H10 H11 u hpl h1 h2 f10 e10 e11 f11 =>
        ⟨mf, mh, mz, okM.push hpl (by omega), ⟨sayM.sb, fun r s hm => by
          rcases List.mem_append.mp hm with q | q
          · exact sayM.st r s q
          · have := h1 r s (List.mem_singleton.mp q).symm
            rw [← mf, ← mz] at this; exact this, fun u v x hm => by
          rcases List.mem_append.mp hm with q | q
          · exact sayM.sa u v x q
          · have := h2 u v x (List.mem_singleton.mp q).symm
            rw [← mf, ← mz] at this; exact this⟩, by rw [push_len]; omega, T9.push hl9 f10 e10 e11 f11 dn_dp dk_dp, (t9.ex0 f10).fr f11 (mem_one (Ne.symm dp_tp)) (mem_one (Ne.symm dp_tc)), f29.trans (f10.up.trans (f11.mono fun a h => by simp at h; simp [h]))⟩
      k_offL
      refine ifD (fun e => ?_) (fun e => ?_)
      · k_offL
        refine dputk hb9 (okM.lbl dB9) fun H10 e10 f10 => ?_
        refine ⟨_, _, _, _, _, M.setB h (some one), rfl, mf, mh, mz, okM.setB hhm h1m, ⟨fun v u e2 => ?_, sayM.st, sayM.sa⟩, by show M.post.length ≤ i + 1; omega, ⟨⟨kn9, f10.at_ _ _ hn9 (mem_one T.ne), dN9⟩, ⟨_, e10, dB9.put.cong fun y => M.lb_setB h one y⟩, ⟨lv9, f10.at_ _ _ hl9 (mem_one dk_dp.symm), ls9.fr f10⟩, T.ne⟩, t9.fr f10 (mem_one dk_tp.symm) (mem_one dk_tc.symm), f29.trans (f10.mono fun a h => by simp at h; simp [h])⟩
        have e2' : (if v = h then some one else M.b v) = some u := e2
        by_cases q : v = h
        · rw [if_pos q] at e2'
          cases e2'
          rw [q]
          have := htr (by omega)
          rw [← mf, ← mz] at this
          exact this
        · rw [if_neg q] at e2'
          exact sayM.sb v u e2'
      · k_offL
        refine ifD (fun e2 => ?_) (fun e2 => ?_)
        · k_offL
          refine tupk (by show 3 ≤ 100000; decide) fun u H10 n10 e10 f10 => ?_
          have hl10 := f10.at_ _ _ hl9 List.not_mem_nil
          k_offL
          refine r_app hl10 (by omega) fun H11 e11 f11 => ?_
          have q := laid (.tell h one) H10 H11 u (pl2 hhm h1m) (fun r s e => by cases e; exact htr (by omega)) (fun _ _ _ e => nomatch e) f10 e10 e11 f11
          exact ⟨_, _, _, _, _, _, rfl, q⟩
        · k_offL
          refine ifD (fun e3 => ?_) (fun e3 => ?_)
          · k_offL
            refine tupk (by show 4 ≤ 100000; decide) fun u H10 n10 e10 f10 => ?_
            have hl10 := f10.at_ _ _ hl9 List.not_mem_nil
            k_offL
            refine r_app hl10 (by omega) fun H11 e11 f11 => ?_
            have q := laid (.ans other h one) H10 H11 u (pl3 hom hhm h1m) (fun _ _ e => nomatch e) (fun _ _ _ e => by cases e; exact htr (by omega)) f10 e10 e11 f11
            exact ⟨_, _, _, _, _, _, rfl, q⟩
          · k_offL
            refine ifD (fun e4 => ?_) (fun e4 => ?_)
            · k_offL
              refine tupk (by show 3 ≤ 100000; decide) fun u H10 n10 e10 f10 => ?_
              have hl10 := f10.at_ _ _ hl9 List.not_mem_nil
              k_offL
              refine r_app hl10 (by omega) fun H11 e11 f11 => ?_
              have q := laid (.ask h other) H10 H11 u (pl2 hhm hom) (fun _ _ e => nomatch e) (fun _ _ _ e => nomatch e) f10 e10 e11 f11
              exact ⟨_, _, _, _, _, _, rfl, q⟩
            · k_offL
              exact ⟨_, _, _, _, _, M, rfl, mf, mh, mz, okM, sayM, by omega, T9, t9, f29⟩
    · rintro σ' H3 ⟨v1, v2, v3, v4, v5, M, rfl, mf, mh, mz, okM, sayM, pl, T3, t3, f3⟩
      rw [List.length_map] at pl
      exact k M H3 mf mh mz okM sayM pl T3 t3 (f02.up.trans f3)
end
structure OldOk (N : NS) (q o : Int × Int) : Prop where
  h : q.1 ∈ N.hs
  k0 : 0 ≤ q.2
  k1 : q.2 < N.size
  t : Tr N.size N.f q.1 o.1 o.2
  l : far N.size q.1 q.2 ≤ o.2
  s : o.2 ≤ 2 * N.size
structure AllOld (H : Hp) (N : NS) (lq lo : Addr) (qs os : List (Int × Int)) : Prop where
  q : ∃ lv, H lq = some (.lst lv) ∧ PrIs H qs lv
  o : ∃ lv, H lo = some (.lst lv) ∧ PrIs H os lv
  l : os.length = qs.length
  ok : ∀ (i : Nat) q o, qs[i]? = some q → os[i]? = some o → OldOk N q o
theorem AllOld.fr {H H' : Hp} {N : NS} {lq lo : Addr} {qs os : List (Int × Int)} {M : List Addr} (x : AllOld H N lq lo qs os) (f : Fr M H H') (n1 : lq ∉ M) (n2 : lo ∉ M) : AllOld H' N lq lo qs os :=
  ⟨let ⟨lv, a, b⟩ := x.q; ⟨lv, f.at_ _ _ a n1, b.fr f⟩, let ⟨lv, a, b⟩ := x.o; ⟨lv, f.at_ _ _ a n2, b.fr f⟩, x.l, x.ok⟩
def spCloser (C : Addr) : Sp := fun vs H Q _ => ∃ (A : Ads) (N : NS) (lq lo : Addr) (qs os : List (Int × Int)) (_ _ : Unit), vs = [.ref A.p, .int N.size, .ref A.dn, .ref lq, .ref lo] ∧ WW C H A N N ∧ N.Ok ∧ AllOld H N lq lo qs os ∧ qs.length ≤ 100 ∧ lo ∉ lq :: A.p :: A.tc :: A.all ∧
  ∀ os' H', AllOld H' N lq lo qs os' → Fr [lo] H H' → Q (.bl true) H'
theorem kn_rep {N : NS} {H : Hp} {a : Addr} (h : H a = some (.dK N.kn)) : Rep H (.dct (N.hs.map fun h => (h, N.f h))) (.ref a) := by
  refine ⟨a, rfl, ?_⟩
  rw [h, List.map_map]
  rfl
theorem pfit (a b : Int) : Fits 3 (flatD [.int a, .int b]) := (Fits.flat (show [V.int a, V.int b].length ≤ 100000 by simp)).up (by decide)
theorem pairs_eq {t : Addr} {H : Hp} {a b : Int} (h : H t = some (.tup [.int a, .int b])) : Rep H (flatD [.int a, .int b]) (.ref t) := Rep.flat h rfl
section
variable {P : Program} {w : World} {K : PySem.W.Frag} {mg : Str → Option Value} {base : Heap} {CNet CMender CDesk CStore CWalk : Addr}
abbrev s__law_closer : Stmt := top 49
theorem sc__law_closer : FnScope ["net", "size", "nexts", "questions", "olds", "told", "k", "house", "due"] ["net", "size", "nexts", "questions", "olds"] (defScope s__law_closer) := ⟨rfl, rfl, rfl, by decide +kernel, rfl, by decide +kernel, by decide +kernel⟩
theorem ok__law_closer {f : Addr} {fd : FuncData} (F : Fun K "_law_closer" "_law_closer" s__law_closer f fd) (G_Net_nexts : GM P w K mg base CNet "nexts" 1 ["self"] (spNexts CNet)) (G__law_same : GF P w K mg base "_law_same" 5 ["actual", "due"] (spSame 4)) (G__law_ordered : GF P w K mg base "_law_ordered" 1 ["table"] spLawOrdered) (m_range : mg "range" = none) (m_len : mg "len" = none) (G__law_answer : GF P w K mg base "_law_answer" 2 ["size", "nexts", "house", "key"] spLawAnswer) (G_answer : GF P w K mg base "answer" 3 ["net", "house", "key"] (spAnswer CNet)) (G__law_holds : GF P w K mg base "_law_holds" 2 ["size", "nexts", "saying"] spLawHolds) (T : NetT K CNet) : FnOk P w K mg base CX0 6 f fd ["net", "size", "nexts", "questions", "olds"] (spCloser CNet) := by
  refine F.ok sc__law_closer (fun vs H Q E h => ?_) (fun cdv A outer s H vs Q E hr h => ?_)
  · obtain ⟨_, _, _, _, _, _, _, _, rfl, _⟩ := h; rfl
  · obtain ⟨A, N, lq, lo, qs, os, _, _, rfl, W, ok, AO, hq, hlo, k⟩ := h
    refine ⟨_, (pss_cons (ps_set (i := 5) sc__law_closer.nd rfl (Or.inl rfl) (c_mt0 G_Net_nexts (hr.mono (by decide)) (pv 0)))
      (pss_cons (ps_if (pt_not (pt_val (c_fn G__law_same (hr.mono (by decide)) (pa_cons (pv 5) (pa_cons (c_fn G__law_ordered (hr.mono (by decide)) (pa_cons (pv 2) pa_nil)) pa_nil))))) (pss_one (ps_ret pe_bl)) pss_nil)
      (pss_cons (ps_for PassesOwn.never rfl (pi_range1 (by rfl) m_range (pa_cons (pe_callB (cb_lenSK (K := K) rfl) (by rfl) m_len b_len (pa_cons (pv 3) pa_nil)) pa_nil)) (pg_name (i := 6) sc__law_closer.nd rfl (Or.inl rfl))
      (pss_cons (ps_set (i := 7) sc__law_closer.nd rfl (Or.inl rfl) (pe_ix (ix_tupK (K := K) rfl) (pe_ix (ix_listK (K := K) rfl) (pv 3) (pv 6) (by intro _ _; rfl)) pe_int (by intro _ _; rfl)))
      (pss_cons (ps_set (i := 8) sc__law_closer.nd rfl (Or.inl rfl) (c_fn G__law_answer (hr.mono (by decide)) (pa_cons (pv 1) (pa_cons (pv 5) (pa_cons (pv 7) (pa_cons (pe_ix (ix_tupK (K := K) rfl) (pe_ix (ix_listK (K := K) rfl) (pv 3) (pv 6) (by intro _ _; rfl)) pe_int (by intro _ _; rfl)) pa_nil))))))
      (pss_cons (ps_if (PW.pt (pw_or (pt_not (pt_val (c_fn G__law_same (hr.mono (by decide)) (pa_cons (c_fn G_answer (hr.mono (by decide)) (pa_cons (pv 0) (pa_cons (pv 7) (pa_cons (pe_ix (ix_tupK (K := K) rfl) (pe_ix (ix_listK (K := K) rfl) (pv 3) (pv 6) (by intro _ _; rfl)) pe_int (by intro _ _; rfl)) pa_nil)))) (pa_cons (pv 8) pa_nil))))) (pw_or1 (pt_cmpR op_gt (pe_ix (ix_tupK (K := K) rfl) (pv 8) pe_int (by intro _ _; rfl)) (pe_ix (ix_tupK (K := K) rfl) (pe_ix (ix_listK (K := K) rfl) (pv 4) (pv 6) (by intro _ _; rfl)) pe_int (by intro _ _; rfl)) (nomark _))))) (pss_one (ps_ret pe_bl)) pss_nil)
      (pss_cons (ps_if (pt_not (pt_val (c_fn G__law_holds (hr.mono (by decide)) (pa_cons (pv 1) (pa_cons (pv 5) (pa_cons (pe_tup (pa_cons (pv 7) (pa_cons (pe_ix (ix_tupK (K := K) rfl) (pe_ix (ix_listK (K := K) rfl) (pv 4) (pv 6) (by intro _ _; rfl)) pe_int (by intro _ _; rfl)) (pa_cons (pe_ix (ix_tupK (K := K) rfl) (pe_ix (ix_listK (K := K) rfl) (pv 4) (pv 6) (by intro _ _; rfl)) pe_int (by intro _ _; rfl)) pa_nil)))) pa_nil)))))) (pss_one (ps_ret pe_bl)) pss_nil)
      (pss_one (ps_asg (pv 8) (pg_sub (pv 4) (pv 6) set_list))))))))
      (pss_one (ps_ret pe_bl))))), ?_⟩
    (try simp only [cxK, cxKX, List.map])
    refine ent (σ' := [some _, some _, some _, some _, some _, none, none, none, none]) rfl ?_
    simp only [Ads.all, List.mem_cons, List.not_mem_nil, or_false, not_or] at hlo
    obtain ⟨lo_lq, lo_p, lo_tc, lo_da, lo_db, lo_dl, lo_dn, lo_dk, lo_dp, lo_tp⟩ := hlo
    obtain ⟨kn, hn, dN⟩ := W.tab.nx
    obtain ⟨dx, hp⟩ := W.net.ob
    have hlen := ok.hl
    have h0 := ok.s0
    have h1 := ok.s1
    k_offL
    refine ⟨A.p, A.da, A.db, A.dl, N, rfl, W.net, ok, fun tl H1 n1 e1 f1 => ?_⟩
    k_offL
    refine ⟨A.dn, N, kn, rfl, f1.at_ _ _ hn List.not_mem_nil, dN, ok, fun l2 H2 n2 e2 f2 => ?_⟩
    have e12 := f2.at_ _ _ e1 List.not_mem_nil
    k_offL
    refine i_same _ (kn_rep e12) (kn_rep e2) (.dct (by rw [List.length_map]; omega)) fun H3 f3 => ?_
    have f03 := (f1.trans f2).trans f3
    have e13 := f3.at_ _ _ e12 List.not_mem_nil
    have AO3 := AO.fr f03 List.not_mem_nil List.not_mem_nil
    have W3 := W.ex0 f03
    have tl_lo : tl ≠ lo := by
      obtain ⟨lv, a, _⟩ := AO.o
      exact (ne_of_none a n1).symm
    obtain ⟨lvq, hlq, prq⟩ := AO3.q
    have nx3 := NS.nxAt ok e13 ok.dkn
    k_offL
    refine r_lenL (sqL_of hlq) ?_
    rw [prq.len]
    refine loopR1 _ (by omega) (by omega) (fun i σ' H' => ∃ (v1 v2 v3 : Option V) (os' : List (Int × Int)), σ' = [some (.ref A.p), some (.int N.size), some (.ref A.dn), some (.ref lq), some (.ref lo), some (.ref tl), v1, v2, v3] ∧ AllOld H' N lq lo qs os' ∧ Fr [lo] H3 H')
      ⟨_, _, _, os, rfl, AO3, Fr.refl _ _⟩ ?_ ?_
    · rintro i σ' H4 hi ⟨v1, v2, v3, os', rfl, AO4, f4⟩
      have hi' : i < qs.length := by omega
      have hio : i < os'.length := by rw [AO4.l]; exact hi'
      have gq := List.getElem?_eq_getElem hi'
      have go := List.getElem?_eq_getElem hio
      have old := AO4.ok i _ _ gq go
      revert gq go old
      generalize qs[i] = q
      generalize os'[i] = o
      intro gq go old
      obtain ⟨lvq, hlq4, prq4⟩ := AO4.q
      obtain ⟨lvo, hlo4, pro4⟩ := AO4.o
      obtain ⟨tq, htq, eq4⟩ := prq4.at_ i q gq
      obtain ⟨to, hto, eo4⟩ := pro4.at_ i o go
      have nx4 := nx3.fr f4 (mem_one tl_lo)
      have hN4 : NetAt CNet H4 A.p A.da A.db A.dl N := W3.net.fr f4 (mem_one (Ne.symm lo_p)) (mem_one (Ne.symm lo_da)) (mem_one (Ne.symm lo_db)) (mem_one (Ne.symm lo_dl))
      have qh := old.h
      have fp := far_pos (s := q.1) (e := q.2) h0
      k_offL
      refine r_ixL (sqL_of hlq4) (atI_nat htq) ?_
      k_offL
      refine r_ixT (sqT_of eq4) (v := .int q.1) rfl ?_
      k_offL
      refine r_ixL (sqL_of hlq4) (atI_nat htq) ?_
      k_offL
      refine r_ixT (sqT_of eq4) (v := .int q.2) rfl ?_
      k_offL
      refine ⟨N.size, tl, N.hs, N.f, q.1, q.2, rfl, nx4, qh, by omega, h0, h1, fun t5 H5 j ans e5 f5 => ?_⟩
      have hN5 := hN4.ex f5
      have hlq5 := f5.at_ _ _ hlq4 List.not_mem_nil
      have hlo5 := f5.at_ _ _ hlo4 List.not_mem_nil
      k_offL
      refine r_ixL (sqL_of hlq5) (atI_nat htq) ?_
      k_offL
      refine r_ixT (sqT_of (f5.tp _ _ eq4)) (v := .int q.2) rfl ?_
      k_offL
      refine ⟨A.p, A.da, A.db, A.dl, N, q.1, q.2, rfl, hN5, ok, qh, old.k0, old.k1, fun t6 H6 j' ans' e6 f6 => ?_⟩
      obtain rfl := Ans.uniq h0 ans ans'
      have e56 := f6.tp _ _ e5
      k_offL
      refine i_same _ (pairs_eq e6) (pairs_eq e56) (pfit _ _) fun H7 f7 => ?_
      have f57 : Fr [] H5 H7 := f6.trans f7
      have e57 := f57.tp _ _ e5
      have hlo7 := f57.at_ _ _ hlo5 List.not_mem_nil
      have eo7 := f57.tp _ _ (f5.tp _ _ eo4)
      have le := old.t.ans h0 old.l ans
      k_offL
      refine r_ixT (sqT_of e57) (v := .int (wl N.size N.f j q.1)) rfl ?_
      k_offL
      refine r_ixL (sqL_of hlo7) (atI_nat hto) ?_
      k_offL
      refine r_ixT (sqT_of eo7) (v := .int o.2) rfl ?_
      k_offL
      refine ifDF (by omega) ?_
      k_offL
      refine r_ixL (sqL_of hlo7) (atI_nat hto) ?_
      k_offL
      refine r_ixT (sqT_of eo7) (v := .int o.1) rfl ?_
      k_offL
      refine r_ixL (sqL_of hlo7) (atI_nat hto) ?_
      k_offL
      refine r_ixT (sqT_of eo7) (v := .int o.2) rfl ?_
      k_offL
      refine tupk (by show 3 ≤ 100000; decide) fun t8 H8 n8 e8 f8 => ?_
      k_offL
      have f58 : Fr [] H4 H8 := (f5.trans f57).trans f8
      refine ⟨N.size, tl, t8, N.hs, N.f, q.1, o.1, o.2, rfl, nx4.ex0 f58, e8, qh, by omega, h0, h1, by have := old.l; omega, by have := old.s; omega, fun b H9 hb f9 => ?_⟩
      obtain rfl : b = true := hb.mpr old.t
      have f49 : Fr [] H4 H9 := f58.trans f9
      have hlo9 := f49.at_ _ _ hlo4 List.not_mem_nil
      have e59 := (f8.trans f9).tp _ _ e57
      k_offL
      refine r_setL hlo9 (j := i) rfl (by rw [pro4.len]; exact hio) fun H10 e10 f10 => ?_
      refine ⟨_, _, _, os'.set i (it N.f j q.1, wl N.size N.f j q.1), rfl, ⟨⟨lvq, f10.at_ _ _ (f49.at_ _ _ hlq4 List.not_mem_nil) (mem_one (Ne.symm lo_lq)), (prq4.fr f49).fr f10⟩, ⟨_, e10, ((pro4.fr f49).set i (p := (it N.f j q.1, wl N.size N.f j q.1)) e59).fr f10⟩, by rw [List.length_set]; exact AO4.l, fun i2 q2 o2 g1 g2 => ?_⟩, f4.trans (f49.up.trans f10)⟩
      rw [List.getElem?_set] at g2
      by_cases ei : i = i2
      · rw [if_pos ei, if_pos hio] at g2
        cases g2
        rw [← ei, gq] at g1
        cases g1
        exact ⟨qh, old.k0, old.k1, ans.tr fp.1, ans.1, by have := old.s; show wl N.size N.f j q.1 ≤ _; omega⟩
      · rw [if_neg ei] at g2
        exact AO4.ok i2 q2 o2 g1 g2
    · rintro σ' H4 ⟨v1, v2, v3, os', rfl, AO4, f4⟩
      k_offL
      exact k os' H4 AO4 (f03.up.trans f4)
end
end RL
set_option synthInstance.maxHeartbeats 4000000
set_option synthInstance.maxSize 4000
namespace RL
theorem rise (ps : List Int) (nd : ps.Nodup) : ∃ hs : List Int, hs.Pairwise (· < ·) ∧ hs.Perm ps := by
  have p := List.mergeSort_perm ps (fun a b => decide (a ≤ b))
  refine ⟨_, up_of_sorted ?_ (p.nodup_iff.mpr nd), p⟩
  exact (List.pairwise_mergeSort (le := fun a b => decide (a ≤ b)) (fun a b c h1 h2 => by simp at *; omega) (fun a b => by simp; omega) ps).imp fun h => by simpa using h
theorem r_cat {H : Hp} {Q : VK} {l b : Addr} {xs zs : List V} (h1 : H l = some (.lst xs)) (h2 : H b = some (.lst zs)) (hz : xs.length + zs.length ≤ 100000) (q : ∀ p H', H p = none → H' p = some (.lst (xs ++ zs)) → Fr [] H H' → Q (.ref p) H') : rCat (.ref l) (.ref b) H Q := ⟨l, b, xs, zs, rfl, rfl, h1, h2, small hz, newk q⟩
noncomputable def NS.ans (N : NS) (q : Int × Int) : Int × Int := by
  classical
  exact if h : ∃ j, Ans N.size N.f q.1 (far N.size q.1 q.2) j then (it N.f h.choose q.1, wl N.size N.f h.choose q.1) else (0, 0)
theorem ans_eq {N : NS} {q : Int × Int} {j : Nat} (h0 : 0 < N.size) (a : Ans N.size N.f q.1 (far N.size q.1 q.2) j) : N.ans q = (it N.f j q.1, wl N.size N.f j q.1) := by
  have h : ∃ j, Ans N.size N.f q.1 (far N.size q.1 q.2) j := ⟨j, a⟩
  unfold NS.ans
  rw [dif_pos h, Ans.uniq h0 h.choose_spec a]
structure Keep (N N' : NS) : Prop where
  z : N'.size = N.size
  hs : ∀ h ∈ N.hs, h ∈ N'.hs
  tr : ∀ a e s, a ∈ N.hs → Tr N.size N.f a e s → Tr N.size N'.f a e s
section
variable {N N' N'' : NS} {q o : Int × Int} {l : LT} {x y : Int} {hs' : List Int}
theorem Keep.refl (N : NS) : Keep N N := ⟨rfl, fun _ h => h, fun _ _ _ _ t => t⟩
theorem Keep.trans (a : Keep N N') (b : Keep N' N'') : Keep N N'' := ⟨b.z.trans a.z, fun h m => b.hs h (a.hs h m), fun u e s m t => by
  have := b.tr u e s (a.hs u m)
  rw [a.z] at this
  exact this (a.tr u e s m t)⟩
theorem OldOk.keep (k : Keep N N') (x : OldOk N q o) : OldOk N' q o :=
  ⟨k.hs _ x.h, x.k0, by rw [k.z]; exact x.k1, by rw [k.z]; exact k.tr _ _ _ x.h x.t, by rw [k.z]; exact x.l, by rw [k.z]; exact x.s⟩
theorem readL_say (h0 : 0 < N.size) (say : N.Say) (ht : ∀ r s, l = .tell r s → Tr N.size N.f s r (far N.size s r)) (ha : ∀ u v x, l = .ans u v x → Tr N.size N.f x v (far N.size x v)) : (N.readL l).1.Say ∧ Keep N (N.readL l).1 := by
  cases l with
  | tell v u =>
    have t := ht v u rfl
    have put : (N.setB v (some u)).Say ∧ Keep N (N.setB v (some u)) := ⟨⟨fun v' u' e => by
      have e' : (if v' = v then some u else N.b v') = some u' := e
      by_cases c : v' = v
      · rw [if_pos c] at e'; cases e'; rw [c]; exact t
      · rw [if_neg c] at e'; exact say.sb v' u' e', say.st, say.sa⟩, ⟨rfl, fun _ h => h, fun _ _ _ _ t => t⟩⟩
    simp only [NS.readL]
    split
    · exact put
    · split
      · exact put
      · exact ⟨say, .refl N⟩
  | ask v u =>
    simp only [NS.readL]
    split
    · exact ⟨say, .refl N⟩
    · rename_i x e
      refine ⟨⟨say.sb, fun r s m => ?_, fun u' v' x' m => ?_⟩, ⟨rfl, fun _ h => h, fun _ _ _ _ t => t⟩⟩
      · rcases List.mem_append.mp m with c | c
        · exact say.st r s c
        · cases List.mem_singleton.mp c
      · rcases List.mem_append.mp m with c | c
        · exact say.sa u' v' x' c
        · cases List.mem_singleton.mp c; exact say.sb v x e
  | ans u v x =>
    have t := ha u v x rfl
    simp only [NS.readL]
    split
    · rename_i c
      obtain ⟨c1, c2⟩ := c
      subst c1
      have kp : ∀ a e s, Tr N.size N.f a e s → Tr N.size (N.setF u x).f a e s := fun a e s z => Tr.part h0 c2 t (fun h hn => if_neg hn) (if_pos rfl) z
      exact ⟨⟨fun v' u' e => kp _ _ _ (say.sb v' u' e), fun r s m => kp _ _ _ (say.st r s m), fun u' v' x' m => kp _ _ _ (say.sa u' v' x' m)⟩, ⟨rfl, fun _ h => h, fun _ _ _ _ t => kp _ _ _ t⟩⟩
    · exact ⟨say, .refl N⟩
theorem push_say (say : N.Say) (ht : ∀ r s, l = .tell r s → Tr N.size N.f s r (far N.size s r)) (ha : ∀ u v x, l = .ans u v x → Tr N.size N.f x v (far N.size x v)) : (N.push l).Say ∧ Keep N (N.push l) := by
  refine ⟨⟨say.sb, fun r s m => ?_, fun u v x m => ?_⟩, ⟨rfl, fun _ h => h, fun _ _ _ _ t => t⟩⟩
  · rcases List.mem_append.mp m with c | c
    · exact say.st r s c
    · exact ht r s (List.mem_singleton.mp c).symm
  · rcases List.mem_append.mp m with c | c
    · exact say.sa u v x c
    · exact ha u v x (List.mem_singleton.mp c).symm
theorem Small.good (s : Small N N') (ok : N.Ok) (say : N.Say) : N'.Say ∧ Keep N N' := by
  cases s with
  | tell h m q => exact push_say say (fun r s e => by cases e; exact Tr.one) (fun _ _ _ e => nomatch e)
  | ask h m q => exact push_say say (fun _ _ e => nomatch e) (fun _ _ _ e => nomatch e)
  | dup l m q => exact push_say say (fun r s e => say.st r s (e ▸ m)) (fun u v x e => say.sa u v x (e ▸ m))
  | del i => exact ⟨⟨say.sb, fun r s m => say.st r s (List.mem_of_mem_eraseIdx m), fun u v x m => say.sa u v x (List.mem_of_mem_eraseIdx m)⟩, ⟨rfl, fun _ h => h, fun _ _ _ _ t => t⟩⟩
  | read i l m =>
    have hm := List.mem_of_getElem? m
    have sd : (N.del i).Say := ⟨say.sb, fun r s m => say.st r s (List.mem_of_mem_eraseIdx m), fun u v x m => say.sa u v x (List.mem_of_mem_eraseIdx m)⟩
    obtain ⟨a, b⟩ := readL_say (N := N.del i) (l := l) ok.s0 sd (fun r s e => say.st r s (e ▸ hm)) (fun u v x e => say.sa u v x (e ▸ hm))
    exact ⟨a, ⟨b.z, b.hs, b.tr⟩⟩
theorem Steps.good (s : Steps N N') (ok : N.Ok) (say : N.Say) : N'.Say ∧ Keep N N' := by
  induction s with
  | refl => exact ⟨say, .refl _⟩
  | more a c ih =>
    obtain ⟨s1, k1⟩ := ih
    obtain ⟨s2, k2⟩ := c.good (a.ok ok) s1
    exact ⟨s2, k1.trans k2⟩
theorem admit_ok (ok : N.Ok) (hy : y ∉ N.hs) (hx : x = y ∨ x ∈ N.hs) (y0 : 0 ≤ y) (y1 : y < N.size) (hp : hs'.Pairwise (· < ·)) (hm : ∀ h, h ∈ hs' ↔ h = y ∨ h ∈ N.hs) (hl : hs'.length ≤ 45) : (N.admit y x hs').Ok :=
  ⟨ok.s0, ok.s1, hp, fun h hh => by
    rcases (hm h).mp hh with e | e
    · rw [e]; exact ⟨y0, y1⟩
    · exact ok.on h e, fun h hh => by
    show (if h = y then x else N.f h) ∈ hs'
    split
    · exact (hm x).mpr hx
    · rename_i c
      exact (hm _).mpr (.inr (ok.fh h (((hm h).mp hh).resolve_left c))), fun h z e => ⟨(hm h).mpr (.inr (ok.bh h z e).1), (hm z).mpr (.inr (ok.bh h z e).2)⟩, fun l hl z hz => (hm z).mpr (.inr (ok.ph l hl z hz)), hl, ok.pl⟩
theorem admit_tr (ok : N.Ok) (hy : y ∉ N.hs) {a e s : Int} (ha : a ∈ N.hs) (t : Tr N.size N.f a e s) : Tr N.size (N.admit y x hs').f a e s := by
  obtain ⟨n, n1, e1, e2⟩ := t
  obtain ⟨c1, c2⟩ := it_cong (size := N.size) (f := N.f) (g := (N.admit y x hs').f) (u := y) (fun h hn => if_neg hn) (n := n) (x := a) fun i _ c => hy (c ▸ it_mem ok.fh ha)
  exact ⟨n, n1, c1.trans e1, c2.trans e2⟩
theorem admit_good (ok : N.Ok) (say : N.Say) (hy : y ∉ N.hs) (hm : ∀ h, h ∈ hs' ↔ h = y ∨ h ∈ N.hs) : (N.admit y x hs').Say ∧ Keep N (N.admit y x hs') :=
  ⟨⟨fun v u e => admit_tr ok hy (ok.bh v u e).2 (say.sb v u e), fun r s m => admit_tr ok hy (ok.ph _ m s (by simp [LT.pl])) (say.st r s m), fun u v z m => admit_tr ok hy (ok.ph _ m z (by simp [LT.pl])) (say.sa u v z m)⟩, ⟨rfl, fun h m => (hm h).mpr (.inr m), fun a e s m t => admit_tr ok hy m t⟩⟩
end
theorem WW.mk' {C : Addr} {H : Hp} {A : Ads} {N M : NS} (hN : NetAt C H A.p A.da A.db A.dl N) (hT : TabAt H A.dn A.dk A.dp M) (t : TapeAt H A.tp A.tc) (d1 : A.da ≠ A.dn ∧ A.da ≠ A.dk) (d2 : A.db ≠ A.dn ∧ A.db ≠ A.dk) (d3 : A.dl ≠ A.dp ∧ A.dl ≠ A.tp ∧ A.dl ≠ A.tc) (d4 : A.dp ≠ A.tp ∧ A.dp ≠ A.tc) : WW C H A N M := by
  obtain ⟨dx, hp⟩ := hN.ob
  obtain ⟨_, ha, _⟩ := hN.nx
  obtain ⟨_, hb, _⟩ := hN.bf
  obtain ⟨_, hl, _⟩ := hN.ls
  obtain ⟨_, hn, _⟩ := hT.nx
  obtain ⟨_, hk, _⟩ := hT.bf
  obtain ⟨_, hq, _⟩ := hT.ls
  have tn := t.ne
  obtain ⟨_, _, _, _, _, tt, tcs, _⟩ := t.ex
  refine ⟨hN, hT, t, ?_⟩
  simp only [List.nodup_cons, List.mem_cons, List.not_mem_nil, or_false, not_or, not_false_eq_true, List.nodup_nil, and_true]
  refine ⟨⟨?_, ?_, ?_, ?_, ?_, ?_, ?_, ?_⟩, ⟨hN.ne, ?_, d1.1, d1.2, ?_, ?_, ?_⟩, ⟨?_, d2.1, d2.2, ?_, ?_, ?_⟩, ⟨?_, ?_, d3.1, d3.2.1, d3.2.2⟩, ⟨hT.ne, ?_, ?_, ?_⟩, ⟨?_, ?_, ?_⟩, ⟨d4.1, d4.2⟩, tn.symm⟩
  · exact ne_of hp ha (fun z => nomatch z)
  · exact ne_of hp hb (fun z => nomatch z)
  · exact ne_of hp hl (fun z => nomatch z)
  · exact ne_of hp hn (fun z => nomatch z)
  · exact ne_of hp hk (fun z => nomatch z)
  · exact ne_of hp hq (fun z => nomatch z)
  · exact ne_of hp tt (fun z => nomatch z)
  · exact ne_of hp tcs (fun z => nomatch z)
  · exact ne_of ha hl (fun z => nomatch z)
  · exact ne_of ha hq (fun z => nomatch z)
  · exact ne_of ha tt (fun z => nomatch z)
  · exact ne_of ha tcs (fun z => nomatch z)
  · exact ne_of hb hl (fun z => nomatch z)
  · exact ne_of hb hq (fun z => nomatch z)
  · exact ne_of hb tt (fun z => nomatch z)
  · exact ne_of hb tcs (fun z => nomatch z)
  · exact ne_of hl hn (fun z => nomatch z)
  · exact ne_of hl hk (fun z => nomatch z)
  · exact ne_of hn hq (fun z => nomatch z)
  · exact ne_of hn tt (fun z => nomatch z)
  · exact ne_of hn tcs (fun z => nomatch z)
  · exact ne_of hk hq (fun z => nomatch z)
  · exact ne_of hk tt (fun z => nomatch z)
  · exact ne_of hk tcs (fun z => nomatch z)
theorem WW.somes {C : Addr} {H : Hp} {A : Ads} {N M : NS} (w : WW C H A N M) : ∀ y ∈ A.p :: A.tc :: A.all, (H y).isSome = true := fun y hy => by
  obtain ⟨_, hp⟩ := w.net.ob
  obtain ⟨_, ha, _⟩ := w.net.nx
  obtain ⟨_, hb, _⟩ := w.net.bf
  obtain ⟨_, hl, _⟩ := w.net.ls
  obtain ⟨_, hn, _⟩ := w.tab.nx
  obtain ⟨_, hk, _⟩ := w.tab.bf
  obtain ⟨_, hq, _⟩ := w.tab.ls
  obtain ⟨_, _, _, _, _, tt, tcs, _⟩ := w.tape.ex
  have tt' : H A.tp = _ := tt
  simp only [Ads.all, List.mem_cons, List.not_mem_nil, or_false] at hy
  rcases hy with h | h | h | h | h | h | h | h | h <;> rw [h]
  · rw [hp]; rfl
  · rw [tcs]; rfl
  · rw [ha]; rfl
  · rw [hb]; rfl
  · rw [hl]; rfl
  · rw [hn]; rfl
  · rw [hk]; rfl
  · rw [hq]; rfl
  · rw [tt']; rfl
theorem none_off {H : Hp} {L : List Addr} {x : Addr} (h : ∀ y ∈ L, (H y).isSome = true) (n : H x = none) : x ∉ L := fun m => by have := h x m; rw [n] at this; cases this
theorem PrIs.mem {H : Hp} {ps : List (Int × Int)} {lv : List V} (p : PrIs H ps lv) {x : V} (h : x ∈ lv) : ∃ q ∈ ps, ∃ t, x = .ref t ∧ H t = some (.tup [.int q.1, .int q.2]) := by
  obtain ⟨i, hi, e⟩ := List.mem_iff_getElem.mp h
  have hi' : i < ps.length := by rw [← p.len]; exact hi
  obtain ⟨t, a, b⟩ := p.at_ i _ (List.getElem?_eq_getElem hi')
  rw [List.getElem?_eq_getElem hi, e] at a
  exact ⟨_, List.getElem_mem hi', t, Option.some.inj a, b⟩
def FirstIs (N : NS) (x y : V) (H : Hp) : Prop := ∃ (tq t ta : Addr) (q : Int × Int), x = .ref tq ∧ y = .ref t ∧ H t = some (.tup [.ref tq, .ref ta]) ∧ H tq = some (.tup [.int q.1, .int q.2]) ∧ H ta = some (.tup [.int (N.ans q).1, .int (N.ans q).2]) ∧ ∃ j, Ans N.size N.f q.1 (far N.size q.1 q.2) j
def OldIs (x y : V) (H : Hp) : Prop := ∃ (t tq ta : Addr), x = .ref t ∧ y = .ref ta ∧ H t = some (.tup [.ref tq, .ref ta])
theorem FirstIs.fr {N : NS} {M : List Addr} {x y : V} {H1 H2 : Hp} (h : FirstIs N x y H1) (f : Fr M H1 H2) : FirstIs N x y H2 := let ⟨a, b, c, q, e1, e2, e3, e4, e5, j⟩ := h; ⟨a, b, c, q, e1, e2, f.tp _ _ e3, f.tp _ _ e4, f.tp _ _ e5, j⟩
theorem OldIs.fr {M : List Addr} {x y : V} {H1 H2 : Hp} (h : OldIs x y H1) (f : Fr M H1 H2) : OldIs x y H2 := let ⟨a, b, c, e1, e2, e3⟩ := h; ⟨a, b, c, e1, e2, f.tp _ _ e3⟩
theorem ans_old {N : NS} {q : Int × Int} {j : Nat} (h0 : 0 < N.size) (hq : q.1 ∈ N.hs) (k0 : 0 ≤ q.2) (k1 : q.2 < N.size) (a : Ans N.size N.f q.1 (far N.size q.1 q.2) j) : OldOk N q (N.ans q) := by
  have p := far_pos (s := q.1) (e := q.2) h0
  rw [ans_eq h0 a]
  have := a.lt h0 p.1 p.2
  exact ⟨hq, k0, k1, a.tr p.1, a.1, by show wl N.size N.f j q.1 ≤ _; omega⟩
theorem WW.frn {C : Addr} {H H' : Hp} {A : Ads} {N M : NS} {L : List Addr} (w : WW C H A N M) (f : Fr L H H') (n : ∀ y ∈ A.p :: A.tc :: A.all, y ∉ L) : WW C H' A N M :=
  ⟨w.net.fr f (n _ (by simp)) (n _ (by simp [Ads.all])) (n _ (by simp [Ads.all])) (n _ (by simp [Ads.all])), w.tab.fr f (n _ (by simp [Ads.all])) (n _ (by simp [Ads.all])) (n _ (by simp [Ads.all])), w.tape.fr f (n _ (by simp [Ads.all])) (n _ (by simp)), w.nd⟩
structure LI (C : Addr) (fl lq lo : Addr) (A : Ads) (H0 H : Hp) (M : NS) (fs : List Int) (qs os : List (Int × Int)) : Prop where
  W : WW C H A M M
  ok : M.Ok
  say : M.Say
  pl : M.post.length ≤ 60
  pos : 0 < M.hs.length
  cnt : M.hs.length + fs.length ≤ 10
  fh : H fl = some (.lst (fs.map V.int))
  fr : ∀ x ∈ fs, x ∉ M.hs ∧ 0 ≤ x ∧ x < M.size
  nd : fs.Nodup
  old : AllOld H M lq lo qs os
  qc : qs.length + fs.length ≤ 20
  f : Fr (lo :: lq :: fl :: A.all) H0 H
theorem LI.pick {C fl lq lo : Addr} {A : Ads} {H0 H H' : Hp} {M : NS} {fs : List Int} {qs os : List (Int × Int)} (I : LI C fl lq lo A H0 H M fs qs os) (t : TapeAt H' A.tp A.tc) (f : Fr [A.tp] H H') (n1 : fl ≠ A.tp) (n2 : lq ≠ A.tp) (n3 : lo ≠ A.tp) : LI C fl lq lo A H0 H' M fs qs os :=
  ⟨I.W.tape' f t, I.ok, I.say, I.pl, I.pos, I.cnt, f.at_ _ _ I.fh (mem_one n1), I.fr, I.nd, I.old.fr f (mem_one n2) (mem_one n3), I.qc, I.f.trans (f.mono fun a h => by simp at h; simp [Ads.all, h])⟩
structure Offs (fl lq lo : Addr) (A : Ads) : Prop where
  o1 : fl ∉ A.p :: A.tc :: A.all
  o2 : lq ∉ fl :: A.p :: A.tc :: A.all
  o3 : lo ∉ lq :: fl :: A.p :: A.tc :: A.all
theorem ans_new {N : NS} {q : Int × Int} {j : Nat} (h0 : 0 < N.size) (hq : q.1 ∈ N.hs) (k0 : 0 ≤ q.2) (k1 : q.2 < N.size) (a : Ans N.size N.f q.1 (far N.size q.1 q.2) j) : OldOk N q (it N.f j q.1, wl N.size N.f j q.1) := by
  have := ans_old h0 hq k0 k1 a
  rw [ans_eq h0 a] at this
  exact this
def spLaw (K : PySem.W.Frag) : Sp := fun vs H Q _ => ∃ (a : Addr) (ns : List Int), vs = [.ref a] ∧ SqL K H a (ns.map V.int) ∧ ns.length ≤ 63 ∧ ∀ H', Q (.bl true) H'
section
variable {P : Program} {w : World} {K : PySem.W.Frag} {mg : Str → Option Value} {base : Heap} {CNet CMender CDesk CStore CWalk : Addr}
abbrev s_law : Stmt := top 50
theorem sc_law : FnScope ["script", "tape", "count", "room", "size", "places", "fresh", "nexts", "behinds", "post", "net", "twin", "questions", "k", "firsts", "question", "olds", "first", "place", "hosts", "done"] ["script"] (defScope s_law) := ⟨rfl, rfl, rfl, by decide +kernel, rfl, by decide +kernel, by decide +kernel⟩
theorem cut_law_main {f : Addr} {cdv : Value} {A : Around} {outer : List Env} {s : Shared} {H : Hp} {E : XK} (G__law_pick : GF P w K mg base "_law_pick" 1 ["tape", "size"] spPick) (m_len : mg "len" = none) (m_sorted : mg "sorted" = none) (G_Net_admit : GM P w K mg base CNet "admit" 2 ["self", "place", "host"] (spAdmit CNet)) (G__law_question : GF P w K mg base "_law_question" 2 ["tape", "size", "houses"] spLawQuestion) (G__law_answer : GF P w K mg base "_law_answer" 2 ["size", "nexts", "house", "key"] spLawAnswer) (G__law_step : GF P w K mg base "_law_step" 7 ["tape", "net", "size", "nexts", "behinds", "post"] (spDeed CNet)) (G__law_stands : GF P w K mg base "_law_stands" 6 ["net", "size", "nexts", "behinds", "post"] (spStands CNet)) (G__law_closer : GF P w K mg base "_law_closer" 6 ["net", "size", "nexts", "questions", "olds"] (spCloser CNet)) (T : NetT K CNet) (hr : Room 7 (A.deeper (PyProof.Rows.envOfC "law" (defScope s_law) s.heap.objs.size f cdv))) :
    ∃ t : TS, PSs (cxOf CX0 P w K mg base ["script", "tape", "count", "room", "size", "places", "fresh", "nexts", "behinds", "post", "net", "twin", "questions", "k", "firsts", "question", "olds", "first", "place", "hosts", "done"] "law" (defScope s_law) f cdv A outer s H E).nox (sub1 (stAt (defBody s_law) 17)) t ∧ ∀ {nx bk ct : L2.St → Hp → Prop} {rt : VK}, ∀ {fl lq lo lp lf p2 a : Addr} {A : Ads} {c r : Int} {H0 H1 : Hp} {M : NS} {fs : List Int} {qs os : List (Int × Int)} {v13 v15 v17 v18 v19 v20 : Option V}, LI CNet fl lq lo A H0 H1 M fs qs os → Offs fl lq lo A →
  (∀ {v15 v17 v18 v19 v20 : Option V} {fs : List Int} {qs os : List (Int × Int)} {H' : Hp} (M' : NS), M'.size = M.size → LI CNet fl lq lo A H0 H' M' fs qs os → nx [some (V.ref a), some (.ref A.tp), some (.int c), some (.int r), some (.int M.size), some (.ref lp), some (.ref fl), some (.ref A.dn), some (.ref A.dk), some (.ref A.dp), some (.ref A.p), some (.ref p2), some (.ref lq), v13, some (.ref lf), v15, some (.ref lo), v17, v18, v19, v20] H') →
  t ⟨nx, rt, bk, ct⟩ [some (V.ref a), some (.ref A.tp), some (.int c), some (.int r), some (.int M.size), some (.ref lp), some (.ref fl), some (.ref A.dn), some (.ref A.dk), some (.ref A.dp), some (.ref A.p), some (.ref p2), some (.ref lq), v13, some (.ref lf), v15, some (.ref lo), v17, v18, v19, v20] H1 := by
    refine ⟨_, (pss_cons (ps_if (PW.pt (pw_and (pt_cmpR op_gt (pe_callB (cb_lenSK (K := K) rfl) (by rfl) m_len b_len (pa_cons (pv 6) pa_nil)) pe_int (nomark _)) (pw_and1 (pt_cmpR op_eq (c_fn G__law_pick (hr.mono (by decide)) (pa_cons (pv 1) (pa_cons pe_int pa_nil))) pe_int (nomark _))))) (pss_cons (ps_set (i := 18) sc_law.nd rfl (Or.inl rfl) (pe_bm0K (K := K) rfl PySem.F.plainAttrs_list PySem.F.slot_list_pop PySem.F.type_list_pop mt_pop (pv 6)))
      (pss_cons (ps_set (i := 19) sc_law.nd rfl (Or.inl rfl) (pe_op op_cat (pe_callB (cb_sortD rfl) (by rfl) m_sorted b_sorted (pa_cons (pv 7) pa_nil)) (pe_lst (pa_cons (pv 18) pa_nil))))
      (pss_cons (ps_dput (hu_of hr) (pv 7) (pv 18) (pe_ix (ix_listK (K := K) rfl) (pv 19) (c_fn G__law_pick (hr.mono (by decide)) (pa_cons (pv 1) (pa_cons (pe_callB (cb_lenSK (K := K) rfl) (by rfl) m_len b_len (pa_cons (pv 19) pa_nil)) pa_nil))) (by intro _ _; rfl)) rfl)
      (pss_cons (ps_set (i := 20) sc_law.nd rfl (Or.inl rfl) (pe_cmpR op_isNn (c_mt G_Net_admit (hr.mono (by decide)) (pv 10) (pa_cons (pv 18) (pa_cons (pe_dget (hu_of hr) (pv 7) (pv 18) (by intro _ _; rfl)) pa_nil))) pe_non (nomark _)))
      (pss_cons (ps_set (i := 15) sc_law.nd rfl (Or.inl rfl) (pe_tup (pa_cons (pv 18) (pa_cons (pe_ix (ix_tupK (K := K) rfl) (c_fn G__law_question (hr.mono (by decide)) (pa_cons (pv 1) (pa_cons (pv 4) (pa_cons (pv 19) pa_nil)))) pe_int (by intro _ _; rfl)) pa_nil))))
      (pss_cons (ps_expr (pe_bmK (K := K) rfl PySem.F.plainAttrs_list PySem.F.slot_list_append PySem.F.type_list_append mt_append (pv 12) (pa_cons (pv 15) pa_nil)))
      (pss_one (ps_expr (pe_bmK (K := K) rfl PySem.F.plainAttrs_list PySem.F.slot_list_append PySem.F.type_list_append mt_append (pv 16) (pa_cons (c_fn G__law_answer (hr.mono (by decide)) (pa_cons (pv 4) (pa_cons (pv 7) (pa_cons (pv 18) (pa_cons (pe_ix (ix_tupK (K := K) rfl) (pv 15) pe_int (by intro _ _; rfl)) pa_nil))))) pa_nil)))))))))) (pss_one (ps_set (i := 20) sc_law.nd rfl (Or.inl rfl) (c_fn G__law_step (hr.mono (by decide)) (pa_cons (pv 1) (pa_cons (pv 10) (pa_cons (pv 4) (pa_cons (pv 7) (pa_cons (pv 8) (pa_cons (pv 9) pa_nil))))))))))
      (pss_cons (ps_if (PW.pt (pw_or (pt_not (pt_val (pv 20))) (pw_or1 (pt_not (pt_val (c_fn G__law_stands (hr.mono (by decide)) (pa_cons (pv 10) (pa_cons (pv 4) (pa_cons (pv 7) (pa_cons (pv 8) (pa_cons (pv 9) pa_nil))))))))))) (pss_one (ps_ret pe_bl)) pss_nil)
      (pss_one (ps_if (pt_not (pt_val (c_fn G__law_closer (hr.mono (by decide)) (pa_cons (pv 10) (pa_cons (pv 4) (pa_cons (pv 7) (pa_cons (pv 12) (pa_cons (pv 16) pa_nil)))))))) (pss_one (ps_ret pe_bl)) pss_nil)))), ?_⟩
    (try simp only [cxK, cxKX, List.map])
    intro nx bk ct rt
    intro fl lq lo lp lf p2 a A c r H0 H1 M fs qs os v13 v15 v17 v18 v19 v20 I O kN
    have h0 := I.ok.s0
    have h1 := I.ok.s1
    have h45 := I.ok.hl
    have fl_all := O.o1
    have lq_all := O.o2
    have lo_all := O.o3
    have off : ∀ {x : Addr}, x ∉ A.p :: A.tc :: A.all → ∀ y ∈ A.p :: A.tc :: A.all, y ∉ [x] := fun h y hy z => h (List.mem_singleton.mp z ▸ hy)
    have lq_base : lq ∉ A.p :: A.tc :: A.all := fun z => lq_all (List.mem_cons_of_mem _ z)
    have lo_base : lo ∉ A.p :: A.tc :: A.all := fun z => lo_all (List.mem_cons_of_mem _ (List.mem_cons_of_mem _ z))
    have fl_tp : fl ≠ A.tp := fun z => fl_all (by rw [z]; simp [Ads.all])
    have lq_tp : lq ≠ A.tp := fun z => lq_base (by rw [z]; simp [Ads.all])
    have lo_tp : lo ≠ A.tp := fun z => lo_base (by rw [z]; simp [Ads.all])
    have lo_lq : lo ≠ lq := fun z => lo_all (by rw [z]; simp)
    have lo_fl : lo ≠ fl := fun z => lo_all (by rw [z]; simp)
    have lq_fl : lq ≠ fl := fun z => lq_all (by rw [z]; simp)
    refine q_cut (fun σ' H' => ∃ (v15 v17 v18 v19 : Option V) (M' : NS) (fs : List Int) (qs os : List (Int × Int)), M'.size = M.size ∧ σ' = [some (V.ref a), some (.ref A.tp), some (.int c), some (.int r), some (.int M.size), some (.ref lp), some (.ref fl), some (.ref A.dn), some (.ref A.dk), some (.ref A.dp), some (.ref A.p), some (.ref p2), some (.ref lq), v13, some (.ref lf), v15, some (.ref lo), v17, v18, v19, some (.bl true)] ∧ LI CNet fl lq lo A H0 H' M' fs qs os) (fun Nx kX => ?_) ?_
    · refine s_if ?_
      refine cutT (t := tAnd _ _) (fun b H' => LI CNet fl lq lo A H0 H' M fs qs os ∧ (b = true → 0 < fs.length)) (fun R kR => ?_) ?_
      · k_offL
        have e1 := I.fh
        refine r_lenL (sqL_of e1) ?_
        rw [List.length_map]
        k_offL
        refine ifD (fun e => ?_) (fun e => kR _ _ ⟨I, fun z => nomatch z⟩)
        k_offL
        refine i_pick I.W.tape (by decide) (by decide) fun n Hn an bn tn fn => ?_
        k_offL
        exact kR _ _ ⟨I.pick tn fn fl_tp lq_tp lo_tp, fun _ => by omega⟩
      clear I H1
      rintro b H1 ⟨I, hb⟩
      cases b with
      | true =>
        obtain ⟨fs', y, rfl⟩ : ∃ fs' y, fs = fs' ++ [y] := ⟨fs.dropLast, fs.getLast (List.ne_nil_of_length_pos (hb rfl)), (List.dropLast_concat_getLast _).symm⟩
        obtain ⟨hyn, y0, y1⟩ := I.fr y (by simp)
        obtain ⟨hs', up', pm'⟩ := rise (y :: M.hs) (List.nodup_cons.mpr ⟨hyn, I.ok.nd⟩)
        have hm' : ∀ h, h ∈ hs' ↔ h = y ∨ h ∈ M.hs := fun h => by rw [pm'.mem_iff, List.mem_cons]
        have hl' : hs'.length = M.hs.length + 1 := by rw [pm'.length_eq, List.length_cons]
        have cnt := I.cnt
        rw [List.length_append] at cnt
        have cnt1 : [y].length = 1 := rfl
        have e0 := I.fh
        k_offL
        refine r_pop0 e0 (y := .int y) (by simp) fun H2 e2 f2 => ?_
        rw [List.map_append, show [y].map V.int = [V.int y] from rfl, List.dropLast_concat] at e2
        have W2 := I.W.frn f2 (off fl_all)
        have AO2 := I.old.fr f2 (mem_one lq_fl) (mem_one lo_fl)
        obtain ⟨kn, hn, dN⟩ := W2.tab.nx
        k_offL
        refine r_sortD (.inl hn) dN I.ok.ascF (by omega) fun l3 H3 n3 e3 f3 => ?_
        k_offL
        refine lstk (by show 1 ≤ 100000; decide) fun l4 H4 n4 e4 f4 => ?_
        k_offL
        have f24 := f3.trans f4
        have W4 := W2.ex0 f24
        have AO4 := AO2.fr f24 List.not_mem_nil List.not_mem_nil
        have e24 := f24.at_ _ _ e2 List.not_mem_nil
        refine r_cat (f4.at_ _ _ e3 List.not_mem_nil) e4 (by rw [List.length_map]; show _ + 1 ≤ _; omega) fun lh H5 n5 e5 f5 => ?_
        rw [show M.hs.map V.int ++ [V.int y] = (M.hs ++ [y]).map V.int by rw [List.map_append]; rfl] at e5
        have lh_all : lh ∉ lo :: lq :: fl :: A.p :: A.tc :: A.all := none_off (fun z hz => by
          obtain ⟨lvq, q1, _⟩ := AO4.q
          obtain ⟨lvo, q2, _⟩ := AO4.o
          rcases List.mem_cons.mp hz with e | hz
          · rw [e, q2]; rfl
          rcases List.mem_cons.mp hz with e | hz
          · rw [e, q1]; rfl
          rcases List.mem_cons.mp hz with e | hz
          · rw [e, e24]; rfl
          · exact W4.somes z hz) n5
        have W5 := W4.ex0 f5
        have AO5 := AO4.fr f5 List.not_mem_nil List.not_mem_nil
        have e25 := f5.at_ _ _ e24 List.not_mem_nil
        have lh_base : lh ∉ A.p :: A.tc :: A.all := fun z => lh_all (by simp only [List.mem_cons] at z ⊢; simp [z])
        have lh_tp : lh ≠ A.tp := fun z => lh_base (by rw [z]; simp [Ads.all])
        clear W4 AO4 e24 W2 AO2 hn dN kn e3 e4 n3 n4 n5
        have hlh : (M.hs ++ [y]).length = M.hs.length + 1 := by rw [List.length_append]; rfl
        k_offL
        refine r_lenL (sqL_of e5) ?_
        rw [List.length_map]
        k_offL
        refine i_pick W5.tape (by omega) (by omega) fun m6 H6 a6 b6 t6 f6 => ?_
        have W6 := W5.tape' f6 t6
        have AO6 := AO5.fr f6 (mem_one lq_tp) (mem_one lo_tp)
        have e26 := f6.at_ _ _ e25 (mem_one fl_tp)
        have e56 := f6.at_ _ _ e5 (mem_one lh_tp)
        have g6 : m6.toNat < (M.hs ++ [y]).length := by omega
        refine r_ixL (sqL_of e56) (ix_at m6.toNat (by omega) (ints_get g6)) ?_
        have hx := List.getElem_mem g6
        revert hx
        generalize (M.hs ++ [y])[m6.toNat] = x
        intro hx
        have hx' : x = y ∨ x ∈ M.hs := by
          rcases List.mem_append.mp hx with z | z
          · exact .inr z
          · exact .inl (List.mem_singleton.mp z)
        clear g6 a6 b6 hx
        obtain ⟨kn, hn, dN⟩ := W6.tab.nx
        obtain ⟨kb, hb, dB⟩ := W6.tab.bf
        obtain ⟨lv, hl, ls⟩ := W6.tab.ls
        have dn_dk := W6.tab.ne
        obtain ⟨dn_dp, dk_dp, _⟩ := W6.ne
        k_offL
        refine dputk hn (I.ok.knl dN) fun H7 e7 f7 => ?_
        have T7 : TabAt H7 A.dn A.dk A.dp (M.admit y x hs') := ⟨⟨_, e7, dN.put.cong fun h => by
          unfold NS.mf
          show (if h = y then _ else _) = if h ∈ hs' then some (V.int (if h = y then x else M.f h)) else none
          by_cases e : h = y
          · rw [if_pos e, if_pos ((hm' h).mpr (.inl e)), if_pos e]
          · rw [if_neg e, if_neg e]
            by_cases m : h ∈ M.hs
            · rw [if_pos m, if_pos ((hm' h).mpr (.inr m))]
            · rw [if_neg m, if_neg fun z => ((hm' h).mp z).elim e m]⟩, ⟨kb, f7.at_ _ _ hb (mem_one dn_dk.symm), dB⟩, ⟨lv, f7.at_ _ _ hl (mem_one dn_dp.symm), ls.fr f7⟩, dn_dk⟩
        have f7' : Fr [A.dn, A.dk, A.dp] H6 H7 := f7.mono fun a h => by simp at h; simp [h]
        have W7 := W6.tab' f7' T7
        have q7 : ∀ {z : Addr}, z ∉ A.p :: A.tc :: A.all → z ∉ [A.dn] := fun h m => h (by rw [List.mem_singleton.mp m]; simp [Ads.all])
        have AO7 := AO6.fr f7 (q7 lq_base) (q7 lo_base)
        have e27 := f7.at_ _ _ e26 (q7 fl_all)
        have e57 := f7.at_ _ _ e56 (q7 lh_base)
        obtain ⟨dx7, hp7⟩ := W7.net.ob
        clear W6 AO6 e26 e56 W5 AO5 e25 e5 hn hb hl ls dB T7 t6
        k_offL
        refine dgetk (.inl e7) (by rw [dN.put.val]; exact if_pos rfl) ?_
        k_offL
        refine ⟨A.p, A.da, A.db, A.dl, M, y, x, rfl, W7.net, hyn, hx', y0, y1, I.ok, fun H8 hN8 f8 => ?_⟩
        have f8' : Fr [A.da, A.db, A.dl] H7 H8 := f8.mono fun a h => by simp at h; rcases h with h | h <;> simp [h]
        have W8 := W7.net' f8' (hN8 hs' hm')
        have q8 : ∀ {z : Addr}, z ∉ A.p :: A.tc :: A.all → z ∉ [A.da, A.db] := fun h m => h (by simp at m; rcases m with m | m <;> simp [Ads.all, m])
        have AO8 := AO7.fr f8 (q8 lq_base) (q8 lo_base)
        have e28 := f8.at_ _ _ e27 (q8 fl_all)
        have e58 := f8.at_ _ _ e57 (q8 lh_base)
        clear W7 AO7 e27 e57 hp7 hN8 e7 dN kn
        k_offL
        rw [show decide (V.non = V.non) = true from decide_eq_true rfl]
        k_offL
        refine i_question W8.tape e58 lh_tp (by omega) (by omega) h0 h1 fun t x9 key H9 hx9 k0 k1 e9 t9 f9 => ?_
        have W9 := W8.tape' f9 t9
        have AO9 := AO8.fr f9 (mem_one lq_tp) (mem_one lo_tp)
        have e29 := f9.at_ _ _ e28 (mem_one fl_tp)
        k_offL
        refine r_ixT (sqT_of e9) (v := .int key) rfl ?_
        k_offL
        refine tupk (by show 2 ≤ 100000; decide) fun tq H10 n10 e10 f10 => ?_
        have W10 := W9.ex0 f10
        have AO10 := AO9.fr f10 List.not_mem_nil List.not_mem_nil
        have e210 := f10.at_ _ _ e29 List.not_mem_nil
        obtain ⟨lvq, hq10, prq⟩ := AO10.q
        obtain ⟨lvo, ho10, pro⟩ := AO10.o
        have qc := I.qc
        rw [List.length_append] at qc
        k_offL
        refine r_app hq10 (by rw [prq.len]; omega) fun H11 e11 f11 => ?_
        have W11 := W10.frn f11 (off lq_base)
        have e211 := f11.at_ _ _ e210 (mem_one lq_fl.symm)
        have ho11 := f11.at_ _ _ ho10 (mem_one lo_lq)
        obtain ⟨kn, hn, dN⟩ := W11.tab.nx
        have ok' : (M.admit y x hs').Ok := admit_ok I.ok hyn hx' y0 y1 up' hm' (by omega)
        have nx11 := NS.nxAt ok' hn dN
        have hy' : y ∈ hs' := (hm' y).mpr (.inl rfl)
        k_offL
        refine r_ixT (sqT_of (f11.tp _ _ e10)) (v := .int key) rfl ?_
        k_offL
        refine ⟨M.size, A.dn, hs', (M.admit y x hs').f, y, key, rfl, nx11, hy', by omega, h0, h1, fun ta H12 j an e12 f12 => ?_⟩
        have W12 := W11.ex0 f12
        have ho12 := f12.at_ _ _ ho11 List.not_mem_nil
        have e212 := f12.at_ _ _ e211 List.not_mem_nil
        k_offL
        refine r_app ho12 (by rw [pro.len, AO10.l]; omega) fun H13 e13 f13 => ?_
        have W13 := W12.frn f13 (off lo_base)
        have e213 := f13.at_ _ _ e212 (mem_one lo_fl.symm)
        obtain ⟨say', kp⟩ := admit_good (x := x) I.ok I.say hyn hm'
        have f1013 : Fr [lo, lq] H10 H13 := (f11.mono fun a h => by simp at h; simp [h]).trans ((f12.up).trans (f13.mono fun a h => by simp at h; simp [h]))
        have fin : Fr (lo :: lq :: fl :: A.all) H1 H13 := by
          have g1 : Fr (lo :: lq :: fl :: A.all) H1 H5 := (f2.mono fun a h => by simp at h; simp [h]).trans (f24.trans f5).up
          have g2 : Fr (lo :: lq :: fl :: A.all) H5 H7 := (f6.mono fun a h => by simp at h; simp [Ads.all, h]).trans (f7.mono fun a h => by simp at h; simp [Ads.all, h])
          have g3 : Fr (lo :: lq :: fl :: A.all) H7 H9 := (f8.mono fun a h => by simp at h; rcases h with h | h <;> simp [Ads.all, h]).trans (f9.mono fun a h => by simp at h; simp [Ads.all, h])
          exact (g1.trans g2).trans (g3.trans (f10.up.trans (f1013.mono fun a h => by simp at h; rcases h with h | h <;> simp [h])))
        refine kX _ _ ⟨_, _, _, _, M.admit y x hs', fs', qs ++ [(y, key)], os ++ [(it (M.admit y x hs').f j y, wl M.size (M.admit y x hs').f j y)], rfl, rfl, ⟨W13, ok', say', I.pl, by show 0 < hs'.length; omega, by show hs'.length + fs'.length ≤ 10; omega, e213, fun z hz => ?_, (List.nodup_append.mp I.nd).1, ⟨⟨_, f13.at_ _ _ (f12.at_ _ _ e11 List.not_mem_nil) (mem_one lo_lq.symm), (prq.snoc (p := (y, key)) e10).fr f1013⟩, ⟨_, e13, ((pro.fr (f11.trans f12.up)).snoc (p := (it (M.admit y x hs').f j y, wl M.size (M.admit y x hs').f j y)) e12).fr f13⟩, by rw [List.length_append, List.length_append, AO10.l]; rfl, fun i q o g1 g2 => ?_⟩, by rw [List.length_append]; show qs.length + 1 + fs'.length ≤ 20; omega, I.f.trans fin⟩⟩
        · obtain ⟨z1, z2, z3⟩ := I.fr z (List.mem_append_left _ hz)
          refine ⟨fun m => ((hm' z).mp m).elim (fun e => ?_) z1, z2, z3⟩
          exact (List.nodup_append.mp I.nd).2.2 z hz y (List.mem_singleton.mpr rfl) e
        · by_cases hi : i < qs.length
          · rw [List.getElem?_append_left hi] at g1
            rw [List.getElem?_append_left (by rw [AO10.l]; exact hi)] at g2
            exact (AO10.ok i q o g1 g2).keep kp
          · rw [List.getElem?_append_right (by omega)] at g1
            rw [List.getElem?_append_right (by rw [AO10.l]; omega), AO10.l] at g2
            have hi0 : i - qs.length = 0 := by
              cases hk : i - qs.length with
              | zero => rfl
              | succ k => rw [hk] at g1; simp at g1
            rw [hi0] at g1 g2
            cases g1
            cases g2
            exact ans_new (N := M.admit y x hs') (q := (y, key)) h0 hy' k0 k1 an
      | false =>
        k_offL
        refine ⟨A, M, (), (), rfl, I.W, I.ok, I.pos, I.pl, fun N' H2 st pl W' f2 => ?_⟩
        obtain ⟨say', kp⟩ := st.good I.ok I.say
        have off2 : ∀ {z : Addr}, z ∉ A.p :: A.tc :: A.all → z ∉ A.all := fun h m => h (List.mem_cons_of_mem _ (List.mem_cons_of_mem _ m))
        have AO := I.old.fr f2 (off2 lq_base) (off2 lo_base)
        k_offL
        exact kX _ _ ⟨_, _, _, _, N', fs, qs, os, st.same.2, rfl, ⟨W', st.ok I.ok, say', pl, by rw [st.same.1]; exact I.pos, by rw [st.same.1]; exact I.cnt, f2.at_ _ _ I.fh (off2 fl_all), by rw [st.same.1, st.same.2]; exact I.fr, I.nd, ⟨AO.q, AO.o, AO.l, fun i q o g1 g2 => (AO.ok i q o g1 g2).keep kp⟩, I.qc, I.f.trans (f2.mono fun a h => List.mem_cons_of_mem _ (List.mem_cons_of_mem _ (List.mem_cons_of_mem _ h)))⟩⟩
    clear I h45
    rintro _ H2 ⟨v15, v17, v18, v19, M', fs, qs, os, hz, rfl, I⟩
    have W := I.W
    obtain ⟨dx, hp⟩ := W.net.ob
    k_offL
    refine ⟨A.p, A.da, A.db, A.dl, A.dn, A.dk, A.dp, M', by rw [hz], W.net, W.tab, I.ok, fun H3 f3 => ?_⟩
    k_offL
    refine ⟨A, M', lq, lo, qs, os, (), (), by rw [hz], W.ex0 f3, I.ok, I.old.fr f3 List.not_mem_nil List.not_mem_nil, by have := I.qc; omega, fun z => lo_all (by simp only [List.mem_cons] at z ⊢; rcases z with z | z <;> simp [z]), fun os' H4 AO f4 => ?_⟩
    k_offL
    exact kN M' hz ⟨(W.ex0 f3).frn f4 (off lo_base), I.ok, I.say, I.pl, I.pos, I.cnt, f4.at_ _ _ (f3.at_ _ _ I.fh List.not_mem_nil) (mem_one lo_fl.symm), I.fr, I.nd, AO, I.qc, I.f.trans (f3.up.trans (f4.mono fun a h => by simp at h; simp [h]))⟩
theorem cut_law_end {f : Addr} {cdv : Value} {A : Around} {outer : List Env} {s : Shared} {H : Hp} {E : XK} (G__law_same : GF P w K mg base "_law_same" 5 ["actual", "due"] (spSame 4)) (G_answer : GF P w K mg base "answer" 3 ["net", "house", "key"] (spAnswer CNet)) (G__law_stands : GF P w K mg base "_law_stands" 6 ["net", "size", "nexts", "behinds", "post"] (spStands CNet)) (T : NetT K CNet) (hr : Room 6 (A.deeper (PyProof.Rows.envOfC "law" (defScope s_law) s.heap.objs.size f cdv))) :
    ∃ t : TS, PSs (cxOf CX0 P w K mg base ["script", "tape", "count", "room", "size", "places", "fresh", "nexts", "behinds", "post", "net", "twin", "questions", "k", "firsts", "question", "olds", "first", "place", "hosts", "done"] "law" (defScope s_law) f cdv A outer s H E).nox (List.drop 18 (defBody s_law)) t ∧ ∀ {nx bk ct : L2.St → Hp → Prop} {rt : VK}, ∀ {fl lq lo lp lf p2 da2 db2 dl2 a : Addr} {A : Ads} {c r : Int} {H1 : Hp} {N M : NS} {lvf : List V} {v13 v15 v17 v18 v19 v20 : Option V}, H1 lf = some (.lst lvf) →
  (∀ (i : Nat) x, lvf[i]? = some x → ∃ (q : Int × Int) (tq t ta : Addr), x = .ref t ∧ H1 t = some (.tup [.ref tq, .ref ta]) ∧ H1 tq = some (.tup [.int q.1, .int q.2]) ∧ H1 ta = some (.tup [.int (N.ans q).1, .int (N.ans q).2]) ∧ q.1 ∈ N.hs ∧ 0 ≤ q.2 ∧ q.2 < N.size ∧ ∃ j, Ans N.size N.f q.1 (far N.size q.1 q.2) j) →
  NetAt CNet H1 p2 da2 db2 dl2 N → N.Ok → WW CNet H1 A M M → M.Ok → (∀ H', rt (.bl true) H') →
  t ⟨nx, rt, bk, ct⟩ [some (V.ref a), some (.ref A.tp), some (.int c), some (.int r), some (.int M.size), some (.ref lp), some (.ref fl), some (.ref A.dn), some (.ref A.dk), some (.ref A.dp), some (.ref A.p), some (.ref p2), some (.ref lq), v13, some (.ref lf), v15, some (.ref lo), v17, v18, v19, v20] H1 := by
    refine ⟨_, (pss_cons (ps_for PassesOwn.never rfl (pi_listK (K := K) rfl (pv 14)) (pg_name (i := 17) sc_law.nd rfl (Or.inl rfl))
      (pss_one (ps_if (pt_not (pt_val (c_fn G__law_same (hr.mono (by decide)) (pa_cons (c_fn G_answer (hr.mono (by decide)) (pa_cons (pv 11) (pa_cons (pe_ix (ix_tupK (K := K) rfl) (pe_ix (ix_tupK (K := K) rfl) (pv 17) pe_int (by intro _ _; rfl)) pe_int (by intro _ _; rfl)) (pa_cons (pe_ix (ix_tupK (K := K) rfl) (pe_ix (ix_tupK (K := K) rfl) (pv 17) pe_int (by intro _ _; rfl)) pe_int (by intro _ _; rfl)) pa_nil)))) (pa_cons (pe_ix (ix_tupK (K := K) rfl) (pv 17) pe_int (by intro _ _; rfl)) pa_nil))))) (pss_one (ps_ret pe_bl)) pss_nil)))
      (pss_one (ps_ret (c_fn G__law_stands (hr.mono (by decide)) (pa_cons (pv 10) (pa_cons (pv 4) (pa_cons (pv 7) (pa_cons (pv 8) (pa_cons (pv 9) pa_nil))))))))), ?_⟩
    (try simp only [cxK, cxKX, List.map])
    intro nx bk ct rt
    intro fl lq lo lp lf p2 da2 db2 dl2 a A c r H1 N M lvf v13 v15 v17 v18 v19 v20 hf fst hN okN W ok k
    have h0 := okN.s0
    k_offL
    refine loopLF (M := []) lvf (sqL_of hf) List.not_mem_nil (fun i σ' H' => (∃ v17, σ' = [some (V.ref a), some (.ref A.tp), some (.int c), some (.int r), some (.int M.size), some (.ref lp), some (.ref fl), some (.ref A.dn), some (.ref A.dk), some (.ref A.dp), some (.ref A.p), some (.ref p2), some (.ref lq), v13, some (.ref lf), v15, some (.ref lo), v17, v18, v19, v20]) ∧ Fr [] H1 H')
      ⟨⟨_, rfl⟩, Fr.refl _ _⟩ (fun i σ' H' p => p.2) ?_ ?_
    · rintro i x σ' H2 hx ⟨⟨v17, rfl⟩, f2⟩
      obtain ⟨q, tq, t, ta, rfl, g1, g2, g3, g4, g5, g6, j, an⟩ := fst i x hx
      have g12 := f2.tp _ _ g1
      have g22 := f2.tp _ _ g2
      have g32 := f2.tp _ _ g3
      rw [ans_eq h0 an] at g32
      k_offL
      refine r_ixT (sqT_of g12) (v := .ref tq) rfl ?_
      k_offL
      refine r_ixT (sqT_of g22) (v := .int q.1) rfl ?_
      k_offL
      refine r_ixT (sqT_of g12) (v := .ref tq) rfl ?_
      k_offL
      refine r_ixT (sqT_of g22) (v := .int q.2) rfl ?_
      k_offL
      refine ⟨p2, da2, db2, dl2, N, q.1, q.2, rfl, hN.ex f2, okN, g4, g5, g6, fun tb H3 j' an' e3 f3 => ?_⟩
      obtain rfl := Ans.uniq h0 an an'
      k_offL
      refine r_ixT (sqT_of (f3.tp _ _ g12)) (v := .ref ta) rfl ?_
      k_offL
      refine i_same _ (pairs_eq e3) (pairs_eq (f3.tp _ _ g32)) (pfit _ _) fun H4 f4 => ?_
      k_offL
      exact ⟨⟨_, rfl⟩, f2.trans (f3.trans f4)⟩
    · rintro σ' H2 ⟨⟨v17, rfl⟩, f2⟩
      k_offL
      exact ⟨A.p, A.da, A.db, A.dl, A.dn, A.dk, A.dp, M, rfl, W.net.ex f2, W.tab.ex f2, ok, fun H3 f3 => k H3⟩
theorem ok_law {f : Addr} {fd : FuncData} (F : Fun K "law" "law" s_law f fd) (G__law_tape : GF P w K mg base "_law_tape" 1 ["script"] (spTape K)) (G__law_pick : GF P w K mg base "_law_pick" 1 ["tape", "size"] spPick) (G__law_size : GF P w K mg base "_law_size" 2 ["tape", "count"] spSize) (G__law_places : GF P w K mg base "_law_places" 2 ["tape", "size", "count"] spPlaces) (G__law_rings : GF P w K mg base "_law_rings" 3 ["tape", "places"] spLawNexts) (G__law_start : GF P w K mg base "_law_start" 3 ["tape", "size", "nexts", "places", "behinds", "post"] spStart) (N_Net_befores_letters : GC P w K mg base CNet "Net" 3 ["self", "size", "nexts", "befores", "letters"] 2 ["befores", "letters"] (fun vs zs => vs ++ zs) (spNetInit CNet)) (m_list : mg "list" = none) (m_dict : mg "dict" = none) (G_Net_clone : GM P w K mg base CNet "clone" 5 ["self"] (spClone CNet)) (m_range : mg "range" = none) (G__law_question : GF P w K mg base "_law_question" 2 ["tape", "size", "houses"] spLawQuestion) (G__law_answer : GF P w K mg base "_law_answer" 2 ["size", "nexts", "house", "key"] spLawAnswer) (G__law_closer : GF P w K mg base "_law_closer" 6 ["net", "size", "nexts", "questions", "olds"] (spCloser CNet)) (m_len : mg "len" = none) (m_sorted : mg "sorted" = none) (G_Net_admit : GM P w K mg base CNet "admit" 2 ["self", "place", "host"] (spAdmit CNet)) (G__law_step : GF P w K mg base "_law_step" 7 ["tape", "net", "size", "nexts", "behinds", "post"] (spDeed CNet)) (G__law_stands : GF P w K mg base "_law_stands" 6 ["net", "size", "nexts", "behinds", "post"] (spStands CNet)) (G__law_same : GF P w K mg base "_law_same" 5 ["actual", "due"] (spSame 4)) (G_answer : GF P w K mg base "answer" 3 ["net", "house", "key"] (spAnswer CNet)) (T : NetT K CNet) : FnOk P w K mg base CX0 8 f fd ["script"] (spLaw K) := by
  refine F.ok sc_law (fun vs H Q E h => ?_) (fun cdv A outer s H vs Q E hr h => ?_)
  · obtain ⟨_, _, rfl, _⟩ := h; rfl
  · obtain ⟨a, ns, rfl, hS, hlen, k⟩ := h
    obtain ⟨t_main, d_main, c_main⟩ := cut_law_main (w := w) (f := f) (cdv := cdv) (A := A) (outer := outer) (s := s) (H := H) (E := E) G__law_pick m_len m_sorted G_Net_admit G__law_question G__law_answer G__law_step G__law_stands G__law_closer T (hr.mono (by decide))
    obtain ⟨t_end, d_end, c_end⟩ := cut_law_end (w := w) (f := f) (cdv := cdv) (A := A) (outer := outer) (s := s) (H := H) (E := E) G__law_same G_answer G__law_stands T (hr.mono (by decide))
    refine ⟨_, (pss_cons (ps_set (i := 1) sc_law.nd rfl (Or.inr rfl) (c_fn G__law_tape (hr.mono (by decide)) (pa_cons (pv 0) pa_nil)))
      (pss_cons (ps_set (i := 2) sc_law.nd rfl (Or.inr rfl) (pe_op op_add pe_int (c_fn G__law_pick (hr.mono (by decide)) (pa_cons (pv 1) (pa_cons pe_int pa_nil)))))
      (pss_cons (ps_if (pt_cmpR op_eq (c_fn G__law_pick (hr.mono (by decide)) (pa_cons (pv 1) (pa_cons pe_int pa_nil))) pe_int (nomark _)) (pss_one (ps_set (i := 2) sc_law.nd rfl (Or.inr rfl) (pe_op op_add pe_int (c_fn G__law_pick (hr.mono (by decide)) (pa_cons (pv 1) (pa_cons pe_int pa_nil)))))) pss_nil)
      (pss_cons (ps_set (i := 3) sc_law.nd rfl (Or.inl rfl) (c_fn G__law_pick (hr.mono (by decide)) (pa_cons (pv 1) (pa_cons pe_int pa_nil))))
      (pss_cons (ps_set (i := 4) sc_law.nd rfl (Or.inr rfl) (c_fn G__law_size (hr.mono (by decide)) (pa_cons (pv 1) (pa_cons (pe_op op_add (pv 2) (pv 3)) pa_nil))))
      (pss_cons (ps_set (i := 5) sc_law.nd rfl (Or.inr rfl) (c_fn G__law_places (hr.mono (by decide)) (pa_cons (pv 1) (pa_cons (pv 4) (pa_cons (pe_op op_add (pv 2) (pv 3)) pa_nil)))))
      (pss_cons (ps_set (i := 6) sc_law.nd rfl (Or.inl rfl) (pe_slice (sl_listK (K := K) rfl) (pv 5) (po_some (pv 2)) po_none))
      (pss_cons (ps_set (i := 7) sc_law.nd rfl (Or.inr rfl) (c_fn G__law_rings (hr.mono (by decide)) (pa_cons (pv 1) (pa_cons (pe_slice (sl_listK (K := K) rfl) (pv 5) po_none (po_some (pv 2))) pa_nil))))
      (pss_cons (ps_set (i := 8) sc_law.nd rfl (Or.inl rfl) pe_dnewK)
      (pss_cons (ps_set (i := 9) sc_law.nd rfl (Or.inl rfl) (pe_lst pa_nil))
      (pss_cons (ps_if (pt_cmpR op_eq (c_fn G__law_pick (hr.mono (by decide)) (pa_cons (pv 1) (pa_cons pe_int pa_nil))) pe_int (nomark _)) (pss_one (ps_expr (c_fn G__law_start (hr.mono (by decide)) (pa_cons (pv 1) (pa_cons (pv 4) (pa_cons (pv 7) (pa_cons (pe_slice (sl_listK (K := K) rfl) (pv 5) po_none (po_some (pv 2))) (pa_cons (pv 8) (pa_cons (pv 9) pa_nil))))))))) pss_nil)
      (pss_cons (ps_set (i := 10) sc_law.nd rfl (Or.inl rfl) (c_mk N_Net_befores_letters (hr.mono (by decide)) (pa_cons (pv 4) (pa_cons (pe_callTy cb_dictD (by rfl) m_dict b_dict (pa_cons (pv 7) pa_nil)) pa_nil)) (pk_cons (pe_callTy cb_dictD (by rfl) m_dict b_dict (pa_cons (pv 8) pa_nil)) (pk_cons (pe_callTy (cb_listOfK (K := K) rfl) (by rfl) m_list b_list (pa_cons (pv 9) pa_nil)) pk_nil))))
      (pss_cons (ps_set (i := 11) sc_law.nd rfl (Or.inl rfl) (c_mt0 G_Net_clone (hr.mono (by decide)) (pv 10)))
      (pss_cons (ps_setLc (i := 12) (own := [("k", 13)]) (g := gName 13) rfl sc_law.nd rfl rfl (sw_true rfl rfl rfl (by decide +kernel)) (pi_range1 (by rfl) m_range (pa_cons (pe_op op_add pe_int (c_fn G__law_pick (hr.mono (by decide)) (pa_cons (pv 1) (pa_cons pe_int pa_nil)))) pa_nil)) (blkOk_by (N := ["script", "tape", "count", "room", "size", "places", "fresh", "nexts", "behinds", "post", "net", "twin", "questions", "k", "firsts", "question", "olds", "first", "place", "hosts", "done"]) (sc := defScope s_law) (by decide +kernel)) (fun _ _ _ _ _ => (pg_name (i := 13) sc_law.nd rfl (Or.inl rfl))) (fun _ _ _ _ _ => pts_nil) (fun _ _ _ _ _ => (c_fn G__law_question (hr.mono (by decide)) (pa_cons (pv 1) (pa_cons (pv 4) (pa_cons (pe_slice (sl_listK (K := K) rfl) (pv 5) po_none (po_some (pv 2))) pa_nil))))))
      (pss_cons (ps_setLc (i := 14) (own := [("question", 15)]) (g := gName 15) rfl sc_law.nd rfl rfl (sw_true rfl rfl rfl (by decide +kernel)) (pi_listK (K := K) rfl (pv 12)) (blkOk_by (N := ["script", "tape", "count", "room", "size", "places", "fresh", "nexts", "behinds", "post", "net", "twin", "questions", "k", "firsts", "question", "olds", "first", "place", "hosts", "done"]) (sc := defScope s_law) (by decide +kernel)) (fun _ _ _ _ _ => (pg_name (i := 15) sc_law.nd rfl (Or.inl rfl))) (fun _ _ _ _ _ => pts_nil) (fun _ _ _ _ _ => (pe_tup (pa_cons (pv 15) (pa_cons (c_fn G__law_answer (hr.mono (by decide)) (pa_cons (pv 4) (pa_cons (pv 7) (pa_cons (pe_ix (ix_tupK (K := K) rfl) (pv 15) pe_int (by intro _ _; rfl)) (pa_cons (pe_ix (ix_tupK (K := K) rfl) (pv 15) pe_int (by intro _ _; rfl)) pa_nil))))) pa_nil)))))
      (pss_cons (ps_setLc (i := 16) (own := [("first", 17)]) (g := gName 17) rfl sc_law.nd rfl rfl (sw_true rfl rfl rfl (by decide +kernel)) (pi_listK (K := K) rfl (pv 14)) (blkOk_by (N := ["script", "tape", "count", "room", "size", "places", "fresh", "nexts", "behinds", "post", "net", "twin", "questions", "k", "firsts", "question", "olds", "first", "place", "hosts", "done"]) (sc := defScope s_law) (by decide +kernel)) (fun _ _ _ _ _ => (pg_name (i := 17) sc_law.nd rfl (Or.inl rfl))) (fun _ _ _ _ _ => pts_nil) (fun _ _ _ _ _ => (pe_ix (ix_tupK (K := K) rfl) (pv 17) pe_int (by intro _ _; rfl))))
      (pss_cons (ps_if (pt_not (pt_val (c_fn G__law_closer (hr.mono (by decide)) (pa_cons (pv 10) (pa_cons (pv 4) (pa_cons (pv 7) (pa_cons (pv 12) (pa_cons (pv 16) pa_nil)))))))) (pss_one (ps_ret pe_bl)) pss_nil)
      (pss_cons (ps_for PassesOwn.never rfl (pi_range1 (by rfl) m_range (pa_cons (pe_op op_add pe_int (c_fn G__law_pick (hr.mono (by decide)) (pa_cons (pv 1) (pa_cons pe_int pa_nil)))) pa_nil)) (pg_name (i := 13) sc_law.nd rfl (Or.inl rfl))
      d_main)
      d_end)))))))))))))))))), ?_⟩
    (try simp only [cxK, cxKX, List.map])
    refine ent (σ' := [some _, none, none, none, none, none, none, none, none, none, none, none, none, none, none, none, none, none, none, none, none]) rfl ?_
    k_offL
    refine ⟨a, ns, rfl, hS, hlen, fun tp tc H1 ntp ntc t1 f1 => ?_⟩
    k_offL
    refine i_pick t1 (by decide) (by decide) fun n2 H2 a2 b2 t2 f2 => ?_
    k_places
    refine q_cut (fun σ' H' => ∃ c : Nat, σ' = [some (V.ref a), some (.ref tp), some (.int (c : Int)), none, none, none, none, none, none, none, none, none, none, none, none, none, none, none, none, none, none] ∧ 1 ≤ c ∧ c ≤ 7 ∧ TapeAt H' tp tc) (fun Nx kN => ?_) ?_
    · k_offL
      refine i_pick t2 (by decide) (by decide) fun n3 H3 a3 b3 t3 f3 => ?_
      k_offL
      refine ifD (fun e => ?_) (fun e => ?_)
      · k_offL
        refine i_pick t3 (by decide) (by decide) fun n4 H4 a4 b4 t4 f4 => ?_
        k_offL
        refine kN _ _ ⟨(1 + n4).toNat, ?_, by omega, by omega, t4⟩
        rw [show (((1 + n4).toNat : Nat) : Int) = 1 + n4 by omega]
      · k_offL
        refine kN _ _ ⟨(2 + n2).toNat, ?_, by omega, by omega, t3⟩
        rw [show (((2 + n2).toNat : Nat) : Int) = 2 + n2 by omega]
    clear a2 b2 t2 f2 t1 f1 hS ntp ntc H1 H2 n2 hlen
    rintro _ H2 ⟨c, rfl, c1, c7, t2⟩
    k_offL
    refine i_pick t2 (by decide) (by decide) fun r H3 a3 b3 t3 f3 => ?_
    k_offL
    refine ⟨tp, tc, _, (), rfl, t3, by omega, by omega, fun z H4 z1 zc z31 t4 f4 => ?_⟩
    k_offL
    refine ⟨tp, tc, z, (c : Int) + r, (), rfl, t4, by omega, zc, by omega, by omega, fun lp ps H5 n5 e5 hl5 pl5 t5 f5 => ?_⟩
    have lp_tp : lp ≠ tp := by obtain ⟨_, _, _, _, _, tt, tcs, _⟩ := t4.ex; exact (ne_of_none tt n5).symm
    have lp_tc : lp ≠ tc := by obtain ⟨_, _, _, _, _, tt, tcs, _⟩ := t4.ex; exact (ne_of_none tcs n5).symm
    clear t2 t3 t4 f3 f4 f5 n5 H2 H3 H4
    k_offL
    refine r_slL (sqL_of e5) fun fl H6 n6 e6 f6 => ?_
    rw [cut_from, ← List.map_drop] at e6
    have fl_tp : fl ≠ tp := by obtain ⟨_, _, _, _, _, tt, tcs, _⟩ := t5.ex; exact (ne_of_none tt n6).symm
    have fl_tc : fl ≠ tc := by obtain ⟨_, _, _, _, _, tt, tcs, _⟩ := t5.ex; exact (ne_of_none tcs n6).symm
    have fl_lp : fl ≠ lp := (ne_of_none e5 n6).symm
    have t6 := t5.ex0 f6
    have e56 := f6.at_ _ _ e5 List.not_mem_nil
    k_offL
    refine r_slL (sqL_of e56) fun lq H7 n7 e7 f7 => ?_
    rw [cut_to, ← List.map_take] at e7
    have lq_tp : lq ≠ tp := by obtain ⟨_, _, _, _, _, tt, tcs, _⟩ := t6.ex; exact (ne_of_none tt n7).symm
    k_offL
    refine ⟨tp, tc, lq, ps.take c, (), rfl, t6.ex0 f7, e7, lq_tp, by rw [List.length_take]; omega, fun dn kn H8 n8 e8 nx8 t8 f8 => ?_⟩
    have e58 := f8.at_ _ _ (f7.at_ _ _ e56 List.not_mem_nil) (mem_one lp_tp)
    have e68 := f8.at_ _ _ (f7.at_ _ _ e6 List.not_mem_nil) (mem_one fl_tp)
    clear t5 t6 f6 f7 f8 n6 n7 e7 e6 e5 e56 lq_tp n8 H5 H6 H7
    k_offL
    refine newk fun dk H9 n9 e9 f9 => ?_
    have dn_dk : dn ≠ dk := ne_of_none e8 n9
    have t9 := t8.ex0 f9
    have e59 := f9.at_ _ _ e58 List.not_mem_nil
    have e69 := f9.at_ _ _ e68 List.not_mem_nil
    have e89 := f9.at_ _ _ e8 List.not_mem_nil
    k_offL
    refine lstk (by show 0 ≤ 100000; decide) fun dp H10 n10 e10 f10 => ?_
    have dp_tp : dp ≠ tp := by obtain ⟨_, _, _, _, _, tt, tcs, _⟩ := t9.ex; exact (ne_of_none tt n10).symm
    have dp_tc : dp ≠ tc := by obtain ⟨_, _, _, _, _, tt, tcs, _⟩ := t9.ex; exact (ne_of_none tcs n10).symm
    have dp_lp : dp ≠ lp := (ne_of_none e59 n10).symm
    have dp_fl : dp ≠ fl := (ne_of_none e69 n10).symm
    have t10 := t9.ex0 f10
    have e510 := f10.at_ _ _ e59 List.not_mem_nil
    have e610 := f10.at_ _ _ e69 List.not_mem_nil
    have e810 := f10.at_ _ _ e89 List.not_mem_nil
    have e910 := f10.at_ _ _ e9 List.not_mem_nil
    clear t8 t9 e58 e68 e59 e69 e89 e8 e9 f9 f10 n9 n10 lq H8 H9
    obtain ⟨g, dg, gm, _⟩ := nx8
    have ndc : (ps.take c).Nodup := pl5.nd.sublist (List.take_sublist _ _)
    obtain ⟨hs, hup, hpm⟩ := rise _ ndc
    have hmem : ∀ {x}, x ∈ hs ↔ x ∈ ps.take c := fun {x} => hpm.mem_iff
    have hlen : hs.length = c := by rw [hpm.length_eq, List.length_take]; omega
    have T10 : TabAt H10 dn dk dp ⟨z, hs, g, fun _ => none, []⟩ := ⟨⟨kn, e810, dg.cong fun h => by
      unfold NS.mf
      by_cases m : h ∈ ps.take c
      · rw [if_pos m, if_pos (hmem.mpr m)]
      · rw [if_neg m, if_neg fun q => m (hmem.mp q)]⟩, ⟨[], e910, DOk.nil.cong fun n => rfl⟩, ⟨[], e10, .nil⟩, dn_dk⟩
    have ok0 : NS.Ok ⟨z, hs, g, fun _ => none, []⟩ := ⟨by show 0 < z; omega, by show z < 2 ^ 40; omega, hup, fun h hh => pl5.on h (List.mem_of_mem_take (hmem.mp hh)), fun h hh => hmem.mpr (gm h (hmem.mp hh)), (fun _ _ e => nomatch e), (fun _ e => nomatch e), by show hs.length ≤ 45; omega, Nat.zero_le _⟩
    have say0 : NS.Say ⟨z, hs, g, fun _ => none, []⟩ := ⟨(fun _ _ e => nomatch e), (fun _ _ e => nomatch e), (fun _ _ _ e => nomatch e)⟩
    k_places
    refine q_cut (fun σ' H' => σ' = [some (V.ref a), some (.ref tp), some (.int (c : Int)), some (.int r), some (.int z), some (.ref lp), some (.ref fl), some (.ref dn), some (.ref dk), some (.ref dp), none, none, none, none, none, none, none, none, none, none, none] ∧ ∃ N : NS, N.hs = hs ∧ N.size = z ∧ N.Ok ∧ N.Say ∧ N.post.length ≤ 40 ∧ TabAt H' dn dk dp N ∧ TapeAt H' tp tc ∧ Fr [tp, dk, dp] H10 H') (fun Nx kN => ?_) ?_
    · k_offL
      refine i_pick t10 (by decide) (by decide) fun n11 H11 a11 b11 t11 f11 => ?_
      have dn_tp : dn ≠ tp := by obtain ⟨_, _, _, _, _, tt, tcs, _⟩ := t10.ex; exact ne_of e810 tt (fun z => nomatch z)
      have dk_tp : dk ≠ tp := by obtain ⟨_, _, _, _, _, tt, tcs, _⟩ := t10.ex; exact ne_of e910 tt (fun z => nomatch z)
      have T11 := T10.fr f11 (mem_one dn_tp) (mem_one dk_tp) (mem_one dp_tp)
      have f11' : Fr [tp, dk, dp] H10 H11 := f11.mono fun a h => by simp at h; simp [h]
      k_offL
      refine ifD (fun e => ?_) (fun e => ?_)
      · k_offL
        refine r_slL (sqL_of (f11.at_ _ _ e510 (mem_one lp_tp))) fun lq H12 n12 e12 f12 => ?_
        rw [cut_to, ← List.map_take] at e12
        have q1 : lq ≠ tp := by obtain ⟨_, _, _, _, _, tt, tcs, _⟩ := t11.ex; exact (ne_of_none tt n12).symm
        have q2 : lq ≠ tc := by obtain ⟨_, _, _, _, _, tt, tcs, _⟩ := t11.ex; exact (ne_of_none tcs n12).symm
        have q3 : lq ≠ dp := by obtain ⟨_, w, _⟩ := T11.ls; exact (ne_of_none w n12).symm
        k_offL
        refine ⟨tp, tc, dn, lq, dk, dp, ⟨z, hs, g, fun _ => none, []⟩, ps.take c, rfl, T11.ex f12, t11.ex0 f12, e12, ok0, say0, rfl, fun x hx => hmem.mpr hx, by rw [List.length_take]; omega, by simp [dp_tp, dp_tc, Ne.symm q1, Ne.symm q2, Ne.symm q3, Ne.symm t11.ne], fun N' H13 e1 e2 e3 okN sayN pN TN tN fN => ?_⟩
        k_offL
        exact kN _ _ ⟨rfl, N', e2, e3, okN, sayN, by rw [List.length_take] at pN; omega, TN, tN, (f11'.trans f12.up).trans fN⟩
      · k_offL
        exact kN _ _ ⟨rfl, _, rfl, rfl, ok0, say0, Nat.zero_le _, T11, t11, f11'⟩
    rintro _ H11 ⟨rfl, N, hNh, hNz, okN, sayN, pN, T11, t11, f11⟩
    have fl_tape : fl ∉ [tp, dk, dp] := by
      have : fl ≠ dk := ne_of e610 e910 (fun z => nomatch z)
      simp [fl_tp, this, Ne.symm dp_fl]
    have lp_tape : lp ∉ [tp, dk, dp] := by
      have : lp ≠ dk := ne_of e510 e910 (fun z => nomatch z)
      simp [lp_tp, this, Ne.symm dp_lp]
    have e511 := f11.at_ _ _ e510 lp_tape
    have e611 := f11.at_ _ _ e610 fl_tape
    have hfr : ∀ x ∈ ps.drop c, x ∉ N.hs ∧ 0 ≤ x ∧ x < N.size := fun x hx => ⟨fun h => by
      rw [hNh] at h
      have h1 := hmem.mp h
      have nd := pl5.nd
      rw [← List.take_append_drop c ps] at nd
      exact (List.nodup_append.mp nd).2.2 x h1 x hx rfl, by rw [hNz]; exact pl5.on x (List.mem_of_mem_drop hx)⟩
    have hfnd : (ps.drop c).Nodup := pl5.nd.sublist (List.drop_sublist _ _)
    have hfl : (ps.drop c).length ≤ 2 := by rw [List.length_drop]; omega
    have hpc : ∀ x ∈ ps.take c, x ∈ N.hs := fun x hx => by rw [hNh]; exact hmem.mpr hx
    have hN7 : N.hs.length = c := by rw [hNh]; exact hlen
    have hpl : c ≤ ps.length := by omega
    clear T10 t10 ok0 say0 f11 e510 e610 e810 e910 hmem hpm hup dg gm ndc fl_tape lp_tape e10 hNh
    subst hNz
    revert e611 hfr hfnd hfl
    generalize ps.drop c = fs
    intro e611 hfr hfnd hfl
    obtain ⟨kn, hn, dN⟩ := T11.nx
    obtain ⟨kb, hb, dB⟩ := T11.bf
    obtain ⟨lv, hl, ls⟩ := T11.ls
    k_offL
    refine r_dictD (.inl hn) fun d1 H12 n12 e12 f12 => ?_
    k_offL
    refine r_dictD (.inl (f12.at_ _ _ hb List.not_mem_nil)) fun d2 H13 n13 e13 f13 => ?_
    k_offL
    refine r_listL (sqL_of ((f12.trans f13).at_ _ _ hl List.not_mem_nil)) fun l3 H14 n14 e14 f14 => ?_
    k_offL
    have f1114 := (f12.trans f13).trans f14
    refine i_net (N := N) (kn := kn) rfl rfl (fun x => rfl) ((f13.trans f14).at_ _ _ e12 List.not_mem_nil) dN (.inr ⟨d2, kb, rfl, f14.at_ _ _ e13 List.not_mem_nil, dB⟩) (.inr ⟨l3, lv, rfl, e14, ls.fr f1114⟩) okN fun p da db dl H15 m1 m2 m3 m4 hN15 f15 => ?_
    have f1115 := f1114.trans f15
    have T15 := T11.ex f1115
    have t15 := t11.ex0 f1115
    have hn14 := f1114.at_ _ _ hn List.not_mem_nil
    have hb14 := f1114.at_ _ _ hb List.not_mem_nil
    have hl14 := f1114.at_ _ _ hl List.not_mem_nil
    have W15 : WW CNet H15 ⟨p, da, db, dl, dn, dk, dp, tp, tc⟩ N N := by
      obtain ⟨_, _, _, _, _, tt, tcs, _⟩ := (t11.ex0 f1114).ex
      exact WW.mk' hN15 T15 t15 ⟨(ne_of_none hn14 m2).symm, (ne_of_none hb14 m2).symm⟩ ⟨(ne_of_none hn14 m3).symm, (ne_of_none hb14 m3).symm⟩ ⟨(ne_of_none hl14 m4).symm, (ne_of_none tt m4).symm, (ne_of_none tcs m4).symm⟩ ⟨dp_tp, dp_tc⟩
    have e515 := f1115.at_ _ _ e511 List.not_mem_nil
    have e615 := f1115.at_ _ _ e611 List.not_mem_nil
    have fl_new : ∀ y ∈ [p, da, db, dl], fl ≠ y := fun y hy => by
      have e614 := f1114.at_ _ _ e611 List.not_mem_nil
      simp at hy
      rcases hy with h | h | h | h <;> subst h
      · exact ne_of_none e614 m1
      · exact ne_of_none e614 m2
      · exact ne_of_none e614 m3
      · exact ne_of_none e614 m4
    clear f15 f1115 f1114 f12 f13 f14 n12 n13 n14 e12 e13 e14 m1 m2 m3 m4 hn14 hb14 hl14 e511 e611 T11 T15 t11 t15 hn hb hl ls lv dN dB kn kb H11 H12 H13 H14 d1 d2 l3
    obtain ⟨A, q1, q2, q3, q4, q5, q6, q7, q8, q9⟩ : ∃ A : Ads, A.p = p ∧ A.da = da ∧ A.db = db ∧ A.dl = dl ∧ A.dn = dn ∧ A.dk = dk ∧ A.dp = dp ∧ A.tp = tp ∧ A.tc = tc := ⟨⟨p, da, db, dl, dn, dk, dp, tp, tc⟩, rfl, rfl, rfl, rfl, rfl, rfl, rfl, rfl, rfl⟩
    subst q1 q2 q3 q4 q5 q6 q7 q8 q9
    have W15' : WW CNet H15 A N N := W15
    clear W15 hN15
    obtain ⟨dx, hp15⟩ := W15'.net.ob
    k_offL
    refine ⟨A.p, A.da, A.db, A.dl, N, rfl, W15'.net, okN, fun p2 da2 db2 dl2 H16 x1 x2 x3 x4 hN16 f16 => ?_⟩
    have W16 := W15'.ex0 f16
    have e516 := f16.at_ _ _ e515 List.not_mem_nil
    have e616 := f16.at_ _ _ e615 List.not_mem_nil
    have tw : ∀ y ∈ fl :: A.all, (H15 y).isSome = true := fun y hy => by
      obtain ⟨_, ha, _⟩ := W15'.net.nx
      obtain ⟨_, hb, _⟩ := W15'.net.bf
      obtain ⟨_, hl, _⟩ := W15'.net.ls
      obtain ⟨_, hn, _⟩ := W15'.tab.nx
      obtain ⟨_, hk, _⟩ := W15'.tab.bf
      obtain ⟨_, hq, _⟩ := W15'.tab.ls
      obtain ⟨_, _, _, _, _, tt, tcs, _⟩ := W15'.tape.ex
      have tt' : H15 A.tp = _ := tt
      simp only [Ads.all, List.mem_cons, List.not_mem_nil, or_false] at hy
      rcases hy with h | h | h | h | h | h | h | h <;> rw [h]
      · rw [e615]; rfl
      · rw [ha]; rfl
      · rw [hb]; rfl
      · rw [hl]; rfl
      · rw [hn]; rfl
      · rw [hk]; rfl
      · rw [hq]; rfl
      · rw [tt']; rfl
    have twin : ∀ x, H15 x = none → x ∉ fl :: A.all := fun x hx hm => by have := tw x hm; rw [hx] at this; cases this
    have y1 := twin p2 x1
    have y2 := twin da2 x2
    have y3 := twin db2 x3
    have y4 := twin dl2 x4
    have fl_all : fl ∉ A.p :: A.tc :: A.all := by
      have g1 := fl_new A.p (by simp)
      have g2 := fl_new A.da (by simp)
      have g3 := fl_new A.db (by simp)
      have g4 := fl_new A.dl (by simp)
      obtain ⟨_, hn, _⟩ := W15'.tab.nx
      obtain ⟨_, hk, _⟩ := W15'.tab.bf
      have g5 : fl ≠ A.dn := ne_of e615 hn (fun z => nomatch z)
      have g6 : fl ≠ A.dk := ne_of e615 hk (fun z => nomatch z)
      simp [Ads.all, g1, g2, g3, g4, g5, g6, fl_tp, fl_tc, Ne.symm dp_fl]
    clear tw twin x1 x2 x3 x4 f16 e515 e615 W15' hp15 fl_new fl_tp fl_tc dp_fl dp_tp dp_tc dn_dk H15 H10
    have h0 := okN.s0
    have h1 := okN.s1
    have hlps : (ps.take c).length = c := by rw [List.length_take]; omega
    k_offL
    refine i_pick W16.tape (by decide) (by decide) fun n H17 a17 b17 t17 f17 => ?_
    have W17 := W16.tape' f17 t17
    have e517 := f17.at_ _ _ e516 (mem_one lp_tp)
    have e617 : H17 fl = _ := f17.at_ _ _ e616 (fun z => fl_all (by simp at z; simp [Ads.all, z]))
    have hN17 : NetAt CNet H17 p2 da2 db2 dl2 N := by
      have z : ∀ {y : Addr}, y ∉ fl :: A.all → y ∉ [A.tp] := fun h m => h (by simp at m; simp [Ads.all, m])
      exact hN16.fr f17 (z y1) (z y2) (z y3) (z y4)
    clear W16 e516 e616 hN16 f17 t17 H16
    k_offL
    refine ⟨1 + n, rfl, by omega, by omega, ?_⟩
    refine lcW (walk_range (lo := 0)) (fun i acc H' => ∃ qs : List (Int × Int), qs.length = i ∧ PrIs H' qs acc ∧ (∀ q ∈ qs, q.1 ∈ ps.take c ∧ 0 ≤ q.2 ∧ q.2 < N.size) ∧ TapeAt H' A.tp A.tc ∧ Fr [A.tp] H17 H')
      (fun D H' _ _ f => ⟨[], rfl, .nil, (fun _ h => nomatch h), W17.tape.ex0 f, f.up⟩) (fun _ _ _ _ _ => trivial) (by omega) (fun i acc H' ⟨qs, l, pr, _⟩ => by rw [pr.len, l]; exact Nat.le_refl _) ?_ ?_
    · rintro D i x acc H0 H' hi hD eD ⟨qs, ql, pr, qok, tq, fq⟩ ⟨rfl, _⟩
      have Dt : D ≠ A.tp := by obtain ⟨_, _, _, _, _, tt, tcs, _⟩ := W17.tape.ex; exact (ne_of_none tt hD).symm
      have Dc : D ≠ A.tc := by obtain ⟨_, _, _, _, _, tt, tcs, _⟩ := W17.tape.ex; exact (ne_of_none tcs hD).symm
      refine sk13 fun R1 R2 kA kB kC => kB _ ?_
      k_offL
      refine r_slL (sqL_of (fq.at_ _ _ e517 (mem_one lp_tp))) fun l8 H8 n8 e8 f8 => ?_
      rw [cut_to, ← List.map_take] at e8
      have l8t : l8 ≠ A.tp := by obtain ⟨_, _, _, _, _, tt, tcs, _⟩ := tq.ex; exact (ne_of_none tt n8).symm
      k_offL
      refine i_question (tq.ex0 f8) e8 l8t (by omega) (by omega) h0 h1 fun t x key H9 hx k0 k1 e9 t9 f9 => ?_
      refine kA _ _ (f9.at_ _ _ (f8.at_ _ _ eD List.not_mem_nil) (mem_one Dt)) fun H10 e10 f10 => ?_
      refine ⟨qs ++ [(x, key)], by rw [List.length_append, ql]; rfl, ((pr.fr (f8.up.trans f9)).snoc (p := (x, key)) e9).fr f10, fun q hq => ?_, t9.fr f10 (mem_one Dt.symm) (mem_one Dc.symm), ?_⟩
      · rcases List.mem_append.mp hq with w | w
        · exact qok q w
        · rw [List.mem_singleton.mp w]; exact ⟨hx, k0, k1⟩
      · exact (fq.trans (f8.up.trans f9)).drop (f10.mono fun a h => by simp at h; simp [h]) hD
    rintro lq H18 lvq nq eq ⟨qs, ql, prq, qok, t18, f18⟩
    have W18 := W17.tape' f18 t18
    have lq_all : lq ∉ fl :: A.p :: A.tc :: A.all := none_off (fun y hy => by
      rcases List.mem_cons.mp hy with e | e
      · rw [e, e617]; rfl
      · exact W17.somes y e) nq
    have e618 : H18 fl = _ := f18.at_ _ _ e617 (fun z => fl_all (by simp at z; simp [Ads.all, z]))
    have e518 := f18.at_ _ _ e517 (mem_one lp_tp)
    have hN18 : NetAt CNet H18 p2 da2 db2 dl2 N := by
      have z : ∀ {y : Addr}, y ∉ fl :: A.all → y ∉ [A.tp] := fun h m => h (by simp at m; simp [Ads.all, m])
      exact hN17.fr f18 (z y1) (z y2) (z y3) (z y4)
    have lq_tw : ∀ y ∈ [p2, da2, db2, dl2], lq ≠ y := fun y hy => by
      obtain ⟨_, g1⟩ := hN17.ob
      obtain ⟨_, g2, _⟩ := hN17.nx
      obtain ⟨_, g3, _⟩ := hN17.bf
      obtain ⟨_, g4, _⟩ := hN17.ls
      simp at hy
      rcases hy with h | h | h | h <;> subst h
      · exact (ne_of_none g1 nq).symm
      · exact (ne_of_none g2 nq).symm
      · exact (ne_of_none g3 nq).symm
      · exact (ne_of_none g4 nq).symm
    clear W17 e517 e617 hN17 t18 f18 nq H17
    obtain ⟨kn, hn, dN⟩ := W18.tab.nx
    have nx18 := NS.nxAt okN hn dN
    have hl45 := okN.hl
    k_offL
    refine walkL (sqL_of eq) ?_
    refine lcP (walk_list (xs := lvq)) lvq rfl (fun i H0 x H' _ y => yAt y) (fun _ => true) (FirstIs N) (fun M x y H1 H2 h f => h.fr f) (fun H' f => f.sqL (sqL_of eq) List.not_mem_nil) (by rw [prq.len]; omega) (fun x H' hx f => ?_) fun lf H19 lvf nf ef hlf hf f19 => ?_
    · obtain ⟨q, hq, tq, rfl, eq2⟩ := prq.mem hx
      obtain ⟨w1, w2, w3⟩ := qok q hq
      refine sk15 ⟨fun R kR => kR H' (Fr.refl _ _), fun _ H3 f3 R kR => ?_⟩
      have eq3 := (f.trans f3).tp _ _ eq2
      k_offL
      refine r_ixT (sqT_of eq3) (v := .int q.1) rfl ?_
      k_offL
      refine r_ixT (sqT_of eq3) (v := .int q.2) rfl ?_
      k_offL
      refine ⟨N.size, A.dn, N.hs, N.f, q.1, q.2, rfl, nx18.ex0 (f.trans f3), hpc _ w1, by omega, h0, h1, fun ta H4 j an e4 f4 => ?_⟩
      k_offL
      refine tupk (by show 2 ≤ 100000; decide) fun t5 H5 n5 e5 f5 => ?_
      exact kR _ _ (f4.trans f5) ⟨tq, t5, ta, q, rfl, rfl, e5, (f4.trans f5).tp _ _ eq3, by rw [ans_eq h0 an]; exact f5.tp _ _ e4, j, an⟩
    rw [List.filter_eq_self.mpr fun _ _ => rfl] at hlf hf
    have W19 := W18.ex0 f19
    have prq19 := prq.fr f19
    have eq19 := f19.at_ _ _ eq List.not_mem_nil
    have e619 := f19.at_ _ _ e618 List.not_mem_nil
    have hN19 := hN18.ex f19
    have lf_all : lf ∉ lq :: fl :: A.p :: A.tc :: A.all := none_off (fun y hy => by
      rcases List.mem_cons.mp hy with e | e
      · rw [e, eq]; rfl
      rcases List.mem_cons.mp e with e | e
      · rw [e, e618]; rfl
      · exact W18.somes y e) nf
    clear W18 prq eq e618 hN18 f19 nf hn dN kn nx18 H18 e518
    k_offL
    refine walkL (sqL_of ef) ?_
    refine lcP (walk_list (xs := lvf)) lvf rfl (fun i H0 x H' _ y => yAt y) (fun _ => true) OldIs (fun M x y H1 H2 h f => h.fr f) (fun H' f => f.sqL (sqL_of ef) List.not_mem_nil) (by rw [hlf, prq19.len]; omega) (fun x H' hx f => ?_) fun lo H20 lvo no eo hlo ho f20 => ?_
    · obtain ⟨i, hi, e⟩ := List.mem_iff_getElem.mp hx
      have hi' : i < lvq.length := by rw [← hlf]; exact hi
      obtain ⟨y, g1, g2⟩ := hf i _ (List.getElem?_eq_getElem hi')
      rw [List.getElem?_eq_getElem hi, e] at g1
      cases g1
      obtain ⟨tq, t, ta, q, u1, rfl, u3, u4, u5, u6⟩ := g2
      refine sk17 ⟨fun R kR => kR H' (Fr.refl _ _), fun _ H3 f3 R kR => ?_⟩
      have u33 := (f.trans f3).tp _ _ u3
      k_offL
      refine r_ixT (sqT_of u33) (v := .ref ta) rfl ?_
      exact kR _ _ (Fr.refl _ _) ⟨t, tq, ta, rfl, rfl, u33⟩
    rw [List.filter_eq_self.mpr fun _ _ => rfl] at hlo ho
    have W20 := W19.ex0 f20
    have prq20 := prq19.fr f20
    have eq20 := f20.at_ _ _ eq19 List.not_mem_nil
    have ef20 := f20.at_ _ _ ef List.not_mem_nil
    have e620 := f20.at_ _ _ e619 List.not_mem_nil
    have hN20 := hN19.ex f20
    have lo_all : lo ∉ lf :: lq :: fl :: A.p :: A.tc :: A.all := none_off (fun y hy => by
      rcases List.mem_cons.mp hy with e | e
      · rw [e, ef]; rfl
      rcases List.mem_cons.mp e with e | e
      · rw [e, eq19]; rfl
      rcases List.mem_cons.mp e with e | e
      · rw [e, e619]; rfl
      · exact W19.somes y e) no
    have lo_tw : ∀ y ∈ [p2, da2, db2, dl2], lo ≠ y := fun y hy => by
      obtain ⟨_, g1⟩ := hN19.ob
      obtain ⟨_, g2, _⟩ := hN19.nx
      obtain ⟨_, g3, _⟩ := hN19.bf
      obtain ⟨_, g4, _⟩ := hN19.ls
      simp at hy
      rcases hy with h | h | h | h <;> subst h
      · exact (ne_of_none g1 no).symm
      · exact (ne_of_none g2 no).symm
      · exact (ne_of_none g3 no).symm
      · exact (ne_of_none g4 no).symm
    have fst20 : ∀ (i : Nat) q, qs[i]? = some q → ∃ (tq t ta : Addr), lvf[i]? = some (.ref t) ∧ H20 t = some (.tup [.ref tq, .ref ta]) ∧ H20 tq = some (.tup [.int q.1, .int q.2]) ∧ H20 ta = some (.tup [.int (N.ans q).1, .int (N.ans q).2]) ∧ ∃ j, Ans N.size N.f q.1 (far N.size q.1 q.2) j := fun i q hq => by
      obtain ⟨tq, g1, g2⟩ := prq20.at_ i q hq
      obtain ⟨y, g3, g4⟩ := hf i _ g1
      obtain ⟨tq', t, ta, q', u1, rfl, u3, u4, u5, u6⟩ := g4.fr f20
      cases u1
      rw [g2] at u4
      have e := List.cons.inj (HO.tup.inj (Option.some.inj u4))
      have e1 : q.1 = q'.1 := by injection e.1
      have e2 : q.2 = q'.2 := by
        have := (List.cons.inj e.2).1
        injection this
      obtain rfl : q = q' := Prod.ext e1 e2
      exact ⟨tq, t, ta, g3, u3, g2, u5, u6⟩
    have AO : AllOld H20 N lq lo qs (qs.map N.ans) := by
      refine ⟨⟨lvq, eq20, prq20⟩, ⟨lvo, eo, ⟨by rw [hlo, hlf, prq20.len, List.length_map], fun i o hi => ?_⟩⟩, List.length_map _, fun i q o g1 g2 => ?_⟩
      · rw [List.getElem?_map] at hi
        cases e : qs[i]? with
        | none => rw [e] at hi; cases hi
        | some q =>
          rw [e] at hi
          cases hi
          obtain ⟨tq, t, ta, g1, g2, g3, g4, _⟩ := fst20 i q e
          obtain ⟨z, g5, t', tq', ta', u1, rfl, u3⟩ := ho i _ g1
          cases u1
          rw [g2] at u3
          have e := List.cons.inj (HO.tup.inj (Option.some.inj u3))
          have e2 : ta = ta' := by
            have := (List.cons.inj e.2).1
            injection this
          subst e2
          exact ⟨ta, g5, g4⟩
      · rw [List.getElem?_map, g1] at g2
        cases g2
        obtain ⟨_, _, _, _, _, _, _, j, an⟩ := fst20 i q g1
        obtain ⟨w1, w2, w3⟩ := qok q (List.mem_of_getElem? g1)
        exact ans_old h0 (hpc _ w1) w2 w3 an
    clear f20 hN19 W19 prq19 eq19 ef e619 no H19 ho hf eo hlo lvo
    obtain ⟨dx20, hp20⟩ := W20.net.ob
    k_offL
    refine ⟨A, N, lq, lo, qs, qs.map N.ans, (), (), rfl, W20, okN, AO, by omega, fun z => lo_all (by simp at z ⊢; rcases z with z | z <;> simp [z]), fun os H21 AO21 f21 => ?_⟩
    have off : ∀ {x : Addr}, x ∉ A.p :: A.tc :: A.all → ∀ y ∈ A.p :: A.tc :: A.all, y ∉ [x] := fun h y hy z => h (List.mem_singleton.mp z ▸ hy)
    have fl_tp : fl ≠ A.tp := fun z => fl_all (by rw [z]; simp [Ads.all])
    have lq_tp : lq ≠ A.tp := fun z => lq_all (by rw [z]; simp [Ads.all])
    have lo_tp : lo ≠ A.tp := fun z => lo_all (by rw [z]; simp [Ads.all])
    have lo_base : lo ∉ A.p :: A.tc :: A.all := fun z => lo_all (List.mem_cons_of_mem _ (List.mem_cons_of_mem _ (List.mem_cons_of_mem _ z)))
    have lq_base : lq ∉ A.p :: A.tc :: A.all := fun z => lq_all (List.mem_cons_of_mem _ z)
    have lo_lf : lo ≠ lf := fun z => lo_all (by rw [z]; simp)
    have lf_off : lf ∉ lo :: lq :: fl :: A.all := fun z => by
      rcases List.mem_cons.mp z with e | z
      · exact lo_lf e.symm
      · exact lf_all (by simp only [List.mem_cons] at z ⊢; rcases z with z | z | z <;> simp [z])
    have lo_lq : lo ≠ lq := fun z => lo_all (by rw [z]; simp)
    have lo_fl : lo ≠ fl := fun z => lo_all (by rw [z]; simp)
    have lq_fl : lq ≠ fl := fun z => lq_all (by rw [z]; simp)
    have I21 : LI CNet fl lq lo A H20 H21 N fs qs os := ⟨W20.frn f21 (off lo_base), okN, sayN, by omega, by omega, by omega, f21.at_ _ _ e620 (mem_one lo_fl.symm), hfr, hfnd, AO21, by omega, f21.mono fun a h => by simp at h; simp [h]⟩
    k_offL
    refine i_pick I21.W.tape (by decide) (by decide) fun n2 H22 a22 b22 t22 f22 => ?_
    have I22 := I21.pick t22 f22 fl_tp lq_tp lo_tp
    clear I21 W20 AO21 f21 f22 t22 AO
    k_offL
    refine loopR1 _ (by omega) (by omega) (fun i σ' H' => ∃ (v13 v15 v17 v18 v19 v20 : Option V) (M : NS) (fs : List Int) (qs os : List (Int × Int)), M.size = N.size ∧ σ' = [some (V.ref a), some (.ref A.tp), some (.int (c : Int)), some (.int r), some (.int N.size), some (.ref lp), some (.ref fl), some (.ref A.dn), some (.ref A.dk), some (.ref A.dp), some (.ref A.p), some (.ref p2), some (.ref lq), v13, some (.ref lf), v15, some (.ref lo), v17, v18, v19, v20] ∧ LI CNet fl lq lo A H20 H' M fs qs os)
      ⟨_, _, _, _, _, _, N, fs, qs, os, rfl, rfl, I22⟩ ?_ ?_
    · rintro i σ' H23 hi ⟨v13, v15, v17, v18, v19, v20, M, fs', qs', os', hz, rfl, I⟩
      k_places
      rw [← hz]
      refine c_main I ⟨fl_all, lq_all, fun z => lo_all (List.mem_cons_of_mem _ z)⟩ fun M' hz' I' => ⟨_, _, _, _, _, _, M', _, _, _, hz', rfl, I'⟩
    · rintro σ' H23 ⟨v13, v15, v17, v18, v19, v20, M, fs', qs', os', hz, rfl, I⟩
      have nm : ∀ {x : Addr}, x ≠ lo → x ≠ lq → x ∉ fl :: A.all → x ∉ lo :: lq :: fl :: A.all := fun h1 h2 h3 h => by
        rcases List.mem_cons.mp h with e | h
        · exact h1 e
        rcases List.mem_cons.mp h with e | h
        · exact h2 e
        · exact h3 h
      have g1 := lq_tw
      have g2 := lo_tw
      rw [← hz]
      refine c_end (N := N) (M := M) (lvf := lvf) (I.f.at_ _ _ ef20 lf_off) (fun i x hx => ?_) (hN20.fr I.f (nm (lo_tw p2 (by simp)).symm (lq_tw p2 (by simp)).symm y1) (nm (lo_tw da2 (by simp)).symm (lq_tw da2 (by simp)).symm y2) (nm (lo_tw db2 (by simp)).symm (lq_tw db2 (by simp)).symm y3) (nm (lo_tw dl2 (by simp)).symm (lq_tw dl2 (by simp)).symm y4)) okN I.W I.ok k
      have hil : i < qs.length := by have := (List.getElem?_eq_some_iff.mp hx).1; rw [hlf, prq20.len] at this; exact this
      obtain ⟨tq, t, ta, g1, g2, g3, g4, g5⟩ := fst20 i _ (List.getElem?_eq_getElem hil)
      obtain ⟨w1, w2, w3⟩ := qok _ (List.getElem_mem hil)
      rw [hx] at g1
      exact ⟨_, tq, t, ta, Option.some.inj g1, I.f.tp _ _ g2, I.f.tp _ _ g3, I.f.tp _ _ g4, hpc _ w1, w2, w3, g5⟩
end
end RL
set_option synthInstance.maxHeartbeats 4000000
set_option synthInstance.maxSize 4000
open PySem L2 RL
namespace RL
def dd_far : He.DefD := ⟨("far", none), "far", "far", defArgs s_far, defBody s_far, defScope s_far, [], []⟩
def dd_between : He.DefD := ⟨("between", none), "between", "between", defArgs s_between, defBody s_between, defScope s_between, [], []⟩
def dd_letter_places : He.DefD := ⟨("letter_places", none), "letter_places", "letter_places", defArgs s_letter_places, defBody s_letter_places, defScope s_letter_places, [], []⟩
def dd_check_place : He.DefD := ⟨("check_place", none), "check_place", "check_place", defArgs s_check_place, defBody s_check_place, defScope s_check_place, [], []⟩
def dd_check_houses : He.DefD := ⟨("check_houses", none), "check_houses", "check_houses", defArgs s_check_houses, defBody s_check_houses, defScope s_check_houses, [], []⟩
def dd_check_tables : He.DefD := ⟨("check_tables", none), "check_tables", "check_tables", defArgs s_check_tables, defBody s_check_tables, defScope s_check_tables, [], []⟩
def dd_Net___init__ : He.DefD := ⟨("Net", some "__init__"), "__init__", "Net.__init__", defArgs s_Net___init__, defBody s_Net___init__, defScope s_Net___init__, [], [("befores", .non), ("letters", .non)]⟩
def dd_Net_houses : He.DefD := ⟨("Net", some "houses"), "houses", "Net.houses", defArgs s_Net_houses, defBody s_Net_houses, defScope s_Net_houses, [], []⟩
def dd_Net_nexts : He.DefD := ⟨("Net", some "nexts"), "nexts", "Net.nexts", defArgs s_Net_nexts, defBody s_Net_nexts, defScope s_Net_nexts, [], []⟩
def dd_Net_befores : He.DefD := ⟨("Net", some "befores"), "befores", "Net.befores", defArgs s_Net_befores, defBody s_Net_befores, defScope s_Net_befores, [], []⟩
def dd_Net_letters : He.DefD := ⟨("Net", some "letters"), "letters", "Net.letters", defArgs s_Net_letters, defBody s_Net_letters, defScope s_Net_letters, [], []⟩
def dd_Net__send : He.DefD := ⟨("Net", some "_send"), "_send", "Net._send", defArgs s_Net__send, defBody s_Net__send, defScope s_Net__send, [], []⟩
def dd_Net_tell : He.DefD := ⟨("Net", some "tell"), "tell", "Net.tell", defArgs s_Net_tell, defBody s_Net_tell, defScope s_Net_tell, [], []⟩
def dd_Net_ask : He.DefD := ⟨("Net", some "ask"), "ask", "Net.ask", defArgs s_Net_ask, defBody s_Net_ask, defScope s_Net_ask, [], []⟩
def dd_Net__check_index : He.DefD := ⟨("Net", some "_check_index"), "_check_index", "Net._check_index", defArgs s_Net__check_index, defBody s_Net__check_index, defScope s_Net__check_index, [], []⟩
def dd_Net_lose : He.DefD := ⟨("Net", some "lose"), "lose", "Net.lose", defArgs s_Net_lose, defBody s_Net_lose, defScope s_Net_lose, [], []⟩
def dd_Net_repeat : He.DefD := ⟨("Net", some "repeat"), "repeat", "Net.repeat", defArgs s_Net_repeat, defBody s_Net_repeat, defScope s_Net_repeat, [], []⟩
def dd_Net__read_answer : He.DefD := ⟨("Net", some "_read_answer"), "_read_answer", "Net._read_answer", defArgs s_Net__read_answer, defBody s_Net__read_answer, defScope s_Net__read_answer, [], []⟩
def dd_Net__read_tell : He.DefD := ⟨("Net", some "_read_tell"), "_read_tell", "Net._read_tell", defArgs s_Net__read_tell, defBody s_Net__read_tell, defScope s_Net__read_tell, [], []⟩
def dd_Net__read_ask : He.DefD := ⟨("Net", some "_read_ask"), "_read_ask", "Net._read_ask", defArgs s_Net__read_ask, defBody s_Net__read_ask, defScope s_Net__read_ask, [], []⟩
def dd_Net_read : He.DefD := ⟨("Net", some "read"), "read", "Net.read", defArgs s_Net_read, defBody s_Net_read, defScope s_Net_read, [], []⟩
def dd_Net_snapshot : He.DefD := ⟨("Net", some "snapshot"), "snapshot", "Net.snapshot", defArgs s_Net_snapshot, defBody s_Net_snapshot, defScope s_Net_snapshot, [], []⟩
def dd_Net_clone : He.DefD := ⟨("Net", some "clone"), "clone", "Net.clone", defArgs s_Net_clone, defBody s_Net_clone, defScope s_Net_clone, [], []⟩
def dd_Net_admit : He.DefD := ⟨("Net", some "admit"), "admit", "Net.admit", defArgs s_Net_admit, defBody s_Net_admit, defScope s_Net_admit, [], []⟩
def dd_Net_hold : He.DefD := ⟨("Net", some "hold"), "hold", "Net.hold", defArgs s_Net_hold, defBody s_Net_hold, defScope s_Net_hold, [], []⟩
def dd_Net_set_before : He.DefD := ⟨("Net", some "set_before"), "set_before", "Net.set_before", defArgs s_Net_set_before, defBody s_Net_set_before, defScope s_Net_set_before, [], []⟩
def dd__law_tape : He.DefD := ⟨("_law_tape", none), "_law_tape", "_law_tape", defArgs s__law_tape, defBody s__law_tape, defScope s__law_tape, [], []⟩
def dd__law_pick : He.DefD := ⟨("_law_pick", none), "_law_pick", "_law_pick", defArgs s__law_pick, defBody s__law_pick, defScope s__law_pick, [], []⟩
def dd__law_size : He.DefD := ⟨("_law_size", none), "_law_size", "_law_size", defArgs s__law_size, defBody s__law_size, defScope s__law_size, [], []⟩
def dd__law_places : He.DefD := ⟨("_law_places", none), "_law_places", "_law_places", defArgs s__law_places, defBody s__law_places, defScope s__law_places, [], []⟩
def dd__law_far : He.DefD := ⟨("_law_far", none), "_law_far", "_law_far", defArgs s__law_far, defBody s__law_far, defScope s__law_far, [], []⟩
def dd__law_between : He.DefD := ⟨("_law_between", none), "_law_between", "_law_between", defArgs s__law_between, defBody s__law_between, defScope s__law_between, [], []⟩
def dd__law_nexts : He.DefD := ⟨("_law_nexts", none), "_law_nexts", "_law_nexts", defArgs s__law_nexts, defBody s__law_nexts, defScope s__law_nexts, [], []⟩
def dd__law_ring : He.DefD := ⟨("_law_ring", none), "_law_ring", "_law_ring", defArgs s__law_ring, defBody s__law_ring, defScope s__law_ring, [], []⟩
def dd__law_root : He.DefD := ⟨("_law_root", none), "_law_root", "_law_root", defArgs s__law_root, defBody s__law_root, defScope s__law_root, [], []⟩
def dd__law_rings : He.DefD := ⟨("_law_rings", none), "_law_rings", "_law_rings", defArgs s__law_rings, defBody s__law_rings, defScope s__law_rings, [], []⟩
def dd__law_read : He.DefD := ⟨("_law_read", none), "_law_read", "_law_read", defArgs s__law_read, defBody s__law_read, defScope s__law_read, [], []⟩
def dd__law_same : He.DefD := ⟨("_law_same", none), "_law_same", "_law_same", defArgs s__law_same, defBody s__law_same, defScope s__law_same, [], []⟩
def dd_check_house : He.DefD := ⟨("check_house", none), "check_house", "check_house", defArgs s_check_house, defBody s_check_house, defScope s_check_house, [], []⟩
def dd_house_at : He.DefD := ⟨("house_at", none), "house_at", "house_at", defArgs s_house_at, defBody s_house_at, defScope s_house_at, [], []⟩
def dd_check_look_up : He.DefD := ⟨("check_look_up", none), "check_look_up", "check_look_up", defArgs s_check_look_up, defBody s_check_look_up, defScope s_check_look_up, [], []⟩
def dd_answer : He.DefD := ⟨("answer", none), "answer", "answer", defArgs s_answer, defBody s_answer, defScope s_answer, [], []⟩
def dd__law_holds : He.DefD := ⟨("_law_holds", none), "_law_holds", "_law_holds", defArgs s__law_holds, defBody s__law_holds, defScope s__law_holds, [], []⟩
def dd__law_answer : He.DefD := ⟨("_law_answer", none), "_law_answer", "_law_answer", defArgs s__law_answer, defBody s__law_answer, defScope s__law_answer, [], []⟩
def dd__law_question : He.DefD := ⟨("_law_question", none), "_law_question", "_law_question", defArgs s__law_question, defBody s__law_question, defScope s__law_question, [], []⟩
def dd__law_ordered : He.DefD := ⟨("_law_ordered", none), "_law_ordered", "_law_ordered", defArgs s__law_ordered, defBody s__law_ordered, defScope s__law_ordered, [], []⟩
def dd__law_stands : He.DefD := ⟨("_law_stands", none), "_law_stands", "_law_stands", defArgs s__law_stands, defBody s__law_stands, defScope s__law_stands, [], []⟩
def dd__law_deed : He.DefD := ⟨("_law_deed", none), "_law_deed", "_law_deed", defArgs s__law_deed, defBody s__law_deed, defScope s__law_deed, [], []⟩
def dd_tell_all : He.DefD := ⟨("tell_all", none), "tell_all", "tell_all", defArgs s_tell_all, defBody s_tell_all, defScope s_tell_all, [], []⟩
def dd_calm_round : He.DefD := ⟨("calm_round", none), "calm_round", "calm_round", defArgs s_calm_round, defBody s_calm_round, defScope s_calm_round, [], []⟩
def dd__law_exchange : He.DefD := ⟨("_law_exchange", none), "_law_exchange", "_law_exchange", defArgs s__law_exchange, defBody s__law_exchange, defScope s__law_exchange, [], []⟩
def dd__law_calm : He.DefD := ⟨("_law_calm", none), "_law_calm", "_law_calm", defArgs s__law_calm, defBody s__law_calm, defScope s__law_calm, [], []⟩
def dd__law_step : He.DefD := ⟨("_law_step", none), "_law_step", "_law_step", defArgs s__law_step, defBody s__law_step, defScope s__law_step, [], []⟩
def dd__law_start : He.DefD := ⟨("_law_start", none), "_law_start", "_law_start", defArgs s__law_start, defBody s__law_start, defScope s__law_start, [], []⟩
def dd__law_closer : He.DefD := ⟨("_law_closer", none), "_law_closer", "_law_closer", defArgs s__law_closer, defBody s__law_closer, defScope s__law_closer, [], []⟩
def dd_law : He.DefD := ⟨("law", none), "law", "law", defArgs s_law, defBody s_law, defScope s_law, [], []⟩
def fn0 : List He.DefD := [dd_far, dd_between, dd_letter_places, dd_check_place, dd_check_houses, dd_check_tables, dd_Net___init__, dd_Net_houses, dd_Net_nexts, dd_Net_befores, dd_Net_letters, dd_Net__send, dd_Net_tell, dd_Net_ask, dd_Net__check_index, dd_Net_lose, dd_Net_repeat, dd_Net__read_answer, dd_Net__read_tell, dd_Net__read_ask, dd_Net_read, dd_Net_snapshot, dd_Net_clone, dd_Net_admit, dd_Net_hold, dd_Net_set_before, dd__law_tape, dd__law_pick, dd__law_size, dd__law_places]
def fn1 : List He.DefD := [dd__law_far, dd__law_between, dd__law_nexts, dd__law_ring, dd__law_root, dd__law_rings, dd__law_read, dd__law_same, dd_check_house, dd_house_at, dd_check_look_up, dd_answer, dd__law_holds, dd__law_answer, dd__law_question, dd__law_ordered, dd__law_stands, dd__law_deed, dd_tell_all, dd_calm_round, dd__law_exchange, dd__law_calm, dd__law_step, dd__law_start, dd__law_closer, dd_law]
def fnL : List He.DefD := fn0 ++ (fn1)
def fa0 : List He.Fa := [.cls "Net", .noat "Net" "size", .noat "Net" "_nexts", .noat "Net" "_befores", .noat "Net" "_letters", .glo "law", .glo "_law_tape", .free "abs", .free "int", .free "len", .glo "_law_pick", .glo "_law_size", .free "max", .glo "_law_places", .free "range", .free "sorted", .glo "_law_rings", .glo "_law_nexts", .glo "_law_start", .glo "_law_root", .free "min", .glo "_law_ring", .glo "_law_holds", .glo "_law_far", .mkr "Net", .glo "Net", .glo "check_tables", .glo "check_place", .glo "check_houses", .glo "letter_places"]
def fa1 : List He.Fa := [.free "dict", .free "list", .meth "Net" "clone", .meth "Net" "befores", .glo "_law_question", .glo "_law_answer", .glo "_law_closer", .meth "Net" "nexts", .free "isinstance", .free "bool", .free "str", .free "tuple", .glo "_law_same", .glo "_law_ordered", .glo "answer", .glo "check_look_up", .glo "house_at", .glo "check_house", .glo "far", .meth "Net" "admit", .glo "_law_step", .glo "_law_calm", .glo "_law_read", .glo "_law_between", .glo "calm_round", .glo "tell_all", .glo "between", .meth "Net" "set_before", .meth "Net" "hold", .glo "_law_exchange"]
def fa2 : List He.Fa := [.meth "Net" "tell", .meth "Net" "_send", .meth "Net" "read", .meth "Net" "lose", .meth "Net" "_check_index", .meth "Net" "_read_tell", .meth "Net" "_read_ask", .meth "Net" "_read_answer", .meth "Net" "ask", .glo "_law_deed", .meth "Net" "repeat", .glo "_law_stands", .meth "Net" "snapshot"]
def faL : List He.Fa := fa0 ++ (fa1 ++ (fa2))
def nm0 : List PySem.Str := ["_wall", "far", "between", "RingError", "OffCircle", "NoHouse", "TakenPlace", "NoLetter", "check_house", "house_at", "check_look_up", "answer", "tell_all", "calm_round", "letter_places", "check_place", "check_houses", "check_tables", "Net", "_law_tape", "_law_pick", "_law_size", "_law_places", "_law_nexts", "_law_rings", "_law_far", "_law_between", "_law_ring", "_law_root", "_law_holds"]
def nm1 : List PySem.Str := ["_law_read", "_law_same", "_law_deed", "_law_stands", "_law_exchange", "_law_calm", "_law_start", "_law_answer", "_law_question", "_law_step", "_law_ordered", "_law_closer"]
def nmL : List PySem.Str := nm0 ++ (nm1)
abbrev Rw : PySem.W.OpenRow := PySem.W.OpenLaw.row PySem.Challenge.rw_ringlaps_k70_whole_lengths_never_grow
def lvl (g : Addr → Option Obj) : Nat → List Addr → List Addr
  | 0, l => l
  | n + 1, l => l ++ lvl g n (l.flatMap fun a => match g a with
    | some o => He.refsD o
    | none => []).eraseDups
def obB (fa : List He.Fa) (fn : List He.DefD) (g : Addr → Option Obj) : He.AlD := He.obsD fa fn (He.frG g (lvl g 4 [mainGlobals]))
def hookB (fa : List He.Fa) (fn : List He.DefD) : PySem.W.Hook where
  α := He.AlD
  obs := fun s => obB fa fn s.heap.get?
  val := fun _ => He.valD fn
  says := fun _ h => ∃ K : PySem.W.Frag, K.In h ∧ He.SaysD fa fn K
  of := fun _ _ e => ⟨_, He.frG_in, e⟩
  keeps := fun _ _ _ ⟨K, hK, c⟩ k => ⟨K, PySem.W.Frag.In.keeps hK k, c⟩
theorem obB_eq {fa : List He.Fa} {fn : List He.DefD} {g : Addr → Option Obj} {s : Shared} (h : ∀ a, g a = s.heap.get? a) : obB fa fn g = (hookB fa fn).obs s := by
  have e : g = s.heap.get? := funext h
  rw [e] <;> rfl
abbrev hk : PySem.W.Hook := hookB faL fnL
def ob (s : PySem.W.SharedT) : He.AlD := obB faL fnL (HandSHeadRun.getT s)
theorem ob_eq (s : PySem.W.SharedT) : ob s = hk.obs s.abs := obB_eq (HandSHeadRun.getT_eq s)
theorem run (w : World) : HandSHeadRun.RunEq Rw (PySem.W.view Rw.prog [50]) hk ob 6000 nmL w := by
  intro os
  kernel_rfl
theorem funOf {K : PySem.W.Frag} {x qual : Str} {st : Stmt} {kws : List (Str × V)} {f : Addr} {fd : FuncData} (F : FunD K x qual (defArgs st) (defBody st) (defScope st) [] kws f fd) : Fun K x qual st f fd := by
  obtain ⟨oc, od, dV, kV, doc, pm, an, cdv, ct, osl, e, lk, hcd, hD, hK⟩ := F.ex
  rcases hD with ⟨_, h⟩ | ⟨h, _⟩
  · subst h
    exact ⟨⟨oc, od, kV, doc, pm, an, cdv, ct, osl, e, lk, hcd⟩, F.kp⟩
  · exact absurd rfl h
theorem facts {P : Program} {w : World} {K : PySem.W.Frag} {h : Heap} {mg : Str → Option Value} {f : Addr} (X : K.In h) (G : h.Ns mainGlobals mg) (hfa : mg ("law" : Str) = some (.ref f)) (c : He.SaysD faL fnL K) :
    ∃ fd : FuncData, (∀ (s : Shared) (v : Value), BindsTo s fd ⟨[v], []⟩ [("script", v)]) ∧ ∀ base : Heap, K.In base → base.Ns mainGlobals mg → FnOk P w K mg base CX0 8 f fd ["script"] (spLaw K) := by
  obtain ⟨fd_far, D_far⟩ := c.def_ 0 (d := dd_far) rfl
  have F_far := funOf (st := s_far) D_far
  obtain ⟨fd_between, D_between⟩ := c.def_ 1 (d := dd_between) rfl
  have F_between := funOf (st := s_between) D_between
  obtain ⟨fd_letter_places, D_letter_places⟩ := c.def_ 2 (d := dd_letter_places) rfl
  have F_letter_places := funOf (st := s_letter_places) D_letter_places
  obtain ⟨fd_check_place, D_check_place⟩ := c.def_ 3 (d := dd_check_place) rfl
  have F_check_place := funOf (st := s_check_place) D_check_place
  obtain ⟨fd_check_houses, D_check_houses⟩ := c.def_ 4 (d := dd_check_houses) rfl
  have F_check_houses := funOf (st := s_check_houses) D_check_houses
  obtain ⟨fd_check_tables, D_check_tables⟩ := c.def_ 5 (d := dd_check_tables) rfl
  have F_check_tables := funOf (st := s_check_tables) D_check_tables
  obtain ⟨fd_Net___init__, D_Net___init__⟩ := c.def_ 6 (d := dd_Net___init__) rfl
  have F_Net___init__ := funOf (st := s_Net___init__) D_Net___init__
  obtain ⟨fd_Net_houses, D_Net_houses⟩ := c.def_ 7 (d := dd_Net_houses) rfl
  have F_Net_houses := funOf (st := s_Net_houses) D_Net_houses
  obtain ⟨fd_Net_nexts, D_Net_nexts⟩ := c.def_ 8 (d := dd_Net_nexts) rfl
  have F_Net_nexts := funOf (st := s_Net_nexts) D_Net_nexts
  obtain ⟨fd_Net_befores, D_Net_befores⟩ := c.def_ 9 (d := dd_Net_befores) rfl
  have F_Net_befores := funOf (st := s_Net_befores) D_Net_befores
  obtain ⟨fd_Net_letters, D_Net_letters⟩ := c.def_ 10 (d := dd_Net_letters) rfl
  have F_Net_letters := funOf (st := s_Net_letters) D_Net_letters
  obtain ⟨fd_Net__send, D_Net__send⟩ := c.def_ 11 (d := dd_Net__send) rfl
  have F_Net__send := funOf (st := s_Net__send) D_Net__send
  obtain ⟨fd_Net_tell, D_Net_tell⟩ := c.def_ 12 (d := dd_Net_tell) rfl
  have F_Net_tell := funOf (st := s_Net_tell) D_Net_tell
  obtain ⟨fd_Net_ask, D_Net_ask⟩ := c.def_ 13 (d := dd_Net_ask) rfl
  have F_Net_ask := funOf (st := s_Net_ask) D_Net_ask
  obtain ⟨fd_Net__check_index, D_Net__check_index⟩ := c.def_ 14 (d := dd_Net__check_index) rfl
  have F_Net__check_index := funOf (st := s_Net__check_index) D_Net__check_index
  obtain ⟨fd_Net_lose, D_Net_lose⟩ := c.def_ 15 (d := dd_Net_lose) rfl
  have F_Net_lose := funOf (st := s_Net_lose) D_Net_lose
  obtain ⟨fd_Net_repeat, D_Net_repeat⟩ := c.def_ 16 (d := dd_Net_repeat) rfl
  have F_Net_repeat := funOf (st := s_Net_repeat) D_Net_repeat
  obtain ⟨fd_Net__read_answer, D_Net__read_answer⟩ := c.def_ 17 (d := dd_Net__read_answer) rfl
  have F_Net__read_answer := funOf (st := s_Net__read_answer) D_Net__read_answer
  obtain ⟨fd_Net__read_tell, D_Net__read_tell⟩ := c.def_ 18 (d := dd_Net__read_tell) rfl
  have F_Net__read_tell := funOf (st := s_Net__read_tell) D_Net__read_tell
  obtain ⟨fd_Net__read_ask, D_Net__read_ask⟩ := c.def_ 19 (d := dd_Net__read_ask) rfl
  have F_Net__read_ask := funOf (st := s_Net__read_ask) D_Net__read_ask
  obtain ⟨fd_Net_read, D_Net_read⟩ := c.def_ 20 (d := dd_Net_read) rfl
  have F_Net_read := funOf (st := s_Net_read) D_Net_read
  obtain ⟨fd_Net_snapshot, D_Net_snapshot⟩ := c.def_ 21 (d := dd_Net_snapshot) rfl
  have F_Net_snapshot := funOf (st := s_Net_snapshot) D_Net_snapshot
  obtain ⟨fd_Net_clone, D_Net_clone⟩ := c.def_ 22 (d := dd_Net_clone) rfl
  have F_Net_clone := funOf (st := s_Net_clone) D_Net_clone
  obtain ⟨fd_Net_admit, D_Net_admit⟩ := c.def_ 23 (d := dd_Net_admit) rfl
  have F_Net_admit := funOf (st := s_Net_admit) D_Net_admit
  obtain ⟨fd_Net_hold, D_Net_hold⟩ := c.def_ 24 (d := dd_Net_hold) rfl
  have F_Net_hold := funOf (st := s_Net_hold) D_Net_hold
  obtain ⟨fd_Net_set_before, D_Net_set_before⟩ := c.def_ 25 (d := dd_Net_set_before) rfl
  have F_Net_set_before := funOf (st := s_Net_set_before) D_Net_set_before
  obtain ⟨fd__law_tape, D__law_tape⟩ := c.def_ 26 (d := dd__law_tape) rfl
  have F__law_tape := funOf (st := s__law_tape) D__law_tape
  obtain ⟨fd__law_pick, D__law_pick⟩ := c.def_ 27 (d := dd__law_pick) rfl
  have F__law_pick := funOf (st := s__law_pick) D__law_pick
  obtain ⟨fd__law_size, D__law_size⟩ := c.def_ 28 (d := dd__law_size) rfl
  have F__law_size := funOf (st := s__law_size) D__law_size
  obtain ⟨fd__law_places, D__law_places⟩ := c.def_ 29 (d := dd__law_places) rfl
  have F__law_places := funOf (st := s__law_places) D__law_places
  obtain ⟨fd__law_far, D__law_far⟩ := c.def_ 30 (d := dd__law_far) rfl
  have F__law_far := funOf (st := s__law_far) D__law_far
  obtain ⟨fd__law_between, D__law_between⟩ := c.def_ 31 (d := dd__law_between) rfl
  have F__law_between := funOf (st := s__law_between) D__law_between
  obtain ⟨fd__law_nexts, D__law_nexts⟩ := c.def_ 32 (d := dd__law_nexts) rfl
  have F__law_nexts := funOf (st := s__law_nexts) D__law_nexts
  obtain ⟨fd__law_ring, D__law_ring⟩ := c.def_ 33 (d := dd__law_ring) rfl
  have F__law_ring := funOf (st := s__law_ring) D__law_ring
  obtain ⟨fd__law_root, D__law_root⟩ := c.def_ 34 (d := dd__law_root) rfl
  have F__law_root := funOf (st := s__law_root) D__law_root
  obtain ⟨fd__law_rings, D__law_rings⟩ := c.def_ 35 (d := dd__law_rings) rfl
  have F__law_rings := funOf (st := s__law_rings) D__law_rings
  obtain ⟨fd__law_read, D__law_read⟩ := c.def_ 36 (d := dd__law_read) rfl
  have F__law_read := funOf (st := s__law_read) D__law_read
  obtain ⟨fd__law_same, D__law_same⟩ := c.def_ 37 (d := dd__law_same) rfl
  have F__law_same := funOf (st := s__law_same) D__law_same
  obtain ⟨fd_check_house, D_check_house⟩ := c.def_ 38 (d := dd_check_house) rfl
  have F_check_house := funOf (st := s_check_house) D_check_house
  obtain ⟨fd_house_at, D_house_at⟩ := c.def_ 39 (d := dd_house_at) rfl
  have F_house_at := funOf (st := s_house_at) D_house_at
  obtain ⟨fd_check_look_up, D_check_look_up⟩ := c.def_ 40 (d := dd_check_look_up) rfl
  have F_check_look_up := funOf (st := s_check_look_up) D_check_look_up
  obtain ⟨fd_answer, D_answer⟩ := c.def_ 41 (d := dd_answer) rfl
  have F_answer := funOf (st := s_answer) D_answer
  obtain ⟨fd__law_holds, D__law_holds⟩ := c.def_ 42 (d := dd__law_holds) rfl
  have F__law_holds := funOf (st := s__law_holds) D__law_holds
  obtain ⟨fd__law_answer, D__law_answer⟩ := c.def_ 43 (d := dd__law_answer) rfl
  have F__law_answer := funOf (st := s__law_answer) D__law_answer
  obtain ⟨fd__law_question, D__law_question⟩ := c.def_ 44 (d := dd__law_question) rfl
  have F__law_question := funOf (st := s__law_question) D__law_question
  obtain ⟨fd__law_ordered, D__law_ordered⟩ := c.def_ 45 (d := dd__law_ordered) rfl
  have F__law_ordered := funOf (st := s__law_ordered) D__law_ordered
  obtain ⟨fd__law_stands, D__law_stands⟩ := c.def_ 46 (d := dd__law_stands) rfl
  have F__law_stands := funOf (st := s__law_stands) D__law_stands
  obtain ⟨fd__law_deed, D__law_deed⟩ := c.def_ 47 (d := dd__law_deed) rfl
  have F__law_deed := funOf (st := s__law_deed) D__law_deed
  obtain ⟨fd_tell_all, D_tell_all⟩ := c.def_ 48 (d := dd_tell_all) rfl
  have F_tell_all := funOf (st := s_tell_all) D_tell_all
  obtain ⟨fd_calm_round, D_calm_round⟩ := c.def_ 49 (d := dd_calm_round) rfl
  have F_calm_round := funOf (st := s_calm_round) D_calm_round
  obtain ⟨fd__law_exchange, D__law_exchange⟩ := c.def_ 50 (d := dd__law_exchange) rfl
  have F__law_exchange := funOf (st := s__law_exchange) D__law_exchange
  obtain ⟨fd__law_calm, D__law_calm⟩ := c.def_ 51 (d := dd__law_calm) rfl
  have F__law_calm := funOf (st := s__law_calm) D__law_calm
  obtain ⟨fd__law_step, D__law_step⟩ := c.def_ 52 (d := dd__law_step) rfl
  have F__law_step := funOf (st := s__law_step) D__law_step
  obtain ⟨fd__law_start, D__law_start⟩ := c.def_ 53 (d := dd__law_start) rfl
  have F__law_start := funOf (st := s__law_start) D__law_start
  obtain ⟨fd__law_closer, D__law_closer⟩ := c.def_ 54 (d := dd__law_closer) rfl
  have F__law_closer := funOf (st := s__law_closer) D__law_closer
  obtain ⟨fd_law, D_law⟩ := c.def_ 55 (d := dd_law) rfl
  have F_law := funOf (st := s_law) D_law
  obtain ⟨CNet, eCNet⟩ : ∃ C, C = He.ga K "Net" := ⟨_, rfl⟩
  have clNet : Cls K CNet := eCNet ▸ He.cls_ok (c.fact 0 (f := .cls "Net") rfl)
  have T : NetT K CNet := ⟨clNet, eCNet ▸ He.noat_ok (c.fact 1 (f := .noat "Net" "size") rfl), eCNet ▸ He.noat_ok (c.fact 2 (f := .noat "Net" "_nexts") rfl), eCNet ▸ He.noat_ok (c.fact 3 (f := .noat "Net" "_befores") rfl), eCNet ▸ He.noat_ok (c.fact 4 (f := .noat "Net" "_letters") rfl)⟩
  have e0 := hfa.symm.trans (He.glo_ok X G (c.fact 5 (f := .glo "law") rfl))
  cases e0
  refine ⟨fd_law, fun s v => ?_, fun base _ _ => ?_⟩
  · have b := L2.FunD.bindsA (ps := ["script"]) D_law fun _ _ _ _ _ _ us hl => match us, hl with | [_], _ => rfl
    exact b s [v] rfl
  have m_abs : mg "abs" = none := He.free_ok X G (c.fact 7 (f := .free "abs") rfl)
  have m_int : mg "int" = none := He.free_ok X G (c.fact 8 (f := .free "int") rfl)
  have m_len : mg "len" = none := He.free_ok X G (c.fact 9 (f := .free "len") rfl)
  have G__law_tape : GF P w K mg base "_law_tape" 1 ["script"] (spTape K) := ⟨⟨_, _, He.glo_ok X G (c.fact 6 (f := .glo "_law_tape") rfl), F__law_tape.kp, F__law_tape.binds (ps := ["script"]) fun _ _ _ _ _ _ us hl => match us, hl with | [_], _ => rfl, ok__law_tape F__law_tape m_abs m_int m_len⟩⟩
  have G__law_pick : GF P w K mg base "_law_pick" 1 ["tape", "size"] spPick := ⟨⟨_, _, He.glo_ok X G (c.fact 10 (f := .glo "_law_pick") rfl), F__law_pick.kp, F__law_pick.binds (ps := ["tape", "size"]) fun _ _ _ _ _ _ us hl => match us, hl with | [_, _], _ => rfl, ok__law_pick F__law_pick m_int m_len⟩⟩
  have m_max : mg "max" = none := He.free_ok X G (c.fact 12 (f := .free "max") rfl)
  have G__law_size : GF P w K mg base "_law_size" 2 ["tape", "count"] spSize := ⟨⟨_, _, He.glo_ok X G (c.fact 11 (f := .glo "_law_size") rfl), F__law_size.kp, F__law_size.binds (ps := ["tape", "count"]) fun _ _ _ _ _ _ us hl => match us, hl with | [_, _], _ => rfl, ok__law_size F__law_size G__law_pick m_max⟩⟩
  have m_range : mg "range" = none := He.free_ok X G (c.fact 14 (f := .free "range") rfl)
  have m_sorted : mg "sorted" = none := He.free_ok X G (c.fact 15 (f := .free "sorted") rfl)
  have G__law_places : GF P w K mg base "_law_places" 2 ["tape", "size", "count"] spPlaces := ⟨⟨_, _, He.glo_ok X G (c.fact 13 (f := .glo "_law_places") rfl), F__law_places.kp, F__law_places.binds (ps := ["tape", "size", "count"]) fun _ _ _ _ _ _ us hl => match us, hl with | [_, _, _], _ => rfl, ok__law_places F__law_places m_range G__law_pick m_sorted⟩⟩
  have G__law_nexts : GF P w K mg base "_law_nexts" 2 ["tape", "places"] spLawNexts := ⟨⟨_, _, He.glo_ok X G (c.fact 17 (f := .glo "_law_nexts") rfl), F__law_nexts.kp, F__law_nexts.binds (ps := ["tape", "places"]) fun _ _ _ _ _ _ us hl => match us, hl with | [_, _], _ => rfl, ok__law_nexts F__law_nexts m_len m_range G__law_pick⟩⟩
  have G__law_rings : GF P w K mg base "_law_rings" 3 ["tape", "places"] spLawNexts := ⟨⟨_, _, He.glo_ok X G (c.fact 16 (f := .glo "_law_rings") rfl), F__law_rings.kp, F__law_rings.binds (ps := ["tape", "places"]) fun _ _ _ _ _ _ us hl => match us, hl with | [_, _], _ => rfl, ok__law_rings F__law_rings G__law_pick G__law_nexts m_len m_max m_range⟩⟩
  have m_min : mg "min" = none := He.free_ok X G (c.fact 20 (f := .free "min") rfl)
  have G__law_ring : GF P w K mg base "_law_ring" 1 ["nexts", "house"] spRing := ⟨⟨_, _, He.glo_ok X G (c.fact 21 (f := .glo "_law_ring") rfl), F__law_ring.kp, F__law_ring.binds (ps := ["nexts", "house"]) fun _ _ _ _ _ _ us hl => match us, hl with | [_, _], _ => rfl, ok__law_ring F__law_ring m_range m_len⟩⟩
  have G__law_root : GF P w K mg base "_law_root" 2 ["nexts", "house"] spRoot := ⟨⟨_, _, He.glo_ok X G (c.fact 19 (f := .glo "_law_root") rfl), F__law_root.kp, F__law_root.binds (ps := ["nexts", "house"]) fun _ _ _ _ _ _ us hl => match us, hl with | [_, _], _ => rfl, ok__law_root F__law_root m_min G__law_ring⟩⟩
  have G__law_far : GF P w K mg base "_law_far" 1 ["size", "start", "end"] spFar := ⟨⟨_, _, He.glo_ok X G (c.fact 23 (f := .glo "_law_far") rfl), F__law_far.kp, F__law_far.binds (ps := ["size", "start", "end"]) fun _ _ _ _ _ _ us hl => match us, hl with | [_, _, _], _ => rfl, ok__law_far F__law_far m_int⟩⟩
  have G__law_holds : GF P w K mg base "_law_holds" 2 ["size", "nexts", "saying"] spLawHolds := ⟨⟨_, _, He.glo_ok X G (c.fact 22 (f := .glo "_law_holds") rfl), F__law_holds.kp, F__law_holds.binds (ps := ["size", "nexts", "saying"]) fun _ _ _ _ _ _ us hl => match us, hl with | [_, _, _], _ => rfl, ok__law_holds F__law_holds m_range m_len G__law_far⟩⟩
  have G__law_start : GF P w K mg base "_law_start" 3 ["tape", "size", "nexts", "places", "behinds", "post"] spStart := ⟨⟨_, _, He.glo_ok X G (c.fact 18 (f := .glo "_law_start") rfl), F__law_start.kp, F__law_start.binds (ps := ["tape", "size", "nexts", "places", "behinds", "post"]) fun _ _ _ _ _ _ us hl => match us, hl with | [_, _, _, _, _, _], _ => rfl, ok__law_start F__law_start G__law_root m_sorted G__law_pick m_len G__law_holds G__law_far⟩⟩
  obtain ⟨mv_N_Net_befores_letters, KB_N_Net_befores_letters⟩ := L2.FunD.kbinds0 D_Net___init__ (ps := ["self", "size", "nexts", "befores", "letters"]) 3 ["befores", "letters"] [] (fun us mz ws => us ++ ws) (by intro z; cases z) (by intro q hq; first | exact hq | cases hq) (fun r1 r2 r3 => r1.append r3) (fun D doc pm an cdv ct us mv ws l1 l2 l3 => match us, l1, mv, l2, ws, l3 with
    | [_, _, _], _, [], _, [_, _], _ => rfl)
  have G_check_place : GF P w K mg base "check_place" 1 ["size", "place"] spCheckPlace := ⟨⟨_, _, He.glo_ok X G (c.fact 27 (f := .glo "check_place") rfl), F_check_place.kp, F_check_place.binds (ps := ["size", "place"]) fun _ _ _ _ _ _ us hl => match us, hl with | [_, _], _ => rfl, ok_check_place F_check_place⟩⟩
  have G_check_houses : GF P w K mg base "check_houses" 1 ["houses", "places"] (spCheckHouses K) := ⟨⟨_, _, He.glo_ok X G (c.fact 28 (f := .glo "check_houses") rfl), F_check_houses.kp, F_check_houses.binds (ps := ["houses", "places"]) fun _ _ _ _ _ _ us hl => match us, hl with | [_, _], _ => rfl, ok_check_houses F_check_houses⟩⟩
  have G_letter_places : GF P w K mg base "letter_places" 1 ["letter"] spLetterPlaces := ⟨⟨_, _, He.glo_ok X G (c.fact 29 (f := .glo "letter_places") rfl), F_letter_places.kp, F_letter_places.binds (ps := ["letter"]) fun _ _ _ _ _ _ us hl => match us, hl with | [_], _ => rfl, ok_letter_places F_letter_places⟩⟩
  have G_check_tables : GF P w K mg base "check_tables" 2 ["size", "nexts", "behinds", "post"] spCheckTables := ⟨⟨_, _, He.glo_ok X G (c.fact 26 (f := .glo "check_tables") rfl), F_check_tables.kp, F_check_tables.binds (ps := ["size", "nexts", "behinds", "post"]) fun _ _ _ _ _ _ us hl => match us, hl with | [_, _, _, _], _ => rfl, ok_check_tables F_check_tables m_sorted G_check_place G_check_houses G_letter_places⟩⟩
  have m_dict : mg "dict" = none := He.free_ok X G (c.fact 30 (f := .free "dict") rfl)
  have m_list : mg "list" = none := He.free_ok X G (c.fact 31 (f := .free "list") rfl)
  have N_Net_befores_letters : GC P w K mg base CNet "Net" 3 ["self", "size", "nexts", "befores", "letters"] 2 ["befores", "letters"] (fun vs zs => vs ++ zs) (spNetInit CNet) := ⟨⟨_, _, _, eCNet ▸ He.mkr_ok (c.fact 24 (f := .mkr "Net") rfl), eCNet ▸ He.glo_ok X G (c.fact 25 (f := .glo "Net") rfl), ok_Net___init__ F_Net___init__ G_check_tables m_dict m_list T, KB_N_Net_befores_letters⟩⟩
  have G_Net_befores : GM P w K mg base CNet "befores" 1 ["self"] (spBefores CNet) := ⟨clNet, ⟨_, _, eCNet ▸ He.meth_ok (c.fact 33 (f := .meth "Net" "befores") rfl), F_Net_befores.binds (ps := ["self"]) fun _ _ _ _ _ _ us hl => match us, hl with | [_], _ => rfl, ok_Net_befores F_Net_befores m_sorted T⟩⟩
  have G_Net_clone : GM P w K mg base CNet "clone" 5 ["self"] (spClone CNet) := ⟨clNet, ⟨_, _, eCNet ▸ He.meth_ok (c.fact 32 (f := .meth "Net" "clone") rfl), F_Net_clone.binds (ps := ["self"]) fun _ _ _ _ _ _ us hl => match us, hl with | [_], _ => rfl, ok_Net_clone F_Net_clone N_Net_befores_letters G_Net_befores T⟩⟩
  have G__law_question : GF P w K mg base "_law_question" 2 ["tape", "size", "houses"] spLawQuestion := ⟨⟨_, _, He.glo_ok X G (c.fact 34 (f := .glo "_law_question") rfl), F__law_question.kp, F__law_question.binds (ps := ["tape", "size", "houses"]) fun _ _ _ _ _ _ us hl => match us, hl with | [_, _, _], _ => rfl, ok__law_question F__law_question G__law_pick m_len m_int⟩⟩
  have G__law_answer : GF P w K mg base "_law_answer" 2 ["size", "nexts", "house", "key"] spLawAnswer := ⟨⟨_, _, He.glo_ok X G (c.fact 35 (f := .glo "_law_answer") rfl), F__law_answer.kp, F__law_answer.binds (ps := ["size", "nexts", "house", "key"]) fun _ _ _ _ _ _ us hl => match us, hl with | [_, _, _, _], _ => rfl, ok__law_answer F__law_answer G__law_far m_range m_len⟩⟩
  have G_Net_nexts : GM P w K mg base CNet "nexts" 1 ["self"] (spNexts CNet) := ⟨clNet, ⟨_, _, eCNet ▸ He.meth_ok (c.fact 37 (f := .meth "Net" "nexts") rfl), F_Net_nexts.binds (ps := ["self"]) fun _ _ _ _ _ _ us hl => match us, hl with | [_], _ => rfl, ok_Net_nexts F_Net_nexts m_sorted T⟩⟩
  have m_isinstance : mg "isinstance" = none := He.free_ok X G (c.fact 38 (f := .free "isinstance") rfl)
  have m_bool : mg "bool" = none := He.free_ok X G (c.fact 39 (f := .free "bool") rfl)
  have m_str : mg "str" = none := He.free_ok X G (c.fact 40 (f := .free "str") rfl)
  have m_tuple : mg "tuple" = none := He.free_ok X G (c.fact 41 (f := .free "tuple") rfl)
  have G__law_same : GF P w K mg base "_law_same" 5 ["actual", "due"] (spSame 4) := ⟨⟨_, _, He.glo_ok X G (c.fact 42 (f := .glo "_law_same") rfl), F__law_same.kp, F__law_same.binds (ps := ["actual", "due"]) fun _ _ _ _ _ _ us hl => match us, hl with | [_, _], _ => rfl, ok__law_same F__law_same m_isinstance m_int m_bool m_str m_dict m_list m_tuple m_len m_range (fun n0 q => ⟨⟨_, _, He.glo_ok X G (c.fact 42 (f := .glo "_law_same") rfl), F__law_same.kp, F__law_same.binds (ps := ["actual", "due"]) fun _ _ _ _ _ _ us hl => match us, hl with | [_, _], _ => rfl, q⟩⟩) 4⟩⟩
  have G__law_ordered : GF P w K mg base "_law_ordered" 1 ["table"] spLawOrdered := ⟨⟨_, _, He.glo_ok X G (c.fact 43 (f := .glo "_law_ordered") rfl), F__law_ordered.kp, F__law_ordered.binds (ps := ["table"]) fun _ _ _ _ _ _ us hl => match us, hl with | [_], _ => rfl, ok__law_ordered F__law_ordered m_sorted⟩⟩
  have G_check_look_up : GF P w K mg base "check_look_up" 2 ["net", "house", "key"] (spCheckLookUp CNet) := ⟨⟨_, _, He.glo_ok X G (c.fact 45 (f := .glo "check_look_up") rfl), F_check_look_up.kp, F_check_look_up.binds (ps := ["net", "house", "key"]) fun _ _ _ _ _ _ us hl => match us, hl with | [_, _, _], _ => rfl, ok_check_look_up F_check_look_up G_Net_nexts T⟩⟩
  have G_check_house : GF P w K mg base "check_house" 1 ["nexts", "house"] spCheckHouse := ⟨⟨_, _, He.glo_ok X G (c.fact 47 (f := .glo "check_house") rfl), F_check_house.kp, F_check_house.binds (ps := ["nexts", "house"]) fun _ _ _ _ _ _ us hl => match us, hl with | [_, _], _ => rfl, ok_check_house F_check_house⟩⟩
  have G_far : GF P w K mg base "far" 1 ["size", "start", "end"] spFar := ⟨⟨_, _, He.glo_ok X G (c.fact 48 (f := .glo "far") rfl), F_far.kp, F_far.binds (ps := ["size", "start", "end"]) fun _ _ _ _ _ _ us hl => match us, hl with | [_, _, _], _ => rfl, ok_far F_far⟩⟩
  have G_house_at : GF P w K mg base "house_at" 2 ["net", "start", "distance"] (spHouseAt CNet) := ⟨⟨_, _, He.glo_ok X G (c.fact 46 (f := .glo "house_at") rfl), F_house_at.kp, F_house_at.binds (ps := ["net", "start", "distance"]) fun _ _ _ _ _ _ us hl => match us, hl with | [_, _, _], _ => rfl, ok_house_at F_house_at G_Net_nexts G_check_house G_far T⟩⟩
  have G_answer : GF P w K mg base "answer" 3 ["net", "house", "key"] (spAnswer CNet) := ⟨⟨_, _, He.glo_ok X G (c.fact 44 (f := .glo "answer") rfl), F_answer.kp, F_answer.binds (ps := ["net", "house", "key"]) fun _ _ _ _ _ _ us hl => match us, hl with | [_, _, _], _ => rfl, ok_answer F_answer G_check_look_up G_house_at G_far T⟩⟩
  have G__law_closer : GF P w K mg base "_law_closer" 6 ["net", "size", "nexts", "questions", "olds"] (spCloser CNet) := ⟨⟨_, _, He.glo_ok X G (c.fact 36 (f := .glo "_law_closer") rfl), F__law_closer.kp, F__law_closer.binds (ps := ["net", "size", "nexts", "questions", "olds"]) fun _ _ _ _ _ _ us hl => match us, hl with | [_, _, _, _, _], _ => rfl, ok__law_closer F__law_closer G_Net_nexts G__law_same G__law_ordered m_range m_len G__law_answer G_answer G__law_holds T⟩⟩
  have G_Net_admit : GM P w K mg base CNet "admit" 2 ["self", "place", "host"] (spAdmit CNet) := ⟨clNet, ⟨_, _, eCNet ▸ He.meth_ok (c.fact 49 (f := .meth "Net" "admit") rfl), F_Net_admit.binds (ps := ["self", "place", "host"]) fun _ _ _ _ _ _ us hl => match us, hl with | [_, _, _], _ => rfl, ok_Net_admit F_Net_admit G_check_place G_check_houses T⟩⟩
  have G__law_between : GF P w K mg base "_law_between" 2 ["size", "start", "place", "end"] spBetween := ⟨⟨_, _, He.glo_ok X G (c.fact 53 (f := .glo "_law_between") rfl), F__law_between.kp, F__law_between.binds (ps := ["size", "start", "place", "end"]) fun _ _ _ _ _ _ us hl => match us, hl with | [_, _, _, _], _ => rfl, ok__law_between F__law_between G__law_far⟩⟩
  have G__law_read : GF P w K mg base "_law_read" 3 ["size", "nexts", "behinds", "post", "at"] spLawRead := ⟨⟨_, _, He.glo_ok X G (c.fact 52 (f := .glo "_law_read") rfl), F__law_read.kp, F__law_read.binds (ps := ["size", "nexts", "behinds", "post", "at"]) fun _ _ _ _ _ _ us hl => match us, hl with | [_, _, _, _, _], _ => rfl, ok__law_read F__law_read G__law_between⟩⟩
  have G__law_calm : GF P w K mg base "_law_calm" 4 ["size", "nexts", "behinds"] spLawCalm := ⟨⟨_, _, He.glo_ok X G (c.fact 51 (f := .glo "_law_calm") rfl), F__law_calm.kp, F__law_calm.binds (ps := ["size", "nexts", "behinds"]) fun _ _ _ _ _ _ us hl => match us, hl with | [_, _, _], _ => rfl, ok__law_calm F__law_calm m_sorted G__law_read⟩⟩
  have G_between : GF P w K mg base "between" 2 ["size", "start", "place", "end"] spBetween := ⟨⟨_, _, He.glo_ok X G (c.fact 56 (f := .glo "between") rfl), F_between.kp, F_between.binds (ps := ["size", "start", "place", "end"]) fun _ _ _ _ _ _ us hl => match us, hl with | [_, _, _, _], _ => rfl, ok_between F_between G_far⟩⟩
  have G_Net_set_before : GM P w K mg base CNet "set_before" 2 ["self", "house", "before"] (spSetBefore CNet) := ⟨clNet, ⟨_, _, eCNet ▸ He.meth_ok (c.fact 57 (f := .meth "Net" "set_before") rfl), F_Net_set_before.binds (ps := ["self", "house", "before"]) fun _ _ _ _ _ _ us hl => match us, hl with | [_, _, _], _ => rfl, ok_Net_set_before F_Net_set_before G_check_houses T⟩⟩
  have G_tell_all : GF P w K mg base "tell_all" 3 ["net", "nexts"] (spTellAll CNet) := ⟨⟨_, _, He.glo_ok X G (c.fact 55 (f := .glo "tell_all") rfl), F_tell_all.kp, F_tell_all.binds (ps := ["net", "nexts"]) fun _ _ _ _ _ _ us hl => match us, hl with | [_, _], _ => rfl, ok_tell_all F_tell_all G_Net_befores m_sorted G_between G_Net_set_before T⟩⟩
  have G_Net_hold : GM P w K mg base CNet "hold" 2 ["self", "house", "target"] (spHold CNet) := ⟨clNet, ⟨_, _, eCNet ▸ He.meth_ok (c.fact 58 (f := .meth "Net" "hold") rfl), F_Net_hold.binds (ps := ["self", "house", "target"]) fun _ _ _ _ _ _ us hl => match us, hl with | [_, _, _], _ => rfl, ok_Net_hold F_Net_hold G_check_houses T⟩⟩
  have G_calm_round : GF P w K mg base "calm_round" 4 ["net"] (spCalm CNet) := ⟨⟨_, _, He.glo_ok X G (c.fact 54 (f := .glo "calm_round") rfl), F_calm_round.kp, F_calm_round.binds (ps := ["net"]) fun _ _ _ _ _ _ us hl => match us, hl with | [_], _ => rfl, ok_calm_round F_calm_round G_Net_nexts G_tell_all m_sorted G_between G_Net_hold T⟩⟩
  have G_Net__send : GM P w K mg base CNet "_send" 2 ["self", "word", "house"] (spSend CNet) := ⟨clNet, ⟨_, _, eCNet ▸ He.meth_ok (c.fact 61 (f := .meth "Net" "_send") rfl), F_Net__send.binds (ps := ["self", "word", "house"]) fun _ _ _ _ _ _ us hl => match us, hl with | [_, _, _], _ => rfl, ok_Net__send F_Net__send G_check_houses T⟩⟩
  have G_Net_tell : GM P w K mg base CNet "tell" 3 ["self", "house"] (spTell CNet) := ⟨clNet, ⟨_, _, eCNet ▸ He.meth_ok (c.fact 60 (f := .meth "Net" "tell") rfl), F_Net_tell.binds (ps := ["self", "house"]) fun _ _ _ _ _ _ us hl => match us, hl with | [_, _], _ => rfl, ok_Net_tell F_Net_tell G_Net__send T⟩⟩
  have G_Net__check_index : GM P w K mg base CNet "_check_index" 1 ["self", "at"] (spCheckIndex CNet) := ⟨clNet, ⟨_, _, eCNet ▸ He.meth_ok (c.fact 64 (f := .meth "Net" "_check_index") rfl), F_Net__check_index.binds (ps := ["self", "at"]) fun _ _ _ _ _ _ us hl => match us, hl with | [_, _], _ => rfl, ok_Net__check_index F_Net__check_index m_len T⟩⟩
  have G_Net_lose : GM P w K mg base CNet "lose" 2 ["self", "at"] (spLose CNet) := ⟨clNet, ⟨_, _, eCNet ▸ He.meth_ok (c.fact 63 (f := .meth "Net" "lose") rfl), F_Net_lose.binds (ps := ["self", "at"]) fun _ _ _ _ _ _ us hl => match us, hl with | [_, _], _ => rfl, ok_Net_lose F_Net_lose G_Net__check_index T⟩⟩
  have G_Net__read_tell : GM P w K mg base CNet "_read_tell" 3 ["self", "reader", "sender"] (spReadTell CNet) := ⟨clNet, ⟨_, _, eCNet ▸ He.meth_ok (c.fact 65 (f := .meth "Net" "_read_tell") rfl), F_Net__read_tell.binds (ps := ["self", "reader", "sender"]) fun _ _ _ _ _ _ us hl => match us, hl with | [_, _, _], _ => rfl, ok_Net__read_tell F_Net__read_tell G_between T⟩⟩
  have G_Net__read_ask : GM P w K mg base CNet "_read_ask" 1 ["self", "reader", "sender"] (spReadAsk CNet) := ⟨clNet, ⟨_, _, eCNet ▸ He.meth_ok (c.fact 66 (f := .meth "Net" "_read_ask") rfl), F_Net__read_ask.binds (ps := ["self", "reader", "sender"]) fun _ _ _ _ _ _ us hl => match us, hl with | [_, _, _], _ => rfl, ok_Net__read_ask F_Net__read_ask T⟩⟩
  have G_Net__read_answer : GM P w K mg base CNet "_read_answer" 3 ["self", "reader", "sender", "named"] (spReadAnswer CNet) := ⟨clNet, ⟨_, _, eCNet ▸ He.meth_ok (c.fact 67 (f := .meth "Net" "_read_answer") rfl), F_Net__read_answer.binds (ps := ["self", "reader", "sender", "named"]) fun _ _ _ _ _ _ us hl => match us, hl with | [_, _, _, _], _ => rfl, ok_Net__read_answer F_Net__read_answer G_between T⟩⟩
  have G_Net_read : GM P w K mg base CNet "read" 4 ["self", "at"] (spRead CNet) := ⟨clNet, ⟨_, _, eCNet ▸ He.meth_ok (c.fact 62 (f := .meth "Net" "read") rfl), F_Net_read.binds (ps := ["self", "at"]) fun _ _ _ _ _ _ us hl => match us, hl with | [_, _], _ => rfl, ok_Net_read F_Net_read G_Net_lose G_Net__read_tell G_Net__read_ask G_Net__read_answer T⟩⟩
  have G_Net_ask : GM P w K mg base CNet "ask" 3 ["self", "house"] (spAsk CNet) := ⟨clNet, ⟨_, _, eCNet ▸ He.meth_ok (c.fact 68 (f := .meth "Net" "ask") rfl), F_Net_ask.binds (ps := ["self", "house"]) fun _ _ _ _ _ _ us hl => match us, hl with | [_, _], _ => rfl, ok_Net_ask F_Net_ask G_Net__send T⟩⟩
  have G__law_exchange : GF P w K mg base "_law_exchange" 6 ["tape", "net", "size", "nexts", "behinds", "post"] (spDeed CNet) := ⟨⟨_, _, He.glo_ok X G (c.fact 59 (f := .glo "_law_exchange") rfl), F__law_exchange.kp, F__law_exchange.binds (ps := ["tape", "net", "size", "nexts", "behinds", "post"]) fun _ _ _ _ _ _ us hl => match us, hl with | [_, _, _, _, _, _], _ => rfl, ok__law_exchange F__law_exchange m_sorted G__law_pick m_len G__law_same G_Net_tell G__law_read G_Net_read G_Net_ask T⟩⟩
  have G_Net_repeat : GM P w K mg base CNet "repeat" 2 ["self", "at"] (spRepeat CNet) := ⟨clNet, ⟨_, _, eCNet ▸ He.meth_ok (c.fact 70 (f := .meth "Net" "repeat") rfl), F_Net_repeat.binds (ps := ["self", "at"]) fun _ _ _ _ _ _ us hl => match us, hl with | [_, _], _ => rfl, ok_Net_repeat F_Net_repeat G_Net__check_index T⟩⟩
  have G__law_deed : GF P w K mg base "_law_deed" 6 ["tape", "net", "size", "nexts", "behinds", "post"] (spDeed CNet) := ⟨⟨_, _, He.glo_ok X G (c.fact 69 (f := .glo "_law_deed") rfl), F__law_deed.kp, F__law_deed.binds (ps := ["tape", "net", "size", "nexts", "behinds", "post"]) fun _ _ _ _ _ _ us hl => match us, hl with | [_, _, _, _, _, _], _ => rfl, ok__law_deed F__law_deed m_sorted G__law_pick m_len G__law_same G_Net_lose G_Net_repeat G__law_read G_Net_read m_int G_Net_tell G_Net_ask T⟩⟩
  have G__law_step : GF P w K mg base "_law_step" 7 ["tape", "net", "size", "nexts", "behinds", "post"] (spDeed CNet) := ⟨⟨_, _, He.glo_ok X G (c.fact 50 (f := .glo "_law_step") rfl), F__law_step.kp, F__law_step.binds (ps := ["tape", "net", "size", "nexts", "behinds", "post"]) fun _ _ _ _ _ _ us hl => match us, hl with | [_, _, _, _, _, _], _ => rfl, ok__law_step F__law_step G__law_pick G__law_same G__law_calm G_calm_round G__law_exchange G__law_deed T⟩⟩
  have G_Net_snapshot : GM P w K mg base CNet "snapshot" 1 ["self"] (spSnapshot CNet) := ⟨clNet, ⟨_, _, eCNet ▸ He.meth_ok (c.fact 72 (f := .meth "Net" "snapshot") rfl), F_Net_snapshot.binds (ps := ["self"]) fun _ _ _ _ _ _ us hl => match us, hl with | [_], _ => rfl, ok_Net_snapshot F_Net_snapshot m_sorted m_tuple T⟩⟩
  have G__law_stands : GF P w K mg base "_law_stands" 6 ["net", "size", "nexts", "behinds", "post"] (spStands CNet) := ⟨⟨_, _, He.glo_ok X G (c.fact 71 (f := .glo "_law_stands") rfl), F__law_stands.kp, F__law_stands.binds (ps := ["net", "size", "nexts", "behinds", "post"]) fun _ _ _ _ _ _ us hl => match us, hl with | [_, _, _, _, _], _ => rfl, ok__law_stands F__law_stands m_sorted G__law_same m_tuple G_Net_snapshot T⟩⟩
  exact ok_law F_law G__law_tape G__law_pick G__law_size G__law_places G__law_rings G__law_start N_Net_befores_letters m_list m_dict G_Net_clone m_range G__law_question G__law_answer G__law_closer m_len m_sorted G_Net_admit G__law_step G__law_stands G__law_same G_answer T
end RL
open PySem PySem.W PySem.Calls PyProof.Rows
theorem PySem.Challenge.cw_ringlaps_k70_whole_lengths_never_grow_holds : PySem.Challenge.rw_ringlaps_k70_whole_lengths_never_grow.Holds := by
  w_on; o_law
  refine HandSHeadRun.head_any (r := OpenLaw.row PySem.Challenge.rw_ringlaps_k70_whole_lengths_never_grow) (q := view (OpenLaw.row PySem.Challenge.rw_ringlaps_k70_whole_lengths_never_grow).prog [50]) (H := RL.hk) (ob := RL.ob) (M := 6000) (loose := RL.nmL) (d := HandSHeadRun.topDef (OpenLaw.row PySem.Challenge.rw_ringlaps_k70_whole_lengths_never_grow).prog 50) (kwd := []) RL.ob_eq
    (by kernel_rfl) (fun s => by kernel_rfl) RL.run (by kernel_rfl) (by kernel_rfl) (by kernel_rfl) (by rfl) (by first | assumption | decide +kernel) (by decide +kernel) ⟨rfl, rfl, rfl, rfl, rfl, by decide +kernel⟩ ?hw ?hc
  case hw => w_witness2
  case hc =>
    refine L2.walk_ofE (l := PySem.Challenge.rw_ringlaps_k70_whole_lengths_never_grow) (n := 63) (k := 8) (x := "script") (CX := L2.CX0) rfl (by decide) (by kernel_rfl) ⟨rfl, by decide, by decide⟩ ?F (fun _ _ _ _ z => z)
    intro w mg fa h Y G hmg0
    obtain ⟨K, KX, c⟩ := Y
    have hmg : mg ("law" : PySem.Str) = some (.ref fa) := by
      have e : (HandSHeadRun.topDef (OpenLaw.row PySem.Challenge.rw_ringlaps_k70_whole_lengths_never_grow).prog 50).name = ("law" : PySem.Str) := by kernel_rfl
      rw [← e]
      exact hmg0
    obtain ⟨fd, hb, hF⟩ := RL.facts (P := (PySem.Challenge.rw_ringlaps_k70_whole_lengths_never_grow).prog) (w := w) KX G hmg c
    exact ⟨K, fd, RL.spLaw K, KX, hb, fun H a ns hl _ hS => ⟨a, ns, rfl, hS, hl, fun _ => rfl⟩, hF⟩
