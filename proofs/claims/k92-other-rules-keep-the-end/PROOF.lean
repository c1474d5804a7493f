import PyProof.Rows.All
import Wide.All
import OpenK.AllK
import Wide.FinOn
import HandS.ForMost
import HandS.Flow
import HandS.Style
import HandS.IsInst
import HandS.MakeKwOnly
import HandS.Defaults
import HandS.Wide
import HandS.SortInts
import HandS.DictComp
import HandS.ListItems
import HandS.Conv
import HandS.Walk
import HandS.SortRule
import HandS.TupSets
import HandS.SetKeys
import HandS.HeadHook2
import HandS.MakeKw
import HandS.Head2
import HandS.HeadEnd
import PySem.Challenge.RW_ringlaps_k92_whole_other_rules_keep_the
set_option Elab.async false
set_option linter.all false
set_option maxRecDepth 100000
set_option maxHeartbeats 4000000
namespace RL
open PySem L2
class One (G : Prop) (G1 : outParam Prop) : Prop where
  h : G1 → G
class OneS (G : Prop) (G1 : outParam Prop) : Prop where
  h : G1 → G
class ChS (G : Prop) (G1 : outParam Prop) : Prop where
  h : G1 → G
class GoS (G : Prop) (G1 : outParam Prop) : Prop where
  h : G1 → G
class Chn (G : Prop) (G1 : outParam Prop) : Prop where
  h : G1 → G
class Go (G : Prop) (G1 : outParam Prop) : Prop where
  h : G1 → G
instance (priority := 10) chn0 {G : Prop} : Chn G G := ⟨id⟩
instance (priority := 100) chn1 {G G1 G2 : Prop} [a : One G G1] [b : Chn G1 G2] : Chn G G2 := ⟨fun h => a.h (b.h h)⟩
instance (priority := 10) chs0 {G : Prop} : ChS G G := ⟨id⟩
instance (priority := 100) chs1 {G G1 G2 : Prop} [a : One G G1] [b : ChS G1 G2] : ChS G G2 := ⟨fun h => a.h (b.h h)⟩
instance (priority := 90) chs2 {G G1 G2 : Prop} [a : OneS G G1] [b : ChS G1 G2] : ChS G G2 := ⟨fun h => a.h (b.h h)⟩
instance (priority := 100) gos1 {G G1 G2 : Prop} [a : One G G1] [b : ChS G1 G2] : GoS G G2 := ⟨fun h => a.h (b.h h)⟩
instance (priority := 90) gos2 {G G1 G2 : Prop} [a : OneS G G1] [b : ChS G1 G2] : GoS G G2 := ⟨fun h => a.h (b.h h)⟩
instance go1 {G G1 G2 : Prop} [a : One G G1] [b : Chn G1 G2] : Go G G2 := ⟨fun h => a.h (b.h h)⟩
def SetK (σ : L2.St) (i : Nat) (v : V) (N : L2.St → Hp → Prop) (H : Hp) : Prop := N (σ.set i (some v)) H
def IfK (b : Bool) (A B : Prop) : Prop := if b = true then A else B
def BlK (x : V) (R : Bool → Prop) : Prop := ∃ k, x = .bl k ∧ R k
theorem ifT {A B : Prop} (h : A) : IfK true A B := by unfold IfK; rw [if_pos rfl]; exact h
instance o_ifT {A B : Prop} : One (IfK true A B) (A) := ⟨ifT⟩
theorem ifF {A B : Prop} (h : B) : IfK false A B := by unfold IfK; rw [if_neg Bool.false_ne_true]; exact h
instance o_ifF {A B : Prop} : One (IfK false A B) (B) := ⟨ifF⟩
theorem ifD {p : Prop} [Decidable p] {A B : Prop} (h1 : p → A) (h2 : ¬ p → B) : IfK (decide p) A B := by
  by_cases h : p
  · rw [decide_eq_true h]; exact ifT (h1 h)
  · rw [decide_eq_false h]; exact ifF (h2 h)
theorem ifN {p : Prop} [Decidable p] {A B : Prop} (h1 : ¬ p → A) (h2 : p → B) : IfK (!decide p) A B := by
  by_cases h : p
  · rw [decide_eq_true h]; exact ifF (h2 h)
  · rw [decide_eq_false h]; exact ifT (h1 h)
theorem ifB {b : Bool} {A B : Prop} (h1 : b = true → A) (h2 : b = false → B) : IfK b A B := by
  cases b with
  | true => exact ifT (h1 rfl)
  | false => exact ifF (h2 rfl)
theorem ifE {b c : Bool} {A B : Prop} (e : b = c) (h : IfK c A B) : IfK b A B := e ▸ h
theorem ifDT {p : Prop} [Decidable p] {A B : Prop} (hp : p) (h : A) : IfK (decide p) A B := ifD (fun _ => h) fun n => absurd hp n
theorem ifDF {p : Prop} [Decidable p] {A B : Prop} (hp : ¬ p) (h : B) : IfK (decide p) A B := ifD (fun n => absurd n hp) fun _ => h
theorem ifNT {p : Prop} [Decidable p] {A B : Prop} (hp : ¬ p) (h : A) : IfK (!decide p) A B := ifN (fun _ => h) fun n => absurd n hp
theorem ifNF {p : Prop} [Decidable p] {A B : Prop} (hp : p) (h : B) : IfK (!decide p) A B := ifN (fun n => absurd hp n) fun _ => h
theorem blk {k : Bool} {R : Bool → Prop} (h : R k) : BlK (.bl k) R := ⟨k, rfl, h⟩
instance o_blk {k : Bool} {R : Bool → Prop} : One (BlK (.bl k) R) (R k) := ⟨blk⟩
section
variable {a b c d e f g i j k l m n o p q : Option V} {r : List (Option V)} {N : L2.St → Hp → Prop} {H : Hp} {v : V}
theorem sk0 (h : N (some v :: r) H) : SetK (a :: r) 0 v N H := h
instance o_sk0 : One (SetK (a :: r) 0 v N H) (N (some v :: r) H) := ⟨sk0⟩
theorem sk1 (h : N (a :: some v :: r) H) : SetK (a :: b :: r) 1 v N H := h
instance o_sk1 : One (SetK (a :: b :: r) 1 v N H) (N (a :: some v :: r) H) := ⟨sk1⟩
theorem sk2 (h : N (a :: b :: some v :: r) H) : SetK (a :: b :: c :: r) 2 v N H := h
instance o_sk2 : One (SetK (a :: b :: c :: r) 2 v N H) (N (a :: b :: some v :: r) H) := ⟨sk2⟩
theorem sk3 (h : N (a :: b :: c :: some v :: r) H) : SetK (a :: b :: c :: d :: r) 3 v N H := h
instance o_sk3 : One (SetK (a :: b :: c :: d :: r) 3 v N H) (N (a :: b :: c :: some v :: r) H) := ⟨sk3⟩
theorem sk4 (h : N (a :: b :: c :: d :: some v :: r) H) : SetK (a :: b :: c :: d :: e :: r) 4 v N H := h
instance o_sk4 : One (SetK (a :: b :: c :: d :: e :: r) 4 v N H) (N (a :: b :: c :: d :: some v :: r) H) := ⟨sk4⟩
theorem sk5 (h : N (a :: b :: c :: d :: e :: some v :: r) H) : SetK (a :: b :: c :: d :: e :: f :: r) 5 v N H := h
instance o_sk5 : One (SetK (a :: b :: c :: d :: e :: f :: r) 5 v N H) (N (a :: b :: c :: d :: e :: some v :: r) H) := ⟨sk5⟩
theorem sk6 (h : N (a :: b :: c :: d :: e :: f :: some v :: r) H) : SetK (a :: b :: c :: d :: e :: f :: g :: r) 6 v N H := h
instance o_sk6 : One (SetK (a :: b :: c :: d :: e :: f :: g :: r) 6 v N H) (N (a :: b :: c :: d :: e :: f :: some v :: r) H) := ⟨sk6⟩
theorem sk7 (h : N (a :: b :: c :: d :: e :: f :: g :: some v :: r) H) : SetK (a :: b :: c :: d :: e :: f :: g :: i :: r) 7 v N H := h
instance o_sk7 : One (SetK (a :: b :: c :: d :: e :: f :: g :: i :: r) 7 v N H) (N (a :: b :: c :: d :: e :: f :: g :: some v :: r) H) := ⟨sk7⟩
theorem sk8 (h : N (a :: b :: c :: d :: e :: f :: g :: i :: some v :: r) H) : SetK (a :: b :: c :: d :: e :: f :: g :: i :: j :: r) 8 v N H := h
instance o_sk8 : One (SetK (a :: b :: c :: d :: e :: f :: g :: i :: j :: r) 8 v N H) (N (a :: b :: c :: d :: e :: f :: g :: i :: some v :: r) H) := ⟨sk8⟩
theorem sk9 (h : N (a :: b :: c :: d :: e :: f :: g :: i :: j :: some v :: r) H) : SetK (a :: b :: c :: d :: e :: f :: g :: i :: j :: k :: r) 9 v N H := h
instance o_sk9 : One (SetK (a :: b :: c :: d :: e :: f :: g :: i :: j :: k :: r) 9 v N H) (N (a :: b :: c :: d :: e :: f :: g :: i :: j :: some v :: r) H) := ⟨sk9⟩
theorem sk10 (h : N (a :: b :: c :: d :: e :: f :: g :: i :: j :: k :: some v :: r) H) : SetK (a :: b :: c :: d :: e :: f :: g :: i :: j :: k :: l :: r) 10 v N H := h
instance o_sk10 : One (SetK (a :: b :: c :: d :: e :: f :: g :: i :: j :: k :: l :: r) 10 v N H) (N (a :: b :: c :: d :: e :: f :: g :: i :: j :: k :: some v :: r) H) := ⟨sk10⟩
theorem sk11 (h : N (a :: b :: c :: d :: e :: f :: g :: i :: j :: k :: l :: some v :: r) H) : SetK (a :: b :: c :: d :: e :: f :: g :: i :: j :: k :: l :: m :: r) 11 v N H := h
instance o_sk11 : One (SetK (a :: b :: c :: d :: e :: f :: g :: i :: j :: k :: l :: m :: r) 11 v N H) (N (a :: b :: c :: d :: e :: f :: g :: i :: j :: k :: l :: some v :: r) H) := ⟨sk11⟩
theorem sk12 (h : N (a :: b :: c :: d :: e :: f :: g :: i :: j :: k :: l :: m :: some v :: r) H) : SetK (a :: b :: c :: d :: e :: f :: g :: i :: j :: k :: l :: m :: n :: r) 12 v N H := h
instance o_sk12 : One (SetK (a :: b :: c :: d :: e :: f :: g :: i :: j :: k :: l :: m :: n :: r) 12 v N H) (N (a :: b :: c :: d :: e :: f :: g :: i :: j :: k :: l :: m :: some v :: r) H) := ⟨sk12⟩
theorem sk13 (h : N (a :: b :: c :: d :: e :: f :: g :: i :: j :: k :: l :: m :: n :: some v :: r) H) : SetK (a :: b :: c :: d :: e :: f :: g :: i :: j :: k :: l :: m :: n :: o :: r) 13 v N H := h
instance o_sk13 : One (SetK (a :: b :: c :: d :: e :: f :: g :: i :: j :: k :: l :: m :: n :: o :: r) 13 v N H) (N (a :: b :: c :: d :: e :: f :: g :: i :: j :: k :: l :: m :: n :: some v :: r) H) := ⟨sk13⟩
theorem sk14 (h : N (a :: b :: c :: d :: e :: f :: g :: i :: j :: k :: l :: m :: n :: o :: some v :: r) H) : SetK (a :: b :: c :: d :: e :: f :: g :: i :: j :: k :: l :: m :: n :: o :: p :: r) 14 v N H := h
instance o_sk14 : One (SetK (a :: b :: c :: d :: e :: f :: g :: i :: j :: k :: l :: m :: n :: o :: p :: r) 14 v N H) (N (a :: b :: c :: d :: e :: f :: g :: i :: j :: k :: l :: m :: n :: o :: some v :: r) H) := ⟨sk14⟩
theorem sk15 (h : N (a :: b :: c :: d :: e :: f :: g :: i :: j :: k :: l :: m :: n :: o :: p :: some v :: r) H) : SetK (a :: b :: c :: d :: e :: f :: g :: i :: j :: k :: l :: m :: n :: o :: p :: q :: r) 15 v N H := h
instance o_sk15 : One (SetK (a :: b :: c :: d :: e :: f :: g :: i :: j :: k :: l :: m :: n :: o :: p :: q :: r) 15 v N H) (N (a :: b :: c :: d :: e :: f :: g :: i :: j :: k :: l :: m :: n :: o :: p :: some v :: r) H) := ⟨sk15⟩
theorem skr {σ : L2.St} {i : Nat} (h : N (σ.set i (some v)) H) : SetK σ i v N H := h
variable {Q : VK}
theorem xv0 (h : Q v H) : tVar 0 (some v :: r) H Q := ⟨v, rfl, h⟩
instance o_xv0 : One (tVar 0 (some v :: r) H Q) (Q v H) := ⟨xv0⟩
theorem xv1 (h : Q v H) : tVar 1 (a :: some v :: r) H Q := ⟨v, rfl, h⟩
instance o_xv1 : One (tVar 1 (a :: some v :: r) H Q) (Q v H) := ⟨xv1⟩
theorem xv2 (h : Q v H) : tVar 2 (a :: b :: some v :: r) H Q := ⟨v, rfl, h⟩
instance o_xv2 : One (tVar 2 (a :: b :: some v :: r) H Q) (Q v H) := ⟨xv2⟩
theorem xv3 (h : Q v H) : tVar 3 (a :: b :: c :: some v :: r) H Q := ⟨v, rfl, h⟩
instance o_xv3 : One (tVar 3 (a :: b :: c :: some v :: r) H Q) (Q v H) := ⟨xv3⟩
theorem xv4 (h : Q v H) : tVar 4 (a :: b :: c :: d :: some v :: r) H Q := ⟨v, rfl, h⟩
instance o_xv4 : One (tVar 4 (a :: b :: c :: d :: some v :: r) H Q) (Q v H) := ⟨xv4⟩
theorem xv5 (h : Q v H) : tVar 5 (a :: b :: c :: d :: e :: some v :: r) H Q := ⟨v, rfl, h⟩
instance o_xv5 : One (tVar 5 (a :: b :: c :: d :: e :: some v :: r) H Q) (Q v H) := ⟨xv5⟩
theorem xv6 (h : Q v H) : tVar 6 (a :: b :: c :: d :: e :: f :: some v :: r) H Q := ⟨v, rfl, h⟩
instance o_xv6 : One (tVar 6 (a :: b :: c :: d :: e :: f :: some v :: r) H Q) (Q v H) := ⟨xv6⟩
theorem xv7 (h : Q v H) : tVar 7 (a :: b :: c :: d :: e :: f :: g :: some v :: r) H Q := ⟨v, rfl, h⟩
instance o_xv7 : One (tVar 7 (a :: b :: c :: d :: e :: f :: g :: some v :: r) H Q) (Q v H) := ⟨xv7⟩
theorem xv8 (h : Q v H) : tVar 8 (a :: b :: c :: d :: e :: f :: g :: i :: some v :: r) H Q := ⟨v, rfl, h⟩
instance o_xv8 : One (tVar 8 (a :: b :: c :: d :: e :: f :: g :: i :: some v :: r) H Q) (Q v H) := ⟨xv8⟩
theorem xv9 (h : Q v H) : tVar 9 (a :: b :: c :: d :: e :: f :: g :: i :: j :: some v :: r) H Q := ⟨v, rfl, h⟩
instance o_xv9 : One (tVar 9 (a :: b :: c :: d :: e :: f :: g :: i :: j :: some v :: r) H Q) (Q v H) := ⟨xv9⟩
theorem xv10 (h : Q v H) : tVar 10 (a :: b :: c :: d :: e :: f :: g :: i :: j :: k :: some v :: r) H Q := ⟨v, rfl, h⟩
instance o_xv10 : One (tVar 10 (a :: b :: c :: d :: e :: f :: g :: i :: j :: k :: some v :: r) H Q) (Q v H) := ⟨xv10⟩
theorem xv11 (h : Q v H) : tVar 11 (a :: b :: c :: d :: e :: f :: g :: i :: j :: k :: l :: some v :: r) H Q := ⟨v, rfl, h⟩
instance o_xv11 : One (tVar 11 (a :: b :: c :: d :: e :: f :: g :: i :: j :: k :: l :: some v :: r) H Q) (Q v H) := ⟨xv11⟩
theorem xv12 (h : Q v H) : tVar 12 (a :: b :: c :: d :: e :: f :: g :: i :: j :: k :: l :: m :: some v :: r) H Q := ⟨v, rfl, h⟩
instance o_xv12 : One (tVar 12 (a :: b :: c :: d :: e :: f :: g :: i :: j :: k :: l :: m :: some v :: r) H Q) (Q v H) := ⟨xv12⟩
theorem xv13 (h : Q v H) : tVar 13 (a :: b :: c :: d :: e :: f :: g :: i :: j :: k :: l :: m :: n :: some v :: r) H Q := ⟨v, rfl, h⟩
instance o_xv13 : One (tVar 13 (a :: b :: c :: d :: e :: f :: g :: i :: j :: k :: l :: m :: n :: some v :: r) H Q) (Q v H) := ⟨xv13⟩
theorem xv14 (h : Q v H) : tVar 14 (a :: b :: c :: d :: e :: f :: g :: i :: j :: k :: l :: m :: n :: o :: some v :: r) H Q := ⟨v, rfl, h⟩
instance o_xv14 : One (tVar 14 (a :: b :: c :: d :: e :: f :: g :: i :: j :: k :: l :: m :: n :: o :: some v :: r) H Q) (Q v H) := ⟨xv14⟩
theorem xv15 (h : Q v H) : tVar 15 (a :: b :: c :: d :: e :: f :: g :: i :: j :: k :: l :: m :: n :: o :: p :: some v :: r) H Q := ⟨v, rfl, h⟩
instance o_xv15 : One (tVar 15 (a :: b :: c :: d :: e :: f :: g :: i :: j :: k :: l :: m :: n :: o :: p :: some v :: r) H Q) (Q v H) := ⟨xv15⟩
theorem xvr {σ : L2.St} {i : Nat} (hv : σ[i]? = some (some v)) (h : Q v H) : tVar i σ H Q := ⟨v, hv, h⟩
end
section
variable {K : PySem.W.Frag} {σ : L2.St} {H : Hp} {te ta tb tl : TE} {t u tw tz tu : TS} {c : TT} {nx bk ct : L2.St → Hp → Prop} {rt : VK} {i : Nat} {g : TG} {wi : TI}
def LoopK (J : It) (g : TG) (tb : TS) (D : Ends) (σ : L2.St) (H : Hp) : Prop := ∃ W : Nat → Nat → L2.St → Hp → Prop, (∃ m, W 0 m σ H) ∧ ∀ i m σ H, W i m σ H →
  (J.stop i H ∧ D.nx σ H) ∨ (J.go i H ∧ ∃ N : L2.St → Hp → Prop, (∀ σ' H', N σ' H' → ∃ m', m' < m ∧ W (i + 1) m' σ' H') ∧ ∀ x H', J.yld i H x H' → g x σ H' fun σ2 H2 => tb { D with nx := N, ct := N, bk := D.nx } σ2 H2)
theorem q_asg (h : te σ H fun x H1 => SetK σ i x (tz ⟨nx, rt, bk, ct⟩) H1) : tSeq (tAsg te (gName i)) tz ⟨nx, rt, bk, ct⟩ σ H := h
instance o_q_asg : OneS (tSeq (tAsg te (gName i)) tz ⟨nx, rt, bk, ct⟩ σ H) (te σ H fun x H1 => SetK σ i x (tz ⟨nx, rt, bk, ct⟩) H1) := ⟨q_asg⟩
theorem s_asg (h : te σ H fun x H1 => SetK σ i x nx H1) : tAsg te (gName i) ⟨nx, rt, bk, ct⟩ σ H := h
instance o_s_asg : OneS (tAsg te (gName i) ⟨nx, rt, bk, ct⟩ σ H) (te σ H fun x H1 => SetK σ i x nx H1) := ⟨s_asg⟩
theorem q_asgG (h : te σ H fun x H1 => g x σ H1 (tz ⟨nx, rt, bk, ct⟩)) : tSeq (tAsg te g) tz ⟨nx, rt, bk, ct⟩ σ H := h
instance o_q_asgG : OneS (tSeq (tAsg te g) tz ⟨nx, rt, bk, ct⟩ σ H) (te σ H fun x H1 => g x σ H1 (tz ⟨nx, rt, bk, ct⟩)) := ⟨q_asgG⟩
theorem s_asgG (h : te σ H fun x H1 => g x σ H1 nx) : tAsg te g ⟨nx, rt, bk, ct⟩ σ H := h
instance o_s_asgG : OneS (tAsg te g ⟨nx, rt, bk, ct⟩ σ H) (te σ H fun x H1 => g x σ H1 nx) := ⟨s_asgG⟩
theorem q_drop (h : te σ H fun _ H1 => tz ⟨nx, rt, bk, ct⟩ σ H1) : tSeq (tDrop te) tz ⟨nx, rt, bk, ct⟩ σ H := h
instance o_q_drop : OneS (tSeq (tDrop te) tz ⟨nx, rt, bk, ct⟩ σ H) (te σ H fun _ H1 => tz ⟨nx, rt, bk, ct⟩ σ H1) := ⟨q_drop⟩
theorem s_drop (h : te σ H fun _ H1 => nx σ H1) : tDrop te ⟨nx, rt, bk, ct⟩ σ H := h
instance o_s_drop : OneS (tDrop te ⟨nx, rt, bk, ct⟩ σ H) (te σ H fun _ H1 => nx σ H1) := ⟨s_drop⟩
theorem s_ret (h : te σ H rt) : tRet te ⟨nx, rt, bk, ct⟩ σ H := h
instance o_s_ret : OneS (tRet te ⟨nx, rt, bk, ct⟩ σ H) (te σ H rt) := ⟨s_ret⟩
theorem s_retN (h : rt .non H) : tRetN ⟨nx, rt, bk, ct⟩ σ H := h
instance o_s_retN : OneS (tRetN ⟨nx, rt, bk, ct⟩ σ H) (rt .non H) := ⟨s_retN⟩
theorem q_if (h : c σ H fun b H1 => IfK b (t ⟨tz ⟨nx, rt, bk, ct⟩, rt, bk, ct⟩ σ H1) (u ⟨tz ⟨nx, rt, bk, ct⟩, rt, bk, ct⟩ σ H1)) : tSeq (tIfS c t u) tz ⟨nx, rt, bk, ct⟩ σ H := h
instance o_q_if : OneS (tSeq (tIfS c t u) tz ⟨nx, rt, bk, ct⟩ σ H) (c σ H fun b H1 => IfK b (t ⟨tz ⟨nx, rt, bk, ct⟩, rt, bk, ct⟩ σ H1) (u ⟨tz ⟨nx, rt, bk, ct⟩, rt, bk, ct⟩ σ H1)) := ⟨q_if⟩
theorem s_if (h : c σ H fun b H1 => IfK b (t ⟨nx, rt, bk, ct⟩ σ H1) (u ⟨nx, rt, bk, ct⟩ σ H1)) : tIfS c t u ⟨nx, rt, bk, ct⟩ σ H := h
instance o_s_if : OneS (tIfS c t u ⟨nx, rt, bk, ct⟩ σ H) (c σ H fun b H1 => IfK b (t ⟨nx, rt, bk, ct⟩ σ H1) (u ⟨nx, rt, bk, ct⟩ σ H1)) := ⟨s_if⟩
theorem s_next (h : nx σ H) : tNext ⟨nx, rt, bk, ct⟩ σ H := h
instance o_s_next : One (tNext ⟨nx, rt, bk, ct⟩ σ H) (nx σ H) := ⟨s_next⟩
theorem s_brk (h : bk σ H) : tBreak ⟨nx, rt, bk, ct⟩ σ H := h
instance o_s_brk : OneS (tBreak ⟨nx, rt, bk, ct⟩ σ H) (bk σ H) := ⟨s_brk⟩
theorem s_cont (h : ct σ H) : tCont ⟨nx, rt, bk, ct⟩ σ H := h
instance o_s_cont : OneS (tCont ⟨nx, rt, bk, ct⟩ σ H) (ct σ H) := ⟨s_cont⟩
theorem q_seq (h : tSeq t (fun D => tSeq u tz D) ⟨nx, rt, bk, ct⟩ σ H) : tSeq (tSeq t u) tz ⟨nx, rt, bk, ct⟩ σ H := h
instance o_q_seq : OneS (tSeq (tSeq t u) tz ⟨nx, rt, bk, ct⟩ σ H) (tSeq t (fun D => tSeq u tz D) ⟨nx, rt, bk, ct⟩ σ H) := ⟨q_seq⟩
theorem q_for (h : wi σ H fun J H1 => LoopK J g tu ⟨tz ⟨nx, rt, bk, ct⟩, rt, bk, ct⟩ σ H1) : tSeq (tFor wi g tu) tz ⟨nx, rt, bk, ct⟩ σ H := h
instance o_q_for : OneS (tSeq (tFor wi g tu) tz ⟨nx, rt, bk, ct⟩ σ H) (wi σ H fun J H1 => LoopK J g tu ⟨tz ⟨nx, rt, bk, ct⟩, rt, bk, ct⟩ σ H1) := ⟨q_for⟩
theorem s_for (h : wi σ H fun J H1 => LoopK J g tu ⟨nx, rt, bk, ct⟩ σ H1) : tFor wi g tu ⟨nx, rt, bk, ct⟩ σ H := h
instance o_s_for : OneS (tFor wi g tu ⟨nx, rt, bk, ct⟩ σ H) (wi σ H fun J H1 => LoopK J g tu ⟨nx, rt, bk, ct⟩ σ H1) := ⟨s_for⟩
theorem q_aug {f : Int → Int → Int} {z : Int} (h : tVar i σ H fun x H0 => te σ H0 fun y H1 => ipI f x y H1 fun z H2 => SetK σ i z (tz ⟨nx, rt, bk, ct⟩) H2) : tSeq (tAug i te (ipI f)) tz ⟨nx, rt, bk, ct⟩ σ H := h
theorem s_aug {f : Int → Int → Int} {z : Int} (h : tVar i σ H fun x H0 => te σ H0 fun y H1 => ipI f x y H1 fun z H2 => SetK σ i z nx H2) : tAug i te (ipI f) ⟨nx, rt, bk, ct⟩ σ H := h
theorem r_ip {f : Int → Int → Int} {a b : Int} {Q : VK} (h : Q (.int (f a b)) H) : ipI f (.int a) (.int b) H Q := ⟨a, b, rfl, rfl, h⟩
instance o_r_ip {f : Int → Int → Int} {a b : Int} {Q : VK} : One (ipI f (.int a) (.int b) H Q) (Q (.int (f a b)) H) := ⟨r_ip⟩
theorem q_cut (M : L2.St → Hp → Prop) (h : ∀ N : L2.St → Hp → Prop, (∀ σ' H', M σ' H' → N σ' H') → t ⟨N, rt, bk, ct⟩ σ H) (k : ∀ σ' H', M σ' H' → tz ⟨nx, rt, bk, ct⟩ σ' H') : tSeq t tz ⟨nx, rt, bk, ct⟩ σ H := h _ k
theorem q_asgM (M : V → Hp → Prop) (h : ∀ R : VK, (∀ v H1, M v H1 → R v H1) → te σ H R) (k : ∀ v H1, M v H1 → SetK σ i v (tz ⟨nx, rt, bk, ct⟩) H1) : tSeq (tAsg te (gName i)) tz ⟨nx, rt, bk, ct⟩ σ H := h _ k
def ItLK (K : PySem.W.Frag) (x : V) (R : It → Hp → Prop) (H : Hp) : Prop := ∃ a, x = .ref a ∧ (∃ xs, SqL K H a xs) ∧ R (Itl K a) H
def ItTK (K : PySem.W.Frag) (x : V) (R : It → Hp → Prop) (H : Hp) : Prop := ∃ a, x = .ref a ∧ (∃ xs, SqT K H a xs) ∧ R (Itt K a) H
theorem x_iList {R : It → Hp → Prop} (h : tl σ H fun x H1 => ItLK K x R H1) : iList K tl σ H R := h
instance o_x_iList {R : It → Hp → Prop} : One (iList K tl σ H R) (tl σ H fun x H1 => ItLK K x R H1) := ⟨x_iList⟩
theorem x_iTup {R : It → Hp → Prop} (h : tl σ H fun x H1 => ItTK K x R H1) : iTup K tl σ H R := h
instance o_x_iTup {R : It → Hp → Prop} : One (iTup K tl σ H R) (tl σ H fun x H1 => ItTK K x R H1) := ⟨x_iTup⟩
theorem x_iRng1 {ta : TA} {R : It → Hp → Prop} (h : ta σ H fun vs H1 => ∃ j : Int, vs = [.int j] ∧ -(2 ^ 62) ≤ j ∧ j < 2 ^ 62 ∧ R (Itr 0 j.toNat) H1) : iRng1 ta σ H R := h
instance o_x_iRng1 {ta : TA} {R : It → Hp → Prop} : One (iRng1 ta σ H R) (ta σ H fun vs H1 => ∃ j : Int, vs = [.int j] ∧ -(2 ^ 62) ≤ j ∧ j < 2 ^ 62 ∧ R (Itr 0 j.toNat) H1) := ⟨x_iRng1⟩
theorem x_iRng2 {ta : TA} {R : It → Hp → Prop} (h : ta σ H fun vs H1 => ∃ i j : Int, vs = [.int i, .int j] ∧ (-(2 ^ 62) ≤ i ∧ i < 2 ^ 62 ∧ -(2 ^ 62) ≤ j ∧ j < 2 ^ 62) ∧ R (Itr i (j - i).toNat) H1) : iRng2 ta σ H R := h
instance o_x_iRng2 {ta : TA} {R : It → Hp → Prop} : One (iRng2 ta σ H R) (ta σ H fun vs H1 => ∃ i j : Int, vs = [.int i, .int j] ∧ (-(2 ^ 62) ≤ i ∧ i < 2 ^ 62 ∧ -(2 ^ 62) ≤ j ∧ j < 2 ^ 62) ∧ R (Itr i (j - i).toNat) H1) := ⟨x_iRng2⟩
theorem forL {a : Addr} {R : It → Hp → Prop} (xs : List V) (hx : SqL K H a xs) (h : R (Itl K a) H) : ItLK K (.ref a) R H := ⟨a, rfl, ⟨xs, hx⟩, h⟩
theorem forT {a : Addr} {R : It → Hp → Prop} (xs : List V) (hx : SqT K H a xs) (h : R (Itt K a) H) : ItTK K (.ref a) R H := ⟨a, rfl, ⟨xs, hx⟩, h⟩
theorem loopL {a : Addr} {j : Nat} (xs : List V) (Pv : Nat → L2.St → Hp → Prop) (h0 : Pv 0 σ H) (hl : ∀ i σ H, i ≤ xs.length → Pv i σ H → SqL K H a xs)
    (hs : ∀ i x σ H, xs[i]? = some x → Pv i σ H → SetK σ j x (tu ⟨Pv (i + 1), rt, nx, Pv (i + 1)⟩) H) (hd : ∀ σ H, Pv xs.length σ H → nx σ H) : LoopK (Itl K a) (gName j) tu ⟨nx, rt, bk, ct⟩ σ H :=
  for_list (K := K) (a := a) (xs := xs) (g := gName j) (tb := tu) (D := ⟨nx, rt, bk, ct⟩) Pv h0 hl (fun i x σ H hi hp => hs i x σ H hi hp) hd
theorem loopT {a : Addr} {j : Nat} (xs : List V) (Pv : Nat → L2.St → Hp → Prop) (h0 : Pv 0 σ H) (hl : ∀ i σ H, i ≤ xs.length → Pv i σ H → SqT K H a xs)
    (hs : ∀ i x σ H, xs[i]? = some x → Pv i σ H → SetK σ j x (tu ⟨Pv (i + 1), rt, nx, Pv (i + 1)⟩) H) (hd : ∀ σ H, Pv xs.length σ H → nx σ H) : LoopK (Itt K a) (gName j) tu ⟨nx, rt, bk, ct⟩ σ H :=
  for_tup (K := K) (a := a) (xs := xs) (g := gName j) (tb := tu) (D := ⟨nx, rt, bk, ct⟩) Pv h0 hl (fun i x σ H hi hp => hs i x σ H hi hp) hd
theorem loopLg {a : Addr} {g : TG} (xs : List V) (Pv : Nat → L2.St → Hp → Prop) (h0 : Pv 0 σ H) (hl : ∀ i σ H, i ≤ xs.length → Pv i σ H → SqL K H a xs)
    (hs : ∀ i x σ H, xs[i]? = some x → Pv i σ H → g x σ H (tu ⟨Pv (i + 1), rt, nx, Pv (i + 1)⟩)) (hd : ∀ σ H, Pv xs.length σ H → nx σ H) : LoopK (Itl K a) g tu ⟨nx, rt, bk, ct⟩ σ H :=
  for_list (K := K) (a := a) (xs := xs) (g := g) (tb := tu) (D := ⟨nx, rt, bk, ct⟩) Pv h0 hl (fun i x σ H hi hp => hs i x σ H hi hp) hd
theorem loopR {lo : Int} {n j : Nat} (Pv : Nat → L2.St → Hp → Prop) (h0 : Pv 0 σ H) (hs : ∀ i σ H, i < n → Pv i σ H → SetK σ j (.int (lo + i)) (tu ⟨Pv (i + 1), rt, nx, Pv (i + 1)⟩) H)
    (hd : ∀ σ H, Pv n σ H → nx σ H) : LoopK (Itr lo n) (gName j) tu ⟨nx, rt, bk, ct⟩ σ H :=
  for_range (lo := lo) (n := n) (g := gName j) (tb := tu) (D := ⟨nx, rt, bk, ct⟩) Pv h0 (fun i σ H hi hp => hs i σ H hi hp) hd
theorem q_while (W : Nat → L2.St → Hp → Prop) (m0 : Nat) (h0 : W m0 σ H)
    (hs : ∀ m σ H, W m σ H → ∀ (N : L2.St → Hp → Prop) (R : Bool → Hp → Prop), (∀ m' σ' H', m' < m → W m' σ' H' → N σ' H') → (∀ H1, tu ⟨N, rt, tz ⟨nx, rt, bk, ct⟩, N⟩ σ H1 → R true H1) → (∀ H1, tz ⟨nx, rt, bk, ct⟩ σ H1 → R false H1) → c σ H R) :
    tSeq (tWhile c tu) tz ⟨nx, rt, bk, ct⟩ σ H := by
  refine ⟨W, ⟨m0, h0⟩, fun m σ' H' hw => ?_⟩
  refine hs m σ' H' hw (fun σ2 H2 => ∃ m', m' < m ∧ W m' σ2 H2) _ (fun m' σ2 H2 a b => ⟨m', a, b⟩) (fun H1 q => ?_) (fun H1 q => ?_)
  · show (if true = true then _ else _)
    rw [if_pos rfl]
    exact ⟨_, fun _ _ z => z, q⟩
  · show (if false = true then _ else _)
    rw [if_neg Bool.false_ne_true]
    exact q
end
theorem cxK {CX : CXT} {P : Program} {w : World} {K : PySem.W.Frag} {mg : Str → Option Value} {base : Heap} {N : List Str} {qual : Str} {scope : Scope} {f : Addr} {cd : Value} {A : Around} {outer : List Env} {s : Shared} {H : Hp} {E : XK} :
    (cxOf CX P w K mg base N qual scope f cd A outer s H E).nox.K = K := rfl
theorem cxKX {CX : CXT} {P : Program} {w : World} {K : PySem.W.Frag} {mg : Str → Option Value} {base : Heap} {N : List Str} {qual : Str} {scope : Scope} {f : Addr} {cd : Value} {A : Around} {outer : List Env} {s : Shared} {H : Hp} {E : XK} :
    (cxOf CX P w K mg base N qual scope f cd A outer s H E).K = K := rfl
theorem ent {t : TS} {D : Ends} {σ σ' : L2.St} {H : Hp} (e : σ = σ') (h : t D σ' H) : t D σ H := e ▸ h
section
variable {K : PySem.W.Frag} {σ : L2.St} {H : Hp} {te ta tb tc : TE} {t u : TT} {Q : VK} {R : Bool → Hp → Prop} {x y v : V} {a b : Int}
theorem x_c (h : Q v H) : tC v σ H Q := h
instance o_x_c : One (tC v σ H Q) (Q v H) := ⟨x_c⟩
theorem x_op {r : R2} (h : ta σ H fun x H1 => tb σ H1 fun y H2 => r x y H2 Q) : tOp r ta tb σ H Q := h
instance o_x_op {r : R2} : One (tOp r ta tb σ H Q) (ta σ H fun x H1 => tb σ H1 fun y H2 => r x y H2 Q) := ⟨x_op⟩
theorem x_un {r : V → Hp → VK → Prop} (h : ta σ H fun x H1 => r x H1 Q) : tUn r ta σ H Q := h
instance o_x_un {r : V → Hp → VK → Prop} : One (tUn r ta σ H Q) (ta σ H fun x H1 => r x H1 Q) := ⟨x_un⟩
theorem r_u {g : Int → V} (h : Q (g a) H) : rU g (.int a) H Q := ⟨a, rfl, h⟩
instance o_r_u {g : Int → V} : One (rU g (.int a) H Q) (Q (g a) H) := ⟨r_u⟩
theorem r_i0 {g : Int → Int → V} (h : Q (g a b) H) : rI0 g (.int a) (.int b) H Q := ⟨a, b, rfl, rfl, h⟩
instance o_r_i0 {g : Int → Int → V} : One (rI0 g (.int a) (.int b) H Q) (Q (g a b) H) := ⟨r_i0⟩
theorem r_i {C : Int → Int → Prop} {g : Int → Int → V} (hc : C a b) (h : Q (g a b) H) : rI C g (.int a) (.int b) H Q := ⟨a, b, rfl, rfl, hc, h⟩
theorem r_eqI (h : Q (.bl (decide (a = b))) H) : rEq (.int a) (.int b) H Q := ⟨rfl, by rw [show decide (V.int a = V.int b) = decide (a = b) by rw [dec_int]; rfl]; exact h⟩
instance o_r_eqI : One (rEq (.int a) (.int b) H Q) (Q (.bl (decide (a = b))) H) := ⟨r_eqI⟩
theorem r_neI (h : Q (.bl (!decide (a = b))) H) : rNe (.int a) (.int b) H Q := ⟨rfl, by rw [show decide (V.int a = V.int b) = decide (a = b) by rw [dec_int]; rfl]; exact h⟩
instance o_r_neI : One (rNe (.int a) (.int b) H Q) (Q (.bl (!decide (a = b))) H) := ⟨r_neI⟩
theorem r_eqS {a b : Str} (h : Q (.bl (decide (a = b))) H) : rEq (.str a) (.str b) H Q := ⟨rfl, by rw [show decide (V.str a = V.str b) = decide (a = b) by rw [Bool.eq_iff_iff]; simp]; exact h⟩
instance o_r_eqS {a b : Str} : One (rEq (.str a) (.str b) H Q) (Q (.bl (decide (a = b))) H) := ⟨r_eqS⟩
theorem r_neS {a b : Str} (h : Q (.bl (!decide (a = b))) H) : rNe (.str a) (.str b) H Q := ⟨rfl, by rw [show decide (V.str a = V.str b) = decide (a = b) by rw [Bool.eq_iff_iff]; simp]; exact h⟩
instance o_r_neS {a b : Str} : One (rNe (.str a) (.str b) H Q) (Q (.bl (!decide (a = b))) H) := ⟨r_neS⟩
theorem r_eqNI (h : Q (.bl false) H) : rEq .non (.int b) H Q := ⟨rfl, h⟩
theorem r_eqIN (h : Q (.bl false) H) : rEq (.int a) .non H Q := ⟨rfl, h⟩
theorem r_neNI (h : Q (.bl true) H) : rNe .non (.int b) H Q := ⟨rfl, h⟩
theorem r_neIN (h : Q (.bl true) H) : rNe (.int a) .non H Q := ⟨rfl, h⟩
theorem x_test (h : ta σ H fun x H1 => BlK x fun k => R k H1) : tTest ta σ H R := h
instance o_x_test : One (tTest ta σ H R) (ta σ H fun x H1 => BlK x fun k => R k H1) := ⟨x_test⟩
theorem x_tB (h : ta σ H fun x H1 => BlK x fun k => R k H1) : tB ta σ H R := h
instance o_x_tB : One (tB ta σ H R) (ta σ H fun x H1 => BlK x fun k => R k H1) := ⟨x_tB⟩
theorem x_and (h : t σ H fun c H1 => IfK c (u σ H1 R) (R false H1)) : tAnd t u σ H R := h
instance o_x_and : One (tAnd t u σ H R) (t σ H fun c H1 => IfK c (u σ H1 R) (R false H1)) := ⟨x_and⟩
theorem x_or (h : t σ H fun c H1 => IfK c (R true H1) (u σ H1 R)) : tOr t u σ H R := h
instance o_x_or : One (tOr t u σ H R) (t σ H fun c H1 => IfK c (R true H1) (u σ H1 R)) := ⟨x_or⟩
theorem x_not (h : t σ H fun c H1 => R (!c) H1) : tNot t σ H R := h
instance o_x_not : One (tNot t σ H R) (t σ H fun c H1 => R (!c) H1) := ⟨x_not⟩
theorem x_andV (h : ta σ H fun x H1 => BlK x fun c => IfK c (tb σ H1 Q) (Q (.bl false) H1)) : tAndV ta tb σ H Q := h
instance o_x_andV : One (tAndV ta tb σ H Q) (ta σ H fun x H1 => BlK x fun c => IfK c (tb σ H1 Q) (Q (.bl false) H1)) := ⟨x_andV⟩
theorem x_orV (h : ta σ H fun x H1 => BlK x fun c => IfK c (Q (.bl true) H1) (tb σ H1 Q)) : tOrV ta tb σ H Q := h
instance o_x_orV : One (tOrV ta tb σ H Q) (ta σ H fun x H1 => BlK x fun c => IfK c (Q (.bl true) H1) (tb σ H1 Q)) := ⟨x_orV⟩
theorem x_notV (h : ta σ H fun x H1 => BlK x fun c => Q (.bl (!c)) H1) : tNotV ta σ H Q := h
instance o_x_notV : One (tNotV ta σ H Q) (ta σ H fun x H1 => BlK x fun c => Q (.bl (!c)) H1) := ⟨x_notV⟩
theorem x_ifE (h : t σ H fun c H1 => IfK c (ta σ H1 Q) (tb σ H1 Q)) : tIf t ta tb σ H Q := h
instance o_x_ifE : One (tIf t ta tb σ H Q) (t σ H fun c H1 => IfK c (ta σ H1 Q) (tb σ H1 Q)) := ⟨x_ifE⟩
theorem x_isN (h : ta σ H fun x H1 => Q (.bl (decide (x = .non))) H1) : tIsN ta σ H Q := h
instance o_x_isN : One (tIsN ta σ H Q) (ta σ H fun x H1 => Q (.bl (decide (x = .non))) H1) := ⟨x_isN⟩
theorem x_notN (h : ta σ H fun x H1 => Q (.bl (!decide (x = .non))) H1) : tNotN ta σ H Q := h
instance o_x_notN : One (tNotN ta σ H Q) (ta σ H fun x H1 => Q (.bl (!decide (x = .non))) H1) := ⟨x_notN⟩
def ChK (z : V) (A B : Prop) : Prop := ∃ k, z = .bl k ∧ (if k = true then A else B)
theorem chk {k : Bool} {A B : Prop} (h : IfK k A B) : ChK (.bl k) A B := ⟨k, rfl, h⟩
instance o_chk {k : Bool} {A B : Prop} : One (ChK (.bl k) A B) (IfK k A B) := ⟨chk⟩
theorem x_chain {r r' : R2} (h : ta σ H fun x H1 => tb σ H1 fun y H2 => r x y H2 fun z H3 => ChK z (tc σ H3 fun w' H4 => r' y w' H4 Q) (Q (.bl false) H3)) : tChain r r' ta tb tc σ H Q := h
instance o_x_chain {r r' : R2} : One (tChain r r' ta tb tc σ H Q) (ta σ H fun x H1 => tb σ H1 fun y H2 => r x y H2 fun z H3 => ChK z (tc σ H3 fun w' H4 => r' y w' H4 Q) (Q (.bl false) H3)) := ⟨x_chain⟩
theorem divW {i j : Int} (h : 0 < j) (h2 : j < 2 ^ 62) : CDivW i j := wide_div (b := 62) h (by omega) (by decide) (by decide)
def IxLK (K : PySem.W.Frag) (x y : V) (Q : VK) (H : Hp) : Prop := rIxL K x y H Q
theorem r_ixL {p : Addr} {xs : List V} {i : Int} (h : SqL K H p xs) (ha : atI xs i = some v) (q : Q v H) : rIxL K (.ref p) (.int i) H Q := ⟨p, xs, i, v, rfl, rfl, h, ha, q⟩
theorem r_ixT {p : Addr} {xs : List V} {i : Int} (h : SqT K H p xs) (ha : atI xs i = some v) (q : Q v H) : rIxT K (.ref p) (.int i) H Q := ⟨p, xs, i, v, rfl, rfl, h, ha, q⟩
theorem x_call {sp : Sp} {E : XK} {ta : TA} (h : ta σ H fun vs H1 => sp vs H1 Q E) : tCall sp [] E ta σ H Q := by
  have e : (fun (vs : List V) H1 => sp (vs ++ []) H1 Q E) = fun vs H1 => sp vs H1 Q E := by funext vs H1; rw [List.append_nil]
  show ta σ H fun vs H1 => sp (vs ++ []) H1 Q E
  rw [e]
  exact h
instance o_x_call {sp : Sp} {E : XK} {ta : TA} : One (tCall sp [] E ta σ H Q) (ta σ H fun vs H1 => sp vs H1 Q E) := ⟨x_call⟩
def MtK (C : Addr) (m : Str) (x : V) (H1 : Hp) (A : Prop) : Prop := ∃ a dx fs, x = .ref a ∧ H1 a = some (.ins C dx fs) ∧ fs.lookup m = none ∧ A
theorem x_meth {C : Addr} {m : Str} {sp : Sp} {E : XK} {tx : TA} (h : ta σ H fun x H1 => MtK C m x H1 (tx σ H1 fun vs H2 => sp (x :: vs) H2 Q E)) : tMeth C m sp [] E ta tx σ H Q := by
  have e : ∀ x : V, (fun (vs : List V) H2 => sp (x :: (vs ++ [])) H2 Q E) = fun vs H2 => sp (x :: vs) H2 Q E := fun x => by funext vs H2; rw [List.append_nil]
  show ta σ H fun x H1 => ∃ a dx fs, x = .ref a ∧ H1 a = some (.ins C dx fs) ∧ fs.lookup m = none ∧ tx σ H1 fun vs H2 => sp (x :: (vs ++ [])) H2 Q E
  have e2 : (fun (x : V) (H1 : Hp) => ∃ a dx fs, x = .ref a ∧ H1 a = some (.ins C dx fs) ∧ fs.lookup m = none ∧ tx σ H1 fun vs H2 => sp (x :: (vs ++ [])) H2 Q E) =
      fun x H1 => MtK C m x H1 (tx σ H1 fun vs H2 => sp (x :: vs) H2 Q E) := by
    funext x H1
    rw [e x]
    rfl
  rw [e2]
  exact h
instance o_x_meth {C : Addr} {m : Str} {sp : Sp} {E : XK} {tx : TA} : One (tMeth C m sp [] E ta tx σ H Q) (ta σ H fun x H1 => MtK C m x H1 (tx σ H1 fun vs H2 => sp (x :: vs) H2 Q E)) := ⟨x_meth⟩
theorem mtk {C a dx : Addr} {fs : List (Str × V)} {m : Str} {A : Prop} (h : H a = some (.ins C dx fs)) (hl : fs.lookup m = none) (q : A) : MtK C m (.ref a) H A := ⟨a, dx, fs, rfl, h, hl, q⟩
theorem x_nil {R : List V → Hp → Prop} (h : R [] H) : tNil σ H R := h
instance o_x_nil {R : List V → Hp → Prop} : One (tNil σ H R) (R [] H) := ⟨x_nil⟩
theorem x_cons {tr : TA} {R : List V → Hp → Prop} (h : ta σ H fun x H1 => tr σ H1 fun xs H2 => R (x :: xs) H2) : tCons ta tr σ H R := h
instance o_x_cons {tr : TA} {R : List V → Hp → Prop} : One (tCons ta tr σ H R) (ta σ H fun x H1 => tr σ H1 fun xs H2 => R (x :: xs) H2) := ⟨x_cons⟩
theorem x_cb {r : List V → Hp → VK → Prop} {tx : TA} (h : tx σ H fun vs H1 => r vs H1 Q) : tCB r tx σ H Q := h
instance o_x_cb {r : List V → Hp → VK → Prop} {tx : TA} : One (tCB r tx σ H Q) (tx σ H fun vs H1 => r vs H1 Q) := ⟨x_cb⟩
def StFK (K : PySem.W.Frag) (x : V) (f : Str) (y : V) (A : Hp → Prop) (H2 : Hp) : Prop := ∃ a C dx fs, x = .ref a ∧ H2 a = some (.ins C dx fs) ∧ Cls K C ∧ NoAttr K C f ∧ fs.length < 1000 ∧ A (upd H2 a (.ins C dx (putF f y fs)))
def FldK (K : PySem.W.Frag) (f : Str) (x : V) (Q : VK) (H1 : Hp) : Prop := ∃ a C dx fs v, x = .ref a ∧ H1 a = some (.ins C dx fs) ∧ Cls K C ∧ NoAttr K C f ∧ fs.lookup f = some v ∧ Q v H1
theorem x_fld {f : Str} (h : ta σ H fun x H1 => FldK K f x Q H1) : tFld K ta f σ H Q := h
instance o_x_fld {f : Str} : One (tFld K ta f σ H Q) (ta σ H fun x H1 => FldK K f x Q H1) := ⟨x_fld⟩
theorem fldk {f : Str} {a C dx : Addr} {fs : List (Str × V)} (ho : H a = some (.ins C dx fs)) (hc : Cls K C) (hn : NoAttr K C f) (hl : fs.lookup f = some v) (q : Q v H) : FldK K f (.ref a) Q H := ⟨a, C, dx, fs, v, rfl, ho, hc, hn, hl, q⟩
end
structure Fr (M : List Addr) (H H' : Hp) : Prop where
  at_ : ∀ a o, H a = some o → a ∉ M → H' a = some o
  tp : ∀ t xs, H t = some (.tup xs) → H' t = some (.tup xs)
  fz : ∀ t o u, H t = some (.frz o u) → H' t = some (.frz o u)
section
variable {K : PySem.W.Frag} {M M' : List Addr} {H H1 H2 : Hp} {a l p : Addr} {o : HO}
theorem Fr.refl (M : List Addr) (H : Hp) : Fr M H H := ⟨fun _ _ h _ => h, fun _ _ h => h, fun _ _ _ h => h⟩
theorem Fr.trans (x : Fr M H H1) (y : Fr M H1 H2) : Fr M H H2 := ⟨fun a o h n => y.at_ a o (x.at_ a o h n) n, fun t xs h => y.tp t xs (x.tp t xs h), fun t u w h => y.fz t u w (x.fz t u w h)⟩
theorem Fr.mono (x : Fr M H H1) (h : ∀ a ∈ M, a ∈ M') : Fr M' H H1 := ⟨fun a o e n => x.at_ a o e fun z => n (h a z), x.tp, x.fz⟩
theorem Fr.up (x : Fr [] H H1) : Fr M H H1 := x.mono fun _ z => nomatch z
theorem Fr.drop (x : Fr M H H1) (y : Fr (p :: M) H1 H2) (n : H p = none) : Fr M H H2 :=
  ⟨fun a o e m => y.at_ a o (x.at_ a o e m) fun z => by
    rcases List.mem_cons.mp z with z | z
    · rw [z, n] at e; cases e
    · exact m z, fun t xs e => y.tp t xs (x.tp t xs e), fun t u w e => y.fz t u w (x.fz t u w e)⟩
theorem Fr.drop2 {p2 : Addr} (x : Fr M H H1) (y : Fr (p :: p2 :: M) H1 H2) (n : H p = none) (n2 : H p2 = none) : Fr M H H2 :=
  ⟨fun a o e m => y.at_ a o (x.at_ a o e m) fun z => by
    rcases List.mem_cons.mp z with z | z
    · rw [z, n] at e; cases e
    · rcases List.mem_cons.mp z with z | z
      · rw [z, n2] at e; cases e
      · exact m z, fun t xs e => y.tp t xs (x.tp t xs e), fun t u w e => y.fz t u w (x.fz t u w e)⟩
theorem Fr.new (n : H p = none) : Fr [] H (upd H p o) :=
  ⟨fun a u e _ => by rw [upd_ne (ne_of_none e n)]; exact e, fun t xs e => by rw [upd_ne (ne_of_none e n)]; exact e, fun t u w e => by rw [upd_ne (ne_of_none e n)]; exact e⟩
theorem Fr.lst {xs : List V} (h : H l = some (.lst xs)) : Fr [l] H (upd H l o) :=
  ⟨fun a u e m => by rw [upd_ne fun z => m (by rw [z]; exact List.mem_singleton.mpr rfl)]; exact e, fun t ys e => by rw [upd_ne (ne_of e h (by intro z; cases z))]; exact e,
    fun t u w e => by rw [upd_ne (ne_of e h (by intro z; cases z))]; exact e⟩
theorem Fr.dct {kvs : List (Key × V)} (h : H l = some (.dK kvs)) : Fr [l] H (upd H l o) :=
  ⟨fun a u e m => by rw [upd_ne fun z => m (by rw [z]; exact List.mem_singleton.mpr rfl)]; exact e, fun t ys e => by rw [upd_ne (ne_of e h (by intro z; cases z))]; exact e,
    fun t u w e => by rw [upd_ne (ne_of e h (by intro z; cases z))]; exact e⟩
theorem Fr.ins {C dx : Addr} {fs : List (Str × V)} (h : H l = some (.ins C dx fs)) : Fr [l] H (upd H l o) :=
  ⟨fun a u e m => by rw [upd_ne fun z => m (by rw [z]; exact List.mem_singleton.mpr rfl)]; exact e, fun t ys e => by rw [upd_ne (ne_of e h (by intro z; cases z))]; exact e,
    fun t u w e => by rw [upd_ne (ne_of e h (by intro z; cases z))]; exact e⟩
theorem Fr.rd (x : Fr M H H1) {u : HO} (h : Rd H a u) (n : a ∉ M) : Rd H1 a u := by
  rcases h with h | ⟨o, h⟩
  · exact .inl (x.at_ _ _ h n)
  · exact .inr ⟨o, x.fz _ _ _ h⟩
theorem Fr.sqL (x : Fr M H H1) {xs : List V} (h : SqL K H a xs) (n : a ∉ M) : SqL K H1 a xs := by
  rcases h with h | h
  · exact .inl (x.rd h n)
  · exact .inr h
theorem Fr.sqT (x : Fr M H H1) {xs : List V} (h : SqT K H a xs) : SqT K H1 a xs := by
  rcases h with (h | ⟨o, h⟩) | h
  · exact .inl (.inl (x.tp _ _ h))
  · exact .inl (.inr ⟨o, x.fz _ _ _ h⟩)
  · exact .inr h
theorem Fr.free (x : Fr [] H H1) (h : H1 p = none) : H p = none := by
  cases e : H p with
  | none => rfl
  | some o => rw [x.at_ p o e (fun z => nomatch z)] at h; cases h
theorem sqL_of {xs : List V} (h : H a = some (.lst xs)) : SqL K H a xs := .inl (.inl h)
theorem sqT_of {xs : List V} (h : H a = some (.tup xs)) : SqT K H a xs := .inl (.inl h)
theorem small {n : Nat} (h : n ≤ 100000) : n ≤ sizeLine := Nat.le_trans h (by decide)
theorem small' {n : Nat} (h : n ≤ 100000) : n < sizeLine := Nat.lt_of_le_of_lt h (by decide)
end
section
variable {K : PySem.W.Frag} {σ : L2.St} {H : Hp} {te ta tb tl td ty : TE} {Q : VK} {x y v : V} {tz : TS} {nx bk ct : L2.St → Hp → Prop} {rt : VK}
def NewK (o : HO) (Q : VK) (H : Hp) : Prop := ∀ p, H p = none → Q (.ref p) (upd H p o)
theorem newk {o : HO} (h : ∀ (p : Addr) (H' : Hp), H p = none → H' p = some o → Fr [] H H' → Q (.ref p) H') : NewK o Q H := fun p np => h p _ np upd_same (Fr.new np)
def TupK (xs : List V) (Q : VK) (H : Hp) : Prop := xs.length ≤ sizeLine ∧ NewK (.tup xs) Q H
theorem x_tup {t : TA} (h : t σ H fun xs H1 => TupK xs Q H1) : tTup t σ H Q := h
instance o_x_tup {t : TA} : One (tTup t σ H Q) (t σ H fun xs H1 => TupK xs Q H1) := ⟨x_tup⟩
theorem tupk {xs : List V} (hl : xs.length ≤ 100000) (h : ∀ (p : Addr) (H' : Hp), H p = none → H' p = some (.tup xs) → Fr [] H H' → Q (.ref p) H') : TupK xs Q H := ⟨small hl, newk h⟩
def LstK (xs : List V) (Q : VK) (H : Hp) : Prop := xs.length ≤ sizeLine ∧ NewK (.lst xs) Q H
theorem x_lst {t : TA} (h : t σ H fun xs H1 => LstK xs Q H1) : tLst t σ H Q := h
instance o_x_lst {t : TA} : One (tLst t σ H Q) (t σ H fun xs H1 => LstK xs Q H1) := ⟨x_lst⟩
theorem lstk {xs : List V} (hl : xs.length ≤ 100000) (h : ∀ (p : Addr) (H' : Hp), H p = none → H' p = some (.lst xs) → Fr [] H H' → Q (.ref p) H') : LstK xs Q H := ⟨small hl, newk h⟩
theorem x_dnew (h : NewK (.dK []) Q H) : tDNewK σ H Q := h
instance o_x_dnew : One (tDNewK σ H Q) (NewK (.dK []) Q H) := ⟨x_dnew⟩
def ChgK (l : Addr) (o : HO) (A : Hp → Prop) (H : Hp) : Prop := A (upd H l o)
theorem chgL {l : Addr} {o : HO} {xs : List V} {A : Hp → Prop} (h : H l = some (.lst xs)) (k : ∀ H' : Hp, H' l = some o → Fr [l] H H' → A H') : A (upd H l o) := k _ upd_same (Fr.lst h)
theorem chgD {l : Addr} {o : HO} {kvs : List (Key × V)} {A : Hp → Prop} (h : H l = some (.dK kvs)) (k : ∀ H' : Hp, H' l = some o → Fr [l] H H' → A H') : A (upd H l o) := k _ upd_same (Fr.dct h)
theorem chgI {l C dx : Addr} {o : HO} {fs : List (Str × V)} {A : Hp → Prop} (h : H l = some (.ins C dx fs)) (k : ∀ H' : Hp, H' l = some o → Fr [l] H H' → A H') : A (upd H l o) := k _ upd_same (Fr.ins h)
theorem q_fld {tv : TE} {f : Str} (h : tv σ H fun y H1 => ta σ H1 fun x H2 => StFK K x f y (tz ⟨nx, rt, bk, ct⟩ σ) H2) : tSeq (sFld K ta tv f) tz ⟨nx, rt, bk, ct⟩ σ H := h
instance o_q_fld {tv : TE} {f : Str} : OneS (tSeq (sFld K ta tv f) tz ⟨nx, rt, bk, ct⟩ σ H) (tv σ H fun y H1 => ta σ H1 fun x H2 => StFK K x f y (tz ⟨nx, rt, bk, ct⟩ σ) H2) := ⟨q_fld⟩
theorem s_fld {tv : TE} {f : Str} (h : tv σ H fun y H1 => ta σ H1 fun x H2 => StFK K x f y (nx σ) H2) : sFld K ta tv f ⟨nx, rt, bk, ct⟩ σ H := h
instance o_s_fld {tv : TE} {f : Str} : OneS (sFld K ta tv f ⟨nx, rt, bk, ct⟩ σ H) (tv σ H fun y H1 => ta σ H1 fun x H2 => StFK K x f y (nx σ) H2) := ⟨s_fld⟩
theorem stfk {a C dx : Addr} {f : Str} {fs : List (Str × V)} {A : Hp → Prop} (ho : H a = some (.ins C dx fs)) (hc : Cls K C) (hn : NoAttr K C f) (hl : fs.length < 1000) (k : ∀ H', H' a = some (.ins C dx (putF f y fs)) → Fr [a] H H' → A H') : StFK K (.ref a) f y A H :=
  ⟨a, C, dx, fs, rfl, ho, hc, hn, hl, chgI ho k⟩
def TyLK (K : PySem.W.Frag) (T : String) (x : V) (H : Hp) (A : Prop) : Prop := tyV K T x H ∧ A
theorem x_bm {T : String} {r : V → List V → Hp → VK → Prop} {t : TA} (h : ta σ H fun x H1 => TyLK K T x H1 (t σ H1 fun xs H2 => r x xs H2 Q)) : tBM K T r ta t σ H Q := h
instance o_x_bm {T : String} {r : V → List V → Hp → VK → Prop} {t : TA} : One (tBM K T r ta t σ H Q) (ta σ H fun x H1 => TyLK K T x H1 (t σ H1 fun xs H2 => r x xs H2 Q)) := ⟨x_bm⟩
theorem x_bm0 {T : String} {r : V → List V → Hp → VK → Prop} (h : ta σ H fun x H1 => TyLK K T x H1 (r x [] H1 Q)) : tBM0 K T r ta σ H Q := h
instance o_x_bm0 {T : String} {r : V → List V → Hp → VK → Prop} : One (tBM0 K T r ta σ H Q) (ta σ H fun x H1 => TyLK K T x H1 (r x [] H1 Q)) := ⟨x_bm0⟩
theorem tyLst {l : Addr} {xs : List V} {A : Prop} (h : H l = some (.lst xs)) (a : A) : TyLK K "list" (.ref l) H A := ⟨Or.inl ⟨rfl, xs, sqL_of h⟩, a⟩
theorem r_app {l : Addr} {xs : List V} (h : H l = some (.lst xs)) (hl : xs.length ≤ 100000) (k : ∀ H' : Hp, H' l = some (.lst (xs ++ [y])) → Fr [l] H H' → Q .non H') : rAppend (.ref l) [y] H Q :=
  ⟨l, xs, y, rfl, rfl, h, small' hl, chgL (A := fun H' => Q .non H') h k⟩
theorem r_pop0 {l : Addr} {xs : List V} {y : V} (h : H l = some (.lst xs)) (hy : xs[xs.length - 1]? = some y) (k : ∀ H' : Hp, H' l = some (.lst xs.dropLast) → Fr [l] H H' → Q y H') : rPop (.ref l) [] H Q :=
  ⟨l, xs, y, rfl, rfl, h, hy, chgL (A := fun H' => Q y H') h k⟩
theorem seqIx {n : Nat} {j : Nat} (h : j < n) : seqIndex? (j : Int) n = some j := by
  unfold seqIndex?
  simp
  omega
theorem r_popAt {l : Addr} {xs : List V} {j : Nat} {y : V} (h : H l = some (.lst xs)) (hy : xs[j]? = some y) (hj : j < 100000) (k : ∀ H' : Hp, H' l = some (.lst (xs.eraseIdx j)) → Fr [l] H H' → Q y H') : rPopAt (.ref l) [.int (j : Int)] H Q :=
  ⟨l, xs, j, j, y, rfl, rfl, h, by omega, by omega, seqIx (List.getElem?_eq_some_iff.mp hy).1, hy, chgL (A := fun H' => Q y H') h k⟩
def SetLK (o i v : V) (H : Hp) (A : Hp → Prop) : Prop := rSetL o i v H A
theorem x_gsub {t : TSet} {N : L2.St → Hp → Prop} (h : ta σ H fun o H1 => tb σ H1 fun i H2 => t o i v H2 fun H3 => N σ H3) : gSub ta tb t v σ H N := h
instance o_x_gsub {t : TSet} {N : L2.St → Hp → Prop} : One (gSub ta tb t v σ H N) (ta σ H fun o H1 => tb σ H1 fun i H2 => t o i v H2 fun H3 => N σ H3) := ⟨x_gsub⟩
theorem r_setL {l : Addr} {xs : List V} {k : Int} {j : Nat} {A : Hp → Prop} (h : H l = some (.lst xs)) (hk : k = (j : Int)) (hj : j < xs.length) (q : ∀ H' : Hp, H' l = some (.lst (xs.set j v)) → Fr [l] H H' → A H') : rSetL (.ref l) (.int k) v H A := by
  refine ⟨l, xs, k, j, rfl, rfl, h, ?_, chgL h q⟩
  subst hk
  unfold ixN
  rw [if_pos (by omega), if_pos (by omega)]
  simp
def DGetK (x y : V) (Q : VK) (H : Hp) : Prop := ∃ a v, x = .ref a ∧ DGet H a y (some v) ∧ Q v H
theorem x_dget (h : td σ H fun x H1 => ty σ H1 fun y H2 => DGetK x y Q H2) : tDGet td ty σ H Q := h
instance o_x_dget : One (tDGet td ty σ H Q) (td σ H fun x H1 => ty σ H1 fun y H2 => DGetK x y Q H2) := ⟨x_dget⟩
theorem dgetk {a : Addr} {kvs : List (Key × V)} {n : Int} (h : Rd H a (.dK kvs)) (e : valV kvs (.inl n) = some v) (q : Q v H) : DGetK (.ref a) (.int n) Q H := ⟨a, v, rfl, .inl ⟨kvs, .inl n, h, rfl, e.symm⟩, q⟩
def DInK (x y : V) (R : Option V → Prop) (H : Hp) : Prop := ∃ a o, x = .ref a ∧ DGet H a y o ∧ R o
theorem x_din (h : ty σ H fun y H1 => td σ H1 fun x H2 => DInK x y (fun o => Q (.bl o.isSome) H2) H2) : tDIn ty td σ H Q := h
instance o_x_din : One (tDIn ty td σ H Q) (ty σ H fun y H1 => td σ H1 fun x H2 => DInK x y (fun o => Q (.bl o.isSome) H2) H2) := ⟨x_din⟩
theorem x_dnin (h : ty σ H fun y H1 => td σ H1 fun x H2 => DInK x y (fun o => Q (.bl (!o.isSome)) H2) H2) : tDNotIn ty td σ H Q := h
instance o_x_dnin : One (tDNotIn ty td σ H Q) (ty σ H fun y H1 => td σ H1 fun x H2 => DInK x y (fun o => Q (.bl (!o.isSome)) H2) H2) := ⟨x_dnin⟩
theorem dink {a : Addr} {kvs : List (Key × V)} {n : Int} {R : Option V → Prop} (h : Rd H a (.dK kvs)) (q : R (valV kvs (.inl n))) : DInK (.ref a) (.int n) R H := ⟨a, _, rfl, .inl ⟨kvs, .inl n, h, rfl, rfl⟩, q⟩
def DPutK (x y v : V) (A : Hp → Prop) (H : Hp) : Prop := ∃ a H4, x = .ref a ∧ DPut H a y v H4 ∧ A H4
theorem q_dput {tv : TE} (h : tv σ H fun v H1 => td σ H1 fun x H2 => ty σ H2 fun y H3 => DPutK x y v (tz ⟨nx, rt, bk, ct⟩ σ) H3) : tSeq (sDPut td ty tv) tz ⟨nx, rt, bk, ct⟩ σ H := h
instance o_q_dput {tv : TE} : OneS (tSeq (sDPut td ty tv) tz ⟨nx, rt, bk, ct⟩ σ H) (tv σ H fun v H1 => td σ H1 fun x H2 => ty σ H2 fun y H3 => DPutK x y v (tz ⟨nx, rt, bk, ct⟩ σ) H3) := ⟨q_dput⟩
theorem s_dput {tv : TE} (h : tv σ H fun v H1 => td σ H1 fun x H2 => ty σ H2 fun y H3 => DPutK x y v (nx σ) H3) : sDPut td ty tv ⟨nx, rt, bk, ct⟩ σ H := h
instance o_s_dput {tv : TE} : OneS (sDPut td ty tv ⟨nx, rt, bk, ct⟩ σ H) (tv σ H fun v H1 => td σ H1 fun x H2 => ty σ H2 fun y H3 => DPutK x y v (nx σ) H3) := ⟨s_dput⟩
theorem dputk {a : Addr} {kvs : List (Key × V)} {n : Int} {A : Hp → Prop} (h : H a = some (.dK kvs)) (hl : kvs.length ≤ 100000) (k : ∀ H' : Hp, H' a = some (.dK (putK kvs (.inl n) v)) → Fr [a] H H' → A H') : DPutK (.ref a) (.int n) v A H :=
  ⟨a, _, rfl, .inl ⟨kvs, .inl n, h, rfl, small' hl, rfl⟩, chgD h k⟩
def DG1K (x : V) (H1 : Hp) (A : Prop) : Prop := ∃ a, x = .ref a ∧ IsD H1 a ∧ A
theorem x_dg1 (h : td σ H fun x H1 => ∃ a, x = .ref a ∧ IsD H1 a ∧ ty σ H1 fun y H2 => ∃ o, DGet H2 a y o ∧ Q (o.getD .non) H2) : tDGet1 td ty σ H Q := h
theorem dg1 {a : Addr} {kvs : List (Key × V)} {n : Int} (h : Rd H a (.dK kvs)) (hy : ∀ R : VK, R (.int n) H → ty σ H R) (q : Q ((valV kvs (.inl n)).getD .non) H) :
    ∃ a', V.ref a = .ref a' ∧ IsD H a' ∧ ty σ H fun y H2 => ∃ o, DGet H2 a' y o ∧ Q (o.getD .non) H2 := ⟨a, rfl, .inl ⟨kvs, h⟩, hy _ ⟨_, .inl ⟨kvs, .inl n, h, rfl, rfl⟩, q⟩⟩
end
structure GF (P : Program) (w : World) (K : PySem.W.Frag) (mg : Str → Option Value) (base : Heap) (x : Str) (k : Nat) (ps : List Str) (sp : Sp) : Prop where
  ex : ∃ (f : Addr) (fd : FuncData), mg x = some (.ref f) ∧ PySem.W.keepIn K (.ref f) = true ∧ Binds K fd ps [] ∧ FnOk P w K mg base CX0 k f fd ps sp
structure GM (P : Program) (w : World) (K : PySem.W.Frag) (mg : Str → Option Value) (base : Heap) (C : Addr) (m : Str) (k : Nat) (ps : List Str) (sp : Sp) : Prop where
  cl : Cls K C
  ex : ∃ (f : Addr) (fd : FuncData), Meth K C m f ∧ Binds K fd ps [] ∧ FnOk P w K mg base CX0 k f fd ps sp
section
variable {X : Cx} {k : Nat} {ps : List Str} {sp : Sp} {x m : Str} {p pos apos : Pos} {e o : Expr} {es : List Expr} {t : TA} {ta : TE} {C : Addr}
theorem c_fn (G : GF X.prog X.w X.K X.mg X.base x k ps sp) (hr : Room k X.A) (ha : PA X (e :: es) t) (hg : Gl X x := by rfl) (hdb : (x == ("__debug__" : Str)) = false := by decide)
    (he : starEach (e :: es) X.env = (false, eval e X.env) :: starEach es X.env := by rfl) (hpl : (backTo pos (starEach es X.env)).any (·.1) = false := by rfl) :
    PE X (.Call (.Name x p) (e :: es) [] pos) (tCall sp [] E0 t) := by
  obtain ⟨f, fd, hm, hk, hb, F⟩ := G.ex
  exact pe_call F hr hg hm hk hb .nil pass0 ha hdb he hpl
theorem c_mt {pl : Sem Bool} (G : GM X.prog X.w X.K X.mg X.base C m k ps sp) (hr : Room k X.A) (he : PE X o ta) (ha : PA X (e :: es) t)
    (hst : starEach (e :: es) X.env = (false, eval e X.env) :: starEach es X.env := by rfl) (hpl : (backTo pos (starEach es X.env)).any (·.1) = false := by rfl)
    (ht : eval (.Call (.Attribute o m apos) (e :: es) [] pos) X.env = (do
      let ov ← eval o X.env
      standAt apos.atName
      let (f, first) ← holding [ov] (getMethod ov m pl)
      callWith pos f first (backTo pos (starEach (e :: es) X.env)) (backToKw pos (keywordEach [] X.env))) := by rfl) :
    PE X (.Call (.Attribute o m apos) (e :: es) [] pos) (tMeth C m sp [] E0 ta t) := by
  obtain ⟨f, fd, hm, hb, F⟩ := G.ex
  exact pe_meth he G.cl hm F hr hb .nil pass0 ha hst hpl ht
theorem c_mt0 {pl : Sem Bool} (G : GM X.prog X.w X.K X.mg X.base C m k ps sp) (hr : Room k X.A) (he : PE X o ta)
    (ht : eval (.Call (.Attribute o m apos) [] [] pos) X.env = (do
      let ov ← eval o X.env
      standAt apos.atName
      let (f, first) ← holding [ov] (getMethod ov m pl)
      callWith pos f first (backTo pos (starEach [] X.env)) (backToKw pos (keywordEach [] X.env))) := by rfl) :
    PE X (.Call (.Attribute o m apos) [] [] pos) (tMeth C m sp [] E0 ta tNil) := by
  obtain ⟨f, fd, hm, hb, F⟩ := G.ex
  exact pe_meth0 he G.cl hm F hr hb .nil pass0 ht
end
end RL
namespace RL
open PySem L2
structure DOk (kvs : List (Key × V)) (m : Int → Option V) : Prop where
  nd : (kvs.map (·.1)).Nodup
  ik : ∃ ks : List Int, kvs.map (·.1) = ks.map Sum.inl
  val : ∀ n, valV kvs (.inl n) = m n
structure Asc (hs : List Int) (m : Int → Option V) : Prop where
  up : hs.Pairwise (· < ·)
  mem : ∀ n, n ∈ hs ↔ (m n).isSome = true
theorem isSome_iff_ne {α : Type} {o : Option α} : o.isSome = true ↔ o ≠ none := by cases o <;> simp
section
variable {kvs : List (Key × V)} {m : Int → Option V} {hs : List Int} {n : Int} {v : V}
theorem mem_of_valV {κ : Type} [DecidableEq κ] {kvs : List (κ × V)} {k : κ} : k ∈ kvs.map (·.1) ↔ (valV kvs k).isSome = true := by
  constructor
  · intro h
    rw [← valV_any]
    obtain ⟨p, hp, e⟩ := List.mem_map.mp h
    exact List.any_eq_true.mpr ⟨p, hp, decide_eq_true e⟩
  · intro h
    rw [← valV_any] at h
    obtain ⟨p, hp, e⟩ := List.any_eq_true.mp h
    exact List.mem_map.mpr ⟨p, hp, of_decide_eq_true e⟩
theorem DOk.nil : DOk [] (fun _ => none) := ⟨List.nodup_nil, ⟨[], rfl⟩, fun _ => rfl⟩
theorem DOk.mem (d : DOk kvs m) : Sum.inl n ∈ kvs.map (·.1) ↔ (m n).isSome = true := by rw [mem_of_valV, d.val]
theorem nodup_map_inl {ks : List Int} : (ks.map (Sum.inl : Int → Key)).Nodup ↔ ks.Nodup := by
  induction ks with
  | nil => simp
  | cons a r ih => simp only [List.map_cons, List.nodup_cons, ih, List.mem_map]; simp
theorem putK_old {κ : Type} [DecidableEq κ] {kvs : List (κ × V)} {k : κ} {v : V} (h : (valV kvs k).isSome = true) : (putK kvs k v).map (·.1) = kvs.map (·.1) := by
  unfold putK
  rw [valV_any] 
  rw [if_pos h, List.map_map]
  apply List.map_congr_left
  intro p _
  show (if p.1 = k then (p.1, v) else p).1 = p.1
  split <;> rfl
theorem DOk.put (d : DOk kvs m) : DOk (putK kvs (.inl n) v) (fun i => if i = n then some v else m i) := by
  obtain ⟨ks, hk⟩ := d.ik
  cases e : valV kvs (.inl n) with
  | some w =>
    have ek := putK_old (kvs := kvs) (k := Sum.inl n) (v := v) (by rw [e]; rfl)
    refine ⟨by rw [ek]; exact d.nd, ⟨ks, by rw [ek]; exact hk⟩, fun i => ?_⟩
    rw [valV_put, d.val]
    by_cases h : i = n
    · subst h; simp
    · rw [if_neg h, if_neg (fun z => h (Sum.inl.inj z))]
  | none =>
    refine ⟨nd_putK v d.nd e, ⟨ks ++ [n], by rw [putK_new v e, List.map_append, List.map_append, hk]; rfl⟩, fun i => ?_⟩
    rw [valV_put, d.val]
    by_cases h : i = n
    · subst h; simp
    · rw [if_neg h, if_neg (fun z => h (Sum.inl.inj z))]
theorem DOk.cong {m' : Int → Option V} (d : DOk kvs m) (h : ∀ n, m n = m' n) : DOk kvs m' := ⟨d.nd, d.ik, fun n => (d.val n).trans (h n)⟩
theorem putK_len1 (kvs : List (Key × V)) (k : Key) (v : V) : (putK kvs k v).length ≤ kvs.length + 1 := by
  cases e : valV kvs k with
  | some w =>
    have h := congrArg List.length (putK_old (kvs := kvs) (k := k) (v := v) (by rw [e]; rfl))
    rw [List.length_map, List.length_map] at h
    omega
  | none => rw [putK_new v e, List.length_append]; exact Nat.le_refl _
theorem Asc.nodup (a : Asc hs m) : hs.Nodup := a.up.imp fun h => Int.ne_of_lt h
theorem perm_of_nodup {α : Type} [DecidableEq α] : ∀ {l₁ l₂ : List α}, l₁.Nodup → l₂.Nodup → (∀ x, x ∈ l₁ ↔ x ∈ l₂) → l₁.Perm l₂
  | [], l₂, _, _, h => by
    cases l₂ with
    | nil => exact .nil
    | cons b r => exact absurd ((h b).mpr (List.mem_cons_self)) (by simp)
  | a :: r, l₂, n1, n2, h => by
    have ha : a ∈ l₂ := (h a).mp List.mem_cons_self
    have p := List.perm_cons_erase ha
    refine (List.Perm.cons a (perm_of_nodup (List.nodup_cons.mp n1).2 (n2.erase a) fun x => ?_)).trans p.symm
    rw [n2.mem_erase_iff]
    constructor
    · intro hx
      exact ⟨fun e => (List.nodup_cons.mp n1).1 (e ▸ hx), (h x).mp (List.mem_cons_of_mem _ hx)⟩
    · rintro ⟨hne, hx⟩
      rcases List.mem_cons.mp ((h x).mpr hx) with e | e
      · exact absurd e hne
      · exact e
theorem up_unique : ∀ {l₁ l₂ : List Int}, l₁.Pairwise (· < ·) → l₂.Pairwise (· < ·) → (∀ x, x ∈ l₁ ↔ x ∈ l₂) → l₁ = l₂
  | [], [], _, _, _ => rfl
  | [], b :: r, _, _, h => absurd ((h b).mpr List.mem_cons_self) (by simp)
  | a :: r, [], _, _, h => absurd ((h a).mp List.mem_cons_self) (by simp)
  | a :: r, b :: s, p1, p2, h => by
    obtain ⟨h1, p1⟩ := List.pairwise_cons.mp p1
    obtain ⟨h2, p2'⟩ := List.pairwise_cons.mp p2
    have e : a = b := by
      have x1 : a ∈ b :: s := (h a).mp List.mem_cons_self
      have x2 : b ∈ a :: r := (h b).mpr List.mem_cons_self
      rcases List.mem_cons.mp x1 with e | e
      · exact e
      · rcases List.mem_cons.mp x2 with e' | e'
        · exact e'.symm
        · have := h2 a e; have := h1 b e'; omega
    subst e
    congr 1
    refine up_unique p1 p2' fun x => ?_
    constructor
    · intro hx
      rcases List.mem_cons.mp ((h x).mp (List.mem_cons_of_mem _ hx)) with e | e
      · have := h1 x hx; omega
      · exact e
    · intro hx
      rcases List.mem_cons.mp ((h x).mpr (List.mem_cons_of_mem _ hx)) with e | e
      · have := h2 x hx; omega
      · exact e
theorem Asc.uniq {hs' : List Int} (a : Asc hs m) (b : Asc hs' m) : hs = hs' := up_unique a.up b.up fun x => (a.mem x).trans (b.mem x).symm
theorem DOk.len (d : DOk kvs m) (a : Asc hs m) : kvs.length = hs.length := by
  obtain ⟨ks, hk⟩ := d.ik
  have n1 : ks.Nodup := nodup_map_inl.mp (by rw [← hk]; exact d.nd)
  have e1 : kvs.length = ks.length := by have := congrArg List.length hk; simpa using this
  rw [e1]
  refine (perm_of_nodup n1 a.nodup fun x => ?_).length_eq
  rw [a.mem, ← d.mem, hk]
  simp
theorem DOk.lenN (d : DOk kvs m) (nd : hs.Nodup) (hm : ∀ n, n ∈ hs ↔ (m n).isSome = true) : kvs.length = hs.length := by
  obtain ⟨ks, hk⟩ := d.ik
  have n1 : ks.Nodup := nodup_map_inl.mp (by rw [← hk]; exact d.nd)
  have e1 : kvs.length = ks.length := by have := congrArg List.length hk; simpa using this
  rw [e1]
  refine (perm_of_nodup n1 nd fun x => ?_).length_eq
  rw [hm, ← d.mem, hk]
  simp
theorem up_of_sorted : ∀ {l : List Int}, l.Pairwise (· ≤ ·) → l.Nodup → l.Pairwise (· < ·)
  | [], _, _ => .nil
  | a :: r, h, n => by
    obtain ⟨h1, h2⟩ := List.pairwise_cons.mp h
    obtain ⟨n1, n2⟩ := List.nodup_cons.mp n
    refine List.pairwise_cons.mpr ⟨fun x hx => ?_, up_of_sorted h2 n2⟩
    have := h1 x hx
    have : a ≠ x := fun e => n1 (e ▸ hx)
    omega
end
section
variable {X : Cx} {K : PySem.W.Frag} {H : Hp} {Q : VK} {i j : Int} {a p : Addr} {xs : List V} {σ : L2.St} {ta : TE}
def rInt1 : List V → Hp → VK → Prop := fun xs H Q => (∃ i, xs = [.int i] ∧ Q (.int i) H) ∨ ∃ k, xs = [.bl k] ∧ Q (.int (if k then 1 else 0)) H
theorem cb_int : CallR X (.type "int") rInt1 := call_int1
theorem r_int (q : Q (.int i) H) : rInt1 [.int i] H Q := .inl ⟨i, rfl, q⟩
instance o_r_int : One (rInt1 [.int i] H Q) (Q (.int i) H) := ⟨r_int⟩
def rAbs : List V → Hp → VK → Prop := fun xs H Q => ∃ i, xs = [.int i] ∧ Q (.int (if i < 0 then -i else i)) H
theorem cb_abs : CallR X (.builtin "abs") rAbs := call_abs
theorem r_abs (q : Q (.int (if i < 0 then -i else i)) H) : rAbs [.int i] H Q := ⟨i, rfl, q⟩
instance o_r_abs : One (rAbs [.int i] H Q) (Q (.int (if i < 0 then -i else i)) H) := ⟨r_abs⟩
def rMax2 : List V → Hp → VK → Prop := fun xs H Q => ∃ i j, xs = [.int i, .int j] ∧ Q (.int (if j > i then j else i)) H
theorem cb_max2 (hc : X.calm = true) : CallR X (.builtin "max") rMax2 := call_max2 hc
theorem r_max2 (q : Q (.int (if j > i then j else i)) H) : rMax2 [.int i, .int j] H Q := ⟨i, j, rfl, q⟩
instance o_r_max2 : One (rMax2 [.int i, .int j] H Q) (Q (.int (if j > i then j else i)) H) := ⟨r_max2⟩
def rMin2 : List V → Hp → VK → Prop := fun xs H Q => ∃ i j, xs = [.int i, .int j] ∧ Q (.int (if j < i then j else i)) H
theorem cb_min2 (hc : X.calm = true) : CallR X (.builtin "min") rMin2 := call_min2 hc
theorem r_min2 (q : Q (.int (if j < i then j else i)) H) : rMin2 [.int i, .int j] H Q := ⟨i, j, rfl, q⟩
instance o_r_min2 : One (rMin2 [.int i, .int j] H Q) (Q (.int (if j < i then j else i)) H) := ⟨r_min2⟩
def rLenS (K : PySem.W.Frag) : List V → Hp → VK → Prop := fun xs H Q => ∃ p ys, xs = [.ref p] ∧ (SqL K H p ys ∨ SqT K H p ys) ∧ Q (.int ys.length) H
theorem cb_lenS : CallR X (.builtin "len") (rLenS X.K) := call_len_seq
theorem r_lenL (h : SqL K H p xs) (q : Q (.int xs.length) H) : rLenS K [.ref p] H Q := ⟨p, xs, rfl, .inl h, q⟩
theorem r_lenT (h : SqT K H p xs) (q : Q (.int xs.length) H) : rLenS K [.ref p] H Q := ⟨p, xs, rfl, .inr h, q⟩
def rLenD : List V → Hp → VK → Prop := fun xs H Q => ∃ a kvs, xs = [V.ref a] ∧ Rd H a (.dK kvs) ∧ Q (.int kvs.length) H
theorem cb_lenD : CallR X (.builtin "len") rLenD := by
  intro pins s σ H xs us Q I r h
  obtain ⟨a, kvs, rfl, ha, q⟩ := h
  obtain ⟨u, rfl, ru⟩ := vals1 r
  cases ru
  exact d_len I ha fun t s' I' => ⟨.int kvs.length, H, I', ⟨t, rfl⟩, q⟩
theorem r_lenD {kvs : List (Key × V)} (h : Rd H a (.dK kvs)) (q : Q (.int kvs.length) H) : rLenD [.ref a] H Q := ⟨a, kvs, rfl, h, q⟩
def rListOf (K : PySem.W.Frag) : List V → Hp → VK → Prop := fun xs H Q => ∃ p ys, xs = [.ref p] ∧ (SqL K H p ys ∨ SqT K H p ys) ∧ NewK (.lst ys) Q H
theorem cb_listOf : CallR X (.type "list") (rListOf X.K) := call_list_of
theorem r_listL (h : SqL K H p xs) (q : ∀ (l : Addr) (H' : Hp), H l = none → H' l = some (.lst xs) → Fr [] H H' → Q (.ref l) H') : rListOf K [.ref p] H Q := ⟨p, xs, rfl, .inl h, newk q⟩
theorem r_listT (h : SqT K H p xs) (q : ∀ (l : Addr) (H' : Hp), H l = none → H' l = some (.lst xs) → Fr [] H H' → Q (.ref l) H') : rListOf K [.ref p] H Q := ⟨p, xs, rfl, .inr h, newk q⟩
def rTupOf (K : PySem.W.Frag) : List V → Hp → VK → Prop := fun xs H Q => ∃ p ys, xs = [.ref p] ∧ ((SqL K H p ys ∧ ∀ l, H l = none → Q (.ref l) (upd H l (.tup ys))) ∨ (SqT K H p ys ∧ Q (.ref p) H))
theorem cb_tupOf : CallR X (.type "tuple") (rTupOf X.K) := call_tuple_of
theorem r_tupL (h : SqL K H p xs) (q : ∀ (l : Addr) (H' : Hp), H l = none → H' l = some (.tup xs) → Fr [] H H' → Q (.ref l) H') : rTupOf K [.ref p] H Q := ⟨p, xs, rfl, .inl ⟨h, newk q⟩⟩
def rDictD : List V → Hp → VK → Prop := fun xs H Q => ∃ (a : Addr) (kvs : List (Key × V)), xs = [.ref a] ∧ Rd H a (.dK kvs) ∧ NewK (.dK kvs) Q H
theorem cb_dictD : CallR X (.type "dict") rDictD := call_dictD
theorem r_dictD {kvs : List (Key × V)} (h : Rd H a (.dK kvs)) (q : ∀ (l : Addr) (H' : Hp), H l = none → H' l = some (.dK kvs) → Fr [] H H' → Q (.ref l) H') : rDictD [.ref a] H Q := ⟨a, kvs, rfl, h, newk q⟩
def rListD : List V → Hp → VK → Prop := fun xs H Q => ∃ (a : Addr) (kvs : List (Key × V)), xs = [.ref a] ∧ Rd H a (.dK kvs) ∧ NewK (.lst (kvs.map fun kv => kV kv.1)) Q H
theorem cb_listD (hc : X.calm = true) : CallR X (.type "list") rListD := call_listD hc
def rSortD : List V → Hp → VK → Prop := fun xs H Q => ∃ (a : Addr) (kvs : List (Key × V)) (ks : List Int), xs = [.ref a] ∧ Rd H a (.dK kvs) ∧ kvs.map (·.1) = ks.map Sum.inl ∧ ks.length < 64 ∧
    ∀ (ys : List Int) (p : Addr), ys.Perm ks → ys.Pairwise (· ≤ ·) → H p = none → Q (.ref p) (upd H p (.lst (ys.map V.int)))
theorem cb_sortD (hc : X.calm = true) : CallR X (.builtin "sorted") rSortD := call_sortedDI hc
theorem r_sortD {kvs : List (Key × V)} {m : Int → Option V} {hs : List Int} (h : Rd H a (.dK kvs)) (d : DOk kvs m) (as : Asc hs m) (hl : hs.length < 64)
    (q : ∀ (l : Addr) (H' : Hp), H l = none → H' l = some (.lst (hs.map V.int)) → Fr [] H H' → Q (.ref l) H') : rSortD [.ref a] H Q := by
  obtain ⟨ks, hk⟩ := d.ik
  have n1 : ks.Nodup := nodup_map_inl.mp (by rw [← hk]; exact d.nd)
  have e1 : kvs.length = ks.length := by have := congrArg List.length hk; simpa using this
  have e2 := d.len as
  refine ⟨a, kvs, ks, rfl, h, hk, by omega, fun ys p hp hy np => ?_⟩
  have e : ys = hs := by
    refine up_unique (up_of_sorted hy (hp.nodup_iff.mpr n1)) as.up fun x => ?_
    rw [hp.mem_iff, as.mem, ← d.mem, hk]
    simp
  subst e
  exact q p _ np upd_same (Fr.new np)
def rSortI (K : PySem.W.Frag) : List V → Hp → VK → Prop := rSortedI K
theorem cb_sortI : CallR X (.builtin "sorted") (rSortI X.K) := cr_sortedI
theorem r_sortI {ns : List Int} (h : SqL K H a (ns.map V.int)) (q : ∀ (ys : List Int) (l : Addr) (H' : Hp), ys.Perm ns → ys.Pairwise (· ≤ ·) → H l = none → H' l = some (.lst (ys.map V.int)) → Fr [] H H' → Q (.ref l) H') : rSortI K [.ref a] H Q :=
  ⟨a, ns, rfl, h, fun ys p h1 h2 np => q ys p _ h1 h2 np upd_same (Fr.new np)⟩
theorem cb_sum (hc : X.calm = true) : CallR X (.builtin "sum") (rSum X.K) := cr_sum hc
theorem r_sum {ns : List Int} (h : SqL K H a (ns.map V.int)) (q : Q (.int ns.sum) H) : rSum K [.ref a] H Q := ⟨a, ns, rfl, h, q⟩
theorem r_min {ns : List Int} (h : SqL K H a (ns.map V.int)) (h0 : 0 < ns.length) (q : ∀ m, m ∈ ns → (∀ y, y ∈ ns → m ≤ y) → Q (.int m) H) : rMin K [.ref a] H Q := ⟨a, ns, rfl, h, h0, q⟩
theorem r_max {ns : List Int} (h : SqL K H a (ns.map V.int)) (h0 : 0 < ns.length) (q : ∀ m, m ∈ ns → (∀ y, y ∈ ns → y ≤ m) → Q (.int m) H) : rMax K [.ref a] H Q := ⟨a, ns, rfl, h, h0, q⟩
def rIns : V → List V → Hp → VK → Prop := fun x vs H Q => ∃ (l : Addr) (xs : List V) (i : Int) (y : V), x = .ref l ∧ vs = [.int i, y] ∧ H l = some (.lst xs) ∧ xs.length < sizeLine ∧ 0 ≤ i ∧ i < 2 ^ 63 ∧ Q .non (upd H l (.lst (xs.take i.toNat ++ [y] ++ xs.drop i.toNat)))
def rIsBl : R2 := fun x y H Q => ∃ b, y = .bl b ∧ Q (.bl (decide (x = .bl b))) H
theorem op_isB : OpR X (compareOp .Is) rIsBl := by
  intro pins s σ H x y v u Q I rx ry h
  obtain ⟨b, rfl, q⟩ := h
  cases (show u = Value.bool b from ry)
  by_cases e : x = .bl b
  · subst e
    cases (show v = Value.bool b from rx)
    exact wpAny_is_self rfl ⟨.bl true, H, I, rfl, by simpa using q⟩
  · refine wpAny_is_other ?_ ?_ ⟨.bl false, H, I, rfl, by simpa [e] using q⟩
    · cases x <;> (try (obtain ⟨t, rfl⟩ := (show ∃ t, v = _ from rx); rfl)) <;> (cases (show v = _ from rx); rfl)
    · intro z
      subst z
      cases x with
      | bl b' => cases (show Value.bool b = Value.bool b' from rx); exact e rfl
      | non => exact absurd (show Value.bool b = Value.none from rx) (by simp)
      | int i => obtain ⟨t, h⟩ := (show ∃ t, Value.bool b = Value.int i t from rx); cases h
      | str i => obtain ⟨t, h⟩ := (show ∃ t, Value.bool b = Value.str i t from rx); cases h
      | byt i => obtain ⟨t, h⟩ := (show ∃ t, Value.bool b = Value.bytes i t from rx); cases h
      | flt i => obtain ⟨t, h⟩ := (show ∃ t, Value.bool b = Value.float i t from rx); cases h
      | ref i => exact absurd (show Value.bool b = Value.ref i from rx) (by simp)
      | ty i => exact absurd (show Value.bool b = Value.type i from rx) (by simp)
theorem r_isB {x : V} {b : Bool} (q : Q (.bl (decide (x = .bl b))) H) : rIsBl x (.bl b) H Q := ⟨b, rfl, q⟩
instance o_r_isB {x : V} {b : Bool} : One (rIsBl x (.bl b) H Q) (Q (.bl (decide (x = .bl b))) H) := ⟨r_isB⟩
def rIsNn : R2 := fun x y H Q => y = .non ∧ Q (.bl (decide (x = .non))) H
theorem op_isNn : OpR X (compareOp .Is) rIsNn := op_isN
theorem r_isN {x : V} (q : Q (.bl (decide (x = .non))) H) : rIsNn x .non H Q := ⟨rfl, q⟩
instance o_r_isN {x : V} : One (rIsNn x .non H Q) (Q (.bl (decide (x = .non))) H) := ⟨r_isN⟩
def rNotNn : R2 := fun x y H Q => y = .non ∧ Q (.bl (!decide (x = .non))) H
theorem op_notNn : OpR X (compareOp .IsNot) rNotNn := op_notN
theorem r_notN {x : V} (q : Q (.bl (!decide (x = .non))) H) : rNotNn x .non H Q := ⟨rfl, q⟩
instance o_r_notN {x : V} : One (rNotNn x .non H Q) (Q (.bl (!decide (x = .non))) H) := ⟨r_notN⟩
theorem b_len : bootBuiltins "len" = some (.builtin "len") := PySem.boot_len
theorem b_abs : bootBuiltins "abs" = some (.builtin "abs") := by decide +kernel
theorem b_max : bootBuiltins "max" = some (.builtin "max") := by decide +kernel
theorem b_min : bootBuiltins "min" = some (.builtin "min") := by decide +kernel
theorem b_sum : bootBuiltins "sum" = some (.builtin "sum") := by decide +kernel
theorem b_sorted : bootBuiltins "sorted" = some (.builtin "sorted") := by decide +kernel
theorem b_isinstance : bootBuiltins "isinstance" = some (.builtin "isinstance") := by decide +kernel
theorem b_int : bootBuiltins "int" = some (.type "int") := by decide +kernel
theorem b_bool : bootBuiltins "bool" = some (.type "bool") := by decide +kernel
theorem b_str : bootBuiltins "str" = some (.type "str") := by decide +kernel
theorem b_list : bootBuiltins "list" = some (.type "list") := by decide +kernel
theorem b_tuple : bootBuiltins "tuple" = some (.type "tuple") := by decide +kernel
theorem b_dict : bootBuiltins "dict" = some (.type "dict") := by decide +kernel
theorem pe_ty {x : Str} {n : String} {pos : Pos} (hm : X.mg x = none) (hv : bootBuiltins x = some (.type n)) (hg : Gl X x := by rfl) (hn : x ≠ "__name__" := by decide) (hd : (x == ("__debug__" : Str)) = false := by decide) : PE X (.Name x pos) (tC (.ty n)) :=
  pe_bltn hg hm hv rfl hn hd
theorem r_isi {x : V} {n t : String} {b : Bool} (ty : TyX K H x (.type t)) (hk : kitB t n = some b) (q : Q (.bl b) H) : rIsi K [x, .ty n] H Q := ⟨x, .ty n, _, _, b, rfl, .ty n, ty, kit_ty hk, q⟩
end
end RL
namespace RL
open PySem L2
section
variable {X : Cx} {tg : Expr}
def iSeq (K : PySem.W.Frag) (tl : TE) : TI := fun σ H R => tl σ H fun x H1 => ∃ a, x = .ref a ∧ (((∃ xs, SqL K H1 a xs) ∧ R (Itl K a) H1) ∨ ((∃ xs, SqT K H1 a xs) ∧ R (Itt K a) H1))
theorem pi_seq {l : Expr} {tl : TE} (hl : PE X l tl) : PI X tg l (iSeq X.K tl) := by
  refine ⟨fun pins s σ H R I h => ?_⟩
  refine thn (hl.run pins s σ H _ I h) fun v s1 ⟨x, H1, I1, r1, q1⟩ => ?_
  obtain ⟨a, e, q1⟩ := q1
  subst e
  cases r1
  rcases q1 with ⟨⟨xs, hq⟩, q⟩ | ⟨⟨xs, hq⟩, q⟩
  · obtain ⟨its, rv, p, hz⟩ := I1.list hq
    refine wpAny_pyIter_list p.isList ?_
    refine ⟨s1.heap.objs.size, [s1.heap.objs.size], _, _, H1, rfl, I1.kept (t' := s1.toks) fun b o e => Heap.get?_push_of_some _ e, turn_list a _, ⟨_, Heap.get?_push_size _ rfl, rfl, rfl⟩, fun b hb => ?_, q⟩
    have e : b = s1.heap.objs.size := by simpa using hb
    subst e
    exact I1.fpOk (Nat.le_refl _) (I1.hok.fresh (Nat.le_refl _))
  · obtain ⟨its, rv, p, hz⟩ := I1.tuple hq
    refine wpAny_pyIter_tuple (show s1.heap.IsTuple a its.toArray from p) ?_
    refine ⟨s1.heap.objs.size, [s1.heap.objs.size], _, _, H1, rfl, I1.kept (t' := s1.toks) fun b o e => Heap.get?_push_of_some _ e, turn_tuple a _, ⟨_, Heap.get?_push_size _ rfl, rfl, rfl⟩, fun b hb => ?_, q⟩
    have e : b = s1.heap.objs.size := by simpa using hb
    subst e
    exact I1.fpOk (Nat.le_refl _) (I1.hok.fresh (Nat.le_refl _))
variable {K : PySem.W.Frag} {σ : L2.St} {H : Hp} {tl : TE}
def ItSK (K : PySem.W.Frag) (x : V) (R : It → Hp → Prop) (H1 : Hp) : Prop := ∃ a, x = .ref a ∧ (((∃ xs, SqL K H1 a xs) ∧ R (Itl K a) H1) ∨ ((∃ xs, SqT K H1 a xs) ∧ R (Itt K a) H1))
theorem x_iSeq {R : It → Hp → Prop} (h : tl σ H fun x H1 => ItSK K x R H1) : iSeq K tl σ H R := h
instance o_x_iSeq {R : It → Hp → Prop} : One (iSeq K tl σ H R) (tl σ H fun x H1 => ItSK K x R H1) := ⟨x_iSeq⟩
def Sq (K : PySem.W.Frag) (H : Hp) (a : Addr) (xs : List V) : Prop := SqL K H a xs ∨ SqT K H a xs
end
inductive LT where
  | tell (r s : Int) | ask (r s : Int) | ans (r s n : Int)
  deriving DecidableEq
def LT.vs : LT → List V
  | .tell r s => [.str "tell", .int r, .int s]
  | .ask r s => [.str "ask", .int r, .int s]
  | .ans r s n => [.str "answer", .int r, .int s, .int n]
def LT.pl : LT → List Int
  | .tell r s => [r, s]
  | .ask r s => [r, s]
  | .ans r s n => [r, s, n]
structure LetsIs (H : Hp) (ls : List LT) (lv : List V) : Prop where
  len : lv.length = ls.length
  at_ : ∀ (i : Nat) (l : LT), ls[i]? = some l → ∃ t, lv[i]? = some (.ref t) ∧ H t = some (.tup l.vs)
section
variable {H H' : Hp} {M : List Addr} {ls : List LT} {lv : List V} {l : LT} {t : Addr} {i : Nat}
theorem LetsIs.nil : LetsIs H [] [] := ⟨rfl, fun i l h => by simp at h⟩
theorem LetsIs.fr (x : LetsIs H ls lv) (f : Fr M H H') : LetsIs H' ls lv := ⟨x.len, fun i l h => let ⟨t, a, b⟩ := x.at_ i l h; ⟨t, a, f.tp _ _ b⟩⟩
theorem LetsIs.snoc (x : LetsIs H ls lv) (h : H t = some (.tup l.vs)) : LetsIs H (ls ++ [l]) (lv ++ [.ref t]) := by
  refine ⟨by rw [List.length_append, List.length_append, x.len]; rfl, fun i m e => ?_⟩
  by_cases hi : i < ls.length
  · rw [List.getElem?_append_left hi] at e
    obtain ⟨u, a, b⟩ := x.at_ i m e
    exact ⟨u, by rw [List.getElem?_append_left (by rw [x.len]; exact hi)]; exact a, b⟩
  · rw [List.getElem?_append_right (by omega)] at e
    have h0 : i - ls.length = 0 := by
      cases hk : i - ls.length with
      | zero => rfl
      | succ k => rw [hk] at e; simp at e
    rw [h0] at e
    have e' : l = m := Option.some.inj e
    subst e'
    exact ⟨t, by rw [List.getElem?_append_right (by rw [x.len]; omega), x.len, h0]; rfl, h⟩
theorem LetsIs.erase (x : LetsIs H ls lv) (k : Nat) : LetsIs H (ls.eraseIdx k) (lv.eraseIdx k) := by
  refine ⟨by rw [List.length_eraseIdx, List.length_eraseIdx, x.len], fun i m e => ?_⟩
  rw [List.getElem?_eraseIdx] at e
  by_cases h : i < k
  · rw [if_pos h] at e
    obtain ⟨u, a, b⟩ := x.at_ i m e
    exact ⟨u, by rw [List.getElem?_eraseIdx, if_pos h]; exact a, b⟩
  · rw [if_neg h] at e
    obtain ⟨u, a, b⟩ := x.at_ (i + 1) m e
    exact ⟨u, by rw [List.getElem?_eraseIdx, if_neg h]; exact a, b⟩
end
structure NS where
  size : Int
  hs : List Int
  f : Int → Int
  b : Int → Option Int
  post : List LT
def oV : Option Int → V
  | none => .non
  | some x => .int x
def NS.mf (N : NS) : Int → Option V := fun h => if h ∈ N.hs then some (.int (N.f h)) else none
def NS.mb (N : NS) : Int → Option V := fun h => if h ∈ N.hs then some (oV (N.b h)) else none
def NS.lb (N : NS) : Int → Option V := fun h => (N.b h).map V.int
structure NS.Ok (N : NS) : Prop where
  s0 : 0 < N.size
  s1 : N.size < 2 ^ 40
  up : N.hs.Pairwise (· < ·)
  on : ∀ h ∈ N.hs, 0 ≤ h ∧ h < N.size
  fh : ∀ h ∈ N.hs, N.f h ∈ N.hs
  bh : ∀ h x, N.b h = some x → h ∈ N.hs ∧ x ∈ N.hs
  ph : ∀ l ∈ N.post, ∀ x ∈ l.pl, x ∈ N.hs
  hl : N.hs.length ≤ 45
  pl : N.post.length ≤ 1000
theorem NS.Ok.ascF {N : NS} (h : N.Ok) : Asc N.hs N.mf := ⟨h.up, fun n => by unfold NS.mf; split <;> simp [*]⟩
theorem NS.Ok.ascB {N : NS} (h : N.Ok) : Asc N.hs N.mb := ⟨h.up, fun n => by unfold NS.mb; split <;> simp [*]⟩
theorem NS.mf_at {N : NS} {h : Int} (m : h ∈ N.hs) : N.mf h = some (.int (N.f h)) := if_pos m
theorem NS.mb_at {N : NS} {h : Int} (m : h ∈ N.hs) : N.mb h = some (oV (N.b h)) := if_pos m
def netF (z : Int) (da db dl : Addr) : List (Str × V) := [("size", .int z), ("_nexts", .ref da), ("_befores", .ref db), ("_letters", .ref dl)]
structure NetAt (C : Addr) (H : Hp) (p da db dl : Addr) (N : NS) : Prop where
  ob : ∃ dx, H p = some (.ins C dx (netF N.size da db dl))
  nx : ∃ kvs, H da = some (.dK kvs) ∧ DOk kvs N.mf
  bf : ∃ kvs, H db = some (.dK kvs) ∧ DOk kvs N.mb
  ls : ∃ lv, H dl = some (.lst lv) ∧ LetsIs H N.post lv
  ne : da ≠ db
structure TabAt (H : Hp) (dn dk dp : Addr) (N : NS) : Prop where
  nx : ∃ kvs, H dn = some (.dK kvs) ∧ DOk kvs N.mf
  bf : ∃ kvs, H dk = some (.dK kvs) ∧ DOk kvs N.lb
  ls : ∃ lv, H dp = some (.lst lv) ∧ LetsIs H N.post lv
  ne : dn ≠ dk
section
variable {C p da db dl dn dk dp : Addr} {H H' : Hp} {M : List Addr} {N : NS}
theorem NetAt.fr (x : NetAt C H p da db dl N) (f : Fr M H H') (h1 : p ∉ M) (h2 : da ∉ M) (h3 : db ∉ M) (h4 : dl ∉ M) : NetAt C H' p da db dl N :=
  ⟨let ⟨dx, e⟩ := x.ob; ⟨dx, f.at_ _ _ e h1⟩, let ⟨k, e, d⟩ := x.nx; ⟨k, f.at_ _ _ e h2, d⟩, let ⟨k, e, d⟩ := x.bf; ⟨k, f.at_ _ _ e h3, d⟩, let ⟨k, e, d⟩ := x.ls; ⟨k, f.at_ _ _ e h4, d.fr f⟩, x.ne⟩
theorem NetAt.ex (x : NetAt C H p da db dl N) (f : Fr [] H H') : NetAt C H' p da db dl N := x.fr f (fun z => nomatch z) (fun z => nomatch z) (fun z => nomatch z) (fun z => nomatch z)
theorem TabAt.fr (x : TabAt H dn dk dp N) (f : Fr M H H') (h1 : dn ∉ M) (h2 : dk ∉ M) (h3 : dp ∉ M) : TabAt H' dn dk dp N :=
  ⟨let ⟨k, e, d⟩ := x.nx; ⟨k, f.at_ _ _ e h1, d⟩, let ⟨k, e, d⟩ := x.bf; ⟨k, f.at_ _ _ e h2, d⟩, let ⟨k, e, d⟩ := x.ls; ⟨k, f.at_ _ _ e h3, d.fr f⟩, x.ne⟩
theorem TabAt.ex (x : TabAt H dn dk dp N) (f : Fr [] H H') : TabAt H' dn dk dp N := x.fr f (fun z => nomatch z) (fun z => nomatch z) (fun z => nomatch z)
end
structure NetT (K : PySem.W.Frag) (C : Addr) : Prop where
  cl : Cls K C
  n1 : NoAttr K C "size"
  n2 : NoAttr K C "_nexts"
  n3 : NoAttr K C "_befores"
  n4 : NoAttr K C "_letters"
theorem lk_ne {k k' : Str} {v : V} {l : List (Str × V)} (h : (k == k') = false) : ((k', v) :: l).lookup k = l.lookup k := by rw [List.lookup_cons, h]
theorem lk_eq {k : Str} {v : V} {l : List (Str × V)} : ((k, v) :: l).lookup k = some v := by rw [List.lookup_cons]; simp
theorem lk_nil {k : Str} : ([] : List (Str × V)).lookup k = none := rfl
theorem putF_ne {k k' : Str} {v w : V} {l : List (Str × V)} (h : ¬ k' = k) : putF k v ((k', w) :: l) = (k', w) :: putF k v l := by
  show (if k' = k then _ else _) = _
  rw [if_neg h]
theorem putF_eq {k : Str} {v w : V} {l : List (Str × V)} : putF k v ((k, w) :: l) = (k, v) :: l := by
  show (if k = k then _ else _) = _
  rw [if_pos rfl]
section
variable {K : PySem.W.Frag} {C p dx da db dl : Addr} {H : Hp} {z : Int} {Q : VK}
theorem netF_1 : (netF z da db dl).lookup ("size" : Str) = some (.int z) := lk_eq
theorem netF_2 : (netF z da db dl).lookup ("_nexts" : Str) = some (.ref da) := (lk_ne (by decide +kernel)).trans lk_eq
theorem netF_3 : (netF z da db dl).lookup ("_befores" : Str) = some (.ref db) := (lk_ne (by decide +kernel)).trans ((lk_ne (by decide +kernel)).trans lk_eq)
theorem netF_4 : (netF z da db dl).lookup ("_letters" : Str) = some (.ref dl) := (lk_ne (by decide +kernel)).trans ((lk_ne (by decide +kernel)).trans ((lk_ne (by decide +kernel)).trans lk_eq))
def netNo (m : Str) : Bool := !(m == "size") && !(m == "_nexts") && !(m == "_befores") && !(m == "_letters")
theorem netF_no {m : Str} (h : netNo m = true) : (netF z da db dl).lookup m = none := by
  unfold netNo at h
  simp only [Bool.and_eq_true, Bool.not_eq_true'] at h
  obtain ⟨⟨⟨h1, h2⟩, h3⟩, h4⟩ := h
  exact (lk_ne h1).trans ((lk_ne h2).trans ((lk_ne h3).trans ((lk_ne h4).trans lk_nil)))
theorem NetT.f1 (T : NetT K C) (h : H p = some (.ins C dx (netF z da db dl))) (q : Q (.int z) H) : FldK K "size" (.ref p) Q H := fldk h T.cl T.n1 netF_1 q
theorem NetT.f2 (T : NetT K C) (h : H p = some (.ins C dx (netF z da db dl))) (q : Q (.ref da) H) : FldK K "_nexts" (.ref p) Q H := fldk h T.cl T.n2 netF_2 q
theorem NetT.f3 (T : NetT K C) (h : H p = some (.ins C dx (netF z da db dl))) (q : Q (.ref db) H) : FldK K "_befores" (.ref p) Q H := fldk h T.cl T.n3 netF_3 q
theorem NetT.f4 (T : NetT K C) (h : H p = some (.ins C dx (netF z da db dl))) (q : Q (.ref dl) H) : FldK K "_letters" (.ref p) Q H := fldk h T.cl T.n4 netF_4 q
theorem net_mt {m : Str} {A : Prop} (h : H p = some (.ins C dx (netF z da db dl))) (hm : netNo m = true) (q : A) : MtK C m (.ref p) H A := mtk h (netF_no hm) q
end
inductive D where
  | non | bl (b : Bool) | int (i : Int) | str (s : Str) | tup (ds : List D) | lst (ds : List D) | dct (kvs : List (Int × Int))
mutual
def Rep (H : Hp) : D → V → Prop
  | .non, v => v = .non
  | .bl b, v => v = .bl b
  | .int i, v => v = .int i
  | .str s, v => v = .str s
  | .tup ds, v => ∃ a vs, v = .ref a ∧ H a = some (.tup vs) ∧ RepL H ds vs
  | .lst ds, v => ∃ a vs, v = .ref a ∧ H a = some (.lst vs) ∧ RepL H ds vs
  | .dct kvs, v => ∃ a, v = .ref a ∧ H a = some (.dK (kvs.map fun p => (Sum.inl p.1, V.int p.2)))
def RepL (H : Hp) : List D → List V → Prop
  | [], vs => vs = []
  | d :: ds, vs => ∃ v r, vs = v :: r ∧ Rep H d v ∧ RepL H ds r
end
mutual
def D.depth : D → Nat
  | .tup ds => depthL ds + 1
  | .lst ds => depthL ds + 1
  | .dct _ => 2 + 1
  | _ => 0
def depthL : List D → Nat
  | [] => 0
  | d :: ds => max d.depth (depthL ds)
end
mutual
theorem Rep.fr0 {H H' : Hp} (f : Fr [] H H') : ∀ (d : D) (v : V), Rep H d v → Rep H' d v
  | .non, _, h => h
  | .bl _, _, h => h
  | .int _, _, h => h
  | .str _, _, h => h
  | .tup ds, _, ⟨a, vs, e, h, r⟩ => ⟨a, vs, e, f.tp _ _ h, RepL.fr0 f ds vs r⟩
  | .lst ds, _, ⟨a, vs, e, h, r⟩ => ⟨a, vs, e, f.at_ _ _ h (fun z => nomatch z), RepL.fr0 f ds vs r⟩
  | .dct kvs, _, ⟨a, e, h⟩ => ⟨a, e, f.at_ _ _ h (fun z => nomatch z)⟩
theorem RepL.fr0 {H H' : Hp} (f : Fr [] H H') : ∀ (ds : List D) (vs : List V), RepL H ds vs → RepL H' ds vs
  | [], _, h => h
  | d :: ds, _, ⟨v, r, e, h, t⟩ => ⟨v, r, e, Rep.fr0 f d v h, RepL.fr0 f ds r t⟩
end
theorem RepL.len {H : Hp} : ∀ {ds : List D} {vs : List V}, RepL H ds vs → vs.length = ds.length
  | [], _, h => by rw [show _ = [] from h]; rfl
  | d :: ds, _, ⟨v, r, e, _, t⟩ => by rw [e, List.length_cons, List.length_cons, RepL.len t]
theorem RepL.get {H : Hp} : ∀ {ds : List D} {vs : List V} {i : Nat} {d : D}, RepL H ds vs → ds[i]? = some d → ∃ v, vs[i]? = some v ∧ Rep H d v
  | [], _, i, d, _, h => by simp at h
  | d :: ds, _, 0, d', ⟨v, r, e, h, _⟩, h' => by
    have e' : d = d' := by simpa using h'
    subst e'
    exact ⟨v, by rw [e]; rfl, h⟩
  | d :: ds, _, i + 1, d', ⟨v, r, e, _, t⟩, h' => by
    obtain ⟨w, a, b⟩ := RepL.get (i := i) (d := d') t (by simpa using h')
    exact ⟨w, by rw [e]; simpa using a, b⟩
theorem depthL_mem : ∀ {ds : List D} {d : D}, d ∈ ds → d.depth ≤ depthL ds
  | d :: ds, d', h => by
    rw [depthL]
    rcases List.mem_cons.mp h with e | e
    · subst e; exact Nat.le_max_left _ _
    · exact Nat.le_trans (depthL_mem e) (Nat.le_max_right _ _)
def LT.d : LT → D
  | .tell r s => .tup [.str "tell", .int r, .int s]
  | .ask r s => .tup [.str "ask", .int r, .int s]
  | .ans r s n => .tup [.str "answer", .int r, .int s, .int n]
theorem LT.rep {H : Hp} {l : LT} {t : Addr} (h : H t = some (.tup l.vs)) : Rep H l.d (.ref t) := by
  cases l <;> exact ⟨t, _, rfl, h, _, _, rfl, rfl, _, _, rfl, rfl, _, _, rfl, rfl, by first | exact rfl | exact ⟨_, _, rfl, rfl, rfl⟩⟩
def oD : Option Int → D
  | none => .non
  | some x => .int x
end RL
namespace RL
open PySem L2
section
variable {X : Cx} {K : PySem.W.Frag} {e o a b iter value : Expr} {es elts : List Expr} {f name m : Str} {pos apos cpos pos' p tpos : Pos} {ta tb to te tv tl : TE} {t : TA} {tg : Expr} {T id : String} {k kk : Nat}
theorem pe_fldK (hK : X.K = K) (he : PE X e ta) (hb : attributeBase e f X.env (eval e X.env) = eval e X.env) : PE X (.Attribute e f pos) (tFld K ta f) := by subst hK; exact pe_fld he hb
theorem ps_fldK (hK : X.K = K) (ha : PE X o ta) (hv : PE X value tv) (hs : swapsWith value (some (.Attribute o f pos')) pos.line X.env = pure false) : PS X (.Assign [.Attribute o f pos'] value pos) (sFld K ta tv f) := by subst hK; exact ps_fld ha hv hs
theorem ix_listK (hK : X.K = K) : IxR X (rIxL K) := by subst hK; exact ix_list
theorem ix_tupK (hK : X.K = K) : IxR X (rIxT K) := by subst hK; exact ix_tup
theorem ix_seqK (hK : X.K = K) : IxR X (rIx K) := by subst hK; exact ix_seq
theorem sl_listK (hK : X.K = K) : SlR X (rSlL K) := by subst hK; exact sl_list
theorem sl_tupK (hK : X.K = K) : SlR X (rSlT K) := by subst hK; exact sl_tup
theorem cb_lenSK (hK : X.K = K) : CallR X (.builtin "len") (rLenS K) := by subst hK; exact cb_lenS
theorem cb_listOfK (hK : X.K = K) : CallR X (.type "list") (rListOf K) := by subst hK; exact cb_listOf
theorem cb_tupOfK (hK : X.K = K) : CallR X (.type "tuple") (rTupOf K) := by subst hK; exact cb_tupOf
theorem cb_sortIK (hK : X.K = K) : CallR X (.builtin "sorted") (rSortI K) := by subst hK; exact cb_sortI
theorem cb_sumK (hK : X.K = K) (hc : X.calm = true) : CallR X (.builtin "sum") (rSum K) := by subst hK; exact cb_sum hc
theorem cb_minK (hK : X.K = K) (hc : X.calm = true) : CallR X (.builtin "min") (rMin K) := by subst hK; exact cr_min hc
theorem cb_maxK (hK : X.K = K) (hc : X.calm = true) : CallR X (.builtin "max") (rMax K) := by subst hK; exact cr_max hc
theorem cb_isiK (hK : X.K = K) : CallR X (.builtin "isinstance") (rIsi K) := by subst hK; exact call_isi
theorem pi_listK (hK : X.K = K) {l : Expr} (hl : PE X l tl) : PI X tg l (iList K tl) := by subst hK; exact pi_list hl
theorem pi_tupK (hK : X.K = K) {l : Expr} (hl : PE X l tl) : PI X tg l (iTup K tl) := by subst hK; exact pi_tup hl
theorem pi_seqK (hK : X.K = K) {l : Expr} (hl : PE X l tl) : PI X tg l (iSeq K tl) := by subst hK; exact pi_seq hl
theorem op_inK (hK : X.K = K) : OpR X (compareOp .In) (rIn K false) := by subst hK; exact op_in_seq
theorem op_ninK (hK : X.K = K) : OpR X (compareOp .NotIn) (rIn K true) := by subst hK; exact op_notIn_seq
theorem op_eqDK (hK : X.K = K) (hu : X.A.units + 64 < cLine) : OpR X (compareOp .Eq) (rEqD K) := by subst hK; exact op_eqD hu
theorem op_neDK (hK : X.K = K) (hu : X.A.units + 64 < cLine) : OpR X (compareOp .NotEq) (rNeD K) := by subst hK; exact op_neD hu
theorem op_catTK (hK : X.K = K) : OpR X (binaryOp .Add) (rCatT K) := by subst hK; exact op_catT
theorem mt_indexK (hK : X.K = K) : MtR X "list.index" (rIndex K) := by subst hK; exact mt_index
theorem pe_bmK {r : V → List V → Hp → VK → Prop} (hK : X.K = K) (pa : PlainAttrs T) (slot : Slot T name id) (hty : typeOf (.builtin id) = pure (.type "method_descriptor")) (hm : MtR X id r) (ho : PE X o to) (ha : PA X (e :: es) t)
    (hbase : attributeBase o name X.env (eval o X.env) = eval o X.env := by rfl)
    (hfew : ((backTo cpos (starEach (e :: es) X.env)).all (fun x => !x.1) && (backToKw cpos (keywordEach [] X.env)).all (fun x => x.1.isSome)
      && decide ((e :: es).length + ([] : List Keyword).length + (if ([] : List Keyword).isEmpty then 0 else 1) < 30)) = true := by rfl)
    (hline : (apos.endLine == cpos.line) = true := by rfl) (hs : starEach (e :: es) X.env = (false, eval e X.env) :: starEach es X.env := by rfl) (hplain : (backTo cpos (starEach es X.env)).any (·.1) = false := by rfl) :
    PE X (.Call (.Attribute o name apos) (e :: es) [] cpos) (tBM K T r to t) := by subst hK; exact pe_bm pa slot hty hm ho ha hbase hfew hline hs hplain
theorem pe_bm0K {r : V → List V → Hp → VK → Prop} (hK : X.K = K) (pa : PlainAttrs T) (slot : Slot T name id) (hty : typeOf (.builtin id) = pure (.type "method_descriptor")) (hm : MtR X id r) (ho : PE X o to)
    (hbase : attributeBase o name X.env (eval o X.env) = eval o X.env := by rfl) (hline : (apos.endLine == cpos.line) = true := by rfl) : PE X (.Call (.Attribute o name apos) [] [] cpos) (tBM0 K T r to) := by subst hK; exact pe_bm0 pa slot hty hm ho hbase hline
end
section
variable {K : PySem.W.Frag} {σ : L2.St} {H : Hp} {te tl tk tv : TE} {tt : TT} {Q : VK} {J : It} {g : TG} {vs : List Nat} {wi : TI} {n j : Nat} {G : Hp → Prop} {Y : Nat → Hp → V → Hp → Prop}
def LcK (J : It) (g : TG) (tt : TT) (te : TE) (vs : List Nat) (σ : L2.St) (Q : VK) (H1 : Hp) : Prop := ∀ D, H1 D = none → ∃ W : Nat → Nat → Hp → Prop, (∃ m, W 0 m (upd H1 D (.lst []))) ∧ ∀ i m H, W i m H →
  (J.stop i H ∧ Q (.ref D) H) ∨ (J.go i H ∧ ∃ Nx : Hp → Prop, (∀ H', Nx H' → ∃ m', m' < m ∧ W (i + 1) m' H') ∧ ∀ x H', J.yld i H x H' → g x (wipe σ vs) H' fun σ2 H2 => wipe σ2 vs = wipe σ vs ∧ tt σ2 H2 fun b H3 =>
    if b = true then te σ2 H3 fun y H4 => ∃ acc, H4 D = some (.lst acc) ∧ acc.length < sizeLine ∧ Nx (upd H4 D (.lst (acc ++ [y]))) else Nx H3)
theorem x_lc (h : wi σ H fun J H1 => LcK J g tt te vs σ Q H1) : tLc wi g tt te vs σ H Q := h
instance o_x_lc : One (tLc wi g tt te vs σ H Q) (wi σ H fun J H1 => LcK J g tt te vs σ Q H1) := ⟨x_lc⟩
theorem set_set (σ : L2.St) (j : Nat) (a b : Option V) : (σ.set j a).set j b = σ.set j b := List.set_set ..
theorem lcW (w : Walk J n G Y) (Pv : Nat → List V → Hp → Prop) (h0 : ∀ D H', H D = none → H' D = some (.lst []) → Fr [] H H' → Pv 0 [] H') (hG : ∀ i acc H', i ≤ n → Pv i acc H' → G H') (hn : n ≤ 100000) (hl : ∀ i acc H', Pv i acc H' → acc.length ≤ i)
    (hs : ∀ D i x acc H0 H', i < n → H D = none → H0 D = some (.lst acc) → Pv i acc H0 → Y i H0 x H' → SetK σ j x (fun σ2 H2 => ∀ (R1 : Bool → Hp → Prop) (R2 : VK),
      (∀ y H4, H4 D = some (.lst acc) → (∀ H5, H5 D = some (.lst (acc ++ [y])) → Fr [D] H4 H5 → Pv (i + 1) (acc ++ [y]) H5) → R2 y H4) → (∀ H3, te σ2 H3 R2 → R1 true H3) → (∀ H3, H3 D = some (.lst acc) → Pv (i + 1) acc H3 → R1 false H3) → tt σ2 H2 R1) H')
    (hd : ∀ p H' acc, H p = none → H' p = some (.lst acc) → Pv n acc H' → Q (.ref p) H') : LcK J (gName j) tt te [j] σ Q H := by
  intro D hD
  refine lc_it w (fun i H' => ∃ acc, H' D = some (.lst acc) ∧ Pv i acc H') ⟨[], upd_same, h0 D _ hD upd_same (Fr.new hD)⟩ (fun i H' hi ⟨acc, _, p⟩ => hG i acc H' hi p) (fun i x H0 H' hi ⟨acc, e, p⟩ y => ?_) (fun H' ⟨acc, e, p⟩ => hd D H' acc hD e p)
  have q := hs D i x acc H0 H' hi hD e p y
  have e1 : wipe σ [j] = σ.set j none := rfl
  show wipe ((wipe σ [j]).set j (some x)) [j] = wipe σ [j] ∧ tt ((wipe σ [j]).set j (some x)) H' _
  rw [e1, set_set]
  refine ⟨by show ((σ.set j (some x)).set j none) = _; rw [set_set], ?_⟩
  have hla := hl i acc H0 p
  refine q _ (fun y H4 => ∃ acc, H4 D = some (.lst acc) ∧ acc.length < sizeLine ∧ ∃ acc', (upd H4 D (.lst (acc ++ [y]))) D = some (.lst acc') ∧ Pv (i + 1) acc' (upd H4 D (.lst (acc ++ [y])))) (fun y H4 a b => ⟨acc, a, small' (by omega), _, upd_same, b _ upd_same (Fr.lst a)⟩) (fun H3 r => ?_) (fun H3 a b => ?_)
  · rw [if_pos rfl]; exact r
  · rw [if_neg Bool.false_ne_true]; exact ⟨acc, a, b⟩
theorem take_snoc {α : Type} {xs : List α} {i : Nat} {x : α} (h : xs[i]? = some x) : xs.take (i + 1) = xs.take i ++ [x] := by
  rw [List.take_succ, h]; rfl
theorem filter_snoc {α : Type} {xs : List α} {c : α → Bool} {i : Nat} {x : α} (h : xs[i]? = some x) : (xs.take (i + 1)).filter c = (xs.take i).filter c ++ if c x = true then [x] else [] := by
  rw [take_snoc h, List.filter_append]
  congr 1
  rw [List.filter_cons]; split <;> rfl
theorem lcV (w : Walk J n G Y) (xs : List V) (hn : n = xs.length) (hY : ∀ i H0 x H', i < n → Y i H0 x H' → xs[i]? = some x ∧ Fr [] H0 H') (c : V → Bool) (val : V → V) (hG : ∀ H', Fr [] H H' → G H') (hz : xs.length ≤ 100000)
    (hs : ∀ x H', x ∈ xs → Fr [] H H' → SetK σ j x (fun σ2 H2 => (∀ R : Bool → Hp → Prop, (∀ H3, Fr [] H2 H3 → R (c x) H3) → tt σ2 H2 R) ∧ (c x = true → ∀ H3, Fr [] H2 H3 → ∀ R : VK, (∀ H4, Fr [] H3 H4 → R (val x) H4) → te σ2 H3 R)) H')
    (hd : ∀ p H', H p = none → H' p = some (.lst ((xs.filter c).map val)) → Fr [] H H' → Q (.ref p) H') : LcK J (gName j) tt te [j] σ Q H := by
  subst hn
  intro D hD
  refine lc_it w (fun i H' => H' D = some (.lst (((xs.take i).filter c).map val)) ∧ Fr [] H H') ⟨by rw [upd_same]; rfl, Fr.new hD⟩ (fun i H' _ p => hG H' p.2) (fun i x H0 H' hi p y => ?_) (fun H' p => hd D H' hD (by rw [p.1, List.take_length]) p.2)
  obtain ⟨hx, hy⟩ := hY i H0 x H' hi y
  have e1 : wipe σ [j] = σ.set j none := rfl
  have f1 : Fr [] H H' := p.2.trans hy
  have d1 := hy.at_ _ _ p.1 (fun z => nomatch z)
  obtain ⟨q1, q2⟩ := hs x H' (List.mem_of_getElem? hx) f1
  show wipe ((wipe σ [j]).set j (some x)) [j] = wipe σ [j] ∧ tt ((wipe σ [j]).set j (some x)) H' _
  rw [e1, set_set]
  refine ⟨by show ((σ.set j (some x)).set j none) = _; rw [set_set], q1 _ fun H3 f3 => ?_⟩
  have d3 := f3.at_ _ _ d1 (fun z => nomatch z)
  cases hc : c x with
  | true =>
    rw [if_pos rfl]
    refine q2 hc H3 f3 _ fun H4 f4 => ⟨_, f4.at_ _ _ d3 (fun z => nomatch z), small' ?_, ?_, ?_⟩
    · rw [List.length_map]
      have := List.length_filter_le c (xs.take i)
      rw [List.length_take] at this
      omega
    · rw [upd_same, filter_snoc hx, if_pos hc, List.map_append]; rfl
    · have f := (f1.trans f3).trans f4
      exact f.drop (Fr.lst (f4.at_ _ _ d3 (fun z => nomatch z))) hD
  | false =>
    rw [if_neg Bool.false_ne_true]
    refine ⟨?_, f1.trans f3⟩
    rw [d3, filter_snoc hx, if_neg (by rw [hc]; decide), List.append_nil]
theorem lcP (w : Walk J n G Y) (xs : List V) (hn : n = xs.length) (hY : ∀ i H0 x H', i < n → Y i H0 x H' → xs[i]? = some x ∧ Fr [] H0 H') (c : V → Bool) (P : V → V → Hp → Prop) (hP : ∀ M x y H1 H2, P x y H1 → Fr M H1 H2 → P x y H2) (hG : ∀ H', Fr [] H H' → G H') (hz : xs.length ≤ 100000)
    (hs : ∀ x H', x ∈ xs → Fr [] H H' → SetK σ j x (fun σ2 H2 => (∀ R : Bool → Hp → Prop, (∀ H3, Fr [] H2 H3 → R (c x) H3) → tt σ2 H2 R) ∧ (c x = true → ∀ H3, Fr [] H2 H3 → ∀ R : VK, (∀ y H4, Fr [] H3 H4 → P x y H4 → R y H4) → te σ2 H3 R)) H')
    (hd : ∀ p H' ys, H p = none → H' p = some (.lst ys) → ys.length = (xs.filter c).length → (∀ (i : Nat) x, (xs.filter c)[i]? = some x → ∃ y, ys[i]? = some y ∧ P x y H') → Fr [] H H' → Q (.ref p) H') : LcK J (gName j) tt te [j] σ Q H := by
  subst hn
  intro D hD
  refine lc_it w (fun i H' => ∃ ys, H' D = some (.lst ys) ∧ ys.length = ((xs.take i).filter c).length ∧ (∀ (k : Nat) x, ((xs.take i).filter c)[k]? = some x → ∃ y, ys[k]? = some y ∧ P x y H') ∧ Fr [] H H') ⟨[], by rw [upd_same], rfl, fun k x h => by simp at h, Fr.new hD⟩ (fun i H' _ ⟨_, _, _, _, f⟩ => hG H' f)
    (fun i x H0 H' hi ⟨ys, e, el, ep, f⟩ y => ?_) (fun H' ⟨ys, e, el, ep, f⟩ => hd D H' ys hD e (by rw [el, List.take_length]) (by rw [List.take_length] at ep; exact ep) f)
  obtain ⟨hx, hy⟩ := hY i H0 x H' hi y
  have e1 : wipe σ [j] = σ.set j none := rfl
  have f1 : Fr [] H H' := f.trans hy
  have d1 := hy.at_ _ _ e (fun z => nomatch z)
  obtain ⟨q1, q2⟩ := hs x H' (List.mem_of_getElem? hx) f1
  show wipe ((wipe σ [j]).set j (some x)) [j] = wipe σ [j] ∧ tt ((wipe σ [j]).set j (some x)) H' _
  rw [e1, set_set]
  refine ⟨by show ((σ.set j (some x)).set j none) = _; rw [set_set], q1 _ fun H3 f3 => ?_⟩
  have d3 := f3.at_ _ _ d1 (fun z => nomatch z)
  cases hc : c x with
  | true =>
    rw [if_pos rfl]
    refine q2 hc H3 f3 _ fun y H4 f4 py => ⟨_, f4.at_ _ _ d3 (fun z => nomatch z), small' ?_, ys ++ [y], upd_same, ?_, fun k x' hk => ?_, ?_⟩
    · have := List.length_filter_le c (xs.take i)
      rw [List.length_take] at this
      omega
    · rw [List.length_append, el, filter_snoc hx, if_pos hc, List.length_append]; rfl
    · have fu : Fr [D] H4 (upd H4 D (.lst (ys ++ [y]))) := Fr.lst (f4.at_ _ _ d3 (fun z => nomatch z))
      rw [filter_snoc hx, if_pos hc] at hk
      by_cases hl : k < ((xs.take i).filter c).length
      · rw [List.getElem?_append_left hl] at hk
        obtain ⟨y', a, b⟩ := ep k x' hk
        exact ⟨y', by rw [List.getElem?_append_left (by omega)]; exact a, hP _ _ _ _ _ (hP _ _ _ _ _ b ((hy.trans f3).trans f4)) fu⟩
      · rw [List.getElem?_append_right (by omega)] at hk
        have h0 : k - ((xs.take i).filter c).length = 0 := by
          cases hq : k - ((xs.take i).filter c).length with
          | zero => rfl
          | succ m => rw [hq] at hk; simp at hk
        rw [h0] at hk
        have e' : x = x' := Option.some.inj hk
        subst e'
        exact ⟨y, by rw [List.getElem?_append_right (by omega), el, h0]; rfl, hP _ _ _ _ _ py fu⟩
    · have f := (f1.trans f3).trans f4
      exact f.drop (Fr.lst (f4.at_ _ _ d3 (fun z => nomatch z))) hD
  | false =>
    rw [if_neg Bool.false_ne_true]
    refine ⟨ys, d3, ?_, fun k x' hk => ?_, f1.trans f3⟩
    · rw [el, filter_snoc hx, if_neg (by rw [hc]; decide), List.append_nil]
    · rw [filter_snoc hx, if_neg (by rw [hc]; decide), List.append_nil] at hk
      obtain ⟨y', a, b⟩ := ep k x' hk
      exact ⟨y', a, hP _ _ _ _ _ b (hy.trans f3)⟩
def DcK (J : It) (g : TG) (tt : TT) (tk tv : TE) (vs : List Nat) (σ : L2.St) (Q : VK) (H1 : Hp) : Prop := ∀ D, H1 D = none → ∃ W : Nat → Nat → Hp → Prop, (∃ m, W 0 m (upd H1 D (.dK []))) ∧ ∀ i m H, W i m H →
  (J.stop i H ∧ Q (.ref D) H) ∨ (J.go i H ∧ ∃ Nx : Hp → Prop, (∀ H', Nx H' → ∃ m', m' < m ∧ W (i + 1) m' H') ∧ ∀ x H', J.yld i H x H' → g x (wipe σ vs) H' fun σ2 H2 => wipe σ2 vs = wipe σ vs ∧ tt σ2 H2 fun b H3 =>
    if b = true then tk σ2 H3 fun y H4 => tv σ2 H4 fun z H5 => ∃ kvs k, y = kV k ∧ H5 D = some (.dK kvs) ∧ kvs.length < sizeLine ∧ Nx (upd H5 D (.dK (putK kvs k z))) else Nx H3)
theorem x_dc (h : wi σ H fun J H1 => DcK J g tt tk tv vs σ Q H1) : tDc wi g tt tk tv vs σ H Q := h
instance o_x_dc : One (tDc wi g tt tk tv vs σ H Q) (wi σ H fun J H1 => DcK J g tt tk tv vs σ Q H1) := ⟨x_dc⟩
theorem dcV (w : Walk J n G Y) (ns : List Int) (nd : ns.Nodup) (hn : n = ns.length) (hY : ∀ i H0 x H', i < n → Y i H0 x H' → (∃ k, ns[i]? = some k ∧ x = .int k) ∧ Fr [] H0 H') (c : Int → Bool) (val : Int → V) (hG : ∀ H', Fr [] H H' → G H') (hz : ns.length ≤ 100000)
    (hs : ∀ k H', k ∈ ns → Fr [] H H' → SetK σ j (.int k) (fun σ2 H2 => (∀ R : Bool → Hp → Prop, (∀ H3, Fr [] H2 H3 → R (c k) H3) → tt σ2 H2 R) ∧ (c k = true → ∀ H3, Fr [] H2 H3 → ∀ R : V → V → Hp → Prop, (∀ H4, Fr [] H3 H4 → R (.int k) (val k) H4) → tk σ2 H3 fun y H4 => tv σ2 H4 fun z H5 => R y z H5)) H')
    (hd : ∀ p H', H p = none → H' p = some (.dK ((ns.filter c).map fun k => (Sum.inl k, val k))) → Fr [] H H' → Q (.ref p) H') : DcK J (gName j) tt tk tv [j] σ Q H := by
  subst hn
  intro D hD
  refine ⟨fun i m H' => m = ns.length - i ∧ i ≤ ns.length ∧ H' D = some (.dK (((ns.take i).filter c).map fun k => (Sum.inl k, val k))) ∧ Fr [] H H', ⟨ns.length, by simp, Nat.zero_le _, by rw [upd_same]; rfl, Fr.new hD⟩, ?_⟩
  rintro i m H0 ⟨rfl, hi, hd0, f0⟩
  have q := hG _ f0
  by_cases hlt : i < ns.length
  · refine .inr ⟨w.goes i H0 hlt q, fun H' => H' D = some (.dK (((ns.take (i + 1)).filter c).map fun k => (Sum.inl k, val k))) ∧ Fr [] H H', fun H' p' => ⟨ns.length - (i + 1), by omega, rfl, hlt, p'⟩, fun x H' y => ?_⟩
    obtain ⟨⟨k, hk, ex⟩, hy⟩ := hY i H0 x H' hlt (w.yields i H0 x H' hlt q y)
    subst ex
    have e1 : wipe σ [j] = σ.set j none := rfl
    have f1 : Fr [] H H' := f0.trans hy
    have d1 := hy.at_ _ _ hd0 (fun z => nomatch z)
    have hmem := List.mem_of_getElem? hk
    obtain ⟨q1, q2⟩ := hs k H' hmem f1
    show wipe ((wipe σ [j]).set j (some (.int k))) [j] = wipe σ [j] ∧ tt ((wipe σ [j]).set j (some (.int k))) H' _
    rw [e1, set_set]
    refine ⟨by show ((σ.set j (some (.int k))).set j none) = _; rw [set_set], q1 _ fun H3 f3 => ?_⟩
    have d3 := f3.at_ _ _ d1 (fun z => nomatch z)
    cases hc : c k with
    | true =>
      rw [if_pos rfl]
      refine q2 hc H3 f3 _ fun H4 f4 => ⟨_, Sum.inl k, rfl, f4.at_ _ _ d3 (fun z => nomatch z), small' ?_, ?_, ?_⟩
      · rw [List.length_map]
        have := List.length_filter_le c (ns.take i)
        rw [List.length_take] at this
        omega
      · rw [upd_same, filter_snoc hk, if_pos hc, List.map_append, putK_new]
        · rfl
        · cases e : valV (((ns.take i).filter c).map fun k => ((Sum.inl k : Key), val k)) (Sum.inl k) with
          | none => rfl
          | some v =>
            exfalso
            have m1 := mem_of_valV.mpr (show (valV (((ns.take i).filter c).map fun k => ((Sum.inl k : Key), val k)) (Sum.inl k)).isSome = true by rw [e]; rfl)
            rw [List.map_map] at m1
            obtain ⟨k', hk', ek⟩ := List.mem_map.mp m1
            have ek' : k' = k := Sum.inl.inj ek
            subst ek'
            have m2 : k' ∈ ns.take i := (List.mem_filter.mp hk').1
            obtain ⟨i', hi', e'⟩ := List.mem_iff_getElem.mp m2
            rw [List.length_take] at hi'
            rw [List.getElem_take] at e'
            have : i' = i := nd_ix nd (by rw [List.getElem?_eq_getElem (by omega), e']) hk
            omega
      · exact ((f1.trans f3).trans f4).drop (Fr.dct (f4.at_ _ _ d3 (fun z => nomatch z))) hD
    | false =>
      rw [if_neg Bool.false_ne_true]
      refine ⟨?_, f1.trans f3⟩
      rw [d3, filter_snoc hk, if_neg (by rw [hc]; decide), List.append_nil]
  · have e : i = ns.length := by omega
    subst e
    exact .inl ⟨w.stops H0 q, hd D H0 hD (by rw [hd0, List.take_length]) f0⟩
theorem valV_mapK (val : Int → V) : ∀ (ns : List Int) (n : Int), valV (ns.map fun k => ((Sum.inl k : Key), val k)) (Sum.inl n) = if n ∈ ns then some (val n) else none
  | [], n => rfl
  | k :: r, n => by
    rw [List.map_cons]
    by_cases e : k = n
    · subst e
      rw [valV_pos rfl, if_pos List.mem_cons_self]
    · rw [valV_neg (fun z => e (Sum.inl.inj z)), valV_mapK val r n]
      by_cases h : n ∈ r
      · rw [if_pos h, if_pos (List.mem_cons_of_mem _ h)]
      · rw [if_neg h, if_neg (fun z => (List.mem_cons.mp z).elim (fun z => e z.symm) h)]
theorem DOk.ofMap {ns : List Int} (nd : ns.Nodup) (val : Int → V) : DOk (ns.map fun k => ((Sum.inl k : Key), val k)) (fun n => if n ∈ ns then some (val n) else none) :=
  ⟨by rw [List.map_map]; exact nodup_map_inl.mpr nd, ⟨ns, by rw [List.map_map]; rfl⟩, valV_mapK val ns⟩
theorem walkL {a : Addr} {xs : List V} {R : It → Hp → Prop} (hx : SqL K H a xs) (h : R (Itl K a) H) : ItLK K (.ref a) R H := ⟨a, rfl, ⟨xs, hx⟩, h⟩
theorem yAt {xs : List V} {i : Nat} {H0 H' : Hp} {x : V} (h : YAt xs i H0 x H') : xs[i]? = some x ∧ Fr [] H0 H' := ⟨h.2, by rw [h.1]; exact Fr.refl _ _⟩
theorem yAtI {ns : List Int} {i : Nat} {H0 H' : Hp} {x : V} (h : YAt (ns.map V.int) i H0 x H') : (∃ k, ns[i]? = some k ∧ x = .int k) ∧ Fr [] H0 H' := by
  obtain ⟨a, b⟩ := yAt h
  rw [List.getElem?_map] at a
  cases e : ns[i]? with
  | none => rw [e] at a; cases a
  | some k => rw [e] at a; exact ⟨⟨k, rfl, (Option.some.inj a).symm⟩, b⟩
def PartK (x : V) (R : Option Int → Hp → Prop) (H : Hp) : Prop := ∃ i, x = .int i ∧ R (some i) H
theorem x_part {R : Option Int → Hp → Prop} (h : te σ H fun x H1 => PartK x R H1) : tPart te σ H R := h
instance o_x_part {R : Option Int → Hp → Prop} : One (tPart te σ H R) (te σ H fun x H1 => PartK x R H1) := ⟨x_part⟩
theorem partk {i : Int} {R : Option Int → Hp → Prop} (h : R (some i) H) : PartK (.int i) R H := ⟨i, rfl, h⟩
instance o_partk {i : Int} {R : Option Int → Hp → Prop} : One (PartK (.int i) R H) (R (some i) H) := ⟨partk⟩
theorem x_nopart {R : Option Int → Hp → Prop} (h : R none H) : tNoPart σ H R := h
instance o_x_nopart {R : Option Int → Hp → Prop} : One (tNoPart σ H R) (R none H) := ⟨x_nopart⟩
theorem x_sl {r : V → Option Int → Option Int → Hp → VK → Prop} {t1 t2 : TO} (h : te σ H fun x H1 => t1 σ H1 fun l H2 => t2 σ H2 fun u H3 => r x l u H3 Q) : tSl r te t1 t2 σ H Q := h
instance o_x_sl {r : V → Option Int → Option Int → Hp → VK → Prop} {t1 t2 : TO} : One (tSl r te t1 t2 σ H Q) (te σ H fun x H1 => t1 σ H1 fun l H2 => t2 σ H2 fun u H3 => r x l u H3 Q) := ⟨x_sl⟩
theorem r_slL {a : Addr} {xs : List V} {lo hi : Option Int} (h : SqL K H a xs) (q : ∀ p H', H p = none → H' p = some (.lst (cutV xs lo hi)) → Fr [] H H' → Q (.ref p) H') : rSlL K (.ref a) lo hi H Q := ⟨a, xs, rfl, h, newk q⟩
theorem r_slT {a : Addr} {xs : List V} {lo hi : Option Int} (h : SqT K H a xs) (hn : ¬ (HT.sIx xs.length 0 lo = 0 ∧ HT.sIx xs.length xs.length hi = xs.length)) (q : ∀ p H', H p = none → H' p = some (.tup (cutV xs lo hi)) → Fr [] H H' → Q (.ref p) H') : rSlT K (.ref a) lo hi H Q := ⟨a, xs, rfl, h, hn, newk q⟩
theorem cut_to (xs : List V) (k : Nat) : cutV xs none (some (k : Int)) = xs.take k := by
  unfold cutV
  rw [HT.sIx_none, HT.sIx_nat, List.drop_zero, Nat.sub_zero]
  by_cases h : k ≤ xs.length
  · rw [Nat.min_eq_left h]
  · rw [Nat.min_eq_right (by omega), List.take_length, List.take_of_length_le (by omega)]
theorem cut_from (xs : List V) (k : Nat) : cutV xs (some (k : Int)) none = xs.drop k := by
  unfold cutV
  rw [HT.sIx_none, HT.sIx_nat]
  by_cases h : k ≤ xs.length
  · rw [Nat.min_eq_left h, List.take_of_length_le (by rw [List.length_drop]; exact Nat.le_refl _)]
  · rw [Nat.min_eq_right (by omega), Nat.sub_self, List.take_zero, List.drop_of_length_le (by omega)]
def DG1 (x : V) (ty : TE) (σ : L2.St) (Q : VK) (H1 : Hp) : Prop := ∃ a, x = .ref a ∧ IsD H1 a ∧ ty σ H1 fun y H2 => ∃ o, DGet H2 a y o ∧ Q (o.getD .non) H2
theorem x_dget1 {td ty : TE} (h : td σ H fun x H1 => DG1 x ty σ Q H1) : tDGet1 td ty σ H Q := h
instance o_x_dget1 {td ty : TE} : One (tDGet1 td ty σ H Q) (td σ H fun x H1 => DG1 x ty σ Q H1) := ⟨x_dget1⟩
def DG1b (a : Addr) (y : V) (Q : VK) (H2 : Hp) : Prop := ∃ o, DGet H2 a y o ∧ Q (o.getD .non) H2
theorem dg1a {a : Addr} {kvs : List (Key × V)} {ty : TE} (h : Rd H a (.dK kvs)) (q : ty σ H fun y H2 => DG1b a y Q H2) : DG1 (.ref a) ty σ Q H := ⟨a, rfl, .inl ⟨kvs, h⟩, q⟩
theorem dg1b {a : Addr} {kvs : List (Key × V)} {n : Int} (h : Rd H a (.dK kvs)) (q : Q ((valV kvs (.inl n)).getD .non) H) : DG1b a (.int n) Q H := ⟨_, .inl ⟨kvs, .inl n, h, rfl, rfl⟩, q⟩
section
variable {tu : TS} {nx bk ct : L2.St → Hp → Prop} {rt : VK} {a : Addr}
theorem loopS (xs : List V) (hx : Sq K H a xs) (Pv : Nat → L2.St → Hp → Prop) (h0 : Pv 0 σ H) (hf : ∀ i σ' H', Pv i σ' H' → Fr [] H H')
    (hs : ∀ i x σ' H', xs[i]? = some x → Pv i σ' H' → SetK σ' j x (tu ⟨Pv (i + 1), rt, nx, Pv (i + 1)⟩) H') (hd : ∀ σ' H', Pv xs.length σ' H' → nx σ' H') :
    ItSK K (.ref a) (fun J H1 => LoopK J (gName j) tu ⟨nx, rt, bk, ct⟩ σ H1) H := by
  rcases hx with hx | hx
  · exact ⟨a, rfl, .inl ⟨⟨xs, hx⟩, loopL xs Pv h0 (fun i σ' H' _ p => (hf i σ' H' p).sqL hx (fun z => nomatch z)) hs hd⟩⟩
  · exact ⟨a, rfl, .inr ⟨⟨xs, hx⟩, loopT xs Pv h0 (fun i σ' H' _ p => (hf i σ' H' p).sqT hx) hs hd⟩⟩
theorem loopLF {M : List Addr} (xs : List V) (hx : SqL K H a xs) (ha : a ∉ M) (Pv : Nat → L2.St → Hp → Prop) (h0 : Pv 0 σ H) (hf : ∀ i σ' H', Pv i σ' H' → Fr M H H')
    (hs : ∀ i x σ' H', xs[i]? = some x → Pv i σ' H' → SetK σ' j x (tu ⟨Pv (i + 1), rt, nx, Pv (i + 1)⟩) H') (hd : ∀ σ' H', Pv xs.length σ' H' → nx σ' H') :
    ItLK K (.ref a) (fun J H1 => LoopK J (gName j) tu ⟨nx, rt, bk, ct⟩ σ H1) H :=
  ⟨a, rfl, ⟨xs, hx⟩, loopL xs Pv h0 (fun i σ' H' _ p => (hf i σ' H' p).sqL hx ha) hs hd⟩
theorem loopR1 (n : Int) (hn : n < 2 ^ 62) (hn' : -(2 ^ 62) ≤ n) (Pv : Nat → L2.St → Hp → Prop) (h0 : Pv 0 σ H) (hs : ∀ (i : Nat) σ' H', (i : Int) < n → Pv i σ' H' → SetK σ' j (.int (i : Int)) (tu ⟨Pv (i + 1), rt, nx, Pv (i + 1)⟩) H')
    (hd : ∀ σ' H', Pv n.toNat σ' H' → nx σ' H') :
    ∃ j' : Int, [V.int n] = [.int j'] ∧ -(2 ^ 62) ≤ j' ∧ j' < 2 ^ 62 ∧ (fun J H1 => LoopK J (gName j) tu ⟨nx, rt, bk, ct⟩ σ H1) (Itr 0 j'.toNat) H := by
  refine ⟨n, rfl, hn', hn, loopR Pv h0 (fun i σ' H' hi p => ?_) hd⟩
  rw [show (0 : Int) + (i : Int) = (i : Int) by omega]
  exact hs i σ' H' (by omega) p
theorem loopR2 (lo n : Int) (hl : -(2 ^ 62) ≤ lo ∧ lo < 2 ^ 62) (hn : -(2 ^ 62) ≤ n ∧ n < 2 ^ 62) (Pv : Nat → L2.St → Hp → Prop) (h0 : Pv 0 σ H) (hs : ∀ (i : Nat) σ' H', lo + (i : Int) < n → Pv i σ' H' → SetK σ' j (.int (lo + (i : Int))) (tu ⟨Pv (i + 1), rt, nx, Pv (i + 1)⟩) H')
    (hd : ∀ σ' H', Pv (n - lo).toNat σ' H' → nx σ' H') :
    ∃ i' j' : Int, [V.int lo, V.int n] = [.int i', .int j'] ∧ (-(2 ^ 62) ≤ i' ∧ i' < 2 ^ 62 ∧ -(2 ^ 62) ≤ j' ∧ j' < 2 ^ 62) ∧ (fun J H1 => LoopK J (gName j) tu ⟨nx, rt, bk, ct⟩ σ H1) (Itr i' (j' - i').toNat) H :=
  ⟨lo, n, rfl, ⟨hl.1, hl.2, hn.1, hn.2⟩, loopR Pv h0 (fun i σ' H' hi p => hs i σ' H' (by omega) p) hd⟩
theorem mem_ints {ns : List Int} {i : Nat} {x : V} (h : (ns.map V.int)[i]? = some x) : ∃ n, ns[i]? = some n ∧ n ∈ ns ∧ x = .int n := by
  rw [List.getElem?_map] at h
  cases e : ns[i]? with
  | none => rw [e] at h; cases h
  | some n => rw [e] at h; exact ⟨n, rfl, List.mem_of_getElem? e, (Option.some.inj h).symm⟩
theorem mem_intsM {ns : List Int} {x : V} (h : x ∈ ns.map V.int) : ∃ n, n ∈ ns ∧ x = .int n := by
  obtain ⟨n, a, b⟩ := List.mem_map.mp h
  exact ⟨n, a, b.symm⟩
end
def LkFr (d : Addr) (H H1 : Hp) : Prop := ∀ a o, a ≠ d → H a = some o → H1 a = some o
def UnlK (d : Addr) (od : Obj) (kvs : List (Key × V)) (v : V) (Q : VK) (H2 : Hp) : Prop := H2 d = some (.frz od (.dK kvs)) ∧ Q v (upd H2 d (.dK kvs))
theorem x_lockE {d : Addr} {kvs : List (Key × V)} (hd : H d = some (.dK kvs)) (q : ∀ od H1, H1 d = some (.frz od (.dK kvs)) → LkFr d H H1 → te σ H1 fun v H2 => UnlK d od kvs v Q H2) : tLockE te σ H Q :=
  ⟨d, _, hd, trivial, fun od => q od _ upd_same fun a o n e => by rw [upd_ne n]; exact e⟩
theorem unlk {d : Addr} {od : Obj} {kvs : List (Key × V)} {v : V} {H1 H2 : Hp} (hd : H d = some (.dK kvs)) (e : H1 d = some (.frz od (.dK kvs))) (l : LkFr d H H1) (f : Fr [] H1 H2)
    (q : ∀ H3, Fr [] H H3 → (∀ a o, a ≠ d → H2 a = some o → H3 a = some o) → Q v H3) : UnlK d od kvs v Q H2 := by
  have nn : ∀ a : Addr, a ∉ ([] : List Addr) := fun a z => nomatch z
  refine ⟨f.fz _ _ _ e, q _ ⟨fun a o h _ => ?_, fun t xs h => ?_, fun t o u h => ?_⟩ fun a o n h => by rw [upd_ne n]; exact h⟩
  · by_cases z : a = d
    · subst z; rw [hd] at h; cases h; exact upd_same
    · rw [upd_ne z]; exact f.at_ _ _ (l a o z h) (nn a)
  · have z : t ≠ d := ne_of h hd (by intro z; cases z)
    rw [upd_ne z]; exact f.tp _ _ (l t _ z h)
  · have z : t ≠ d := ne_of h hd (by intro z; cases z)
    rw [upd_ne z]; exact f.fz _ _ _ (l t _ z h)
def KeysK (x : V) (R : It → Hp → Prop) (H1 : Hp) : Prop := ∃ d o, x = .ref d ∧ ((∃ kvs, H1 d = some (.frz o (.dK kvs)) ∧ R (Itk d o kvs) H1) ∨ ∃ kvs, H1 d = some (.frz o (.dT kvs)) ∧ R (Itkt d o kvs) H1)
theorem x_iKeys {td : TE} {R : It → Hp → Prop} (h : td σ H fun x H1 => KeysK x R H1) : iKeys td σ H R := h
instance o_x_iKeys {td : TE} {R : It → Hp → Prop} : One (iKeys td σ H R) (td σ H fun x H1 => KeysK x R H1) := ⟨x_iKeys⟩
theorem keysk {d : Addr} {o : Obj} {kvs : List (Key × V)} {R : It → Hp → Prop} (h : H d = some (.frz o (.dK kvs))) (q : R (Itk d o kvs) H) : KeysK (.ref d) R H := ⟨d, o, rfl, .inl ⟨kvs, h, q⟩⟩
theorem yKey {kvs : List (Key × V)} {ns : List Int} (hk : kvs.map (·.1) = ns.map Sum.inl) {i : Nat} {H0 H' : Hp} {x : V} (h : H' = H0 ∧ ∃ k v, kvs[i]? = some (k, v) ∧ x = kV k) : (∃ k, ns[i]? = some k ∧ x = .int k) ∧ Fr [] H0 H' := by
  obtain ⟨e, k, v, hi, ex⟩ := h
  have h1 : (kvs.map (·.1))[i]? = some k := by rw [List.getElem?_map, hi]; rfl
  rw [hk, List.getElem?_map] at h1
  cases e2 : ns[i]? with
  | none => rw [e2] at h1; cases h1
  | some n =>
    rw [e2] at h1
    have h2 : Sum.inl n = k := Option.some.inj h1
    subst h2
    exact ⟨⟨n, rfl, ex⟩, by rw [e]; exact Fr.refl _ _⟩
end
section
variable {K : PySem.W.Frag} {σ : L2.St} {H : Hp} {Q : VK}
def MkK (C : Addr) (n m : Nat) (sp : Sp) (gV : List V → List V → List V) (E : XK) (vs zs : List V) (Q : VK) (H2 : Hp) : Prop := vs.length = n ∧ zs.length = m ∧ ∀ x dx, H2 x = none → H2 dx = none → dx ≠ x →
  sp (gV (.ref x :: vs) zs) (upd (upd H2 dx (.own x)) x (.ins C dx [])) (fun v H3 => v = .non ∧ Q (.ref x) H3) E
theorem x_mk {C : Addr} {n m : Nat} {sp : Sp} {gV : List V → List V → List V} {E : XK} {t tk : TA} (h : t σ H fun vs H1 => tk σ H1 fun zs H2 => MkK C n m sp gV E vs zs Q H2) : tMakeK C n m sp gV E t tk σ H Q := h
instance o_x_mk {C : Addr} {n m : Nat} {sp : Sp} {gV : List V → List V → List V} {E : XK} {t tk : TA} : One (tMakeK C n m sp gV E t tk σ H Q) (t σ H fun vs H1 => tk σ H1 fun zs H2 => MkK C n m sp gV E vs zs Q H2) := ⟨x_mk⟩
theorem new_ins {x dx C : Addr} (nx : H x = none) (nd : H dx = none) (ne : dx ≠ x) : Fr [] H (upd (upd H dx (.own x)) x (.ins C dx [])) := by
  have e1 : upd H dx (.own x) x = none := by rw [upd_ne ne.symm]; exact nx
  exact (Fr.new nd).trans (Fr.new e1)
structure GC (P : Program) (w : World) (K : PySem.W.Frag) (mg : Str → Option Value) (base : Heap) (C : Addr) (cls : Str) (k : Nat) (ps : List Str) (n : Nat) (ks : List Str) (gV : List V → List V → List V) (sp : Sp) : Prop where
  ex : ∃ (f : Addr) (fd : FuncData) (g : List Value → List Value → List Value), L2.Mk K C f ∧ mg cls = some (.ref C) ∧ FnOk P w K mg base CX0 k f fd ps sp ∧ KBn K fd ps (n + 1) ks g gV
variable {X : Cx} {C : Addr} {x : Str} {k n : Nat} {ps ks : List Str} {gV : List V → List V → List V} {sp : Sp} {p pos : Pos} {e : Expr} {es : List Expr} {kws : List Keyword} {t tk : TA}
theorem c_mk (G : GC X.prog X.w X.K X.mg X.base C x k ps n ks gV sp) (hr : Room (k + 1) X.A) (ha : PA X (e :: es) t) (hkw : PK X kws tk) (hg : Gl X x := by rfl)
    (hall : (backToKw pos (keywordEach kws X.env)).all (·.1.isSome) = true := by rfl) (hks : (backToKw pos (keywordEach kws X.env)).filterMap (·.1) = ks := by rfl) (hdb : (x == ("__debug__" : Str)) = false := by decide)
    (he : starEach (e :: es) X.env = (false, eval e X.env) :: starEach es X.env := by rfl) (hpl : ((backTo pos (starEach (e :: es) X.env)).any (·.1) || (backToKw pos (keywordEach kws X.env)).any (·.1.isNone)) = false := by rfl) :
    PE X (.Call (.Name x p) (e :: es) kws pos) (tMakeK C n ks.length sp gV E0 t tk) := by
  obtain ⟨f, fd, g, M, hm, F, hb⟩ := G.ex
  exact pe_makeK M F hr hg hm hb pass0 ha hkw hall hks hdb he hpl
end
end RL
namespace RL
section
open PySem L2
variable {σ : L2.St} {H : Hp} {te : TE} {tz : TS} {nx bk ct : L2.St → Hp → Prop} {rt : VK} {i : Nat} {f : Int → Int → Int}
theorem q_augI (h : tVar i σ H fun x H0 => te σ H0 fun y H1 => ipI f x y H1 fun z H2 => SetK σ i z (tz ⟨nx, rt, bk, ct⟩) H2) : tSeq (tAug i te (ipI f)) tz ⟨nx, rt, bk, ct⟩ σ H := h
instance o_q_augI : OneS (tSeq (tAug i te (ipI f)) tz ⟨nx, rt, bk, ct⟩ σ H) (tVar i σ H fun x H0 => te σ H0 fun y H1 => ipI f x y H1 fun z H2 => SetK σ i z (tz ⟨nx, rt, bk, ct⟩) H2) := ⟨q_augI⟩
theorem s_augI (h : tVar i σ H fun x H0 => te σ H0 fun y H1 => ipI f x y H1 fun z H2 => SetK σ i z nx H2) : tAug i te (ipI f) ⟨nx, rt, bk, ct⟩ σ H := h
instance o_s_augI : OneS (tAug i te (ipI f) ⟨nx, rt, bk, ct⟩ σ H) (tVar i σ H fun x H0 => te σ H0 fun y H1 => ipI f x y H1 fun z H2 => SetK σ i z nx H2) := ⟨s_augI⟩
end
theorem ifTn {A B : Prop} (h : A) : IfK (!false) A B := ifT h
instance o_ifTn {A B : Prop} : One (IfK (!false) A B) (A) := ⟨ifTn⟩
theorem ifFn {A B : Prop} (h : B) : IfK (!true) A B := ifF h
instance o_ifFn {A B : Prop} : One (IfK (!true) A B) (B) := ⟨ifFn⟩
def far (size s e : Int) : Int := if (e - s) % size = 0 then size else (e - s) % size
def btw (size s p e : Int) : Bool := decide (far size s p < far size s e)
def it (f : Int → Int) : Nat → Int → Int
  | 0, h => h
  | n + 1, h => it f n (f h)
def wl (size : Int) (f : Int → Int) : Nat → Int → Int
  | 0, _ => 0
  | n + 1, h => far size h (f h) + wl size f n (f h)
def Tr (size : Int) (f : Int → Int) (a e s : Int) : Prop := ∃ n, 1 ≤ n ∧ it f n a = e ∧ wl size f n a = s
def Ans (size : Int) (f : Int → Int) (a d : Int) (j : Nat) : Prop := d ≤ wl size f j a ∧ ∀ i, i < j → wl size f i a < d
section
variable {size : Int} {f g : Int → Int} {a h e s d u v x : Int} {m n i j : Nat} {hs : List Int}
theorem far_pos (h : 0 < size) : 0 < far size s e ∧ far size s e ≤ size := by
  unfold far
  have h1 := Int.emod_nonneg (e - s) (show size ≠ 0 by omega)
  have h2 := Int.emod_lt_of_pos (e - s) h
  split <;> omega
theorem far_self : far size s s = size := by
  unfold far
  rw [Int.sub_self, Int.zero_emod, if_pos rfl]
theorem far_emod (h : 0 < size) : far size s e % size = (e - s) % size := by
  unfold far
  split
  · rename_i h0; rw [h0, Int.emod_self]
  · exact Int.emod_emod_of_dvd _ (Int.dvd_refl _)
theorem far_dvd (h : 0 < size) : size ∣ far size s e - (e - s) := Int.dvd_of_emod_eq_zero (by rw [Int.sub_emod, far_emod h]; simp)
theorem far_uniq (h : 0 < size) {k : Int} (k0 : 0 < k) (k1 : k ≤ size) (hd : size ∣ k - (e - s)) : k = far size s e := by
  obtain ⟨p0, p1⟩ := far_pos (s := s) (e := e) h
  have h2 := Int.dvd_sub hd (far_dvd (s := s) (e := e) h)
  obtain ⟨q, hq⟩ := h2
  have hq' : k - far size s e = size * q := by omega
  have : q = 0 := by
    rcases Int.lt_trichotomy q 0 with hl | hl | hl
    · have : size * q ≤ size * (-1) := Int.mul_le_mul_of_nonneg_left (by omega) (by omega)
      omega
    · exact hl
    · have : size * 1 ≤ size * q := Int.mul_le_mul_of_nonneg_left (by omega) (by omega)
      omega
  rw [this] at hq'
  omega
theorem btw_left (h : 0 < size) : btw size s s e = false := by
  unfold btw
  rw [far_self]
  have := far_pos (s := s) (e := e) h
  exact decide_eq_false (by omega)
theorem btw_right : btw size s e e = false := by
  unfold btw
  exact decide_eq_false (by omega)
theorem btw_split (h : 0 < size) (hb : btw size u x v = true) : far size u x + far size x v = far size u v := by
  have hb' : far size u x < far size u v := of_decide_eq_true hb
  have p1 := far_pos (s := u) (e := x) h
  have p2 := far_pos (s := u) (e := v) h
  have e1 : far size u v - far size u x = far size x v := by
    refine far_uniq h (by omega) (by omega) ?_
    have a1 := far_dvd (s := u) (e := v) h
    have a2 := far_dvd (s := u) (e := x) h
    have := Int.dvd_sub a1 a2
    have e2 : far size u v - (v - u) - (far size u x - (x - u)) = far size u v - far size u x - (v - x) := by omega
    rw [e2] at this
    exact this
  omega
theorem it_add : it f (m + n) h = it f n (it f m h) := by
  induction m generalizing h with
  | zero => rw [Nat.zero_add]; rfl
  | succ m ih => rw [Nat.succ_add]; exact ih
theorem it_succ : it f (n + 1) h = f (it f n h) := it_add (m := n) (n := 1)
theorem wl_add : wl size f (m + n) h = wl size f m h + wl size f n (it f m h) := by
  induction m generalizing h with
  | zero => rw [Nat.zero_add]; show _ = 0 + _; rw [Int.zero_add]; rfl
  | succ m ih => rw [Nat.succ_add]; show far size h (f h) + wl size f (m + n) (f h) = _; rw [ih]; show _ = far size h (f h) + _ + _; rw [Int.add_assoc]; rfl
theorem wl_succ : wl size f (n + 1) h = wl size f n h + far size (it f n h) (f (it f n h)) := by
  rw [wl_add]; show _ + (far size _ _ + 0) = _; rw [Int.add_zero]
theorem wl_ge (h0 : 0 < size) : (n : Int) ≤ wl size f n h := by
  induction n generalizing h with
  | zero => exact Int.le_refl _
  | succ n ih => have := ih (h := f h); have := far_pos (s := h) (e := f h) h0; show ((n + 1 : Nat) : Int) ≤ far size h (f h) + wl size f n (f h); omega
theorem wl_lt (h0 : 0 < size) (hij : i < j) : wl size f i h < wl size f j h := by
  obtain ⟨k, rfl⟩ : ∃ k, j = i + (k + 1) := ⟨j - i - 1, by omega⟩
  rw [wl_add]
  have := wl_ge (n := k + 1) (f := f) (h := it f i h) h0
  omega
theorem wl_le (h0 : 0 < size) (hij : i ≤ j) : wl size f i h ≤ wl size f j h := by
  rcases Nat.lt_or_eq_of_le hij with e | e
  · exact Int.le_of_lt (wl_lt h0 e)
  · rw [e]; exact Int.le_refl _
theorem wl_inj (h0 : 0 < size) (e : wl size f i h = wl size f j h) : i = j := by
  rcases Nat.lt_trichotomy i j with q | q | q
  · have := wl_lt (f := f) (h := h) h0 q; omega
  · exact q
  · have := wl_lt (f := f) (h := h) h0 q; omega
theorem wl_dvd (h0 : 0 < size) : size ∣ wl size f n h - (it f n h - h) := by
  induction n generalizing h with
  | zero => show size ∣ (0 : Int) - (h - h); simp
  | succ n ih =>
    have a1 := ih (h := f h)
    have a2 := far_dvd (s := h) (e := f h) h0
    have := Int.dvd_add a1 a2
    have e : wl size f n (f h) - (it f n (f h) - f h) + (far size h (f h) - (f h - h)) = wl size f (n + 1) h - (it f (n + 1) h - h) := by
      show _ = far size h (f h) + wl size f n (f h) - (it f n (f h) - h)
      omega
    rw [e] at this
    exact this
theorem Ans.uniq (h0 : 0 < size) (x : Ans size f a d i) (y : Ans size f a d j) : i = j := by
  rcases Nat.lt_trichotomy i j with q | q | q
  · have := y.2 i q; have := x.1; omega
  · exact q
  · have := x.2 j q; have := y.1; omega
theorem it_mem (hf : ∀ h ∈ hs, f h ∈ hs) (hh : h ∈ hs) : it f n h ∈ hs := by
  induction n generalizing h with
  | zero => exact hh
  | succ n ih => exact ih (hf h hh)
theorem nodup_sub_len : ∀ {l m : List Int}, l.Nodup → (∀ x ∈ l, x ∈ m) → l.length ≤ m.length
  | [], _, _, _ => Nat.zero_le _
  | a :: r, m, n, h => by
    obtain ⟨n1, n2⟩ := List.nodup_cons.mp n
    have ha := h a List.mem_cons_self
    have := nodup_sub_len (l := r) (m := m.erase a) n2 fun x hx => (List.mem_erase_of_ne (fun e => n1 (by rw [← e]; exact hx))).mpr (h x (List.mem_cons_of_mem _ hx))
    rw [List.length_erase_of_mem ha] at this
    have := List.length_pos_of_mem ha
    rw [List.length_cons]
    omega
theorem pigeon {c : Nat → Int} {n : Nat} (hn : hs.length ≤ n) (hc : ∀ i, i ≤ n → c i ∈ hs) : ∃ i j, i < j ∧ j ≤ n ∧ c i = c j := by
  apply Classical.byContradiction
  intro hno
  have nd : ((List.range (n + 1)).map c).Nodup := by
    rw [List.nodup_iff_pairwise_ne, List.pairwise_map]
    refine List.Pairwise.imp_of_mem (R := (· < ·)) (fun {i j} hi hj hlt e => ?_) List.pairwise_lt_range
    have h1 := List.mem_range.mp hj
    exact hno ⟨i, j, hlt, by omega, e⟩
  have := nodup_sub_len nd fun x hx => by
    obtain ⟨i, hi, e⟩ := List.mem_map.mp hx
    have := List.mem_range.mp hi
    exact e ▸ hc i (by omega)
  rw [List.length_map, List.length_range] at this
  omega
theorem wl_turn (h0 : 0 < size) (hf : ∀ h ∈ hs, f h ∈ hs) (hh : h ∈ hs) (hn : hs.length ≤ n) : size ≤ wl size f n h := by
  obtain ⟨i, j, hij, hj, e⟩ := pigeon (c := fun i => it f i h) hn fun i _ => it_mem hf hh
  have e' : it f i h = it f j h := e
  obtain ⟨k, rfl⟩ : ∃ k, j = i + (k + 1) := ⟨j - i - 1, by omega⟩
  rw [it_add] at e'
  have h1 := wl_dvd (f := f) (n := k + 1) (h := it f i h) h0
  rw [← e'] at h1
  have h2 := wl_ge (n := k + 1) (f := f) (h := it f i h) h0
  have h3 : size ≤ wl size f (k + 1) (it f i h) := Int.le_of_dvd (by omega) (by rw [Int.sub_self, Int.sub_zero] at h1; exact h1)
  have h4 := wl_add (size := size) (f := f) (m := i) (n := k + 1) (h := h)
  have h5 := wl_ge (n := i) (f := f) (h := h) h0
  have h6 := wl_le (f := f) (h := h) h0 hj
  omega
theorem wl_turns (h0 : 0 < size) (hf : ∀ h ∈ hs, f h ∈ hs) (hh : h ∈ hs) : ∀ q : Nat, size * q ≤ wl size f (hs.length * q) h
  | 0 => by show size * 0 ≤ 0; omega
  | q + 1 => by
    have ih := wl_turns h0 hf hh q
    rw [Nat.mul_succ, wl_add]
    have := wl_turn (n := hs.length) h0 hf (it_mem (n := hs.length * q) hf hh) (Nat.le_refl _)
    have e : size * ((q + 1 : Nat) : Int) = size * q + size := by rw [Int.natCast_add, Int.mul_add]; simp
    omega
theorem on_ring (hf : ∀ h ∈ hs, f h ∈ hs) (hh : h ∈ hs) (hn : hs.length ≤ n) : ∃ p, 1 ≤ p ∧ p ≤ hs.length ∧ it f p (it f n h) = it f n h := by
  obtain ⟨i, j, hij, hj, e⟩ := pigeon (c := fun i => it f i h) (Nat.le_refl hs.length) fun i _ => it_mem hf hh
  have e' : it f i h = it f j h := e
  refine ⟨j - i, by omega, by omega, ?_⟩
  obtain ⟨k, rfl⟩ : ∃ k, n = i + k := ⟨n - i, by omega⟩
  rw [← it_add, show i + k + (j - i) = j + k by omega, it_add, it_add, e']
end
end RL
namespace RL
def sub1 : PySem.Stmt → List PySem.Stmt
  | .For _ _ b _ _ => b
  | .While _ b _ _ => b
  | .If _ b _ _ => b
  | _ => []
def sub2 : PySem.Stmt → List PySem.Stmt
  | .For _ _ _ b _ => b
  | .While _ _ b _ => b
  | .If _ _ b _ => b
  | _ => []
def stAt (b : List PySem.Stmt) (i : Nat) : PySem.Stmt := b.getD i (.Pass ⟨0, 0, 0, 0⟩)
section
open PySem L2
variable {a b c d e f g i j k l m n o p q a1 b1 c1 d1 e1 f1 g1 i1 j1 : Option V} {v : V} {r : L2.St} {H : Hp} {N : L2.St → Hp → Prop} {Q : VK}
theorem sk16 (h : N (a :: b :: c :: d :: e :: f :: g :: i :: j :: k :: l :: m :: n :: o :: p :: q :: some v :: r) H) : SetK (a :: b :: c :: d :: e :: f :: g :: i :: j :: k :: l :: m :: n :: o :: p :: q :: a1 :: r) 16 v N H := h
instance o_sk16 : One (SetK (a :: b :: c :: d :: e :: f :: g :: i :: j :: k :: l :: m :: n :: o :: p :: q :: a1 :: r) 16 v N H) (N (a :: b :: c :: d :: e :: f :: g :: i :: j :: k :: l :: m :: n :: o :: p :: q :: some v :: r) H) := ⟨sk16⟩
theorem xv16 (h : Q v H) : tVar 16 (a :: b :: c :: d :: e :: f :: g :: i :: j :: k :: l :: m :: n :: o :: p :: q :: some v :: r) H Q := ⟨v, rfl, h⟩
instance o_xv16 : One (tVar 16 (a :: b :: c :: d :: e :: f :: g :: i :: j :: k :: l :: m :: n :: o :: p :: q :: some v :: r) H Q) (Q v H) := ⟨xv16⟩
theorem sk17 (h : N (a :: b :: c :: d :: e :: f :: g :: i :: j :: k :: l :: m :: n :: o :: p :: q :: a1 :: some v :: r) H) : SetK (a :: b :: c :: d :: e :: f :: g :: i :: j :: k :: l :: m :: n :: o :: p :: q :: a1 :: b1 :: r) 17 v N H := h
instance o_sk17 : One (SetK (a :: b :: c :: d :: e :: f :: g :: i :: j :: k :: l :: m :: n :: o :: p :: q :: a1 :: b1 :: r) 17 v N H) (N (a :: b :: c :: d :: e :: f :: g :: i :: j :: k :: l :: m :: n :: o :: p :: q :: a1 :: some v :: r) H) := ⟨sk17⟩
theorem xv17 (h : Q v H) : tVar 17 (a :: b :: c :: d :: e :: f :: g :: i :: j :: k :: l :: m :: n :: o :: p :: q :: a1 :: some v :: r) H Q := ⟨v, rfl, h⟩
instance o_xv17 : One (tVar 17 (a :: b :: c :: d :: e :: f :: g :: i :: j :: k :: l :: m :: n :: o :: p :: q :: a1 :: some v :: r) H Q) (Q v H) := ⟨xv17⟩
theorem sk18 (h : N (a :: b :: c :: d :: e :: f :: g :: i :: j :: k :: l :: m :: n :: o :: p :: q :: a1 :: b1 :: some v :: r) H) : SetK (a :: b :: c :: d :: e :: f :: g :: i :: j :: k :: l :: m :: n :: o :: p :: q :: a1 :: b1 :: c1 :: r) 18 v N H := h
instance o_sk18 : One (SetK (a :: b :: c :: d :: e :: f :: g :: i :: j :: k :: l :: m :: n :: o :: p :: q :: a1 :: b1 :: c1 :: r) 18 v N H) (N (a :: b :: c :: d :: e :: f :: g :: i :: j :: k :: l :: m :: n :: o :: p :: q :: a1 :: b1 :: some v :: r) H) := ⟨sk18⟩
theorem xv18 (h : Q v H) : tVar 18 (a :: b :: c :: d :: e :: f :: g :: i :: j :: k :: l :: m :: n :: o :: p :: q :: a1 :: b1 :: some v :: r) H Q := ⟨v, rfl, h⟩
instance o_xv18 : One (tVar 18 (a :: b :: c :: d :: e :: f :: g :: i :: j :: k :: l :: m :: n :: o :: p :: q :: a1 :: b1 :: some v :: r) H Q) (Q v H) := ⟨xv18⟩
theorem sk19 (h : N (a :: b :: c :: d :: e :: f :: g :: i :: j :: k :: l :: m :: n :: o :: p :: q :: a1 :: b1 :: c1 :: some v :: r) H) : SetK (a :: b :: c :: d :: e :: f :: g :: i :: j :: k :: l :: m :: n :: o :: p :: q :: a1 :: b1 :: c1 :: d1 :: r) 19 v N H := h
instance o_sk19 : One (SetK (a :: b :: c :: d :: e :: f :: g :: i :: j :: k :: l :: m :: n :: o :: p :: q :: a1 :: b1 :: c1 :: d1 :: r) 19 v N H) (N (a :: b :: c :: d :: e :: f :: g :: i :: j :: k :: l :: m :: n :: o :: p :: q :: a1 :: b1 :: c1 :: some v :: r) H) := ⟨sk19⟩
theorem xv19 (h : Q v H) : tVar 19 (a :: b :: c :: d :: e :: f :: g :: i :: j :: k :: l :: m :: n :: o :: p :: q :: a1 :: b1 :: c1 :: some v :: r) H Q := ⟨v, rfl, h⟩
instance o_xv19 : One (tVar 19 (a :: b :: c :: d :: e :: f :: g :: i :: j :: k :: l :: m :: n :: o :: p :: q :: a1 :: b1 :: c1 :: some v :: r) H Q) (Q v H) := ⟨xv19⟩
theorem sk20 (h : N (a :: b :: c :: d :: e :: f :: g :: i :: j :: k :: l :: m :: n :: o :: p :: q :: a1 :: b1 :: c1 :: d1 :: some v :: r) H) : SetK (a :: b :: c :: d :: e :: f :: g :: i :: j :: k :: l :: m :: n :: o :: p :: q :: a1 :: b1 :: c1 :: d1 :: e1 :: r) 20 v N H := h
instance o_sk20 : One (SetK (a :: b :: c :: d :: e :: f :: g :: i :: j :: k :: l :: m :: n :: o :: p :: q :: a1 :: b1 :: c1 :: d1 :: e1 :: r) 20 v N H) (N (a :: b :: c :: d :: e :: f :: g :: i :: j :: k :: l :: m :: n :: o :: p :: q :: a1 :: b1 :: c1 :: d1 :: some v :: r) H) := ⟨sk20⟩
theorem xv20 (h : Q v H) : tVar 20 (a :: b :: c :: d :: e :: f :: g :: i :: j :: k :: l :: m :: n :: o :: p :: q :: a1 :: b1 :: c1 :: d1 :: some v :: r) H Q := ⟨v, rfl, h⟩
instance o_xv20 : One (tVar 20 (a :: b :: c :: d :: e :: f :: g :: i :: j :: k :: l :: m :: n :: o :: p :: q :: a1 :: b1 :: c1 :: d1 :: some v :: r) H Q) (Q v H) := ⟨xv20⟩
theorem sk21 (h : N (a :: b :: c :: d :: e :: f :: g :: i :: j :: k :: l :: m :: n :: o :: p :: q :: a1 :: b1 :: c1 :: d1 :: e1 :: some v :: r) H) : SetK (a :: b :: c :: d :: e :: f :: g :: i :: j :: k :: l :: m :: n :: o :: p :: q :: a1 :: b1 :: c1 :: d1 :: e1 :: f1 :: r) 21 v N H := h
instance o_sk21 : One (SetK (a :: b :: c :: d :: e :: f :: g :: i :: j :: k :: l :: m :: n :: o :: p :: q :: a1 :: b1 :: c1 :: d1 :: e1 :: f1 :: r) 21 v N H) (N (a :: b :: c :: d :: e :: f :: g :: i :: j :: k :: l :: m :: n :: o :: p :: q :: a1 :: b1 :: c1 :: d1 :: e1 :: some v :: r) H) := ⟨sk21⟩
theorem xv21 (h : Q v H) : tVar 21 (a :: b :: c :: d :: e :: f :: g :: i :: j :: k :: l :: m :: n :: o :: p :: q :: a1 :: b1 :: c1 :: d1 :: e1 :: some v :: r) H Q := ⟨v, rfl, h⟩
instance o_xv21 : One (tVar 21 (a :: b :: c :: d :: e :: f :: g :: i :: j :: k :: l :: m :: n :: o :: p :: q :: a1 :: b1 :: c1 :: d1 :: e1 :: some v :: r) H Q) (Q v H) := ⟨xv21⟩
theorem sk22 (h : N (a :: b :: c :: d :: e :: f :: g :: i :: j :: k :: l :: m :: n :: o :: p :: q :: a1 :: b1 :: c1 :: d1 :: e1 :: f1 :: some v :: r) H) : SetK (a :: b :: c :: d :: e :: f :: g :: i :: j :: k :: l :: m :: n :: o :: p :: q :: a1 :: b1 :: c1 :: d1 :: e1 :: f1 :: g1 :: r) 22 v N H := h
instance o_sk22 : One (SetK (a :: b :: c :: d :: e :: f :: g :: i :: j :: k :: l :: m :: n :: o :: p :: q :: a1 :: b1 :: c1 :: d1 :: e1 :: f1 :: g1 :: r) 22 v N H) (N (a :: b :: c :: d :: e :: f :: g :: i :: j :: k :: l :: m :: n :: o :: p :: q :: a1 :: b1 :: c1 :: d1 :: e1 :: f1 :: some v :: r) H) := ⟨sk22⟩
theorem xv22 (h : Q v H) : tVar 22 (a :: b :: c :: d :: e :: f :: g :: i :: j :: k :: l :: m :: n :: o :: p :: q :: a1 :: b1 :: c1 :: d1 :: e1 :: f1 :: some v :: r) H Q := ⟨v, rfl, h⟩
instance o_xv22 : One (tVar 22 (a :: b :: c :: d :: e :: f :: g :: i :: j :: k :: l :: m :: n :: o :: p :: q :: a1 :: b1 :: c1 :: d1 :: e1 :: f1 :: some v :: r) H Q) (Q v H) := ⟨xv22⟩
theorem sk23 (h : N (a :: b :: c :: d :: e :: f :: g :: i :: j :: k :: l :: m :: n :: o :: p :: q :: a1 :: b1 :: c1 :: d1 :: e1 :: f1 :: g1 :: some v :: r) H) : SetK (a :: b :: c :: d :: e :: f :: g :: i :: j :: k :: l :: m :: n :: o :: p :: q :: a1 :: b1 :: c1 :: d1 :: e1 :: f1 :: g1 :: i1 :: r) 23 v N H := h
instance o_sk23 : One (SetK (a :: b :: c :: d :: e :: f :: g :: i :: j :: k :: l :: m :: n :: o :: p :: q :: a1 :: b1 :: c1 :: d1 :: e1 :: f1 :: g1 :: i1 :: r) 23 v N H) (N (a :: b :: c :: d :: e :: f :: g :: i :: j :: k :: l :: m :: n :: o :: p :: q :: a1 :: b1 :: c1 :: d1 :: e1 :: f1 :: g1 :: some v :: r) H) := ⟨sk23⟩
theorem xv23 (h : Q v H) : tVar 23 (a :: b :: c :: d :: e :: f :: g :: i :: j :: k :: l :: m :: n :: o :: p :: q :: a1 :: b1 :: c1 :: d1 :: e1 :: f1 :: g1 :: some v :: r) H Q := ⟨v, rfl, h⟩
instance o_xv23 : One (tVar 23 (a :: b :: c :: d :: e :: f :: g :: i :: j :: k :: l :: m :: n :: o :: p :: q :: a1 :: b1 :: c1 :: d1 :: e1 :: f1 :: g1 :: some v :: r) H Q) (Q v H) := ⟨xv23⟩
end
section
open PySem L2
variable {c0 c1 c2 c3 c4 c5 c6 c7 c8 c9 c10 c11 c12 c13 c14 c15 c16 c17 c18 c19 c20 c21 c22 c23 c24 c25 c26 c27 c28 c29 c30 c31 c32 c33 c34 c35 c36 c37 c38 c39 c40 : Option V} {v : V} {r : L2.St} {H : Hp} {N : L2.St → Hp → Prop} {Q : VK}
theorem sk24 (h : N (c0 :: c1 :: c2 :: c3 :: c4 :: c5 :: c6 :: c7 :: c8 :: c9 :: c10 :: c11 :: c12 :: c13 :: c14 :: c15 :: c16 :: c17 :: c18 :: c19 :: c20 :: c21 :: c22 :: c23 :: some v :: r) H) : SetK (c0 :: c1 :: c2 :: c3 :: c4 :: c5 :: c6 :: c7 :: c8 :: c9 :: c10 :: c11 :: c12 :: c13 :: c14 :: c15 :: c16 :: c17 :: c18 :: c19 :: c20 :: c21 :: c22 :: c23 :: c24 :: r) 24 v N H := h
instance o_sk24 : One (SetK (c0 :: c1 :: c2 :: c3 :: c4 :: c5 :: c6 :: c7 :: c8 :: c9 :: c10 :: c11 :: c12 :: c13 :: c14 :: c15 :: c16 :: c17 :: c18 :: c19 :: c20 :: c21 :: c22 :: c23 :: c24 :: r) 24 v N H) (N (c0 :: c1 :: c2 :: c3 :: c4 :: c5 :: c6 :: c7 :: c8 :: c9 :: c10 :: c11 :: c12 :: c13 :: c14 :: c15 :: c16 :: c17 :: c18 :: c19 :: c20 :: c21 :: c22 :: c23 :: some v :: r) H) := ⟨sk24⟩
theorem xv24 (h : Q v H) : tVar 24 (c0 :: c1 :: c2 :: c3 :: c4 :: c5 :: c6 :: c7 :: c8 :: c9 :: c10 :: c11 :: c12 :: c13 :: c14 :: c15 :: c16 :: c17 :: c18 :: c19 :: c20 :: c21 :: c22 :: c23 :: some v :: r) H Q := ⟨v, rfl, h⟩
instance o_xv24 : One (tVar 24 (c0 :: c1 :: c2 :: c3 :: c4 :: c5 :: c6 :: c7 :: c8 :: c9 :: c10 :: c11 :: c12 :: c13 :: c14 :: c15 :: c16 :: c17 :: c18 :: c19 :: c20 :: c21 :: c22 :: c23 :: some v :: r) H Q) (Q v H) := ⟨xv24⟩
theorem sk25 (h : N (c0 :: c1 :: c2 :: c3 :: c4 :: c5 :: c6 :: c7 :: c8 :: c9 :: c10 :: c11 :: c12 :: c13 :: c14 :: c15 :: c16 :: c17 :: c18 :: c19 :: c20 :: c21 :: c22 :: c23 :: c24 :: some v :: r) H) : SetK (c0 :: c1 :: c2 :: c3 :: c4 :: c5 :: c6 :: c7 :: c8 :: c9 :: c10 :: c11 :: c12 :: c13 :: c14 :: c15 :: c16 :: c17 :: c18 :: c19 :: c20 :: c21 :: c22 :: c23 :: c24 :: c25 :: r) 25 v N H := h
instance o_sk25 : One (SetK (c0 :: c1 :: c2 :: c3 :: c4 :: c5 :: c6 :: c7 :: c8 :: c9 :: c10 :: c11 :: c12 :: c13 :: c14 :: c15 :: c16 :: c17 :: c18 :: c19 :: c20 :: c21 :: c22 :: c23 :: c24 :: c25 :: r) 25 v N H) (N (c0 :: c1 :: c2 :: c3 :: c4 :: c5 :: c6 :: c7 :: c8 :: c9 :: c10 :: c11 :: c12 :: c13 :: c14 :: c15 :: c16 :: c17 :: c18 :: c19 :: c20 :: c21 :: c22 :: c23 :: c24 :: some v :: r) H) := ⟨sk25⟩
theorem xv25 (h : Q v H) : tVar 25 (c0 :: c1 :: c2 :: c3 :: c4 :: c5 :: c6 :: c7 :: c8 :: c9 :: c10 :: c11 :: c12 :: c13 :: c14 :: c15 :: c16 :: c17 :: c18 :: c19 :: c20 :: c21 :: c22 :: c23 :: c24 :: some v :: r) H Q := ⟨v, rfl, h⟩
instance o_xv25 : One (tVar 25 (c0 :: c1 :: c2 :: c3 :: c4 :: c5 :: c6 :: c7 :: c8 :: c9 :: c10 :: c11 :: c12 :: c13 :: c14 :: c15 :: c16 :: c17 :: c18 :: c19 :: c20 :: c21 :: c22 :: c23 :: c24 :: some v :: r) H Q) (Q v H) := ⟨xv25⟩
theorem sk26 (h : N (c0 :: c1 :: c2 :: c3 :: c4 :: c5 :: c6 :: c7 :: c8 :: c9 :: c10 :: c11 :: c12 :: c13 :: c14 :: c15 :: c16 :: c17 :: c18 :: c19 :: c20 :: c21 :: c22 :: c23 :: c24 :: c25 :: some v :: r) H) : SetK (c0 :: c1 :: c2 :: c3 :: c4 :: c5 :: c6 :: c7 :: c8 :: c9 :: c10 :: c11 :: c12 :: c13 :: c14 :: c15 :: c16 :: c17 :: c18 :: c19 :: c20 :: c21 :: c22 :: c23 :: c24 :: c25 :: c26 :: r) 26 v N H := h
instance o_sk26 : One (SetK (c0 :: c1 :: c2 :: c3 :: c4 :: c5 :: c6 :: c7 :: c8 :: c9 :: c10 :: c11 :: c12 :: c13 :: c14 :: c15 :: c16 :: c17 :: c18 :: c19 :: c20 :: c21 :: c22 :: c23 :: c24 :: c25 :: c26 :: r) 26 v N H) (N (c0 :: c1 :: c2 :: c3 :: c4 :: c5 :: c6 :: c7 :: c8 :: c9 :: c10 :: c11 :: c12 :: c13 :: c14 :: c15 :: c16 :: c17 :: c18 :: c19 :: c20 :: c21 :: c22 :: c23 :: c24 :: c25 :: some v :: r) H) := ⟨sk26⟩
theorem xv26 (h : Q v H) : tVar 26 (c0 :: c1 :: c2 :: c3 :: c4 :: c5 :: c6 :: c7 :: c8 :: c9 :: c10 :: c11 :: c12 :: c13 :: c14 :: c15 :: c16 :: c17 :: c18 :: c19 :: c20 :: c21 :: c22 :: c23 :: c24 :: c25 :: some v :: r) H Q := ⟨v, rfl, h⟩
instance o_xv26 : One (tVar 26 (c0 :: c1 :: c2 :: c3 :: c4 :: c5 :: c6 :: c7 :: c8 :: c9 :: c10 :: c11 :: c12 :: c13 :: c14 :: c15 :: c16 :: c17 :: c18 :: c19 :: c20 :: c21 :: c22 :: c23 :: c24 :: c25 :: some v :: r) H Q) (Q v H) := ⟨xv26⟩
theorem sk27 (h : N (c0 :: c1 :: c2 :: c3 :: c4 :: c5 :: c6 :: c7 :: c8 :: c9 :: c10 :: c11 :: c12 :: c13 :: c14 :: c15 :: c16 :: c17 :: c18 :: c19 :: c20 :: c21 :: c22 :: c23 :: c24 :: c25 :: c26 :: some v :: r) H) : SetK (c0 :: c1 :: c2 :: c3 :: c4 :: c5 :: c6 :: c7 :: c8 :: c9 :: c10 :: c11 :: c12 :: c13 :: c14 :: c15 :: c16 :: c17 :: c18 :: c19 :: c20 :: c21 :: c22 :: c23 :: c24 :: c25 :: c26 :: c27 :: r) 27 v N H := h
instance o_sk27 : One (SetK (c0 :: c1 :: c2 :: c3 :: c4 :: c5 :: c6 :: c7 :: c8 :: c9 :: c10 :: c11 :: c12 :: c13 :: c14 :: c15 :: c16 :: c17 :: c18 :: c19 :: c20 :: c21 :: c22 :: c23 :: c24 :: c25 :: c26 :: c27 :: r) 27 v N H) (N (c0 :: c1 :: c2 :: c3 :: c4 :: c5 :: c6 :: c7 :: c8 :: c9 :: c10 :: c11 :: c12 :: c13 :: c14 :: c15 :: c16 :: c17 :: c18 :: c19 :: c20 :: c21 :: c22 :: c23 :: c24 :: c25 :: c26 :: some v :: r) H) := ⟨sk27⟩
theorem xv27 (h : Q v H) : tVar 27 (c0 :: c1 :: c2 :: c3 :: c4 :: c5 :: c6 :: c7 :: c8 :: c9 :: c10 :: c11 :: c12 :: c13 :: c14 :: c15 :: c16 :: c17 :: c18 :: c19 :: c20 :: c21 :: c22 :: c23 :: c24 :: c25 :: c26 :: some v :: r) H Q := ⟨v, rfl, h⟩
instance o_xv27 : One (tVar 27 (c0 :: c1 :: c2 :: c3 :: c4 :: c5 :: c6 :: c7 :: c8 :: c9 :: c10 :: c11 :: c12 :: c13 :: c14 :: c15 :: c16 :: c17 :: c18 :: c19 :: c20 :: c21 :: c22 :: c23 :: c24 :: c25 :: c26 :: some v :: r) H Q) (Q v H) := ⟨xv27⟩
theorem sk28 (h : N (c0 :: c1 :: c2 :: c3 :: c4 :: c5 :: c6 :: c7 :: c8 :: c9 :: c10 :: c11 :: c12 :: c13 :: c14 :: c15 :: c16 :: c17 :: c18 :: c19 :: c20 :: c21 :: c22 :: c23 :: c24 :: c25 :: c26 :: c27 :: some v :: r) H) : SetK (c0 :: c1 :: c2 :: c3 :: c4 :: c5 :: c6 :: c7 :: c8 :: c9 :: c10 :: c11 :: c12 :: c13 :: c14 :: c15 :: c16 :: c17 :: c18 :: c19 :: c20 :: c21 :: c22 :: c23 :: c24 :: c25 :: c26 :: c27 :: c28 :: r) 28 v N H := h
instance o_sk28 : One (SetK (c0 :: c1 :: c2 :: c3 :: c4 :: c5 :: c6 :: c7 :: c8 :: c9 :: c10 :: c11 :: c12 :: c13 :: c14 :: c15 :: c16 :: c17 :: c18 :: c19 :: c20 :: c21 :: c22 :: c23 :: c24 :: c25 :: c26 :: c27 :: c28 :: r) 28 v N H) (N (c0 :: c1 :: c2 :: c3 :: c4 :: c5 :: c6 :: c7 :: c8 :: c9 :: c10 :: c11 :: c12 :: c13 :: c14 :: c15 :: c16 :: c17 :: c18 :: c19 :: c20 :: c21 :: c22 :: c23 :: c24 :: c25 :: c26 :: c27 :: some v :: r) H) := ⟨sk28⟩
theorem xv28 (h : Q v H) : tVar 28 (c0 :: c1 :: c2 :: c3 :: c4 :: c5 :: c6 :: c7 :: c8 :: c9 :: c10 :: c11 :: c12 :: c13 :: c14 :: c15 :: c16 :: c17 :: c18 :: c19 :: c20 :: c21 :: c22 :: c23 :: c24 :: c25 :: c26 :: c27 :: some v :: r) H Q := ⟨v, rfl, h⟩
instance o_xv28 : One (tVar 28 (c0 :: c1 :: c2 :: c3 :: c4 :: c5 :: c6 :: c7 :: c8 :: c9 :: c10 :: c11 :: c12 :: c13 :: c14 :: c15 :: c16 :: c17 :: c18 :: c19 :: c20 :: c21 :: c22 :: c23 :: c24 :: c25 :: c26 :: c27 :: some v :: r) H Q) (Q v H) := ⟨xv28⟩
theorem sk29 (h : N (c0 :: c1 :: c2 :: c3 :: c4 :: c5 :: c6 :: c7 :: c8 :: c9 :: c10 :: c11 :: c12 :: c13 :: c14 :: c15 :: c16 :: c17 :: c18 :: c19 :: c20 :: c21 :: c22 :: c23 :: c24 :: c25 :: c26 :: c27 :: c28 :: some v :: r) H) : SetK (c0 :: c1 :: c2 :: c3 :: c4 :: c5 :: c6 :: c7 :: c8 :: c9 :: c10 :: c11 :: c12 :: c13 :: c14 :: c15 :: c16 :: c17 :: c18 :: c19 :: c20 :: c21 :: c22 :: c23 :: c24 :: c25 :: c26 :: c27 :: c28 :: c29 :: r) 29 v N H := h
instance o_sk29 : One (SetK (c0 :: c1 :: c2 :: c3 :: c4 :: c5 :: c6 :: c7 :: c8 :: c9 :: c10 :: c11 :: c12 :: c13 :: c14 :: c15 :: c16 :: c17 :: c18 :: c19 :: c20 :: c21 :: c22 :: c23 :: c24 :: c25 :: c26 :: c27 :: c28 :: c29 :: r) 29 v N H) (N (c0 :: c1 :: c2 :: c3 :: c4 :: c5 :: c6 :: c7 :: c8 :: c9 :: c10 :: c11 :: c12 :: c13 :: c14 :: c15 :: c16 :: c17 :: c18 :: c19 :: c20 :: c21 :: c22 :: c23 :: c24 :: c25 :: c26 :: c27 :: c28 :: some v :: r) H) := ⟨sk29⟩
theorem xv29 (h : Q v H) : tVar 29 (c0 :: c1 :: c2 :: c3 :: c4 :: c5 :: c6 :: c7 :: c8 :: c9 :: c10 :: c11 :: c12 :: c13 :: c14 :: c15 :: c16 :: c17 :: c18 :: c19 :: c20 :: c21 :: c22 :: c23 :: c24 :: c25 :: c26 :: c27 :: c28 :: some v :: r) H Q := ⟨v, rfl, h⟩
instance o_xv29 : One (tVar 29 (c0 :: c1 :: c2 :: c3 :: c4 :: c5 :: c6 :: c7 :: c8 :: c9 :: c10 :: c11 :: c12 :: c13 :: c14 :: c15 :: c16 :: c17 :: c18 :: c19 :: c20 :: c21 :: c22 :: c23 :: c24 :: c25 :: c26 :: c27 :: c28 :: some v :: r) H Q) (Q v H) := ⟨xv29⟩
theorem sk30 (h : N (c0 :: c1 :: c2 :: c3 :: c4 :: c5 :: c6 :: c7 :: c8 :: c9 :: c10 :: c11 :: c12 :: c13 :: c14 :: c15 :: c16 :: c17 :: c18 :: c19 :: c20 :: c21 :: c22 :: c23 :: c24 :: c25 :: c26 :: c27 :: c28 :: c29 :: some v :: r) H) : SetK (c0 :: c1 :: c2 :: c3 :: c4 :: c5 :: c6 :: c7 :: c8 :: c9 :: c10 :: c11 :: c12 :: c13 :: c14 :: c15 :: c16 :: c17 :: c18 :: c19 :: c20 :: c21 :: c22 :: c23 :: c24 :: c25 :: c26 :: c27 :: c28 :: c29 :: c30 :: r) 30 v N H := h
instance o_sk30 : One (SetK (c0 :: c1 :: c2 :: c3 :: c4 :: c5 :: c6 :: c7 :: c8 :: c9 :: c10 :: c11 :: c12 :: c13 :: c14 :: c15 :: c16 :: c17 :: c18 :: c19 :: c20 :: c21 :: c22 :: c23 :: c24 :: c25 :: c26 :: c27 :: c28 :: c29 :: c30 :: r) 30 v N H) (N (c0 :: c1 :: c2 :: c3 :: c4 :: c5 :: c6 :: c7 :: c8 :: c9 :: c10 :: c11 :: c12 :: c13 :: c14 :: c15 :: c16 :: c17 :: c18 :: c19 :: c20 :: c21 :: c22 :: c23 :: c24 :: c25 :: c26 :: c27 :: c28 :: c29 :: some v :: r) H) := ⟨sk30⟩
theorem xv30 (h : Q v H) : tVar 30 (c0 :: c1 :: c2 :: c3 :: c4 :: c5 :: c6 :: c7 :: c8 :: c9 :: c10 :: c11 :: c12 :: c13 :: c14 :: c15 :: c16 :: c17 :: c18 :: c19 :: c20 :: c21 :: c22 :: c23 :: c24 :: c25 :: c26 :: c27 :: c28 :: c29 :: some v :: r) H Q := ⟨v, rfl, h⟩
instance o_xv30 : One (tVar 30 (c0 :: c1 :: c2 :: c3 :: c4 :: c5 :: c6 :: c7 :: c8 :: c9 :: c10 :: c11 :: c12 :: c13 :: c14 :: c15 :: c16 :: c17 :: c18 :: c19 :: c20 :: c21 :: c22 :: c23 :: c24 :: c25 :: c26 :: c27 :: c28 :: c29 :: some v :: r) H Q) (Q v H) := ⟨xv30⟩
theorem sk31 (h : N (c0 :: c1 :: c2 :: c3 :: c4 :: c5 :: c6 :: c7 :: c8 :: c9 :: c10 :: c11 :: c12 :: c13 :: c14 :: c15 :: c16 :: c17 :: c18 :: c19 :: c20 :: c21 :: c22 :: c23 :: c24 :: c25 :: c26 :: c27 :: c28 :: c29 :: c30 :: some v :: r) H) : SetK (c0 :: c1 :: c2 :: c3 :: c4 :: c5 :: c6 :: c7 :: c8 :: c9 :: c10 :: c11 :: c12 :: c13 :: c14 :: c15 :: c16 :: c17 :: c18 :: c19 :: c20 :: c21 :: c22 :: c23 :: c24 :: c25 :: c26 :: c27 :: c28 :: c29 :: c30 :: c31 :: r) 31 v N H := h
instance o_sk31 : One (SetK (c0 :: c1 :: c2 :: c3 :: c4 :: c5 :: c6 :: c7 :: c8 :: c9 :: c10 :: c11 :: c12 :: c13 :: c14 :: c15 :: c16 :: c17 :: c18 :: c19 :: c20 :: c21 :: c22 :: c23 :: c24 :: c25 :: c26 :: c27 :: c28 :: c29 :: c30 :: c31 :: r) 31 v N H) (N (c0 :: c1 :: c2 :: c3 :: c4 :: c5 :: c6 :: c7 :: c8 :: c9 :: c10 :: c11 :: c12 :: c13 :: c14 :: c15 :: c16 :: c17 :: c18 :: c19 :: c20 :: c21 :: c22 :: c23 :: c24 :: c25 :: c26 :: c27 :: c28 :: c29 :: c30 :: some v :: r) H) := ⟨sk31⟩
theorem xv31 (h : Q v H) : tVar 31 (c0 :: c1 :: c2 :: c3 :: c4 :: c5 :: c6 :: c7 :: c8 :: c9 :: c10 :: c11 :: c12 :: c13 :: c14 :: c15 :: c16 :: c17 :: c18 :: c19 :: c20 :: c21 :: c22 :: c23 :: c24 :: c25 :: c26 :: c27 :: c28 :: c29 :: c30 :: some v :: r) H Q := ⟨v, rfl, h⟩
instance o_xv31 : One (tVar 31 (c0 :: c1 :: c2 :: c3 :: c4 :: c5 :: c6 :: c7 :: c8 :: c9 :: c10 :: c11 :: c12 :: c13 :: c14 :: c15 :: c16 :: c17 :: c18 :: c19 :: c20 :: c21 :: c22 :: c23 :: c24 :: c25 :: c26 :: c27 :: c28 :: c29 :: c30 :: some v :: r) H Q) (Q v H) := ⟨xv31⟩
theorem sk32 (h : N (c0 :: c1 :: c2 :: c3 :: c4 :: c5 :: c6 :: c7 :: c8 :: c9 :: c10 :: c11 :: c12 :: c13 :: c14 :: c15 :: c16 :: c17 :: c18 :: c19 :: c20 :: c21 :: c22 :: c23 :: c24 :: c25 :: c26 :: c27 :: c28 :: c29 :: c30 :: c31 :: some v :: r) H) : SetK (c0 :: c1 :: c2 :: c3 :: c4 :: c5 :: c6 :: c7 :: c8 :: c9 :: c10 :: c11 :: c12 :: c13 :: c14 :: c15 :: c16 :: c17 :: c18 :: c19 :: c20 :: c21 :: c22 :: c23 :: c24 :: c25 :: c26 :: c27 :: c28 :: c29 :: c30 :: c31 :: c32 :: r) 32 v N H := h
instance o_sk32 : One (SetK (c0 :: c1 :: c2 :: c3 :: c4 :: c5 :: c6 :: c7 :: c8 :: c9 :: c10 :: c11 :: c12 :: c13 :: c14 :: c15 :: c16 :: c17 :: c18 :: c19 :: c20 :: c21 :: c22 :: c23 :: c24 :: c25 :: c26 :: c27 :: c28 :: c29 :: c30 :: c31 :: c32 :: r) 32 v N H) (N (c0 :: c1 :: c2 :: c3 :: c4 :: c5 :: c6 :: c7 :: c8 :: c9 :: c10 :: c11 :: c12 :: c13 :: c14 :: c15 :: c16 :: c17 :: c18 :: c19 :: c20 :: c21 :: c22 :: c23 :: c24 :: c25 :: c26 :: c27 :: c28 :: c29 :: c30 :: c31 :: some v :: r) H) := ⟨sk32⟩
theorem xv32 (h : Q v H) : tVar 32 (c0 :: c1 :: c2 :: c3 :: c4 :: c5 :: c6 :: c7 :: c8 :: c9 :: c10 :: c11 :: c12 :: c13 :: c14 :: c15 :: c16 :: c17 :: c18 :: c19 :: c20 :: c21 :: c22 :: c23 :: c24 :: c25 :: c26 :: c27 :: c28 :: c29 :: c30 :: c31 :: some v :: r) H Q := ⟨v, rfl, h⟩
instance o_xv32 : One (tVar 32 (c0 :: c1 :: c2 :: c3 :: c4 :: c5 :: c6 :: c7 :: c8 :: c9 :: c10 :: c11 :: c12 :: c13 :: c14 :: c15 :: c16 :: c17 :: c18 :: c19 :: c20 :: c21 :: c22 :: c23 :: c24 :: c25 :: c26 :: c27 :: c28 :: c29 :: c30 :: c31 :: some v :: r) H Q) (Q v H) := ⟨xv32⟩
theorem sk33 (h : N (c0 :: c1 :: c2 :: c3 :: c4 :: c5 :: c6 :: c7 :: c8 :: c9 :: c10 :: c11 :: c12 :: c13 :: c14 :: c15 :: c16 :: c17 :: c18 :: c19 :: c20 :: c21 :: c22 :: c23 :: c24 :: c25 :: c26 :: c27 :: c28 :: c29 :: c30 :: c31 :: c32 :: some v :: r) H) : SetK (c0 :: c1 :: c2 :: c3 :: c4 :: c5 :: c6 :: c7 :: c8 :: c9 :: c10 :: c11 :: c12 :: c13 :: c14 :: c15 :: c16 :: c17 :: c18 :: c19 :: c20 :: c21 :: c22 :: c23 :: c24 :: c25 :: c26 :: c27 :: c28 :: c29 :: c30 :: c31 :: c32 :: c33 :: r) 33 v N H := h
instance o_sk33 : One (SetK (c0 :: c1 :: c2 :: c3 :: c4 :: c5 :: c6 :: c7 :: c8 :: c9 :: c10 :: c11 :: c12 :: c13 :: c14 :: c15 :: c16 :: c17 :: c18 :: c19 :: c20 :: c21 :: c22 :: c23 :: c24 :: c25 :: c26 :: c27 :: c28 :: c29 :: c30 :: c31 :: c32 :: c33 :: r) 33 v N H) (N (c0 :: c1 :: c2 :: c3 :: c4 :: c5 :: c6 :: c7 :: c8 :: c9 :: c10 :: c11 :: c12 :: c13 :: c14 :: c15 :: c16 :: c17 :: c18 :: c19 :: c20 :: c21 :: c22 :: c23 :: c24 :: c25 :: c26 :: c27 :: c28 :: c29 :: c30 :: c31 :: c32 :: some v :: r) H) := ⟨sk33⟩
theorem xv33 (h : Q v H) : tVar 33 (c0 :: c1 :: c2 :: c3 :: c4 :: c5 :: c6 :: c7 :: c8 :: c9 :: c10 :: c11 :: c12 :: c13 :: c14 :: c15 :: c16 :: c17 :: c18 :: c19 :: c20 :: c21 :: c22 :: c23 :: c24 :: c25 :: c26 :: c27 :: c28 :: c29 :: c30 :: c31 :: c32 :: some v :: r) H Q := ⟨v, rfl, h⟩
instance o_xv33 : One (tVar 33 (c0 :: c1 :: c2 :: c3 :: c4 :: c5 :: c6 :: c7 :: c8 :: c9 :: c10 :: c11 :: c12 :: c13 :: c14 :: c15 :: c16 :: c17 :: c18 :: c19 :: c20 :: c21 :: c22 :: c23 :: c24 :: c25 :: c26 :: c27 :: c28 :: c29 :: c30 :: c31 :: c32 :: some v :: r) H Q) (Q v H) := ⟨xv33⟩
theorem sk34 (h : N (c0 :: c1 :: c2 :: c3 :: c4 :: c5 :: c6 :: c7 :: c8 :: c9 :: c10 :: c11 :: c12 :: c13 :: c14 :: c15 :: c16 :: c17 :: c18 :: c19 :: c20 :: c21 :: c22 :: c23 :: c24 :: c25 :: c26 :: c27 :: c28 :: c29 :: c30 :: c31 :: c32 :: c33 :: some v :: r) H) : SetK (c0 :: c1 :: c2 :: c3 :: c4 :: c5 :: c6 :: c7 :: c8 :: c9 :: c10 :: c11 :: c12 :: c13 :: c14 :: c15 :: c16 :: c17 :: c18 :: c19 :: c20 :: c21 :: c22 :: c23 :: c24 :: c25 :: c26 :: c27 :: c28 :: c29 :: c30 :: c31 :: c32 :: c33 :: c34 :: r) 34 v N H := h
instance o_sk34 : One (SetK (c0 :: c1 :: c2 :: c3 :: c4 :: c5 :: c6 :: c7 :: c8 :: c9 :: c10 :: c11 :: c12 :: c13 :: c14 :: c15 :: c16 :: c17 :: c18 :: c19 :: c20 :: c21 :: c22 :: c23 :: c24 :: c25 :: c26 :: c27 :: c28 :: c29 :: c30 :: c31 :: c32 :: c33 :: c34 :: r) 34 v N H) (N (c0 :: c1 :: c2 :: c3 :: c4 :: c5 :: c6 :: c7 :: c8 :: c9 :: c10 :: c11 :: c12 :: c13 :: c14 :: c15 :: c16 :: c17 :: c18 :: c19 :: c20 :: c21 :: c22 :: c23 :: c24 :: c25 :: c26 :: c27 :: c28 :: c29 :: c30 :: c31 :: c32 :: c33 :: some v :: r) H) := ⟨sk34⟩
theorem xv34 (h : Q v H) : tVar 34 (c0 :: c1 :: c2 :: c3 :: c4 :: c5 :: c6 :: c7 :: c8 :: c9 :: c10 :: c11 :: c12 :: c13 :: c14 :: c15 :: c16 :: c17 :: c18 :: c19 :: c20 :: c21 :: c22 :: c23 :: c24 :: c25 :: c26 :: c27 :: c28 :: c29 :: c30 :: c31 :: c32 :: c33 :: some v :: r) H Q := ⟨v, rfl, h⟩
instance o_xv34 : One (tVar 34 (c0 :: c1 :: c2 :: c3 :: c4 :: c5 :: c6 :: c7 :: c8 :: c9 :: c10 :: c11 :: c12 :: c13 :: c14 :: c15 :: c16 :: c17 :: c18 :: c19 :: c20 :: c21 :: c22 :: c23 :: c24 :: c25 :: c26 :: c27 :: c28 :: c29 :: c30 :: c31 :: c32 :: c33 :: some v :: r) H Q) (Q v H) := ⟨xv34⟩
theorem sk35 (h : N (c0 :: c1 :: c2 :: c3 :: c4 :: c5 :: c6 :: c7 :: c8 :: c9 :: c10 :: c11 :: c12 :: c13 :: c14 :: c15 :: c16 :: c17 :: c18 :: c19 :: c20 :: c21 :: c22 :: c23 :: c24 :: c25 :: c26 :: c27 :: c28 :: c29 :: c30 :: c31 :: c32 :: c33 :: c34 :: some v :: r) H) : SetK (c0 :: c1 :: c2 :: c3 :: c4 :: c5 :: c6 :: c7 :: c8 :: c9 :: c10 :: c11 :: c12 :: c13 :: c14 :: c15 :: c16 :: c17 :: c18 :: c19 :: c20 :: c21 :: c22 :: c23 :: c24 :: c25 :: c26 :: c27 :: c28 :: c29 :: c30 :: c31 :: c32 :: c33 :: c34 :: c35 :: r) 35 v N H := h
instance o_sk35 : One (SetK (c0 :: c1 :: c2 :: c3 :: c4 :: c5 :: c6 :: c7 :: c8 :: c9 :: c10 :: c11 :: c12 :: c13 :: c14 :: c15 :: c16 :: c17 :: c18 :: c19 :: c20 :: c21 :: c22 :: c23 :: c24 :: c25 :: c26 :: c27 :: c28 :: c29 :: c30 :: c31 :: c32 :: c33 :: c34 :: c35 :: r) 35 v N H) (N (c0 :: c1 :: c2 :: c3 :: c4 :: c5 :: c6 :: c7 :: c8 :: c9 :: c10 :: c11 :: c12 :: c13 :: c14 :: c15 :: c16 :: c17 :: c18 :: c19 :: c20 :: c21 :: c22 :: c23 :: c24 :: c25 :: c26 :: c27 :: c28 :: c29 :: c30 :: c31 :: c32 :: c33 :: c34 :: some v :: r) H) := ⟨sk35⟩
theorem xv35 (h : Q v H) : tVar 35 (c0 :: c1 :: c2 :: c3 :: c4 :: c5 :: c6 :: c7 :: c8 :: c9 :: c10 :: c11 :: c12 :: c13 :: c14 :: c15 :: c16 :: c17 :: c18 :: c19 :: c20 :: c21 :: c22 :: c23 :: c24 :: c25 :: c26 :: c27 :: c28 :: c29 :: c30 :: c31 :: c32 :: c33 :: c34 :: some v :: r) H Q := ⟨v, rfl, h⟩
instance o_xv35 : One (tVar 35 (c0 :: c1 :: c2 :: c3 :: c4 :: c5 :: c6 :: c7 :: c8 :: c9 :: c10 :: c11 :: c12 :: c13 :: c14 :: c15 :: c16 :: c17 :: c18 :: c19 :: c20 :: c21 :: c22 :: c23 :: c24 :: c25 :: c26 :: c27 :: c28 :: c29 :: c30 :: c31 :: c32 :: c33 :: c34 :: some v :: r) H Q) (Q v H) := ⟨xv35⟩
theorem sk36 (h : N (c0 :: c1 :: c2 :: c3 :: c4 :: c5 :: c6 :: c7 :: c8 :: c9 :: c10 :: c11 :: c12 :: c13 :: c14 :: c15 :: c16 :: c17 :: c18 :: c19 :: c20 :: c21 :: c22 :: c23 :: c24 :: c25 :: c26 :: c27 :: c28 :: c29 :: c30 :: c31 :: c32 :: c33 :: c34 :: c35 :: some v :: r) H) : SetK (c0 :: c1 :: c2 :: c3 :: c4 :: c5 :: c6 :: c7 :: c8 :: c9 :: c10 :: c11 :: c12 :: c13 :: c14 :: c15 :: c16 :: c17 :: c18 :: c19 :: c20 :: c21 :: c22 :: c23 :: c24 :: c25 :: c26 :: c27 :: c28 :: c29 :: c30 :: c31 :: c32 :: c33 :: c34 :: c35 :: c36 :: r) 36 v N H := h
instance o_sk36 : One (SetK (c0 :: c1 :: c2 :: c3 :: c4 :: c5 :: c6 :: c7 :: c8 :: c9 :: c10 :: c11 :: c12 :: c13 :: c14 :: c15 :: c16 :: c17 :: c18 :: c19 :: c20 :: c21 :: c22 :: c23 :: c24 :: c25 :: c26 :: c27 :: c28 :: c29 :: c30 :: c31 :: c32 :: c33 :: c34 :: c35 :: c36 :: r) 36 v N H) (N (c0 :: c1 :: c2 :: c3 :: c4 :: c5 :: c6 :: c7 :: c8 :: c9 :: c10 :: c11 :: c12 :: c13 :: c14 :: c15 :: c16 :: c17 :: c18 :: c19 :: c20 :: c21 :: c22 :: c23 :: c24 :: c25 :: c26 :: c27 :: c28 :: c29 :: c30 :: c31 :: c32 :: c33 :: c34 :: c35 :: some v :: r) H) := ⟨sk36⟩
theorem xv36 (h : Q v H) : tVar 36 (c0 :: c1 :: c2 :: c3 :: c4 :: c5 :: c6 :: c7 :: c8 :: c9 :: c10 :: c11 :: c12 :: c13 :: c14 :: c15 :: c16 :: c17 :: c18 :: c19 :: c20 :: c21 :: c22 :: c23 :: c24 :: c25 :: c26 :: c27 :: c28 :: c29 :: c30 :: c31 :: c32 :: c33 :: c34 :: c35 :: some v :: r) H Q := ⟨v, rfl, h⟩
instance o_xv36 : One (tVar 36 (c0 :: c1 :: c2 :: c3 :: c4 :: c5 :: c6 :: c7 :: c8 :: c9 :: c10 :: c11 :: c12 :: c13 :: c14 :: c15 :: c16 :: c17 :: c18 :: c19 :: c20 :: c21 :: c22 :: c23 :: c24 :: c25 :: c26 :: c27 :: c28 :: c29 :: c30 :: c31 :: c32 :: c33 :: c34 :: c35 :: some v :: r) H Q) (Q v H) := ⟨xv36⟩
theorem sk37 (h : N (c0 :: c1 :: c2 :: c3 :: c4 :: c5 :: c6 :: c7 :: c8 :: c9 :: c10 :: c11 :: c12 :: c13 :: c14 :: c15 :: c16 :: c17 :: c18 :: c19 :: c20 :: c21 :: c22 :: c23 :: c24 :: c25 :: c26 :: c27 :: c28 :: c29 :: c30 :: c31 :: c32 :: c33 :: c34 :: c35 :: c36 :: some v :: r) H) : SetK (c0 :: c1 :: c2 :: c3 :: c4 :: c5 :: c6 :: c7 :: c8 :: c9 :: c10 :: c11 :: c12 :: c13 :: c14 :: c15 :: c16 :: c17 :: c18 :: c19 :: c20 :: c21 :: c22 :: c23 :: c24 :: c25 :: c26 :: c27 :: c28 :: c29 :: c30 :: c31 :: c32 :: c33 :: c34 :: c35 :: c36 :: c37 :: r) 37 v N H := h
instance o_sk37 : One (SetK (c0 :: c1 :: c2 :: c3 :: c4 :: c5 :: c6 :: c7 :: c8 :: c9 :: c10 :: c11 :: c12 :: c13 :: c14 :: c15 :: c16 :: c17 :: c18 :: c19 :: c20 :: c21 :: c22 :: c23 :: c24 :: c25 :: c26 :: c27 :: c28 :: c29 :: c30 :: c31 :: c32 :: c33 :: c34 :: c35 :: c36 :: c37 :: r) 37 v N H) (N (c0 :: c1 :: c2 :: c3 :: c4 :: c5 :: c6 :: c7 :: c8 :: c9 :: c10 :: c11 :: c12 :: c13 :: c14 :: c15 :: c16 :: c17 :: c18 :: c19 :: c20 :: c21 :: c22 :: c23 :: c24 :: c25 :: c26 :: c27 :: c28 :: c29 :: c30 :: c31 :: c32 :: c33 :: c34 :: c35 :: c36 :: some v :: r) H) := ⟨sk37⟩
theorem xv37 (h : Q v H) : tVar 37 (c0 :: c1 :: c2 :: c3 :: c4 :: c5 :: c6 :: c7 :: c8 :: c9 :: c10 :: c11 :: c12 :: c13 :: c14 :: c15 :: c16 :: c17 :: c18 :: c19 :: c20 :: c21 :: c22 :: c23 :: c24 :: c25 :: c26 :: c27 :: c28 :: c29 :: c30 :: c31 :: c32 :: c33 :: c34 :: c35 :: c36 :: some v :: r) H Q := ⟨v, rfl, h⟩
instance o_xv37 : One (tVar 37 (c0 :: c1 :: c2 :: c3 :: c4 :: c5 :: c6 :: c7 :: c8 :: c9 :: c10 :: c11 :: c12 :: c13 :: c14 :: c15 :: c16 :: c17 :: c18 :: c19 :: c20 :: c21 :: c22 :: c23 :: c24 :: c25 :: c26 :: c27 :: c28 :: c29 :: c30 :: c31 :: c32 :: c33 :: c34 :: c35 :: c36 :: some v :: r) H Q) (Q v H) := ⟨xv37⟩
theorem sk38 (h : N (c0 :: c1 :: c2 :: c3 :: c4 :: c5 :: c6 :: c7 :: c8 :: c9 :: c10 :: c11 :: c12 :: c13 :: c14 :: c15 :: c16 :: c17 :: c18 :: c19 :: c20 :: c21 :: c22 :: c23 :: c24 :: c25 :: c26 :: c27 :: c28 :: c29 :: c30 :: c31 :: c32 :: c33 :: c34 :: c35 :: c36 :: c37 :: some v :: r) H) : SetK (c0 :: c1 :: c2 :: c3 :: c4 :: c5 :: c6 :: c7 :: c8 :: c9 :: c10 :: c11 :: c12 :: c13 :: c14 :: c15 :: c16 :: c17 :: c18 :: c19 :: c20 :: c21 :: c22 :: c23 :: c24 :: c25 :: c26 :: c27 :: c28 :: c29 :: c30 :: c31 :: c32 :: c33 :: c34 :: c35 :: c36 :: c37 :: c38 :: r) 38 v N H := h
instance o_sk38 : One (SetK (c0 :: c1 :: c2 :: c3 :: c4 :: c5 :: c6 :: c7 :: c8 :: c9 :: c10 :: c11 :: c12 :: c13 :: c14 :: c15 :: c16 :: c17 :: c18 :: c19 :: c20 :: c21 :: c22 :: c23 :: c24 :: c25 :: c26 :: c27 :: c28 :: c29 :: c30 :: c31 :: c32 :: c33 :: c34 :: c35 :: c36 :: c37 :: c38 :: r) 38 v N H) (N (c0 :: c1 :: c2 :: c3 :: c4 :: c5 :: c6 :: c7 :: c8 :: c9 :: c10 :: c11 :: c12 :: c13 :: c14 :: c15 :: c16 :: c17 :: c18 :: c19 :: c20 :: c21 :: c22 :: c23 :: c24 :: c25 :: c26 :: c27 :: c28 :: c29 :: c30 :: c31 :: c32 :: c33 :: c34 :: c35 :: c36 :: c37 :: some v :: r) H) := ⟨sk38⟩
theorem xv38 (h : Q v H) : tVar 38 (c0 :: c1 :: c2 :: c3 :: c4 :: c5 :: c6 :: c7 :: c8 :: c9 :: c10 :: c11 :: c12 :: c13 :: c14 :: c15 :: c16 :: c17 :: c18 :: c19 :: c20 :: c21 :: c22 :: c23 :: c24 :: c25 :: c26 :: c27 :: c28 :: c29 :: c30 :: c31 :: c32 :: c33 :: c34 :: c35 :: c36 :: c37 :: some v :: r) H Q := ⟨v, rfl, h⟩
instance o_xv38 : One (tVar 38 (c0 :: c1 :: c2 :: c3 :: c4 :: c5 :: c6 :: c7 :: c8 :: c9 :: c10 :: c11 :: c12 :: c13 :: c14 :: c15 :: c16 :: c17 :: c18 :: c19 :: c20 :: c21 :: c22 :: c23 :: c24 :: c25 :: c26 :: c27 :: c28 :: c29 :: c30 :: c31 :: c32 :: c33 :: c34 :: c35 :: c36 :: c37 :: some v :: r) H Q) (Q v H) := ⟨xv38⟩
theorem sk39 (h : N (c0 :: c1 :: c2 :: c3 :: c4 :: c5 :: c6 :: c7 :: c8 :: c9 :: c10 :: c11 :: c12 :: c13 :: c14 :: c15 :: c16 :: c17 :: c18 :: c19 :: c20 :: c21 :: c22 :: c23 :: c24 :: c25 :: c26 :: c27 :: c28 :: c29 :: c30 :: c31 :: c32 :: c33 :: c34 :: c35 :: c36 :: c37 :: c38 :: some v :: r) H) : SetK (c0 :: c1 :: c2 :: c3 :: c4 :: c5 :: c6 :: c7 :: c8 :: c9 :: c10 :: c11 :: c12 :: c13 :: c14 :: c15 :: c16 :: c17 :: c18 :: c19 :: c20 :: c21 :: c22 :: c23 :: c24 :: c25 :: c26 :: c27 :: c28 :: c29 :: c30 :: c31 :: c32 :: c33 :: c34 :: c35 :: c36 :: c37 :: c38 :: c39 :: r) 39 v N H := h
instance o_sk39 : One (SetK (c0 :: c1 :: c2 :: c3 :: c4 :: c5 :: c6 :: c7 :: c8 :: c9 :: c10 :: c11 :: c12 :: c13 :: c14 :: c15 :: c16 :: c17 :: c18 :: c19 :: c20 :: c21 :: c22 :: c23 :: c24 :: c25 :: c26 :: c27 :: c28 :: c29 :: c30 :: c31 :: c32 :: c33 :: c34 :: c35 :: c36 :: c37 :: c38 :: c39 :: r) 39 v N H) (N (c0 :: c1 :: c2 :: c3 :: c4 :: c5 :: c6 :: c7 :: c8 :: c9 :: c10 :: c11 :: c12 :: c13 :: c14 :: c15 :: c16 :: c17 :: c18 :: c19 :: c20 :: c21 :: c22 :: c23 :: c24 :: c25 :: c26 :: c27 :: c28 :: c29 :: c30 :: c31 :: c32 :: c33 :: c34 :: c35 :: c36 :: c37 :: c38 :: some v :: r) H) := ⟨sk39⟩
theorem xv39 (h : Q v H) : tVar 39 (c0 :: c1 :: c2 :: c3 :: c4 :: c5 :: c6 :: c7 :: c8 :: c9 :: c10 :: c11 :: c12 :: c13 :: c14 :: c15 :: c16 :: c17 :: c18 :: c19 :: c20 :: c21 :: c22 :: c23 :: c24 :: c25 :: c26 :: c27 :: c28 :: c29 :: c30 :: c31 :: c32 :: c33 :: c34 :: c35 :: c36 :: c37 :: c38 :: some v :: r) H Q := ⟨v, rfl, h⟩
instance o_xv39 : One (tVar 39 (c0 :: c1 :: c2 :: c3 :: c4 :: c5 :: c6 :: c7 :: c8 :: c9 :: c10 :: c11 :: c12 :: c13 :: c14 :: c15 :: c16 :: c17 :: c18 :: c19 :: c20 :: c21 :: c22 :: c23 :: c24 :: c25 :: c26 :: c27 :: c28 :: c29 :: c30 :: c31 :: c32 :: c33 :: c34 :: c35 :: c36 :: c37 :: c38 :: some v :: r) H Q) (Q v H) := ⟨xv39⟩
theorem sk40 (h : N (c0 :: c1 :: c2 :: c3 :: c4 :: c5 :: c6 :: c7 :: c8 :: c9 :: c10 :: c11 :: c12 :: c13 :: c14 :: c15 :: c16 :: c17 :: c18 :: c19 :: c20 :: c21 :: c22 :: c23 :: c24 :: c25 :: c26 :: c27 :: c28 :: c29 :: c30 :: c31 :: c32 :: c33 :: c34 :: c35 :: c36 :: c37 :: c38 :: c39 :: some v :: r) H) : SetK (c0 :: c1 :: c2 :: c3 :: c4 :: c5 :: c6 :: c7 :: c8 :: c9 :: c10 :: c11 :: c12 :: c13 :: c14 :: c15 :: c16 :: c17 :: c18 :: c19 :: c20 :: c21 :: c22 :: c23 :: c24 :: c25 :: c26 :: c27 :: c28 :: c29 :: c30 :: c31 :: c32 :: c33 :: c34 :: c35 :: c36 :: c37 :: c38 :: c39 :: c40 :: r) 40 v N H := h
instance o_sk40 : One (SetK (c0 :: c1 :: c2 :: c3 :: c4 :: c5 :: c6 :: c7 :: c8 :: c9 :: c10 :: c11 :: c12 :: c13 :: c14 :: c15 :: c16 :: c17 :: c18 :: c19 :: c20 :: c21 :: c22 :: c23 :: c24 :: c25 :: c26 :: c27 :: c28 :: c29 :: c30 :: c31 :: c32 :: c33 :: c34 :: c35 :: c36 :: c37 :: c38 :: c39 :: c40 :: r) 40 v N H) (N (c0 :: c1 :: c2 :: c3 :: c4 :: c5 :: c6 :: c7 :: c8 :: c9 :: c10 :: c11 :: c12 :: c13 :: c14 :: c15 :: c16 :: c17 :: c18 :: c19 :: c20 :: c21 :: c22 :: c23 :: c24 :: c25 :: c26 :: c27 :: c28 :: c29 :: c30 :: c31 :: c32 :: c33 :: c34 :: c35 :: c36 :: c37 :: c38 :: c39 :: some v :: r) H) := ⟨sk40⟩
theorem xv40 (h : Q v H) : tVar 40 (c0 :: c1 :: c2 :: c3 :: c4 :: c5 :: c6 :: c7 :: c8 :: c9 :: c10 :: c11 :: c12 :: c13 :: c14 :: c15 :: c16 :: c17 :: c18 :: c19 :: c20 :: c21 :: c22 :: c23 :: c24 :: c25 :: c26 :: c27 :: c28 :: c29 :: c30 :: c31 :: c32 :: c33 :: c34 :: c35 :: c36 :: c37 :: c38 :: c39 :: some v :: r) H Q := ⟨v, rfl, h⟩
instance o_xv40 : One (tVar 40 (c0 :: c1 :: c2 :: c3 :: c4 :: c5 :: c6 :: c7 :: c8 :: c9 :: c10 :: c11 :: c12 :: c13 :: c14 :: c15 :: c16 :: c17 :: c18 :: c19 :: c20 :: c21 :: c22 :: c23 :: c24 :: c25 :: c26 :: c27 :: c28 :: c29 :: c30 :: c31 :: c32 :: c33 :: c34 :: c35 :: c36 :: c37 :: c38 :: c39 :: some v :: r) H Q) (Q v H) := ⟨xv40⟩
end
section
open PySem L2
theorem cutT {t : TT} {σ : L2.St} {H : Hp} {R : Bool → Hp → Prop} (M : Bool → Hp → Prop) (h : ∀ R' : Bool → Hp → Prop, (∀ b H1, M b H1 → R' b H1) → t σ H R') (k : ∀ b H1, M b H1 → R b H1) : t σ H R := h _ k
theorem cutE {t : TE} {σ : L2.St} {H : Hp} {R : VK} (M : V → Hp → Prop) (h : ∀ R' : VK, (∀ b H1, M b H1 → R' b H1) → t σ H R') (k : ∀ b H1, M b H1 → R b H1) : t σ H R := h _ k
end
section
variable {size : Int} {f g : Int → Int} {a h e s d u v x : Int} {m n i j : Nat} {hs : List Int}
theorem far_least (h0 : 0 < size) {k : Int} (k0 : 0 < k) (hd : size ∣ k - (e - s)) : far size s e ≤ k := by
  obtain ⟨p0, p1⟩ := far_pos (s := s) (e := e) h0
  have h2 := Int.dvd_sub (far_dvd (s := s) (e := e) h0) hd
  rw [show far size s e - (e - s) - (k - (e - s)) = far size s e - k by omega] at h2
  apply Classical.byContradiction
  intro hc
  have := Int.le_of_dvd (by omega) h2
  omega
theorem btw_back (h0 : 0 < size) (hb : btw size u x v = true) : far size x v ≤ far size x u := by
  have e1 := btw_split h0 hb
  have d1 := far_dvd (s := u) (e := x) h0
  have d2 := far_dvd (s := x) (e := u) h0
  have d3 := Int.dvd_add d1 d2
  rw [show far size u x - (x - u) + (far size x u - (u - x)) = far size u x + far size x u by omega] at d3
  have p1 := far_pos (s := u) (e := x) h0
  have p2 := far_pos (s := x) (e := u) h0
  have p3 := far_pos (s := u) (e := v) h0
  have := Int.le_of_dvd (by omega) d3
  omega
theorem btw_ne (h0 : 0 < size) (hb : btw size u x v = true) : x ≠ u := fun e => by
  subst e
  rw [btw_left h0] at hb
  cases hb
theorem it_cong (hg : ∀ h, h ≠ u → g h = f h) : ∀ {n : Nat} {x : Int}, (∀ i, i < n → it f i x ≠ u) → it g n x = it f n x ∧ wl size g n x = wl size f n x
  | 0, x, _ => ⟨rfl, rfl⟩
  | n + 1, x, hn => by
    have h0 : g x = f x := hg x (hn 0 (by omega))
    obtain ⟨a, b⟩ := it_cong hg (n := n) (x := f x) fun i hi => hn (i + 1) (by omega)
    refine ⟨?_, ?_⟩
    · show it g n (g x) = it f n (f x); rw [h0, a]
    · show far size x (g x) + wl size g n (g x) = far size x (f x) + wl size f n (f x); rw [h0, b]
theorem free_way (h0 : 0 < size) (hb : btw size u x v = true) (hn : it f n x = v) (hw : wl size f n x = far size x v) : ∀ i, i < n → it f i x ≠ u := fun i hi e => by
  have a1 := wl_lt (f := f) (h := x) h0 hi
  have a2 := wl_dvd (f := f) (n := i) (h := x) h0
  rw [e] at a2
  have a3 := btw_back h0 hb
  cases i with
  | zero => exact btw_ne h0 hb e
  | succ i =>
    have a4 := wl_ge (n := i + 1) (f := f) (h := x) h0
    have := far_least h0 (by omega) a2
    omega
theorem parted (h0 : 0 < size) (hb : btw size u x (f u) = true) (t : Tr size f x (f u) (far size x (f u))) (hg : ∀ h, h ≠ u → g h = f h) (hu : g u = x) : Tr size g u (f u) (far size u (f u)) := by
  obtain ⟨n, n1, e1, e2⟩ := t
  obtain ⟨c1, c2⟩ := it_cong (size := size) hg (free_way h0 hb e1 e2)
  refine ⟨n + 1, by omega, ?_, ?_⟩
  · show it g n (g u) = _; rw [hu, c1, e1]
  · show far size u (g u) + wl size g n (g u) = _; rw [hu, c2, e2, btw_split h0 hb]
theorem ways_kept (h1 : ∀ a, ∃ m, 1 ≤ m ∧ it g m a = f a ∧ wl size g m a = far size a (f a)) : ∀ (n : Nat) (a : Int), ∃ m, n ≤ m ∧ it g m a = it f n a ∧ wl size g m a = wl size f n a
  | 0, a => ⟨0, Nat.le_refl _, rfl, rfl⟩
  | n + 1, a => by
    obtain ⟨m, m1, e1, e2⟩ := h1 a
    obtain ⟨m', m2, e3, e4⟩ := ways_kept h1 n (f a)
    refine ⟨m + m', by omega, ?_, ?_⟩
    · rw [it_add, e1, e3]; rfl
    · rw [wl_add, e1, e2, e4]; rfl
theorem Tr.kept (h1 : ∀ a, ∃ m, 1 ≤ m ∧ it g m a = f a ∧ wl size g m a = far size a (f a)) (t : Tr size f a e s) : Tr size g a e s := by
  obtain ⟨n, n1, e1, e2⟩ := t
  obtain ⟨m, m1, c1, c2⟩ := ways_kept h1 n a
  exact ⟨m, by omega, c1.trans e1, c2.trans e2⟩
theorem Tr.part (h0 : 0 < size) (hb : btw size u x (f u) = true) (t : Tr size f x (f u) (far size x (f u))) (hg : ∀ h, h ≠ u → g h = f h) (hu : g u = x) (q : Tr size f a e s) : Tr size g a e s :=
  q.kept fun a => by
    by_cases ea : a = u
    · subst ea
      obtain ⟨m, m1, c1, c2⟩ := parted h0 hb t hg hu
      exact ⟨m, m1, c1, c2⟩
    · exact ⟨1, Nat.le_refl _, hg a ea, by show far size a (g a) + 0 = _; rw [hg a ea]; omega⟩
theorem Tr.one : Tr size f a (f a) (far size a (f a)) := ⟨1, Nat.le_refl _, rfl, by show _ + 0 = _; omega⟩
theorem Tr.ans (h0 : 0 < size) (t : Tr size f a e s) (hd : d ≤ s) (x : Ans size f a d j) : wl size f j a ≤ s := by
  obtain ⟨n, n1, e1, e2⟩ := t
  apply Classical.byContradiction
  intro hc
  have : n < j := by
    apply Classical.byContradiction
    intro hn
    have := wl_le (f := f) (h := a) h0 (show j ≤ n by omega)
    omega
  have := x.2 n this
  omega
theorem Ans.pos (hd : 0 < d) (x : Ans size f a d j) : 1 ≤ j := by
  cases j with
  | zero => have h : d ≤ 0 := x.1; omega
  | succ j => omega
theorem Ans.tr (hd : 0 < d) (x : Ans size f a d j) : Tr size f a (it f j a) (wl size f j a) := ⟨j, x.pos hd, rfl, rfl⟩
theorem Ans.lt (h0 : 0 < size) (hd : 0 < d) (hs : d ≤ size) (x : Ans size f a d j) : wl size f j a < d + size := by
  cases j with
  | zero => show 0 < _; omega
  | succ j =>
    have := x.2 j (by omega)
    have := far_pos (s := it f j a) (e := f (it f j a)) h0
    rw [wl_succ]
    omega
end
end RL
namespace RL
open PySem PySem.Spec PyProof.Rows L2
theorem kv_vals : ∀ {kvs : List (Key × V)} {vs : List (Key × Value)}, KV kvs vs → Vals (kvs.map (·.2)) (vs.map (·.2))
  | _, _, .nil => .nil
  | _, _, .cons h t => .cons h.2 (kv_vals t)
def rValsL (x : V) (H : Hp) (Q : VK) : Prop := ∃ (d : Addr) (kvs : List (Key × V)), x = .ref d ∧ H d = some (.dK kvs) ∧ ∀ p, H p = none → Q (.ref p) (upd H p (.lst (kvs.map (·.2))))
def tListVals (te : TE) : TE := fun σ H Q => te σ H fun x H1 => rValsL x H1 Q
section
variable {X : Cx} {e : Expr} {te : TE} {p apos cpos pos : Pos}
theorem pe_listVals (hc : X.calm = true) (he : PE X e te) (hg : Gl X "list") (hm : X.mg "list" = none) (hv : bootBuiltins "list" = some (.type "list")) (hbase : attributeBase e "values" X.env (eval e X.env) = eval e X.env := by rfl) (hline : (apos.endLine == cpos.line) = true := by rfl)
    (hs : starEach [.Call (.Attribute e "values" apos) [] [] cpos] X.env = (false, eval (.Call (.Attribute e "values" apos) [] [] cpos) X.env) :: starEach [] X.env := by rfl) :
    PE X (.Call (.Name "list" p) [.Call (.Attribute e "values" apos) [] [] cpos] [] pos) (tListVals te) := by
  refine ⟨fun pins s σ H Q I hq => ?_⟩
  refine wpAny_Call_Name_kw (ld_blt I hg hm hv ?_)
  refine PyProof.Rows.callWith_type1 ?_ hs rfl
  rw [hs]
  show wpAny _ _ (spliced ((false, eval (.Call (.Attribute e "values" apos) [] [] cpos) X.env) :: backTo pos (starEach [] X.env))) _ _ s
  refine Calls.spliced_cons ?_
  refine wpAny_Call_method (T := "dict") (id := "dict.values") hbase rfl hline F.plainAttrs_dict F.slot_dict_values F.type_dict_values (thn (he.run pins s σ H _ I hq) fun u s1 ⟨x, H1, I1, rx, d, kvs, ex, hd, q⟩ => ?_)
  subst ex
  obtain rfl : u = Value.ref d := rx
  obtain ⟨hz, hs0, vs, kv, hdo⟩ := I1.hok d _ hd
  obtain ⟨ep, hat⟩ := hdo.dictAt
  have lk : kvs.length = vs.length := Paired.length kv
  have I2 : Inv X pins σ H1 { s1 with heap := s1.heap.push { cls := .type "dict_values", data := .fields #[.ref d] } } := I1.kept (t' := s1.toks) fun b ob q => Heap.get?_push_of_some _ q
  refine ⟨hdo.typeIs, hdo.mapOf.noDict, ?_⟩
  show wpAny _ _ (callWith cpos (.builtin "dict.values") [.ref d] [] []) _ X.xe s1
  refine method_meetsIn F.slot_dict_values F.entry_dict_values rfl (PySem.evalArgs_none ⟨rfl, hdo.typeIs, F.args_dict_values_1 _, _, meets_dict_values (mixKind X.prog X.w) d hs0, ⟨vs, hdo⟩, ?_⟩)
  refine Calls.spliced_nil ?_
  refine PySem.W.kdl_call (PySem.W.kdl_values (knd := mixKind X.prog X.w) (kvs := vs) (ep := ep)) (I1.ok.hd hc) ⟨⟨_, Heap.get?_push_size _ rfl, rfl, rfl⟩, hat.push _⟩ (by omega) fun h' tk acc c hk hS hacc => ?_
  have ea : acc.toList = vs.map (·.2) := by
    apply List.ext_getElem?
    intro i
    cases e : acc.toList[i]? with
    | none =>
      have h1 := List.getElem?_eq_none_iff.mp e
      rw [Array.length_toList, hacc.1] at h1
      rw [List.getElem?_eq_none (by rw [List.length_map]; exact h1)]
    | some v =>
      obtain ⟨k, hk⟩ := hacc.2 i v (by rw [← Array.getElem?_toList]; exact e)
      rw [List.getElem?_map, hk]
      rfl
  refine ⟨.ref _, _, I2.laid (t' := tk) (o := .lst (kvs.map (·.2))) hk (Nat.le_refl _) ⟨by rw [List.length_map]; exact hz, acc.toList, c, by rw [ea]; exact kv_vals kv, by rw [Array.toArray_toList]; exact hS⟩, rfl, q _ (I2.hok.fresh (Nat.le_refl _))⟩
end
section
variable {K : PySem.W.Frag} {te : TE} {σ : L2.St} {H : Hp} {Q : VK} {a : Addr} {x : V}
theorem x_listVals (h : te σ H fun x H1 => rValsL x H1 Q) : tListVals te σ H Q := h
instance o_x_listVals : One (tListVals te σ H Q) (te σ H fun x H1 => rValsL x H1 Q) := ⟨x_listVals⟩
theorem r_valsL {kvs : List (Key × V)} (h : H a = some (.dK kvs)) (q : ∀ p H', H p = none → H' p = some (.lst (kvs.map (·.2))) → Fr [] H H' → Q (.ref p) H') : rValsL (.ref a) H Q :=
  ⟨a, kvs, rfl, h, fun p n => q p _ n upd_same (Fr.new n)⟩
def rSortP (K : PySem.W.Frag) : List V → Hp → VK → Prop := rSortedPO K
theorem cb_sortPK {X : Cx} (hK : X.K = K) : CallR X (.builtin "sorted") (rSortP K) := by subst hK; exact cr_sortedPO
theorem r_sortP {xs : List V} {k : V → Int × Int} (h : SqL K H a xs) (hx : ∀ x ∈ xs, ∃ t, x = V.ref t ∧ H t = some (.tup [.int (k x).1, .int (k x).2]))
    (q : ∀ ys p H', ys.Perm xs → ys.Pairwise (fun x y => (k x).1 < (k y).1 ∨ ((k x).1 = (k y).1 ∧ (k x).2 ≤ (k y).2)) → H p = none → H' p = some (.lst ys) → Fr [] H H' → Q (.ref p) H') : rSortP K [.ref a] H Q :=
  ⟨a, xs, k, rfl, h, hx, fun ys p h1 h2 n => q ys p _ h2.perm (List.Pairwise.imp (fun {x y} z => by
    have := SrtO.lexB_no.mp z
    omega) h1) n upd_same (Fr.new n)⟩
theorem cb_minD {X : Cx} (hc : X.calm = true) : CallR X (.builtin "min") rMinK := cr_minK hc
theorem r_minD {kvs : List (Key × V)} {is : List Int} (h : H a = some (.dK kvs)) (hk : kvs.map (·.1) = is.map Sum.inl) (h0 : is ≠ []) (q : ∀ m, m ∈ is → (∀ j ∈ is, m ≤ j) → Q (.int m) H) : rMinK [.ref a] H Q := ⟨a, kvs, is, rfl, h, hk, h0, q⟩
theorem pi_zipK {X : Cx} {e e2 : Expr} {ta : TA} {p pos tpos : Pos} {elts : List Expr} {kk : Nat} (hK : X.K = K) (hg : Gl X "zip") (hm : X.mg "zip" = none) (ha : PA X [e, e2] ta)
    (hs : starEach [e, e2] X.env = (false, eval e X.env) :: starEach [e2] X.env := by rfl) (hpl : (backTo pos (starEach [e2] X.env)).any (·.1) = false := by rfl) :
    PI X (.Tuple elts kk tpos) (.Call (.Name "zip" p) [e, e2] [] pos) (iZip K ta) := by subst hK; exact pi_zip hg hm ha hs hpl
theorem pi_enumK {X : Cx} {e : Expr} {ta : TA} {p pos tpos : Pos} {elts : List Expr} {kk : Nat} (hK : X.K = K) (hg : Gl X "enumerate") (hm : X.mg "enumerate" = none) (ha : PA X [e] ta) (hs : starEach [e] X.env = [(false, eval e X.env)] := by rfl) :
    PI X (.Tuple elts kk tpos) (.Call (.Name "enumerate" p) [e] [] pos) (iEnum K ta) := by subst hK; exact pi_enum hg hm ha hs
end
end RL
open PySem L2 RL
open LiI (pe_listItems rItemsL tListItems)
local macro_rules | `(tactic| l_intsW) => `(tactic| first
  | assumption
  | (exact List.not_mem_nil)
  | (simp only [List.mem_cons, List.not_mem_nil, or_false, not_or]; (repeat' constructor) <;> first
    | assumption
    | (exact Ne.symm (by assumption))
    | (refine @L2.ne_of_none ?nH _ _ ?no ?na ?nb; (case nb => assumption); (case na => assumption))
    | (refine Ne.symm (@L2.ne_of_none ?nH _ _ ?no ?na ?nb); (case nb => assumption); (case na => assumption))
    | (refine @L2.ne_of ?nH _ _ ?no ?nu ?na ?nb ?nc; (case na => assumption); (case nb => assumption); (case nc => with_unfolding_all (intro z; cases z)))))
local macro_rules | `(tactic| k_clsL) => `(tactic| first
  | assumption
  | ((with_reducible refine Fr.at_ (by assumption) _ _ ?fa ?fb); (case fa => k_clsL); (case fb => l_intsW))
  | ((with_reducible refine Fr.tp (by assumption) _ _ ?_); k_clsL))
local macro_rules | `(tactic| tb_start) => `(tactic| first
  | (refine Go.h ?_)
  | ((with_reducible refine r_i ?rc ?_); (case rc => first | assumption | omega | (unfold CPow; decide) | (unfold CMul; omega) | (exact divW (by omega) (by omega))))
  | ((with_reducible refine r_ixL (sqL_of ?rh) ?ra ?_); (case rh => assumption); (case ra => first | rfl | assumption))
  | (with_reducible refine NetT.f1 (by assumption) (by k_clsL) ?_)
  | (with_reducible refine NetT.f2 (by assumption) (by k_clsL) ?_)
  | (with_reducible refine NetT.f3 (by assumption) (by k_clsL) ?_)
  | (with_reducible refine NetT.f4 (by assumption) (by k_clsL) ?_)
  | ((with_reducible refine net_mt (by k_clsL) ?nm ?_); (case nm => decide +kernel))
  | (with_reducible refine tyLst (by k_clsL) ?_))
local macro_rules | `(tactic| tb_rel) => `(tactic| first
  | (refine GoS.h ?_)
  | ((with_reducible refine r_i ?rc ?_); (case rc => first | assumption | omega | (unfold CPow; decide) | (unfold CMul; omega) | (exact divW (by omega) (by omega))))
  | ((with_reducible refine r_ixL (sqL_of ?rh) ?ra ?_); (case rh => assumption); (case ra => first | rfl | assumption))
  | (with_reducible refine NetT.f1 (by assumption) (by k_clsL) ?_)
  | (with_reducible refine NetT.f2 (by assumption) (by k_clsL) ?_)
  | (with_reducible refine NetT.f3 (by assumption) (by k_clsL) ?_)
  | (with_reducible refine NetT.f4 (by assumption) (by k_clsL) ?_)
  | ((with_reducible refine net_mt (by k_clsL) ?nm ?_); (case nm => decide +kernel))
  | (with_reducible refine tyLst (by k_clsL) ?_))
local macro_rules | `(tactic| k_places) => `(tactic| (repeat tb_start))
local macro_rules | `(tactic| k_offL) => `(tactic| (repeat tb_rel))
set_option synthInstance.maxHeartbeats 4000000
set_option synthInstance.maxSize 4000
namespace RL
def top (i : Nat) : Stmt := PySem.Challenge.pw_ringlaps_k92_whole_other_rules_keep_the.main.body.getD i (.Pass ⟨0, 0, 0, 0⟩)
def spFar : Sp := fun vs H Q _ => ∃ size s e : Int, vs = [.int size, .int s, .int e] ∧ 0 < size ∧ Q (.int (far size s e)) H
theorem i_far {size s e : Int} {H : Hp} {Q : VK} {E : XK} (h : 0 < size) (q : Q (.int (far size s e)) H) : spFar [.int size, .int s, .int e] H Q E := ⟨_, _, _, rfl, h, q⟩
section
variable {P : Program} {w : World} {K : PySem.W.Frag} {mg : Str → Option Value} {base : Heap} {CNet CMender CDesk CStore CWalk : Addr}
abbrev s_far : Stmt := top 2
theorem sc_far : FnScope ["size", "start", "end", "steps"] ["size", "start", "end"] (defScope s_far) := ⟨rfl, rfl, rfl, by decide +kernel, rfl, by decide +kernel, by decide +kernel⟩
theorem ok_far {f : Addr} {fd : FuncData} (F : Fun K "far" "far" s_far f fd) : FnOk P w K mg base CX0 1 f fd ["size", "start", "end"] spFar := by
  refine F.ok sc_far (fun vs H Q E h => ?_) (fun cdv A outer s H vs Q E hr h => ?_)
  · obtain ⟨_, _, _, rfl, _⟩ := h; rfl
  · obtain ⟨size, st, e, rfl, h0, k⟩ := h
    refine ⟨_, (pss_cons (ps_set (i := 3) sc_far.nd rfl (Or.inl rfl) (pe_op op_mod (pe_op op_sub (pv 2) (pv 1)) (pv 0)))
      (pss_cons (ps_if (pt_cmpR op_eq (pv 3) pe_int (nomark _)) (pss_one (ps_ret (pv 0))) pss_nil)
      (pss_one (ps_ret (pv 3))))), ?_⟩
    (try simp only [cxK, cxKX, List.map])
    refine ent (σ' := [some _, some _, some _, none]) rfl ?_
    k_offL
    refine ifD (fun h => ?_) (fun h => ?_)
    · k_offL
      unfold far at k
      rw [if_pos h] at k
      exact k
    · k_offL
      unfold far at k
      rw [if_neg h] at k
      exact k
end
def spBetween : Sp := fun vs H Q _ => ∃ size s p e : Int, vs = [.int size, .int s, .int p, .int e] ∧ 0 < size ∧ Q (.bl (btw size s p e)) H
theorem i_between {size s p e : Int} {H : Hp} {Q : VK} {E : XK} (h : 0 < size) (q : Q (.bl (btw size s p e)) H) : spBetween [.int size, .int s, .int p, .int e] H Q E := ⟨_, _, _, _, rfl, h, q⟩
section
variable {P : Program} {w : World} {K : PySem.W.Frag} {mg : Str → Option Value} {base : Heap} {CNet CMender CDesk CStore CWalk : Addr}
abbrev s_between : Stmt := top 3
theorem sc_between : FnScope ["size", "start", "place", "end"] ["size", "start", "place", "end"] (defScope s_between) := ⟨rfl, rfl, rfl, by decide +kernel, rfl, by decide +kernel, by decide +kernel⟩
theorem ok_between {f : Addr} {fd : FuncData} (F : Fun K "between" "between" s_between f fd) (G_far : GF P w K mg base "far" 1 ["size", "start", "end"] spFar) : FnOk P w K mg base CX0 2 f fd ["size", "start", "place", "end"] spBetween := by
  refine F.ok sc_between (fun vs H Q E h => ?_) (fun cdv A outer s H vs Q E hr h => ?_)
  · obtain ⟨_, _, _, _, rfl, _⟩ := h; rfl
  · obtain ⟨size, st, p, e, rfl, h0, k⟩ := h
    refine ⟨_, (pss_one (ps_ret (pe_cmpR op_lt (c_fn G_far (hr.mono (by decide)) (pa_cons (pv 0) (pa_cons (pv 1) (pa_cons (pv 2) pa_nil)))) (c_fn G_far (hr.mono (by decide)) (pa_cons (pv 0) (pa_cons (pv 1) (pa_cons (pv 3) pa_nil)))) (nomark _)))), ?_⟩
    (try simp only [cxK, cxKX, List.map])
    refine ent (σ' := [some _, some _, some _, some _]) rfl ?_
    k_offL
    refine i_far h0 ?_
    k_offL
    refine i_far h0 ?_
    k_offL
    exact k
end
def spLetterPlaces : Sp := fun vs H Q _ => ∃ (t : Addr) (l : LT), vs = [.ref t] ∧ H t = some (.tup l.vs) ∧ ∀ p H', H p = none → H' p = some (.tup (l.pl.map V.int)) → Fr [] H H' → Q (.ref p) H'
theorem LT.cut (l : LT) : cutV l.vs (some 1) none = l.pl.map V.int := by cases l <;> rfl
section
variable {P : Program} {w : World} {K : PySem.W.Frag} {mg : Str → Option Value} {base : Heap} {CNet CMender CDesk CStore CWalk : Addr}
abbrev s_letter_places : Stmt := top 40
theorem sc_letter_places : FnScope ["letter"] ["letter"] (defScope s_letter_places) := ⟨rfl, rfl, rfl, by decide +kernel, rfl, by decide +kernel, by decide +kernel⟩
theorem ok_letter_places {f : Addr} {fd : FuncData} (F : Fun K "letter_places" "letter_places" s_letter_places f fd) : FnOk P w K mg base CX0 1 f fd ["letter"] spLetterPlaces := by
  refine F.ok sc_letter_places (fun vs H Q E h => ?_) (fun cdv A outer s H vs Q E hr h => ?_)
  · obtain ⟨_, _, rfl, _⟩ := h; rfl
  · obtain ⟨t, l, rfl, ht, k⟩ := h
    refine ⟨_, (pss_one (ps_ret (pe_slice (sl_tupK (K := K) rfl) (pv 0) (po_some pe_int) po_none))), ?_⟩
    (try simp only [cxK, cxKX, List.map])
    refine ent (σ' := [some _]) rfl ?_
    k_offL
    refine r_slT (sqT_of ht) (fun z => by cases l <;> exact absurd (show (1 : Nat) = 0 from z.1) (by decide)) fun p H' np hp f => ?_
    rw [LT.cut] at hp
    exact k p H' np hp f
end
def spCheckPlace : Sp := fun vs H Q _ => ∃ size p : Int, vs = [.int size, .int p] ∧ 0 ≤ p ∧ p < size ∧ Q .non H
theorem i_check_place {size p : Int} {H : Hp} {Q : VK} {E : XK} (h0 : 0 ≤ p) (h : p < size) (q : Q .non H) : spCheckPlace [.int size, .int p] H Q E := ⟨_, _, rfl, h0, h, q⟩
section
variable {P : Program} {w : World} {K : PySem.W.Frag} {mg : Str → Option Value} {base : Heap} {CNet CMender CDesk CStore CWalk : Addr}
abbrev s_check_place : Stmt := top 42
theorem sc_check_place : FnScope ["size", "place"] ["size", "place"] (defScope s_check_place) := ⟨rfl, rfl, rfl, by decide +kernel, rfl, by decide +kernel, by decide +kernel⟩
theorem ok_check_place {f : Addr} {fd : FuncData} (F : Fun K "check_place" "check_place" s_check_place f fd) : FnOk P w K mg base CX0 1 f fd ["size", "place"] spCheckPlace := by
  refine F.ok sc_check_place (fun vs H Q E h => ?_) (fun cdv A outer s H vs Q E hr h => ?_)
  · obtain ⟨_, _, rfl, _⟩ := h; rfl
  · obtain ⟨size, p, rfl, h0, h1, k⟩ := h
    refine ⟨_, (pss_one (ps_if (pt_not (pt_chain op_le op_lt pe_int (pv 1) (pv 0))) (pss_one ps_never) pss_nil)), ?_⟩
    (try simp only [cxK, cxKX, List.map])
    refine ent (σ' := [some _, some _]) rfl ?_
    k_offL
    refine ifDT h0 ?_
    k_offL
    refine ifNF h1 ?_
    k_offL
    exact k
end
def spCheckHouses (K : PySem.W.Frag) : Sp := fun vs H Q _ => ∃ (a p : Addr) (kvs : List (Key × V)) (m : Int → Option V) (ns : List Int), vs = [.ref a, .ref p] ∧ Rd H a (.dK kvs) ∧ DOk kvs m ∧ Sq K H p (ns.map V.int) ∧ (∀ n ∈ ns, (m n).isSome = true) ∧ Q .non H
theorem i_check_houses {K : PySem.W.Frag} {a p : Addr} {kvs : List (Key × V)} {m : Int → Option V} (ns : List Int) {H : Hp} {Q : VK} {E : XK} (h : Rd H a (.dK kvs)) (d : DOk kvs m) (hp : Sq K H p (ns.map V.int)) (hm : ∀ n ∈ ns, (m n).isSome = true) (q : Q .non H) :
    spCheckHouses K [.ref a, .ref p] H Q E := ⟨a, p, kvs, m, ns, rfl, h, d, hp, hm, q⟩
section
variable {P : Program} {w : World} {K : PySem.W.Frag} {mg : Str → Option Value} {base : Heap} {CNet CMender CDesk CStore CWalk : Addr}
abbrev s_check_houses : Stmt := top 43
theorem sc_check_houses : FnScope ["houses", "places", "place"] ["houses", "places"] (defScope s_check_houses) := ⟨rfl, rfl, rfl, by decide +kernel, rfl, by decide +kernel, by decide +kernel⟩
theorem ok_check_houses {f : Addr} {fd : FuncData} (F : Fun K "check_houses" "check_houses" s_check_houses f fd) : FnOk P w K mg base CX0 1 f fd ["houses", "places"] (spCheckHouses K) := by
  refine F.ok sc_check_houses (fun vs H Q E h => ?_) (fun cdv A outer s H vs Q E hr h => ?_)
  · obtain ⟨_, _, _, _, _, rfl, _⟩ := h; rfl
  · obtain ⟨a, p, kvs, m, ns, rfl, ha, d, hp, hm, k⟩ := h
    refine ⟨_, (pss_one (ps_for PassesOwn.never rfl (pi_seqK (K := K) rfl (pv 1)) (pg_name (i := 2) sc_check_houses.nd rfl (Or.inl rfl))
      (pss_one (ps_if (pt_cmp (pc_dnotin (hu_of hr) (pv 2) (pv 0))) (pss_one ps_never) pss_nil)))), ?_⟩
    (try simp only [cxK, cxKX, List.map])
    refine ent (σ' := [some _, some _, none]) rfl ?_
    k_offL
    refine loopS (ns.map V.int) hp (fun i σ' H' => (∃ v, σ' = [some (.ref a), some (.ref p), v]) ∧ H' = H) ⟨⟨_, rfl⟩, rfl⟩ (fun i σ' H' z => by rw [z.2]; exact Fr.refl _ _) ?_ ?_
    · rintro i x σ' _ hi ⟨⟨v, rfl⟩, rfl⟩
      obtain ⟨n, _, hn, rfl⟩ := mem_ints hi
      k_offL
      refine dink ha ?_
      refine blk (ifE (show _ = false by rw [d.val, hm n hn]; rfl) ?_)
      k_offL
      exact ⟨⟨_, rfl⟩, rfl⟩
    · rintro σ' _ ⟨⟨v, rfl⟩, rfl⟩
      exact k
end
def spCheckTables : Sp := fun vs H Q _ => ∃ (a b l : Addr) (kn kb : List (Key × V)) (lv : List V) (N : NS) (bd : Unit), vs = [.int N.size, .ref a, .ref b, .ref l] ∧ H a = some (.dK kn) ∧ DOk kn N.mf ∧ H b = some (.dK kb) ∧ DOk kb N.lb ∧ H l = some (.lst lv) ∧ LetsIs H N.post lv ∧ N.Ok ∧
  ∀ H', Fr [] H H' → Q .non H'
def NS.bs (N : NS) : List Int := N.hs.filter fun h => (N.b h).isSome
theorem NS.Ok.ascL {N : NS} (h : N.Ok) : Asc N.bs N.lb := ⟨h.up.filter _, fun n => by
  unfold NS.bs NS.lb
  rw [List.mem_filter, Option.isSome_map]
  constructor
  · exact fun z => z.2
  · intro z
    obtain ⟨x, hx⟩ := Option.isSome_iff_exists.mp z
    exact ⟨(h.bh n x hx).1, z⟩⟩
theorem NS.Ok.bl {N : NS} (h : N.Ok) : N.bs.length ≤ 45 := Nat.le_trans (List.length_filter_le _ _) h.hl
theorem NS.mf_some {N : NS} {h : Int} (m : h ∈ N.hs) : (N.mf h).isSome = true := by rw [NS.mf_at m]; rfl
section
variable {P : Program} {w : World} {K : PySem.W.Frag} {mg : Str → Option Value} {base : Heap} {CNet CMender CDesk CStore CWalk : Addr}
abbrev s_check_tables : Stmt := top 44
theorem sc_check_tables : FnScope ["size", "nexts", "behinds", "post", "house", "letter"] ["size", "nexts", "behinds", "post"] (defScope s_check_tables) := ⟨rfl, rfl, rfl, by decide +kernel, rfl, by decide +kernel, by decide +kernel⟩
theorem ok_check_tables {f : Addr} {fd : FuncData} (F : Fun K "check_tables" "check_tables" s_check_tables f fd) (m_sorted : mg "sorted" = none) (G_check_place : GF P w K mg base "check_place" 1 ["size", "place"] spCheckPlace) (G_check_houses : GF P w K mg base "check_houses" 1 ["houses", "places"] (spCheckHouses K)) (G_letter_places : GF P w K mg base "letter_places" 1 ["letter"] spLetterPlaces) : FnOk P w K mg base CX0 2 f fd ["size", "nexts", "behinds", "post"] spCheckTables := by
  refine F.ok sc_check_tables (fun vs H Q E h => ?_) (fun cdv A outer s H vs Q E hr h => ?_)
  · obtain ⟨_, _, _, _, _, _, _, _, rfl, _⟩ := h; rfl
  · obtain ⟨a, b, l, kn, kb, lv, N, _, rfl, ha, da, hb, db, hl, ls, ok, k⟩ := h
    refine ⟨_, (pss_cons (ps_for PassesOwn.never rfl (pi_listK (K := K) rfl (pe_callB (cb_sortD rfl) (by rfl) m_sorted b_sorted (pa_cons (pv 1) pa_nil))) (pg_name (i := 4) sc_check_tables.nd rfl (Or.inl rfl))
      (pss_one (ps_expr (c_fn G_check_place (hr.mono (by decide)) (pa_cons (pv 0) (pa_cons (pv 4) pa_nil))))))
      (pss_cons (ps_for PassesOwn.never rfl (pi_listK (K := K) rfl (pe_callB (cb_sortD rfl) (by rfl) m_sorted b_sorted (pa_cons (pv 1) pa_nil))) (pg_name (i := 4) sc_check_tables.nd rfl (Or.inl rfl))
      (pss_one (ps_expr (c_fn G_check_houses (hr.mono (by decide)) (pa_cons (pv 1) (pa_cons (pe_lst (pa_cons (pe_dget (hu_of hr) (pv 1) (pv 4) (by intro _ _; rfl)) pa_nil)) pa_nil))))))
      (pss_cons (ps_for PassesOwn.never rfl (pi_listK (K := K) rfl (pe_callB (cb_sortD rfl) (by rfl) m_sorted b_sorted (pa_cons (pv 2) pa_nil))) (pg_name (i := 4) sc_check_tables.nd rfl (Or.inl rfl))
      (pss_one (ps_expr (c_fn G_check_houses (hr.mono (by decide)) (pa_cons (pv 1) (pa_cons (pe_lst (pa_cons (pv 4) (pa_cons (pe_dget (hu_of hr) (pv 2) (pv 4) (by intro _ _; rfl)) pa_nil))) pa_nil))))))
      (pss_one (ps_for PassesOwn.never rfl (pi_listK (K := K) rfl (pv 3)) (pg_name (i := 5) sc_check_tables.nd rfl (Or.inl rfl))
      (pss_one (ps_expr (c_fn G_check_houses (hr.mono (by decide)) (pa_cons (pv 1) (pa_cons (c_fn G_letter_places (hr.mono (by decide)) (pa_cons (pv 5) pa_nil)) pa_nil)))))))))), ?_⟩
    (try simp only [cxK, cxKX, List.map])
    refine ent (σ' := [some _, some _, some _, some _, none, none]) rfl ?_
    k_offL
    refine r_sortD (.inl ha) da ok.ascF (by have := ok.hl; omega) fun s1 H1 n1 e1 f1 => ?_
    refine loopLF (M := []) (N.hs.map V.int) (sqL_of e1) (fun z => nomatch z) (fun i σ' H' => (∃ v v2, σ' = [some (.int N.size), some (.ref a), some (.ref b), some (.ref l), v, v2]) ∧ Fr [] H1 H') ⟨⟨_, _, rfl⟩, Fr.refl _ _⟩ (fun i σ' H' z => z.2) ?_ ?_
    · rintro i x σ' H2 hi ⟨⟨v, v2, rfl⟩, f2⟩
      obtain ⟨n, _, hn, rfl⟩ := mem_ints hi
      k_offL
      refine i_check_place (ok.on n hn).1 (ok.on n hn).2 ?_
      k_offL
      exact ⟨⟨_, _, rfl⟩, f2⟩
    · rintro σ' H2 ⟨⟨v, v2, rfl⟩, f2⟩
      have g2 := f1.trans f2
      k_offL
      refine r_sortD (.inl (g2.at_ _ _ ha (fun z => nomatch z))) da ok.ascF (by have := ok.hl; omega) fun s2 H3 n3 e3 f3 => ?_
      have g3 := g2.trans f3
      refine loopLF (M := []) (N.hs.map V.int) (sqL_of e3) (fun z => nomatch z) (fun i σ' H' => (∃ v v2, σ' = [some (.int N.size), some (.ref a), some (.ref b), some (.ref l), v, v2]) ∧ Fr [] H3 H') ⟨⟨_, _, rfl⟩, Fr.refl _ _⟩ (fun i σ' H' z => z.2) ?_ ?_
      · rintro i x σ' H4 hi ⟨⟨v, v2, rfl⟩, f4⟩
        have g4 := g3.trans f4
        obtain ⟨n, _, hn, rfl⟩ := mem_ints hi
        k_offL
        refine dgetk (.inl (g4.at_ _ _ ha (fun z => nomatch z))) (by rw [da.val, NS.mf_at hn]) ?_
        k_offL
        refine lstk (by show 1 ≤ 100000; decide) fun p H5 n5 e5 f5 => ?_
        k_offL
        refine i_check_houses [N.f n] (.inl ((g4.trans f5).at_ _ _ ha (fun z => nomatch z))) da (.inl (sqL_of e5)) (fun x hx => ?_) ?_
        · rw [List.mem_singleton.mp hx]; exact NS.mf_some (ok.fh n hn)
        · k_offL
          exact ⟨⟨_, _, rfl⟩, f4.trans f5⟩
      · rintro σ' H4 ⟨⟨v, v2, rfl⟩, f4⟩
        have g4 := g3.trans f4
        k_offL
        refine r_sortD (.inl (g4.at_ _ _ hb (fun z => nomatch z))) db ok.ascL (by have := ok.bl; omega) fun s3 H5 n5 e5 f5 => ?_
        have g5 := g4.trans f5
        refine loopLF (M := []) (N.bs.map V.int) (sqL_of e5) (fun z => nomatch z) (fun i σ' H' => (∃ v v2, σ' = [some (.int N.size), some (.ref a), some (.ref b), some (.ref l), v, v2]) ∧ Fr [] H5 H') ⟨⟨_, _, rfl⟩, Fr.refl _ _⟩ (fun i σ' H' z => z.2) ?_ ?_
        · rintro i x σ' H6 hi ⟨⟨v, v2, rfl⟩, f6⟩
          have g6 := g5.trans f6
          obtain ⟨n, _, hn, rfl⟩ := mem_ints hi
          obtain ⟨hn1, hn2⟩ := List.mem_filter.mp hn
          obtain ⟨x, hx⟩ := Option.isSome_iff_exists.mp hn2
          k_offL
          refine dgetk (v := .int x) (.inl (g6.at_ _ _ hb (fun z => nomatch z))) (by rw [db.val]; unfold NS.lb; rw [hx]; rfl) ?_
          k_offL
          refine lstk (by show 2 ≤ 100000; decide) fun p H7 n7 e7 f7 => ?_
          k_offL
          refine i_check_houses [n, x] (.inl ((g6.trans f7).at_ _ _ ha (fun z => nomatch z))) da (.inl (sqL_of e7)) (fun y hy => ?_) ?_
          · rcases List.mem_cons.mp hy with e | e
            · rw [e]; exact NS.mf_some hn1
            · rw [List.mem_singleton.mp e]; exact NS.mf_some (ok.bh n x hx).2
          · k_offL
            exact ⟨⟨_, _, rfl⟩, f6.trans f7⟩
        · rintro σ' H6 ⟨⟨v, v2, rfl⟩, f6⟩
          have g6 := g5.trans f6
          k_offL
          refine loopLF (M := []) lv (sqL_of (g6.at_ _ _ hl (fun z => nomatch z))) (fun z => nomatch z) (fun i σ' H' => (∃ v v2, σ' = [some (.int N.size), some (.ref a), some (.ref b), some (.ref l), v, v2]) ∧ Fr [] H6 H') ⟨⟨_, _, rfl⟩, Fr.refl _ _⟩ (fun i σ' H' z => z.2) ?_ ?_
          · rintro i x σ' H7 hi ⟨⟨v, v2, rfl⟩, f7⟩
            have g7 := g6.trans f7
            have hlt : i < N.post.length := by rw [← ls.len]; exact (List.getElem?_eq_some_iff.mp hi).1
            obtain ⟨t, ht, hT⟩ := ls.at_ i N.post[i] (List.getElem?_eq_getElem hlt)
            rw [hi] at ht
            cases ht
            k_offL
            refine ⟨t, N.post[i], rfl, g7.tp _ _ hT, fun p H8 n8 e8 f8 => ?_⟩
            k_offL
            refine i_check_houses N.post[i].pl (.inl ((g7.trans f8).at_ _ _ ha (fun z => nomatch z))) da (.inr (sqT_of e8)) (fun y hy => NS.mf_some (ok.ph _ (List.getElem_mem hlt) y hy)) ?_
            k_offL
            exact ⟨⟨_, _, rfl⟩, f7.trans f8⟩
          · rintro σ' H7 ⟨⟨v, v2, rfl⟩, f7⟩
            exact k H7 (g6.trans f7)
end
end RL
set_option synthInstance.maxHeartbeats 4000000
set_option synthInstance.maxSize 4000
namespace RL
def BefArg (H : Hp) (v : V) (N : NS) : Prop := (v = .non ∧ ∀ h, N.b h = none) ∨ ∃ a kvs, v = .ref a ∧ H a = some (.dK kvs) ∧ DOk kvs N.lb
def LetArg (H : Hp) (v : V) (N : NS) : Prop := (v = .non ∧ N.post = []) ∨ ∃ a lv, v = .ref a ∧ H a = some (.lst lv) ∧ LetsIs H N.post lv
def spNetInit (C : Addr) : Sp := fun vs H Q _ => ∃ (p dx n : Addr) (bv lv : V) (kn : List (Key × V)) (N : NS), vs = [.ref p, .int N.size, .ref n, bv, lv] ∧ H p = some (.ins C dx []) ∧ H n = some (.dK kn) ∧ DOk kn N.mf ∧ BefArg H bv N ∧ LetArg H lv N ∧ N.Ok ∧
  ∀ (da db dl : Addr) H', H da = none → H db = none → H dl = none → da ≠ db → NetAt C H' p da db dl N → Fr [p] H H' → Q .non H'
theorem nil_kvs : ([] : List Int).map (fun k => ((Sum.inl k : Key), V.non)) = [] := rfl
theorem DOk.nilB {N : NS} (h : ∀ h, N.b h = none) : DOk [] N.lb := DOk.nil.cong fun n => by unfold NS.lb; rw [h n]; rfl
theorem netF_put (z : Int) (da db dl : Addr) : putF "_letters" (.ref dl) (putF "_befores" (.ref db) (putF "_nexts" (.ref da) (putF "size" (.int z) []))) = netF z da db dl := by
  show putF "_letters" (.ref dl) (putF "_befores" (.ref db) (putF "_nexts" (.ref da) [(("size" : Str), V.int z)])) = _
  rw [putF_ne (by decide +kernel)]
  show putF "_letters" (.ref dl) (putF "_befores" (.ref db) [(("size" : Str), V.int z), (("_nexts" : Str), V.ref da)]) = _
  rw [putF_ne (by decide +kernel), putF_ne (by decide +kernel)]
  show putF "_letters" (.ref dl) [(("size" : Str), V.int z), (("_nexts" : Str), V.ref da), (("_befores" : Str), V.ref db)] = _
  rw [putF_ne (by decide +kernel), putF_ne (by decide +kernel), putF_ne (by decide +kernel)]
  rfl
theorem i_net {C n : Addr} {bv lv : V} {kn : List (Key × V)} {N : NS} {H : Hp} {Q : VK} {E : XK} {gV : List V → List V → List V} {vs zs : List V} {a b : Nat} (ha : vs.length = a) (hz : zs.length = b) (hg : ∀ x, gV (.ref x :: vs) zs = [.ref x, .int N.size, .ref n, bv, lv])
    (hn : H n = some (.dK kn)) (dn : DOk kn N.mf) (hb : BefArg H bv N) (hl : LetArg H lv N) (ok : N.Ok)
    (k : ∀ (x da db dl : Addr) H', H x = none → H da = none → H db = none → H dl = none → NetAt C H' x da db dl N → Fr [] H H' → Q (.ref x) H') : MkK C a b (spNetInit C) gV E vs zs Q H := by
  refine ⟨ha, hz, fun x dx nx nd ne => ?_⟩
  have f0 := new_ins (C := C) nx nd ne
  have nn : ∀ a : Addr, a ∉ ([] : List Addr) := fun a z => nomatch z
  rw [hg x]
  refine ⟨x, dx, n, bv, lv, kn, N, rfl, upd_same, f0.at_ _ _ hn (nn _), dn, ?_, ?_, ok, fun da db dl H' na nb nl _ hN f => ⟨rfl, k x da db dl H' nx (f0.free na) (f0.free nb) (f0.free nl) hN (f0.drop f nx)⟩⟩
  · rcases hb with hb | ⟨a, kvs, e, e1, d⟩
    · exact .inl hb
    · exact .inr ⟨a, kvs, e, f0.at_ _ _ e1 (nn _), d⟩
  · rcases hl with hb | ⟨a, kvs, e, e1, d⟩
    · exact .inl hb
    · exact .inr ⟨a, kvs, e, f0.at_ _ _ e1 (nn _), d.fr f0⟩
section
variable {P : Program} {w : World} {K : PySem.W.Frag} {mg : Str → Option Value} {base : Heap} {CNet CMender CDesk CStore CWalk : Addr}
abbrev s_Net___init__ : Stmt := inClass (top 45) 0
theorem sc_Net___init__ : FnScope ["self", "size", "nexts", "befores", "letters", "behinds", "post", "house"] ["self", "size", "nexts", "befores", "letters"] (defScope s_Net___init__) := ⟨rfl, rfl, rfl, by decide +kernel, rfl, by decide +kernel, by decide +kernel⟩
theorem ok_Net___init__ {f : Addr} {fd : FuncData} (F : Fun K "__init__" "Net.__init__" s_Net___init__ f fd) (G_check_tables : GF P w K mg base "check_tables" 2 ["size", "nexts", "behinds", "post"] spCheckTables) (m_dict : mg "dict" = none) (m_list : mg "list" = none) (T : NetT K CNet) : FnOk P w K mg base CX0 3 f fd ["self", "size", "nexts", "befores", "letters"] (spNetInit CNet) := by
  refine F.ok sc_Net___init__ (fun vs H Q E h => ?_) (fun cdv A outer s H vs Q E hr h => ?_)
  · obtain ⟨_, _, _, _, _, _, _, rfl, _⟩ := h; rfl
  · obtain ⟨p, dx, n, bv, lv, kn, N, rfl, hp, hn, dn, hb, hl, ok, k⟩ := h
    refine ⟨_, (pss_cons (ps_set (i := 5) sc_Net___init__.nd rfl (Or.inr rfl) (pe_ifExp (pt_cmpR op_isNn (pv 3) pe_non (nomark _)) pe_dnewK (pv 3)))
      (pss_cons (ps_set (i := 6) sc_Net___init__.nd rfl (Or.inl rfl) (pe_ifExp (pt_cmpR op_isNn (pv 4) pe_non (nomark _)) (pe_lst pa_nil) (pv 4)))
      (pss_cons (ps_expr (c_fn G_check_tables (hr.mono (by decide)) (pa_cons (pv 1) (pa_cons (pv 2) (pa_cons (pv 5) (pa_cons (pv 6) pa_nil))))))
      (pss_cons (ps_fldK (K := K) rfl (pv 0) (pv 1) rfl)
      (pss_cons (ps_fldK (K := K) rfl (pv 0) (pe_callTy cb_dictD (by rfl) m_dict b_dict (pa_cons (pv 2) pa_nil)) rfl)
      (pss_cons (ps_fldK (K := K) rfl (pv 0) (pe_lock (pe_dc (own := [("house", 7)]) (g := gName 7) rfl sc_Net___init__.nd (pi_keys (pv 2)) (blkOk_by (N := ["self", "size", "nexts", "befores", "letters", "behinds", "post", "house"]) (sc := defScope s_Net___init__) (by decide +kernel)) (fun _ _ _ _ _ => (pg_name (i := 7) sc_Net___init__.nd rfl (Or.inl rfl))) (fun _ _ _ _ _ => pts_nil) (fun _ _ _ _ _ => (pv 7)) (fun _ _ _ _ _ => (pe_dget1 (hu_of hr) (pv 5) (pv 7) ⟨by rfl, by rfl, by rfl, by rfl⟩)))) rfl)
      (pss_one (ps_fldK (K := K) rfl (pv 0) (pe_callTy (cb_listOfK (K := K) rfl) (by rfl) m_list b_list (pa_cons (pv 6) pa_nil)) rfl)))))))), ?_⟩
    (try simp only [cxK, cxKX, List.map])
    refine ent (σ' := [some _, some _, some _, some _, some _, none, none, none]) rfl ?_
    have nn : ∀ a : Addr, a ∉ ([] : List Addr) := fun a z => nomatch z
    have hL : ∀ (H1 : Hp), Fr [] H H1 → LetArg H1 lv N := fun H1 f => by
      rcases hl with hl | ⟨a, kvs, e, e1, d⟩
      · exact .inl hl
      · exact .inr ⟨a, kvs, e, f.at_ _ _ e1 (nn _), d.fr f⟩
    refine q_asgM (fun v H1 => ∃ (ab : Addr) (kb : List (Key × V)), v = .ref ab ∧ Fr [] H H1 ∧ H1 ab = some (.dK kb) ∧ DOk kb N.lb) (fun R kR => ?_) ?_
    · k_offL
      refine ifD (fun e => ?_) (fun e => ?_)
      · k_offL
        refine newk fun ab H1 n1 e1 f1 => ?_
        rcases hb with ⟨_, hb⟩ | ⟨a, kvs, e', _⟩
        · exact kR _ _ ⟨ab, [], rfl, f1, e1, DOk.nilB hb⟩
        · rw [e'] at e; cases e
      · k_offL
        rcases hb with ⟨e', _⟩ | ⟨a, kvs, e', e1, d⟩
        · exact absurd e' e
        · subst e'
          exact kR _ _ ⟨a, kvs, rfl, Fr.refl _ _, e1, d⟩
    rintro _ H1 ⟨ab, kb, rfl, f1, eb, db⟩
    k_places
    refine q_asgM (fun v H2 => ∃ (al : Addr) (kl : List V), v = .ref al ∧ Fr [] H1 H2 ∧ H2 al = some (.lst kl) ∧ LetsIs H2 N.post kl) (fun R kR => ?_) ?_
    · k_offL
      refine ifD (fun e => ?_) (fun e => ?_)
      · k_offL
        refine lstk (by show 0 ≤ 100000; decide) fun al H2 n2 e2 f2 => ?_
        rcases hl with ⟨_, hl⟩ | ⟨a, kvs, e', _⟩
        · exact kR _ _ ⟨al, [], rfl, f2, e2, by rw [hl]; exact LetsIs.nil⟩
        · rw [e'] at e; cases e
      · k_offL
        rcases hL H1 f1 with ⟨e', _⟩ | ⟨a, kvs, e', e1, d⟩
        · exact absurd e' e
        · subst e'
          exact kR _ _ ⟨a, kvs, rfl, Fr.refl _ _, e1, d⟩
    rintro _ H2 ⟨al, kl, rfl, f2, el, dl⟩
    k_offL
    have f02 := f1.trans f2
    refine ⟨n, ab, al, kn, kb, kl, N, (), rfl, f02.at_ _ _ hn (nn _), dn, f2.at_ _ _ eb (nn _), db, el, dl, ok, fun H3 f3 => ?_⟩
    have f03 := f02.trans f3
    k_offL
    refine stfk (f03.at_ _ _ hp (nn _)) T.cl T.n1 (by decide) fun H4 e4 f4 => ?_
    have pn : n ≠ p := ne_of hn hp (by intro z; cases z)
    have pal : al ≠ p := ne_of el (f02.at_ _ _ hp (nn _)) (by intro z; cases z)
    have pab : ab ≠ p := ne_of eb (f1.at_ _ _ hp (nn _)) (by intro z; cases z)
    have m1 : ∀ a : Addr, a ≠ p → a ∉ [p] := fun a h z => h (List.mem_singleton.mp z)
    have f04 : Fr [p] H H4 := f03.up.trans f4
    k_offL
    refine r_dictD (.inl (f04.at_ _ _ hn (m1 _ pn))) fun da H5 n5 e5 f5 => ?_
    k_offL
    have q5 : H5 p = some (.ins CNet dx [("size", V.int N.size)]) := f5.at_ _ _ e4 (nn _)
    refine stfk q5 T.cl T.n2 (by show 1 < 1000; decide) fun H6 e6 f6 => ?_
    have pda : da ≠ p := (ne_of_none e4 n5).symm
    have f06 : Fr [p] H H6 := (f04.trans f5.up).trans f6
    have n0a : H da = none := by
      cases q : H da with
      | none => rfl
      | some o => rw [f04.at_ _ _ q (m1 _ pda)] at n5; cases n5
    k_offL
    have qn : H6 n = some (.dK kn) := f06.at_ _ _ hn (m1 _ pn)
    have qda : H6 da = some (.dK kn) := f6.at_ _ _ e5 (m1 _ pda)
    obtain ⟨ks, hks⟩ := dn.ik
    have nd : ks.Nodup := nodup_map_inl.mp (by rw [← hks]; exact dn.nd)
    have hln : kn.length = ks.length := by have := congrArg List.length hks; simpa using this
    have hlk := dn.len ok.ascF
    have hlm := ok.hl
    have f46 := f5.up (M := [p]) |>.trans f6
    have qab : H6 ab = some (.dK kb) := f46.at_ _ _ (f4.at_ _ _ ((f2.trans f3).at_ _ _ eb (nn _)) (m1 _ pab)) (m1 _ pab)
    refine x_lockE qn fun od H7 e7 l7 => ?_
    have rab : Rd H7 ab (.dK kb) := by
      by_cases z : ab = n
      · subst z
        rw [qab] at qn
        cases qn
        exact .inr ⟨od, e7⟩
      · exact .inl (l7 _ _ z qab)
    k_offL
    refine keysk e7 ?_
    refine dcV (walk_keys (kvs := kn)) ks nd hln (fun i H0 x H' _ y => yKey hks y) (fun _ => true) (fun k => oV (N.b k)) (fun H' f => f.fz _ _ _ e7) (by omega) (fun k' H' hk' f => ?_) fun db' H8 n8 e8 f8 => ?_
    · refine sk7 ⟨fun R kR => kR H' (Fr.refl _ _), fun _ H3 f3' R kR => ?_⟩
      have r3 : Rd H3 ab (.dK kb) := (f.trans f3').rd rab (nn _)
      k_offL
      refine dg1a r3 ?_
      k_offL
      refine dg1b r3 ?_
      have ev : (valV kb (Sum.inl k')).getD V.non = oV (N.b k') := by
        rw [db.val]
        unfold NS.lb
        cases N.b k' <;> rfl
      rw [ev]
      exact kR H3 (Fr.refl _ _)
    · have nd7 : db' ≠ n := (ne_of_none e7 n8).symm
      refine unlk qn e7 l7 f8 fun H9 f9 keep => ?_
      have e9 := keep _ _ nd7 e8
      have q9 := f9.at_ _ _ e6 (nn _)
      have f09 : Fr [p] H H9 := f06.trans f9.up
      k_offL
      refine stfk q9 T.cl T.n3 (by show 2 < 1000; decide) fun H10 e10 f10 => ?_
      have f0a : Fr [p] H H10 := f09.trans f10
      have n6b : H6 db' = none := by
        cases q : H6 db' with
        | none => rfl
        | some o => rw [l7 _ _ nd7 q] at n8; cases n8
      have pdb : db' ≠ p := (ne_of_none e6 n6b).symm
      have dab : da ≠ db' := ne_of_none qda n6b
      have n0b : H db' = none := by
        cases q : H db' with
        | none => rfl
        | some o => rw [f06.at_ _ _ q (m1 _ pdb)] at n6b; cases n6b
      have qal : H10 al = some (.lst kl) := f10.at_ _ _ (f9.at_ _ _ (f46.at_ _ _ (f4.at_ _ _ (f3.at_ _ _ el (nn _)) (m1 _ pal)) (m1 _ pal)) (nn _)) (m1 _ pal)
      k_offL
      refine r_listL (sqL_of qal) fun dl' H11 n11 e11 f11 => ?_
      k_offL
      have pdl : dl' ≠ p := (ne_of_none e10 n11).symm
      refine stfk (f11.at_ _ _ e10 (nn _)) T.cl T.n4 (by show 3 < 1000; decide) fun H12 e12 f12 => ?_
      have f0c : Fr [p] H H12 := (f0a.trans f11.up).trans f12
      have n0l : H dl' = none := by
        cases q : H dl' with
        | none => rfl
        | some o => rw [f0a.at_ _ _ q (m1 _ pdl)] at n11; cases n11
      have f6c : Fr [p] H6 H12 := ((f9.up.trans f10).trans f11.up).trans f12
      have hk9 : (fun k => ((Sum.inl k : Key), oV (N.b k))) = fun k => ((Sum.inl k : Key), oV (N.b k)) := rfl
      refine k da db' dl' H12 n0a n0b n0l dab ⟨⟨dx, by rw [e12]; exact congrArg (fun z => some (HO.ins CNet dx z)) (netF_put N.size da db' dl')⟩, ⟨kn, f6c.at_ _ _ qda (m1 _ pda), dn⟩,
        ⟨_, f12.at_ _ _ (f11.at_ _ _ (f10.at_ _ _ e9 (m1 _ pdb)) (nn _)) (m1 _ pdb), ?_⟩, ⟨kl, f12.at_ _ _ e11 (m1 _ pdl), dl.fr (((((f3.up (M := [p])).trans f4).trans f46).trans f9.up |>.trans f10).trans f11.up |>.trans f12)⟩, dab⟩ f0c
      rw [List.filter_eq_self.mpr fun _ _ => rfl]
      refine (DOk.ofMap nd fun k => oV (N.b k)).cong fun x => ?_
      have hx : x ∈ ks ↔ x ∈ N.hs := by
        rw [ok.ascF.mem, ← dn.mem, hks]
        simp
      unfold NS.mb
      by_cases z : x ∈ N.hs
      · rw [if_pos z, if_pos (hx.mpr z)]
      · rw [if_neg z, if_neg fun q => z (hx.mp q)]
end
end RL
set_option synthInstance.maxHeartbeats 4000000
set_option synthInstance.maxSize 4000
namespace RL
def spHouses (C : Addr) : Sp := fun vs H Q _ => ∃ (p da db dl : Addr) (N : NS), vs = [.ref p] ∧ NetAt C H p da db dl N ∧ N.Ok ∧ ∀ l H', H l = none → H' l = some (.lst (N.hs.map V.int)) → Fr [] H H' → Q (.ref l) H'
section
variable {P : Program} {w : World} {K : PySem.W.Frag} {mg : Str → Option Value} {base : Heap} {CNet CMender CDesk CStore CWalk : Addr}
abbrev s_Net_houses : Stmt := inClass (top 45) 1
theorem sc_Net_houses : FnScope ["self"] ["self"] (defScope s_Net_houses) := ⟨rfl, rfl, rfl, by decide +kernel, rfl, by decide +kernel, by decide +kernel⟩
theorem ok_Net_houses {f : Addr} {fd : FuncData} (F : Fun K "houses" "Net.houses" s_Net_houses f fd) (m_sorted : mg "sorted" = none) (T : NetT K CNet) : FnOk P w K mg base CX0 1 f fd ["self"] (spHouses CNet) := by
  refine F.ok sc_Net_houses (fun vs H Q E h => ?_) (fun cdv A outer s H vs Q E hr h => ?_)
  · obtain ⟨_, _, _, _, _, rfl, _⟩ := h; rfl
  · obtain ⟨p, da, db, dl, N, rfl, hN, ok, k⟩ := h
    refine ⟨_, (pss_one (ps_ret (pe_callB (cb_sortD rfl) (by rfl) m_sorted b_sorted (pa_cons (pe_fldK (K := K) rfl (pv 0) (by rfl)) pa_nil)))), ?_⟩
    (try simp only [cxK, cxKX, List.map])
    refine ent (σ' := [some _]) rfl ?_
    obtain ⟨⟨dx, hp⟩, ⟨kn, hn, dn⟩, _⟩ := id hN
    k_offL
    exact r_sortD (.inl hn) dn ok.ascF (by have := ok.hl; omega) k
end
def spNextOf (C : Addr) : Sp := fun vs H Q _ => ∃ (p da db dl : Addr) (N : NS) (h : Int), vs = [.ref p, .int h] ∧ NetAt C H p da db dl N ∧ h ∈ N.hs ∧ ∀ H', Fr [] H H' → Q (.int (N.f h)) H'
section
variable {P : Program} {w : World} {K : PySem.W.Frag} {mg : Str → Option Value} {base : Heap} {CNet CMender CDesk CStore CWalk : Addr}
abbrev s_Net_next_of : Stmt := inClass (top 45) 2
theorem sc_Net_next_of : FnScope ["self", "house"] ["self", "house"] (defScope s_Net_next_of) := ⟨rfl, rfl, rfl, by decide +kernel, rfl, by decide +kernel, by decide +kernel⟩
theorem ok_Net_next_of {f : Addr} {fd : FuncData} (F : Fun K "next_of" "Net.next_of" s_Net_next_of f fd) (G_check_houses : GF P w K mg base "check_houses" 1 ["houses", "places"] (spCheckHouses K)) (T : NetT K CNet) : FnOk P w K mg base CX0 2 f fd ["self", "house"] (spNextOf CNet) := by
  refine F.ok sc_Net_next_of (fun vs H Q E h => ?_) (fun cdv A outer s H vs Q E hr h => ?_)
  · obtain ⟨_, _, _, _, _, _, rfl, _⟩ := h; rfl
  · obtain ⟨p, da, db, dl, N, x, rfl, hN, hx, k⟩ := h
    refine ⟨_, (pss_cons (ps_expr (c_fn G_check_houses (hr.mono (by decide)) (pa_cons (pe_fldK (K := K) rfl (pv 0) (by rfl)) (pa_cons (pe_lst (pa_cons (pv 1) pa_nil)) pa_nil))))
      (pss_one (ps_ret (pe_dget (hu_of hr) (pe_fldK (K := K) rfl (pv 0) (by rfl)) (pv 1) (by intro _ _; rfl))))), ?_⟩
    (try simp only [cxK, cxKX, List.map])
    refine ent (σ' := [some _, some _]) rfl ?_
    obtain ⟨⟨dx, hp⟩, ⟨kn, hn, dn⟩, _⟩ := id hN
    k_offL
    refine lstk (by show 1 ≤ 100000; decide) fun t H1 n1 e1 f1 => ?_
    k_offL
    refine i_check_houses [x] (.inl (by k_clsL)) dn (.inl (sqL_of e1)) (fun y hy => by rw [List.mem_singleton.mp hy]; exact NS.mf_some hx) ?_
    k_offL
    refine dgetk (.inl (by k_clsL)) (by rw [dn.val, NS.mf_at hx]) ?_
    exact k H1 f1
end
def NS.kn (N : NS) : List (Key × V) := N.hs.map fun h => (Sum.inl h, V.int (N.f h))
theorem NS.Ok.nd {N : NS} (h : N.Ok) : N.hs.Nodup := h.up.imp fun h => Int.ne_of_lt h
theorem NS.Ok.dkn {N : NS} (h : N.Ok) : DOk N.kn N.mf := DOk.ofMap h.nd fun k => V.int (N.f k)
def spNexts (C : Addr) : Sp := fun vs H Q _ => ∃ (p da db dl : Addr) (N : NS), vs = [.ref p] ∧ NetAt C H p da db dl N ∧ N.Ok ∧ ∀ l H', H l = none → H' l = some (.dK N.kn) → Fr [] H H' → Q (.ref l) H'
section
variable {P : Program} {w : World} {K : PySem.W.Frag} {mg : Str → Option Value} {base : Heap} {CNet CMender CDesk CStore CWalk : Addr}
abbrev s_Net_nexts : Stmt := inClass (top 45) 4
theorem sc_Net_nexts : FnScope ["self", "house"] ["self"] (defScope s_Net_nexts) := ⟨rfl, rfl, rfl, by decide +kernel, rfl, by decide +kernel, by decide +kernel⟩
theorem ok_Net_nexts {f : Addr} {fd : FuncData} (F : Fun K "nexts" "Net.nexts" s_Net_nexts f fd) (m_sorted : mg "sorted" = none) (T : NetT K CNet) : FnOk P w K mg base CX0 1 f fd ["self"] (spNexts CNet) := by
  refine F.ok sc_Net_nexts (fun vs H Q E h => ?_) (fun cdv A outer s H vs Q E hr h => ?_)
  · obtain ⟨_, _, _, _, _, rfl, _⟩ := h; rfl
  · obtain ⟨p, da, db, dl, N, rfl, hN, ok, k⟩ := h
    refine ⟨_, (pss_one (ps_ret (pe_dc (own := [("house", 1)]) (g := gName 1) rfl sc_Net_nexts.nd (pi_listK (K := K) rfl (pe_callB (cb_sortD rfl) (by rfl) m_sorted b_sorted (pa_cons (pe_fldK (K := K) rfl (pv 0) (by rfl)) pa_nil))) (blkOk_by (N := ["self", "house"]) (sc := defScope s_Net_nexts) (by decide +kernel)) (fun _ _ _ _ _ => (pg_name (i := 1) sc_Net_nexts.nd rfl (Or.inl rfl))) (fun _ _ _ _ _ => pts_nil) (fun _ _ _ _ _ => (pv 1)) (fun _ _ _ _ _ => (pe_dget (hu_of hr) (pe_fldK (K := K) rfl (pv 0) (by rfl)) (pv 1) (by intro _ _; rfl)))))), ?_⟩
    (try simp only [cxK, cxKX, List.map])
    refine ent (σ' := [some _, none]) rfl ?_
    obtain ⟨⟨dx, hp⟩, ⟨kn, hn, dn⟩, _⟩ := id hN
    have hlen := ok.hl
    k_offL
    refine r_sortD (.inl hn) dn ok.ascF (by omega) fun l1 H1 n1 e1 f1 => ?_
    refine walkL (sqL_of e1) ?_
    refine dcV (walk_list (xs := N.hs.map V.int)) N.hs ok.nd (by rw [List.length_map]) (fun i H0 x H' _ y => yAtI y) (fun _ => true) (fun h => .int (N.f h)) (fun H' f => f.sqL (sqL_of e1) (fun z => nomatch z)) (by omega) (fun h H' hm f => ?_) fun q H2 n2 e2 f2 => ?_
    · refine sk1 ⟨fun R kR => kR H' (Fr.refl _ _), fun _ H3 f3 R kR => ?_⟩
      k_offL
      refine dgetk (.inl (by k_clsL)) (by rw [dn.val, NS.mf_at hm]) ?_
      exact kR H3 (Fr.refl _ _)
    · rw [List.filter_eq_self.mpr fun _ _ => rfl] at e2
      exact k q H2 (f1.free n2) e2 (f1.trans f2)
end
def NS.kb (N : NS) : List (Key × V) := N.bs.map fun h => (Sum.inl h, oV (N.b h))
theorem NS.Ok.dkb {N : NS} (h : N.Ok) : DOk N.kb N.lb := (DOk.ofMap (h.nd.filter _) fun k => oV (N.b k)).cong fun n => by
  show (if n ∈ N.bs then some (oV (N.b n)) else none) = (N.b n).map V.int
  cases e : N.b n with
  | none =>
    have z : ¬ n ∈ N.bs := fun z => by
      have := (List.mem_filter.mp z).2
      simp [e] at this
    rw [if_neg z]; rfl
  | some x =>
    have z : n ∈ N.bs := List.mem_filter.mpr ⟨(h.bh n x e).1, by simp [e]⟩
    rw [if_pos z]; rfl
def spBefores (C : Addr) : Sp := fun vs H Q _ => ∃ (p da db dl : Addr) (N : NS), vs = [.ref p] ∧ NetAt C H p da db dl N ∧ N.Ok ∧ ∀ l H', H l = none → H' l = some (.dK N.kb) → Fr [] H H' → Q (.ref l) H'
section
variable {P : Program} {w : World} {K : PySem.W.Frag} {mg : Str → Option Value} {base : Heap} {CNet CMender CDesk CStore CWalk : Addr}
abbrev s_Net_befores : Stmt := inClass (top 45) 5
theorem sc_Net_befores : FnScope ["self", "behinds", "house"] ["self"] (defScope s_Net_befores) := ⟨rfl, rfl, rfl, by decide +kernel, rfl, by decide +kernel, by decide +kernel⟩
theorem ok_Net_befores {f : Addr} {fd : FuncData} (F : Fun K "befores" "Net.befores" s_Net_befores f fd) (m_sorted : mg "sorted" = none) (T : NetT K CNet) : FnOk P w K mg base CX0 1 f fd ["self"] (spBefores CNet) := by
  refine F.ok sc_Net_befores (fun vs H Q E h => ?_) (fun cdv A outer s H vs Q E hr h => ?_)
  · obtain ⟨_, _, _, _, _, rfl, _⟩ := h; rfl
  · obtain ⟨p, da, db, dl, N, rfl, hN, ok, k⟩ := h
    refine ⟨_, (pss_cons (ps_set (i := 1) sc_Net_befores.nd rfl (Or.inr rfl) (pe_fldK (K := K) rfl (pv 0) (by rfl)))
      (pss_one (ps_ret (pe_dc (own := [("house", 2)]) (g := gName 2) rfl sc_Net_befores.nd (pi_listK (K := K) rfl (pe_callB (cb_sortD rfl) (by rfl) m_sorted b_sorted (pa_cons (pv 1) pa_nil))) (blkOk_by (N := ["self", "behinds", "house"]) (sc := defScope s_Net_befores) (by decide +kernel)) (fun _ _ _ _ _ => (pg_name (i := 2) sc_Net_befores.nd rfl (Or.inl rfl))) (fun _ _ _ _ _ => pts_one (pt_cmpR op_notNn (pe_dget (hu_of hr) (pv 1) (pv 2) (by intro _ _; rfl)) pe_non (nomark _))) (fun _ _ _ _ _ => (pv 2)) (fun _ _ _ _ _ => (pe_dget (hu_of hr) (pv 1) (pv 2) (by intro _ _; rfl))))))), ?_⟩
    (try simp only [cxK, cxKX, List.map])
    refine ent (σ' := [some _, none, none]) rfl ?_
    obtain ⟨⟨dx, hp⟩, ⟨kn, hn, dn⟩, ⟨kb, hb, eb⟩, _⟩ := id hN
    have hlen := ok.hl
    k_offL
    refine r_sortD (.inl hb) eb ok.ascB (by omega) fun l1 H1 n1 e1 f1 => ?_
    refine walkL (sqL_of e1) ?_
    refine dcV (walk_list (xs := N.hs.map V.int)) N.hs ok.nd (by rw [List.length_map]) (fun i H0 x H' _ y => yAtI y) (fun h => (N.b h).isSome) (fun h => oV (N.b h)) (fun H' f => f.sqL (sqL_of e1) (fun z => nomatch z)) (by omega) (fun h H' hm f => ?_) fun q H2 n2 e2 f2 => ?_
    · refine sk2 ⟨fun R kR => ?_, fun _ H3 f3 R kR => ?_⟩
      · k_offL
        refine dgetk (.inl (by k_clsL)) (by rw [eb.val, NS.mb_at hm]) ?_
        k_offL
        have ev : (!decide (oV (N.b h) = V.non)) = (N.b h).isSome := by cases N.b h <;> rfl
        rw [ev]
        exact kR H' (Fr.refl _ _)
      · k_offL
        refine dgetk (.inl (by k_clsL)) (by rw [eb.val, NS.mb_at hm]) ?_
        exact kR H3 (Fr.refl _ _)
    · exact k q H2 (f1.free n2) e2 (f1.trans f2)
end
def spLetters (C : Addr) : Sp := fun vs H Q _ => ∃ (p da db dl : Addr) (N : NS), vs = [.ref p] ∧ NetAt C H p da db dl N ∧ ∀ l lv H', H l = none → H' l = some (.lst lv) → LetsIs H' N.post lv → Fr [] H H' → Q (.ref l) H'
section
variable {P : Program} {w : World} {K : PySem.W.Frag} {mg : Str → Option Value} {base : Heap} {CNet CMender CDesk CStore CWalk : Addr}
abbrev s_Net_letters : Stmt := inClass (top 45) 6
theorem sc_Net_letters : FnScope ["self"] ["self"] (defScope s_Net_letters) := ⟨rfl, rfl, rfl, by decide +kernel, rfl, by decide +kernel, by decide +kernel⟩
theorem ok_Net_letters {f : Addr} {fd : FuncData} (F : Fun K "letters" "Net.letters" s_Net_letters f fd) (m_list : mg "list" = none) (T : NetT K CNet) : FnOk P w K mg base CX0 1 f fd ["self"] (spLetters CNet) := by
  refine F.ok sc_Net_letters (fun vs H Q E h => ?_) (fun cdv A outer s H vs Q E hr h => ?_)
  · obtain ⟨_, _, _, _, _, rfl, _⟩ := h; rfl
  · obtain ⟨p, da, db, dl, N, rfl, hN, k⟩ := h
    refine ⟨_, (pss_one (ps_ret (pe_callTy (cb_listOfK (K := K) rfl) (by rfl) m_list b_list (pa_cons (pe_fldK (K := K) rfl (pv 0) (by rfl)) pa_nil)))), ?_⟩
    (try simp only [cxK, cxKX, List.map])
    refine ent (σ' := [some _]) rfl ?_
    obtain ⟨⟨dx, hp⟩, _, _, ⟨lv, hl, ls⟩, _⟩ := id hN
    k_offL
    exact r_listL (sqL_of hl) fun l H' n1 e1 f1 => k l lv H' n1 e1 (ls.fr f1) f1
end
def NS.push (N : NS) (l : LT) : NS := { N with post := N.post ++ [l] }
def spSend (C : Addr) : Sp := fun vs H Q _ => ∃ (p da db dl : Addr) (N : NS) (w : Str) (h : Int) (l : LT), vs = [.ref p, .str w, .int h] ∧ NetAt C H p da db dl N ∧ h ∈ N.hs ∧ N.Ok ∧ l.vs = [.str w, .int (N.f h), .int h] ∧
  ∀ t H', H' t = some (.tup l.vs) → NetAt C H' p da db dl (N.push l) → Fr [dl] H H' → Q (.ref t) H'
section
variable {P : Program} {w : World} {K : PySem.W.Frag} {mg : Str → Option Value} {base : Heap} {CNet CMender CDesk CStore CWalk : Addr}
abbrev s_Net__send : Stmt := inClass (top 45) 11
theorem sc_Net__send : FnScope ["self", "word", "house", "letter"] ["self", "word", "house"] (defScope s_Net__send) := ⟨rfl, rfl, rfl, by decide +kernel, rfl, by decide +kernel, by decide +kernel⟩
theorem ok_Net__send {f : Addr} {fd : FuncData} (F : Fun K "_send" "Net._send" s_Net__send f fd) (G_check_houses : GF P w K mg base "check_houses" 1 ["houses", "places"] (spCheckHouses K)) (T : NetT K CNet) : FnOk P w K mg base CX0 2 f fd ["self", "word", "house"] (spSend CNet) := by
  refine F.ok sc_Net__send (fun vs H Q E h => ?_) (fun cdv A outer s H vs Q E hr h => ?_)
  · obtain ⟨_, _, _, _, _, _, _, _, rfl, _⟩ := h; rfl
  · obtain ⟨p, da, db, dl, N, wd, x, l, rfl, hN, hx, ok, hl, k⟩ := h
    refine ⟨_, (pss_cons (ps_expr (c_fn G_check_houses (hr.mono (by decide)) (pa_cons (pe_fldK (K := K) rfl (pv 0) (by rfl)) (pa_cons (pe_lst (pa_cons (pv 2) pa_nil)) pa_nil))))
      (pss_cons (ps_set (i := 3) sc_Net__send.nd rfl (Or.inl rfl) (pe_tup (pa_cons (pv 1) (pa_cons (pe_dget (hu_of hr) (pe_fldK (K := K) rfl (pv 0) (by rfl)) (pv 2) (by intro _ _; rfl)) (pa_cons (pv 2) pa_nil)))))
      (pss_cons (ps_expr (pe_bmK (K := K) rfl PySem.F.plainAttrs_list PySem.F.slot_list_append PySem.F.type_list_append mt_append (pe_fldK (K := K) rfl (pv 0) (by rfl)) (pa_cons (pv 3) pa_nil)))
      (pss_one (ps_ret (pv 3)))))), ?_⟩
    (try simp only [cxK, cxKX, List.map])
    refine ent (σ' := [some _, some _, some _, none]) rfl ?_
    obtain ⟨⟨dx, hp⟩, ⟨kn, hn, dn⟩, ⟨kb, hb, eb⟩, ⟨lv, hl', ls⟩, ne⟩ := id hN
    k_offL
    refine lstk (by show 1 ≤ 100000; decide) fun t H1 n1 e1 f1 => ?_
    k_offL
    refine i_check_houses [x] (.inl (by k_clsL)) dn (.inl (sqL_of e1)) (fun y hy => by rw [List.mem_singleton.mp hy]; exact NS.mf_some hx) ?_
    k_offL
    refine dgetk (.inl (by k_clsL)) (by rw [dn.val, NS.mf_at hx]) ?_
    k_offL
    refine tupk (by show 3 ≤ 100000; decide) fun t H2 n2 e2 f2 => ?_
    rw [← hl] at e2
    k_offL
    refine r_app (xs := lv) (by k_clsL) (by rw [ls.len]; have := ok.pl; omega) fun H3 e3 f3 => ?_
    k_offL
    have f03 : Fr [dl] H H3 := ((f1.trans f2).up (M := [dl])).trans f3
    refine k t H3 (f3.tp _ _ e2) ⟨⟨dx, by k_clsL⟩, ⟨kn, by k_clsL, dn⟩, ⟨kb, by k_clsL, eb⟩, ⟨_, e3, (ls.fr f03).snoc (f3.tp _ _ e2)⟩, ne⟩ f03
end
def spTell (C : Addr) : Sp := fun vs H Q _ => ∃ (p da db dl : Addr) (N : NS) (h : Int), vs = [.ref p, .int h] ∧ NetAt C H p da db dl N ∧ h ∈ N.hs ∧ N.Ok ∧
  ∀ t H', H' t = some (.tup (LT.tell (N.f h) h).vs) → NetAt C H' p da db dl (N.push (.tell (N.f h) h)) → Fr [dl] H H' → Q (.ref t) H'
section
variable {P : Program} {w : World} {K : PySem.W.Frag} {mg : Str → Option Value} {base : Heap} {CNet CMender CDesk CStore CWalk : Addr}
abbrev s_Net_tell : Stmt := inClass (top 45) 9
theorem sc_Net_tell : FnScope ["self", "house"] ["self", "house"] (defScope s_Net_tell) := ⟨rfl, rfl, rfl, by decide +kernel, rfl, by decide +kernel, by decide +kernel⟩
theorem ok_Net_tell {f : Addr} {fd : FuncData} (F : Fun K "tell" "Net.tell" s_Net_tell f fd) (G_Net__send : GM P w K mg base CNet "_send" 2 ["self", "word", "house"] (spSend CNet)) (T : NetT K CNet) : FnOk P w K mg base CX0 3 f fd ["self", "house"] (spTell CNet) := by
  refine F.ok sc_Net_tell (fun vs H Q E h => ?_) (fun cdv A outer s H vs Q E hr h => ?_)
  · obtain ⟨_, _, _, _, _, _, rfl, _⟩ := h; rfl
  · obtain ⟨p, da, db, dl, N, x, rfl, hN, hx, ok, k⟩ := h
    refine ⟨_, (pss_one (ps_ret (c_mt G_Net__send (hr.mono (by decide)) (pv 0) (pa_cons pe_str (pa_cons (pv 1) pa_nil))))), ?_⟩
    (try simp only [cxK, cxKX, List.map])
    refine ent (σ' := [some _, some _]) rfl ?_
    obtain ⟨⟨dx, hp⟩, _⟩ := id hN
    k_offL
    exact ⟨p, da, db, dl, N, _, x, .tell (N.f x) x, rfl, hN, hx, ok, rfl, k⟩
end
def spAsk (C : Addr) : Sp := fun vs H Q _ => ∃ (p da db dl : Addr) (N : NS) (h : Int), vs = [.ref p, .int h] ∧ NetAt C H p da db dl N ∧ h ∈ N.hs ∧ N.Ok ∧
  ∀ t H', H' t = some (.tup (LT.ask (N.f h) h).vs) → NetAt C H' p da db dl (N.push (.ask (N.f h) h)) → Fr [dl] H H' → Q (.ref t) H'
section
variable {P : Program} {w : World} {K : PySem.W.Frag} {mg : Str → Option Value} {base : Heap} {CNet CMender CDesk CStore CWalk : Addr}
abbrev s_Net_ask : Stmt := inClass (top 45) 10
theorem sc_Net_ask : FnScope ["self", "house"] ["self", "house"] (defScope s_Net_ask) := ⟨rfl, rfl, rfl, by decide +kernel, rfl, by decide +kernel, by decide +kernel⟩
theorem ok_Net_ask {f : Addr} {fd : FuncData} (F : Fun K "ask" "Net.ask" s_Net_ask f fd) (G_Net__send : GM P w K mg base CNet "_send" 2 ["self", "word", "house"] (spSend CNet)) (T : NetT K CNet) : FnOk P w K mg base CX0 3 f fd ["self", "house"] (spAsk CNet) := by
  refine F.ok sc_Net_ask (fun vs H Q E h => ?_) (fun cdv A outer s H vs Q E hr h => ?_)
  · obtain ⟨_, _, _, _, _, _, rfl, _⟩ := h; rfl
  · obtain ⟨p, da, db, dl, N, x, rfl, hN, hx, ok, k⟩ := h
    refine ⟨_, (pss_one (ps_ret (c_mt G_Net__send (hr.mono (by decide)) (pv 0) (pa_cons pe_str (pa_cons (pv 1) pa_nil))))), ?_⟩
    (try simp only [cxK, cxKX, List.map])
    refine ent (σ' := [some _, some _]) rfl ?_
    obtain ⟨⟨dx, hp⟩, _⟩ := id hN
    k_offL
    exact ⟨p, da, db, dl, N, _, x, .ask (N.f x) x, rfl, hN, hx, ok, rfl, k⟩
end
def spCheckIndex (C : Addr) : Sp := fun vs H Q _ => ∃ (p da db dl : Addr) (N : NS) (i : Nat), vs = [.ref p, .int (i : Int)] ∧ NetAt C H p da db dl N ∧ i < N.post.length ∧ Q .non H
section
variable {P : Program} {w : World} {K : PySem.W.Frag} {mg : Str → Option Value} {base : Heap} {CNet CMender CDesk CStore CWalk : Addr}
abbrev s_Net__check_index : Stmt := inClass (top 45) 12
theorem sc_Net__check_index : FnScope ["self", "at"] ["self", "at"] (defScope s_Net__check_index) := ⟨rfl, rfl, rfl, by decide +kernel, rfl, by decide +kernel, by decide +kernel⟩
theorem ok_Net__check_index {f : Addr} {fd : FuncData} (F : Fun K "_check_index" "Net._check_index" s_Net__check_index f fd) (m_len : mg "len" = none) (T : NetT K CNet) : FnOk P w K mg base CX0 1 f fd ["self", "at"] (spCheckIndex CNet) := by
  refine F.ok sc_Net__check_index (fun vs H Q E h => ?_) (fun cdv A outer s H vs Q E hr h => ?_)
  · obtain ⟨_, _, _, _, _, _, rfl, _⟩ := h; rfl
  · obtain ⟨p, da, db, dl, N, i, rfl, hN, hi, k⟩ := h
    refine ⟨_, (pss_one (ps_if (pt_not (pt_chain op_le op_lt pe_int (pv 1) (pe_callB (cb_lenSK (K := K) rfl) (by rfl) m_len b_len (pa_cons (pe_fldK (K := K) rfl (pv 0) (by rfl)) pa_nil)))) (pss_one ps_never) pss_nil)), ?_⟩
    (try simp only [cxK, cxKX, List.map])
    refine ent (σ' := [some _, some _]) rfl ?_
    obtain ⟨⟨dx, hp⟩, _, _, ⟨lv, hl, ls⟩, _⟩ := id hN
    k_offL
    refine ifDT (by omega) ?_
    k_offL
    refine r_lenL (sqL_of hl) ?_
    k_offL
    refine ifNF (by rw [ls.len]; omega) ?_
    k_offL
    exact k
end
def NS.del (N : NS) (i : Nat) : NS := { N with post := N.post.eraseIdx i }
def spLose (C : Addr) : Sp := fun vs H Q _ => ∃ (p da db dl : Addr) (N : NS) (i : Nat) (l : LT), vs = [.ref p, .int (i : Int)] ∧ NetAt C H p da db dl N ∧ N.post[i]? = some l ∧ N.Ok ∧
  ∀ t H', H' t = some (.tup l.vs) → NetAt C H' p da db dl (N.del i) → Fr [dl] H H' → Q (.ref t) H'
section
variable {P : Program} {w : World} {K : PySem.W.Frag} {mg : Str → Option Value} {base : Heap} {CNet CMender CDesk CStore CWalk : Addr}
abbrev s_Net_lose : Stmt := inClass (top 45) 13
theorem sc_Net_lose : FnScope ["self", "at"] ["self", "at"] (defScope s_Net_lose) := ⟨rfl, rfl, rfl, by decide +kernel, rfl, by decide +kernel, by decide +kernel⟩
theorem ok_Net_lose {f : Addr} {fd : FuncData} (F : Fun K "lose" "Net.lose" s_Net_lose f fd) (G_Net__check_index : GM P w K mg base CNet "_check_index" 1 ["self", "at"] (spCheckIndex CNet)) (T : NetT K CNet) : FnOk P w K mg base CX0 2 f fd ["self", "at"] (spLose CNet) := by
  refine F.ok sc_Net_lose (fun vs H Q E h => ?_) (fun cdv A outer s H vs Q E hr h => ?_)
  · obtain ⟨_, _, _, _, _, _, _, rfl, _⟩ := h; rfl
  · obtain ⟨p, da, db, dl, N, i, l, rfl, hN, hi, ok, k⟩ := h
    refine ⟨_, (pss_cons (ps_expr (c_mt G_Net__check_index (hr.mono (by decide)) (pv 0) (pa_cons (pv 1) pa_nil)))
      (pss_one (ps_ret (pe_bmK (K := K) rfl PySem.F.plainAttrs_list PySem.F.slot_list_pop PySem.F.type_list_pop mt_popAt (pe_fldK (K := K) rfl (pv 0) (by rfl)) (pa_cons (pv 1) pa_nil))))), ?_⟩
    (try simp only [cxK, cxKX, List.map])
    refine ent (σ' := [some _, some _]) rfl ?_
    obtain ⟨⟨dx, hp⟩, ⟨kn, hn, dn⟩, ⟨kb, hb, eb⟩, ⟨lv, hl, ls⟩, ne⟩ := id hN
    have hlt := (List.getElem?_eq_some_iff.mp hi).1
    have hpl := ok.pl
    obtain ⟨t, ht, hT⟩ := ls.at_ i l hi
    k_offL
    refine ⟨p, da, db, dl, N, i, rfl, hN, hlt, ?_⟩
    k_offL
    refine r_popAt hl ht (by omega) fun H1 e1 f1 => ?_
    k_offL
    exact k t H1 (f1.tp _ _ hT) ⟨⟨dx, by k_clsL⟩, ⟨kn, by k_clsL, dn⟩, ⟨kb, by k_clsL, eb⟩, ⟨_, e1, (ls.fr f1).erase i⟩, ne⟩ f1
end
def spRepeat (C : Addr) : Sp := fun vs H Q _ => ∃ (p da db dl : Addr) (N : NS) (i : Nat) (l : LT), vs = [.ref p, .int (i : Int)] ∧ NetAt C H p da db dl N ∧ N.post[i]? = some l ∧ N.Ok ∧
  ∀ t H', H' t = some (.tup l.vs) → NetAt C H' p da db dl (N.push l) → Fr [dl] H H' → Q (.ref t) H'
section
variable {P : Program} {w : World} {K : PySem.W.Frag} {mg : Str → Option Value} {base : Heap} {CNet CMender CDesk CStore CWalk : Addr}
abbrev s_Net_repeat : Stmt := inClass (top 45) 14
theorem sc_Net_repeat : FnScope ["self", "at", "letter"] ["self", "at"] (defScope s_Net_repeat) := ⟨rfl, rfl, rfl, by decide +kernel, rfl, by decide +kernel, by decide +kernel⟩
theorem ok_Net_repeat {f : Addr} {fd : FuncData} (F : Fun K "repeat" "Net.repeat" s_Net_repeat f fd) (G_Net__check_index : GM P w K mg base CNet "_check_index" 1 ["self", "at"] (spCheckIndex CNet)) (T : NetT K CNet) : FnOk P w K mg base CX0 2 f fd ["self", "at"] (spRepeat CNet) := by
  refine F.ok sc_Net_repeat (fun vs H Q E h => ?_) (fun cdv A outer s H vs Q E hr h => ?_)
  · obtain ⟨_, _, _, _, _, _, _, rfl, _⟩ := h; rfl
  · obtain ⟨p, da, db, dl, N, i, l, rfl, hN, hi, ok, k⟩ := h
    refine ⟨_, (pss_cons (ps_expr (c_mt G_Net__check_index (hr.mono (by decide)) (pv 0) (pa_cons (pv 1) pa_nil)))
      (pss_cons (ps_set (i := 2) sc_Net_repeat.nd rfl (Or.inl rfl) (pe_ix (ix_listK (K := K) rfl) (pe_fldK (K := K) rfl (pv 0) (by rfl)) (pv 1) (by intro _ _; rfl)))
      (pss_cons (ps_expr (pe_bmK (K := K) rfl PySem.F.plainAttrs_list PySem.F.slot_list_append PySem.F.type_list_append mt_append (pe_fldK (K := K) rfl (pv 0) (by rfl)) (pa_cons (pv 2) pa_nil)))
      (pss_one (ps_ret (pv 2)))))), ?_⟩
    (try simp only [cxK, cxKX, List.map])
    refine ent (σ' := [some _, some _, none]) rfl ?_
    obtain ⟨⟨dx, hp⟩, ⟨kn, hn, dn⟩, ⟨kb, hb, eb⟩, ⟨lv, hl, ls⟩, ne⟩ := id hN
    have hlt := (List.getElem?_eq_some_iff.mp hi).1
    have hpl := ok.pl
    obtain ⟨t, ht, hT⟩ := ls.at_ i l hi
    k_offL
    refine ⟨p, da, db, dl, N, i, rfl, hN, hlt, ?_⟩
    k_offL
    refine r_ixL (sqL_of hl) (atI_nat ht) ?_
    k_offL
    refine r_app hl (by rw [ls.len]; omega) fun H1 e1 f1 => ?_
    k_offL
    exact k t H1 (f1.tp _ _ hT) ⟨⟨dx, by k_clsL⟩, ⟨kn, by k_clsL, dn⟩, ⟨kb, by k_clsL, eb⟩, ⟨_, e1, (ls.fr f1).snoc (f1.tp _ _ hT)⟩, ne⟩ f1
end
end RL
set_option synthInstance.maxHeartbeats 4000000
set_option synthInstance.maxSize 4000
namespace RL
def NS.setF (N : NS) (u x : Int) : NS := { N with f := fun h => if h = u then x else N.f h }
def NS.setB (N : NS) (u : Int) (x : Option Int) : NS := { N with b := fun h => if h = u then x else N.b h }
def NS.readL (N : NS) : LT → NS × List V
  | .tell v u => match N.b v with
    | none => (N.setB v (some u), [.str "before", .int v, .int u])
    | some b => if btw N.size b u v = true then (N.setB v (some u), [.str "before", .int v, .int u]) else (N, [.str "kept", .int v, .non])
  | .ask v u => match N.b v with
    | none => (N, [.str "kept", .int v, .non])
    | some x => (N.push (.ans u v x), [.str "wrote", .int v, .int x])
  | .ans u v x => if N.f u = v ∧ btw N.size u x v = true then (N.setF u x, [.str "next", .int u, .int x]) else (N, [.str "kept", .int u, .non])
theorem NS.mb_setB (N : NS) (v : Int) (x : Option Int) (hv : v ∈ N.hs) (h : Int) : (if h = v then some (oV x) else N.mb h) = (N.setB v x).mb h := by
  unfold NS.mb
  show _ = if h ∈ N.hs then some (oV (if h = v then x else N.b h)) else none
  by_cases e : h = v
  · subst e; rw [if_pos rfl, if_pos hv, if_pos rfl]
  · rw [if_neg e]
    by_cases m : h ∈ N.hs
    · rw [if_pos m, if_pos m, if_neg e]
    · rw [if_neg m, if_neg m]
theorem NS.mf_setF (N : NS) (v x : Int) (hv : v ∈ N.hs) (h : Int) : (if h = v then some (.int x) else N.mf h) = (N.setF v x).mf h := by
  unfold NS.mf
  show _ = if h ∈ N.hs then some (V.int (if h = v then x else N.f h)) else none
  by_cases e : h = v
  · subst e; rw [if_pos rfl, if_pos hv, if_pos rfl]
  · rw [if_neg e]
    by_cases m : h ∈ N.hs
    · rw [if_pos m, if_pos m, if_neg e]
    · rw [if_neg m, if_neg m]
theorem NS.Ok.kbl {N : NS} (ok : N.Ok) {kb : List (Key × V)} (d : DOk kb N.mb) : kb.length ≤ 100000 := by have := d.len ok.ascB; have := ok.hl; omega
theorem NS.Ok.knl {N : NS} (ok : N.Ok) {kb : List (Key × V)} (d : DOk kb N.mf) : kb.length ≤ 100000 := by have := d.len ok.ascF; have := ok.hl; omega
def spReadAnswer (C : Addr) : Sp := fun vs H Q _ => ∃ (p da db dl : Addr) (N : NS) (u v x : Int), vs = [.ref p, .int u, .int v, .int x] ∧ NetAt C H p da db dl N ∧ u ∈ N.hs ∧ N.Ok ∧
  ∀ t H', H' t = some (.tup (N.readL (.ans u v x)).2) → NetAt C H' p da db dl (N.readL (.ans u v x)).1 → Fr [da] H H' → Q (.ref t) H'
section
variable {P : Program} {w : World} {K : PySem.W.Frag} {mg : Str → Option Value} {base : Heap} {CNet CMender CDesk CStore CWalk : Addr}
abbrev s_Net__read_answer : Stmt := inClass (top 45) 18
theorem sc_Net__read_answer : FnScope ["self", "reader", "sender", "named"] ["self", "reader", "sender", "named"] (defScope s_Net__read_answer) := ⟨rfl, rfl, rfl, by decide +kernel, rfl, by decide +kernel, by decide +kernel⟩
theorem ok_Net__read_answer {f : Addr} {fd : FuncData} (F : Fun K "_read_answer" "Net._read_answer" s_Net__read_answer f fd) (G_between : GF P w K mg base "between" 2 ["size", "start", "place", "end"] spBetween) (T : NetT K CNet) : FnOk P w K mg base CX0 3 f fd ["self", "reader", "sender", "named"] (spReadAnswer CNet) := by
  refine F.ok sc_Net__read_answer (fun vs H Q E h => ?_) (fun cdv A outer s H vs Q E hr h => ?_)
  · obtain ⟨_, _, _, _, _, _, _, _, rfl, _⟩ := h; rfl
  · obtain ⟨p, da, db, dl, N, u, v, x, rfl, hN, hu, ok, k⟩ := h
    refine ⟨_, (pss_cons (ps_if (PW.pt (pw_and (pt_cmpR op_eq (pe_dget (hu_of hr) (pe_fldK (K := K) rfl (pv 0) (by rfl)) (pv 1) (by intro _ _; rfl)) (pv 2) (nomark _)) (pw_and1 (pt_val (c_fn G_between (hr.mono (by decide)) (pa_cons (pe_fldK (K := K) rfl (pv 0) (by rfl)) (pa_cons (pv 1) (pa_cons (pv 3) (pa_cons (pv 2) pa_nil))))))))) (pss_cons (ps_dput (hu_of hr) (pe_fldK (K := K) rfl (pv 0) (by rfl)) (pv 1) (pv 3) rfl)
      (pss_one (ps_ret (pe_tup (pa_cons pe_str (pa_cons (pv 1) (pa_cons (pv 3) pa_nil))))))) pss_nil)
      (pss_one (ps_ret (pe_tup (pa_cons pe_str (pa_cons (pv 1) (pa_cons pe_non pa_nil))))))), ?_⟩
    (try simp only [cxK, cxKX, List.map])
    refine ent (σ' := [some _, some _, some _, some _]) rfl ?_
    obtain ⟨⟨dx, hp⟩, ⟨kn, hn, dn⟩, ⟨kb, hb, eb⟩, ⟨lv, hl, ls⟩, ne⟩ := id hN
    have h0 := ok.s0
    have ne' := ne.symm
    k_offL
    refine dgetk (.inl hn) (by rw [dn.val, NS.mf_at hu]) ?_
    have no : ¬ (N.f u = v ∧ btw N.size u x v = true) → (∀ t H', H t = none → H' t = some (.tup [.str "kept", .int u, .non]) → Fr [] H H' → Q (.ref t) H') := by
      intro e t H' n2 e2 f2
      have e' : N.readL (.ans u v x) = (N, [.str "kept", .int u, .non]) := if_neg e
      rw [e'] at k
      exact k t H' e2 (hN.ex f2) f2.up
    k_offL
    refine ifD (fun e => ?_) (fun e => ?_)
    · k_offL
      refine i_between h0 ?_
      k_offL
      refine ifB (fun e2 => ?_) (fun e2 => ?_)
      · k_offL
        refine dputk hn (ok.knl dn) fun H1 e1 f1 => ?_
        k_offL
        refine tupk (by show 3 ≤ 100000; decide) fun t H' n2 e3 f2 => ?_
        have e' : N.readL (.ans u v x) = (N.setF u x, [.str "next", .int u, .int x]) := if_pos ⟨e, e2⟩
        rw [e'] at k
        exact k t H' e3 ⟨⟨dx, by k_clsL⟩, ⟨_, by k_clsL, dn.put.cong fun h => N.mf_setF u x hu h⟩, ⟨kb, by k_clsL, eb⟩, ⟨lv, by k_clsL, ls.fr (f1.trans f2.up)⟩, ne⟩ (f1.trans f2.up)
      · k_offL
        refine tupk (by show 3 ≤ 100000; decide) fun t H' n2 e3 f2 => ?_
        exact no (fun z => by rw [z.2] at e2; cases e2) t H' n2 e3 f2
    · k_offL
      refine tupk (by show 3 ≤ 100000; decide) fun t H' n2 e3 f2 => ?_
      exact no (fun z => e z.1) t H' n2 e3 f2
end
def spReadTell (C : Addr) : Sp := fun vs H Q _ => ∃ (p da db dl : Addr) (N : NS) (v u : Int), vs = [.ref p, .int v, .int u] ∧ NetAt C H p da db dl N ∧ v ∈ N.hs ∧ N.Ok ∧
  ∀ t H', H' t = some (.tup (N.readL (.tell v u)).2) → NetAt C H' p da db dl (N.readL (.tell v u)).1 → Fr [db] H H' → Q (.ref t) H'
section
variable {P : Program} {w : World} {K : PySem.W.Frag} {mg : Str → Option Value} {base : Heap} {CNet CMender CDesk CStore CWalk : Addr}
abbrev s_Net__read_tell : Stmt := inClass (top 45) 16
theorem sc_Net__read_tell : FnScope ["self", "reader", "sender", "before"] ["self", "reader", "sender"] (defScope s_Net__read_tell) := ⟨rfl, rfl, rfl, by decide +kernel, rfl, by decide +kernel, by decide +kernel⟩
theorem ok_Net__read_tell {f : Addr} {fd : FuncData} (F : Fun K "_read_tell" "Net._read_tell" s_Net__read_tell f fd) (G_between : GF P w K mg base "between" 2 ["size", "start", "place", "end"] spBetween) (T : NetT K CNet) : FnOk P w K mg base CX0 3 f fd ["self", "reader", "sender"] (spReadTell CNet) := by
  refine F.ok sc_Net__read_tell (fun vs H Q E h => ?_) (fun cdv A outer s H vs Q E hr h => ?_)
  · obtain ⟨_, _, _, _, _, _, _, rfl, _⟩ := h; rfl
  · obtain ⟨p, da, db, dl, N, v, u, rfl, hN, hv, ok, k⟩ := h
    refine ⟨_, (pss_cons (ps_set (i := 3) sc_Net__read_tell.nd rfl (Or.inl rfl) (pe_dget (hu_of hr) (pe_fldK (K := K) rfl (pv 0) (by rfl)) (pv 1) (by intro _ _; rfl)))
      (pss_cons (ps_if (PW.pt (pw_or (pt_cmpR op_isNn (pv 3) pe_non (nomark _)) (pw_or1 (pt_val (c_fn G_between (hr.mono (by decide)) (pa_cons (pe_fldK (K := K) rfl (pv 0) (by rfl)) (pa_cons (pv 3) (pa_cons (pv 2) (pa_cons (pv 1) pa_nil))))))))) (pss_cons (ps_dput (hu_of hr) (pe_fldK (K := K) rfl (pv 0) (by rfl)) (pv 1) (pv 2) rfl)
      (pss_one (ps_ret (pe_tup (pa_cons pe_str (pa_cons (pv 1) (pa_cons (pv 2) pa_nil))))))) pss_nil)
      (pss_one (ps_ret (pe_tup (pa_cons pe_str (pa_cons (pv 1) (pa_cons pe_non pa_nil)))))))), ?_⟩
    (try simp only [cxK, cxKX, List.map])
    refine ent (σ' := [some _, some _, some _, none]) rfl ?_
    obtain ⟨⟨dx, hp⟩, ⟨kn, hn, dn⟩, ⟨kb, hb, eb⟩, ⟨lv, hl, ls⟩, ne⟩ := id hN
    have h0 := ok.s0
    have ne' := ne.symm
    k_offL
    refine dgetk (.inl hb) (by rw [eb.val, NS.mb_at hv]) ?_
    have yes : (N.readL (.tell v u)) = (N.setB v (some u), [.str "before", .int v, .int u]) → (∀ H1 t H', H1 db = some (.dK (putK kb (.inl v) (.int u))) → Fr [db] H H1 → H1 t = none → H' t = some (.tup [.str "before", .int v, .int u]) → Fr [] H1 H' → Q (.ref t) H') := by
      intro e H1 t H' e1 f1 n2 e2 f2
      rw [e] at k
      exact k t H' e2 ⟨⟨dx, by k_clsL⟩, ⟨kn, by k_clsL, dn⟩, ⟨_, by k_clsL, eb.put.cong fun h => N.mb_setB v (some u) hv h⟩, ⟨lv, by k_clsL, ls.fr (f1.trans f2.up)⟩, ne⟩ (f1.trans f2.up)
    have no : (N.readL (.tell v u)) = (N, [.str "kept", .int v, .non]) → (∀ t H', H t = none → H' t = some (.tup [.str "kept", .int v, .non]) → Fr [] H H' → Q (.ref t) H') := by
      intro e t H' n2 e2 f2
      rw [e] at k
      exact k t H' e2 (hN.ex f2) f2.up
    cases hbv : N.b v with
    | none =>
      k_offL
      refine ifDT rfl ?_
      k_offL
      refine dputk hb (ok.kbl eb) fun H1 e1 f1 => ?_
      k_offL
      refine tupk (by show 3 ≤ 100000; decide) fun t H' n2 e2 f2 => ?_
      exact yes (by simp only [NS.readL, hbv]) H1 t H' e1 f1 n2 e2 f2
    | some b =>
      k_offL
      refine ifDF (fun z => nomatch z) ?_
      show tTest _ _ _ _
      k_offL
      refine i_between h0 ?_
      k_offL
      refine ifB (fun e => ?_) (fun e => ?_)
      · k_offL
        refine dputk hb (ok.kbl eb) fun H1 e1 f1 => ?_
        k_offL
        refine tupk (by show 3 ≤ 100000; decide) fun t H' n2 e2 f2 => ?_
        exact yes (by simp only [NS.readL, hbv, e, if_true]) H1 t H' e1 f1 n2 e2 f2
      · k_offL
        refine tupk (by show 3 ≤ 100000; decide) fun t H' n2 e2 f2 => ?_
        exact no (by simp only [NS.readL, hbv, e, Bool.false_eq_true, if_false]) t H' n2 e2 f2
end
def spReadAsk (C : Addr) : Sp := fun vs H Q _ => ∃ (p da db dl : Addr) (N : NS) (v u : Int), vs = [.ref p, .int v, .int u] ∧ NetAt C H p da db dl N ∧ v ∈ N.hs ∧ N.Ok ∧
  ∀ t H', H' t = some (.tup (N.readL (.ask v u)).2) → NetAt C H' p da db dl (N.readL (.ask v u)).1 → Fr [dl] H H' → Q (.ref t) H'
section
variable {P : Program} {w : World} {K : PySem.W.Frag} {mg : Str → Option Value} {base : Heap} {CNet CMender CDesk CStore CWalk : Addr}
abbrev s_Net__read_ask : Stmt := inClass (top 45) 17
theorem sc_Net__read_ask : FnScope ["self", "reader", "sender", "before"] ["self", "reader", "sender"] (defScope s_Net__read_ask) := ⟨rfl, rfl, rfl, by decide +kernel, rfl, by decide +kernel, by decide +kernel⟩
theorem ok_Net__read_ask {f : Addr} {fd : FuncData} (F : Fun K "_read_ask" "Net._read_ask" s_Net__read_ask f fd) (T : NetT K CNet) : FnOk P w K mg base CX0 1 f fd ["self", "reader", "sender"] (spReadAsk CNet) := by
  refine F.ok sc_Net__read_ask (fun vs H Q E h => ?_) (fun cdv A outer s H vs Q E hr h => ?_)
  · obtain ⟨_, _, _, _, _, _, _, rfl, _⟩ := h; rfl
  · obtain ⟨p, da, db, dl, N, v, u, rfl, hN, hv, ok, k⟩ := h
    refine ⟨_, (pss_cons (ps_set (i := 3) sc_Net__read_ask.nd rfl (Or.inl rfl) (pe_dget (hu_of hr) (pe_fldK (K := K) rfl (pv 0) (by rfl)) (pv 1) (by intro _ _; rfl)))
      (pss_cons (ps_if (pt_cmpR op_isNn (pv 3) pe_non (nomark _)) (pss_one (ps_ret (pe_tup (pa_cons pe_str (pa_cons (pv 1) (pa_cons pe_non pa_nil)))))) pss_nil)
      (pss_cons (ps_expr (pe_bmK (K := K) rfl PySem.F.plainAttrs_list PySem.F.slot_list_append PySem.F.type_list_append mt_append (pe_fldK (K := K) rfl (pv 0) (by rfl)) (pa_cons (pe_tup (pa_cons pe_str (pa_cons (pv 2) (pa_cons (pv 1) (pa_cons (pv 3) pa_nil))))) pa_nil)))
      (pss_one (ps_ret (pe_tup (pa_cons pe_str (pa_cons (pv 1) (pa_cons (pv 3) pa_nil))))))))), ?_⟩
    (try simp only [cxK, cxKX, List.map])
    refine ent (σ' := [some _, some _, some _, none]) rfl ?_
    obtain ⟨⟨dx, hp⟩, ⟨kn, hn, dn⟩, ⟨kb, hb, eb⟩, ⟨lv, hl, ls⟩, ne⟩ := id hN
    have h0 := ok.s0
    k_offL
    refine dgetk (.inl hb) (by rw [eb.val, NS.mb_at hv]) ?_
    cases hbv : N.b v with
    | none =>
      k_offL
      refine ifDT rfl ?_
      k_offL
      refine tupk (by show 3 ≤ 100000; decide) fun t H' n2 e2 f2 => ?_
      simp only [NS.readL, hbv] at k
      exact k t H' e2 (hN.ex f2) f2.up
    | some x =>
      k_offL
      refine ifDF (fun z => nomatch z) ?_
      simp only [NS.readL, hbv] at k
      k_offL
      refine tupk (by show 4 ≤ 100000; decide) fun t1 H1 n1 e1 f1 => ?_
      k_offL
      refine r_app (xs := lv) (by k_clsL) (by rw [ls.len]; have := ok.pl; omega) fun H2 e2 f2 => ?_
      k_offL
      refine tupk (by show 3 ≤ 100000; decide) fun t3 H3 n3 e3 f3 => ?_
      exact k t3 H3 e3 ⟨⟨dx, by k_clsL⟩, ⟨kn, by k_clsL, dn⟩, ⟨kb, by k_clsL, eb⟩, ⟨_, by k_clsL, (ls.fr ((f1.up.trans f2).trans f3.up)).snoc (f3.tp _ _ (f2.tp _ _ e1))⟩, ne⟩ ((f1.up.trans f2).trans f3.up)
end
def NS.read (N : NS) (i : Nat) (l : LT) : NS × List V := (N.del i).readL l
def spRead (C : Addr) : Sp := fun vs H Q _ => ∃ (p da db dl : Addr) (N : NS) (i : Nat) (l : LT), vs = [.ref p, .int (i : Int)] ∧ NetAt C H p da db dl N ∧ N.post[i]? = some l ∧ N.Ok ∧
  ∀ t H', H' t = some (.tup (N.read i l).2) → NetAt C H' p da db dl (N.read i l).1 → Fr [da, db, dl] H H' → Q (.ref t) H'
theorem NS.Ok.del {N : NS} (ok : N.Ok) (i : Nat) : (N.del i).Ok :=
  ⟨ok.s0, ok.s1, ok.up, ok.on, ok.fh, ok.bh, fun l hl => ok.ph l (List.mem_of_mem_eraseIdx hl), ok.hl, Nat.le_trans (List.length_eraseIdx_le ..) ok.pl⟩
section
variable {P : Program} {w : World} {K : PySem.W.Frag} {mg : Str → Option Value} {base : Heap} {CNet CMender CDesk CStore CWalk : Addr}
abbrev s_Net_read : Stmt := inClass (top 45) 15
theorem sc_Net_read : FnScope ["self", "at", "letter"] ["self", "at"] (defScope s_Net_read) := ⟨rfl, rfl, rfl, by decide +kernel, rfl, by decide +kernel, by decide +kernel⟩
theorem ok_Net_read {f : Addr} {fd : FuncData} (F : Fun K "read" "Net.read" s_Net_read f fd) (G_Net_lose : GM P w K mg base CNet "lose" 2 ["self", "at"] (spLose CNet)) (G_Net__read_tell : GM P w K mg base CNet "_read_tell" 3 ["self", "reader", "sender"] (spReadTell CNet)) (G_Net__read_ask : GM P w K mg base CNet "_read_ask" 1 ["self", "reader", "sender"] (spReadAsk CNet)) (G_Net__read_answer : GM P w K mg base CNet "_read_answer" 3 ["self", "reader", "sender", "named"] (spReadAnswer CNet)) (T : NetT K CNet) : FnOk P w K mg base CX0 4 f fd ["self", "at"] (spRead CNet) := by
  refine F.ok sc_Net_read (fun vs H Q E h => ?_) (fun cdv A outer s H vs Q E hr h => ?_)
  · obtain ⟨_, _, _, _, _, _, _, rfl, _⟩ := h; rfl
  · obtain ⟨p, da, db, dl, N, i, l, rfl, hN, hi, ok, k⟩ := h
    refine ⟨_, (pss_cons (ps_set (i := 2) sc_Net_read.nd rfl (Or.inl rfl) (c_mt G_Net_lose (hr.mono (by decide)) (pv 0) (pa_cons (pv 1) pa_nil)))
      (pss_cons (ps_if (pt_cmpR op_eq (pe_ix (ix_tupK (K := K) rfl) (pv 2) pe_int (by intro _ _; rfl)) pe_str (nomark _)) (pss_one (ps_ret (c_mt G_Net__read_tell (hr.mono (by decide)) (pv 0) (pa_cons (pe_ix (ix_tupK (K := K) rfl) (pv 2) pe_int (by intro _ _; rfl)) (pa_cons (pe_ix (ix_tupK (K := K) rfl) (pv 2) pe_int (by intro _ _; rfl)) pa_nil))))) pss_nil)
      (pss_cons (ps_if (pt_cmpR op_eq (pe_ix (ix_tupK (K := K) rfl) (pv 2) pe_int (by intro _ _; rfl)) pe_str (nomark _)) (pss_one (ps_ret (c_mt G_Net__read_ask (hr.mono (by decide)) (pv 0) (pa_cons (pe_ix (ix_tupK (K := K) rfl) (pv 2) pe_int (by intro _ _; rfl)) (pa_cons (pe_ix (ix_tupK (K := K) rfl) (pv 2) pe_int (by intro _ _; rfl)) pa_nil))))) pss_nil)
      (pss_one (ps_ret (c_mt G_Net__read_answer (hr.mono (by decide)) (pv 0) (pa_cons (pe_ix (ix_tupK (K := K) rfl) (pv 2) pe_int (by intro _ _; rfl)) (pa_cons (pe_ix (ix_tupK (K := K) rfl) (pv 2) pe_int (by intro _ _; rfl)) (pa_cons (pe_ix (ix_tupK (K := K) rfl) (pv 2) pe_int (by intro _ _; rfl)) pa_nil))))))))), ?_⟩
    (try simp only [cxK, cxKX, List.map])
    refine ent (σ' := [some _, some _, none]) rfl ?_
    obtain ⟨⟨dx, hp⟩, _⟩ := id hN
    have m1 : ∀ a ∈ [dl], a ∈ [da, db, dl] := fun a h => by simp at h; simp [h]
    have m2 : ∀ a ∈ [db], a ∈ [da, db, dl] := fun a h => by simp at h; simp [h]
    have m3 : ∀ a ∈ [da], a ∈ [da, db, dl] := fun a h => by simp at h; simp [h]
    have hm := List.mem_of_getElem? hi
    k_offL
    refine ⟨p, da, db, dl, N, i, l, rfl, hN, hi, ok, fun t H1 e1 hN1 f1 => ?_⟩
    k_offL
    obtain ⟨⟨dx1, hp1⟩, _⟩ := id hN1
    cases l with
    | tell v u =>
      refine r_ixT (sqT_of e1) (v := .str "tell") rfl ?_
      k_offL
      refine ifDT rfl ?_
      k_offL
      refine r_ixT (sqT_of e1) (v := .int v) rfl ?_
      k_offL
      refine r_ixT (sqT_of e1) (v := .int u) rfl ?_
      k_offL
      exact ⟨p, da, db, dl, N.del i, v, u, rfl, hN1, ok.ph _ hm v (by simp [LT.pl]), ok.del i, fun t H2 e2 hN2 f2 => k t H2 e2 hN2 ((f1.mono m1).trans (f2.mono m2))⟩
    | ask v u =>
      refine r_ixT (sqT_of e1) (v := .str "ask") rfl ?_
      k_offL
      refine ifDF (by decide +kernel) ?_
      k_offL
      refine r_ixT (sqT_of e1) (v := .str "ask") rfl ?_
      k_offL
      refine ifDT rfl ?_
      k_offL
      refine r_ixT (sqT_of e1) (v := .int v) rfl ?_
      k_offL
      refine r_ixT (sqT_of e1) (v := .int u) rfl ?_
      k_offL
      exact ⟨p, da, db, dl, N.del i, v, u, rfl, hN1, ok.ph _ hm v (by simp [LT.pl]), ok.del i, fun t H2 e2 hN2 f2 => k t H2 e2 hN2 ((f1.mono m1).trans (f2.mono m1))⟩
    | ans u v x =>
      refine r_ixT (sqT_of e1) (v := .str "answer") rfl ?_
      k_offL
      refine ifDF (by decide +kernel) ?_
      k_offL
      refine r_ixT (sqT_of e1) (v := .str "answer") rfl ?_
      k_offL
      refine ifDF (by decide +kernel) ?_
      k_offL
      refine r_ixT (sqT_of e1) (v := .int u) rfl ?_
      k_offL
      refine r_ixT (sqT_of e1) (v := .int v) rfl ?_
      k_offL
      refine r_ixT (sqT_of e1) (v := .int x) rfl ?_
      k_offL
      exact ⟨p, da, db, dl, N.del i, u, v, x, rfl, hN1, ok.ph _ hm u (by simp [LT.pl]), ok.del i, fun t H2 e2 hN2 f2 => k t H2 e2 hN2 ((f1.mono m1).trans (f2.mono m3))⟩
end
end RL
set_option synthInstance.maxHeartbeats 4000000
set_option synthInstance.maxSize 4000
namespace RL
def NS.admit (N : NS) (y x : Int) (hs' : List Int) : NS := { N with hs := hs', f := fun h => if h = y then x else N.f h }
def NS.rows (N : NS) : List D := N.hs.map fun h => .tup [.int h, .int (N.f h), oD (N.b h)]
def NS.snap (N : NS) : D := .tup [.int N.size, .tup N.rows, .tup (N.post.map LT.d)]
def RowIs (N : NS) (x y : V) (H : Hp) : Prop := ∃ h t, x = .int h ∧ y = .ref t ∧ H t = some (.tup [.int h, .int (N.f h), oV (N.b h)])
theorem oV_rep {H : Hp} : ∀ x : Option Int, Rep H (oD x) (oV x)
  | none => rfl
  | some _ => rfl
theorem RepL.of {H : Hp} : ∀ {ds : List D} {vs : List V}, vs.length = ds.length → (∀ (i : Nat) d, ds[i]? = some d → ∃ v, vs[i]? = some v ∧ Rep H d v) → RepL H ds vs
  | [], vs, hl, _ => List.length_eq_zero_iff.mp hl
  | d :: ds, [], hl, _ => by simp at hl
  | d :: ds, v :: r, hl, h => by
    refine ⟨v, r, rfl, ?_, RepL.of (by simpa using hl) fun i d' hd => ?_⟩
    · obtain ⟨w, a, b⟩ := h 0 d rfl
      have e : v = w := by simpa using a
      rw [e]; exact b
    · obtain ⟨w, a, b⟩ := h (i + 1) d' (by simpa using hd)
      exact ⟨w, by simpa using a, b⟩
theorem rows_rep {N : NS} {H : Hp} {ys : List V} (hl : ys.length = (N.hs.map V.int).length) (h : ∀ (i : Nat) x, (N.hs.map V.int)[i]? = some x → ∃ y, ys[i]? = some y ∧ RowIs N x y H) : RepL H N.rows ys := by
  refine RepL.of (by rw [hl, List.length_map]; unfold NS.rows; rw [List.length_map]) fun i d hd => ?_
  unfold NS.rows at hd
  rw [List.getElem?_map] at hd
  cases e : N.hs[i]? with
  | none => rw [e] at hd; cases hd
  | some k =>
    rw [e] at hd
    have hd' := Option.some.inj hd
    subst hd'
    obtain ⟨y, hy, k', t, e1, e2, e3⟩ := h i (.int k) (by rw [List.getElem?_map, e]; rfl)
    cases e1
    subst e2
    exact ⟨_, hy, t, _, rfl, e3, _, _, rfl, rfl, _, _, rfl, rfl, _, _, rfl, oV_rep _, rfl⟩
theorem LetsIs.rep {H : Hp} {ls : List LT} {lv : List V} (x : LetsIs H ls lv) : RepL H (ls.map LT.d) lv := by
  refine RepL.of (by rw [x.len, List.length_map]) fun i d hd => ?_
  rw [List.getElem?_map] at hd
  cases e : ls[i]? with
  | none => rw [e] at hd; cases hd
  | some l =>
    rw [e] at hd
    have hd' := Option.some.inj hd
    subst hd'
    obtain ⟨t, a, b⟩ := x.at_ i l e
    exact ⟨_, a, LT.rep b⟩
def spSnapshot (C : Addr) : Sp := fun vs H Q _ => ∃ (p da db dl : Addr) (N : NS), vs = [.ref p] ∧ NetAt C H p da db dl N ∧ N.Ok ∧ ∀ t H', Rep H' N.snap (.ref t) → Fr [] H H' → Q (.ref t) H'
section
variable {P : Program} {w : World} {K : PySem.W.Frag} {mg : Str → Option Value} {base : Heap} {CNet CMender CDesk CStore CWalk : Addr}
abbrev s_Net_snapshot : Stmt := inClass (top 45) 7
theorem sc_Net_snapshot : FnScope ["self", "rows", "house"] ["self"] (defScope s_Net_snapshot) := ⟨rfl, rfl, rfl, by decide +kernel, rfl, by decide +kernel, by decide +kernel⟩
theorem ok_Net_snapshot {f : Addr} {fd : FuncData} (F : Fun K "snapshot" "Net.snapshot" s_Net_snapshot f fd) (m_sorted : mg "sorted" = none) (m_tuple : mg "tuple" = none) (T : NetT K CNet) : FnOk P w K mg base CX0 1 f fd ["self"] (spSnapshot CNet) := by
  refine F.ok sc_Net_snapshot (fun vs H Q E h => ?_) (fun cdv A outer s H vs Q E hr h => ?_)
  · obtain ⟨_, _, _, _, _, rfl, _⟩ := h; rfl
  · obtain ⟨p, da, db, dl, N, rfl, hN, ok, k⟩ := h
    refine ⟨_, (pss_cons (ps_setLc (i := 1) (own := [("house", 2)]) (g := gName 2) rfl sc_Net_snapshot.nd rfl rfl (sw_true rfl rfl rfl (by decide +kernel)) (pi_listK (K := K) rfl (pe_callB (cb_sortD rfl) (by rfl) m_sorted b_sorted (pa_cons (pe_fldK (K := K) rfl (pv 0) (by rfl)) pa_nil))) (blkOk_by (N := ["self", "rows", "house"]) (sc := defScope s_Net_snapshot) (by decide +kernel)) (fun _ _ _ _ _ => (pg_name (i := 2) sc_Net_snapshot.nd rfl (Or.inl rfl))) (fun _ _ _ _ _ => pts_nil) (fun _ _ _ _ _ => (pe_tup (pa_cons (pv 2) (pa_cons (pe_dget (hu_of hr) (pe_fldK (K := K) rfl (pv 0) (by rfl)) (pv 2) (by intro _ _; rfl)) (pa_cons (pe_dget (hu_of hr) (pe_fldK (K := K) rfl (pv 0) (by rfl)) (pv 2) (by intro _ _; rfl)) pa_nil))))))
      (pss_one (ps_ret (pe_tup (pa_cons (pe_fldK (K := K) rfl (pv 0) (by rfl)) (pa_cons (pe_callTy (cb_tupOfK (K := K) rfl) (by rfl) m_tuple b_tuple (pa_cons (pv 1) pa_nil)) (pa_cons (pe_callTy (cb_tupOfK (K := K) rfl) (by rfl) m_tuple b_tuple (pa_cons (pe_fldK (K := K) rfl (pv 0) (by rfl)) pa_nil)) pa_nil))))))), ?_⟩
    (try simp only [cxK, cxKX, List.map])
    refine ent (σ' := [some _, none, none]) rfl ?_
    obtain ⟨⟨dx, hp⟩, ⟨kn, hn, dn⟩, ⟨kb, hb, eb⟩, ⟨lv, hl, ls⟩, ne⟩ := id hN
    have hlen := ok.hl
    k_offL
    refine r_sortD (.inl hn) dn ok.ascF (by omega) fun l1 H1 n1 e1 f1 => ?_
    refine walkL (sqL_of e1) ?_
    refine lcP (walk_list (xs := N.hs.map V.int)) (N.hs.map V.int) rfl (fun i H0 x H' _ y => yAt y) (fun _ => true) (RowIs N) (fun M x y H1 H2 ⟨h, t, a, b, c⟩ f => ⟨h, t, a, b, f.tp _ _ c⟩) (fun H' f => f.sqL (sqL_of e1) (fun z => nomatch z)) (by rw [List.length_map]; omega) (fun x H' hm f => ?_) fun q H2 ys n2 e2 hl2 hy f2 => ?_
    · obtain ⟨h, hh, rfl⟩ := mem_intsM hm
      refine sk2 ⟨fun R kR => kR H' (Fr.refl _ _), fun _ H3 f3 R kR => ?_⟩
      k_offL
      refine dgetk (kvs := kn) (.inl (by k_clsL)) (by rw [dn.val, NS.mf_at hh]) ?_
      k_offL
      refine dgetk (kvs := kb) (.inl (by k_clsL)) (by rw [eb.val, NS.mb_at hh]) ?_
      k_offL
      refine tupk (by show 3 ≤ 100000; decide) fun t H4 n4 e4 f4 => ?_
      exact kR _ _ f4 ⟨h, t, rfl, rfl, e4⟩
    · rw [List.filter_eq_self.mpr fun _ _ => rfl] at hl2 hy
      have rr := rows_rep hl2 hy
      k_offL
      refine r_tupL (sqL_of e2) fun t3 H3 n3 e3 f3 => ?_
      k_offL
      refine r_tupL (xs := lv) (sqL_of (by k_clsL)) fun t4 H4 n4 e4 f4 => ?_
      k_offL
      refine tupk (by show 3 ≤ 100000; decide) fun t5 H5 n5 e5 f5 => ?_
      have g : Fr [] H2 H5 := (f3.trans f4).trans f5
      have g0 : Fr [] H H5 := (f1.trans f2).trans g
      exact k t5 H5 ⟨t5, _, rfl, e5, _, _, rfl, rfl, _, _, rfl, ⟨t3, ys, rfl, (f4.trans f5).tp _ _ e3, RepL.fr0 g _ _ rr⟩, _, _, rfl, ⟨t4, lv, rfl, f5.tp _ _ e4, RepL.fr0 g0 _ _ ls.rep⟩, rfl⟩ g0
end
def spClone (C : Addr) : Sp := fun vs H Q _ => ∃ (p da db dl : Addr) (N : NS), vs = [.ref p] ∧ NetAt C H p da db dl N ∧ N.Ok ∧
  ∀ (x xa xb xl : Addr) H', H x = none → H xa = none → H xb = none → H xl = none → NetAt C H' x xa xb xl N → Fr [] H H' → Q (.ref x) H'
section
variable {P : Program} {w : World} {K : PySem.W.Frag} {mg : Str → Option Value} {base : Heap} {CNet CMender CDesk CStore CWalk : Addr}
abbrev s_Net_clone : Stmt := inClass (top 45) 8
theorem sc_Net_clone : FnScope ["self"] ["self"] (defScope s_Net_clone) := ⟨rfl, rfl, rfl, by decide +kernel, rfl, by decide +kernel, by decide +kernel⟩
theorem ok_Net_clone {f : Addr} {fd : FuncData} (F : Fun K "clone" "Net.clone" s_Net_clone f fd) (N_Net_befores_letters : GC P w K mg base CNet "Net" 3 ["self", "size", "nexts", "befores", "letters"] 2 ["befores", "letters"] (fun vs zs => vs ++ zs) (spNetInit CNet)) (G_Net_befores : GM P w K mg base CNet "befores" 1 ["self"] (spBefores CNet)) (T : NetT K CNet) : FnOk P w K mg base CX0 5 f fd ["self"] (spClone CNet) := by
  refine F.ok sc_Net_clone (fun vs H Q E h => ?_) (fun cdv A outer s H vs Q E hr h => ?_)
  · obtain ⟨_, _, _, _, _, rfl, _⟩ := h; rfl
  · obtain ⟨p, da, db, dl, N, rfl, hN, ok, k⟩ := h
    refine ⟨_, (pss_one (ps_ret (c_mk N_Net_befores_letters (hr.mono (by decide)) (pa_cons (pe_fldK (K := K) rfl (pv 0) (by rfl)) (pa_cons (pe_fldK (K := K) rfl (pv 0) (by rfl)) pa_nil)) (pk_cons (c_mt0 G_Net_befores (hr.mono (by decide)) (pv 0)) (pk_cons (pe_fldK (K := K) rfl (pv 0) (by rfl)) pk_nil))))), ?_⟩
    (try simp only [cxK, cxKX, List.map])
    refine ent (σ' := [some _]) rfl ?_
    obtain ⟨⟨dx, hp⟩, ⟨kn, hn, dn⟩, ⟨kb, hb, eb⟩, ⟨lv, hl, ls⟩, ne⟩ := id hN
    k_offL
    refine ⟨p, da, db, dl, N, rfl, hN, ok, fun t H1 n1 e1 f1 => ?_⟩
    k_offL
    refine i_net (N := N) (kn := kn) rfl rfl (fun x => rfl) (by k_clsL) dn (.inr ⟨t, _, rfl, e1, ok.dkb⟩) (.inr ⟨dl, lv, rfl, by k_clsL, ls.fr f1⟩) ok fun x xa xb xl H2 m1 m2 m3 m4 hN2 f2 => ?_
    exact k x xa xb xl H2 (f1.free m1) (f1.free m2) (f1.free m3) (f1.free m4) hN2 (f1.trans f2)
end
def spHold (C : Addr) : Sp := fun vs H Q _ => ∃ (p da db dl : Addr) (N : NS) (u x : Int), vs = [.ref p, .int u, .int x] ∧ NetAt C H p da db dl N ∧ u ∈ N.hs ∧ x ∈ N.hs ∧ N.Ok ∧
  ∀ H', NetAt C H' p da db dl (N.setF u x) → Fr [da] H H' → Q (.int (N.f u)) H'
section
variable {P : Program} {w : World} {K : PySem.W.Frag} {mg : Str → Option Value} {base : Heap} {CNet CMender CDesk CStore CWalk : Addr}
abbrev s_Net_hold : Stmt := inClass (top 45) 20
theorem sc_Net_hold : FnScope ["self", "house", "target", "old"] ["self", "house", "target"] (defScope s_Net_hold) := ⟨rfl, rfl, rfl, by decide +kernel, rfl, by decide +kernel, by decide +kernel⟩
theorem ok_Net_hold {f : Addr} {fd : FuncData} (F : Fun K "hold" "Net.hold" s_Net_hold f fd) (G_check_houses : GF P w K mg base "check_houses" 1 ["houses", "places"] (spCheckHouses K)) (T : NetT K CNet) : FnOk P w K mg base CX0 2 f fd ["self", "house", "target"] (spHold CNet) := by
  refine F.ok sc_Net_hold (fun vs H Q E h => ?_) (fun cdv A outer s H vs Q E hr h => ?_)
  · obtain ⟨_, _, _, _, _, _, _, rfl, _⟩ := h; rfl
  · obtain ⟨p, da, db, dl, N, u, x, rfl, hN, hu, hx, ok, k⟩ := h
    refine ⟨_, (pss_cons (ps_expr (c_fn G_check_houses (hr.mono (by decide)) (pa_cons (pe_fldK (K := K) rfl (pv 0) (by rfl)) (pa_cons (pe_lst (pa_cons (pv 1) (pa_cons (pv 2) pa_nil))) pa_nil))))
      (pss_cons (ps_set (i := 3) sc_Net_hold.nd rfl (Or.inl rfl) (pe_dget (hu_of hr) (pe_fldK (K := K) rfl (pv 0) (by rfl)) (pv 1) (by intro _ _; rfl)))
      (pss_cons (ps_dput (hu_of hr) (pe_fldK (K := K) rfl (pv 0) (by rfl)) (pv 1) (pv 2) rfl)
      (pss_one (ps_ret (pv 3)))))), ?_⟩
    (try simp only [cxK, cxKX, List.map])
    refine ent (σ' := [some _, some _, some _, none]) rfl ?_
    obtain ⟨⟨dx, hp⟩, ⟨kn, hn, dn⟩, ⟨kb, hb, eb⟩, ⟨lv, hl, ls⟩, ne⟩ := id hN
    have ne' := ne.symm
    k_offL
    refine lstk (by show 2 ≤ 100000; decide) fun t H1 n1 e1 f1 => ?_
    k_offL
    refine i_check_houses [u, x] (.inl (by k_clsL)) dn (.inl (sqL_of e1)) (fun z hz => ?_) ?_
    · rcases List.mem_cons.mp hz with e | e
      · rw [e]; exact NS.mf_some hu
      · rw [List.mem_singleton.mp e]; exact NS.mf_some hx
    k_offL
    refine dgetk (kvs := kn) (.inl (by k_clsL)) (by rw [dn.val, NS.mf_at hu]) ?_
    k_offL
    refine dputk (kvs := kn) (by k_clsL) (ok.knl dn) fun H2 e2 f2 => ?_
    k_offL
    have q1 : H2 p = some (.ins CNet dx (netF N.size da db dl)) := by k_clsL
    have q3 : H2 db = some (.dK kb) := by k_clsL
    have q4 : H2 dl = some (.lst lv) := by k_clsL
    exact k H2 ⟨⟨dx, q1⟩, ⟨_, e2, dn.put.cong fun h => N.mf_setF u x hu h⟩, ⟨kb, q3, eb⟩, ⟨lv, q4, ls.fr (f1.up.trans f2)⟩, ne⟩ (f1.up.trans f2)
end
end RL
set_option synthInstance.maxHeartbeats 4000000
set_option synthInstance.maxSize 4000
namespace RL
def T5 (tp tc : Addr) (i : Nat) (c k r : Int) (H : Hp) : Prop := H tp = some (.lst [.ref tc, .int (i : Int), .int c, .int k, .int r])
structure TapeAt (H : Hp) (tp tc : Addr) : Prop where
  ex : ∃ (cs : List Int) (i : Nat) (c k r : Int), T5 tp tc i c k r H ∧ H tc = some (.lst (cs.map V.int)) ∧ i < cs.length ∧ cs.length ≤ 64
theorem TapeAt.fr {H H' : Hp} {tp tc : Addr} {M : List Addr} (x : TapeAt H tp tc) (f : Fr M H H') (h1 : tp ∉ M) (h2 : tc ∉ M) : TapeAt H' tp tc :=
  let ⟨cs, i, c, k, r, a, b, d⟩ := x.ex
  ⟨cs, i, c, k, r, f.at_ _ _ a h1, f.at_ _ _ b h2, d⟩
theorem TapeAt.ex0 {H H' : Hp} {tp tc : Addr} (x : TapeAt H tp tc) (f : Fr [] H H') : TapeAt H' tp tc := x.fr f List.not_mem_nil List.not_mem_nil
theorem TapeAt.ne {H : Hp} {tp tc : Addr} (x : TapeAt H tp tc) : tc ≠ tp := by
  obtain ⟨cs, i, c, k, r, a, b, d⟩ := x.ex
  intro e
  subst e
  rw [show H tc = _ from a] at b
  have b' := HO.lst.inj (Option.some.inj b)
  match cs, b' with
  | [], b' => cases b'
  | x :: r, b' => cases b'
def absV : V → V
  | .int i => .int (if i < 0 then -i else i)
  | v => v
theorem absV_map (ns : List Int) : (ns.map V.int).map absV = (ns.map fun i => if i < 0 then -i else i).map V.int := by
  rw [List.map_map, List.map_map]; rfl
def spTape (K : PySem.W.Frag) : Sp := fun vs H Q _ => ∃ (a : Addr) (ns : List Int), vs = [.ref a] ∧ SqL K H a (ns.map V.int) ∧ ns.length ≤ 63 ∧ ∀ tp tc H', H tp = none → H tc = none → TapeAt H' tp tc → Fr [] H H' → Q (.ref tp) H'
section
variable {P : Program} {w : World} {K : PySem.W.Frag} {mg : Str → Option Value} {base : Heap} {CNet CMender CDesk CStore CWalk : Addr}
abbrev s__law_tape : Stmt := top 47
theorem sc__law_tape : FnScope ["script", "cells", "cell"] ["script"] (defScope s__law_tape) := ⟨rfl, rfl, rfl, by decide +kernel, rfl, by decide +kernel, by decide +kernel⟩
theorem ok__law_tape {f : Addr} {fd : FuncData} (F : Fun K "_law_tape" "_law_tape" s__law_tape f fd) (m_abs : mg "abs" = none) (m_int : mg "int" = none) (m_len : mg "len" = none) : FnOk P w K mg base CX0 1 f fd ["script"] (spTape K) := by
  refine F.ok sc__law_tape (fun vs H Q E h => ?_) (fun cdv A outer s H vs Q E hr h => ?_)
  · obtain ⟨_, _, rfl, _⟩ := h; rfl
  · obtain ⟨a, ns, rfl, hS, hlen, k⟩ := h
    refine ⟨_, (pss_cons (ps_setLc (i := 1) (own := [("cell", 2)]) (g := gName 2) rfl sc__law_tape.nd rfl rfl (sw_true rfl rfl rfl (by decide +kernel)) (pi_listK (K := K) rfl (pv 0)) (blkOk_by (N := ["script", "cells", "cell"]) (sc := defScope s__law_tape) (by decide +kernel)) (fun _ _ _ _ _ => (pg_name (i := 2) sc__law_tape.nd rfl (Or.inl rfl))) (fun _ _ _ _ _ => pts_nil) (fun _ _ _ _ _ => (pe_callB cb_abs (by rfl) m_abs b_abs (pa_cons (pe_callTy cb_int (by rfl) m_int b_int (pa_cons (pv 2) pa_nil)) pa_nil))))
      (pss_cons (ps_if (pt_cmpR op_eq (pe_callB (cb_lenSK (K := K) rfl) (by rfl) m_len b_len (pa_cons (pv 1) pa_nil)) pe_int (nomark _)) (pss_one (ps_set (i := 1) sc__law_tape.nd rfl (Or.inl rfl) (pe_lst (pa_cons pe_int pa_nil)))) pss_nil)
      (pss_one (ps_ret (pe_lst (pa_cons (pv 1) (pa_cons pe_int (pa_cons (pe_ix (ix_listK (K := K) rfl) (pv 1) pe_int (by intro _ _; rfl)) (pa_cons pe_int (pa_cons pe_int pa_nil)))))))))), ?_⟩
    (try simp only [cxK, cxKX, List.map])
    refine ent (σ' := [some _, none, none]) rfl ?_
    k_offL
    refine walkL hS ?_
    refine lcV (walk_list (xs := ns.map V.int)) (ns.map V.int) rfl (fun i H0 x H' _ y => yAt y) (fun _ => true) absV (fun H' f => f.sqL hS List.not_mem_nil) (by rw [List.length_map]; omega) (fun x H' hm f => ?_) fun l1 H1 n1 e1 f1 => ?_
    · obtain ⟨z, _, rfl⟩ := mem_intsM hm
      refine sk2 ⟨fun R kR => kR H' (Fr.refl _ _), fun _ H3 f3 R kR => ?_⟩
      k_offL
      exact kR H3 (Fr.refl _ _)
    rw [List.filter_eq_self.mpr fun _ _ => rfl, absV_map] at e1
    k_places
    refine q_cut (fun σ' H' => ∃ (tc : Addr) (cs : List Int), σ' = [some (.ref a), some (.ref tc), none] ∧ H tc = none ∧ H' tc = some (.lst (cs.map V.int)) ∧ 0 < cs.length ∧ cs.length ≤ 64 ∧ Fr [] H H') (fun Nx kN => ?_) ?_
    · k_offL
      refine r_lenL (sqL_of e1) ?_
      k_offL
      refine ifD (fun e => ?_) (fun e => ?_)
      · k_offL
        refine lstk (by show 1 ≤ 100000; decide) fun l2 H2 n2 e2 f2 => ?_
        k_offL
        exact kN _ _ ⟨l2, [0], rfl, f1.free n2, e2, by decide, by decide, f1.trans f2⟩
      · k_offL
        refine kN _ _ ⟨l1, _, rfl, n1, e1, ?_, ?_, f1⟩
        · simp only [List.length_map] at e ⊢; omega
        · simp only [List.length_map]; omega
    rintro _ H2 ⟨tc, cs, rfl, n2, e2, h0, hl, f2⟩
    k_offL
    refine r_ixL (sqL_of e2) (v := .int cs[0]) (at_of (j := 0) rfl (by rw [List.getElem?_map, List.getElem?_eq_getElem h0]; rfl)) ?_
    k_offL
    refine lstk (by show 5 ≤ 100000; decide) fun tp H3 n3 e3 f3 => ?_
    exact k tp tc H3 (f2.free n3) n2 ⟨cs, 0, cs[0], 0, 0, e3, f3.at_ _ _ e2 List.not_mem_nil, h0, hl⟩ (f2.trans f3)
end
def spPick : Sp := fun vs H Q _ => ∃ (tp tc : Addr) (size : Int) (_ : Unit), vs = [.ref tp, .int size] ∧ TapeAt H tp tc ∧ 0 < size ∧ size < 2 ^ 62 ∧ ∀ n H', 0 ≤ n → n < size → TapeAt H' tp tc → Fr [tp] H H' → Q (.int n) H'
theorem i_pick {tp tc : Addr} {size : Int} {H : Hp} {Q : VK} {E : XK} (t : TapeAt H tp tc) (h0 : 0 < size) (h1 : size < 2 ^ 62) (q : ∀ n H', 0 ≤ n → n < size → TapeAt H' tp tc → Fr [tp] H H' → Q (.int n) H') : spPick [.ref tp, .int size] H Q E := ⟨tp, tc, size, (), rfl, t, h0, h1, q⟩
theorem ix_at {xs : List V} {i : Int} {v : V} (j : Nat) (e : i = (j : Int)) (h : xs[j]? = some v) : atI xs i = some v := at_of e h
section
variable {P : Program} {w : World} {K : PySem.W.Frag} {mg : Str → Option Value} {base : Heap} {CNet CMender CDesk CStore CWalk : Addr}
abbrev s__law_pick : Stmt := top 48
theorem sc__law_pick : FnScope ["tape", "size", "cells", "cell", "k", "number", "used", "mixed"] ["tape", "size"] (defScope s__law_pick) := ⟨rfl, rfl, rfl, by decide +kernel, rfl, by decide +kernel, by decide +kernel⟩
theorem ok__law_pick {f : Addr} {fd : FuncData} (F : Fun K "_law_pick" "_law_pick" s__law_pick f fd) (m_int : mg "int" = none) (m_len : mg "len" = none) : FnOk P w K mg base CX0 1 f fd ["tape", "size"] spPick := by
  refine F.ok sc__law_pick (fun vs H Q E h => ?_) (fun cdv A outer s H vs Q E hr h => ?_)
  · obtain ⟨_, _, _, _, rfl, _⟩ := h; rfl
  · obtain ⟨tp, tc, size, _, rfl, t, h0, h1, k⟩ := h
    refine ⟨_, (pss_cons (ps_set (i := 2) sc__law_pick.nd rfl (Or.inl rfl) (pe_ix (ix_listK (K := K) rfl) (pv 0) pe_int (by intro _ _; rfl)))
      (pss_cons (ps_set (i := 3) sc__law_pick.nd rfl (Or.inl rfl) (pe_ix (ix_listK (K := K) rfl) (pv 2) (pe_ix (ix_listK (K := K) rfl) (pv 0) pe_int (by intro _ _; rfl)) (by intro _ _; rfl)))
      (pss_cons (ps_set (i := 4) sc__law_pick.nd rfl (Or.inl rfl) (pe_op op_add (pe_ix (ix_listK (K := K) rfl) (pv 0) pe_int (by intro _ _; rfl)) (pe_op op_mul pe_int (pe_ix (ix_listK (K := K) rfl) (pv 0) pe_int (by intro _ _; rfl)))))
      (pss_cons (ps_if (PW.pt (pw_and (pt_cmpR op_ge (pv 3) (pe_op op_pow pe_int pe_int) (nomark _)) (pw_and1 (pt_cmpR op_eq (pe_ix (ix_listK (K := K) rfl) (pv 0) pe_int (by intro _ _; rfl)) pe_int (nomark _))))) (pss_cons (ps_set (i := 5) sc__law_pick.nd rfl (Or.inl rfl) (pe_op op_mod (pe_callTy cb_int (by rfl) m_int b_int (pa_cons (pe_ix (ix_listK (K := K) rfl) (pv 0) pe_int (by intro _ _; rfl)) pa_nil)) (pv 1)))
      (pss_cons (ps_asg (pe_op op_fdivW (pe_ix (ix_listK (K := K) rfl) (pv 0) pe_int (by intro _ _; rfl)) (pv 1)) (pg_sub (pv 0) pe_int set_list))
      (pss_one (ps_set (i := 6) sc__law_pick.nd rfl (Or.inl rfl) (pe_cmpR op_eq (pe_ix (ix_listK (K := K) rfl) (pv 0) pe_int (by intro _ _; rfl)) pe_int (nomark _)))))) (pss_cons (ps_set (i := 7) sc__law_pick.nd rfl (Or.inl rfl) (pe_op op_mod (pe_callTy cb_int (by rfl) m_int b_int (pa_cons (pe_op op_add (pe_op op_add (pv 3) (pe_op op_mul pe_int (pv 4))) pe_int) pa_nil)) pe_int))
      (pss_cons (ps_set (i := 7) sc__law_pick.nd rfl (Or.inl rfl) (pe_op op_mod (pe_callTy cb_int (by rfl) m_int b_int (pa_cons (pe_op op_mul (pv 7) (pe_op op_add (pv 7) pe_int)) pa_nil)) pe_int))
      (pss_cons (ps_set (i := 7) sc__law_pick.nd rfl (Or.inl rfl) (pe_op op_mod (pe_callTy cb_int (by rfl) m_int b_int (pa_cons (pe_op op_add (pe_op op_mul (pv 7) (pe_op op_add (pv 7) pe_int)) (pe_op op_mul pe_int (pv 4))) pa_nil)) pe_int))
      (pss_cons (ps_set (i := 5) sc__law_pick.nd rfl (Or.inl rfl) (pe_op op_mod (pe_callTy cb_int (by rfl) m_int b_int (pa_cons (pe_op op_fdivW (pv 7) pe_int) pa_nil)) (pv 1)))
      (pss_one (ps_set (i := 6) sc__law_pick.nd rfl (Or.inl rfl) (pe_cmpR op_eq (pe_op op_mod (pe_callTy cb_int (by rfl) m_int b_int (pa_cons (pv 4) pa_nil)) pe_int) pe_int (nomark _)))))))))
      (pss_cons (ps_asg (pe_op op_add (pe_ix (ix_listK (K := K) rfl) (pv 0) pe_int (by intro _ _; rfl)) pe_int) (pg_sub (pv 0) pe_int set_list))
      (pss_cons (ps_if (pt_val (pv 6)) (pss_cons (ps_asg pe_int (pg_sub (pv 0) pe_int set_list))
      (pss_cons (ps_asg (pe_op op_add (pe_ix (ix_listK (K := K) rfl) (pv 0) pe_int (by intro _ _; rfl)) pe_int) (pg_sub (pv 0) pe_int set_list))
      (pss_cons (ps_if (pt_cmpR op_eq (pe_ix (ix_listK (K := K) rfl) (pv 0) pe_int (by intro _ _; rfl)) (pe_callB (cb_lenSK (K := K) rfl) (by rfl) m_len b_len (pa_cons (pv 2) pa_nil)) (nomark _)) (pss_cons (ps_asg pe_int (pg_sub (pv 0) pe_int set_list))
      (pss_one (ps_asg (pe_op op_add (pe_ix (ix_listK (K := K) rfl) (pv 0) pe_int (by intro _ _; rfl)) pe_int) (pg_sub (pv 0) pe_int set_list)))) pss_nil)
      (pss_one (ps_asg (pe_ix (ix_listK (K := K) rfl) (pv 2) (pe_ix (ix_listK (K := K) rfl) (pv 0) pe_int (by intro _ _; rfl)) (by intro _ _; rfl)) (pg_sub (pv 0) pe_int set_list)))))) pss_nil)
      (pss_one (ps_ret (pv 5))))))))), ?_⟩
    (try simp only [cxK, cxKX, List.map])
    refine ent (σ' := [some _, some _, none, none, none, none, none, none]) rfl ?_
    have hne := t.ne
    obtain ⟨cs, i, c, kk, r, tt, tcs, hi, hl⟩ := t.ex
    have hcell : (cs.map V.int)[i]? = some (.int cs[i]) := by rw [List.getElem?_map, List.getElem?_eq_getElem hi]; rfl
    k_offL
    refine r_ixL (sqL_of tt) (ix_at 0 rfl rfl) ?_
    k_offL
    refine r_ixL (sqL_of tt) (ix_at 1 rfl rfl) ?_
    k_offL
    refine r_ixL (sqL_of tcs) (ix_at i rfl hcell) ?_
    k_offL
    refine r_ixL (sqL_of tt) (ix_at 3 rfl rfl) ?_
    k_offL
    refine r_ixL (sqL_of tt) (ix_at 4 rfl rfl) ?_
    k_places
    refine q_cut (fun σ' H' => ∃ (n c' : Int) (b : Bool) (kv mx : Option V), σ' = [some (.ref tp), some (.int size), some (.ref tc), some (.int cs[i]), kv, some (.int n), some (.bl b), mx] ∧ 0 ≤ n ∧ n < size ∧ T5 tp tc i c' kk r H' ∧ Fr [tp] H H') (fun Nx kN => ?_) ?_
    · k_offL
      have mix : ∀ (A B : Int → Int) (X : Int), ∀ b kv mx, Nx [some (.ref tp), some (.int size), some (.ref tc), some (.int cs[i]), kv, some (.int (X % size)), some (.bl b), mx] H := fun A B X b kv mx =>
        kN _ _ ⟨_, c, b, kv, mx, rfl, Int.emod_nonneg _ (by omega), Int.emod_lt_of_pos _ h0, tt, Fr.refl _ _⟩
      refine ifD (fun e => ?_) (fun e => ?_)
      · k_offL
        refine r_ixL (sqL_of tt) (ix_at 4 rfl rfl) ?_
        k_offL
        refine ifD (fun e2 => ?_) (fun e2 => ?_)
        · k_offL
          refine r_ixL (sqL_of tt) (ix_at 2 rfl rfl) ?_
          k_offL
          refine r_ixL (sqL_of tt) (ix_at 2 rfl rfl) ?_
          k_offL
          refine r_setL tt (j := 2) rfl (by show 2 < 5; decide) fun H1 e1 f1 => ?_
          k_offL
          refine r_ixL (sqL_of e1) (ix_at 2 rfl rfl) ?_
          k_offL
          exact kN _ _ ⟨_, _, _, _, _, rfl, Int.emod_nonneg _ (by omega), Int.emod_lt_of_pos _ h0, e1, f1⟩
        · k_offL
          exact mix id id _ _ _ _
      · k_offL
        exact mix id id _ _ _ _
    rintro _ H1 ⟨n, c', b, kv, mx, rfl, n0, n1, t1, f1⟩
    have tcs1 : H1 tc = some (.lst (cs.map V.int)) := f1.at_ _ _ tcs (fun z => hne (List.mem_singleton.mp z))
    k_offL
    refine r_ixL (sqL_of t1) (ix_at 3 rfl rfl) ?_
    k_offL
    refine r_setL t1 (j := 3) rfl (by show 3 < 5; decide) fun H2 e2 f2 => ?_
    have f02 := f1.trans f2
    have tcs2 : H2 tc = some (.lst (cs.map V.int)) := f2.at_ _ _ tcs1 (fun z => hne (List.mem_singleton.mp z))
    k_offL
    refine ifB (fun eb => ?_) (fun eb => ?_)
    · k_offL
      refine r_setL e2 (j := 3) rfl (by show 3 < 5; decide) fun H3 e3 f3 => ?_
      k_offL
      refine r_ixL (sqL_of e3) (v := .int (i : Int)) (ix_at 1 rfl rfl) ?_
      k_offL
      refine r_setL e3 (j := 1) rfl (by show 1 < 5; decide) fun H4 e4 f4 => ?_
      k_offL
      refine r_ixL (sqL_of e4) (ix_at 1 rfl rfl) ?_
      k_offL
      have f04 := (f02.trans f3).trans f4
      have tcs4 : H4 tc = some (.lst (cs.map V.int)) := f04.at_ _ _ tcs (fun z => hne (List.mem_singleton.mp z))
      refine r_lenL (sqL_of tcs4) ?_
      k_offL
      refine ifD (fun ew => ?_) (fun ew => ?_)
      · k_offL
        refine r_setL e4 (j := 1) rfl (by show 1 < 5; decide) fun H5 e5 f5 => ?_
        k_offL
        refine r_ixL (sqL_of e5) (ix_at 4 rfl rfl) ?_
        k_offL
        refine r_setL e5 (j := 4) rfl (by show 4 < 5; decide) fun H6 e6 f6 => ?_
        k_offL
        refine r_ixL (sqL_of e6) (v := .int 0) (ix_at 1 rfl rfl) ?_
        have f06 := (f04.trans f5).trans f6
        have tcs6 : H6 tc = some (.lst (cs.map V.int)) := f06.at_ _ _ tcs (fun z => hne (List.mem_singleton.mp z))
        have hp : 0 < cs.length := by omega
        k_offL
        refine r_ixL (sqL_of tcs6) (v := .int cs[0]) (ix_at 0 rfl (by rw [List.getElem?_map, List.getElem?_eq_getElem hp]; rfl)) ?_
        k_offL
        refine r_setL e6 (j := 2) rfl (by show 2 < 5; decide) fun H7 e7 f7 => ?_
        k_offL
        exact k n H7 n0 n1 ⟨cs, 0, _, _, _, e7, f7.at_ _ _ tcs6 (fun z => hne (List.mem_singleton.mp z)), hp, hl⟩ (f06.trans f7)
      · k_offL
        refine r_ixL (sqL_of e4) (v := .int ((i : Int) + 1)) (ix_at 1 rfl rfl) ?_
        k_offL
        rw [List.length_map] at ew
        have hi2 : i + 1 < cs.length := by omega
        refine r_ixL (sqL_of tcs4) (v := .int cs[i + 1]) (ix_at (i + 1) (by omega) (by rw [List.getElem?_map, List.getElem?_eq_getElem hi2]; rfl)) ?_
        k_offL
        refine r_setL e4 (j := 2) rfl (by show 2 < 5; decide) fun H7 e7 f7 => ?_
        k_offL
        exact k n H7 n0 n1 ⟨cs, i + 1, _, _, _, e7, f7.at_ _ _ tcs4 (fun z => hne (List.mem_singleton.mp z)), hi2, hl⟩ (f04.trans f7)
    · k_offL
      exact k n H2 n0 n1 ⟨cs, i, _, _, _, e2, tcs2, hi, hl⟩ f02
end
end RL
set_option synthInstance.maxHeartbeats 4000000
set_option synthInstance.maxSize 4000
namespace RL
theorem mem_one {a b : Addr} (h : b ≠ a) : b ∉ [a] := fun z => h (List.mem_singleton.mp z)
def NxD (ps done : List Int) (kvs : List (Key × V)) : Prop := ∃ g : Int → Int, DOk kvs (fun h => if h ∈ done then some (.int (g h)) else none) ∧ (∀ h ∈ done, g h ∈ ps) ∧ kvs.length ≤ done.length
theorem NxD.nil {ps : List Int} : NxD ps [] [] := ⟨fun _ => 0, DOk.nil.cong fun n => by simp, (fun _ h => nomatch h), Nat.le_refl _⟩
theorem NxD.put {ps done : List Int} {kvs : List (Key × V)} (x : NxD ps done kvs) {h y : Int} (hy : y ∈ ps) : NxD ps (done ++ [h]) (putK kvs (.inl h) (.int y)) := by
  obtain ⟨g, d, m, l⟩ := x
  refine ⟨fun z => if z = h then y else g z, d.put.cong fun n => ?_, fun z hz => ?_, ?_⟩
  · by_cases e : n = h
    · subst e; simp
    · by_cases hm : n ∈ done
      · simp [e, hm]
      · simp [e, hm]
  · by_cases e : z = h
    · show (if z = h then y else g z) ∈ ps
      rw [if_pos e]; exact hy
    · show (if z = h then y else g z) ∈ ps
      rw [if_neg e]
      exact m z ((List.mem_append.mp hz).resolve_right fun q => e (List.mem_singleton.mp q))
  · have := putK_len1 kvs (.inl h) (.int y)
    rw [List.length_append]
    simp only [List.length_singleton]
    omega
theorem ints_get {ps : List Int} {j : Nat} (h : j < ps.length) : (ps.map V.int)[j]? = some (.int ps[j]) := by rw [List.getElem?_map, List.getElem?_eq_getElem h]; rfl
theorem take_get {ps : List Int} {j : Nat} (h : j < ps.length) : ps.take (j + 1) = ps.take j ++ [ps[j]] := take_snoc (List.getElem?_eq_getElem h)
def spSize : Sp := fun vs H Q _ => ∃ (tp tc : Addr) (count : Int) (_ : Unit), vs = [.ref tp, .int count] ∧ TapeAt H tp tc ∧ 0 ≤ count ∧ count ≤ 100 ∧ ∀ n H', 1 ≤ n → count ≤ n → n < 2 ^ 31 → TapeAt H' tp tc → Fr [tp] H H' → Q (.int n) H'
section
variable {P : Program} {w : World} {K : PySem.W.Frag} {mg : Str → Option Value} {base : Heap} {CNet CMender CDesk CStore CWalk : Addr}
abbrev s__law_size : Stmt := top 49
theorem sc__law_size : FnScope ["tape", "count", "kind", "least"] ["tape", "count"] (defScope s__law_size) := ⟨rfl, rfl, rfl, by decide +kernel, rfl, by decide +kernel, by decide +kernel⟩
theorem ok__law_size {f : Addr} {fd : FuncData} (F : Fun K "_law_size" "_law_size" s__law_size f fd) (G__law_pick : GF P w K mg base "_law_pick" 1 ["tape", "size"] spPick) (m_max : mg "max" = none) : FnOk P w K mg base CX0 2 f fd ["tape", "count"] spSize := by
  refine F.ok sc__law_size (fun vs H Q E h => ?_) (fun cdv A outer s H vs Q E hr h => ?_)
  · obtain ⟨_, _, _, _, rfl, _⟩ := h; rfl
  · obtain ⟨tp, tc, count, _, rfl, t, c0, c1, k⟩ := h
    refine ⟨_, (pss_cons (ps_set (i := 2) sc__law_size.nd rfl (Or.inl rfl) (c_fn G__law_pick (hr.mono (by decide)) (pa_cons (pv 0) (pa_cons pe_int pa_nil))))
      (pss_cons (ps_set (i := 3) sc__law_size.nd rfl (Or.inl rfl) (pe_callB (cb_max2 rfl) (by rfl) m_max b_max (pa_cons pe_int (pa_cons (pv 1) pa_nil))))
      (pss_cons (ps_if (pt_cmpR op_eq (pv 2) pe_int (nomark _)) (pss_one (ps_ret (pv 3))) pss_nil)
      (pss_cons (ps_if (pt_cmpR op_eq (pv 2) pe_int (nomark _)) (pss_one (ps_ret (pe_op op_add (pv 3) (c_fn G__law_pick (hr.mono (by decide)) (pa_cons (pv 0) (pa_cons pe_int pa_nil)))))) pss_nil)
      (pss_cons (ps_if (pt_cmpR op_eq (pv 2) pe_int (nomark _)) (pss_one (ps_ret (pe_op op_add (pv 3) (c_fn G__law_pick (hr.mono (by decide)) (pa_cons (pv 0) (pa_cons pe_int pa_nil)))))) pss_nil)
      (pss_one (ps_ret (pe_op op_add (pe_op op_add (pv 3) pe_int) (c_fn G__law_pick (hr.mono (by decide)) (pa_cons (pv 0) (pa_cons pe_int pa_nil))))))))))), ?_⟩
    (try simp only [cxK, cxKX, List.map])
    refine ent (σ' := [some _, some _, none, none]) rfl ?_
    k_offL
    refine i_pick t (by decide) (by decide) fun n1 H1 a1 b1 t1 f1 => ?_
    k_offL
    have hm : ∃ m : Int, (if count > 1 then count else 1) = m ∧ 1 ≤ m ∧ count ≤ m ∧ m ≤ 100 := ⟨_, rfl, by split <;> omega, by split <;> omega, by split <;> omega⟩
    obtain ⟨m, em, m1, m2, m3⟩ := hm
    rw [em]
    refine ifD (fun e => ?_) (fun e => ?_)
    · k_offL
      exact k m H1 m1 m2 (by omega) t1 f1
    · k_offL
      refine ifD (fun e2 => ?_) (fun e2 => ?_)
      · k_offL
        refine i_pick t1 (by decide) (by decide) fun n2 H2 a2 b2 t2 f2 => ?_
        k_offL
        exact k _ H2 (by omega) (by omega) (by omega) t2 (f1.trans f2)
      · k_offL
        refine ifD (fun e3 => ?_) (fun e3 => ?_)
        · k_offL
          refine i_pick t1 (by decide) (by decide) fun n2 H2 a2 b2 t2 f2 => ?_
          k_offL
          exact k _ H2 (by omega) (by omega) (by omega) t2 (f1.trans f2)
        · k_offL
          refine i_pick t1 (by decide) (by decide) fun n2 H2 a2 b2 t2 f2 => ?_
          k_offL
          exact k _ H2 (by omega) (by omega) (by omega) t2 (f1.trans f2)
end
structure Pl (size : Int) (ps : List Int) : Prop where
  nd : ps.Nodup
  on : ∀ p ∈ ps, 0 ≤ p ∧ p < size
def spPlaces : Sp := fun vs H Q _ => ∃ (tp tc : Addr) (size : Int) (count : Int) (_ : Unit), vs = [.ref tp, .int size, .int count] ∧ TapeAt H tp tc ∧ 0 ≤ count ∧ count ≤ size ∧ count ≤ 60 ∧ size < 2 ^ 40 ∧
  ∀ l ps H', H l = none → H' l = some (.lst (ps.map V.int)) → (ps.length : Int) = count → Pl size ps → TapeAt H' tp tc → Fr [tp] H H' → Q (.ref l) H'
section
variable {P : Program} {w : World} {K : PySem.W.Frag} {mg : Str → Option Value} {base : Heap} {CNet CMender CDesk CStore CWalk : Addr}
abbrev s__law_places : Stmt := top 50
theorem sc__law_places : FnScope ["tape", "size", "count", "places", "k", "place", "other"] ["tape", "size", "count"] (defScope s__law_places) := ⟨rfl, rfl, rfl, by decide +kernel, rfl, by decide +kernel, by decide +kernel⟩
theorem ok__law_places {f : Addr} {fd : FuncData} (F : Fun K "_law_places" "_law_places" s__law_places f fd) (m_range : mg "range" = none) (G__law_pick : GF P w K mg base "_law_pick" 1 ["tape", "size"] spPick) (m_sorted : mg "sorted" = none) : FnOk P w K mg base CX0 2 f fd ["tape", "size", "count"] spPlaces := by
  refine F.ok sc__law_places (fun vs H Q E h => ?_) (fun cdv A outer s H vs Q E hr h => ?_)
  · obtain ⟨_, _, _, _, _, rfl, _⟩ := h; rfl
  · obtain ⟨tp, tc, size, count, _, rfl, t, c0, c1, c2, s1, k⟩ := h
    refine ⟨_, (pss_cons (ps_set (i := 3) sc__law_places.nd rfl (Or.inl rfl) (pe_lst pa_nil))
      (pss_cons (ps_for PassesOwn.never rfl (pi_range1 (by rfl) m_range (pa_cons (pv 2) pa_nil)) (pg_name (i := 4) sc__law_places.nd rfl (Or.inl rfl))
      (pss_cons (ps_set (i := 5) sc__law_places.nd rfl (Or.inl rfl) (c_fn G__law_pick (hr.mono (by decide)) (pa_cons (pv 0) (pa_cons (pe_op op_sub (pv 1) (pv 4)) pa_nil))))
      (pss_cons (ps_for PassesOwn.never rfl (pi_listK (K := K) rfl (pe_callB (cb_sortIK (K := K) rfl) (by rfl) m_sorted b_sorted (pa_cons (pv 3) pa_nil))) (pg_name (i := 6) sc__law_places.nd rfl (Or.inl rfl))
      (pss_one (ps_if (pt_cmpR op_le (pv 6) (pv 5) (nomark _)) (pss_one (ps_set (i := 5) sc__law_places.nd rfl (Or.inl rfl) (pe_op op_add (pv 5) pe_int))) pss_nil)))
      (pss_one (ps_expr (pe_bmK (K := K) rfl PySem.F.plainAttrs_list PySem.F.slot_list_append PySem.F.type_list_append mt_append (pv 3) (pa_cons (pv 5) pa_nil)))))))
      (pss_one (ps_ret (pv 3))))), ?_⟩
    (try simp only [cxK, cxKX, List.map])
    refine ent (σ' := [some _, some _, some _, none, none, none, none]) rfl ?_
    k_offL
    refine lstk (by show 0 ≤ 100000; decide) fun lp H1 n1 e1 f1 => ?_
    k_offL
    have t1 := t.ex0 f1
    obtain ⟨_, _, _, _, _, tt, tcs, _⟩ := t.ex
    have hlt : tp ≠ lp := ne_of_none tt n1
    have hlc : tc ≠ lp := ne_of_none tcs n1
    refine loopR1 count (by omega) (by omega) (fun i σ' H' => (∃ a b c, σ' = [some (.ref tp), some (.int size), some (.int count), some (.ref lp), a, b, c]) ∧ ∃ ps, H' lp = some (.lst (ps.map V.int)) ∧ ps.length = i ∧ Pl size ps ∧ TapeAt H' tp tc ∧ Fr [tp] H H')
      ⟨⟨_, _, _, rfl⟩, [], e1, rfl, ⟨List.nodup_nil, fun _ h => nomatch h⟩, t1, f1.up⟩ ?_ ?_
    · rintro i σ' H2 hi ⟨⟨a, b, c, rfl⟩, ps, e2, hl, pl, t2, f2⟩
      k_offL
      refine i_pick t2 (by omega) (by omega) fun p0 H3 a3 b3 t3 f3 => ?_
      k_offL
      have e3 : H3 lp = some (.lst (ps.map V.int)) := f3.at_ _ _ e2 (mem_one hlt.symm)
      refine r_sortI (sqL_of e3) fun ys l4 H4 hp hy n4 e4 f4 => ?_
      have yl : ys.length = i := by rw [hp.length_eq, hl]
      have yu := up_of_sorted hy (hp.nodup_iff.mpr pl.nd)
      refine loopLF (M := []) (ys.map V.int) (sqL_of e4) List.not_mem_nil (fun j σ' H' => ∃ (x : Int) (d : Option V), σ' = [some (.ref tp), some (.int size), some (.int count), some (.ref lp), some (.int (i : Int)), some (.int x), d] ∧ p0 ≤ x ∧ x ≤ p0 + j ∧ (∀ z ∈ ys.take j, z ≠ x) ∧ ((∀ z ∈ ys.take j, z < x) ∨ ∃ z ∈ ys.take j, x < z) ∧ Fr [] H4 H')
        ⟨p0, _, rfl, by omega, by omega, (fun _ h => nomatch h), .inl (fun _ h => nomatch h), Fr.refl _ _⟩ (fun j σ' H' ⟨_, _, _, _, _, _, _, f⟩ => f) ?_ ?_
      · rintro j x σ' H5 hj ⟨x0, d2, rfl, x1, x2, x3, x4, f5⟩
        obtain ⟨s, hs, hm, rfl⟩ := mem_ints hj
        have hts := take_snoc hs
        k_offL
        refine ifD (fun e => ?_) (fun e => ?_)
        · k_offL
          refine ⟨x0 + 1, _, rfl, by omega, by omega, fun z hz => ?_, ?_, f5⟩
          · rw [hts] at hz
            rcases List.mem_append.mp hz with q | q
            · rcases x4 with g | ⟨z', hz', g⟩
              · have := g z q; omega
              · exfalso
                have h1 : z' < s := by
                  obtain ⟨m, hm', em⟩ := List.mem_iff_getElem.mp hz'
                  rw [List.length_take] at hm'
                  rw [List.getElem_take] at em
                  have hjl := (List.getElem?_eq_some_iff.mp hs).1
                  have hjs := (List.getElem?_eq_some_iff.mp hs).2
                  have := List.pairwise_iff_getElem.mp yu m j (by omega) hjl (by omega)
                  omega
                omega
            · have := List.mem_singleton.mp q; omega
          · left
            intro z hz
            rw [hts] at hz
            rcases List.mem_append.mp hz with q | q
            · rcases x4 with g | ⟨z', hz', g⟩
              · have := g z q; omega
              · exfalso
                have h1 : z' < s := by
                  obtain ⟨m, hm', em⟩ := List.mem_iff_getElem.mp hz'
                  rw [List.length_take] at hm'
                  rw [List.getElem_take] at em
                  have hjl := (List.getElem?_eq_some_iff.mp hs).1
                  have hjs := (List.getElem?_eq_some_iff.mp hs).2
                  have := List.pairwise_iff_getElem.mp yu m j (by omega) hjl (by omega)
                  omega
                omega
            · have := List.mem_singleton.mp q; omega
        · k_offL
          refine ⟨x0, _, rfl, x1, by omega, fun z hz => ?_, ?_, f5⟩
          · rw [hts] at hz
            rcases List.mem_append.mp hz with q | q
            · exact x3 z q
            · have := List.mem_singleton.mp q; omega
          · right
            exact ⟨s, by rw [hts]; simp, by omega⟩
      · rintro σ' H5 ⟨x0, d2, rfl, x1, x2, x3, x4, f5⟩
        rw [List.length_map] at x2 x3
        rw [List.take_length] at x3
        have e5 : H5 lp = some (.lst (ps.map V.int)) := (f4.trans f5).at_ _ _ e3 List.not_mem_nil
        k_offL
        refine r_app e5 (by rw [List.length_map]; omega) fun H6 e6 f6 => ?_
        k_offL
        have g6 : Fr [] H4 H5 := f5
        have f05 : Fr [tp] H H5 := (f2.trans f3).trans ((f4.trans f5).up)
        refine ⟨⟨_, _, _, rfl⟩, ps ++ [x0], by rw [e6, List.map_append]; rfl, by rw [List.length_append, hl]; rfl, ⟨?_, fun p hp' => ?_⟩, ?_, f05.drop (f6.mono fun a h => by simp at h; simp [h]) n1⟩
        · refine nd_snoc pl.nd fun hm => x3 x0 (hp.mem_iff.mpr hm) rfl
        · rcases List.mem_append.mp hp' with q | q
          · exact pl.on p q
          · have := List.mem_singleton.mp q
            rw [yl] at x2
            omega
        · exact ((t3.ex0 f4).ex0 f5).fr f6 (mem_one hlt) (mem_one hlc)
    · rintro σ' H2 ⟨⟨a, b, c, rfl⟩, ps, e2, hl, pl, t2, f2⟩
      k_offL
      exact k lp ps H2 n1 e2 (by omega) pl t2 f2
end
section
variable {P : Program} {w : World} {K : PySem.W.Frag} {mg : Str → Option Value} {base : Heap} {CNet CMender CDesk CStore CWalk : Addr}
abbrev s__law_far : Stmt := top 52
theorem sc__law_far : FnScope ["size", "start", "end", "steps"] ["size", "start", "end"] (defScope s__law_far) := ⟨rfl, rfl, rfl, by decide +kernel, rfl, by decide +kernel, by decide +kernel⟩
theorem ok__law_far {f : Addr} {fd : FuncData} (F : Fun K "_law_far" "_law_far" s__law_far f fd) (m_int : mg "int" = none) : FnOk P w K mg base CX0 1 f fd ["size", "start", "end"] spFar := by
  refine F.ok sc__law_far (fun vs H Q E h => ?_) (fun cdv A outer s H vs Q E hr h => ?_)
  · obtain ⟨_, _, _, rfl, _⟩ := h; rfl
  · obtain ⟨size, st, e, rfl, h0, k⟩ := h
    refine ⟨_, (pss_cons (ps_set (i := 3) sc__law_far.nd rfl (Or.inl rfl) (pe_op op_mod (pe_callTy cb_int (by rfl) m_int b_int (pa_cons (pe_op op_sub (pv 2) (pv 1)) pa_nil)) (pv 0)))
      (pss_cons (ps_if (pt_cmpR op_eq (pv 3) pe_int (nomark _)) (pss_one (ps_ret (pv 0))) pss_nil)
      (pss_one (ps_ret (pv 3))))), ?_⟩
    (try simp only [cxK, cxKX, List.map])
    refine ent (σ' := [some _, some _, some _, none]) rfl ?_
    k_offL
    refine ifD (fun h => ?_) (fun h => ?_)
    · k_offL
      unfold far at k
      rw [if_pos h] at k
      exact k
    · k_offL
      unfold far at k
      rw [if_neg h] at k
      exact k
end
section
variable {P : Program} {w : World} {K : PySem.W.Frag} {mg : Str → Option Value} {base : Heap} {CNet CMender CDesk CStore CWalk : Addr}
abbrev s__law_between : Stmt := top 53
theorem sc__law_between : FnScope ["size", "start", "place", "end"] ["size", "start", "place", "end"] (defScope s__law_between) := ⟨rfl, rfl, rfl, by decide +kernel, rfl, by decide +kernel, by decide +kernel⟩
theorem ok__law_between {f : Addr} {fd : FuncData} (F : Fun K "_law_between" "_law_between" s__law_between f fd) (G__law_far : GF P w K mg base "_law_far" 1 ["size", "start", "end"] spFar) : FnOk P w K mg base CX0 2 f fd ["size", "start", "place", "end"] spBetween := by
  refine F.ok sc__law_between (fun vs H Q E h => ?_) (fun cdv A outer s H vs Q E hr h => ?_)
  · obtain ⟨_, _, _, _, rfl, _⟩ := h; rfl
  · obtain ⟨size, st, p, e, rfl, h0, k⟩ := h
    refine ⟨_, (pss_cons (ps_if (PW.pt (pw_or (pt_cmpR op_eq (pv 2) (pv 1) (nomark _)) (pw_or1 (pt_cmpR op_eq (pv 2) (pv 3) (nomark _))))) (pss_one (ps_ret pe_bl)) pss_nil)
      (pss_one (ps_ret (pe_cmpR op_lt (c_fn G__law_far (hr.mono (by decide)) (pa_cons (pv 0) (pa_cons (pv 1) (pa_cons (pv 2) pa_nil)))) (c_fn G__law_far (hr.mono (by decide)) (pa_cons (pv 0) (pa_cons (pv 1) (pa_cons (pv 3) pa_nil)))) (nomark _))))), ?_⟩
    (try simp only [cxK, cxKX, List.map])
    refine ent (σ' := [some _, some _, some _, some _]) rfl ?_
    k_offL
    refine ifD (fun e1 => ?_) (fun e1 => ?_)
    · k_offL
      subst e1
      rw [btw_left h0] at k
      exact k
    · k_offL
      refine ifD (fun e2 => ?_) (fun e2 => ?_)
      · k_offL
        subst e2
        rw [btw_right] at k
        exact k
      · k_offL
        refine i_far h0 ?_
        k_offL
        refine i_far h0 ?_
        k_offL
        exact k
end
end RL
set_option synthInstance.maxHeartbeats 4000000
set_option synthInstance.maxSize 4000
namespace RL
def mfOf (hs : List Int) (f : Int → Int) : Int → Option V := fun h => if h ∈ hs then some (.int (f h)) else none
structure NxAt (H : Hp) (a : Addr) (hs : List Int) (f : Int → Int) : Prop where
  ex : ∃ kvs, Rd H a (.dK kvs) ∧ DOk kvs (mfOf hs f) ∧ kvs.length = hs.length
  nd : hs.Nodup
  cl : ∀ h ∈ hs, f h ∈ hs
theorem NxAt.fr {H H' : Hp} {a : Addr} {hs : List Int} {f : Int → Int} {M : List Addr} (x : NxAt H a hs f) (g : Fr M H H') (n : a ∉ M) : NxAt H' a hs f :=
  ⟨let ⟨k, r, d⟩ := x.ex; ⟨k, g.rd r n, d⟩, x.nd, x.cl⟩
theorem mfOf_at {hs : List Int} {f : Int → Int} {h : Int} (m : h ∈ hs) : mfOf hs f h = some (.int (f h)) := if_pos m
theorem mfOf_some {hs : List Int} {f : Int → Int} {n : Int} : n ∈ hs ↔ (mfOf hs f n).isSome = true := by unfold mfOf; split <;> simp [*]
theorem NxAt.mk' {H : Hp} {a : Addr} {hs : List Int} {f : Int → Int} {kvs : List (Key × V)} (r : Rd H a (.dK kvs)) (d : DOk kvs (mfOf hs f)) (nd : hs.Nodup) (cl : ∀ h ∈ hs, f h ∈ hs) : NxAt H a hs f := ⟨⟨kvs, r, d, d.lenN nd fun _ => mfOf_some⟩, nd, cl⟩
structure Per (f : Int → Int) (h : Int) (m : Nat) : Prop where
  p1 : 1 ≤ m
  rt : it f m h = h
  no : ∀ j, 0 < j → j < m → it f j h ≠ h
def ringL (f : Int → Int) (h : Int) (m : Nat) : List Int := (List.range m).map fun j => it f j h
theorem ringL_succ {f : Int → Int} {h : Int} {m : Nat} : ringL f h (m + 1) = ringL f h m ++ [it f m h] := by
  unfold ringL
  rw [List.range_succ, List.map_append]
  rfl
theorem ringL_mem {f : Int → Int} {hs : List Int} {h : Int} {m : Nat} (hf : ∀ h ∈ hs, f h ∈ hs) (hh : h ∈ hs) : ∀ x ∈ ringL f h m, x ∈ hs := fun x hx => by
  obtain ⟨j, _, e⟩ := List.mem_map.mp hx
  exact e ▸ it_mem hf hh
def spLawNexts : Sp := fun vs H Q _ => ∃ (tp tc lp : Addr) (ps : List Int) (_ : Unit), vs = [.ref tp, .ref lp] ∧ TapeAt H tp tc ∧ H lp = some (.lst (ps.map V.int)) ∧ lp ≠ tp ∧ ps.length ≤ 60 ∧
  ∀ d kvs H', H d = none → H' d = some (.dK kvs) → NxD ps ps kvs → TapeAt H' tp tc → Fr [tp] H H' → Q (.ref d) H'
section
variable {P : Program} {w : World} {K : PySem.W.Frag} {mg : Str → Option Value} {base : Heap} {CNet CMender CDesk CStore CWalk : Addr}
abbrev s__law_nexts : Stmt := top 51
theorem sc__law_nexts : FnScope ["tape", "places", "nexts", "count", "first", "last", "ring", "at"] ["tape", "places"] (defScope s__law_nexts) := ⟨rfl, rfl, rfl, by decide +kernel, rfl, by decide +kernel, by decide +kernel⟩
theorem ok__law_nexts {f : Addr} {fd : FuncData} (F : Fun K "_law_nexts" "_law_nexts" s__law_nexts f fd) (m_len : mg "len" = none) (m_range : mg "range" = none) (G__law_pick : GF P w K mg base "_law_pick" 1 ["tape", "size"] spPick) : FnOk P w K mg base CX0 2 f fd ["tape", "places"] spLawNexts := by
  refine F.ok sc__law_nexts (fun vs H Q E h => ?_) (fun cdv A outer s H vs Q E hr h => ?_)
  · obtain ⟨_, _, _, _, _, rfl, _⟩ := h; rfl
  · obtain ⟨tp, tc, lp, ps, _, rfl, t, hp, hne, hlen, k⟩ := h
    refine ⟨_, (pss_cons (ps_set (i := 2) sc__law_nexts.nd rfl (Or.inl rfl) pe_dnewK)
      (pss_cons (ps_set (i := 3) sc__law_nexts.nd rfl (Or.inl rfl) (pe_callB (cb_lenSK (K := K) rfl) (by rfl) m_len b_len (pa_cons (pv 1) pa_nil)))
      (pss_cons (ps_set (i := 4) sc__law_nexts.nd rfl (Or.inl rfl) pe_int)
      (pss_cons (ps_set (i := 5) sc__law_nexts.nd rfl (Or.inl rfl) pe_int)
      (pss_cons (ps_set (i := 6) sc__law_nexts.nd rfl (Or.inl rfl) pe_int)
      (pss_cons (ps_for PassesOwn.never rfl (pi_range1 (by rfl) m_range (pa_cons (pv 3) pa_nil)) (pg_name (i := 7) sc__law_nexts.nd rfl (Or.inl rfl))
      (pss_cons (ps_if (pt_cmpR op_eq (pv 7) (pv 5) (nomark _)) (pss_cons (ps_set (i := 4) sc__law_nexts.nd rfl (Or.inl rfl) (pv 7))
      (pss_cons (ps_set (i := 5) sc__law_nexts.nd rfl (Or.inl rfl) (pv 3))
      (pss_cons (ps_if (pt_cmpR op_eq (c_fn G__law_pick (hr.mono (by decide)) (pa_cons (pv 0) (pa_cons pe_int pa_nil))) pe_int (nomark _)) (pss_one (ps_set (i := 5) sc__law_nexts.nd rfl (Or.inl rfl) (pe_op op_add (pe_op op_add (pv 7) pe_int) (c_fn G__law_pick (hr.mono (by decide)) (pa_cons (pv 0) (pa_cons (pe_op op_sub (pv 3) (pv 7)) pa_nil)))))) pss_nil)
      (pss_one (ps_set (i := 6) sc__law_nexts.nd rfl (Or.inl rfl) (pe_op op_add pe_int (c_fn G__law_pick (hr.mono (by decide)) (pa_cons (pv 0) (pa_cons (pe_op op_sub (pv 5) (pv 4)) pa_nil))))))))) pss_nil)
      (pss_one (ps_if (pt_cmpR op_lt (pe_op op_sub (pv 7) (pv 4)) (pe_op op_sub (pv 6) pe_int) (nomark _)) (pss_one (ps_dput (hu_of hr) (pv 2) (pe_ix (ix_listK (K := K) rfl) (pv 1) (pv 7) (by intro _ _; rfl)) (pe_ix (ix_listK (K := K) rfl) (pv 1) (pe_op op_add (pv 7) pe_int) (by intro _ _; rfl)) rfl)) (pss_one (ps_if (pt_cmpR op_eq (pe_op op_sub (pv 7) (pv 4)) (pe_op op_sub (pv 6) pe_int) (nomark _)) (pss_one (ps_dput (hu_of hr) (pv 2) (pe_ix (ix_listK (K := K) rfl) (pv 1) (pv 7) (by intro _ _; rfl)) (pe_ix (ix_listK (K := K) rfl) (pv 1) (pv 4) (by intro _ _; rfl)) rfl)) (pss_one (ps_dput (hu_of hr) (pv 2) (pe_ix (ix_listK (K := K) rfl) (pv 1) (pv 7) (by intro _ _; rfl)) (pe_ix (ix_listK (K := K) rfl) (pv 1) (pe_op op_add (pv 4) (c_fn G__law_pick (hr.mono (by decide)) (pa_cons (pv 0) (pa_cons (pe_op op_sub (pv 7) (pv 4)) pa_nil)))) (by intro _ _; rfl)) rfl))))))))
      (pss_one (ps_ret (pv 2))))))))), ?_⟩
    (try simp only [cxK, cxKX, List.map])
    refine ent (σ' := [some _, some _, none, none, none, none, none, none]) rfl ?_
    obtain ⟨_, _, _, _, _, tt, tcs, _⟩ := t.ex
    k_offL
    refine newk fun d H1 n1 e1 f1 => ?_
    have hdt : tp ≠ d := ne_of_none tt n1
    have hdc : tc ≠ d := ne_of_none tcs n1
    have hdl : lp ≠ d := ne_of_none hp n1
    k_offL
    refine r_lenL (sqL_of (f1.at_ _ _ hp List.not_mem_nil)) ?_
    rw [List.length_map]
    k_offL
    refine loopR1 _ (by omega) (by omega) (fun i σ' H' => ∃ (a l r : Int) (v : Option V) (kvs : List (Key × V)), σ' = [some (.ref tp), some (.ref lp), some (.ref d), some (.int (ps.length : Int)), some (.int a), some (.int l), some (.int r), v] ∧ 0 ≤ a ∧ a ≤ (i : Int) ∧ (i : Int) ≤ l ∧ l ≤ (ps.length : Int) ∧ ((i : Int) < l → 1 ≤ r ∧ r ≤ l - a) ∧
        H' d = some (.dK kvs) ∧ NxD ps (ps.take i) kvs ∧ TapeAt H' tp tc ∧ Fr [tp] H H')
      ⟨0, 0, 0, _, [], rfl, by omega, by omega, by omega, by omega, by omega, e1, NxD.nil, t.ex0 f1, f1.up⟩ ?_ ?_
    · rintro i σ' H2 hi ⟨a, l, r, v, kvs, rfl, a0, a1, l0, l1, r1, e2, nx, t2, f2⟩
      have hi' : i < ps.length := by omega
      have hp2 : H2 lp = some (.lst (ps.map V.int)) := f2.at_ _ _ hp (mem_one hne)
      k_places
      refine q_cut (fun σ' H' => ∃ (a l r : Int), σ' = [some (.ref tp), some (.ref lp), some (.ref d), some (.int (ps.length : Int)), some (.int a), some (.int l), some (.int r), some (.int (i : Int))] ∧ 0 ≤ a ∧ a ≤ (i : Int) ∧ (i : Int) < l ∧ l ≤ (ps.length : Int) ∧ 1 ≤ r ∧ r ≤ l - a ∧ TapeAt H' tp tc ∧ Fr [tp] H2 H') (fun Nx kN => ?_) ?_
      · k_offL
        refine ifD (fun e => ?_) (fun e => ?_)
        · k_offL
          refine i_pick t2 (by decide) (by decide) fun n3 H3 a3 b3 t3 f3 => ?_
          k_offL
          refine ifD (fun e3 => ?_) (fun e3 => ?_)
          · k_offL
            refine i_pick t3 (by omega) (by omega) fun n4 H4 a4 b4 t4 f4 => ?_
            k_offL
            refine i_pick t4 (by omega) (by omega) fun n5 H5 a5 b5 t5 f5 => ?_
            k_offL
            exact kN _ _ ⟨_, _, _, rfl, by omega, by omega, by omega, by omega, by omega, by omega, t5, (f3.trans f4).trans f5⟩
          · k_offL
            refine i_pick t3 (by omega) (by omega) fun n5 H5 a5 b5 t5 f5 => ?_
            k_offL
            exact kN _ _ ⟨_, _, _, rfl, by omega, by omega, by omega, by omega, by omega, by omega, t5, f3.trans f5⟩
        · k_offL
          obtain ⟨r1, r2⟩ := r1 (by omega)
          exact kN _ _ ⟨a, l, r, rfl, a0, a1, by omega, l1, r1, r2, t2, Fr.refl _ _⟩
      rintro _ H3 ⟨a, l, r, rfl, a0, a1, l0, l1, r1, r2, t3, f3⟩
      have hp3 : H3 lp = some (.lst (ps.map V.int)) := f3.at_ _ _ hp2 (mem_one hne)
      have e3 : H3 d = some (.dK kvs) := f3.at_ _ _ e2 (mem_one hdt.symm)
      have hkl : kvs.length ≤ 100000 := by
        obtain ⟨_, _, _, hk⟩ := nx
        rw [List.length_take] at hk
        omega
      have fin : ∀ (y : Int) (H4 H5 : Hp), y ∈ ps → Fr [tp] H3 H4 → TapeAt H4 tp tc → H4 d = some (.dK kvs) → H5 d = some (.dK (putK kvs (.inl ps[i]) (.int y))) → Fr [d] H4 H5 →
          (∃ (a l r : Int) (v : Option V) (kvs : List (Key × V)), [some (V.ref tp), some (.ref lp), some (.ref d), some (.int (ps.length : Int)), some (.int a), some (.int l), some (.int r), some (.int (i : Int))] = [some (.ref tp), some (.ref lp), some (.ref d), some (.int (ps.length : Int)), some (.int a), some (.int l), some (.int r), v] ∧ True) → True := fun _ _ _ _ _ _ _ _ _ _ => trivial
      clear fin
      have ix1 : (ps.map V.int)[i]? = some (.int ps[i]) := ints_get hi'
      k_offL
      refine ifD (fun e => ?_) (fun e => ?_)
      · have hi2 : i + 1 < ps.length := by omega
        k_offL
        refine r_ixL (sqL_of hp3) (ix_at (i + 1) (by omega) (ints_get hi2)) ?_
        k_offL
        refine r_ixL (sqL_of hp3) (ix_at i rfl ix1) ?_
        refine dputk e3 hkl fun H5 e5 f5 => ?_
        exact ⟨a, l, r, _, _, rfl, a0, by omega, by omega, l1, fun _ => ⟨r1, r2⟩, e5, by rw [take_get hi']; exact nx.put (List.getElem_mem hi2), t3.fr f5 (mem_one hdt) (mem_one hdc), (f2.trans f3).drop (f5.mono fun a h => by simp at h; simp [h]) n1⟩
      · k_offL
        refine ifD (fun e2 => ?_) (fun e2 => ?_)
        · have ha : a.toNat < ps.length := by omega
          k_offL
          refine r_ixL (sqL_of hp3) (ix_at a.toNat (by omega) (ints_get ha)) ?_
          k_offL
          refine r_ixL (sqL_of hp3) (ix_at i rfl ix1) ?_
          refine dputk e3 hkl fun H5 e5 f5 => ?_
          exact ⟨a, l, r, _, _, rfl, a0, by omega, by omega, l1, fun _ => ⟨r1, r2⟩, e5, by rw [take_get hi']; exact nx.put (List.getElem_mem ha), t3.fr f5 (mem_one hdt) (mem_one hdc), (f2.trans f3).drop (f5.mono fun a h => by simp at h; simp [h]) n1⟩
        · k_offL
          refine i_pick t3 (by omega) (by omega) fun n4 H4 a4 b4 t4 f4 => ?_
          have hp4 : H4 lp = some (.lst (ps.map V.int)) := f4.at_ _ _ hp3 (mem_one hne)
          have e4 : H4 d = some (.dK kvs) := f4.at_ _ _ e3 (mem_one hdt.symm)
          have ha : (a + n4).toNat < ps.length := by omega
          k_offL
          refine r_ixL (sqL_of hp4) (ix_at (a + n4).toNat (by omega) (ints_get ha)) ?_
          k_offL
          refine r_ixL (sqL_of hp4) (ix_at i rfl ix1) ?_
          refine dputk e4 hkl fun H5 e5 f5 => ?_
          exact ⟨a, l, r, _, _, rfl, a0, by omega, by omega, l1, fun _ => ⟨r1, r2⟩, e5, by rw [take_get hi']; exact nx.put (List.getElem_mem ha), t4.fr f5 (mem_one hdt) (mem_one hdc), ((f2.trans f3).trans f4).drop (f5.mono fun a h => by simp at h; simp [h]) n1⟩
    · rintro σ' H2 ⟨a, l, r, v, kvs, rfl, a0, a1, l0, l1, r1, e2, nx, t2, f2⟩
      k_offL
      rw [show (ps.length : Int).toNat = ps.length by omega, List.take_length] at nx
      exact k d kvs H2 n1 e2 nx t2 f2
end
def spRing : Sp := fun vs H Q _ => ∃ (a : Addr) (hs : List Int) (f : Int → Int) (h : Int) (_ : Unit), vs = [.ref a, .int h] ∧ NxAt H a hs f ∧ h ∈ hs ∧ hs.length ≤ 60 ∧
  ∀ l m H', H l = none → H' l = some (.lst ((ringL f (it f hs.length h) m).map V.int)) → Per f (it f hs.length h) m → m ≤ hs.length → Fr [] H H' → Q (.ref l) H'
section
variable {P : Program} {w : World} {K : PySem.W.Frag} {mg : Str → Option Value} {base : Heap} {CNet CMender CDesk CStore CWalk : Addr}
abbrev s__law_ring : Stmt := top 54
theorem sc__law_ring : FnScope ["nexts", "house", "k", "ring", "at"] ["nexts", "house"] (defScope s__law_ring) := ⟨rfl, rfl, rfl, by decide +kernel, rfl, by decide +kernel, by decide +kernel⟩
theorem ok__law_ring {f : Addr} {fd : FuncData} (F : Fun K "_law_ring" "_law_ring" s__law_ring f fd) (m_range : mg "range" = none) (m_len : mg "len" = none) : FnOk P w K mg base CX0 1 f fd ["nexts", "house"] spRing := by
  refine F.ok sc__law_ring (fun vs H Q E h => ?_) (fun cdv A outer s H vs Q E hr h => ?_)
  · obtain ⟨_, _, _, _, _, rfl, _⟩ := h; rfl
  · obtain ⟨a, hs, f, h, _, rfl, N, hh, hlen, k⟩ := h
    refine ⟨_, (pss_cons (ps_for PassesOwn.never rfl (pi_range1 (by rfl) m_range (pa_cons (pe_callB cb_lenD (by rfl) m_len b_len (pa_cons (pv 0) pa_nil)) pa_nil)) (pg_name (i := 2) sc__law_ring.nd rfl (Or.inl rfl))
      (pss_one (ps_set (i := 1) sc__law_ring.nd rfl (Or.inl rfl) (pe_dget (hu_of hr) (pv 0) (pv 1) (by intro _ _; rfl)))))
      (pss_cons (ps_set (i := 3) sc__law_ring.nd rfl (Or.inl rfl) (pe_lst (pa_cons (pv 1) pa_nil)))
      (pss_cons (ps_set (i := 4) sc__law_ring.nd rfl (Or.inl rfl) (pe_dget (hu_of hr) (pv 0) (pv 1) (by intro _ _; rfl)))
      (pss_cons (ps_for PassesOwn.never rfl (pi_range1 (by rfl) m_range (pa_cons (pe_callB cb_lenD (by rfl) m_len b_len (pa_cons (pv 0) pa_nil)) pa_nil)) (pg_name (i := 2) sc__law_ring.nd rfl (Or.inl rfl))
      (pss_cons (ps_if (pt_cmpR op_eq (pv 4) (pv 1) (nomark _)) (pss_one ps_break) pss_nil)
      (pss_cons (ps_expr (pe_bmK (K := K) rfl PySem.F.plainAttrs_list PySem.F.slot_list_append PySem.F.type_list_append mt_append (pv 3) (pa_cons (pv 4) pa_nil)))
      (pss_one (ps_set (i := 4) sc__law_ring.nd rfl (Or.inl rfl) (pe_dget (hu_of hr) (pv 0) (pv 4) (by intro _ _; rfl)))))))
      (pss_one (ps_ret (pv 3))))))), ?_⟩
    (try simp only [cxK, cxKX, List.map])
    refine ent (σ' := [some _, some _, none, none, none]) rfl ?_
    obtain ⟨kvs, rd, dk, hkl⟩ := N.ex
    have get : ∀ {H' : Hp} {x : Int} {Q : VK}, Fr [] H H' → x ∈ hs → Q (.int (f x)) H' → DGetK (.ref a) (.int x) Q H' := fun {H' x Q} g m q => dgetk (g.rd rd List.not_mem_nil) (by rw [dk.val, mfOf_at m]) q
    have im : ∀ n x, x ∈ hs → it f n x ∈ hs := fun n x hx => it_mem N.cl hx
    k_offL
    refine r_lenD rd ?_
    rw [hkl]
    k_offL
    refine loopR1 _ (by omega) (by omega) (fun i σ' H' => H' = H ∧ ∃ v, σ' = [some (.ref a), some (.int (it f i h)), v, none, none]) ⟨rfl, _, rfl⟩ ?_ ?_
    · rintro i σ' _ hi ⟨rfl, v, rfl⟩
      k_offL
      refine get (Fr.refl _ _) (im i h hh) ?_
      k_offL
      exact ⟨rfl, _, by rw [it_succ]⟩
    rintro σ' _ ⟨rfl, v, rfl⟩
    rw [show (hs.length : Int).toNat = hs.length by omega]
    obtain ⟨p, p1, p2, p3⟩ := on_ring (n := hs.length) N.cl hh (Nat.le_refl _)
    revert p3
    generalize hq : it f hs.length h = h0 at *
    intro p3
    have m0 : h0 ∈ hs := hq ▸ im _ h hh
    k_offL
    refine lstk (by show 1 ≤ 100000; decide) fun rl H1 n1 e1 f1 => ?_
    k_offL
    refine get f1 m0 ?_
    k_offL
    refine r_lenD (f1.rd rd List.not_mem_nil) ?_
    rw [hkl]
    k_offL
    refine loopR1 _ (by omega) (by omega) (fun i σ' H' => (∃ v, σ' = [some (.ref a), some (.int h0), v, some (.ref rl), some (.int (it f (i + 1) h0))]) ∧ H' rl = some (.lst ((ringL f h0 (i + 1)).map V.int)) ∧ (∀ j, 0 < j → j ≤ i → it f j h0 ≠ h0) ∧ Fr [] _ H')
      ⟨⟨_, rfl⟩, e1, fun j a b => absurd a (by omega), f1⟩ ?_ ?_
    · rintro i σ' H2 hi ⟨⟨v, rfl⟩, e2, no, f2⟩
      k_offL
      refine ifD (fun e => ?_) (fun e => ?_)
      · k_offL
        refine k rl (i + 1) H2 n1 e2 ⟨by omega, e, fun j a b => no j a (by omega)⟩ (by omega) f2
      · k_offL
        refine r_app e2 (by rw [List.length_map]; unfold ringL; rw [List.length_map, List.length_range]; omega) fun H3 e3 f3 => ?_
        have f03 := f2.drop f3 n1
        k_offL
        refine get f03 (im (i + 1) h0 m0) ?_
        k_offL
        refine ⟨⟨_, by rw [it_succ (n := i + 1)]⟩, ?_, fun j a b => ?_, f03⟩
        · rw [e3, ringL_succ (m := i + 1), List.map_append]; rfl
        · rcases Nat.lt_or_eq_of_le b with q | q
          · exact no j a (by omega)
          · rw [q]; exact e
    · rintro σ' H2 ⟨⟨v, rfl⟩, e2, no, f2⟩
      exact absurd p3 (no p (by omega) (by omega))
end
def spRoot : Sp := fun vs H Q _ => ∃ (a : Addr) (hs : List Int) (f : Int → Int) (h : Int) (_ : Unit), vs = [.ref a, .int h] ∧ NxAt H a hs f ∧ h ∈ hs ∧ hs.length ≤ 60 ∧
  ∀ r m H', Per f (it f hs.length h) m → m ≤ hs.length → r ∈ ringL f (it f hs.length h) m → (∀ y ∈ ringL f (it f hs.length h) m, r ≤ y) → Fr [] H H' → Q (.int r) H'
section
variable {P : Program} {w : World} {K : PySem.W.Frag} {mg : Str → Option Value} {base : Heap} {CNet CMender CDesk CStore CWalk : Addr}
abbrev s__law_root : Stmt := top 55
theorem sc__law_root : FnScope ["nexts", "house"] ["nexts", "house"] (defScope s__law_root) := ⟨rfl, rfl, rfl, by decide +kernel, rfl, by decide +kernel, by decide +kernel⟩
theorem ok__law_root {f : Addr} {fd : FuncData} (F : Fun K "_law_root" "_law_root" s__law_root f fd) (m_min : mg "min" = none) (G__law_ring : GF P w K mg base "_law_ring" 1 ["nexts", "house"] spRing) : FnOk P w K mg base CX0 2 f fd ["nexts", "house"] spRoot := by
  refine F.ok sc__law_root (fun vs H Q E h => ?_) (fun cdv A outer s H vs Q E hr h => ?_)
  · obtain ⟨_, _, _, _, _, rfl, _⟩ := h; rfl
  · obtain ⟨a, hs, f, h, _, rfl, N, hh, hlen, k⟩ := h
    refine ⟨_, (pss_one (ps_ret (pe_callB (cb_minK (K := K) rfl rfl) (by rfl) m_min b_min (pa_cons (c_fn G__law_ring (hr.mono (by decide)) (pa_cons (pv 0) (pa_cons (pv 1) pa_nil))) pa_nil)))), ?_⟩
    (try simp only [cxK, cxKX, List.map])
    refine ent (σ' := [some _, some _]) rfl ?_
    k_offL
    refine ⟨a, hs, f, h, (), rfl, N, hh, hlen, fun l m H1 n1 e1 per hm f1 => ?_⟩
    k_offL
    refine r_min (sqL_of e1) (by unfold ringL; rw [List.length_map, List.length_range]; exact per.p1) fun r a b => ?_
    exact k r m H1 per hm a b f1
end
end RL
set_option synthInstance.maxHeartbeats 4000000
set_option synthInstance.maxSize 4000
namespace RL
theorem NS.lb_setB (N : NS) (v u h : Int) : (if h = v then some (.int u) else N.lb h) = (N.setB v (some u)).lb h := by
  unfold NS.lb
  show _ = (if h = v then some u else N.b h).map V.int
  by_cases e : h = v
  · rw [if_pos e, if_pos e]; rfl
  · rw [if_neg e, if_neg e]
theorem NS.Ok.lbl {N : NS} (ok : N.Ok) {kb : List (Key × V)} (d : DOk kb N.lb) : kb.length ≤ 100000 := by have := d.len ok.ascL; have := ok.bl; omega
theorem vs_rep {H : Hp} {t : Addr} {vs : List V} {ds : List D} (h : H t = some (.tup vs)) (r : RepL H ds vs) : Rep H (.tup ds) (.ref t) := ⟨t, vs, rfl, h, r⟩
def ofV : V → D
  | .non => .non
  | .bl b => .bl b
  | .int i => .int i
  | .str s => .str s
  | _ => .non
def flatR : V → Bool
  | .non => true
  | .bl _ => true
  | .int _ => true
  | .str _ => true
  | _ => false
theorem ofV_rep {H : Hp} : ∀ {v : V}, flatR v = true → Rep H (ofV v) v
  | .non, _ => rfl
  | .bl _, _ => rfl
  | .int _, _ => rfl
  | .str _, _ => rfl
theorem ofVs_rep {H : Hp} : ∀ {vs : List V}, vs.all flatR = true → RepL H (vs.map ofV) vs
  | [], _ => rfl
  | v :: r, h => by
    rw [List.all_cons, Bool.and_eq_true] at h
    exact ⟨v, r, rfl, ofV_rep h.1, ofVs_rep h.2⟩
theorem ofV_depth : ∀ v : V, (ofV v).depth = 0 := fun v => by cases v <;> rfl
theorem ofVs_depth : ∀ vs : List V, depthL (vs.map ofV) = 0
  | [] => rfl
  | v :: r => by rw [List.map_cons, depthL, ofV_depth, ofVs_depth r]; rfl
theorem read_flat (N : NS) (l : LT) : (N.readL l).2.all flatR = true := by
  cases l with
  | tell v u => simp only [NS.readL]; split <;> (try split) <;> rfl
  | ask v u => simp only [NS.readL]; split <;> rfl
  | ans u v x => simp only [NS.readL]; split <;> rfl
theorem lt_flat (l : LT) : l.vs.all flatR = true := by cases l <;> rfl
def spLawRead : Sp := fun vs H Q _ => ∃ (dn dk dp : Addr) (N : NS) (i : Nat) (l : LT) (_ _ _ : Unit), vs = [.int N.size, .ref dn, .ref dk, .ref dp, .int (i : Int)] ∧ TabAt H dn dk dp N ∧ N.Ok ∧ N.post[i]? = some l ∧
  ∀ t H', H' t = some (.tup (N.read i l).2) → TabAt H' dn dk dp (N.read i l).1 → Fr [dn, dk, dp] H H' → Q (.ref t) H'
section
variable {P : Program} {w : World} {K : PySem.W.Frag} {mg : Str → Option Value} {base : Heap} {CNet CMender CDesk CStore CWalk : Addr}
abbrev s__law_read : Stmt := top 61
theorem sc__law_read : FnScope ["size", "nexts", "behinds", "post", "at", "letter", "reader", "sender", "before"] ["size", "nexts", "behinds", "post", "at"] (defScope s__law_read) := ⟨rfl, rfl, rfl, by decide +kernel, rfl, by decide +kernel, by decide +kernel⟩
theorem ok__law_read {f : Addr} {fd : FuncData} (F : Fun K "_law_read" "_law_read" s__law_read f fd) (G__law_between : GF P w K mg base "_law_between" 2 ["size", "start", "place", "end"] spBetween) : FnOk P w K mg base CX0 3 f fd ["size", "nexts", "behinds", "post", "at"] spLawRead := by
  refine F.ok sc__law_read (fun vs H Q E h => ?_) (fun cdv A outer s H vs Q E hr h => ?_)
  · obtain ⟨_, _, _, _, _, _, _, _, _, rfl, _⟩ := h; rfl
  · obtain ⟨dn, dk, dp, N, i, l, _, _, _, rfl, T, ok, hi, k⟩ := h
    refine ⟨_, (pss_cons (ps_set (i := 5) sc__law_read.nd rfl (Or.inl rfl) (pe_bmK (K := K) rfl PySem.F.plainAttrs_list PySem.F.slot_list_pop PySem.F.type_list_pop mt_popAt (pv 3) (pa_cons (pv 4) pa_nil)))
      (pss_cons (ps_set (i := 6) sc__law_read.nd rfl (Or.inl rfl) (pe_ix (ix_tupK (K := K) rfl) (pv 5) pe_int (by intro _ _; rfl)))
      (pss_cons (ps_set (i := 7) sc__law_read.nd rfl (Or.inl rfl) (pe_ix (ix_tupK (K := K) rfl) (pv 5) pe_int (by intro _ _; rfl)))
      (pss_cons (ps_set (i := 8) sc__law_read.nd rfl (Or.inl rfl) (pe_dget1 (hu_of hr) (pv 2) (pv 6) ⟨by rfl, by rfl, by rfl, by rfl⟩))
      (pss_cons (ps_if (pt_cmpR op_eq (pe_ix (ix_tupK (K := K) rfl) (pv 5) pe_int (by intro _ _; rfl)) pe_str (nomark _)) (pss_one (ps_if (PW.pt (pw_or (pt_cmpR op_isNn (pv 8) pe_non (nomark _)) (pw_or1 (pt_val (c_fn G__law_between (hr.mono (by decide)) (pa_cons (pv 0) (pa_cons (pv 8) (pa_cons (pv 7) (pa_cons (pv 6) pa_nil))))))))) (pss_cons (ps_dput (hu_of hr) (pv 2) (pv 6) (pv 7) rfl)
      (pss_one (ps_ret (pe_tup (pa_cons pe_str (pa_cons (pv 6) (pa_cons (pv 7) pa_nil))))))) pss_nil)) (pss_one (ps_if (pt_cmpR op_eq (pe_ix (ix_tupK (K := K) rfl) (pv 5) pe_int (by intro _ _; rfl)) pe_str (nomark _)) (pss_one (ps_if (pt_cmpR op_notNn (pv 8) pe_non (nomark _)) (pss_cons (ps_expr (pe_bmK (K := K) rfl PySem.F.plainAttrs_list PySem.F.slot_list_append PySem.F.type_list_append mt_append (pv 3) (pa_cons (pe_tup (pa_cons pe_str (pa_cons (pv 7) (pa_cons (pv 6) (pa_cons (pv 8) pa_nil))))) pa_nil)))
      (pss_one (ps_ret (pe_tup (pa_cons pe_str (pa_cons (pv 6) (pa_cons (pv 8) pa_nil))))))) pss_nil)) (pss_one (ps_if (PW.pt (pw_and (pt_cmpR op_eq (pe_dget (hu_of hr) (pv 1) (pv 6) (by intro _ _; rfl)) (pv 7) (nomark _)) (pw_and1 (pt_val (c_fn G__law_between (hr.mono (by decide)) (pa_cons (pv 0) (pa_cons (pv 6) (pa_cons (pe_ix (ix_tupK (K := K) rfl) (pv 5) pe_int (by intro _ _; rfl)) (pa_cons (pv 7) pa_nil))))))))) (pss_cons (ps_dput (hu_of hr) (pv 1) (pv 6) (pe_ix (ix_tupK (K := K) rfl) (pv 5) pe_int (by intro _ _; rfl)) rfl)
      (pss_one (ps_ret (pe_tup (pa_cons pe_str (pa_cons (pv 6) (pa_cons (pe_ix (ix_tupK (K := K) rfl) (pv 5) pe_int (by intro _ _; rfl)) pa_nil))))))) pss_nil)))))
      (pss_one (ps_ret (pe_tup (pa_cons pe_str (pa_cons (pv 6) (pa_cons pe_non pa_nil))))))))))), ?_⟩
    (try simp only [cxK, cxKX, List.map])
    refine ent (σ' := [some _, some _, some _, some _, some _, none, none, none, none]) rfl ?_
    obtain ⟨⟨kn, hn, dN⟩, ⟨kb, hb, dB⟩, ⟨lv, hl, ls⟩, ne⟩ := id T
    have h0 := ok.s0
    have ne' := ne.symm
    have hlt := (List.getElem?_eq_some_iff.mp hi).1
    have hpl := ok.pl
    have hm := ok.ph l (List.mem_of_getElem? hi)
    obtain ⟨t0, ht, hT⟩ := ls.at_ i l hi
    have m1 : ∀ a ∈ [dn], a ∈ [dn, dk, dp] := fun a h => by simp at h; simp [h]
    have m2 : ∀ a ∈ [dk], a ∈ [dn, dk, dp] := fun a h => by simp at h; simp [h]
    have m3 : ∀ a ∈ [dp], a ∈ [dn, dk, dp] := fun a h => by simp at h; simp [h]
    k_offL
    refine r_popAt hl ht (by omega) fun H1 e1 f1 => ?_
    have hT1 := f1.tp _ _ hT
    have hn1 : H1 dn = some (.dK kn) := by k_clsL
    have hb1 : H1 dk = some (.dK kb) := by k_clsL
    have ls1 : LetsIs H1 (N.del i).post (lv.eraseIdx i) := (ls.fr f1).erase i
    have ok1 := ok.del i
    have kept : ∀ v, N.read i l = (N.del i, [.str "kept", .int v, .non]) → ∀ t H', H' t = some (.tup [.str "kept", .int v, .non]) → Fr [] H1 H' → Q (.ref t) H' := fun v e t H' et ft => by
      rw [e] at k
      exact k t H' et ⟨⟨kn, by k_clsL, dN⟩, ⟨kb, by k_clsL, dB⟩, ⟨_, by k_clsL, ls1.fr ft⟩, ne⟩ ((f1.mono m3).trans ft.up)
    k_offL
    cases l with
    | tell v u =>
      refine r_ixT (sqT_of hT1) (v := .int v) rfl ?_
      k_offL
      refine r_ixT (sqT_of hT1) (v := .int u) rfl ?_
      k_offL
      refine dg1a (.inl hb1) ?_
      k_offL
      refine dg1b (.inl hb1) ?_
      have hv : v ∈ N.hs := hm v (by simp [LT.pl])
      have eb : (valV kb (Sum.inl v)).getD V.non = oV (N.b v) := by
        rw [dB.val]; unfold NS.lb; cases N.b v <;> rfl
      rw [eb]
      have yes : N.read i (.tell v u) = ((N.del i).setB v (some u), [.str "before", .int v, .int u]) → ∀ H2 t H', H2 dk = some (.dK (putK kb (.inl v) (.int u))) → Fr [dk] H1 H2 → H' t = some (.tup [.str "before", .int v, .int u]) → Fr [] H2 H' → Q (.ref t) H' := fun e H2 t H' e2 f2 et ft => by
        rw [e] at k
        exact k t H' et ⟨⟨kn, by k_clsL, dN⟩, ⟨_, by k_clsL, dB.put.cong fun h => (N.del i).lb_setB v u h⟩, ⟨_, by k_clsL, ls1.fr (f2.trans ft.up)⟩, ne⟩ (((f1.mono m3).trans (f2.mono m2)).trans ft.up)
      k_offL
      refine r_ixT (sqT_of hT1) (v := .str "tell") rfl ?_
      k_offL
      refine ifDT rfl ?_
      cases hbv : N.b v with
      | none =>
        k_offL
        refine ifDT rfl ?_
        k_offL
        refine dputk hb1 (ok.lbl dB) fun H2 e2 f2 => ?_
        k_offL
        refine tupk (by show 3 ≤ 100000; decide) fun t H' n3 et ft => ?_
        exact yes (by show (N.del i).readL _ = _; simp only [NS.readL]; rw [show (N.del i).b v = none from hbv]) H2 t H' e2 f2 et ft
      | some b =>
        k_offL
        refine ifDF (fun z => nomatch z) ?_
        show tTest _ _ _ _
        k_offL
        refine i_between h0 ?_
        k_offL
        refine ifB (fun e => ?_) (fun e => ?_)
        · k_offL
          refine dputk hb1 (ok.lbl dB) fun H2 e2 f2 => ?_
          k_offL
          refine tupk (by show 3 ≤ 100000; decide) fun t H' n3 et ft => ?_
          exact yes (by show (N.del i).readL _ = _; simp only [NS.readL]; rw [show (N.del i).b v = some b from hbv]; exact if_pos e) H2 t H' e2 f2 et ft
        · k_offL
          refine tupk (by show 3 ≤ 100000; decide) fun t H' n3 et ft => ?_
          exact kept v (by show (N.del i).readL _ = _; simp only [NS.readL]; rw [show (N.del i).b v = some b from hbv]; exact if_neg (by rw [show btw (N.del i).size b u v = false from e]; decide)) t H' et ft
    | ask v u =>
      refine r_ixT (sqT_of hT1) (v := .int v) rfl ?_
      k_offL
      refine r_ixT (sqT_of hT1) (v := .int u) rfl ?_
      k_offL
      refine dg1a (.inl hb1) ?_
      k_offL
      refine dg1b (.inl hb1) ?_
      have hv : v ∈ N.hs := hm v (by simp [LT.pl])
      have eb : (valV kb (Sum.inl v)).getD V.non = oV (N.b v) := by
        rw [dB.val]; unfold NS.lb; cases N.b v <;> rfl
      rw [eb]
      k_offL
      refine r_ixT (sqT_of hT1) (v := .str "ask") rfl ?_
      k_offL
      refine ifDF (by decide +kernel) ?_
      k_offL
      refine r_ixT (sqT_of hT1) (v := .str "ask") rfl ?_
      k_offL
      refine ifDT rfl ?_
      cases hbv : N.b v with
      | none =>
        k_offL
        refine ifNF rfl ?_
        k_offL
        refine tupk (by show 3 ≤ 100000; decide) fun t H' n3 et ft => ?_
        exact kept v (by show (N.del i).readL _ = _; simp only [NS.readL]; rw [show (N.del i).b v = none from hbv]) t H' et ft
      | some b =>
        k_offL
        refine ifNT (fun z => nomatch z) ?_
        k_offL
        refine tupk (by show 4 ≤ 100000; decide) fun t2 H2 n2 e2 f2 => ?_
        k_offL
        refine r_app (xs := lv.eraseIdx i) (by k_clsL) (by rw [ls1.len]; have := ok1.pl; omega) fun H3 e3 f3 => ?_
        k_offL
        refine tupk (by show 3 ≤ 100000; decide) fun t H' n4 et ft => ?_
        have er : N.read i (.ask v u) = ((N.del i).push (.ans u v b), [.str "wrote", .int v, .int b]) := by
          show (N.del i).readL _ = _; simp only [NS.readL]; rw [show (N.del i).b v = some b from hbv]
        rw [er] at k
        exact k t H' et ⟨⟨kn, by k_clsL, dN⟩, ⟨kb, by k_clsL, dB⟩, ⟨_, by k_clsL, (ls1.fr ((f2.up.trans f3).trans ft.up)).snoc (ft.tp _ _ (f3.tp _ _ e2))⟩, ne⟩ ((((f1.mono m3).trans f2.up).trans (f3.mono m3)).trans ft.up)
    | ans u v x =>
      refine r_ixT (sqT_of hT1) (v := .int u) rfl ?_
      k_offL
      refine r_ixT (sqT_of hT1) (v := .int v) rfl ?_
      k_offL
      refine dg1a (.inl hb1) ?_
      k_offL
      refine dg1b (.inl hb1) ?_
      have hu : u ∈ N.hs := hm u (by simp [LT.pl])
      k_offL
      refine r_ixT (sqT_of hT1) (v := .str "answer") rfl ?_
      k_offL
      refine ifDF (by decide +kernel) ?_
      k_offL
      refine r_ixT (sqT_of hT1) (v := .str "answer") rfl ?_
      k_offL
      refine ifDF (by decide +kernel) ?_
      k_offL
      refine dgetk (.inl hn1) (by rw [dN.val, NS.mf_at hu]) ?_
      k_offL
      have no : ¬ (N.f u = v ∧ btw N.size u x v = true) → N.read i (.ans u v x) = (N.del i, [.str "kept", .int u, .non]) := fun z => if_neg z
      refine ifD (fun e => ?_) (fun e => ?_)
      · k_offL
        refine r_ixT (sqT_of hT1) (v := .int x) rfl ?_
        k_offL
        refine i_between h0 ?_
        k_offL
        refine ifB (fun e2 => ?_) (fun e2 => ?_)
        · k_offL
          refine r_ixT (sqT_of hT1) (v := .int x) rfl ?_
          k_offL
          refine dputk hn1 (ok.knl dN) fun H2 e3 f3 => ?_
          k_offL
          refine r_ixT (sqT_of (f3.tp _ _ hT1)) (v := .int x) rfl ?_
          k_offL
          refine tupk (by show 3 ≤ 100000; decide) fun t H' n4 et ft => ?_
          have er : N.read i (.ans u v x) = ((N.del i).setF u x, [.str "next", .int u, .int x]) := if_pos ⟨e, e2⟩
          rw [er] at k
          exact k t H' et ⟨⟨_, by k_clsL, dN.put.cong fun h => (N.del i).mf_setF u x hu h⟩, ⟨kb, by k_clsL, dB⟩, ⟨_, by k_clsL, ls1.fr (f3.trans ft.up)⟩, ne⟩ (((f1.mono m3).trans (f3.mono m1)).trans ft.up)
        · k_offL
          refine tupk (by show 3 ≤ 100000; decide) fun t H' n4 et ft => ?_
          exact kept u (no fun z => by rw [z.2] at e2; cases e2) t H' et ft
      · k_offL
        refine tupk (by show 3 ≤ 100000; decide) fun t H' n4 et ft => ?_
        exact kept u (no fun z => e z.1) t H' et ft
end
end RL
set_option synthInstance.maxHeartbeats 4000000
set_option synthInstance.maxSize 4000
namespace RL
inductive Fits : Nat → D → Prop where
  | non {n : Nat} : Fits n .non
  | bl {n : Nat} {b : Bool} : Fits n (.bl b)
  | int {n : Nat} {i : Int} : Fits n (.int i)
  | str {n : Nat} {s : Str} : Fits n (.str s)
  | tup {n : Nat} {ds : List D} (h : ∀ d ∈ ds, Fits n d) (l : ds.length ≤ 100000) : Fits (n + 1) (.tup ds)
  | lst {n : Nat} {ds : List D} (h : ∀ d ∈ ds, Fits n d) (l : ds.length ≤ 100000) : Fits (n + 1) (.lst ds)
  | dct {n : Nat} {kvs : List (Int × Int)} (l : kvs.length ≤ 100000) : Fits (n + 3) (.dct kvs)
theorem Fits.up {n m : Nat} {d : D} (h : Fits n d) (q : n ≤ m) : Fits m d := by
  induction h generalizing m with
  | non => exact .non
  | bl => exact .bl
  | int => exact .int
  | str => exact .str
  | tup h l ih => obtain ⟨k, rfl⟩ : ∃ k, m = k + 1 := ⟨m - 1, by omega⟩; exact .tup (fun d hd => ih d hd (by omega)) l
  | lst h l ih => obtain ⟨k, rfl⟩ : ∃ k, m = k + 1 := ⟨m - 1, by omega⟩; exact .lst (fun d hd => ih d hd (by omega)) l
  | dct l => obtain ⟨k, rfl⟩ : ∃ k, m = k + 3 := ⟨m - 3, by omega⟩; exact .dct l
theorem Fits.ofV (v : V) : Fits 0 (ofV v) := by cases v <;> constructor
def flatD (vs : List V) : D := .tup (vs.map ofV)
theorem Fits.flat {vs : List V} (h : vs.length ≤ 100000) : Fits 1 (flatD vs) := .tup (fun d hd => by obtain ⟨v, _, e⟩ := List.mem_map.mp hd; exact e ▸ Fits.ofV v) (by rw [List.length_map]; exact h)
theorem Rep.flat {H : Hp} {t : Addr} {vs : List V} (h : H t = some (.tup vs)) (f : vs.all flatR = true) : Rep H (flatD vs) (.ref t) := ⟨t, vs, rfl, h, ofVs_rep f⟩
def spSame : Nat → Sp
  | 0 => fun _ _ _ _ => False
  | n + 1 => fun vs H Q _ => ∃ (a b : V) (d : D), vs = [a, b] ∧ Rep H d a ∧ Rep H d b ∧ Fits n d ∧ ∀ H', Fr [] H H' → Q (.bl true) H'
theorem items_rep {H' : Hp} : ∀ {kvs : List (Int × Int)} {ts : List Addr}, Paired (fun (t : Addr) (q : Key × V) => H' t = some (.tup [kV q.1, q.2])) ts (kvs.map fun p => ((Sum.inl p.1 : Key), V.int p.2)) → RepL H' (kvs.map fun p => .tup [.int p.1, .int p.2]) (ts.map V.ref)
  | [], [], _ => rfl
  | p :: r, t :: ts, h => by
    cases h with
    | cons h1 h2 => exact ⟨_, _, rfl, ⟨t, _, rfl, h1, _, _, rfl, rfl, _, _, rfl, rfl, rfl⟩, items_rep h2⟩
theorem fr_all {H H' : Hp} (h : ∀ b o, H b = some o → H' b = some o) : Fr [] H H' := ⟨fun a o e _ => h a o e, fun t xs e => h _ _ e, fun t u w e => h _ _ e⟩
theorem r_ixS {K : PySem.W.Frag} {H : Hp} {Q : VK} {v : V} {p : Addr} {xs : List V} {i : Int} (h : Sq K H p xs) (ha : atI xs i = some v) (q : Q v H) : rIx K (.ref p) (.int i) H Q := by
  rcases h with h | h
  · exact .inl ⟨p, xs, i, v, rfl, rfl, h, ha, q⟩
  · exact .inr (.inl ⟨p, xs, i, v, rfl, rfl, h, ha, q⟩)
theorem r_lenS {K : PySem.W.Frag} {H : Hp} {Q : VK} {p : Addr} {xs : List V} (h : Sq K H p xs) (q : Q (.int xs.length) H) : rLenS K [.ref p] H Q := ⟨p, xs, rfl, h, q⟩
def ItK (x : V) (Q : VK) (H : Hp) : Prop := rItemsL x H Q
theorem x_items {te : TE} {σ : L2.St} {H : Hp} {Q : VK} (h : te σ H fun x H1 => ItK x Q H1) : tListItems te σ H Q := h
section
variable {P : Program} {w : World} {K : PySem.W.Frag} {mg : Str → Option Value} {base : Heap} {CNet CMender CDesk CStore CWalk : Addr}
abbrev s__law_same : Stmt := top 62
theorem sc__law_same : FnScope ["actual", "due", "k"] ["actual", "due"] (defScope s__law_same) := ⟨rfl, rfl, rfl, by decide +kernel, rfl, by decide +kernel, by decide +kernel⟩
theorem ok__law_same {f : Addr} {fd : FuncData} (F : Fun K "_law_same" "_law_same" s__law_same f fd) (m_isinstance : mg "isinstance" = none) (m_int : mg "int" = none) (m_bool : mg "bool" = none) (m_str : mg "str" = none) (m_dict : mg "dict" = none) (m_list : mg "list" = none) (m_tuple : mg "tuple" = none) (m_len : mg "len" = none) (m_range : mg "range" = none) (G0 : ∀ n, FnOk P w K mg base CX0 (n + 1) f fd ["actual", "due"] (spSame n) → GF P w K mg base "_law_same" (n + 1) ["actual", "due"] (spSame n)) : ∀ n, FnOk P w K mg base CX0 (n + 1) f fd ["actual", "due"] (spSame n)
  | 0 => F.ok sc__law_same (fun vs H Q E h => h.elim) (fun cdv A outer s H vs Q E hr h => h.elim)
  | n + 1 => by
    have G__law_same := G0 n (ok__law_same F m_isinstance m_int m_bool m_str m_dict m_list m_tuple m_len m_range G0 n)
    refine F.ok sc__law_same (fun vs H Q E h => by obtain ⟨_, _, _, rfl, _⟩ := h; rfl) (fun cdv A outer s H vs Q E hr h => ?_)
    obtain ⟨a, b, d, rfl, ra, rb, fit, k⟩ := h
    refine ⟨_, (pss_cons (ps_if (pt_cmpR op_isNn (pv 1) pe_non (nomark _)) (pss_one (ps_ret (pe_cmpR op_isNn (pv 0) pe_non (nomark _)))) pss_nil)
      (pss_cons (ps_if (pt_cmpR op_isB (pv 1) pe_bl (nomark _)) (pss_one (ps_ret (pe_cmpR op_isB (pv 0) pe_bl (nomark _)))) pss_nil)
      (pss_cons (ps_if (pt_cmpR op_isB (pv 1) pe_bl (nomark _)) (pss_one (ps_ret (pe_cmpR op_isB (pv 0) pe_bl (nomark _)))) pss_nil)
      (pss_cons (ps_if (pt_val (pe_callB (cb_isiK (K := K) rfl) (by rfl) m_isinstance b_isinstance (pa_cons (pv 1) (pa_cons (pe_ty m_int b_int) pa_nil)))) (pss_one (ps_ret (pe_and (pe_callB (cb_isiK (K := K) rfl) (by rfl) m_isinstance b_isinstance (pa_cons (pv 0) (pa_cons (pe_ty m_int b_int) pa_nil))) (pe_and (pe_not (pe_callB (cb_isiK (K := K) rfl) (by rfl) m_isinstance b_isinstance (pa_cons (pv 0) (pa_cons (pe_ty m_bool b_bool) pa_nil)))) (pe_one (pe_cmpR op_eq (pv 0) (pv 1) (nomark _))))))) pss_nil)
      (pss_cons (ps_if (pt_val (pe_callB (cb_isiK (K := K) rfl) (by rfl) m_isinstance b_isinstance (pa_cons (pv 1) (pa_cons (pe_ty m_str b_str) pa_nil)))) (pss_one (ps_ret (pe_and (pe_callB (cb_isiK (K := K) rfl) (by rfl) m_isinstance b_isinstance (pa_cons (pv 0) (pa_cons (pe_ty m_str b_str) pa_nil))) (pe_one (pe_cmpR op_eq (pv 0) (pv 1) (nomark _)))))) pss_nil)
      (pss_cons (ps_if (pt_val (pe_callB (cb_isiK (K := K) rfl) (by rfl) m_isinstance b_isinstance (pa_cons (pv 1) (pa_cons (pe_ty m_dict b_dict) pa_nil)))) (pss_one (ps_ret (pe_and (pe_callB (cb_isiK (K := K) rfl) (by rfl) m_isinstance b_isinstance (pa_cons (pv 0) (pa_cons (pe_ty m_dict b_dict) pa_nil))) (pe_one (c_fn G__law_same (hr.mono (Nat.le_refl _)) (pa_cons (pe_listItems rfl (pv 0) (by rfl) m_list b_list) (pa_cons (pe_listItems rfl (pv 1) (by rfl) m_list b_list) pa_nil))))))) pss_nil)
      (pss_cons (ps_if (PW.pt (pw_and (pt_val (pe_callB (cb_isiK (K := K) rfl) (by rfl) m_isinstance b_isinstance (pa_cons (pv 1) (pa_cons (pe_ty m_tuple b_tuple) pa_nil)))) (pw_and1 (pt_not (pt_val (pe_callB (cb_isiK (K := K) rfl) (by rfl) m_isinstance b_isinstance (pa_cons (pv 0) (pa_cons (pe_ty m_tuple b_tuple) pa_nil)))))))) (pss_one (ps_ret pe_bl)) pss_nil)
      (pss_cons (ps_if (PW.pt (pw_and (pt_val (pe_callB (cb_isiK (K := K) rfl) (by rfl) m_isinstance b_isinstance (pa_cons (pv 1) (pa_cons (pe_ty m_list b_list) pa_nil)))) (pw_and1 (pt_not (pt_val (pe_callB (cb_isiK (K := K) rfl) (by rfl) m_isinstance b_isinstance (pa_cons (pv 0) (pa_cons (pe_ty m_list b_list) pa_nil)))))))) (pss_one (ps_ret pe_bl)) pss_nil)
      (pss_cons (ps_if (pt_cmpR op_ne (pe_callB (cb_lenSK (K := K) rfl) (by rfl) m_len b_len (pa_cons (pv 0) pa_nil)) (pe_callB (cb_lenSK (K := K) rfl) (by rfl) m_len b_len (pa_cons (pv 1) pa_nil)) (nomark _)) (pss_one (ps_ret pe_bl)) pss_nil)
      (pss_cons (ps_for PassesOwn.never rfl (pi_range1 (by rfl) m_range (pa_cons (pe_callB (cb_lenSK (K := K) rfl) (by rfl) m_len b_len (pa_cons (pv 1) pa_nil)) pa_nil)) (pg_name (i := 2) sc__law_same.nd rfl (Or.inl rfl))
      (pss_one (ps_if (pt_not (pt_val (c_fn G__law_same (hr.mono (Nat.le_refl _)) (pa_cons (pe_ix (ix_seqK (K := K) rfl) (pv 0) (pv 2) (by intro _ _; rfl)) (pa_cons (pe_ix (ix_seqK (K := K) rfl) (pv 1) (pv 2) (by intro _ _; rfl)) pa_nil))))) (pss_one (ps_ret pe_bl)) pss_nil)))
      (pss_one (ps_ret pe_bl)))))))))))), ?_⟩
    (try simp only [cxK, cxKX, List.map])
    refine ent (σ' := [some _, some _, none]) rfl ?_
    have k0 := k H (Fr.refl _ _)
    have isd : ∀ {x : V} {c : Bool}, x ≠ .bl c → decide (x = .bl c) = false := fun h => decide_eq_false h
    cases d with
    | non =>
      obtain rfl : a = .non := ra
      obtain rfl : b = .non := rb
      k_offL
      refine ifDT rfl ?_
      k_offL
      exact k0
    | bl c =>
      obtain rfl : a = .bl c := ra
      obtain rfl : b = .bl c := rb
      k_offL
      refine ifDF (fun z => nomatch z) ?_
      k_offL
      cases c with
      | true =>
        refine ifDT rfl ?_
        k_offL
        exact k0
      | false =>
        refine ifDF (fun z => nomatch z) ?_
        k_offL
        refine ifDT rfl ?_
        k_offL
        exact k0
    | int i =>
      obtain rfl : a = .int i := ra
      obtain rfl : b = .int i := rb
      have ty : TyX K H (.int i) (.type "int") := .base (.int i)
      k_offL
      refine ifDF (fun z => nomatch z) ?_
      k_offL
      refine ifDF (fun z => nomatch z) ?_
      k_offL
      refine ifDF (fun z => nomatch z) ?_
      k_offL
      refine r_isi ty (b := true) (by decide +kernel) ?_
      k_offL
      refine r_isi ty (b := true) (by decide +kernel) ?_
      k_offL
      refine r_isi ty (b := false) (by decide +kernel) ?_
      k_offL
      rw [show decide (i = i) = true from decide_eq_true rfl]
      exact k0
    | str i =>
      obtain rfl : a = .str i := ra
      obtain rfl : b = .str i := rb
      have ty : TyX K H (.str i) (.type "str") := .base (.str i)
      k_offL
      refine ifDF (fun z => nomatch z) ?_
      k_offL
      refine ifDF (fun z => nomatch z) ?_
      k_offL
      refine ifDF (fun z => nomatch z) ?_
      k_offL
      refine r_isi ty (b := false) (by decide +kernel) ?_
      k_offL
      refine r_isi ty (b := true) (by decide +kernel) ?_
      k_offL
      refine r_isi ty (b := true) (by decide +kernel) ?_
      k_offL
      rw [show decide (i = i) = true from decide_eq_true rfl]
      exact k0
    | dct kvs =>
      obtain ⟨a, rfl, ha⟩ := ra
      obtain ⟨b, rfl, hb⟩ := rb
      have tya : TyX K H (.ref a) (.type "dict") := .base (.dK ha)
      have ty : TyX K H (.ref b) (.type "dict") := .base (.dK hb)
      k_offL
      refine ifDF (fun z => nomatch z) ?_
      k_offL
      refine ifDF (fun z => nomatch z) ?_
      k_offL
      refine ifDF (fun z => nomatch z) ?_
      k_offL
      refine r_isi ty (b := false) (by decide +kernel) ?_
      k_offL
      refine r_isi ty (b := false) (by decide +kernel) ?_
      k_offL
      refine r_isi ty (b := true) (by decide +kernel) ?_
      k_offL
      refine r_isi tya (b := true) (by decide +kernel) ?_
      k_offL
      refine x_items ?_
      k_offL
      refine ⟨a, _, rfl, ha, fun H1 p ts g n1 n2 n3 e1 e2 => ?_⟩
      have f1 := fr_all g
      k_offL
      refine x_items ?_
      k_offL
      refine ⟨b, _, rfl, g _ _ hb, fun H2 p2 ts2 g2 m1 m2 m3 e3 e4 => ?_⟩
      have f2 := fr_all g2
      k_offL
      cases fit with
      | dct hl =>
        rename_i n
        refine ⟨_, _, .lst (kvs.map fun p => .tup [.int p.1, .int p.2]), rfl, ⟨p, _, rfl, g2 _ _ e1, RepL.fr0 f2 _ _ (items_rep e2)⟩, ⟨p2, _, rfl, e3, items_rep e4⟩, .lst (n := n + 1) (fun d hd => ?_) (by rw [List.length_map]; exact hl), fun H' f => k H' ((f1.trans f2).trans f)⟩
        obtain ⟨q, _, e⟩ := List.mem_map.mp hd
        subst e
        exact .tup (fun d hd => by simp at hd; rcases hd with e | e <;> (subst e; exact .int)) (show 2 ≤ 100000 by decide)
    | tup ds =>
      obtain ⟨a, va, rfl, ha, la⟩ := ra
      obtain ⟨b, vb, rfl, hb, lb⟩ := rb
      have tya : TyX K H (.ref a) (.type "tuple") := .base (.tup ha)
      have ty : TyX K H (.ref b) (.type "tuple") := .base (.tup hb)
      k_offL
      refine ifDF (fun z => nomatch z) ?_
      k_offL
      refine ifDF (fun z => nomatch z) ?_
      k_offL
      refine ifDF (fun z => nomatch z) ?_
      k_offL
      refine r_isi ty (b := false) (by decide +kernel) ?_
      k_offL
      refine r_isi ty (b := false) (by decide +kernel) ?_
      k_offL
      refine r_isi ty (b := false) (by decide +kernel) ?_
      k_offL
      refine r_isi ty (b := true) (by decide +kernel) ?_
      k_offL
      refine r_isi tya (b := true) (by decide +kernel) ?_
      k_offL
      refine r_isi ty (b := false) (by decide +kernel) ?_
      k_offL
      refine r_lenS (.inr (sqT_of ha)) ?_
      k_offL
      refine r_lenS (.inr (sqT_of hb)) ?_
      k_offL
      refine ifNF (by rw [la.len, lb.len]) ?_
      k_offL
      refine r_lenS (.inr (sqT_of hb)) ?_
      cases fit with
      | tup hf hl =>
        rename_i n
        refine loopR1 _ (by rw [lb.len]; omega) (by omega) (fun i σ' H' => (∃ v, σ' = [some (.ref a), some (.ref b), v]) ∧ Fr [] H H') ⟨⟨_, rfl⟩, Fr.refl _ _⟩ ?_ ?_
        · rintro i σ' H1 hi ⟨⟨v, rfl⟩, f1⟩
          have hi' : i < ds.length := by rw [lb.len] at hi; omega
          have hd := List.getElem?_eq_getElem hi'
          obtain ⟨x, hx, rx⟩ := la.get hd
          obtain ⟨y, hy, ry⟩ := lb.get hd
          k_offL
          refine r_ixS (.inr (sqT_of (f1.tp _ _ ha))) (atI_nat hx) ?_
          k_offL
          refine r_ixS (.inr (sqT_of (f1.tp _ _ hb))) (atI_nat hy) ?_
          k_offL
          refine ⟨x, y, ds[i], rfl, Rep.fr0 f1 _ _ rx, Rep.fr0 f1 _ _ ry, hf _ (List.getElem_mem hi'), fun H2 f2 => ?_⟩
          k_offL
          exact ⟨⟨_, rfl⟩, f1.trans f2⟩
        · rintro σ' H1 ⟨⟨v, rfl⟩, f1⟩
          k_offL
          exact k H1 f1
    | lst ds =>
      obtain ⟨a, va, rfl, ha, la⟩ := ra
      obtain ⟨b, vb, rfl, hb, lb⟩ := rb
      have tya : TyX K H (.ref a) (.type "list") := .base (.lst ha)
      have ty : TyX K H (.ref b) (.type "list") := .base (.lst hb)
      k_offL
      refine ifDF (fun z => nomatch z) ?_
      k_offL
      refine ifDF (fun z => nomatch z) ?_
      k_offL
      refine ifDF (fun z => nomatch z) ?_
      k_offL
      refine r_isi ty (b := false) (by decide +kernel) ?_
      k_offL
      refine r_isi ty (b := false) (by decide +kernel) ?_
      k_offL
      refine r_isi ty (b := false) (by decide +kernel) ?_
      k_offL
      refine r_isi ty (b := false) (by decide +kernel) ?_
      k_offL
      refine r_isi ty (b := true) (by decide +kernel) ?_
      k_offL
      refine r_isi tya (b := true) (by decide +kernel) ?_
      k_offL
      refine r_lenS (.inl (sqL_of ha)) ?_
      k_offL
      refine r_lenS (.inl (sqL_of hb)) ?_
      k_offL
      refine ifNF (by rw [la.len, lb.len]) ?_
      k_offL
      refine r_lenS (.inl (sqL_of hb)) ?_
      cases fit with
      | lst hf hl =>
        rename_i n
        refine loopR1 _ (by rw [lb.len]; omega) (by omega) (fun i σ' H' => (∃ v, σ' = [some (.ref a), some (.ref b), v]) ∧ Fr [] H H') ⟨⟨_, rfl⟩, Fr.refl _ _⟩ ?_ ?_
        · rintro i σ' H1 hi ⟨⟨v, rfl⟩, f1⟩
          have hi' : i < ds.length := by rw [lb.len] at hi; omega
          have hd := List.getElem?_eq_getElem hi'
          obtain ⟨x, hx, rx⟩ := la.get hd
          obtain ⟨y, hy, ry⟩ := lb.get hd
          k_offL
          refine r_ixS (.inl (sqL_of (f1.at_ _ _ ha List.not_mem_nil))) (atI_nat hx) ?_
          k_offL
          refine r_ixS (.inl (sqL_of (f1.at_ _ _ hb List.not_mem_nil))) (atI_nat hy) ?_
          k_offL
          refine ⟨x, y, ds[i], rfl, Rep.fr0 f1 _ _ rx, Rep.fr0 f1 _ _ ry, hf _ (List.getElem_mem hi'), fun H2 f2 => ?_⟩
          k_offL
          exact ⟨⟨_, rfl⟩, f1.trans f2⟩
        · rintro σ' H1 ⟨⟨v, rfl⟩, f1⟩
          k_offL
          exact k H1 f1
end
end RL
set_option synthInstance.maxHeartbeats 4000000
set_option synthInstance.maxSize 4000
namespace RL
theorem DOk.some' {kvs : List (Key × V)} {m : Int → Option V} (d : DOk kvs m) {h : Int} {v : V} (e : m h = some v) : (valV kvs (.inl h)).isSome = true := by rw [d.val, e]; rfl
theorem Ans.hit {size : Int} {f : Int → Int} {a d e : Int} {j : Nat} (h0 : 0 < size) (hd : 0 < d) (x : Ans size f a d j) : Tr size f a e d ↔ wl size f j a = d ∧ it f j a = e := by
  constructor
  · rintro ⟨n, n1, e1, e2⟩
    have : j = n := Ans.uniq h0 x ⟨by omega, fun i hi => by have := wl_lt (f := f) (h := a) h0 hi; omega⟩
    subst this
    exact ⟨e2, e1⟩
  · rintro ⟨e1, e2⟩
    refine ⟨j, ?_, e2, e1⟩
    cases j with
    | zero => have : (0 : Int) = d := e1; omega
    | succ j => omega
theorem NxAt.get {H : Hp} {a : Addr} {hs : List Int} {f : Int → Int} {x : Int} {Q : VK} (N : NxAt H a hs f) (m : x ∈ hs) (q : Q (.int (f x)) H) : DGetK (.ref a) (.int x) Q H := by
  obtain ⟨kvs, rd, dk, _⟩ := N.ex
  exact dgetk rd (by rw [dk.val, mfOf_at m]) q
theorem NxAt.ex0 {H H' : Hp} {a : Addr} {hs : List Int} {f : Int → Int} (x : NxAt H a hs f) (g : Fr [] H H') : NxAt H' a hs f := x.fr g List.not_mem_nil
theorem NS.nxAt {N : NS} (ok : N.Ok) {H : Hp} {a : Addr} {kvs : List (Key × V)} (h : H a = some (.dK kvs)) (d : DOk kvs N.mf) : NxAt H a N.hs N.f := .mk' (.inl h) d ok.nd ok.fh
theorem far_b {size s e : Int} (h : 0 < size) (h2 : size < 2 ^ 40) : 0 < far size s e ∧ far size s e < 2 ^ 40 := by have := far_pos (s := s) (e := e) h; omega
def spCheckHouse : Sp := fun vs H Q _ => ∃ (a : Addr) (kvs : List (Key × V)) (h : Int), vs = [.ref a, .int h] ∧ Rd H a (.dK kvs) ∧ (valV kvs (.inl h)).isSome = true ∧ Q .non H
section
variable {P : Program} {w : World} {K : PySem.W.Frag} {mg : Str → Option Value} {base : Heap} {CNet CMender CDesk CStore CWalk : Addr}
abbrev s_check_house : Stmt := top 11
theorem sc_check_house : FnScope ["nexts", "house"] ["nexts", "house"] (defScope s_check_house) := ⟨rfl, rfl, rfl, by decide +kernel, rfl, by decide +kernel, by decide +kernel⟩
theorem ok_check_house {f : Addr} {fd : FuncData} (F : Fun K "check_house" "check_house" s_check_house f fd) : FnOk P w K mg base CX0 1 f fd ["nexts", "house"] spCheckHouse := by
  refine F.ok sc_check_house (fun vs H Q E h => ?_) (fun cdv A outer s H vs Q E hr h => ?_)
  · obtain ⟨_, _, _, rfl, _⟩ := h; rfl
  · obtain ⟨a, kvs, x, rfl, ha, hm, k⟩ := h
    refine ⟨_, (pss_one (ps_if (pt_cmp (pc_dnotin (hu_of hr) (pv 1) (pv 0))) (pss_one ps_never) pss_nil)), ?_⟩
    (try simp only [cxK, cxKX, List.map])
    refine ent (σ' := [some _, some _]) rfl ?_
    k_offL
    refine dink ha ?_
    refine blk (ifE (show _ = false by rw [hm]; rfl) ?_)
    k_offL
    exact k
end
def spLawHolds : Sp := fun vs H Q _ => ∃ (size : Int) (a t : Addr) (hs : List Int) (f : Int → Int) (h e s : Int), vs = [.int size, .ref a, .ref t] ∧ NxAt H a hs f ∧ H t = some (.tup [.int h, .int e, .int s]) ∧ h ∈ hs ∧ hs.length ≤ 60 ∧ 0 < size ∧ size < 2 ^ 40 ∧ 0 < s ∧ s ≤ 4 * size ∧
  ∀ b H', (b = true ↔ Tr size f h e s) → Fr [] H H' → Q (.bl b) H'
section
variable {P : Program} {w : World} {K : PySem.W.Frag} {mg : Str → Option Value} {base : Heap} {CNet CMender CDesk CStore CWalk : Addr}
abbrev s__law_holds : Stmt := top 60
theorem sc__law_holds : FnScope ["size", "nexts", "saying", "at", "length", "k"] ["size", "nexts", "saying"] (defScope s__law_holds) := ⟨rfl, rfl, rfl, by decide +kernel, rfl, by decide +kernel, by decide +kernel⟩
theorem ok__law_holds {f : Addr} {fd : FuncData} (F : Fun K "_law_holds" "_law_holds" s__law_holds f fd) (m_range : mg "range" = none) (m_len : mg "len" = none) (G__law_far : GF P w K mg base "_law_far" 1 ["size", "start", "end"] spFar) : FnOk P w K mg base CX0 2 f fd ["size", "nexts", "saying"] spLawHolds := by
  refine F.ok sc__law_holds (fun vs H Q E h => ?_) (fun cdv A outer s H vs Q E hr h => ?_)
  · obtain ⟨_, _, _, _, _, _, _, _, rfl, _⟩ := h; rfl
  · obtain ⟨size, a, t, hs, f, x, e, s', rfl, N, ht, hx, hl, h0, h1, s0, s1, k⟩ := h
    refine ⟨_, (pss_cons (ps_set (i := 3) sc__law_holds.nd rfl (Or.inl rfl) (pe_ix (ix_tupK (K := K) rfl) (pv 2) pe_int (by intro _ _; rfl)))
      (pss_cons (ps_set (i := 4) sc__law_holds.nd rfl (Or.inl rfl) pe_int)
      (pss_cons (ps_for PassesOwn.never rfl (pi_range1 (by rfl) m_range (pa_cons (pe_op op_mul (pe_callB cb_lenD (by rfl) m_len b_len (pa_cons (pv 1) pa_nil)) (pe_op op_add (pe_op op_fdivW (pe_ix (ix_tupK (K := K) rfl) (pv 2) pe_int (by intro _ _; rfl)) (pv 0)) pe_int)) pa_nil)) (pg_name (i := 5) sc__law_holds.nd rfl (Or.inl rfl))
      (pss_cons (ps_if (pt_cmpR op_ge (pv 4) (pe_ix (ix_tupK (K := K) rfl) (pv 2) pe_int (by intro _ _; rfl)) (nomark _)) (pss_one ps_break) pss_nil)
      (pss_cons (ps_set (i := 4) sc__law_holds.nd rfl (Or.inl rfl) (pe_op op_add (pv 4) (c_fn G__law_far (hr.mono (by decide)) (pa_cons (pv 0) (pa_cons (pv 3) (pa_cons (pe_dget (hu_of hr) (pv 1) (pv 3) (by intro _ _; rfl)) pa_nil))))))
      (pss_one (ps_set (i := 3) sc__law_holds.nd rfl (Or.inl rfl) (pe_dget (hu_of hr) (pv 1) (pv 3) (by intro _ _; rfl)))))))
      (pss_one (ps_ret (pe_and (pe_cmpR op_eq (pv 4) (pe_ix (ix_tupK (K := K) rfl) (pv 2) pe_int (by intro _ _; rfl)) (nomark _)) (pe_one (pe_cmpR op_eq (pv 3) (pe_ix (ix_tupK (K := K) rfl) (pv 2) pe_int (by intro _ _; rfl)) (nomark _))))))))), ?_⟩
    (try simp only [cxK, cxKX, List.map])
    refine ent (σ' := [some _, some _, some _, none, none, none]) rfl ?_
    obtain ⟨kvs, rd, dk, hkl⟩ := N.ex
    k_offL
    refine r_ixT (sqT_of ht) (v := .int x) rfl ?_
    k_offL
    refine r_lenD rd ?_
    rw [hkl]
    k_offL
    refine r_ixT (sqT_of ht) (v := .int s') rfl ?_
    k_offL
    have q0 : 0 ≤ s' / size := Int.ediv_nonneg (by omega) (by omega)
    have q1 : s' / size ≤ 4 := Int.ediv_le_of_le_mul h0 (by omega)
    have q2 : s' < size * (s' / size + 1) := by
      have := Int.emod_lt_of_pos s' h0
      have := Int.mul_ediv_add_emod s' size
      rw [Int.mul_add]
      omega
    obtain ⟨q, hq⟩ : ∃ q : Nat, s' / size + 1 = (q : Int) := ⟨(s' / size + 1).toNat, by omega⟩
    have hq' : Int.fdiv s' size = s' / size := Int.fdiv_eq_ediv_of_nonneg _ (by omega)
    have ans : ∀ {j : Nat} {H' : Hp}, Ans size f x s' j → Fr [] H H' → (∀ b, (b = true ↔ wl size f j x = s' ∧ it f j x = e) → Q (.bl b) H') := fun A g b hb => k b _ (hb.trans (A.hit h0 s0).symm) g
    have hn : (hs.length : Int) * (s' / size + 1) = ((hs.length * q : Nat) : Int) := by rw [hq, Int.natCast_mul]
    have hq5 : q ≤ 5 := by omega
    have hn2 : hs.length * q ≤ 60 * 5 := Nat.mul_le_mul hl hq5
    rw [hn]
    refine loopR1 _ (by omega) (by omega) (fun i σ' H' => (∃ v, σ' = [some (.int size), some (.ref a), some (.ref t), some (.int (it f i x)), some (.int (wl size f i x)), v]) ∧ (∀ i', i' < i → wl size f i' x < s') ∧ Fr [] H H') ⟨⟨_, rfl⟩, fun i hi => absurd hi (by omega), Fr.refl _ _⟩ ?_ ?_
    · rintro i σ' H1 hi ⟨⟨v, rfl⟩, hj, f1⟩
      have N1 := N.ex0 f1
      have ht1 := f1.tp _ _ ht
      have hm := it_mem (n := i) N.cl hx
      k_offL
      refine r_ixT (sqT_of ht1) (v := .int s') rfl ?_
      k_offL
      refine ifD (fun e3 => ?_) (fun e3 => ?_)
      · k_offL
        refine r_ixT (sqT_of ht1) (v := .int s') rfl ?_
        k_offL
        refine ifD (fun e1 => ?_) (fun e1 => ?_)
        · k_offL
          refine r_ixT (sqT_of ht1) (v := .int e) rfl ?_
          k_offL
          exact ans ⟨by omega, hj⟩ f1 _ (by rw [decide_eq_true_iff]; exact ⟨fun z => ⟨e1, z⟩, fun z => z.2⟩)
        · k_offL
          exact ans ⟨by omega, hj⟩ f1 _ ⟨fun z => (nomatch z), fun z => absurd z.1 e1⟩
      · k_offL
        refine N1.get hm ?_
        k_offL
        refine i_far h0 ?_
        k_offL
        refine N1.get hm ?_
        k_offL
        refine ⟨⟨_, by rw [it_succ, wl_succ]⟩, fun i' hi' => ?_, f1⟩
        rcases Nat.lt_or_eq_of_le (Nat.le_of_lt_succ hi') with q | q
        · exact hj i' q
        · rw [q]; omega
    · rintro σ' H1 ⟨⟨v, rfl⟩, hj, f1⟩
      rw [show ((hs.length * q : Nat) : Int).toNat = hs.length * q by omega] at hj ⊢
      have a2 := wl_turns h0 N.cl hx q
      rw [hq] at q2
      have ht1 := f1.tp _ _ ht
      k_offL
      refine r_ixT (sqT_of ht1) (v := .int s') rfl ?_
      k_offL
      refine ifD (fun e1 => ?_) (fun e1 => ?_)
      · k_offL
        refine r_ixT (sqT_of ht1) (v := .int e) rfl ?_
        k_offL
        exact ans ⟨by omega, hj⟩ f1 _ (by rw [decide_eq_true_iff]; exact ⟨fun z => ⟨e1, z⟩, fun z => z.2⟩)
      · k_offL
        exact ans ⟨by omega, hj⟩ f1 _ ⟨fun z => (nomatch z), fun z => absurd z.1 e1⟩
end
def spLawOrdered : Sp := fun vs H Q _ => ∃ (a : Addr) (hs : List Int) (f : Int → Int) (kvs : List (Key × V)), vs = [.ref a] ∧ H a = some (.dK kvs) ∧ DOk kvs (mfOf hs f) ∧ hs.Pairwise (· < ·) ∧ hs.length ≤ 60 ∧ ∀ l H', H l = none → H' l = some (.dK (hs.map fun h => (Sum.inl h, V.int (f h)))) → Fr [] H H' → Q (.ref l) H'
theorem kn_val (f : Int → Int) (ks : List Int) (n : Int) (h : n ∉ ks) : valV (ks.map fun h => ((Sum.inl h : Key), V.int (f h))) (Sum.inl n) = none := by
  rw [valV_mapK (fun k => V.int (f k)), if_neg h]
section
variable {P : Program} {w : World} {K : PySem.W.Frag} {mg : Str → Option Value} {base : Heap} {CNet CMender CDesk CStore CWalk : Addr}
abbrev s__law_ordered : Stmt := top 66
theorem sc__law_ordered : FnScope ["table", "due", "key"] ["table"] (defScope s__law_ordered) := ⟨rfl, rfl, rfl, by decide +kernel, rfl, by decide +kernel, by decide +kernel⟩
theorem ok__law_ordered {f : Addr} {fd : FuncData} (F : Fun K "_law_ordered" "_law_ordered" s__law_ordered f fd) (m_sorted : mg "sorted" = none) : FnOk P w K mg base CX0 1 f fd ["table"] spLawOrdered := by
  refine F.ok sc__law_ordered (fun vs H Q E h => ?_) (fun cdv A outer s H vs Q E hr h => ?_)
  · obtain ⟨_, _, _, _, rfl, _⟩ := h; rfl
  · obtain ⟨a, hs, f, kvs, rfl, ha, d, up, hl, k⟩ := h
    refine ⟨_, (pss_cons (ps_set (i := 1) sc__law_ordered.nd rfl (Or.inl rfl) pe_dnewK)
      (pss_cons (ps_for PassesOwn.never rfl (pi_listK (K := K) rfl (pe_callB (cb_sortD rfl) (by rfl) m_sorted b_sorted (pa_cons (pv 0) pa_nil))) (pg_name (i := 2) sc__law_ordered.nd rfl (Or.inl rfl))
      (pss_one (ps_dput (hu_of hr) (pv 1) (pv 2) (pe_dget (hu_of hr) (pv 0) (pv 2) (by intro _ _; rfl)) rfl)))
      (pss_one (ps_ret (pv 1))))), ?_⟩
    (try simp only [cxK, cxKX, List.map])
    refine ent (σ' := [some _, none, none]) rfl ?_
    have nd : hs.Nodup := up.imp fun h => Int.ne_of_lt h
    k_offL
    refine newk fun l H1 n1 e1 f1 => ?_
    have hal : a ≠ l := ne_of_none ha n1
    k_offL
    refine r_sortD (.inl (f1.at_ _ _ ha List.not_mem_nil)) d ⟨up, fun n => mfOf_some⟩ (by omega) fun l2 H2 n2 e2 f2 => ?_
    have e12 := f2.at_ _ _ e1 List.not_mem_nil
    have hl2 : l2 ≠ l := (ne_of_none e1 n2).symm
    refine loopLF (M := [l]) (hs.map V.int) (sqL_of e2) (mem_one hl2) (fun i σ' H' => (∃ v, σ' = [some (.ref a), some (.ref l), v]) ∧ H' l = some (.dK ((hs.take i).map fun h => (Sum.inl h, V.int (f h)))) ∧ Fr [l] H2 H') ⟨⟨_, rfl⟩, e12, Fr.refl _ _⟩ (fun i σ' H' z => z.2.2) ?_ ?_
    · rintro i x σ' H3 hi ⟨⟨v, rfl⟩, e3, f3⟩
      obtain ⟨n, hn, hm, rfl⟩ := mem_ints hi
      k_offL
      refine dgetk (.inl (f3.at_ _ _ ((f1.trans f2).at_ _ _ ha List.not_mem_nil) (mem_one hal))) (by rw [d.val, mfOf_at hm]) ?_
      k_offL
      refine dputk e3 (by rw [List.length_map, List.length_take]; omega) fun H4 e4 f4 => ?_
      refine ⟨⟨_, rfl⟩, ?_, f3.trans f4⟩
      rw [e4, putK_new _ (kn_val f _ n fun hc => ?_), take_snoc hn, List.map_append]
      · rfl
      · obtain ⟨i', hi', e'⟩ := List.mem_iff_getElem.mp hc
        rw [List.length_take] at hi'
        rw [List.getElem_take] at e'
        have : i' = i := nd_ix nd (by rw [List.getElem?_eq_getElem (by omega), e']) hn
        omega
    · rintro σ' H3 ⟨⟨v, rfl⟩, e3, f3⟩
      rw [List.length_map, List.take_length] at e3
      k_offL
      exact k l H3 n1 e3 ((f1.trans f2).drop f3 n1)
end
end RL
set_option synthInstance.maxHeartbeats 4000000
set_option synthInstance.maxSize 4000
namespace RL
theorem pl2 {hs : List Int} {a b : Int} (ha : a ∈ hs) (hb : b ∈ hs) : ∀ y ∈ [a, b], y ∈ hs := fun y hy => by
  rcases List.mem_cons.mp hy with e | e
  · exact e ▸ ha
  · exact List.mem_singleton.mp e ▸ hb
theorem pl3 {hs : List Int} {a b c : Int} (ha : a ∈ hs) (hb : b ∈ hs) (hc : c ∈ hs) : ∀ y ∈ [a, b, c], y ∈ hs := fun y hy => by
  rcases List.mem_cons.mp hy with e | e
  · exact e ▸ ha
  · exact pl2 hb hc y e
section
variable {N N' N'' : NS} {l : LT} {u v x h : Int} {i : Nat}
theorem NS.Ok.push (ok : N.Ok) (h : ∀ x ∈ l.pl, x ∈ N.hs) (hl : N.post.length < 1000) : (N.push l).Ok :=
  ⟨ok.s0, ok.s1, ok.up, ok.on, ok.fh, ok.bh, fun m hm x hx => by
    rcases List.mem_append.mp hm with q | q
    · exact ok.ph m q x hx
    · rw [List.mem_singleton.mp q] at hx; exact h x hx, ok.hl, by show (N.post ++ [l]).length ≤ 1000; rw [List.length_append]; show _ + 1 ≤ _; omega⟩
theorem NS.Ok.setF (ok : N.Ok) (hu : u ∈ N.hs) (hx : x ∈ N.hs) : (N.setF u x).Ok :=
  ⟨ok.s0, ok.s1, ok.up, ok.on, fun h hh => by
    show (if h = u then x else N.f h) ∈ N.hs
    split
    · exact hx
    · exact ok.fh h hh, ok.bh, ok.ph, ok.hl, ok.pl⟩
theorem NS.Ok.setB (ok : N.Ok) (hu : u ∈ N.hs) (hx : x ∈ N.hs) : (N.setB u (some x)).Ok :=
  ⟨ok.s0, ok.s1, ok.up, ok.on, ok.fh, fun h y e => by
    have e' : (if h = u then some x else N.b h) = some y := e
    by_cases q : h = u
    · rw [if_pos q] at e'; cases e'; exact ⟨q ▸ hu, hx⟩
    · rw [if_neg q] at e'; exact ok.bh h y e', ok.ph, ok.hl, ok.pl⟩
theorem NS.Ok.readL (ok : N.Ok) (h : ∀ x ∈ l.pl, x ∈ N.hs) (hl : N.post.length < 1000) : (N.readL l).1.Ok := by
  cases l with
  | tell v u =>
    have hv := h v (by simp [LT.pl])
    have hu := h u (by simp [LT.pl])
    simp only [NS.readL]
    split
    · exact ok.setB hv hu
    · split
      · exact ok.setB hv hu
      · exact ok
  | ask v u =>
    have hv := h v (by simp [LT.pl])
    have hu := h u (by simp [LT.pl])
    simp only [NS.readL]
    split
    · exact ok
    · rename_i x e
      exact ok.push (pl3 hu hv (ok.bh v x e).2) hl
  | ans u v x =>
    have hu := h u (by simp [LT.pl])
    have hx := h x (by simp [LT.pl])
    simp only [NS.readL]
    split
    · exact ok.setF hu hx
    · exact ok
theorem readL_hs (N : NS) (l : LT) : (N.readL l).1.hs = N.hs ∧ (N.readL l).1.size = N.size := by
  cases l with
  | tell v u => simp only [NS.readL]; split <;> (try split) <;> exact ⟨rfl, rfl⟩
  | ask v u => simp only [NS.readL]; split <;> exact ⟨rfl, rfl⟩
  | ans u v x => simp only [NS.readL]; split <;> exact ⟨rfl, rfl⟩
theorem readL_len (N : NS) (l : LT) : (N.readL l).1.post.length ≤ N.post.length + 1 := by
  have e (m : LT) : (N.push m).post.length = N.post.length + 1 := by show (N.post ++ [m]).length = _; rw [List.length_append]; rfl
  cases l with
  | tell v u => simp only [NS.readL]; split <;> (try split) <;> exact Nat.le_succ _
  | ask v u =>
    simp only [NS.readL]; split
    · exact Nat.le_succ _
    · rw [e]; exact Nat.le_refl _
  | ans u v x => simp only [NS.readL]; split <;> exact Nat.le_succ _
theorem readL_vs (N : NS) (l : LT) : (N.readL l).2.length = 3 := by
  cases l with
  | tell v u => simp only [NS.readL]; split <;> (try split) <;> rfl
  | ask v u => simp only [NS.readL]; split <;> rfl
  | ans u v x => simp only [NS.readL]; split <;> rfl
theorem lt_len (l : LT) : l.vs.length ≤ 4 := by cases l <;> simp [LT.vs]
inductive Small : NS → NS → Prop where
  | tell (N : NS) (h : Int) (m : h ∈ N.hs) (q : N.post.length < 1000) : Small N (N.push (.tell (N.f h) h))
  | ask (N : NS) (h : Int) (m : h ∈ N.hs) (q : N.post.length < 1000) : Small N (N.push (.ask (N.f h) h))
  | dup (N : NS) (l : LT) (m : l ∈ N.post) (q : N.post.length < 1000) : Small N (N.push l)
  | del (N : NS) (i : Nat) : Small N (N.del i)
  | read (N : NS) (i : Nat) (l : LT) (m : N.post[i]? = some l) : Small N (N.read i l).1
inductive Steps : NS → NS → Prop where
  | refl (N : NS) : Steps N N
  | more {N N' N'' : NS} (a : Steps N N') (b : Small N' N'') : Steps N N''
theorem Steps.one (a : Small N N') : Steps N N' := .more (.refl N) a
theorem Steps.trans (a : Steps N N') (b : Steps N' N'') : Steps N N'' := by
  induction b with
  | refl => exact a
  | more _ c ih => exact .more ih c
theorem del_len (h : N.post[i]? = some l) : (N.del i).post.length + 1 = N.post.length := by
  have := (List.getElem?_eq_some_iff.mp h).1
  show (N.post.eraseIdx i).length + 1 = _
  rw [List.length_eraseIdx_of_lt this]
  omega
theorem read_len (h : N.post[i]? = some l) : (N.read i l).1.post.length ≤ N.post.length := by
  have := del_len h
  have := readL_len (N.del i) l
  show ((N.del i).readL l).1.post.length ≤ _
  omega
theorem Small.ok (s : Small N N') (ok : N.Ok) : N'.Ok := by
  cases s with
  | tell h m q => exact ok.push (pl2 (ok.fh h m) m) q
  | ask h m q => exact ok.push (pl2 (ok.fh h m) m) q
  | dup l m q => exact ok.push (ok.ph l m) q
  | del i => exact ok.del i
  | read i l m => exact (ok.del i).readL (ok.ph l (List.mem_of_getElem? m)) (by have := del_len m; have := ok.pl; omega)
theorem Small.same (s : Small N N') : N'.hs = N.hs ∧ N'.size = N.size := by
  cases s with
  | tell h m q => exact ⟨rfl, rfl⟩
  | ask h m q => exact ⟨rfl, rfl⟩
  | dup l m q => exact ⟨rfl, rfl⟩
  | del i => exact ⟨rfl, rfl⟩
  | read i l m => exact readL_hs (N.del i) l
theorem Steps.ok (s : Steps N N') (ok : N.Ok) : N'.Ok := by
  induction s with
  | refl => exact ok
  | more _ c ih => exact c.ok ih
theorem Steps.same (s : Steps N N') : N'.hs = N.hs ∧ N'.size = N.size := by
  induction s with
  | refl => exact ⟨rfl, rfl⟩
  | more _ c ih => exact ⟨c.same.1.trans ih.1, c.same.2.trans ih.2⟩
end
structure Ads where
  (p da db dl dn dk dp tp tc : Addr)
def Ads.all (A : Ads) : List Addr := [A.da, A.db, A.dl, A.dn, A.dk, A.dp, A.tp]
structure WW (C : Addr) (H : Hp) (A : Ads) (N M : NS) : Prop where
  net : NetAt C H A.p A.da A.db A.dl N
  tab : TabAt H A.dn A.dk A.dp M
  tape : TapeAt H A.tp A.tc
  nd : [A.p, A.da, A.db, A.dl, A.dn, A.dk, A.dp, A.tp, A.tc].Nodup
section
variable {C : Addr} {H H' H1 H2 : Hp} {A : Ads} {N M N' : NS} {l : LT} {t : Addr}
theorem WW.net' (w : WW C H A N M) (f : Fr [A.da, A.db, A.dl] H H') (h : NetAt C H' A.p A.da A.db A.dl N') : WW C H' A N' M := by
  have nd := w.nd
  simp only [List.nodup_cons, List.mem_cons, List.not_mem_nil, or_false, not_or] at nd
  obtain ⟨_, ⟨a1, a2, a3, a4, a5, a6, a7⟩, ⟨b1, b2, b3, b4, b5, b6⟩, ⟨c1, c2, c3, c4, c5⟩, _⟩ := nd
  exact ⟨h, w.tab.fr f (by simp [Ne.symm a3, Ne.symm b2, Ne.symm c1]) (by simp [Ne.symm a4, Ne.symm b3, Ne.symm c2]) (by simp [Ne.symm a5, Ne.symm b4, Ne.symm c3]), w.tape.fr f (by simp [Ne.symm a6, Ne.symm b5, Ne.symm c4]) (by simp [Ne.symm a7, Ne.symm b6, Ne.symm c5]), w.nd⟩
theorem WW.tab' (w : WW C H A N M) (f : Fr [A.dn, A.dk, A.dp] H H') (h : TabAt H' A.dn A.dk A.dp N') : WW C H' A N N' := by
  have nd := w.nd
  simp only [List.nodup_cons, List.mem_cons, List.not_mem_nil, or_false, not_or] at nd
  obtain ⟨⟨_, _, _, p4, p5, p6, _, _⟩, ⟨_, _, a3, a4, a5, _, _⟩, ⟨_, b2, b3, b4, _, _⟩, ⟨c1, c2, c3, _, _⟩, ⟨_, _, d3, d4⟩, ⟨_, e2, e3⟩, ⟨g1, g2⟩, _⟩ := nd
  exact ⟨w.net.fr f (by simp [p4, p5, p6]) (by simp [a3, a4, a5]) (by simp [b2, b3, b4]) (by simp [c1, c2, c3]), h, w.tape.fr f (by simp [Ne.symm d3, Ne.symm e2, Ne.symm g1]) (by simp [Ne.symm d4, Ne.symm e3, Ne.symm g2]), w.nd⟩
theorem WW.tape' (w : WW C H A N M) (f : Fr [A.tp] H H') (h : TapeAt H' A.tp A.tc) : WW C H' A N M := by
  have nd := w.nd
  simp only [List.nodup_cons, List.mem_cons, List.not_mem_nil, or_false, not_or] at nd
  obtain ⟨⟨_, _, _, _, _, _, p7, _⟩, ⟨_, _, _, _, _, a6, _⟩, ⟨_, _, _, _, b5, _⟩, ⟨_, _, _, c4, _⟩, ⟨_, _, d3, _⟩, ⟨_, e2, _⟩, ⟨g1, _⟩, _⟩ := nd
  exact ⟨w.net.fr f (by simp [p7]) (by simp [a6]) (by simp [b5]) (by simp [c4]), w.tab.fr f (by simp [d3]) (by simp [e2]) (by simp [g1]), h, w.nd⟩
theorem WW.ex0 (w : WW C H A N M) (f : Fr [] H H') : WW C H' A N M := ⟨w.net.ex f, w.tab.ex f, w.tape.ex0 f, w.nd⟩
theorem Fr.net (f : Fr [A.da, A.db, A.dl] H H') : Fr A.all H H' := f.mono fun a h => by simp at h; simp only [Ads.all, List.mem_cons]; rcases h with h | h | h <;> simp [h]
theorem Fr.tab (f : Fr [A.dn, A.dk, A.dp] H H') : Fr A.all H H' := f.mono fun a h => by simp at h; simp only [Ads.all, List.mem_cons]; rcases h with h | h | h <;> simp [h]
theorem Fr.tape (f : Fr [A.tp] H H') : Fr A.all H H' := f.mono fun a h => by simp at h; simp only [Ads.all, List.mem_cons]; simp [h]
theorem Fr.dl (f : Fr [A.dl] H H') : Fr [A.da, A.db, A.dl] H H' := f.mono fun a h => by simp at h; simp [h]
theorem Fr.dp (f : Fr [A.dp] H H') : Fr [A.dn, A.dk, A.dp] H H' := f.mono fun a h => by simp at h; simp [h]
theorem WW.ne (w : WW C H A N M) : A.dn ≠ A.dp ∧ A.dk ≠ A.dp ∧ A.dn ≠ A.tp ∧ A.dk ≠ A.tp ∧ A.dp ≠ A.tp := by
  have nd := w.nd
  simp only [List.nodup_cons, List.mem_cons, List.not_mem_nil, or_false, not_or] at nd
  obtain ⟨_, _, _, _, ⟨_, d2, d3, _⟩, ⟨e1, e2, _⟩, ⟨g1, _⟩, _⟩ := nd
  exact ⟨d2, e1, d3, e2, g1⟩
theorem TabAt.push {dn dk dp : Addr} {lv : List V} (T : TabAt H dn dk dp N) (hl : H dp = some (.lst lv)) (f1 : Fr [] H H1) (ht : H1 t = some (.tup l.vs)) (e2 : H2 dp = some (.lst (lv ++ [.ref t]))) (f2 : Fr [dp] H1 H2) (n1 : dn ≠ dp) (n2 : dk ≠ dp) : TabAt H2 dn dk dp (N.push l) := by
  obtain ⟨⟨kn, hn, dN⟩, ⟨kb, hb, dB⟩, ⟨lv', hl', ls⟩, ne⟩ := T
  rw [hl] at hl'
  cases hl'
  exact ⟨⟨kn, f2.at_ _ _ (f1.at_ _ _ hn List.not_mem_nil) (mem_one n1), dN⟩, ⟨kb, f2.at_ _ _ (f1.at_ _ _ hb List.not_mem_nil) (mem_one n2), dB⟩, ⟨_, e2, (ls.fr (f1.up.trans f2)).snoc (f2.tp _ _ ht)⟩, ne⟩
theorem TabAt.pop {dn dk dp : Addr} {lv : List V} {i : Nat} (T : TabAt H dn dk dp N) (hl : H dp = some (.lst lv)) (e2 : H2 dp = some (.lst (lv.eraseIdx i))) (f2 : Fr [dp] H H2) (n1 : dn ≠ dp) (n2 : dk ≠ dp) : TabAt H2 dn dk dp (N.del i) := by
  obtain ⟨⟨kn, hn, dN⟩, ⟨kb, hb, dB⟩, ⟨lv', hl', ls⟩, ne⟩ := T
  rw [hl] at hl'
  cases hl'
  exact ⟨⟨kn, f2.at_ _ _ hn (mem_one n1), dN⟩, ⟨kb, f2.at_ _ _ hb (mem_one n2), dB⟩, ⟨_, e2, (ls.fr f2).erase i⟩, ne⟩
end
theorem i_same {H : Hp} {Q : VK} {E : XK} {a b : V} {n : Nat} (d : D) (ha : Rep H d a) (hb : Rep H d b) (fit : Fits n d) (q : ∀ H', Fr [] H H' → Q (.bl true) H') : spSame (n + 1) [a, b] H Q E := ⟨a, b, d, rfl, ha, hb, fit, q⟩
theorem i_sameT {H : Hp} {Q : VK} {E : XK} {t1 t2 : Addr} {vs : List V} (ha : H t1 = some (.tup vs)) (hb : H t2 = some (.tup vs)) (fl : vs.all flatR = true) (hl : vs.length ≤ 100000) (q : ∀ H', Fr [] H H' → Q (.bl true) H') : spSame 4 [.ref t1, .ref t2] H Q E :=
  i_same (flatD vs) (Rep.flat ha fl) (Rep.flat hb fl) ((Fits.flat hl).up (by decide)) q
def spStands (C : Addr) : Sp := fun vs H Q _ => ∃ (p da db dl dn dk dp : Addr), ∃ N : NS, vs = [.ref p, .int N.size, .ref dn, .ref dk, .ref dp] ∧ NetAt C H p da db dl N ∧ TabAt H dn dk dp N ∧ N.Ok ∧ ∀ H', Fr [] H H' → Q (.bl true) H'
theorem snap_fits {N : NS} (ok : N.Ok) : Fits 3 N.snap := by
  have hl := ok.hl
  have pl := ok.pl
  refine .tup (fun d hd => ?_) (show 3 ≤ 100000 by decide)
  simp at hd
  rcases hd with e | e | e
  · subst e; exact .int
  · subst e
    refine .tup (fun d hd => ?_) (by unfold NS.rows; rw [List.length_map]; omega)
    obtain ⟨h, _, e⟩ := List.mem_map.mp hd
    subst e
    refine .tup (fun d hd => ?_) (show 3 ≤ 100000 by decide)
    simp at hd
    rcases hd with e | e | e
    · subst e; exact .int
    · subst e; exact .int
    · subst e; cases N.b h <;> constructor
  · subst e
    refine .tup (fun d hd => ?_) (by rw [List.length_map]; omega)
    obtain ⟨l, _, e⟩ := List.mem_map.mp hd
    subst e
    cases l with
    | tell r s => exact .tup (fun d hd => by simp at hd; rcases hd with e | e | e <;> (subst e; constructor)) (by simp)
    | ask r s => exact .tup (fun d hd => by simp at hd; rcases hd with e | e | e <;> (subst e; constructor)) (by simp)
    | ans r s n => exact .tup (fun d hd => by simp at hd; rcases hd with e | e | e | e <;> (subst e; constructor)) (by simp)
section
variable {P : Program} {w : World} {K : PySem.W.Frag} {mg : Str → Option Value} {base : Heap} {CNet CMender CDesk CStore CWalk : Addr}
abbrev s__law_stands : Stmt := top 65
theorem sc__law_stands : FnScope ["net", "size", "nexts", "behinds", "post", "rows", "house"] ["net", "size", "nexts", "behinds", "post"] (defScope s__law_stands) := ⟨rfl, rfl, rfl, by decide +kernel, rfl, by decide +kernel, by decide +kernel⟩
theorem ok__law_stands {f : Addr} {fd : FuncData} (F : Fun K "_law_stands" "_law_stands" s__law_stands f fd) (m_sorted : mg "sorted" = none) (G__law_same : GF P w K mg base "_law_same" 5 ["actual", "due"] (spSame 4)) (m_tuple : mg "tuple" = none) (G_Net_snapshot : GM P w K mg base CNet "snapshot" 1 ["self"] (spSnapshot CNet)) (T : NetT K CNet) : FnOk P w K mg base CX0 6 f fd ["net", "size", "nexts", "behinds", "post"] (spStands CNet) := by
  refine F.ok sc__law_stands (fun vs H Q E h => ?_) (fun cdv A outer s H vs Q E hr h => ?_)
  · obtain ⟨_, _, _, _, _, _, _, _, rfl, _⟩ := h; rfl
  · obtain ⟨p, da, db, dl, dn, dk, dp, N, rfl, hN, hT, ok, k⟩ := h
    refine ⟨_, (pss_cons (ps_setLc (i := 5) (own := [("house", 6)]) (g := gName 6) rfl sc__law_stands.nd rfl rfl (sw_true rfl rfl rfl (by decide +kernel)) (pi_listK (K := K) rfl (pe_callB (cb_sortD rfl) (by rfl) m_sorted b_sorted (pa_cons (pv 2) pa_nil))) (blkOk_by (N := ["net", "size", "nexts", "behinds", "post", "rows", "house"]) (sc := defScope s__law_stands) (by decide +kernel)) (fun _ _ _ _ _ => (pg_name (i := 6) sc__law_stands.nd rfl (Or.inl rfl))) (fun _ _ _ _ _ => pts_nil) (fun _ _ _ _ _ => (pe_tup (pa_cons (pv 6) (pa_cons (pe_dget (hu_of hr) (pv 2) (pv 6) (by intro _ _; rfl)) (pa_cons (pe_dget1 (hu_of hr) (pv 3) (pv 6) ⟨by rfl, by rfl, by rfl, by rfl⟩) pa_nil))))))
      (pss_one (ps_ret (c_fn G__law_same (hr.mono (by decide)) (pa_cons (c_mt0 G_Net_snapshot (hr.mono (by decide)) (pv 0)) (pa_cons (pe_tup (pa_cons (pv 1) (pa_cons (pe_callTy (cb_tupOfK (K := K) rfl) (by rfl) m_tuple b_tuple (pa_cons (pv 5) pa_nil)) (pa_cons (pe_callTy (cb_tupOfK (K := K) rfl) (by rfl) m_tuple b_tuple (pa_cons (pv 4) pa_nil)) pa_nil)))) pa_nil)))))), ?_⟩
    (try simp only [cxK, cxKX, List.map])
    refine ent (σ' := [some _, some _, some _, some _, some _, none, none]) rfl ?_
    obtain ⟨⟨dx, hp⟩, _⟩ := id hN
    obtain ⟨⟨kn, hn, dN⟩, ⟨kb, hb, dB⟩, ⟨lv, hl, ls⟩, ne⟩ := id hT
    have hlen := ok.hl
    k_offL
    refine r_sortD (.inl hn) dN ok.ascF (by omega) fun l1 H1 n1 e1 f1 => ?_
    refine walkL (sqL_of e1) ?_
    refine lcP (walk_list (xs := N.hs.map V.int)) (N.hs.map V.int) rfl (fun i H0 x H' _ y => yAt y) (fun _ => true) (RowIs N) (fun M x y H1 H2 ⟨h, t, a, b, c⟩ f => ⟨h, t, a, b, f.tp _ _ c⟩) (fun H' f => f.sqL (sqL_of e1) (fun z => nomatch z)) (by rw [List.length_map]; omega) (fun x H' hm f => ?_) fun q H2 ys n2 e2 hl2 hy f2 => ?_
    · obtain ⟨h, hh, rfl⟩ := mem_intsM hm
      refine sk6 ⟨fun R kR => kR H' (Fr.refl _ _), fun _ H3 f3 R kR => ?_⟩
      k_offL
      refine dgetk (kvs := kn) (.inl (by k_clsL)) (by rw [dN.val, NS.mf_at hh]) ?_
      k_offL
      refine dg1a (kvs := kb) (.inl (by k_clsL)) ?_
      k_offL
      refine dg1b (kvs := kb) (.inl (by k_clsL)) ?_
      k_offL
      refine tupk (by show 3 ≤ 100000; decide) fun t H4 n4 e4 f4 => ?_
      refine kR _ _ f4 ⟨h, t, rfl, rfl, ?_⟩
      rw [e4, dB.val]
      unfold NS.lb
      cases N.b h <;> rfl
    · rw [List.filter_eq_self.mpr fun _ _ => rfl] at hl2 hy
      have rr := rows_rep hl2 hy
      have f12 := f1.trans f2
      have hN2 := hN.ex f12
      have ls2 := ls.fr f12
      have hl3 := f12.at_ _ _ hl List.not_mem_nil
      k_offL
      refine ⟨p, da, db, dl, N, rfl, hN2, ok, fun t H3 r3 f3 => ?_⟩
      k_offL
      refine r_tupL (sqL_of (f3.at_ _ _ e2 List.not_mem_nil)) fun t4 H4 n4 e4 f4 => ?_
      k_offL
      refine r_tupL (sqL_of (f4.at_ _ _ (f3.at_ _ _ hl3 List.not_mem_nil) List.not_mem_nil)) fun t5 H5 n5 e5 f5 => ?_
      k_offL
      refine tupk (by show 3 ≤ 100000; decide) fun t6 H6 n6 e6 f6 => ?_
      k_offL
      have f46 := (f4.trans f5).trans f6
      refine i_same N.snap (Rep.fr0 f46 _ _ r3) ⟨t6, _, rfl, e6, _, _, rfl, rfl, _, _, rfl, ?_, _, _, rfl, ?_, rfl⟩ (snap_fits ok) fun H7 f7 => k H7 ((f12.trans f3).trans (f46.trans f7))
      · exact ⟨t4, _, rfl, (f5.trans f6).tp _ _ e4, RepL.fr0 (f3.trans f46) _ _ rr⟩
      · exact ⟨t5, _, rfl, f6.tp _ _ e5, ((ls2.fr f3).fr f46).rep⟩
end
end RL
set_option synthInstance.maxHeartbeats 4000000
set_option synthInstance.maxSize 4000
namespace RL
def lawArgs (A : Ads) (N : NS) : List V := [.ref A.tp, .ref A.p, .int N.size, .ref A.dn, .ref A.dk, .ref A.dp]
theorem WW.off {C : Addr} {H : Hp} {A : Ads} {N M : NS} (w : WW C H A N M) : A.dn ∉ [A.da, A.db, A.dl] ∧ A.dk ∉ [A.da, A.db, A.dl] ∧ A.dp ∉ [A.da, A.db, A.dl] := by
  have nd := w.nd
  simp only [List.nodup_cons, List.mem_cons, List.not_mem_nil, or_false, not_or] at nd
  obtain ⟨_, ⟨_, _, a3, a4, a5, _⟩, ⟨_, b2, b3, b4, _⟩, ⟨c1, c2, c3, _⟩, _⟩ := nd
  exact ⟨by simp [Ne.symm a3, Ne.symm b2, Ne.symm c1], by simp [Ne.symm a4, Ne.symm b3, Ne.symm c2], by simp [Ne.symm a5, Ne.symm b4, Ne.symm c3]⟩
def spDeed (C : Addr) : Sp := fun vs H Q _ => ∃ (A : Ads) (N : NS) (_ _ : Unit), vs = lawArgs A N ∧ WW C H A N N ∧ N.Ok ∧ 0 < N.hs.length ∧ N.post.length ≤ 60 ∧ ∀ N' H', Steps N N' → N'.post.length ≤ 60 → WW C H' A N' N' → Fr A.all H H' → Q (.bl true) H'
def spDeed1 (C : Addr) : Sp := fun vs H Q _ => ∃ (A : Ads) (N : NS) (_ _ : Unit), vs = lawArgs A N ∧ WW C H A N N ∧ N.Ok ∧ 0 < N.hs.length ∧ N.post.length ≤ 60 ∧ ∀ N' H', Small N N' → N'.post.length ≤ 60 → WW C H' A N' N' → Fr A.all H H' → Q (.bl true) H'
theorem push_len {N : NS} {l : LT} : (N.push l).post.length = N.post.length + 1 := by show (N.post ++ [l]).length = _; rw [List.length_append]; rfl
section
variable {P : Program} {w : World} {K : PySem.W.Frag} {mg : Str → Option Value} {base : Heap} {CNet CMender CDesk CStore CWalk : Addr}
abbrev s__law_deed : Stmt := top 63
theorem sc__law_deed : FnScope ["tape", "net", "size", "nexts", "behinds", "post", "houses", "house", "kind", "at"] ["tape", "net", "size", "nexts", "behinds", "post"] (defScope s__law_deed) := ⟨rfl, rfl, rfl, by decide +kernel, rfl, by decide +kernel, by decide +kernel⟩
theorem ok__law_deed {f : Addr} {fd : FuncData} (F : Fun K "_law_deed" "_law_deed" s__law_deed f fd) (m_sorted : mg "sorted" = none) (G__law_pick : GF P w K mg base "_law_pick" 1 ["tape", "size"] spPick) (m_len : mg "len" = none) (G__law_same : GF P w K mg base "_law_same" 5 ["actual", "due"] (spSame 4)) (G_Net_lose : GM P w K mg base CNet "lose" 2 ["self", "at"] (spLose CNet)) (G_Net_repeat : GM P w K mg base CNet "repeat" 2 ["self", "at"] (spRepeat CNet)) (G__law_read : GF P w K mg base "_law_read" 3 ["size", "nexts", "behinds", "post", "at"] spLawRead) (G_Net_read : GM P w K mg base CNet "read" 4 ["self", "at"] (spRead CNet)) (m_int : mg "int" = none) (G_Net_tell : GM P w K mg base CNet "tell" 3 ["self", "house"] (spTell CNet)) (G_Net_ask : GM P w K mg base CNet "ask" 3 ["self", "house"] (spAsk CNet)) (T : NetT K CNet) : FnOk P w K mg base CX0 6 f fd ["tape", "net", "size", "nexts", "behinds", "post"] (spDeed1 CNet) := by
  refine F.ok sc__law_deed (fun vs H Q E h => ?_) (fun cdv A outer s H vs Q E hr h => ?_)
  · obtain ⟨_, _, _, _, rfl, _⟩ := h; rfl
  · obtain ⟨A, N, _, _, rfl, W, ok, hpos, hpl, k⟩ := h
    unfold lawArgs
    refine ⟨_, (pss_cons (ps_set (i := 6) sc__law_deed.nd rfl (Or.inl rfl) (pe_callB (cb_sortD rfl) (by rfl) m_sorted b_sorted (pa_cons (pv 3) pa_nil)))
      (pss_cons (ps_set (i := 7) sc__law_deed.nd rfl (Or.inl rfl) (pe_ix (ix_listK (K := K) rfl) (pv 6) (c_fn G__law_pick (hr.mono (by decide)) (pa_cons (pv 0) (pa_cons (pe_callB (cb_lenSK (K := K) rfl) (by rfl) m_len b_len (pa_cons (pv 6) pa_nil)) pa_nil))) (by intro _ _; rfl)))
      (pss_cons (ps_set (i := 8) sc__law_deed.nd rfl (Or.inl rfl) (c_fn G__law_pick (hr.mono (by decide)) (pa_cons (pv 0) (pa_cons pe_int pa_nil))))
      (pss_cons (ps_if (PW.pt (pw_or (pt_cmpR op_ge (pe_callB (cb_lenSK (K := K) rfl) (by rfl) m_len b_len (pa_cons (pv 5) pa_nil)) pe_int (nomark _)) (pw_or1 (PW.pt (pw_and (pt_cmpR op_ge (pv 8) pe_int (nomark _)) (pw_and1 (pt_cmpR op_gt (pe_callB (cb_lenSK (K := K) rfl) (by rfl) m_len b_len (pa_cons (pv 5) pa_nil)) pe_int (nomark _)))))))) (pss_cons (ps_set (i := 9) sc__law_deed.nd rfl (Or.inl rfl) (c_fn G__law_pick (hr.mono (by decide)) (pa_cons (pv 0) (pa_cons (pe_callB (cb_lenSK (K := K) rfl) (by rfl) m_len b_len (pa_cons (pv 5) pa_nil)) pa_nil))))
      (pss_cons (ps_if (pt_cmpR op_eq (pv 8) pe_int (nomark _)) (pss_one (ps_ret (c_fn G__law_same (hr.mono (by decide)) (pa_cons (c_mt G_Net_lose (hr.mono (by decide)) (pv 1) (pa_cons (pv 9) pa_nil)) (pa_cons (pe_bmK (K := K) rfl PySem.F.plainAttrs_list PySem.F.slot_list_pop PySem.F.type_list_pop mt_popAt (pv 5) (pa_cons (pv 9) pa_nil)) pa_nil))))) pss_nil)
      (pss_cons (ps_if (PW.pt (pw_and (pt_cmpR op_eq (pv 8) pe_int (nomark _)) (pw_and1 (pt_cmpR op_lt (pe_callB (cb_lenSK (K := K) rfl) (by rfl) m_len b_len (pa_cons (pv 5) pa_nil)) pe_int (nomark _))))) (pss_cons (ps_expr (pe_bmK (K := K) rfl PySem.F.plainAttrs_list PySem.F.slot_list_append PySem.F.type_list_append mt_append (pv 5) (pa_cons (pe_ix (ix_listK (K := K) rfl) (pv 5) (pv 9) (by intro _ _; rfl)) pa_nil)))
      (pss_one (ps_ret (c_fn G__law_same (hr.mono (by decide)) (pa_cons (c_mt G_Net_repeat (hr.mono (by decide)) (pv 1) (pa_cons (pv 9) pa_nil)) (pa_cons (pe_ix (ix_listK (K := K) rfl) (pv 5) (pv 9) (by intro _ _; rfl)) pa_nil)))))) pss_nil)
      (pss_one (ps_ret (c_fn G__law_same (hr.mono (by decide)) (pa_cons (c_mt G_Net_read (hr.mono (by decide)) (pv 1) (pa_cons (pv 9) pa_nil)) (pa_cons (c_fn G__law_read (hr.mono (by decide)) (pa_cons (pv 2) (pa_cons (pv 3) (pa_cons (pv 4) (pa_cons (pv 5) (pa_cons (pv 9) pa_nil)))))) pa_nil)))))))) pss_nil)
      (pss_cons (ps_if (pt_cmpR op_eq (pe_op op_mod (pe_callTy cb_int (by rfl) m_int b_int (pa_cons (pv 8) pa_nil)) pe_int) pe_int (nomark _)) (pss_cons (ps_expr (pe_bmK (K := K) rfl PySem.F.plainAttrs_list PySem.F.slot_list_append PySem.F.type_list_append mt_append (pv 5) (pa_cons (pe_tup (pa_cons pe_str (pa_cons (pe_dget (hu_of hr) (pv 3) (pv 7) (by intro _ _; rfl)) (pa_cons (pv 7) pa_nil)))) pa_nil)))
      (pss_one (ps_ret (c_fn G__law_same (hr.mono (by decide)) (pa_cons (c_mt G_Net_tell (hr.mono (by decide)) (pv 1) (pa_cons (pv 7) pa_nil)) (pa_cons (pe_tup (pa_cons pe_str (pa_cons (pe_dget (hu_of hr) (pv 3) (pv 7) (by intro _ _; rfl)) (pa_cons (pv 7) pa_nil)))) pa_nil)))))) pss_nil)
      (pss_cons (ps_expr (pe_bmK (K := K) rfl PySem.F.plainAttrs_list PySem.F.slot_list_append PySem.F.type_list_append mt_append (pv 5) (pa_cons (pe_tup (pa_cons pe_str (pa_cons (pe_dget (hu_of hr) (pv 3) (pv 7) (by intro _ _; rfl)) (pa_cons (pv 7) pa_nil)))) pa_nil)))
      (pss_one (ps_ret (c_fn G__law_same (hr.mono (by decide)) (pa_cons (c_mt G_Net_ask (hr.mono (by decide)) (pv 1) (pa_cons (pv 7) pa_nil)) (pa_cons (pe_tup (pa_cons pe_str (pa_cons (pe_dget (hu_of hr) (pv 3) (pv 7) (by intro _ _; rfl)) (pa_cons (pv 7) pa_nil)))) pa_nil))))))))))), ?_⟩
    (try simp only [cxK, cxKX, List.map])
    refine ent (σ' := [some _, some _, some _, some _, some _, some _, none, none, none, none]) rfl ?_
    obtain ⟨dn_dp, dk_dp, dn_tp, dk_tp, dp_tp⟩ := W.ne
    obtain ⟨kn, hn, dN⟩ := W.tab.nx
    obtain ⟨kb, hb, dB⟩ := W.tab.bf
    obtain ⟨lv, hl, ls⟩ := W.tab.ls
    obtain ⟨dx, hp⟩ := W.net.ob
    have hlen := ok.hl
    have lvl := ls.len
    have fin : ∀ {N' : NS} {H3 : Hp} {t1 t2 : Addr} {vs : List V} {E : XK}, H3 t1 = some (.tup vs) → H3 t2 = some (.tup vs) → vs.all flatR = true → vs.length ≤ 100000 → Small N N' → N'.post.length ≤ 60 → WW CNet H3 A N' N' → Fr A.all H H3 → spSame 4 [.ref t1, .ref t2] H3 Q E :=
      fun e1 e2 fl hl st pl w f => i_sameT e1 e2 fl hl fun H4 f4 => k _ H4 st pl (w.ex0 f4) (f.trans f4.up)
    k_offL
    refine r_sortD (.inl hn) dN ok.ascF (by omega) fun l1 H1 n1 e1 f1 => ?_
    have W1 := W.ex0 f1
    obtain ⟨_, _, _, _, _, tt1, _⟩ := W.tape.ex
    have h1t : l1 ≠ A.tp := (ne_of_none tt1 n1).symm
    k_offL
    refine r_lenL (sqL_of e1) ?_
    rw [List.length_map]
    k_offL
    refine i_pick W1.tape (by omega) (by omega) fun m2 H2 a2 b2 t2 f2 => ?_
    have W2 := W1.tape' f2 t2
    have g2 : m2.toNat < N.hs.length := by omega
    have e12 : H2 l1 = some (.lst (N.hs.map V.int)) := f2.at_ _ _ e1 (mem_one h1t)
    refine r_ixL (sqL_of e12) (ix_at m2.toNat (by omega) (ints_get g2)) ?_
    have hh : N.hs[m2.toNat] ∈ N.hs := List.getElem_mem g2
    revert hh
    generalize N.hs[m2.toNat] = h0
    intro hh
    k_offL
    refine i_pick W2.tape (by decide) (by decide) fun kind H3 a3 b3 t3 f3 => ?_
    have W3 := W2.tape' f3 t3
    have fr3 : Fr A.all H H3 := f1.up.trans ((f2.trans f3).tape)
    have hn3 : H3 A.dn = some (.dK kn) := f3.at_ _ _ (f2.at_ _ _ (f1.at_ _ _ hn List.not_mem_nil) (mem_one dn_tp)) (mem_one dn_tp)
    have hl3 : H3 A.dp = some (.lst lv) := f3.at_ _ _ (f2.at_ _ _ (f1.at_ _ _ hl List.not_mem_nil) (mem_one dp_tp)) (mem_one dp_tp)
    have hp3 := W3.net.ob
    obtain ⟨dx3, hp3⟩ := hp3
    k_places
    refine q_if ?_
    refine cutT (t := tOr _ _) (fun b H' => H' = H3 ∧ ((b = true ∧ 0 < N.post.length) ∨ (b = false ∧ N.post.length < 60))) (fun R kR => ?_) ?_
    · k_offL
      refine r_lenL (sqL_of hl3) ?_
      rw [lvl]
      k_offL
      refine ifD (fun e => kR _ _ ⟨rfl, .inl ⟨rfl, by omega⟩⟩) (fun e => ?_)
      k_offL
      refine ifD (fun e2 => ?_) (fun e2 => kR _ _ ⟨rfl, .inr ⟨rfl, by omega⟩⟩)
      k_offL
      refine r_lenL (sqL_of hl3) ?_
      rw [lvl]
      k_offL
      by_cases e3 : (0 : Int) < N.post.length
      · rw [decide_eq_true e3]; exact kR _ _ ⟨rfl, .inl ⟨rfl, by omega⟩⟩
      · rw [decide_eq_false e3]; exact kR _ _ ⟨rfl, .inr ⟨rfl, by omega⟩⟩
    rintro b _ ⟨rfl, hb⟩
    rcases hb with ⟨rfl, h60⟩ | ⟨rfl, h60⟩
    · -- something in the post
      k_offL
      refine r_lenL (sqL_of hl3) ?_
      rw [lvl]
      k_offL
      refine i_pick W3.tape (by omega) (by omega) fun at_ H4 a4 b4 t4 f4 => ?_
      have W4 := W3.tape' f4 t4
      have fr4 : Fr A.all H H4 := fr3.trans f4.tape
      have hl4 : H4 A.dp = some (.lst lv) := f4.at_ _ _ hl3 (mem_one dp_tp)
      obtain ⟨j, rfl⟩ : ∃ j : Nat, at_ = (j : Int) := ⟨at_.toNat, by omega⟩
      have hj : j < N.post.length := by omega
      have hpj := List.getElem?_eq_getElem hj
      revert hpj
      generalize N.post[j] = l
      intro hpj
      obtain ⟨lv', hl4', ls4⟩ := W4.tab.ls
      obtain rfl : lv = lv' := HO.lst.inj (Option.some.inj (hl4.symm.trans hl4'))
      obtain ⟨tj, htj, hTj⟩ := ls4.at_ j l hpj
      obtain ⟨dx4, hp4⟩ := W4.net.ob
      k_offL
      refine ifD (fun e4 => ?_) (fun e4 => ?_)
      · k_offL
        refine ⟨A.p, A.da, A.db, A.dl, N, j, l, rfl, W4.net, hpj, ok, fun t5 H5 e5 hN5 f5 => ?_⟩
        have W5 := W4.net' f5.dl hN5
        have hl5 : H5 A.dp = some (.lst lv) := f5.dl.at_ _ _ hl4 W.off.2.2
        k_offL
        refine r_popAt hl5 htj (by omega) fun H6 e6 f6 => ?_
        k_offL
        have W6 := W5.tab' f6.dp (W5.tab.pop hl5 e6 f6 dn_dp dk_dp)
        exact fin (f6.tp _ _ e5) (f6.tp _ _ (f5.tp _ _ hTj)) (lt_flat l) (by have := lt_len l; omega) (.del N j) (by have := del_len hpj; omega) W6 ((fr4.trans f5.dl.net).trans f6.dp.tab)
      · k_places
        refine q_if ?_
        refine cutT (t := tAnd _ _) (fun b H' => H' = H4 ∧ (b = true → N.post.length < 60)) (fun R kR => ?_) ?_
        · k_offL
          refine ifD (fun e => ?_) (fun e => kR _ _ ⟨rfl, fun z => nomatch z⟩)
          k_offL
          refine r_lenL (sqL_of hl4) ?_
          rw [lvl]
          k_offL
          exact kR _ _ ⟨rfl, fun z => by have := of_decide_eq_true z; omega⟩
        rintro b _ ⟨rfl, hb⟩
        cases b with
        | true =>
          have hb := hb rfl
          k_offL
          refine r_ixL (sqL_of hl4) (atI_nat htj) ?_
          k_offL
          refine r_app hl4 (by omega) fun H5 e5 f5 => ?_
          have W5 := W4.tab' f5.dp (W4.tab.push hl4 (Fr.refl _ _) hTj e5 f5 dn_dp dk_dp)
          obtain ⟨dx5, hp5⟩ := W5.net.ob
          k_offL
          refine ⟨A.p, A.da, A.db, A.dl, N, j, l, rfl, W5.net, hpj, ok, fun t6 H6 e6 hN6 f6 => ?_⟩
          have W6 := W5.net' f6.dl hN6
          have e56 := f6.dl.at_ _ _ e5 W.off.2.2
          have g56 : (lv ++ [V.ref tj])[j]? = some (V.ref tj) := by rw [List.getElem?_append_left (by omega)]; exact htj
          k_offL
          refine r_ixL (sqL_of e56) (atI_nat g56) ?_
          k_offL
          exact fin e6 (f6.tp _ _ (f5.tp _ _ hTj)) (lt_flat l) (by have := lt_len l; omega) (.dup N l (List.mem_of_getElem? hpj) (by omega)) (by rw [push_len]; omega) W6 ((fr4.trans f5.dp.tab).trans f6.dl.net)
        | false =>
          k_offL
          refine ⟨A.p, A.da, A.db, A.dl, N, j, l, rfl, W4.net, hpj, ok, fun t5 H5 e5 hN5 f5 => ?_⟩
          have W5 := W4.net' f5 hN5
          k_offL
          refine ⟨A.dn, A.dk, A.dp, N, j, l, (), (), (), rfl, W5.tab, ok, hpj, fun t6 H6 e6 T6 f6 => ?_⟩
          have W6 := W5.tab' f6 T6
          k_offL
          exact fin (f6.tp _ _ e5) e6 (read_flat _ l) (by rw [show (N.read j l).2.length = 3 from readL_vs (N.del j) l]; decide) (.read N j l hpj) (by have := read_len hpj; omega) W6 ((fr4.trans f5.net).trans f6.tab)
    · -- a new letter
      k_offL
      refine ifD (fun e => ?_) (fun e => ?_)
      · k_offL
        refine dgetk (.inl hn3) (by rw [dN.val, NS.mf_at hh]) ?_
        k_offL
        refine tupk (by show 3 ≤ 100000; decide) fun t4 H4 n4 e4 f4 => ?_
        have hl4 := f4.at_ _ _ hl3 List.not_mem_nil
        k_offL
        refine r_app hl4 (by omega) fun H5 e5 f5 => ?_
        have W5 := W3.tab' (f4.up.trans f5.dp) (W3.tab.push (l := .tell (N.f h0) h0) hl3 f4 e4 e5 f5 dn_dp dk_dp)
        obtain ⟨dx5, hp5⟩ := W5.net.ob
        obtain ⟨kn5, hn5, dN5⟩ := W5.tab.nx
        k_offL
        refine ⟨A.p, A.da, A.db, A.dl, N, h0, rfl, W5.net, hh, ok, fun t6 H6 e6 hN6 f6 => ?_⟩
        have W6 := W5.net' f6.dl hN6
        have hn6 := f6.dl.at_ _ _ hn5 W.off.1
        k_offL
        refine dgetk (.inl hn6) (by rw [dN5.val]; exact NS.mf_at hh) ?_
        k_offL
        refine tupk (by show 3 ≤ 100000; decide) fun t7 H7 n7 e7 f7 => ?_
        k_offL
        exact fin (f7.tp _ _ e6) e7 (lt_flat (.tell (N.f h0) h0)) (by have := lt_len (.tell (N.f h0) h0); omega) (.tell N h0 hh (by omega)) (by rw [push_len]; omega) (W6.ex0 f7) (((fr3.trans (f4.up.trans f5.dp).tab).trans f6.dl.net).trans f7.up)
      · k_offL
        refine dgetk (.inl hn3) (by rw [dN.val, NS.mf_at hh]) ?_
        k_offL
        refine tupk (by show 3 ≤ 100000; decide) fun t4 H4 n4 e4 f4 => ?_
        have hl4 := f4.at_ _ _ hl3 List.not_mem_nil
        k_offL
        refine r_app hl4 (by omega) fun H5 e5 f5 => ?_
        have W5 := W3.tab' (f4.up.trans f5.dp) (W3.tab.push (l := .ask (N.f h0) h0) hl3 f4 e4 e5 f5 dn_dp dk_dp)
        obtain ⟨dx5, hp5⟩ := W5.net.ob
        obtain ⟨kn5, hn5, dN5⟩ := W5.tab.nx
        k_offL
        refine ⟨A.p, A.da, A.db, A.dl, N, h0, rfl, W5.net, hh, ok, fun t6 H6 e6 hN6 f6 => ?_⟩
        have W6 := W5.net' f6.dl hN6
        have hn6 := f6.dl.at_ _ _ hn5 W.off.1
        k_offL
        refine dgetk (.inl hn6) (by rw [dN5.val]; exact NS.mf_at hh) ?_
        k_offL
        refine tupk (by show 3 ≤ 100000; decide) fun t7 H7 n7 e7 f7 => ?_
        k_offL
        exact fin (f7.tp _ _ e6) e7 (lt_flat (.ask (N.f h0) h0)) (by have := lt_len (.ask (N.f h0) h0); omega) (.ask N h0 hh (by omega)) (by rw [push_len]; omega) (W6.ex0 f7) (((fr3.trans (f4.up.trans f5.dp).tab).trans f6.dl.net).trans f7.up)
end
end RL
set_option synthInstance.maxHeartbeats 4000000
set_option synthInstance.maxSize 4000
namespace RL
section
variable {N M : NS} {l : LT} {h v u x : Int} {hs : List Int}
theorem push_del : (N.push l).del N.post.length = N := by
  have : (N.post ++ [l]).eraseIdx N.post.length = N.post := by
    rw [List.eraseIdx_append_of_length_le (Nat.le_refl _), Nat.sub_self]
    show N.post ++ [] = _
    rw [List.append_nil]
  show { N with post := (N.post ++ [l]).eraseIdx N.post.length } = N
  rw [this]
theorem push_read : (N.push l).read N.post.length l = N.readL l := by
  show ((N.push l).del N.post.length).readL l = _
  rw [push_del]
theorem push_at : (N.push l).post[N.post.length]? = some l := by
  show (N.post ++ [l])[N.post.length]? = _
  rw [List.getElem?_append_right (Nat.le_refl _), Nat.sub_self]
  rfl
def NS.ct (N : NS) (h : Int) : NS := (N.readL (.tell (N.f h) h)).1
def NS.cond (N : NS) (h : Int) : Bool := match N.b (N.f h) with
  | none => true
  | some x => btw N.size x h (N.f h)
theorem ct_eq : N.ct h = if N.cond h = true then N.setB (N.f h) (some h) else N := by
  unfold NS.ct NS.cond
  simp only [NS.readL]
  cases e : N.b (N.f h) with
  | none => rfl
  | some x => simp only []; split <;> rfl
def NS.ca (N : NS) (h : Int) : NS := match N.b (N.f h) with
  | none => N
  | some x => (N.readL (.ans h (N.f h) x)).1
def NS.cn (N : NS) (h : Int) : Int := match N.b (N.f h) with
  | none => 0
  | some x => if btw N.size h x (N.f h) = true then 1 else 0
theorem ca_eq (e : N.b (N.f h) = some x) : N.ca h = (if btw N.size h x (N.f h) = true then N.setF h x else N) ∧ N.cn h = if btw N.size h x (N.f h) = true then 1 else 0 := by
  unfold NS.ca NS.cn
  rw [e]
  refine ⟨?_, rfl⟩
  show (if N.f h = N.f h ∧ btw N.size h x (N.f h) = true then (N.setF h x, _) else (N, _)).1 = _
  by_cases q : btw N.size h x (N.f h) = true
  · rw [if_pos ⟨rfl, q⟩, if_pos q]
  · rw [if_neg fun z => q z.2, if_neg q]
def NS.cts (N : NS) (l : List Int) : NS := l.foldl NS.ct N
def NS.cas (N : NS) (l : List Int) : NS × Int := l.foldl (fun p h => (p.1.ca h, p.2 + p.1.cn h)) (N, 0)
def NS.calm (N : NS) : NS × Int := (N.cts N.hs).cas N.hs
theorem cts_snoc {l : List Int} : N.cts (l ++ [h]) = (N.cts l).ct h := by unfold NS.cts; rw [List.foldl_append]; rfl
theorem cas_snoc {l : List Int} : N.cas (l ++ [h]) = ((N.cas l).1.ca h, (N.cas l).2 + (N.cas l).1.cn h) := by unfold NS.cas; rw [List.foldl_append]; rfl
structure CtOk (N M : NS) : Prop where
  f : M.f = N.f
  hs : M.hs = N.hs
  z : M.size = N.size
  po : M.post = N.post
  ok : M.Ok
  st : Steps N M
theorem ct_steps (ok : N.Ok) (m : h ∈ N.hs) (q : N.post.length < 1000) : Steps N (N.ct h) := by
  have a := Small.tell N h m q
  have b := Small.read _ _ _ (push_at (N := N) (l := .tell (N.f h) h))
  rw [push_read] at b
  exact .more (.one a) b
theorem CtOk.refl (ok : N.Ok) : CtOk N N := ⟨rfl, rfl, rfl, rfl, ok, .refl N⟩
theorem CtOk.more (c : CtOk N M) (m : h ∈ N.hs) (q : N.post.length < 1000) : CtOk N (M.ct h) := by
  have m' : h ∈ M.hs := c.hs ▸ m
  have s := ct_steps c.ok m' (by rw [c.po]; exact q)
  refine ⟨?_, ?_, ?_, ?_, s.ok c.ok, c.st.trans s⟩ <;> (rw [ct_eq]; split)
  · exact c.f
  · exact c.f
  · exact c.hs
  · exact c.hs
  · exact c.z
  · exact c.z
  · exact c.po
  · exact c.po
theorem cts_ok (ok : N.Ok) (q : N.post.length < 1000) (l : List Int) (hl : ∀ h ∈ l, h ∈ N.hs) : ∀ i, CtOk N (N.cts (l.take i))
  | 0 => by rw [List.take_zero]; exact .refl ok
  | i + 1 => by
    have ih := cts_ok ok q l hl i
    by_cases hi : i < l.length
    · rw [take_get hi, cts_snoc]; exact ih.more (hl _ (List.getElem_mem hi)) q
    · rw [List.take_of_length_le (by omega)] at ih ⊢; exact ih
theorem ct_some {y : Int} (e : (N.b y).isSome = true) : ((N.ct h).b y).isSome = true := by
  rw [ct_eq]
  split
  · show (if y = N.f h then some h else N.b y).isSome = true
    split
    · rfl
    · exact e
  · exact e
theorem ct_here : ((N.ct h).b (N.f h)).isSome = true := by
  rw [ct_eq]
  split
  · show (if N.f h = N.f h then some h else N.b (N.f h)).isSome = true
    rw [if_pos rfl]; rfl
  · rename_i q
    unfold NS.cond at q
    cases e : N.b (N.f h) with
    | none => rw [e] at q; exact absurd rfl q
    | some x => rfl
theorem cts_some (ok : N.Ok) (q : N.post.length < 1000) (l : List Int) (hl : ∀ h ∈ l, h ∈ N.hs) : ∀ i, ∀ h ∈ l.take i, ((N.cts (l.take i)).b (N.f h)).isSome = true
  | 0 => fun h hh => by rw [List.take_zero] at hh; cases hh
  | i + 1 => fun h hh => by
    have ih := cts_some ok q l hl i
    by_cases hi : i < l.length
    · rw [take_get hi] at hh ⊢
      rw [cts_snoc]
      rcases List.mem_append.mp hh with z | z
      · exact ct_some (ih h z)
      · rw [List.mem_singleton.mp z, ← (cts_ok ok q l hl i).f]; exact ct_here
    · rw [List.take_of_length_le (by omega)] at ih hh ⊢; exact ih h hh
structure CaOk (N M : NS) (done : List Int) : Prop where
  b : M.b = N.b
  hs : M.hs = N.hs
  z : M.size = N.size
  po : M.post = N.post
  f : ∀ h, h ∉ done → M.f h = N.f h
  ok : M.Ok
  st : Steps N M
theorem CaOk.refl (ok : N.Ok) : CaOk N N [] := ⟨rfl, rfl, rfl, rfl, fun _ _ => rfl, ok, .refl N⟩
theorem ca_steps (ok : N.Ok) (m : h ∈ N.hs) (q : N.post.length < 1000) (e : N.b (N.f h) = some x) : Steps N (N.ca h) := by
  have a := Small.ask N h m q
  have b := Small.read _ _ _ (push_at (N := N) (l := .ask (N.f h) h))
  rw [push_read] at b
  have e2 : (N.readL (.ask (N.f h) h)).1 = N.push (.ans h (N.f h) x) := by simp only [NS.readL, e]
  rw [e2] at b
  have c := Small.read _ _ _ (push_at (N := N) (l := .ans h (N.f h) x))
  rw [push_read] at c
  unfold NS.ca
  rw [e]
  exact .more (.more (.one a) b) c
theorem CaOk.more {done : List Int} (c : CaOk N M done) (m : h ∈ N.hs) (n : h ∉ done) (q : N.post.length < 1000) (e : N.b (N.f h) = some x) : CaOk N (M.ca h) (done ++ [h]) := by
  have m' : h ∈ M.hs := c.hs ▸ m
  have e' : M.b (M.f h) = some x := by rw [c.f h n, c.b]; exact e
  have s := ca_steps c.ok m' (by rw [c.po]; exact q) e'
  have hf : ∀ y, y ∉ done ++ [h] → y ∉ done ∧ y ≠ h := fun y hy => ⟨fun z => hy (List.mem_append_left _ z), fun z => hy (List.mem_append_right _ (List.mem_singleton.mpr z))⟩
  refine ⟨?_, ?_, ?_, ?_, ?_, s.ok c.ok, c.st.trans s⟩ <;> (rw [(ca_eq e').1]; split)
  · exact c.b
  · exact c.b
  · exact c.hs
  · exact c.hs
  · exact c.z
  · exact c.z
  · exact c.po
  · exact c.po
  · exact fun y hy => by
      show (if y = h then x else M.f y) = _
      rw [if_neg (hf y hy).2]; exact c.f y (hf y hy).1
  · exact fun y hy => c.f y (hf y hy).1
theorem not_took {l : List Int} (nd : l.Nodup) {i : Nat} (hi : i < l.length) : l[i] ∉ l.take i := fun hc => by
  obtain ⟨i', hi', e'⟩ := List.mem_iff_getElem.mp hc
  rw [List.length_take] at hi'
  rw [List.getElem_take] at e'
  have : i' = i := nd_ix nd (by rw [List.getElem?_eq_getElem (by omega), e']) (List.getElem?_eq_getElem hi)
  omega
theorem cas_ok (ok : N.Ok) (q : N.post.length < 1000) (l : List Int) (nd : l.Nodup) (hl : ∀ h ∈ l, h ∈ N.hs ∧ (N.b (N.f h)).isSome = true) : ∀ i, CaOk N (N.cas (l.take i)).1 (l.take i)
  | 0 => by rw [List.take_zero]; exact .refl ok
  | i + 1 => by
    have ih := cas_ok ok q l nd hl i
    by_cases hi : i < l.length
    · obtain ⟨h1, h2⟩ := hl _ (List.getElem_mem hi)
      obtain ⟨x, hx⟩ := Option.isSome_iff_exists.mp h2
      rw [take_get hi, cas_snoc]; exact ih.more h1 (not_took nd hi) q hx
    · rw [List.take_of_length_le (by omega)] at ih ⊢; exact ih
theorem calm_ok (ok : N.Ok) (q : N.post.length < 1000) : CtOk N (N.cts N.hs) ∧ (∀ h ∈ N.hs, ((N.cts N.hs).b (N.f h)).isSome = true) ∧ Steps N N.calm.1 ∧ N.calm.1.post = N.post := by
  have a := cts_ok ok q N.hs (fun _ h => h) N.hs.length
  have b := cts_some ok q N.hs (fun _ h => h) N.hs.length
  rw [List.take_length] at a b
  have c := cas_ok a.ok (by rw [a.po]; exact q) N.hs ok.nd (fun h hh => ⟨by rw [a.hs]; exact hh, by rw [a.f]; exact b h hh⟩) N.hs.length
  rw [List.take_length] at c
  exact ⟨a, b, a.st.trans c.st, c.po.trans a.po⟩
end
end RL
set_option synthInstance.maxHeartbeats 4000000
set_option synthInstance.maxSize 4000
namespace RL
def NS.emp (N : NS) : NS := { N with post := [] }
section
variable {N : NS} {h v u x : Int}
theorem NS.Ok.emp (ok : N.Ok) : N.emp.Ok := ⟨ok.s0, ok.s1, ok.up, ok.on, ok.fh, ok.bh, (fun _ h => nomatch h), ok.hl, Nat.zero_le _⟩
theorem emp_tell : (N.emp.readL (.tell v u)).1 = (N.readL (.tell v u)).1.emp := by
  simp only [NS.readL]
  show (match N.b v with | none => _ | some b => _ : NS × List V).1 = _
  cases N.b v with
  | none => rfl
  | some b =>
    simp only []
    show (if btw N.size b u v = true then _ else _ : NS × List V).1 = _
    split <;> rfl
theorem emp_ans : (N.emp.readL (.ans u v x)).1 = (N.readL (.ans u v x)).1.emp := by
  show (if N.f u = v ∧ btw N.size u x v = true then _ else _ : NS × List V).1 = (if N.f u = v ∧ btw N.size u x v = true then _ else _ : NS × List V).1.emp
  split <;> rfl
theorem emp_ask (e : N.b v = some x) : (N.emp.readL (.ask v u)).1 = N.emp.push (.ans u v x) := by
  simp only [NS.readL]
  show (match N.b v with | none => _ | some b => _ : NS × List V).1 = _
  rw [e]
end
end RL
set_option synthInstance.maxHeartbeats 4000000
set_option synthInstance.maxSize 4000
namespace RL
structure NS.Say (N : NS) : Prop where
  sb : ∀ v u, N.b v = some u → Tr N.size N.f u v (far N.size u v)
  st : ∀ r s, LT.tell r s ∈ N.post → Tr N.size N.f s r (far N.size s r)
  sa : ∀ u v x, LT.ans u v x ∈ N.post → Tr N.size N.f x v (far N.size x v)
structure PrIs (H : Hp) (ps : List (Int × Int)) (lv : List V) : Prop where
  len : lv.length = ps.length
  at_ : ∀ (i : Nat) p, ps[i]? = some p → ∃ t, lv[i]? = some (.ref t) ∧ H t = some (.tup [.int p.1, .int p.2])
section
variable {H H' : Hp} {M : List Addr} {ps : List (Int × Int)} {lv : List V} {p : Int × Int} {t : Addr}
theorem PrIs.nil : PrIs H [] [] := ⟨rfl, fun i l h => by simp at h⟩
theorem PrIs.fr (x : PrIs H ps lv) (f : Fr M H H') : PrIs H' ps lv := ⟨x.len, fun i l h => let ⟨t, a, b⟩ := x.at_ i l h; ⟨t, a, f.tp _ _ b⟩⟩
theorem PrIs.snoc (x : PrIs H ps lv) (h : H t = some (.tup [.int p.1, .int p.2])) : PrIs H (ps ++ [p]) (lv ++ [.ref t]) := by
  refine ⟨by rw [List.length_append, List.length_append, x.len]; rfl, fun i m e => ?_⟩
  by_cases hi : i < ps.length
  · rw [List.getElem?_append_left hi] at e
    obtain ⟨u, a, b⟩ := x.at_ i m e
    exact ⟨u, by rw [List.getElem?_append_left (by rw [x.len]; exact hi)]; exact a, b⟩
  · rw [List.getElem?_append_right (by omega)] at e
    have h0 : i - ps.length = 0 := by
      cases hk : i - ps.length with
      | zero => rfl
      | succ k => rw [hk] at e; simp at e
    rw [h0] at e
    have e' : p = m := Option.some.inj e
    subst e'
    exact ⟨t, by rw [List.getElem?_append_right (by rw [x.len]; omega), x.len, h0]; rfl, h⟩
theorem PrIs.set (x : PrIs H ps lv) (i : Nat) (h : H t = some (.tup [.int p.1, .int p.2])) : PrIs H (ps.set i p) (lv.set i (.ref t)) := by
  refine ⟨by rw [List.length_set, List.length_set, x.len], fun j m e => ?_⟩
  rw [List.getElem?_set] at e ⊢
  by_cases hi : i = j
  · rw [if_pos hi] at e ⊢
    by_cases hl : i < ps.length
    · rw [if_pos hl] at e
      cases e
      rw [if_pos (by rw [x.len]; exact hl)]
      exact ⟨t, rfl, h⟩
    · rw [if_neg hl] at e; cases e
  · rw [if_neg hi] at e ⊢
    exact x.at_ j m e
end
end RL
set_option synthInstance.maxHeartbeats 4000000
set_option synthInstance.maxSize 4000
namespace RL
theorem rise (ps : List Int) (nd : ps.Nodup) : ∃ hs : List Int, hs.Pairwise (· < ·) ∧ hs.Perm ps := by
  have p := List.mergeSort_perm ps (fun a b => decide (a ≤ b))
  refine ⟨_, up_of_sorted ?_ (p.nodup_iff.mpr nd), p⟩
  exact (List.pairwise_mergeSort (le := fun a b => decide (a ≤ b)) (fun a b c h1 h2 => by simp at *; omega) (fun a b => by simp; omega) ps).imp fun h => by simpa using h
theorem r_cat {H : Hp} {Q : VK} {l b : Addr} {xs zs : List V} (h1 : H l = some (.lst xs)) (h2 : H b = some (.lst zs)) (hz : xs.length + zs.length ≤ 100000) (q : ∀ p H', H p = none → H' p = some (.lst (xs ++ zs)) → Fr [] H H' → Q (.ref p) H') : rCat (.ref l) (.ref b) H Q := ⟨l, b, xs, zs, rfl, rfl, h1, h2, small hz, newk q⟩
structure Keep (N N' : NS) : Prop where
  z : N'.size = N.size
  hs : ∀ h ∈ N.hs, h ∈ N'.hs
  tr : ∀ a e s, a ∈ N.hs → Tr N.size N.f a e s → Tr N.size N'.f a e s
section
variable {N N' N'' : NS} {q o : Int × Int} {l : LT} {x y : Int} {hs' : List Int}
theorem Keep.refl (N : NS) : Keep N N := ⟨rfl, fun _ h => h, fun _ _ _ _ t => t⟩
theorem Keep.trans (a : Keep N N') (b : Keep N' N'') : Keep N N'' := ⟨b.z.trans a.z, fun h m => b.hs h (a.hs h m), fun u e s m t => by
  have := b.tr u e s (a.hs u m)
  rw [a.z] at this
  exact this (a.tr u e s m t)⟩
theorem readL_say (h0 : 0 < N.size) (say : N.Say) (ht : ∀ r s, l = .tell r s → Tr N.size N.f s r (far N.size s r)) (ha : ∀ u v x, l = .ans u v x → Tr N.size N.f x v (far N.size x v)) : (N.readL l).1.Say ∧ Keep N (N.readL l).1 := by
  cases l with
  | tell v u =>
    have t := ht v u rfl
    have put : (N.setB v (some u)).Say ∧ Keep N (N.setB v (some u)) := ⟨⟨fun v' u' e => by
      have e' : (if v' = v then some u else N.b v') = some u' := e
      by_cases c : v' = v
      · rw [if_pos c] at e'; cases e'; rw [c]; exact t
      · rw [if_neg c] at e'; exact say.sb v' u' e', say.st, say.sa⟩, ⟨rfl, fun _ h => h, fun _ _ _ _ t => t⟩⟩
    simp only [NS.readL]
    split
    · exact put
    · split
      · exact put
      · exact ⟨say, .refl N⟩
  | ask v u =>
    simp only [NS.readL]
    split
    · exact ⟨say, .refl N⟩
    · rename_i x e
      refine ⟨⟨say.sb, fun r s m => ?_, fun u' v' x' m => ?_⟩, ⟨rfl, fun _ h => h, fun _ _ _ _ t => t⟩⟩
      · rcases List.mem_append.mp m with c | c
        · exact say.st r s c
        · cases List.mem_singleton.mp c
      · rcases List.mem_append.mp m with c | c
        · exact say.sa u' v' x' c
        · cases List.mem_singleton.mp c; exact say.sb v x e
  | ans u v x =>
    have t := ha u v x rfl
    simp only [NS.readL]
    split
    · rename_i c
      obtain ⟨c1, c2⟩ := c
      subst c1
      have kp : ∀ a e s, Tr N.size N.f a e s → Tr N.size (N.setF u x).f a e s := fun a e s z => Tr.part h0 c2 t (fun h hn => if_neg hn) (if_pos rfl) z
      exact ⟨⟨fun v' u' e => kp _ _ _ (say.sb v' u' e), fun r s m => kp _ _ _ (say.st r s m), fun u' v' x' m => kp _ _ _ (say.sa u' v' x' m)⟩, ⟨rfl, fun _ h => h, fun _ _ _ _ t => kp _ _ _ t⟩⟩
    · exact ⟨say, .refl N⟩
theorem push_say (say : N.Say) (ht : ∀ r s, l = .tell r s → Tr N.size N.f s r (far N.size s r)) (ha : ∀ u v x, l = .ans u v x → Tr N.size N.f x v (far N.size x v)) : (N.push l).Say ∧ Keep N (N.push l) := by
  refine ⟨⟨say.sb, fun r s m => ?_, fun u v x m => ?_⟩, ⟨rfl, fun _ h => h, fun _ _ _ _ t => t⟩⟩
  · rcases List.mem_append.mp m with c | c
    · exact say.st r s c
    · exact ht r s (List.mem_singleton.mp c).symm
  · rcases List.mem_append.mp m with c | c
    · exact say.sa u v x c
    · exact ha u v x (List.mem_singleton.mp c).symm
theorem Small.good (s : Small N N') (ok : N.Ok) (say : N.Say) : N'.Say ∧ Keep N N' := by
  cases s with
  | tell h m q => exact push_say say (fun r s e => by cases e; exact Tr.one) (fun _ _ _ e => nomatch e)
  | ask h m q => exact push_say say (fun _ _ e => nomatch e) (fun _ _ _ e => nomatch e)
  | dup l m q => exact push_say say (fun r s e => say.st r s (e ▸ m)) (fun u v x e => say.sa u v x (e ▸ m))
  | del i => exact ⟨⟨say.sb, fun r s m => say.st r s (List.mem_of_mem_eraseIdx m), fun u v x m => say.sa u v x (List.mem_of_mem_eraseIdx m)⟩, ⟨rfl, fun _ h => h, fun _ _ _ _ t => t⟩⟩
  | read i l m =>
    have hm := List.mem_of_getElem? m
    have sd : (N.del i).Say := ⟨say.sb, fun r s m => say.st r s (List.mem_of_mem_eraseIdx m), fun u v x m => say.sa u v x (List.mem_of_mem_eraseIdx m)⟩
    obtain ⟨a, b⟩ := readL_say (N := N.del i) (l := l) ok.s0 sd (fun r s e => say.st r s (e ▸ hm)) (fun u v x e => say.sa u v x (e ▸ hm))
    exact ⟨a, ⟨b.z, b.hs, b.tr⟩⟩
theorem Steps.good (s : Steps N N') (ok : N.Ok) (say : N.Say) : N'.Say ∧ Keep N N' := by
  induction s with
  | refl => exact ⟨say, .refl _⟩
  | more a c ih =>
    obtain ⟨s1, k1⟩ := ih
    obtain ⟨s2, k2⟩ := c.good (a.ok ok) s1
    exact ⟨s2, k1.trans k2⟩
theorem admit_ok (ok : N.Ok) (hy : y ∉ N.hs) (hx : x = y ∨ x ∈ N.hs) (y0 : 0 ≤ y) (y1 : y < N.size) (hp : hs'.Pairwise (· < ·)) (hm : ∀ h, h ∈ hs' ↔ h = y ∨ h ∈ N.hs) (hl : hs'.length ≤ 45) : (N.admit y x hs').Ok :=
  ⟨ok.s0, ok.s1, hp, fun h hh => by
    rcases (hm h).mp hh with e | e
    · rw [e]; exact ⟨y0, y1⟩
    · exact ok.on h e, fun h hh => by
    show (if h = y then x else N.f h) ∈ hs'
    split
    · exact (hm x).mpr hx
    · rename_i c
      exact (hm _).mpr (.inr (ok.fh h (((hm h).mp hh).resolve_left c))), fun h z e => ⟨(hm h).mpr (.inr (ok.bh h z e).1), (hm z).mpr (.inr (ok.bh h z e).2)⟩, fun l hl z hz => (hm z).mpr (.inr (ok.ph l hl z hz)), hl, ok.pl⟩
theorem admit_tr (ok : N.Ok) (hy : y ∉ N.hs) {a e s : Int} (ha : a ∈ N.hs) (t : Tr N.size N.f a e s) : Tr N.size (N.admit y x hs').f a e s := by
  obtain ⟨n, n1, e1, e2⟩ := t
  obtain ⟨c1, c2⟩ := it_cong (size := N.size) (f := N.f) (g := (N.admit y x hs').f) (u := y) (fun h hn => if_neg hn) (n := n) (x := a) fun i _ c => hy (c ▸ it_mem ok.fh ha)
  exact ⟨n, n1, c1.trans e1, c2.trans e2⟩
theorem admit_good (ok : N.Ok) (say : N.Say) (hy : y ∉ N.hs) (hm : ∀ h, h ∈ hs' ↔ h = y ∨ h ∈ N.hs) : (N.admit y x hs').Say ∧ Keep N (N.admit y x hs') :=
  ⟨⟨fun v u e => admit_tr ok hy (ok.bh v u e).2 (say.sb v u e), fun r s m => admit_tr ok hy (ok.ph _ m s (by simp [LT.pl])) (say.st r s m), fun u v z m => admit_tr ok hy (ok.ph _ m z (by simp [LT.pl])) (say.sa u v z m)⟩, ⟨rfl, fun h m => (hm h).mpr (.inr m), fun a e s m t => admit_tr ok hy m t⟩⟩
end
theorem WW.mk' {C : Addr} {H : Hp} {A : Ads} {N M : NS} (hN : NetAt C H A.p A.da A.db A.dl N) (hT : TabAt H A.dn A.dk A.dp M) (t : TapeAt H A.tp A.tc) (d1 : A.da ≠ A.dn ∧ A.da ≠ A.dk) (d2 : A.db ≠ A.dn ∧ A.db ≠ A.dk) (d3 : A.dl ≠ A.dp ∧ A.dl ≠ A.tp ∧ A.dl ≠ A.tc) (d4 : A.dp ≠ A.tp ∧ A.dp ≠ A.tc) : WW C H A N M := by
  obtain ⟨dx, hp⟩ := hN.ob
  obtain ⟨_, ha, _⟩ := hN.nx
  obtain ⟨_, hb, _⟩ := hN.bf
  obtain ⟨_, hl, _⟩ := hN.ls
  obtain ⟨_, hn, _⟩ := hT.nx
  obtain ⟨_, hk, _⟩ := hT.bf
  obtain ⟨_, hq, _⟩ := hT.ls
  have tn := t.ne
  obtain ⟨_, _, _, _, _, tt, tcs, _⟩ := t.ex
  refine ⟨hN, hT, t, ?_⟩
  simp only [List.nodup_cons, List.mem_cons, List.not_mem_nil, or_false, not_or, not_false_eq_true, List.nodup_nil, and_true]
  refine ⟨⟨?_, ?_, ?_, ?_, ?_, ?_, ?_, ?_⟩, ⟨hN.ne, ?_, d1.1, d1.2, ?_, ?_, ?_⟩, ⟨?_, d2.1, d2.2, ?_, ?_, ?_⟩, ⟨?_, ?_, d3.1, d3.2.1, d3.2.2⟩, ⟨hT.ne, ?_, ?_, ?_⟩, ⟨?_, ?_, ?_⟩, ⟨d4.1, d4.2⟩, tn.symm⟩
  · exact ne_of hp ha (fun z => nomatch z)
  · exact ne_of hp hb (fun z => nomatch z)
  · exact ne_of hp hl (fun z => nomatch z)
  · exact ne_of hp hn (fun z => nomatch z)
  · exact ne_of hp hk (fun z => nomatch z)
  · exact ne_of hp hq (fun z => nomatch z)
  · exact ne_of hp tt (fun z => nomatch z)
  · exact ne_of hp tcs (fun z => nomatch z)
  · exact ne_of ha hl (fun z => nomatch z)
  · exact ne_of ha hq (fun z => nomatch z)
  · exact ne_of ha tt (fun z => nomatch z)
  · exact ne_of ha tcs (fun z => nomatch z)
  · exact ne_of hb hl (fun z => nomatch z)
  · exact ne_of hb hq (fun z => nomatch z)
  · exact ne_of hb tt (fun z => nomatch z)
  · exact ne_of hb tcs (fun z => nomatch z)
  · exact ne_of hl hn (fun z => nomatch z)
  · exact ne_of hl hk (fun z => nomatch z)
  · exact ne_of hn hq (fun z => nomatch z)
  · exact ne_of hn tt (fun z => nomatch z)
  · exact ne_of hn tcs (fun z => nomatch z)
  · exact ne_of hk hq (fun z => nomatch z)
  · exact ne_of hk tt (fun z => nomatch z)
  · exact ne_of hk tcs (fun z => nomatch z)
theorem WW.somes {C : Addr} {H : Hp} {A : Ads} {N M : NS} (w : WW C H A N M) : ∀ y ∈ A.p :: A.tc :: A.all, (H y).isSome = true := fun y hy => by
  obtain ⟨_, hp⟩ := w.net.ob
  obtain ⟨_, ha, _⟩ := w.net.nx
  obtain ⟨_, hb, _⟩ := w.net.bf
  obtain ⟨_, hl, _⟩ := w.net.ls
  obtain ⟨_, hn, _⟩ := w.tab.nx
  obtain ⟨_, hk, _⟩ := w.tab.bf
  obtain ⟨_, hq, _⟩ := w.tab.ls
  obtain ⟨_, _, _, _, _, tt, tcs, _⟩ := w.tape.ex
  have tt' : H A.tp = _ := tt
  simp only [Ads.all, List.mem_cons, List.not_mem_nil, or_false] at hy
  rcases hy with h | h | h | h | h | h | h | h | h <;> rw [h]
  · rw [hp]; rfl
  · rw [tcs]; rfl
  · rw [ha]; rfl
  · rw [hb]; rfl
  · rw [hl]; rfl
  · rw [hn]; rfl
  · rw [hk]; rfl
  · rw [hq]; rfl
  · rw [tt']; rfl
theorem none_off {H : Hp} {L : List Addr} {x : Addr} (h : ∀ y ∈ L, (H y).isSome = true) (n : H x = none) : x ∉ L := fun m => by have := h x m; rw [n] at this; cases this
theorem PrIs.mem {H : Hp} {ps : List (Int × Int)} {lv : List V} (p : PrIs H ps lv) {x : V} (h : x ∈ lv) : ∃ q ∈ ps, ∃ t, x = .ref t ∧ H t = some (.tup [.int q.1, .int q.2]) := by
  obtain ⟨i, hi, e⟩ := List.mem_iff_getElem.mp h
  have hi' : i < ps.length := by rw [← p.len]; exact hi
  obtain ⟨t, a, b⟩ := p.at_ i _ (List.getElem?_eq_getElem hi')
  rw [List.getElem?_eq_getElem hi, e] at a
  exact ⟨_, List.getElem_mem hi', t, Option.some.inj a, b⟩
theorem WW.frn {C : Addr} {H H' : Hp} {A : Ads} {N M : NS} {L : List Addr} (w : WW C H A N M) (f : Fr L H H') (n : ∀ y ∈ A.p :: A.tc :: A.all, y ∉ L) : WW C H' A N M :=
  ⟨w.net.fr f (n _ (by simp)) (n _ (by simp [Ads.all])) (n _ (by simp [Ads.all])) (n _ (by simp [Ads.all])), w.tab.fr f (n _ (by simp [Ads.all])) (n _ (by simp [Ads.all])) (n _ (by simp [Ads.all])), w.tape.fr f (n _ (by simp [Ads.all])) (n _ (by simp)), w.nd⟩
end RL
set_option synthInstance.maxHeartbeats 4000000
set_option synthInstance.maxSize 4000
namespace RL
theorem Per.rot {f : Int → Int} {h : Int} {m s : Nat} (p : Per f h m) (hs : s < m) : Per f (it f s h) m := by
  refine ⟨p.p1, ?_, fun j a b e => p.no j a b ?_⟩
  · rw [← it_add, Nat.add_comm, it_add, p.rt]
  · have e2 := congrArg (it f (m - s)) e
    rw [← it_add, ← it_add, ← it_add, show s + (j + (m - s)) = m + j by omega, show s + (m - s) = m by omega, it_add, p.rt] at e2
    exact e2
theorem ringL_len {f : Int → Int} {h : Int} {m : Nat} : (ringL f h m).length = m := by unfold ringL; rw [List.length_map, List.length_range]
theorem ringL_at {f : Int → Int} {h : Int} {m i : Nat} (hi : i < m) : (ringL f h m)[i]? = some (it f i h) := by
  unfold ringL
  rw [List.getElem?_map, List.getElem?_range hi]
  rfl
theorem ringL_rot {f : Int → Int} {h : Int} {m s : Nat} (p : Per f h m) (hs : s < m) : (ringL f h m).drop s ++ (ringL f h m).take s = ringL f (it f s h) m := by
  apply List.ext_getElem?
  intro i
  by_cases hi : i < m
  · rw [ringL_at hi, ← it_add]
    by_cases h2 : i < m - s
    · rw [List.getElem?_append_left (by rw [List.length_drop, ringL_len]; exact h2), List.getElem?_drop, ringL_at (by omega)]
    · rw [List.getElem?_append_right (by rw [List.length_drop, ringL_len]; omega), List.length_drop, ringL_len, List.getElem?_take, if_pos (by omega), ringL_at (by omega), show s + i = m + (i - (m - s)) by omega, it_add, p.rt]
  · rw [List.getElem?_eq_none (by rw [List.length_append, List.length_drop, List.length_take, ringL_len]; omega), List.getElem?_eq_none (by rw [ringL_len]; omega)]
theorem ringL_nd {f : Int → Int} {h : Int} {m : Nat} (p : Per f h m) : (ringL f h m).Nodup := by
  unfold ringL
  rw [List.nodup_iff_pairwise_ne, List.pairwise_map]
  refine List.Pairwise.imp_of_mem (R := (· < ·)) (fun {i j} hi hj hlt e => ?_) List.pairwise_lt_range
  have h1 := List.mem_range.mp hj
  refine p.no (j - i) (by omega) (by omega) ?_
  have e2 := congrArg (it f (m - i)) e
  rw [← it_add, ← it_add, show i + (m - i) = m by omega, show j + (m - i) = m + (j - i) by omega, it_add, p.rt] at e2
  exact e2.symm
theorem Per.mul {f : Int → Int} {h : Int} {m : Nat} (p : Per f h m) (q r : Nat) : it f (m * q + r) h = it f r h := by
  induction q with
  | zero => rw [Nat.mul_zero, Nat.zero_add]
  | succ q ih => rw [Nat.mul_succ, show m * q + m + r = m + (m * q + r) by omega, it_add, p.rt, ih]
theorem Per.back {f : Int → Int} {h x : Int} {m n : Nat} (p : Per f h m) (e : it f n h = x) : it f (m * n - n) x = h := by
  have h1 : n ≤ m * n := Nat.le_mul_of_pos_left _ p.p1
  rw [← e, ← it_add, show n + (m * n - n) = m * n + 0 by omega, p.mul]
  rfl
theorem Per.meet {f : Int → Int} {h r r' : Int} {m n n' : Nat} (p : Per f r m) (e : it f n h = r) (e' : it f n' h = r') : it f (n + m * n' - n') r' = r := by
  have h1 : n' ≤ m * n' := Nat.le_mul_of_pos_left _ p.p1
  rw [← e', ← it_add, show n' + (n + m * n' - n') = n + (m * n' + 0) by omega, it_add, e, p.mul]
  rfl
theorem Per.at_ {f : Int → Int} {h x : Int} {m n : Nat} (p : Per f h m) (e : it f n h = x) : Per f x m := by
  have e2 := p.mul (n / m) (n % m)
  rw [Nat.div_add_mod] at e2
  rw [← e, e2]
  exact p.rot (Nat.mod_lt _ p.p1)
theorem ringL_iff {f : Int → Int} {h x : Int} {m : Nat} (p : Per f h m) : x ∈ ringL f h m ↔ ∃ n, it f n h = x := by
  constructor
  · intro hx
    obtain ⟨j, _, e⟩ := List.mem_map.mp hx
    exact ⟨j, e⟩
  · rintro ⟨n, e⟩
    have hp := p.p1
    refine List.mem_map.mpr ⟨n % m, List.mem_range.mpr (Nat.mod_lt _ hp), ?_⟩
    rw [← e]
    rw [← p.mul (n / m) (n % m), Nat.div_add_mod]
theorem eqV_int {a b : Int} : eqV (.int a) (.int b) = decide (a = b) := rfl
theorem r_index {K : PySem.W.Frag} {H : Hp} {Q : VK} {a : Addr} {ns : List Int} {y : Int} {j : Nat} (h : SqL K H a (ns.map V.int)) (hj : ns[j]? = some y) (hn : ∀ m, m < j → ns[m]? ≠ some y) (q : Q (.int (j : Nat)) H) : rIndex K (.ref a) [.int y] H Q := by
  refine ⟨a, ns.map V.int, .int y, j, .int y, rfl, rfl, h, rfl, List.all_eq_true.mpr fun v hv => ?_, by rw [List.getElem?_map, hj]; rfl, by rw [eqV_int, decide_eq_true rfl], fun m z' hm hz => ?_, q⟩
  · obtain ⟨n, _, e⟩ := List.mem_map.mp hv
    rw [← e]; rfl
  · rw [List.getElem?_map] at hz
    cases e : ns[m]? with
    | none => rw [e] at hz; cases hz
    | some n =>
      rw [e] at hz
      cases hz
      rw [eqV_int, decide_eq_false]
      exact fun z => hn m hm (z ▸ e)
theorem r_indexN {K : PySem.W.Frag} {H : Hp} {Q : VK} {a : Addr} {ns : List Int} {y : Int} {j : Nat} (h : SqL K H a (ns.map V.int)) (nd : ns.Nodup) (hj : ns[j]? = some y) (q : Q (.int (j : Nat)) H) : rIndex K (.ref a) [.int y] H Q :=
  r_index h hj (fun m hm e => by have := nd_ix nd e hj; omega) q
theorem tySqL {K : PySem.W.Frag} {l : Addr} {xs : List V} {H : Hp} {A : Prop} (h : SqL K H l xs) (a : A) : TyLK K "list" (.ref l) H A := ⟨Or.inl ⟨rfl, xs, h⟩, a⟩
theorem allFlat (ns : List Int) : (ns.map V.int).all flatV = true := List.all_eq_true.mpr fun v hv => by
  obtain ⟨n, _, e⟩ := List.mem_map.mp hv
  rw [← e]; rfl
theorem inV_int {ns : List Int} {y : Int} : inV (.int y) (ns.map V.int) = decide (y ∈ ns) := by
  unfold inV
  rw [List.any_map, Bool.eq_iff_iff, List.any_eq_true, decide_eq_true_iff]
  constructor
  · rintro ⟨x, hx, e⟩
    have e' : decide (x = y) = true := e
    rw [← of_decide_eq_true e']; exact hx
  · intro hx
    exact ⟨y, hx, decide_eq_true rfl⟩
theorem r_inI {K : PySem.W.Frag} {H : Hp} {Q : VK} {a : Addr} {ns : List Int} {y : Int} (h : SqL K H a (ns.map V.int)) (q : Q (.bl (decide (y ∈ ns))) H) : rIn K false (.int y) (.ref a) H Q :=
  ⟨a, _, rfl, .inl h, rfl, allFlat ns, by rw [inV_int]; exact q⟩
theorem r_ninI {K : PySem.W.Frag} {H : Hp} {Q : VK} {a : Addr} {ns : List Int} {y : Int} (h : SqL K H a (ns.map V.int)) (q : Q (.bl (!decide (y ∈ ns))) H) : rIn K true (.int y) (.ref a) H Q :=
  ⟨a, _, rfl, .inl h, rfl, allFlat ns, by rw [inV_int]; exact q⟩
def spRingFrom : Sp := fun vs H Q _ => ∃ (a : Addr) (hs : List Int) (f : Int → Int) (h : Int) (_ : Unit), vs = [.ref a, .int h] ∧ NxAt H a hs f ∧ h ∈ hs ∧ hs.length ≤ 60 ∧
  ∀ l r m n H', H l = none → H' l = some (.lst ((ringL f r m).map V.int)) → Per f r m → m ≤ hs.length → it f n h = r → (∀ y ∈ ringL f r m, r ≤ y) → Fr [] H H' → Q (.ref l) H'
section
variable {P : Program} {w : World} {K : PySem.W.Frag} {mg : Str → Option Value} {base : Heap} {CNet CMender CDesk CStore CWalk : Addr}
abbrev s_ring_from : Stmt := top 14
theorem sc_ring_from : FnScope ["nexts", "house", "_", "ring", "start"] ["nexts", "house"] (defScope s_ring_from) := ⟨rfl, rfl, rfl, by decide +kernel, rfl, by decide +kernel, by decide +kernel⟩
theorem ok_ring_from {f : Addr} {fd : FuncData} (F : Fun K "ring_from" "ring_from" s_ring_from f fd) (m_range : mg "range" = none) (m_len : mg "len" = none) (m_min : mg "min" = none) : FnOk P w K mg base CX0 1 f fd ["nexts", "house"] spRingFrom := by
  refine F.ok sc_ring_from (fun vs H Q E h => ?_) (fun cdv A outer s H vs Q E hr h => ?_)
  · obtain ⟨_, _, _, _, _, rfl, _⟩ := h; rfl
  · obtain ⟨a, hs, f, h, _, rfl, N, hh, hlen, k⟩ := h
    refine ⟨_, (pss_cons (ps_for PassesOwn.never rfl (pi_range1 (by rfl) m_range (pa_cons (pe_callB cb_lenD (by rfl) m_len b_len (pa_cons (pv 0) pa_nil)) pa_nil)) (pg_name (i := 2) sc_ring_from.nd rfl (Or.inl rfl))
      (pss_one (ps_set (i := 1) sc_ring_from.nd rfl (Or.inl rfl) (pe_dget (hu_of hr) (pv 0) (pv 1) (by intro _ _; rfl)))))
      (pss_cons (ps_set (i := 3) sc_ring_from.nd rfl (Or.inl rfl) (pe_lst (pa_cons (pv 1) pa_nil)))
      (pss_cons (ps_while PassesOwn.never (pt_cmpR op_ne (pe_dget (hu_of hr) (pv 0) (pe_ix (ix_listK (K := K) rfl) (pv 3) (pe_un un_neg pe_int) (by intro _ _; rfl)) (by intro _ _; rfl)) (pv 1) (nomark _)) (pss_one (ps_expr (pe_bmK (K := K) rfl PySem.F.plainAttrs_list PySem.F.slot_list_append PySem.F.type_list_append mt_append (pv 3) (pa_cons (pe_dget (hu_of hr) (pv 0) (pe_ix (ix_listK (K := K) rfl) (pv 3) (pe_un un_neg pe_int) (by intro _ _; rfl)) (by intro _ _; rfl)) pa_nil)))))
      (pss_cons (ps_set (i := 4) sc_ring_from.nd rfl (Or.inl rfl) (pe_bmK (K := K) rfl PySem.F.plainAttrs_list PySem.F.slot_list_index PySem.F.type_list_index (mt_indexK (K := K) rfl) (pv 3) (pa_cons (pe_callB (cb_minK (K := K) rfl rfl) (by rfl) m_min b_min (pa_cons (pv 3) pa_nil)) pa_nil)))
      (pss_one (ps_ret (pe_op op_cat (pe_slice (sl_listK (K := K) rfl) (pv 3) (po_some (pv 4)) po_none) (pe_slice (sl_listK (K := K) rfl) (pv 3) po_none (po_some (pv 4)))))))))), ?_⟩
    (try simp only [cxK, cxKX, List.map])
    refine ent (σ' := [some _, some _, none, none, none]) rfl ?_
    obtain ⟨kvs, rd, dk, hkl⟩ := N.ex
    have get : ∀ {H' : Hp} {x : Int} {Q : VK}, Fr [] H H' → x ∈ hs → Q (.int (f x)) H' → DGetK (.ref a) (.int x) Q H' := fun {H' x Q} g m q => dgetk (g.rd rd List.not_mem_nil) (by rw [dk.val, mfOf_at m]) q
    have im : ∀ n x, x ∈ hs → it f n x ∈ hs := fun n x hx => it_mem N.cl hx
    k_offL
    refine r_lenD rd ?_
    rw [hkl]
    k_offL
    refine loopR1 _ (by omega) (by omega) (fun i σ' H' => H' = H ∧ ∃ v, σ' = [some (.ref a), some (.int (it f i h)), v, none, none]) ⟨rfl, _, rfl⟩ ?_ ?_
    · rintro i σ' _ hi ⟨rfl, v, rfl⟩
      k_offL
      refine get (Fr.refl _ _) (im i h hh) ?_
      k_offL
      exact ⟨rfl, _, by rw [it_succ]⟩
    rintro σ' _ ⟨rfl, v, rfl⟩
    rw [show (hs.length : Int).toNat = hs.length by omega]
    obtain ⟨p, p1, p2, p3⟩ := on_ring (n := hs.length) N.cl hh (Nat.le_refl _)
    revert p3
    generalize hq : it f hs.length h = h0 at *
    intro p3
    have m0 : h0 ∈ hs := hq ▸ im _ h hh
    k_offL
    refine lstk (by show 1 ≤ 100000; decide) fun rl H1 n1 e1 f1 => ?_
    k_offL
    refine q_while (fun m σ' H' => ∃ i, m + i = p ∧ i < p ∧ σ' = [some (.ref a), some (.int h0), v, some (.ref rl), none] ∧ H' rl = some (.lst ((ringL f h0 (i + 1)).map V.int)) ∧ (∀ j, 0 < j → j ≤ i → it f j h0 ≠ h0) ∧ Fr [] _ H') p
      ⟨0, rfl, by omega, rfl, e1, fun j a b => absurd a (by omega), f1⟩ ?_
    rintro m σ' H2 ⟨i, hm, hi, rfl, e2, no, f2⟩ Nx R kN kT kF
    have last : ∀ {H' : Hp}, H' rl = some (.lst ((ringL f h0 (i + 1)).map V.int)) → H' rl = some (.lst ((ringL f h0 i).map V.int ++ [V.int (it f i h0)])) := fun e => by rw [e, ringL_succ, List.map_append]; rfl
    k_offL
    refine r_ixL (sqL_of (last e2)) (atI_last _ _) ?_
    k_offL
    refine get f2 (im i h0 m0) ?_
    k_offL
    by_cases e : f (it f i h0) = h0
    · rw [decide_eq_true e]
      refine kF _ ?_
      have per : Per f h0 (i + 1) := ⟨by omega, by rw [it_succ]; exact e, fun j a b => no j a (by omega)⟩
      k_offL
      refine r_min (sqL_of e2) (by rw [ringL_len]; omega) fun r a b => ?_
      obtain ⟨s, hs1, hs2⟩ := List.mem_iff_getElem.mp a
      have hs1' : s < i + 1 := by rw [ringL_len] at hs1; exact hs1
      have hr : it f s h0 = r := by
        have q := ringL_at (f := f) (h := h0) hs1'
        rw [List.getElem?_eq_getElem hs1, hs2] at q
        exact (Option.some.inj q).symm
      k_offL
      refine r_indexN (sqL_of e2) (ringL_nd per) (j := s) (by rw [List.getElem?_eq_getElem hs1, hs2]) ?_
      k_offL
      refine r_slL (sqL_of e2) fun l3 H3 n3 e3 f3 => ?_
      rw [cut_from, ← List.map_drop] at e3
      k_offL
      refine r_slL (sqL_of (f3.at_ _ _ e2 List.not_mem_nil)) fun l4 H4 n4 e4 f4 => ?_
      rw [cut_to, ← List.map_take] at e4
      k_offL
      refine r_cat (f4.at_ _ _ e3 List.not_mem_nil) e4 (by rw [List.length_map, List.length_map, List.length_drop, List.length_take, ringL_len]; omega) fun l5 H5 n5 e5 f5 => ?_
      rw [← List.map_append, ringL_rot per hs1', hr] at e5
      refine k l5 r (i + 1) (hs.length + s) H5 ?_ e5 (hr ▸ per.rot hs1') (by omega) (by rw [it_add, hq, hr]) (fun y hy => b y ?_) ((f2.trans f3).trans (f4.trans f5))
      · have g := (f2.trans f3).trans f4
        exact g.free n5
      · rw [← hr, ← ringL_rot per hs1'] at hy
        rcases List.mem_append.mp hy with z | z
        · exact List.mem_of_mem_drop z
        · exact List.mem_of_mem_take z
    · rw [decide_eq_false e]
      refine kT _ ?_
      have hi2 : i + 1 < p := by
        rcases Nat.lt_or_eq_of_le (show i + 1 ≤ p by omega) with q | q
        · exact q
        · rw [← q, it_succ] at p3; exact absurd p3 e
      k_offL
      refine r_ixL (sqL_of (last e2)) (atI_last _ _) ?_
      k_offL
      refine get f2 (im i h0 m0) ?_
      k_offL
      refine r_app e2 (by rw [List.length_map, ringL_len]; omega) fun H3 e3 f3 => ?_
      refine kN (m - 1) _ _ (by omega) ⟨i + 1, by omega, hi2, rfl, ?_, fun j a b => ?_, f2.drop f3 n1⟩
      · rw [e3, ringL_succ (m := i + 1), List.map_append, it_succ (n := i)]; rfl
      · rcases Nat.lt_or_eq_of_le b with q | q
        · exact no j a (by omega)
        · rw [q, it_succ]; exact e
end
def spRingOf (C : Addr) : Sp := fun vs H Q _ => ∃ (p da db dl : Addr) (N : NS) (h : Int), vs = [.ref p, .int h] ∧ NetAt C H p da db dl N ∧ N.Ok ∧ h ∈ N.hs ∧
  ∀ l r m n H', H l = none → H' l = some (.lst ((ringL N.f r m).map V.int)) → Per N.f r m → m ≤ N.hs.length → it N.f n h = r → (∀ y ∈ ringL N.f r m, r ≤ y) → Fr [] H H' → Q (.ref l) H'
section
variable {P : Program} {w : World} {K : PySem.W.Frag} {mg : Str → Option Value} {base : Heap} {CNet CMender CDesk CStore CWalk : Addr}
abbrev s_ring_of : Stmt := top 16
theorem sc_ring_of : FnScope ["net", "house", "nexts"] ["net", "house"] (defScope s_ring_of) := ⟨rfl, rfl, rfl, by decide +kernel, rfl, by decide +kernel, by decide +kernel⟩
theorem ok_ring_of {f : Addr} {fd : FuncData} (F : Fun K "ring_of" "ring_of" s_ring_of f fd) (G_Net_nexts : GM P w K mg base CNet "nexts" 1 ["self"] (spNexts CNet)) (G_check_house : GF P w K mg base "check_house" 1 ["nexts", "house"] spCheckHouse) (G_ring_from : GF P w K mg base "ring_from" 1 ["nexts", "house"] spRingFrom) (T : NetT K CNet) : FnOk P w K mg base CX0 2 f fd ["net", "house"] (spRingOf CNet) := by
  refine F.ok sc_ring_of (fun vs H Q E h => ?_) (fun cdv A outer s H vs Q E hr h => ?_)
  · obtain ⟨_, _, _, _, _, _, rfl, _⟩ := h; rfl
  · obtain ⟨p, da, db, dl, N, x, rfl, hN, ok, hx, k⟩ := h
    refine ⟨_, (pss_cons (ps_set (i := 2) sc_ring_of.nd rfl (Or.inl rfl) (c_mt0 G_Net_nexts (hr.mono (by decide)) (pv 0)))
      (pss_cons (ps_expr (c_fn G_check_house (hr.mono (by decide)) (pa_cons (pv 2) (pa_cons (pv 1) pa_nil))))
      (pss_one (ps_ret (c_fn G_ring_from (hr.mono (by decide)) (pa_cons (pv 2) (pa_cons (pv 1) pa_nil))))))), ?_⟩
    (try simp only [cxK, cxKX, List.map])
    refine ent (σ' := [some _, some _, none]) rfl ?_
    obtain ⟨dx, hp⟩ := hN.ob
    have hlen := ok.hl
    k_offL
    refine ⟨p, da, db, dl, N, rfl, hN, ok, fun l H1 n1 e1 f1 => ?_⟩
    k_offL
    refine ⟨l, _, x, rfl, .inl e1, ok.dkn.some' (NS.mf_at hx), ?_⟩
    k_offL
    exact ⟨l, N.hs, N.f, x, (), rfl, NS.nxAt ok e1 ok.dkn, hx, by omega, fun l2 r m n H2 n2 e2 per hm hr hmin f2 => k l2 r m n H2 (f1.free n2) e2 per hm hr hmin (f1.trans f2)⟩
end
end RL
set_option synthInstance.maxHeartbeats 4000000
set_option synthInstance.maxSize 4000
namespace RL
theorem ring_sum {size : Int} {f : Int → Int} {r : Int} : ∀ m, ((ringL f r m).map fun x => far size x (f x)).sum = wl size f m r
  | 0 => rfl
  | m + 1 => by rw [ringL_succ, List.map_append, List.sum_append, ring_sum m, wl_succ]; simp
theorem Per.uniq {f : Int → Int} {h : Int} {m m' : Nat} (p : Per f h m) (q : Per f h m') : m = m' := by
  rcases Nat.lt_trichotomy m m' with e | e | e
  · exact absurd p.rt (q.no m (by have := p.p1; omega) e)
  · exact e
  · exact absurd q.rt (p.no m' (by have := q.p1; omega) e)
def intP (c : Int → Bool) : V → Bool
  | .int i => c i
  | _ => false
theorem filter_intP (c : Int → Bool) : ∀ (ys : List Int), (ys.map V.int).filter (intP c) = (ys.filter c).map V.int
  | [] => rfl
  | y :: r => by
    rw [List.map_cons, List.filter_cons, List.filter_cons]
    show (if c y = true then _ else _) = _
    rw [filter_intP c r]
    split <;> rfl
theorem emod_of {z X Y : Int} (h : z ∣ X - Y) (h0 : 0 ≤ X) (h1 : X < z) : Y % z = X := by
  obtain ⟨c, hc⟩ := h
  have e : Y = X + z * (-c) := by rw [Int.mul_neg]; omega
  rw [e, Int.add_mul_emod_self_left, Int.emod_eq_of_lt h0 h1]
theorem it_rep {f : Int → Int} {p : Int} {n : Nat} (e : it f n p = p) : ∀ k, it f (n * k) p = p
  | 0 => rfl
  | k + 1 => by rw [Nat.mul_succ, it_add, it_rep e k, e]
theorem wl_shift {size : Int} {f : Int → Int} {p : Int} {n i : Nat} (e : it f n p = p) : it f n (it f i p) = it f i p ∧ wl size f n (it f i p) = wl size f n p := by
  refine ⟨by rw [← it_add, Nat.add_comm, it_add, e], ?_⟩
  have h1 := wl_add (size := size) (f := f) (m := i) (n := n) (h := p)
  have h2 := wl_add (size := size) (f := f) (m := n) (n := i) (h := p)
  rw [e] at h2
  rw [Nat.add_comm] at h1
  omega
def OnR (f : Int → Int) (p : Int) : Prop := ∃ n, 1 ≤ n ∧ it f n p = p
theorem OnR.back {f : Int → Int} {p x : Int} {a : Nat} (o : OnR f p) (e : it f a p = x) : ∃ q, it f q x = p := by
  obtain ⟨n, n1, en⟩ := o
  refine ⟨n * a - a, ?_⟩
  have : a ≤ n * a := Nat.le_mul_of_pos_left _ n1
  rw [← e, ← it_add, show a + (n * a - a) = n * a by omega, it_rep en]
theorem Per.on {f : Int → Int} {p : Int} {m : Nat} (per : Per f p m) : OnR f p := ⟨m, per.p1, per.rt⟩
def RootOf (hs : List Int) (f : Int → Int) (h r : Int) : Prop := ∃ m, Per f (it f hs.length h) m ∧ r ∈ ringL f (it f hs.length h) m ∧ ∀ y ∈ ringL f (it f hs.length h) m, r ≤ y
theorem RootOf.le {hs : List Int} {f : Int → Int} {h h' r r' : Int} (x : RootOf hs f h r) (x' : RootOf hs f h' r') (e : ∃ a b, it f a h = it f b h') : r ≤ r' := by
  obtain ⟨m, per, hr, hmin⟩ := x
  obtain ⟨m', per', hr', _⟩ := x'
  obtain ⟨a, b, e⟩ := e
  obtain ⟨i, hi⟩ := (ringL_iff per').mp hr'
  have p2 := per'.at_ hi
  have e1 : it f (hs.length + i) h' = r' := by rw [it_add, hi]
  have e2 := p2.meet (n' := b) (r' := it f b h') e1 rfl
  rw [← e, ← it_add] at e2
  have e3 := p2.meet (n' := hs.length) e2 rfl
  exact hmin _ ((ringL_iff per).mpr ⟨_, e3⟩)
theorem RootOf.reach {hs : List Int} {f : Int → Int} {h r : Int} (x : RootOf hs f h r) : (∃ a, it f a h = r) ∧ OnR f r := by
  obtain ⟨m, per, hr, _⟩ := x
  obtain ⟨i, hi⟩ := (ringL_iff per).mp hr
  exact ⟨⟨hs.length + i, by rw [it_add, hi]⟩, (per.at_ hi).on⟩
theorem DOk.le {kvs : List (Key × V)} {m : Int → Option V} {hs : List Int} (d : DOk kvs m) (h : ∀ n, (m n).isSome = true → n ∈ hs) : kvs.length ≤ hs.length := by
  obtain ⟨ks, hk⟩ := d.ik
  have n1 : ks.Nodup := nodup_map_inl.mp (by rw [← hk]; exact d.nd)
  have e1 : kvs.length = ks.length := by have := congrArg List.length hk; simpa using this
  rw [e1]
  exact nodup_sub_len n1 fun x hx => h x (d.mem.mp (by rw [hk]; exact List.mem_map.mpr ⟨x, hx, rfl⟩))
theorem RootOf.mk' {hs : List Int} {f : Int → Int} {h z r : Int} {a p : Nat} (cl : ∀ h ∈ hs, f h ∈ hs) (hh : h ∈ hs) (e : it f a h = z) (per : Per f z p) (hr : r ∈ ringL f z p) (hmin : ∀ y ∈ ringL f z p, r ≤ y) : RootOf hs f h r := by
  have q1 := per.meet e (rfl : it f hs.length h = it f hs.length h)
  obtain ⟨p', p1, _, p2⟩ := on_ring (n := hs.length) cl hh (Nat.le_refl _)
  have o : OnR f (it f hs.length h) := ⟨p', p1, p2⟩
  obtain ⟨q2, e2⟩ := o.back q1
  have per2 := per.at_ e2
  have same : ∀ y, y ∈ ringL f (it f hs.length h) p ↔ y ∈ ringL f z p := fun y => by
    rw [ringL_iff per2, ringL_iff per]
    constructor
    · rintro ⟨n, en⟩; exact ⟨q2 + n, by rw [it_add, e2, en]⟩
    · rintro ⟨n, en⟩; exact ⟨_, by rw [it_add, q1, en]⟩
  exact ⟨p, per2, (same r).mpr hr, fun y hy => hmin y ((same y).mp hy)⟩
theorem RootOf.pre {hs : List Int} {f : Int → Int} {h r : Int} {a : Nat} (cl : ∀ h ∈ hs, f h ∈ hs) (hh : h ∈ hs) (x : RootOf hs f (it f a h) r) : RootOf hs f h r := by
  obtain ⟨m, per, hr, hmin⟩ := x
  exact .mk' cl hh (a := a + hs.length) (by rw [it_add]) per hr hmin
end RL
set_option synthInstance.maxHeartbeats 4000000
set_option synthInstance.maxSize 4000
namespace RL
theorem Fr.weak {M M' : List Addr} {H H1 H2 : Hp} (x : Fr M H H1) (y : Fr M' H1 H2) (h : ∀ a ∈ M', a ∈ M ∨ H a = none) : Fr M H H2 :=
  ⟨fun a o e m => y.at_ a o (x.at_ a o e m) fun z => (h a z).elim m fun q => (by rw [q] at e; cases e), fun t xs e => y.tp t xs (x.tp t xs e), fun t u w e => y.fz t u w (x.fz t u w e)⟩
section
variable {σ : L2.St} {H : Hp} {td ty tx : TE} {Q : VK} {a : Addr} {y z : V} {kvs : List (Key × V)}
def DS2K (a : Addr) (y z : V) (Q : VK) (H3 : Hp) : Prop := ∃ (kvs : List (Key × V)) (k : Key), H3 a = some (.dK kvs) ∧ y = kV k ∧ kvs.length < sizeLine ∧ (∀ v, valV kvs k = some v → Q v H3) ∧ (valV kvs k = none → Q z (upd H3 a (.dK (putK kvs k z))))
def DS1K (x : V) (ty tx : TE) (σ : L2.St) (Q : VK) (H1 : Hp) : Prop := ∃ a, x = .ref a ∧ IsD H1 a ∧ ty σ H1 fun y H2 => tx σ H2 fun z H3 => DS2K a y z Q H3
theorem x_dsetd (h : td σ H fun x H1 => DS1K x ty tx σ Q H1) : tDSetd td ty tx σ H Q := h
instance o_x_dsetd : One (tDSetd td ty tx σ H Q) (td σ H fun x H1 => DS1K x ty tx σ Q H1) := ⟨x_dsetd⟩
theorem ds1 (h : H a = some (.dK kvs)) (q : ty σ H fun y H2 => tx σ H2 fun z H3 => DS2K a y z Q H3) : DS1K (.ref a) ty tx σ Q H := ⟨a, rfl, .inl ⟨kvs, .inl h⟩, q⟩
theorem ds2 {n : Int} (h : H a = some (.dK kvs)) (hl : kvs.length ≤ 100000) (k1 : ∀ v, valV kvs (.inl n) = some v → Q v H) (k2 : valV kvs (.inl n) = none → ∀ H', H' a = some (.dK (putK kvs (.inl n) z)) → Fr [a] H H' → Q z H') : DS2K a (.int n) z Q H :=
  ⟨kvs, .inl n, h, rfl, small' hl, k1, fun e => k2 e _ upd_same (Fr.dct h)⟩
def DG2b (a : Addr) (y z : V) (Q : VK) (H3 : Hp) : Prop := ∃ o, DGet H3 a y o ∧ Q (o.getD z) H3
def DG2K (x : V) (ty tx : TE) (σ : L2.St) (Q : VK) (H1 : Hp) : Prop := ∃ a, x = .ref a ∧ IsD H1 a ∧ ty σ H1 fun y H2 => tx σ H2 fun z H3 => DG2b a y z Q H3
theorem x_dget2 (h : td σ H fun x H1 => DG2K x ty tx σ Q H1) : tDGet2 td ty tx σ H Q := h
instance o_x_dget2 : One (tDGet2 td ty tx σ H Q) (td σ H fun x H1 => DG2K x ty tx σ Q H1) := ⟨x_dget2⟩
theorem dg2a (h : H a = some (.dK kvs)) (q : ty σ H fun y H2 => tx σ H2 fun z H3 => DG2b a y z Q H3) : DG2K (.ref a) ty tx σ Q H := ⟨a, rfl, .inl ⟨kvs, .inl h⟩, q⟩
theorem dg2b {n : Int} (h : H a = some (.dK kvs)) (q : Q ((valV kvs (.inl n)).getD z) H) : DG2b a (.int n) z Q H := ⟨_, .inl ⟨kvs, .inl n, .inl h, rfl, rfl⟩, q⟩
end
section
variable {te : TE} {tz : TS} {nx bk ct : L2.St → Hp → Prop} {rt : VK} {σ : L2.St} {H : Hp} {i : Nat}
theorem q_lockAsg (h : tLockE te σ H fun x H1 => SetK σ i x (tz ⟨nx, rt, bk, ct⟩) H1) : tSeq (tLock (tAsg te (gName i))) tz ⟨nx, rt, bk, ct⟩ σ H := h
instance o_q_lockAsg : OneS (tSeq (tLock (tAsg te (gName i))) tz ⟨nx, rt, bk, ct⟩ σ H) (tLockE te σ H fun x H1 => SetK σ i x (tz ⟨nx, rt, bk, ct⟩) H1) := ⟨q_lockAsg⟩
theorem s_lockAsg (h : tLockE te σ H fun x H1 => SetK σ i x nx H1) : tLock (tAsg te (gName i)) ⟨nx, rt, bk, ct⟩ σ H := h
instance o_s_lockAsg : OneS (tLock (tAsg te (gName i)) ⟨nx, rt, bk, ct⟩ σ H) (tLockE te σ H fun x H1 => SetK σ i x nx H1) := ⟨s_lockAsg⟩
end
theorem eqvAll_ints : ∀ xs ys : List Int, PyData.eqvAll (xs.map PyData.int) (ys.map PyData.int) = decide (xs = ys)
  | [], [] => by simp [PyData.eqvAll]
  | x :: xs, [] => by simp [PyData.eqvAll]
  | [], y :: ys => by simp [PyData.eqvAll]
  | x :: xs, y :: ys => by
    rw [List.map_cons, List.map_cons, PyData.eqvAll, eqvAll_ints xs ys, PyData.eqv]
    by_cases e : x = y <;> by_cases e2 : xs = ys <;> simp [e, e2]
theorem lay_ints : ∀ xs : List Int, PyData.canLayAll0 (xs.map PyData.int) = true ∧ PyData.depthAll (xs.map PyData.int) = 0
  | [] => by simp [PyData.canLayAll0, PyData.depthAll]
  | x :: xs => by
    obtain ⟨a, b⟩ := lay_ints xs
    rw [List.map_cons, PyData.canLayAll0, PyData.depthAll, a, b]
    simp [PyData.canLay0, PyData.depth]
theorem dpAll_ints {K : PySem.W.Frag} {H : Hp} : ∀ xs : List Int, DpAll K H (xs.map V.int) (xs.map PyData.int)
  | [] => .nil
  | x :: xs => .cons (.int x) (dpAll_ints xs)
theorem r_eqInts {K : PySem.W.Frag} {H : Hp} {Q : VK} {a b : Addr} {xs ys : List Int} (h1 : SqL K H a (xs.map V.int)) (h2 : SqL K H b (ys.map V.int)) (q : Q (.bl (decide (xs = ys))) H) : rEqD K (.ref a) (.ref b) H Q := by
  refine ⟨.list (xs.map PyData.int), .list (ys.map PyData.int), .lst h1 (dpAll_ints xs), .lst h2 (dpAll_ints ys), ?_, ?_, ?_⟩
  · obtain ⟨a, b⟩ := lay_ints xs
    simp [SeqAt.shaped, PyData.canLay0, PyData.depth, a, b]
  · obtain ⟨a, b⟩ := lay_ints ys
    simp [SeqAt.shaped, PyData.canLay0, PyData.depth, a, b]
  · rw [PyData.eqv, eqvAll_ints]; exact q
def prD (p : Int × Int) : PyData := .tuple [.int p.1, .int p.2]
theorem eqvAll_prs : ∀ xs ys : List (Int × Int), PyData.eqvAll (xs.map prD) (ys.map prD) = decide (xs = ys)
  | [], [] => by simp [PyData.eqvAll]
  | x :: xs, [] => by simp [PyData.eqvAll]
  | [], y :: ys => by simp [PyData.eqvAll]
  | (a, b) :: xs, (c, d) :: ys => by
    rw [List.map_cons, List.map_cons, PyData.eqvAll, eqvAll_prs xs ys]
    simp only [prD, PyData.eqv, PyData.eqvAll]
    by_cases e : a = c <;> by_cases e1 : b = d <;> by_cases e2 : xs = ys <;> simp [e, e1, e2]
theorem lay_prs : ∀ xs : List (Int × Int), PyData.canLayAll0 (xs.map prD) = true ∧ PyData.depthAll (xs.map prD) ≤ 1
  | [] => by simp [PyData.canLayAll0, PyData.depthAll]
  | x :: xs => by
    obtain ⟨a, b⟩ := lay_prs xs
    rw [List.map_cons, PyData.canLayAll0, PyData.depthAll, a]
    refine ⟨by simp [prD, PyData.canLay0, PyData.canLayAll0], ?_⟩
    have : (prD x).depth = 1 := by simp [prD, PyData.depth, PyData.depthAll]
    omega
theorem dpAll_prs {K : PySem.W.Frag} {H : Hp} : ∀ {ps : List (Int × Int)} {lv : List V}, PrIs H ps lv → DpAll K H lv (ps.map prD)
  | [], [], _ => .nil
  | [], v :: lv, x => by have := x.len; cases this
  | p :: ps, [], x => by have := x.len; cases this
  | p :: ps, v :: lv, x => by
    obtain ⟨t, e, h⟩ := x.at_ 0 p rfl
    have e := Option.some.inj e
    subst e
    refine .cons (.tup (sqT_of h) (.cons (.int _) (.cons (.int _) .nil))) (dpAll_prs ⟨Nat.succ.inj x.len, fun i q hq => x.at_ (i + 1) q hq⟩)
theorem r_eqPrs {K : PySem.W.Frag} {H : Hp} {Q : VK} {a b : Addr} {ps qs : List (Int × Int)} {xs ys : List V} (h1 : SqL K H a xs) (h2 : SqL K H b ys) (p1 : PrIs H ps xs) (p2 : PrIs H qs ys) (q : Q (.bl (decide (ps = qs))) H) : rEqD K (.ref a) (.ref b) H Q := by
  refine ⟨.list (ps.map prD), .list (qs.map prD), .lst h1 (dpAll_prs p1), .lst h2 (dpAll_prs p2), ?_, ?_, ?_⟩
  · obtain ⟨a, b⟩ := lay_prs ps
    simp [SeqAt.shaped, PyData.canLay0, PyData.depth, a]; omega
  · obtain ⟨a, b⟩ := lay_prs qs
    simp [SeqAt.shaped, PyData.canLay0, PyData.depth, a]; omega
  · rw [PyData.eqv, eqvAll_prs]; exact q
section
variable {K : PySem.W.Frag} {ta : TA} {σ : L2.St} {H : Hp} {R : It → Hp → Prop} {a b : Addr}
def ZipK (K : PySem.W.Frag) (vs : List V) (R : It → Hp → Prop) (H1 : Hp) : Prop := ∃ a b xs ys, vs = [.ref a, .ref b] ∧ SqL K H1 a xs ∧ SqL K H1 b ys ∧ R (Itz K a b) H1
theorem x_iZip (h : ta σ H fun vs H1 => ZipK K vs R H1) : iZip K ta σ H R := h
instance o_x_iZip : One (iZip K ta σ H R) (ta σ H fun vs H1 => ZipK K vs R H1) := ⟨x_iZip⟩
theorem loopZ {tu : TS} {nx bk ct : L2.St → Hp → Prop} {rt : VK} {g : TG} {M : List Addr} (xs ys : List V) (hl : xs.length = ys.length) (hx : SqL K H a xs) (hy : SqL K H b ys) (ha : a ∉ M) (hb : b ∉ M) (Pv : Nat → L2.St → Hp → Prop) (h0 : Pv 0 σ H) (hf : ∀ i σ' H', Pv i σ' H' → Fr M H H')
    (hs : ∀ i x y T σ' H1 H', xs[i]? = some x → ys[i]? = some y → Pv i σ' H1 → H1 T = none → H' T = some (.tup [x, y]) → Fr [] H1 H' → g (.ref T) σ' H' (tu ⟨Pv (i + 1), rt, nx, Pv (i + 1)⟩)) (hd : ∀ σ' H', Pv xs.length σ' H' → nx σ' H') :
    ZipK K [.ref a, .ref b] (fun J H1 => LoopK J g tu ⟨nx, rt, bk, ct⟩ σ H1) H := by
  refine ⟨a, b, xs, ys, rfl, hx, hy, ?_⟩
  refine for_it (D := ⟨nx, rt, bk, ct⟩) (walk_zip (xs := xs) (ys := ys) (n := xs.length) (by omega)) Pv h0 (fun i σ' H' _ p => ⟨(hf i σ' H' p).sqL hx ha, (hf i σ' H' p).sqL hy hb⟩) (fun i x σ' H1 H' hi p y => ?_) hd
  obtain ⟨T, x', y', rfl, n, rfl, e1, e2⟩ := y
  exact hs i x' y' T σ' H1 _ e1 e2 p n upd_same (Fr.new n)
end
end RL
set_option synthInstance.maxHeartbeats 4000000
set_option synthInstance.maxSize 4000
namespace RL
def spTurns : Sp := fun vs H Q _ => ∃ (size : Int) (a : Addr) (hs : List Int) (f : Int → Int) (h : Int) (_ : Unit), vs = [.int size, .ref a, .int h] ∧ NxAt H a hs f ∧ h ∈ hs ∧ hs.length ≤ 60 ∧ 0 < size ∧ size < 2 ^ 40 ∧
  ∀ m H', Per f (it f hs.length h) m → m ≤ hs.length → Fr [] H H' → Q (.int (wl size f m (it f hs.length h) / size)) H'
section
variable {P : Program} {w : World} {K : PySem.W.Frag} {mg : Str → Option Value} {base : Heap} {CNet CMender CDesk CStore CWalk : Addr}
abbrev s__law_turns : Stmt := top 57
theorem sc__law_turns : FnScope ["size", "nexts", "house", "total", "one"] ["size", "nexts", "house"] (defScope s__law_turns) := ⟨rfl, rfl, rfl, by decide +kernel, rfl, by decide +kernel, by decide +kernel⟩
theorem ok__law_turns {f : Addr} {fd : FuncData} (F : Fun K "_law_turns" "_law_turns" s__law_turns f fd) (m_sum : mg "sum" = none) (G__law_ring : GF P w K mg base "_law_ring" 1 ["nexts", "house"] spRing) (G__law_far : GF P w K mg base "_law_far" 1 ["size", "start", "end"] spFar) : FnOk P w K mg base CX0 2 f fd ["size", "nexts", "house"] spTurns := by
  refine F.ok sc__law_turns (fun vs H Q E h => ?_) (fun cdv A outer s H vs Q E hr h => ?_)
  · obtain ⟨_, _, _, _, _, _, rfl, _⟩ := h; rfl
  · obtain ⟨size, a, hs, f, h, _, rfl, N, hh, hlen, h0, h1, k⟩ := h
    refine ⟨_, (pss_cons (ps_set (i := 3) sc__law_turns.nd rfl (Or.inl rfl) (pe_callB (cb_sumK (K := K) rfl rfl) (by rfl) m_sum b_sum (pa_cons (pe_lc (own := [("one", 4)]) (g := gName 4) rfl sc__law_turns.nd (pi_listK (K := K) rfl (c_fn G__law_ring (hr.mono (by decide)) (pa_cons (pv 1) (pa_cons (pv 2) pa_nil)))) (blkOk_by (N := ["size", "nexts", "house", "total", "one"]) (sc := defScope s__law_turns) (by decide +kernel)) (fun _ _ _ _ _ => (pg_name (i := 4) sc__law_turns.nd rfl (Or.inl rfl))) (fun _ _ _ _ _ => pts_nil) (fun _ _ _ _ _ => (c_fn G__law_far (hr.mono (by decide)) (pa_cons (pv 0) (pa_cons (pv 4) (pa_cons (pe_dget (hu_of hr) (pv 1) (pv 4) (by intro _ _; rfl)) pa_nil)))))) pa_nil)))
      (pss_one (ps_ret (pe_op op_fdivW (pv 3) (pv 0))))), ?_⟩
    (try simp only [cxK, cxKX, List.map])
    refine ent (σ' := [some _, some _, some _, none, none]) rfl ?_
    k_offL
    refine ⟨a, hs, f, h, (), rfl, N, hh, hlen, fun l m H1 n1 e1 per hm f1 => ?_⟩
    k_offL
    refine walkL (sqL_of e1) ?_
    refine lcV (walk_list (xs := (ringL f (it f hs.length h) m).map V.int)) _ rfl (fun i H0 x H' _ y => yAt y) (fun _ => true) (fun v => match v with | .int x => .int (far size x (f x)) | v => v) (fun H' f => f.sqL (sqL_of e1) List.not_mem_nil) (by rw [List.length_map, ringL_len]; omega) (fun x H' hx f2 => ?_) fun l2 H2 n2 e2 f2 => ?_
    · obtain ⟨y, hy, rfl⟩ := mem_intsM hx
      have hy' := ringL_mem N.cl (it_mem N.cl hh) y hy
      refine sk4 ⟨fun R kR => ?_, fun _ H3 f3 R kR => ?_⟩
      · k_offL
        exact kR _ (Fr.refl _ _)
      · k_offL
        refine ((N.ex0 f1).ex0 (f2.trans f3)).get hy' ?_
        k_offL
        refine i_far h0 ?_
        exact kR _ (Fr.refl _ _)
    rw [List.filter_eq_self.mpr fun _ _ => rfl, List.map_map] at e2
    have e2' : H2 l2 = some (.lst (((ringL f (it f hs.length h) m).map fun x => far size x (f x)).map V.int)) := by rw [e2, List.map_map]; rfl
    k_offL
    refine r_sum (sqL_of e2') ?_
    rw [ring_sum]
    k_offL
    exact k m H2 per hm (f1.trans f2)
end
end RL
set_option synthInstance.maxHeartbeats 4000000
set_option synthInstance.maxSize 4000
namespace RL
theorem emod_eq {z X Y : Int} (h : z ∣ X - Y) : X % z = Y % z := by
  obtain ⟨c, hc⟩ := h
  rw [show X = Y + z * c by omega, Int.add_mul_emod_self_left]
theorem emod_dvd {z X : Int} : z ∣ X - X % z := ⟨X / z, by have := Int.mul_ediv_add_emod X z; omega⟩
theorem eq_of_emod {z X Y : Int} (h : X % z = Y % z) : z ∣ X - Y := by
  have h1 := emod_dvd (z := z) (X := X)
  have h2 := emod_dvd (z := z) (X := Y)
  have h3 := Int.dvd_sub h1 h2
  rw [h, show X - Y % z - (Y - Y % z) = X - Y by omega] at h3
  exact h3
structure Pot (size : Int) (hs : List Int) (f nm W φ : Int → Int) : Prop where
  nf : ∀ h ∈ hs, nm (f h) = nm h
  mt : ∀ p ∈ hs, ∀ q ∈ hs, nm p = nm q → ∃ a b, it f a p = it f b q
  w0 : ∀ h ∈ hs, 0 < W (nm h)
  wd : ∀ h ∈ hs, size ∣ W (nm h)
  pd : ∀ h ∈ hs, size ∣ φ h - h
  st : ∀ h ∈ hs, W (nm h) ∣ far size h (f h) - (φ (f h) - φ h)
  rg : ∀ h ∈ hs, ∀ m, Per f h m → wl size f m h = W (nm h)
section
variable {size : Int} {hs : List Int} {f nm W φ : Int → Int} {h p q r e x y a b : Int} {n m : Nat}
theorem Pot.nit (P : Pot size hs f nm W φ) (cl : ∀ h ∈ hs, f h ∈ hs) (hh : h ∈ hs) : nm (it f n h) = nm h := by
  induction n generalizing h with
  | zero => rfl
  | succ n ih => exact (ih (cl h hh)).trans (P.nf h hh)
theorem Pot.wlen (P : Pot size hs f nm W φ) (cl : ∀ h ∈ hs, f h ∈ hs) (hh : h ∈ hs) : W (nm h) ∣ wl size f n h - (φ (it f n h) - φ h) := by
  induction n generalizing h with
  | zero => show W (nm h) ∣ (0 : Int) - (φ h - φ h); simp
  | succ n ih =>
    have a1 := ih (cl h hh)
    rw [P.nf h hh] at a1
    have := Int.dvd_add a1 (P.st h hh)
    rw [show RL.wl size f n (f h) - (φ (it f n (f h)) - φ (f h)) + (far size h (f h) - (φ (f h) - φ h)) = RL.wl size f (n + 1) h - (φ (it f (n + 1) h) - φ h) by show _ = far size h (f h) + RL.wl size f n (f h) - (φ (it f n (f h)) - φ h); omega] at this
    exact this
theorem Pot.inj (P : Pot size hs f nm W φ) (on : ∀ h ∈ hs, 0 ≤ h ∧ h < size) (ha : a ∈ hs) (hb : b ∈ hs) (hn : nm a = nm b) (d : W (nm a) ∣ φ a - φ b) : a = b := by
  have d1 := Int.dvd_trans (P.wd a ha) d
  have d2 := P.pd a ha
  have d3 := P.pd b hb
  have d4 := Int.dvd_sub (Int.dvd_sub d1 d2) (Int.dvd_neg.mpr d3)
  rw [show φ a - φ b - (φ a - a) - -(φ b - b) = a - b by omega] at d4
  obtain ⟨a0, a1⟩ := on a ha
  obtain ⟨b0, b1⟩ := on b hb
  obtain ⟨c, hc⟩ := d4
  rcases Int.lt_trichotomy c 0 with z | z | z
  · have : size * c ≤ size * (-1) := Int.mul_le_mul_of_nonneg_left (by omega) (by omega)
    omega
  · rw [z, Int.mul_zero] at hc; omega
  · have : size * 1 ≤ size * c := Int.mul_le_mul_of_nonneg_left (by omega) (by omega)
    omega
def fm (W φ nm : Int → Int) (h e : Int) : Int := if (φ e - φ h) % W (nm h) = 0 then W (nm h) else (φ e - φ h) % W (nm h)
def IsEnd (hs : List Int) (nm W φ : Int → Int) (h e : Int) : Prop := e ∈ hs ∧ nm e = nm h ∧ ∀ p ∈ hs, nm p = nm h → fm W φ nm h e ≤ fm W φ nm h p
theorem fm_pos (h0 : 0 < W (nm h)) : 0 < fm W φ nm h e ∧ fm W φ nm h e ≤ W (nm h) := by
  unfold fm
  have h1 := Int.emod_nonneg (φ e - φ h) (show W (nm h) ≠ 0 by omega)
  have h2 := Int.emod_lt_of_pos (φ e - φ h) h0
  split <;> omega
theorem fm_dvd (h0 : 0 < W (nm h)) : W (nm h) ∣ fm W φ nm h e - (φ e - φ h) := by
  unfold fm
  split
  · rename_i c
    have := eq_of_emod (z := W (nm h)) (X := φ e - φ h) (Y := 0) (by rw [c]; simp)
    rw [Int.sub_zero] at this
    exact Int.dvd_sub (Int.dvd_refl _) this
  · have := emod_dvd (z := W (nm h)) (X := φ e - φ h)
    have := Int.dvd_neg.mpr this
    rw [show -(φ e - φ h - (φ e - φ h) % W (nm h)) = (φ e - φ h) % W (nm h) - (φ e - φ h) by omega] at this
    exact this
theorem IsEnd.uniq (P : Pot size hs f nm W φ) (on : ∀ h ∈ hs, 0 ≤ h ∧ h < size) (hh : h ∈ hs) (x1 : IsEnd hs nm W φ h x) (x2 : IsEnd hs nm W φ h y) : x = y := by
  have e1 := x1.2.2 y x2.1 x2.2.1
  have e2 := x2.2.2 x x1.1 x1.2.1
  have d1 := fm_dvd (φ := φ) (e := x) (P.w0 h hh)
  have d2 := fm_dvd (φ := φ) (e := y) (P.w0 h hh)
  have d3 := Int.dvd_sub d2 d1
  rw [show fm W φ nm h y - (φ y - φ h) - (fm W φ nm h x - (φ x - φ h)) = φ x - φ y + (fm W φ nm h y - fm W φ nm h x) by omega, show fm W φ nm h y - fm W φ nm h x = 0 by omega, Int.add_zero] at d3
  exact P.inj on x1.1 x2.1 (x1.2.1.trans x2.2.1.symm) (by rw [x1.2.1]; exact d3)
theorem Pot.fix (P : Pot size hs f nm W φ) (h0 : 0 < size) (cl : ∀ h ∈ hs, f h ∈ hs) (inj : ∀ a ∈ hs, ∀ b ∈ hs, f a = f b → a = b) (hh : h ∈ hs) : IsEnd hs nm W φ h (f h) := by
  have back : ∀ {i j : Nat} {x : Int}, x ∈ hs → it f i x = it f (i + j) x → x = it f j x := fun {i j x} hx e => by
    induction i generalizing j with
    | zero => rw [Nat.zero_add] at e; exact e
    | succ i ih =>
      rw [it_succ, show i + 1 + j = (i + j) + 1 by omega, it_succ] at e
      exact ih (inj _ (it_mem cl hx) _ (it_mem cl hx) e)
  have onr : ∀ x ∈ hs, ∃ m, Per f x m := fun x hx => by
    obtain ⟨i, j, hij, hj, e⟩ := pigeon (c := fun i => it f i x) (Nat.le_refl hs.length) fun i _ => it_mem cl hx
    have e' : it f i x = it f j x := e
    obtain ⟨k, rfl⟩ : ∃ k, j = i + (k + 1) := ⟨j - i - 1, by omega⟩
    have e2 := back hx e'
    have ex : ∃ m, 1 ≤ m ∧ it f m x = x := ⟨k + 1, by omega, e2.symm⟩
    obtain ⟨m, ⟨m1, m2⟩, m3⟩ : ∃ m, (1 ≤ m ∧ it f m x = x) ∧ ∀ k, k < m → ¬ (1 ≤ k ∧ it f k x = x) := by
      obtain ⟨m, hm⟩ := ex
      induction m using Nat.strongRecOn with
      | ind m ih =>
        by_cases c : ∃ k, k < m ∧ (1 ≤ k ∧ it f k x = x)
        · obtain ⟨k, hk, hk2⟩ := c; exact ih k hk hk2
        · exact ⟨m, hm, fun k hk z => c ⟨k, hk, z⟩⟩
    exact ⟨m, m1, m2, fun j j0 j1 z => m3 j j1 ⟨j0, z⟩⟩
  obtain ⟨m, per⟩ := onr h hh
  refine ⟨cl h hh, P.nf h hh, fun p hp hn => ?_⟩
  have w0 := P.w0 h hh
  have f1 : fm W φ nm h (f h) ≤ far size h (f h) := by
    have fp := far_pos (s := h) (e := f h) h0
    have d1 := fm_dvd (φ := φ) (e := f h) w0
    have d2 := Int.dvd_sub (P.st h hh) d1
    rw [show far size h (f h) - (φ (f h) - φ h) - (fm W φ nm h (f h) - (φ (f h) - φ h)) = far size h (f h) - fm W φ nm h (f h) by omega] at d2
    have fq := fm_pos (φ := φ) (e := f h) w0
    apply Classical.byContradiction
    intro c
    have := Int.le_of_dvd (by omega) (Int.dvd_neg.mpr d2)
    omega
  obtain ⟨a, b, e⟩ := P.mt p hp h hh hn
  obtain ⟨m2, per2⟩ := onr p hp
  obtain ⟨q, hq⟩ := per2.on.back rfl (a := a)
  have hpr : it f (b + q) h = p := by rw [it_add, ← e, hq]
  have hmem := (ringL_iff per).mpr ⟨_, hpr⟩
  obtain ⟨i, hi, ei⟩ := List.mem_map.mp hmem
  have hi := List.mem_range.mp hi
  have fw : far size h (f h) ≤ fm W φ nm h p := by
    have d1 := fm_dvd (φ := φ) (e := p) w0
    have d2 := P.wlen cl hh (n := i)
    rw [ei] at d2
    have d3 := Int.dvd_sub d1 d2
    rw [show fm W φ nm h p - (φ p - φ h) - (RL.wl size f i h - (φ p - φ h)) = fm W φ nm h p - RL.wl size f i h by omega] at d3
    have wm := P.rg h hh m per
    have fq := fm_pos (φ := φ) (e := p) w0
    have wi := wl_lt (f := f) (h := h) h0 hi
    have w1 := wl_ge (f := f) (n := i) (h := h) h0
    cases i with
    | zero =>
      have z : RL.wl size f 0 h = 0 := rfl
      rw [z, Int.sub_zero] at d3
      have := Int.le_of_dvd fq.1 d3
      have e1 : far size h (f h) = RL.wl size f 1 h := by show _ = _ + 0; omega
      have := wl_le (f := f) (h := h) h0 per.p1
      omega
    | succ i =>
      have e1 : far size h (f h) = RL.wl size f 1 h := by show _ = _ + 0; omega
      have := wl_le (f := f) (h := h) h0 (show 1 ≤ i + 1 by omega)
      apply Classical.byContradiction
      intro c
      obtain ⟨k, hk⟩ := d3
      rcases Int.lt_trichotomy k 0 with z | z | z
      · have : W (nm h) * k ≤ W (nm h) * (-1) := Int.mul_le_mul_of_nonneg_left (by omega) (by omega)
        omega
      · rw [z, Int.mul_zero] at hk; omega
      · have : W (nm h) * 1 ≤ W (nm h) * k := Int.mul_le_mul_of_nonneg_left (by omega) (by omega)
        omega
  omega
theorem Pot.part {g : Int → Int} {u v : Int} (P : Pot size hs f nm W φ) (h0 : 0 < size) (cl : ∀ h ∈ hs, f h ∈ hs) (hu : u ∈ hs) (hx : x ∈ hs) (hv : f u = v) (hb : btw size u x v = true) (t : Tr size f x v (far size x v)) (hg : ∀ h, h ≠ u → g h = f h) (gu : g u = x) : Pot size hs g nm W φ := by
  subst hv
  have tk : ∀ a e s, Tr size f a e s → Tr size g a e s := fun a e s z => Tr.part h0 hb t hg gu z
  have cg : ∀ h ∈ hs, g h ∈ hs := fun h hh => by
    by_cases e : h = u
    · rw [e, gu]; exact hx
    · rw [hg h e]; exact cl h hh
  have nx : nm x = nm u := by
    obtain ⟨n, _, e1, _⟩ := t
    have := P.nit cl hx (n := n)
    rw [e1, P.nf u hu] at this
    exact this.symm
  have nf : ∀ h ∈ hs, nm (g h) = nm h := fun h hh => by
    by_cases e : h = u
    · rw [e, gu, nx]
    · rw [hg h e]; exact P.nf h hh
  have st : ∀ h ∈ hs, W (nm h) ∣ far size h (g h) - (φ (g h) - φ h) := fun h hh => by
    by_cases e : h = u
    · rw [e, gu]
      have s1 := btw_split h0 hb
      obtain ⟨n, _, e1, e2⟩ := t
      have d1 := P.wlen cl hx (n := n)
      rw [e1, e2, nx] at d1
      have d2 := Int.dvd_sub (P.st u hu) d1
      rw [show far size u (f u) - (φ (f u) - φ u) - (far size x (f u) - (φ (f u) - φ x)) = far size u x - (φ x - φ u) by omega] at d2
      exact d2
    · rw [hg h e]; exact P.st h hh
  have wlg : ∀ {h : Int} {n : Nat}, h ∈ hs → W (nm h) ∣ RL.wl size g n h - (φ (it g n h) - φ h) := fun {h n} hh => by
    induction n generalizing h with
    | zero => show W (nm h) ∣ (0 : Int) - (φ h - φ h); simp
    | succ n ih =>
      have a1 := ih (cg h hh)
      rw [nf h hh] at a1
      have := Int.dvd_add a1 (st h hh)
      rw [show RL.wl size g n (g h) - (φ (it g n (g h)) - φ (g h)) + (far size h (g h) - (φ (g h) - φ h)) = RL.wl size g (n + 1) h - (φ (it g (n + 1) h) - φ h) by show _ = far size h (g h) + RL.wl size g n (g h) - (φ (it g n (g h)) - φ h); omega] at this
      exact this
  refine ⟨nf, fun p hp q hq e => ?_, P.w0, P.wd, P.pd, st, fun h hh m per => ?_⟩
  · obtain ⟨a, b, e1⟩ := P.mt p hp q hq e
    have e2 : it f (a + 1) p = it f (b + 1) q := by rw [it_succ, it_succ, e1]
    obtain ⟨a', _, c1, _⟩ := tk p _ _ ⟨a + 1, by omega, rfl, rfl⟩
    obtain ⟨b', _, c2, _⟩ := tk q _ _ ⟨b + 1, by omega, rfl, rfl⟩
    exact ⟨a', b', by rw [c1, c2, e2]⟩
  · -- the ring's length: a multiple of W, and W is a way back
    have w0 := P.w0 h hh
    have d1 := wlg (h := h) (n := m) hh
    rw [per.rt, Int.sub_self, Int.sub_zero] at d1
    have p1 := wl_ge (f := g) (n := m) (h := h) h0
    have p2 := per.p1
    have w1 := Int.le_of_dvd (by omega) d1
    obtain ⟨k, k1, _, k2⟩ := on_ring (n := hs.length) cl hh (Nat.le_refl _)
    have hr := it_mem (n := hs.length) cl hh
    obtain ⟨mr, pr⟩ : ∃ mr, Per f (it f hs.length h) mr := by
      have ex : ∃ m, 1 ≤ m ∧ it f m (it f hs.length h) = it f hs.length h := ⟨k, k1, k2⟩
      obtain ⟨m, ⟨m1, m2⟩, m3⟩ : ∃ m, (1 ≤ m ∧ it f m (it f hs.length h) = it f hs.length h) ∧ ∀ k, k < m → ¬ (1 ≤ k ∧ it f k (it f hs.length h) = it f hs.length h) := by
        obtain ⟨m, hm⟩ := ex
        induction m using Nat.strongRecOn with
        | ind m ih =>
          by_cases c : ∃ k, k < m ∧ (1 ≤ k ∧ it f k (it f hs.length h) = it f hs.length h)
          · obtain ⟨k, hk, hk2⟩ := c; exact ih k hk hk2
          · exact ⟨m, hm, fun k hk z => c ⟨k, hk, z⟩⟩
      exact ⟨m, m1, m2, fun j j0 j1 z => m3 j j1 ⟨j0, z⟩⟩
    have wr := P.rg _ hr mr pr
    rw [P.nit cl hh] at wr
    obtain ⟨n, n1, e1, e2⟩ := tk _ _ _ ⟨mr, pr.p1, pr.rt, wr⟩
    have hl : 1 ≤ hs.length := List.length_pos_of_mem hh
    obtain ⟨a, _, c1, _⟩ := tk h _ _ ⟨hs.length, hl, rfl, rfl⟩
    obtain ⟨q, hq⟩ := per.on.back c1
    obtain ⟨s1, s2⟩ := wl_shift (size := size) (i := q) e1
    rw [hq] at s1 s2
    rw [e2] at s2
    have hmn : m ≤ n := Nat.le_of_not_lt fun z => per.no n (by omega) z s1
    have := wl_le (f := g) (h := h) h0 hmn
    omega
end
end RL
set_option synthInstance.maxHeartbeats 4000000
set_option synthInstance.maxSize 4000
namespace RL
def pcOf (hs : List Int) (nm : Int → Int) (h : Int) : List Int := hs.filter fun o => decide (nm o = nm h)
def CycEnd (hs : List Int) (nm W φ : Int → Int) (row : List Int) : Prop := ∀ i h e, row[i]? = some h → row[(i + 1) % row.length]? = some e → IsEnd hs nm W φ h e
section
variable {size : Int} {hs row : List Int} {f nm W φ g : Int → Int} {h p q r e x y a b c : Int} {n m : Nat}
theorem mem_pc : x ∈ pcOf hs nm h ↔ x ∈ hs ∧ nm x = nm h := by unfold pcOf; rw [List.mem_filter, decide_eq_true_iff]
theorem pc_self (hh : h ∈ hs) : h ∈ pcOf hs nm h := mem_pc.mpr ⟨hh, rfl⟩
theorem pc_cong (e : nm h = nm x) : pcOf hs nm h = pcOf hs nm x := by unfold pcOf; rw [e]
theorem Pot.root (P : Pot size hs f nm W φ) (cl : ∀ h ∈ hs, f h ∈ hs) (ha : a ∈ hs) (hb : b ∈ hs) (x : RootOf hs f a r) (y : RootOf hs f b e) : r = e ↔ nm a = nm b := by
  constructor
  · rintro rfl
    obtain ⟨⟨i, hi⟩, _⟩ := x.reach
    obtain ⟨⟨j, hj⟩, _⟩ := y.reach
    rw [← P.nit cl ha (n := i), hi, ← P.nit cl hb (n := j), hj]
  · intro e'
    obtain ⟨i, j, eij⟩ := P.mt a ha b hb e'
    have h1 := x.le y ⟨i, j, eij⟩
    have h2 := y.le x ⟨j, i, eij.symm⟩
    omega
theorem fm_key {w : Int} (e0 : W (nm x) = w) (w0 : 0 < w) : fm W φ nm x e = if (φ x + c) % w < (φ e + c) % w then (φ e + c) % w - (φ x + c) % w else (φ e + c) % w - (φ x + c) % w + w := by
  unfold fm
  rw [e0]
  have n1 := Int.emod_nonneg (φ e + c) (show w ≠ 0 by omega)
  have l1 := Int.emod_lt_of_pos (φ e + c) w0
  have n2 := Int.emod_nonneg (φ x + c) (show w ≠ 0 by omega)
  have l2 := Int.emod_lt_of_pos (φ x + c) w0
  have d1 := emod_dvd (z := w) (X := φ e + c)
  have d2 := emod_dvd (z := w) (X := φ x + c)
  have d3 : w ∣ (φ e + c) % w - (φ x + c) % w - (φ e - φ x) := by
    have := Int.dvd_sub d2 d1
    rw [show φ x + c - (φ x + c) % w - (φ e + c - (φ e + c) % w) = (φ e + c) % w - (φ x + c) % w - (φ e - φ x) by omega] at this
    exact this
  by_cases lt : (φ x + c) % w < (φ e + c) % w
  · rw [if_pos lt]
    have := emod_of d3 (by omega) (by omega)
    rw [this, if_neg (by omega)]
  · rw [if_neg lt]
    by_cases eq : (φ x + c) % w = (φ e + c) % w
    · rw [eq, Int.sub_self] at d3 ⊢
      have := emod_of d3 (by omega) (by omega)
      rw [this, if_pos rfl]; omega
    · have d4 : w ∣ (φ e + c) % w - (φ x + c) % w + w - (φ e - φ x) := by
        have := Int.dvd_add d3 (Int.dvd_refl w)
        rw [show (φ e + c) % w - (φ x + c) % w - (φ e - φ x) + w = (φ e + c) % w - (φ x + c) % w + w - (φ e - φ x) by omega] at this
        exact this
      have := emod_of d4 (by omega) (by omega)
      rw [this, if_neg (by omega)]
theorem Pot.cyc (P : Pot size hs f nm W φ) (hh : h ∈ hs) (hm : ∀ x, x ∈ row ↔ x ∈ hs ∧ nm x = nm h) (up : row.Pairwise fun x y => (φ x + c) % W (nm h) < (φ y + c) % W (nm h)) : CycEnd hs nm W φ row := by
  intro i x e hx he
  have w0 := P.w0 h hh
  have xm := (hm x).mp (List.mem_of_getElem? hx)
  have em := (hm e).mp (List.mem_of_getElem? he)
  have ex : W (nm x) = W (nm h) := by rw [xm.2]
  have il : i < row.length := (List.getElem?_eq_some_iff.mp hx).1
  have ord : ∀ {j k : Nat} {y z : Int}, j < k → row[j]? = some y → row[k]? = some z → (φ y + c) % W (nm h) < (φ z + c) % W (nm h) := fun {j k y z} hjk hy hz => by
    obtain ⟨a1, a2⟩ := List.getElem?_eq_some_iff.mp hy
    obtain ⟨b1, b2⟩ := List.getElem?_eq_some_iff.mp hz
    have := List.pairwise_iff_getElem.mp up j k a1 b1 hjk
    rw [a2, b2] at this
    exact this
  refine ⟨em.1, em.2.trans xm.2.symm, fun q hq hn => ?_⟩
  obtain ⟨j, hj⟩ := List.mem_iff_getElem?.mp ((hm q).mpr ⟨hq, hn.trans xm.2⟩)
  have jl : j < row.length := (List.getElem?_eq_some_iff.mp hj).1
  rw [fm_key (c := c) ex w0, fm_key (c := c) ex w0]
  have n1 := Int.emod_nonneg (φ e + c) (show W (nm h) ≠ 0 by omega)
  have l1 := Int.emod_lt_of_pos (φ e + c) w0
  have n2 := Int.emod_nonneg (φ q + c) (show W (nm h) ≠ 0 by omega)
  have l2 := Int.emod_lt_of_pos (φ q + c) w0
  by_cases last : i + 1 = row.length
  · rw [last, Nat.mod_self] at he
    have c1 : ¬ (φ x + c) % W (nm h) < (φ e + c) % W (nm h) := by
      cases i with
      | zero => rw [hx] at he; cases he; omega
      | succ i => have := ord (Nat.succ_pos i) he hx; omega
    have c2 : ¬ (φ x + c) % W (nm h) < (φ q + c) % W (nm h) := by
      rcases Nat.lt_trichotomy j i with z | z | z
      · have := ord z hj hx; omega
      · subst z; rw [hx] at hj; cases hj; omega
      · omega
    have c3 : (φ e + c) % W (nm h) ≤ (φ q + c) % W (nm h) := by
      cases j with
      | zero => rw [hj] at he; cases he; exact Int.le_refl _
      | succ j => have := ord (Nat.succ_pos j) he hj; omega
    rw [if_neg c1, if_neg c2]; omega
  · rw [Nat.mod_eq_of_lt (by omega)] at he
    have c1 := ord (Nat.lt_succ_self i) hx he
    rw [if_pos c1]
    rcases Nat.lt_or_ge i j with z | z
    · have c2 := ord z hx hj
      rw [if_pos c2]
      rcases Nat.lt_or_eq_of_le (Nat.succ_le_of_lt z) with z2 | z2
      · have := ord z2 he hj; omega
      · rw [← z2, show i.succ = i + 1 from rfl, he] at hj; cases hj; exact Int.le_refl _
    · have c2 : ¬ (φ x + c) % W (nm h) < (φ q + c) % W (nm h) := by
        rcases Nat.lt_or_eq_of_le z with z2 | z2
        · have := ord z2 hj hx; omega
        · subst z2; rw [hx] at hj; cases hj; omega
      rw [if_neg c2]
      have n3 := Int.emod_nonneg (φ x + c) (show W (nm h) ≠ 0 by omega)
      have l3 := Int.emod_lt_of_pos (φ x + c) w0
      omega
theorem wl_rep (e : it f m r = r) : ∀ k : Nat, wl size f (m * k) r = wl size f m r * (k : Int)
  | 0 => by rw [Nat.mul_zero]; show (0 : Int) = _ * 0; rw [Int.mul_zero]
  | k + 1 => by
    rw [Nat.mul_succ, wl_add, wl_rep e k, it_rep e k]
    rw [show ((k + 1 : Nat) : Int) = (k : Int) + 1 by omega, Int.mul_add, Int.mul_one]
theorem two_ways {i j : Nat} (per : Per f r m) (hi : it f i h = r) (hj : it f j h = r) (hij : i ≤ j) : wl size f m r ∣ wl size f j h - wl size f i h := by
  obtain ⟨d, rfl⟩ : ∃ d, j = i + d := ⟨j - i, by omega⟩
  have hd : it f d r = r := by rw [it_add, hi] at hj; exact hj
  have e1 := per.mul (d / m) (d % m)
  rw [Nat.div_add_mod, hd] at e1
  have ml := Nat.mod_lt d per.p1
  have e2 : d % m = 0 := by
    rcases Nat.eq_zero_or_pos (d % m) with z | z
    · exact z
    · exact absurd e1.symm (per.no _ z ml)
  have e3 : d = m * (d / m) := by have := Nat.div_add_mod d m; omega
  rw [wl_add, hi, e3, wl_rep per.rt]
  exact ⟨((d / m : Nat) : Int), by omega⟩
theorem Pot.start (h0 : 0 < size) (cl : ∀ h ∈ hs, f h ∈ hs) (hr : ∀ h ∈ hs, RootOf hs f h (g h)) : ∃ W φ, Pot size hs f g W φ := by
  obtain ⟨W, hW⟩ : ∃ W : Int → Int, ∀ z m, Per f z m → W z = wl size f m z := by
    have : ∀ z : Int, ∃ w : Int, ∀ m, Per f z m → w = wl size f m z := fun z => by
      by_cases c : ∃ m, Per f z m
      · obtain ⟨m, hm⟩ := c; exact ⟨wl size f m z, fun m' hm' => by rw [hm.uniq hm']⟩
      · exact ⟨0, fun m hm => absurd ⟨m, hm⟩ c⟩
    exact Classical.axiomOfChoice this
  obtain ⟨φ, hφ⟩ : ∃ φ : Int → Int, ∀ h, h ∈ hs → ∃ n, it f n h = g h ∧ φ h = g h - wl size f n h := by
    have : ∀ h : Int, ∃ y : Int, h ∈ hs → ∃ n, it f n h = g h ∧ y = g h - wl size f n h := fun h => by
      by_cases c : h ∈ hs
      · obtain ⟨⟨n, hn⟩, _⟩ := (hr h c).reach
        exact ⟨_, fun _ => ⟨n, hn, rfl⟩⟩
      · exact ⟨0, fun z => absurd z c⟩
    exact Classical.axiomOfChoice this
  have rper : ∀ h ∈ hs, ∃ m, Per f (g h) m := fun h hh => by
    obtain ⟨m, per, hm, _⟩ := hr h hh
    obtain ⟨i, hi⟩ := (ringL_iff per).mp hm
    exact ⟨m, per.at_ hi⟩
  have nf : ∀ h ∈ hs, g (f h) = g h := fun h hh => by
    have h1 := (hr _ (cl h hh)).le (hr h hh) ⟨0, 1, rfl⟩
    have h2 := (hr h hh).le (hr _ (cl h hh)) ⟨1, 0, rfl⟩
    omega
  refine ⟨W, φ, nf, fun p hp q hq e => ?_, fun h hh => ?_, fun h hh => ?_, fun h hh => ?_, fun h hh => ?_, fun h hh m per => ?_⟩
  · obtain ⟨⟨a, ha⟩, _⟩ := (hr p hp).reach
    obtain ⟨⟨b, hb⟩, _⟩ := (hr q hq).reach
    exact ⟨a, b, by rw [ha, hb, e]⟩
  · obtain ⟨m, per⟩ := rper h hh
    rw [hW _ m per]
    have := wl_ge (f := f) (n := m) (h := g h) h0
    have := per.p1
    omega
  · obtain ⟨m, per⟩ := rper h hh
    rw [hW _ m per]
    have := wl_dvd (f := f) (n := m) (h := g h) h0
    rw [per.rt, Int.sub_self, Int.sub_zero] at this
    exact this
  · obtain ⟨n, e1, e2⟩ := hφ h hh
    rw [e2]
    have := wl_dvd (f := f) (n := n) (h := h) h0
    have := Int.dvd_neg.mpr this
    rw [e1, show -(wl size f n h - (g h - h)) = g h - wl size f n h - h by omega] at this
    exact this
  · obtain ⟨m, per⟩ := rper h hh
    obtain ⟨n, e1, e2⟩ := hφ h hh
    obtain ⟨n', e3, e4⟩ := hφ (f h) (cl h hh)
    rw [nf h hh] at e3 e4
    rw [hW _ m per, e2, e4]
    have e5 : it f (n' + 1) h = g h := e3
    have e6 : wl size f (n' + 1) h = far size h (f h) + wl size f n' (f h) := rfl
    have goal : wl size f m (g h) ∣ wl size f (n' + 1) h - wl size f n h := by
      rcases Nat.le_total n (n' + 1) with z | z
      · exact two_ways per e1 e5 z
      · have := Int.dvd_neg.mpr (two_ways (size := size) per e5 e1 z)
        rw [Int.neg_sub] at this
        exact this
    rw [e6] at goal
    rw [show far size h (f h) - (g h - wl size f n' (f h) - (g h - wl size f n h)) = far size h (f h) + wl size f n' (f h) - wl size f n h by omega]
    exact goal
  · obtain ⟨⟨i, hi⟩, _⟩ := (hr h hh).reach
    rw [hW _ m (per.at_ hi)]
    have := (wl_shift (size := size) (i := i) per.rt).2
    rw [hi] at this
    exact this.symm
theorem Pot.whole {m' n' : Nat} {r' : Int} (P : Pot size hs f nm W φ) (cl : ∀ h ∈ hs, f h ∈ hs) (hh : h ∈ hs) (per : Per f r' m') (e : it f n' h = r') : wl size f m' r' / size * size = W (nm h) := by
  have rm := it_mem (n := n') cl hh
  rw [e] at rm
  have e1 := P.rg r' rm m' per
  have e2 := P.nit cl hh (n := n')
  rw [e] at e2
  rw [e1, e2]
  exact Int.ediv_mul_cancel (P.wd h hh)
theorem Pot.rowp {key : Int → Int} (P : Pot size hs f nm W φ) (on : ∀ h ∈ hs, 0 ≤ h ∧ h < size) (hh : h ∈ hs) (nd : hs.Nodup) (pm : row.Perm (pcOf hs nm h)) (hk : ∀ x ∈ hs, nm x = nm h → key x = (φ x + c) % W (nm h)) (up : row.Pairwise fun x y => key x < key y ∨ (key x = key y ∧ x ≤ y)) : row.Nodup ∧ (∀ x, x ∈ row ↔ x ∈ hs ∧ nm x = nm h) ∧ row.Pairwise fun x y => (φ x + c) % W (nm h) < (φ y + c) % W (nm h) := by
  have nd' : row.Nodup := pm.nodup_iff.mpr (nd.filter _)
  have hm : ∀ x, x ∈ row ↔ x ∈ hs ∧ nm x = nm h := fun x => by rw [pm.mem_iff, mem_pc]
  refine ⟨nd', hm, ?_⟩
  have ne : row.Pairwise (· ≠ ·) := nd'
  refine List.Pairwise.imp_of_mem (R := fun x y => x ≠ y ∧ (key x < key y ∨ (key x = key y ∧ x ≤ y))) (fun {x y} hx hy hxy => ?_) (List.Pairwise.and ne up)
  have xm := (hm x).mp hx
  have ym := (hm y).mp hy
  rw [← hk x xm.1 xm.2, ← hk y ym.1 ym.2]
  rcases hxy.2 with z | z
  · exact z
  · exfalso
    have e := z.1
    rw [hk x xm.1 xm.2, hk y ym.1 ym.2] at e
    have d := eq_of_emod e
    rw [show φ x + c - (φ y + c) = φ x - φ y by omega, ← xm.2] at d
    exact hxy.1 (P.inj on xm.1 ym.1 (xm.2.trans ym.2.symm) d)
end
end RL
set_option synthInstance.maxHeartbeats 4000000
set_option synthInstance.maxSize 4000
namespace RL
def spWayAlong : Sp := fun vs H Q _ => ∃ (a : Addr) (hs : List Int) (f : Int → Int) (s e : Int) (_ _ : Unit), vs = [.ref a, .int s, .int e] ∧ NxAt H a hs f ∧ hs.length ≤ 60 ∧ s ∈ hs ∧ (∃ n, it f n s = e) ∧
  ∀ l n H', H l = none → H' l = some (.lst ((ringL f s (n + 1)).map V.int)) → it f n s = e → (∀ j, j < n → it f j s ≠ e) → n < hs.length → Fr [] H H' → Q (.ref l) H'
section
variable {P : Program} {w : World} {K : PySem.W.Frag} {mg : Str → Option Value} {base : Heap} {CNet CMender CDesk CStore CWalk : Addr}
abbrev s_way_along : Stmt := top 12
theorem sc_way_along : FnScope ["nexts", "start", "end", "houses", "_"] ["nexts", "start", "end"] (defScope s_way_along) := ⟨rfl, rfl, rfl, by decide +kernel, rfl, by decide +kernel, by decide +kernel⟩
theorem ok_way_along {f : Addr} {fd : FuncData} (F : Fun K "way_along" "way_along" s_way_along f fd) (m_range : mg "range" = none) (m_len : mg "len" = none) : FnOk P w K mg base CX0 1 f fd ["nexts", "start", "end"] spWayAlong := by
  refine F.ok sc_way_along (fun vs H Q E h => ?_) (fun cdv A outer s H vs Q E hr h => ?_)
  · obtain ⟨_, _, _, _, _, _, _, rfl, _⟩ := h; rfl
  · obtain ⟨a, hs, f, s', e, _, _, rfl, N, hlen, hh, hto, k⟩ := h
    refine ⟨_, (pss_cons (ps_set (i := 3) sc_way_along.nd rfl (Or.inl rfl) (pe_lst (pa_cons (pv 1) pa_nil)))
      (pss_cons (ps_for PassesOwn.never rfl (pi_range1 (by rfl) m_range (pa_cons (pe_callB cb_lenD (by rfl) m_len b_len (pa_cons (pv 0) pa_nil)) pa_nil)) (pg_name (i := 4) sc_way_along.nd rfl (Or.inl rfl))
      (pss_cons (ps_if (pt_cmpR op_eq (pe_ix (ix_listK (K := K) rfl) (pv 3) (pe_un un_neg pe_int) (by intro _ _; rfl)) (pv 2) (nomark _)) (pss_one (ps_ret (pv 3))) pss_nil)
      (pss_one (ps_expr (pe_bmK (K := K) rfl PySem.F.plainAttrs_list PySem.F.slot_list_append PySem.F.type_list_append mt_append (pv 3) (pa_cons (pe_dget (hu_of hr) (pv 0) (pe_ix (ix_listK (K := K) rfl) (pv 3) (pe_un un_neg pe_int) (by intro _ _; rfl)) (by intro _ _; rfl)) pa_nil))))))
      (pss_one (ps_ret pe_non)))), ?_⟩
    (try simp only [cxK, cxKX, List.map])
    refine ent (σ' := [some _, some _, some _, none, none]) rfl ?_
    obtain ⟨kn, rd, dk, hkl⟩ := N.ex
    k_offL
    refine lstk (by show 1 ≤ 100000; decide) fun l H1 n1 e1 f1 => ?_
    k_offL
    refine r_lenD (f1.rd rd List.not_mem_nil) ?_
    rw [hkl]
    k_offL
    refine loopR1 _ (by omega) (by omega) (fun i σ' H' => (∃ v, σ' = [some (.ref a), some (.int s'), some (.int e), some (.ref l), v]) ∧ H' l = some (.lst ((ringL f s' (i + 1)).map V.int)) ∧ (∀ j, j < i → it f j s' ≠ e) ∧ Fr [] H H') ⟨⟨_, rfl⟩, e1, fun j z => absurd z (by omega), f1⟩ ?_ ?_
    · rintro i σ' H2 hi ⟨⟨v, rfl⟩, e2, no, f2⟩
      have last : H2 l = some (.lst ((ringL f s' i).map V.int ++ [V.int (it f i s')])) := by rw [e2, ringL_succ, List.map_append]; rfl
      k_offL
      refine r_ixL (sqL_of last) (atI_last _ _) ?_
      k_offL
      refine ifD (fun ee => ?_) (fun ee => ?_)
      · k_offL
        exact k l i H2 n1 e2 ee no (by omega) f2
      · k_offL
        refine r_ixL (sqL_of last) (atI_last _ _) ?_
        k_offL
        refine (N.ex0 f2).get (it_mem N.cl hh) ?_
        k_offL
        refine r_app e2 (by rw [List.length_map, ringL_len]; omega) fun H3 e3 f3 => ?_
        k_offL
        refine ⟨⟨_, rfl⟩, by rw [e3, ringL_succ (m := i + 1), List.map_append, it_succ]; rfl, fun j hj => ?_, f2.drop f3 n1⟩
        rcases Nat.lt_or_eq_of_le (Nat.le_of_lt_succ hj) with z | z
        · exact no j z
        · rw [z]; exact ee
    · rintro σ' H2 ⟨⟨v, rfl⟩, e2, no, f2⟩
      exfalso
      rw [show ((hs.length : Int)).toNat = hs.length by omega] at no
      obtain ⟨n, hn⟩ := hto
      have : ∃ j, j < hs.length ∧ it f j s' = e := by
        induction n using Nat.strongRecOn with
        | ind n ih =>
          by_cases hc : n < hs.length
          · exact ⟨n, hc, hn⟩
          · obtain ⟨i, j, hij, hj, ee⟩ := pigeon (c := fun i => it f i s') (Nat.le_refl hs.length) fun i _ => it_mem N.cl hh
            have ee' : it f i s' = it f j s' := ee
            refine ih (i + (n - j)) (by omega) ?_
            rw [it_add, ee', ← it_add, show j + (n - j) = n by omega]
            exact hn
      obtain ⟨j, h1, h2⟩ := this
      exact no j h1 h2
end
def spLengthAlong (K : PySem.W.Frag) : Sp := fun vs H Q _ => ∃ (size : Int) (l : Addr) (f : Int → Int) (r : Int) (n : Nat) (_ _ : Unit), vs = [.int size, .ref l] ∧ SqL K H l ((ringL f r (n + 1)).map V.int) ∧ 0 < size ∧ n ≤ 1000 ∧ ∀ H', Fr [] H H' → Q (.int (wl size f n r)) H'
section
variable {P : Program} {w : World} {K : PySem.W.Frag} {mg : Str → Option Value} {base : Heap} {CNet CMender CDesk CStore CWalk : Addr}
abbrev s_length_along : Stmt := top 13
theorem sc_length_along : FnScope ["size", "houses", "k"] ["size", "houses"] (defScope s_length_along) := ⟨rfl, rfl, rfl, by decide +kernel, rfl, by decide +kernel, by decide +kernel⟩
theorem ok_length_along {f : Addr} {fd : FuncData} (F : Fun K "length_along" "length_along" s_length_along f fd) (m_sum : mg "sum" = none) (m_range : mg "range" = none) (m_len : mg "len" = none) (G_far : GF P w K mg base "far" 1 ["size", "start", "end"] spFar) : FnOk P w K mg base CX0 2 f fd ["size", "houses"] (spLengthAlong K) := by
  refine F.ok sc_length_along (fun vs H Q E h => ?_) (fun cdv A outer s H vs Q E hr h => ?_)
  · obtain ⟨_, _, _, _, _, _, _, rfl, _⟩ := h; rfl
  · obtain ⟨size, l, f, r, n, _, _, rfl, hl, h0, hn, k⟩ := h
    refine ⟨_, (pss_one (ps_ret (pe_callB (cb_sumK (K := K) rfl rfl) (by rfl) m_sum b_sum (pa_cons (pe_lc (own := [("k", 2)]) (g := gName 2) rfl sc_length_along.nd (pi_range1 (by rfl) m_range (pa_cons (pe_op op_sub (pe_callB (cb_lenSK (K := K) rfl) (by rfl) m_len b_len (pa_cons (pv 1) pa_nil)) pe_int) pa_nil)) (blkOk_by (N := ["size", "houses", "k"]) (sc := defScope s_length_along) (by decide +kernel)) (fun _ _ _ _ _ => (pg_name (i := 2) sc_length_along.nd rfl (Or.inl rfl))) (fun _ _ _ _ _ => pts_nil) (fun _ _ _ _ _ => (c_fn G_far (hr.mono (by decide)) (pa_cons (pv 0) (pa_cons (pe_ix (ix_listK (K := K) rfl) (pv 1) (pv 2) (by intro _ _; rfl)) (pa_cons (pe_ix (ix_listK (K := K) rfl) (pv 1) (pe_op op_add (pv 2) pe_int) (by intro _ _; rfl)) pa_nil)))))) pa_nil)))), ?_⟩
    (try simp only [cxK, cxKX, List.map])
    refine ent (σ' := [some _, some _, none]) rfl ?_
    k_offL
    refine r_lenL hl ?_
    rw [List.length_map, ringL_len]
    k_offL
    rw [show ((n + 1 : Nat) : Int) - 1 = (n : Int) by omega]
    refine ⟨(n : Int), rfl, by omega, by omega, ?_⟩
    refine lcW (walk_range (lo := 0)) (fun i acc H' => acc = ((List.range i).map fun k => far size (it f k r) (f (it f k r))).map V.int ∧ Fr [] H H') (fun D H' _ _ f => ⟨rfl, f⟩) (fun _ _ _ _ _ => trivial) (by omega) (fun i acc H' ⟨e, _⟩ => by rw [e, List.length_map, List.length_map, List.length_range]; exact Nat.le_refl _) ?_ ?_
    · rintro D i x acc H0 H' hi hD eD ⟨ea, f0⟩ ⟨rfl, ex⟩
      have ex : x = .int (i : Int) := by rw [ex]; show V.int (0 + (i : Int)) = _; rw [Int.zero_add]
      subst ex
      have hi' : i < n := by simpa using hi
      refine sk2 fun R1 R2 kA kB kC => kB _ ?_
      k_offL
      refine r_ixL (f0.sqL hl List.not_mem_nil) (ix_at i rfl (by rw [List.getElem?_map, ringL_at (by omega)]; rfl)) ?_
      k_offL
      refine r_ixL (f0.sqL hl List.not_mem_nil) (ix_at (i + 1) (by omega) (by rw [List.getElem?_map, ringL_at (show i + 1 < n + 1 by omega)]; rfl)) ?_
      k_offL
      refine i_far h0 ?_
      refine kA _ _ eD fun H10 e10 f10 => ⟨?_, f0.drop f10 hD⟩
      rw [ea, List.range_succ, List.map_append, List.map_append, it_succ]; rfl
    rintro p H2 acc np ep ⟨ea, f2⟩
    rw [ea, show ((n : Int)).toNat = n by omega] at ep
    k_offL
    refine r_sum (sqL_of ep) ?_
    have := ring_sum (size := size) (f := f) (r := r) n
    unfold ringL at this
    rw [List.map_map] at this
    rw [show ((List.range n).map fun k => far size (it f k r) (f (it f k r))).sum = wl size f n r from this]
    k_offL
    exact k H2 f2
end
def spRingRoots : Sp := fun vs H Q _ => ∃ (a : Addr) (hs : List Int) (f : Int → Int) (_ : Unit), vs = [.ref a] ∧ NxAt H a hs f ∧ hs.Pairwise (· < ·) ∧ hs.length ≤ 60 ∧
  ∀ l kvs g H', H l = none → H' l = some (.dK kvs) → DOk kvs (mfOf hs g) → (∀ h ∈ hs, RootOf hs f h (g h)) → Fr [] H H' → Q (.ref l) H'
theorem it_first {f : Int → Int} {h : Int} {j i : Nat} (hj : j < i) (e : it f i h = it f j h) (no : ∀ k k', k < k' → k' < i → it f k h ≠ it f k' h) : Per f (it f j h) (i - j) := by
  refine ⟨by omega, ?_, fun d d0 d1 e2 => ?_⟩
  · rw [← it_add, show j + (i - j) = i by omega, e]
  · rw [← it_add] at e2
    exact no j (j + d) (by omega) (by omega) e2.symm
theorem ringL_drop {f : Int → Int} {h : Int} {i j : Nat} (hj : j ≤ i) : (ringL f h i).drop j = ringL f (it f j h) (i - j) := by
  apply List.ext_getElem?
  intro k
  rw [List.getElem?_drop]
  by_cases hk : k < i - j
  · rw [ringL_at (show j + k < i by omega), ringL_at hk, it_add]
  · rw [List.getElem?_eq_none (by rw [ringL_len]; omega), List.getElem?_eq_none (by rw [ringL_len]; omega)]
theorem NxAt.off {H : Hp} {a t : Addr} {hs : List Int} {f : Int → Int} (x : NxAt H a hs f) (n : H t = none) : a ≠ t := by
  obtain ⟨_, rd, _⟩ := x.ex
  intro e
  subst e
  rcases rd with rd | ⟨o, rd⟩ <;> rw [n] at rd <;> cases rd
def RtOf (hs : List Int) (f : Int → Int) (kvs : List (Key × V)) (D : List Int) (g : Int → Int) : Prop := DOk kvs (mfOf D g) ∧ ∀ h ∈ D, h ∈ hs ∧ RootOf hs f h (g h)
theorem RtOf.put {hs : List Int} {f : Int → Int} {kvs : List (Key × V)} {D : List Int} {g : Int → Int} {h r : Int} (x : RtOf hs f kvs D g) (hh : h ∈ hs) (hr : RootOf hs f h r) : RtOf hs f (putK kvs (.inl h) (.int r)) (D ++ [h]) (fun y => if y = h then r else g y) := by
  obtain ⟨d, hd⟩ := x
  refine ⟨d.put.cong fun n => ?_, fun y hy => ?_⟩
  · unfold mfOf
    show _ = if n ∈ D ++ [h] then some (V.int (if n = h then r else g n)) else none
    by_cases e : n = h
    · rw [if_pos e, if_pos (List.mem_append_right _ (List.mem_singleton.mpr e)), if_pos e]
    · rw [if_neg e, if_neg e]
      by_cases m : n ∈ D
      · rw [if_pos m, if_pos (List.mem_append_left _ m)]
      · rw [if_neg m, if_neg fun z => (List.mem_append.mp z).elim m fun z => e (List.mem_singleton.mp z)]
  · show y ∈ hs ∧ RootOf hs f y (if y = h then r else g y)
    by_cases e : y = h
    · rw [if_pos e, e]; exact ⟨hh, hr⟩
    · rw [if_neg e]
      exact hd y ((List.mem_append.mp hy).resolve_right fun z => e (List.mem_singleton.mp z))
theorem RtOf.le {hs : List Int} {f : Int → Int} {kvs : List (Key × V)} {D : List Int} {g : Int → Int} (x : RtOf hs f kvs D g) : kvs.length ≤ hs.length :=
  x.1.le fun n hn => (x.2 n (mfOf_some.mpr hn)).1
section
variable {P : Program} {w : World} {K : PySem.W.Frag} {mg : Str → Option Value} {base : Heap} {CNet CMender CDesk CStore CWalk : Addr}
abbrev s_ring_roots : Stmt := top 15
theorem sc_ring_roots : FnScope ["nexts", "roots", "house", "trail", "at", "root", "one"] ["nexts"] (defScope s_ring_roots) := ⟨rfl, rfl, rfl, by decide +kernel, rfl, by decide +kernel, by decide +kernel⟩
theorem ok_ring_roots {f : Addr} {fd : FuncData} (F : Fun K "ring_roots" "ring_roots" s_ring_roots f fd) (m_sorted : mg "sorted" = none) (m_min : mg "min" = none) : FnOk P w K mg base CX0 1 f fd ["nexts"] spRingRoots := by
  refine F.ok sc_ring_roots (fun vs H Q E h => ?_) (fun cdv A outer s H vs Q E hr h => ?_)
  · obtain ⟨_, _, _, _, rfl, _⟩ := h; rfl
  · obtain ⟨a, hs, f, _, rfl, N, up, hlen, k⟩ := h
    refine ⟨_, (pss_cons (ps_set (i := 1) sc_ring_roots.nd rfl (Or.inl rfl) pe_dnewK)
      (pss_cons (ps_for PassesOwn.never rfl (pi_listK (K := K) rfl (pe_callB (cb_sortD rfl) (by rfl) m_sorted b_sorted (pa_cons (pv 0) pa_nil))) (pg_name (i := 2) sc_ring_roots.nd rfl (Or.inl rfl))
      (pss_cons (ps_set (i := 3) sc_ring_roots.nd rfl (Or.inl rfl) (pe_lst pa_nil))
      (pss_cons (ps_set (i := 4) sc_ring_roots.nd rfl (Or.inl rfl) (pv 2))
      (pss_cons (ps_while PassesOwn.never (PW.pt (pw_and (pt_cmp (pc_dnotin (hu_of hr) (pv 4) (pv 1))) (pw_and1 (pt_cmpR (op_ninK (K := K) rfl) (pv 4) (pv 3) (by rfl))))) (pss_cons (ps_expr (pe_bmK (K := K) rfl PySem.F.plainAttrs_list PySem.F.slot_list_append PySem.F.type_list_append mt_append (pv 3) (pa_cons (pv 4) pa_nil)))
      (pss_one (ps_set (i := 4) sc_ring_roots.nd rfl (Or.inl rfl) (pe_dget (hu_of hr) (pv 0) (pv 4) (by intro _ _; rfl))))))
      (pss_cons (ps_set (i := 5) sc_ring_roots.nd rfl (Or.inl rfl) (pe_ifExp (pt_cmp (pc_din (hu_of hr) (pv 4) (pv 1))) (pe_dget (hu_of hr) (pv 1) (pv 4) (by intro _ _; rfl)) (pe_callB (cb_minK (K := K) rfl rfl) (by rfl) m_min b_min (pa_cons (pe_slice (sl_listK (K := K) rfl) (pv 3) (po_some (pe_bmK (K := K) rfl PySem.F.plainAttrs_list PySem.F.slot_list_index PySem.F.type_list_index (mt_indexK (K := K) rfl) (pv 3) (pa_cons (pv 4) pa_nil))) po_none) pa_nil))))
      (pss_one (ps_for PassesOwn.never rfl (pi_listK (K := K) rfl (pv 3)) (pg_name (i := 6) sc_ring_roots.nd rfl (Or.inl rfl))
      (pss_one (ps_dput (hu_of hr) (pv 1) (pv 6) (pv 5) rfl)))))))))
      (pss_one (ps_ret (pv 1))))), ?_⟩
    (try simp only [cxK, cxKX, List.map])
    refine ent (σ' := [some _, none, none, none, none, none, none]) rfl ?_
    obtain ⟨kn, rd, dk, hkl⟩ := N.ex
    k_offL
    refine newk fun rl H1 n1 e1 f1 => ?_
    k_offL
    refine r_sortD (f1.rd rd List.not_mem_nil) dk ⟨up, fun n => mfOf_some⟩ (by omega) fun l2 H2 n2 e2 f2 => ?_
    have rl_l2 : rl ≠ l2 := ne_of_none e1 n2
    have e12 := f2.at_ _ _ e1 List.not_mem_nil
    refine loopLF (M := [rl]) (hs.map V.int) (sqL_of e2) (mem_one rl_l2.symm) (fun i σ' H' => ∃ (v2 v3 v4 v5 v6 : Option V) (kvs : List (Key × V)) (D : List Int) (g : Int → Int), σ' = [some (.ref a), some (.ref rl), v2, v3, v4, v5, v6] ∧ H' rl = some (.dK kvs) ∧ RtOf hs f kvs D g ∧ (∀ h ∈ hs.take i, h ∈ D) ∧ Fr [rl] H2 H')
      ⟨_, _, _, _, _, [], [], fun _ => 0, rfl, e12, ⟨DOk.nil.cong fun n => rfl, fun _ h => nomatch h⟩, (fun h m => by rw [List.take_zero] at m; cases m), Fr.refl _ _⟩ (fun i σ' H' ⟨_, _, _, _, _, _, _, _, _, _, _, _, g⟩ => g) ?_ ?_
    · rintro i x σ' H3 hi ⟨v2, v3, v4, v5, v6, kvs, D, g, rfl, e3, R, hD, f3⟩
      obtain ⟨h, hh, hm, rfl⟩ := mem_ints hi
      have a_rl : a ∉ [rl] := mem_one (N.off n1)
      have N3 : NxAt H3 a hs f := ((N.ex0 f1).ex0 f2).fr f3 a_rl
      k_offL
      refine lstk (by show 0 ≤ 100000; decide) fun tl H4 n4 e4 f4 => ?_
      have tl_rl : rl ≠ tl := ne_of_none e3 n4
      have e34 := f4.at_ _ _ e3 List.not_mem_nil
      k_offL
      refine q_while (fun m σ' H' => ∃ i : Nat, m + i = hs.length + 1 ∧ i ≤ hs.length ∧ σ' = [some (.ref a), some (.ref rl), some (.int h), some (.ref tl), some (.int (it f i h)), v5, v6] ∧ H' tl = some (.lst ((ringL f h i).map V.int)) ∧ (∀ j, j < i → it f j h ∉ D) ∧ (∀ k k', k < k' → k' < i → it f k h ≠ it f k' h) ∧ Fr [tl] H4 H') (hs.length + 1)
        ⟨0, rfl, Nat.zero_le _, rfl, e4, fun j z => absurd z (by omega), fun k k' _ z => absurd z (by omega), Fr.refl _ _⟩ ?_
      rintro m σ' H5 ⟨i, hmi, hil, rfl, e5, noD, nod, f5⟩ Nx Rr kN kT kF
      have e35 := f5.at_ _ _ e34 (mem_one tl_rl)
      have N5 := (N3.ex0 f4).fr f5 (mem_one (N3.off n4))
      have him := it_mem (n := i) N.cl hm
      have val : ∀ y, valV kvs (.inl y) = mfOf D g y := R.1.val
      refine cutT (fun b H' => H' = H5 ∧ ((b = true ∧ it f i h ∉ D ∧ it f i h ∉ ringL f h i) ∨ (b = false ∧ (it f i h ∈ D ∨ (it f i h ∉ D ∧ it f i h ∈ ringL f h i))))) (fun R' kR => ?_) ?_
      · k_offL
        refine dink (.inl e35) ?_
        rw [val]
        by_cases mD : it f i h ∈ D
        · rw [mfOf_at mD]
          refine blk (ifE (show (!(some (V.int (g (it f i h)))).isSome) = false from rfl) (ifF ?_))
          exact kR _ _ ⟨rfl, .inr ⟨rfl, .inl mD⟩⟩
        · rw [show mfOf D g (it f i h) = none from if_neg mD]
          refine blk (ifE (show (!(none : Option V).isSome) = true from rfl) (ifT ?_))
          k_offL
          refine r_ninI (sqL_of e5) ?_
          k_offL
          by_cases mT : it f i h ∈ ringL f h i
          · rw [decide_eq_true mT]
            exact kR _ _ ⟨rfl, .inr ⟨rfl, .inr ⟨mD, mT⟩⟩⟩
          · rw [decide_eq_false mT]
            exact kR _ _ ⟨rfl, .inl ⟨rfl, mD, mT⟩⟩
      rintro b H6 ⟨e6, hb⟩
      subst e6
      rcases hb with ⟨rfl, mD, mT⟩ | ⟨rfl, hb⟩
      · refine kT _ ?_
        have nodi : ∀ k k', k < k' → k' < i + 1 → it f k h ≠ it f k' h := fun k k' h1 h2 => by
          rcases Nat.lt_or_eq_of_le (Nat.le_of_lt_succ h2) with z | z
          · exact nod k k' h1 z
          · rw [z]; exact fun e => mT (List.mem_map.mpr ⟨k, List.mem_range.mpr (by omega), e⟩)
        have hil' : i + 1 ≤ hs.length := by
          have nd : (ringL f h (i + 1)).Nodup := by
            unfold ringL
            rw [List.nodup_iff_pairwise_ne, List.pairwise_map]
            refine List.Pairwise.imp_of_mem (R := (· < ·)) (fun {i j} hi hj hlt => nodi i j hlt (List.mem_range.mp hj)) List.pairwise_lt_range
          have := nodup_sub_len nd (ringL_mem N.cl hm)
          rw [ringL_len] at this
          exact this
        k_offL
        refine r_app e5 (by rw [List.length_map, ringL_len]; omega) fun H7 e7 f7 => ?_
        k_offL
        refine (N5.fr f7 (mem_one (N3.off n4))).get him ?_
        k_offL
        refine kN (m - 1) _ _ (by omega) ⟨i + 1, by omega, hil', by rw [it_succ], by rw [e7, ringL_succ, List.map_append]; rfl, fun j hj => ?_, nodi, f5.trans f7⟩
        rcases Nat.lt_or_eq_of_le (Nat.le_of_lt_succ hj) with z | z
        · exact noD j z
        · rw [z]; exact mD
      · refine kF _ ?_
        refine q_asgM (fun v H' => ∃ r, v = .int r ∧ Fr [] H6 H' ∧ ∀ j, j < i → RootOf hs f (it f j h) r) (fun R' kR => ?_) ?_
        · rcases hb with mD | ⟨mD, mT⟩
          · k_offL
            refine dink (.inl e35) ?_
            rw [val, mfOf_at mD]
            refine blk (ifE rfl (ifT ?_))
            k_offL
            refine dgetk (.inl e35) (by rw [val, mfOf_at mD]) ?_
            refine kR _ _ ⟨_, rfl, Fr.refl _ _, fun j hj => ?_⟩
            refine RootOf.pre (a := i - j) N.cl (it_mem N.cl hm) ?_
            rw [← it_add, show j + (i - j) = i by omega]
            exact (R.2 _ mD).2
          · k_offL
            refine dink (.inl e35) ?_
            rw [val, show mfOf D g (it f i h) = none from if_neg mD]
            refine blk (ifE rfl (ifF ?_))
            obtain ⟨j0, hj0, ej⟩ := List.mem_map.mp mT
            have hj0 := List.mem_range.mp hj0
            have per := it_first hj0 ej.symm nod
            have ndt : (ringL f h i).Nodup := by
              unfold ringL
              rw [List.nodup_iff_pairwise_ne, List.pairwise_map]
              exact List.Pairwise.imp_of_mem (R := (· < ·)) (fun {i j} hi hj hlt => nod i j hlt (List.mem_range.mp hj)) List.pairwise_lt_range
            k_offL
            refine r_indexN (sqL_of e5) ndt (j := j0) (by rw [ringL_at hj0, ej]) ?_
            k_offL
            refine r_slL (sqL_of e5) fun l7 H7 n7 e7 f7 => ?_
            rw [cut_from, ← List.map_drop, ringL_drop (Nat.le_of_lt hj0)] at e7
            k_offL
            refine r_min (sqL_of e7) (by rw [ringL_len]; omega) fun r h1 h2 => ?_
            refine kR _ _ ⟨r, rfl, f7, fun j hj => ?_⟩
            by_cases hjj : j ≤ j0
            · exact .mk' N.cl (it_mem N.cl hm) (a := j0 - j) (by rw [← it_add, show j + (j0 - j) = j0 by omega]) per h1 h2
            · exact .mk' N.cl (it_mem N.cl hm) (a := i - j) (by rw [← it_add, show j + (i - j) = i by omega, ej]) per h1 h2
        rintro _ H7 ⟨r, rfl, f7, hr⟩
        have e37 := f7.at_ _ _ e35 List.not_mem_nil
        have e57 := f7.at_ _ _ e5 List.not_mem_nil
        k_offL
        refine loopLF (M := [rl]) ((ringL f h i).map V.int) (sqL_of e57) (mem_one tl_rl.symm) (fun q σ' H' => ∃ (v6 : Option V) (kvs : List (Key × V)) (g : Int → Int), σ' = [some (.ref a), some (.ref rl), some (.int h), some (.ref tl), some (.int (it f i h)), some (.int r), v6] ∧ H' rl = some (.dK kvs) ∧ RtOf hs f kvs (D ++ (ringL f h i).take q) g ∧ Fr [rl] H7 H')
          ⟨_, kvs, g, rfl, e37, by rw [List.take_zero, List.append_nil]; exact R, Fr.refl _ _⟩ (fun q σ' H' ⟨_, _, _, _, _, _, g⟩ => g) ?_ ?_
        · rintro q x σ' H8 hq ⟨v6, kvs8, g8, rfl, e8, R8, f8⟩
          obtain ⟨y, hy, ym, rfl⟩ := mem_ints hq
          have hqi : q < i := by have := (List.getElem?_eq_some_iff.mp hy).1; rw [ringL_len] at this; exact this
          rw [ringL_at hqi] at hy
          have ey := Option.some.inj hy
          k_offL
          refine dputk e8 (by have := R8.le; omega) fun H9 e9 f9 => ?_
          have R9 := R8.put (r := r) (h := y) (ey ▸ it_mem N.cl hm) (ey ▸ hr q hqi)
          rw [List.append_assoc, ← take_snoc (x := y) (by rw [ringL_at hqi, ey])] at R9
          exact ⟨_, _, _, rfl, e9, R9, f8.trans f9⟩
        · rintro σ' H8 ⟨v6, kvs8, g8, rfl, e8, R8, f8⟩
          rw [List.length_map, List.take_length] at R8
          refine ⟨_, _, _, _, _, kvs8, _, g8, rfl, e8, R8, fun y hy => ?_, ?_⟩
          · rw [take_snoc hh] at hy
            rcases List.mem_append.mp hy with z | z
            · exact List.mem_append_left _ (hD y z)
            · rw [List.mem_singleton.mp z]
              by_cases i0 : i = 0
              · subst i0
                rcases hb with mD | ⟨_, mT⟩
                · exact List.mem_append_left _ mD
                · cases mT
              · exact List.mem_append_right _ (List.mem_map.mpr ⟨0, List.mem_range.mpr (by omega), rfl⟩)
          · have g38 : Fr [tl, rl] H3 H8 := (f4.up.trans (f5.mono fun a h => by simp at h; simp [h])).trans (f7.up.trans (f8.mono fun a h => by simp at h; simp [h]))
            exact f3.trans ((Fr.refl [rl] H3).drop g38 n4)
    · rintro σ' H3 ⟨v2, v3, v4, v5, v6, kvs, D, g, rfl, e3, R, hD, f3⟩
      rw [List.length_map, List.take_length] at hD
      k_offL
      refine k rl kvs g H3 n1 e3 (R.1.cong fun n => ?_) (fun h hh => (R.2 h (hD h hh)).2) ((f1.trans f2).drop f3 n1)
      unfold mfOf
      by_cases m : n ∈ hs
      · rw [if_pos m, if_pos (hD n m)]
      · rw [if_neg m, if_neg fun z => m (R.2 n z).1]
end
def spTurnsOf (C : Addr) : Sp := fun vs H Q _ => ∃ (p da db dl : Addr) (N : NS) (h : Int), vs = [.ref p, .int h] ∧ NetAt C H p da db dl N ∧ N.Ok ∧ h ∈ N.hs ∧ ∀ r m n H', Per N.f r m → it N.f n h = r → Fr [] H H' → Q (.int (wl N.size N.f m r / N.size)) H'
section
variable {P : Program} {w : World} {K : PySem.W.Frag} {mg : Str → Option Value} {base : Heap} {CNet CMender CDesk CStore CWalk : Addr}
abbrev s_turns_of : Stmt := top 19
theorem sc_turns_of : FnScope ["net", "house", "ring"] ["net", "house"] (defScope s_turns_of) := ⟨rfl, rfl, rfl, by decide +kernel, rfl, by decide +kernel, by decide +kernel⟩
theorem ok_turns_of {f : Addr} {fd : FuncData} (F : Fun K "turns_of" "turns_of" s_turns_of f fd) (G_ring_of : GF P w K mg base "ring_of" 2 ["net", "house"] (spRingOf CNet)) (G_length_along : GF P w K mg base "length_along" 2 ["size", "houses"] (spLengthAlong K)) (T : NetT K CNet) : FnOk P w K mg base CX0 3 f fd ["net", "house"] (spTurnsOf CNet) := by
  refine F.ok sc_turns_of (fun vs H Q E h => ?_) (fun cdv A outer s H vs Q E hr h => ?_)
  · obtain ⟨_, _, _, _, _, _, rfl, _⟩ := h; rfl
  · obtain ⟨p, da, db, dl, N, x, rfl, hN, ok, hx, k⟩ := h
    refine ⟨_, (pss_cons (ps_set (i := 2) sc_turns_of.nd rfl (Or.inl rfl) (c_fn G_ring_of (hr.mono (by decide)) (pa_cons (pv 0) (pa_cons (pv 1) pa_nil))))
      (pss_one (ps_ret (pe_op op_fdivW (c_fn G_length_along (hr.mono (by decide)) (pa_cons (pe_fldK (K := K) rfl (pv 0) (by rfl)) (pa_cons (pe_op op_cat (pv 2) (pe_lst (pa_cons (pe_ix (ix_listK (K := K) rfl) (pv 2) pe_int (by intro _ _; rfl)) pa_nil))) pa_nil))) (pe_fldK (K := K) rfl (pv 0) (by rfl)))))), ?_⟩
    (try simp only [cxK, cxKX, List.map])
    refine ent (σ' := [some _, some _, none]) rfl ?_
    obtain ⟨dx, hp⟩ := hN.ob
    have hlen := ok.hl
    have h0 := ok.s0
    have h1 := ok.s1
    k_offL
    refine ⟨p, da, db, dl, N, x, rfl, hN, ok, hx, fun l r m n H1 n1 e1 per hm hr _ f1 => ?_⟩
    have p1 := per.p1
    have hp1 := f1.at_ _ _ hp List.not_mem_nil
    k_offL
    refine r_ixL (sqL_of e1) (v := .int r) (ix_at 0 rfl (by rw [List.getElem?_map, ringL_at (by omega)]; rfl)) ?_
    k_offL
    refine lstk (by show 1 ≤ 100000; decide) fun l2 H2 n2 e2 f2 => ?_
    refine r_cat (f2.at_ _ _ e1 List.not_mem_nil) e2 (by rw [List.length_map, ringL_len]; show _ + 1 ≤ _; omega) fun l3 H3 n3 e3 f3 => ?_
    have e3' : H3 l3 = some (.lst ((ringL N.f r (m + 1)).map V.int)) := by rw [e3, ringL_succ, List.map_append, per.rt]; rfl
    k_offL
    refine ⟨N.size, l3, N.f, r, m, (), (), rfl, sqL_of e3', h0, by omega, fun H4 f4 => ?_⟩
    have f14 : Fr [] H1 H4 := (f2.trans f3).trans f4
    have hp4 := f14.at_ _ _ hp1 List.not_mem_nil
    k_offL
    exact k r m n H4 per hr (f1.trans f14)
end
end RL
set_option synthInstance.maxHeartbeats 4000000
set_option synthInstance.maxSize 4000
namespace RL
section
variable {X : Cx} {K : PySem.W.Frag} {es : List Expr} {k n i : Nat} {t u : TGs} {pos : Pos} {a : Addr} {xs r : List V} {v : V} {σ : L2.St} {H : Hp} {Q : L2.St → Hp → Prop}
theorem pg_tupK (hK : X.K = K) (h : PGs X es t) (hc : X.calm = true := by rfl) (hn : (assignEach es X.env).length = n := by rfl) (hst : (assignEach es X.env).findIdx? (·.1) = none := by rfl) : PG X (.Tuple es k pos) (gTup K n t) := by subst hK; exact pg_tup hc h hn hst
theorem g_tup (h : SqT K H a xs) (hl : xs.length = n) (q : t xs σ H Q) : gTup K n t (.ref a) σ H Q := ⟨a, xs, rfl, h, hl, q⟩
theorem g_cons (h : SetK σ i v (fun σ' H' => u r σ' H' Q) H) : gCons (gName i) u (v :: r) σ H Q := ⟨v, r, rfl, h⟩
instance o_g_cons : One (gCons (gName i) u (v :: r) σ H Q) (SetK σ i v (fun σ' H' => u r σ' H' Q) H) := ⟨g_cons⟩
theorem g_nil (h : Q σ H) : gNil [] σ H Q := ⟨rfl, h⟩
instance o_g_nil : One (gNil [] σ H Q) (Q σ H) := ⟨g_nil⟩
end
abbrev Say3 := Int × Int × Int
def LT.say (size : Int) : LT → Option Say3
  | .tell r s => some (s, r, far size s r)
  | .ask _ _ => none
  | .ans _ s n => some (n, s, far size n s)
abbrev vs3 (s : Say3) : List V := [.int s.1, .int s.2.1, .int s.2.2]
def oS3 (H : Hp) (v : V) : Option Say3 → Prop
  | none => v = .non
  | some s => ∃ t, v = .ref t ∧ H t = some (.tup (vs3 s))
structure SyIs (H : Hp) (ps : List Say3) (lv : List V) : Prop where
  len : lv.length = ps.length
  at_ : ∀ (i : Nat) p, ps[i]? = some p → ∃ t, lv[i]? = some (.ref t) ∧ H t = some (.tup (vs3 p))
section
variable {H H' : Hp} {M : List Addr} {ps : List Say3} {lv : List V} {p : Say3} {t : Addr}
theorem SyIs.nil : SyIs H [] [] := ⟨rfl, fun i l h => by simp at h⟩
theorem SyIs.fr (x : SyIs H ps lv) (f : Fr M H H') : SyIs H' ps lv := ⟨x.len, fun i l h => let ⟨t, a, b⟩ := x.at_ i l h; ⟨t, a, f.tp _ _ b⟩⟩
theorem SyIs.snoc (x : SyIs H ps lv) (h : H t = some (.tup (vs3 p))) : SyIs H (ps ++ [p]) (lv ++ [.ref t]) := by
  refine ⟨by rw [List.length_append, List.length_append, x.len]; rfl, fun i m e => ?_⟩
  by_cases hi : i < ps.length
  · rw [List.getElem?_append_left hi] at e
    obtain ⟨u, a, b⟩ := x.at_ i m e
    exact ⟨u, by rw [List.getElem?_append_left (by rw [x.len]; exact hi)]; exact a, b⟩
  · rw [List.getElem?_append_right (by omega)] at e
    have h0 : i - ps.length = 0 := by
      cases hk : i - ps.length with
      | zero => rfl
      | succ k => rw [hk] at e; simp at e
    rw [h0] at e
    cases e
    exact ⟨t, by rw [List.getElem?_append_right (by rw [x.len]; omega), x.len, h0]; rfl, h⟩
end
def NS.says (N : NS) : List Say3 := N.hs.map (fun h => (h, N.f h, far N.size h (N.f h))) ++ N.bs.map (fun h => ((N.b h).getD 0, h, far N.size ((N.b h).getD 0) h)) ++ N.post.filterMap (LT.say N.size)
def TrS (N : NS) (s : Say3) : Prop := Tr N.size N.f s.1 s.2.1 s.2.2
theorem NS.says_ok {N : NS} (ok : N.Ok) {s : Say3} (h : s ∈ N.says) : s.1 ∈ N.hs ∧ s.2.1 ∈ N.hs ∧ s.2.2 = far N.size s.1 s.2.1 := by
  unfold NS.says at h
  rcases List.mem_append.mp h with h | h
  · rcases List.mem_append.mp h with h | h
    · obtain ⟨x, hx, e⟩ := List.mem_map.mp h
      subst e
      exact ⟨hx, ok.fh x hx, rfl⟩
    · obtain ⟨x, hx, e⟩ := List.mem_map.mp h
      subst e
      obtain ⟨h1, h2⟩ := List.mem_filter.mp hx
      obtain ⟨y, hy⟩ := Option.isSome_iff_exists.mp h2
      show (N.b x).getD 0 ∈ N.hs ∧ x ∈ N.hs ∧ _ = _
      rw [hy]
      exact ⟨(ok.bh x y hy).2, h1, rfl⟩
  · obtain ⟨l, hl, e⟩ := List.mem_filterMap.mp h
    have := ok.ph l hl
    cases l with
    | tell r s' => cases e; exact ⟨this s' (by simp [LT.pl]), this r (by simp [LT.pl]), rfl⟩
    | ask r s' => cases e
    | ans r s' n => cases e; exact ⟨this n (by simp [LT.pl]), this s' (by simp [LT.pl]), rfl⟩
theorem NS.says_true {N : NS} (say : N.Say) {s : Say3} (h : s ∈ N.says) : TrS N s := by
  unfold NS.says at h
  rcases List.mem_append.mp h with h | h
  · rcases List.mem_append.mp h with h | h
    · obtain ⟨x, hx, e⟩ := List.mem_map.mp h
      subst e
      exact Tr.one
    · obtain ⟨x, hx, e⟩ := List.mem_map.mp h
      subst e
      obtain ⟨h1, h2⟩ := List.mem_filter.mp hx
      obtain ⟨y, hy⟩ := Option.isSome_iff_exists.mp h2
      show Tr N.size N.f ((N.b x).getD 0) x (far N.size ((N.b x).getD 0) x)
      rw [hy]
      exact say.sb x y hy
  · obtain ⟨l, hl, e⟩ := List.mem_filterMap.mp h
    cases l with
    | tell r s' => cases e; exact say.st r s' hl
    | ask r s' => cases e
    | ans r s' n => cases e; exact say.sa r s' n hl
def spLetterSaying : Sp := fun vs H Q _ => ∃ (size : Int) (t : Addr) (l : LT) (_ : Unit), vs = [.int size, .ref t] ∧ H t = some (.tup l.vs) ∧ 0 < size ∧ ∀ v H', oS3 H' v (l.say size) → Fr [] H H' → Q v H'
section
variable {P : Program} {w : World} {K : PySem.W.Frag} {mg : Str → Option Value} {base : Heap} {CNet CMender CDesk CStore CWalk : Addr}
abbrev s_letter_saying : Stmt := top 21
theorem sc_letter_saying : FnScope ["size", "letter"] ["size", "letter"] (defScope s_letter_saying) := ⟨rfl, rfl, rfl, by decide +kernel, rfl, by decide +kernel, by decide +kernel⟩
theorem ok_letter_saying {f : Addr} {fd : FuncData} (F : Fun K "letter_saying" "letter_saying" s_letter_saying f fd) (G_far : GF P w K mg base "far" 1 ["size", "start", "end"] spFar) : FnOk P w K mg base CX0 2 f fd ["size", "letter"] spLetterSaying := by
  refine F.ok sc_letter_saying (fun vs H Q E h => ?_) (fun cdv A outer s H vs Q E hr h => ?_)
  · obtain ⟨_, _, _, _, rfl, _⟩ := h; rfl
  · obtain ⟨size, t, l, _, rfl, ht, h0, k⟩ := h
    refine ⟨_, (pss_cons (ps_if (pt_cmpR op_eq (pe_ix (ix_tupK (K := K) rfl) (pv 1) pe_int (by intro _ _; rfl)) pe_str (nomark _)) (pss_one (ps_ret (pe_tup (pa_cons (pe_ix (ix_tupK (K := K) rfl) (pv 1) pe_int (by intro _ _; rfl)) (pa_cons (pe_ix (ix_tupK (K := K) rfl) (pv 1) pe_int (by intro _ _; rfl)) (pa_cons (c_fn G_far (hr.mono (by decide)) (pa_cons (pv 0) (pa_cons (pe_ix (ix_tupK (K := K) rfl) (pv 1) pe_int (by intro _ _; rfl)) (pa_cons (pe_ix (ix_tupK (K := K) rfl) (pv 1) pe_int (by intro _ _; rfl)) pa_nil)))) pa_nil)))))) pss_nil)
      (pss_cons (ps_if (pt_cmpR op_eq (pe_ix (ix_tupK (K := K) rfl) (pv 1) pe_int (by intro _ _; rfl)) pe_str (nomark _)) (pss_one (ps_ret (pe_tup (pa_cons (pe_ix (ix_tupK (K := K) rfl) (pv 1) pe_int (by intro _ _; rfl)) (pa_cons (pe_ix (ix_tupK (K := K) rfl) (pv 1) pe_int (by intro _ _; rfl)) (pa_cons (c_fn G_far (hr.mono (by decide)) (pa_cons (pv 0) (pa_cons (pe_ix (ix_tupK (K := K) rfl) (pv 1) pe_int (by intro _ _; rfl)) (pa_cons (pe_ix (ix_tupK (K := K) rfl) (pv 1) pe_int (by intro _ _; rfl)) pa_nil)))) pa_nil)))))) pss_nil)
      (pss_one (ps_ret pe_non)))), ?_⟩
    (try simp only [cxK, cxKX, List.map])
    refine ent (σ' := [some _, some _]) rfl ?_
    cases l with
    | tell r s' =>
      k_offL
      refine r_ixT (sqT_of ht) (v := .str "tell") rfl ?_
      k_offL
      refine ifDT rfl ?_
      k_offL
      refine r_ixT (sqT_of ht) (v := .int s') rfl ?_
      k_offL
      refine r_ixT (sqT_of ht) (v := .int r) rfl ?_
      k_offL
      refine r_ixT (sqT_of ht) (v := .int s') rfl ?_
      k_offL
      refine r_ixT (sqT_of ht) (v := .int r) rfl ?_
      k_offL
      refine i_far h0 ?_
      k_offL
      refine tupk (by show 3 ≤ 100000; decide) fun u H1 n1 e1 f1 => ?_
      exact k _ H1 ⟨u, rfl, e1⟩ f1
    | ask r s' =>
      k_offL
      refine r_ixT (sqT_of ht) (v := .str "ask") rfl ?_
      k_offL
      refine ifDF (by decide +kernel) ?_
      k_offL
      refine r_ixT (sqT_of ht) (v := .str "ask") rfl ?_
      k_offL
      refine ifDF (by decide +kernel) ?_
      k_offL
      exact k _ H rfl (Fr.refl _ _)
    | ans r s' n =>
      k_offL
      refine r_ixT (sqT_of ht) (v := .str "answer") rfl ?_
      k_offL
      refine ifDF (by decide +kernel) ?_
      k_offL
      refine r_ixT (sqT_of ht) (v := .str "answer") rfl ?_
      k_offL
      refine ifDT rfl ?_
      k_offL
      refine r_ixT (sqT_of ht) (v := .int n) rfl ?_
      k_offL
      refine r_ixT (sqT_of ht) (v := .int s') rfl ?_
      k_offL
      refine r_ixT (sqT_of ht) (v := .int n) rfl ?_
      k_offL
      refine r_ixT (sqT_of ht) (v := .int s') rfl ?_
      k_offL
      refine i_far h0 ?_
      k_offL
      refine tupk (by show 3 ≤ 100000; decide) fun u H1 n1 e1 f1 => ?_
      exact k _ H1 ⟨u, rfl, e1⟩ f1
end
def spIsTrue : Sp := fun vs H Q _ => ∃ (size : Int) (a t : Addr) (hs : List Int) (f : Int → Int) (s : Say3) (_ : Unit), vs = [.int size, .ref a, .ref t] ∧ NxAt H a hs f ∧ H t = some (.tup (vs3 s)) ∧ s.1 ∈ hs ∧ 0 < size ∧ 0 < s.2.2 ∧
  ∀ b H', (b = true ↔ Tr size f s.1 s.2.1 s.2.2) → Fr [] H H' → Q (.bl b) H'
section
variable {P : Program} {w : World} {K : PySem.W.Frag} {mg : Str → Option Value} {base : Heap} {CNet CMender CDesk CStore CWalk : Addr}
abbrev s_is_true : Stmt := top 22
theorem sc_is_true : FnScope ["size", "nexts", "saying", "house", "end", "distance", "length"] ["size", "nexts", "saying"] (defScope s_is_true) := ⟨rfl, rfl, rfl, by decide +kernel, rfl, by decide +kernel, by decide +kernel⟩
theorem ok_is_true {f : Addr} {fd : FuncData} (F : Fun K "is_true" "is_true" s_is_true f fd) (G_far : GF P w K mg base "far" 1 ["size", "start", "end"] spFar) : FnOk P w K mg base CX0 2 f fd ["size", "nexts", "saying"] spIsTrue := by
  refine F.ok sc_is_true (fun vs H Q E h => ?_) (fun cdv A outer s H vs Q E hr h => ?_)
  · obtain ⟨_, _, _, _, _, _, _, rfl, _⟩ := h; rfl
  · obtain ⟨size, a, t, hs, f, s', _, rfl, N, ht, hx, h0, s0, k⟩ := h
    refine ⟨_, (pss_cons (ps_asg (pv 2) (pg_tupK (K := K) rfl (pgs_cons (pg_name (i := 3) sc_is_true.nd rfl (Or.inl rfl)) (pgs_cons (pg_name (i := 4) sc_is_true.nd rfl (Or.inl rfl)) (pgs_cons (pg_name (i := 5) sc_is_true.nd rfl (Or.inl rfl)) pgs_nil)))))
      (pss_cons (ps_set (i := 6) sc_is_true.nd rfl (Or.inl rfl) pe_int)
      (pss_cons (ps_while PassesOwn.never (pt_cmpR op_lt (pv 6) (pv 5) (nomark _)) (pss_cons (ps_aug (i := 6) sc_is_true.nd rfl (Or.inl rfl) (c_fn G_far (hr.mono (by decide)) (pa_cons (pv 0) (pa_cons (pv 3) (pa_cons (pe_dget (hu_of hr) (pv 1) (pv 3) (by intro _ _; rfl)) pa_nil)))) ip_add)
      (pss_one (ps_set (i := 3) sc_is_true.nd rfl (Or.inl rfl) (pe_dget (hu_of hr) (pv 1) (pv 3) (by intro _ _; rfl))))))
      (pss_one (ps_ret (pe_and (pe_cmpR op_eq (pv 3) (pv 4) (nomark _)) (pe_one (pe_cmpR op_eq (pv 6) (pv 5) (nomark _))))))))), ?_⟩
    (try simp only [cxK, cxKX, List.map])
    refine ent (σ' := [some _, some _, some _, none, none, none, none]) rfl ?_
    obtain ⟨x, e, d⟩ := s'
    have hx : x ∈ hs := hx
    have s0 : 0 < d := s0
    k_offL
    refine g_tup (xs := [.int x, .int e, .int d]) (sqT_of ht) rfl ?_
    k_offL
    refine q_while (fun m σ' H' => ∃ i : Nat, m = (d - wl size f i x).toNat ∧ σ' = [some (.int size), some (.ref a), some (.ref t), some (.int (it f i x)), some (.int e), some (.int d), some (.int (wl size f i x))] ∧ (∀ j, j < i → wl size f j x < d) ∧ Fr [] H H') (d - wl size f 0 x).toNat ⟨0, rfl, rfl, fun j z => absurd z (by omega), Fr.refl _ _⟩ ?_
    rintro m σ' H1 ⟨i, rfl, rfl, hj, f1⟩ Nx R kN kT kF
    have hm := it_mem (n := i) N.cl hx
    k_offL
    by_cases c : wl size f i x < d
    · rw [decide_eq_true c]
      refine kT _ ?_
      k_offL
      refine (N.ex0 f1).get hm ?_
      k_offL
      refine i_far h0 ?_
      k_offL
      refine (N.ex0 f1).get hm ?_
      k_offL
      have fp := far_pos (s := it f i x) (e := f (it f i x)) h0
      have ws := wl_succ (size := size) (f := f) (n := i) (h := x)
      refine kN (d - wl size f (i + 1) x).toNat _ _ (by omega) ⟨i + 1, rfl, by rw [it_succ, ws], fun j hj' => ?_, f1⟩
      rcases Nat.lt_or_eq_of_le (Nat.le_of_lt_succ hj') with q | q
      · exact hj j q
      · rw [q]; exact c
    · rw [decide_eq_false c]
      refine kF _ ?_
      have A : Ans size f x d i := ⟨by omega, hj⟩
      have hit : ∀ b, (b = true ↔ wl size f i x = d ∧ it f i x = e) → Q (.bl b) H1 := fun b hb => k b _ (hb.trans (A.hit h0 s0).symm) f1
      k_offL
      refine ifD (fun e1 => ?_) (fun e1 => ?_)
      · k_offL
        exact hit _ (by rw [decide_eq_true_iff]; exact ⟨fun z => ⟨z, e1⟩, fun z => z.1⟩)
      · k_offL
        exact hit _ ⟨fun z => (nomatch z), fun z => absurd z.2 e1⟩
end
def spSayings (C : Addr) : Sp := fun vs H Q _ => ∃ (p da db dl : Addr) (N : NS), vs = [.ref p] ∧ NetAt C H p da db dl N ∧ N.Ok ∧ ∀ l lv H', H l = none → H' l = some (.lst lv) → SyIs H' N.says lv → Fr [] H H' → Q (.ref l) H'
def SyOf (g : Int → Say3) (x y : V) (H : Hp) : Prop := ∃ h t, x = .int h ∧ y = .ref t ∧ H t = some (.tup (vs3 (g h)))
theorem SyIs.of {H : Hp} {g : Int → Say3} {hs : List Int} {ys : List V} (hl : ys.length = (hs.map V.int).length) (h : ∀ (i : Nat) x, (hs.map V.int)[i]? = some x → ∃ y, ys[i]? = some y ∧ SyOf g x y H) : SyIs H (hs.map g) ys := by
  refine ⟨by rw [hl, List.length_map, List.length_map], fun i p hp => ?_⟩
  rw [List.getElem?_map] at hp
  cases e : hs[i]? with
  | none => rw [e] at hp; cases hp
  | some x =>
    rw [e] at hp
    cases hp
    obtain ⟨y, hy, h', t, e1, e2, e3⟩ := h i (.int x) (by rw [List.getElem?_map, e]; rfl)
    cases e1
    exact ⟨t, by rw [hy, e2], e3⟩
section
variable {P : Program} {w : World} {K : PySem.W.Frag} {mg : Str → Option Value} {base : Heap} {CNet CMender CDesk CStore CWalk : Addr}
abbrev s_sayings : Stmt := top 23
theorem sc_sayings : FnScope ["net", "size", "nexts", "befores", "said", "house", "letter", "saying"] ["net"] (defScope s_sayings) := ⟨rfl, rfl, rfl, by decide +kernel, rfl, by decide +kernel, by decide +kernel⟩
theorem ok_sayings {f : Addr} {fd : FuncData} (F : Fun K "sayings" "sayings" s_sayings f fd) (G_Net_nexts : GM P w K mg base CNet "nexts" 1 ["self"] (spNexts CNet)) (G_Net_befores : GM P w K mg base CNet "befores" 1 ["self"] (spBefores CNet)) (m_sorted : mg "sorted" = none) (G_far : GF P w K mg base "far" 1 ["size", "start", "end"] spFar) (G_Net_letters : GM P w K mg base CNet "letters" 1 ["self"] (spLetters CNet)) (G_letter_saying : GF P w K mg base "letter_saying" 2 ["size", "letter"] spLetterSaying) (T : NetT K CNet) : FnOk P w K mg base CX0 3 f fd ["net"] (spSayings CNet) := by
  refine F.ok sc_sayings (fun vs H Q E h => ?_) (fun cdv A outer s H vs Q E hr h => ?_)
  · obtain ⟨_, _, _, _, _, rfl, _⟩ := h; rfl
  · obtain ⟨p, da, db, dl, N, rfl, hN, ok, k⟩ := h
    refine ⟨_, (pss_cons (ps_set (i := 1) sc_sayings.nd rfl (Or.inr rfl) (pe_fldK (K := K) rfl (pv 0) (by rfl)))
      (pss_cons (ps_set (i := 2) sc_sayings.nd rfl (Or.inr rfl) (c_mt0 G_Net_nexts (hr.mono (by decide)) (pv 0)))
      (pss_cons (ps_set (i := 3) sc_sayings.nd rfl (Or.inl rfl) (c_mt0 G_Net_befores (hr.mono (by decide)) (pv 0)))
      (pss_cons (ps_setLc (i := 4) (own := [("house", 5)]) (g := gName 5) rfl sc_sayings.nd rfl rfl (sw_true rfl rfl rfl (by decide +kernel)) (pi_listK (K := K) rfl (pe_callB (cb_sortD rfl) (by rfl) m_sorted b_sorted (pa_cons (pv 2) pa_nil))) (blkOk_by (N := ["net", "size", "nexts", "befores", "said", "house", "letter", "saying"]) (sc := defScope s_sayings) (by decide +kernel)) (fun _ _ _ _ _ => (pg_name (i := 5) sc_sayings.nd rfl (Or.inl rfl))) (fun _ _ _ _ _ => pts_nil) (fun _ _ _ _ _ => (pe_tup (pa_cons (pv 5) (pa_cons (pe_dget (hu_of hr) (pv 2) (pv 5) (by intro _ _; rfl)) (pa_cons (c_fn G_far (hr.mono (by decide)) (pa_cons (pv 1) (pa_cons (pv 5) (pa_cons (pe_dget (hu_of hr) (pv 2) (pv 5) (by intro _ _; rfl)) pa_nil)))) pa_nil))))))
      (pss_cons (ps_for PassesOwn.never rfl (pi_listK (K := K) rfl (pe_callB (cb_sortD rfl) (by rfl) m_sorted b_sorted (pa_cons (pv 3) pa_nil))) (pg_name (i := 5) sc_sayings.nd rfl (Or.inl rfl))
      (pss_one (ps_expr (pe_bmK (K := K) rfl PySem.F.plainAttrs_list PySem.F.slot_list_append PySem.F.type_list_append mt_append (pv 4) (pa_cons (pe_tup (pa_cons (pe_dget (hu_of hr) (pv 3) (pv 5) (by intro _ _; rfl)) (pa_cons (pv 5) (pa_cons (c_fn G_far (hr.mono (by decide)) (pa_cons (pv 1) (pa_cons (pe_dget (hu_of hr) (pv 3) (pv 5) (by intro _ _; rfl)) (pa_cons (pv 5) pa_nil)))) pa_nil)))) pa_nil)))))
      (pss_cons (ps_for PassesOwn.never rfl (pi_listK (K := K) rfl (c_mt0 G_Net_letters (hr.mono (by decide)) (pv 0))) (pg_name (i := 6) sc_sayings.nd rfl (Or.inl rfl))
      (pss_cons (ps_set (i := 7) sc_sayings.nd rfl (Or.inl rfl) (c_fn G_letter_saying (hr.mono (by decide)) (pa_cons (pv 1) (pa_cons (pv 6) pa_nil))))
      (pss_one (ps_if (pt_cmpR op_notNn (pv 7) pe_non (nomark _)) (pss_one (ps_expr (pe_bmK (K := K) rfl PySem.F.plainAttrs_list PySem.F.slot_list_append PySem.F.type_list_append mt_append (pv 4) (pa_cons (pv 7) pa_nil)))) pss_nil))))
      (pss_one (ps_ret (pv 4))))))))), ?_⟩
    (try simp only [cxK, cxKX, List.map])
    refine ent (σ' := [some _, none, none, none, none, none, none, none]) rfl ?_
    obtain ⟨dx, hp⟩ := hN.ob
    have hlen := ok.hl
    have h0 := ok.s0
    have hpl := ok.pl
    k_offL
    refine ⟨p, da, db, dl, N, rfl, hN, ok, fun l1 H1 n1 e1 f1 => ?_⟩
    have hp1 := f1.at_ _ _ hp List.not_mem_nil
    k_offL
    refine ⟨p, da, db, dl, N, rfl, hN.ex f1, ok, fun l2 H2 n2 e2 f2 => ?_⟩
    have f12 := f1.trans f2
    have e12 := f2.at_ _ _ e1 List.not_mem_nil
    have nx2 := NS.nxAt ok e12 ok.dkn
    k_offL
    refine r_sortD (.inl e12) ok.dkn ok.ascF (by omega) fun l3 H3 n3 e3 f3 => ?_
    refine walkL (sqL_of e3) ?_
    refine lcP (walk_list (xs := N.hs.map V.int)) (N.hs.map V.int) rfl (fun i H0 x H' _ y => yAt y) (fun _ => true) (SyOf fun h => (h, N.f h, far N.size h (N.f h))) (fun M x y H1 H2 ⟨h, t, a, b, c⟩ f => ⟨h, t, a, b, f.tp _ _ c⟩) (fun H' f => f.sqL (sqL_of e3) List.not_mem_nil) (by rw [List.length_map]; omega) (fun x H' hm f => ?_) fun sl H4 ys n4 e4 hl4 hy4 f4 => ?_
    · obtain ⟨h, hh, rfl⟩ := mem_intsM hm
      refine sk5 ⟨fun R kR => kR H' (Fr.refl _ _), fun _ H5 f5 R kR => ?_⟩
      have nx5 := (nx2.ex0 f3).ex0 (f.trans f5)
      k_offL
      refine nx5.get hh ?_
      k_offL
      refine nx5.get hh ?_
      k_offL
      refine i_far h0 ?_
      k_offL
      refine tupk (by show 3 ≤ 100000; decide) fun t H6 n6 e6 f6 => ?_
      exact kR _ _ f6 ⟨h, t, rfl, rfl, e6⟩
    rw [List.filter_eq_self.mpr fun _ _ => rfl] at hl4 hy4
    have S4 := SyIs.of hl4 hy4
    have f24 := f3.trans f4
    have hbl : N.bs.length ≤ N.hs.length := List.length_filter_le _ _
    have bup : N.bs.Pairwise (· < ·) := ok.up.sublist (List.filter_sublist)
    have e24 := f24.at_ _ _ e2 List.not_mem_nil
    have bas : Asc N.bs N.lb := ⟨bup, fun n => by
      unfold NS.bs NS.lb
      rw [List.mem_filter]
      constructor
      · rintro ⟨_, h⟩
        obtain ⟨y, hy⟩ := Option.isSome_iff_exists.mp h
        rw [hy]; rfl
      · intro h
        cases e : N.b n with
        | none => rw [e] at h; cases h
        | some y => exact ⟨(ok.bh n y e).1, rfl⟩⟩
    k_offL
    refine r_sortD (.inl e24) ok.dkb bas (by omega) fun l5 H5 n5 e5 f5 => ?_
    have e45 := f5.at_ _ _ e4 List.not_mem_nil
    have sl5 : sl ≠ l5 := ne_of_none e4 n5
    have nx4 := nx2.ex0 (f24.trans f5)
    have e25 := f5.at_ _ _ e24 List.not_mem_nil
    have n2s : l2 ≠ sl := fun z => by
      have := f3.at_ _ _ e2 List.not_mem_nil
      rw [z, n4] at this; cases this
    refine loopLF (M := [sl]) (N.bs.map V.int) (sqL_of e5) (mem_one sl5.symm) (fun i σ' H' => ∃ (v5 : Option V) (lv : List V), σ' = [some (V.ref p), some (.int N.size), some (.ref l1), some (.ref l2), some (.ref sl), v5, none, none] ∧ H' sl = some (.lst lv) ∧ SyIs H' (N.hs.map (fun h => (h, N.f h, far N.size h (N.f h))) ++ (N.bs.take i).map (fun h => ((N.b h).getD 0, h, far N.size ((N.b h).getD 0) h))) lv ∧ Fr [sl] H5 H')
      ⟨_, ys, rfl, e45, by rw [List.take_zero, List.map_nil, List.append_nil]; exact S4.fr f5, Fr.refl _ _⟩ (fun i σ' H' ⟨_, _, _, _, _, f⟩ => f) ?_ ?_
    · rintro i x σ' H6 hi ⟨v5, lv, rfl, e6, S6, f6⟩
      obtain ⟨h, hh, hm, rfl⟩ := mem_ints hi
      have hi45 : i < 45 := by have := (List.getElem?_eq_some_iff.mp hh).1; omega
      obtain ⟨hm1, hm2⟩ := List.mem_filter.mp hm
      obtain ⟨y, hy⟩ := Option.isSome_iff_exists.mp hm2
      have e26 := f6.at_ _ _ e25 (mem_one n2s)
      have gb : valV N.kb (.inl h) = some (.int y) := by rw [ok.dkb.val]; unfold NS.lb; rw [hy]; rfl
      k_offL
      refine dgetk (.inl e26) gb ?_
      k_offL
      refine dgetk (.inl e26) gb ?_
      k_offL
      refine i_far h0 ?_
      k_offL
      refine tupk (by show 3 ≤ 100000; decide) fun t H7 n7 e7 f7 => ?_
      k_offL
      refine r_app (f7.at_ _ _ e6 List.not_mem_nil) (by rw [S6.len, List.length_append, List.length_map, List.length_map, List.length_take]; omega) fun H8 e8 f8 => ?_
      k_offL
      refine ⟨_, _, rfl, e8, ?_, f6.trans (f7.up.trans f8)⟩
      rw [take_snoc hh, List.map_append, ← List.append_assoc]
      exact ((S6.fr f7).snoc (p := ((N.b h).getD 0, h, far N.size ((N.b h).getD 0) h)) (by rw [hy]; exact e7)).fr f8
    rintro σ' H6 ⟨v5, lv, rfl, e6, S6, f6⟩
    rw [List.length_map, List.take_length] at S6
    have f16 : Fr [sl] H2 H6 := (f24.trans f5).up.trans f6
    have nsl : ∀ {x : Addr} {o : HO}, H2 x = some o → x ≠ sl := fun h z => by
      have := f3.at_ _ _ (z ▸ h) List.not_mem_nil
      rw [n4] at this; cases this
    have hN6 : NetAt CNet H6 p da db dl N := by
      have hN2 := hN.ex f12
      obtain ⟨_, g1⟩ := hN2.ob
      obtain ⟨_, g2, _⟩ := hN2.nx
      obtain ⟨_, g3, _⟩ := hN2.bf
      obtain ⟨_, g4, _⟩ := hN2.ls
      exact hN2.fr f16 (mem_one (nsl g1)) (mem_one (nsl g2)) (mem_one (nsl g3)) (mem_one (nsl g4))
    obtain ⟨dx6, hp6⟩ := hN6.ob
    k_offL
    refine ⟨p, da, db, dl, N, rfl, hN6, fun l7 lv7 H7 n7 e7 ls7 f7 => ?_⟩
    have e67 := f7.at_ _ _ e6 List.not_mem_nil
    have l7s : l7 ≠ sl := (ne_of_none e6 n7).symm
    refine ⟨l7, rfl, ⟨_, sqL_of e7⟩, loopL lv7 (fun i σ' H' => ∃ (v5 v6 v7 : Option V) (lv : List V), σ' = [some (V.ref p), some (.int N.size), some (.ref l1), some (.ref l2), some (.ref sl), v5, v6, v7] ∧ H' sl = some (.lst lv) ∧ SyIs H' (N.hs.map (fun h => (h, N.f h, far N.size h (N.f h))) ++ N.bs.map (fun h => ((N.b h).getD 0, h, far N.size ((N.b h).getD 0) h)) ++ (N.post.take i).filterMap (LT.say N.size)) lv ∧ Fr [sl] H7 H')
      ⟨_, _, _, lv, rfl, e67, by rw [List.take_zero, List.filterMap_nil, List.append_nil]; exact S6.fr f7, Fr.refl _ _⟩ (fun i σ' H' _ ⟨_, _, _, _, _, _, _, f⟩ => sqL_of (f.at_ _ _ e7 (mem_one l7s))) ?_ ?_⟩
    · rintro i x σ' H8 hi ⟨v5, v6, v7, lv, rfl, e8, S8, f8⟩
      have hil : i < N.post.length := by have := (List.getElem?_eq_some_iff.mp hi).1; rw [ls7.len] at this; exact this
      obtain ⟨t, ht, eT⟩ := ls7.at_ i _ (List.getElem?_eq_getElem hil)
      rw [hi] at ht
      cases ht
      have len8 : lv.length ≤ 3000 := by
        rw [S8.len, List.length_append, List.length_append, List.length_map, List.length_map]
        have := List.length_filterMap_le (LT.say N.size) (N.post.take i)
        rw [List.length_take] at this
        omega
      k_offL
      refine ⟨N.size, t, _, (), rfl, f8.tp _ _ eT, h0, fun v H9 hv f9 => ?_⟩
      k_offL
      have step : (N.post.take (i + 1)).filterMap (LT.say N.size) = (N.post.take i).filterMap (LT.say N.size) ++ (LT.say N.size N.post[i]).toList := by
        rw [take_snoc (List.getElem?_eq_getElem hil), List.filterMap_append]
        congr 1
      cases es : LT.say N.size N.post[i] with
      | none =>
        rw [es] at hv step
        obtain rfl : v = .non := hv
        refine ifNF rfl ?_
        k_offL
        refine ⟨_, _, _, lv, rfl, f9.at_ _ _ e8 List.not_mem_nil, ?_, f8.trans f9.up⟩
        rw [step, Option.toList_none, List.append_nil]
        exact S8.fr f9
      | some s =>
        rw [es] at hv step
        obtain ⟨u, rfl, hu⟩ := hv
        refine ifNT (fun z => nomatch z) ?_
        k_offL
        refine r_app (f9.at_ _ _ e8 List.not_mem_nil) (by omega) fun H10 e10 f10 => ?_
        k_offL
        refine ⟨_, _, _, _, rfl, e10, ?_, f8.trans (f9.up.trans f10)⟩
        rw [step, Option.toList_some, ← List.append_assoc]
        exact ((S8.fr f9).snoc hu).fr f10
    · rintro σ' H8 ⟨v5, v6, v7, lv, rfl, e8, S8, f8⟩
      rw [ls7.len, List.take_length] at S8
      have fr28 : Fr [sl] H2 H8 := f16.trans (f7.up.trans f8)
      have n0 : H sl = none := (f12.trans f3).free n4
      k_offL
      exact k sl lv H8 n0 e8 S8 (f12.drop fr28 n0)
end
def spHoldsTrue (C : Addr) : Sp := fun vs H Q _ => ∃ (p da db dl t : Addr) (N : NS) (s : Say3) (_ : Unit), vs = [.ref p, .ref t] ∧ NetAt C H p da db dl N ∧ N.Ok ∧ H t = some (.tup (vs3 s)) ∧ s.1 ∈ N.hs ∧ 0 < s.2.2 ∧ ∀ b H', (b = true ↔ TrS N s) → Fr [] H H' → Q (.bl b) H'
section
variable {P : Program} {w : World} {K : PySem.W.Frag} {mg : Str → Option Value} {base : Heap} {CNet CMender CDesk CStore CWalk : Addr}
abbrev s_holds_true : Stmt := top 24
theorem sc_holds_true : FnScope ["net", "saying"] ["net", "saying"] (defScope s_holds_true) := ⟨rfl, rfl, rfl, by decide +kernel, rfl, by decide +kernel, by decide +kernel⟩
theorem ok_holds_true {f : Addr} {fd : FuncData} (F : Fun K "holds_true" "holds_true" s_holds_true f fd) (G_is_true : GF P w K mg base "is_true" 2 ["size", "nexts", "saying"] spIsTrue) (G_Net_nexts : GM P w K mg base CNet "nexts" 1 ["self"] (spNexts CNet)) (T : NetT K CNet) : FnOk P w K mg base CX0 3 f fd ["net", "saying"] (spHoldsTrue CNet) := by
  refine F.ok sc_holds_true (fun vs H Q E h => ?_) (fun cdv A outer s H vs Q E hr h => ?_)
  · obtain ⟨_, _, _, _, _, _, _, _, rfl, _⟩ := h; rfl
  · obtain ⟨p, da, db, dl, t, N, s', _, rfl, hN, ok, ht, h1, h2, k⟩ := h
    refine ⟨_, (pss_one (ps_ret (c_fn G_is_true (hr.mono (by decide)) (pa_cons (pe_fldK (K := K) rfl (pv 0) (by rfl)) (pa_cons (c_mt0 G_Net_nexts (hr.mono (by decide)) (pv 0)) (pa_cons (pv 1) pa_nil)))))), ?_⟩
    (try simp only [cxK, cxKX, List.map])
    refine ent (σ' := [some _, some _]) rfl ?_
    obtain ⟨dx, hp⟩ := hN.ob
    k_offL
    refine ⟨p, da, db, dl, N, rfl, hN, ok, fun l1 H1 n1 e1 f1 => ?_⟩
    k_offL
    exact ⟨N.size, l1, t, N.hs, N.f, s', (), rfl, NS.nxAt ok e1 ok.dkn, f1.tp _ _ ht, h1, ok.s0, h2, fun b H2 hb f2 => k b H2 hb (f1.trans f2)⟩
end
def spFirstUntrue (C : Addr) : Sp := fun vs H Q _ => ∃ (p da db dl : Addr) (N : NS), vs = [.ref p] ∧ NetAt C H p da db dl N ∧ N.Ok ∧
  ∀ v H', ((v = .non ∧ ∀ s ∈ N.says, TrS N s) ∨ ∃ t s, v = .ref t ∧ H' t = some (.tup (vs3 s)) ∧ s ∈ N.says ∧ ¬ TrS N s) → Fr [] H H' → Q v H'
section
variable {P : Program} {w : World} {K : PySem.W.Frag} {mg : Str → Option Value} {base : Heap} {CNet CMender CDesk CStore CWalk : Addr}
abbrev s_first_untrue : Stmt := top 25
theorem sc_first_untrue : FnScope ["net", "nexts", "saying"] ["net"] (defScope s_first_untrue) := ⟨rfl, rfl, rfl, by decide +kernel, rfl, by decide +kernel, by decide +kernel⟩
theorem ok_first_untrue {f : Addr} {fd : FuncData} (F : Fun K "first_untrue" "first_untrue" s_first_untrue f fd) (G_Net_nexts : GM P w K mg base CNet "nexts" 1 ["self"] (spNexts CNet)) (G_sayings : GF P w K mg base "sayings" 3 ["net"] (spSayings CNet)) (G_is_true : GF P w K mg base "is_true" 2 ["size", "nexts", "saying"] spIsTrue) (T : NetT K CNet) : FnOk P w K mg base CX0 4 f fd ["net"] (spFirstUntrue CNet) := by
  refine F.ok sc_first_untrue (fun vs H Q E h => ?_) (fun cdv A outer s H vs Q E hr h => ?_)
  · obtain ⟨_, _, _, _, _, rfl, _⟩ := h; rfl
  · obtain ⟨p, da, db, dl, N, rfl, hN, ok, k⟩ := h
    refine ⟨_, (pss_cons (ps_set (i := 1) sc_first_untrue.nd rfl (Or.inl rfl) (c_mt0 G_Net_nexts (hr.mono (by decide)) (pv 0)))
      (pss_cons (ps_for PassesOwn.never rfl (pi_listK (K := K) rfl (c_fn G_sayings (hr.mono (by decide)) (pa_cons (pv 0) pa_nil))) (pg_name (i := 2) sc_first_untrue.nd rfl (Or.inl rfl))
      (pss_one (ps_if (pt_not (pt_val (c_fn G_is_true (hr.mono (by decide)) (pa_cons (pe_fldK (K := K) rfl (pv 0) (by rfl)) (pa_cons (pv 1) (pa_cons (pv 2) pa_nil)))))) (pss_one (ps_ret (pv 2))) pss_nil)))
      (pss_one (ps_ret pe_non)))), ?_⟩
    (try simp only [cxK, cxKX, List.map])
    refine ent (σ' := [some _, none, none]) rfl ?_
    obtain ⟨dx, hp⟩ := hN.ob
    have h0 := ok.s0
    k_offL
    refine ⟨p, da, db, dl, N, rfl, hN, ok, fun l1 H1 n1 e1 f1 => ?_⟩
    have nx1 := NS.nxAt ok e1 ok.dkn
    have hp1 := f1.at_ _ _ hp List.not_mem_nil
    k_offL
    refine ⟨p, da, db, dl, N, rfl, hN.ex f1, ok, fun l2 lv H2 n2 e2 S2 f2 => ?_⟩
    refine loopLF (M := []) lv (sqL_of e2) List.not_mem_nil (fun i σ' H' => (∃ v2, σ' = [some (.ref p), some (.ref l1), v2]) ∧ (∀ s ∈ N.says.take i, TrS N s) ∧ Fr [] H2 H') ⟨⟨_, rfl⟩, (fun s h => by rw [List.take_zero] at h; cases h), Fr.refl _ _⟩ (fun i σ' H' p => p.2.2) ?_ ?_
    · rintro i x σ' H3 hi ⟨⟨v2, rfl⟩, tr, f3⟩
      have hil : i < N.says.length := by have := (List.getElem?_eq_some_iff.mp hi).1; rw [S2.len] at this; exact this
      obtain ⟨t, ht, eT⟩ := S2.at_ i _ (List.getElem?_eq_getElem hil)
      rw [hi] at ht
      cases ht
      have hm := List.getElem_mem hil
      have hsn := take_snoc (List.getElem?_eq_getElem hil)
      revert hm eT hsn
      generalize N.says[i] = s
      intro eT hm hsn
      obtain ⟨m1, m2, m3⟩ := NS.says_ok ok hm
      have hp3 := (f2.trans f3).at_ _ _ hp1 List.not_mem_nil
      have e3 := f3.tp _ _ eT
      k_offL
      refine ⟨N.size, l1, t, N.hs, N.f, s, (), rfl, nx1.ex0 (f2.trans f3), e3, m1, h0, by rw [m3]; exact (far_pos h0).1, fun b H4 hb f4 => ?_⟩
      k_offL
      cases b with
      | true =>
        k_offL
        refine ⟨⟨_, rfl⟩, fun s' hs' => ?_, f3.trans f4⟩
        rw [hsn] at hs'
        rcases List.mem_append.mp hs' with z | z
        · exact tr s' z
        · rw [List.mem_singleton.mp z]; exact hb.mp rfl
      | false =>
        k_offL
        exact k _ H4 (.inr ⟨t, s, rfl, f4.tp _ _ e3, hm, fun z => by cases hb.mpr z⟩) ((f1.trans f2).trans (f3.trans f4))
    · rintro σ' H3 ⟨⟨v2, rfl⟩, tr, f3⟩
      rw [S2.len, List.take_length] at tr
      k_offL
      exact k _ H3 (.inl ⟨rfl, tr⟩) ((f1.trans f2).trans f3)
end
def spRefuseUntrue (C : Addr) : Sp := fun vs H Q _ => ∃ (p da db dl : Addr) (N : NS), vs = [.ref p] ∧ NetAt C H p da db dl N ∧ N.Ok ∧ N.Say ∧ ∀ H', Fr [] H H' → Q .non H'
section
variable {P : Program} {w : World} {K : PySem.W.Frag} {mg : Str → Option Value} {base : Heap} {CNet CMender CDesk CStore CWalk : Addr}
abbrev s_refuse_untrue : Stmt := top 37
theorem sc_refuse_untrue : FnScope ["net", "saying"] ["net"] (defScope s_refuse_untrue) := ⟨rfl, rfl, rfl, by decide +kernel, rfl, by decide +kernel, by decide +kernel⟩
theorem ok_refuse_untrue {f : Addr} {fd : FuncData} (F : Fun K "refuse_untrue" "refuse_untrue" s_refuse_untrue f fd) (G_first_untrue : GF P w K mg base "first_untrue" 4 ["net"] (spFirstUntrue CNet)) (T : NetT K CNet) : FnOk P w K mg base CX0 5 f fd ["net"] (spRefuseUntrue CNet) := by
  refine F.ok sc_refuse_untrue (fun vs H Q E h => ?_) (fun cdv A outer s H vs Q E hr h => ?_)
  · obtain ⟨_, _, _, _, _, rfl, _⟩ := h; rfl
  · obtain ⟨p, da, db, dl, N, rfl, hN, ok, say, k⟩ := h
    refine ⟨_, (pss_cons (ps_set (i := 1) sc_refuse_untrue.nd rfl (Or.inl rfl) (c_fn G_first_untrue (hr.mono (by decide)) (pa_cons (pv 0) pa_nil)))
      (pss_one (ps_if (pt_cmpR op_notNn (pv 1) pe_non (nomark _)) (pss_one ps_never) pss_nil))), ?_⟩
    (try simp only [cxK, cxKX, List.map])
    refine ent (σ' := [some _, none]) rfl ?_
    k_offL
    refine ⟨p, da, db, dl, N, rfl, hN, ok, fun v H1 hv f1 => ?_⟩
    rcases hv with ⟨rfl, _⟩ | ⟨t, s, _, _, h1, h2⟩
    · k_offL
      refine ifNF rfl ?_
      k_offL
      exact k H1 f1
    · exact absurd (NS.says_true say h1) h2
end
end RL
set_option synthInstance.maxHeartbeats 4000000
set_option synthInstance.maxSize 4000
namespace RL
def pairAt (H : Hp) : V → Int × Int
  | .ref t => match H t with
    | some (.tup [.int a, .int b]) => (a, b)
    | _ => (0, 0)
  | _ => (0, 0)
theorem pairAt_at {H : Hp} {t : Addr} {a b : Int} (h : H t = some (.tup [.int a, .int b])) : pairAt H (.ref t) = (a, b) := by
  unfold pairAt
  simp only [h]
section
variable {H H' : Hp} {ps : List (Int × Int)} {lv : List V}
theorem PrIs.pairs (x : PrIs H ps lv) : lv.map (pairAt H) = ps := by
  apply List.ext_getElem?
  intro i
  rw [List.getElem?_map]
  cases e : ps[i]? with
  | none =>
    have := List.getElem?_eq_none_iff.mp e
    rw [List.getElem?_eq_none (by rw [x.len]; exact this)]; rfl
  | some q =>
    obtain ⟨t, a, b⟩ := x.at_ i q e
    rw [a]
    show some (pairAt H (.ref t)) = _
    rw [pairAt_at b]
theorem PrIs.all (x : PrIs H ps lv) : ∀ v ∈ lv, ∃ t, v = .ref t ∧ H t = some (.tup [.int (pairAt H v).1, .int (pairAt H v).2]) := fun v hv => by
  obtain ⟨q, _, t, e, h⟩ := x.mem hv
  subst e
  exact ⟨t, rfl, by rw [pairAt_at h]; exact h⟩
theorem PrIs.perm (x : PrIs H ps lv) {ys : List V} (h : ys.Perm lv) : PrIs H (ys.map (pairAt H)) ys :=
  ⟨by rw [List.length_map], fun i q e => by
    rw [List.getElem?_map] at e
    cases e2 : ys[i]? with
    | none => rw [e2] at e; cases e
    | some v =>
      rw [e2] at e
      have e : pairAt H v = q := Option.some.inj e
      obtain ⟨t, et, ht⟩ := x.all v (h.mem_iff.mp (List.mem_of_getElem? e2))
      subst et
      exact ⟨t, rfl, by rw [← e]; exact ht⟩⟩
theorem PrIs.mono (x : PrIs H ps lv) (h : ∀ t xs, H t = some (.tup xs) → H' t = some (.tup xs)) : PrIs H' ps lv := ⟨x.len, fun i q e => let ⟨t, a, b⟩ := x.at_ i q e; ⟨t, a, h _ _ b⟩⟩
theorem r_sortPr {K : PySem.W.Frag} {Q : VK} {a : Addr} (h : SqL K H a lv) (x : PrIs H ps lv) (q : ∀ qs ys p H', qs.Perm ps → qs.Pairwise (fun u v => u.1 < v.1 ∨ (u.1 = v.1 ∧ u.2 ≤ v.2)) → PrIs H' qs ys → H p = none → H' p = some (.lst ys) → Fr [] H H' → Q (.ref p) H') : rSortP K [.ref a] H Q :=
  r_sortP h x.all fun ys p H' pm up n e f => q (ys.map (pairAt H)) ys p H' (by rw [← x.pairs]; exact pm.map _) (List.pairwise_map.mpr up) ((x.perm pm).fr f) n e f
def PrOf (g : Int → Int × Int) (x y : V) (H : Hp) : Prop := ∃ h t, x = .int h ∧ y = .ref t ∧ H t = some (.tup [.int (g h).1, .int (g h).2])
theorem PrIs.of {g : Int → Int × Int} {hs : List Int} {ys : List V} (hl : ys.length = (hs.map V.int).length) (h : ∀ (i : Nat) x, (hs.map V.int)[i]? = some x → ∃ y, ys[i]? = some y ∧ PrOf g x y H) : PrIs H (hs.map g) ys := by
  refine ⟨by rw [hl, List.length_map, List.length_map], fun i p hp => ?_⟩
  rw [List.getElem?_map] at hp
  cases e : hs[i]? with
  | none => rw [e] at hp; cases hp
  | some x =>
    rw [e] at hp
    cases hp
    obtain ⟨y, hy, h', t, e1, e2, e3⟩ := h i (.int x) (by rw [List.getElem?_map, e]; rfl)
    cases e1
    exact ⟨t, by rw [hy, e2], e3⟩
theorem lcPr {J : It} {n : Nat} {G : Hp → Prop} {Y : Nat → Hp → V → Hp → Prop} {j : Nat} {tt : TT} {te : TE} {σ : L2.St} {Q : VK} (w : Walk J n G Y) (ns : List Int) (hn : n = ns.length) (hY : ∀ i H0 x H', i < n → Y i H0 x H' → (∃ k, ns[i]? = some k ∧ x = .int k) ∧ Fr [] H0 H') (g : Int → Int × Int) (hG : ∀ H', Fr [] H H' → G H') (hz : ns.length ≤ 100000)
    (hs : ∀ k H', k ∈ ns → Fr [] H H' → SetK σ j (.int k) (fun σ2 H2 => (∀ R : Bool → Hp → Prop, (∀ H3, Fr [] H2 H3 → R true H3) → tt σ2 H2 R) ∧ (∀ H3, Fr [] H2 H3 → ∀ R : VK, (∀ t H4, H4 t = some (.tup [.int (g k).1, .int (g k).2]) → Fr [] H3 H4 → R (.ref t) H4) → te σ2 H3 R)) H')
    (hd : ∀ p H' ys, H p = none → H' p = some (.lst ys) → PrIs H' (ns.map g) ys → Fr [] H H' → Q (.ref p) H') : LcK J (gName j) tt te [j] σ Q H := by
  refine lcP w (ns.map V.int) (by rw [List.length_map]; exact hn) (fun i H0 x H' hi y => ?_) (fun _ => true) (PrOf g) (fun M x y H1 H2 ⟨h, t, a, b, c⟩ f => ⟨h, t, a, b, f.tp _ _ c⟩) hG (by rw [List.length_map]; exact hz) (fun x H' hm f => ?_) fun p H' ys np ep hl hy f => ?_
  · obtain ⟨⟨k, hk, ex⟩, f⟩ := hY i H0 x H' hi y
    exact ⟨by rw [List.getElem?_map, hk, ex]; rfl, f⟩
  · obtain ⟨k, hk, rfl⟩ := mem_intsM hm
    obtain ⟨q1, q2⟩ := hs k H' hk f
    exact ⟨fun R kR => q1 R kR, fun _ H3 f3 R kR => q2 H3 f3 R fun t H4 e f4 => kR _ H4 f4 ⟨k, t, rfl, rfl, e⟩⟩
  · rw [List.filter_eq_self.mpr fun _ _ => rfl] at hl hy
    exact hd p H' ys np ep (PrIs.of hl hy) f
end
def spPieceOf (C : Addr) : Sp := fun vs H Q _ => ∃ (p da db dl : Addr) (N : NS) (h : Int) (nm W φ : Int → Int), vs = [.ref p, .int h] ∧ NetAt C H p da db dl N ∧ N.Ok ∧ h ∈ N.hs ∧ Pot N.size N.hs N.f nm W φ ∧
  ∀ l H', H l = none → H' l = some (.lst ((pcOf N.hs nm h).map V.int)) → Fr [] H H' → Q (.ref l) H'
section
variable {P : Program} {w : World} {K : PySem.W.Frag} {mg : Str → Option Value} {base : Heap} {CNet CMender CDesk CStore CWalk : Addr}
abbrev s_piece_of : Stmt := top 17
theorem sc_piece_of : FnScope ["net", "house", "nexts", "roots", "one"] ["net", "house"] (defScope s_piece_of) := ⟨rfl, rfl, rfl, by decide +kernel, rfl, by decide +kernel, by decide +kernel⟩
theorem ok_piece_of {f : Addr} {fd : FuncData} (F : Fun K "piece_of" "piece_of" s_piece_of f fd) (G_Net_nexts : GM P w K mg base CNet "nexts" 1 ["self"] (spNexts CNet)) (G_check_house : GF P w K mg base "check_house" 1 ["nexts", "house"] spCheckHouse) (G_ring_roots : GF P w K mg base "ring_roots" 1 ["nexts"] spRingRoots) (m_sorted : mg "sorted" = none) (T : NetT K CNet) : FnOk P w K mg base CX0 2 f fd ["net", "house"] (spPieceOf CNet) := by
  refine F.ok sc_piece_of (fun vs H Q E h => ?_) (fun cdv A outer s H vs Q E hr h => ?_)
  · obtain ⟨_, _, _, _, _, _, _, _, _, rfl, _⟩ := h; rfl
  · obtain ⟨p, da, db, dl, N, x, nm, W, φ, rfl, hN, ok, hx, P, k⟩ := h
    refine ⟨_, (pss_cons (ps_set (i := 2) sc_piece_of.nd rfl (Or.inl rfl) (c_mt0 G_Net_nexts (hr.mono (by decide)) (pv 0)))
      (pss_cons (ps_expr (c_fn G_check_house (hr.mono (by decide)) (pa_cons (pv 2) (pa_cons (pv 1) pa_nil))))
      (pss_cons (ps_set (i := 3) sc_piece_of.nd rfl (Or.inr rfl) (c_fn G_ring_roots (hr.mono (by decide)) (pa_cons (pv 2) pa_nil)))
      (pss_one (ps_ret (pe_lc (own := [("one", 4)]) (g := gName 4) rfl sc_piece_of.nd (pi_listK (K := K) rfl (pe_callB (cb_sortD rfl) (by rfl) m_sorted b_sorted (pa_cons (pv 2) pa_nil))) (blkOk_by (N := ["net", "house", "nexts", "roots", "one"]) (sc := defScope s_piece_of) (by decide +kernel)) (fun _ _ _ _ _ => (pg_name (i := 4) sc_piece_of.nd rfl (Or.inl rfl))) (fun _ _ _ _ _ => pts_one (pt_cmpR op_eq (pe_dget (hu_of hr) (pv 3) (pv 4) (by intro _ _; rfl)) (pe_dget (hu_of hr) (pv 3) (pv 1) (by intro _ _; rfl)) (nomark _))) (fun _ _ _ _ _ => (pv 4)))))))), ?_⟩
    (try simp only [cxK, cxKX, List.map])
    refine ent (σ' := [some _, some _, none, none, none]) rfl ?_
    obtain ⟨dx, hp⟩ := hN.ob
    have hlen := ok.hl
    k_offL
    refine ⟨p, da, db, dl, N, rfl, hN, ok, fun l H1 n1 e1 f1 => ?_⟩
    k_offL
    refine ⟨l, _, x, rfl, .inl e1, ok.dkn.some' (NS.mf_at hx), ?_⟩
    k_offL
    refine ⟨l, N.hs, N.f, (), rfl, NS.nxAt ok e1 ok.dkn, ok.up, by omega, fun l2 kvs g H2 n2 e2 dk2 hr f2 => ?_⟩
    k_offL
    refine r_sortD (.inl (f2.at_ _ _ e1 List.not_mem_nil)) ok.dkn ok.ascF (by omega) fun l3 H3 n3 e3 f3 => ?_
    refine walkL (sqL_of e3) ?_
    refine lcV (walk_list (xs := N.hs.map V.int)) (N.hs.map V.int) rfl (fun i H0 x H' _ y => yAt y) (intP fun o => decide (g o = g x)) (fun v => v) (fun H' f => f.sqL (sqL_of e3) List.not_mem_nil) (by rw [List.length_map]; omega) (fun o H' hm f => ?_) fun l4 H4 n4 e4 f4 => ?_
    · obtain ⟨o, ho, rfl⟩ := mem_intsM hm
      have e5 := (f3.trans f).at_ _ _ e2 List.not_mem_nil
      refine sk4 ⟨fun R kR => ?_, fun _ H5 f5 R kR => ?_⟩
      · k_offL
        refine dgetk (.inl e5) (by rw [dk2.val, mfOf_at ho]) ?_
        k_offL
        refine dgetk (.inl e5) (by rw [dk2.val, mfOf_at hx]) ?_
        k_offL
        exact kR _ (Fr.refl _ _)
      · k_offL
        exact kR _ (Fr.refl _ _)
    rw [filter_intP, show (fun v : V => v) = id from rfl, List.map_id] at e4
    have e6 : N.hs.filter (fun o => decide (g o = g x)) = pcOf N.hs nm x := by
      unfold pcOf
      refine List.filter_congr fun o ho => ?_
      have := P.root ok.fh ho hx (hr o ho) (hr x hx)
      rw [Bool.eq_iff_iff, decide_eq_true_iff, decide_eq_true_iff]
      exact this
    rw [e6] at e4
    exact k l4 H4 ((f1.trans (f2.trans f3)).free n4) e4 ((f1.trans (f2.trans f3)).trans f4)
end
def mkv (W : Int) (φ : Int → Int) (r o : Int) : V := .int ((r + φ o - φ r) % W)
def spMarksOf (C : Addr) : Sp := fun vs H Q _ => ∃ (p da db dl : Addr) (N : NS) (h : Int) (nm W φ : Int → Int), vs = [.ref p, .int h] ∧ NetAt C H p da db dl N ∧ N.Ok ∧ h ∈ N.hs ∧ Pot N.size N.hs N.f nm W φ ∧
  ∀ l r H', H l = none → H' l = some (.dK ((pcOf N.hs nm h).map fun o => (Sum.inl o, mkv (W (nm h)) φ r o))) → (pcOf N.hs nm h)[0]? = some r → Fr [] H H' → Q (.ref l) H'
section
variable {P : Program} {w : World} {K : PySem.W.Frag} {mg : Str → Option Value} {base : Heap} {CNet CMender CDesk CStore CWalk : Addr}
abbrev s_marks_of : Stmt := top 34
theorem sc_marks_of : FnScope ["net", "house", "piece", "first", "whole", "nexts", "rest", "one", "least"] ["net", "house"] (defScope s_marks_of) := ⟨rfl, rfl, rfl, by decide +kernel, rfl, by decide +kernel, by decide +kernel⟩
theorem ok_marks_of {f : Addr} {fd : FuncData} (F : Fun K "marks_of" "marks_of" s_marks_of f fd) (G_piece_of : GF P w K mg base "piece_of" 2 ["net", "house"] (spPieceOf CNet)) (G_ring_of : GF P w K mg base "ring_of" 2 ["net", "house"] (spRingOf CNet)) (G_turns_of : GF P w K mg base "turns_of" 3 ["net", "house"] (spTurnsOf CNet)) (G_Net_nexts : GM P w K mg base CNet "nexts" 1 ["self"] (spNexts CNet)) (G_length_along : GF P w K mg base "length_along" 2 ["size", "houses"] (spLengthAlong K)) (G_way_along : GF P w K mg base "way_along" 1 ["nexts", "start", "end"] spWayAlong) (T : NetT K CNet) : FnOk P w K mg base CX0 4 f fd ["net", "house"] (spMarksOf CNet) := by
  refine F.ok sc_marks_of (fun vs H Q E h => ?_) (fun cdv A outer s H vs Q E hr h => ?_)
  · obtain ⟨_, _, _, _, _, _, _, _, _, rfl, _⟩ := h; rfl
  · obtain ⟨p, da, db, dl, N, x, nm, W, φ, rfl, hN, ok, hx, P, k⟩ := h
    refine ⟨_, (pss_cons (ps_set (i := 2) sc_marks_of.nd rfl (Or.inl rfl) (c_fn G_piece_of (hr.mono (by decide)) (pa_cons (pv 0) (pa_cons (pv 1) pa_nil))))
      (pss_cons (ps_set (i := 3) sc_marks_of.nd rfl (Or.inr rfl) (pe_ix (ix_listK (K := K) rfl) (c_fn G_ring_of (hr.mono (by decide)) (pa_cons (pv 0) (pa_cons (pv 1) pa_nil))) pe_int (by intro _ _; rfl)))
      (pss_cons (ps_set (i := 4) sc_marks_of.nd rfl (Or.inr rfl) (pe_op op_mul (c_fn G_turns_of (hr.mono (by decide)) (pa_cons (pv 0) (pa_cons (pv 1) pa_nil))) (pe_fldK (K := K) rfl (pv 0) (by rfl))))
      (pss_cons (ps_set (i := 5) sc_marks_of.nd rfl (Or.inr rfl) (c_mt0 G_Net_nexts (hr.mono (by decide)) (pv 0)))
      (pss_cons (ps_set (i := 6) sc_marks_of.nd rfl (Or.inr rfl) (pe_dc (own := [("one", 7)]) (g := gName 7) rfl sc_marks_of.nd (pi_listK (K := K) rfl (pv 2)) (blkOk_by (N := ["net", "house", "piece", "first", "whole", "nexts", "rest", "one", "least"]) (sc := defScope s_marks_of) (by decide +kernel)) (fun _ _ _ _ _ => (pg_name (i := 7) sc_marks_of.nd rfl (Or.inl rfl))) (fun _ _ _ _ _ => pts_nil) (fun _ _ _ _ _ => (pv 7)) (fun _ _ _ _ _ => (c_fn G_length_along (hr.mono (by decide)) (pa_cons (pe_fldK (K := K) rfl (pv 0) (by rfl)) (pa_cons (c_fn G_way_along (hr.mono (by decide)) (pa_cons (pv 5) (pa_cons (pv 7) (pa_cons (pv 3) pa_nil)))) pa_nil))))))
      (pss_cons (ps_set (i := 8) sc_marks_of.nd rfl (Or.inr rfl) (pe_ix (ix_listK (K := K) rfl) (pv 2) pe_int (by intro _ _; rfl)))
      (pss_one (ps_ret (pe_dc (own := [("one", 7)]) (g := gName 7) rfl sc_marks_of.nd (pi_listK (K := K) rfl (pv 2)) (blkOk_by (N := ["net", "house", "piece", "first", "whole", "nexts", "rest", "one", "least"]) (sc := defScope s_marks_of) (by decide +kernel)) (fun _ _ _ _ _ => (pg_name (i := 7) sc_marks_of.nd rfl (Or.inl rfl))) (fun _ _ _ _ _ => pts_nil) (fun _ _ _ _ _ => (pv 7)) (fun _ _ _ _ _ => (pe_op op_mod (pe_op op_sub (pe_op op_add (pv 8) (pe_dget (hu_of hr) (pv 6) (pv 8) (by intro _ _; rfl))) (pe_dget (hu_of hr) (pv 6) (pv 7) (by intro _ _; rfl))) (pv 4)))))))))))), ?_⟩
    (try simp only [cxK, cxKX, List.map])
    refine ent (σ' := [some _, some _, none, none, none, none, none, none, none]) rfl ?_
    obtain ⟨dx, hp⟩ := hN.ob
    have hlen := ok.hl
    have h0 := ok.s0
    have h1 := ok.s1
    have w0 := P.w0 x hx
    k_offL
    refine ⟨p, da, db, dl, N, x, nm, W, φ, rfl, hN, ok, hx, P, fun l1 H1 n1 e1 f1 => ?_⟩
    k_offL
    refine ⟨p, da, db, dl, N, x, rfl, hN.ex f1, ok, hx, fun l2 r m n H2 n2 e2 per hm hr hmin f2 => ?_⟩
    have p1 := per.p1
    k_offL
    refine r_ixL (sqL_of e2) (v := .int r) (ix_at 0 rfl (by rw [List.getElem?_map, ringL_at (by omega)]; rfl)) ?_
    k_offL
    refine ⟨p, da, db, dl, N, x, rfl, hN.ex (f1.trans f2), ok, hx, fun r' m' n' H3 per' hr' f3 => ?_⟩
    have f13 := (f1.trans f2).trans f3
    k_offL
    have whole := P.whole ok.fh hx per' hr'
    have hp3 := f13.at_ _ _ hp List.not_mem_nil
    k_offL
    rw [whole]
    refine ⟨p, da, db, dl, N, rfl, hN.ex f13, ok, fun l4 H4 n4 e4 f4 => ?_⟩
    have nx4 := NS.nxAt ok e4 ok.dkn
    have e14 := ((f2.trans f3).trans f4).at_ _ _ e1 List.not_mem_nil
    have hp4 := f4.at_ _ _ hp3 List.not_mem_nil
    obtain ⟨rs, hrs⟩ : ∃ rs : Int → Int, ∀ o n, it N.f n o = r → (∀ j, j < n → it N.f j o ≠ r) → rs o = wl N.size N.f n o := by
      have : ∀ o : Int, ∃ w : Int, ∀ n, it N.f n o = r → (∀ j, j < n → it N.f j o ≠ r) → w = wl N.size N.f n o := fun o => by
        by_cases c : ∃ n, it N.f n o = r ∧ ∀ j, j < n → it N.f j o ≠ r
        · obtain ⟨n, h1, h2⟩ := c
          refine ⟨wl N.size N.f n o, fun n' h1' h2' => ?_⟩
          rcases Nat.lt_trichotomy n n' with z | z | z
          · exact absurd h1 (h2' n z)
          · rw [z]
          · exact absurd h1' (h2 n' z)
        · exact ⟨0, fun n h1 h2 => absurd ⟨n, h1, h2⟩ c⟩
      exact Classical.axiomOfChoice this
    have pcnd : (pcOf N.hs nm x).Nodup := ok.nd.filter _
    have pcl : (pcOf N.hs nm x).length ≤ N.hs.length := List.length_filter_le _ _
    have to : ∀ o ∈ pcOf N.hs nm x, ∃ n, it N.f n o = r := fun o ho => by
      have om := mem_pc.mp ho
      obtain ⟨a, b, eab⟩ := P.mt o om.1 x hx om.2
      have := per.meet hr (rfl : it N.f b x = it N.f b x)
      exact ⟨_, by rw [it_add, eab]; exact this⟩
    have rsd : ∀ o ∈ pcOf N.hs nm x, W (nm x) ∣ rs o - (φ r - φ o) := fun o ho => by
      have om := mem_pc.mp ho
      obtain ⟨n, h1, h2⟩ : ∃ n, it N.f n o = r ∧ ∀ j, j < n → it N.f j o ≠ r := by
        obtain ⟨n, hn⟩ := to o ho
        induction n using Nat.strongRecOn with
        | ind n ih =>
          by_cases c : ∃ j, j < n ∧ it N.f j o = r
          · obtain ⟨j, h1, h2⟩ := c; exact ih j h1 h2
          · exact ⟨n, hn, fun j hj z => c ⟨j, hj, z⟩⟩
      rw [hrs o n h1 h2]
      have := P.wlen ok.fh om.1 (n := n)
      rw [h1, om.2] at this
      exact this
    k_offL
    refine walkL (sqL_of e14) ?_
    refine dcV (walk_list (xs := (pcOf N.hs nm x).map V.int)) (pcOf N.hs nm x) pcnd (by rw [List.length_map]) (fun i H0 x H' _ y => yAtI y) (fun _ => true) (fun o => .int (rs o)) (fun H' f => f.sqL (sqL_of e14) List.not_mem_nil) (by omega) (fun o H' hm f => ?_) fun l5 H5 n5 e5 f5 => ?_
    · have om := mem_pc.mp hm
      refine sk7 ⟨fun R kR => ?_, fun _ H6 f6 R kR => ?_⟩
      · k_offL
        exact kR _ (Fr.refl _ _)
      · have f46 := f.trans f6
        have hp6 := f46.at_ _ _ hp4 List.not_mem_nil
        k_offL
        refine ⟨l4, N.hs, N.f, o, r, (), (), rfl, nx4.ex0 f46, by omega, om.1, to o hm, fun l6 n6 H7 n7 e7 h1 h2 h3 f7 => ?_⟩
        k_offL
        refine ⟨N.size, l6, N.f, o, n6, (), (), rfl, sqL_of e7, h0, by omega, fun H8 f8 => ?_⟩
        rw [← hrs o n6 h1 h2]
        exact kR _ (f7.trans f8)
    rw [List.filter_eq_self.mpr fun _ _ => rfl] at e5
    have e15 := f5.at_ _ _ e14 List.not_mem_nil
    obtain ⟨least, hl⟩ : ∃ y, (pcOf N.hs nm x)[0]? = some y := ⟨_, List.getElem?_eq_getElem (List.length_pos_of_mem (pc_self hx))⟩
    have lm := List.mem_of_getElem? hl
    have v5 : ∀ o, o ∈ pcOf N.hs nm x → valV ((pcOf N.hs nm x).map fun o => ((Sum.inl o : Key), V.int (rs o))) (.inl o) = some (.int (rs o)) := fun o ho => by rw [valV_mapK (fun o => V.int (rs o)), if_pos ho]
    k_offL
    refine r_ixL (sqL_of e15) (v := .int least) (ix_at 0 rfl (by rw [List.getElem?_map, hl]; rfl)) ?_
    k_offL
    refine walkL (sqL_of e15) ?_
    refine dcV (walk_list (xs := (pcOf N.hs nm x).map V.int)) (pcOf N.hs nm x) pcnd (by rw [List.length_map]) (fun i H0 x H' _ y => yAtI y) (fun _ => true) (mkv (W (nm x)) φ least) (fun H' f => f.sqL (sqL_of e15) List.not_mem_nil) (by omega) (fun o H' hm f => ?_) fun l6 H6 n6 e6 f6 => ?_
    · have om := mem_pc.mp hm
      have e5' := f.at_ _ _ e5 List.not_mem_nil
      refine sk7 ⟨fun R kR => ?_, fun _ H7 f7 R kR => ?_⟩
      · k_offL
        exact kR _ (Fr.refl _ _)
      · have e57 := f7.at_ _ _ e5' List.not_mem_nil
        k_offL
        refine dgetk (.inl e57) (v5 least lm) ?_
        k_offL
        refine dgetk (.inl e57) (v5 o hm) ?_
        k_offL
        have e9 : (least + rs least - rs o) % W (nm x) = (least + φ o - φ least) % W (nm x) := by
          refine emod_eq ?_
          have := Int.dvd_sub (rsd least lm) (rsd o hm)
          rw [show rs least - (φ r - φ least) - (rs o - (φ r - φ o)) = least + rs least - rs o - (least + φ o - φ least) by omega] at this
          exact this
        rw [e9]
        exact kR _ (Fr.refl _ _)
    rw [List.filter_eq_self.mpr fun _ _ => rfl] at e6
    have f16 := (f13.trans f4).trans f5
    k_offL
    exact k l6 least H6 (f16.free n6) e6 hl (f16.trans f6)
end
def spMarkRow (C : Addr) : Sp := fun vs H Q _ => ∃ (p da db dl : Addr) (N : NS) (h : Int) (nm W φ : Int → Int), vs = [.ref p, .int h] ∧ NetAt C H p da db dl N ∧ N.Ok ∧ h ∈ N.hs ∧ Pot N.size N.hs N.f nm W φ ∧
  ∀ (l : Addr) (row : List Int) (r : Int) (H' : Hp), H l = none → H' l = some (.lst (row.map V.int)) → (pcOf N.hs nm h)[0]? = some r → row.Nodup → (∀ x, x ∈ row ↔ x ∈ N.hs ∧ nm x = nm h) → row.Pairwise (fun x y => (φ x + -φ r) % W (nm h) < (φ y + -φ r) % W (nm h)) → Fr [] H H' → Q (.ref l) H'
section
variable {P : Program} {w : World} {K : PySem.W.Frag} {mg : Str → Option Value} {base : Heap} {CNet CMender CDesk CStore CWalk : Addr}
abbrev s_mark_row : Stmt := top 35
theorem sc_mark_row : FnScope ["net", "house", "marks", "whole", "least", "pairs", "one", "pair"] ["net", "house"] (defScope s_mark_row) := ⟨rfl, rfl, rfl, by decide +kernel, rfl, by decide +kernel, by decide +kernel⟩
theorem ok_mark_row {f : Addr} {fd : FuncData} (F : Fun K "mark_row" "mark_row" s_mark_row f fd) (G_marks_of : GF P w K mg base "marks_of" 4 ["net", "house"] (spMarksOf CNet)) (G_turns_of : GF P w K mg base "turns_of" 3 ["net", "house"] (spTurnsOf CNet)) (m_min : mg "min" = none) (m_sorted : mg "sorted" = none) (T : NetT K CNet) : FnOk P w K mg base CX0 5 f fd ["net", "house"] (spMarkRow CNet) := by
  refine F.ok sc_mark_row (fun vs H Q E h => ?_) (fun cdv A outer s H vs Q E hr h => ?_)
  · obtain ⟨_, _, _, _, _, _, _, _, _, rfl, _⟩ := h; rfl
  · obtain ⟨p, da, db, dl, N, x, nm, W, φ, rfl, hN, ok, hx, P, k⟩ := h
    refine ⟨_, (pss_cons (ps_set (i := 2) sc_mark_row.nd rfl (Or.inr rfl) (c_fn G_marks_of (hr.mono (by decide)) (pa_cons (pv 0) (pa_cons (pv 1) pa_nil))))
      (pss_cons (ps_set (i := 3) sc_mark_row.nd rfl (Or.inr rfl) (pe_op op_mul (c_fn G_turns_of (hr.mono (by decide)) (pa_cons (pv 0) (pa_cons (pv 1) pa_nil))) (pe_fldK (K := K) rfl (pv 0) (by rfl))))
      (pss_cons (ps_set (i := 4) sc_mark_row.nd rfl (Or.inr rfl) (pe_callB (cb_minD rfl) (by rfl) m_min b_min (pa_cons (pv 2) pa_nil)))
      (pss_cons (ps_set (i := 5) sc_mark_row.nd rfl (Or.inl rfl) (pe_callB (cb_sortPK (K := K) rfl) (by rfl) m_sorted b_sorted (pa_cons (pe_lock (pe_lc (own := [("one", 6)]) (g := gName 6) rfl sc_mark_row.nd (pi_keys (pv 2)) (blkOk_by (N := ["net", "house", "marks", "whole", "least", "pairs", "one", "pair"]) (sc := defScope s_mark_row) (by decide +kernel)) (fun _ _ _ _ _ => (pg_name (i := 6) sc_mark_row.nd rfl (Or.inl rfl))) (fun _ _ _ _ _ => pts_nil) (fun _ _ _ _ _ => (pe_tup (pa_cons (pe_op op_mod (pe_op op_sub (pe_dget (hu_of hr) (pv 2) (pv 6) (by intro _ _; rfl)) (pe_dget (hu_of hr) (pv 2) (pv 4) (by intro _ _; rfl))) (pv 3)) (pa_cons (pv 6) pa_nil)))))) pa_nil)))
      (pss_one (ps_ret (pe_lc (own := [("pair", 7)]) (g := gName 7) rfl sc_mark_row.nd (pi_listK (K := K) rfl (pv 5)) (blkOk_by (N := ["net", "house", "marks", "whole", "least", "pairs", "one", "pair"]) (sc := defScope s_mark_row) (by decide +kernel)) (fun _ _ _ _ _ => (pg_name (i := 7) sc_mark_row.nd rfl (Or.inl rfl))) (fun _ _ _ _ _ => pts_nil) (fun _ _ _ _ _ => (pe_ix (ix_tupK (K := K) rfl) (pv 7) pe_int (by intro _ _; rfl)))))))))), ?_⟩
    (try simp only [cxK, cxKX, List.map])
    refine ent (σ' := [some _, some _, none, none, none, none, none, none]) rfl ?_
    obtain ⟨dx, hp⟩ := hN.ob
    have hlen := ok.hl
    have h0 := ok.s0
    have h1 := ok.s1
    have w0 := P.w0 x hx
    k_offL
    refine ⟨p, da, db, dl, N, x, nm, W, φ, rfl, hN, ok, hx, P, fun l1 r H1 n1 e1 hr f1 => ?_⟩
    have rm := mem_pc.mp (List.mem_of_getElem? hr)
    have pcl : (pcOf N.hs nm x).length ≤ N.hs.length := List.length_filter_le _ _
    k_offL
    refine ⟨p, da, db, dl, N, x, rfl, hN.ex f1, ok, hx, fun r' m' n' H2 per' hr' f2 => ?_⟩
    have whole := P.whole ok.fh hx per' hr'
    have hp2 := (f1.trans f2).at_ _ _ hp List.not_mem_nil
    have e2 := f2.at_ _ _ e1 List.not_mem_nil
    k_offL
    rw [whole]
    have hk : ((pcOf N.hs nm x).map fun o => ((Sum.inl o : Key), mkv (W (nm x)) φ r o)).map (·.1) = (pcOf N.hs nm x).map Sum.inl := by rw [List.map_map]; rfl
    refine r_minD e2 hk (List.ne_nil_of_mem (pc_self hx)) fun m hm hmin => ?_
    have em : m = r := by
      have h1 := hmin r (List.mem_of_getElem? hr)
      have up : (pcOf N.hs nm x).Pairwise (· < ·) := ok.up.sublist List.filter_sublist
      obtain ⟨i, hi⟩ := List.mem_iff_getElem?.mp hm
      cases i with
      | zero => rw [hr] at hi; exact (Option.some.inj hi).symm
      | succ i =>
        obtain ⟨a1, a2⟩ := List.getElem?_eq_some_iff.mp hr
        obtain ⟨b1, b2⟩ := List.getElem?_eq_some_iff.mp hi
        have := List.pairwise_iff_getElem.mp up 0 (i + 1) a1 b1 (by omega)
        omega
    subst em
    k_offL
    refine x_lockE e2 fun od H3 e3 l3 => ?_
    k_offL
    refine keysk e3 ?_
    have val : ∀ o, o ∈ pcOf N.hs nm x → valV ((pcOf N.hs nm x).map fun o => ((Sum.inl o : Key), mkv (W (nm x)) φ m o)) (.inl o) = some (.int ((m + φ o - φ m) % W (nm x))) := fun o ho => by rw [valV_mapK (mkv (W (nm x)) φ m), if_pos ho]; rfl
    refine lcPr (walk_keys (kvs := (pcOf N.hs nm x).map fun o => ((Sum.inl o : Key), mkv (W (nm x)) φ m o))) (pcOf N.hs nm x) (by rw [List.length_map]) (fun i H0 x H' _ y => yKey hk y) (fun o => (((m + φ o - φ m) % W (nm x) - (m + φ m - φ m) % W (nm x)) % W (nm x), o)) (fun H' f => f.fz _ _ _ e3) (by omega) (fun o H' ho f => ?_) fun l4 H4 ys n4 e4 pr f4 => ?_
    · refine sk6 ⟨fun R kR => ?_, fun H5 f5 R kR => ?_⟩
      · k_offL
        exact kR _ (Fr.refl _ _)
      · have e5 := (f.trans f5).fz _ _ _ e3
        k_offL
        refine dgetk (.inr ⟨od, e5⟩) (val o ho) ?_
        k_offL
        refine dgetk (.inr ⟨od, e5⟩) (val m (List.mem_of_getElem? hr)) ?_
        k_offL
        refine tupk (by show 2 ≤ 100000; decide) fun t H6 n6 e6 f6 => ?_
        exact kR t H6 e6 f6
    refine unlk e2 e3 l3 f4 fun H5 f5 keep => ?_
    have e43 := f4.fz _ _ _ e3
    have pr5 : PrIs H5 _ ys := pr.mono fun t xs h => keep t _ (by intro z; subst z; rw [h] at e43; cases e43) h
    have e5 := keep l4 _ (by intro z; subst z; rw [e4] at e43; cases e43) e4
    k_offL
    refine r_sortPr (sqL_of e5) pr5 fun qs zs l6 H6 pm up prq n6 e6 f6 => ?_
    have lq : qs.length = (pcOf N.hs nm x).length := by rw [pm.length_eq, List.length_map]
    k_offL
    refine walkL (sqL_of e6) ?_
    refine lcV (walk_list (xs := zs)) zs rfl (fun i H0 x H' _ y => yAt y) (fun _ => true) (fun v => .int (pairAt H6 v).2) (fun H' f => f.sqL (sqL_of e6) List.not_mem_nil) (by rw [prq.len, lq]; omega) (fun v H' hv f => ?_) fun l7 H7 n7 e7 f7 => ?_
    · obtain ⟨t, rfl, ht⟩ := prq.all v hv
      refine sk7 ⟨fun R kR => ?_, fun _ H8 f8 R kR => ?_⟩
      · k_offL
        exact kR _ (Fr.refl _ _)
      · k_offL
        refine r_ixT (sqT_of ((f.trans f8).tp _ _ ht)) (v := .int (pairAt H6 (.ref t)).2) rfl ?_
        exact kR _ (Fr.refl _ _)
    rw [List.filter_eq_self.mpr fun _ _ => rfl] at e7
    have e7' : H7 l7 = some (.lst ((qs.map (·.2)).map V.int)) := by rw [e7, ← prq.pairs, List.map_map, List.map_map]; rfl
    have pm2 : (qs.map (·.2)).Perm (pcOf N.hs nm x) := by
      have := pm.map (·.2)
      rw [List.map_map] at this
      rw [show ((pcOf N.hs nm x).map ((·.2) ∘ fun o => (((m + φ o - φ m) % W (nm x) - (m + φ m - φ m) % W (nm x)) % W (nm x), o))) = pcOf N.hs nm x by simp [Function.comp_def]] at this
      exact this
    have up2 : (qs.map (·.2)).Pairwise fun x' y' => ((m + φ x' - φ m) % W (nm x) - (m + φ m - φ m) % W (nm x)) % W (nm x) < ((m + φ y' - φ m) % W (nm x) - (m + φ m - φ m) % W (nm x)) % W (nm x) ∨ (((m + φ x' - φ m) % W (nm x) - (m + φ m - φ m) % W (nm x)) % W (nm x) = ((m + φ y' - φ m) % W (nm x) - (m + φ m - φ m) % W (nm x)) % W (nm x) ∧ x' ≤ y') := by
      refine List.pairwise_map.mpr (List.Pairwise.imp_of_mem (fun {u v} hu hv h => ?_) up)
      obtain ⟨o, _, rfl⟩ := List.mem_map.mp (pm.mem_iff.mp hu)
      obtain ⟨o', _, rfl⟩ := List.mem_map.mp (pm.mem_iff.mp hv)
      exact h
    obtain ⟨g1, g2, g3⟩ := P.rowp (c := -φ m) ok.on hx ok.nd pm2 (fun o _ _ => emod_eq (by
      have d1 := emod_dvd (z := W (nm x)) (X := m + φ o - φ m)
      have d2 := emod_dvd (z := W (nm x)) (X := m + φ m - φ m)
      have := Int.dvd_sub d2 d1
      rw [show m + φ m - φ m - (m + φ m - φ m) % W (nm x) - (m + φ o - φ m - (m + φ o - φ m) % W (nm x)) = (m + φ o - φ m) % W (nm x) - (m + φ m - φ m) % W (nm x) - (φ o + -φ m) by omega] at this
      exact this)) up2
    have f16 := (f1.trans f2).trans (f5.trans f6)
    exact k l7 _ m H7 (f16.free n7) e7' hr g1 g2 g3 (f16.trans f7)
end
end RL
set_option synthInstance.maxHeartbeats 4000000
set_option synthInstance.maxSize 4000
namespace RL
def PcsAt (H : Hp) (N : NS) (nm : Int → Int) (as : List Addr) (rs : List Int) : Prop := as.length = rs.length ∧ (∀ (i : Nat) r, rs[i]? = some r → r ∈ N.hs ∧ ∃ a, as[i]? = some a ∧ H a = some (.lst ((pcOf N.hs nm r).map V.int))) ∧ ∀ h ∈ N.hs, ∃ r ∈ rs, nm r = nm h
def spPieces (C : Addr) : Sp := fun vs H Q _ => ∃ (p da db dl : Addr) (N : NS) (nm W φ : Int → Int), vs = [.ref p] ∧ NetAt C H p da db dl N ∧ N.Ok ∧ Pot N.size N.hs N.f nm W φ ∧
  ∀ (l : Addr) (as : List Addr) (rs : List Int) (H' : Hp), H l = none → H' l = some (.lst (as.map V.ref)) → rs.length ≤ N.hs.length → PcsAt H' N nm as rs → Fr [] H H' → Q (.ref l) H'
theorem Fr.freeM {M : List Addr} {H H' : Hp} {z : Addr} (f : Fr M H H') (n : H' z = none) (m : z ∉ M) : H z = none := by
  cases e : H z with
  | none => rfl
  | some o => rw [f.at_ _ _ e m] at n; cases n
structure ByR (H0 H : Hp) (br : Addr) (g : Int → Int) (T rs : List Int) (al : Int → Addr) : Prop where
  at_ : H br = some (.dK (rs.map fun r => ((Sum.inl r : Key), V.ref (al r))))
  nd : rs.Nodup
  mem : ∀ r, r ∈ rs ↔ r ∈ T.map g
  ls : ∀ r ∈ rs, H (al r) = some (.lst ((T.filter fun o => decide (g o = r)).map V.int))
  nw : ∀ r ∈ rs, H0 (al r) = none
  inj : ∀ r ∈ rs, ∀ r' ∈ rs, al r = al r' → r = r'
  fr : Fr [br] H0 H
theorem filt_snoc {g : Int → Int} {T : List Int} {h r : Int} : (T ++ [h]).filter (fun o => decide (g o = r)) = if g h = r then T.filter (fun o => decide (g o = r)) ++ [h] else T.filter (fun o => decide (g o = r)) := by
  rw [List.filter_append, List.filter_cons, List.filter_nil]
  by_cases e : g h = r
  · rw [if_pos e, if_pos (decide_eq_true e)]
  · rw [if_neg e, if_neg (by rw [decide_eq_false e]; decide), List.append_nil]
theorem ByR.old {H0 H H' : Hp} {br : Addr} {g : Int → Int} {T rs : List Int} {al : Int → Addr} {h : Int} (x : ByR H0 H br g T rs al) (b0 : H0 br ≠ none) (m : g h ∈ rs) (e : H' (al (g h)) = some (.lst ((T.filter fun o => decide (g o = g h)).map V.int ++ [.int h]))) (f : Fr [al (g h)] H H') : ByR H0 H' br g (T ++ [h]) rs al := by
  have ne : br ≠ al (g h) := fun z => b0 (z ▸ x.nw _ m)
  refine ⟨f.at_ _ _ x.at_ (mem_one ne), x.nd, fun r => ?_, fun r hr => ?_, x.nw, x.inj, x.fr.drop (f.mono fun a h => by simp at h; simp [h]) (x.nw _ m)⟩
  · rw [List.map_append, List.mem_append, x.mem]
    constructor
    · exact .inl
    · rintro (z | z)
      · exact z
      · rw [List.mem_singleton.mp z]; exact (x.mem _).mp m
  · rw [filt_snoc]
    by_cases z : g h = r
    · subst z
      rw [if_pos rfl, e, List.map_append]; rfl
    · rw [if_neg z]
      exact f.at_ _ _ (x.ls r hr) (mem_one fun y => z (x.inj _ m _ hr y.symm))
theorem ByR.new {H0 H H' : Hp} {br z : Addr} {g : Int → Int} {T rs : List Int} {al : Int → Addr} {h : Int} (x : ByR H0 H br g T rs al) (m : g h ∉ rs) (nz : H z = none) (eb : H' br = some (.dK (rs.map (fun r => ((Sum.inl r : Key), V.ref (al r))) ++ [(Sum.inl (g h), .ref z)]))) (ez : H' z = some (.lst [.int h])) (f : Fr [br] H H') : ByR H0 H' br g (T ++ [h]) (rs ++ [g h]) (fun r => if r = g h then z else al r) := by
  have nr : ∀ r ∈ rs, r ≠ g h := fun r hr e => m (e ▸ hr)
  have zal : ∀ r ∈ rs, al r ≠ z := fun r hr e => by have := x.ls r hr; rw [e, nz] at this; cases this
  have abr : ∀ r ∈ rs, al r ≠ br := fun r hr e => by have := x.ls r hr; rw [e, x.at_] at this; cases this
  refine ⟨?_, ?_, fun r => ?_, fun r hr => ?_, fun r hr => ?_, fun r hr r' hr' => ?_, x.fr.trans f⟩
  · rw [eb, List.map_append]
    have e1 : rs.map (fun r => ((Sum.inl r : Key), V.ref (if r = g h then z else al r))) = rs.map (fun r => ((Sum.inl r : Key), V.ref (al r))) := List.map_congr_left fun r hr => by rw [if_neg (nr r hr)]
    rw [e1]
    show _ = some (HO.dK (_ ++ [((Sum.inl (g h) : Key), V.ref (if g h = g h then z else al (g h)))]))
    rw [if_pos rfl]
  · rw [List.nodup_append]
    refine ⟨x.nd, by simp, fun a ha b hb => ?_⟩
    rw [List.mem_singleton.mp hb]; exact nr a ha
  · rw [List.map_append, List.mem_append, List.mem_append, x.mem]; exact Iff.rfl
  · show H' (if r = g h then z else al r) = _
    rw [filt_snoc]
    by_cases e : r = g h
    · subst e
      rw [if_pos rfl, if_pos rfl, ez]
      have : T.filter (fun o => decide (g o = g h)) = [] := List.filter_eq_nil_iff.mpr fun o ho => by
        rw [decide_eq_true_iff]
        intro y
        exact m ((x.mem _).mpr (List.mem_map.mpr ⟨o, ho, y⟩))
      rw [this]; rfl
    · rw [if_neg e, if_neg (Ne.symm e)]
      have hr' := (List.mem_append.mp hr).resolve_right fun y => e (List.mem_singleton.mp y)
      exact f.at_ _ _ (x.ls r hr') (mem_one (abr r hr'))
  · show H0 (if r = g h then z else al r) = none
    by_cases e : r = g h
    · rw [if_pos e]; exact x.fr.freeM nz (mem_one fun y => by have := x.at_; rw [← y, nz] at this; cases this)
    · rw [if_neg e]
      exact x.nw r ((List.mem_append.mp hr).resolve_right fun y => e (List.mem_singleton.mp y))
  · show (if r = g h then z else al r) = (if r' = g h then z else al r') → r = r'
    by_cases e : r = g h
    · by_cases e' : r' = g h
      · intro _; rw [e, e']
      · rw [if_pos e, if_neg e']
        intro y
        exact absurd y.symm (zal r' ((List.mem_append.mp hr').resolve_right fun y => e' (List.mem_singleton.mp y)))
    · have hr1 := (List.mem_append.mp hr).resolve_right fun y => e (List.mem_singleton.mp y)
      by_cases e' : r' = g h
      · rw [if_neg e, if_pos e']
        intro y
        exact absurd y (zal r hr1)
      · rw [if_neg e, if_neg e']
        exact x.inj r hr1 r' ((List.mem_append.mp hr').resolve_right fun y => e' (List.mem_singleton.mp y))
section
variable {P : Program} {w : World} {K : PySem.W.Frag} {mg : Str → Option Value} {base : Heap} {CNet CMender CDesk CStore CWalk : Addr}
abbrev s_pieces : Stmt := top 18
theorem sc_pieces : FnScope ["net", "nexts", "roots", "by_root", "house"] ["net"] (defScope s_pieces) := ⟨rfl, rfl, rfl, by decide +kernel, rfl, by decide +kernel, by decide +kernel⟩
theorem ok_pieces {f : Addr} {fd : FuncData} (F : Fun K "pieces" "pieces" s_pieces f fd) (G_Net_nexts : GM P w K mg base CNet "nexts" 1 ["self"] (spNexts CNet)) (G_ring_roots : GF P w K mg base "ring_roots" 1 ["nexts"] spRingRoots) (m_sorted : mg "sorted" = none) (m_list : mg "list" = none) (T : NetT K CNet) : FnOk P w K mg base CX0 2 f fd ["net"] (spPieces CNet) := by
  refine F.ok sc_pieces (fun vs H Q E h => ?_) (fun cdv A outer s H vs Q E hr h => ?_)
  · obtain ⟨_, _, _, _, _, _, _, _, rfl, _⟩ := h; rfl
  · obtain ⟨p, da, db, dl, N, nm, W, φ, rfl, hN, ok, P, k⟩ := h
    refine ⟨_, (pss_cons (ps_set (i := 1) sc_pieces.nd rfl (Or.inl rfl) (c_mt0 G_Net_nexts (hr.mono (by decide)) (pv 0)))
      (pss_cons (ps_set (i := 2) sc_pieces.nd rfl (Or.inl rfl) (c_fn G_ring_roots (hr.mono (by decide)) (pa_cons (pv 1) pa_nil)))
      (pss_cons (ps_set (i := 3) sc_pieces.nd rfl (Or.inl rfl) pe_dnewK)
      (pss_cons (ps_for PassesOwn.never rfl (pi_listK (K := K) rfl (pe_callB (cb_sortD rfl) (by rfl) m_sorted b_sorted (pa_cons (pv 1) pa_nil))) (pg_name (i := 4) sc_pieces.nd rfl (Or.inl rfl))
      (pss_one (ps_expr (pe_bmK (K := K) rfl PySem.F.plainAttrs_list PySem.F.slot_list_append PySem.F.type_list_append mt_append (pe_dsetd (pv 3) (pe_dget (hu_of hr) (pv 2) (pv 4) (by intro _ _; rfl)) (pe_lst pa_nil) ⟨by rfl, by rfl, by rfl, by rfl⟩) (pa_cons (pv 4) pa_nil)))))
      (pss_one (ps_ret (pe_listVals rfl (pv 3) (by rfl) m_list b_list))))))), ?_⟩
    (try simp only [cxK, cxKX, List.map])
    refine ent (σ' := [some _, none, none, none, none]) rfl ?_
    obtain ⟨dx, hp⟩ := hN.ob
    have hlen := ok.hl
    k_offL
    refine ⟨p, da, db, dl, N, rfl, hN, ok, fun l H1 n1 e1 f1 => ?_⟩
    k_offL
    refine ⟨l, N.hs, N.f, (), rfl, NS.nxAt ok e1 ok.dkn, ok.up, by omega, fun l2 kvs g H2 n2 e2 dk2 hr f2 => ?_⟩
    k_offL
    refine newk fun br H3 n3 e3 f3 => ?_
    have e13 := (f2.trans f3).at_ _ _ e1 List.not_mem_nil
    have e23 := f3.at_ _ _ e2 List.not_mem_nil
    k_offL
    refine r_sortD (.inl e13) ok.dkn ok.ascF (by omega) fun l4 H4 n4 e4 f4 => ?_
    have e34 := f4.at_ _ _ e3 List.not_mem_nil
    have e24 := f4.at_ _ _ e23 List.not_mem_nil
    have br4 : br ≠ l4 := ne_of_none e3 n4
    have b0 : H4 br ≠ none := by rw [e34]; intro z; cases z
    have br2 : br ≠ l2 := (ne_of_none e2 n3).symm
    refine loopLF (M := [br]) (N.hs.map V.int) (sqL_of e4) (mem_one br4.symm) (fun i σ' H' => ∃ (v4 : Option V) (rs : List Int) (al : Int → Addr), σ' = [some (.ref p), some (.ref l), some (.ref l2), some (.ref br), v4] ∧ ByR H4 H' br g (N.hs.take i) rs al ∧ rs.length ≤ i)
      ⟨_, [], fun _ => 0, rfl, ⟨e34, List.nodup_nil, fun r => by simp, (fun _ h => nomatch h), (fun _ h => nomatch h), (fun _ h => nomatch h), Fr.refl _ _⟩, Nat.le_refl _⟩ (fun i σ' H' ⟨_, _, _, _, b, _⟩ => b.fr) ?_ ?_
    · rintro i x σ' H5 hi ⟨v4, rs, al, rfl, B, hrl⟩
      obtain ⟨h, hh, hm, rfl⟩ := mem_ints hi
      have il : i < 45 := by have := (List.getElem?_eq_some_iff.mp hh).1; omega
      have e25 := B.fr.at_ _ _ e24 (mem_one br2.symm)
      have rl : (rs.map fun r => ((Sum.inl r : Key), V.ref (al r))).length ≤ 100 := by rw [List.length_map]; omega
      have hsn := take_snoc hh
      have gh : valV kvs (.inl h) = some (.int (g h)) := by rw [dk2.val, mfOf_at hm]
      k_offL
      refine ds1 B.at_ ?_
      k_offL
      refine dgetk (.inl e25) gh ?_
      k_offL
      refine lstk (by show 0 ≤ 100000; decide) fun z H6 n6 e6 f6 => ?_
      have eb6 := f6.at_ _ _ B.at_ List.not_mem_nil
      refine ds2 eb6 (by omega) (fun v hv => ?_) (fun hv H7 e7 f7 => ?_)
      · rw [valV_mapK (fun r => V.ref (al r))] at hv
        by_cases m : g h ∈ rs
        · rw [if_pos m] at hv
          cases hv
          k_offL
          have B6 : ByR H4 H6 br g (N.hs.take i) rs al := ⟨eb6, B.nd, B.mem, fun r hr => f6.at_ _ _ (B.ls r hr) List.not_mem_nil, B.nw, B.inj, B.fr.trans f6.up⟩
          refine tySqL (sqL_of (B6.ls _ m)) ?_
          k_offL
          refine r_app (B6.ls _ m) (by rw [List.length_map]; have := List.length_filter_le (fun o => decide (g o = g h)) (N.hs.take i); rw [List.length_take] at this; omega) fun H8 e8 f8 => ?_
          k_offL
          refine ⟨_, rs, al, rfl, ?_, by omega⟩
          rw [hsn]
          exact B6.old b0 m e8 f8
        · rw [if_neg m] at hv; cases hv
      · have m : g h ∉ rs := fun m => by rw [valV_mapK (fun r => V.ref (al r)), if_pos m] at hv; cases hv
        rw [putK_new _ hv] at e7
        have zb : z ≠ br := (ne_of_none B.at_ n6).symm
        have e67 := f7.at_ _ _ e6 (mem_one zb)
        k_offL
        refine r_app e67 (by show 0 ≤ 100000; decide) fun H8 e8 f8 => ?_
        k_offL
        refine ⟨_, rs ++ [g h], (fun r => if r = g h then z else al r), rfl, ?_, by rw [List.length_append]; show _ + 1 ≤ _; omega⟩
        rw [hsn]
        refine B.new m n6 (f8.at_ _ _ e7 (mem_one zb.symm)) e8 ?_
        exact (f6.up.trans f7).drop (f8.mono fun a h => by simp at h; simp [h]) n6
    · rintro σ' H5 ⟨v4, rs, al, rfl, B, hrl⟩
      rw [List.length_map, List.take_length] at B
      rw [List.length_map] at hrl
      k_offL
      refine r_valsL B.at_ fun l6 H6 n6 e6 f6 => ?_
      have e6' : H6 l6 = some (.lst ((rs.map al).map V.ref)) := by rw [e6, List.map_map, List.map_map]; rfl
      have fr : Fr [] H H6 := (((f1.trans f2).drop ((f3.up (M := [br])).trans (f4.up.trans B.fr)) ((f1.trans f2).free n3))).trans f6
      have n0 : H l6 = none := by
        have : Fr [br] H H5 := ((f1.trans (f2.trans f3)).trans f4).up.trans B.fr
        exact this.freeM n6 (mem_one fun y => by have := B.at_; rw [← y, n6] at this; cases this)
      have gs : ∀ o ∈ N.hs, ∀ o' ∈ N.hs, g o = g o' ↔ nm o = nm o' := fun o ho o' ho' => P.root ok.fh ho ho' (hr o ho) (hr o' ho')
      obtain ⟨hd, hhd⟩ : ∃ hd : Int → Int, ∀ r, r ∈ rs → hd r ∈ N.hs ∧ g (hd r) = r := by
        have : ∀ r : Int, ∃ y : Int, r ∈ rs → y ∈ N.hs ∧ g y = r := fun r => by
          by_cases c : r ∈ rs
          · obtain ⟨y, hy, e⟩ := List.mem_map.mp ((B.mem r).mp c)
            exact ⟨y, fun _ => ⟨hy, e⟩⟩
          · exact ⟨0, fun z => absurd z c⟩
        exact Classical.axiomOfChoice this
      refine k l6 (rs.map al) (rs.map hd) H6 n0 e6' (by rw [List.length_map]; exact hrl) ⟨by rw [List.length_map, List.length_map], fun i r hi => ?_, fun h hh => ?_⟩ fr
      · rw [List.getElem?_map] at hi
        cases er : rs[i]? with
        | none => rw [er] at hi; cases hi
        | some q =>
          rw [er] at hi
          have hi : hd q = r := Option.some.inj hi
          have qm := List.mem_of_getElem? er
          obtain ⟨h1, h2⟩ := hhd q qm
          rw [hi] at h1 h2
          refine ⟨h1, al q, by rw [List.getElem?_map, er]; rfl, ?_⟩
          have := f6.at_ _ _ (B.ls q qm) List.not_mem_nil
          rw [this]
          have e9 : N.hs.filter (fun o => decide (g o = q)) = pcOf N.hs nm r := by
            unfold pcOf
            refine List.filter_congr fun o ho => ?_
            rw [Bool.eq_iff_iff, decide_eq_true_iff, decide_eq_true_iff, ← h2]
            exact gs o ho r h1
          rw [e9]
      · have m := (B.mem (g h)).mpr (List.mem_map.mpr ⟨h, hh, rfl⟩)
        obtain ⟨h1, h2⟩ := hhd _ m
        exact ⟨hd (g h), List.mem_map.mpr ⟨_, m, rfl⟩, (gs _ h1 h hh).mp h2⟩
end
def spToldEnd (C : Addr) : Sp := fun vs H Q _ => ∃ (p da db dl : Addr) (N : NS) (nm W φ : Int → Int), vs = [.ref p] ∧ NetAt C H p da db dl N ∧ N.Ok ∧ N.Say ∧ Pot N.size N.hs N.f nm W φ ∧
  ∀ (l : Addr) (e : Int → Int) (H' : Hp), H l = none → H' l = some (.dK (N.hs.map fun h => (Sum.inl h, V.int (e h)))) → (∀ h ∈ N.hs, IsEnd N.hs nm W φ h (e h)) → Fr [] H H' → Q (.ref l) H'
def EnOf (hs : List Int) (nm W φ : Int → Int) (kvs : List (Key × V)) (D : List Int) (e : Int → Int) : Prop := DOk kvs (mfOf D e) ∧ ∀ h ∈ D, h ∈ hs ∧ IsEnd hs nm W φ h (e h)
theorem EnOf.put {hs : List Int} {nm W φ : Int → Int} {kvs : List (Key × V)} {D : List Int} {g : Int → Int} {h r : Int} (x : EnOf hs nm W φ kvs D g) (hh : h ∈ hs) (hr : IsEnd hs nm W φ h r) : EnOf hs nm W φ (putK kvs (.inl h) (.int r)) (D ++ [h]) (fun y => if y = h then r else g y) := by
  obtain ⟨d, hd⟩ := x
  refine ⟨d.put.cong fun n => ?_, fun y hy => ?_⟩
  · unfold mfOf
    show _ = if n ∈ D ++ [h] then some (V.int (if n = h then r else g n)) else none
    by_cases e : n = h
    · rw [if_pos e, if_pos (List.mem_append_right _ (List.mem_singleton.mpr e)), if_pos e]
    · rw [if_neg e, if_neg e]
      by_cases m : n ∈ D
      · rw [if_pos m, if_pos (List.mem_append_left _ m)]
      · rw [if_neg m, if_neg fun z => (List.mem_append.mp z).elim m fun z => e (List.mem_singleton.mp z)]
  · show y ∈ hs ∧ IsEnd hs nm W φ y (if y = h then r else g y)
    by_cases e : y = h
    · rw [if_pos e, e]; exact ⟨hh, hr⟩
    · rw [if_neg e]
      exact hd y ((List.mem_append.mp hy).resolve_right fun z => e (List.mem_singleton.mp z))
theorem EnOf.le {hs : List Int} {nm W φ : Int → Int} {kvs : List (Key × V)} {D : List Int} {g : Int → Int} (x : EnOf hs nm W φ kvs D g) : kvs.length ≤ hs.length :=
  x.1.le fun n hn => (x.2 n (mfOf_some.mpr hn)).1
theorem rot1_at {row : List Int} {i : Nat} (hi : i < row.length) : (row.drop 1 ++ row.take 1)[i]? = row[(i + 1) % row.length]? := by
  by_cases last : i + 1 = row.length
  · rw [last, Nat.mod_self, List.getElem?_append_right (by rw [List.length_drop]; omega), List.length_drop, show i - (row.length - 1) = 0 by omega, List.getElem?_take]
    rw [if_pos (by decide)]
  · rw [Nat.mod_eq_of_lt (by omega), List.getElem?_append_left (by rw [List.length_drop]; omega), List.getElem?_drop, Nat.add_comm]
section
variable {P : Program} {w : World} {K : PySem.W.Frag} {mg : Str → Option Value} {base : Heap} {CNet CMender CDesk CStore CWalk : Addr}
abbrev s_told_end : Stmt := top 38
theorem sc_told_end : FnScope ["net", "ends", "piece", "row", "house", "end"] ["net"] (defScope s_told_end) := ⟨rfl, rfl, rfl, by decide +kernel, rfl, by decide +kernel, by decide +kernel⟩
theorem ok_told_end {f : Addr} {fd : FuncData} (F : Fun K "told_end" "told_end" s_told_end f fd) (G_refuse_untrue : GF P w K mg base "refuse_untrue" 5 ["net"] (spRefuseUntrue CNet)) (G_pieces : GF P w K mg base "pieces" 2 ["net"] (spPieces CNet)) (G_mark_row : GF P w K mg base "mark_row" 5 ["net", "house"] (spMarkRow CNet)) (m_zip : mg "zip" = none) (m_sorted : mg "sorted" = none) (T : NetT K CNet) : FnOk P w K mg base CX0 6 f fd ["net"] (spToldEnd CNet) := by
  refine F.ok sc_told_end (fun vs H Q E h => ?_) (fun cdv A outer s H vs Q E hr h => ?_)
  · obtain ⟨_, _, _, _, _, _, _, _, rfl, _⟩ := h; rfl
  · obtain ⟨p, da, db, dl, N, nm, W, φ, rfl, hN, ok, say, P, k⟩ := h
    refine ⟨_, (pss_cons (ps_expr (c_fn G_refuse_untrue (hr.mono (by decide)) (pa_cons (pv 0) pa_nil)))
      (pss_cons (ps_set (i := 1) sc_told_end.nd rfl (Or.inr rfl) pe_dnewK)
      (pss_cons (ps_for PassesOwn.never rfl (pi_listK (K := K) rfl (c_fn G_pieces (hr.mono (by decide)) (pa_cons (pv 0) pa_nil))) (pg_name (i := 2) sc_told_end.nd rfl (Or.inl rfl))
      (pss_cons (ps_set (i := 3) sc_told_end.nd rfl (Or.inl rfl) (c_fn G_mark_row (hr.mono (by decide)) (pa_cons (pv 0) (pa_cons (pe_ix (ix_listK (K := K) rfl) (pv 2) pe_int (by intro _ _; rfl)) pa_nil))))
      (pss_one (ps_for PassesOwn.never rfl (pi_zipK (K := K) rfl (by rfl) m_zip (pa_cons (pv 3) (pa_cons (pe_op op_cat (pe_slice (sl_listK (K := K) rfl) (pv 3) (po_some pe_int) po_none) (pe_slice (sl_listK (K := K) rfl) (pv 3) po_none (po_some pe_int))) pa_nil))) (pg_tupK (K := K) rfl (pgs_cons (pg_name (i := 4) sc_told_end.nd rfl (Or.inl rfl)) (pgs_cons (pg_name (i := 5) sc_told_end.nd rfl (Or.inl rfl)) pgs_nil)))
      (pss_one (ps_dput (hu_of hr) (pv 1) (pv 4) (pv 5) rfl))))))
      (pss_one (ps_ret (pe_dc (own := [("house", 4)]) (g := gName 4) rfl sc_told_end.nd (pi_listK (K := K) rfl (pe_callB (cb_sortD rfl) (by rfl) m_sorted b_sorted (pa_cons (pv 1) pa_nil))) (blkOk_by (N := ["net", "ends", "piece", "row", "house", "end"]) (sc := defScope s_told_end) (by decide +kernel)) (fun _ _ _ _ _ => (pg_name (i := 4) sc_told_end.nd rfl (Or.inl rfl))) (fun _ _ _ _ _ => pts_nil) (fun _ _ _ _ _ => (pv 4)) (fun _ _ _ _ _ => (pe_dget (hu_of hr) (pv 1) (pv 4) (by intro _ _; rfl))))))))), ?_⟩
    (try simp only [cxK, cxKX, List.map])
    refine ent (σ' := [some _, none, none, none, none, none]) rfl ?_
    obtain ⟨dx, hp⟩ := hN.ob
    have hlen := ok.hl
    k_offL
    refine ⟨p, da, db, dl, N, rfl, hN, ok, say, fun H1 f1 => ?_⟩
    k_offL
    refine newk fun en H2 n2 e2 f2 => ?_
    k_offL
    refine ⟨p, da, db, dl, N, nm, W, φ, rfl, (hN.ex f1).ex f2, ok, P, fun l as rs H3 n3 e3 hrs pc f3 => ?_⟩
    have e23 := f3.at_ _ _ e2 List.not_mem_nil
    have enl : en ≠ l := ne_of_none e2 n3
    refine loopLF (M := [en]) (as.map V.ref) (sqL_of e3) (mem_one enl.symm) (fun i σ' H' => ∃ (v2 v3 v4 v5 : Option V) (kvs : List (Key × V)) (D : List Int) (e : Int → Int), σ' = [some (.ref p), some (.ref en), v2, v3, v4, v5] ∧ H' en = some (.dK kvs) ∧ EnOf N.hs nm W φ kvs D e ∧ (∀ (j : Nat) r, j < i → rs[j]? = some r → ∀ h ∈ N.hs, nm h = nm r → h ∈ D) ∧ Fr [en] H3 H')
      ⟨_, _, _, _, [], [], fun _ => 0, rfl, e23, ⟨DOk.nil.cong fun n => rfl, fun _ h => nomatch h⟩, (fun j r z => absurd z (by omega)), Fr.refl _ _⟩ (fun i σ' H' ⟨_, _, _, _, _, _, _, _, _, _, _, f⟩ => f) ?_ ?_
    · rintro i x σ' H4 hi ⟨v2, v3, v4, v5, kvs, D, e, rfl, e4, E, hD, f4⟩
      have hial : i < as.length := by have := (List.getElem?_eq_some_iff.mp hi).1; rw [List.length_map] at this; exact this
      obtain ⟨r, hr⟩ : ∃ r, rs[i]? = some r := ⟨_, List.getElem?_eq_getElem (by rw [← pc.1]; exact hial)⟩
      obtain ⟨rm, a, ha, ea⟩ := pc.2.1 i r hr
      rw [List.getElem?_map, ha] at hi
      obtain rfl : V.ref a = x := Option.some.inj hi
      have ae : a ≠ en := fun z => by rw [z, e23] at ea; cases ea
      have e4a := f4.at_ _ _ ea (mem_one ae)
      obtain ⟨h1, hh1⟩ : ∃ y, (pcOf N.hs nm r)[0]? = some y := ⟨_, List.getElem?_eq_getElem (List.length_pos_of_mem (pc_self rm))⟩
      have hm1 := mem_pc.mp (List.mem_of_getElem? hh1)
      have hN4 : NetAt CNet H4 p da db dl N := by
        have hN2 := (hN.ex f1)
        obtain ⟨_, g1⟩ := hN2.ob
        obtain ⟨_, g2, _⟩ := hN2.nx
        obtain ⟨_, g3, _⟩ := hN2.bf
        obtain ⟨_, g4, _⟩ := hN2.ls
        have nn : ∀ {x : Addr} {o : HO}, H1 x = some o → x ∉ [en] := fun h => mem_one fun z => by rw [z, n2] at h; cases h
        exact (hN2.ex (f2.trans f3)).fr f4 (nn g1) (nn g2) (nn g3) (nn g4)
      k_offL
      refine r_ixL (sqL_of e4a) (v := .int h1) (ix_at 0 rfl (by rw [List.getElem?_map, hh1]; rfl)) ?_
      k_offL
      refine ⟨p, da, db, dl, N, h1, nm, W, φ, rfl, hN4, ok, hm1.1, P, fun l5 row r5 H5 n5 e5 hr5 nd5 mem5 up5 f5 => ?_⟩
      have cy := P.cyc hm1.1 mem5 up5
      have e45 := f5.at_ _ _ e4 List.not_mem_nil
      have rowl : row.length ≤ N.hs.length := nodup_sub_len nd5 fun x hx => ((mem5 x).mp hx).1
      k_offL
      refine r_slL (sqL_of e5) fun l6 H6 n6 e6 f6 => ?_
      rw [show cutV (row.map V.int) (some 1) none = (row.map V.int).drop 1 from cut_from _ 1, ← List.map_drop] at e6
      k_offL
      refine r_slL (f6.sqL (sqL_of e5) List.not_mem_nil) fun l7 H7 n7 e7 f7 => ?_
      rw [show cutV (row.map V.int) none (some 1) = (row.map V.int).take 1 from cut_to _ 1, ← List.map_take] at e7
      k_offL
      refine r_cat (f7.at_ _ _ e6 List.not_mem_nil) e7 (by rw [List.length_map, List.length_map, List.length_drop, List.length_take]; omega) fun l8 H8 n8 e8 f8 => ?_
      rw [← List.map_append] at e8
      have f58 : Fr [] H5 H8 := (f6.trans f7).trans f8
      have e58 := f58.at_ _ _ e5 List.not_mem_nil
      have e48 := f58.at_ _ _ e45 List.not_mem_nil
      have en5 : en ≠ l5 := ne_of_none e4 n5
      have en8 : en ≠ l8 := ne_of_none ((f6.trans f7).at_ _ _ e45 List.not_mem_nil) n8
      k_offL
      refine loopZ (M := [en]) (row.map V.int) ((row.drop 1 ++ row.take 1).map V.int) (by simp; omega) (sqL_of e58) (sqL_of e8) (mem_one en5.symm) (mem_one en8.symm) (fun q σ' H' => ∃ (v4 v5 : Option V) (kvs : List (Key × V)) (e : Int → Int), σ' = [some (.ref p), some (.ref en), some (.ref a), some (.ref l5), v4, v5] ∧ H' en = some (.dK kvs) ∧ EnOf N.hs nm W φ kvs (D ++ row.take q) e ∧ Fr [en] H8 H')
        ⟨_, _, kvs, e, rfl, e48, by rw [List.take_zero, List.append_nil]; exact E, Fr.refl _ _⟩ (fun q σ' H' ⟨_, _, _, _, _, _, _, f⟩ => f) ?_ ?_
      · rintro q x y T σ' H9 H10 hx hy ⟨v4, v5, kvs9, e9, rfl, e9', E9, f9⟩ nT eT fT
        obtain ⟨hx1, hx2, hxm, rfl⟩ := mem_ints hx
        obtain ⟨hy1, hy2, hym, rfl⟩ := mem_ints hy
        have ql : q < row.length := (List.getElem?_eq_some_iff.mp hx2).1
        rw [rot1_at ql] at hy2
        have ie := cy q hx1 hy1 hx2 hy2
        have xin := ((mem5 hx1).mp hxm).1
        refine g_tup (sqT_of eT) rfl ?_
        k_offL
        refine dputk (fT.at_ _ _ e9' List.not_mem_nil) (by have := E9.le; omega) fun H11 e11 f11 => ?_
        have E11 := E9.put (h := hx1) (r := hy1) xin ie
        rw [List.append_assoc, ← take_snoc hx2] at E11
        exact ⟨_, _, _, _, rfl, e11, E11, f9.trans (fT.up.trans f11)⟩
      · rintro σ' H9 ⟨v4, v5, kvs9, e9, rfl, e9', E9, f9⟩
        rw [List.length_map, List.take_length] at E9
        refine ⟨_, _, _, _, kvs9, _, e9, rfl, e9', E9, fun j r' hj hr' h hh hn => ?_, f4.trans ((f5.trans f58).up.trans f9)⟩
        rcases Nat.lt_or_eq_of_le (Nat.le_of_lt_succ hj) with z | z
        · exact List.mem_append_left _ (hD j r' z hr' h hh hn)
        · subst z
          rw [hr] at hr'
          cases hr'
          exact List.mem_append_right _ ((mem5 h).mpr ⟨hh, by rw [hn, hm1.2]⟩)
    · rintro σ' H4 ⟨v2, v3, v4, v5, kvs, D, e, rfl, e4, E, hD, f4⟩
      rw [List.length_map, pc.1] at hD
      have all : ∀ h ∈ N.hs, h ∈ D := fun h hh => by
        obtain ⟨r, hr, e⟩ := pc.2.2 h hh
        obtain ⟨j, hj⟩ := List.mem_iff_getElem?.mp hr
        exact hD j r (List.getElem?_eq_some_iff.mp hj).1 hj h hh e.symm
      have dk : DOk kvs (mfOf N.hs e) := E.1.cong fun n => by
        unfold mfOf
        by_cases m : n ∈ N.hs
        · rw [if_pos m, if_pos (all n m)]
        · rw [if_neg m, if_neg fun z => m (E.2 n z).1]
      k_offL
      refine r_sortD (.inl e4) dk ⟨ok.up, fun n => mfOf_some⟩ (by omega) fun l5 H5 n5 e5 f5 => ?_
      refine walkL (sqL_of e5) ?_
      refine dcV (walk_list (xs := N.hs.map V.int)) N.hs ok.nd (by rw [List.length_map]) (fun i H0 x H' _ y => yAtI y) (fun _ => true) (fun h => .int (e h)) (fun H' f => f.sqL (sqL_of e5) List.not_mem_nil) (by omega) (fun h H' hm f => ?_) fun l6 H6 n6 e6 f6 => ?_
      · refine sk4 ⟨fun R kR => ?_, fun _ H7 f7 R kR => ?_⟩
        · k_offL
          exact kR _ (Fr.refl _ _)
        · k_offL
          refine dgetk (.inl ((f5.trans (f.trans f7)).at_ _ _ e4 List.not_mem_nil)) (by rw [dk.val, mfOf_at hm]) ?_
          exact kR _ (Fr.refl _ _)
      rw [List.filter_eq_self.mpr fun _ _ => rfl] at e6
      have fr4 : Fr [] H H4 := f1.trans (((Fr.refl [] H1)).drop (f2.up.trans (f3.up.trans f4)) n2)
      exact k l6 e H6 ((fr4.trans f5).free n6) e6 (fun h hh => (E.2 h (all h hh)).2) ((fr4.trans f5).trans f6)
end
end RL
set_option synthInstance.maxHeartbeats 4000000
set_option synthInstance.maxSize 4000
namespace RL
section
variable {K : PySem.W.Frag} {σ : L2.St} {H : Hp} {a : Addr}
theorem g_consG {t : TG} {u : TGs} {v : V} {r : List V} {Q : L2.St → Hp → Prop} (h : t v σ H fun σ' H' => u r σ' H' Q) : gCons t u (v :: r) σ H Q := ⟨v, r, rfl, h⟩
theorem loopLFg {tu : TS} {nx bk ct : L2.St → Hp → Prop} {rt : VK} {g : TG} {M : List Addr} (xs : List V) (hx : SqL K H a xs) (ha : a ∉ M) (Pv : Nat → L2.St → Hp → Prop) (h0 : Pv 0 σ H) (hf : ∀ i σ' H', Pv i σ' H' → Fr M H H')
    (hs : ∀ i x σ' H', xs[i]? = some x → Pv i σ' H' → g x σ' H' (tu ⟨Pv (i + 1), rt, nx, Pv (i + 1)⟩)) (hd : ∀ σ' H', Pv xs.length σ' H' → nx σ' H') :
    ItLK K (.ref a) (fun J H1 => LoopK J g tu ⟨nx, rt, bk, ct⟩ σ H1) H :=
  ⟨a, rfl, ⟨xs, hx⟩, loopLg xs Pv h0 (fun i σ' H' _ p => (hf i σ' H' p).sqL hx ha) hs hd⟩
theorem loopTF {tu : TS} {nx bk ct : L2.St → Hp → Prop} {rt : VK} {j : Nat} (xs : List V) (hx : SqT K H a xs) (Pv : Nat → L2.St → Hp → Prop) (h0 : Pv 0 σ H) (hf : ∀ i σ' H', Pv i σ' H' → Fr [] H H')
    (hs : ∀ i x σ' H', xs[i]? = some x → Pv i σ' H' → SetK σ' j x (tu ⟨Pv (i + 1), rt, nx, Pv (i + 1)⟩) H') (hd : ∀ σ' H', Pv xs.length σ' H' → nx σ' H') :
    ItTK K (.ref a) (fun J H1 => LoopK J (gName j) tu ⟨nx, rt, bk, ct⟩ σ H1) H :=
  ⟨a, rfl, ⟨xs, hx⟩, loopT xs Pv h0 (fun i σ' H' _ p => (hf i σ' H' p).sqT hx) hs hd⟩
def EnuK (K : PySem.W.Frag) (vs : List V) (R : It → Hp → Prop) (H1 : Hp) : Prop := ∃ a xs, vs = [.ref a] ∧ SqL K H1 a xs ∧ R (Ite K a) H1
theorem x_iEnum {ta : TA} {R : It → Hp → Prop} (h : ta σ H fun vs H1 => EnuK K vs R H1) : iEnum K ta σ H R := h
instance o_x_iEnum {ta : TA} {R : It → Hp → Prop} : One (iEnum K ta σ H R) (ta σ H fun vs H1 => EnuK K vs R H1) := ⟨x_iEnum⟩
theorem loopE {tu : TS} {nx bk ct : L2.St → Hp → Prop} {rt : VK} {g : TG} {M : List Addr} (xs : List V) (hx : SqL K H a xs) (ha : a ∉ M) (Pv : Nat → L2.St → Hp → Prop) (h0 : Pv 0 σ H) (hf : ∀ i σ' H', Pv i σ' H' → Fr M H H')
    (hs : ∀ (i : Nat) y T σ' H1 H', xs[i]? = some y → Pv i σ' H1 → H1 T = none → H' T = some (.tup [.int (i : Int), y]) → Fr [] H1 H' → g (.ref T) σ' H' (tu ⟨Pv (i + 1), rt, nx, Pv (i + 1)⟩)) (hd : ∀ σ' H', Pv xs.length σ' H' → nx σ' H') :
    EnuK K [.ref a] (fun J H1 => LoopK J g tu ⟨nx, rt, bk, ct⟩ σ H1) H := by
  refine ⟨a, xs, rfl, hx, ?_⟩
  refine for_it (D := ⟨nx, rt, bk, ct⟩) (walk_enum (xs := xs)) Pv h0 (fun i σ' H' _ p => (hf i σ' H' p).sqL hx ha) (fun i x σ' H1 H' hi p y => ?_) hd
  obtain ⟨T, x', y', rfl, n, rfl, e1, e2⟩ := y
  cases e1
  exact hs i y' T σ' H1 _ e2 p n upd_same (Fr.new n)
end
def Faith (N : NS) (q : Int × Int) : Prop := btw N.size q.1 q.2 (N.f q.1) = true ∧ Tr N.size N.f q.2 (N.f q.1) (far N.size q.2 (N.f q.1))
def NS.chg (N : NS) (ps : List (Int × Int)) : NS := ps.foldl (fun N q => N.setF q.1 q.2) N
def oldsOf : NS → List (Int × Int) → List Int
  | _, [] => []
  | N, q :: ps => N.f q.1 :: oldsOf (N.setF q.1 q.2) ps
section
variable {N : NS} {ps : List (Int × Int)} {q : Int × Int}
theorem chg_snoc : N.chg (ps ++ [q]) = (N.chg ps).setF q.1 q.2 := by unfold NS.chg; rw [List.foldl_append]; rfl
theorem olds_snoc : oldsOf N (ps ++ [q]) = oldsOf N ps ++ [(N.chg ps).f q.1] := by
  induction ps generalizing N with
  | nil => rfl
  | cons p ps ih => show N.f p.1 :: oldsOf (N.setF p.1 p.2) (ps ++ [q]) = _; rw [ih]; rfl
theorem olds_len : (oldsOf N ps).length = ps.length := by
  induction ps generalizing N with
  | nil => rfl
  | cons p ps ih => show (oldsOf (N.setF p.1 p.2) ps).length + 1 = _; rw [ih]; rfl
theorem chg_hs : (N.chg ps).hs = N.hs ∧ (N.chg ps).size = N.size ∧ (N.chg ps).b = N.b ∧ (N.chg ps).post = N.post := by
  induction ps generalizing N with
  | nil => exact ⟨rfl, rfl, rfl, rfl⟩
  | cons p ps ih => exact ih (N := N.setF p.1 p.2)
theorem chg_ok (ok : N.Ok) (h : ∀ q ∈ ps, q.1 ∈ N.hs ∧ q.2 ∈ N.hs) : (N.chg ps).Ok := by
  induction ps generalizing N with
  | nil => exact ok
  | cons p ps ih =>
    obtain ⟨a, b⟩ := h p List.mem_cons_self
    exact ih (N := N.setF p.1 p.2) (ok.setF a b) fun q hq => h q (List.mem_cons_of_mem _ hq)
end
theorem once_iff {hs ys : List Int} {f : Int → Int} (up : hs.Pairwise (· < ·)) (cl : ∀ h ∈ hs, f h ∈ hs) (pm : ys.Perm (hs.map f)) (so : ys.Pairwise (· ≤ ·)) : decide (ys = hs) = true ↔ ∀ x ∈ hs, ∀ y ∈ hs, f x = f y → x = y := by
  have nd : hs.Nodup := up.imp fun h => Int.ne_of_lt h
  rw [decide_eq_true_iff]
  constructor
  · rintro rfl
    have nm : (ys.map f).Nodup := pm.nodup_iff.mp nd
    have pw := List.pairwise_map.mp nm
    intro x hx y hy e
    obtain ⟨i, hi, rfl⟩ := List.mem_iff_getElem.mp hx
    obtain ⟨j, hj, rfl⟩ := List.mem_iff_getElem.mp hy
    rcases Nat.lt_trichotomy i j with z | z | z
    · exact absurd e (List.pairwise_iff_getElem.mp pw i j hi hj z)
    · subst z; rfl
    · exact absurd e.symm (List.pairwise_iff_getElem.mp pw j i hj hi z)
  · intro inj
    have nm : (hs.map f).Nodup := List.pairwise_map.mpr (List.Pairwise.imp_of_mem (fun {a b} ha hb h z => h (inj a ha b hb z)) nd)
    have ny : ys.Nodup := pm.nodup_iff.mpr nm
    refine up_unique (up_of_sorted so ny) up fun x => ?_
    have sub : ∀ x ∈ ys, x ∈ hs := fun x hx => by
      obtain ⟨h, hh, rfl⟩ := List.mem_map.mp (pm.mem_iff.mp hx)
      exact cl h hh
    refine ⟨sub x, fun hx => Classical.byContradiction fun m => ?_⟩
    have := nodup_sub_len (List.nodup_cons.mpr ⟨m, ny⟩) fun y hy => (List.mem_cons.mp hy).elim (fun z => z ▸ hx) (sub y)
    have l := pm.length_eq
    rw [List.length_map] at l
    rw [List.length_cons] at this
    omega
def spRefuseStr (C : Addr) : Sp := fun vs H Q _ => ∃ (p da db dl l : Addr) (N : NS) (ps : List (Int × Int)) (lv : List V), vs = [.ref p, .ref l] ∧ NetAt C H p da db dl N ∧ N.Ok ∧ H l = some (.lst lv) ∧ PrIs H ps lv ∧ (∀ q ∈ ps, q.1 ∈ N.hs ∧ q.2 ∈ N.hs) ∧ ∀ H', Fr [] H H' → Q .non H'
section
variable {P : Program} {w : World} {K : PySem.W.Frag} {mg : Str → Option Value} {base : Heap} {CNet CMender CDesk CStore CWalk : Addr}
abbrev s_refuse_strangers : Stmt := top 27
theorem sc_refuse_strangers : FnScope ["net", "changes", "nexts", "pair", "place"] ["net", "changes"] (defScope s_refuse_strangers) := ⟨rfl, rfl, rfl, by decide +kernel, rfl, by decide +kernel, by decide +kernel⟩
theorem ok_refuse_strangers {f : Addr} {fd : FuncData} (F : Fun K "refuse_strangers" "refuse_strangers" s_refuse_strangers f fd) (G_Net_nexts : GM P w K mg base CNet "nexts" 1 ["self"] (spNexts CNet)) (T : NetT K CNet) : FnOk P w K mg base CX0 2 f fd ["net", "changes"] (spRefuseStr CNet) := by
  refine F.ok sc_refuse_strangers (fun vs H Q E h => ?_) (fun cdv A outer s H vs Q E hr h => ?_)
  · obtain ⟨_, _, _, _, _, _, _, _, rfl, _⟩ := h; rfl
  · obtain ⟨p, da, db, dl, l, N, ps, lv, rfl, hN, ok, hl, pr, hm, k⟩ := h
    refine ⟨_, (pss_cons (ps_set (i := 2) sc_refuse_strangers.nd rfl (Or.inl rfl) (c_mt0 G_Net_nexts (hr.mono (by decide)) (pv 0)))
      (pss_one (ps_for PassesOwn.never rfl (pi_listK (K := K) rfl (pv 1)) (pg_name (i := 3) sc_refuse_strangers.nd rfl (Or.inl rfl))
      (pss_one (ps_for PassesOwn.never rfl (pi_tupK (K := K) rfl (pv 3)) (pg_name (i := 4) sc_refuse_strangers.nd rfl (Or.inl rfl))
      (pss_one (ps_if (pt_cmp (pc_dnotin (hu_of hr) (pv 4) (pv 2))) (pss_one ps_never) pss_nil))))))), ?_⟩
    (try simp only [cxK, cxKX, List.map])
    refine ent (σ' := [some _, some _, none, none, none]) rfl ?_
    obtain ⟨dx, hp⟩ := hN.ob
    k_offL
    refine ⟨p, da, db, dl, N, rfl, hN, ok, fun l1 H1 n1 e1 f1 => ?_⟩
    have el := f1.at_ _ _ hl List.not_mem_nil
    k_offL
    refine loopLF (M := []) lv (sqL_of el) List.not_mem_nil (fun i σ' H' => (∃ v3 v4, σ' = [some (.ref p), some (.ref l), some (.ref l1), v3, v4]) ∧ Fr [] H1 H') ⟨⟨_, _, rfl⟩, Fr.refl _ _⟩ (fun i σ' H' z => z.2) ?_ ?_
    · rintro i x σ' H2 hi ⟨⟨v3, v4, rfl⟩, f2⟩
      obtain ⟨q, hq, t, rfl, ht⟩ := pr.mem (List.mem_of_getElem? hi)
      have ht2 := (f1.trans f2).tp _ _ ht
      have qm := hm q hq
      k_offL
      refine loopTF [.int q.1, .int q.2] (sqT_of ht2) (fun i σ' H' => (∃ v4, σ' = [some (.ref p), some (.ref l), some (.ref l1), some (.ref t), v4]) ∧ Fr [] H2 H') ⟨⟨_, rfl⟩, Fr.refl _ _⟩ (fun i σ' H' z => z.2) ?_ ?_
      · rintro j x σ' H3 hj ⟨⟨v4, rfl⟩, f3⟩
        obtain ⟨n, hn, hnm⟩ : ∃ n, x = .int n ∧ n ∈ N.hs := by
          match j, hj with
          | 0, hj => cases hj; exact ⟨_, rfl, qm.1⟩
          | 1, hj => cases hj; exact ⟨_, rfl, qm.2⟩
        subst hn
        k_offL
        refine dink (.inl ((f2.trans f3).at_ _ _ e1 List.not_mem_nil)) ?_
        refine blk (ifE (show _ = false by rw [ok.dkn.val, NS.mf_at hnm]; rfl) ?_)
        k_offL
        exact ⟨⟨_, rfl⟩, f3⟩
      · rintro σ' H3 ⟨⟨v4, rfl⟩, f3⟩
        exact ⟨⟨_, _, rfl⟩, f2.trans f3⟩
    · rintro σ' H2 ⟨⟨v3, v4, rfl⟩, f2⟩
      k_offL
      exact k H2 (f1.trans f2)
end
def spIsFaithful (C : Addr) : Sp := fun vs H Q _ => ∃ (p da db dl : Addr) (N : NS) (u x : Int), vs = [.ref p, .int u, .int x] ∧ NetAt C H p da db dl N ∧ N.Ok ∧ u ∈ N.hs ∧ x ∈ N.hs ∧ ∀ b H', (b = true ↔ Faith N (u, x)) → Fr [] H H' → Q (.bl b) H'
section
variable {P : Program} {w : World} {K : PySem.W.Frag} {mg : Str → Option Value} {base : Heap} {CNet CMender CDesk CStore CWalk : Addr}
abbrev s_is_faithful : Stmt := top 28
theorem sc_is_faithful : FnScope ["net", "house", "target", "old"] ["net", "house", "target"] (defScope s_is_faithful) := ⟨rfl, rfl, rfl, by decide +kernel, rfl, by decide +kernel, by decide +kernel⟩
theorem ok_is_faithful {f : Addr} {fd : FuncData} (F : Fun K "is_faithful" "is_faithful" s_is_faithful f fd) (G_refuse_strangers : GF P w K mg base "refuse_strangers" 2 ["net", "changes"] (spRefuseStr CNet)) (G_Net_next_of : GM P w K mg base CNet "next_of" 2 ["self", "house"] (spNextOf CNet)) (G_between : GF P w K mg base "between" 2 ["size", "start", "place", "end"] spBetween) (G_holds_true : GF P w K mg base "holds_true" 3 ["net", "saying"] (spHoldsTrue CNet)) (G_far : GF P w K mg base "far" 1 ["size", "start", "end"] spFar) (T : NetT K CNet) : FnOk P w K mg base CX0 4 f fd ["net", "house", "target"] (spIsFaithful CNet) := by
  refine F.ok sc_is_faithful (fun vs H Q E h => ?_) (fun cdv A outer s H vs Q E hr h => ?_)
  · obtain ⟨_, _, _, _, _, _, _, rfl, _⟩ := h; rfl
  · obtain ⟨p, da, db, dl, N, u, x, rfl, hN, ok, hu, hx, k⟩ := h
    refine ⟨_, (pss_cons (ps_expr (c_fn G_refuse_strangers (hr.mono (by decide)) (pa_cons (pv 0) (pa_cons (pe_lst (pa_cons (pe_tup (pa_cons (pv 1) (pa_cons (pv 2) pa_nil))) pa_nil)) pa_nil))))
      (pss_cons (ps_set (i := 3) sc_is_faithful.nd rfl (Or.inl rfl) (c_mt G_Net_next_of (hr.mono (by decide)) (pv 0) (pa_cons (pv 1) pa_nil)))
      (pss_cons (ps_if (pt_not (pt_val (c_fn G_between (hr.mono (by decide)) (pa_cons (pe_fldK (K := K) rfl (pv 0) (by rfl)) (pa_cons (pv 1) (pa_cons (pv 2) (pa_cons (pv 3) pa_nil))))))) (pss_one (ps_ret pe_bl)) pss_nil)
      (pss_one (ps_ret (c_fn G_holds_true (hr.mono (by decide)) (pa_cons (pv 0) (pa_cons (pe_tup (pa_cons (pv 2) (pa_cons (pv 3) (pa_cons (c_fn G_far (hr.mono (by decide)) (pa_cons (pe_fldK (K := K) rfl (pv 0) (by rfl)) (pa_cons (pv 2) (pa_cons (pv 3) pa_nil)))) pa_nil)))) pa_nil)))))))), ?_⟩
    (try simp only [cxK, cxKX, List.map])
    refine ent (σ' := [some _, some _, some _, none]) rfl ?_
    obtain ⟨dx, hp⟩ := hN.ob
    have h0 := ok.s0
    k_offL
    refine tupk (by show 2 ≤ 100000; decide) fun t H1 n1 e1 f1 => ?_
    k_offL
    refine lstk (by show 1 ≤ 100000; decide) fun l H2 n2 e2 f2 => ?_
    k_offL
    refine ⟨p, da, db, dl, l, N, [(u, x)], _, rfl, (hN.ex f1).ex f2, ok, e2, ⟨rfl, fun i q hq => ?_⟩, fun q hq => ?_, fun H3 f3 => ?_⟩
    · cases i with
      | zero => cases hq; exact ⟨t, rfl, f2.tp _ _ e1⟩
      | succ i => simp at hq
    · rw [List.mem_singleton.mp hq]; exact ⟨hu, hx⟩
    have f13 := (f1.trans f2).trans f3
    have hp3 := f13.at_ _ _ hp List.not_mem_nil
    k_offL
    refine ⟨p, da, db, dl, N, u, rfl, hN.ex f13, hu, fun H4 f4 => ?_⟩
    have f14 := f13.trans f4
    have hp4 := f14.at_ _ _ hp List.not_mem_nil
    k_offL
    refine i_between h0 ?_
    k_offL
    cases hb : btw N.size u x (N.f u) with
    | false =>
      k_offL
      exact k _ H4 ⟨fun z => (nomatch z), fun z => absurd (hb.symm.trans z.1) (by decide)⟩ f14
    | true =>
      k_offL
      refine i_far h0 ?_
      k_offL
      refine tupk (by show 3 ≤ 100000; decide) fun s H5 n5 e5 f5 => ?_
      k_offL
      refine ⟨p, da, db, dl, s, N, (x, N.f u, far N.size x (N.f u)), (), rfl, hN.ex (f14.trans f5), ok, e5, hx, (far_pos h0).1, fun b H6 hb' f6 => ?_⟩
      exact k b H6 (hb'.trans ⟨fun z => ⟨hb, z⟩, fun z => z.2⟩) ((f14.trans f5).trans f6)
end
def spApply (C : Addr) : Sp := fun vs H Q _ => ∃ (p da db dl l : Addr) (N : NS) (ps : List (Int × Int)) (lv : List V), vs = [.ref p, .ref l] ∧ NetAt C H p da db dl N ∧ N.Ok ∧ H l = some (.lst lv) ∧ PrIs H ps lv ∧ (∀ q ∈ ps, q.1 ∈ N.hs ∧ q.2 ∈ N.hs) ∧ ps.length ≤ 50000 ∧
  ∀ (o : Addr) H', H o = none → H' o = some (.lst ((oldsOf N ps).map V.int)) → NetAt C H' p da db dl (N.chg ps) → Fr [da] H H' → Q (.ref o) H'
section
variable {P : Program} {w : World} {K : PySem.W.Frag} {mg : Str → Option Value} {base : Heap} {CNet CMender CDesk CStore CWalk : Addr}
abbrev s_apply_changes : Stmt := top 29
theorem sc_apply_changes : FnScope ["net", "changes", "olds", "house", "target"] ["net", "changes"] (defScope s_apply_changes) := ⟨rfl, rfl, rfl, by decide +kernel, rfl, by decide +kernel, by decide +kernel⟩
theorem ok_apply_changes {f : Addr} {fd : FuncData} (F : Fun K "apply_changes" "apply_changes" s_apply_changes f fd) (G_refuse_strangers : GF P w K mg base "refuse_strangers" 2 ["net", "changes"] (spRefuseStr CNet)) (G_Net_hold : GM P w K mg base CNet "hold" 2 ["self", "house", "target"] (spHold CNet)) (T : NetT K CNet) : FnOk P w K mg base CX0 3 f fd ["net", "changes"] (spApply CNet) := by
  refine F.ok sc_apply_changes (fun vs H Q E h => ?_) (fun cdv A outer s H vs Q E hr h => ?_)
  · obtain ⟨_, _, _, _, _, _, _, _, rfl, _⟩ := h; rfl
  · obtain ⟨p, da, db, dl, l, N, ps, lv, rfl, hN, ok, hl, pr, hm, hpl, k⟩ := h
    refine ⟨_, (pss_cons (ps_expr (c_fn G_refuse_strangers (hr.mono (by decide)) (pa_cons (pv 0) (pa_cons (pv 1) pa_nil))))
      (pss_cons (ps_set (i := 2) sc_apply_changes.nd rfl (Or.inl rfl) (pe_lst pa_nil))
      (pss_cons (ps_for PassesOwn.never rfl (pi_listK (K := K) rfl (pv 1)) (pg_tupK (K := K) rfl (pgs_cons (pg_name (i := 3) sc_apply_changes.nd rfl (Or.inl rfl)) (pgs_cons (pg_name (i := 4) sc_apply_changes.nd rfl (Or.inl rfl)) pgs_nil)))
      (pss_one (ps_expr (pe_bmK (K := K) rfl PySem.F.plainAttrs_list PySem.F.slot_list_append PySem.F.type_list_append mt_append (pv 2) (pa_cons (c_mt G_Net_hold (hr.mono (by decide)) (pv 0) (pa_cons (pv 3) (pa_cons (pv 4) pa_nil))) pa_nil)))))
      (pss_one (ps_ret (pv 2)))))), ?_⟩
    (try simp only [cxK, cxKX, List.map])
    refine ent (σ' := [some _, some _, none, none, none]) rfl ?_
    obtain ⟨dx, hp⟩ := hN.ob
    obtain ⟨kn, hda, _⟩ := hN.nx
    have lda : l ≠ da := fun z => by rw [z, hda] at hl; cases hl
    k_offL
    refine ⟨p, da, db, dl, l, N, ps, lv, rfl, hN, ok, hl, pr, hm, fun H1 f1 => ?_⟩
    k_offL
    refine lstk (by show 0 ≤ 100000; decide) fun o H2 n2 e2 f2 => ?_
    have f12 := f1.trans f2
    have e2l := f12.at_ _ _ hl List.not_mem_nil
    have hN2 := hN.ex f12
    have oda : o ≠ da := fun z => by have := f1.at_ _ _ hda List.not_mem_nil; rw [← z, n2] at this; cases this
    have ol : o ≠ l := fun z => by have := f1.at_ _ _ hl List.not_mem_nil; rw [← z, n2] at this; cases this
    have hp2 := f12.at_ _ _ hp List.not_mem_nil
    k_offL
    refine loopLFg (M := [da, o]) lv (sqL_of e2l) (by simp [lda, ol.symm]) (fun i σ' H' => (∃ v3 v4, σ' = [some (.ref p), some (.ref l), some (.ref o), v3, v4]) ∧ NetAt CNet H' p da db dl (N.chg (ps.take i)) ∧ H' o = some (.lst ((oldsOf N (ps.take i)).map V.int)) ∧ Fr [da, o] H2 H') ⟨⟨_, _, rfl⟩, by rw [List.take_zero]; exact hN2, by rw [List.take_zero]; exact e2, Fr.refl _ _⟩ (fun i σ' H' z => z.2.2.2) ?_ ?_
    · rintro i x σ' H3 hi ⟨⟨v3, v4, rfl⟩, hN3, e3, f3⟩
      have il : i < ps.length := by have := (List.getElem?_eq_some_iff.mp hi).1; rw [pr.len] at this; exact this
      obtain ⟨t, et, ht⟩ := pr.at_ i _ (List.getElem?_eq_getElem il)
      rw [hi] at et
      obtain rfl := Option.some.inj et
      have hsn := take_snoc (List.getElem?_eq_getElem il)
      have qm := hm _ (List.getElem_mem il)
      revert ht hsn qm
      generalize ps[i] = q
      intro ht hsn qm
      have ok3 : (N.chg (ps.take i)).Ok := chg_ok ok fun q hq => hm q (List.mem_of_mem_take hq)
      have hs3 := (chg_hs (N := N) (ps := ps.take i)).1
      refine g_tup (sqT_of ((f12.up.trans f3).tp _ _ ht)) rfl ?_
      obtain ⟨dx3, hp3⟩ := hN3.ob
      k_offL
      refine ⟨p, da, db, dl, N.chg (ps.take i), q.1, q.2, rfl, hN3, by rw [hs3]; exact qm.1, by rw [hs3]; exact qm.2, ok3, fun H4 hN4 f4 => ?_⟩
      k_offL
      refine r_app (f4.at_ _ _ e3 (mem_one oda)) (by rw [List.length_map, olds_len, List.length_take]; omega) fun H5 e5 f5 => ?_
      k_offL
      refine ⟨⟨_, _, rfl⟩, ?_, ?_, f3.trans ((f4.mono fun a h => by simp at h; simp [h]).trans (f5.mono fun a h => by simp at h; simp [h]))⟩
      · rw [hsn, chg_snoc]
        obtain ⟨_, g1⟩ := hN4.ob
        obtain ⟨_, g2, _⟩ := hN4.nx
        obtain ⟨_, g3, _⟩ := hN4.bf
        obtain ⟨_, g4, gl⟩ := hN4.ls
        have e4 := f4.at_ _ _ e3 (mem_one oda)
        obtain ⟨dp, g1'⟩ := hN2.ob
        obtain ⟨_, g3', _⟩ := hN.bf
        obtain ⟨_, g4', _⟩ := hN.ls
        have nn : ∀ {x : Addr} {u : HO}, H x = some u → x ∉ [o] := fun h => mem_one fun z => by have := f1.at_ _ _ h List.not_mem_nil; rw [z, n2] at this; cases this
        exact hN4.fr f5 (nn hp) (nn hda) (nn g3') (nn g4')
      · rw [e5, hsn, olds_snoc, List.map_append]; rfl
    · rintro σ' H3 ⟨⟨v3, v4, rfl⟩, hN3, e3, f3⟩
      rw [pr.len, List.take_length] at hN3 e3
      k_offL
      exact k o H3 (f1.free n2) e3 hN3 (f12.up.drop (f3.mono fun a h => by simp at h; simp [h, or_comm]) (f1.free n2))
end
def FstUn (N : NS) (ps : List (Int × Int)) (v : V) : Prop := (v = .non ∧ ∀ (j : Nat) q, ps[j]? = some q → Faith (N.chg (ps.take j)) q) ∨ ∃ (i : Nat) (q : Int × Int), v = .int (i : Int) ∧ ps[i]? = some q ∧ ¬ Faith (N.chg (ps.take i)) q ∧ ∀ (j : Nat) q, j < i → ps[j]? = some q → Faith (N.chg (ps.take j)) q
def spFirstUnf (C : Addr) : Sp := fun vs H Q _ => ∃ (p da db dl l : Addr) (N : NS) (ps : List (Int × Int)) (lv : List V), vs = [.ref p, .ref l] ∧ NetAt C H p da db dl N ∧ N.Ok ∧ H l = some (.lst lv) ∧ PrIs H ps lv ∧ (∀ q ∈ ps, q.1 ∈ N.hs ∧ q.2 ∈ N.hs) ∧
  ∀ v H', FstUn N ps v → Fr [] H H' → Q v H'
section
variable {P : Program} {w : World} {K : PySem.W.Frag} {mg : Str → Option Value} {base : Heap} {CNet CMender CDesk CStore CWalk : Addr}
abbrev s_first_unfaithful : Stmt := top 30
theorem sc_first_unfaithful : FnScope ["net", "changes", "copy", "at", "house", "target"] ["net", "changes"] (defScope s_first_unfaithful) := ⟨rfl, rfl, rfl, by decide +kernel, rfl, by decide +kernel, by decide +kernel⟩
theorem ok_first_unfaithful {f : Addr} {fd : FuncData} (F : Fun K "first_unfaithful" "first_unfaithful" s_first_unfaithful f fd) (G_refuse_strangers : GF P w K mg base "refuse_strangers" 2 ["net", "changes"] (spRefuseStr CNet)) (G_Net_clone : GM P w K mg base CNet "clone" 5 ["self"] (spClone CNet)) (m_enumerate : mg "enumerate" = none) (G_is_faithful : GF P w K mg base "is_faithful" 4 ["net", "house", "target"] (spIsFaithful CNet)) (G_Net_hold : GM P w K mg base CNet "hold" 2 ["self", "house", "target"] (spHold CNet)) (T : NetT K CNet) : FnOk P w K mg base CX0 6 f fd ["net", "changes"] (spFirstUnf CNet) := by
  refine F.ok sc_first_unfaithful (fun vs H Q E h => ?_) (fun cdv A outer s H vs Q E hr h => ?_)
  · obtain ⟨_, _, _, _, _, _, _, _, rfl, _⟩ := h; rfl
  · obtain ⟨p, da, db, dl, l, N, ps, lv, rfl, hN, ok, hl, pr, hm, k⟩ := h
    refine ⟨_, (pss_cons (ps_expr (c_fn G_refuse_strangers (hr.mono (by decide)) (pa_cons (pv 0) (pa_cons (pv 1) pa_nil))))
      (pss_cons (ps_set (i := 2) sc_first_unfaithful.nd rfl (Or.inl rfl) (c_mt0 G_Net_clone (hr.mono (by decide)) (pv 0)))
      (pss_cons (ps_for PassesOwn.never rfl (pi_enumK (K := K) rfl (by rfl) m_enumerate (pa_cons (pv 1) pa_nil)) (pg_tupK (K := K) rfl (pgs_cons (pg_name (i := 3) sc_first_unfaithful.nd rfl (Or.inl rfl)) (pgs_cons (pg_tupK (K := K) rfl (pgs_cons (pg_name (i := 4) sc_first_unfaithful.nd rfl (Or.inl rfl)) (pgs_cons (pg_name (i := 5) sc_first_unfaithful.nd rfl (Or.inl rfl)) pgs_nil))) pgs_nil)))
      (pss_cons (ps_if (pt_not (pt_val (c_fn G_is_faithful (hr.mono (by decide)) (pa_cons (pv 2) (pa_cons (pv 4) (pa_cons (pv 5) pa_nil)))))) (pss_one (ps_ret (pv 3))) pss_nil)
      (pss_one (ps_expr (c_mt G_Net_hold (hr.mono (by decide)) (pv 2) (pa_cons (pv 4) (pa_cons (pv 5) pa_nil)))))))
      (pss_one (ps_ret pe_non))))), ?_⟩
    (try simp only [cxK, cxKX, List.map])
    refine ent (σ' := [some _, some _, none, none, none, none]) rfl ?_
    obtain ⟨dx, hp⟩ := hN.ob
    k_offL
    refine ⟨p, da, db, dl, l, N, ps, lv, rfl, hN, ok, hl, pr, hm, fun H1 f1 => ?_⟩
    have hp1 := f1.at_ _ _ hp List.not_mem_nil
    k_offL
    refine ⟨p, da, db, dl, N, rfl, hN.ex f1, ok, fun x xa xb xl H2 nx na nb nl hX f2 => ?_⟩
    have f12 := f1.trans f2
    have e2l := f12.at_ _ _ hl List.not_mem_nil
    have lxa : l ≠ xa := fun z => by have := f1.at_ _ _ hl List.not_mem_nil; rw [z, na] at this; cases this
    have na0 : H xa = none := f1.free na
    k_offL
    refine loopE (M := [xa]) lv (sqL_of e2l) (mem_one lxa) (fun i σ' H' => (∃ v3 v4 v5, σ' = [some (.ref p), some (.ref l), some (.ref x), v3, v4, v5]) ∧ NetAt CNet H' x xa xb xl (N.chg (ps.take i)) ∧ (∀ (j : Nat) q, j < i → ps[j]? = some q → Faith (N.chg (ps.take j)) q) ∧ Fr [xa] H2 H') ⟨⟨_, _, _, rfl⟩, by rw [List.take_zero]; exact hX, fun j q z => absurd z (by omega), Fr.refl _ _⟩ (fun i σ' H' z => z.2.2.2) ?_ ?_
    · rintro i y T σ' H3 H4 hi ⟨⟨v3, v4, v5, rfl⟩, hX3, hF, f3⟩ nT eT fT
      have il : i < ps.length := by have := (List.getElem?_eq_some_iff.mp hi).1; rw [pr.len] at this; exact this
      obtain ⟨t, et, ht⟩ := pr.at_ i _ (List.getElem?_eq_getElem il)
      rw [hi] at et
      obtain rfl := Option.some.inj et
      have hq := List.getElem?_eq_getElem il
      have hsn := take_snoc hq
      have qm := hm _ (List.getElem_mem il)
      revert ht hq hsn qm
      generalize ps[i] = q
      intro ht hq hsn qm
      have ok3 : (N.chg (ps.take i)).Ok := chg_ok ok fun q hq => hm q (List.mem_of_mem_take hq)
      have hs3 := (chg_hs (N := N) (ps := ps.take i)).1
      have hX4 := hX3.ex fT
      obtain ⟨dx4, hx4⟩ := hX4.ob
      have ht4 := fT.tp _ _ (f3.tp _ _ (f12.tp _ _ ht))
      refine g_tup (sqT_of eT) rfl ?_
      k_offL
      refine g_consG ?_
      refine g_tup (sqT_of ht4) rfl ?_
      k_offL
      refine ⟨x, xa, xb, xl, N.chg (ps.take i), q.1, q.2, rfl, hX4, ok3, by rw [hs3]; exact qm.1, by rw [hs3]; exact qm.2, fun b H5 hb f5 => ?_⟩
      have hX5 := hX4.ex f5
      obtain ⟨dx5, hx5⟩ := hX5.ob
      have f25 : Fr [xa] H2 H5 := f3.trans (fT.trans f5).up
      cases b with
      | false =>
        k_offL
        exact k _ H5 (.inr ⟨i, q, rfl, hq, (fun z => by cases hb.mpr z), hF⟩) (f12.drop f25 na0)
      | true =>
        k_offL
        refine ⟨x, xa, xb, xl, N.chg (ps.take i), q.1, q.2, rfl, hX5, by rw [hs3]; exact qm.1, by rw [hs3]; exact qm.2, ok3, fun H6 hX6 f6 => ?_⟩
        k_offL
        refine ⟨⟨_, _, _, rfl⟩, by rw [hsn, chg_snoc]; exact hX6, fun j q' hj hq' => ?_, f25.trans f6⟩
        rcases Nat.lt_or_eq_of_le (Nat.le_of_lt_succ hj) with z | z
        · exact hF j q' z hq'
        · subst z
          rw [hq] at hq'
          cases hq'
          exact hb.mp rfl
    · rintro σ' H3 ⟨⟨v3, v4, v5, rfl⟩, hX3, hF, f3⟩
      k_offL
      refine k _ H3 (.inl ⟨rfl, fun j q hq => hF j q (by rw [pr.len]; exact (List.getElem?_eq_some_iff.mp hq).1) hq⟩) (f12.drop f3 na0)
end
def spEachOnce (C : Addr) : Sp := fun vs H Q _ => ∃ (p da db dl : Addr) (N : NS), vs = [.ref p] ∧ NetAt C H p da db dl N ∧ N.Ok ∧ ∀ b H', (b = true ↔ ∀ x ∈ N.hs, ∀ y ∈ N.hs, N.f x = N.f y → x = y) → Fr [] H H' → Q (.bl b) H'
section
variable {P : Program} {w : World} {K : PySem.W.Frag} {mg : Str → Option Value} {base : Heap} {CNet CMender CDesk CStore CWalk : Addr}
abbrev s_each_held_once : Stmt := top 32
theorem sc_each_held_once : FnScope ["net", "nexts", "house"] ["net"] (defScope s_each_held_once) := ⟨rfl, rfl, rfl, by decide +kernel, rfl, by decide +kernel, by decide +kernel⟩
theorem ok_each_held_once {f : Addr} {fd : FuncData} (F : Fun K "each_held_once" "each_held_once" s_each_held_once f fd) (G_Net_nexts : GM P w K mg base CNet "nexts" 1 ["self"] (spNexts CNet)) (m_sorted : mg "sorted" = none) (T : NetT K CNet) : FnOk P w K mg base CX0 2 f fd ["net"] (spEachOnce CNet) := by
  refine F.ok sc_each_held_once (fun vs H Q E h => ?_) (fun cdv A outer s H vs Q E hr h => ?_)
  · obtain ⟨_, _, _, _, _, rfl, _⟩ := h; rfl
  · obtain ⟨p, da, db, dl, N, rfl, hN, ok, k⟩ := h
    refine ⟨_, (pss_cons (ps_set (i := 1) sc_each_held_once.nd rfl (Or.inr rfl) (c_mt0 G_Net_nexts (hr.mono (by decide)) (pv 0)))
      (pss_one (ps_ret (pe_cmpR (op_eqDK (K := K) rfl hr.units) (pe_callB (cb_sortIK (K := K) rfl) (by rfl) m_sorted b_sorted (pa_cons (pe_lock (pe_lc (own := [("house", 2)]) (g := gName 2) rfl sc_each_held_once.nd (pi_keys (pv 1)) (blkOk_by (N := ["net", "nexts", "house"]) (sc := defScope s_each_held_once) (by decide +kernel)) (fun _ _ _ _ _ => (pg_name (i := 2) sc_each_held_once.nd rfl (Or.inl rfl))) (fun _ _ _ _ _ => pts_nil) (fun _ _ _ _ _ => (pe_dget (hu_of hr) (pv 1) (pv 2) (by intro _ _; rfl))))) pa_nil)) (pe_callB (cb_sortD rfl) (by rfl) m_sorted b_sorted (pa_cons (pv 1) pa_nil)) (nomark _))))), ?_⟩
    (try simp only [cxK, cxKX, List.map])
    refine ent (σ' := [some _, none, none]) rfl ?_
    have hlen := ok.hl
    obtain ⟨dx, hp⟩ := hN.ob
    k_offL
    refine ⟨p, da, db, dl, N, rfl, hN, ok, fun l1 H1 n1 e1 f1 => ?_⟩
    have hk : N.kn.map (·.1) = N.hs.map Sum.inl := by unfold NS.kn; rw [List.map_map]; rfl
    have hkl : N.kn.length = N.hs.length := by unfold NS.kn; rw [List.length_map]
    k_offL
    refine x_lockE e1 fun od H3 e3 l3 => ?_
    k_offL
    refine keysk e3 ?_
    refine lcV (walk_keys (kvs := N.kn)) (N.hs.map V.int) (by rw [hkl, List.length_map]) (fun i H0 x H' hi y => (by
      obtain ⟨⟨k, hk, e⟩, f⟩ := yKey hk y
      exact ⟨by rw [List.getElem?_map, hk, e]; rfl, f⟩)) (fun _ => true) (fun v => match v with | .int x => .int (N.f x) | v => v) (fun H' f => f.fz _ _ _ e3) (by rw [List.length_map]; omega) (fun o H' hm f => ?_) fun l4 H4 n4 e4 f4 => ?_
    · obtain ⟨o, ho, rfl⟩ := mem_intsM hm
      refine sk2 ⟨fun R kR => ?_, fun _ H5 f5 R kR => ?_⟩
      · k_offL
        exact kR _ (Fr.refl _ _)
      · k_offL
        refine dgetk (.inr ⟨od, (f.trans f5).fz _ _ _ e3⟩) (by rw [ok.dkn.val, NS.mf_at ho]) ?_
        exact kR _ (Fr.refl _ _)
    rw [List.filter_eq_self.mpr fun _ _ => rfl, List.map_map] at e4
    have e43 := f4.fz _ _ _ e3
    refine unlk e1 e3 l3 f4 fun H5 f5 keep => ?_
    have e5 := keep l4 _ (by intro z; subst z; rw [e4] at e43; cases e43) e4
    have e5' : H5 l4 = some (.lst ((N.hs.map N.f).map V.int)) := by rw [e5, List.map_map]; rfl
    k_offL
    refine r_sortI (sqL_of e5') fun ys l6 H6 pm so n6 e6 f6 => ?_
    k_offL
    refine r_sortD (.inl ((f5.trans f6).at_ _ _ e1 List.not_mem_nil)) ok.dkn ok.ascF (by omega) fun l7 H7 n7 e7 f7 => ?_
    k_offL
    refine r_eqInts (f7.sqL (sqL_of e6) List.not_mem_nil) (sqL_of e7) ?_
    k_offL
    exact k _ H7 (once_iff ok.up ok.fh pm so) (f1.trans ((f5.trans f6).trans f7))
end
end RL
set_option synthInstance.maxHeartbeats 4000000
set_option synthInstance.maxSize 4000
namespace RL
structure Mk (size : Int) (hs : List Int) (f nm W φ : Int → Int) : Prop where
  up : hs.Pairwise (· < ·)
  on : ∀ h ∈ hs, 0 ≤ h ∧ h < size
  cl : ∀ h ∈ hs, f h ∈ hs
  hl : hs.length ≤ 45
  s0 : 0 < size
  s1 : size < 2 ^ 40
  P : Pot size hs f nm W φ
theorem Mk.nd {size : Int} {hs : List Int} {f nm W φ : Int → Int} (x : Mk size hs f nm W φ) : hs.Nodup := x.up.imp fun h => Int.ne_of_lt h
def spLawPiece : Sp := fun vs H Q _ => ∃ (size : Int) (a : Addr) (hs : List Int) (f nm W φ : Int → Int) (h : Int) (_ : Unit), vs = [.ref a, .int h] ∧ NxAt H a hs f ∧ Mk size hs f nm W φ ∧ h ∈ hs ∧
  ∀ l H', H l = none → H' l = some (.lst ((pcOf hs nm h).map V.int)) → Fr [] H H' → Q (.ref l) H'
section
variable {P : Program} {w : World} {K : PySem.W.Frag} {mg : Str → Option Value} {base : Heap} {CNet CMender CDesk CStore CWalk : Addr}
abbrev s__law_piece : Stmt := top 56
theorem sc__law_piece : FnScope ["nexts", "house", "root", "other"] ["nexts", "house"] (defScope s__law_piece) := ⟨rfl, rfl, rfl, by decide +kernel, rfl, by decide +kernel, by decide +kernel⟩
theorem ok__law_piece {f : Addr} {fd : FuncData} (F : Fun K "_law_piece" "_law_piece" s__law_piece f fd) (G__law_root : GF P w K mg base "_law_root" 2 ["nexts", "house"] spRoot) (m_sorted : mg "sorted" = none) : FnOk P w K mg base CX0 3 f fd ["nexts", "house"] spLawPiece := by
  refine F.ok sc__law_piece (fun vs H Q E h => ?_) (fun cdv A outer s H vs Q E hr h => ?_)
  · obtain ⟨_, _, _, _, _, _, _, _, _, rfl, _⟩ := h; rfl
  · obtain ⟨size, a, hs, f, nm, W, φ, x, _, rfl, N, M, hx, k⟩ := h
    refine ⟨_, (pss_cons (ps_set (i := 2) sc__law_piece.nd rfl (Or.inr rfl) (c_fn G__law_root (hr.mono (by decide)) (pa_cons (pv 0) (pa_cons (pv 1) pa_nil))))
      (pss_one (ps_ret (pe_lc (own := [("other", 3)]) (g := gName 3) rfl sc__law_piece.nd (pi_listK (K := K) rfl (pe_callB (cb_sortD rfl) (by rfl) m_sorted b_sorted (pa_cons (pv 0) pa_nil))) (blkOk_by (N := ["nexts", "house", "root", "other"]) (sc := defScope s__law_piece) (by decide +kernel)) (fun _ _ _ _ _ => (pg_name (i := 3) sc__law_piece.nd rfl (Or.inl rfl))) (fun _ _ _ _ _ => pts_one (pt_cmpR op_eq (c_fn G__law_root (hr.mono (by decide)) (pa_cons (pv 0) (pa_cons (pv 3) pa_nil))) (pv 2) (nomark _))) (fun _ _ _ _ _ => (pv 3)))))), ?_⟩
    (try simp only [cxK, cxKX, List.map])
    refine ent (σ' := [some _, some _, none, none]) rfl ?_
    obtain ⟨kn, rd, dk, hkl⟩ := N.ex
    have hlen := M.hl
    k_offL
    refine ⟨a, hs, f, x, (), rfl, N, hx, by omega, fun r m H1 per hm hr hmin f1 => ?_⟩
    have R0 : RootOf hs f x r := ⟨m, per, hr, hmin⟩
    k_offL
    refine r_sortD (f1.rd rd List.not_mem_nil) dk ⟨M.up, fun n => mfOf_some⟩ (by omega) fun l3 H3 n3 e3 f3 => ?_
    have N3 := (N.ex0 f1).ex0 f3
    refine walkL (sqL_of e3) ?_
    refine lcV (walk_list (xs := hs.map V.int)) (hs.map V.int) rfl (fun i H0 x H' _ y => yAt y) (intP fun o => decide (nm o = nm x)) (fun v => v) (fun H' f => f.sqL (sqL_of e3) List.not_mem_nil) (by rw [List.length_map]; omega) (fun o H' hm f' => ?_) fun l4 H4 n4 e4 f4 => ?_
    · obtain ⟨o, ho, rfl⟩ := mem_intsM hm
      refine sk3 ⟨fun R kR => ?_, fun _ H5 f5 R kR => ?_⟩
      · k_offL
        refine ⟨a, hs, f, o, (), rfl, N3.ex0 f', ho, by omega, fun r2 m2 H5 per2 hm2 hr2 hmin2 f5 => ?_⟩
        have R2 : RootOf hs f o r2 := ⟨m2, per2, hr2, hmin2⟩
        k_offL
        have q := kR H5 f5
        have e : (intP fun o => decide (nm o = nm x)) (.int o) = decide (r2 = r) := by
          show decide (nm o = nm x) = _
          rw [Bool.eq_iff_iff, decide_eq_true_iff, decide_eq_true_iff]
          exact (M.P.root M.cl ho hx R2 R0).symm
        rw [e] at q
        exact q
      · k_offL
        exact kR _ (Fr.refl _ _)
    rw [filter_intP, show (fun v : V => v) = id from rfl, List.map_id] at e4
    exact k l4 H4 ((f1.trans f3).free n4) e4 ((f1.trans f3).trans f4)
end
def spLawMarks : Sp := fun vs H Q _ => ∃ (size : Int) (a : Addr) (hs : List Int) (f nm W φ : Int → Int) (h : Int) (_ : Unit), vs = [.int size, .ref a, .int h] ∧ NxAt H a hs f ∧ Mk size hs f nm W φ ∧ h ∈ hs ∧
  ∀ l r H', H l = none → H' l = some (.dK ((pcOf hs nm h).map fun o => (Sum.inl o, mkv (W (nm h)) φ r o))) → (pcOf hs nm h)[0]? = some r → Fr [] H H' → Q (.ref l) H'
def MkOf (hs : List Int) (nm φ : Int → Int) (w nh c : Int) (kvs : List (Key × V)) (D : List Int) (μ : Int → Int) : Prop := DOk kvs (mfOf D μ) ∧ ∀ h ∈ D, (h ∈ hs ∧ nm h = nh) ∧ w ∣ μ h - (φ h - c)
theorem MkOf.put {hs : List Int} {nm φ : Int → Int} {w nh c : Int} {kvs : List (Key × V)} {D : List Int} {g : Int → Int} {h r : Int} (x : MkOf hs nm φ w nh c kvs D g) (hh : h ∈ hs ∧ nm h = nh) (hr : w ∣ r - (φ h - c)) : MkOf hs nm φ w nh c (putK kvs (.inl h) (.int r)) (D ++ [h]) (fun y => if y = h then r else g y) := by
  obtain ⟨d, hd⟩ := x
  refine ⟨d.put.cong fun n => ?_, fun y hy => ?_⟩
  · unfold mfOf
    show _ = if n ∈ D ++ [h] then some (V.int (if n = h then r else g n)) else none
    by_cases e : n = h
    · rw [if_pos e, if_pos (List.mem_append_right _ (List.mem_singleton.mpr e)), if_pos e]
    · rw [if_neg e, if_neg e]
      by_cases m : n ∈ D
      · rw [if_pos m, if_pos (List.mem_append_left _ m)]
      · rw [if_neg m, if_neg fun z => (List.mem_append.mp z).elim m fun z => e (List.mem_singleton.mp z)]
  · show (y ∈ hs ∧ nm y = nh) ∧ w ∣ (if y = h then r else g y) - (φ y - c)
    by_cases e : y = h
    · rw [if_pos e, e]; exact ⟨hh, hr⟩
    · rw [if_neg e]
      exact hd y ((List.mem_append.mp hy).resolve_right fun z => e (List.mem_singleton.mp z))
theorem MkOf.le {hs : List Int} {nm φ : Int → Int} {w nh c : Int} {kvs : List (Key × V)} {D : List Int} {g : Int → Int} (x : MkOf hs nm φ w nh c kvs D g) : kvs.length ≤ hs.length :=
  x.1.le fun n hn => (x.2 n (mfOf_some.mpr hn)).1.1
section
variable {P : Program} {w : World} {K : PySem.W.Frag} {mg : Str → Option Value} {base : Heap} {CNet CMender CDesk CStore CWalk : Addr}
abbrev s__law_marks : Stmt := top 58
theorem sc__law_marks : FnScope ["size", "nexts", "house", "piece", "ring", "marks", "total", "one", "k", "least", "shift", "due"] ["size", "nexts", "house"] (defScope s__law_marks) := ⟨rfl, rfl, rfl, by decide +kernel, rfl, by decide +kernel, by decide +kernel⟩
theorem ok__law_marks {f : Addr} {fd : FuncData} (F : Fun K "_law_marks" "_law_marks" s__law_marks f fd) (G__law_piece : GF P w K mg base "_law_piece" 3 ["nexts", "house"] spLawPiece) (G__law_ring : GF P w K mg base "_law_ring" 1 ["nexts", "house"] spRing) (G__law_far : GF P w K mg base "_law_far" 1 ["size", "start", "end"] spFar) (m_range : mg "range" = none) (m_len : mg "len" = none) (m_int : mg "int" = none) : FnOk P w K mg base CX0 4 f fd ["size", "nexts", "house"] spLawMarks := by
  refine F.ok sc__law_marks (fun vs H Q E h => ?_) (fun cdv A outer s H vs Q E hr h => ?_)
  · obtain ⟨_, _, _, _, _, _, _, _, _, rfl, _⟩ := h; rfl
  · obtain ⟨size, a, hs, f, nm, W, φ, x, _, rfl, N, M, hx, k⟩ := h
    refine ⟨_, (pss_cons (ps_set (i := 3) sc__law_marks.nd rfl (Or.inl rfl) (c_fn G__law_piece (hr.mono (by decide)) (pa_cons (pv 1) (pa_cons (pv 2) pa_nil))))
      (pss_cons (ps_set (i := 4) sc__law_marks.nd rfl (Or.inl rfl) (c_fn G__law_ring (hr.mono (by decide)) (pa_cons (pv 1) (pa_cons (pv 2) pa_nil))))
      (pss_cons (ps_set (i := 5) sc__law_marks.nd rfl (Or.inl rfl) pe_dnewK)
      (pss_cons (ps_set (i := 6) sc__law_marks.nd rfl (Or.inl rfl) pe_int)
      (pss_cons (ps_for PassesOwn.never rfl (pi_listK (K := K) rfl (pv 4)) (pg_name (i := 7) sc__law_marks.nd rfl (Or.inl rfl))
      (pss_cons (ps_dput (hu_of hr) (pv 5) (pv 7) (pv 6) rfl)
      (pss_one (ps_set (i := 6) sc__law_marks.nd rfl (Or.inl rfl) (pe_op op_add (pv 6) (c_fn G__law_far (hr.mono (by decide)) (pa_cons (pv 0) (pa_cons (pv 7) (pa_cons (pe_dget (hu_of hr) (pv 1) (pv 7) (by intro _ _; rfl)) pa_nil)))))))))
      (pss_cons (ps_for PassesOwn.never rfl (pi_range1 (by rfl) m_range (pa_cons (pe_callB (cb_lenSK (K := K) rfl) (by rfl) m_len b_len (pa_cons (pv 3) pa_nil)) pa_nil)) (pg_name (i := 8) sc__law_marks.nd rfl (Or.inl rfl))
      (pss_one (ps_for PassesOwn.never rfl (pi_listK (K := K) rfl (pv 3)) (pg_name (i := 7) sc__law_marks.nd rfl (Or.inl rfl))
      (pss_one (ps_if (PW.pt (pw_and (pt_cmp (pc_dnotin (hu_of hr) (pv 7) (pv 5))) (pw_and1 (pt_cmp (pc_din (hu_of hr) (pe_dget (hu_of hr) (pv 1) (pv 7) (by intro _ _; rfl)) (pv 5)))))) (pss_one (ps_dput (hu_of hr) (pv 5) (pv 7) (pe_op op_sub (pe_dget (hu_of hr) (pv 5) (pe_dget (hu_of hr) (pv 1) (pv 7) (by intro _ _; rfl)) (by intro _ _; rfl)) (c_fn G__law_far (hr.mono (by decide)) (pa_cons (pv 0) (pa_cons (pv 7) (pa_cons (pe_dget (hu_of hr) (pv 1) (pv 7) (by intro _ _; rfl)) pa_nil))))) rfl)) pss_nil)))))
      (pss_cons (ps_set (i := 9) sc__law_marks.nd rfl (Or.inl rfl) (pe_ix (ix_listK (K := K) rfl) (pv 3) pe_int (by intro _ _; rfl)))
      (pss_cons (ps_set (i := 10) sc__law_marks.nd rfl (Or.inl rfl) (pe_op op_sub (pv 9) (pe_dget (hu_of hr) (pv 5) (pv 9) (by intro _ _; rfl))))
      (pss_cons (ps_set (i := 11) sc__law_marks.nd rfl (Or.inl rfl) pe_dnewK)
      (pss_cons (ps_for PassesOwn.never rfl (pi_listK (K := K) rfl (pv 3)) (pg_name (i := 7) sc__law_marks.nd rfl (Or.inl rfl))
      (pss_one (ps_dput (hu_of hr) (pv 11) (pv 7) (pe_op op_mod (pe_callTy cb_int (by rfl) m_int b_int (pa_cons (pe_op op_add (pe_dget (hu_of hr) (pv 5) (pv 7) (by intro _ _; rfl)) (pv 10)) pa_nil)) (pv 6)) rfl)))
      (pss_one (ps_ret (pv 11))))))))))))), ?_⟩
    (try simp only [cxK, cxKX, List.map])
    refine ent (σ' := [some _, some _, some _, none, none, none, none, none, none, none, none, none]) rfl ?_
    have hlen := M.hl
    have h0 := M.s0
    have h1 := M.s1
    have w0 := M.P.w0 x hx
    k_offL
    refine ⟨size, a, hs, f, nm, W, φ, x, (), rfl, N, M, hx, fun l1 H1 n1 e1 f1 => ?_⟩
    k_offL
    refine ⟨a, hs, f, x, (), rfl, N.ex0 f1, hx, by omega, fun l2 m H2 n2 e2 per hm f2 => ?_⟩
    obtain ⟨r0, hr0⟩ : ∃ r0, r0 = it f hs.length x := ⟨_, rfl⟩
    rw [← hr0] at e2 per
    have rm : r0 ∈ hs := hr0 ▸ it_mem M.cl hx
    have rn : nm r0 = nm x := by rw [hr0]; exact M.P.nit M.cl hx
    have wr := M.P.rg r0 rm m per
    rw [rn] at wr
    have e12 := f2.at_ _ _ e1 List.not_mem_nil
    have N2 := (N.ex0 f1).ex0 f2
    k_offL
    refine newk fun ml H3 n3 e3 f3 => ?_
    have e13 := f3.at_ _ _ e12 List.not_mem_nil
    have e23 := f3.at_ _ _ e2 List.not_mem_nil
    have m1 : ml ≠ l1 := (ne_of_none e12 n3).symm
    have m2 : ml ≠ l2 := (ne_of_none e2 n3).symm
    have am : a ≠ ml := N2.off n3
    have N3 := N2.ex0 f3
    have wayD : ∀ i : Nat, W (nm x) ∣ wl size f i r0 - (φ (it f i r0) - φ r0) := fun i => by
      have := M.P.wlen M.cl rm (n := i)
      rw [rn] at this
      exact this
    k_offL
    refine loopLF (M := [ml]) ((ringL f r0 m).map V.int) (sqL_of e23) (mem_one m2.symm) (fun i σ' H' => ∃ (v7 : Option V) (kvs : List (Key × V)) (μ : Int → Int), σ' = [some (.int size), some (.ref a), some (.int x), some (.ref l1), some (.ref l2), some (.ref ml), some (.int (wl size f i r0)), v7, none, none, none, none] ∧ H' ml = some (.dK kvs) ∧ MkOf hs nm φ (W (nm x)) (nm x) (φ r0) kvs (ringL f r0 i) μ ∧ Fr [ml] H3 H')
      ⟨_, [], fun _ => 0, rfl, e3, ⟨DOk.nil.cong fun n => rfl, fun _ h => nomatch h⟩, Fr.refl _ _⟩ (fun i σ' H' ⟨_, _, _, _, _, _, f⟩ => f) ?_ ?_
    · rintro i y σ' H4 hi ⟨v7, kvs, μ, rfl, e4, E, f4⟩
      obtain ⟨o, ho, hom, rfl⟩ := mem_ints hi
      have hi' : i < m := by have := (List.getElem?_eq_some_iff.mp ho).1; rw [ringL_len] at this; exact this
      rw [ringL_at hi'] at ho
      obtain rfl := Option.some.inj ho
      have oin := it_mem (n := i) M.cl rm
      k_offL
      refine dputk e4 (by have := E.le; omega) fun H5 e5 f5 => ?_
      k_offL
      refine (N3.fr (f4.trans f5) (mem_one am)).get oin ?_
      k_offL
      refine i_far h0 ?_
      k_offL
      refine ⟨_, _, (fun y => if y = it f i r0 then wl size f i r0 else μ y), by rw [wl_succ], e5, ?_, f4.trans f5⟩
      have E5 := E.put (h := it f i r0) (r := wl size f i r0) ⟨oin, by rw [M.P.nit M.cl rm, rn]⟩ (wayD i)
      rw [← ringL_succ] at E5
      exact E5
    rintro σ' H4 ⟨v7, kvs, μ, rfl, e4, E, f4⟩
    rw [List.length_map, ringL_len] at E
    rw [List.length_map, ringL_len, wr]
    have pcnd : (pcOf hs nm x).Nodup := M.nd.filter _
    have pcl : (pcOf hs nm x).length ≤ hs.length := List.length_filter_le _ _
    have e14 := f4.at_ _ _ e13 (mem_one m1.symm)
    have pcf : ∀ o ∈ pcOf hs nm x, f o ∈ pcOf hs nm x := fun o ho => by
      have om := mem_pc.mp ho
      exact mem_pc.mpr ⟨M.cl o om.1, by rw [M.P.nf o om.1]; exact om.2⟩
    k_offL
    refine r_lenL (sqL_of e14) ?_
    rw [List.length_map]
    k_offL
    refine loopR1 _ (by omega) (by omega) (fun q σ' H' => ∃ (v7 v8 : Option V) (kvs : List (Key × V)) (D : List Int) (μ : Int → Int), σ' = [some (.int size), some (.ref a), some (.int x), some (.ref l1), some (.ref l2), some (.ref ml), some (.int (W (nm x))), v7, v8, none, none, none] ∧ H' ml = some (.dK kvs) ∧ MkOf hs nm φ (W (nm x)) (nm x) (φ r0) kvs D μ ∧ (∀ o ∈ pcOf hs nm x, (∃ j, j ≤ q ∧ it f j o ∈ ringL f r0 m) → o ∈ D) ∧ Fr [ml] H3 H')
      ⟨_, _, kvs, _, μ, rfl, e4, E, (fun o _ ⟨j, hj, h⟩ => by (obtain rfl : j = 0 := by omega); exact h), f4⟩ ?_ ?_
    · rintro q σ' H5 hq ⟨v7, v8, kvs, D, μ, rfl, e5, E, hD, f5⟩
      have e15 := f5.at_ _ _ e13 (mem_one m1.symm)
      k_offL
      refine loopLF (M := [ml]) ((pcOf hs nm x).map V.int) (sqL_of e15) (mem_one m1.symm) (fun i σ' H' => ∃ (v7 v8 : Option V) (kvs : List (Key × V)) (D : List Int) (μ : Int → Int), σ' = [some (.int size), some (.ref a), some (.int x), some (.ref l1), some (.ref l2), some (.ref ml), some (.int (W (nm x))), v7, v8, none, none, none] ∧ H' ml = some (.dK kvs) ∧ MkOf hs nm φ (W (nm x)) (nm x) (φ r0) kvs D μ ∧ (∀ o ∈ pcOf hs nm x, (∃ j, j ≤ q ∧ it f j o ∈ ringL f r0 m) → o ∈ D) ∧ (∀ o ∈ (pcOf hs nm x).take i, (∃ j, j ≤ q + 1 ∧ it f j o ∈ ringL f r0 m) → o ∈ D) ∧ Fr [ml] H5 H')
        ⟨_, _, kvs, D, μ, rfl, e5, E, hD, (fun o ho => by rw [List.take_zero] at ho; cases ho), Fr.refl _ _⟩ (fun i σ' H' ⟨_, _, _, _, _, _, _, _, _, _, f⟩ => f) ?_ ?_
      · rintro i y σ' H6 hi ⟨v7, v8, kvs, D, μ, rfl, e6, E, hD, hT, f6⟩
        obtain ⟨o, ho, hom, rfl⟩ := mem_ints hi
        have om := mem_pc.mp hom
        have hsn := take_snoc ho
        have N6 := N3.fr (f5.trans f6) (mem_one am)
        have fom := pcf o hom
        have fls : (o ∈ D ∨ f o ∉ D) → ∀ o' ∈ (pcOf hs nm x).take (i + 1), (∃ j, j ≤ q + 1 ∧ it f j o' ∈ ringL f r0 m) → o' ∈ D := fun hb o' h1 h2 => by
          rw [hsn] at h1
          rcases List.mem_append.mp h1 with z | z
          · exact hT o' z h2
          · rw [List.mem_singleton.mp z] at h2 ⊢
            obtain ⟨j, hj, hr⟩ := h2
            cases j with
            | zero => exact hD o hom ⟨0, Nat.zero_le _, hr⟩
            | succ j =>
              have := hD (f o) fom ⟨j, by omega, hr⟩
              exact hb.elim id fun z => absurd this z
        k_offL
        refine dink (.inl e6) ?_
        rw [E.1.val]
        by_cases mD : o ∈ D
        · rw [mfOf_at mD]
          refine blk (ifE (show (!(some (V.int (μ o))).isSome) = false from rfl) (ifF ?_))
          k_offL
          exact ⟨_, _, kvs, D, μ, rfl, e6, E, hD, fls (.inl mD), f6⟩
        rw [show mfOf D μ o = none from if_neg mD]
        refine blk (ifE (show (!(none : Option V).isSome) = true from rfl) (ifT ?_))
        k_offL
        refine N6.get om.1 ?_
        k_offL
        refine dink (.inl e6) ?_
        rw [E.1.val]
        by_cases mF : f o ∈ D
        · rw [mfOf_at mF]
          refine blk (ifE (show ((some (V.int (μ (f o)))).isSome) = true from rfl) (ifT ?_))
          k_offL
          refine N6.get om.1 ?_
          k_offL
          refine dgetk (.inl e6) (by rw [E.1.val, mfOf_at mF]) ?_
          k_offL
          refine N6.get om.1 ?_
          k_offL
          refine i_far h0 ?_
          k_offL
          refine dputk e6 (by have := E.le; omega) fun H8 e8 f8 => ?_
          have E8 := E.put (h := o) (r := μ (f o) - far size o (f o)) om (by
            have d1 := (E.2 (f o) mF).2
            have d2 := M.P.st o om.1
            rw [om.2] at d2
            have := Int.dvd_sub d1 d2
            rw [show μ (f o) - (φ (f o) - φ r0) - (far size o (f o) - (φ (f o) - φ o)) = μ (f o) - far size o (f o) - (φ o - φ r0) by omega] at this
            exact this)
          refine ⟨_, _, _, _, _, rfl, e8, E8, fun o' h1 h2 => List.mem_append_left _ (hD o' h1 h2), fun o' h1 h2 => ?_, f6.trans f8⟩
          rw [hsn] at h1
          rcases List.mem_append.mp h1 with z | z
          · exact List.mem_append_left _ (hT o' z h2)
          · rw [List.mem_singleton.mp z]; exact List.mem_append_right _ (List.mem_singleton.mpr rfl)
        · rw [show mfOf D μ (f o) = none from if_neg mF]
          refine blk (ifE (show ((none : Option V).isSome) = false from rfl) (ifF ?_))
          k_offL
          exact ⟨_, _, kvs, D, μ, rfl, e6, E, hD, fls (.inr mF), f6⟩
      · rintro σ' H6 ⟨v7, v8, kvs, D, μ, rfl, e6, E, hD, hT, f6⟩
        rw [List.length_map, List.take_length] at hT
        exact ⟨_, _, kvs, D, μ, rfl, e6, E, hT, f5.trans f6⟩
    rintro σ' H5 ⟨v7, v8, kvs5, D, μ5, rfl, e5, E5, hD, f5⟩
    rw [show (((pcOf hs nm x).length : Int)).toNat = (pcOf hs nm x).length by omega] at hD
    have all : ∀ o ∈ pcOf hs nm x, o ∈ D := fun o ho => by
      have om := mem_pc.mp ho
      have wm : ∀ i, it f i o ∈ pcOf hs nm x := fun i => by
        induction i with
        | zero => exact ho
        | succ i ih => rw [it_succ]; exact pcf _ ih
      obtain ⟨i, j, hij, hj, ee⟩ := pigeon (c := fun i => it f i o) (Nat.le_refl (pcOf hs nm x).length) fun i _ => wm i
      have ee' : it f i o = it f j o := ee
      have on : OnR f (it f i o) := ⟨j - i, by omega, by rw [← it_add, show i + (j - i) = j by omega, ee']⟩
      have im := mem_pc.mp (wm i)
      obtain ⟨a', b', e'⟩ := M.P.mt _ im.1 r0 rm (im.2.trans rn.symm)
      obtain ⟨q', hq'⟩ := on.back (a := a') rfl
      exact hD o ho ⟨i, by omega, (ringL_iff per).mpr ⟨b' + q', by rw [it_add, ← e', hq']⟩⟩
    obtain ⟨least, hl⟩ : ∃ y, (pcOf hs nm x)[0]? = some y := ⟨_, List.getElem?_eq_getElem (List.length_pos_of_mem (pc_self hx))⟩
    have lm := List.mem_of_getElem? hl
    have e15 := f5.at_ _ _ e13 (mem_one m1.symm)
    k_offL
    refine r_ixL (sqL_of e15) (v := .int least) (ix_at 0 rfl (by rw [List.getElem?_map, hl]; rfl)) ?_
    k_offL
    refine dgetk (.inl e5) (by rw [E5.1.val, mfOf_at (all least lm)]) ?_
    k_offL
    refine newk fun dl H6 n6 e6 f6 => ?_
    have e16 := f6.at_ _ _ e15 List.not_mem_nil
    have e56 := f6.at_ _ _ e5 List.not_mem_nil
    have d1 : dl ≠ l1 := (ne_of_none e15 n6).symm
    have dm : dl ≠ ml := (ne_of_none e5 n6).symm
    k_offL
    refine loopLF (M := [dl]) ((pcOf hs nm x).map V.int) (sqL_of e16) (mem_one d1.symm) (fun i σ' H' => ∃ (v7 v8 : Option V), σ' = [some (.int size), some (.ref a), some (.int x), some (.ref l1), some (.ref l2), some (.ref ml), some (.int (W (nm x))), v7, v8, some (.int least), some (.int (least - μ5 least)), some (.ref dl)] ∧ H' dl = some (.dK (((pcOf hs nm x).take i).map fun o => (Sum.inl o, mkv (W (nm x)) φ least o))) ∧ Fr [dl] H6 H')
      ⟨_, _, rfl, e6, Fr.refl _ _⟩ (fun i σ' H' ⟨_, _, _, _, f⟩ => f) ?_ ?_
    · rintro i y σ' H7 hi ⟨v7, v8, rfl, e7, f7⟩
      obtain ⟨o, ho, hom, rfl⟩ := mem_ints hi
      k_offL
      refine dgetk (.inl (f7.at_ _ _ e56 (mem_one dm.symm))) (by rw [E5.1.val, mfOf_at (all o hom)]) ?_
      k_offL
      refine dputk e7 (by rw [List.length_map, List.length_take]; omega) fun H8 e8 f8 => ?_
      refine ⟨_, _, rfl, ?_, f7.trans f8⟩
      have ev : (μ5 o + (least - μ5 least)) % W (nm x) = (least + φ o - φ least) % W (nm x) := by
        refine emod_eq ?_
        have := Int.dvd_sub (E5.2 o (all o hom)).2 (E5.2 least (all least lm)).2
        rw [show μ5 o - (φ o - φ r0) - (μ5 least - (φ least - φ r0)) = μ5 o + (least - μ5 least) - (least + φ o - φ least) by omega] at this
        exact this
      rw [e8, putK_new, take_snoc ho, List.map_append, ev]
      · rfl
      · rw [valV_mapK (mkv (W (nm x)) φ least), if_neg]
        intro hc
        obtain ⟨i', hi', e'⟩ := List.mem_iff_getElem.mp hc
        rw [List.length_take] at hi'
        rw [List.getElem_take] at e'
        have : i' = i := nd_ix pcnd (by rw [List.getElem?_eq_getElem (by omega), e']) ho
        omega
    · rintro σ' H7 ⟨v7, v8, rfl, e7, f7⟩
      rw [List.length_map, List.take_length] at e7
      k_offL
      have f03 : Fr [] H H3 := (f1.trans f2).trans f3
      have n0 : H ml = none := (f1.trans f2).free n3
      have f05 : Fr [] H H5 := (f1.trans f2).drop (f3.up.trans f5) n0
      have n6' : H dl = none := f05.free n6
      exact k dl least H7 n6' e7 hl (f05.drop (f6.up.trans f7) n6')
end
theorem rotN_at {row : List Int} {i s : Nat} (hi : i < row.length) (hs : s < row.length) : (row.drop s ++ row.take s)[i]? = row[(i + s) % row.length]? := by
  by_cases h : i + s < row.length
  · rw [Nat.mod_eq_of_lt h, List.getElem?_append_left (by rw [List.length_drop]; omega), List.getElem?_drop, Nat.add_comm]
  · have e : (i + s) % row.length = i + s - row.length := by
      rw [Nat.mod_eq_sub_mod (by omega), Nat.mod_eq_of_lt (by omega)]
    rw [e, List.getElem?_append_right (by rw [List.length_drop]; omega), List.length_drop, List.getElem?_take, if_pos (by omega), show i - (row.length - s) = i + s - row.length by omega]
theorem rot_len {row : List Int} {s : Nat} (hs : s < row.length) : (row.drop s ++ row.take s).length = row.length := by
  rw [List.length_append, List.length_drop, List.length_take]; omega
theorem CycEnd.rot {hs row : List Int} {nm W φ : Int → Int} {s : Nat} (c : CycEnd hs nm W φ row) (hl : s < row.length) : CycEnd hs nm W φ (row.drop s ++ row.take s) := by
  intro i h e hh he
  have il : i < row.length := by have := (List.getElem?_eq_some_iff.mp hh).1; rw [rot_len hl] at this; exact this
  rw [rot_len hl] at he
  have p : 0 < row.length := by omega
  rw [rotN_at il hl] at hh
  rw [rotN_at (Nat.mod_lt _ p) hl] at he
  refine c _ h e hh ?_
  rw [← he]
  congr 1
  rw [Nat.mod_add_mod, Nat.mod_add_mod]
  congr 1; omega
def spLawRow : Sp := fun vs H Q _ => ∃ (size : Int) (a : Addr) (hs : List Int) (f nm W φ : Int → Int) (h : Int) (_ : Unit), vs = [.int size, .ref a, .int h] ∧ NxAt H a hs f ∧ Mk size hs f nm W φ ∧ h ∈ hs ∧
  ∀ (l : Addr) (row : List Int) (H' : Hp), H l = none → H' l = some (.lst (row.map V.int)) → row.Nodup → (∀ x, x ∈ row ↔ x ∈ hs ∧ nm x = nm h) → CycEnd hs nm W φ row → Fr [] H H' → Q (.ref l) H'
section
variable {P : Program} {w : World} {K : PySem.W.Frag} {mg : Str → Option Value} {base : Heap} {CNet CMender CDesk CStore CWalk : Addr}
abbrev s__law_row : Stmt := top 59
theorem sc__law_row : FnScope ["size", "nexts", "house", "marks", "pairs", "one", "row", "pair", "start"] ["size", "nexts", "house"] (defScope s__law_row) := ⟨rfl, rfl, rfl, by decide +kernel, rfl, by decide +kernel, by decide +kernel⟩
theorem ok__law_row {f : Addr} {fd : FuncData} (F : Fun K "_law_row" "_law_row" s__law_row f fd) (G__law_marks : GF P w K mg base "_law_marks" 4 ["size", "nexts", "house"] spLawMarks) (m_sorted : mg "sorted" = none) (m_min : mg "min" = none) : FnOk P w K mg base CX0 5 f fd ["size", "nexts", "house"] spLawRow := by
  refine F.ok sc__law_row (fun vs H Q E h => ?_) (fun cdv A outer s H vs Q E hr h => ?_)
  · obtain ⟨_, _, _, _, _, _, _, _, _, rfl, _⟩ := h; rfl
  · obtain ⟨size, a, hs, f, nm, W, φ, x, _, rfl, N, M, hx, k⟩ := h
    refine ⟨_, (pss_cons (ps_set (i := 3) sc__law_row.nd rfl (Or.inr rfl) (c_fn G__law_marks (hr.mono (by decide)) (pa_cons (pv 0) (pa_cons (pv 1) (pa_cons (pv 2) pa_nil)))))
      (pss_cons (ps_set (i := 4) sc__law_row.nd rfl (Or.inl rfl) (pe_callB (cb_sortPK (K := K) rfl) (by rfl) m_sorted b_sorted (pa_cons (pe_lock (pe_lc (own := [("one", 5)]) (g := gName 5) rfl sc__law_row.nd (pi_keys (pv 3)) (blkOk_by (N := ["size", "nexts", "house", "marks", "pairs", "one", "row", "pair", "start"]) (sc := defScope s__law_row) (by decide +kernel)) (fun _ _ _ _ _ => (pg_name (i := 5) sc__law_row.nd rfl (Or.inl rfl))) (fun _ _ _ _ _ => pts_nil) (fun _ _ _ _ _ => (pe_tup (pa_cons (pe_dget (hu_of hr) (pv 3) (pv 5) (by intro _ _; rfl)) (pa_cons (pv 5) pa_nil)))))) pa_nil)))
      (pss_cons (ps_setLc (i := 6) (own := [("pair", 7)]) (g := gName 7) rfl sc__law_row.nd rfl rfl (sw_true rfl rfl rfl (by decide +kernel)) (pi_listK (K := K) rfl (pv 4)) (blkOk_by (N := ["size", "nexts", "house", "marks", "pairs", "one", "row", "pair", "start"]) (sc := defScope s__law_row) (by decide +kernel)) (fun _ _ _ _ _ => (pg_name (i := 7) sc__law_row.nd rfl (Or.inl rfl))) (fun _ _ _ _ _ => pts_nil) (fun _ _ _ _ _ => (pe_ix (ix_tupK (K := K) rfl) (pv 7) pe_int (by intro _ _; rfl))))
      (pss_cons (ps_set (i := 8) sc__law_row.nd rfl (Or.inl rfl) (pe_bmK (K := K) rfl PySem.F.plainAttrs_list PySem.F.slot_list_index PySem.F.type_list_index (mt_indexK (K := K) rfl) (pv 6) (pa_cons (pe_callB (cb_minK (K := K) rfl rfl) (by rfl) m_min b_min (pa_cons (pv 6) pa_nil)) pa_nil)))
      (pss_one (ps_ret (pe_op op_cat (pe_slice (sl_listK (K := K) rfl) (pv 6) (po_some (pv 8)) po_none) (pe_slice (sl_listK (K := K) rfl) (pv 6) po_none (po_some (pv 8)))))))))), ?_⟩
    (try simp only [cxK, cxKX, List.map])
    refine ent (σ' := [some _, some _, some _, none, none, none, none, none, none]) rfl ?_
    have hlen := M.hl
    have w0 := M.P.w0 x hx
    have pcl : (pcOf hs nm x).length ≤ hs.length := List.length_filter_le _ _
    k_offL
    refine ⟨size, a, hs, f, nm, W, φ, x, (), rfl, N, M, hx, fun l1 m H1 n1 e1 hr f1 => ?_⟩
    have hk : ((pcOf hs nm x).map fun o => ((Sum.inl o : Key), mkv (W (nm x)) φ m o)).map (·.1) = (pcOf hs nm x).map Sum.inl := by rw [List.map_map]; rfl
    have val : ∀ o, o ∈ pcOf hs nm x → valV ((pcOf hs nm x).map fun o => ((Sum.inl o : Key), mkv (W (nm x)) φ m o)) (.inl o) = some (.int ((m + φ o - φ m) % W (nm x))) := fun o ho => by rw [valV_mapK (mkv (W (nm x)) φ m), if_pos ho]; rfl
    k_offL
    refine x_lockE e1 fun od H3 e3 l3 => ?_
    k_offL
    refine keysk e3 ?_
    refine lcPr (walk_keys (kvs := (pcOf hs nm x).map fun o => ((Sum.inl o : Key), mkv (W (nm x)) φ m o))) (pcOf hs nm x) (by rw [List.length_map]) (fun i H0 x H' _ y => yKey hk y) (fun o => ((m + φ o - φ m) % W (nm x), o)) (fun H' f => f.fz _ _ _ e3) (by omega) (fun o H' ho f => ?_) fun l4 H4 ys n4 e4 pr f4 => ?_
    · refine sk5 ⟨fun R kR => ?_, fun H5 f5 R kR => ?_⟩
      · k_offL
        exact kR _ (Fr.refl _ _)
      · have e5 := (f.trans f5).fz _ _ _ e3
        k_offL
        refine dgetk (.inr ⟨od, e5⟩) (val o ho) ?_
        k_offL
        refine tupk (by show 2 ≤ 100000; decide) fun t H6 n6 e6 f6 => ?_
        exact kR t H6 e6 f6
    refine unlk e1 e3 l3 f4 fun H5 f5 keep => ?_
    have e43 := f4.fz _ _ _ e3
    have pr5 : PrIs H5 _ ys := pr.mono fun t xs h => keep t _ (by intro z; subst z; rw [h] at e43; cases e43) h
    have e5 := keep l4 _ (by intro z; subst z; rw [e4] at e43; cases e43) e4
    k_offL
    refine r_sortPr (sqL_of e5) pr5 fun qs zs l6 H6 pm up prq n6 e6 f6 => ?_
    have lq : qs.length = (pcOf hs nm x).length := by rw [pm.length_eq, List.length_map]
    k_offL
    refine walkL (sqL_of e6) ?_
    refine lcV (walk_list (xs := zs)) zs rfl (fun i H0 x H' _ y => yAt y) (fun _ => true) (fun v => .int (pairAt H6 v).2) (fun H' f => f.sqL (sqL_of e6) List.not_mem_nil) (by rw [prq.len, lq]; omega) (fun v H' hv f => ?_) fun l7 H7 n7 e7 f7 => ?_
    · obtain ⟨t, rfl, ht⟩ := prq.all v hv
      refine sk7 ⟨fun R kR => ?_, fun _ H8 f8 R kR => ?_⟩
      · k_offL
        exact kR _ (Fr.refl _ _)
      · k_offL
        refine r_ixT (sqT_of ((f.trans f8).tp _ _ ht)) (v := .int (pairAt H6 (.ref t)).2) rfl ?_
        exact kR _ (Fr.refl _ _)
    rw [List.filter_eq_self.mpr fun _ _ => rfl] at e7
    have e7' : H7 l7 = some (.lst ((qs.map (·.2)).map V.int)) := by rw [e7, ← prq.pairs, List.map_map, List.map_map]; rfl
    have pm2 : (qs.map (·.2)).Perm (pcOf hs nm x) := by
      have := pm.map (·.2)
      rw [List.map_map] at this
      rw [show ((pcOf hs nm x).map ((·.2) ∘ fun o => ((m + φ o - φ m) % W (nm x), o))) = pcOf hs nm x by simp [Function.comp_def]] at this
      exact this
    have up2 : (qs.map (·.2)).Pairwise fun x' y' => (m + φ x' - φ m) % W (nm x) < (m + φ y' - φ m) % W (nm x) ∨ ((m + φ x' - φ m) % W (nm x) = (m + φ y' - φ m) % W (nm x) ∧ x' ≤ y') := by
      refine List.pairwise_map.mpr (List.Pairwise.imp_of_mem (fun {u v} hu hv h => ?_) up)
      obtain ⟨o, _, rfl⟩ := List.mem_map.mp (pm.mem_iff.mp hu)
      obtain ⟨o', _, rfl⟩ := List.mem_map.mp (pm.mem_iff.mp hv)
      exact h
    obtain ⟨g1, g2, g3⟩ := M.P.rowp (c := m - φ m) M.on hx M.nd pm2 (fun o _ _ => by rw [show φ o + (m - φ m) = m + φ o - φ m by omega]) up2
    have cy := M.P.cyc hx g2 g3
    revert e7' g1 g2 cy
    generalize qs.map (·.2) = row
    intro e7' g1 g2 cy
    have xin := (g2 x).mpr ⟨hx, rfl⟩
    have rp : 0 < row.length := List.length_pos_of_mem xin
    have rl : row.length ≤ hs.length := nodup_sub_len g1 fun y hy => ((g2 y).mp hy).1
    k_offL
    refine r_min (sqL_of e7') rp fun r h1 h2 => ?_
    obtain ⟨j, hj⟩ := List.mem_iff_getElem?.mp h1
    have jl : j < row.length := (List.getElem?_eq_some_iff.mp hj).1
    k_offL
    refine r_indexN (sqL_of e7') g1 hj ?_
    k_offL
    refine r_slL (sqL_of e7') fun l8 H8 n8 e8 f8 => ?_
    rw [cut_from, ← List.map_drop] at e8
    k_offL
    refine r_slL (f8.sqL (sqL_of e7') List.not_mem_nil) fun l9 H9 n9 e9 f9 => ?_
    rw [cut_to, ← List.map_take] at e9
    k_offL
    refine r_cat (f9.at_ _ _ e8 List.not_mem_nil) e9 (by rw [List.length_map, List.length_map, List.length_drop, List.length_take]; omega) fun l10 H10 n10 e10 f10 => ?_
    rw [← List.map_append] at e10
    have fr : Fr [] H H9 := ((f1.trans (f5.trans f6)).trans f7).trans (f8.trans f9)
    refine k l10 _ H10 (fr.free n10) e10 ?_ (fun y => ?_) (cy.rot jl) (fr.trans f10)
    · have pm3 : (row.drop j ++ row.take j).Perm row := (List.perm_append_comm).trans (by rw [List.take_append_drop])
      exact pm3.nodup_iff.mpr g1
    · have pm3 : (row.drop j ++ row.take j).Perm row := (List.perm_append_comm).trans (by rw [List.take_append_drop])
      rw [pm3.mem_iff]; exact g2 y
end
def spLawEnds : Sp := fun vs H Q _ => ∃ (size : Int) (a : Addr) (hs : List Int) (f nm W φ : Int → Int) (_ : Unit), vs = [.int size, .ref a] ∧ NxAt H a hs f ∧ Mk size hs f nm W φ ∧
  ∀ (l : Addr) (e : Int → Int) (H' : Hp), H l = none → H' l = some (.dK (hs.map fun h => (Sum.inl h, V.int (e h)))) → (∀ h ∈ hs, IsEnd hs nm W φ h (e h)) → Fr [] H H' → Q (.ref l) H'
section
variable {P : Program} {w : World} {K : PySem.W.Frag} {mg : Str → Option Value} {base : Heap} {CNet CMender CDesk CStore CWalk : Addr}
abbrev s__law_ends : Stmt := top 67
theorem sc__law_ends : FnScope ["size", "nexts", "due", "house", "row", "k"] ["size", "nexts"] (defScope s__law_ends) := ⟨rfl, rfl, rfl, by decide +kernel, rfl, by decide +kernel, by decide +kernel⟩
theorem ok__law_ends {f : Addr} {fd : FuncData} (F : Fun K "_law_ends" "_law_ends" s__law_ends f fd) (m_sorted : mg "sorted" = none) (G__law_row : GF P w K mg base "_law_row" 5 ["size", "nexts", "house"] spLawRow) (m_range : mg "range" = none) (m_len : mg "len" = none) (m_int : mg "int" = none) (G__law_ordered : GF P w K mg base "_law_ordered" 1 ["table"] spLawOrdered) : FnOk P w K mg base CX0 6 f fd ["size", "nexts"] spLawEnds := by
  refine F.ok sc__law_ends (fun vs H Q E h => ?_) (fun cdv A outer s H vs Q E hr h => ?_)
  · obtain ⟨_, _, _, _, _, _, _, _, rfl, _⟩ := h; rfl
  · obtain ⟨size, a, hs, f, nm, W, φ, _, rfl, N, M, k⟩ := h
    refine ⟨_, (pss_cons (ps_set (i := 2) sc__law_ends.nd rfl (Or.inl rfl) pe_dnewK)
      (pss_cons (ps_for PassesOwn.never rfl (pi_listK (K := K) rfl (pe_callB (cb_sortD rfl) (by rfl) m_sorted b_sorted (pa_cons (pv 1) pa_nil))) (pg_name (i := 3) sc__law_ends.nd rfl (Or.inl rfl))
      (pss_one (ps_if (pt_cmp (pc_dnotin (hu_of hr) (pv 3) (pv 2))) (pss_cons (ps_set (i := 4) sc__law_ends.nd rfl (Or.inl rfl) (c_fn G__law_row (hr.mono (by decide)) (pa_cons (pv 0) (pa_cons (pv 1) (pa_cons (pv 3) pa_nil)))))
      (pss_one (ps_for PassesOwn.never rfl (pi_range1 (by rfl) m_range (pa_cons (pe_callB (cb_lenSK (K := K) rfl) (by rfl) m_len b_len (pa_cons (pv 4) pa_nil)) pa_nil)) (pg_name (i := 5) sc__law_ends.nd rfl (Or.inl rfl))
      (pss_one (ps_dput (hu_of hr) (pv 2) (pe_ix (ix_listK (K := K) rfl) (pv 4) (pv 5) (by intro _ _; rfl)) (pe_ix (ix_listK (K := K) rfl) (pv 4) (pe_op op_mod (pe_callTy cb_int (by rfl) m_int b_int (pa_cons (pe_op op_add (pv 5) pe_int) pa_nil)) (pe_callB (cb_lenSK (K := K) rfl) (by rfl) m_len b_len (pa_cons (pv 4) pa_nil))) (by intro _ _; rfl)) rfl))))) pss_nil)))
      (pss_one (ps_ret (c_fn G__law_ordered (hr.mono (by decide)) (pa_cons (pv 2) pa_nil)))))), ?_⟩
    (try simp only [cxK, cxKX, List.map])
    refine ent (σ' := [some _, some _, none, none, none, none]) rfl ?_
    have hlen := M.hl
    obtain ⟨kn, rd, dk, hkl⟩ := N.ex
    k_offL
    refine newk fun dl H1 n1 e1 f1 => ?_
    have ad : a ≠ dl := N.off n1
    have N1 := N.ex0 f1
    k_offL
    refine r_sortD (f1.rd rd List.not_mem_nil) dk ⟨M.up, fun n => mfOf_some⟩ (by omega) fun l2 H2 n2 e2 f2 => ?_
    have e12 := f2.at_ _ _ e1 List.not_mem_nil
    have d2 : dl ≠ l2 := ne_of_none e1 n2
    have N2 := N1.ex0 f2
    refine loopLF (M := [dl]) (hs.map V.int) (sqL_of e2) (mem_one d2.symm) (fun i σ' H' => ∃ (v3 v4 v5 : Option V) (kvs : List (Key × V)) (D : List Int) (e : Int → Int), σ' = [some (.int size), some (.ref a), some (.ref dl), v3, v4, v5] ∧ H' dl = some (.dK kvs) ∧ EnOf hs nm W φ kvs D e ∧ (∀ h ∈ hs.take i, h ∈ D) ∧ Fr [dl] H2 H')
      ⟨_, _, _, [], [], fun _ => 0, rfl, e12, ⟨DOk.nil.cong fun n => rfl, fun _ h => nomatch h⟩, (fun h m => by rw [List.take_zero] at m; cases m), Fr.refl _ _⟩ (fun i σ' H' ⟨_, _, _, _, _, _, _, _, _, _, f⟩ => f) ?_ ?_
    · rintro i y σ' H3 hi ⟨v3, v4, v5, kvs, D, e, rfl, e3, E, hD, f3⟩
      obtain ⟨x, hx, hm, rfl⟩ := mem_ints hi
      have hsn := take_snoc hx
      have N3 := N2.fr f3 (mem_one ad)
      k_offL
      refine dink (.inl e3) ?_
      rw [E.1.val]
      by_cases mD : x ∈ D
      · rw [mfOf_at mD]
        refine blk (ifE (show (!(some (V.int (e x))).isSome) = false from rfl) (ifF ?_))
        k_offL
        refine ⟨_, _, _, kvs, D, e, rfl, e3, E, fun o ho => ?_, f3⟩
        rw [hsn] at ho
        rcases List.mem_append.mp ho with z | z
        · exact hD o z
        · rw [List.mem_singleton.mp z]; exact mD
      · rw [show mfOf D e x = none from if_neg mD]
        refine blk (ifE (show (!(none : Option V).isSome) = true from rfl) (ifT ?_))
        k_offL
        refine ⟨size, a, hs, f, nm, W, φ, x, (), rfl, N3, M, hm, fun l5 row H5 n5 e5 nd5 mem5 cy f5 => ?_⟩
        have e35 := f5.at_ _ _ e3 List.not_mem_nil
        have d5 : dl ≠ l5 := ne_of_none e3 n5
        have xin := (mem5 x).mpr ⟨hm, rfl⟩
        have rp : 0 < row.length := List.length_pos_of_mem xin
        have rl : row.length ≤ hs.length := nodup_sub_len nd5 fun y hy => ((mem5 y).mp hy).1
        k_offL
        refine r_lenL (sqL_of e5) ?_
        rw [List.length_map]
        k_offL
        refine loopR1 _ (by omega) (by omega) (fun q σ' H' => ∃ (v5 : Option V) (kvs : List (Key × V)) (e : Int → Int), σ' = [some (.int size), some (.ref a), some (.ref dl), some (.int x), some (.ref l5), v5] ∧ H' dl = some (.dK kvs) ∧ EnOf hs nm W φ kvs (D ++ row.take q) e ∧ Fr [dl] H5 H')
          ⟨_, kvs, e, rfl, e35, by rw [List.take_zero, List.append_nil]; exact E, Fr.refl _ _⟩ ?_ ?_
        · rintro q σ' H6 hq ⟨v5, kvs6, e6, rfl, e6', E6, f6⟩
          have ql : q < row.length := by omega
          have e56 := f6.at_ _ _ e5 (mem_one d5.symm)
          obtain ⟨h1, hh1⟩ : ∃ y, row[q]? = some y := ⟨_, List.getElem?_eq_getElem ql⟩
          obtain ⟨h2, hh2⟩ : ∃ y, row[(q + 1) % row.length]? = some y := ⟨_, List.getElem?_eq_getElem (Nat.mod_lt _ rp)⟩
          have ie := cy q h1 h2 hh1 hh2
          have xin1 := ((mem5 h1).mp (List.mem_of_getElem? hh1)).1
          k_offL
          refine r_lenL (sqL_of e56) ?_
          rw [List.length_map]
          k_offL
          refine r_ixL (sqL_of e56) (ix_at ((q + 1) % row.length) (by rw [Int.natCast_emod]; rfl) (by rw [List.getElem?_map, hh2]; rfl)) ?_
          k_offL
          refine r_ixL (sqL_of e56) (ix_at q rfl (by rw [List.getElem?_map, hh1]; rfl)) ?_
          k_offL
          refine dputk e6' (by have := E6.le; omega) fun H7 e7 f7 => ?_
          have E7 := E6.put (h := h1) (r := h2) xin1 ie
          rw [List.append_assoc, ← take_snoc hh1] at E7
          exact ⟨_, _, _, rfl, e7, E7, f6.trans f7⟩
        · rintro σ' H6 ⟨v5, kvs6, e6, rfl, e6', E6, f6⟩
          rw [show ((row.length : Int)).toNat = row.length by omega, List.take_length] at E6
          refine ⟨_, _, _, kvs6, _, e6, rfl, e6', E6, fun o ho => ?_, f3.trans (f5.up.trans f6)⟩
          rw [hsn] at ho
          rcases List.mem_append.mp ho with z | z
          · exact List.mem_append_left _ (hD o z)
          · rw [List.mem_singleton.mp z]; exact List.mem_append_right _ xin
    · rintro σ' H3 ⟨v3, v4, v5, kvs, D, e, rfl, e3, E, hD, f3⟩
      rw [List.length_map, List.take_length] at hD
      have dk3 : DOk kvs (mfOf hs e) := E.1.cong fun n => by
        unfold mfOf
        by_cases m : n ∈ hs
        · rw [if_pos m, if_pos (hD n m)]
        · rw [if_neg m, if_neg fun z => m (E.2 n z).1]
      have fr : Fr [] H H3 := (Fr.refl [] H).drop (f1.up.trans (f2.up.trans f3)) n1
      k_offL
      exact ⟨dl, hs, e, kvs, rfl, e3, dk3, M.up, by omega, fun l H4 n4 e4 f4 => k l e H4 (fr.free n4) e4 (fun h hh => (E.2 h (hD h hh)).2) (fr.trans f4)⟩
end
end RL
set_option synthInstance.maxHeartbeats 4000000
set_option synthInstance.maxSize 4000
namespace RL
def FaithF (size : Int) (f : Int → Int) (q : Int × Int) : Prop := btw size q.1 q.2 (f q.1) = true ∧ Tr size f q.2 (f q.1) (far size q.2 (f q.1))
theorem faith_iff {N : NS} {q : Int × Int} : Faith N q ↔ FaithF N.size N.f q := Iff.rfl
def roomOf (size : Int) (hs : List Int) (nm W φ f : Int → Int) (h : Int) : Nat := (((pcOf hs nm h).filter fun o => decide (o ≠ h)).filter fun o => decide ((φ o - φ h) % W (nm h) < far size h (f h))).length
def roomsOf (size : Int) (hs : List Int) (nm W φ f : Int → Int) : Nat := (hs.map (roomOf size hs nm W φ f)).sum
def spLawRooms : Sp := fun vs H Q _ => ∃ (size : Int) (a : Addr) (hs : List Int) (f nm W φ : Int → Int) (_ : Unit), vs = [.int size, .ref a] ∧ NxAt H a hs f ∧ Mk size hs f nm W φ ∧ ∀ H', Fr [] H H' → Q (.int (roomsOf size hs nm W φ f : Nat)) H'
theorem roomOf_le {size : Int} {hs : List Int} {nm W φ f : Int → Int} {h : Int} : roomOf size hs nm W φ f h ≤ hs.length := by
  unfold roomOf pcOf
  exact Nat.le_trans (List.length_filter_le _ _) (Nat.le_trans (List.length_filter_le _ _) (List.length_filter_le _ _))
theorem rooms_snoc {size : Int} {hs T : List Int} {nm W φ f : Int → Int} {h : Int} : ((T ++ [h]).map (roomOf size hs nm W φ f)).sum = (T.map (roomOf size hs nm W φ f)).sum + roomOf size hs nm W φ f h := by
  rw [List.map_append, List.sum_append]; simp
section
variable {P : Program} {w : World} {K : PySem.W.Frag} {mg : Str → Option Value} {base : Heap} {CNet CMender CDesk CStore CWalk : Addr}
abbrev s__law_all_rooms : Stmt := top 68
theorem sc__law_all_rooms : FnScope ["size", "nexts", "total", "house", "marks", "whole", "gaps", "other", "gap"] ["size", "nexts"] (defScope s__law_all_rooms) := ⟨rfl, rfl, rfl, by decide +kernel, rfl, by decide +kernel, by decide +kernel⟩
theorem ok__law_all_rooms {f : Addr} {fd : FuncData} (F : Fun K "_law_all_rooms" "_law_all_rooms" s__law_all_rooms f fd) (m_sorted : mg "sorted" = none) (G__law_marks : GF P w K mg base "_law_marks" 4 ["size", "nexts", "house"] spLawMarks) (G__law_turns : GF P w K mg base "_law_turns" 2 ["size", "nexts", "house"] spTurns) (m_int : mg "int" = none) (m_len : mg "len" = none) (G__law_far : GF P w K mg base "_law_far" 1 ["size", "start", "end"] spFar) : FnOk P w K mg base CX0 5 f fd ["size", "nexts"] spLawRooms := by
  refine F.ok sc__law_all_rooms (fun vs H Q E h => ?_) (fun cdv A outer s H vs Q E hr h => ?_)
  · obtain ⟨_, _, _, _, _, _, _, _, rfl, _⟩ := h; rfl
  · obtain ⟨size, a, hs, f, nm, W, φ, _, rfl, N, M, k⟩ := h
    refine ⟨_, (pss_cons (ps_set (i := 2) sc__law_all_rooms.nd rfl (Or.inl rfl) pe_int)
      (pss_cons (ps_for PassesOwn.never rfl (pi_listK (K := K) rfl (pe_callB (cb_sortD rfl) (by rfl) m_sorted b_sorted (pa_cons (pv 1) pa_nil))) (pg_name (i := 3) sc__law_all_rooms.nd rfl (Or.inr rfl))
      (pss_cons (ps_set (i := 4) sc__law_all_rooms.nd rfl (Or.inr rfl) (c_fn G__law_marks (hr.mono (by decide)) (pa_cons (pv 0) (pa_cons (pv 1) (pa_cons (pv 3) pa_nil)))))
      (pss_cons (ps_set (i := 5) sc__law_all_rooms.nd rfl (Or.inr rfl) (pe_op op_mul (pv 0) (c_fn G__law_turns (hr.mono (by decide)) (pa_cons (pv 0) (pa_cons (pv 1) (pa_cons (pv 3) pa_nil))))))
      (pss_cons (ps_lock (ps_setLc (i := 6) (own := [("other", 7)]) (g := gName 7) rfl sc__law_all_rooms.nd rfl rfl (sw_true rfl rfl rfl (by decide +kernel)) (pi_keys (pv 4)) (blkOk_by (N := ["size", "nexts", "total", "house", "marks", "whole", "gaps", "other", "gap"]) (sc := defScope s__law_all_rooms) (by decide +kernel)) (fun _ _ _ _ _ => (pg_name (i := 7) sc__law_all_rooms.nd rfl (Or.inl rfl))) (fun _ _ _ _ _ => pts_one (pt_cmpR op_ne (pv 7) (pv 3) (nomark _))) (fun _ _ _ _ _ => (pe_op op_mod (pe_callTy cb_int (by rfl) m_int b_int (pa_cons (pe_op op_sub (pe_dget (hu_of hr) (pv 4) (pv 7) (by intro _ _; rfl)) (pe_dget (hu_of hr) (pv 4) (pv 3) (by intro _ _; rfl))) pa_nil)) (pv 5)))))
      (pss_one (ps_set (i := 2) sc__law_all_rooms.nd rfl (Or.inl rfl) (pe_op op_add (pv 2) (pe_callB (cb_lenSK (K := K) rfl) (by rfl) m_len b_len (pa_cons (pe_lc (own := [("gap", 8)]) (g := gName 8) rfl sc__law_all_rooms.nd (pi_listK (K := K) rfl (pv 6)) (blkOk_by (N := ["size", "nexts", "total", "house", "marks", "whole", "gaps", "other", "gap"]) (sc := defScope s__law_all_rooms) (by decide +kernel)) (fun _ _ _ _ _ => (pg_name (i := 8) sc__law_all_rooms.nd rfl (Or.inl rfl))) (fun _ _ _ _ _ => pts_one (pt_cmpR op_lt (pv 8) (c_fn G__law_far (hr.mono (by decide)) (pa_cons (pv 0) (pa_cons (pv 3) (pa_cons (pe_dget (hu_of hr) (pv 1) (pv 3) (by intro _ _; rfl)) pa_nil)))) (nomark _))) (fun _ _ _ _ _ => (pv 8))) pa_nil)))))))))
      (pss_one (ps_ret (pv 2))))), ?_⟩
    (try simp only [cxK, cxKX, List.map])
    refine ent (σ' := [some _, some _, none, none, none, none, none, none, none]) rfl ?_
    have hlen := M.hl
    have h0 := M.s0
    have h1 := M.s1
    obtain ⟨kn, rd, dk, hkl⟩ := N.ex
    k_offL
    refine r_sortD rd dk ⟨M.up, fun n => mfOf_some⟩ (by omega) fun l2 H2 n2 e2 f2 => ?_
    have N2 := N.ex0 f2
    refine loopLF (M := []) (hs.map V.int) (sqL_of e2) List.not_mem_nil (fun i σ' H' => ∃ (v3 v4 v5 v6 : Option V) (T : Nat), σ' = [some (.int size), some (.ref a), some (.int (T : Int)), v3, v4, v5, v6, none, none] ∧ T = ((hs.take i).map (roomOf size hs nm W φ f)).sum ∧ T ≤ 45 * i ∧ Fr [] H2 H')
      ⟨_, _, _, _, 0, rfl, rfl, by omega, Fr.refl _ _⟩ (fun i σ' H' ⟨_, _, _, _, _, _, _, _, f⟩ => f) ?_ ?_
    · rintro i y σ' H3 hi ⟨v3, v4, v5, v6, T, rfl, hT, hT2, f3⟩
      obtain ⟨x, hx, hm, rfl⟩ := mem_ints hi
      have il : i < hs.length := (List.getElem?_eq_some_iff.mp hx).1
      have w0 := M.P.w0 x hm
      have N3 := N2.ex0 f3
      have pcl : (pcOf hs nm x).length ≤ hs.length := List.length_filter_le _ _
      k_offL
      refine ⟨size, a, hs, f, nm, W, φ, x, (), rfl, N3, M, hm, fun l4 r H4 n4 e4 hr f4 => ?_⟩
      have N4 := N3.ex0 f4
      k_offL
      refine ⟨size, a, hs, f, x, (), rfl, N4, hm, by omega, h0, h1, fun m H5 per hm5 f5 => ?_⟩
      have whole := M.P.whole M.cl hm per rfl
      rw [Int.mul_comm] at whole
      have N5 := N4.ex0 f5
      have e45 := f5.at_ _ _ e4 List.not_mem_nil
      k_offL
      rw [whole]
      have hk : ((pcOf hs nm x).map fun o => ((Sum.inl o : Key), mkv (W (nm x)) φ r o)).map (·.1) = (pcOf hs nm x).map Sum.inl := by rw [List.map_map]; rfl
      have val : ∀ o, o ∈ pcOf hs nm x → valV ((pcOf hs nm x).map fun o => ((Sum.inl o : Key), mkv (W (nm x)) φ r o)) (.inl o) = some (.int ((r + φ o - φ r) % W (nm x))) := fun o ho => by rw [valV_mapK (mkv (W (nm x)) φ r), if_pos ho]; rfl
      k_offL
      refine x_lockE e45 fun od H6 e6 l6 => ?_
      k_offL
      refine keysk e6 ?_
      refine lcV (walk_keys (kvs := (pcOf hs nm x).map fun o => ((Sum.inl o : Key), mkv (W (nm x)) φ r o))) ((pcOf hs nm x).map V.int) (by rw [List.length_map, List.length_map]) (fun i H0 x H' hi y => (by
        obtain ⟨⟨k, hk, e⟩, f⟩ := yKey hk y
        exact ⟨by rw [List.getElem?_map, hk, e]; rfl, f⟩)) (intP fun o => decide (o ≠ x)) (fun v => match v with | .int o => .int ((φ o - φ x) % W (nm x)) | v => v) (fun H' f => f.fz _ _ _ e6) (by rw [List.length_map]; omega) (fun o H' hm' f' => ?_) fun l7 H7 n7 e7 f7 => ?_
      · obtain ⟨o, ho, rfl⟩ := mem_intsM hm'
        refine sk7 ⟨fun R kR => ?_, fun _ H8 f8 R kR => ?_⟩
        · k_offL
          have q := kR _ (Fr.refl _ _)
          have e : (intP fun o => decide (o ≠ x)) (.int o) = !decide (o = x) := by
            show decide (o ≠ x) = _
            by_cases e : o = x <;> simp [e]
          rw [e] at q
          exact q
        · have e8 := (f'.trans f8).fz _ _ _ e6
          k_offL
          refine dgetk (.inr ⟨od, e8⟩) (val o ho) ?_
          k_offL
          refine dgetk (.inr ⟨od, e8⟩) (val x (pc_self hm)) ?_
          k_offL
          have q := kR _ (Fr.refl _ _)
          have e : (φ o - φ x) % W (nm x) = ((r + φ o - φ r) % W (nm x) - (r + φ x - φ r) % W (nm x)) % W (nm x) := by
            refine emod_eq ?_
            have d1 := emod_dvd (z := W (nm x)) (X := r + φ o - φ r)
            have d2 := emod_dvd (z := W (nm x)) (X := r + φ x - φ r)
            have := Int.dvd_sub d1 d2
            rw [show r + φ o - φ r - (r + φ o - φ r) % W (nm x) - (r + φ x - φ r - (r + φ x - φ r) % W (nm x)) = φ o - φ x - ((r + φ o - φ r) % W (nm x) - (r + φ x - φ r) % W (nm x)) by omega] at this
            exact this
          rw [← e]
          exact q
      rw [filter_intP, List.map_map] at e7
      have e76 := f7.fz _ _ _ e6
      refine unlk e45 e6 l6 f7 fun H8 f8 keep => ?_
      have e8 := keep l7 _ (by intro z; subst z; rw [e7] at e76; cases e76) e7
      have e8' : H8 l7 = some (.lst ((((pcOf hs nm x).filter fun o => decide (o ≠ x)).map fun o => (φ o - φ x) % W (nm x)).map V.int)) := by rw [e8, List.map_map]; rfl
      have N8 := N5.ex0 f8
      k_offL
      refine walkL (sqL_of e8') ?_
      refine lcV (walk_list (xs := (((pcOf hs nm x).filter fun o => decide (o ≠ x)).map fun o => (φ o - φ x) % W (nm x)).map V.int)) _ rfl (fun i H0 x H' _ y => yAt y) (intP fun g => decide (g < far size x (f x))) (fun v => v) (fun H' f => f.sqL (sqL_of e8') List.not_mem_nil) (by rw [List.length_map, List.length_map]; exact Nat.le_trans (List.length_filter_le _ _) (by omega)) (fun o H' hm' f' => ?_) fun l9 H9 n9 e9 f9 => ?_
      · obtain ⟨g, hg, rfl⟩ := mem_intsM hm'
        refine sk8 ⟨fun R kR => ?_, fun _ H10 f10 R kR => ?_⟩
        · k_offL
          refine (N8.ex0 f').get hm ?_
          k_offL
          refine i_far h0 ?_
          k_offL
          exact kR _ (Fr.refl _ _)
        · k_offL
          exact kR _ (Fr.refl _ _)
      rw [filter_intP, show (fun v : V => v) = id from rfl, List.map_id] at e9
      have el : ((((pcOf hs nm x).filter fun o => decide (o ≠ x)).map fun o => (φ o - φ x) % W (nm x)).filter fun g => decide (g < far size x (f x))).length = roomOf size hs nm W φ f x := by
        unfold roomOf
        rw [List.filter_map, List.length_map]; rfl
      have rle := roomOf_le (size := size) (hs := hs) (nm := nm) (W := W) (φ := φ) (f := f) (h := x)
      k_offL
      refine r_lenL (sqL_of e9) ?_
      rw [List.length_map, el]
      k_offL
      refine ⟨_, _, _, _, T + roomOf size hs nm W φ f x, by rw [Int.natCast_add], by rw [take_snoc hx, rooms_snoc, hT], by omega, (((f3.trans f4).trans f5).trans f8).trans f9⟩
    · rintro σ' H3 ⟨v3, v4, v5, v6, T, rfl, hT, hT2, f3⟩
      rw [List.length_map, List.take_length] at hT
      subst hT
      k_offL
      exact k H3 (f2.trans f3)
end
def spLawIsF : Sp := fun vs H Q _ => ∃ (size : Int) (a : Addr) (hs : List Int) (f : Int → Int) (u x : Int) (_ : Unit), vs = [.int size, .ref a, .int u, .int x] ∧ NxAt H a hs f ∧ hs.length ≤ 45 ∧ 0 < size ∧ size < 2 ^ 40 ∧ u ∈ hs ∧ x ∈ hs ∧ ∀ b H', (b = true ↔ FaithF size f (u, x)) → Fr [] H H' → Q (.bl b) H'
section
variable {P : Program} {w : World} {K : PySem.W.Frag} {mg : Str → Option Value} {base : Heap} {CNet CMender CDesk CStore CWalk : Addr}
abbrev s__law_is_faithful : Stmt := top 69
theorem sc__law_is_faithful : FnScope ["size", "nexts", "house", "target"] ["size", "nexts", "house", "target"] (defScope s__law_is_faithful) := ⟨rfl, rfl, rfl, by decide +kernel, rfl, by decide +kernel, by decide +kernel⟩
theorem ok__law_is_faithful {f : Addr} {fd : FuncData} (F : Fun K "_law_is_faithful" "_law_is_faithful" s__law_is_faithful f fd) (G__law_between : GF P w K mg base "_law_between" 2 ["size", "start", "place", "end"] spBetween) (G__law_holds : GF P w K mg base "_law_holds" 2 ["size", "nexts", "saying"] spLawHolds) (G__law_far : GF P w K mg base "_law_far" 1 ["size", "start", "end"] spFar) : FnOk P w K mg base CX0 3 f fd ["size", "nexts", "house", "target"] spLawIsF := by
  refine F.ok sc__law_is_faithful (fun vs H Q E h => ?_) (fun cdv A outer s H vs Q E hr h => ?_)
  · obtain ⟨_, _, _, _, _, _, _, rfl, _⟩ := h; rfl
  · obtain ⟨size, a, hs, f, u, x, _, rfl, N, hlen, h0, h1, hu, hx, k⟩ := h
    refine ⟨_, (pss_cons (ps_if (pt_not (pt_val (c_fn G__law_between (hr.mono (by decide)) (pa_cons (pv 0) (pa_cons (pv 2) (pa_cons (pv 3) (pa_cons (pe_dget (hu_of hr) (pv 1) (pv 2) (by intro _ _; rfl)) pa_nil))))))) (pss_one (ps_ret pe_bl)) pss_nil)
      (pss_one (ps_ret (c_fn G__law_holds (hr.mono (by decide)) (pa_cons (pv 0) (pa_cons (pv 1) (pa_cons (pe_tup (pa_cons (pv 3) (pa_cons (pe_dget (hu_of hr) (pv 1) (pv 2) (by intro _ _; rfl)) (pa_cons (c_fn G__law_far (hr.mono (by decide)) (pa_cons (pv 0) (pa_cons (pv 3) (pa_cons (pe_dget (hu_of hr) (pv 1) (pv 2) (by intro _ _; rfl)) pa_nil)))) pa_nil)))) pa_nil))))))), ?_⟩
    (try simp only [cxK, cxKX, List.map])
    refine ent (σ' := [some _, some _, some _, some _]) rfl ?_
    k_offL
    refine N.get hu ?_
    k_offL
    refine i_between h0 ?_
    k_offL
    cases hb : btw size u x (f u) with
    | false =>
      k_offL
      exact k _ H ⟨fun z => (nomatch z), fun z => absurd (hb.symm.trans z.1) (by decide)⟩ (Fr.refl _ _)
    | true =>
      k_offL
      refine N.get hu ?_
      k_offL
      refine N.get hu ?_
      k_offL
      refine i_far h0 ?_
      k_offL
      refine tupk (by show 3 ≤ 100000; decide) fun t H1 n1 e1 f1 => ?_
      have fp := far_pos (s := x) (e := f u) h0
      k_offL
      exact ⟨size, a, t, hs, f, x, f u, far size x (f u), rfl, N.ex0 f1, e1, hx, by omega, h0, h1, fp.1, by omega, fun b H2 hb' f2 => k b H2 (hb'.trans ⟨fun z => ⟨hb, z⟩, fun z => z.2⟩) (f1.trans f2)⟩
end
def spLawFaithful : Sp := fun vs H Q _ => ∃ (size : Int) (a : Addr) (hs : List Int) (f : Int → Int) (_ : Unit), vs = [.int size, .ref a] ∧ NxAt H a hs f ∧ hs.Pairwise (· < ·) ∧ hs.length ≤ 45 ∧ 0 < size ∧ size < 2 ^ 40 ∧
  ∀ (l : Addr) (ps : List (Int × Int)) (lv : List V) (H' : Hp), H l = none → H' l = some (.lst lv) → PrIs H' ps lv → (∀ q, q ∈ ps ↔ q.1 ∈ hs ∧ q.2 ∈ hs ∧ FaithF size f q) → ps.length ≤ 3000 → Fr [] H H' → Q (.ref l) H'
section
variable {P : Program} {w : World} {K : PySem.W.Frag} {mg : Str → Option Value} {base : Heap} {CNet CMender CDesk CStore CWalk : Addr}
abbrev s__law_faithful : Stmt := top 70
theorem sc__law_faithful : FnScope ["size", "nexts", "pairs", "house", "target"] ["size", "nexts"] (defScope s__law_faithful) := ⟨rfl, rfl, rfl, by decide +kernel, rfl, by decide +kernel, by decide +kernel⟩
theorem ok__law_faithful {f : Addr} {fd : FuncData} (F : Fun K "_law_faithful" "_law_faithful" s__law_faithful f fd) (m_sorted : mg "sorted" = none) (G__law_is_faithful : GF P w K mg base "_law_is_faithful" 3 ["size", "nexts", "house", "target"] spLawIsF) : FnOk P w K mg base CX0 4 f fd ["size", "nexts"] spLawFaithful := by
  refine F.ok sc__law_faithful (fun vs H Q E h => ?_) (fun cdv A outer s H vs Q E hr h => ?_)
  · obtain ⟨_, _, _, _, _, rfl, _⟩ := h; rfl
  · obtain ⟨size, a, hs, f, _, rfl, N, up, hlen, h0, h1, k⟩ := h
    refine ⟨_, (pss_cons (ps_set (i := 2) sc__law_faithful.nd rfl (Or.inl rfl) (pe_lst pa_nil))
      (pss_cons (ps_for PassesOwn.never rfl (pi_listK (K := K) rfl (pe_callB (cb_sortD rfl) (by rfl) m_sorted b_sorted (pa_cons (pv 1) pa_nil))) (pg_name (i := 3) sc__law_faithful.nd rfl (Or.inl rfl))
      (pss_one (ps_for PassesOwn.never rfl (pi_listK (K := K) rfl (pe_callB (cb_sortD rfl) (by rfl) m_sorted b_sorted (pa_cons (pv 1) pa_nil))) (pg_name (i := 4) sc__law_faithful.nd rfl (Or.inl rfl))
      (pss_one (ps_if (pt_val (c_fn G__law_is_faithful (hr.mono (by decide)) (pa_cons (pv 0) (pa_cons (pv 1) (pa_cons (pv 3) (pa_cons (pv 4) pa_nil)))))) (pss_one (ps_expr (pe_bmK (K := K) rfl PySem.F.plainAttrs_list PySem.F.slot_list_append PySem.F.type_list_append mt_append (pv 2) (pa_cons (pe_tup (pa_cons (pv 3) (pa_cons (pv 4) pa_nil))) pa_nil)))) pss_nil)))))
      (pss_one (ps_ret (pv 2))))), ?_⟩
    (try simp only [cxK, cxKX, List.map])
    refine ent (σ' := [some _, some _, none, none, none]) rfl ?_
    obtain ⟨kn, rd, dk, hkl⟩ := N.ex
    k_offL
    refine lstk (by show 0 ≤ 100000; decide) fun pl H1 n1 e1 f1 => ?_
    have N1 := N.ex0 f1
    have ap : a ≠ pl := N.off n1
    k_offL
    refine r_sortD (f1.rd rd List.not_mem_nil) dk ⟨up, fun n => mfOf_some⟩ (by omega) fun l2 H2 n2 e2 f2 => ?_
    have e12 := f2.at_ _ _ e1 List.not_mem_nil
    have N2 := N1.ex0 f2
    have p2 : pl ≠ l2 := ne_of_none e1 n2
    refine loopLF (M := [pl]) (hs.map V.int) (sqL_of e2) (mem_one p2.symm) (fun i σ' H' => ∃ (v3 v4 : Option V) (ps : List (Int × Int)) (lv : List V), σ' = [some (.int size), some (.ref a), some (.ref pl), v3, v4] ∧ H' pl = some (.lst lv) ∧ PrIs H' ps lv ∧ (∀ q, q ∈ ps ↔ q.1 ∈ hs.take i ∧ q.2 ∈ hs ∧ FaithF size f q) ∧ ps.length ≤ 45 * i ∧ Fr [pl] H2 H')
      ⟨_, _, [], [], rfl, e12, PrIs.nil, (fun q => by simp), by simp, Fr.refl _ _⟩ (fun i σ' H' ⟨_, _, _, _, _, _, _, _, _, f⟩ => f) ?_ ?_
    · rintro i y σ' H3 hi ⟨v3, v4, ps, lv, rfl, e3, pr, hq, hl, f3⟩
      obtain ⟨h, hh, hm, rfl⟩ := mem_ints hi
      have il : i < hs.length := (List.getElem?_eq_some_iff.mp hh).1
      have hsn := take_snoc hh
      have N3 := N2.fr f3 (mem_one ap)
      obtain ⟨kn3, rd3, dk3, _⟩ := N3.ex
      k_offL
      refine r_sortD rd3 dk3 ⟨up, fun n => mfOf_some⟩ (by omega) fun l4 H4 n4 e4 f4 => ?_
      have e34 := f4.at_ _ _ e3 List.not_mem_nil
      have N4 := N3.ex0 f4
      have p4 : pl ≠ l4 := ne_of_none e3 n4
      refine loopLF (M := [pl]) (hs.map V.int) (sqL_of e4) (mem_one p4.symm) (fun j σ' H' => ∃ (v4 : Option V) (ps : List (Int × Int)) (lv : List V), σ' = [some (.int size), some (.ref a), some (.ref pl), some (.int h), v4] ∧ H' pl = some (.lst lv) ∧ PrIs H' ps lv ∧ (∀ q, q ∈ ps ↔ (q.1 ∈ hs.take i ∧ q.2 ∈ hs ∧ FaithF size f q) ∨ (q.1 = h ∧ q.2 ∈ hs.take j ∧ FaithF size f q)) ∧ ps.length ≤ 45 * i + j ∧ Fr [pl] H4 H')
        ⟨_, ps, lv, rfl, e34, pr.fr f4, (fun q => by rw [hq]; simp), by omega, Fr.refl _ _⟩ (fun i σ' H' ⟨_, _, _, _, _, _, _, _, f⟩ => f) ?_ ?_
      · rintro j y σ' H5 hj ⟨v4, ps, lv, rfl, e5, pr, hq, hl, f5⟩
        obtain ⟨x, hx, hxm, rfl⟩ := mem_ints hj
        have jl : j < hs.length := (List.getElem?_eq_some_iff.mp hx).1
        have hsn2 := take_snoc hx
        have N5 := N4.fr f5 (mem_one ap)
        k_offL
        refine ⟨size, a, hs, f, h, x, (), rfl, N5, hlen, h0, h1, hm, hxm, fun b H6 hb f6 => ?_⟩
        cases b with
        | false =>
          k_offL
          refine ⟨_, ps, lv, rfl, f6.at_ _ _ e5 List.not_mem_nil, pr.fr f6, fun q => ?_, by omega, f5.trans f6.up⟩
          rw [hq, hsn2]
          constructor
          · rintro (z | ⟨z1, z2, z3⟩)
            · exact .inl z
            · exact .inr ⟨z1, List.mem_append_left _ z2, z3⟩
          · rintro (z | ⟨z1, z2, z3⟩)
            · exact .inl z
            · rcases List.mem_append.mp z2 with z2 | z2
              · exact .inr ⟨z1, z2, z3⟩
              · have : q = (h, x) := Prod.ext z1 (List.mem_singleton.mp z2)
                subst this
                cases hb.mpr z3
        | true =>
          k_offL
          refine tupk (by show 2 ≤ 100000; decide) fun t H7 n7 e7 f7 => ?_
          k_offL
          refine r_app ((f6.trans f7).at_ _ _ e5 List.not_mem_nil) (by rw [pr.len]; omega) fun H8 e8 f8 => ?_
          k_offL
          refine ⟨_, ps ++ [(h, x)], _, rfl, e8, (((pr.fr f6).fr f7).snoc (p := (h, x)) e7).fr f8, fun q => ?_, by rw [List.length_append]; show _ + 1 ≤ _; omega, f5.trans ((f6.trans f7).up.trans f8)⟩
          rw [List.mem_append, hq, hsn2]
          constructor
          · rintro ((z | ⟨z1, z2, z3⟩) | z)
            · exact .inl z
            · exact .inr ⟨z1, List.mem_append_left _ z2, z3⟩
            · rw [List.mem_singleton.mp z]
              exact .inr ⟨rfl, List.mem_append_right _ (List.mem_singleton.mpr rfl), hb.mp rfl⟩
          · rintro (z | ⟨z1, z2, z3⟩)
            · exact .inl (.inl z)
            · rcases List.mem_append.mp z2 with z2 | z2
              · exact .inl (.inr ⟨z1, z2, z3⟩)
              · exact .inr (List.mem_singleton.mpr (Prod.ext z1 (List.mem_singleton.mp z2)))
      · rintro σ' H5 ⟨v4, ps, lv, rfl, e5, pr, hq, hl, f5⟩
        rw [List.length_map] at hq hl
        rw [List.take_length] at hq
        refine ⟨_, _, ps, lv, rfl, e5, pr, fun q => ?_, by omega, f3.trans (f4.up.trans f5)⟩
        rw [hq, hsn]
        constructor
        · rintro (⟨z1, z2⟩ | ⟨z1, z2⟩)
          · exact ⟨List.mem_append_left _ z1, z2⟩
          · exact ⟨List.mem_append_right _ (List.mem_singleton.mpr z1), z2⟩
        · rintro ⟨z1, z2⟩
          rcases List.mem_append.mp z1 with z1 | z1
          · exact .inl ⟨z1, z2⟩
          · exact .inr ⟨List.mem_singleton.mp z1, z2⟩
    · rintro σ' H3 ⟨v3, v4, ps, lv, rfl, e3, pr, hq, hl, f3⟩
      rw [List.length_map] at hq hl
      rw [List.take_length] at hq
      k_offL
      exact k pl ps lv H3 n1 e3 pr hq (by omega) ((Fr.refl [] H).drop (f1.up.trans (f2.up.trans f3)) n1)
end
def spLawUnf : Sp := fun vs H Q _ => ∃ (a l : Addr) (N : NS) (ps : List (Int × Int)) (lv : List V) (_ _ _ : Unit), vs = [.int N.size, .ref a, .ref l] ∧ NxAt H a N.hs N.f ∧ N.Ok ∧ H l = some (.lst lv) ∧ PrIs H ps lv ∧ ps.length ≤ 50000 ∧ (∀ q ∈ ps, q.1 ∈ N.hs ∧ q.2 ∈ N.hs) ∧
  ∀ v H', FstUn N ps v → Fr [] H H' → Q v H'
section
variable {P : Program} {w : World} {K : PySem.W.Frag} {mg : Str → Option Value} {base : Heap} {CNet CMender CDesk CStore CWalk : Addr}
abbrev s__law_unfaithful : Stmt := top 71
theorem sc__law_unfaithful : FnScope ["size", "nexts", "log", "table", "k", "house"] ["size", "nexts", "log"] (defScope s__law_unfaithful) := ⟨rfl, rfl, rfl, by decide +kernel, rfl, by decide +kernel, by decide +kernel⟩
theorem ok__law_unfaithful {f : Addr} {fd : FuncData} (F : Fun K "_law_unfaithful" "_law_unfaithful" s__law_unfaithful f fd) (m_dict : mg "dict" = none) (m_range : mg "range" = none) (m_len : mg "len" = none) (G__law_is_faithful : GF P w K mg base "_law_is_faithful" 3 ["size", "nexts", "house", "target"] spLawIsF) : FnOk P w K mg base CX0 4 f fd ["size", "nexts", "log"] spLawUnf := by
  refine F.ok sc__law_unfaithful (fun vs H Q E h => ?_) (fun cdv A outer s H vs Q E hr h => ?_)
  · obtain ⟨_, _, _, _, _, _, _, _, rfl, _⟩ := h; rfl
  · obtain ⟨a, l, N, ps, lv, _, _, _, rfl, nx, ok, hl, pr, hpl, hm, k⟩ := h
    refine ⟨_, (pss_cons (ps_set (i := 3) sc__law_unfaithful.nd rfl (Or.inl rfl) (pe_callTy cb_dictD (by rfl) m_dict b_dict (pa_cons (pv 1) pa_nil)))
      (pss_cons (ps_for PassesOwn.never rfl (pi_range1 (by rfl) m_range (pa_cons (pe_callB (cb_lenSK (K := K) rfl) (by rfl) m_len b_len (pa_cons (pv 2) pa_nil)) pa_nil)) (pg_name (i := 4) sc__law_unfaithful.nd rfl (Or.inl rfl))
      (pss_cons (ps_set (i := 5) sc__law_unfaithful.nd rfl (Or.inl rfl) (pe_ix (ix_tupK (K := K) rfl) (pe_ix (ix_listK (K := K) rfl) (pv 2) (pv 4) (by intro _ _; rfl)) pe_int (by intro _ _; rfl)))
      (pss_cons (ps_if (pt_not (pt_val (c_fn G__law_is_faithful (hr.mono (by decide)) (pa_cons (pv 0) (pa_cons (pv 3) (pa_cons (pv 5) (pa_cons (pe_ix (ix_tupK (K := K) rfl) (pe_ix (ix_listK (K := K) rfl) (pv 2) (pv 4) (by intro _ _; rfl)) pe_int (by intro _ _; rfl)) pa_nil))))))) (pss_one (ps_ret (pv 4))) pss_nil)
      (pss_one (ps_dput (hu_of hr) (pv 3) (pv 5) (pe_ix (ix_tupK (K := K) rfl) (pe_ix (ix_listK (K := K) rfl) (pv 2) (pv 4) (by intro _ _; rfl)) pe_int (by intro _ _; rfl)) rfl)))))
      (pss_one (ps_ret pe_non)))), ?_⟩
    (try simp only [cxK, cxKX, List.map])
    refine ent (σ' := [some _, some _, some _, none, none, none]) rfl ?_
    have h0 := ok.s0
    have h1 := ok.s1
    have hlen := ok.hl
    obtain ⟨kn, rd, dk, hkl⟩ := nx.ex
    k_offL
    refine r_dictD rd fun t H1 n1 e1 f1 => ?_
    have el := f1.at_ _ _ hl List.not_mem_nil
    have lt : l ≠ t := ne_of_none hl n1
    k_offL
    refine r_lenL (sqL_of el) ?_
    rw [pr.len]
    k_offL
    refine loopR1 _ (by omega) (by omega) (fun i σ' H' => ∃ (v4 v5 : Option V) (kvs : List (Key × V)), σ' = [some (.int N.size), some (.ref a), some (.ref l), some (.ref t), v4, v5] ∧ H' t = some (.dK kvs) ∧ DOk kvs (mfOf N.hs (N.chg (ps.take i)).f) ∧ (∀ (j : Nat) q, j < i → ps[j]? = some q → Faith (N.chg (ps.take j)) q) ∧ Fr [t] H1 H')
      ⟨_, _, kn, rfl, e1, by rw [List.take_zero]; exact dk, fun j q z => absurd z (by omega), Fr.refl _ _⟩ ?_ ?_
    · rintro i σ' H2 hi ⟨v4, v5, kvs, rfl, e2, dk2, hF, f2⟩
      have il : i < ps.length := by omega
      have hq := List.getElem?_eq_getElem il
      have hsn := take_snoc hq
      have qm := hm _ (List.getElem_mem il)
      obtain ⟨u, eu, hu⟩ := pr.at_ i _ hq
      revert hu hq hsn qm
      generalize ps[i] = q
      intro hq hsn qm hu
      have ok2 : (N.chg (ps.take i)).Ok := chg_ok ok fun q hq => hm q (List.mem_of_mem_take hq)
      obtain ⟨hs2, sz2, _⟩ := chg_hs (N := N) (ps := ps.take i)
      have el2 := f2.at_ _ _ el (mem_one lt)
      have hu2 := f2.tp _ _ (f1.tp _ _ hu)
      have cl2 := ok2.fh
      rw [hs2] at cl2
      have nx2 : NxAt H2 t N.hs (N.chg (ps.take i)).f := .mk' (.inl e2) dk2 ok.nd cl2
      k_offL
      refine r_ixL (sqL_of el2) (ix_at i rfl eu) ?_
      k_offL
      refine r_ixT (sqT_of hu2) (v := .int q.1) rfl ?_
      k_offL
      refine r_ixL (sqL_of el2) (ix_at i rfl eu) ?_
      k_offL
      refine r_ixT (sqT_of hu2) (v := .int q.2) rfl ?_
      k_offL
      refine ⟨N.size, t, N.hs, (N.chg (ps.take i)).f, q.1, q.2, (), rfl, nx2, hlen, h0, h1, qm.1, qm.2, fun b H3 hb f3 => ?_⟩
      have hb' : b = true ↔ Faith (N.chg (ps.take i)) q := by rw [faith_iff, sz2]; exact hb
      cases b with
      | false =>
        k_offL
        exact k _ H3 (.inr ⟨i, q, rfl, hq, (fun z => by cases hb'.mpr z), hF⟩) (f1.drop (f2.trans f3.up) n1)
      | true =>
        k_offL
        refine r_ixL (f3.sqL (sqL_of el2) List.not_mem_nil) (ix_at i rfl eu) ?_
        k_offL
        refine r_ixT (sqT_of (f3.tp _ _ hu2)) (v := .int q.2) rfl ?_
        k_offL
        refine dputk (f3.at_ _ _ e2 List.not_mem_nil) (by have := dk2.le fun n hn => mfOf_some.mpr hn; omega) fun H4 e4 f4 => ?_
        refine ⟨_, _, _, rfl, e4, dk2.put.cong fun n => ?_, fun j q' hj hq' => ?_, f2.trans (f3.up.trans f4)⟩
        · rw [hsn, chg_snoc]
          unfold mfOf
          show _ = if n ∈ N.hs then some (V.int (if n = q.1 then q.2 else (N.chg (ps.take i)).f n)) else none
          by_cases e : n = q.1
          · rw [if_pos e, if_pos (e ▸ qm.1), if_pos e]
          · rw [if_neg e, if_neg e]
        · rcases Nat.lt_or_eq_of_le (Nat.le_of_lt_succ hj) with z | z
          · exact hF j q' z hq'
          · subst z
            rw [hq] at hq'
            cases hq'
            exact hb'.mp rfl
    · rintro σ' H2 ⟨v4, v5, kvs, rfl, e2, dk2, hF, f2⟩
      k_offL
      exact k _ H2 (.inl ⟨rfl, fun j q hq => hF j q (by have := (List.getElem?_eq_some_iff.mp hq).1; omega) hq⟩) (f1.drop f2 n1)
end
end RL
set_option synthInstance.maxHeartbeats 4000000
set_option synthInstance.maxSize 4000
namespace RL
theorem filter_le {p q : Int → Bool} : ∀ {l : List Int}, (∀ y ∈ l, q y = true → p y = true) → (l.filter q).length ≤ (l.filter p).length
  | [], _ => Nat.le_refl _
  | a :: l, h => by
    have ih := filter_le (p := p) (q := q) (l := l) fun y hy => h y (List.mem_cons_of_mem _ hy)
    rw [List.filter_cons, List.filter_cons]
    cases hq : q a with
    | true => rw [if_pos rfl, if_pos (h a List.mem_cons_self hq), List.length_cons, List.length_cons]; omega
    | false =>
      rw [if_neg (by decide)]
      split
      · rw [List.length_cons]; omega
      · exact ih
theorem filter_lt {p q : Int → Bool} {x : Int} : ∀ {l : List Int}, (∀ y ∈ l, q y = true → p y = true) → x ∈ l → p x = true → q x = false → (l.filter q).length < (l.filter p).length
  | [], _, hx, _, _ => nomatch hx
  | a :: l, h, hx, hp, hq => by
    rw [List.filter_cons, List.filter_cons]
    have hl := fun y hy => h y (List.mem_cons_of_mem a hy)
    rcases List.mem_cons.mp hx with e | hx
    · subst e
      rw [if_neg (by rw [hq]; decide), if_pos hp, List.length_cons]
      have := filter_le (p := p) (q := q) (l := l) hl
      omega
    · have ih := filter_lt (p := p) (q := q) (l := l) hl hx hp hq
      cases hqa : q a with
      | true => rw [if_pos rfl, if_pos (h a List.mem_cons_self hqa), List.length_cons, List.length_cons]; omega
      | false =>
        rw [if_neg (by decide)]
        split
        · rw [List.length_cons]; omega
        · exact ih
theorem sum_le {F G : Int → Nat} : ∀ {l : List Int}, (∀ y ∈ l, G y ≤ F y) → (l.map G).sum ≤ (l.map F).sum
  | [], _ => Nat.le_refl _
  | a :: l, h => by
    have ih := sum_le (F := F) (G := G) (l := l) fun y hy => h y (List.mem_cons_of_mem _ hy)
    have := h a List.mem_cons_self
    rw [List.map_cons, List.map_cons, List.sum_cons, List.sum_cons]; omega
theorem sum_lt {F G : Int → Nat} {u : Int} : ∀ {l : List Int}, (∀ y ∈ l, G y ≤ F y) → u ∈ l → G u < F u → (l.map G).sum < (l.map F).sum
  | [], _, hu, _ => nomatch hu
  | a :: l, h, hu, lt => by
    have hl := fun y hy => h y (List.mem_cons_of_mem a hy)
    have ha := h a List.mem_cons_self
    rw [List.map_cons, List.map_cons, List.sum_cons, List.sum_cons]
    rcases List.mem_cons.mp hu with e | hu
    · subst e
      have := sum_le (F := F) (G := G) (l := l) hl
      omega
    · have := sum_lt (F := F) (G := G) (l := l) hl hu lt
      omega
theorem rooms_lt {size : Int} {hs : List Int} {f nm W φ : Int → Int} {u x : Int} (M : Mk size hs f nm W φ) (hu : u ∈ hs) (hx : x ∈ hs) (F : FaithF size f (u, x)) : roomsOf size hs nm W φ (fun h => if h = u then x else f h) < roomsOf size hs nm W φ f := by
  obtain ⟨hb, t⟩ := F
  have hb : btw size u x (f u) = true := hb
  have t : Tr size f x (f u) (far size x (f u)) := t
  have w0 := M.P.w0 u hu
  have lt : far size u x < far size u (f u) := by unfold btw at hb; exact of_decide_eq_true hb
  have fp := far_pos (s := u) (e := x) M.s0
  have fq := far_pos (s := u) (e := f u) M.s0
  have ws : size ≤ W (nm u) := Int.le_of_dvd w0 (M.P.wd u hu)
  have P' := M.P.part M.s0 M.cl hu hx rfl hb t (g := fun h => if h = u then x else f h) (fun h hh => if_neg hh) (if_pos rfl)
  have d := P'.st u hu
  have e1 : (if u = u then x else f u) = x := if_pos rfl
  rw [e1] at d
  have nx := P'.nf u hu
  rw [e1] at nx
  have mx : (φ x - φ u) % W (nm u) = far size u x := emod_of d (by omega) (by omega)
  unfold roomsOf
  refine sum_lt (u := u) (fun h hh => ?_) hu ?_
  · unfold roomOf
    refine filter_le fun o _ ho => ?_
    rw [decide_eq_true_iff] at ho ⊢
    have ho : (φ o - φ h) % W (nm h) < far size h (if h = u then x else f h) := ho
    by_cases e : h = u
    · rw [if_pos e] at ho; rw [e] at ho ⊢; omega
    · rw [if_neg e] at ho; exact ho
  · unfold roomOf
    show (List.filter (fun o => decide ((φ o - φ u) % W (nm u) < far size u (if u = u then x else f u))) _).length < _
    rw [e1]
    refine filter_lt (x := x) (fun o _ ho => ?_) ?_ ?_ ?_
    · rw [decide_eq_true_iff] at ho ⊢; omega
    · rw [List.mem_filter, decide_eq_true_iff]
      exact ⟨mem_pc.mpr ⟨hx, nx⟩, btw_ne M.s0 hb⟩
    · rw [decide_eq_true_iff, mx]; exact lt
    · rw [decide_eq_false_iff_not, mx]; omega
theorem inj_of_no {size : Int} {hs : List Int} {f : Int → Int} (h0 : 0 < size) (on : ∀ h ∈ hs, 0 ≤ h ∧ h < size) (no : ∀ q : Int × Int, q.1 ∈ hs → q.2 ∈ hs → ¬ FaithF size f q) : ∀ a ∈ hs, ∀ b ∈ hs, f a = f b → a = b := by
  have key : ∀ a ∈ hs, ∀ b ∈ hs, f a = f b → ¬ far size b (f b) < far size a (f b) := fun a ha b hb e lt => by
    have d1 := far_dvd (s := a) (e := f b) h0
    have d2 := far_dvd (s := b) (e := f b) h0
    have d := Int.dvd_sub d1 d2
    rw [show far size a (f b) - (f b - a) - (far size b (f b) - (f b - b)) = far size a (f b) - far size b (f b) - (b - a) by omega] at d
    have p1 := far_pos (s := a) (e := f b) h0
    have p2 := far_pos (s := b) (e := f b) h0
    have u := far_uniq h0 (by omega) (by omega) d
    refine no (a, b) ha hb ⟨?_, ?_⟩
    · show btw size a b (f a) = true
      unfold btw
      rw [e, ← u]
      exact decide_eq_true (by omega)
    · show Tr size f b (f a) (far size b (f a))
      rw [e]
      exact Tr.one
  intro a ha b hb e
  have k1 := key a ha b hb e
  have k2 := key b hb a ha e.symm
  rw [e] at k2
  have d1 := far_dvd (s := a) (e := f b) h0
  have d2 := far_dvd (s := b) (e := f b) h0
  have d := Int.dvd_sub d1 d2
  rw [show far size a (f b) - (f b - a) - (far size b (f b) - (f b - b)) = a - b + (far size a (f b) - far size b (f b)) by omega, show far size a (f b) - far size b (f b) = 0 by omega, Int.add_zero] at d
  obtain ⟨a0, a1⟩ := on a ha
  obtain ⟨b0, b1⟩ := on b hb
  obtain ⟨c, hc⟩ := d
  rcases Int.lt_trichotomy c 0 with z | z | z
  · have : size * c ≤ size * (-1) := Int.mul_le_mul_of_nonneg_left (by omega) (by omega)
    omega
  · rw [z, Int.mul_zero] at hc; omega
  · have : size * 1 ≤ size * c := Int.mul_le_mul_of_nonneg_left (by omega) (by omega)
    omega
end RL
set_option synthInstance.maxHeartbeats 4000000
set_option synthInstance.maxSize 4000
namespace RL
theorem PrIs.app {H : Hp} {ps qs : List (Int × Int)} {lv lw : List V} (x : PrIs H ps lv) (y : PrIs H qs lw) : PrIs H (ps ++ qs) (lv ++ lw) := by
  refine ⟨by rw [List.length_append, List.length_append, x.len, y.len], fun i m e => ?_⟩
  by_cases hi : i < ps.length
  · rw [List.getElem?_append_left hi] at e
    obtain ⟨u, a, b⟩ := x.at_ i m e
    exact ⟨u, by rw [List.getElem?_append_left (by rw [x.len]; exact hi)]; exact a, b⟩
  · rw [List.getElem?_append_right (by omega)] at e
    obtain ⟨u, a, b⟩ := y.at_ _ m e
    exact ⟨u, by rw [List.getElem?_append_right (by rw [x.len]; omega), x.len]; exact a, b⟩
theorem ints_rep {H : Hp} : ∀ ns : List Int, RepL H (ns.map D.int) (ns.map V.int)
  | [] => rfl
  | _ :: r => ⟨_, _, rfl, rfl, ints_rep r⟩
theorem r_ext {H : Hp} {Q : VK} {l b : Addr} {xs zs : List V} (h : H l = some (.lst xs)) (hb : H b = some (.lst zs)) (hl : xs.length + zs.length ≤ 100000) (k : ∀ H' : Hp, H' l = some (.lst (xs ++ zs)) → Fr [l] H H' → Q .non H') : rExtend (.ref l) [.ref b] H Q :=
  ⟨l, b, xs, zs, rfl, rfl, h, hb, small hl, chgL (A := fun H' => Q .non H') h k⟩
def spReadLast (C : Addr) : Sp := fun vs H Q _ => ∃ (A : Ads) (N : NS) (l : LT) (_ _ _ : Unit), vs = [.ref A.p, .int N.size, .ref A.dn, .ref A.dk, .ref A.dp] ∧ WW C H A (N.push l) (N.push l) ∧ (N.push l).Ok ∧ ∀ H', WW C H' A (N.readL l).1 (N.readL l).1 → Fr A.all H H' → Q (.bl true) H'
section
variable {P : Program} {w : World} {K : PySem.W.Frag} {mg : Str → Option Value} {base : Heap} {CNet CMender CDesk CStore CWalk : Addr}
abbrev s__law_read_last : Stmt := top 72
theorem sc__law_read_last : FnScope ["net", "size", "nexts", "behinds", "post", "at", "told"] ["net", "size", "nexts", "behinds", "post"] (defScope s__law_read_last) := ⟨rfl, rfl, rfl, by decide +kernel, rfl, by decide +kernel, by decide +kernel⟩
theorem ok__law_read_last {f : Addr} {fd : FuncData} (F : Fun K "_law_read_last" "_law_read_last" s__law_read_last f fd) (m_len : mg "len" = none) (G_Net_read : GM P w K mg base CNet "read" 4 ["self", "at"] (spRead CNet)) (G__law_same : GF P w K mg base "_law_same" 5 ["actual", "due"] (spSame 4)) (G__law_read : GF P w K mg base "_law_read" 3 ["size", "nexts", "behinds", "post", "at"] spLawRead) (T : NetT K CNet) : FnOk P w K mg base CX0 6 f fd ["net", "size", "nexts", "behinds", "post"] (spReadLast CNet) := by
  refine F.ok sc__law_read_last (fun vs H Q E h => ?_) (fun cdv A outer s H vs Q E hr h => ?_)
  · obtain ⟨_, _, _, _, _, _, rfl, _⟩ := h; rfl
  · obtain ⟨A, N, l, _, _, _, rfl, W, ok, k⟩ := h
    refine ⟨_, (pss_cons (ps_set (i := 5) sc__law_read_last.nd rfl (Or.inl rfl) (pe_op op_sub (pe_callB (cb_lenSK (K := K) rfl) (by rfl) m_len b_len (pa_cons (pv 4) pa_nil)) pe_int))
      (pss_cons (ps_set (i := 6) sc__law_read_last.nd rfl (Or.inl rfl) (c_mt G_Net_read (hr.mono (by decide)) (pv 0) (pa_cons (pv 5) pa_nil)))
      (pss_one (ps_ret (c_fn G__law_same (hr.mono (by decide)) (pa_cons (pv 6) (pa_cons (c_fn G__law_read (hr.mono (by decide)) (pa_cons (pv 1) (pa_cons (pv 2) (pa_cons (pv 3) (pa_cons (pv 4) (pa_cons (pv 5) pa_nil)))))) pa_nil))))))), ?_⟩
    (try simp only [cxK, cxKX, List.map])
    refine ent (σ' := [some _, some _, some _, some _, some _, none, none]) rfl ?_
    obtain ⟨dn_dp, dk_dp, dn_tp, dk_tp, dp_tp⟩ := W.ne
    obtain ⟨lv, hl, ls⟩ := W.tab.ls
    obtain ⟨dx, hp⟩ := W.net.ob
    have lvl := ls.len
    rw [push_len] at lvl
    k_offL
    refine r_lenL (sqL_of hl) ?_
    rw [lvl, show (((N.post.length + 1 : Nat) : Int)) = (N.post.length : Int) + 1 by omega]
    k_offL
    rw [show ((N.post.length : Int) + 1 - 1) = (N.post.length : Int) by omega]
    refine ⟨A.p, A.da, A.db, A.dl, N.push l, N.post.length, l, rfl, W.net, push_at, ok, fun t5 H5 e5 hN5 f5 => ?_⟩
    have W5 := W.net' f5 hN5
    k_offL
    refine ⟨A.dn, A.dk, A.dp, N.push l, N.post.length, l, (), (), (), rfl, W5.tab, ok, push_at, fun t6 H6 e6 T6 f6 => ?_⟩
    have W6 := W5.tab' f6 T6
    k_offL
    refine i_sameT (f6.tp _ _ e5) e6 (read_flat _ l) (by rw [show ((N.push l).read N.post.length l).2.length = 3 from readL_vs _ l]; decide) fun H7 f7 => ?_
    have W7 := W6.ex0 f7
    rw [push_read] at W7
    exact k H7 W7 ((f5.net.trans f6.tab).trans f7.up)
end
def spChat (C : Addr) : Sp := fun vs H Q _ => ∃ (A : Ads) (N : NS) (_ _ : Unit), vs = lawArgs A N ∧ WW C H A N N ∧ N.Ok ∧ 0 < N.hs.length ∧ N.post.length < 1000 ∧ ∀ h x H', h ∈ N.hs → (N.ct h).b ((N.ct h).f h) = some x → WW C H' A ((N.ct h).ca h) ((N.ct h).ca h) → Fr A.all H H' → Q (.bl true) H'
section
variable {P : Program} {w : World} {K : PySem.W.Frag} {mg : Str → Option Value} {base : Heap} {CNet CMender CDesk CStore CWalk : Addr}
abbrev s__law_chat : Stmt := top 73
theorem sc__law_chat : FnScope ["tape", "net", "size", "nexts", "behinds", "post", "house", "target"] ["tape", "net", "size", "nexts", "behinds", "post"] (defScope s__law_chat) := ⟨rfl, rfl, rfl, by decide +kernel, rfl, by decide +kernel, by decide +kernel⟩
theorem ok__law_chat {f : Addr} {fd : FuncData} (F : Fun K "_law_chat" "_law_chat" s__law_chat f fd) (m_sorted : mg "sorted" = none) (G__law_pick : GF P w K mg base "_law_pick" 1 ["tape", "size"] spPick) (m_len : mg "len" = none) (G__law_read_last : GF P w K mg base "_law_read_last" 6 ["net", "size", "nexts", "behinds", "post"] (spReadLast CNet)) (G__law_same : GF P w K mg base "_law_same" 5 ["actual", "due"] (spSame 4)) (G_Net_tell : GM P w K mg base CNet "tell" 3 ["self", "house"] (spTell CNet)) (G_Net_ask : GM P w K mg base CNet "ask" 3 ["self", "house"] (spAsk CNet)) (T : NetT K CNet) : FnOk P w K mg base CX0 7 f fd ["tape", "net", "size", "nexts", "behinds", "post"] (spChat CNet) := by
  refine F.ok sc__law_chat (fun vs H Q E h => ?_) (fun cdv A outer s H vs Q E hr h => ?_)
  · obtain ⟨_, _, _, _, rfl, _⟩ := h; rfl
  · obtain ⟨A, N, _, _, rfl, W, ok, hpos, hpl, k⟩ := h
    unfold lawArgs
    refine ⟨_, (pss_cons (ps_set (i := 6) sc__law_chat.nd rfl (Or.inl rfl) (pe_ix (ix_listK (K := K) rfl) (pe_callB (cb_sortD rfl) (by rfl) m_sorted b_sorted (pa_cons (pv 3) pa_nil)) (c_fn G__law_pick (hr.mono (by decide)) (pa_cons (pv 0) (pa_cons (pe_callB cb_lenD (by rfl) m_len b_len (pa_cons (pv 3) pa_nil)) pa_nil))) (by intro _ _; rfl)))
      (pss_cons (ps_set (i := 7) sc__law_chat.nd rfl (Or.inl rfl) (pe_dget (hu_of hr) (pv 3) (pv 6) (by intro _ _; rfl)))
      (pss_cons (ps_expr (pe_bmK (K := K) rfl PySem.F.plainAttrs_list PySem.F.slot_list_append PySem.F.type_list_append mt_append (pv 5) (pa_cons (pe_tup (pa_cons pe_str (pa_cons (pv 7) (pa_cons (pv 6) pa_nil)))) pa_nil)))
      (pss_cons (ps_if (PW.pt (pw_or (pt_not (pt_val (c_fn G__law_same (hr.mono (by decide)) (pa_cons (c_mt G_Net_tell (hr.mono (by decide)) (pv 1) (pa_cons (pv 6) pa_nil)) (pa_cons (pe_ix (ix_listK (K := K) rfl) (pv 5) (pe_un un_neg pe_int) (by intro _ _; rfl)) pa_nil))))) (pw_or1 (pt_not (pt_val (c_fn G__law_read_last (hr.mono (by decide)) (pa_cons (pv 1) (pa_cons (pv 2) (pa_cons (pv 3) (pa_cons (pv 4) (pa_cons (pv 5) pa_nil))))))))))) (pss_one (ps_ret pe_bl)) pss_nil)
      (pss_cons (ps_expr (pe_bmK (K := K) rfl PySem.F.plainAttrs_list PySem.F.slot_list_append PySem.F.type_list_append mt_append (pv 5) (pa_cons (pe_tup (pa_cons pe_str (pa_cons (pv 7) (pa_cons (pv 6) pa_nil)))) pa_nil)))
      (pss_cons (ps_if (PW.pt (pw_or (pt_not (pt_val (c_fn G__law_same (hr.mono (by decide)) (pa_cons (c_mt G_Net_ask (hr.mono (by decide)) (pv 1) (pa_cons (pv 6) pa_nil)) (pa_cons (pe_ix (ix_listK (K := K) rfl) (pv 5) (pe_un un_neg pe_int) (by intro _ _; rfl)) pa_nil))))) (pw_or1 (pt_not (pt_val (c_fn G__law_read_last (hr.mono (by decide)) (pa_cons (pv 1) (pa_cons (pv 2) (pa_cons (pv 3) (pa_cons (pv 4) (pa_cons (pv 5) pa_nil))))))))))) (pss_one (ps_ret pe_bl)) pss_nil)
      (pss_one (ps_ret (c_fn G__law_read_last (hr.mono (by decide)) (pa_cons (pv 1) (pa_cons (pv 2) (pa_cons (pv 3) (pa_cons (pv 4) (pa_cons (pv 5) pa_nil)))))))))))))), ?_⟩
    (try simp only [cxK, cxKX, List.map])
    refine ent (σ' := [some _, some _, some _, some _, some _, some _, none, none]) rfl ?_
    obtain ⟨dn_dp, dk_dp, dn_tp, dk_tp, dp_tp⟩ := W.ne
    obtain ⟨kn, hn, dN⟩ := W.tab.nx
    obtain ⟨lv, hl, ls⟩ := W.tab.ls
    have hlen := ok.hl
    have lvl := ls.len
    have knl := dN.len ok.ascF
    k_offL
    refine r_sortD (.inl hn) dN ok.ascF (by omega) fun l1 H1 n1 e1 f1 => ?_
    have W1 := W.ex0 f1
    obtain ⟨_, _, _, _, _, tt1, _⟩ := W.tape.ex
    have h1t : l1 ≠ A.tp := (ne_of_none tt1 n1).symm
    k_offL
    refine r_lenD (.inl (f1.at_ _ _ hn List.not_mem_nil)) ?_
    rw [knl]
    k_offL
    refine i_pick W1.tape (by omega) (by omega) fun m2 H2 a2 b2 t2 f2 => ?_
    have W2 := W1.tape' f2 t2
    have g2 : m2.toNat < N.hs.length := by omega
    have e12 : H2 l1 = some (.lst (N.hs.map V.int)) := f2.at_ _ _ e1 (mem_one h1t)
    refine r_ixL (sqL_of e12) (ix_at m2.toNat (by omega) (ints_get g2)) ?_
    have hh : N.hs[m2.toNat] ∈ N.hs := List.getElem_mem g2
    revert hh
    generalize N.hs[m2.toNat] = h0
    intro hh
    have fr2 : Fr A.all H H2 := f1.up.trans f2.tape
    have hn2 : H2 A.dn = some (.dK kn) := f2.at_ _ _ (f1.at_ _ _ hn List.not_mem_nil) (mem_one dn_tp)
    have hl2 : H2 A.dp = some (.lst lv) := f2.at_ _ _ (f1.at_ _ _ hl List.not_mem_nil) (mem_one dp_tp)
    k_offL
    refine dgetk (.inl hn2) (by rw [dN.val, NS.mf_at hh]) ?_
    k_offL
    refine tupk (by show 3 ≤ 100000; decide) fun t4 H4 n4 e4 f4 => ?_
    have hl4 := f4.at_ _ _ hl2 List.not_mem_nil
    k_offL
    refine r_app hl4 (by omega) fun H5 e5 f5 => ?_
    have W5 := W2.tab' (f4.up.trans f5.dp) (W2.tab.push (l := .tell (N.f h0) h0) hl2 f4 e4 e5 f5 dn_dp dk_dp)
    obtain ⟨dx5, hp5⟩ := W5.net.ob
    have fr5 : Fr A.all H H5 := fr2.trans (f4.up.trans f5.dp).tab
    have te5 := f5.tp _ _ e4
    k_offL
    refine ⟨A.p, A.da, A.db, A.dl, N, h0, rfl, W5.net, hh, ok, fun t6 H6 e6 hN6 f6 => ?_⟩
    have W6 := W5.net' f6.dl hN6
    have fr6 := fr5.trans f6.dl.net
    have e56 := f6.dl.at_ _ _ e5 W.off.2.2
    k_offL
    refine r_ixL (sqL_of e56) (atI_last _ _) ?_
    k_offL
    refine i_sameT e6 (f6.tp _ _ te5) (lt_flat (.tell (N.f h0) h0)) (by have := lt_len (.tell (N.f h0) h0); omega) fun H7 f7 => ?_
    have W7 := W6.ex0 f7
    have fr7 : Fr A.all H H7 := fr6.trans f7.up
    k_offL
    refine ⟨A, N, .tell (N.f h0) h0, (), (), (), rfl, W7, ok.push (pl2 (ok.fh h0 hh) hh) hpl, fun H8 W8 f8 => ?_⟩
    have fr8 := fr7.trans f8
    have c := (CtOk.refl ok).more hh hpl
    have hM : (N.readL (.tell (N.f h0) h0)).1 = N.ct h0 := rfl
    rw [hM] at W8
    obtain ⟨y, hy⟩ := Option.isSome_iff_exists.mp (ct_here (N := N) (h := h0))
    have cf : (N.ct h0).f h0 = N.f h0 := by rw [c.f]
    have chs : h0 ∈ (N.ct h0).hs := by rw [c.hs]; exact hh
    have csz := c.z
    have cok := c.ok
    have cpo := c.po
    have k' := k h0 y
    rw [cf] at k'
    clear W5 W6 W7 f4 f5 f6 f7 f8 fr5 fr6 fr7 e4 e5 e6 e56 te5 hp5 dx5 hl4 n4 hN6 H4 H5 H6 H7 t4 t6
    obtain ⟨lv8, hl8, ls8⟩ := W8.tab.ls
    have lvl8 := ls8.len
    rw [cpo] at lvl8
    k_offL
    refine tupk (by show 3 ≤ 100000; decide) fun t4 H4 n4 e4 f4 => ?_
    have hl4 := f4.at_ _ _ hl8 List.not_mem_nil
    k_offL
    refine r_app hl4 (by omega) fun H5 e5 f5 => ?_
    have W5 := W8.tab' (f4.up.trans f5.dp) (W8.tab.push (l := .ask (N.f h0) h0) hl8 f4 e4 e5 f5 dn_dp dk_dp)
    obtain ⟨dx5, hp5⟩ := W5.net.ob
    have fr5 : Fr A.all H H5 := fr8.trans (f4.up.trans f5.dp).tab
    have te5 := f5.tp _ _ e4
    k_offL
    refine ⟨A.p, A.da, A.db, A.dl, N.ct h0, h0, rfl, W5.net, chs, cok, fun t6 H6 e6 hN6 f6 => ?_⟩
    rw [cf] at e6 hN6
    have W6 := W5.net' f6.dl hN6
    have fr6 := fr5.trans f6.dl.net
    have e56 := f6.dl.at_ _ _ e5 W.off.2.2
    k_offL
    refine r_ixL (sqL_of e56) (atI_last _ _) ?_
    k_offL
    refine i_sameT e6 (f6.tp _ _ te5) (lt_flat (.ask (N.f h0) h0)) (by have := lt_len (.ask (N.f h0) h0); omega) fun H7 f7 => ?_
    have W7 := W6.ex0 f7
    have fr7 : Fr A.all H H7 := fr6.trans f7.up
    k_offL
    have okp : ((N.ct h0).push (.ask (N.f h0) h0)).Ok := cok.push (pl2 (by rw [c.hs]; exact ok.fh h0 hh) chs) (by rw [cpo]; exact hpl)
    refine ⟨A, N.ct h0, .ask (N.f h0) h0, (), (), (), by rw [csz], W7, okp, fun H9 W9 f9 => ?_⟩
    have fr9 := fr7.trans f9
    have e2 : ((N.ct h0).readL (.ask (N.f h0) h0)).1 = (N.ct h0).push (.ans h0 (N.f h0) y) := by simp only [NS.readL, hy]
    rw [e2] at W9
    have okq : ((N.ct h0).push (.ans h0 (N.f h0) y)).Ok := cok.push (pl3 chs (by rw [c.hs]; exact ok.fh h0 hh) (cok.bh _ _ hy).2) (by rw [cpo]; exact hpl)
    k_offL
    refine ⟨A, N.ct h0, .ans h0 (N.f h0) y, (), (), (), by rw [csz], W9, okq, fun H10 W10 f10 => ?_⟩
    have e3 : ((N.ct h0).readL (.ans h0 (N.f h0) y)).1 = (N.ct h0).ca h0 := by
      unfold NS.ca
      rw [cf, hy]
    rw [e3] at W10
    exact k' H10 hh hy W10 (fr9.trans f10)
end
end RL
set_option synthInstance.maxHeartbeats 4000000
set_option synthInstance.maxSize 4000
namespace RL
def OneCh (N N' : NS) : Prop := N'.hs = N.hs ∧ N'.size = N.size ∧ (N'.f = N.f ∨ ∃ q : Int × Int, q.1 ∈ N.hs ∧ q.2 ∈ N.hs ∧ Faith N q ∧ N'.f = (N.setF q.1 q.2).f)
section
variable {N N' N'' F : NS} {q : Int × Int} {ps qs : List (Int × Int)} {l : LT} {h x : Int} {nm W φ : Int → Int}
theorem readL_ch (ok : N.Ok) (say : N.Say) (hl : ∀ y ∈ l.pl, y ∈ N.hs) (ha : ∀ u v x, l = .ans u v x → Tr N.size N.f x v (far N.size x v)) : OneCh N (N.readL l).1 := by
  refine ⟨(readL_hs N l).1, (readL_hs N l).2, ?_⟩
  cases l with
  | tell v u => left; simp only [NS.readL]; split <;> (try split) <;> rfl
  | ask v u => left; simp only [NS.readL]; split <;> rfl
  | ans u v x =>
    simp only [NS.readL]
    split
    · rename_i c
      obtain ⟨c1, c2⟩ := c
      subst c1
      exact .inr ⟨(u, x), hl u (by simp [LT.pl]), hl x (by simp [LT.pl]), ⟨c2, ha _ _ _ rfl⟩, rfl⟩
    · exact .inl rfl
theorem Small.ch (s : Small N N') (ok : N.Ok) (say : N.Say) : OneCh N N' := by
  cases s with
  | tell h m q => exact ⟨rfl, rfl, .inl rfl⟩
  | ask h m q => exact ⟨rfl, rfl, .inl rfl⟩
  | dup l m q => exact ⟨rfl, rfl, .inl rfl⟩
  | del i => exact ⟨rfl, rfl, .inl rfl⟩
  | read i l m =>
    have hm := List.mem_of_getElem? m
    have sd : (N.del i).Say := ⟨say.sb, fun r s m => say.st r s (List.mem_of_mem_eraseIdx m), fun u v x m => say.sa u v x (List.mem_of_mem_eraseIdx m)⟩
    exact readL_ch (N := N.del i) (ok.del i) sd (ok.ph l hm) fun u v x e => say.sa u v x (e ▸ hm)
theorem chat_ch (ok : N.Ok) (say : N.Say) (hh : h ∈ N.hs) (hpl : N.post.length < 1000) (e : (N.ct h).b ((N.ct h).f h) = some x) : OneCh N ((N.ct h).ca h) ∧ ((N.ct h).ca h).Ok ∧ ((N.ct h).ca h).Say ∧ ((N.ct h).ca h).post = N.post := by
  have c := (CtOk.refl ok).more hh hpl
  have s1 := (c.st.good ok say).1
  have chs : h ∈ (N.ct h).hs := by rw [c.hs]; exact hh
  have cpl : (N.ct h).post.length < 1000 := by rw [c.po]; exact hpl
  have s2 := ca_steps c.ok chs cpl e
  have s3 := s2.good c.ok s1
  have cc := (CaOk.refl c.ok).more chs (by simp) cpl e
  have cf : (N.ct h).f h = N.f h := by rw [c.f]
  refine ⟨⟨s2.same.1.trans c.hs, s2.same.2.trans c.z, ?_⟩, s2.ok c.ok, s3.1, cc.po.trans c.po⟩
  have t := s1.sb _ _ e
  have xm := (c.ok.bh _ _ e).2
  rw [c.hs] at xm
  rw [(ca_eq e).1]
  split
  · rename_i b
    rw [c.z, cf] at b t
    rw [c.f] at t
    refine .inr ⟨(h, x), hh, xm, ⟨b, t⟩, ?_⟩
    show (fun y => if y = h then x else (N.ct h).f y) = fun y => if y = h then x else N.f y
    rw [c.f]
  · exact .inl c.f
theorem say_setF (ok : N.Ok) (say : N.Say) (F : Faith N q) : (N.setF q.1 q.2).Say := by
  have kp : ∀ a e s, Tr N.size N.f a e s → Tr N.size (N.setF q.1 q.2).f a e s := fun a e s z => Tr.part ok.s0 F.1 F.2 (fun h hn => if_neg hn) (if_pos rfl) z
  exact ⟨fun v' u' e => kp _ _ _ (say.sb v' u' e), fun r s m => kp _ _ _ (say.st r s m), fun u' v' x' m => kp _ _ _ (say.sa u' v' x' m)⟩
structure LB (F N : NS) (nm W φ : Int → Int) (ps : List (Int × Int)) : Prop where
  f : N.f = (F.chg ps).f
  hs : N.hs = F.hs
  z : N.size = F.size
  m : ∀ q ∈ ps, q.1 ∈ F.hs ∧ q.2 ∈ F.hs
  fa : ∀ (j : Nat) q, ps[j]? = some q → Faith (F.chg (ps.take j)) q
  M : Mk F.size F.hs N.f nm W φ
  rm : roomsOf F.size F.hs nm W φ N.f + ps.length ≤ roomsOf F.size F.hs nm W φ F.f
theorem Mk.step {size : Int} {hs : List Int} {f : Int → Int} (M : Mk size hs f nm W φ) (h1 : q.1 ∈ hs) (h2 : q.2 ∈ hs) (Fa : FaithF size f q) : Mk size hs (fun h => if h = q.1 then q.2 else f h) nm W φ := by
  refine ⟨M.up, M.on, fun h hh => ?_, M.hl, M.s0, M.s1, M.P.part M.s0 M.cl h1 h2 rfl Fa.1 Fa.2 (fun h hh => if_neg hh) (if_pos rfl)⟩
  show (if h = q.1 then q.2 else f h) ∈ hs
  split
  · exact h2
  · exact M.cl h hh
theorem LB.same (L : LB F N nm W φ ps) (e : N'.f = N.f) (e1 : N'.hs = N.hs) (e2 : N'.size = N.size) : LB F N' nm W φ ps :=
  ⟨e.trans L.f, e1.trans L.hs, e2.trans L.z, L.m, L.fa, by rw [e]; exact L.M, by rw [e]; exact L.rm⟩
theorem LB.one (L : LB F N nm W φ ps) (h1 : q.1 ∈ N.hs) (h2 : q.2 ∈ N.hs) (Fa : Faith N q) (e : N'.f = (N.setF q.1 q.2).f) (e1 : N'.hs = N.hs) (e2 : N'.size = N.size) : LB F N' nm W φ (ps ++ [q]) := by
  rw [L.hs] at h1 h2
  have F2 : FaithF F.size N.f q := by rw [← L.z]; exact Fa
  have lt := rooms_lt L.M h1 h2 F2
  have e' : N'.f = fun h => if h = q.1 then q.2 else N.f h := e
  refine ⟨?_, e1.trans L.hs, e2.trans L.z, fun p hp => ?_, fun j p hj => ?_, by rw [e']; exact L.M.step h1 h2 F2, ?_⟩
  · rw [e', chg_snoc, L.f]; rfl
  · rcases List.mem_append.mp hp with z | z
    · exact L.m p z
    · rw [List.mem_singleton.mp z]; exact ⟨h1, h2⟩
  · by_cases lj : j < ps.length
    · rw [List.getElem?_append_left lj] at hj
      rw [List.take_append_of_le_length (Nat.le_of_lt lj)]
      exact L.fa j p hj
    · rw [List.getElem?_append_right (by omega)] at hj
      have h0 : j - ps.length = 0 := by
        cases hk : j - ps.length with
        | zero => rfl
        | succ k => rw [hk] at hj; simp at hj
      rw [h0] at hj
      have ej : q = p := Option.some.inj hj
      subst ej
      rw [show j = ps.length by omega, List.take_append_of_le_length (Nat.le_refl _), List.take_length]
      rw [faith_iff, chg_hs.2.1, ← L.f]
      exact F2
  · rw [e', List.length_append]
    have := L.rm
    show _ + (ps.length + 1) ≤ _
    have lt' : roomsOf F.size F.hs nm W φ (fun h => if h = q.1 then q.2 else N.f h) < roomsOf F.size F.hs nm W φ N.f := lt
    omega
theorem rooms_le {size : Int} {hs : List Int} {f : Int → Int} : roomsOf size hs nm W φ f ≤ hs.length * hs.length := by
  unfold roomsOf
  have : ∀ T : List Int, ((T.map (roomOf size hs nm W φ f)).sum) ≤ T.length * hs.length := fun T => by
    induction T with
    | nil => simp
    | cons a r ih =>
      rw [List.map_cons, List.sum_cons, List.length_cons, Nat.add_mul, Nat.one_mul]
      have := roomOf_le (size := size) (hs := hs) (nm := nm) (W := W) (φ := φ) (f := f) (h := a)
      omega
  exact this hs
theorem LB.len (L : LB F N nm W φ ps) : ps.length ≤ 2025 := by
  have h := L.rm
  have h2 := rooms_le (size := F.size) (hs := F.hs) (nm := nm) (W := W) (φ := φ) (f := F.f)
  have h3 := Nat.mul_le_mul L.M.hl L.M.hl
  omega
def chgd (hs : List Int) (f g : Int → Int) : List (Int × Int) := (hs.filter fun h => decide (g h ≠ f h)).map fun h => (h, g h)
theorem chgd_snoc {hs : List Int} {f g : Int → Int} : chgd (hs ++ [h]) f g = chgd hs f g ++ if g h = f h then [] else [(h, g h)] := by
  unfold chgd
  rw [List.filter_append, List.map_append]
  congr 1
  by_cases e : g h = f h
  · rw [if_pos e, List.filter_cons, if_neg (by simp [e])]; rfl
  · rw [if_neg e, List.filter_cons, if_pos (by simp [e])]; rfl
theorem filter_one {hs : List Int} {u : Int} (nd : hs.Nodup) (hu : u ∈ hs) {p : Int → Bool} (hp : ∀ y ∈ hs, p y = true ↔ y = u) : hs.filter p = [u] := by
  induction hs with
  | nil => cases hu
  | cons a r ih =>
    obtain ⟨n1, n2⟩ := List.nodup_cons.mp nd
    rw [List.filter_cons]
    by_cases e : a = u
    · subst e
      rw [if_pos ((hp a List.mem_cons_self).mpr rfl)]
      congr 1
      rw [List.filter_eq_nil_iff]
      intro y hy z
      exact n1 (((hp y (List.mem_cons_of_mem _ hy)).mp z) ▸ hy)
    · rw [if_neg (fun z => e ((hp a List.mem_cons_self).mp z))]
      exact ih n2 ((List.mem_cons.mp hu).resolve_left (Ne.symm e)) fun y hy => hp y (List.mem_cons_of_mem _ hy)
theorem OneCh.log (c : OneCh N N') (ok : N.Ok) (L : LB F N nm W φ ps) : LB F N' nm W φ (ps ++ chgd N.hs N.f N'.f) ∧ oldsOf F (ps ++ chgd N.hs N.f N'.f) = oldsOf F ps ++ (chgd N.hs N.f N'.f).map fun q => N.f q.1 := by
  obtain ⟨e1, e2, e | ⟨q, h1, h2, Fa, e⟩⟩ := c
  · have : chgd N.hs N.f N'.f = [] := by
      unfold chgd
      rw [List.filter_eq_nil_iff.mpr (fun y _ => by rw [e]; simp)]
      rfl
    rw [this, List.append_nil]
    exact ⟨L.same e e1 e2, by simp⟩
  · have ne : q.2 ≠ N.f q.1 := fun z => by
      have b : btw N.size q.1 q.2 (N.f q.1) = true := Fa.1
      unfold btw at b
      have := of_decide_eq_true b
      rw [z] at this
      omega
    have ev : ∀ y, N'.f y = if y = q.1 then q.2 else N.f y := fun y => by rw [e]; rfl
    have : chgd N.hs N.f N'.f = [q] := by
      unfold chgd
      rw [filter_one ok.nd h1 (fun y _ => by
        rw [decide_eq_true_iff, ev]
        by_cases c : y = q.1
        · rw [if_pos c, c]; exact ⟨fun _ => rfl, fun _ => ne⟩
        · rw [if_neg c]; exact ⟨fun z => absurd rfl z, fun z => absurd z c⟩)]
      show [(q.1, N'.f q.1)] = [q]
      rw [ev, if_pos rfl]
    rw [this, olds_snoc, ← L.f]
    exact ⟨L.one h1 h2 Fa e e1 e2, rfl⟩
end
structure LgAt (H : Hp) (lg l0 l1 : Addr) (ps : List (Int × Int)) (os : List Int) : Prop where
  g : H lg = some (.lst [.ref l0, .ref l1])
  p : ∃ lv, H l0 = some (.lst lv) ∧ PrIs H ps lv
  o : H l1 = some (.lst (os.map V.int))
theorem LgAt.fr {H H' : Hp} {M : List Addr} {lg l0 l1 : Addr} {ps : List (Int × Int)} {os : List Int} (x : LgAt H lg l0 l1 ps os) (f : Fr M H H') (n1 : lg ∉ M) (n2 : l0 ∉ M) (n3 : l1 ∉ M) : LgAt H' lg l0 l1 ps os :=
  ⟨f.at_ _ _ x.g n1, let ⟨lv, a, b⟩ := x.p; ⟨lv, f.at_ _ _ a n2, b.fr f⟩, f.at_ _ _ x.o n3⟩
structure OffL (A : Ads) (tb lg l0 l1 : Addr) : Prop where
  t : tb ∉ l0 :: l1 :: A.all
  g : lg ∉ l0 :: l1 :: A.all
  p : l0 ∉ l1 :: A.p :: A.tc :: A.all
  o : l1 ∉ l0 :: A.p :: A.tc :: A.all
theorem all_of {A : Ads} {y : Addr} {L : List Addr} (h : y ∉ L) (s : ∀ a ∈ A.all, a ∈ L) : y ∉ A.all := fun z => h (s y z)
theorem tape_sub {A : Ads} : ∀ a ∈ [A.tp], a ∈ A.all := fun a h => by simp at h; simp [Ads.all, h]
theorem OffL.a {A : Ads} {tb lg l0 l1 : Addr} (x : OffL A tb lg l0 l1) : tb ∉ A.all ∧ lg ∉ A.all ∧ l0 ∉ A.all ∧ l1 ∉ A.all ∧ l0 ≠ l1 :=
  ⟨fun z => x.t (by simp [z]), fun z => x.g (by simp [z]), fun z => x.p (by simp [z]), fun z => x.o (by simp [z]), fun z => x.p (by simp [z])⟩
def spLawLetters (C : Addr) : Sp := fun vs H Q _ => ∃ (A : Ads) (F N : NS) (tb lg l0 l1 : Addr) (nm W φ : Int → Int) (ps : List (Int × Int)) (_ : Unit), vs = [.ref A.tp, .ref A.p, .int N.size, .ref tb, .ref lg] ∧ WW C H A N N ∧ N.Ok ∧ N.Say ∧ N.post.length ≤ 60 ∧ H tb = some (.lst [.ref A.dn, .ref A.dk, .ref A.dp]) ∧ LgAt H lg l0 l1 ps (oldsOf F ps) ∧ LB F N nm W φ ps ∧ OffL A tb lg l0 l1 ∧
  ∀ N' ps' H', WW C H' A N' N' → N'.Ok → N'.Say → N'.post.length ≤ 60 → N'.size = N.size → LgAt H' lg l0 l1 ps' (oldsOf F ps') → LB F N' nm W φ ps' → ps.length ≤ ps'.length → Fr (l0 :: l1 :: A.all) H H' → Q (.bl true) H'
section
variable {P : Program} {w : World} {K : PySem.W.Frag} {mg : Str → Option Value} {base : Heap} {CNet CMender CDesk CStore CWalk : Addr}
abbrev s__law_letters : Stmt := top 74
theorem sc__law_letters : FnScope ["tape", "net", "size", "tables", "logs", "nexts", "old", "done", "house"] ["tape", "net", "size", "tables", "logs"] (defScope s__law_letters) := ⟨rfl, rfl, rfl, by decide +kernel, rfl, by decide +kernel, by decide +kernel⟩
theorem ok__law_letters {f : Addr} {fd : FuncData} (F : Fun K "_law_letters" "_law_letters" s__law_letters f fd) (m_dict : mg "dict" = none) (G__law_pick : GF P w K mg base "_law_pick" 1 ["tape", "size"] spPick) (m_len : mg "len" = none) (G__law_chat : GF P w K mg base "_law_chat" 7 ["tape", "net", "size", "nexts", "behinds", "post"] (spChat CNet)) (G__law_deed : GF P w K mg base "_law_deed" 6 ["tape", "net", "size", "nexts", "behinds", "post"] (spDeed1 CNet)) (m_sorted : mg "sorted" = none) (G__law_stands : GF P w K mg base "_law_stands" 6 ["net", "size", "nexts", "behinds", "post"] (spStands CNet)) (T : NetT K CNet) : FnOk P w K mg base CX0 8 f fd ["tape", "net", "size", "tables", "logs"] (spLawLetters CNet) := by
  refine F.ok sc__law_letters (fun vs H Q E h => ?_) (fun cdv A outer s H vs Q E hr h => ?_)
  · obtain ⟨_, _, _, _, _, _, _, _, _, _, _, _, rfl, _⟩ := h; rfl
  · obtain ⟨A, F, N, tb, lg, l0, l1, nm, W, φ, ps, _, rfl, w, ok, say, hpl, hb, G, L, off, k⟩ := h
    refine ⟨_, (pss_cons (ps_set (i := 5) sc__law_letters.nd rfl (Or.inl rfl) (pe_ix (ix_listK (K := K) rfl) (pv 3) pe_int (by intro _ _; rfl)))
      (pss_cons (ps_set (i := 6) sc__law_letters.nd rfl (Or.inl rfl) (pe_callTy cb_dictD (by rfl) m_dict b_dict (pa_cons (pv 5) pa_nil)))
      (pss_cons (ps_if (PW.pt (pw_and (pt_cmpR op_gt (pe_callB cb_lenD (by rfl) m_len b_len (pa_cons (pv 5) pa_nil)) pe_int (nomark _)) (pw_and1 (pt_cmpR op_eq (c_fn G__law_pick (hr.mono (by decide)) (pa_cons (pv 0) (pa_cons pe_int pa_nil))) pe_int (nomark _))))) (pss_cons (ps_if (pt_cmpR op_eq (c_fn G__law_pick (hr.mono (by decide)) (pa_cons (pv 0) (pa_cons pe_int pa_nil))) pe_int (nomark _)) (pss_one (ps_set (i := 7) sc__law_letters.nd rfl (Or.inl rfl) (c_fn G__law_chat (hr.mono (by decide)) (pa_cons (pv 0) (pa_cons (pv 1) (pa_cons (pv 2) (pa_cons (pv 5) (pa_cons (pe_ix (ix_listK (K := K) rfl) (pv 3) pe_int (by intro _ _; rfl)) (pa_cons (pe_ix (ix_listK (K := K) rfl) (pv 3) pe_int (by intro _ _; rfl)) pa_nil))))))))) (pss_one (ps_set (i := 7) sc__law_letters.nd rfl (Or.inl rfl) (c_fn G__law_deed (hr.mono (by decide)) (pa_cons (pv 0) (pa_cons (pv 1) (pa_cons (pv 2) (pa_cons (pv 5) (pa_cons (pe_ix (ix_listK (K := K) rfl) (pv 3) pe_int (by intro _ _; rfl)) (pa_cons (pe_ix (ix_listK (K := K) rfl) (pv 3) pe_int (by intro _ _; rfl)) pa_nil))))))))))
      (pss_one (ps_if (pt_not (pt_val (pv 7))) (pss_one (ps_ret pe_bl)) pss_nil))) pss_nil)
      (pss_cons (ps_for PassesOwn.never rfl (pi_listK (K := K) rfl (pe_callB (cb_sortD rfl) (by rfl) m_sorted b_sorted (pa_cons (pv 5) pa_nil))) (pg_name (i := 8) sc__law_letters.nd rfl (Or.inl rfl))
      (pss_one (ps_if (pt_cmpR op_ne (pe_dget (hu_of hr) (pv 5) (pv 8) (by intro _ _; rfl)) (pe_dget (hu_of hr) (pv 6) (pv 8) (by intro _ _; rfl)) (nomark _)) (pss_cons (ps_expr (pe_bmK (K := K) rfl PySem.F.plainAttrs_list PySem.F.slot_list_append PySem.F.type_list_append mt_append (pe_ix (ix_listK (K := K) rfl) (pv 4) pe_int (by intro _ _; rfl)) (pa_cons (pe_tup (pa_cons (pv 8) (pa_cons (pe_dget (hu_of hr) (pv 5) (pv 8) (by intro _ _; rfl)) pa_nil))) pa_nil)))
      (pss_one (ps_expr (pe_bmK (K := K) rfl PySem.F.plainAttrs_list PySem.F.slot_list_append PySem.F.type_list_append mt_append (pe_ix (ix_listK (K := K) rfl) (pv 4) pe_int (by intro _ _; rfl)) (pa_cons (pe_dget (hu_of hr) (pv 6) (pv 8) (by intro _ _; rfl)) pa_nil))))) pss_nil)))
      (pss_one (ps_ret (c_fn G__law_stands (hr.mono (by decide)) (pa_cons (pv 1) (pa_cons (pv 2) (pa_cons (pv 5) (pa_cons (pe_ix (ix_listK (K := K) rfl) (pv 3) pe_int (by intro _ _; rfl)) (pa_cons (pe_ix (ix_listK (K := K) rfl) (pv 3) pe_int (by intro _ _; rfl)) pa_nil)))))))))))), ?_⟩
    (try simp only [cxK, cxKX, List.map])
    refine ent (σ' := [some _, some _, some _, some _, some _, none, none, none, none]) rfl ?_
    obtain ⟨dn_dp, dk_dp, dn_tp, dk_tp, dp_tp⟩ := w.ne
    obtain ⟨ot, og, op, oo, l01⟩ := off.a
    obtain ⟨kn, hn, dN⟩ := w.tab.nx
    have hlen := ok.hl
    have knl := dN.len ok.ascF
    k_offL
    refine r_ixL (sqL_of hb) (ix_at 0 rfl rfl) ?_
    k_offL
    refine r_dictD (.inl hn) fun od H1 n1 e1 f1 => ?_
    have w1 := w.ex0 f1
    have G1 := G.fr f1 List.not_mem_nil List.not_mem_nil List.not_mem_nil
    have hb1 := f1.at_ _ _ hb List.not_mem_nil
    have hn1 := f1.at_ _ _ hn List.not_mem_nil
    have od_all : od ∉ A.p :: A.tc :: A.all := none_off w.somes n1
    have od_l0 : od ≠ l0 := by obtain ⟨_, a, _⟩ := G.p; exact (ne_of_none a n1).symm
    have od_l1 : od ≠ l1 := (ne_of_none G.o n1).symm
    k_places
    refine q_cut (fun σ' H' => ∃ (v7 : Option V) (N' : NS), σ' = [some (.ref A.tp), some (.ref A.p), some (.int N.size), some (.ref tb), some (.ref lg), some (.ref A.dn), some (.ref od), v7, none] ∧ WW CNet H' A N' N' ∧ N'.Ok ∧ N'.Say ∧ N'.post.length ≤ 60 ∧ OneCh N N' ∧ Fr A.all H1 H') (fun Nx kN => ?_) ?_
    · refine s_if ?_
      refine cutT (t := tAnd _ _) (fun b H' => ∃ t : TapeAt H' A.tp A.tc, Fr [A.tp] H1 H' ∧ (b = true → 0 < N.hs.length)) (fun R kR => ?_) ?_
      · k_offL
        refine r_lenD (.inl hn1) ?_
        rw [knl]
        k_offL
        refine ifD (fun e => ?_) (fun e => ?_)
        · k_offL
          refine i_pick w1.tape (by decide) (by decide) fun m H2 a2 b2 t2 f2 => ?_
          k_offL
          exact kR _ _ ⟨t2, f2, fun _ => by omega⟩
        · exact kR _ _ ⟨w1.tape, Fr.refl _ _, fun z => nomatch z⟩
      rintro b H2 ⟨t2, f2, hb0⟩
      have w2 := w1.tape' f2 t2
      have hb2 : H2 tb = _ := f2.at_ _ _ hb1 (fun z => ot (tape_sub _ z))
      cases b with
      | false =>
        k_offL
        exact kN _ _ ⟨_, N, rfl, w2, ok, say, hpl, ⟨rfl, rfl, .inl rfl⟩, f2.tape⟩
      | true =>
        have hpos := hb0 rfl
        k_places
        refine q_cut (fun σ' H' => ∃ (N' : NS), σ' = [some (.ref A.tp), some (.ref A.p), some (.int N.size), some (.ref tb), some (.ref lg), some (.ref A.dn), some (.ref od), some (.bl true), none] ∧ WW CNet H' A N' N' ∧ N'.Ok ∧ N'.Say ∧ N'.post.length ≤ 60 ∧ OneCh N N' ∧ Fr A.all H2 H') (fun Ny kM => ?_) ?_
        · k_offL
          refine i_pick w2.tape (by decide) (by decide) fun m H3 a3 b3 t3 f3 => ?_
          have w3 := w2.tape' f3 t3
          have hb3 : H3 tb = _ := f3.at_ _ _ hb2 (fun z => ot (tape_sub _ z))
          k_offL
          refine ifD (fun e => ?_) (fun e => ?_)
          · k_offL
            refine r_ixL (sqL_of hb3) (ix_at 1 rfl rfl) ?_
            k_offL
            refine r_ixL (sqL_of hb3) (ix_at 2 rfl rfl) ?_
            k_offL
            refine ⟨A, N, (), (), rfl, w3, ok, hpos, by omega, fun h x H4 hh e4 w4 f4 => ?_⟩
            obtain ⟨c1, c2, c3, c4⟩ := chat_ch ok say hh (by omega) e4
            k_offL
            exact kM _ _ ⟨_, rfl, w4, c2, c3, by rw [c4]; exact hpl, c1, f3.tape.trans f4⟩
          · k_offL
            refine r_ixL (sqL_of hb3) (ix_at 1 rfl rfl) ?_
            k_offL
            refine r_ixL (sqL_of hb3) (ix_at 2 rfl rfl) ?_
            k_offL
            refine ⟨A, N, (), (), rfl, w3, ok, hpos, hpl, fun N' H4 s4 l4 w4 f4 => ?_⟩
            k_offL
            exact kM _ _ ⟨N', rfl, w4, s4.ok ok, (s4.good ok say).1, l4, s4.ch ok say, f3.tape.trans f4⟩
        rintro _ H3 ⟨N', rfl, w3, ok3, say3, pl3', ch3, f3⟩
        k_offL
        exact kN _ _ ⟨_, N', rfl, w3, ok3, say3, pl3', ch3, f2.tape.trans f3⟩
    rintro _ H2 ⟨v7, N', rfl, w2, ok2, say2, pl2', ch2, f2⟩
    obtain ⟨kn2, hn2, dN2⟩ := w2.tab.nx
    have hs2 := ch2.1
    have e2 : H2 od = some (.dK kn) := f2.at_ _ _ e1 (fun z => od_all (by simp [z]))
    have hb2 := f2.at_ _ _ hb1 ot
    have G2 := G1.fr f2 og op oo
    have L2 := ch2.log ok L
    k_offL
    refine r_sortD (.inl hn2) dN2 ok2.ascF (by have := ok2.hl; omega) fun l3 H3 n3 e3 f3 => ?_
    have w3 := w2.ex0 f3
    have G3 := G2.fr f3 List.not_mem_nil List.not_mem_nil List.not_mem_nil
    have hn3 := f3.at_ _ _ hn2 List.not_mem_nil
    have e23 := f3.at_ _ _ e2 List.not_mem_nil
    have l3l0 : l3 ≠ l0 := by obtain ⟨_, a, _⟩ := G2.p; exact (ne_of_none a n3).symm
    have l3l1 : l3 ≠ l1 := (ne_of_none G2.o n3).symm
    rw [hs2] at e3
    refine loopLF (M := [l0, l1]) (N.hs.map V.int) (sqL_of e3) (by simp [l3l0, l3l1]) (fun i σ' H' => ∃ (v7 v8 : Option V), σ' = [some (.ref A.tp), some (.ref A.p), some (.int N.size), some (.ref tb), some (.ref lg), some (.ref A.dn), some (.ref od), v7, v8] ∧ LgAt H' lg l0 l1 (ps ++ chgd (N.hs.take i) N.f N'.f) (oldsOf F ps ++ (chgd (N.hs.take i) N.f N'.f).map fun q => N.f q.1) ∧ Fr [l0, l1] H3 H')
      ⟨_, _, rfl, by rw [List.take_zero]; show LgAt _ _ _ _ (ps ++ []) (oldsOf F ps ++ []); rw [List.append_nil, List.append_nil]; exact G3, Fr.refl _ _⟩ (fun i σ' H' ⟨_, _, _, _, f⟩ => f) ?_ ?_
    · rintro i x σ' H4 hi ⟨v7, v8, rfl, G4, f4⟩
      obtain ⟨h, hh, hm, rfl⟩ := mem_ints hi
      have il : i < N.hs.length := (List.getElem?_eq_some_iff.mp hh).1
      have hsn := take_snoc hh
      have dn0 : A.dn ∉ [l0, l1] := fun z => by simp at z; rcases z with z | z; exact op (by simp [← z, Ads.all]); exact oo (by simp [← z, Ads.all])
      have hn4 := f4.at_ _ _ hn3 dn0
      have e4 := f4.at_ _ _ e23 (by simp [od_l0, od_l1])
      have cl : (chgd (N.hs.take i) N.f N'.f).length ≤ 45 := by
        unfold chgd
        rw [List.length_map]
        exact Nat.le_trans (List.length_filter_le _ _) (by rw [List.length_take]; omega)
      have pl := L.len
      k_offL
      refine dgetk (.inl hn4) (by rw [dN2.val, NS.mf_at (by rw [hs2]; exact hm)]) ?_
      k_offL
      refine dgetk (.inl e4) (by rw [dN.val, NS.mf_at hm]) ?_
      k_offL
      refine ifN (fun e => ?_) (fun e => ?_)
      · obtain ⟨lv, hl0, pr⟩ := G4.p
        k_offL
        refine r_ixL (sqL_of G4.g) (ix_at 0 rfl rfl) ?_
        k_offL
        refine dgetk (.inl hn4) (by rw [dN2.val, NS.mf_at (by rw [hs2]; exact hm)]) ?_
        k_offL
        refine tupk (by show 2 ≤ 100000; decide) fun t H5 n5 e5 f5 => ?_
        have hl05 := f5.at_ _ _ hl0 List.not_mem_nil
        k_offL
        refine r_app hl05 (by rw [pr.len, List.length_append]; omega) fun H6 e6 f6 => ?_
        have f46 : Fr [l0, l1] H4 H6 := f5.up.trans (f6.mono fun a h => by simp at h; simp [h])
        have lg0 : lg ∉ [l0] := fun z => off.g (by simp at z; simp [z])
        have hg6 := f6.at_ _ _ (f5.at_ _ _ G4.g List.not_mem_nil) lg0
        have ho6 := f6.at_ _ _ (f5.at_ _ _ G4.o List.not_mem_nil) (mem_one l01.symm)
        have pr6 := (((pr.fr f5).snoc (p := (h, N'.f h)) e5).fr f6)
        have e46 := f46.at_ _ _ e4 (by simp [od_l0, od_l1])
        k_offL
        refine r_ixL (sqL_of hg6) (ix_at 1 rfl rfl) ?_
        k_offL
        refine dgetk (.inl e46) (by rw [dN.val, NS.mf_at hm]) ?_
        k_offL
        refine r_app ho6 (by rw [List.length_map, List.length_append, List.length_map, olds_len]; omega) fun H7 e7 f7 => ?_
        have lg1 : lg ∉ [l1] := fun z => off.g (by simp at z; simp [z])
        refine ⟨_, _, rfl, ⟨f7.at_ _ _ hg6 lg1, ⟨_, f7.at_ _ _ e6 (mem_one l01), ?_⟩, ?_⟩, f4.trans (f46.trans (f7.mono fun a h => by simp at h; simp [h]))⟩
        · rw [hsn, chgd_snoc, if_neg e, ← List.append_assoc]
          exact pr6.fr f7
        · rw [e7, hsn, chgd_snoc, if_neg e]
          simp only [List.map_append, List.append_assoc, List.map_cons, List.map_nil]
      · k_offL
        refine ⟨_, _, rfl, ?_, f4⟩
        rw [hsn, chgd_snoc, if_pos e, List.append_nil]
        exact G4
    · rintro σ' H4 ⟨v7, v8, rfl, G4, f4⟩
      rw [List.length_map, List.take_length] at G4
      have f34 : Fr (l0 :: l1 :: A.all) H3 H4 := f4.mono fun a h => by simp at h; rcases h with h | h <;> simp [h]
      have offs : ∀ y ∈ A.p :: A.tc :: A.all, y ∉ [l0, l1] := fun y hy z => by
        simp only [List.mem_cons, List.not_mem_nil, or_false] at z
        rcases z with z | z
        · exact off.p (List.mem_cons_of_mem _ (z ▸ hy))
        · exact off.o (List.mem_cons_of_mem _ (z ▸ hy))
      have w4 := w3.frn f4 offs
      have hb4 := f34.at_ _ _ (f3.at_ _ _ hb2 List.not_mem_nil) off.t
      rw [← L2.2] at G4
      k_offL
      refine r_ixL (sqL_of hb4) (ix_at 1 rfl rfl) ?_
      k_offL
      refine r_ixL (sqL_of hb4) (ix_at 2 rfl rfl) ?_
      k_offL
      refine ⟨A.p, A.da, A.db, A.dl, A.dn, A.dk, A.dp, N', by rw [ch2.2.1], w4.net, w4.tab, ok2, fun H5 f5 => ?_⟩
      exact k N' _ H5 (w4.ex0 f5) ok2 say2 pl2' ch2.2.1 (G4.fr f5 List.not_mem_nil List.not_mem_nil List.not_mem_nil) L2.1 (by rw [List.length_append]; omega) ((((f1.up.trans (f2.mono fun a h => by simp [h])).trans f3.up).trans f34).trans f5.up)
end
theorem fr_all0 {A : Ads} {M : List Addr} {H H' : Hp} (f : Fr M H H') {L : List Addr} (h : ∀ a ∈ M, a ∈ L) : Fr L H H' := f.mono h
def spLawChanged (C : Addr) : Sp := fun vs H Q _ => ∃ (A : Ads) (F N : NS) (lg l0 l1 : Addr) (nm W φ : Int → Int) (ps : List (Int × Int)) (_ : Unit), vs = [.ref A.tp, .ref A.p, .int N.size, .ref A.dn, .ref lg] ∧ WW C H A N N ∧ N.Ok ∧ N.Say ∧ N.post.length ≤ 60 ∧ LgAt H lg l0 l1 ps (oldsOf F ps) ∧ LB F N nm W φ ps ∧ OffL A lg lg l0 l1 ∧ (∃ q : Int × Int, q.1 ∈ N.hs ∧ q.2 ∈ N.hs ∧ Faith N q) ∧
  ∀ N' ps' H', WW C H' A N' N' → N'.Ok → N'.Say → N'.post.length ≤ 60 → N'.size = N.size → LgAt H' lg l0 l1 ps' (oldsOf F ps') → LB F N' nm W φ ps' → ps.length < ps'.length → Fr (l0 :: l1 :: A.all) H H' → Q (.bl true) H'
theorem chg_app {N : NS} {ps qs : List (Int × Int)} : N.chg (ps ++ qs) = (N.chg ps).chg qs := by unfold NS.chg; rw [List.foldl_append]
theorem olds_app {N : NS} {ps qs : List (Int × Int)} : oldsOf N (ps ++ qs) = oldsOf N ps ++ oldsOf (N.chg ps) qs := by
  induction ps generalizing N with
  | nil => rfl
  | cons p ps ih => show N.f p.1 :: oldsOf (N.setF p.1 p.2) (ps ++ qs) = _; rw [ih]; rfl
theorem olds_cong {N M : NS} {ps : List (Int × Int)} (e : N.f = M.f) : oldsOf N ps = oldsOf M ps := by
  induction ps generalizing N M with
  | nil => rfl
  | cons p ps ih =>
    show N.f p.1 :: oldsOf (N.setF p.1 p.2) ps = M.f p.1 :: oldsOf (M.setF p.1 p.2) ps
    rw [e, ih (N := N.setF p.1 p.2) (M := M.setF p.1 p.2) (by show (fun h => if h = p.1 then p.2 else N.f h) = fun h => if h = p.1 then p.2 else M.f h; rw [e])]
section
variable {P : Program} {w : World} {K : PySem.W.Frag} {mg : Str → Option Value} {base : Heap} {CNet CMender CDesk CStore CWalk : Addr}
abbrev s__law_changed : Stmt := top 75
theorem sc__law_changed : FnScope ["tape", "net", "size", "nexts", "logs", "log", "olds", "k", "pairs", "house", "given"] ["tape", "net", "size", "nexts", "logs"] (defScope s__law_changed) := ⟨rfl, rfl, rfl, by decide +kernel, rfl, by decide +kernel, by decide +kernel⟩
theorem ok__law_changed {f : Addr} {fd : FuncData} (F : Fun K "_law_changed" "_law_changed" s__law_changed f fd) (m_range : mg "range" = none) (G__law_pick : GF P w K mg base "_law_pick" 1 ["tape", "size"] spPick) (G__law_faithful : GF P w K mg base "_law_faithful" 4 ["size", "nexts"] spLawFaithful) (m_len : mg "len" = none) (m_list : mg "list" = none) (G__law_same : GF P w K mg base "_law_same" 5 ["actual", "due"] (spSame 4)) (G_apply_changes : GF P w K mg base "apply_changes" 3 ["net", "changes"] (spApply CNet)) (T : NetT K CNet) : FnOk P w K mg base CX0 6 f fd ["tape", "net", "size", "nexts", "logs"] (spLawChanged CNet) := by
  refine F.ok sc__law_changed (fun vs H Q E h => ?_) (fun cdv A outer s H vs Q E hr h => ?_)
  · obtain ⟨_, _, _, _, _, _, _, _, _, _, _, rfl, _⟩ := h; rfl
  · obtain ⟨A, F, N, lg, l0, l1, nm, W, φ, ps, _, rfl, w, ok, say, hpl, G, L, off, hq0, k⟩ := h
    refine ⟨_, (pss_cons (ps_set (i := 5) sc__law_changed.nd rfl (Or.inl rfl) (pe_lst pa_nil))
      (pss_cons (ps_set (i := 6) sc__law_changed.nd rfl (Or.inl rfl) (pe_lst pa_nil))
      (pss_cons (ps_for PassesOwn.never rfl (pi_range1 (by rfl) m_range (pa_cons (pe_op op_add pe_int (c_fn G__law_pick (hr.mono (by decide)) (pa_cons (pv 0) (pa_cons pe_int pa_nil)))) pa_nil)) (pg_name (i := 7) sc__law_changed.nd rfl (Or.inl rfl))
      (pss_cons (ps_set (i := 8) sc__law_changed.nd rfl (Or.inl rfl) (c_fn G__law_faithful (hr.mono (by decide)) (pa_cons (pv 2) (pa_cons (pv 3) pa_nil))))
      (pss_one (ps_if (pt_cmpR op_gt (pe_callB (cb_lenSK (K := K) rfl) (by rfl) m_len b_len (pa_cons (pv 8) pa_nil)) pe_int (nomark _)) (pss_cons (ps_expr (pe_bmK (K := K) rfl PySem.F.plainAttrs_list PySem.F.slot_list_append PySem.F.type_list_append mt_append (pv 5) (pa_cons (pe_ix (ix_listK (K := K) rfl) (pv 8) (c_fn G__law_pick (hr.mono (by decide)) (pa_cons (pv 0) (pa_cons (pe_callB (cb_lenSK (K := K) rfl) (by rfl) m_len b_len (pa_cons (pv 8) pa_nil)) pa_nil))) (by intro _ _; rfl)) pa_nil)))
      (pss_cons (ps_set (i := 9) sc__law_changed.nd rfl (Or.inl rfl) (pe_ix (ix_tupK (K := K) rfl) (pe_ix (ix_listK (K := K) rfl) (pv 5) (pe_un un_neg pe_int) (by intro _ _; rfl)) pe_int (by intro _ _; rfl)))
      (pss_cons (ps_expr (pe_bmK (K := K) rfl PySem.F.plainAttrs_list PySem.F.slot_list_append PySem.F.type_list_append mt_append (pv 6) (pa_cons (pe_dget (hu_of hr) (pv 3) (pv 9) (by intro _ _; rfl)) pa_nil)))
      (pss_one (ps_dput (hu_of hr) (pv 3) (pv 9) (pe_ix (ix_tupK (K := K) rfl) (pe_ix (ix_listK (K := K) rfl) (pv 5) (pe_un un_neg pe_int) (by intro _ _; rfl)) pe_int (by intro _ _; rfl)) rfl))))) pss_nil))))
      (pss_cons (ps_expr (pe_bmK (K := K) rfl PySem.F.plainAttrs_list PySem.F.slot_list_extend PySem.F.type_list_extend mt_extend (pe_ix (ix_listK (K := K) rfl) (pv 4) pe_int (by intro _ _; rfl)) (pa_cons (pv 5) pa_nil)))
      (pss_cons (ps_expr (pe_bmK (K := K) rfl PySem.F.plainAttrs_list PySem.F.slot_list_extend PySem.F.type_list_extend mt_extend (pe_ix (ix_listK (K := K) rfl) (pv 4) pe_int (by intro _ _; rfl)) (pa_cons (pv 6) pa_nil)))
      (pss_cons (ps_set (i := 10) sc__law_changed.nd rfl (Or.inl rfl) (pe_callTy (cb_listOfK (K := K) rfl) (by rfl) m_list b_list (pa_cons (pv 5) pa_nil)))
      (pss_one (ps_ret (pe_and (c_fn G__law_same (hr.mono (by decide)) (pa_cons (c_fn G_apply_changes (hr.mono (by decide)) (pa_cons (pv 1) (pa_cons (pv 10) pa_nil))) (pa_cons (pv 6) pa_nil))) (pe_one (pe_cmpR (op_eqDK (K := K) rfl hr.units) (pv 10) (pv 5) (nomark _)))))))))))), ?_⟩
    (try simp only [cxK, cxKX, List.map])
    refine ent (σ' := [some _, some _, some _, some _, some _, none, none, none, none, none, none]) rfl ?_
    obtain ⟨dn_dp, dk_dp, dn_tp, dk_tp, dp_tp⟩ := w.ne
    obtain ⟨_, og, op, oo, l01⟩ := off.a
    have hlen := ok.hl
    have h0 := ok.s0
    have h1 := ok.s1
    k_offL
    refine lstk (by show 0 ≤ 100000; decide) fun a1 H1 n1 e1 f1 => ?_
    k_offL
    refine lstk (by show 0 ≤ 100000; decide) fun a2 H2 n2 e2 f2 => ?_
    have a12 : a1 ≠ a2 := ne_of_none e1 n2
    have f02 := f1.trans f2
    have n20 : H a2 = none := f1.free n2
    have e12 := f2.at_ _ _ e1 List.not_mem_nil
    have w2 := w.ex0 f02
    have G2 := G.fr f02 List.not_mem_nil List.not_mem_nil List.not_mem_nil
    have a1_all : a1 ∉ A.p :: A.tc :: A.all := none_off w.somes n1
    have a2_all : a2 ∉ A.p :: A.tc :: A.all := none_off w.somes n20
    have gs : ∀ y ∈ [lg, l0, l1], (H y).isSome = true := fun y hy => by
      obtain ⟨_, g0, _⟩ := G.p
      simp at hy
      rcases hy with z | z | z <;> rw [z]
      · rw [G.g]; rfl
      · rw [g0]; rfl
      · rw [G.o]; rfl
    have a1_g : a1 ∉ [lg, l0, l1] := none_off gs n1
    have a2_g : a2 ∉ [lg, l0, l1] := none_off gs n20
    simp only [Ads.all, List.mem_cons, List.not_mem_nil, or_false, not_or] at a1_all a2_all a1_g a2_g
    obtain ⟨a1_p, a1_tc, a1_da, a1_db, a1_dl, a1_dn, a1_dk, a1_dp, a1_tp⟩ := a1_all
    obtain ⟨a2_p, a2_tc, a2_da, a2_db, a2_dl, a2_dn, a2_dk, a2_dp, a2_tp⟩ := a2_all
    obtain ⟨a1_lg, a1_l0, a1_l1⟩ := a1_g
    obtain ⟨a2_lg, a2_l0, a2_l1⟩ := a2_g
    k_offL
    refine i_pick w2.tape (by decide) (by decide) fun m H3 a3 b3 t3 f3 => ?_
    have w3 := w2.tape' f3 t3
    have e13 := f3.at_ _ _ e12 (mem_one a1_tp)
    have e23 := f3.at_ _ _ e2 (mem_one a2_tp)
    k_offL
    refine loopR1 _ (by omega) (by omega) (fun i σ' H' => ∃ (v7 v8 v9 : Option V) (log : List (Int × Int)) (lv : List V) (M : NS), σ' = [some (.ref A.tp), some (.ref A.p), some (.int N.size), some (.ref A.dn), some (.ref lg), some (.ref a1), some (.ref a2), v7, v8, v9, none] ∧ M = N.chg log ∧ H' a1 = some (.lst lv) ∧ PrIs H' log lv ∧ H' a2 = some (.lst ((oldsOf N log).map V.int)) ∧ WW CNet H' A N M ∧ M.Ok ∧ M.Say ∧ LB F M nm W φ (ps ++ log) ∧ (i = 0 ∧ log = [] ∨ 0 < log.length) ∧ log.length ≤ i ∧ Fr [A.tp, A.dn, a1, a2] H3 H')
      ⟨_, _, _, [], [], N, rfl, rfl, e13, PrIs.nil, e23, w3, ok, say, by rw [List.append_nil]; exact L, .inl ⟨rfl, rfl⟩, Nat.le_refl _, Fr.refl _ _⟩ ?_ ?_
    · rintro i σ' H4 hi ⟨v7, v8, v9, log, lv, M, rfl, eM, e4, pr, e5, w4, okM, sayM, LM, hlog, hll, f4⟩
      have hsM : M.hs = N.hs := by rw [eM]; exact chg_hs.1
      have szM : M.size = N.size := by rw [eM]; exact chg_hs.2.1
      obtain ⟨kn, hn, dN⟩ := w4.tab.nx
      have nx4 := NS.nxAt okM hn dN
      k_offL
      refine ⟨N.size, A.dn, M.hs, M.f, (), rfl, nx4, okM.up, okM.hl, h0, h1, fun pl qs lq H5 n5 e6 prq hq hql f5 => ?_⟩
      have w5 := w4.ex0 f5
      have hn5 := f5.at_ _ _ hn List.not_mem_nil
      have e45 := f5.at_ _ _ e4 List.not_mem_nil
      have e55 := f5.at_ _ _ e5 List.not_mem_nil
      have pl_tp : pl ≠ A.tp := by obtain ⟨_, _, _, _, _, tt, tcs, _⟩ := w4.tape.ex; exact (ne_of_none tt n5).symm
      have pl_a1 : pl ≠ a1 := (ne_of_none e4 n5).symm
      have pl_a2 : pl ≠ a2 := (ne_of_none e5 n5).symm
      have hF : ∀ q, FaithF N.size M.f q ↔ Faith M q := fun q => by rw [faith_iff, szM]
      k_offL
      refine r_lenL (sqL_of e6) ?_
      rw [prq.len]
      k_offL
      refine ifD (fun e => ?_) (fun e => ?_)
      · k_offL
        refine r_lenL (sqL_of e6) ?_
        rw [prq.len]
        k_offL
        refine i_pick w5.tape (by omega) (by omega) fun j H6 a6 b6 t6 f6 => ?_
        have w6 := w5.tape' f6 t6
        have jl : j.toNat < qs.length := by omega
        obtain ⟨t, et, ht⟩ := prq.at_ j.toNat _ (List.getElem?_eq_getElem jl)
        have qm := (hq _).mp (List.getElem_mem jl)
        revert ht qm
        generalize qs[j.toNat] = q
        intro ht qm
        have e66 := f6.at_ _ _ e6 (mem_one pl_tp)
        refine r_ixL (sqL_of e66) (ix_at j.toNat (by omega) et) ?_
        have ht6 := f6.tp _ _ ht
        have e46 := f6.at_ _ _ e45 (mem_one a1_tp)
        have e56 := f6.at_ _ _ e55 (mem_one a2_tp)
        have hn6 := f6.at_ _ _ hn5 (mem_one dn_tp)
        have pr6 := (pr.fr f5).fr f6
        k_offL
        refine r_app e46 (by rw [pr.len]; omega) fun H7 e7 f7 => ?_
        have ht7 := f7.tp _ _ ht6
        have hn7 := f7.at_ _ _ hn6 (mem_one (Ne.symm a1_dn))
        have e57 := f7.at_ _ _ e56 (mem_one a12.symm)
        k_offL
        refine r_ixL (sqL_of e7) (atI_last _ _) ?_
        k_offL
        refine r_ixT (sqT_of ht7) (v := .int q.1) rfl ?_
        k_offL
        refine dgetk (.inl hn7) (by rw [dN.val, NS.mf_at qm.1]) ?_
        k_offL
        refine r_app e57 (by rw [List.length_map, olds_len]; omega) fun H8 e8 f8 => ?_
        have e78 := f8.at_ _ _ e7 (mem_one a12)
        have hn8 := f8.at_ _ _ hn7 (mem_one (Ne.symm a2_dn))
        k_offL
        refine r_ixL (sqL_of e78) (atI_last _ _) ?_
        k_offL
        refine r_ixT (sqT_of (f8.tp _ _ ht7)) (v := .int q.2) rfl ?_
        k_offL
        refine dputk hn8 (okM.knl dN) fun H9 e9 f9 => ?_
        have Fq : Faith M q := (hF q).mp qm.2.2
        have e79 := f9.at_ _ _ e78 (mem_one a1_dn)
        have e89 := f9.at_ _ _ e8 (mem_one a2_dn)
        have f68 : Fr [a1, a2] H6 H8 := (f7.mono fun a h => by simp at h; simp [h]).trans (f8.mono fun a h => by simp at h; simp [h])
        have w8 := w6.frn f68 (fun y hy z => by
          simp only [List.mem_cons, List.not_mem_nil, or_false] at z
          simp only [Ads.all, List.mem_cons, List.not_mem_nil, or_false] at hy
          rcases z with z | z <;> subst z <;> simp_all)
        obtain ⟨kb8, hb8, dB8⟩ := w8.tab.bf
        obtain ⟨lv8, hl8, ls8⟩ := w8.tab.ls
        have T9 : TabAt H9 A.dn A.dk A.dp (M.setF q.1 q.2) := ⟨⟨_, e9, dN.put.cong (NS.mf_setF M q.1 q.2 qm.1)⟩, ⟨kb8, f9.at_ _ _ hb8 (mem_one w8.tab.ne.symm), dB8⟩, ⟨lv8, f9.at_ _ _ hl8 (mem_one dn_dp.symm), ls8.fr f9⟩, w8.tab.ne⟩
        have w9 := w8.tab' (f9.mono fun a h => by simp at h; simp [h]) T9
        have f49 : Fr [A.tp, A.dn, a1, a2] H4 H9 := (f5.up.trans (f6.mono fun a h => by simp at h; simp [h])).trans ((f68.mono fun a h => by simp at h; rcases h with h | h <;> simp [h]).trans (f9.mono fun a h => by simp at h; simp [h]))
        refine ⟨_, _, _, log ++ [q], lv ++ [.ref t], M.setF q.1 q.2, rfl, ?_, e79, ?_, ?_, w9, okM.setF qm.1 qm.2.1, say_setF okM sayM Fq, ?_, .inr (by rw [List.length_append]; show 0 < log.length + 1; omega), by rw [List.length_append]; show log.length + 1 ≤ i + 1; omega, f4.trans f49⟩
        · rw [eM, chg_snoc]
        · exact ((pr6.fr f7).snoc ht7).fr (f8.mono (M' := [a2, A.dn]) (fun a h => by simp at h; simp [h]) |>.trans (f9.mono fun a h => by simp at h; simp [h]))
        · rw [e89, olds_snoc, List.map_append, ← eM]; rfl
        · rw [← List.append_assoc]
          exact LM.one qm.1 qm.2.1 Fq rfl rfl rfl
      · have hne : 0 < log.length := by
          rcases hlog with ⟨_, z⟩ | z
          · exfalso
            subst z
            have eM' : M = N := eM
            subst eM'
            obtain ⟨q, g1, g2, g3⟩ := hq0
            have := (hq q).mpr ⟨g1, g2, (hF q).mpr g3⟩
            have := List.length_pos_of_mem this
            omega
          · exact z
        k_offL
        exact ⟨_, _, _, log, lv, M, rfl, eM, e45, pr.fr f5, e55, w5, okM, sayM, LM, .inr hne, by omega, f4.trans f5.up⟩
    · rintro σ' H4 ⟨v7, v8, v9, log, lv, M, rfl, eM, e4, pr, e5, w4, okM, sayM, LM, hlog, hll, f4⟩
      have hne : 0 < log.length := by
        rcases hlog with ⟨z, _⟩ | z
        · omega
        · exact z
      have f04 : Fr [A.tp, A.dn, a1, a2] H H4 := (f02.up.trans (f3.mono fun a h => by simp at h; simp [h])).trans f4
      have tp_all : A.tp ∈ A.all := by simp [Ads.all]
      have dn_all : A.dn ∈ A.all := by simp [Ads.all]
      have goff : ∀ y ∈ [lg, l0, l1], y ∉ [A.tp, A.dn, a1, a2] := fun y hy z => by
        simp only [List.mem_cons, List.not_mem_nil, or_false] at z hy
        rcases hy with hy | hy | hy <;> subst hy <;> rcases z with z | z | z | z
        · exact og (z ▸ tp_all)
        · exact og (z ▸ dn_all)
        · exact a1_lg z.symm
        · exact a2_lg z.symm
        · exact op (z ▸ tp_all)
        · exact op (z ▸ dn_all)
        · exact a1_l0 z.symm
        · exact a2_l0 z.symm
        · exact oo (z ▸ tp_all)
        · exact oo (z ▸ dn_all)
        · exact a1_l1 z.symm
        · exact a2_l1 z.symm
      have G4 := G.fr f04 (goff _ (by simp)) (goff _ (by simp)) (goff _ (by simp))
      obtain ⟨lv0, hl0, pr0⟩ := G4.p
      have pl := LM.len
      rw [List.length_append] at pl
      k_offL
      refine r_ixL (sqL_of G4.g) (ix_at 0 rfl rfl) ?_
      k_offL
      refine r_ext hl0 e4 (by rw [pr0.len, pr.len]; omega) fun H5 e6 f5 => ?_
      have lg0 : lg ∉ [l0] := fun z => off.g (by simp at z; simp [z])
      have hg5 := f5.at_ _ _ G4.g lg0
      have ho5 := f5.at_ _ _ G4.o (mem_one l01.symm)
      have e55 := f5.at_ _ _ e5 (mem_one a2_l0)
      have e45 := f5.at_ _ _ e4 (mem_one a1_l0)
      k_offL
      refine r_ixL (sqL_of hg5) (ix_at 1 rfl rfl) ?_
      k_offL
      refine r_ext ho5 e55 (by rw [List.length_map, List.length_map, olds_len, olds_len]; omega) fun H6 e7 f6 => ?_
      have lg1 : lg ∉ [l1] := fun z => off.g (by simp at z; simp [z])
      have e46 := f6.at_ _ _ e45 (mem_one a1_l1)
      have e56 := f6.at_ _ _ e55 (mem_one a2_l1)
      have f46 : Fr [l0, l1] H4 H6 := (f5.mono fun a h => by simp at h; simp [h]).trans (f6.mono fun a h => by simp at h; simp [h])
      have offs : ∀ y ∈ A.p :: A.tc :: A.all, y ∉ [l0, l1] := fun y hy z => by
        simp only [List.mem_cons, List.not_mem_nil, or_false] at z
        rcases z with z | z
        · exact off.p (List.mem_cons_of_mem _ (z ▸ hy))
        · exact off.o (List.mem_cons_of_mem _ (z ▸ hy))
      have w6 := w4.frn f46 offs
      have G6 : LgAt H6 lg l0 l1 (ps ++ log) (oldsOf F (ps ++ log)) := ⟨f6.at_ _ _ hg5 lg1, ⟨_, f6.at_ _ _ e6 (mem_one l01), (pr0.app pr).fr f46⟩, by rw [e7, olds_app, List.map_append, olds_cong L.f]⟩
      k_offL
      refine r_listL (sqL_of e46) fun gl H7 n7 e8 f7 => ?_
      have w7 := w6.ex0 f7
      have pr7 := (pr.fr f46).fr f7
      have hlm : ∀ q ∈ log, q.1 ∈ N.hs ∧ q.2 ∈ N.hs := fun q hq => by
        have := LM.m q (List.mem_append_right _ hq)
        rw [← L.hs] at this
        exact this
      have e57 := f7.at_ _ _ e56 List.not_mem_nil
      have e47 := f7.at_ _ _ e46 List.not_mem_nil
      have gl_da : gl ≠ A.da := by obtain ⟨_, g, _⟩ := w6.net.nx; exact (ne_of_none g n7).symm
      k_offL
      refine ⟨A.p, A.da, A.db, A.dl, gl, N, log, lv, rfl, w7.net, ok, e8, pr7, hlm, by omega, fun o H8 n8 e9 hN8 f8 => ?_⟩
      have e48 := f8.at_ _ _ e47 (mem_one a1_da)
      have e58 := f8.at_ _ _ e57 (mem_one a2_da)
      have e88 := f8.at_ _ _ e8 (mem_one gl_da)
      have w8 := w7.net' (f8.mono fun a h => by simp at h; simp [h]) hN8
      rw [← eM] at w8
      k_offL
      refine i_same (.lst ((oldsOf N log).map D.int)) ⟨o, _, rfl, e9, ints_rep _⟩ ⟨a2, _, rfl, e58, ints_rep _⟩ (.lst (fun d hd => by obtain ⟨i, _, e⟩ := List.mem_map.mp hd; subst e; exact .int) (by rw [List.length_map, olds_len]; omega)) fun H9 f9 => ?_
      k_offL
      refine r_eqPrs (sqL_of (f9.at_ _ _ e88 List.not_mem_nil)) (sqL_of (f9.at_ _ _ e48 List.not_mem_nil)) ((pr7.fr f8).fr f9) ((pr7.fr f8).fr f9) ?_
      k_offL
      rw [decide_eq_true (rfl : log = log)]
      have f69 : Fr (l0 :: l1 :: A.all) H6 H9 := (f7.up.trans (f8.mono fun a h => by simp at h; simp [h, Ads.all])).trans f9.up
      have f09 : Fr [A.tp, A.dn, a1, a2] H H4 := f04
      have f49 : Fr (l0 :: l1 :: A.all) H4 H9 := (f46.mono fun a h => by simp at h; rcases h with h | h <;> simp [h]).trans f69
      have f04' : Fr (l0 :: l1 :: A.all) H H4 := Fr.weak (Fr.refl _ H) f04 fun a ha => by
        simp only [List.mem_cons, List.not_mem_nil, or_false] at ha
        rcases ha with z | z | z | z
        · exact .inl (by rw [z]; simp [Ads.all])
        · exact .inl (by rw [z]; simp [Ads.all])
        · exact .inr (by rw [z]; exact n1)
        · exact .inr (by rw [z]; exact n20)
      have da_g : A.da ∉ [lg, l0, l1] := fun z => by
        have da_all : A.da ∈ A.all := by simp [Ads.all]
        simp only [List.mem_cons, List.not_mem_nil, or_false] at z
        rcases z with z | z | z
        · exact og (z ▸ da_all)
        · exact op (z ▸ da_all)
        · exact oo (z ▸ da_all)
      simp only [List.mem_cons, List.not_mem_nil, or_false, not_or] at da_g
      obtain ⟨d1, d2, d3⟩ := da_g
      have G9 := ((G6.fr f7 List.not_mem_nil List.not_mem_nil List.not_mem_nil).fr f8 (mem_one (Ne.symm d1)) (mem_one (Ne.symm d2)) (mem_one (Ne.symm d3))).fr f9 List.not_mem_nil List.not_mem_nil List.not_mem_nil
      have po : M.post = N.post := by rw [eM]; exact chg_hs.2.2.2
      exact k M _ H9 (w8.ex0 f9) okM sayM (by rw [po]; exact hpl) (by rw [eM]; exact chg_hs.2.1) G9 LM (by rw [List.length_append]; omega) (f04'.trans f49)
end
end RL
set_option synthInstance.maxHeartbeats 4000000
set_option synthInstance.maxSize 4000
namespace RL
def spLawKept (C : Addr) : Sp := fun vs H Q _ => ∃ (A : Ads) (F N : NS) (tb df de : Addr) (nm W φ e : Int → Int), vs = [.ref A.tp, .ref A.p, .int N.size, .ref tb, .ref df, .ref de] ∧ WW C H A N N ∧ N.Ok ∧ N.Say ∧ H tb = some (.lst [.ref A.dn, .ref A.dk, .ref A.dp]) ∧ NxAt H df F.hs F.f ∧ H de = some (.dK (F.hs.map fun h => (Sum.inl h, V.int (e h)))) ∧
  (∀ h ∈ F.hs, IsEnd F.hs nm W φ h (e h)) ∧ Mk F.size F.hs N.f nm W φ ∧ Mk F.size F.hs F.f nm W φ ∧ N.hs = F.hs ∧ N.size = F.size ∧ df ≠ A.tp ∧ ∀ H', TapeAt H' A.tp A.tc → Fr [A.tp] H H' → Q (.bl true) H'
theorem dct_rep {H : Hp} {a : Addr} {hs : List Int} {f : Int → Int} (h : H a = some (.dK (hs.map fun h => ((Sum.inl h : Key), V.int (f h))))) : Rep H (.dct (hs.map fun h => (h, f h))) (.ref a) := by
  refine ⟨a, rfl, ?_⟩
  rw [h, List.map_map]
  rfl
theorem map_cong {hs : List Int} {e e' : Int → Int} {α : Type} {g : Int → Int → α} (h : ∀ x ∈ hs, e x = e' x) : (hs.map fun x => g x (e x)) = hs.map fun x => g x (e' x) := List.map_congr_left fun x hx => by rw [h x hx]
section
variable {P : Program} {w : World} {K : PySem.W.Frag} {mg : Str → Option Value} {base : Heap} {CNet CMender CDesk CStore CWalk : Addr}
abbrev s__law_kept : Stmt := top 76
theorem sc__law_kept : FnScope ["tape", "net", "size", "tables", "first", "ends", "houses", "house"] ["tape", "net", "size", "tables", "first", "ends"] (defScope s__law_kept) := ⟨rfl, rfl, rfl, by decide +kernel, rfl, by decide +kernel, by decide +kernel⟩
theorem ok__law_kept {f : Addr} {fd : FuncData} (F : Fun K "_law_kept" "_law_kept" s__law_kept f fd) (G__law_same : GF P w K mg base "_law_same" 5 ["actual", "due"] (spSame 4)) (G_told_end : GF P w K mg base "told_end" 6 ["net"] (spToldEnd CNet)) (G__law_stands : GF P w K mg base "_law_stands" 6 ["net", "size", "nexts", "behinds", "post"] (spStands CNet)) (m_sorted : mg "sorted" = none) (m_len : mg "len" = none) (G__law_pick : GF P w K mg base "_law_pick" 1 ["tape", "size"] spPick) (G__law_turns : GF P w K mg base "_law_turns" 2 ["size", "nexts", "house"] spTurns) (G_turns_of : GF P w K mg base "turns_of" 3 ["net", "house"] (spTurnsOf CNet)) (G__law_ordered : GF P w K mg base "_law_ordered" 1 ["table"] spLawOrdered) (G__law_marks : GF P w K mg base "_law_marks" 4 ["size", "nexts", "house"] spLawMarks) (G_marks_of : GF P w K mg base "marks_of" 4 ["net", "house"] (spMarksOf CNet)) (T : NetT K CNet) : FnOk P w K mg base CX0 7 f fd ["tape", "net", "size", "tables", "first", "ends"] (spLawKept CNet) := by
  refine F.ok sc__law_kept (fun vs H Q E h => ?_) (fun cdv A outer s H vs Q E hr h => ?_)
  · obtain ⟨_, _, _, _, _, _, _, _, _, _, rfl, _⟩ := h; rfl
  · obtain ⟨A, F, N, tb, df, de, nm, W, φ, e, rfl, w, ok, say, hb, nf, he, ie, MN, MF, hhs, hz, dft, k⟩ := h
    refine ⟨_, (pss_cons (ps_if (PW.pt (pw_or (pt_not (pt_val (c_fn G__law_stands (hr.mono (by decide)) (pa_cons (pv 1) (pa_cons (pv 2) (pa_cons (pe_ix (ix_listK (K := K) rfl) (pv 3) pe_int (by intro _ _; rfl)) (pa_cons (pe_ix (ix_listK (K := K) rfl) (pv 3) pe_int (by intro _ _; rfl)) (pa_cons (pe_ix (ix_listK (K := K) rfl) (pv 3) pe_int (by intro _ _; rfl)) pa_nil)))))))) (pw_or1 (pt_not (pt_val (c_fn G__law_same (hr.mono (by decide)) (pa_cons (c_fn G_told_end (hr.mono (by decide)) (pa_cons (pv 1) pa_nil)) (pa_cons (pv 5) pa_nil)))))))) (pss_one (ps_ret pe_bl)) pss_nil)
      (pss_cons (ps_set (i := 6) sc__law_kept.nd rfl (Or.inl rfl) (pe_callB (cb_sortD rfl) (by rfl) m_sorted b_sorted (pa_cons (pv 4) pa_nil)))
      (pss_cons (ps_if (pt_cmpR op_eq (pe_callB (cb_lenSK (K := K) rfl) (by rfl) m_len b_len (pa_cons (pv 6) pa_nil)) pe_int (nomark _)) (pss_one (ps_ret pe_bl)) pss_nil)
      (pss_cons (ps_set (i := 7) sc__law_kept.nd rfl (Or.inl rfl) (pe_ix (ix_listK (K := K) rfl) (pv 6) (c_fn G__law_pick (hr.mono (by decide)) (pa_cons (pv 0) (pa_cons (pe_callB (cb_lenSK (K := K) rfl) (by rfl) m_len b_len (pa_cons (pv 6) pa_nil)) pa_nil))) (by intro _ _; rfl)))
      (pss_cons (ps_if (pt_not (pt_val (c_fn G__law_same (hr.mono (by decide)) (pa_cons (c_fn G_turns_of (hr.mono (by decide)) (pa_cons (pv 1) (pa_cons (pv 7) pa_nil))) (pa_cons (c_fn G__law_turns (hr.mono (by decide)) (pa_cons (pv 2) (pa_cons (pv 4) (pa_cons (pv 7) pa_nil)))) pa_nil))))) (pss_one (ps_ret pe_bl)) pss_nil)
      (pss_one (ps_ret (c_fn G__law_same (hr.mono (by decide)) (pa_cons (c_fn G_marks_of (hr.mono (by decide)) (pa_cons (pv 1) (pa_cons (pv 7) pa_nil))) (pa_cons (c_fn G__law_ordered (hr.mono (by decide)) (pa_cons (c_fn G__law_marks (hr.mono (by decide)) (pa_cons (pv 2) (pa_cons (pv 4) (pa_cons (pv 7) pa_nil)))) pa_nil)) pa_nil)))))))))), ?_⟩
    (try simp only [cxK, cxKX, List.map])
    refine ent (σ' := [some _, some _, some _, some _, some _, some _, none, none]) rfl ?_
    have hlen := MF.hl
    have h0 := MF.s0
    have h1 := MF.s1
    have PN : Pot N.size N.hs N.f nm W φ := by rw [hhs, hz]; exact MN.P
    k_offL
    refine r_ixL (sqL_of hb) (ix_at 0 rfl rfl) ?_
    k_offL
    refine r_ixL (sqL_of hb) (ix_at 1 rfl rfl) ?_
    k_offL
    refine r_ixL (sqL_of hb) (ix_at 2 rfl rfl) ?_
    k_offL
    refine ⟨A.p, A.da, A.db, A.dl, A.dn, A.dk, A.dp, N, rfl, w.net, w.tab, ok, fun H1 f1 => ?_⟩
    have w1 := w.ex0 f1
    k_offL
    refine ⟨A.p, A.da, A.db, A.dl, N, nm, W, φ, rfl, w1.net, ok, say, PN, fun l e' H2 n2 e2 ie' f2 => ?_⟩
    have w2 := w1.ex0 f2
    rw [hhs] at e2 ie'
    have ee : ∀ x ∈ F.hs, e x = e' x := fun x hx => IsEnd.uniq MF.P MF.on hx (ie x hx) (ie' x hx)
    have he2 := (f1.trans f2).at_ _ _ he List.not_mem_nil
    rw [map_cong (g := fun h y => ((Sum.inl h : Key), V.int y)) ee] at he2
    k_offL
    refine i_same (.dct (F.hs.map fun h => (h, e' h))) (dct_rep e2) (dct_rep he2) (.dct (by rw [List.length_map]; omega)) fun H3 f3 => ?_
    have f03 := (f1.trans f2).trans f3
    have w3 := w2.ex0 f3
    have nf3 := nf.ex0 f03
    obtain ⟨kf, rf, dkf, lkf⟩ := nf3.ex
    k_offL
    refine r_sortD rf dkf ⟨MF.up, fun n => mfOf_some⟩ (by omega) fun l4 H4 n4 e4 f4 => ?_
    have w4 := w3.ex0 f4
    have nf4 := nf3.ex0 f4
    have l4tp : l4 ≠ A.tp := by obtain ⟨_, _, _, _, _, tt, tcs, _⟩ := w3.tape.ex; exact (ne_of_none tt n4).symm
    k_offL
    refine r_lenL (sqL_of e4) ?_
    rw [List.length_map]
    k_offL
    refine ifD (fun c => ?_) (fun c => ?_)
    · k_offL
      exact k H4 w4.tape (f03.trans f4).up
    · have hpos : 0 < F.hs.length := by omega
      k_offL
      refine r_lenL (sqL_of e4) ?_
      rw [List.length_map]
      k_offL
      refine i_pick w4.tape (by omega) (by omega) fun m H5 a5 b5 t5 f5 => ?_
      have w5 := w4.tape' f5 t5
      have nf5 := nf4.fr f5 (mem_one dft)
      have g5 : m.toNat < F.hs.length := by omega
      refine r_ixL (sqL_of (f5.at_ _ _ e4 (mem_one l4tp))) (ix_at m.toNat (by omega) (ints_get g5)) ?_
      have hx : F.hs[m.toNat] ∈ F.hs := List.getElem_mem g5
      revert hx
      generalize F.hs[m.toNat] = x
      intro hx
      have hxN : x ∈ N.hs := by rw [hhs]; exact hx
      obtain ⟨dx5, hp5⟩ := w5.net.ob
      k_offL
      refine ⟨A.p, A.da, A.db, A.dl, N, x, rfl, w5.net, ok, hxN, fun r mm nn H6 per6 en6 f6 => ?_⟩
      have w6 := w5.ex0 f6
      have nf6 := nf5.ex0 f6
      have q6 := PN.whole ok.fh hxN per6 en6
      k_offL
      refine ⟨N.size, df, F.hs, F.f, x, (), rfl, nf6, hx, by omega, by rw [hz]; exact h0, by rw [hz]; exact h1, fun m7 H7 per7 hm7 f7 => ?_⟩
      have w7 := w6.ex0 f7
      have nf7 := nf6.ex0 f7
      have q7 := MF.P.whole MF.cl hx per7 rfl
      rw [← hz] at q7
      have eq : wl N.size N.f mm r / N.size = wl N.size F.f m7 (it F.f F.hs.length x) / N.size := by
        have z0 : N.size ≠ 0 := by have := ok.s0; omega
        exact Int.eq_of_mul_eq_mul_right z0 (q6.trans q7.symm)
      rw [eq]
      k_offL
      refine i_same (.int _) rfl rfl .int fun H8 f8 => ?_
      have w8 := w7.ex0 f8
      have nf8 := nf7.ex0 f8
      obtain ⟨dx8, hp8⟩ := w8.net.ob
      k_offL
      refine ⟨A.p, A.da, A.db, A.dl, N, x, nm, W, φ, rfl, w8.net, ok, hxN, PN, fun l9 r9 H9 n9 e9 hr9 f9 => ?_⟩
      rw [hhs] at e9 hr9
      have nf9 := nf8.ex0 f9
      k_offL
      rw [hz]
      refine ⟨F.size, df, F.hs, F.f, nm, W, φ, x, (), rfl, nf9, MF, hx, fun l10 r10 H10 n10 e10 hr10 f10 => ?_⟩
      rw [hr9] at hr10
      cases hr10
      have up : (pcOf F.hs nm x).Pairwise (· < ·) := MF.up.filter _
      have pcl : (pcOf F.hs nm x).length ≤ F.hs.length := List.length_filter_le _ _
      have nd : (pcOf F.hs nm x).Nodup := up.imp fun h => Int.ne_of_lt h
      k_offL
      refine ⟨l10, pcOf F.hs nm x, fun o => (r9 + φ o - φ r9) % W (nm x), _, rfl, e10, (DOk.ofMap nd (mkv (W (nm x)) φ r9)), up, by omega, fun l11 H11 n11 e11 f11 => ?_⟩
      k_offL
      have e911 := (f10.trans f11).at_ _ _ e9 List.not_mem_nil
      refine i_same (.dct ((pcOf F.hs nm x).map fun o => (o, (r9 + φ o - φ r9) % W (nm x)))) (dct_rep (f := fun o => (r9 + φ o - φ r9) % W (nm x)) e911) (dct_rep (f := fun o => (r9 + φ o - φ r9) % W (nm x)) e11) (.dct (by rw [List.length_map]; omega)) fun H12 f12 => ?_
      exact k H12 (((((((w5.tape.ex0 f6).ex0 f7).ex0 f8).ex0 f9).ex0 f10).ex0 f11).ex0 f12) ((f03.trans f4).up.trans (f5.trans (((((((f6.trans f7).trans f8).trans f9).trans f10).trans f11).trans f12).up)))
end
def spLawWhole (C : Addr) : Sp := fun vs H Q _ => ∃ (F : NS) (tp tc p da db dl df de lg l0 l1 : Addr) (nm W φ e : Int → Int) (ps : List (Int × Int)), vs = [.ref tp, .ref p, .int F.size, .ref df, .ref lg, .ref de] ∧ TapeAt H tp tc ∧ NetAt C H p da db dl F ∧ F.Ok ∧ (∃ kvs, H df = some (.dK kvs) ∧ DOk kvs (mfOf F.hs F.f)) ∧ H de = some (.dK (F.hs.map fun h => (Sum.inl h, V.int (e h)))) ∧ LgAt H lg l0 l1 ps (oldsOf F ps) ∧
  (∀ q ∈ ps, q.1 ∈ F.hs ∧ q.2 ∈ F.hs) ∧ (∀ (j : Nat) q, ps[j]? = some q → Faith (F.chg (ps.take j)) q) ∧ ps.length ≤ 2025 ∧ (∀ h ∈ F.hs, (F.chg ps).f h = e h) ∧ [p, da, db, dl, df, de, lg, l0, l1].all (fun y => decide (y ≠ tp)) = true ∧ [de, df, lg, l0, l1].all (fun y => decide (y ≠ da)) = true ∧ ∀ H', Q (.bl true) H'
theorem r_nePrs {K : PySem.W.Frag} {H : Hp} {Q : VK} {a b : Addr} {ps qs : List (Int × Int)} {xs ys : List V} (h1 : SqL K H a xs) (h2 : SqL K H b ys) (p1 : PrIs H ps xs) (p2 : PrIs H qs ys) (q : Q (.bl (!decide (ps = qs))) H) : rNeD K (.ref a) (.ref b) H Q := by
  refine ⟨.list (ps.map prD), .list (qs.map prD), .lst h1 (dpAll_prs p1), .lst h2 (dpAll_prs p2), ?_, ?_, ?_⟩
  · obtain ⟨a, b⟩ := lay_prs ps
    simp [SeqAt.shaped, PyData.canLay0, PyData.depth, a]; omega
  · obtain ⟨a, b⟩ := lay_prs qs
    simp [SeqAt.shaped, PyData.canLay0, PyData.depth, a]; omega
  · rw [PyData.eqv, eqvAll_prs]; exact q
theorem FstUn.all {N : NS} {ps : List (Int × Int)} {v : V} (x : FstUn N ps v) (h : ∀ (j : Nat) q, ps[j]? = some q → Faith (N.chg (ps.take j)) q) : v = .non := by
  rcases x with ⟨e, _⟩ | ⟨i, q, _, hq, no, _⟩
  · exact e
  · exact absurd (h i q hq) no
theorem FstUn.uniq {N : NS} {ps : List (Int × Int)} {v w : V} (x : FstUn N ps v) (y : FstUn N ps w) : v = w ∧ (v = .non ∨ ∃ i : Int, v = .int i) := by
  rcases x with ⟨e, h⟩ | ⟨i, q, e, hq, no, hb⟩
  · exact ⟨e.trans (y.all h).symm, .inl e⟩
  · rcases y with ⟨e2, h⟩ | ⟨j, q2, e2, hq2, no2, hb2⟩
    · exact absurd (h i q hq) no
    · refine ⟨?_, .inr ⟨_, e⟩⟩
      rcases Nat.lt_trichotomy i j with z | z | z
      · exact absurd (hb2 i q z hq) no
      · rw [e, e2, z]
      · exact absurd (hb j q2 z hq2) no2
section
variable {P : Program} {w : World} {K : PySem.W.Frag} {mg : Str → Option Value} {base : Heap} {CNet CMender CDesk CStore CWalk : Addr}
abbrev s__law_whole_log : Stmt := top 77
theorem sc__law_whole_log : FnScope ["tape", "other", "size", "first", "logs", "ends", "log", "houses", "at", "pair", "spoilt"] ["tape", "other", "size", "first", "logs", "ends"] (defScope s__law_whole_log) := ⟨rfl, rfl, rfl, by decide +kernel, rfl, by decide +kernel, by decide +kernel⟩
theorem ok__law_whole_log {f : Addr} {fd : FuncData} (F : Fun K "_law_whole_log" "_law_whole_log" s__law_whole_log f fd) (m_list : mg "list" = none) (G_first_unfaithful : GF P w K mg base "first_unfaithful" 6 ["net", "changes"] (spFirstUnf CNet)) (m_sorted : mg "sorted" = none) (m_len : mg "len" = none) (G__law_pick : GF P w K mg base "_law_pick" 1 ["tape", "size"] spPick) (G__law_same : GF P w K mg base "_law_same" 5 ["actual", "due"] (spSame 4)) (G__law_unfaithful : GF P w K mg base "_law_unfaithful" 4 ["size", "nexts", "log"] spLawUnf) (G_apply_changes : GF P w K mg base "apply_changes" 3 ["net", "changes"] (spApply CNet)) (G__law_ordered : GF P w K mg base "_law_ordered" 1 ["table"] spLawOrdered) (G_Net_nexts : GM P w K mg base CNet "nexts" 1 ["self"] (spNexts CNet)) (T : NetT K CNet) : FnOk P w K mg base CX0 7 f fd ["tape", "other", "size", "first", "logs", "ends"] (spLawWhole CNet) := by
  refine F.ok sc__law_whole_log (fun vs H Q E h => ?_) (fun cdv A outer s H vs Q E hr h => ?_)
  · obtain ⟨_, _, _, _, _, _, _, _, _, _, _, _, _, _, _, _, _, rfl, _⟩ := h; rfl
  · obtain ⟨F, tp, tc, p, da, db, dl, df, de, lg, l0, l1, nm, W, φ, e, ps, rfl, t, hN, ok, ⟨kf, hdf, dkf⟩, he, G, hm, fa, hpl, hend, nt, nd, k⟩ := h
    simp only [List.all_cons, List.all_nil, Bool.and_true, Bool.and_eq_true, decide_eq_true_eq] at nt nd
    obtain ⟨t1, t2, t3, t4, t5, t6, t7, t8, t9⟩ := nt
    obtain ⟨d1, d2, d3, d4, d5⟩ := nd
    refine ⟨_, (pss_cons (ps_set (i := 6) sc__law_whole_log.nd rfl (Or.inl rfl) (pe_callTy (cb_listOfK (K := K) rfl) (by rfl) m_list b_list (pa_cons (pe_ix (ix_listK (K := K) rfl) (pv 4) pe_int (by intro _ _; rfl)) pa_nil)))
      (pss_cons (ps_if (PW.pt (pw_or (pt_cmpR op_notNn (c_fn G_first_unfaithful (hr.mono (by decide)) (pa_cons (pv 1) (pa_cons (pv 6) pa_nil))) pe_non (nomark _)) (pw_or1 (pt_cmpR (op_neDK (K := K) rfl hr.units) (pv 6) (pe_ix (ix_listK (K := K) rfl) (pv 4) pe_int (by intro _ _; rfl)) (nomark _))))) (pss_one (ps_ret pe_bl)) pss_nil)
      (pss_cons (ps_set (i := 7) sc__law_whole_log.nd rfl (Or.inl rfl) (pe_callB (cb_sortD rfl) (by rfl) m_sorted b_sorted (pa_cons (pv 3) pa_nil)))
      (pss_cons (ps_if (pt_cmpR op_gt (pe_callB (cb_lenSK (K := K) rfl) (by rfl) m_len b_len (pa_cons (pv 7) pa_nil)) pe_int (nomark _)) (pss_cons (ps_set (i := 8) sc__law_whole_log.nd rfl (Or.inl rfl) (c_fn G__law_pick (hr.mono (by decide)) (pa_cons (pv 0) (pa_cons (pe_op op_add (pe_callB (cb_lenSK (K := K) rfl) (by rfl) m_len b_len (pa_cons (pv 6) pa_nil)) pe_int) pa_nil))))
      (pss_cons (ps_set (i := 9) sc__law_whole_log.nd rfl (Or.inl rfl) (pe_tup (pa_cons (pe_ix (ix_listK (K := K) rfl) (pv 7) (c_fn G__law_pick (hr.mono (by decide)) (pa_cons (pv 0) (pa_cons (pe_callB (cb_lenSK (K := K) rfl) (by rfl) m_len b_len (pa_cons (pv 7) pa_nil)) pa_nil))) (by intro _ _; rfl)) (pa_cons (pe_ix (ix_listK (K := K) rfl) (pv 7) (c_fn G__law_pick (hr.mono (by decide)) (pa_cons (pv 0) (pa_cons (pe_callB (cb_lenSK (K := K) rfl) (by rfl) m_len b_len (pa_cons (pv 7) pa_nil)) pa_nil))) (by intro _ _; rfl)) pa_nil))))
      (pss_cons (ps_set (i := 10) sc__law_whole_log.nd rfl (Or.inl rfl) (pe_op op_cat (pe_op op_cat (pe_slice (sl_listK (K := K) rfl) (pv 6) po_none (po_some (pv 8))) (pe_lst (pa_cons (pv 9) pa_nil))) (pe_slice (sl_listK (K := K) rfl) (pv 6) (po_some (pv 8)) po_none)))
      (pss_one (ps_if (pt_not (pt_val (c_fn G__law_same (hr.mono (by decide)) (pa_cons (c_fn G_first_unfaithful (hr.mono (by decide)) (pa_cons (pv 1) (pa_cons (pe_callTy (cb_listOfK (K := K) rfl) (by rfl) m_list b_list (pa_cons (pv 10) pa_nil)) pa_nil))) (pa_cons (c_fn G__law_unfaithful (hr.mono (by decide)) (pa_cons (pv 2) (pa_cons (pv 3) (pa_cons (pv 10) pa_nil)))) pa_nil))))) (pss_one (ps_ret pe_bl)) pss_nil))))) pss_nil)
      (pss_cons (ps_if (PW.pt (pw_or (pt_not (pt_val (c_fn G__law_same (hr.mono (by decide)) (pa_cons (c_mt0 G_Net_nexts (hr.mono (by decide)) (pv 1)) (pa_cons (c_fn G__law_ordered (hr.mono (by decide)) (pa_cons (pv 3) pa_nil)) pa_nil))))) (pw_or1 (pt_not (pt_val (c_fn G__law_same (hr.mono (by decide)) (pa_cons (c_fn G_apply_changes (hr.mono (by decide)) (pa_cons (pv 1) (pa_cons (pv 6) pa_nil))) (pa_cons (pe_ix (ix_listK (K := K) rfl) (pv 4) pe_int (by intro _ _; rfl)) pa_nil)))))))) (pss_one (ps_ret pe_bl)) pss_nil)
      (pss_one (ps_ret (pe_and (c_fn G__law_same (hr.mono (by decide)) (pa_cons (c_mt0 G_Net_nexts (hr.mono (by decide)) (pv 1)) (pa_cons (pv 5) pa_nil))) (pe_one (pe_cmpR (op_eqDK (K := K) rfl hr.units) (pv 6) (pe_ix (ix_listK (K := K) rfl) (pv 4) pe_int (by intro _ _; rfl)) (nomark _))))))))))), ?_⟩
    (try simp only [cxK, cxKX, List.map])
    refine ent (σ' := [some _, some _, some _, some _, some _, some _, none, none, none, none, none]) rfl ?_
    have hlen := ok.hl
    have h0 := ok.s0
    have h1 := ok.s1
    obtain ⟨lv, hl0, pr⟩ := G.p
    obtain ⟨dx, hp⟩ := hN.ob
    have nf : NxAt H df F.hs F.f := .mk' (.inl hdf) dkf ok.nd ok.fh
    k_offL
    refine r_ixL (sqL_of G.g) (ix_at 0 rfl rfl) ?_
    k_offL
    refine r_listL (sqL_of hl0) fun a1 H1 n1 e1 f1 => ?_
    have hN1 := hN.ex f1
    have pr1 := pr.fr f1
    have G1 := G.fr f1 List.not_mem_nil List.not_mem_nil List.not_mem_nil
    have t1' := t.ex0 f1
    have nf1 := nf.ex0 f1
    have a1_tp : a1 ≠ tp := by obtain ⟨_, _, _, _, _, tt, tcs, _⟩ := t.ex; exact (ne_of_none tt n1).symm
    have a1_da : a1 ≠ da := by obtain ⟨_, g, _⟩ := hN.nx; exact (ne_of_none g n1).symm
    k_places
    refine q_if ?_
    refine cutT (t := tOr _ _) (fun b H' => b = false ∧ Fr [] H1 H') (fun R kR => ?_) ?_
    · k_offL
      refine ⟨p, da, db, dl, a1, F, ps, lv, rfl, hN1, ok, e1, pr1, hm, fun v H2 hv f2 => ?_⟩
      obtain rfl := hv.all fa
      have G2 := G1.fr f2 List.not_mem_nil List.not_mem_nil List.not_mem_nil
      obtain ⟨lv2, hl2, pr2⟩ := G2.p
      k_offL
      refine ifNF rfl ?_
      k_offL
      refine r_ixL (sqL_of G2.g) (ix_at 0 rfl rfl) ?_
      k_offL
      refine r_nePrs (f2.sqL (sqL_of e1) List.not_mem_nil) (sqL_of hl2) (pr1.fr f2) pr2 ?_
      k_offL
      rw [decide_eq_true (rfl : ps = ps)]
      exact kR _ _ ⟨rfl, f2⟩
    rintro _ H2 ⟨rfl, f2⟩
    have t2' := t1'.ex0 f2
    have nf2 := nf1.ex0 f2
    have rf := Fr.at_ (f1.trans f2) _ _ hdf List.not_mem_nil
    have e12 := f2.at_ _ _ e1 List.not_mem_nil
    have f02 := f1.trans f2
    k_offL
    refine r_sortD (.inl rf) dkf ⟨ok.up, fun n => mfOf_some⟩ (by omega) fun l3 H3 n3 e3 f3 => ?_
    have l3_tp : l3 ≠ tp := by obtain ⟨_, _, _, _, _, tt, tcs, _⟩ := t2'.ex; exact (ne_of_none tt n3).symm
    have f03 := f02.trans f3
    have e13 := f3.at_ _ _ e12 List.not_mem_nil
    have t3' := t2'.ex0 f3
    k_places
    refine q_cut (fun σ' H' => ∃ v8 v9 v10 : Option V, σ' = [some (.ref tp), some (.ref p), some (.int F.size), some (.ref df), some (.ref lg), some (.ref de), some (.ref a1), some (.ref l3), v8, v9, v10] ∧ TapeAt H' tp tc ∧ Fr [tp] H3 H') (fun Nx kN => ?_) ?_
    · k_offL
      refine r_lenL (sqL_of e3) ?_
      rw [List.length_map]
      k_offL
      refine ifD (fun c => ?_) (fun c => ?_)
      · k_offL
        refine r_lenL (sqL_of e13) ?_
        rw [pr.len]
        k_offL
        refine i_pick t3' (by omega) (by omega) fun at_ H4 a4 b4 t4' f4 => ?_
        have e34 := f4.at_ _ _ e3 (mem_one l3_tp)
        k_offL
        refine r_lenL (sqL_of e34) ?_
        rw [List.length_map]
        k_offL
        refine i_pick t4' (by omega) (by omega) fun m5 H5 a5 b5 t5' f5 => ?_
        have e35 := f5.at_ _ _ e34 (mem_one l3_tp)
        have g5 : m5.toNat < F.hs.length := by omega
        refine r_ixL (sqL_of e35) (ix_at m5.toNat (by omega) (ints_get g5)) ?_
        have hx : F.hs[m5.toNat] ∈ F.hs := List.getElem_mem g5
        revert hx
        generalize F.hs[m5.toNat] = x
        intro hx
        k_offL
        refine r_lenL (sqL_of e35) ?_
        rw [List.length_map]
        k_offL
        refine i_pick t5' (by omega) (by omega) fun m6 H6 a6 b6 t6' f6 => ?_
        have e36 := f6.at_ _ _ e35 (mem_one l3_tp)
        have g6 : m6.toNat < F.hs.length := by omega
        refine r_ixL (sqL_of e36) (ix_at m6.toNat (by omega) (ints_get g6)) ?_
        have hy : F.hs[m6.toNat] ∈ F.hs := List.getElem_mem g6
        revert hy
        generalize F.hs[m6.toNat] = y
        intro hy
        have f36 : Fr [tp] H3 H6 := (f4.trans f5).trans f6
        have e16 := f36.at_ _ _ e13 (mem_one a1_tp)
        k_offL
        refine tupk (by show 2 ≤ 100000; decide) fun t7 H7 n7 e7 f7 => ?_
        have e17 := f7.at_ _ _ e16 List.not_mem_nil
        obtain ⟨j, rfl⟩ : ∃ j : Nat, at_ = (j : Int) := ⟨at_.toNat, by omega⟩
        k_offL
        refine r_slL (sqL_of e17) fun s1 H8 n8 e8 f8 => ?_
        rw [cut_to] at e8
        have e78 := f8.tp _ _ e7
        k_offL
        refine lstk (by show 1 ≤ 100000; decide) fun s2 H9 n9 e9 f9 => ?_
        have e89 := f9.at_ _ _ e8 List.not_mem_nil
        have lvl := pr.len
        k_offL
        refine r_cat e89 e9 (by rw [List.length_take]; show _ + 1 ≤ _; omega) fun s3 H10 n10 e10 f10 => ?_
        have e110 := (((f8.trans f9).trans f10)).at_ _ _ e17 List.not_mem_nil
        k_offL
        refine r_slL (sqL_of e110) fun s4 H11 n11 e11 f11 => ?_
        rw [cut_from] at e11
        k_offL
        refine r_cat (f11.at_ _ _ e10 List.not_mem_nil) e11 (by rw [List.length_append, List.length_take, List.length_drop]; show _ + 1 + _ ≤ _; omega) fun s5 H12 n12 e12' f12 => ?_
        have f712 : Fr [] H7 H12 := (((f8.trans f9).trans f10).trans f11).trans f12
        have f312 : Fr [tp] H3 H12 := f36.trans (f7.trans f712).up
        have pr12 := (pr.fr f03).fr f312
        have psp : PrIs H12 (ps.take j ++ [(x, y)] ++ ps.drop j) (lv.take j ++ [V.ref t7] ++ lv.drop j) := by
          refine PrIs.app (PrIs.snoc ⟨?_, fun i q hq => ?_⟩ (p := (x, y)) (f712.tp _ _ e7)) ⟨?_, fun i q hq => ?_⟩
          · rw [List.length_take, List.length_take, pr.len]
          · rw [List.getElem?_take] at hq ⊢
            by_cases c : i < j
            · rw [if_pos c] at hq ⊢; exact pr12.at_ i q hq
            · rw [if_neg c] at hq; cases hq
          · rw [List.length_drop, List.length_drop, pr.len]
          · rw [List.getElem?_drop] at hq ⊢; exact pr12.at_ _ q hq
        have spm : ∀ q ∈ ps.take j ++ [(x, y)] ++ ps.drop j, q.1 ∈ F.hs ∧ q.2 ∈ F.hs := fun q hq => by
          rcases List.mem_append.mp hq with z | z
          · rcases List.mem_append.mp z with z | z
            · exact hm q (List.mem_of_mem_take z)
            · rw [List.mem_singleton.mp z]; exact ⟨hx, hy⟩
          · exact hm q (List.mem_of_mem_drop z)
        have spl : (ps.take j ++ [(x, y)] ++ ps.drop j).length ≤ 50000 := by
          rw [List.length_append, List.length_append, List.length_take, List.length_drop]; show _ + 1 + _ ≤ _; omega
        revert psp spm spl e12'
        generalize ps.take j ++ [(x, y)] ++ ps.drop j = sp
        generalize lv.take j ++ [V.ref t7] ++ lv.drop j = lsp
        intro e12' psp spm spl
        have nt12 : ∀ {z : Addr} {u : HO}, z ≠ tp → H z = some u → H12 z = some u := fun zn zh => f312.at_ _ _ (f03.at_ _ _ zh List.not_mem_nil) (mem_one zn)
        have hN12 := (hN.ex f03).fr f312 (mem_one t1) (mem_one t2) (mem_one t3) (mem_one t4)
        have nf12 := (nf.ex0 f03).fr f312 (mem_one t5)
        k_offL
        refine r_listL (sqL_of e12') fun s6 H13 n13 e13' f13 => ?_
        k_offL
        refine ⟨p, da, db, dl, s6, F, sp, lsp, rfl, hN12.ex f13, ok, e13', psp.fr f13, spm, fun v H14 hv f14 => ?_⟩
        k_offL
        refine ⟨df, s5, F, sp, lsp, (), (), (), rfl, (nf12.ex0 f13).ex0 f14, ok, (f13.trans f14).at_ _ _ e12' List.not_mem_nil, (psp.fr f13).fr f14, spl, spm, fun v' H15 hv' f15 => ?_⟩
        obtain ⟨ev, cv⟩ := hv.uniq hv'
        subst ev
        have f715 : Fr [] H12 H15 := (f13.trans f14).trans f15
        have t15 : TapeAt H15 tp tc := ((t6'.ex0 f7).ex0 f712).ex0 f715
        have fin : ∀ H16, Fr [] H15 H16 → Fr [tp] H3 H16 := fun H16 f16 => f312.trans (f715.trans f16).up
        rcases cv with rfl | ⟨i, rfl⟩
        · k_offL
          refine i_same .non rfl rfl .non fun H16 f16 => ?_
          k_offL
          exact kN _ _ ⟨_, _, _, rfl, t15.ex0 f16, fin _ f16⟩
        · k_offL
          refine i_same (.int i) rfl rfl .int fun H16 f16 => ?_
          k_offL
          exact kN _ _ ⟨_, _, _, rfl, t15.ex0 f16, fin _ f16⟩
      · k_offL
        exact kN _ _ ⟨_, _, _, rfl, t3', Fr.refl _ _⟩
    rintro _ H4 ⟨v8, v9, v10, rfl, t4', f4⟩
    have f04 : Fr [tp] H H4 := f03.up.trans f4
    have hN4 := hN.fr f04 (mem_one t1) (mem_one t2) (mem_one t3) (mem_one t4)
    have nf4 := nf.fr f04 (mem_one t5)
    have he4 := f04.at_ _ _ he (mem_one t6)
    have G4 := G.fr f04 (mem_one t7) (mem_one t8) (mem_one t9)
    have pr4 := pr.fr f04
    have e14 := f4.at_ _ _ e13 (mem_one a1_tp)
    obtain ⟨dx4, hp4⟩ := hN4.ob
    have hdf4 := f04.at_ _ _ hdf (mem_one t5)
    k_offL
    refine ⟨p, da, db, dl, F, rfl, hN4, ok, fun m5 H5 n5 e5 f5 => ?_⟩
    k_offL
    refine ⟨df, F.hs, F.f, kf, rfl, f5.at_ _ _ hdf4 List.not_mem_nil, dkf, ok.up, by omega, fun m6 H6 n6 e6 f6 => ?_⟩
    k_offL
    refine i_same (.dct (F.hs.map fun h => (h, F.f h))) (dct_rep (f6.at_ _ _ e5 List.not_mem_nil)) (dct_rep e6) (.dct (by rw [List.length_map]; omega)) fun H7 f7 => ?_
    have f47 := (f5.trans f6).trans f7
    have hN7 := hN4.ex f47
    have G7 := G4.fr f47 List.not_mem_nil List.not_mem_nil List.not_mem_nil
    obtain ⟨dx7, hp7⟩ := hN7.ob
    have he7 := f47.at_ _ _ he4 List.not_mem_nil
    have e17 := f47.at_ _ _ e14 List.not_mem_nil
    k_offL
    refine ⟨p, da, db, dl, a1, F, ps, lv, rfl, hN7, ok, e17, pr4.fr f47, hm, by omega, fun o H8 n8 e8 hN8 f8 => ?_⟩
    have G8 := G7.fr f8 (mem_one d3) (mem_one d4) (mem_one d5)
    k_offL
    refine r_ixL (sqL_of G8.g) (ix_at 1 rfl rfl) ?_
    k_offL
    refine i_same (.lst ((oldsOf F ps).map D.int)) ⟨o, _, rfl, e8, ints_rep _⟩ ⟨l1, _, rfl, G8.o, ints_rep _⟩ (.lst (fun d hd => by obtain ⟨i, _, e⟩ := List.mem_map.mp hd; subst e; exact .int) (by rw [List.length_map, olds_len]; omega)) fun H9 f9 => ?_
    have hN9 := hN8.ex f9
    obtain ⟨dx9, hp9⟩ := hN9.ob
    have okc : (F.chg ps).Ok := chg_ok ok hm
    k_offL
    refine ⟨p, da, db, dl, F.chg ps, rfl, hN9, okc, fun m10 H10 n10 e10 f10 => ?_⟩
    have he10 := (f9.trans f10).at_ _ _ (f8.at_ _ _ he7 (mem_one d1)) List.not_mem_nil
    have e10' : H10 m10 = some (.dK (F.hs.map fun h => ((Sum.inl h : Key), V.int ((F.chg ps).f h)))) := by rw [e10]; unfold NS.kn; rw [chg_hs.1]
    rw [map_cong (g := fun h y => ((Sum.inl h : Key), V.int y)) hend] at e10'
    k_offL
    refine i_same (.dct (F.hs.map fun h => (h, e h))) (dct_rep e10') (dct_rep he10) (.dct (by rw [List.length_map]; omega)) fun H11 f11 => ?_
    have G11 := ((G8.fr f9 List.not_mem_nil List.not_mem_nil List.not_mem_nil).fr f10 List.not_mem_nil List.not_mem_nil List.not_mem_nil).fr f11 List.not_mem_nil List.not_mem_nil List.not_mem_nil
    obtain ⟨lv11, hl11, pr11⟩ := G11.p
    have f711 : Fr [da] H7 H11 := f8.trans ((f9.trans f10).trans f11).up
    k_offL
    refine r_ixL (sqL_of G11.g) (ix_at 0 rfl rfl) ?_
    k_offL
    refine r_eqPrs (sqL_of (f711.at_ _ _ e17 (mem_one a1_da))) (sqL_of hl11) ((pr4.fr f47).fr f711) pr11 ?_
    k_offL
    rw [decide_eq_true (rfl : ps = ps)]
    exact k H11
end
end RL
set_option synthInstance.maxHeartbeats 4000000
set_option synthInstance.maxSize 4000
namespace RL
def spStart : Sp := fun vs H Q _ => ∃ (tp tc dn lp dk dp : Addr) (N : NS) (ps : List Int), vs = [.ref tp, .int N.size, .ref dn, .ref lp, .ref dk, .ref dp] ∧ TabAt H dn dk dp N ∧ TapeAt H tp tc ∧ H lp = some (.lst (ps.map V.int)) ∧ N.Ok ∧ N.Say ∧ N.post = [] ∧ (∀ x ∈ ps, x ∈ N.hs) ∧ ps.length ≤ 40 ∧ [dp, tp, tc, lp].Nodup ∧
  ∀ N' H', N'.f = N.f → N'.hs = N.hs → N'.size = N.size → N'.Ok → N'.Say → N'.post.length ≤ ps.length → TabAt H' dn dk dp N' → TapeAt H' tp tc → Fr [tp, dk, dp] H H' → Q .non H'
section
variable {P : Program} {w : World} {K : PySem.W.Frag} {mg : Str → Option Value} {base : Heap} {CNet CMender CDesk CStore CWalk : Addr}
abbrev s__law_start : Stmt := top 64
theorem sc__law_start : FnScope ["tape", "size", "nexts", "places", "behinds", "post", "place", "names", "kind", "k", "kinds"] ["tape", "size", "nexts", "places", "behinds", "post"] (defScope s__law_start) := ⟨rfl, rfl, rfl, by decide +kernel, rfl, by decide +kernel, by decide +kernel⟩
theorem ok__law_start {f : Addr} {fd : FuncData} (F : Fun K "_law_start" "_law_start" s__law_start f fd) (m_range : mg "range" = none) (G__law_pick : GF P w K mg base "_law_pick" 1 ["tape", "size"] spPick) (m_len : mg "len" = none) (G__law_holds : GF P w K mg base "_law_holds" 2 ["size", "nexts", "saying"] spLawHolds) (G__law_far : GF P w K mg base "_law_far" 1 ["size", "start", "end"] spFar) : FnOk P w K mg base CX0 3 f fd ["tape", "size", "nexts", "places", "behinds", "post"] spStart := by
  refine F.ok sc__law_start (fun vs H Q E h => ?_) (fun cdv A outer s H vs Q E hr h => ?_)
  · obtain ⟨_, _, _, _, _, _, _, _, rfl, _⟩ := h; rfl
  · obtain ⟨tp, tc, dn, lp, dk, dp, N, ps, rfl, T, t, hp, ok, say, hpost, hps, hl40, nd, k⟩ := h
    refine ⟨_, (pss_one (ps_for PassesOwn.never rfl (pi_listK (K := K) rfl (pv 3)) (pg_name (i := 6) sc__law_start.nd rfl (Or.inl rfl))
      (pss_cons (ps_setLc (i := 7) (own := [("k", 9)]) (g := gName 9) rfl sc__law_start.nd rfl rfl (sw_true rfl rfl rfl (by decide +kernel)) (pi_range1 (by rfl) m_range (pa_cons pe_int pa_nil)) (blkOk_by (N := ["tape", "size", "nexts", "places", "behinds", "post", "place", "names", "kind", "k", "kinds"]) (sc := defScope s__law_start) (by decide +kernel)) (fun _ _ _ _ _ => (pg_name (i := 9) sc__law_start.nd rfl (Or.inl rfl))) (fun _ _ _ _ _ => pts_nil) (fun _ _ _ _ _ => (pe_ix (ix_listK (K := K) rfl) (pv 3) (c_fn G__law_pick (hr.mono (by decide)) (pa_cons (pv 0) (pa_cons (pe_callB (cb_lenSK (K := K) rfl) (by rfl) m_len b_len (pa_cons (pv 3) pa_nil)) pa_nil))) (by intro _ _; rfl))))
      (pss_cons (ps_set (i := 8) sc__law_start.nd rfl (Or.inl rfl) (c_fn G__law_pick (hr.mono (by decide)) (pa_cons (pv 0) (pa_cons pe_int pa_nil))))
      (pss_one (ps_if (pt_val (c_fn G__law_holds (hr.mono (by decide)) (pa_cons (pv 1) (pa_cons (pv 2) (pa_cons (pe_tup (pa_cons (pe_ix (ix_listK (K := K) rfl) (pv 7) pe_int (by intro _ _; rfl)) (pa_cons (pv 6) (pa_cons (c_fn G__law_far (hr.mono (by decide)) (pa_cons (pv 1) (pa_cons (pe_ix (ix_listK (K := K) rfl) (pv 7) pe_int (by intro _ _; rfl)) (pa_cons (pv 6) pa_nil)))) pa_nil)))) pa_nil))))) (pss_one (ps_if (pt_cmpR op_lt (pv 8) pe_int (nomark _)) (pss_one (ps_dput (hu_of hr) (pv 4) (pv 6) (pe_ix (ix_listK (K := K) rfl) (pv 7) pe_int (by intro _ _; rfl)) rfl)) (pss_cons (ps_set (i := 10) sc__law_start.nd rfl (Or.inl rfl) (pe_lst (pa_cons (pe_tup (pa_cons pe_str (pa_cons (pv 6) (pa_cons (pe_ix (ix_listK (K := K) rfl) (pv 7) pe_int (by intro _ _; rfl)) pa_nil)))) (pa_cons (pe_tup (pa_cons pe_str (pa_cons (pe_ix (ix_listK (K := K) rfl) (pv 7) pe_int (by intro _ _; rfl)) (pa_cons (pv 6) (pa_cons (pe_ix (ix_listK (K := K) rfl) (pv 7) pe_int (by intro _ _; rfl)) pa_nil))))) (pa_cons (pe_tup (pa_cons pe_str (pa_cons (pv 6) (pa_cons (pe_ix (ix_listK (K := K) rfl) (pv 7) pe_int (by intro _ _; rfl)) pa_nil)))) pa_nil)))))
      (pss_one (ps_expr (pe_bmK (K := K) rfl PySem.F.plainAttrs_list PySem.F.slot_list_append PySem.F.type_list_append mt_append (pv 5) (pa_cons (pe_ix (ix_listK (K := K) rfl) (pv 10) (pe_op op_sub (pv 8) pe_int) (by intro _ _; rfl)) pa_nil))))))) pss_nil)))))), ?_⟩
    (try simp only [cxK, cxKX, List.map])
    refine ent (σ' := [some _, some _, some _, some _, some _, some _, none, none, none, none, none]) rfl ?_
    simp only [List.nodup_cons, List.mem_cons, List.not_mem_nil, or_false, not_or] at nd
    obtain ⟨⟨dp_tp, dp_tc, dp_lp⟩, ⟨tp_tc, tp_lp⟩, tc_lp, _⟩ := nd
    have hlen := ok.hl
    have h0 := ok.s0
    have h1 := ok.s1
    obtain ⟨kn, hn, dN⟩ := T.nx
    obtain ⟨kb, hb, dB⟩ := T.bf
    obtain ⟨lv, hl, ls⟩ := T.ls
    obtain ⟨_, _, _, _, _, tt, tcs, _⟩ := t.ex
    have nxt := NS.nxAt ok hn dN
    have dn_tp : dn ≠ tp := ne_of hn tt (fun z => nomatch z)
    have dk_tp : dk ≠ tp := ne_of hb tt (fun z => nomatch z)
    have dn_dp : dn ≠ dp := ne_of hn hl (fun z => nomatch z)
    have dk_dp : dk ≠ dp := ne_of hb hl (fun z => nomatch z)
    have dk_tc : dk ≠ tc := ne_of hb tcs (fun z => nomatch z)
    have dk_lp : dk ≠ lp := ne_of hb hp (fun z => nomatch z)
    have dn_lp : dn ≠ lp := ne_of hn hp (fun z => nomatch z)
    k_offL
    refine loopLF (M := [tp, dk, dp]) (ps.map V.int) (sqL_of hp) (by simp [Ne.symm tp_lp, Ne.symm dk_lp, Ne.symm dp_lp]) (fun i σ' H' => ∃ (v1 v2 v3 v4 v5 : Option V) (M : NS), σ' = [some (.ref tp), some (.int N.size), some (.ref dn), some (.ref lp), some (.ref dk), some (.ref dp), v1, v2, v3, v4, v5] ∧ M.f = N.f ∧ M.hs = N.hs ∧ M.size = N.size ∧ M.Ok ∧ M.Say ∧ M.post.length ≤ i ∧ TabAt H' dn dk dp M ∧ TapeAt H' tp tc ∧ Fr [tp, dk, dp] H H')
      ⟨_, _, _, _, _, N, rfl, rfl, rfl, rfl, ok, say, by rw [hpost]; exact Nat.zero_le _, T, t, Fr.refl _ _⟩ (fun i σ' H' ⟨_, _, _, _, _, _, _, _, _, _, _, _, _, _, _, f⟩ => f) ?_ ?_
    · rintro i x σ' H3 hi ⟨v1, v2, v3, v4, v5, M, rfl, mf, mh, mz, okM, sayM, pl, T3, t3, f3⟩
      obtain ⟨h, hh, hm, rfl⟩ := mem_ints hi
      have hi40 : i < 40 := by have := (List.getElem?_eq_some_iff.mp hh).1; omega
      have psl : 0 < ps.length := List.length_pos_of_mem hm
      have n3 : ∀ a : Addr, a ≠ tp → a ≠ dk → a ≠ dp → a ∉ [tp, dk, dp] := fun a x y z => by simp [x, y, z]
      have hp3 := f3.at_ _ _ hp (n3 _ (Ne.symm tp_lp) dk_lp.symm (Ne.symm dp_lp))
      k_offL
      refine ⟨3, rfl, by decide, by decide, ?_⟩
      refine lcW (walk_range (lo := 0)) (fun i acc H' => ∃ xs : List Int, xs.length = i ∧ acc = xs.map V.int ∧ (∀ x ∈ xs, x ∈ ps) ∧ TapeAt H' tp tc ∧ Fr [tp] H3 H')
        (fun D H' _ _ f => ⟨[], rfl, rfl, (fun _ h => nomatch h), t3.ex0 f, f.up⟩) (fun _ _ _ _ _ => trivial) (by decide) (fun i acc H' ⟨xs, l, e, _⟩ => by rw [e, List.length_map, l]; exact Nat.le_refl _) ?_ ?_
      · rintro D j x acc H0 H' hj hD eD ⟨xs, xl, rfl, xm, tq, fq⟩ ⟨rfl, _⟩
        have Dt : D ≠ tp := by obtain ⟨_, _, _, _, _, tt, tcs, _⟩ := t3.ex; exact (ne_of_none tt hD).symm
        have Dc : D ≠ tc := by obtain ⟨_, _, _, _, _, tt, tcs, _⟩ := t3.ex; exact (ne_of_none tcs hD).symm
        refine sk9 fun R1 R2 kA kB kC => kB _ ?_
        have hpq := fq.at_ _ _ hp3 (mem_one (Ne.symm tp_lp))
        k_offL
        refine r_lenL (sqL_of hpq) ?_
        rw [List.length_map]
        k_offL
        refine i_pick tq (by omega) (by omega) fun m H8 a8 b8 t8 f8 => ?_
        have g8 : m.toNat < ps.length := by omega
        refine r_ixL (sqL_of (f8.at_ _ _ hpq (mem_one (Ne.symm tp_lp)))) (ix_at m.toNat (by omega) (ints_get g8)) ?_
        refine kA _ _ (f8.at_ _ _ eD (mem_one Dt)) fun H10 e10 f10 => ?_
        refine ⟨xs ++ [ps[m.toNat]], by rw [List.length_append, xl]; rfl, by rw [List.map_append]; rfl, fun q hq => ?_, t8.fr f10 (mem_one Dt.symm) (mem_one Dc.symm), ?_⟩
        · rcases List.mem_append.mp hq with w | w
          · exact xm q w
          · rw [List.mem_singleton.mp w]; exact List.getElem_mem g8
        · exact (fq.trans f8).drop (f10.mono fun a h => by simp at h; simp [h]) hD
      rintro nl H4 _ n4 e4 ⟨xs, xl, rfl, xm, t4, f4⟩
      obtain ⟨one, two, other, rfl⟩ : ∃ a b c, xs = [a, b, c] := by
        match xs, xl with
        | [a, b, c], _ => exact ⟨a, b, c, rfl⟩
      have hone := xm one (by simp)
      have htwo := xm two (by simp)
      have hoth := xm other (by simp)
      have nl_tp : nl ≠ tp := by obtain ⟨_, _, _, _, _, tt, tcs, _⟩ := t3.ex; exact (ne_of_none tt n4).symm
      k_offL
      refine i_pick t4 (by decide) (by decide) fun kind H8 a8 b8 t8 f8 => ?_
      have e8 := f8.at_ _ _ e4 (mem_one nl_tp)
      have f38 : Fr [tp] H3 H8 := f4.trans f8
      have T8 : TabAt H8 dn dk dp M := T3.fr f38 (mem_one dn_tp) (mem_one dk_tp) (mem_one dp_tp)
      have f28 : Fr [tp, dk, dp] H H8 := f3.trans (f38.mono fun a h => by simp at h; simp [h])
      have nxt8 := nxt.fr f28 (n3 _ dn_tp T.ne dn_dp)
      k_offL
      refine r_ixL (sqL_of e8) (ix_at 0 rfl rfl) ?_
      k_offL
      refine r_ixL (sqL_of e8) (ix_at 0 rfl rfl) ?_
      k_offL
      refine i_far h0 ?_
      k_offL
      refine tupk (by show 3 ≤ 100000; decide) fun t9 H9 n9 e9 f9 => ?_
      k_offL
      refine ⟨N.size, dn, t9, N.hs, N.f, one, h, far N.size one h, rfl, nxt8.ex0 f9, e9, hps one hone, by omega, h0, h1, (far_pos h0).1, by have := (far_pos (s := one) (e := h) h0).2; omega, fun b H10 hb f10 => ?_⟩
      have f810 := f9.trans f10
      have T10 := T8.ex f810
      have t10 := t8.ex0 f810
      have e10 := f810.at_ _ _ e8 List.not_mem_nil
      have f2A : Fr [tp, dk, dp] H H10 := f28.trans f810.up
      cases b with
      | false =>
        k_offL
        exact ⟨_, _, _, _, _, M, rfl, mf, mh, mz, okM, sayM, by omega, T10, t10, f2A⟩
      | true =>
        have htr := hb.mp rfl
        have h1m : one ∈ M.hs := by rw [mh]; exact hps one hone
        have hhm : h ∈ M.hs := by rw [mh]; exact hps h hm
        have hom : other ∈ M.hs := by rw [mh]; exact hps other hoth
        have htm : two ∈ M.hs := by rw [mh]; exact hps two htwo
        obtain ⟨kb9, hb9, dB9⟩ := T10.bf
        obtain ⟨kn9, hn9, dN9⟩ := T10.nx
        obtain ⟨lv9, hl9, ls9⟩ := T10.ls
        have lvl := ls9.len
        have laid : ∀ (l : LT) (HA HB : Hp) (u : Addr), (∀ x ∈ l.pl, x ∈ M.hs) → (∀ r s, l = .tell r s → Tr N.size N.f s r (far N.size s r)) → (∀ u v x, l = .ans u v x → Tr N.size N.f x v (far N.size x v)) → Fr [] H10 HA → HA u = some (.tup l.vs) → HB dp = some (.lst (lv9 ++ [.ref u])) → Fr [dp] HA HB →
            (M.push l).f = N.f ∧ (M.push l).hs = N.hs ∧ (M.push l).size = N.size ∧ (M.push l).Ok ∧ (M.push l).Say ∧ (M.push l).post.length ≤ i + 1 ∧ TabAt HB dn dk dp (M.push l) ∧ TapeAt HB tp tc ∧ Fr [tp, dk, dp] H HB := fun l HA HB u hpl h1 h2 f10 e10 e11 f11 =>
          ⟨mf, mh, mz, okM.push hpl (by omega), ⟨sayM.sb, fun r s hm => by
            rcases List.mem_append.mp hm with q | q
            · exact sayM.st r s q
            · have := h1 r s (List.mem_singleton.mp q).symm
              rw [← mf, ← mz] at this; exact this, fun u v x hm => by
            rcases List.mem_append.mp hm with q | q
            · exact sayM.sa u v x q
            · have := h2 u v x (List.mem_singleton.mp q).symm
              rw [← mf, ← mz] at this; exact this⟩, by rw [push_len]; omega, T10.push hl9 f10 e10 e11 f11 dn_dp dk_dp, (t10.ex0 f10).fr f11 (mem_one (Ne.symm dp_tp)) (mem_one (Ne.symm dp_tc)), f2A.trans (f10.up.trans (f11.mono fun a h => by simp at h; simp [h]))⟩
        k_offL
        refine ifD (fun e => ?_) (fun e => ?_)
        · k_offL
          refine r_ixL (sqL_of e10) (ix_at 0 rfl rfl) ?_
          k_offL
          refine dputk hb9 (okM.lbl dB9) fun HA eA fA => ?_
          refine ⟨_, _, _, _, _, M.setB h (some one), rfl, mf, mh, mz, okM.setB hhm h1m, ⟨fun v u e2 => ?_, sayM.st, sayM.sa⟩, by show M.post.length ≤ i + 1; omega, ⟨⟨kn9, fA.at_ _ _ hn9 (mem_one T.ne), dN9⟩, ⟨_, eA, dB9.put.cong fun y => M.lb_setB h one y⟩, ⟨lv9, fA.at_ _ _ hl9 (mem_one dk_dp.symm), ls9.fr fA⟩, T.ne⟩, t10.fr fA (mem_one dk_tp.symm) (mem_one dk_tc.symm), f2A.trans (fA.mono fun a h => by simp at h; simp [h])⟩
          have e2' : (if v = h then some one else M.b v) = some u := e2
          by_cases q : v = h
          · rw [if_pos q] at e2'
            cases e2'
            rw [q]
            have := htr
            rw [← mf, ← mz] at this
            exact this
          · rw [if_neg q] at e2'
            exact sayM.sb v u e2'
        · k_offL
          refine r_ixL (sqL_of e10) (ix_at 0 rfl rfl) ?_
          k_offL
          refine tupk (by show 3 ≤ 100000; decide) fun u1 HA nA eA fA => ?_
          k_offL
          refine r_ixL (sqL_of (fA.at_ _ _ e10 List.not_mem_nil)) (ix_at 1 rfl rfl) ?_
          k_offL
          refine r_ixL (sqL_of (fA.at_ _ _ e10 List.not_mem_nil)) (ix_at 0 rfl rfl) ?_
          k_offL
          refine tupk (by show 4 ≤ 100000; decide) fun u2 HB nB eB fB => ?_
          k_offL
          refine r_ixL (sqL_of ((fA.trans fB).at_ _ _ e10 List.not_mem_nil)) (ix_at 2 rfl rfl) ?_
          k_offL
          refine tupk (by show 3 ≤ 100000; decide) fun u3 HC nC eC fC => ?_
          k_offL
          refine lstk (by show 3 ≤ 100000; decide) fun kl HD nD eD fD => ?_
          have fAD : Fr [] H10 HD := ((fA.trans fB).trans fC).trans fD
          have q1 : HD u1 = some (.tup (LT.tell h one).vs) := ((fB.trans fC).trans fD).tp _ _ eA
          have q2 : HD u2 = some (.tup (LT.ans two h one).vs) := (fC.trans fD).tp _ _ eB
          have q3 : HD u3 = some (.tup (LT.ask h other).vs) := fD.tp _ _ eC
          have hlD := fAD.at_ _ _ hl9 List.not_mem_nil
          have kj : kind = 2 ∨ kind = 3 ∨ kind = 4 := by omega
          rcases kj with rfl | rfl | rfl
          · k_offL
            refine r_ixL (sqL_of eD) (v := .ref u1) (ix_at 0 rfl rfl) ?_
            k_offL
            refine r_app hlD (by omega) fun HE eE fE => ?_
            exact ⟨_, _, _, _, _, _, rfl, laid (.tell h one) HD HE u1 (pl2 hhm h1m) (fun r s e => by cases e; exact htr) (fun _ _ _ e => nomatch e) fAD q1 eE fE⟩
          · k_offL
            refine r_ixL (sqL_of eD) (v := .ref u2) (ix_at 1 rfl rfl) ?_
            k_offL
            refine r_app hlD (by omega) fun HE eE fE => ?_
            exact ⟨_, _, _, _, _, _, rfl, laid (.ans two h one) HD HE u2 (pl3 htm hhm h1m) (fun _ _ e => nomatch e) (fun _ _ _ e => by cases e; exact htr) fAD q2 eE fE⟩
          · k_offL
            refine r_ixL (sqL_of eD) (v := .ref u3) (ix_at 2 rfl rfl) ?_
            k_offL
            refine r_app hlD (by omega) fun HE eE fE => ?_
            exact ⟨_, _, _, _, _, _, rfl, laid (.ask h other) HD HE u3 (pl2 hhm hom) (fun _ _ e => nomatch e) (fun _ _ _ e => nomatch e) fAD q3 eE fE⟩
    · rintro σ' H3 ⟨v1, v2, v3, v4, v5, M, rfl, mf, mh, mz, okM, sayM, pl, T3, t3, f3⟩
      rw [List.length_map] at pl
      k_offL
      exact k M H3 mf mh mz okM sayM pl T3 t3 f3
end
end RL
set_option synthInstance.maxHeartbeats 4000000
set_option synthInstance.maxSize 4000
namespace RL
theorem somes_ex {L : List Addr} {H H' : Hp} (S : ∀ y ∈ L, (H y).isSome = true) (f : Fr [] H H') : ∀ y ∈ L, (H' y).isSome = true := fun y hy => by
  obtain ⟨o, e⟩ := Option.isSome_iff_exists.mp (S y hy)
  rw [f.at_ _ _ e List.not_mem_nil]; rfl
theorem somes_cons {L : List Addr} {H : Hp} {x : Addr} {o : HO} (S : ∀ y ∈ L, (H y).isSome = true) (e : H x = some o) : ∀ y ∈ x :: L, (H y).isSome = true := fun y hy => by
  rcases List.mem_cons.mp hy with z | z
  · rw [z, e]; rfl
  · exact S y z
theorem somes_net {L : List Addr} {C : Addr} {H : Hp} {p da db dl : Addr} {N : NS} (S : ∀ y ∈ L, (H y).isSome = true) (h : NetAt C H p da db dl N) : ∀ y ∈ p :: da :: db :: dl :: L, (H y).isSome = true := by
  obtain ⟨_, e1⟩ := h.ob
  obtain ⟨_, e2, _⟩ := h.nx
  obtain ⟨_, e3, _⟩ := h.bf
  obtain ⟨_, e4, _⟩ := h.ls
  exact somes_cons (somes_cons (somes_cons (somes_cons S e4) e3) e2) e1
theorem root_ex {hs : List Int} {f : Int → Int} {h : Int} (cl : ∀ h ∈ hs, f h ∈ hs) (hh : h ∈ hs) : ∃ r, RootOf hs f h r := by
  obtain ⟨k, k1, _, k2⟩ := on_ring (n := hs.length) cl hh (Nat.le_refl _)
  obtain ⟨m, per⟩ : ∃ m, Per f (it f hs.length h) m := by
    have ex : ∃ m, 1 ≤ m ∧ it f m (it f hs.length h) = it f hs.length h := ⟨k, k1, k2⟩
    obtain ⟨m, ⟨m1, m2⟩, m3⟩ : ∃ m, (1 ≤ m ∧ it f m (it f hs.length h) = it f hs.length h) ∧ ∀ k, k < m → ¬ (1 ≤ k ∧ it f k (it f hs.length h) = it f hs.length h) := by
      obtain ⟨m, hm⟩ := ex
      induction m using Nat.strongRecOn with
      | ind m ih =>
        by_cases c : ∃ k, k < m ∧ (1 ≤ k ∧ it f k (it f hs.length h) = it f hs.length h)
        · obtain ⟨k, hk, hk2⟩ := c; exact ih k hk hk2
        · exact ⟨m, hm, fun k hk z => c ⟨k, hk, z⟩⟩
    exact ⟨m, m1, m2, fun j j0 j1 z => m3 j j1 ⟨j0, z⟩⟩
  have ne : 0 < (ringL f (it f hs.length h) m).length := by unfold ringL; rw [List.length_map, List.length_range]; exact per.p1
  have mn : ∀ l : List Int, 0 < l.length → ∃ r ∈ l, ∀ y ∈ l, r ≤ y := fun l => by
    induction l with
    | nil => intro z; cases z
    | cons a t ih =>
      intro _
      cases t with
      | nil => exact ⟨a, by simp, fun y hy => by rw [List.mem_singleton.mp hy]; exact Int.le_refl _⟩
      | cons b t =>
        obtain ⟨r, hr, hle⟩ := ih (by simp)
        by_cases c : a ≤ r
        · exact ⟨a, by simp, fun y hy => by
            rcases List.mem_cons.mp hy with z | z
            · rw [z]; exact Int.le_refl _
            · exact Int.le_trans c (hle y z)⟩
        · exact ⟨r, List.mem_cons_of_mem _ hr, fun y hy => by
            rcases List.mem_cons.mp hy with z | z
            · rw [z]; omega
            · exact hle y z⟩
  obtain ⟨r, hr, hle⟩ := mn _ ne
  exact ⟨r, m, per, hr, hle⟩
theorem mk_ex {N : NS} (ok : N.Ok) : ∃ nm W φ, Mk N.size N.hs N.f nm W φ := by
  obtain ⟨g, hg⟩ : ∃ g : Int → Int, ∀ h ∈ N.hs, RootOf N.hs N.f h (g h) := by
    have : ∀ h : Int, ∃ r : Int, h ∈ N.hs → RootOf N.hs N.f h r := fun h => by
      by_cases c : h ∈ N.hs
      · obtain ⟨r, hr⟩ := root_ex ok.fh c; exact ⟨r, fun _ => hr⟩
      · exact ⟨0, fun z => absurd z c⟩
    obtain ⟨g, hg⟩ := Classical.axiomOfChoice this
    exact ⟨g, hg⟩
  obtain ⟨W, φ, P⟩ := Pot.start ok.s0 ok.fh hg
  exact ⟨g, W, φ, ok.up, ok.on, ok.fh, ok.hl, ok.s0, ok.s1, P⟩
def spLaw (K : PySem.W.Frag) : Sp := fun vs H Q _ => ∃ (a : Addr) (ns : List Int), vs = [.ref a] ∧ SqL K H a (ns.map V.int) ∧ ns.length ≤ 63 ∧ ∀ H', Q (.bl true) H'
section
variable {P : Program} {w : World} {K : PySem.W.Frag} {mg : Str → Option Value} {base : Heap} {CNet CMender CDesk CStore CWalk : Addr}
abbrev s_law : Stmt := top 78
theorem sc_law : FnScope ["script", "tape", "count", "size", "places", "nexts", "behinds", "post", "net", "other", "first", "ends", "tables", "logs", "k"] ["script"] (defScope s_law) := ⟨rfl, rfl, rfl, by decide +kernel, rfl, by decide +kernel, by decide +kernel⟩
theorem cut_law_rest {f : Addr} {cdv : Value} {A : Around} {outer : List Env} {s : Shared} {H : Hp} {E : XK} (m_range : mg "range" = none) (G__law_all_rooms : GF P w K mg base "_law_all_rooms" 5 ["size", "nexts"] spLawRooms) (G__law_letters : GF P w K mg base "_law_letters" 8 ["tape", "net", "size", "tables", "logs"] (spLawLetters CNet)) (m_len : mg "len" = none) (G__law_faithful : GF P w K mg base "_law_faithful" 4 ["size", "nexts"] spLawFaithful) (G__law_kept : GF P w K mg base "_law_kept" 7 ["tape", "net", "size", "tables", "first", "ends"] (spLawKept CNet)) (G__law_changed : GF P w K mg base "_law_changed" 6 ["tape", "net", "size", "nexts", "logs"] (spLawChanged CNet)) (G__law_same : GF P w K mg base "_law_same" 5 ["actual", "due"] (spSame 4)) (G_each_held_once : GF P w K mg base "each_held_once" 2 ["net"] (spEachOnce CNet)) (G_Net_nexts : GM P w K mg base CNet "nexts" 1 ["self"] (spNexts CNet)) (G__law_whole_log : GF P w K mg base "_law_whole_log" 7 ["tape", "other", "size", "first", "logs", "ends"] (spLawWhole CNet)) (T : NetT K CNet) (hr : Room 8 (A.deeper (PyProof.Rows.envOfC "law" (defScope s_law) s.heap.objs.size f cdv))) :
    ∃ t : TS, PSs (cxOf CX0 P w K mg base ["script", "tape", "count", "size", "places", "nexts", "behinds", "post", "net", "other", "first", "ends", "tables", "logs", "k"] "law" (defScope s_law) f cdv A outer s H E).nox (List.drop 15 (defBody s_law)) t ∧ ∀ {nx bk ct : L2.St → Hp → Prop} {rt : VK}, ∀ {a lp p2 da2 db2 dl2 df de tb lg l0 l1 : Addr} {c : Int} {A : Ads} {F : NS} {nm W φ e : Int → Int} {H1 : Hp}, WW CNet H1 A F F → F.Ok → F.Say → F.post.length ≤ 60 → NetAt CNet H1 p2 da2 db2 dl2 F → (∃ kvs, H1 df = some (.dK kvs) ∧ DOk kvs (mfOf F.hs F.f)) → H1 de = some (.dK (F.hs.map fun h => (Sum.inl h, V.int (e h)))) → (∀ h ∈ F.hs, IsEnd F.hs nm W φ h (e h)) → Mk F.size F.hs F.f nm W φ →
  H1 tb = some (.lst [.ref A.dn, .ref A.dk, .ref A.dp]) → LgAt H1 lg l0 l1 [] [] → OffL A tb lg l0 l1 → (∀ y ∈ [p2, da2, db2, dl2, df, de], y ∉ l0 :: l1 :: A.all) → [de, df, lg, l0, l1].all (fun y => decide (y ≠ da2)) = true → (∀ H', rt (.bl true) H') →
  t ⟨nx, rt, bk, ct⟩ [some (V.ref a), some (.ref A.tp), some (.int c), some (.int F.size), some (.ref lp), some (.ref A.dn), some (.ref A.dk), some (.ref A.dp), some (.ref A.p), some (.ref p2), some (.ref df), some (.ref de), some (.ref tb), some (.ref lg), none] H1 := by
    refine ⟨_, (pss_cons (ps_for PassesOwn.never rfl (pi_range1 (by rfl) m_range (pa_cons (pe_op op_add (c_fn G__law_all_rooms (hr.mono (by decide)) (pa_cons (pv 3) (pa_cons (pv 10) pa_nil))) pe_int) pa_nil)) (pg_name (i := 14) sc_law.nd rfl (Or.inl rfl))
      (pss_cons (ps_if (pt_not (pt_val (c_fn G__law_letters (hr.mono (by decide)) (pa_cons (pv 1) (pa_cons (pv 8) (pa_cons (pv 3) (pa_cons (pv 12) (pa_cons (pv 13) pa_nil)))))))) (pss_one (ps_ret pe_bl)) pss_nil)
      (pss_cons (ps_if (pt_cmpR op_eq (pe_callB (cb_lenSK (K := K) rfl) (by rfl) m_len b_len (pa_cons (c_fn G__law_faithful (hr.mono (by decide)) (pa_cons (pv 3) (pa_cons (pv 5) pa_nil))) pa_nil)) pe_int (nomark _)) (pss_one ps_break) pss_nil)
      (pss_one (ps_if (PW.pt (pw_or (pt_not (pt_val (c_fn G__law_changed (hr.mono (by decide)) (pa_cons (pv 1) (pa_cons (pv 8) (pa_cons (pv 3) (pa_cons (pv 5) (pa_cons (pv 13) pa_nil)))))))) (pw_or1 (pt_not (pt_val (c_fn G__law_kept (hr.mono (by decide)) (pa_cons (pv 1) (pa_cons (pv 8) (pa_cons (pv 3) (pa_cons (pv 12) (pa_cons (pv 10) (pa_cons (pv 11) pa_nil)))))))))))) (pss_one (ps_ret pe_bl)) pss_nil)))))
      (pss_cons (ps_if (pt_not (pt_val (c_fn G__law_kept (hr.mono (by decide)) (pa_cons (pv 1) (pa_cons (pv 8) (pa_cons (pv 3) (pa_cons (pv 12) (pa_cons (pv 10) (pa_cons (pv 11) pa_nil))))))))) (pss_one (ps_ret pe_bl)) pss_nil)
      (pss_cons (ps_if (PW.pt (pw_or (pt_not (pt_val (c_fn G__law_same (hr.mono (by decide)) (pa_cons (c_mt0 G_Net_nexts (hr.mono (by decide)) (pv 8)) (pa_cons (pv 11) pa_nil))))) (pw_or1 (pt_not (pt_val (c_fn G__law_same (hr.mono (by decide)) (pa_cons (c_fn G_each_held_once (hr.mono (by decide)) (pa_cons (pv 8) pa_nil)) (pa_cons pe_bl pa_nil)))))))) (pss_one (ps_ret pe_bl)) pss_nil)
      (pss_one (ps_ret (c_fn G__law_whole_log (hr.mono (by decide)) (pa_cons (pv 1) (pa_cons (pv 9) (pa_cons (pv 3) (pa_cons (pv 10) (pa_cons (pv 13) (pa_cons (pv 11) pa_nil)))))))))))), ?_⟩
    (try simp only [cxK, cxKX, List.map])
    intro nx bk ct rt
    intro a lp p2 da2 db2 dl2 df de tb lg l0 l1 c A F nm W φ e H1 w ok say hpl hN2 hdf hde ie MF htb G off consts nd2 k
    obtain ⟨kf, hdf, dkf⟩ := hdf
    have nf : NxAt H1 df F.hs F.f := .mk' (.inl hdf) dkf ok.nd ok.fh
    have hlen := ok.hl
    have h0 := ok.s0
    have h1 := ok.s1
    obtain ⟨ot, og, op, oo, l01⟩ := off.a
    have offg : OffL A lg lg l0 l1 := ⟨off.g, off.g, off.p, off.o⟩
    have c1 := consts p2 (by simp)
    have c2 := consts da2 (by simp)
    have c3 := consts db2 (by simp)
    have c4 := consts dl2 (by simp)
    have c5 := consts df (by simp)
    have c6 := consts de (by simp)
    have rl := rooms_le (size := F.size) (hs := F.hs) (nm := nm) (W := W) (φ := φ) (f := F.f)
    have rl2 := Nat.mul_le_mul hlen hlen
    have tp_all : A.tp ∈ l0 :: l1 :: A.all := by simp [Ads.all]
    have dfne : df ≠ A.tp := fun z => c5 (z ▸ tp_all)
    have L0 : LB F F nm W φ [] := ⟨rfl, rfl, rfl, (fun _ h => nomatch h), fun j q h => by simp at h, MF, by simp⟩
    refine q_cut (fun σ' H' => ∃ (v14 : Option V) (N : NS) (ps : List (Int × Int)), σ' = [some (V.ref a), some (.ref A.tp), some (.int c), some (.int F.size), some (.ref lp), some (.ref A.dn), some (.ref A.dk), some (.ref A.dp), some (.ref A.p), some (.ref p2), some (.ref df), some (.ref de), some (.ref tb), some (.ref lg), v14] ∧ WW CNet H' A N N ∧ N.Ok ∧ N.Say ∧ LgAt H' lg l0 l1 ps (oldsOf F ps) ∧ LB F N nm W φ ps ∧ (∀ q : Int × Int, q.1 ∈ F.hs → q.2 ∈ F.hs → ¬ FaithF F.size N.f q) ∧ Fr (l0 :: l1 :: A.all) H1 H') (fun Nx kN => ?_) ?_
    · k_offL
      refine ⟨F.size, df, F.hs, F.f, nm, W, φ, (), rfl, nf, MF, fun H2 f2 => ?_⟩
      k_offL
      refine loopR1 _ (by omega) (by omega) (fun i σ' H' => ∃ (v14 : Option V) (N : NS) (ps : List (Int × Int)), σ' = [some (V.ref a), some (.ref A.tp), some (.int c), some (.int F.size), some (.ref lp), some (.ref A.dn), some (.ref A.dk), some (.ref A.dp), some (.ref A.p), some (.ref p2), some (.ref df), some (.ref de), some (.ref tb), some (.ref lg), v14] ∧ WW CNet H' A N N ∧ N.Ok ∧ N.Say ∧ N.post.length ≤ 60 ∧ LgAt H' lg l0 l1 ps (oldsOf F ps) ∧ LB F N nm W φ ps ∧ i ≤ ps.length ∧ Fr (l0 :: l1 :: A.all) H1 H')
        ⟨_, F, [], rfl, w.ex0 f2, ok, say, hpl, G.fr f2 List.not_mem_nil List.not_mem_nil List.not_mem_nil, L0, Nat.le_refl _, f2.up⟩ ?_ ?_
      · rintro i σ' H3 hi ⟨v14, N, ps, rfl, w3, ok3, say3, pl3', G3, L3, hip, f3⟩
        k_offL
        refine ⟨A, F, N, tb, lg, l0, l1, nm, W, φ, ps, (), by rw [L3.z], w3, ok3, say3, pl3', f3.at_ _ _ htb off.t, G3, L3, off, fun N4 ps4 H4 w4 ok4 say4 pl4 sz4 G4 L4 le4 f4 => ?_⟩
        obtain ⟨kn, hn, dN⟩ := w4.tab.nx
        have nx4 := NS.nxAt ok4 hn dN
        rw [L4.hs] at nx4
        k_offL
        refine ⟨F.size, A.dn, F.hs, N4.f, (), rfl, nx4, ok.up, hlen, h0, h1, fun pl qs lq H5 n5 e5 prq hq hql f5 => ?_⟩
        have w5 := w4.ex0 f5
        have f35 : Fr (l0 :: l1 :: A.all) H1 H5 := f3.trans (f4.trans f5.up)
        have G5 := G4.fr f5 List.not_mem_nil List.not_mem_nil List.not_mem_nil
        k_offL
        refine r_lenL (sqL_of e5) ?_
        rw [prq.len]
        k_offL
        refine ifD (fun eq0 => ?_) (fun eq0 => ?_)
        · k_offL
          have no : ∀ q : Int × Int, q.1 ∈ F.hs → q.2 ∈ F.hs → ¬ FaithF F.size N4.f q := fun q q1 q2 z => by
            have := List.length_pos_of_mem ((hq q).mpr ⟨q1, q2, z⟩)
            omega
          exact kN _ _ ⟨_, N4, ps4, rfl, w5, ok4, say4, G5, L4, no, f35⟩
        · obtain ⟨q, hqm⟩ : ∃ q, q ∈ qs := by
            cases qs with
            | nil => exact absurd rfl eq0
            | cons q r => exact ⟨q, List.mem_cons_self⟩
          obtain ⟨q1, q2, qF⟩ := (hq q).mp hqm
          have nx5 := (nf.fr f35 c5)
          k_offL
          refine ⟨A, F, N4, lg, l0, l1, nm, W, φ, ps4, (), by rw [L4.z], w5, ok4, say4, pl4, G5, L4, offg, ⟨q, by rw [L4.hs]; exact q1, by rw [L4.hs]; exact q2, by rw [faith_iff, L4.z]; exact qF⟩, fun N6 ps6 H6 w6 ok6 say6 pl6 sz6 G6 L6 le6 f6 => ?_⟩
          have f16 : Fr (l0 :: l1 :: A.all) H1 H6 := f35.trans f6
          k_offL
          refine ⟨A, F, N6, tb, df, de, nm, W, φ, e, by rw [L6.z], w6, ok6, say6, f16.at_ _ _ htb off.t, nf.fr f16 c5, f16.at_ _ _ hde c6, ie, L6.M, MF, L6.hs, L6.z, dfne, fun H7 t7 f7 => ?_⟩
          k_offL
          have tsub : ∀ {y : Addr}, y ∉ A.all → y ∉ [A.tp] := fun h z => h (tape_sub _ z)
          exact ⟨_, N6, ps6, rfl, w6.tape' f7 t7, ok6, say6, pl6, G6.fr f7 (tsub og) (tsub op) (tsub oo), L6, by omega, f16.trans (f7.mono fun a h => by simp at h; simp [Ads.all, h])⟩
      · rintro σ' H3 ⟨v14, N, ps, rfl, w3, ok3, say3, pl3', G3, L3, hip, f3⟩
        exfalso
        have := L3.rm
        omega
    rintro _ H2 ⟨v14, N, ps, rfl, w2, ok2, say2, G2, L2, no, f2⟩
    have inj := inj_of_no h0 MF.on no
    have eN : ∀ x ∈ F.hs, e x = N.f x := fun x hx => IsEnd.uniq MF.P MF.on hx (ie x hx) (L2.M.P.fix h0 L2.M.cl inj hx)
    k_offL
    refine ⟨A, F, N, tb, df, de, nm, W, φ, e, by rw [L2.z], w2, ok2, say2, f2.at_ _ _ htb off.t, nf.fr f2 c5, f2.at_ _ _ hde c6, ie, L2.M, MF, L2.hs, L2.z, dfne, fun H3 t3 f3 => ?_⟩
    have w3 := w2.tape' f3 t3
    have tsub : ∀ {y : Addr}, y ∉ A.all → y ∉ [A.tp] := fun h z => h (tape_sub _ z)
    have G3 := G2.fr f3 (tsub og) (tsub op) (tsub oo)
    have f13 : Fr (l0 :: l1 :: A.all) H1 H3 := f2.trans (f3.mono fun a h => by simp at h; simp [Ads.all, h])
    have hde3 := f13.at_ _ _ hde c6
    obtain ⟨dx3, hp3⟩ := w3.net.ob
    k_offL
    refine ⟨A.p, A.da, A.db, A.dl, N, rfl, w3.net, ok2, fun m4 H4 n4 e4 f4 => ?_⟩
    have e4' : H4 m4 = some (.dK (F.hs.map fun h => ((Sum.inl h : Key), V.int (N.f h)))) := by rw [e4]; unfold NS.kn; rw [L2.hs]
    have hde4 := f4.at_ _ _ hde3 List.not_mem_nil
    rw [map_cong (g := fun h y => ((Sum.inl h : Key), V.int y)) eN] at hde4
    k_offL
    refine i_same (.dct (F.hs.map fun h => (h, N.f h))) (dct_rep e4') (dct_rep hde4) (.dct (by rw [List.length_map]; omega)) fun H5 f5 => ?_
    have w5 := (w3.ex0 f4).ex0 f5
    obtain ⟨dx5, hp5⟩ := w5.net.ob
    k_offL
    refine ⟨A.p, A.da, A.db, A.dl, N, rfl, w5.net, ok2, fun b H6 hb f6 => ?_⟩
    obtain rfl : b = true := hb.mpr (by rw [L2.hs]; exact inj)
    k_offL
    refine i_same (.bl true) rfl rfl .bl fun H7 f7 => ?_
    have f37 := ((f4.trans f5).trans f6).trans f7
    have f17 : Fr (l0 :: l1 :: A.all) H1 H7 := f13.trans f37.up
    have G7 := G3.fr f37 List.not_mem_nil List.not_mem_nil List.not_mem_nil
    have w7 := (w5.ex0 f6).ex0 f7
    have tne : ∀ {y : Addr}, y ∉ l0 :: l1 :: A.all → y ≠ A.tp := fun h z => h (z ▸ tp_all)
    have tpa : A.tp ∈ A.all := by simp [Ads.all]
    k_offL
    refine ⟨F, A.tp, A.tc, p2, da2, db2, dl2, df, de, lg, l0, l1, nm, W, φ, e, ps, rfl, w7.tape, hN2.fr f17 c1 c2 c3 c4, ok, ⟨kf, f17.at_ _ _ hdf c5, dkf⟩, f17.at_ _ _ hde c6, G7, L2.m, L2.fa, L2.len, fun x hx => by rw [← L2.f]; exact (eN x hx).symm, ?_, nd2, k⟩
    simp only [List.all_cons, List.all_nil, Bool.and_true, Bool.and_eq_true, decide_eq_true_eq]
    exact ⟨tne c1, tne c2, tne c3, tne c4, tne c5, tne c6, fun z => og (z ▸ tpa), fun z => op (z ▸ tpa), fun z => oo (z ▸ tpa)⟩
theorem ok_law {f : Addr} {fd : FuncData} (F : Fun K "law" "law" s_law f fd) (G__law_tape : GF P w K mg base "_law_tape" 1 ["script"] (spTape K)) (G__law_pick : GF P w K mg base "_law_pick" 1 ["tape", "size"] spPick) (G__law_size : GF P w K mg base "_law_size" 2 ["tape", "count"] spSize) (G__law_places : GF P w K mg base "_law_places" 2 ["tape", "size", "count"] spPlaces) (G__law_nexts : GF P w K mg base "_law_nexts" 2 ["tape", "places"] spLawNexts) (G__law_start : GF P w K mg base "_law_start" 3 ["tape", "size", "nexts", "places", "behinds", "post"] spStart) (N_Net_befores_letters : GC P w K mg base CNet "Net" 3 ["self", "size", "nexts", "befores", "letters"] 2 ["befores", "letters"] (fun vs zs => vs ++ zs) (spNetInit CNet)) (m_list : mg "list" = none) (m_dict : mg "dict" = none) (G_Net_clone : GM P w K mg base CNet "clone" 5 ["self"] (spClone CNet)) (G__law_ends : GF P w K mg base "_law_ends" 6 ["size", "nexts"] spLawEnds) (m_range : mg "range" = none) (G__law_all_rooms : GF P w K mg base "_law_all_rooms" 5 ["size", "nexts"] spLawRooms) (G__law_letters : GF P w K mg base "_law_letters" 8 ["tape", "net", "size", "tables", "logs"] (spLawLetters CNet)) (m_len : mg "len" = none) (G__law_faithful : GF P w K mg base "_law_faithful" 4 ["size", "nexts"] spLawFaithful) (G__law_kept : GF P w K mg base "_law_kept" 7 ["tape", "net", "size", "tables", "first", "ends"] (spLawKept CNet)) (G__law_changed : GF P w K mg base "_law_changed" 6 ["tape", "net", "size", "nexts", "logs"] (spLawChanged CNet)) (G__law_same : GF P w K mg base "_law_same" 5 ["actual", "due"] (spSame 4)) (G_each_held_once : GF P w K mg base "each_held_once" 2 ["net"] (spEachOnce CNet)) (G_Net_nexts : GM P w K mg base CNet "nexts" 1 ["self"] (spNexts CNet)) (G__law_whole_log : GF P w K mg base "_law_whole_log" 7 ["tape", "other", "size", "first", "logs", "ends"] (spLawWhole CNet)) (T : NetT K CNet) : FnOk P w K mg base CX0 9 f fd ["script"] (spLaw K) := by
  refine F.ok sc_law (fun vs H Q E h => ?_) (fun cdv A outer s H vs Q E hr h => ?_)
  · obtain ⟨_, _, rfl, _⟩ := h; rfl
  · obtain ⟨a, ns, rfl, hS, hlen, k⟩ := h
    obtain ⟨t_rest, d_rest, c_rest⟩ := cut_law_rest (w := w) (f := f) (cdv := cdv) (A := A) (outer := outer) (s := s) (H := H) (E := E) m_range G__law_all_rooms G__law_letters m_len G__law_faithful G__law_kept G__law_changed G__law_same G_each_held_once G_Net_nexts G__law_whole_log T (hr.mono (by decide))
    refine ⟨_, (pss_cons (ps_set (i := 1) sc_law.nd rfl (Or.inl rfl) (c_fn G__law_tape (hr.mono (by decide)) (pa_cons (pv 0) pa_nil)))
      (pss_cons (ps_set (i := 2) sc_law.nd rfl (Or.inl rfl) (pe_op op_add pe_int (c_fn G__law_pick (hr.mono (by decide)) (pa_cons (pv 1) (pa_cons pe_int pa_nil)))))
      (pss_cons (ps_if (pt_cmpR op_eq (c_fn G__law_pick (hr.mono (by decide)) (pa_cons (pv 1) (pa_cons pe_int pa_nil))) pe_int (nomark _)) (pss_one (ps_set (i := 2) sc_law.nd rfl (Or.inl rfl) (c_fn G__law_pick (hr.mono (by decide)) (pa_cons (pv 1) (pa_cons pe_int pa_nil))))) pss_nil)
      (pss_cons (ps_set (i := 3) sc_law.nd rfl (Or.inl rfl) (c_fn G__law_size (hr.mono (by decide)) (pa_cons (pv 1) (pa_cons (pv 2) pa_nil))))
      (pss_cons (ps_set (i := 4) sc_law.nd rfl (Or.inl rfl) (c_fn G__law_places (hr.mono (by decide)) (pa_cons (pv 1) (pa_cons (pv 3) (pa_cons (pv 2) pa_nil)))))
      (pss_cons (ps_set (i := 5) sc_law.nd rfl (Or.inl rfl) (c_fn G__law_nexts (hr.mono (by decide)) (pa_cons (pv 1) (pa_cons (pv 4) pa_nil))))
      (pss_cons (ps_set (i := 6) sc_law.nd rfl (Or.inl rfl) pe_dnewK)
      (pss_cons (ps_set (i := 7) sc_law.nd rfl (Or.inl rfl) (pe_lst pa_nil))
      (pss_cons (ps_if (pt_cmpR op_eq (c_fn G__law_pick (hr.mono (by decide)) (pa_cons (pv 1) (pa_cons pe_int pa_nil))) pe_int (nomark _)) (pss_one (ps_expr (c_fn G__law_start (hr.mono (by decide)) (pa_cons (pv 1) (pa_cons (pv 3) (pa_cons (pv 5) (pa_cons (pv 4) (pa_cons (pv 6) (pa_cons (pv 7) pa_nil))))))))) pss_nil)
      (pss_cons (ps_set (i := 8) sc_law.nd rfl (Or.inl rfl) (c_mk N_Net_befores_letters (hr.mono (by decide)) (pa_cons (pv 3) (pa_cons (pe_callTy cb_dictD (by rfl) m_dict b_dict (pa_cons (pv 5) pa_nil)) pa_nil)) (pk_cons (pe_callTy cb_dictD (by rfl) m_dict b_dict (pa_cons (pv 6) pa_nil)) (pk_cons (pe_callTy (cb_listOfK (K := K) rfl) (by rfl) m_list b_list (pa_cons (pv 7) pa_nil)) pk_nil))))
      (pss_cons (ps_set (i := 9) sc_law.nd rfl (Or.inl rfl) (c_mt0 G_Net_clone (hr.mono (by decide)) (pv 8)))
      (pss_cons (ps_set (i := 10) sc_law.nd rfl (Or.inl rfl) (pe_callTy cb_dictD (by rfl) m_dict b_dict (pa_cons (pv 5) pa_nil)))
      (pss_cons (ps_set (i := 11) sc_law.nd rfl (Or.inl rfl) (c_fn G__law_ends (hr.mono (by decide)) (pa_cons (pv 3) (pa_cons (pv 10) pa_nil))))
      (pss_cons (ps_set (i := 12) sc_law.nd rfl (Or.inl rfl) (pe_lst (pa_cons (pv 5) (pa_cons (pv 6) (pa_cons (pv 7) pa_nil)))))
      (pss_cons (ps_set (i := 13) sc_law.nd rfl (Or.inl rfl) (pe_lst (pa_cons (pe_lst pa_nil) (pa_cons (pe_lst pa_nil) pa_nil))))
      d_rest))))))))))))))), ?_⟩
    (try simp only [cxK, cxKX, List.map])
    refine ent (σ' := [some _, none, none, none, none, none, none, none, none, none, none, none, none, none, none]) rfl ?_
    k_offL
    refine ⟨a, ns, rfl, hS, hlen, fun tp tc H1 ntp ntc t1 f1 => ?_⟩
    k_offL
    refine i_pick t1 (by decide) (by decide) fun n2 H2 a2 b2 t2 f2 => ?_
    k_places
    refine q_cut (fun σ' H' => ∃ c : Nat, σ' = [some (V.ref a), some (.ref tp), some (.int (c : Int)), none, none, none, none, none, none, none, none, none, none, none, none] ∧ c ≤ 10 ∧ TapeAt H' tp tc) (fun Nx kN => ?_) ?_
    · k_offL
      refine i_pick t2 (by decide) (by decide) fun n3 H3 a3 b3 t3 f3 => ?_
      k_offL
      refine ifD (fun e => ?_) (fun e => ?_)
      · k_offL
        refine i_pick t3 (by decide) (by decide) fun n4 H4 a4 b4 t4 f4 => ?_
        k_offL
        refine kN _ _ ⟨n4.toNat, ?_, by omega, t4⟩
        rw [show ((n4.toNat : Nat) : Int) = n4 by omega]
      · k_offL
        refine kN _ _ ⟨(1 + n2).toNat, ?_, by omega, t3⟩
        rw [show (((1 + n2).toNat : Nat) : Int) = 1 + n2 by omega]
    clear a2 b2 t2 f2 t1 f1 hS ntp ntc H1 H2 n2 hlen
    rintro _ H3 ⟨c, rfl, c7, t3⟩
    k_offL
    refine ⟨tp, tc, _, (), rfl, t3, by omega, by omega, fun z H4 z1 zc z31 t4 f4 => ?_⟩
    k_offL
    refine ⟨tp, tc, z, (c : Int), (), rfl, t4, by omega, zc, by omega, by omega, fun lp ps H5 n5 e5 hl5 pl5 t5 f5 => ?_⟩
    have lp_tp : lp ≠ tp := by obtain ⟨_, _, _, _, _, tt, tcs, _⟩ := t4.ex; exact (ne_of_none tt n5).symm
    have lp_tc : lp ≠ tc := by obtain ⟨_, _, _, _, _, tt, tcs, _⟩ := t4.ex; exact (ne_of_none tcs n5).symm
    clear t3 t4 f4 f5 n5 H3 H4
    k_offL
    refine ⟨tp, tc, lp, ps, (), rfl, t5, e5, lp_tp, by omega, fun dn kn H8 n8 e8 nx8 t8 f8 => ?_⟩
    have e58 := f8.at_ _ _ e5 (mem_one lp_tp)
    clear t5 f8 e5 n8 H5
    k_offL
    refine newk fun dk H9 n9 e9 f9 => ?_
    have dn_dk : dn ≠ dk := ne_of_none e8 n9
    have t9 := t8.ex0 f9
    have e59 := f9.at_ _ _ e58 List.not_mem_nil
    have e89 := f9.at_ _ _ e8 List.not_mem_nil
    k_offL
    refine lstk (by show 0 ≤ 100000; decide) fun dp H10 n10 e10 f10 => ?_
    have dp_tp : dp ≠ tp := by obtain ⟨_, _, _, _, _, tt, tcs, _⟩ := t9.ex; exact (ne_of_none tt n10).symm
    have dp_tc : dp ≠ tc := by obtain ⟨_, _, _, _, _, tt, tcs, _⟩ := t9.ex; exact (ne_of_none tcs n10).symm
    have dp_lp : dp ≠ lp := (ne_of_none e59 n10).symm
    have t10 := t9.ex0 f10
    have e510 := f10.at_ _ _ e59 List.not_mem_nil
    have e810 := f10.at_ _ _ e89 List.not_mem_nil
    have e910 := f10.at_ _ _ e9 List.not_mem_nil
    clear t8 t9 e58 e59 e89 e8 e9 f9 f10 n9 n10 H8 H9
    obtain ⟨g, dg, gm, _⟩ := nx8
    obtain ⟨hs, hup, hpm⟩ := rise _ pl5.nd
    have hmem : ∀ {x}, x ∈ hs ↔ x ∈ ps := fun {x} => hpm.mem_iff
    have hlen : hs.length = c := by have := hpm.length_eq; omega
    have T10 : TabAt H10 dn dk dp ⟨z, hs, g, fun _ => none, []⟩ := ⟨⟨kn, e810, dg.cong fun h => by
      unfold NS.mf
      by_cases m : h ∈ ps
      · rw [if_pos m, if_pos (hmem.mpr m)]
      · rw [if_neg m, if_neg fun q => m (hmem.mp q)]⟩, ⟨[], e910, DOk.nil.cong fun n => rfl⟩, ⟨[], e10, .nil⟩, dn_dk⟩
    have ok0 : NS.Ok ⟨z, hs, g, fun _ => none, []⟩ := ⟨by show 0 < z; omega, by show z < 2 ^ 40; omega, hup, fun h hh => pl5.on h (hmem.mp hh), fun h hh => hmem.mpr (gm h (hmem.mp hh)), (fun _ _ e => nomatch e), (fun _ e => nomatch e), by show hs.length ≤ 45; omega, Nat.zero_le _⟩
    have say0 : NS.Say ⟨z, hs, g, fun _ => none, []⟩ := ⟨(fun _ _ e => nomatch e), (fun _ _ e => nomatch e), (fun _ _ _ e => nomatch e)⟩
    k_places
    refine q_cut (fun σ' H' => σ' = [some (V.ref a), some (.ref tp), some (.int (c : Int)), some (.int z), some (.ref lp), some (.ref dn), some (.ref dk), some (.ref dp), none, none, none, none, none, none, none] ∧ ∃ N : NS, N.hs = hs ∧ N.size = z ∧ N.Ok ∧ N.Say ∧ N.post.length ≤ 40 ∧ TabAt H' dn dk dp N ∧ TapeAt H' tp tc) (fun Nx kN => ?_) ?_
    · k_offL
      refine i_pick t10 (by decide) (by decide) fun n11 H11 a11 b11 t11 f11 => ?_
      have dn_tp : dn ≠ tp := by obtain ⟨_, _, _, _, _, tt, tcs, _⟩ := t10.ex; exact ne_of e810 tt (fun z => nomatch z)
      have dk_tp : dk ≠ tp := by obtain ⟨_, _, _, _, _, tt, tcs, _⟩ := t10.ex; exact ne_of e910 tt (fun z => nomatch z)
      have T11 := T10.fr f11 (mem_one dn_tp) (mem_one dk_tp) (mem_one dp_tp)
      k_offL
      refine ifD (fun e => ?_) (fun e => ?_)
      · k_offL
        refine ⟨tp, tc, dn, lp, dk, dp, ⟨z, hs, g, fun _ => none, []⟩, ps, rfl, T11, t11, f11.at_ _ _ e510 (mem_one lp_tp), ok0, say0, rfl, fun x hx => hmem.mpr hx, by omega, by simp [dp_tp, dp_tc, Ne.symm lp_tp, Ne.symm lp_tc, dp_lp, Ne.symm t11.ne], fun N' H13 e1 e2 e3 okN sayN pN TN tN fN => ?_⟩
        k_offL
        exact kN _ _ ⟨rfl, N', e2, e3, okN, sayN, by omega, TN, tN⟩
      · k_offL
        exact kN _ _ ⟨rfl, _, rfl, rfl, ok0, say0, Nat.zero_le _, T11, t11⟩
    clear T10 t10 ok0 say0 e510 e810 e910 hmem hpm hup dg gm e10 H10
    rintro _ H11 ⟨rfl, N, hNh, hNz, okN, sayN, pN, T11, t11⟩
    subst hNz
    obtain ⟨kn, hn, dN⟩ := T11.nx
    obtain ⟨kb, hb, dB⟩ := T11.bf
    obtain ⟨lv, hl, ls⟩ := T11.ls
    k_offL
    refine r_dictD (.inl hn) fun d1 H12 n12 e12 f12 => ?_
    k_offL
    refine r_dictD (.inl (f12.at_ _ _ hb List.not_mem_nil)) fun d2 H13 n13 e13 f13 => ?_
    k_offL
    refine r_listL (sqL_of ((f12.trans f13).at_ _ _ hl List.not_mem_nil)) fun l3 H14 n14 e14 f14 => ?_
    k_offL
    have f1114 := (f12.trans f13).trans f14
    refine i_net (N := N) (kn := kn) rfl rfl (fun x => rfl) ((f13.trans f14).at_ _ _ e12 List.not_mem_nil) dN (.inr ⟨d2, kb, rfl, f14.at_ _ _ e13 List.not_mem_nil, dB⟩) (.inr ⟨l3, lv, rfl, e14, ls.fr f1114⟩) okN fun p da db dl H15 m1 m2 m3 m4 hN15 f15 => ?_
    have f1115 := f1114.trans f15
    have T15 := T11.ex f1115
    have t15 := t11.ex0 f1115
    have hn14 := f1114.at_ _ _ hn List.not_mem_nil
    have hb14 := f1114.at_ _ _ hb List.not_mem_nil
    have hl14 := f1114.at_ _ _ hl List.not_mem_nil
    have W15 : WW CNet H15 ⟨p, da, db, dl, dn, dk, dp, tp, tc⟩ N N := by
      obtain ⟨_, _, _, _, _, tt, tcs, _⟩ := (t11.ex0 f1114).ex
      exact WW.mk' hN15 T15 t15 ⟨(ne_of_none hn14 m2).symm, (ne_of_none hb14 m2).symm⟩ ⟨(ne_of_none hn14 m3).symm, (ne_of_none hb14 m3).symm⟩ ⟨(ne_of_none hl14 m4).symm, (ne_of_none tt m4).symm, (ne_of_none tcs m4).symm⟩ ⟨dp_tp, dp_tc⟩
    clear f15 f1115 f1114 f12 f13 f14 n12 n13 n14 e12 e13 e14 m1 m2 m3 m4 hn14 hb14 hl14 T11 T15 t11 t15 hn hb hl ls lv dN dB kn kb H11 H12 H13 H14 d1 d2 l3
    obtain ⟨A, q1, q2, q3, q4, q5, q6, q7, q8, q9⟩ : ∃ A : Ads, A.p = p ∧ A.da = da ∧ A.db = db ∧ A.dl = dl ∧ A.dn = dn ∧ A.dk = dk ∧ A.dp = dp ∧ A.tp = tp ∧ A.tc = tc := ⟨⟨p, da, db, dl, dn, dk, dp, tp, tc⟩, rfl, rfl, rfl, rfl, rfl, rfl, rfl, rfl, rfl⟩
    subst q1 q2 q3 q4 q5 q6 q7 q8 q9
    have w15 : WW CNet H15 A N N := W15
    clear W15 hN15
    obtain ⟨dx, hp15⟩ := w15.net.ob
    have S15 := w15.somes
    k_offL
    refine ⟨A.p, A.da, A.db, A.dl, N, rfl, w15.net, okN, fun p2 da2 db2 dl2 H16 x1 x2 x3 x4 hN16 f16 => ?_⟩
    have w16 := w15.ex0 f16
    have y1 := none_off S15 x1
    have y2 := none_off S15 x2
    have y3 := none_off S15 x3
    have y4 := none_off S15 x4
    have S16 := somes_net (somes_ex S15 f16) hN16
    obtain ⟨kn, hn, dN⟩ := w16.tab.nx
    obtain ⟨nm, W, φ, MF⟩ := mk_ex okN
    k_offL
    refine r_dictD (.inl hn) fun df H17 n17 e17 f17 => ?_
    have w17 := w16.ex0 f17
    have y5 := none_off S16 n17
    have S17 := somes_cons (somes_ex S16 f17) e17
    k_offL
    refine ⟨N.size, df, N.hs, N.f, nm, W, φ, (), rfl, NS.nxAt okN e17 dN, MF, fun de e H18 n18 e18 ie f18 => ?_⟩
    have w18 := w17.ex0 f18
    have y6 := none_off S17 n18
    have S18 := somes_cons (somes_ex S17 f18) e18
    k_offL
    refine lstk (by show 3 ≤ 100000; decide) fun tb H19 n19 e19 f19 => ?_
    have y7 := none_off S18 n19
    have S19 := somes_cons (somes_ex S18 f19) e19
    k_offL
    refine lstk (by show 0 ≤ 100000; decide) fun l0 H20 n20 e20 f20 => ?_
    have y8 := none_off S19 n20
    have S20 := somes_cons (somes_ex S19 f20) e20
    k_offL
    refine lstk (by show 0 ≤ 100000; decide) fun l1 H21 n21 e21 f21 => ?_
    have y9 := none_off S20 n21
    have S21 := somes_cons (somes_ex S20 f21) e21
    k_offL
    refine lstk (by show 2 ≤ 100000; decide) fun lg H22 n22 e22 f22 => ?_
    have y10 := none_off S21 n22
    have f1622 := ((((f17.trans f18).trans f19).trans f20).trans f21).trans f22
    have f1822 := ((f19.trans f20).trans f21).trans f22
    have f2022 := f21.trans f22
    have a0 : ∀ {x : Addr} {L : List Addr}, x ∉ L → (∀ y ∈ A.all, y ∈ L) → x ∉ A.all := fun h s z => h (s _ z)
    have b1 := a0 y1 fun y h => by simp [h]
    have b2 := a0 y2 fun y h => by simp [h]
    have b3 := a0 y3 fun y h => by simp [h]
    have b4 := a0 y4 fun y h => by simp [h]
    have b5 := a0 y5 fun y h => by simp [h]
    have b6 := a0 y6 fun y h => by simp [h]
    have b7 := a0 y7 fun y h => by simp [h]
    have b10 := a0 y10 fun y h => by simp [h]
    have c0 : ∀ {x : Addr}, x ∈ [tb, de, df, p2, da2, db2, dl2] → x ∉ A.all → x ∉ l0 :: l1 :: A.all := fun {x} hx ha z => by
      rcases List.mem_cons.mp z with z | z
      · exact y8 (z ▸ by simp only [List.mem_cons, List.not_mem_nil, or_false] at hx ⊢; rcases hx with h | h | h | h | h | h | h <;> simp [h])
      · rcases List.mem_cons.mp z with z | z
        · exact y9 (z ▸ by simp only [List.mem_cons, List.not_mem_nil, or_false] at hx ⊢; rcases hx with h | h | h | h | h | h | h <;> simp [h])
        · exact ha z
    k_places
    refine c_rest (w16.ex0 f1622) okN sayN (by omega) (hN16.ex f1622) ⟨kn, (f18.trans f1822).at_ _ _ e17 List.not_mem_nil, dN⟩ (f1822.at_ _ _ e18 List.not_mem_nil) ie MF ((f20.trans f2022).at_ _ _ e19 List.not_mem_nil) ⟨e22, ⟨[], f2022.at_ _ _ e20 List.not_mem_nil, .nil⟩, f22.at_ _ _ e21 List.not_mem_nil⟩ ?_ ?_ ?_ k
    · refine ⟨c0 (by simp) b7, fun z => ?_, fun z => ?_, fun z => ?_⟩
      · rcases List.mem_cons.mp z with z | z
        · exact y10 (by simp [z])
        · rcases List.mem_cons.mp z with z | z
          · exact y10 (by simp [z])
          · exact b10 z
      · rcases List.mem_cons.mp z with z | z
        · exact y9 (by simp [z])
        · exact y8 (by simp only [List.mem_cons] at z ⊢; rcases z with h | h | h <;> simp [h])
      · exact y9 (by simp only [List.mem_cons] at z ⊢; rcases z with h | h | h | h <;> simp [h])
    · intro y hy
      simp only [List.mem_cons, List.not_mem_nil, or_false] at hy
      rcases hy with rfl | rfl | rfl | rfl | rfl | rfl
      · exact c0 (by simp) b1
      · exact c0 (by simp) b2
      · exact c0 (by simp) b3
      · exact c0 (by simp) b4
      · exact c0 (by simp) b5
      · exact c0 (by simp) b6
    · simp only [List.all_cons, List.all_nil, Bool.and_true, Bool.and_eq_true, decide_eq_true_eq]
      exact ⟨fun z => y6 (by simp [z]), fun z => y5 (by simp [z]), fun z => y10 (by simp [z]), fun z => y8 (by simp [z]), fun z => y9 (by simp [z])⟩
end
end RL
set_option synthInstance.maxHeartbeats 4000000
set_option synthInstance.maxSize 4000
open PySem L2 RL
namespace RL
def dd_far : He.DefD := ⟨("far", none), "far", "far", defArgs s_far, defBody s_far, defScope s_far, [], []⟩
def dd_between : He.DefD := ⟨("between", none), "between", "between", defArgs s_between, defBody s_between, defScope s_between, [], []⟩
def dd_letter_places : He.DefD := ⟨("letter_places", none), "letter_places", "letter_places", defArgs s_letter_places, defBody s_letter_places, defScope s_letter_places, [], []⟩
def dd_check_place : He.DefD := ⟨("check_place", none), "check_place", "check_place", defArgs s_check_place, defBody s_check_place, defScope s_check_place, [], []⟩
def dd_check_houses : He.DefD := ⟨("check_houses", none), "check_houses", "check_houses", defArgs s_check_houses, defBody s_check_houses, defScope s_check_houses, [], []⟩
def dd_check_tables : He.DefD := ⟨("check_tables", none), "check_tables", "check_tables", defArgs s_check_tables, defBody s_check_tables, defScope s_check_tables, [], []⟩
def dd_Net___init__ : He.DefD := ⟨("Net", some "__init__"), "__init__", "Net.__init__", defArgs s_Net___init__, defBody s_Net___init__, defScope s_Net___init__, [], [("befores", .non), ("letters", .non)]⟩
def dd_Net_houses : He.DefD := ⟨("Net", some "houses"), "houses", "Net.houses", defArgs s_Net_houses, defBody s_Net_houses, defScope s_Net_houses, [], []⟩
def dd_Net_next_of : He.DefD := ⟨("Net", some "next_of"), "next_of", "Net.next_of", defArgs s_Net_next_of, defBody s_Net_next_of, defScope s_Net_next_of, [], []⟩
def dd_Net_nexts : He.DefD := ⟨("Net", some "nexts"), "nexts", "Net.nexts", defArgs s_Net_nexts, defBody s_Net_nexts, defScope s_Net_nexts, [], []⟩
def dd_Net_befores : He.DefD := ⟨("Net", some "befores"), "befores", "Net.befores", defArgs s_Net_befores, defBody s_Net_befores, defScope s_Net_befores, [], []⟩
def dd_Net_letters : He.DefD := ⟨("Net", some "letters"), "letters", "Net.letters", defArgs s_Net_letters, defBody s_Net_letters, defScope s_Net_letters, [], []⟩
def dd_Net__send : He.DefD := ⟨("Net", some "_send"), "_send", "Net._send", defArgs s_Net__send, defBody s_Net__send, defScope s_Net__send, [], []⟩
def dd_Net_tell : He.DefD := ⟨("Net", some "tell"), "tell", "Net.tell", defArgs s_Net_tell, defBody s_Net_tell, defScope s_Net_tell, [], []⟩
def dd_Net_ask : He.DefD := ⟨("Net", some "ask"), "ask", "Net.ask", defArgs s_Net_ask, defBody s_Net_ask, defScope s_Net_ask, [], []⟩
def dd_Net__check_index : He.DefD := ⟨("Net", some "_check_index"), "_check_index", "Net._check_index", defArgs s_Net__check_index, defBody s_Net__check_index, defScope s_Net__check_index, [], []⟩
def dd_Net_lose : He.DefD := ⟨("Net", some "lose"), "lose", "Net.lose", defArgs s_Net_lose, defBody s_Net_lose, defScope s_Net_lose, [], []⟩
def dd_Net_repeat : He.DefD := ⟨("Net", some "repeat"), "repeat", "Net.repeat", defArgs s_Net_repeat, defBody s_Net_repeat, defScope s_Net_repeat, [], []⟩
def dd_Net__read_answer : He.DefD := ⟨("Net", some "_read_answer"), "_read_answer", "Net._read_answer", defArgs s_Net__read_answer, defBody s_Net__read_answer, defScope s_Net__read_answer, [], []⟩
def dd_Net__read_tell : He.DefD := ⟨("Net", some "_read_tell"), "_read_tell", "Net._read_tell", defArgs s_Net__read_tell, defBody s_Net__read_tell, defScope s_Net__read_tell, [], []⟩
def dd_Net__read_ask : He.DefD := ⟨("Net", some "_read_ask"), "_read_ask", "Net._read_ask", defArgs s_Net__read_ask, defBody s_Net__read_ask, defScope s_Net__read_ask, [], []⟩
def dd_Net_read : He.DefD := ⟨("Net", some "read"), "read", "Net.read", defArgs s_Net_read, defBody s_Net_read, defScope s_Net_read, [], []⟩
def dd_Net_snapshot : He.DefD := ⟨("Net", some "snapshot"), "snapshot", "Net.snapshot", defArgs s_Net_snapshot, defBody s_Net_snapshot, defScope s_Net_snapshot, [], []⟩
def dd_Net_clone : He.DefD := ⟨("Net", some "clone"), "clone", "Net.clone", defArgs s_Net_clone, defBody s_Net_clone, defScope s_Net_clone, [], []⟩
def dd_Net_hold : He.DefD := ⟨("Net", some "hold"), "hold", "Net.hold", defArgs s_Net_hold, defBody s_Net_hold, defScope s_Net_hold, [], []⟩
def dd__law_tape : He.DefD := ⟨("_law_tape", none), "_law_tape", "_law_tape", defArgs s__law_tape, defBody s__law_tape, defScope s__law_tape, [], []⟩
def dd__law_pick : He.DefD := ⟨("_law_pick", none), "_law_pick", "_law_pick", defArgs s__law_pick, defBody s__law_pick, defScope s__law_pick, [], []⟩
def dd__law_size : He.DefD := ⟨("_law_size", none), "_law_size", "_law_size", defArgs s__law_size, defBody s__law_size, defScope s__law_size, [], []⟩
def dd__law_places : He.DefD := ⟨("_law_places", none), "_law_places", "_law_places", defArgs s__law_places, defBody s__law_places, defScope s__law_places, [], []⟩
def dd__law_far : He.DefD := ⟨("_law_far", none), "_law_far", "_law_far", defArgs s__law_far, defBody s__law_far, defScope s__law_far, [], []⟩
def dd__law_between : He.DefD := ⟨("_law_between", none), "_law_between", "_law_between", defArgs s__law_between, defBody s__law_between, defScope s__law_between, [], []⟩
def dd__law_nexts : He.DefD := ⟨("_law_nexts", none), "_law_nexts", "_law_nexts", defArgs s__law_nexts, defBody s__law_nexts, defScope s__law_nexts, [], []⟩
def dd__law_ring : He.DefD := ⟨("_law_ring", none), "_law_ring", "_law_ring", defArgs s__law_ring, defBody s__law_ring, defScope s__law_ring, [], []⟩
def dd__law_root : He.DefD := ⟨("_law_root", none), "_law_root", "_law_root", defArgs s__law_root, defBody s__law_root, defScope s__law_root, [], []⟩
def dd__law_read : He.DefD := ⟨("_law_read", none), "_law_read", "_law_read", defArgs s__law_read, defBody s__law_read, defScope s__law_read, [], []⟩
def dd__law_same : He.DefD := ⟨("_law_same", none), "_law_same", "_law_same", defArgs s__law_same, defBody s__law_same, defScope s__law_same, [], []⟩
def dd_check_house : He.DefD := ⟨("check_house", none), "check_house", "check_house", defArgs s_check_house, defBody s_check_house, defScope s_check_house, [], []⟩
def dd__law_holds : He.DefD := ⟨("_law_holds", none), "_law_holds", "_law_holds", defArgs s__law_holds, defBody s__law_holds, defScope s__law_holds, [], []⟩
def dd__law_ordered : He.DefD := ⟨("_law_ordered", none), "_law_ordered", "_law_ordered", defArgs s__law_ordered, defBody s__law_ordered, defScope s__law_ordered, [], []⟩
def dd__law_stands : He.DefD := ⟨("_law_stands", none), "_law_stands", "_law_stands", defArgs s__law_stands, defBody s__law_stands, defScope s__law_stands, [], []⟩
def dd__law_deed : He.DefD := ⟨("_law_deed", none), "_law_deed", "_law_deed", defArgs s__law_deed, defBody s__law_deed, defScope s__law_deed, [], []⟩
def dd_ring_from : He.DefD := ⟨("ring_from", none), "ring_from", "ring_from", defArgs s_ring_from, defBody s_ring_from, defScope s_ring_from, [], []⟩
def dd_ring_of : He.DefD := ⟨("ring_of", none), "ring_of", "ring_of", defArgs s_ring_of, defBody s_ring_of, defScope s_ring_of, [], []⟩
def dd__law_turns : He.DefD := ⟨("_law_turns", none), "_law_turns", "_law_turns", defArgs s__law_turns, defBody s__law_turns, defScope s__law_turns, [], []⟩
def dd_way_along : He.DefD := ⟨("way_along", none), "way_along", "way_along", defArgs s_way_along, defBody s_way_along, defScope s_way_along, [], []⟩
def dd_length_along : He.DefD := ⟨("length_along", none), "length_along", "length_along", defArgs s_length_along, defBody s_length_along, defScope s_length_along, [], []⟩
def dd_ring_roots : He.DefD := ⟨("ring_roots", none), "ring_roots", "ring_roots", defArgs s_ring_roots, defBody s_ring_roots, defScope s_ring_roots, [], []⟩
def dd_turns_of : He.DefD := ⟨("turns_of", none), "turns_of", "turns_of", defArgs s_turns_of, defBody s_turns_of, defScope s_turns_of, [], []⟩
def dd_letter_saying : He.DefD := ⟨("letter_saying", none), "letter_saying", "letter_saying", defArgs s_letter_saying, defBody s_letter_saying, defScope s_letter_saying, [], []⟩
def dd_is_true : He.DefD := ⟨("is_true", none), "is_true", "is_true", defArgs s_is_true, defBody s_is_true, defScope s_is_true, [], []⟩
def dd_sayings : He.DefD := ⟨("sayings", none), "sayings", "sayings", defArgs s_sayings, defBody s_sayings, defScope s_sayings, [], []⟩
def dd_holds_true : He.DefD := ⟨("holds_true", none), "holds_true", "holds_true", defArgs s_holds_true, defBody s_holds_true, defScope s_holds_true, [], []⟩
def dd_first_untrue : He.DefD := ⟨("first_untrue", none), "first_untrue", "first_untrue", defArgs s_first_untrue, defBody s_first_untrue, defScope s_first_untrue, [], []⟩
def dd_refuse_untrue : He.DefD := ⟨("refuse_untrue", none), "refuse_untrue", "refuse_untrue", defArgs s_refuse_untrue, defBody s_refuse_untrue, defScope s_refuse_untrue, [], []⟩
def dd_piece_of : He.DefD := ⟨("piece_of", none), "piece_of", "piece_of", defArgs s_piece_of, defBody s_piece_of, defScope s_piece_of, [], []⟩
def dd_marks_of : He.DefD := ⟨("marks_of", none), "marks_of", "marks_of", defArgs s_marks_of, defBody s_marks_of, defScope s_marks_of, [], []⟩
def dd_mark_row : He.DefD := ⟨("mark_row", none), "mark_row", "mark_row", defArgs s_mark_row, defBody s_mark_row, defScope s_mark_row, [], []⟩
def dd_pieces : He.DefD := ⟨("pieces", none), "pieces", "pieces", defArgs s_pieces, defBody s_pieces, defScope s_pieces, [], []⟩
def dd_told_end : He.DefD := ⟨("told_end", none), "told_end", "told_end", defArgs s_told_end, defBody s_told_end, defScope s_told_end, [], []⟩
def dd_refuse_strangers : He.DefD := ⟨("refuse_strangers", none), "refuse_strangers", "refuse_strangers", defArgs s_refuse_strangers, defBody s_refuse_strangers, defScope s_refuse_strangers, [], []⟩
def dd_is_faithful : He.DefD := ⟨("is_faithful", none), "is_faithful", "is_faithful", defArgs s_is_faithful, defBody s_is_faithful, defScope s_is_faithful, [], []⟩
def dd_apply_changes : He.DefD := ⟨("apply_changes", none), "apply_changes", "apply_changes", defArgs s_apply_changes, defBody s_apply_changes, defScope s_apply_changes, [], []⟩
def dd_first_unfaithful : He.DefD := ⟨("first_unfaithful", none), "first_unfaithful", "first_unfaithful", defArgs s_first_unfaithful, defBody s_first_unfaithful, defScope s_first_unfaithful, [], []⟩
def dd_each_held_once : He.DefD := ⟨("each_held_once", none), "each_held_once", "each_held_once", defArgs s_each_held_once, defBody s_each_held_once, defScope s_each_held_once, [], []⟩
def dd__law_piece : He.DefD := ⟨("_law_piece", none), "_law_piece", "_law_piece", defArgs s__law_piece, defBody s__law_piece, defScope s__law_piece, [], []⟩
def dd__law_marks : He.DefD := ⟨("_law_marks", none), "_law_marks", "_law_marks", defArgs s__law_marks, defBody s__law_marks, defScope s__law_marks, [], []⟩
def dd__law_row : He.DefD := ⟨("_law_row", none), "_law_row", "_law_row", defArgs s__law_row, defBody s__law_row, defScope s__law_row, [], []⟩
def dd__law_ends : He.DefD := ⟨("_law_ends", none), "_law_ends", "_law_ends", defArgs s__law_ends, defBody s__law_ends, defScope s__law_ends, [], []⟩
def dd__law_all_rooms : He.DefD := ⟨("_law_all_rooms", none), "_law_all_rooms", "_law_all_rooms", defArgs s__law_all_rooms, defBody s__law_all_rooms, defScope s__law_all_rooms, [], []⟩
def dd__law_is_faithful : He.DefD := ⟨("_law_is_faithful", none), "_law_is_faithful", "_law_is_faithful", defArgs s__law_is_faithful, defBody s__law_is_faithful, defScope s__law_is_faithful, [], []⟩
def dd__law_faithful : He.DefD := ⟨("_law_faithful", none), "_law_faithful", "_law_faithful", defArgs s__law_faithful, defBody s__law_faithful, defScope s__law_faithful, [], []⟩
def dd__law_unfaithful : He.DefD := ⟨("_law_unfaithful", none), "_law_unfaithful", "_law_unfaithful", defArgs s__law_unfaithful, defBody s__law_unfaithful, defScope s__law_unfaithful, [], []⟩
def dd__law_read_last : He.DefD := ⟨("_law_read_last", none), "_law_read_last", "_law_read_last", defArgs s__law_read_last, defBody s__law_read_last, defScope s__law_read_last, [], []⟩
def dd__law_chat : He.DefD := ⟨("_law_chat", none), "_law_chat", "_law_chat", defArgs s__law_chat, defBody s__law_chat, defScope s__law_chat, [], []⟩
def dd__law_letters : He.DefD := ⟨("_law_letters", none), "_law_letters", "_law_letters", defArgs s__law_letters, defBody s__law_letters, defScope s__law_letters, [], []⟩
def dd__law_changed : He.DefD := ⟨("_law_changed", none), "_law_changed", "_law_changed", defArgs s__law_changed, defBody s__law_changed, defScope s__law_changed, [], []⟩
def dd__law_kept : He.DefD := ⟨("_law_kept", none), "_law_kept", "_law_kept", defArgs s__law_kept, defBody s__law_kept, defScope s__law_kept, [], []⟩
def dd__law_whole_log : He.DefD := ⟨("_law_whole_log", none), "_law_whole_log", "_law_whole_log", defArgs s__law_whole_log, defBody s__law_whole_log, defScope s__law_whole_log, [], []⟩
def dd__law_start : He.DefD := ⟨("_law_start", none), "_law_start", "_law_start", defArgs s__law_start, defBody s__law_start, defScope s__law_start, [], []⟩
def dd_law : He.DefD := ⟨("law", none), "law", "law", defArgs s_law, defBody s_law, defScope s_law, [], []⟩
def fn0 : List He.DefD := [dd_far, dd_between, dd_letter_places, dd_check_place, dd_check_houses, dd_check_tables, dd_Net___init__, dd_Net_houses, dd_Net_next_of, dd_Net_nexts, dd_Net_befores, dd_Net_letters, dd_Net__send, dd_Net_tell, dd_Net_ask, dd_Net__check_index, dd_Net_lose, dd_Net_repeat, dd_Net__read_answer, dd_Net__read_tell, dd_Net__read_ask, dd_Net_read, dd_Net_snapshot, dd_Net_clone, dd_Net_hold, dd__law_tape, dd__law_pick, dd__law_size, dd__law_places, dd__law_far]
def fn1 : List He.DefD := [dd__law_between, dd__law_nexts, dd__law_ring, dd__law_root, dd__law_read, dd__law_same, dd_check_house, dd__law_holds, dd__law_ordered, dd__law_stands, dd__law_deed, dd_ring_from, dd_ring_of, dd__law_turns, dd_way_along, dd_length_along, dd_ring_roots, dd_turns_of, dd_letter_saying, dd_is_true, dd_sayings, dd_holds_true, dd_first_untrue, dd_refuse_untrue, dd_piece_of, dd_marks_of, dd_mark_row, dd_pieces, dd_told_end, dd_refuse_strangers]
def fn2 : List He.DefD := [dd_is_faithful, dd_apply_changes, dd_first_unfaithful, dd_each_held_once, dd__law_piece, dd__law_marks, dd__law_row, dd__law_ends, dd__law_all_rooms, dd__law_is_faithful, dd__law_faithful, dd__law_unfaithful, dd__law_read_last, dd__law_chat, dd__law_letters, dd__law_changed, dd__law_kept, dd__law_whole_log, dd__law_start, dd_law]
def fnL : List He.DefD := fn0 ++ (fn1 ++ (fn2))
def fa0 : List He.Fa := [.cls "Net", .noat "Net" "size", .noat "Net" "_nexts", .noat "Net" "_befores", .noat "Net" "_letters", .glo "law", .glo "_law_tape", .free "abs", .free "int", .free "len", .glo "_law_pick", .glo "_law_size", .free "max", .glo "_law_places", .free "range", .free "sorted", .glo "_law_nexts", .glo "_law_start", .glo "_law_holds", .glo "_law_far", .mkr "Net", .glo "Net", .glo "check_tables", .glo "check_place", .glo "check_houses", .glo "letter_places", .free "dict", .free "list", .meth "Net" "clone", .meth "Net" "befores"]
def fa1 : List He.Fa := [.glo "_law_ends", .glo "_law_row", .glo "_law_marks", .glo "_law_piece", .glo "_law_root", .free "min", .glo "_law_ring", .glo "_law_ordered", .glo "_law_all_rooms", .glo "_law_turns", .free "sum", .glo "_law_letters", .glo "_law_chat", .glo "_law_read_last", .meth "Net" "read", .meth "Net" "lose", .meth "Net" "_check_index", .meth "Net" "_read_tell", .glo "between", .glo "far", .meth "Net" "_read_ask", .meth "Net" "_read_answer", .free "isinstance", .free "bool", .free "str", .free "tuple", .glo "_law_same", .glo "_law_read", .glo "_law_between", .meth "Net" "tell"]
def fa2 : List He.Fa := [.meth "Net" "_send", .meth "Net" "ask", .glo "_law_deed", .meth "Net" "repeat", .glo "_law_stands", .meth "Net" "snapshot", .glo "_law_faithful", .glo "_law_is_faithful", .glo "_law_kept", .glo "told_end", .glo "refuse_untrue", .glo "first_untrue", .meth "Net" "nexts", .glo "sayings", .meth "Net" "letters", .glo "letter_saying", .glo "is_true", .glo "pieces", .glo "ring_roots", .glo "mark_row", .glo "marks_of", .glo "piece_of", .glo "check_house", .glo "ring_of", .glo "ring_from", .glo "turns_of", .glo "length_along", .glo "way_along", .free "zip", .glo "_law_changed"]
def fa3 : List He.Fa := [.glo "apply_changes", .glo "refuse_strangers", .meth "Net" "hold", .glo "each_held_once", .glo "_law_whole_log", .glo "first_unfaithful", .free "enumerate", .glo "is_faithful", .meth "Net" "next_of", .glo "holds_true", .glo "_law_unfaithful"]
def faL : List He.Fa := fa0 ++ (fa1 ++ (fa2 ++ (fa3)))
def nm0 : List PySem.Str := ["_wall", "far", "between", "RingError", "OffCircle", "NoHouse", "NoLetter", "UntrueNet", "check_house", "way_along", "length_along", "ring_from", "ring_roots", "ring_of", "piece_of", "pieces", "turns_of", "letter_saying", "is_true", "sayings", "holds_true", "first_untrue", "refuse_strangers", "is_faithful", "apply_changes", "first_unfaithful", "each_held_once", "marks_of", "mark_row", "refuse_untrue"]
def nm1 : List PySem.Str := ["told_end", "letter_places", "check_place", "check_houses", "check_tables", "Net", "_law_tape", "_law_pick", "_law_size", "_law_places", "_law_nexts", "_law_far", "_law_between", "_law_ring", "_law_root", "_law_piece", "_law_turns", "_law_marks", "_law_row", "_law_holds", "_law_read", "_law_same", "_law_deed", "_law_start", "_law_stands", "_law_ordered", "_law_ends", "_law_all_rooms", "_law_is_faithful", "_law_faithful"]
def nm2 : List PySem.Str := ["_law_unfaithful", "_law_read_last", "_law_chat", "_law_letters", "_law_changed", "_law_kept", "_law_whole_log"]
def nmL : List PySem.Str := nm0 ++ (nm1 ++ (nm2))
abbrev Rw : PySem.W.OpenRow := PySem.W.OpenLaw.row PySem.Challenge.rw_ringlaps_k92_whole_other_rules_keep_the
def lvl (g : Addr → Option Obj) : Nat → List Addr → List Addr
  | 0, l => l
  | n + 1, l => l ++ lvl g n (l.flatMap fun a => match g a with
    | some o => He.refsD o
    | none => []).eraseDups
def obB (fa : List He.Fa) (fn : List He.DefD) (g : Addr → Option Obj) : He.AlD := He.obsD fa fn (He.frG g (lvl g 4 [mainGlobals]))
def hookB (fa : List He.Fa) (fn : List He.DefD) : PySem.W.Hook where
  α := He.AlD
  obs := fun s => obB fa fn s.heap.get?
  val := fun _ => He.valD fn
  says := fun _ h => ∃ K : PySem.W.Frag, K.In h ∧ He.SaysD fa fn K
  of := fun _ _ e => ⟨_, He.frG_in, e⟩
  keeps := fun _ _ _ ⟨K, hK, c⟩ k => ⟨K, PySem.W.Frag.In.keeps hK k, c⟩
theorem obB_eq {fa : List He.Fa} {fn : List He.DefD} {g : Addr → Option Obj} {s : Shared} (h : ∀ a, g a = s.heap.get? a) : obB fa fn g = (hookB fa fn).obs s := by
  have e : g = s.heap.get? := funext h
  rw [e] <;> rfl
abbrev hk : PySem.W.Hook := hookB faL fnL
def ob (s : PySem.W.SharedT) : He.AlD := obB faL fnL (HandSHeadRun.getT s)
theorem ob_eq (s : PySem.W.SharedT) : ob s = hk.obs s.abs := obB_eq (HandSHeadRun.getT_eq s)
theorem run (w : World) : HandSHeadRun.RunEq Rw (PySem.W.view Rw.prog [78]) hk ob 6000 nmL w := by
  intro os
  kernel_rfl
theorem funOf {K : PySem.W.Frag} {x qual : Str} {st : Stmt} {kws : List (Str × V)} {f : Addr} {fd : FuncData} (F : FunD K x qual (defArgs st) (defBody st) (defScope st) [] kws f fd) : Fun K x qual st f fd := by
  obtain ⟨oc, od, dV, kV, doc, pm, an, cdv, ct, osl, e, lk, hcd, hD, hK⟩ := F.ex
  rcases hD with ⟨_, h⟩ | ⟨h, _⟩
  · subst h
    exact ⟨⟨oc, od, kV, doc, pm, an, cdv, ct, osl, e, lk, hcd⟩, F.kp⟩
  · exact absurd rfl h
theorem facts {P : Program} {w : World} {K : PySem.W.Frag} {h : Heap} {mg : Str → Option Value} {f : Addr} (X : K.In h) (G : h.Ns mainGlobals mg) (hfa : mg ("law" : Str) = some (.ref f)) (c : He.SaysD faL fnL K) :
    ∃ fd : FuncData, (∀ (s : Shared) (v : Value), BindsTo s fd ⟨[v], []⟩ [("script", v)]) ∧ ∀ base : Heap, K.In base → base.Ns mainGlobals mg → FnOk P w K mg base CX0 9 f fd ["script"] (spLaw K) := by
  obtain ⟨fd_far, D_far⟩ := c.def_ 0 (d := dd_far) rfl
  have F_far := funOf (st := s_far) D_far
  obtain ⟨fd_between, D_between⟩ := c.def_ 1 (d := dd_between) rfl
  have F_between := funOf (st := s_between) D_between
  obtain ⟨fd_letter_places, D_letter_places⟩ := c.def_ 2 (d := dd_letter_places) rfl
  have F_letter_places := funOf (st := s_letter_places) D_letter_places
  obtain ⟨fd_check_place, D_check_place⟩ := c.def_ 3 (d := dd_check_place) rfl
  have F_check_place := funOf (st := s_check_place) D_check_place
  obtain ⟨fd_check_houses, D_check_houses⟩ := c.def_ 4 (d := dd_check_houses) rfl
  have F_check_houses := funOf (st := s_check_houses) D_check_houses
  obtain ⟨fd_check_tables, D_check_tables⟩ := c.def_ 5 (d := dd_check_tables) rfl
  have F_check_tables := funOf (st := s_check_tables) D_check_tables
  obtain ⟨fd_Net___init__, D_Net___init__⟩ := c.def_ 6 (d := dd_Net___init__) rfl
  have F_Net___init__ := funOf (st := s_Net___init__) D_Net___init__
  obtain ⟨fd_Net_houses, D_Net_houses⟩ := c.def_ 7 (d := dd_Net_houses) rfl
  have F_Net_houses := funOf (st := s_Net_houses) D_Net_houses
  obtain ⟨fd_Net_next_of, D_Net_next_of⟩ := c.def_ 8 (d := dd_Net_next_of) rfl
  have F_Net_next_of := funOf (st := s_Net_next_of) D_Net_next_of
  obtain ⟨fd_Net_nexts, D_Net_nexts⟩ := c.def_ 9 (d := dd_Net_nexts) rfl
  have F_Net_nexts := funOf (st := s_Net_nexts) D_Net_nexts
  obtain ⟨fd_Net_befores, D_Net_befores⟩ := c.def_ 10 (d := dd_Net_befores) rfl
  have F_Net_befores := funOf (st := s_Net_befores) D_Net_befores
  obtain ⟨fd_Net_letters, D_Net_letters⟩ := c.def_ 11 (d := dd_Net_letters) rfl
  have F_Net_letters := funOf (st := s_Net_letters) D_Net_letters
  obtain ⟨fd_Net__send, D_Net__send⟩ := c.def_ 12 (d := dd_Net__send) rfl
  have F_Net__send := funOf (st := s_Net__send) D_Net__send
  obtain ⟨fd_Net_tell, D_Net_tell⟩ := c.def_ 13 (d := dd_Net_tell) rfl
  have F_Net_tell := funOf (st := s_Net_tell) D_Net_tell
  obtain ⟨fd_Net_ask, D_Net_ask⟩ := c.def_ 14 (d := dd_Net_ask) rfl
  have F_Net_ask := funOf (st := s_Net_ask) D_Net_ask
  obtain ⟨fd_Net__check_index, D_Net__check_index⟩ := c.def_ 15 (d := dd_Net__check_index) rfl
  have F_Net__check_index := funOf (st := s_Net__check_index) D_Net__check_index
  obtain ⟨fd_Net_lose, D_Net_lose⟩ := c.def_ 16 (d := dd_Net_lose) rfl
  have F_Net_lose := funOf (st := s_Net_lose) D_Net_lose
  obtain ⟨fd_Net_repeat, D_Net_repeat⟩ := c.def_ 17 (d := dd_Net_repeat) rfl
  have F_Net_repeat := funOf (st := s_Net_repeat) D_Net_repeat
  obtain ⟨fd_Net__read_answer, D_Net__read_answer⟩ := c.def_ 18 (d := dd_Net__read_answer) rfl
  have F_Net__read_answer := funOf (st := s_Net__read_answer) D_Net__read_answer
  obtain ⟨fd_Net__read_tell, D_Net__read_tell⟩ := c.def_ 19 (d := dd_Net__read_tell) rfl
  have F_Net__read_tell := funOf (st := s_Net__read_tell) D_Net__read_tell
  obtain ⟨fd_Net__read_ask, D_Net__read_ask⟩ := c.def_ 20 (d := dd_Net__read_ask) rfl
  have F_Net__read_ask := funOf (st := s_Net__read_ask) D_Net__read_ask
  obtain ⟨fd_Net_read, D_Net_read⟩ := c.def_ 21 (d := dd_Net_read) rfl
  have F_Net_read := funOf (st := s_Net_read) D_Net_read
  obtain ⟨fd_Net_snapshot, D_Net_snapshot⟩ := c.def_ 22 (d := dd_Net_snapshot) rfl
  have F_Net_snapshot := funOf (st := s_Net_snapshot) D_Net_snapshot
  obtain ⟨fd_Net_clone, D_Net_clone⟩ := c.def_ 23 (d := dd_Net_clone) rfl
  have F_Net_clone := funOf (st := s_Net_clone) D_Net_clone
  obtain ⟨fd_Net_hold, D_Net_hold⟩ := c.def_ 24 (d := dd_Net_hold) rfl
  have F_Net_hold := funOf (st := s_Net_hold) D_Net_hold
  obtain ⟨fd__law_tape, D__law_tape⟩ := c.def_ 25 (d := dd__law_tape) rfl
  have F__law_tape := funOf (st := s__law_tape) D__law_tape
  obtain ⟨fd__law_pick, D__law_pick⟩ := c.def_ 26 (d := dd__law_pick) rfl
  have F__law_pick := funOf (st := s__law_pick) D__law_pick
  obtain ⟨fd__law_size, D__law_size⟩ := c.def_ 27 (d := dd__law_size) rfl
  have F__law_size := funOf (st := s__law_size) D__law_size
  obtain ⟨fd__law_places, D__law_places⟩ := c.def_ 28 (d := dd__law_places) rfl
  have F__law_places := funOf (st := s__law_places) D__law_places
  obtain ⟨fd__law_far, D__law_far⟩ := c.def_ 29 (d := dd__law_far) rfl
  have F__law_far := funOf (st := s__law_far) D__law_far
  obtain ⟨fd__law_between, D__law_between⟩ := c.def_ 30 (d := dd__law_between) rfl
  have F__law_between := funOf (st := s__law_between) D__law_between
  obtain ⟨fd__law_nexts, D__law_nexts⟩ := c.def_ 31 (d := dd__law_nexts) rfl
  have F__law_nexts := funOf (st := s__law_nexts) D__law_nexts
  obtain ⟨fd__law_ring, D__law_ring⟩ := c.def_ 32 (d := dd__law_ring) rfl
  have F__law_ring := funOf (st := s__law_ring) D__law_ring
  obtain ⟨fd__law_root, D__law_root⟩ := c.def_ 33 (d := dd__law_root) rfl
  have F__law_root := funOf (st := s__law_root) D__law_root
  obtain ⟨fd__law_read, D__law_read⟩ := c.def_ 34 (d := dd__law_read) rfl
  have F__law_read := funOf (st := s__law_read) D__law_read
  obtain ⟨fd__law_same, D__law_same⟩ := c.def_ 35 (d := dd__law_same) rfl
  have F__law_same := funOf (st := s__law_same) D__law_same
  obtain ⟨fd_check_house, D_check_house⟩ := c.def_ 36 (d := dd_check_house) rfl
  have F_check_house := funOf (st := s_check_house) D_check_house
  obtain ⟨fd__law_holds, D__law_holds⟩ := c.def_ 37 (d := dd__law_holds) rfl
  have F__law_holds := funOf (st := s__law_holds) D__law_holds
  obtain ⟨fd__law_ordered, D__law_ordered⟩ := c.def_ 38 (d := dd__law_ordered) rfl
  have F__law_ordered := funOf (st := s__law_ordered) D__law_ordered
  obtain ⟨fd__law_stands, D__law_stands⟩ := c.def_ 39 (d := dd__law_stands) rfl
  have F__law_stands := funOf (st := s__law_stands) D__law_stands
  obtain ⟨fd__law_deed, D__law_deed⟩ := c.def_ 40 (d := dd__law_deed) rfl
  have F__law_deed := funOf (st := s__law_deed) D__law_deed
  obtain ⟨fd_ring_from, D_ring_from⟩ := c.def_ 41 (d := dd_ring_from) rfl
  have F_ring_from := funOf (st := s_ring_from) D_ring_from
  obtain ⟨fd_ring_of, D_ring_of⟩ := c.def_ 42 (d := dd_ring_of) rfl
  have F_ring_of := funOf (st := s_ring_of) D_ring_of
  obtain ⟨fd__law_turns, D__law_turns⟩ := c.def_ 43 (d := dd__law_turns) rfl
  have F__law_turns := funOf (st := s__law_turns) D__law_turns
  obtain ⟨fd_way_along, D_way_along⟩ := c.def_ 44 (d := dd_way_along) rfl
  have F_way_along := funOf (st := s_way_along) D_way_along
  obtain ⟨fd_length_along, D_length_along⟩ := c.def_ 45 (d := dd_length_along) rfl
  have F_length_along := funOf (st := s_length_along) D_length_along
  obtain ⟨fd_ring_roots, D_ring_roots⟩ := c.def_ 46 (d := dd_ring_roots) rfl
  have F_ring_roots := funOf (st := s_ring_roots) D_ring_roots
  obtain ⟨fd_turns_of, D_turns_of⟩ := c.def_ 47 (d := dd_turns_of) rfl
  have F_turns_of := funOf (st := s_turns_of) D_turns_of
  obtain ⟨fd_letter_saying, D_letter_saying⟩ := c.def_ 48 (d := dd_letter_saying) rfl
  have F_letter_saying := funOf (st := s_letter_saying) D_letter_saying
  obtain ⟨fd_is_true, D_is_true⟩ := c.def_ 49 (d := dd_is_true) rfl
  have F_is_true := funOf (st := s_is_true) D_is_true
  obtain ⟨fd_sayings, D_sayings⟩ := c.def_ 50 (d := dd_sayings) rfl
  have F_sayings := funOf (st := s_sayings) D_sayings
  obtain ⟨fd_holds_true, D_holds_true⟩ := c.def_ 51 (d := dd_holds_true) rfl
  have F_holds_true := funOf (st := s_holds_true) D_holds_true
  obtain ⟨fd_first_untrue, D_first_untrue⟩ := c.def_ 52 (d := dd_first_untrue) rfl
  have F_first_untrue := funOf (st := s_first_untrue) D_first_untrue
  obtain ⟨fd_refuse_untrue, D_refuse_untrue⟩ := c.def_ 53 (d := dd_refuse_untrue) rfl
  have F_refuse_untrue := funOf (st := s_refuse_untrue) D_refuse_untrue
  obtain ⟨fd_piece_of, D_piece_of⟩ := c.def_ 54 (d := dd_piece_of) rfl
  have F_piece_of := funOf (st := s_piece_of) D_piece_of
  obtain ⟨fd_marks_of, D_marks_of⟩ := c.def_ 55 (d := dd_marks_of) rfl
  have F_marks_of := funOf (st := s_marks_of) D_marks_of
  obtain ⟨fd_mark_row, D_mark_row⟩ := c.def_ 56 (d := dd_mark_row) rfl
  have F_mark_row := funOf (st := s_mark_row) D_mark_row
  obtain ⟨fd_pieces, D_pieces⟩ := c.def_ 57 (d := dd_pieces) rfl
  have F_pieces := funOf (st := s_pieces) D_pieces
  obtain ⟨fd_told_end, D_told_end⟩ := c.def_ 58 (d := dd_told_end) rfl
  have F_told_end := funOf (st := s_told_end) D_told_end
  obtain ⟨fd_refuse_strangers, D_refuse_strangers⟩ := c.def_ 59 (d := dd_refuse_strangers) rfl
  have F_refuse_strangers := funOf (st := s_refuse_strangers) D_refuse_strangers
  obtain ⟨fd_is_faithful, D_is_faithful⟩ := c.def_ 60 (d := dd_is_faithful) rfl
  have F_is_faithful := funOf (st := s_is_faithful) D_is_faithful
  obtain ⟨fd_apply_changes, D_apply_changes⟩ := c.def_ 61 (d := dd_apply_changes) rfl
  have F_apply_changes := funOf (st := s_apply_changes) D_apply_changes
  obtain ⟨fd_first_unfaithful, D_first_unfaithful⟩ := c.def_ 62 (d := dd_first_unfaithful) rfl
  have F_first_unfaithful := funOf (st := s_first_unfaithful) D_first_unfaithful
  obtain ⟨fd_each_held_once, D_each_held_once⟩ := c.def_ 63 (d := dd_each_held_once) rfl
  have F_each_held_once := funOf (st := s_each_held_once) D_each_held_once
  obtain ⟨fd__law_piece, D__law_piece⟩ := c.def_ 64 (d := dd__law_piece) rfl
  have F__law_piece := funOf (st := s__law_piece) D__law_piece
  obtain ⟨fd__law_marks, D__law_marks⟩ := c.def_ 65 (d := dd__law_marks) rfl
  have F__law_marks := funOf (st := s__law_marks) D__law_marks
  obtain ⟨fd__law_row, D__law_row⟩ := c.def_ 66 (d := dd__law_row) rfl
  have F__law_row := funOf (st := s__law_row) D__law_row
  obtain ⟨fd__law_ends, D__law_ends⟩ := c.def_ 67 (d := dd__law_ends) rfl
  have F__law_ends := funOf (st := s__law_ends) D__law_ends
  obtain ⟨fd__law_all_rooms, D__law_all_rooms⟩ := c.def_ 68 (d := dd__law_all_rooms) rfl
  have F__law_all_rooms := funOf (st := s__law_all_rooms) D__law_all_rooms
  obtain ⟨fd__law_is_faithful, D__law_is_faithful⟩ := c.def_ 69 (d := dd__law_is_faithful) rfl
  have F__law_is_faithful := funOf (st := s__law_is_faithful) D__law_is_faithful
  obtain ⟨fd__law_faithful, D__law_faithful⟩ := c.def_ 70 (d := dd__law_faithful) rfl
  have F__law_faithful := funOf (st := s__law_faithful) D__law_faithful
  obtain ⟨fd__law_unfaithful, D__law_unfaithful⟩ := c.def_ 71 (d := dd__law_unfaithful) rfl
  have F__law_unfaithful := funOf (st := s__law_unfaithful) D__law_unfaithful
  obtain ⟨fd__law_read_last, D__law_read_last⟩ := c.def_ 72 (d := dd__law_read_last) rfl
  have F__law_read_last := funOf (st := s__law_read_last) D__law_read_last
  obtain ⟨fd__law_chat, D__law_chat⟩ := c.def_ 73 (d := dd__law_chat) rfl
  have F__law_chat := funOf (st := s__law_chat) D__law_chat
  obtain ⟨fd__law_letters, D__law_letters⟩ := c.def_ 74 (d := dd__law_letters) rfl
  have F__law_letters := funOf (st := s__law_letters) D__law_letters
  obtain ⟨fd__law_changed, D__law_changed⟩ := c.def_ 75 (d := dd__law_changed) rfl
  have F__law_changed := funOf (st := s__law_changed) D__law_changed
  obtain ⟨fd__law_kept, D__law_kept⟩ := c.def_ 76 (d := dd__law_kept) rfl
  have F__law_kept := funOf (st := s__law_kept) D__law_kept
  obtain ⟨fd__law_whole_log, D__law_whole_log⟩ := c.def_ 77 (d := dd__law_whole_log) rfl
  have F__law_whole_log := funOf (st := s__law_whole_log) D__law_whole_log
  obtain ⟨fd__law_start, D__law_start⟩ := c.def_ 78 (d := dd__law_start) rfl
  have F__law_start := funOf (st := s__law_start) D__law_start
  obtain ⟨fd_law, D_law⟩ := c.def_ 79 (d := dd_law) rfl
  have F_law := funOf (st := s_law) D_law
  obtain ⟨CNet, eCNet⟩ : ∃ C, C = He.ga K "Net" := ⟨_, rfl⟩
  have clNet : Cls K CNet := eCNet ▸ He.cls_ok (c.fact 0 (f := .cls "Net") rfl)
  have T : NetT K CNet := ⟨clNet, eCNet ▸ He.noat_ok (c.fact 1 (f := .noat "Net" "size") rfl), eCNet ▸ He.noat_ok (c.fact 2 (f := .noat "Net" "_nexts") rfl), eCNet ▸ He.noat_ok (c.fact 3 (f := .noat "Net" "_befores") rfl), eCNet ▸ He.noat_ok (c.fact 4 (f := .noat "Net" "_letters") rfl)⟩
  have e0 := hfa.symm.trans (He.glo_ok X G (c.fact 5 (f := .glo "law") rfl))
  cases e0
  refine ⟨fd_law, fun s v => ?_, fun base _ _ => ?_⟩
  · have b := L2.FunD.bindsA (ps := ["script"]) D_law fun _ _ _ _ _ _ us hl => match us, hl with | [_], _ => rfl
    exact b s [v] rfl
  have m_abs : mg "abs" = none := He.free_ok X G (c.fact 7 (f := .free "abs") rfl)
  have m_int : mg "int" = none := He.free_ok X G (c.fact 8 (f := .free "int") rfl)
  have m_len : mg "len" = none := He.free_ok X G (c.fact 9 (f := .free "len") rfl)
  have G__law_tape : GF P w K mg base "_law_tape" 1 ["script"] (spTape K) := ⟨⟨_, _, He.glo_ok X G (c.fact 6 (f := .glo "_law_tape") rfl), F__law_tape.kp, F__law_tape.binds (ps := ["script"]) fun _ _ _ _ _ _ us hl => match us, hl with | [_], _ => rfl, ok__law_tape F__law_tape m_abs m_int m_len⟩⟩
  have G__law_pick : GF P w K mg base "_law_pick" 1 ["tape", "size"] spPick := ⟨⟨_, _, He.glo_ok X G (c.fact 10 (f := .glo "_law_pick") rfl), F__law_pick.kp, F__law_pick.binds (ps := ["tape", "size"]) fun _ _ _ _ _ _ us hl => match us, hl with | [_, _], _ => rfl, ok__law_pick F__law_pick m_int m_len⟩⟩
  have m_max : mg "max" = none := He.free_ok X G (c.fact 12 (f := .free "max") rfl)
  have G__law_size : GF P w K mg base "_law_size" 2 ["tape", "count"] spSize := ⟨⟨_, _, He.glo_ok X G (c.fact 11 (f := .glo "_law_size") rfl), F__law_size.kp, F__law_size.binds (ps := ["tape", "count"]) fun _ _ _ _ _ _ us hl => match us, hl with | [_, _], _ => rfl, ok__law_size F__law_size G__law_pick m_max⟩⟩
  have m_range : mg "range" = none := He.free_ok X G (c.fact 14 (f := .free "range") rfl)
  have m_sorted : mg "sorted" = none := He.free_ok X G (c.fact 15 (f := .free "sorted") rfl)
  have G__law_places : GF P w K mg base "_law_places" 2 ["tape", "size", "count"] spPlaces := ⟨⟨_, _, He.glo_ok X G (c.fact 13 (f := .glo "_law_places") rfl), F__law_places.kp, F__law_places.binds (ps := ["tape", "size", "count"]) fun _ _ _ _ _ _ us hl => match us, hl with | [_, _, _], _ => rfl, ok__law_places F__law_places m_range G__law_pick m_sorted⟩⟩
  have G__law_nexts : GF P w K mg base "_law_nexts" 2 ["tape", "places"] spLawNexts := ⟨⟨_, _, He.glo_ok X G (c.fact 16 (f := .glo "_law_nexts") rfl), F__law_nexts.kp, F__law_nexts.binds (ps := ["tape", "places"]) fun _ _ _ _ _ _ us hl => match us, hl with | [_, _], _ => rfl, ok__law_nexts F__law_nexts m_len m_range G__law_pick⟩⟩
  have G__law_far : GF P w K mg base "_law_far" 1 ["size", "start", "end"] spFar := ⟨⟨_, _, He.glo_ok X G (c.fact 19 (f := .glo "_law_far") rfl), F__law_far.kp, F__law_far.binds (ps := ["size", "start", "end"]) fun _ _ _ _ _ _ us hl => match us, hl with | [_, _, _], _ => rfl, ok__law_far F__law_far m_int⟩⟩
  have G__law_holds : GF P w K mg base "_law_holds" 2 ["size", "nexts", "saying"] spLawHolds := ⟨⟨_, _, He.glo_ok X G (c.fact 18 (f := .glo "_law_holds") rfl), F__law_holds.kp, F__law_holds.binds (ps := ["size", "nexts", "saying"]) fun _ _ _ _ _ _ us hl => match us, hl with | [_, _, _], _ => rfl, ok__law_holds F__law_holds m_range m_len G__law_far⟩⟩
  have G__law_start : GF P w K mg base "_law_start" 3 ["tape", "size", "nexts", "places", "behinds", "post"] spStart := ⟨⟨_, _, He.glo_ok X G (c.fact 17 (f := .glo "_law_start") rfl), F__law_start.kp, F__law_start.binds (ps := ["tape", "size", "nexts", "places", "behinds", "post"]) fun _ _ _ _ _ _ us hl => match us, hl with | [_, _, _, _, _, _], _ => rfl, ok__law_start F__law_start m_range G__law_pick m_len G__law_holds G__law_far⟩⟩
  obtain ⟨mv_N_Net_befores_letters, KB_N_Net_befores_letters⟩ := L2.FunD.kbinds0 D_Net___init__ (ps := ["self", "size", "nexts", "befores", "letters"]) 3 ["befores", "letters"] [] (fun us mz ws => us ++ ws) (by intro z; cases z) (by intro q hq; first | exact hq | cases hq) (fun r1 r2 r3 => r1.append r3) (fun D doc pm an cdv ct us mv ws l1 l2 l3 => match us, l1, mv, l2, ws, l3 with
    | [_, _, _], _, [], _, [_, _], _ => rfl)
  have G_check_place : GF P w K mg base "check_place" 1 ["size", "place"] spCheckPlace := ⟨⟨_, _, He.glo_ok X G (c.fact 23 (f := .glo "check_place") rfl), F_check_place.kp, F_check_place.binds (ps := ["size", "place"]) fun _ _ _ _ _ _ us hl => match us, hl with | [_, _], _ => rfl, ok_check_place F_check_place⟩⟩
  have G_check_houses : GF P w K mg base "check_houses" 1 ["houses", "places"] (spCheckHouses K) := ⟨⟨_, _, He.glo_ok X G (c.fact 24 (f := .glo "check_houses") rfl), F_check_houses.kp, F_check_houses.binds (ps := ["houses", "places"]) fun _ _ _ _ _ _ us hl => match us, hl with | [_, _], _ => rfl, ok_check_houses F_check_houses⟩⟩
  have G_letter_places : GF P w K mg base "letter_places" 1 ["letter"] spLetterPlaces := ⟨⟨_, _, He.glo_ok X G (c.fact 25 (f := .glo "letter_places") rfl), F_letter_places.kp, F_letter_places.binds (ps := ["letter"]) fun _ _ _ _ _ _ us hl => match us, hl with | [_], _ => rfl, ok_letter_places F_letter_places⟩⟩
  have G_check_tables : GF P w K mg base "check_tables" 2 ["size", "nexts", "behinds", "post"] spCheckTables := ⟨⟨_, _, He.glo_ok X G (c.fact 22 (f := .glo "check_tables") rfl), F_check_tables.kp, F_check_tables.binds (ps := ["size", "nexts", "behinds", "post"]) fun _ _ _ _ _ _ us hl => match us, hl with | [_, _, _, _], _ => rfl, ok_check_tables F_check_tables m_sorted G_check_place G_check_houses G_letter_places⟩⟩
  have m_dict : mg "dict" = none := He.free_ok X G (c.fact 26 (f := .free "dict") rfl)
  have m_list : mg "list" = none := He.free_ok X G (c.fact 27 (f := .free "list") rfl)
  have N_Net_befores_letters : GC P w K mg base CNet "Net" 3 ["self", "size", "nexts", "befores", "letters"] 2 ["befores", "letters"] (fun vs zs => vs ++ zs) (spNetInit CNet) := ⟨⟨_, _, _, eCNet ▸ He.mkr_ok (c.fact 20 (f := .mkr "Net") rfl), eCNet ▸ He.glo_ok X G (c.fact 21 (f := .glo "Net") rfl), ok_Net___init__ F_Net___init__ G_check_tables m_dict m_list T, KB_N_Net_befores_letters⟩⟩
  have G_Net_befores : GM P w K mg base CNet "befores" 1 ["self"] (spBefores CNet) := ⟨clNet, ⟨_, _, eCNet ▸ He.meth_ok (c.fact 29 (f := .meth "Net" "befores") rfl), F_Net_befores.binds (ps := ["self"]) fun _ _ _ _ _ _ us hl => match us, hl with | [_], _ => rfl, ok_Net_befores F_Net_befores m_sorted T⟩⟩
  have G_Net_clone : GM P w K mg base CNet "clone" 5 ["self"] (spClone CNet) := ⟨clNet, ⟨_, _, eCNet ▸ He.meth_ok (c.fact 28 (f := .meth "Net" "clone") rfl), F_Net_clone.binds (ps := ["self"]) fun _ _ _ _ _ _ us hl => match us, hl with | [_], _ => rfl, ok_Net_clone F_Net_clone N_Net_befores_letters G_Net_befores T⟩⟩
  have m_min : mg "min" = none := He.free_ok X G (c.fact 35 (f := .free "min") rfl)
  have G__law_ring : GF P w K mg base "_law_ring" 1 ["nexts", "house"] spRing := ⟨⟨_, _, He.glo_ok X G (c.fact 36 (f := .glo "_law_ring") rfl), F__law_ring.kp, F__law_ring.binds (ps := ["nexts", "house"]) fun _ _ _ _ _ _ us hl => match us, hl with | [_, _], _ => rfl, ok__law_ring F__law_ring m_range m_len⟩⟩
  have G__law_root : GF P w K mg base "_law_root" 2 ["nexts", "house"] spRoot := ⟨⟨_, _, He.glo_ok X G (c.fact 34 (f := .glo "_law_root") rfl), F__law_root.kp, F__law_root.binds (ps := ["nexts", "house"]) fun _ _ _ _ _ _ us hl => match us, hl with | [_, _], _ => rfl, ok__law_root F__law_root m_min G__law_ring⟩⟩
  have G__law_piece : GF P w K mg base "_law_piece" 3 ["nexts", "house"] spLawPiece := ⟨⟨_, _, He.glo_ok X G (c.fact 33 (f := .glo "_law_piece") rfl), F__law_piece.kp, F__law_piece.binds (ps := ["nexts", "house"]) fun _ _ _ _ _ _ us hl => match us, hl with | [_, _], _ => rfl, ok__law_piece F__law_piece G__law_root m_sorted⟩⟩
  have G__law_marks : GF P w K mg base "_law_marks" 4 ["size", "nexts", "house"] spLawMarks := ⟨⟨_, _, He.glo_ok X G (c.fact 32 (f := .glo "_law_marks") rfl), F__law_marks.kp, F__law_marks.binds (ps := ["size", "nexts", "house"]) fun _ _ _ _ _ _ us hl => match us, hl with | [_, _, _], _ => rfl, ok__law_marks F__law_marks G__law_piece G__law_ring G__law_far m_range m_len m_int⟩⟩
  have G__law_row : GF P w K mg base "_law_row" 5 ["size", "nexts", "house"] spLawRow := ⟨⟨_, _, He.glo_ok X G (c.fact 31 (f := .glo "_law_row") rfl), F__law_row.kp, F__law_row.binds (ps := ["size", "nexts", "house"]) fun _ _ _ _ _ _ us hl => match us, hl with | [_, _, _], _ => rfl, ok__law_row F__law_row G__law_marks m_sorted m_min⟩⟩
  have G__law_ordered : GF P w K mg base "_law_ordered" 1 ["table"] spLawOrdered := ⟨⟨_, _, He.glo_ok X G (c.fact 37 (f := .glo "_law_ordered") rfl), F__law_ordered.kp, F__law_ordered.binds (ps := ["table"]) fun _ _ _ _ _ _ us hl => match us, hl with | [_], _ => rfl, ok__law_ordered F__law_ordered m_sorted⟩⟩
  have G__law_ends : GF P w K mg base "_law_ends" 6 ["size", "nexts"] spLawEnds := ⟨⟨_, _, He.glo_ok X G (c.fact 30 (f := .glo "_law_ends") rfl), F__law_ends.kp, F__law_ends.binds (ps := ["size", "nexts"]) fun _ _ _ _ _ _ us hl => match us, hl with | [_, _], _ => rfl, ok__law_ends F__law_ends m_sorted G__law_row m_range m_len m_int G__law_ordered⟩⟩
  have m_sum : mg "sum" = none := He.free_ok X G (c.fact 40 (f := .free "sum") rfl)
  have G__law_turns : GF P w K mg base "_law_turns" 2 ["size", "nexts", "house"] spTurns := ⟨⟨_, _, He.glo_ok X G (c.fact 39 (f := .glo "_law_turns") rfl), F__law_turns.kp, F__law_turns.binds (ps := ["size", "nexts", "house"]) fun _ _ _ _ _ _ us hl => match us, hl with | [_, _, _], _ => rfl, ok__law_turns F__law_turns m_sum G__law_ring G__law_far⟩⟩
  have G__law_all_rooms : GF P w K mg base "_law_all_rooms" 5 ["size", "nexts"] spLawRooms := ⟨⟨_, _, He.glo_ok X G (c.fact 38 (f := .glo "_law_all_rooms") rfl), F__law_all_rooms.kp, F__law_all_rooms.binds (ps := ["size", "nexts"]) fun _ _ _ _ _ _ us hl => match us, hl with | [_, _], _ => rfl, ok__law_all_rooms F__law_all_rooms m_sorted G__law_marks G__law_turns m_int m_len G__law_far⟩⟩
  have G_Net__check_index : GM P w K mg base CNet "_check_index" 1 ["self", "at"] (spCheckIndex CNet) := ⟨clNet, ⟨_, _, eCNet ▸ He.meth_ok (c.fact 46 (f := .meth "Net" "_check_index") rfl), F_Net__check_index.binds (ps := ["self", "at"]) fun _ _ _ _ _ _ us hl => match us, hl with | [_, _], _ => rfl, ok_Net__check_index F_Net__check_index m_len T⟩⟩
  have G_Net_lose : GM P w K mg base CNet "lose" 2 ["self", "at"] (spLose CNet) := ⟨clNet, ⟨_, _, eCNet ▸ He.meth_ok (c.fact 45 (f := .meth "Net" "lose") rfl), F_Net_lose.binds (ps := ["self", "at"]) fun _ _ _ _ _ _ us hl => match us, hl with | [_, _], _ => rfl, ok_Net_lose F_Net_lose G_Net__check_index T⟩⟩
  have G_far : GF P w K mg base "far" 1 ["size", "start", "end"] spFar := ⟨⟨_, _, He.glo_ok X G (c.fact 49 (f := .glo "far") rfl), F_far.kp, F_far.binds (ps := ["size", "start", "end"]) fun _ _ _ _ _ _ us hl => match us, hl with | [_, _, _], _ => rfl, ok_far F_far⟩⟩
  have G_between : GF P w K mg base "between" 2 ["size", "start", "place", "end"] spBetween := ⟨⟨_, _, He.glo_ok X G (c.fact 48 (f := .glo "between") rfl), F_between.kp, F_between.binds (ps := ["size", "start", "place", "end"]) fun _ _ _ _ _ _ us hl => match us, hl with | [_, _, _, _], _ => rfl, ok_between F_between G_far⟩⟩
  have G_Net__read_tell : GM P w K mg base CNet "_read_tell" 3 ["self", "reader", "sender"] (spReadTell CNet) := ⟨clNet, ⟨_, _, eCNet ▸ He.meth_ok (c.fact 47 (f := .meth "Net" "_read_tell") rfl), F_Net__read_tell.binds (ps := ["self", "reader", "sender"]) fun _ _ _ _ _ _ us hl => match us, hl with | [_, _, _], _ => rfl, ok_Net__read_tell F_Net__read_tell G_between T⟩⟩
  have G_Net__read_ask : GM P w K mg base CNet "_read_ask" 1 ["self", "reader", "sender"] (spReadAsk CNet) := ⟨clNet, ⟨_, _, eCNet ▸ He.meth_ok (c.fact 50 (f := .meth "Net" "_read_ask") rfl), F_Net__read_ask.binds (ps := ["self", "reader", "sender"]) fun _ _ _ _ _ _ us hl => match us, hl with | [_, _, _], _ => rfl, ok_Net__read_ask F_Net__read_ask T⟩⟩
  have G_Net__read_answer : GM P w K mg base CNet "_read_answer" 3 ["self", "reader", "sender", "named"] (spReadAnswer CNet) := ⟨clNet, ⟨_, _, eCNet ▸ He.meth_ok (c.fact 51 (f := .meth "Net" "_read_answer") rfl), F_Net__read_answer.binds (ps := ["self", "reader", "sender", "named"]) fun _ _ _ _ _ _ us hl => match us, hl with | [_, _, _, _], _ => rfl, ok_Net__read_answer F_Net__read_answer G_between T⟩⟩
  have G_Net_read : GM P w K mg base CNet "read" 4 ["self", "at"] (spRead CNet) := ⟨clNet, ⟨_, _, eCNet ▸ He.meth_ok (c.fact 44 (f := .meth "Net" "read") rfl), F_Net_read.binds (ps := ["self", "at"]) fun _ _ _ _ _ _ us hl => match us, hl with | [_, _], _ => rfl, ok_Net_read F_Net_read G_Net_lose G_Net__read_tell G_Net__read_ask G_Net__read_answer T⟩⟩
  have m_isinstance : mg "isinstance" = none := He.free_ok X G (c.fact 52 (f := .free "isinstance") rfl)
  have m_bool : mg "bool" = none := He.free_ok X G (c.fact 53 (f := .free "bool") rfl)
  have m_str : mg "str" = none := He.free_ok X G (c.fact 54 (f := .free "str") rfl)
  have m_tuple : mg "tuple" = none := He.free_ok X G (c.fact 55 (f := .free "tuple") rfl)
  have G__law_same : GF P w K mg base "_law_same" 5 ["actual", "due"] (spSame 4) := ⟨⟨_, _, He.glo_ok X G (c.fact 56 (f := .glo "_law_same") rfl), F__law_same.kp, F__law_same.binds (ps := ["actual", "due"]) fun _ _ _ _ _ _ us hl => match us, hl with | [_, _], _ => rfl, ok__law_same F__law_same m_isinstance m_int m_bool m_str m_dict m_list m_tuple m_len m_range (fun n0 q => ⟨⟨_, _, He.glo_ok X G (c.fact 56 (f := .glo "_law_same") rfl), F__law_same.kp, F__law_same.binds (ps := ["actual", "due"]) fun _ _ _ _ _ _ us hl => match us, hl with | [_, _], _ => rfl, q⟩⟩) 4⟩⟩
  have G__law_between : GF P w K mg base "_law_between" 2 ["size", "start", "place", "end"] spBetween := ⟨⟨_, _, He.glo_ok X G (c.fact 58 (f := .glo "_law_between") rfl), F__law_between.kp, F__law_between.binds (ps := ["size", "start", "place", "end"]) fun _ _ _ _ _ _ us hl => match us, hl with | [_, _, _, _], _ => rfl, ok__law_between F__law_between G__law_far⟩⟩
  have G__law_read : GF P w K mg base "_law_read" 3 ["size", "nexts", "behinds", "post", "at"] spLawRead := ⟨⟨_, _, He.glo_ok X G (c.fact 57 (f := .glo "_law_read") rfl), F__law_read.kp, F__law_read.binds (ps := ["size", "nexts", "behinds", "post", "at"]) fun _ _ _ _ _ _ us hl => match us, hl with | [_, _, _, _, _], _ => rfl, ok__law_read F__law_read G__law_between⟩⟩
  have G__law_read_last : GF P w K mg base "_law_read_last" 6 ["net", "size", "nexts", "behinds", "post"] (spReadLast CNet) := ⟨⟨_, _, He.glo_ok X G (c.fact 43 (f := .glo "_law_read_last") rfl), F__law_read_last.kp, F__law_read_last.binds (ps := ["net", "size", "nexts", "behinds", "post"]) fun _ _ _ _ _ _ us hl => match us, hl with | [_, _, _, _, _], _ => rfl, ok__law_read_last F__law_read_last m_len G_Net_read G__law_same G__law_read T⟩⟩
  have G_Net__send : GM P w K mg base CNet "_send" 2 ["self", "word", "house"] (spSend CNet) := ⟨clNet, ⟨_, _, eCNet ▸ He.meth_ok (c.fact 60 (f := .meth "Net" "_send") rfl), F_Net__send.binds (ps := ["self", "word", "house"]) fun _ _ _ _ _ _ us hl => match us, hl with | [_, _, _], _ => rfl, ok_Net__send F_Net__send G_check_houses T⟩⟩
  have G_Net_tell : GM P w K mg base CNet "tell" 3 ["self", "house"] (spTell CNet) := ⟨clNet, ⟨_, _, eCNet ▸ He.meth_ok (c.fact 59 (f := .meth "Net" "tell") rfl), F_Net_tell.binds (ps := ["self", "house"]) fun _ _ _ _ _ _ us hl => match us, hl with | [_, _], _ => rfl, ok_Net_tell F_Net_tell G_Net__send T⟩⟩
  have G_Net_ask : GM P w K mg base CNet "ask" 3 ["self", "house"] (spAsk CNet) := ⟨clNet, ⟨_, _, eCNet ▸ He.meth_ok (c.fact 61 (f := .meth "Net" "ask") rfl), F_Net_ask.binds (ps := ["self", "house"]) fun _ _ _ _ _ _ us hl => match us, hl with | [_, _], _ => rfl, ok_Net_ask F_Net_ask G_Net__send T⟩⟩
  have G__law_chat : GF P w K mg base "_law_chat" 7 ["tape", "net", "size", "nexts", "behinds", "post"] (spChat CNet) := ⟨⟨_, _, He.glo_ok X G (c.fact 42 (f := .glo "_law_chat") rfl), F__law_chat.kp, F__law_chat.binds (ps := ["tape", "net", "size", "nexts", "behinds", "post"]) fun _ _ _ _ _ _ us hl => match us, hl with | [_, _, _, _, _, _], _ => rfl, ok__law_chat F__law_chat m_sorted G__law_pick m_len G__law_read_last G__law_same G_Net_tell G_Net_ask T⟩⟩
  have G_Net_repeat : GM P w K mg base CNet "repeat" 2 ["self", "at"] (spRepeat CNet) := ⟨clNet, ⟨_, _, eCNet ▸ He.meth_ok (c.fact 63 (f := .meth "Net" "repeat") rfl), F_Net_repeat.binds (ps := ["self", "at"]) fun _ _ _ _ _ _ us hl => match us, hl with | [_, _], _ => rfl, ok_Net_repeat F_Net_repeat G_Net__check_index T⟩⟩
  have G__law_deed : GF P w K mg base "_law_deed" 6 ["tape", "net", "size", "nexts", "behinds", "post"] (spDeed1 CNet) := ⟨⟨_, _, He.glo_ok X G (c.fact 62 (f := .glo "_law_deed") rfl), F__law_deed.kp, F__law_deed.binds (ps := ["tape", "net", "size", "nexts", "behinds", "post"]) fun _ _ _ _ _ _ us hl => match us, hl with | [_, _, _, _, _, _], _ => rfl, ok__law_deed F__law_deed m_sorted G__law_pick m_len G__law_same G_Net_lose G_Net_repeat G__law_read G_Net_read m_int G_Net_tell G_Net_ask T⟩⟩
  have G_Net_snapshot : GM P w K mg base CNet "snapshot" 1 ["self"] (spSnapshot CNet) := ⟨clNet, ⟨_, _, eCNet ▸ He.meth_ok (c.fact 65 (f := .meth "Net" "snapshot") rfl), F_Net_snapshot.binds (ps := ["self"]) fun _ _ _ _ _ _ us hl => match us, hl with | [_], _ => rfl, ok_Net_snapshot F_Net_snapshot m_sorted m_tuple T⟩⟩
  have G__law_stands : GF P w K mg base "_law_stands" 6 ["net", "size", "nexts", "behinds", "post"] (spStands CNet) := ⟨⟨_, _, He.glo_ok X G (c.fact 64 (f := .glo "_law_stands") rfl), F__law_stands.kp, F__law_stands.binds (ps := ["net", "size", "nexts", "behinds", "post"]) fun _ _ _ _ _ _ us hl => match us, hl with | [_, _, _, _, _], _ => rfl, ok__law_stands F__law_stands m_sorted G__law_same m_tuple G_Net_snapshot T⟩⟩
  have G__law_letters : GF P w K mg base "_law_letters" 8 ["tape", "net", "size", "tables", "logs"] (spLawLetters CNet) := ⟨⟨_, _, He.glo_ok X G (c.fact 41 (f := .glo "_law_letters") rfl), F__law_letters.kp, F__law_letters.binds (ps := ["tape", "net", "size", "tables", "logs"]) fun _ _ _ _ _ _ us hl => match us, hl with | [_, _, _, _, _], _ => rfl, ok__law_letters F__law_letters m_dict G__law_pick m_len G__law_chat G__law_deed m_sorted G__law_stands T⟩⟩
  have G__law_is_faithful : GF P w K mg base "_law_is_faithful" 3 ["size", "nexts", "house", "target"] spLawIsF := ⟨⟨_, _, He.glo_ok X G (c.fact 67 (f := .glo "_law_is_faithful") rfl), F__law_is_faithful.kp, F__law_is_faithful.binds (ps := ["size", "nexts", "house", "target"]) fun _ _ _ _ _ _ us hl => match us, hl with | [_, _, _, _], _ => rfl, ok__law_is_faithful F__law_is_faithful G__law_between G__law_holds G__law_far⟩⟩
  have G__law_faithful : GF P w K mg base "_law_faithful" 4 ["size", "nexts"] spLawFaithful := ⟨⟨_, _, He.glo_ok X G (c.fact 66 (f := .glo "_law_faithful") rfl), F__law_faithful.kp, F__law_faithful.binds (ps := ["size", "nexts"]) fun _ _ _ _ _ _ us hl => match us, hl with | [_, _], _ => rfl, ok__law_faithful F__law_faithful m_sorted G__law_is_faithful⟩⟩
  have G_Net_nexts : GM P w K mg base CNet "nexts" 1 ["self"] (spNexts CNet) := ⟨clNet, ⟨_, _, eCNet ▸ He.meth_ok (c.fact 72 (f := .meth "Net" "nexts") rfl), F_Net_nexts.binds (ps := ["self"]) fun _ _ _ _ _ _ us hl => match us, hl with | [_], _ => rfl, ok_Net_nexts F_Net_nexts m_sorted T⟩⟩
  have G_Net_letters : GM P w K mg base CNet "letters" 1 ["self"] (spLetters CNet) := ⟨clNet, ⟨_, _, eCNet ▸ He.meth_ok (c.fact 74 (f := .meth "Net" "letters") rfl), F_Net_letters.binds (ps := ["self"]) fun _ _ _ _ _ _ us hl => match us, hl with | [_], _ => rfl, ok_Net_letters F_Net_letters m_list T⟩⟩
  have G_letter_saying : GF P w K mg base "letter_saying" 2 ["size", "letter"] spLetterSaying := ⟨⟨_, _, He.glo_ok X G (c.fact 75 (f := .glo "letter_saying") rfl), F_letter_saying.kp, F_letter_saying.binds (ps := ["size", "letter"]) fun _ _ _ _ _ _ us hl => match us, hl with | [_, _], _ => rfl, ok_letter_saying F_letter_saying G_far⟩⟩
  have G_sayings : GF P w K mg base "sayings" 3 ["net"] (spSayings CNet) := ⟨⟨_, _, He.glo_ok X G (c.fact 73 (f := .glo "sayings") rfl), F_sayings.kp, F_sayings.binds (ps := ["net"]) fun _ _ _ _ _ _ us hl => match us, hl with | [_], _ => rfl, ok_sayings F_sayings G_Net_nexts G_Net_befores m_sorted G_far G_Net_letters G_letter_saying T⟩⟩
  have G_is_true : GF P w K mg base "is_true" 2 ["size", "nexts", "saying"] spIsTrue := ⟨⟨_, _, He.glo_ok X G (c.fact 76 (f := .glo "is_true") rfl), F_is_true.kp, F_is_true.binds (ps := ["size", "nexts", "saying"]) fun _ _ _ _ _ _ us hl => match us, hl with | [_, _, _], _ => rfl, ok_is_true F_is_true G_far⟩⟩
  have G_first_untrue : GF P w K mg base "first_untrue" 4 ["net"] (spFirstUntrue CNet) := ⟨⟨_, _, He.glo_ok X G (c.fact 71 (f := .glo "first_untrue") rfl), F_first_untrue.kp, F_first_untrue.binds (ps := ["net"]) fun _ _ _ _ _ _ us hl => match us, hl with | [_], _ => rfl, ok_first_untrue F_first_untrue G_Net_nexts G_sayings G_is_true T⟩⟩
  have G_refuse_untrue : GF P w K mg base "refuse_untrue" 5 ["net"] (spRefuseUntrue CNet) := ⟨⟨_, _, He.glo_ok X G (c.fact 70 (f := .glo "refuse_untrue") rfl), F_refuse_untrue.kp, F_refuse_untrue.binds (ps := ["net"]) fun _ _ _ _ _ _ us hl => match us, hl with | [_], _ => rfl, ok_refuse_untrue F_refuse_untrue G_first_untrue T⟩⟩
  have G_ring_roots : GF P w K mg base "ring_roots" 1 ["nexts"] spRingRoots := ⟨⟨_, _, He.glo_ok X G (c.fact 78 (f := .glo "ring_roots") rfl), F_ring_roots.kp, F_ring_roots.binds (ps := ["nexts"]) fun _ _ _ _ _ _ us hl => match us, hl with | [_], _ => rfl, ok_ring_roots F_ring_roots m_sorted m_min⟩⟩
  have G_pieces : GF P w K mg base "pieces" 2 ["net"] (spPieces CNet) := ⟨⟨_, _, He.glo_ok X G (c.fact 77 (f := .glo "pieces") rfl), F_pieces.kp, F_pieces.binds (ps := ["net"]) fun _ _ _ _ _ _ us hl => match us, hl with | [_], _ => rfl, ok_pieces F_pieces G_Net_nexts G_ring_roots m_sorted m_list T⟩⟩
  have G_check_house : GF P w K mg base "check_house" 1 ["nexts", "house"] spCheckHouse := ⟨⟨_, _, He.glo_ok X G (c.fact 82 (f := .glo "check_house") rfl), F_check_house.kp, F_check_house.binds (ps := ["nexts", "house"]) fun _ _ _ _ _ _ us hl => match us, hl with | [_, _], _ => rfl, ok_check_house F_check_house⟩⟩
  have G_piece_of : GF P w K mg base "piece_of" 2 ["net", "house"] (spPieceOf CNet) := ⟨⟨_, _, He.glo_ok X G (c.fact 81 (f := .glo "piece_of") rfl), F_piece_of.kp, F_piece_of.binds (ps := ["net", "house"]) fun _ _ _ _ _ _ us hl => match us, hl with | [_, _], _ => rfl, ok_piece_of F_piece_of G_Net_nexts G_check_house G_ring_roots m_sorted T⟩⟩
  have G_ring_from : GF P w K mg base "ring_from" 1 ["nexts", "house"] spRingFrom := ⟨⟨_, _, He.glo_ok X G (c.fact 84 (f := .glo "ring_from") rfl), F_ring_from.kp, F_ring_from.binds (ps := ["nexts", "house"]) fun _ _ _ _ _ _ us hl => match us, hl with | [_, _], _ => rfl, ok_ring_from F_ring_from m_range m_len m_min⟩⟩
  have G_ring_of : GF P w K mg base "ring_of" 2 ["net", "house"] (spRingOf CNet) := ⟨⟨_, _, He.glo_ok X G (c.fact 83 (f := .glo "ring_of") rfl), F_ring_of.kp, F_ring_of.binds (ps := ["net", "house"]) fun _ _ _ _ _ _ us hl => match us, hl with | [_, _], _ => rfl, ok_ring_of F_ring_of G_Net_nexts G_check_house G_ring_from T⟩⟩
  have G_length_along : GF P w K mg base "length_along" 2 ["size", "houses"] (spLengthAlong K) := ⟨⟨_, _, He.glo_ok X G (c.fact 86 (f := .glo "length_along") rfl), F_length_along.kp, F_length_along.binds (ps := ["size", "houses"]) fun _ _ _ _ _ _ us hl => match us, hl with | [_, _], _ => rfl, ok_length_along F_length_along m_sum m_range m_len G_far⟩⟩
  have G_turns_of : GF P w K mg base "turns_of" 3 ["net", "house"] (spTurnsOf CNet) := ⟨⟨_, _, He.glo_ok X G (c.fact 85 (f := .glo "turns_of") rfl), F_turns_of.kp, F_turns_of.binds (ps := ["net", "house"]) fun _ _ _ _ _ _ us hl => match us, hl with | [_, _], _ => rfl, ok_turns_of F_turns_of G_ring_of G_length_along T⟩⟩
  have G_way_along : GF P w K mg base "way_along" 1 ["nexts", "start", "end"] spWayAlong := ⟨⟨_, _, He.glo_ok X G (c.fact 87 (f := .glo "way_along") rfl), F_way_along.kp, F_way_along.binds (ps := ["nexts", "start", "end"]) fun _ _ _ _ _ _ us hl => match us, hl with | [_, _, _], _ => rfl, ok_way_along F_way_along m_range m_len⟩⟩
  have G_marks_of : GF P w K mg base "marks_of" 4 ["net", "house"] (spMarksOf CNet) := ⟨⟨_, _, He.glo_ok X G (c.fact 80 (f := .glo "marks_of") rfl), F_marks_of.kp, F_marks_of.binds (ps := ["net", "house"]) fun _ _ _ _ _ _ us hl => match us, hl with | [_, _], _ => rfl, ok_marks_of F_marks_of G_piece_of G_ring_of G_turns_of G_Net_nexts G_length_along G_way_along T⟩⟩
  have G_mark_row : GF P w K mg base "mark_row" 5 ["net", "house"] (spMarkRow CNet) := ⟨⟨_, _, He.glo_ok X G (c.fact 79 (f := .glo "mark_row") rfl), F_mark_row.kp, F_mark_row.binds (ps := ["net", "house"]) fun _ _ _ _ _ _ us hl => match us, hl with | [_, _], _ => rfl, ok_mark_row F_mark_row G_marks_of G_turns_of m_min m_sorted T⟩⟩
  have m_zip : mg "zip" = none := He.free_ok X G (c.fact 88 (f := .free "zip") rfl)
  have G_told_end : GF P w K mg base "told_end" 6 ["net"] (spToldEnd CNet) := ⟨⟨_, _, He.glo_ok X G (c.fact 69 (f := .glo "told_end") rfl), F_told_end.kp, F_told_end.binds (ps := ["net"]) fun _ _ _ _ _ _ us hl => match us, hl with | [_], _ => rfl, ok_told_end F_told_end G_refuse_untrue G_pieces G_mark_row m_zip m_sorted T⟩⟩
  have G__law_kept : GF P w K mg base "_law_kept" 7 ["tape", "net", "size", "tables", "first", "ends"] (spLawKept CNet) := ⟨⟨_, _, He.glo_ok X G (c.fact 68 (f := .glo "_law_kept") rfl), F__law_kept.kp, F__law_kept.binds (ps := ["tape", "net", "size", "tables", "first", "ends"]) fun _ _ _ _ _ _ us hl => match us, hl with | [_, _, _, _, _, _], _ => rfl, ok__law_kept F__law_kept G__law_same G_told_end G__law_stands m_sorted m_len G__law_pick G__law_turns G_turns_of G__law_ordered G__law_marks G_marks_of T⟩⟩
  have G_refuse_strangers : GF P w K mg base "refuse_strangers" 2 ["net", "changes"] (spRefuseStr CNet) := ⟨⟨_, _, He.glo_ok X G (c.fact 91 (f := .glo "refuse_strangers") rfl), F_refuse_strangers.kp, F_refuse_strangers.binds (ps := ["net", "changes"]) fun _ _ _ _ _ _ us hl => match us, hl with | [_, _], _ => rfl, ok_refuse_strangers F_refuse_strangers G_Net_nexts T⟩⟩
  have G_Net_hold : GM P w K mg base CNet "hold" 2 ["self", "house", "target"] (spHold CNet) := ⟨clNet, ⟨_, _, eCNet ▸ He.meth_ok (c.fact 92 (f := .meth "Net" "hold") rfl), F_Net_hold.binds (ps := ["self", "house", "target"]) fun _ _ _ _ _ _ us hl => match us, hl with | [_, _, _], _ => rfl, ok_Net_hold F_Net_hold G_check_houses T⟩⟩
  have G_apply_changes : GF P w K mg base "apply_changes" 3 ["net", "changes"] (spApply CNet) := ⟨⟨_, _, He.glo_ok X G (c.fact 90 (f := .glo "apply_changes") rfl), F_apply_changes.kp, F_apply_changes.binds (ps := ["net", "changes"]) fun _ _ _ _ _ _ us hl => match us, hl with | [_, _], _ => rfl, ok_apply_changes F_apply_changes G_refuse_strangers G_Net_hold T⟩⟩
  have G__law_changed : GF P w K mg base "_law_changed" 6 ["tape", "net", "size", "nexts", "logs"] (spLawChanged CNet) := ⟨⟨_, _, He.glo_ok X G (c.fact 89 (f := .glo "_law_changed") rfl), F__law_changed.kp, F__law_changed.binds (ps := ["tape", "net", "size", "nexts", "logs"]) fun _ _ _ _ _ _ us hl => match us, hl with | [_, _, _, _, _], _ => rfl, ok__law_changed F__law_changed m_range G__law_pick G__law_faithful m_len m_list G__law_same G_apply_changes T⟩⟩
  have G_each_held_once : GF P w K mg base "each_held_once" 2 ["net"] (spEachOnce CNet) := ⟨⟨_, _, He.glo_ok X G (c.fact 93 (f := .glo "each_held_once") rfl), F_each_held_once.kp, F_each_held_once.binds (ps := ["net"]) fun _ _ _ _ _ _ us hl => match us, hl with | [_], _ => rfl, ok_each_held_once F_each_held_once G_Net_nexts m_sorted T⟩⟩
  have m_enumerate : mg "enumerate" = none := He.free_ok X G (c.fact 96 (f := .free "enumerate") rfl)
  have G_Net_next_of : GM P w K mg base CNet "next_of" 2 ["self", "house"] (spNextOf CNet) := ⟨clNet, ⟨_, _, eCNet ▸ He.meth_ok (c.fact 98 (f := .meth "Net" "next_of") rfl), F_Net_next_of.binds (ps := ["self", "house"]) fun _ _ _ _ _ _ us hl => match us, hl with | [_, _], _ => rfl, ok_Net_next_of F_Net_next_of G_check_houses T⟩⟩
  have G_holds_true : GF P w K mg base "holds_true" 3 ["net", "saying"] (spHoldsTrue CNet) := ⟨⟨_, _, He.glo_ok X G (c.fact 99 (f := .glo "holds_true") rfl), F_holds_true.kp, F_holds_true.binds (ps := ["net", "saying"]) fun _ _ _ _ _ _ us hl => match us, hl with | [_, _], _ => rfl, ok_holds_true F_holds_true G_is_true G_Net_nexts T⟩⟩
  have G_is_faithful : GF P w K mg base "is_faithful" 4 ["net", "house", "target"] (spIsFaithful CNet) := ⟨⟨_, _, He.glo_ok X G (c.fact 97 (f := .glo "is_faithful") rfl), F_is_faithful.kp, F_is_faithful.binds (ps := ["net", "house", "target"]) fun _ _ _ _ _ _ us hl => match us, hl with | [_, _, _], _ => rfl, ok_is_faithful F_is_faithful G_refuse_strangers G_Net_next_of G_between G_holds_true G_far T⟩⟩
  have G_first_unfaithful : GF P w K mg base "first_unfaithful" 6 ["net", "changes"] (spFirstUnf CNet) := ⟨⟨_, _, He.glo_ok X G (c.fact 95 (f := .glo "first_unfaithful") rfl), F_first_unfaithful.kp, F_first_unfaithful.binds (ps := ["net", "changes"]) fun _ _ _ _ _ _ us hl => match us, hl with | [_, _], _ => rfl, ok_first_unfaithful F_first_unfaithful G_refuse_strangers G_Net_clone m_enumerate G_is_faithful G_Net_hold T⟩⟩
  have G__law_unfaithful : GF P w K mg base "_law_unfaithful" 4 ["size", "nexts", "log"] spLawUnf := ⟨⟨_, _, He.glo_ok X G (c.fact 100 (f := .glo "_law_unfaithful") rfl), F__law_unfaithful.kp, F__law_unfaithful.binds (ps := ["size", "nexts", "log"]) fun _ _ _ _ _ _ us hl => match us, hl with | [_, _, _], _ => rfl, ok__law_unfaithful F__law_unfaithful m_dict m_range m_len G__law_is_faithful⟩⟩
  have G__law_whole_log : GF P w K mg base "_law_whole_log" 7 ["tape", "other", "size", "first", "logs", "ends"] (spLawWhole CNet) := ⟨⟨_, _, He.glo_ok X G (c.fact 94 (f := .glo "_law_whole_log") rfl), F__law_whole_log.kp, F__law_whole_log.binds (ps := ["tape", "other", "size", "first", "logs", "ends"]) fun _ _ _ _ _ _ us hl => match us, hl with | [_, _, _, _, _, _], _ => rfl, ok__law_whole_log F__law_whole_log m_list G_first_unfaithful m_sorted m_len G__law_pick G__law_same G__law_unfaithful G_apply_changes G__law_ordered G_Net_nexts T⟩⟩
  exact ok_law F_law G__law_tape G__law_pick G__law_size G__law_places G__law_nexts G__law_start N_Net_befores_letters m_list m_dict G_Net_clone G__law_ends m_range G__law_all_rooms G__law_letters m_len G__law_faithful G__law_kept G__law_changed G__law_same G_each_held_once G_Net_nexts G__law_whole_log T
end RL
open PySem PySem.W PySem.Calls PyProof.Rows
theorem PySem.Challenge.cw_ringlaps_k92_whole_other_rules_keep_the_holds : PySem.Challenge.rw_ringlaps_k92_whole_other_rules_keep_the.Holds := by
  w_on; o_law
  refine HandSHeadRun.head_any (r := OpenLaw.row PySem.Challenge.rw_ringlaps_k92_whole_other_rules_keep_the) (q := view (OpenLaw.row PySem.Challenge.rw_ringlaps_k92_whole_other_rules_keep_the).prog [78]) (H := RL.hk) (ob := RL.ob) (M := 6000) (loose := RL.nmL) (d := HandSHeadRun.topDef (OpenLaw.row PySem.Challenge.rw_ringlaps_k92_whole_other_rules_keep_the).prog 78) (kwd := []) RL.ob_eq
    (by kernel_rfl) (fun s => by kernel_rfl) RL.run (by kernel_rfl) (by kernel_rfl) (by kernel_rfl) (by rfl) (by first | assumption | decide +kernel) (by decide +kernel) ⟨rfl, rfl, rfl, rfl, rfl, by decide +kernel⟩ ?hw ?hc
  case hw => w_witness2
  case hc =>
    refine L2.walk_ofE (l := PySem.Challenge.rw_ringlaps_k92_whole_other_rules_keep_the) (n := 63) (k := 9) (x := "script") (CX := L2.CX0) rfl (by decide) (by kernel_rfl) ⟨rfl, by decide, by decide⟩ ?F (fun _ _ _ _ z => z)
    intro w mg fa h Y G hmg0
    obtain ⟨K, KX, c⟩ := Y
    have hmg : mg ("law" : PySem.Str) = some (.ref fa) := by
      have e : (HandSHeadRun.topDef (OpenLaw.row PySem.Challenge.rw_ringlaps_k92_whole_other_rules_keep_the).prog 78).name = ("law" : PySem.Str) := by kernel_rfl
      rw [← e]
      exact hmg0
    obtain ⟨fd, hb, hF⟩ := RL.facts (P := (PySem.Challenge.rw_ringlaps_k92_whole_other_rules_keep_the).prog) (w := w) KX G hmg c
    exact ⟨K, fd, RL.spLaw K, KX, hb, fun H a ns hl _ hS => ⟨a, ns, rfl, hS, hl, fun _ => rfl⟩, hF⟩
