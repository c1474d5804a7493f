import PyProof.Rows.All
import Wide.All
import OpenK.AllK
import Wide.FinOn
import HandS.ForMost
import HandS.Flow
import HandS.Style
import HandS.IsInst
import HandS.MakeKwOnly
import HandS.Defaults
import HandS.Wide
import HandS.SortInts
import HandS.DictComp
import HandS.ListItems
import HandS.Conv
import HandS.Walk
import HandS.SetKeys
import HandS.HeadHook2
import HandS.MakeKw
import HandS.Head2
import HandS.HeadEnd
import PySem.Challenge.RW_ringlaps_k72_whole_last_put_first
set_option Elab.async false
set_option linter.all false
set_option maxRecDepth 100000
set_option maxHeartbeats 4000000
namespace RL
open PySem L2
class One (G : Prop) (G1 : outParam Prop) : Prop where
  h : G1 → G
class OneS (G : Prop) (G1 : outParam Prop) : Prop where
  h : G1 → G
class ChS (G : Prop) (G1 : outParam Prop) : Prop where
  h : G1 → G
class GoS (G : Prop) (G1 : outParam Prop) : Prop where
  h : G1 → G
class Chn (G : Prop) (G1 : outParam Prop) : Prop where
  h : G1 → G
class Go (G : Prop) (G1 : outParam Prop) : Prop where
  h : G1 → G
instance (priority := 10) chn0 {G : Prop} : Chn G G := ⟨id⟩
instance (priority := 100) chn1 {G G1 G2 : Prop} [a : One G G1] [b : Chn G1 G2] : Chn G G2 := ⟨fun h => a.h (b.h h)⟩
instance (priority := 10) chs0 {G : Prop} : ChS G G := ⟨id⟩
instance (priority := 100) chs1 {G G1 G2 : Prop} [a : One G G1] [b : ChS G1 G2] : ChS G G2 := ⟨fun h => a.h (b.h h)⟩
instance (priority := 90) chs2 {G G1 G2 : Prop} [a : OneS G G1] [b : ChS G1 G2] : ChS G G2 := ⟨fun h => a.h (b.h h)⟩
instance (priority := 100) gos1 {G G1 G2 : Prop} [a : One G G1] [b : ChS G1 G2] : GoS G G2 := ⟨fun h => a.h (b.h h)⟩
instance (priority := 90) gos2 {G G1 G2 : Prop} [a : OneS G G1] [b : ChS G1 G2] : GoS G G2 := ⟨fun h => a.h (b.h h)⟩
instance go1 {G G1 G2 : Prop} [a : One G G1] [b : Chn G1 G2] : Go G G2 := ⟨fun h => a.h (b.h h)⟩
def SetK (σ : L2.St) (i : Nat) (v : V) (N : L2.St → Hp → Prop) (H : Hp) : Prop := N (σ.set i (some v)) H
def IfK (b : Bool) (A B : Prop) : Prop := if b = true then A else B
def BlK (x : V) (R : Bool → Prop) : Prop := ∃ k, x = .bl k ∧ R k
theorem ifT {A B : Prop} (h : A) : IfK true A B := by unfold IfK; rw [if_pos rfl]; exact h
instance o_ifT {A B : Prop} : One (IfK true A B) (A) := ⟨ifT⟩
theorem ifF {A B : Prop} (h : B) : IfK false A B := by unfold IfK; rw [if_neg Bool.false_ne_true]; exact h
instance o_ifF {A B : Prop} : One (IfK false A B) (B) := ⟨ifF⟩
theorem ifD {p : Prop} [Decidable p] {A B : Prop} (h1 : p → A) (h2 : ¬ p → B) : IfK (decide p) A B := by
  by_cases h : p
  · rw [decide_eq_true h]; exact ifT (h1 h)
  · rw [decide_eq_false h]; exact ifF (h2 h)
theorem ifN {p : Prop} [Decidable p] {A B : Prop} (h1 : ¬ p → A) (h2 : p → B) : IfK (!decide p) A B := by
  by_cases h : p
  · rw [decide_eq_true h]; exact ifF (h2 h)
  · rw [decide_eq_false h]; exact ifT (h1 h)
theorem ifB {b : Bool} {A B : Prop} (h1 : b = true → A) (h2 : b = false → B) : IfK b A B := by
  cases b with
  | true => exact ifT (h1 rfl)
  | false => exact ifF (h2 rfl)
theorem ifE {b c : Bool} {A B : Prop} (e : b = c) (h : IfK c A B) : IfK b A B := e ▸ h
theorem ifDT {p : Prop} [Decidable p] {A B : Prop} (hp : p) (h : A) : IfK (decide p) A B := ifD (fun _ => h) fun n => absurd hp n
theorem ifDF {p : Prop} [Decidable p] {A B : Prop} (hp : ¬ p) (h : B) : IfK (decide p) A B := ifD (fun n => absurd n hp) fun _ => h
theorem ifNT {p : Prop} [Decidable p] {A B : Prop} (hp : ¬ p) (h : A) : IfK (!decide p) A B := ifN (fun _ => h) fun n => absurd n hp
theorem ifNF {p : Prop} [Decidable p] {A B : Prop} (hp : p) (h : B) : IfK (!decide p) A B := ifN (fun n => absurd hp n) fun _ => h
theorem blk {k : Bool} {R : Bool → Prop} (h : R k) : BlK (.bl k) R := ⟨k, rfl, h⟩
instance o_blk {k : Bool} {R : Bool → Prop} : One (BlK (.bl k) R) (R k) := ⟨blk⟩
section
variable {a b c d e f g i j k l m n o p q : Option V} {r : List (Option V)} {N : L2.St → Hp → Prop} {H : Hp} {v : V}
theorem sk0 (h : N (some v :: r) H) : SetK (a :: r) 0 v N H := h
instance o_sk0 : One (SetK (a :: r) 0 v N H) (N (some v :: r) H) := ⟨sk0⟩
theorem sk1 (h : N (a :: some v :: r) H) : SetK (a :: b :: r) 1 v N H := h
instance o_sk1 : One (SetK (a :: b :: r) 1 v N H) (N (a :: some v :: r) H) := ⟨sk1⟩
theorem sk2 (h : N (a :: b :: some v :: r) H) : SetK (a :: b :: c :: r) 2 v N H := h
instance o_sk2 : One (SetK (a :: b :: c :: r) 2 v N H) (N (a :: b :: some v :: r) H) := ⟨sk2⟩
theorem sk3 (h : N (a :: b :: c :: some v :: r) H) : SetK (a :: b :: c :: d :: r) 3 v N H := h
instance o_sk3 : One (SetK (a :: b :: c :: d :: r) 3 v N H) (N (a :: b :: c :: some v :: r) H) := ⟨sk3⟩
theorem sk4 (h : N (a :: b :: c :: d :: some v :: r) H) : SetK (a :: b :: c :: d :: e :: r) 4 v N H := h
instance o_sk4 : One (SetK (a :: b :: c :: d :: e :: r) 4 v N H) (N (a :: b :: c :: d :: some v :: r) H) := ⟨sk4⟩
theorem sk5 (h : N (a :: b :: c :: d :: e :: some v :: r) H) : SetK (a :: b :: c :: d :: e :: f :: r) 5 v N H := h
instance o_sk5 : One (SetK (a :: b :: c :: d :: e :: f :: r) 5 v N H) (N (a :: b :: c :: d :: e :: some v :: r) H) := ⟨sk5⟩
theorem sk6 (h : N (a :: b :: c :: d :: e :: f :: some v :: r) H) : SetK (a :: b :: c :: d :: e :: f :: g :: r) 6 v N H := h
instance o_sk6 : One (SetK (a :: b :: c :: d :: e :: f :: g :: r) 6 v N H) (N (a :: b :: c :: d :: e :: f :: some v :: r) H) := ⟨sk6⟩
theorem sk7 (h : N (a :: b :: c :: d :: e :: f :: g :: some v :: r) H) : SetK (a :: b :: c :: d :: e :: f :: g :: i :: r) 7 v N H := h
instance o_sk7 : One (SetK (a :: b :: c :: d :: e :: f :: g :: i :: r) 7 v N H) (N (a :: b :: c :: d :: e :: f :: g :: some v :: r) H) := ⟨sk7⟩
theorem sk8 (h : N (a :: b :: c :: d :: e :: f :: g :: i :: some v :: r) H) : SetK (a :: b :: c :: d :: e :: f :: g :: i :: j :: r) 8 v N H := h
instance o_sk8 : One (SetK (a :: b :: c :: d :: e :: f :: g :: i :: j :: r) 8 v N H) (N (a :: b :: c :: d :: e :: f :: g :: i :: some v :: r) H) := ⟨sk8⟩
theorem sk9 (h : N (a :: b :: c :: d :: e :: f :: g :: i :: j :: some v :: r) H) : SetK (a :: b :: c :: d :: e :: f :: g :: i :: j :: k :: r) 9 v N H := h
instance o_sk9 : One (SetK (a :: b :: c :: d :: e :: f :: g :: i :: j :: k :: r) 9 v N H) (N (a :: b :: c :: d :: e :: f :: g :: i :: j :: some v :: r) H) := ⟨sk9⟩
theorem sk10 (h : N (a :: b :: c :: d :: e :: f :: g :: i :: j :: k :: some v :: r) H) : SetK (a :: b :: c :: d :: e :: f :: g :: i :: j :: k :: l :: r) 10 v N H := h
instance o_sk10 : One (SetK (a :: b :: c :: d :: e :: f :: g :: i :: j :: k :: l :: r) 10 v N H) (N (a :: b :: c :: d :: e :: f :: g :: i :: j :: k :: some v :: r) H) := ⟨sk10⟩
theorem sk11 (h : N (a :: b :: c :: d :: e :: f :: g :: i :: j :: k :: l :: some v :: r) H) : SetK (a :: b :: c :: d :: e :: f :: g :: i :: j :: k :: l :: m :: r) 11 v N H := h
instance o_sk11 : One (SetK (a :: b :: c :: d :: e :: f :: g :: i :: j :: k :: l :: m :: r) 11 v N H) (N (a :: b :: c :: d :: e :: f :: g :: i :: j :: k :: l :: some v :: r) H) := ⟨sk11⟩
theorem sk12 (h : N (a :: b :: c :: d :: e :: f :: g :: i :: j :: k :: l :: m :: some v :: r) H) : SetK (a :: b :: c :: d :: e :: f :: g :: i :: j :: k :: l :: m :: n :: r) 12 v N H := h
instance o_sk12 : One (SetK (a :: b :: c :: d :: e :: f :: g :: i :: j :: k :: l :: m :: n :: r) 12 v N H) (N (a :: b :: c :: d :: e :: f :: g :: i :: j :: k :: l :: m :: some v :: r) H) := ⟨sk12⟩
theorem sk13 (h : N (a :: b :: c :: d :: e :: f :: g :: i :: j :: k :: l :: m :: n :: some v :: r) H) : SetK (a :: b :: c :: d :: e :: f :: g :: i :: j :: k :: l :: m :: n :: o :: r) 13 v N H := h
instance o_sk13 : One (SetK (a :: b :: c :: d :: e :: f :: g :: i :: j :: k :: l :: m :: n :: o :: r) 13 v N H) (N (a :: b :: c :: d :: e :: f :: g :: i :: j :: k :: l :: m :: n :: some v :: r) H) := ⟨sk13⟩
theorem sk14 (h : N (a :: b :: c :: d :: e :: f :: g :: i :: j :: k :: l :: m :: n :: o :: some v :: r) H) : SetK (a :: b :: c :: d :: e :: f :: g :: i :: j :: k :: l :: m :: n :: o :: p :: r) 14 v N H := h
instance o_sk14 : One (SetK (a :: b :: c :: d :: e :: f :: g :: i :: j :: k :: l :: m :: n :: o :: p :: r) 14 v N H) (N (a :: b :: c :: d :: e :: f :: g :: i :: j :: k :: l :: m :: n :: o :: some v :: r) H) := ⟨sk14⟩
theorem sk15 (h : N (a :: b :: c :: d :: e :: f :: g :: i :: j :: k :: l :: m :: n :: o :: p :: some v :: r) H) : SetK (a :: b :: c :: d :: e :: f :: g :: i :: j :: k :: l :: m :: n :: o :: p :: q :: r) 15 v N H := h
instance o_sk15 : One (SetK (a :: b :: c :: d :: e :: f :: g :: i :: j :: k :: l :: m :: n :: o :: p :: q :: r) 15 v N H) (N (a :: b :: c :: d :: e :: f :: g :: i :: j :: k :: l :: m :: n :: o :: p :: some v :: r) H) := ⟨sk15⟩
theorem skr {σ : L2.St} {i : Nat} (h : N (σ.set i (some v)) H) : SetK σ i v N H := h
variable {Q : VK}
theorem xv0 (h : Q v H) : tVar 0 (some v :: r) H Q := ⟨v, rfl, h⟩
instance o_xv0 : One (tVar 0 (some v :: r) H Q) (Q v H) := ⟨xv0⟩
theorem xv1 (h : Q v H) : tVar 1 (a :: some v :: r) H Q := ⟨v, rfl, h⟩
instance o_xv1 : One (tVar 1 (a :: some v :: r) H Q) (Q v H) := ⟨xv1⟩
theorem xv2 (h : Q v H) : tVar 2 (a :: b :: some v :: r) H Q := ⟨v, rfl, h⟩
instance o_xv2 : One (tVar 2 (a :: b :: some v :: r) H Q) (Q v H) := ⟨xv2⟩
theorem xv3 (h : Q v H) : tVar 3 (a :: b :: c :: some v :: r) H Q := ⟨v, rfl, h⟩
instance o_xv3 : One (tVar 3 (a :: b :: c :: some v :: r) H Q) (Q v H) := ⟨xv3⟩
theorem xv4 (h : Q v H) : tVar 4 (a :: b :: c :: d :: some v :: r) H Q := ⟨v, rfl, h⟩
instance o_xv4 : One (tVar 4 (a :: b :: c :: d :: some v :: r) H Q) (Q v H) := ⟨xv4⟩
theorem xv5 (h : Q v H) : tVar 5 (a :: b :: c :: d :: e :: some v :: r) H Q := ⟨v, rfl, h⟩
instance o_xv5 : One (tVar 5 (a :: b :: c :: d :: e :: some v :: r) H Q) (Q v H) := ⟨xv5⟩
theorem xv6 (h : Q v H) : tVar 6 (a :: b :: c :: d :: e :: f :: some v :: r) H Q := ⟨v, rfl, h⟩
instance o_xv6 : One (tVar 6 (a :: b :: c :: d :: e :: f :: some v :: r) H Q) (Q v H) := ⟨xv6⟩
theorem xv7 (h : Q v H) : tVar 7 (a :: b :: c :: d :: e :: f :: g :: some v :: r) H Q := ⟨v, rfl, h⟩
instance o_xv7 : One (tVar 7 (a :: b :: c :: d :: e :: f :: g :: some v :: r) H Q) (Q v H) := ⟨xv7⟩
theorem xv8 (h : Q v H) : tVar 8 (a :: b :: c :: d :: e :: f :: g :: i :: some v :: r) H Q := ⟨v, rfl, h⟩
instance o_xv8 : One (tVar 8 (a :: b :: c :: d :: e :: f :: g :: i :: some v :: r) H Q) (Q v H) := ⟨xv8⟩
theorem xv9 (h : Q v H) : tVar 9 (a :: b :: c :: d :: e :: f :: g :: i :: j :: some v :: r) H Q := ⟨v, rfl, h⟩
instance o_xv9 : One (tVar 9 (a :: b :: c :: d :: e :: f :: g :: i :: j :: some v :: r) H Q) (Q v H) := ⟨xv9⟩
theorem xv10 (h : Q v H) : tVar 10 (a :: b :: c :: d :: e :: f :: g :: i :: j :: k :: some v :: r) H Q := ⟨v, rfl, h⟩
instance o_xv10 : One (tVar 10 (a :: b :: c :: d :: e :: f :: g :: i :: j :: k :: some v :: r) H Q) (Q v H) := ⟨xv10⟩
theorem xv11 (h : Q v H) : tVar 11 (a :: b :: c :: d :: e :: f :: g :: i :: j :: k :: l :: some v :: r) H Q := ⟨v, rfl, h⟩
instance o_xv11 : One (tVar 11 (a :: b :: c :: d :: e :: f :: g :: i :: j :: k :: l :: some v :: r) H Q) (Q v H) := ⟨xv11⟩
theorem xv12 (h : Q v H) : tVar 12 (a :: b :: c :: d :: e :: f :: g :: i :: j :: k :: l :: m :: some v :: r) H Q := ⟨v, rfl, h⟩
instance o_xv12 : One (tVar 12 (a :: b :: c :: d :: e :: f :: g :: i :: j :: k :: l :: m :: some v :: r) H Q) (Q v H) := ⟨xv12⟩
theorem xv13 (h : Q v H) : tVar 13 (a :: b :: c :: d :: e :: f :: g :: i :: j :: k :: l :: m :: n :: some v :: r) H Q := ⟨v, rfl, h⟩
instance o_xv13 : One (tVar 13 (a :: b :: c :: d :: e :: f :: g :: i :: j :: k :: l :: m :: n :: some v :: r) H Q) (Q v H) := ⟨xv13⟩
theorem xv14 (h : Q v H) : tVar 14 (a :: b :: c :: d :: e :: f :: g :: i :: j :: k :: l :: m :: n :: o :: some v :: r) H Q := ⟨v, rfl, h⟩
instance o_xv14 : One (tVar 14 (a :: b :: c :: d :: e :: f :: g :: i :: j :: k :: l :: m :: n :: o :: some v :: r) H Q) (Q v H) := ⟨xv14⟩
theorem xv15 (h : Q v H) : tVar 15 (a :: b :: c :: d :: e :: f :: g :: i :: j :: k :: l :: m :: n :: o :: p :: some v :: r) H Q := ⟨v, rfl, h⟩
instance o_xv15 : One (tVar 15 (a :: b :: c :: d :: e :: f :: g :: i :: j :: k :: l :: m :: n :: o :: p :: some v :: r) H Q) (Q v H) := ⟨xv15⟩
theorem xvr {σ : L2.St} {i : Nat} (hv : σ[i]? = some (some v)) (h : Q v H) : tVar i σ H Q := ⟨v, hv, h⟩
end
section
variable {K : PySem.W.Frag} {σ : L2.St} {H : Hp} {te ta tb tl : TE} {t u tw tz tu : TS} {c : TT} {nx bk ct : L2.St → Hp → Prop} {rt : VK} {i : Nat} {g : TG} {wi : TI}
def LoopK (J : It) (g : TG) (tb : TS) (D : Ends) (σ : L2.St) (H : Hp) : Prop := ∃ W : Nat → Nat → L2.St → Hp → Prop, (∃ m, W 0 m σ H) ∧ ∀ i m σ H, W i m σ H →
  (J.stop i H ∧ D.nx σ H) ∨ (J.go i H ∧ ∃ N : L2.St → Hp → Prop, (∀ σ' H', N σ' H' → ∃ m', m' < m ∧ W (i + 1) m' σ' H') ∧ ∀ x H', J.yld i H x H' → g x σ H' fun σ2 H2 => tb { D with nx := N, ct := N, bk := D.nx } σ2 H2)
theorem q_asg (h : te σ H fun x H1 => SetK σ i x (tz ⟨nx, rt, bk, ct⟩) H1) : tSeq (tAsg te (gName i)) tz ⟨nx, rt, bk, ct⟩ σ H := h
instance o_q_asg : OneS (tSeq (tAsg te (gName i)) tz ⟨nx, rt, bk, ct⟩ σ H) (te σ H fun x H1 => SetK σ i x (tz ⟨nx, rt, bk, ct⟩) H1) := ⟨q_asg⟩
theorem s_asg (h : te σ H fun x H1 => SetK σ i x nx H1) : tAsg te (gName i) ⟨nx, rt, bk, ct⟩ σ H := h
instance o_s_asg : OneS (tAsg te (gName i) ⟨nx, rt, bk, ct⟩ σ H) (te σ H fun x H1 => SetK σ i x nx H1) := ⟨s_asg⟩
theorem q_asgG (h : te σ H fun x H1 => g x σ H1 (tz ⟨nx, rt, bk, ct⟩)) : tSeq (tAsg te g) tz ⟨nx, rt, bk, ct⟩ σ H := h
instance o_q_asgG : OneS (tSeq (tAsg te g) tz ⟨nx, rt, bk, ct⟩ σ H) (te σ H fun x H1 => g x σ H1 (tz ⟨nx, rt, bk, ct⟩)) := ⟨q_asgG⟩
theorem s_asgG (h : te σ H fun x H1 => g x σ H1 nx) : tAsg te g ⟨nx, rt, bk, ct⟩ σ H := h
instance o_s_asgG : OneS (tAsg te g ⟨nx, rt, bk, ct⟩ σ H) (te σ H fun x H1 => g x σ H1 nx) := ⟨s_asgG⟩
theorem q_drop (h : te σ H fun _ H1 => tz ⟨nx, rt, bk, ct⟩ σ H1) : tSeq (tDrop te) tz ⟨nx, rt, bk, ct⟩ σ H := h
instance o_q_drop : OneS (tSeq (tDrop te) tz ⟨nx, rt, bk, ct⟩ σ H) (te σ H fun _ H1 => tz ⟨nx, rt, bk, ct⟩ σ H1) := ⟨q_drop⟩
theorem s_drop (h : te σ H fun _ H1 => nx σ H1) : tDrop te ⟨nx, rt, bk, ct⟩ σ H := h
instance o_s_drop : OneS (tDrop te ⟨nx, rt, bk, ct⟩ σ H) (te σ H fun _ H1 => nx σ H1) := ⟨s_drop⟩
theorem s_ret (h : te σ H rt) : tRet te ⟨nx, rt, bk, ct⟩ σ H := h
instance o_s_ret : OneS (tRet te ⟨nx, rt, bk, ct⟩ σ H) (te σ H rt) := ⟨s_ret⟩
theorem s_retN (h : rt .non H) : tRetN ⟨nx, rt, bk, ct⟩ σ H := h
instance o_s_retN : OneS (tRetN ⟨nx, rt, bk, ct⟩ σ H) (rt .non H) := ⟨s_retN⟩
theorem q_if (h : c σ H fun b H1 => IfK b (t ⟨tz ⟨nx, rt, bk, ct⟩, rt, bk, ct⟩ σ H1) (u ⟨tz ⟨nx, rt, bk, ct⟩, rt, bk, ct⟩ σ H1)) : tSeq (tIfS c t u) tz ⟨nx, rt, bk, ct⟩ σ H := h
instance o_q_if : OneS (tSeq (tIfS c t u) tz ⟨nx, rt, bk, ct⟩ σ H) (c σ H fun b H1 => IfK b (t ⟨tz ⟨nx, rt, bk, ct⟩, rt, bk, ct⟩ σ H1) (u ⟨tz ⟨nx, rt, bk, ct⟩, rt, bk, ct⟩ σ H1)) := ⟨q_if⟩
theorem s_if (h : c σ H fun b H1 => IfK b (t ⟨nx, rt, bk, ct⟩ σ H1) (u ⟨nx, rt, bk, ct⟩ σ H1)) : tIfS c t u ⟨nx, rt, bk, ct⟩ σ H := h
instance o_s_if : OneS (tIfS c t u ⟨nx, rt, bk, ct⟩ σ H) (c σ H fun b H1 => IfK b (t ⟨nx, rt, bk, ct⟩ σ H1) (u ⟨nx, rt, bk, ct⟩ σ H1)) := ⟨s_if⟩
theorem s_next (h : nx σ H) : tNext ⟨nx, rt, bk, ct⟩ σ H := h
instance o_s_next : One (tNext ⟨nx, rt, bk, ct⟩ σ H) (nx σ H) := ⟨s_next⟩
theorem s_brk (h : bk σ H) : tBreak ⟨nx, rt, bk, ct⟩ σ H := h
instance o_s_brk : OneS (tBreak ⟨nx, rt, bk, ct⟩ σ H) (bk σ H) := ⟨s_brk⟩
theorem s_cont (h : ct σ H) : tCont ⟨nx, rt, bk, ct⟩ σ H := h
instance o_s_cont : OneS (tCont ⟨nx, rt, bk, ct⟩ σ H) (ct σ H) := ⟨s_cont⟩
theorem q_seq (h : tSeq t (fun D => tSeq u tz D) ⟨nx, rt, bk, ct⟩ σ H) : tSeq (tSeq t u) tz ⟨nx, rt, bk, ct⟩ σ H := h
instance o_q_seq : OneS (tSeq (tSeq t u) tz ⟨nx, rt, bk, ct⟩ σ H) (tSeq t (fun D => tSeq u tz D) ⟨nx, rt, bk, ct⟩ σ H) := ⟨q_seq⟩
theorem q_for (h : wi σ H fun J H1 => LoopK J g tu ⟨tz ⟨nx, rt, bk, ct⟩, rt, bk, ct⟩ σ H1) : tSeq (tFor wi g tu) tz ⟨nx, rt, bk, ct⟩ σ H := h
instance o_q_for : OneS (tSeq (tFor wi g tu) tz ⟨nx, rt, bk, ct⟩ σ H) (wi σ H fun J H1 => LoopK J g tu ⟨tz ⟨nx, rt, bk, ct⟩, rt, bk, ct⟩ σ H1) := ⟨q_for⟩
theorem s_for (h : wi σ H fun J H1 => LoopK J g tu ⟨nx, rt, bk, ct⟩ σ H1) : tFor wi g tu ⟨nx, rt, bk, ct⟩ σ H := h
instance o_s_for : OneS (tFor wi g tu ⟨nx, rt, bk, ct⟩ σ H) (wi σ H fun J H1 => LoopK J g tu ⟨nx, rt, bk, ct⟩ σ H1) := ⟨s_for⟩
theorem q_aug {f : Int → Int → Int} {z : Int} (h : tVar i σ H fun x H0 => te σ H0 fun y H1 => ipI f x y H1 fun z H2 => SetK σ i z (tz ⟨nx, rt, bk, ct⟩) H2) : tSeq (tAug i te (ipI f)) tz ⟨nx, rt, bk, ct⟩ σ H := h
theorem s_aug {f : Int → Int → Int} {z : Int} (h : tVar i σ H fun x H0 => te σ H0 fun y H1 => ipI f x y H1 fun z H2 => SetK σ i z nx H2) : tAug i te (ipI f) ⟨nx, rt, bk, ct⟩ σ H := h
theorem r_ip {f : Int → Int → Int} {a b : Int} {Q : VK} (h : Q (.int (f a b)) H) : ipI f (.int a) (.int b) H Q := ⟨a, b, rfl, rfl, h⟩
instance o_r_ip {f : Int → Int → Int} {a b : Int} {Q : VK} : One (ipI f (.int a) (.int b) H Q) (Q (.int (f a b)) H) := ⟨r_ip⟩
theorem q_cut (M : L2.St → Hp → Prop) (h : ∀ N : L2.St → Hp → Prop, (∀ σ' H', M σ' H' → N σ' H') → t ⟨N, rt, bk, ct⟩ σ H) (k : ∀ σ' H', M σ' H' → tz ⟨nx, rt, bk, ct⟩ σ' H') : tSeq t tz ⟨nx, rt, bk, ct⟩ σ H := h _ k
theorem q_asgM (M : V → Hp → Prop) (h : ∀ R : VK, (∀ v H1, M v H1 → R v H1) → te σ H R) (k : ∀ v H1, M v H1 → SetK σ i v (tz ⟨nx, rt, bk, ct⟩) H1) : tSeq (tAsg te (gName i)) tz ⟨nx, rt, bk, ct⟩ σ H := h _ k
def ItLK (K : PySem.W.Frag) (x : V) (R : It → Hp → Prop) (H : Hp) : Prop := ∃ a, x = .ref a ∧ (∃ xs, SqL K H a xs) ∧ R (Itl K a) H
def ItTK (K : PySem.W.Frag) (x : V) (R : It → Hp → Prop) (H : Hp) : Prop := ∃ a, x = .ref a ∧ (∃ xs, SqT K H a xs) ∧ R (Itt K a) H
theorem x_iList {R : It → Hp → Prop} (h : tl σ H fun x H1 => ItLK K x R H1) : iList K tl σ H R := h
instance o_x_iList {R : It → Hp → Prop} : One (iList K tl σ H R) (tl σ H fun x H1 => ItLK K x R H1) := ⟨x_iList⟩
theorem x_iTup {R : It → Hp → Prop} (h : tl σ H fun x H1 => ItTK K x R H1) : iTup K tl σ H R := h
instance o_x_iTup {R : It → Hp → Prop} : One (iTup K tl σ H R) (tl σ H fun x H1 => ItTK K x R H1) := ⟨x_iTup⟩
theorem x_iRng1 {ta : TA} {R : It → Hp → Prop} (h : ta σ H fun vs H1 => ∃ j : Int, vs = [.int j] ∧ -(2 ^ 62) ≤ j ∧ j < 2 ^ 62 ∧ R (Itr 0 j.toNat) H1) : iRng1 ta σ H R := h
instance o_x_iRng1 {ta : TA} {R : It → Hp → Prop} : One (iRng1 ta σ H R) (ta σ H fun vs H1 => ∃ j : Int, vs = [.int j] ∧ -(2 ^ 62) ≤ j ∧ j < 2 ^ 62 ∧ R (Itr 0 j.toNat) H1) := ⟨x_iRng1⟩
theorem x_iRng2 {ta : TA} {R : It → Hp → Prop} (h : ta σ H fun vs H1 => ∃ i j : Int, vs = [.int i, .int j] ∧ (-(2 ^ 62) ≤ i ∧ i < 2 ^ 62 ∧ -(2 ^ 62) ≤ j ∧ j < 2 ^ 62) ∧ R (Itr i (j - i).toNat) H1) : iRng2 ta σ H R := h
instance o_x_iRng2 {ta : TA} {R : It → Hp → Prop} : One (iRng2 ta σ H R) (ta σ H fun vs H1 => ∃ i j : Int, vs = [.int i, .int j] ∧ (-(2 ^ 62) ≤ i ∧ i < 2 ^ 62 ∧ -(2 ^ 62) ≤ j ∧ j < 2 ^ 62) ∧ R (Itr i (j - i).toNat) H1) := ⟨x_iRng2⟩
theorem forL {a : Addr} {R : It → Hp → Prop} (xs : List V) (hx : SqL K H a xs) (h : R (Itl K a) H) : ItLK K (.ref a) R H := ⟨a, rfl, ⟨xs, hx⟩, h⟩
theorem forT {a : Addr} {R : It → Hp → Prop} (xs : List V) (hx : SqT K H a xs) (h : R (Itt K a) H) : ItTK K (.ref a) R H := ⟨a, rfl, ⟨xs, hx⟩, h⟩
theorem loopL {a : Addr} {j : Nat} (xs : List V) (Pv : Nat → L2.St → Hp → Prop) (h0 : Pv 0 σ H) (hl : ∀ i σ H, i ≤ xs.length → Pv i σ H → SqL K H a xs)
    (hs : ∀ i x σ H, xs[i]? = some x → Pv i σ H → SetK σ j x (tu ⟨Pv (i + 1), rt, nx, Pv (i + 1)⟩) H) (hd : ∀ σ H, Pv xs.length σ H → nx σ H) : LoopK (Itl K a) (gName j) tu ⟨nx, rt, bk, ct⟩ σ H :=
  for_list (K := K) (a := a) (xs := xs) (g := gName j) (tb := tu) (D := ⟨nx, rt, bk, ct⟩) Pv h0 hl (fun i x σ H hi hp => hs i x σ H hi hp) hd
theorem loopT {a : Addr} {j : Nat} (xs : List V) (Pv : Nat → L2.St → Hp → Prop) (h0 : Pv 0 σ H) (hl : ∀ i σ H, i ≤ xs.length → Pv i σ H → SqT K H a xs)
    (hs : ∀ i x σ H, xs[i]? = some x → Pv i σ H → SetK σ j x (tu ⟨Pv (i + 1), rt, nx, Pv (i + 1)⟩) H) (hd : ∀ σ H, Pv xs.length σ H → nx σ H) : LoopK (Itt K a) (gName j) tu ⟨nx, rt, bk, ct⟩ σ H :=
  for_tup (K := K) (a := a) (xs := xs) (g := gName j) (tb := tu) (D := ⟨nx, rt, bk, ct⟩) Pv h0 hl (fun i x σ H hi hp => hs i x σ H hi hp) hd
theorem loopLg {a : Addr} {g : TG} (xs : List V) (Pv : Nat → L2.St → Hp → Prop) (h0 : Pv 0 σ H) (hl : ∀ i σ H, i ≤ xs.length → Pv i σ H → SqL K H a xs)
    (hs : ∀ i x σ H, xs[i]? = some x → Pv i σ H → g x σ H (tu ⟨Pv (i + 1), rt, nx, Pv (i + 1)⟩)) (hd : ∀ σ H, Pv xs.length σ H → nx σ H) : LoopK (Itl K a) g tu ⟨nx, rt, bk, ct⟩ σ H :=
  for_list (K := K) (a := a) (xs := xs) (g := g) (tb := tu) (D := ⟨nx, rt, bk, ct⟩) Pv h0 hl (fun i x σ H hi hp => hs i x σ H hi hp) hd
theorem loopR {lo : Int} {n j : Nat} (Pv : Nat → L2.St → Hp → Prop) (h0 : Pv 0 σ H) (hs : ∀ i σ H, i < n → Pv i σ H → SetK σ j (.int (lo + i)) (tu ⟨Pv (i + 1), rt, nx, Pv (i + 1)⟩) H)
    (hd : ∀ σ H, Pv n σ H → nx σ H) : LoopK (Itr lo n) (gName j) tu ⟨nx, rt, bk, ct⟩ σ H :=
  for_range (lo := lo) (n := n) (g := gName j) (tb := tu) (D := ⟨nx, rt, bk, ct⟩) Pv h0 (fun i σ H hi hp => hs i σ H hi hp) hd
theorem q_while (W : Nat → L2.St → Hp → Prop) (m0 : Nat) (h0 : W m0 σ H)
    (hs : ∀ m σ H, W m σ H → ∀ (N : L2.St → Hp → Prop) (R : Bool → Hp → Prop), (∀ m' σ' H', m' < m → W m' σ' H' → N σ' H') → (∀ H1, tu ⟨N, rt, tz ⟨nx, rt, bk, ct⟩, N⟩ σ H1 → R true H1) → (∀ H1, tz ⟨nx, rt, bk, ct⟩ σ H1 → R false H1) → c σ H R) :
    tSeq (tWhile c tu) tz ⟨nx, rt, bk, ct⟩ σ H := by
  refine ⟨W, ⟨m0, h0⟩, fun m σ' H' hw => ?_⟩
  refine hs m σ' H' hw (fun σ2 H2 => ∃ m', m' < m ∧ W m' σ2 H2) _ (fun m' σ2 H2 a b => ⟨m', a, b⟩) (fun H1 q => ?_) (fun H1 q => ?_)
  · show (if true = true then _ else _)
    rw [if_pos rfl]
    exact ⟨_, fun _ _ z => z, q⟩
  · show (if false = true then _ else _)
    rw [if_neg Bool.false_ne_true]
    exact q
end
theorem cxK {CX : CXT} {P : Program} {w : World} {K : PySem.W.Frag} {mg : Str → Option Value} {base : Heap} {N : List Str} {qual : Str} {scope : Scope} {f : Addr} {cd : Value} {A : Around} {outer : List Env} {s : Shared} {H : Hp} {E : XK} :
    (cxOf CX P w K mg base N qual scope f cd A outer s H E).nox.K = K := rfl
theorem cxKX {CX : CXT} {P : Program} {w : World} {K : PySem.W.Frag} {mg : Str → Option Value} {base : Heap} {N : List Str} {qual : Str} {scope : Scope} {f : Addr} {cd : Value} {A : Around} {outer : List Env} {s : Shared} {H : Hp} {E : XK} :
    (cxOf CX P w K mg base N qual scope f cd A outer s H E).K = K := rfl
theorem ent {t : TS} {D : Ends} {σ σ' : L2.St} {H : Hp} (e : σ = σ') (h : t D σ' H) : t D σ H := e ▸ h
section
variable {K : PySem.W.Frag} {σ : L2.St} {H : Hp} {te ta tb tc : TE} {t u : TT} {Q : VK} {R : Bool → Hp → Prop} {x y v : V} {a b : Int}
theorem x_c (h : Q v H) : tC v σ H Q := h
instance o_x_c : One (tC v σ H Q) (Q v H) := ⟨x_c⟩
theorem x_op {r : R2} (h : ta σ H fun x H1 => tb σ H1 fun y H2 => r x y H2 Q) : tOp r ta tb σ H Q := h
instance o_x_op {r : R2} : One (tOp r ta tb σ H Q) (ta σ H fun x H1 => tb σ H1 fun y H2 => r x y H2 Q) := ⟨x_op⟩
theorem x_un {r : V → Hp → VK → Prop} (h : ta σ H fun x H1 => r x H1 Q) : tUn r ta σ H Q := h
instance o_x_un {r : V → Hp → VK → Prop} : One (tUn r ta σ H Q) (ta σ H fun x H1 => r x H1 Q) := ⟨x_un⟩
theorem r_u {g : Int → V} (h : Q (g a) H) : rU g (.int a) H Q := ⟨a, rfl, h⟩
instance o_r_u {g : Int → V} : One (rU g (.int a) H Q) (Q (g a) H) := ⟨r_u⟩
theorem r_i0 {g : Int → Int → V} (h : Q (g a b) H) : rI0 g (.int a) (.int b) H Q := ⟨a, b, rfl, rfl, h⟩
instance o_r_i0 {g : Int → Int → V} : One (rI0 g (.int a) (.int b) H Q) (Q (g a b) H) := ⟨r_i0⟩
theorem r_i {C : Int → Int → Prop} {g : Int → Int → V} (hc : C a b) (h : Q (g a b) H) : rI C g (.int a) (.int b) H Q := ⟨a, b, rfl, rfl, hc, h⟩
theorem r_eqI (h : Q (.bl (decide (a = b))) H) : rEq (.int a) (.int b) H Q := ⟨rfl, by rw [show decide (V.int a = V.int b) = decide (a = b) by rw [dec_int]; rfl]; exact h⟩
instance o_r_eqI : One (rEq (.int a) (.int b) H Q) (Q (.bl (decide (a = b))) H) := ⟨r_eqI⟩
theorem r_neI (h : Q (.bl (!decide (a = b))) H) : rNe (.int a) (.int b) H Q := ⟨rfl, by rw [show decide (V.int a = V.int b) = decide (a = b) by rw [dec_int]; rfl]; exact h⟩
instance o_r_neI : One (rNe (.int a) (.int b) H Q) (Q (.bl (!decide (a = b))) H) := ⟨r_neI⟩
theorem r_eqS {a b : Str} (h : Q (.bl (decide (a = b))) H) : rEq (.str a) (.str b) H Q := ⟨rfl, by rw [show decide (V.str a = V.str b) = decide (a = b) by rw [Bool.eq_iff_iff]; simp]; exact h⟩
instance o_r_eqS {a b : Str} : One (rEq (.str a) (.str b) H Q) (Q (.bl (decide (a = b))) H) := ⟨r_eqS⟩
theorem r_neS {a b : Str} (h : Q (.bl (!decide (a = b))) H) : rNe (.str a) (.str b) H Q := ⟨rfl, by rw [show decide (V.str a = V.str b) = decide (a = b) by rw [Bool.eq_iff_iff]; simp]; exact h⟩
instance o_r_neS {a b : Str} : One (rNe (.str a) (.str b) H Q) (Q (.bl (!decide (a = b))) H) := ⟨r_neS⟩
theorem r_eqNI (h : Q (.bl false) H) : rEq .non (.int b) H Q := ⟨rfl, h⟩
theorem r_eqIN (h : Q (.bl false) H) : rEq (.int a) .non H Q := ⟨rfl, h⟩
theorem r_neNI (h : Q (.bl true) H) : rNe .non (.int b) H Q := ⟨rfl, h⟩
theorem r_neIN (h : Q (.bl true) H) : rNe (.int a) .non H Q := ⟨rfl, h⟩
theorem x_test (h : ta σ H fun x H1 => BlK x fun k => R k H1) : tTest ta σ H R := h
instance o_x_test : One (tTest ta σ H R) (ta σ H fun x H1 => BlK x fun k => R k H1) := ⟨x_test⟩
theorem x_tB (h : ta σ H fun x H1 => BlK x fun k => R k H1) : tB ta σ H R := h
instance o_x_tB : One (tB ta σ H R) (ta σ H fun x H1 => BlK x fun k => R k H1) := ⟨x_tB⟩
theorem x_and (h : t σ H fun c H1 => IfK c (u σ H1 R) (R false H1)) : tAnd t u σ H R := h
instance o_x_and : One (tAnd t u σ H R) (t σ H fun c H1 => IfK c (u σ H1 R) (R false H1)) := ⟨x_and⟩
theorem x_or (h : t σ H fun c H1 => IfK c (R true H1) (u σ H1 R)) : tOr t u σ H R := h
instance o_x_or : One (tOr t u σ H R) (t σ H fun c H1 => IfK c (R true H1) (u σ H1 R)) := ⟨x_or⟩
theorem x_not (h : t σ H fun c H1 => R (!c) H1) : tNot t σ H R := h
instance o_x_not : One (tNot t σ H R) (t σ H fun c H1 => R (!c) H1) := ⟨x_not⟩
theorem x_andV (h : ta σ H fun x H1 => BlK x fun c => IfK c (tb σ H1 Q) (Q (.bl false) H1)) : tAndV ta tb σ H Q := h
instance o_x_andV : One (tAndV ta tb σ H Q) (ta σ H fun x H1 => BlK x fun c => IfK c (tb σ H1 Q) (Q (.bl false) H1)) := ⟨x_andV⟩
theorem x_orV (h : ta σ H fun x H1 => BlK x fun c => IfK c (Q (.bl true) H1) (tb σ H1 Q)) : tOrV ta tb σ H Q := h
instance o_x_orV : One (tOrV ta tb σ H Q) (ta σ H fun x H1 => BlK x fun c => IfK c (Q (.bl true) H1) (tb σ H1 Q)) := ⟨x_orV⟩
theorem x_notV (h : ta σ H fun x H1 => BlK x fun c => Q (.bl (!c)) H1) : tNotV ta σ H Q := h
instance o_x_notV : One (tNotV ta σ H Q) (ta σ H fun x H1 => BlK x fun c => Q (.bl (!c)) H1) := ⟨x_notV⟩
theorem x_ifE (h : t σ H fun c H1 => IfK c (ta σ H1 Q) (tb σ H1 Q)) : tIf t ta tb σ H Q := h
instance o_x_ifE : One (tIf t ta tb σ H Q) (t σ H fun c H1 => IfK c (ta σ H1 Q) (tb σ H1 Q)) := ⟨x_ifE⟩
theorem x_isN (h : ta σ H fun x H1 => Q (.bl (decide (x = .non))) H1) : tIsN ta σ H Q := h
instance o_x_isN : One (tIsN ta σ H Q) (ta σ H fun x H1 => Q (.bl (decide (x = .non))) H1) := ⟨x_isN⟩
theorem x_notN (h : ta σ H fun x H1 => Q (.bl (!decide (x = .non))) H1) : tNotN ta σ H Q := h
instance o_x_notN : One (tNotN ta σ H Q) (ta σ H fun x H1 => Q (.bl (!decide (x = .non))) H1) := ⟨x_notN⟩
def ChK (z : V) (A B : Prop) : Prop := ∃ k, z = .bl k ∧ (if k = true then A else B)
theorem chk {k : Bool} {A B : Prop} (h : IfK k A B) : ChK (.bl k) A B := ⟨k, rfl, h⟩
instance o_chk {k : Bool} {A B : Prop} : One (ChK (.bl k) A B) (IfK k A B) := ⟨chk⟩
theorem x_chain {r r' : R2} (h : ta σ H fun x H1 => tb σ H1 fun y H2 => r x y H2 fun z H3 => ChK z (tc σ H3 fun w' H4 => r' y w' H4 Q) (Q (.bl false) H3)) : tChain r r' ta tb tc σ H Q := h
instance o_x_chain {r r' : R2} : One (tChain r r' ta tb tc σ H Q) (ta σ H fun x H1 => tb σ H1 fun y H2 => r x y H2 fun z H3 => ChK z (tc σ H3 fun w' H4 => r' y w' H4 Q) (Q (.bl false) H3)) := ⟨x_chain⟩
theorem divW {i j : Int} (h : 0 < j) (h2 : j < 2 ^ 62) : CDivW i j := wide_div (b := 62) h (by omega) (by decide) (by decide)
def IxLK (K : PySem.W.Frag) (x y : V) (Q : VK) (H : Hp) : Prop := rIxL K x y H Q
theorem r_ixL {p : Addr} {xs : List V} {i : Int} (h : SqL K H p xs) (ha : atI xs i = some v) (q : Q v H) : rIxL K (.ref p) (.int i) H Q := ⟨p, xs, i, v, rfl, rfl, h, ha, q⟩
theorem r_ixT {p : Addr} {xs : List V} {i : Int} (h : SqT K H p xs) (ha : atI xs i = some v) (q : Q v H) : rIxT K (.ref p) (.int i) H Q := ⟨p, xs, i, v, rfl, rfl, h, ha, q⟩
theorem x_call {sp : Sp} {E : XK} {ta : TA} (h : ta σ H fun vs H1 => sp vs H1 Q E) : tCall sp [] E ta σ H Q := by
  have e : (fun (vs : List V) H1 => sp (vs ++ []) H1 Q E) = fun vs H1 => sp vs H1 Q E := by funext vs H1; rw [List.append_nil]
  show ta σ H fun vs H1 => sp (vs ++ []) H1 Q E
  rw [e]
  exact h
instance o_x_call {sp : Sp} {E : XK} {ta : TA} : One (tCall sp [] E ta σ H Q) (ta σ H fun vs H1 => sp vs H1 Q E) := ⟨x_call⟩
def MtK (C : Addr) (m : Str) (x : V) (H1 : Hp) (A : Prop) : Prop := ∃ a dx fs, x = .ref a ∧ H1 a = some (.ins C dx fs) ∧ fs.lookup m = none ∧ A
theorem x_meth {C : Addr} {m : Str} {sp : Sp} {E : XK} {tx : TA} (h : ta σ H fun x H1 => MtK C m x H1 (tx σ H1 fun vs H2 => sp (x :: vs) H2 Q E)) : tMeth C m sp [] E ta tx σ H Q := by
  have e : ∀ x : V, (fun (vs : List V) H2 => sp (x :: (vs ++ [])) H2 Q E) = fun vs H2 => sp (x :: vs) H2 Q E := fun x => by funext vs H2; rw [List.append_nil]
  show ta σ H fun x H1 => ∃ a dx fs, x = .ref a ∧ H1 a = some (.ins C dx fs) ∧ fs.lookup m = none ∧ tx σ H1 fun vs H2 => sp (x :: (vs ++ [])) H2 Q E
  have e2 : (fun (x : V) (H1 : Hp) => ∃ a dx fs, x = .ref a ∧ H1 a = some (.ins C dx fs) ∧ fs.lookup m = none ∧ tx σ H1 fun vs H2 => sp (x :: (vs ++ [])) H2 Q E) =
      fun x H1 => MtK C m x H1 (tx σ H1 fun vs H2 => sp (x :: vs) H2 Q E) := by
    funext x H1
    rw [e x]
    rfl
  rw [e2]
  exact h
instance o_x_meth {C : Addr} {m : Str} {sp : Sp} {E : XK} {tx : TA} : One (tMeth C m sp [] E ta tx σ H Q) (ta σ H fun x H1 => MtK C m x H1 (tx σ H1 fun vs H2 => sp (x :: vs) H2 Q E)) := ⟨x_meth⟩
theorem mtk {C a dx : Addr} {fs : List (Str × V)} {m : Str} {A : Prop} (h : H a = some (.ins C dx fs)) (hl : fs.lookup m = none) (q : A) : MtK C m (.ref a) H A := ⟨a, dx, fs, rfl, h, hl, q⟩
theorem x_nil {R : List V → Hp → Prop} (h : R [] H) : tNil σ H R := h
instance o_x_nil {R : List V → Hp → Prop} : One (tNil σ H R) (R [] H) := ⟨x_nil⟩
theorem x_cons {tr : TA} {R : List V → Hp → Prop} (h : ta σ H fun x H1 => tr σ H1 fun xs H2 => R (x :: xs) H2) : tCons ta tr σ H R := h
instance o_x_cons {tr : TA} {R : List V → Hp → Prop} : One (tCons ta tr σ H R) (ta σ H fun x H1 => tr σ H1 fun xs H2 => R (x :: xs) H2) := ⟨x_cons⟩
theorem x_cb {r : List V → Hp → VK → Prop} {tx : TA} (h : tx σ H fun vs H1 => r vs H1 Q) : tCB r tx σ H Q := h
instance o_x_cb {r : List V → Hp → VK → Prop} {tx : TA} : One (tCB r tx σ H Q) (tx σ H fun vs H1 => r vs H1 Q) := ⟨x_cb⟩
def StFK (K : PySem.W.Frag) (x : V) (f : Str) (y : V) (A : Hp → Prop) (H2 : Hp) : Prop := ∃ a C dx fs, x = .ref a ∧ H2 a = some (.ins C dx fs) ∧ Cls K C ∧ NoAttr K C f ∧ fs.length < 1000 ∧ A (upd H2 a (.ins C dx (putF f y fs)))
def FldK (K : PySem.W.Frag) (f : Str) (x : V) (Q : VK) (H1 : Hp) : Prop := ∃ a C dx fs v, x = .ref a ∧ H1 a = some (.ins C dx fs) ∧ Cls K C ∧ NoAttr K C f ∧ fs.lookup f = some v ∧ Q v H1
theorem x_fld {f : Str} (h : ta σ H fun x H1 => FldK K f x Q H1) : tFld K ta f σ H Q := h
instance o_x_fld {f : Str} : One (tFld K ta f σ H Q) (ta σ H fun x H1 => FldK K f x Q H1) := ⟨x_fld⟩
theorem fldk {f : Str} {a C dx : Addr} {fs : List (Str × V)} (ho : H a = some (.ins C dx fs)) (hc : Cls K C) (hn : NoAttr K C f) (hl : fs.lookup f = some v) (q : Q v H) : FldK K f (.ref a) Q H := ⟨a, C, dx, fs, v, rfl, ho, hc, hn, hl, q⟩
end
structure Fr (M : List Addr) (H H' : Hp) : Prop where
  at_ : ∀ a o, H a = some o → a ∉ M → H' a = some o
  tp : ∀ t xs, H t = some (.tup xs) → H' t = some (.tup xs)
  fz : ∀ t o u, H t = some (.frz o u) → H' t = some (.frz o u)
section
variable {K : PySem.W.Frag} {M M' : List Addr} {H H1 H2 : Hp} {a l p : Addr} {o : HO}
theorem Fr.refl (M : List Addr) (H : Hp) : Fr M H H := ⟨fun _ _ h _ => h, fun _ _ h => h, fun _ _ _ h => h⟩
theorem Fr.trans (x : Fr M H H1) (y : Fr M H1 H2) : Fr M H H2 := ⟨fun a o h n => y.at_ a o (x.at_ a o h n) n, fun t xs h => y.tp t xs (x.tp t xs h), fun t u w h => y.fz t u w (x.fz t u w h)⟩
theorem Fr.mono (x : Fr M H H1) (h : ∀ a ∈ M, a ∈ M') : Fr M' H H1 := ⟨fun a o e n => x.at_ a o e fun z => n (h a z), x.tp, x.fz⟩
theorem Fr.up (x : Fr [] H H1) : Fr M H H1 := x.mono fun _ z => nomatch z
theorem Fr.drop (x : Fr M H H1) (y : Fr (p :: M) H1 H2) (n : H p = none) : Fr M H H2 :=
  ⟨fun a o e m => y.at_ a o (x.at_ a o e m) fun z => by
    rcases List.mem_cons.mp z with z | z
    · rw [z, n] at e; cases e
    · exact m z, fun t xs e => y.tp t xs (x.tp t xs e), fun t u w e => y.fz t u w (x.fz t u w e)⟩
theorem Fr.drop2 {p2 : Addr} (x : Fr M H H1) (y : Fr (p :: p2 :: M) H1 H2) (n : H p = none) (n2 : H p2 = none) : Fr M H H2 :=
  ⟨fun a o e m => y.at_ a o (x.at_ a o e m) fun z => by
    rcases List.mem_cons.mp z with z | z
    · rw [z, n] at e; cases e
    · rcases List.mem_cons.mp z with z | z
      · rw [z, n2] at e; cases e
      · exact m z, fun t xs e => y.tp t xs (x.tp t xs e), fun t u w e => y.fz t u w (x.fz t u w e)⟩
theorem Fr.new (n : H p = none) : Fr [] H (upd H p o) :=
  ⟨fun a u e _ => by rw [upd_ne (ne_of_none e n)]; exact e, fun t xs e => by rw [upd_ne (ne_of_none e n)]; exact e, fun t u w e => by rw [upd_ne (ne_of_none e n)]; exact e⟩
theorem Fr.lst {xs : List V} (h : H l = some (.lst xs)) : Fr [l] H (upd H l o) :=
  ⟨fun a u e m => by rw [upd_ne fun z => m (by rw [z]; exact List.mem_singleton.mpr rfl)]; exact e, fun t ys e => by rw [upd_ne (ne_of e h (by intro z; cases z))]; exact e,
    fun t u w e => by rw [upd_ne (ne_of e h (by intro z; cases z))]; exact e⟩
theorem Fr.dct {kvs : List (Key × V)} (h : H l = some (.dK kvs)) : Fr [l] H (upd H l o) :=
  ⟨fun a u e m => by rw [upd_ne fun z => m (by rw [z]; exact List.mem_singleton.mpr rfl)]; exact e, fun t ys e => by rw [upd_ne (ne_of e h (by intro z; cases z))]; exact e,
    fun t u w e => by rw [upd_ne (ne_of e h (by intro z; cases z))]; exact e⟩
theorem Fr.ins {C dx : Addr} {fs : List (Str × V)} (h : H l = some (.ins C dx fs)) : Fr [l] H (upd H l o) :=
  ⟨fun a u e m => by rw [upd_ne fun z => m (by rw [z]; exact List.mem_singleton.mpr rfl)]; exact e, fun t ys e => by rw [upd_ne (ne_of e h (by intro z; cases z))]; exact e,
    fun t u w e => by rw [upd_ne (ne_of e h (by intro z; cases z))]; exact e⟩
theorem Fr.rd (x : Fr M H H1) {u : HO} (h : Rd H a u) (n : a ∉ M) : Rd H1 a u := by
  rcases h with h | ⟨o, h⟩
  · exact .inl (x.at_ _ _ h n)
  · exact .inr ⟨o, x.fz _ _ _ h⟩
theorem Fr.sqL (x : Fr M H H1) {xs : List V} (h : SqL K H a xs) (n : a ∉ M) : SqL K H1 a xs := by
  rcases h with h | h
  · exact .inl (x.rd h n)
  · exact .inr h
theorem Fr.sqT (x : Fr M H H1) {xs : List V} (h : SqT K H a xs) : SqT K H1 a xs := by
  rcases h with (h | ⟨o, h⟩) | h
  · exact .inl (.inl (x.tp _ _ h))
  · exact .inl (.inr ⟨o, x.fz _ _ _ h⟩)
  · exact .inr h
theorem Fr.free (x : Fr [] H H1) (h : H1 p = none) : H p = none := by
  cases e : H p with
  | none => rfl
  | some o => rw [x.at_ p o e (fun z => nomatch z)] at h; cases h
theorem sqL_of {xs : List V} (h : H a = some (.lst xs)) : SqL K H a xs := .inl (.inl h)
theorem sqT_of {xs : List V} (h : H a = some (.tup xs)) : SqT K H a xs := .inl (.inl h)
theorem small {n : Nat} (h : n ≤ 100000) : n ≤ sizeLine := Nat.le_trans h (by decide)
theorem small' {n : Nat} (h : n ≤ 100000) : n < sizeLine := Nat.lt_of_le_of_lt h (by decide)
end
section
variable {K : PySem.W.Frag} {σ : L2.St} {H : Hp} {te ta tb tl td ty : TE} {Q : VK} {x y v : V} {tz : TS} {nx bk ct : L2.St → Hp → Prop} {rt : VK}
def NewK (o : HO) (Q : VK) (H : Hp) : Prop := ∀ p, H p = none → Q (.ref p) (upd H p o)
theorem newk {o : HO} (h : ∀ (p : Addr) (H' : Hp), H p = none → H' p = some o → Fr [] H H' → Q (.ref p) H') : NewK o Q H := fun p np => h p _ np upd_same (Fr.new np)
def TupK (xs : List V) (Q : VK) (H : Hp) : Prop := xs.length ≤ sizeLine ∧ NewK (.tup xs) Q H
theorem x_tup {t : TA} (h : t σ H fun xs H1 => TupK xs Q H1) : tTup t σ H Q := h
instance o_x_tup {t : TA} : One (tTup t σ H Q) (t σ H fun xs H1 => TupK xs Q H1) := ⟨x_tup⟩
theorem tupk {xs : List V} (hl : xs.length ≤ 100000) (h : ∀ (p : Addr) (H' : Hp), H p = none → H' p = some (.tup xs) → Fr [] H H' → Q (.ref p) H') : TupK xs Q H := ⟨small hl, newk h⟩
def LstK (xs : List V) (Q : VK) (H : Hp) : Prop := xs.length ≤ sizeLine ∧ NewK (.lst xs) Q H
theorem x_lst {t : TA} (h : t σ H fun xs H1 => LstK xs Q H1) : tLst t σ H Q := h
instance o_x_lst {t : TA} : One (tLst t σ H Q) (t σ H fun xs H1 => LstK xs Q H1) := ⟨x_lst⟩
theorem lstk {xs : List V} (hl : xs.length ≤ 100000) (h : ∀ (p : Addr) (H' : Hp), H p = none → H' p = some (.lst xs) → Fr [] H H' → Q (.ref p) H') : LstK xs Q H := ⟨small hl, newk h⟩
theorem x_dnew (h : NewK (.dK []) Q H) : tDNewK σ H Q := h
instance o_x_dnew : One (tDNewK σ H Q) (NewK (.dK []) Q H) := ⟨x_dnew⟩
def ChgK (l : Addr) (o : HO) (A : Hp → Prop) (H : Hp) : Prop := A (upd H l o)
theorem chgL {l : Addr} {o : HO} {xs : List V} {A : Hp → Prop} (h : H l = some (.lst xs)) (k : ∀ H' : Hp, H' l = some o → Fr [l] H H' → A H') : A (upd H l o) := k _ upd_same (Fr.lst h)
theorem chgD {l : Addr} {o : HO} {kvs : List (Key × V)} {A : Hp → Prop} (h : H l = some (.dK kvs)) (k : ∀ H' : Hp, H' l = some o → Fr [l] H H' → A H') : A (upd H l o) := k _ upd_same (Fr.dct h)
theorem chgI {l C dx : Addr} {o : HO} {fs : List (Str × V)} {A : Hp → Prop} (h : H l = some (.ins C dx fs)) (k : ∀ H' : Hp, H' l = some o → Fr [l] H H' → A H') : A (upd H l o) := k _ upd_same (Fr.ins h)
theorem q_fld {tv : TE} {f : Str} (h : tv σ H fun y H1 => ta σ H1 fun x H2 => StFK K x f y (tz ⟨nx, rt, bk, ct⟩ σ) H2) : tSeq (sFld K ta tv f) tz ⟨nx, rt, bk, ct⟩ σ H := h
instance o_q_fld {tv : TE} {f : Str} : OneS (tSeq (sFld K ta tv f) tz ⟨nx, rt, bk, ct⟩ σ H) (tv σ H fun y H1 => ta σ H1 fun x H2 => StFK K x f y (tz ⟨nx, rt, bk, ct⟩ σ) H2) := ⟨q_fld⟩
theorem s_fld {tv : TE} {f : Str} (h : tv σ H fun y H1 => ta σ H1 fun x H2 => StFK K x f y (nx σ) H2) : sFld K ta tv f ⟨nx, rt, bk, ct⟩ σ H := h
instance o_s_fld {tv : TE} {f : Str} : OneS (sFld K ta tv f ⟨nx, rt, bk, ct⟩ σ H) (tv σ H fun y H1 => ta σ H1 fun x H2 => StFK K x f y (nx σ) H2) := ⟨s_fld⟩
theorem stfk {a C dx : Addr} {f : Str} {fs : List (Str × V)} {A : Hp → Prop} (ho : H a = some (.ins C dx fs)) (hc : Cls K C) (hn : NoAttr K C f) (hl : fs.length < 1000) (k : ∀ H', H' a = some (.ins C dx (putF f y fs)) → Fr [a] H H' → A H') : StFK K (.ref a) f y A H :=
  ⟨a, C, dx, fs, rfl, ho, hc, hn, hl, chgI ho k⟩
def TyLK (K : PySem.W.Frag) (T : String) (x : V) (H : Hp) (A : Prop) : Prop := tyV K T x H ∧ A
theorem x_bm {T : String} {r : V → List V → Hp → VK → Prop} {t : TA} (h : ta σ H fun x H1 => TyLK K T x H1 (t σ H1 fun xs H2 => r x xs H2 Q)) : tBM K T r ta t σ H Q := h
instance o_x_bm {T : String} {r : V → List V → Hp → VK → Prop} {t : TA} : One (tBM K T r ta t σ H Q) (ta σ H fun x H1 => TyLK K T x H1 (t σ H1 fun xs H2 => r x xs H2 Q)) := ⟨x_bm⟩
theorem x_bm0 {T : String} {r : V → List V → Hp → VK → Prop} (h : ta σ H fun x H1 => TyLK K T x H1 (r x [] H1 Q)) : tBM0 K T r ta σ H Q := h
instance o_x_bm0 {T : String} {r : V → List V → Hp → VK → Prop} : One (tBM0 K T r ta σ H Q) (ta σ H fun x H1 => TyLK K T x H1 (r x [] H1 Q)) := ⟨x_bm0⟩
theorem tyLst {l : Addr} {xs : List V} {A : Prop} (h : H l = some (.lst xs)) (a : A) : TyLK K "list" (.ref l) H A := ⟨Or.inl ⟨rfl, xs, sqL_of h⟩, a⟩
theorem r_app {l : Addr} {xs : List V} (h : H l = some (.lst xs)) (hl : xs.length ≤ 100000) (k : ∀ H' : Hp, H' l = some (.lst (xs ++ [y])) → Fr [l] H H' → Q .non H') : rAppend (.ref l) [y] H Q :=
  ⟨l, xs, y, rfl, rfl, h, small' hl, chgL (A := fun H' => Q .non H') h k⟩
theorem r_pop0 {l : Addr} {xs : List V} {y : V} (h : H l = some (.lst xs)) (hy : xs[xs.length - 1]? = some y) (k : ∀ H' : Hp, H' l = some (.lst xs.dropLast) → Fr [l] H H' → Q y H') : rPop (.ref l) [] H Q :=
  ⟨l, xs, y, rfl, rfl, h, hy, chgL (A := fun H' => Q y H') h k⟩
theorem seqIx {n : Nat} {j : Nat} (h : j < n) : seqIndex? (j : Int) n = some j := by
  unfold seqIndex?
  simp
  omega
theorem r_popAt {l : Addr} {xs : List V} {j : Nat} {y : V} (h : H l = some (.lst xs)) (hy : xs[j]? = some y) (hj : j < 100000) (k : ∀ H' : Hp, H' l = some (.lst (xs.eraseIdx j)) → Fr [l] H H' → Q y H') : rPopAt (.ref l) [.int (j : Int)] H Q :=
  ⟨l, xs, j, j, y, rfl, rfl, h, by omega, by omega, seqIx (List.getElem?_eq_some_iff.mp hy).1, hy, chgL (A := fun H' => Q y H') h k⟩
def SetLK (o i v : V) (H : Hp) (A : Hp → Prop) : Prop := rSetL o i v H A
theorem x_gsub {t : TSet} {N : L2.St → Hp → Prop} (h : ta σ H fun o H1 => tb σ H1 fun i H2 => t o i v H2 fun H3 => N σ H3) : gSub ta tb t v σ H N := h
instance o_x_gsub {t : TSet} {N : L2.St → Hp → Prop} : One (gSub ta tb t v σ H N) (ta σ H fun o H1 => tb σ H1 fun i H2 => t o i v H2 fun H3 => N σ H3) := ⟨x_gsub⟩
theorem r_setL {l : Addr} {xs : List V} {k : Int} {j : Nat} {A : Hp → Prop} (h : H l = some (.lst xs)) (hk : k = (j : Int)) (hj : j < xs.length) (q : ∀ H' : Hp, H' l = some (.lst (xs.set j v)) → Fr [l] H H' → A H') : rSetL (.ref l) (.int k) v H A := by
  refine ⟨l, xs, k, j, rfl, rfl, h, ?_, chgL h q⟩
  subst hk
  unfold ixN
  rw [if_pos (by omega), if_pos (by omega)]
  simp
def DGetK (x y : V) (Q : VK) (H : Hp) : Prop := ∃ a v, x = .ref a ∧ DGet H a y (some v) ∧ Q v H
theorem x_dget (h : td σ H fun x H1 => ty σ H1 fun y H2 => DGetK x y Q H2) : tDGet td ty σ H Q := h
instance o_x_dget : One (tDGet td ty σ H Q) (td σ H fun x H1 => ty σ H1 fun y H2 => DGetK x y Q H2) := ⟨x_dget⟩
theorem dgetk {a : Addr} {kvs : List (Key × V)} {n : Int} (h : Rd H a (.dK kvs)) (e : valV kvs (.inl n) = some v) (q : Q v H) : DGetK (.ref a) (.int n) Q H := ⟨a, v, rfl, .inl ⟨kvs, .inl n, h, rfl, e.symm⟩, q⟩
def DInK (x y : V) (R : Option V → Prop) (H : Hp) : Prop := ∃ a o, x = .ref a ∧ DGet H a y o ∧ R o
theorem x_din (h : ty σ H fun y H1 => td σ H1 fun x H2 => DInK x y (fun o => Q (.bl o.isSome) H2) H2) : tDIn ty td σ H Q := h
instance o_x_din : One (tDIn ty td σ H Q) (ty σ H fun y H1 => td σ H1 fun x H2 => DInK x y (fun o => Q (.bl o.isSome) H2) H2) := ⟨x_din⟩
theorem x_dnin (h : ty σ H fun y H1 => td σ H1 fun x H2 => DInK x y (fun o => Q (.bl (!o.isSome)) H2) H2) : tDNotIn ty td σ H Q := h
instance o_x_dnin : One (tDNotIn ty td σ H Q) (ty σ H fun y H1 => td σ H1 fun x H2 => DInK x y (fun o => Q (.bl (!o.isSome)) H2) H2) := ⟨x_dnin⟩
theorem dink {a : Addr} {kvs : List (Key × V)} {n : Int} {R : Option V → Prop} (h : Rd H a (.dK kvs)) (q : R (valV kvs (.inl n))) : DInK (.ref a) (.int n) R H := ⟨a, _, rfl, .inl ⟨kvs, .inl n, h, rfl, rfl⟩, q⟩
def DPutK (x y v : V) (A : Hp → Prop) (H : Hp) : Prop := ∃ a H4, x = .ref a ∧ DPut H a y v H4 ∧ A H4
theorem q_dput {tv : TE} (h : tv σ H fun v H1 => td σ H1 fun x H2 => ty σ H2 fun y H3 => DPutK x y v (tz ⟨nx, rt, bk, ct⟩ σ) H3) : tSeq (sDPut td ty tv) tz ⟨nx, rt, bk, ct⟩ σ H := h
instance o_q_dput {tv : TE} : OneS (tSeq (sDPut td ty tv) tz ⟨nx, rt, bk, ct⟩ σ H) (tv σ H fun v H1 => td σ H1 fun x H2 => ty σ H2 fun y H3 => DPutK x y v (tz ⟨nx, rt, bk, ct⟩ σ) H3) := ⟨q_dput⟩
theorem s_dput {tv : TE} (h : tv σ H fun v H1 => td σ H1 fun x H2 => ty σ H2 fun y H3 => DPutK x y v (nx σ) H3) : sDPut td ty tv ⟨nx, rt, bk, ct⟩ σ H := h
instance o_s_dput {tv : TE} : OneS (sDPut td ty tv ⟨nx, rt, bk, ct⟩ σ H) (tv σ H fun v H1 => td σ H1 fun x H2 => ty σ H2 fun y H3 => DPutK x y v (nx σ) H3) := ⟨s_dput⟩
theorem dputk {a : Addr} {kvs : List (Key × V)} {n : Int} {A : Hp → Prop} (h : H a = some (.dK kvs)) (hl : kvs.length ≤ 100000) (k : ∀ H' : Hp, H' a = some (.dK (putK kvs (.inl n) v)) → Fr [a] H H' → A H') : DPutK (.ref a) (.int n) v A H :=
  ⟨a, _, rfl, .inl ⟨kvs, .inl n, h, rfl, small' hl, rfl⟩, chgD h k⟩
def DG1K (x : V) (H1 : Hp) (A : Prop) : Prop := ∃ a, x = .ref a ∧ IsD H1 a ∧ A
theorem x_dg1 (h : td σ H fun x H1 => ∃ a, x = .ref a ∧ IsD H1 a ∧ ty σ H1 fun y H2 => ∃ o, DGet H2 a y o ∧ Q (o.getD .non) H2) : tDGet1 td ty σ H Q := h
theorem dg1 {a : Addr} {kvs : List (Key × V)} {n : Int} (h : Rd H a (.dK kvs)) (hy : ∀ R : VK, R (.int n) H → ty σ H R) (q : Q ((valV kvs (.inl n)).getD .non) H) :
    ∃ a', V.ref a = .ref a' ∧ IsD H a' ∧ ty σ H fun y H2 => ∃ o, DGet H2 a' y o ∧ Q (o.getD .non) H2 := ⟨a, rfl, .inl ⟨kvs, h⟩, hy _ ⟨_, .inl ⟨kvs, .inl n, h, rfl, rfl⟩, q⟩⟩
end
structure GF (P : Program) (w : World) (K : PySem.W.Frag) (mg : Str → Option Value) (base : Heap) (x : Str) (k : Nat) (ps : List Str) (sp : Sp) : Prop where
  ex : ∃ (f : Addr) (fd : FuncData), mg x = some (.ref f) ∧ PySem.W.keepIn K (.ref f) = true ∧ Binds K fd ps [] ∧ FnOk P w K mg base CX0 k f fd ps sp
structure GM (P : Program) (w : World) (K : PySem.W.Frag) (mg : Str → Option Value) (base : Heap) (C : Addr) (m : Str) (k : Nat) (ps : List Str) (sp : Sp) : Prop where
  cl : Cls K C
  ex : ∃ (f : Addr) (fd : FuncData), Meth K C m f ∧ Binds K fd ps [] ∧ FnOk P w K mg base CX0 k f fd ps sp
section
variable {X : Cx} {k : Nat} {ps : List Str} {sp : Sp} {x m : Str} {p pos apos : Pos} {e o : Expr} {es : List Expr} {t : TA} {ta : TE} {C : Addr}
theorem c_fn (G : GF X.prog X.w X.K X.mg X.base x k ps sp) (hr : Room k X.A) (ha : PA X (e :: es) t) (hg : Gl X x := by rfl) (hdb : (x == ("__debug__" : Str)) = false := by decide)
    (he : starEach (e :: es) X.env = (false, eval e X.env) :: starEach es X.env := by rfl) (hpl : (backTo pos (starEach es X.env)).any (·.1) = false := by rfl) :
    PE X (.Call (.Name x p) (e :: es) [] pos) (tCall sp [] E0 t) := by
  obtain ⟨f, fd, hm, hk, hb, F⟩ := G.ex
  exact pe_call F hr hg hm hk hb .nil pass0 ha hdb he hpl
theorem c_mt {pl : Sem Bool} (G : GM X.prog X.w X.K X.mg X.base C m k ps sp) (hr : Room k X.A) (he : PE X o ta) (ha : PA X (e :: es) t)
    (hst : starEach (e :: es) X.env = (false, eval e X.env) :: starEach es X.env := by rfl) (hpl : (backTo pos (starEach es X.env)).any (·.1) = false := by rfl)
    (ht : eval (.Call (.Attribute o m apos) (e :: es) [] pos) X.env = (do
      let ov ← eval o X.env
      standAt apos.atName
      let (f, first) ← holding [ov] (getMethod ov m pl)
      callWith pos f first (backTo pos (starEach (e :: es) X.env)) (backToKw pos (keywordEach [] X.env))) := by rfl) :
    PE X (.Call (.Attribute o m apos) (e :: es) [] pos) (tMeth C m sp [] E0 ta t) := by
  obtain ⟨f, fd, hm, hb, F⟩ := G.ex
  exact pe_meth he G.cl hm F hr hb .nil pass0 ha hst hpl ht
theorem c_mt0 {pl : Sem Bool} (G : GM X.prog X.w X.K X.mg X.base C m k ps sp) (hr : Room k X.A) (he : PE X o ta)
    (ht : eval (.Call (.Attribute o m apos) [] [] pos) X.env = (do
      let ov ← eval o X.env
      standAt apos.atName
      let (f, first) ← holding [ov] (getMethod ov m pl)
      callWith pos f first (backTo pos (starEach [] X.env)) (backToKw pos (keywordEach [] X.env))) := by rfl) :
    PE X (.Call (.Attribute o m apos) [] [] pos) (tMeth C m sp [] E0 ta tNil) := by
  obtain ⟨f, fd, hm, hb, F⟩ := G.ex
  exact pe_meth0 he G.cl hm F hr hb .nil pass0 ht
end
end RL
namespace RL
open PySem L2
structure DOk (kvs : List (Key × V)) (m : Int → Option V) : Prop where
  nd : (kvs.map (·.1)).Nodup
  ik : ∃ ks : List Int, kvs.map (·.1) = ks.map Sum.inl
  val : ∀ n, valV kvs (.inl n) = m n
structure Asc (hs : List Int) (m : Int → Option V) : Prop where
  up : hs.Pairwise (· < ·)
  mem : ∀ n, n ∈ hs ↔ (m n).isSome = true
theorem isSome_iff_ne {α : Type} {o : Option α} : o.isSome = true ↔ o ≠ none := by cases o <;> simp
section
variable {kvs : List (Key × V)} {m : Int → Option V} {hs : List Int} {n : Int} {v : V}
theorem mem_of_valV {κ : Type} [DecidableEq κ] {kvs : List (κ × V)} {k : κ} : k ∈ kvs.map (·.1) ↔ (valV kvs k).isSome = true := by
  constructor
  · intro h
    rw [← valV_any]
    obtain ⟨p, hp, e⟩ := List.mem_map.mp h
    exact List.any_eq_true.mpr ⟨p, hp, decide_eq_true e⟩
  · intro h
    rw [← valV_any] at h
    obtain ⟨p, hp, e⟩ := List.any_eq_true.mp h
    exact List.mem_map.mpr ⟨p, hp, of_decide_eq_true e⟩
theorem DOk.nil : DOk [] (fun _ => none) := ⟨List.nodup_nil, ⟨[], rfl⟩, fun _ => rfl⟩
theorem DOk.mem (d : DOk kvs m) : Sum.inl n ∈ kvs.map (·.1) ↔ (m n).isSome = true := by rw [mem_of_valV, d.val]
theorem nodup_map_inl {ks : List Int} : (ks.map (Sum.inl : Int → Key)).Nodup ↔ ks.Nodup := by
  induction ks with
  | nil => simp
  | cons a r ih => simp only [List.map_cons, List.nodup_cons, ih, List.mem_map]; simp
theorem putK_old {κ : Type} [DecidableEq κ] {kvs : List (κ × V)} {k : κ} {v : V} (h : (valV kvs k).isSome = true) : (putK kvs k v).map (·.1) = kvs.map (·.1) := by
  unfold putK
  rw [valV_any] 
  rw [if_pos h, List.map_map]
  apply List.map_congr_left
  intro p _
  show (if p.1 = k then (p.1, v) else p).1 = p.1
  split <;> rfl
theorem DOk.put (d : DOk kvs m) : DOk (putK kvs (.inl n) v) (fun i => if i = n then some v else m i) := by
  obtain ⟨ks, hk⟩ := d.ik
  cases e : valV kvs (.inl n) with
  | some w =>
    have ek := putK_old (kvs := kvs) (k := Sum.inl n) (v := v) (by rw [e]; rfl)
    refine ⟨by rw [ek]; exact d.nd, ⟨ks, by rw [ek]; exact hk⟩, fun i => ?_⟩
    rw [valV_put, d.val]
    by_cases h : i = n
    · subst h; simp
    · rw [if_neg h, if_neg (fun z => h (Sum.inl.inj z))]
  | none =>
    refine ⟨nd_putK v d.nd e, ⟨ks ++ [n], by rw [putK_new v e, List.map_append, List.map_append, hk]; rfl⟩, fun i => ?_⟩
    rw [valV_put, d.val]
    by_cases h : i = n
    · subst h; simp
    · rw [if_neg h, if_neg (fun z => h (Sum.inl.inj z))]
theorem DOk.cong {m' : Int → Option V} (d : DOk kvs m) (h : ∀ n, m n = m' n) : DOk kvs m' := ⟨d.nd, d.ik, fun n => (d.val n).trans (h n)⟩
theorem putK_len1 (kvs : List (Key × V)) (k : Key) (v : V) : (putK kvs k v).length ≤ kvs.length + 1 := by
  cases e : valV kvs k with
  | some w =>
    have h := congrArg List.length (putK_old (kvs := kvs) (k := k) (v := v) (by rw [e]; rfl))
    rw [List.length_map, List.length_map] at h
    omega
  | none => rw [putK_new v e, List.length_append]; exact Nat.le_refl _
theorem Asc.nodup (a : Asc hs m) : hs.Nodup := a.up.imp fun h => Int.ne_of_lt h
theorem perm_of_nodup {α : Type} [DecidableEq α] : ∀ {l₁ l₂ : List α}, l₁.Nodup → l₂.Nodup → (∀ x, x ∈ l₁ ↔ x ∈ l₂) → l₁.Perm l₂
  | [], l₂, _, _, h => by
    cases l₂ with
    | nil => exact .nil
    | cons b r => exact absurd ((h b).mpr (List.mem_cons_self)) (by simp)
  | a :: r, l₂, n1, n2, h => by
    have ha : a ∈ l₂ := (h a).mp List.mem_cons_self
    have p := List.perm_cons_erase ha
    refine (List.Perm.cons a (perm_of_nodup (List.nodup_cons.mp n1).2 (n2.erase a) fun x => ?_)).trans p.symm
    rw [n2.mem_erase_iff]
    constructor
    · intro hx
      exact ⟨fun e => (List.nodup_cons.mp n1).1 (e ▸ hx), (h x).mp (List.mem_cons_of_mem _ hx)⟩
    · rintro ⟨hne, hx⟩
      rcases List.mem_cons.mp ((h x).mpr hx) with e | e
      · exact absurd e hne
      · exact e
theorem up_unique : ∀ {l₁ l₂ : List Int}, l₁.Pairwise (· < ·) → l₂.Pairwise (· < ·) → (∀ x, x ∈ l₁ ↔ x ∈ l₂) → l₁ = l₂
  | [], [], _, _, _ => rfl
  | [], b :: r, _, _, h => absurd ((h b).mpr List.mem_cons_self) (by simp)
  | a :: r, [], _, _, h => absurd ((h a).mp List.mem_cons_self) (by simp)
  | a :: r, b :: s, p1, p2, h => by
    obtain ⟨h1, p1⟩ := List.pairwise_cons.mp p1
    obtain ⟨h2, p2'⟩ := List.pairwise_cons.mp p2
    have e : a = b := by
      have x1 : a ∈ b :: s := (h a).mp List.mem_cons_self
      have x2 : b ∈ a :: r := (h b).mpr List.mem_cons_self
      rcases List.mem_cons.mp x1 with e | e
      · exact e
      · rcases List.mem_cons.mp x2 with e' | e'
        · exact e'.symm
        · have := h2 a e; have := h1 b e'; omega
    subst e
    congr 1
    refine up_unique p1 p2' fun x => ?_
    constructor
    · intro hx
      rcases List.mem_cons.mp ((h x).mp (List.mem_cons_of_mem _ hx)) with e | e
      · have := h1 x hx; omega
      · exact e
    · intro hx
      rcases List.mem_cons.mp ((h x).mpr (List.mem_cons_of_mem _ hx)) with e | e
      · have := h2 x hx; omega
      · exact e
theorem Asc.uniq {hs' : List Int} (a : Asc hs m) (b : Asc hs' m) : hs = hs' := up_unique a.up b.up fun x => (a.mem x).trans (b.mem x).symm
theorem DOk.len (d : DOk kvs m) (a : Asc hs m) : kvs.length = hs.length := by
  obtain ⟨ks, hk⟩ := d.ik
  have n1 : ks.Nodup := nodup_map_inl.mp (by rw [← hk]; exact d.nd)
  have e1 : kvs.length = ks.length := by have := congrArg List.length hk; simpa using this
  rw [e1]
  refine (perm_of_nodup n1 a.nodup fun x => ?_).length_eq
  rw [a.mem, ← d.mem, hk]
  simp
theorem DOk.lenN (d : DOk kvs m) (nd : hs.Nodup) (hm : ∀ n, n ∈ hs ↔ (m n).isSome = true) : kvs.length = hs.length := by
  obtain ⟨ks, hk⟩ := d.ik
  have n1 : ks.Nodup := nodup_map_inl.mp (by rw [← hk]; exact d.nd)
  have e1 : kvs.length = ks.length := by have := congrArg List.length hk; simpa using this
  rw [e1]
  refine (perm_of_nodup n1 nd fun x => ?_).length_eq
  rw [hm, ← d.mem, hk]
  simp
theorem up_of_sorted : ∀ {l : List Int}, l.Pairwise (· ≤ ·) → l.Nodup → l.Pairwise (· < ·)
  | [], _, _ => .nil
  | a :: r, h, n => by
    obtain ⟨h1, h2⟩ := List.pairwise_cons.mp h
    obtain ⟨n1, n2⟩ := List.nodup_cons.mp n
    refine List.pairwise_cons.mpr ⟨fun x hx => ?_, up_of_sorted h2 n2⟩
    have := h1 x hx
    have : a ≠ x := fun e => n1 (e ▸ hx)
    omega
end
section
variable {X : Cx} {K : PySem.W.Frag} {H : Hp} {Q : VK} {i j : Int} {a p : Addr} {xs : List V} {σ : L2.St} {ta : TE}
def rInt1 : List V → Hp → VK → Prop := fun xs H Q => (∃ i, xs = [.int i] ∧ Q (.int i) H) ∨ ∃ k, xs = [.bl k] ∧ Q (.int (if k then 1 else 0)) H
theorem cb_int : CallR X (.type "int") rInt1 := call_int1
theorem r_int (q : Q (.int i) H) : rInt1 [.int i] H Q := .inl ⟨i, rfl, q⟩
instance o_r_int : One (rInt1 [.int i] H Q) (Q (.int i) H) := ⟨r_int⟩
def rAbs : List V → Hp → VK → Prop := fun xs H Q => ∃ i, xs = [.int i] ∧ Q (.int (if i < 0 then -i else i)) H
theorem cb_abs : CallR X (.builtin "abs") rAbs := call_abs
theorem r_abs (q : Q (.int (if i < 0 then -i else i)) H) : rAbs [.int i] H Q := ⟨i, rfl, q⟩
instance o_r_abs : One (rAbs [.int i] H Q) (Q (.int (if i < 0 then -i else i)) H) := ⟨r_abs⟩
def rMax2 : List V → Hp → VK → Prop := fun xs H Q => ∃ i j, xs = [.int i, .int j] ∧ Q (.int (if j > i then j else i)) H
theorem cb_max2 (hc : X.calm = true) : CallR X (.builtin "max") rMax2 := call_max2 hc
theorem r_max2 (q : Q (.int (if j > i then j else i)) H) : rMax2 [.int i, .int j] H Q := ⟨i, j, rfl, q⟩
instance o_r_max2 : One (rMax2 [.int i, .int j] H Q) (Q (.int (if j > i then j else i)) H) := ⟨r_max2⟩
def rMin2 : List V → Hp → VK → Prop := fun xs H Q => ∃ i j, xs = [.int i, .int j] ∧ Q (.int (if j < i then j else i)) H
theorem cb_min2 (hc : X.calm = true) : CallR X (.builtin "min") rMin2 := call_min2 hc
theorem r_min2 (q : Q (.int (if j < i then j else i)) H) : rMin2 [.int i, .int j] H Q := ⟨i, j, rfl, q⟩
instance o_r_min2 : One (rMin2 [.int i, .int j] H Q) (Q (.int (if j < i then j else i)) H) := ⟨r_min2⟩
def rLenS (K : PySem.W.Frag) : List V → Hp → VK → Prop := fun xs H Q => ∃ p ys, xs = [.ref p] ∧ (SqL K H p ys ∨ SqT K H p ys) ∧ Q (.int ys.length) H
theorem cb_lenS : CallR X (.builtin "len") (rLenS X.K) := call_len_seq
theorem r_lenL (h : SqL K H p xs) (q : Q (.int xs.length) H) : rLenS K [.ref p] H Q := ⟨p, xs, rfl, .inl h, q⟩
theorem r_lenT (h : SqT K H p xs) (q : Q (.int xs.length) H) : rLenS K [.ref p] H Q := ⟨p, xs, rfl, .inr h, q⟩
def rLenD : List V → Hp → VK → Prop := fun xs H Q => ∃ a kvs, xs = [V.ref a] ∧ Rd H a (.dK kvs) ∧ Q (.int kvs.length) H
theorem cb_lenD : CallR X (.builtin "len") rLenD := by
  intro pins s σ H xs us Q I r h
  obtain ⟨a, kvs, rfl, ha, q⟩ := h
  obtain ⟨u, rfl, ru⟩ := vals1 r
  cases ru
  exact d_len I ha fun t s' I' => ⟨.int kvs.length, H, I', ⟨t, rfl⟩, q⟩
theorem r_lenD {kvs : List (Key × V)} (h : Rd H a (.dK kvs)) (q : Q (.int kvs.length) H) : rLenD [.ref a] H Q := ⟨a, kvs, rfl, h, q⟩
def rListOf (K : PySem.W.Frag) : List V → Hp → VK → Prop := fun xs H Q => ∃ p ys, xs = [.ref p] ∧ (SqL K H p ys ∨ SqT K H p ys) ∧ NewK (.lst ys) Q H
theorem cb_listOf : CallR X (.type "list") (rListOf X.K) := call_list_of
theorem r_listL (h : SqL K H p xs) (q : ∀ (l : Addr) (H' : Hp), H l = none → H' l = some (.lst xs) → Fr [] H H' → Q (.ref l) H') : rListOf K [.ref p] H Q := ⟨p, xs, rfl, .inl h, newk q⟩
theorem r_listT (h : SqT K H p xs) (q : ∀ (l : Addr) (H' : Hp), H l = none → H' l = some (.lst xs) → Fr [] H H' → Q (.ref l) H') : rListOf K [.ref p] H Q := ⟨p, xs, rfl, .inr h, newk q⟩
def rTupOf (K : PySem.W.Frag) : List V → Hp → VK → Prop := fun xs H Q => ∃ p ys, xs = [.ref p] ∧ ((SqL K H p ys ∧ ∀ l, H l = none → Q (.ref l) (upd H l (.tup ys))) ∨ (SqT K H p ys ∧ Q (.ref p) H))
theorem cb_tupOf : CallR X (.type "tuple") (rTupOf X.K) := call_tuple_of
theorem r_tupL (h : SqL K H p xs) (q : ∀ (l : Addr) (H' : Hp), H l = none → H' l = some (.tup xs) → Fr [] H H' → Q (.ref l) H') : rTupOf K [.ref p] H Q := ⟨p, xs, rfl, .inl ⟨h, newk q⟩⟩
def rDictD : List V → Hp → VK → Prop := fun xs H Q => ∃ (a : Addr) (kvs : List (Key × V)), xs = [.ref a] ∧ Rd H a (.dK kvs) ∧ NewK (.dK kvs) Q H
theorem cb_dictD : CallR X (.type "dict") rDictD := call_dictD
theorem r_dictD {kvs : List (Key × V)} (h : Rd H a (.dK kvs)) (q : ∀ (l : Addr) (H' : Hp), H l = none → H' l = some (.dK kvs) → Fr [] H H' → Q (.ref l) H') : rDictD [.ref a] H Q := ⟨a, kvs, rfl, h, newk q⟩
def rListD : List V → Hp → VK → Prop := fun xs H Q => ∃ (a : Addr) (kvs : List (Key × V)), xs = [.ref a] ∧ Rd H a (.dK kvs) ∧ NewK (.lst (kvs.map fun kv => kV kv.1)) Q H
theorem cb_listD (hc : X.calm = true) : CallR X (.type "list") rListD := call_listD hc
def rSortD : List V → Hp → VK → Prop := fun xs H Q => ∃ (a : Addr) (kvs : List (Key × V)) (ks : List Int), xs = [.ref a] ∧ Rd H a (.dK kvs) ∧ kvs.map (·.1) = ks.map Sum.inl ∧ ks.length < 64 ∧
    ∀ (ys : List Int) (p : Addr), ys.Perm ks → ys.Pairwise (· ≤ ·) → H p = none → Q (.ref p) (upd H p (.lst (ys.map V.int)))
theorem cb_sortD (hc : X.calm = true) : CallR X (.builtin "sorted") rSortD := call_sortedDI hc
theorem r_sortD {kvs : List (Key × V)} {m : Int → Option V} {hs : List Int} (h : Rd H a (.dK kvs)) (d : DOk kvs m) (as : Asc hs m) (hl : hs.length < 64)
    (q : ∀ (l : Addr) (H' : Hp), H l = none → H' l = some (.lst (hs.map V.int)) → Fr [] H H' → Q (.ref l) H') : rSortD [.ref a] H Q := by
  obtain ⟨ks, hk⟩ := d.ik
  have n1 : ks.Nodup := nodup_map_inl.mp (by rw [← hk]; exact d.nd)
  have e1 : kvs.length = ks.length := by have := congrArg List.length hk; simpa using this
  have e2 := d.len as
  refine ⟨a, kvs, ks, rfl, h, hk, by omega, fun ys p hp hy np => ?_⟩
  have e : ys = hs := by
    refine up_unique (up_of_sorted hy (hp.nodup_iff.mpr n1)) as.up fun x => ?_
    rw [hp.mem_iff, as.mem, ← d.mem, hk]
    simp
  subst e
  exact q p _ np upd_same (Fr.new np)
def rSortI (K : PySem.W.Frag) : List V → Hp → VK → Prop := rSortedI K
theorem cb_sortI : CallR X (.builtin "sorted") (rSortI X.K) := cr_sortedI
theorem r_sortI {ns : List Int} (h : SqL K H a (ns.map V.int)) (q : ∀ (ys : List Int) (l : Addr) (H' : Hp), ys.Perm ns → ys.Pairwise (· ≤ ·) → H l = none → H' l = some (.lst (ys.map V.int)) → Fr [] H H' → Q (.ref l) H') : rSortI K [.ref a] H Q :=
  ⟨a, ns, rfl, h, fun ys p h1 h2 np => q ys p _ h1 h2 np upd_same (Fr.new np)⟩
theorem cb_sum (hc : X.calm = true) : CallR X (.builtin "sum") (rSum X.K) := cr_sum hc
theorem r_sum {ns : List Int} (h : SqL K H a (ns.map V.int)) (q : Q (.int ns.sum) H) : rSum K [.ref a] H Q := ⟨a, ns, rfl, h, q⟩
theorem r_min {ns : List Int} (h : SqL K H a (ns.map V.int)) (h0 : 0 < ns.length) (q : ∀ m, m ∈ ns → (∀ y, y ∈ ns → m ≤ y) → Q (.int m) H) : rMin K [.ref a] H Q := ⟨a, ns, rfl, h, h0, q⟩
theorem r_max {ns : List Int} (h : SqL K H a (ns.map V.int)) (h0 : 0 < ns.length) (q : ∀ m, m ∈ ns → (∀ y, y ∈ ns → y ≤ m) → Q (.int m) H) : rMax K [.ref a] H Q := ⟨a, ns, rfl, h, h0, q⟩
def rIns : V → List V → Hp → VK → Prop := fun x vs H Q => ∃ (l : Addr) (xs : List V) (i : Int) (y : V), x = .ref l ∧ vs = [.int i, y] ∧ H l = some (.lst xs) ∧ xs.length < sizeLine ∧ 0 ≤ i ∧ i < 2 ^ 63 ∧ Q .non (upd H l (.lst (xs.take i.toNat ++ [y] ++ xs.drop i.toNat)))
def rIsBl : R2 := fun x y H Q => ∃ b, y = .bl b ∧ Q (.bl (decide (x = .bl b))) H
theorem op_isB : OpR X (compareOp .Is) rIsBl := by
  intro pins s σ H x y v u Q I rx ry h
  obtain ⟨b, rfl, q⟩ := h
  cases (show u = Value.bool b from ry)
  by_cases e : x = .bl b
  · subst e
    cases (show v = Value.bool b from rx)
    exact wpAny_is_self rfl ⟨.bl true, H, I, rfl, by simpa using q⟩
  · refine wpAny_is_other ?_ ?_ ⟨.bl false, H, I, rfl, by simpa [e] using q⟩
    · cases x <;> (try (obtain ⟨t, rfl⟩ := (show ∃ t, v = _ from rx); rfl)) <;> (cases (show v = _ from rx); rfl)
    · intro z
      subst z
      cases x with
      | bl b' => cases (show Value.bool b = Value.bool b' from rx); exact e rfl
      | non => exact absurd (show Value.bool b = Value.none from rx) (by simp)
      | int i => obtain ⟨t, h⟩ := (show ∃ t, Value.bool b = Value.int i t from rx); cases h
      | str i => obtain ⟨t, h⟩ := (show ∃ t, Value.bool b = Value.str i t from rx); cases h
      | byt i => obtain ⟨t, h⟩ := (show ∃ t, Value.bool b = Value.bytes i t from rx); cases h
      | flt i => obtain ⟨t, h⟩ := (show ∃ t, Value.bool b = Value.float i t from rx); cases h
      | ref i => exact absurd (show Value.bool b = Value.ref i from rx) (by simp)
      | ty i => exact absurd (show Value.bool b = Value.type i from rx) (by simp)
theorem r_isB {x : V} {b : Bool} (q : Q (.bl (decide (x = .bl b))) H) : rIsBl x (.bl b) H Q := ⟨b, rfl, q⟩
instance o_r_isB {x : V} {b : Bool} : One (rIsBl x (.bl b) H Q) (Q (.bl (decide (x = .bl b))) H) := ⟨r_isB⟩
def rIsNn : R2 := fun x y H Q => y = .non ∧ Q (.bl (decide (x = .non))) H
theorem op_isNn : OpR X (compareOp .Is) rIsNn := op_isN
theorem r_isN {x : V} (q : Q (.bl (decide (x = .non))) H) : rIsNn x .non H Q := ⟨rfl, q⟩
instance o_r_isN {x : V} : One (rIsNn x .non H Q) (Q (.bl (decide (x = .non))) H) := ⟨r_isN⟩
def rNotNn : R2 := fun x y H Q => y = .non ∧ Q (.bl (!decide (x = .non))) H
theorem op_notNn : OpR X (compareOp .IsNot) rNotNn := op_notN
theorem r_notN {x : V} (q : Q (.bl (!decide (x = .non))) H) : rNotNn x .non H Q := ⟨rfl, q⟩
instance o_r_notN {x : V} : One (rNotNn x .non H Q) (Q (.bl (!decide (x = .non))) H) := ⟨r_notN⟩
theorem b_len : bootBuiltins "len" = some (.builtin "len") := PySem.boot_len
theorem b_abs : bootBuiltins "abs" = some (.builtin "abs") := by decide +kernel
theorem b_max : bootBuiltins "max" = some (.builtin "max") := by decide +kernel
theorem b_min : bootBuiltins "min" = some (.builtin "min") := by decide +kernel
theorem b_sum : bootBuiltins "sum" = some (.builtin "sum") := by decide +kernel
theorem b_sorted : bootBuiltins "sorted" = some (.builtin "sorted") := by decide +kernel
theorem b_isinstance : bootBuiltins "isinstance" = some (.builtin "isinstance") := by decide +kernel
theorem b_int : bootBuiltins "int" = some (.type "int") := by decide +kernel
theorem b_bool : bootBuiltins "bool" = some (.type "bool") := by decide +kernel
theorem b_str : bootBuiltins "str" = some (.type "str") := by decide +kernel
theorem b_list : bootBuiltins "list" = some (.type "list") := by decide +kernel
theorem b_tuple : bootBuiltins "tuple" = some (.type "tuple") := by decide +kernel
theorem b_dict : bootBuiltins "dict" = some (.type "dict") := by decide +kernel
theorem pe_ty {x : Str} {n : String} {pos : Pos} (hm : X.mg x = none) (hv : bootBuiltins x = some (.type n)) (hg : Gl X x := by rfl) (hn : x ≠ "__name__" := by decide) (hd : (x == ("__debug__" : Str)) = false := by decide) : PE X (.Name x pos) (tC (.ty n)) :=
  pe_bltn hg hm hv rfl hn hd
theorem r_isi {x : V} {n t : String} {b : Bool} (ty : TyX K H x (.type t)) (hk : kitB t n = some b) (q : Q (.bl b) H) : rIsi K [x, .ty n] H Q := ⟨x, .ty n, _, _, b, rfl, .ty n, ty, kit_ty hk, q⟩
end
end RL
namespace RL
open PySem L2
section
variable {X : Cx} {tg : Expr}
def iSeq (K : PySem.W.Frag) (tl : TE) : TI := fun σ H R => tl σ H fun x H1 => ∃ a, x = .ref a ∧ (((∃ xs, SqL K H1 a xs) ∧ R (Itl K a) H1) ∨ ((∃ xs, SqT K H1 a xs) ∧ R (Itt K a) H1))
theorem pi_seq {l : Expr} {tl : TE} (hl : PE X l tl) : PI X tg l (iSeq X.K tl) := by
  refine ⟨fun pins s σ H R I h => ?_⟩
  refine thn (hl.run pins s σ H _ I h) fun v s1 ⟨x, H1, I1, r1, q1⟩ => ?_
  obtain ⟨a, e, q1⟩ := q1
  subst e
  cases r1
  rcases q1 with ⟨⟨xs, hq⟩, q⟩ | ⟨⟨xs, hq⟩, q⟩
  · obtain ⟨its, rv, p, hz⟩ := I1.list hq
    refine wpAny_pyIter_list p.isList ?_
    refine ⟨s1.heap.objs.size, [s1.heap.objs.size], _, _, H1, rfl, I1.kept (t' := s1.toks) fun b o e => Heap.get?_push_of_some _ e, turn_list a _, ⟨_, Heap.get?_push_size _ rfl, rfl, rfl⟩, fun b hb => ?_, q⟩
    have e : b = s1.heap.objs.size := by simpa using hb
    subst e
    exact I1.fpOk (Nat.le_refl _) (I1.hok.fresh (Nat.le_refl _))
  · obtain ⟨its, rv, p, hz⟩ := I1.tuple hq
    refine wpAny_pyIter_tuple (show s1.heap.IsTuple a its.toArray from p) ?_
    refine ⟨s1.heap.objs.size, [s1.heap.objs.size], _, _, H1, rfl, I1.kept (t' := s1.toks) fun b o e => Heap.get?_push_of_some _ e, turn_tuple a _, ⟨_, Heap.get?_push_size _ rfl, rfl, rfl⟩, fun b hb => ?_, q⟩
    have e : b = s1.heap.objs.size := by simpa using hb
    subst e
    exact I1.fpOk (Nat.le_refl _) (I1.hok.fresh (Nat.le_refl _))
variable {K : PySem.W.Frag} {σ : L2.St} {H : Hp} {tl : TE}
def ItSK (K : PySem.W.Frag) (x : V) (R : It → Hp → Prop) (H1 : Hp) : Prop := ∃ a, x = .ref a ∧ (((∃ xs, SqL K H1 a xs) ∧ R (Itl K a) H1) ∨ ((∃ xs, SqT K H1 a xs) ∧ R (Itt K a) H1))
theorem x_iSeq {R : It → Hp → Prop} (h : tl σ H fun x H1 => ItSK K x R H1) : iSeq K tl σ H R := h
instance o_x_iSeq {R : It → Hp → Prop} : One (iSeq K tl σ H R) (tl σ H fun x H1 => ItSK K x R H1) := ⟨x_iSeq⟩
def Sq (K : PySem.W.Frag) (H : Hp) (a : Addr) (xs : List V) : Prop := SqL K H a xs ∨ SqT K H a xs
end
inductive LT where
  | tell (r s : Int) | ask (r s : Int) | ans (r s n : Int)
  deriving DecidableEq
def LT.vs : LT → List V
  | .tell r s => [.str "tell", .int r, .int s]
  | .ask r s => [.str "ask", .int r, .int s]
  | .ans r s n => [.str "answer", .int r, .int s, .int n]
def LT.pl : LT → List Int
  | .tell r s => [r, s]
  | .ask r s => [r, s]
  | .ans r s n => [r, s, n]
structure LetsIs (H : Hp) (ls : List LT) (lv : List V) : Prop where
  len : lv.length = ls.length
  at_ : ∀ (i : Nat) (l : LT), ls[i]? = some l → ∃ t, lv[i]? = some (.ref t) ∧ H t = some (.tup l.vs)
section
variable {H H' : Hp} {M : List Addr} {ls : List LT} {lv : List V} {l : LT} {t : Addr} {i : Nat}
theorem LetsIs.nil : LetsIs H [] [] := ⟨rfl, fun i l h => by simp at h⟩
theorem LetsIs.fr (x : LetsIs H ls lv) (f : Fr M H H') : LetsIs H' ls lv := ⟨x.len, fun i l h => let ⟨t, a, b⟩ := x.at_ i l h; ⟨t, a, f.tp _ _ b⟩⟩
theorem LetsIs.snoc (x : LetsIs H ls lv) (h : H t = some (.tup l.vs)) : LetsIs H (ls ++ [l]) (lv ++ [.ref t]) := by
  refine ⟨by rw [List.length_append, List.length_append, x.len]; rfl, fun i m e => ?_⟩
  by_cases hi : i < ls.length
  · rw [List.getElem?_append_left hi] at e
    obtain ⟨u, a, b⟩ := x.at_ i m e
    exact ⟨u, by rw [List.getElem?_append_left (by rw [x.len]; exact hi)]; exact a, b⟩
  · rw [List.getElem?_append_right (by omega)] at e
    have h0 : i - ls.length = 0 := by
      cases hk : i - ls.length with
      | zero => rfl
      | succ k => rw [hk] at e; simp at e
    rw [h0] at e
    have e' : l = m := Option.some.inj e
    subst e'
    exact ⟨t, by rw [List.getElem?_append_right (by rw [x.len]; omega), x.len, h0]; rfl, h⟩
theorem LetsIs.erase (x : LetsIs H ls lv) (k : Nat) : LetsIs H (ls.eraseIdx k) (lv.eraseIdx k) := by
  refine ⟨by rw [List.length_eraseIdx, List.length_eraseIdx, x.len], fun i m e => ?_⟩
  rw [List.getElem?_eraseIdx] at e
  by_cases h : i < k
  · rw [if_pos h] at e
    obtain ⟨u, a, b⟩ := x.at_ i m e
    exact ⟨u, by rw [List.getElem?_eraseIdx, if_pos h]; exact a, b⟩
  · rw [if_neg h] at e
    obtain ⟨u, a, b⟩ := x.at_ (i + 1) m e
    exact ⟨u, by rw [List.getElem?_eraseIdx, if_neg h]; exact a, b⟩
end
structure NS where
  size : Int
  hs : List Int
  f : Int → Int
  b : Int → Option Int
  post : List LT
def oV : Option Int → V
  | none => .non
  | some x => .int x
def NS.mf (N : NS) : Int → Option V := fun h => if h ∈ N.hs then some (.int (N.f h)) else none
def NS.mb (N : NS) : Int → Option V := fun h => if h ∈ N.hs then some (oV (N.b h)) else none
def NS.lb (N : NS) : Int → Option V := fun h => (N.b h).map V.int
structure NS.Ok (N : NS) : Prop where
  s0 : 0 < N.size
  s1 : N.size < 2 ^ 40
  up : N.hs.Pairwise (· < ·)
  on : ∀ h ∈ N.hs, 0 ≤ h ∧ h < N.size
  fh : ∀ h ∈ N.hs, N.f h ∈ N.hs
  bh : ∀ h x, N.b h = some x → h ∈ N.hs ∧ x ∈ N.hs
  ph : ∀ l ∈ N.post, ∀ x ∈ l.pl, x ∈ N.hs
  hl : N.hs.length ≤ 45
  pl : N.post.length ≤ 1000
theorem NS.Ok.ascF {N : NS} (h : N.Ok) : Asc N.hs N.mf := ⟨h.up, fun n => by unfold NS.mf; split <;> simp [*]⟩
theorem NS.Ok.ascB {N : NS} (h : N.Ok) : Asc N.hs N.mb := ⟨h.up, fun n => by unfold NS.mb; split <;> simp [*]⟩
theorem NS.mf_at {N : NS} {h : Int} (m : h ∈ N.hs) : N.mf h = some (.int (N.f h)) := if_pos m
theorem NS.mb_at {N : NS} {h : Int} (m : h ∈ N.hs) : N.mb h = some (oV (N.b h)) := if_pos m
def netF (z : Int) (da db dl : Addr) : List (Str × V) := [("size", .int z), ("_nexts", .ref da), ("_befores", .ref db), ("_letters", .ref dl)]
structure NetAt (C : Addr) (H : Hp) (p da db dl : Addr) (N : NS) : Prop where
  ob : ∃ dx, H p = some (.ins C dx (netF N.size da db dl))
  nx : ∃ kvs, H da = some (.dK kvs) ∧ DOk kvs N.mf
  bf : ∃ kvs, H db = some (.dK kvs) ∧ DOk kvs N.mb
  ls : ∃ lv, H dl = some (.lst lv) ∧ LetsIs H N.post lv
  ne : da ≠ db
structure TabAt (H : Hp) (dn dk dp : Addr) (N : NS) : Prop where
  nx : ∃ kvs, H dn = some (.dK kvs) ∧ DOk kvs N.mf
  bf : ∃ kvs, H dk = some (.dK kvs) ∧ DOk kvs N.lb
  ls : ∃ lv, H dp = some (.lst lv) ∧ LetsIs H N.post lv
  ne : dn ≠ dk
section
variable {C p da db dl dn dk dp : Addr} {H H' : Hp} {M : List Addr} {N : NS}
theorem NetAt.fr (x : NetAt C H p da db dl N) (f : Fr M H H') (h1 : p ∉ M) (h2 : da ∉ M) (h3 : db ∉ M) (h4 : dl ∉ M) : NetAt C H' p da db dl N :=
  ⟨let ⟨dx, e⟩ := x.ob; ⟨dx, f.at_ _ _ e h1⟩, let ⟨k, e, d⟩ := x.nx; ⟨k, f.at_ _ _ e h2, d⟩, let ⟨k, e, d⟩ := x.bf; ⟨k, f.at_ _ _ e h3, d⟩, let ⟨k, e, d⟩ := x.ls; ⟨k, f.at_ _ _ e h4, d.fr f⟩, x.ne⟩
theorem NetAt.ex (x : NetAt C H p da db dl N) (f : Fr [] H H') : NetAt C H' p da db dl N := x.fr f (fun z => nomatch z) (fun z => nomatch z) (fun z => nomatch z) (fun z => nomatch z)
theorem TabAt.fr (x : TabAt H dn dk dp N) (f : Fr M H H') (h1 : dn ∉ M) (h2 : dk ∉ M) (h3 : dp ∉ M) : TabAt H' dn dk dp N :=
  ⟨let ⟨k, e, d⟩ := x.nx; ⟨k, f.at_ _ _ e h1, d⟩, let ⟨k, e, d⟩ := x.bf; ⟨k, f.at_ _ _ e h2, d⟩, let ⟨k, e, d⟩ := x.ls; ⟨k, f.at_ _ _ e h3, d.fr f⟩, x.ne⟩
theorem TabAt.ex (x : TabAt H dn dk dp N) (f : Fr [] H H') : TabAt H' dn dk dp N := x.fr f (fun z => nomatch z) (fun z => nomatch z) (fun z => nomatch z)
end
structure NetT (K : PySem.W.Frag) (C : Addr) : Prop where
  cl : Cls K C
  n1 : NoAttr K C "size"
  n2 : NoAttr K C "_nexts"
  n3 : NoAttr K C "_befores"
  n4 : NoAttr K C "_letters"
theorem lk_ne {k k' : Str} {v : V} {l : List (Str × V)} (h : (k == k') = false) : ((k', v) :: l).lookup k = l.lookup k := by rw [List.lookup_cons, h]
theorem lk_eq {k : Str} {v : V} {l : List (Str × V)} : ((k, v) :: l).lookup k = some v := by rw [List.lookup_cons]; simp
theorem lk_nil {k : Str} : ([] : List (Str × V)).lookup k = none := rfl
theorem putF_ne {k k' : Str} {v w : V} {l : List (Str × V)} (h : ¬ k' = k) : putF k v ((k', w) :: l) = (k', w) :: putF k v l := by
  show (if k' = k then _ else _) = _
  rw [if_neg h]
theorem putF_eq {k : Str} {v w : V} {l : List (Str × V)} : putF k v ((k, w) :: l) = (k, v) :: l := by
  show (if k = k then _ else _) = _
  rw [if_pos rfl]
section
variable {K : PySem.W.Frag} {C p dx da db dl : Addr} {H : Hp} {z : Int} {Q : VK}
theorem netF_1 : (netF z da db dl).lookup ("size" : Str) = some (.int z) := lk_eq
theorem netF_2 : (netF z da db dl).lookup ("_nexts" : Str) = some (.ref da) := (lk_ne (by decide +kernel)).trans lk_eq
theorem netF_3 : (netF z da db dl).lookup ("_befores" : Str) = some (.ref db) := (lk_ne (by decide +kernel)).trans ((lk_ne (by decide +kernel)).trans lk_eq)
theorem netF_4 : (netF z da db dl).lookup ("_letters" : Str) = some (.ref dl) := (lk_ne (by decide +kernel)).trans ((lk_ne (by decide +kernel)).trans ((lk_ne (by decide +kernel)).trans lk_eq))
def netNo (m : Str) : Bool := !(m == "size") && !(m == "_nexts") && !(m == "_befores") && !(m == "_letters")
theorem netF_no {m : Str} (h : netNo m = true) : (netF z da db dl).lookup m = none := by
  unfold netNo at h
  simp only [Bool.and_eq_true, Bool.not_eq_true'] at h
  obtain ⟨⟨⟨h1, h2⟩, h3⟩, h4⟩ := h
  exact (lk_ne h1).trans ((lk_ne h2).trans ((lk_ne h3).trans ((lk_ne h4).trans lk_nil)))
theorem NetT.f1 (T : NetT K C) (h : H p = some (.ins C dx (netF z da db dl))) (q : Q (.int z) H) : FldK K "size" (.ref p) Q H := fldk h T.cl T.n1 netF_1 q
theorem NetT.f2 (T : NetT K C) (h : H p = some (.ins C dx (netF z da db dl))) (q : Q (.ref da) H) : FldK K "_nexts" (.ref p) Q H := fldk h T.cl T.n2 netF_2 q
theorem NetT.f3 (T : NetT K C) (h : H p = some (.ins C dx (netF z da db dl))) (q : Q (.ref db) H) : FldK K "_befores" (.ref p) Q H := fldk h T.cl T.n3 netF_3 q
theorem NetT.f4 (T : NetT K C) (h : H p = some (.ins C dx (netF z da db dl))) (q : Q (.ref dl) H) : FldK K "_letters" (.ref p) Q H := fldk h T.cl T.n4 netF_4 q
theorem net_mt {m : Str} {A : Prop} (h : H p = some (.ins C dx (netF z da db dl))) (hm : netNo m = true) (q : A) : MtK C m (.ref p) H A := mtk h (netF_no hm) q
end
inductive D where
  | non | bl (b : Bool) | int (i : Int) | str (s : Str) | tup (ds : List D) | lst (ds : List D) | dct (kvs : List (Int × Int))
mutual
def Rep (H : Hp) : D → V → Prop
  | .non, v => v = .non
  | .bl b, v => v = .bl b
  | .int i, v => v = .int i
  | .str s, v => v = .str s
  | .tup ds, v => ∃ a vs, v = .ref a ∧ H a = some (.tup vs) ∧ RepL H ds vs
  | .lst ds, v => ∃ a vs, v = .ref a ∧ H a = some (.lst vs) ∧ RepL H ds vs
  | .dct kvs, v => ∃ a, v = .ref a ∧ H a = some (.dK (kvs.map fun p => (Sum.inl p.1, V.int p.2)))
def RepL (H : Hp) : List D → List V → Prop
  | [], vs => vs = []
  | d :: ds, vs => ∃ v r, vs = v :: r ∧ Rep H d v ∧ RepL H ds r
end
mutual
def D.depth : D → Nat
  | .tup ds => depthL ds + 1
  | .lst ds => depthL ds + 1
  | .dct _ => 2 + 1
  | _ => 0
def depthL : List D → Nat
  | [] => 0
  | d :: ds => max d.depth (depthL ds)
end
mutual
theorem Rep.fr0 {H H' : Hp} (f : Fr [] H H') : ∀ (d : D) (v : V), Rep H d v → Rep H' d v
  | .non, _, h => h
  | .bl _, _, h => h
  | .int _, _, h => h
  | .str _, _, h => h
  | .tup ds, _, ⟨a, vs, e, h, r⟩ => ⟨a, vs, e, f.tp _ _ h, RepL.fr0 f ds vs r⟩
  | .lst ds, _, ⟨a, vs, e, h, r⟩ => ⟨a, vs, e, f.at_ _ _ h (fun z => nomatch z), RepL.fr0 f ds vs r⟩
  | .dct kvs, _, ⟨a, e, h⟩ => ⟨a, e, f.at_ _ _ h (fun z => nomatch z)⟩
theorem RepL.fr0 {H H' : Hp} (f : Fr [] H H') : ∀ (ds : List D) (vs : List V), RepL H ds vs → RepL H' ds vs
  | [], _, h => h
  | d :: ds, _, ⟨v, r, e, h, t⟩ => ⟨v, r, e, Rep.fr0 f d v h, RepL.fr0 f ds r t⟩
end
theorem RepL.len {H : Hp} : ∀ {ds : List D} {vs : List V}, RepL H ds vs → vs.length = ds.length
  | [], _, h => by rw [show _ = [] from h]; rfl
  | d :: ds, _, ⟨v, r, e, _, t⟩ => by rw [e, List.length_cons, List.length_cons, RepL.len t]
theorem RepL.get {H : Hp} : ∀ {ds : List D} {vs : List V} {i : Nat} {d : D}, RepL H ds vs → ds[i]? = some d → ∃ v, vs[i]? = some v ∧ Rep H d v
  | [], _, i, d, _, h => by simp at h
  | d :: ds, _, 0, d', ⟨v, r, e, h, _⟩, h' => by
    have e' : d = d' := by simpa using h'
    subst e'
    exact ⟨v, by rw [e]; rfl, h⟩
  | d :: ds, _, i + 1, d', ⟨v, r, e, _, t⟩, h' => by
    obtain ⟨w, a, b⟩ := RepL.get (i := i) (d := d') t (by simpa using h')
    exact ⟨w, by rw [e]; simpa using a, b⟩
theorem depthL_mem : ∀ {ds : List D} {d : D}, d ∈ ds → d.depth ≤ depthL ds
  | d :: ds, d', h => by
    rw [depthL]
    rcases List.mem_cons.mp h with e | e
    · subst e; exact Nat.le_max_left _ _
    · exact Nat.le_trans (depthL_mem e) (Nat.le_max_right _ _)
def LT.d : LT → D
  | .tell r s => .tup [.str "tell", .int r, .int s]
  | .ask r s => .tup [.str "ask", .int r, .int s]
  | .ans r s n => .tup [.str "answer", .int r, .int s, .int n]
theorem LT.rep {H : Hp} {l : LT} {t : Addr} (h : H t = some (.tup l.vs)) : Rep H l.d (.ref t) := by
  cases l <;> exact ⟨t, _, rfl, h, _, _, rfl, rfl, _, _, rfl, rfl, _, _, rfl, rfl, by first | exact rfl | exact ⟨_, _, rfl, rfl, rfl⟩⟩
def oD : Option Int → D
  | none => .non
  | some x => .int x
end RL
namespace RL
open PySem L2
section
variable {X : Cx} {K : PySem.W.Frag} {e o a b iter value : Expr} {es elts : List Expr} {f name m : Str} {pos apos cpos pos' p tpos : Pos} {ta tb to te tv tl : TE} {t : TA} {tg : Expr} {T id : String} {k kk : Nat}
theorem pe_fldK (hK : X.K = K) (he : PE X e ta) (hb : attributeBase e f X.env (eval e X.env) = eval e X.env) : PE X (.Attribute e f pos) (tFld K ta f) := by subst hK; exact pe_fld he hb
theorem ps_fldK (hK : X.K = K) (ha : PE X o ta) (hv : PE X value tv) (hs : swapsWith value (some (.Attribute o f pos')) pos.line X.env = pure false) : PS X (.Assign [.Attribute o f pos'] value pos) (sFld K ta tv f) := by subst hK; exact ps_fld ha hv hs
theorem ix_listK (hK : X.K = K) : IxR X (rIxL K) := by subst hK; exact ix_list
theorem ix_tupK (hK : X.K = K) : IxR X (rIxT K) := by subst hK; exact ix_tup
theorem ix_seqK (hK : X.K = K) : IxR X (rIx K) := by subst hK; exact ix_seq
theorem sl_listK (hK : X.K = K) : SlR X (rSlL K) := by subst hK; exact sl_list
theorem sl_tupK (hK : X.K = K) : SlR X (rSlT K) := by subst hK; exact sl_tup
theorem cb_lenSK (hK : X.K = K) : CallR X (.builtin "len") (rLenS K) := by subst hK; exact cb_lenS
theorem cb_listOfK (hK : X.K = K) : CallR X (.type "list") (rListOf K) := by subst hK; exact cb_listOf
theorem cb_tupOfK (hK : X.K = K) : CallR X (.type "tuple") (rTupOf K) := by subst hK; exact cb_tupOf
theorem cb_sortIK (hK : X.K = K) : CallR X (.builtin "sorted") (rSortI K) := by subst hK; exact cb_sortI
theorem cb_sumK (hK : X.K = K) (hc : X.calm = true) : CallR X (.builtin "sum") (rSum K) := by subst hK; exact cb_sum hc
theorem cb_minK (hK : X.K = K) (hc : X.calm = true) : CallR X (.builtin "min") (rMin K) := by subst hK; exact cr_min hc
theorem cb_maxK (hK : X.K = K) (hc : X.calm = true) : CallR X (.builtin "max") (rMax K) := by subst hK; exact cr_max hc
theorem cb_isiK (hK : X.K = K) : CallR X (.builtin "isinstance") (rIsi K) := by subst hK; exact call_isi
theorem pi_listK (hK : X.K = K) {l : Expr} (hl : PE X l tl) : PI X tg l (iList K tl) := by subst hK; exact pi_list hl
theorem pi_tupK (hK : X.K = K) {l : Expr} (hl : PE X l tl) : PI X tg l (iTup K tl) := by subst hK; exact pi_tup hl
theorem pi_seqK (hK : X.K = K) {l : Expr} (hl : PE X l tl) : PI X tg l (iSeq K tl) := by subst hK; exact pi_seq hl
theorem op_inK (hK : X.K = K) : OpR X (compareOp .In) (rIn K false) := by subst hK; exact op_in_seq
theorem op_ninK (hK : X.K = K) : OpR X (compareOp .NotIn) (rIn K true) := by subst hK; exact op_notIn_seq
theorem op_eqDK (hK : X.K = K) (hu : X.A.units + 64 < cLine) : OpR X (compareOp .Eq) (rEqD K) := by subst hK; exact op_eqD hu
theorem op_neDK (hK : X.K = K) (hu : X.A.units + 64 < cLine) : OpR X (compareOp .NotEq) (rNeD K) := by subst hK; exact op_neD hu
theorem op_catTK (hK : X.K = K) : OpR X (binaryOp .Add) (rCatT K) := by subst hK; exact op_catT
theorem mt_indexK (hK : X.K = K) : MtR X "list.index" (rIndex K) := by subst hK; exact mt_index
theorem pe_bmK {r : V → List V → Hp → VK → Prop} (hK : X.K = K) (pa : PlainAttrs T) (slot : Slot T name id) (hty : typeOf (.builtin id) = pure (.type "method_descriptor")) (hm : MtR X id r) (ho : PE X o to) (ha : PA X (e :: es) t)
    (hbase : attributeBase o name X.env (eval o X.env) = eval o X.env := by rfl)
    (hfew : ((backTo cpos (starEach (e :: es) X.env)).all (fun x => !x.1) && (backToKw cpos (keywordEach [] X.env)).all (fun x => x.1.isSome)
      && decide ((e :: es).length + ([] : List Keyword).length + (if ([] : List Keyword).isEmpty then 0 else 1) < 30)) = true := by rfl)
    (hline : (apos.endLine == cpos.line) = true := by rfl) (hs : starEach (e :: es) X.env = (false, eval e X.env) :: starEach es X.env := by rfl) (hplain : (backTo cpos (starEach es X.env)).any (·.1) = false := by rfl) :
    PE X (.Call (.Attribute o name apos) (e :: es) [] cpos) (tBM K T r to t) := by subst hK; exact pe_bm pa slot hty hm ho ha hbase hfew hline hs hplain
theorem pe_bm0K {r : V → List V → Hp → VK → Prop} (hK : X.K = K) (pa : PlainAttrs T) (slot : Slot T name id) (hty : typeOf (.builtin id) = pure (.type "method_descriptor")) (hm : MtR X id r) (ho : PE X o to)
    (hbase : attributeBase o name X.env (eval o X.env) = eval o X.env := by rfl) (hline : (apos.endLine == cpos.line) = true := by rfl) : PE X (.Call (.Attribute o name apos) [] [] cpos) (tBM0 K T r to) := by subst hK; exact pe_bm0 pa slot hty hm ho hbase hline
end
section
variable {K : PySem.W.Frag} {σ : L2.St} {H : Hp} {te tl tk tv : TE} {tt : TT} {Q : VK} {J : It} {g : TG} {vs : List Nat} {wi : TI} {n j : Nat} {G : Hp → Prop} {Y : Nat → Hp → V → Hp → Prop}
def LcK (J : It) (g : TG) (tt : TT) (te : TE) (vs : List Nat) (σ : L2.St) (Q : VK) (H1 : Hp) : Prop := ∀ D, H1 D = none → ∃ W : Nat → Nat → Hp → Prop, (∃ m, W 0 m (upd H1 D (.lst []))) ∧ ∀ i m H, W i m H →
  (J.stop i H ∧ Q (.ref D) H) ∨ (J.go i H ∧ ∃ Nx : Hp → Prop, (∀ H', Nx H' → ∃ m', m' < m ∧ W (i + 1) m' H') ∧ ∀ x H', J.yld i H x H' → g x (wipe σ vs) H' fun σ2 H2 => wipe σ2 vs = wipe σ vs ∧ tt σ2 H2 fun b H3 =>
    if b = true then te σ2 H3 fun y H4 => ∃ acc, H4 D = some (.lst acc) ∧ acc.length < sizeLine ∧ Nx (upd H4 D (.lst (acc ++ [y]))) else Nx H3)
theorem x_lc (h : wi σ H fun J H1 => LcK J g tt te vs σ Q H1) : tLc wi g tt te vs σ H Q := h
instance o_x_lc : One (tLc wi g tt te vs σ H Q) (wi σ H fun J H1 => LcK J g tt te vs σ Q H1) := ⟨x_lc⟩
theorem set_set (σ : L2.St) (j : Nat) (a b : Option V) : (σ.set j a).set j b = σ.set j b := List.set_set ..
theorem lcW (w : Walk J n G Y) (Pv : Nat → List V → Hp → Prop) (h0 : ∀ D H', H D = none → H' D = some (.lst []) → Fr [] H H' → Pv 0 [] H') (hG : ∀ i acc H', i ≤ n → Pv i acc H' → G H') (hn : n ≤ 100000) (hl : ∀ i acc H', Pv i acc H' → acc.length ≤ i)
    (hs : ∀ D i x acc H0 H', i < n → H D = none → H0 D = some (.lst acc) → Pv i acc H0 → Y i H0 x H' → SetK σ j x (fun σ2 H2 => ∀ (R1 : Bool → Hp → Prop) (R2 : VK),
      (∀ y H4, H4 D = some (.lst acc) → (∀ H5, H5 D = some (.lst (acc ++ [y])) → Fr [D] H4 H5 → Pv (i + 1) (acc ++ [y]) H5) → R2 y H4) → (∀ H3, te σ2 H3 R2 → R1 true H3) → (∀ H3, H3 D = some (.lst acc) → Pv (i + 1) acc H3 → R1 false H3) → tt σ2 H2 R1) H')
    (hd : ∀ p H' acc, H p = none → H' p = some (.lst acc) → Pv n acc H' → Q (.ref p) H') : LcK J (gName j) tt te [j] σ Q H := by
  intro D hD
  refine lc_it w (fun i H' => ∃ acc, H' D = some (.lst acc) ∧ Pv i acc H') ⟨[], upd_same, h0 D _ hD upd_same (Fr.new hD)⟩ (fun i H' hi ⟨acc, _, p⟩ => hG i acc H' hi p) (fun i x H0 H' hi ⟨acc, e, p⟩ y => ?_) (fun H' ⟨acc, e, p⟩ => hd D H' acc hD e p)
  have q := hs D i x acc H0 H' hi hD e p y
  have e1 : wipe σ [j] = σ.set j none := rfl
  show wipe ((wipe σ [j]).set j (some x)) [j] = wipe σ [j] ∧ tt ((wipe σ [j]).set j (some x)) H' _
  rw [e1, set_set]
  refine ⟨by show ((σ.set j (some x)).set j none) = _; rw [set_set], ?_⟩
  have hla := hl i acc H0 p
  refine q _ (fun y H4 => ∃ acc, H4 D = some (.lst acc) ∧ acc.length < sizeLine ∧ ∃ acc', (upd H4 D (.lst (acc ++ [y]))) D = some (.lst acc') ∧ Pv (i + 1) acc' (upd H4 D (.lst (acc ++ [y])))) (fun y H4 a b => ⟨acc, a, small' (by omega), _, upd_same, b _ upd_same (Fr.lst a)⟩) (fun H3 r => ?_) (fun H3 a b => ?_)
  · rw [if_pos rfl]; exact r
  · rw [if_neg Bool.false_ne_true]; exact ⟨acc, a, b⟩
theorem take_snoc {α : Type} {xs : List α} {i : Nat} {x : α} (h : xs[i]? = some x) : xs.take (i + 1) = xs.take i ++ [x] := by
  rw [List.take_succ, h]; rfl
theorem filter_snoc {α : Type} {xs : List α} {c : α → Bool} {i : Nat} {x : α} (h : xs[i]? = some x) : (xs.take (i + 1)).filter c = (xs.take i).filter c ++ if c x = true then [x] else [] := by
  rw [take_snoc h, List.filter_append]
  congr 1
  rw [List.filter_cons]; split <;> rfl
theorem lcV (w : Walk J n G Y) (xs : List V) (hn : n = xs.length) (hY : ∀ i H0 x H', i < n → Y i H0 x H' → xs[i]? = some x ∧ Fr [] H0 H') (c : V → Bool) (val : V → V) (hG : ∀ H', Fr [] H H' → G H') (hz : xs.length ≤ 100000)
    (hs : ∀ x H', x ∈ xs → Fr [] H H' → SetK σ j x (fun σ2 H2 => (∀ R : Bool → Hp → Prop, (∀ H3, Fr [] H2 H3 → R (c x) H3) → tt σ2 H2 R) ∧ (c x = true → ∀ H3, Fr [] H2 H3 → ∀ R : VK, (∀ H4, Fr [] H3 H4 → R (val x) H4) → te σ2 H3 R)) H')
    (hd : ∀ p H', H p = none → H' p = some (.lst ((xs.filter c).map val)) → Fr [] H H' → Q (.ref p) H') : LcK J (gName j) tt te [j] σ Q H := by
  subst hn
  intro D hD
  refine lc_it w (fun i H' => H' D = some (.lst (((xs.take i).filter c).map val)) ∧ Fr [] H H') ⟨by rw [upd_same]; rfl, Fr.new hD⟩ (fun i H' _ p => hG H' p.2) (fun i x H0 H' hi p y => ?_) (fun H' p => hd D H' hD (by rw [p.1, List.take_length]) p.2)
  obtain ⟨hx, hy⟩ := hY i H0 x H' hi y
  have e1 : wipe σ [j] = σ.set j none := rfl
  have f1 : Fr [] H H' := p.2.trans hy
  have d1 := hy.at_ _ _ p.1 (fun z => nomatch z)
  obtain ⟨q1, q2⟩ := hs x H' (List.mem_of_getElem? hx) f1
  show wipe ((wipe σ [j]).set j (some x)) [j] = wipe σ [j] ∧ tt ((wipe σ [j]).set j (some x)) H' _
  rw [e1, set_set]
  refine ⟨by show ((σ.set j (some x)).set j none) = _; rw [set_set], q1 _ fun H3 f3 => ?_⟩
  have d3 := f3.at_ _ _ d1 (fun z => nomatch z)
  cases hc : c x with
  | true =>
    rw [if_pos rfl]
    refine q2 hc H3 f3 _ fun H4 f4 => ⟨_, f4.at_ _ _ d3 (fun z => nomatch z), small' ?_, ?_, ?_⟩
    · rw [List.length_map]
      have := List.length_filter_le c (xs.take i)
      rw [List.length_take] at this
      omega
    · rw [upd_same, filter_snoc hx, if_pos hc, List.map_append]; rfl
    · have f := (f1.trans f3).trans f4
      exact f.drop (Fr.lst (f4.at_ _ _ d3 (fun z => nomatch z))) hD
  | false =>
    rw [if_neg Bool.false_ne_true]
    refine ⟨?_, f1.trans f3⟩
    rw [d3, filter_snoc hx, if_neg (by rw [hc]; decide), List.append_nil]
theorem lcP (w : Walk J n G Y) (xs : List V) (hn : n = xs.length) (hY : ∀ i H0 x H', i < n → Y i H0 x H' → xs[i]? = some x ∧ Fr [] H0 H') (c : V → Bool) (P : V → V → Hp → Prop) (hP : ∀ M x y H1 H2, P x y H1 → Fr M H1 H2 → P x y H2) (hG : ∀ H', Fr [] H H' → G H') (hz : xs.length ≤ 100000)
    (hs : ∀ x H', x ∈ xs → Fr [] H H' → SetK σ j x (fun σ2 H2 => (∀ R : Bool → Hp → Prop, (∀ H3, Fr [] H2 H3 → R (c x) H3) → tt σ2 H2 R) ∧ (c x = true → ∀ H3, Fr [] H2 H3 → ∀ R : VK, (∀ y H4, Fr [] H3 H4 → P x y H4 → R y H4) → te σ2 H3 R)) H')
    (hd : ∀ p H' ys, H p = none → H' p = some (.lst ys) → ys.length = (xs.filter c).length → (∀ (i : Nat) x, (xs.filter c)[i]? = some x → ∃ y, ys[i]? = some y ∧ P x y H') → Fr [] H H' → Q (.ref p) H') : LcK J (gName j) tt te [j] σ Q H := by
  subst hn
  intro D hD
  refine lc_it w (fun i H' => ∃ ys, H' D = some (.lst ys) ∧ ys.length = ((xs.take i).filter c).length ∧ (∀ (k : Nat) x, ((xs.take i).filter c)[k]? = some x → ∃ y, ys[k]? = some y ∧ P x y H') ∧ Fr [] H H') ⟨[], by rw [upd_same], rfl, fun k x h => by simp at h, Fr.new hD⟩ (fun i H' _ ⟨_, _, _, _, f⟩ => hG H' f)
    (fun i x H0 H' hi ⟨ys, e, el, ep, f⟩ y => ?_) (fun H' ⟨ys, e, el, ep, f⟩ => hd D H' ys hD e (by rw [el, List.take_length]) (by rw [List.take_length] at ep; exact ep) f)
  obtain ⟨hx, hy⟩ := hY i H0 x H' hi y
  have e1 : wipe σ [j] = σ.set j none := rfl
  have f1 : Fr [] H H' := f.trans hy
  have d1 := hy.at_ _ _ e (fun z => nomatch z)
  obtain ⟨q1, q2⟩ := hs x H' (List.mem_of_getElem? hx) f1
  show wipe ((wipe σ [j]).set j (some x)) [j] = wipe σ [j] ∧ tt ((wipe σ [j]).set j (some x)) H' _
  rw [e1, set_set]
  refine ⟨by show ((σ.set j (some x)).set j none) = _; rw [set_set], q1 _ fun H3 f3 => ?_⟩
  have d3 := f3.at_ _ _ d1 (fun z => nomatch z)
  cases hc : c x with
  | true =>
    rw [if_pos rfl]
    refine q2 hc H3 f3 _ fun y H4 f4 py => ⟨_, f4.at_ _ _ d3 (fun z => nomatch z), small' ?_, ys ++ [y], upd_same, ?_, fun k x' hk => ?_, ?_⟩
    · have := List.length_filter_le c (xs.take i)
      rw [List.length_take] at this
      omega
    · rw [List.length_append, el, filter_snoc hx, if_pos hc, List.length_append]; rfl
    · have fu : Fr [D] H4 (upd H4 D (.lst (ys ++ [y]))) := Fr.lst (f4.at_ _ _ d3 (fun z => nomatch z))
      rw [filter_snoc hx, if_pos hc] at hk
      by_cases hl : k < ((xs.take i).filter c).length
      · rw [List.getElem?_append_left hl] at hk
        obtain ⟨y', a, b⟩ := ep k x' hk
        exact ⟨y', by rw [List.getElem?_append_left (by omega)]; exact a, hP _ _ _ _ _ (hP _ _ _ _ _ b ((hy.trans f3).trans f4)) fu⟩
      · rw [List.getElem?_append_right (by omega)] at hk
        have h0 : k - ((xs.take i).filter c).length = 0 := by
          cases hq : k - ((xs.take i).filter c).length with
          | zero => rfl
          | succ m => rw [hq] at hk; simp at hk
        rw [h0] at hk
        have e' : x = x' := Option.some.inj hk
        subst e'
        exact ⟨y, by rw [List.getElem?_append_right (by omega), el, h0]; rfl, hP _ _ _ _ _ py fu⟩
    · have f := (f1.trans f3).trans f4
      exact f.drop (Fr.lst (f4.at_ _ _ d3 (fun z => nomatch z))) hD
  | false =>
    rw [if_neg Bool.false_ne_true]
    refine ⟨ys, d3, ?_, fun k x' hk => ?_, f1.trans f3⟩
    · rw [el, filter_snoc hx, if_neg (by rw [hc]; decide), List.append_nil]
    · rw [filter_snoc hx, if_neg (by rw [hc]; decide), List.append_nil] at hk
      obtain ⟨y', a, b⟩ := ep k x' hk
      exact ⟨y', a, hP _ _ _ _ _ b (hy.trans f3)⟩
def DcK (J : It) (g : TG) (tt : TT) (tk tv : TE) (vs : List Nat) (σ : L2.St) (Q : VK) (H1 : Hp) : Prop := ∀ D, H1 D = none → ∃ W : Nat → Nat → Hp → Prop, (∃ m, W 0 m (upd H1 D (.dK []))) ∧ ∀ i m H, W i m H →
  (J.stop i H ∧ Q (.ref D) H) ∨ (J.go i H ∧ ∃ Nx : Hp → Prop, (∀ H', Nx H' → ∃ m', m' < m ∧ W (i + 1) m' H') ∧ ∀ x H', J.yld i H x H' → g x (wipe σ vs) H' fun σ2 H2 => wipe σ2 vs = wipe σ vs ∧ tt σ2 H2 fun b H3 =>
    if b = true then tk σ2 H3 fun y H4 => tv σ2 H4 fun z H5 => ∃ kvs k, y = kV k ∧ H5 D = some (.dK kvs) ∧ kvs.length < sizeLine ∧ Nx (upd H5 D (.dK (putK kvs k z))) else Nx H3)
theorem x_dc (h : wi σ H fun J H1 => DcK J g tt tk tv vs σ Q H1) : tDc wi g tt tk tv vs σ H Q := h
instance o_x_dc : One (tDc wi g tt tk tv vs σ H Q) (wi σ H fun J H1 => DcK J g tt tk tv vs σ Q H1) := ⟨x_dc⟩
theorem dcV (w : Walk J n G Y) (ns : List Int) (nd : ns.Nodup) (hn : n = ns.length) (hY : ∀ i H0 x H', i < n → Y i H0 x H' → (∃ k, ns[i]? = some k ∧ x = .int k) ∧ Fr [] H0 H') (c : Int → Bool) (val : Int → V) (hG : ∀ H', Fr [] H H' → G H') (hz : ns.length ≤ 100000)
    (hs : ∀ k H', k ∈ ns → Fr [] H H' → SetK σ j (.int k) (fun σ2 H2 => (∀ R : Bool → Hp → Prop, (∀ H3, Fr [] H2 H3 → R (c k) H3) → tt σ2 H2 R) ∧ (c k = true → ∀ H3, Fr [] H2 H3 → ∀ R : V → V → Hp → Prop, (∀ H4, Fr [] H3 H4 → R (.int k) (val k) H4) → tk σ2 H3 fun y H4 => tv σ2 H4 fun z H5 => R y z H5)) H')
    (hd : ∀ p H', H p = none → H' p = some (.dK ((ns.filter c).map fun k => (Sum.inl k, val k))) → Fr [] H H' → Q (.ref p) H') : DcK J (gName j) tt tk tv [j] σ Q H := by
  subst hn
  intro D hD
  refine ⟨fun i m H' => m = ns.length - i ∧ i ≤ ns.length ∧ H' D = some (.dK (((ns.take i).filter c).map fun k => (Sum.inl k, val k))) ∧ Fr [] H H', ⟨ns.length, by simp, Nat.zero_le _, by rw [upd_same]; rfl, Fr.new hD⟩, ?_⟩
  rintro i m H0 ⟨rfl, hi, hd0, f0⟩
  have q := hG _ f0
  by_cases hlt : i < ns.length
  · refine .inr ⟨w.goes i H0 hlt q, fun H' => H' D = some (.dK (((ns.take (i + 1)).filter c).map fun k => (Sum.inl k, val k))) ∧ Fr [] H H', fun H' p' => ⟨ns.length - (i + 1), by omega, rfl, hlt, p'⟩, fun x H' y => ?_⟩
    obtain ⟨⟨k, hk, ex⟩, hy⟩ := hY i H0 x H' hlt (w.yields i H0 x H' hlt q y)
    subst ex
    have e1 : wipe σ [j] = σ.set j none := rfl
    have f1 : Fr [] H H' := f0.trans hy
    have d1 := hy.at_ _ _ hd0 (fun z => nomatch z)
    have hmem := List.mem_of_getElem? hk
    obtain ⟨q1, q2⟩ := hs k H' hmem f1
    show wipe ((wipe σ [j]).set j (some (.int k))) [j] = wipe σ [j] ∧ tt ((wipe σ [j]).set j (some (.int k))) H' _
    rw [e1, set_set]
    refine ⟨by show ((σ.set j (some (.int k))).set j none) = _; rw [set_set], q1 _ fun H3 f3 => ?_⟩
    have d3 := f3.at_ _ _ d1 (fun z => nomatch z)
    cases hc : c k with
    | true =>
      rw [if_pos rfl]
      refine q2 hc H3 f3 _ fun H4 f4 => ⟨_, Sum.inl k, rfl, f4.at_ _ _ d3 (fun z => nomatch z), small' ?_, ?_, ?_⟩
      · rw [List.length_map]
        have := List.length_filter_le c (ns.take i)
        rw [List.length_take] at this
        omega
      · rw [upd_same, filter_snoc hk, if_pos hc, List.map_append, putK_new]
        · rfl
        · cases e : valV (((ns.take i).filter c).map fun k => ((Sum.inl k : Key), val k)) (Sum.inl k) with
          | none => rfl
          | some v =>
            exfalso
            have m1 := mem_of_valV.mpr (show (valV (((ns.take i).filter c).map fun k => ((Sum.inl k : Key), val k)) (Sum.inl k)).isSome = true by rw [e]; rfl)
            rw [List.map_map] at m1
            obtain ⟨k', hk', ek⟩ := List.mem_map.mp m1
            have ek' : k' = k := Sum.inl.inj ek
            subst ek'
            have m2 : k' ∈ ns.take i := (List.mem_filter.mp hk').1
            obtain ⟨i', hi', e'⟩ := List.mem_iff_getElem.mp m2
            rw [List.length_take] at hi'
            rw [List.getElem_take] at e'
            have : i' = i := nd_ix nd (by rw [List.getElem?_eq_getElem (by omega), e']) hk
            omega
      · exact ((f1.trans f3).trans f4).drop (Fr.dct (f4.at_ _ _ d3 (fun z => nomatch z))) hD
    | false =>
      rw [if_neg Bool.false_ne_true]
      refine ⟨?_, f1.trans f3⟩
      rw [d3, filter_snoc hk, if_neg (by rw [hc]; decide), List.append_nil]
  · have e : i = ns.length := by omega
    subst e
    exact .inl ⟨w.stops H0 q, hd D H0 hD (by rw [hd0, List.take_length]) f0⟩
theorem valV_mapK (val : Int → V) : ∀ (ns : List Int) (n : Int), valV (ns.map fun k => ((Sum.inl k : Key), val k)) (Sum.inl n) = if n ∈ ns then some (val n) else none
  | [], n => rfl
  | k :: r, n => by
    rw [List.map_cons]
    by_cases e : k = n
    · subst e
      rw [valV_pos rfl, if_pos List.mem_cons_self]
    · rw [valV_neg (fun z => e (Sum.inl.inj z)), valV_mapK val r n]
      by_cases h : n ∈ r
      · rw [if_pos h, if_pos (List.mem_cons_of_mem _ h)]
      · rw [if_neg h, if_neg (fun z => (List.mem_cons.mp z).elim (fun z => e z.symm) h)]
theorem DOk.ofMap {ns : List Int} (nd : ns.Nodup) (val : Int → V) : DOk (ns.map fun k => ((Sum.inl k : Key), val k)) (fun n => if n ∈ ns then some (val n) else none) :=
  ⟨by rw [List.map_map]; exact nodup_map_inl.mpr nd, ⟨ns, by rw [List.map_map]; rfl⟩, valV_mapK val ns⟩
theorem walkL {a : Addr} {xs : List V} {R : It → Hp → Prop} (hx : SqL K H a xs) (h : R (Itl K a) H) : ItLK K (.ref a) R H := ⟨a, rfl, ⟨xs, hx⟩, h⟩
theorem yAt {xs : List V} {i : Nat} {H0 H' : Hp} {x : V} (h : YAt xs i H0 x H') : xs[i]? = some x ∧ Fr [] H0 H' := ⟨h.2, by rw [h.1]; exact Fr.refl _ _⟩
theorem yAtI {ns : List Int} {i : Nat} {H0 H' : Hp} {x : V} (h : YAt (ns.map V.int) i H0 x H') : (∃ k, ns[i]? = some k ∧ x = .int k) ∧ Fr [] H0 H' := by
  obtain ⟨a, b⟩ := yAt h
  rw [List.getElem?_map] at a
  cases e : ns[i]? with
  | none => rw [e] at a; cases a
  | some k => rw [e] at a; exact ⟨⟨k, rfl, (Option.some.inj a).symm⟩, b⟩
def PartK (x : V) (R : Option Int → Hp → Prop) (H : Hp) : Prop := ∃ i, x = .int i ∧ R (some i) H
theorem x_part {R : Option Int → Hp → Prop} (h : te σ H fun x H1 => PartK x R H1) : tPart te σ H R := h
instance o_x_part {R : Option Int → Hp → Prop} : One (tPart te σ H R) (te σ H fun x H1 => PartK x R H1) := ⟨x_part⟩
theorem partk {i : Int} {R : Option Int → Hp → Prop} (h : R (some i) H) : PartK (.int i) R H := ⟨i, rfl, h⟩
instance o_partk {i : Int} {R : Option Int → Hp → Prop} : One (PartK (.int i) R H) (R (some i) H) := ⟨partk⟩
theorem x_nopart {R : Option Int → Hp → Prop} (h : R none H) : tNoPart σ H R := h
instance o_x_nopart {R : Option Int → Hp → Prop} : One (tNoPart σ H R) (R none H) := ⟨x_nopart⟩
theorem x_sl {r : V → Option Int → Option Int → Hp → VK → Prop} {t1 t2 : TO} (h : te σ H fun x H1 => t1 σ H1 fun l H2 => t2 σ H2 fun u H3 => r x l u H3 Q) : tSl r te t1 t2 σ H Q := h
instance o_x_sl {r : V → Option Int → Option Int → Hp → VK → Prop} {t1 t2 : TO} : One (tSl r te t1 t2 σ H Q) (te σ H fun x H1 => t1 σ H1 fun l H2 => t2 σ H2 fun u H3 => r x l u H3 Q) := ⟨x_sl⟩
theorem r_slL {a : Addr} {xs : List V} {lo hi : Option Int} (h : SqL K H a xs) (q : ∀ p H', H p = none → H' p = some (.lst (cutV xs lo hi)) → Fr [] H H' → Q (.ref p) H') : rSlL K (.ref a) lo hi H Q := ⟨a, xs, rfl, h, newk q⟩
theorem r_slT {a : Addr} {xs : List V} {lo hi : Option Int} (h : SqT K H a xs) (hn : ¬ (HT.sIx xs.length 0 lo = 0 ∧ HT.sIx xs.length xs.length hi = xs.length)) (q : ∀ p H', H p = none → H' p = some (.tup (cutV xs lo hi)) → Fr [] H H' → Q (.ref p) H') : rSlT K (.ref a) lo hi H Q := ⟨a, xs, rfl, h, hn, newk q⟩
theorem cut_to (xs : List V) (k : Nat) : cutV xs none (some (k : Int)) = xs.take k := by
  unfold cutV
  rw [HT.sIx_none, HT.sIx_nat, List.drop_zero, Nat.sub_zero]
  by_cases h : k ≤ xs.length
  · rw [Nat.min_eq_left h]
  · rw [Nat.min_eq_right (by omega), List.take_length, List.take_of_length_le (by omega)]
theorem cut_from (xs : List V) (k : Nat) : cutV xs (some (k : Int)) none = xs.drop k := by
  unfold cutV
  rw [HT.sIx_none, HT.sIx_nat]
  by_cases h : k ≤ xs.length
  · rw [Nat.min_eq_left h, List.take_of_length_le (by rw [List.length_drop]; exact Nat.le_refl _)]
  · rw [Nat.min_eq_right (by omega), Nat.sub_self, List.take_zero, List.drop_of_length_le (by omega)]
def DG1 (x : V) (ty : TE) (σ : L2.St) (Q : VK) (H1 : Hp) : Prop := ∃ a, x = .ref a ∧ IsD H1 a ∧ ty σ H1 fun y H2 => ∃ o, DGet H2 a y o ∧ Q (o.getD .non) H2
theorem x_dget1 {td ty : TE} (h : td σ H fun x H1 => DG1 x ty σ Q H1) : tDGet1 td ty σ H Q := h
instance o_x_dget1 {td ty : TE} : One (tDGet1 td ty σ H Q) (td σ H fun x H1 => DG1 x ty σ Q H1) := ⟨x_dget1⟩
def DG1b (a : Addr) (y : V) (Q : VK) (H2 : Hp) : Prop := ∃ o, DGet H2 a y o ∧ Q (o.getD .non) H2
theorem dg1a {a : Addr} {kvs : List (Key × V)} {ty : TE} (h : Rd H a (.dK kvs)) (q : ty σ H fun y H2 => DG1b a y Q H2) : DG1 (.ref a) ty σ Q H := ⟨a, rfl, .inl ⟨kvs, h⟩, q⟩
theorem dg1b {a : Addr} {kvs : List (Key × V)} {n : Int} (h : Rd H a (.dK kvs)) (q : Q ((valV kvs (.inl n)).getD .non) H) : DG1b a (.int n) Q H := ⟨_, .inl ⟨kvs, .inl n, h, rfl, rfl⟩, q⟩
section
variable {tu : TS} {nx bk ct : L2.St → Hp → Prop} {rt : VK} {a : Addr}
theorem loopS (xs : List V) (hx : Sq K H a xs) (Pv : Nat → L2.St → Hp → Prop) (h0 : Pv 0 σ H) (hf : ∀ i σ' H', Pv i σ' H' → Fr [] H H')
    (hs : ∀ i x σ' H', xs[i]? = some x → Pv i σ' H' → SetK σ' j x (tu ⟨Pv (i + 1), rt, nx, Pv (i + 1)⟩) H') (hd : ∀ σ' H', Pv xs.length σ' H' → nx σ' H') :
    ItSK K (.ref a) (fun J H1 => LoopK J (gName j) tu ⟨nx, rt, bk, ct⟩ σ H1) H := by
  rcases hx with hx | hx
  · exact ⟨a, rfl, .inl ⟨⟨xs, hx⟩, loopL xs Pv h0 (fun i σ' H' _ p => (hf i σ' H' p).sqL hx (fun z => nomatch z)) hs hd⟩⟩
  · exact ⟨a, rfl, .inr ⟨⟨xs, hx⟩, loopT xs Pv h0 (fun i σ' H' _ p => (hf i σ' H' p).sqT hx) hs hd⟩⟩
theorem loopLF {M : List Addr} (xs : List V) (hx : SqL K H a xs) (ha : a ∉ M) (Pv : Nat → L2.St → Hp → Prop) (h0 : Pv 0 σ H) (hf : ∀ i σ' H', Pv i σ' H' → Fr M H H')
    (hs : ∀ i x σ' H', xs[i]? = some x → Pv i σ' H' → SetK σ' j x (tu ⟨Pv (i + 1), rt, nx, Pv (i + 1)⟩) H') (hd : ∀ σ' H', Pv xs.length σ' H' → nx σ' H') :
    ItLK K (.ref a) (fun J H1 => LoopK J (gName j) tu ⟨nx, rt, bk, ct⟩ σ H1) H :=
  ⟨a, rfl, ⟨xs, hx⟩, loopL xs Pv h0 (fun i σ' H' _ p => (hf i σ' H' p).sqL hx ha) hs hd⟩
theorem loopR1 (n : Int) (hn : n < 2 ^ 62) (hn' : -(2 ^ 62) ≤ n) (Pv : Nat → L2.St → Hp → Prop) (h0 : Pv 0 σ H) (hs : ∀ (i : Nat) σ' H', (i : Int) < n → Pv i σ' H' → SetK σ' j (.int (i : Int)) (tu ⟨Pv (i + 1), rt, nx, Pv (i + 1)⟩) H')
    (hd : ∀ σ' H', Pv n.toNat σ' H' → nx σ' H') :
    ∃ j' : Int, [V.int n] = [.int j'] ∧ -(2 ^ 62) ≤ j' ∧ j' < 2 ^ 62 ∧ (fun J H1 => LoopK J (gName j) tu ⟨nx, rt, bk, ct⟩ σ H1) (Itr 0 j'.toNat) H := by
  refine ⟨n, rfl, hn', hn, loopR Pv h0 (fun i σ' H' hi p => ?_) hd⟩
  rw [show (0 : Int) + (i : Int) = (i : Int) by omega]
  exact hs i σ' H' (by omega) p
theorem loopR2 (lo n : Int) (hl : -(2 ^ 62) ≤ lo ∧ lo < 2 ^ 62) (hn : -(2 ^ 62) ≤ n ∧ n < 2 ^ 62) (Pv : Nat → L2.St → Hp → Prop) (h0 : Pv 0 σ H) (hs : ∀ (i : Nat) σ' H', lo + (i : Int) < n → Pv i σ' H' → SetK σ' j (.int (lo + (i : Int))) (tu ⟨Pv (i + 1), rt, nx, Pv (i + 1)⟩) H')
    (hd : ∀ σ' H', Pv (n - lo).toNat σ' H' → nx σ' H') :
    ∃ i' j' : Int, [V.int lo, V.int n] = [.int i', .int j'] ∧ (-(2 ^ 62) ≤ i' ∧ i' < 2 ^ 62 ∧ -(2 ^ 62) ≤ j' ∧ j' < 2 ^ 62) ∧ (fun J H1 => LoopK J (gName j) tu ⟨nx, rt, bk, ct⟩ σ H1) (Itr i' (j' - i').toNat) H :=
  ⟨lo, n, rfl, ⟨hl.1, hl.2, hn.1, hn.2⟩, loopR Pv h0 (fun i σ' H' hi p => hs i σ' H' (by omega) p) hd⟩
theorem mem_ints {ns : List Int} {i : Nat} {x : V} (h : (ns.map V.int)[i]? = some x) : ∃ n, ns[i]? = some n ∧ n ∈ ns ∧ x = .int n := by
  rw [List.getElem?_map] at h
  cases e : ns[i]? with
  | none => rw [e] at h; cases h
  | some n => rw [e] at h; exact ⟨n, rfl, List.mem_of_getElem? e, (Option.some.inj h).symm⟩
theorem mem_intsM {ns : List Int} {x : V} (h : x ∈ ns.map V.int) : ∃ n, n ∈ ns ∧ x = .int n := by
  obtain ⟨n, a, b⟩ := List.mem_map.mp h
  exact ⟨n, a, b.symm⟩
end
def LkFr (d : Addr) (H H1 : Hp) : Prop := ∀ a o, a ≠ d → H a = some o → H1 a = some o
def UnlK (d : Addr) (od : Obj) (kvs : List (Key × V)) (v : V) (Q : VK) (H2 : Hp) : Prop := H2 d = some (.frz od (.dK kvs)) ∧ Q v (upd H2 d (.dK kvs))
theorem x_lockE {d : Addr} {kvs : List (Key × V)} (hd : H d = some (.dK kvs)) (q : ∀ od H1, H1 d = some (.frz od (.dK kvs)) → LkFr d H H1 → te σ H1 fun v H2 => UnlK d od kvs v Q H2) : tLockE te σ H Q :=
  ⟨d, _, hd, trivial, fun od => q od _ upd_same fun a o n e => by rw [upd_ne n]; exact e⟩
theorem unlk {d : Addr} {od : Obj} {kvs : List (Key × V)} {v : V} {H1 H2 : Hp} (hd : H d = some (.dK kvs)) (e : H1 d = some (.frz od (.dK kvs))) (l : LkFr d H H1) (f : Fr [] H1 H2)
    (q : ∀ H3, Fr [] H H3 → (∀ a o, a ≠ d → H2 a = some o → H3 a = some o) → Q v H3) : UnlK d od kvs v Q H2 := by
  have nn : ∀ a : Addr, a ∉ ([] : List Addr) := fun a z => nomatch z
  refine ⟨f.fz _ _ _ e, q _ ⟨fun a o h _ => ?_, fun t xs h => ?_, fun t o u h => ?_⟩ fun a o n h => by rw [upd_ne n]; exact h⟩
  · by_cases z : a = d
    · subst z; rw [hd] at h; cases h; exact upd_same
    · rw [upd_ne z]; exact f.at_ _ _ (l a o z h) (nn a)
  · have z : t ≠ d := ne_of h hd (by intro z; cases z)
    rw [upd_ne z]; exact f.tp _ _ (l t _ z h)
  · have z : t ≠ d := ne_of h hd (by intro z; cases z)
    rw [upd_ne z]; exact f.fz _ _ _ (l t _ z h)
def KeysK (x : V) (R : It → Hp → Prop) (H1 : Hp) : Prop := ∃ d o, x = .ref d ∧ ((∃ kvs, H1 d = some (.frz o (.dK kvs)) ∧ R (Itk d o kvs) H1) ∨ ∃ kvs, H1 d = some (.frz o (.dT kvs)) ∧ R (Itkt d o kvs) H1)
theorem x_iKeys {td : TE} {R : It → Hp → Prop} (h : td σ H fun x H1 => KeysK x R H1) : iKeys td σ H R := h
instance o_x_iKeys {td : TE} {R : It → Hp → Prop} : One (iKeys td σ H R) (td σ H fun x H1 => KeysK x R H1) := ⟨x_iKeys⟩
theorem keysk {d : Addr} {o : Obj} {kvs : List (Key × V)} {R : It → Hp → Prop} (h : H d = some (.frz o (.dK kvs))) (q : R (Itk d o kvs) H) : KeysK (.ref d) R H := ⟨d, o, rfl, .inl ⟨kvs, h, q⟩⟩
theorem yKey {kvs : List (Key × V)} {ns : List Int} (hk : kvs.map (·.1) = ns.map Sum.inl) {i : Nat} {H0 H' : Hp} {x : V} (h : H' = H0 ∧ ∃ k v, kvs[i]? = some (k, v) ∧ x = kV k) : (∃ k, ns[i]? = some k ∧ x = .int k) ∧ Fr [] H0 H' := by
  obtain ⟨e, k, v, hi, ex⟩ := h
  have h1 : (kvs.map (·.1))[i]? = some k := by rw [List.getElem?_map, hi]; rfl
  rw [hk, List.getElem?_map] at h1
  cases e2 : ns[i]? with
  | none => rw [e2] at h1; cases h1
  | some n =>
    rw [e2] at h1
    have h2 : Sum.inl n = k := Option.some.inj h1
    subst h2
    exact ⟨⟨n, rfl, ex⟩, by rw [e]; exact Fr.refl _ _⟩
end
section
variable {K : PySem.W.Frag} {σ : L2.St} {H : Hp} {Q : VK}
def MkK (C : Addr) (n m : Nat) (sp : Sp) (gV : List V → List V → List V) (E : XK) (vs zs : List V) (Q : VK) (H2 : Hp) : Prop := vs.length = n ∧ zs.length = m ∧ ∀ x dx, H2 x = none → H2 dx = none → dx ≠ x →
  sp (gV (.ref x :: vs) zs) (upd (upd H2 dx (.own x)) x (.ins C dx [])) (fun v H3 => v = .non ∧ Q (.ref x) H3) E
theorem x_mk {C : Addr} {n m : Nat} {sp : Sp} {gV : List V → List V → List V} {E : XK} {t tk : TA} (h : t σ H fun vs H1 => tk σ H1 fun zs H2 => MkK C n m sp gV E vs zs Q H2) : tMakeK C n m sp gV E t tk σ H Q := h
instance o_x_mk {C : Addr} {n m : Nat} {sp : Sp} {gV : List V → List V → List V} {E : XK} {t tk : TA} : One (tMakeK C n m sp gV E t tk σ H Q) (t σ H fun vs H1 => tk σ H1 fun zs H2 => MkK C n m sp gV E vs zs Q H2) := ⟨x_mk⟩
theorem new_ins {x dx C : Addr} (nx : H x = none) (nd : H dx = none) (ne : dx ≠ x) : Fr [] H (upd (upd H dx (.own x)) x (.ins C dx [])) := by
  have e1 : upd H dx (.own x) x = none := by rw [upd_ne ne.symm]; exact nx
  exact (Fr.new nd).trans (Fr.new e1)
structure GC (P : Program) (w : World) (K : PySem.W.Frag) (mg : Str → Option Value) (base : Heap) (C : Addr) (cls : Str) (k : Nat) (ps : List Str) (n : Nat) (ks : List Str) (gV : List V → List V → List V) (sp : Sp) : Prop where
  ex : ∃ (f : Addr) (fd : FuncData) (g : List Value → List Value → List Value), L2.Mk K C f ∧ mg cls = some (.ref C) ∧ FnOk P w K mg base CX0 k f fd ps sp ∧ KBn K fd ps (n + 1) ks g gV
variable {X : Cx} {C : Addr} {x : Str} {k n : Nat} {ps ks : List Str} {gV : List V → List V → List V} {sp : Sp} {p pos : Pos} {e : Expr} {es : List Expr} {kws : List Keyword} {t tk : TA}
theorem c_mk (G : GC X.prog X.w X.K X.mg X.base C x k ps n ks gV sp) (hr : Room (k + 1) X.A) (ha : PA X (e :: es) t) (hkw : PK X kws tk) (hg : Gl X x := by rfl)
    (hall : (backToKw pos (keywordEach kws X.env)).all (·.1.isSome) = true := by rfl) (hks : (backToKw pos (keywordEach kws X.env)).filterMap (·.1) = ks := by rfl) (hdb : (x == ("__debug__" : Str)) = false := by decide)
    (he : starEach (e :: es) X.env = (false, eval e X.env) :: starEach es X.env := by rfl) (hpl : ((backTo pos (starEach (e :: es) X.env)).any (·.1) || (backToKw pos (keywordEach kws X.env)).any (·.1.isNone)) = false := by rfl) :
    PE X (.Call (.Name x p) (e :: es) kws pos) (tMakeK C n ks.length sp gV E0 t tk) := by
  obtain ⟨f, fd, g, M, hm, F, hb⟩ := G.ex
  exact pe_makeK M F hr hg hm hb pass0 ha hkw hall hks hdb he hpl
end
end RL
namespace RL
section
open PySem L2
variable {σ : L2.St} {H : Hp} {te : TE} {tz : TS} {nx bk ct : L2.St → Hp → Prop} {rt : VK} {i : Nat} {f : Int → Int → Int}
theorem q_augI (h : tVar i σ H fun x H0 => te σ H0 fun y H1 => ipI f x y H1 fun z H2 => SetK σ i z (tz ⟨nx, rt, bk, ct⟩) H2) : tSeq (tAug i te (ipI f)) tz ⟨nx, rt, bk, ct⟩ σ H := h
instance o_q_augI : OneS (tSeq (tAug i te (ipI f)) tz ⟨nx, rt, bk, ct⟩ σ H) (tVar i σ H fun x H0 => te σ H0 fun y H1 => ipI f x y H1 fun z H2 => SetK σ i z (tz ⟨nx, rt, bk, ct⟩) H2) := ⟨q_augI⟩
theorem s_augI (h : tVar i σ H fun x H0 => te σ H0 fun y H1 => ipI f x y H1 fun z H2 => SetK σ i z nx H2) : tAug i te (ipI f) ⟨nx, rt, bk, ct⟩ σ H := h
instance o_s_augI : OneS (tAug i te (ipI f) ⟨nx, rt, bk, ct⟩ σ H) (tVar i σ H fun x H0 => te σ H0 fun y H1 => ipI f x y H1 fun z H2 => SetK σ i z nx H2) := ⟨s_augI⟩
end
theorem ifTn {A B : Prop} (h : A) : IfK (!false) A B := ifT h
instance o_ifTn {A B : Prop} : One (IfK (!false) A B) (A) := ⟨ifTn⟩
theorem ifFn {A B : Prop} (h : B) : IfK (!true) A B := ifF h
instance o_ifFn {A B : Prop} : One (IfK (!true) A B) (B) := ⟨ifFn⟩
def far (size s e : Int) : Int := if (e - s) % size = 0 then size else (e - s) % size
def btw (size s p e : Int) : Bool := decide (far size s p < far size s e)
def it (f : Int → Int) : Nat → Int → Int
  | 0, h => h
  | n + 1, h => it f n (f h)
def wl (size : Int) (f : Int → Int) : Nat → Int → Int
  | 0, _ => 0
  | n + 1, h => far size h (f h) + wl size f n (f h)
def Tr (size : Int) (f : Int → Int) (a e s : Int) : Prop := ∃ n, 1 ≤ n ∧ it f n a = e ∧ wl size f n a = s
def Ans (size : Int) (f : Int → Int) (a d : Int) (j : Nat) : Prop := d ≤ wl size f j a ∧ ∀ i, i < j → wl size f i a < d
section
variable {size : Int} {f g : Int → Int} {a h e s d u v x : Int} {m n i j : Nat} {hs : List Int}
theorem far_pos (h : 0 < size) : 0 < far size s e ∧ far size s e ≤ size := by
  unfold far
  have h1 := Int.emod_nonneg (e - s) (show size ≠ 0 by omega)
  have h2 := Int.emod_lt_of_pos (e - s) h
  split <;> omega
theorem far_self : far size s s = size := by
  unfold far
  rw [Int.sub_self, Int.zero_emod, if_pos rfl]
theorem far_emod (h : 0 < size) : far size s e % size = (e - s) % size := by
  unfold far
  split
  · rename_i h0; rw [h0, Int.emod_self]
  · exact Int.emod_emod_of_dvd _ (Int.dvd_refl _)
theorem far_dvd (h : 0 < size) : size ∣ far size s e - (e - s) := Int.dvd_of_emod_eq_zero (by rw [Int.sub_emod, far_emod h]; simp)
theorem far_uniq (h : 0 < size) {k : Int} (k0 : 0 < k) (k1 : k ≤ size) (hd : size ∣ k - (e - s)) : k = far size s e := by
  obtain ⟨p0, p1⟩ := far_pos (s := s) (e := e) h
  have h2 := Int.dvd_sub hd (far_dvd (s := s) (e := e) h)
  obtain ⟨q, hq⟩ := h2
  have hq' : k - far size s e = size * q := by omega
  have : q = 0 := by
    rcases Int.lt_trichotomy q 0 with hl | hl | hl
    · have : size * q ≤ size * (-1) := Int.mul_le_mul_of_nonneg_left (by omega) (by omega)
      omega
    · exact hl
    · have : size * 1 ≤ size * q := Int.mul_le_mul_of_nonneg_left (by omega) (by omega)
      omega
  rw [this] at hq'
  omega
theorem btw_left (h : 0 < size) : btw size s s e = false := by
  unfold btw
  rw [far_self]
  have := far_pos (s := s) (e := e) h
  exact decide_eq_false (by omega)
theorem btw_right : btw size s e e = false := by
  unfold btw
  exact decide_eq_false (by omega)
theorem btw_split (h : 0 < size) (hb : btw size u x v = true) : far size u x + far size x v = far size u v := by
  have hb' : far size u x < far size u v := of_decide_eq_true hb
  have p1 := far_pos (s := u) (e := x) h
  have p2 := far_pos (s := u) (e := v) h
  have e1 : far size u v - far size u x = far size x v := by
    refine far_uniq h (by omega) (by omega) ?_
    have a1 := far_dvd (s := u) (e := v) h
    have a2 := far_dvd (s := u) (e := x) h
    have := Int.dvd_sub a1 a2
    have e2 : far size u v - (v - u) - (far size u x - (x - u)) = far size u v - far size u x - (v - x) := by omega
    rw [e2] at this
    exact this
  omega
theorem it_add : it f (m + n) h = it f n (it f m h) := by
  induction m generalizing h with
  | zero => rw [Nat.zero_add]; rfl
  | succ m ih => rw [Nat.succ_add]; exact ih
theorem it_succ : it f (n + 1) h = f (it f n h) := it_add (m := n) (n := 1)
theorem wl_add : wl size f (m + n) h = wl size f m h + wl size f n (it f m h) := by
  induction m generalizing h with
  | zero => rw [Nat.zero_add]; show _ = 0 + _; rw [Int.zero_add]; rfl
  | succ m ih => rw [Nat.succ_add]; show far size h (f h) + wl size f (m + n) (f h) = _; rw [ih]; show _ = far size h (f h) + _ + _; rw [Int.add_assoc]; rfl
theorem wl_succ : wl size f (n + 1) h = wl size f n h + far size (it f n h) (f (it f n h)) := by
  rw [wl_add]; show _ + (far size _ _ + 0) = _; rw [Int.add_zero]
theorem wl_ge (h0 : 0 < size) : (n : Int) ≤ wl size f n h := by
  induction n generalizing h with
  | zero => exact Int.le_refl _
  | succ n ih => have := ih (h := f h); have := far_pos (s := h) (e := f h) h0; show ((n + 1 : Nat) : Int) ≤ far size h (f h) + wl size f n (f h); omega
theorem wl_lt (h0 : 0 < size) (hij : i < j) : wl size f i h < wl size f j h := by
  obtain ⟨k, rfl⟩ : ∃ k, j = i + (k + 1) := ⟨j - i - 1, by omega⟩
  rw [wl_add]
  have := wl_ge (n := k + 1) (f := f) (h := it f i h) h0
  omega
theorem wl_le (h0 : 0 < size) (hij : i ≤ j) : wl size f i h ≤ wl size f j h := by
  rcases Nat.lt_or_eq_of_le hij with e | e
  · exact Int.le_of_lt (wl_lt h0 e)
  · rw [e]; exact Int.le_refl _
theorem wl_inj (h0 : 0 < size) (e : wl size f i h = wl size f j h) : i = j := by
  rcases Nat.lt_trichotomy i j with q | q | q
  · have := wl_lt (f := f) (h := h) h0 q; omega
  · exact q
  · have := wl_lt (f := f) (h := h) h0 q; omega
theorem wl_dvd (h0 : 0 < size) : size ∣ wl size f n h - (it f n h - h) := by
  induction n generalizing h with
  | zero => show size ∣ (0 : Int) - (h - h); simp
  | succ n ih =>
    have a1 := ih (h := f h)
    have a2 := far_dvd (s := h) (e := f h) h0
    have := Int.dvd_add a1 a2
    have e : wl size f n (f h) - (it f n (f h) - f h) + (far size h (f h) - (f h - h)) = wl size f (n + 1) h - (it f (n + 1) h - h) := by
      show _ = far size h (f h) + wl size f n (f h) - (it f n (f h) - h)
      omega
    rw [e] at this
    exact this
theorem Ans.uniq (h0 : 0 < size) (x : Ans size f a d i) (y : Ans size f a d j) : i = j := by
  rcases Nat.lt_trichotomy i j with q | q | q
  · have := y.2 i q; have := x.1; omega
  · exact q
  · have := x.2 j q; have := y.1; omega
theorem it_mem (hf : ∀ h ∈ hs, f h ∈ hs) (hh : h ∈ hs) : it f n h ∈ hs := by
  induction n generalizing h with
  | zero => exact hh
  | succ n ih => exact ih (hf h hh)
theorem nodup_sub_len : ∀ {l m : List Int}, l.Nodup → (∀ x ∈ l, x ∈ m) → l.length ≤ m.length
  | [], _, _, _ => Nat.zero_le _
  | a :: r, m, n, h => by
    obtain ⟨n1, n2⟩ := List.nodup_cons.mp n
    have ha := h a List.mem_cons_self
    have := nodup_sub_len (l := r) (m := m.erase a) n2 fun x hx => (List.mem_erase_of_ne (fun e => n1 (by rw [← e]; exact hx))).mpr (h x (List.mem_cons_of_mem _ hx))
    rw [List.length_erase_of_mem ha] at this
    have := List.length_pos_of_mem ha
    rw [List.length_cons]
    omega
theorem pigeon {c : Nat → Int} {n : Nat} (hn : hs.length ≤ n) (hc : ∀ i, i ≤ n → c i ∈ hs) : ∃ i j, i < j ∧ j ≤ n ∧ c i = c j := by
  apply Classical.byContradiction
  intro hno
  have nd : ((List.range (n + 1)).map c).Nodup := by
    rw [List.nodup_iff_pairwise_ne, List.pairwise_map]
    refine List.Pairwise.imp_of_mem (R := (· < ·)) (fun {i j} hi hj hlt e => ?_) List.pairwise_lt_range
    have h1 := List.mem_range.mp hj
    exact hno ⟨i, j, hlt, by omega, e⟩
  have := nodup_sub_len nd fun x hx => by
    obtain ⟨i, hi, e⟩ := List.mem_map.mp hx
    have := List.mem_range.mp hi
    exact e ▸ hc i (by omega)
  rw [List.length_map, List.length_range] at this
  omega
theorem wl_turn (h0 : 0 < size) (hf : ∀ h ∈ hs, f h ∈ hs) (hh : h ∈ hs) (hn : hs.length ≤ n) : size ≤ wl size f n h := by
  obtain ⟨i, j, hij, hj, e⟩ := pigeon (c := fun i => it f i h) hn fun i _ => it_mem hf hh
  have e' : it f i h = it f j h := e
  obtain ⟨k, rfl⟩ : ∃ k, j = i + (k + 1) := ⟨j - i - 1, by omega⟩
  rw [it_add] at e'
  have h1 := wl_dvd (f := f) (n := k + 1) (h := it f i h) h0
  rw [← e'] at h1
  have h2 := wl_ge (n := k + 1) (f := f) (h := it f i h) h0
  have h3 : size ≤ wl size f (k + 1) (it f i h) := Int.le_of_dvd (by omega) (by rw [Int.sub_self, Int.sub_zero] at h1; exact h1)
  have h4 := wl_add (size := size) (f := f) (m := i) (n := k + 1) (h := h)
  have h5 := wl_ge (n := i) (f := f) (h := h) h0
  have h6 := wl_le (f := f) (h := h) h0 hj
  omega
theorem wl_turns (h0 : 0 < size) (hf : ∀ h ∈ hs, f h ∈ hs) (hh : h ∈ hs) : ∀ q : Nat, size * q ≤ wl size f (hs.length * q) h
  | 0 => by show size * 0 ≤ 0; omega
  | q + 1 => by
    have ih := wl_turns h0 hf hh q
    rw [Nat.mul_succ, wl_add]
    have := wl_turn (n := hs.length) h0 hf (it_mem (n := hs.length * q) hf hh) (Nat.le_refl _)
    have e : size * ((q + 1 : Nat) : Int) = size * q + size := by rw [Int.natCast_add, Int.mul_add]; simp
    omega
theorem on_ring (hf : ∀ h ∈ hs, f h ∈ hs) (hh : h ∈ hs) (hn : hs.length ≤ n) : ∃ p, 1 ≤ p ∧ p ≤ hs.length ∧ it f p (it f n h) = it f n h := by
  obtain ⟨i, j, hij, hj, e⟩ := pigeon (c := fun i => it f i h) (Nat.le_refl hs.length) fun i _ => it_mem hf hh
  have e' : it f i h = it f j h := e
  refine ⟨j - i, by omega, by omega, ?_⟩
  obtain ⟨k, rfl⟩ : ∃ k, n = i + k := ⟨n - i, by omega⟩
  rw [← it_add, show i + k + (j - i) = j + k by omega, it_add, it_add, e']
end
end RL
namespace RL
def sub1 : PySem.Stmt → List PySem.Stmt
  | .For _ _ b _ _ => b
  | .While _ b _ _ => b
  | .If _ b _ _ => b
  | _ => []
def sub2 : PySem.Stmt → List PySem.Stmt
  | .For _ _ _ b _ => b
  | .While _ _ b _ => b
  | .If _ _ b _ => b
  | _ => []
def stAt (b : List PySem.Stmt) (i : Nat) : PySem.Stmt := b.getD i (.Pass ⟨0, 0, 0, 0⟩)
section
open PySem L2
variable {a b c d e f g i j k l m n o p q a1 b1 c1 d1 e1 f1 g1 i1 j1 : Option V} {v : V} {r : L2.St} {H : Hp} {N : L2.St → Hp → Prop} {Q : VK}
theorem sk16 (h : N (a :: b :: c :: d :: e :: f :: g :: i :: j :: k :: l :: m :: n :: o :: p :: q :: some v :: r) H) : SetK (a :: b :: c :: d :: e :: f :: g :: i :: j :: k :: l :: m :: n :: o :: p :: q :: a1 :: r) 16 v N H := h
instance o_sk16 : One (SetK (a :: b :: c :: d :: e :: f :: g :: i :: j :: k :: l :: m :: n :: o :: p :: q :: a1 :: r) 16 v N H) (N (a :: b :: c :: d :: e :: f :: g :: i :: j :: k :: l :: m :: n :: o :: p :: q :: some v :: r) H) := ⟨sk16⟩
theorem xv16 (h : Q v H) : tVar 16 (a :: b :: c :: d :: e :: f :: g :: i :: j :: k :: l :: m :: n :: o :: p :: q :: some v :: r) H Q := ⟨v, rfl, h⟩
instance o_xv16 : One (tVar 16 (a :: b :: c :: d :: e :: f :: g :: i :: j :: k :: l :: m :: n :: o :: p :: q :: some v :: r) H Q) (Q v H) := ⟨xv16⟩
theorem sk17 (h : N (a :: b :: c :: d :: e :: f :: g :: i :: j :: k :: l :: m :: n :: o :: p :: q :: a1 :: some v :: r) H) : SetK (a :: b :: c :: d :: e :: f :: g :: i :: j :: k :: l :: m :: n :: o :: p :: q :: a1 :: b1 :: r) 17 v N H := h
instance o_sk17 : One (SetK (a :: b :: c :: d :: e :: f :: g :: i :: j :: k :: l :: m :: n :: o :: p :: q :: a1 :: b1 :: r) 17 v N H) (N (a :: b :: c :: d :: e :: f :: g :: i :: j :: k :: l :: m :: n :: o :: p :: q :: a1 :: some v :: r) H) := ⟨sk17⟩
theorem xv17 (h : Q v H) : tVar 17 (a :: b :: c :: d :: e :: f :: g :: i :: j :: k :: l :: m :: n :: o :: p :: q :: a1 :: some v :: r) H Q := ⟨v, rfl, h⟩
instance o_xv17 : One (tVar 17 (a :: b :: c :: d :: e :: f :: g :: i :: j :: k :: l :: m :: n :: o :: p :: q :: a1 :: some v :: r) H Q) (Q v H) := ⟨xv17⟩
theorem sk18 (h : N (a :: b :: c :: d :: e :: f :: g :: i :: j :: k :: l :: m :: n :: o :: p :: q :: a1 :: b1 :: some v :: r) H) : SetK (a :: b :: c :: d :: e :: f :: g :: i :: j :: k :: l :: m :: n :: o :: p :: q :: a1 :: b1 :: c1 :: r) 18 v N H := h
instance o_sk18 : One (SetK (a :: b :: c :: d :: e :: f :: g :: i :: j :: k :: l :: m :: n :: o :: p :: q :: a1 :: b1 :: c1 :: r) 18 v N H) (N (a :: b :: c :: d :: e :: f :: g :: i :: j :: k :: l :: m :: n :: o :: p :: q :: a1 :: b1 :: some v :: r) H) := ⟨sk18⟩
theorem xv18 (h : Q v H) : tVar 18 (a :: b :: c :: d :: e :: f :: g :: i :: j :: k :: l :: m :: n :: o :: p :: q :: a1 :: b1 :: some v :: r) H Q := ⟨v, rfl, h⟩
instance o_xv18 : One (tVar 18 (a :: b :: c :: d :: e :: f :: g :: i :: j :: k :: l :: m :: n :: o :: p :: q :: a1 :: b1 :: some v :: r) H Q) (Q v H) := ⟨xv18⟩
theorem sk19 (h : N (a :: b :: c :: d :: e :: f :: g :: i :: j :: k :: l :: m :: n :: o :: p :: q :: a1 :: b1 :: c1 :: some v :: r) H) : SetK (a :: b :: c :: d :: e :: f :: g :: i :: j :: k :: l :: m :: n :: o :: p :: q :: a1 :: b1 :: c1 :: d1 :: r) 19 v N H := h
instance o_sk19 : One (SetK (a :: b :: c :: d :: e :: f :: g :: i :: j :: k :: l :: m :: n :: o :: p :: q :: a1 :: b1 :: c1 :: d1 :: r) 19 v N H) (N (a :: b :: c :: d :: e :: f :: g :: i :: j :: k :: l :: m :: n :: o :: p :: q :: a1 :: b1 :: c1 :: some v :: r) H) := ⟨sk19⟩
theorem xv19 (h : Q v H) : tVar 19 (a :: b :: c :: d :: e :: f :: g :: i :: j :: k :: l :: m :: n :: o :: p :: q :: a1 :: b1 :: c1 :: some v :: r) H Q := ⟨v, rfl, h⟩
instance o_xv19 : One (tVar 19 (a :: b :: c :: d :: e :: f :: g :: i :: j :: k :: l :: m :: n :: o :: p :: q :: a1 :: b1 :: c1 :: some v :: r) H Q) (Q v H) := ⟨xv19⟩
theorem sk20 (h : N (a :: b :: c :: d :: e :: f :: g :: i :: j :: k :: l :: m :: n :: o :: p :: q :: a1 :: b1 :: c1 :: d1 :: some v :: r) H) : SetK (a :: b :: c :: d :: e :: f :: g :: i :: j :: k :: l :: m :: n :: o :: p :: q :: a1 :: b1 :: c1 :: d1 :: e1 :: r) 20 v N H := h
instance o_sk20 : One (SetK (a :: b :: c :: d :: e :: f :: g :: i :: j :: k :: l :: m :: n :: o :: p :: q :: a1 :: b1 :: c1 :: d1 :: e1 :: r) 20 v N H) (N (a :: b :: c :: d :: e :: f :: g :: i :: j :: k :: l :: m :: n :: o :: p :: q :: a1 :: b1 :: c1 :: d1 :: some v :: r) H) := ⟨sk20⟩
theorem xv20 (h : Q v H) : tVar 20 (a :: b :: c :: d :: e :: f :: g :: i :: j :: k :: l :: m :: n :: o :: p :: q :: a1 :: b1 :: c1 :: d1 :: some v :: r) H Q := ⟨v, rfl, h⟩
instance o_xv20 : One (tVar 20 (a :: b :: c :: d :: e :: f :: g :: i :: j :: k :: l :: m :: n :: o :: p :: q :: a1 :: b1 :: c1 :: d1 :: some v :: r) H Q) (Q v H) := ⟨xv20⟩
theorem sk21 (h : N (a :: b :: c :: d :: e :: f :: g :: i :: j :: k :: l :: m :: n :: o :: p :: q :: a1 :: b1 :: c1 :: d1 :: e1 :: some v :: r) H) : SetK (a :: b :: c :: d :: e :: f :: g :: i :: j :: k :: l :: m :: n :: o :: p :: q :: a1 :: b1 :: c1 :: d1 :: e1 :: f1 :: r) 21 v N H := h
instance o_sk21 : One (SetK (a :: b :: c :: d :: e :: f :: g :: i :: j :: k :: l :: m :: n :: o :: p :: q :: a1 :: b1 :: c1 :: d1 :: e1 :: f1 :: r) 21 v N H) (N (a :: b :: c :: d :: e :: f :: g :: i :: j :: k :: l :: m :: n :: o :: p :: q :: a1 :: b1 :: c1 :: d1 :: e1 :: some v :: r) H) := ⟨sk21⟩
theorem xv21 (h : Q v H) : tVar 21 (a :: b :: c :: d :: e :: f :: g :: i :: j :: k :: l :: m :: n :: o :: p :: q :: a1 :: b1 :: c1 :: d1 :: e1 :: some v :: r) H Q := ⟨v, rfl, h⟩
instance o_xv21 : One (tVar 21 (a :: b :: c :: d :: e :: f :: g :: i :: j :: k :: l :: m :: n :: o :: p :: q :: a1 :: b1 :: c1 :: d1 :: e1 :: some v :: r) H Q) (Q v H) := ⟨xv21⟩
theorem sk22 (h : N (a :: b :: c :: d :: e :: f :: g :: i :: j :: k :: l :: m :: n :: o :: p :: q :: a1 :: b1 :: c1 :: d1 :: e1 :: f1 :: some v :: r) H) : SetK (a :: b :: c :: d :: e :: f :: g :: i :: j :: k :: l :: m :: n :: o :: p :: q :: a1 :: b1 :: c1 :: d1 :: e1 :: f1 :: g1 :: r) 22 v N H := h
instance o_sk22 : One (SetK (a :: b :: c :: d :: e :: f :: g :: i :: j :: k :: l :: m :: n :: o :: p :: q :: a1 :: b1 :: c1 :: d1 :: e1 :: f1 :: g1 :: r) 22 v N H) (N (a :: b :: c :: d :: e :: f :: g :: i :: j :: k :: l :: m :: n :: o :: p :: q :: a1 :: b1 :: c1 :: d1 :: e1 :: f1 :: some v :: r) H) := ⟨sk22⟩
theorem xv22 (h : Q v H) : tVar 22 (a :: b :: c :: d :: e :: f :: g :: i :: j :: k :: l :: m :: n :: o :: p :: q :: a1 :: b1 :: c1 :: d1 :: e1 :: f1 :: some v :: r) H Q := ⟨v, rfl, h⟩
instance o_xv22 : One (tVar 22 (a :: b :: c :: d :: e :: f :: g :: i :: j :: k :: l :: m :: n :: o :: p :: q :: a1 :: b1 :: c1 :: d1 :: e1 :: f1 :: some v :: r) H Q) (Q v H) := ⟨xv22⟩
theorem sk23 (h : N (a :: b :: c :: d :: e :: f :: g :: i :: j :: k :: l :: m :: n :: o :: p :: q :: a1 :: b1 :: c1 :: d1 :: e1 :: f1 :: g1 :: some v :: r) H) : SetK (a :: b :: c :: d :: e :: f :: g :: i :: j :: k :: l :: m :: n :: o :: p :: q :: a1 :: b1 :: c1 :: d1 :: e1 :: f1 :: g1 :: i1 :: r) 23 v N H := h
instance o_sk23 : One (SetK (a :: b :: c :: d :: e :: f :: g :: i :: j :: k :: l :: m :: n :: o :: p :: q :: a1 :: b1 :: c1 :: d1 :: e1 :: f1 :: g1 :: i1 :: r) 23 v N H) (N (a :: b :: c :: d :: e :: f :: g :: i :: j :: k :: l :: m :: n :: o :: p :: q :: a1 :: b1 :: c1 :: d1 :: e1 :: f1 :: g1 :: some v :: r) H) := ⟨sk23⟩
theorem xv23 (h : Q v H) : tVar 23 (a :: b :: c :: d :: e :: f :: g :: i :: j :: k :: l :: m :: n :: o :: p :: q :: a1 :: b1 :: c1 :: d1 :: e1 :: f1 :: g1 :: some v :: r) H Q := ⟨v, rfl, h⟩
instance o_xv23 : One (tVar 23 (a :: b :: c :: d :: e :: f :: g :: i :: j :: k :: l :: m :: n :: o :: p :: q :: a1 :: b1 :: c1 :: d1 :: e1 :: f1 :: g1 :: some v :: r) H Q) (Q v H) := ⟨xv23⟩
end
section
open PySem L2
variable {c0 c1 c2 c3 c4 c5 c6 c7 c8 c9 c10 c11 c12 c13 c14 c15 c16 c17 c18 c19 c20 c21 c22 c23 c24 c25 c26 c27 c28 c29 c30 c31 c32 c33 c34 c35 c36 c37 c38 c39 c40 : Option V} {v : V} {r : L2.St} {H : Hp} {N : L2.St → Hp → Prop} {Q : VK}
theorem sk24 (h : N (c0 :: c1 :: c2 :: c3 :: c4 :: c5 :: c6 :: c7 :: c8 :: c9 :: c10 :: c11 :: c12 :: c13 :: c14 :: c15 :: c16 :: c17 :: c18 :: c19 :: c20 :: c21 :: c22 :: c23 :: some v :: r) H) : SetK (c0 :: c1 :: c2 :: c3 :: c4 :: c5 :: c6 :: c7 :: c8 :: c9 :: c10 :: c11 :: c12 :: c13 :: c14 :: c15 :: c16 :: c17 :: c18 :: c19 :: c20 :: c21 :: c22 :: c23 :: c24 :: r) 24 v N H := h
instance o_sk24 : One (SetK (c0 :: c1 :: c2 :: c3 :: c4 :: c5 :: c6 :: c7 :: c8 :: c9 :: c10 :: c11 :: c12 :: c13 :: c14 :: c15 :: c16 :: c17 :: c18 :: c19 :: c20 :: c21 :: c22 :: c23 :: c24 :: r) 24 v N H) (N (c0 :: c1 :: c2 :: c3 :: c4 :: c5 :: c6 :: c7 :: c8 :: c9 :: c10 :: c11 :: c12 :: c13 :: c14 :: c15 :: c16 :: c17 :: c18 :: c19 :: c20 :: c21 :: c22 :: c23 :: some v :: r) H) := ⟨sk24⟩
theorem xv24 (h : Q v H) : tVar 24 (c0 :: c1 :: c2 :: c3 :: c4 :: c5 :: c6 :: c7 :: c8 :: c9 :: c10 :: c11 :: c12 :: c13 :: c14 :: c15 :: c16 :: c17 :: c18 :: c19 :: c20 :: c21 :: c22 :: c23 :: some v :: r) H Q := ⟨v, rfl, h⟩
instance o_xv24 : One (tVar 24 (c0 :: c1 :: c2 :: c3 :: c4 :: c5 :: c6 :: c7 :: c8 :: c9 :: c10 :: c11 :: c12 :: c13 :: c14 :: c15 :: c16 :: c17 :: c18 :: c19 :: c20 :: c21 :: c22 :: c23 :: some v :: r) H Q) (Q v H) := ⟨xv24⟩
theorem sk25 (h : N (c0 :: c1 :: c2 :: c3 :: c4 :: c5 :: c6 :: c7 :: c8 :: c9 :: c10 :: c11 :: c12 :: c13 :: c14 :: c15 :: c16 :: c17 :: c18 :: c19 :: c20 :: c21 :: c22 :: c23 :: c24 :: some v :: r) H) : SetK (c0 :: c1 :: c2 :: c3 :: c4 :: c5 :: c6 :: c7 :: c8 :: c9 :: c10 :: c11 :: c12 :: c13 :: c14 :: c15 :: c16 :: c17 :: c18 :: c19 :: c20 :: c21 :: c22 :: c23 :: c24 :: c25 :: r) 25 v N H := h
instance o_sk25 : One (SetK (c0 :: c1 :: c2 :: c3 :: c4 :: c5 :: c6 :: c7 :: c8 :: c9 :: c10 :: c11 :: c12 :: c13 :: c14 :: c15 :: c16 :: c17 :: c18 :: c19 :: c20 :: c21 :: c22 :: c23 :: c24 :: c25 :: r) 25 v N H) (N (c0 :: c1 :: c2 :: c3 :: c4 :: c5 :: c6 :: c7 :: c8 :: c9 :: c10 :: c11 :: c12 :: c13 :: c14 :: c15 :: c16 :: c17 :: c18 :: c19 :: c20 :: c21 :: c22 :: c23 :: c24 :: some v :: r) H) := ⟨sk25⟩
theorem xv25 (h : Q v H) : tVar 25 (c0 :: c1 :: c2 :: c3 :: c4 :: c5 :: c6 :: c7 :: c8 :: c9 :: c10 :: c11 :: c12 :: c13 :: c14 :: c15 :: c16 :: c17 :: c18 :: c19 :: c20 :: c21 :: c22 :: c23 :: c24 :: some v :: r) H Q := ⟨v, rfl, h⟩
instance o_xv25 : One (tVar 25 (c0 :: c1 :: c2 :: c3 :: c4 :: c5 :: c6 :: c7 :: c8 :: c9 :: c10 :: c11 :: c12 :: c13 :: c14 :: c15 :: c16 :: c17 :: c18 :: c19 :: c20 :: c21 :: c22 :: c23 :: c24 :: some v :: r) H Q) (Q v H) := ⟨xv25⟩
theorem sk26 (h : N (c0 :: c1 :: c2 :: c3 :: c4 :: c5 :: c6 :: c7 :: c8 :: c9 :: c10 :: c11 :: c12 :: c13 :: c14 :: c15 :: c16 :: c17 :: c18 :: c19 :: c20 :: c21 :: c22 :: c23 :: c24 :: c25 :: some v :: r) H) : SetK (c0 :: c1 :: c2 :: c3 :: c4 :: c5 :: c6 :: c7 :: c8 :: c9 :: c10 :: c11 :: c12 :: c13 :: c14 :: c15 :: c16 :: c17 :: c18 :: c19 :: c20 :: c21 :: c22 :: c23 :: c24 :: c25 :: c26 :: r) 26 v N H := h
instance o_sk26 : One (SetK (c0 :: c1 :: c2 :: c3 :: c4 :: c5 :: c6 :: c7 :: c8 :: c9 :: c10 :: c11 :: c12 :: c13 :: c14 :: c15 :: c16 :: c17 :: c18 :: c19 :: c20 :: c21 :: c22 :: c23 :: c24 :: c25 :: c26 :: r) 26 v N H) (N (c0 :: c1 :: c2 :: c3 :: c4 :: c5 :: c6 :: c7 :: c8 :: c9 :: c10 :: c11 :: c12 :: c13 :: c14 :: c15 :: c16 :: c17 :: c18 :: c19 :: c20 :: c21 :: c22 :: c23 :: c24 :: c25 :: some v :: r) H) := ⟨sk26⟩
theorem xv26 (h : Q v H) : tVar 26 (c0 :: c1 :: c2 :: c3 :: c4 :: c5 :: c6 :: c7 :: c8 :: c9 :: c10 :: c11 :: c12 :: c13 :: c14 :: c15 :: c16 :: c17 :: c18 :: c19 :: c20 :: c21 :: c22 :: c23 :: c24 :: c25 :: some v :: r) H Q := ⟨v, rfl, h⟩
instance o_xv26 : One (tVar 26 (c0 :: c1 :: c2 :: c3 :: c4 :: c5 :: c6 :: c7 :: c8 :: c9 :: c10 :: c11 :: c12 :: c13 :: c14 :: c15 :: c16 :: c17 :: c18 :: c19 :: c20 :: c21 :: c22 :: c23 :: c24 :: c25 :: some v :: r) H Q) (Q v H) := ⟨xv26⟩
theorem sk27 (h : N (c0 :: c1 :: c2 :: c3 :: c4 :: c5 :: c6 :: c7 :: c8 :: c9 :: c10 :: c11 :: c12 :: c13 :: c14 :: c15 :: c16 :: c17 :: c18 :: c19 :: c20 :: c21 :: c22 :: c23 :: c24 :: c25 :: c26 :: some v :: r) H) : SetK (c0 :: c1 :: c2 :: c3 :: c4 :: c5 :: c6 :: c7 :: c8 :: c9 :: c10 :: c11 :: c12 :: c13 :: c14 :: c15 :: c16 :: c17 :: c18 :: c19 :: c20 :: c21 :: c22 :: c23 :: c24 :: c25 :: c26 :: c27 :: r) 27 v N H := h
instance o_sk27 : One (SetK (c0 :: c1 :: c2 :: c3 :: c4 :: c5 :: c6 :: c7 :: c8 :: c9 :: c10 :: c11 :: c12 :: c13 :: c14 :: c15 :: c16 :: c17 :: c18 :: c19 :: c20 :: c21 :: c22 :: c23 :: c24 :: c25 :: c26 :: c27 :: r) 27 v N H) (N (c0 :: c1 :: c2 :: c3 :: c4 :: c5 :: c6 :: c7 :: c8 :: c9 :: c10 :: c11 :: c12 :: c13 :: c14 :: c15 :: c16 :: c17 :: c18 :: c19 :: c20 :: c21 :: c22 :: c23 :: c24 :: c25 :: c26 :: some v :: r) H) := ⟨sk27⟩
theorem xv27 (h : Q v H) : tVar 27 (c0 :: c1 :: c2 :: c3 :: c4 :: c5 :: c6 :: c7 :: c8 :: c9 :: c10 :: c11 :: c12 :: c13 :: c14 :: c15 :: c16 :: c17 :: c18 :: c19 :: c20 :: c21 :: c22 :: c23 :: c24 :: c25 :: c26 :: some v :: r) H Q := ⟨v, rfl, h⟩
instance o_xv27 : One (tVar 27 (c0 :: c1 :: c2 :: c3 :: c4 :: c5 :: c6 :: c7 :: c8 :: c9 :: c10 :: c11 :: c12 :: c13 :: c14 :: c15 :: c16 :: c17 :: c18 :: c19 :: c20 :: c21 :: c22 :: c23 :: c24 :: c25 :: c26 :: some v :: r) H Q) (Q v H) := ⟨xv27⟩
theorem sk28 (h : N (c0 :: c1 :: c2 :: c3 :: c4 :: c5 :: c6 :: c7 :: c8 :: c9 :: c10 :: c11 :: c12 :: c13 :: c14 :: c15 :: c16 :: c17 :: c18 :: c19 :: c20 :: c21 :: c22 :: c23 :: c24 :: c25 :: c26 :: c27 :: some v :: r) H) : SetK (c0 :: c1 :: c2 :: c3 :: c4 :: c5 :: c6 :: c7 :: c8 :: c9 :: c10 :: c11 :: c12 :: c13 :: c14 :: c15 :: c16 :: c17 :: c18 :: c19 :: c20 :: c21 :: c22 :: c23 :: c24 :: c25 :: c26 :: c27 :: c28 :: r) 28 v N H := h
instance o_sk28 : One (SetK (c0 :: c1 :: c2 :: c3 :: c4 :: c5 :: c6 :: c7 :: c8 :: c9 :: c10 :: c11 :: c12 :: c13 :: c14 :: c15 :: c16 :: c17 :: c18 :: c19 :: c20 :: c21 :: c22 :: c23 :: c24 :: c25 :: c26 :: c27 :: c28 :: r) 28 v N H) (N (c0 :: c1 :: c2 :: c3 :: c4 :: c5 :: c6 :: c7 :: c8 :: c9 :: c10 :: c11 :: c12 :: c13 :: c14 :: c15 :: c16 :: c17 :: c18 :: c19 :: c20 :: c21 :: c22 :: c23 :: c24 :: c25 :: c26 :: c27 :: some v :: r) H) := ⟨sk28⟩
theorem xv28 (h : Q v H) : tVar 28 (c0 :: c1 :: c2 :: c3 :: c4 :: c5 :: c6 :: c7 :: c8 :: c9 :: c10 :: c11 :: c12 :: c13 :: c14 :: c15 :: c16 :: c17 :: c18 :: c19 :: c20 :: c21 :: c22 :: c23 :: c24 :: c25 :: c26 :: c27 :: some v :: r) H Q := ⟨v, rfl, h⟩
instance o_xv28 : One (tVar 28 (c0 :: c1 :: c2 :: c3 :: c4 :: c5 :: c6 :: c7 :: c8 :: c9 :: c10 :: c11 :: c12 :: c13 :: c14 :: c15 :: c16 :: c17 :: c18 :: c19 :: c20 :: c21 :: c22 :: c23 :: c24 :: c25 :: c26 :: c27 :: some v :: r) H Q) (Q v H) := ⟨xv28⟩
theorem sk29 (h : N (c0 :: c1 :: c2 :: c3 :: c4 :: c5 :: c6 :: c7 :: c8 :: c9 :: c10 :: c11 :: c12 :: c13 :: c14 :: c15 :: c16 :: c17 :: c18 :: c19 :: c20 :: c21 :: c22 :: c23 :: c24 :: c25 :: c26 :: c27 :: c28 :: some v :: r) H) : SetK (c0 :: c1 :: c2 :: c3 :: c4 :: c5 :: c6 :: c7 :: c8 :: c9 :: c10 :: c11 :: c12 :: c13 :: c14 :: c15 :: c16 :: c17 :: c18 :: c19 :: c20 :: c21 :: c22 :: c23 :: c24 :: c25 :: c26 :: c27 :: c28 :: c29 :: r) 29 v N H := h
instance o_sk29 : One (SetK (c0 :: c1 :: c2 :: c3 :: c4 :: c5 :: c6 :: c7 :: c8 :: c9 :: c10 :: c11 :: c12 :: c13 :: c14 :: c15 :: c16 :: c17 :: c18 :: c19 :: c20 :: c21 :: c22 :: c23 :: c24 :: c25 :: c26 :: c27 :: c28 :: c29 :: r) 29 v N H) (N (c0 :: c1 :: c2 :: c3 :: c4 :: c5 :: c6 :: c7 :: c8 :: c9 :: c10 :: c11 :: c12 :: c13 :: c14 :: c15 :: c16 :: c17 :: c18 :: c19 :: c20 :: c21 :: c22 :: c23 :: c24 :: c25 :: c26 :: c27 :: c28 :: some v :: r) H) := ⟨sk29⟩
theorem xv29 (h : Q v H) : tVar 29 (c0 :: c1 :: c2 :: c3 :: c4 :: c5 :: c6 :: c7 :: c8 :: c9 :: c10 :: c11 :: c12 :: c13 :: c14 :: c15 :: c16 :: c17 :: c18 :: c19 :: c20 :: c21 :: c22 :: c23 :: c24 :: c25 :: c26 :: c27 :: c28 :: some v :: r) H Q := ⟨v, rfl, h⟩
instance o_xv29 : One (tVar 29 (c0 :: c1 :: c2 :: c3 :: c4 :: c5 :: c6 :: c7 :: c8 :: c9 :: c10 :: c11 :: c12 :: c13 :: c14 :: c15 :: c16 :: c17 :: c18 :: c19 :: c20 :: c21 :: c22 :: c23 :: c24 :: c25 :: c26 :: c27 :: c28 :: some v :: r) H Q) (Q v H) := ⟨xv29⟩
theorem sk30 (h : N (c0 :: c1 :: c2 :: c3 :: c4 :: c5 :: c6 :: c7 :: c8 :: c9 :: c10 :: c11 :: c12 :: c13 :: c14 :: c15 :: c16 :: c17 :: c18 :: c19 :: c20 :: c21 :: c22 :: c23 :: c24 :: c25 :: c26 :: c27 :: c28 :: c29 :: some v :: r) H) : SetK (c0 :: c1 :: c2 :: c3 :: c4 :: c5 :: c6 :: c7 :: c8 :: c9 :: c10 :: c11 :: c12 :: c13 :: c14 :: c15 :: c16 :: c17 :: c18 :: c19 :: c20 :: c21 :: c22 :: c23 :: c24 :: c25 :: c26 :: c27 :: c28 :: c29 :: c30 :: r) 30 v N H := h
instance o_sk30 : One (SetK (c0 :: c1 :: c2 :: c3 :: c4 :: c5 :: c6 :: c7 :: c8 :: c9 :: c10 :: c11 :: c12 :: c13 :: c14 :: c15 :: c16 :: c17 :: c18 :: c19 :: c20 :: c21 :: c22 :: c23 :: c24 :: c25 :: c26 :: c27 :: c28 :: c29 :: c30 :: r) 30 v N H) (N (c0 :: c1 :: c2 :: c3 :: c4 :: c5 :: c6 :: c7 :: c8 :: c9 :: c10 :: c11 :: c12 :: c13 :: c14 :: c15 :: c16 :: c17 :: c18 :: c19 :: c20 :: c21 :: c22 :: c23 :: c24 :: c25 :: c26 :: c27 :: c28 :: c29 :: some v :: r) H) := ⟨sk30⟩
theorem xv30 (h : Q v H) : tVar 30 (c0 :: c1 :: c2 :: c3 :: c4 :: c5 :: c6 :: c7 :: c8 :: c9 :: c10 :: c11 :: c12 :: c13 :: c14 :: c15 :: c16 :: c17 :: c18 :: c19 :: c20 :: c21 :: c22 :: c23 :: c24 :: c25 :: c26 :: c27 :: c28 :: c29 :: some v :: r) H Q := ⟨v, rfl, h⟩
instance o_xv30 : One (tVar 30 (c0 :: c1 :: c2 :: c3 :: c4 :: c5 :: c6 :: c7 :: c8 :: c9 :: c10 :: c11 :: c12 :: c13 :: c14 :: c15 :: c16 :: c17 :: c18 :: c19 :: c20 :: c21 :: c22 :: c23 :: c24 :: c25 :: c26 :: c27 :: c28 :: c29 :: some v :: r) H Q) (Q v H) := ⟨xv30⟩
theorem sk31 (h : N (c0 :: c1 :: c2 :: c3 :: c4 :: c5 :: c6 :: c7 :: c8 :: c9 :: c10 :: c11 :: c12 :: c13 :: c14 :: c15 :: c16 :: c17 :: c18 :: c19 :: c20 :: c21 :: c22 :: c23 :: c24 :: c25 :: c26 :: c27 :: c28 :: c29 :: c30 :: some v :: r) H) : SetK (c0 :: c1 :: c2 :: c3 :: c4 :: c5 :: c6 :: c7 :: c8 :: c9 :: c10 :: c11 :: c12 :: c13 :: c14 :: c15 :: c16 :: c17 :: c18 :: c19 :: c20 :: c21 :: c22 :: c23 :: c24 :: c25 :: c26 :: c27 :: c28 :: c29 :: c30 :: c31 :: r) 31 v N H := h
instance o_sk31 : One (SetK (c0 :: c1 :: c2 :: c3 :: c4 :: c5 :: c6 :: c7 :: c8 :: c9 :: c10 :: c11 :: c12 :: c13 :: c14 :: c15 :: c16 :: c17 :: c18 :: c19 :: c20 :: c21 :: c22 :: c23 :: c24 :: c25 :: c26 :: c27 :: c28 :: c29 :: c30 :: c31 :: r) 31 v N H) (N (c0 :: c1 :: c2 :: c3 :: c4 :: c5 :: c6 :: c7 :: c8 :: c9 :: c10 :: c11 :: c12 :: c13 :: c14 :: c15 :: c16 :: c17 :: c18 :: c19 :: c20 :: c21 :: c22 :: c23 :: c24 :: c25 :: c26 :: c27 :: c28 :: c29 :: c30 :: some v :: r) H) := ⟨sk31⟩
theorem xv31 (h : Q v H) : tVar 31 (c0 :: c1 :: c2 :: c3 :: c4 :: c5 :: c6 :: c7 :: c8 :: c9 :: c10 :: c11 :: c12 :: c13 :: c14 :: c15 :: c16 :: c17 :: c18 :: c19 :: c20 :: c21 :: c22 :: c23 :: c24 :: c25 :: c26 :: c27 :: c28 :: c29 :: c30 :: some v :: r) H Q := ⟨v, rfl, h⟩
instance o_xv31 : One (tVar 31 (c0 :: c1 :: c2 :: c3 :: c4 :: c5 :: c6 :: c7 :: c8 :: c9 :: c10 :: c11 :: c12 :: c13 :: c14 :: c15 :: c16 :: c17 :: c18 :: c19 :: c20 :: c21 :: c22 :: c23 :: c24 :: c25 :: c26 :: c27 :: c28 :: c29 :: c30 :: some v :: r) H Q) (Q v H) := ⟨xv31⟩
theorem sk32 (h : N (c0 :: c1 :: c2 :: c3 :: c4 :: c5 :: c6 :: c7 :: c8 :: c9 :: c10 :: c11 :: c12 :: c13 :: c14 :: c15 :: c16 :: c17 :: c18 :: c19 :: c20 :: c21 :: c22 :: c23 :: c24 :: c25 :: c26 :: c27 :: c28 :: c29 :: c30 :: c31 :: some v :: r) H) : SetK (c0 :: c1 :: c2 :: c3 :: c4 :: c5 :: c6 :: c7 :: c8 :: c9 :: c10 :: c11 :: c12 :: c13 :: c14 :: c15 :: c16 :: c17 :: c18 :: c19 :: c20 :: c21 :: c22 :: c23 :: c24 :: c25 :: c26 :: c27 :: c28 :: c29 :: c30 :: c31 :: c32 :: r) 32 v N H := h
instance o_sk32 : One (SetK (c0 :: c1 :: c2 :: c3 :: c4 :: c5 :: c6 :: c7 :: c8 :: c9 :: c10 :: c11 :: c12 :: c13 :: c14 :: c15 :: c16 :: c17 :: c18 :: c19 :: c20 :: c21 :: c22 :: c23 :: c24 :: c25 :: c26 :: c27 :: c28 :: c29 :: c30 :: c31 :: c32 :: r) 32 v N H) (N (c0 :: c1 :: c2 :: c3 :: c4 :: c5 :: c6 :: c7 :: c8 :: c9 :: c10 :: c11 :: c12 :: c13 :: c14 :: c15 :: c16 :: c17 :: c18 :: c19 :: c20 :: c21 :: c22 :: c23 :: c24 :: c25 :: c26 :: c27 :: c28 :: c29 :: c30 :: c31 :: some v :: r) H) := ⟨sk32⟩
theorem xv32 (h : Q v H) : tVar 32 (c0 :: c1 :: c2 :: c3 :: c4 :: c5 :: c6 :: c7 :: c8 :: c9 :: c10 :: c11 :: c12 :: c13 :: c14 :: c15 :: c16 :: c17 :: c18 :: c19 :: c20 :: c21 :: c22 :: c23 :: c24 :: c25 :: c26 :: c27 :: c28 :: c29 :: c30 :: c31 :: some v :: r) H Q := ⟨v, rfl, h⟩
instance o_xv32 : One (tVar 32 (c0 :: c1 :: c2 :: c3 :: c4 :: c5 :: c6 :: c7 :: c8 :: c9 :: c10 :: c11 :: c12 :: c13 :: c14 :: c15 :: c16 :: c17 :: c18 :: c19 :: c20 :: c21 :: c22 :: c23 :: c24 :: c25 :: c26 :: c27 :: c28 :: c29 :: c30 :: c31 :: some v :: r) H Q) (Q v H) := ⟨xv32⟩
theorem sk33 (h : N (c0 :: c1 :: c2 :: c3 :: c4 :: c5 :: c6 :: c7 :: c8 :: c9 :: c10 :: c11 :: c12 :: c13 :: c14 :: c15 :: c16 :: c17 :: c18 :: c19 :: c20 :: c21 :: c22 :: c23 :: c24 :: c25 :: c26 :: c27 :: c28 :: c29 :: c30 :: c31 :: c32 :: some v :: r) H) : SetK (c0 :: c1 :: c2 :: c3 :: c4 :: c5 :: c6 :: c7 :: c8 :: c9 :: c10 :: c11 :: c12 :: c13 :: c14 :: c15 :: c16 :: c17 :: c18 :: c19 :: c20 :: c21 :: c22 :: c23 :: c24 :: c25 :: c26 :: c27 :: c28 :: c29 :: c30 :: c31 :: c32 :: c33 :: r) 33 v N H := h
instance o_sk33 : One (SetK (c0 :: c1 :: c2 :: c3 :: c4 :: c5 :: c6 :: c7 :: c8 :: c9 :: c10 :: c11 :: c12 :: c13 :: c14 :: c15 :: c16 :: c17 :: c18 :: c19 :: c20 :: c21 :: c22 :: c23 :: c24 :: c25 :: c26 :: c27 :: c28 :: c29 :: c30 :: c31 :: c32 :: c33 :: r) 33 v N H) (N (c0 :: c1 :: c2 :: c3 :: c4 :: c5 :: c6 :: c7 :: c8 :: c9 :: c10 :: c11 :: c12 :: c13 :: c14 :: c15 :: c16 :: c17 :: c18 :: c19 :: c20 :: c21 :: c22 :: c23 :: c24 :: c25 :: c26 :: c27 :: c28 :: c29 :: c30 :: c31 :: c32 :: some v :: r) H) := ⟨sk33⟩
theorem xv33 (h : Q v H) : tVar 33 (c0 :: c1 :: c2 :: c3 :: c4 :: c5 :: c6 :: c7 :: c8 :: c9 :: c10 :: c11 :: c12 :: c13 :: c14 :: c15 :: c16 :: c17 :: c18 :: c19 :: c20 :: c21 :: c22 :: c23 :: c24 :: c25 :: c26 :: c27 :: c28 :: c29 :: c30 :: c31 :: c32 :: some v :: r) H Q := ⟨v, rfl, h⟩
instance o_xv33 : One (tVar 33 (c0 :: c1 :: c2 :: c3 :: c4 :: c5 :: c6 :: c7 :: c8 :: c9 :: c10 :: c11 :: c12 :: c13 :: c14 :: c15 :: c16 :: c17 :: c18 :: c19 :: c20 :: c21 :: c22 :: c23 :: c24 :: c25 :: c26 :: c27 :: c28 :: c29 :: c30 :: c31 :: c32 :: some v :: r) H Q) (Q v H) := ⟨xv33⟩
theorem sk34 (h : N (c0 :: c1 :: c2 :: c3 :: c4 :: c5 :: c6 :: c7 :: c8 :: c9 :: c10 :: c11 :: c12 :: c13 :: c14 :: c15 :: c16 :: c17 :: c18 :: c19 :: c20 :: c21 :: c22 :: c23 :: c24 :: c25 :: c26 :: c27 :: c28 :: c29 :: c30 :: c31 :: c32 :: c33 :: some v :: r) H) : SetK (c0 :: c1 :: c2 :: c3 :: c4 :: c5 :: c6 :: c7 :: c8 :: c9 :: c10 :: c11 :: c12 :: c13 :: c14 :: c15 :: c16 :: c17 :: c18 :: c19 :: c20 :: c21 :: c22 :: c23 :: c24 :: c25 :: c26 :: c27 :: c28 :: c29 :: c30 :: c31 :: c32 :: c33 :: c34 :: r) 34 v N H := h
instance o_sk34 : One (SetK (c0 :: c1 :: c2 :: c3 :: c4 :: c5 :: c6 :: c7 :: c8 :: c9 :: c10 :: c11 :: c12 :: c13 :: c14 :: c15 :: c16 :: c17 :: c18 :: c19 :: c20 :: c21 :: c22 :: c23 :: c24 :: c25 :: c26 :: c27 :: c28 :: c29 :: c30 :: c31 :: c32 :: c33 :: c34 :: r) 34 v N H) (N (c0 :: c1 :: c2 :: c3 :: c4 :: c5 :: c6 :: c7 :: c8 :: c9 :: c10 :: c11 :: c12 :: c13 :: c14 :: c15 :: c16 :: c17 :: c18 :: c19 :: c20 :: c21 :: c22 :: c23 :: c24 :: c25 :: c26 :: c27 :: c28 :: c29 :: c30 :: c31 :: c32 :: c33 :: some v :: r) H) := ⟨sk34⟩
theorem xv34 (h : Q v H) : tVar 34 (c0 :: c1 :: c2 :: c3 :: c4 :: c5 :: c6 :: c7 :: c8 :: c9 :: c10 :: c11 :: c12 :: c13 :: c14 :: c15 :: c16 :: c17 :: c18 :: c19 :: c20 :: c21 :: c22 :: c23 :: c24 :: c25 :: c26 :: c27 :: c28 :: c29 :: c30 :: c31 :: c32 :: c33 :: some v :: r) H Q := ⟨v, rfl, h⟩
instance o_xv34 : One (tVar 34 (c0 :: c1 :: c2 :: c3 :: c4 :: c5 :: c6 :: c7 :: c8 :: c9 :: c10 :: c11 :: c12 :: c13 :: c14 :: c15 :: c16 :: c17 :: c18 :: c19 :: c20 :: c21 :: c22 :: c23 :: c24 :: c25 :: c26 :: c27 :: c28 :: c29 :: c30 :: c31 :: c32 :: c33 :: some v :: r) H Q) (Q v H) := ⟨xv34⟩
theorem sk35 (h : N (c0 :: c1 :: c2 :: c3 :: c4 :: c5 :: c6 :: c7 :: c8 :: c9 :: c10 :: c11 :: c12 :: c13 :: c14 :: c15 :: c16 :: c17 :: c18 :: c19 :: c20 :: c21 :: c22 :: c23 :: c24 :: c25 :: c26 :: c27 :: c28 :: c29 :: c30 :: c31 :: c32 :: c33 :: c34 :: some v :: r) H) : SetK (c0 :: c1 :: c2 :: c3 :: c4 :: c5 :: c6 :: c7 :: c8 :: c9 :: c10 :: c11 :: c12 :: c13 :: c14 :: c15 :: c16 :: c17 :: c18 :: c19 :: c20 :: c21 :: c22 :: c23 :: c24 :: c25 :: c26 :: c27 :: c28 :: c29 :: c30 :: c31 :: c32 :: c33 :: c34 :: c35 :: r) 35 v N H := h
instance o_sk35 : One (SetK (c0 :: c1 :: c2 :: c3 :: c4 :: c5 :: c6 :: c7 :: c8 :: c9 :: c10 :: c11 :: c12 :: c13 :: c14 :: c15 :: c16 :: c17 :: c18 :: c19 :: c20 :: c21 :: c22 :: c23 :: c24 :: c25 :: c26 :: c27 :: c28 :: c29 :: c30 :: c31 :: c32 :: c33 :: c34 :: c35 :: r) 35 v N H) (N (c0 :: c1 :: c2 :: c3 :: c4 :: c5 :: c6 :: c7 :: c8 :: c9 :: c10 :: c11 :: c12 :: c13 :: c14 :: c15 :: c16 :: c17 :: c18 :: c19 :: c20 :: c21 :: c22 :: c23 :: c24 :: c25 :: c26 :: c27 :: c28 :: c29 :: c30 :: c31 :: c32 :: c33 :: c34 :: some v :: r) H) := ⟨sk35⟩
theorem xv35 (h : Q v H) : tVar 35 (c0 :: c1 :: c2 :: c3 :: c4 :: c5 :: c6 :: c7 :: c8 :: c9 :: c10 :: c11 :: c12 :: c13 :: c14 :: c15 :: c16 :: c17 :: c18 :: c19 :: c20 :: c21 :: c22 :: c23 :: c24 :: c25 :: c26 :: c27 :: c28 :: c29 :: c30 :: c31 :: c32 :: c33 :: c34 :: some v :: r) H Q := ⟨v, rfl, h⟩
instance o_xv35 : One (tVar 35 (c0 :: c1 :: c2 :: c3 :: c4 :: c5 :: c6 :: c7 :: c8 :: c9 :: c10 :: c11 :: c12 :: c13 :: c14 :: c15 :: c16 :: c17 :: c18 :: c19 :: c20 :: c21 :: c22 :: c23 :: c24 :: c25 :: c26 :: c27 :: c28 :: c29 :: c30 :: c31 :: c32 :: c33 :: c34 :: some v :: r) H Q) (Q v H) := ⟨xv35⟩
theorem sk36 (h : N (c0 :: c1 :: c2 :: c3 :: c4 :: c5 :: c6 :: c7 :: c8 :: c9 :: c10 :: c11 :: c12 :: c13 :: c14 :: c15 :: c16 :: c17 :: c18 :: c19 :: c20 :: c21 :: c22 :: c23 :: c24 :: c25 :: c26 :: c27 :: c28 :: c29 :: c30 :: c31 :: c32 :: c33 :: c34 :: c35 :: some v :: r) H) : SetK (c0 :: c1 :: c2 :: c3 :: c4 :: c5 :: c6 :: c7 :: c8 :: c9 :: c10 :: c11 :: c12 :: c13 :: c14 :: c15 :: c16 :: c17 :: c18 :: c19 :: c20 :: c21 :: c22 :: c23 :: c24 :: c25 :: c26 :: c27 :: c28 :: c29 :: c30 :: c31 :: c32 :: c33 :: c34 :: c35 :: c36 :: r) 36 v N H := h
instance o_sk36 : One (SetK (c0 :: c1 :: c2 :: c3 :: c4 :: c5 :: c6 :: c7 :: c8 :: c9 :: c10 :: c11 :: c12 :: c13 :: c14 :: c15 :: c16 :: c17 :: c18 :: c19 :: c20 :: c21 :: c22 :: c23 :: c24 :: c25 :: c26 :: c27 :: c28 :: c29 :: c30 :: c31 :: c32 :: c33 :: c34 :: c35 :: c36 :: r) 36 v N H) (N (c0 :: c1 :: c2 :: c3 :: c4 :: c5 :: c6 :: c7 :: c8 :: c9 :: c10 :: c11 :: c12 :: c13 :: c14 :: c15 :: c16 :: c17 :: c18 :: c19 :: c20 :: c21 :: c22 :: c23 :: c24 :: c25 :: c26 :: c27 :: c28 :: c29 :: c30 :: c31 :: c32 :: c33 :: c34 :: c35 :: some v :: r) H) := ⟨sk36⟩
theorem xv36 (h : Q v H) : tVar 36 (c0 :: c1 :: c2 :: c3 :: c4 :: c5 :: c6 :: c7 :: c8 :: c9 :: c10 :: c11 :: c12 :: c13 :: c14 :: c15 :: c16 :: c17 :: c18 :: c19 :: c20 :: c21 :: c22 :: c23 :: c24 :: c25 :: c26 :: c27 :: c28 :: c29 :: c30 :: c31 :: c32 :: c33 :: c34 :: c35 :: some v :: r) H Q := ⟨v, rfl, h⟩
instance o_xv36 : One (tVar 36 (c0 :: c1 :: c2 :: c3 :: c4 :: c5 :: c6 :: c7 :: c8 :: c9 :: c10 :: c11 :: c12 :: c13 :: c14 :: c15 :: c16 :: c17 :: c18 :: c19 :: c20 :: c21 :: c22 :: c23 :: c24 :: c25 :: c26 :: c27 :: c28 :: c29 :: c30 :: c31 :: c32 :: c33 :: c34 :: c35 :: some v :: r) H Q) (Q v H) := ⟨xv36⟩
theorem sk37 (h : N (c0 :: c1 :: c2 :: c3 :: c4 :: c5 :: c6 :: c7 :: c8 :: c9 :: c10 :: c11 :: c12 :: c13 :: c14 :: c15 :: c16 :: c17 :: c18 :: c19 :: c20 :: c21 :: c22 :: c23 :: c24 :: c25 :: c26 :: c27 :: c28 :: c29 :: c30 :: c31 :: c32 :: c33 :: c34 :: c35 :: c36 :: some v :: r) H) : SetK (c0 :: c1 :: c2 :: c3 :: c4 :: c5 :: c6 :: c7 :: c8 :: c9 :: c10 :: c11 :: c12 :: c13 :: c14 :: c15 :: c16 :: c17 :: c18 :: c19 :: c20 :: c21 :: c22 :: c23 :: c24 :: c25 :: c26 :: c27 :: c28 :: c29 :: c30 :: c31 :: c32 :: c33 :: c34 :: c35 :: c36 :: c37 :: r) 37 v N H := h
instance o_sk37 : One (SetK (c0 :: c1 :: c2 :: c3 :: c4 :: c5 :: c6 :: c7 :: c8 :: c9 :: c10 :: c11 :: c12 :: c13 :: c14 :: c15 :: c16 :: c17 :: c18 :: c19 :: c20 :: c21 :: c22 :: c23 :: c24 :: c25 :: c26 :: c27 :: c28 :: c29 :: c30 :: c31 :: c32 :: c33 :: c34 :: c35 :: c36 :: c37 :: r) 37 v N H) (N (c0 :: c1 :: c2 :: c3 :: c4 :: c5 :: c6 :: c7 :: c8 :: c9 :: c10 :: c11 :: c12 :: c13 :: c14 :: c15 :: c16 :: c17 :: c18 :: c19 :: c20 :: c21 :: c22 :: c23 :: c24 :: c25 :: c26 :: c27 :: c28 :: c29 :: c30 :: c31 :: c32 :: c33 :: c34 :: c35 :: c36 :: some v :: r) H) := ⟨sk37⟩
theorem xv37 (h : Q v H) : tVar 37 (c0 :: c1 :: c2 :: c3 :: c4 :: c5 :: c6 :: c7 :: c8 :: c9 :: c10 :: c11 :: c12 :: c13 :: c14 :: c15 :: c16 :: c17 :: c18 :: c19 :: c20 :: c21 :: c22 :: c23 :: c24 :: c25 :: c26 :: c27 :: c28 :: c29 :: c30 :: c31 :: c32 :: c33 :: c34 :: c35 :: c36 :: some v :: r) H Q := ⟨v, rfl, h⟩
instance o_xv37 : One (tVar 37 (c0 :: c1 :: c2 :: c3 :: c4 :: c5 :: c6 :: c7 :: c8 :: c9 :: c10 :: c11 :: c12 :: c13 :: c14 :: c15 :: c16 :: c17 :: c18 :: c19 :: c20 :: c21 :: c22 :: c23 :: c24 :: c25 :: c26 :: c27 :: c28 :: c29 :: c30 :: c31 :: c32 :: c33 :: c34 :: c35 :: c36 :: some v :: r) H Q) (Q v H) := ⟨xv37⟩
theorem sk38 (h : N (c0 :: c1 :: c2 :: c3 :: c4 :: c5 :: c6 :: c7 :: c8 :: c9 :: c10 :: c11 :: c12 :: c13 :: c14 :: c15 :: c16 :: c17 :: c18 :: c19 :: c20 :: c21 :: c22 :: c23 :: c24 :: c25 :: c26 :: c27 :: c28 :: c29 :: c30 :: c31 :: c32 :: c33 :: c34 :: c35 :: c36 :: c37 :: some v :: r) H) : SetK (c0 :: c1 :: c2 :: c3 :: c4 :: c5 :: c6 :: c7 :: c8 :: c9 :: c10 :: c11 :: c12 :: c13 :: c14 :: c15 :: c16 :: c17 :: c18 :: c19 :: c20 :: c21 :: c22 :: c23 :: c24 :: c25 :: c26 :: c27 :: c28 :: c29 :: c30 :: c31 :: c32 :: c33 :: c34 :: c35 :: c36 :: c37 :: c38 :: r) 38 v N H := h
instance o_sk38 : One (SetK (c0 :: c1 :: c2 :: c3 :: c4 :: c5 :: c6 :: c7 :: c8 :: c9 :: c10 :: c11 :: c12 :: c13 :: c14 :: c15 :: c16 :: c17 :: c18 :: c19 :: c20 :: c21 :: c22 :: c23 :: c24 :: c25 :: c26 :: c27 :: c28 :: c29 :: c30 :: c31 :: c32 :: c33 :: c34 :: c35 :: c36 :: c37 :: c38 :: r) 38 v N H) (N (c0 :: c1 :: c2 :: c3 :: c4 :: c5 :: c6 :: c7 :: c8 :: c9 :: c10 :: c11 :: c12 :: c13 :: c14 :: c15 :: c16 :: c17 :: c18 :: c19 :: c20 :: c21 :: c22 :: c23 :: c24 :: c25 :: c26 :: c27 :: c28 :: c29 :: c30 :: c31 :: c32 :: c33 :: c34 :: c35 :: c36 :: c37 :: some v :: r) H) := ⟨sk38⟩
theorem xv38 (h : Q v H) : tVar 38 (c0 :: c1 :: c2 :: c3 :: c4 :: c5 :: c6 :: c7 :: c8 :: c9 :: c10 :: c11 :: c12 :: c13 :: c14 :: c15 :: c16 :: c17 :: c18 :: c19 :: c20 :: c21 :: c22 :: c23 :: c24 :: c25 :: c26 :: c27 :: c28 :: c29 :: c30 :: c31 :: c32 :: c33 :: c34 :: c35 :: c36 :: c37 :: some v :: r) H Q := ⟨v, rfl, h⟩
instance o_xv38 : One (tVar 38 (c0 :: c1 :: c2 :: c3 :: c4 :: c5 :: c6 :: c7 :: c8 :: c9 :: c10 :: c11 :: c12 :: c13 :: c14 :: c15 :: c16 :: c17 :: c18 :: c19 :: c20 :: c21 :: c22 :: c23 :: c24 :: c25 :: c26 :: c27 :: c28 :: c29 :: c30 :: c31 :: c32 :: c33 :: c34 :: c35 :: c36 :: c37 :: some v :: r) H Q) (Q v H) := ⟨xv38⟩
theorem sk39 (h : N (c0 :: c1 :: c2 :: c3 :: c4 :: c5 :: c6 :: c7 :: c8 :: c9 :: c10 :: c11 :: c12 :: c13 :: c14 :: c15 :: c16 :: c17 :: c18 :: c19 :: c20 :: c21 :: c22 :: c23 :: c24 :: c25 :: c26 :: c27 :: c28 :: c29 :: c30 :: c31 :: c32 :: c33 :: c34 :: c35 :: c36 :: c37 :: c38 :: some v :: r) H) : SetK (c0 :: c1 :: c2 :: c3 :: c4 :: c5 :: c6 :: c7 :: c8 :: c9 :: c10 :: c11 :: c12 :: c13 :: c14 :: c15 :: c16 :: c17 :: c18 :: c19 :: c20 :: c21 :: c22 :: c23 :: c24 :: c25 :: c26 :: c27 :: c28 :: c29 :: c30 :: c31 :: c32 :: c33 :: c34 :: c35 :: c36 :: c37 :: c38 :: c39 :: r) 39 v N H := h
instance o_sk39 : One (SetK (c0 :: c1 :: c2 :: c3 :: c4 :: c5 :: c6 :: c7 :: c8 :: c9 :: c10 :: c11 :: c12 :: c13 :: c14 :: c15 :: c16 :: c17 :: c18 :: c19 :: c20 :: c21 :: c22 :: c23 :: c24 :: c25 :: c26 :: c27 :: c28 :: c29 :: c30 :: c31 :: c32 :: c33 :: c34 :: c35 :: c36 :: c37 :: c38 :: c39 :: r) 39 v N H) (N (c0 :: c1 :: c2 :: c3 :: c4 :: c5 :: c6 :: c7 :: c8 :: c9 :: c10 :: c11 :: c12 :: c13 :: c14 :: c15 :: c16 :: c17 :: c18 :: c19 :: c20 :: c21 :: c22 :: c23 :: c24 :: c25 :: c26 :: c27 :: c28 :: c29 :: c30 :: c31 :: c32 :: c33 :: c34 :: c35 :: c36 :: c37 :: c38 :: some v :: r) H) := ⟨sk39⟩
theorem xv39 (h : Q v H) : tVar 39 (c0 :: c1 :: c2 :: c3 :: c4 :: c5 :: c6 :: c7 :: c8 :: c9 :: c10 :: c11 :: c12 :: c13 :: c14 :: c15 :: c16 :: c17 :: c18 :: c19 :: c20 :: c21 :: c22 :: c23 :: c24 :: c25 :: c26 :: c27 :: c28 :: c29 :: c30 :: c31 :: c32 :: c33 :: c34 :: c35 :: c36 :: c37 :: c38 :: some v :: r) H Q := ⟨v, rfl, h⟩
instance o_xv39 : One (tVar 39 (c0 :: c1 :: c2 :: c3 :: c4 :: c5 :: c6 :: c7 :: c8 :: c9 :: c10 :: c11 :: c12 :: c13 :: c14 :: c15 :: c16 :: c17 :: c18 :: c19 :: c20 :: c21 :: c22 :: c23 :: c24 :: c25 :: c26 :: c27 :: c28 :: c29 :: c30 :: c31 :: c32 :: c33 :: c34 :: c35 :: c36 :: c37 :: c38 :: some v :: r) H Q) (Q v H) := ⟨xv39⟩
theorem sk40 (h : N (c0 :: c1 :: c2 :: c3 :: c4 :: c5 :: c6 :: c7 :: c8 :: c9 :: c10 :: c11 :: c12 :: c13 :: c14 :: c15 :: c16 :: c17 :: c18 :: c19 :: c20 :: c21 :: c22 :: c23 :: c24 :: c25 :: c26 :: c27 :: c28 :: c29 :: c30 :: c31 :: c32 :: c33 :: c34 :: c35 :: c36 :: c37 :: c38 :: c39 :: some v :: r) H) : SetK (c0 :: c1 :: c2 :: c3 :: c4 :: c5 :: c6 :: c7 :: c8 :: c9 :: c10 :: c11 :: c12 :: c13 :: c14 :: c15 :: c16 :: c17 :: c18 :: c19 :: c20 :: c21 :: c22 :: c23 :: c24 :: c25 :: c26 :: c27 :: c28 :: c29 :: c30 :: c31 :: c32 :: c33 :: c34 :: c35 :: c36 :: c37 :: c38 :: c39 :: c40 :: r) 40 v N H := h
instance o_sk40 : One (SetK (c0 :: c1 :: c2 :: c3 :: c4 :: c5 :: c6 :: c7 :: c8 :: c9 :: c10 :: c11 :: c12 :: c13 :: c14 :: c15 :: c16 :: c17 :: c18 :: c19 :: c20 :: c21 :: c22 :: c23 :: c24 :: c25 :: c26 :: c27 :: c28 :: c29 :: c30 :: c31 :: c32 :: c33 :: c34 :: c35 :: c36 :: c37 :: c38 :: c39 :: c40 :: r) 40 v N H) (N (c0 :: c1 :: c2 :: c3 :: c4 :: c5 :: c6 :: c7 :: c8 :: c9 :: c10 :: c11 :: c12 :: c13 :: c14 :: c15 :: c16 :: c17 :: c18 :: c19 :: c20 :: c21 :: c22 :: c23 :: c24 :: c25 :: c26 :: c27 :: c28 :: c29 :: c30 :: c31 :: c32 :: c33 :: c34 :: c35 :: c36 :: c37 :: c38 :: c39 :: some v :: r) H) := ⟨sk40⟩
theorem xv40 (h : Q v H) : tVar 40 (c0 :: c1 :: c2 :: c3 :: c4 :: c5 :: c6 :: c7 :: c8 :: c9 :: c10 :: c11 :: c12 :: c13 :: c14 :: c15 :: c16 :: c17 :: c18 :: c19 :: c20 :: c21 :: c22 :: c23 :: c24 :: c25 :: c26 :: c27 :: c28 :: c29 :: c30 :: c31 :: c32 :: c33 :: c34 :: c35 :: c36 :: c37 :: c38 :: c39 :: some v :: r) H Q := ⟨v, rfl, h⟩
instance o_xv40 : One (tVar 40 (c0 :: c1 :: c2 :: c3 :: c4 :: c5 :: c6 :: c7 :: c8 :: c9 :: c10 :: c11 :: c12 :: c13 :: c14 :: c15 :: c16 :: c17 :: c18 :: c19 :: c20 :: c21 :: c22 :: c23 :: c24 :: c25 :: c26 :: c27 :: c28 :: c29 :: c30 :: c31 :: c32 :: c33 :: c34 :: c35 :: c36 :: c37 :: c38 :: c39 :: some v :: r) H Q) (Q v H) := ⟨xv40⟩
end
section
open PySem L2
theorem cutT {t : TT} {σ : L2.St} {H : Hp} {R : Bool → Hp → Prop} (M : Bool → Hp → Prop) (h : ∀ R' : Bool → Hp → Prop, (∀ b H1, M b H1 → R' b H1) → t σ H R') (k : ∀ b H1, M b H1 → R b H1) : t σ H R := h _ k
theorem cutE {t : TE} {σ : L2.St} {H : Hp} {R : VK} (M : V → Hp → Prop) (h : ∀ R' : VK, (∀ b H1, M b H1 → R' b H1) → t σ H R') (k : ∀ b H1, M b H1 → R b H1) : t σ H R := h _ k
end
section
variable {size : Int} {f g : Int → Int} {a h e s d u v x : Int} {m n i j : Nat} {hs : List Int}
theorem far_least (h0 : 0 < size) {k : Int} (k0 : 0 < k) (hd : size ∣ k - (e - s)) : far size s e ≤ k := by
  obtain ⟨p0, p1⟩ := far_pos (s := s) (e := e) h0
  have h2 := Int.dvd_sub (far_dvd (s := s) (e := e) h0) hd
  rw [show far size s e - (e - s) - (k - (e - s)) = far size s e - k by omega] at h2
  apply Classical.byContradiction
  intro hc
  have := Int.le_of_dvd (by omega) h2
  omega
theorem btw_back (h0 : 0 < size) (hb : btw size u x v = true) : far size x v ≤ far size x u := by
  have e1 := btw_split h0 hb
  have d1 := far_dvd (s := u) (e := x) h0
  have d2 := far_dvd (s := x) (e := u) h0
  have d3 := Int.dvd_add d1 d2
  rw [show far size u x - (x - u) + (far size x u - (u - x)) = far size u x + far size x u by omega] at d3
  have p1 := far_pos (s := u) (e := x) h0
  have p2 := far_pos (s := x) (e := u) h0
  have p3 := far_pos (s := u) (e := v) h0
  have := Int.le_of_dvd (by omega) d3
  omega
theorem btw_ne (h0 : 0 < size) (hb : btw size u x v = true) : x ≠ u := fun e => by
  subst e
  rw [btw_left h0] at hb
  cases hb
theorem it_cong (hg : ∀ h, h ≠ u → g h = f h) : ∀ {n : Nat} {x : Int}, (∀ i, i < n → it f i x ≠ u) → it g n x = it f n x ∧ wl size g n x = wl size f n x
  | 0, x, _ => ⟨rfl, rfl⟩
  | n + 1, x, hn => by
    have h0 : g x = f x := hg x (hn 0 (by omega))
    obtain ⟨a, b⟩ := it_cong hg (n := n) (x := f x) fun i hi => hn (i + 1) (by omega)
    refine ⟨?_, ?_⟩
    · show it g n (g x) = it f n (f x); rw [h0, a]
    · show far size x (g x) + wl size g n (g x) = far size x (f x) + wl size f n (f x); rw [h0, b]
theorem free_way (h0 : 0 < size) (hb : btw size u x v = true) (hn : it f n x = v) (hw : wl size f n x = far size x v) : ∀ i, i < n → it f i x ≠ u := fun i hi e => by
  have a1 := wl_lt (f := f) (h := x) h0 hi
  have a2 := wl_dvd (f := f) (n := i) (h := x) h0
  rw [e] at a2
  have a3 := btw_back h0 hb
  cases i with
  | zero => exact btw_ne h0 hb e
  | succ i =>
    have a4 := wl_ge (n := i + 1) (f := f) (h := x) h0
    have := far_least h0 (by omega) a2
    omega
theorem parted (h0 : 0 < size) (hb : btw size u x (f u) = true) (t : Tr size f x (f u) (far size x (f u))) (hg : ∀ h, h ≠ u → g h = f h) (hu : g u = x) : Tr size g u (f u) (far size u (f u)) := by
  obtain ⟨n, n1, e1, e2⟩ := t
  obtain ⟨c1, c2⟩ := it_cong (size := size) hg (free_way h0 hb e1 e2)
  refine ⟨n + 1, by omega, ?_, ?_⟩
  · show it g n (g u) = _; rw [hu, c1, e1]
  · show far size u (g u) + wl size g n (g u) = _; rw [hu, c2, e2, btw_split h0 hb]
theorem ways_kept (h1 : ∀ a, ∃ m, 1 ≤ m ∧ it g m a = f a ∧ wl size g m a = far size a (f a)) : ∀ (n : Nat) (a : Int), ∃ m, n ≤ m ∧ it g m a = it f n a ∧ wl size g m a = wl size f n a
  | 0, a => ⟨0, Nat.le_refl _, rfl, rfl⟩
  | n + 1, a => by
    obtain ⟨m, m1, e1, e2⟩ := h1 a
    obtain ⟨m', m2, e3, e4⟩ := ways_kept h1 n (f a)
    refine ⟨m + m', by omega, ?_, ?_⟩
    · rw [it_add, e1, e3]; rfl
    · rw [wl_add, e1, e2, e4]; rfl
theorem Tr.kept (h1 : ∀ a, ∃ m, 1 ≤ m ∧ it g m a = f a ∧ wl size g m a = far size a (f a)) (t : Tr size f a e s) : Tr size g a e s := by
  obtain ⟨n, n1, e1, e2⟩ := t
  obtain ⟨m, m1, c1, c2⟩ := ways_kept h1 n a
  exact ⟨m, by omega, c1.trans e1, c2.trans e2⟩
theorem Tr.part (h0 : 0 < size) (hb : btw size u x (f u) = true) (t : Tr size f x (f u) (far size x (f u))) (hg : ∀ h, h ≠ u → g h = f h) (hu : g u = x) (q : Tr size f a e s) : Tr size g a e s :=
  q.kept fun a => by
    by_cases ea : a = u
    · subst ea
      obtain ⟨m, m1, c1, c2⟩ := parted h0 hb t hg hu
      exact ⟨m, m1, c1, c2⟩
    · exact ⟨1, Nat.le_refl _, hg a ea, by show far size a (g a) + 0 = _; rw [hg a ea]; omega⟩
theorem Tr.one : Tr size f a (f a) (far size a (f a)) := ⟨1, Nat.le_refl _, rfl, by show _ + 0 = _; omega⟩
theorem Tr.ans (h0 : 0 < size) (t : Tr size f a e s) (hd : d ≤ s) (x : Ans size f a d j) : wl size f j a ≤ s := by
  obtain ⟨n, n1, e1, e2⟩ := t
  apply Classical.byContradiction
  intro hc
  have : n < j := by
    apply Classical.byContradiction
    intro hn
    have := wl_le (f := f) (h := a) h0 (show j ≤ n by omega)
    omega
  have := x.2 n this
  omega
theorem Ans.pos (hd : 0 < d) (x : Ans size f a d j) : 1 ≤ j := by
  cases j with
  | zero => have h : d ≤ 0 := x.1; omega
  | succ j => omega
theorem Ans.tr (hd : 0 < d) (x : Ans size f a d j) : Tr size f a (it f j a) (wl size f j a) := ⟨j, x.pos hd, rfl, rfl⟩
theorem Ans.lt (h0 : 0 < size) (hd : 0 < d) (hs : d ≤ size) (x : Ans size f a d j) : wl size f j a < d + size := by
  cases j with
  | zero => show 0 < _; omega
  | succ j =>
    have := x.2 j (by omega)
    have := far_pos (s := it f j a) (e := f (it f j a)) h0
    rw [wl_succ]
    omega
end
end RL
open PySem L2 RL
open LiI (pe_listItems rItemsL tListItems)
local macro_rules | `(tactic| l_intsW) => `(tactic| first
  | assumption
  | (exact List.not_mem_nil)
  | (simp only [List.mem_cons, List.not_mem_nil, or_false, not_or]; (repeat' constructor) <;> first
    | assumption
    | (exact Ne.symm (by assumption))
    | (refine @L2.ne_of_none ?nH _ _ ?no ?na ?nb; (case nb => assumption); (case na => assumption))
    | (refine Ne.symm (@L2.ne_of_none ?nH _ _ ?no ?na ?nb); (case nb => assumption); (case na => assumption))
    | (refine @L2.ne_of ?nH _ _ ?no ?nu ?na ?nb ?nc; (case na => assumption); (case nb => assumption); (case nc => with_unfolding_all (intro z; cases z)))))
local macro_rules | `(tactic| k_clsL) => `(tactic| first
  | assumption
  | ((with_reducible refine Fr.at_ (by assumption) _ _ ?fa ?fb); (case fa => k_clsL); (case fb => l_intsW))
  | ((with_reducible refine Fr.tp (by assumption) _ _ ?_); k_clsL))
local macro_rules | `(tactic| tb_start) => `(tactic| first
  | (refine Go.h ?_)
  | ((with_reducible refine r_i ?rc ?_); (case rc => first | assumption | omega | (unfold CPow; decide) | (unfold CMul; omega) | (exact divW (by omega) (by omega))))
  | ((with_reducible refine r_ixL (sqL_of ?rh) ?ra ?_); (case rh => assumption); (case ra => first | rfl | assumption))
  | (with_reducible refine NetT.f1 (by assumption) (by k_clsL) ?_)
  | (with_reducible refine NetT.f2 (by assumption) (by k_clsL) ?_)
  | (with_reducible refine NetT.f3 (by assumption) (by k_clsL) ?_)
  | (with_reducible refine NetT.f4 (by assumption) (by k_clsL) ?_)
  | ((with_reducible refine net_mt (by k_clsL) ?nm ?_); (case nm => decide +kernel))
  | (with_reducible refine tyLst (by k_clsL) ?_))
local macro_rules | `(tactic| tb_rel) => `(tactic| first
  | (refine GoS.h ?_)
  | ((with_reducible refine r_i ?rc ?_); (case rc => first | assumption | omega | (unfold CPow; decide) | (unfold CMul; omega) | (exact divW (by omega) (by omega))))
  | ((with_reducible refine r_ixL (sqL_of ?rh) ?ra ?_); (case rh => assumption); (case ra => first | rfl | assumption))
  | (with_reducible refine NetT.f1 (by assumption) (by k_clsL) ?_)
  | (with_reducible refine NetT.f2 (by assumption) (by k_clsL) ?_)
  | (with_reducible refine NetT.f3 (by assumption) (by k_clsL) ?_)
  | (with_reducible refine NetT.f4 (by assumption) (by k_clsL) ?_)
  | ((with_reducible refine net_mt (by k_clsL) ?nm ?_); (case nm => decide +kernel))
  | (with_reducible refine tyLst (by k_clsL) ?_))
local macro_rules | `(tactic| k_places) => `(tactic| (repeat tb_start))
local macro_rules | `(tactic| k_offL) => `(tactic| (repeat tb_rel))
set_option synthInstance.maxHeartbeats 4000000
set_option synthInstance.maxSize 4000
namespace RL
def top (i : Nat) : Stmt := PySem.Challenge.pw_ringlaps_k72_whole_last_put_first.main.body.getD i (.Pass ⟨0, 0, 0, 0⟩)
def spFar : Sp := fun vs H Q _ => ∃ size s e : Int, vs = [.int size, .int s, .int e] ∧ 0 < size ∧ Q (.int (far size s e)) H
theorem i_far {size s e : Int} {H : Hp} {Q : VK} {E : XK} (h : 0 < size) (q : Q (.int (far size s e)) H) : spFar [.int size, .int s, .int e] H Q E := ⟨_, _, _, rfl, h, q⟩
section
variable {P : Program} {w : World} {K : PySem.W.Frag} {mg : Str → Option Value} {base : Heap} {CNet CMender CDesk CStore CWalk : Addr}
abbrev s_far : Stmt := top 8
theorem sc_far : FnScope ["size", "start", "end", "steps"] ["size", "start", "end"] (defScope s_far) := ⟨rfl, rfl, rfl, by decide +kernel, rfl, by decide +kernel, by decide +kernel⟩
theorem ok_far {f : Addr} {fd : FuncData} (F : Fun K "far" "far" s_far f fd) : FnOk P w K mg base CX0 1 f fd ["size", "start", "end"] spFar := by
  refine F.ok sc_far (fun vs H Q E h => ?_) (fun cdv A outer s H vs Q E hr h => ?_)
  · obtain ⟨_, _, _, rfl, _⟩ := h; rfl
  · obtain ⟨size, st, e, rfl, h0, k⟩ := h
    refine ⟨_, (pss_cons (ps_set (i := 3) sc_far.nd rfl (Or.inl rfl) (pe_op op_mod (pe_op op_sub (pv 2) (pv 1)) (pv 0)))
      (pss_cons (ps_if (pt_cmpR op_eq (pv 3) pe_int (nomark _)) (pss_one (ps_ret (pv 0))) pss_nil)
      (pss_one (ps_ret (pv 3))))), ?_⟩
    (try simp only [cxK, cxKX, List.map])
    refine ent (σ' := [some _, some _, some _, none]) rfl ?_
    k_offL
    refine ifD (fun h => ?_) (fun h => ?_)
    · k_offL
      unfold far at k
      rw [if_pos h] at k
      exact k
    · k_offL
      unfold far at k
      rw [if_neg h] at k
      exact k
end
def spBetween : Sp := fun vs H Q _ => ∃ size s p e : Int, vs = [.int size, .int s, .int p, .int e] ∧ 0 < size ∧ Q (.bl (btw size s p e)) H
theorem i_between {size s p e : Int} {H : Hp} {Q : VK} {E : XK} (h : 0 < size) (q : Q (.bl (btw size s p e)) H) : spBetween [.int size, .int s, .int p, .int e] H Q E := ⟨_, _, _, _, rfl, h, q⟩
section
variable {P : Program} {w : World} {K : PySem.W.Frag} {mg : Str → Option Value} {base : Heap} {CNet CMender CDesk CStore CWalk : Addr}
abbrev s_between : Stmt := top 9
theorem sc_between : FnScope ["size", "start", "place", "end"] ["size", "start", "place", "end"] (defScope s_between) := ⟨rfl, rfl, rfl, by decide +kernel, rfl, by decide +kernel, by decide +kernel⟩
theorem ok_between {f : Addr} {fd : FuncData} (F : Fun K "between" "between" s_between f fd) (G_far : GF P w K mg base "far" 1 ["size", "start", "end"] spFar) : FnOk P w K mg base CX0 2 f fd ["size", "start", "place", "end"] spBetween := by
  refine F.ok sc_between (fun vs H Q E h => ?_) (fun cdv A outer s H vs Q E hr h => ?_)
  · obtain ⟨_, _, _, _, rfl, _⟩ := h; rfl
  · obtain ⟨size, st, p, e, rfl, h0, k⟩ := h
    refine ⟨_, (pss_one (ps_ret (pe_cmpR op_lt (c_fn G_far (hr.mono (by decide)) (pa_cons (pv 0) (pa_cons (pv 1) (pa_cons (pv 2) pa_nil)))) (c_fn G_far (hr.mono (by decide)) (pa_cons (pv 0) (pa_cons (pv 1) (pa_cons (pv 3) pa_nil)))) (nomark _)))), ?_⟩
    (try simp only [cxK, cxKX, List.map])
    refine ent (σ' := [some _, some _, some _, some _]) rfl ?_
    k_offL
    refine i_far h0 ?_
    k_offL
    refine i_far h0 ?_
    k_offL
    exact k
end
def spLetterPlaces : Sp := fun vs H Q _ => ∃ (t : Addr) (l : LT), vs = [.ref t] ∧ H t = some (.tup l.vs) ∧ ∀ p H', H p = none → H' p = some (.tup (l.pl.map V.int)) → Fr [] H H' → Q (.ref p) H'
theorem LT.cut (l : LT) : cutV l.vs (some 1) none = l.pl.map V.int := by cases l <;> rfl
section
variable {P : Program} {w : World} {K : PySem.W.Frag} {mg : Str → Option Value} {base : Heap} {CNet CMender CDesk CStore CWalk : Addr}
abbrev s_letter_places : Stmt := top 25
theorem sc_letter_places : FnScope ["letter"] ["letter"] (defScope s_letter_places) := ⟨rfl, rfl, rfl, by decide +kernel, rfl, by decide +kernel, by decide +kernel⟩
theorem ok_letter_places {f : Addr} {fd : FuncData} (F : Fun K "letter_places" "letter_places" s_letter_places f fd) : FnOk P w K mg base CX0 1 f fd ["letter"] spLetterPlaces := by
  refine F.ok sc_letter_places (fun vs H Q E h => ?_) (fun cdv A outer s H vs Q E hr h => ?_)
  · obtain ⟨_, _, rfl, _⟩ := h; rfl
  · obtain ⟨t, l, rfl, ht, k⟩ := h
    refine ⟨_, (pss_one (ps_ret (pe_slice (sl_tupK (K := K) rfl) (pv 0) (po_some pe_int) po_none))), ?_⟩
    (try simp only [cxK, cxKX, List.map])
    refine ent (σ' := [some _]) rfl ?_
    k_offL
    refine r_slT (sqT_of ht) (fun z => by cases l <;> exact absurd (show (1 : Nat) = 0 from z.1) (by decide)) fun p H' np hp f => ?_
    rw [LT.cut] at hp
    exact k p H' np hp f
end
def spCheckPlace : Sp := fun vs H Q _ => ∃ size p : Int, vs = [.int size, .int p] ∧ 0 ≤ p ∧ p < size ∧ Q .non H
theorem i_check_place {size p : Int} {H : Hp} {Q : VK} {E : XK} (h0 : 0 ≤ p) (h : p < size) (q : Q .non H) : spCheckPlace [.int size, .int p] H Q E := ⟨_, _, rfl, h0, h, q⟩
section
variable {P : Program} {w : World} {K : PySem.W.Frag} {mg : Str → Option Value} {base : Heap} {CNet CMender CDesk CStore CWalk : Addr}
abbrev s_check_place : Stmt := top 27
theorem sc_check_place : FnScope ["size", "place"] ["size", "place"] (defScope s_check_place) := ⟨rfl, rfl, rfl, by decide +kernel, rfl, by decide +kernel, by decide +kernel⟩
theorem ok_check_place {f : Addr} {fd : FuncData} (F : Fun K "check_place" "check_place" s_check_place f fd) : FnOk P w K mg base CX0 1 f fd ["size", "place"] spCheckPlace := by
  refine F.ok sc_check_place (fun vs H Q E h => ?_) (fun cdv A outer s H vs Q E hr h => ?_)
  · obtain ⟨_, _, rfl, _⟩ := h; rfl
  · obtain ⟨size, p, rfl, h0, h1, k⟩ := h
    refine ⟨_, (pss_one (ps_if (pt_not (pt_chain op_le op_lt pe_int (pv 1) (pv 0))) (pss_one ps_never) pss_nil)), ?_⟩
    (try simp only [cxK, cxKX, List.map])
    refine ent (σ' := [some _, some _]) rfl ?_
    k_offL
    refine ifDT h0 ?_
    k_offL
    refine ifNF h1 ?_
    k_offL
    exact k
end
def spCheckHouses (K : PySem.W.Frag) : Sp := fun vs H Q _ => ∃ (a p : Addr) (kvs : List (Key × V)) (m : Int → Option V) (ns : List Int), vs = [.ref a, .ref p] ∧ Rd H a (.dK kvs) ∧ DOk kvs m ∧ Sq K H p (ns.map V.int) ∧ (∀ n ∈ ns, (m n).isSome = true) ∧ Q .non H
theorem i_check_houses {K : PySem.W.Frag} {a p : Addr} {kvs : List (Key × V)} {m : Int → Option V} (ns : List Int) {H : Hp} {Q : VK} {E : XK} (h : Rd H a (.dK kvs)) (d : DOk kvs m) (hp : Sq K H p (ns.map V.int)) (hm : ∀ n ∈ ns, (m n).isSome = true) (q : Q .non H) :
    spCheckHouses K [.ref a, .ref p] H Q E := ⟨a, p, kvs, m, ns, rfl, h, d, hp, hm, q⟩
section
variable {P : Program} {w : World} {K : PySem.W.Frag} {mg : Str → Option Value} {base : Heap} {CNet CMender CDesk CStore CWalk : Addr}
abbrev s_check_houses : Stmt := top 28
theorem sc_check_houses : FnScope ["houses", "places", "place"] ["houses", "places"] (defScope s_check_houses) := ⟨rfl, rfl, rfl, by decide +kernel, rfl, by decide +kernel, by decide +kernel⟩
theorem ok_check_houses {f : Addr} {fd : FuncData} (F : Fun K "check_houses" "check_houses" s_check_houses f fd) : FnOk P w K mg base CX0 1 f fd ["houses", "places"] (spCheckHouses K) := by
  refine F.ok sc_check_houses (fun vs H Q E h => ?_) (fun cdv A outer s H vs Q E hr h => ?_)
  · obtain ⟨_, _, _, _, _, rfl, _⟩ := h; rfl
  · obtain ⟨a, p, kvs, m, ns, rfl, ha, d, hp, hm, k⟩ := h
    refine ⟨_, (pss_one (ps_for PassesOwn.never rfl (pi_seqK (K := K) rfl (pv 1)) (pg_name (i := 2) sc_check_houses.nd rfl (Or.inl rfl))
      (pss_one (ps_if (pt_cmp (pc_dnotin (hu_of hr) (pv 2) (pv 0))) (pss_one ps_never) pss_nil)))), ?_⟩
    (try simp only [cxK, cxKX, List.map])
    refine ent (σ' := [some _, some _, none]) rfl ?_
    k_offL
    refine loopS (ns.map V.int) hp (fun i σ' H' => (∃ v, σ' = [some (.ref a), some (.ref p), v]) ∧ H' = H) ⟨⟨_, rfl⟩, rfl⟩ (fun i σ' H' z => by rw [z.2]; exact Fr.refl _ _) ?_ ?_
    · rintro i x σ' _ hi ⟨⟨v, rfl⟩, rfl⟩
      obtain ⟨n, _, hn, rfl⟩ := mem_ints hi
      k_offL
      refine dink ha ?_
      refine blk (ifE (show _ = false by rw [d.val, hm n hn]; rfl) ?_)
      k_offL
      exact ⟨⟨_, rfl⟩, rfl⟩
    · rintro σ' _ ⟨⟨v, rfl⟩, rfl⟩
      exact k
end
def spCheckTables : Sp := fun vs H Q _ => ∃ (a b l : Addr) (kn kb : List (Key × V)) (lv : List V) (N : NS) (bd : Unit), vs = [.int N.size, .ref a, .ref b, .ref l] ∧ H a = some (.dK kn) ∧ DOk kn N.mf ∧ H b = some (.dK kb) ∧ DOk kb N.lb ∧ H l = some (.lst lv) ∧ LetsIs H N.post lv ∧ N.Ok ∧
  ∀ H', Fr [] H H' → Q .non H'
def NS.bs (N : NS) : List Int := N.hs.filter fun h => (N.b h).isSome
theorem NS.Ok.ascL {N : NS} (h : N.Ok) : Asc N.bs N.lb := ⟨h.up.filter _, fun n => by
  unfold NS.bs NS.lb
  rw [List.mem_filter, Option.isSome_map]
  constructor
  · exact fun z => z.2
  · intro z
    obtain ⟨x, hx⟩ := Option.isSome_iff_exists.mp z
    exact ⟨(h.bh n x hx).1, z⟩⟩
theorem NS.Ok.bl {N : NS} (h : N.Ok) : N.bs.length ≤ 45 := Nat.le_trans (List.length_filter_le _ _) h.hl
theorem NS.mf_some {N : NS} {h : Int} (m : h ∈ N.hs) : (N.mf h).isSome = true := by rw [NS.mf_at m]; rfl
section
variable {P : Program} {w : World} {K : PySem.W.Frag} {mg : Str → Option Value} {base : Heap} {CNet CMender CDesk CStore CWalk : Addr}
abbrev s_check_tables : Stmt := top 29
theorem sc_check_tables : FnScope ["size", "nexts", "behinds", "post", "house", "letter"] ["size", "nexts", "behinds", "post"] (defScope s_check_tables) := ⟨rfl, rfl, rfl, by decide +kernel, rfl, by decide +kernel, by decide +kernel⟩
theorem ok_check_tables {f : Addr} {fd : FuncData} (F : Fun K "check_tables" "check_tables" s_check_tables f fd) (m_sorted : mg "sorted" = none) (G_check_place : GF P w K mg base "check_place" 1 ["size", "place"] spCheckPlace) (G_check_houses : GF P w K mg base "check_houses" 1 ["houses", "places"] (spCheckHouses K)) (G_letter_places : GF P w K mg base "letter_places" 1 ["letter"] spLetterPlaces) : FnOk P w K mg base CX0 2 f fd ["size", "nexts", "behinds", "post"] spCheckTables := by
  refine F.ok sc_check_tables (fun vs H Q E h => ?_) (fun cdv A outer s H vs Q E hr h => ?_)
  · obtain ⟨_, _, _, _, _, _, _, _, rfl, _⟩ := h; rfl
  · obtain ⟨a, b, l, kn, kb, lv, N, _, rfl, ha, da, hb, db, hl, ls, ok, k⟩ := h
    refine ⟨_, (pss_cons (ps_for PassesOwn.never rfl (pi_listK (K := K) rfl (pe_callB (cb_sortD rfl) (by rfl) m_sorted b_sorted (pa_cons (pv 1) pa_nil))) (pg_name (i := 4) sc_check_tables.nd rfl (Or.inl rfl))
      (pss_one (ps_expr (c_fn G_check_place (hr.mono (by decide)) (pa_cons (pv 0) (pa_cons (pv 4) pa_nil))))))
      (pss_cons (ps_for PassesOwn.never rfl (pi_listK (K := K) rfl (pe_callB (cb_sortD rfl) (by rfl) m_sorted b_sorted (pa_cons (pv 1) pa_nil))) (pg_name (i := 4) sc_check_tables.nd rfl (Or.inl rfl))
      (pss_one (ps_expr (c_fn G_check_houses (hr.mono (by decide)) (pa_cons (pv 1) (pa_cons (pe_lst (pa_cons (pe_dget (hu_of hr) (pv 1) (pv 4) (by intro _ _; rfl)) pa_nil)) pa_nil))))))
      (pss_cons (ps_for PassesOwn.never rfl (pi_listK (K := K) rfl (pe_callB (cb_sortD rfl) (by rfl) m_sorted b_sorted (pa_cons (pv 2) pa_nil))) (pg_name (i := 4) sc_check_tables.nd rfl (Or.inl rfl))
      (pss_one (ps_expr (c_fn G_check_houses (hr.mono (by decide)) (pa_cons (pv 1) (pa_cons (pe_lst (pa_cons (pv 4) (pa_cons (pe_dget (hu_of hr) (pv 2) (pv 4) (by intro _ _; rfl)) pa_nil))) pa_nil))))))
      (pss_one (ps_for PassesOwn.never rfl (pi_listK (K := K) rfl (pv 3)) (pg_name (i := 5) sc_check_tables.nd rfl (Or.inl rfl))
      (pss_one (ps_expr (c_fn G_check_houses (hr.mono (by decide)) (pa_cons (pv 1) (pa_cons (c_fn G_letter_places (hr.mono (by decide)) (pa_cons (pv 5) pa_nil)) pa_nil)))))))))), ?_⟩
    (try simp only [cxK, cxKX, List.map])
    refine ent (σ' := [some _, some _, some _, some _, none, none]) rfl ?_
    k_offL
    refine r_sortD (.inl ha) da ok.ascF (by have := ok.hl; omega) fun s1 H1 n1 e1 f1 => ?_
    refine loopLF (M := []) (N.hs.map V.int) (sqL_of e1) (fun z => nomatch z) (fun i σ' H' => (∃ v v2, σ' = [some (.int N.size), some (.ref a), some (.ref b), some (.ref l), v, v2]) ∧ Fr [] H1 H') ⟨⟨_, _, rfl⟩, Fr.refl _ _⟩ (fun i σ' H' z => z.2) ?_ ?_
    · rintro i x σ' H2 hi ⟨⟨v, v2, rfl⟩, f2⟩
      obtain ⟨n, _, hn, rfl⟩ := mem_ints hi
      k_offL
      refine i_check_place (ok.on n hn).1 (ok.on n hn).2 ?_
      k_offL
      exact ⟨⟨_, _, rfl⟩, f2⟩
    · rintro σ' H2 ⟨⟨v, v2, rfl⟩, f2⟩
      have g2 := f1.trans f2
      k_offL
      refine r_sortD (.inl (g2.at_ _ _ ha (fun z => nomatch z))) da ok.ascF (by have := ok.hl; omega) fun s2 H3 n3 e3 f3 => ?_
      have g3 := g2.trans f3
      refine loopLF (M := []) (N.hs.map V.int) (sqL_of e3) (fun z => nomatch z) (fun i σ' H' => (∃ v v2, σ' = [some (.int N.size), some (.ref a), some (.ref b), some (.ref l), v, v2]) ∧ Fr [] H3 H') ⟨⟨_, _, rfl⟩, Fr.refl _ _⟩ (fun i σ' H' z => z.2) ?_ ?_
      · rintro i x σ' H4 hi ⟨⟨v, v2, rfl⟩, f4⟩
        have g4 := g3.trans f4
        obtain ⟨n, _, hn, rfl⟩ := mem_ints hi
        k_offL
        refine dgetk (.inl (g4.at_ _ _ ha (fun z => nomatch z))) (by rw [da.val, NS.mf_at hn]) ?_
        k_offL
        refine lstk (by show 1 ≤ 100000; decide) fun p H5 n5 e5 f5 => ?_
        k_offL
        refine i_check_houses [N.f n] (.inl ((g4.trans f5).at_ _ _ ha (fun z => nomatch z))) da (.inl (sqL_of e5)) (fun x hx => ?_) ?_
        · rw [List.mem_singleton.mp hx]; exact NS.mf_some (ok.fh n hn)
        · k_offL
          exact ⟨⟨_, _, rfl⟩, f4.trans f5⟩
      · rintro σ' H4 ⟨⟨v, v2, rfl⟩, f4⟩
        have g4 := g3.trans f4
        k_offL
        refine r_sortD (.inl (g4.at_ _ _ hb (fun z => nomatch z))) db ok.ascL (by have := ok.bl; omega) fun s3 H5 n5 e5 f5 => ?_
        have g5 := g4.trans f5
        refine loopLF (M := []) (N.bs.map V.int) (sqL_of e5) (fun z => nomatch z) (fun i σ' H' => (∃ v v2, σ' = [some (.int N.size), some (.ref a), some (.ref b), some (.ref l), v, v2]) ∧ Fr [] H5 H') ⟨⟨_, _, rfl⟩, Fr.refl _ _⟩ (fun i σ' H' z => z.2) ?_ ?_
        · rintro i x σ' H6 hi ⟨⟨v, v2, rfl⟩, f6⟩
          have g6 := g5.trans f6
          obtain ⟨n, _, hn, rfl⟩ := mem_ints hi
          obtain ⟨hn1, hn2⟩ := List.mem_filter.mp hn
          obtain ⟨x, hx⟩ := Option.isSome_iff_exists.mp hn2
          k_offL
          refine dgetk (v := .int x) (.inl (g6.at_ _ _ hb (fun z => nomatch z))) (by rw [db.val]; unfold NS.lb; rw [hx]; rfl) ?_
          k_offL
          refine lstk (by show 2 ≤ 100000; decide) fun p H7 n7 e7 f7 => ?_
          k_offL
          refine i_check_houses [n, x] (.inl ((g6.trans f7).at_ _ _ ha (fun z => nomatch z))) da (.inl (sqL_of e7)) (fun y hy => ?_) ?_
          · rcases List.mem_cons.mp hy with e | e
            · rw [e]; exact NS.mf_some hn1
            · rw [List.mem_singleton.mp e]; exact NS.mf_some (ok.bh n x hx).2
          · k_offL
            exact ⟨⟨_, _, rfl⟩, f6.trans f7⟩
        · rintro σ' H6 ⟨⟨v, v2, rfl⟩, f6⟩
          have g6 := g5.trans f6
          k_offL
          refine loopLF (M := []) lv (sqL_of (g6.at_ _ _ hl (fun z => nomatch z))) (fun z => nomatch z) (fun i σ' H' => (∃ v v2, σ' = [some (.int N.size), some (.ref a), some (.ref b), some (.ref l), v, v2]) ∧ Fr [] H6 H') ⟨⟨_, _, rfl⟩, Fr.refl _ _⟩ (fun i σ' H' z => z.2) ?_ ?_
          · rintro i x σ' H7 hi ⟨⟨v, v2, rfl⟩, f7⟩
            have g7 := g6.trans f7
            have hlt : i < N.post.length := by rw [← ls.len]; exact (List.getElem?_eq_some_iff.mp hi).1
            obtain ⟨t, ht, hT⟩ := ls.at_ i N.post[i] (List.getElem?_eq_getElem hlt)
            rw [hi] at ht
            cases ht
            k_offL
            refine ⟨t, N.post[i], rfl, g7.tp _ _ hT, fun p H8 n8 e8 f8 => ?_⟩
            k_offL
            refine i_check_houses N.post[i].pl (.inl ((g7.trans f8).at_ _ _ ha (fun z => nomatch z))) da (.inr (sqT_of e8)) (fun y hy => NS.mf_some (ok.ph _ (List.getElem_mem hlt) y hy)) ?_
            k_offL
            exact ⟨⟨_, _, rfl⟩, f7.trans f8⟩
          · rintro σ' H7 ⟨⟨v, v2, rfl⟩, f7⟩
            exact k H7 (g6.trans f7)
end
end RL
set_option synthInstance.maxHeartbeats 4000000
set_option synthInstance.maxSize 4000
namespace RL
def BefArg (H : Hp) (v : V) (N : NS) : Prop := (v = .non ∧ ∀ h, N.b h = none) ∨ ∃ a kvs, v = .ref a ∧ H a = some (.dK kvs) ∧ DOk kvs N.lb
def LetArg (H : Hp) (v : V) (N : NS) : Prop := (v = .non ∧ N.post = []) ∨ ∃ a lv, v = .ref a ∧ H a = some (.lst lv) ∧ LetsIs H N.post lv
def spNetInit (C : Addr) : Sp := fun vs H Q _ => ∃ (p dx n : Addr) (bv lv : V) (kn : List (Key × V)) (N : NS), vs = [.ref p, .int N.size, .ref n, bv, lv] ∧ H p = some (.ins C dx []) ∧ H n = some (.dK kn) ∧ DOk kn N.mf ∧ BefArg H bv N ∧ LetArg H lv N ∧ N.Ok ∧
  ∀ (da db dl : Addr) H', H da = none → H db = none → H dl = none → da ≠ db → NetAt C H' p da db dl N → Fr [p] H H' → Q .non H'
theorem nil_kvs : ([] : List Int).map (fun k => ((Sum.inl k : Key), V.non)) = [] := rfl
theorem DOk.nilB {N : NS} (h : ∀ h, N.b h = none) : DOk [] N.lb := DOk.nil.cong fun n => by unfold NS.lb; rw [h n]; rfl
theorem netF_put (z : Int) (da db dl : Addr) : putF "_letters" (.ref dl) (putF "_befores" (.ref db) (putF "_nexts" (.ref da) (putF "size" (.int z) []))) = netF z da db dl := by
  show putF "_letters" (.ref dl) (putF "_befores" (.ref db) (putF "_nexts" (.ref da) [(("size" : Str), V.int z)])) = _
  rw [putF_ne (by decide +kernel)]
  show putF "_letters" (.ref dl) (putF "_befores" (.ref db) [(("size" : Str), V.int z), (("_nexts" : Str), V.ref da)]) = _
  rw [putF_ne (by decide +kernel), putF_ne (by decide +kernel)]
  show putF "_letters" (.ref dl) [(("size" : Str), V.int z), (("_nexts" : Str), V.ref da), (("_befores" : Str), V.ref db)] = _
  rw [putF_ne (by decide +kernel), putF_ne (by decide +kernel), putF_ne (by decide +kernel)]
  rfl
theorem i_net {C n : Addr} {bv lv : V} {kn : List (Key × V)} {N : NS} {H : Hp} {Q : VK} {E : XK} {gV : List V → List V → List V} {vs zs : List V} {a b : Nat} (ha : vs.length = a) (hz : zs.length = b) (hg : ∀ x, gV (.ref x :: vs) zs = [.ref x, .int N.size, .ref n, bv, lv])
    (hn : H n = some (.dK kn)) (dn : DOk kn N.mf) (hb : BefArg H bv N) (hl : LetArg H lv N) (ok : N.Ok)
    (k : ∀ (x da db dl : Addr) H', H x = none → H da = none → H db = none → H dl = none → NetAt C H' x da db dl N → Fr [] H H' → Q (.ref x) H') : MkK C a b (spNetInit C) gV E vs zs Q H := by
  refine ⟨ha, hz, fun x dx nx nd ne => ?_⟩
  have f0 := new_ins (C := C) nx nd ne
  have nn : ∀ a : Addr, a ∉ ([] : List Addr) := fun a z => nomatch z
  rw [hg x]
  refine ⟨x, dx, n, bv, lv, kn, N, rfl, upd_same, f0.at_ _ _ hn (nn _), dn, ?_, ?_, ok, fun da db dl H' na nb nl _ hN f => ⟨rfl, k x da db dl H' nx (f0.free na) (f0.free nb) (f0.free nl) hN (f0.drop f nx)⟩⟩
  · rcases hb with hb | ⟨a, kvs, e, e1, d⟩
    · exact .inl hb
    · exact .inr ⟨a, kvs, e, f0.at_ _ _ e1 (nn _), d⟩
  · rcases hl with hb | ⟨a, kvs, e, e1, d⟩
    · exact .inl hb
    · exact .inr ⟨a, kvs, e, f0.at_ _ _ e1 (nn _), d.fr f0⟩
section
variable {P : Program} {w : World} {K : PySem.W.Frag} {mg : Str → Option Value} {base : Heap} {CNet CMender CDesk CStore CWalk : Addr}
abbrev s_Net___init__ : Stmt := inClass (top 30) 0
theorem sc_Net___init__ : FnScope ["self", "size", "nexts", "befores", "letters", "behinds", "post", "house"] ["self", "size", "nexts", "befores", "letters"] (defScope s_Net___init__) := ⟨rfl, rfl, rfl, by decide +kernel, rfl, by decide +kernel, by decide +kernel⟩
theorem ok_Net___init__ {f : Addr} {fd : FuncData} (F : Fun K "__init__" "Net.__init__" s_Net___init__ f fd) (G_check_tables : GF P w K mg base "check_tables" 2 ["size", "nexts", "behinds", "post"] spCheckTables) (m_dict : mg "dict" = none) (m_list : mg "list" = none) (T : NetT K CNet) : FnOk P w K mg base CX0 3 f fd ["self", "size", "nexts", "befores", "letters"] (spNetInit CNet) := by
  refine F.ok sc_Net___init__ (fun vs H Q E h => ?_) (fun cdv A outer s H vs Q E hr h => ?_)
  · obtain ⟨_, _, _, _, _, _, _, rfl, _⟩ := h; rfl
  · obtain ⟨p, dx, n, bv, lv, kn, N, rfl, hp, hn, dn, hb, hl, ok, k⟩ := h
    refine ⟨_, (pss_cons (ps_set (i := 5) sc_Net___init__.nd rfl (Or.inr rfl) (pe_ifExp (pt_cmpR op_isNn (pv 3) pe_non (nomark _)) pe_dnewK (pv 3)))
      (pss_cons (ps_set (i := 6) sc_Net___init__.nd rfl (Or.inl rfl) (pe_ifExp (pt_cmpR op_isNn (pv 4) pe_non (nomark _)) (pe_lst pa_nil) (pv 4)))
      (pss_cons (ps_expr (c_fn G_check_tables (hr.mono (by decide)) (pa_cons (pv 1) (pa_cons (pv 2) (pa_cons (pv 5) (pa_cons (pv 6) pa_nil))))))
      (pss_cons (ps_fldK (K := K) rfl (pv 0) (pv 1) rfl)
      (pss_cons (ps_fldK (K := K) rfl (pv 0) (pe_callTy cb_dictD (by rfl) m_dict b_dict (pa_cons (pv 2) pa_nil)) rfl)
      (pss_cons (ps_fldK (K := K) rfl (pv 0) (pe_lock (pe_dc (own := [("house", 7)]) (g := gName 7) rfl sc_Net___init__.nd (pi_keys (pv 2)) (blkOk_by (N := ["self", "size", "nexts", "befores", "letters", "behinds", "post", "house"]) (sc := defScope s_Net___init__) (by decide +kernel)) (fun _ _ _ _ _ => (pg_name (i := 7) sc_Net___init__.nd rfl (Or.inl rfl))) (fun _ _ _ _ _ => pts_nil) (fun _ _ _ _ _ => (pv 7)) (fun _ _ _ _ _ => (pe_dget1 (hu_of hr) (pv 5) (pv 7) ⟨by rfl, by rfl, by rfl, by rfl⟩)))) rfl)
      (pss_one (ps_fldK (K := K) rfl (pv 0) (pe_callTy (cb_listOfK (K := K) rfl) (by rfl) m_list b_list (pa_cons (pv 6) pa_nil)) rfl)))))))), ?_⟩
    (try simp only [cxK, cxKX, List.map])
    refine ent (σ' := [some _, some _, some _, some _, some _, none, none, none]) rfl ?_
    have nn : ∀ a : Addr, a ∉ ([] : List Addr) := fun a z => nomatch z
    have hL : ∀ (H1 : Hp), Fr [] H H1 → LetArg H1 lv N := fun H1 f => by
      rcases hl with hl | ⟨a, kvs, e, e1, d⟩
      · exact .inl hl
      · exact .inr ⟨a, kvs, e, f.at_ _ _ e1 (nn _), d.fr f⟩
    refine q_asgM (fun v H1 => ∃ (ab : Addr) (kb : List (Key × V)), v = .ref ab ∧ Fr [] H H1 ∧ H1 ab = some (.dK kb) ∧ DOk kb N.lb) (fun R kR => ?_) ?_
    · k_offL
      refine ifD (fun e => ?_) (fun e => ?_)
      · k_offL
        refine newk fun ab H1 n1 e1 f1 => ?_
        rcases hb with ⟨_, hb⟩ | ⟨a, kvs, e', _⟩
        · exact kR _ _ ⟨ab, [], rfl, f1, e1, DOk.nilB hb⟩
        · rw [e'] at e; cases e
      · k_offL
        rcases hb with ⟨e', _⟩ | ⟨a, kvs, e', e1, d⟩
        · exact absurd e' e
        · subst e'
          exact kR _ _ ⟨a, kvs, rfl, Fr.refl _ _, e1, d⟩
    rintro _ H1 ⟨ab, kb, rfl, f1, eb, db⟩
    k_places
    refine q_asgM (fun v H2 => ∃ (al : Addr) (kl : List V), v = .ref al ∧ Fr [] H1 H2 ∧ H2 al = some (.lst kl) ∧ LetsIs H2 N.post kl) (fun R kR => ?_) ?_
    · k_offL
      refine ifD (fun e => ?_) (fun e => ?_)
      · k_offL
        refine lstk (by show 0 ≤ 100000; decide) fun al H2 n2 e2 f2 => ?_
        rcases hl with ⟨_, hl⟩ | ⟨a, kvs, e', _⟩
        · exact kR _ _ ⟨al, [], rfl, f2, e2, by rw [hl]; exact LetsIs.nil⟩
        · rw [e'] at e; cases e
      · k_offL
        rcases hL H1 f1 with ⟨e', _⟩ | ⟨a, kvs, e', e1, d⟩
        · exact absurd e' e
        · subst e'
          exact kR _ _ ⟨a, kvs, rfl, Fr.refl _ _, e1, d⟩
    rintro _ H2 ⟨al, kl, rfl, f2, el, dl⟩
    k_offL
    have f02 := f1.trans f2
    refine ⟨n, ab, al, kn, kb, kl, N, (), rfl, f02.at_ _ _ hn (nn _), dn, f2.at_ _ _ eb (nn _), db, el, dl, ok, fun H3 f3 => ?_⟩
    have f03 := f02.trans f3
    k_offL
    refine stfk (f03.at_ _ _ hp (nn _)) T.cl T.n1 (by decide) fun H4 e4 f4 => ?_
    have pn : n ≠ p := ne_of hn hp (by intro z; cases z)
    have pal : al ≠ p := ne_of el (f02.at_ _ _ hp (nn _)) (by intro z; cases z)
    have pab : ab ≠ p := ne_of eb (f1.at_ _ _ hp (nn _)) (by intro z; cases z)
    have m1 : ∀ a : Addr, a ≠ p → a ∉ [p] := fun a h z => h (List.mem_singleton.mp z)
    have f04 : Fr [p] H H4 := f03.up.trans f4
    k_offL
    refine r_dictD (.inl (f04.at_ _ _ hn (m1 _ pn))) fun da H5 n5 e5 f5 => ?_
    k_offL
    have q5 : H5 p = some (.ins CNet dx [("size", V.int N.size)]) := f5.at_ _ _ e4 (nn _)
    refine stfk q5 T.cl T.n2 (by show 1 < 1000; decide) fun H6 e6 f6 => ?_
    have pda : da ≠ p := (ne_of_none e4 n5).symm
    have f06 : Fr [p] H H6 := (f04.trans f5.up).trans f6
    have n0a : H da = none := by
      cases q : H da with
      | none => rfl
      | some o => rw [f04.at_ _ _ q (m1 _ pda)] at n5; cases n5
    k_offL
    have qn : H6 n = some (.dK kn) := f06.at_ _ _ hn (m1 _ pn)
    have qda : H6 da = some (.dK kn) := f6.at_ _ _ e5 (m1 _ pda)
    obtain ⟨ks, hks⟩ := dn.ik
    have nd : ks.Nodup := nodup_map_inl.mp (by rw [← hks]; exact dn.nd)
    have hln : kn.length = ks.length := by have := congrArg List.length hks; simpa using this
    have hlk := dn.len ok.ascF
    have hlm := ok.hl
    have f46 := f5.up (M := [p]) |>.trans f6
    have qab : H6 ab = some (.dK kb) := f46.at_ _ _ (f4.at_ _ _ ((f2.trans f3).at_ _ _ eb (nn _)) (m1 _ pab)) (m1 _ pab)
    refine x_lockE qn fun od H7 e7 l7 => ?_
    have rab : Rd H7 ab (.dK kb) := by
      by_cases z : ab = n
      · subst z
        rw [qab] at qn
        cases qn
        exact .inr ⟨od, e7⟩
      · exact .inl (l7 _ _ z qab)
    k_offL
    refine keysk e7 ?_
    refine dcV (walk_keys (kvs := kn)) ks nd hln (fun i H0 x H' _ y => yKey hks y) (fun _ => true) (fun k => oV (N.b k)) (fun H' f => f.fz _ _ _ e7) (by omega) (fun k' H' hk' f => ?_) fun db' H8 n8 e8 f8 => ?_
    · refine sk7 ⟨fun R kR => kR H' (Fr.refl _ _), fun _ H3 f3' R kR => ?_⟩
      have r3 : Rd H3 ab (.dK kb) := (f.trans f3').rd rab (nn _)
      k_offL
      refine dg1a r3 ?_
      k_offL
      refine dg1b r3 ?_
      have ev : (valV kb (Sum.inl k')).getD V.non = oV (N.b k') := by
        rw [db.val]
        unfold NS.lb
        cases N.b k' <;> rfl
      rw [ev]
      exact kR H3 (Fr.refl _ _)
    · have nd7 : db' ≠ n := (ne_of_none e7 n8).symm
      refine unlk qn e7 l7 f8 fun H9 f9 keep => ?_
      have e9 := keep _ _ nd7 e8
      have q9 := f9.at_ _ _ e6 (nn _)
      have f09 : Fr [p] H H9 := f06.trans f9.up
      k_offL
      refine stfk q9 T.cl T.n3 (by show 2 < 1000; decide) fun H10 e10 f10 => ?_
      have f0a : Fr [p] H H10 := f09.trans f10
      have n6b : H6 db' = none := by
        cases q : H6 db' with
        | none => rfl
        | some o => rw [l7 _ _ nd7 q] at n8; cases n8
      have pdb : db' ≠ p := (ne_of_none e6 n6b).symm
      have dab : da ≠ db' := ne_of_none qda n6b
      have n0b : H db' = none := by
        cases q : H db' with
        | none => rfl
        | some o => rw [f06.at_ _ _ q (m1 _ pdb)] at n6b; cases n6b
      have qal : H10 al = some (.lst kl) := f10.at_ _ _ (f9.at_ _ _ (f46.at_ _ _ (f4.at_ _ _ (f3.at_ _ _ el (nn _)) (m1 _ pal)) (m1 _ pal)) (nn _)) (m1 _ pal)
      k_offL
      refine r_listL (sqL_of qal) fun dl' H11 n11 e11 f11 => ?_
      k_offL
      have pdl : dl' ≠ p := (ne_of_none e10 n11).symm
      refine stfk (f11.at_ _ _ e10 (nn _)) T.cl T.n4 (by show 3 < 1000; decide) fun H12 e12 f12 => ?_
      have f0c : Fr [p] H H12 := (f0a.trans f11.up).trans f12
      have n0l : H dl' = none := by
        cases q : H dl' with
        | none => rfl
        | some o => rw [f0a.at_ _ _ q (m1 _ pdl)] at n11; cases n11
      have f6c : Fr [p] H6 H12 := ((f9.up.trans f10).trans f11.up).trans f12
      have hk9 : (fun k => ((Sum.inl k : Key), oV (N.b k))) = fun k => ((Sum.inl k : Key), oV (N.b k)) := rfl
      refine k da db' dl' H12 n0a n0b n0l dab ⟨⟨dx, by rw [e12]; exact congrArg (fun z => some (HO.ins CNet dx z)) (netF_put N.size da db' dl')⟩, ⟨kn, f6c.at_ _ _ qda (m1 _ pda), dn⟩,
        ⟨_, f12.at_ _ _ (f11.at_ _ _ (f10.at_ _ _ e9 (m1 _ pdb)) (nn _)) (m1 _ pdb), ?_⟩, ⟨kl, f12.at_ _ _ e11 (m1 _ pdl), dl.fr (((((f3.up (M := [p])).trans f4).trans f46).trans f9.up |>.trans f10).trans f11.up |>.trans f12)⟩, dab⟩ f0c
      rw [List.filter_eq_self.mpr fun _ _ => rfl]
      refine (DOk.ofMap nd fun k => oV (N.b k)).cong fun x => ?_
      have hx : x ∈ ks ↔ x ∈ N.hs := by
        rw [ok.ascF.mem, ← dn.mem, hks]
        simp
      unfold NS.mb
      by_cases z : x ∈ N.hs
      · rw [if_pos z, if_pos (hx.mpr z)]
      · rw [if_neg z, if_neg fun q => z (hx.mp q)]
end
end RL
set_option synthInstance.maxHeartbeats 4000000
set_option synthInstance.maxSize 4000
namespace RL
def spHouses (C : Addr) : Sp := fun vs H Q _ => ∃ (p da db dl : Addr) (N : NS), vs = [.ref p] ∧ NetAt C H p da db dl N ∧ N.Ok ∧ ∀ l H', H l = none → H' l = some (.lst (N.hs.map V.int)) → Fr [] H H' → Q (.ref l) H'
section
variable {P : Program} {w : World} {K : PySem.W.Frag} {mg : Str → Option Value} {base : Heap} {CNet CMender CDesk CStore CWalk : Addr}
abbrev s_Net_houses : Stmt := inClass (top 30) 1
theorem sc_Net_houses : FnScope ["self"] ["self"] (defScope s_Net_houses) := ⟨rfl, rfl, rfl, by decide +kernel, rfl, by decide +kernel, by decide +kernel⟩
theorem ok_Net_houses {f : Addr} {fd : FuncData} (F : Fun K "houses" "Net.houses" s_Net_houses f fd) (m_sorted : mg "sorted" = none) (T : NetT K CNet) : FnOk P w K mg base CX0 1 f fd ["self"] (spHouses CNet) := by
  refine F.ok sc_Net_houses (fun vs H Q E h => ?_) (fun cdv A outer s H vs Q E hr h => ?_)
  · obtain ⟨_, _, _, _, _, rfl, _⟩ := h; rfl
  · obtain ⟨p, da, db, dl, N, rfl, hN, ok, k⟩ := h
    refine ⟨_, (pss_one (ps_ret (pe_callB (cb_sortD rfl) (by rfl) m_sorted b_sorted (pa_cons (pe_fldK (K := K) rfl (pv 0) (by rfl)) pa_nil)))), ?_⟩
    (try simp only [cxK, cxKX, List.map])
    refine ent (σ' := [some _]) rfl ?_
    obtain ⟨⟨dx, hp⟩, ⟨kn, hn, dn⟩, _⟩ := id hN
    k_offL
    exact r_sortD (.inl hn) dn ok.ascF (by have := ok.hl; omega) k
end
def NS.kn (N : NS) : List (Key × V) := N.hs.map fun h => (Sum.inl h, V.int (N.f h))
theorem NS.Ok.nd {N : NS} (h : N.Ok) : N.hs.Nodup := h.up.imp fun h => Int.ne_of_lt h
theorem NS.Ok.dkn {N : NS} (h : N.Ok) : DOk N.kn N.mf := DOk.ofMap h.nd fun k => V.int (N.f k)
def spNexts (C : Addr) : Sp := fun vs H Q _ => ∃ (p da db dl : Addr) (N : NS), vs = [.ref p] ∧ NetAt C H p da db dl N ∧ N.Ok ∧ ∀ l H', H l = none → H' l = some (.dK N.kn) → Fr [] H H' → Q (.ref l) H'
section
variable {P : Program} {w : World} {K : PySem.W.Frag} {mg : Str → Option Value} {base : Heap} {CNet CMender CDesk CStore CWalk : Addr}
abbrev s_Net_nexts : Stmt := inClass (top 30) 4
theorem sc_Net_nexts : FnScope ["self", "house"] ["self"] (defScope s_Net_nexts) := ⟨rfl, rfl, rfl, by decide +kernel, rfl, by decide +kernel, by decide +kernel⟩
theorem ok_Net_nexts {f : Addr} {fd : FuncData} (F : Fun K "nexts" "Net.nexts" s_Net_nexts f fd) (m_sorted : mg "sorted" = none) (T : NetT K CNet) : FnOk P w K mg base CX0 1 f fd ["self"] (spNexts CNet) := by
  refine F.ok sc_Net_nexts (fun vs H Q E h => ?_) (fun cdv A outer s H vs Q E hr h => ?_)
  · obtain ⟨_, _, _, _, _, rfl, _⟩ := h; rfl
  · obtain ⟨p, da, db, dl, N, rfl, hN, ok, k⟩ := h
    refine ⟨_, (pss_one (ps_ret (pe_dc (own := [("house", 1)]) (g := gName 1) rfl sc_Net_nexts.nd (pi_listK (K := K) rfl (pe_callB (cb_sortD rfl) (by rfl) m_sorted b_sorted (pa_cons (pe_fldK (K := K) rfl (pv 0) (by rfl)) pa_nil))) (blkOk_by (N := ["self", "house"]) (sc := defScope s_Net_nexts) (by decide +kernel)) (fun _ _ _ _ _ => (pg_name (i := 1) sc_Net_nexts.nd rfl (Or.inl rfl))) (fun _ _ _ _ _ => pts_nil) (fun _ _ _ _ _ => (pv 1)) (fun _ _ _ _ _ => (pe_dget (hu_of hr) (pe_fldK (K := K) rfl (pv 0) (by rfl)) (pv 1) (by intro _ _; rfl)))))), ?_⟩
    (try simp only [cxK, cxKX, List.map])
    refine ent (σ' := [some _, none]) rfl ?_
    obtain ⟨⟨dx, hp⟩, ⟨kn, hn, dn⟩, _⟩ := id hN
    have hlen := ok.hl
    k_offL
    refine r_sortD (.inl hn) dn ok.ascF (by omega) fun l1 H1 n1 e1 f1 => ?_
    refine walkL (sqL_of e1) ?_
    refine dcV (walk_list (xs := N.hs.map V.int)) N.hs ok.nd (by rw [List.length_map]) (fun i H0 x H' _ y => yAtI y) (fun _ => true) (fun h => .int (N.f h)) (fun H' f => f.sqL (sqL_of e1) (fun z => nomatch z)) (by omega) (fun h H' hm f => ?_) fun q H2 n2 e2 f2 => ?_
    · refine sk1 ⟨fun R kR => kR H' (Fr.refl _ _), fun _ H3 f3 R kR => ?_⟩
      k_offL
      refine dgetk (.inl (by k_clsL)) (by rw [dn.val, NS.mf_at hm]) ?_
      exact kR H3 (Fr.refl _ _)
    · rw [List.filter_eq_self.mpr fun _ _ => rfl] at e2
      exact k q H2 (f1.free n2) e2 (f1.trans f2)
end
def NS.kb (N : NS) : List (Key × V) := N.bs.map fun h => (Sum.inl h, oV (N.b h))
theorem NS.Ok.dkb {N : NS} (h : N.Ok) : DOk N.kb N.lb := (DOk.ofMap (h.nd.filter _) fun k => oV (N.b k)).cong fun n => by
  show (if n ∈ N.bs then some (oV (N.b n)) else none) = (N.b n).map V.int
  cases e : N.b n with
  | none =>
    have z : ¬ n ∈ N.bs := fun z => by
      have := (List.mem_filter.mp z).2
      simp [e] at this
    rw [if_neg z]; rfl
  | some x =>
    have z : n ∈ N.bs := List.mem_filter.mpr ⟨(h.bh n x e).1, by simp [e]⟩
    rw [if_pos z]; rfl
def spBefores (C : Addr) : Sp := fun vs H Q _ => ∃ (p da db dl : Addr) (N : NS), vs = [.ref p] ∧ NetAt C H p da db dl N ∧ N.Ok ∧ ∀ l H', H l = none → H' l = some (.dK N.kb) → Fr [] H H' → Q (.ref l) H'
section
variable {P : Program} {w : World} {K : PySem.W.Frag} {mg : Str → Option Value} {base : Heap} {CNet CMender CDesk CStore CWalk : Addr}
abbrev s_Net_befores : Stmt := inClass (top 30) 5
theorem sc_Net_befores : FnScope ["self", "behinds", "house"] ["self"] (defScope s_Net_befores) := ⟨rfl, rfl, rfl, by decide +kernel, rfl, by decide +kernel, by decide +kernel⟩
theorem ok_Net_befores {f : Addr} {fd : FuncData} (F : Fun K "befores" "Net.befores" s_Net_befores f fd) (m_sorted : mg "sorted" = none) (T : NetT K CNet) : FnOk P w K mg base CX0 1 f fd ["self"] (spBefores CNet) := by
  refine F.ok sc_Net_befores (fun vs H Q E h => ?_) (fun cdv A outer s H vs Q E hr h => ?_)
  · obtain ⟨_, _, _, _, _, rfl, _⟩ := h; rfl
  · obtain ⟨p, da, db, dl, N, rfl, hN, ok, k⟩ := h
    refine ⟨_, (pss_cons (ps_set (i := 1) sc_Net_befores.nd rfl (Or.inr rfl) (pe_fldK (K := K) rfl (pv 0) (by rfl)))
      (pss_one (ps_ret (pe_dc (own := [("house", 2)]) (g := gName 2) rfl sc_Net_befores.nd (pi_listK (K := K) rfl (pe_callB (cb_sortD rfl) (by rfl) m_sorted b_sorted (pa_cons (pv 1) pa_nil))) (blkOk_by (N := ["self", "behinds", "house"]) (sc := defScope s_Net_befores) (by decide +kernel)) (fun _ _ _ _ _ => (pg_name (i := 2) sc_Net_befores.nd rfl (Or.inl rfl))) (fun _ _ _ _ _ => pts_one (pt_cmpR op_notNn (pe_dget (hu_of hr) (pv 1) (pv 2) (by intro _ _; rfl)) pe_non (nomark _))) (fun _ _ _ _ _ => (pv 2)) (fun _ _ _ _ _ => (pe_dget (hu_of hr) (pv 1) (pv 2) (by intro _ _; rfl))))))), ?_⟩
    (try simp only [cxK, cxKX, List.map])
    refine ent (σ' := [some _, none, none]) rfl ?_
    obtain ⟨⟨dx, hp⟩, ⟨kn, hn, dn⟩, ⟨kb, hb, eb⟩, _⟩ := id hN
    have hlen := ok.hl
    k_offL
    refine r_sortD (.inl hb) eb ok.ascB (by omega) fun l1 H1 n1 e1 f1 => ?_
    refine walkL (sqL_of e1) ?_
    refine dcV (walk_list (xs := N.hs.map V.int)) N.hs ok.nd (by rw [List.length_map]) (fun i H0 x H' _ y => yAtI y) (fun h => (N.b h).isSome) (fun h => oV (N.b h)) (fun H' f => f.sqL (sqL_of e1) (fun z => nomatch z)) (by omega) (fun h H' hm f => ?_) fun q H2 n2 e2 f2 => ?_
    · refine sk2 ⟨fun R kR => ?_, fun _ H3 f3 R kR => ?_⟩
      · k_offL
        refine dgetk (.inl (by k_clsL)) (by rw [eb.val, NS.mb_at hm]) ?_
        k_offL
        have ev : (!decide (oV (N.b h) = V.non)) = (N.b h).isSome := by cases N.b h <;> rfl
        rw [ev]
        exact kR H' (Fr.refl _ _)
      · k_offL
        refine dgetk (.inl (by k_clsL)) (by rw [eb.val, NS.mb_at hm]) ?_
        exact kR H3 (Fr.refl _ _)
    · exact k q H2 (f1.free n2) e2 (f1.trans f2)
end
def spLetters (C : Addr) : Sp := fun vs H Q _ => ∃ (p da db dl : Addr) (N : NS), vs = [.ref p] ∧ NetAt C H p da db dl N ∧ ∀ l lv H', H l = none → H' l = some (.lst lv) → LetsIs H' N.post lv → Fr [] H H' → Q (.ref l) H'
section
variable {P : Program} {w : World} {K : PySem.W.Frag} {mg : Str → Option Value} {base : Heap} {CNet CMender CDesk CStore CWalk : Addr}
abbrev s_Net_letters : Stmt := inClass (top 30) 6
theorem sc_Net_letters : FnScope ["self"] ["self"] (defScope s_Net_letters) := ⟨rfl, rfl, rfl, by decide +kernel, rfl, by decide +kernel, by decide +kernel⟩
theorem ok_Net_letters {f : Addr} {fd : FuncData} (F : Fun K "letters" "Net.letters" s_Net_letters f fd) (m_list : mg "list" = none) (T : NetT K CNet) : FnOk P w K mg base CX0 1 f fd ["self"] (spLetters CNet) := by
  refine F.ok sc_Net_letters (fun vs H Q E h => ?_) (fun cdv A outer s H vs Q E hr h => ?_)
  · obtain ⟨_, _, _, _, _, rfl, _⟩ := h; rfl
  · obtain ⟨p, da, db, dl, N, rfl, hN, k⟩ := h
    refine ⟨_, (pss_one (ps_ret (pe_callTy (cb_listOfK (K := K) rfl) (by rfl) m_list b_list (pa_cons (pe_fldK (K := K) rfl (pv 0) (by rfl)) pa_nil)))), ?_⟩
    (try simp only [cxK, cxKX, List.map])
    refine ent (σ' := [some _]) rfl ?_
    obtain ⟨⟨dx, hp⟩, _, _, ⟨lv, hl, ls⟩, _⟩ := id hN
    k_offL
    exact r_listL (sqL_of hl) fun l H' n1 e1 f1 => k l lv H' n1 e1 (ls.fr f1) f1
end
def NS.push (N : NS) (l : LT) : NS := { N with post := N.post ++ [l] }
def spSend (C : Addr) : Sp := fun vs H Q _ => ∃ (p da db dl : Addr) (N : NS) (w : Str) (h : Int) (l : LT), vs = [.ref p, .str w, .int h] ∧ NetAt C H p da db dl N ∧ h ∈ N.hs ∧ N.Ok ∧ l.vs = [.str w, .int (N.f h), .int h] ∧
  ∀ t H', H' t = some (.tup l.vs) → NetAt C H' p da db dl (N.push l) → Fr [dl] H H' → Q (.ref t) H'
section
variable {P : Program} {w : World} {K : PySem.W.Frag} {mg : Str → Option Value} {base : Heap} {CNet CMender CDesk CStore CWalk : Addr}
abbrev s_Net__send : Stmt := inClass (top 30) 11
theorem sc_Net__send : FnScope ["self", "word", "house", "letter"] ["self", "word", "house"] (defScope s_Net__send) := ⟨rfl, rfl, rfl, by decide +kernel, rfl, by decide +kernel, by decide +kernel⟩
theorem ok_Net__send {f : Addr} {fd : FuncData} (F : Fun K "_send" "Net._send" s_Net__send f fd) (G_check_houses : GF P w K mg base "check_houses" 1 ["houses", "places"] (spCheckHouses K)) (T : NetT K CNet) : FnOk P w K mg base CX0 2 f fd ["self", "word", "house"] (spSend CNet) := by
  refine F.ok sc_Net__send (fun vs H Q E h => ?_) (fun cdv A outer s H vs Q E hr h => ?_)
  · obtain ⟨_, _, _, _, _, _, _, _, rfl, _⟩ := h; rfl
  · obtain ⟨p, da, db, dl, N, wd, x, l, rfl, hN, hx, ok, hl, k⟩ := h
    refine ⟨_, (pss_cons (ps_expr (c_fn G_check_houses (hr.mono (by decide)) (pa_cons (pe_fldK (K := K) rfl (pv 0) (by rfl)) (pa_cons (pe_lst (pa_cons (pv 2) pa_nil)) pa_nil))))
      (pss_cons (ps_set (i := 3) sc_Net__send.nd rfl (Or.inl rfl) (pe_tup (pa_cons (pv 1) (pa_cons (pe_dget (hu_of hr) (pe_fldK (K := K) rfl (pv 0) (by rfl)) (pv 2) (by intro _ _; rfl)) (pa_cons (pv 2) pa_nil)))))
      (pss_cons (ps_expr (pe_bmK (K := K) rfl PySem.F.plainAttrs_list PySem.F.slot_list_append PySem.F.type_list_append mt_append (pe_fldK (K := K) rfl (pv 0) (by rfl)) (pa_cons (pv 3) pa_nil)))
      (pss_one (ps_ret (pv 3)))))), ?_⟩
    (try simp only [cxK, cxKX, List.map])
    refine ent (σ' := [some _, some _, some _, none]) rfl ?_
    obtain ⟨⟨dx, hp⟩, ⟨kn, hn, dn⟩, ⟨kb, hb, eb⟩, ⟨lv, hl', ls⟩, ne⟩ := id hN
    k_offL
    refine lstk (by show 1 ≤ 100000; decide) fun t H1 n1 e1 f1 => ?_
    k_offL
    refine i_check_houses [x] (.inl (by k_clsL)) dn (.inl (sqL_of e1)) (fun y hy => by rw [List.mem_singleton.mp hy]; exact NS.mf_some hx) ?_
    k_offL
    refine dgetk (.inl (by k_clsL)) (by rw [dn.val, NS.mf_at hx]) ?_
    k_offL
    refine tupk (by show 3 ≤ 100000; decide) fun t H2 n2 e2 f2 => ?_
    rw [← hl] at e2
    k_offL
    refine r_app (xs := lv) (by k_clsL) (by rw [ls.len]; have := ok.pl; omega) fun H3 e3 f3 => ?_
    k_offL
    have f03 : Fr [dl] H H3 := ((f1.trans f2).up (M := [dl])).trans f3
    refine k t H3 (f3.tp _ _ e2) ⟨⟨dx, by k_clsL⟩, ⟨kn, by k_clsL, dn⟩, ⟨kb, by k_clsL, eb⟩, ⟨_, e3, (ls.fr f03).snoc (f3.tp _ _ e2)⟩, ne⟩ f03
end
def spTell (C : Addr) : Sp := fun vs H Q _ => ∃ (p da db dl : Addr) (N : NS) (h : Int), vs = [.ref p, .int h] ∧ NetAt C H p da db dl N ∧ h ∈ N.hs ∧ N.Ok ∧
  ∀ t H', H' t = some (.tup (LT.tell (N.f h) h).vs) → NetAt C H' p da db dl (N.push (.tell (N.f h) h)) → Fr [dl] H H' → Q (.ref t) H'
section
variable {P : Program} {w : World} {K : PySem.W.Frag} {mg : Str → Option Value} {base : Heap} {CNet CMender CDesk CStore CWalk : Addr}
abbrev s_Net_tell : Stmt := inClass (top 30) 9
theorem sc_Net_tell : FnScope ["self", "house"] ["self", "house"] (defScope s_Net_tell) := ⟨rfl, rfl, rfl, by decide +kernel, rfl, by decide +kernel, by decide +kernel⟩
theorem ok_Net_tell {f : Addr} {fd : FuncData} (F : Fun K "tell" "Net.tell" s_Net_tell f fd) (G_Net__send : GM P w K mg base CNet "_send" 2 ["self", "word", "house"] (spSend CNet)) (T : NetT K CNet) : FnOk P w K mg base CX0 3 f fd ["self", "house"] (spTell CNet) := by
  refine F.ok sc_Net_tell (fun vs H Q E h => ?_) (fun cdv A outer s H vs Q E hr h => ?_)
  · obtain ⟨_, _, _, _, _, _, rfl, _⟩ := h; rfl
  · obtain ⟨p, da, db, dl, N, x, rfl, hN, hx, ok, k⟩ := h
    refine ⟨_, (pss_one (ps_ret (c_mt G_Net__send (hr.mono (by decide)) (pv 0) (pa_cons pe_str (pa_cons (pv 1) pa_nil))))), ?_⟩
    (try simp only [cxK, cxKX, List.map])
    refine ent (σ' := [some _, some _]) rfl ?_
    obtain ⟨⟨dx, hp⟩, _⟩ := id hN
    k_offL
    exact ⟨p, da, db, dl, N, _, x, .tell (N.f x) x, rfl, hN, hx, ok, rfl, k⟩
end
def spAsk (C : Addr) : Sp := fun vs H Q _ => ∃ (p da db dl : Addr) (N : NS) (h : Int), vs = [.ref p, .int h] ∧ NetAt C H p da db dl N ∧ h ∈ N.hs ∧ N.Ok ∧
  ∀ t H', H' t = some (.tup (LT.ask (N.f h) h).vs) → NetAt C H' p da db dl (N.push (.ask (N.f h) h)) → Fr [dl] H H' → Q (.ref t) H'
section
variable {P : Program} {w : World} {K : PySem.W.Frag} {mg : Str → Option Value} {base : Heap} {CNet CMender CDesk CStore CWalk : Addr}
abbrev s_Net_ask : Stmt := inClass (top 30) 10
theorem sc_Net_ask : FnScope ["self", "house"] ["self", "house"] (defScope s_Net_ask) := ⟨rfl, rfl, rfl, by decide +kernel, rfl, by decide +kernel, by decide +kernel⟩
theorem ok_Net_ask {f : Addr} {fd : FuncData} (F : Fun K "ask" "Net.ask" s_Net_ask f fd) (G_Net__send : GM P w K mg base CNet "_send" 2 ["self", "word", "house"] (spSend CNet)) (T : NetT K CNet) : FnOk P w K mg base CX0 3 f fd ["self", "house"] (spAsk CNet) := by
  refine F.ok sc_Net_ask (fun vs H Q E h => ?_) (fun cdv A outer s H vs Q E hr h => ?_)
  · obtain ⟨_, _, _, _, _, _, rfl, _⟩ := h; rfl
  · obtain ⟨p, da, db, dl, N, x, rfl, hN, hx, ok, k⟩ := h
    refine ⟨_, (pss_one (ps_ret (c_mt G_Net__send (hr.mono (by decide)) (pv 0) (pa_cons pe_str (pa_cons (pv 1) pa_nil))))), ?_⟩
    (try simp only [cxK, cxKX, List.map])
    refine ent (σ' := [some _, some _]) rfl ?_
    obtain ⟨⟨dx, hp⟩, _⟩ := id hN
    k_offL
    exact ⟨p, da, db, dl, N, _, x, .ask (N.f x) x, rfl, hN, hx, ok, rfl, k⟩
end
def spCheckIndex (C : Addr) : Sp := fun vs H Q _ => ∃ (p da db dl : Addr) (N : NS) (i : Nat), vs = [.ref p, .int (i : Int)] ∧ NetAt C H p da db dl N ∧ i < N.post.length ∧ Q .non H
section
variable {P : Program} {w : World} {K : PySem.W.Frag} {mg : Str → Option Value} {base : Heap} {CNet CMender CDesk CStore CWalk : Addr}
abbrev s_Net__check_index : Stmt := inClass (top 30) 12
theorem sc_Net__check_index : FnScope ["self", "at"] ["self", "at"] (defScope s_Net__check_index) := ⟨rfl, rfl, rfl, by decide +kernel, rfl, by decide +kernel, by decide +kernel⟩
theorem ok_Net__check_index {f : Addr} {fd : FuncData} (F : Fun K "_check_index" "Net._check_index" s_Net__check_index f fd) (m_len : mg "len" = none) (T : NetT K CNet) : FnOk P w K mg base CX0 1 f fd ["self", "at"] (spCheckIndex CNet) := by
  refine F.ok sc_Net__check_index (fun vs H Q E h => ?_) (fun cdv A outer s H vs Q E hr h => ?_)
  · obtain ⟨_, _, _, _, _, _, rfl, _⟩ := h; rfl
  · obtain ⟨p, da, db, dl, N, i, rfl, hN, hi, k⟩ := h
    refine ⟨_, (pss_one (ps_if (pt_not (pt_chain op_le op_lt pe_int (pv 1) (pe_callB (cb_lenSK (K := K) rfl) (by rfl) m_len b_len (pa_cons (pe_fldK (K := K) rfl (pv 0) (by rfl)) pa_nil)))) (pss_one ps_never) pss_nil)), ?_⟩
    (try simp only [cxK, cxKX, List.map])
    refine ent (σ' := [some _, some _]) rfl ?_
    obtain ⟨⟨dx, hp⟩, _, _, ⟨lv, hl, ls⟩, _⟩ := id hN
    k_offL
    refine ifDT (by omega) ?_
    k_offL
    refine r_lenL (sqL_of hl) ?_
    k_offL
    refine ifNF (by rw [ls.len]; omega) ?_
    k_offL
    exact k
end
def NS.del (N : NS) (i : Nat) : NS := { N with post := N.post.eraseIdx i }
def spLose (C : Addr) : Sp := fun vs H Q _ => ∃ (p da db dl : Addr) (N : NS) (i : Nat) (l : LT), vs = [.ref p, .int (i : Int)] ∧ NetAt C H p da db dl N ∧ N.post[i]? = some l ∧ N.Ok ∧
  ∀ t H', H' t = some (.tup l.vs) → NetAt C H' p da db dl (N.del i) → Fr [dl] H H' → Q (.ref t) H'
section
variable {P : Program} {w : World} {K : PySem.W.Frag} {mg : Str → Option Value} {base : Heap} {CNet CMender CDesk CStore CWalk : Addr}
abbrev s_Net_lose : Stmt := inClass (top 30) 13
theorem sc_Net_lose : FnScope ["self", "at"] ["self", "at"] (defScope s_Net_lose) := ⟨rfl, rfl, rfl, by decide +kernel, rfl, by decide +kernel, by decide +kernel⟩
theorem ok_Net_lose {f : Addr} {fd : FuncData} (F : Fun K "lose" "Net.lose" s_Net_lose f fd) (G_Net__check_index : GM P w K mg base CNet "_check_index" 1 ["self", "at"] (spCheckIndex CNet)) (T : NetT K CNet) : FnOk P w K mg base CX0 2 f fd ["self", "at"] (spLose CNet) := by
  refine F.ok sc_Net_lose (fun vs H Q E h => ?_) (fun cdv A outer s H vs Q E hr h => ?_)
  · obtain ⟨_, _, _, _, _, _, _, rfl, _⟩ := h; rfl
  · obtain ⟨p, da, db, dl, N, i, l, rfl, hN, hi, ok, k⟩ := h
    refine ⟨_, (pss_cons (ps_expr (c_mt G_Net__check_index (hr.mono (by decide)) (pv 0) (pa_cons (pv 1) pa_nil)))
      (pss_one (ps_ret (pe_bmK (K := K) rfl PySem.F.plainAttrs_list PySem.F.slot_list_pop PySem.F.type_list_pop mt_popAt (pe_fldK (K := K) rfl (pv 0) (by rfl)) (pa_cons (pv 1) pa_nil))))), ?_⟩
    (try simp only [cxK, cxKX, List.map])
    refine ent (σ' := [some _, some _]) rfl ?_
    obtain ⟨⟨dx, hp⟩, ⟨kn, hn, dn⟩, ⟨kb, hb, eb⟩, ⟨lv, hl, ls⟩, ne⟩ := id hN
    have hlt := (List.getElem?_eq_some_iff.mp hi).1
    have hpl := ok.pl
    obtain ⟨t, ht, hT⟩ := ls.at_ i l hi
    k_offL
    refine ⟨p, da, db, dl, N, i, rfl, hN, hlt, ?_⟩
    k_offL
    refine r_popAt hl ht (by omega) fun H1 e1 f1 => ?_
    k_offL
    exact k t H1 (f1.tp _ _ hT) ⟨⟨dx, by k_clsL⟩, ⟨kn, by k_clsL, dn⟩, ⟨kb, by k_clsL, eb⟩, ⟨_, e1, (ls.fr f1).erase i⟩, ne⟩ f1
end
def spRepeat (C : Addr) : Sp := fun vs H Q _ => ∃ (p da db dl : Addr) (N : NS) (i : Nat) (l : LT), vs = [.ref p, .int (i : Int)] ∧ NetAt C H p da db dl N ∧ N.post[i]? = some l ∧ N.Ok ∧
  ∀ t H', H' t = some (.tup l.vs) → NetAt C H' p da db dl (N.push l) → Fr [dl] H H' → Q (.ref t) H'
section
variable {P : Program} {w : World} {K : PySem.W.Frag} {mg : Str → Option Value} {base : Heap} {CNet CMender CDesk CStore CWalk : Addr}
abbrev s_Net_repeat : Stmt := inClass (top 30) 14
theorem sc_Net_repeat : FnScope ["self", "at", "letter"] ["self", "at"] (defScope s_Net_repeat) := ⟨rfl, rfl, rfl, by decide +kernel, rfl, by decide +kernel, by decide +kernel⟩
theorem ok_Net_repeat {f : Addr} {fd : FuncData} (F : Fun K "repeat" "Net.repeat" s_Net_repeat f fd) (G_Net__check_index : GM P w K mg base CNet "_check_index" 1 ["self", "at"] (spCheckIndex CNet)) (T : NetT K CNet) : FnOk P w K mg base CX0 2 f fd ["self", "at"] (spRepeat CNet) := by
  refine F.ok sc_Net_repeat (fun vs H Q E h => ?_) (fun cdv A outer s H vs Q E hr h => ?_)
  · obtain ⟨_, _, _, _, _, _, _, rfl, _⟩ := h; rfl
  · obtain ⟨p, da, db, dl, N, i, l, rfl, hN, hi, ok, k⟩ := h
    refine ⟨_, (pss_cons (ps_expr (c_mt G_Net__check_index (hr.mono (by decide)) (pv 0) (pa_cons (pv 1) pa_nil)))
      (pss_cons (ps_set (i := 2) sc_Net_repeat.nd rfl (Or.inl rfl) (pe_ix (ix_listK (K := K) rfl) (pe_fldK (K := K) rfl (pv 0) (by rfl)) (pv 1) (by intro _ _; rfl)))
      (pss_cons (ps_expr (pe_bmK (K := K) rfl PySem.F.plainAttrs_list PySem.F.slot_list_append PySem.F.type_list_append mt_append (pe_fldK (K := K) rfl (pv 0) (by rfl)) (pa_cons (pv 2) pa_nil)))
      (pss_one (ps_ret (pv 2)))))), ?_⟩
    (try simp only [cxK, cxKX, List.map])
    refine ent (σ' := [some _, some _, none]) rfl ?_
    obtain ⟨⟨dx, hp⟩, ⟨kn, hn, dn⟩, ⟨kb, hb, eb⟩, ⟨lv, hl, ls⟩, ne⟩ := id hN
    have hlt := (List.getElem?_eq_some_iff.mp hi).1
    have hpl := ok.pl
    obtain ⟨t, ht, hT⟩ := ls.at_ i l hi
    k_offL
    refine ⟨p, da, db, dl, N, i, rfl, hN, hlt, ?_⟩
    k_offL
    refine r_ixL (sqL_of hl) (atI_nat ht) ?_
    k_offL
    refine r_app hl (by rw [ls.len]; omega) fun H1 e1 f1 => ?_
    k_offL
    exact k t H1 (f1.tp _ _ hT) ⟨⟨dx, by k_clsL⟩, ⟨kn, by k_clsL, dn⟩, ⟨kb, by k_clsL, eb⟩, ⟨_, e1, (ls.fr f1).snoc (f1.tp _ _ hT)⟩, ne⟩ f1
end
end RL
set_option synthInstance.maxHeartbeats 4000000
set_option synthInstance.maxSize 4000
namespace RL
def NS.setF (N : NS) (u x : Int) : NS := { N with f := fun h => if h = u then x else N.f h }
def NS.setB (N : NS) (u : Int) (x : Option Int) : NS := { N with b := fun h => if h = u then x else N.b h }
def NS.readL (N : NS) : LT → NS × List V
  | .tell v u => match N.b v with
    | none => (N.setB v (some u), [.str "before", .int v, .int u])
    | some b => if btw N.size b u v = true then (N.setB v (some u), [.str "before", .int v, .int u]) else (N, [.str "kept", .int v, .non])
  | .ask v u => match N.b v with
    | none => (N, [.str "kept", .int v, .non])
    | some x => (N.push (.ans u v x), [.str "wrote", .int v, .int x])
  | .ans u v x => if N.f u = v ∧ btw N.size u x v = true then (N.setF u x, [.str "next", .int u, .int x]) else (N, [.str "kept", .int u, .non])
theorem NS.mb_setB (N : NS) (v : Int) (x : Option Int) (hv : v ∈ N.hs) (h : Int) : (if h = v then some (oV x) else N.mb h) = (N.setB v x).mb h := by
  unfold NS.mb
  show _ = if h ∈ N.hs then some (oV (if h = v then x else N.b h)) else none
  by_cases e : h = v
  · subst e; rw [if_pos rfl, if_pos hv, if_pos rfl]
  · rw [if_neg e]
    by_cases m : h ∈ N.hs
    · rw [if_pos m, if_pos m, if_neg e]
    · rw [if_neg m, if_neg m]
theorem NS.mf_setF (N : NS) (v x : Int) (hv : v ∈ N.hs) (h : Int) : (if h = v then some (.int x) else N.mf h) = (N.setF v x).mf h := by
  unfold NS.mf
  show _ = if h ∈ N.hs then some (V.int (if h = v then x else N.f h)) else none
  by_cases e : h = v
  · subst e; rw [if_pos rfl, if_pos hv, if_pos rfl]
  · rw [if_neg e]
    by_cases m : h ∈ N.hs
    · rw [if_pos m, if_pos m, if_neg e]
    · rw [if_neg m, if_neg m]
theorem NS.Ok.kbl {N : NS} (ok : N.Ok) {kb : List (Key × V)} (d : DOk kb N.mb) : kb.length ≤ 100000 := by have := d.len ok.ascB; have := ok.hl; omega
theorem NS.Ok.knl {N : NS} (ok : N.Ok) {kb : List (Key × V)} (d : DOk kb N.mf) : kb.length ≤ 100000 := by have := d.len ok.ascF; have := ok.hl; omega
def spReadAnswer (C : Addr) : Sp := fun vs H Q _ => ∃ (p da db dl : Addr) (N : NS) (u v x : Int), vs = [.ref p, .int u, .int v, .int x] ∧ NetAt C H p da db dl N ∧ u ∈ N.hs ∧ N.Ok ∧
  ∀ t H', H' t = some (.tup (N.readL (.ans u v x)).2) → NetAt C H' p da db dl (N.readL (.ans u v x)).1 → Fr [da] H H' → Q (.ref t) H'
section
variable {P : Program} {w : World} {K : PySem.W.Frag} {mg : Str → Option Value} {base : Heap} {CNet CMender CDesk CStore CWalk : Addr}
abbrev s_Net__read_answer : Stmt := inClass (top 30) 18
theorem sc_Net__read_answer : FnScope ["self", "reader", "sender", "named"] ["self", "reader", "sender", "named"] (defScope s_Net__read_answer) := ⟨rfl, rfl, rfl, by decide +kernel, rfl, by decide +kernel, by decide +kernel⟩
theorem ok_Net__read_answer {f : Addr} {fd : FuncData} (F : Fun K "_read_answer" "Net._read_answer" s_Net__read_answer f fd) (G_between : GF P w K mg base "between" 2 ["size", "start", "place", "end"] spBetween) (T : NetT K CNet) : FnOk P w K mg base CX0 3 f fd ["self", "reader", "sender", "named"] (spReadAnswer CNet) := by
  refine F.ok sc_Net__read_answer (fun vs H Q E h => ?_) (fun cdv A outer s H vs Q E hr h => ?_)
  · obtain ⟨_, _, _, _, _, _, _, _, rfl, _⟩ := h; rfl
  · obtain ⟨p, da, db, dl, N, u, v, x, rfl, hN, hu, ok, k⟩ := h
    refine ⟨_, (pss_cons (ps_if (PW.pt (pw_and (pt_cmpR op_eq (pe_dget (hu_of hr) (pe_fldK (K := K) rfl (pv 0) (by rfl)) (pv 1) (by intro _ _; rfl)) (pv 2) (nomark _)) (pw_and1 (pt_val (c_fn G_between (hr.mono (by decide)) (pa_cons (pe_fldK (K := K) rfl (pv 0) (by rfl)) (pa_cons (pv 1) (pa_cons (pv 3) (pa_cons (pv 2) pa_nil))))))))) (pss_cons (ps_dput (hu_of hr) (pe_fldK (K := K) rfl (pv 0) (by rfl)) (pv 1) (pv 3) rfl)
      (pss_one (ps_ret (pe_tup (pa_cons pe_str (pa_cons (pv 1) (pa_cons (pv 3) pa_nil))))))) pss_nil)
      (pss_one (ps_ret (pe_tup (pa_cons pe_str (pa_cons (pv 1) (pa_cons pe_non pa_nil))))))), ?_⟩
    (try simp only [cxK, cxKX, List.map])
    refine ent (σ' := [some _, some _, some _, some _]) rfl ?_
    obtain ⟨⟨dx, hp⟩, ⟨kn, hn, dn⟩, ⟨kb, hb, eb⟩, ⟨lv, hl, ls⟩, ne⟩ := id hN
    have h0 := ok.s0
    have ne' := ne.symm
    k_offL
    refine dgetk (.inl hn) (by rw [dn.val, NS.mf_at hu]) ?_
    have no : ¬ (N.f u = v ∧ btw N.size u x v = true) → (∀ t H', H t = none → H' t = some (.tup [.str "kept", .int u, .non]) → Fr [] H H' → Q (.ref t) H') := by
      intro e t H' n2 e2 f2
      have e' : N.readL (.ans u v x) = (N, [.str "kept", .int u, .non]) := if_neg e
      rw [e'] at k
      exact k t H' e2 (hN.ex f2) f2.up
    k_offL
    refine ifD (fun e => ?_) (fun e => ?_)
    · k_offL
      refine i_between h0 ?_
      k_offL
      refine ifB (fun e2 => ?_) (fun e2 => ?_)
      · k_offL
        refine dputk hn (ok.knl dn) fun H1 e1 f1 => ?_
        k_offL
        refine tupk (by show 3 ≤ 100000; decide) fun t H' n2 e3 f2 => ?_
        have e' : N.readL (.ans u v x) = (N.setF u x, [.str "next", .int u, .int x]) := if_pos ⟨e, e2⟩
        rw [e'] at k
        exact k t H' e3 ⟨⟨dx, by k_clsL⟩, ⟨_, by k_clsL, dn.put.cong fun h => N.mf_setF u x hu h⟩, ⟨kb, by k_clsL, eb⟩, ⟨lv, by k_clsL, ls.fr (f1.trans f2.up)⟩, ne⟩ (f1.trans f2.up)
      · k_offL
        refine tupk (by show 3 ≤ 100000; decide) fun t H' n2 e3 f2 => ?_
        exact no (fun z => by rw [z.2] at e2; cases e2) t H' n2 e3 f2
    · k_offL
      refine tupk (by show 3 ≤ 100000; decide) fun t H' n2 e3 f2 => ?_
      exact no (fun z => e z.1) t H' n2 e3 f2
end
def spReadTell (C : Addr) : Sp := fun vs H Q _ => ∃ (p da db dl : Addr) (N : NS) (v u : Int), vs = [.ref p, .int v, .int u] ∧ NetAt C H p da db dl N ∧ v ∈ N.hs ∧ N.Ok ∧
  ∀ t H', H' t = some (.tup (N.readL (.tell v u)).2) → NetAt C H' p da db dl (N.readL (.tell v u)).1 → Fr [db] H H' → Q (.ref t) H'
section
variable {P : Program} {w : World} {K : PySem.W.Frag} {mg : Str → Option Value} {base : Heap} {CNet CMender CDesk CStore CWalk : Addr}
abbrev s_Net__read_tell : Stmt := inClass (top 30) 16
theorem sc_Net__read_tell : FnScope ["self", "reader", "sender", "before"] ["self", "reader", "sender"] (defScope s_Net__read_tell) := ⟨rfl, rfl, rfl, by decide +kernel, rfl, by decide +kernel, by decide +kernel⟩
theorem ok_Net__read_tell {f : Addr} {fd : FuncData} (F : Fun K "_read_tell" "Net._read_tell" s_Net__read_tell f fd) (G_between : GF P w K mg base "between" 2 ["size", "start", "place", "end"] spBetween) (T : NetT K CNet) : FnOk P w K mg base CX0 3 f fd ["self", "reader", "sender"] (spReadTell CNet) := by
  refine F.ok sc_Net__read_tell (fun vs H Q E h => ?_) (fun cdv A outer s H vs Q E hr h => ?_)
  · obtain ⟨_, _, _, _, _, _, _, rfl, _⟩ := h; rfl
  · obtain ⟨p, da, db, dl, N, v, u, rfl, hN, hv, ok, k⟩ := h
    refine ⟨_, (pss_cons (ps_set (i := 3) sc_Net__read_tell.nd rfl (Or.inl rfl) (pe_dget (hu_of hr) (pe_fldK (K := K) rfl (pv 0) (by rfl)) (pv 1) (by intro _ _; rfl)))
      (pss_cons (ps_if (PW.pt (pw_or (pt_cmpR op_isNn (pv 3) pe_non (nomark _)) (pw_or1 (pt_val (c_fn G_between (hr.mono (by decide)) (pa_cons (pe_fldK (K := K) rfl (pv 0) (by rfl)) (pa_cons (pv 3) (pa_cons (pv 2) (pa_cons (pv 1) pa_nil))))))))) (pss_cons (ps_dput (hu_of hr) (pe_fldK (K := K) rfl (pv 0) (by rfl)) (pv 1) (pv 2) rfl)
      (pss_one (ps_ret (pe_tup (pa_cons pe_str (pa_cons (pv 1) (pa_cons (pv 2) pa_nil))))))) pss_nil)
      (pss_one (ps_ret (pe_tup (pa_cons pe_str (pa_cons (pv 1) (pa_cons pe_non pa_nil)))))))), ?_⟩
    (try simp only [cxK, cxKX, List.map])
    refine ent (σ' := [some _, some _, some _, none]) rfl ?_
    obtain ⟨⟨dx, hp⟩, ⟨kn, hn, dn⟩, ⟨kb, hb, eb⟩, ⟨lv, hl, ls⟩, ne⟩ := id hN
    have h0 := ok.s0
    have ne' := ne.symm
    k_offL
    refine dgetk (.inl hb) (by rw [eb.val, NS.mb_at hv]) ?_
    have yes : (N.readL (.tell v u)) = (N.setB v (some u), [.str "before", .int v, .int u]) → (∀ H1 t H', H1 db = some (.dK (putK kb (.inl v) (.int u))) → Fr [db] H H1 → H1 t = none → H' t = some (.tup [.str "before", .int v, .int u]) → Fr [] H1 H' → Q (.ref t) H') := by
      intro e H1 t H' e1 f1 n2 e2 f2
      rw [e] at k
      exact k t H' e2 ⟨⟨dx, by k_clsL⟩, ⟨kn, by k_clsL, dn⟩, ⟨_, by k_clsL, eb.put.cong fun h => N.mb_setB v (some u) hv h⟩, ⟨lv, by k_clsL, ls.fr (f1.trans f2.up)⟩, ne⟩ (f1.trans f2.up)
    have no : (N.readL (.tell v u)) = (N, [.str "kept", .int v, .non]) → (∀ t H', H t = none → H' t = some (.tup [.str "kept", .int v, .non]) → Fr [] H H' → Q (.ref t) H') := by
      intro e t H' n2 e2 f2
      rw [e] at k
      exact k t H' e2 (hN.ex f2) f2.up
    cases hbv : N.b v with
    | none =>
      k_offL
      refine ifDT rfl ?_
      k_offL
      refine dputk hb (ok.kbl eb) fun H1 e1 f1 => ?_
      k_offL
      refine tupk (by show 3 ≤ 100000; decide) fun t H' n2 e2 f2 => ?_
      exact yes (by simp only [NS.readL, hbv]) H1 t H' e1 f1 n2 e2 f2
    | some b =>
      k_offL
      refine ifDF (fun z => nomatch z) ?_
      show tTest _ _ _ _
      k_offL
      refine i_between h0 ?_
      k_offL
      refine ifB (fun e => ?_) (fun e => ?_)
      · k_offL
        refine dputk hb (ok.kbl eb) fun H1 e1 f1 => ?_
        k_offL
        refine tupk (by show 3 ≤ 100000; decide) fun t H' n2 e2 f2 => ?_
        exact yes (by simp only [NS.readL, hbv, e, if_true]) H1 t H' e1 f1 n2 e2 f2
      · k_offL
        refine tupk (by show 3 ≤ 100000; decide) fun t H' n2 e2 f2 => ?_
        exact no (by simp only [NS.readL, hbv, e, Bool.false_eq_true, if_false]) t H' n2 e2 f2
end
def spReadAsk (C : Addr) : Sp := fun vs H Q _ => ∃ (p da db dl : Addr) (N : NS) (v u : Int), vs = [.ref p, .int v, .int u] ∧ NetAt C H p da db dl N ∧ v ∈ N.hs ∧ N.Ok ∧
  ∀ t H', H' t = some (.tup (N.readL (.ask v u)).2) → NetAt C H' p da db dl (N.readL (.ask v u)).1 → Fr [dl] H H' → Q (.ref t) H'
section
variable {P : Program} {w : World} {K : PySem.W.Frag} {mg : Str → Option Value} {base : Heap} {CNet CMender CDesk CStore CWalk : Addr}
abbrev s_Net__read_ask : Stmt := inClass (top 30) 17
theorem sc_Net__read_ask : FnScope ["self", "reader", "sender", "before"] ["self", "reader", "sender"] (defScope s_Net__read_ask) := ⟨rfl, rfl, rfl, by decide +kernel, rfl, by decide +kernel, by decide +kernel⟩
theorem ok_Net__read_ask {f : Addr} {fd : FuncData} (F : Fun K "_read_ask" "Net._read_ask" s_Net__read_ask f fd) (T : NetT K CNet) : FnOk P w K mg base CX0 1 f fd ["self", "reader", "sender"] (spReadAsk CNet) := by
  refine F.ok sc_Net__read_ask (fun vs H Q E h => ?_) (fun cdv A outer s H vs Q E hr h => ?_)
  · obtain ⟨_, _, _, _, _, _, _, rfl, _⟩ := h; rfl
  · obtain ⟨p, da, db, dl, N, v, u, rfl, hN, hv, ok, k⟩ := h
    refine ⟨_, (pss_cons (ps_set (i := 3) sc_Net__read_ask.nd rfl (Or.inl rfl) (pe_dget (hu_of hr) (pe_fldK (K := K) rfl (pv 0) (by rfl)) (pv 1) (by intro _ _; rfl)))
      (pss_cons (ps_if (pt_cmpR op_isNn (pv 3) pe_non (nomark _)) (pss_one (ps_ret (pe_tup (pa_cons pe_str (pa_cons (pv 1) (pa_cons pe_non pa_nil)))))) pss_nil)
      (pss_cons (ps_expr (pe_bmK (K := K) rfl PySem.F.plainAttrs_list PySem.F.slot_list_append PySem.F.type_list_append mt_append (pe_fldK (K := K) rfl (pv 0) (by rfl)) (pa_cons (pe_tup (pa_cons pe_str (pa_cons (pv 2) (pa_cons (pv 1) (pa_cons (pv 3) pa_nil))))) pa_nil)))
      (pss_one (ps_ret (pe_tup (pa_cons pe_str (pa_cons (pv 1) (pa_cons (pv 3) pa_nil))))))))), ?_⟩
    (try simp only [cxK, cxKX, List.map])
    refine ent (σ' := [some _, some _, some _, none]) rfl ?_
    obtain ⟨⟨dx, hp⟩, ⟨kn, hn, dn⟩, ⟨kb, hb, eb⟩, ⟨lv, hl, ls⟩, ne⟩ := id hN
    have h0 := ok.s0
    k_offL
    refine dgetk (.inl hb) (by rw [eb.val, NS.mb_at hv]) ?_
    cases hbv : N.b v with
    | none =>
      k_offL
      refine ifDT rfl ?_
      k_offL
      refine tupk (by show 3 ≤ 100000; decide) fun t H' n2 e2 f2 => ?_
      simp only [NS.readL, hbv] at k
      exact k t H' e2 (hN.ex f2) f2.up
    | some x =>
      k_offL
      refine ifDF (fun z => nomatch z) ?_
      simp only [NS.readL, hbv] at k
      k_offL
      refine tupk (by show 4 ≤ 100000; decide) fun t1 H1 n1 e1 f1 => ?_
      k_offL
      refine r_app (xs := lv) (by k_clsL) (by rw [ls.len]; have := ok.pl; omega) fun H2 e2 f2 => ?_
      k_offL
      refine tupk (by show 3 ≤ 100000; decide) fun t3 H3 n3 e3 f3 => ?_
      exact k t3 H3 e3 ⟨⟨dx, by k_clsL⟩, ⟨kn, by k_clsL, dn⟩, ⟨kb, by k_clsL, eb⟩, ⟨_, by k_clsL, (ls.fr ((f1.up.trans f2).trans f3.up)).snoc (f3.tp _ _ (f2.tp _ _ e1))⟩, ne⟩ ((f1.up.trans f2).trans f3.up)
end
def NS.read (N : NS) (i : Nat) (l : LT) : NS × List V := (N.del i).readL l
def spRead (C : Addr) : Sp := fun vs H Q _ => ∃ (p da db dl : Addr) (N : NS) (i : Nat) (l : LT), vs = [.ref p, .int (i : Int)] ∧ NetAt C H p da db dl N ∧ N.post[i]? = some l ∧ N.Ok ∧
  ∀ t H', H' t = some (.tup (N.read i l).2) → NetAt C H' p da db dl (N.read i l).1 → Fr [da, db, dl] H H' → Q (.ref t) H'
theorem NS.Ok.del {N : NS} (ok : N.Ok) (i : Nat) : (N.del i).Ok :=
  ⟨ok.s0, ok.s1, ok.up, ok.on, ok.fh, ok.bh, fun l hl => ok.ph l (List.mem_of_mem_eraseIdx hl), ok.hl, Nat.le_trans (List.length_eraseIdx_le ..) ok.pl⟩
section
variable {P : Program} {w : World} {K : PySem.W.Frag} {mg : Str → Option Value} {base : Heap} {CNet CMender CDesk CStore CWalk : Addr}
abbrev s_Net_read : Stmt := inClass (top 30) 15
theorem sc_Net_read : FnScope ["self", "at", "letter"] ["self", "at"] (defScope s_Net_read) := ⟨rfl, rfl, rfl, by decide +kernel, rfl, by decide +kernel, by decide +kernel⟩
theorem ok_Net_read {f : Addr} {fd : FuncData} (F : Fun K "read" "Net.read" s_Net_read f fd) (G_Net_lose : GM P w K mg base CNet "lose" 2 ["self", "at"] (spLose CNet)) (G_Net__read_tell : GM P w K mg base CNet "_read_tell" 3 ["self", "reader", "sender"] (spReadTell CNet)) (G_Net__read_ask : GM P w K mg base CNet "_read_ask" 1 ["self", "reader", "sender"] (spReadAsk CNet)) (G_Net__read_answer : GM P w K mg base CNet "_read_answer" 3 ["self", "reader", "sender", "named"] (spReadAnswer CNet)) (T : NetT K CNet) : FnOk P w K mg base CX0 4 f fd ["self", "at"] (spRead CNet) := by
  refine F.ok sc_Net_read (fun vs H Q E h => ?_) (fun cdv A outer s H vs Q E hr h => ?_)
  · obtain ⟨_, _, _, _, _, _, _, rfl, _⟩ := h; rfl
  · obtain ⟨p, da, db, dl, N, i, l, rfl, hN, hi, ok, k⟩ := h
    refine ⟨_, (pss_cons (ps_set (i := 2) sc_Net_read.nd rfl (Or.inl rfl) (c_mt G_Net_lose (hr.mono (by decide)) (pv 0) (pa_cons (pv 1) pa_nil)))
      (pss_cons (ps_if (pt_cmpR op_eq (pe_ix (ix_tupK (K := K) rfl) (pv 2) pe_int (by intro _ _; rfl)) pe_str (nomark _)) (pss_one (ps_ret (c_mt G_Net__read_tell (hr.mono (by decide)) (pv 0) (pa_cons (pe_ix (ix_tupK (K := K) rfl) (pv 2) pe_int (by intro _ _; rfl)) (pa_cons (pe_ix (ix_tupK (K := K) rfl) (pv 2) pe_int (by intro _ _; rfl)) pa_nil))))) pss_nil)
      (pss_cons (ps_if (pt_cmpR op_eq (pe_ix (ix_tupK (K := K) rfl) (pv 2) pe_int (by intro _ _; rfl)) pe_str (nomark _)) (pss_one (ps_ret (c_mt G_Net__read_ask (hr.mono (by decide)) (pv 0) (pa_cons (pe_ix (ix_tupK (K := K) rfl) (pv 2) pe_int (by intro _ _; rfl)) (pa_cons (pe_ix (ix_tupK (K := K) rfl) (pv 2) pe_int (by intro _ _; rfl)) pa_nil))))) pss_nil)
      (pss_one (ps_ret (c_mt G_Net__read_answer (hr.mono (by decide)) (pv 0) (pa_cons (pe_ix (ix_tupK (K := K) rfl) (pv 2) pe_int (by intro _ _; rfl)) (pa_cons (pe_ix (ix_tupK (K := K) rfl) (pv 2) pe_int (by intro _ _; rfl)) (pa_cons (pe_ix (ix_tupK (K := K) rfl) (pv 2) pe_int (by intro _ _; rfl)) pa_nil))))))))), ?_⟩
    (try simp only [cxK, cxKX, List.map])
    refine ent (σ' := [some _, some _, none]) rfl ?_
    obtain ⟨⟨dx, hp⟩, _⟩ := id hN
    have m1 : ∀ a ∈ [dl], a ∈ [da, db, dl] := fun a h => by simp at h; simp [h]
    have m2 : ∀ a ∈ [db], a ∈ [da, db, dl] := fun a h => by simp at h; simp [h]
    have m3 : ∀ a ∈ [da], a ∈ [da, db, dl] := fun a h => by simp at h; simp [h]
    have hm := List.mem_of_getElem? hi
    k_offL
    refine ⟨p, da, db, dl, N, i, l, rfl, hN, hi, ok, fun t H1 e1 hN1 f1 => ?_⟩
    k_offL
    obtain ⟨⟨dx1, hp1⟩, _⟩ := id hN1
    cases l with
    | tell v u =>
      refine r_ixT (sqT_of e1) (v := .str "tell") rfl ?_
      k_offL
      refine ifDT rfl ?_
      k_offL
      refine r_ixT (sqT_of e1) (v := .int v) rfl ?_
      k_offL
      refine r_ixT (sqT_of e1) (v := .int u) rfl ?_
      k_offL
      exact ⟨p, da, db, dl, N.del i, v, u, rfl, hN1, ok.ph _ hm v (by simp [LT.pl]), ok.del i, fun t H2 e2 hN2 f2 => k t H2 e2 hN2 ((f1.mono m1).trans (f2.mono m2))⟩
    | ask v u =>
      refine r_ixT (sqT_of e1) (v := .str "ask") rfl ?_
      k_offL
      refine ifDF (by decide +kernel) ?_
      k_offL
      refine r_ixT (sqT_of e1) (v := .str "ask") rfl ?_
      k_offL
      refine ifDT rfl ?_
      k_offL
      refine r_ixT (sqT_of e1) (v := .int v) rfl ?_
      k_offL
      refine r_ixT (sqT_of e1) (v := .int u) rfl ?_
      k_offL
      exact ⟨p, da, db, dl, N.del i, v, u, rfl, hN1, ok.ph _ hm v (by simp [LT.pl]), ok.del i, fun t H2 e2 hN2 f2 => k t H2 e2 hN2 ((f1.mono m1).trans (f2.mono m1))⟩
    | ans u v x =>
      refine r_ixT (sqT_of e1) (v := .str "answer") rfl ?_
      k_offL
      refine ifDF (by decide +kernel) ?_
      k_offL
      refine r_ixT (sqT_of e1) (v := .str "answer") rfl ?_
      k_offL
      refine ifDF (by decide +kernel) ?_
      k_offL
      refine r_ixT (sqT_of e1) (v := .int u) rfl ?_
      k_offL
      refine r_ixT (sqT_of e1) (v := .int v) rfl ?_
      k_offL
      refine r_ixT (sqT_of e1) (v := .int x) rfl ?_
      k_offL
      exact ⟨p, da, db, dl, N.del i, u, v, x, rfl, hN1, ok.ph _ hm u (by simp [LT.pl]), ok.del i, fun t H2 e2 hN2 f2 => k t H2 e2 hN2 ((f1.mono m1).trans (f2.mono m3))⟩
end
end RL
set_option synthInstance.maxHeartbeats 4000000
set_option synthInstance.maxSize 4000
namespace RL
def NS.rows (N : NS) : List D := N.hs.map fun h => .tup [.int h, .int (N.f h), oD (N.b h)]
def NS.snap (N : NS) : D := .tup [.int N.size, .tup N.rows, .tup (N.post.map LT.d)]
def RowIs (N : NS) (x y : V) (H : Hp) : Prop := ∃ h t, x = .int h ∧ y = .ref t ∧ H t = some (.tup [.int h, .int (N.f h), oV (N.b h)])
theorem oV_rep {H : Hp} : ∀ x : Option Int, Rep H (oD x) (oV x)
  | none => rfl
  | some _ => rfl
theorem RepL.of {H : Hp} : ∀ {ds : List D} {vs : List V}, vs.length = ds.length → (∀ (i : Nat) d, ds[i]? = some d → ∃ v, vs[i]? = some v ∧ Rep H d v) → RepL H ds vs
  | [], vs, hl, _ => List.length_eq_zero_iff.mp hl
  | d :: ds, [], hl, _ => by simp at hl
  | d :: ds, v :: r, hl, h => by
    refine ⟨v, r, rfl, ?_, RepL.of (by simpa using hl) fun i d' hd => ?_⟩
    · obtain ⟨w, a, b⟩ := h 0 d rfl
      have e : v = w := by simpa using a
      rw [e]; exact b
    · obtain ⟨w, a, b⟩ := h (i + 1) d' (by simpa using hd)
      exact ⟨w, by simpa using a, b⟩
theorem rows_rep {N : NS} {H : Hp} {ys : List V} (hl : ys.length = (N.hs.map V.int).length) (h : ∀ (i : Nat) x, (N.hs.map V.int)[i]? = some x → ∃ y, ys[i]? = some y ∧ RowIs N x y H) : RepL H N.rows ys := by
  refine RepL.of (by rw [hl, List.length_map]; unfold NS.rows; rw [List.length_map]) fun i d hd => ?_
  unfold NS.rows at hd
  rw [List.getElem?_map] at hd
  cases e : N.hs[i]? with
  | none => rw [e] at hd; cases hd
  | some k =>
    rw [e] at hd
    have hd' := Option.some.inj hd
    subst hd'
    obtain ⟨y, hy, k', t, e1, e2, e3⟩ := h i (.int k) (by rw [List.getElem?_map, e]; rfl)
    cases e1
    subst e2
    exact ⟨_, hy, t, _, rfl, e3, _, _, rfl, rfl, _, _, rfl, rfl, _, _, rfl, oV_rep _, rfl⟩
theorem LetsIs.rep {H : Hp} {ls : List LT} {lv : List V} (x : LetsIs H ls lv) : RepL H (ls.map LT.d) lv := by
  refine RepL.of (by rw [x.len, List.length_map]) fun i d hd => ?_
  rw [List.getElem?_map] at hd
  cases e : ls[i]? with
  | none => rw [e] at hd; cases hd
  | some l =>
    rw [e] at hd
    have hd' := Option.some.inj hd
    subst hd'
    obtain ⟨t, a, b⟩ := x.at_ i l e
    exact ⟨_, a, LT.rep b⟩
def spSnapshot (C : Addr) : Sp := fun vs H Q _ => ∃ (p da db dl : Addr) (N : NS), vs = [.ref p] ∧ NetAt C H p da db dl N ∧ N.Ok ∧ ∀ t H', Rep H' N.snap (.ref t) → Fr [] H H' → Q (.ref t) H'
section
variable {P : Program} {w : World} {K : PySem.W.Frag} {mg : Str → Option Value} {base : Heap} {CNet CMender CDesk CStore CWalk : Addr}
abbrev s_Net_snapshot : Stmt := inClass (top 30) 7
theorem sc_Net_snapshot : FnScope ["self", "rows", "house"] ["self"] (defScope s_Net_snapshot) := ⟨rfl, rfl, rfl, by decide +kernel, rfl, by decide +kernel, by decide +kernel⟩
theorem ok_Net_snapshot {f : Addr} {fd : FuncData} (F : Fun K "snapshot" "Net.snapshot" s_Net_snapshot f fd) (m_sorted : mg "sorted" = none) (m_tuple : mg "tuple" = none) (T : NetT K CNet) : FnOk P w K mg base CX0 1 f fd ["self"] (spSnapshot CNet) := by
  refine F.ok sc_Net_snapshot (fun vs H Q E h => ?_) (fun cdv A outer s H vs Q E hr h => ?_)
  · obtain ⟨_, _, _, _, _, rfl, _⟩ := h; rfl
  · obtain ⟨p, da, db, dl, N, rfl, hN, ok, k⟩ := h
    refine ⟨_, (pss_cons (ps_setLc (i := 1) (own := [("house", 2)]) (g := gName 2) rfl sc_Net_snapshot.nd rfl rfl (sw_true rfl rfl rfl (by decide +kernel)) (pi_listK (K := K) rfl (pe_callB (cb_sortD rfl) (by rfl) m_sorted b_sorted (pa_cons (pe_fldK (K := K) rfl (pv 0) (by rfl)) pa_nil))) (blkOk_by (N := ["self", "rows", "house"]) (sc := defScope s_Net_snapshot) (by decide +kernel)) (fun _ _ _ _ _ => (pg_name (i := 2) sc_Net_snapshot.nd rfl (Or.inl rfl))) (fun _ _ _ _ _ => pts_nil) (fun _ _ _ _ _ => (pe_tup (pa_cons (pv 2) (pa_cons (pe_dget (hu_of hr) (pe_fldK (K := K) rfl (pv 0) (by rfl)) (pv 2) (by intro _ _; rfl)) (pa_cons (pe_dget (hu_of hr) (pe_fldK (K := K) rfl (pv 0) (by rfl)) (pv 2) (by intro _ _; rfl)) pa_nil))))))
      (pss_one (ps_ret (pe_tup (pa_cons (pe_fldK (K := K) rfl (pv 0) (by rfl)) (pa_cons (pe_callTy (cb_tupOfK (K := K) rfl) (by rfl) m_tuple b_tuple (pa_cons (pv 1) pa_nil)) (pa_cons (pe_callTy (cb_tupOfK (K := K) rfl) (by rfl) m_tuple b_tuple (pa_cons (pe_fldK (K := K) rfl (pv 0) (by rfl)) pa_nil)) pa_nil))))))), ?_⟩
    (try simp only [cxK, cxKX, List.map])
    refine ent (σ' := [some _, none, none]) rfl ?_
    obtain ⟨⟨dx, hp⟩, ⟨kn, hn, dn⟩, ⟨kb, hb, eb⟩, ⟨lv, hl, ls⟩, ne⟩ := id hN
    have hlen := ok.hl
    k_offL
    refine r_sortD (.inl hn) dn ok.ascF (by omega) fun l1 H1 n1 e1 f1 => ?_
    refine walkL (sqL_of e1) ?_
    refine lcP (walk_list (xs := N.hs.map V.int)) (N.hs.map V.int) rfl (fun i H0 x H' _ y => yAt y) (fun _ => true) (RowIs N) (fun M x y H1 H2 ⟨h, t, a, b, c⟩ f => ⟨h, t, a, b, f.tp _ _ c⟩) (fun H' f => f.sqL (sqL_of e1) (fun z => nomatch z)) (by rw [List.length_map]; omega) (fun x H' hm f => ?_) fun q H2 ys n2 e2 hl2 hy f2 => ?_
    · obtain ⟨h, hh, rfl⟩ := mem_intsM hm
      refine sk2 ⟨fun R kR => kR H' (Fr.refl _ _), fun _ H3 f3 R kR => ?_⟩
      k_offL
      refine dgetk (kvs := kn) (.inl (by k_clsL)) (by rw [dn.val, NS.mf_at hh]) ?_
      k_offL
      refine dgetk (kvs := kb) (.inl (by k_clsL)) (by rw [eb.val, NS.mb_at hh]) ?_
      k_offL
      refine tupk (by show 3 ≤ 100000; decide) fun t H4 n4 e4 f4 => ?_
      exact kR _ _ f4 ⟨h, t, rfl, rfl, e4⟩
    · rw [List.filter_eq_self.mpr fun _ _ => rfl] at hl2 hy
      have rr := rows_rep hl2 hy
      k_offL
      refine r_tupL (sqL_of e2) fun t3 H3 n3 e3 f3 => ?_
      k_offL
      refine r_tupL (xs := lv) (sqL_of (by k_clsL)) fun t4 H4 n4 e4 f4 => ?_
      k_offL
      refine tupk (by show 3 ≤ 100000; decide) fun t5 H5 n5 e5 f5 => ?_
      have g : Fr [] H2 H5 := (f3.trans f4).trans f5
      have g0 : Fr [] H H5 := (f1.trans f2).trans g
      exact k t5 H5 ⟨t5, _, rfl, e5, _, _, rfl, rfl, _, _, rfl, ⟨t3, ys, rfl, (f4.trans f5).tp _ _ e3, RepL.fr0 g _ _ rr⟩, _, _, rfl, ⟨t4, lv, rfl, f5.tp _ _ e4, RepL.fr0 g0 _ _ ls.rep⟩, rfl⟩ g0
end
def NS.admit (N : NS) (y x : Int) (hs' : List Int) : NS := { N with hs := hs', f := fun h => if h = y then x else N.f h }
def spAdmit (C : Addr) : Sp := fun vs H Q _ => ∃ (p da db dl : Addr) (N : NS) (y x : Int), vs = [.ref p, .int y, .int x] ∧ NetAt C H p da db dl N ∧ y ∉ N.hs ∧ (x = y ∨ x ∈ N.hs) ∧ 0 ≤ y ∧ y < N.size ∧ N.Ok ∧
  ∀ H', (∀ hs', (∀ h, h ∈ hs' ↔ h = y ∨ h ∈ N.hs) → NetAt C H' p da db dl (N.admit y x hs')) → Fr [da, db] H H' → Q .non H'
section
variable {P : Program} {w : World} {K : PySem.W.Frag} {mg : Str → Option Value} {base : Heap} {CNet CMender CDesk CStore CWalk : Addr}
abbrev s_Net_admit : Stmt := inClass (top 30) 19
theorem sc_Net_admit : FnScope ["self", "place", "host"] ["self", "place", "host"] (defScope s_Net_admit) := ⟨rfl, rfl, rfl, by decide +kernel, rfl, by decide +kernel, by decide +kernel⟩
theorem ok_Net_admit {f : Addr} {fd : FuncData} (F : Fun K "admit" "Net.admit" s_Net_admit f fd) (G_check_place : GF P w K mg base "check_place" 1 ["size", "place"] spCheckPlace) (G_check_houses : GF P w K mg base "check_houses" 1 ["houses", "places"] (spCheckHouses K)) (T : NetT K CNet) : FnOk P w K mg base CX0 2 f fd ["self", "place", "host"] (spAdmit CNet) := by
  refine F.ok sc_Net_admit (fun vs H Q E h => ?_) (fun cdv A outer s H vs Q E hr h => ?_)
  · obtain ⟨_, _, _, _, _, _, _, rfl, _⟩ := h; rfl
  · obtain ⟨p, da, db, dl, N, y, x, rfl, hN, hy, hx, y0, y1, ok, k⟩ := h
    refine ⟨_, (pss_cons (ps_expr (c_fn G_check_place (hr.mono (by decide)) (pa_cons (pe_fldK (K := K) rfl (pv 0) (by rfl)) (pa_cons (pv 1) pa_nil))))
      (pss_cons (ps_if (pt_cmp (pc_din (hu_of hr) (pv 1) (pe_fldK (K := K) rfl (pv 0) (by rfl)))) (pss_one ps_never) pss_nil)
      (pss_cons (ps_if (pt_cmpR op_ne (pv 2) (pv 1) (nomark _)) (pss_one (ps_expr (c_fn G_check_houses (hr.mono (by decide)) (pa_cons (pe_fldK (K := K) rfl (pv 0) (by rfl)) (pa_cons (pe_lst (pa_cons (pv 2) pa_nil)) pa_nil))))) pss_nil)
      (pss_cons (ps_dput (hu_of hr) (pe_fldK (K := K) rfl (pv 0) (by rfl)) (pv 1) (pv 2) rfl)
      (pss_one (ps_dput (hu_of hr) (pe_fldK (K := K) rfl (pv 0) (by rfl)) (pv 1) pe_non rfl)))))), ?_⟩
    (try simp only [cxK, cxKX, List.map])
    refine ent (σ' := [some _, some _, some _]) rfl ?_
    obtain ⟨⟨dx, hp⟩, ⟨kn, hn, dn⟩, ⟨kb, hb, eb⟩, ⟨lv, hl, ls⟩, ne⟩ := id hN
    have ne' := ne.symm
    have bn : N.b y = none := by
      cases e : N.b y with
      | none => rfl
      | some z => exact absurd (ok.bh y z e).1 hy
    k_offL
    refine i_check_place y0 y1 ?_
    k_offL
    refine dink (.inl hn) ?_
    refine blk (ifE (show _ = false by rw [dn.val]; unfold NS.mf; rw [if_neg hy]; rfl) ?_)
    k_places
    refine q_cut (fun σ' H' => σ' = [some (.ref p), some (.int y), some (.int x)] ∧ Fr [] H H') (fun Nx kN => ?_) ?_
    · k_offL
      refine ifN (fun e => ?_) (fun e => ?_)
      · k_offL
        refine lstk (by show 1 ≤ 100000; decide) fun t H1 n1 e1 f1 => ?_
        k_offL
        refine i_check_houses [x] (.inl (by k_clsL)) dn (.inl (sqL_of e1)) (fun z hz => by rw [List.mem_singleton.mp hz]; exact NS.mf_some (hx.resolve_left e)) ?_
        k_offL
        exact kN _ _ ⟨rfl, f1⟩
      · k_offL
        exact kN _ _ ⟨rfl, Fr.refl _ _⟩
    rintro _ H1 ⟨rfl, f1⟩
    k_offL
    refine dputk (kvs := kn) (by k_clsL) (ok.knl dn) fun H2 e2 f2 => ?_
    k_offL
    refine dputk (kvs := kb) (by k_clsL) (ok.kbl eb) fun H3 e3 f3 => ?_
    have q1 : H3 p = some (.ins CNet dx (netF N.size da db dl)) := by k_clsL
    have q2 : H3 da = some (.dK (putK kn (.inl y) (.int x))) := by k_clsL
    have q4 : H3 dl = some (.lst lv) := by k_clsL
    have f : Fr [da, db] H H3 := (f1.up.trans (f2.mono fun a h => by simp at h; simp [h])).trans (f3.mono fun a h => by simp at h; simp [h])
    refine k H3 (fun hs' hm => ⟨⟨dx, q1⟩, ⟨_, q2, dn.put.cong fun h => ?_⟩, ⟨_, e3, eb.put.cong fun h => ?_⟩, ⟨lv, q4, ls.fr f⟩, ne⟩) f
    · unfold NS.mf
      show (if h = y then _ else _) = if h ∈ hs' then some (V.int (if h = y then x else N.f h)) else none
      by_cases e : h = y
      · rw [if_pos e, if_pos ((hm h).mpr (.inl e)), if_pos e]
      · rw [if_neg e, if_neg e]
        by_cases m : h ∈ N.hs
        · rw [if_pos m, if_pos ((hm h).mpr (.inr m))]
        · rw [if_neg m, if_neg fun z => ((hm h).mp z).elim e m]
    · unfold NS.mb
      show (if h = y then _ else _) = if h ∈ hs' then some (oV (N.b h)) else none
      by_cases e : h = y
      · rw [if_pos e, if_pos ((hm h).mpr (.inl e)), e, bn]; rfl
      · rw [if_neg e]
        by_cases m : h ∈ N.hs
        · rw [if_pos m, if_pos ((hm h).mpr (.inr m))]
        · rw [if_neg m, if_neg fun z => ((hm h).mp z).elim e m]
end
def spHold (C : Addr) : Sp := fun vs H Q _ => ∃ (p da db dl : Addr) (N : NS) (u x : Int), vs = [.ref p, .int u, .int x] ∧ NetAt C H p da db dl N ∧ u ∈ N.hs ∧ x ∈ N.hs ∧ N.Ok ∧
  ∀ H', NetAt C H' p da db dl (N.setF u x) → Fr [da] H H' → Q (.int (N.f u)) H'
section
variable {P : Program} {w : World} {K : PySem.W.Frag} {mg : Str → Option Value} {base : Heap} {CNet CMender CDesk CStore CWalk : Addr}
abbrev s_Net_hold : Stmt := inClass (top 30) 20
theorem sc_Net_hold : FnScope ["self", "house", "target", "old"] ["self", "house", "target"] (defScope s_Net_hold) := ⟨rfl, rfl, rfl, by decide +kernel, rfl, by decide +kernel, by decide +kernel⟩
theorem ok_Net_hold {f : Addr} {fd : FuncData} (F : Fun K "hold" "Net.hold" s_Net_hold f fd) (G_check_houses : GF P w K mg base "check_houses" 1 ["houses", "places"] (spCheckHouses K)) (T : NetT K CNet) : FnOk P w K mg base CX0 2 f fd ["self", "house", "target"] (spHold CNet) := by
  refine F.ok sc_Net_hold (fun vs H Q E h => ?_) (fun cdv A outer s H vs Q E hr h => ?_)
  · obtain ⟨_, _, _, _, _, _, _, rfl, _⟩ := h; rfl
  · obtain ⟨p, da, db, dl, N, u, x, rfl, hN, hu, hx, ok, k⟩ := h
    refine ⟨_, (pss_cons (ps_expr (c_fn G_check_houses (hr.mono (by decide)) (pa_cons (pe_fldK (K := K) rfl (pv 0) (by rfl)) (pa_cons (pe_lst (pa_cons (pv 1) (pa_cons (pv 2) pa_nil))) pa_nil))))
      (pss_cons (ps_set (i := 3) sc_Net_hold.nd rfl (Or.inl rfl) (pe_dget (hu_of hr) (pe_fldK (K := K) rfl (pv 0) (by rfl)) (pv 1) (by intro _ _; rfl)))
      (pss_cons (ps_dput (hu_of hr) (pe_fldK (K := K) rfl (pv 0) (by rfl)) (pv 1) (pv 2) rfl)
      (pss_one (ps_ret (pv 3)))))), ?_⟩
    (try simp only [cxK, cxKX, List.map])
    refine ent (σ' := [some _, some _, some _, none]) rfl ?_
    obtain ⟨⟨dx, hp⟩, ⟨kn, hn, dn⟩, ⟨kb, hb, eb⟩, ⟨lv, hl, ls⟩, ne⟩ := id hN
    have ne' := ne.symm
    k_offL
    refine lstk (by show 2 ≤ 100000; decide) fun t H1 n1 e1 f1 => ?_
    k_offL
    refine i_check_houses [u, x] (.inl (by k_clsL)) dn (.inl (sqL_of e1)) (fun z hz => ?_) ?_
    · rcases List.mem_cons.mp hz with e | e
      · rw [e]; exact NS.mf_some hu
      · rw [List.mem_singleton.mp e]; exact NS.mf_some hx
    k_offL
    refine dgetk (kvs := kn) (.inl (by k_clsL)) (by rw [dn.val, NS.mf_at hu]) ?_
    k_offL
    refine dputk (kvs := kn) (by k_clsL) (ok.knl dn) fun H2 e2 f2 => ?_
    k_offL
    have q1 : H2 p = some (.ins CNet dx (netF N.size da db dl)) := by k_clsL
    have q3 : H2 db = some (.dK kb) := by k_clsL
    have q4 : H2 dl = some (.lst lv) := by k_clsL
    exact k H2 ⟨⟨dx, q1⟩, ⟨_, e2, dn.put.cong fun h => N.mf_setF u x hu h⟩, ⟨kb, q3, eb⟩, ⟨lv, q4, ls.fr (f1.up.trans f2)⟩, ne⟩ (f1.up.trans f2)
end
def spSetBefore (C : Addr) : Sp := fun vs H Q _ => ∃ (p da db dl : Addr) (N : NS) (u : Int) (x : Option Int), vs = [.ref p, .int u, oV x] ∧ NetAt C H p da db dl N ∧ u ∈ N.hs ∧ (∀ y, x = some y → y ∈ N.hs) ∧ N.Ok ∧
  ∀ H', NetAt C H' p da db dl (N.setB u x) → Fr [db] H H' → Q .non H'
section
variable {P : Program} {w : World} {K : PySem.W.Frag} {mg : Str → Option Value} {base : Heap} {CNet CMender CDesk CStore CWalk : Addr}
abbrev s_Net_set_before : Stmt := inClass (top 30) 21
theorem sc_Net_set_before : FnScope ["self", "house", "before"] ["self", "house", "before"] (defScope s_Net_set_before) := ⟨rfl, rfl, rfl, by decide +kernel, rfl, by decide +kernel, by decide +kernel⟩
theorem ok_Net_set_before {f : Addr} {fd : FuncData} (F : Fun K "set_before" "Net.set_before" s_Net_set_before f fd) (G_check_houses : GF P w K mg base "check_houses" 1 ["houses", "places"] (spCheckHouses K)) (T : NetT K CNet) : FnOk P w K mg base CX0 2 f fd ["self", "house", "before"] (spSetBefore CNet) := by
  refine F.ok sc_Net_set_before (fun vs H Q E h => ?_) (fun cdv A outer s H vs Q E hr h => ?_)
  · obtain ⟨_, _, _, _, _, _, _, rfl, _⟩ := h; rfl
  · obtain ⟨p, da, db, dl, N, u, x, rfl, hN, hu, hx, ok, k⟩ := h
    refine ⟨_, (pss_cons (ps_expr (c_fn G_check_houses (hr.mono (by decide)) (pa_cons (pe_fldK (K := K) rfl (pv 0) (by rfl)) (pa_cons (pe_ifExp (pt_cmpR op_isNn (pv 2) pe_non (nomark _)) (pe_lst (pa_cons (pv 1) pa_nil)) (pe_lst (pa_cons (pv 1) (pa_cons (pv 2) pa_nil)))) pa_nil))))
      (pss_one (ps_dput (hu_of hr) (pe_fldK (K := K) rfl (pv 0) (by rfl)) (pv 1) (pv 2) rfl))), ?_⟩
    (try simp only [cxK, cxKX, List.map])
    refine ent (σ' := [some _, some _, some _]) rfl ?_
    obtain ⟨⟨dx, hp⟩, ⟨kn, hn, dn⟩, ⟨kb, hb, eb⟩, ⟨lv, hl, ls⟩, ne⟩ := id hN
    have ne' := ne.symm
    refine q_cut (fun σ' H' => σ' = [some (.ref p), some (.int u), some (oV x)] ∧ Fr [] H H') (fun Nx kN => ?_) ?_
    · cases x with
      | none =>
        k_offL
        refine ifDT rfl ?_
        k_offL
        refine lstk (by show 1 ≤ 100000; decide) fun t H1 n1 e1 f1 => ?_
        k_offL
        refine i_check_houses [u] (.inl (by k_clsL)) dn (.inl (sqL_of e1)) (fun z hz => by rw [List.mem_singleton.mp hz]; exact NS.mf_some hu) ?_
        exact kN _ _ ⟨rfl, f1⟩
      | some x =>
        k_offL
        refine ifDF (fun z => nomatch z) ?_
        k_offL
        refine lstk (by show 2 ≤ 100000; decide) fun t H1 n1 e1 f1 => ?_
        k_offL
        refine i_check_houses [u, x] (.inl (by k_clsL)) dn (.inl (sqL_of e1)) (fun z hz => ?_) ?_
        · rcases List.mem_cons.mp hz with e | e
          · rw [e]; exact NS.mf_some hu
          · rw [List.mem_singleton.mp e]; exact NS.mf_some (hx x rfl)
        exact kN _ _ ⟨rfl, f1⟩
    rintro _ H1 ⟨rfl, f1⟩
    k_offL
    refine dputk (kvs := kb) (by k_clsL) (ok.kbl eb) fun H2 e2 f2 => ?_
    have q1 : H2 p = some (.ins CNet dx (netF N.size da db dl)) := by k_clsL
    have q2 : H2 da = some (.dK kn) := by k_clsL
    have q4 : H2 dl = some (.lst lv) := by k_clsL
    exact k H2 ⟨⟨dx, q1⟩, ⟨kn, q2, dn⟩, ⟨_, e2, eb.put.cong fun h => N.mb_setB u x hu h⟩, ⟨lv, q4, ls.fr (f1.up.trans f2)⟩, ne⟩ (f1.up.trans f2)
end
end RL
set_option synthInstance.maxHeartbeats 4000000
set_option synthInstance.maxSize 4000
namespace RL
def T5 (tp tc : Addr) (i : Nat) (c k r : Int) (H : Hp) : Prop := H tp = some (.lst [.ref tc, .int (i : Int), .int c, .int k, .int r])
structure TapeAt (H : Hp) (tp tc : Addr) : Prop where
  ex : ∃ (cs : List Int) (i : Nat) (c k r : Int), T5 tp tc i c k r H ∧ H tc = some (.lst (cs.map V.int)) ∧ i < cs.length ∧ cs.length ≤ 64
theorem TapeAt.fr {H H' : Hp} {tp tc : Addr} {M : List Addr} (x : TapeAt H tp tc) (f : Fr M H H') (h1 : tp ∉ M) (h2 : tc ∉ M) : TapeAt H' tp tc :=
  let ⟨cs, i, c, k, r, a, b, d⟩ := x.ex
  ⟨cs, i, c, k, r, f.at_ _ _ a h1, f.at_ _ _ b h2, d⟩
theorem TapeAt.ex0 {H H' : Hp} {tp tc : Addr} (x : TapeAt H tp tc) (f : Fr [] H H') : TapeAt H' tp tc := x.fr f List.not_mem_nil List.not_mem_nil
theorem TapeAt.ne {H : Hp} {tp tc : Addr} (x : TapeAt H tp tc) : tc ≠ tp := by
  obtain ⟨cs, i, c, k, r, a, b, d⟩ := x.ex
  intro e
  subst e
  rw [show H tc = _ from a] at b
  have b' := HO.lst.inj (Option.some.inj b)
  match cs, b' with
  | [], b' => cases b'
  | x :: r, b' => cases b'
def absV : V → V
  | .int i => .int (if i < 0 then -i else i)
  | v => v
theorem absV_map (ns : List Int) : (ns.map V.int).map absV = (ns.map fun i => if i < 0 then -i else i).map V.int := by
  rw [List.map_map, List.map_map]; rfl
def spTape (K : PySem.W.Frag) : Sp := fun vs H Q _ => ∃ (a : Addr) (ns : List Int), vs = [.ref a] ∧ SqL K H a (ns.map V.int) ∧ ns.length ≤ 63 ∧ ∀ tp tc H', H tp = none → H tc = none → TapeAt H' tp tc → Fr [] H H' → Q (.ref tp) H'
section
variable {P : Program} {w : World} {K : PySem.W.Frag} {mg : Str → Option Value} {base : Heap} {CNet CMender CDesk CStore CWalk : Addr}
abbrev s__law_tape : Stmt := top 32
theorem sc__law_tape : FnScope ["script", "cells", "cell"] ["script"] (defScope s__law_tape) := ⟨rfl, rfl, rfl, by decide +kernel, rfl, by decide +kernel, by decide +kernel⟩
theorem ok__law_tape {f : Addr} {fd : FuncData} (F : Fun K "_law_tape" "_law_tape" s__law_tape f fd) (m_abs : mg "abs" = none) (m_int : mg "int" = none) (m_len : mg "len" = none) : FnOk P w K mg base CX0 1 f fd ["script"] (spTape K) := by
  refine F.ok sc__law_tape (fun vs H Q E h => ?_) (fun cdv A outer s H vs Q E hr h => ?_)
  · obtain ⟨_, _, rfl, _⟩ := h; rfl
  · obtain ⟨a, ns, rfl, hS, hlen, k⟩ := h
    refine ⟨_, (pss_cons (ps_setLc (i := 1) (own := [("cell", 2)]) (g := gName 2) rfl sc__law_tape.nd rfl rfl (sw_true rfl rfl rfl (by decide +kernel)) (pi_listK (K := K) rfl (pv 0)) (blkOk_by (N := ["script", "cells", "cell"]) (sc := defScope s__law_tape) (by decide +kernel)) (fun _ _ _ _ _ => (pg_name (i := 2) sc__law_tape.nd rfl (Or.inl rfl))) (fun _ _ _ _ _ => pts_nil) (fun _ _ _ _ _ => (pe_callB cb_abs (by rfl) m_abs b_abs (pa_cons (pe_callTy cb_int (by rfl) m_int b_int (pa_cons (pv 2) pa_nil)) pa_nil))))
      (pss_cons (ps_if (pt_cmpR op_eq (pe_callB (cb_lenSK (K := K) rfl) (by rfl) m_len b_len (pa_cons (pv 1) pa_nil)) pe_int (nomark _)) (pss_one (ps_set (i := 1) sc__law_tape.nd rfl (Or.inl rfl) (pe_lst (pa_cons pe_int pa_nil)))) pss_nil)
      (pss_one (ps_ret (pe_lst (pa_cons (pv 1) (pa_cons pe_int (pa_cons (pe_ix (ix_listK (K := K) rfl) (pv 1) pe_int (by intro _ _; rfl)) (pa_cons pe_int (pa_cons pe_int pa_nil)))))))))), ?_⟩
    (try simp only [cxK, cxKX, List.map])
    refine ent (σ' := [some _, none, none]) rfl ?_
    k_offL
    refine walkL hS ?_
    refine lcV (walk_list (xs := ns.map V.int)) (ns.map V.int) rfl (fun i H0 x H' _ y => yAt y) (fun _ => true) absV (fun H' f => f.sqL hS List.not_mem_nil) (by rw [List.length_map]; omega) (fun x H' hm f => ?_) fun l1 H1 n1 e1 f1 => ?_
    · obtain ⟨z, _, rfl⟩ := mem_intsM hm
      refine sk2 ⟨fun R kR => kR H' (Fr.refl _ _), fun _ H3 f3 R kR => ?_⟩
      k_offL
      exact kR H3 (Fr.refl _ _)
    rw [List.filter_eq_self.mpr fun _ _ => rfl, absV_map] at e1
    k_places
    refine q_cut (fun σ' H' => ∃ (tc : Addr) (cs : List Int), σ' = [some (.ref a), some (.ref tc), none] ∧ H tc = none ∧ H' tc = some (.lst (cs.map V.int)) ∧ 0 < cs.length ∧ cs.length ≤ 64 ∧ Fr [] H H') (fun Nx kN => ?_) ?_
    · k_offL
      refine r_lenL (sqL_of e1) ?_
      k_offL
      refine ifD (fun e => ?_) (fun e => ?_)
      · k_offL
        refine lstk (by show 1 ≤ 100000; decide) fun l2 H2 n2 e2 f2 => ?_
        k_offL
        exact kN _ _ ⟨l2, [0], rfl, f1.free n2, e2, by decide, by decide, f1.trans f2⟩
      · k_offL
        refine kN _ _ ⟨l1, _, rfl, n1, e1, ?_, ?_, f1⟩
        · simp only [List.length_map] at e ⊢; omega
        · simp only [List.length_map]; omega
    rintro _ H2 ⟨tc, cs, rfl, n2, e2, h0, hl, f2⟩
    k_offL
    refine r_ixL (sqL_of e2) (v := .int cs[0]) (at_of (j := 0) rfl (by rw [List.getElem?_map, List.getElem?_eq_getElem h0]; rfl)) ?_
    k_offL
    refine lstk (by show 5 ≤ 100000; decide) fun tp H3 n3 e3 f3 => ?_
    exact k tp tc H3 (f2.free n3) n2 ⟨cs, 0, cs[0], 0, 0, e3, f3.at_ _ _ e2 List.not_mem_nil, h0, hl⟩ (f2.trans f3)
end
def spPick : Sp := fun vs H Q _ => ∃ (tp tc : Addr) (size : Int) (_ : Unit), vs = [.ref tp, .int size] ∧ TapeAt H tp tc ∧ 0 < size ∧ size < 2 ^ 62 ∧ ∀ n H', 0 ≤ n → n < size → TapeAt H' tp tc → Fr [tp] H H' → Q (.int n) H'
theorem i_pick {tp tc : Addr} {size : Int} {H : Hp} {Q : VK} {E : XK} (t : TapeAt H tp tc) (h0 : 0 < size) (h1 : size < 2 ^ 62) (q : ∀ n H', 0 ≤ n → n < size → TapeAt H' tp tc → Fr [tp] H H' → Q (.int n) H') : spPick [.ref tp, .int size] H Q E := ⟨tp, tc, size, (), rfl, t, h0, h1, q⟩
theorem ix_at {xs : List V} {i : Int} {v : V} (j : Nat) (e : i = (j : Int)) (h : xs[j]? = some v) : atI xs i = some v := at_of e h
section
variable {P : Program} {w : World} {K : PySem.W.Frag} {mg : Str → Option Value} {base : Heap} {CNet CMender CDesk CStore CWalk : Addr}
abbrev s__law_pick : Stmt := top 33
theorem sc__law_pick : FnScope ["tape", "size", "cells", "cell", "k", "number", "used", "mixed"] ["tape", "size"] (defScope s__law_pick) := ⟨rfl, rfl, rfl, by decide +kernel, rfl, by decide +kernel, by decide +kernel⟩
theorem ok__law_pick {f : Addr} {fd : FuncData} (F : Fun K "_law_pick" "_law_pick" s__law_pick f fd) (m_int : mg "int" = none) (m_len : mg "len" = none) : FnOk P w K mg base CX0 1 f fd ["tape", "size"] spPick := by
  refine F.ok sc__law_pick (fun vs H Q E h => ?_) (fun cdv A outer s H vs Q E hr h => ?_)
  · obtain ⟨_, _, _, _, rfl, _⟩ := h; rfl
  · obtain ⟨tp, tc, size, _, rfl, t, h0, h1, k⟩ := h
    refine ⟨_, (pss_cons (ps_set (i := 2) sc__law_pick.nd rfl (Or.inl rfl) (pe_ix (ix_listK (K := K) rfl) (pv 0) pe_int (by intro _ _; rfl)))
      (pss_cons (ps_set (i := 3) sc__law_pick.nd rfl (Or.inl rfl) (pe_ix (ix_listK (K := K) rfl) (pv 2) (pe_ix (ix_listK (K := K) rfl) (pv 0) pe_int (by intro _ _; rfl)) (by intro _ _; rfl)))
      (pss_cons (ps_set (i := 4) sc__law_pick.nd rfl (Or.inl rfl) (pe_op op_add (pe_ix (ix_listK (K := K) rfl) (pv 0) pe_int (by intro _ _; rfl)) (pe_op op_mul pe_int (pe_ix (ix_listK (K := K) rfl) (pv 0) pe_int (by intro _ _; rfl)))))
      (pss_cons (ps_if (PW.pt (pw_and (pt_cmpR op_ge (pv 3) (pe_op op_pow pe_int pe_int) (nomark _)) (pw_and1 (pt_cmpR op_eq (pe_ix (ix_listK (K := K) rfl) (pv 0) pe_int (by intro _ _; rfl)) pe_int (nomark _))))) (pss_cons (ps_set (i := 5) sc__law_pick.nd rfl (Or.inl rfl) (pe_op op_mod (pe_callTy cb_int (by rfl) m_int b_int (pa_cons (pe_ix (ix_listK (K := K) rfl) (pv 0) pe_int (by intro _ _; rfl)) pa_nil)) (pv 1)))
      (pss_cons (ps_asg (pe_op op_fdivW (pe_ix (ix_listK (K := K) rfl) (pv 0) pe_int (by intro _ _; rfl)) (pv 1)) (pg_sub (pv 0) pe_int set_list))
      (pss_one (ps_set (i := 6) sc__law_pick.nd rfl (Or.inl rfl) (pe_cmpR op_eq (pe_ix (ix_listK (K := K) rfl) (pv 0) pe_int (by intro _ _; rfl)) pe_int (nomark _)))))) (pss_cons (ps_set (i := 7) sc__law_pick.nd rfl (Or.inl rfl) (pe_op op_mod (pe_callTy cb_int (by rfl) m_int b_int (pa_cons (pe_op op_add (pe_op op_add (pv 3) (pe_op op_mul pe_int (pv 4))) pe_int) pa_nil)) pe_int))
      (pss_cons (ps_set (i := 7) sc__law_pick.nd rfl (Or.inl rfl) (pe_op op_mod (pe_callTy cb_int (by rfl) m_int b_int (pa_cons (pe_op op_mul (pv 7) (pe_op op_add (pv 7) pe_int)) pa_nil)) pe_int))
      (pss_cons (ps_set (i := 7) sc__law_pick.nd rfl (Or.inl rfl) (pe_op op_mod (pe_callTy cb_int (by rfl) m_int b_int (pa_cons (pe_op op_add (pe_op op_mul (pv 7) (pe_op op_add (pv 7) pe_int)) (pe_op op_mul pe_int (pv 4))) pa_nil)) pe_int))
      (pss_cons (ps_set (i := 5) sc__law_pick.nd rfl (Or.inl rfl) (pe_op op_mod (pe_callTy cb_int (by rfl) m_int b_int (pa_cons (pe_op op_fdivW (pv 7) pe_int) pa_nil)) (pv 1)))
      (pss_one (ps_set (i := 6) sc__law_pick.nd rfl (Or.inl rfl) (pe_cmpR op_eq (pe_op op_mod (pe_callTy cb_int (by rfl) m_int b_int (pa_cons (pv 4) pa_nil)) pe_int) pe_int (nomark _)))))))))
      (pss_cons (ps_asg (pe_op op_add (pe_ix (ix_listK (K := K) rfl) (pv 0) pe_int (by intro _ _; rfl)) pe_int) (pg_sub (pv 0) pe_int set_list))
      (pss_cons (ps_if (pt_val (pv 6)) (pss_cons (ps_asg pe_int (pg_sub (pv 0) pe_int set_list))
      (pss_cons (ps_asg (pe_op op_add (pe_ix (ix_listK (K := K) rfl) (pv 0) pe_int (by intro _ _; rfl)) pe_int) (pg_sub (pv 0) pe_int set_list))
      (pss_cons (ps_if (pt_cmpR op_eq (pe_ix (ix_listK (K := K) rfl) (pv 0) pe_int (by intro _ _; rfl)) (pe_callB (cb_lenSK (K := K) rfl) (by rfl) m_len b_len (pa_cons (pv 2) pa_nil)) (nomark _)) (pss_cons (ps_asg pe_int (pg_sub (pv 0) pe_int set_list))
      (pss_one (ps_asg (pe_op op_add (pe_ix (ix_listK (K := K) rfl) (pv 0) pe_int (by intro _ _; rfl)) pe_int) (pg_sub (pv 0) pe_int set_list)))) pss_nil)
      (pss_one (ps_asg (pe_ix (ix_listK (K := K) rfl) (pv 2) (pe_ix (ix_listK (K := K) rfl) (pv 0) pe_int (by intro _ _; rfl)) (by intro _ _; rfl)) (pg_sub (pv 0) pe_int set_list)))))) pss_nil)
      (pss_one (ps_ret (pv 5))))))))), ?_⟩
    (try simp only [cxK, cxKX, List.map])
    refine ent (σ' := [some _, some _, none, none, none, none, none, none]) rfl ?_
    have hne := t.ne
    obtain ⟨cs, i, c, kk, r, tt, tcs, hi, hl⟩ := t.ex
    have hcell : (cs.map V.int)[i]? = some (.int cs[i]) := by rw [List.getElem?_map, List.getElem?_eq_getElem hi]; rfl
    k_offL
    refine r_ixL (sqL_of tt) (ix_at 0 rfl rfl) ?_
    k_offL
    refine r_ixL (sqL_of tt) (ix_at 1 rfl rfl) ?_
    k_offL
    refine r_ixL (sqL_of tcs) (ix_at i rfl hcell) ?_
    k_offL
    refine r_ixL (sqL_of tt) (ix_at 3 rfl rfl) ?_
    k_offL
    refine r_ixL (sqL_of tt) (ix_at 4 rfl rfl) ?_
    k_places
    refine q_cut (fun σ' H' => ∃ (n c' : Int) (b : Bool) (kv mx : Option V), σ' = [some (.ref tp), some (.int size), some (.ref tc), some (.int cs[i]), kv, some (.int n), some (.bl b), mx] ∧ 0 ≤ n ∧ n < size ∧ T5 tp tc i c' kk r H' ∧ Fr [tp] H H') (fun Nx kN => ?_) ?_
    · k_offL
      have mix : ∀ (A B : Int → Int) (X : Int), ∀ b kv mx, Nx [some (.ref tp), some (.int size), some (.ref tc), some (.int cs[i]), kv, some (.int (X % size)), some (.bl b), mx] H := fun A B X b kv mx =>
        kN _ _ ⟨_, c, b, kv, mx, rfl, Int.emod_nonneg _ (by omega), Int.emod_lt_of_pos _ h0, tt, Fr.refl _ _⟩
      refine ifD (fun e => ?_) (fun e => ?_)
      · k_offL
        refine r_ixL (sqL_of tt) (ix_at 4 rfl rfl) ?_
        k_offL
        refine ifD (fun e2 => ?_) (fun e2 => ?_)
        · k_offL
          refine r_ixL (sqL_of tt) (ix_at 2 rfl rfl) ?_
          k_offL
          refine r_ixL (sqL_of tt) (ix_at 2 rfl rfl) ?_
          k_offL
          refine r_setL tt (j := 2) rfl (by show 2 < 5; decide) fun H1 e1 f1 => ?_
          k_offL
          refine r_ixL (sqL_of e1) (ix_at 2 rfl rfl) ?_
          k_offL
          exact kN _ _ ⟨_, _, _, _, _, rfl, Int.emod_nonneg _ (by omega), Int.emod_lt_of_pos _ h0, e1, f1⟩
        · k_offL
          exact mix id id _ _ _ _
      · k_offL
        exact mix id id _ _ _ _
    rintro _ H1 ⟨n, c', b, kv, mx, rfl, n0, n1, t1, f1⟩
    have tcs1 : H1 tc = some (.lst (cs.map V.int)) := f1.at_ _ _ tcs (fun z => hne (List.mem_singleton.mp z))
    k_offL
    refine r_ixL (sqL_of t1) (ix_at 3 rfl rfl) ?_
    k_offL
    refine r_setL t1 (j := 3) rfl (by show 3 < 5; decide) fun H2 e2 f2 => ?_
    have f02 := f1.trans f2
    have tcs2 : H2 tc = some (.lst (cs.map V.int)) := f2.at_ _ _ tcs1 (fun z => hne (List.mem_singleton.mp z))
    k_offL
    refine ifB (fun eb => ?_) (fun eb => ?_)
    · k_offL
      refine r_setL e2 (j := 3) rfl (by show 3 < 5; decide) fun H3 e3 f3 => ?_
      k_offL
      refine r_ixL (sqL_of e3) (v := .int (i : Int)) (ix_at 1 rfl rfl) ?_
      k_offL
      refine r_setL e3 (j := 1) rfl (by show 1 < 5; decide) fun H4 e4 f4 => ?_
      k_offL
      refine r_ixL (sqL_of e4) (ix_at 1 rfl rfl) ?_
      k_offL
      have f04 := (f02.trans f3).trans f4
      have tcs4 : H4 tc = some (.lst (cs.map V.int)) := f04.at_ _ _ tcs (fun z => hne (List.mem_singleton.mp z))
      refine r_lenL (sqL_of tcs4) ?_
      k_offL
      refine ifD (fun ew => ?_) (fun ew => ?_)
      · k_offL
        refine r_setL e4 (j := 1) rfl (by show 1 < 5; decide) fun H5 e5 f5 => ?_
        k_offL
        refine r_ixL (sqL_of e5) (ix_at 4 rfl rfl) ?_
        k_offL
        refine r_setL e5 (j := 4) rfl (by show 4 < 5; decide) fun H6 e6 f6 => ?_
        k_offL
        refine r_ixL (sqL_of e6) (v := .int 0) (ix_at 1 rfl rfl) ?_
        have f06 := (f04.trans f5).trans f6
        have tcs6 : H6 tc = some (.lst (cs.map V.int)) := f06.at_ _ _ tcs (fun z => hne (List.mem_singleton.mp z))
        have hp : 0 < cs.length := by omega
        k_offL
        refine r_ixL (sqL_of tcs6) (v := .int cs[0]) (ix_at 0 rfl (by rw [List.getElem?_map, List.getElem?_eq_getElem hp]; rfl)) ?_
        k_offL
        refine r_setL e6 (j := 2) rfl (by show 2 < 5; decide) fun H7 e7 f7 => ?_
        k_offL
        exact k n H7 n0 n1 ⟨cs, 0, _, _, _, e7, f7.at_ _ _ tcs6 (fun z => hne (List.mem_singleton.mp z)), hp, hl⟩ (f06.trans f7)
      · k_offL
        refine r_ixL (sqL_of e4) (v := .int ((i : Int) + 1)) (ix_at 1 rfl rfl) ?_
        k_offL
        rw [List.length_map] at ew
        have hi2 : i + 1 < cs.length := by omega
        refine r_ixL (sqL_of tcs4) (v := .int cs[i + 1]) (ix_at (i + 1) (by omega) (by rw [List.getElem?_map, List.getElem?_eq_getElem hi2]; rfl)) ?_
        k_offL
        refine r_setL e4 (j := 2) rfl (by show 2 < 5; decide) fun H7 e7 f7 => ?_
        k_offL
        exact k n H7 n0 n1 ⟨cs, i + 1, _, _, _, e7, f7.at_ _ _ tcs4 (fun z => hne (List.mem_singleton.mp z)), hi2, hl⟩ (f04.trans f7)
    · k_offL
      exact k n H2 n0 n1 ⟨cs, i, _, _, _, e2, tcs2, hi, hl⟩ f02
end
end RL
set_option synthInstance.maxHeartbeats 4000000
set_option synthInstance.maxSize 4000
namespace RL
theorem mem_one {a b : Addr} (h : b ≠ a) : b ∉ [a] := fun z => h (List.mem_singleton.mp z)
def NxD (ps done : List Int) (kvs : List (Key × V)) : Prop := ∃ g : Int → Int, DOk kvs (fun h => if h ∈ done then some (.int (g h)) else none) ∧ (∀ h ∈ done, g h ∈ ps) ∧ kvs.length ≤ done.length
theorem NxD.nil {ps : List Int} : NxD ps [] [] := ⟨fun _ => 0, DOk.nil.cong fun n => by simp, (fun _ h => nomatch h), Nat.le_refl _⟩
theorem NxD.put {ps done : List Int} {kvs : List (Key × V)} (x : NxD ps done kvs) {h y : Int} (hy : y ∈ ps) : NxD ps (done ++ [h]) (putK kvs (.inl h) (.int y)) := by
  obtain ⟨g, d, m, l⟩ := x
  refine ⟨fun z => if z = h then y else g z, d.put.cong fun n => ?_, fun z hz => ?_, ?_⟩
  · by_cases e : n = h
    · subst e; simp
    · by_cases hm : n ∈ done
      · simp [e, hm]
      · simp [e, hm]
  · by_cases e : z = h
    · show (if z = h then y else g z) ∈ ps
      rw [if_pos e]; exact hy
    · show (if z = h then y else g z) ∈ ps
      rw [if_neg e]
      exact m z ((List.mem_append.mp hz).resolve_right fun q => e (List.mem_singleton.mp q))
  · have := putK_len1 kvs (.inl h) (.int y)
    rw [List.length_append]
    simp only [List.length_singleton]
    omega
theorem ints_get {ps : List Int} {j : Nat} (h : j < ps.length) : (ps.map V.int)[j]? = some (.int ps[j]) := by rw [List.getElem?_map, List.getElem?_eq_getElem h]; rfl
theorem take_get {ps : List Int} {j : Nat} (h : j < ps.length) : ps.take (j + 1) = ps.take j ++ [ps[j]] := take_snoc (List.getElem?_eq_getElem h)
def spSize : Sp := fun vs H Q _ => ∃ (tp tc : Addr) (count : Int) (_ : Unit), vs = [.ref tp, .int count] ∧ TapeAt H tp tc ∧ 0 ≤ count ∧ count ≤ 100 ∧ ∀ n H', 1 ≤ n → count ≤ n → n < 2 ^ 31 → TapeAt H' tp tc → Fr [tp] H H' → Q (.int n) H'
section
variable {P : Program} {w : World} {K : PySem.W.Frag} {mg : Str → Option Value} {base : Heap} {CNet CMender CDesk CStore CWalk : Addr}
abbrev s__law_size : Stmt := top 34
theorem sc__law_size : FnScope ["tape", "count", "kind", "least"] ["tape", "count"] (defScope s__law_size) := ⟨rfl, rfl, rfl, by decide +kernel, rfl, by decide +kernel, by decide +kernel⟩
theorem ok__law_size {f : Addr} {fd : FuncData} (F : Fun K "_law_size" "_law_size" s__law_size f fd) (G__law_pick : GF P w K mg base "_law_pick" 1 ["tape", "size"] spPick) (m_max : mg "max" = none) : FnOk P w K mg base CX0 2 f fd ["tape", "count"] spSize := by
  refine F.ok sc__law_size (fun vs H Q E h => ?_) (fun cdv A outer s H vs Q E hr h => ?_)
  · obtain ⟨_, _, _, _, rfl, _⟩ := h; rfl
  · obtain ⟨tp, tc, count, _, rfl, t, c0, c1, k⟩ := h
    refine ⟨_, (pss_cons (ps_set (i := 2) sc__law_size.nd rfl (Or.inl rfl) (c_fn G__law_pick (hr.mono (by decide)) (pa_cons (pv 0) (pa_cons pe_int pa_nil))))
      (pss_cons (ps_set (i := 3) sc__law_size.nd rfl (Or.inl rfl) (pe_callB (cb_max2 rfl) (by rfl) m_max b_max (pa_cons pe_int (pa_cons (pv 1) pa_nil))))
      (pss_cons (ps_if (pt_cmpR op_eq (pv 2) pe_int (nomark _)) (pss_one (ps_ret (pv 3))) pss_nil)
      (pss_cons (ps_if (pt_cmpR op_eq (pv 2) pe_int (nomark _)) (pss_one (ps_ret (pe_op op_add (pv 3) (c_fn G__law_pick (hr.mono (by decide)) (pa_cons (pv 0) (pa_cons pe_int pa_nil)))))) pss_nil)
      (pss_cons (ps_if (pt_cmpR op_eq (pv 2) pe_int (nomark _)) (pss_one (ps_ret (pe_op op_add (pv 3) (c_fn G__law_pick (hr.mono (by decide)) (pa_cons (pv 0) (pa_cons pe_int pa_nil)))))) pss_nil)
      (pss_one (ps_ret (pe_op op_add (pe_op op_add (pv 3) pe_int) (c_fn G__law_pick (hr.mono (by decide)) (pa_cons (pv 0) (pa_cons pe_int pa_nil))))))))))), ?_⟩
    (try simp only [cxK, cxKX, List.map])
    refine ent (σ' := [some _, some _, none, none]) rfl ?_
    k_offL
    refine i_pick t (by decide) (by decide) fun n1 H1 a1 b1 t1 f1 => ?_
    k_offL
    have hm : ∃ m : Int, (if count > 1 then count else 1) = m ∧ 1 ≤ m ∧ count ≤ m ∧ m ≤ 100 := ⟨_, rfl, by split <;> omega, by split <;> omega, by split <;> omega⟩
    obtain ⟨m, em, m1, m2, m3⟩ := hm
    rw [em]
    refine ifD (fun e => ?_) (fun e => ?_)
    · k_offL
      exact k m H1 m1 m2 (by omega) t1 f1
    · k_offL
      refine ifD (fun e2 => ?_) (fun e2 => ?_)
      · k_offL
        refine i_pick t1 (by decide) (by decide) fun n2 H2 a2 b2 t2 f2 => ?_
        k_offL
        exact k _ H2 (by omega) (by omega) (by omega) t2 (f1.trans f2)
      · k_offL
        refine ifD (fun e3 => ?_) (fun e3 => ?_)
        · k_offL
          refine i_pick t1 (by decide) (by decide) fun n2 H2 a2 b2 t2 f2 => ?_
          k_offL
          exact k _ H2 (by omega) (by omega) (by omega) t2 (f1.trans f2)
        · k_offL
          refine i_pick t1 (by decide) (by decide) fun n2 H2 a2 b2 t2 f2 => ?_
          k_offL
          exact k _ H2 (by omega) (by omega) (by omega) t2 (f1.trans f2)
end
structure Pl (size : Int) (ps : List Int) : Prop where
  nd : ps.Nodup
  on : ∀ p ∈ ps, 0 ≤ p ∧ p < size
def spPlaces : Sp := fun vs H Q _ => ∃ (tp tc : Addr) (size : Int) (count : Int) (_ : Unit), vs = [.ref tp, .int size, .int count] ∧ TapeAt H tp tc ∧ 0 ≤ count ∧ count ≤ size ∧ count ≤ 60 ∧ size < 2 ^ 40 ∧
  ∀ l ps H', H l = none → H' l = some (.lst (ps.map V.int)) → (ps.length : Int) = count → Pl size ps → TapeAt H' tp tc → Fr [tp] H H' → Q (.ref l) H'
section
variable {P : Program} {w : World} {K : PySem.W.Frag} {mg : Str → Option Value} {base : Heap} {CNet CMender CDesk CStore CWalk : Addr}
abbrev s__law_places : Stmt := top 35
theorem sc__law_places : FnScope ["tape", "size", "count", "places", "k", "place", "other"] ["tape", "size", "count"] (defScope s__law_places) := ⟨rfl, rfl, rfl, by decide +kernel, rfl, by decide +kernel, by decide +kernel⟩
theorem ok__law_places {f : Addr} {fd : FuncData} (F : Fun K "_law_places" "_law_places" s__law_places f fd) (m_range : mg "range" = none) (G__law_pick : GF P w K mg base "_law_pick" 1 ["tape", "size"] spPick) (m_sorted : mg "sorted" = none) : FnOk P w K mg base CX0 2 f fd ["tape", "size", "count"] spPlaces := by
  refine F.ok sc__law_places (fun vs H Q E h => ?_) (fun cdv A outer s H vs Q E hr h => ?_)
  · obtain ⟨_, _, _, _, _, rfl, _⟩ := h; rfl
  · obtain ⟨tp, tc, size, count, _, rfl, t, c0, c1, c2, s1, k⟩ := h
    refine ⟨_, (pss_cons (ps_set (i := 3) sc__law_places.nd rfl (Or.inl rfl) (pe_lst pa_nil))
      (pss_cons (ps_for PassesOwn.never rfl (pi_range1 (by rfl) m_range (pa_cons (pv 2) pa_nil)) (pg_name (i := 4) sc__law_places.nd rfl (Or.inl rfl))
      (pss_cons (ps_set (i := 5) sc__law_places.nd rfl (Or.inl rfl) (c_fn G__law_pick (hr.mono (by decide)) (pa_cons (pv 0) (pa_cons (pe_op op_sub (pv 1) (pv 4)) pa_nil))))
      (pss_cons (ps_for PassesOwn.never rfl (pi_listK (K := K) rfl (pe_callB (cb_sortIK (K := K) rfl) (by rfl) m_sorted b_sorted (pa_cons (pv 3) pa_nil))) (pg_name (i := 6) sc__law_places.nd rfl (Or.inl rfl))
      (pss_one (ps_if (pt_cmpR op_le (pv 6) (pv 5) (nomark _)) (pss_one (ps_set (i := 5) sc__law_places.nd rfl (Or.inl rfl) (pe_op op_add (pv 5) pe_int))) pss_nil)))
      (pss_one (ps_expr (pe_bmK (K := K) rfl PySem.F.plainAttrs_list PySem.F.slot_list_append PySem.F.type_list_append mt_append (pv 3) (pa_cons (pv 5) pa_nil)))))))
      (pss_one (ps_ret (pv 3))))), ?_⟩
    (try simp only [cxK, cxKX, List.map])
    refine ent (σ' := [some _, some _, some _, none, none, none, none]) rfl ?_
    k_offL
    refine lstk (by show 0 ≤ 100000; decide) fun lp H1 n1 e1 f1 => ?_
    k_offL
    have t1 := t.ex0 f1
    obtain ⟨_, _, _, _, _, tt, tcs, _⟩ := t.ex
    have hlt : tp ≠ lp := ne_of_none tt n1
    have hlc : tc ≠ lp := ne_of_none tcs n1
    refine loopR1 count (by omega) (by omega) (fun i σ' H' => (∃ a b c, σ' = [some (.ref tp), some (.int size), some (.int count), some (.ref lp), a, b, c]) ∧ ∃ ps, H' lp = some (.lst (ps.map V.int)) ∧ ps.length = i ∧ Pl size ps ∧ TapeAt H' tp tc ∧ Fr [tp] H H')
      ⟨⟨_, _, _, rfl⟩, [], e1, rfl, ⟨List.nodup_nil, fun _ h => nomatch h⟩, t1, f1.up⟩ ?_ ?_
    · rintro i σ' H2 hi ⟨⟨a, b, c, rfl⟩, ps, e2, hl, pl, t2, f2⟩
      k_offL
      refine i_pick t2 (by omega) (by omega) fun p0 H3 a3 b3 t3 f3 => ?_
      k_offL
      have e3 : H3 lp = some (.lst (ps.map V.int)) := f3.at_ _ _ e2 (mem_one hlt.symm)
      refine r_sortI (sqL_of e3) fun ys l4 H4 hp hy n4 e4 f4 => ?_
      have yl : ys.length = i := by rw [hp.length_eq, hl]
      have yu := up_of_sorted hy (hp.nodup_iff.mpr pl.nd)
      refine loopLF (M := []) (ys.map V.int) (sqL_of e4) List.not_mem_nil (fun j σ' H' => ∃ (x : Int) (d : Option V), σ' = [some (.ref tp), some (.int size), some (.int count), some (.ref lp), some (.int (i : Int)), some (.int x), d] ∧ p0 ≤ x ∧ x ≤ p0 + j ∧ (∀ z ∈ ys.take j, z ≠ x) ∧ ((∀ z ∈ ys.take j, z < x) ∨ ∃ z ∈ ys.take j, x < z) ∧ Fr [] H4 H')
        ⟨p0, _, rfl, by omega, by omega, (fun _ h => nomatch h), .inl (fun _ h => nomatch h), Fr.refl _ _⟩ (fun j σ' H' ⟨_, _, _, _, _, _, _, f⟩ => f) ?_ ?_
      · rintro j x σ' H5 hj ⟨x0, d2, rfl, x1, x2, x3, x4, f5⟩
        obtain ⟨s, hs, hm, rfl⟩ := mem_ints hj
        have hts := take_snoc hs
        k_offL
        refine ifD (fun e => ?_) (fun e => ?_)
        · k_offL
          refine ⟨x0 + 1, _, rfl, by omega, by omega, fun z hz => ?_, ?_, f5⟩
          · rw [hts] at hz
            rcases List.mem_append.mp hz with q | q
            · rcases x4 with g | ⟨z', hz', g⟩
              · have := g z q; omega
              · exfalso
                have h1 : z' < s := by
                  obtain ⟨m, hm', em⟩ := List.mem_iff_getElem.mp hz'
                  rw [List.length_take] at hm'
                  rw [List.getElem_take] at em
                  have hjl := (List.getElem?_eq_some_iff.mp hs).1
                  have hjs := (List.getElem?_eq_some_iff.mp hs).2
                  have := List.pairwise_iff_getElem.mp yu m j (by omega) hjl (by omega)
                  omega
                omega
            · have := List.mem_singleton.mp q; omega
          · left
            intro z hz
            rw [hts] at hz
            rcases List.mem_append.mp hz with q | q
            · rcases x4 with g | ⟨z', hz', g⟩
              · have := g z q; omega
              · exfalso
                have h1 : z' < s := by
                  obtain ⟨m, hm', em⟩ := List.mem_iff_getElem.mp hz'
                  rw [List.length_take] at hm'
                  rw [List.getElem_take] at em
                  have hjl := (List.getElem?_eq_some_iff.mp hs).1
                  have hjs := (List.getElem?_eq_some_iff.mp hs).2
                  have := List.pairwise_iff_getElem.mp yu m j (by omega) hjl (by omega)
                  omega
                omega
            · have := List.mem_singleton.mp q; omega
        · k_offL
          refine ⟨x0, _, rfl, x1, by omega, fun z hz => ?_, ?_, f5⟩
          · rw [hts] at hz
            rcases List.mem_append.mp hz with q | q
            · exact x3 z q
            · have := List.mem_singleton.mp q; omega
          · right
            exact ⟨s, by rw [hts]; simp, by omega⟩
      · rintro σ' H5 ⟨x0, d2, rfl, x1, x2, x3, x4, f5⟩
        rw [List.length_map] at x2 x3
        rw [List.take_length] at x3
        have e5 : H5 lp = some (.lst (ps.map V.int)) := (f4.trans f5).at_ _ _ e3 List.not_mem_nil
        k_offL
        refine r_app e5 (by rw [List.length_map]; omega) fun H6 e6 f6 => ?_
        k_offL
        have g6 : Fr [] H4 H5 := f5
        have f05 : Fr [tp] H H5 := (f2.trans f3).trans ((f4.trans f5).up)
        refine ⟨⟨_, _, _, rfl⟩, ps ++ [x0], by rw [e6, List.map_append]; rfl, by rw [List.length_append, hl]; rfl, ⟨?_, fun p hp' => ?_⟩, ?_, f05.drop (f6.mono fun a h => by simp at h; simp [h]) n1⟩
        · refine nd_snoc pl.nd fun hm => x3 x0 (hp.mem_iff.mpr hm) rfl
        · rcases List.mem_append.mp hp' with q | q
          · exact pl.on p q
          · have := List.mem_singleton.mp q
            rw [yl] at x2
            omega
        · exact ((t3.ex0 f4).ex0 f5).fr f6 (mem_one hlt) (mem_one hlc)
    · rintro σ' H2 ⟨⟨a, b, c, rfl⟩, ps, e2, hl, pl, t2, f2⟩
      k_offL
      exact k lp ps H2 n1 e2 (by omega) pl t2 f2
end
section
variable {P : Program} {w : World} {K : PySem.W.Frag} {mg : Str → Option Value} {base : Heap} {CNet CMender CDesk CStore CWalk : Addr}
abbrev s__law_far : Stmt := top 38
theorem sc__law_far : FnScope ["size", "start", "end", "steps"] ["size", "start", "end"] (defScope s__law_far) := ⟨rfl, rfl, rfl, by decide +kernel, rfl, by decide +kernel, by decide +kernel⟩
theorem ok__law_far {f : Addr} {fd : FuncData} (F : Fun K "_law_far" "_law_far" s__law_far f fd) (m_int : mg "int" = none) : FnOk P w K mg base CX0 1 f fd ["size", "start", "end"] spFar := by
  refine F.ok sc__law_far (fun vs H Q E h => ?_) (fun cdv A outer s H vs Q E hr h => ?_)
  · obtain ⟨_, _, _, rfl, _⟩ := h; rfl
  · obtain ⟨size, st, e, rfl, h0, k⟩ := h
    refine ⟨_, (pss_cons (ps_set (i := 3) sc__law_far.nd rfl (Or.inl rfl) (pe_op op_mod (pe_callTy cb_int (by rfl) m_int b_int (pa_cons (pe_op op_sub (pv 2) (pv 1)) pa_nil)) (pv 0)))
      (pss_cons (ps_if (pt_cmpR op_eq (pv 3) pe_int (nomark _)) (pss_one (ps_ret (pv 0))) pss_nil)
      (pss_one (ps_ret (pv 3))))), ?_⟩
    (try simp only [cxK, cxKX, List.map])
    refine ent (σ' := [some _, some _, some _, none]) rfl ?_
    k_offL
    refine ifD (fun h => ?_) (fun h => ?_)
    · k_offL
      unfold far at k
      rw [if_pos h] at k
      exact k
    · k_offL
      unfold far at k
      rw [if_neg h] at k
      exact k
end
section
variable {P : Program} {w : World} {K : PySem.W.Frag} {mg : Str → Option Value} {base : Heap} {CNet CMender CDesk CStore CWalk : Addr}
abbrev s__law_between : Stmt := top 39
theorem sc__law_between : FnScope ["size", "start", "place", "end"] ["size", "start", "place", "end"] (defScope s__law_between) := ⟨rfl, rfl, rfl, by decide +kernel, rfl, by decide +kernel, by decide +kernel⟩
theorem ok__law_between {f : Addr} {fd : FuncData} (F : Fun K "_law_between" "_law_between" s__law_between f fd) (G__law_far : GF P w K mg base "_law_far" 1 ["size", "start", "end"] spFar) : FnOk P w K mg base CX0 2 f fd ["size", "start", "place", "end"] spBetween := by
  refine F.ok sc__law_between (fun vs H Q E h => ?_) (fun cdv A outer s H vs Q E hr h => ?_)
  · obtain ⟨_, _, _, _, rfl, _⟩ := h; rfl
  · obtain ⟨size, st, p, e, rfl, h0, k⟩ := h
    refine ⟨_, (pss_cons (ps_if (PW.pt (pw_or (pt_cmpR op_eq (pv 2) (pv 1) (nomark _)) (pw_or1 (pt_cmpR op_eq (pv 2) (pv 3) (nomark _))))) (pss_one (ps_ret pe_bl)) pss_nil)
      (pss_one (ps_ret (pe_cmpR op_lt (c_fn G__law_far (hr.mono (by decide)) (pa_cons (pv 0) (pa_cons (pv 1) (pa_cons (pv 2) pa_nil)))) (c_fn G__law_far (hr.mono (by decide)) (pa_cons (pv 0) (pa_cons (pv 1) (pa_cons (pv 3) pa_nil)))) (nomark _))))), ?_⟩
    (try simp only [cxK, cxKX, List.map])
    refine ent (σ' := [some _, some _, some _, some _]) rfl ?_
    k_offL
    refine ifD (fun e1 => ?_) (fun e1 => ?_)
    · k_offL
      subst e1
      rw [btw_left h0] at k
      exact k
    · k_offL
      refine ifD (fun e2 => ?_) (fun e2 => ?_)
      · k_offL
        subst e2
        rw [btw_right] at k
        exact k
      · k_offL
        refine i_far h0 ?_
        k_offL
        refine i_far h0 ?_
        k_offL
        exact k
end
end RL
set_option synthInstance.maxHeartbeats 4000000
set_option synthInstance.maxSize 4000
namespace RL
def mfOf (hs : List Int) (f : Int → Int) : Int → Option V := fun h => if h ∈ hs then some (.int (f h)) else none
structure NxAt (H : Hp) (a : Addr) (hs : List Int) (f : Int → Int) : Prop where
  ex : ∃ kvs, Rd H a (.dK kvs) ∧ DOk kvs (mfOf hs f) ∧ kvs.length = hs.length
  nd : hs.Nodup
  cl : ∀ h ∈ hs, f h ∈ hs
theorem NxAt.fr {H H' : Hp} {a : Addr} {hs : List Int} {f : Int → Int} {M : List Addr} (x : NxAt H a hs f) (g : Fr M H H') (n : a ∉ M) : NxAt H' a hs f :=
  ⟨let ⟨k, r, d⟩ := x.ex; ⟨k, g.rd r n, d⟩, x.nd, x.cl⟩
theorem mfOf_at {hs : List Int} {f : Int → Int} {h : Int} (m : h ∈ hs) : mfOf hs f h = some (.int (f h)) := if_pos m
theorem mfOf_some {hs : List Int} {f : Int → Int} {n : Int} : n ∈ hs ↔ (mfOf hs f n).isSome = true := by unfold mfOf; split <;> simp [*]
theorem NxAt.mk' {H : Hp} {a : Addr} {hs : List Int} {f : Int → Int} {kvs : List (Key × V)} (r : Rd H a (.dK kvs)) (d : DOk kvs (mfOf hs f)) (nd : hs.Nodup) (cl : ∀ h ∈ hs, f h ∈ hs) : NxAt H a hs f := ⟨⟨kvs, r, d, d.lenN nd fun _ => mfOf_some⟩, nd, cl⟩
structure Per (f : Int → Int) (h : Int) (m : Nat) : Prop where
  p1 : 1 ≤ m
  rt : it f m h = h
  no : ∀ j, 0 < j → j < m → it f j h ≠ h
def ringL (f : Int → Int) (h : Int) (m : Nat) : List Int := (List.range m).map fun j => it f j h
theorem ringL_succ {f : Int → Int} {h : Int} {m : Nat} : ringL f h (m + 1) = ringL f h m ++ [it f m h] := by
  unfold ringL
  rw [List.range_succ, List.map_append]
  rfl
theorem ringL_mem {f : Int → Int} {hs : List Int} {h : Int} {m : Nat} (hf : ∀ h ∈ hs, f h ∈ hs) (hh : h ∈ hs) : ∀ x ∈ ringL f h m, x ∈ hs := fun x hx => by
  obtain ⟨j, _, e⟩ := List.mem_map.mp hx
  exact e ▸ it_mem hf hh
def spLawNexts : Sp := fun vs H Q _ => ∃ (tp tc lp : Addr) (ps : List Int) (_ : Unit), vs = [.ref tp, .ref lp] ∧ TapeAt H tp tc ∧ H lp = some (.lst (ps.map V.int)) ∧ lp ≠ tp ∧ ps.length ≤ 60 ∧
  ∀ d kvs H', H d = none → H' d = some (.dK kvs) → NxD ps ps kvs → TapeAt H' tp tc → Fr [tp] H H' → Q (.ref d) H'
section
variable {P : Program} {w : World} {K : PySem.W.Frag} {mg : Str → Option Value} {base : Heap} {CNet CMender CDesk CStore CWalk : Addr}
abbrev s__law_nexts : Stmt := top 36
theorem sc__law_nexts : FnScope ["tape", "places", "nexts", "count", "first", "last", "ring", "at"] ["tape", "places"] (defScope s__law_nexts) := ⟨rfl, rfl, rfl, by decide +kernel, rfl, by decide +kernel, by decide +kernel⟩
theorem ok__law_nexts {f : Addr} {fd : FuncData} (F : Fun K "_law_nexts" "_law_nexts" s__law_nexts f fd) (m_len : mg "len" = none) (m_range : mg "range" = none) (G__law_pick : GF P w K mg base "_law_pick" 1 ["tape", "size"] spPick) : FnOk P w K mg base CX0 2 f fd ["tape", "places"] spLawNexts := by
  refine F.ok sc__law_nexts (fun vs H Q E h => ?_) (fun cdv A outer s H vs Q E hr h => ?_)
  · obtain ⟨_, _, _, _, _, rfl, _⟩ := h; rfl
  · obtain ⟨tp, tc, lp, ps, _, rfl, t, hp, hne, hlen, k⟩ := h
    refine ⟨_, (pss_cons (ps_set (i := 2) sc__law_nexts.nd rfl (Or.inl rfl) pe_dnewK)
      (pss_cons (ps_set (i := 3) sc__law_nexts.nd rfl (Or.inl rfl) (pe_callB (cb_lenSK (K := K) rfl) (by rfl) m_len b_len (pa_cons (pv 1) pa_nil)))
      (pss_cons (ps_set (i := 4) sc__law_nexts.nd rfl (Or.inl rfl) pe_int)
      (pss_cons (ps_set (i := 5) sc__law_nexts.nd rfl (Or.inl rfl) pe_int)
      (pss_cons (ps_set (i := 6) sc__law_nexts.nd rfl (Or.inl rfl) pe_int)
      (pss_cons (ps_for PassesOwn.never rfl (pi_range1 (by rfl) m_range (pa_cons (pv 3) pa_nil)) (pg_name (i := 7) sc__law_nexts.nd rfl (Or.inl rfl))
      (pss_cons (ps_if (pt_cmpR op_eq (pv 7) (pv 5) (nomark _)) (pss_cons (ps_set (i := 4) sc__law_nexts.nd rfl (Or.inl rfl) (pv 7))
      (pss_cons (ps_set (i := 5) sc__law_nexts.nd rfl (Or.inl rfl) (pv 3))
      (pss_cons (ps_if (pt_cmpR op_eq (c_fn G__law_pick (hr.mono (by decide)) (pa_cons (pv 0) (pa_cons pe_int pa_nil))) pe_int (nomark _)) (pss_one (ps_set (i := 5) sc__law_nexts.nd rfl (Or.inl rfl) (pe_op op_add (pe_op op_add (pv 7) pe_int) (c_fn G__law_pick (hr.mono (by decide)) (pa_cons (pv 0) (pa_cons (pe_op op_sub (pv 3) (pv 7)) pa_nil)))))) pss_nil)
      (pss_one (ps_set (i := 6) sc__law_nexts.nd rfl (Or.inl rfl) (pe_op op_add pe_int (c_fn G__law_pick (hr.mono (by decide)) (pa_cons (pv 0) (pa_cons (pe_op op_sub (pv 5) (pv 4)) pa_nil))))))))) pss_nil)
      (pss_one (ps_if (pt_cmpR op_lt (pe_op op_sub (pv 7) (pv 4)) (pe_op op_sub (pv 6) pe_int) (nomark _)) (pss_one (ps_dput (hu_of hr) (pv 2) (pe_ix (ix_listK (K := K) rfl) (pv 1) (pv 7) (by intro _ _; rfl)) (pe_ix (ix_listK (K := K) rfl) (pv 1) (pe_op op_add (pv 7) pe_int) (by intro _ _; rfl)) rfl)) (pss_one (ps_if (pt_cmpR op_eq (pe_op op_sub (pv 7) (pv 4)) (pe_op op_sub (pv 6) pe_int) (nomark _)) (pss_one (ps_dput (hu_of hr) (pv 2) (pe_ix (ix_listK (K := K) rfl) (pv 1) (pv 7) (by intro _ _; rfl)) (pe_ix (ix_listK (K := K) rfl) (pv 1) (pv 4) (by intro _ _; rfl)) rfl)) (pss_one (ps_dput (hu_of hr) (pv 2) (pe_ix (ix_listK (K := K) rfl) (pv 1) (pv 7) (by intro _ _; rfl)) (pe_ix (ix_listK (K := K) rfl) (pv 1) (pe_op op_add (pv 4) (c_fn G__law_pick (hr.mono (by decide)) (pa_cons (pv 0) (pa_cons (pe_op op_sub (pv 7) (pv 4)) pa_nil)))) (by intro _ _; rfl)) rfl))))))))
      (pss_one (ps_ret (pv 2))))))))), ?_⟩
    (try simp only [cxK, cxKX, List.map])
    refine ent (σ' := [some _, some _, none, none, none, none, none, none]) rfl ?_
    obtain ⟨_, _, _, _, _, tt, tcs, _⟩ := t.ex
    k_offL
    refine newk fun d H1 n1 e1 f1 => ?_
    have hdt : tp ≠ d := ne_of_none tt n1
    have hdc : tc ≠ d := ne_of_none tcs n1
    have hdl : lp ≠ d := ne_of_none hp n1
    k_offL
    refine r_lenL (sqL_of (f1.at_ _ _ hp List.not_mem_nil)) ?_
    rw [List.length_map]
    k_offL
    refine loopR1 _ (by omega) (by omega) (fun i σ' H' => ∃ (a l r : Int) (v : Option V) (kvs : List (Key × V)), σ' = [some (.ref tp), some (.ref lp), some (.ref d), some (.int (ps.length : Int)), some (.int a), some (.int l), some (.int r), v] ∧ 0 ≤ a ∧ a ≤ (i : Int) ∧ (i : Int) ≤ l ∧ l ≤ (ps.length : Int) ∧ ((i : Int) < l → 1 ≤ r ∧ r ≤ l - a) ∧
        H' d = some (.dK kvs) ∧ NxD ps (ps.take i) kvs ∧ TapeAt H' tp tc ∧ Fr [tp] H H')
      ⟨0, 0, 0, _, [], rfl, by omega, by omega, by omega, by omega, by omega, e1, NxD.nil, t.ex0 f1, f1.up⟩ ?_ ?_
    · rintro i σ' H2 hi ⟨a, l, r, v, kvs, rfl, a0, a1, l0, l1, r1, e2, nx, t2, f2⟩
      have hi' : i < ps.length := by omega
      have hp2 : H2 lp = some (.lst (ps.map V.int)) := f2.at_ _ _ hp (mem_one hne)
      k_places
      refine q_cut (fun σ' H' => ∃ (a l r : Int), σ' = [some (.ref tp), some (.ref lp), some (.ref d), some (.int (ps.length : Int)), some (.int a), some (.int l), some (.int r), some (.int (i : Int))] ∧ 0 ≤ a ∧ a ≤ (i : Int) ∧ (i : Int) < l ∧ l ≤ (ps.length : Int) ∧ 1 ≤ r ∧ r ≤ l - a ∧ TapeAt H' tp tc ∧ Fr [tp] H2 H') (fun Nx kN => ?_) ?_
      · k_offL
        refine ifD (fun e => ?_) (fun e => ?_)
        · k_offL
          refine i_pick t2 (by decide) (by decide) fun n3 H3 a3 b3 t3 f3 => ?_
          k_offL
          refine ifD (fun e3 => ?_) (fun e3 => ?_)
          · k_offL
            refine i_pick t3 (by omega) (by omega) fun n4 H4 a4 b4 t4 f4 => ?_
            k_offL
            refine i_pick t4 (by omega) (by omega) fun n5 H5 a5 b5 t5 f5 => ?_
            k_offL
            exact kN _ _ ⟨_, _, _, rfl, by omega, by omega, by omega, by omega, by omega, by omega, t5, (f3.trans f4).trans f5⟩
          · k_offL
            refine i_pick t3 (by omega) (by omega) fun n5 H5 a5 b5 t5 f5 => ?_
            k_offL
            exact kN _ _ ⟨_, _, _, rfl, by omega, by omega, by omega, by omega, by omega, by omega, t5, f3.trans f5⟩
        · k_offL
          obtain ⟨r1, r2⟩ := r1 (by omega)
          exact kN _ _ ⟨a, l, r, rfl, a0, a1, by omega, l1, r1, r2, t2, Fr.refl _ _⟩
      rintro _ H3 ⟨a, l, r, rfl, a0, a1, l0, l1, r1, r2, t3, f3⟩
      have hp3 : H3 lp = some (.lst (ps.map V.int)) := f3.at_ _ _ hp2 (mem_one hne)
      have e3 : H3 d = some (.dK kvs) := f3.at_ _ _ e2 (mem_one hdt.symm)
      have hkl : kvs.length ≤ 100000 := by
        obtain ⟨_, _, _, hk⟩ := nx
        rw [List.length_take] at hk
        omega
      have fin : ∀ (y : Int) (H4 H5 : Hp), y ∈ ps → Fr [tp] H3 H4 → TapeAt H4 tp tc → H4 d = some (.dK kvs) → H5 d = some (.dK (putK kvs (.inl ps[i]) (.int y))) → Fr [d] H4 H5 →
          (∃ (a l r : Int) (v : Option V) (kvs : List (Key × V)), [some (V.ref tp), some (.ref lp), some (.ref d), some (.int (ps.length : Int)), some (.int a), some (.int l), some (.int r), some (.int (i : Int))] = [some (.ref tp), some (.ref lp), some (.ref d), some (.int (ps.length : Int)), some (.int a), some (.int l), some (.int r), v] ∧ True) → True := fun _ _ _ _ _ _ _ _ _ _ => trivial
      clear fin
      have ix1 : (ps.map V.int)[i]? = some (.int ps[i]) := ints_get hi'
      k_offL
      refine ifD (fun e => ?_) (fun e => ?_)
      · have hi2 : i + 1 < ps.length := by omega
        k_offL
        refine r_ixL (sqL_of hp3) (ix_at (i + 1) (by omega) (ints_get hi2)) ?_
        k_offL
        refine r_ixL (sqL_of hp3) (ix_at i rfl ix1) ?_
        refine dputk e3 hkl fun H5 e5 f5 => ?_
        exact ⟨a, l, r, _, _, rfl, a0, by omega, by omega, l1, fun _ => ⟨r1, r2⟩, e5, by rw [take_get hi']; exact nx.put (List.getElem_mem hi2), t3.fr f5 (mem_one hdt) (mem_one hdc), (f2.trans f3).drop (f5.mono fun a h => by simp at h; simp [h]) n1⟩
      · k_offL
        refine ifD (fun e2 => ?_) (fun e2 => ?_)
        · have ha : a.toNat < ps.length := by omega
          k_offL
          refine r_ixL (sqL_of hp3) (ix_at a.toNat (by omega) (ints_get ha)) ?_
          k_offL
          refine r_ixL (sqL_of hp3) (ix_at i rfl ix1) ?_
          refine dputk e3 hkl fun H5 e5 f5 => ?_
          exact ⟨a, l, r, _, _, rfl, a0, by omega, by omega, l1, fun _ => ⟨r1, r2⟩, e5, by rw [take_get hi']; exact nx.put (List.getElem_mem ha), t3.fr f5 (mem_one hdt) (mem_one hdc), (f2.trans f3).drop (f5.mono fun a h => by simp at h; simp [h]) n1⟩
        · k_offL
          refine i_pick t3 (by omega) (by omega) fun n4 H4 a4 b4 t4 f4 => ?_
          have hp4 : H4 lp = some (.lst (ps.map V.int)) := f4.at_ _ _ hp3 (mem_one hne)
          have e4 : H4 d = some (.dK kvs) := f4.at_ _ _ e3 (mem_one hdt.symm)
          have ha : (a + n4).toNat < ps.length := by omega
          k_offL
          refine r_ixL (sqL_of hp4) (ix_at (a + n4).toNat (by omega) (ints_get ha)) ?_
          k_offL
          refine r_ixL (sqL_of hp4) (ix_at i rfl ix1) ?_
          refine dputk e4 hkl fun H5 e5 f5 => ?_
          exact ⟨a, l, r, _, _, rfl, a0, by omega, by omega, l1, fun _ => ⟨r1, r2⟩, e5, by rw [take_get hi']; exact nx.put (List.getElem_mem ha), t4.fr f5 (mem_one hdt) (mem_one hdc), ((f2.trans f3).trans f4).drop (f5.mono fun a h => by simp at h; simp [h]) n1⟩
    · rintro σ' H2 ⟨a, l, r, v, kvs, rfl, a0, a1, l0, l1, r1, e2, nx, t2, f2⟩
      k_offL
      rw [show (ps.length : Int).toNat = ps.length by omega, List.take_length] at nx
      exact k d kvs H2 n1 e2 nx t2 f2
end
def spRing : Sp := fun vs H Q _ => ∃ (a : Addr) (hs : List Int) (f : Int → Int) (h : Int) (_ : Unit), vs = [.ref a, .int h] ∧ NxAt H a hs f ∧ h ∈ hs ∧ hs.length ≤ 60 ∧
  ∀ l m H', H l = none → H' l = some (.lst ((ringL f (it f hs.length h) m).map V.int)) → Per f (it f hs.length h) m → m ≤ hs.length → Fr [] H H' → Q (.ref l) H'
section
variable {P : Program} {w : World} {K : PySem.W.Frag} {mg : Str → Option Value} {base : Heap} {CNet CMender CDesk CStore CWalk : Addr}
abbrev s__law_ring : Stmt := top 40
theorem sc__law_ring : FnScope ["nexts", "house", "k", "ring", "at"] ["nexts", "house"] (defScope s__law_ring) := ⟨rfl, rfl, rfl, by decide +kernel, rfl, by decide +kernel, by decide +kernel⟩
theorem ok__law_ring {f : Addr} {fd : FuncData} (F : Fun K "_law_ring" "_law_ring" s__law_ring f fd) (m_range : mg "range" = none) (m_len : mg "len" = none) : FnOk P w K mg base CX0 1 f fd ["nexts", "house"] spRing := by
  refine F.ok sc__law_ring (fun vs H Q E h => ?_) (fun cdv A outer s H vs Q E hr h => ?_)
  · obtain ⟨_, _, _, _, _, rfl, _⟩ := h; rfl
  · obtain ⟨a, hs, f, h, _, rfl, N, hh, hlen, k⟩ := h
    refine ⟨_, (pss_cons (ps_for PassesOwn.never rfl (pi_range1 (by rfl) m_range (pa_cons (pe_callB cb_lenD (by rfl) m_len b_len (pa_cons (pv 0) pa_nil)) pa_nil)) (pg_name (i := 2) sc__law_ring.nd rfl (Or.inl rfl))
      (pss_one (ps_set (i := 1) sc__law_ring.nd rfl (Or.inl rfl) (pe_dget (hu_of hr) (pv 0) (pv 1) (by intro _ _; rfl)))))
      (pss_cons (ps_set (i := 3) sc__law_ring.nd rfl (Or.inl rfl) (pe_lst (pa_cons (pv 1) pa_nil)))
      (pss_cons (ps_set (i := 4) sc__law_ring.nd rfl (Or.inl rfl) (pe_dget (hu_of hr) (pv 0) (pv 1) (by intro _ _; rfl)))
      (pss_cons (ps_for PassesOwn.never rfl (pi_range1 (by rfl) m_range (pa_cons (pe_callB cb_lenD (by rfl) m_len b_len (pa_cons (pv 0) pa_nil)) pa_nil)) (pg_name (i := 2) sc__law_ring.nd rfl (Or.inl rfl))
      (pss_cons (ps_if (pt_cmpR op_eq (pv 4) (pv 1) (nomark _)) (pss_one ps_break) pss_nil)
      (pss_cons (ps_expr (pe_bmK (K := K) rfl PySem.F.plainAttrs_list PySem.F.slot_list_append PySem.F.type_list_append mt_append (pv 3) (pa_cons (pv 4) pa_nil)))
      (pss_one (ps_set (i := 4) sc__law_ring.nd rfl (Or.inl rfl) (pe_dget (hu_of hr) (pv 0) (pv 4) (by intro _ _; rfl)))))))
      (pss_one (ps_ret (pv 3))))))), ?_⟩
    (try simp only [cxK, cxKX, List.map])
    refine ent (σ' := [some _, some _, none, none, none]) rfl ?_
    obtain ⟨kvs, rd, dk, hkl⟩ := N.ex
    have get : ∀ {H' : Hp} {x : Int} {Q : VK}, Fr [] H H' → x ∈ hs → Q (.int (f x)) H' → DGetK (.ref a) (.int x) Q H' := fun {H' x Q} g m q => dgetk (g.rd rd List.not_mem_nil) (by rw [dk.val, mfOf_at m]) q
    have im : ∀ n x, x ∈ hs → it f n x ∈ hs := fun n x hx => it_mem N.cl hx
    k_offL
    refine r_lenD rd ?_
    rw [hkl]
    k_offL
    refine loopR1 _ (by omega) (by omega) (fun i σ' H' => H' = H ∧ ∃ v, σ' = [some (.ref a), some (.int (it f i h)), v, none, none]) ⟨rfl, _, rfl⟩ ?_ ?_
    · rintro i σ' _ hi ⟨rfl, v, rfl⟩
      k_offL
      refine get (Fr.refl _ _) (im i h hh) ?_
      k_offL
      exact ⟨rfl, _, by rw [it_succ]⟩
    rintro σ' _ ⟨rfl, v, rfl⟩
    rw [show (hs.length : Int).toNat = hs.length by omega]
    obtain ⟨p, p1, p2, p3⟩ := on_ring (n := hs.length) N.cl hh (Nat.le_refl _)
    revert p3
    generalize hq : it f hs.length h = h0 at *
    intro p3
    have m0 : h0 ∈ hs := hq ▸ im _ h hh
    k_offL
    refine lstk (by show 1 ≤ 100000; decide) fun rl H1 n1 e1 f1 => ?_
    k_offL
    refine get f1 m0 ?_
    k_offL
    refine r_lenD (f1.rd rd List.not_mem_nil) ?_
    rw [hkl]
    k_offL
    refine loopR1 _ (by omega) (by omega) (fun i σ' H' => (∃ v, σ' = [some (.ref a), some (.int h0), v, some (.ref rl), some (.int (it f (i + 1) h0))]) ∧ H' rl = some (.lst ((ringL f h0 (i + 1)).map V.int)) ∧ (∀ j, 0 < j → j ≤ i → it f j h0 ≠ h0) ∧ Fr [] _ H')
      ⟨⟨_, rfl⟩, e1, fun j a b => absurd a (by omega), f1⟩ ?_ ?_
    · rintro i σ' H2 hi ⟨⟨v, rfl⟩, e2, no, f2⟩
      k_offL
      refine ifD (fun e => ?_) (fun e => ?_)
      · k_offL
        refine k rl (i + 1) H2 n1 e2 ⟨by omega, e, fun j a b => no j a (by omega)⟩ (by omega) f2
      · k_offL
        refine r_app e2 (by rw [List.length_map]; unfold ringL; rw [List.length_map, List.length_range]; omega) fun H3 e3 f3 => ?_
        have f03 := f2.drop f3 n1
        k_offL
        refine get f03 (im (i + 1) h0 m0) ?_
        k_offL
        refine ⟨⟨_, by rw [it_succ (n := i + 1)]⟩, ?_, fun j a b => ?_, f03⟩
        · rw [e3, ringL_succ (m := i + 1), List.map_append]; rfl
        · rcases Nat.lt_or_eq_of_le b with q | q
          · exact no j a (by omega)
          · rw [q]; exact e
    · rintro σ' H2 ⟨⟨v, rfl⟩, e2, no, f2⟩
      exact absurd p3 (no p (by omega) (by omega))
end
def spRoot : Sp := fun vs H Q _ => ∃ (a : Addr) (hs : List Int) (f : Int → Int) (h : Int) (_ : Unit), vs = [.ref a, .int h] ∧ NxAt H a hs f ∧ h ∈ hs ∧ hs.length ≤ 60 ∧
  ∀ r m H', Per f (it f hs.length h) m → m ≤ hs.length → r ∈ ringL f (it f hs.length h) m → (∀ y ∈ ringL f (it f hs.length h) m, r ≤ y) → Fr [] H H' → Q (.int r) H'
section
variable {P : Program} {w : World} {K : PySem.W.Frag} {mg : Str → Option Value} {base : Heap} {CNet CMender CDesk CStore CWalk : Addr}
abbrev s__law_root : Stmt := top 41
theorem sc__law_root : FnScope ["nexts", "house"] ["nexts", "house"] (defScope s__law_root) := ⟨rfl, rfl, rfl, by decide +kernel, rfl, by decide +kernel, by decide +kernel⟩
theorem ok__law_root {f : Addr} {fd : FuncData} (F : Fun K "_law_root" "_law_root" s__law_root f fd) (m_min : mg "min" = none) (G__law_ring : GF P w K mg base "_law_ring" 1 ["nexts", "house"] spRing) : FnOk P w K mg base CX0 2 f fd ["nexts", "house"] spRoot := by
  refine F.ok sc__law_root (fun vs H Q E h => ?_) (fun cdv A outer s H vs Q E hr h => ?_)
  · obtain ⟨_, _, _, _, _, rfl, _⟩ := h; rfl
  · obtain ⟨a, hs, f, h, _, rfl, N, hh, hlen, k⟩ := h
    refine ⟨_, (pss_one (ps_ret (pe_callB (cb_minK (K := K) rfl rfl) (by rfl) m_min b_min (pa_cons (c_fn G__law_ring (hr.mono (by decide)) (pa_cons (pv 0) (pa_cons (pv 1) pa_nil))) pa_nil)))), ?_⟩
    (try simp only [cxK, cxKX, List.map])
    refine ent (σ' := [some _, some _]) rfl ?_
    k_offL
    refine ⟨a, hs, f, h, (), rfl, N, hh, hlen, fun l m H1 n1 e1 per hm f1 => ?_⟩
    k_offL
    refine r_min (sqL_of e1) (by unfold ringL; rw [List.length_map, List.length_range]; exact per.p1) fun r a b => ?_
    exact k r m H1 per hm a b f1
end
end RL
set_option synthInstance.maxHeartbeats 4000000
set_option synthInstance.maxSize 4000
namespace RL
theorem NS.lb_setB (N : NS) (v u h : Int) : (if h = v then some (.int u) else N.lb h) = (N.setB v (some u)).lb h := by
  unfold NS.lb
  show _ = (if h = v then some u else N.b h).map V.int
  by_cases e : h = v
  · rw [if_pos e, if_pos e]; rfl
  · rw [if_neg e, if_neg e]
theorem NS.Ok.lbl {N : NS} (ok : N.Ok) {kb : List (Key × V)} (d : DOk kb N.lb) : kb.length ≤ 100000 := by have := d.len ok.ascL; have := ok.bl; omega
theorem vs_rep {H : Hp} {t : Addr} {vs : List V} {ds : List D} (h : H t = some (.tup vs)) (r : RepL H ds vs) : Rep H (.tup ds) (.ref t) := ⟨t, vs, rfl, h, r⟩
def ofV : V → D
  | .non => .non
  | .bl b => .bl b
  | .int i => .int i
  | .str s => .str s
  | _ => .non
def flatR : V → Bool
  | .non => true
  | .bl _ => true
  | .int _ => true
  | .str _ => true
  | _ => false
theorem ofV_rep {H : Hp} : ∀ {v : V}, flatR v = true → Rep H (ofV v) v
  | .non, _ => rfl
  | .bl _, _ => rfl
  | .int _, _ => rfl
  | .str _, _ => rfl
theorem ofVs_rep {H : Hp} : ∀ {vs : List V}, vs.all flatR = true → RepL H (vs.map ofV) vs
  | [], _ => rfl
  | v :: r, h => by
    rw [List.all_cons, Bool.and_eq_true] at h
    exact ⟨v, r, rfl, ofV_rep h.1, ofVs_rep h.2⟩
theorem ofV_depth : ∀ v : V, (ofV v).depth = 0 := fun v => by cases v <;> rfl
theorem ofVs_depth : ∀ vs : List V, depthL (vs.map ofV) = 0
  | [] => rfl
  | v :: r => by rw [List.map_cons, depthL, ofV_depth, ofVs_depth r]; rfl
theorem read_flat (N : NS) (l : LT) : (N.readL l).2.all flatR = true := by
  cases l with
  | tell v u => simp only [NS.readL]; split <;> (try split) <;> rfl
  | ask v u => simp only [NS.readL]; split <;> rfl
  | ans u v x => simp only [NS.readL]; split <;> rfl
theorem lt_flat (l : LT) : l.vs.all flatR = true := by cases l <;> rfl
section
variable {P : Program} {w : World} {K : PySem.W.Frag} {mg : Str → Option Value} {base : Heap} {CNet CMender CDesk CStore CWalk : Addr}
abbrev s__law_rings : Stmt := top 37
theorem sc__law_rings : FnScope ["tape", "places", "nexts", "cut", "group", "ring", "at"] ["tape", "places"] (defScope s__law_rings) := ⟨rfl, rfl, rfl, by decide +kernel, rfl, by decide +kernel, by decide +kernel⟩
theorem ok__law_rings {f : Addr} {fd : FuncData} (F : Fun K "_law_rings" "_law_rings" s__law_rings f fd) (G__law_pick : GF P w K mg base "_law_pick" 1 ["tape", "size"] spPick) (G__law_nexts : GF P w K mg base "_law_nexts" 2 ["tape", "places"] spLawNexts) (m_len : mg "len" = none) (m_max : mg "max" = none) (m_range : mg "range" = none) : FnOk P w K mg base CX0 3 f fd ["tape", "places"] spLawNexts := by
  refine F.ok sc__law_rings (fun vs H Q E h => ?_) (fun cdv A outer s H vs Q E hr h => ?_)
  · obtain ⟨_, _, _, _, _, rfl, _⟩ := h; rfl
  · obtain ⟨tp, tc, lp, ps, _, rfl, t, hp, hne, hlen, k⟩ := h
    refine ⟨_, (pss_cons (ps_if (pt_cmpR op_eq (c_fn G__law_pick (hr.mono (by decide)) (pa_cons (pv 0) (pa_cons pe_int pa_nil))) pe_int (nomark _)) (pss_one (ps_ret (c_fn G__law_nexts (hr.mono (by decide)) (pa_cons (pv 0) (pa_cons (pv 1) pa_nil))))) pss_nil)
      (pss_cons (ps_set (i := 2) sc__law_rings.nd rfl (Or.inl rfl) pe_dnewK)
      (pss_cons (ps_set (i := 3) sc__law_rings.nd rfl (Or.inl rfl) (pe_callB (cb_lenSK (K := K) rfl) (by rfl) m_len b_len (pa_cons (pv 1) pa_nil)))
      (pss_cons (ps_if (pt_cmpR op_eq (c_fn G__law_pick (hr.mono (by decide)) (pa_cons (pv 0) (pa_cons pe_int pa_nil))) pe_int (nomark _)) (pss_one (ps_set (i := 3) sc__law_rings.nd rfl (Or.inl rfl) (c_fn G__law_pick (hr.mono (by decide)) (pa_cons (pv 0) (pa_cons (pe_op op_add (pv 3) pe_int) pa_nil))))) pss_nil)
      (pss_cons (ps_for PassesOwn.never rfl (pi_listK (K := K) rfl (pe_lst (pa_cons (pe_slice (sl_listK (K := K) rfl) (pv 1) po_none (po_some (pv 3))) (pa_cons (pe_slice (sl_listK (K := K) rfl) (pv 1) (po_some (pv 3)) po_none) pa_nil)))) (pg_name (i := 4) sc__law_rings.nd rfl (Or.inl rfl))
      (pss_cons (ps_set (i := 5) sc__law_rings.nd rfl (Or.inl rfl) (pe_callB (cb_max2 rfl) (by rfl) m_max b_max (pa_cons pe_int (pa_cons (pe_op op_sub (pe_callB (cb_lenSK (K := K) rfl) (by rfl) m_len b_len (pa_cons (pv 4) pa_nil)) (c_fn G__law_pick (hr.mono (by decide)) (pa_cons (pv 0) (pa_cons pe_int pa_nil)))) pa_nil))))
      (pss_one (ps_for PassesOwn.never rfl (pi_range1 (by rfl) m_range (pa_cons (pe_callB (cb_lenSK (K := K) rfl) (by rfl) m_len b_len (pa_cons (pv 4) pa_nil)) pa_nil)) (pg_name (i := 6) sc__law_rings.nd rfl (Or.inl rfl))
      (pss_one (ps_if (pt_cmpR op_lt (pv 6) (pe_op op_sub (pv 5) pe_int) (nomark _)) (pss_one (ps_dput (hu_of hr) (pv 2) (pe_ix (ix_listK (K := K) rfl) (pv 4) (pv 6) (by intro _ _; rfl)) (pe_ix (ix_listK (K := K) rfl) (pv 4) (pe_op op_add (pv 6) pe_int) (by intro _ _; rfl)) rfl)) (pss_one (ps_if (pt_cmpR op_eq (pv 6) (pe_op op_sub (pv 5) pe_int) (nomark _)) (pss_one (ps_dput (hu_of hr) (pv 2) (pe_ix (ix_listK (K := K) rfl) (pv 4) (pv 6) (by intro _ _; rfl)) (pe_ix (ix_listK (K := K) rfl) (pv 4) pe_int (by intro _ _; rfl)) rfl)) (pss_one (ps_dput (hu_of hr) (pv 2) (pe_ix (ix_listK (K := K) rfl) (pv 4) (pv 6) (by intro _ _; rfl)) (pe_ix (ix_listK (K := K) rfl) (pv 4) (c_fn G__law_pick (hr.mono (by decide)) (pa_cons (pv 0) (pa_cons (pv 6) pa_nil))) (by intro _ _; rfl)) rfl))))))))))
      (pss_one (ps_ret (pv 2)))))))), ?_⟩
    (try simp only [cxK, cxKX, List.map])
    refine ent (σ' := [some _, some _, none, none, none, none, none]) rfl ?_
    obtain ⟨_, _, _, _, _, tt, tcs, _⟩ := t.ex
    k_offL
    refine i_pick t (by decide) (by decide) fun n1 H1 a1 b1 t1 f1 => ?_
    have hp1 : H1 lp = some (.lst (ps.map V.int)) := f1.at_ _ _ hp (mem_one hne)
    k_places
    refine ifD (fun e => ?_) (fun e => ?_)
    · k_offL
      exact ⟨tp, tc, lp, ps, (), rfl, t1, hp1, hne, hlen, fun d kvs H2 n2 e2 nx t2 f2 => k d kvs H2 (by
        cases q : H d with
        | none => rfl
        | some o =>
          have z : d ≠ tp := fun z => by subst z; obtain ⟨_, _, _, _, _, tt1, _⟩ := t1.ex; rw [show H1 d = _ from tt1] at n2; cases n2
          rw [f1.at_ _ _ q (mem_one z)] at n2; cases n2) e2 nx t2 (f1.trans f2)⟩
    k_offL
    refine newk fun d H2 n2 e2 f2 => ?_
    have hdt : tp ≠ d := by
      obtain ⟨_, _, _, _, _, tt1, _⟩ := t1.ex
      exact ne_of_none tt1 n2
    have n0 : H d = none := by
      cases q : H d with
      | none => rfl
      | some o => rw [f1.at_ _ _ q (mem_one hdt.symm)] at n2; cases n2
    have hdc : tc ≠ d := ne_of_none tcs n0
    have hdl : lp ≠ d := ne_of_none hp n0
    have hp2 : H2 lp = some (.lst (ps.map V.int)) := f2.at_ _ _ hp1 List.not_mem_nil
    have t2 := t1.ex0 f2
    k_offL
    refine r_lenL (sqL_of hp2) ?_
    rw [List.length_map]
    k_places
    refine q_cut (fun σ' H' => ∃ c : Nat, σ' = [some (.ref tp), some (.ref lp), some (.ref d), some (.int (c : Int)), none, none, none] ∧ c ≤ ps.length ∧ TapeAt H' tp tc ∧ Fr [tp] H2 H') (fun Nx kN => ?_) ?_
    · k_offL
      refine i_pick t2 (by decide) (by decide) fun n3 H3 a3 b3 t3 f3 => ?_
      k_offL
      refine ifD (fun e3 => ?_) (fun e3 => ?_)
      · k_offL
        refine i_pick t3 (by omega) (by omega) fun n4 H4 a4 b4 t4 f4 => ?_
        k_offL
        exact kN _ _ ⟨n4.toNat, by rw [show (n4.toNat : Int) = n4 by omega], by omega, t4, f3.trans f4⟩
      · k_offL
        exact kN _ _ ⟨ps.length, rfl, Nat.le_refl _, t3, f3⟩
    rintro _ H3 ⟨c, rfl, hc, t3, f3⟩
    have hp3 : H3 lp = some (.lst (ps.map V.int)) := f3.at_ _ _ hp2 (mem_one hne)
    have e3 : H3 d = some (.dK []) := f3.at_ _ _ e2 (mem_one hdt.symm)
    k_offL
    refine r_slL (sqL_of hp3) fun g1 H4 n4 e4 f4 => ?_
    rw [cut_to, ← List.map_take] at e4
    k_offL
    refine r_slL (sqL_of (f4.at_ _ _ hp3 List.not_mem_nil)) fun g2 H5 n5 e5 f5 => ?_
    rw [cut_from, ← List.map_drop] at e5
    k_offL
    refine lstk (by show 2 ≤ 100000; decide) fun gl H6 n6 e6 f6 => ?_
    have q1 : H6 g1 = some (.lst ((ps.take c).map V.int)) := (f5.trans f6).at_ _ _ e4 List.not_mem_nil
    have q2 : H6 g2 = some (.lst ((ps.drop c).map V.int)) := f6.at_ _ _ e5 List.not_mem_nil
    have g36 : Fr [] H3 H6 := (f4.trans f5).trans f6
    have f06 : Fr [tp] H H6 := ((f1.trans f2.up).trans f3).trans g36.up
    have t6 := t3.ex0 g36
    have e6' : H6 d = some (.dK []) := g36.at_ _ _ e3 List.not_mem_nil
    have ne : ∀ {a o}, H6 a = some o → (∀ x y, o ≠ .dK x ∨ y) → True := fun _ _ => trivial
    clear ne
    have hgd : ∀ {a : Addr} {xs : List V}, H6 a = some (.lst xs) → a ≠ d := fun h z => by subst z; rw [e6'] at h; cases h
    obtain ⟨_, _, _, _, _, tt6, tcs6, _⟩ := t6.ex
    have ht1 : g1 ≠ tp := fun z => by
      subst z
      obtain ⟨_, _, _, _, _, tt3, _⟩ := t3.ex
      rw [show H3 g1 = _ from tt3] at n4; cases n4
    have ht2 : g2 ≠ tp := fun z => by
      subst z
      obtain ⟨_, _, _, _, _, tt4, _⟩ := (t3.ex0 f4).ex
      rw [show H4 g2 = _ from tt4] at n5; cases n5
    have htl : gl ≠ tp := fun z => by
      subst z
      obtain ⟨_, _, _, _, _, tt5, _⟩ := ((t3.ex0 f4).ex0 f5).ex
      rw [show H5 gl = _ from tt5] at n6; cases n6
    refine loopLF (M := [d, tp]) [.ref g1, .ref g2] (sqL_of e6) (by simp [hgd e6, htl]) (fun i σ' H' => ∃ (v5 v6 v7 : Option V) (kvs : List (Key × V)), σ' = [some (.ref tp), some (.ref lp), some (.ref d), some (.int (c : Int)), v5, v6, v7] ∧ H' d = some (.dK kvs) ∧ NxD ps (if i = 0 then [] else if i = 1 then ps.take c else ps) kvs ∧ TapeAt H' tp tc ∧ Fr [d, tp] H6 H')
      ⟨_, _, _, [], rfl, e6', NxD.nil, t6, Fr.refl _ _⟩ (fun i σ' H' ⟨_, _, _, _, _, _, _, _, f⟩ => f) ?_ ?_
    · rintro i x σ' H7 hi ⟨v5, v6, v7, kvs, rfl, e7, nx, t7, f7⟩
      obtain ⟨g, gs, dn, hx, hg, hgt, hnx, hnx', hgl⟩ : ∃ (g : Addr) (gs dn : List Int), x = .ref g ∧ H7 g = some (.lst (gs.map V.int)) ∧ g ≠ tp ∧ (if i = 0 then ([] : List Int) else if i = 1 then ps.take c else ps) = dn ∧ (if i + 1 = 0 then ([] : List Int) else if i + 1 = 1 then ps.take c else ps) = dn ++ gs ∧ (∀ y ∈ gs, y ∈ ps) ∧ gs.length ≤ 60 := by
        match i, hi with
        | 0, hi =>
          have e := Option.some.inj hi
          exact ⟨g1, ps.take c, [], e.symm, f7.at_ _ _ q1 (by simp [hgd q1, ht1]), ht1, rfl, rfl, fun y hy => List.mem_of_mem_take hy, by rw [List.length_take]; omega⟩
        | 1, hi =>
          have e := Option.some.inj hi
          exact ⟨g2, ps.drop c, ps.take c, e.symm, f7.at_ _ _ q2 (by simp [hgd q2, ht2]), ht2, rfl, (List.take_append_drop c ps).symm, fun y hy => List.mem_of_mem_drop hy, by rw [List.length_drop]; omega⟩
        | i + 2, hi => simp at hi
      subst hx
      rw [hnx] at nx
      rw [hnx']
      obtain ⟨hgl1, hgl2⟩ := hgl
      have hgd' : g ≠ d := fun z => by subst z; rw [e7] at hg; cases hg
      k_offL
      refine r_lenL (sqL_of hg) ?_
      rw [List.length_map]
      k_offL
      refine i_pick t7 (by decide) (by decide) fun n8 H8 a8 b8 t8 f8 => ?_
      k_offL
      obtain ⟨rg, er, r1, r2⟩ : ∃ rg : Int, (if (gs.length : Int) - n8 > 1 then (gs.length : Int) - n8 else 1) = rg ∧ 1 ≤ rg ∧ (rg = 1 ∨ rg ≤ gs.length) := ⟨_, rfl, by split <;> omega, by split <;> omega⟩
      rw [er]
      have hg8 : H8 g = some (.lst (gs.map V.int)) := f8.at_ _ _ hg (mem_one hgt)
      have e8 : H8 d = some (.dK kvs) := f8.at_ _ _ e7 (mem_one hdt.symm)
      refine r_lenL (sqL_of hg8) ?_
      rw [List.length_map]
      k_offL
      refine loopR1 _ (by omega) (by omega) (fun j σ' H' => ∃ (v : Option V) (kvs : List (Key × V)), σ' = [some (.ref tp), some (.ref lp), some (.ref d), some (.int (c : Int)), some (.ref g), some (.int rg), v] ∧ H' d = some (.dK kvs) ∧ NxD ps (dn ++ gs.take j) kvs ∧ TapeAt H' tp tc ∧ Fr [d, tp] H8 H')
        ⟨_, kvs, rfl, e8, by rw [List.take_zero, List.append_nil]; exact nx, t8, Fr.refl _ _⟩ ?_ ?_
      · rintro j σ' H9 hj ⟨v, kvs9, rfl, e9, nx9, t9, f9⟩
        have hj' : j < gs.length := by omega
        have hg9 : H9 g = some (.lst (gs.map V.int)) := f9.at_ _ _ hg8 (by simp [hgd', hgt])
        have hkl : kvs9.length ≤ 100000 := by
          obtain ⟨_, _, _, hk⟩ := nx9
          rw [List.length_append, List.length_take] at hk
          have h1 : dn.length ≤ 60 := by
            rw [← hnx]
            split
            · decide
            · split
              · rw [List.length_take]; omega
              · omega
          omega
        have ix1 : (gs.map V.int)[j]? = some (.int gs[j]) := ints_get hj'
        have mm : ∀ a ∈ [d], a ∈ [d, tp] := fun a h => by simp at h; simp [h]
        have m2 : ∀ a ∈ [tp], a ∈ [d, tp] := fun a h => by simp at h; simp [h]
        have put : ∀ y, y ∈ ps → NxD ps (dn ++ gs.take (j + 1)) (putK kvs9 (.inl gs[j]) (.int y)) := fun y hy => by
          rw [take_get hj', ← List.append_assoc]; exact nx9.put hy
        k_offL
        refine ifD (fun e => ?_) (fun e => ?_)
        · have hi2 : j + 1 < gs.length := by omega
          k_offL
          refine r_ixL (sqL_of hg9) (ix_at (j + 1) (by omega) (ints_get hi2)) ?_
          k_offL
          refine r_ixL (sqL_of hg9) (ix_at j rfl ix1) ?_
          refine dputk e9 hkl fun H10 e10 f10 => ?_
          exact ⟨_, _, rfl, e10, put _ (hgl1 _ (List.getElem_mem hi2)), t9.fr f10 (mem_one hdt) (mem_one hdc), f9.trans (f10.mono mm)⟩
        · k_offL
          refine ifD (fun e2 => ?_) (fun e2 => ?_)
          · have h0 : 0 < gs.length := by omega
            k_offL
            refine r_ixL (sqL_of hg9) (ix_at 0 rfl (ints_get h0)) ?_
            k_offL
            refine r_ixL (sqL_of hg9) (ix_at j rfl ix1) ?_
            refine dputk e9 hkl fun H10 e10 f10 => ?_
            exact ⟨_, _, rfl, e10, put _ (hgl1 _ (List.getElem_mem h0)), t9.fr f10 (mem_one hdt) (mem_one hdc), f9.trans (f10.mono mm)⟩
          · k_offL
            refine i_pick t9 (by omega) (by omega) fun n10 H10 a10 b10 t10 f10 => ?_
            have hg10 : H10 g = some (.lst (gs.map V.int)) := f10.at_ _ _ hg9 (mem_one hgt)
            have e10 : H10 d = some (.dK kvs9) := f10.at_ _ _ e9 (mem_one hdt.symm)
            have h0 : n10.toNat < gs.length := by omega
            k_offL
            refine r_ixL (sqL_of hg10) (ix_at n10.toNat (by omega) (ints_get h0)) ?_
            k_offL
            refine r_ixL (sqL_of hg10) (ix_at j rfl ix1) ?_
            refine dputk e10 hkl fun H11 e11 f11 => ?_
            exact ⟨_, _, rfl, e11, put _ (hgl1 _ (List.getElem_mem h0)), t10.fr f11 (mem_one hdt) (mem_one hdc), (f9.trans (f10.mono m2)).trans (f11.mono mm)⟩
      · rintro σ' H9 ⟨v, kvs9, rfl, e9, nx9, t9, f9⟩
        rw [show (gs.length : Int).toNat = gs.length by omega, List.take_length] at nx9
        exact ⟨_, _, _, kvs9, rfl, e9, nx9, t9, (f7.trans (f8.mono fun a h => by simp at h; simp [h])).trans f9⟩
    · rintro σ' H7 ⟨v5, v6, v7, kvs, rfl, e7, nx, t7, f7⟩
      k_offL
      exact k d kvs H7 n0 e7 nx t7 (f06.drop f7 n0)
end
def spLawRead : Sp := fun vs H Q _ => ∃ (dn dk dp : Addr) (N : NS) (i : Nat) (l : LT) (_ _ _ : Unit), vs = [.int N.size, .ref dn, .ref dk, .ref dp, .int (i : Int)] ∧ TabAt H dn dk dp N ∧ N.Ok ∧ N.post[i]? = some l ∧
  ∀ t H', H' t = some (.tup (N.read i l).2) → TabAt H' dn dk dp (N.read i l).1 → Fr [dn, dk, dp] H H' → Q (.ref t) H'
section
variable {P : Program} {w : World} {K : PySem.W.Frag} {mg : Str → Option Value} {base : Heap} {CNet CMender CDesk CStore CWalk : Addr}
abbrev s__law_read : Stmt := top 44
theorem sc__law_read : FnScope ["size", "nexts", "behinds", "post", "at", "letter", "reader", "sender", "before"] ["size", "nexts", "behinds", "post", "at"] (defScope s__law_read) := ⟨rfl, rfl, rfl, by decide +kernel, rfl, by decide +kernel, by decide +kernel⟩
theorem ok__law_read {f : Addr} {fd : FuncData} (F : Fun K "_law_read" "_law_read" s__law_read f fd) (G__law_between : GF P w K mg base "_law_between" 2 ["size", "start", "place", "end"] spBetween) : FnOk P w K mg base CX0 3 f fd ["size", "nexts", "behinds", "post", "at"] spLawRead := by
  refine F.ok sc__law_read (fun vs H Q E h => ?_) (fun cdv A outer s H vs Q E hr h => ?_)
  · obtain ⟨_, _, _, _, _, _, _, _, _, rfl, _⟩ := h; rfl
  · obtain ⟨dn, dk, dp, N, i, l, _, _, _, rfl, T, ok, hi, k⟩ := h
    refine ⟨_, (pss_cons (ps_set (i := 5) sc__law_read.nd rfl (Or.inl rfl) (pe_bmK (K := K) rfl PySem.F.plainAttrs_list PySem.F.slot_list_pop PySem.F.type_list_pop mt_popAt (pv 3) (pa_cons (pv 4) pa_nil)))
      (pss_cons (ps_set (i := 6) sc__law_read.nd rfl (Or.inl rfl) (pe_ix (ix_tupK (K := K) rfl) (pv 5) pe_int (by intro _ _; rfl)))
      (pss_cons (ps_set (i := 7) sc__law_read.nd rfl (Or.inl rfl) (pe_ix (ix_tupK (K := K) rfl) (pv 5) pe_int (by intro _ _; rfl)))
      (pss_cons (ps_set (i := 8) sc__law_read.nd rfl (Or.inl rfl) (pe_dget1 (hu_of hr) (pv 2) (pv 6) ⟨by rfl, by rfl, by rfl, by rfl⟩))
      (pss_cons (ps_if (pt_cmpR op_eq (pe_ix (ix_tupK (K := K) rfl) (pv 5) pe_int (by intro _ _; rfl)) pe_str (nomark _)) (pss_one (ps_if (PW.pt (pw_or (pt_cmpR op_isNn (pv 8) pe_non (nomark _)) (pw_or1 (pt_val (c_fn G__law_between (hr.mono (by decide)) (pa_cons (pv 0) (pa_cons (pv 8) (pa_cons (pv 7) (pa_cons (pv 6) pa_nil))))))))) (pss_cons (ps_dput (hu_of hr) (pv 2) (pv 6) (pv 7) rfl)
      (pss_one (ps_ret (pe_tup (pa_cons pe_str (pa_cons (pv 6) (pa_cons (pv 7) pa_nil))))))) pss_nil)) (pss_one (ps_if (pt_cmpR op_eq (pe_ix (ix_tupK (K := K) rfl) (pv 5) pe_int (by intro _ _; rfl)) pe_str (nomark _)) (pss_one (ps_if (pt_cmpR op_notNn (pv 8) pe_non (nomark _)) (pss_cons (ps_expr (pe_bmK (K := K) rfl PySem.F.plainAttrs_list PySem.F.slot_list_append PySem.F.type_list_append mt_append (pv 3) (pa_cons (pe_tup (pa_cons pe_str (pa_cons (pv 7) (pa_cons (pv 6) (pa_cons (pv 8) pa_nil))))) pa_nil)))
      (pss_one (ps_ret (pe_tup (pa_cons pe_str (pa_cons (pv 6) (pa_cons (pv 8) pa_nil))))))) pss_nil)) (pss_one (ps_if (PW.pt (pw_and (pt_cmpR op_eq (pe_dget (hu_of hr) (pv 1) (pv 6) (by intro _ _; rfl)) (pv 7) (nomark _)) (pw_and1 (pt_val (c_fn G__law_between (hr.mono (by decide)) (pa_cons (pv 0) (pa_cons (pv 6) (pa_cons (pe_ix (ix_tupK (K := K) rfl) (pv 5) pe_int (by intro _ _; rfl)) (pa_cons (pv 7) pa_nil))))))))) (pss_cons (ps_dput (hu_of hr) (pv 1) (pv 6) (pe_ix (ix_tupK (K := K) rfl) (pv 5) pe_int (by intro _ _; rfl)) rfl)
      (pss_one (ps_ret (pe_tup (pa_cons pe_str (pa_cons (pv 6) (pa_cons (pe_ix (ix_tupK (K := K) rfl) (pv 5) pe_int (by intro _ _; rfl)) pa_nil))))))) pss_nil)))))
      (pss_one (ps_ret (pe_tup (pa_cons pe_str (pa_cons (pv 6) (pa_cons pe_non pa_nil))))))))))), ?_⟩
    (try simp only [cxK, cxKX, List.map])
    refine ent (σ' := [some _, some _, some _, some _, some _, none, none, none, none]) rfl ?_
    obtain ⟨⟨kn, hn, dN⟩, ⟨kb, hb, dB⟩, ⟨lv, hl, ls⟩, ne⟩ := id T
    have h0 := ok.s0
    have ne' := ne.symm
    have hlt := (List.getElem?_eq_some_iff.mp hi).1
    have hpl := ok.pl
    have hm := ok.ph l (List.mem_of_getElem? hi)
    obtain ⟨t0, ht, hT⟩ := ls.at_ i l hi
    have m1 : ∀ a ∈ [dn], a ∈ [dn, dk, dp] := fun a h => by simp at h; simp [h]
    have m2 : ∀ a ∈ [dk], a ∈ [dn, dk, dp] := fun a h => by simp at h; simp [h]
    have m3 : ∀ a ∈ [dp], a ∈ [dn, dk, dp] := fun a h => by simp at h; simp [h]
    k_offL
    refine r_popAt hl ht (by omega) fun H1 e1 f1 => ?_
    have hT1 := f1.tp _ _ hT
    have hn1 : H1 dn = some (.dK kn) := by k_clsL
    have hb1 : H1 dk = some (.dK kb) := by k_clsL
    have ls1 : LetsIs H1 (N.del i).post (lv.eraseIdx i) := (ls.fr f1).erase i
    have ok1 := ok.del i
    have kept : ∀ v, N.read i l = (N.del i, [.str "kept", .int v, .non]) → ∀ t H', H' t = some (.tup [.str "kept", .int v, .non]) → Fr [] H1 H' → Q (.ref t) H' := fun v e t H' et ft => by
      rw [e] at k
      exact k t H' et ⟨⟨kn, by k_clsL, dN⟩, ⟨kb, by k_clsL, dB⟩, ⟨_, by k_clsL, ls1.fr ft⟩, ne⟩ ((f1.mono m3).trans ft.up)
    k_offL
    cases l with
    | tell v u =>
      refine r_ixT (sqT_of hT1) (v := .int v) rfl ?_
      k_offL
      refine r_ixT (sqT_of hT1) (v := .int u) rfl ?_
      k_offL
      refine dg1a (.inl hb1) ?_
      k_offL
      refine dg1b (.inl hb1) ?_
      have hv : v ∈ N.hs := hm v (by simp [LT.pl])
      have eb : (valV kb (Sum.inl v)).getD V.non = oV (N.b v) := by
        rw [dB.val]; unfold NS.lb; cases N.b v <;> rfl
      rw [eb]
      have yes : N.read i (.tell v u) = ((N.del i).setB v (some u), [.str "before", .int v, .int u]) → ∀ H2 t H', H2 dk = some (.dK (putK kb (.inl v) (.int u))) → Fr [dk] H1 H2 → H' t = some (.tup [.str "before", .int v, .int u]) → Fr [] H2 H' → Q (.ref t) H' := fun e H2 t H' e2 f2 et ft => by
        rw [e] at k
        exact k t H' et ⟨⟨kn, by k_clsL, dN⟩, ⟨_, by k_clsL, dB.put.cong fun h => (N.del i).lb_setB v u h⟩, ⟨_, by k_clsL, ls1.fr (f2.trans ft.up)⟩, ne⟩ (((f1.mono m3).trans (f2.mono m2)).trans ft.up)
      k_offL
      refine r_ixT (sqT_of hT1) (v := .str "tell") rfl ?_
      k_offL
      refine ifDT rfl ?_
      cases hbv : N.b v with
      | none =>
        k_offL
        refine ifDT rfl ?_
        k_offL
        refine dputk hb1 (ok.lbl dB) fun H2 e2 f2 => ?_
        k_offL
        refine tupk (by show 3 ≤ 100000; decide) fun t H' n3 et ft => ?_
        exact yes (by show (N.del i).readL _ = _; simp only [NS.readL]; rw [show (N.del i).b v = none from hbv]) H2 t H' e2 f2 et ft
      | some b =>
        k_offL
        refine ifDF (fun z => nomatch z) ?_
        show tTest _ _ _ _
        k_offL
        refine i_between h0 ?_
        k_offL
        refine ifB (fun e => ?_) (fun e => ?_)
        · k_offL
          refine dputk hb1 (ok.lbl dB) fun H2 e2 f2 => ?_
          k_offL
          refine tupk (by show 3 ≤ 100000; decide) fun t H' n3 et ft => ?_
          exact yes (by show (N.del i).readL _ = _; simp only [NS.readL]; rw [show (N.del i).b v = some b from hbv]; exact if_pos e) H2 t H' e2 f2 et ft
        · k_offL
          refine tupk (by show 3 ≤ 100000; decide) fun t H' n3 et ft => ?_
          exact kept v (by show (N.del i).readL _ = _; simp only [NS.readL]; rw [show (N.del i).b v = some b from hbv]; exact if_neg (by rw [show btw (N.del i).size b u v = false from e]; decide)) t H' et ft
    | ask v u =>
      refine r_ixT (sqT_of hT1) (v := .int v) rfl ?_
      k_offL
      refine r_ixT (sqT_of hT1) (v := .int u) rfl ?_
      k_offL
      refine dg1a (.inl hb1) ?_
      k_offL
      refine dg1b (.inl hb1) ?_
      have hv : v ∈ N.hs := hm v (by simp [LT.pl])
      have eb : (valV kb (Sum.inl v)).getD V.non = oV (N.b v) := by
        rw [dB.val]; unfold NS.lb; cases N.b v <;> rfl
      rw [eb]
      k_offL
      refine r_ixT (sqT_of hT1) (v := .str "ask") rfl ?_
      k_offL
      refine ifDF (by decide +kernel) ?_
      k_offL
      refine r_ixT (sqT_of hT1) (v := .str "ask") rfl ?_
      k_offL
      refine ifDT rfl ?_
      cases hbv : N.b v with
      | none =>
        k_offL
        refine ifNF rfl ?_
        k_offL
        refine tupk (by show 3 ≤ 100000; decide) fun t H' n3 et ft => ?_
        exact kept v (by show (N.del i).readL _ = _; simp only [NS.readL]; rw [show (N.del i).b v = none from hbv]) t H' et ft
      | some b =>
        k_offL
        refine ifNT (fun z => nomatch z) ?_
        k_offL
        refine tupk (by show 4 ≤ 100000; decide) fun t2 H2 n2 e2 f2 => ?_
        k_offL
        refine r_app (xs := lv.eraseIdx i) (by k_clsL) (by rw [ls1.len]; have := ok1.pl; omega) fun H3 e3 f3 => ?_
        k_offL
        refine tupk (by show 3 ≤ 100000; decide) fun t H' n4 et ft => ?_
        have er : N.read i (.ask v u) = ((N.del i).push (.ans u v b), [.str "wrote", .int v, .int b]) := by
          show (N.del i).readL _ = _; simp only [NS.readL]; rw [show (N.del i).b v = some b from hbv]
        rw [er] at k
        exact k t H' et ⟨⟨kn, by k_clsL, dN⟩, ⟨kb, by k_clsL, dB⟩, ⟨_, by k_clsL, (ls1.fr ((f2.up.trans f3).trans ft.up)).snoc (ft.tp _ _ (f3.tp _ _ e2))⟩, ne⟩ ((((f1.mono m3).trans f2.up).trans (f3.mono m3)).trans ft.up)
    | ans u v x =>
      refine r_ixT (sqT_of hT1) (v := .int u) rfl ?_
      k_offL
      refine r_ixT (sqT_of hT1) (v := .int v) rfl ?_
      k_offL
      refine dg1a (.inl hb1) ?_
      k_offL
      refine dg1b (.inl hb1) ?_
      have hu : u ∈ N.hs := hm u (by simp [LT.pl])
      k_offL
      refine r_ixT (sqT_of hT1) (v := .str "answer") rfl ?_
      k_offL
      refine ifDF (by decide +kernel) ?_
      k_offL
      refine r_ixT (sqT_of hT1) (v := .str "answer") rfl ?_
      k_offL
      refine ifDF (by decide +kernel) ?_
      k_offL
      refine dgetk (.inl hn1) (by rw [dN.val, NS.mf_at hu]) ?_
      k_offL
      have no : ¬ (N.f u = v ∧ btw N.size u x v = true) → N.read i (.ans u v x) = (N.del i, [.str "kept", .int u, .non]) := fun z => if_neg z
      refine ifD (fun e => ?_) (fun e => ?_)
      · k_offL
        refine r_ixT (sqT_of hT1) (v := .int x) rfl ?_
        k_offL
        refine i_between h0 ?_
        k_offL
        refine ifB (fun e2 => ?_) (fun e2 => ?_)
        · k_offL
          refine r_ixT (sqT_of hT1) (v := .int x) rfl ?_
          k_offL
          refine dputk hn1 (ok.knl dN) fun H2 e3 f3 => ?_
          k_offL
          refine r_ixT (sqT_of (f3.tp _ _ hT1)) (v := .int x) rfl ?_
          k_offL
          refine tupk (by show 3 ≤ 100000; decide) fun t H' n4 et ft => ?_
          have er : N.read i (.ans u v x) = ((N.del i).setF u x, [.str "next", .int u, .int x]) := if_pos ⟨e, e2⟩
          rw [er] at k
          exact k t H' et ⟨⟨_, by k_clsL, dN.put.cong fun h => (N.del i).mf_setF u x hu h⟩, ⟨kb, by k_clsL, dB⟩, ⟨_, by k_clsL, ls1.fr (f3.trans ft.up)⟩, ne⟩ (((f1.mono m3).trans (f3.mono m1)).trans ft.up)
        · k_offL
          refine tupk (by show 3 ≤ 100000; decide) fun t H' n4 et ft => ?_
          exact kept u (no fun z => by rw [z.2] at e2; cases e2) t H' et ft
      · k_offL
        refine tupk (by show 3 ≤ 100000; decide) fun t H' n4 et ft => ?_
        exact kept u (no fun z => e z.1) t H' et ft
end
end RL
set_option synthInstance.maxHeartbeats 4000000
set_option synthInstance.maxSize 4000
namespace RL
inductive Fits : Nat → D → Prop where
  | non {n : Nat} : Fits n .non
  | bl {n : Nat} {b : Bool} : Fits n (.bl b)
  | int {n : Nat} {i : Int} : Fits n (.int i)
  | str {n : Nat} {s : Str} : Fits n (.str s)
  | tup {n : Nat} {ds : List D} (h : ∀ d ∈ ds, Fits n d) (l : ds.length ≤ 100000) : Fits (n + 1) (.tup ds)
  | lst {n : Nat} {ds : List D} (h : ∀ d ∈ ds, Fits n d) (l : ds.length ≤ 100000) : Fits (n + 1) (.lst ds)
  | dct {n : Nat} {kvs : List (Int × Int)} (l : kvs.length ≤ 100000) : Fits (n + 3) (.dct kvs)
theorem Fits.up {n m : Nat} {d : D} (h : Fits n d) (q : n ≤ m) : Fits m d := by
  induction h generalizing m with
  | non => exact .non
  | bl => exact .bl
  | int => exact .int
  | str => exact .str
  | tup h l ih => obtain ⟨k, rfl⟩ : ∃ k, m = k + 1 := ⟨m - 1, by omega⟩; exact .tup (fun d hd => ih d hd (by omega)) l
  | lst h l ih => obtain ⟨k, rfl⟩ : ∃ k, m = k + 1 := ⟨m - 1, by omega⟩; exact .lst (fun d hd => ih d hd (by omega)) l
  | dct l => obtain ⟨k, rfl⟩ : ∃ k, m = k + 3 := ⟨m - 3, by omega⟩; exact .dct l
theorem Fits.ofV (v : V) : Fits 0 (ofV v) := by cases v <;> constructor
def flatD (vs : List V) : D := .tup (vs.map ofV)
theorem Fits.flat {vs : List V} (h : vs.length ≤ 100000) : Fits 1 (flatD vs) := .tup (fun d hd => by obtain ⟨v, _, e⟩ := List.mem_map.mp hd; exact e ▸ Fits.ofV v) (by rw [List.length_map]; exact h)
theorem Rep.flat {H : Hp} {t : Addr} {vs : List V} (h : H t = some (.tup vs)) (f : vs.all flatR = true) : Rep H (flatD vs) (.ref t) := ⟨t, vs, rfl, h, ofVs_rep f⟩
def spSame : Nat → Sp
  | 0 => fun _ _ _ _ => False
  | n + 1 => fun vs H Q _ => ∃ (a b : V) (d : D), vs = [a, b] ∧ Rep H d a ∧ Rep H d b ∧ Fits n d ∧ ∀ H', Fr [] H H' → Q (.bl true) H'
theorem items_rep {H' : Hp} : ∀ {kvs : List (Int × Int)} {ts : List Addr}, Paired (fun (t : Addr) (q : Key × V) => H' t = some (.tup [kV q.1, q.2])) ts (kvs.map fun p => ((Sum.inl p.1 : Key), V.int p.2)) → RepL H' (kvs.map fun p => .tup [.int p.1, .int p.2]) (ts.map V.ref)
  | [], [], _ => rfl
  | p :: r, t :: ts, h => by
    cases h with
    | cons h1 h2 => exact ⟨_, _, rfl, ⟨t, _, rfl, h1, _, _, rfl, rfl, _, _, rfl, rfl, rfl⟩, items_rep h2⟩
theorem fr_all {H H' : Hp} (h : ∀ b o, H b = some o → H' b = some o) : Fr [] H H' := ⟨fun a o e _ => h a o e, fun t xs e => h _ _ e, fun t u w e => h _ _ e⟩
theorem r_ixS {K : PySem.W.Frag} {H : Hp} {Q : VK} {v : V} {p : Addr} {xs : List V} {i : Int} (h : Sq K H p xs) (ha : atI xs i = some v) (q : Q v H) : rIx K (.ref p) (.int i) H Q := by
  rcases h with h | h
  · exact .inl ⟨p, xs, i, v, rfl, rfl, h, ha, q⟩
  · exact .inr (.inl ⟨p, xs, i, v, rfl, rfl, h, ha, q⟩)
theorem r_lenS {K : PySem.W.Frag} {H : Hp} {Q : VK} {p : Addr} {xs : List V} (h : Sq K H p xs) (q : Q (.int xs.length) H) : rLenS K [.ref p] H Q := ⟨p, xs, rfl, h, q⟩
def ItK (x : V) (Q : VK) (H : Hp) : Prop := rItemsL x H Q
theorem x_items {te : TE} {σ : L2.St} {H : Hp} {Q : VK} (h : te σ H fun x H1 => ItK x Q H1) : tListItems te σ H Q := h
section
variable {P : Program} {w : World} {K : PySem.W.Frag} {mg : Str → Option Value} {base : Heap} {CNet CMender CDesk CStore CWalk : Addr}
abbrev s__law_same : Stmt := top 45
theorem sc__law_same : FnScope ["actual", "due", "k"] ["actual", "due"] (defScope s__law_same) := ⟨rfl, rfl, rfl, by decide +kernel, rfl, by decide +kernel, by decide +kernel⟩
theorem ok__law_same {f : Addr} {fd : FuncData} (F : Fun K "_law_same" "_law_same" s__law_same f fd) (m_isinstance : mg "isinstance" = none) (m_int : mg "int" = none) (m_bool : mg "bool" = none) (m_str : mg "str" = none) (m_dict : mg "dict" = none) (m_list : mg "list" = none) (m_tuple : mg "tuple" = none) (m_len : mg "len" = none) (m_range : mg "range" = none) (G0 : ∀ n, FnOk P w K mg base CX0 (n + 1) f fd ["actual", "due"] (spSame n) → GF P w K mg base "_law_same" (n + 1) ["actual", "due"] (spSame n)) : ∀ n, FnOk P w K mg base CX0 (n + 1) f fd ["actual", "due"] (spSame n)
  | 0 => F.ok sc__law_same (fun vs H Q E h => h.elim) (fun cdv A outer s H vs Q E hr h => h.elim)
  | n + 1 => by
    have G__law_same := G0 n (ok__law_same F m_isinstance m_int m_bool m_str m_dict m_list m_tuple m_len m_range G0 n)
    refine F.ok sc__law_same (fun vs H Q E h => by obtain ⟨_, _, _, rfl, _⟩ := h; rfl) (fun cdv A outer s H vs Q E hr h => ?_)
    obtain ⟨a, b, d, rfl, ra, rb, fit, k⟩ := h
    refine ⟨_, (pss_cons (ps_if (pt_cmpR op_isNn (pv 1) pe_non (nomark _)) (pss_one (ps_ret (pe_cmpR op_isNn (pv 0) pe_non (nomark _)))) pss_nil)
      (pss_cons (ps_if (pt_cmpR op_isB (pv 1) pe_bl (nomark _)) (pss_one (ps_ret (pe_cmpR op_isB (pv 0) pe_bl (nomark _)))) pss_nil)
      (pss_cons (ps_if (pt_cmpR op_isB (pv 1) pe_bl (nomark _)) (pss_one (ps_ret (pe_cmpR op_isB (pv 0) pe_bl (nomark _)))) pss_nil)
      (pss_cons (ps_if (pt_val (pe_callB (cb_isiK (K := K) rfl) (by rfl) m_isinstance b_isinstance (pa_cons (pv 1) (pa_cons (pe_ty m_int b_int) pa_nil)))) (pss_one (ps_ret (pe_and (pe_callB (cb_isiK (K := K) rfl) (by rfl) m_isinstance b_isinstance (pa_cons (pv 0) (pa_cons (pe_ty m_int b_int) pa_nil))) (pe_and (pe_not (pe_callB (cb_isiK (K := K) rfl) (by rfl) m_isinstance b_isinstance (pa_cons (pv 0) (pa_cons (pe_ty m_bool b_bool) pa_nil)))) (pe_one (pe_cmpR op_eq (pv 0) (pv 1) (nomark _))))))) pss_nil)
      (pss_cons (ps_if (pt_val (pe_callB (cb_isiK (K := K) rfl) (by rfl) m_isinstance b_isinstance (pa_cons (pv 1) (pa_cons (pe_ty m_str b_str) pa_nil)))) (pss_one (ps_ret (pe_and (pe_callB (cb_isiK (K := K) rfl) (by rfl) m_isinstance b_isinstance (pa_cons (pv 0) (pa_cons (pe_ty m_str b_str) pa_nil))) (pe_one (pe_cmpR op_eq (pv 0) (pv 1) (nomark _)))))) pss_nil)
      (pss_cons (ps_if (pt_val (pe_callB (cb_isiK (K := K) rfl) (by rfl) m_isinstance b_isinstance (pa_cons (pv 1) (pa_cons (pe_ty m_dict b_dict) pa_nil)))) (pss_one (ps_ret (pe_and (pe_callB (cb_isiK (K := K) rfl) (by rfl) m_isinstance b_isinstance (pa_cons (pv 0) (pa_cons (pe_ty m_dict b_dict) pa_nil))) (pe_one (c_fn G__law_same (hr.mono (Nat.le_refl _)) (pa_cons (pe_listItems rfl (pv 0) (by rfl) m_list b_list) (pa_cons (pe_listItems rfl (pv 1) (by rfl) m_list b_list) pa_nil))))))) pss_nil)
      (pss_cons (ps_if (PW.pt (pw_and (pt_val (pe_callB (cb_isiK (K := K) rfl) (by rfl) m_isinstance b_isinstance (pa_cons (pv 1) (pa_cons (pe_ty m_tuple b_tuple) pa_nil)))) (pw_and1 (pt_not (pt_val (pe_callB (cb_isiK (K := K) rfl) (by rfl) m_isinstance b_isinstance (pa_cons (pv 0) (pa_cons (pe_ty m_tuple b_tuple) pa_nil)))))))) (pss_one (ps_ret pe_bl)) pss_nil)
      (pss_cons (ps_if (PW.pt (pw_and (pt_val (pe_callB (cb_isiK (K := K) rfl) (by rfl) m_isinstance b_isinstance (pa_cons (pv 1) (pa_cons (pe_ty m_list b_list) pa_nil)))) (pw_and1 (pt_not (pt_val (pe_callB (cb_isiK (K := K) rfl) (by rfl) m_isinstance b_isinstance (pa_cons (pv 0) (pa_cons (pe_ty m_list b_list) pa_nil)))))))) (pss_one (ps_ret pe_bl)) pss_nil)
      (pss_cons (ps_if (pt_cmpR op_ne (pe_callB (cb_lenSK (K := K) rfl) (by rfl) m_len b_len (pa_cons (pv 0) pa_nil)) (pe_callB (cb_lenSK (K := K) rfl) (by rfl) m_len b_len (pa_cons (pv 1) pa_nil)) (nomark _)) (pss_one (ps_ret pe_bl)) pss_nil)
      (pss_cons (ps_for PassesOwn.never rfl (pi_range1 (by rfl) m_range (pa_cons (pe_callB (cb_lenSK (K := K) rfl) (by rfl) m_len b_len (pa_cons (pv 1) pa_nil)) pa_nil)) (pg_name (i := 2) sc__law_same.nd rfl (Or.inl rfl))
      (pss_one (ps_if (pt_not (pt_val (c_fn G__law_same (hr.mono (Nat.le_refl _)) (pa_cons (pe_ix (ix_seqK (K := K) rfl) (pv 0) (pv 2) (by intro _ _; rfl)) (pa_cons (pe_ix (ix_seqK (K := K) rfl) (pv 1) (pv 2) (by intro _ _; rfl)) pa_nil))))) (pss_one (ps_ret pe_bl)) pss_nil)))
      (pss_one (ps_ret pe_bl)))))))))))), ?_⟩
    (try simp only [cxK, cxKX, List.map])
    refine ent (σ' := [some _, some _, none]) rfl ?_
    have k0 := k H (Fr.refl _ _)
    have isd : ∀ {x : V} {c : Bool}, x ≠ .bl c → decide (x = .bl c) = false := fun h => decide_eq_false h
    cases d with
    | non =>
      obtain rfl : a = .non := ra
      obtain rfl : b = .non := rb
      k_offL
      refine ifDT rfl ?_
      k_offL
      exact k0
    | bl c =>
      obtain rfl : a = .bl c := ra
      obtain rfl : b = .bl c := rb
      k_offL
      refine ifDF (fun z => nomatch z) ?_
      k_offL
      cases c with
      | true =>
        refine ifDT rfl ?_
        k_offL
        exact k0
      | false =>
        refine ifDF (fun z => nomatch z) ?_
        k_offL
        refine ifDT rfl ?_
        k_offL
        exact k0
    | int i =>
      obtain rfl : a = .int i := ra
      obtain rfl : b = .int i := rb
      have ty : TyX K H (.int i) (.type "int") := .base (.int i)
      k_offL
      refine ifDF (fun z => nomatch z) ?_
      k_offL
      refine ifDF (fun z => nomatch z) ?_
      k_offL
      refine ifDF (fun z => nomatch z) ?_
      k_offL
      refine r_isi ty (b := true) (by decide +kernel) ?_
      k_offL
      refine r_isi ty (b := true) (by decide +kernel) ?_
      k_offL
      refine r_isi ty (b := false) (by decide +kernel) ?_
      k_offL
      rw [show decide (i = i) = true from decide_eq_true rfl]
      exact k0
    | str i =>
      obtain rfl : a = .str i := ra
      obtain rfl : b = .str i := rb
      have ty : TyX K H (.str i) (.type "str") := .base (.str i)
      k_offL
      refine ifDF (fun z => nomatch z) ?_
      k_offL
      refine ifDF (fun z => nomatch z) ?_
      k_offL
      refine ifDF (fun z => nomatch z) ?_
      k_offL
      refine r_isi ty (b := false) (by decide +kernel) ?_
      k_offL
      refine r_isi ty (b := true) (by decide +kernel) ?_
      k_offL
      refine r_isi ty (b := true) (by decide +kernel) ?_
      k_offL
      rw [show decide (i = i) = true from decide_eq_true rfl]
      exact k0
    | dct kvs =>
      obtain ⟨a, rfl, ha⟩ := ra
      obtain ⟨b, rfl, hb⟩ := rb
      have tya : TyX K H (.ref a) (.type "dict") := .base (.dK ha)
      have ty : TyX K H (.ref b) (.type "dict") := .base (.dK hb)
      k_offL
      refine ifDF (fun z => nomatch z) ?_
      k_offL
      refine ifDF (fun z => nomatch z) ?_
      k_offL
      refine ifDF (fun z => nomatch z) ?_
      k_offL
      refine r_isi ty (b := false) (by decide +kernel) ?_
      k_offL
      refine r_isi ty (b := false) (by decide +kernel) ?_
      k_offL
      refine r_isi ty (b := true) (by decide +kernel) ?_
      k_offL
      refine r_isi tya (b := true) (by decide +kernel) ?_
      k_offL
      refine x_items ?_
      k_offL
      refine ⟨a, _, rfl, ha, fun H1 p ts g n1 n2 n3 e1 e2 => ?_⟩
      have f1 := fr_all g
      k_offL
      refine x_items ?_
      k_offL
      refine ⟨b, _, rfl, g _ _ hb, fun H2 p2 ts2 g2 m1 m2 m3 e3 e4 => ?_⟩
      have f2 := fr_all g2
      k_offL
      cases fit with
      | dct hl =>
        rename_i n
        refine ⟨_, _, .lst (kvs.map fun p => .tup [.int p.1, .int p.2]), rfl, ⟨p, _, rfl, g2 _ _ e1, RepL.fr0 f2 _ _ (items_rep e2)⟩, ⟨p2, _, rfl, e3, items_rep e4⟩, .lst (n := n + 1) (fun d hd => ?_) (by rw [List.length_map]; exact hl), fun H' f => k H' ((f1.trans f2).trans f)⟩
        obtain ⟨q, _, e⟩ := List.mem_map.mp hd
        subst e
        exact .tup (fun d hd => by simp at hd; rcases hd with e | e <;> (subst e; exact .int)) (show 2 ≤ 100000 by decide)
    | tup ds =>
      obtain ⟨a, va, rfl, ha, la⟩ := ra
      obtain ⟨b, vb, rfl, hb, lb⟩ := rb
      have tya : TyX K H (.ref a) (.type "tuple") := .base (.tup ha)
      have ty : TyX K H (.ref b) (.type "tuple") := .base (.tup hb)
      k_offL
      refine ifDF (fun z => nomatch z) ?_
      k_offL
      refine ifDF (fun z => nomatch z) ?_
      k_offL
      refine ifDF (fun z => nomatch z) ?_
      k_offL
      refine r_isi ty (b := false) (by decide +kernel) ?_
      k_offL
      refine r_isi ty (b := false) (by decide +kernel) ?_
      k_offL
      refine r_isi ty (b := false) (by decide +kernel) ?_
      k_offL
      refine r_isi ty (b := true) (by decide +kernel) ?_
      k_offL
      refine r_isi tya (b := true) (by decide +kernel) ?_
      k_offL
      refine r_isi ty (b := false) (by decide +kernel) ?_
      k_offL
      refine r_lenS (.inr (sqT_of ha)) ?_
      k_offL
      refine r_lenS (.inr (sqT_of hb)) ?_
      k_offL
      refine ifNF (by rw [la.len, lb.len]) ?_
      k_offL
      refine r_lenS (.inr (sqT_of hb)) ?_
      cases fit with
      | tup hf hl =>
        rename_i n
        refine loopR1 _ (by rw [lb.len]; omega) (by omega) (fun i σ' H' => (∃ v, σ' = [some (.ref a), some (.ref b), v]) ∧ Fr [] H H') ⟨⟨_, rfl⟩, Fr.refl _ _⟩ ?_ ?_
        · rintro i σ' H1 hi ⟨⟨v, rfl⟩, f1⟩
          have hi' : i < ds.length := by rw [lb.len] at hi; omega
          have hd := List.getElem?_eq_getElem hi'
          obtain ⟨x, hx, rx⟩ := la.get hd
          obtain ⟨y, hy, ry⟩ := lb.get hd
          k_offL
          refine r_ixS (.inr (sqT_of (f1.tp _ _ ha))) (atI_nat hx) ?_
          k_offL
          refine r_ixS (.inr (sqT_of (f1.tp _ _ hb))) (atI_nat hy) ?_
          k_offL
          refine ⟨x, y, ds[i], rfl, Rep.fr0 f1 _ _ rx, Rep.fr0 f1 _ _ ry, hf _ (List.getElem_mem hi'), fun H2 f2 => ?_⟩
          k_offL
          exact ⟨⟨_, rfl⟩, f1.trans f2⟩
        · rintro σ' H1 ⟨⟨v, rfl⟩, f1⟩
          k_offL
          exact k H1 f1
    | lst ds =>
      obtain ⟨a, va, rfl, ha, la⟩ := ra
      obtain ⟨b, vb, rfl, hb, lb⟩ := rb
      have tya : TyX K H (.ref a) (.type "list") := .base (.lst ha)
      have ty : TyX K H (.ref b) (.type "list") := .base (.lst hb)
      k_offL
      refine ifDF (fun z => nomatch z) ?_
      k_offL
      refine ifDF (fun z => nomatch z) ?_
      k_offL
      refine ifDF (fun z => nomatch z) ?_
      k_offL
      refine r_isi ty (b := false) (by decide +kernel) ?_
      k_offL
      refine r_isi ty (b := false) (by decide +kernel) ?_
      k_offL
      refine r_isi ty (b := false) (by decide +kernel) ?_
      k_offL
      refine r_isi ty (b := false) (by decide +kernel) ?_
      k_offL
      refine r_isi ty (b := true) (by decide +kernel) ?_
      k_offL
      refine r_isi tya (b := true) (by decide +kernel) ?_
      k_offL
      refine r_lenS (.inl (sqL_of ha)) ?_
      k_offL
      refine r_lenS (.inl (sqL_of hb)) ?_
      k_offL
      refine ifNF (by rw [la.len, lb.len]) ?_
      k_offL
      refine r_lenS (.inl (sqL_of hb)) ?_
      cases fit with
      | lst hf hl =>
        rename_i n
        refine loopR1 _ (by rw [lb.len]; omega) (by omega) (fun i σ' H' => (∃ v, σ' = [some (.ref a), some (.ref b), v]) ∧ Fr [] H H') ⟨⟨_, rfl⟩, Fr.refl _ _⟩ ?_ ?_
        · rintro i σ' H1 hi ⟨⟨v, rfl⟩, f1⟩
          have hi' : i < ds.length := by rw [lb.len] at hi; omega
          have hd := List.getElem?_eq_getElem hi'
          obtain ⟨x, hx, rx⟩ := la.get hd
          obtain ⟨y, hy, ry⟩ := lb.get hd
          k_offL
          refine r_ixS (.inl (sqL_of (f1.at_ _ _ ha List.not_mem_nil))) (atI_nat hx) ?_
          k_offL
          refine r_ixS (.inl (sqL_of (f1.at_ _ _ hb List.not_mem_nil))) (atI_nat hy) ?_
          k_offL
          refine ⟨x, y, ds[i], rfl, Rep.fr0 f1 _ _ rx, Rep.fr0 f1 _ _ ry, hf _ (List.getElem_mem hi'), fun H2 f2 => ?_⟩
          k_offL
          exact ⟨⟨_, rfl⟩, f1.trans f2⟩
        · rintro σ' H1 ⟨⟨v, rfl⟩, f1⟩
          k_offL
          exact k H1 f1
end
end RL
set_option synthInstance.maxHeartbeats 4000000
set_option synthInstance.maxSize 4000
namespace RL
theorem Ans.hit {size : Int} {f : Int → Int} {a d e : Int} {j : Nat} (h0 : 0 < size) (hd : 0 < d) (x : Ans size f a d j) : Tr size f a e d ↔ wl size f j a = d ∧ it f j a = e := by
  constructor
  · rintro ⟨n, n1, e1, e2⟩
    have : j = n := Ans.uniq h0 x ⟨by omega, fun i hi => by have := wl_lt (f := f) (h := a) h0 hi; omega⟩
    subst this
    exact ⟨e2, e1⟩
  · rintro ⟨e1, e2⟩
    refine ⟨j, ?_, e2, e1⟩
    cases j with
    | zero => have : (0 : Int) = d := e1; omega
    | succ j => omega
theorem NxAt.get {H : Hp} {a : Addr} {hs : List Int} {f : Int → Int} {x : Int} {Q : VK} (N : NxAt H a hs f) (m : x ∈ hs) (q : Q (.int (f x)) H) : DGetK (.ref a) (.int x) Q H := by
  obtain ⟨kvs, rd, dk, _⟩ := N.ex
  exact dgetk rd (by rw [dk.val, mfOf_at m]) q
theorem NxAt.ex0 {H H' : Hp} {a : Addr} {hs : List Int} {f : Int → Int} (x : NxAt H a hs f) (g : Fr [] H H') : NxAt H' a hs f := x.fr g List.not_mem_nil
theorem NS.nxAt {N : NS} (ok : N.Ok) {H : Hp} {a : Addr} {kvs : List (Key × V)} (h : H a = some (.dK kvs)) (d : DOk kvs N.mf) : NxAt H a N.hs N.f := .mk' (.inl h) d ok.nd ok.fh
theorem far_b {size s e : Int} (h : 0 < size) (h2 : size < 2 ^ 40) : 0 < far size s e ∧ far size s e < 2 ^ 40 := by have := far_pos (s := s) (e := e) h; omega
def spCheckHouse : Sp := fun vs H Q _ => ∃ (a : Addr) (kvs : List (Key × V)) (h : Int), vs = [.ref a, .int h] ∧ Rd H a (.dK kvs) ∧ (valV kvs (.inl h)).isSome = true ∧ Q .non H
section
variable {P : Program} {w : World} {K : PySem.W.Frag} {mg : Str → Option Value} {base : Heap} {CNet CMender CDesk CStore CWalk : Addr}
abbrev s_check_house : Stmt := top 11
theorem sc_check_house : FnScope ["nexts", "house"] ["nexts", "house"] (defScope s_check_house) := ⟨rfl, rfl, rfl, by decide +kernel, rfl, by decide +kernel, by decide +kernel⟩
theorem ok_check_house {f : Addr} {fd : FuncData} (F : Fun K "check_house" "check_house" s_check_house f fd) : FnOk P w K mg base CX0 1 f fd ["nexts", "house"] spCheckHouse := by
  refine F.ok sc_check_house (fun vs H Q E h => ?_) (fun cdv A outer s H vs Q E hr h => ?_)
  · obtain ⟨_, _, _, rfl, _⟩ := h; rfl
  · obtain ⟨a, kvs, x, rfl, ha, hm, k⟩ := h
    refine ⟨_, (pss_one (ps_if (pt_cmp (pc_dnotin (hu_of hr) (pv 1) (pv 0))) (pss_one ps_never) pss_nil)), ?_⟩
    (try simp only [cxK, cxKX, List.map])
    refine ent (σ' := [some _, some _]) rfl ?_
    k_offL
    refine dink ha ?_
    refine blk (ifE (show _ = false by rw [hm]; rfl) ?_)
    k_offL
    exact k
end
def spHouseAt (C : Addr) : Sp := fun vs H Q _ => ∃ (p da db dl : Addr) (N : NS) (h d : Int), vs = [.ref p, .int h, .int d] ∧ NetAt C H p da db dl N ∧ N.Ok ∧ h ∈ N.hs ∧ 0 < d ∧ d ≤ N.size ∧
  ∀ t H' j, Ans N.size N.f h d j → H' t = some (.tup [.int (it N.f j h), .int (wl N.size N.f j h)]) → Fr [] H H' → Q (.ref t) H'
theorem DOk.some' {kvs : List (Key × V)} {m : Int → Option V} (d : DOk kvs m) {h : Int} {v : V} (e : m h = some v) : (valV kvs (.inl h)).isSome = true := by rw [d.val, e]; rfl
section
variable {P : Program} {w : World} {K : PySem.W.Frag} {mg : Str → Option Value} {base : Heap} {CNet CMender CDesk CStore CWalk : Addr}
abbrev s_house_at : Stmt := top 13
theorem sc_house_at : FnScope ["net", "start", "distance", "nexts", "house", "length"] ["net", "start", "distance"] (defScope s_house_at) := ⟨rfl, rfl, rfl, by decide +kernel, rfl, by decide +kernel, by decide +kernel⟩
theorem ok_house_at {f : Addr} {fd : FuncData} (F : Fun K "house_at" "house_at" s_house_at f fd) (G_Net_nexts : GM P w K mg base CNet "nexts" 1 ["self"] (spNexts CNet)) (G_check_house : GF P w K mg base "check_house" 1 ["nexts", "house"] spCheckHouse) (G_far : GF P w K mg base "far" 1 ["size", "start", "end"] spFar) (T : NetT K CNet) : FnOk P w K mg base CX0 2 f fd ["net", "start", "distance"] (spHouseAt CNet) := by
  refine F.ok sc_house_at (fun vs H Q E h => ?_) (fun cdv A outer s H vs Q E hr h => ?_)
  · obtain ⟨_, _, _, _, _, _, _, rfl, _⟩ := h; rfl
  · obtain ⟨p, da, db, dl, N, x, d, rfl, hN, ok, hx, d0, d1, k⟩ := h
    refine ⟨_, (pss_cons (ps_set (i := 3) sc_house_at.nd rfl (Or.inl rfl) (c_mt0 G_Net_nexts (hr.mono (by decide)) (pv 0)))
      (pss_cons (ps_expr (c_fn G_check_house (hr.mono (by decide)) (pa_cons (pv 3) (pa_cons (pv 1) pa_nil))))
      (pss_cons (ps_set (i := 4) sc_house_at.nd rfl (Or.inl rfl) (pv 1))
      (pss_cons (ps_set (i := 5) sc_house_at.nd rfl (Or.inl rfl) pe_int)
      (pss_cons (ps_while PassesOwn.never (pt_cmpR op_lt (pv 5) (pv 2) (nomark _)) (pss_cons (ps_aug (i := 5) sc_house_at.nd rfl (Or.inl rfl) (c_fn G_far (hr.mono (by decide)) (pa_cons (pe_fldK (K := K) rfl (pv 0) (by rfl)) (pa_cons (pv 4) (pa_cons (pe_dget (hu_of hr) (pv 3) (pv 4) (by intro _ _; rfl)) pa_nil)))) ip_add)
      (pss_one (ps_set (i := 4) sc_house_at.nd rfl (Or.inl rfl) (pe_dget (hu_of hr) (pv 3) (pv 4) (by intro _ _; rfl))))))
      (pss_one (ps_ret (pe_tup (pa_cons (pv 4) (pa_cons (pv 5) pa_nil)))))))))), ?_⟩
    (try simp only [cxK, cxKX, List.map])
    refine ent (σ' := [some _, some _, some _, none, none, none]) rfl ?_
    obtain ⟨⟨dx, hp⟩, _⟩ := id hN
    have h0 := ok.s0
    have h1 := ok.s1
    k_offL
    refine ⟨p, da, db, dl, N, rfl, hN, ok, fun l H1 n1 e1 f1 => ?_⟩
    k_offL
    refine ⟨l, _, x, rfl, .inl e1, ok.dkn.some' (NS.mf_at hx), ?_⟩
    k_offL
    refine q_while (fun m σ' H' => ∃ j, m + j = N.hs.length ∧ σ' = [some (.ref p), some (.int x), some (.int d), some (.ref l), some (.int (it N.f j x)), some (.int (wl N.size N.f j x))] ∧ (∀ i, i < j → wl N.size N.f i x < d) ∧ Fr [] H1 H') N.hs.length ⟨0, rfl, rfl, fun i hi => absurd hi (by omega), Fr.refl _ _⟩ ?_
    rintro m σ' H2 ⟨j, hm, rfl, hj, f2⟩ Nx R kN kT kF
    have hp2 := f1.at_ _ _ hp List.not_mem_nil
    have hp3 := f2.at_ _ _ hp2 List.not_mem_nil
    have nx := NS.nxAt ok (f2.at_ _ _ e1 List.not_mem_nil) ok.dkn
    have hmj := it_mem (n := j) ok.fh hx
    k_offL
    by_cases e : wl N.size N.f j x < d
    · rw [decide_eq_true e]
      refine kT _ ?_
      k_offL
      refine nx.get hmj ?_
      k_offL
      refine i_far h0 ?_
      k_offL
      refine nx.get hmj ?_
      k_offL
      have hlt : j < N.hs.length := by
        apply Classical.byContradiction
        intro hc
        have := wl_turn (n := j) h0 ok.fh hx (by omega)
        omega
      refine kN (m - 1) _ _ (by omega) ⟨j + 1, by omega, ?_, fun i hi => ?_, f2⟩
      · rw [it_succ, wl_succ]
      · rcases Nat.lt_or_eq_of_le (Nat.le_of_lt_succ hi) with q | q
        · exact hj i q
        · rw [q]; exact e
    · rw [decide_eq_false e]
      refine kF _ ?_
      k_offL
      refine tupk (by show 2 ≤ 100000; decide) fun t H3 n3 e3 f3 => ?_
      exact k t H3 j ⟨by omega, hj⟩ e3 ((f1.trans f2).trans f3)
end
def spCheckLookUp (C : Addr) : Sp := fun vs H Q _ => ∃ (p da db dl : Addr) (N : NS) (h key : Int), vs = [.ref p, .int h, .int key] ∧ NetAt C H p da db dl N ∧ N.Ok ∧ h ∈ N.hs ∧ 0 ≤ key ∧ key < N.size ∧ ∀ H', Fr [] H H' → Q .non H'
section
variable {P : Program} {w : World} {K : PySem.W.Frag} {mg : Str → Option Value} {base : Heap} {CNet CMender CDesk CStore CWalk : Addr}
abbrev s_check_look_up : Stmt := top 17
theorem sc_check_look_up : FnScope ["net", "house", "key"] ["net", "house", "key"] (defScope s_check_look_up) := ⟨rfl, rfl, rfl, by decide +kernel, rfl, by decide +kernel, by decide +kernel⟩
theorem ok_check_look_up {f : Addr} {fd : FuncData} (F : Fun K "check_look_up" "check_look_up" s_check_look_up f fd) (G_Net_nexts : GM P w K mg base CNet "nexts" 1 ["self"] (spNexts CNet)) (T : NetT K CNet) : FnOk P w K mg base CX0 2 f fd ["net", "house", "key"] (spCheckLookUp CNet) := by
  refine F.ok sc_check_look_up (fun vs H Q E h => ?_) (fun cdv A outer s H vs Q E hr h => ?_)
  · obtain ⟨_, _, _, _, _, _, _, rfl, _⟩ := h; rfl
  · obtain ⟨p, da, db, dl, N, x, key, rfl, hN, ok, hx, k0, k1, k⟩ := h
    refine ⟨_, (pss_cons (ps_if (pt_cmp (pc_dnotin (hu_of hr) (pv 1) (c_mt0 G_Net_nexts (hr.mono (by decide)) (pv 0)))) (pss_one ps_never) pss_nil)
      (pss_one (ps_if (pt_not (pt_chain op_le op_lt pe_int (pv 2) (pe_fldK (K := K) rfl (pv 0) (by rfl)))) (pss_one ps_never) pss_nil))), ?_⟩
    (try simp only [cxK, cxKX, List.map])
    refine ent (σ' := [some _, some _, some _]) rfl ?_
    obtain ⟨⟨dx, hp⟩, _⟩ := id hN
    k_offL
    refine ⟨p, da, db, dl, N, rfl, hN, ok, fun l H1 n1 e1 f1 => ?_⟩
    refine dink (.inl e1) ?_
    refine blk (ifE (show _ = false by rw [ok.dkn.some' (NS.mf_at hx)]; rfl) ?_)
    k_offL
    refine ifDT k0 ?_
    have hp2 := f1.at_ _ _ hp List.not_mem_nil
    k_offL
    refine ifNF k1 ?_
    k_offL
    exact k H1 f1
end
def spAnswer (C : Addr) : Sp := fun vs H Q _ => ∃ (p da db dl : Addr) (N : NS) (h key : Int), vs = [.ref p, .int h, .int key] ∧ NetAt C H p da db dl N ∧ N.Ok ∧ h ∈ N.hs ∧ 0 ≤ key ∧ key < N.size ∧
  ∀ t H' j, Ans N.size N.f h (far N.size h key) j → H' t = some (.tup [.int (it N.f j h), .int (wl N.size N.f j h)]) → Fr [] H H' → Q (.ref t) H'
section
variable {P : Program} {w : World} {K : PySem.W.Frag} {mg : Str → Option Value} {base : Heap} {CNet CMender CDesk CStore CWalk : Addr}
abbrev s_answer : Stmt := top 18
theorem sc_answer : FnScope ["net", "house", "key"] ["net", "house", "key"] (defScope s_answer) := ⟨rfl, rfl, rfl, by decide +kernel, rfl, by decide +kernel, by decide +kernel⟩
theorem ok_answer {f : Addr} {fd : FuncData} (F : Fun K "answer" "answer" s_answer f fd) (G_check_look_up : GF P w K mg base "check_look_up" 2 ["net", "house", "key"] (spCheckLookUp CNet)) (G_house_at : GF P w K mg base "house_at" 2 ["net", "start", "distance"] (spHouseAt CNet)) (G_far : GF P w K mg base "far" 1 ["size", "start", "end"] spFar) (T : NetT K CNet) : FnOk P w K mg base CX0 3 f fd ["net", "house", "key"] (spAnswer CNet) := by
  refine F.ok sc_answer (fun vs H Q E h => ?_) (fun cdv A outer s H vs Q E hr h => ?_)
  · obtain ⟨_, _, _, _, _, _, _, rfl, _⟩ := h; rfl
  · obtain ⟨p, da, db, dl, N, x, key, rfl, hN, ok, hx, k0, k1, k⟩ := h
    refine ⟨_, (pss_cons (ps_expr (c_fn G_check_look_up (hr.mono (by decide)) (pa_cons (pv 0) (pa_cons (pv 1) (pa_cons (pv 2) pa_nil)))))
      (pss_one (ps_ret (c_fn G_house_at (hr.mono (by decide)) (pa_cons (pv 0) (pa_cons (pv 1) (pa_cons (c_fn G_far (hr.mono (by decide)) (pa_cons (pe_fldK (K := K) rfl (pv 0) (by rfl)) (pa_cons (pv 1) (pa_cons (pv 2) pa_nil)))) pa_nil))))))), ?_⟩
    (try simp only [cxK, cxKX, List.map])
    refine ent (σ' := [some _, some _, some _]) rfl ?_
    obtain ⟨⟨dx, hp⟩, _⟩ := id hN
    have h0 := ok.s0
    k_offL
    refine ⟨p, da, db, dl, N, x, key, rfl, hN, ok, hx, k0, k1, fun H1 f1 => ?_⟩
    have hp2 := f1.at_ _ _ hp List.not_mem_nil
    k_offL
    refine i_far h0 ?_
    k_offL
    exact ⟨p, da, db, dl, N, x, _, rfl, hN.ex f1, ok, hx, (far_pos h0).1, (far_pos h0).2, fun t H2 j a e f2 => k t H2 j a e (f1.trans f2)⟩
end
def spLawHolds : Sp := fun vs H Q _ => ∃ (size : Int) (a t : Addr) (hs : List Int) (f : Int → Int) (h e s : Int), vs = [.int size, .ref a, .ref t] ∧ NxAt H a hs f ∧ H t = some (.tup [.int h, .int e, .int s]) ∧ h ∈ hs ∧ hs.length ≤ 60 ∧ 0 < size ∧ size < 2 ^ 40 ∧ 0 < s ∧ s ≤ 4 * size ∧
  ∀ b H', (b = true ↔ Tr size f h e s) → Fr [] H H' → Q (.bl b) H'
section
variable {P : Program} {w : World} {K : PySem.W.Frag} {mg : Str → Option Value} {base : Heap} {CNet CMender CDesk CStore CWalk : Addr}
abbrev s__law_holds : Stmt := top 43
theorem sc__law_holds : FnScope ["size", "nexts", "saying", "at", "length", "k"] ["size", "nexts", "saying"] (defScope s__law_holds) := ⟨rfl, rfl, rfl, by decide +kernel, rfl, by decide +kernel, by decide +kernel⟩
theorem ok__law_holds {f : Addr} {fd : FuncData} (F : Fun K "_law_holds" "_law_holds" s__law_holds f fd) (m_range : mg "range" = none) (m_len : mg "len" = none) (G__law_far : GF P w K mg base "_law_far" 1 ["size", "start", "end"] spFar) : FnOk P w K mg base CX0 2 f fd ["size", "nexts", "saying"] spLawHolds := by
  refine F.ok sc__law_holds (fun vs H Q E h => ?_) (fun cdv A outer s H vs Q E hr h => ?_)
  · obtain ⟨_, _, _, _, _, _, _, _, rfl, _⟩ := h; rfl
  · obtain ⟨size, a, t, hs, f, x, e, s', rfl, N, ht, hx, hl, h0, h1, s0, s1, k⟩ := h
    refine ⟨_, (pss_cons (ps_set (i := 3) sc__law_holds.nd rfl (Or.inl rfl) (pe_ix (ix_tupK (K := K) rfl) (pv 2) pe_int (by intro _ _; rfl)))
      (pss_cons (ps_set (i := 4) sc__law_holds.nd rfl (Or.inl rfl) pe_int)
      (pss_cons (ps_for PassesOwn.never rfl (pi_range1 (by rfl) m_range (pa_cons (pe_op op_mul (pe_callB cb_lenD (by rfl) m_len b_len (pa_cons (pv 1) pa_nil)) (pe_op op_add (pe_op op_fdivW (pe_ix (ix_tupK (K := K) rfl) (pv 2) pe_int (by intro _ _; rfl)) (pv 0)) pe_int)) pa_nil)) (pg_name (i := 5) sc__law_holds.nd rfl (Or.inl rfl))
      (pss_cons (ps_if (pt_cmpR op_ge (pv 4) (pe_ix (ix_tupK (K := K) rfl) (pv 2) pe_int (by intro _ _; rfl)) (nomark _)) (pss_one ps_break) pss_nil)
      (pss_cons (ps_set (i := 4) sc__law_holds.nd rfl (Or.inl rfl) (pe_op op_add (pv 4) (c_fn G__law_far (hr.mono (by decide)) (pa_cons (pv 0) (pa_cons (pv 3) (pa_cons (pe_dget (hu_of hr) (pv 1) (pv 3) (by intro _ _; rfl)) pa_nil))))))
      (pss_one (ps_set (i := 3) sc__law_holds.nd rfl (Or.inl rfl) (pe_dget (hu_of hr) (pv 1) (pv 3) (by intro _ _; rfl)))))))
      (pss_one (ps_ret (pe_and (pe_cmpR op_eq (pv 4) (pe_ix (ix_tupK (K := K) rfl) (pv 2) pe_int (by intro _ _; rfl)) (nomark _)) (pe_one (pe_cmpR op_eq (pv 3) (pe_ix (ix_tupK (K := K) rfl) (pv 2) pe_int (by intro _ _; rfl)) (nomark _))))))))), ?_⟩
    (try simp only [cxK, cxKX, List.map])
    refine ent (σ' := [some _, some _, some _, none, none, none]) rfl ?_
    obtain ⟨kvs, rd, dk, hkl⟩ := N.ex
    k_offL
    refine r_ixT (sqT_of ht) (v := .int x) rfl ?_
    k_offL
    refine r_lenD rd ?_
    rw [hkl]
    k_offL
    refine r_ixT (sqT_of ht) (v := .int s') rfl ?_
    k_offL
    have q0 : 0 ≤ s' / size := Int.ediv_nonneg (by omega) (by omega)
    have q1 : s' / size ≤ 4 := Int.ediv_le_of_le_mul h0 (by omega)
    have q2 : s' < size * (s' / size + 1) := by
      have := Int.emod_lt_of_pos s' h0
      have := Int.mul_ediv_add_emod s' size
      rw [Int.mul_add]
      omega
    obtain ⟨q, hq⟩ : ∃ q : Nat, s' / size + 1 = (q : Int) := ⟨(s' / size + 1).toNat, by omega⟩
    have hq' : Int.fdiv s' size = s' / size := Int.fdiv_eq_ediv_of_nonneg _ (by omega)
    have ans : ∀ {j : Nat} {H' : Hp}, Ans size f x s' j → Fr [] H H' → (∀ b, (b = true ↔ wl size f j x = s' ∧ it f j x = e) → Q (.bl b) H') := fun A g b hb => k b _ (hb.trans (A.hit h0 s0).symm) g
    have hn : (hs.length : Int) * (s' / size + 1) = ((hs.length * q : Nat) : Int) := by rw [hq, Int.natCast_mul]
    have hq5 : q ≤ 5 := by omega
    have hn2 : hs.length * q ≤ 60 * 5 := Nat.mul_le_mul hl hq5
    rw [hn]
    refine loopR1 _ (by omega) (by omega) (fun i σ' H' => (∃ v, σ' = [some (.int size), some (.ref a), some (.ref t), some (.int (it f i x)), some (.int (wl size f i x)), v]) ∧ (∀ i', i' < i → wl size f i' x < s') ∧ Fr [] H H') ⟨⟨_, rfl⟩, fun i hi => absurd hi (by omega), Fr.refl _ _⟩ ?_ ?_
    · rintro i σ' H1 hi ⟨⟨v, rfl⟩, hj, f1⟩
      have N1 := N.ex0 f1
      have ht1 := f1.tp _ _ ht
      have hm := it_mem (n := i) N.cl hx
      k_offL
      refine r_ixT (sqT_of ht1) (v := .int s') rfl ?_
      k_offL
      refine ifD (fun e3 => ?_) (fun e3 => ?_)
      · k_offL
        refine r_ixT (sqT_of ht1) (v := .int s') rfl ?_
        k_offL
        refine ifD (fun e1 => ?_) (fun e1 => ?_)
        · k_offL
          refine r_ixT (sqT_of ht1) (v := .int e) rfl ?_
          k_offL
          exact ans ⟨by omega, hj⟩ f1 _ (by rw [decide_eq_true_iff]; exact ⟨fun z => ⟨e1, z⟩, fun z => z.2⟩)
        · k_offL
          exact ans ⟨by omega, hj⟩ f1 _ ⟨fun z => (nomatch z), fun z => absurd z.1 e1⟩
      · k_offL
        refine N1.get hm ?_
        k_offL
        refine i_far h0 ?_
        k_offL
        refine N1.get hm ?_
        k_offL
        refine ⟨⟨_, by rw [it_succ, wl_succ]⟩, fun i' hi' => ?_, f1⟩
        rcases Nat.lt_or_eq_of_le (Nat.le_of_lt_succ hi') with q | q
        · exact hj i' q
        · rw [q]; omega
    · rintro σ' H1 ⟨⟨v, rfl⟩, hj, f1⟩
      rw [show ((hs.length * q : Nat) : Int).toNat = hs.length * q by omega] at hj ⊢
      have a2 := wl_turns h0 N.cl hx q
      rw [hq] at q2
      have ht1 := f1.tp _ _ ht
      k_offL
      refine r_ixT (sqT_of ht1) (v := .int s') rfl ?_
      k_offL
      refine ifD (fun e1 => ?_) (fun e1 => ?_)
      · k_offL
        refine r_ixT (sqT_of ht1) (v := .int e) rfl ?_
        k_offL
        exact ans ⟨by omega, hj⟩ f1 _ (by rw [decide_eq_true_iff]; exact ⟨fun z => ⟨e1, z⟩, fun z => z.2⟩)
      · k_offL
        exact ans ⟨by omega, hj⟩ f1 _ ⟨fun z => (nomatch z), fun z => absurd z.1 e1⟩
end
end RL
set_option synthInstance.maxHeartbeats 4000000
set_option synthInstance.maxSize 4000
namespace RL
theorem pl2 {hs : List Int} {a b : Int} (ha : a ∈ hs) (hb : b ∈ hs) : ∀ y ∈ [a, b], y ∈ hs := fun y hy => by
  rcases List.mem_cons.mp hy with e | e
  · exact e ▸ ha
  · exact List.mem_singleton.mp e ▸ hb
theorem pl3 {hs : List Int} {a b c : Int} (ha : a ∈ hs) (hb : b ∈ hs) (hc : c ∈ hs) : ∀ y ∈ [a, b, c], y ∈ hs := fun y hy => by
  rcases List.mem_cons.mp hy with e | e
  · exact e ▸ ha
  · exact pl2 hb hc y e
section
variable {N N' N'' : NS} {l : LT} {u v x h : Int} {i : Nat}
theorem NS.Ok.push (ok : N.Ok) (h : ∀ x ∈ l.pl, x ∈ N.hs) (hl : N.post.length < 1000) : (N.push l).Ok :=
  ⟨ok.s0, ok.s1, ok.up, ok.on, ok.fh, ok.bh, fun m hm x hx => by
    rcases List.mem_append.mp hm with q | q
    · exact ok.ph m q x hx
    · rw [List.mem_singleton.mp q] at hx; exact h x hx, ok.hl, by show (N.post ++ [l]).length ≤ 1000; rw [List.length_append]; show _ + 1 ≤ _; omega⟩
theorem NS.Ok.setF (ok : N.Ok) (hu : u ∈ N.hs) (hx : x ∈ N.hs) : (N.setF u x).Ok :=
  ⟨ok.s0, ok.s1, ok.up, ok.on, fun h hh => by
    show (if h = u then x else N.f h) ∈ N.hs
    split
    · exact hx
    · exact ok.fh h hh, ok.bh, ok.ph, ok.hl, ok.pl⟩
theorem NS.Ok.setB (ok : N.Ok) (hu : u ∈ N.hs) (hx : x ∈ N.hs) : (N.setB u (some x)).Ok :=
  ⟨ok.s0, ok.s1, ok.up, ok.on, ok.fh, fun h y e => by
    have e' : (if h = u then some x else N.b h) = some y := e
    by_cases q : h = u
    · rw [if_pos q] at e'; cases e'; exact ⟨q ▸ hu, hx⟩
    · rw [if_neg q] at e'; exact ok.bh h y e', ok.ph, ok.hl, ok.pl⟩
theorem NS.Ok.readL (ok : N.Ok) (h : ∀ x ∈ l.pl, x ∈ N.hs) (hl : N.post.length < 1000) : (N.readL l).1.Ok := by
  cases l with
  | tell v u =>
    have hv := h v (by simp [LT.pl])
    have hu := h u (by simp [LT.pl])
    simp only [NS.readL]
    split
    · exact ok.setB hv hu
    · split
      · exact ok.setB hv hu
      · exact ok
  | ask v u =>
    have hv := h v (by simp [LT.pl])
    have hu := h u (by simp [LT.pl])
    simp only [NS.readL]
    split
    · exact ok
    · rename_i x e
      exact ok.push (pl3 hu hv (ok.bh v x e).2) hl
  | ans u v x =>
    have hu := h u (by simp [LT.pl])
    have hx := h x (by simp [LT.pl])
    simp only [NS.readL]
    split
    · exact ok.setF hu hx
    · exact ok
theorem readL_hs (N : NS) (l : LT) : (N.readL l).1.hs = N.hs ∧ (N.readL l).1.size = N.size := by
  cases l with
  | tell v u => simp only [NS.readL]; split <;> (try split) <;> exact ⟨rfl, rfl⟩
  | ask v u => simp only [NS.readL]; split <;> exact ⟨rfl, rfl⟩
  | ans u v x => simp only [NS.readL]; split <;> exact ⟨rfl, rfl⟩
theorem readL_len (N : NS) (l : LT) : (N.readL l).1.post.length ≤ N.post.length + 1 := by
  have e (m : LT) : (N.push m).post.length = N.post.length + 1 := by show (N.post ++ [m]).length = _; rw [List.length_append]; rfl
  cases l with
  | tell v u => simp only [NS.readL]; split <;> (try split) <;> exact Nat.le_succ _
  | ask v u =>
    simp only [NS.readL]; split
    · exact Nat.le_succ _
    · rw [e]; exact Nat.le_refl _
  | ans u v x => simp only [NS.readL]; split <;> exact Nat.le_succ _
theorem readL_vs (N : NS) (l : LT) : (N.readL l).2.length = 3 := by
  cases l with
  | tell v u => simp only [NS.readL]; split <;> (try split) <;> rfl
  | ask v u => simp only [NS.readL]; split <;> rfl
  | ans u v x => simp only [NS.readL]; split <;> rfl
theorem lt_len (l : LT) : l.vs.length ≤ 4 := by cases l <;> simp [LT.vs]
inductive Small : NS → NS → Prop where
  | tell (N : NS) (h : Int) (m : h ∈ N.hs) (q : N.post.length < 1000) : Small N (N.push (.tell (N.f h) h))
  | ask (N : NS) (h : Int) (m : h ∈ N.hs) (q : N.post.length < 1000) : Small N (N.push (.ask (N.f h) h))
  | dup (N : NS) (l : LT) (m : l ∈ N.post) (q : N.post.length < 1000) : Small N (N.push l)
  | del (N : NS) (i : Nat) : Small N (N.del i)
  | read (N : NS) (i : Nat) (l : LT) (m : N.post[i]? = some l) : Small N (N.read i l).1
inductive Steps : NS → NS → Prop where
  | refl (N : NS) : Steps N N
  | more {N N' N'' : NS} (a : Steps N N') (b : Small N' N'') : Steps N N''
theorem Steps.one (a : Small N N') : Steps N N' := .more (.refl N) a
theorem Steps.trans (a : Steps N N') (b : Steps N' N'') : Steps N N'' := by
  induction b with
  | refl => exact a
  | more _ c ih => exact .more ih c
theorem del_len (h : N.post[i]? = some l) : (N.del i).post.length + 1 = N.post.length := by
  have := (List.getElem?_eq_some_iff.mp h).1
  show (N.post.eraseIdx i).length + 1 = _
  rw [List.length_eraseIdx_of_lt this]
  omega
theorem read_len (h : N.post[i]? = some l) : (N.read i l).1.post.length ≤ N.post.length := by
  have := del_len h
  have := readL_len (N.del i) l
  show ((N.del i).readL l).1.post.length ≤ _
  omega
theorem Small.ok (s : Small N N') (ok : N.Ok) : N'.Ok := by
  cases s with
  | tell h m q => exact ok.push (pl2 (ok.fh h m) m) q
  | ask h m q => exact ok.push (pl2 (ok.fh h m) m) q
  | dup l m q => exact ok.push (ok.ph l m) q
  | del i => exact ok.del i
  | read i l m => exact (ok.del i).readL (ok.ph l (List.mem_of_getElem? m)) (by have := del_len m; have := ok.pl; omega)
theorem Small.same (s : Small N N') : N'.hs = N.hs ∧ N'.size = N.size := by
  cases s with
  | tell h m q => exact ⟨rfl, rfl⟩
  | ask h m q => exact ⟨rfl, rfl⟩
  | dup l m q => exact ⟨rfl, rfl⟩
  | del i => exact ⟨rfl, rfl⟩
  | read i l m => exact readL_hs (N.del i) l
theorem Steps.ok (s : Steps N N') (ok : N.Ok) : N'.Ok := by
  induction s with
  | refl => exact ok
  | more _ c ih => exact c.ok ih
theorem Steps.same (s : Steps N N') : N'.hs = N.hs ∧ N'.size = N.size := by
  induction s with
  | refl => exact ⟨rfl, rfl⟩
  | more _ c ih => exact ⟨c.same.1.trans ih.1, c.same.2.trans ih.2⟩
end
structure Ads where
  (p da db dl dn dk dp tp tc : Addr)
def Ads.all (A : Ads) : List Addr := [A.da, A.db, A.dl, A.dn, A.dk, A.dp, A.tp]
structure WW (C : Addr) (H : Hp) (A : Ads) (N M : NS) : Prop where
  net : NetAt C H A.p A.da A.db A.dl N
  tab : TabAt H A.dn A.dk A.dp M
  tape : TapeAt H A.tp A.tc
  nd : [A.p, A.da, A.db, A.dl, A.dn, A.dk, A.dp, A.tp, A.tc].Nodup
section
variable {C : Addr} {H H' H1 H2 : Hp} {A : Ads} {N M N' : NS} {l : LT} {t : Addr}
theorem WW.net' (w : WW C H A N M) (f : Fr [A.da, A.db, A.dl] H H') (h : NetAt C H' A.p A.da A.db A.dl N') : WW C H' A N' M := by
  have nd := w.nd
  simp only [List.nodup_cons, List.mem_cons, List.not_mem_nil, or_false, not_or] at nd
  obtain ⟨_, ⟨a1, a2, a3, a4, a5, a6, a7⟩, ⟨b1, b2, b3, b4, b5, b6⟩, ⟨c1, c2, c3, c4, c5⟩, _⟩ := nd
  exact ⟨h, w.tab.fr f (by simp [Ne.symm a3, Ne.symm b2, Ne.symm c1]) (by simp [Ne.symm a4, Ne.symm b3, Ne.symm c2]) (by simp [Ne.symm a5, Ne.symm b4, Ne.symm c3]), w.tape.fr f (by simp [Ne.symm a6, Ne.symm b5, Ne.symm c4]) (by simp [Ne.symm a7, Ne.symm b6, Ne.symm c5]), w.nd⟩
theorem WW.tab' (w : WW C H A N M) (f : Fr [A.dn, A.dk, A.dp] H H') (h : TabAt H' A.dn A.dk A.dp N') : WW C H' A N N' := by
  have nd := w.nd
  simp only [List.nodup_cons, List.mem_cons, List.not_mem_nil, or_false, not_or] at nd
  obtain ⟨⟨_, _, _, p4, p5, p6, _, _⟩, ⟨_, _, a3, a4, a5, _, _⟩, ⟨_, b2, b3, b4, _, _⟩, ⟨c1, c2, c3, _, _⟩, ⟨_, _, d3, d4⟩, ⟨_, e2, e3⟩, ⟨g1, g2⟩, _⟩ := nd
  exact ⟨w.net.fr f (by simp [p4, p5, p6]) (by simp [a3, a4, a5]) (by simp [b2, b3, b4]) (by simp [c1, c2, c3]), h, w.tape.fr f (by simp [Ne.symm d3, Ne.symm e2, Ne.symm g1]) (by simp [Ne.symm d4, Ne.symm e3, Ne.symm g2]), w.nd⟩
theorem WW.tape' (w : WW C H A N M) (f : Fr [A.tp] H H') (h : TapeAt H' A.tp A.tc) : WW C H' A N M := by
  have nd := w.nd
  simp only [List.nodup_cons, List.mem_cons, List.not_mem_nil, or_false, not_or] at nd
  obtain ⟨⟨_, _, _, _, _, _, p7, _⟩, ⟨_, _, _, _, _, a6, _⟩, ⟨_, _, _, _, b5, _⟩, ⟨_, _, _, c4, _⟩, ⟨_, _, d3, _⟩, ⟨_, e2, _⟩, ⟨g1, _⟩, _⟩ := nd
  exact ⟨w.net.fr f (by simp [p7]) (by simp [a6]) (by simp [b5]) (by simp [c4]), w.tab.fr f (by simp [d3]) (by simp [e2]) (by simp [g1]), h, w.nd⟩
theorem WW.ex0 (w : WW C H A N M) (f : Fr [] H H') : WW C H' A N M := ⟨w.net.ex f, w.tab.ex f, w.tape.ex0 f, w.nd⟩
theorem Fr.net (f : Fr [A.da, A.db, A.dl] H H') : Fr A.all H H' := f.mono fun a h => by simp at h; simp only [Ads.all, List.mem_cons]; rcases h with h | h | h <;> simp [h]
theorem Fr.tab (f : Fr [A.dn, A.dk, A.dp] H H') : Fr A.all H H' := f.mono fun a h => by simp at h; simp only [Ads.all, List.mem_cons]; rcases h with h | h | h <;> simp [h]
theorem Fr.tape (f : Fr [A.tp] H H') : Fr A.all H H' := f.mono fun a h => by simp at h; simp only [Ads.all, List.mem_cons]; simp [h]
theorem Fr.dl (f : Fr [A.dl] H H') : Fr [A.da, A.db, A.dl] H H' := f.mono fun a h => by simp at h; simp [h]
theorem Fr.dp (f : Fr [A.dp] H H') : Fr [A.dn, A.dk, A.dp] H H' := f.mono fun a h => by simp at h; simp [h]
theorem WW.ne (w : WW C H A N M) : A.dn ≠ A.dp ∧ A.dk ≠ A.dp ∧ A.dn ≠ A.tp ∧ A.dk ≠ A.tp ∧ A.dp ≠ A.tp := by
  have nd := w.nd
  simp only [List.nodup_cons, List.mem_cons, List.not_mem_nil, or_false, not_or] at nd
  obtain ⟨_, _, _, _, ⟨_, d2, d3, _⟩, ⟨e1, e2, _⟩, ⟨g1, _⟩, _⟩ := nd
  exact ⟨d2, e1, d3, e2, g1⟩
theorem TabAt.push {dn dk dp : Addr} {lv : List V} (T : TabAt H dn dk dp N) (hl : H dp = some (.lst lv)) (f1 : Fr [] H H1) (ht : H1 t = some (.tup l.vs)) (e2 : H2 dp = some (.lst (lv ++ [.ref t]))) (f2 : Fr [dp] H1 H2) (n1 : dn ≠ dp) (n2 : dk ≠ dp) : TabAt H2 dn dk dp (N.push l) := by
  obtain ⟨⟨kn, hn, dN⟩, ⟨kb, hb, dB⟩, ⟨lv', hl', ls⟩, ne⟩ := T
  rw [hl] at hl'
  cases hl'
  exact ⟨⟨kn, f2.at_ _ _ (f1.at_ _ _ hn List.not_mem_nil) (mem_one n1), dN⟩, ⟨kb, f2.at_ _ _ (f1.at_ _ _ hb List.not_mem_nil) (mem_one n2), dB⟩, ⟨_, e2, (ls.fr (f1.up.trans f2)).snoc (f2.tp _ _ ht)⟩, ne⟩
theorem TabAt.pop {dn dk dp : Addr} {lv : List V} {i : Nat} (T : TabAt H dn dk dp N) (hl : H dp = some (.lst lv)) (e2 : H2 dp = some (.lst (lv.eraseIdx i))) (f2 : Fr [dp] H H2) (n1 : dn ≠ dp) (n2 : dk ≠ dp) : TabAt H2 dn dk dp (N.del i) := by
  obtain ⟨⟨kn, hn, dN⟩, ⟨kb, hb, dB⟩, ⟨lv', hl', ls⟩, ne⟩ := T
  rw [hl] at hl'
  cases hl'
  exact ⟨⟨kn, f2.at_ _ _ hn (mem_one n1), dN⟩, ⟨kb, f2.at_ _ _ hb (mem_one n2), dB⟩, ⟨_, e2, (ls.fr f2).erase i⟩, ne⟩
end
theorem i_same {H : Hp} {Q : VK} {E : XK} {a b : V} {n : Nat} (d : D) (ha : Rep H d a) (hb : Rep H d b) (fit : Fits n d) (q : ∀ H', Fr [] H H' → Q (.bl true) H') : spSame (n + 1) [a, b] H Q E := ⟨a, b, d, rfl, ha, hb, fit, q⟩
theorem i_sameT {H : Hp} {Q : VK} {E : XK} {t1 t2 : Addr} {vs : List V} (ha : H t1 = some (.tup vs)) (hb : H t2 = some (.tup vs)) (fl : vs.all flatR = true) (hl : vs.length ≤ 100000) (q : ∀ H', Fr [] H H' → Q (.bl true) H') : spSame 4 [.ref t1, .ref t2] H Q E :=
  i_same (flatD vs) (Rep.flat ha fl) (Rep.flat hb fl) ((Fits.flat hl).up (by decide)) q
def spStands (C : Addr) : Sp := fun vs H Q _ => ∃ (p da db dl dn dk dp : Addr), ∃ N : NS, vs = [.ref p, .int N.size, .ref dn, .ref dk, .ref dp] ∧ NetAt C H p da db dl N ∧ TabAt H dn dk dp N ∧ N.Ok ∧ ∀ H', Fr [] H H' → Q (.bl true) H'
theorem snap_fits {N : NS} (ok : N.Ok) : Fits 3 N.snap := by
  have hl := ok.hl
  have pl := ok.pl
  refine .tup (fun d hd => ?_) (show 3 ≤ 100000 by decide)
  simp at hd
  rcases hd with e | e | e
  · subst e; exact .int
  · subst e
    refine .tup (fun d hd => ?_) (by unfold NS.rows; rw [List.length_map]; omega)
    obtain ⟨h, _, e⟩ := List.mem_map.mp hd
    subst e
    refine .tup (fun d hd => ?_) (show 3 ≤ 100000 by decide)
    simp at hd
    rcases hd with e | e | e
    · subst e; exact .int
    · subst e; exact .int
    · subst e; cases N.b h <;> constructor
  · subst e
    refine .tup (fun d hd => ?_) (by rw [List.length_map]; omega)
    obtain ⟨l, _, e⟩ := List.mem_map.mp hd
    subst e
    cases l with
    | tell r s => exact .tup (fun d hd => by simp at hd; rcases hd with e | e | e <;> (subst e; constructor)) (by simp)
    | ask r s => exact .tup (fun d hd => by simp at hd; rcases hd with e | e | e <;> (subst e; constructor)) (by simp)
    | ans r s n => exact .tup (fun d hd => by simp at hd; rcases hd with e | e | e | e <;> (subst e; constructor)) (by simp)
section
variable {P : Program} {w : World} {K : PySem.W.Frag} {mg : Str → Option Value} {base : Heap} {CNet CMender CDesk CStore CWalk : Addr}
abbrev s__law_stands : Stmt := top 47
theorem sc__law_stands : FnScope ["net", "size", "nexts", "behinds", "post", "rows", "house"] ["net", "size", "nexts", "behinds", "post"] (defScope s__law_stands) := ⟨rfl, rfl, rfl, by decide +kernel, rfl, by decide +kernel, by decide +kernel⟩
theorem ok__law_stands {f : Addr} {fd : FuncData} (F : Fun K "_law_stands" "_law_stands" s__law_stands f fd) (m_sorted : mg "sorted" = none) (G__law_same : GF P w K mg base "_law_same" 5 ["actual", "due"] (spSame 4)) (m_tuple : mg "tuple" = none) (G_Net_snapshot : GM P w K mg base CNet "snapshot" 1 ["self"] (spSnapshot CNet)) (T : NetT K CNet) : FnOk P w K mg base CX0 6 f fd ["net", "size", "nexts", "behinds", "post"] (spStands CNet) := by
  refine F.ok sc__law_stands (fun vs H Q E h => ?_) (fun cdv A outer s H vs Q E hr h => ?_)
  · obtain ⟨_, _, _, _, _, _, _, _, rfl, _⟩ := h; rfl
  · obtain ⟨p, da, db, dl, dn, dk, dp, N, rfl, hN, hT, ok, k⟩ := h
    refine ⟨_, (pss_cons (ps_setLc (i := 5) (own := [("house", 6)]) (g := gName 6) rfl sc__law_stands.nd rfl rfl (sw_true rfl rfl rfl (by decide +kernel)) (pi_listK (K := K) rfl (pe_callB (cb_sortD rfl) (by rfl) m_sorted b_sorted (pa_cons (pv 2) pa_nil))) (blkOk_by (N := ["net", "size", "nexts", "behinds", "post", "rows", "house"]) (sc := defScope s__law_stands) (by decide +kernel)) (fun _ _ _ _ _ => (pg_name (i := 6) sc__law_stands.nd rfl (Or.inl rfl))) (fun _ _ _ _ _ => pts_nil) (fun _ _ _ _ _ => (pe_tup (pa_cons (pv 6) (pa_cons (pe_dget (hu_of hr) (pv 2) (pv 6) (by intro _ _; rfl)) (pa_cons (pe_dget1 (hu_of hr) (pv 3) (pv 6) ⟨by rfl, by rfl, by rfl, by rfl⟩) pa_nil))))))
      (pss_one (ps_ret (c_fn G__law_same (hr.mono (by decide)) (pa_cons (c_mt0 G_Net_snapshot (hr.mono (by decide)) (pv 0)) (pa_cons (pe_tup (pa_cons (pv 1) (pa_cons (pe_callTy (cb_tupOfK (K := K) rfl) (by rfl) m_tuple b_tuple (pa_cons (pv 5) pa_nil)) (pa_cons (pe_callTy (cb_tupOfK (K := K) rfl) (by rfl) m_tuple b_tuple (pa_cons (pv 4) pa_nil)) pa_nil)))) pa_nil)))))), ?_⟩
    (try simp only [cxK, cxKX, List.map])
    refine ent (σ' := [some _, some _, some _, some _, some _, none, none]) rfl ?_
    obtain ⟨⟨dx, hp⟩, _⟩ := id hN
    obtain ⟨⟨kn, hn, dN⟩, ⟨kb, hb, dB⟩, ⟨lv, hl, ls⟩, ne⟩ := id hT
    have hlen := ok.hl
    k_offL
    refine r_sortD (.inl hn) dN ok.ascF (by omega) fun l1 H1 n1 e1 f1 => ?_
    refine walkL (sqL_of e1) ?_
    refine lcP (walk_list (xs := N.hs.map V.int)) (N.hs.map V.int) rfl (fun i H0 x H' _ y => yAt y) (fun _ => true) (RowIs N) (fun M x y H1 H2 ⟨h, t, a, b, c⟩ f => ⟨h, t, a, b, f.tp _ _ c⟩) (fun H' f => f.sqL (sqL_of e1) (fun z => nomatch z)) (by rw [List.length_map]; omega) (fun x H' hm f => ?_) fun q H2 ys n2 e2 hl2 hy f2 => ?_
    · obtain ⟨h, hh, rfl⟩ := mem_intsM hm
      refine sk6 ⟨fun R kR => kR H' (Fr.refl _ _), fun _ H3 f3 R kR => ?_⟩
      k_offL
      refine dgetk (kvs := kn) (.inl (by k_clsL)) (by rw [dN.val, NS.mf_at hh]) ?_
      k_offL
      refine dg1a (kvs := kb) (.inl (by k_clsL)) ?_
      k_offL
      refine dg1b (kvs := kb) (.inl (by k_clsL)) ?_
      k_offL
      refine tupk (by show 3 ≤ 100000; decide) fun t H4 n4 e4 f4 => ?_
      refine kR _ _ f4 ⟨h, t, rfl, rfl, ?_⟩
      rw [e4, dB.val]
      unfold NS.lb
      cases N.b h <;> rfl
    · rw [List.filter_eq_self.mpr fun _ _ => rfl] at hl2 hy
      have rr := rows_rep hl2 hy
      have f12 := f1.trans f2
      have hN2 := hN.ex f12
      have ls2 := ls.fr f12
      have hl3 := f12.at_ _ _ hl List.not_mem_nil
      k_offL
      refine ⟨p, da, db, dl, N, rfl, hN2, ok, fun t H3 r3 f3 => ?_⟩
      k_offL
      refine r_tupL (sqL_of (f3.at_ _ _ e2 List.not_mem_nil)) fun t4 H4 n4 e4 f4 => ?_
      k_offL
      refine r_tupL (sqL_of (f4.at_ _ _ (f3.at_ _ _ hl3 List.not_mem_nil) List.not_mem_nil)) fun t5 H5 n5 e5 f5 => ?_
      k_offL
      refine tupk (by show 3 ≤ 100000; decide) fun t6 H6 n6 e6 f6 => ?_
      k_offL
      have f46 := (f4.trans f5).trans f6
      refine i_same N.snap (Rep.fr0 f46 _ _ r3) ⟨t6, _, rfl, e6, _, _, rfl, rfl, _, _, rfl, ?_, _, _, rfl, ?_, rfl⟩ (snap_fits ok) fun H7 f7 => k H7 ((f12.trans f3).trans (f46.trans f7))
      · exact ⟨t4, _, rfl, (f5.trans f6).tp _ _ e4, RepL.fr0 (f3.trans f46) _ _ rr⟩
      · exact ⟨t5, _, rfl, f6.tp _ _ e5, ((ls2.fr f3).fr f46).rep⟩
end
end RL
set_option synthInstance.maxHeartbeats 4000000
set_option synthInstance.maxSize 4000
namespace RL
def lawArgs (A : Ads) (N : NS) : List V := [.ref A.tp, .ref A.p, .int N.size, .ref A.dn, .ref A.dk, .ref A.dp]
theorem WW.off {C : Addr} {H : Hp} {A : Ads} {N M : NS} (w : WW C H A N M) : A.dn ∉ [A.da, A.db, A.dl] ∧ A.dk ∉ [A.da, A.db, A.dl] ∧ A.dp ∉ [A.da, A.db, A.dl] := by
  have nd := w.nd
  simp only [List.nodup_cons, List.mem_cons, List.not_mem_nil, or_false, not_or] at nd
  obtain ⟨_, ⟨_, _, a3, a4, a5, _⟩, ⟨_, b2, b3, b4, _⟩, ⟨c1, c2, c3, _⟩, _⟩ := nd
  exact ⟨by simp [Ne.symm a3, Ne.symm b2, Ne.symm c1], by simp [Ne.symm a4, Ne.symm b3, Ne.symm c2], by simp [Ne.symm a5, Ne.symm b4, Ne.symm c3]⟩
def spDeed (C : Addr) : Sp := fun vs H Q _ => ∃ (A : Ads) (N : NS) (_ _ : Unit), vs = lawArgs A N ∧ WW C H A N N ∧ N.Ok ∧ 0 < N.hs.length ∧ N.post.length ≤ 60 ∧ ∀ N' H', Steps N N' → N'.post.length ≤ 60 → WW C H' A N' N' → Fr A.all H H' → Q (.bl true) H'
theorem push_len {N : NS} {l : LT} : (N.push l).post.length = N.post.length + 1 := by show (N.post ++ [l]).length = _; rw [List.length_append]; rfl
section
variable {P : Program} {w : World} {K : PySem.W.Frag} {mg : Str → Option Value} {base : Heap} {CNet CMender CDesk CStore CWalk : Addr}
abbrev s__law_deed : Stmt := top 46
theorem sc__law_deed : FnScope ["tape", "net", "size", "nexts", "behinds", "post", "houses", "house", "kind", "at"] ["tape", "net", "size", "nexts", "behinds", "post"] (defScope s__law_deed) := ⟨rfl, rfl, rfl, by decide +kernel, rfl, by decide +kernel, by decide +kernel⟩
theorem ok__law_deed {f : Addr} {fd : FuncData} (F : Fun K "_law_deed" "_law_deed" s__law_deed f fd) (m_sorted : mg "sorted" = none) (G__law_pick : GF P w K mg base "_law_pick" 1 ["tape", "size"] spPick) (m_len : mg "len" = none) (G__law_same : GF P w K mg base "_law_same" 5 ["actual", "due"] (spSame 4)) (G_Net_lose : GM P w K mg base CNet "lose" 2 ["self", "at"] (spLose CNet)) (G_Net_repeat : GM P w K mg base CNet "repeat" 2 ["self", "at"] (spRepeat CNet)) (G__law_read : GF P w K mg base "_law_read" 3 ["size", "nexts", "behinds", "post", "at"] spLawRead) (G_Net_read : GM P w K mg base CNet "read" 4 ["self", "at"] (spRead CNet)) (m_int : mg "int" = none) (G_Net_tell : GM P w K mg base CNet "tell" 3 ["self", "house"] (spTell CNet)) (G_Net_ask : GM P w K mg base CNet "ask" 3 ["self", "house"] (spAsk CNet)) (T : NetT K CNet) : FnOk P w K mg base CX0 6 f fd ["tape", "net", "size", "nexts", "behinds", "post"] (spDeed CNet) := by
  refine F.ok sc__law_deed (fun vs H Q E h => ?_) (fun cdv A outer s H vs Q E hr h => ?_)
  · obtain ⟨_, _, _, _, rfl, _⟩ := h; rfl
  · obtain ⟨A, N, _, _, rfl, W, ok, hpos, hpl, k⟩ := h
    unfold lawArgs
    refine ⟨_, (pss_cons (ps_set (i := 6) sc__law_deed.nd rfl (Or.inl rfl) (pe_callB (cb_sortD rfl) (by rfl) m_sorted b_sorted (pa_cons (pv 3) pa_nil)))
      (pss_cons (ps_set (i := 7) sc__law_deed.nd rfl (Or.inl rfl) (pe_ix (ix_listK (K := K) rfl) (pv 6) (c_fn G__law_pick (hr.mono (by decide)) (pa_cons (pv 0) (pa_cons (pe_callB (cb_lenSK (K := K) rfl) (by rfl) m_len b_len (pa_cons (pv 6) pa_nil)) pa_nil))) (by intro _ _; rfl)))
      (pss_cons (ps_set (i := 8) sc__law_deed.nd rfl (Or.inl rfl) (c_fn G__law_pick (hr.mono (by decide)) (pa_cons (pv 0) (pa_cons pe_int pa_nil))))
      (pss_cons (ps_if (PW.pt (pw_or (pt_cmpR op_ge (pe_callB (cb_lenSK (K := K) rfl) (by rfl) m_len b_len (pa_cons (pv 5) pa_nil)) pe_int (nomark _)) (pw_or1 (PW.pt (pw_and (pt_cmpR op_ge (pv 8) pe_int (nomark _)) (pw_and1 (pt_cmpR op_gt (pe_callB (cb_lenSK (K := K) rfl) (by rfl) m_len b_len (pa_cons (pv 5) pa_nil)) pe_int (nomark _)))))))) (pss_cons (ps_set (i := 9) sc__law_deed.nd rfl (Or.inl rfl) (c_fn G__law_pick (hr.mono (by decide)) (pa_cons (pv 0) (pa_cons (pe_callB (cb_lenSK (K := K) rfl) (by rfl) m_len b_len (pa_cons (pv 5) pa_nil)) pa_nil))))
      (pss_cons (ps_if (pt_cmpR op_eq (pv 8) pe_int (nomark _)) (pss_one (ps_ret (c_fn G__law_same (hr.mono (by decide)) (pa_cons (c_mt G_Net_lose (hr.mono (by decide)) (pv 1) (pa_cons (pv 9) pa_nil)) (pa_cons (pe_bmK (K := K) rfl PySem.F.plainAttrs_list PySem.F.slot_list_pop PySem.F.type_list_pop mt_popAt (pv 5) (pa_cons (pv 9) pa_nil)) pa_nil))))) pss_nil)
      (pss_cons (ps_if (PW.pt (pw_and (pt_cmpR op_eq (pv 8) pe_int (nomark _)) (pw_and1 (pt_cmpR op_lt (pe_callB (cb_lenSK (K := K) rfl) (by rfl) m_len b_len (pa_cons (pv 5) pa_nil)) pe_int (nomark _))))) (pss_cons (ps_expr (pe_bmK (K := K) rfl PySem.F.plainAttrs_list PySem.F.slot_list_append PySem.F.type_list_append mt_append (pv 5) (pa_cons (pe_ix (ix_listK (K := K) rfl) (pv 5) (pv 9) (by intro _ _; rfl)) pa_nil)))
      (pss_one (ps_ret (c_fn G__law_same (hr.mono (by decide)) (pa_cons (c_mt G_Net_repeat (hr.mono (by decide)) (pv 1) (pa_cons (pv 9) pa_nil)) (pa_cons (pe_ix (ix_listK (K := K) rfl) (pv 5) (pv 9) (by intro _ _; rfl)) pa_nil)))))) pss_nil)
      (pss_one (ps_ret (c_fn G__law_same (hr.mono (by decide)) (pa_cons (c_mt G_Net_read (hr.mono (by decide)) (pv 1) (pa_cons (pv 9) pa_nil)) (pa_cons (c_fn G__law_read (hr.mono (by decide)) (pa_cons (pv 2) (pa_cons (pv 3) (pa_cons (pv 4) (pa_cons (pv 5) (pa_cons (pv 9) pa_nil)))))) pa_nil)))))))) pss_nil)
      (pss_cons (ps_if (pt_cmpR op_eq (pe_op op_mod (pe_callTy cb_int (by rfl) m_int b_int (pa_cons (pv 8) pa_nil)) pe_int) pe_int (nomark _)) (pss_cons (ps_expr (pe_bmK (K := K) rfl PySem.F.plainAttrs_list PySem.F.slot_list_append PySem.F.type_list_append mt_append (pv 5) (pa_cons (pe_tup (pa_cons pe_str (pa_cons (pe_dget (hu_of hr) (pv 3) (pv 7) (by intro _ _; rfl)) (pa_cons (pv 7) pa_nil)))) pa_nil)))
      (pss_one (ps_ret (c_fn G__law_same (hr.mono (by decide)) (pa_cons (c_mt G_Net_tell (hr.mono (by decide)) (pv 1) (pa_cons (pv 7) pa_nil)) (pa_cons (pe_tup (pa_cons pe_str (pa_cons (pe_dget (hu_of hr) (pv 3) (pv 7) (by intro _ _; rfl)) (pa_cons (pv 7) pa_nil)))) pa_nil)))))) pss_nil)
      (pss_cons (ps_expr (pe_bmK (K := K) rfl PySem.F.plainAttrs_list PySem.F.slot_list_append PySem.F.type_list_append mt_append (pv 5) (pa_cons (pe_tup (pa_cons pe_str (pa_cons (pe_dget (hu_of hr) (pv 3) (pv 7) (by intro _ _; rfl)) (pa_cons (pv 7) pa_nil)))) pa_nil)))
      (pss_one (ps_ret (c_fn G__law_same (hr.mono (by decide)) (pa_cons (c_mt G_Net_ask (hr.mono (by decide)) (pv 1) (pa_cons (pv 7) pa_nil)) (pa_cons (pe_tup (pa_cons pe_str (pa_cons (pe_dget (hu_of hr) (pv 3) (pv 7) (by intro _ _; rfl)) (pa_cons (pv 7) pa_nil)))) pa_nil))))))))))), ?_⟩
    (try simp only [cxK, cxKX, List.map])
    refine ent (σ' := [some _, some _, some _, some _, some _, some _, none, none, none, none]) rfl ?_
    obtain ⟨dn_dp, dk_dp, dn_tp, dk_tp, dp_tp⟩ := W.ne
    obtain ⟨kn, hn, dN⟩ := W.tab.nx
    obtain ⟨kb, hb, dB⟩ := W.tab.bf
    obtain ⟨lv, hl, ls⟩ := W.tab.ls
    obtain ⟨dx, hp⟩ := W.net.ob
    have hlen := ok.hl
    have lvl := ls.len
    have fin : ∀ {N' : NS} {H3 : Hp} {t1 t2 : Addr} {vs : List V} {E : XK}, H3 t1 = some (.tup vs) → H3 t2 = some (.tup vs) → vs.all flatR = true → vs.length ≤ 100000 → Steps N N' → N'.post.length ≤ 60 → WW CNet H3 A N' N' → Fr A.all H H3 → spSame 4 [.ref t1, .ref t2] H3 Q E :=
      fun e1 e2 fl hl st pl w f => i_sameT e1 e2 fl hl fun H4 f4 => k _ H4 st pl (w.ex0 f4) (f.trans f4.up)
    k_offL
    refine r_sortD (.inl hn) dN ok.ascF (by omega) fun l1 H1 n1 e1 f1 => ?_
    have W1 := W.ex0 f1
    obtain ⟨_, _, _, _, _, tt1, _⟩ := W.tape.ex
    have h1t : l1 ≠ A.tp := (ne_of_none tt1 n1).symm
    k_offL
    refine r_lenL (sqL_of e1) ?_
    rw [List.length_map]
    k_offL
    refine i_pick W1.tape (by omega) (by omega) fun m2 H2 a2 b2 t2 f2 => ?_
    have W2 := W1.tape' f2 t2
    have g2 : m2.toNat < N.hs.length := by omega
    have e12 : H2 l1 = some (.lst (N.hs.map V.int)) := f2.at_ _ _ e1 (mem_one h1t)
    refine r_ixL (sqL_of e12) (ix_at m2.toNat (by omega) (ints_get g2)) ?_
    have hh : N.hs[m2.toNat] ∈ N.hs := List.getElem_mem g2
    revert hh
    generalize N.hs[m2.toNat] = h0
    intro hh
    k_offL
    refine i_pick W2.tape (by decide) (by decide) fun kind H3 a3 b3 t3 f3 => ?_
    have W3 := W2.tape' f3 t3
    have fr3 : Fr A.all H H3 := f1.up.trans ((f2.trans f3).tape)
    have hn3 : H3 A.dn = some (.dK kn) := f3.at_ _ _ (f2.at_ _ _ (f1.at_ _ _ hn List.not_mem_nil) (mem_one dn_tp)) (mem_one dn_tp)
    have hl3 : H3 A.dp = some (.lst lv) := f3.at_ _ _ (f2.at_ _ _ (f1.at_ _ _ hl List.not_mem_nil) (mem_one dp_tp)) (mem_one dp_tp)
    have hp3 := W3.net.ob
    obtain ⟨dx3, hp3⟩ := hp3
    k_places
    refine q_if ?_
    refine cutT (t := tOr _ _) (fun b H' => H' = H3 ∧ ((b = true ∧ 0 < N.post.length) ∨ (b = false ∧ N.post.length < 60))) (fun R kR => ?_) ?_
    · k_offL
      refine r_lenL (sqL_of hl3) ?_
      rw [lvl]
      k_offL
      refine ifD (fun e => kR _ _ ⟨rfl, .inl ⟨rfl, by omega⟩⟩) (fun e => ?_)
      k_offL
      refine ifD (fun e2 => ?_) (fun e2 => kR _ _ ⟨rfl, .inr ⟨rfl, by omega⟩⟩)
      k_offL
      refine r_lenL (sqL_of hl3) ?_
      rw [lvl]
      k_offL
      by_cases e3 : (0 : Int) < N.post.length
      · rw [decide_eq_true e3]; exact kR _ _ ⟨rfl, .inl ⟨rfl, by omega⟩⟩
      · rw [decide_eq_false e3]; exact kR _ _ ⟨rfl, .inr ⟨rfl, by omega⟩⟩
    rintro b _ ⟨rfl, hb⟩
    rcases hb with ⟨rfl, h60⟩ | ⟨rfl, h60⟩
    · -- something in the post
      k_offL
      refine r_lenL (sqL_of hl3) ?_
      rw [lvl]
      k_offL
      refine i_pick W3.tape (by omega) (by omega) fun at_ H4 a4 b4 t4 f4 => ?_
      have W4 := W3.tape' f4 t4
      have fr4 : Fr A.all H H4 := fr3.trans f4.tape
      have hl4 : H4 A.dp = some (.lst lv) := f4.at_ _ _ hl3 (mem_one dp_tp)
      obtain ⟨j, rfl⟩ : ∃ j : Nat, at_ = (j : Int) := ⟨at_.toNat, by omega⟩
      have hj : j < N.post.length := by omega
      have hpj := List.getElem?_eq_getElem hj
      revert hpj
      generalize N.post[j] = l
      intro hpj
      obtain ⟨lv', hl4', ls4⟩ := W4.tab.ls
      obtain rfl : lv = lv' := HO.lst.inj (Option.some.inj (hl4.symm.trans hl4'))
      obtain ⟨tj, htj, hTj⟩ := ls4.at_ j l hpj
      obtain ⟨dx4, hp4⟩ := W4.net.ob
      k_offL
      refine ifD (fun e4 => ?_) (fun e4 => ?_)
      · k_offL
        refine ⟨A.p, A.da, A.db, A.dl, N, j, l, rfl, W4.net, hpj, ok, fun t5 H5 e5 hN5 f5 => ?_⟩
        have W5 := W4.net' f5.dl hN5
        have hl5 : H5 A.dp = some (.lst lv) := f5.dl.at_ _ _ hl4 W.off.2.2
        k_offL
        refine r_popAt hl5 htj (by omega) fun H6 e6 f6 => ?_
        k_offL
        have W6 := W5.tab' f6.dp (W5.tab.pop hl5 e6 f6 dn_dp dk_dp)
        exact fin (f6.tp _ _ e5) (f6.tp _ _ (f5.tp _ _ hTj)) (lt_flat l) (by have := lt_len l; omega) (.one (.del N j)) (by have := del_len hpj; omega) W6 ((fr4.trans f5.dl.net).trans f6.dp.tab)
      · k_places
        refine q_if ?_
        refine cutT (t := tAnd _ _) (fun b H' => H' = H4 ∧ (b = true → N.post.length < 60)) (fun R kR => ?_) ?_
        · k_offL
          refine ifD (fun e => ?_) (fun e => kR _ _ ⟨rfl, fun z => nomatch z⟩)
          k_offL
          refine r_lenL (sqL_of hl4) ?_
          rw [lvl]
          k_offL
          exact kR _ _ ⟨rfl, fun z => by have := of_decide_eq_true z; omega⟩
        rintro b _ ⟨rfl, hb⟩
        cases b with
        | true =>
          have hb := hb rfl
          k_offL
          refine r_ixL (sqL_of hl4) (atI_nat htj) ?_
          k_offL
          refine r_app hl4 (by omega) fun H5 e5 f5 => ?_
          have W5 := W4.tab' f5.dp (W4.tab.push hl4 (Fr.refl _ _) hTj e5 f5 dn_dp dk_dp)
          obtain ⟨dx5, hp5⟩ := W5.net.ob
          k_offL
          refine ⟨A.p, A.da, A.db, A.dl, N, j, l, rfl, W5.net, hpj, ok, fun t6 H6 e6 hN6 f6 => ?_⟩
          have W6 := W5.net' f6.dl hN6
          have e56 := f6.dl.at_ _ _ e5 W.off.2.2
          have g56 : (lv ++ [V.ref tj])[j]? = some (V.ref tj) := by rw [List.getElem?_append_left (by omega)]; exact htj
          k_offL
          refine r_ixL (sqL_of e56) (atI_nat g56) ?_
          k_offL
          exact fin e6 (f6.tp _ _ (f5.tp _ _ hTj)) (lt_flat l) (by have := lt_len l; omega) (.one (.dup N l (List.mem_of_getElem? hpj) (by omega))) (by rw [push_len]; omega) W6 ((fr4.trans f5.dp.tab).trans f6.dl.net)
        | false =>
          k_offL
          refine ⟨A.p, A.da, A.db, A.dl, N, j, l, rfl, W4.net, hpj, ok, fun t5 H5 e5 hN5 f5 => ?_⟩
          have W5 := W4.net' f5 hN5
          k_offL
          refine ⟨A.dn, A.dk, A.dp, N, j, l, (), (), (), rfl, W5.tab, ok, hpj, fun t6 H6 e6 T6 f6 => ?_⟩
          have W6 := W5.tab' f6 T6
          k_offL
          exact fin (f6.tp _ _ e5) e6 (read_flat _ l) (by rw [show (N.read j l).2.length = 3 from readL_vs (N.del j) l]; decide) (.one (.read N j l hpj)) (by have := read_len hpj; omega) W6 ((fr4.trans f5.net).trans f6.tab)
    · -- a new letter
      k_offL
      refine ifD (fun e => ?_) (fun e => ?_)
      · k_offL
        refine dgetk (.inl hn3) (by rw [dN.val, NS.mf_at hh]) ?_
        k_offL
        refine tupk (by show 3 ≤ 100000; decide) fun t4 H4 n4 e4 f4 => ?_
        have hl4 := f4.at_ _ _ hl3 List.not_mem_nil
        k_offL
        refine r_app hl4 (by omega) fun H5 e5 f5 => ?_
        have W5 := W3.tab' (f4.up.trans f5.dp) (W3.tab.push (l := .tell (N.f h0) h0) hl3 f4 e4 e5 f5 dn_dp dk_dp)
        obtain ⟨dx5, hp5⟩ := W5.net.ob
        obtain ⟨kn5, hn5, dN5⟩ := W5.tab.nx
        k_offL
        refine ⟨A.p, A.da, A.db, A.dl, N, h0, rfl, W5.net, hh, ok, fun t6 H6 e6 hN6 f6 => ?_⟩
        have W6 := W5.net' f6.dl hN6
        have hn6 := f6.dl.at_ _ _ hn5 W.off.1
        k_offL
        refine dgetk (.inl hn6) (by rw [dN5.val]; exact NS.mf_at hh) ?_
        k_offL
        refine tupk (by show 3 ≤ 100000; decide) fun t7 H7 n7 e7 f7 => ?_
        k_offL
        exact fin (f7.tp _ _ e6) e7 (lt_flat (.tell (N.f h0) h0)) (by have := lt_len (.tell (N.f h0) h0); omega) (.one (.tell N h0 hh (by omega))) (by rw [push_len]; omega) (W6.ex0 f7) (((fr3.trans (f4.up.trans f5.dp).tab).trans f6.dl.net).trans f7.up)
      · k_offL
        refine dgetk (.inl hn3) (by rw [dN.val, NS.mf_at hh]) ?_
        k_offL
        refine tupk (by show 3 ≤ 100000; decide) fun t4 H4 n4 e4 f4 => ?_
        have hl4 := f4.at_ _ _ hl3 List.not_mem_nil
        k_offL
        refine r_app hl4 (by omega) fun H5 e5 f5 => ?_
        have W5 := W3.tab' (f4.up.trans f5.dp) (W3.tab.push (l := .ask (N.f h0) h0) hl3 f4 e4 e5 f5 dn_dp dk_dp)
        obtain ⟨dx5, hp5⟩ := W5.net.ob
        obtain ⟨kn5, hn5, dN5⟩ := W5.tab.nx
        k_offL
        refine ⟨A.p, A.da, A.db, A.dl, N, h0, rfl, W5.net, hh, ok, fun t6 H6 e6 hN6 f6 => ?_⟩
        have W6 := W5.net' f6.dl hN6
        have hn6 := f6.dl.at_ _ _ hn5 W.off.1
        k_offL
        refine dgetk (.inl hn6) (by rw [dN5.val]; exact NS.mf_at hh) ?_
        k_offL
        refine tupk (by show 3 ≤ 100000; decide) fun t7 H7 n7 e7 f7 => ?_
        k_offL
        exact fin (f7.tp _ _ e6) e7 (lt_flat (.ask (N.f h0) h0)) (by have := lt_len (.ask (N.f h0) h0); omega) (.one (.ask N h0 hh (by omega))) (by rw [push_len]; omega) (W6.ex0 f7) (((fr3.trans (f4.up.trans f5.dp).tab).trans f6.dl.net).trans f7.up)
end
end RL
set_option synthInstance.maxHeartbeats 4000000
set_option synthInstance.maxSize 4000
namespace RL
section
variable {N M : NS} {l : LT} {h v u x : Int} {hs : List Int}
theorem push_del : (N.push l).del N.post.length = N := by
  have : (N.post ++ [l]).eraseIdx N.post.length = N.post := by
    rw [List.eraseIdx_append_of_length_le (Nat.le_refl _), Nat.sub_self]
    show N.post ++ [] = _
    rw [List.append_nil]
  show { N with post := (N.post ++ [l]).eraseIdx N.post.length } = N
  rw [this]
theorem push_read : (N.push l).read N.post.length l = N.readL l := by
  show ((N.push l).del N.post.length).readL l = _
  rw [push_del]
theorem push_at : (N.push l).post[N.post.length]? = some l := by
  show (N.post ++ [l])[N.post.length]? = _
  rw [List.getElem?_append_right (Nat.le_refl _), Nat.sub_self]
  rfl
def NS.ct (N : NS) (h : Int) : NS := (N.readL (.tell (N.f h) h)).1
def NS.cond (N : NS) (h : Int) : Bool := match N.b (N.f h) with
  | none => true
  | some x => btw N.size x h (N.f h)
theorem ct_eq : N.ct h = if N.cond h = true then N.setB (N.f h) (some h) else N := by
  unfold NS.ct NS.cond
  simp only [NS.readL]
  cases e : N.b (N.f h) with
  | none => rfl
  | some x => simp only []; split <;> rfl
def NS.ca (N : NS) (h : Int) : NS := match N.b (N.f h) with
  | none => N
  | some x => (N.readL (.ans h (N.f h) x)).1
def NS.cn (N : NS) (h : Int) : Int := match N.b (N.f h) with
  | none => 0
  | some x => if btw N.size h x (N.f h) = true then 1 else 0
theorem ca_eq (e : N.b (N.f h) = some x) : N.ca h = (if btw N.size h x (N.f h) = true then N.setF h x else N) ∧ N.cn h = if btw N.size h x (N.f h) = true then 1 else 0 := by
  unfold NS.ca NS.cn
  rw [e]
  refine ⟨?_, rfl⟩
  show (if N.f h = N.f h ∧ btw N.size h x (N.f h) = true then (N.setF h x, _) else (N, _)).1 = _
  by_cases q : btw N.size h x (N.f h) = true
  · rw [if_pos ⟨rfl, q⟩, if_pos q]
  · rw [if_neg fun z => q z.2, if_neg q]
def NS.cts (N : NS) (l : List Int) : NS := l.foldl NS.ct N
def NS.cas (N : NS) (l : List Int) : NS × Int := l.foldl (fun p h => (p.1.ca h, p.2 + p.1.cn h)) (N, 0)
def NS.calm (N : NS) : NS × Int := (N.cts N.hs).cas N.hs
theorem cts_snoc {l : List Int} : N.cts (l ++ [h]) = (N.cts l).ct h := by unfold NS.cts; rw [List.foldl_append]; rfl
theorem cas_snoc {l : List Int} : N.cas (l ++ [h]) = ((N.cas l).1.ca h, (N.cas l).2 + (N.cas l).1.cn h) := by unfold NS.cas; rw [List.foldl_append]; rfl
structure CtOk (N M : NS) : Prop where
  f : M.f = N.f
  hs : M.hs = N.hs
  z : M.size = N.size
  po : M.post = N.post
  ok : M.Ok
  st : Steps N M
theorem ct_steps (ok : N.Ok) (m : h ∈ N.hs) (q : N.post.length < 1000) : Steps N (N.ct h) := by
  have a := Small.tell N h m q
  have b := Small.read _ _ _ (push_at (N := N) (l := .tell (N.f h) h))
  rw [push_read] at b
  exact .more (.one a) b
theorem CtOk.refl (ok : N.Ok) : CtOk N N := ⟨rfl, rfl, rfl, rfl, ok, .refl N⟩
theorem CtOk.more (c : CtOk N M) (m : h ∈ N.hs) (q : N.post.length < 1000) : CtOk N (M.ct h) := by
  have m' : h ∈ M.hs := c.hs ▸ m
  have s := ct_steps c.ok m' (by rw [c.po]; exact q)
  refine ⟨?_, ?_, ?_, ?_, s.ok c.ok, c.st.trans s⟩ <;> (rw [ct_eq]; split)
  · exact c.f
  · exact c.f
  · exact c.hs
  · exact c.hs
  · exact c.z
  · exact c.z
  · exact c.po
  · exact c.po
theorem cts_ok (ok : N.Ok) (q : N.post.length < 1000) (l : List Int) (hl : ∀ h ∈ l, h ∈ N.hs) : ∀ i, CtOk N (N.cts (l.take i))
  | 0 => by rw [List.take_zero]; exact .refl ok
  | i + 1 => by
    have ih := cts_ok ok q l hl i
    by_cases hi : i < l.length
    · rw [take_get hi, cts_snoc]; exact ih.more (hl _ (List.getElem_mem hi)) q
    · rw [List.take_of_length_le (by omega)] at ih ⊢; exact ih
theorem ct_some {y : Int} (e : (N.b y).isSome = true) : ((N.ct h).b y).isSome = true := by
  rw [ct_eq]
  split
  · show (if y = N.f h then some h else N.b y).isSome = true
    split
    · rfl
    · exact e
  · exact e
theorem ct_here : ((N.ct h).b (N.f h)).isSome = true := by
  rw [ct_eq]
  split
  · show (if N.f h = N.f h then some h else N.b (N.f h)).isSome = true
    rw [if_pos rfl]; rfl
  · rename_i q
    unfold NS.cond at q
    cases e : N.b (N.f h) with
    | none => rw [e] at q; exact absurd rfl q
    | some x => rfl
theorem cts_some (ok : N.Ok) (q : N.post.length < 1000) (l : List Int) (hl : ∀ h ∈ l, h ∈ N.hs) : ∀ i, ∀ h ∈ l.take i, ((N.cts (l.take i)).b (N.f h)).isSome = true
  | 0 => fun h hh => by rw [List.take_zero] at hh; cases hh
  | i + 1 => fun h hh => by
    have ih := cts_some ok q l hl i
    by_cases hi : i < l.length
    · rw [take_get hi] at hh ⊢
      rw [cts_snoc]
      rcases List.mem_append.mp hh with z | z
      · exact ct_some (ih h z)
      · rw [List.mem_singleton.mp z, ← (cts_ok ok q l hl i).f]; exact ct_here
    · rw [List.take_of_length_le (by omega)] at ih hh ⊢; exact ih h hh
structure CaOk (N M : NS) (done : List Int) : Prop where
  b : M.b = N.b
  hs : M.hs = N.hs
  z : M.size = N.size
  po : M.post = N.post
  f : ∀ h, h ∉ done → M.f h = N.f h
  ok : M.Ok
  st : Steps N M
theorem CaOk.refl (ok : N.Ok) : CaOk N N [] := ⟨rfl, rfl, rfl, rfl, fun _ _ => rfl, ok, .refl N⟩
theorem ca_steps (ok : N.Ok) (m : h ∈ N.hs) (q : N.post.length < 1000) (e : N.b (N.f h) = some x) : Steps N (N.ca h) := by
  have a := Small.ask N h m q
  have b := Small.read _ _ _ (push_at (N := N) (l := .ask (N.f h) h))
  rw [push_read] at b
  have e2 : (N.readL (.ask (N.f h) h)).1 = N.push (.ans h (N.f h) x) := by simp only [NS.readL, e]
  rw [e2] at b
  have c := Small.read _ _ _ (push_at (N := N) (l := .ans h (N.f h) x))
  rw [push_read] at c
  unfold NS.ca
  rw [e]
  exact .more (.more (.one a) b) c
theorem CaOk.more {done : List Int} (c : CaOk N M done) (m : h ∈ N.hs) (n : h ∉ done) (q : N.post.length < 1000) (e : N.b (N.f h) = some x) : CaOk N (M.ca h) (done ++ [h]) := by
  have m' : h ∈ M.hs := c.hs ▸ m
  have e' : M.b (M.f h) = some x := by rw [c.f h n, c.b]; exact e
  have s := ca_steps c.ok m' (by rw [c.po]; exact q) e'
  have hf : ∀ y, y ∉ done ++ [h] → y ∉ done ∧ y ≠ h := fun y hy => ⟨fun z => hy (List.mem_append_left _ z), fun z => hy (List.mem_append_right _ (List.mem_singleton.mpr z))⟩
  refine ⟨?_, ?_, ?_, ?_, ?_, s.ok c.ok, c.st.trans s⟩ <;> (rw [(ca_eq e').1]; split)
  · exact c.b
  · exact c.b
  · exact c.hs
  · exact c.hs
  · exact c.z
  · exact c.z
  · exact c.po
  · exact c.po
  · exact fun y hy => by
      show (if y = h then x else M.f y) = _
      rw [if_neg (hf y hy).2]; exact c.f y (hf y hy).1
  · exact fun y hy => c.f y (hf y hy).1
theorem not_took {l : List Int} (nd : l.Nodup) {i : Nat} (hi : i < l.length) : l[i] ∉ l.take i := fun hc => by
  obtain ⟨i', hi', e'⟩ := List.mem_iff_getElem.mp hc
  rw [List.length_take] at hi'
  rw [List.getElem_take] at e'
  have : i' = i := nd_ix nd (by rw [List.getElem?_eq_getElem (by omega), e']) (List.getElem?_eq_getElem hi)
  omega
theorem cas_ok (ok : N.Ok) (q : N.post.length < 1000) (l : List Int) (nd : l.Nodup) (hl : ∀ h ∈ l, h ∈ N.hs ∧ (N.b (N.f h)).isSome = true) : ∀ i, CaOk N (N.cas (l.take i)).1 (l.take i)
  | 0 => by rw [List.take_zero]; exact .refl ok
  | i + 1 => by
    have ih := cas_ok ok q l nd hl i
    by_cases hi : i < l.length
    · obtain ⟨h1, h2⟩ := hl _ (List.getElem_mem hi)
      obtain ⟨x, hx⟩ := Option.isSome_iff_exists.mp h2
      rw [take_get hi, cas_snoc]; exact ih.more h1 (not_took nd hi) q hx
    · rw [List.take_of_length_le (by omega)] at ih ⊢; exact ih
theorem calm_ok (ok : N.Ok) (q : N.post.length < 1000) : CtOk N (N.cts N.hs) ∧ (∀ h ∈ N.hs, ((N.cts N.hs).b (N.f h)).isSome = true) ∧ Steps N N.calm.1 ∧ N.calm.1.post = N.post := by
  have a := cts_ok ok q N.hs (fun _ h => h) N.hs.length
  have b := cts_some ok q N.hs (fun _ h => h) N.hs.length
  rw [List.take_length] at a b
  have c := cas_ok a.ok (by rw [a.po]; exact q) N.hs ok.nd (fun h hh => ⟨by rw [a.hs]; exact hh, by rw [a.f]; exact b h hh⟩) N.hs.length
  rw [List.take_length] at c
  exact ⟨a, b, a.st.trans c.st, c.po.trans a.po⟩
end
def spTellAll (C : Addr) : Sp := fun vs H Q _ => ∃ (p da db dl a : Addr) (kvs : List (Key × V)) (N : NS) (_ : Unit), vs = [.ref p, .ref a] ∧ NetAt C H p da db dl N ∧ N.Ok ∧ N.post.length < 1000 ∧ H a = some (.dK kvs) ∧ DOk kvs N.mf ∧ a ≠ db ∧
  ∀ l kb H', H l = none → H' l = some (.dK kb) → DOk kb (N.cts N.hs).lb → NetAt C H' p da db dl (N.cts N.hs) → Fr [db] H H' → Q (.ref l) H'
section
variable {P : Program} {w : World} {K : PySem.W.Frag} {mg : Str → Option Value} {base : Heap} {CNet CMender CDesk CStore CWalk : Addr}
abbrev s_tell_all : Stmt := top 22
theorem sc_tell_all : FnScope ["net", "nexts", "size", "befores", "house", "reader"] ["net", "nexts"] (defScope s_tell_all) := ⟨rfl, rfl, rfl, by decide +kernel, rfl, by decide +kernel, by decide +kernel⟩
theorem ok_tell_all {f : Addr} {fd : FuncData} (F : Fun K "tell_all" "tell_all" s_tell_all f fd) (G_Net_befores : GM P w K mg base CNet "befores" 1 ["self"] (spBefores CNet)) (m_sorted : mg "sorted" = none) (G_between : GF P w K mg base "between" 2 ["size", "start", "place", "end"] spBetween) (G_Net_set_before : GM P w K mg base CNet "set_before" 2 ["self", "house", "before"] (spSetBefore CNet)) (T : NetT K CNet) : FnOk P w K mg base CX0 3 f fd ["net", "nexts"] (spTellAll CNet) := by
  refine F.ok sc_tell_all (fun vs H Q E h => ?_) (fun cdv A outer s H vs Q E hr h => ?_)
  · obtain ⟨_, _, _, _, _, _, _, _, rfl, _⟩ := h; rfl
  · obtain ⟨p, da, db, dl, a, kvs, N, _, rfl, hN, ok, q, ha, dN, hab, k⟩ := h
    refine ⟨_, (pss_cons (ps_set (i := 2) sc_tell_all.nd rfl (Or.inl rfl) (pe_fldK (K := K) rfl (pv 0) (by rfl)))
      (pss_cons (ps_set (i := 3) sc_tell_all.nd rfl (Or.inl rfl) (c_mt0 G_Net_befores (hr.mono (by decide)) (pv 0)))
      (pss_cons (ps_for PassesOwn.never rfl (pi_listK (K := K) rfl (pe_callB (cb_sortD rfl) (by rfl) m_sorted b_sorted (pa_cons (pv 1) pa_nil))) (pg_name (i := 4) sc_tell_all.nd rfl (Or.inl rfl))
      (pss_cons (ps_set (i := 5) sc_tell_all.nd rfl (Or.inl rfl) (pe_dget (hu_of hr) (pv 1) (pv 4) (by intro _ _; rfl)))
      (pss_one (ps_if (PW.pt (pw_or (pt_cmp (pc_dnotin (hu_of hr) (pv 5) (pv 3))) (pw_or1 (pt_val (c_fn G_between (hr.mono (by decide)) (pa_cons (pv 2) (pa_cons (pe_dget (hu_of hr) (pv 3) (pv 5) (by intro _ _; rfl)) (pa_cons (pv 4) (pa_cons (pv 5) pa_nil))))))))) (pss_cons (ps_dput (hu_of hr) (pv 3) (pv 5) (pv 4) rfl)
      (pss_one (ps_expr (c_mt G_Net_set_before (hr.mono (by decide)) (pv 0) (pa_cons (pv 5) (pa_cons (pv 4) pa_nil)))))) pss_nil))))
      (pss_one (ps_ret (pv 3)))))), ?_⟩
    (try simp only [cxK, cxKX, List.map])
    refine ent (σ' := [some _, some _, none, none, none, none]) rfl ?_
    obtain ⟨⟨dx, hp⟩, _⟩ := id hN
    have hlen := ok.hl
    k_offL
    refine ⟨p, da, db, dl, N, rfl, hN, ok, fun l H1 n1 e1 f1 => ?_⟩
    have ha1 := f1.at_ _ _ ha List.not_mem_nil
    have hN1 := hN.ex f1
    have hal : a ≠ l := ne_of_none ha n1
    k_offL
    refine r_sortD (.inl ha1) dN ok.ascF (by omega) fun l1 H2 n2 e2 f2 => ?_
    have hN2 := hN1.ex f2
    have hl1 : l1 ≠ l := (ne_of_none e1 n2).symm
    have hdb : l1 ≠ db := by
      obtain ⟨_, hb1, _⟩ := hN1.bf
      exact (ne_of_none hb1 n2).symm
    obtain ⟨_, hb0, _⟩ := hN.bf
    obtain ⟨_, ha0, _⟩ := hN.nx
    obtain ⟨_, hl0, _⟩ := hN.ls
    have lp : p ≠ l := ne_of_none hp n1
    have lb : db ≠ l := ne_of_none hb0 n1
    have la : da ≠ l := ne_of_none ha0 n1
    have ll : dl ≠ l := ne_of_none hl0 n1
    refine loopLF (M := [db, l]) (N.hs.map V.int) (sqL_of e2) (by simp [hl1, hdb]) (fun i σ' H' => ∃ (v1 v2 : Option V) (kb : List (Key × V)), σ' = [some (.ref p), some (.ref a), some (.int N.size), some (.ref l), v1, v2] ∧ H' l = some (.dK kb) ∧ DOk kb (N.cts (N.hs.take i)).lb ∧ NetAt CNet H' p da db dl (N.cts (N.hs.take i)) ∧ Fr [db, l] H2 H')
      ⟨_, _, _, rfl, f2.at_ _ _ e1 List.not_mem_nil, by rw [List.take_zero]; exact ok.dkb, by rw [List.take_zero]; exact hN2, Fr.refl _ _⟩ (fun i σ' H' ⟨_, _, _, _, _, _, _, f⟩ => f) ?_ ?_
    · rintro i x σ' H3 hi ⟨v1, v2, kb, rfl, e3, d3, hN3, f3⟩
      obtain ⟨h, hh, hm, rfl⟩ := mem_ints hi
      have hts := take_snoc hh
      have c := cts_ok ok q N.hs (fun _ h => h) i
      rw [hts, cts_snoc, ct_eq]
      revert c d3 hN3
      generalize N.cts (N.hs.take i) = M
      intro d3 hN3 c
      obtain ⟨⟨dx3, hp3⟩, _⟩ := id hN3
      have h0 := ok.s0
      have ha3 := f3.at_ _ _ (f2.at_ _ _ ha1 List.not_mem_nil) (by simp [hab, hal])
      have hm' : N.f h ∈ N.hs := ok.fh h hm
      k_offL
      refine dgetk (.inl ha3) (by rw [dN.val, NS.mf_at hm]) ?_
      k_places
      refine s_if ?_
      refine cutT (t := tOr _ _) (fun b H' => H' = H3 ∧ b = M.cond h) (fun R kR => ?_) ?_
      · k_offL
        refine dink (.inl e3) ?_
        have e3v : valV kb (.inl (N.f h)) = (M.b (N.f h)).map V.int := d3.val _
        unfold NS.cond at kR
        rw [c.f, c.z] at kR
        cases eb : M.b (N.f h) with
        | none =>
          rw [eb] at e3v kR
          rw [e3v]
          exact blk (ifT (kR _ _ ⟨rfl, rfl⟩))
        | some y =>
          rw [eb] at e3v kR
          rw [e3v]
          refine blk (ifF ?_)
          k_offL
          refine dgetk (.inl e3) e3v ?_
          k_offL
          refine i_between h0 ?_
          k_offL
          exact kR _ _ ⟨rfl, rfl⟩
      rintro b _ ⟨rfl, rfl⟩
      refine ifB (fun e => ?_) (fun e => ?_)
      · rw [if_pos e]
        k_offL
        refine dputk e3 (by have := d3.len c.ok.ascL; have := c.ok.bl; omega) fun H4 e4 f4 => ?_
        have hN4 := hN3.fr f4 (mem_one lp) (mem_one la) (mem_one lb) (mem_one ll)
        obtain ⟨⟨dx4, hp4⟩, _⟩ := id hN4
        k_offL
        refine ⟨p, da, db, dl, M, N.f h, some h, rfl, hN4, c.hs ▸ hm', fun y e => by cases e; exact c.hs ▸ hm, c.ok, fun H5 hN5 f5 => ?_⟩
        k_offL
        refine ⟨_, _, _, rfl, f5.at_ _ _ e4 (mem_one lb.symm), ?_, by rw [c.f]; exact hN5, (f3.trans (f4.mono fun a h => by simp at h; simp [h])).trans (f5.mono fun a h => by simp at h; simp [h])⟩
        rw [c.f]
        exact d3.put.cong fun y => M.lb_setB (N.f h) h y
      · rw [if_neg (by rw [e]; decide)]
        k_offL
        exact ⟨_, _, _, rfl, e3, d3, hN3, f3⟩
    · rintro σ' H3 ⟨v1, v2, kb, rfl, e3, d3, hN3, f3⟩
      rw [List.length_map, List.take_length] at d3 hN3
      k_offL
      exact k l kb H3 n1 e3 d3 hN3 ((f1.trans f2).up.drop (M := [db]) (f3.mono fun a h => by simp at h; rcases h with h | h <;> simp [h]) n1)
end
def spCalm (C : Addr) : Sp := fun vs H Q _ => ∃ (p da db dl : Addr) (N : NS), vs = [.ref p] ∧ NetAt C H p da db dl N ∧ N.Ok ∧ N.post.length < 1000 ∧ ∀ H', NetAt C H' p da db dl N.calm.1 → Fr [da, db] H H' → Q (.int N.calm.2) H'
section
variable {P : Program} {w : World} {K : PySem.W.Frag} {mg : Str → Option Value} {base : Heap} {CNet CMender CDesk CStore CWalk : Addr}
abbrev s_calm_round : Stmt := top 23
theorem sc_calm_round : FnScope ["net", "size", "nexts", "befores", "changed", "house", "asked", "named"] ["net"] (defScope s_calm_round) := ⟨rfl, rfl, rfl, by decide +kernel, rfl, by decide +kernel, by decide +kernel⟩
theorem ok_calm_round {f : Addr} {fd : FuncData} (F : Fun K "calm_round" "calm_round" s_calm_round f fd) (G_Net_nexts : GM P w K mg base CNet "nexts" 1 ["self"] (spNexts CNet)) (G_tell_all : GF P w K mg base "tell_all" 3 ["net", "nexts"] (spTellAll CNet)) (m_sorted : mg "sorted" = none) (G_between : GF P w K mg base "between" 2 ["size", "start", "place", "end"] spBetween) (G_Net_hold : GM P w K mg base CNet "hold" 2 ["self", "house", "target"] (spHold CNet)) (T : NetT K CNet) : FnOk P w K mg base CX0 4 f fd ["net"] (spCalm CNet) := by
  refine F.ok sc_calm_round (fun vs H Q E h => ?_) (fun cdv A outer s H vs Q E hr h => ?_)
  · obtain ⟨_, _, _, _, _, rfl, _⟩ := h; rfl
  · obtain ⟨p, da, db, dl, N, rfl, hN, ok, q, k⟩ := h
    refine ⟨_, (pss_cons (ps_set (i := 1) sc_calm_round.nd rfl (Or.inl rfl) (pe_fldK (K := K) rfl (pv 0) (by rfl)))
      (pss_cons (ps_set (i := 2) sc_calm_round.nd rfl (Or.inl rfl) (c_mt0 G_Net_nexts (hr.mono (by decide)) (pv 0)))
      (pss_cons (ps_set (i := 3) sc_calm_round.nd rfl (Or.inl rfl) (c_fn G_tell_all (hr.mono (by decide)) (pa_cons (pv 0) (pa_cons (pv 2) pa_nil))))
      (pss_cons (ps_set (i := 4) sc_calm_round.nd rfl (Or.inl rfl) pe_int)
      (pss_cons (ps_for PassesOwn.never rfl (pi_listK (K := K) rfl (pe_callB (cb_sortD rfl) (by rfl) m_sorted b_sorted (pa_cons (pv 2) pa_nil))) (pg_name (i := 5) sc_calm_round.nd rfl (Or.inl rfl))
      (pss_cons (ps_set (i := 6) sc_calm_round.nd rfl (Or.inl rfl) (pe_dget (hu_of hr) (pv 2) (pv 5) (by intro _ _; rfl)))
      (pss_cons (ps_set (i := 7) sc_calm_round.nd rfl (Or.inl rfl) (pe_dget (hu_of hr) (pv 3) (pv 6) (by intro _ _; rfl)))
      (pss_one (ps_if (pt_val (c_fn G_between (hr.mono (by decide)) (pa_cons (pv 1) (pa_cons (pv 5) (pa_cons (pv 7) (pa_cons (pv 6) pa_nil)))))) (pss_cons (ps_expr (c_mt G_Net_hold (hr.mono (by decide)) (pv 0) (pa_cons (pv 5) (pa_cons (pv 7) pa_nil))))
      (pss_one (ps_aug (i := 4) sc_calm_round.nd rfl (Or.inl rfl) pe_int ip_add))) pss_nil)))))
      (pss_one (ps_ret (pv 4)))))))), ?_⟩
    (try simp only [cxK, cxKX, List.map])
    refine ent (σ' := [some _, none, none, none, none, none, none, none]) rfl ?_
    obtain ⟨⟨dx, hp⟩, _⟩ := id hN
    have hlen := ok.hl
    have h0 := ok.s0
    obtain ⟨c1, c2, _, _⟩ := calm_ok ok q
    k_offL
    refine ⟨p, da, db, dl, N, rfl, hN, ok, fun a H1 n1 e1 f1 => ?_⟩
    have hN1 := hN.ex f1
    obtain ⟨_, hb0, _⟩ := hN.bf
    obtain ⟨_, ha0, _⟩ := hN.nx
    have ab : a ≠ db := (ne_of_none hb0 n1).symm
    have aa : a ≠ da := (ne_of_none ha0 n1).symm
    k_offL
    refine ⟨p, da, db, dl, a, _, N, (), rfl, hN1, ok, q, e1, ok.dkn, ab, fun l kb H2 n2 e2 d2 hN2 f2 => ?_⟩
    have ha2 := f2.at_ _ _ e1 (mem_one ab)
    have lb : l ≠ db := by
      obtain ⟨_, hb1, _⟩ := hN1.bf
      exact (ne_of_none hb1 n2).symm
    have la : l ≠ da := by
      obtain ⟨_, hb1, _⟩ := hN1.nx
      exact (ne_of_none hb1 n2).symm
    k_offL
    refine r_sortD (.inl ha2) ok.dkn ok.ascF (by omega) fun l1 H3 n3 e3 f3 => ?_
    have hN3 := hN2.ex f3
    have l1a : l1 ≠ da := by
      obtain ⟨_, hb1, _⟩ := hN2.nx
      exact (ne_of_none hb1 n3).symm
    refine loopLF (M := [da]) (N.hs.map V.int) (sqL_of e3) (mem_one l1a) (fun i σ' H' => ∃ (v1 v2 v3 : Option V), σ' = [some (.ref p), some (.int N.size), some (.ref a), some (.ref l), some (.int ((N.cts N.hs).cas (N.hs.take i)).2), v1, v2, v3] ∧ NetAt CNet H' p da db dl ((N.cts N.hs).cas (N.hs.take i)).1 ∧ Fr [da] H3 H')
      ⟨_, _, _, rfl, hN3, Fr.refl _ _⟩ (fun i σ' H' ⟨_, _, _, _, _, f⟩ => f) ?_ ?_
    · rintro i x σ' H4 hi ⟨v1, v2, v3, rfl, hN4, f4⟩
      obtain ⟨h, hh, hm, rfl⟩ := mem_ints hi
      have hts := take_snoc hh
      have c := cas_ok c1.ok (by rw [c1.po]; exact q) N.hs ok.nd (fun h hh => ⟨by rw [c1.hs]; exact hh, by rw [c1.f]; exact c2 h hh⟩) i
      have nt : h ∉ N.hs.take i := by
        obtain ⟨h1, h2⟩ := List.getElem?_eq_some_iff.mp hh
        rw [← h2]; exact not_took ok.nd h1
      rw [hts, cas_snoc]
      revert c hN4
      generalize (N.cts N.hs).cas (N.hs.take i) = Mc
      obtain ⟨M, cc⟩ := Mc
      intro hN4 c
      have hf : M.f h = N.f h := by rw [c.f h nt, c1.f]
      obtain ⟨y, hy⟩ := Option.isSome_iff_exists.mp (c2 h hm)
      have hyM : M.b (M.f h) = some y := by rw [hf, c.b]; exact hy
      obtain ⟨ce1, ce2⟩ := ca_eq hyM
      obtain ⟨⟨dx4, hp4⟩, _⟩ := id hN4
      have zz : M.size = N.size := c.z.trans c1.z
      have hsz : M.hs = N.hs := c.hs.trans c1.hs
      rw [hf, zz] at ce1 ce2
      show SetK _ _ _ _ _
      k_offL
      refine dgetk (.inl (f4.at_ _ _ (f3.at_ _ _ ha2 List.not_mem_nil) (mem_one aa))) (by rw [ok.dkn.val, NS.mf_at hm]) ?_
      k_offL
      refine dgetk (v := .int y) (.inl (f4.at_ _ _ (f3.at_ _ _ e2 List.not_mem_nil) (mem_one la))) (by rw [d2.val]; show ((N.cts N.hs).b (N.f h)).map V.int = _; rw [hy]; rfl) ?_
      k_offL
      refine i_between h0 ?_
      k_offL
      refine ifB (fun e => ?_) (fun e => ?_)
      · rw [if_pos e] at ce1 ce2
        k_offL
        refine ⟨p, da, db, dl, M, h, y, rfl, hN4, hsz ▸ hm, (c.ok.bh _ y hyM).2, c.ok, fun H5 hN5 f5 => ?_⟩
        k_offL
        refine ⟨some (V.int h), some (.int (N.f h)), some (.int y), ?_, ?_, f4.trans f5⟩
        · show _ = [_, _, _, _, some (V.int (cc + M.cn h)), _, _, _]
          rw [ce2]
        · show NetAt CNet H5 p da db dl (M.ca h)
          rw [ce1]; exact hN5
      · rw [if_neg (by rw [e]; decide)] at ce1 ce2
        k_offL
        refine ⟨some (V.int h), some (.int (N.f h)), some (.int y), ?_, ?_, f4⟩
        · show _ = [_, _, _, _, some (V.int (cc + M.cn h)), _, _, _]
          rw [ce2, Int.add_zero]
        · show NetAt CNet H4 p da db dl (M.ca h)
          rw [ce1]; exact hN4
    · rintro σ' H4 ⟨v1, v2, v3, rfl, hN4, f4⟩
      rw [List.length_map, List.take_length] at hN4 ⊢
      k_offL
      exact k H4 hN4 (((f1.up.trans (f2.mono fun a h => by simp at h; simp [h])).trans f3.up).trans (f4.mono fun a h => by simp at h; simp [h]))
end
end RL
set_option synthInstance.maxHeartbeats 4000000
set_option synthInstance.maxSize 4000
namespace RL
def NS.emp (N : NS) : NS := { N with post := [] }
section
variable {N : NS} {h v u x : Int}
theorem NS.Ok.emp (ok : N.Ok) : N.emp.Ok := ⟨ok.s0, ok.s1, ok.up, ok.on, ok.fh, ok.bh, (fun _ h => nomatch h), ok.hl, Nat.zero_le _⟩
theorem emp_tell : (N.emp.readL (.tell v u)).1 = (N.readL (.tell v u)).1.emp := by
  simp only [NS.readL]
  show (match N.b v with | none => _ | some b => _ : NS × List V).1 = _
  cases N.b v with
  | none => rfl
  | some b =>
    simp only []
    show (if btw N.size b u v = true then _ else _ : NS × List V).1 = _
    split <;> rfl
theorem emp_ans : (N.emp.readL (.ans u v x)).1 = (N.readL (.ans u v x)).1.emp := by
  show (if N.f u = v ∧ btw N.size u x v = true then _ else _ : NS × List V).1 = (if N.f u = v ∧ btw N.size u x v = true then _ else _ : NS × List V).1.emp
  split <;> rfl
theorem emp_ask (e : N.b v = some x) : (N.emp.readL (.ask v u)).1 = N.emp.push (.ans u v x) := by
  simp only [NS.readL]
  show (match N.b v with | none => _ | some b => _ : NS × List V).1 = _
  rw [e]
end
section
variable {P : Program} {w : World} {K : PySem.W.Frag} {mg : Str → Option Value} {base : Heap} {CNet CMender CDesk CStore CWalk : Addr}
abbrev s__law_exchange : Stmt := top 48
theorem sc__law_exchange : FnScope ["tape", "net", "size", "nexts", "behinds", "post", "houses", "house", "at"] ["tape", "net", "size", "nexts", "behinds", "post"] (defScope s__law_exchange) := ⟨rfl, rfl, rfl, by decide +kernel, rfl, by decide +kernel, by decide +kernel⟩
theorem ok__law_exchange {f : Addr} {fd : FuncData} (F : Fun K "_law_exchange" "_law_exchange" s__law_exchange f fd) (m_sorted : mg "sorted" = none) (G__law_pick : GF P w K mg base "_law_pick" 1 ["tape", "size"] spPick) (m_len : mg "len" = none) (G__law_same : GF P w K mg base "_law_same" 5 ["actual", "due"] (spSame 4)) (G_Net_tell : GM P w K mg base CNet "tell" 3 ["self", "house"] (spTell CNet)) (G__law_read : GF P w K mg base "_law_read" 3 ["size", "nexts", "behinds", "post", "at"] spLawRead) (G_Net_read : GM P w K mg base CNet "read" 4 ["self", "at"] (spRead CNet)) (G_Net_ask : GM P w K mg base CNet "ask" 3 ["self", "house"] (spAsk CNet)) (T : NetT K CNet) : FnOk P w K mg base CX0 6 f fd ["tape", "net", "size", "nexts", "behinds", "post"] (spDeed CNet) := by
  refine F.ok sc__law_exchange (fun vs H Q E h => ?_) (fun cdv A outer s H vs Q E hr h => ?_)
  · obtain ⟨_, _, _, _, rfl, _⟩ := h; rfl
  · obtain ⟨A, N, _, _, rfl, W, ok, hpos, hpl, k⟩ := h
    unfold lawArgs
    refine ⟨_, (pss_cons (ps_set (i := 6) sc__law_exchange.nd rfl (Or.inl rfl) (pe_callB (cb_sortD rfl) (by rfl) m_sorted b_sorted (pa_cons (pv 3) pa_nil)))
      (pss_cons (ps_set (i := 7) sc__law_exchange.nd rfl (Or.inl rfl) (pe_ix (ix_listK (K := K) rfl) (pv 6) (c_fn G__law_pick (hr.mono (by decide)) (pa_cons (pv 0) (pa_cons (pe_callB (cb_lenSK (K := K) rfl) (by rfl) m_len b_len (pa_cons (pv 6) pa_nil)) pa_nil))) (by intro _ _; rfl)))
      (pss_cons (ps_set (i := 8) sc__law_exchange.nd rfl (Or.inl rfl) (pe_callB (cb_lenSK (K := K) rfl) (by rfl) m_len b_len (pa_cons (pv 5) pa_nil)))
      (pss_cons (ps_if (pt_cmpR op_gt (pv 8) pe_int (nomark _)) (pss_one (ps_ret pe_bl)) pss_nil)
      (pss_cons (ps_expr (pe_bmK (K := K) rfl PySem.F.plainAttrs_list PySem.F.slot_list_append PySem.F.type_list_append mt_append (pv 5) (pa_cons (pe_tup (pa_cons pe_str (pa_cons (pe_dget (hu_of hr) (pv 3) (pv 7) (by intro _ _; rfl)) (pa_cons (pv 7) pa_nil)))) pa_nil)))
      (pss_cons (ps_if (pt_not (pt_val (c_fn G__law_same (hr.mono (by decide)) (pa_cons (c_mt G_Net_tell (hr.mono (by decide)) (pv 1) (pa_cons (pv 7) pa_nil)) (pa_cons (pe_tup (pa_cons pe_str (pa_cons (pe_dget (hu_of hr) (pv 3) (pv 7) (by intro _ _; rfl)) (pa_cons (pv 7) pa_nil)))) pa_nil))))) (pss_one (ps_ret pe_bl)) pss_nil)
      (pss_cons (ps_if (pt_not (pt_val (c_fn G__law_same (hr.mono (by decide)) (pa_cons (c_mt G_Net_read (hr.mono (by decide)) (pv 1) (pa_cons (pv 8) pa_nil)) (pa_cons (c_fn G__law_read (hr.mono (by decide)) (pa_cons (pv 2) (pa_cons (pv 3) (pa_cons (pv 4) (pa_cons (pv 5) (pa_cons (pv 8) pa_nil)))))) pa_nil))))) (pss_one (ps_ret pe_bl)) pss_nil)
      (pss_cons (ps_expr (pe_bmK (K := K) rfl PySem.F.plainAttrs_list PySem.F.slot_list_append PySem.F.type_list_append mt_append (pv 5) (pa_cons (pe_tup (pa_cons pe_str (pa_cons (pe_dget (hu_of hr) (pv 3) (pv 7) (by intro _ _; rfl)) (pa_cons (pv 7) pa_nil)))) pa_nil)))
      (pss_cons (ps_if (pt_not (pt_val (c_fn G__law_same (hr.mono (by decide)) (pa_cons (c_mt G_Net_ask (hr.mono (by decide)) (pv 1) (pa_cons (pv 7) pa_nil)) (pa_cons (pe_tup (pa_cons pe_str (pa_cons (pe_dget (hu_of hr) (pv 3) (pv 7) (by intro _ _; rfl)) (pa_cons (pv 7) pa_nil)))) pa_nil))))) (pss_one (ps_ret pe_bl)) pss_nil)
      (pss_cons (ps_if (pt_not (pt_val (c_fn G__law_same (hr.mono (by decide)) (pa_cons (c_mt G_Net_read (hr.mono (by decide)) (pv 1) (pa_cons (pv 8) pa_nil)) (pa_cons (c_fn G__law_read (hr.mono (by decide)) (pa_cons (pv 2) (pa_cons (pv 3) (pa_cons (pv 4) (pa_cons (pv 5) (pa_cons (pv 8) pa_nil)))))) pa_nil))))) (pss_one (ps_ret pe_bl)) pss_nil)
      (pss_one (ps_ret (pe_or (pe_cmpR op_eq (pe_callB (cb_lenSK (K := K) rfl) (by rfl) m_len b_len (pa_cons (pv 5) pa_nil)) (pv 8) (nomark _)) (pe_one (c_fn G__law_same (hr.mono (by decide)) (pa_cons (c_mt G_Net_read (hr.mono (by decide)) (pv 1) (pa_cons (pv 8) pa_nil)) (pa_cons (c_fn G__law_read (hr.mono (by decide)) (pa_cons (pv 2) (pa_cons (pv 3) (pa_cons (pv 4) (pa_cons (pv 5) (pa_cons (pv 8) pa_nil)))))) pa_nil))))))))))))))))), ?_⟩
    (try simp only [cxK, cxKX, List.map])
    refine ent (σ' := [some _, some _, some _, some _, some _, some _, none, none, none]) rfl ?_
    obtain ⟨dn_dp, dk_dp, dn_tp, dk_tp, dp_tp⟩ := W.ne
    obtain ⟨kn, hn, dN⟩ := W.tab.nx
    obtain ⟨lv, hl, ls⟩ := W.tab.ls
    have hlen := ok.hl
    have lvl := ls.len
    k_offL
    refine r_sortD (.inl hn) dN ok.ascF (by omega) fun l1 H1 n1 e1 f1 => ?_
    have W1 := W.ex0 f1
    obtain ⟨_, _, _, _, _, tt1, _⟩ := W.tape.ex
    have h1t : l1 ≠ A.tp := (ne_of_none tt1 n1).symm
    k_offL
    refine r_lenL (sqL_of e1) ?_
    rw [List.length_map]
    k_offL
    refine i_pick W1.tape (by omega) (by omega) fun m2 H2 a2 b2 t2 f2 => ?_
    have W2 := W1.tape' f2 t2
    have g2 : m2.toNat < N.hs.length := by omega
    have e12 : H2 l1 = some (.lst (N.hs.map V.int)) := f2.at_ _ _ e1 (mem_one h1t)
    refine r_ixL (sqL_of e12) (ix_at m2.toNat (by omega) (ints_get g2)) ?_
    have hh : N.hs[m2.toNat] ∈ N.hs := List.getElem_mem g2
    revert hh
    generalize N.hs[m2.toNat] = h0
    intro hh
    have fr2 : Fr A.all H H2 := f1.up.trans f2.tape
    have hl2 : H2 A.dp = some (.lst lv) := f2.at_ _ _ (f1.at_ _ _ hl List.not_mem_nil) (mem_one dp_tp)
    have hn2 : H2 A.dn = some (.dK kn) := f2.at_ _ _ (f1.at_ _ _ hn List.not_mem_nil) (mem_one dn_tp)
    k_offL
    refine r_lenL (sqL_of hl2) ?_
    rw [lvl]
    k_offL
    refine ifD (fun e => ?_) (fun e => ?_)
    · k_offL
      exact k N H2 (.refl N) hpl W2 fr2
    have h50 : N.post.length ≤ 50 := by omega
    k_offL
    refine dgetk (.inl hn2) (by rw [dN.val, NS.mf_at hh]) ?_
    k_offL
    refine tupk (by show 3 ≤ 100000; decide) fun t4 H4 n4 e4 f4 => ?_
    have hl4 := f4.at_ _ _ hl2 List.not_mem_nil
    k_offL
    refine r_app hl4 (by omega) fun H5 e5 f5 => ?_
    have W5 := W2.tab' (f4.up.trans f5.dp) (W2.tab.push (l := .tell (N.f h0) h0) hl2 f4 e4 e5 f5 dn_dp dk_dp)
    have fr5 : Fr A.all H H5 := fr2.trans (f4.up.trans f5.dp).tab
    obtain ⟨dx5, hp5⟩ := W5.net.ob
    obtain ⟨kn5, hn5, dN5⟩ := W5.tab.nx
    k_offL
    refine ⟨A.p, A.da, A.db, A.dl, N, h0, rfl, W5.net, hh, ok, fun t6 H6 e6 hN6 f6 => ?_⟩
    have W6 := W5.net' f6.dl hN6
    have fr6 : Fr A.all H H6 := fr5.trans f6.dl.net
    have hn6 := f6.dl.at_ _ _ hn5 W.off.1
    k_offL
    refine dgetk (.inl hn6) (by rw [dN5.val]; exact NS.mf_at hh) ?_
    k_offL
    refine tupk (by show 3 ≤ 100000; decide) fun t7 H7 n7 e7 f7 => ?_
    k_offL
    refine i_sameT (f7.tp _ _ e6) e7 (lt_flat (.tell (N.f h0) h0)) (by have := lt_len (.tell (N.f h0) h0); omega) fun H8 f8 => ?_
    have W8 := (W6.ex0 f7).ex0 f8
    have fr8 : Fr A.all H H8 := (fr6.trans f7.up).trans f8.up
    have s1 := Small.tell N h0 hh (by omega)
    have ok8 := s1.ok ok
    k_offL
    obtain ⟨dx8, hp8⟩ := W8.net.ob
    k_offL
    refine ⟨A.p, A.da, A.db, A.dl, _, N.post.length, _, rfl, W8.net, push_at, ok8, fun t9 H9 e9 hN9 f9 => ?_⟩
    have W9 := W8.net' f9 hN9
    k_offL
    refine ⟨A.dn, A.dk, A.dp, N.push (.tell (N.f h0) h0), N.post.length, _, (), (), (), rfl, W9.tab, ok8, push_at, fun ta Ha ea Ta fa => ?_⟩
    have Wa := W9.tab' fa Ta
    have fra : Fr A.all H Ha := (fr8.trans f9.net).trans fa.tab
    have s2 : Steps N (N.ct h0) := ct_steps ok hh (by omega)
    rw [push_read] at Wa e9 ea
    have cok : CtOk N (N.ct h0) := (CtOk.refl ok).more hh (by omega)
    k_offL
    refine i_sameT (fa.tp _ _ e9) ea (read_flat _ _) (by rw [readL_vs]; decide) fun Hb fb => ?_
    have Wb : WW CNet Hb A (N.ct h0) (N.ct h0) := Wa.ex0 fb
    have frb : Fr A.all H Hb := fra.trans fb.up
    revert s2 cok Wb
    generalize N.ct h0 = M
    intro s2 cok Wb
    have okM := cok.ok
    have hM : h0 ∈ M.hs := cok.hs ▸ hh
    have zM : M.size = N.size := cok.z
    have pM : M.post.length = N.post.length := by rw [cok.po]
    have fM : M.f h0 = N.f h0 := by rw [cok.f]
    obtain ⟨knb, hnb, dNb⟩ := Wb.tab.nx
    obtain ⟨lvb, hlb, lsb⟩ := Wb.tab.ls
    have lvbl := lsb.len
    k_offL
    refine dgetk (.inl hnb) (by rw [dNb.val, NS.mf_at hM]) ?_
    k_offL
    refine tupk (by show 3 ≤ 100000; decide) fun tc Hc nc ec fc => ?_
    have hlc := fc.at_ _ _ hlb List.not_mem_nil
    k_offL
    refine r_app hlc (by omega) fun Hd ed fd' => ?_
    have Wd := Wb.tab' (fc.up.trans fd'.dp) (Wb.tab.push (l := .ask (M.f h0) h0) hlb fc ec ed fd' dn_dp dk_dp)
    have frd : Fr A.all H Hd := frb.trans (fc.up.trans fd'.dp).tab
    obtain ⟨dxd, hpd⟩ := Wd.net.ob
    obtain ⟨knd, hnd, dNd⟩ := Wd.tab.nx
    k_offL
    refine ⟨A.p, A.da, A.db, A.dl, M, h0, rfl, Wd.net, hM, okM, fun te He ee hNe fe => ?_⟩
    have We := Wd.net' fe.dl hNe
    have fre : Fr A.all H He := frd.trans fe.dl.net
    have hne := fe.dl.at_ _ _ hnd W.off.1
    k_offL
    refine dgetk (.inl hne) (by rw [dNd.val]; exact NS.mf_at hM) ?_
    k_offL
    refine tupk (by show 3 ≤ 100000; decide) fun tf Hf nf ef ff => ?_
    k_offL
    refine i_sameT (ff.tp _ _ ee) ef (lt_flat (.ask (M.f h0) h0)) (by have := lt_len (.ask (M.f h0) h0); omega) fun Hg fg => ?_
    have Wg := (We.ex0 ff).ex0 fg
    have frg : Fr A.all H Hg := (fre.trans ff.up).trans fg.up
    have s3 := Small.ask M h0 hM (by omega)
    have okg := s3.ok okM
    obtain ⟨dxg, hpg⟩ := Wg.net.ob
    have atM : (N.post.length : Int) = (M.post.length : Int) := by rw [pM]
    rw [atM, ← zM]
    k_offL
    refine ⟨A.p, A.da, A.db, A.dl, _, M.post.length, _, rfl, Wg.net, push_at, okg, fun th Hh eh hNh fh => ?_⟩
    have Wh := Wg.net' fh hNh
    k_offL
    refine ⟨A.dn, A.dk, A.dp, M.push (.ask (M.f h0) h0), M.post.length, _, (), (), (), rfl, Wh.tab, okg, push_at, fun ti Hi ei Ti fi => ?_⟩
    have Wi := Wh.tab' fi Ti
    have fri : Fr A.all H Hi := (frg.trans fh.net).trans fi.tab
    have s4 := Small.read _ _ _ (push_at (N := M) (l := .ask (M.f h0) h0))
    rw [push_read] at Wi eh ei s4
    k_offL
    refine i_sameT (fi.tp _ _ eh) ei (read_flat _ _) (by rw [readL_vs]; decide) fun Hj fj => ?_
    have Wj := Wi.ex0 fj
    have frj : Fr A.all H Hj := fri.trans fj.up
    have s5 : Steps N (M.readL (.ask (M.f h0) h0)).1 := .more (.more s2 s3) s4
    have okj := s5.ok ok
    obtain ⟨lvj, hlj, lsj⟩ := Wj.tab.ls
    k_offL
    refine r_lenL (sqL_of hlj) ?_
    rw [lsj.len]
    have hwr : (M.readL (.ask (M.f h0) h0)).1 = M ∨ ∃ x, (M.readL (.ask (M.f h0) h0)).1 = M.push (.ans h0 (M.f h0) x) := by
      simp only [NS.readL]
      cases M.b (M.f h0) with
      | none => exact .inl rfl
      | some x => exact .inr ⟨x, rfl⟩
    rcases hwr with e | ⟨x, e⟩ <;> rw [e] at Wj s5 okj ⊢
    · k_offL
      refine ifDT (by rfl) ?_
      exact k M Hj s5 (by omega) Wj frj
    · k_offL
      refine ifDF (by rw [push_len]; omega) ?_
      obtain ⟨dxj, hpj⟩ := Wj.net.ob
      k_offL
      refine ⟨A.p, A.da, A.db, A.dl, _, M.post.length, _, rfl, Wj.net, push_at, okj, fun tk Hk ek hNk fk => ?_⟩
      have Wk := Wj.net' fk hNk
      k_offL
      refine ⟨A.dn, A.dk, A.dp, M.push (.ans h0 (M.f h0) x), M.post.length, _, (), (), (), rfl, Wk.tab, okj, push_at, fun tm Hm em Tm fm => ?_⟩
      have Wm := Wk.tab' fm Tm
      have frm : Fr A.all H Hm := (frj.trans fk.net).trans fm.tab
      have s6 := Small.read _ _ _ (push_at (N := M) (l := .ans h0 (M.f h0) x))
      have ln := read_len (push_at (N := M) (l := .ans h0 (M.f h0) x))
      rw [push_len] at ln
      k_offL
      refine i_sameT (fm.tp _ _ ek) em (read_flat _ _) (by rw [show ((M.push (.ans h0 (M.f h0) x)).read M.post.length _).2.length = 3 from readL_vs _ _]; decide) fun Hn fn => ?_
      k_offL
      exact k _ Hn (.more s5 s6) (by omega) (Wm.ex0 fn) (frm.trans fn.up)
end
def spLawCalm : Sp := fun vs H Q _ => ∃ (dn dk dp : Addr) (N : NS) (_ _ _ _ : Unit), vs = [.int N.size, .ref dn, .ref dk] ∧ TabAt H dn dk dp N ∧ N.Ok ∧ N.post.length < 1000 ∧ dn ≠ dp ∧ dk ≠ dp ∧ ∀ H', TabAt H' dn dk dp N.calm.1 → Fr [dn, dk] H H' → Q (.int N.calm.2) H'
theorem TabAt.desk {H : Hp} {dn dk dp d : Addr} {N : NS} (T : TabAt H dn dk dp N) (e : H d = some (.lst [])) : TabAt H dn dk d N.emp := ⟨T.nx, T.bf, ⟨[], e, .nil⟩, T.ne⟩
theorem TabAt.back {H H' : Hp} {dn dk dp d : Addr} {N M : NS} {m : List Addr} (T : TabAt H dn dk dp N) (f : Fr m H H') (n : dp ∉ m) (T' : TabAt H' dn dk d M.emp) (e : M.post = N.post) : TabAt H' dn dk dp M := by
  obtain ⟨lv, hl, ls⟩ := T.ls
  exact ⟨T'.nx, T'.bf, ⟨lv, f.at_ _ _ hl n, by rw [e]; exact ls.fr f⟩, T'.ne⟩
section
variable {P : Program} {w : World} {K : PySem.W.Frag} {mg : Str → Option Value} {base : Heap} {CNet CMender CDesk CStore CWalk : Addr}
abbrev s__law_calm : Stmt := top 49
theorem sc__law_calm : FnScope ["size", "nexts", "behinds", "desk", "house", "changed"] ["size", "nexts", "behinds"] (defScope s__law_calm) := ⟨rfl, rfl, rfl, by decide +kernel, rfl, by decide +kernel, by decide +kernel⟩
theorem ok__law_calm {f : Addr} {fd : FuncData} (F : Fun K "_law_calm" "_law_calm" s__law_calm f fd) (m_sorted : mg "sorted" = none) (G__law_read : GF P w K mg base "_law_read" 3 ["size", "nexts", "behinds", "post", "at"] spLawRead) : FnOk P w K mg base CX0 4 f fd ["size", "nexts", "behinds"] spLawCalm := by
  refine F.ok sc__law_calm (fun vs H Q E h => ?_) (fun cdv A outer s H vs Q E hr h => ?_)
  · obtain ⟨_, _, _, _, _, _, _, _, rfl, _⟩ := h; rfl
  · obtain ⟨dn, dk, dp, N, _, _, _, _, rfl, T, ok, q, np, kp, k⟩ := h
    refine ⟨_, (pss_cons (ps_set (i := 3) sc__law_calm.nd rfl (Or.inl rfl) (pe_lst pa_nil))
      (pss_cons (ps_for PassesOwn.never rfl (pi_listK (K := K) rfl (pe_callB (cb_sortD rfl) (by rfl) m_sorted b_sorted (pa_cons (pv 1) pa_nil))) (pg_name (i := 4) sc__law_calm.nd rfl (Or.inl rfl))
      (pss_cons (ps_expr (pe_bmK (K := K) rfl PySem.F.plainAttrs_list PySem.F.slot_list_append PySem.F.type_list_append mt_append (pv 3) (pa_cons (pe_tup (pa_cons pe_str (pa_cons (pe_dget (hu_of hr) (pv 1) (pv 4) (by intro _ _; rfl)) (pa_cons (pv 4) pa_nil)))) pa_nil)))
      (pss_one (ps_expr (c_fn G__law_read (hr.mono (by decide)) (pa_cons (pv 0) (pa_cons (pv 1) (pa_cons (pv 2) (pa_cons (pv 3) (pa_cons pe_int pa_nil))))))))))
      (pss_cons (ps_set (i := 5) sc__law_calm.nd rfl (Or.inl rfl) pe_int)
      (pss_cons (ps_for PassesOwn.never rfl (pi_listK (K := K) rfl (pe_callB (cb_sortD rfl) (by rfl) m_sorted b_sorted (pa_cons (pv 1) pa_nil))) (pg_name (i := 4) sc__law_calm.nd rfl (Or.inl rfl))
      (pss_cons (ps_expr (pe_bmK (K := K) rfl PySem.F.plainAttrs_list PySem.F.slot_list_append PySem.F.type_list_append mt_append (pv 3) (pa_cons (pe_tup (pa_cons pe_str (pa_cons (pe_dget (hu_of hr) (pv 1) (pv 4) (by intro _ _; rfl)) (pa_cons (pv 4) pa_nil)))) pa_nil)))
      (pss_cons (ps_expr (c_fn G__law_read (hr.mono (by decide)) (pa_cons (pv 0) (pa_cons (pv 1) (pa_cons (pv 2) (pa_cons (pv 3) (pa_cons pe_int pa_nil)))))))
      (pss_one (ps_if (pt_cmpR op_eq (pe_ix (ix_tupK (K := K) rfl) (c_fn G__law_read (hr.mono (by decide)) (pa_cons (pv 0) (pa_cons (pv 1) (pa_cons (pv 2) (pa_cons (pv 3) (pa_cons pe_int pa_nil)))))) pe_int (by intro _ _; rfl)) pe_str (nomark _)) (pss_one (ps_set (i := 5) sc__law_calm.nd rfl (Or.inl rfl) (pe_op op_add (pv 5) pe_int))) pss_nil)))))
      (pss_one (ps_ret (pv 5))))))), ?_⟩
    (try simp only [cxK, cxKX, List.map])
    refine ent (σ' := [some _, some _, some _, none, none, none]) rfl ?_
    obtain ⟨kn, hn, dN⟩ := T.nx
    obtain ⟨kb, hb, dB⟩ := T.bf
    obtain ⟨lv, hl, ls⟩ := T.ls
    have hlen := ok.hl
    obtain ⟨c1, c2, c3, c4⟩ := calm_ok ok q
    k_offL
    refine lstk (by show 0 ≤ 100000; decide) fun d H1 n1 e1 f1 => ?_
    have nd : dn ≠ d := ne_of_none hn n1
    have kd : dk ≠ d := ne_of_none hb n1
    have pd : dp ≠ d := ne_of_none hl n1
    have T1 := (T.ex f1).desk e1
    k_offL
    refine r_sortD (.inl (f1.at_ _ _ hn List.not_mem_nil)) dN ok.ascF (by omega) fun l1 H2 n2 e2 f2 => ?_
    have T2 := T1.ex f2
    have hl1 : l1 ∉ [dn, dk, d] := by
      have h1 := ne_of_none (f1.at_ _ _ hn List.not_mem_nil) n2
      have h2 := ne_of_none (f1.at_ _ _ hb List.not_mem_nil) n2
      have h3 := ne_of_none e1 n2
      simp [h1.symm, h2.symm, h3.symm]
    have ml : ∀ a ∈ [d], a ∈ [dn, dk, d] := fun a h => by simp at h; simp [h]
    refine loopLF (M := [dn, dk, d]) (N.hs.map V.int) (sqL_of e2) hl1 (fun i σ' H' => ∃ (v1 v2 : Option V), σ' = [some (.int N.size), some (.ref dn), some (.ref dk), some (.ref d), v1, v2] ∧ TabAt H' dn dk d (N.cts (N.hs.take i)).emp ∧ Fr [dn, dk, d] H2 H')
      ⟨_, _, rfl, by rw [List.take_zero]; exact T2, Fr.refl _ _⟩ (fun i σ' H' ⟨_, _, _, _, f⟩ => f) ?_ ?_
    · rintro i x σ' H3 hi ⟨v1, v2, rfl, T3, f3⟩
      obtain ⟨h, hh, hm, rfl⟩ := mem_ints hi
      have c := cts_ok ok q N.hs (fun _ h => h) i
      rw [take_snoc hh, cts_snoc]
      revert c T3
      generalize N.cts (N.hs.take i) = M
      intro T3 c
      have hm' : h ∈ M.hs := c.hs ▸ hm
      obtain ⟨kn3, hn3, dN3⟩ := T3.nx
      obtain ⟨lv3, hl3, ls3⟩ := T3.ls
      obtain rfl : lv3 = [] := List.eq_nil_of_length_eq_zero ls3.len
      k_offL
      refine dgetk (.inl hn3) (by rw [dN3.val]; exact NS.mf_at (N := M.emp) hm') ?_
      k_offL
      refine tupk (by show 3 ≤ 100000; decide) fun t4 H4 n4 e4 f4 => ?_
      have hl4 := f4.at_ _ _ hl3 List.not_mem_nil
      k_offL
      refine r_app hl4 (by decide) fun H5 e5 f5 => ?_
      have T5 := T3.push (l := .tell (M.f h) h) hl3 f4 e4 e5 f5 nd kd
      have ok5 : (M.emp.push (.tell (M.f h) h)).Ok := c.ok.emp.push (pl2 (c.ok.fh h hm') hm') (show 0 < 1000 by decide)
      k_offL
      refine ⟨dn, dk, d, M.emp.push (.tell (M.f h) h), 0, .tell (M.f h) h, (), (), (), ?_, T5, ok5, rfl, fun t6 H6 e6 T6 f6 => ?_⟩
      · show [V.int N.size, _, _, _, _] = [V.int M.size, _, _, _, _]
        rw [c.z]; rfl
      rw [show (0 : Nat) = M.emp.post.length from rfl, push_read, emp_tell] at T6
      k_offL
      exact ⟨_, _, rfl, T6, (f3.trans ((f4.up.trans f5).mono ml)).trans f6⟩
    · rintro σ' H3 ⟨v1, v2, rfl, T3, f3⟩
      rw [List.length_map, List.take_length] at T3
      obtain ⟨kn3, hn3, dN3⟩ := T3.nx
      have ok1 := c1.ok
      k_offL
      refine r_sortD (.inl hn3) dN3 ok1.emp.ascF (by have := ok1.hl; show (N.cts N.hs).hs.length < 64; omega) fun l4 H4 n4 e4 f4 => ?_
      have T4 := T3.ex f4
      have hs4 : (N.cts N.hs).emp.hs = N.hs := c1.hs
      rw [hs4] at e4
      have hl4 : l4 ∉ [dn, dk, d] := by
        obtain ⟨_, hb3, _⟩ := T3.bf
        obtain ⟨_, hl3, _⟩ := T3.ls
        have h1 := ne_of_none hn3 n4
        have h2 := ne_of_none hb3 n4
        have h3 := ne_of_none hl3 n4
        simp [h1.symm, h2.symm, h3.symm]
      refine loopLF (M := [dn, dk, d]) (N.hs.map V.int) (sqL_of e4) hl4 (fun i σ' H' => ∃ (v1 : Option V), σ' = [some (.int N.size), some (.ref dn), some (.ref dk), some (.ref d), v1, some (.int ((N.cts N.hs).cas (N.hs.take i)).2)] ∧ TabAt H' dn dk d ((N.cts N.hs).cas (N.hs.take i)).1.emp ∧ Fr [dn, dk, d] H4 H')
        ⟨_, rfl, T4, Fr.refl _ _⟩ (fun i σ' H' ⟨_, _, _, f⟩ => f) ?_ ?_
      · rintro i x σ' H5 hi ⟨v1, rfl, T5, f5⟩
        obtain ⟨h, hh, hm, rfl⟩ := mem_ints hi
        have c := cas_ok c1.ok (by rw [c1.po]; exact q) N.hs ok.nd (fun h hh => ⟨by rw [c1.hs]; exact hh, by rw [c1.f]; exact c2 h hh⟩) i
        have nt : h ∉ N.hs.take i := by
          obtain ⟨h1, h2⟩ := List.getElem?_eq_some_iff.mp hh
          rw [← h2]; exact not_took ok.nd h1
        rw [take_snoc hh, cas_snoc]
        revert c T5
        generalize (N.cts N.hs).cas (N.hs.take i) = Mc
        obtain ⟨M, cc⟩ := Mc
        intro T5 c
        have hf : M.f h = N.f h := by rw [c.f h nt, c1.f]
        obtain ⟨y, hy⟩ := Option.isSome_iff_exists.mp (c2 h hm)
        have hyM : M.b (M.f h) = some y := by rw [hf, c.b]; exact hy
        obtain ⟨ce1, ce2⟩ := ca_eq hyM
        have zz : M.size = N.size := c.z.trans c1.z
        have hsz : M.hs = N.hs := c.hs.trans c1.hs
        have hm' : h ∈ M.hs := hsz ▸ hm
        have hM := c.ok
        obtain ⟨kn5, hn5, dN5⟩ := T5.nx
        obtain ⟨lv5, hl5, ls5⟩ := T5.ls
        obtain rfl : lv5 = [] := List.eq_nil_of_length_eq_zero ls5.len
        show SetK _ _ _ _ _
        k_offL
        refine dgetk (.inl hn5) (by rw [dN5.val]; exact NS.mf_at (N := M.emp) hm') ?_
        k_offL
        refine tupk (by show 3 ≤ 100000; decide) fun t6 H6 n6 e6 f6 => ?_
        have hl6 := f6.at_ _ _ hl5 List.not_mem_nil
        k_offL
        refine r_app hl6 (by decide) fun H7 e7 f7 => ?_
        have T7 := T5.push (l := .ask (M.f h) h) hl5 f6 e6 e7 f7 nd kd
        have ok7 : (M.emp.push (.ask (M.f h) h)).Ok := hM.emp.push (pl2 (hM.fh h hm') hm') (show 0 < 1000 by decide)
        k_offL
        refine ⟨dn, dk, d, M.emp.push (.ask (M.f h) h), 0, .ask (M.f h) h, (), (), (), ?_, T7, ok7, rfl, fun t8 H8 e8 T8 f8 => ?_⟩
        · show [V.int N.size, _, _, _, _] = [V.int M.size, _, _, _, _]
          rw [zz]; rfl
        rw [show (0 : Nat) = M.emp.post.length from rfl, push_read, emp_ask hyM] at T8
        have ok8 : (M.emp.push (.ans h (M.f h) y)).Ok := hM.emp.push (pl3 hm' (hM.fh h hm') (hM.bh _ y hyM).2) (show 0 < 1000 by decide)
        k_offL
        refine ⟨dn, dk, d, M.emp.push (.ans h (M.f h) y), 0, .ans h (M.f h) y, (), (), (), ?_, T8, ok8, rfl, fun t9 H9 e9 T9 f9 => ?_⟩
        · show [V.int N.size, _, _, _, _] = [V.int M.size, _, _, _, _]
          rw [zz]; rfl
        rw [show (0 : Nat) = M.emp.post.length from rfl, push_read] at T9 e9
        rw [emp_ans] at T9
        have ex : (M.readL (.ans h (M.f h) y)).1 = M.ca h := by unfold NS.ca; rw [hyM]
        rw [ex] at T9
        have f59 : Fr [dn, dk, d] H5 H9 := (((f6.up.trans f7).mono ml).trans f8).trans f9
        by_cases hbt : btw M.size h y (M.f h) = true
        · have er : (M.emp.readL (.ans h (M.f h) y)).2 = [.str "next", .int h, .int y] := congrArg Prod.snd (if_pos (⟨rfl, hbt⟩ : M.f h = M.f h ∧ _))
          rw [er] at e9
          rw [if_pos hbt] at ce2
          k_offL
          refine r_ixT (sqT_of e9) (v := .str "next") rfl ?_
          k_offL
          refine ifDT rfl ?_
          k_offL
          refine ⟨some (V.int h), ?_, T9, f5.trans f59⟩
          show _ = [_, _, _, _, _, some (V.int (cc + M.cn h))]
          rw [ce2]
        · have er : (M.emp.readL (.ans h (M.f h) y)).2 = [.str "kept", .int h, .non] := congrArg Prod.snd (if_neg (fun z : M.f h = M.f h ∧ btw M.size h y (M.f h) = true => hbt z.2))
          rw [er] at e9
          rw [if_neg hbt] at ce2
          k_offL
          refine r_ixT (sqT_of e9) (v := .str "kept") rfl ?_
          k_offL
          refine ifDF (by decide +kernel) ?_
          k_offL
          refine ⟨some (V.int h), ?_, T9, f5.trans f59⟩
          show _ = [_, _, _, _, _, some (V.int (cc + M.cn h))]
          rw [ce2, Int.add_zero]
      · rintro σ' H5 ⟨v1, rfl, T5, f5⟩
        rw [List.length_map, List.take_length] at T5 ⊢
        have f25 : Fr [dn, dk, d] H H5 := (((f1.trans f2).up.trans f3).trans f4.up).trans f5
        have f0 : Fr [dn, dk] H H5 := (Fr.refl _ H).drop (f25.mono fun a h => by simp at h; rcases h with h | h | h <;> simp [h]) n1
        have pk : dp ∉ [dn, dk] := by simp [np.symm, kp.symm]
        k_offL
        exact k H5 (T.back f0 pk T5 c4) f0
end
end RL
set_option synthInstance.maxHeartbeats 4000000
set_option synthInstance.maxSize 4000
namespace RL
structure NS.Say (N : NS) : Prop where
  sb : ∀ v u, N.b v = some u → Tr N.size N.f u v (far N.size u v)
  st : ∀ r s, LT.tell r s ∈ N.post → Tr N.size N.f s r (far N.size s r)
  sa : ∀ u v x, LT.ans u v x ∈ N.post → Tr N.size N.f x v (far N.size x v)
structure PrIs (H : Hp) (ps : List (Int × Int)) (lv : List V) : Prop where
  len : lv.length = ps.length
  at_ : ∀ (i : Nat) p, ps[i]? = some p → ∃ t, lv[i]? = some (.ref t) ∧ H t = some (.tup [.int p.1, .int p.2])
section
variable {H H' : Hp} {M : List Addr} {ps : List (Int × Int)} {lv : List V} {p : Int × Int} {t : Addr}
theorem PrIs.nil : PrIs H [] [] := ⟨rfl, fun i l h => by simp at h⟩
theorem PrIs.fr (x : PrIs H ps lv) (f : Fr M H H') : PrIs H' ps lv := ⟨x.len, fun i l h => let ⟨t, a, b⟩ := x.at_ i l h; ⟨t, a, f.tp _ _ b⟩⟩
theorem PrIs.snoc (x : PrIs H ps lv) (h : H t = some (.tup [.int p.1, .int p.2])) : PrIs H (ps ++ [p]) (lv ++ [.ref t]) := by
  refine ⟨by rw [List.length_append, List.length_append, x.len]; rfl, fun i m e => ?_⟩
  by_cases hi : i < ps.length
  · rw [List.getElem?_append_left hi] at e
    obtain ⟨u, a, b⟩ := x.at_ i m e
    exact ⟨u, by rw [List.getElem?_append_left (by rw [x.len]; exact hi)]; exact a, b⟩
  · rw [List.getElem?_append_right (by omega)] at e
    have h0 : i - ps.length = 0 := by
      cases hk : i - ps.length with
      | zero => rfl
      | succ k => rw [hk] at e; simp at e
    rw [h0] at e
    have e' : p = m := Option.some.inj e
    subst e'
    exact ⟨t, by rw [List.getElem?_append_right (by rw [x.len]; omega), x.len, h0]; rfl, h⟩
theorem PrIs.set (x : PrIs H ps lv) (i : Nat) (h : H t = some (.tup [.int p.1, .int p.2])) : PrIs H (ps.set i p) (lv.set i (.ref t)) := by
  refine ⟨by rw [List.length_set, List.length_set, x.len], fun j m e => ?_⟩
  rw [List.getElem?_set] at e ⊢
  by_cases hi : i = j
  · rw [if_pos hi] at e ⊢
    by_cases hl : i < ps.length
    · rw [if_pos hl] at e
      cases e
      rw [if_pos (by rw [x.len]; exact hl)]
      exact ⟨t, rfl, h⟩
    · rw [if_neg hl] at e; cases e
  · rw [if_neg hi] at e ⊢
    exact x.at_ j m e
end
def spStart : Sp := fun vs H Q _ => ∃ (tp tc dn lp dk dp : Addr) (N : NS) (ps : List Int), vs = [.ref tp, .int N.size, .ref dn, .ref lp, .ref dk, .ref dp] ∧ TabAt H dn dk dp N ∧ TapeAt H tp tc ∧ H lp = some (.lst (ps.map V.int)) ∧ N.Ok ∧ N.Say ∧ N.post = [] ∧ (∀ x ∈ ps, x ∈ N.hs) ∧ ps.length ≤ 40 ∧ [dp, tp, tc, lp].Nodup ∧
  ∀ N' H', N'.f = N.f → N'.hs = N.hs → N'.size = N.size → N'.Ok → N'.Say → N'.post.length ≤ ps.length → TabAt H' dn dk dp N' → TapeAt H' tp tc → Fr [tp, dk, dp] H H' → Q .non H'
theorem map_filter_int (c : Int → Bool) : ∀ (ys : List Int), (ys.map V.int).filter (fun v => match v with | .int i => c i | _ => false) = (ys.filter c).map V.int
  | [] => rfl
  | y :: r => by
    rw [List.map_cons, List.filter_cons, List.filter_cons]
    show (if c y = true then _ else _) = _
    rw [map_filter_int c r]
    split <;> rfl
section
variable {P : Program} {w : World} {K : PySem.W.Frag} {mg : Str → Option Value} {base : Heap} {CNet CMender CDesk CStore CWalk : Addr}
abbrev s__law_start : Stmt := top 50
theorem sc__law_start : FnScope ["tape", "size", "nexts", "places", "behinds", "post", "roots", "place", "group", "one", "other", "kind"] ["tape", "size", "nexts", "places", "behinds", "post"] (defScope s__law_start) := ⟨rfl, rfl, rfl, by decide +kernel, rfl, by decide +kernel, by decide +kernel⟩
theorem ok__law_start {f : Addr} {fd : FuncData} (F : Fun K "_law_start" "_law_start" s__law_start f fd) (G__law_root : GF P w K mg base "_law_root" 2 ["nexts", "house"] spRoot) (m_sorted : mg "sorted" = none) (G__law_pick : GF P w K mg base "_law_pick" 1 ["tape", "size"] spPick) (m_len : mg "len" = none) (G__law_holds : GF P w K mg base "_law_holds" 2 ["size", "nexts", "saying"] spLawHolds) (G__law_far : GF P w K mg base "_law_far" 1 ["size", "start", "end"] spFar) : FnOk P w K mg base CX0 3 f fd ["tape", "size", "nexts", "places", "behinds", "post"] spStart := by
  refine F.ok sc__law_start (fun vs H Q E h => ?_) (fun cdv A outer s H vs Q E hr h => ?_)
  · obtain ⟨_, _, _, _, _, _, _, _, rfl, _⟩ := h; rfl
  · obtain ⟨tp, tc, dn, lp, dk, dp, N, ps, rfl, T, t, hp, ok, say, hpost, hps, hl40, nd, k⟩ := h
    refine ⟨_, (pss_cons (ps_set (i := 6) sc__law_start.nd rfl (Or.inr rfl) pe_dnewK)
      (pss_cons (ps_for PassesOwn.never rfl (pi_listK (K := K) rfl (pv 3)) (pg_name (i := 7) sc__law_start.nd rfl (Or.inr rfl))
      (pss_one (ps_dput (hu_of hr) (pv 6) (pv 7) (c_fn G__law_root (hr.mono (by decide)) (pa_cons (pv 2) (pa_cons (pv 7) pa_nil))) rfl)))
      (pss_one (ps_for PassesOwn.never rfl (pi_listK (K := K) rfl (pv 3)) (pg_name (i := 7) sc__law_start.nd rfl (Or.inr rfl))
      (pss_cons (ps_setLc (i := 8) (own := [("one", 9)]) (g := gName 9) rfl sc__law_start.nd rfl rfl (sw_true rfl rfl rfl (by decide +kernel)) (pi_listK (K := K) rfl (pe_callB (cb_sortIK (K := K) rfl) (by rfl) m_sorted b_sorted (pa_cons (pv 3) pa_nil))) (blkOk_by (N := ["tape", "size", "nexts", "places", "behinds", "post", "roots", "place", "group", "one", "other", "kind"]) (sc := defScope s__law_start) (by decide +kernel)) (fun _ _ _ _ _ => (pg_name (i := 9) sc__law_start.nd rfl (Or.inl rfl))) (fun _ _ _ _ _ => pts_one (pt_cmpR op_eq (pe_dget (hu_of hr) (pv 6) (pv 9) (by intro _ _; rfl)) (pe_dget (hu_of hr) (pv 6) (pv 7) (by intro _ _; rfl)) (nomark _))) (fun _ _ _ _ _ => (pv 9)))
      (pss_cons (ps_set (i := 9) sc__law_start.nd rfl (Or.inl rfl) (pe_ix (ix_listK (K := K) rfl) (pv 8) (c_fn G__law_pick (hr.mono (by decide)) (pa_cons (pv 0) (pa_cons (pe_callB (cb_lenSK (K := K) rfl) (by rfl) m_len b_len (pa_cons (pv 8) pa_nil)) pa_nil))) (by intro _ _; rfl)))
      (pss_cons (ps_set (i := 10) sc__law_start.nd rfl (Or.inl rfl) (pe_ix (ix_listK (K := K) rfl) (pv 3) (c_fn G__law_pick (hr.mono (by decide)) (pa_cons (pv 0) (pa_cons (pe_callB (cb_lenSK (K := K) rfl) (by rfl) m_len b_len (pa_cons (pv 3) pa_nil)) pa_nil))) (by intro _ _; rfl)))
      (pss_cons (ps_set (i := 11) sc__law_start.nd rfl (Or.inl rfl) (c_fn G__law_pick (hr.mono (by decide)) (pa_cons (pv 0) (pa_cons pe_int pa_nil))))
      (pss_cons (ps_if (pt_not (pt_val (c_fn G__law_holds (hr.mono (by decide)) (pa_cons (pv 1) (pa_cons (pv 2) (pa_cons (pe_tup (pa_cons (pv 9) (pa_cons (pv 7) (pa_cons (c_fn G__law_far (hr.mono (by decide)) (pa_cons (pv 1) (pa_cons (pv 9) (pa_cons (pv 7) pa_nil)))) pa_nil)))) pa_nil)))))) (pss_one (ps_set (i := 11) sc__law_start.nd rfl (Or.inl rfl) pe_int)) pss_nil)
      (pss_one (ps_if (pt_cmpR op_lt (pv 11) pe_int (nomark _)) (pss_one (ps_dput (hu_of hr) (pv 4) (pv 7) (pv 9) rfl)) (pss_one (ps_if (pt_cmpR op_eq (pv 11) pe_int (nomark _)) (pss_one (ps_expr (pe_bmK (K := K) rfl PySem.F.plainAttrs_list PySem.F.slot_list_append PySem.F.type_list_append mt_append (pv 5) (pa_cons (pe_tup (pa_cons pe_str (pa_cons (pv 7) (pa_cons (pv 9) pa_nil)))) pa_nil)))) (pss_one (ps_if (pt_cmpR op_eq (pv 11) pe_int (nomark _)) (pss_one (ps_expr (pe_bmK (K := K) rfl PySem.F.plainAttrs_list PySem.F.slot_list_append PySem.F.type_list_append mt_append (pv 5) (pa_cons (pe_tup (pa_cons pe_str (pa_cons (pv 10) (pa_cons (pv 7) (pa_cons (pv 9) pa_nil))))) pa_nil)))) (pss_one (ps_if (pt_cmpR op_eq (pv 11) pe_int (nomark _)) (pss_one (ps_expr (pe_bmK (K := K) rfl PySem.F.plainAttrs_list PySem.F.slot_list_append PySem.F.type_list_append mt_append (pv 5) (pa_cons (pe_tup (pa_cons pe_str (pa_cons (pv 7) (pa_cons (pv 10) pa_nil)))) pa_nil)))) pss_nil))))))))))))))))), ?_⟩
    (try simp only [cxK, cxKX, List.map])
    refine ent (σ' := [some _, some _, some _, some _, some _, some _, none, none, none, none, none, none]) rfl ?_
    simp only [List.nodup_cons, List.mem_cons, List.not_mem_nil, or_false, not_or] at nd
    obtain ⟨⟨dp_tp, dp_tc, dp_lp⟩, ⟨tp_tc, tp_lp⟩, tc_lp, _⟩ := nd
    have hlen := ok.hl
    have h0 := ok.s0
    have h1 := ok.s1
    obtain ⟨kn, hn, dN⟩ := T.nx
    obtain ⟨kb, hb, dB⟩ := T.bf
    obtain ⟨lv, hl, ls⟩ := T.ls
    obtain ⟨_, _, _, _, _, tt, tcs, _⟩ := t.ex
    have nxt := NS.nxAt ok hn dN
    have dn_tp : dn ≠ tp := ne_of hn tt (fun z => nomatch z)
    have dk_tp : dk ≠ tp := ne_of hb tt (fun z => nomatch z)
    have dn_dp : dn ≠ dp := ne_of hn hl (fun z => nomatch z)
    have dk_dp : dk ≠ dp := ne_of hb hl (fun z => nomatch z)
    have dk_tc : dk ≠ tc := ne_of hb tcs (fun z => nomatch z)
    have dk_lp : dk ≠ lp := ne_of hb hp (fun z => nomatch z)
    have dn_lp : dn ≠ lp := ne_of hn hp (fun z => nomatch z)
    k_offL
    refine newk fun rd H1 n1 e1 f1 => ?_
    have r_lp : lp ≠ rd := ne_of_none hp n1
    have r_tp : tp ≠ rd := ne_of_none tt n1
    have r_tc : tc ≠ rd := ne_of_none tcs n1
    have r_dn : dn ≠ rd := ne_of_none hn n1
    have r_dk : dk ≠ rd := ne_of_none hb n1
    have r_dp : dp ≠ rd := ne_of_none hl n1
    have hp1 := f1.at_ _ _ hp List.not_mem_nil
    k_offL
    refine loopLF (M := [rd]) (ps.map V.int) (sqL_of hp1) (mem_one r_lp) (fun i σ' H' => ∃ (v : Option V) (kvs : List (Key × V)), σ' = [some (.ref tp), some (.int N.size), some (.ref dn), some (.ref lp), some (.ref dk), some (.ref dp), some (.ref rd), v, none, none, none, none] ∧ H' rd = some (.dK kvs) ∧ NxD N.hs (ps.take i) kvs ∧ Fr [rd] H1 H')
      ⟨_, [], rfl, e1, NxD.nil, Fr.refl _ _⟩ (fun i σ' H' ⟨_, _, _, _, _, f⟩ => f) ?_ ?_
    · rintro i x σ' H2 hi ⟨v, kvs, rfl, e2, nx, f2⟩
      obtain ⟨h, hh, hm, rfl⟩ := mem_ints hi
      have nxt2 := (nxt.ex0 f1).fr f2 (mem_one r_dn)
      k_offL
      refine ⟨dn, N.hs, N.f, h, (), rfl, nxt2, hps h hm, by omega, fun r m H3 per hm2 hr _ f3 => ?_⟩
      k_offL
      refine dputk (f3.at_ _ _ e2 List.not_mem_nil) (by obtain ⟨_, _, _, hk⟩ := nx; rw [List.length_take] at hk; omega) fun H4 e4 f4 => ?_
      exact ⟨_, _, rfl, e4, by rw [take_snoc hh]; exact nx.put (ringL_mem ok.fh (it_mem ok.fh (hps h hm)) r hr), f2.trans (f3.up.trans f4)⟩
    rintro σ' H2 ⟨v, kvs, rfl, e2, ⟨g, dg, gm, _⟩, f2⟩
    rw [List.length_map, List.take_length] at dg gm
    have f02 : Fr [] H H2 := (Fr.refl _ H).drop (f1.up.trans f2) n1
    have t2 := t.ex0 f02
    have T2 := T.ex f02
    have hp2 := f02.at_ _ _ hp List.not_mem_nil
    k_offL
    refine loopLF (M := [tp, dk, dp]) (ps.map V.int) (sqL_of hp2) (by simp [Ne.symm tp_lp, Ne.symm dk_lp, Ne.symm dp_lp]) (fun i σ' H' => ∃ (v1 v2 v3 v4 v5 : Option V) (M : NS), σ' = [some (.ref tp), some (.int N.size), some (.ref dn), some (.ref lp), some (.ref dk), some (.ref dp), some (.ref rd), v1, v2, v3, v4, v5] ∧ M.f = N.f ∧ M.hs = N.hs ∧ M.size = N.size ∧ M.Ok ∧ M.Say ∧ M.post.length ≤ i ∧ TabAt H' dn dk dp M ∧ TapeAt H' tp tc ∧ Fr [tp, dk, dp] H2 H')
      ⟨_, _, _, _, _, N, rfl, rfl, rfl, rfl, ok, say, by rw [hpost]; exact Nat.zero_le _, T2, t2, Fr.refl _ _⟩ (fun i σ' H' ⟨_, _, _, _, _, _, _, _, _, _, _, _, _, _, _, f⟩ => f) ?_ ?_
    · rintro i x σ' H3 hi ⟨v1, v2, v3, v4, v5, M, rfl, mf, mh, mz, okM, sayM, pl, T3, t3, f3⟩
      obtain ⟨h, hh, hm, rfl⟩ := mem_ints hi
      have hi40 : i < 40 := by have := (List.getElem?_eq_some_iff.mp hh).1; omega
      have n3 : ∀ a : Addr, a ≠ tp → a ≠ dk → a ≠ dp → a ∉ [tp, dk, dp] := fun a x y z => by simp [x, y, z]
      have hp3 := f3.at_ _ _ hp2 (n3 _ (Ne.symm tp_lp) dk_lp.symm (Ne.symm dp_lp))
      have e3 : H3 rd = some (.dK kvs) := f3.at_ _ _ e2 (n3 _ r_tp.symm r_dk.symm r_dp.symm)
      have gv : ∀ y ∈ ps, valV kvs (.inl y) = some (.int (g y)) := fun y hy => by rw [dg.val, if_pos hy]
      k_offL
      refine r_sortI (sqL_of hp3) fun ys l4 H4 perm hy n4 e4 f4 => ?_
      have e34 := f4.at_ _ _ e3 List.not_mem_nil
      refine walkL (sqL_of e4) ?_
      refine lcV (walk_list (xs := ys.map V.int)) (ys.map V.int) rfl (fun i H0 x H' _ y => yAt y) (fun v => match v with | .int i => decide (g i = g h) | _ => false) id (fun H' f => f.sqL (sqL_of e4) List.not_mem_nil) (by rw [List.length_map, perm.length_eq]; omega) (fun x H' hx f => ?_) fun gl H5 n5 e5 f5 => ?_
      · obtain ⟨y, hy, rfl⟩ := mem_intsM hx
        refine sk9 ⟨fun R kR => ?_, fun _ H6 f6 R kR => ?_⟩
        · k_offL
          refine dgetk (.inl (f.at_ _ _ e34 List.not_mem_nil)) (gv y (perm.mem_iff.mp hy)) ?_
          k_offL
          refine dgetk (.inl (f.at_ _ _ e34 List.not_mem_nil)) (gv h hm) ?_
          k_offL
          exact kR _ (Fr.refl _ _)
        · k_offL
          exact kR _ (Fr.refl _ _)
      rw [map_filter_int (fun y => decide (g y = g h)), List.map_id] at e5
      have f35 : Fr [] H3 H5 := f4.trans f5
      have hgr : ∀ y ∈ ys.filter (fun y => decide (g y = g h)), y ∈ ps := fun y hy => perm.mem_iff.mp (List.mem_filter.mp hy).1
      have hgp : 0 < (ys.filter (fun y => decide (g y = g h))).length := List.length_pos_of_mem (List.mem_filter.mpr ⟨perm.mem_iff.mpr hm, decide_eq_true rfl⟩)
      have hgl : (ys.filter (fun y => decide (g y = g h))).length ≤ 40 := Nat.le_trans (List.length_filter_le _ _) (by rw [perm.length_eq]; exact hl40)
      revert hgr hgp hgl e5
      generalize ys.filter (fun y => decide (g y = g h)) = gs
      intro e5 hgr hgp hgl
      have t5 := t3.ex0 f35
      have gtp : gl ≠ tp := by
        obtain ⟨_, _, _, _, _, tt4, _⟩ := (t3.ex0 f4).ex
        exact (ne_of_none tt4 n5).symm
      k_offL
      refine r_lenL (sqL_of e5) ?_
      rw [List.length_map]
      k_offL
      refine i_pick t5 (by omega) (by omega) fun m6 H6 a6 b6 t6 f6 => ?_
      have g6 : m6.toNat < gs.length := by omega
      refine r_ixL (sqL_of (f6.at_ _ _ e5 (mem_one gtp))) (ix_at m6.toNat (by omega) (ints_get g6)) ?_
      have hone := hgr _ (List.getElem_mem g6)
      revert hone
      generalize gs[m6.toNat] = one
      intro hone
      have hp6 := f6.at_ _ _ (f35.at_ _ _ hp3 List.not_mem_nil) (mem_one (Ne.symm tp_lp))
      have psl : 0 < ps.length := List.length_pos_of_mem hm
      k_offL
      refine r_lenL (sqL_of hp6) ?_
      rw [List.length_map]
      k_offL
      refine i_pick t6 (by omega) (by omega) fun m7 H7 a7 b7 t7 f7 => ?_
      have g7 : m7.toNat < ps.length := by omega
      refine r_ixL (sqL_of (f7.at_ _ _ hp6 (mem_one (Ne.symm tp_lp)))) (ix_at m7.toNat (by omega) (ints_get g7)) ?_
      have hoth := List.getElem_mem g7
      revert hoth
      generalize ps[m7.toNat] = other
      intro hoth
      k_offL
      refine i_pick t7 (by decide) (by decide) fun kind H8 a8 b8 t8 f8 => ?_
      have f38 : Fr [tp] H3 H8 := ((f35.up.trans f6).trans f7).trans f8
      have T8 : TabAt H8 dn dk dp M := T3.fr f38 (mem_one dn_tp) (mem_one dk_tp) (mem_one dp_tp)
      have f28 : Fr [tp, dk, dp] H2 H8 := f3.trans (f38.mono fun a h => by simp at h; simp [h])
      have nxt8 := nxt.fr (f02.up.trans f28) (n3 _ dn_tp T.ne dn_dp)
      k_places
      refine q_cut (fun σ' H' => ∃ kd : Int, σ' = [some (.ref tp), some (.int N.size), some (.ref dn), some (.ref lp), some (.ref dk), some (.ref dp), some (.ref rd), some (.int h), some (.ref gl), some (.int one), some (.int other), some (.int kd)] ∧ (kd < 4 → Tr N.size N.f one h (far N.size one h)) ∧ Fr [] H8 H') (fun Nx kN => ?_) ?_
      · k_offL
        refine i_far h0 ?_
        k_offL
        refine tupk (by show 3 ≤ 100000; decide) fun t9 H9 n9 e9 f9 => ?_
        k_offL
        refine ⟨N.size, dn, t9, N.hs, N.f, one, h, far N.size one h, rfl, nxt8.ex0 f9, e9, hps one hone, by omega, h0, h1, (far_pos h0).1, by have := (far_pos (s := one) (e := h) h0).2; omega, fun b H10 hb f10 => ?_⟩
        k_offL
        cases b with
        | true =>
          k_offL
          exact kN _ _ ⟨kind, rfl, fun _ => hb.mp rfl, f9.trans f10⟩
        | false =>
          k_offL
          exact kN _ _ ⟨5, rfl, fun z => absurd z (by decide), f9.trans f10⟩
      rintro _ H9 ⟨kd, rfl, htr, f9⟩
      have T9 := T8.ex f9
      have t9 := t8.ex0 f9
      have f29 : Fr [tp, dk, dp] H2 H9 := f28.trans f9.up
      have h1m : one ∈ M.hs := by rw [mh]; exact hps one hone
      have hhm : h ∈ M.hs := by rw [mh]; exact hps h hm
      have hom : other ∈ M.hs := by rw [mh]; exact hps other hoth
      obtain ⟨kb9, hb9, dB9⟩ := T9.bf
      obtain ⟨kn9, hn9, dN9⟩ := T9.nx
      obtain ⟨lv9, hl9, ls9⟩ := T9.ls
      have lvl := ls9.len
      have laid : ∀ (l : LT) (H10 H11 : Hp) (u : Addr), (∀ x ∈ l.pl, x ∈ M.hs) → (∀ r s, l = .tell r s → Tr N.size N.f s r (far N.size s r)) → (∀ u v x, l = .ans u v x → Tr N.size N.f x v (far N.size x v)) → Fr [] H9 H10 → H10 u = some (.tup l.vs) → H11 dp = some (.lst (lv9 ++ [.ref u])) → Fr [dp] H10 H11 →
          (M.push l).f = N.f ∧ (M.push l).hs = N.hs ∧ (M.push l).size = N.size ∧ (M.push l).Ok ∧ (M.push l).Say ∧ (M.push l).post.length ≤ i + 1 ∧ TabAt H11 dn dk dp (M.push l) ∧ TapeAt H11 tp tc ∧ Fr [tp, dk, dp] H2 H11 := fun l H10 H11 u hpl h1 h2 f10 e10 e11 f11 =>
        ⟨mf, mh, mz, okM.push hpl (by omega), ⟨sayM.sb, fun r s hm => by
          rcases List.mem_append.mp hm with q | q
          · exact sayM.st r s q
          · have := h1 r s (List.mem_singleton.mp q).symm
            rw [← mf, ← mz] at this; exact this, fun u v x hm => by
          rcases List.mem_append.mp hm with q | q
          · exact sayM.sa u v x q
          · have := h2 u v x (List.mem_singleton.mp q).symm
            rw [← mf, ← mz] at this; exact this⟩, by rw [push_len]; omega, T9.push hl9 f10 e10 e11 f11 dn_dp dk_dp, (t9.ex0 f10).fr f11 (mem_one (Ne.symm dp_tp)) (mem_one (Ne.symm dp_tc)), f29.trans (f10.up.trans (f11.mono fun a h => by simp at h; simp [h]))⟩
      k_offL
      refine ifD (fun e => ?_) (fun e => ?_)
      · k_offL
        refine dputk hb9 (okM.lbl dB9) fun H10 e10 f10 => ?_
        refine ⟨_, _, _, _, _, M.setB h (some one), rfl, mf, mh, mz, okM.setB hhm h1m, ⟨fun v u e2 => ?_, sayM.st, sayM.sa⟩, by show M.post.length ≤ i + 1; omega, ⟨⟨kn9, f10.at_ _ _ hn9 (mem_one T.ne), dN9⟩, ⟨_, e10, dB9.put.cong fun y => M.lb_setB h one y⟩, ⟨lv9, f10.at_ _ _ hl9 (mem_one dk_dp.symm), ls9.fr f10⟩, T.ne⟩, t9.fr f10 (mem_one dk_tp.symm) (mem_one dk_tc.symm), f29.trans (f10.mono fun a h => by simp at h; simp [h])⟩
        have e2' : (if v = h then some one else M.b v) = some u := e2
        by_cases q : v = h
        · rw [if_pos q] at e2'
          cases e2'
          rw [q]
          have := htr (by omega)
          rw [← mf, ← mz] at this
          exact this
        · rw [if_neg q] at e2'
          exact sayM.sb v u e2'
      · k_offL
        refine ifD (fun e2 => ?_) (fun e2 => ?_)
        · k_offL
          refine tupk (by show 3 ≤ 100000; decide) fun u H10 n10 e10 f10 => ?_
          have hl10 := f10.at_ _ _ hl9 List.not_mem_nil
          k_offL
          refine r_app hl10 (by omega) fun H11 e11 f11 => ?_
          have q := laid (.tell h one) H10 H11 u (pl2 hhm h1m) (fun r s e => by cases e; exact htr (by omega)) (fun _ _ _ e => nomatch e) f10 e10 e11 f11
          exact ⟨_, _, _, _, _, _, rfl, q⟩
        · k_offL
          refine ifD (fun e3 => ?_) (fun e3 => ?_)
          · k_offL
            refine tupk (by show 4 ≤ 100000; decide) fun u H10 n10 e10 f10 => ?_
            have hl10 := f10.at_ _ _ hl9 List.not_mem_nil
            k_offL
            refine r_app hl10 (by omega) fun H11 e11 f11 => ?_
            have q := laid (.ans other h one) H10 H11 u (pl3 hom hhm h1m) (fun _ _ e => nomatch e) (fun _ _ _ e => by cases e; exact htr (by omega)) f10 e10 e11 f11
            exact ⟨_, _, _, _, _, _, rfl, q⟩
          · k_offL
            refine ifD (fun e4 => ?_) (fun e4 => ?_)
            · k_offL
              refine tupk (by show 3 ≤ 100000; decide) fun u H10 n10 e10 f10 => ?_
              have hl10 := f10.at_ _ _ hl9 List.not_mem_nil
              k_offL
              refine r_app hl10 (by omega) fun H11 e11 f11 => ?_
              have q := laid (.ask h other) H10 H11 u (pl2 hhm hom) (fun _ _ e => nomatch e) (fun _ _ _ e => nomatch e) f10 e10 e11 f11
              exact ⟨_, _, _, _, _, _, rfl, q⟩
            · k_offL
              exact ⟨_, _, _, _, _, M, rfl, mf, mh, mz, okM, sayM, by omega, T9, t9, f29⟩
    · rintro σ' H3 ⟨v1, v2, v3, v4, v5, M, rfl, mf, mh, mz, okM, sayM, pl, T3, t3, f3⟩
      rw [List.length_map] at pl
      exact k M H3 mf mh mz okM sayM pl T3 t3 (f02.up.trans f3)
end
end RL
set_option synthInstance.maxHeartbeats 4000000
set_option synthInstance.maxSize 4000
namespace RL
theorem rise (ps : List Int) (nd : ps.Nodup) : ∃ hs : List Int, hs.Pairwise (· < ·) ∧ hs.Perm ps := by
  have p := List.mergeSort_perm ps (fun a b => decide (a ≤ b))
  refine ⟨_, up_of_sorted ?_ (p.nodup_iff.mpr nd), p⟩
  exact (List.pairwise_mergeSort (le := fun a b => decide (a ≤ b)) (fun a b c h1 h2 => by simp at *; omega) (fun a b => by simp; omega) ps).imp fun h => by simpa using h
theorem r_cat {H : Hp} {Q : VK} {l b : Addr} {xs zs : List V} (h1 : H l = some (.lst xs)) (h2 : H b = some (.lst zs)) (hz : xs.length + zs.length ≤ 100000) (q : ∀ p H', H p = none → H' p = some (.lst (xs ++ zs)) → Fr [] H H' → Q (.ref p) H') : rCat (.ref l) (.ref b) H Q := ⟨l, b, xs, zs, rfl, rfl, h1, h2, small hz, newk q⟩
structure Keep (N N' : NS) : Prop where
  z : N'.size = N.size
  hs : ∀ h ∈ N.hs, h ∈ N'.hs
  tr : ∀ a e s, a ∈ N.hs → Tr N.size N.f a e s → Tr N.size N'.f a e s
section
variable {N N' N'' : NS} {q o : Int × Int} {l : LT} {x y : Int} {hs' : List Int}
theorem Keep.refl (N : NS) : Keep N N := ⟨rfl, fun _ h => h, fun _ _ _ _ t => t⟩
theorem Keep.trans (a : Keep N N') (b : Keep N' N'') : Keep N N'' := ⟨b.z.trans a.z, fun h m => b.hs h (a.hs h m), fun u e s m t => by
  have := b.tr u e s (a.hs u m)
  rw [a.z] at this
  exact this (a.tr u e s m t)⟩
theorem readL_say (h0 : 0 < N.size) (say : N.Say) (ht : ∀ r s, l = .tell r s → Tr N.size N.f s r (far N.size s r)) (ha : ∀ u v x, l = .ans u v x → Tr N.size N.f x v (far N.size x v)) : (N.readL l).1.Say ∧ Keep N (N.readL l).1 := by
  cases l with
  | tell v u =>
    have t := ht v u rfl
    have put : (N.setB v (some u)).Say ∧ Keep N (N.setB v (some u)) := ⟨⟨fun v' u' e => by
      have e' : (if v' = v then some u else N.b v') = some u' := e
      by_cases c : v' = v
      · rw [if_pos c] at e'; cases e'; rw [c]; exact t
      · rw [if_neg c] at e'; exact say.sb v' u' e', say.st, say.sa⟩, ⟨rfl, fun _ h => h, fun _ _ _ _ t => t⟩⟩
    simp only [NS.readL]
    split
    · exact put
    · split
      · exact put
      · exact ⟨say, .refl N⟩
  | ask v u =>
    simp only [NS.readL]
    split
    · exact ⟨say, .refl N⟩
    · rename_i x e
      refine ⟨⟨say.sb, fun r s m => ?_, fun u' v' x' m => ?_⟩, ⟨rfl, fun _ h => h, fun _ _ _ _ t => t⟩⟩
      · rcases List.mem_append.mp m with c | c
        · exact say.st r s c
        · cases List.mem_singleton.mp c
      · rcases List.mem_append.mp m with c | c
        · exact say.sa u' v' x' c
        · cases List.mem_singleton.mp c; exact say.sb v x e
  | ans u v x =>
    have t := ha u v x rfl
    simp only [NS.readL]
    split
    · rename_i c
      obtain ⟨c1, c2⟩ := c
      subst c1
      have kp : ∀ a e s, Tr N.size N.f a e s → Tr N.size (N.setF u x).f a e s := fun a e s z => Tr.part h0 c2 t (fun h hn => if_neg hn) (if_pos rfl) z
      exact ⟨⟨fun v' u' e => kp _ _ _ (say.sb v' u' e), fun r s m => kp _ _ _ (say.st r s m), fun u' v' x' m => kp _ _ _ (say.sa u' v' x' m)⟩, ⟨rfl, fun _ h => h, fun _ _ _ _ t => kp _ _ _ t⟩⟩
    · exact ⟨say, .refl N⟩
theorem push_say (say : N.Say) (ht : ∀ r s, l = .tell r s → Tr N.size N.f s r (far N.size s r)) (ha : ∀ u v x, l = .ans u v x → Tr N.size N.f x v (far N.size x v)) : (N.push l).Say ∧ Keep N (N.push l) := by
  refine ⟨⟨say.sb, fun r s m => ?_, fun u v x m => ?_⟩, ⟨rfl, fun _ h => h, fun _ _ _ _ t => t⟩⟩
  · rcases List.mem_append.mp m with c | c
    · exact say.st r s c
    · exact ht r s (List.mem_singleton.mp c).symm
  · rcases List.mem_append.mp m with c | c
    · exact say.sa u v x c
    · exact ha u v x (List.mem_singleton.mp c).symm
theorem Small.good (s : Small N N') (ok : N.Ok) (say : N.Say) : N'.Say ∧ Keep N N' := by
  cases s with
  | tell h m q => exact push_say say (fun r s e => by cases e; exact Tr.one) (fun _ _ _ e => nomatch e)
  | ask h m q => exact push_say say (fun _ _ e => nomatch e) (fun _ _ _ e => nomatch e)
  | dup l m q => exact push_say say (fun r s e => say.st r s (e ▸ m)) (fun u v x e => say.sa u v x (e ▸ m))
  | del i => exact ⟨⟨say.sb, fun r s m => say.st r s (List.mem_of_mem_eraseIdx m), fun u v x m => say.sa u v x (List.mem_of_mem_eraseIdx m)⟩, ⟨rfl, fun _ h => h, fun _ _ _ _ t => t⟩⟩
  | read i l m =>
    have hm := List.mem_of_getElem? m
    have sd : (N.del i).Say := ⟨say.sb, fun r s m => say.st r s (List.mem_of_mem_eraseIdx m), fun u v x m => say.sa u v x (List.mem_of_mem_eraseIdx m)⟩
    obtain ⟨a, b⟩ := readL_say (N := N.del i) (l := l) ok.s0 sd (fun r s e => say.st r s (e ▸ hm)) (fun u v x e => say.sa u v x (e ▸ hm))
    exact ⟨a, ⟨b.z, b.hs, b.tr⟩⟩
theorem Steps.good (s : Steps N N') (ok : N.Ok) (say : N.Say) : N'.Say ∧ Keep N N' := by
  induction s with
  | refl => exact ⟨say, .refl _⟩
  | more a c ih =>
    obtain ⟨s1, k1⟩ := ih
    obtain ⟨s2, k2⟩ := c.good (a.ok ok) s1
    exact ⟨s2, k1.trans k2⟩
theorem admit_ok (ok : N.Ok) (hy : y ∉ N.hs) (hx : x = y ∨ x ∈ N.hs) (y0 : 0 ≤ y) (y1 : y < N.size) (hp : hs'.Pairwise (· < ·)) (hm : ∀ h, h ∈ hs' ↔ h = y ∨ h ∈ N.hs) (hl : hs'.length ≤ 45) : (N.admit y x hs').Ok :=
  ⟨ok.s0, ok.s1, hp, fun h hh => by
    rcases (hm h).mp hh with e | e
    · rw [e]; exact ⟨y0, y1⟩
    · exact ok.on h e, fun h hh => by
    show (if h = y then x else N.f h) ∈ hs'
    split
    · exact (hm x).mpr hx
    · rename_i c
      exact (hm _).mpr (.inr (ok.fh h (((hm h).mp hh).resolve_left c))), fun h z e => ⟨(hm h).mpr (.inr (ok.bh h z e).1), (hm z).mpr (.inr (ok.bh h z e).2)⟩, fun l hl z hz => (hm z).mpr (.inr (ok.ph l hl z hz)), hl, ok.pl⟩
theorem admit_tr (ok : N.Ok) (hy : y ∉ N.hs) {a e s : Int} (ha : a ∈ N.hs) (t : Tr N.size N.f a e s) : Tr N.size (N.admit y x hs').f a e s := by
  obtain ⟨n, n1, e1, e2⟩ := t
  obtain ⟨c1, c2⟩ := it_cong (size := N.size) (f := N.f) (g := (N.admit y x hs').f) (u := y) (fun h hn => if_neg hn) (n := n) (x := a) fun i _ c => hy (c ▸ it_mem ok.fh ha)
  exact ⟨n, n1, c1.trans e1, c2.trans e2⟩
theorem admit_good (ok : N.Ok) (say : N.Say) (hy : y ∉ N.hs) (hm : ∀ h, h ∈ hs' ↔ h = y ∨ h ∈ N.hs) : (N.admit y x hs').Say ∧ Keep N (N.admit y x hs') :=
  ⟨⟨fun v u e => admit_tr ok hy (ok.bh v u e).2 (say.sb v u e), fun r s m => admit_tr ok hy (ok.ph _ m s (by simp [LT.pl])) (say.st r s m), fun u v z m => admit_tr ok hy (ok.ph _ m z (by simp [LT.pl])) (say.sa u v z m)⟩, ⟨rfl, fun h m => (hm h).mpr (.inr m), fun a e s m t => admit_tr ok hy m t⟩⟩
end
theorem WW.mk' {C : Addr} {H : Hp} {A : Ads} {N M : NS} (hN : NetAt C H A.p A.da A.db A.dl N) (hT : TabAt H A.dn A.dk A.dp M) (t : TapeAt H A.tp A.tc) (d1 : A.da ≠ A.dn ∧ A.da ≠ A.dk) (d2 : A.db ≠ A.dn ∧ A.db ≠ A.dk) (d3 : A.dl ≠ A.dp ∧ A.dl ≠ A.tp ∧ A.dl ≠ A.tc) (d4 : A.dp ≠ A.tp ∧ A.dp ≠ A.tc) : WW C H A N M := by
  obtain ⟨dx, hp⟩ := hN.ob
  obtain ⟨_, ha, _⟩ := hN.nx
  obtain ⟨_, hb, _⟩ := hN.bf
  obtain ⟨_, hl, _⟩ := hN.ls
  obtain ⟨_, hn, _⟩ := hT.nx
  obtain ⟨_, hk, _⟩ := hT.bf
  obtain ⟨_, hq, _⟩ := hT.ls
  have tn := t.ne
  obtain ⟨_, _, _, _, _, tt, tcs, _⟩ := t.ex
  refine ⟨hN, hT, t, ?_⟩
  simp only [List.nodup_cons, List.mem_cons, List.not_mem_nil, or_false, not_or, not_false_eq_true, List.nodup_nil, and_true]
  refine ⟨⟨?_, ?_, ?_, ?_, ?_, ?_, ?_, ?_⟩, ⟨hN.ne, ?_, d1.1, d1.2, ?_, ?_, ?_⟩, ⟨?_, d2.1, d2.2, ?_, ?_, ?_⟩, ⟨?_, ?_, d3.1, d3.2.1, d3.2.2⟩, ⟨hT.ne, ?_, ?_, ?_⟩, ⟨?_, ?_, ?_⟩, ⟨d4.1, d4.2⟩, tn.symm⟩
  · exact ne_of hp ha (fun z => nomatch z)
  · exact ne_of hp hb (fun z => nomatch z)
  · exact ne_of hp hl (fun z => nomatch z)
  · exact ne_of hp hn (fun z => nomatch z)
  · exact ne_of hp hk (fun z => nomatch z)
  · exact ne_of hp hq (fun z => nomatch z)
  · exact ne_of hp tt (fun z => nomatch z)
  · exact ne_of hp tcs (fun z => nomatch z)
  · exact ne_of ha hl (fun z => nomatch z)
  · exact ne_of ha hq (fun z => nomatch z)
  · exact ne_of ha tt (fun z => nomatch z)
  · exact ne_of ha tcs (fun z => nomatch z)
  · exact ne_of hb hl (fun z => nomatch z)
  · exact ne_of hb hq (fun z => nomatch z)
  · exact ne_of hb tt (fun z => nomatch z)
  · exact ne_of hb tcs (fun z => nomatch z)
  · exact ne_of hl hn (fun z => nomatch z)
  · exact ne_of hl hk (fun z => nomatch z)
  · exact ne_of hn hq (fun z => nomatch z)
  · exact ne_of hn tt (fun z => nomatch z)
  · exact ne_of hn tcs (fun z => nomatch z)
  · exact ne_of hk hq (fun z => nomatch z)
  · exact ne_of hk tt (fun z => nomatch z)
  · exact ne_of hk tcs (fun z => nomatch z)
theorem WW.somes {C : Addr} {H : Hp} {A : Ads} {N M : NS} (w : WW C H A N M) : ∀ y ∈ A.p :: A.tc :: A.all, (H y).isSome = true := fun y hy => by
  obtain ⟨_, hp⟩ := w.net.ob
  obtain ⟨_, ha, _⟩ := w.net.nx
  obtain ⟨_, hb, _⟩ := w.net.bf
  obtain ⟨_, hl, _⟩ := w.net.ls
  obtain ⟨_, hn, _⟩ := w.tab.nx
  obtain ⟨_, hk, _⟩ := w.tab.bf
  obtain ⟨_, hq, _⟩ := w.tab.ls
  obtain ⟨_, _, _, _, _, tt, tcs, _⟩ := w.tape.ex
  have tt' : H A.tp = _ := tt
  simp only [Ads.all, List.mem_cons, List.not_mem_nil, or_false] at hy
  rcases hy with h | h | h | h | h | h | h | h | h <;> rw [h]
  · rw [hp]; rfl
  · rw [tcs]; rfl
  · rw [ha]; rfl
  · rw [hb]; rfl
  · rw [hl]; rfl
  · rw [hn]; rfl
  · rw [hk]; rfl
  · rw [hq]; rfl
  · rw [tt']; rfl
theorem none_off {H : Hp} {L : List Addr} {x : Addr} (h : ∀ y ∈ L, (H y).isSome = true) (n : H x = none) : x ∉ L := fun m => by have := h x m; rw [n] at this; cases this
theorem PrIs.mem {H : Hp} {ps : List (Int × Int)} {lv : List V} (p : PrIs H ps lv) {x : V} (h : x ∈ lv) : ∃ q ∈ ps, ∃ t, x = .ref t ∧ H t = some (.tup [.int q.1, .int q.2]) := by
  obtain ⟨i, hi, e⟩ := List.mem_iff_getElem.mp h
  have hi' : i < ps.length := by rw [← p.len]; exact hi
  obtain ⟨t, a, b⟩ := p.at_ i _ (List.getElem?_eq_getElem hi')
  rw [List.getElem?_eq_getElem hi, e] at a
  exact ⟨_, List.getElem_mem hi', t, Option.some.inj a, b⟩
theorem WW.frn {C : Addr} {H H' : Hp} {A : Ads} {N M : NS} {L : List Addr} (w : WW C H A N M) (f : Fr L H H') (n : ∀ y ∈ A.p :: A.tc :: A.all, y ∉ L) : WW C H' A N M :=
  ⟨w.net.fr f (n _ (by simp)) (n _ (by simp [Ads.all])) (n _ (by simp [Ads.all])) (n _ (by simp [Ads.all])), w.tab.fr f (n _ (by simp [Ads.all])) (n _ (by simp [Ads.all])) (n _ (by simp [Ads.all])), w.tape.fr f (n _ (by simp [Ads.all])) (n _ (by simp)), w.nd⟩
end RL
set_option synthInstance.maxHeartbeats 4000000
set_option synthInstance.maxSize 4000
namespace RL
theorem Per.rot {f : Int → Int} {h : Int} {m s : Nat} (p : Per f h m) (hs : s < m) : Per f (it f s h) m := by
  refine ⟨p.p1, ?_, fun j a b e => p.no j a b ?_⟩
  · rw [← it_add, Nat.add_comm, it_add, p.rt]
  · have e2 := congrArg (it f (m - s)) e
    rw [← it_add, ← it_add, ← it_add, show s + (j + (m - s)) = m + j by omega, show s + (m - s) = m by omega, it_add, p.rt] at e2
    exact e2
theorem ringL_len {f : Int → Int} {h : Int} {m : Nat} : (ringL f h m).length = m := by unfold ringL; rw [List.length_map, List.length_range]
theorem ringL_at {f : Int → Int} {h : Int} {m i : Nat} (hi : i < m) : (ringL f h m)[i]? = some (it f i h) := by
  unfold ringL
  rw [List.getElem?_map, List.getElem?_range hi]
  rfl
theorem ringL_rot {f : Int → Int} {h : Int} {m s : Nat} (p : Per f h m) (hs : s < m) : (ringL f h m).drop s ++ (ringL f h m).take s = ringL f (it f s h) m := by
  apply List.ext_getElem?
  intro i
  by_cases hi : i < m
  · rw [ringL_at hi, ← it_add]
    by_cases h2 : i < m - s
    · rw [List.getElem?_append_left (by rw [List.length_drop, ringL_len]; exact h2), List.getElem?_drop, ringL_at (by omega)]
    · rw [List.getElem?_append_right (by rw [List.length_drop, ringL_len]; omega), List.length_drop, ringL_len, List.getElem?_take, if_pos (by omega), ringL_at (by omega), show s + i = m + (i - (m - s)) by omega, it_add, p.rt]
  · rw [List.getElem?_eq_none (by rw [List.length_append, List.length_drop, List.length_take, ringL_len]; omega), List.getElem?_eq_none (by rw [ringL_len]; omega)]
theorem ringL_nd {f : Int → Int} {h : Int} {m : Nat} (p : Per f h m) : (ringL f h m).Nodup := by
  unfold ringL
  rw [List.nodup_iff_pairwise_ne, List.pairwise_map]
  refine List.Pairwise.imp_of_mem (R := (· < ·)) (fun {i j} hi hj hlt e => ?_) List.pairwise_lt_range
  have h1 := List.mem_range.mp hj
  refine p.no (j - i) (by omega) (by omega) ?_
  have e2 := congrArg (it f (m - i)) e
  rw [← it_add, ← it_add, show i + (m - i) = m by omega, show j + (m - i) = m + (j - i) by omega, it_add, p.rt] at e2
  exact e2.symm
theorem Per.mul {f : Int → Int} {h : Int} {m : Nat} (p : Per f h m) (q r : Nat) : it f (m * q + r) h = it f r h := by
  induction q with
  | zero => rw [Nat.mul_zero, Nat.zero_add]
  | succ q ih => rw [Nat.mul_succ, show m * q + m + r = m + (m * q + r) by omega, it_add, p.rt, ih]
theorem Per.back {f : Int → Int} {h x : Int} {m n : Nat} (p : Per f h m) (e : it f n h = x) : it f (m * n - n) x = h := by
  have h1 : n ≤ m * n := Nat.le_mul_of_pos_left _ p.p1
  rw [← e, ← it_add, show n + (m * n - n) = m * n + 0 by omega, p.mul]
  rfl
theorem Per.meet {f : Int → Int} {h r r' : Int} {m n n' : Nat} (p : Per f r m) (e : it f n h = r) (e' : it f n' h = r') : it f (n + m * n' - n') r' = r := by
  have h1 : n' ≤ m * n' := Nat.le_mul_of_pos_left _ p.p1
  rw [← e', ← it_add, show n' + (n + m * n' - n') = n + (m * n' + 0) by omega, it_add, e, p.mul]
  rfl
theorem Per.at_ {f : Int → Int} {h x : Int} {m n : Nat} (p : Per f h m) (e : it f n h = x) : Per f x m := by
  have e2 := p.mul (n / m) (n % m)
  rw [Nat.div_add_mod] at e2
  rw [← e, e2]
  exact p.rot (Nat.mod_lt _ p.p1)
theorem ringL_iff {f : Int → Int} {h x : Int} {m : Nat} (p : Per f h m) : x ∈ ringL f h m ↔ ∃ n, it f n h = x := by
  constructor
  · intro hx
    obtain ⟨j, _, e⟩ := List.mem_map.mp hx
    exact ⟨j, e⟩
  · rintro ⟨n, e⟩
    have hp := p.p1
    refine List.mem_map.mpr ⟨n % m, List.mem_range.mpr (Nat.mod_lt _ hp), ?_⟩
    rw [← e]
    rw [← p.mul (n / m) (n % m), Nat.div_add_mod]
theorem eqV_int {a b : Int} : eqV (.int a) (.int b) = decide (a = b) := rfl
theorem r_index {K : PySem.W.Frag} {H : Hp} {Q : VK} {a : Addr} {ns : List Int} {y : Int} {j : Nat} (h : SqL K H a (ns.map V.int)) (hj : ns[j]? = some y) (hn : ∀ m, m < j → ns[m]? ≠ some y) (q : Q (.int (j : Nat)) H) : rIndex K (.ref a) [.int y] H Q := by
  refine ⟨a, ns.map V.int, .int y, j, .int y, rfl, rfl, h, rfl, List.all_eq_true.mpr fun v hv => ?_, by rw [List.getElem?_map, hj]; rfl, by rw [eqV_int, decide_eq_true rfl], fun m z' hm hz => ?_, q⟩
  · obtain ⟨n, _, e⟩ := List.mem_map.mp hv
    rw [← e]; rfl
  · rw [List.getElem?_map] at hz
    cases e : ns[m]? with
    | none => rw [e] at hz; cases hz
    | some n =>
      rw [e] at hz
      cases hz
      rw [eqV_int, decide_eq_false]
      exact fun z => hn m hm (z ▸ e)
theorem r_indexN {K : PySem.W.Frag} {H : Hp} {Q : VK} {a : Addr} {ns : List Int} {y : Int} {j : Nat} (h : SqL K H a (ns.map V.int)) (nd : ns.Nodup) (hj : ns[j]? = some y) (q : Q (.int (j : Nat)) H) : rIndex K (.ref a) [.int y] H Q :=
  r_index h hj (fun m hm e => by have := nd_ix nd e hj; omega) q
theorem tySqL {K : PySem.W.Frag} {l : Addr} {xs : List V} {H : Hp} {A : Prop} (h : SqL K H l xs) (a : A) : TyLK K "list" (.ref l) H A := ⟨Or.inl ⟨rfl, xs, h⟩, a⟩
theorem allFlat (ns : List Int) : (ns.map V.int).all flatV = true := List.all_eq_true.mpr fun v hv => by
  obtain ⟨n, _, e⟩ := List.mem_map.mp hv
  rw [← e]; rfl
theorem inV_int {ns : List Int} {y : Int} : inV (.int y) (ns.map V.int) = decide (y ∈ ns) := by
  unfold inV
  rw [List.any_map, Bool.eq_iff_iff, List.any_eq_true, decide_eq_true_iff]
  constructor
  · rintro ⟨x, hx, e⟩
    have e' : decide (x = y) = true := e
    rw [← of_decide_eq_true e']; exact hx
  · intro hx
    exact ⟨y, hx, decide_eq_true rfl⟩
theorem r_inI {K : PySem.W.Frag} {H : Hp} {Q : VK} {a : Addr} {ns : List Int} {y : Int} (h : SqL K H a (ns.map V.int)) (q : Q (.bl (decide (y ∈ ns))) H) : rIn K false (.int y) (.ref a) H Q :=
  ⟨a, _, rfl, .inl h, rfl, allFlat ns, by rw [inV_int]; exact q⟩
theorem r_ninI {K : PySem.W.Frag} {H : Hp} {Q : VK} {a : Addr} {ns : List Int} {y : Int} (h : SqL K H a (ns.map V.int)) (q : Q (.bl (!decide (y ∈ ns))) H) : rIn K true (.int y) (.ref a) H Q :=
  ⟨a, _, rfl, .inl h, rfl, allFlat ns, by rw [inV_int]; exact q⟩
def spRingFrom : Sp := fun vs H Q _ => ∃ (a : Addr) (hs : List Int) (f : Int → Int) (h : Int) (_ : Unit), vs = [.ref a, .int h] ∧ NxAt H a hs f ∧ h ∈ hs ∧ hs.length ≤ 60 ∧
  ∀ l r m n H', H l = none → H' l = some (.lst ((ringL f r m).map V.int)) → Per f r m → m ≤ hs.length → it f n h = r → (∀ y ∈ ringL f r m, r ≤ y) → Fr [] H H' → Q (.ref l) H'
section
variable {P : Program} {w : World} {K : PySem.W.Frag} {mg : Str → Option Value} {base : Heap} {CNet CMender CDesk CStore CWalk : Addr}
abbrev s_ring_from : Stmt := top 12
theorem sc_ring_from : FnScope ["nexts", "house", "_", "ring", "start"] ["nexts", "house"] (defScope s_ring_from) := ⟨rfl, rfl, rfl, by decide +kernel, rfl, by decide +kernel, by decide +kernel⟩
theorem ok_ring_from {f : Addr} {fd : FuncData} (F : Fun K "ring_from" "ring_from" s_ring_from f fd) (m_range : mg "range" = none) (m_len : mg "len" = none) (m_min : mg "min" = none) : FnOk P w K mg base CX0 1 f fd ["nexts", "house"] spRingFrom := by
  refine F.ok sc_ring_from (fun vs H Q E h => ?_) (fun cdv A outer s H vs Q E hr h => ?_)
  · obtain ⟨_, _, _, _, _, rfl, _⟩ := h; rfl
  · obtain ⟨a, hs, f, h, _, rfl, N, hh, hlen, k⟩ := h
    refine ⟨_, (pss_cons (ps_for PassesOwn.never rfl (pi_range1 (by rfl) m_range (pa_cons (pe_callB cb_lenD (by rfl) m_len b_len (pa_cons (pv 0) pa_nil)) pa_nil)) (pg_name (i := 2) sc_ring_from.nd rfl (Or.inl rfl))
      (pss_one (ps_set (i := 1) sc_ring_from.nd rfl (Or.inl rfl) (pe_dget (hu_of hr) (pv 0) (pv 1) (by intro _ _; rfl)))))
      (pss_cons (ps_set (i := 3) sc_ring_from.nd rfl (Or.inl rfl) (pe_lst (pa_cons (pv 1) pa_nil)))
      (pss_cons (ps_while PassesOwn.never (pt_cmpR op_ne (pe_dget (hu_of hr) (pv 0) (pe_ix (ix_listK (K := K) rfl) (pv 3) (pe_un un_neg pe_int) (by intro _ _; rfl)) (by intro _ _; rfl)) (pv 1) (nomark _)) (pss_one (ps_expr (pe_bmK (K := K) rfl PySem.F.plainAttrs_list PySem.F.slot_list_append PySem.F.type_list_append mt_append (pv 3) (pa_cons (pe_dget (hu_of hr) (pv 0) (pe_ix (ix_listK (K := K) rfl) (pv 3) (pe_un un_neg pe_int) (by intro _ _; rfl)) (by intro _ _; rfl)) pa_nil)))))
      (pss_cons (ps_set (i := 4) sc_ring_from.nd rfl (Or.inl rfl) (pe_bmK (K := K) rfl PySem.F.plainAttrs_list PySem.F.slot_list_index PySem.F.type_list_index (mt_indexK (K := K) rfl) (pv 3) (pa_cons (pe_callB (cb_minK (K := K) rfl rfl) (by rfl) m_min b_min (pa_cons (pv 3) pa_nil)) pa_nil)))
      (pss_one (ps_ret (pe_op op_cat (pe_slice (sl_listK (K := K) rfl) (pv 3) (po_some (pv 4)) po_none) (pe_slice (sl_listK (K := K) rfl) (pv 3) po_none (po_some (pv 4)))))))))), ?_⟩
    (try simp only [cxK, cxKX, List.map])
    refine ent (σ' := [some _, some _, none, none, none]) rfl ?_
    obtain ⟨kvs, rd, dk, hkl⟩ := N.ex
    have get : ∀ {H' : Hp} {x : Int} {Q : VK}, Fr [] H H' → x ∈ hs → Q (.int (f x)) H' → DGetK (.ref a) (.int x) Q H' := fun {H' x Q} g m q => dgetk (g.rd rd List.not_mem_nil) (by rw [dk.val, mfOf_at m]) q
    have im : ∀ n x, x ∈ hs → it f n x ∈ hs := fun n x hx => it_mem N.cl hx
    k_offL
    refine r_lenD rd ?_
    rw [hkl]
    k_offL
    refine loopR1 _ (by omega) (by omega) (fun i σ' H' => H' = H ∧ ∃ v, σ' = [some (.ref a), some (.int (it f i h)), v, none, none]) ⟨rfl, _, rfl⟩ ?_ ?_
    · rintro i σ' _ hi ⟨rfl, v, rfl⟩
      k_offL
      refine get (Fr.refl _ _) (im i h hh) ?_
      k_offL
      exact ⟨rfl, _, by rw [it_succ]⟩
    rintro σ' _ ⟨rfl, v, rfl⟩
    rw [show (hs.length : Int).toNat = hs.length by omega]
    obtain ⟨p, p1, p2, p3⟩ := on_ring (n := hs.length) N.cl hh (Nat.le_refl _)
    revert p3
    generalize hq : it f hs.length h = h0 at *
    intro p3
    have m0 : h0 ∈ hs := hq ▸ im _ h hh
    k_offL
    refine lstk (by show 1 ≤ 100000; decide) fun rl H1 n1 e1 f1 => ?_
    k_offL
    refine q_while (fun m σ' H' => ∃ i, m + i = p ∧ i < p ∧ σ' = [some (.ref a), some (.int h0), v, some (.ref rl), none] ∧ H' rl = some (.lst ((ringL f h0 (i + 1)).map V.int)) ∧ (∀ j, 0 < j → j ≤ i → it f j h0 ≠ h0) ∧ Fr [] _ H') p
      ⟨0, rfl, by omega, rfl, e1, fun j a b => absurd a (by omega), f1⟩ ?_
    rintro m σ' H2 ⟨i, hm, hi, rfl, e2, no, f2⟩ Nx R kN kT kF
    have last : ∀ {H' : Hp}, H' rl = some (.lst ((ringL f h0 (i + 1)).map V.int)) → H' rl = some (.lst ((ringL f h0 i).map V.int ++ [V.int (it f i h0)])) := fun e => by rw [e, ringL_succ, List.map_append]; rfl
    k_offL
    refine r_ixL (sqL_of (last e2)) (atI_last _ _) ?_
    k_offL
    refine get f2 (im i h0 m0) ?_
    k_offL
    by_cases e : f (it f i h0) = h0
    · rw [decide_eq_true e]
      refine kF _ ?_
      have per : Per f h0 (i + 1) := ⟨by omega, by rw [it_succ]; exact e, fun j a b => no j a (by omega)⟩
      k_offL
      refine r_min (sqL_of e2) (by rw [ringL_len]; omega) fun r a b => ?_
      obtain ⟨s, hs1, hs2⟩ := List.mem_iff_getElem.mp a
      have hs1' : s < i + 1 := by rw [ringL_len] at hs1; exact hs1
      have hr : it f s h0 = r := by
        have q := ringL_at (f := f) (h := h0) hs1'
        rw [List.getElem?_eq_getElem hs1, hs2] at q
        exact (Option.some.inj q).symm
      k_offL
      refine r_indexN (sqL_of e2) (ringL_nd per) (j := s) (by rw [List.getElem?_eq_getElem hs1, hs2]) ?_
      k_offL
      refine r_slL (sqL_of e2) fun l3 H3 n3 e3 f3 => ?_
      rw [cut_from, ← List.map_drop] at e3
      k_offL
      refine r_slL (sqL_of (f3.at_ _ _ e2 List.not_mem_nil)) fun l4 H4 n4 e4 f4 => ?_
      rw [cut_to, ← List.map_take] at e4
      k_offL
      refine r_cat (f4.at_ _ _ e3 List.not_mem_nil) e4 (by rw [List.length_map, List.length_map, List.length_drop, List.length_take, ringL_len]; omega) fun l5 H5 n5 e5 f5 => ?_
      rw [← List.map_append, ringL_rot per hs1', hr] at e5
      refine k l5 r (i + 1) (hs.length + s) H5 ?_ e5 (hr ▸ per.rot hs1') (by omega) (by rw [it_add, hq, hr]) (fun y hy => b y ?_) ((f2.trans f3).trans (f4.trans f5))
      · have g := (f2.trans f3).trans f4
        exact g.free n5
      · rw [← hr, ← ringL_rot per hs1'] at hy
        rcases List.mem_append.mp hy with z | z
        · exact List.mem_of_mem_drop z
        · exact List.mem_of_mem_take z
    · rw [decide_eq_false e]
      refine kT _ ?_
      have hi2 : i + 1 < p := by
        rcases Nat.lt_or_eq_of_le (show i + 1 ≤ p by omega) with q | q
        · exact q
        · rw [← q, it_succ] at p3; exact absurd p3 e
      k_offL
      refine r_ixL (sqL_of (last e2)) (atI_last _ _) ?_
      k_offL
      refine get f2 (im i h0 m0) ?_
      k_offL
      refine r_app e2 (by rw [List.length_map, ringL_len]; omega) fun H3 e3 f3 => ?_
      refine kN (m - 1) _ _ (by omega) ⟨i + 1, by omega, hi2, rfl, ?_, fun j a b => ?_, f2.drop f3 n1⟩
      · rw [e3, ringL_succ (m := i + 1), List.map_append, it_succ (n := i)]; rfl
      · rcases Nat.lt_or_eq_of_le b with q | q
        · exact no j a (by omega)
        · rw [q, it_succ]; exact e
end
def spRingOf (C : Addr) : Sp := fun vs H Q _ => ∃ (p da db dl : Addr) (N : NS) (h : Int), vs = [.ref p, .int h] ∧ NetAt C H p da db dl N ∧ N.Ok ∧ h ∈ N.hs ∧
  ∀ l r m n H', H l = none → H' l = some (.lst ((ringL N.f r m).map V.int)) → Per N.f r m → m ≤ N.hs.length → it N.f n h = r → (∀ y ∈ ringL N.f r m, r ≤ y) → Fr [] H H' → Q (.ref l) H'
section
variable {P : Program} {w : World} {K : PySem.W.Frag} {mg : Str → Option Value} {base : Heap} {CNet CMender CDesk CStore CWalk : Addr}
abbrev s_ring_of : Stmt := top 14
theorem sc_ring_of : FnScope ["net", "house", "nexts"] ["net", "house"] (defScope s_ring_of) := ⟨rfl, rfl, rfl, by decide +kernel, rfl, by decide +kernel, by decide +kernel⟩
theorem ok_ring_of {f : Addr} {fd : FuncData} (F : Fun K "ring_of" "ring_of" s_ring_of f fd) (G_Net_nexts : GM P w K mg base CNet "nexts" 1 ["self"] (spNexts CNet)) (G_check_house : GF P w K mg base "check_house" 1 ["nexts", "house"] spCheckHouse) (G_ring_from : GF P w K mg base "ring_from" 1 ["nexts", "house"] spRingFrom) (T : NetT K CNet) : FnOk P w K mg base CX0 2 f fd ["net", "house"] (spRingOf CNet) := by
  refine F.ok sc_ring_of (fun vs H Q E h => ?_) (fun cdv A outer s H vs Q E hr h => ?_)
  · obtain ⟨_, _, _, _, _, _, rfl, _⟩ := h; rfl
  · obtain ⟨p, da, db, dl, N, x, rfl, hN, ok, hx, k⟩ := h
    refine ⟨_, (pss_cons (ps_set (i := 2) sc_ring_of.nd rfl (Or.inl rfl) (c_mt0 G_Net_nexts (hr.mono (by decide)) (pv 0)))
      (pss_cons (ps_expr (c_fn G_check_house (hr.mono (by decide)) (pa_cons (pv 2) (pa_cons (pv 1) pa_nil))))
      (pss_one (ps_ret (c_fn G_ring_from (hr.mono (by decide)) (pa_cons (pv 2) (pa_cons (pv 1) pa_nil))))))), ?_⟩
    (try simp only [cxK, cxKX, List.map])
    refine ent (σ' := [some _, some _, none]) rfl ?_
    obtain ⟨dx, hp⟩ := hN.ob
    have hlen := ok.hl
    k_offL
    refine ⟨p, da, db, dl, N, rfl, hN, ok, fun l H1 n1 e1 f1 => ?_⟩
    k_offL
    refine ⟨l, _, x, rfl, .inl e1, ok.dkn.some' (NS.mf_at hx), ?_⟩
    k_offL
    exact ⟨l, N.hs, N.f, x, (), rfl, NS.nxAt ok e1 ok.dkn, hx, by omega, fun l2 r m n H2 n2 e2 per hm hr hmin f2 => k l2 r m n H2 (f1.free n2) e2 per hm hr hmin (f1.trans f2)⟩
end
def spGateOf (C : Addr) : Sp := fun vs H Q _ => ∃ (p da db dl : Addr) (N : NS) (h : Int), vs = [.ref p, .int h] ∧ NetAt C H p da db dl N ∧ N.Ok ∧ h ∈ N.hs ∧
  ∀ r m n j H', Per N.f r m → it N.f n h = r → it N.f j h ∈ ringL N.f r m → (∀ i, i < j → it N.f i h ∉ ringL N.f r m) → Fr [] H H' → Q (.int (it N.f j h)) H'
section
variable {P : Program} {w : World} {K : PySem.W.Frag} {mg : Str → Option Value} {base : Heap} {CNet CMender CDesk CStore CWalk : Addr}
abbrev s_gate_of : Stmt := top 15
theorem sc_gate_of : FnScope ["net", "house", "nexts", "ring"] ["net", "house"] (defScope s_gate_of) := ⟨rfl, rfl, rfl, by decide +kernel, rfl, by decide +kernel, by decide +kernel⟩
theorem ok_gate_of {f : Addr} {fd : FuncData} (F : Fun K "gate_of" "gate_of" s_gate_of f fd) (G_Net_nexts : GM P w K mg base CNet "nexts" 1 ["self"] (spNexts CNet)) (G_check_house : GF P w K mg base "check_house" 1 ["nexts", "house"] spCheckHouse) (G_ring_from : GF P w K mg base "ring_from" 1 ["nexts", "house"] spRingFrom) (T : NetT K CNet) : FnOk P w K mg base CX0 2 f fd ["net", "house"] (spGateOf CNet) := by
  refine F.ok sc_gate_of (fun vs H Q E h => ?_) (fun cdv A outer s H vs Q E hr h => ?_)
  · obtain ⟨_, _, _, _, _, _, rfl, _⟩ := h; rfl
  · obtain ⟨p, da, db, dl, N, x, rfl, hN, ok, hx, k⟩ := h
    refine ⟨_, (pss_cons (ps_set (i := 2) sc_gate_of.nd rfl (Or.inl rfl) (c_mt0 G_Net_nexts (hr.mono (by decide)) (pv 0)))
      (pss_cons (ps_expr (c_fn G_check_house (hr.mono (by decide)) (pa_cons (pv 2) (pa_cons (pv 1) pa_nil))))
      (pss_cons (ps_set (i := 3) sc_gate_of.nd rfl (Or.inl rfl) (c_fn G_ring_from (hr.mono (by decide)) (pa_cons (pv 2) (pa_cons (pv 1) pa_nil))))
      (pss_cons (ps_while PassesOwn.never (pt_cmpR (op_ninK (K := K) rfl) (pv 1) (pv 3) (by rfl)) (pss_one (ps_set (i := 1) sc_gate_of.nd rfl (Or.inl rfl) (pe_dget (hu_of hr) (pv 2) (pv 1) (by intro _ _; rfl)))))
      (pss_one (ps_ret (pv 1))))))), ?_⟩
    (try simp only [cxK, cxKX, List.map])
    refine ent (σ' := [some _, some _, none, none]) rfl ?_
    obtain ⟨dx, hp⟩ := hN.ob
    have hlen := ok.hl
    k_offL
    refine ⟨p, da, db, dl, N, rfl, hN, ok, fun l H1 n1 e1 f1 => ?_⟩
    k_offL
    refine ⟨l, _, x, rfl, .inl e1, ok.dkn.some' (NS.mf_at hx), ?_⟩
    have nx1 := NS.nxAt ok e1 ok.dkn
    k_offL
    refine ⟨l, N.hs, N.f, x, (), rfl, nx1, hx, by omega, fun l2 r m n H2 n2 e2 per hm hr hmin f2 => ?_⟩
    k_offL
    refine q_while (fun d σ' H' => ∃ i, d + i = n ∧ i ≤ n ∧ σ' = [some (.ref p), some (.int (it N.f i x)), some (.ref l), some (.ref l2)] ∧ (∀ j, j < i → it N.f j x ∉ ringL N.f r m) ∧ Fr [] H2 H') n ⟨0, rfl, Nat.zero_le _, rfl, fun j a => absurd a (by omega), Fr.refl _ _⟩ ?_
    rintro d σ' H3 ⟨i, hd, hi, rfl, no, f3⟩ Nx R kN kT kF
    have e23 := f3.at_ _ _ e2 List.not_mem_nil
    have nx3 := (nx1.ex0 f2).ex0 f3
    k_offL
    refine r_ninI (sqL_of e23) ?_
    k_offL
    by_cases e : it N.f i x ∈ ringL N.f r m
    · rw [decide_eq_true e]
      refine kF _ ?_
      k_offL
      exact k r m n i H3 per hr e no ((f1.trans f2).trans f3)
    · rw [decide_eq_false e]
      refine kT _ ?_
      have hlt : i < n := by
        rcases Nat.lt_or_eq_of_le hi with q | q
        · exact q
        · exfalso; apply e; rw [q, hr]; exact (ringL_iff per).mpr ⟨0, rfl⟩
      k_offL
      refine nx3.get (it_mem ok.fh hx) ?_
      k_offL
      refine kN (d - 1) _ _ (by omega) ⟨i + 1, by omega, by omega, by rw [it_succ], fun j a => ?_, f3⟩
      rcases Nat.lt_or_eq_of_le (Nat.le_of_lt_succ a) with q | q
      · exact no j q
      · rw [q]; exact e
end
end RL
set_option synthInstance.maxHeartbeats 4000000
set_option synthInstance.maxSize 4000
namespace RL
theorem Fr.weak {M M' : List Addr} {H H1 H2 : Hp} (x : Fr M H H1) (y : Fr M' H1 H2) (h : ∀ a ∈ M', a ∈ M ∨ H a = none) : Fr M H H2 :=
  ⟨fun a o e m => y.at_ a o (x.at_ a o e m) fun z => (h a z).elim m fun q => (by rw [q] at e; cases e), fun t xs e => y.tp t xs (x.tp t xs e), fun t u w e => y.fz t u w (x.fz t u w e)⟩
def stF (p : Addr) (c : Int) (dk : Addr) : List (Str × V) := [("net", .ref p), ("copies", .int c), ("_kept", .ref dk)]
structure StoreT (K : PySem.W.Frag) (C : Addr) : Prop where
  cl : Cls K C
  n1 : NoAttr K C "net"
  n2 : NoAttr K C "copies"
  n3 : NoAttr K C "_kept"
section
variable {K : PySem.W.Frag} {C s dx p dk : Addr} {H : Hp} {c : Int} {Q : VK}
theorem stF_1 : (stF p c dk).lookup ("net" : Str) = some (.ref p) := lk_eq
theorem stF_2 : (stF p c dk).lookup ("copies" : Str) = some (.int c) := (lk_ne (by decide +kernel)).trans lk_eq
theorem stF_3 : (stF p c dk).lookup ("_kept" : Str) = some (.ref dk) := (lk_ne (by decide +kernel)).trans ((lk_ne (by decide +kernel)).trans lk_eq)
def stNo (m : Str) : Bool := !(m == "net") && !(m == "copies") && !(m == "_kept")
theorem stF_no {m : Str} (h : stNo m = true) : (stF p c dk).lookup m = none := by
  unfold stNo at h
  simp only [Bool.and_eq_true, Bool.not_eq_true'] at h
  obtain ⟨⟨h1, h2⟩, h3⟩ := h
  exact (lk_ne h1).trans ((lk_ne h2).trans ((lk_ne h3).trans lk_nil))
theorem StoreT.f1 (T : StoreT K C) (h : H s = some (.ins C dx (stF p c dk))) (q : Q (.ref p) H) : FldK K "net" (.ref s) Q H := fldk h T.cl T.n1 stF_1 q
theorem StoreT.f2 (T : StoreT K C) (h : H s = some (.ins C dx (stF p c dk))) (q : Q (.int c) H) : FldK K "copies" (.ref s) Q H := fldk h T.cl T.n2 stF_2 q
theorem StoreT.f3 (T : StoreT K C) (h : H s = some (.ins C dx (stF p c dk))) (q : Q (.ref dk) H) : FldK K "_kept" (.ref s) Q H := fldk h T.cl T.n3 stF_3 q
theorem st_mt {m : Str} {A : Prop} (h : H s = some (.ins C dx (stF p c dk))) (hm : stNo m = true) (q : A) : MtK C m (.ref s) H A := mtk h (stF_no hm) q
end
structure KpAt (H : Hp) (dk : Addr) (L : List Addr) (n : Nat) (w : Int → Int → Option V) : Prop where
  ex : ∃ (I : Int → Option Addr) (kvs : List (Key × V)), H dk = some (.dK kvs) ∧ DOk kvs (fun p => (I p).map V.ref) ∧ kvs.length ≤ n ∧ (∀ p a, I p = some a → a ∈ L ∧ a ≠ dk ∧ ∃ ks, H a = some (.dK ks) ∧ DOk ks (w p) ∧ ks.length ≤ n) ∧
    (∀ p q a, I p = some a → I q = some a → p = q) ∧ (∀ p, I p = none → ∀ k, w p k = none)
  so : ∀ a ∈ L, (H a).isSome = true
  nd : dk ∉ L
structure StAt (C : Addr) (H : Hp) (s dk p : Addr) (c : Int) (L : List Addr) (n : Nat) (w : Int → Int → Option V) : Prop where
  ob : ∃ dx, H s = some (.ins C dx (stF p c dk))
  kp : KpAt H dk L n w
def putW (w : Int → Int → Option V) (p k : Int) (v : V) : Int → Int → Option V := fun p' k' => if p' = p ∧ k' = k then some v else w p' k'
section
variable {C : Addr} {H H' H1 H2 : Hp} {s dk p : Addr} {c : Int} {L M : List Addr} {n : Nat} {w : Int → Int → Option V}
theorem KpAt.fr (x : KpAt H dk L n w) (f : Fr M H H') (h1 : dk ∉ M) (h2 : ∀ a ∈ L, a ∉ M) : KpAt H' dk L n w := by
  obtain ⟨I, kvs, a, b, c, d, e, g⟩ := x.ex
  refine ⟨⟨I, kvs, f.at_ _ _ a h1, b, c, fun q y hy => ?_, e, g⟩, fun y hy => ?_, x.nd⟩
  · obtain ⟨u, v, ks, z1, z2⟩ := d q y hy
    exact ⟨u, v, ks, f.at_ _ _ z1 (h2 y u), z2⟩
  · obtain ⟨o, ho⟩ := Option.isSome_iff_exists.mp (x.so y hy)
    rw [f.at_ _ _ ho (h2 y hy)]; rfl
theorem KpAt.ex0 (x : KpAt H dk L n w) (f : Fr [] H H') : KpAt H' dk L n w := x.fr f List.not_mem_nil fun _ _ => List.not_mem_nil
theorem KpAt.up {n' : Nat} (x : KpAt H dk L n w) (h : n ≤ n') : KpAt H dk L n' w := by
  obtain ⟨I, kvs, a, b, c, d, e, g⟩ := x.ex
  refine ⟨⟨I, kvs, a, b, by omega, fun q y hy => ?_, e, g⟩, x.so, x.nd⟩
  obtain ⟨u, v, ks, z1, z2, z3⟩ := d q y hy
  exact ⟨u, v, ks, z1, z2, by omega⟩
theorem StAt.fr (x : StAt C H s dk p c L n w) (f : Fr M H H') (h0 : s ∉ M) (h1 : dk ∉ M) (h2 : ∀ a ∈ L, a ∉ M) : StAt C H' s dk p c L n w := ⟨let ⟨dx, e⟩ := x.ob; ⟨dx, f.at_ _ _ e h0⟩, x.kp.fr f h1 h2⟩
theorem StAt.ex0 (x : StAt C H s dk p c L n w) (f : Fr [] H H') : StAt C H' s dk p c L n w := x.fr f List.not_mem_nil List.not_mem_nil fun _ _ => List.not_mem_nil
theorem KpAt.new (h : H dk = some (.dK [])) : KpAt H dk [] n fun _ _ => none :=
  ⟨⟨fun _ => none, [], h, DOk.nil.cong fun _ => rfl, Nat.zero_le _, (fun _ _ e => nomatch e), (fun _ _ _ e => nomatch e), fun _ _ _ => rfl⟩, (fun _ h => nomatch h), List.not_mem_nil⟩
end
section
variable {σ : L2.St} {H : Hp} {td ty tx : TE} {Q : VK} {a : Addr} {y z : V} {kvs : List (Key × V)}
def DS2K (a : Addr) (y z : V) (Q : VK) (H3 : Hp) : Prop := ∃ (kvs : List (Key × V)) (k : Key), H3 a = some (.dK kvs) ∧ y = kV k ∧ kvs.length < sizeLine ∧ (∀ v, valV kvs k = some v → Q v H3) ∧ (valV kvs k = none → Q z (upd H3 a (.dK (putK kvs k z))))
def DS1K (x : V) (ty tx : TE) (σ : L2.St) (Q : VK) (H1 : Hp) : Prop := ∃ a, x = .ref a ∧ IsD H1 a ∧ ty σ H1 fun y H2 => tx σ H2 fun z H3 => DS2K a y z Q H3
theorem x_dsetd (h : td σ H fun x H1 => DS1K x ty tx σ Q H1) : tDSetd td ty tx σ H Q := h
instance o_x_dsetd : One (tDSetd td ty tx σ H Q) (td σ H fun x H1 => DS1K x ty tx σ Q H1) := ⟨x_dsetd⟩
theorem ds1 (h : H a = some (.dK kvs)) (q : ty σ H fun y H2 => tx σ H2 fun z H3 => DS2K a y z Q H3) : DS1K (.ref a) ty tx σ Q H := ⟨a, rfl, .inl ⟨kvs, .inl h⟩, q⟩
theorem ds2 {n : Int} (h : H a = some (.dK kvs)) (hl : kvs.length ≤ 100000) (k1 : ∀ v, valV kvs (.inl n) = some v → Q v H) (k2 : valV kvs (.inl n) = none → ∀ H', H' a = some (.dK (putK kvs (.inl n) z)) → Fr [a] H H' → Q z H') : DS2K a (.int n) z Q H :=
  ⟨kvs, .inl n, h, rfl, small' hl, k1, fun e => k2 e _ upd_same (Fr.dct h)⟩
def DG2b (a : Addr) (y z : V) (Q : VK) (H3 : Hp) : Prop := ∃ o, DGet H3 a y o ∧ Q (o.getD z) H3
def DG2K (x : V) (ty tx : TE) (σ : L2.St) (Q : VK) (H1 : Hp) : Prop := ∃ a, x = .ref a ∧ IsD H1 a ∧ ty σ H1 fun y H2 => tx σ H2 fun z H3 => DG2b a y z Q H3
theorem x_dget2 (h : td σ H fun x H1 => DG2K x ty tx σ Q H1) : tDGet2 td ty tx σ H Q := h
instance o_x_dget2 : One (tDGet2 td ty tx σ H Q) (td σ H fun x H1 => DG2K x ty tx σ Q H1) := ⟨x_dget2⟩
theorem dg2a (h : H a = some (.dK kvs)) (q : ty σ H fun y H2 => tx σ H2 fun z H3 => DG2b a y z Q H3) : DG2K (.ref a) ty tx σ Q H := ⟨a, rfl, .inl ⟨kvs, .inl h⟩, q⟩
theorem dg2b {n : Int} (h : H a = some (.dK kvs)) (q : Q ((valV kvs (.inl n)).getD z) H) : DG2b a (.int n) z Q H := ⟨_, .inl ⟨kvs, .inl n, .inl h, rfl, rfl⟩, q⟩
end
theorem stF_put (p : Addr) (c : Int) (dk : Addr) : putF "_kept" (.ref dk) (putF "copies" (.int c) (putF "net" (.ref p) [])) = stF p c dk := by
  show putF "_kept" (.ref dk) (putF "copies" (.int c) [(("net" : Str), V.ref p)]) = _
  rw [putF_ne (by decide +kernel)]
  show putF "_kept" (.ref dk) [(("net" : Str), V.ref p), (("copies" : Str), V.int c)] = _
  rw [putF_ne (by decide +kernel), putF_ne (by decide +kernel)]
  rfl
def spStoreInit (C : Addr) : Sp := fun vs H Q _ => ∃ (s dx p : Addr) (c : Int) (_ : Unit), vs = [.ref s, .ref p, .int c] ∧ H s = some (.ins C dx []) ∧ ∀ (dk : Addr) H', H dk = none → StAt C H' s dk p c [] 0 (fun _ _ => none) → Fr [s] H H' → Q .non H'
theorem i_store {C p : Addr} {c : Int} {H : Hp} {Q : VK} {E : XK} {gV : List V → List V → List V} {vs zs : List V} {a b : Nat} (ha : vs.length = a) (hz : zs.length = b) (hg : ∀ x, gV (.ref x :: vs) zs = [.ref x, .ref p, .int c])
    (k : ∀ (x dk : Addr) H', H x = none → H dk = none → StAt C H' x dk p c [] 0 (fun _ _ => none) → Fr [] H H' → Q (.ref x) H') : MkK C a b (spStoreInit C) gV E vs zs Q H := by
  refine ⟨ha, hz, fun x dx nx nd ne => ?_⟩
  have f0 := new_ins (C := C) nx nd ne
  rw [hg x]
  exact ⟨x, dx, p, c, (), rfl, upd_same, fun dk H' nk st f => ⟨rfl, k x dk H' nx (f0.free nk) st (f0.drop f nx)⟩⟩
section
variable {P : Program} {w : World} {K : PySem.W.Frag} {mg : Str → Option Value} {base : Heap} {CNet CMender CDesk CStore CWalk : Addr}
abbrev s_Store___init__ : Stmt := inClass (top 20) 0
theorem sc_Store___init__ : FnScope ["self", "net", "copies"] ["self", "net", "copies"] (defScope s_Store___init__) := ⟨rfl, rfl, rfl, by decide +kernel, rfl, by decide +kernel, by decide +kernel⟩
theorem ok_Store___init__ {f : Addr} {fd : FuncData} (F : FunD K "__init__" "Store.__init__" (defArgs s_Store___init__) (defBody s_Store___init__) (defScope s_Store___init__) [V.int 1] [] f fd) (T : StoreT K CStore) : FnOk P w K mg base CX0 1 f fd ["self", "net", "copies"] (spStoreInit CStore) := by
  refine F.ok sc_Store___init__ (fun vs H Q E h => ?_) (fun cdv A outer s H vs Q E hr h => ?_)
  · obtain ⟨_, _, _, _, _, rfl, _⟩ := h; rfl
  · obtain ⟨s, dx, p, c, _, rfl, hs, k⟩ := h
    refine ⟨_, (pss_cons (ps_fldK (K := K) rfl (pv 0) (pv 1) rfl)
      (pss_cons (ps_fldK (K := K) rfl (pv 0) (pv 2) rfl)
      (pss_one (ps_fldK (K := K) rfl (pv 0) pe_dnewK rfl)))), ?_⟩
    (try simp only [cxK, cxKX, List.map])
    refine ent (σ' := [some _, some _, some _]) rfl ?_
    k_offL
    refine stfk hs T.cl T.n1 (by show 0 < 1000; decide) fun H1 e1 f1 => ?_
    k_offL
    refine stfk e1 T.cl T.n2 (by show 1 < 1000; decide) fun H2 e2 f2 => ?_
    k_offL
    refine newk fun dk H3 n3 e3 f3 => ?_
    k_offL
    refine stfk (f3.at_ _ _ e2 List.not_mem_nil) T.cl T.n3 (by show 2 < 1000; decide) fun H4 e4 f4 => ?_
    k_offL
    have nk : dk ≠ s := (ne_of_none e2 n3).symm
    rw [stF_put] at e4
    refine k dk H4 ?_ ⟨⟨dx, e4⟩, .new (f4.at_ _ _ e3 (mem_one nk))⟩ (((f1.trans f2).trans f3.up).trans f4)
    have f12 := f1.trans f2
    cases q : H dk with
    | none => rfl
    | some o => rw [f12.at_ _ _ q (mem_one nk)] at n3; cases n3
end
structure Fst (N : NS) (h key first : Int) (m : Nat) : Prop where
  per : Per N.f first m
  le : m ≤ N.hs.length
  to : ∃ n, it N.f n h = first
  an : ∃ g j, (∃ n, it N.f n first = g) ∧ Ans N.size N.f g (far N.size g key) j ∧ it N.f j g = first
def spRingKey (C CN : Addr) : Sp := fun vs H Q _ => ∃ (s dk p da db dl : Addr) (c : Int) (L : List Addr) (n : Nat) (w : Int → Int → Option V) (N : NS) (h key : Int) (_ _ : Unit), vs = [.ref s, .int h, .int key] ∧ StAt C H s dk p c L n w ∧ NetAt CN H p da db dl N ∧ N.Ok ∧ h ∈ N.hs ∧ 0 ≤ key ∧ key < N.size ∧
  ∀ l first m H', H l = none → H' l = some (.lst ((ringL N.f first m).map V.int)) → Fst N h key first m → Fr [] H H' → Q (.ref l) H'
section
variable {P : Program} {w : World} {K : PySem.W.Frag} {mg : Str → Option Value} {base : Heap} {CNet CMender CDesk CStore CWalk : Addr}
abbrev s_Store__ring_from : Stmt := inClass (top 20) 1
theorem sc_Store__ring_from : FnScope ["self", "house", "key", "first", "ring", "start"] ["self", "house", "key"] (defScope s_Store__ring_from) := ⟨rfl, rfl, rfl, by decide +kernel, rfl, by decide +kernel, by decide +kernel⟩
theorem ok_Store__ring_from {f : Addr} {fd : FuncData} (F : Fun K "_ring_from" "Store._ring_from" s_Store__ring_from f fd) (G_check_look_up : GF P w K mg base "check_look_up" 2 ["net", "house", "key"] (spCheckLookUp CNet)) (G_answer : GF P w K mg base "answer" 3 ["net", "house", "key"] (spAnswer CNet)) (G_gate_of : GF P w K mg base "gate_of" 2 ["net", "house"] (spGateOf CNet)) (G_ring_of : GF P w K mg base "ring_of" 2 ["net", "house"] (spRingOf CNet)) (T : StoreT K CStore) (TN : NetT K CNet) : FnOk P w K mg base CX0 4 f fd ["self", "house", "key"] (spRingKey CStore CNet) := by
  refine F.ok sc_Store__ring_from (fun vs H Q E h => ?_) (fun cdv A outer s H vs Q E hr h => ?_)
  · obtain ⟨_, _, _, _, _, _, _, _, _, _, _, _, _, _, _, rfl, _⟩ := h; rfl
  · obtain ⟨s, dk, p, da, db, dl, c, L, n, w, N, x, key, _, _, rfl, St, hN, ok, hx, k0, k1, k⟩ := h
    refine ⟨_, (pss_cons (ps_expr (c_fn G_check_look_up (hr.mono (by decide)) (pa_cons (pe_fldK (K := K) rfl (pv 0) (by rfl)) (pa_cons (pv 1) (pa_cons (pv 2) pa_nil)))))
      (pss_cons (ps_set (i := 3) sc_Store__ring_from.nd rfl (Or.inl rfl) (pe_ix (ix_tupK (K := K) rfl) (c_fn G_answer (hr.mono (by decide)) (pa_cons (pe_fldK (K := K) rfl (pv 0) (by rfl)) (pa_cons (c_fn G_gate_of (hr.mono (by decide)) (pa_cons (pe_fldK (K := K) rfl (pv 0) (by rfl)) (pa_cons (pv 1) pa_nil))) (pa_cons (pv 2) pa_nil)))) pe_int (by intro _ _; rfl)))
      (pss_cons (ps_set (i := 4) sc_Store__ring_from.nd rfl (Or.inl rfl) (c_fn G_ring_of (hr.mono (by decide)) (pa_cons (pe_fldK (K := K) rfl (pv 0) (by rfl)) (pa_cons (pv 1) pa_nil))))
      (pss_cons (ps_set (i := 5) sc_Store__ring_from.nd rfl (Or.inl rfl) (pe_bmK (K := K) rfl PySem.F.plainAttrs_list PySem.F.slot_list_index PySem.F.type_list_index (mt_indexK (K := K) rfl) (pv 4) (pa_cons (pv 3) pa_nil)))
      (pss_one (ps_ret (pe_op op_cat (pe_slice (sl_listK (K := K) rfl) (pv 4) (po_some (pv 5)) po_none) (pe_slice (sl_listK (K := K) rfl) (pv 4) po_none (po_some (pv 5)))))))))), ?_⟩
    (try simp only [cxK, cxKX, List.map])
    refine ent (σ' := [some _, some _, some _, none, none, none]) rfl ?_
    obtain ⟨sx, hs⟩ := St.ob
    obtain ⟨dx, hp⟩ := hN.ob
    have hlen := ok.hl
    k_offL
    refine T.f1 hs ?_
    k_offL
    refine ⟨p, da, db, dl, N, x, key, rfl, hN, ok, hx, k0, k1, fun H1 f1 => ?_⟩
    k_offL
    refine T.f1 (f1.at_ _ _ hs List.not_mem_nil) ?_
    k_offL
    refine T.f1 (f1.at_ _ _ hs List.not_mem_nil) ?_
    k_offL
    refine ⟨p, da, db, dl, N, x, rfl, hN.ex f1, ok, hx, fun r m n' j H2 per hr hg _ f2 => ?_⟩
    k_offL
    refine ⟨p, da, db, dl, N, it N.f j x, key, rfl, hN.ex (f1.trans f2), ok, it_mem ok.fh hx, k0, k1, fun t H3 j2 an e3 f3 => ?_⟩
    have f03 := (f1.trans f2).trans f3
    k_offL
    refine r_ixT (sqT_of e3) (v := .int (it N.f j2 (it N.f j x))) rfl ?_
    k_offL
    refine T.f1 (f03.at_ _ _ hs List.not_mem_nil) ?_
    k_offL
    refine ⟨p, da, db, dl, N, x, rfl, hN.ex f03, ok, hx, fun l r' m' n2 H4 n4 e4 per' hm' hr' _ f4 => ?_⟩
    have on1 : ∃ q, it N.f q r = it N.f j x := (ringL_iff per).mp hg
    obtain ⟨q1, hq1⟩ := on1
    have hmeet := per.meet hr hr'
    have hfirst : it N.f (n' + m * n2 - n2 + (q1 + j2)) r' = it N.f j2 (it N.f j x) := by rw [it_add, hmeet, it_add, hq1]
    have hg' : it N.f (n' + m * n2 - n2 + q1) r' = it N.f j x := by rw [it_add, hmeet, hq1]
    have hmem := (ringL_iff per').mpr ⟨_, hfirst⟩
    obtain ⟨i, hi, ei⟩ := List.mem_iff_getElem.mp hmem
    have hi' : i < m' := by rw [ringL_len] at hi; exact hi
    have ef : it N.f i r' = it N.f j2 (it N.f j x) := by
      have := ringL_at (f := N.f) (h := r') hi'
      rw [List.getElem?_eq_getElem hi, ei] at this
      exact (Option.some.inj this).symm
    k_offL
    refine r_indexN (sqL_of e4) (ringL_nd per') (j := i) (by rw [List.getElem?_eq_getElem hi, ei]) ?_
    k_offL
    refine r_slL (sqL_of e4) fun l5 H5 n5 e5 f5 => ?_
    rw [cut_from, ← List.map_drop] at e5
    k_offL
    refine r_slL (sqL_of (f5.at_ _ _ e4 List.not_mem_nil)) fun l6 H6 n6 e6 f6 => ?_
    rw [cut_to, ← List.map_take] at e6
    k_offL
    refine r_cat (f6.at_ _ _ e5 List.not_mem_nil) e6 (by rw [List.length_map, List.length_map, List.length_drop, List.length_take, ringL_len]; omega) fun l7 H7 n7 e7 f7 => ?_
    rw [← List.map_append, ringL_rot per' hi', ef] at e7
    have f06 := (f03.trans f4).trans (f5.trans f6)
    exact k l7 _ m' H7 (f06.free n7) e7 ⟨per'.at_ hfirst, hm', ⟨j + j2, it_add⟩, it N.f j x, j2, ⟨_, (per'.at_ hg').back rfl⟩, an, rfl⟩ (f06.trans f7)
end
def spHolders (C CN : Addr) : Sp := fun vs H Q _ => ∃ (s dk p da db dl : Addr) (c : Nat) (L : List Addr) (n : Nat) (w : Int → Int → Option V) (N : NS) (h key : Int) (_ _ : Unit), vs = [.ref s, .int h, .int key] ∧ StAt C H s dk p (c : Int) L n w ∧ NetAt CN H p da db dl N ∧ N.Ok ∧ h ∈ N.hs ∧ 0 ≤ key ∧ key < N.size ∧
  ∀ l first m H', H l = none → H' l = some (.lst (((ringL N.f first m).take c).map V.int)) → Fst N h key first m → Fr [] H H' → Q (.ref l) H'
section
variable {P : Program} {w : World} {K : PySem.W.Frag} {mg : Str → Option Value} {base : Heap} {CNet CMender CDesk CStore CWalk : Addr}
abbrev s_Store_holders : Stmt := inClass (top 20) 2
theorem sc_Store_holders : FnScope ["self", "house", "key"] ["self", "house", "key"] (defScope s_Store_holders) := ⟨rfl, rfl, rfl, by decide +kernel, rfl, by decide +kernel, by decide +kernel⟩
theorem ok_Store_holders {f : Addr} {fd : FuncData} (F : Fun K "holders" "Store.holders" s_Store_holders f fd) (G_Store__ring_from : GM P w K mg base CStore "_ring_from" 4 ["self", "house", "key"] (spRingKey CStore CNet)) (T : StoreT K CStore) (TN : NetT K CNet) : FnOk P w K mg base CX0 5 f fd ["self", "house", "key"] (spHolders CStore CNet) := by
  refine F.ok sc_Store_holders (fun vs H Q E h => ?_) (fun cdv A outer s H vs Q E hr h => ?_)
  · obtain ⟨_, _, _, _, _, _, _, _, _, _, _, _, _, _, _, rfl, _⟩ := h; rfl
  · obtain ⟨s, dk, p, da, db, dl, c, L, n, w, N, x, key, _, _, rfl, St, hN, ok, hx, k0, k1, k⟩ := h
    refine ⟨_, (pss_one (ps_ret (pe_slice (sl_listK (K := K) rfl) (c_mt G_Store__ring_from (hr.mono (by decide)) (pv 0) (pa_cons (pv 1) (pa_cons (pv 2) pa_nil))) po_none (po_some (pe_fldK (K := K) rfl (pv 0) (by rfl)))))), ?_⟩
    (try simp only [cxK, cxKX, List.map])
    refine ent (σ' := [some _, some _, some _]) rfl ?_
    obtain ⟨sx, hs⟩ := St.ob
    k_offL
    refine st_mt hs (by decide +kernel) ?_
    k_offL
    refine ⟨s, dk, p, da, db, dl, c, L, n, w, N, x, key, (), (), rfl, St, hN, ok, hx, k0, k1, fun l first m H1 n1 e1 F f1 => ?_⟩
    k_offL
    refine T.f2 (f1.at_ _ _ hs List.not_mem_nil) ?_
    k_offL
    refine r_slL (sqL_of e1) fun l2 H2 n2 e2 f2 => ?_
    rw [cut_to, ← List.map_take] at e2
    exact k l2 first m H2 (f1.free n2) e2 F (f1.trans f2)
end
def putAll (w : Int → Int → Option V) (ps : List Int) (k : Int) (v : V) : Int → Int → Option V := fun p' k' => if p' ∈ ps ∧ k' = k then some v else w p' k'
theorem putAll_snoc {w : Int → Int → Option V} {ps : List Int} {p k : Int} {v : V} : putW (putAll w ps k v) p k v = putAll w (ps ++ [p]) k v := by
  funext p' k'
  unfold putW putAll
  by_cases e : k' = k
  · by_cases e1 : p' = p
    · rw [if_pos ⟨e1, e⟩, if_pos ⟨List.mem_append_right _ (List.mem_singleton.mpr e1), e⟩]
    · rw [if_neg fun z => e1 z.1]
      by_cases e2 : p' ∈ ps
      · rw [if_pos ⟨e2, e⟩, if_pos ⟨List.mem_append_left _ e2, e⟩]
      · rw [if_neg fun z => e2 z.1, if_neg fun z => (List.mem_append.mp z.1).elim e2 fun z => e1 (List.mem_singleton.mp z)]
  · rw [if_neg fun z => e z.2, if_neg fun z => e z.2, if_neg fun z => e z.2]
theorem KpAt.put {H : Hp} {dk : Addr} {L : List Addr} {n : Nat} {w : Int → Int → Option V} (x : KpAt H dk L n w) (hn : n ≤ 10000) (p k : Int) (v : V) {z : Addr} (hz : H z = some (.dK [])) (zd : z ≠ dk) (zL : z ∉ L) :
    ∃ kvs, H dk = some (.dK kvs) ∧ kvs.length ≤ n ∧ ((∃ a ks, valV kvs (.inl p) = some (.ref a) ∧ a ∈ L ∧ H a = some (.dK ks) ∧ ks.length ≤ n ∧ ∀ H', H' a = some (.dK (putK ks (.inl k) v)) → Fr [a] H H' → KpAt H' dk L (n + 1) (putW w p k v)) ∨
      (valV kvs (.inl p) = none ∧ ∀ H1, H1 dk = some (.dK (putK kvs (.inl p) (.ref z))) → Fr [dk] H H1 → ∀ H2, H2 z = some (.dK (putK [] (.inl k) v)) → Fr [z] H1 H2 → KpAt H2 dk (z :: L) (n + 1) (putW w p k v))) := by
  obtain ⟨I, kvs, a, b, c, d, e, g⟩ := x.ex
  refine ⟨kvs, a, c, ?_⟩
  cases hI : I p with
  | some y =>
    obtain ⟨u1, u2, ks, u3, u4, u5⟩ := d p y hI
    refine .inl ⟨y, ks, by rw [b.val, hI]; rfl, u1, u3, u5, fun H' h' f => ⟨⟨I, kvs, f.at_ _ _ a (mem_one u2.symm), b, by omega, fun q y' hq => ?_, e, fun q hq k' => ?_⟩, fun y' hy' => ?_, x.nd⟩⟩
    · obtain ⟨w1, w2, ks', w3, w4, w5⟩ := d q y' hq
      by_cases eq : q = p
      · subst eq
        rw [hI] at hq
        cases hq
        refine ⟨w1, w2, _, h', u4.put.cong fun i => ?_, by have := putK_len1 ks (.inl k) v; omega⟩
        unfold putW
        by_cases ei : i = k
        · rw [if_pos ei, if_pos ⟨rfl, ei⟩]
        · rw [if_neg ei, if_neg fun z => ei z.2]
      · refine ⟨w1, w2, ks', f.at_ _ _ w3 (mem_one fun z => eq (e q p _ hq (z ▸ hI))), w4.cong fun i => ?_, by omega⟩
        unfold putW
        rw [if_neg fun z => eq z.1]
    · unfold putW
      rw [if_neg fun z => by rw [z.1, hI] at hq; cases hq]
      exact g q hq k'
    · by_cases ey : y' = y
      · rw [ey, h']; rfl
      · obtain ⟨o, ho⟩ := Option.isSome_iff_exists.mp (x.so y' hy')
        rw [f.at_ _ _ ho (mem_one ey)]; rfl
  | none =>
    refine .inr ⟨by rw [b.val, hI]; rfl, fun H1 h1 f1 H2 h2 f2 => ⟨⟨fun q => if q = p then some z else I q, _, f2.at_ _ _ h1 (mem_one zd.symm), b.put.cong fun i => ?_, by have := putK_len1 kvs (.inl p) (.ref z); omega, fun q y' hq => ?_, fun q q' y' hq hq' => ?_, fun q hq k' => ?_⟩, fun y' hy' => ?_, fun m => (List.mem_cons.mp m).elim (fun e => zd e.symm) x.nd⟩⟩
    · show (if i = p then _ else _) = Option.map V.ref (if i = p then some z else I i)
      by_cases ei : i = p
      · rw [if_pos ei, if_pos ei]; rfl
      · rw [if_neg ei, if_neg ei]
    · have hq' : (if q = p then some z else I q) = some y' := hq
      by_cases eq : q = p
      · rw [if_pos eq] at hq'
        cases hq'
        refine ⟨List.mem_cons_self, zd, _, h2, DOk.nil.put.cong fun i => ?_, by have := putK_len1 [] (.inl k : Key) v; show _ ≤ n + 1; simp at this; omega⟩
        unfold putW
        by_cases ei : i = k
        · rw [if_pos ei, if_pos ⟨eq, ei⟩]
        · rw [if_neg ei, if_neg fun z => ei z.2, eq, g p hI]
      · rw [if_neg eq] at hq'
        obtain ⟨w1, w2, ks', w3, w4, w5⟩ := d q y' hq'
        refine ⟨List.mem_cons_of_mem _ w1, w2, ks', f2.at_ _ _ (f1.at_ _ _ w3 (mem_one w2)) (mem_one fun z' => zL (z' ▸ w1)), w4.cong fun i => ?_, by omega⟩
        unfold putW
        rw [if_neg fun z => eq z.1]
    · have h1 : (if q = p then some z else I q) = some y' := hq
      have h2 : (if q' = p then some z else I q') = some y' := hq'
      by_cases eq : q = p
      · by_cases eq' : q' = p
        · rw [eq, eq']
        · rw [if_pos eq] at h1
          rw [if_neg eq'] at h2
          cases h1
          exact absurd (d q' _ h2).1 zL
      · by_cases eq' : q' = p
        · rw [if_neg eq] at h1
          rw [if_pos eq'] at h2
          cases h2
          exact absurd (d q _ h1).1 zL
        · rw [if_neg eq] at h1
          rw [if_neg eq'] at h2
          exact e q q' y' h1 h2
    · have h1 : (if q = p then some z else I q) = none := hq
      by_cases eq : q = p
      · rw [if_pos eq] at h1; cases h1
      · rw [if_neg eq] at h1
        unfold putW
        rw [if_neg fun z => eq z.1]
        exact g q h1 k'
    · rcases List.mem_cons.mp hy' with ey | hy'
      · rw [ey, h2]; rfl
      · obtain ⟨o, ho⟩ := Option.isSome_iff_exists.mp (x.so y' hy')
        rw [f2.at_ _ _ (f1.at_ _ _ ho (mem_one fun e => x.nd (e ▸ hy'))) (mem_one fun e => zL (e ▸ hy'))]; rfl
def spStorePut (C CN : Addr) : Sp := fun vs H Q _ => ∃ (s dk p da db dl : Addr) (c : Nat) (L : List Addr) (n : Nat) (w : Int → Int → Option V) (N : NS) (h key : Int) (v : V) (_ _ _ : Unit), vs = [.ref s, .int h, .int key, v] ∧ StAt C H s dk p (c : Int) L n w ∧ n ≤ 5000 ∧ NetAt CN H p da db dl N ∧ N.Ok ∧ h ∈ N.hs ∧ 0 ≤ key ∧ key < N.size ∧ s ∉ dk :: L ∧
  ∀ l first m L' H', H l = none → H' l = some (.lst (((ringL N.f first m).take c).map V.int)) → Fst N h key first m → (∀ a ∈ L', a ∈ L ∨ H a = none) → StAt C H' s dk p (c : Int) L' (n + 60) (putAll w ((ringL N.f first m).take c) key v) → Fr (dk :: L) H H' → Q (.ref l) H'
section
variable {P : Program} {w : World} {K : PySem.W.Frag} {mg : Str → Option Value} {base : Heap} {CNet CMender CDesk CStore CWalk : Addr}
abbrev s_Store_put : Stmt := inClass (top 20) 3
theorem sc_Store_put : FnScope ["self", "house", "key", "worth", "holders", "holder", "worths"] ["self", "house", "key", "worth"] (defScope s_Store_put) := ⟨rfl, rfl, rfl, by decide +kernel, rfl, by decide +kernel, by decide +kernel⟩
theorem ok_Store_put {f : Addr} {fd : FuncData} (F : Fun K "put" "Store.put" s_Store_put f fd) (G_Store_holders : GM P w K mg base CStore "holders" 5 ["self", "house", "key"] (spHolders CStore CNet)) (T : StoreT K CStore) (TN : NetT K CNet) : FnOk P w K mg base CX0 6 f fd ["self", "house", "key", "worth"] (spStorePut CStore CNet) := by
  refine F.ok sc_Store_put (fun vs H Q E h => ?_) (fun cdv A outer s H vs Q E hr h => ?_)
  · obtain ⟨_, _, _, _, _, _, _, _, _, _, _, _, _, _, _, _, _, rfl, _⟩ := h; rfl
  · obtain ⟨s, dk, p, da, db, dl, c, L, n, w, N, x, key, v, _, _, _, rfl, St, hn, hN, ok, hx, k0, k1, hoff, k⟩ := h
    refine ⟨_, (pss_cons (ps_set (i := 4) sc_Store_put.nd rfl (Or.inl rfl) (c_mt G_Store_holders (hr.mono (by decide)) (pv 0) (pa_cons (pv 1) (pa_cons (pv 2) pa_nil))))
      (pss_cons (ps_for PassesOwn.never rfl (pi_listK (K := K) rfl (pv 4)) (pg_name (i := 5) sc_Store_put.nd rfl (Or.inl rfl))
      (pss_cons (ps_set (i := 6) sc_Store_put.nd rfl (Or.inl rfl) (pe_dsetd (pe_fldK (K := K) rfl (pv 0) (by rfl)) (pv 5) pe_dnewK ⟨by rfl, by rfl, by rfl, by rfl⟩))
      (pss_one (ps_dput (hu_of hr) (pv 6) (pv 2) (pv 3) rfl))))
      (pss_one (ps_ret (pv 4))))), ?_⟩
    (try simp only [cxK, cxKX, List.map])
    refine ent (σ' := [some _, some _, some _, some _, none, none, none]) rfl ?_
    obtain ⟨sx, hs⟩ := St.ob
    have hlen := ok.hl
    k_offL
    refine st_mt hs (by decide +kernel) ?_
    k_offL
    refine ⟨s, dk, p, da, db, dl, c, L, n, w, N, x, key, (), (), rfl, St, hN, ok, hx, k0, k1, fun l first m H1 n1 e1 F f1 => ?_⟩
    have hlm : ((ringL N.f first m).take c).length ≤ 45 := by rw [List.length_take, ringL_len]; have := F.le; omega
    revert hlm e1
    generalize hps : (ringL N.f first m).take c = ps
    intro e1 hlm
    have none_L : ∀ {z : Addr}, H z = none → z ∉ dk :: L := fun {z} hz m => by
      obtain ⟨I, kvs, a, _⟩ := St.kp.ex
      rcases List.mem_cons.mp m with q | q
      · rw [q, a] at hz; cases hz
      · have := St.kp.so z q
        rw [hz] at this; cases this
    have lL := none_L n1
    have St1 := St.ex0 f1
    k_offL
    refine loopLF (M := dk :: L) (ps.map V.int) (sqL_of e1) lL (fun i σ' H' => ∃ (v1 v2 : Option V) (L' : List Addr), σ' = [some (.ref s), some (.int x), some (.int key), some v, some (.ref l), v1, v2] ∧ (∀ a ∈ L', a ∈ L ∨ H1 a = none) ∧ (∀ a ∈ L, a ∈ L') ∧ StAt CStore H' s dk p (c : Int) L' (n + i) (putAll w (ps.take i) key v) ∧ Fr (dk :: L) H1 H')
      ⟨_, _, L, rfl, fun a h => .inl h, fun _ h => h, by rw [List.take_zero]; exact ⟨St1.ob, by rw [show putAll w [] key v = w by funext a b; unfold putAll; rw [if_neg fun z => nomatch z.1]]; exact St1.kp⟩, Fr.refl _ _⟩ (fun i σ' H' ⟨_, _, _, _, _, _, _, f⟩ => f) ?_ ?_
    · rintro i y σ' H2 hi ⟨v1, v2, L', rfl, hL', hLL, St2, f2⟩
      obtain ⟨q, hq, hm, rfl⟩ := mem_ints hi
      have hi45 : i < 45 := by have := (List.getElem?_eq_some_iff.mp hq).1; omega
      obtain ⟨sx2, hs2⟩ := St2.ob
      obtain ⟨_, kvs0, hk0, _⟩ := St2.kp.ex
      have sL' : s ∉ dk :: L' := fun m => by
        rcases List.mem_cons.mp m with e | e
        · exact hoff (e ▸ List.mem_cons_self)
        · rcases hL' s e with z | z
          · exact hoff (List.mem_cons_of_mem _ z)
          · rw [f1.at_ _ _ hs List.not_mem_nil] at z; cases z
      k_offL
      refine T.f3 hs2 ?_
      k_offL
      refine ds1 hk0 ?_
      k_offL
      refine newk fun z H3 n3 e3 f3 => ?_
      have St3 := St2.ex0 f3
      have zdk : z ≠ dk := (ne_of_none hk0 n3).symm
      have zL : z ∉ L' := fun m => by have := St2.kp.so z m; rw [n3] at this; cases this
      have zs : z ≠ s := (ne_of_none hs2 n3).symm
      have hz1 : H1 z = none := by
        cases hz : H1 z with
        | none => rfl
        | some o =>
          by_cases m : z ∈ dk :: L
          · exfalso
            rcases List.mem_cons.mp m with e | e
            · exact zdk e
            · exact zL (hLL z e)
          · rw [f2.at_ _ _ hz m] at n3; cases n3
      obtain ⟨kvs, hk, hkl, hh⟩ := St3.kp.put (by omega) q key v e3 zdk zL
      have ob3 := St3.ob
      have pw : putW (putAll w (ps.take i) key v) q key v = putAll w (ps.take (i + 1)) key v := by rw [take_snoc hq, putAll_snoc]
      rw [pw] at hh
      refine ds2 hk (by omega) (fun v' ev => ?_) (fun ev H4 e4 f4 => ?_)
      · rcases hh with ⟨a, ks, h1, h2, h3, h4, h5⟩ | ⟨h1, _⟩
        · rw [h1] at ev
          cases ev
          k_offL
          refine dputk h3 (by omega) fun H4 e4 f4 => ?_
          have a_s : s ≠ a := fun e => sL' (e ▸ List.mem_cons_of_mem _ h2)
          refine ⟨_, _, L', rfl, hL', hLL, ⟨let ⟨dx, e⟩ := ob3; ⟨dx, f4.at_ _ _ e (mem_one a_s)⟩, h5 H4 e4 f4⟩, f2.weak (f3.up.trans f4) fun a' m => ?_⟩
          rw [List.mem_singleton.mp m]
          exact (hL' a h2).imp_left (List.mem_cons_of_mem _)
        · rw [h1] at ev; cases ev
      · rcases hh with ⟨a, ks, h1, _⟩ | ⟨h1, h2⟩
        · rw [h1] at ev; cases ev
        · k_offL
          have e34 := f4.at_ _ _ e3 (mem_one zdk)
          refine dputk e34 (Nat.zero_le _) fun H5 e5 f5 => ?_
          have s_dk : s ≠ dk := fun e => sL' (e ▸ List.mem_cons_self)
          refine ⟨_, _, z :: L', rfl, fun a m => (List.mem_cons.mp m).elim (fun e => .inr (e ▸ hz1)) (hL' a), fun a m => List.mem_cons_of_mem _ (hLL a m), ⟨let ⟨dx, e⟩ := ob3; ⟨dx, f5.at_ _ _ (f4.at_ _ _ e (mem_one s_dk)) (mem_one zs.symm)⟩, h2 H4 e4 f4 H5 e5 f5⟩, f2.weak (f3.up.trans ((f4.mono fun a h => by simp at h; simp [h]).trans (f5.mono (M' := [dk, z]) fun a h => by simp at h; simp [h]))) fun a' m => ?_⟩
          simp at m
          rcases m with m | m
          · rw [m]; exact .inl List.mem_cons_self
          · rw [m]; exact .inr hz1
    · rintro σ' H2 ⟨v1, v2, L', rfl, hL', hLL, St2, f2⟩
      rw [List.length_map, List.take_length] at St2
      k_offL
      have back : ∀ a, H1 a = none → H a = none := fun a h => f1.free h
      exact k l first m L' H2 n1 (by rw [hps]; exact f2.at_ _ _ e1 lL) F (fun a m => (hL' a m).imp_right (back a)) ⟨St2.ob, by rw [hps]; exact St2.kp.up (by omega)⟩ (f1.up.trans f2)
end
def spFindWorth (C CN : Addr) : Sp := fun vs H Q _ => ∃ (s dk p da db dl : Addr) (c : Nat) (L : List Addr) (n : Nat) (w : Int → Int → Option V) (N : NS) (h key : Int) (_ _ : Unit), vs = [.ref s, .int h, .int key] ∧ StAt C H s dk p (c : Int) L n w ∧ NetAt CN H p da db dl N ∧ N.Ok ∧ h ∈ N.hs ∧ 0 ≤ key ∧ key < N.size ∧
  ∀ first m v H', Fst N h key first m → ((v = .non ∧ ∀ p ∈ ringL N.f first m, w p key = none) ∨ ∃ i, i < m ∧ w (it N.f i first) key = some v ∧ ∀ i', i' < i → w (it N.f i' first) key = none) → Fr [] H H' → Q v H'
theorem KpAt.get {H : Hp} {dk : Addr} {L : List Addr} {n : Nat} {w : Int → Int → Option V} (x : KpAt H dk L n w) (p : Int) {z : Addr} (hz : H z = some (.dK [])) :
    ∃ kvs, H dk = some (.dK kvs) ∧ ∃ a ks, (valV kvs (.inl p)).getD (.ref z) = .ref a ∧ H a = some (.dK ks) ∧ DOk ks (w p) := by
  obtain ⟨I, kvs, a, b, c, d, e, g⟩ := x.ex
  refine ⟨kvs, a, ?_⟩
  cases hI : I p with
  | some y =>
    obtain ⟨u1, u2, ks, u3, u4, u5⟩ := d p y hI
    exact ⟨y, ks, by rw [b.val, hI]; rfl, u3, u4⟩
  | none => exact ⟨z, [], by rw [b.val, hI]; rfl, hz, DOk.nil.cong fun k => (g p hI k).symm⟩
section
variable {P : Program} {w : World} {K : PySem.W.Frag} {mg : Str → Option Value} {base : Heap} {CNet CMender CDesk CStore CWalk : Addr}
abbrev s_Store_find_worth : Stmt := inClass (top 20) 4
theorem sc_Store_find_worth : FnScope ["self", "house", "key", "holder", "worths"] ["self", "house", "key"] (defScope s_Store_find_worth) := ⟨rfl, rfl, rfl, by decide +kernel, rfl, by decide +kernel, by decide +kernel⟩
theorem ok_Store_find_worth {f : Addr} {fd : FuncData} (F : Fun K "find_worth" "Store.find_worth" s_Store_find_worth f fd) (G_Store__ring_from : GM P w K mg base CStore "_ring_from" 4 ["self", "house", "key"] (spRingKey CStore CNet)) (T : StoreT K CStore) (TN : NetT K CNet) : FnOk P w K mg base CX0 5 f fd ["self", "house", "key"] (spFindWorth CStore CNet) := by
  refine F.ok sc_Store_find_worth (fun vs H Q E h => ?_) (fun cdv A outer s H vs Q E hr h => ?_)
  · obtain ⟨_, _, _, _, _, _, _, _, _, _, _, _, _, _, _, rfl, _⟩ := h; rfl
  · obtain ⟨s, dk, p, da, db, dl, c, L, n, w, N, x, key, _, _, rfl, St, hN, ok, hx, k0, k1, k⟩ := h
    refine ⟨_, (pss_cons (ps_for PassesOwn.never rfl (pi_listK (K := K) rfl (c_mt G_Store__ring_from (hr.mono (by decide)) (pv 0) (pa_cons (pv 1) (pa_cons (pv 2) pa_nil)))) (pg_name (i := 3) sc_Store_find_worth.nd rfl (Or.inl rfl))
      (pss_cons (ps_set (i := 4) sc_Store_find_worth.nd rfl (Or.inl rfl) (pe_dget2 (hu_of hr) (pe_fldK (K := K) rfl (pv 0) (by rfl)) (pv 3) pe_dnewK ⟨by rfl, by rfl, by rfl, by rfl⟩))
      (pss_one (ps_if (pt_cmp (pc_din (hu_of hr) (pv 2) (pv 4))) (pss_one (ps_ret (pe_dget (hu_of hr) (pv 4) (pv 2) (by intro _ _; rfl)))) pss_nil))))
      (pss_one (ps_ret pe_non))), ?_⟩
    (try simp only [cxK, cxKX, List.map])
    refine ent (σ' := [some _, some _, some _, none, none]) rfl ?_
    obtain ⟨sx, hs⟩ := St.ob
    k_offL
    refine st_mt hs (by decide +kernel) ?_
    k_offL
    refine ⟨s, dk, p, da, db, dl, c, L, n, w, N, x, key, (), (), rfl, St, hN, ok, hx, k0, k1, fun l first m H1 n1 e1 F f1 => ?_⟩
    k_offL
    refine loopLF (M := []) ((ringL N.f first m).map V.int) (sqL_of e1) List.not_mem_nil (fun i σ' H' => (∃ (v1 v2 : Option V), σ' = [some (.ref s), some (.int x), some (.int key), v1, v2]) ∧ (∀ i', i' < i → i' < m → w (it N.f i' first) key = none) ∧ Fr [] H1 H')
      ⟨⟨_, _, rfl⟩, fun i' h => absurd h (by omega), Fr.refl _ _⟩ (fun i σ' H' p => p.2.2) ?_ ?_
    · rintro i y σ' H2 hi ⟨⟨v1, v2, rfl⟩, no, f2⟩
      obtain ⟨q, hq, hm, rfl⟩ := mem_ints hi
      have him : i < m := by have := (List.getElem?_eq_some_iff.mp hq).1; rw [ringL_len] at this; exact this
      have eq : q = it N.f i first := by rw [ringL_at him] at hq; exact (Option.some.inj hq).symm
      have St2 := St.ex0 (f1.trans f2)
      obtain ⟨sx2, hs2⟩ := St2.ob
      obtain ⟨_, kvs0, hk0, _⟩ := St2.kp.ex
      k_offL
      refine T.f3 hs2 ?_
      k_offL
      refine dg2a hk0 ?_
      k_offL
      refine newk fun z H3 n3 e3 f3 => ?_
      obtain ⟨kvs, hk, a, ks, h1, h2, h3⟩ := (St2.kp.ex0 f3).get q e3
      refine dg2b hk ?_
      rw [h1]
      k_offL
      refine dink (.inl h2) ?_
      rw [h3.val]
      cases hw : w q key with
      | some v =>
        refine blk (ifE rfl (ifT ?_))
        k_offL
        refine dgetk (.inl h2) (by rw [h3.val, hw]) ?_
        k_offL
        exact k first m v H3 F (.inr ⟨i, him, by rw [← eq, hw], fun i' h => no i' h (by omega)⟩) ((f1.trans f2).trans f3)
      | none =>
        refine blk (ifE rfl (ifF ?_))
        k_offL
        refine ⟨⟨_, _, rfl⟩, fun i' h hm' => ?_, f2.trans f3⟩
        rcases Nat.lt_or_eq_of_le (Nat.le_of_lt_succ h) with z | z
        · exact no i' z hm'
        · rw [z, ← eq, hw]
    · rintro σ' H2 ⟨⟨v1, v2, rfl⟩, no, f2⟩
      k_offL
      refine k first m .non H2 F (.inl ⟨rfl, fun p hp => ?_⟩) (f1.trans f2)
      obtain ⟨i, hi, e⟩ := List.mem_map.mp hp
      rw [← e]
      have := List.mem_range.mp hi
      exact no i (by rw [List.length_map, ringL_len]; exact this) this
end
end RL
set_option synthInstance.maxHeartbeats 4000000
set_option synthInstance.maxSize 4000
namespace RL
theorem cb_str {X : Cx} : CallR X (.type "str") (fun xs H Q => ∃ i, xs = [.int i] ∧ i.natAbs.log2 < 1920 ∧ Q (.str (toString i)) H) := call_str_int
theorem ring_sum {size : Int} {f : Int → Int} {r : Int} : ∀ m, ((ringL f r m).map fun x => far size x (f x)).sum = wl size f m r
  | 0 => rfl
  | m + 1 => by rw [ringL_succ, List.map_append, List.sum_append, ring_sum m, wl_succ]; simp
theorem Per.uniq {f : Int → Int} {h : Int} {m m' : Nat} (p : Per f h m) (q : Per f h m') : m = m' := by
  rcases Nat.lt_trichotomy m m' with e | e | e
  · exact absurd p.rt (q.no m (by have := p.p1; omega) e)
  · exact e
  · exact absurd q.rt (p.no m' (by have := q.p1; omega) e)
section
variable {σ : L2.St} {H : Hp} {Q : VK}
theorem x_dnewT (h : NewK (.dT []) Q H) : tDNewT σ H Q := h
instance o_x_dnewT : One (tDNewT σ H Q) (NewK (.dT []) Q H) := ⟨x_dnewT⟩
end
structure Shop where
  (sl s dk li : Addr)
  L : List Addr
  (c n : Nat)
  (w la : Int → Int → Option V)
structure ShAt (C : Addr) (H : Hp) (p : Addr) (S : Shop) : Prop where
  ls : H S.sl = some (.lst [.ref S.s, .int (S.c : Int), .ref S.li])
  st : StAt C H S.s S.dk p (S.c : Int) S.L S.n S.w
  la : ∃ kvs : List (List Key × V), H S.li = some (.dT kvs) ∧ kvs.length ≤ S.n ∧ ∀ x k : Int, valV kvs [.inl x, .inl k] = S.la x k
theorem Fr.dctT {l : Addr} {H : Hp} {o : HO} {kvs : List (List Key × V)} (h : H l = some (.dT kvs)) : Fr [l] H (upd H l o) :=
  ⟨fun a u e m => by rw [upd_ne fun z => m (by rw [z]; exact List.mem_singleton.mpr rfl)]; exact e, fun t ys e => by rw [upd_ne (ne_of e h (by intro z; cases z))]; exact e,
    fun t u w e => by rw [upd_ne (ne_of e h (by intro z; cases z))]; exact e⟩
theorem dputT {a b : Addr} {H : Hp} {kvs : List (List Key × V)} {x k : Int} {v : V} {A : Hp → Prop} (h : H a = some (.dT kvs)) (eb : H b = some (.tup [.int x, .int k])) (hl : kvs.length ≤ 100000)
    (q : ∀ H' : Hp, H' a = some (.dT (putK kvs [.inl x, .inl k] v)) → Fr [a] H H' → A H') : DPutK (.ref a) (.ref b) v A H :=
  ⟨a, _, rfl, .inr ⟨kvs, [.inl x, .inl k], b, h, rfl, eb, small' hl, rfl⟩, q _ upd_same (Fr.dctT h)⟩
theorem putK_lenT (kvs : List (List Key × V)) (k : List Key) (v : V) : (putK kvs k v).length ≤ kvs.length + 1 := by
  unfold putK
  split
  · rw [List.length_map]; omega
  · rw [List.length_append]; exact Nat.le_refl _
def updL (la : Int → Int → Option V) (x k : Int) (v : V) : Int → Int → Option V := fun x' k' => if x' = x ∧ k' = k then some v else la x' k'
theorem ShAt.fr {C p : Addr} {H H' : Hp} {S : Shop} {M : List Addr} (x : ShAt C H p S) (f : Fr M H H') (h : ∀ a ∈ S.sl :: S.s :: S.dk :: S.li :: S.L, a ∉ M) : ShAt C H' p S :=
  ⟨f.at_ _ _ x.ls (h _ (by simp)), x.st.fr f (h _ (by simp)) (h _ (by simp)) (fun a m => h a (by simp [m])), let ⟨k, a, b⟩ := x.la; ⟨k, f.at_ _ _ a (h _ (by simp)), b⟩⟩
theorem ShAt.ex0 {C p : Addr} {H H' : Hp} {S : Shop} (x : ShAt C H p S) (f : Fr [] H H') : ShAt C H' p S := x.fr f fun _ _ => List.not_mem_nil
def Shop.still (S : Shop) (A : Ads) (an kl : Addr) : List Addr := an :: kl :: S.sl :: S.s :: S.li :: A.p :: A.tc :: A.all
def spTurns : Sp := fun vs H Q _ => ∃ (size : Int) (a : Addr) (hs : List Int) (f : Int → Int) (h : Int) (_ : Unit), vs = [.int size, .ref a, .int h] ∧ NxAt H a hs f ∧ h ∈ hs ∧ hs.length ≤ 60 ∧ 0 < size ∧ size < 2 ^ 40 ∧
  ∀ m H', Per f (it f hs.length h) m → m ≤ hs.length → Fr [] H H' → Q (.int (wl size f m (it f hs.length h) / size)) H'
section
variable {P : Program} {w : World} {K : PySem.W.Frag} {mg : Str → Option Value} {base : Heap} {CNet CMender CDesk CStore CWalk : Addr}
abbrev s__law_turns : Stmt := top 42
theorem sc__law_turns : FnScope ["size", "nexts", "house", "total", "one"] ["size", "nexts", "house"] (defScope s__law_turns) := ⟨rfl, rfl, rfl, by decide +kernel, rfl, by decide +kernel, by decide +kernel⟩
theorem ok__law_turns {f : Addr} {fd : FuncData} (F : Fun K "_law_turns" "_law_turns" s__law_turns f fd) (m_sum : mg "sum" = none) (G__law_ring : GF P w K mg base "_law_ring" 1 ["nexts", "house"] spRing) (G__law_far : GF P w K mg base "_law_far" 1 ["size", "start", "end"] spFar) : FnOk P w K mg base CX0 2 f fd ["size", "nexts", "house"] spTurns := by
  refine F.ok sc__law_turns (fun vs H Q E h => ?_) (fun cdv A outer s H vs Q E hr h => ?_)
  · obtain ⟨_, _, _, _, _, _, rfl, _⟩ := h; rfl
  · obtain ⟨size, a, hs, f, h, _, rfl, N, hh, hlen, h0, h1, k⟩ := h
    refine ⟨_, (pss_cons (ps_set (i := 3) sc__law_turns.nd rfl (Or.inl rfl) (pe_callB (cb_sumK (K := K) rfl rfl) (by rfl) m_sum b_sum (pa_cons (pe_lc (own := [("one", 4)]) (g := gName 4) rfl sc__law_turns.nd (pi_listK (K := K) rfl (c_fn G__law_ring (hr.mono (by decide)) (pa_cons (pv 1) (pa_cons (pv 2) pa_nil)))) (blkOk_by (N := ["size", "nexts", "house", "total", "one"]) (sc := defScope s__law_turns) (by decide +kernel)) (fun _ _ _ _ _ => (pg_name (i := 4) sc__law_turns.nd rfl (Or.inl rfl))) (fun _ _ _ _ _ => pts_nil) (fun _ _ _ _ _ => (c_fn G__law_far (hr.mono (by decide)) (pa_cons (pv 0) (pa_cons (pv 4) (pa_cons (pe_dget (hu_of hr) (pv 1) (pv 4) (by intro _ _; rfl)) pa_nil)))))) pa_nil)))
      (pss_one (ps_ret (pe_op op_fdivW (pv 3) (pv 0))))), ?_⟩
    (try simp only [cxK, cxKX, List.map])
    refine ent (σ' := [some _, some _, some _, none, none]) rfl ?_
    k_offL
    refine ⟨a, hs, f, h, (), rfl, N, hh, hlen, fun l m H1 n1 e1 per hm f1 => ?_⟩
    k_offL
    refine walkL (sqL_of e1) ?_
    refine lcV (walk_list (xs := (ringL f (it f hs.length h) m).map V.int)) _ rfl (fun i H0 x H' _ y => yAt y) (fun _ => true) (fun v => match v with | .int x => .int (far size x (f x)) | v => v) (fun H' f => f.sqL (sqL_of e1) List.not_mem_nil) (by rw [List.length_map, ringL_len]; omega) (fun x H' hx f2 => ?_) fun l2 H2 n2 e2 f2 => ?_
    · obtain ⟨y, hy, rfl⟩ := mem_intsM hx
      have hy' := ringL_mem N.cl (it_mem N.cl hh) y hy
      refine sk4 ⟨fun R kR => ?_, fun _ H3 f3 R kR => ?_⟩
      · k_offL
        exact kR _ (Fr.refl _ _)
      · k_offL
        refine ((N.ex0 f1).ex0 (f2.trans f3)).get hy' ?_
        k_offL
        refine i_far h0 ?_
        exact kR _ (Fr.refl _ _)
    rw [List.filter_eq_self.mpr fun _ _ => rfl, List.map_map] at e2
    have e2' : H2 l2 = some (.lst (((ringL f (it f hs.length h) m).map fun x => far size x (f x)).map V.int)) := by rw [e2, List.map_map]; rfl
    k_offL
    refine r_sum (sqL_of e2') ?_
    rw [ring_sum]
    k_offL
    exact k m H2 per hm (f1.trans f2)
end
def spWorth : Sp := fun vs H Q _ => ∃ (tp tc : Addr) (kk : Nat) (_ _ : Unit), vs = [.ref tp, .int (kk : Int)] ∧ TapeAt H tp tc ∧ kk ≤ 1000 ∧ ∀ v H', flatR v = true → v ≠ .non → TapeAt H' tp tc → Fr [tp] H H' → Q v H'
section
variable {P : Program} {w : World} {K : PySem.W.Frag} {mg : Str → Option Value} {base : Heap} {CNet CMender CDesk CStore CWalk : Addr}
abbrev s__law_worth : Stmt := top 51
theorem sc__law_worth : FnScope ["tape", "k", "kind"] ["tape", "k"] (defScope s__law_worth) := ⟨rfl, rfl, rfl, by decide +kernel, rfl, by decide +kernel, by decide +kernel⟩
theorem ok__law_worth {f : Addr} {fd : FuncData} (F : Fun K "_law_worth" "_law_worth" s__law_worth f fd) (G__law_pick : GF P w K mg base "_law_pick" 1 ["tape", "size"] spPick) (m_str : mg "str" = none) : FnOk P w K mg base CX0 2 f fd ["tape", "k"] spWorth := by
  refine F.ok sc__law_worth (fun vs H Q E h => ?_) (fun cdv A outer s H vs Q E hr h => ?_)
  · obtain ⟨_, _, _, _, _, rfl, _⟩ := h; rfl
  · obtain ⟨tp, tc, kk, _, _, rfl, t, hk, k⟩ := h
    refine ⟨_, (pss_cons (ps_set (i := 2) sc__law_worth.nd rfl (Or.inl rfl) (c_fn G__law_pick (hr.mono (by decide)) (pa_cons (pv 0) (pa_cons pe_int pa_nil))))
      (pss_cons (ps_if (pt_cmpR op_eq (pv 2) pe_int (nomark _)) (pss_one (ps_ret pe_int)) pss_nil)
      (pss_cons (ps_if (pt_cmpR op_eq (pv 2) pe_int (nomark _)) (pss_one (ps_ret pe_str)) pss_nil)
      (pss_cons (ps_if (pt_cmpR op_eq (pv 2) pe_int (nomark _)) (pss_one (ps_ret (pe_callTy cb_str (by rfl) m_str b_str (pa_cons (pv 1) pa_nil)))) pss_nil)
      (pss_cons (ps_if (pt_cmpR op_eq (pv 2) pe_int (nomark _)) (pss_one (ps_ret (pe_op op_sub (pe_un un_neg pe_int) (pv 1)))) pss_nil)
      (pss_one (ps_ret (pe_op op_add (pe_op op_pow pe_int pe_int) (pv 1))))))))), ?_⟩
    (try simp only [cxK, cxKX, List.map])
    refine ent (σ' := [some _, some _, none]) rfl ?_
    k_offL
    refine i_pick t (by decide) (by decide) fun kind H1 a1 b1 t1 f1 => ?_
    k_offL
    refine ifD (fun e => ?_) (fun e => ?_)
    · k_offL
      exact k _ H1 rfl (fun z => nomatch z) t1 f1
    · k_offL
      refine ifD (fun e => ?_) (fun e => ?_)
      · k_offL
        exact k _ H1 rfl (fun z => nomatch z) t1 f1
      · k_offL
        refine ifD (fun e => ?_) (fun e => ?_)
        · k_offL
          refine ⟨(kk : Int), rfl, ?_, ?_⟩
          · rw [Int.natAbs_natCast]
            exact Nat.lt_of_le_of_lt (Nat.log2_le_self _) (by omega)
          · exact k _ H1 rfl (fun z => nomatch z) t1 f1
        · k_offL
          refine ifD (fun e => ?_) (fun e => ?_)
          · k_offL
            exact k _ H1 rfl (fun z => nomatch z) t1 f1
          · k_offL
            exact k _ H1 rfl (fun z => nomatch z) t1 f1
end
def spLawPut (C CN : Addr) : Sp := fun vs H Q _ => ∃ (A : Ads) (N : NS) (an kl : Addr) (nm : Int → Int) (ks : List Int) (S : Shop) (kk : Nat) (_ _ _ _ _ : Unit), vs = [.ref A.tp, .ref A.dn, .ref an, .ref S.sl, .ref kl, .int (kk : Int)] ∧ WW CN H A N N ∧ N.Ok ∧ 0 < N.hs.length ∧ NxAt H an N.hs nm ∧ H kl = some (.lst (ks.map V.int)) ∧ 0 < ks.length ∧ ks.length ≤ 100 ∧ (∀ k ∈ ks, 0 ≤ k ∧ k < N.size) ∧
  ShAt C H A.p S ∧ S.n ≤ 4000 ∧ kk ≤ 1000 ∧ (∀ a ∈ S.dk :: S.L, a ∉ S.still A an kl) ∧ (∀ a ∈ an :: kl :: S.sl :: S.s :: S.li :: A.p :: A.tc :: A.all, (H a).isSome = true) ∧ [A.tp, kl, S.sl, an, S.li].Nodup ∧
  ∀ h key v first m L' H', h ∈ N.hs → key ∈ ks → flatR v = true → v ≠ .non → Fst N h key first m → (∀ a ∈ L', a ∈ S.L ∨ H a = none) → ShAt C H' A.p { S with L := L', n := S.n + 60, w := putAll S.w ((ringL N.f first m).take S.c) key v, la := updL S.la (nm h) key v } → TapeAt H' A.tp A.tc → Fr (A.tp :: S.li :: S.dk :: S.L) H H' → Q (.bl true) H'
section
variable {P : Program} {w : World} {K : PySem.W.Frag} {mg : Str → Option Value} {base : Heap} {CNet CMender CDesk CStore CWalk : Addr}
abbrev s__law_put : Stmt := top 52
theorem sc__law_put : FnScope ["tape", "nexts", "names", "shop", "keys", "k", "houses", "house", "key", "worth", "told", "lasts", "ring", "holder"] ["tape", "nexts", "names", "shop", "keys", "k"] (defScope s__law_put) := ⟨rfl, rfl, rfl, by decide +kernel, rfl, by decide +kernel, by decide +kernel⟩
theorem ok__law_put {f : Addr} {fd : FuncData} (F : Fun K "_law_put" "_law_put" s__law_put f fd) (m_sorted : mg "sorted" = none) (G__law_pick : GF P w K mg base "_law_pick" 1 ["tape", "size"] spPick) (m_len : mg "len" = none) (G__law_worth : GF P w K mg base "_law_worth" 2 ["tape", "k"] spWorth) (G_Store_put : GM P w K mg base CStore "put" 6 ["self", "house", "key", "worth"] (spStorePut CStore CNet)) (G__law_ring : GF P w K mg base "_law_ring" 1 ["nexts", "house"] spRing) (m_min : mg "min" = none) (m_isinstance : mg "isinstance" = none) (m_list : mg "list" = none) (T : StoreT K CStore) (TN : NetT K CNet) : FnOk P w K mg base CX0 7 f fd ["tape", "nexts", "names", "shop", "keys", "k"] (spLawPut CStore CNet) := by
  refine F.ok sc__law_put (fun vs H Q E h => ?_) (fun cdv A outer s H vs Q E hr h => ?_)
  · obtain ⟨_, _, _, _, _, _, _, _, _, _, _, _, _, rfl, _⟩ := h; rfl
  · obtain ⟨A, N, an, kl, nm, ks, S, kk, _, _, _, _, _, rfl, W, ok, hpos, Nn, hks, k0, k1, hkz, Sh, hn, hkk, off, som, nd, k⟩ := h
    refine ⟨_, (pss_cons (ps_set (i := 6) sc__law_put.nd rfl (Or.inl rfl) (pe_callB (cb_sortD rfl) (by rfl) m_sorted b_sorted (pa_cons (pv 1) pa_nil)))
      (pss_cons (ps_set (i := 7) sc__law_put.nd rfl (Or.inl rfl) (pe_ix (ix_listK (K := K) rfl) (pv 6) (c_fn G__law_pick (hr.mono (by decide)) (pa_cons (pv 0) (pa_cons (pe_callB (cb_lenSK (K := K) rfl) (by rfl) m_len b_len (pa_cons (pv 6) pa_nil)) pa_nil))) (by intro _ _; rfl)))
      (pss_cons (ps_set (i := 8) sc__law_put.nd rfl (Or.inl rfl) (pe_ix (ix_listK (K := K) rfl) (pv 4) (c_fn G__law_pick (hr.mono (by decide)) (pa_cons (pv 0) (pa_cons (pe_callB (cb_lenSK (K := K) rfl) (by rfl) m_len b_len (pa_cons (pv 4) pa_nil)) pa_nil))) (by intro _ _; rfl)))
      (pss_cons (ps_set (i := 9) sc__law_put.nd rfl (Or.inl rfl) (c_fn G__law_worth (hr.mono (by decide)) (pa_cons (pv 0) (pa_cons (pv 5) pa_nil))))
      (pss_cons (ps_set (i := 10) sc__law_put.nd rfl (Or.inl rfl) (c_mt G_Store_put (hr.mono (by decide)) (pe_ix (ix_listK (K := K) rfl) (pv 3) pe_int (by intro _ _; rfl)) (pa_cons (pv 7) (pa_cons (pv 8) (pa_cons (pv 9) pa_nil)))))
      (pss_cons (ps_set (i := 11) sc__law_put.nd rfl (Or.inl rfl) (pe_ix (ix_listK (K := K) rfl) (pv 3) pe_int (by intro _ _; rfl)))
      (pss_cons (ps_dput (hu_of hr) (pv 11) (pe_tup (pa_cons (pe_dget (hu_of hr) (pv 2) (pv 7) (by intro _ _; rfl)) (pa_cons (pv 8) pa_nil))) (pv 9) rfl)
      (pss_cons (ps_set (i := 12) sc__law_put.nd rfl (Or.inl rfl) (c_fn G__law_ring (hr.mono (by decide)) (pa_cons (pv 1) (pa_cons (pv 7) pa_nil))))
      (pss_cons (ps_if (PW.pt (pw_or (pt_not (pt_val (pe_callB (cb_isiK (K := K) rfl) (by rfl) m_isinstance b_isinstance (pa_cons (pv 10) (pa_cons (pe_ty m_list b_list) pa_nil))))) (pw_or1 (pt_cmpR op_ne (pe_callB (cb_lenSK (K := K) rfl) (by rfl) m_len b_len (pa_cons (pv 10) pa_nil)) (pe_callB (cb_min2 rfl) (by rfl) m_min b_min (pa_cons (pe_ix (ix_listK (K := K) rfl) (pv 3) pe_int (by intro _ _; rfl)) (pa_cons (pe_callB (cb_lenSK (K := K) rfl) (by rfl) m_len b_len (pa_cons (pv 12) pa_nil)) pa_nil))) (nomark _))))) (pss_one (ps_ret pe_bl)) pss_nil)
      (pss_cons (ps_for PassesOwn.never rfl (pi_listK (K := K) rfl (pv 10)) (pg_name (i := 13) sc__law_put.nd rfl (Or.inl rfl))
      (pss_one (ps_if (pt_cmpR (op_ninK (K := K) rfl) (pv 13) (pv 12) (by rfl)) (pss_one (ps_ret pe_bl)) pss_nil)))
      (pss_one (ps_ret pe_bl)))))))))))), ?_⟩
    (try simp only [cxK, cxKX, List.map])
    refine ent (σ' := [some _, some _, some _, some _, some _, some _, none, none, none, none, none, none, none, none]) rfl ?_
    simp only [List.nodup_cons, List.mem_cons, List.not_mem_nil, or_false, not_or] at nd
    obtain ⟨⟨tp_kl, tp_sl, tp_an, tp_li⟩, ⟨kl_sl, kl_an, kl_li⟩, ⟨sl_an, sl_li⟩, an_li, _⟩ := nd
    have hlen := ok.hl
    obtain ⟨kn, hnx, dN⟩ := W.tab.nx
    k_offL
    refine r_sortD (.inl hnx) dN ok.ascF (by omega) fun l1 H1 n1 e1 f1 => ?_
    have W1 := W.ex0 f1
    have l1_tp : l1 ≠ A.tp := by obtain ⟨_, _, _, _, _, tt, _⟩ := W.tape.ex; exact (ne_of_none tt n1).symm
    k_offL
    refine r_lenL (sqL_of e1) ?_
    rw [List.length_map]
    k_offL
    refine i_pick W1.tape (by omega) (by omega) fun m2 H2 a2 b2 t2 f2 => ?_
    have g2 : m2.toNat < N.hs.length := by omega
    refine r_ixL (sqL_of (f2.at_ _ _ e1 (mem_one l1_tp))) (ix_at m2.toNat (by omega) (ints_get g2)) ?_
    have hh := List.getElem_mem g2
    revert hh
    generalize N.hs[m2.toNat] = h0
    intro hh
    have W2 := W1.tape' f2 t2
    have hks2 := f2.at_ _ _ (f1.at_ _ _ hks List.not_mem_nil) (mem_one (Ne.symm tp_kl))
    k_offL
    refine r_lenL (sqL_of hks2) ?_
    rw [List.length_map]
    k_offL
    refine i_pick W2.tape (by omega) (by omega) fun m3 H3 a3 b3 t3 f3 => ?_
    have g3 : m3.toNat < ks.length := by omega
    have hks3 := f3.at_ _ _ hks2 (mem_one (Ne.symm tp_kl))
    refine r_ixL (sqL_of hks3) (ix_at m3.toNat (by omega) (ints_get g3)) ?_
    have hkey := List.getElem_mem g3
    revert hkey
    generalize ks[m3.toNat] = key
    intro hkey
    have W3 := W2.tape' f3 t3
    k_offL
    refine ⟨A.tp, A.tc, kk, (), (), rfl, W3.tape, hkk, fun v H4 fl vn t4 f4 => ?_⟩
    have W4 := W3.tape' f4 t4
    have f04 : Fr [A.tp] H H4 := ((f1.up.trans f2).trans f3).trans f4
    have tpS : ∀ a ∈ S.sl :: S.s :: S.dk :: S.li :: S.L, a ∉ [A.tp] := fun a m z => by
      have z := List.mem_singleton.mp z
      subst z
      simp only [List.mem_cons] at m
      rcases m with m | m | m | m | m
      · exact tp_sl m
      · obtain ⟨_, _, _, _, _, tt, _⟩ := W.tape.ex
        obtain ⟨dx, hs⟩ := Sh.st.ob
        exact ne_of tt hs (fun z => nomatch z) m
      · exact off _ (List.mem_cons_self) (by rw [← m]; simp [Shop.still, Ads.all])
      · exact tp_li m
      · exact off _ (List.mem_cons_of_mem _ m) (by simp [Shop.still, Ads.all])
    have Sh4 := Sh.fr f04 tpS
    obtain ⟨sx, hs4⟩ := Sh4.st.ob
    k_offL
    refine r_ixL (sqL_of Sh4.ls) (v := .ref S.s) rfl ?_
    k_offL
    refine st_mt hs4 (by decide +kernel) ?_
    k_offL
    have s_off : S.s ∉ S.dk :: S.L := fun m => off _ m (by simp [Shop.still])
    obtain ⟨kz0, kz1⟩ := hkz key hkey
    refine ⟨S.s, S.dk, A.p, A.da, A.db, A.dl, S.c, S.L, S.n, S.w, N, h0, key, v, (), (), (), rfl, Sh4.st, by omega, W4.net, ok, hh, kz0, kz1, s_off, fun l first m L' H5 n5 e5 F hL' St5 f5 => ?_⟩
    have st5 : ∀ {a : Addr}, a ∈ an :: kl :: S.sl :: S.s :: S.li :: A.p :: A.tc :: A.all → a ∉ S.dk :: S.L := fun {a} m z => off a z m
    have hsl5 := f5.at_ _ _ Sh4.ls (st5 (by simp))
    obtain ⟨kvs, hli, hkl, hla⟩ := Sh4.la
    have hli5 := f5.at_ _ _ hli (st5 (by simp))
    have N5 := (Nn.fr f04 (mem_one (Ne.symm tp_an))).fr f5 (st5 (by simp))
    obtain ⟨kn4, hn4, dN4⟩ := W4.tab.nx
    have hn5 := f5.at_ _ _ hn4 (st5 (by simp [Ads.all]))
    have t5 := W4.tape.fr f5 (st5 (by simp [Ads.all])) (st5 (by simp))
    k_offL
    refine r_ixL (sqL_of hsl5) (v := .ref S.li) rfl ?_
    k_offL
    refine N5.get hh ?_
    k_offL
    refine tupk (by show 2 ≤ 100000; decide) fun tq H6 n6 e6 f6 => ?_
    refine dputT (f6.at_ _ _ hli5 List.not_mem_nil) e6 (by omega) fun H7 e7 f7 => ?_
    have l_li : l ≠ S.li := (ne_of_none hli n5).symm
    have e57 := f7.at_ _ _ (f6.at_ _ _ e5 List.not_mem_nil) (mem_one l_li)
    have dn_li : A.dn ≠ S.li := ne_of hn4 hli (fun z => nomatch z)
    have nx7 : NxAt H7 A.dn N.hs N.f := NS.nxAt ok (f7.at_ _ _ (f6.at_ _ _ hn5 List.not_mem_nil) (mem_one dn_li)) dN4
    k_offL
    refine ⟨A.dn, N.hs, N.f, h0, (), rfl, nx7, hh, by omega, fun rl m' H8 n8 e8 per' hm' f8 => ?_⟩
    have e58 := f8.at_ _ _ e57 List.not_mem_nil
    obtain ⟨n', hto⟩ := F.to
    have hmeet := per'.meet (h := h0) rfl hto
    have e9 : m = m' := (F.per.at_ hmeet).uniq per'
    have e10 : ∀ x, x ∈ ringL N.f first m → x ∈ ringL N.f (it N.f N.hs.length h0) m' := fun x hx => by
      obtain ⟨i, e⟩ := (ringL_iff F.per).mp hx
      exact (ringL_iff per').mpr ⟨_, by rw [it_add, F.per.back hmeet, e]⟩
    k_offL
    refine r_isi (.base (.lst e58)) (b := true) (by decide +kernel) ?_
    have hsl8 := f8.at_ _ _ (f7.at_ _ _ (f6.at_ _ _ hsl5 List.not_mem_nil) (mem_one sl_li)) List.not_mem_nil
    have hlt : ((ringL N.f first m).take S.c).length = min S.c m := by rw [List.length_take, ringL_len]
    k_offL
    refine r_lenL (sqL_of e58) ?_
    rw [List.length_map, hlt]
    k_offL
    refine r_ixL (sqL_of hsl8) (v := .int (S.c : Int)) rfl ?_
    k_offL
    refine r_lenL (sqL_of e8) ?_
    rw [List.length_map, ringL_len]
    k_offL
    refine ifNF (by rw [e9]; split <;> omega) ?_
    k_offL
    refine loopLF (M := []) (((ringL N.f first m).take S.c).map V.int) (sqL_of e58) List.not_mem_nil (fun i σ' H' => (∃ v13 : Option V, σ' = [some (.ref A.tp), some (.ref A.dn), some (.ref an), some (.ref S.sl), some (.ref kl), some (.int (kk : Int)), some (.ref l1), some (.int h0), some (.int key), some v, some (.ref l), some (.ref S.li), some (.ref rl), v13]) ∧ Fr [] H8 H')
      ⟨⟨_, rfl⟩, Fr.refl _ _⟩ (fun i σ' H' p => p.2) ?_ ?_
    · rintro i x σ' H9 hi ⟨⟨v13, rfl⟩, f9⟩
      obtain ⟨q, hq, hm9, rfl⟩ := mem_ints hi
      k_offL
      refine r_ninI (sqL_of (f9.at_ _ _ e8 List.not_mem_nil)) ?_
      rw [decide_eq_true (e10 q (List.mem_of_mem_take hm9))]
      k_offL
      exact ⟨⟨_, rfl⟩, f9⟩
    · rintro σ' H9 ⟨⟨v13, rfl⟩, f9⟩
      k_offL
      have f58 : Fr [S.li] H5 H9 := (f6.up.trans f7).trans (f8.trans f9).up
      have hl_dk : S.li ∉ S.dk :: S.L := st5 (by simp)
      have li_L' : S.li ∉ L' := fun m => by
        rcases hL' _ m with z | z
        · exact hl_dk (List.mem_cons_of_mem _ z)
        · rw [hli] at z; cases z
      refine k h0 key v first m L' H9 hh hkey fl vn F (fun a m => (hL' a m).imp_right fun z => ?_) ⟨(f8.trans f9).at_ _ _ (f7.at_ _ _ (f6.at_ _ _ hsl5 List.not_mem_nil) (mem_one sl_li)) List.not_mem_nil, ?_, ⟨_, (f8.trans f9).at_ _ _ e7 List.not_mem_nil, by have := putK_lenT kvs [.inl (nm h0), .inl key] v; show _ ≤ S.n + 60; omega, fun x k' => ?_⟩⟩ ((((t5.ex0 f6).fr f7 (mem_one tp_li) (mem_one ?_)).ex0 f8).ex0 f9) ((f04.mono fun a h => by simp at h; simp [h]).trans ((f5.mono fun a h => by simp at h; rcases h with h | h <;> simp [h]).trans (f58.mono fun a h => by simp at h; simp [h])))
      · cases e : H a with
        | none => rfl
        | some o =>
          by_cases ea : a = A.tp
          · obtain ⟨_, _, _, _, _, tt, _⟩ := W4.tape.ex
            rw [ea, show H4 A.tp = _ from tt] at z; cases z
          · rw [f04.at_ _ _ e (mem_one ea)] at z; cases z
      · refine St5.fr f58 (mem_one ?_) (mem_one ?_) fun a m => mem_one fun e => li_L' (e ▸ m)
        · obtain ⟨dx, hs⟩ := St5.ob
          exact ne_of hs hli5 (fun z => nomatch z)
        · exact fun e => hl_dk (e ▸ List.mem_cons_self)
      · rw [valV_put, hla]
        show _ = if x = nm h0 ∧ k' = key then some v else S.la x k'
        by_cases e : x = nm h0 ∧ k' = key
        · rw [if_pos e, if_pos (by rw [e.1, e.2])]
        · rw [if_neg e, if_neg fun z => e ?_]
          simp at z
          first | exact z | exact ⟨z.1.symm, z.2.symm⟩
      · obtain ⟨_, _, _, _, _, _, tcs, _⟩ := W4.tape.ex
        exact ne_of tcs hli (fun z => nomatch z)
end
def Finds (N : NS) (nm : Int → Int) (S : Shop) (h key : Int) : Prop := ∀ first m, Fst N h key first m →
  (S.la (nm h) key = none ∧ ∀ p ∈ ringL N.f first m, S.w p key = none) ∨ ∃ v, S.la (nm h) key = some v ∧ flatR v = true ∧ v ≠ .non ∧ ∃ i, i < m ∧ S.w (it N.f i first) key = some v ∧ ∀ i', i' < i → S.w (it N.f i' first) key = none
def spLawFound (C CN : Addr) : Sp := fun vs H Q _ => ∃ (p da db dl an al : Addr) (N : NS) (nm : Int → Int) (ss : List Int) (S : Shop) (h key : Int), vs = [.ref an, .ref al, .ref S.sl, .int h, .int key] ∧ NetAt CN H p da db dl N ∧ N.Ok ∧ NxAt H an N.hs nm ∧ H al = some (.lst (ss.map V.int)) ∧ ShAt C H p S ∧ h ∈ N.hs ∧ 0 ≤ key ∧ key < N.size ∧ (nm h ∈ ss → Finds N nm S h key) ∧
  ∀ H', Fr [] H H' → Q (.bl true) H'
section
variable {P : Program} {w : World} {K : PySem.W.Frag} {mg : Str → Option Value} {base : Heap} {CNet CMender CDesk CStore CWalk : Addr}
abbrev s__law_found : Stmt := top 53
theorem sc__law_found : FnScope ["names", "single", "shop", "house", "key"] ["names", "single", "shop", "house", "key"] (defScope s__law_found) := ⟨rfl, rfl, rfl, by decide +kernel, rfl, by decide +kernel, by decide +kernel⟩
theorem ok__law_found {f : Addr} {fd : FuncData} (F : Fun K "_law_found" "_law_found" s__law_found f fd) (G__law_same : GF P w K mg base "_law_same" 5 ["actual", "due"] (spSame 4)) (G_Store_find_worth : GM P w K mg base CStore "find_worth" 5 ["self", "house", "key"] (spFindWorth CStore CNet)) (T : StoreT K CStore) (TN : NetT K CNet) : FnOk P w K mg base CX0 6 f fd ["names", "single", "shop", "house", "key"] (spLawFound CStore CNet) := by
  refine F.ok sc__law_found (fun vs H Q E h => ?_) (fun cdv A outer s H vs Q E hr h => ?_)
  · obtain ⟨_, _, _, _, _, _, _, _, _, _, _, _, rfl, _⟩ := h; rfl
  · obtain ⟨p, da, db, dl, an, al, N, nm, ss, S, h, key, rfl, hN, ok, Nn, hal, Sh, hh, k0, k1, hf, k⟩ := h
    refine ⟨_, (pss_cons (ps_if (pt_cmpR (op_ninK (K := K) rfl) (pe_dget (hu_of hr) (pv 0) (pv 3) (by intro _ _; rfl)) (pv 1) (by rfl)) (pss_one (ps_ret pe_bl)) pss_nil)
      (pss_one (ps_ret (c_fn G__law_same (hr.mono (by decide)) (pa_cons (c_mt G_Store_find_worth (hr.mono (by decide)) (pe_ix (ix_listK (K := K) rfl) (pv 2) pe_int (by intro _ _; rfl)) (pa_cons (pv 3) (pa_cons (pv 4) pa_nil))) (pa_cons (pe_dget1 (hu_of hr) (pe_ix (ix_listK (K := K) rfl) (pv 2) pe_int (by intro _ _; rfl)) (pe_tup (pa_cons (pe_dget (hu_of hr) (pv 0) (pv 3) (by intro _ _; rfl)) (pa_cons (pv 4) pa_nil))) ⟨by rfl, by rfl, by rfl, by rfl⟩) pa_nil)))))), ?_⟩
    (try simp only [cxK, cxKX, List.map])
    refine ent (σ' := [some _, some _, some _, some _, some _]) rfl ?_
    obtain ⟨sx, hs⟩ := Sh.st.ob
    k_offL
    refine Nn.get hh ?_
    k_offL
    refine r_ninI (sqL_of hal) ?_
    k_offL
    refine ifN (fun e => ?_) (fun e => ?_)
    · k_offL
      exact k H (Fr.refl _ _)
    · k_offL
      refine r_ixL (sqL_of Sh.ls) (v := .ref S.s) rfl ?_
      k_offL
      refine st_mt hs (by decide +kernel) ?_
      k_offL
      refine ⟨S.s, S.dk, p, da, db, dl, S.c, S.L, S.n, S.w, N, h, key, (), (), rfl, Sh.st, hN, ok, hh, k0, k1, fun first m v H1 F hv f1 => ?_⟩
      obtain ⟨kvs, hli, hkl, hla⟩ := (Sh.ex0 f1).la
      k_offL
      refine r_ixL (sqL_of (Sh.ex0 f1).ls) (v := .ref S.li) rfl ?_
      k_offL
      refine ⟨S.li, rfl, .inr ⟨kvs, .inl hli⟩, ?_⟩
      k_offL
      refine (Nn.ex0 f1).get hh ?_
      k_offL
      refine tupk (by show 2 ≤ 100000; decide) fun tq H2 n2 e2 f2 => ?_
      have hli2 := f2.at_ _ _ hli List.not_mem_nil
      refine ⟨_, DGet.t (k := [.inl (nm h), .inl key]) hli2 e2, ?_⟩
      rw [hla]
      k_offL
      have two : (S.la (nm h) key).getD .non = v ∧ flatR v = true := by
        rcases hf e first m F with ⟨a, b⟩ | ⟨u, a, fl, _, i, hi, c, d⟩
        · rcases hv with ⟨rfl, _⟩ | ⟨i, hi, c, _⟩
          · rw [a]; exact ⟨rfl, rfl⟩
          · rw [b _ ((ringL_iff F.per).mpr ⟨i, rfl⟩)] at c; cases c
        · rcases hv with ⟨rfl, b⟩ | ⟨i2, hi2, c2, d2⟩
          · rw [b _ ((ringL_iff F.per).mpr ⟨i, rfl⟩)] at c; cases c
          · have : i = i2 := by
              rcases Nat.lt_trichotomy i i2 with z | z | z
              · rw [d2 i z] at c; cases c
              · exact z
              · rw [d i2 z] at c2; cases c2
            subst this
            rw [c] at c2
            cases c2
            rw [a]
            exact ⟨rfl, fl⟩
      rw [two.1]
      exact i_same (ofV v) (ofV_rep two.2) (ofV_rep two.2) ((Fits.ofV v).up (by decide)) fun H3 f3 => k H3 ((f1.trans f2).trans f3)
end
def spFoundAll (C CN : Addr) : Sp := fun vs H Q _ => ∃ (p da db dl an al kl : Addr) (N : NS) (nm : Int → Int) (ss ks : List Int) (S : Shop) (_ : Unit), vs = [.ref an, .ref al, .ref S.sl, .ref kl] ∧ NetAt CN H p da db dl N ∧ N.Ok ∧ NxAt H an N.hs nm ∧ H al = some (.lst (ss.map V.int)) ∧ H kl = some (.lst (ks.map V.int)) ∧ ShAt C H p S ∧ (∀ k ∈ ks, 0 ≤ k ∧ k < N.size) ∧ (∀ h ∈ N.hs, ∀ k ∈ ks, nm h ∈ ss → Finds N nm S h k) ∧
  ∀ H', Fr [] H H' → Q (.bl true) H'
theorem mfOf_asc {hs : List Int} {f : Int → Int} (up : hs.Pairwise (· < ·)) : Asc hs (mfOf hs f) := ⟨up, fun n => mfOf_some⟩
section
variable {P : Program} {w : World} {K : PySem.W.Frag} {mg : Str → Option Value} {base : Heap} {CNet CMender CDesk CStore CWalk : Addr}
abbrev s__law_found_all : Stmt := top 54
theorem sc__law_found_all : FnScope ["names", "single", "shop", "keys", "house", "key"] ["names", "single", "shop", "keys"] (defScope s__law_found_all) := ⟨rfl, rfl, rfl, by decide +kernel, rfl, by decide +kernel, by decide +kernel⟩
theorem ok__law_found_all {f : Addr} {fd : FuncData} (F : Fun K "_law_found_all" "_law_found_all" s__law_found_all f fd) (m_sorted : mg "sorted" = none) (G__law_found : GF P w K mg base "_law_found" 6 ["names", "single", "shop", "house", "key"] (spLawFound CStore CNet)) (T : StoreT K CStore) (TN : NetT K CNet) : FnOk P w K mg base CX0 7 f fd ["names", "single", "shop", "keys"] (spFoundAll CStore CNet) := by
  refine F.ok sc__law_found_all (fun vs H Q E h => ?_) (fun cdv A outer s H vs Q E hr h => ?_)
  · obtain ⟨_, _, _, _, _, _, _, _, _, _, _, _, _, rfl, _⟩ := h; rfl
  · obtain ⟨p, da, db, dl, an, al, kl, N, nm, ss, ks, S, _, rfl, hN, ok, Nn, hal, hkl, Sh, hkz, hf, k⟩ := h
    refine ⟨_, (pss_cons (ps_for PassesOwn.never rfl (pi_listK (K := K) rfl (pe_callB (cb_sortD rfl) (by rfl) m_sorted b_sorted (pa_cons (pv 0) pa_nil))) (pg_name (i := 4) sc__law_found_all.nd rfl (Or.inl rfl))
      (pss_one (ps_for PassesOwn.never rfl (pi_listK (K := K) rfl (pv 3)) (pg_name (i := 5) sc__law_found_all.nd rfl (Or.inl rfl))
      (pss_one (ps_if (pt_not (pt_val (c_fn G__law_found (hr.mono (by decide)) (pa_cons (pv 0) (pa_cons (pv 1) (pa_cons (pv 2) (pa_cons (pv 4) (pa_cons (pv 5) pa_nil)))))))) (pss_one (ps_ret pe_bl)) pss_nil)))))
      (pss_one (ps_ret pe_bl))), ?_⟩
    (try simp only [cxK, cxKX, List.map])
    refine ent (σ' := [some _, some _, some _, some _, none, none]) rfl ?_
    obtain ⟨kvs, rd, dk, _⟩ := Nn.ex
    have hlen := ok.hl
    k_offL
    refine r_sortD rd dk (mfOf_asc ok.up) (by omega) fun l1 H1 n1 e1 f1 => ?_
    refine loopLF (M := []) (N.hs.map V.int) (sqL_of e1) List.not_mem_nil (fun i σ' H' => (∃ v1 v2, σ' = [some (.ref an), some (.ref al), some (.ref S.sl), some (.ref kl), v1, v2]) ∧ Fr [] H1 H') ⟨⟨_, _, rfl⟩, Fr.refl _ _⟩ (fun i σ' H' p => p.2) ?_ ?_
    · rintro i x σ' H2 hi ⟨⟨v1, v2, rfl⟩, f2⟩
      obtain ⟨h, _, hh, rfl⟩ := mem_ints hi
      have f02 := f1.trans f2
      k_offL
      refine loopLF (M := []) (ks.map V.int) (sqL_of (f02.at_ _ _ hkl List.not_mem_nil)) List.not_mem_nil (fun i σ' H' => (∃ v2, σ' = [some (.ref an), some (.ref al), some (.ref S.sl), some (.ref kl), some (.int h), v2]) ∧ Fr [] H2 H') ⟨⟨_, rfl⟩, Fr.refl _ _⟩ (fun i σ' H' p => p.2) ?_ ?_
      · rintro j y σ' H3 hj ⟨⟨v2, rfl⟩, f3⟩
        obtain ⟨key, _, hk, rfl⟩ := mem_ints hj
        obtain ⟨z0, z1⟩ := hkz key hk
        have f03 := f02.trans f3
        k_offL
        refine ⟨p, da, db, dl, an, al, N, nm, ss, S, h, key, rfl, hN.ex f03, ok, Nn.ex0 f03, f03.at_ _ _ hal List.not_mem_nil, Sh.ex0 f03, hh, z0, z1, hf h hh key hk, fun H4 f4 => ?_⟩
        k_offL
        exact ⟨⟨_, rfl⟩, f3.trans f4⟩
      · rintro σ' H3 ⟨⟨v2, rfl⟩, f3⟩
        k_offL
        exact ⟨⟨_, _, rfl⟩, f2.trans f3⟩
    · rintro σ' H2 ⟨⟨v1, v2, rfl⟩, f2⟩
      k_offL
      exact k H2 (f1.trans f2)
end
section
variable {P : Program} {w : World} {K : PySem.W.Frag} {mg : Str → Option Value} {base : Heap} {CNet CMender CDesk CStore CWalk : Addr}
abbrev s__law_step : Stmt := top 55
theorem sc__law_step : FnScope ["tape", "net", "size", "nexts", "behinds", "post", "kind", "k"] ["tape", "net", "size", "nexts", "behinds", "post"] (defScope s__law_step) := ⟨rfl, rfl, rfl, by decide +kernel, rfl, by decide +kernel, by decide +kernel⟩
theorem ok__law_step {f : Addr} {fd : FuncData} (F : Fun K "_law_step" "_law_step" s__law_step f fd) (G__law_pick : GF P w K mg base "_law_pick" 1 ["tape", "size"] spPick) (m_range : mg "range" = none) (G__law_same : GF P w K mg base "_law_same" 5 ["actual", "due"] (spSame 4)) (G__law_calm : GF P w K mg base "_law_calm" 4 ["size", "nexts", "behinds"] spLawCalm) (G_calm_round : GF P w K mg base "calm_round" 4 ["net"] (spCalm CNet)) (G__law_exchange : GF P w K mg base "_law_exchange" 6 ["tape", "net", "size", "nexts", "behinds", "post"] (spDeed CNet)) (G__law_deed : GF P w K mg base "_law_deed" 6 ["tape", "net", "size", "nexts", "behinds", "post"] (spDeed CNet)) (T : NetT K CNet) : FnOk P w K mg base CX0 7 f fd ["tape", "net", "size", "nexts", "behinds", "post"] (spDeed CNet) := by
  refine F.ok sc__law_step (fun vs H Q E h => ?_) (fun cdv A outer s H vs Q E hr h => ?_)
  · obtain ⟨_, _, _, _, rfl, _⟩ := h; rfl
  · obtain ⟨A, N, _, _, rfl, W, ok, hpos, hpl, k⟩ := h
    unfold lawArgs
    refine ⟨_, (pss_cons (ps_set (i := 6) sc__law_step.nd rfl (Or.inl rfl) (c_fn G__law_pick (hr.mono (by decide)) (pa_cons (pv 0) (pa_cons pe_int pa_nil))))
      (pss_cons (ps_if (pt_cmpR op_lt (pv 6) pe_int (nomark _)) (pss_cons (ps_for PassesOwn.never rfl (pi_range1 (by rfl) m_range (pa_cons (pe_op op_add pe_int (c_fn G__law_pick (hr.mono (by decide)) (pa_cons (pv 0) (pa_cons pe_int pa_nil)))) pa_nil)) (pg_name (i := 7) sc__law_step.nd rfl (Or.inl rfl))
      (pss_one (ps_if (pt_not (pt_val (c_fn G__law_same (hr.mono (by decide)) (pa_cons (c_fn G_calm_round (hr.mono (by decide)) (pa_cons (pv 1) pa_nil)) (pa_cons (c_fn G__law_calm (hr.mono (by decide)) (pa_cons (pv 2) (pa_cons (pv 3) (pa_cons (pv 4) pa_nil)))) pa_nil))))) (pss_one (ps_ret pe_bl)) pss_nil)))
      (pss_one (ps_ret pe_bl))) pss_nil)
      (pss_cons (ps_if (pt_cmpR op_lt (pv 6) pe_int (nomark _)) (pss_one (ps_ret (c_fn G__law_exchange (hr.mono (by decide)) (pa_cons (pv 0) (pa_cons (pv 1) (pa_cons (pv 2) (pa_cons (pv 3) (pa_cons (pv 4) (pa_cons (pv 5) pa_nil))))))))) pss_nil)
      (pss_one (ps_ret (c_fn G__law_deed (hr.mono (by decide)) (pa_cons (pv 0) (pa_cons (pv 1) (pa_cons (pv 2) (pa_cons (pv 3) (pa_cons (pv 4) (pa_cons (pv 5) pa_nil)))))))))))), ?_⟩
    (try simp only [cxK, cxKX, List.map])
    refine ent (σ' := [some _, some _, some _, some _, some _, some _, none, none]) rfl ?_
    obtain ⟨dn_dp, dk_dp, dn_tp, dk_tp, dp_tp⟩ := W.ne
    k_offL
    refine i_pick W.tape (by decide) (by decide) fun kind H1 a1 b1 t1 f1 => ?_
    have W1 := W.tape' f1 t1
    have fr1 : Fr A.all H H1 := f1.tape
    k_offL
    refine ifD (fun e => ?_) (fun e => ?_)
    · k_offL
      refine i_pick W1.tape (by decide) (by decide) fun n H2 a2 b2 t2 f2 => ?_
      have W2 := W1.tape' f2 t2
      k_offL
      refine loopR1 _ (by omega) (by omega) (fun i σ' H' => ∃ (v7 : Option V) (M : NS), σ' = [some (.ref A.tp), some (.ref A.p), some (.int N.size), some (.ref A.dn), some (.ref A.dk), some (.ref A.dp), some (.int kind), v7] ∧ Steps N M ∧ M.post.length ≤ 60 ∧ WW CNet H' A M M ∧ Fr A.all H H') ⟨_, N, rfl, .refl N, hpl, W2, fr1.trans f2.tape⟩ ?_ ?_
      · rintro i σ' H3 hi ⟨v7, M, rfl, st, pl, W3, f3⟩
        obtain ⟨dx3, hp3⟩ := W3.net.ob
        have okM := st.ok ok
        obtain ⟨_, _, c3, c4⟩ := calm_ok okM (by omega)
        have hz := st.same.2
        rw [← hz]
        k_offL
        refine ⟨A.p, A.da, A.db, A.dl, M, rfl, W3.net, okM, by omega, fun H4 hN4 f4 => ?_⟩
        have f4' : Fr [A.da, A.db, A.dl] H3 H4 := f4.mono fun a h => by simp at h; rcases h with h | h <;> simp [h]
        have W4 := W3.net' f4' hN4
        k_offL
        refine ⟨A.dn, A.dk, A.dp, M, (), (), (), (), rfl, W4.tab, okM, by omega, dn_dp, dk_dp, fun H5 T5 f5 => ?_⟩
        have f5' : Fr [A.dn, A.dk, A.dp] H4 H5 := f5.mono fun a h => by simp at h; rcases h with h | h <;> simp [h]
        have W5 := W4.tab' f5' T5
        k_offL
        refine i_same (.int M.calm.2) rfl rfl .int fun H6 f6 => ?_
        k_offL
        exact ⟨_, M.calm.1, rfl, st.trans c3, by rw [c4]; exact pl, W5.ex0 f6, ((f3.trans f4'.net).trans f5'.tab).trans f6.up⟩
      · rintro σ' H3 ⟨v7, M, rfl, st, pl, W3, f3⟩
        k_offL
        exact k M H3 st pl W3 f3
    · k_offL
      refine ifD (fun e2 => ?_) (fun e2 => ?_)
      · k_offL
        exact ⟨A, N, (), (), rfl, W1, ok, hpos, hpl, fun N' H2 s l w f => k N' H2 s l w (fr1.trans f)⟩
      · k_offL
        exact ⟨A, N, (), (), rfl, W1, ok, hpos, hpl, fun N' H2 s l w f => k N' H2 s l w (fr1.trans f)⟩
end
end RL
set_option synthInstance.maxHeartbeats 4000000
set_option synthInstance.maxSize 4000
namespace RL
def intP (c : Int → Bool) : V → Bool
  | .int i => c i
  | _ => false
theorem filter_intP (c : Int → Bool) : ∀ (ys : List Int), (ys.map V.int).filter (intP c) = (ys.filter c).map V.int
  | [] => rfl
  | y :: r => by
    rw [List.map_cons, List.filter_cons, List.filter_cons]
    show (if c y = true then _ else _) = _
    rw [filter_intP c r]
    split <;> rfl
theorem emod_of {z X Y : Int} (h : z ∣ X - Y) (h0 : 0 ≤ X) (h1 : X < z) : Y % z = X := by
  obtain ⟨c, hc⟩ := h
  have e : Y = X + z * (-c) := by rw [Int.mul_neg]; omega
  rw [e, Int.add_mul_emod_self_left, Int.emod_eq_of_lt h0 h1]
theorem it_rep {f : Int → Int} {p : Int} {n : Nat} (e : it f n p = p) : ∀ k, it f (n * k) p = p
  | 0 => rfl
  | k + 1 => by rw [Nat.mul_succ, it_add, it_rep e k, e]
theorem wl_shift {size : Int} {f : Int → Int} {p : Int} {n i : Nat} (e : it f n p = p) : it f n (it f i p) = it f i p ∧ wl size f n (it f i p) = wl size f n p := by
  refine ⟨by rw [← it_add, Nat.add_comm, it_add, e], ?_⟩
  have h1 := wl_add (size := size) (f := f) (m := i) (n := n) (h := p)
  have h2 := wl_add (size := size) (f := f) (m := n) (n := i) (h := p)
  rw [e] at h2
  rw [Nat.add_comm] at h1
  omega
def OnR (f : Int → Int) (p : Int) : Prop := ∃ n, 1 ≤ n ∧ it f n p = p
theorem OnR.back {f : Int → Int} {p x : Int} {a : Nat} (o : OnR f p) (e : it f a p = x) : ∃ q, it f q x = p := by
  obtain ⟨n, n1, en⟩ := o
  refine ⟨n * a - a, ?_⟩
  have : a ≤ n * a := Nat.le_mul_of_pos_left _ n1
  rw [← e, ← it_add, show a + (n * a - a) = n * a by omega, it_rep en]
theorem Per.on {f : Int → Int} {p : Int} {m : Nat} (per : Per f p m) : OnR f p := ⟨m, per.p1, per.rt⟩
structure NI (N : NS) (nm : Int → Int) (ss : List Int) : Prop where
  nh : ∀ h ∈ N.hs, nm h ∈ N.hs
  nf : ∀ h ∈ N.hs, nm (N.f h) = nm h
  mt : ∀ p ∈ N.hs, ∀ q ∈ N.hs, nm p = nm q → ∃ a b, it N.f a p = it N.f b q
  one : ∀ p ∈ N.hs, OnR N.f p → nm p ∈ ss → Tr N.size N.f p p N.size
  sh : ∀ r ∈ ss, r ∈ N.hs
structure SI (N : NS) (nm : Int → Int) (ss : List Int) (S : Shop) : Prop where
  on : ∀ p k, S.w p k ≠ none → p ∈ N.hs ∧ OnR N.f p
  lh : ∀ r k, S.la r k ≠ none → r ∈ N.hs
  gd : ∀ r ∈ ss, ∀ key, 0 ≤ key → key < N.size → (S.la r key = none ∧ ∀ p ∈ N.hs, nm p = r → S.w p key = none) ∨ ∃ v q, S.la r key = some v ∧ flatR v = true ∧ v ≠ .non ∧ q ∈ N.hs ∧ nm q = r ∧ S.w q key = some v ∧
    ∀ p ∈ N.hs, nm p = r → S.w p key ≠ none → (q - key) % N.size ≤ (p - key) % N.size
  c1 : 1 ≤ S.c
section
variable {N N' : NS} {nm : Int → Int} {ss hs' : List Int} {S : Shop} {h key first p q x y : Int} {m i n : Nat}
theorem nm_it (ok : N.Ok) (nf : ∀ h ∈ N.hs, nm (N.f h) = nm h) (hh : h ∈ N.hs) : nm (it N.f n h) = nm h := by
  induction n generalizing h with
  | zero => rfl
  | succ n ih => exact (ih (ok.fh h hh)).trans (nf h hh)
theorem dd_ring (ok : N.Ok) (F : Fst N h key first m) (T : Tr N.size N.f first first N.size) (hi : i < m) : (it N.f i first - key) % N.size = (first - key) % N.size + wl N.size N.f i first := by
  have h0 := ok.s0
  obtain ⟨n, n1, e1, e2⟩ := T
  have hmn : m ≤ n := Nat.le_of_not_lt fun z => F.per.no n (by omega) z e1
  have d0 := wl_dvd (f := N.f) (n := m) (h := first) h0
  rw [F.per.rt, Int.sub_self, Int.sub_zero] at d0
  have w0 := wl_ge (f := N.f) (n := m) (h := first) h0
  have p1 := F.per.p1
  have w1 := Int.le_of_dvd (by omega) d0
  have w2 := wl_le (f := N.f) (h := first) h0 hmn
  have hw : wl N.size N.f m first = N.size := by omega
  obtain ⟨g, j, ⟨n3, e3⟩, an, e4⟩ := F.an
  obtain ⟨c1, c2⟩ := wl_shift (size := N.size) (i := n3) F.per.rt
  rw [e3] at c1 c2
  rw [hw] at c2
  have fp := far_pos (s := g) (e := key) h0
  have hjm : j ≤ m := Nat.le_of_not_lt fun z => by have := an.2 m z; omega
  have fd := far_dvd (s := g) (e := key) h0
  have gd := wl_dvd (f := N.f) (n := j) (h := g) h0
  rw [e4] at gd
  have hsum : wl N.size N.f j g + wl N.size N.f (m - j) first = N.size := by
    have := wl_add (size := N.size) (f := N.f) (m := j) (n := m - j) (h := g)
    rw [show j + (m - j) = m by omega, c2, e4] at this
    omega
  have a1 := an.1
  have bd : ∀ {i : Nat}, i < m → wl N.size N.f j g - far N.size g key + wl N.size N.f i first < N.size := fun {i} hi => by
    by_cases hc : i ≤ m - j
    · have := wl_le (f := N.f) (h := first) h0 hc
      omega
    · have e5 : it N.f (m - j) first = g := by rw [← e4, ← it_add, show j + (m - j) = m by omega, c1]
      have := wl_add (size := N.size) (f := N.f) (m := m - j) (n := i - (m - j)) (h := first)
      rw [show m - j + (i - (m - j)) = i by omega, e5] at this
      have := an.2 (i - (m - j)) (by omega)
      omega
  have q0 : (first - key) % N.size = wl N.size N.f j g - far N.size g key := by
    refine emod_of ?_ (by omega) (by have := bd (i := 0) (by omega); have e : wl N.size N.f 0 first = 0 := rfl; omega)
    have := Int.dvd_sub gd fd
    rw [show wl N.size N.f j g - (first - g) - (far N.size g key - (key - g)) = wl N.size N.f j g - far N.size g key - (first - key) by omega] at this
    exact this
  rw [q0]
  have wi := wl_ge (f := N.f) (n := i) (h := first) h0
  refine emod_of ?_ (by omega) (bd hi)
  have h1 := Int.dvd_sub gd fd
  have h2 := Int.dvd_add h1 (wl_dvd (f := N.f) (n := i) (h := first) h0)
  rw [show wl N.size N.f j g - (first - g) - (far N.size g key - (key - g)) + (wl N.size N.f i first - (it N.f i first - first)) = wl N.size N.f j g - far N.size g key + wl N.size N.f i first - (it N.f i first - key) by omega] at h2
  exact h2
theorem Fst.inh (ok : N.Ok) (F : Fst N h key first m) (hh : h ∈ N.hs) : first ∈ N.hs := by
  obtain ⟨n, e⟩ := F.to
  exact e ▸ it_mem ok.fh hh
theorem Fst.nam (ok : N.Ok) (I : NI N nm ss) (F : Fst N h key first m) (hh : h ∈ N.hs) (i : Nat) : nm (it N.f i first) = nm h := by
  obtain ⟨n, e⟩ := F.to
  rw [← e, ← it_add]
  exact nm_it ok I.nf hh
theorem NI.ring (ok : N.Ok) (I : NI N nm ss) (F : Fst N h key first m) (hh : h ∈ N.hs) (hp : p ∈ N.hs) (hn : nm p = nm h) (o : OnR N.f p) : ∃ i, i < m ∧ it N.f i first = p := by
  have hf := F.inh ok hh
  obtain ⟨a, b, e⟩ := I.mt p hp first hf (by rw [hn]; exact (F.nam ok I hh 0).symm)
  obtain ⟨q, hq⟩ := o.back rfl (a := a)
  have : it N.f (b + q) first = p := by rw [it_add, ← e, hq]
  have hm := (ringL_iff F.per).mpr ⟨_, this⟩
  obtain ⟨i, hi, e2⟩ := List.mem_map.mp hm
  exact ⟨i, List.mem_range.mp hi, e2⟩
theorem SI.finds (ok : N.Ok) (I : NI N nm ss) (X : SI N nm ss S) (hh : h ∈ N.hs) (hs : nm h ∈ ss) (k0 : 0 ≤ key) (k1 : key < N.size) : Finds N nm S h key := fun first m F => by
  have h0 := ok.s0
  have hf := F.inh ok hh
  have on : ∀ i, it N.f i first ∈ N.hs := fun i => it_mem ok.fh hf
  rcases X.gd _ hs key k0 k1 with ⟨a, b⟩ | ⟨v, q, a, fl, vn, hq, nq, wq, least⟩
  · refine .inl ⟨a, fun p hp => ?_⟩
    obtain ⟨i, e⟩ := (ringL_iff F.per).mp hp
    rw [← e]
    exact b _ (on i) (F.nam ok I hh i)
  · obtain ⟨_, oq⟩ := X.on q key (by rw [wq]; exact fun z => nomatch z)
    obtain ⟨i, hi, e⟩ := I.ring ok F hh hq nq oq
    have T := I.one first hf F.per.on (by rw [show nm first = nm h from F.nam ok I hh 0]; exact hs)
    refine .inr ⟨v, a, fl, vn, i, hi, e ▸ wq, fun i' hi' => ?_⟩
    apply Classical.byContradiction
    intro hc
    have l := least _ (on i') (F.nam ok I hh i') hc
    rw [← e, dd_ring ok F T hi, dd_ring ok F T (show i' < m by omega)] at l
    have := wl_lt (size := N.size) (f := N.f) (h := first) h0 hi'
    omega
theorem OnR.keep (k : Keep N N') (hp : p ∈ N.hs) (o : OnR N.f p) : OnR N'.f p := by
  obtain ⟨n, n1, e⟩ := o
  obtain ⟨n', n1', e', _⟩ := k.tr p p _ hp ⟨n, n1, e, rfl⟩
  exact ⟨n', n1', e'⟩
theorem NI.mv (ok : N.Ok) (k : Keep N N') (eh : N'.hs = N.hs) (nf : ∀ h ∈ N.hs, nm (N'.f h) = nm h) (I : NI N nm ss) : NI N' nm ss := by
  refine ⟨by rw [eh]; exact I.nh, by rw [eh]; exact nf, fun p hp q hq e => ?_, fun p hp o hs => ?_, by rw [eh]; exact I.sh⟩
  · rw [eh] at hp hq
    obtain ⟨a, b, e1⟩ := I.mt p hp q hq e
    have e2 : it N.f (a + 1) p = it N.f (b + 1) q := by rw [it_succ, it_succ, e1]
    obtain ⟨a', _, c1, _⟩ := k.tr p _ _ hp ⟨a + 1, by omega, rfl, rfl⟩
    obtain ⟨b', _, c2, _⟩ := k.tr q _ _ hq ⟨b + 1, by omega, rfl, rfl⟩
    exact ⟨a', b', by rw [c1, c2, e2]⟩
  · rw [eh] at hp
    obtain ⟨m, m1, m2, m3⟩ := on_ring (n := N.hs.length) ok.fh hp (Nat.le_refl _)
    have hr := it_mem (n := N.hs.length) ok.fh hp
    have T := I.one _ hr ⟨m, m1, m3⟩ (by rw [nm_it ok I.nf hp]; exact hs)
    obtain ⟨n, n1, e1, e2⟩ := k.tr _ _ _ hr T
    have hl : 1 ≤ N.hs.length := List.length_pos_of_mem hp
    obtain ⟨a, _, c1, _⟩ := k.tr p _ _ hp ⟨N.hs.length, hl, rfl, rfl⟩
    obtain ⟨q, hq⟩ := o.back c1
    obtain ⟨s1, s2⟩ := wl_shift (size := N.size) (i := q) e1
    rw [hq] at s1 s2
    exact ⟨n, n1, s1, by rw [k.z]; exact s2.trans e2⟩
theorem SI.mv (k : Keep N N') (eh : N'.hs = N.hs) (X : SI N nm ss S) : SI N' nm ss S :=
  ⟨fun p key hw => ⟨by rw [eh]; exact (X.on p key hw).1, (X.on p key hw).2.keep k (X.on p key hw).1⟩, by rw [eh]; exact X.lh, by rw [eh, k.z]; exact X.gd, X.c1⟩
theorem Small.nf (s : Small N N') (ok : N.Ok) (say : N.Say) (nf : ∀ h ∈ N.hs, nm (N.f h) = nm h) : ∀ h ∈ N.hs, nm (N'.f h) = nm h := by
  cases s with
  | tell h m q => exact nf
  | ask h m q => exact nf
  | dup l m q => exact nf
  | del i => exact nf
  | read i l m =>
    have hm := List.mem_of_getElem? m
    cases l with
    | tell v u => simp only [NS.read, NS.readL]; split <;> (try split) <;> exact nf
    | ask v u => simp only [NS.read, NS.readL]; split <;> exact nf
    | ans u v x =>
      have t := say.sa u v x hm
      have hx := ok.ph _ hm x (by simp [LT.pl])
      have hu := ok.ph _ hm u (by simp [LT.pl])
      simp only [NS.read, NS.readL]
      split
      · rename_i c
        obtain ⟨c1, c2⟩ := c
        intro h hh
        show nm (if h = u then x else N.f h) = nm h
        by_cases e : h = u
        · rw [if_pos e, e]
          obtain ⟨n, _, e1, _⟩ := t
          have e2 := nm_it (n := n) ok nf hx
          rw [e1] at e2
          have c1' : N.f u = v := c1
          rw [← e2, ← c1', nf u hu]
        · rw [if_neg e]; exact nf h hh
      · exact nf
theorem Steps.inv (s : Steps N N') (ok : N.Ok) (say : N.Say) (I : NI N nm ss) : NI N' nm ss ∧ ∀ S, SI N nm ss S → SI N' nm ss S := by
  induction s with
  | refl => exact ⟨I, fun _ h => h⟩
  | more a c ih =>
    obtain ⟨I1, g⟩ := ih
    obtain ⟨s1, k1⟩ := a.good ok say
    have ok1 := a.ok ok
    obtain ⟨s2, k2⟩ := c.good ok1 s1
    exact ⟨I1.mv ok1 k2 c.same.1 (c.nf ok1 s1 I1.nf), fun S X => (g S X).mv k2 c.same.1⟩
theorem SI.put (ok : N.Ok) (I : NI N nm ss) (X : SI N nm ss S) (F : Fst N h key first m) (hh : h ∈ N.hs) {v : V} (fl : flatR v = true) (vn : v ≠ .non) {L' : List Addr} {n' : Nat} :
    SI N nm ss { S with L := L', n := n', w := putAll S.w ((ringL N.f first m).take S.c) key v, la := updL S.la (nm h) key v } := by
  have hf := F.inh ok hh
  have ring : ∀ p ∈ ringL N.f first m, p ∈ N.hs ∧ OnR N.f p ∧ nm p = nm h := fun p hp => by
    obtain ⟨i, e⟩ := (ringL_iff F.per).mp hp
    exact ⟨e ▸ it_mem ok.fh hf, (F.per.at_ e).on, e ▸ F.nam ok I hh i⟩
  have c1 := X.c1
  have on' : ∀ p k, putAll S.w ((ringL N.f first m).take S.c) key v p k ≠ none → p ∈ N.hs ∧ OnR N.f p := fun p k hw => by
    unfold putAll at hw
    by_cases e : p ∈ (ringL N.f first m).take S.c ∧ k = key
    · have := ring p (List.mem_of_mem_take e.1)
      exact ⟨this.1, this.2.1⟩
    · rw [if_neg e] at hw; exact X.on p k hw
  refine ⟨on', fun r k hl => ?_, fun r hr k k0 k1 => ?_, c1⟩
  · have hl' : updL S.la (nm h) key v r k ≠ none := hl
    unfold updL at hl'
    by_cases e : r = nm h ∧ k = key
    · rw [e.1]; exact I.nh h hh
    · rw [if_neg e] at hl'; exact X.lh r k hl'
  · show (updL S.la (nm h) key v r k = none ∧ ∀ p ∈ N.hs, nm p = r → putAll S.w ((ringL N.f first m).take S.c) key v p k = none) ∨ ∃ v' q, updL S.la (nm h) key v r k = some v' ∧ flatR v' = true ∧ v' ≠ .non ∧ q ∈ N.hs ∧ nm q = r ∧ putAll S.w ((ringL N.f first m).take S.c) key v q k = some v' ∧
      ∀ p ∈ N.hs, nm p = r → putAll S.w ((ringL N.f first m).take S.c) key v p k ≠ none → (q - k) % N.size ≤ (p - k) % N.size
    by_cases e : r = nm h ∧ k = key
    · obtain ⟨rfl, rfl⟩ := e
      have T := I.one first hf F.per.on (by rw [show nm first = nm h from F.nam ok I hh 0]; exact hr)
      refine .inr ⟨v, first, by unfold updL; rw [if_pos ⟨rfl, rfl⟩], fl, vn, hf, F.nam ok I hh 0, ?_, fun p hp hn hw => ?_⟩
      · unfold putAll
        have hp := F.per.p1
        rw [if_pos ⟨List.mem_of_getElem? (i := 0) (by rw [List.getElem?_take, if_pos (by omega)]; exact ringL_at (by omega)), rfl⟩]
      · obtain ⟨i, hi, e⟩ := I.ring ok F hh hp hn (on' p k hw).2
        rw [← e, dd_ring ok F T hi]
        have := wl_ge (f := N.f) (n := i) (h := first) ok.s0
        omega
    · have e1 : updL S.la (nm h) key v r k = S.la r k := by unfold updL; rw [if_neg e]
      have e2 : ∀ p, nm p = r → putAll S.w ((ringL N.f first m).take S.c) key v p k = S.w p k := fun p hn => by
        unfold putAll
        rw [if_neg fun z => e ⟨by rw [← hn]; exact (ring p (List.mem_of_mem_take z.1)).2.2, z.2⟩]
      rw [e1]
      rcases X.gd r hr k k0 k1 with ⟨a, b⟩ | ⟨v', q, a, fl', vn', hq, nq, wq, least⟩
      · exact .inl ⟨a, fun p hp hn => by rw [e2 p hn]; exact b p hp hn⟩
      · exact .inr ⟨v', q, a, fl', vn', hq, nq, by rw [e2 q nq]; exact wq, fun p hp hn hw => least p hp hn (by rw [← e2 p hn]; exact hw)⟩
def nmAdm (nm : Int → Int) (y x : Int) : Int → Int := fun h => if h = y then (if x = y then y else nm x) else nm h
def ssAdm (ss : List Int) (y x : Int) : List Int := if x = y then ss ++ [y] else ss
theorem adm_it (ok : N.Ok) (hy : y ∉ N.hs) (hp : p ∈ N.hs) : it (N.admit y x hs').f n p = it N.f n p ∧ wl N.size (N.admit y x hs').f n p = wl N.size N.f n p :=
  it_cong (size := N.size) (f := N.f) (g := (N.admit y x hs').f) (u := y) (fun h hn => if_neg hn) (n := n) (x := p) fun i _ c => hy (c ▸ it_mem ok.fh hp)
theorem NI.adm (ok : N.Ok) (I : NI N nm ss) (hy : y ∉ N.hs) (hx : x = y ∨ x ∈ N.hs) (hm : ∀ h, h ∈ hs' ↔ h = y ∨ h ∈ N.hs) : NI (N.admit y x hs') (nmAdm nm y x) (ssAdm ss y x) := by
  have old : ∀ {h}, h ∈ N.hs → nmAdm nm y x h = nm h := fun {h} hh => by unfold nmAdm; rw [if_neg]; intro e; exact hy (e ▸ hh)
  have ny : nmAdm nm y x y = if x = y then y else nm x := by unfold nmAdm; exact if_pos rfl
  have fy : (N.admit y x hs').f y = x := if_pos rfl
  have fo : ∀ {h}, h ∈ N.hs → (N.admit y x hs').f h = N.f h := fun {h} hh => by show (if h = y then x else N.f h) = _; rw [if_neg]; intro e; exact hy (e ▸ hh)
  have ity : ∀ n, it (N.admit y x hs').f (n + 1) y = it (N.admit y x hs').f n x := fun n => by show it _ n ((N.admit y x hs').f y) = _; rw [fy]
  have key : ∀ q ∈ N.hs, nmAdm nm y x y = nm q → ∃ a b, it (N.admit y x hs').f a y = it (N.admit y x hs').f b q := fun q hq e => by
    rw [ny] at e
    by_cases ex : x = y
    · rw [if_pos ex] at e; exact absurd (e ▸ I.nh q hq) hy
    · rw [if_neg ex] at e
      have hx' := hx.resolve_left ex
      obtain ⟨a, b, e2⟩ := I.mt x hx' q hq e
      exact ⟨a + 1, b, by rw [ity, (adm_it ok hy hx').1, (adm_it ok hy hq).1, e2]⟩
  refine ⟨fun h hh => ?_, fun h hh => ?_, fun p hp q hq e => ?_, fun p hp o hs => ?_, fun r hr => ?_⟩
  · show nmAdm nm y x h ∈ hs'
    rcases (hm h).mp hh with e | e
    · rw [e, ny]
      by_cases ex : x = y
      · rw [if_pos ex]; exact (hm y).mpr (.inl rfl)
      · rw [if_neg ex]; exact (hm _).mpr (.inr (I.nh x (hx.resolve_left ex)))
    · rw [old e]; exact (hm _).mpr (.inr (I.nh h e))
  · rcases (hm h).mp hh with e | e
    · rw [e, fy]
      by_cases ex : x = y
      · rw [ex]
      · rw [old (hx.resolve_left ex), ny, if_neg ex]
    · rw [fo e, old (ok.fh h e), old e, I.nf h e]
  · rcases (hm p).mp hp with ep | ep
    · rcases (hm q).mp hq with eq | eq
      · exact ⟨0, 0, by rw [ep, eq]⟩
      · rw [ep] at e ⊢
        exact key q eq (e.trans (old eq))
    · rcases (hm q).mp hq with eq | eq
      · rw [eq] at e ⊢
        obtain ⟨a, b, c⟩ := key p ep (e.symm.trans (old ep))
        exact ⟨b, a, c.symm⟩
      · rw [old ep, old eq] at e
        obtain ⟨a, b, c⟩ := I.mt p ep q eq e
        exact ⟨a, b, by rw [(adm_it ok hy ep).1, (adm_it ok hy eq).1, c]⟩
  · rcases (hm p).mp hp with ep | ep
    · by_cases ex : x = y
      · refine ⟨1, Nat.le_refl _, ?_, ?_⟩
        · rw [ep]; show (N.admit y x hs').f y = y; rw [fy, ex]
        · rw [ep]; show far N.size y ((N.admit y x hs').f y) + 0 = N.size; rw [fy, ex, far_self]; omega
      · obtain ⟨n, n1, e⟩ := o
        exfalso
        rw [ep] at e
        obtain ⟨k, rfl⟩ : ∃ k, n = k + 1 := ⟨n - 1, by omega⟩
        have hx' := hx.resolve_left ex
        rw [ity, (adm_it ok hy hx').1] at e
        exact hy (e ▸ it_mem ok.fh hx')
    · rw [old ep] at hs
      have hs2 : nm p ∈ ss := by
        unfold ssAdm at hs
        by_cases ex : x = y
        · rw [if_pos ex] at hs
          rcases List.mem_append.mp hs with z | z
          · exact z
          · exact absurd (List.mem_singleton.mp z ▸ I.nh p ep) hy
        · rw [if_neg ex] at hs; exact hs
      obtain ⟨n, n1, e⟩ := o
      rw [(adm_it ok hy ep).1] at e
      exact admit_tr ok hy ep (I.one p ep ⟨n, n1, e⟩ hs2)
  · show r ∈ hs'
    unfold ssAdm at hr
    by_cases ex : x = y
    · rw [if_pos ex] at hr
      rcases List.mem_append.mp hr with z | z
      · exact (hm r).mpr (.inr (I.sh r z))
      · exact (hm r).mpr (.inl (List.mem_singleton.mp z))
    · rw [if_neg ex] at hr; exact (hm r).mpr (.inr (I.sh r hr))
theorem SI.adm (ok : N.Ok) (I : NI N nm ss) (X : SI N nm ss S) (hy : y ∉ N.hs) (hm : ∀ h, h ∈ hs' ↔ h = y ∨ h ∈ N.hs) : SI (N.admit y x hs') (nmAdm nm y x) (ssAdm ss y x) S := by
  have old : ∀ {h}, h ∈ N.hs → nmAdm nm y x h = nm h := fun {h} hh => by unfold nmAdm; rw [if_neg]; intro e; exact hy (e ▸ hh)
  have wy : ∀ k, S.w y k = none := fun k => by
    apply Classical.byContradiction
    intro z
    exact hy (X.on y k z).1
  have ly : ∀ k, S.la y k = none := fun k => by
    apply Classical.byContradiction
    intro z
    exact hy (X.lh y k z)
  refine ⟨fun p k hw => ?_, fun r k hl => (hm r).mpr (.inr (X.lh r k hl)), fun r hr k k0 k1 => ?_, X.c1⟩
  · obtain ⟨a, n, n1, e⟩ := X.on p k hw
    exact ⟨(hm p).mpr (.inr a), n, n1, by rw [(adm_it ok hy a).1]; exact e⟩
  · by_cases ery : r = y
    · rw [ery]
      refine .inl ⟨ly k, fun p hp hn => ?_⟩
      rcases (hm p).mp hp with e | e
      · rw [e]; exact wy k
      · rw [old e] at hn
        exact absurd (hn ▸ I.nh p e) hy
    · have hr' : r ∈ ss := by
        unfold ssAdm at hr
        by_cases ex : x = y
        · rw [if_pos ex] at hr
          exact (List.mem_append.mp hr).resolve_right fun z => ery (List.mem_singleton.mp z)
        · rw [if_neg ex] at hr; exact hr
      rcases X.gd r hr' k k0 k1 with ⟨a, b⟩ | ⟨v', q, a, fl', vn', hq, nq, wq, least⟩
      · refine .inl ⟨a, fun p hp hn => ?_⟩
        rcases (hm p).mp hp with e | e
        · rw [e]; exact wy k
        · rw [old e] at hn; exact b p e hn
      · refine .inr ⟨v', q, a, fl', vn', (hm q).mpr (.inr hq), by rw [old hq]; exact nq, wq, fun p hp hn hw => ?_⟩
        rcases (hm p).mp hp with e | e
        · rw [e, wy k] at hw; exact absurd rfl hw
        · rw [old e] at hn; exact least p e hn hw
def RootOf (hs : List Int) (f : Int → Int) (h r : Int) : Prop := ∃ m, Per f (it f hs.length h) m ∧ r ∈ ringL f (it f hs.length h) m ∧ ∀ y ∈ ringL f (it f hs.length h) m, r ≤ y
theorem RootOf.le {hs : List Int} {f : Int → Int} {h h' r r' : Int} (x : RootOf hs f h r) (x' : RootOf hs f h' r') (e : ∃ a b, it f a h = it f b h') : r ≤ r' := by
  obtain ⟨m, per, hr, hmin⟩ := x
  obtain ⟨m', per', hr', _⟩ := x'
  obtain ⟨a, b, e⟩ := e
  obtain ⟨i, hi⟩ := (ringL_iff per').mp hr'
  have p2 := per'.at_ hi
  have e1 : it f (hs.length + i) h' = r' := by rw [it_add, hi]
  have e2 := p2.meet (n' := b) (r' := it f b h') e1 rfl
  rw [← e, ← it_add] at e2
  have e3 := p2.meet (n' := hs.length) e2 rfl
  exact hmin _ ((ringL_iff per).mpr ⟨_, e3⟩)
theorem RootOf.reach {hs : List Int} {f : Int → Int} {h r : Int} (x : RootOf hs f h r) : (∃ a, it f a h = r) ∧ OnR f r := by
  obtain ⟨m, per, hr, _⟩ := x
  obtain ⟨i, hi⟩ := (ringL_iff per).mp hr
  exact ⟨⟨hs.length + i, by rw [it_add, hi]⟩, (per.at_ hi).on⟩
theorem NI.start (ok : N.Ok) (hr : ∀ h ∈ N.hs, RootOf N.hs N.f h (nm h)) (hs : ∀ r ∈ ss, r ∈ N.hs ∧ nm r = r ∧ ∀ m, Per N.f (it N.f N.hs.length r) m → wl N.size N.f m (it N.f N.hs.length r) / N.size = 1) : NI N nm ss := by
  refine ⟨fun h hh => ?_, fun h hh => ?_, fun p hp q hq e => ?_, fun p hp o hps => ?_, fun r h => (hs r h).1⟩
  · obtain ⟨⟨a, e⟩, _⟩ := (hr h hh).reach
    exact e ▸ it_mem ok.fh hh
  · have a1 := (hr _ (ok.fh h hh)).le (hr h hh) ⟨0, 1, rfl⟩
    have a2 := (hr h hh).le (hr _ (ok.fh h hh)) ⟨1, 0, rfl⟩
    omega
  · obtain ⟨⟨a, e1⟩, _⟩ := (hr p hp).reach
    obtain ⟨⟨b, e2⟩, _⟩ := (hr q hq).reach
    exact ⟨a, b, by rw [e1, e2, e]⟩
  · obtain ⟨h1, h2, h3⟩ := hs _ hps
    obtain ⟨⟨a, e1⟩, or⟩ := (hr p hp).reach
    obtain ⟨m, m1, m2, m3⟩ := hr _ h1
    have h4 := h3 m m1
    have d0 := wl_dvd (f := N.f) (n := m) (h := it N.f N.hs.length (nm p)) ok.s0
    rw [m1.rt, Int.sub_self, Int.sub_zero] at d0
    have w : wl N.size N.f m (it N.f N.hs.length (nm p)) = N.size := by
      have := Int.ediv_mul_cancel d0
      rw [h4] at this
      omega
    obtain ⟨q1, e2⟩ := or.back (a := N.hs.length) rfl
    obtain ⟨q2, e3⟩ := o.back e1
    obtain ⟨s1, s2⟩ := wl_shift (size := N.size) (i := q1 + q2) m1.rt
    rw [it_add, e2, e3] at s1 s2
    exact ⟨m, m1.p1, s1, s2.trans w⟩
theorem SI.start (h : 1 ≤ S.c) (hw : S.w = fun _ _ => none) (hl : S.la = fun _ _ => none) : SI N nm ss S :=
  ⟨fun p k z => absurd (by rw [hw]) z, fun r k z => absurd (by rw [hl]) z, fun r _ k _ _ => .inl ⟨by rw [hl], fun p _ _ => by rw [hw]⟩, h⟩
end
end RL
set_option synthInstance.maxHeartbeats 4000000
set_option synthInstance.maxSize 4000
namespace RL
theorem nd_off {B : List Addr} (nd : B.Nodup) {x : Addr} (js : List Nat) {i : Nat} (hi : B[i]? = some x) (hj : i ∉ js) : x ∉ js.filterMap (fun j => B[j]?) := fun m => by
  obtain ⟨j, hj', e⟩ := List.mem_filterMap.mp m
  exact hj (nd_ix nd hi e ▸ hj')
theorem nd_pick {B : List Addr} (nd : B.Nodup) : ∀ (js : List Nat), js.Nodup → (js.filterMap (fun j => B[j]?)).Nodup
  | [], _ => List.nodup_nil
  | j :: r, h => by
    obtain ⟨h1, h2⟩ := List.nodup_cons.mp h
    cases e : B[j]? with
    | none => rw [List.filterMap_cons_none e]; exact nd_pick nd r h2
    | some x => rw [List.filterMap_cons_some e]; exact List.nodup_cons.mpr ⟨nd_off nd r e h1, nd_pick nd r h2⟩
theorem WW.ndB {C : Addr} {H : Hp} {A : Ads} {N M : NS} (w : WW C H A N M) : (A.p :: A.tc :: A.all).Nodup :=
  ((List.Perm.cons A.p (List.perm_append_singleton A.tc A.all)).nodup_iff).mp w.nd
theorem som_cons {H : Hp} {x : Addr} {o : HO} {B : List Addr} (e : H x = some o) (h : ∀ y ∈ B, (H y).isSome = true) : ∀ y ∈ x :: B, (H y).isSome = true := fun y hy => by
  rcases List.mem_cons.mp hy with z | z
  · rw [z, e]; rfl
  · exact h y z
def kB (fl an al sh kl : Addr) (S1 S2 : Shop) (A : Ads) : List Addr := [kl, sh, S2.sl, S2.li, S2.dk, S2.s, S1.sl, S1.li, S1.dk, S1.s, al, an, fl, A.p, A.tc, A.da, A.db, A.dl, A.dn, A.dk, A.dp, A.tp]
structure LK (CN CS fl an al sh kl : Addr) (A : Ads) (ks : List Int) (t : Nat) (H : Hp) (M : NS) (nm : Int → Int) (ss fs : List Int) (S1 S2 : Shop) : Prop where
  W : WW CN H A M M
  ok : M.Ok
  say : M.Say
  pl : M.post.length ≤ 60
  pos : 0 < M.hs.length
  cnt : M.hs.length + fs.length ≤ 12
  fh : H fl = some (.lst (fs.map V.int))
  fr : ∀ x ∈ fs, x ∉ M.hs ∧ 0 ≤ x ∧ x < M.size
  fnd : fs.Nodup
  nmx : ∃ kvs, H an = some (.dK kvs) ∧ DOk kvs (mfOf M.hs nm)
  hal : H al = some (.lst (ss.map V.int))
  sl : ss.length + fs.length ≤ 30
  hsh : H sh = some (.lst [.ref S1.sl, .ref S2.sl])
  hkl : H kl = some (.lst (ks.map V.int))
  s1 : ShAt CS H A.p S1
  s2 : ShAt CS H A.p S2
  I : NI M nm ss
  X1 : SI M nm ss S1
  X2 : SI M nm ss S2
  n1 : S1.n ≤ 60 * t
  n2 : S2.n ≤ 60 * t
  nd : (kB fl an al sh kl S1 S2 A).Nodup
  o1 : ∀ a ∈ S1.L, a ∉ kB fl an al sh kl S1 S2 A
  o2 : ∀ a ∈ S2.L, a ∉ kB fl an al sh kl S1 S2 A
  dj : ∀ a ∈ S1.L, a ∉ S2.L
  kl5 : ks.length = 5
  kz : ∀ k ∈ ks, 0 ≤ k ∧ k < M.size
section
variable {CN CS fl an al sh kl : Addr} {A : Ads} {ks : List Int} {t : Nat} {H H' : Hp} {M M' : NS} {nm : Int → Int} {ss fs : List Int} {S1 S2 : Shop} {F : List Addr}
theorem LK.nn (x : LK CN CS fl an al sh kl A ks t H M nm ss fs S1 S2) : NxAt H an M.hs nm := let ⟨_, e, d⟩ := x.nmx; .mk' (.inl e) d x.ok.nd x.I.nh
theorem LK.som (x : LK CN CS fl an al sh kl A ks t H M nm ss fs S1 S2) : ∀ y ∈ kB fl an al sh kl S1 S2 A, (H y).isSome = true := by
  obtain ⟨_, e1, _⟩ := x.nmx
  obtain ⟨_, g1⟩ := x.s1.st.ob
  obtain ⟨_, g2⟩ := x.s2.st.ob
  obtain ⟨_, _, g3, _⟩ := x.s1.st.kp.ex
  obtain ⟨_, _, g4, _⟩ := x.s2.st.kp.ex
  obtain ⟨_, g5, _⟩ := x.s1.la
  obtain ⟨_, g6, _⟩ := x.s2.la
  exact som_cons x.hkl (som_cons x.hsh (som_cons x.s2.ls (som_cons g6 (som_cons g4 (som_cons g2 (som_cons x.s1.ls (som_cons g5 (som_cons g3 (som_cons g1 (som_cons x.hal (som_cons e1 (som_cons x.fh x.W.somes))))))))))))
theorem LK.up (x : LK CN CS fl an al sh kl A ks t H M nm ss fs S1 S2) {t' : Nat} (h : t ≤ t') : LK CN CS fl an al sh kl A ks t' H M nm ss fs S1 S2 :=
  { x with n1 := by have := x.n1; omega, n2 := by have := x.n2; omega }
theorem LK.off (x : LK CN CS fl an al sh kl A ks t H M nm ss fs S1 S2) (js : List Nat) {i : Nat} {a : Addr} (hi : (kB fl an al sh kl S1 S2 A)[i]? = some a) (hj : i ∉ js) : a ∉ js.filterMap (fun j => (kB fl an al sh kl S1 S2 A)[j]?) := nd_off x.nd js hi hj
theorem LK.net (x : LK CN CS fl an al sh kl A ks t H M nm ss fs S1 S2) (f : Fr F H H') (hF : ∀ a ∈ F, a ∈ A.all) (W' : WW CN H' A M' M') (s : Steps M M') (pl : M'.post.length ≤ 60) : LK CN CS fl an al sh kl A ks t H' M' nm ss fs S1 S2 := by
  obtain ⟨eh, ez⟩ := s.same
  obtain ⟨I', g⟩ := s.inv x.ok x.say x.I
  have n : ∀ {i : Nat} {a : Addr}, (kB fl an al sh kl S1 S2 A)[i]? = some a → i ∉ [15, 16, 17, 18, 19, 20, 21] → a ∉ F := fun hi hj m => x.off [15, 16, 17, 18, 19, 20, 21] hi hj (hF _ m)
  have nL : ∀ {a : Addr}, a ∉ kB fl an al sh kl S1 S2 A → a ∉ F := fun h m => h (List.mem_of_mem_drop (i := 15) (show _ ∈ (kB fl an al sh kl S1 S2 A).drop 15 from hF _ m))
  have sh1 : ∀ a ∈ S1.sl :: S1.s :: S1.dk :: S1.li :: S1.L, a ∉ F := fun a m => by
    simp only [List.mem_cons] at m
    rcases m with m | m | m | m | m
    · exact n (i := 6) (by rw [m]; rfl) (by decide)
    · exact n (i := 9) (by rw [m]; rfl) (by decide)
    · exact n (i := 8) (by rw [m]; rfl) (by decide)
    · exact n (i := 7) (by rw [m]; rfl) (by decide)
    · exact nL (x.o1 a m)
  have sh2 : ∀ a ∈ S2.sl :: S2.s :: S2.dk :: S2.li :: S2.L, a ∉ F := fun a m => by
    simp only [List.mem_cons] at m
    rcases m with m | m | m | m | m
    · exact n (i := 2) (by rw [m]; rfl) (by decide)
    · exact n (i := 5) (by rw [m]; rfl) (by decide)
    · exact n (i := 4) (by rw [m]; rfl) (by decide)
    · exact n (i := 3) (by rw [m]; rfl) (by decide)
    · exact nL (x.o2 a m)
  exact ⟨W', s.ok x.ok, (s.good x.ok x.say).1, pl, by rw [eh]; exact x.pos, by rw [eh]; exact x.cnt, f.at_ _ _ x.fh (n (i := 12) rfl (by decide)), by rw [eh, ez]; exact x.fr, x.fnd, by rw [eh]; exact let ⟨k, e, d⟩ := x.nmx; ⟨k, f.at_ _ _ e (n (i := 11) rfl (by decide)), d⟩,
    f.at_ _ _ x.hal (n (i := 10) rfl (by decide)), x.sl, f.at_ _ _ x.hsh (n (i := 1) rfl (by decide)), f.at_ _ _ x.hkl (n (i := 0) rfl (by decide)), x.s1.fr f sh1, x.s2.fr f sh2, I', g _ x.X1, g _ x.X2, x.n1, x.n2, x.nd, x.o1, x.o2, x.dj, x.kl5, by rw [ez]; exact x.kz⟩
theorem LK.ex0 (x : LK CN CS fl an al sh kl A ks t H M nm ss fs S1 S2) (f : Fr [] H H') : LK CN CS fl an al sh kl A ks t H' M nm ss fs S1 S2 := x.net f (fun _ h => nomatch h) (x.W.ex0 f) (.refl M) x.pl
theorem LK.pick (x : LK CN CS fl an al sh kl A ks t H M nm ss fs S1 S2) (h : TapeAt H' A.tp A.tc) (f : Fr [A.tp] H H') : LK CN CS fl an al sh kl A ks t H' M nm ss fs S1 S2 :=
  x.net f (fun a h => by rw [List.mem_singleton.mp h]; simp [Ads.all]) (x.W.tape' f h) (.refl M) x.pl
theorem LK.put1 (x : LK CN CS fl an al sh kl A ks t H M nm ss fs S1 S2) {h key first : Int} {v : V} {m : Nat} {L' : List Addr} (hh : h ∈ M.hs) (fl' : flatR v = true) (vn : v ≠ .non) (Fs : Fst M h key first m) (hL : ∀ a ∈ L', a ∈ S1.L ∨ H a = none)
    (s' : ShAt CS H' A.p { S1 with L := L', n := S1.n + 60, w := putAll S1.w ((ringL M.f first m).take S1.c) key v, la := updL S1.la (nm h) key v }) (t' : TapeAt H' A.tp A.tc) (f : Fr (A.tp :: S1.li :: S1.dk :: S1.L) H H') :
    LK CN CS fl an al sh kl A ks (t + 1) H' M nm ss fs { S1 with L := L', n := S1.n + 60, w := putAll S1.w ((ringL M.f first m).take S1.c) key v, la := updL S1.la (nm h) key v } S2 := by
  have n : ∀ {i : Nat} {a : Addr}, (kB fl an al sh kl S1 S2 A)[i]? = some a → i ∉ [21, 7, 8] → a ∉ A.tp :: S1.li :: S1.dk :: S1.L := fun {i a} hi hj m => by
    have m' : a ∈ [A.tp, S1.li, S1.dk] ++ S1.L := m
    rcases List.mem_append.mp m' with z | z
    · exact x.off [21, 7, 8] hi hj z
    · exact x.o1 a z (List.mem_of_getElem? hi)
  have nL : ∀ {a : Addr}, a ∉ kB fl an al sh kl S1 S2 A → a ∉ S1.L → a ∉ A.tp :: S1.li :: S1.dk :: S1.L := fun {a} h h1 m => by
    have m' : a ∈ [A.tp, S1.li, S1.dk] ++ S1.L := m
    rcases List.mem_append.mp m' with z | z
    · simp at z
      rcases z with z | z | z <;> exact h (by rw [z]; simp [kB])
    · exact h1 z
  have sh2 : ∀ a ∈ S2.sl :: S2.s :: S2.dk :: S2.li :: S2.L, a ∉ A.tp :: S1.li :: S1.dk :: S1.L := fun a m => by
    simp only [List.mem_cons (a := a) (l := S2.L), List.mem_cons (a := a) (b := S2.sl), List.mem_cons (a := a) (b := S2.s), List.mem_cons (a := a) (b := S2.dk)] at m
    rcases m with m | m | m | m | m
    · exact n (i := 2) (by rw [m]; rfl) (by decide)
    · exact n (i := 5) (by rw [m]; rfl) (by decide)
    · exact n (i := 4) (by rw [m]; rfl) (by decide)
    · exact n (i := 3) (by rw [m]; rfl) (by decide)
    · exact nL (x.o2 a m) fun z => x.dj a z m
  have W' : WW CN H' A M M := ⟨x.W.net.fr f (n (i := 13) rfl (by decide)) (n (i := 15) rfl (by decide)) (n (i := 16) rfl (by decide)) (n (i := 17) rfl (by decide)), x.W.tab.fr f (n (i := 18) rfl (by decide)) (n (i := 19) rfl (by decide)) (n (i := 20) rfl (by decide)), t', x.W.nd⟩
  have new : ∀ a, H a = none → a ∉ kB fl an al sh kl S1 S2 A := fun a h => none_off x.som h
  exact ⟨W', x.ok, x.say, x.pl, x.pos, x.cnt, f.at_ _ _ x.fh (n (i := 12) rfl (by decide)), x.fr, x.fnd, let ⟨k, e, d⟩ := x.nmx; ⟨k, f.at_ _ _ e (n (i := 11) rfl (by decide)), d⟩,
    f.at_ _ _ x.hal (n (i := 10) rfl (by decide)), x.sl, f.at_ _ _ x.hsh (n (i := 1) rfl (by decide)), f.at_ _ _ x.hkl (n (i := 0) rfl (by decide)), s', x.s2.fr f sh2, x.I, x.X1.put x.ok x.I Fs hh fl' vn, x.X2, by have := x.n1; show S1.n + 60 ≤ _; omega, by have := x.n2; omega, x.nd,
    fun a m => (hL a m).elim (fun z => x.o1 a z) (new a), x.o2, fun a m => (hL a m).elim (fun z => x.dj a z) fun z q => (by have := x.s2.st.kp.so a q; rw [z] at this; cases this), x.kl5, x.kz⟩
theorem LK.put2 (x : LK CN CS fl an al sh kl A ks t H M nm ss fs S1 S2) {h key first : Int} {v : V} {m : Nat} {L' : List Addr} (hh : h ∈ M.hs) (fl' : flatR v = true) (vn : v ≠ .non) (Fs : Fst M h key first m) (hL : ∀ a ∈ L', a ∈ S2.L ∨ H a = none)
    (s' : ShAt CS H' A.p { S2 with L := L', n := S2.n + 60, w := putAll S2.w ((ringL M.f first m).take S2.c) key v, la := updL S2.la (nm h) key v }) (t' : TapeAt H' A.tp A.tc) (f : Fr (A.tp :: S2.li :: S2.dk :: S2.L) H H') :
    LK CN CS fl an al sh kl A ks (t + 1) H' M nm ss fs S1 { S2 with L := L', n := S2.n + 60, w := putAll S2.w ((ringL M.f first m).take S2.c) key v, la := updL S2.la (nm h) key v } := by
  have n : ∀ {i : Nat} {a : Addr}, (kB fl an al sh kl S1 S2 A)[i]? = some a → i ∉ [21, 3, 4] → a ∉ A.tp :: S2.li :: S2.dk :: S2.L := fun {i a} hi hj m => by
    have m' : a ∈ [A.tp, S2.li, S2.dk] ++ S2.L := m
    rcases List.mem_append.mp m' with z | z
    · exact x.off [21, 3, 4] hi hj z
    · exact x.o2 a z (List.mem_of_getElem? hi)
  have nL : ∀ {a : Addr}, a ∉ kB fl an al sh kl S1 S2 A → a ∉ S2.L → a ∉ A.tp :: S2.li :: S2.dk :: S2.L := fun {a} h h1 m => by
    have m' : a ∈ [A.tp, S2.li, S2.dk] ++ S2.L := m
    rcases List.mem_append.mp m' with z | z
    · simp at z
      rcases z with z | z | z <;> exact h (by rw [z]; simp [kB])
    · exact h1 z
  have sh1 : ∀ a ∈ S1.sl :: S1.s :: S1.dk :: S1.li :: S1.L, a ∉ A.tp :: S2.li :: S2.dk :: S2.L := fun a m => by
    simp only [List.mem_cons (a := a) (l := S1.L), List.mem_cons (a := a) (b := S1.sl), List.mem_cons (a := a) (b := S1.s), List.mem_cons (a := a) (b := S1.dk)] at m
    rcases m with m | m | m | m | m
    · exact n (i := 6) (by rw [m]; rfl) (by decide)
    · exact n (i := 9) (by rw [m]; rfl) (by decide)
    · exact n (i := 8) (by rw [m]; rfl) (by decide)
    · exact n (i := 7) (by rw [m]; rfl) (by decide)
    · exact nL (x.o1 a m) fun z => x.dj a m z
  have W' : WW CN H' A M M := ⟨x.W.net.fr f (n (i := 13) rfl (by decide)) (n (i := 15) rfl (by decide)) (n (i := 16) rfl (by decide)) (n (i := 17) rfl (by decide)), x.W.tab.fr f (n (i := 18) rfl (by decide)) (n (i := 19) rfl (by decide)) (n (i := 20) rfl (by decide)), t', x.W.nd⟩
  have new : ∀ a, H a = none → a ∉ kB fl an al sh kl S1 S2 A := fun a h => none_off x.som h
  exact ⟨W', x.ok, x.say, x.pl, x.pos, x.cnt, f.at_ _ _ x.fh (n (i := 12) rfl (by decide)), x.fr, x.fnd, let ⟨k, e, d⟩ := x.nmx; ⟨k, f.at_ _ _ e (n (i := 11) rfl (by decide)), d⟩,
    f.at_ _ _ x.hal (n (i := 10) rfl (by decide)), x.sl, f.at_ _ _ x.hsh (n (i := 1) rfl (by decide)), f.at_ _ _ x.hkl (n (i := 0) rfl (by decide)), x.s1.fr f sh1, s', x.I, x.X1, x.X2.put x.ok x.I Fs hh fl' vn, by have := x.n1; omega, by have := x.n2; show S2.n + 60 ≤ _; omega, x.nd, x.o1,
    fun a m => (hL a m).elim (fun z => x.o2 a z) (new a), fun a m q => (hL a q).elim (fun z => x.dj a m z) fun z => (by have := x.s1.st.kp.so a m; rw [z] at this; cases this), x.kl5, x.kz⟩
theorem LK.adm {y x0 : Int} {hs' : List Int} (x : LK CN CS fl an al sh kl A ks t H M nm ss (fs ++ [y]) S1 S2) (hx : x0 = y ∨ x0 ∈ M.hs) (up' : hs'.Pairwise (· < ·)) (hm : ∀ h, h ∈ hs' ↔ h = y ∨ h ∈ M.hs) (hl : hs'.length = M.hs.length + 1) (f : Fr (fl :: an :: al :: A.all) H H')
    (W' : WW CN H' A (M.admit y x0 hs') (M.admit y x0 hs')) (e1 : H' fl = some (.lst (fs.map V.int))) (e2 : ∃ kvs, H' an = some (.dK kvs) ∧ DOk kvs (mfOf hs' (nmAdm nm y x0))) (e3 : H' al = some (.lst ((ssAdm ss y x0).map V.int))) :
    LK CN CS fl an al sh kl A ks t H' (M.admit y x0 hs') (nmAdm nm y x0) (ssAdm ss y x0) fs S1 S2 := by
  obtain ⟨hy, y0, y1⟩ := x.fr y (by simp)
  have cnt := x.cnt
  rw [List.length_append] at cnt
  have cnt1 : [y].length = 1 := rfl
  obtain ⟨say', kp⟩ := admit_good (x := x0) x.ok x.say hy hm
  have n : ∀ {i : Nat} {a : Addr}, (kB fl an al sh kl S1 S2 A)[i]? = some a → i ∉ [12, 11, 10, 15, 16, 17, 18, 19, 20, 21] → a ∉ fl :: an :: al :: A.all := fun hi hj m => x.off [12, 11, 10, 15, 16, 17, 18, 19, 20, 21] hi hj m
  have nL : ∀ {a : Addr}, a ∉ kB fl an al sh kl S1 S2 A → a ∉ fl :: an :: al :: A.all := fun h m => h (by
    simp only [Ads.all, List.mem_cons, List.not_mem_nil, or_false] at m
    rcases m with z | z | z | z | z | z | z | z | z | z <;> rw [z] <;> simp [kB])
  have sh1 : ∀ a ∈ S1.sl :: S1.s :: S1.dk :: S1.li :: S1.L, a ∉ fl :: an :: al :: A.all := fun a m => by
    simp only [List.mem_cons (a := a) (l := S1.L), List.mem_cons (a := a) (b := S1.sl), List.mem_cons (a := a) (b := S1.s), List.mem_cons (a := a) (b := S1.dk)] at m
    rcases m with m | m | m | m | m
    · exact n (i := 6) (by rw [m]; rfl) (by decide)
    · exact n (i := 9) (by rw [m]; rfl) (by decide)
    · exact n (i := 8) (by rw [m]; rfl) (by decide)
    · exact n (i := 7) (by rw [m]; rfl) (by decide)
    · exact nL (x.o1 a m)
  have sh2 : ∀ a ∈ S2.sl :: S2.s :: S2.dk :: S2.li :: S2.L, a ∉ fl :: an :: al :: A.all := fun a m => by
    simp only [List.mem_cons (a := a) (l := S2.L), List.mem_cons (a := a) (b := S2.sl), List.mem_cons (a := a) (b := S2.s), List.mem_cons (a := a) (b := S2.dk)] at m
    rcases m with m | m | m | m | m
    · exact n (i := 2) (by rw [m]; rfl) (by decide)
    · exact n (i := 5) (by rw [m]; rfl) (by decide)
    · exact n (i := 4) (by rw [m]; rfl) (by decide)
    · exact n (i := 3) (by rw [m]; rfl) (by decide)
    · exact nL (x.o2 a m)
  have sl := x.sl
  rw [List.length_append] at sl
  have nd2 := List.nodup_append.mp x.fnd
  exact ⟨W', admit_ok x.ok hy hx y0 y1 up' hm (by omega), say', x.pl, by show 0 < hs'.length; omega, by show hs'.length + fs.length ≤ 12; omega, e1, fun z hz => by
    obtain ⟨z1, z2, z3⟩ := x.fr z (List.mem_append_left _ hz)
    exact ⟨fun m => ((hm z).mp m).elim (fun e => nd2.2.2 z hz y (List.mem_singleton.mpr rfl) e) z1, z2, z3⟩, nd2.1, e2, e3, by unfold ssAdm; split <;> (try rw [List.length_append]) <;> omega,
    f.at_ _ _ x.hsh (n (i := 1) rfl (by decide)), f.at_ _ _ x.hkl (n (i := 0) rfl (by decide)), x.s1.fr f sh1, x.s2.fr f sh2, x.I.adm x.ok hy hx hm, x.X1.adm x.ok x.I hy hm, x.X2.adm x.ok x.I hy hm, x.n1, x.n2, x.nd, x.o1, x.o2, x.dj, x.kl5, x.kz⟩
theorem LK.ask1 (x : LK CN CS fl an al sh kl A ks t H M nm ss fs S1 S2) : (∀ a ∈ S1.dk :: S1.L, a ∉ S1.still A an kl) ∧ (∀ a ∈ an :: kl :: S1.sl :: S1.s :: S1.li :: A.p :: A.tc :: A.all, (H a).isSome = true) ∧ [A.tp, kl, S1.sl, an, S1.li].Nodup := by
  refine ⟨fun a m => ?_, fun a m => x.som a ?_, nd_pick x.nd [21, 0, 6, 11, 7] (by decide)⟩
  · rcases List.mem_cons.mp m with e | e
    · rw [e]; exact x.off [11, 0, 6, 9, 7, 13, 14, 15, 16, 17, 18, 19, 20, 21] (i := 8) rfl (by decide)
    · exact fun z => x.o1 a e (by simp only [Shop.still, Ads.all, List.mem_cons, List.not_mem_nil, or_false] at z; rcases z with z | z | z | z | z | z | z | z | z | z | z | z | z | z <;> rw [z] <;> simp [kB])
  · simp only [Ads.all, List.mem_cons, List.not_mem_nil, or_false] at m
    rcases m with z | z | z | z | z | z | z | z | z | z | z | z | z | z <;> rw [z] <;> simp [kB]
theorem LK.ask2 (x : LK CN CS fl an al sh kl A ks t H M nm ss fs S1 S2) : (∀ a ∈ S2.dk :: S2.L, a ∉ S2.still A an kl) ∧ (∀ a ∈ an :: kl :: S2.sl :: S2.s :: S2.li :: A.p :: A.tc :: A.all, (H a).isSome = true) ∧ [A.tp, kl, S2.sl, an, S2.li].Nodup := by
  refine ⟨fun a m => ?_, fun a m => x.som a ?_, nd_pick x.nd [21, 0, 2, 11, 3] (by decide)⟩
  · rcases List.mem_cons.mp m with e | e
    · rw [e]; exact x.off [11, 0, 2, 5, 3, 13, 14, 15, 16, 17, 18, 19, 20, 21] (i := 4) rfl (by decide)
    · exact fun z => x.o2 a e (by simp only [Shop.still, Ads.all, List.mem_cons, List.not_mem_nil, or_false] at z; rcases z with z | z | z | z | z | z | z | z | z | z | z | z | z | z <;> rw [z] <;> simp [kB])
  · simp only [Ads.all, List.mem_cons, List.not_mem_nil, or_false] at m
    rcases m with z | z | z | z | z | z | z | z | z | z | z | z | z | z <;> rw [z] <;> simp [kB]
theorem LK.finds (x : LK CN CS fl an al sh kl A ks t H M nm ss fs S1 S2) : ∀ S, S = S1 ∨ S = S2 → ∀ h ∈ M.hs, ∀ k ∈ ks, nm h ∈ ss → Finds M nm S h k := fun S hS h hh k hk hs => by
  obtain ⟨z0, z1⟩ := x.kz k hk
  rcases hS with e | e <;> subst e
  · exact x.X1.finds x.ok x.I hh hs z0 z1
  · exact x.X2.finds x.ok x.I hh hs z0 z1
end
end RL
set_option synthInstance.maxHeartbeats 4000000
set_option synthInstance.maxSize 4000
namespace RL
def spLaw (K : PySem.W.Frag) : Sp := fun vs H Q _ => ∃ (a : Addr) (ns : List Int), vs = [.ref a] ∧ SqL K H a (ns.map V.int) ∧ ns.length ≤ 63 ∧ ∀ H', Q (.bl true) H'
section
variable {P : Program} {w : World} {K : PySem.W.Frag} {mg : Str → Option Value} {base : Heap} {CNet CMender CDesk CStore CWalk : Addr}
abbrev s_law : Stmt := top 56
theorem sc_law : FnScope ["script", "tape", "count", "room", "size", "places", "fresh", "houses", "nexts", "behinds", "post", "net", "names", "house", "single", "copies", "shops", "near", "hot", "keys", "k", "kind", "shop", "done", "place", "hosts"] ["script"] (defScope s_law) := ⟨rfl, rfl, rfl, by decide +kernel, rfl, by decide +kernel, by decide +kernel⟩
theorem cut_law_main {f : Addr} {cdv : Value} {A : Around} {outer : List Env} {s : Shared} {H : Hp} {E : XK} (G__law_pick : GF P w K mg base "_law_pick" 1 ["tape", "size"] spPick) (G__law_put : GF P w K mg base "_law_put" 7 ["tape", "nexts", "names", "shop", "keys", "k"] (spLawPut CStore CNet)) (m_len : mg "len" = none) (m_sorted : mg "sorted" = none) (G_Net_admit : GM P w K mg base CNet "admit" 2 ["self", "place", "host"] (spAdmit CNet)) (G__law_step : GF P w K mg base "_law_step" 7 ["tape", "net", "size", "nexts", "behinds", "post"] (spDeed CNet)) (G__law_stands : GF P w K mg base "_law_stands" 6 ["net", "size", "nexts", "behinds", "post"] (spStands CNet)) (G__law_found : GF P w K mg base "_law_found" 6 ["names", "single", "shop", "house", "key"] (spLawFound CStore CNet)) (T : NetT K CNet) (TSt : StoreT K CStore) (hr : Room 7 (A.deeper (PyProof.Rows.envOfC "law" (defScope s_law) s.heap.objs.size f cdv))) :
    ∃ t : TS, PSs (cxOf CX0 P w K mg base ["script", "tape", "count", "room", "size", "places", "fresh", "houses", "nexts", "behinds", "post", "net", "names", "house", "single", "copies", "shops", "near", "hot", "keys", "k", "kind", "shop", "done", "place", "hosts"] "law" (defScope s_law) f cdv A outer s H E).nox (sub1 (stAt (defBody s_law) 23)) t ∧ ∀ {nx bk ct : L2.St → Hp → Prop} {rt : VK}, ∀ {a lp fl lh an al sh kl : Addr} {A : Ads} {c r cp : Int} {ks : List Int} {i u : Nat} {H1 : Hp} {M : NS} {nm : Int → Int} {ss fs : List Int} {S1 S2 : Shop} {v13 v17 v18 v21 v22 v23 v24 v25 : Option V}, LK CNet CStore fl an al sh kl A ks u H1 M nm ss fs S1 S2 → u ≤ 50 → i ≤ 50 →
  (∀ {v13 v21 v22 v23 v24 v25 : Option V} {nm : Int → Int} {ss fs : List Int} {S1 S2 : Shop} {H' : Hp} (M' : NS), M'.size = M.size → LK CNet CStore fl an al sh kl A ks (u + 1) H' M' nm ss fs S1 S2 → nx [some (V.ref a), some (.ref A.tp), some (.int c), some (.int r), some (.int M.size), some (.ref lp), some (.ref fl), some (.ref lh), some (.ref A.dn), some (.ref A.dk), some (.ref A.dp), some (.ref A.p), some (.ref an), v13, some (.ref al), some (.int cp), some (.ref sh), v17, v18, some (.ref kl), some (.int (i : Int)), v21, v22, v23, v24, v25] H') →
  t ⟨nx, rt, bk, ct⟩ [some (V.ref a), some (.ref A.tp), some (.int c), some (.int r), some (.int M.size), some (.ref lp), some (.ref fl), some (.ref lh), some (.ref A.dn), some (.ref A.dk), some (.ref A.dp), some (.ref A.p), some (.ref an), v13, some (.ref al), some (.int cp), some (.ref sh), v17, v18, some (.ref kl), some (.int (i : Int)), v21, v22, v23, v24, v25] H1 := by
    refine ⟨_, (pss_cons (ps_set (i := 21) sc_law.nd rfl (Or.inl rfl) (c_fn G__law_pick (hr.mono (by decide)) (pa_cons (pv 1) (pa_cons pe_int pa_nil))))
      (pss_cons (ps_if (pt_cmpR op_lt (pv 21) pe_int (nomark _)) (pss_one (ps_set (i := 23) sc_law.nd rfl (Or.inl rfl) (c_fn G__law_put (hr.mono (by decide)) (pa_cons (pv 1) (pa_cons (pv 8) (pa_cons (pv 12) (pa_cons (pe_ix (ix_listK (K := K) rfl) (pv 16) (pe_op op_fdivW (c_fn G__law_pick (hr.mono (by decide)) (pa_cons (pv 1) (pa_cons pe_int pa_nil))) pe_int) (by intro _ _; rfl)) (pa_cons (pv 19) (pa_cons (pv 20) pa_nil))))))))) (pss_one (ps_if (PW.pt (pw_and (pt_cmpR op_eq (pv 21) pe_int (nomark _)) (pw_and1 (pt_cmpR op_gt (pe_callB (cb_lenSK (K := K) rfl) (by rfl) m_len b_len (pa_cons (pv 6) pa_nil)) pe_int (nomark _))))) (pss_cons (ps_set (i := 24) sc_law.nd rfl (Or.inl rfl) (pe_bm0K (K := K) rfl PySem.F.plainAttrs_list PySem.F.slot_list_pop PySem.F.type_list_pop mt_pop (pv 6)))
      (pss_cons (ps_set (i := 25) sc_law.nd rfl (Or.inl rfl) (pe_op op_cat (pe_callB (cb_sortD rfl) (by rfl) m_sorted b_sorted (pa_cons (pv 8) pa_nil)) (pe_lst (pa_cons (pv 24) pa_nil))))
      (pss_cons (ps_dput (hu_of hr) (pv 8) (pv 24) (pe_ix (ix_listK (K := K) rfl) (pv 25) (c_fn G__law_pick (hr.mono (by decide)) (pa_cons (pv 1) (pa_cons (pe_callB (cb_lenSK (K := K) rfl) (by rfl) m_len b_len (pa_cons (pv 25) pa_nil)) pa_nil))) (by intro _ _; rfl)) rfl)
      (pss_cons (ps_set (i := 23) sc_law.nd rfl (Or.inl rfl) (pe_cmpR op_isNn (c_mt G_Net_admit (hr.mono (by decide)) (pv 11) (pa_cons (pv 24) (pa_cons (pe_dget (hu_of hr) (pv 8) (pv 24) (by intro _ _; rfl)) pa_nil))) pe_non (nomark _)))
      (pss_one (ps_if (pt_cmpR op_eq (pe_dget (hu_of hr) (pv 8) (pv 24) (by intro _ _; rfl)) (pv 24) (nomark _)) (pss_cons (ps_expr (pe_bmK (K := K) rfl PySem.F.plainAttrs_list PySem.F.slot_list_append PySem.F.type_list_append mt_append (pv 14) (pa_cons (pv 24) pa_nil)))
      (pss_one (ps_dput (hu_of hr) (pv 12) (pv 24) (pv 24) rfl))) (pss_one (ps_dput (hu_of hr) (pv 12) (pv 24) (pe_dget (hu_of hr) (pv 12) (pe_dget (hu_of hr) (pv 8) (pv 24) (by intro _ _; rfl)) (by intro _ _; rfl)) rfl)))))))) (pss_one (ps_set (i := 23) sc_law.nd rfl (Or.inl rfl) (c_fn G__law_step (hr.mono (by decide)) (pa_cons (pv 1) (pa_cons (pv 11) (pa_cons (pv 4) (pa_cons (pv 8) (pa_cons (pv 9) (pa_cons (pv 10) pa_nil))))))))))))
      (pss_cons (ps_if (PW.pt (pw_or (pt_not (pt_val (pv 23))) (pw_or1 (pt_not (pt_val (c_fn G__law_stands (hr.mono (by decide)) (pa_cons (pv 11) (pa_cons (pv 4) (pa_cons (pv 8) (pa_cons (pv 9) (pa_cons (pv 10) pa_nil))))))))))) (pss_one (ps_ret pe_bl)) pss_nil)
      (pss_one (ps_for PassesOwn.never rfl (pi_listK (K := K) rfl (pv 16)) (pg_name (i := 22) sc_law.nd rfl (Or.inl rfl))
      (pss_cons (ps_set (i := 13) sc_law.nd rfl (Or.inl rfl) (pe_ix (ix_listK (K := K) rfl) (pe_callB (cb_sortD rfl) (by rfl) m_sorted b_sorted (pa_cons (pv 8) pa_nil)) (c_fn G__law_pick (hr.mono (by decide)) (pa_cons (pv 1) (pa_cons (pe_callB cb_lenD (by rfl) m_len b_len (pa_cons (pv 8) pa_nil)) pa_nil))) (by intro _ _; rfl)))
      (pss_one (ps_if (pt_not (pt_val (c_fn G__law_found (hr.mono (by decide)) (pa_cons (pv 12) (pa_cons (pv 14) (pa_cons (pv 22) (pa_cons (pv 13) (pa_cons (pe_ix (ix_listK (K := K) rfl) (pv 19) (c_fn G__law_pick (hr.mono (by decide)) (pa_cons (pv 1) (pa_cons pe_int pa_nil))) (by intro _ _; rfl)) pa_nil)))))))) (pss_one (ps_ret pe_bl)) pss_nil)))))))), ?_⟩
    (try simp only [cxK, cxKX, List.map])
    intro nx bk ct rt
    intro a lp fl lh an al sh kl A c r cp ks i u H1 M nm ss fs S1 S2 v13 v17 v18 v21 v22 v23 v24 v25 L ht hi kN
    have h0 := L.ok.s0
    have h1 := L.ok.s1
    have h45 := L.ok.hl
    k_offL
    refine i_pick L.W.tape (by decide) (by decide) fun kind H2 a2 b2 t2 f2 => ?_
    have La := L.pick t2 f2
    clear L t2 f2 a2 b2 H1
    k_places
    refine q_cut (fun σ' H' => ∃ (v24 v25 : Option V) (M' : NS) (nm : Int → Int) (ss fs : List Int) (S1 S2 : Shop), M'.size = M.size ∧ σ' = [some (V.ref a), some (.ref A.tp), some (.int c), some (.int r), some (.int M.size), some (.ref lp), some (.ref fl), some (.ref lh), some (.ref A.dn), some (.ref A.dk), some (.ref A.dp), some (.ref A.p), some (.ref an), v13, some (.ref al), some (.int cp), some (.ref sh), v17, v18, some (.ref kl), some (.int (i : Int)), some (.int kind), v22, some (.bl true), v24, v25] ∧ LK CNet CStore fl an al sh kl A ks (u + 1) H' M' nm ss fs S1 S2) (fun Nx kX => ?_) ?_
    · k_offL
      refine ifD (fun e => ?_) (fun e => ?_)
      · -- a value is put
        k_offL
        refine i_pick La.W.tape (by decide) (by decide) fun n H3 a3 b3 t3 f3 => ?_
        have L3 := La.pick t3 f3
        k_offL
        have n1 := L3.n1
        have n2 := L3.n2
        have kl5 := L3.kl5
        rcases (show n / 3 = 0 ∨ n / 3 = 1 by omega) with en | en
        · rw [en]
          refine r_ixL (sqL_of L3.hsh) (v := .ref S1.sl) rfl ?_
          k_offL
          obtain ⟨q1, q2, q3⟩ := L3.ask1
          refine ⟨A, M, an, kl, nm, ks, S1, i, (), (), (), (), (), rfl, L3.W, L3.ok, L3.pos, L3.nn, L3.hkl, by omega, by omega, L3.kz, L3.s1, by omega, by omega, q1, q2, q3, fun h key v first m L' H4 hh hk fl' vn F hL s' t4 f4 => ?_⟩
          k_offL
          exact kX _ _ ⟨_, _, M, nm, ss, fs, _, S2, rfl, rfl, L3.put1 hh fl' vn F hL s' t4 f4⟩
        · rw [en]
          refine r_ixL (sqL_of L3.hsh) (v := .ref S2.sl) rfl ?_
          k_offL
          obtain ⟨q1, q2, q3⟩ := L3.ask2
          refine ⟨A, M, an, kl, nm, ks, S2, i, (), (), (), (), (), rfl, L3.W, L3.ok, L3.pos, L3.nn, L3.hkl, by omega, by omega, L3.kz, L3.s2, by omega, by omega, q1, q2, q3, fun h key v first m L' H4 hh hk fl' vn F hL s' t4 f4 => ?_⟩
          k_offL
          exact kX _ _ ⟨_, _, M, nm, ss, fs, S1, _, rfl, rfl, L3.put2 hh fl' vn F hL s' t4 f4⟩
      · refine s_if ?_
        refine cutT (t := tAnd _ _) (fun b H' => H' = H2 ∧ (b = true → 0 < fs.length)) (fun R kR => ?_) ?_
        · k_offL
          refine ifD (fun e2 => ?_) (fun e2 => kR _ _ ⟨rfl, fun z => nomatch z⟩)
          have e1 := La.fh
          k_offL
          refine r_lenL (sqL_of e1) ?_
          rw [List.length_map]
          k_offL
          exact kR _ _ ⟨rfl, fun z => by have := of_decide_eq_true z; omega⟩
        rintro b Hb ⟨rfl, hb⟩
        cases b with
        | true =>
          obtain ⟨fs', y, rfl⟩ : ∃ fs' y, fs = fs' ++ [y] := ⟨fs.dropLast, fs.getLast (List.ne_nil_of_length_pos (hb rfl)), (List.dropLast_concat_getLast _).symm⟩
          obtain ⟨hyn, y0, y1⟩ := La.fr y (by simp)
          obtain ⟨hs', up', pm'⟩ := rise (y :: M.hs) (List.nodup_cons.mpr ⟨hyn, La.ok.nd⟩)
          have hm' : ∀ h, h ∈ hs' ↔ h = y ∨ h ∈ M.hs := fun h => by rw [pm'.mem_iff, List.mem_cons]
          have hl' : hs'.length = M.hs.length + 1 := by rw [pm'.length_eq, List.length_cons]
          have cnt := La.cnt
          rw [List.length_append] at cnt
          have cnt1 : [y].length = 1 := rfl
          have e0 := La.fh
          have nd := La.nd
          k_offL
          refine r_pop0 e0 (y := .int y) (by simp) fun H3 e3 f3 => ?_
          rw [List.map_append, show [y].map V.int = [V.int y] from rfl, List.dropLast_concat] at e3
          have bo : ∀ {i : Nat} {x : Addr}, (kB fl an al sh kl S1 S2 A)[i]? = some x → i < 13 → ∀ y ∈ A.p :: A.tc :: A.all, y ∉ [x] := fun hi hlt y hy z => La.off [13, 14, 15, 16, 17, 18, 19, 20, 21] hi (by simp; omega) (List.mem_singleton.mp z ▸ hy)
          have ne1 : ∀ (js : List Nat) {i : Nat} {x : Addr}, (kB fl an al sh kl S1 S2 A)[i]? = some x → i ∉ js → x ∉ js.filterMap (fun j => (kB fl an al sh kl S1 S2 A)[j]?) := fun js {i x} hi hj => La.off js hi hj
          have W3 := La.W.frn f3 (bo (i := 12) rfl (by decide))
          obtain ⟨kv, han, dan⟩ := La.nmx
          have hal := La.hal
          have han3 := f3.at_ _ _ han (ne1 [12] (i := 11) rfl (by decide))
          have hal3 := f3.at_ _ _ hal (ne1 [12] (i := 10) rfl (by decide))
          obtain ⟨kn, hn, dN⟩ := W3.tab.nx
          k_offL
          refine r_sortD (.inl hn) dN La.ok.ascF (by omega) fun l4 H4 n4 e4 f4 => ?_
          k_offL
          refine lstk (by show 1 ≤ 100000; decide) fun l5 H5 n5 e5 f5 => ?_
          k_offL
          have f35 := f4.trans f5
          refine r_cat (f5.at_ _ _ e4 List.not_mem_nil) e5 (by rw [List.length_map]; show _ + 1 ≤ _; omega) fun lq H6 n6 e6 f6 => ?_
          rw [show M.hs.map V.int ++ [V.int y] = (M.hs ++ [y]).map V.int by rw [List.map_append]; rfl] at e6
          have f36 := f35.trans f6
          have W5 := W3.ex0 f35
          have W6 := W3.ex0 f36
          have lq_base := none_off W5.somes n6
          have lq_tp : lq ≠ A.tp := fun z => lq_base (by rw [z]; simp [Ads.all])
          have han6 := f36.at_ _ _ han3 List.not_mem_nil
          have hal6 := f36.at_ _ _ hal3 List.not_mem_nil
          have e36 := f36.at_ _ _ e3 List.not_mem_nil
          clear hn dN kn e4 e5 n4 n5 n6 W5
          have hlh : (M.hs ++ [y]).length = M.hs.length + 1 := by rw [List.length_append]; rfl
          k_offL
          refine r_lenL (sqL_of e6) ?_
          rw [List.length_map]
          k_offL
          refine i_pick W6.tape (by omega) (by omega) fun m7 H7 a7 b7 t7 f7 => ?_
          have W7 := W6.tape' f7 t7
          have g7 : m7.toNat < (M.hs ++ [y]).length := by omega
          refine r_ixL (sqL_of (f7.at_ _ _ e6 (mem_one lq_tp))) (ix_at m7.toNat (by omega) (ints_get g7)) ?_
          have hx := List.getElem_mem g7
          revert hx
          generalize (M.hs ++ [y])[m7.toNat] = x
          intro hx
          have hx' : x = y ∨ x ∈ M.hs := by
            rcases List.mem_append.mp hx with z | z
            · exact .inr z
            · exact .inl (List.mem_singleton.mp z)
          clear g7 a7 b7 hx
          have han7 := f7.at_ _ _ han6 (ne1 [21] (i := 11) rfl (by decide))
          have hal7 := f7.at_ _ _ hal6 (ne1 [21] (i := 10) rfl (by decide))
          have e37 := f7.at_ _ _ e36 (ne1 [21] (i := 12) rfl (by decide))
          obtain ⟨kn, hn, dN⟩ := W7.tab.nx
          obtain ⟨kb, hkb, dB⟩ := W7.tab.bf
          obtain ⟨lv, hl, ls⟩ := W7.tab.ls
          have dn_dk := W7.tab.ne
          obtain ⟨dn_dp, dk_dp, _⟩ := W7.ne
          k_offL
          refine dputk hn (La.ok.knl dN) fun H8 e8 f8 => ?_
          have T8 : TabAt H8 A.dn A.dk A.dp (M.admit y x hs') := ⟨⟨_, e8, dN.put.cong fun h => by
            unfold NS.mf
            show (if h = y then _ else _) = if h ∈ hs' then some (V.int (if h = y then x else M.f h)) else none
            by_cases e : h = y
            · rw [if_pos e, if_pos ((hm' h).mpr (.inl e)), if_pos e]
            · rw [if_neg e, if_neg e]
              by_cases m : h ∈ M.hs
              · rw [if_pos m, if_pos ((hm' h).mpr (.inr m))]
              · rw [if_neg m, if_neg fun z => ((hm' h).mp z).elim e m]⟩, ⟨kb, f8.at_ _ _ hkb (mem_one dn_dk.symm), dB⟩, ⟨lv, f8.at_ _ _ hl (mem_one dn_dp.symm), ls.fr f8⟩, dn_dk⟩
          have f8' : Fr [A.dn, A.dk, A.dp] H7 H8 := f8.mono fun a h => by simp at h; simp [h]
          have W8 := W7.tab' f8' T8
          have han8 := f8.at_ _ _ han7 (ne1 [18] (i := 11) rfl (by decide))
          have hal8 := f8.at_ _ _ hal7 (ne1 [18] (i := 10) rfl (by decide))
          have e38 := f8.at_ _ _ e37 (ne1 [18] (i := 12) rfl (by decide))
          obtain ⟨dx8, hp8⟩ := W8.net.ob
          have vx := dN.put (n := y) (v := V.int x)
          k_offL
          refine dgetk (.inl e8) (by rw [vx.val]; exact if_pos rfl) ?_
          k_offL
          refine ⟨A.p, A.da, A.db, A.dl, M, y, x, rfl, W8.net, hyn, hx', y0, y1, La.ok, fun H9 hN9 f9 => ?_⟩
          have f9' : Fr [A.da, A.db, A.dl] H8 H9 := f9.mono fun a h => by simp at h; rcases h with h | h <;> simp [h]
          have W9 := W8.net' f9' (hN9 hs' hm')
          have e89 : H9 A.dn = _ := f9.at_ _ _ e8 (ne1 [15, 16] (i := 18) rfl (by decide))
          have han9 := f9.at_ _ _ han8 (ne1 [15, 16] (i := 11) rfl (by decide))
          have hal9 := f9.at_ _ _ hal8 (ne1 [15, 16] (i := 10) rfl (by decide))
          have e39 := f9.at_ _ _ e38 (ne1 [15, 16] (i := 12) rfl (by decide))
          have sub : ∀ {G : List Addr}, (∀ a ∈ G, a ∈ fl :: an :: al :: A.all) → ∀ {h h' : Hp}, Fr G h h' → Fr (fl :: an :: al :: A.all) h h' := by intro G hG h h' f; exact f.mono hG
          have f29 : Fr (fl :: an :: al :: A.all) Hb H9 := ((sub (by simp) f3).trans f36.up).trans (((sub (by simp [Ads.all]) f7).trans (sub (by simp [Ads.all]) f8)).trans (sub (by simp [Ads.all]) f9))
          have kvl : kv.length ≤ 100000 := by have := dan.len (mfOf_asc La.ok.up); omega
          have ssl := La.sl
          clear W3 W6 W7 W8 T8 han3 hal3 han6 hal6 han7 hal7 e36 e37 e38 han8 hal8 hn hkb hl ls dB hp8 hN9 e8
          k_offL
          rw [show decide (V.non = V.non) = true from decide_eq_true rfl]
          k_offL
          refine dgetk (.inl e89) (by rw [vx.val]; exact if_pos rfl) ?_
          k_offL
          refine ifD (fun ex => ?_) (fun ex => ?_)
          · k_offL
            refine r_app hal9 (by rw [List.length_map]; omega) fun H10 e10 f10 => ?_
            have han10 := f10.at_ _ _ han9 (ne1 [10] (i := 11) rfl (by decide))
            k_offL
            refine dputk han10 kvl fun H11 e11 f11 => ?_
            have W11 := (W9.frn f10 (bo (i := 10) rfl (by decide))).frn f11 (bo (i := 11) rfl (by decide))
            have q := La.adm hx' up' hm' hl' ((f29.trans (sub (by simp) f10)).trans (sub (by simp) f11)) W11 (f11.at_ _ _ (f10.at_ _ _ e39 (ne1 [10] (i := 12) rfl (by decide))) (ne1 [11] (i := 12) rfl (by decide))) ⟨_, e11, dan.put.cong fun h => by
              unfold mfOf nmAdm
              by_cases e : h = y
              · rw [if_pos e, if_pos ((hm' h).mpr (.inl e)), if_pos e, if_pos ex]
              · rw [if_neg e, if_neg e]
                by_cases m : h ∈ M.hs
                · rw [if_pos m, if_pos ((hm' h).mpr (.inr m))]
                · rw [if_neg m, if_neg fun z => ((hm' h).mp z).elim e m]⟩ (by rw [f11.at_ _ _ e10 (ne1 [11] (i := 10) rfl (by decide))]; unfold ssAdm; rw [if_pos ex, List.map_append]; rfl)
            exact kX _ _ ⟨_, _, M.admit y x hs', _, _, fs', S1, S2, rfl, rfl, q.up (by omega)⟩
          · k_offL
            refine dgetk (.inl e89) (by rw [vx.val]; exact if_pos rfl) ?_
            k_offL
            refine dgetk (.inl han9) (by rw [dan.val, mfOf_at (hx'.resolve_left ex)]) ?_
            k_offL
            refine dputk han9 kvl fun H11 e11 f11 => ?_
            have W11 := W9.frn f11 (bo (i := 11) rfl (by decide))
            have q := La.adm hx' up' hm' hl' (f29.trans (sub (by simp) f11)) W11 (f11.at_ _ _ e39 (ne1 [11] (i := 12) rfl (by decide))) ⟨_, e11, dan.put.cong fun h => by
              unfold mfOf nmAdm
              by_cases e : h = y
              · rw [if_pos e, if_pos ((hm' h).mpr (.inl e)), if_pos e, if_neg ex]
              · rw [if_neg e, if_neg e]
                by_cases m : h ∈ M.hs
                · rw [if_pos m, if_pos ((hm' h).mpr (.inr m))]
                · rw [if_neg m, if_neg fun z => ((hm' h).mp z).elim e m]⟩ (by rw [f11.at_ _ _ hal9 (ne1 [11] (i := 10) rfl (by decide))]; unfold ssAdm; rw [if_neg ex])
            exact kX _ _ ⟨_, _, M.admit y x hs', _, _, fs', S1, S2, rfl, rfl, q.up (by omega)⟩
        | false =>
          k_offL
          refine ⟨A, M, (), (), rfl, La.W, La.ok, La.pos, La.pl, fun N' H3 st pl W' f3 => ?_⟩
          k_offL
          exact kX _ _ ⟨_, _, N', nm, ss, fs, S1, S2, st.same.2, rfl, (La.net f3 (fun _ h => h) W' st pl).up (by omega)⟩
    clear La h45 H2 hi
    rintro _ H2 ⟨v24, v25, M', nm, ss, fs, S1, S2, hz, rfl, L⟩
    obtain ⟨dx, hp⟩ := L.W.net.ob
    k_offL
    refine ⟨A.p, A.da, A.db, A.dl, A.dn, A.dk, A.dp, M', by rw [hz], L.W.net, L.W.tab, L.ok, fun H3 f3 => ?_⟩
    have L3 := L.ex0 f3
    clear L hp dx
    k_offL
    have hlen := L3.ok.hl
    refine ⟨sh, rfl, ⟨_, sqL_of L3.hsh⟩, loopL [.ref S1.sl, .ref S2.sl] (fun _ σ' H' => ∃ (v13 v22 : Option V), σ' = [some (V.ref a), some (.ref A.tp), some (.int c), some (.int r), some (.int M.size), some (.ref lp), some (.ref fl), some (.ref lh), some (.ref A.dn), some (.ref A.dk), some (.ref A.dp), some (.ref A.p), some (.ref an), v13, some (.ref al), some (.int cp), some (.ref sh), v17, v18, some (.ref kl), some (.int (i : Int)), some (.int kind), v22, some (.bl true), v24, v25] ∧ LK CNet CStore fl an al sh kl A ks (u + 1) H' M' nm ss fs S1 S2)
      ⟨_, _, rfl, L3⟩ (fun _ σ' H' _ ⟨_, _, _, X⟩ => sqL_of X.hsh) ?_ ?_⟩
    · rintro j x σ' H4 hj ⟨v13, v22, rfl, L4⟩
      obtain ⟨S, hS, rfl⟩ : ∃ S, (S = S1 ∨ S = S2) ∧ x = .ref S.sl := by
        match j, hj with
        | 0, hj => exact ⟨S1, .inl rfl, (Option.some.inj hj).symm⟩
        | 1, hj => exact ⟨S2, .inr rfl, (Option.some.inj hj).symm⟩
        | j + 2, hj => simp at hj
      have shS : ∀ {H'}, LK CNet CStore fl an al sh kl A ks (u + 1) H' M' nm ss fs S1 S2 → ShAt CStore H' A.p S := fun X => by
        rcases hS with e | e <;> subst e
        · exact X.s1
        · exact X.s2
      obtain ⟨kn, hn, dN⟩ := L4.W.tab.nx
      k_offL
      refine r_sortD (.inl hn) dN L4.ok.ascF (by omega) fun l5 H5 n5 e5 f5 => ?_
      have L5 := L4.ex0 f5
      have l5_tp : l5 ≠ A.tp := by obtain ⟨_, _, _, _, _, tt, _⟩ := L4.W.tape.ex; exact (ne_of_none tt n5).symm
      k_offL
      refine r_lenD (.inl (f5.at_ _ _ hn List.not_mem_nil)) ?_
      rw [dN.len L4.ok.ascF]
      have hpos := L4.pos
      k_offL
      refine i_pick L5.W.tape (by omega) (by omega) fun m6 H6 a6 b6 t6 f6 => ?_
      have g6 : m6.toNat < M'.hs.length := by omega
      refine r_ixL (sqL_of (f6.at_ _ _ e5 (mem_one l5_tp))) (ix_at m6.toNat (by omega) (ints_get g6)) ?_
      have hh := List.getElem_mem g6
      revert hh
      generalize M'.hs[m6.toNat] = h
      intro hh
      have L6 := L5.pick t6 f6
      k_offL
      refine i_pick L6.W.tape (by decide) (by decide) fun m7 H7 a7 b7 t7 f7 => ?_
      have L7 := L6.pick t7 f7
      have kl5 := L7.kl5
      have g7 : m7.toNat < ks.length := by omega
      refine r_ixL (sqL_of L7.hkl) (ix_at m7.toNat (by omega) (ints_get g7)) ?_
      have hk := List.getElem_mem g7
      revert hk
      generalize ks[m7.toNat] = key
      intro hk
      obtain ⟨z0, z1⟩ := L7.kz key hk
      k_offL
      refine ⟨A.p, A.da, A.db, A.dl, an, al, M', nm, ss, S, h, key, rfl, L7.W.net, L7.ok, L7.nn, L7.hal, shS L7, hh, z0, z1, L7.finds S hS h hh key hk, fun H8 f8 => ?_⟩
      k_offL
      exact ⟨_, _, rfl, L7.ex0 f8⟩
    · rintro σ' H4 ⟨v13, v22, rfl, L4⟩
      k_offL
      exact kN M' hz L4
theorem cut_law_fin {f : Addr} {cdv : Value} {A : Around} {outer : List Env} {s : Shared} {H : Hp} {E : XK} (G__law_found_all : GF P w K mg base "_law_found_all" 7 ["names", "single", "shop", "keys"] (spFoundAll CStore CNet)) (G__law_stands : GF P w K mg base "_law_stands" 6 ["net", "size", "nexts", "behinds", "post"] (spStands CNet)) (T : NetT K CNet) (TSt : StoreT K CStore) (hr : Room 7 (A.deeper (PyProof.Rows.envOfC "law" (defScope s_law) s.heap.objs.size f cdv))) :
    ∃ t : TS, PSs (cxOf CX0 P w K mg base ["script", "tape", "count", "room", "size", "places", "fresh", "houses", "nexts", "behinds", "post", "net", "names", "house", "single", "copies", "shops", "near", "hot", "keys", "k", "kind", "shop", "done", "place", "hosts"] "law" (defScope s_law) f cdv A outer s H E).nox (List.drop 24 (defBody s_law)) t ∧ ∀ {nx bk ct : L2.St → Hp → Prop} {rt : VK}, ∀ {a lp fl lh an al sh kl : Addr} {A : Ads} {c r cp : Int} {ks : List Int} {u : Nat} {H1 : Hp} {M : NS} {nm : Int → Int} {ss fs : List Int} {S1 S2 : Shop} {v13 v17 v18 v20 v21 v22 v23 v24 v25 : Option V}, LK CNet CStore fl an al sh kl A ks u H1 M nm ss fs S1 S2 → (∀ H', rt (.bl true) H') →
  t ⟨nx, rt, bk, ct⟩ [some (V.ref a), some (.ref A.tp), some (.int c), some (.int r), some (.int M.size), some (.ref lp), some (.ref fl), some (.ref lh), some (.ref A.dn), some (.ref A.dk), some (.ref A.dp), some (.ref A.p), some (.ref an), v13, some (.ref al), some (.int cp), some (.ref sh), v17, v18, some (.ref kl), v20, v21, v22, v23, v24, v25] H1 := by
    refine ⟨_, (pss_cons (ps_for PassesOwn.never rfl (pi_listK (K := K) rfl (pv 16)) (pg_name (i := 22) sc_law.nd rfl (Or.inl rfl))
      (pss_one (ps_if (pt_not (pt_val (c_fn G__law_found_all (hr.mono (by decide)) (pa_cons (pv 12) (pa_cons (pv 14) (pa_cons (pv 22) (pa_cons (pv 19) pa_nil))))))) (pss_one (ps_ret pe_bl)) pss_nil)))
      (pss_one (ps_ret (c_fn G__law_stands (hr.mono (by decide)) (pa_cons (pv 11) (pa_cons (pv 4) (pa_cons (pv 8) (pa_cons (pv 9) (pa_cons (pv 10) pa_nil))))))))), ?_⟩
    (try simp only [cxK, cxKX, List.map])
    intro nx bk ct rt
    intro a lp fl lh an al sh kl A c r cp ks u H1 M nm ss fs S1 S2 v13 v17 v18 v20 v21 v22 v23 v24 v25 L k
    k_offL
    refine loopLF (M := []) [.ref S1.sl, .ref S2.sl] (sqL_of L.hsh) List.not_mem_nil (fun _ σ' H' => (∃ v22 : Option V, σ' = [some (V.ref a), some (.ref A.tp), some (.int c), some (.int r), some (.int M.size), some (.ref lp), some (.ref fl), some (.ref lh), some (.ref A.dn), some (.ref A.dk), some (.ref A.dp), some (.ref A.p), some (.ref an), v13, some (.ref al), some (.int cp), some (.ref sh), v17, v18, some (.ref kl), v20, v21, v22, v23, v24, v25]) ∧ Fr [] H1 H') ⟨⟨_, rfl⟩, Fr.refl _ _⟩ (fun i σ' H' p => p.2) ?_ ?_
    · rintro j x σ' H4 hj ⟨⟨v22, rfl⟩, f4⟩
      obtain ⟨S, hS, rfl⟩ : ∃ S, (S = S1 ∨ S = S2) ∧ x = .ref S.sl := by
        match j, hj with
        | 0, hj => exact ⟨S1, .inl rfl, (Option.some.inj hj).symm⟩
        | 1, hj => exact ⟨S2, .inr rfl, (Option.some.inj hj).symm⟩
        | j + 2, hj => simp at hj
      have L4 := L.ex0 f4
      have sS : ShAt CStore H4 A.p S := by
        rcases hS with e | e <;> subst e
        · exact L4.s1
        · exact L4.s2
      k_offL
      refine ⟨A.p, A.da, A.db, A.dl, an, al, kl, M, nm, ss, ks, S, (), rfl, L4.W.net, L4.ok, L4.nn, L4.hal, L4.hkl, sS, L4.kz, L4.finds S hS, fun H5 f5 => ?_⟩
      k_offL
      exact ⟨⟨_, rfl⟩, f4.trans f5⟩
    · rintro σ' H2 ⟨⟨v22, rfl⟩, f2⟩
      have W := (L.ex0 f2).W
      k_offL
      exact ⟨A.p, A.da, A.db, A.dl, A.dn, A.dk, A.dp, M, rfl, W.net, W.tab, L.ok, fun H3 f3 => k H3⟩
theorem cut_law_mid {f : Addr} {cdv : Value} {A : Around} {outer : List Env} {s : Shared} {H : Hp} {E : XK} (G__law_root : GF P w K mg base "_law_root" 2 ["nexts", "house"] spRoot) (G__law_turns : GF P w K mg base "_law_turns" 2 ["size", "nexts", "house"] spTurns) (G__law_pick : GF P w K mg base "_law_pick" 1 ["tape", "size"] spPick) (N_Store_p1 : GC P w K mg base CStore "Store" 1 ["self", "net", "copies"] 1 [] (fun vs zs => vs ++ [V.int 1]) (spStoreInit CStore)) (N_Store_p2 : GC P w K mg base CStore "Store" 1 ["self", "net", "copies"] 2 [] (fun vs zs => vs) (spStoreInit CStore)) (m_len : mg "len" = none) (m_int : mg "int" = none) (m_range : mg "range" = none) (G__law_put : GF P w K mg base "_law_put" 7 ["tape", "nexts", "names", "shop", "keys", "k"] (spLawPut CStore CNet)) (m_sorted : mg "sorted" = none) (G_Net_admit : GM P w K mg base CNet "admit" 2 ["self", "place", "host"] (spAdmit CNet)) (G__law_step : GF P w K mg base "_law_step" 7 ["tape", "net", "size", "nexts", "behinds", "post"] (spDeed CNet)) (G__law_stands : GF P w K mg base "_law_stands" 6 ["net", "size", "nexts", "behinds", "post"] (spStands CNet)) (G__law_found : GF P w K mg base "_law_found" 6 ["names", "single", "shop", "house", "key"] (spLawFound CStore CNet)) (G__law_found_all : GF P w K mg base "_law_found_all" 7 ["names", "single", "shop", "keys"] (spFoundAll CStore CNet)) (T : NetT K CNet) (TSt : StoreT K CStore) (hr : Room 7 (A.deeper (PyProof.Rows.envOfC "law" (defScope s_law) s.heap.objs.size f cdv))) :
    ∃ t : TS, PSs (cxOf CX0 P w K mg base ["script", "tape", "count", "room", "size", "places", "fresh", "houses", "nexts", "behinds", "post", "net", "names", "house", "single", "copies", "shops", "near", "hot", "keys", "k", "kind", "shop", "done", "place", "hosts"] "law" (defScope s_law) f cdv A outer s H E).nox (List.drop 14 (defBody s_law)) t ∧ ∀ {nx bk ct : L2.St → Hp → Prop} {rt : VK}, ∀ {a lp fl lh : Addr} {A : Ads} {c r : Int} {H1 : Hp} {N : NS} {hp fs ps : List Int}, WW CNet H1 A N N → N.Ok → N.Say → N.post.length ≤ 60 → 0 < N.hs.length → N.hs.length ≤ 6 → H1 fl = some (.lst (fs.map V.int)) → (∀ x ∈ fs, x ∉ N.hs ∧ 0 ≤ x ∧ x < N.size) → fs.Nodup → (fs.length : Int) = r → 1 ≤ r ∧ r ≤ 3 →
  H1 lh = some (.lst (hp.map V.int)) → (∀ x, x ∈ hp ↔ x ∈ N.hs) → hp.length ≤ 6 → H1 lp = some (.lst (ps.map V.int)) → 0 < ps.length → ps.length ≤ 20 → (∀ x ∈ ps, 0 ≤ x ∧ x < N.size) → fl ∉ A.p :: A.tc :: A.all → lh ≠ A.tp → lp ≠ A.tp → (∀ H', rt (.bl true) H') →
  t ⟨nx, rt, bk, ct⟩ [some (V.ref a), some (.ref A.tp), some (.int c), some (.int r), some (.int N.size), some (.ref lp), some (.ref fl), some (.ref lh), some (.ref A.dn), some (.ref A.dk), some (.ref A.dp), some (.ref A.p), none, none, none, none, none, none, none, none, none, none, none, none, none, none] H1 := by
    obtain ⟨t_main, d_main, c_main⟩ := cut_law_main (w := w) (f := f) (cdv := cdv) (A := A) (outer := outer) (s := s) (H := H) (E := E) G__law_pick G__law_put m_len m_sorted G_Net_admit G__law_step G__law_stands G__law_found T TSt (hr.mono (by decide))
    obtain ⟨t_fin, d_fin, c_fin⟩ := cut_law_fin (w := w) (f := f) (cdv := cdv) (A := A) (outer := outer) (s := s) (H := H) (E := E) G__law_found_all G__law_stands T TSt (hr.mono (by decide))
    refine ⟨_, (pss_cons (ps_set (i := 12) sc_law.nd rfl (Or.inr rfl) pe_dnewK)
      (pss_cons (ps_for PassesOwn.never rfl (pi_listK (K := K) rfl (pv 7)) (pg_name (i := 13) sc_law.nd rfl (Or.inl rfl))
      (pss_one (ps_dput (hu_of hr) (pv 12) (pv 13) (c_fn G__law_root (hr.mono (by decide)) (pa_cons (pv 8) (pa_cons (pv 13) pa_nil))) rfl)))
      (pss_cons (ps_setLc (i := 14) (own := [("house", 13)]) (g := gName 13) rfl sc_law.nd rfl rfl (sw_true rfl rfl rfl (by decide +kernel)) (pi_listK (K := K) rfl (pv 7)) (blkOk_by (N := ["script", "tape", "count", "room", "size", "places", "fresh", "houses", "nexts", "behinds", "post", "net", "names", "house", "single", "copies", "shops", "near", "hot", "keys", "k", "kind", "shop", "done", "place", "hosts"]) (sc := defScope s_law) (by decide +kernel)) (fun _ _ _ _ _ => (pg_name (i := 13) sc_law.nd rfl (Or.inl rfl))) (fun _ _ _ _ _ => pts_one (PW.pt (pw_and (pt_cmpR op_eq (pe_dget (hu_of hr) (pv 12) (pv 13) (by intro _ _; rfl)) (pv 13) (nomark _)) (pw_and1 (pt_cmpR op_eq (c_fn G__law_turns (hr.mono (by decide)) (pa_cons (pv 4) (pa_cons (pv 8) (pa_cons (pv 13) pa_nil)))) pe_int (nomark _)))))) (fun _ _ _ _ _ => (pv 13)))
      (pss_cons (ps_set (i := 15) sc_law.nd rfl (Or.inl rfl) (pe_op op_add pe_int (c_fn G__law_pick (hr.mono (by decide)) (pa_cons (pv 1) (pa_cons pe_int pa_nil)))))
      (pss_cons (ps_if (pt_cmpR op_eq (c_fn G__law_pick (hr.mono (by decide)) (pa_cons (pv 1) (pa_cons pe_int pa_nil))) pe_int (nomark _)) (pss_one (ps_set (i := 15) sc_law.nd rfl (Or.inl rfl) (pe_op op_add pe_int (c_fn G__law_pick (hr.mono (by decide)) (pa_cons (pv 1) (pa_cons pe_int pa_nil)))))) pss_nil)
      (pss_cons (ps_set (i := 16) sc_law.nd rfl (Or.inl rfl) (pe_lst (pa_cons (pe_lst (pa_cons (c_mk N_Store_p2 (hr.mono (by decide)) (pa_cons (pv 11) (pa_cons (pv 15) pa_nil)) pk_nil) (pa_cons (pv 15) (pa_cons pe_dnewT pa_nil)))) (pa_cons (pe_lst (pa_cons (c_mk N_Store_p1 (hr.mono (by decide)) (pa_cons (pv 11) pa_nil) pk_nil) (pa_cons pe_int (pa_cons pe_dnewT pa_nil)))) pa_nil))))
      (pss_cons (ps_set (i := 17) sc_law.nd rfl (Or.inl rfl) (pe_ix (ix_listK (K := K) rfl) (pv 5) (c_fn G__law_pick (hr.mono (by decide)) (pa_cons (pv 1) (pa_cons (pe_callB (cb_lenSK (K := K) rfl) (by rfl) m_len b_len (pa_cons (pv 5) pa_nil)) pa_nil))) (by intro _ _; rfl)))
      (pss_cons (ps_set (i := 18) sc_law.nd rfl (Or.inl rfl) (pe_op op_mod (pe_callTy cb_int (by rfl) m_int b_int (pa_cons (pe_op op_sub (pe_ix (ix_listK (K := K) rfl) (pv 6) (c_fn G__law_pick (hr.mono (by decide)) (pa_cons (pv 1) (pa_cons (pv 3) pa_nil))) (by intro _ _; rfl)) (c_fn G__law_pick (hr.mono (by decide)) (pa_cons (pv 1) (pa_cons pe_int pa_nil)))) pa_nil)) (pv 4)))
      (pss_cons (ps_set (i := 19) sc_law.nd rfl (Or.inl rfl) (pe_lst (pa_cons (pv 18) (pa_cons (pv 18) (pa_cons (pv 17) (pa_cons (pe_op op_mod (pe_callTy cb_int (by rfl) m_int b_int (pa_cons (pe_op op_sub (pv 17) pe_int) pa_nil)) (pv 4)) (pa_cons (c_fn G__law_pick (hr.mono (by decide)) (pa_cons (pv 1) (pa_cons (pv 4) pa_nil))) pa_nil)))))))
      (pss_cons (ps_for PassesOwn.never rfl (pi_range1 (by rfl) m_range (pa_cons (pe_op op_add pe_int (c_fn G__law_pick (hr.mono (by decide)) (pa_cons (pv 1) (pa_cons pe_int pa_nil)))) pa_nil)) (pg_name (i := 20) sc_law.nd rfl (Or.inl rfl))
      d_main)
      d_fin)))))))))), ?_⟩
    (try simp only [cxK, cxKX, List.map])
    intro nx bk ct rt
    intro a lp fl lh A c r H1 N hp fs ps W ok say pl pos h6 hfl hfr fnd lfs lr hlh hpN hpl hlp ps0 ps20 psz fl_off lh_tp lp_tp k
    have h0 := ok.s0
    have h1 := ok.s1
    obtain ⟨lr1, lr3⟩ := lr
    k_offL
    refine newk fun an H2 n2 e2 f2 => ?_
    have W2 := W.ex0 f2
    have an_base := none_off (som_cons hfl (som_cons hlh (som_cons hlp W.somes))) n2
    have lh_an : lh ≠ an := fun z => an_base (by rw [z]; simp)
    have hlh2 := f2.at_ _ _ hlh List.not_mem_nil
    obtain ⟨kn2, hn2, dN2⟩ := W2.tab.nx
    have nx2 := NS.nxAt ok hn2 dN2
    have an_dn : A.dn ≠ an := fun z => an_base (by rw [← z]; simp [Ads.all])
    k_offL
    refine loopLF (M := [an]) (hp.map V.int) (sqL_of hlh2) (mem_one lh_an) (fun i σ' H' => ∃ (v13 : Option V) (kvs : List (Key × V)) (g : Int → Int), σ' = [some (V.ref a), some (.ref A.tp), some (.int c), some (.int r), some (.int N.size), some (.ref lp), some (.ref fl), some (.ref lh), some (.ref A.dn), some (.ref A.dk), some (.ref A.dp), some (.ref A.p), some (.ref an), v13, none, none, none, none, none, none, none, none, none, none, none, none] ∧ H' an = some (.dK kvs) ∧ DOk kvs (mfOf (hp.take i) g) ∧ (∀ h ∈ hp.take i, RootOf N.hs N.f h (g h)) ∧ kvs.length ≤ i ∧ Fr [an] H2 H')
      ⟨_, [], fun _ => 0, rfl, e2, DOk.nil.cong fun n => by rw [List.take_zero]; rfl, (fun h m => by rw [List.take_zero] at m; cases m), Nat.le_refl _, Fr.refl _ _⟩ (fun i σ' H' ⟨_, _, _, _, _, _, _, _, f⟩ => f) ?_ ?_
    · rintro i x σ' H3 hi ⟨v13, kvs, g, rfl, e3, dg, hg, hkl, f3⟩
      obtain ⟨h, hh, hm, rfl⟩ := mem_ints hi
      have i6 : i < hp.length := (List.getElem?_eq_some_iff.mp hh).1
      k_offL
      refine ⟨A.dn, N.hs, N.f, h, (), rfl, nx2.fr f3 (mem_one an_dn), (hpN h).mp hm, by omega, fun q m H4 per hmm hr hmin f4 => ?_⟩
      k_offL
      refine dputk (f4.at_ _ _ e3 List.not_mem_nil) (by omega) fun H5 e5 f5 => ?_
      refine ⟨_, _, fun x => if x = h then q else g x, rfl, e5, dg.put.cong fun n => ?_, fun x hx => ?_, by have := putK_len1 kvs (.inl h) (.int q); omega, f3.trans (f4.up.trans f5)⟩
      · unfold mfOf
        rw [take_snoc hh]
        show _ = if n ∈ hp.take i ++ [h] then some (V.int (if n = h then q else g n)) else none
        by_cases e : n = h
        · rw [if_pos e, if_pos (List.mem_append_right _ (List.mem_singleton.mpr e)), if_pos e]
        · rw [if_neg e, if_neg e]
          by_cases m : n ∈ hp.take i
          · rw [if_pos m, if_pos (List.mem_append_left _ m)]
          · rw [if_neg m, if_neg fun z => (List.mem_append.mp z).elim m fun z => e (List.mem_singleton.mp z)]
      · show RootOf N.hs N.f x (if x = h then q else g x)
        rw [take_snoc hh] at hx
        by_cases e : x = h
        · rw [if_pos e, e]; exact ⟨m, per, hr, hmin⟩
        · rw [if_neg e]
          exact hg x ((List.mem_append.mp hx).resolve_right fun z => e (List.mem_singleton.mp z))
    rintro σ' H3 ⟨v13, kvs, nm, rfl, e3, dg, hg, hkl, f3⟩
    rw [List.length_map, List.take_length] at dg hg
    have dg : DOk kvs (mfOf N.hs nm) := dg.cong fun n => by
      unfold mfOf
      by_cases m : n ∈ hp
      · rw [if_pos m, if_pos ((hpN n).mp m)]
      · rw [if_neg m, if_neg fun z => m ((hpN n).mpr z)]
    have root : ∀ h ∈ N.hs, RootOf N.hs N.f h (nm h) := fun h hh => hg h ((hpN h).mpr hh)
    have off1 : ∀ {x : Addr}, x ≠ an → x ∉ [an] := fun h => mem_one h
    have W3 := W2.frn f3 (fun y hy z => an_base (by rw [← List.mem_singleton.mp z]; exact List.mem_cons_of_mem _ (List.mem_cons_of_mem _ (List.mem_cons_of_mem _ hy))))
    have fl_an : fl ≠ an := fun z => an_base (by rw [z]; simp)
    have lp_an : lp ≠ an := fun z => an_base (by rw [z]; simp)
    have hfl3 := f3.at_ _ _ (f2.at_ _ _ hfl List.not_mem_nil) (off1 fl_an)
    have hlp3 := f3.at_ _ _ (f2.at_ _ _ hlp List.not_mem_nil) (off1 lp_an)
    have hlh3 := f3.at_ _ _ hlh2 (off1 lh_an)
    have nn3 : ∀ h ∈ N.hs, nm h ∈ N.hs := fun h hh => by
      obtain ⟨⟨q, e⟩, _⟩ := (root h hh).reach
      exact e ▸ it_mem ok.fh hh
    have Nn3 : NxAt H3 an N.hs nm := .mk' (.inl e3) dg ok.nd nn3
    obtain ⟨kn3, hn3, dN3⟩ := W3.tab.nx
    have nx3 := NS.nxAt ok hn3 dN3
    have an_B : an ∉ A.p :: A.tc :: A.all := fun z => an_base (List.mem_cons_of_mem _ (List.mem_cons_of_mem _ (List.mem_cons_of_mem _ z)))
    clear W W2 hfl hlh hlp hlh2 hn2 dN2 nx2 f2 f3 n2 e2 hg hkl H1 H2 lh_an an_dn off1
    have one_dec : ∀ h : Int, Decidable (∀ m, Per N.f (it N.f N.hs.length h) m → wl N.size N.f m (it N.f N.hs.length h) / N.size = 1) := fun h => Classical.propDecidable _
    k_offL
    refine walkL (sqL_of hlh3) ?_
    refine lcV (walk_list (xs := hp.map V.int)) _ rfl (fun i H0 x H' _ y => yAt y) (intP fun h => decide (nm h = h) && @decide _ (one_dec h)) id (fun H' f => f.sqL (sqL_of hlh3) List.not_mem_nil) (by rw [List.length_map]; omega) (fun x H' hx f => ?_) fun al H4 n4 e4 f4 => ?_
    · obtain ⟨h, hh, rfl⟩ := mem_intsM hx
      have hh' := (hpN h).mp hh
      refine sk13 ⟨fun R kR => ?_, fun _ H5 f5 R kR => ?_⟩
      · k_offL
        refine (Nn3.ex0 f).get hh' ?_
        k_offL
        refine ifD (fun e => ?_) (fun e => ?_)
        · k_offL
          refine ⟨N.size, A.dn, N.hs, N.f, h, (), rfl, nx3.ex0 f, hh', by omega, h0, h1, fun m H6 per hm f6 => ?_⟩
          k_offL
          have q := kR H6 f6
          have e2 : (decide (nm h = h) && @decide _ (one_dec h)) = decide (wl N.size N.f m (it N.f N.hs.length h) / N.size = 1) := by
            rw [decide_eq_true e, Bool.true_and, Bool.eq_iff_iff, @decide_eq_true_iff _ (one_dec h), decide_eq_true_iff]
            exact ⟨fun z => z m per, fun z m' per' => per.uniq per' ▸ z⟩
          rw [← e2]
          exact q
        · k_offL
          have q := kR _ (Fr.refl _ _)
          have e2 : (decide (nm h = h) && @decide _ (one_dec h)) = false := by rw [decide_eq_false e, Bool.false_and]
          rw [← e2]
          exact q
      · k_offL
        exact kR _ (Fr.refl _ _)
    rw [filter_intP, List.map_id] at e4
    obtain ⟨ss, hss⟩ : ∃ ss, ss = hp.filter (fun h => decide (nm h = h) && @decide _ (one_dec h)) := ⟨_, rfl⟩
    have ssm : ∀ r ∈ ss, r ∈ N.hs ∧ nm r = r ∧ ∀ m, Per N.f (it N.f N.hs.length r) m → wl N.size N.f m (it N.f N.hs.length r) / N.size = 1 := fun q hq => by
      rw [hss] at hq
      obtain ⟨b1, b2⟩ := List.mem_filter.mp hq
      simp only [Bool.and_eq_true, decide_eq_true_iff] at b2
      exact ⟨(hpN q).mp b1, b2.1, b2.2⟩
    have ssl : ss.length ≤ 6 := by rw [hss]; exact Nat.le_trans (List.length_filter_le _ _) hpl
    rw [← hss] at e4
    clear hss
    have W4 := W3.ex0 f4
    have hfl4 := f4.at_ _ _ hfl3 List.not_mem_nil
    have hlp4 := f4.at_ _ _ hlp3 List.not_mem_nil
    have e34 := f4.at_ _ _ e3 List.not_mem_nil
    have B4 : (al :: an :: fl :: A.p :: A.tc :: A.all).Nodup := List.nodup_cons.mpr ⟨none_off (som_cons e3 (som_cons hfl3 W3.somes)) n4, List.nodup_cons.mpr ⟨fun z => (List.mem_cons.mp z).elim (fun e => fl_an e.symm) an_B, List.nodup_cons.mpr ⟨fl_off, W4.ndB⟩⟩⟩
    have al_lp : lp ≠ al := (ne_of_none hlp3 n4)
    clear W3 hfl3 hlp3 hlh3 Nn3 nx3 hn3 dN3 e3 f4 n4 H3
    k_offL
    refine i_pick W4.tape (by decide) (by decide) fun n5 H5 a5 b5 t5 f5 => ?_
    k_places
    refine q_cut (fun σ' H' => ∃ cp : Nat, σ' = [some (V.ref a), some (.ref A.tp), some (.int c), some (.int r), some (.int N.size), some (.ref lp), some (.ref fl), some (.ref lh), some (.ref A.dn), some (.ref A.dk), some (.ref A.dp), some (.ref A.p), some (.ref an), v13, some (.ref al), some (.int (cp : Int)), none, none, none, none, none, none, none, none, none, none] ∧ 1 ≤ cp ∧ TapeAt H' A.tp A.tc ∧ Fr [A.tp] H4 H') (fun Nx kN => ?_) ?_
    · k_offL
      refine i_pick t5 (by decide) (by decide) fun n6 H6 a6 b6 t6 f6 => ?_
      k_offL
      refine ifD (fun e => ?_) (fun e => ?_)
      · k_offL
        refine i_pick t6 (by decide) (by decide) fun n7 H7 a7 b7 t7 f7 => ?_
        k_offL
        refine kN _ _ ⟨(1 + n7).toNat, ?_, by omega, t7, (f5.trans f6).trans f7⟩
        rw [show (((1 + n7).toNat : Nat) : Int) = 1 + n7 by omega]
      · k_offL
        refine kN _ _ ⟨(1 + n5).toNat, ?_, by omega, t6, f5.trans f6⟩
        rw [show (((1 + n5).toNat : Nat) : Int) = 1 + n5 by omega]
    clear t5 f5 H5
    rintro _ H5 ⟨cp, rfl, cp1, t5, f5⟩
    have nB : ∀ {i : Nat} {x : Addr}, (al :: an :: fl :: A.p :: A.tc :: A.all)[i]? = some x → i ≠ 11 → x ∉ [A.tp] := fun hi hj => nd_off B4 [11] hi (by simpa using hj)
    have W5 := W4.tape' f5 t5
    have hfl5 := f5.at_ _ _ hfl4 (nB (i := 2) rfl (by decide))
    have e35 := f5.at_ _ _ e34 (nB (i := 1) rfl (by decide))
    have e45 := f5.at_ _ _ e4 (nB (i := 0) rfl (by decide))
    have hlp5 := f5.at_ _ _ hlp4 (mem_one lp_tp)
    clear W4 hfl4 hlp4 e34 e4 f5 t5 H4
    k_offL
    refine i_store (p := A.p) (c := (cp : Int)) rfl rfl (fun x => rfl) fun s1 dk1 H6 n6 m6 st1 f6 => ?_
    have W6 := W5.ex0 f6
    have hfl6 := f6.at_ _ _ hfl5 List.not_mem_nil
    have e36 := f6.at_ _ _ e35 List.not_mem_nil
    have e46 := f6.at_ _ _ e45 List.not_mem_nil
    have som5 := som_cons e45 (som_cons e35 (som_cons hfl5 W5.somes))
    obtain ⟨sx1, os1⟩ := st1.ob
    obtain ⟨_, kv1, od1, _⟩ := st1.kp.ex
    have s1_dk1 : dk1 ≠ s1 := ne_of od1 os1 (fun z => nomatch z)
    have B6 : (dk1 :: s1 :: al :: an :: fl :: A.p :: A.tc :: A.all).Nodup := List.nodup_cons.mpr ⟨fun z => (List.mem_cons.mp z).elim s1_dk1 (none_off som5 m6), List.nodup_cons.mpr ⟨none_off som5 n6, B4⟩⟩
    have som6 := som_cons od1 (som_cons os1 (som_cons e46 (som_cons e36 (som_cons hfl6 W6.somes))))
    k_offL
    refine newk fun li1 H7 n7 e7 f7 => ?_
    have B7 := List.nodup_cons.mpr ⟨none_off som6 n7, B6⟩
    have som7 := som_cons e7 (som_cons (f7.at_ _ _ od1 List.not_mem_nil) (som_cons (f7.at_ _ _ os1 List.not_mem_nil) (som_cons (f7.at_ _ _ e46 List.not_mem_nil) (som_cons (f7.at_ _ _ e36 List.not_mem_nil) (som_cons (f7.at_ _ _ hfl6 List.not_mem_nil) (W6.ex0 f7).somes)))))
    k_offL
    refine lstk (by show 3 ≤ 100000; decide) fun sl1 H8 n8 e8 f8 => ?_
    have B8 := List.nodup_cons.mpr ⟨none_off som7 n8, B7⟩
    have f68 := f7.trans f8
    have W8 := W6.ex0 f68
    have som8 := som_cons e8 (som_cons (f8.at_ _ _ e7 List.not_mem_nil) (som_cons (f68.at_ _ _ od1 List.not_mem_nil) (som_cons (f68.at_ _ _ os1 List.not_mem_nil) (som_cons (f68.at_ _ _ e46 List.not_mem_nil) (som_cons (f68.at_ _ _ e36 List.not_mem_nil) (som_cons (f68.at_ _ _ hfl6 List.not_mem_nil) W8.somes))))))
    k_offL
    refine i_store (p := A.p) (c := 1) rfl rfl (fun x => rfl) fun s2 dk2 H9 n9 m9 st2 f9 => ?_
    obtain ⟨sx2, os2⟩ := st2.ob
    obtain ⟨_, kv2, od2, _⟩ := st2.kp.ex
    have s2_dk2 : dk2 ≠ s2 := ne_of od2 os2 (fun z => nomatch z)
    have B9 : (dk2 :: s2 :: sl1 :: li1 :: dk1 :: s1 :: al :: an :: fl :: A.p :: A.tc :: A.all).Nodup := List.nodup_cons.mpr ⟨fun z => (List.mem_cons.mp z).elim s2_dk2 (none_off som8 m9), List.nodup_cons.mpr ⟨none_off som8 n9, B8⟩⟩
    have f69 := f68.trans f9
    have W9 := W6.ex0 f69
    have som9 := som_cons od2 (som_cons os2 (som_cons (f9.at_ _ _ e8 List.not_mem_nil) (som_cons ((f8.trans f9).at_ _ _ e7 List.not_mem_nil) (som_cons (f69.at_ _ _ od1 List.not_mem_nil) (som_cons (f69.at_ _ _ os1 List.not_mem_nil) (som_cons (f69.at_ _ _ e46 List.not_mem_nil) (som_cons (f69.at_ _ _ e36 List.not_mem_nil) (som_cons (f69.at_ _ _ hfl6 List.not_mem_nil) W9.somes))))))))
    k_offL
    refine newk fun li2 H10 n10 e10 f10 => ?_
    have B10 := List.nodup_cons.mpr ⟨none_off som9 n10, B9⟩
    have som10 : ∀ y ∈ li2 :: dk2 :: s2 :: sl1 :: li1 :: dk1 :: s1 :: al :: an :: fl :: A.p :: A.tc :: A.all, (H10 y).isSome = true := som_cons e10 fun y hy => by
      obtain ⟨o, ho⟩ := Option.isSome_iff_exists.mp (som9 y hy)
      rw [f10.at_ _ _ ho List.not_mem_nil]; rfl
    k_offL
    refine lstk (by show 3 ≤ 100000; decide) fun sl2 H11 n11 e11 f11 => ?_
    have B11 := List.nodup_cons.mpr ⟨none_off som10 n11, B10⟩
    have som11 : ∀ y ∈ sl2 :: li2 :: dk2 :: s2 :: sl1 :: li1 :: dk1 :: s1 :: al :: an :: fl :: A.p :: A.tc :: A.all, (H11 y).isSome = true := som_cons e11 fun y hy => by
      obtain ⟨o, ho⟩ := Option.isSome_iff_exists.mp (som10 y hy)
      rw [f11.at_ _ _ ho List.not_mem_nil]; rfl
    k_offL
    refine lstk (by show 2 ≤ 100000; decide) fun sh H12 n12 e12 f12 => ?_
    have B12 := List.nodup_cons.mpr ⟨none_off som11 n12, B11⟩
    have som12 : ∀ y ∈ sh :: sl2 :: li2 :: dk2 :: s2 :: sl1 :: li1 :: dk1 :: s1 :: al :: an :: fl :: A.p :: A.tc :: A.all, (H12 y).isSome = true := som_cons e12 fun y hy => by
      obtain ⟨o, ho⟩ := Option.isSome_iff_exists.mp (som11 y hy)
      rw [f12.at_ _ _ ho List.not_mem_nil]; rfl
    have f612 : Fr [] H6 H12 := (f69.trans f10).trans (f11.trans f12)
    have f912 : Fr [] H9 H12 := f10.trans (f11.trans f12)
    have f712 : Fr [] H7 H12 := (f8.trans f9).trans f912
    have f812 : Fr [] H8 H12 := f9.trans f912
    have f1112 := f12
    have W12 := W6.ex0 f612
    have hlp12 := f612.at_ _ _ (f6.at_ _ _ hlp5 List.not_mem_nil) List.not_mem_nil
    k_offL
    refine r_lenL (sqL_of hlp12) ?_
    rw [List.length_map]
    k_offL
    refine i_pick W12.tape (by omega) (by omega) fun m13 H13 a13 b13 t13 f13 => ?_
    have g13 : m13.toNat < ps.length := by omega
    have hlp13 := f13.at_ _ _ hlp12 (mem_one lp_tp)
    refine r_ixL (sqL_of hlp13) (ix_at m13.toNat (by omega) (ints_get g13)) ?_
    have hnear := psz _ (List.getElem_mem g13)
    revert hnear
    generalize ps[m13.toNat] = near
    intro hnear
    have nB : ∀ {i : Nat} {x : Addr}, (sh :: sl2 :: li2 :: dk2 :: s2 :: sl1 :: li1 :: dk1 :: s1 :: al :: an :: fl :: A.p :: A.tc :: A.all)[i]? = some x → i ≠ 20 → x ∉ [A.tp] := fun hi hj => nd_off B12 [20] hi (by simpa using hj)
    have hfl13 := f13.at_ _ _ (f612.at_ _ _ hfl6 List.not_mem_nil) (nB (i := 11) rfl (by decide))
    k_offL
    refine i_pick t13 (by omega) (by omega) fun m14 H14 a14 b14 t14 f14 => ?_
    have g14 : m14.toNat < fs.length := by omega
    have hfl14 := f14.at_ _ _ hfl13 (nB (i := 11) rfl (by decide))
    refine r_ixL (sqL_of hfl14) (ix_at m14.toNat (by omega) (ints_get g14)) ?_
    generalize fs[m14.toNat] = fx
    k_offL
    refine i_pick t14 (by decide) (by decide) fun m15 H15 a15 b15 t15 f15 => ?_
    k_offL
    refine i_pick t15 h0 (by omega) fun m16 H16 a16 b16 t16 f16 => ?_
    have f1216 : Fr [A.tp] H12 H16 := ((f13.trans f14).trans f15).trans f16
    k_offL
    refine lstk (by show 5 ≤ 100000; decide) fun kl H17 n17 e17 f17 => ?_
    have W16 := W12.tape' f1216 t16
    have nB16 : ∀ {x : Addr} {o : HO}, H12 x = some o → x ≠ A.tp → H17 x = some o := fun h hn => f17.at_ _ _ (f1216.at_ _ _ h (mem_one hn)) List.not_mem_nil
    have W17 := W16.ex0 f17
    have B17 : (kl :: sh :: sl2 :: li2 :: dk2 :: s2 :: sl1 :: li1 :: dk1 :: s1 :: al :: an :: fl :: A.p :: A.tc :: A.all).Nodup := List.nodup_cons.mpr ⟨none_off (fun y hy => by
      by_cases e : y = A.tp
      · rw [e]; exact W16.somes _ (by simp [Ads.all])
      · obtain ⟨o, ho⟩ := Option.isSome_iff_exists.mp (som12 y hy)
        rw [f1216.at_ _ _ ho (mem_one e)]; rfl) n17, B12⟩
    have q : ∀ {i : Nat} {x : Addr}, (sh :: sl2 :: li2 :: dk2 :: s2 :: sl1 :: li1 :: dk1 :: s1 :: al :: an :: fl :: A.p :: A.tc :: A.all)[i]? = some x → i ≠ 20 → x ≠ A.tp := fun hi hj e => nB hi hj (by rw [e]; exact List.mem_singleton.mpr rfl)
    have f617 : Fr [A.tp] H6 H17 := f612.up.trans (f1216.trans f17.up)
    have I0 : NI N nm ss := NI.start ok root ssm
    have L : LK CNet CStore fl an al sh kl A [(fx - m15) % N.size, (fx - m15) % N.size, near, (near - 1) % N.size, m16] 0 H17 N nm ss fs ⟨sl1, s1, dk1, li1, [], cp, 0, fun _ _ => none, fun _ _ => none⟩ ⟨sl2, s2, dk2, li2, [], 1, 0, fun _ _ => none, fun _ _ => none⟩ :=
      ⟨W17, ok, say, pl, pos, by omega, nB16 (f612.at_ _ _ hfl6 List.not_mem_nil) (q (i := 11) rfl (by decide)), hfr, fnd, ⟨kvs, nB16 (f612.at_ _ _ e36 List.not_mem_nil) (q (i := 10) rfl (by decide)), dg⟩, nB16 (f612.at_ _ _ e46 List.not_mem_nil) (q (i := 9) rfl (by decide)), by omega, nB16 e12 (q (i := 0) rfl (by decide)), e17,
        ⟨nB16 (f812.at_ _ _ e8 List.not_mem_nil) (q (i := 5) rfl (by decide)), st1.fr f617 (nB (i := 8) rfl (by decide)) (nB (i := 7) rfl (by decide)) (fun _ h => nomatch h), ⟨[], nB16 (f712.at_ _ _ e7 List.not_mem_nil) (q (i := 6) rfl (by decide)), Nat.zero_le _, fun _ _ => rfl⟩⟩,
        ⟨nB16 (f12.at_ _ _ e11 List.not_mem_nil) (q (i := 1) rfl (by decide)), st2.fr (f912.up.trans (f1216.trans f17.up)) (nB (i := 4) rfl (by decide)) (nB (i := 3) rfl (by decide)) (fun _ h => nomatch h), ⟨[], nB16 ((f11.trans f12).at_ _ _ e10 List.not_mem_nil) (q (i := 2) rfl (by decide)), Nat.zero_le _, fun _ _ => rfl⟩⟩,
        I0, SI.start cp1 rfl rfl, SI.start (Nat.le_refl _) rfl rfl, Nat.le_refl _, Nat.le_refl _, B17, (fun _ h => nomatch h), (fun _ h => nomatch h), (fun _ h => nomatch h), rfl, fun x hx => by
          have e1 := Int.emod_nonneg (fx - m15) (show N.size ≠ 0 by omega)
          have e2 := Int.emod_lt_of_pos (fx - m15) h0
          have e3 := Int.emod_nonneg (near - 1) (show N.size ≠ 0 by omega)
          have e4 := Int.emod_lt_of_pos (near - 1) h0
          simp at hx
          rcases hx with e | e | e | e <;> subst e <;> first | exact ⟨e1, e2⟩ | exact hnear | exact ⟨e3, e4⟩ | exact ⟨a16, b16⟩⟩
    clear W5 W6 W8 W9 W12 W16 W17 som5 som6 som7 som8 som9 som10 som11 som12 B4 B6 B7 B8 B9 B10 B11 B12 B17
    k_offL
    refine i_pick L.W.tape (by decide) (by decide) fun m18 H18 a18 b18 t18 f18 => ?_
    have L18 := L.pick t18 f18
    clear L
    k_offL
    refine loopR1 _ (by omega) (by omega) (fun i σ' H' => ∃ (v13 v20 v21 v22 v23 v24 v25 : Option V) (M : NS) (nm : Int → Int) (ss fs : List Int) (S1 S2 : Shop), M.size = N.size ∧ σ' = [some (V.ref a), some (.ref A.tp), some (.int c), some (.int r), some (.int N.size), some (.ref lp), some (.ref fl), some (.ref lh), some (.ref A.dn), some (.ref A.dk), some (.ref A.dp), some (.ref A.p), some (.ref an), v13, some (.ref al), some (.int (cp : Int)), some (.ref sh), some (.int near), some (.int ((fx - m15) % N.size)), some (.ref kl), v20, v21, v22, v23, v24, v25] ∧ LK CNet CStore fl an al sh kl A [(fx - m15) % N.size, (fx - m15) % N.size, near, (near - 1) % N.size, m16] i H' M nm ss fs S1 S2)
      ⟨_, _, _, _, _, _, _, N, nm, ss, fs, _, _, rfl, rfl, L18⟩ ?_ ?_
    · rintro i σ' H19 hi ⟨v13, v20, v21, v22, v23, v24, v25, M, nm, ss, fs, S1, S2, hz, rfl, L⟩
      k_places
      rw [← hz] at L ⊢
      exact c_main L (by omega) (by omega) fun M' hz' L' => ⟨_, _, _, _, _, _, _, M', _, _, _, _, _, hz', rfl, L'⟩
    · rintro σ' H19 ⟨v13, v20, v21, v22, v23, v24, v25, M, nm, ss, fs, S1, S2, hz, rfl, L⟩
      rw [← hz] at L ⊢
      exact c_fin L k
theorem ok_law {f : Addr} {fd : FuncData} (F : Fun K "law" "law" s_law f fd) (G__law_tape : GF P w K mg base "_law_tape" 1 ["script"] (spTape K)) (G__law_pick : GF P w K mg base "_law_pick" 1 ["tape", "size"] spPick) (G__law_size : GF P w K mg base "_law_size" 2 ["tape", "count"] spSize) (G__law_places : GF P w K mg base "_law_places" 2 ["tape", "size", "count"] spPlaces) (m_sorted : mg "sorted" = none) (G__law_rings : GF P w K mg base "_law_rings" 3 ["tape", "places"] spLawNexts) (G__law_start : GF P w K mg base "_law_start" 3 ["tape", "size", "nexts", "places", "behinds", "post"] spStart) (N_Net_befores_letters : GC P w K mg base CNet "Net" 3 ["self", "size", "nexts", "befores", "letters"] 2 ["befores", "letters"] (fun vs zs => vs ++ zs) (spNetInit CNet)) (m_list : mg "list" = none) (m_dict : mg "dict" = none) (G__law_put : GF P w K mg base "_law_put" 7 ["tape", "nexts", "names", "shop", "keys", "k"] (spLawPut CStore CNet)) (m_len : mg "len" = none) (G_Net_admit : GM P w K mg base CNet "admit" 2 ["self", "place", "host"] (spAdmit CNet)) (G__law_step : GF P w K mg base "_law_step" 7 ["tape", "net", "size", "nexts", "behinds", "post"] (spDeed CNet)) (G__law_stands : GF P w K mg base "_law_stands" 6 ["net", "size", "nexts", "behinds", "post"] (spStands CNet)) (G__law_found : GF P w K mg base "_law_found" 6 ["names", "single", "shop", "house", "key"] (spLawFound CStore CNet)) (G__law_found_all : GF P w K mg base "_law_found_all" 7 ["names", "single", "shop", "keys"] (spFoundAll CStore CNet)) (G__law_root : GF P w K mg base "_law_root" 2 ["nexts", "house"] spRoot) (G__law_turns : GF P w K mg base "_law_turns" 2 ["size", "nexts", "house"] spTurns) (N_Store_p1 : GC P w K mg base CStore "Store" 1 ["self", "net", "copies"] 1 [] (fun vs zs => vs ++ [V.int 1]) (spStoreInit CStore)) (N_Store_p2 : GC P w K mg base CStore "Store" 1 ["self", "net", "copies"] 2 [] (fun vs zs => vs) (spStoreInit CStore)) (m_int : mg "int" = none) (m_range : mg "range" = none) (T : NetT K CNet) (TSt : StoreT K CStore) : FnOk P w K mg base CX0 8 f fd ["script"] (spLaw K) := by
  refine F.ok sc_law (fun vs H Q E h => ?_) (fun cdv A outer s H vs Q E hr h => ?_)
  · obtain ⟨_, _, rfl, _⟩ := h; rfl
  · obtain ⟨a, ns, rfl, hS, hlen, k⟩ := h
    obtain ⟨t_mid, d_mid, c_mid⟩ := cut_law_mid (w := w) (f := f) (cdv := cdv) (A := A) (outer := outer) (s := s) (H := H) (E := E) G__law_root G__law_turns G__law_pick N_Store_p1 N_Store_p2 m_len m_int m_range G__law_put m_sorted G_Net_admit G__law_step G__law_stands G__law_found G__law_found_all T TSt (hr.mono (by decide))
    refine ⟨_, (pss_cons (ps_set (i := 1) sc_law.nd rfl (Or.inl rfl) (c_fn G__law_tape (hr.mono (by decide)) (pa_cons (pv 0) pa_nil)))
      (pss_cons (ps_set (i := 2) sc_law.nd rfl (Or.inl rfl) (pe_op op_add pe_int (c_fn G__law_pick (hr.mono (by decide)) (pa_cons (pv 1) (pa_cons pe_int pa_nil)))))
      (pss_cons (ps_if (pt_cmpR op_eq (c_fn G__law_pick (hr.mono (by decide)) (pa_cons (pv 1) (pa_cons pe_int pa_nil))) pe_int (nomark _)) (pss_one (ps_set (i := 2) sc_law.nd rfl (Or.inl rfl) (pe_op op_add pe_int (c_fn G__law_pick (hr.mono (by decide)) (pa_cons (pv 1) (pa_cons pe_int pa_nil)))))) pss_nil)
      (pss_cons (ps_set (i := 3) sc_law.nd rfl (Or.inl rfl) (pe_op op_add pe_int (c_fn G__law_pick (hr.mono (by decide)) (pa_cons (pv 1) (pa_cons pe_int pa_nil)))))
      (pss_cons (ps_set (i := 4) sc_law.nd rfl (Or.inr rfl) (c_fn G__law_size (hr.mono (by decide)) (pa_cons (pv 1) (pa_cons (pe_op op_add (pv 2) (pv 3)) pa_nil))))
      (pss_cons (ps_set (i := 5) sc_law.nd rfl (Or.inl rfl) (c_fn G__law_places (hr.mono (by decide)) (pa_cons (pv 1) (pa_cons (pv 4) (pa_cons (pe_op op_add (pv 2) (pv 3)) pa_nil)))))
      (pss_cons (ps_set (i := 6) sc_law.nd rfl (Or.inl rfl) (pe_slice (sl_listK (K := K) rfl) (pv 5) (po_some (pv 2)) po_none))
      (pss_cons (ps_set (i := 7) sc_law.nd rfl (Or.inl rfl) (pe_slice (sl_listK (K := K) rfl) (pv 5) po_none (po_some (pv 2))))
      (pss_cons (ps_if (pt_cmpR op_eq (c_fn G__law_pick (hr.mono (by decide)) (pa_cons (pv 1) (pa_cons pe_int pa_nil))) pe_int (nomark _)) (pss_one (ps_set (i := 7) sc_law.nd rfl (Or.inl rfl) (pe_callB (cb_sortIK (K := K) rfl) (by rfl) m_sorted b_sorted (pa_cons (pv 7) pa_nil)))) pss_nil)
      (pss_cons (ps_set (i := 8) sc_law.nd rfl (Or.inr rfl) (c_fn G__law_rings (hr.mono (by decide)) (pa_cons (pv 1) (pa_cons (pv 7) pa_nil))))
      (pss_cons (ps_set (i := 9) sc_law.nd rfl (Or.inl rfl) pe_dnewK)
      (pss_cons (ps_set (i := 10) sc_law.nd rfl (Or.inl rfl) (pe_lst pa_nil))
      (pss_cons (ps_if (pt_cmpR op_eq (c_fn G__law_pick (hr.mono (by decide)) (pa_cons (pv 1) (pa_cons pe_int pa_nil))) pe_int (nomark _)) (pss_one (ps_expr (c_fn G__law_start (hr.mono (by decide)) (pa_cons (pv 1) (pa_cons (pv 4) (pa_cons (pv 8) (pa_cons (pv 7) (pa_cons (pv 9) (pa_cons (pv 10) pa_nil))))))))) pss_nil)
      (pss_cons (ps_set (i := 11) sc_law.nd rfl (Or.inl rfl) (c_mk N_Net_befores_letters (hr.mono (by decide)) (pa_cons (pv 4) (pa_cons (pe_callTy cb_dictD (by rfl) m_dict b_dict (pa_cons (pv 8) pa_nil)) pa_nil)) (pk_cons (pe_callTy cb_dictD (by rfl) m_dict b_dict (pa_cons (pv 9) pa_nil)) (pk_cons (pe_callTy (cb_listOfK (K := K) rfl) (by rfl) m_list b_list (pa_cons (pv 10) pa_nil)) pk_nil))))
      d_mid)))))))))))))), ?_⟩
    (try simp only [cxK, cxKX, List.map])
    refine ent (σ' := [some _, none, none, none, none, none, none, none, none, none, none, none, none, none, none, none, none, none, none, none, none, none, none, none, none, none]) rfl ?_
    k_offL
    refine ⟨a, ns, rfl, hS, hlen, fun tp tc H1 ntp ntc t1 f1 => ?_⟩
    k_offL
    refine i_pick t1 (by decide) (by decide) fun n2 H2 a2 b2 t2 f2 => ?_
    k_places
    refine q_cut (fun σ' H' => ∃ c : Nat, σ' = [some (V.ref a), some (.ref tp), some (.int (c : Int)), none, none, none, none, none, none, none, none, none, none, none, none, none, none, none, none, none, none, none, none, none, none, none] ∧ 1 ≤ c ∧ c ≤ 6 ∧ TapeAt H' tp tc) (fun Nx kN => ?_) ?_
    · k_offL
      refine i_pick t2 (by decide) (by decide) fun n3 H3 a3 b3 t3 f3 => ?_
      k_offL
      refine ifD (fun e => ?_) (fun e => ?_)
      · k_offL
        refine i_pick t3 (by decide) (by decide) fun n4 H4 a4 b4 t4 f4 => ?_
        k_offL
        refine kN _ _ ⟨(1 + n4).toNat, ?_, by omega, by omega, t4⟩
        rw [show (((1 + n4).toNat : Nat) : Int) = 1 + n4 by omega]
      · k_offL
        refine kN _ _ ⟨(2 + n2).toNat, ?_, by omega, by omega, t3⟩
        rw [show (((2 + n2).toNat : Nat) : Int) = 2 + n2 by omega]
    clear a2 b2 t2 f2 t1 f1 hS ntp ntc H1 H2 n2 hlen
    rintro _ H2 ⟨c, rfl, c1, c7, t2⟩
    k_offL
    refine i_pick t2 (by decide) (by decide) fun r H3 a3 b3 t3 f3 => ?_
    k_offL
    refine ⟨tp, tc, _, (), rfl, t3, by omega, by omega, fun z H4 z1 zc z31 t4 f4 => ?_⟩
    k_offL
    refine ⟨tp, tc, z, (c : Int) + (1 + r), (), rfl, t4, by omega, zc, by omega, by omega, fun lp ps H5 n5 e5 hl5 pl5 t5 f5 => ?_⟩
    have lp_tp : lp ≠ tp := by obtain ⟨_, _, _, _, _, tt, tcs, _⟩ := t4.ex; exact (ne_of_none tt n5).symm
    clear t2 t3 t4 f3 f4 f5 n5 H2 H3 H4
    k_offL
    refine r_slL (sqL_of e5) fun fl H6 n6 e6 f6 => ?_
    rw [cut_from, ← List.map_drop] at e6
    have fl_tp : fl ≠ tp := by obtain ⟨_, _, _, _, _, tt, tcs, _⟩ := t5.ex; exact (ne_of_none tt n6).symm
    have fl_tc : fl ≠ tc := by obtain ⟨_, _, _, _, _, tt, tcs, _⟩ := t5.ex; exact (ne_of_none tcs n6).symm
    have t6 := t5.ex0 f6
    have e56 := f6.at_ _ _ e5 List.not_mem_nil
    k_offL
    refine r_slL (sqL_of e56) fun lh0 H7 n7 e7 f7 => ?_
    rw [cut_to, ← List.map_take] at e7
    have lh0_tp : lh0 ≠ tp := by obtain ⟨_, _, _, _, _, tt, tcs, _⟩ := t6.ex; exact (ne_of_none tt n7).symm
    have lh0_tc : lh0 ≠ tc := by obtain ⟨_, _, _, _, _, tt, tcs, _⟩ := t6.ex; exact (ne_of_none tcs n7).symm
    have t7 := t6.ex0 f7
    have e57 := f7.at_ _ _ e56 List.not_mem_nil
    have e67 := f7.at_ _ _ e6 List.not_mem_nil
    clear t5 t6 f6 f7 n6 n7 e6 e5 e56 H5 H6
    have ndc : (ps.take c).Nodup := pl5.nd.sublist (List.take_sublist _ _)
    have lenc : (ps.take c).length = c := by rw [List.length_take]; omega
    k_places
    refine q_cut (fun σ' H' => ∃ (lh : Addr) (hp : List Int), σ' = [some (V.ref a), some (.ref tp), some (.int (c : Int)), some (.int (1 + r)), some (.int z), some (.ref lp), some (.ref fl), some (.ref lh), none, none, none, none, none, none, none, none, none, none, none, none, none, none, none, none, none, none] ∧ hp.Perm (ps.take c) ∧ H' lh = some (.lst (hp.map V.int)) ∧ lh ≠ tp ∧ lh ≠ tc ∧ H' lp = some (.lst (ps.map V.int)) ∧ H' fl = some (.lst ((ps.drop c).map V.int)) ∧ TapeAt H' tp tc) (fun Nx kN => ?_) ?_
    · k_offL
      refine i_pick t7 (by decide) (by decide) fun n8 H8 a8 b8 t8 f8 => ?_
      have e58 := f8.at_ _ _ e57 (mem_one lp_tp)
      have e68 := f8.at_ _ _ e67 (mem_one fl_tp)
      have e78 := f8.at_ _ _ e7 (mem_one lh0_tp)
      k_offL
      refine ifD (fun e => ?_) (fun e => ?_)
      · k_offL
        refine r_sortI (sqL_of e78) fun ys l9 H9 perm hy n9 e9 f9 => ?_
        k_offL
        exact kN _ _ ⟨l9, ys, rfl, perm, e9, by obtain ⟨_, _, _, _, _, tt, _⟩ := t8.ex; exact (ne_of_none tt n9).symm, by obtain ⟨_, _, _, _, _, _, tcs, _⟩ := t8.ex; exact (ne_of_none tcs n9).symm, f9.at_ _ _ e58 List.not_mem_nil, f9.at_ _ _ e68 List.not_mem_nil, t8.ex0 f9⟩
      · k_offL
        exact kN _ _ ⟨lh0, _, rfl, .refl _, e78, lh0_tp, lh0_tc, e58, e68, t8⟩
    clear t7 e57 e67 e7 lh0_tp lh0_tc H7 lh0
    rintro _ H7 ⟨lh, hp, rfl, hperm, e7, lh_tp, lh_tc, e57, e67, t7⟩
    have ndh : hp.Nodup := hperm.nodup_iff.mpr ndc
    have lenh : hp.length = c := by rw [hperm.length_eq, lenc]
    have memh : ∀ {x}, x ∈ hp ↔ x ∈ ps.take c := fun {x} => hperm.mem_iff
    k_offL
    refine ⟨tp, tc, lh, hp, (), rfl, t7, e7, lh_tp, by omega, fun dn kn H8 n8 e8 nx8 t8 f8 => ?_⟩
    have e58 := f8.at_ _ _ e57 (mem_one lp_tp)
    have e68 := f8.at_ _ _ e67 (mem_one fl_tp)
    have e78 := f8.at_ _ _ e7 (mem_one lh_tp)
    clear t7 f8 n8 e57 e67 e7 H7
    k_offL
    refine newk fun dk H9 n9 e9 f9 => ?_
    have dn_dk : dn ≠ dk := ne_of_none e8 n9
    have t9 := t8.ex0 f9
    have e59 := f9.at_ _ _ e58 List.not_mem_nil
    have e69 := f9.at_ _ _ e68 List.not_mem_nil
    have e79 := f9.at_ _ _ e78 List.not_mem_nil
    have e89 := f9.at_ _ _ e8 List.not_mem_nil
    k_offL
    refine lstk (by show 0 ≤ 100000; decide) fun dp H10 n10 e10 f10 => ?_
    have dp_tp : dp ≠ tp := by obtain ⟨_, _, _, _, _, tt, tcs, _⟩ := t9.ex; exact (ne_of_none tt n10).symm
    have dp_tc : dp ≠ tc := by obtain ⟨_, _, _, _, _, tt, tcs, _⟩ := t9.ex; exact (ne_of_none tcs n10).symm
    have dp_lp : dp ≠ lp := (ne_of_none e59 n10).symm
    have dp_fl : dp ≠ fl := (ne_of_none e69 n10).symm
    have dp_lh : dp ≠ lh := (ne_of_none e79 n10).symm
    have t10 := t9.ex0 f10
    have e510 := f10.at_ _ _ e59 List.not_mem_nil
    have e610 := f10.at_ _ _ e69 List.not_mem_nil
    have e710 := f10.at_ _ _ e79 List.not_mem_nil
    have e810 := f10.at_ _ _ e89 List.not_mem_nil
    have e910 := f10.at_ _ _ e9 List.not_mem_nil
    clear t8 t9 e58 e68 e78 e59 e69 e79 e89 e8 e9 f9 f10 n9 n10 H8 H9
    obtain ⟨g, dg, gm, _⟩ := nx8
    obtain ⟨hs, hup, hpm⟩ := rise _ ndh
    have hmem : ∀ {x}, x ∈ hs ↔ x ∈ hp := fun {x} => hpm.mem_iff
    have hlen : hs.length = c := by rw [hpm.length_eq, lenh]
    have T10 : TabAt H10 dn dk dp ⟨z, hs, g, fun _ => none, []⟩ := ⟨⟨kn, e810, dg.cong fun h => by
      unfold NS.mf
      by_cases m : h ∈ hp
      · rw [if_pos m, if_pos (hmem.mpr m)]
      · rw [if_neg m, if_neg fun q => m (hmem.mp q)]⟩, ⟨[], e910, DOk.nil.cong fun n => rfl⟩, ⟨[], e10, .nil⟩, dn_dk⟩
    have ok0 : NS.Ok ⟨z, hs, g, fun _ => none, []⟩ := ⟨by show 0 < z; omega, by show z < 2 ^ 40; omega, hup, fun h hh => pl5.on h (List.mem_of_mem_take (memh.mp (hmem.mp hh))), fun h hh => hmem.mpr (gm h (hmem.mp hh)), (fun _ _ e => nomatch e), (fun _ e => nomatch e), by show hs.length ≤ 45; omega, Nat.zero_le _⟩
    have say0 : NS.Say ⟨z, hs, g, fun _ => none, []⟩ := ⟨(fun _ _ e => nomatch e), (fun _ _ e => nomatch e), (fun _ _ _ e => nomatch e)⟩
    k_places
    refine q_cut (fun σ' H' => σ' = [some (V.ref a), some (.ref tp), some (.int (c : Int)), some (.int (1 + r)), some (.int z), some (.ref lp), some (.ref fl), some (.ref lh), some (.ref dn), some (.ref dk), some (.ref dp), none, none, none, none, none, none, none, none, none, none, none, none, none, none, none] ∧ ∃ N : NS, N.hs = hs ∧ N.size = z ∧ N.Ok ∧ N.Say ∧ N.post.length ≤ 40 ∧ TabAt H' dn dk dp N ∧ TapeAt H' tp tc ∧ Fr [tp, dk, dp] H10 H') (fun Nx kN => ?_) ?_
    · k_offL
      refine i_pick t10 (by decide) (by decide) fun n11 H11 a11 b11 t11 f11 => ?_
      have dn_tp : dn ≠ tp := by obtain ⟨_, _, _, _, _, tt, tcs, _⟩ := t10.ex; exact ne_of e810 tt (fun z => nomatch z)
      have dk_tp : dk ≠ tp := by obtain ⟨_, _, _, _, _, tt, tcs, _⟩ := t10.ex; exact ne_of e910 tt (fun z => nomatch z)
      have T11 := T10.fr f11 (mem_one dn_tp) (mem_one dk_tp) (mem_one dp_tp)
      have f11' : Fr [tp, dk, dp] H10 H11 := f11.mono fun a h => by simp at h; simp [h]
      k_offL
      refine ifD (fun e => ?_) (fun e => ?_)
      · k_offL
        refine ⟨tp, tc, dn, lh, dk, dp, ⟨z, hs, g, fun _ => none, []⟩, hp, rfl, T11, t11, f11.at_ _ _ e710 (mem_one lh_tp), ok0, say0, rfl, fun x hx => hmem.mpr hx, by omega, by simp [dp_tp, dp_tc, dp_lh, Ne.symm t11.ne, lh_tp.symm, Ne.symm lh_tc], fun N' H13 e1 e2 e3 okN sayN pN TN tN fN => ?_⟩
        k_offL
        exact kN _ _ ⟨rfl, N', e2, e3, okN, sayN, by omega, TN, tN, f11'.trans fN⟩
      · k_offL
        exact kN _ _ ⟨rfl, _, rfl, rfl, ok0, say0, Nat.zero_le _, T11, t11, f11'⟩
    rintro _ H11 ⟨rfl, N, hNh, hNz, okN, sayN, pN, T11, t11, f11⟩
    have fr3 : ∀ {x : Addr} {ys : List V}, H10 x = some (.lst ys) → x ≠ tp → x ≠ dp → x ∉ [tp, dk, dp] := fun h1 h2 h3 m => by
      simp at m
      rcases m with m | m | m
      · exact h2 m
      · rw [m, e910] at h1; cases h1
      · exact h3 m
    have e511 := f11.at_ _ _ e510 (fr3 e510 lp_tp dp_lp.symm)
    have e611 := f11.at_ _ _ e610 (fr3 e610 fl_tp dp_fl.symm)
    have e711 := f11.at_ _ _ e710 (fr3 e710 lh_tp dp_lh.symm)
    have hfr : ∀ x ∈ ps.drop c, x ∉ N.hs ∧ 0 ≤ x ∧ x < N.size := fun x hx => ⟨fun h => by
      rw [hNh] at h
      have h1 := memh.mp (hmem.mp h)
      have nd := pl5.nd
      rw [← List.take_append_drop c ps] at nd
      exact (List.nodup_append.mp nd).2.2 x h1 x hx rfl, by rw [hNz]; exact pl5.on x (List.mem_of_mem_drop hx)⟩
    have hfnd : (ps.drop c).Nodup := pl5.nd.sublist (List.drop_sublist _ _)
    have hfl : ((ps.drop c).length : Int) = 1 + r := by rw [List.length_drop]; omega
    have hN7 : N.hs.length = c := by rw [hNh]; exact hlen
    have hpN : ∀ x, x ∈ hp ↔ x ∈ N.hs := fun x => by rw [hNh]; exact hmem.symm
    have psz : ∀ x ∈ ps, 0 ≤ x ∧ x < N.size := fun x hx => by rw [hNz]; exact pl5.on x hx
    clear T10 t10 ok0 say0 f11 e510 e610 e710 e810 e910 e10 hpm hup dg gm ndc fr3 hlen hNh hmem
    subst hNz
    obtain ⟨kn', hn, dN⟩ := T11.nx
    obtain ⟨kb, hb, dB⟩ := T11.bf
    obtain ⟨lv, hl, ls⟩ := T11.ls
    k_offL
    refine r_dictD (.inl hn) fun d1 H12 n12 e12 f12 => ?_
    k_offL
    refine r_dictD (.inl (f12.at_ _ _ hb List.not_mem_nil)) fun d2 H13 n13 e13 f13 => ?_
    k_offL
    refine r_listL (sqL_of ((f12.trans f13).at_ _ _ hl List.not_mem_nil)) fun l3 H14 n14 e14 f14 => ?_
    k_offL
    have f1114 := (f12.trans f13).trans f14
    refine i_net (N := N) (kn := kn') rfl rfl (fun x => rfl) ((f13.trans f14).at_ _ _ e12 List.not_mem_nil) dN (.inr ⟨d2, kb, rfl, f14.at_ _ _ e13 List.not_mem_nil, dB⟩) (.inr ⟨l3, lv, rfl, e14, ls.fr f1114⟩) okN fun p da db dl H15 m1 m2 m3 m4 hN15 f15 => ?_
    have f1115 := f1114.trans f15
    have hn14 := f1114.at_ _ _ hn List.not_mem_nil
    have hb14 := f1114.at_ _ _ hb List.not_mem_nil
    have hl14 := f1114.at_ _ _ hl List.not_mem_nil
    have W15 : WW CNet H15 ⟨p, da, db, dl, dn, dk, dp, tp, tc⟩ N N := by
      obtain ⟨_, _, _, _, _, tt, tcs, _⟩ := (t11.ex0 f1114).ex
      exact WW.mk' hN15 (T11.ex f1115) (t11.ex0 f1115) ⟨(ne_of_none hn14 m2).symm, (ne_of_none hb14 m2).symm⟩ ⟨(ne_of_none hn14 m3).symm, (ne_of_none hb14 m3).symm⟩ ⟨(ne_of_none hl14 m4).symm, (ne_of_none tt m4).symm, (ne_of_none tcs m4).symm⟩ ⟨dp_tp, dp_tc⟩
    have fl14 := f1114.at_ _ _ e611 List.not_mem_nil
    have fl_off : fl ∉ p :: tc :: (Ads.mk p da db dl dn dk dp tp tc).all := fun z => by
      simp only [Ads.all, List.mem_cons, List.not_mem_nil, or_false] at z
      rcases z with z | z | z | z | z | z | z | z | z
      · rw [z, m1] at fl14; cases fl14
      · exact fl_tc z
      · rw [z, m2] at fl14; cases fl14
      · rw [z, m3] at fl14; cases fl14
      · rw [z, m4] at fl14; cases fl14
      · rw [z, hn14] at fl14; cases fl14
      · rw [z, hb14] at fl14; cases fl14
      · exact dp_fl z.symm
      · exact fl_tp z
    k_offL
    have hlp : (ps.length : Int) = c + (1 + r) := hl5
    exact c_mid (A := ⟨p, da, db, dl, dn, dk, dp, tp, tc⟩) W15 okN sayN (by omega) (by omega) (by omega) (f1115.at_ _ _ e611 List.not_mem_nil) hfr hfnd hfl (by omega) (f1115.at_ _ _ e711 List.not_mem_nil) hpN (by omega) (f1115.at_ _ _ e511 List.not_mem_nil) (by omega) (by omega) psz fl_off lh_tp lp_tp k
end
end RL
set_option synthInstance.maxHeartbeats 4000000
set_option synthInstance.maxSize 4000
open PySem L2 RL
namespace RL
def dd_far : He.DefD := ⟨("far", none), "far", "far", defArgs s_far, defBody s_far, defScope s_far, [], []⟩
def dd_between : He.DefD := ⟨("between", none), "between", "between", defArgs s_between, defBody s_between, defScope s_between, [], []⟩
def dd_letter_places : He.DefD := ⟨("letter_places", none), "letter_places", "letter_places", defArgs s_letter_places, defBody s_letter_places, defScope s_letter_places, [], []⟩
def dd_check_place : He.DefD := ⟨("check_place", none), "check_place", "check_place", defArgs s_check_place, defBody s_check_place, defScope s_check_place, [], []⟩
def dd_check_houses : He.DefD := ⟨("check_houses", none), "check_houses", "check_houses", defArgs s_check_houses, defBody s_check_houses, defScope s_check_houses, [], []⟩
def dd_check_tables : He.DefD := ⟨("check_tables", none), "check_tables", "check_tables", defArgs s_check_tables, defBody s_check_tables, defScope s_check_tables, [], []⟩
def dd_Net___init__ : He.DefD := ⟨("Net", some "__init__"), "__init__", "Net.__init__", defArgs s_Net___init__, defBody s_Net___init__, defScope s_Net___init__, [], [("befores", .non), ("letters", .non)]⟩
def dd_Net_houses : He.DefD := ⟨("Net", some "houses"), "houses", "Net.houses", defArgs s_Net_houses, defBody s_Net_houses, defScope s_Net_houses, [], []⟩
def dd_Net_nexts : He.DefD := ⟨("Net", some "nexts"), "nexts", "Net.nexts", defArgs s_Net_nexts, defBody s_Net_nexts, defScope s_Net_nexts, [], []⟩
def dd_Net_befores : He.DefD := ⟨("Net", some "befores"), "befores", "Net.befores", defArgs s_Net_befores, defBody s_Net_befores, defScope s_Net_befores, [], []⟩
def dd_Net_letters : He.DefD := ⟨("Net", some "letters"), "letters", "Net.letters", defArgs s_Net_letters, defBody s_Net_letters, defScope s_Net_letters, [], []⟩
def dd_Net__send : He.DefD := ⟨("Net", some "_send"), "_send", "Net._send", defArgs s_Net__send, defBody s_Net__send, defScope s_Net__send, [], []⟩
def dd_Net_tell : He.DefD := ⟨("Net", some "tell"), "tell", "Net.tell", defArgs s_Net_tell, defBody s_Net_tell, defScope s_Net_tell, [], []⟩
def dd_Net_ask : He.DefD := ⟨("Net", some "ask"), "ask", "Net.ask", defArgs s_Net_ask, defBody s_Net_ask, defScope s_Net_ask, [], []⟩
def dd_Net__check_index : He.DefD := ⟨("Net", some "_check_index"), "_check_index", "Net._check_index", defArgs s_Net__check_index, defBody s_Net__check_index, defScope s_Net__check_index, [], []⟩
def dd_Net_lose : He.DefD := ⟨("Net", some "lose"), "lose", "Net.lose", defArgs s_Net_lose, defBody s_Net_lose, defScope s_Net_lose, [], []⟩
def dd_Net_repeat : He.DefD := ⟨("Net", some "repeat"), "repeat", "Net.repeat", defArgs s_Net_repeat, defBody s_Net_repeat, defScope s_Net_repeat, [], []⟩
def dd_Net__read_answer : He.DefD := ⟨("Net", some "_read_answer"), "_read_answer", "Net._read_answer", defArgs s_Net__read_answer, defBody s_Net__read_answer, defScope s_Net__read_answer, [], []⟩
def dd_Net__read_tell : He.DefD := ⟨("Net", some "_read_tell"), "_read_tell", "Net._read_tell", defArgs s_Net__read_tell, defBody s_Net__read_tell, defScope s_Net__read_tell, [], []⟩
def dd_Net__read_ask : He.DefD := ⟨("Net", some "_read_ask"), "_read_ask", "Net._read_ask", defArgs s_Net__read_ask, defBody s_Net__read_ask, defScope s_Net__read_ask, [], []⟩
def dd_Net_read : He.DefD := ⟨("Net", some "read"), "read", "Net.read", defArgs s_Net_read, defBody s_Net_read, defScope s_Net_read, [], []⟩
def dd_Net_snapshot : He.DefD := ⟨("Net", some "snapshot"), "snapshot", "Net.snapshot", defArgs s_Net_snapshot, defBody s_Net_snapshot, defScope s_Net_snapshot, [], []⟩
def dd_Net_admit : He.DefD := ⟨("Net", some "admit"), "admit", "Net.admit", defArgs s_Net_admit, defBody s_Net_admit, defScope s_Net_admit, [], []⟩
def dd_Net_hold : He.DefD := ⟨("Net", some "hold"), "hold", "Net.hold", defArgs s_Net_hold, defBody s_Net_hold, defScope s_Net_hold, [], []⟩
def dd_Net_set_before : He.DefD := ⟨("Net", some "set_before"), "set_before", "Net.set_before", defArgs s_Net_set_before, defBody s_Net_set_before, defScope s_Net_set_before, [], []⟩
def dd__law_tape : He.DefD := ⟨("_law_tape", none), "_law_tape", "_law_tape", defArgs s__law_tape, defBody s__law_tape, defScope s__law_tape, [], []⟩
def dd__law_pick : He.DefD := ⟨("_law_pick", none), "_law_pick", "_law_pick", defArgs s__law_pick, defBody s__law_pick, defScope s__law_pick, [], []⟩
def dd__law_size : He.DefD := ⟨("_law_size", none), "_law_size", "_law_size", defArgs s__law_size, defBody s__law_size, defScope s__law_size, [], []⟩
def dd__law_places : He.DefD := ⟨("_law_places", none), "_law_places", "_law_places", defArgs s__law_places, defBody s__law_places, defScope s__law_places, [], []⟩
def dd__law_far : He.DefD := ⟨("_law_far", none), "_law_far", "_law_far", defArgs s__law_far, defBody s__law_far, defScope s__law_far, [], []⟩
def dd__law_between : He.DefD := ⟨("_law_between", none), "_law_between", "_law_between", defArgs s__law_between, defBody s__law_between, defScope s__law_between, [], []⟩
def dd__law_nexts : He.DefD := ⟨("_law_nexts", none), "_law_nexts", "_law_nexts", defArgs s__law_nexts, defBody s__law_nexts, defScope s__law_nexts, [], []⟩
def dd__law_ring : He.DefD := ⟨("_law_ring", none), "_law_ring", "_law_ring", defArgs s__law_ring, defBody s__law_ring, defScope s__law_ring, [], []⟩
def dd__law_root : He.DefD := ⟨("_law_root", none), "_law_root", "_law_root", defArgs s__law_root, defBody s__law_root, defScope s__law_root, [], []⟩
def dd__law_rings : He.DefD := ⟨("_law_rings", none), "_law_rings", "_law_rings", defArgs s__law_rings, defBody s__law_rings, defScope s__law_rings, [], []⟩
def dd__law_read : He.DefD := ⟨("_law_read", none), "_law_read", "_law_read", defArgs s__law_read, defBody s__law_read, defScope s__law_read, [], []⟩
def dd__law_same : He.DefD := ⟨("_law_same", none), "_law_same", "_law_same", defArgs s__law_same, defBody s__law_same, defScope s__law_same, [], []⟩
def dd_check_house : He.DefD := ⟨("check_house", none), "check_house", "check_house", defArgs s_check_house, defBody s_check_house, defScope s_check_house, [], []⟩
def dd_house_at : He.DefD := ⟨("house_at", none), "house_at", "house_at", defArgs s_house_at, defBody s_house_at, defScope s_house_at, [], []⟩
def dd_check_look_up : He.DefD := ⟨("check_look_up", none), "check_look_up", "check_look_up", defArgs s_check_look_up, defBody s_check_look_up, defScope s_check_look_up, [], []⟩
def dd_answer : He.DefD := ⟨("answer", none), "answer", "answer", defArgs s_answer, defBody s_answer, defScope s_answer, [], []⟩
def dd__law_holds : He.DefD := ⟨("_law_holds", none), "_law_holds", "_law_holds", defArgs s__law_holds, defBody s__law_holds, defScope s__law_holds, [], []⟩
def dd__law_stands : He.DefD := ⟨("_law_stands", none), "_law_stands", "_law_stands", defArgs s__law_stands, defBody s__law_stands, defScope s__law_stands, [], []⟩
def dd__law_deed : He.DefD := ⟨("_law_deed", none), "_law_deed", "_law_deed", defArgs s__law_deed, defBody s__law_deed, defScope s__law_deed, [], []⟩
def dd_tell_all : He.DefD := ⟨("tell_all", none), "tell_all", "tell_all", defArgs s_tell_all, defBody s_tell_all, defScope s_tell_all, [], []⟩
def dd_calm_round : He.DefD := ⟨("calm_round", none), "calm_round", "calm_round", defArgs s_calm_round, defBody s_calm_round, defScope s_calm_round, [], []⟩
def dd__law_exchange : He.DefD := ⟨("_law_exchange", none), "_law_exchange", "_law_exchange", defArgs s__law_exchange, defBody s__law_exchange, defScope s__law_exchange, [], []⟩
def dd__law_calm : He.DefD := ⟨("_law_calm", none), "_law_calm", "_law_calm", defArgs s__law_calm, defBody s__law_calm, defScope s__law_calm, [], []⟩
def dd__law_start : He.DefD := ⟨("_law_start", none), "_law_start", "_law_start", defArgs s__law_start, defBody s__law_start, defScope s__law_start, [], []⟩
def dd_ring_from : He.DefD := ⟨("ring_from", none), "ring_from", "ring_from", defArgs s_ring_from, defBody s_ring_from, defScope s_ring_from, [], []⟩
def dd_ring_of : He.DefD := ⟨("ring_of", none), "ring_of", "ring_of", defArgs s_ring_of, defBody s_ring_of, defScope s_ring_of, [], []⟩
def dd_gate_of : He.DefD := ⟨("gate_of", none), "gate_of", "gate_of", defArgs s_gate_of, defBody s_gate_of, defScope s_gate_of, [], []⟩
def dd_Store___init__ : He.DefD := ⟨("Store", some "__init__"), "__init__", "Store.__init__", defArgs s_Store___init__, defBody s_Store___init__, defScope s_Store___init__, [.int 1], []⟩
def dd_Store__ring_from : He.DefD := ⟨("Store", some "_ring_from"), "_ring_from", "Store._ring_from", defArgs s_Store__ring_from, defBody s_Store__ring_from, defScope s_Store__ring_from, [], []⟩
def dd_Store_holders : He.DefD := ⟨("Store", some "holders"), "holders", "Store.holders", defArgs s_Store_holders, defBody s_Store_holders, defScope s_Store_holders, [], []⟩
def dd_Store_put : He.DefD := ⟨("Store", some "put"), "put", "Store.put", defArgs s_Store_put, defBody s_Store_put, defScope s_Store_put, [], []⟩
def dd_Store_find_worth : He.DefD := ⟨("Store", some "find_worth"), "find_worth", "Store.find_worth", defArgs s_Store_find_worth, defBody s_Store_find_worth, defScope s_Store_find_worth, [], []⟩
def dd__law_turns : He.DefD := ⟨("_law_turns", none), "_law_turns", "_law_turns", defArgs s__law_turns, defBody s__law_turns, defScope s__law_turns, [], []⟩
def dd__law_worth : He.DefD := ⟨("_law_worth", none), "_law_worth", "_law_worth", defArgs s__law_worth, defBody s__law_worth, defScope s__law_worth, [], []⟩
def dd__law_put : He.DefD := ⟨("_law_put", none), "_law_put", "_law_put", defArgs s__law_put, defBody s__law_put, defScope s__law_put, [], []⟩
def dd__law_found : He.DefD := ⟨("_law_found", none), "_law_found", "_law_found", defArgs s__law_found, defBody s__law_found, defScope s__law_found, [], []⟩
def dd__law_found_all : He.DefD := ⟨("_law_found_all", none), "_law_found_all", "_law_found_all", defArgs s__law_found_all, defBody s__law_found_all, defScope s__law_found_all, [], []⟩
def dd__law_step : He.DefD := ⟨("_law_step", none), "_law_step", "_law_step", defArgs s__law_step, defBody s__law_step, defScope s__law_step, [], []⟩
def dd_law : He.DefD := ⟨("law", none), "law", "law", defArgs s_law, defBody s_law, defScope s_law, [], []⟩
def fn0 : List He.DefD := [dd_far, dd_between, dd_letter_places, dd_check_place, dd_check_houses, dd_check_tables, dd_Net___init__, dd_Net_houses, dd_Net_nexts, dd_Net_befores, dd_Net_letters, dd_Net__send, dd_Net_tell, dd_Net_ask, dd_Net__check_index, dd_Net_lose, dd_Net_repeat, dd_Net__read_answer, dd_Net__read_tell, dd_Net__read_ask, dd_Net_read, dd_Net_snapshot, dd_Net_admit, dd_Net_hold, dd_Net_set_before, dd__law_tape, dd__law_pick, dd__law_size, dd__law_places, dd__law_far]
def fn1 : List He.DefD := [dd__law_between, dd__law_nexts, dd__law_ring, dd__law_root, dd__law_rings, dd__law_read, dd__law_same, dd_check_house, dd_house_at, dd_check_look_up, dd_answer, dd__law_holds, dd__law_stands, dd__law_deed, dd_tell_all, dd_calm_round, dd__law_exchange, dd__law_calm, dd__law_start, dd_ring_from, dd_ring_of, dd_gate_of, dd_Store___init__, dd_Store__ring_from, dd_Store_holders, dd_Store_put, dd_Store_find_worth, dd__law_turns, dd__law_worth, dd__law_put]
def fn2 : List He.DefD := [dd__law_found, dd__law_found_all, dd__law_step, dd_law]
def fnL : List He.DefD := fn0 ++ (fn1 ++ (fn2))
def fa0 : List He.Fa := [.cls "Net", .noat "Net" "size", .noat "Net" "_nexts", .noat "Net" "_befores", .noat "Net" "_letters", .cls "Store", .noat "Store" "net", .noat "Store" "copies", .noat "Store" "_kept", .glo "law", .glo "_law_tape", .free "abs", .free "int", .free "len", .glo "_law_pick", .glo "_law_size", .free "max", .glo "_law_places", .free "range", .free "sorted", .glo "_law_rings", .glo "_law_nexts", .glo "_law_start", .glo "_law_root", .free "min", .glo "_law_ring", .glo "_law_holds", .glo "_law_far", .mkr "Net", .glo "Net"]
def fa1 : List He.Fa := [.glo "check_tables", .glo "check_place", .glo "check_houses", .glo "letter_places", .free "dict", .free "list", .glo "_law_put", .glo "_law_worth", .free "str", .meth "Store" "put", .meth "Store" "holders", .meth "Store" "_ring_from", .glo "check_look_up", .meth "Net" "nexts", .glo "answer", .glo "house_at", .glo "check_house", .glo "far", .glo "gate_of", .glo "ring_from", .glo "ring_of", .free "isinstance", .meth "Net" "admit", .glo "_law_step", .free "bool", .free "tuple", .glo "_law_same", .glo "_law_calm", .glo "_law_read", .glo "_law_between"]
def fa2 : List He.Fa := [.glo "calm_round", .glo "tell_all", .meth "Net" "befores", .glo "between", .meth "Net" "set_before", .meth "Net" "hold", .glo "_law_exchange", .meth "Net" "tell", .meth "Net" "_send", .meth "Net" "read", .meth "Net" "lose", .meth "Net" "_check_index", .meth "Net" "_read_tell", .meth "Net" "_read_ask", .meth "Net" "_read_answer", .meth "Net" "ask", .glo "_law_deed", .meth "Net" "repeat", .glo "_law_stands", .meth "Net" "snapshot", .glo "_law_found", .meth "Store" "find_worth", .glo "_law_found_all", .glo "_law_turns", .free "sum", .mkr "Store", .glo "Store"]
def faL : List He.Fa := fa0 ++ (fa1 ++ (fa2))
def nm0 : List PySem.Str := ["_wall", "RingError", "OffCircle", "NoHouse", "TakenPlace", "NoLetter", "far", "between", "check_house", "ring_from", "house_at", "ring_of", "gate_of", "check_look_up", "answer", "Store", "tell_all", "calm_round", "letter_places", "check_place", "check_houses", "check_tables", "Net", "_law_tape", "_law_pick", "_law_size", "_law_places", "_law_nexts", "_law_rings", "_law_far"]
def nm1 : List PySem.Str := ["_law_between", "_law_ring", "_law_root", "_law_turns", "_law_holds", "_law_read", "_law_same", "_law_deed", "_law_stands", "_law_exchange", "_law_calm", "_law_start", "_law_worth", "_law_put", "_law_found", "_law_found_all", "_law_step"]
def nmL : List PySem.Str := nm0 ++ (nm1)
abbrev Rw : PySem.W.OpenRow := PySem.W.OpenLaw.row PySem.Challenge.rw_ringlaps_k72_whole_last_put_first
def lvl (g : Addr → Option Obj) : Nat → List Addr → List Addr
  | 0, l => l
  | n + 1, l => l ++ lvl g n (l.flatMap fun a => match g a with
    | some o => He.refsD o
    | none => []).eraseDups
def obB (fa : List He.Fa) (fn : List He.DefD) (g : Addr → Option Obj) : He.AlD := He.obsD fa fn (He.frG g (lvl g 4 [mainGlobals]))
def hookB (fa : List He.Fa) (fn : List He.DefD) : PySem.W.Hook where
  α := He.AlD
  obs := fun s => obB fa fn s.heap.get?
  val := fun _ => He.valD fn
  says := fun _ h => ∃ K : PySem.W.Frag, K.In h ∧ He.SaysD fa fn K
  of := fun _ _ e => ⟨_, He.frG_in, e⟩
  keeps := fun _ _ _ ⟨K, hK, c⟩ k => ⟨K, PySem.W.Frag.In.keeps hK k, c⟩
theorem obB_eq {fa : List He.Fa} {fn : List He.DefD} {g : Addr → Option Obj} {s : Shared} (h : ∀ a, g a = s.heap.get? a) : obB fa fn g = (hookB fa fn).obs s := by
  have e : g = s.heap.get? := funext h
  rw [e] <;> rfl
abbrev hk : PySem.W.Hook := hookB faL fnL
def ob (s : PySem.W.SharedT) : He.AlD := obB faL fnL (HandSHeadRun.getT s)
theorem ob_eq (s : PySem.W.SharedT) : ob s = hk.obs s.abs := obB_eq (HandSHeadRun.getT_eq s)
theorem run (w : World) : HandSHeadRun.RunEq Rw (PySem.W.view Rw.prog [56]) hk ob 6000 nmL w := by
  intro os
  kernel_rfl
theorem funOf {K : PySem.W.Frag} {x qual : Str} {st : Stmt} {kws : List (Str × V)} {f : Addr} {fd : FuncData} (F : FunD K x qual (defArgs st) (defBody st) (defScope st) [] kws f fd) : Fun K x qual st f fd := by
  obtain ⟨oc, od, dV, kV, doc, pm, an, cdv, ct, osl, e, lk, hcd, hD, hK⟩ := F.ex
  rcases hD with ⟨_, h⟩ | ⟨h, _⟩
  · subst h
    exact ⟨⟨oc, od, kV, doc, pm, an, cdv, ct, osl, e, lk, hcd⟩, F.kp⟩
  · exact absurd rfl h
theorem facts {P : Program} {w : World} {K : PySem.W.Frag} {h : Heap} {mg : Str → Option Value} {f : Addr} (X : K.In h) (G : h.Ns mainGlobals mg) (hfa : mg ("law" : Str) = some (.ref f)) (c : He.SaysD faL fnL K) :
    ∃ fd : FuncData, (∀ (s : Shared) (v : Value), BindsTo s fd ⟨[v], []⟩ [("script", v)]) ∧ ∀ base : Heap, K.In base → base.Ns mainGlobals mg → FnOk P w K mg base CX0 8 f fd ["script"] (spLaw K) := by
  obtain ⟨fd_far, D_far⟩ := c.def_ 0 (d := dd_far) rfl
  have F_far := funOf (st := s_far) D_far
  obtain ⟨fd_between, D_between⟩ := c.def_ 1 (d := dd_between) rfl
  have F_between := funOf (st := s_between) D_between
  obtain ⟨fd_letter_places, D_letter_places⟩ := c.def_ 2 (d := dd_letter_places) rfl
  have F_letter_places := funOf (st := s_letter_places) D_letter_places
  obtain ⟨fd_check_place, D_check_place⟩ := c.def_ 3 (d := dd_check_place) rfl
  have F_check_place := funOf (st := s_check_place) D_check_place
  obtain ⟨fd_check_houses, D_check_houses⟩ := c.def_ 4 (d := dd_check_houses) rfl
  have F_check_houses := funOf (st := s_check_houses) D_check_houses
  obtain ⟨fd_check_tables, D_check_tables⟩ := c.def_ 5 (d := dd_check_tables) rfl
  have F_check_tables := funOf (st := s_check_tables) D_check_tables
  obtain ⟨fd_Net___init__, D_Net___init__⟩ := c.def_ 6 (d := dd_Net___init__) rfl
  have F_Net___init__ := funOf (st := s_Net___init__) D_Net___init__
  obtain ⟨fd_Net_houses, D_Net_houses⟩ := c.def_ 7 (d := dd_Net_houses) rfl
  have F_Net_houses := funOf (st := s_Net_houses) D_Net_houses
  obtain ⟨fd_Net_nexts, D_Net_nexts⟩ := c.def_ 8 (d := dd_Net_nexts) rfl
  have F_Net_nexts := funOf (st := s_Net_nexts) D_Net_nexts
  obtain ⟨fd_Net_befores, D_Net_befores⟩ := c.def_ 9 (d := dd_Net_befores) rfl
  have F_Net_befores := funOf (st := s_Net_befores) D_Net_befores
  obtain ⟨fd_Net_letters, D_Net_letters⟩ := c.def_ 10 (d := dd_Net_letters) rfl
  have F_Net_letters := funOf (st := s_Net_letters) D_Net_letters
  obtain ⟨fd_Net__send, D_Net__send⟩ := c.def_ 11 (d := dd_Net__send) rfl
  have F_Net__send := funOf (st := s_Net__send) D_Net__send
  obtain ⟨fd_Net_tell, D_Net_tell⟩ := c.def_ 12 (d := dd_Net_tell) rfl
  have F_Net_tell := funOf (st := s_Net_tell) D_Net_tell
  obtain ⟨fd_Net_ask, D_Net_ask⟩ := c.def_ 13 (d := dd_Net_ask) rfl
  have F_Net_ask := funOf (st := s_Net_ask) D_Net_ask
  obtain ⟨fd_Net__check_index, D_Net__check_index⟩ := c.def_ 14 (d := dd_Net__check_index) rfl
  have F_Net__check_index := funOf (st := s_Net__check_index) D_Net__check_index
  obtain ⟨fd_Net_lose, D_Net_lose⟩ := c.def_ 15 (d := dd_Net_lose) rfl
  have F_Net_lose := funOf (st := s_Net_lose) D_Net_lose
  obtain ⟨fd_Net_repeat, D_Net_repeat⟩ := c.def_ 16 (d := dd_Net_repeat) rfl
  have F_Net_repeat := funOf (st := s_Net_repeat) D_Net_repeat
  obtain ⟨fd_Net__read_answer, D_Net__read_answer⟩ := c.def_ 17 (d := dd_Net__read_answer) rfl
  have F_Net__read_answer := funOf (st := s_Net__read_answer) D_Net__read_answer
  obtain ⟨fd_Net__read_tell, D_Net__read_tell⟩ := c.def_ 18 (d := dd_Net__read_tell) rfl
  have F_Net__read_tell := funOf (st := s_Net__read_tell) D_Net__read_tell
  obtain ⟨fd_Net__read_ask, D_Net__read_ask⟩ := c.def_ 19 (d := dd_Net__read_ask) rfl
  have F_Net__read_ask := funOf (st := s_Net__read_ask) D_Net__read_ask
  obtain ⟨fd_Net_read, D_Net_read⟩ := c.def_ 20 (d := dd_Net_read) rfl
  have F_Net_read := funOf (st := s_Net_read) D_Net_read
  obtain ⟨fd_Net_snapshot, D_Net_snapshot⟩ := c.def_ 21 (d := dd_Net_snapshot) rfl
  have F_Net_snapshot := funOf (st := s_Net_snapshot) D_Net_snapshot
  obtain ⟨fd_Net_admit, D_Net_admit⟩ := c.def_ 22 (d := dd_Net_admit) rfl
  have F_Net_admit := funOf (st := s_Net_admit) D_Net_admit
  obtain ⟨fd_Net_hold, D_Net_hold⟩ := c.def_ 23 (d := dd_Net_hold) rfl
  have F_Net_hold := funOf (st := s_Net_hold) D_Net_hold
  obtain ⟨fd_Net_set_before, D_Net_set_before⟩ := c.def_ 24 (d := dd_Net_set_before) rfl
  have F_Net_set_before := funOf (st := s_Net_set_before) D_Net_set_before
  obtain ⟨fd__law_tape, D__law_tape⟩ := c.def_ 25 (d := dd__law_tape) rfl
  have F__law_tape := funOf (st := s__law_tape) D__law_tape
  obtain ⟨fd__law_pick, D__law_pick⟩ := c.def_ 26 (d := dd__law_pick) rfl
  have F__law_pick := funOf (st := s__law_pick) D__law_pick
  obtain ⟨fd__law_size, D__law_size⟩ := c.def_ 27 (d := dd__law_size) rfl
  have F__law_size := funOf (st := s__law_size) D__law_size
  obtain ⟨fd__law_places, D__law_places⟩ := c.def_ 28 (d := dd__law_places) rfl
  have F__law_places := funOf (st := s__law_places) D__law_places
  obtain ⟨fd__law_far, D__law_far⟩ := c.def_ 29 (d := dd__law_far) rfl
  have F__law_far := funOf (st := s__law_far) D__law_far
  obtain ⟨fd__law_between, D__law_between⟩ := c.def_ 30 (d := dd__law_between) rfl
  have F__law_between := funOf (st := s__law_between) D__law_between
  obtain ⟨fd__law_nexts, D__law_nexts⟩ := c.def_ 31 (d := dd__law_nexts) rfl
  have F__law_nexts := funOf (st := s__law_nexts) D__law_nexts
  obtain ⟨fd__law_ring, D__law_ring⟩ := c.def_ 32 (d := dd__law_ring) rfl
  have F__law_ring := funOf (st := s__law_ring) D__law_ring
  obtain ⟨fd__law_root, D__law_root⟩ := c.def_ 33 (d := dd__law_root) rfl
  have F__law_root := funOf (st := s__law_root) D__law_root
  obtain ⟨fd__law_rings, D__law_rings⟩ := c.def_ 34 (d := dd__law_rings) rfl
  have F__law_rings := funOf (st := s__law_rings) D__law_rings
  obtain ⟨fd__law_read, D__law_read⟩ := c.def_ 35 (d := dd__law_read) rfl
  have F__law_read := funOf (st := s__law_read) D__law_read
  obtain ⟨fd__law_same, D__law_same⟩ := c.def_ 36 (d := dd__law_same) rfl
  have F__law_same := funOf (st := s__law_same) D__law_same
  obtain ⟨fd_check_house, D_check_house⟩ := c.def_ 37 (d := dd_check_house) rfl
  have F_check_house := funOf (st := s_check_house) D_check_house
  obtain ⟨fd_house_at, D_house_at⟩ := c.def_ 38 (d := dd_house_at) rfl
  have F_house_at := funOf (st := s_house_at) D_house_at
  obtain ⟨fd_check_look_up, D_check_look_up⟩ := c.def_ 39 (d := dd_check_look_up) rfl
  have F_check_look_up := funOf (st := s_check_look_up) D_check_look_up
  obtain ⟨fd_answer, D_answer⟩ := c.def_ 40 (d := dd_answer) rfl
  have F_answer := funOf (st := s_answer) D_answer
  obtain ⟨fd__law_holds, D__law_holds⟩ := c.def_ 41 (d := dd__law_holds) rfl
  have F__law_holds := funOf (st := s__law_holds) D__law_holds
  obtain ⟨fd__law_stands, D__law_stands⟩ := c.def_ 42 (d := dd__law_stands) rfl
  have F__law_stands := funOf (st := s__law_stands) D__law_stands
  obtain ⟨fd__law_deed, D__law_deed⟩ := c.def_ 43 (d := dd__law_deed) rfl
  have F__law_deed := funOf (st := s__law_deed) D__law_deed
  obtain ⟨fd_tell_all, D_tell_all⟩ := c.def_ 44 (d := dd_tell_all) rfl
  have F_tell_all := funOf (st := s_tell_all) D_tell_all
  obtain ⟨fd_calm_round, D_calm_round⟩ := c.def_ 45 (d := dd_calm_round) rfl
  have F_calm_round := funOf (st := s_calm_round) D_calm_round
  obtain ⟨fd__law_exchange, D__law_exchange⟩ := c.def_ 46 (d := dd__law_exchange) rfl
  have F__law_exchange := funOf (st := s__law_exchange) D__law_exchange
  obtain ⟨fd__law_calm, D__law_calm⟩ := c.def_ 47 (d := dd__law_calm) rfl
  have F__law_calm := funOf (st := s__law_calm) D__law_calm
  obtain ⟨fd__law_start, D__law_start⟩ := c.def_ 48 (d := dd__law_start) rfl
  have F__law_start := funOf (st := s__law_start) D__law_start
  obtain ⟨fd_ring_from, D_ring_from⟩ := c.def_ 49 (d := dd_ring_from) rfl
  have F_ring_from := funOf (st := s_ring_from) D_ring_from
  obtain ⟨fd_ring_of, D_ring_of⟩ := c.def_ 50 (d := dd_ring_of) rfl
  have F_ring_of := funOf (st := s_ring_of) D_ring_of
  obtain ⟨fd_gate_of, D_gate_of⟩ := c.def_ 51 (d := dd_gate_of) rfl
  have F_gate_of := funOf (st := s_gate_of) D_gate_of
  obtain ⟨fd_Store___init__, D_Store___init__⟩ := c.def_ 52 (d := dd_Store___init__) rfl
  have F_Store___init__ := D_Store___init__
  obtain ⟨fd_Store__ring_from, D_Store__ring_from⟩ := c.def_ 53 (d := dd_Store__ring_from) rfl
  have F_Store__ring_from := funOf (st := s_Store__ring_from) D_Store__ring_from
  obtain ⟨fd_Store_holders, D_Store_holders⟩ := c.def_ 54 (d := dd_Store_holders) rfl
  have F_Store_holders := funOf (st := s_Store_holders) D_Store_holders
  obtain ⟨fd_Store_put, D_Store_put⟩ := c.def_ 55 (d := dd_Store_put) rfl
  have F_Store_put := funOf (st := s_Store_put) D_Store_put
  obtain ⟨fd_Store_find_worth, D_Store_find_worth⟩ := c.def_ 56 (d := dd_Store_find_worth) rfl
  have F_Store_find_worth := funOf (st := s_Store_find_worth) D_Store_find_worth
  obtain ⟨fd__law_turns, D__law_turns⟩ := c.def_ 57 (d := dd__law_turns) rfl
  have F__law_turns := funOf (st := s__law_turns) D__law_turns
  obtain ⟨fd__law_worth, D__law_worth⟩ := c.def_ 58 (d := dd__law_worth) rfl
  have F__law_worth := funOf (st := s__law_worth) D__law_worth
  obtain ⟨fd__law_put, D__law_put⟩ := c.def_ 59 (d := dd__law_put) rfl
  have F__law_put := funOf (st := s__law_put) D__law_put
  obtain ⟨fd__law_found, D__law_found⟩ := c.def_ 60 (d := dd__law_found) rfl
  have F__law_found := funOf (st := s__law_found) D__law_found
  obtain ⟨fd__law_found_all, D__law_found_all⟩ := c.def_ 61 (d := dd__law_found_all) rfl
  have F__law_found_all := funOf (st := s__law_found_all) D__law_found_all
  obtain ⟨fd__law_step, D__law_step⟩ := c.def_ 62 (d := dd__law_step) rfl
  have F__law_step := funOf (st := s__law_step) D__law_step
  obtain ⟨fd_law, D_law⟩ := c.def_ 63 (d := dd_law) rfl
  have F_law := funOf (st := s_law) D_law
  obtain ⟨CNet, eCNet⟩ : ∃ C, C = He.ga K "Net" := ⟨_, rfl⟩
  have clNet : Cls K CNet := eCNet ▸ He.cls_ok (c.fact 0 (f := .cls "Net") rfl)
  have T : NetT K CNet := ⟨clNet, eCNet ▸ He.noat_ok (c.fact 1 (f := .noat "Net" "size") rfl), eCNet ▸ He.noat_ok (c.fact 2 (f := .noat "Net" "_nexts") rfl), eCNet ▸ He.noat_ok (c.fact 3 (f := .noat "Net" "_befores") rfl), eCNet ▸ He.noat_ok (c.fact 4 (f := .noat "Net" "_letters") rfl)⟩
  obtain ⟨CStore, eCStore⟩ : ∃ C, C = He.ga K "Store" := ⟨_, rfl⟩
  have clStore : Cls K CStore := eCStore ▸ He.cls_ok (c.fact 5 (f := .cls "Store") rfl)
  have TStore : StoreT K CStore := ⟨clStore, eCStore ▸ He.noat_ok (c.fact 6 (f := .noat "Store" "net") rfl), eCStore ▸ He.noat_ok (c.fact 7 (f := .noat "Store" "copies") rfl), eCStore ▸ He.noat_ok (c.fact 8 (f := .noat "Store" "_kept") rfl)⟩
  have e0 := hfa.symm.trans (He.glo_ok X G (c.fact 9 (f := .glo "law") rfl))
  cases e0
  refine ⟨fd_law, fun s v => ?_, fun base _ _ => ?_⟩
  · have b := L2.FunD.bindsA (ps := ["script"]) D_law fun _ _ _ _ _ _ us hl => match us, hl with | [_], _ => rfl
    exact b s [v] rfl
  have m_abs : mg "abs" = none := He.free_ok X G (c.fact 11 (f := .free "abs") rfl)
  have m_int : mg "int" = none := He.free_ok X G (c.fact 12 (f := .free "int") rfl)
  have m_len : mg "len" = none := He.free_ok X G (c.fact 13 (f := .free "len") rfl)
  have G__law_tape : GF P w K mg base "_law_tape" 1 ["script"] (spTape K) := ⟨⟨_, _, He.glo_ok X G (c.fact 10 (f := .glo "_law_tape") rfl), F__law_tape.kp, F__law_tape.binds (ps := ["script"]) fun _ _ _ _ _ _ us hl => match us, hl with | [_], _ => rfl, ok__law_tape F__law_tape m_abs m_int m_len⟩⟩
  have G__law_pick : GF P w K mg base "_law_pick" 1 ["tape", "size"] spPick := ⟨⟨_, _, He.glo_ok X G (c.fact 14 (f := .glo "_law_pick") rfl), F__law_pick.kp, F__law_pick.binds (ps := ["tape", "size"]) fun _ _ _ _ _ _ us hl => match us, hl with | [_, _], _ => rfl, ok__law_pick F__law_pick m_int m_len⟩⟩
  have m_max : mg "max" = none := He.free_ok X G (c.fact 16 (f := .free "max") rfl)
  have G__law_size : GF P w K mg base "_law_size" 2 ["tape", "count"] spSize := ⟨⟨_, _, He.glo_ok X G (c.fact 15 (f := .glo "_law_size") rfl), F__law_size.kp, F__law_size.binds (ps := ["tape", "count"]) fun _ _ _ _ _ _ us hl => match us, hl with | [_, _], _ => rfl, ok__law_size F__law_size G__law_pick m_max⟩⟩
  have m_range : mg "range" = none := He.free_ok X G (c.fact 18 (f := .free "range") rfl)
  have m_sorted : mg "sorted" = none := He.free_ok X G (c.fact 19 (f := .free "sorted") rfl)
  have G__law_places : GF P w K mg base "_law_places" 2 ["tape", "size", "count"] spPlaces := ⟨⟨_, _, He.glo_ok X G (c.fact 17 (f := .glo "_law_places") rfl), F__law_places.kp, F__law_places.binds (ps := ["tape", "size", "count"]) fun _ _ _ _ _ _ us hl => match us, hl with | [_, _, _], _ => rfl, ok__law_places F__law_places m_range G__law_pick m_sorted⟩⟩
  have G__law_nexts : GF P w K mg base "_law_nexts" 2 ["tape", "places"] spLawNexts := ⟨⟨_, _, He.glo_ok X G (c.fact 21 (f := .glo "_law_nexts") rfl), F__law_nexts.kp, F__law_nexts.binds (ps := ["tape", "places"]) fun _ _ _ _ _ _ us hl => match us, hl with | [_, _], _ => rfl, ok__law_nexts F__law_nexts m_len m_range G__law_pick⟩⟩
  have G__law_rings : GF P w K mg base "_law_rings" 3 ["tape", "places"] spLawNexts := ⟨⟨_, _, He.glo_ok X G (c.fact 20 (f := .glo "_law_rings") rfl), F__law_rings.kp, F__law_rings.binds (ps := ["tape", "places"]) fun _ _ _ _ _ _ us hl => match us, hl with | [_, _], _ => rfl, ok__law_rings F__law_rings G__law_pick G__law_nexts m_len m_max m_range⟩⟩
  have m_min : mg "min" = none := He.free_ok X G (c.fact 24 (f := .free "min") rfl)
  have G__law_ring : GF P w K mg base "_law_ring" 1 ["nexts", "house"] spRing := ⟨⟨_, _, He.glo_ok X G (c.fact 25 (f := .glo "_law_ring") rfl), F__law_ring.kp, F__law_ring.binds (ps := ["nexts", "house"]) fun _ _ _ _ _ _ us hl => match us, hl with | [_, _], _ => rfl, ok__law_ring F__law_ring m_range m_len⟩⟩
  have G__law_root : GF P w K mg base "_law_root" 2 ["nexts", "house"] spRoot := ⟨⟨_, _, He.glo_ok X G (c.fact 23 (f := .glo "_law_root") rfl), F__law_root.kp, F__law_root.binds (ps := ["nexts", "house"]) fun _ _ _ _ _ _ us hl => match us, hl with | [_, _], _ => rfl, ok__law_root F__law_root m_min G__law_ring⟩⟩
  have G__law_far : GF P w K mg base "_law_far" 1 ["size", "start", "end"] spFar := ⟨⟨_, _, He.glo_ok X G (c.fact 27 (f := .glo "_law_far") rfl), F__law_far.kp, F__law_far.binds (ps := ["size", "start", "end"]) fun _ _ _ _ _ _ us hl => match us, hl with | [_, _, _], _ => rfl, ok__law_far F__law_far m_int⟩⟩
  have G__law_holds : GF P w K mg base "_law_holds" 2 ["size", "nexts", "saying"] spLawHolds := ⟨⟨_, _, He.glo_ok X G (c.fact 26 (f := .glo "_law_holds") rfl), F__law_holds.kp, F__law_holds.binds (ps := ["size", "nexts", "saying"]) fun _ _ _ _ _ _ us hl => match us, hl with | [_, _, _], _ => rfl, ok__law_holds F__law_holds m_range m_len G__law_far⟩⟩
  have G__law_start : GF P w K mg base "_law_start" 3 ["tape", "size", "nexts", "places", "behinds", "post"] spStart := ⟨⟨_, _, He.glo_ok X G (c.fact 22 (f := .glo "_law_start") rfl), F__law_start.kp, F__law_start.binds (ps := ["tape", "size", "nexts", "places", "behinds", "post"]) fun _ _ _ _ _ _ us hl => match us, hl with | [_, _, _, _, _, _], _ => rfl, ok__law_start F__law_start G__law_root m_sorted G__law_pick m_len G__law_holds G__law_far⟩⟩
  obtain ⟨mv_N_Net_befores_letters, KB_N_Net_befores_letters⟩ := L2.FunD.kbinds0 D_Net___init__ (ps := ["self", "size", "nexts", "befores", "letters"]) 3 ["befores", "letters"] [] (fun us mz ws => us ++ ws) (by intro z; cases z) (by intro q hq; first | exact hq | cases hq) (fun r1 r2 r3 => r1.append r3) (fun D doc pm an cdv ct us mv ws l1 l2 l3 => match us, l1, mv, l2, ws, l3 with
    | [_, _, _], _, [], _, [_, _], _ => rfl)
  have G_check_place : GF P w K mg base "check_place" 1 ["size", "place"] spCheckPlace := ⟨⟨_, _, He.glo_ok X G (c.fact 31 (f := .glo "check_place") rfl), F_check_place.kp, F_check_place.binds (ps := ["size", "place"]) fun _ _ _ _ _ _ us hl => match us, hl with | [_, _], _ => rfl, ok_check_place F_check_place⟩⟩
  have G_check_houses : GF P w K mg base "check_houses" 1 ["houses", "places"] (spCheckHouses K) := ⟨⟨_, _, He.glo_ok X G (c.fact 32 (f := .glo "check_houses") rfl), F_check_houses.kp, F_check_houses.binds (ps := ["houses", "places"]) fun _ _ _ _ _ _ us hl => match us, hl with | [_, _], _ => rfl, ok_check_houses F_check_houses⟩⟩
  have G_letter_places : GF P w K mg base "letter_places" 1 ["letter"] spLetterPlaces := ⟨⟨_, _, He.glo_ok X G (c.fact 33 (f := .glo "letter_places") rfl), F_letter_places.kp, F_letter_places.binds (ps := ["letter"]) fun _ _ _ _ _ _ us hl => match us, hl with | [_], _ => rfl, ok_letter_places F_letter_places⟩⟩
  have G_check_tables : GF P w K mg base "check_tables" 2 ["size", "nexts", "behinds", "post"] spCheckTables := ⟨⟨_, _, He.glo_ok X G (c.fact 30 (f := .glo "check_tables") rfl), F_check_tables.kp, F_check_tables.binds (ps := ["size", "nexts", "behinds", "post"]) fun _ _ _ _ _ _ us hl => match us, hl with | [_, _, _, _], _ => rfl, ok_check_tables F_check_tables m_sorted G_check_place G_check_houses G_letter_places⟩⟩
  have m_dict : mg "dict" = none := He.free_ok X G (c.fact 34 (f := .free "dict") rfl)
  have m_list : mg "list" = none := He.free_ok X G (c.fact 35 (f := .free "list") rfl)
  have N_Net_befores_letters : GC P w K mg base CNet "Net" 3 ["self", "size", "nexts", "befores", "letters"] 2 ["befores", "letters"] (fun vs zs => vs ++ zs) (spNetInit CNet) := ⟨⟨_, _, _, eCNet ▸ He.mkr_ok (c.fact 28 (f := .mkr "Net") rfl), eCNet ▸ He.glo_ok X G (c.fact 29 (f := .glo "Net") rfl), ok_Net___init__ F_Net___init__ G_check_tables m_dict m_list T, KB_N_Net_befores_letters⟩⟩
  have m_str : mg "str" = none := He.free_ok X G (c.fact 38 (f := .free "str") rfl)
  have G__law_worth : GF P w K mg base "_law_worth" 2 ["tape", "k"] spWorth := ⟨⟨_, _, He.glo_ok X G (c.fact 37 (f := .glo "_law_worth") rfl), F__law_worth.kp, F__law_worth.binds (ps := ["tape", "k"]) fun _ _ _ _ _ _ us hl => match us, hl with | [_, _], _ => rfl, ok__law_worth F__law_worth G__law_pick m_str⟩⟩
  have G_Net_nexts : GM P w K mg base CNet "nexts" 1 ["self"] (spNexts CNet) := ⟨clNet, ⟨_, _, eCNet ▸ He.meth_ok (c.fact 43 (f := .meth "Net" "nexts") rfl), F_Net_nexts.binds (ps := ["self"]) fun _ _ _ _ _ _ us hl => match us, hl with | [_], _ => rfl, ok_Net_nexts F_Net_nexts m_sorted T⟩⟩
  have G_check_look_up : GF P w K mg base "check_look_up" 2 ["net", "house", "key"] (spCheckLookUp CNet) := ⟨⟨_, _, He.glo_ok X G (c.fact 42 (f := .glo "check_look_up") rfl), F_check_look_up.kp, F_check_look_up.binds (ps := ["net", "house", "key"]) fun _ _ _ _ _ _ us hl => match us, hl with | [_, _, _], _ => rfl, ok_check_look_up F_check_look_up G_Net_nexts T⟩⟩
  have G_check_house : GF P w K mg base "check_house" 1 ["nexts", "house"] spCheckHouse := ⟨⟨_, _, He.glo_ok X G (c.fact 46 (f := .glo "check_house") rfl), F_check_house.kp, F_check_house.binds (ps := ["nexts", "house"]) fun _ _ _ _ _ _ us hl => match us, hl with | [_, _], _ => rfl, ok_check_house F_check_house⟩⟩
  have G_far : GF P w K mg base "far" 1 ["size", "start", "end"] spFar := ⟨⟨_, _, He.glo_ok X G (c.fact 47 (f := .glo "far") rfl), F_far.kp, F_far.binds (ps := ["size", "start", "end"]) fun _ _ _ _ _ _ us hl => match us, hl with | [_, _, _], _ => rfl, ok_far F_far⟩⟩
  have G_house_at : GF P w K mg base "house_at" 2 ["net", "start", "distance"] (spHouseAt CNet) := ⟨⟨_, _, He.glo_ok X G (c.fact 45 (f := .glo "house_at") rfl), F_house_at.kp, F_house_at.binds (ps := ["net", "start", "distance"]) fun _ _ _ _ _ _ us hl => match us, hl with | [_, _, _], _ => rfl, ok_house_at F_house_at G_Net_nexts G_check_house G_far T⟩⟩
  have G_answer : GF P w K mg base "answer" 3 ["net", "house", "key"] (spAnswer CNet) := ⟨⟨_, _, He.glo_ok X G (c.fact 44 (f := .glo "answer") rfl), F_answer.kp, F_answer.binds (ps := ["net", "house", "key"]) fun _ _ _ _ _ _ us hl => match us, hl with | [_, _, _], _ => rfl, ok_answer F_answer G_check_look_up G_house_at G_far T⟩⟩
  have G_ring_from : GF P w K mg base "ring_from" 1 ["nexts", "house"] spRingFrom := ⟨⟨_, _, He.glo_ok X G (c.fact 49 (f := .glo "ring_from") rfl), F_ring_from.kp, F_ring_from.binds (ps := ["nexts", "house"]) fun _ _ _ _ _ _ us hl => match us, hl with | [_, _], _ => rfl, ok_ring_from F_ring_from m_range m_len m_min⟩⟩
  have G_gate_of : GF P w K mg base "gate_of" 2 ["net", "house"] (spGateOf CNet) := ⟨⟨_, _, He.glo_ok X G (c.fact 48 (f := .glo "gate_of") rfl), F_gate_of.kp, F_gate_of.binds (ps := ["net", "house"]) fun _ _ _ _ _ _ us hl => match us, hl with | [_, _], _ => rfl, ok_gate_of F_gate_of G_Net_nexts G_check_house G_ring_from T⟩⟩
  have G_ring_of : GF P w K mg base "ring_of" 2 ["net", "house"] (spRingOf CNet) := ⟨⟨_, _, He.glo_ok X G (c.fact 50 (f := .glo "ring_of") rfl), F_ring_of.kp, F_ring_of.binds (ps := ["net", "house"]) fun _ _ _ _ _ _ us hl => match us, hl with | [_, _], _ => rfl, ok_ring_of F_ring_of G_Net_nexts G_check_house G_ring_from T⟩⟩
  have G_Store__ring_from : GM P w K mg base CStore "_ring_from" 4 ["self", "house", "key"] (spRingKey CStore CNet) := ⟨clStore, ⟨_, _, eCStore ▸ He.meth_ok (c.fact 41 (f := .meth "Store" "_ring_from") rfl), F_Store__ring_from.binds (ps := ["self", "house", "key"]) fun _ _ _ _ _ _ us hl => match us, hl with | [_, _, _], _ => rfl, ok_Store__ring_from F_Store__ring_from G_check_look_up G_answer G_gate_of G_ring_of TStore T⟩⟩
  have G_Store_holders : GM P w K mg base CStore "holders" 5 ["self", "house", "key"] (spHolders CStore CNet) := ⟨clStore, ⟨_, _, eCStore ▸ He.meth_ok (c.fact 40 (f := .meth "Store" "holders") rfl), F_Store_holders.binds (ps := ["self", "house", "key"]) fun _ _ _ _ _ _ us hl => match us, hl with | [_, _, _], _ => rfl, ok_Store_holders F_Store_holders G_Store__ring_from TStore T⟩⟩
  have G_Store_put : GM P w K mg base CStore "put" 6 ["self", "house", "key", "worth"] (spStorePut CStore CNet) := ⟨clStore, ⟨_, _, eCStore ▸ He.meth_ok (c.fact 39 (f := .meth "Store" "put") rfl), F_Store_put.binds (ps := ["self", "house", "key", "worth"]) fun _ _ _ _ _ _ us hl => match us, hl with | [_, _, _, _], _ => rfl, ok_Store_put F_Store_put G_Store_holders TStore T⟩⟩
  have m_isinstance : mg "isinstance" = none := He.free_ok X G (c.fact 51 (f := .free "isinstance") rfl)
  have G__law_put : GF P w K mg base "_law_put" 7 ["tape", "nexts", "names", "shop", "keys", "k"] (spLawPut CStore CNet) := ⟨⟨_, _, He.glo_ok X G (c.fact 36 (f := .glo "_law_put") rfl), F__law_put.kp, F__law_put.binds (ps := ["tape", "nexts", "names", "shop", "keys", "k"]) fun _ _ _ _ _ _ us hl => match us, hl with | [_, _, _, _, _, _], _ => rfl, ok__law_put F__law_put m_sorted G__law_pick m_len G__law_worth G_Store_put G__law_ring m_min m_isinstance m_list TStore T⟩⟩
  have G_Net_admit : GM P w K mg base CNet "admit" 2 ["self", "place", "host"] (spAdmit CNet) := ⟨clNet, ⟨_, _, eCNet ▸ He.meth_ok (c.fact 52 (f := .meth "Net" "admit") rfl), F_Net_admit.binds (ps := ["self", "place", "host"]) fun _ _ _ _ _ _ us hl => match us, hl with | [_, _, _], _ => rfl, ok_Net_admit F_Net_admit G_check_place G_check_houses T⟩⟩
  have m_bool : mg "bool" = none := He.free_ok X G (c.fact 54 (f := .free "bool") rfl)
  have m_tuple : mg "tuple" = none := He.free_ok X G (c.fact 55 (f := .free "tuple") rfl)
  have G__law_same : GF P w K mg base "_law_same" 5 ["actual", "due"] (spSame 4) := ⟨⟨_, _, He.glo_ok X G (c.fact 56 (f := .glo "_law_same") rfl), F__law_same.kp, F__law_same.binds (ps := ["actual", "due"]) fun _ _ _ _ _ _ us hl => match us, hl with | [_, _], _ => rfl, ok__law_same F__law_same m_isinstance m_int m_bool m_str m_dict m_list m_tuple m_len m_range (fun n0 q => ⟨⟨_, _, He.glo_ok X G (c.fact 56 (f := .glo "_law_same") rfl), F__law_same.kp, F__law_same.binds (ps := ["actual", "due"]) fun _ _ _ _ _ _ us hl => match us, hl with | [_, _], _ => rfl, q⟩⟩) 4⟩⟩
  have G__law_between : GF P w K mg base "_law_between" 2 ["size", "start", "place", "end"] spBetween := ⟨⟨_, _, He.glo_ok X G (c.fact 59 (f := .glo "_law_between") rfl), F__law_between.kp, F__law_between.binds (ps := ["size", "start", "place", "end"]) fun _ _ _ _ _ _ us hl => match us, hl with | [_, _, _, _], _ => rfl, ok__law_between F__law_between G__law_far⟩⟩
  have G__law_read : GF P w K mg base "_law_read" 3 ["size", "nexts", "behinds", "post", "at"] spLawRead := ⟨⟨_, _, He.glo_ok X G (c.fact 58 (f := .glo "_law_read") rfl), F__law_read.kp, F__law_read.binds (ps := ["size", "nexts", "behinds", "post", "at"]) fun _ _ _ _ _ _ us hl => match us, hl with | [_, _, _, _, _], _ => rfl, ok__law_read F__law_read G__law_between⟩⟩
  have G__law_calm : GF P w K mg base "_law_calm" 4 ["size", "nexts", "behinds"] spLawCalm := ⟨⟨_, _, He.glo_ok X G (c.fact 57 (f := .glo "_law_calm") rfl), F__law_calm.kp, F__law_calm.binds (ps := ["size", "nexts", "behinds"]) fun _ _ _ _ _ _ us hl => match us, hl with | [_, _, _], _ => rfl, ok__law_calm F__law_calm m_sorted G__law_read⟩⟩
  have G_Net_befores : GM P w K mg base CNet "befores" 1 ["self"] (spBefores CNet) := ⟨clNet, ⟨_, _, eCNet ▸ He.meth_ok (c.fact 62 (f := .meth "Net" "befores") rfl), F_Net_befores.binds (ps := ["self"]) fun _ _ _ _ _ _ us hl => match us, hl with | [_], _ => rfl, ok_Net_befores F_Net_befores m_sorted T⟩⟩
  have G_between : GF P w K mg base "between" 2 ["size", "start", "place", "end"] spBetween := ⟨⟨_, _, He.glo_ok X G (c.fact 63 (f := .glo "between") rfl), F_between.kp, F_between.binds (ps := ["size", "start", "place", "end"]) fun _ _ _ _ _ _ us hl => match us, hl with | [_, _, _, _], _ => rfl, ok_between F_between G_far⟩⟩
  have G_Net_set_before : GM P w K mg base CNet "set_before" 2 ["self", "house", "before"] (spSetBefore CNet) := ⟨clNet, ⟨_, _, eCNet ▸ He.meth_ok (c.fact 64 (f := .meth "Net" "set_before") rfl), F_Net_set_before.binds (ps := ["self", "house", "before"]) fun _ _ _ _ _ _ us hl => match us, hl with | [_, _, _], _ => rfl, ok_Net_set_before F_Net_set_before G_check_houses T⟩⟩
  have G_tell_all : GF P w K mg base "tell_all" 3 ["net", "nexts"] (spTellAll CNet) := ⟨⟨_, _, He.glo_ok X G (c.fact 61 (f := .glo "tell_all") rfl), F_tell_all.kp, F_tell_all.binds (ps := ["net", "nexts"]) fun _ _ _ _ _ _ us hl => match us, hl with | [_, _], _ => rfl, ok_tell_all F_tell_all G_Net_befores m_sorted G_between G_Net_set_before T⟩⟩
  have G_Net_hold : GM P w K mg base CNet "hold" 2 ["self", "house", "target"] (spHold CNet) := ⟨clNet, ⟨_, _, eCNet ▸ He.meth_ok (c.fact 65 (f := .meth "Net" "hold") rfl), F_Net_hold.binds (ps := ["self", "house", "target"]) fun _ _ _ _ _ _ us hl => match us, hl with | [_, _, _], _ => rfl, ok_Net_hold F_Net_hold G_check_houses T⟩⟩
  have G_calm_round : GF P w K mg base "calm_round" 4 ["net"] (spCalm CNet) := ⟨⟨_, _, He.glo_ok X G (c.fact 60 (f := .glo "calm_round") rfl), F_calm_round.kp, F_calm_round.binds (ps := ["net"]) fun _ _ _ _ _ _ us hl => match us, hl with | [_], _ => rfl, ok_calm_round F_calm_round G_Net_nexts G_tell_all m_sorted G_between G_Net_hold T⟩⟩
  have G_Net__send : GM P w K mg base CNet "_send" 2 ["self", "word", "house"] (spSend CNet) := ⟨clNet, ⟨_, _, eCNet ▸ He.meth_ok (c.fact 68 (f := .meth "Net" "_send") rfl), F_Net__send.binds (ps := ["self", "word", "house"]) fun _ _ _ _ _ _ us hl => match us, hl with | [_, _, _], _ => rfl, ok_Net__send F_Net__send G_check_houses T⟩⟩
  have G_Net_tell : GM P w K mg base CNet "tell" 3 ["self", "house"] (spTell CNet) := ⟨clNet, ⟨_, _, eCNet ▸ He.meth_ok (c.fact 67 (f := .meth "Net" "tell") rfl), F_Net_tell.binds (ps := ["self", "house"]) fun _ _ _ _ _ _ us hl => match us, hl with | [_, _], _ => rfl, ok_Net_tell F_Net_tell G_Net__send T⟩⟩
  have G_Net__check_index : GM P w K mg base CNet "_check_index" 1 ["self", "at"] (spCheckIndex CNet) := ⟨clNet, ⟨_, _, eCNet ▸ He.meth_ok (c.fact 71 (f := .meth "Net" "_check_index") rfl), F_Net__check_index.binds (ps := ["self", "at"]) fun _ _ _ _ _ _ us hl => match us, hl with | [_, _], _ => rfl, ok_Net__check_index F_Net__check_index m_len T⟩⟩
  have G_Net_lose : GM P w K mg base CNet "lose" 2 ["self", "at"] (spLose CNet) := ⟨clNet, ⟨_, _, eCNet ▸ He.meth_ok (c.fact 70 (f := .meth "Net" "lose") rfl), F_Net_lose.binds (ps := ["self", "at"]) fun _ _ _ _ _ _ us hl => match us, hl with | [_, _], _ => rfl, ok_Net_lose F_Net_lose G_Net__check_index T⟩⟩
  have G_Net__read_tell : GM P w K mg base CNet "_read_tell" 3 ["self", "reader", "sender"] (spReadTell CNet) := ⟨clNet, ⟨_, _, eCNet ▸ He.meth_ok (c.fact 72 (f := .meth "Net" "_read_tell") rfl), F_Net__read_tell.binds (ps := ["self", "reader", "sender"]) fun _ _ _ _ _ _ us hl => match us, hl with | [_, _, _], _ => rfl, ok_Net__read_tell F_Net__read_tell G_between T⟩⟩
  have G_Net__read_ask : GM P w K mg base CNet "_read_ask" 1 ["self", "reader", "sender"] (spReadAsk CNet) := ⟨clNet, ⟨_, _, eCNet ▸ He.meth_ok (c.fact 73 (f := .meth "Net" "_read_ask") rfl), F_Net__read_ask.binds (ps := ["self", "reader", "sender"]) fun _ _ _ _ _ _ us hl => match us, hl with | [_, _, _], _ => rfl, ok_Net__read_ask F_Net__read_ask T⟩⟩
  have G_Net__read_answer : GM P w K mg base CNet "_read_answer" 3 ["self", "reader", "sender", "named"] (spReadAnswer CNet) := ⟨clNet, ⟨_, _, eCNet ▸ He.meth_ok (c.fact 74 (f := .meth "Net" "_read_answer") rfl), F_Net__read_answer.binds (ps := ["self", "reader", "sender", "named"]) fun _ _ _ _ _ _ us hl => match us, hl with | [_, _, _, _], _ => rfl, ok_Net__read_answer F_Net__read_answer G_between T⟩⟩
  have G_Net_read : GM P w K mg base CNet "read" 4 ["self", "at"] (spRead CNet) := ⟨clNet, ⟨_, _, eCNet ▸ He.meth_ok (c.fact 69 (f := .meth "Net" "read") rfl), F_Net_read.binds (ps := ["self", "at"]) fun _ _ _ _ _ _ us hl => match us, hl with | [_, _], _ => rfl, ok_Net_read F_Net_read G_Net_lose G_Net__read_tell G_Net__read_ask G_Net__read_answer T⟩⟩
  have G_Net_ask : GM P w K mg base CNet "ask" 3 ["self", "house"] (spAsk CNet) := ⟨clNet, ⟨_, _, eCNet ▸ He.meth_ok (c.fact 75 (f := .meth "Net" "ask") rfl), F_Net_ask.binds (ps := ["self", "house"]) fun _ _ _ _ _ _ us hl => match us, hl with | [_, _], _ => rfl, ok_Net_ask F_Net_ask G_Net__send T⟩⟩
  have G__law_exchange : GF P w K mg base "_law_exchange" 6 ["tape", "net", "size", "nexts", "behinds", "post"] (spDeed CNet) := ⟨⟨_, _, He.glo_ok X G (c.fact 66 (f := .glo "_law_exchange") rfl), F__law_exchange.kp, F__law_exchange.binds (ps := ["tape", "net", "size", "nexts", "behinds", "post"]) fun _ _ _ _ _ _ us hl => match us, hl with | [_, _, _, _, _, _], _ => rfl, ok__law_exchange F__law_exchange m_sorted G__law_pick m_len G__law_same G_Net_tell G__law_read G_Net_read G_Net_ask T⟩⟩
  have G_Net_repeat : GM P w K mg base CNet "repeat" 2 ["self", "at"] (spRepeat CNet) := ⟨clNet, ⟨_, _, eCNet ▸ He.meth_ok (c.fact 77 (f := .meth "Net" "repeat") rfl), F_Net_repeat.binds (ps := ["self", "at"]) fun _ _ _ _ _ _ us hl => match us, hl with | [_, _], _ => rfl, ok_Net_repeat F_Net_repeat G_Net__check_index T⟩⟩
  have G__law_deed : GF P w K mg base "_law_deed" 6 ["tape", "net", "size", "nexts", "behinds", "post"] (spDeed CNet) := ⟨⟨_, _, He.glo_ok X G (c.fact 76 (f := .glo "_law_deed") rfl), F__law_deed.kp, F__law_deed.binds (ps := ["tape", "net", "size", "nexts", "behinds", "post"]) fun _ _ _ _ _ _ us hl => match us, hl with | [_, _, _, _, _, _], _ => rfl, ok__law_deed F__law_deed m_sorted G__law_pick m_len G__law_same G_Net_lose G_Net_repeat G__law_read G_Net_read m_int G_Net_tell G_Net_ask T⟩⟩
  have G__law_step : GF P w K mg base "_law_step" 7 ["tape", "net", "size", "nexts", "behinds", "post"] (spDeed CNet) := ⟨⟨_, _, He.glo_ok X G (c.fact 53 (f := .glo "_law_step") rfl), F__law_step.kp, F__law_step.binds (ps := ["tape", "net", "size", "nexts", "behinds", "post"]) fun _ _ _ _ _ _ us hl => match us, hl with | [_, _, _, _, _, _], _ => rfl, ok__law_step F__law_step G__law_pick m_range G__law_same G__law_calm G_calm_round G__law_exchange G__law_deed T⟩⟩
  have G_Net_snapshot : GM P w K mg base CNet "snapshot" 1 ["self"] (spSnapshot CNet) := ⟨clNet, ⟨_, _, eCNet ▸ He.meth_ok (c.fact 79 (f := .meth "Net" "snapshot") rfl), F_Net_snapshot.binds (ps := ["self"]) fun _ _ _ _ _ _ us hl => match us, hl with | [_], _ => rfl, ok_Net_snapshot F_Net_snapshot m_sorted m_tuple T⟩⟩
  have G__law_stands : GF P w K mg base "_law_stands" 6 ["net", "size", "nexts", "behinds", "post"] (spStands CNet) := ⟨⟨_, _, He.glo_ok X G (c.fact 78 (f := .glo "_law_stands") rfl), F__law_stands.kp, F__law_stands.binds (ps := ["net", "size", "nexts", "behinds", "post"]) fun _ _ _ _ _ _ us hl => match us, hl with | [_, _, _, _, _], _ => rfl, ok__law_stands F__law_stands m_sorted G__law_same m_tuple G_Net_snapshot T⟩⟩
  have G_Store_find_worth : GM P w K mg base CStore "find_worth" 5 ["self", "house", "key"] (spFindWorth CStore CNet) := ⟨clStore, ⟨_, _, eCStore ▸ He.meth_ok (c.fact 81 (f := .meth "Store" "find_worth") rfl), F_Store_find_worth.binds (ps := ["self", "house", "key"]) fun _ _ _ _ _ _ us hl => match us, hl with | [_, _, _], _ => rfl, ok_Store_find_worth F_Store_find_worth G_Store__ring_from TStore T⟩⟩
  have G__law_found : GF P w K mg base "_law_found" 6 ["names", "single", "shop", "house", "key"] (spLawFound CStore CNet) := ⟨⟨_, _, He.glo_ok X G (c.fact 80 (f := .glo "_law_found") rfl), F__law_found.kp, F__law_found.binds (ps := ["names", "single", "shop", "house", "key"]) fun _ _ _ _ _ _ us hl => match us, hl with | [_, _, _, _, _], _ => rfl, ok__law_found F__law_found G__law_same G_Store_find_worth TStore T⟩⟩
  have G__law_found_all : GF P w K mg base "_law_found_all" 7 ["names", "single", "shop", "keys"] (spFoundAll CStore CNet) := ⟨⟨_, _, He.glo_ok X G (c.fact 82 (f := .glo "_law_found_all") rfl), F__law_found_all.kp, F__law_found_all.binds (ps := ["names", "single", "shop", "keys"]) fun _ _ _ _ _ _ us hl => match us, hl with | [_, _, _, _], _ => rfl, ok__law_found_all F__law_found_all m_sorted G__law_found TStore T⟩⟩
  have m_sum : mg "sum" = none := He.free_ok X G (c.fact 84 (f := .free "sum") rfl)
  have G__law_turns : GF P w K mg base "_law_turns" 2 ["size", "nexts", "house"] spTurns := ⟨⟨_, _, He.glo_ok X G (c.fact 83 (f := .glo "_law_turns") rfl), F__law_turns.kp, F__law_turns.binds (ps := ["size", "nexts", "house"]) fun _ _ _ _ _ _ us hl => match us, hl with | [_, _, _], _ => rfl, ok__law_turns F__law_turns m_sum G__law_ring G__law_far⟩⟩
  obtain ⟨it_N_Store_p1, KB_N_Store_p1⟩ := L2.FunD.kbindsD D_Store___init__ (ps := ["self", "net", "copies"]) 2 [] (fun us its ws => us ++ its) (by intro z; cases z) (fun r1 r2 r3 => r1.append r2) (fun T kV doc pm an cdv ct us its ws l1 l2 l3 => match us, l1, its, l2, ws, l3 with
    | [_, _], _, [_], _, [], _ => ⟨_, rfl, rfl⟩)
  have N_Store_p1 : GC P w K mg base CStore "Store" 1 ["self", "net", "copies"] 1 [] (fun vs zs => vs ++ [V.int 1]) (spStoreInit CStore) := ⟨⟨_, _, _, eCStore ▸ He.mkr_ok (c.fact 85 (f := .mkr "Store") rfl), eCStore ▸ He.glo_ok X G (c.fact 86 (f := .glo "Store") rfl), ok_Store___init__ F_Store___init__ TStore, ⟨KB_N_Store_p1.to, KB_N_Store_p1.rel⟩⟩⟩
  obtain ⟨it_N_Store_p2, KB_N_Store_p2⟩ := L2.FunD.kbindsD D_Store___init__ (ps := ["self", "net", "copies"]) 3 [] (fun us its ws => us) (by intro z; cases z) (fun r1 r2 r3 => r1) (fun T kV doc pm an cdv ct us its ws l1 l2 l3 => match us, l1, its, l2, ws, l3 with
    | [_, _, _], _, [_], _, [], _ => ⟨_, rfl, rfl⟩)
  have N_Store_p2 : GC P w K mg base CStore "Store" 1 ["self", "net", "copies"] 2 [] (fun vs zs => vs) (spStoreInit CStore) := ⟨⟨_, _, _, eCStore ▸ He.mkr_ok (c.fact 85 (f := .mkr "Store") rfl), eCStore ▸ He.glo_ok X G (c.fact 86 (f := .glo "Store") rfl), ok_Store___init__ F_Store___init__ TStore, ⟨KB_N_Store_p2.to, KB_N_Store_p2.rel⟩⟩⟩
  exact ok_law F_law G__law_tape G__law_pick G__law_size G__law_places m_sorted G__law_rings G__law_start N_Net_befores_letters m_list m_dict G__law_put m_len G_Net_admit G__law_step G__law_stands G__law_found G__law_found_all G__law_root G__law_turns N_Store_p1 N_Store_p2 m_int m_range T TStore
end RL
open PySem PySem.W PySem.Calls PyProof.Rows
theorem PySem.Challenge.cw_ringlaps_k72_whole_last_put_first_holds : PySem.Challenge.rw_ringlaps_k72_whole_last_put_first.Holds := by
  w_on; o_law
  refine HandSHeadRun.head_any (r := OpenLaw.row PySem.Challenge.rw_ringlaps_k72_whole_last_put_first) (q := view (OpenLaw.row PySem.Challenge.rw_ringlaps_k72_whole_last_put_first).prog [56]) (H := RL.hk) (ob := RL.ob) (M := 6000) (loose := RL.nmL) (d := HandSHeadRun.topDef (OpenLaw.row PySem.Challenge.rw_ringlaps_k72_whole_last_put_first).prog 56) (kwd := []) RL.ob_eq
    (by kernel_rfl) (fun s => by kernel_rfl) RL.run (by kernel_rfl) (by kernel_rfl) (by kernel_rfl) (by rfl) (by first | assumption | decide +kernel) (by decide +kernel) ⟨rfl, rfl, rfl, rfl, rfl, by decide +kernel⟩ ?hw ?hc
  case hw => w_witness2
  case hc =>
    refine L2.walk_ofE (l := PySem.Challenge.rw_ringlaps_k72_whole_last_put_first) (n := 63) (k := 8) (x := "script") (CX := L2.CX0) rfl (by decide) (by kernel_rfl) ⟨rfl, by decide, by decide⟩ ?F (fun _ _ _ _ z => z)
    intro w mg fa h Y G hmg0
    obtain ⟨K, KX, c⟩ := Y
    have hmg : mg ("law" : PySem.Str) = some (.ref fa) := by
      have e : (HandSHeadRun.topDef (OpenLaw.row PySem.Challenge.rw_ringlaps_k72_whole_last_put_first).prog 56).name = ("law" : PySem.Str) := by kernel_rfl
      rw [← e]
      exact hmg0
    obtain ⟨fd, hb, hF⟩ := RL.facts (P := (PySem.Challenge.rw_ringlaps_k72_whole_last_put_first).prog) (w := w) KX G hmg c
    exact ⟨K, fd, RL.spLaw K, KX, hb, fun H a ns hl _ hS => ⟨a, ns, rfl, hS, hl, fun _ => rfl⟩, hF⟩
