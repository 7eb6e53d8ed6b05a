import PyProof.Rows.All
import Wide.All
import OpenK.AllK
import Wide.FinOn
import Lean
import PySem.Challenge.RW_pc0056_01
open PySem PySem.W PySem.Calls PySem.Spec PyProof.Rows
set_option Elab.async false
set_option linter.all false
set_option maxRecDepth 100000
set_option genSizeOf false
set_option genInjectivity false
set_option tactic.hygienic false
set_option compiler.extract_closed false
set_option bootstrap.genMatcherCode false
set_option genCtorIdx false
namespace Mine
abbrev VP:=Value→Shared→Prop
theorem sY {α:Sort _} {a b:α} (h:a=b):b=a:=h.symm
def tI (n:Lean.Name):Lean.Syntax:=.node .none `Lean.Parser.Tactic.tacticSeq #[.node .none `Lean.Parser.Tactic.tacticSeq1Indented #[.node .none `null #[.node .none `Lean.Parser.Tactic.exact #[.atom .none "exact",Lean.mkIdent n]]]]
def zB:Lean.Syntax:=tI `Mine.qT
def OQ:Lean.Syntax:=tI `Mine.qK
def xX:Lean.Syntax:=tI `Mine.qF
def j4:Lean.Syntax:=tI `Mine.qG
def xW:Lean.Syntax:=tI `Mine.qW
def LY:Lean.Syntax:=tI `Mine.qS
def OR:Lean.Syntax:=tI `Mine.qI
def Js:Lean.Syntax:=tI `Mine.qB
def OP:Lean.Syntax:=tI `Mine.qU
theorem qT:true=true:=rfl
theorem qF:false=false:=rfl
theorem qL:some NameKind.local=some NameKind.local:=rfl
theorem qG:some NameKind.globalImplicit=some NameKind.globalImplicit:=rfl
theorem qK:ScopeKind.function=ScopeKind.function:=rfl
section
variable {x y a b c d:Nat}
theorem dU (h:x < a) (e:Nat.ble a b=true):x < b:=Nat.lt_of_lt_of_le h (Nat.le_of_ble_eq_true e)
theorem iQ (h:x≤a) (e:Nat.blt a b=true):x < b:=Nat.lt_of_le_of_lt h (Nat.le_of_ble_eq_true e)
theorem lO (h:x≤a) (e:Nat.ble a b=true):x≤b:=Nat.le_trans h (Nat.le_of_ble_eq_true e)
theorem zC (h:x < a) (e:Nat.ble a (b+1)=true):x≤b:=Nat.le_of_lt_succ (dU h e)
theorem CH (h:x < a) (e:Nat.ble (a+c) b=true):x+c < b:=dU (Nat.add_lt_add_right h c) e
theorem FO (h:x≤a) (e:Nat.blt (a+c) b=true):x+c < b:=iQ (Nat.add_le_add_right h c) e
theorem LX (h:x≤a) (e:Nat.ble (a+c) b=true):x+c≤b:=lO (Nat.add_le_add_right h c) e
theorem OO (h:x < a) (e:Nat.ble (a+c) (b+1)=true):x+c≤b:=Nat.le_of_lt_succ (CH h e)
theorem OM (h:x < a) (k:y < b) (e:Nat.ble (a+b) (d+1)=true):x+y < d:=
 have:x+1+(y+1)≤d+1:=lO (Nat.add_le_add h k) e
 Nat.lt_of_succ_le (Nat.le_of_succ_le_succ (Nat.le_trans (Nat.le_of_eq (congrArg (·+1) (Nat.add_right_comm x y 1))) this))
theorem LR (h:x≤a) (k:y≤b) (e:Nat.blt (a+b) d=true):x+y < d:=iQ (Nat.add_le_add h k) e
theorem CF (h:x≤a) (k:y≤b) (e:Nat.ble (a+b) d=true):x+y≤d:=lO (Nat.add_le_add h k) e
end
section
variable {x y i j L R n N u k f:Nat}
theorem te (e:L=1+y+x+2) (h1:y≤1) (h2:x≤2):L≤6:=e▸LX (CF (Nat.add_le_add_left h1 1) h2 (d:=4) rfl) rfl
theorem KY (h:R < 3900):min i R+1+(R - j) < 8000:=LR (OO (c:=1) (b:=3900) (Nat.lt_of_le_of_lt (Nat.min_le_right i R) h) rfl) (Nat.le_trans (Nat.sub_le R j) (Nat.le_of_lt h)) rfl
theorem FE (h:n < f):f=f - 1+1:=(Nat.sub_add_cancel (Nat.lt_of_le_of_lt (Nat.zero_le n) h)).symm
theorem AD (g:u+10 * N+10 < R):u < R:=Nat.lt_of_le_of_lt (Nat.le_trans (Nat.le_add_right u _) (Nat.le_add_right _ _)) g
theorem Jh (h:n+1≤N) (g:u+10 * N+10 < R):u+1+10 * n+10 < R:=by omega
theorem Md (h:n+1≤N) (g:u+40 * N+40 < R):u+3+40 * n+40 < R:=by omega
theorem Mc (h:n+1≤N) (g:u+40 * N+40 < R):u+1+40 * n+40 < R:=by omega
theorem Mb (h:x≤20) (g:u+40 * n+40 < R):u+x < R:=by omega
theorem Ma (h:x≤20) (g:u+40 * n+40 < R):u+1+x < R:=by omega
theorem OJ (g:u+10 * n+10 < R):u+1+2 < R:=by omega
theorem MP (h:N=i+n+x) (h1:j≤n):N - (j+x)=i+(n - j):=by rw [h,Nat.add_sub_add_right,Nat.add_sub_assoc h1]
theorem BK (h:j≤i) (e:k=L - i∧i≤L):k+j≤L:=e.1▸Nat.le_trans (Nat.add_le_add_left h _) (Nat.le_of_eq (Nat.sub_add_cancel e.2))
theorem Mp (h:i≤j):((j:Int) - i).toNat=j - i:=by rw [← Int.ofNat_sub h];rfl
end
section
variable {s r:Nat}
theorem rw4 (h:s < 100) (k:r < 100):4+s+2+r+1 < 8000:=by omega
theorem rw3 (h:s < 100) (k:r < 100):4+s+2+r < 8000:=Nat.lt_of_succ_lt (rw4 h k)
theorem rw2 (h:s < 100):4+s+2 < 8000:=rw3 (r:=0) h (by decide)
theorem rw1 (h:s < 100):4+s < 8000:=Nat.lt_of_succ_lt (Nat.lt_of_succ_lt (rw2 h))
end
section
variable {x y s r i j k n L R J F N o c:Nat} {l:List Nat}
theorem Kz {i j:Int} (h:(n:Int)≤j):n≤(j - i).toNat+i.toNat:=by omega
theorem KQ {j:Int} (h:¬ 0≤j):j=-((-j).toNat:Int):=by omega
theorem KR (h:¬ 0≤-(k:Int)):1≤k:=by omega
theorem Nc (h:i≤j) (e:R≤6):min i R+(R - j+1)≤12:=by omega
theorem LJ (h:R≤100):∃ f,4000=(f+1)+R:=⟨3999 - R,by rw [Nat.add_right_comm,Nat.sub_add_cancel (lO h rfl)]⟩
end
theorem gA {l:List Nat} {k:Nat} {r:List Nat} (h:l.drop k=r) (hk:k≤l.length):k=l.length - r.length∧r.length≤l.length:=by
 rw [← h,List.length_drop];exact ⟨(Nat.sub_sub_self hk).symm,Nat.sub_le _ _⟩
theorem Np {r s J n:Nat} (h:r < 100) (k:s < 20) (i:J≤120 * n):r+s+J≤120 * (n+1):=Nat.le_trans (Nat.le_of_eq (Nat.add_comm _ _)) (Nat.add_le_add i (CF (Nat.le_of_lt h) (Nat.le_of_lt k) rfl))
theorem Nn {r J n:Nat} (h:r < 100) (i:J≤100 * n):r+J≤100 * (n+1):=Nat.le_trans (Nat.le_of_eq (Nat.add_comm _ _)) (Nat.add_le_add i (Nat.le_of_lt h))
theorem Nm {J n:Nat} (h:n≤12) (i:J≤120 * n):J+1 < 3900:=FO (Nat.le_trans i (Nat.mul_le_mul_left 120 h)) rfl
theorem Nl {J n:Nat} (h:n≤12) (i:J≤100 * n):J < 2000:=iQ (Nat.le_trans i (Nat.mul_le_mul_left 100 h)) rfl
theorem IQ {y x:Nat} (h:0=1+y+x+2):False:=Nat.noConfusion h
@[elab_as_elim] theorem mP {α:Type} {P:List α→Prop} (l:List α) (h:l.length≤1) (h0:P []) (h1:∀ a,P [a]):P l:=by
 cases l with
 |nil=>exact h0
 |cons a t=>cases t with
  |nil=>exact h1 a
  |cons=>exact absurd (Nat.le_of_succ_le_succ h) (Nat.not_succ_le_zero _)
@[elab_as_elim] theorem p8 {α:Type} {P:List α→Prop} (l:List α) (h:l.length≤2) (h0:P []) (h1:∀ a,P [a]) (h2:∀ a b,P [a,b]):P l:=by
 cases l with
 |nil=>exact h0
 |cons a t=>exact mP (P:=λt=>P (a::t)) t (Nat.le_of_succ_le_succ h) (h1 a) (h2 a)
theorem len0 {β:Type} {m:List β} (e:0=m.length):m=[]:=List.eq_nil_of_length_eq_zero e.symm
@[elab_as_elim] theorem vF {α β:Type} {P:List α→List β→Prop} (l:List α) (m:List β) (e:l.length=m.length) (h:l.length≤2) (h0:P [] []) (h1:∀ a b,P [a] [b]) (h2:∀ a a' b b',P [a,a'] [b,b']):P l m:=by
 revert e
 refine p8 (P:=λl=>l.length=m.length→P l m) l h ?_ ?_ ?_
 ·intro e;rw [len0 e];exact h0
 ·intro a e;cases m with
  |nil=>cases e
  |cons b m=>rw [len0 (Nat.succ.inj e)];exact h1 a b
 ·intro a a' e;cases m with
  |nil=>cases e
  |cons b m=>cases m with
   |nil=>cases e
   |cons b' m=>rw [len0 (Nat.succ.inj (Nat.succ.inj e))];exact h2 a a' b b'
@[elab_as_elim] theorem KZ {P:Nat→Prop} (d:Nat) (h:d < 3) (h0:P 0) (h1:P 1) (h2:P 2):P d:=by
 rcases d with _ |_ |_ |d
 ·exact h0
 ·exact h1
 ·exact h2
 ·exact absurd (Nat.lt_of_succ_lt_succ (Nat.lt_of_succ_lt_succ (Nat.lt_of_succ_lt_succ h))) (Nat.not_lt_zero _)
@[elab_as_elim] theorem Nd {P:Nat→Prop} (d:Nat) (h:d < 6) (h0:P 0) (h1:P 1) (h2:P 2) (h3:P 3) (h4:P 4) (h5:P 5):P d:=by
 rcases d with _ |_ |_ |d
 ·exact h0
 ·exact h1
 ·exact h2
 ·exact KZ (P:=λd=>P (d+3)) d (Nat.lt_of_succ_lt_succ (Nat.lt_of_succ_lt_succ (Nat.lt_of_succ_lt_succ h))) h3 h4 h5
theorem aQ  {P0 P1:Prop} {X:Prop} (h:P0∧P1) (k:P0→P1→X):X:=k h.1 h.2
theorem bZ  {P0 P1 P2:Prop} {X:Prop} (h:P0∧P1∧P2) (k:P0→P1→P2→X):X:=k h.1 h.2.1 h.2.2
theorem gj  {P0 P1 P2 P3:Prop} {X:Prop} (h:P0∧P1∧P2∧P3) (k:P0→P1→P2→P3→X):X:=k h.1 h.2.1 h.2.2.1 h.2.2.2
theorem qg  {P0 P1 P2 P3 P4:Prop} {X:Prop} (h:P0∧P1∧P2∧P3∧P4) (k:P0→P1→P2→P3→P4→X):X:=k h.1 h.2.1 h.2.2.1 h.2.2.2.1 h.2.2.2.2
theorem JX  {P0 P1 P2 P3 P4 P5:Prop} {X:Prop} (h:P0∧P1∧P2∧P3∧P4∧P5) (k:P0→P1→P2→P3→P4→P5→X):X:=k h.1 h.2.1 h.2.2.1 h.2.2.2.1 h.2.2.2.2.1 h.2.2.2.2.2
theorem bg {bQ:Sort _} {P0:bQ→Prop} {X:Prop} (h:∃ a0,P0 a0) (k:∀ a0,P0 a0→X):X:=h.elim λa0 h=>k a0 h
theorem ai {bQ:Sort _} {P0 P1:bQ→Prop} {X:Prop} (h:∃ a0,P0 a0∧P1 a0) (k:∀ a0,P0 a0→P1 a0→X):X:=h.elim λa0 h=>k a0 h.1 h.2
theorem cO {bQ:Sort _} {P0 P1 P2:bQ→Prop} {X:Prop} (h:∃ a0,P0 a0∧P1 a0∧P2 a0) (k:∀ a0,P0 a0→P1 a0→P2 a0→X):X:=h.elim λa0 h=>k a0 h.1 h.2.1 h.2.2
theorem vI {bQ:Sort _} {cb:Sort _} {P0:bQ→cb→Prop} {X:Prop} (h:∃ a0 a1,P0 a0 a1) (k:∀ a0 a1,P0 a0 a1→X):X:=h.elim λa0 h=>h.elim λa1 h=>k a0 a1 h
theorem fk {bQ:Sort _} {cb:Sort _} {P0 P1:bQ→cb→Prop} {X:Prop} (h:∃ a0 a1,P0 a0 a1∧P1 a0 a1) (k:∀ a0 a1,P0 a0 a1→P1 a0 a1→X):X:=h.elim λa0 h=>h.elim λa1 h=>k a0 a1 h.1 h.2
theorem bk {bQ:Sort _} {cb:Sort _} {P0 P1 P2:bQ→cb→Prop} {X:Prop} (h:∃ a0 a1,P0 a0 a1∧P1 a0 a1∧P2 a0 a1) (k:∀ a0 a1,P0 a0 a1→P1 a0 a1→P2 a0 a1→X):X:=h.elim λa0 h=>h.elim λa1 h=>k a0 a1 h.1 h.2.1 h.2.2
theorem ke {bQ:Sort _} {cb:Sort _} {P0 P1 P2 P3:bQ→cb→Prop} {X:Prop} (h:∃ a0 a1,P0 a0 a1∧P1 a0 a1∧P2 a0 a1∧P3 a0 a1) (k:∀ a0 a1,P0 a0 a1→P1 a0 a1→P2 a0 a1→P3 a0 a1→X):X:=h.elim λa0 h=>h.elim λa1 h=>k a0 a1 h.1 h.2.1 h.2.2.1 h.2.2.2
theorem mZ {bQ:Sort _} {cb:Sort _} {P0 P1 P2 P3 P4:bQ→cb→Prop} {X:Prop} (h:∃ a0 a1,P0 a0 a1∧P1 a0 a1∧P2 a0 a1∧P3 a0 a1∧P4 a0 a1) (k:∀ a0 a1,P0 a0 a1→P1 a0 a1→P2 a0 a1→P3 a0 a1→P4 a0 a1→X):X:=h.elim λa0 h=>h.elim λa1 h=>k a0 a1 h.1 h.2.1 h.2.2.1 h.2.2.2.1 h.2.2.2.2
theorem aJ {bQ:Sort _} {cb:Sort _} {da:Sort _} {P0:bQ→cb→da→Prop} {X:Prop} (h:∃ a0 a1 a2,P0 a0 a1 a2) (k:∀ a0 a1 a2,P0 a0 a1 a2→X):X:=h.elim λa0 h=>h.elim λa1 h=>h.elim λa2 h=>k a0 a1 a2 h
theorem lB {bQ:Sort _} {cb:Sort _} {da:Sort _} {P0 P1:bQ→cb→da→Prop} {X:Prop} (h:∃ a0 a1 a2,P0 a0 a1 a2∧P1 a0 a1 a2) (k:∀ a0 a1 a2,P0 a0 a1 a2→P1 a0 a1 a2→X):X:=h.elim λa0 h=>h.elim λa1 h=>h.elim λa2 h=>k a0 a1 a2 h.1 h.2
theorem Ae {bQ:Sort _} {cb:Sort _} {da:Sort _} {P0 P1 P2:bQ→cb→da→Prop} {X:Prop} (h:∃ a0 a1 a2,P0 a0 a1 a2∧P1 a0 a1 a2∧P2 a0 a1 a2) (k:∀ a0 a1 a2,P0 a0 a1 a2→P1 a0 a1 a2→P2 a0 a1 a2→X):X:=h.elim λa0 h=>h.elim λa1 h=>h.elim λa2 h=>k a0 a1 a2 h.1 h.2.1 h.2.2
theorem lA {bQ:Sort _} {cb:Sort _} {da:Sort _} {P0 P1 P2 P3:bQ→cb→da→Prop} {X:Prop} (h:∃ a0 a1 a2,P0 a0 a1 a2∧P1 a0 a1 a2∧P2 a0 a1 a2∧P3 a0 a1 a2) (k:∀ a0 a1 a2,P0 a0 a1 a2→P1 a0 a1 a2→P2 a0 a1 a2→P3 a0 a1 a2→X):X:=h.elim λa0 h=>h.elim λa1 h=>h.elim λa2 h=>k a0 a1 a2 h.1 h.2.1 h.2.2.1 h.2.2.2
theorem JW {bQ:Sort _} {cb:Sort _} {da:Sort _} {P0 P1 P2 P3 P4:bQ→cb→da→Prop} {X:Prop} (h:∃ a0 a1 a2,P0 a0 a1 a2∧P1 a0 a1 a2∧P2 a0 a1 a2∧P3 a0 a1 a2∧P4 a0 a1 a2) (k:∀ a0 a1 a2,P0 a0 a1 a2→P1 a0 a1 a2→P2 a0 a1 a2→P3 a0 a1 a2→P4 a0 a1 a2→X):X:=h.elim λa0 h=>h.elim λa1 h=>h.elim λa2 h=>k a0 a1 a2 h.1 h.2.1 h.2.2.1 h.2.2.2.1 h.2.2.2.2
theorem vH {bQ:Sort _} {cb:Sort _} {da:Sort _} {P0 P1 P2 P3 P4 P5:bQ→cb→da→Prop} {X:Prop} (h:∃ a0 a1 a2,P0 a0 a1 a2∧P1 a0 a1 a2∧P2 a0 a1 a2∧P3 a0 a1 a2∧P4 a0 a1 a2∧P5 a0 a1 a2) (k:∀ a0 a1 a2,P0 a0 a1 a2→P1 a0 a1 a2→P2 a0 a1 a2→P3 a0 a1 a2→P4 a0 a1 a2→P5 a0 a1 a2→X):X:=h.elim λa0 h=>h.elim λa1 h=>h.elim λa2 h=>k a0 a1 a2 h.1 h.2.1 h.2.2.1 h.2.2.2.1 h.2.2.2.2.1 h.2.2.2.2.2
theorem JV {bQ:Sort _} {cb:Sort _} {da:Sort _} {P0 P1 P2 P3 P4 P5 P6 P7:bQ→cb→da→Prop} {X:Prop} (h:∃ a0 a1 a2,P0 a0 a1 a2∧P1 a0 a1 a2∧P2 a0 a1 a2∧P3 a0 a1 a2∧P4 a0 a1 a2∧P5 a0 a1 a2∧P6 a0 a1 a2∧P7 a0 a1 a2) (k:∀ a0 a1 a2,P0 a0 a1 a2→P1 a0 a1 a2→P2 a0 a1 a2→P3 a0 a1 a2→P4 a0 a1 a2→P5 a0 a1 a2→P6 a0 a1 a2→P7 a0 a1 a2→X):X:=h.elim λa0 h=>h.elim λa1 h=>h.elim λa2 h=>k a0 a1 a2 h.1 h.2.1 h.2.2.1 h.2.2.2.1 h.2.2.2.2.1 h.2.2.2.2.2.1 h.2.2.2.2.2.2.1 h.2.2.2.2.2.2.2
theorem Ad {bQ:Sort _} {cb:Sort _} {da:Sort _} {fy:Sort _} {P0:bQ→cb→da→fy→Prop} {X:Prop} (h:∃ a0 a1 a2 a3,P0 a0 a1 a2 a3) (k:∀ a0 a1 a2 a3,P0 a0 a1 a2 a3→X):X:=h.elim λa0 h=>h.elim λa1 h=>h.elim λa2 h=>h.elim λa3 h=>k a0 a1 a2 a3 h
theorem Ac {bQ:Sort _} {cb:Sort _} {da:Sort _} {fy:Sort _} {P0 P1:bQ→cb→da→fy→Prop} {X:Prop} (h:∃ a0 a1 a2 a3,P0 a0 a1 a2 a3∧P1 a0 a1 a2 a3) (k:∀ a0 a1 a2 a3,P0 a0 a1 a2 a3→P1 a0 a1 a2 a3→X):X:=h.elim λa0 h=>h.elim λa1 h=>h.elim λa2 h=>h.elim λa3 h=>k a0 a1 a2 a3 h.1 h.2
theorem ly {bQ:Sort _} {cb:Sort _} {da:Sort _} {fy:Sort _} {P0 P1 P2:bQ→cb→da→fy→Prop} {X:Prop} (h:∃ a0 a1 a2 a3,P0 a0 a1 a2 a3∧P1 a0 a1 a2 a3∧P2 a0 a1 a2 a3) (k:∀ a0 a1 a2 a3,P0 a0 a1 a2 a3→P1 a0 a1 a2 a3→P2 a0 a1 a2 a3→X):X:=h.elim λa0 h=>h.elim λa1 h=>h.elim λa2 h=>h.elim λa3 h=>k a0 a1 a2 a3 h.1 h.2.1 h.2.2
theorem E4 {bQ:Sort _} {cb:Sort _} {da:Sort _} {fy:Sort _} {P0 P1 P2 P3:bQ→cb→da→fy→Prop} {X:Prop} (h:∃ a0 a1 a2 a3,P0 a0 a1 a2 a3∧P1 a0 a1 a2 a3∧P2 a0 a1 a2 a3∧P3 a0 a1 a2 a3) (k:∀ a0 a1 a2 a3,P0 a0 a1 a2 a3→P1 a0 a1 a2 a3→P2 a0 a1 a2 a3→P3 a0 a1 a2 a3→X):X:=h.elim λa0 h=>h.elim λa1 h=>h.elim λa2 h=>h.elim λa3 h=>k a0 a1 a2 a3 h.1 h.2.1 h.2.2.1 h.2.2.2
theorem sI {bQ:Sort _} {cb:Sort _} {da:Sort _} {fy:Sort _} {P0 P1 P2 P3 P4:bQ→cb→da→fy→Prop} {X:Prop} (h:∃ a0 a1 a2 a3,P0 a0 a1 a2 a3∧P1 a0 a1 a2 a3∧P2 a0 a1 a2 a3∧P3 a0 a1 a2 a3∧P4 a0 a1 a2 a3) (k:∀ a0 a1 a2 a3,P0 a0 a1 a2 a3→P1 a0 a1 a2 a3→P2 a0 a1 a2 a3→P3 a0 a1 a2 a3→P4 a0 a1 a2 a3→X):X:=h.elim λa0 h=>h.elim λa1 h=>h.elim λa2 h=>h.elim λa3 h=>k a0 a1 a2 a3 h.1 h.2.1 h.2.2.1 h.2.2.2.1 h.2.2.2.2
theorem eO {bQ:Sort _} {cb:Sort _} {da:Sort _} {fy:Sort _} {P0 P1 P2 P3 P4 P5:bQ→cb→da→fy→Prop} {X:Prop} (h:∃ a0 a1 a2 a3,P0 a0 a1 a2 a3∧P1 a0 a1 a2 a3∧P2 a0 a1 a2 a3∧P3 a0 a1 a2 a3∧P4 a0 a1 a2 a3∧P5 a0 a1 a2 a3) (k:∀ a0 a1 a2 a3,P0 a0 a1 a2 a3→P1 a0 a1 a2 a3→P2 a0 a1 a2 a3→P3 a0 a1 a2 a3→P4 a0 a1 a2 a3→P5 a0 a1 a2 a3→X):X:=h.elim λa0 h=>h.elim λa1 h=>h.elim λa2 h=>h.elim λa3 h=>k a0 a1 a2 a3 h.1 h.2.1 h.2.2.1 h.2.2.2.1 h.2.2.2.2.1 h.2.2.2.2.2
theorem Ab {bQ:Sort _} {cb:Sort _} {da:Sort _} {fy:Sort _} {P0 P1 P2 P3 P4 P5 P6 P7:bQ→cb→da→fy→Prop} {X:Prop} (h:∃ a0 a1 a2 a3,P0 a0 a1 a2 a3∧P1 a0 a1 a2 a3∧P2 a0 a1 a2 a3∧P3 a0 a1 a2 a3∧P4 a0 a1 a2 a3∧P5 a0 a1 a2 a3∧P6 a0 a1 a2 a3∧P7 a0 a1 a2 a3) (k:∀ a0 a1 a2 a3,P0 a0 a1 a2 a3→P1 a0 a1 a2 a3→P2 a0 a1 a2 a3→P3 a0 a1 a2 a3→P4 a0 a1 a2 a3→P5 a0 a1 a2 a3→P6 a0 a1 a2 a3→P7 a0 a1 a2 a3→X):X:=h.elim λa0 h=>h.elim λa1 h=>h.elim λa2 h=>h.elim λa3 h=>k a0 a1 a2 a3 h.1 h.2.1 h.2.2.1 h.2.2.2.1 h.2.2.2.2.1 h.2.2.2.2.2.1 h.2.2.2.2.2.2.1 h.2.2.2.2.2.2.2
theorem JU {bQ:Sort _} {cb:Sort _} {da:Sort _} {fy:Sort _} {ou:Sort _} {P0 P1 P2 P3:bQ→cb→da→fy→ou→Prop} {X:Prop} (h:∃ a0 a1 a2 a3 a4,P0 a0 a1 a2 a3 a4∧P1 a0 a1 a2 a3 a4∧P2 a0 a1 a2 a3 a4∧P3 a0 a1 a2 a3 a4) (k:∀ a0 a1 a2 a3 a4,P0 a0 a1 a2 a3 a4→P1 a0 a1 a2 a3 a4→P2 a0 a1 a2 a3 a4→P3 a0 a1 a2 a3 a4→X):X:=h.elim λa0 h=>h.elim λa1 h=>h.elim λa2 h=>h.elim λa3 h=>h.elim λa4 h=>k a0 a1 a2 a3 a4 h.1 h.2.1 h.2.2.1 h.2.2.2
theorem JT {bQ:Sort _} {cb:Sort _} {da:Sort _} {fy:Sort _} {ou:Sort _} {P0 P1 P2 P3 P4:bQ→cb→da→fy→ou→Prop} {X:Prop} (h:∃ a0 a1 a2 a3 a4,P0 a0 a1 a2 a3 a4∧P1 a0 a1 a2 a3 a4∧P2 a0 a1 a2 a3 a4∧P3 a0 a1 a2 a3 a4∧P4 a0 a1 a2 a3 a4) (k:∀ a0 a1 a2 a3 a4,P0 a0 a1 a2 a3 a4→P1 a0 a1 a2 a3 a4→P2 a0 a1 a2 a3 a4→P3 a0 a1 a2 a3 a4→P4 a0 a1 a2 a3 a4→X):X:=h.elim λa0 h=>h.elim λa1 h=>h.elim λa2 h=>h.elim λa3 h=>h.elim λa4 h=>k a0 a1 a2 a3 a4 h.1 h.2.1 h.2.2.1 h.2.2.2.1 h.2.2.2.2
theorem JS {bQ:Sort _} {cb:Sort _} {da:Sort _} {fy:Sort _} {ou:Sort _} {P0 P1 P2 P3 P4 P5 P6 P7:bQ→cb→da→fy→ou→Prop} {X:Prop} (h:∃ a0 a1 a2 a3 a4,P0 a0 a1 a2 a3 a4∧P1 a0 a1 a2 a3 a4∧P2 a0 a1 a2 a3 a4∧P3 a0 a1 a2 a3 a4∧P4 a0 a1 a2 a3 a4∧P5 a0 a1 a2 a3 a4∧P6 a0 a1 a2 a3 a4∧P7 a0 a1 a2 a3 a4) (k:∀ a0 a1 a2 a3 a4,P0 a0 a1 a2 a3 a4→P1 a0 a1 a2 a3 a4→P2 a0 a1 a2 a3 a4→P3 a0 a1 a2 a3 a4→P4 a0 a1 a2 a3 a4→P5 a0 a1 a2 a3 a4→P6 a0 a1 a2 a3 a4→P7 a0 a1 a2 a3 a4→X):X:=h.elim λa0 h=>h.elim λa1 h=>h.elim λa2 h=>h.elim λa3 h=>h.elim λa4 h=>k a0 a1 a2 a3 a4 h.1 h.2.1 h.2.2.1 h.2.2.2.1 h.2.2.2.2.1 h.2.2.2.2.2.1 h.2.2.2.2.2.2.1 h.2.2.2.2.2.2.2
theorem JR {bQ:Sort _} {cb:Sort _} {da:Sort _} {fy:Sort _} {ou:Sort _} {AN:Sort _} {P0:bQ→cb→da→fy→ou→AN→Prop} {X:Prop} (h:∃ a0 a1 a2 a3 a4 a5,P0 a0 a1 a2 a3 a4 a5) (k:∀ a0 a1 a2 a3 a4 a5,P0 a0 a1 a2 a3 a4 a5→X):X:=h.elim λa0 h=>h.elim λa1 h=>h.elim λa2 h=>h.elim λa3 h=>h.elim λa4 h=>h.elim λa5 h=>k a0 a1 a2 a3 a4 a5 h
theorem JQ {bQ:Sort _} {cb:Sort _} {da:Sort _} {fy:Sort _} {ou:Sort _} {AN:Sort _} {P0 P1 P2:bQ→cb→da→fy→ou→AN→Prop} {X:Prop} (h:∃ a0 a1 a2 a3 a4 a5,P0 a0 a1 a2 a3 a4 a5∧P1 a0 a1 a2 a3 a4 a5∧P2 a0 a1 a2 a3 a4 a5) (k:∀ a0 a1 a2 a3 a4 a5,P0 a0 a1 a2 a3 a4 a5→P1 a0 a1 a2 a3 a4 a5→P2 a0 a1 a2 a3 a4 a5→X):X:=h.elim λa0 h=>h.elim λa1 h=>h.elim λa2 h=>h.elim λa3 h=>h.elim λa4 h=>h.elim λa5 h=>k a0 a1 a2 a3 a4 a5 h.1 h.2.1 h.2.2
theorem JP {bQ:Sort _} {cb:Sort _} {da:Sort _} {fy:Sort _} {ou:Sort _} {AN:Sort _} {MI:Sort _} {P0 P1 P2:bQ→cb→da→fy→ou→AN→MI→Prop} {X:Prop} (h:∃ a0 a1 a2 a3 a4 a5 a6,P0 a0 a1 a2 a3 a4 a5 a6∧P1 a0 a1 a2 a3 a4 a5 a6∧P2 a0 a1 a2 a3 a4 a5 a6) (k:∀ a0 a1 a2 a3 a4 a5 a6,P0 a0 a1 a2 a3 a4 a5 a6→P1 a0 a1 a2 a3 a4 a5 a6→P2 a0 a1 a2 a3 a4 a5 a6→X):X:=h.elim λa0 h=>h.elim λa1 h=>h.elim λa2 h=>h.elim λa3 h=>h.elim λa4 h=>h.elim λa5 h=>h.elim λa6 h=>k a0 a1 a2 a3 a4 a5 a6 h.1 h.2.1 h.2.2
set_option genCtorIdx true in
inductive AV where
 |none
 |bool (b:Bool)
 |int (i:Int)
 |str (l:List Nat)
 |tup (l:List AV)
 |fl (l:List AV)
 |eY (l:List (List Nat×AV))
 |ref (i:Nat)
 |txt (ts:List AV)
set_option genCtorIdx true in
inductive aK where
 |inst (C:Nat) (fs:List (Nat×AV))
 |list (l:List AV)
 |dict (l:List (List Nat×AV))
 |scan (C:Nat) (ts:List AV)
 |dead
noncomputable abbrev aa:=List aK
noncomputable abbrev Loc:=List (Nat×AV)
set_option genCtorIdx true in
inductive Res (α:Type) where
 |ok (a:α) (H:aa)
 |bD (x:AV) (H:aa)
 |stuck
noncomputable def Res.bind {α β:Type} (r:Res α) (f:α→aa→Res β):Res β:=match r with
 |.ok a H=>f a H
 |.bD x H=>.bD x H
 |.stuck=>.stuck
inductive aI {α β:Type} (R:α→β→Prop):List α→List β→Prop
 |nil:aI R [] []
 |cons {a b l m}:R a b→aI R l m→aI R (a::l) (b::m)
theorem aI.length {α β:Type} {R:α→β→Prop} {l:List α} {m:List β} (h:aI R l m):l.length=m.length:=by
 induction h with
 |nil=>rfl
 |cons _ _ ih=>simp [ih]
theorem aI.imp {α β:Type} {R S:α→β→Prop} {l:List α} {m:List β} (h:aI R l m) (k:∀ a b,R a b→S a b):aI S l m:=by
 induction h with
 |nil=>exact .nil
 |cons h _ ih=>exact .cons (k _ _ h) ih
theorem aI.append {α β:Type} {R:α→β→Prop} {l l':List α} {m m':List β} (h:aI R l m) (k:aI R l' m'):aI R (l++l') (m++m'):=by
 induction h with
 |nil=>exact k
 |cons h _ ih=>exact .cons h ih
theorem aI.get {α β:Type} {R:α→β→Prop} {l:List α} {m:List β} (h:aI R l m) {i:Nat} {a:α} (e:l[i]?=some a):∃ b,m[i]?=some b∧R a b:=by
 induction h generalizing i with
 |nil=>cases i<;>simp at e
 |cons h _ ih=>
  cases i with
  |zero=>simp at e;subst e;exact ⟨_,rfl,h⟩
  |succ i=>simpa using ih (by simpa using e)
theorem aI.get' {α β:Type} {R:α→β→Prop} {l:List α} {m:List β} (h:aI R l m) {i:Nat} {b:β} (e:m[i]?=some b):∃ a,l[i]?=some a∧R a b:=by
 induction h generalizing i with
 |nil=>cases i<;>simp at e
 |cons h _ ih=>
  cases i with
  |zero=>simp at e;subst e;exact ⟨_,rfl,h⟩
  |succ i=>simpa using ih (by simpa using e)
theorem aI.set {α β:Type} {R:α→β→Prop} {l:List α} {m:List β} (h:aI R l m) {i:Nat} {a:α} {b:β} (r:R a b):aI R (l.set i a) (m.set i b):=by
 induction h generalizing i with
 |nil=>exact .nil
 |cons h t ih=>
  cases i with
  |zero=>exact .cons r t
  |succ i=>exact .cons h ih
theorem aI.take {α β:Type} {R:α→β→Prop} {l:List α} {m:List β} (h:aI R l m) (i:Nat):aI R (l.take i) (m.take i):=by
 induction h generalizing i with
 |nil=>simp;exact .nil
 |cons h t ih=>
  cases i with
  |zero=>exact .nil
  |succ i=>exact .cons h (ih i)
theorem aI.drop {α β:Type} {R:α→β→Prop} {l:List α} {m:List β} (h:aI R l m) (i:Nat):aI R (l.drop i) (m.drop i):=by
 induction h generalizing i with
 |nil=>simp;exact .nil
 |cons h t ih=>
  cases i with
  |zero=>exact .cons h t
  |succ i=>exact ih i
theorem aI.reverse {α β:Type} {R:α→β→Prop} {l:List α} {m:List β} (h:aI R l m):aI R l.reverse m.reverse:=by
 induction h with
 |nil=>exact .nil
 |cons h t ih=>simp only [List.reverse_cons];exact ih.append (.cons h .nil)
structure Base where
 prog:Program
 w:World
 K:Frag
 hT:Heap
 nm:Nat→Str
 pf:Frag→Prop
 lx:List Nat→List AV→Prop
 bH:Nat→Nat→List Nat→Int→List AV→Prop
structure Gh where
 ρ:List Addr
 bF:List (Addr×Obj)
def Gh.le (g g':Gh):Prop:=(∃ r,g'.ρ=g.ρ++r)∧∀ p∈g.bF,p∈g'.bF
theorem Gh.le.refl (g:Gh):g.le g:=⟨⟨[],by simp⟩,λ_ h=>h⟩
theorem Gh.le.trans {g g' LD:Gh} (x:g.le g') (y:g'.le LD):g.le LD:=by
 refine aQ x ?_;clear x;rintro ⟨r,hr⟩ hi
 refine aQ y ?_;clear y;rintro ⟨q,hq⟩ hj
 exact ⟨⟨r++q,by rw [hq,hr,List.append_assoc]⟩,λp h=>hj p (hi p h)⟩
def eP (b:Base) (g:Gh) (a:Addr) (o:Obj):Prop:=(a,o)∈g.bF∨b.hT.get? a=some o
theorem eP.mono {b:Base} {g g':Gh} {a:Addr} {o:Obj} (h:eP b g a o) (x:g.le g'):eP b g' a o:=h.imp (x.2 _) id
mutual
inductive ak (b:Base) (g:Gh):AV→Value→Prop
 |none:ak b g .none .none
 |bool (v:Bool):ak b g (.bool v) (.bool v)
 |int (i:Int) (t:Tok):ak b g (.int i) (.int i t)
 |str (l:List Nat) (t:Tok):ak b g (.str l) (.str ⟨l.toArray⟩ t)
 |tup {l a o vs n}:eP b g a o→o.cls=.type "tuple"→o.data=.seq (List.toArray vs) n→o.dict=Option.none→aX b g l vs→ak b g (.tup l) (.ref a)
 |fl {l a o vs n}:eP b g a o→o.cls=.type "list"→o.data=.seq (List.toArray vs) n→o.dict=Option.none→aX b g l vs→ak b g (.fl l) (.ref a)
 |eY {l a o es n}:b.hT.get? a=some o→o.ExactDict→o.data=.dict (List.toArray es) n→(a==sysModules)=false→(l.map (·.1)).Nodup→bl b g l es→ak b g (.eY l) (.ref a)
 |ref {i a}:g.ρ[i]?=some a→ak b g (.ref i) (.ref a)
 |txt {ts l} (t:Tok):b.lx l ts→ak b g (.txt ts) (.str ⟨l.toArray⟩ t)
inductive aX (b:Base) (g:Gh):List AV→List Value→Prop
 |nil:aX b g [] []
 |cons {v x l m}:ak b g v x→aX b g l m→aX b g (v::l) (x::m)
inductive bl (b:Base) (g:Gh):List (List Nat×AV)→List DictEntry→Prop
 |nil:bl b g [] []
 |cons {k v e l m}:(∃ t,e.key=.str ⟨k.toArray⟩ t)→e.hash=PyData.keyHash b.w.params ⟨k.toArray⟩→ak b g v e.val→bl b g l m→bl b g ((k,v)::l) (e::m)
end
theorem aX.all {b:Base} {g:Gh} {l:List AV} {m:List Value} (h:aX b g l m):aI (ak b g) l m:=by
 induction l generalizing m with
 |nil=>cases h;exact .nil
 |cons a l ih=>cases h with |cons h t=>exact .cons h (ih t)
theorem aX.of {b:Base} {g:Gh} {l:List AV} {m:List Value} (h:aI (ak b g) l m):aX b g l m:=by
 induction h with
 |nil=>exact .nil
 |cons h _ ih=>exact .cons h ih
theorem Gh.le.get {g g':Gh} (x:g.le g') {i:Nat} {a:Addr} (h:g.ρ[i]?=some a):g'.ρ[i]?=some a:=
 x.1.elim λr hr=>hr▸(List.getElem?_append_left (List.getElem?_eq_some_iff.mp h).1).trans h
theorem ak.mono {b:Base} {g g':Gh} (x:g.le g') {v:AV} {y:Value} (h:ak b g v y):ak b g' v y:=
 ak.rec (motive_1:=λv y _=>ak b g' v y) (motive_2:=λl m _=>aX b g' l m) (motive_3:=λl m _=>bl b g' l m)
  .none .bool .int .str (λh1 h2 h3 h4 _ ih=>.tup (h1.mono x) h2 h3 h4 ih) (λh1 h2 h3 h4 _ ih=>.fl (h1.mono x) h2 h3 h4 ih) (λh1 h2 h3 h4 h5 _ ih=>.eY h1 h2 h3 h4 h5 ih)
  (λh=>.ref (x.get h)) (λt h=>.txt t h) .nil (λ_ _ i j=>.cons i j) .nil (λh1 h2 _ _ i j=>.cons h1 h2 i j) h
theorem aX.mono {b:Base} {g g':Gh} (x:g.le g') {v:List AV} {y:List Value} (h:aX b g v y):aX b g' v y:=.of (h.all.imp λ_ _=>ak.mono x)
theorem bl.mono {b:Base} {g g':Gh} (x:g.le g'):∀ {v:List (List Nat×AV)} {y:List DictEntry},bl b g v y→bl b g' v y:=@λv=>by
 induction v with
 |nil=>intro y h;cases h;exact .nil
 |cons p v ih=>intro y h;cases h with |cons h1 h2 h3 t=>exact .cons h1 h2 (h3.mono x) (ih t)
def Jv (b:Base) (g:Gh) (v:AV) (x:Value):Prop:=match v with
 |.none=>x=.none
 |.bool v=>x=.bool v
 |.int i=>∃ t,x=.int i t
 |.str l=>∃ t,x=.str ⟨l.toArray⟩ t
 |.tup l=>∃ a,x=.ref a∧∃ o vs n,eP b g a o∧o.cls=.type "tuple"∧o.data=.seq (List.toArray vs) n∧o.dict=Option.none∧aX b g l vs
 |.fl l=>∃ a,x=.ref a∧∃ o vs n,eP b g a o∧o.cls=.type "list"∧o.data=.seq (List.toArray vs) n∧o.dict=Option.none∧aX b g l vs
 |.eY l=>∃ a,x=.ref a∧∃ o es n,b.hT.get? a=some o∧o.ExactDict∧o.data=.dict (List.toArray es) n∧(a==sysModules)=false∧(l.map (·.1)).Nodup∧bl b g l es
 |.ref i=>∃ a,x=.ref a∧g.ρ[i]?=some a
 |.txt ts=>∃ l t,x=.str ⟨l.toArray⟩ t∧b.lx l ts
theorem ak.inv {b:Base} {g:Gh} {v:AV} {x:Value} (h:ak b g v x):Jv b g v x:=
 ak.casesOn (motive_1:=λv x _=>Jv b g v x) h rfl (λ_=>rfl) (λ_ t=>⟨t,rfl⟩) (λ_ t=>⟨t,rfl⟩) (λh1 h2 h3 h4 h5=>⟨_,rfl,_,_,_,h1,h2,h3,h4,h5⟩) (λh1 h2 h3 h4 h5=>⟨_,rfl,_,_,_,h1,h2,h3,h4,h5⟩)
  (λh1 h2 h3 h4 h5 h6=>⟨_,rfl,_,_,_,h1,h2,h3,h4,h5,h6⟩) (λh=>⟨_,rfl,h⟩) (λt h=>⟨_,t,rfl,h⟩)
noncomputable abbrev bG (vs:List Value) (n:Nat):Obj:={cls:=.type "list",data:=.seq vs.toArray n}
noncomputable abbrev i8 (vs:List Value) (n:Nat):Obj:={cls:=.type "tuple",data:=.seq vs.toArray n}
noncomputable abbrev bE (es:List DictEntry) (n:Nat):Obj:={cls:=.type "dict",data:=.dict es.toArray n}
def cJ (nm:Nat→Str) (V:AV→Value→Prop) (f:Nat×AV) (e:DictEntry):Prop:=(∃ t,e.key=.str (nm f.1) t)∧V f.2 e.val
inductive aZ (b:Base) (V:AV→Value→Prop) (D:List (List Nat×AV)→List DictEntry→Prop):aK→List (Addr×Obj)→Prop
 |inst {C fs a d es n}:aI (cJ b.nm V) fs es→aZ b V D (.inst C fs) [(a,instObj C d),(d,bE es n)]
 |list {l a vs n}:aI V l vs→aZ b V D (.list l) [(a,bG vs n)]
 |dict {l a es n}:(l.map (·.1)).Nodup→D l es→aZ b V D (.dict l) [(a,bE es n)]
 |scan {C ts x y l i a d es n}:b.bH x y l i ts→aI (cJ b.nm V) [(x,.str l),(y,.int i)] es→aZ b V D (.scan C ts) [(a,instObj C d),(d,bE es n)]
 |dead:aZ b V D .dead []
theorem aZ.imp {b:Base} {V V':AV→Value→Prop} {D D':List (List Nat×AV)→List DictEntry→Prop} {o:aK} {ch:List (Addr×Obj)} (h:aZ b V D o ch)
  (k:∀ v x,V v x→V' v x) (k':∀ v x,D v x→D' v x):aZ b V' D' o ch:=by
 cases h with
 |inst h=>exact .inst (h.imp λ_ _ z=>⟨z.1,k _ _ z.2⟩)
 |list h=>exact .list (h.imp k)
 |dict h' h=>exact .dict h' (k' _ _ h)
 |scan h' h=>exact .scan h' (h.imp λ_ _ z=>⟨z.1,k _ _ z.2⟩)
 |dead=>exact .dead
def FV (b:Base) (V:AV→Value→Prop) (D:List (List Nat×AV)→List DictEntry→Prop) (o:aK) (ch:List (Addr×Obj)):Prop:=match o with
 |.inst C fs=>∃ a d es n,ch=[(a,instObj C d),(d,bE es n)]∧aI (cJ b.nm V) fs es
 |.list l=>∃ a vs n,ch=[(a,bG vs n)]∧aI V l vs
 |.dict l=>∃ a es n,ch=[(a,bE es n)]∧(l.map (·.1)).Nodup∧D l es
 |.scan C ts=>∃ a d es n,ch=[(a,instObj C d),(d,bE es n)]∧∃ x y l i,b.bH x y l i ts∧aI (cJ b.nm V) [(x,.str l),(y,.int i)] es
 |.dead=>ch=[]
theorem aZ.inv {b:Base} {V:AV→Value→Prop} {D:List (List Nat×AV)→List DictEntry→Prop} {o:aK} {ch:List (Addr×Obj)} (h:aZ b V D o ch):FV b V D o ch:=
 aZ.casesOn (motive:=λo ch _=>FV b V D o ch) h (λh=>⟨_,_,_,_,rfl,h⟩) (λh=>⟨_,_,_,rfl,h⟩) (λh k=>⟨_,_,_,rfl,h,k⟩) (λs h=>⟨_,_,_,_,rfl,_,_,_,_,s,h⟩) rfl
noncomputable def iN:List (Addr×Obj)→Addr
 |[]=>0
 |p::_=>p.1
def fc (a:Addr) (ch:List (Addr×Obj)):Prop:=ch=[]∨iN ch=a
theorem aI.uF {α β:Type} {R:α→β→Prop} {l:List α} {m:List β} (h:aI R l m) {i:Nat} {x y:β} (e:m[i]?=some x) (k:∀ a,R a x→R a y):aI R l (m.set i y):=by
 induction h generalizing i with
 |nil=>exact .nil
 |cons h t ih=>
  cases i with
  |zero=>simp at e;subst e;exact .cons (k _ h) t
  |succ i=>exact .cons h (ih (by simpa using e))
theorem yM {a:Addr} {pre post:List (Addr×Obj)} {d:Addr} {o o':Obj} (h:fc a (pre++(d,o)::post)):fc a (pre++(d,o')::post):=by
 rcases h with h |h
 ·simp at h
 ·right;rw [← h];cases pre<;>rfl
structure FC where
 env:Env
 comp:Bool
 L:Addr
 A:Around
 outer:List (Env×Obj)
 pins:List (Addr×Obj)
inductive iX:List (Env×Obj)→List (Addr×Obj)→Prop
 |nil:iX [] []
 |cons {env o a sl r fs}:env.frame=some a→env.scope.kind=.function→(∀ vs,o.data≠.fields vs)→iX r fs→iX ((env,o)::r) ((a,{o with slots:=sl})::fs)
structure FC.Good (c:FC) (b:Base) (cs:Scope) (n:Nat):Prop where
 sc:c.env.scope=cs
 kind:cs.kind=ScopeKind.function
 locals:c.env.locals=c.L
 frame:c.comp=false→c.env.frame=some c.L
 frames:c.A.frames=some (if c.comp then c.outer.map (·.1) else c.env::c.outer.map (·.1))
 hand:c.A.handled=none
 depth:c.A.depth+10 * n+10 < recursionLimit
 units:c.A.units+40 * n+40 < cLine
 glob:c.env.globals=mainGlobals
 blt:c.env.builtins=builtinsNs
def tO (b:Base) (c:FC) (g:Gh) (m:Str→Option Value) (k:Nat) (val:Value):Prop:=
 (c.env.kindOf (b.nm k)=some .local∧m (b.nm k)=some val)∨(c.env.kindOf (b.nm k)=some .cell∧∃ a o,c.env.cells.lookup (b.nm k)=some a∧eP b g a o∧o.data=.cell (some val))
theorem tO.mono {b:Base} {c:FC} {g g':Gh} {m:Str→Option Value} {k:Nat} {val:Value} (h:tO b c g m k val) (x:g.le g'):tO b c g' m k val:=
 h.imp id λ⟨k,a,o,h1,h2,h3⟩=>⟨k,a,o,h1,h2.mono x,h3⟩
noncomputable def cells (g:Gh) (ag:List (List (Addr×Obj))) (af pins:List (Addr×Obj)):List (Addr×Obj):=g.bF++(ag.flatten++(af++pins))
structure aE (b:Base) (c:FC) (g:Gh) (loc:Loc) (H:aa) (h:Heap) (m:Str→Option Value) (ag:List (List (Addr×Obj))) (af:List (Addr×Obj)):Prop where
 stays:b.hT.StaysIn h
 ns:h.Ns c.L m
 above:b.hT.objs.size≤c.L
 cell:∀ p∈cells g ag af c.pins,h.get? p.1=some p.2
 nodup:((cells g ag af c.pins).map (·.1)).Nodup
 off:∀ p∈cells g ag af c.pins,b.hT.objs.size≤p.1∧p.1≠c.L
 loc:∀ k v,loc.lookup k=some v→∃ val,tO b c g m k val∧ak b g v val
 heap:aI (aZ b (ak b g) (bl b g)) H ag
 bX:aI fc g.ρ ag
 af:iX c.outer af
def Rep (b:Base) (c:FC) (g:Gh) (loc:Loc) (H:aa) (h:Heap):Prop:=∃ m ag af,aE b c g loc H h m ag af
section
variable {b:Base} {c:FC} {g:Gh} {loc:Loc} {H:aa} {h h':Heap} {m:Str→Option Value} {ag:List (List (Addr×Obj))} {af:List (Addr×Obj)}
theorem aE.fr (R:aE b c g loc H h m ag af):Fr b.hT c.L h m:=⟨R.ns,R.stays,R.above⟩
theorem aE.none (R:aE b c g loc H h m ag af) {p:Addr×Obj} (hp:p∈cells g ag af c.pins):b.hT.get? p.1=none:=by
 cases q:b.hT.get? p.1 with
 |none=>rfl
 |some o=>exact absurd (Heap.lt_size q) (Nat.not_lt.mpr (R.off p hp).1)
theorem aE.news (R:aE b c g loc H h m ag af):News b.hT c.L h (cells g ag af c.pins):=λp hp=>⟨R.cell p hp,(R.off p hp).2,R.none hp⟩
theorem aE.there (R:aE b c g loc H h m ag af) {a:Addr} {o:Obj} (t:eP b g a o):h.get? a=some o:=by
 rcases t with t |t
 ·exact R.cell (a,o) (List.mem_append_left _ t)
 ·exact R.stays _ _ t
theorem aE.lt (R:aE b c g loc H h m ag af):c.L < h.objs.size:=by
 refine lB R.ns ?_;intro o _ _ e _
 exact Heap.lt_size e
theorem aE.keep (R:aE b c g loc H h m ag af) (k:∀ a o,h.get? a=some o→h'.get? a=some o):aE b c g loc H h' m ag af:=
 {R with stays:=λa o e=>k _ _ (R.stays a o e),ns:=R.ns.keeps k,cell:=λp hp=>k _ _ (R.cell p hp)}
theorem Rep.keep (R:Rep b c g loc H h) (k:∀ a o,h.get? a=some o→h'.get? a=some o):Rep b c g loc H h':=by
 refine aJ R ?_;clear R;intro m ag af R
 exact ⟨m,ag,af,R.keep k⟩
theorem bJ (g:Gh) (p:Addr×Obj):g.le {g with bF:=p::g.bF}:=⟨⟨[],by simp⟩,λ_ h=>.tail _ h⟩
theorem aE.qp (R:aE b c g loc H h m ag af) {a:Addr} {o:Obj} (hn:∀ p∈cells g ag af c.pins,p.1≠a) (h1:b.hT.objs.size≤a) (h2:a≠c.L) (ha:h.get? a=some o) :
  aE b c {g with bF:=(a,o)::g.bF} loc H h m ag af:=by
 have e:cells {g with bF:=(a,o)::g.bF} ag af c.pins=(a,o)::cells g ag af c.pins:=rfl
 have le:=bJ g (a,o)
 refine {R with cell:=?_,nodup:=?_,off:=?_,loc:=?_,heap:=?_,bX:=R.bX}
 ·rw [e];intro p hp
  rcases List.mem_cons.mp hp with rfl |hp
  ·exact ha
  ·exact R.cell p hp
 ·refine sY (e ..)▸?_;refine sY (List.map_cons ..)▸?_;rewrite [List.nodup_cons]
  refine ⟨λhm=>?_,R.nodup⟩
  refine ai (List.mem_map.mp hm) ?_;intro p hp q
  exact hn p hp q
 ·rw [e];intro p hp
  rcases List.mem_cons.mp hp with rfl |hp
  ·exact ⟨h1,h2⟩
  ·exact R.off p hp
 ·intro x v hx
  refine ai (R.loc x v hx) ?_;intro val h1 h2
  exact ⟨val,h1.mono le,h2.mono le⟩
 ·exact R.heap.imp λ_ _ z=>z.imp (λ_ _=>ak.mono le) λ_ _=>bl.mono le
theorem aE.Ju (R:aE b c g loc H h m ag af) (k:∀ a o,h.get? a=some o→h'.get? a=some o) {a:Addr} {o:Obj} (hn:h.objs.size≤a) (ha:h'.get? a=some o) :
  aE b c {g with bF:=(a,o)::g.bF} loc H h' m ag af:=by
 have R':=R.keep k
 have e:cells {g with bF:=(a,o)::g.bF} ag af c.pins=(a,o)::cells g ag af c.pins:=rfl
 have le:=bJ g (a,o)
 refine {R' with cell:=?_,nodup:=?_,off:=?_,loc:=?_,heap:=?_,bX:=R.bX}
 ·rw [e];intro p hp
  rcases List.mem_cons.mp hp with rfl |hp
  ·exact ha
  ·exact R'.cell p hp
 ·refine sY (e ..)▸?_;refine sY (List.map_cons ..)▸?_;rewrite [List.nodup_cons]
  refine ⟨λhm=>?_,R.nodup⟩
  refine ai (List.mem_map.mp hm) ?_;intro p hp q
  exact absurd (Heap.lt_size (R.cell p hp)) (Nat.not_lt.mpr (by rw [q];exact hn))
 ·rw [e];intro p hp
  rcases List.mem_cons.mp hp with rfl |hp
  ·exact ⟨Nat.le_trans R.above (Nat.le_trans (Nat.le_of_lt R.lt) hn),Nat.ne_of_gt (Nat.lt_of_lt_of_le R.lt hn)⟩
  ·exact R.off p hp
 ·intro x v hx
  refine ai (R.loc x v hx) ?_;intro val h1 h2
  exact ⟨val,h1.mono le,h2.mono le⟩
 ·exact R.heap.imp λ_ _ z=>z.imp (λ_ _=>ak.mono le) λ_ _=>bl.mono le
theorem pC (g:Gh) (a:Addr):g.le {g with ρ:=g.ρ++[a]}:=⟨⟨[a],rfl⟩,λ_ h=>h⟩
theorem aE.CN (R:aE b c g loc H h m ag af) (k:∀ a o,h.get? a=some o→h'.get? a=some o) {o:aK} {ch:List (Addr×Obj)}
  (hn:∀ p∈ch,h.objs.size≤p.1) (ha:∀ p∈ch,h'.get? p.1=some p.2) (hd:(ch.map (·.1)).Nodup) (hr:aZ b (ak b g) (bl b g) o ch) :
  aE b c {g with ρ:=g.ρ++[iN ch]} loc (H++[o]) h' m (ag++[ch]) af:=by
 have R':=R.keep k
 have le:=pC g (iN ch)
 have mem:∀ p,p∈cells {g with ρ:=g.ρ++[iN ch]} (ag++[ch]) af c.pins↔p∈cells g ag af c.pins∨p∈ch:=by
  intro p
  simp only [cells,List.flatten_append,List.flatten_cons,List.flatten_nil,List.append_nil,List.mem_append]
  clear hn ha hd hr k R R' le
  grind
 refine {R' with cell:=?_,nodup:=?_,off:=?_,loc:=?_,heap:=?_,bX:=?_}
 ·intro p hp
  rcases (mem p).mp hp with hp |hp
  ·exact R'.cell p hp
  ·exact ha p hp
 ·have perm:(cells {g with ρ:=g.ρ++[iN ch]} (ag++[ch]) af c.pins).Perm (cells g ag af c.pins++ch):=by
   simp only [cells,List.flatten_append,List.flatten_cons,List.flatten_nil,List.append_nil]
   have e:g.bF++(ag.flatten++(af++c.pins))++ch=g.bF++(ag.flatten++(af++c.pins++ch)):=by simp
   refine sY (e ..)▸?_;rewrite [List.append_assoc]
   exact List.Perm.append_left _ (List.Perm.append_left _ List.perm_append_comm)
  rewrite [(perm.map (·.1)).nodup_iff];refine sY (List.map_append ..)▸?_;rewrite [List.nodup_append]
  refine ⟨R.nodup,hd,λx hx y hy e=>?_⟩
  refine ai (List.mem_map.mp hx) ?_;rintro p hp rfl
  refine ai (List.mem_map.mp hy) ?_;rintro q hq rfl
  exact absurd (Heap.lt_size (R.cell p hp)) (Nat.not_lt.mpr (by rw [e];exact hn q hq))
 ·intro p hp
  rcases (mem p).mp hp with hp |hp
  ·exact R.off p hp
  ·have:=hn p hp
   exact ⟨Nat.le_trans R.above (Nat.le_trans (Nat.le_of_lt R.lt) this),Nat.ne_of_gt (Nat.lt_of_lt_of_le R.lt this)⟩
 ·intro x v hx
  refine ai (R.loc x v hx) ?_;intro val h1 h2
  exact ⟨val,h1.mono le,h2.mono le⟩
 ·refine (R.heap.imp λ_ _ z=>z.imp (λ_ _=>ak.mono le) λ_ _=>bl.mono le).append (.cons ?_ .nil)
  exact hr.imp (λ_ _=>ak.mono le) λ_ _=>bl.mono le
 ·exact R.bX.append (.cons (.inr rfl) .nil)
theorem bj {α β:Type} [BEq α] [LawfulBEq α] {k k':α} {v:β} {l:List (α×β)} (h:k≠k'):((k',v)::l).lookup k=l.lookup k:=by
 rewrite [List.lookup_cons]
 have:(k==k')=false:=by simpa using h
 refine sY (this ..)▸?_;rfl
theorem aE.store (R:aE b c g loc H h m ag af) (inj:∀ i j,b.nm i=b.nm j→i=j) {x:Nat} {v:AV} {val:Value} (hv:ak b g v val) (hx:c.env.kindOf (b.nm x)=some .local)
  (hn:h'.Ns c.L (λy=>if y=b.nm x then some val else m y)) (hs:Heap.SameBut c.L h h'):aE b c g ((x,v)::loc) H h' (λy=>if y=b.nm x then some val else m y) ag af:=by
 have F:=R.fr.set hn hs
 refine {R with stays:=F.keep,ns:=hn,cell:=λp hp=>(hs.2 _ (R.off p hp).2).trans (R.cell p hp),loc:=?_}
 intro k u hk
 by_cases e:k=x
 ·subst e
  rw [List.lookup_cons,beq_self_eq_true] at hk
  cases hk
  exact ⟨val,.inl ⟨hx,if_pos rfl⟩,hv⟩
 ·rw [bj e] at hk
  refine ai (R.loc k u hk) ?_;intro z h1 h2
  exact ⟨z,h1.imp (λq=>⟨q.1,(if_neg λq=>e (inj _ _ q)).trans q.2⟩) id,h2⟩
theorem sN {α:Type} {ag:List (List α)} {i:Nat} {ch ch':List α} (hi:ag[i]?=some ch):∃ l r,ag=l++ch::r∧ag.set i ch'=l++ch'::r:=by
 induction ag generalizing i with
 |nil=>cases i<;>simp at hi
 |cons x xs ih=>
  cases i with
  |zero=>simp at hi;subst hi;exact ⟨[],xs,rfl,rfl⟩
  |succ i=>
   refine fk (ih (by simpa using hi)) ?_;intro l r h1 h2
   exact ⟨x::l,r,by rw [h1];rfl,by simp [h2]⟩
theorem aE.upd (R:aE b c g loc H h m ag af) {i:Nat} {pre post:List (Addr×Obj)} {d:Addr} {o o':Obj} {ob:aK} (hi:ag[i]?=some (pre++(d,o)::post))
  (hd:h'.get? d=some o') (hs:Heap.SameBut d h h') (hr:aZ b (ak b g) (bl b g) ob (pre++(d,o')::post)):aE b c g loc (H.set i ob) h' m (ag.set i (pre++(d,o')::post)) af:=by
 refine fk (sN (ch':=pre++(d,o')::post) hi) ?_;intro l r e1 e2
 have c1:cells g ag af c.pins=(g.bF++(l.flatten++pre))++(d,o)::(post++(r.flatten++(af++c.pins))):=by
  refine sY (e1 ..)▸?_;simp [cells]
 have c2:cells g (ag.set i (pre++(d,o')::post)) af c.pins=(g.bF++(l.flatten++pre))++(d,o')::(post++(r.flatten++(af++c.pins))):=by
  refine sY (e2 ..)▸?_;simp [cells]
 have hc:(d,o)∈cells g ag af c.pins:=by rw [c1];simp
 have nd:=R.nodup
 rw [c1,List.map_append,List.map_cons,List.nodup_append,List.nodup_cons] at nd
 refine bZ nd ?_;clear nd;rintro n1 ⟨n2,n3⟩ n4
 have dn:=R.none hc
 have dL:=(R.off _ hc).2
 have ne:∀ p∈cells g (ag.set i (pre++(d,o')::post)) af c.pins,p=(d,o')∨(p∈cells g ag af c.pins∧p.1≠d):=by
  intro p hp
  rw [c2] at hp
  rcases List.mem_append.mp hp with hp |hp
  ·exact .inr ⟨by rw [c1];exact List.mem_append_left _ hp,n4 _ (List.mem_map_of_mem hp) _ (.head _)⟩
  ·rcases List.mem_cons.mp hp with hp |hp
   ·exact .inl hp
   ·exact .inr ⟨by rw [c1];exact List.mem_append_right _ (.tail _ hp),λq=>n2 (List.mem_map.mpr ⟨p,hp,q⟩)⟩
 refine lA R.ns ?_;intro oL es ep hL pz uV uW
 refine {R with stays:=?_,ns:=?_,cell:=?_,nodup:=?_,off:=?_,heap:=?_,bX:=?_}
 ·intro a x e
  refine (hs.2 a λq=>?_).trans (R.stays a x e)
  subst q
  rw [dn] at e;cases e
 ·exact ⟨oL,es,ep,(hs.2 _ (Ne.symm dL)).trans hL,pz,uV,uW⟩
 ·intro p hp
  rcases ne p hp with rfl |⟨h1,h2⟩
  ·exact hd
  ·exact (hs.2 _ h2).trans (R.cell p h1)
 ·have:(cells g (ag.set i (pre++(d,o')::post)) af c.pins).map (·.1)=(cells g ag af c.pins).map (·.1):=by rw [c1,c2];simp
  rw [this];exact R.nodup
 ·intro p hp
  rcases ne p hp with rfl |⟨h1,_⟩
  ·exact R.off (d,o) hc
  ·exact R.off p h1
 ·exact R.heap.set hr
 ·exact R.bX.uF hi λ_=>yM
end
noncomputable def kd:Expr→Bool
 |.Name .. |.Attribute .. |.Subscript .. |.Constant .. |.Call ..=>true
 |_=>false
def Plain (e:Expr):Prop:=∀ env whole,isTrue e env whole=(do let v ← whole;standAt e.pos;holding [v] (truthy v))
theorem J7 (e:Expr):kd e=true→Plain e:=by
 cases e<;>first |exact λ_ _ _=>rfl |exact λh=>Bool.noConfusion h
noncomputable def m4 (_:Option Expr) (_:Nat) (_:Env):Sem Bool:=pure false
noncomputable def wJ (_:Bool) (x y:Value):Sem Value:=operate [x,y] (getItem x y)
noncomputable def DG (_:Env) (x:Value):Sem Value:=pure x
noncomputable def rE (_:Str) (_:Env) (v:Sem Value):Sem Value:=v
theorem qW:m4=m4:=rfl
theorem qS:wJ false=wJ false:=rfl
theorem qI:DG=DG:=rfl
theorem qB:rE=rE:=rfl
noncomputable abbrev du:Addr:=81
set_option genCtorIdx true in
inductive jN where
 |made
 |free
 |held (L:Addr)
def Mj (B h:Heap) (e:Addr) (vs:Array Value):jN→Prop
 |.made=>vs[1]?=some .none
 |.free=>∃ T oT ts,vs[1]?=some (.ref T)∧B.get? T=none∧T≠e∧h.get? T=some oT∧oT.data=.fields ts∧ts[3]?=some .none
 |.held L=>∃ T oT ts,vs[1]?=some (.ref T)∧B.get? T=none∧T≠e∧h.get? T=some oT∧oT.data=.fields ts∧ts[3]?=some (rawInt L)
structure tQ (B h:Heap) (l:List Env) (e d:Addr) (f:jN):Prop where
 base:B.StaysIn h
 new:B.get? e=none
 I6:h.FunFrames B l
 exc:∃ oe vs,h.get? e=some oe∧oe.cls=.ref du∧oe.dict=some d∧oe.data=.fields vs∧Mj B h e vs f
def CP (b:Base) (g:Gh) (x:AV) (od:Obj):Prop:=od.cls=.type "dict"∧∃ val,lookIn "spot" od=some (some val)∧ak b g x val
structure kW (b:Base) (c:FC) (g:Gh) (H:aa) (x:AV) (e:Addr) (h:Heap) (f:jN) (B:Heap) (ag:List (List (Addr×Obj))) (af:List (Addr×Obj)) (m:Str→Option Value) (d:Addr) (od:Obj):Prop where
 fG:tQ B h (c.env::c.outer.map (·.1)) e d f
 dict:B.get? d=some od
 eG:CP b g x od
 top:b.hT.StaysIn B
 ns:h.Ns c.L m
 above:b.hT.objs.size≤c.L
 cell:∀ p∈g.bF++(ag.flatten++c.pins),B.get? p.1=some p.2
 rk:iX c.outer af
 fr:∀ p∈af,h.get? p.1=some p.2
 nodup:((cells g ag af c.pins).map (·.1)).Nodup
 off:∀ p∈cells g ag af c.pins,b.hT.objs.size≤p.1∧p.1≠c.L
 heap:aI (aZ b (ak b g) (bl b g)) H ag
 bX:aI fc g.ρ ag
def DE (L:Addr):jN→Prop
 |.held L'=>L'=L
 |_=>True
def d5 (b:Base) (c:FC) (g:Gh) (H:aa) (x:AV) (e:Addr) (h:Heap):Prop:=
 c.comp=true∨∃ f B ag af m d od,DE c.L f∧kW b c g H x e h f B ag af m d od
def ao (b:Base) (c:FC) (g:Gh) (loc:Loc) (s:Shared) (r:Res AV) (Q E:VP):Prop:=match r with
 |.ok v H'=>∀ g' val h' t',g.le g'→Rep b c g' loc H' h'→ak b g' v val→Q val {s with heap:=h',toks:=t'}
 |.bD x H'=>∀ g' e h' t',g.le g'→d5 b c g' H' x e h'→E (.ref e) {s with heap:=h',toks:=t'}
 |.stuck=>False
def d0 (b:Base) (c:FC) (g:Gh) (loc:Loc) (s:Shared) (r:Res Bool) (Q:Bool→Shared→Prop) (E:VP):Prop:=match r with
 |.ok v H'=>∀ g' h' t',g.le g'→Rep b c g' loc H' h'→Q v {s with heap:=h',toks:=t'}
 |.bD x H'=>∀ g' e h' t',g.le g'→d5 b c g' H' x e h'→E (.ref e) {s with heap:=h',toks:=t'}
 |.stuck=>False
def dZ (b:Base) (c:FC) (g:Gh) (loc:Loc) (s:Shared) (r:Res (List AV)) (Q:List Value→Shared→Prop) (E:VP):Prop:=match r with
 |.ok v H'=>∀ g' val h' t',g.le g'→Rep b c g' loc H' h'→aX b g' v val→Q val {s with heap:=h',toks:=t'}
 |.bD x H'=>∀ g' e h' t',g.le g'→d5 b c g' H' x e h'→E (.ref e) {s with heap:=h',toks:=t'}
 |.stuck=>False
section
variable {b:Base} {c:FC} {g:Gh} {loc:Loc} {s:Shared} {Q E:VP}
theorem ao.seq {r:Res AV} {f:AV→aa→Res AV} {Q':VP} (hp:ao b c g loc s (r.bind f) Q E)
  (k:∀ v H' g' val h' t',g.le g'→Rep b c g' loc H' h'→ak b g' v val→ao b c g' loc {s with heap:=h',toks:=t'} (f v H') Q E→Q' val {s with heap:=h',toks:=t'}) :
  ao b c g loc s r Q' E:=by
 cases r with
 |ok v H'=>
  intro g' val h' t' le R V
  refine k v H' g' val h' t' le R V ?_
  show ao b c g' loc _ (f v H') Q E
  have aw:ao b c g loc s (f v H') Q E:=hp
  revert aw
  cases f v H' with
  |ok u H2=>intro aw g2 eQ h2 t2 aP R2 V2;exact aw g2 eQ h2 t2 (le.trans aP) R2 V2
  |bD x H2=>intro aw g2 e h2 t2 aP F2;exact aw g2 e h2 t2 (le.trans aP) F2
  |stuck=>intro aw;exact aw
 |bD x H'=>exact hp
 |stuck=>exact hp
theorem ao.shift {r:Res AV} {g':Gh} {h':Heap} {t':Nat} (le:g.le g') (hp:ao b c g loc s r Q E):ao b c g' loc {s with heap:=h',toks:=t'} r Q E:=by
 cases r with
 |ok u H2=>intro g2 eQ h2 t2 aP R2 V2;exact hp g2 eQ h2 t2 (le.trans aP) R2 V2
 |bD x H2=>intro g2 e h2 t2 aP F2;exact hp g2 e h2 t2 (le.trans aP) F2
 |stuck=>exact hp
theorem ao.oJ {r:Res Bool} {f:Bool→aa→Res AV} {Q':Bool→Shared→Prop} (hp:ao b c g loc s (r.bind f) Q E)
  (k:∀ v H' g' h' t',g.le g'→Rep b c g' loc H' h'→ao b c g' loc {s with heap:=h',toks:=t'} (f v H') Q E→Q' v {s with heap:=h',toks:=t'}) :
  d0 b c g loc s r Q' E:=by
 cases r with
 |ok v H'=>
  intro g' h' t' le R
  have aw:ao b c g loc s (f v H') Q E:=hp
  exact k v H' g' h' t' le R (aw.shift le)
 |bD x H'=>exact hp
 |stuck=>exact hp
theorem d0.shift {r:Res Bool} {QB:Bool→Shared→Prop} {g':Gh} {h':Heap} {t':Nat} (le:g.le g') (hp:d0 b c g loc s r QB E):d0 b c g' loc {s with heap:=h',toks:=t'} r QB E:=by
 cases r with
 |ok u H2=>intro g2 h2 t2 aP R2;exact hp g2 h2 t2 (le.trans aP) R2
 |bD x H2=>intro g2 e h2 t2 aP F2;exact hp g2 e h2 t2 (le.trans aP) F2
 |stuck=>exact hp
theorem d0.dD {r:Res AV} {f:AV→aa→Res Bool} {QB:Bool→Shared→Prop} {Q':VP} (hp:d0 b c g loc s (r.bind f) QB E)
  (k:∀ v H' g' val h' t',g.le g'→Rep b c g' loc H' h'→ak b g' v val→d0 b c g' loc {s with heap:=h',toks:=t'} (f v H') QB E→Q' val {s with heap:=h',toks:=t'}) :
  ao b c g loc s r Q' E:=by
 cases r with
 |ok v H'=>
  intro g' val h' t' le R V
  have aw:d0 b c g loc s (f v H') QB E:=hp
  exact k v H' g' val h' t' le R V (aw.shift le)
 |bD x H'=>exact hp
 |stuck=>exact hp
theorem d0.seq {r:Res Bool} {f:Bool→aa→Res Bool} {QB Q':Bool→Shared→Prop} (hp:d0 b c g loc s (r.bind f) QB E)
  (k:∀ v H' g' h' t',g.le g'→Rep b c g' loc H' h'→d0 b c g' loc {s with heap:=h',toks:=t'} (f v H') QB E→Q' v {s with heap:=h',toks:=t'}) :
  d0 b c g loc s r Q' E:=by
 cases r with
 |ok v H'=>
  intro g' h' t' le R
  have aw:d0 b c g loc s (f v H') QB E:=hp
  exact k v H' g' h' t' le R (aw.shift le)
 |bD x H'=>exact hp
 |stuck=>exact hp
theorem dZ.shift {r:Res (List AV)} {QL:List Value→Shared→Prop} {g':Gh} {h':Heap} {t':Nat} (le:g.le g') (hp:dZ b c g loc s r QL E):dZ b c g' loc {s with heap:=h',toks:=t'} r QL E:=by
 cases r with
 |ok u H2=>intro g2 eQ h2 t2 aP R2 V2;exact hp g2 eQ h2 t2 (le.trans aP) R2 V2
 |bD x H2=>intro g2 e h2 t2 aP F2;exact hp g2 e h2 t2 (le.trans aP) F2
 |stuck=>exact hp
theorem dZ.dD {r:Res AV} {f:AV→aa→Res (List AV)} {QL:List Value→Shared→Prop} {Q':VP} (hp:dZ b c g loc s (r.bind f) QL E)
  (k:∀ v H' g' val h' t',g.le g'→Rep b c g' loc H' h'→ak b g' v val→dZ b c g' loc {s with heap:=h',toks:=t'} (f v H') QL E→Q' val {s with heap:=h',toks:=t'}) :
  ao b c g loc s r Q' E:=by
 cases r with
 |ok v H'=>
  intro g' val h' t' le R V
  have aw:dZ b c g loc s (f v H') QL E:=hp
  exact k v H' g' val h' t' le R V (aw.shift le)
 |bD x H'=>exact hp
 |stuck=>exact hp
theorem dZ.jO {r:Res (List AV)} {f:List AV→aa→Res (List AV)} {QL Q':List Value→Shared→Prop} (hp:dZ b c g loc s (r.bind f) QL E)
  (k:∀ v H' g' val h' t',g.le g'→Rep b c g' loc H' h'→aX b g' v val→dZ b c g' loc {s with heap:=h',toks:=t'} (f v H') QL E→Q' val {s with heap:=h',toks:=t'}) :
  dZ b c g loc s r Q' E:=by
 cases r with
 |ok v H'=>
  intro g' val h' t' le R V
  have aw:dZ b c g loc s (f v H') QL E:=hp
  exact k v H' g' val h' t' le R V (aw.shift le)
 |bD x H'=>exact hp
 |stuck=>exact hp
theorem ao.jO {r:Res (List AV)} {f:List AV→aa→Res AV} {Q':List Value→Shared→Prop} (hp:ao b c g loc s (r.bind f) Q E)
  (k:∀ v H' g' val h' t',g.le g'→Rep b c g' loc H' h'→aX b g' v val→ao b c g' loc {s with heap:=h',toks:=t'} (f v H') Q E→Q' val {s with heap:=h',toks:=t'}) :
  dZ b c g loc s r Q' E:=by
 cases r with
 |ok v H'=>
  intro g' val h' t' le R V
  have aw:ao b c g loc s (f v H') Q E:=hp
  exact k v H' g' val h' t' le R V (aw.shift le)
 |bD x H'=>exact hp
 |stuck=>exact hp
end
structure Base.Ok (b:Base):Prop where
 pf:b.pf b.K
 inj:∀ i j,b.nm i=b.nm j→i=j
 sc:∀ {x y:Nat} {l:List Nat} {i:Int} {ts:List AV},b.bH x y l i ts→x < 4∧y < 4
 X:b.K.In b.hT
 lim:b.hT.NoLimit
 glob:∀ x r,nsIn b.K mainGlobals x=some r→∃ mg,b.hT.Ns mainGlobals mg∧mg x=r
 blt:∃ mb,b.hT.Ns builtinsNs mb∧∀ x:Str,x≠"__name__"→mb x=bootBuiltins x
def x6 (b:Base) (cs:Scope) (n:Nat) (py:Expr) (run:Loc→aa→Res AV):Prop:=
 ∀ (c:FC) (g:Gh) (loc:Loc) (H:aa) (s:Shared) (Q E:VP),c.Good b cs n→Rep b c g loc H s.heap→ao b c g loc s (run loc H) Q E→
  wpAny (model b.prog b.w) c.A (eval py c.env) Q E s
def Jz (b:Base) (cs:Scope) (n:Nat) (py:Expr) (run:Loc→aa→Res Bool):Prop:=
 ∀ (c:FC) (g:Gh) (loc:Loc) (H:aa) (s:Shared) (Q:Bool→Shared→Prop) (E:VP),c.Good b cs n→Rep b c g loc H s.heap→d0 b c g loc s (run loc H) Q E→
  wpAny (model b.prog b.w) c.A (isTrue py c.env (eval py c.env)) Q E s
structure Ex (b:Base) (cs:Scope) (n:Nat) where
 py:Expr
 run:Loc→aa→Res AV
 ok:b.Ok→x6 b cs n py run
 ns:∀ r env,starEach (py::r) env=(false,eval py env)::starEach r env:=by intros;rfl
structure Tx (b:Base) (cs:Scope) (n:Nat) where
 py:Expr
 run:Loc→aa→Res Bool
 ok:b.Ok→Jz b cs n py run
section
variable {b:Base} {cs:Scope} {n:Nat}
noncomputable def Ex.int (b:Base) (cs:Scope) (n:Nat) (i:Int) (k:Nat) (p:Pos):Ex b cs n where
 py:=.Constant (.int i) k p
 run:=λ_ H=>.ok (.int i) H
 ok:=λ_ c g loc H s Q E _ R hp=>wpAny_Constant_int (hp g _ _ _ (.refl g) R (.int i _))
noncomputable def Ex.none (b:Base) (cs:Scope) (n:Nat) (k:Nat) (p:Pos):Ex b cs n where
 py:=.Constant .none k p
 run:=λ_ H=>.ok .none H
 ok:=λ_ c g loc H s Q E _ R hp=>hp g _ s.heap s.toks (.refl g) R .none |> wpAny_pure
noncomputable def Ex.bool (b:Base) (cs:Scope) (n:Nat) (v:Bool) (k:Nat) (p:Pos):Ex b cs n where
 py:=.Constant (.bool v) k p
 run:=λ_ H=>.ok (.bool v) H
 ok:=λ_ c g loc H s Q E _ R hp=>hp g _ s.heap s.toks (.refl g) R (.bool v) |> wpAny_pure
structure Lit where
 s:Str
 l:List Nat
 h:s=⟨l.toArray⟩
noncomputable def Ex.str (b:Base) (cs:Scope) (n:Nat) (x:Lit) (k:Nat) (p:Pos):Ex b cs n where
 py:=.Constant (.str x.s) k p
 run:=λ_ H=>.ok (.str x.l) H
 ok:=λ_ c g loc H s Q E _ R hp=>by
  refine wpAny_Constant_str ?_
  refine sY (x.h ..)▸?_
  exact hp g _ _ _ (.refl g) R (.str x.l _)
structure Lv (b:Base) (cs:Scope) where
 x:Nat
 h:cs.names.lookup (b.nm x)=some .local
noncomputable def ab (loc:Loc) (x:Nat) (H:aa):Res AV:=match loc.lookup x with
 |some v=>.ok v H
 |none=>.stuck
noncomputable def Ex.loc (b:Base) (cs:Scope) (n:Nat) (x:Nat) (p:Pos) (hd:autoParam ((b.nm x==("__debug__":Str))=false) xX):Ex b cs n where
 py:=.Name (b.nm x) p
 run:=λloc H=>ab loc x H
 ok:=λ_ c g loc H s Q E G R hp=>by
  replace hp:ao b c g loc s (ab loc x H) Q E:=hp
  unfold ab at hp
  cases e:loc.lookup x with
  |none=>rw [e] at hp;exact hp.elim
  |some v=>
   rw [e] at hp
   refine aJ R ?_;clear R;intro m ag af R'
   refine ai (R'.loc _ _ e) ?_;intro val h1 h2
   have hk:c.env.scope.kind=.function:=by rw [G.sc];exact G.kind
   have fin:Q val s:=hp g val s.heap s.toks (.refl g) ⟨m,ag,af,R'⟩ h2
   rcases h1 with ⟨k1,k2⟩ |⟨k1,a,o,k2,k3,k4⟩
   ·exact wpAny_Name (wpAny_loadName_local hk k1 (by rw [G.locals];exact R'.ns) k2 fin) hd
   ·exact wpAny_Name (wpAny_loadName_cell hk k1 k2 ⟨o,R'.there k3,k4⟩ fin) hd
noncomputable def aY (v:AV) (H:aa):Res Bool:=match v with
 |.bool t=>.ok t H
 |.none=>.ok false H
 |_=>.stuck
theorem g8 {c:FC} {g:Gh} {loc:Loc} {H:aa} {s:Shared} {Q:Bool→Shared→Prop} {E:VP} {v:AV} {val:Value} (R:Rep b c g loc H s.heap) (V:ak b g v val)
  (hp:d0 b c g loc s (aY v H) Q E):wpAny (model b.prog b.w) c.A (truthy val) Q E s:=by
 cases v with
 |none=>cases V.inv;exact truthy_none (hp g s.heap s.toks (.refl g) R)
 |bool v=>cases V.inv;exact wpAny_truthy_bool (hp g s.heap s.toks (.refl g) R)
 |_=>exact hp.elim
noncomputable def Tx.of (e:Ex b cs n) (he:autoParam (kd e.py=true) zB):Tx b cs n where
 py:=e.py
 run:=λloc H=>(e.run loc H).bind aY
 ok:=λO c g loc H s Q E G R hp=>isTrue_plain (e.ok O c g loc H s _ E G R (hp.dD λv H' g' val h' t' le R' V aw=>g8 (s:={s with heap:=h',toks:=t'}) R' V aw)) (J7 _ he _ _)
noncomputable def Tx.not (e:Tx b cs n) (p:Pos):Tx b cs n where
 py:=.UnaryOp .Not e.py p
 run:=λloc H=>(e.run loc H).bind λv H=>.ok (!v) H
 ok:=λO c g loc H s Q E G R hp=>isTrue_not (e.ok O c g loc H s _ E G R (hp.seq λv H' g' h' t' le R' aw=>aw g' h' t' (.refl _) R'))
inductive gM (b:Base) (cs:Scope) (n:Nat) where
 |nil
 |cons (e:Tx b cs n) (r:gM b cs n)
noncomputable def gM.py:gM b cs n→List Expr
 |.nil=>[]
 |.cons e r=>e.py::r.py
noncomputable def gM.and:gM b cs n→Loc→aa→Res Bool
 |.nil,_,H=>.ok true H
 |.cons e r,loc,H=>(e.run loc H).bind λv H=>match v with |true=>r.and loc H |false=>.ok false H
noncomputable def gM.or:gM b cs n→Loc→aa→Res Bool
 |.nil,_,H=>.ok false H
 |.cons e r,loc,H=>(e.run loc H).bind λv H=>match v with |true=>.ok true H |false=>r.or loc H
theorem gM.tJ (O:b.Ok) (p:Pos) (es:gM b cs n):∀ (c:FC) (g:Gh) (loc:Loc) (H:aa) (s:Shared) (Q:Bool→Shared→Prop) (E:VP) (whole:Sem Value),c.Good b cs n→Rep b c g loc H s.heap→d0 b c g loc s (es.and loc H) Q E→
  wpAny (model b.prog b.w) c.A (isTrue (.BoolOp .And es.py p) c.env whole) Q E s:=by
 induction es with
 |nil=>
  exact λc g loc H s Q E whole G R hp=>isTrue_and_nil (hp g s.heap s.toks (.refl g) R)
 |cons e r ih=>
  exact λc g loc H s Q E whole G R hp=>isTrue_and (e.ok O c g loc H s _ E G R (hp.seq λv H' g' h' t' le R' aw=>by
   cases v with
   |true=>exact ih c g' loc H' {s with heap:=h',toks:=t'} Q E whole G R' aw
   |false=>exact aw g' h' t' (.refl _) R'))
theorem gM.vG (O:b.Ok) (p:Pos) (es:gM b cs n):∀ (c:FC) (g:Gh) (loc:Loc) (H:aa) (s:Shared) (Q:Bool→Shared→Prop) (E:VP) (whole:Sem Value),c.Good b cs n→Rep b c g loc H s.heap→d0 b c g loc s (es.or loc H) Q E→
  wpAny (model b.prog b.w) c.A (isTrue (.BoolOp .Or es.py p) c.env whole) Q E s:=by
 induction es with
 |nil=>
  exact λc g loc H s Q E whole G R hp=>isTrue_or_nil (hp g s.heap s.toks (.refl g) R)
 |cons e r ih=>
  exact λc g loc H s Q E whole G R hp=>isTrue_or (e.ok O c g loc H s _ E G R (hp.seq λv H' g' h' t' le R' aw=>by
   cases v with
   |false=>exact ih c g' loc H' {s with heap:=h',toks:=t'} Q E whole G R' aw
   |true=>exact aw g' h' t' (.refl _) R'))
noncomputable def Tx.and (es:gM b cs n) (p:Pos):Tx b cs n:=⟨.BoolOp .And es.py p,es.and,λO c g loc H s Q E G R hp=>gM.tJ O p es c g loc H s Q E _ G R hp⟩
noncomputable def Tx.or (es:gM b cs n) (p:Pos):Tx b cs n:=⟨.BoolOp .Or es.py p,es.or,λO c g loc H s Q E G R hp=>gM.vG O p es c g loc H s Q E _ G R hp⟩
inductive bx (b:Base) (cs:Scope) (n:Nat) where
 |nil
 |cons (e:Ex b cs n) (r:bx b cs n)
noncomputable def bx.py:bx b cs n→List Expr
 |.nil=>[]
 |.cons e r=>e.py::r.py
noncomputable def bx.and:bx b cs n→Loc→aa→Res AV
 |.nil,_,_=>.stuck
 |.cons e .nil,loc,H=>e.run loc H
 |.cons e (.cons e' r),loc,H=>(e.run loc H).bind λv H=>(aY v H).bind λt H=>match t with |true=>(bx.cons e' r).and loc H |false=>.ok v H
noncomputable def bx.or:bx b cs n→Loc→aa→Res AV
 |.nil,_,_=>.stuck
 |.cons e .nil,loc,H=>e.run loc H
 |.cons e (.cons e' r),loc,H=>(e.run loc H).bind λv H=>(aY v H).bind λt H=>match t with |true=>.ok v H |false=>(bx.cons e' r).or loc H
theorem bx.tJ (O:b.Ok) (p:Pos):∀ (es:bx b cs n),x6 b cs n (.BoolOp .And es.py p) es.and
 |.nil,c,g,loc,H,s,Q,E,G,R,hp=>hp.elim
 |.cons e .nil,c,g,loc,H,s,Q,E,G,R,hp=>BoolOp_one (e.ok O c g loc H s Q E G R hp)
 |.cons e (.cons e' r),c,g,loc,H,s,Q,E,G,R,hp=>BoolOp_and (e.ok O c g loc H s _ E G R (hp.seq λv H' g' val h' t' le R' V aw=>
   g8 (s:={s with heap:=h',toks:=t'}) R' V (aw.oJ λt H2 g2 h2 t2 aP R2 bA=>by
    cases t with
    |true=>exact tJ O p (.cons e' r) c g2 loc H2 {s with heap:=h2,toks:=t2} Q E G R2 bA
    |false=>exact bA g2 val h2 t2 (.refl _) R2 (V.mono aP))))
theorem bx.vG (O:b.Ok) (p:Pos):∀ (es:bx b cs n),x6 b cs n (.BoolOp .Or es.py p) es.or
 |.nil,c,g,loc,H,s,Q,E,G,R,hp=>hp.elim
 |.cons e .nil,c,g,loc,H,s,Q,E,G,R,hp=>BoolOp_one (e.ok O c g loc H s Q E G R hp)
 |.cons e (.cons e' r),c,g,loc,H,s,Q,E,G,R,hp=>BoolOp_or (e.ok O c g loc H s _ E G R (hp.seq λv H' g' val h' t' le R' V aw=>
   g8 (s:={s with heap:=h',toks:=t'}) R' V (aw.oJ λt H2 g2 h2 t2 aP R2 bA=>by
    cases t with
    |false=>exact vG O p (.cons e' r) c g2 loc H2 {s with heap:=h2,toks:=t2} Q E G R2 bA
    |true=>exact bA g2 val h2 t2 (.refl _) R2 (V.mono aP))))
noncomputable def Ex.and (es:bx b cs n) (p:Pos):Ex b cs n:=⟨.BoolOp .And es.py p,es.and,λO=>bx.tJ O p es,by intros;rfl⟩
noncomputable def Ex.or (es:bx b cs n) (p:Pos):Ex b cs n:=⟨.BoolOp .Or es.py p,es.or,λO=>bx.vG O p es,by intros;rfl⟩
noncomputable def Ex.ite (t:Tx b cs n) (x y:Ex b cs n) (p:Pos):Ex b cs n where
 py:=.IfExp t.py x.py y.py p
 run:=λloc H=>(t.run loc H).bind λv H=>match v with |true=>x.run loc H |false=>y.run loc H
 ok:=λO c g loc H s Q E G R hp=>IfExp_ (t.ok O c g loc H s _ E G R (hp.oJ λv H' g' h' t' le R' aw=>by
  cases v with
  |true=>exact x.ok O c g' loc H' {s with heap:=h',toks:=t'} Q E G R' aw
  |false=>exact y.ok O c g' loc H' {s with heap:=h',toks:=t'} Q E G R' aw))
def zI (b:Base) (f:AV→AV→aa→Res AV) (tree:Value→Value→Sem Value):Prop:=
 ∀ (c:FC) (g:Gh) (loc:Loc) (H:aa) (s:Shared) (Q E:VP) (cs:Scope) (n:Nat) (u v:AV) (x y:Value),c.Good b cs n→Rep b c g loc H s.heap→ak b g u x→ak b g v y→ao b c g loc s (f u v H) Q E→
  wpAny (model b.prog b.w) c.A (tree x y) Q E s
structure Op (b:Base) (op:Operator) where
 run:AV→AV→aa→Res AV
 ok:b.Ok→zI b run (binaryOp op)
noncomputable def Ex.bin {op:Operator} (x:Ex b cs n) (o:Op b op) (y:Ex b cs n) (p:Pos):Ex b cs n where
 py:=.BinOp x.py op y.py p
 run:=λloc H=>(x.run loc H).bind λu H=>(y.run loc H).bind λv H=>o.run u v H
 ok:=λO c g loc H s Q E G R hp=>wpAny_BinOp (x.ok O c g loc H s _ E G R (hp.seq λu H' g' val h' t' le R' V aw=>
  y.ok O c g' loc H' {s with heap:=h',toks:=t'} _ E G R' (aw.seq λv H2 g2 eQ h2 t2 aP R2 V2 bA=>
   o.ok O c g2 loc H2 {s with heap:=h2,toks:=t2} Q E _ _ u v val eQ G R2 (V.mono aP) V2 bA)))
structure Cp (b:Base) (op:CmpOp) where
 run:AV→AV→aa→Res AV
 ok:b.Ok→zI b run (compareOp op)
noncomputable def Ex.cmp {op:CmpOp} (x:Ex b cs n) (o:Cp b op) (y:Ex b cs n) (p:Pos) (hm:autoParam (behindInMarks op y.py=false) xX):Ex b cs n where
 py:=.Compare x.py [op] [y.py] p
 run:=λloc H=>(x.run loc H).bind λu H=>(y.run loc H).bind λv H=>o.run u v H
 ok:=λO c g loc H s Q E G R hp=>wpAny_Compare1 (x.ok O c g loc H s _ E G R (hp.seq λu H' g' val h' t' le R' V aw=>
  y.ok O c g' loc H' {s with heap:=h',toks:=t'} _ E G R' (aw.seq λv H2 g2 eQ h2 t2 aP R2 V2 bA=>
   o.ok O c g2 loc H2 {s with heap:=h2,toks:=t2} Q E _ _ u v val eQ G R2 (V.mono aP) V2 bA))) hm
theorem kB {A:Around} {E:VP} {s:Shared} {M:Model} {env:Env} {l op r pos whole} {Q:Bool→Shared→Prop}
  (h:wpAny M A (eval l env) (λa aO=>wpAny M A (eval r env) (λb cn=>wpAny M A (compareOp op a b) (λv eD=>wpAny M A (truthy v) Q E eD) E cn) E aO) E s)
  (hm:behindInMarks op r=false) :
  wpAny M A (isTrue (.Compare l [op] [r] pos) env whole) Q E s:=by
 rewrite [isTrue_Compare1];refine sY (markedBehindIn_of_false hm ..)▸?_
 refine wpAny_bind (wpAny_mono h (λa aO h₁=>wpAny_bind (wpAny_holding (wpAny_mono h₁ (λb cn xb=>wpAny_bind (wpAny_standAt (wpAny_bind (wpAny_operate' (wpAny_mono xb (λv eD xa=>wpAny_holding xa) λ_ _ x=>x))))) λ_ _ x=>x))) λ_ _ x=>x)
noncomputable def Tx.cmp {op:CmpOp} (x:Ex b cs n) (o:Cp b op) (y:Ex b cs n) (p:Pos) (hm:autoParam (behindInMarks op y.py=false) xX):Tx b cs n where
 py:=.Compare x.py [op] [y.py] p
 run:=λloc H=>(x.run loc H).bind λu H=>(y.run loc H).bind λv H=>(o.run u v H).bind aY
 ok:=λO c g loc H s Q E G R hp=>kB (x.ok O c g loc H s _ E G R (hp.dD λu H' g' val h' t' le R' V aw=>
  y.ok O c g' loc H' {s with heap:=h',toks:=t'} _ E G R' (aw.dD λv H2 g2 eQ h2 t2 aP R2 V2 bA=>
   o.ok O c g2 loc H2 {s with heap:=h2,toks:=t2} _ E _ _ u v val eQ G R2 (V.mono aP) V2 (bA.dD λz H3 g3 CW h3 t3 gV R3 V3 fF=>
    g8 (s:={s with heap:=h3,toks:=t3}) R3 V3 fF)))) hm
end
mutual
noncomputable def AV.data:AV→Option PyData
 |.none=>some .none
 |.bool b=>some (.bool b)
 |.int i=>some (.int i)
 |.str l=>some (.str ⟨l.toArray⟩)
 |.tup l=>(AV.gY l).map .tuple
 |.fl l=>(AV.gY l).map .list
 |.eY _=>Option.none
 |.ref _=>Option.none
 |.txt _=>Option.none
noncomputable def AV.gY:List AV→Option (List PyData)
 |[]=>some []
 |v::l=>v.data.bind λd=>(AV.gY l).map (d::·)
end
noncomputable def eqB (a:Bool):AV→Bool
 |.bool b=>a==b
 |.int j=>(if a then 1 else 0)==j
 |_=>false
noncomputable def LN (i:Int):AV→Bool
 |.bool b=>i==(if b then 1 else 0)
 |.int j=>i==j
 |_=>false
noncomputable def LK (a:List Nat):AV→Bool
 |.str b=>a==b
 |_=>false
noncomputable def LL:AV→Bool
 |.none=>true
 |_=>false
mutual
noncomputable def gz:AV→AV→Bool
 |.none,v=>LL v
 |.bool a,v=>eqB a v
 |.int i,v=>LN i v
 |.str a,v=>LK a v
 |.tup a,v=>match v with
  |.tup b=>pO a b
  |_=>false
 |.fl a,v=>match v with
  |.fl b=>pO a b
  |_=>false
 |.eY _,_=>false
 |.ref _,_=>false
 |.txt _,_=>false
noncomputable def pO:List AV→List AV→Bool
 |[],m=>m.isEmpty
 |a::l,m=>match m with
  |b::m=>gz a b&&pO l m
  |[]=>false
end
mutual
noncomputable def AV.isData:AV→Bool
 |.eY _=>false
 |.ref _=>false
 |.txt _=>false
 |.tup l=>AV.eZ l
 |.fl l=>AV.eZ l
 |.str l=>l.all λc=>decide (c < 1114112)
 |_=>true
noncomputable def AV.eZ:List AV→Bool
 |[]=>true
 |v::l=>v.isData&&AV.eZ l
end
mutual
noncomputable def AV.depth:AV→Nat
 |.tup l=>AV.jG l+1
 |.fl l=>AV.jG l+1
 |_=>0
noncomputable def AV.jG:List AV→Nat
 |[]=>0
 |v::l=>max v.depth (AV.jG l)
end
mutual
theorem AV.lM:∀ (v:AV),v.isData=true→∃ d,v.data=some d∧d.canLay0=true∧d.depth=v.depth
 |.none,_=>⟨_,rfl,rfl,rfl⟩
 |.bool _,_=>⟨_,rfl,rfl,rfl⟩
 |.int _,_=>⟨_,rfl,rfl,rfl⟩
 |.str l,h=>⟨.str ⟨l.toArray⟩,rfl,(List.all_toArray).trans h,rfl⟩
 |.tup l,h=>(AV.km l h).elim λds k=>⟨.tuple ds,congrArg (Option.map PyData.tuple) k.1,k.2.1,congrArg (·+1) k.2.2⟩
 |.fl l,h=>(AV.km l h).elim λds k=>⟨.list ds,congrArg (Option.map PyData.list) k.1,k.2.1,congrArg (·+1) k.2.2⟩
 |.eY _,h=>nomatch h
 |.ref _,h=>nomatch h
 |.txt _,h=>nomatch h
theorem AV.km:∀ (l:List AV),AV.eZ l=true→∃ ds,AV.gY l=some ds∧PyData.canLayAll0 ds=true∧PyData.depthAll ds=AV.jG l
 |[],_=>⟨[],rfl,rfl,rfl⟩
 |v::l,h=>(AV.lM v (Bool.and_eq_true_iff.mp h).1).elim λd k=>(AV.km l (Bool.and_eq_true_iff.mp h).2).elim λds q=>
  ⟨d::ds,by show v.data.bind _=_;rw [k.1];exact congrArg (Option.map (d::·)) q.1,Bool.and_eq_true_iff.mpr ⟨k.2.1,q.2.1⟩,by show max d.depth (PyData.depthAll ds)=max v.depth (AV.jG l);rw [k.2.2,q.2.2]⟩
end
theorem str_beq (a b:List Nat):((⟨a.toArray⟩:Str)==⟨b.toArray⟩)=(a==b):=by
 rewrite [Bool.eq_iff_iff,beq_iff_eq,beq_iff_eq]
 exact ⟨λh=>by injection h with h;injection h,λh=>by rw [h]⟩
def vn (v:AV) (e:PyData):Prop:=match v with
 |.none=>e=.none
 |.bool b=>e=.bool b
 |.int i=>e=.int i
 |.str l=>e=.str ⟨l.toArray⟩
 |.tup l=>∃ ys,AV.gY l=some ys∧e=.tuple ys
 |.fl l=>∃ ys,AV.gY l=some ys∧e=.list ys
 |_=>False
theorem vn.of (v:AV) {e:PyData}:v.data=some e→vn v e:=by
 cases v<;>intro k
 ·exact (Option.some.inj k).symm
 ·exact (Option.some.inj k).symm
 ·exact (Option.some.inj k).symm
 ·exact (Option.some.inj k).symm
 ·exact (Option.map_eq_some_iff.mp k).elim λys h=>⟨ys,h.1,h.2.symm⟩
 ·exact (Option.map_eq_some_iff.mp k).elim λys h=>⟨ys,h.1,h.2.symm⟩
 all_goals exact nomatch k
theorem He (v:AV) {e:PyData}:vn v e→LL v=PyData.eqv .none e:=by
 cases v with
 |tup l=>(intro zq;(refine ai zq ?_;clear zq;rintro _ _ rfl));rfl
 |fl l=>(intro zq;(refine ai zq ?_;clear zq;rintro _ _ rfl));rfl
 |_=>first |(rintro rfl;rfl) |exact λk=>k.elim
theorem Hg (a:Bool) (v:AV) {e:PyData}:vn v e→eqB a v=PyData.eqv (.bool a) e:=by
 cases v with
 |tup l=>(intro zq;(refine ai zq ?_;clear zq;rintro _ _ rfl));rfl
 |fl l=>(intro zq;(refine ai zq ?_;clear zq;rintro _ _ rfl));rfl
 |_=>first |(rintro rfl;rfl) |exact λk=>k.elim
theorem Hf (a:Int) (v:AV) {e:PyData}:vn v e→LN a v=PyData.eqv (.int a) e:=by
 cases v with
 |tup l=>(intro zq;(refine ai zq ?_;clear zq;rintro _ _ rfl));rfl
 |fl l=>(intro zq;(refine ai zq ?_;clear zq;rintro _ _ rfl));rfl
 |_=>first |(rintro rfl;rfl) |exact λk=>k.elim
theorem Hd (a:List Nat) (v:AV) {e:PyData}:vn v e→LK a v=PyData.eqv (.str ⟨a.toArray⟩) e:=by
 cases v with
 |str b=>exact λk=>k▸(str_beq a b).symm
 |tup l=>(intro zq;(refine ai zq ?_;clear zq;rintro _ _ rfl));rfl
 |fl l=>(intro zq;(refine ai zq ?_;clear zq;rintro _ _ rfl));rfl
 |_=>first |(rintro rfl;rfl) |exact λk=>k.elim
theorem iM {v:AV} {l:List AV} {xs:List PyData} (h:AV.gY (v::l)=some xs):∃ d ds,v.data=some d∧AV.gY l=some ds∧xs=d::ds:=
 (Option.bind_eq_some_iff.mp h).elim λd k=>(Option.map_eq_some_iff.mp k.2).elim λds q=>⟨d,ds,k.1,q.1,q.2.symm⟩
mutual
theorem um:∀ (u v:AV) {d e:PyData},u.data=some d→v.data=some e→gz u v=PyData.eqv d e
 |.none,v,_,_,h,k=>Option.some.inj h▸He v (.of v k)
 |.bool a,v,_,_,h,k=>Option.some.inj h▸Hg a v (.of v k)
 |.int a,v,_,_,h,k=>Option.some.inj h▸Hf a v (.of v k)
 |.str a,v,_,_,h,k=>Option.some.inj h▸Hd a v (.of v k)
 |.tup a,v,_,e,h,k=>(Option.map_eq_some_iff.mp h).elim λxs q=>q.2▸(by
  have k:=vn.of v k
  revert k
  cases v with
  |tup b=>(intro zq;(refine ai zq ?_;clear zq;rintro ys k1 rfl));exact rS a b q.1 k1
  |fl l=>(intro zq;(refine ai zq ?_;clear zq;rintro _ _ rfl));rfl
  |_=>first |(rintro rfl;rfl) |exact λk=>k.elim)
 |.fl a,v,_,e,h,k=>(Option.map_eq_some_iff.mp h).elim λxs q=>q.2▸(by
  have k:=vn.of v k
  revert k
  cases v with
  |fl b=>(intro zq;(refine ai zq ?_;clear zq;rintro ys k1 rfl));exact rS a b q.1 k1
  |tup l=>(intro zq;(refine ai zq ?_;clear zq;rintro _ _ rfl));rfl
  |_=>first |(rintro rfl;rfl) |exact λk=>k.elim)
 |.eY _,_,_,_,h,_=>nomatch h
 |.ref _,_,_,_,h,_=>nomatch h
 |.txt _,_,_,_,h,_=>nomatch h
theorem rS:∀ (l m:List AV) {xs ys:List PyData},AV.gY l=some xs→AV.gY m=some ys→pO l m=PyData.eqvAll xs ys
 |[],m,xs,ys,h,k=>by
  cases h
  cases m with
  |nil=>cases k;rfl
  |cons b m=>(refine bk (iM k) ?_;rintro _ _ _ _ rfl);rfl
 |a::l,m,xs,ys,h,k=>by
  refine bk (iM h) ?_;rintro d ds h1 h2 rfl
  cases m with
  |nil=>cases k;rfl
  |cons b m=>
   refine bk (iM k) ?_;rintro e es k1 k2 rfl
   show (gz a b&&pO l m)=(PyData.eqv d e&&PyData.eqvAll ds es)
   refine sY (um a b h1 k1 ..)▸?_;refine sY (rS l m h2 k2 ..)▸?_;rfl
end
mutual
theorem ak.reads {b:Base} {g:Gh} {h:Heap} (T:∀ a o,eP b g a o→h.get? a=some o):∀ (v:AV) {x:Value} {d:PyData},ak b g v x→v.data=some d→∃ as,Reads h x d as
 |.none,_,_,V,e=>by cases V.inv;cases e;exact ⟨_,.none⟩
 |.bool _,_,_,V,e=>by cases V.inv;cases e;exact ⟨_,.bool _⟩
 |.int _,_,_,V,e=>by (refine bg V.inv ?_;rintro t rfl);cases e;exact ⟨_,.int _ _⟩
 |.str _,_,_,V,e=>by (refine bg V.inv ?_;rintro t rfl);cases e;exact ⟨_,.str _ _⟩
 |.tup l,_,_,V,e=>by
  obtain ⟨a,rfl,o,vs,n,h1,h2,h3,h4,h5⟩:=V.inv
  refine ai (Option.map_eq_some_iff.mp e) ?_;rintro xs e1 rfl
  exact (aX.reads T l h5 e1).elim λas r=>⟨_,.tuple (T _ _ h1) h2 h3 r⟩
 |.fl l,_,_,V,e=>by
  obtain ⟨a,rfl,o,vs,n,h1,h2,h3,h4,h5⟩:=V.inv
  refine ai (Option.map_eq_some_iff.mp e) ?_;rintro xs e1 rfl
  exact (aX.reads T l h5 e1).elim λas r=>⟨_,.list (T _ _ h1) h2 h3 r⟩
 |.eY _,_,_,_,e=>nomatch e
 |.ref _,_,_,_,e=>nomatch e
 |.txt _,_,_,_,e=>nomatch e
theorem aX.reads {b:Base} {g:Gh} {h:Heap} (T:∀ a o,eP b g a o→h.get? a=some o):∀ (l:List AV) {m:List Value} {ds:List PyData},aX b g l m→AV.gY l=some ds→∃ as,ReadsAll h m ds as
 |[],_,_,V,e=>by cases V;cases e;exact ⟨_,.nil⟩
 |v::l,_,_,V,e=>by
  refine bk (iM e) ?_;rintro d ds e1 e2 rfl
  cases V with |cons h1 h2=>exact (ak.reads T v h1 e1).elim λas r=>(aX.reads T l h2 e2).elim λbs q=>⟨_,.cons r q⟩
end
noncomputable def itemsOf (H:aa):AV→Option (List AV)
 |.fl l=>some l
 |.ref i=>match H[i]? with
  |some (.list l)=>some l
  |_=>Option.none
 |_=>Option.none
noncomputable def flat (H:aa) (v:AV):AV:=match v with
 |.ref i=>match H[i]? with
  |some (.list l)=>.fl l
  |_=>v
 |_=>v
section
variable {b:Base} {c:FC} {g:Gh} {loc:Loc} {H:aa} {h h':Heap} {m:Str→Option Value} {ag:List (List (Addr×Obj))} {af:List (Addr×Obj)}
theorem nu (R:aE b c g loc H h m ag af) {i:Nat} {a:Addr} {ob:aK} (hr:g.ρ[i]?=some a) (ho:H[i]?=some ob) (hd:ob≠.dead:=by nofun):∃ ch,ag[i]?=some ch∧aZ b (ak b g) (bl b g) ob ch∧iN ch=a:=by
 refine ai (R.heap.get ho) ?_;intro ch h1 h2
 refine ⟨ch,h1,h2,?_⟩
 refine ai (R.bX.get hr) ?_;intro ch' h3 h4
 cases h1.symm.trans h3
 rcases h4 with h4 |h4
 ·subst h4;cases h2;exact absurd rfl hd
 ·exact h4
theorem dp (R:aE b c g loc H h m ag af) {i:Nat} {ch:List (Addr×Obj)} (hi:ag[i]?=some ch) {p:Addr×Obj} (hp:p∈ch):p∈cells g ag af c.pins:=
 List.mem_append_right _ (List.mem_append_left _ (List.mem_flatten.mpr ⟨ch,List.mem_of_getElem? hi,hp⟩))
theorem s6 (R:aE b c g loc H h m ag af) {i:Nat} {a:Addr} {C:Nat} {fs:List (Nat×AV)} (hr:g.ρ[i]?=some a) (ho:H[i]?=some (.inst C fs)):∃ d es n,ag[i]?=some [(a,instObj C d),(d,bE es n)]∧aI (cJ b.nm (ak b g)) fs es:=
 (nu R hr ho).elim λ_ k=>k.2.1.inv.elim λa' q=>q.elim λd q=>q.elim λes q=>q.elim λn q=>⟨d,es,n,by rw [k.1,q.1,← k.2.2,q.1];rfl,q.2⟩
theorem sQ (R:aE b c g loc H h m ag af) {i:Nat} {a:Addr} {l:List AV} (hr:g.ρ[i]?=some a) (ho:H[i]?=some (.list l)):∃ vs n,ag[i]?=some [(a,bG vs n)]∧aI (ak b g) l vs:=
 (nu R hr ho).elim λ_ k=>k.2.1.inv.elim λa' q=>q.elim λvs q=>q.elim λn q=>⟨vs,n,by rw [k.1,q.1,← k.2.2,q.1];rfl,q.2⟩
theorem tB (R:aE b c g loc H h m ag af) {i:Nat} {a:Addr} {l:List (List Nat×AV)} (hr:g.ρ[i]?=some a) (ho:H[i]?=some (.dict l)):∃ es n,ag[i]?=some [(a,bE es n)]∧(l.map (·.1)).Nodup∧bl b g l es:=
 (nu R hr ho).elim λ_ k=>k.2.1.inv.elim λa' q=>q.elim λvs q=>q.elim λn q=>⟨vs,n,by rw [k.1,q.1,← k.2.2,q.1];rfl,q.2⟩
theorem zY (R:aE b c g loc H h m ag af) {i:Nat} {a:Addr} {C:Nat} {ts:List AV} (hr:g.ρ[i]?=some a) (ho:H[i]?=some (.scan C ts)) :
  ∃ x y l j d es n,b.bH x y l j ts∧ag[i]?=some [(a,instObj C d),(d,bE es n)]∧aI (cJ b.nm (ak b g)) [(x,.str l),(y,.int j)] es:=
 (nu R hr ho).elim λ_ k=>k.2.1.inv.elim λa' q=>q.elim λd q=>q.elim λes q=>q.elim λn q=>q.2.elim λx r=>r.elim λy r=>r.elim λl r=>r.elim λj r=>⟨x,y,l,j,d,es,n,r.1,by rw [k.1,q.1,← k.2.2,q.1];rfl,r.2⟩
theorem DU {o:Option aK} {l:List AV}:(match o with |some (.list l)=>some l |_=>Option.none)=some l→o=some (.list l):=by
 cases o with
 |none=>exact nofun
 |some o=>cases o<;>intro h<;>cases h;rfl
theorem BZ {v:AV} {l:List AV}:itemsOf H v=some l→v=.fl l∨∃ i,v=.ref i∧H[i]?=some (.list l):=by
 cases v with
 |fl l'=>exact λh=>.inl (congrArg _ (Option.some.inj h))
 |ref i=>exact λh=>.inr ⟨i,rfl,DU h⟩
 |_=>exact nofun
theorem dz (R:aE b c g loc H h m ag af) {v:AV} {x:Value} {l:List AV} (V:ak b g v x) (e:itemsOf H v=some l) :
  ∃ a o vs n,x=.ref a∧h.get? a=some o∧o.cls=.type "list"∧o.data=.seq (List.toArray vs) n∧o.dict=none∧aX b g l vs:=by
 rcases BZ e with rfl |⟨i,rfl,ho⟩
 ·obtain ⟨a,rfl,o,vs,n,h1,h2,h3,h4,h5⟩:=V.inv
  exact ⟨a,o,vs,n,rfl,R.there h1,h2,h3,h4,h5⟩
 ·refine ai V.inv ?_;rintro a rfl hr
  refine fk (sQ R hr ho) ?_;intro vs n h1 hv
  exact ⟨_,_,_,_,rfl,R.cell _ (dp R h1 (.head _)),rfl,rfl,rfl,.of hv⟩
theorem Ew (v:AV):flat H v=v∨∃ l,itemsOf H v=some l∧flat H v=.fl l:=by
 cases v with
 |ref i=>
  show (match H[i]? with |some (.list l)=>AV.fl l |_=>.ref i)=_∨∃ l,(match H[i]? with |some (.list l)=>some l |_=>Option.none)=_∧(match H[i]? with |some (.list l)=>AV.fl l |_=>.ref i)=_
  generalize H[i]?=o
  cases o with
  |none=>exact .inl rfl
  |some o=>cases o<;>first |exact .inl rfl |exact .inr ⟨_,rfl,rfl⟩
 |_=>exact .inl rfl
theorem wu (R:aE b c g loc H h m ag af) {v:AV} {x:Value} {d:PyData} (V:ak b g v x) (e:(flat H v).data=some d):∃ as,Reads h x d as:=by
 have T:∀ a o,eP b g a o→h.get? a=some o:=λ_ _ t=>R.there t
 rcases Ew (H:=H) v with q |⟨l,q1,q2⟩
 ·rw [q] at e;exact V.reads T _ e
 ·rw [q2] at e
  refine eO (dz R V q1) ?_;rintro a o vs n rfl h1 h2 h3 h4 h5
  refine ai (Option.map_eq_some_iff.mp e) ?_;rintro xs e1 rfl
  exact (h5.reads T _ e1).elim λas r=>⟨_,.list h1 h2 h3 r⟩
theorem aE.ofNews (R:aE b c g loc H h m ag af) (F:Fr b.hT c.L h' m) (N:News b.hT c.L h' (cells g ag af c.pins)):aE b c g loc H h' m ag af:=
 {R with stays:=F.keep,ns:=F.ns,cell:=λp hp=>(N p hp).1}
theorem aE.zH (R:aE b c g loc H h m ag af) {a:Addr} {o:Obj} (F:Fr b.hT c.L h' m) (N:News b.hT c.L h' ((a,o)::cells g ag af c.pins)) (hn:h.objs.size≤a) :
  aE b c {g with bF:=(a,o)::g.bF} loc H h' m ag af:=by
 have le:=bJ g (a,o)
 refine {stays:=F.keep,ns:=F.ns,above:=R.above,cell:=λp hp=>(N p hp).1,nodup:=?_,off:=?_,loc:=?_,heap:=?_,bX:=R.bX,af:=R.af}
 ·show (((a,o)::cells g ag af c.pins).map (·.1)).Nodup
  refine sY (List.map_cons ..)▸?_;rewrite [List.nodup_cons]
  refine ⟨λhm=>?_,R.nodup⟩
  refine ai (List.mem_map.mp hm) ?_;intro p hp q
  exact absurd (Heap.lt_size (R.cell p hp)) (Nat.not_lt.mpr (by rw [q];exact hn))
 ·intro p hp
  rcases List.mem_cons.mp (show p∈(a,o)::cells g ag af c.pins from hp) with rfl |hp
  ·exact ⟨Nat.le_trans R.above (Nat.le_trans (Nat.le_of_lt R.lt) hn),Nat.ne_of_gt (Nat.lt_of_lt_of_le R.lt hn)⟩
  ·exact R.off p hp
 ·intro x v hx
  refine ai (R.loc x v hx) ?_;intro val h1 h2
  exact ⟨val,h1.mono le,h2.mono le⟩
 ·exact R.heap.imp λ_ _ z=>z.imp (λ_ _=>ak.mono le) λ_ _=>bl.mono le
end
theorem ao.here {b:Base} {c:FC} {g:Gh} {loc:Loc} {s:Shared} {Q E:VP} {v:AV} {H:aa} {x:Value} {t:Nat} (hp:ao b c g loc s (.ok v H) Q E) (R:Rep b c g loc H s.heap) (V:ak b g v x) :
  Q x {s with toks:=t}:=hp g x s.heap t (.refl g) R V
section
variable {α:Type} {b:Base} {g:Gh} {P:Res α→Prop}
noncomputable def lu (r:AV→Res α) (l:List AV):Res α:=match l with
 |[a]=>r a
 |_=>.stuck
noncomputable def E3 (r:AV→AV→Res α) (l:List AV):Res α:=match l with
 |[a,b]=>r a b
 |_=>.stuck
noncomputable def onStr (r:List Nat→Res α) (v:AV):Res α:=match v with
 |.str l=>r l
 |_=>.stuck
noncomputable def E2 (r:List AV→Res α) (v:AV):Res α:=match v with
 |.tup l=>r l
 |_=>.stuck
noncomputable def DC (r:List AV→Res α) (v:AV):Res α:=match v with
 |.fl l=>r l
 |_=>.stuck
noncomputable def iE (r:Int→Res α) (v:AV):Res α:=match v with
 |.int l=>r l
 |_=>.stuck
noncomputable def bV {β:Type} (r:β→Res α) (v:Option β):Res α:=match v with
 |some l=>r l
 |none=>.stuck
theorem nil_of {m:List Value} (V:aX b g [] m):m=[]:=List.eq_nil_of_length_eq_zero V.all.length.symm
theorem cons_of {v:AV} {l:List AV} {m:List Value} (V:aX b g (v::l) m):∃ x r,m=x::r∧ak b g v x∧aX b g l r:=by
 cases V with |cons h t=>exact ⟨_,_,rfl,h,t⟩
theorem dw {C:List Value→Prop} {r:AV→Res α} {args:List AV} {vals:List Value} (hs:¬ P .stuck) (W:aX b g args vals) (hp:P (lu r args)) (k:∀ a y,ak b g a y→P (r a)→C [y]):C vals:=by
 match args with
 |[a]=>
  refine bk (cons_of W) ?_;rintro x m rfl V1 W
  refine sY (nil_of W ..)▸?_
  exact k a x V1 hp
 |[]=>exact absurd hp hs
 |_::_::_=>exact absurd hp hs
theorem rC {C:List Value→Prop} {r:AV→AV→Res α} {args:List AV} {vals:List Value} (hs:¬ P .stuck) (W:aX b g args vals) (hp:P (E3 r args)) (k:∀ a a' y y',ak b g a y→ak b g a' y'→P (r a a')→C [y,y']):C vals:=by
 match args with
 |[a,a']=>
  refine bk (cons_of W) ?_;rintro x m rfl V1 W
  refine bk (cons_of W) ?_;rintro y m rfl V2 W
  refine sY (nil_of W ..)▸?_
  exact k a a' x y V1 V2 hp
 |[]=>exact absurd hp hs
 |[_]=>exact absurd hp hs
 |_::_::_::_=>exact absurd hp hs
theorem gq {C:Value→Prop} {r:List Nat→Res α} {v:AV} {x:Value} (hs:¬ P .stuck) (V:ak b g v x) (hp:P (onStr r v)) (k:∀ l t,P (r l)→C (.str ⟨l.toArray⟩ t)):C x:=by
 cases v with
 |str l=>exact V.inv.elim λt h=>h▸k l t hp
 |_=>exact absurd hp hs
theorem hK {C:Value→Prop} {r:Int→Res α} {v:AV} {x:Value} (hs:¬ P .stuck) (V:ak b g v x) (hp:P (iE r v)) (k:∀ i t,P (r i)→C (.int i t)):C x:=by
 cases v with
 |int l=>exact V.inv.elim λt h=>h▸k l t hp
 |_=>exact absurd hp hs
theorem qk {r:Int→Res α} {v:AV} {x:Value} (V:ak b g v x) (hs:¬ P .stuck) (hp:P (iE r v)):∃ i t,v=.int i∧x=.int i t∧P (r i):=by
 cases v with
 |int l=>exact V.inv.elim λt h=>⟨l,t,rfl,h,hp⟩
 |_=>exact absurd hp hs
theorem CZ {r:List AV→Res α} {v:AV} (hs:¬ P .stuck) (hp:P (E2 r v)):∃ l,v=.tup l∧P (r l):=by
 cases v with
 |tup l=>exact ⟨l,rfl,hp⟩
 |_=>exact absurd hp hs
theorem zk {r:List AV→Res α} {v:AV} (hs:¬ P .stuck) (hp:P (DC r v)):∃ l,v=.fl l∧P (r l):=by
 cases v with
 |fl l=>exact ⟨l,rfl,hp⟩
 |_=>exact absurd hp hs
theorem cW {β:Type} {r:β→Res α} {v:Option β} (hs:¬ P .stuck) (hp:P (bV r v)):∃ l,v=some l∧P (r l):=by
 cases v with
 |some l=>exact ⟨l,rfl,hp⟩
 |none=>exact absurd hp hs
theorem D7 {p:Prop} [Decidable p] {r:Res α} (hs:¬ P .stuck) (hp:P (if p then r else .stuck)):p∧P r:=
 (Decidable.em p).elim (λh=>⟨h,by rw [if_pos h] at hp;exact hp⟩) λh=>by rw [if_neg h] at hp;exact absurd hp hs
end
noncomputable def aq:Nat:=16777216
theorem GA:sizeLine=aq:=rfl
noncomputable def Jt (H:aa) (x y:Option (List AV)):Res AV:=match x,y with
 |some a,some b=>if a.length+b.length≤aq then .ok (.fl (a++b)) H else .stuck
 |_,_=>.stuck
noncomputable def MH (u v:AV) (H:aa):Res AV:=match u,v with
 |.int a,.int b=>.ok (.int (a+b)) H
 |.str a,.str b=>if a.length+b.length≤aq then .ok (.str (a++b)) H else .stuck
 |.tup a,.tup b=>if a.length+b.length≤aq then .ok (.tup (a++b)) H else .stuck
 |u,v=>Jt H (itemsOf H u) (itemsOf H v)
theorem aX.length {b:Base} {g:Gh} {l:List AV} {m:List Value} (h:aX b g l m):l.length=m.length:=h.all.length
theorem aX.append {b:Base} {g:Gh} {l l':List AV} {m m':List Value} (h:aX b g l m) (k:aX b g l' m'):aX b g (l++l') (m++m'):=.of (h.all.append k.all)
theorem mQ (a b:List Nat):(⟨a.toArray⟩:Str)++⟨b.toArray⟩=⟨(a++b).toArray⟩:=by
 show (⟨a.toArray++b.toArray⟩:Str)=_
 simp
theorem ao.ite {b:Base} {c:FC} {g:Gh} {loc:Loc} {s:Shared} {Q E:VP} {p:Prop} [Decidable p] {r:Res AV} (hp:ao b c g loc s (if p then r else .stuck) Q E):p∧ao b c g loc s r Q E:=
 (Decidable.em p).elim (λh=>⟨h,by rw [if_pos h] at hp;exact hp⟩) λh=>by rw [if_neg h] at hp;exact hp.elim
theorem vl {b:Base} {c:FC} {g:Gh} {loc:Loc} {H:aa} {s:Shared} {Q E:VP} {u v:AV} {x y:Value} (R:Rep b c g loc H s.heap) (U:ak b g u x) (V:ak b g v y)
  (hp:ao b c g loc s (Jt H (itemsOf H u) (itemsOf H v)) Q E):wpAny (model b.prog b.w) c.A (binaryOp .Add x y) Q E s:=by
 cases ha:itemsOf H u with
 |none=>rw [ha] at hp;exact hp.elim
 |some a=>
  cases hb:itemsOf H v with
  |none=>rw [ha,hb] at hp;exact hp.elim
  |some b'=>
   rw [ha,hb] at hp
   refine aQ (ao.ite hp) ?_;intro hz hp
   refine aJ R ?_;clear R;intro m ag af R
   refine eO (dz R U ha) ?_;rintro p o vs k rfl h1 h2 h3 h4 h5
   refine eO (dz R V hb) ?_;rintro q o' ws k' rfl uY gW jZ Fz th
   exact PyProof.Rows.add_lists R.fr R.news ⟨o,h1,h2,_,h3⟩ ⟨o',uY,gW,_,jZ⟩ (λh' F N=>hp _ _ _ s.toks (bJ g (s.heap.objs.size,bG (vs++ws) 0)) ⟨m,ag,af,R.zH F N (Nat.le_refl _)⟩
    (.fl (.inl (.head _)) rfl rfl rfl ((h5.append th).mono (bJ g (s.heap.objs.size,bG (vs++ws) 0))))) (by rw [← h5.length,← th.length];exact hz)
noncomputable def aB (b:Base):Op b .Add where
 run:=MH
 ok:=λO c g loc H s Q E cs n u v x y G R U V hp=>by
  cases u with
  |int a=>
   cases v with
   |int b'=>
    refine bg U.inv ?_;rintro t rfl
    refine bg V.inv ?_;rintro t' rfl
    exact add_int (hp.here R (.int _ _))
   |_=>exact hp.elim
  |str a=>
   cases v with
   |str b'=>
    refine bg U.inv ?_;rintro t rfl
    refine bg V.inv ?_;rintro t' rfl
    refine aQ (ao.ite hp) ?_;intro hz hp
    refine add_str (λt' tk=>?_) (by show a.toArray.size+b'.toArray.size≤aq;rw [List.size_toArray,List.size_toArray];exact hz)
    rewrite [mQ]
    exact hp.here R (.str _ _)
   |_=>exact hp.elim
  |tup a=>
   cases v with
   |tup b'=>
    obtain ⟨p,rfl,o,vs,k,h1,h2,h3,h4,h5⟩:=U.inv
    obtain ⟨q,rfl,o',ws,k',uY,gW,jZ,Fz,th⟩:=V.inv
    refine aQ (ao.ite hp) ?_;intro hz hp
    refine aJ R ?_;clear R;intro m ag af R
    refine PyProof.Rows.add_tuples R.fr R.news ⟨o,R.there h1,h2,_,h3⟩ ⟨o',R.there uY,gW,_,jZ⟩ (λe=>?_) (λe e'=>?_) (λ_ _ h' F N=>?_) (by rw [← h5.length,← th.length];exact hz)
    ·subst e
     have:a=[]:=List.eq_nil_of_length_eq_zero (by rw [h5.length];rfl)
     subst this
     exact hp _ _ _ s.toks (.refl g) ⟨m,ag,af,R⟩ (.tup uY gW jZ Fz th)
    ·subst e'
     have:b'=[]:=List.eq_nil_of_length_eq_zero (by rw [th.length];rfl)
     subst this
     exact hp _ _ _ s.toks (.refl g) ⟨m,ag,af,R⟩ (by rw [List.append_nil];exact .tup h1 h2 h3 h4 h5)
    ·exact hp _ _ _ s.toks (bJ g (s.heap.objs.size,i8 (vs++ws) 0)) ⟨m,ag,af,R.zH F N (Nat.le_refl _)⟩ (.tup (.inl (.head _)) rfl rfl rfl ((h5.append th).mono (bJ g (s.heap.objs.size,i8 (vs++ws) 0))))
   |_=>exact hp.elim
  |fl a=>exact vl R U V hp
  |ref i=>exact vl R U V hp
  |_=>exact hp.elim
noncomputable def sH (r:Int→Res AV) (u:AV):Res AV:=match u with
 |.int i=>r i
 |_=>.stuck
theorem wY {b:Base} {c:FC} {g:Gh} {loc:Loc} {s:Shared} {Q E:VP} {u:AV} {x:Value} (U:ak b g u x) {r:Int→Res AV} (hp:ao b c g loc s (sH r u) Q E):∃ i t,u=.int i∧x=.int i t∧ao b c g loc s (r i) Q E:=by
 cases u with
 |int i=>exact U.inv.elim λt h=>⟨i,t,rfl,h,hp⟩
 |_=>exact hp.elim
noncomputable def iD (r:Int→Int→aa→Res AV) (u v:AV) (H:aa):Res AV:=sH (λa=>sH (λb=>r a b H) v) u
theorem ints_of {b:Base} {c:FC} {g:Gh} {loc:Loc} {H:aa} {s:Shared} {Q E:VP} {u v:AV} {x y:Value} (U:ak b g u x) (V:ak b g v y) {r:Int→Int→aa→Res AV} (hp:ao b c g loc s (iD r u v H) Q E) :
  ∃ i t j t',x=.int i t∧y=.int j t'∧ao b c g loc s (r i j H) Q E:=
 (wY U hp).elim λi h=>h.elim λt h=>(wY V h.2.2).elim λj k=>k.elim λt' k=>⟨i,t,j,t',h.2.1,k.2.1,k.2.2⟩
noncomputable def si (b:Base):Op b .Sub where
 run:=iD λa b H=>.ok (.int (a - b)) H
 ok:=λO c g loc H s Q E cs n u v x y G R U V hp=>by
  refine ly (ints_of U V hp) ?_;rintro i t j t' rfl rfl hp
  exact sub_int (hp.here R (.int _ _))
noncomputable def small (a:Int):Bool:=decide (-(2 ^ 64) < a)&&decide (a < 2 ^ 64)
theorem mS {a:Int} (h:small a=true):-(2 ^ 64) < a∧a < 2 ^ 64:=⟨of_decide_eq_true (Bool.and_eq_true_iff.mp h).1,of_decide_eq_true (Bool.and_eq_true_iff.mp h).2⟩
noncomputable def jk (b:Base):Op b .Mult where
 run:=iD λa b H=>if small a then .ok (.int (a * b)) H else .stuck
 ok:=λO c g loc H s Q E cs n u v x y G R U V hp=>by
  refine ly (ints_of U V hp) ?_;rintro i t j t' rfl rfl hp
  refine aQ (ao.ite hp) ?_;intro hs hp
  exact mul_int (hp.here R (.int _ _)) (.of_left (intBits_le_64 (mS hs).1 (mS hs).2))
noncomputable def m9 (b:Base):Op b .Mod where
 run:=iD λa b H=>if b≠0 then .ok (.int (a.fmod b)) H else .stuck
 ok:=λO c g loc H s Q E cs n u v x y G R U V hp=>by
  refine ly (ints_of U V hp) ?_;rintro i t j t' rfl rfl hp
  refine aQ (ao.ite hp) ?_;intro hs hp
  exact mod_int hs (hp.here R (.int _ _))
noncomputable def JO (b:Base):Op b .Pow where
 run:=iD λa n H=>if small a∧0≤n∧n≤4096 then .ok (.int (a ^ n.toNat)) H else .stuck
 ok:=λO c g loc H s Q E cs n u v x y G R U V hp=>by
  refine ly (ints_of U V hp) ?_;rintro i t j t' rfl rfl hp
  refine aQ (ao.ite hp) ?_;rintro ⟨h1,h2,h3⟩ hp
  exact pow_int h2 (Int.le_trans (Int.mul_le_mul (Int.ofNat_le.mpr (intBits_le_64 (mS h1).1 (mS h1).2)) h3 h2 (by decide)) (by decide)) (hp.here R (.int _ _))
noncomputable def xP (u v:AV) (H:aa):Res Bool:=match u,v with
 |.str a,.str b=>.ok (a==b) H
 |.int a,.int b=>.ok (a==b) H
 |u,v=>match (flat H u).isData&&(flat H v).isData&&decide (min (flat H u).depth (flat H v).depth≤20) with
  |true=>.ok (gz (flat H u) (flat H v)) H
  |false=>.stuck
section
variable {b:Base} {c:FC} {g:Gh} {loc:Loc} {H:aa} {s:Shared} {Q E:VP} {cs:Scope} {n:Nat} {u v:AV} {x y:Value}
theorem Hb (R:Rep b c g loc H s.heap) (ng:Bool) {a b':List Nat} {t t':Tok} (hp:ao b c g loc s (.ok (.bool ((a==b') != ng)) H) Q E):wpAny (model b.prog b.w) c.A (compareOp (if ng then .NotEq else .Eq) (.str ⟨a.toArray⟩ t) (.str ⟨b'.toArray⟩ t')) Q E s:=by
 cases ng with
 |false=>rw [Bool.bne_false,← str_beq] at hp;exact eq_str (hp.here R (.bool _))
 |true=>rw [Bool.bne_true,← str_beq] at hp;exact ne_str (hp.here R (.bool _))
theorem Hc (R:Rep b c g loc H s.heap) (ng:Bool) {a b':Int} {t t':Tok} (hp:ao b c g loc s (.ok (.bool ((a==b') != ng)) H) Q E):wpAny (model b.prog b.w) c.A (compareOp (if ng then .NotEq else .Eq) (.int a t) (.int b' t')) Q E s:=by
 cases ng with
 |false=>rw [Bool.bne_false] at hp;exact eq_int (hp.here R (.bool _))
 |true=>rw [Bool.bne_true] at hp;exact ne_int (hp.here R (.bool _))
theorem eq_data (G:c.Good b cs n) (R:Rep b c g loc H s.heap) (U:ak b g u x) (V:ak b g v y) (ng:Bool) (hp:ao b c g loc s (Res.bind (match (flat H u).isData&&(flat H v).isData&&decide (min (flat H u).depth (flat H v).depth≤20) with
  |true=>.ok (gz (flat H u) (flat H v)) H
  |false=>.stuck) λt H=>.ok (.bool (t != ng)) H) Q E):wpAny (model b.prog b.w) c.A (compareOp (if ng then .NotEq else .Eq) x y) Q E s:=by
 revert hp
 cases hd:(flat H u).isData&&(flat H v).isData&&decide (min (flat H u).depth (flat H v).depth≤20) with
 |false=>exact λhp=>hp.elim
 |true=>
  intro hp
  have hp:ao b c g loc s (.ok (.bool (gz (flat H u) (flat H v) != ng)) H) Q E:=hp
  rw [Bool.and_eq_true,Bool.and_eq_true] at hd
  refine cO (AV.lM _ hd.1.1) ?_;intro d d1 d2 d3
  refine cO (AV.lM _ hd.1.2) ?_;intro e e1 e2 e3
  rw [um _ _ d1 e1] at hp
  have hu:c.A.units+min d.depth e.depth < cLine:=by rw [d3,e3];exact Mb (of_decide_eq_true hd.2) G.units
  refine aJ R ?_;intro m ag af R'
  refine bg (wu R' U d1) ?_;intro as ra
  refine bg (wu R' V e1) ?_;intro bs rb
  cases ng with
  |false=>rw [Bool.bne_false] at hp;exact SeqAt.compareEq_reads ra rb d2 e2 hu (hp.here R (.bool _))
  |true=>rw [Bool.bne_true] at hp;exact SeqAt.compareNe_reads ra rb d2 e2 hu (hp.here R (.bool _))
theorem CB (G:c.Good b cs n) (R:Rep b c g loc H s.heap) (U:ak b g u x) (V:ak b g v y)
  (ng:Bool) (hp:ao b c g loc s ((xP u v H).bind λt H=>.ok (.bool (t != ng)) H) Q E):wpAny (model b.prog b.w) c.A (compareOp (if ng then .NotEq else .Eq) x y) Q E s:=by
 cases u with
 |str a=>
  cases v with
  |str b'=>
   refine bg U.inv ?_;rintro t rfl
   refine bg V.inv ?_;rintro t' rfl
   exact Hb R ng hp
  |_=>exact eq_data G R U V ng hp
 |int a=>
  cases v with
  |int b'=>
   refine bg U.inv ?_;rintro t rfl
   refine bg V.inv ?_;rintro t' rfl
   exact Hc R ng hp
  |_=>exact eq_data G R U V ng hp
 |_=>exact eq_data G R U V ng hp
end
noncomputable def ba (b:Base):Cp b .Eq where
 run:=λu v H=>(xP u v H).bind λt H=>.ok (.bool (t != false)) H
 ok:=λO c g loc H s Q E cs n u v x y G R U V hp=>CB G R U V false hp
noncomputable def dq (b:Base):Cp b .NotEq where
 run:=λu v H=>(xP u v H).bind λt H=>.ok (.bool (t != true)) H
 ok:=λO c g loc H s Q E cs n u v x y G R U V hp=>CB G R U V true hp
noncomputable def nc (b:Base):Cp b .Lt where
 run:=iD λa b H=>.ok (.bool (decide (a < b))) H
 ok:=λO c g loc H s Q E cs n u v x y G R U V hp=>by
  refine ly (ints_of U V hp) ?_;rintro i t j t' rfl rfl hp
  exact lt_int (hp.here R (.bool _))
noncomputable def DW (b:Base):Cp b .LtE where
 run:=iD λa b H=>.ok (.bool (decide (a≤b))) H
 ok:=λO c g loc H s Q E cs n u v x y G R U V hp=>by
  refine ly (ints_of U V hp) ?_;rintro i t j t' rfl rfl hp
  exact PyProof.Rows.le_int (hp.here R (.bool _))
noncomputable def jP (b:Base):Cp b .Gt where
 run:=iD λa b H=>.ok (.bool (decide (b < a))) H
 ok:=λO c g loc H s Q E cs n u v x y G R U V hp=>by
  refine ly (ints_of U V hp) ?_;rintro i t j t' rfl rfl hp
  exact PyProof.Rows.gt_int (hp.here R (.bool _))
noncomputable def rO (b:Base):Cp b .GtE where
 run:=iD λa b H=>.ok (.bool (decide (b≤a))) H
 ok:=λO c g loc H s Q E cs n u v x y G R U V hp=>by
  refine ly (ints_of U V hp) ?_;rintro i t j t' rfl rfl hp
  exact PyProof.Rows.ge_int (hp.here R (.bool _))
noncomputable def mz:AV→Bool
 |.none=>true
 |_=>false
theorem sZ {b:Base} {g:Gh} {v:AV} {x:Value} (V:ak b g v x):(x==Value.none)=mz v:=by
 have k:=V.inv
 revert k
 cases v<;>first |(rintro rfl;rfl) |(rintro ⟨_,rfl⟩;rfl) |((intro zq;(refine ai zq ?_;clear zq;rintro _ rfl _));rfl) |((intro zq;(refine fk zq ?_;clear zq;rintro _ _ rfl _));rfl)
theorem sF {b:Base} {g:Gh} {v:AV} {x:Value} (V:ak b g v x):plainIs x .none=true:=by
 have k:=V.inv
 revert k
 cases v<;>first |(rintro rfl;rfl) |(rintro ⟨_,rfl⟩;rfl) |((intro zq;(refine ai zq ?_;clear zq;rintro _ rfl _));rfl) |((intro zq;(refine fk zq ?_;clear zq;rintro _ _ rfl _));rfl)
noncomputable def rI (b:Base):Cp b .Is where
 run:=λu v H=>match v with
  |.none=>.ok (.bool (mz u)) H
  |_=>.stuck
 ok:=λO c g loc H s Q E cs n u v x y G R U V hp=>by
  cases v<;>try exact hp.elim
  cases V.inv
  refine wpAny_is_plain (sF U) ?_
  refine sY (sZ U ..)▸?_
  exact ao.here (v:=.bool (mz u)) hp R (.bool _)
noncomputable def GH (b:Base):Cp b .IsNot where
 run:=λu v H=>match v with
  |.none=>.ok (.bool (!mz u)) H
  |_=>.stuck
 ok:=λO c g loc H s Q E cs n u v x y G R U V hp=>by
  cases v<;>try exact hp.elim
  cases V.inv
  refine wpAny_isNot_plain (sF U) ?_
  refine sY (sZ U ..)▸?_
  exact ao.here (v:=.bool (!mz u)) hp R (.bool _)
noncomputable def Ex.neg {b:Base} {cs:Scope} {n:Nat} (x:Ex b cs n) (p:Pos):Ex b cs n where
 py:=.UnaryOp .USub x.py p
 run:=λloc H=>(x.run loc H).bind λv H=>sH (λi=>.ok (.int (-i)) H) v
 ok:=λO c g loc H s Q E G R hp=>wpAny_UnaryOp (x.ok O c g loc H s _ E G R (hp.seq λv H' g' val h' t' le R' V aw=>by
  refine bk (wY V aw) ?_;rintro i t rfl rfl aw
  exact neg_int (ao.here (s:={s with heap:=h',toks:=t'}) aw R' (.int _ _))))
noncomputable def Ex.not {b:Base} {cs:Scope} {n:Nat} (x:Ex b cs n) (p:Pos):Ex b cs n where
 py:=.UnaryOp .Not x.py p
 run:=λloc H=>(x.run loc H).bind λv H=>(aY v H).bind λt H=>.ok (.bool (!t)) H
 ok:=λO c g loc H s Q E G R hp=>wpAny_UnaryOp (x.ok O c g loc H s _ E G R (hp.seq λv H' g' val h' t' le R' V aw=>
  not_of (g8 (s:={s with heap:=h',toks:=t'}) R' V (aw.oJ λt H2 g2 h2 t2 aP R2 bA=>bA g2 _ h2 t2 (.refl _) R2 (.bool _)))))
section
variable {M:Model} {A:Around} {E:VP} {s:Shared} {B:Heap} {env:Env} {outer:List Env} {L e d:Addr}
theorem jD {h:Heap} {a b:Addr} {o o':Obj} {vs:Array Value} (ha:h.get? a=some o) (hd:o.data=.fields vs) (hb:h.get? b=some o') (hn:∀ vs,o'.data≠.fields vs):a≠b:=by
 intro q
 subst q
 rw [ha] at hb
 injection hb with hb
 subst hb
 exact hn vs hd
theorem wH {oe:Obj} {vs:Array Value} {head:Value} {Oa:Bool} {Q:Unit→Shared→Prop} (ri:A.frames=some (env::outer)) (hf:env.frame=some L)
  (hl:s.heap.FunFrames B (env::outer)) (hB:B.StaysIn s.heap) (hn:B.get? e=none) (he:s.heap.get? e=some oe) (hc:oe.cls=.ref du) (nM:oe.dict=some d) (hd:oe.data=.fields vs) (hsz:1 < vs.size)
  (h:∀ h',tQ B h' (env::outer) e d (.held L)→s.heap.UpToSlots h'→Q () {s with heap:=h'}) :
  wpAny M A (do let a ← frameOf env;let pl ← entryPlaceOf L Oa;let b ← EntryCells.newEntry head a .none (rawInt L) .none pl;setField (.ref e) 1 b) Q E s:=by
 have N4:e∉(env::outer).filterMap (·.frame):=λhm=>by
  obtain ⟨_,o,ho,NQ⟩:=hl.mem hm
  exact jD he hd ho NQ rfl
 refine wpAny_bind (wpAny_frameOf_fun ri hl hf λh₁ so=>wpAny_bind (wpAny_entryPlaceOf λpl Fj=>?_))
 unfold EntryCells.newEntry newFields
 refine wpAny_bind (wpAny_newObj_type ?_ (Fj.sizeOk5 _ _ _ _ _))
 generalize hO:({cls:=.type "traceback",dict:=none,data:=.fields ([head,.ref L,.none,rawInt L,.none]++(if pl.isEmpty then List.replicate 6 Value.none else pl)).toArray}:Obj)=O
 have Lw:∃ ts,O.data=.fields ts∧ts[3]?=some (rawInt L):=⟨_,by rw [← hO],by first |(simp;done) |(rcases Fj with rfl |⟨_,_,_,_,_,_,_,rfl⟩<;>simp)⟩
 refine ai Lw ?_;clear Lw;intro ts Ny h3
 have Oe:O.isFreed=false:=by rw [← hO];rfl
 have Fv:h₁.get? e=some oe:=(so.2.1 e N4).trans he
 have JE:B.StaysIn h₁:=λa o q=>(so.2.1 a λhm=>by rw [(hl.mem hm).1] at q;cases q).trans (hB a o q)
 have Fu:=Heap.get?_push_of_some (h:=h₁) O Fv
 refine wpAny_setField Fu hd hsz ?_
 have hT:h₁.objs.size≠e:=Nat.ne_of_gt (Heap.lt_size Fv)
 have O0:=Obj.data_mapFields hd (·.setIfInBounds 1 (Value.ref h₁.objs.size))
 have keep:∀ a o,a≠e→h₁.get? a=some o→((h₁.push O).update e (Obj.mapFields (·.setIfInBounds 1 (Value.ref h₁.objs.size)))).get? a=some o:=λa o ne q=>by
  refine sY (Heap.get?_update_other _ _ (Ne.symm ne) ..)▸?_
  exact Heap.get?_push_of_some _ q
 refine h _ ⟨λa o q=>keep a o (λz=>by rw [z,hn] at q;cases q) (JE a o q),hn,?_,?_⟩ ?_
 ·refine hl.of_keeps λa o q nf=>?_
  refine bg (so.2.2 a o q) ?_;intro sl hs
  exact ⟨_,keep a _ (λz=>jD he hd q nf z.symm) hs,rfl⟩
 ·obtain ⟨oc,od,Pj,kG⟩:=oe
  dsimp only at hd hc nM
  subst hd hc nM
  refine ⟨_,_,Heap.get?_update_self _ Fu rfl,rfl,rfl,rfl,h₁.objs.size,O,ts,by simp [hsz],JE.fresh,hT,?_,Ny,h3⟩
  refine sY (Heap.get?_update_other _ _ (Ne.symm hT) ..)▸?_
  exact Heap.get?_push_size _ Oe
 ·intro a o q nf
  refine bg (so.2.2 a o q) ?_;intro sl hs
  exact ⟨sl,keep a _ (λz=>jD he hd q nf z.symm) hs⟩
theorem rQ {f:jN} {Q:Unit→Shared→Prop} (ri:A.frames=some (env::outer)) (hf:env.frame=some L) (hk:DE L f) (F:tQ B s.heap (env::outer) e d f)
  (h:∀ h',tQ B h' (env::outer) e d (.held L)→s.heap.UpToSlots h'→Q () {s with heap:=h'}):wpAny M A (noteFrame (.ref e) env) Q E s:=by
 obtain ⟨hB,hn,hl,oe,vs,he,hc,nM,hd,tb⟩:=F
 unfold noteFrame
 simp only [hf]
 cases f with
 |made=>
  refine wpAny_bind (wpAny_field he hd tb ?_)
  rewrite [if_neg (by decide)]
  exact wH ri hf hl hB hn he hc nM hd (Array.getElem?_eq_some_iff.mp tb).1 h
 |free=>
  refine vH tb ?_;clear tb;intro T oT ts h1 h2 h3 h4 h5 h6
  refine wpAny_bind (wpAny_field he hd h1 ?_)
  refine sY (if_pos (show (Value.ref T != Value.none)=true from by simp) ..)▸?_
  refine wpAny_bind (wpAny_field h4 h5 h6 ?_)
  refine sY (if_neg (show ¬ ((Value.none==rawInt L)=true) from by simp [rawInt]) ..)▸?_
  refine wpAny_bind (wpAny_setField h4 h5 (Array.getElem?_eq_some_iff.mp h6).1 ?_)
  have ot:∀ a,a≠T→(s.heap.update T (Obj.mapFields (·.setIfInBounds 3 Value.none))).get? a=s.heap.get? a:=λa ha=>Heap.get?_update_other _ _ (Ne.symm ha)
  have nt:∀ a o,s.heap.get? a=some o→(∀ vs,o.data≠.fields vs)→a≠T:=λa o q nf z=>jD h4 h5 q nf z.symm
  exact wH (s:={s with heap:=s.heap.update T (Obj.mapFields (·.setIfInBounds 3 Value.none))}) ri hf (hl.of_keeps λa o q nf=>⟨o,(ot a (nt a o q nf)).trans q,rfl⟩) (λa o q=>(ot a λz=>by rw [z,h2] at q;cases q).trans (hB a o q)) hn
   ((ot e (Ne.symm h3)).trans he) hc nM hd (Array.getElem?_eq_some_iff.mp h1).1 λh' F' u=>h h' F' λa o q nf=>u a o ((ot a (nt a o q nf)).trans q) nf
 |held L'=>
  have:L'=L:=hk
  subst this
  refine vH (id tb) ?_;intro T oT ts h1 h2 h3 h4 h5 h6
  refine wpAny_bind (wpAny_field he hd h1 ?_)
  refine sY (if_pos (show (Value.ref T != Value.none)=true from by simp) ..)▸?_
  refine wpAny_bind (wpAny_field h4 h5 h6 ?_)
  refine sY (if_pos (show (rawInt L'==rawInt L')=true from by simp) ..)▸?_
  exact wpAny_pure (h s.heap ⟨hB,hn,hl,oe,vs,he,hc,nM,hd,tb⟩ (.refl _))
theorem qn {f:jN} {fl:Option Addr} {Q:Unit→Shared→Prop} (hk:f≠.made) (F:tQ B s.heap outer e d f)
  (h:∀ h',tQ B h' outer e d (match fl with |none=>.free |some L=>.held L)→s.heap.UpToSlots h'→Q () {s with heap:=h'}):wpAny M A (setFlight (.ref e) fl) Q E s:=by
 obtain ⟨hB,hn,hl,oe,vs,he,hc,nM,hd,tb⟩:=F
 have KD:∃ T oT ts v,vs[1]?=some (.ref T)∧B.get? T=none∧T≠e∧s.heap.get? T=some oT∧oT.data=.fields ts∧ts[3]?=some v:=by
  cases f with
  |made=>exact absurd rfl hk
  |free=>(refine aJ tb ?_;clear tb;intro T oT ts h);exact ⟨T,oT,ts,_,h⟩
  |held L=>(refine aJ tb ?_;clear tb;intro T oT ts h);exact ⟨T,oT,ts,_,h⟩
 refine eO KD ?_;clear KD;intro T oT ts v h1 h2 h3 h4 h5 h6
 unfold setFlight
 refine wpAny_bind (wpAny_field he hd h1 ?_)
 refine sY (if_pos (show (Value.ref T != Value.none)=true from by simp) ..)▸?_
 have sz:=(Array.getElem?_eq_some_iff.mp h6).1
 refine wpAny_setField h4 h5 sz ?_
 have ot:∀ a,a≠T→(s.heap.update T (Obj.mapFields (·.setIfInBounds 3 (fl.elim Value.none λf=>rawInt f)))).get? a=s.heap.get? a:=λa ha=>Heap.get?_update_other _ _ (Ne.symm ha)
 have nt:∀ a o,s.heap.get? a=some o→(∀ vs,o.data≠.fields vs)→a≠T:=λa o q nf z=>jD h4 h5 q nf z.symm
 have new:(s.heap.update T (Obj.mapFields (·.setIfInBounds 3 (fl.elim Value.none λf=>rawInt f)))).get? T=some (Obj.mapFields (·.setIfInBounds 3 (fl.elim Value.none λf=>rawInt f)) oT):=
  Heap.get?_update_self _ h4 (Obj.isFreed_of_fields (Obj.data_mapFields h5 _))
 refine h _ ⟨λa o q=>(ot a λz=>by rw [z,h2] at q;cases q).trans (hB a o q),hn,hl.of_keeps λa o q nf=>⟨o,(ot a (nt a o q nf)).trans q,rfl⟩,oe,vs,(ot e (Ne.symm h3)).trans he,hc,nM,hd,?_⟩ λa o q nf=>⟨o.slots,(ot a (nt a o q nf)).trans q⟩
 cases fl with
 |none=>exact ⟨T,_,_,h1,h2,h3,new,Obj.data_mapFields h5 _,by simp [sz]⟩
 |some L=>exact ⟨T,_,_,h1,h2,h3,new,Obj.data_mapFields h5 _,by simp [sz]⟩
theorem Eu {Q:VP} (hf:env.frame=some L) (F:tQ B s.heap outer e d (.held L))
  (h:∀ h',tQ B h' outer e d (.held L)→s.heap.UpToSlots h'→Q (.ref e) {s with heap:=h'}):cameBackBy M A env Q (.ref e) s:=by
 unfold cameBackBy
 obtain ⟨hB,hn,hl,oe,vs,he,hc,nM,hd,T,oT,ts,h1,h2,h3,h4,h5,h6⟩:=id F
 refine wpAny_bind (wpAny_field he hd h1 ?_)
 refine sY (if_neg (show ¬ ((Value.ref T==Value.none)=true) from by simp) ..)▸?_
 refine sY (hf ..)▸?_
 exact qn (fl:=some L) (λq=>by cases q) F h
end
section
variable {b:Base} {c:FC} {g:Gh} {H:aa} {x:AV} {e:Addr} {h h':Heap}
set_option tactic.hygienic true in
theorem iX.move {outer:List (Env×Obj)} {af:List (Addr×Obj)} (F:iX outer af) (hf:∀ p∈af,h.get? p.1=some p.2) (u:h.UpToSlots h'):∃ dX,iX outer dX∧(∀ p∈dX,h'.get? p.1=some p.2)∧dX.map (·.1)=af.map (·.1):=by
 induction F with
 |nil=>exact ⟨[],.nil,(λ_ h=>nomatch h),rfl⟩
 |cons h1 h2 h3 _ ih=>
  rename_i env o a sl r fs _
  refine cO (ih λp hp=>hf p (.tail _ hp)) ?_;intro dX k1 k2 k3
  refine bg (u a _ (hf (a,{o with slots:=sl}) (.head _)) h3) ?_;intro MY hs
  refine ⟨(a,{o with slots:=MY})::dX,.cons h1 h2 h3 k1,λp hp=>?_,by simp [k3]⟩
  rcases List.mem_cons.mp hp with rfl |hp
  ·exact hs
  ·exact k2 p hp
theorem vh {g:Gh} {ag:List (List (Addr×Obj))} {af dX pins:List (Addr×Obj)} (k:dX.map (·.1)=af.map (·.1)):(cells g ag dX pins).map (·.1)=(cells g ag af pins).map (·.1):=by
 simp [cells,k]
theorem kW.move {f f':jN} {B:Heap} {ag:List (List (Addr×Obj))} {af:List (Addr×Obj)} {m:Str→Option Value} {d:Addr} {od:Obj} (F:kW b c g H x e h f B ag af m d od) (hk:DE c.L f')
  (fl:tQ B h' (c.env::c.outer.map (·.1)) e d f') (u:h.UpToSlots h'):∃ dX,kW b c g H x e h' f' B ag dX m d od:=by
 refine cO (F.rk.move F.fr u) ?_;intro dX k1 k2 k3
 refine ⟨dX,{F with fG:=fl,ns:=u.ns F.ns,rk:=k1,fr:=k2,nodup:=by rw [vh k3];exact F.nodup,off:=λp hp=>?_}⟩
 have:p.1∈(cells g ag af c.pins).map (·.1):=by rw [← vh k3];exact List.mem_map_of_mem hp
 refine ai (List.mem_map.mp this) ?_;intro q hq e
 refine (e ..)▸?_
 exact F.off q hq
end
theorem r6 {α:Type} {M:Model} {A:Around} {t:Sem α} {Q:α→Shared→Prop} {E:VP} {s:Shared} {n:Nat} (hn:n≤s.toks) (h:wpAny M A t (λa s'=>n≤s'.toks→Q a s') E s):wpAny M A t Q E s:=
 wpAny_mono (wpAny_toks_of hn h) (λ_ _ x=>x.2 x.1) λ_ _ x=>x.2
set_option genCtorIdx true in
inductive av where
 |next
 |ret (v:AV)
def bC (b:Base) (c:FC) (g:Gh) (s:Shared) (r:Res (av×Loc)) (Q:Flow→Shared→Prop) (E:VP):Prop:=match r with
 |.ok (.next,loc') H'=>∀ g' h' t',g.le g'→Rep b c g' loc' H' h'→Q .next {s with heap:=h',toks:=t'}
 |.ok (.ret v,loc') H'=>∀ g' val h' t',g.le g'→Rep b c g' loc' H' h'→ak b g' v val→Q (.ret val) {s with heap:=h',toks:=t'}
 |.bD x H'=>∀ g' e h' t',g.le g'→d5 b c g' H' x e h'→E (.ref e) {s with heap:=h',toks:=t'}
 |.stuck=>False
def Jw (b:Base) (cs:Scope) (n tk:Nat) (py:Stmt) (run:Loc→aa→Res (av×Loc)):Prop:=
 ∀ (c:FC) (g:Gh) (loc:Loc) (H:aa) (s:Shared) (Q:Flow→Shared→Prop) (E:VP),c.Good b cs n→c.comp=false→tk≤s.toks→Rep b c g loc H s.heap→bC b c g s (run loc H) Q E→
  wpAny (model b.prog b.w) c.A (exec py c.env) Q E s
structure St (b:Base) (cs:Scope) (n tk:Nat) where
 py:Stmt
 run:Loc→aa→Res (av×Loc)
 ok:b.Ok→Jw b cs n tk py run
section
variable {b:Base} {c:FC} {g:Gh} {loc:Loc} {s:Shared} {Q:Flow→Shared→Prop} {E:VP}
theorem bC.shift {r:Res (av×Loc)} {g':Gh} {h':Heap} {t':Nat} (le:g.le g') (hp:bC b c g s r Q E):bC b c g' {s with heap:=h',toks:=t'} r Q E:=by
 cases r with
 |ok u H2=>
  obtain ⟨u,l⟩:=u
  cases u with
  |next=>intro g2 h2 t2 aP R2;exact hp g2 h2 t2 (le.trans aP) R2
  |ret v=>intro g2 eQ h2 t2 aP R2 V2;exact hp g2 eQ h2 t2 (le.trans aP) R2 V2
 |bD x H2=>intro g2 e h2 t2 aP F2;exact hp g2 e h2 t2 (le.trans aP) F2
 |stuck=>exact hp
theorem bC.dD {r:Res AV} {f:AV→aa→Res (av×Loc)} {Q':VP} (hp:bC b c g s (r.bind f) Q E)
  (k:∀ v H' g' val h' t',g.le g'→Rep b c g' loc H' h'→ak b g' v val→bC b c g' {s with heap:=h',toks:=t'} (f v H') Q E→Q' val {s with heap:=h',toks:=t'}) :
  ao b c g loc s r Q' E:=by
 cases r with
 |ok v H'=>
  intro g' val h' t' le R V
  have aw:bC b c g s (f v H') Q E:=hp
  exact k v H' g' val h' t' le R V (aw.shift le)
 |bD x H'=>exact hp
 |stuck=>exact hp
theorem bC.oJ {r:Res Bool} {f:Bool→aa→Res (av×Loc)} {Q':Bool→Shared→Prop} (hp:bC b c g s (r.bind f) Q E)
  (k:∀ v H' g' h' t',g.le g'→Rep b c g' loc H' h'→bC b c g' {s with heap:=h',toks:=t'} (f v H') Q E→Q' v {s with heap:=h',toks:=t'}) :
  d0 b c g loc s r Q' E:=by
 cases r with
 |ok v H'=>
  intro g' h' t' le R
  have aw:bC b c g s (f v H') Q E:=hp
  exact k v H' g' h' t' le R (aw.shift le)
 |bD x H'=>exact hp
 |stuck=>exact hp
end
section
variable {b:Base} {cs:Scope} {n tk:Nat}
inductive bb (b:Base) (cs:Scope) (n tk:Nat) where
 |nil
 |cons (e:St b cs n tk) (r:bb b cs n tk)
noncomputable def bb.py:bb b cs n tk→List Stmt
 |.nil=>[]
 |.cons e r=>e.py::r.py
noncomputable def bb.run:bb b cs n tk→Loc→aa→Res (av×Loc)
 |.nil,loc,H=>.ok (.next,loc) H
 |.cons e r,loc,H=>(e.run loc H).bind λfl H=>match fl with
  |(.next,loc)=>r.run loc H
  |(.ret v,loc)=>.ok (.ret v,loc) H
theorem bb.ok (O:b.Ok) (ss:bb b cs n tk):∀ (c:FC) (g:Gh) (loc:Loc) (H:aa) (s:Shared) (Q:Flow→Shared→Prop) (E:VP),c.Good b cs n→c.comp=false→tk≤s.toks→Rep b c g loc H s.heap→bC b c g s (ss.run loc H) Q E→
  wpAny (model b.prog b.w) c.A (execs ss.py c.env) Q E s:=by
 induction ss with
 |nil=>
  exact λc g loc H s Q E G hc hs R hp=>wpAny_execs_nil (hp g s.heap s.toks (.refl g) R)
 |cons e r ih=>
  intro c g loc H s Q E G hc hs R hp
  refine wpAny_execs_cons (r6 hs (e.ok O c g loc H s _ E G hc hs R ?_))
  have aw:bC b c g s ((e.run loc H).bind λfl H=>match fl with
   |(.next,loc)=>r.run loc H
   |(.ret v,loc)=>.ok (.ret v,loc) H) Q E:=hp
  revert aw
  cases e.run loc H with
  |ok u H2=>
   obtain ⟨u,l⟩:=u
   cases u with
   |next=>
    intro aw g2 h2 t2 aP R2 ht
    exact ih c g2 l H2 {s with heap:=h2,toks:=t2} Q E G hc ht R2 (bC.shift aP aw)
   |ret v=>intro aw g2 eQ h2 t2 aP R2 V2 _;exact aw g2 eQ h2 t2 aP R2 V2
  |bD x H2=>intro aw g2 e h2 t2 aP F2;exact aw g2 e h2 t2 aP F2
  |stuck=>intro aw;exact aw
noncomputable def St.ret (e:Ex b cs n) (p:Pos):St b cs n tk where
 py:=.Return (some e.py) p
 run:=λloc H=>(e.run loc H).bind λv H=>.ok (.ret v,loc) H
 ok:=λO c g loc H s Q E G hc hs R hp=>wpAny_Return_some (e.ok O c g loc H s _ E G R (hp.dD λv H' g' val h' t' le R' V aw=>aw g' val h' t' (.refl _) R' V))
noncomputable def St.expr (e:Ex b cs n) (p:Pos) (hs:autoParam (swapsWith e.py=m4) xW):St b cs n tk where
 py:=.Expr e.py p
 run:=λloc H=>(e.run loc H).bind λ_ H=>.ok (.next,loc) H
 ok:=λO c g loc H s Q E G hc _ R hp=>wpAny_Expr_any (e.ok O c g loc H s _ E G R (hp.dD λv H' g' val h' t' le R' V aw=>aw g' h' t' (.refl _) R')) (by
  have:c.env.scope.kind=.function:=by rw [show c.env.scope=cs from G.sc];exact G.kind
  unfold interactive
  rw [this];rfl) (congrFun (congrFun (congrFun hs _) _) _)
noncomputable def St.assign (x:Lv b cs) (xp:Pos) (e:Ex b cs n) (p:Pos) (hw:autoParam (swapsWith e.py=m4) xW):St b cs n tk where
 py:=.Assign [.Name (b.nm x.x) xp] e.py p
 run:=λloc H=>(e.run loc H).bind λv H=>.ok (.next,(x.x,v)::loc) H
 ok:=λO c g loc H s Q E G hc _ R hp=>wpAny_Assign_Name (e.ok O c g loc H s _ E G R (hp.dD λv H' g' val h' t' le R' V aw=>by
  refine aJ R' ?_;clear R';intro m ag af R'
  have hk:c.env.scope=cs:=G.sc
  have hx:c.env.kindOf (b.nm x.x)=some .local:=by show c.env.scope.names.lookup _=_;rw [hk];exact x.h
  refine wpAny_storeName_local hx (by rw [G.locals];exact R'.ns) (λh2 hn hs=>?_) (by rw [hk,G.kind];rfl)
  rw [G.locals] at hn hs
  exact aw g' h2 _ (.refl _) ⟨_,ag,af,R'.store O.inj V hx hn hs⟩)) (congrFun (congrFun (congrFun hw _) _) _)
noncomputable def St.ite (t:Tx b cs n) (x y:bb b cs n tk) (p:Pos):St b cs n tk where
 py:=.If t.py x.py y.py p
 run:=λloc H=>(t.run loc H).bind λv H=>match v with |true=>x.run loc H |false=>y.run loc H
 ok:=λO c g loc H s Q E G hc hs R hp=>wpAny_If (r6 hs (t.ok O c g loc H s _ E G R (hp.oJ λv H' g' h' t' le R' aw ht=>by
  cases v with
  |true=>exact bb.ok O x c g' loc H' {s with heap:=h',toks:=t'} Q E G hc ht R' aw
  |false=>exact bb.ok O y c g' loc H' {s with heap:=h',toks:=t'} Q E G hc ht R' aw)))
noncomputable def bS (t:Loc→aa→Res Bool) (body:Loc→aa→Res (av×Loc)):Nat→Loc→aa→Res (av×Loc)
 |0,_,_=>.stuck
 |k+1,loc,H=>(t loc H).bind λv H=>match v with
  |false=>.ok (.next,loc) H
  |true=>(body loc H).bind λfl H=>match fl with
   |(.next,loc)=>bS t body k loc H
   |(.ret v,loc)=>.ok (.ret v,loc) H
def pY (b:Base) (c:FC) (g:Gh) (H:aa) (x:AV) (e:Addr) (h:Heap):Prop:=
 ∃ B ag af m d od,kW b c g H x e h (.held c.L) B ag af m d od
theorem pY.FG {c:FC} {g:Gh} {H:aa} {x:AV} {e:Addr} {h:Heap} (F:pY b c g H x e h):d5 b c g H x e h:=
 let ⟨B,ag,af,m,d,od,F⟩:=F;
 .inr ⟨.held c.L,B,ag,af,m,d,od,(rfl:c.L=c.L),F⟩
theorem wG {c:FC} (G:c.Good b cs n) (hc:c.comp=false) {g:Gh} {H:aa} {x:AV} {e:Addr} {s:Shared} {E:VP} (F:d5 b c g H x e s.heap)
  (h:∀ h',pY b c g H x e h'→E (.ref e) {s with heap:=h'}):notedBy (model b.prog b.w) c.A c.env E (.ref e) s:=by
 obtain q |⟨f,B,ag,af,m,d,od,hk,F⟩:=F
 ·rw [hc] at q;cases q
 unfold notedBy
 refine rQ (by rw [G.frames,hc];rfl) (G.frame hc) hk F.fG λh' fl u=>h h' ?_
 refine bg (F.move (f':=.held c.L) rfl fl u) ?_;intro dX F'
 exact ⟨B,ag,dX,m,d,od,F'⟩
theorem zA {c:FC} (G:c.Good b cs n) (hc:c.comp=false) {g:Gh} {H:aa} {x:AV} {e:Addr} {s:Shared} {E:VP} (F:pY b c g H x e s.heap)
  (h:∀ h',pY b c g H x e h'→E (.ref e) {s with heap:=h'}):cameBackBy (model b.prog b.w) c.A c.env E (.ref e) s:=by
 refine JR F ?_;clear F;intro B ag af m d od F
 refine Eu (G.frame hc) F.fG λh' fl u=>h h' ?_
 refine bg (F.move (f':=.held c.L) rfl fl u) ?_;intro dX F'
 exact ⟨B,ag,dX,m,d,od,F'⟩
noncomputable def St.while (fuel:Nat) (t:Tx b cs n) (body:bb b cs n tk) (p:Pos):St b cs n tk where
 py:=.While t.py body.py [] p
 run:=bS t.run body.run fuel
 ok:=λO c g loc H s Q E G hc hs R hp=>by
  refine wpAny_While ?_
  refine codeAny_whileLoop (λk s'=>∃ g' loc' H' h' t',s'={s with heap:=h',toks:=t'}∧tk≤t'∧g.le g'∧Rep b c g' loc' H' h'∧bC b c g' s' (bS t.run body.run k loc' H') Q E) ?_ fuel
   ⟨g,loc,H,s.heap,s.toks,rfl,hs,.refl g,R,hp⟩
  (intro k s' zq;(refine JT zq ?_;clear zq;rintro g1 loc1 H1 h1 t1 rfl za c9 R1 dc))
  have err:∀ g2 H2 x e h2 t2,g1.le g2→d5 b c g2 H2 x e h2→(∀ g' e h' t',g1.le g'→d5 b c g' H2 x e h'→E (.ref e) {s with heap:=h',toks:=t'})→
    notedBy (model b.prog b.w) c.A c.env (λe s'=>cameBackBy (model b.prog b.w) c.A c.env E e s') (.ref e) {s with heap:=h2,toks:=t2}:=by
   intro g2 H2 x e h2 t2 aP F2 hE
   exact wG (s:={s with heap:=h2,toks:=t2}) G hc F2 λh3 F3=>zA (s:={s with heap:=h3,toks:=t2}) G hc F3 λh4 F4=>hE g2 e h4 t2 aP F4.FG
  cases k with
  |zero=>exact dc.elim
  |succ k=>
   have bA:bC b c g1 {s with heap:=h1,toks:=t1} ((t.run loc1 H1).bind λv H=>match v with
    |false=>.ok (.next,loc1) H
    |true=>(body.run loc1 H).bind λfl H=>match fl with
     |(.next,loc)=>bS t.run body.run k loc H
     |(.ret v,loc)=>.ok (.ret v,loc) H) Q E:=dc
   refine r6 za (t.ok O c g1 loc1 H1 {s with heap:=h1,toks:=t1} _ _ G R1 ?_)
   revert bA
   cases t.run loc1 H1 with
   |stuck=>intro bA;exact bA
   |bD x H2=>intro bA g2 e h2 t2 aP F2;exact err g2 H2 x e h2 t2 aP F2 bA
   |ok v H2=>
    intro bA g2 h2 t2 aP R2 s8
    cases v with
    |false=>exact wpAny_execs_nil (bA g2 h2 t2 aP R2)
    |true=>
     have fF:bC b c g1 {s with heap:=h1,toks:=t1} ((body.run loc1 H2).bind λfl H=>match fl with
      |(.next,loc)=>bS t.run body.run k loc H
      |(.ret v,loc)=>.ok (.ret v,loc) H) Q E:=bA
     refine r6 s8 (bb.ok O body c g2 loc1 H2 {s with heap:=h2,toks:=t2} _ _ G hc s8 R2 ?_)
     revert fF
     cases body.run loc1 H2 with
     |stuck=>intro fF;exact fF
     |bD x H3=>intro fF g3 e h3 t3 gV F3;exact err g3 H3 x e h3 t3 (aP.trans gV) F3 fF
     |ok u H3=>
      obtain ⟨u,l⟩:=u
      cases u with
      |next=>
       intro fF g3 h3 t3 gV R3 Iv
       exact ⟨k,Nat.lt_succ_self k,g3,l,H3,h3,t3,rfl,Iv,(c9.trans aP).trans gV,R3,bC.shift (aP.trans gV) fF⟩
      |ret v=>intro fF g3 CW h3 t3 gV R3 V3 _;exact fF g3 CW h3 t3 (aP.trans gV) R3 V3
end
section
variable {b:Base} {cs:Scope} {n:Nat}
noncomputable def bx.vals:bx b cs n→Loc→aa→Res (List AV)
 |.nil,_,H=>.ok [] H
 |.cons e r,loc,H=>(e.run loc H).bind λv H=>(r.vals loc H).bind λvs H=>.ok (v::vs) H
theorem bx.p7 (O:b.Ok) (p:Pos) (es:bx b cs n):∀ (c:FC) (g:Gh) (loc:Loc) (H:aa) (s:Shared) (Q:List Value→Shared→Prop) (E:VP),c.Good b cs n→Rep b c g loc H s.heap→dZ b c g loc s (es.vals loc H) Q E→
  wpAny (model b.prog b.w) c.A (spliced (backTo p (starEach es.py c.env))) Q E s:=by
 induction es with
 |nil=>
  exact λc g loc H s Q E G R hp=>spliced_none (hp g [] s.heap s.toks (.refl g) R .nil)
 |cons e r ih=>
  intro c g loc H s Q E G R hp
  show wpAny _ _ (spliced (backTo p (starEach (e.py::r.py) c.env))) _ _ _
  rewrite [e.ns]
  refine Calls.spliced_cons (e.ok O c g loc H s _ E G R (hp.dD λv H' g' val h' t' le R' V aw=>?_))
  exact ih c g' loc H' {s with heap:=h',toks:=t'} _ E G R' (aw.jO λvs H2 g2 vals h2 t2 aP R2 V2 bA=>bA g2 _ h2 t2 (.refl _) R2 (.cons (V.mono aP) V2))
theorem bx.plain (p:Pos) (env:Env):∀ es:bx b cs n,(backTo p (starEach es.py env)).any (·.1)=false
 |.nil=>rfl
 |.cons e r=>by
  show (backTo p (starEach (e.py::r.py) env)).any (·.1)=false
  rewrite [e.ns]
  show (false||(backTo p (starEach r.py env)).any (·.1))=false
  rw [bx.plain p env r];rfl
structure Gv (cs:Scope) where
 s:Str
 h:cs.names.lookup s=some .globalImplicit
 d:(s==("__debug__":Str))=false
theorem mD (O:b.Ok) (x:Gv cs) {p:Pos} {v:Value} (hv:nsIn b.K mainGlobals x.s=some (some v)) {c:FC} {g:Gh} {loc:Loc} {H:aa} {s:Shared} {Q E:VP} (G:c.Good b cs n) (R:Rep b c g loc H s.heap) (h:Q v s) :
  wpAny (model b.prog b.w) c.A (eval (.Name x.s p) c.env) Q E s:=by
 refine aJ R ?_;clear R;intro m ag af R
 refine ai (O.glob _ _ hv) ?_;intro mg h1 h2
 have hk:c.env.scope=cs:=G.sc
 refine Calls.Name_function_global (by rw [hk];exact G.kind) (by show c.env.scope.names.lookup _=_;rw [hk];exact x.h) (Calls.loadGlobal_global (mg:=mg) ?_ h2 h) x.d
 refine sY (G.glob ..)▸?_
 exact h1.keeps R.stays
theorem Jk (O:b.Ok) (x:Gv cs) {p:Pos} {v:Value} (hg:nsIn b.K mainGlobals x.s=some none) (hv:bootBuiltins x.s=some v) (hn:x.s≠"__name__") {c:FC} {g:Gh} {loc:Loc} {H:aa} {s:Shared} {Q E:VP} (G:c.Good b cs n) (R:Rep b c g loc H s.heap) (h:Q v s) :
  wpAny (model b.prog b.w) c.A (eval (.Name x.s p) c.env) Q E s:=by
 refine aJ R ?_;clear R;intro m ag af R
 refine ai (O.glob _ _ hg) ?_;intro mg h1 h2
 refine ai O.blt ?_;intro mb k1 k2
 have hk:c.env.scope=cs:=G.sc
 refine Calls.Name_function_global (by rw [hk];exact G.kind) (by show c.env.scope.names.lookup _=_;rw [hk];exact x.h) (Calls.loadGlobal_builtin (mg:=mg) (mb:=mb) ?_ h2 ?_ ((k2 _ hn).trans hv) h) x.d
 ·refine sY (G.glob ..)▸?_
  exact h1.keeps R.stays
 ·refine sY (G.blt ..)▸?_
  exact k1.keeps R.stays
def Jx (b:Base) (n:Nat) (addr:Addr) (run:List AV→aa→Res AV):Prop:=
 ∀ (c:FC) (cs:Scope) (N:Nat) (g:Gh) (loc:Loc) (H:aa) (s:Shared) (Q E:VP) (args:List AV) (vals:List Value),c.Good b cs N→n < N→Rep b c g loc H s.heap→aX b g args vals→
  ao b c g loc s (run args H) Q E→codeAny (model b.prog b.w) c.A (.call (.ref addr) ⟨vals,[]⟩) (λr s'=>match r with |.ok (.ret v)=>Q v s' |.ok _=>False |.error e=>E e s') s
structure Fn (b:Base) (n:Nat) where
 addr:Addr
 run:List AV→aa→Res AV
 ok:b.Ok→Jx b n addr run
def FnAt (b:Base) (addr:Addr) (cs:Scope) (ps:List Nat) (body:List Stmt):Prop:=
 ∃ oc od kG fd,b.K.lookup addr=some ⟨oc,od,.func fd,kG⟩∧fd.body=.stmts body∧fd.scope=cs∧fd.globals=mainGlobals∧fd.builtins=builtinsNs∧codeIn b.K fd.code fd.qualname=true∧fd.closure=[]∧
  ∀ vals:List Value,vals.length=ps.length→bindArgs fd ⟨vals,[]⟩=pure ((ps.map b.nm).zip vals)
noncomputable def vO (ps:List Nat) (body:Loc→aa→Res (av×Loc)) (args:List AV) (H:aa):Res AV:=
 if args.length=ps.length then match body ((ps.zip args).reverse) H with
  |.ok (.next,_) H=>.ok .none H
  |.ok (.ret v,_) H=>.ok v H
  |.bD x H=>.bD x H
  |.stuck=>.stuck
 else .stuck
theorem p6 {g:Gh}:∀ {ps:List Nat} {args:List AV} {vals:List Value},aX b g args vals→aI (λ(p:Nat×AV) (q:Str×Value)=>q.1=b.nm p.1∧ak b g p.2 q.2) (ps.zip args) ((ps.map b.nm).zip vals)
 |[],_,_,_=>.nil
 |_::_,_,_,.nil=>.nil
 |p::ps,_,_,.cons h t=>.cons ⟨rfl,h⟩ (p6 t)
def yb (b:Base) (g:Gh) (kind:Str→Option NameKind) (mL mC:Str→Option Value) (loc:Loc):Prop:=
 ∀ k v,loc.lookup k=some v→∃ val,ak b g v val∧((kind (b.nm k)=some .local∧mL (b.nm k)=some val)∨(kind (b.nm k)=some .cell∧mC (b.nm k)=some val))
theorem vi {g:Gh} {kind:Str→Option NameKind} (inj:∀ i j,b.nm i=b.nm j→i=j) {l:List (Nat×AV)} {m:List (Str×Value)} (t:aI (λ(p:Nat×AV) (q:Str×Value)=>q.1=b.nm p.1∧ak b g p.2 q.2) l m):∀ {mL mC:Str→Option Value} {acc:Loc},
  (∀ x∈m,kind x.1=some .local∨kind x.1=some .cell)→yb b g kind mL mC acc→yb b g kind (bindL kind m mL) (bindC kind m mC) (l.reverse++acc):=by
 induction t with
 |nil=>exact λ_ h=>h
 |@cons p q l m hh t ih=>
  intro mL mC acc hk h
  obtain ⟨x,u⟩:=p
  obtain ⟨y,z⟩:=q
  refine aQ hh ?_;clear hh;intro h1 h2
  have h1:y=b.nm x:=h1
  subst h1
  refine sY (List.reverse_cons ..)▸?_;rewrite [List.append_assoc]
  show yb b g kind (bindL kind m (if kind (b.nm x)=some .local then λy=>if y=b.nm x then some z else mL y else mL)) (bindC kind m (if kind (b.nm x)=some .local then mC else λy=>if y=b.nm x then some z else mC y)) (l.reverse++((x,u)::acc))
  refine ih (λq hq=>hk q (.tail _ hq)) λk v e=>?_
  have hx:kind (b.nm x)=some .local∨kind (b.nm x)=some .cell:=hk _ (.head _)
  by_cases q:k=x
  ·subst q
   have e:List.lookup k ((k,u)::acc)=some v:=e
   rw [List.lookup_cons,beq_self_eq_true] at e
   cases e
   refine ⟨z,h2,?_⟩
   rcases hx with hx |hx
   ·exact .inl ⟨hx,by rw [if_pos hx];exact if_pos rfl⟩
   ·exact .inr ⟨hx,by rw [if_neg (by rw [hx];decide)];exact if_pos rfl⟩
  ·have e:List.lookup k ((x,u)::acc)=some v:=e
   rw [bj q] at e
   refine ai (h k v e) ?_;intro val k1 k2
   have ne:¬ b.nm k=b.nm x:=λw=>q (inj _ _ w)
   refine ⟨val,k1,k2.imp (λw=>⟨w.1,?_⟩) λw=>⟨w.1,?_⟩⟩
   ·split
    ·exact (if_neg ne).trans w.2
    ·exact w.2
   ·split
    ·exact w.2
    ·exact (if_neg ne).trans w.2
noncomputable def FC.sub (c:FC) (oL:Obj) (env:Env) (L:Addr) (A:Around):FC:=match c.comp with
 |false=>⟨env,false,L,A,(c.env,oL)::c.outer,c.pins⟩
 |true=>⟨env,false,L,A,c.outer,(c.L,oL)::c.pins⟩
theorem rV {g:Gh} {ag:List (List (Addr×Obj))} {p:Addr×Obj} {af pins:List (Addr×Obj)}:(cells g ag (p::af) pins).Perm (p::cells g ag af pins):=by
 have e1:cells g ag (p::af) pins=(g.bF++ag.flatten)++p::(af++pins):=by simp [cells]
 have e2:cells g ag af pins=(g.bF++ag.flatten)++(af++pins):=by simp [cells]
 refine sY (e1 ..)▸?_;refine sY (e2 ..)▸?_
 exact List.perm_middle
theorem pR {g:Gh} {ag:List (List (Addr×Obj))} {p:Addr×Obj} {af pins:List (Addr×Obj)}:(cells g ag af (p::pins)).Perm (p::cells g ag af pins):=by
 have e1:cells g ag af (p::pins)=(g.bF++ag.flatten++af)++p::pins:=by simp [cells]
 have e2:cells g ag af pins=(g.bF++ag.flatten++af)++pins:=by simp [cells]
 refine sY (e1 ..)▸?_;refine sY (e2 ..)▸?_
 exact List.perm_middle
set_option tactic.hygienic true in
theorem vd {c:FC} {g:Gh} {loc:Loc} {H:aa} {h h₀:Heap} {env:Env} {A':Around} {L':Addr} {m':Str→Option Value} (kc:c.env.scope.kind=.function) (hf:c.comp=false→c.env.frame=some c.L) (R:Rep b c g loc H h) (zh:h.objs.size≤L') (hn:h₀.Ns L' m') (hk:∀ a o,h.get? a=some o→h₀.get? a=some o) :
  ∃ (oL:Obj) (m:Str→Option Value) (ag:List (List (Addr×Obj))) (af:List (Addr×Obj)),(∃ es ep,oL.data=.dict es ep∧StrKeys es∧∀ name,nsFind es name=m name)∧b.hT.objs.size≤c.L∧
  aE b (c.sub oL env L' A') g [] H h₀ m' ag af∧(∀ p∈cells g ag af (c.sub oL env L' A').pins,p.1 < h.objs.size)∧
  (∀ {H':aa} {g':Gh} {l2:Loc} {h':Heap},g.le g'→Rep b (c.sub oL env L' A') g' l2 H' h'→∃ m ag af,aE b c g' loc H' h' m ag af∧c.L < h.objs.size∧∀ p∈cells g' ag af c.pins,p.1≠L'):=by
 refine aJ R ?_;clear R;intro m ag af R
 refine lA (id R.ns) ?_;intro oL es ep hL pz uV uW
 have nf:∀ vs,oL.data≠.fields vs:=λvs q=>by rw [pz] at q;cases q
 have fin:∀ (pins dX:List (Addr×Obj)) (outer:List (Env×Obj)) (o':Obj),o'=oL→(cells g ag dX pins).Perm ((c.L,o')::cells g ag af c.pins)→iX outer dX→
   aE b ⟨env,false,L',A',outer,pins⟩ g [] H h₀ m' ag dX∧∀ p∈cells g ag dX pins,p.1 < h.objs.size:=by
  rintro pins dX outer o' rfl P F
  have mem:∀ p,p∈cells g ag dX pins↔p=(c.L,o')∨p∈cells g ag af c.pins:=λp=>by rw [P.mem_iff,List.mem_cons]
  refine ⟨{stays:=λa o e=>hk _ _ (R.stays a o e),ns:=hn,above:=Nat.le_trans R.above (Nat.le_trans (Nat.le_of_lt R.lt) zh),cell:=?_,nodup:=?_,off:=?_,loc:=(λ_ _ e=>nomatch e),heap:=R.heap,bX:=R.bX,af:=F},?_⟩
  ·intro p hp
   rcases (mem p).mp hp with rfl |hp
   ·exact hk _ _ hL
   ·exact hk _ _ (R.cell p hp)
  ·show ((cells g ag dX pins).map (·.1)).Nodup
   rewrite [(P.map (·.1)).nodup_iff];refine sY (List.map_cons ..)▸?_;rewrite [List.nodup_cons]
   refine ⟨λhm=>?_,R.nodup⟩
   refine ai (List.mem_map.mp hm) ?_;intro p hp e
   exact (R.off p hp).2 e
  ·intro p hp
   rcases (mem p).mp hp with rfl |hp
   ·exact ⟨R.above,Nat.ne_of_lt (Nat.lt_of_lt_of_le R.lt zh)⟩
   ·exact ⟨(R.off p hp).1,Nat.ne_of_lt (Nat.lt_of_lt_of_le (Heap.lt_size (R.cell p hp)) zh)⟩
  ·intro p hp
   rcases (mem p).mp hp with rfl |hp
   ·exact R.lt
   ·exact Heap.lt_size (R.cell p hp)
 have back:∀ {H':aa} {g':Gh} {h':Heap} {bN:List (List (Addr×Obj))} {fs dd pins:List (Addr×Obj)} {o':Obj},g.le g'→o'.data=oL.data→b.hT.StaysIn h'→(cells g' bN dd pins).Perm ((c.L,o')::cells g' bN fs c.pins)→
   (∀ p∈cells g' bN dd pins,h'.get? p.1=some p.2)→((cells g' bN dd pins).map (·.1)).Nodup→(∀ p∈cells g' bN dd pins,b.hT.objs.size≤p.1∧p.1≠L')→aI (aZ b (ak b g') (bl b g')) H' bN→aI fc g'.ρ bN→iX c.outer fs→∃ m ag af,aE b c g' loc H' h' m ag af∧c.L < h.objs.size∧∀ p∈cells g' ag af c.pins,p.1≠L':=by
  intro H' g' h' bN fs dd pins o' le ed st P fq nd off hh hr ri
  have mem:∀ p,p∈cells g' bN dd pins↔p=(c.L,o')∨p∈cells g' bN fs c.pins:=λp=>by rw [P.mem_iff,List.mem_cons]
  have cL:=fq (c.L,o') ((mem _).mpr (.inl rfl))
  rw [(P.map (·.1)).nodup_iff,List.map_cons,List.nodup_cons] at nd
  refine ⟨m,bN,fs,{stays:=st,ns:=⟨_,es,ep,cL,ed.trans pz,uV,uW⟩,above:=R.above,cell:=λp hp=>fq p ((mem _).mpr (.inr hp)),nodup:=nd.2,off:=λp hp=>⟨(off p ((mem p).mpr (.inr hp))).1,λe=>nd.1 (List.mem_map.mpr ⟨p,hp,e⟩)⟩,loc:=λk v e=>?_,heap:=hh,bX:=hr,af:=ri},R.lt,λp hp=>(off p ((mem p).mpr (.inr hp))).2⟩
  refine ai (R.loc k v e) ?_;intro val k1 k2
  exact ⟨val,k1.mono le,k2.mono le⟩
 cases hc:c.comp with
 |false=>
  have nN:∀ env L A',c.sub oL env L A'=⟨env,false,L,A',(c.env,oL)::c.outer,c.pins⟩:=λ_ _ _=>by unfold FC.sub;rw [hc]
  refine aQ (fin c.pins ((c.L,{oL with slots:=oL.slots})::af) ((c.env,oL)::c.outer) {oL with slots:=oL.slots} rfl rV (.cons (hf hc) kc nf R.af)) ?_;intro q1 q2
  refine ⟨oL,m,ag,(c.L,{oL with slots:=oL.slots})::af,⟨es,ep,pz,uV,uW⟩,R.above,by rw [nN];exact q1,by rw [nN];exact q2,?_⟩
  (intro H' g' l2 h' le zq;(refine aJ zq ?_;clear zq;intro m2 bN dd R2))
  rw [nN] at R2
  have F2:=R2.af
  cases F2 with
  |cons q1 q2 q3 q4=>
   rename_i a' sl fs
   have ea:c.L=a':=Option.some.inj ((hf hc).symm.trans q1)
   subst ea
   exact back (o':={oL with slots:=sl}) le rfl R2.stays rV R2.cell R2.nodup R2.off R2.heap R2.bX q4
 |true=>
  have nN:∀ env L A',c.sub oL env L A'=⟨env,false,L,A',c.outer,(c.L,oL)::c.pins⟩:=λ_ _ _=>by unfold FC.sub;rw [hc]
  refine aQ (fin ((c.L,oL)::c.pins) af c.outer oL rfl pR R.af) ?_;intro q1 q2
  refine ⟨oL,m,ag,af,⟨es,ep,pz,uV,uW⟩,R.above,by rw [nN];exact q1,by rw [nN];exact q2,?_⟩
  (intro H' g' l2 h' le zq;(refine aJ zq ?_;clear zq;intro m2 bN dd R2))
  rw [nN] at R2
  exact back le rfl R2.stays pR R2.cell R2.nodup R2.off R2.heap R2.bX R2.af
set_option tactic.hygienic true in
theorem yg {c:FC} {env:Env} {L:Addr} {A':Around} {g:Gh} {H:aa} {x:AV} {e:Addr} {s:Shared} {Q:Unit→Shared→Prop} {E:VP} {oL:Obj} {m:Str→Option Value} (ri:A'.frames=some (env::(c.sub oL env L A').outer.map (·.1))) (N2:env.frame=some L) (hf:c.comp=false→c.env.frame=some c.L)
  (ee:∃ es ep,oL.data=.dict es ep∧StrKeys es∧∀ name,nsFind es name=m name) (Cj:b.hT.objs.size≤c.L)
  (F:d5 b (c.sub oL env L A') g H x e s.heap) (h:∀ h',d5 b c g H x e h'→Q () {s with heap:=h'}):wpAny (model b.prog b.w) A' (leaving env (.ref e)) Q E s:=by
 have ne:∀ oL,(c.sub oL env L A').comp=false:=λoL=>by unfold FC.sub;cases c.comp<;>rfl
 have nL:∀ oL,(c.sub oL env L A').L=L:=λoL=>by unfold FC.sub;cases c.comp<;>rfl
 have nE:∀ oL,(c.sub oL env L A').env=env:=λoL=>by unfold FC.sub;cases c.comp<;>rfl
 obtain q |⟨f,B,ag,af,m',d,od,hk,F⟩:=F
 ·rw [ne] at q;cases q
 unfold leaving
 rw [nL] at hk
 have fG:=F.fG
 rw [nE] at fG
 refine wpAny_bind (rQ ri N2 hk fG λh1 xI u1=>?_)
 refine bg (F.move (f':=.held L) (by rw [nL];exact rfl) (by rw [nE];exact xI) u1) ?_;intro MD F1
 refine qn (fl:=none) (λq=>by cases q) (s:={s with heap:=h1}) xI λh2 FH u2=>h h2 ?_
 cases hc:c.comp with
 |true=>exact .inl hc
 |false=>
  have nN:c.sub oL env L A'=⟨env,false,L,A',(c.env,oL)::c.outer,c.pins⟩:=by unfold FC.sub;rw [hc]
  refine bg (F1.move (f':=.free) trivial (by rw [nE];exact FH) u2) ?_;intro dd F2
  refine bk ee ?_;clear ee;intro es ep pz uV uW
  rw [nN] at F2
  have FR:=F2.rk
  cases FR with
  |cons q1 q2 q3 q4=>
   rename_i a' sl fs
   have ea:c.L=a':=Option.some.inj ((hf hc).symm.trans q1)
   subst ea
   have cL:=F2.fr (c.L,{oL with slots:=sl}) (.head _)
   have perm:(cells g ag ((c.L,{oL with slots:=sl})::fs) c.pins).Perm ((c.L,{oL with slots:=sl})::cells g ag fs c.pins):=rV
   have nd:=F2.nodup
   rw [(perm.map (·.1)).nodup_iff,List.map_cons,List.nodup_cons] at nd
   have zl:=F2.fG
   exact .inr ⟨.free,B,ag,fs,m,d,od,trivial,{fG:=⟨zl.base,zl.new,zl.I6.2.2,zl.exc⟩,dict:=F2.dict,eG:=F2.eG,top:=F2.top,ns:=⟨_,es,ep,cL,pz,uV,uW⟩,above:=Cj,cell:=F2.cell,rk:=q4,fr:=λp hp=>F2.fr p (.tail _ hp),nodup:=nd.2,off:=λp hp=>⟨(F2.off p (perm.mem_iff.mpr (.tail _ hp))).1,λq=>nd.1 (List.mem_map.mpr ⟨p,hp,q⟩)⟩,heap:=F2.heap,bX:=F2.bX}⟩
theorem zG {c:FC} {loc:Loc} {H:aa} {h:Heap} {m:Str→Option Value} {ag:List (List (Addr×Obj))} {af:List (Addr×Obj)} {cm:Str→Option Value}:∀ (l:List (Str×Addr)) (g:Gh),aE b c g loc H h m ag af→(l.Pairwise λx y=>x.2≠y.2)→(∀ n a,(n,a)∈l→∃ o,h.get? a=some o∧o.data=.cell (cm n))→
  (∀ n a,(n,a)∈l→b.hT.objs.size≤a∧a≠c.L∧∀ p∈cells g ag af c.pins,p.1≠a)→
  ∃ g',g.le g'∧aE b c g' loc H h m ag af∧∀ n a,(n,a)∈l→∃ o,eP b g' a o∧o.data=.cell (cm n)
 |[],g,R,_,_,_=>⟨g,.refl g,R,λ_ _ h=>nomatch h⟩
 |(n,a)::l,g,R,hp,hc,ho=>by
  refine aQ (List.pairwise_cons.mp hp) ?_;intro p1 p2
  refine ai (hc n a (.head _)) ?_;intro o o1 o2
  refine bZ (ho n a (.head _)) ?_;intro q1 q2 q3
  have R1:=R.qp q3 q1 q2 o1
  refine cO (zG l _ R1 p2 (λn a hm=>hc n a (.tail _ hm)) λn' a' hm=>by
   refine bZ (ho n' a' (.tail _ hm)) ?_;intro z1 z2 z3
   refine ⟨z1,z2,λp hp=>?_⟩
   rcases List.mem_cons.mp (show p∈(a,o)::cells g ag af c.pins from hp) with rfl |hp
   ·exact p1 _ hm
   ·exact z3 p hp) ?_;intro g' le R2 k
  refine ⟨g',(bJ g (a,o)).trans le,R2,λn' a' hm=>?_⟩
  rcases List.mem_cons.mp hm with e |hm
  ·cases e
   exact ⟨o,.inl (le.2 _ (.head _)),o2⟩
  ·exact k n' a' hm
theorem aE.Bk {c:FC} {g:Gh} {loc loc':Loc} {H:aa} {h:Heap} {m:Str→Option Value} {ag:List (List (Addr×Obj))} {af:List (Addr×Obj)} (R:aE b c g loc H h m ag af) (hl:∀ k v,loc'.lookup k=some v→∃ val,tO b c g m k val∧ak b g v val):aE b c g loc' H h m ag af:=
 {R with loc:=hl}
theorem mem_lookup {α β:Type} [BEq α] [LawfulBEq α] {k:α} {v:β} {l:List (α×β)} (e:l.lookup k=some v):(k,v)∈l:=by
 induction l with
 |nil=>cases e
 |cons p l ih=>
  obtain ⟨k',v'⟩:=p
  by_cases q:k=k'
  ·subst q;rw [List.lookup_cons,beq_self_eq_true] at e;cases e;exact .head _
  ·rw [bj q] at e;exact .tail _ (ih e)
theorem wd {c:FC} {oL:Obj} {env:Env} {L:Addr} {A:Around}:(c.sub oL env L A).comp=false:=by unfold FC.sub;cases c.comp<;>rfl
theorem qa {c:FC} {oL:Obj} {env:Env} {L:Addr} {A:Around}:(c.sub oL env L A).A=A:=by unfold FC.sub;cases c.comp<;>rfl
theorem zS {c:FC} {oL:Obj} {env:Env} {L:Addr} {A:Around}:(c.sub oL env L A).L=L:=by unfold FC.sub;cases c.comp<;>rfl
theorem fO {c:FC} {oL:Obj} {env:Env} {L:Addr} {A:Around}:(c.sub oL env L A).env=env:=by unfold FC.sub;cases c.comp<;>rfl
noncomputable def aF (r:Res (av×Loc)):Res AV:=match r with
 |.ok (.next,_) H=>.ok .none H
 |.ok (.ret v,_) H=>.ok v H
 |.bD x H=>.bD x H
 |.stuck=>.stuck
theorem xH {tk:Nat} {cs cs':Scope} {N:Nat} (cl:List (Str×Addr)) (W:Around→(Flow→Shared→Prop)→(Value→Shared→Prop)→Prop) (res:Res (av×Loc)) {c:FC} {g:Gh} {loc loc':Loc} {H:aa} {s:Shared} {Q E:VP} {env:Env} {h₁:Heap} {t₁:Nat} {m':Str→Option Value} {cm:Str→Option Value} (G:c.Good b cs N) (hN:n < N) (R:Rep b c g loc H s.heap)
  (e1:env.scope=cs') (e2:env.locals=s.heap.objs.size) (e3:env.frame=some s.heap.objs.size) (e4:env.globals=mainGlobals) (e5:env.builtins=builtinsNs) (hk:cs'.kind=.function)
  (hn:h₁.Ns s.heap.objs.size m') (iJ:∀ a o,s.heap.get? a=some o→h₁.get? a=some o) (ht:tk≤t₁)
  (fq:∀ n a,(n,a)∈cl→∃ o,h₁.get? a=some o∧o.data=.cell (cm n)) (IT:cl.Pairwise λx y=>x.2≠y.2) (xC:∀ n a,(n,a)∈cl→s.heap.objs.size < a)
  (Am:∀ k,env.kindOf (b.nm k)=some .cell→∃ a,env.cells.lookup (b.nm k)=some a∧(b.nm k,a)∈cl) (kg:yb b g env.kindOf m' cm loc')
  (Mt:∀ (c':FC) (g':Gh) (Q:Flow→Shared→Prop) (E:VP),c'.Good b cs' n→c'.comp=false→c'.env=env→c'.A=c.A.deeper env→Rep b c' g' loc' H h₁→g.le g'→bC b c' g' {s with heap:=h₁,toks:=t₁} res Q E→W c'.A Q E)
  (hp:ao b c g loc s (aF res) Q E) :
  W (c.A.deeper env) (λf s'=>Q (match f with |.ret v=>v |_=>.none) s') (λe s'=>wpAny (model b.prog b.w) (c.A.deeper env) (leaving env e) (λ_ gw=>E e gw) (λe' gw=>E e' gw) s'):=by
 refine aJ (id R) ?_;intro m ag af R'
 have kc:c.env.scope.kind=.function:=by rw [G.sc];exact G.kind
 generalize Fy:c.A.deeper env=A' at *
 refine sI (vd (env:=env) (A':=A') kc G.frame R (Nat.le_refl _) hn iJ) ?_;intro oL m2 bN dd ee Cj R2 lH Kp
 have back:∀ {H':aa} {g':Gh} {l2:Loc} {h':Heap},g.le g'→Rep b (c.sub oL env s.heap.objs.size A') g' l2 H' h'→Rep b c g' loc H' h':=λle R=>let ⟨m,ag,af,R,_⟩:=Kp le R;⟨m,ag,af,R⟩
 have KS:A'.frames=some (env::(c.sub oL env s.heap.objs.size A').outer.map (·.1)):=by
  refine (Fy ..)▸?_
  show c.A.frames.map _=_
  refine sY (G.frames ..)▸?_
  unfold FC.sub
  cases c.comp<;>rfl
 have G2:FC.Good (c.sub oL env s.heap.objs.size A') b cs' n:=by
  refine ⟨by rw [fO];exact e1,hk,by rw [fO,zS];exact e2,λ_=>by rw [fO,zS];exact e3,by rw [qa,fO,wd];exact KS,by rw [qa,← Fy];exact G.hand,?_,?_,by rw [fO];exact e4,by rw [fO];exact e5⟩
  ·refine sY (qa ..)▸?_;refine (Fy ..)▸?_
   show c.A.depth+1+10 * n+10 < _
   have:=G.depth;exact Jh hN this
  ·refine sY (qa ..)▸?_;refine (Fy ..)▸?_
   show c.A.units+3+40 * n+40 < _
   have:=G.units;exact Md hN this
 refine cO (zG (cm:=cm) cl g R2 IT fq λn a hm=>by
  have:=xC n a hm
  refine ⟨Nat.le_trans Cj (Nat.le_trans (Nat.le_of_lt R'.lt) (Nat.le_of_lt this)),by rw [zS];exact Nat.ne_of_gt this,λp hp=>Nat.ne_of_lt (Nat.lt_trans (lH p hp) this)⟩) ?_;intro g1 c9 R3 IP
 have R4:=R3.Bk (loc':=loc') λk v e=>by
  refine ai (kg k v e) ?_;intro val h1 h2
  refine ⟨val,?_,h1.mono c9⟩
  rcases h2 with ⟨q1,q2⟩ |⟨q1,q2⟩
  ·exact .inl ⟨by rw [fO];exact q1,q2⟩
  ·right
   refine ⟨by rw [fO];exact q1,?_⟩
   refine sY (fO ..)▸?_
   refine ai (Am k q1) ?_;intro a ha hm
   refine ai (IP _ a hm) ?_;intro o o1 o2
   exact ⟨a,o,ha,o1,by rw [o2];rw [q2]⟩
 have run:=Mt _ g1 (λf s'=>Q (match f with |.ret v=>v |_=>.none) s') (λe s'=>wpAny (model b.prog b.w) A' (leaving env e) (λ_ gw=>E e gw) (λe' gw=>E e' gw) s') G2 wd fO qa ⟨_,_,_,R4⟩ c9 ?_
 ·rw [qa] at run
  exact run
 ·revert hp
  cases res with
  |stuck=>intro hp;exact hp
  |bD x H2=>
   intro hp g2 e h2 t2 aP F2
   exact yg (c:=c) (s:={s with heap:=h2,toks:=t2}) KS e3 G.frame ee Cj F2 λh3 F3=>hp g2 e h3 t2 (c9.trans aP) F3
  |ok u H2=>
   obtain ⟨u,l⟩:=u
   cases u with
   |next=>intro hp g2 h2 t2 aP R2;exact hp g2 .none h2 t2 (c9.trans aP) (back (c9.trans aP) R2) .none
   |ret v=>intro hp g2 val h2 t2 aP R2 V2;exact hp g2 val h2 t2 (c9.trans aP) (back (c9.trans aP) R2) V2
theorem zi {tk:Nat} {cs cs':Scope} {N:Nat} (O:b.Ok) (body:bb b cs' n tk) {c:FC} {g:Gh} {loc loc':Loc} {H:aa} {s:Shared} {Q E:VP} {env:Env} {h₁:Heap} {t₁:Nat} {m':Str→Option Value} {cm:Str→Option Value} (G:c.Good b cs N) (hN:n < N) (R:Rep b c g loc H s.heap)
  (e1:env.scope=cs') (e2:env.locals=s.heap.objs.size) (e3:env.frame=some s.heap.objs.size) (e4:env.globals=mainGlobals) (e5:env.builtins=builtinsNs) (hk:cs'.kind=.function)
  (hn:h₁.Ns s.heap.objs.size m') (iJ:∀ a o,s.heap.get? a=some o→h₁.get? a=some o) (ht:tk≤t₁)
  (fq:∀ n a,env.cells.lookup n=some a→∃ o,h₁.get? a=some o∧o.data=.cell (cm n)) (IT:env.cells.Pairwise λx y=>x.2≠y.2) (xC:∀ n a,(n,a)∈env.cells→s.heap.objs.size < a)
  (Am:∀ k,env.kindOf (b.nm k)=some .cell→∃ a,env.cells.lookup (b.nm k)=some a) (kg:yb b g env.kindOf m' cm loc')
  (hp:ao b c g loc s (match body.run loc' H with
   |.ok (.next,_) H=>.ok .none H
   |.ok (.ret v,_) H=>.ok v H
   |.bD x H=>.bD x H
   |.stuck=>.stuck) Q E) :
  wpAny (model b.prog b.w) (c.A.deeper env) (execs body.py env) (λf s'=>Q (match f with |.ret v=>v |_=>.none) s') (λe s'=>wpAny (model b.prog b.w) (c.A.deeper env) (leaving env e) (λ_ gw=>E e gw) (λe' gw=>E e' gw) s') {s with heap:=h₁,toks:=t₁}:=by
 refine xH (env.cells.filter λp=>env.cells.lookup p.1==some p.2) (λA Q E=>wpAny (model b.prog b.w) A (execs body.py env) Q E {s with heap:=h₁,toks:=t₁}) (body.run loc' H) G hN R e1 e2 e3 e4 e5 hk hn iJ ht (λn a hm=>fq n a (by simpa using (List.mem_filter.mp hm).2)) (IT.filter _) (λn a hm=>xC n a (List.mem_filter.mp hm).1) (λk q=>let ⟨a,ha⟩:=Am k q;⟨a,ha,List.mem_filter.mpr ⟨mem_lookup ha,by simpa using ha⟩⟩) kg (λc' g' Q E G' xy he hA R' _ aw=>?_) hp
 have:=bb.ok O body c' g' loc' H {s with heap:=h₁,toks:=t₁} Q E G' xy ht R' aw
 rw [he] at this
 exact this
noncomputable def pg {cs':Scope} (addr:Addr) (ps:List Nat) (body:bb b cs' n 0) (xA:b.Ok→FnAt b addr cs' ps body.py)
  (hk:cs'.kind=.function) (xt:cs'.isCoroutine=false) (rN:cs'.isGenerator=false) (rM:(ps.all λp=>cs'.names.lookup (b.nm p)==some .local||cs'.names.lookup (b.nm p)==some .cell)=true):Fn b n where
 addr:=addr
 run:=vO ps body.run
 ok:=λO c cs N g loc H s Q E args vals G hN R V hp=>by
  refine Ab (xA O) ?_;intro oc od kG fd f1 f2 f3 f4 f5 f6 f8 f7
  unfold vO at hp
  split at hp
  ·rename_i hlen
   have hv:vals.length=ps.length:=by rw [← V.length];exact hlen
   refine aJ (id R) ?_;intro m ag af R'
   have X:=O.X.keeps R'.stays
   subst f3
   have px:((((ps.map b.nm).zip vals)).all λy=>fd.scope.names.lookup y.1==some .local||fd.scope.names.lookup y.1==some .cell)=true:=by
    refine List.all_eq_true.mpr λx hx=>?_
    refine aQ (List.of_mem_zip hx) ?_;intro y hy
    refine ai (List.mem_map.mp y) ?_;intro p hp e
    refine (e ..)▸?_
    exact List.all_eq_true.mp rM p hp
   refine codeAny_call_cells (fd:=fd) (body:=body.py) (binds:=(ps.map b.nm).zip vals) (by have:=G.depth;exact AD this) (X _ _ f1) rfl (O.lim.keeps R'.stays) (codeRec_of X f6) f2 (f7 vals hv) f8 (kindsX px _) (λaO I=>?_) xt rN hk
   obtain ⟨⟨h₁,t₁,rfl⟩,hn,iJ,_⟩:=I.toInCall
   have kg:=vi (b:=b) (g:=g) (kind:=(callEnvC fd s.heap.objs.size addr).kindOf) (mL:=λ_=>none) (mC:=λ_=>none) (acc:=[]) O.inj (p6 (ps:=ps) V) (λx hx=>by
    have:=List.all_eq_true.mp px x hx
    rcases Bool.or_eq_true_iff.mp this with q |q
    ·exact .inl (show fd.scope.names.lookup x.1=_ by simpa using q)
    ·exact .inr (show fd.scope.names.lookup x.1=_ by simpa using q)) (λ_ _ e=>nomatch e)
   rw [List.append_nil] at kg
   exact zi O body G hN R rfl rfl rfl f4 f5 hk hn iJ (Nat.zero_le _) I.cell I.apart I.above (λk q=>Option.isSome_iff_exists.mp (cellsFrom_some fd.scope.names (s.heap.objs.size+1) [] (x:=b.nm k) (.inl q))) kg hp
  ·exact hp.elim
theorem AE {g:Gh} (inj:∀ i j,b.nm i=b.nm j→i=j) {l:List (Nat×AV)} {m:List (Str×Value)} (t:aI (λ(p:Nat×AV) (q:Str×Value)=>q.1=b.nm p.1∧ak b g p.2 q.2) l m):∀ k v,l.lookup k=some v→∃ val,m.lookup (b.nm k)=some val∧ak b g v val:=by
 induction t with
 |nil=>intro k v e;cases e
 |@cons p q l m h t ih=>
  intro k v e
  obtain ⟨x,u⟩:=p
  obtain ⟨y,z⟩:=q
  refine aQ h ?_;intro h1 h2
  have h1:y=b.nm x:=h1
  subst h1
  by_cases q:k=x
  ·subst q
   rw [List.lookup_cons,beq_self_eq_true] at e
   cases e
   exact ⟨z,by simp,h2⟩
  ·rw [bj q] at e
   refine ai (ih k v e) ?_;intro val k1 k2
   exact ⟨val,by rw [bj (λw=>q (inj _ _ w))];exact k1,k2⟩
noncomputable def E7 {cs':Scope} (addr:Addr) (p0:Nat) (ps:List Nat) (body:bb b cs' n 1) (xA:b.Ok→FnAt b addr cs' (p0::ps) body.py)
  (hk:cs'.kind=.function) (xt:cs'.isCoroutine=false) (rN:cs'.isGenerator=false) (fq:∀ x∈cs'.names,x.2≠.cell) (rM:∀ p∈p0::ps,cs'.names.lookup (b.nm p)=some .local):Fn b n where
 addr:=addr
 run:=vO (p0::ps) body.run
 ok:=λO c cs N g loc H s Q E args vals G hN R V hp=>by
  refine Ab (xA O) ?_;intro oc od kG fd f1 f2 f3 f4 f5 f6 f8 f7
  unfold vO at hp
  split at hp
  ·rename_i hlen
   have hv:vals.length=(p0::ps).length:=by rw [← V.length];exact hlen
   refine aJ (id R) ?_;intro m ag af R'
   have X:=O.X.keeps R'.stays
   subst f3
   have Fp:∀ x∈((p0::ps).map b.nm).zip vals,fd.scope.names.lookup x.1=some .local:=λx hx=>by
    refine aQ (List.of_mem_zip hx) ?_;intro y hy
    refine ai (List.mem_map.mp y) ?_;intro p hp e
    refine (e ..)▸?_
    exact rM p hp
   refine codeAny_call_def (fd:=fd) (body:=body.py) (binds:=((p0::ps).map b.nm).zip vals) (by have:=G.depth;exact AD this) (X _ _ f1) rfl (O.lim.keeps R'.stays) (codeRec_of X f6) f2 (.of_eq (f7 vals hv)) fq Fp (λh₁ hn iJ=>?_) xt rN hk
   have Jf:(callEnv fd s.heap.objs.size addr).cells=[]:=f8
   refine zi (loc':=((p0::ps).zip args).reverse) (cm:=λ_=>none) O body G hN R rfl rfl rfl f4 f5 hk hn iJ ?_ (λn a e=>by rw [Jf] at e;cases e) (by rw [Jf];exact .nil) (λn a e=>by rw [Jf] at e;cases e) (λk q=>?_) (λk v e=>?_) hp
   ·have:(((p0::ps).map b.nm).zip vals).length≠0:=by
     cases vals with
     |nil=>cases hv
     |cons _ _=>simp
    omega
   ·exact absurd rfl (fq _ (mem_lookup (show fd.scope.names.lookup (b.nm k)=some .cell from q)))
   ·refine ai (AE (b:=b) (g:=g) O.inj (p6 (ps:=p0::ps) V).reverse k v e) ?_;intro val k1 k2
    refine ⟨val,k2,.inl ⟨?_,k1⟩⟩
    have:=mem_lookup k1
    exact Fp _ (List.mem_reverse.mp this)
  ·exact hp.elim
theorem bx.ij (O:b.Ok) {f:Value} (p:Pos) (es:bx b cs n) (c:FC) (g:Gh) (loc:Loc) (H:aa) (s:Shared) (Q:List Value→Shared→Prop) (E:VP) (G:c.Good b cs n) (R:Rep b c g loc H s.heap)
  (hp:dZ b c g loc s (es.vals loc H) Q E):wpAny (model b.prog b.w) c.A (evalArgs f true (backTo p (starEach es.py c.env)) []) (λa aO=>a.kw=[]∧Q a.pos aO) E s:=by
 have main:=bx.p7 O p es c g loc H s Q E G R hp
 cases es with
 |nil=>exact evalArgs_nil3 ⟨rfl,hp g [] s.heap s.toks (.refl g) R .nil⟩
 |cons e r=>
  show wpAny _ _ (evalArgs _ true (backTo p (starEach (e.py::r.py) c.env)) []) _ _ _
  have main':wpAny (model b.prog b.w) c.A (spliced (backTo p (starEach (e.py::r.py) c.env))) Q E s:=main
  rw [e.ns] at main' ⊢
  exact evalArgs_plain (wpAny_mono main' (λvs s' h=>⟨rfl,h⟩) λ_ _ x=>x)
noncomputable def Ex.call {k:Nat} (f:Fn b k) (x:Gv cs) (hx:b.Ok→nsIn b.K mainGlobals x.s=some (some (.ref f.addr))∧keepIn b.K (.ref f.addr)=true) (args:bx b cs n) (np p:Pos) (hn:k < n):Ex b cs n where
 py:=.Call (.Name x.s np) args.py [] p
 run:=λloc H=>(args.vals loc H).bind λvs H=>f.run vs H
 ok:=λO c g loc H s Q E G R hp=>by
  refine wpAny_Call_NameR (mD O x (hx O).1 G R ?_)
  refine callWith_of (P:=b.K.In) (by rw [bx.plain];rfl) (keeps_K (hx O).2) ?_
  refine wpAny_mono (bx.ij O p args c g loc H s (λvs aO=>b.K.In aO.heap∧wpAny (model b.prog b.w) c.A (PySem.call (.ref f.addr) ([]++vs) []) Q E aO) E G R (hp.jO λvs H' g' vals h' t' le R' V aw=>?_)) (λa aO h=>⟨h.2.1,by rw [h.1];exact h.2.2⟩) λ_ _ x=>x
  refine aJ (id R') ?_;intro m ag af R2
  exact ⟨O.X.keeps R2.stays,wpAny_call (f.ok O c cs n g' loc H' {s with heap:=h',toks:=t'} Q E vs vals G hn R' V aw)⟩
end
structure pZ (b:Base) (C:Addr):Prop where
 get:plainGet b.K C ""=true
 dict:hasDictIn b.K C=true
 over:plainOver b.K C=true
 set:findIn b.K (.ref C) "__setattr__"=some (some (.builtin "object.__setattr__"))
noncomputable def rA (x:Nat) (v:AV):List (Nat×AV)→List (Nat×AV)
 |[]=>[(x,v)]
 |(y,u)::r=>if y=x then (y,v)::r else (y,u)::rA x v r
noncomputable def fieldsOf (C:Nat) (v:AV) (H:aa):Option (Nat×List (Nat×AV)):=match v with
 |.ref i=>match H[i]? with
  |some (.inst D fs)=>if D=C then some (i,fs) else none
  |_=>none
 |_=>none
noncomputable def aD (C x:Nat) (v:AV) (H:aa):Res AV:=match fieldsOf C v H with
 |some (_,fs)=>match fs.lookup x with
  |some u=>.ok u H
  |none=>.stuck
 |none=>.stuck
noncomputable def setField (C x:Nat) (v u:AV) (H:aa):Res AV:=match fieldsOf C v H with
 |some (i,fs)=>if (rA x u fs).length≤1000 then .ok .none (H.set i (.inst C (rA x u fs))) else .stuck
 |none=>.stuck
noncomputable def kq (C x:Nat) (v:AV) (H:aa):Bool:=match v with
 |.ref i=>match H[i]? with
  |some (.inst D fs)=>Nat.beq D C&&(fs.lookup x).isNone
  |some (.scan D _)=>Nat.beq D C&&Nat.ble 4 x
  |_=>false
 |_=>false
section
variable {b:Base} {V:AV→Value→Prop} {x:Nat} {fs:List (Nat×AV)} {es:List DictEntry}
theorem pH {f:Nat×AV} {e:DictEntry} (inj:∀ i j,b.nm i=b.nm j→i=j) (h:cJ b.nm V f e) (x:Nat):e.key.isStr (b.nm x)=(f.1==x):=by
 refine aQ h ?_;clear h;rintro ⟨t,k⟩ _
 refine sY (k ..)▸?_
 show (b.nm f.1==b.nm x)=(f.1==x)
 rewrite [Bool.eq_iff_iff,beq_iff_eq,beq_iff_eq]
 exact ⟨inj _ _,λe=>by rw [e]⟩
theorem find_none (inj:∀ i j,b.nm i=b.nm j→i=j) (h:aI (cJ b.nm V) fs es):fs.lookup x=none→es.find? (·.key.isStr (b.nm x))=none:=by
 induction h with
 |nil=>exact λ_=>rfl
 |@cons f _ _ _ h1 _ ih=>
  refine sY (List.find?_cons ..)▸?_;refine sY (pH inj h1 x ..)▸?_;rewrite [Bool.beq_comm]
  show (match x==f.1 with |true=>some f.2 |false=>_)=none→_
  cases x==f.1 with
  |true=>exact nofun
  |false=>exact ih
theorem find_some (inj:∀ i j,b.nm i=b.nm j→i=j) (h:aI (cJ b.nm V) fs es) {u:AV}:fs.lookup x=some u→∃ e,es.find? (·.key.isStr (b.nm x))=some e∧V u e.val:=by
 induction h with
 |nil=>exact nofun
 |@cons f en _ _ h1 _ ih=>
  refine sY (List.find?_cons ..)▸?_;refine sY (pH inj h1 x ..)▸?_;rewrite [Bool.beq_comm]
  show (match x==f.1 with |true=>some f.2 |false=>_)=some u→_
  cases x==f.1 with
  |true=>exact λe=>⟨en,rfl,Option.some.inj e▸h1.2⟩
  |false=>exact ih
theorem Gq (h:aI (cJ b.nm V) fs es):es.any (·.refKey)=false:=by
 induction h with
 |nil=>rfl
 |cons h1 _ ih=>
  refine sY (List.any_cons ..)▸?_;refine sY (ih ..)▸?_;rewrite [Bool.or_false]
  refine aQ h1 ?_;clear h1;rintro ⟨t,k⟩ _
  unfold DictEntry.refKey
  refine sY (k ..)▸?_;rfl
theorem u5 (inj:∀ i j,b.nm i=b.nm j→i=j) (h:aI (cJ b.nm V) fs es) {u:AV} (e:fs.lookup x=some u):∃ val,getL (b.nm x) es=some (some val)∧V u val:=
 (find_some inj h e).elim λe k=>⟨e.val,by unfold getL;rw [k.1],k.2⟩
theorem pD (inj:∀ i j,b.nm i=b.nm j→i=j) (h:aI (cJ b.nm V) fs es) (e:fs.lookup x=none):getL (b.nm x) es=some none:=by
 unfold getL
 rw [find_none inj h e,Gq h];rfl
set_option tactic.hygienic true in
theorem DA (inj:∀ i j,b.nm i=b.nm j→i=j) (h:aI (cJ b.nm V) fs es) {u:AV} {val:Value} {hs:Int} {t:Tok} (hv:V u val):aI (cJ b.nm V) (rA x u fs) (putL (b.nm x) hs (.str (b.nm x) t) val es):=by
 induction h with
 |nil=>exact .cons ⟨⟨t,rfl⟩,hv⟩ .nil
 |cons h1 h2 ih=>
  rename_i f en I8 nN
  obtain ⟨y,w⟩:=f
  show aI _ (if y=x then (y,u)::I8 else (y,w)::rA x u I8) (if en.key.isStr (b.nm x) then _ else _)
  refine sY (pH inj h1 x ..)▸?_
  by_cases q:y=x
  ·refine sY (if_pos q ..)▸?_;refine sY (if_pos (beq_iff_eq.mpr q) ..)▸?_
   exact .cons ⟨h1.1,hv⟩ h2
  ·refine sY (if_neg q ..)▸?_;refine sY (if_neg (λh=>q (beq_iff_eq.mp h)) ..)▸?_
   exact .cons h1 ih
end
section
variable {b:Base} {c:FC} {g:Gh} {loc:Loc} {H:aa} {h h':Heap} {m:Str→Option Value} {ag:List (List (Addr×Obj))} {af:List (Addr×Obj)}
theorem Cq {α:Type} {l:List α} {x:α}:∀ {i:Nat},l[i]?=some x→∃ a b,l=a++x::b∧∀ y,l.set i y=a++y::b:=by
 induction l with
 |nil=>exact λh=>nomatch h
 |cons z l ih=>
  intro i h
  cases i with
  |zero=>exact ⟨[],l,congrArg (·::l) (Option.some.inj h),λ_=>rfl⟩
  |succ i=>exact (ih (i:=i) h).elim λa k=>k.elim λb k=>⟨z::a,b,congrArg (z::·) k.1,λy=>congrArg (z::·) (k.2 y)⟩
theorem aE.split (R:aE b c g loc H h m ag af) {i:Nat} {pre post:List (Addr×Obj)} {d:Addr} {o:Obj} (hi:ag[i]?=some (pre++(d,o)::post)) :
  ∃ CQ ya,cells g ag af c.pins=CQ++(d,o)::ya∧(∀ o',cells g (ag.set i (pre++(d,o')::post)) af c.pins=CQ++(d,o')::ya)∧(∀ p∈CQ,p.1≠d)∧∀ p∈ya,p.1≠d:=by
 refine fk (Cq hi) ?_;intro l r e1 e2
 have c1:∀ o',cells g (l++(pre++(d,o')::post)::r) af c.pins=(g.bF++(l.flatten++pre))++(d,o')::(post++(r.flatten++(af++c.pins))):=λo'=>by
  unfold cells;rw [List.flatten_append,List.flatten_cons];simp only [List.append_assoc,List.cons_append]
 have nd:=R.nodup
 rw [e1,c1 o,List.map_append,List.map_cons,List.nodup_append,List.nodup_cons] at nd
 exact ⟨_,_,by rw [e1];exact c1 o,λo'=>by rw [e2];exact c1 o',λp hp=>nd.2.2 _ (List.mem_map_of_mem hp) _ (.head _),λp hp q=>nd.2.1.1 (List.mem_map.mpr ⟨p,hp,q⟩)⟩
theorem aE.L8 (R:aE b c g loc H h m ag af) {i:Nat} {pre post:List (Addr×Obj)} {d:Addr} {o o':Obj} {ob:aK} (hi:ag[i]?=some (pre++(d,o)::post))
  (F:Fr b.hT c.L h' m) (N:News b.hT c.L h' (cells g (ag.set i (pre++(d,o')::post)) af c.pins)) (hr:aZ b (ak b g) (bl b g) ob (pre++(d,o')::post)) :
  aE b c g loc (H.set i ob) h' m (ag.set i (pre++(d,o')::post)) af:=by
 refine ke (R.split hi) ?_;intro CQ ya e1 e2 _ _
 have em:(cells g (ag.set i (pre++(d,o')::post)) af c.pins).map (·.1)=(cells g ag af c.pins).map (·.1):=by rw [e1,e2];simp
 refine {R with stays:=F.keep,ns:=F.ns,cell:=λp hp=>(N p hp).1,nodup:=by rw [em];exact R.nodup,off:=λp hp=>?_,heap:=R.heap.set hr,bX:=?_}
 ·have:p.1∈(cells g ag af c.pins).map (·.1):=by rw [← em];exact List.mem_map_of_mem hp
  refine ai (List.mem_map.mp this) ?_;intro q hq e
  rw [← e];exact R.off q hq
 ·exact R.bX.uF hi λ_=>yM
theorem Av {C:Nat} {v:AV} {i:Nat} {fs:List (Nat×AV)}:fieldsOf C v H=some (i,fs)→v=.ref i∧H[i]?=some (.inst C fs):=by
 cases v with
 |ref j=>
  show (match H[j]? with |some (.inst D fs)=>if D=C then some (j,fs) else none |_=>none)=_→_
  cases ho:H[j]? with
  |none=>exact nofun
  |some o=>
   cases o with
   |inst D I8=>
    show (if D=C then _ else _)=_→_
    by_cases q:D=C
    ·subst q;rw [if_pos rfl];intro h;cases h;exact ⟨rfl,ho⟩
    ·rw [if_neg q];exact nofun
   |_=>exact nofun
 |_=>exact nofun
theorem DP {C x:Nat} {v:AV}:kq C x v H=true→∃ i,v=.ref i∧((∃ fs,H[i]?=some (.inst C fs)∧fs.lookup x=none)∨∃ ts,H[i]?=some (.scan C ts)∧4≤x):=by
 cases v with
 |ref j=>
  show (match H[j]? with |some (.inst D fs)=>Nat.beq D C&&(fs.lookup x).isNone |some (.scan D _)=>Nat.beq D C&&Nat.ble 4 x |_=>false)=true→_
  cases ho:H[j]? with
  |none=>exact nofun
  |some o=>
   cases o with
   |inst D fs=>exact λh=>⟨j,rfl,.inl ⟨fs,ho.trans (congrArg (λD=>some (aK.inst D fs)) (Nat.eq_of_beq_eq_true (Bool.and_eq_true_iff.mp h).1)),Option.isNone_iff_eq_none.mp (Bool.and_eq_true_iff.mp h).2⟩⟩
   |scan D ts=>exact λh=>⟨j,rfl,.inr ⟨ts,ho.trans (congrArg (λD=>some (aK.scan D ts)) (Nat.eq_of_beq_eq_true (Bool.and_eq_true_iff.mp h).1)),Nat.le_of_ble_eq_true (Bool.and_eq_true_iff.mp h).2⟩⟩
   |_=>exact nofun
 |_=>exact nofun
theorem ug (R:aE b c g loc H h m ag af) {C:Nat} {v:AV} {x:Value} {i:Nat} {fs:List (Nat×AV)} (V:ak b g v x) (e:fieldsOf C v H=some (i,fs)) :
  ∃ a d es n,x=.ref a∧v=.ref i∧ag[i]?=some [(a,instObj C d),(d,bE es n)]∧InstAt h a (instObj C d) C (some (bE es n))∧aI (cJ b.nm (ak b g)) fs es:=by
 refine aQ (Av e) ?_;rintro rfl ho
 refine ai V.inv ?_;rintro a rfl hr
 refine lB (s6 R hr ho) ?_;intro d es n h1 hv
 exact ⟨_,_,_,_,rfl,rfl,h1,⟨R.cell _ (dp R h1 (.head _)),rfl,rfl,R.cell _ (dp R h1 (.tail _ (.head _)))⟩,hv⟩
end
section
variable {b:Base} {cs:Scope} {n:Nat}
theorem Gy (O:b.Ok) {c:FC} {g:Gh} {loc:Loc} {H:aa} {h:Heap} {m:Str→Option Value} {ag:List (List (Addr×Obj))} {af:List (Addr×Obj)} (R:aE b c g loc H h m ag af) {C x:Nat} {v:AV} {val:Value} (V:ak b g v val) (hm:kq C x v H=true) :
  ∃ a d es n i,val=.ref a∧v=.ref i∧InstAt h a (instObj C d) C (some (bE es n))∧getL (b.nm x) es=some none:=by
 refine ai (DP hm) ?_;rintro i rfl (⟨fs,ho,hn⟩ |⟨ts,ho,hn⟩)
 ·refine ai V.inv ?_;rintro a rfl hr
  refine lB (s6 R hr ho) ?_;intro d es n h1 hv
  exact ⟨_,d,es,n,i,rfl,rfl,⟨R.cell _ (dp R h1 (.head _)),rfl,rfl,R.cell _ (dp R h1 (.tail _ (.head _)))⟩,pD O.inj hv hn⟩
 ·refine ai V.inv ?_;rintro a rfl hr
  refine JP (zY R hr ho) ?_;intro x' y' l j d es n hs h1 hv
  have hx:=O.sc hs
  exact ⟨_,d,es,n,i,rfl,rfl,⟨R.cell _ (dp R h1 (.head _)),rfl,rfl,R.cell _ (dp R h1 (.tail _ (.head _)))⟩,pD O.inj hv (by
   rw [bj (Nat.ne_of_gt (Nat.lt_of_lt_of_le hx.1 hn)),bj (Nat.ne_of_gt (Nat.lt_of_lt_of_le hx.2 hn))];rfl)⟩
theorem handed {g:Gh} {v:AV} {x:Value} (V:ak b g v x):handedIn x=true:=by
 have k:=V.inv
 revert k
 cases v<;>first |(rintro rfl;rfl) |(rintro ⟨_,rfl⟩;rfl) |((intro zq;(refine ai zq ?_;clear zq;rintro _ rfl _));rfl) |((intro zq;(refine fk zq ?_;clear zq;rintro _ _ rfl _));rfl)
set_option tactic.hygienic true in
theorem yi (O:b.Ok) {C x:Nat} (hc:pZ b C) (hx:findIn b.K (.ref C) (b.nm x)=some Option.none) {c:FC} {g:Gh} {loc:Loc} {H:aa} {s:Shared} {Q E:VP} {v:AV} {val:Value} {ex:Bool} (R:Rep b c g loc H s.heap) (V:ak b g v val)
  (hp:ao b c g loc s (aD C x v H) Q E):wpAny (model b.prog b.w) c.A (getAttr val (b.nm x) ex) Q E s:=by
 unfold aD at hp
 split at hp
 ·rename_i i fs e
  split at hp
  ·rename_i u hu
   refine aJ (id R) ?_;intro m ag af R'
   refine sI (ug R' V e) ?_;rintro a d es k rfl rfl hi I hF
   refine ai (u5 O.inj hF hu) ?_;intro w hw hV
   exact get_own (name:=b.nm x) R'.fr O.X I (show plainGet b.K C (b.nm x)=true from hc.get) hc.dict hx rfl hw (handed hV) (hp g w s.heap _ (.refl g) R hV)
  ·exact hp.elim
 ·exact hp.elim
theorem Hm {o:Expr} {x:Str} {p:Pos} (h:attributeBase o=rE) (env:Env):eval (.Attribute o x p) env=(do
   let v ← eval o env
   standAt p.atName
   let r ← holding [v] (getAttr v x true)
   letTemporaryGo o v r
   pure r):=by
 have e:eval (.Attribute o x p) env=(do
   let v ← attributeBase o x env (eval o env)
   standAt p.atName
   let r ← holding [v] (getAttr v x true)
   letTemporaryGo o v r
   pure r):=by with_unfolding_all rfl
 refine sY (e ..)▸?_;refine sY (h ..)▸?_
 rfl
theorem y7 {o:Expr} {x:Str} {ap p:Pos} {es:bx b cs n} (h:attributeBase o=rE) (hf:(Nat.beq ap.endLine p.line&&Nat.blt es.py.length 30)=true) (env:Env):∃ pl,eval (.Call (.Attribute o x ap) es.py [] p) env=(do
   let ov ← eval o env
   standAt ap.atName
   let (f,first) ← holding [ov] (getMethod ov x pl)
   callWith p f first (backTo p (starEach es.py env)) []):=by
 rw [Bool.and_eq_true] at hf
 have pI:methodCallForm (es.py.length+0) (backTo p (starEach es.py env)) []=true:=by
  have q:=bx.plain p env es
  unfold methodCallForm
  rw [List.any_eq_false] at q
  rewrite [Bool.and_eq_true,Bool.and_eq_true]
  exact ⟨⟨List.all_eq_true.mpr λy hy=>by rw [Bool.not_eq_true'];exact Bool.eq_false_iff.mpr (q y hy),rfl⟩,decide_eq_true (Nat.le_of_ble_eq_true hf.2)⟩
 have pos:methodCallPos true o env ap p=pure p:=by
  unfold methodCallPos
  rewrite [if_pos (by rw [show (ap.endLine==p.line)=true from beq_iff_eq.mpr (Nat.eq_of_beq_eq_true hf.1)];rfl)];rfl
 have e:eval (.Call (.Attribute o x ap) es.py [] p) env=(do
   let ov ← attributeBase o x env (eval o env)
   standAt ap.atName
   methodCall o x ap p env ov (es.py.length+0) (backTo p (starEach es.py env)) []):=by with_unfolding_all rfl
 refine sY (e ..)▸?_;refine sY (h ..)▸?_
 unfold methodCall
 refine sY (pI ..)▸?_;refine sY (pos ..)▸?_
 exact ⟨_,rfl⟩
noncomputable def Ex.attr (o:Ex b cs n) (C x:Nat) (p:Pos) (hx:b.Ok→pZ b C∧findIn b.K (.ref C) (b.nm x)=some Option.none)
  (he:autoParam (attributeBase o.py=rE) Js):Ex b cs n where
 py:=.Attribute o.py (b.nm x) p
 run:=λloc H=>(o.run loc H).bind λv H=>aD C x v H
 ok:=λO c g loc H s Q E G R hp=>Attribute_any_ (o.ok O c g loc H s _ E G R (hp.seq λv H' g' val h' t' le R' V aw=>
  yi (s:={s with heap:=h',toks:=t'}) O (hx O).1 (hx O).2 R' V aw)) (Hm he _)
set_option tactic.hygienic true in
noncomputable def St.setAttr {tk:Nat} (o:Ex b cs n) (C x:Nat) (ap:Pos) (e:Ex b cs n) (p:Pos) (hx:b.Ok→pZ b C∧findIn b.K (.ref C) (b.nm x)=some Option.none)
  (hs:autoParam (swapsWith e.py=m4) xW):St b cs n tk where
 py:=.Assign [.Attribute o.py (b.nm x) ap] e.py p
 run:=λloc H=>(e.run loc H).bind λu H=>(o.run loc H).bind λv H=>(setField C x v u H).bind λ_ H=>.ok (.next,loc) H
 ok:=λO c g loc H s Q E G hc _ R hp=>plainObj_wpAny_Assign_Attribute (e.ok O c g loc H s _ E G R (hp.dD λu H' g' HA h' t' le R' U aw=>
  o.ok O c g' loc H' {s with heap:=h',toks:=t'} _ E G R' (aw.dD λv H2 g2 val h2 t2 aP R2 V bA=>by
   unfold setField at bA
   split at bA
   ·rename_i i fs ef
    split at bA
    ·rename_i hlen
     refine aJ (id R2) ?_;intro m ag af R3
     refine sI (ug R3 V ef) ?_;rintro a d es k rfl rfl hi I hF
     refine ke (R3.split (pre:=[(a,instObj C d)]) (post:=[]) hi) ?_;intro CQ ya e1 e2 q1 q2
     have U2:=U.mono aP
     have Ly:=DA (b:=b) (x:=x) (hs:=PyData.keyHash b.w.params (b.nm x)) (t:=t2+1) O.inj hF U2
     have jC:=(hx O).1
     have hl:(lookIn (b.nm x) (bE es k)).isSome=true:=by
      show (getL (b.nm x) es).isSome=true
      cases q:fs.lookup x with
      |none=>rw [pD O.inj hF q];rfl
      |some u'=>(refine ai (u5 O.inj hF q) ?_;intro w hw _);rw [hw];rfl
     have X:=O.X.keeps R3.stays
     have N:=R3.news
     rw [e1] at N
     refine set_plain (s:={s with heap:=h2,toks:=t2}) X I jC.set (osa_dict (s:={s with heap:=h2,toks:=t2+1}) (od':=bE (putL (b.nm x) (PyData.keyHash b.w.params (b.nm x)) (.str (b.nm x) (t2+1)) HA es) (putN (b.nm x) es k)) R3.fr N X I rfl jC.over
      (by unfold takerIn;rw [(hx O).2];rfl) jC.dict hl q1 q2 (putName_dict _ _ _ _ _ _) rfl (by rw [← Ly.length];exact hlen) λh' F' N'=>?_)
     have R4:=R3.L8 (pre:=[(a,instObj C d)]) (post:=[]) (o':=bE (putL (b.nm x) (PyData.keyHash b.w.params (b.nm x)) (.str (b.nm x) (t2+1)) HA es) (putN (b.nm x) es k)) (ob:=.inst C (rA x u fs)) hi F' (by rw [e2];exact N') (.inst Ly)
     exact bA g2 h' _ (.refl _) ⟨m,_,af,R4⟩
    ·exact bA.elim
   ·exact bA.elim))) (congrFun (congrFun (congrFun hs _) _) _)
noncomputable def Ex.bp {k:Nat} (o:Ex b cs n) (C x:Nat) (f:Fn b k) (args:bx b cs n) (ap p:Pos) (hn:k < n)
  (hx:b.Ok→pZ b C∧findIn b.K (.ref C) (b.nm x)=some (some (.ref f.addr))∧isFn b.K (.ref f.addr)=true∧keepIn b.K (.ref f.addr)=true)
  (hb:autoParam (attributeBase o.py=rE) Js) (he:autoParam ((Nat.beq ap.endLine p.line&&Nat.blt args.py.length 30)=true) zB):Ex b cs n where
 py:=.Call (.Attribute o.py (b.nm x) ap) args.py [] p
 run:=λloc H=>(o.run loc H).bind λv H=>match kq C x v H with
  |true=>(args.vals loc H).bind λvs H=>f.run (v::vs) H
  |false=>.stuck
 ok:=λO c g loc H s Q E G R hp=>(y7 hb he c.env).elim λ_ he=>MethodCall_ (o.ok O c g loc H s _ E G R (hp.seq λv H' g' val h' t' le R' V aw=>by
  split at aw
  ·rename_i hm
   ·refine aJ (id R') ?_;intro m ag af R3
    refine JU (Gy O R3 V hm) ?_;rintro a d es j i rfl rfl I hF
    refine gj (hx O) ?_;intro hc h1 h2 h3
    refine method_inst (s:={s with heap:=h',toks:=t'}) R3.fr O.X I (show plainGet b.K C (b.nm x)=true from hc.get) h1 h2 hF ?_
    refine callWith_of (P:=b.K.In) (by rw [bx.plain];rfl) (keeps_K h3) ?_
    refine wpAny_mono (bx.ij O p args c g' loc H' {s with heap:=h',toks:=t'} (λvs aO=>b.K.In aO.heap∧wpAny (model b.prog b.w) c.A (PySem.call (.ref f.addr) (.ref a::vs) []) Q E aO) E G R' (aw.jO λvs H2 g2 vals h2 t2 aP R2 V2 bA=>?_)) (λa aO h=>⟨h.2.1,by rw [h.1];exact h.2.2⟩) λ_ _ x=>x
    refine aJ (id R2) ?_;intro m ag af R5
    exact ⟨O.X.keeps R5.stays,wpAny_call (f.ok O c cs n g2 loc H2 {s with heap:=h2,toks:=t2} Q E (.ref i::vs) (.ref a::vals) G hn R2 (.cons (V.mono aP) V2) bA)⟩
  ·exact aw.elim)) he
noncomputable def madeBy (run:List AV→aa→Res AV) (C:Nat) (vs:List AV) (H:aa):Res AV:=
 (run (.ref H.length::vs) (H++[.inst C []])).bind λv H'=>match v with
  |.none=>.ok (.ref H.length) H'
  |_=>.stuck
theorem vZ (A:Around) (C:Addr) (vals:List Value):(A.under (.builtin "type.__call__" ⟨.ref C::vals,[]⟩)).frames=A.frames:=by
 unfold Around.under
 cases A.frames<;>rfl
noncomputable def Ex.make {k:Nat} (C:Nat) (init:Fn b k) (x:Gv cs) (args:bx b cs n) (np p:Pos) (hn:k+1 < n)
  (hx:b.Ok→nsIn b.K mainGlobals x.s=some (some (.ref C))∧keepIn b.K (.ref C)=true∧makesIn b.K C=true∧findIn b.K (.ref C) "__init__"=some (some (.ref init.addr))∧typeIn b.K (.ref init.addr)=some (.type "function")):Ex b cs n where
 py:=.Call (.Name x.s np) args.py [] p
 run:=λloc H=>(args.vals loc H).bind λvs H=>madeBy init.run C vs H
 ok:=λO c g loc H s Q E G R hp=>by
  refine qg (hx O) ?_;intro x1 x2 x3 x4 x5
  refine wpAny_Call_NameR (mD O x x1 G R ?_)
  refine callWith_of (P:=b.K.In) (by rw [bx.plain];rfl) (keeps_K x2) ?_
  refine wpAny_mono (bx.ij O p args c g loc H s (λvs aO=>b.K.In aO.heap∧wpAny (model b.prog b.w) c.A (PySem.call (.ref C) ([]++vs) []) Q E aO) E G R (hp.jO λvs H' g' vals h' t' le R' V aw=>?_)) (λa aO h=>⟨h.2.1,by rw [h.1];exact h.2.2⟩) λ_ _ x=>x
  refine aJ (id R') ?_;intro m ag af R3
  have X:=O.X.keeps R3.stays
  refine ⟨X,wpAny_call ?_⟩
  refine make_core (makes_of X x3) (looks_findIn X x4) (λself=>bind_fn X self x5) (.inl rfl) ?_
  have k:∀ a o,h'.get? a=some o→((h'.push emptyDict).push (instObj C h'.objs.size)).get? a=some o:=λa o e=>Heap.get?_push_of_some _ (Heap.get?_push_of_some _ e)
  have e1:((h'.push emptyDict).push (instObj C h'.objs.size)).get? (h'.objs.size+1)=some (instObj C h'.objs.size):=by
   have:=Heap.get?_push_size (h'.push emptyDict) (o:=instObj C h'.objs.size) rfl
   rwa [Heap.size_push] at this
  have e2:((h'.push emptyDict).push (instObj C h'.objs.size)).get? h'.objs.size=some emptyDict:=Heap.get?_push_of_some _ (Heap.get?_push_size _ rfl)
  have R4:=R3.CN (h':=(h'.push emptyDict).push (instObj C h'.objs.size)) (o:=.inst C []) (ch:=[(h'.objs.size+1,instObj C h'.objs.size),(h'.objs.size,bE [] 0)]) k
   (by intro p hp;simp only [List.mem_cons,List.not_mem_nil,or_false] at hp;rcases hp with rfl |rfl<;>simp)
   (by intro p hp;simp only [List.mem_cons,List.not_mem_nil,or_false] at hp;rcases hp with rfl |rfl;exact e1;exact e2)
   (by simp) (.inst .nil)
  have aP:=pC g' (h'.objs.size+1)
  let c':FC:={c with A:=c.A.under (.builtin "type.__call__" ⟨.ref C::vals,[]⟩)}
  have hl:H'.length=g'.ρ.length:=R3.heap.length.trans R3.bX.length.symm
  have G':FC.Good c' b cs (n - 1):=by
   refine ⟨G.sc,G.kind,G.locals,G.frame,(vZ _ _ _).trans G.frames,G.hand,?_,?_,G.glob,G.blt⟩
   ·show c.A.depth+1+10 * (n - 1)+10 < _
    have:=G.depth;exact Jh (Nat.le_of_eq (FE hn).symm) this
   ·show c.A.units+1+40 * (n - 1)+40 < _
    have:=G.units;exact Mc (Nat.le_of_eq (FE hn).symm) this
  have R5:Rep b c' {g' with ρ:=g'.ρ++[h'.objs.size+1]} loc (H'++[.inst C []]) ((h'.push emptyDict).push (instObj C h'.objs.size)):=⟨m,_,af,{R4 with}⟩
  have V5:aX b {g' with ρ:=g'.ρ++[h'.objs.size+1]} (.ref H'.length::vs) (.ref (h'.objs.size+1)::vals):=
   .cons (.ref (by show (g'.ρ++[h'.objs.size+1])[H'.length]?=_;rw [hl];simp)) (.of (V.all.imp λ_ _=>ak.mono aP))
  let Q':VP:=λv s'=>v=.none∧Q (.ref (h'.objs.size+1)) s'
  refine codeAny_mono (init.ok O c' cs (n - 1) _ loc (H'++[.inst C []]) {s with heap:=(h'.push emptyDict).push (instObj C h'.objs.size),toks:=t'} Q' E _ _ G' (Nat.lt_sub_of_add_lt hn) R5 V5 ?_) λr s' hr=>?_
  ·unfold madeBy at aw
   revert aw
   cases init.run (.ref H'.length::vs) (H'++[.inst C []]) with
   |stuck=>intro aw;exact aw
   |bD x H2=>
    intro aw g2 e h2 t2 gV F2
    refine aw g2 e h2 t2 (aP.trans gV) ?_
    obtain q |⟨f,B,ag,af,m,d,od,hk,F⟩:=F2
    ·exact .inl q
    exact .inr ⟨f,B,ag,af,m,d,od,hk,{F with}⟩
   |ok v H2=>
    intro aw g2 val h2 t2 gV R6 V6
    refine aJ R6 ?_;clear R6;intro m6 MF MC R7
    cases v<;>first |exact aw.elim |skip
    cases V6
    refine ⟨rfl,aw g2 _ h2 t2 (aP.trans gV) ⟨m6,MF,MC,{R7 with}⟩ (.ref ?_)⟩
    refine aQ gV ?_;clear gV;rintro ⟨r,hr⟩ _
    refine sY (hr ..)▸?_;refine sY (hl ..)▸?_
    simp
  ·rcases r with e |(v |_ |_ |_)<;>first |exact hr |exact hr.elim
end
set_option genCtorIdx true in
inductive It where
 |lst (v:AV)
 |tup (l:List AV)
 |str (l:List Nat)
 |ff (a c:Int) (n:Nat)
 |jF (l:List Nat)
 |zip (u v:AV)
noncomputable def It.next (it:It) (k:Nat) (H:aa):Option (Option AV):=match it with
 |.lst v=>match itemsOf H v with
  |some l=>some l[k]?
  |none=>none
 |.tup l=>some l[k]?
 |.str l=>some (l[k]?.map λc=>.str [c])
 |.ff a c n=>some (if k < n then some (.int (a+c * k)) else none)
 |.jF l=>some (l[k]?.map λc=>.tup [.int k,.str [c]])
 |.zip u v=>match itemsOf H u,itemsOf H v with
  |some l,some m=>some (match l[k]?,m[k]? with
   |some x,some y=>some (.tup [x,y])
   |_,_=>none)
  |_,_=>none
noncomputable abbrev tv (it:Addr) (k:Nat) (old:Value):Obj:={cls:=.type "enumerate",dict:=none,data:=.fields #[.none,.bool false,.ref it,rawInt k,.none,old],slots:=#[]}
noncomputable abbrev vS (TI TO:Addr):Obj:={cls:=.type "zip",dict:=none,data:=.fields #[.none,.bool false,.bool false,.ref TI,.ref TO],slots:=#[]}
noncomputable abbrev iB (a b:Value):Obj:={cls:=.type "tuple",data:=.seq #[a,b]}
noncomputable abbrev zZ (x n c:Int):Obj:={cls:=.type "range_iterator",dict:=none,data:=.fields #[rawInt x,rawInt n,rawInt c],slots:=#[]}
inductive ej (b:Base) (g:Gh):It→Nat→Addr→List (Addr×Obj)→Prop
 |lst {v k I ax o}:ak b g v (.ref ax)→o.cls=.type "list_iterator"→o.data=.fields #[.ref ax,.int (k:Nat) 0]→ej b g (.lst v) k I [(I,o)]
 |tup {l k I ax o}:ak b g (.tup l) (.ref ax)→o.cls=.type "tuple_iterator"→o.data=.fields #[.ref ax,.int (k:Nat) 0]→ej b g (.tup l) k I [(I,o)]
 |str {l k I o t}:o.cls=.type (strIterType ⟨List.toArray l⟩)→o.data=.fields #[.str ⟨List.toArray l⟩ t,.int (k:Nat) 0]→ej b g (.str l) k I [(I,o)]
 |ff {a c n k I}:ej b g (.ff a c n) k I [(I,zZ (a+c * k) ((n:Int) - k) c)]
 |jF {l k e it old o t}:o.cls=.type (strIterType ⟨List.toArray l⟩)→o.data=.fields #[.str ⟨List.toArray l⟩ t,.int (k:Nat) 0]→ej b g (.jF l) k e [(e,tv it k old),(it,o)]
 |zip {u v k z TI TO i1 i2 x y l1 l2 o1 o2}:ak b g u (.ref l1)→ak b g v (.ref l2)→o1.cls=.type "list_iterator"→o1.data=.fields #[.ref l1,.int (k:Nat) 0]→o2.cls=.type "list_iterator"→o2.data=.fields #[.ref l2,.int (k:Nat) 0]→
   ej b g (.zip u v) k z [(z,vS TI TO),(TI,iB (.ref i1) (.ref i2)),(TO,iB x y),(i1,o1),(i2,o2)]
theorem ej.mono {b:Base} {g g':Gh} (le:g.le g') {it:It} {k:Nat} {I:Addr} {ps:List (Addr×Obj)} (h:ej b g it k I ps):ej b g' it k I ps:=by
 cases h with
 |lst a b c=>exact .lst (a.mono le) b c
 |tup a b c=>exact .tup (a.mono le) b c
 |str a b=>exact .str a b
 |ff=>exact .ff
 |jF a b=>exact .jF a b
 |zip a b c d e f=>exact .zip (a.mono le) (b.mono le) c d e f
section
variable {b:Base} {c:FC} {g:Gh} {loc:Loc} {H:aa} {h h':Heap} {m:Str→Option Value} {ag:List (List (Addr×Obj))} {af:List (Addr×Obj)}
theorem dh {ps pins:List (Addr×Obj)}:(cells g ag af (ps++pins)).Perm (ps++cells g ag af pins):=by
 induction ps with
 |nil=>exact .refl _
 |cons p ps ih=>exact pR.trans (.cons _ ih)
noncomputable def FC.pin (c:FC) (ps:List (Addr×Obj)):FC:={c with pins:=ps++c.pins}
theorem FC.Good.pin {cs:Scope} {n:Nat} (G:c.Good b cs n) (ps:List (Addr×Obj)):(c.pin ps).Good b cs n:=⟨G.sc,G.kind,G.locals,G.frame,G.frames,G.hand,G.depth,G.units,G.glob,G.blt⟩
theorem aE.sy {ps ps':List (Addr×Obj)} (R:aE b (c.pin ps) g loc H h m ag af) (k:∀ a o,a∉ps.map (·.1)→h.get? a=some o→h'.get? a=some o) (hs:∀ p∈ps',p.1∈ps.map (·.1)) (hn:(ps'.map (·.1)).Nodup)
  (ha:∀ p∈ps',h'.get? p.1=some p.2):aE b (c.pin ps') g loc H h' m ag af:=by
 have P:(cells g ag af (ps++c.pins)).Perm (ps++cells g ag af c.pins):=dh
 have P':(cells g ag af (ps'++c.pins)).Perm (ps'++cells g ag af c.pins):=dh
 have nd:((ps++cells g ag af c.pins).map (·.1)).Nodup:=(P.map (·.1)).nodup_iff.mp R.nodup
 rw [List.map_append,List.nodup_append] at nd
 refine bZ nd ?_;clear nd;intro n1 n2 n3
 have off:∀ a,a∈ps.map (·.1)→b.hT.objs.size≤a∧a≠c.L:=λa hm=>by
  refine ai (List.mem_map.mp hm) ?_;rintro p hp rfl
  exact R.off p (P.mem_iff.mpr (List.mem_append_left _ hp))
 have new:∀ a o,b.hT.get? a=some o→a∉ps.map (·.1):=λa o e hm=>absurd (Heap.lt_size e) (Nat.not_lt.mpr (off a hm).1)
 refine lB R.ns ?_;intro oL es ep hL r
 refine {stays:=λa o e=>k a o (new a o e) (R.stays a o e),ns:=⟨oL,es,ep,k _ _ (λhm=>(off _ hm).2 rfl) hL,r⟩,above:=R.above,cell:=?_,nodup:=?_,off:=?_,loc:=R.loc,heap:=R.heap,bX:=R.bX,af:=R.af}
 ·intro p hp
  rcases List.mem_append.mp (P'.mem_iff.mp hp) with hp |hp
  ·exact ha p hp
  ·exact k _ _ (λhm=>n3 _ hm _ (List.mem_map_of_mem hp) rfl) (R.cell p (P.mem_iff.mpr (List.mem_append_right _ hp)))
 ·refine (P'.map (·.1)).nodup_iff.mpr ?_
  refine sY (List.map_append ..)▸?_;rewrite [List.nodup_append]
  refine ⟨hn,n2,λx hx y hy=>n3 x ?_ y hy⟩
  refine ai (List.mem_map.mp hx) ?_;rintro p hp rfl
  exact hs p hp
 ·intro p hp
  rcases List.mem_append.mp (P'.mem_iff.mp hp) with hp |hp
  ·exact off _ (hs p hp)
  ·exact R.off p (P.mem_iff.mpr (List.mem_append_right _ hp))
theorem aE.j6 {ps:List (Addr×Obj)} (R:aE b (c.pin ps) g loc H h m ag af) (k:∀ a o,a∉ps.map (·.1)→h.get? a=some o→h'.get? a=some o):aE b c g loc H h' m ag af:=
 R.sy (ps':=[]) k (λ_ h=>nomatch h) .nil (λ_ h=>nomatch h)
theorem aE.zF (R:aE b c g loc H h m ag af) (k:∀ a o,h.get? a=some o→h'.get? a=some o) {ps:List (Addr×Obj)} (hn:∀ p∈ps,h.objs.size≤p.1) (hd:(ps.map (·.1)).Nodup) (ha:∀ p∈ps,h'.get? p.1=some p.2) :
  aE b (c.pin ps) g loc H h' m ag af:=by
 have P:(cells g ag af (ps++c.pins)).Perm (ps++cells g ag af c.pins):=dh
 have R':=R.keep k
 refine {stays:=R'.stays,ns:=R'.ns,above:=R.above,cell:=?_,nodup:=?_,off:=?_,loc:=R.loc,heap:=R.heap,bX:=R.bX,af:=R.af}
 ·intro p hp
  rcases List.mem_append.mp (P.mem_iff.mp hp) with hp |hp
  ·exact ha p hp
  ·exact R'.cell p hp
 ·refine (P.map (·.1)).nodup_iff.mpr ?_
  refine sY (List.map_append ..)▸?_;rewrite [List.nodup_append]
  refine ⟨hd,R.nodup,λx hx y hy e=>?_⟩
  refine ai (List.mem_map.mp hx) ?_;rintro p hp rfl
  refine ai (List.mem_map.mp hy) ?_;rintro q hq rfl
  exact absurd (Heap.lt_size (R.cell q hq)) (Nat.not_lt.mpr (by rw [← e];exact hn p hp))
 ·intro p hp
  rcases List.mem_append.mp (P.mem_iff.mp hp) with hp |hp
  ·have:=hn p hp
   exact ⟨Nat.le_trans R.above (Nat.le_trans (Nat.le_of_lt R.lt) this),Nat.ne_of_gt (Nat.lt_of_lt_of_le R.lt this)⟩
  ·exact R.off p hp
theorem aE.pinned {ps:List (Addr×Obj)} (R:aE b (c.pin ps) g loc H h m ag af) {p:Addr×Obj} (hp:p∈ps):h.get? p.1=some p.2:=R.cell p (dh.mem_iff.mpr (List.mem_append_left _ hp))
theorem aE.lq {ps:List (Addr×Obj)} (R:aE b (c.pin ps) g loc H h m ag af):(ps.map (·.1)).Nodup:=by
 have nd:((ps++cells g ag af c.pins).map (·.1)).Nodup:=((dh (ps:=ps) (pins:=c.pins)).map (·.1)).nodup_iff.mp R.nodup
 rw [List.map_append,List.nodup_append] at nd
 exact nd.1
theorem ud (R:aE b c g loc H h m ag af) {v:AV} {ax:Addr} {l:List AV} (V:ak b g v (.ref ax)) (e:itemsOf H v=some l):∃ vs,h.IsList ax (List.toArray vs)∧aX b g l vs:=by
 refine eO (dz R V e) ?_;intro a o vs n q h1 h2 h3 h4 h5
 cases q
 exact ⟨vs,⟨o,h1,h2,n,h3⟩,h5⟩
theorem tup_is (R:aE b c g loc H h m ag af) {ax:Addr} {l:List AV} (V:ak b g (.tup l) (.ref ax)):∃ vs,h.IsTuple ax (List.toArray vs)∧aX b g l vs:=by
 cases V with
 |tup h1 h2 h3 h4 h5=>exact ⟨_,⟨_,R.there h1,h2,_,h3⟩,h5⟩
set_option tactic.hygienic true in
theorem lh {l:List AV} {vs:List Value} (V:aX b g l vs) {k:Nat}:match l[k]? with |some v=>∃ x,(List.toArray vs)[k]?=some x∧ak b g v x |none=>(List.toArray vs)[k]?=none:=by
 split
 ·rename_i v e
  refine ai (V.all.get e) ?_;intro x h1 h2
  exact ⟨x,by simpa using h1,h2⟩
 ·rename_i e
  have:vs.length≤k:=by rw [← V.length];simpa using e
  simp [this]
end
structure Tg (b:Base) (cs:Scope) where
 py:Expr
 run:Loc→AV→Option Loc
 ok:b.Ok→∀ (c:FC) (g:Gh) (loc:Loc) (H:aa) (s:Shared) (Q:Unit→Shared→Prop) (E:VP) (n:Nat) (v:AV) (x:Value),c.Good b cs n→Rep b c g loc H s.heap→ak b g v x→
  (match run loc v with
   |some loc'=>∀ h' t',Rep b c g loc' H h'→Q () {s with heap:=h',toks:=t'}
   |none=>False)→wpAny (model b.prog b.w) c.A (assign py c.env x) Q E s
 shape:(∃ x p,py=.Name x p)∨∃ elts k p,py=.Tuple elts k p
section
variable {b:Base} {cs:Scope} {n:Nat}
theorem mR (O:b.Ok) (x:Lv b cs) {c:FC} {g:Gh} {loc:Loc} {H:aa} {s:Shared} {Q:Unit→Shared→Prop} {E:VP} {v:AV} {val:Value} (G:c.Good b cs n) (R:Rep b c g loc H s.heap) (V:ak b g v val)
  (h:∀ h' t',Rep b c g ((x.x,v)::loc) H h'→Q () {s with heap:=h',toks:=t'}):wpAny (model b.prog b.w) c.A (storeName c.env (b.nm x.x) val) Q E s:=by
 refine aJ R ?_;clear R;intro m ag af R'
 have hk:c.env.scope=cs:=G.sc
 have hx:c.env.kindOf (b.nm x.x)=some .local:=by show c.env.scope.names.lookup _=_;rw [hk];exact x.h
 refine wpAny_storeName_local hx (by rw [G.locals];exact R'.ns) (λh2 hn hs=>?_) (by rw [hk,G.kind];rfl)
 rw [G.locals] at hn hs
 exact h h2 _ ⟨_,ag,af,R'.store O.inj V hx hn hs⟩
noncomputable def Tg.name (x:Lv b cs) (p:Pos):Tg b cs where
 py:=.Name (b.nm x.x) p
 run:=λloc v=>some ((x.x,v)::loc)
 ok:=λO c g loc H s Q E n v val G R V hp=>wpAny_assign_Name (mR O x G R V hp)
 shape:=.inl ⟨_,_,rfl⟩
noncomputable def hJ (b:Base) (cs:Scope):List (Lv b cs×Pos)→List Expr
 |[]=>[]
 |(x,p)::r=>.Name (b.nm x.x) p::hJ b cs r
noncomputable def dW:List (Lv b cs×Pos)→List AV→Loc→Option Loc
 |[],[],loc=>some loc
 |(x,_)::r,v::vs,loc=>dW r vs ((x.x,v)::loc)
 |_,_,_=>none
theorem BD (env:Env):∀ xs:List (Lv b cs×Pos),(assignEach (hJ b cs xs) env).length=xs.length
 |[]=>rfl
 |(x,p)::r=>by show (assignEach (hJ b cs r) env).length+1=_;rw [BD env r];rfl
theorem yU (env:Env):∀ xs:List (Lv b cs×Pos),(assignEach (hJ b cs xs) env).findIdx? (·.1)=none
 |[]=>rfl
 |(x,p)::r=>by
  show ((false,assign (.Name (b.nm x.x) p) env)::assignEach (hJ b cs r) env).findIdx? (·.1)=none
  rw [List.findIdx?_cons,yU env r];rfl
theorem E5 (O:b.Ok):∀ (xs:List (Lv b cs×Pos)) (vs:List AV) (vals:List Value) (c:FC) (g:Gh) (loc:Loc) (H:aa) (s:Shared) (Q:Unit→Shared→Prop) (E:VP),c.Good b cs n→Rep b c g loc H s.heap→aX b g vs vals→
  (match dW xs vs loc with
   |some loc'=>∀ h' t',Rep b c g loc' H h'→Q () {s with heap:=h',toks:=t'}
   |none=>False)→wpAny (model b.prog b.w) c.A (assignInOrder ((assignEach (hJ b cs xs) c.env).map (·.2)) vals) Q E s
 |[],[],_,c,g,loc,H,s,Q,E,G,R,.nil,h=>wpAny_pure (h s.heap s.toks R)
 |[],_::_,_,_,_,_,_,_,_,_,_,_,_,h=>h.elim
 |_::_,[],_,_,_,_,_,_,_,_,_,_,_,h=>h.elim
 |(x,p)::r,v::vs,_,c,g,loc,H,s,Q,E,G,R,.cons (x:=val) (m:=vals) V Vs,h=>by
  show wpAny _ _ (do holding vals (assign (.Name (b.nm x.x) p) c.env val);assignInOrder ((assignEach (hJ b cs r) c.env).map (·.2)) vals) _ _ _
  refine wpAny_bind (wpAny_holding (wpAny_assign_Name (mR O x G R V λh' t' R'=>?_)))
  refine E5 O r vs vals c g _ H {s with heap:=h',toks:=t'} Q E G R' Vs ?_
  have h':match dW r vs ((x.x,v)::loc) with
   |some loc'=>∀ h' t',Rep b c g loc' H h'→Q () {s with heap:=h',toks:=t'}
   |none=>False:=h
  exact h'
theorem pb:∀ (xs:List (Lv b cs×Pos)) (l:List AV) (loc:Loc),(dW xs l loc).isSome=true→xs.length=l.length
 |[],[],_,_=>rfl
 |[],_::_,_,h=>by cases h
 |_::_,[],_,h=>by cases h
 |(x,p)::r,v::vs,loc,h=>congrArg (·+1) (pb r vs ((x.x,v)::loc) h)
set_option tactic.hygienic true in
noncomputable def Tg.names (xs:List (Lv b cs×Pos)) (k:Nat) (p:Pos):Tg b cs where
 py:=.Tuple (hJ b cs xs) k p
 run:=λloc v=>match v with
  |.tup l=>dW xs l loc
  |_=>none
 ok:=λO c g loc H s Q E n v val G R V hp=>by
  cases v with
  |tup l=>
   refine aJ (id R) ?_;intro m ag af R'
   have V':=V
   cases V' with
   |tup h1 h2 h3 h4 h5=>
    rename_i a o vs k'
    have hlen:(assignEach (hJ b cs xs) c.env).length=(List.toArray vs).size:=by
     rewrite [BD]
     have:xs.length=l.length:=by
      have aw:(match dW xs l loc with
       |some loc'=>∀ h' t',Rep b c g loc' H h'→Q () {s with heap:=h',toks:=t'}
       |none=>False):=hp
      cases q:dW xs l loc with
      |some _=>exact pb xs l loc (by rw [q];rfl)
      |none=>rw [q] at aw;exact aw.elim
     rw [this,h5.length];simp
    refine wpAny_assign_Tuple G.hand ⟨o,R'.there h1,h2,k',h3⟩ hlen (yU _ _) λh' hx=>?_
    have R2:Rep b c g loc H h':=⟨m,ag,af,R'.keep λa o e=>hx a o (Nat.ne_of_lt (Heap.lt_size e)) e⟩
    exact E5 O xs l vs c g loc H {s with heap:=h'} Q E G R2 h5 hp
  |_=>exact hp.elim
 shape:=.inr ⟨_,_,_,rfl⟩
end
section
variable {b:Base} {cs:Scope} {n:Nat}
def cz (b:Base) (c:FC) (g:Gh) (loc:Loc) (s:Shared) (r:Res It) (Q E:VP):Prop:=match r with
 |.ok it H'=>∀ g' I ps h0 h' t',g.le g'→Rep b c g' loc H' h0→(∀ a o,h0.get? a=some o→h'.get? a=some o)→(∀ p∈ps,h0.objs.size≤p.1∧h'.get? p.1=some p.2)→(ps.map (·.1)).Nodup→ej b g' it 0 I ps→Q (.ref I) {s with heap:=h',toks:=t'}
 |.bD x H'=>∀ g' e h' t',g.le g'→d5 b c g' H' x e h'→E (.ref e) {s with heap:=h',toks:=t'}
 |.stuck=>False
theorem cz.dD {c:FC} {g:Gh} {loc:Loc} {s:Shared} {Q E:VP} {r:Res AV} {f:AV→aa→Res It} {Q':VP} (hp:cz b c g loc s (r.bind f) Q E)
  (k:∀ v H' g' val h' t',g.le g'→Rep b c g' loc H' h'→ak b g' v val→cz b c g' loc {s with heap:=h',toks:=t'} (f v H') Q E→Q' val {s with heap:=h',toks:=t'}) :
  ao b c g loc s r Q' E:=by
 cases r with
 |ok v H'=>
  intro g' val h' t' le R V
  have aw:cz b c g loc s (f v H') Q E:=hp
  refine k v H' g' val h' t' le R V ?_
  revert aw
  cases f v H' with
  |ok u H2=>intro aw g2 I ps h0 h2 t2 aP;exact aw g2 I ps h0 h2 t2 (le.trans aP)
  |bD x H2=>intro aw g2 e h2 t2 aP F2;exact aw g2 e h2 t2 (le.trans aP) F2
  |stuck=>intro aw;exact aw
 |bD x H'=>exact hp
 |stuck=>exact hp
structure Src (b:Base) (cs:Scope) (n:Nat) where
 py:Expr
 run:Loc→aa→Res It
 ok:b.Ok→∀ (c:FC) (g:Gh) (loc:Loc) (H:aa) (s:Shared) (Q E:VP),c.Good b cs n→Rep b c g loc H s.heap→cz b c g loc s (run loc H) Q E→
  wpAny (model b.prog b.w) c.A (eval py c.env) (λx aO=>wpAny (model b.prog b.w) c.A (pyIter x) Q E aO) E s
 fs:∀ env x,foldedSetIterable py env x=pure x
noncomputable def fE (v:AV) (H:aa):Res It:=match v with
 |.fl l=>.ok (.lst (.fl l)) H
 |.tup l=>.ok (.tup l) H
 |.str l=>.ok (.str l) H
 |.ref i=>match H[i]? with
  |some (.list _)=>.ok (.lst (.ref i)) H
  |_=>.stuck
 |_=>.stuck
theorem uQ {c:FC} {g:Gh} {loc:Loc} {H:aa} {s:Shared} {Q E:VP} {v:AV} {x:Value} {l:List AV} (R:Rep b c g loc H s.heap) (V:ak b g v x) (e:itemsOf H v=some l)
  (hp:cz b c g loc s (.ok (.lst v) H) Q E):wpAny (model b.prog b.w) c.A (pyIter x) Q E s:=by
 refine aJ (id R) ?_;intro m ag af R'
 refine eO (dz R' V e) ?_;rintro a o vs k rfl h1 h2 h3 h4 h5
 refine wpAny_pyIter_list ⟨o,h1,h2,k,h3⟩ ?_
 exact hp g s.heap.objs.size [(s.heap.objs.size,{cls:=.type "list_iterator",data:=.fields #[.ref a,.int 0 0]})] s.heap _ s.toks (.refl g) R (λ_ _ e=>Heap.get?_push_of_some _ e)
  (by intro p hp;simp only [List.mem_cons,List.not_mem_nil,or_false] at hp;subst hp;exact ⟨Nat.le_refl _,Heap.get?_push_size _ rfl⟩) (by simp) (.lst V rfl rfl)
set_option tactic.hygienic true in
noncomputable def Src.of (e:Ex b cs n) (fs:autoParam (foldedSetIterable e.py=DG) OR):Src b cs n where
 py:=e.py
 run:=λloc H=>(e.run loc H).bind fE
 fs:=λ_ _=>congrFun (congrFun fs _) _
 ok:=λO c g loc H s Q E G R hp=>e.ok O c g loc H s _ E G R (cz.dD hp λv H' g' val h' t' le R' V aw=>by
  cases v with
  |fl l=>exact uQ (s:={s with heap:=h',toks:=t'}) R' V rfl aw
  |ref i=>
   simp only [fE] at aw
   split at aw
   ·rename_i l hl
    exact uQ (s:={s with heap:=h',toks:=t'}) (l:=l) R' V (by simp [itemsOf,hl]) aw
   ·exact aw.elim
  |tup l=>
   refine aJ (id R') ?_;intro m ag af R2
   cases V with
   |tup h1 h2 h3 h4 h5=>
    rename_i a o vs k
    refine wpAny_pyIter_tuple ⟨o,R2.there h1,h2,k,h3⟩ ?_
    exact aw g' h'.objs.size [(h'.objs.size,{cls:=.type "tuple_iterator",data:=.fields #[.ref a,.int 0 0]})] h' _ t' (.refl _) R' (λ_ _ e=>Heap.get?_push_of_some _ e)
     (by intro p hp;simp only [List.mem_cons,List.not_mem_nil,or_false] at hp;subst hp;exact ⟨Nat.le_refl _,Heap.get?_push_size _ rfl⟩) (by simp) (.tup (.tup h1 h2 h3 h4 h5) rfl rfl)
  |str l=>
   cases V with
   |str _ t=>
    refine wpAny_pyIter_strU ?_
    exact aw g' h'.objs.size [(h'.objs.size,{cls:=.type (strIterType ⟨l.toArray⟩),data:=.fields #[.str ⟨l.toArray⟩ t,.int 0 0]})] h' _ t' (.refl _) R' (λ_ _ e=>Heap.get?_push_of_some _ e)
     (by intro p hp;simp only [List.mem_cons,List.not_mem_nil,or_false] at hp;subst hp;exact ⟨Nat.le_refl _,Heap.get?_push_size _ rfl⟩) (by simp) (.str rfl rfl)
  |_=>exact aw.elim)
noncomputable def It.d8:It→Bool
 |.jF _=>true
 |.zip _ _=>true
 |_=>false
def NP (r:Option (Option AV)) (Qs:AV→Prop) (Qn:Prop):Prop:=match r with
 |some (some v)=>Qs v
 |some none=>Qn
 |none=>False
set_option tactic.hygienic true in
theorem ka {M:Model} {A:Around} {E:VP} {s:Shared} {target:Expr} (ht:(∃ x p,target=.Name x p)∨∃ elts k p,target=.Tuple elts k p) {I:Addr} {o:Obj} {T:String} {v:Value} {Q:Unit→Shared→Prop} (ho:s.heap.get? I=some o) (hc:o.cls=.type T)
  (hT:(["enumerate","zip","dict_itemiterator","dict_reverseitemiterator","odict_iterator","itertools.zip_longest","itertools.pairwise"].contains T)=false) (h:Q () s):wpAny M A (letOwnedTupleGo target (.ref I) v) Q E s:=by
 rcases ht with ⟨x,p,rfl⟩ |⟨elts,k,p,rfl⟩
 ·exact wpAny_pure h
 ·unfold letOwnedTupleGo
  cases v<;>try exact wpAny_pure h
  refine wpAny_bind (wpAny_load ho ?_)
  refine sY (hc ..)▸?_
  cases o.data<;>try exact wpAny_pure h
  rename_i a vs
  show wpAny M A (if (_&&_)=true then _ else _) _ _ _
  refine sY (hT ..)▸?_;rewrite [Bool.false_and];refine sY (if_neg Bool.false_ne_true ..)▸?_
  exact wpAny_pure h
theorem Mk (l:Str):(["enumerate","zip","dict_itemiterator","dict_reverseitemiterator","odict_iterator","itertools.zip_longest","itertools.pairwise"].contains (strIterType l))=false:=by
 unfold strIterType
 split<;>decide
def Nx (b:Base) (c:FC) (E:VP) (target:Expr) (I:Addr) (Q:Option Value→Shared→Prop) (s:Shared):Prop:=
 wpAny (model b.prog b.w) c.A (pyNext (.ref I)) (λr aO=>match r with |none=>Q none aO |some v=>wpAny (model b.prog b.w) c.A (letOwnedTupleGo target (.ref I) v) (λ_ cn=>Q (some v) cn) E aO) E s
def NS (b:Base) (c:FC) (g:Gh) (loc:Loc) (H:aa) (s:Shared) (Q:Option Value→Shared→Prop) (it:It) (k:Nat) (I:Addr) (v:AV):Prop:=
 ∀ g' val h' t' ps',g.le g'→ej b g' it (k+1) I ps'→Rep b (c.pin ps') g' loc H h'→ak b g' v val→Q (some val) {s with heap:=h',toks:=t'}
def NN (b:Base) (c:FC) (g:Gh) (loc:Loc) (H:aa) (s:Shared) (Q:Option Value→Shared→Prop):Prop:=
 ∀ h' t',Rep b c g loc H h'→Q none {s with heap:=h',toks:=t'}
section
variable {S:AV→Prop} {N:Prop} {k:Nat} {H:aa}
theorem HZ {v:AV}:NP (It.next (.lst v) k H) S N→∃ l,itemsOf H v=some l∧NP (some l[k]?) S N:=by
 show NP (match itemsOf H v with |some l=>some l[k]? |none=>none) S N→_
 cases itemsOf H v with
 |none=>exact False.elim
 |some l=>exact λh=>⟨l,rfl,h⟩
theorem HY {u v:AV}:NP (It.next (.zip u v) k H) S N→∃ l m,itemsOf H u=some l∧itemsOf H v=some m∧NP (some (match l[k]?,m[k]? with |some x,some y=>some (.tup [x,y]) |_,_=>none)) S N:=by
 show NP (match itemsOf H u,itemsOf H v with |some l,some m=>some (match l[k]?,m[k]? with |some x,some y=>some (.tup [x,y]) |_,_=>none) |_,_=>none) S N→_
 cases itemsOf H u with
 |none=>exact False.elim
 |some l=>
  cases itemsOf H v with
  |none=>exact False.elim
  |some m=>exact λh=>⟨l,m,rfl,rfl,h⟩
theorem H6 {α:Type} {o:Option α} {f:α→AV} {P:Prop} (hp:NP (some (o.map f)) S N) (s:∀ v,o=some v→S (f v)→P) (n:o=none→N→P):P:=by
 cases o with
 |none=>exact n rfl hp
 |some v=>exact s v rfl hp
theorem yT {o:Option AV} {P:Prop} (hp:NP (some o) S N) (s:∀ v,o=some v→S v→P) (n:o=none→N→P):P:=by
 cases o with
 |none=>exact n rfl hp
 |some v=>exact s v rfl hp
end
section
variable {b:Base} {g:Gh}
theorem r7 {l:List AV} {vs:List Value} {k:Nat} {v:AV} (V:aX b g l vs) (h:l[k]?=some v):∃ x,vs.toArray[k]?=some x∧ak b g v x:=by
 have q:=lh V (k:=k)
 rw [h] at q;exact q
theorem r8 {l:List AV} {vs:List Value} {k:Nat} (V:aX b g l vs) (h:l[k]?=none):vs.toArray[k]?=none:=by
 have q:=lh V (k:=k)
 rw [h] at q;exact q
end
section
variable {b:Base} {c:FC} {g:Gh} {loc:Loc} {H:aa} {s:Shared} {Q:Option Value→Shared→Prop} {E:VP} {k:Nat} {I:Addr} {target:Expr} {m:Str→Option Value} {ag:List (List (Addr×Obj))} {af:List (Addr×Obj)}
theorem qf {h h':Heap} {o o':Obj} (R':aE b (c.pin [(I,o)]) g loc H h m ag af) (ho:h'.get? I=some o') (hs:Heap.SameBut I h h'):Rep b (c.pin [(I,o')]) g loc H h':=
 ⟨m,ag,af,R'.sy (λa x hn e=>(hs.2 a (by simpa using hn)).trans e) (by simp) (by simp) (by simpa using ho)⟩
theorem mw {h h':Heap} {o:Obj} (R':aE b (c.pin [(I,o)]) g loc H h m ag af) (he:Heap.ExtBut I h h'):Rep b c g loc H h':=
 ⟨m,ag,af,R'.j6 λa x hn e=>he a x (by simpa using hn) e⟩
theorem aE.t6 {h h':Heap} {ps ps':List (Addr×Obj)} (R':aE b (c.pin ps) g loc H h m ag af) (hk:ps'.map (·.1)=ps.map (·.1)) (k:∀ a o,a∉ps.map (·.1)→h.get? a=some o→h'.get? a=some o) (ha:∀ p∈ps',h'.get? p.1=some p.2):aE b (c.pin ps') g loc H h' m ag af:=
 R'.sy k (λp hp=>hk▸List.mem_map_of_mem hp) (hk▸R'.lq) ha
theorem b9 {α:Type} {a x:α} {l:List α} (h:a∉x::l):a≠x∧a∉l:=⟨λe=>h (e▸.head _),λq=>h (.tail _ q)⟩
theorem gU {α:Type} {x:α} {l:List α} (h:(x::l).Nodup):x∉l∧l.Nodup:=List.nodup_cons.mp h
theorem H7 {x y z u v:Nat} (h:[x,y,z,u,v].Nodup):(x≠y∧x≠z∧x≠u∧x≠v)∧(y≠z∧y≠u∧y≠v)∧(z≠u∧z≠v)∧u≠v:=by
 have h1:=gU h
 have h2:=gU h1.2
 have h3:=gU h2.2
 have h4:=gU h3.2
 have a:=b9 h1.1
 have a2:=b9 a.2
 have a3:=b9 a2.2
 have b:=b9 h2.1
 have b2:=b9 b.2
 have d:=b9 h3.1
 exact ⟨⟨a.1,a2.1,a3.1,(b9 a3.2).1⟩,⟨b.1,b2.1,(b9 b2.2).1⟩,⟨d.1,(b9 d.2).1⟩,(b9 h4.1).1⟩
theorem m5 {a x y z u v:Nat} (h:a∉[x,y,z,u,v]):a≠x∧a≠z∧a≠u∧a≠v:=
 have a:=b9 h
 have b:=b9 (b9 a.2).2
 have d:=b9 b.2
 ⟨a.1,b.1,d.1,(b9 d.2).1⟩
theorem DH {a x y:Nat} (h:a∉[x,y]):a≠x∧a≠y:=
 have a:=b9 h
 ⟨a.1,(b9 a.2).1⟩
theorem all_nil {α:Type} {P:α→Prop}:∀ p∈([]:List α),P p:=λ_ h=>nomatch h
theorem all_cons {α:Type} {P:α→Prop} {a:α} {l:List α} (h:P a) (q:∀ p∈l,P p):∀ p∈a::l,P p:=List.forall_mem_cons.mpr ⟨h,q⟩
theorem JL {P:Nat→Option Obj} {x y z u v:Nat} {p q r s t:Obj} (h1:P x=some p) (h2:P y=some q) (h3:P z=some r) (h4:P u=some s) (h5:P v=some t):∀ o∈[(x,p),(y,q),(z,r),(u,s),(v,t)],P o.1=some o.2:=
 all_cons h1 (all_cons h2 (all_cons h3 (all_cons h4 (all_cons h5 all_nil))))
theorem aE.xR {h:Heap} {ps ps':List (Addr×Obj)} (R':aE b (c.pin ps) g loc H h m ag af) (hk:ps'.map (·.1)=ps.map (·.1)):∀ p∈cells g ag af (ps'++c.pins),p.1≠h.objs.size:=λp hp=>by
 have lt:∀ q∈ps++cells g ag af c.pins,q.1≠h.objs.size:=λq hq=>Nat.ne_of_lt (Heap.lt_size (R'.cell q (dh.mem_iff.mpr hq)))
 rcases List.mem_append.mp (dh.mem_iff.mp hp) with q |q
 ·refine ai (List.mem_map.mp (hk▸List.mem_map_of_mem q)) ?_;intro r hr e
  exact e▸lt r (List.mem_append_left _ hr)
 ·exact lt p (List.mem_append_right _ q)
theorem DN {l:List Nat} {nJ:Addr} {old:Value} {o:Obj} {t tk:Nat} {tp:Pos} {elts:List Expr} (hh:c.A.handled=none) (h2:o.cls=.type (strIterType ⟨List.toArray l⟩)) (h3:o.data=.fields #[.str ⟨List.toArray l⟩ t,.int (k:Nat) 0]) (R':aE b (c.pin [(I,tv nJ k old),(nJ,o)]) g loc H s.heap m ag af)
  (hp:NP (It.next (.jF l) k H) (NS b c g loc H s Q (.jF l) k I) (NN b c g loc H s Q)) (B8:¬ l.length < k):Nx b c E (.Tuple elts tk tp) I Q s:=by
 have he:=R'.pinned (p:=(I,tv nJ k old)) (.head _)
 have ho:=R'.pinned (p:=(nJ,o)) (.tail _ (.head _))
 have uS:I≠nJ:=(b9 (gU R'.lq).1).1
 have fin:∀ {fp St} (D:Draws b.prog b.w c.A.in1 nJ fp l.toArray.size (λi v=>∃ cp u,(⟨l.toArray⟩:Str).cps[i]?=some cp∧v=.str ⟨#[cp]⟩ u) St) (hS:∀ i h,St i h↔h.IsStrIter nJ (strIterType ⟨l.toArray⟩) ⟨l.toArray⟩ t i) (Lq:I∉fp),
   Nx b c E (.Tuple elts tk tp) I Q s:=by
  intro fp St D hS Lq
  have hp:NP (some (l[k]?.map λc=>.tup [.int k,.str [c]])) (NS b c g loc H s Q (.jF l) k I) (NN b c g loc H s Q):=hp
  cases hk:l[k]? with
  |none=>
   rw [hk] at hp
   have hl:l.toArray.size≤k:=by simpa using hk
   by_cases lH:l.toArray.size=k
   ·subst lH
    exact wpAny_pyNext_enum_endD D he ((hS _ _).mpr ⟨o,ho,h2,h3⟩) λh' hx=>hp h' s.toks ⟨m,ag,af,R'.j6 λa x hn e=>hx a x (λq=>hn (by simp [q])) e⟩
   ·exact absurd (show l.length < k by simpa using Nat.lt_of_le_of_ne hl lH) B8
  |some cp=>
   rw [hk] at hp
   have lH:k < l.toArray.size:=by have:=(List.getElem?_eq_some_iff.mp hk).1;simpa using this
   refine wpAny_pyNext_enum_itemD D he ((hS _ _).mpr ⟨o,ho,h2,h3⟩) lH uS Lq λx h' KC hx N3 NB jB hsz iJ=>?_
   refine fk hx ?_;clear hx;rintro zw u N8 rfl
   have:zw=cp:=by
    have q:l.toArray[k]?=some zw:=N8
    rw [List.getElem?_toArray,hk] at q
    exact (Option.some.inj q).symm
   subst this
   refine wpAny_letOwnedTupleGo_enum N3 λuZ Mx D9=>?_
   refine cO ((hS _ _).mp NB) ?_;intro o' rh gW jZ
   have NT:I < s.heap.objs.size:=Heap.lt_size he
   have Mv:uZ.get? nJ=some o':=(D9.2 _ (Ne.symm uS)).trans rh
   have R2:aE b (c.pin [(I,tv nJ (k+1) (.str ⟨#[zw]⟩ u)),(nJ,o')]) g loc H uZ m ag af:=R'.t6 rfl (λa x hn e=>(D9.2 a (DH hn).1).trans (iJ a x (DH hn).1 (DH hn).2 e)) (all_cons Mx (all_cons Mv all_nil))
   have D8:uZ.get? s.heap.objs.size=some {cls:=.type "tuple",data:=.seq #[.int k KC,.str ⟨#[zw]⟩ u]}:=(D9.2 _ (Nat.ne_of_gt NT)).trans jB
   have R3:=R2.qp (a:=s.heap.objs.size) (R'.xR (ps':=_) rfl) (Nat.le_trans R'.above (Nat.le_of_lt R'.lt)) (Nat.ne_of_gt R'.lt) D8
   exact hp _ (.ref s.heap.objs.size) uZ _ _ (bJ g _) (.jF gW jZ) ⟨m,ag,af,R3⟩ (.tup (vs:=[.int k KC,.str ⟨#[zw]⟩ u]) (.inl (.head _)) rfl rfl rfl (.cons (.int _ _) (.cons (.str [zw] _) .nil)))
 cases ha:(⟨l.toArray⟩:Str).cps.all (· < 128) with
 |true=>
  have hT:strIterType ⟨l.toArray⟩="str_ascii_iterator":=by unfold strIterType;rw [ha];rfl
  exact fin (Draws.strAscii (A:=c.A.in1) hh nJ ⟨l.toArray⟩ t) (λi h=>by rw [hT]) (by simpa using uS)
 |false=>
  have hT:strIterType ⟨l.toArray⟩="str_iterator":=by unfold strIterType;rw [ha];rfl
  exact fin (Draws.strWide (A:=c.A.in1) hh nJ ⟨l.toArray⟩ t) (λi h=>by rw [hT]) (by simpa using uS)
theorem ik {h:Heap} {a a':Addr} {o o':Obj} {T T':String} (e:h.get? a=some o) (e':h.get? a'=some o') (q:o.cls=.type T) (q':o'.cls=.type T') (ne:T≠T'):a≠a':=λz=>by
 subst z
 rw [Option.some.inj (e.symm.trans e'),q'] at q
 exact ne (by injection q with q;exact q.symm)
theorem DI {u v:AV} {TI TO i1 i2 l1 l2:Addr} {x0 y0:Value} {o1 o2:Obj} {tk:Nat} {tp:Pos} {elts:List Expr} (hh:c.A.handled=none) (V1:ak b g u (.ref l1)) (V2:ak b g v (.ref l2)) (c1:o1.cls=.type "list_iterator") (d1:o1.data=.fields #[.ref l1,.int (k:Nat) 0]) (c2:o2.cls=.type "list_iterator") (d2:o2.data=.fields #[.ref l2,.int (k:Nat) 0])
  (R':aE b (c.pin [(I,vS TI TO),(TI,iB (.ref i1) (.ref i2)),(TO,iB x0 y0),(i1,o1),(i2,o2)]) g loc H s.heap m ag af) (hp:NP (It.next (.zip u v) k H) (NS b c g loc H s Q (.zip u v) k I) (NN b c g loc H s Q)):Nx b c E (.Tuple elts tk tp) I Q s:=by
 have p1:=R'.pinned (p:=(I,vS TI TO)) (.head _)
 have p2:=R'.pinned (p:=(TI,iB (.ref i1) (.ref i2))) (.tail _ (.head _))
 have p3:=R'.pinned (p:=(TO,iB x0 y0)) (.tail _ (.tail _ (.head _)))
 have p4:=R'.pinned (p:=(i1,o1)) (.tail _ (.tail _ (.tail _ (.head _))))
 have p5:=R'.pinned (p:=(i2,o2)) (.tail _ (.tail _ (.tail _ (.tail _ (.head _)))))
 refine gj (H7 R'.lq) ?_;rintro ⟨n1,n2,n3,n4⟩ ⟨n5,n6,n7⟩ ⟨n8,n9⟩ Na
 refine bk (HY hp) ?_;intro la lb hl hm hp
 refine ai (ud R' V1 hl) ?_;intro vs Fw Oc
 refine ai (ud R' V2 hm) ?_;intro ws IV Ob
 refine cO (id Fw) ?_;intro Pn Aq Ar _
 refine cO (id IV) ?_;intro Pl Ao Ap _
 have D:ZipApart I TI TO i1 i2 l1 l2:=⟨Ne.symm n1,Ne.symm n2,Ne.symm n3,Ne.symm n4,n5,n6,n7,n8,n9,Na,
  ik Aq p1 Ar rfl (by decide),ik Aq p3 Ar rfl (by decide),ik Aq p4 Ar c1 (by decide),ik Aq p5 Ar c2 (by decide),
  ik Ao p1 Ap rfl (by decide),ik Ao p3 Ap rfl (by decide),ik Ao p4 Ap c1 (by decide),ik Ao p5 Ap c2 (by decide)⟩
 have Ce:=lh Oc (k:=k)
 have Cd:=lh Ob (k:=k)
 have stop:((List.toArray vs)[k]?=none∨(List.toArray ws)[k]?=none)→(∀ h' t',Rep b c g loc H h'→Q none {s with heap:=h',toks:=t'})→
   Nx b c E (.Tuple elts tk tp) I Q s:=λhe hq=>
  wpAny_pyNext_zip_end hh D p1 p2 p3 ⟨_,p4,c1,d1⟩ ⟨_,p5,c2,d2⟩ Fw IV he λh' hk=>hq h' s.toks ⟨m,ag,af,R'.j6 λa x hn e=>hk a x (m5 hn).1 (m5 hn).2.1 (m5 hn).2.2.1 (m5 hn).2.2.2 e⟩
 cases xn:la[k]? with
 |none=>
  simp only [xn] at hp Ce
  exact stop (.inl Ce) hp
 |some v1=>
  cases Lo:lb[k]? with
  |none=>
   simp only [xn,Lo] at hp Cd
   exact stop (.inr Cd) hp
  |some v2=>
   simp only [xn,Lo] at hp Ce Cd
   refine ai Ce ?_;clear Ce;intro x1 Ir r1
   refine ai Cd ?_;clear Cd;intro x2 Iq r2
   refine wpAny_pyNext_zip_item D p1 p2 p3 ⟨_,p4,c1,d1⟩ ⟨_,p5,c2,d2⟩ Fw IV Ir Iq λh' q1 q2 q3 q4 q5 q6 q7=>?_
   refine wpAny_letOwnedTupleGo_zip q1 λuZ w1 w2=>?_
   refine cO q3 ?_;clear q3;intro M6 r3 r4 r5
   refine cO q4 ?_;clear q4;intro M5 s3 s4 s5
   have lz:∀ {a o},s.heap.get? a=some o→a≠s.heap.objs.size:=λe=>Nat.ne_of_lt (Heap.lt_size e)
   have R2:aE b (c.pin [(I,vS TI TO),(TI,iB (.ref i1) (.ref i2)),(TO,iB x1 x2),(i1,M6),(i2,M5)]) g loc H uZ m ag af:=R'.t6 rfl (λa x hn e=>(w2.2 a (m5 hn).1).trans (q7 a x (m5 hn).1 (m5 hn).2.1 (m5 hn).2.2.1 (m5 hn).2.2.2 e))
    (JL w1 ((w2.2 _ (Ne.symm n1)).trans (q7 _ _ (Ne.symm n1) n5 n6 n7 p2)) ((w2.2 _ (Ne.symm n2)).trans q2) ((w2.2 _ (Ne.symm n3)).trans r3) ((w2.2 _ (Ne.symm n4)).trans s3))
   have D8:uZ.get? s.heap.objs.size=some (iB x1 x2):=(w2.2 _ (Ne.symm (lz p1))).trans q5
   have R3:=R2.qp (a:=s.heap.objs.size) (R'.xR (ps':=_) rfl) (Nat.le_trans R'.above (Nat.le_of_lt R'.lt)) (Nat.ne_of_gt R'.lt) D8
   exact hp _ (.ref s.heap.objs.size) uZ s.toks _ (bJ g _) (.zip (V1.mono (bJ g _)) (V2.mono (bJ g _)) r4 r5 s4 s5) ⟨m,ag,af,R3⟩ (.tup (vs:=[x1,x2]) (.inl (.head _)) rfl rfl rfl (.cons (r1.mono (bJ g _)) (.cons (r2.mono (bJ g _)) .nil)))
variable (ht:(∃ x p,target=.Name x p)∨∃ elts k p,target=.Tuple elts k p)
include ht
theorem DM {v:AV} {ax:Addr} {o:Obj} (hh:c.A.handled=none) (V:ak b g v (.ref ax)) (h2:o.cls=.type "list_iterator") (h3:o.data=.fields #[.ref ax,.int (k:Nat) 0]) (R':aE b (c.pin [(I,o)]) g loc H s.heap m ag af)
  (hp:NP (It.next (.lst v) k H) (NS b c g loc H s Q (.lst v) k I) (NN b c g loc H s Q)):Nx b c E target I Q s:=by
 have ho:=R'.pinned (p:=(I,o)) (.head _)
 refine ai (HZ hp) ?_;intro l hl hp
 refine ai (ud R' V hl) ?_;intro vs hL hV
 refine yT hp (λv hk hp=>?_) λhk hp=>wpAny_pyNext_list_end hh ⟨o,ho,h2,h3⟩ hL (r8 hV hk) λh' he=>hp h' s.toks (mw R' he)
 refine ai (r7 hV hk) ?_;intro x hx hv
 exact wpAny_pyNext_list_item ⟨o,ho,h2,h3⟩ hL hx λh' ⟨o',rh,gW,jZ⟩ s9=>ka ht rh gW (by decide) (hp g x h' s.toks _ (.refl g) (.lst V gW jZ) (qf R' rh s9) hv)
theorem DJ {l:List AV} {ax:Addr} {o:Obj} (hh:c.A.handled=none) (V:ak b g (.tup l) (.ref ax)) (h2:o.cls=.type "tuple_iterator") (h3:o.data=.fields #[.ref ax,.int (k:Nat) 0]) (R':aE b (c.pin [(I,o)]) g loc H s.heap m ag af)
  (hp:NP (It.next (.tup l) k H) (NS b c g loc H s Q (.tup l) k I) (NN b c g loc H s Q)):Nx b c E target I Q s:=by
 have ho:=R'.pinned (p:=(I,o)) (.head _)
 refine ai (tup_is R' V) ?_;intro vs hL hV
 refine yT (o:=l[k]?) hp (λv hk hp=>?_) λhk hp=>wpAny_pyNext_tuple_end hh ⟨o,ho,h2,h3⟩ hL (r8 hV hk) λh' he=>hp h' s.toks (mw R' he)
 refine ai (r7 hV hk) ?_;intro x hx hv
 exact wpAny_pyNext_tuple_item ⟨o,ho,h2,h3⟩ hL hx λh' ⟨o',rh,gW,jZ⟩ s9=>ka ht rh gW (by decide) (hp g x h' s.toks _ (.refl g) (.tup V gW jZ) (qf R' rh s9) hv)
theorem DK {l:List Nat} {o:Obj} {t:Nat} (hh:c.A.handled=none) (h2:o.cls=.type (strIterType ⟨List.toArray l⟩)) (h3:o.data=.fields #[.str ⟨List.toArray l⟩ t,.int (k:Nat) 0]) (R':aE b (c.pin [(I,o)]) g loc H s.heap m ag af)
  (hp:NP (It.next (.str l) k H) (NS b c g loc H s Q (.str l) k I) (NN b c g loc H s Q)):Nx b c E target I Q s:=by
 have ho:=R'.pinned (p:=(I,o)) (.head _)
 refine H6 (o:=l[k]?) (f:=λc=>.str [c]) hp (λcp hk hp=>?_) λhk hp=>?_
 ·have step:∀ (h':Heap) (t':Nat) (T:String),strIterType ⟨l.toArray⟩=T→h'.IsStrIter I T ⟨l.toArray⟩ t (k+1)→Heap.SameBut I s.heap h'→
    wpAny (model b.prog b.w) c.A (letOwnedTupleGo target (.ref I) (.str ⟨#[cp]⟩ s.toks)) (λ_ cn=>Q (some (.str ⟨#[cp]⟩ s.toks)) cn) E {s with heap:=h',toks:=t'}:=by
   (intro h' t' T;rintro rfl;intro zq;(refine cO zq ?_;clear zq;intro o' rh gW jZ);intro s9)
   exact ka ht rh gW (Mk _) (hp g _ h' t' _ (.refl g) (.str gW jZ) (qf R' rh s9) (.str [cp] _))
  cases ha:(⟨l.toArray⟩:Str).cps.all (· < 128) with
  |true=>
   have hT:strIterType ⟨l.toArray⟩="str_ascii_iterator":=by unfold strIterType;rw [ha];rfl
   exact wpAny_pyNext_ascii_item ⟨o,ho,hT▸h2,h3⟩ (c:=cp) (by simpa using hk) λh' a b=>step h' _ _ hT a b
  |false=>
   have hT:strIterType ⟨l.toArray⟩="str_iterator":=by unfold strIterType;rw [ha];rfl
   exact wpAny_pyNext_wide_item ⟨o,ho,hT▸h2,h3⟩ (c:=cp) (by simpa using hk) λh' a b=>step h' _ _ hT a b
 ·cases ha:(⟨l.toArray⟩:Str).cps.all (· < 128) with
  |true=>
   have hT:strIterType ⟨l.toArray⟩="str_ascii_iterator":=by unfold strIterType;rw [ha];rfl
   exact wpAny_pyNext_ascii_end hh ⟨o,ho,hT▸h2,h3⟩ (by simpa using hk) λh' he=>hp h' s.toks (mw R' he)
  |false=>
   have hT:strIterType ⟨l.toArray⟩="str_iterator":=by unfold strIterType;rw [ha];rfl
   exact wpAny_pyNext_wide_end hh ⟨o,ho,hT▸h2,h3⟩ (by simpa using hk) λh' he=>hp h' s.toks (mw R' he)
theorem DL {a st:Int} {n:Nat} (hh:c.A.handled=none) (R':aE b (c.pin [(I,zZ (a+st * k) ((n:Int) - k) st)]) g loc H s.heap m ag af)
  (hp:NP (It.next (.ff a st n) k H) (NS b c g loc H s Q (.ff a st n) k I) (NN b c g loc H s Q)):Nx b c E target I Q s:=by
 have ho:=R'.pinned (p:=(I,zZ (a+st * k) ((n:Int) - k) st)) (.head _)
 have hp:NP (some (if k < n then some (.int (a+st * k)) else none)) (NS b c g loc H s Q (.ff a st n) k I) (NN b c g loc H s Q):=hp
 by_cases hk:k < n
 ·rw [if_pos hk] at hp
  refine wpAny_pyNext_range_item ho (Int.sub_pos_of_lt (Int.ofNat_lt.mpr hk)) λh' Ed s9=>?_
  have e1:a+st * k+st=a+st * (k+1:Nat):=by rw [Int.natCast_add,Int.mul_add,Int.add_assoc];congr 2;exact (Int.mul_one st).symm
  have e2:(n:Int) - k - 1=(n:Int) - (k+1:Nat):=Int.sub_sub _ _ _
  rw [e1,e2] at Ed
  exact ka ht Ed rfl (by decide) (hp g _ h' _ _ (.refl g) .ff (qf R' Ed s9) (.int _ _))
 ·rw [if_neg hk] at hp
  exact wpAny_pyNext_range_end hh ho (Int.sub_nonpos_of_le (Int.ofNat_le.mpr (Nat.not_lt.mp hk))) λh' he=>hp h' s.toks (mw R' he)
end
theorem yX {c:FC} (hh:c.A.handled=none) {g:Gh} {loc:Loc} {H:aa} {s:Shared} {Q:Option Value→Shared→Prop} {E:VP} {it:It} {k:Nat} {I:Addr} {ps:List (Addr×Obj)} {target:Expr} (ht:(∃ x p,target=.Name x p)∨∃ elts k p,target=.Tuple elts k p)
  (hI:ej b g it k I ps) (R:Rep b (c.pin ps) g loc H s.heap)
  (hp:NP (it.next k H) (λv=>∀ g' val h' t' ps',g.le g'→ej b g' it (k+1) I ps'→Rep b (c.pin ps') g' loc H h'→ak b g' v val→Q (some val) {s with heap:=h',toks:=t'})
   (∀ h' t',Rep b c g loc H h'→Q none {s with heap:=h',toks:=t'}))
  (B8:∀ l,it=.jF l→¬ (l.length < k))
  (hz:it.d8=true→∃ elts k p,target=.Tuple elts k p) :
  wpAny (model b.prog b.w) c.A (pyNext (.ref I)) (λr aO=>match r with |none=>Q none aO |some v=>wpAny (model b.prog b.w) c.A (letOwnedTupleGo target (.ref I) v) (λ_ cn=>Q (some v) cn) E aO) E s:=by
 refine aJ R ?_;clear R;intro m ag af R'
 have aw:NP (it.next k H) (NS b c g loc H s Q it k I) (NN b c g loc H s Q):=hp
 clear hp
 show Nx b c E target I Q s
 cases hI with
 |jF h2 h3=>(refine aJ (hz rfl) ?_;rintro elts tk tp rfl);exact DN hh h2 h3 R' aw (B8 _ rfl)
 |zip V1 V2 c1 d1 c2 d2=>(refine aJ (hz rfl) ?_;rintro elts tk tp rfl);exact DI hh V1 V2 c1 d1 c2 d2 R' aw
 |lst V h2 h3=>exact DM ht hh V h2 h3 R' aw
 |tup V h2 h3=>exact DJ ht hh V h2 h3 R' aw
 |str h2 h3=>exact DK ht hh h2 h3 R' aw
 |ff=>exact DL ht hh R' aw
end
noncomputable def It.size:It→aa→Nat
 |.lst v,H=>match itemsOf H v with
  |some l=>l.length
  |none=>0
 |.tup l,_=>l.length
 |.str l,_=>l.length
 |.ff _ _ n,_=>n
 |.jF l,_=>l.length
 |.zip u _,H=>match itemsOf H u with
  |some l=>l.length
  |none=>0
noncomputable def It.within:It→Nat→Bool
 |.jF l,k=>decide (k≤l.length)
 |_,_=>true
noncomputable def bK (tup:Bool) (tg:Loc→AV→Option Loc) (body:Loc→aa→Res (av×Loc)) (it:It):Nat→Nat→Loc→aa→Res (av×Loc)
 |0,_,_,_=>.stuck
 |f+1,k,loc,H=>match it.within k&&(!it.d8||tup),it.next k H with
  |true,some none=>.ok (.next,loc) H
  |true,some (some v)=>match tg loc v with
   |none=>.stuck
   |some loc=>(body loc H).bind λfl H=>match fl with
    |(.next,loc)=>bK tup tg body it f (k+1) loc H
    |(.ret v,loc)=>.ok (.ret v,loc) H
  |_,_=>.stuck
noncomputable def Tg.isTup {b:Base} {cs:Scope} (t:Tg b cs):Bool:=match t.py with
 |.Tuple _ _ _=>true
 |_=>false
set_option tactic.hygienic true in
theorem Tg.AW {b:Base} {cs:Scope} (t:Tg b cs) (h:t.isTup=true):∃ elts k p,t.py=.Tuple elts k p:=by
 unfold Tg.isTup at h
 split at h
 ·rename_i e k p q;exact ⟨e,k,p,q⟩
 ·cases h
section
variable {b:Base} {cs:Scope} {n:Nat}
theorem Rep.j6 {c:FC} {g:Gh} {loc:Loc} {H:aa} {h:Heap} {ps:List (Addr×Obj)} (R:Rep b (c.pin ps) g loc H h):Rep b c g loc H h:=by
 refine aJ R ?_;clear R;intro m ag af R
 exact ⟨m,ag,af,R.j6 λ_ _ _ e=>e⟩
theorem d5.j6 {c:FC} {g:Gh} {H:aa} {x:AV} {e:Addr} {h:Heap} {ps:List (Addr×Obj)} (F:d5 b (c.pin ps) g H x e h):d5 b c g H x e h:=by
 obtain q |⟨f,B,ag,af,m,d,od,hk,F⟩:=F
 ·exact .inl q
 have P:(cells g ag af (ps++c.pins)).Perm (ps++cells g ag af c.pins):=dh
 have nd:((ps++cells g ag af c.pins).map (·.1)).Nodup:=(P.map (·.1)).nodup_iff.mp F.nodup
 rw [List.map_append,List.nodup_append] at nd
 refine .inr ⟨f,B,ag,af,m,d,od,hk,{F with cell:=λp hp=>F.cell p ?_,nodup:=nd.2.1,off:=λp hp=>F.off p (P.mem_iff.mpr (List.mem_append_right _ hp))}⟩
 rcases List.mem_append.mp hp with hp |hp
 ·exact List.mem_append_left _ hp
 ·refine List.mem_append_right _ ?_
  rcases List.mem_append.mp hp with hp |hp
  ·exact List.mem_append_left _ hp
  ·exact List.mem_append_right _ (List.mem_append_right _ hp)
theorem bC.Dj {c:FC} {g:Gh} {loc:Loc} {s:Shared} {Q:Flow→Shared→Prop} {E:VP} {r:Res It} {f:It→aa→Res (av×Loc)} {Q':VP} (hp:bC b c g s (r.bind f) Q E)
  (k:∀ it H' g' I ps h0 h' t',g.le g'→Rep b c g' loc H' h0→(∀ a o,h0.get? a=some o→h'.get? a=some o)→(∀ p∈ps,h0.objs.size≤p.1∧h'.get? p.1=some p.2)→(ps.map (·.1)).Nodup→ej b g' it 0 I ps→
   bC b c g' {s with heap:=h',toks:=t'} (f it H') Q E→Q' (.ref I) {s with heap:=h',toks:=t'}):cz b c g loc s r Q' E:=by
 cases r with
 |ok it H'=>
  intro g' I ps h0 h' t' le R k1 k2 k3 hI
  have aw:bC b c g s (f it H') Q E:=hp
  exact k it H' g' I ps h0 h' t' le R k1 k2 k3 hI (aw.shift le)
 |bD x H'=>exact hp
 |stuck=>exact hp
theorem L6 {α β:Type} {M:Model} {A:Around} {t:Sem α} {f:α→Sem β} {Q:β→Shared→Prop} {E:VP} {s:Shared} {n:Nat} (hn:n≤s.toks) (h:wpAny M A t (λa s'=>wpAny M A (f a) (λy cn=>n≤cn.toks→Q y cn) E s') E s):wpAny M A t (λa s'=>wpAny M A (f a) Q E s') E s:=
 wpAny_mono (wpAny_toks_of hn h) (λ_ _ x=>r6 x.1 x.2) λ_ _ x=>x.2
theorem NP.mono {r:Option (Option AV)} {S S':AV→Prop} {N N':Prop} (h:NP r S N) (hs:∀ v,S v→S' v) (hn:N→N'):NP r S' N':=match r,h with
 |some (some v),h=>hs v h
 |some none,h=>hn h
structure FK (b:Base) (cs:Scope) (n tk:Nat) where
 c:FC
 g:Gh
 tg:Tg b cs
 body:bb b cs n tk
 it:It
 I:Addr
 s:Shared
 Q:Flow→Shared→Prop
 E:VP
section
variable {tk:Nat}
inductive FK.Inv (K:FK b cs n tk) (f:Nat):Shared→Prop
 |mk {k g1 loc1 H1 h1 t1 wA}:tk≤t1→K.g.le g1→ej b g1 K.it k K.I wA→Rep b (K.c.pin wA) g1 loc1 H1 h1→bC b K.c g1 {K.s with heap:=h1,toks:=t1} (bK K.tg.isTup K.tg.run K.body.run K.it f k loc1 H1) K.Q K.E→FK.Inv K f {K.s with heap:=h1,toks:=t1}
noncomputable def FK.err (K:FK b cs n tk):VP:=notedBy (model b.prog b.w) K.c.A K.c.env λe s'=>cameBackBy (model b.prog b.w) K.c.A K.c.env K.E e s'
def FK.fin (K:FK b cs n tk) (f:Nat) (f':Flow) (eD:Shared):Prop:=match f' with
 |.next |.cont=>∃ m,m < f+1∧K.Inv m eD
 |.brk=>K.Q .next eD
 |.ret v=>K.Q (.ret v) eD
def FK.bd (K:FK b cs n tk) (f:Nat) (cn:Shared):Prop:=wpAny (model b.prog b.w) K.c.A (execs K.body.py K.c.env) (λf' eD=>tk≤eD.toks→K.fin f f' eD) K.err cn
def FK.BA (K:FK b cs n tk) (f:Nat) (r:Option Value) (aO:Shared):Prop:=match r with
 |none=>K.Q .next aO
 |some v=>tk≤aO.toks→wpAny (model b.prog b.w) K.c.A (PySem.assign K.tg.py K.c.env v) (λ_ cn=>tk≤cn.toks→K.bd f cn) K.err aO
noncomputable def As (tup:Bool) (tg:Loc→AV→Option Loc) (body:Loc→aa→Res (av×Loc)) (it:It) (f k:Nat) (fl:av×Loc) (H:aa):Res (av×Loc):=match fl with
 |(.next,loc)=>bK tup tg body it f (k+1) loc H
 |(.ret v,loc)=>.ok (.ret v,loc) H
theorem GU {P:Res (av×Loc)→Prop} (P0:¬ P .stuck) {tup:Bool} {tg:Loc→AV→Option Loc} {body:Loc→aa→Res (av×Loc)} {it:It} {f k:Nat} {loc:Loc} {H:aa} (hp:P (bK tup tg body it (f+1) k loc H)) :
  it.within k=true∧(it.d8=true→tup=true)∧NP (it.next k H) (λv=>∃ cS,tg loc v=some cS∧P ((body cS H).bind (As tup tg body it f k))) (P (.ok (.next,loc) H)):=by
 replace hp:P (match it.within k&&(!it.d8||tup),it.next k H with
  |true,some none=>.ok (.next,loc) H
  |true,some (some v)=>match tg loc v with
   |none=>.stuck
   |some loc=>(body loc H).bind (As tup tg body it f k)
  |_,_=>.stuck):=hp
 cases hw:it.within k&&(!it.d8||tup) with
 |false=>rw [hw] at hp;exact (P0 hp).elim
 |true=>
  rw [hw] at hp
  have h2:=Bool.and_eq_true_iff.mp hw
  refine ⟨h2.1,λq=>?_,?_⟩
  ·have:=h2.2
   rw [q] at this
   exact this
  ·cases hn:it.next k H with
   |none=>rw [hn] at hp;exact (P0 hp).elim
   |some r=>
    rw [hn] at hp
    cases r with
    |none=>exact hp
    |some v=>
     show ∃ cS,_
     replace hp:P (match tg loc v with
      |none=>.stuck
      |some loc=>(body loc H).bind (As tup tg body it f k)):=hp
     cases ht:tg loc v with
     |none=>rw [ht] at hp;exact (P0 hp).elim
     |some cS=>rw [ht] at hp;exact ⟨cS,rfl,hp⟩
theorem FK.Jd (K:FK b cs n tk) (G:K.c.Good b cs n) (hc:K.c.comp=false) {g2:Gh} {sE:List (Addr×Obj)} {H2:aa} {x:AV} {e:Addr} {h2:Heap} {t2:Nat} (F2:d5 b (K.c.pin sE) g2 H2 x e h2) (hE:∀ h',d5 b K.c g2 H2 x e h'→K.E (.ref e) {K.s with heap:=h',toks:=t2}) :
  K.err (.ref e) {K.s with heap:=h2,toks:=t2}:=
 wG (s:={K.s with heap:=h2,toks:=t2}) G hc F2.j6 λh3 F3=>zA (s:={K.s with heap:=h3,toks:=t2}) G hc F3 λh4 F4=>hE h4 F4.FG
theorem FK.Hl (K:FK b cs n tk) (G:K.c.Good b cs n) (hc:K.c.comp=false) {f k:Nat} {g1 g2:Gh} {sE:List (Addr×Obj)} {h1 h3:Heap} {t1 t3:Nat} (c9:K.g.le g1) (aP:g1.le g2) (hI:ej b g2 K.it (k+1) K.I sE) {r:Res (av×Loc)} (hp:bC b K.c g1 {K.s with heap:=h1,toks:=t1} (r.bind (As K.tg.isTup K.tg.run K.body.run K.it f k)) K.Q K.E) :
  bC b (K.c.pin sE) g2 {K.s with heap:=h3,toks:=t3} r (λf' eD=>tk≤eD.toks→K.fin f f' eD) K.err:=by
 cases r with
 |stuck=>exact hp
 |bD x H4=>exact λg4 e h4 t4 kK F4=>K.Jd G hc F4 λh' F'=>hp g4 e h' t4 (aP.trans kK) F'
 |ok u H4=>
  obtain ⟨u,l⟩:=u
  cases u with
  |next=>exact λg4 h4 t4 kK R4 Nz=>⟨f,Nat.lt_succ_self f,.mk Nz ((c9.trans aP).trans kK) (hI.mono kK) R4 (bC.shift (aP.trans kK) hp)⟩
  |ret v=>exact λg4 L7 h4 t4 kK R4 V4 _=>hp g4 L7 h4 t4 (aP.trans kK) R4.j6 V4
theorem FK.turn (K:FK b cs n tk) (O:b.Ok) (G:K.c.Good b cs n) (hc:K.c.comp=false) (f:Nat) (s':Shared) (h:K.Inv (f+1) s'):tk≤s'.toks∧Nx b K.c K.err K.tg.py K.I (K.BA f) s':=by
 cases h with
 |@mk k g1 loc1 H1 h1 t1 wA za c9 Ck R1 dc=>
  refine bZ (GU (P:=λr=>bC b K.c g1 {K.s with heap:=h1,toks:=t1} r K.Q K.E) (λh=>h) dc) ?_;intro w1 w2 np
  refine ⟨za,yX (s:={K.s with heap:=h1,toks:=t1}) (c:=K.c) (Q:=K.BA f) (E:=K.err) G.hand K.tg.shape Ck R1 (np.mono (λv hv=>?_) λhn h2 t2 R2=>hn g1 h2 t2 (.refl _) R2) (λl e=>?_) λht=>K.tg.AW (w2 ht)⟩
  ·intro g2 val h2 t2 sE aP Oh R2 V2 s8
   refine ai hv ?_;clear hv;intro cS e1 hp
   refine K.tg.ok O (K.c.pin sE) g2 loc1 H1 {K.s with heap:=h2,toks:=t2} (λ_ cn=>tk≤cn.toks→K.bd f cn) K.err n v val (G.pin sE) R2 V2 ?_
   refine sY (e1 ..)▸?_
   exact λh3 t3 R3 Iv=>bb.ok O K.body (K.c.pin sE) g2 cS H1 {K.s with heap:=h3,toks:=t3} _ _ (G.pin sE) hc Iv R3 (K.Hl G hc c9 aP Oh hp)
  ·rw [e] at w1
   exact Nat.not_lt.mpr (of_decide_eq_true w1)
end
noncomputable def St.for {tk:Nat} (src:Src b cs n) (tg:Tg b cs) (body:bb b cs n tk) (p:Pos):St b cs n tk where
 py:=.For tg.py src.py body.py [] p
 run:=λloc H=>(src.run loc H).bind λit H=>bK tg.isTup tg.run body.run it (it.size H+1) 0 loc H
 ok:=λO c g loc H s Q E G hc hs R hp=>by
  refine wpAny_For (L6 hs (src.ok O c g loc H s _ E G R (hp.Dj λit H0 g0 I ps h0 h' t' BP R0 k1 k2 k3 hI xi NA=>?_))) (src.fs _)
  generalize it.size H0+1=fuel at xi
  have R1:Rep b (c.pin ps) g0 loc H0 h':=by
   refine aJ R0 ?_;clear R0;intro m ag af R0
   exact ⟨m,ag,af,R0.zF k1 (λp hp=>(k2 p hp).1) k3 λp hp=>(k2 p hp).2⟩
  refine codeAny_forLoop_any (FK.Inv ⟨c,g,tg,body,it,I,s,Q,E⟩) (λf s' h=>?_) fuel (.mk (k:=0) NA BP hI R1 xi)
  cases f with
  |zero=>cases h with |mk za c9 Ck R1 dc=>exact dc.elim
  |succ f=>
   refine aQ (FK.turn ⟨c,g,tg,body,it,I,s,Q,E⟩ O G hc f s' h) ?_;intro h1 h2
   exact wpAny_mono (wpAny_toks_of (n:=tk) h1 h2) (λr aO hr=>by
    cases r with
    |none=>exact wpAny_execs_nil hr.2
    |some v=>exact wpAny_mono (wpAny_toks_of hr.1 hr.2) (λ_ _ q=>wpAny_mono (wpAny_toks_of q.1 (q.2 q.1)) (λ_ _ q=>wpAny_mono (wpAny_toks_of q.1 (q.2 q.1)) (λ_ _ q=>q.2 q.1) λ_ _ y=>y.2) λ_ _ y=>y.2) λ_ _ y=>y.2) λ_ _ y=>y.2
end
noncomputable def fT (tup:Bool) (tg:Loc→AV→Option Loc) (elt:Loc→aa→Res AV) (it:It):Nat→Nat→Loc→List AV→aa→Res AV
 |0,_,_,_,_=>.stuck
 |f+1,k,loc,acc,H=>match it.within k&&(!it.d8||tup)&&decide (k≤65536),it.next k H with
  |true,some none=>.ok (.fl acc) H
  |true,some (some v)=>match tg loc v with
   |none=>.stuck
   |some loc=>match elt loc H with
    |.ok u H=>fT tup tg elt it f (k+1) loc (acc++[u]) H
    |_=>.stuck
  |_,_=>.stuck
noncomputable def ku (fv:List Nat) (loc:Loc):Loc:=fv.filterMap λx=>(loc.lookup x).map λv=>(x,v)
section
variable {prog:Program} {w:World} {A:Around}
theorem nZ {elt iter target:Expr} {scope:Scope} {pos:Pos} {it acc:Value} {env:Env} {R:Result→Shared→Prop} {s:Shared} (I:Nat→Shared→Prop)
  (turn:∀ n s,I n s→wpAny (model prog w) A (pyNext it) (λr aO=>match r with
   |none=>R (.ok .next) aO
   |some v=>wpAny (model prog w) A (letOwnedTupleGo target it v) (λ_ ET=>wpAny (model prog w) A (PySem.assign target env v) (λ_ cn=>
     wpAny (model prog w) A (eval elt env) (λx oG=>
       wpAny (model prog w) A (PySem.call (.builtin "list.append") [acc,x]) (λ_ Dc=>∃ m,m < n∧I m Dc) (notedBy (model prog w) A env λe s'=>R (.error e) s') oG) (notedBy (model prog w) A env λe s'=>R (.error e) s') cn)
     (notedBy (model prog w) A env λe s'=>R (.error e) s') ET) (notedBy (model prog w) A env λe s'=>R (.error e) s') aO) (notedBy (model prog w) A env λe s'=>R (.error e) s') s)
  (n:Nat) (h:I n s):codeAny (model prog w) A (.compLoop (.ListComp elt [⟨target,iter,[],0⟩] scope pos) 0 it acc env) R s:=by
 refine codeAny_loop rfl I (λn s hI=>?_) n h
 refine wpAny_noted ?_
 rewrite [compTurn_list1]
 refine wpAny_bind (wpAny_standAt (wpAny_bind (wpAny_mono (turn n s hI) (λr aO h₁=>?_) λ_ _ h'=>h')))
 cases r with
 |none=>exact wpAny_pure h₁
 |some v=>
  refine wpAny_bind (wpAny_mono h₁ (λ_ ET J8=>?_) λ_ _ h'=>h')
  exact wpAny_bind (wpAny_mono J8 (λ_ cn xb=>wpAny_bind (wpAny_bind (wpAny_mono xb (λx eD xa=>wpAny_bind (wpAny_mono xa
   (λ_ oG Mq=>wpAny_pure (wpAny_pure ⟨rfl,Mq⟩)) λ_ _ h'=>h')) λ_ _ h'=>h'))) λ_ _ h'=>h')
end
section
variable {b:Base} {cs:Scope} {n:Nat}
theorem ao.Dj {c:FC} {g:Gh} {loc:Loc} {s:Shared} {Q E:VP} {r:Res It} {f:It→aa→Res AV} {Q':VP} (hp:ao b c g loc s (r.bind f) Q E)
  (k:∀ it H' g' I ps h0 h' t',g.le g'→Rep b c g' loc H' h0→(∀ a o,h0.get? a=some o→h'.get? a=some o)→(∀ p∈ps,h0.objs.size≤p.1∧h'.get? p.1=some p.2)→(ps.map (·.1)).Nodup→ej b g' it 0 I ps→
   ao b c g' loc {s with heap:=h',toks:=t'} (f it H') Q E→Q' (.ref I) {s with heap:=h',toks:=t'}):cz b c g loc s r Q' E:=by
 cases r with
 |ok it H'=>
  intro g' I ps h0 h' t' le R k1 k2 k3 hI
  have aw:ao b c g loc s (f it H') Q E:=hp
  exact k it H' g' I ps h0 h' t' le R k1 k2 k3 hI (aw.shift le)
 |bD x H'=>exact hp
 |stuck=>exact hp
noncomputable def FC.inner (c:FC) (oL:Obj) (env:Env) (L:Addr):FC:={c.sub oL env L c.A with comp:=true}
theorem aE.but {c:FC} {g:Gh} {loc:Loc} {H:aa} {h h':Heap} {m:Str→Option Value} {ag:List (List (Addr×Obj))} {af:List (Addr×Obj)} {C:Addr} (R:aE b c g loc H h m ag af) (hs:Heap.SameBut C h h') (hL:c.L≠C) (hT:b.hT.objs.size≤C) (hC:∀ p∈cells g ag af c.pins,p.1≠C):aE b c g loc H h' m ag af:=by
 refine lB R.ns ?_;intro oL es ep h1 r
 exact {R with stays:=λa o e=>(hs.2 a λq=>by subst q;exact absurd (Heap.lt_size e) (Nat.not_lt.mpr hT)).trans (R.stays a o e),ns:=⟨oL,es,ep,(hs.2 _ hL).trans h1,r⟩,cell:=λp hp=>(hs.2 _ (hC p hp)).trans (R.cell p hp)}
theorem aE.HV {c:FC} {g:Gh} {loc:Loc} {H:aa} {h:Heap} {m:Str→Option Value} {ag:List (List (Addr×Obj))} {af:List (Addr×Obj)} {p:Addr×Obj} (R:aE b (c.pin [p]) g loc H h m ag af):aE b c {g with bF:=p::g.bF} loc H h m ag af:=by
 have le:=bJ g p
 have R0:=R.j6 (h':=h) λ_ _ _ e=>e
 have nd:((p::cells g ag af c.pins).map (·.1)).Nodup:=((dh (ps:=[p]) (pins:=c.pins)).map (·.1)).nodup_iff.mp R.nodup
 rw [List.map_cons,List.nodup_cons] at nd
 have hp:=R.pinned (p:=p) (.head _)
 have ho:=R.off p (dh.mem_iff.mpr (.head _))
 exact R0.qp (λq hq e=>nd.1 (List.mem_map.mpr ⟨q,hq,e⟩)) ho.1 ho.2 hp
theorem aE.EL {c:FC} {g:Gh} {loc:Loc} {H:aa} {h:Heap} {m:Str→Option Value} {ag:List (List (Addr×Obj))} {af:List (Addr×Obj)} (R:aE b c g loc H h m ag af) {ps:List (Addr×Obj)} (hn:∀ p∈ps,(∀ q∈cells g ag af c.pins,q.1≠p.1)∧b.hT.objs.size≤p.1∧p.1≠c.L∧h.get? p.1=some p.2) (hd:(ps.map (·.1)).Nodup):aE b (c.pin ps) g loc H h m ag af:=by
 have P:(cells g ag af (ps++c.pins)).Perm (ps++cells g ag af c.pins):=dh
 refine {stays:=R.stays,ns:=R.ns,above:=R.above,cell:=?_,nodup:=?_,off:=?_,loc:=R.loc,heap:=R.heap,bX:=R.bX,af:=R.af}
 ·intro p hp
  rcases List.mem_append.mp (P.mem_iff.mp hp) with hp |hp
  ·exact (hn p hp).2.2.2
  ·exact R.cell p hp
 ·refine (P.map (·.1)).nodup_iff.mpr ?_
  refine sY (List.map_append ..)▸?_;rewrite [List.nodup_append]
  refine ⟨hd,R.nodup,λx hx y hy e=>?_⟩
  refine ai (List.mem_map.mp hx) ?_;rintro p hp rfl
  refine ai (List.mem_map.mp hy) ?_;rintro q hq rfl
  exact (hn p hp).1 q hq e.symm
 ·intro p hp
  rcases List.mem_append.mp (P.mem_iff.mp hp) with hp |hp
  ·exact ⟨(hn p hp).2.1,(hn p hp).2.2.1⟩
  ·exact R.off p hp
theorem ua (c:FC) (ps qs:List (Addr×Obj)):(c.pin qs).pin ps=c.pin (ps++qs):=by simp [FC.pin]
set_option tactic.hygienic true in
theorem BY {c:FC} {g:Gh} {loc:Loc} {H:aa} {s:Shared} {Q E:VP} {it:It} {k:Nat} {I:Addr} {ps:List (Addr×Obj)} (hI:ej b g it k I ps) (R:Rep b (c.pin ps) g loc H s.heap) (h:Q (.ref I) s):wpAny (model b.prog b.w) c.A (pyIter (.ref I)) Q E s:=by
 refine aJ R ?_;clear R;intro m ag af R
 cases hI with
 |lst V h2 h3=>rename_i o;exact wpAny_pyIter_listiter (i:=k) ⟨_,R.pinned (p:=(I,o)) (.head _),h2,h3⟩ h
 |tup V h2 h3=>rename_i o;exact wpAny_pyIter_tupleiter (i:=k) ⟨_,R.pinned (p:=(I,o)) (.head _),h2,h3⟩ h
 |str h2 h3=>
  rename_i l o t
  have ho:=R.pinned (p:=(I,o)) (.head _)
  unfold strIterType at h2
  split at h2
  ·exact wpAny_pyIter_striter_ascii (i:=k) ⟨o,ho,h2,h3⟩ h
  ·exact wpAny_pyIter_striter_wide (i:=k) ⟨o,ho,h2,h3⟩ h
 |ff=>exact wpAny_pyIter_rangeiter (R.pinned (p:=(I,_)) (.head _)) h
 |jF h2 h3=>exact wpAny_pyIter_enum (R.pinned (p:=(I,_)) (.head _)) h
 |zip=>exact wpAny_pyIter_zip (R.pinned (p:=(I,_)) (.head _)) h
theorem uq {fv:List Nat} {loc:Loc} {k:Nat} {v:AV} (h:(ku fv loc).lookup k=some v):k∈fv∧loc.lookup k=some v:=by
 have:=mem_lookup h
 unfold ku at this
 refine ai (List.mem_filterMap.mp this) ?_;intro x hx e
 refine ai (Option.map_eq_some_iff.mp e) ?_;intro u hu e
 cases e
 exact ⟨hx,hu⟩
theorem u6 {as:Nat→Addr} (inj:∀ i j,b.nm i=b.nm j→i=j):∀ {fv:List Nat} {k:Nat},k∈fv→(fv.map λx=>(b.nm x,as x)).lookup (b.nm k)=some (as k)
 |x::fv,k,h=>by
  by_cases q:k=x
  ·subst q;simp [List.lookup_cons]
  ·refine sY (List.map_cons ..)▸?_;refine sY (bj (λe=>q (inj _ _ e)) ..)▸?_
   exact u6 inj (by rcases List.mem_cons.mp h with e |h;exact absurd e q;exact h)
noncomputable def jq (tup:Bool) (tg:Loc→AV→Option Loc) (elt:Loc→aa→Res AV) (src:Loc→aa→Res It) (fv:List Nat) (loc:Loc) (H:aa):Res AV:=match fv.all λx=>(loc.lookup x).isSome with
 |true=>(src loc H).bind λit H=>fT tup tg elt it (it.size H+1) 0 (ku fv loc) [] H
 |false=>.stuck
section
variable {b:Base} {cs:Scope} {n:Nat}
structure CC (b:Base) (cs:Scope) (n:Nat) where
 c:FC
 elt:Ex b cs n
 tg:Tg b cs
 g0:Gh
 it:It
 Ia:Addr
 D:Addr
 s:Shared
 P:Gh→Res AV→Prop
 R:Result→Shared→Prop
inductive CC.Inv (K:CC b cs n) (f:Nat):Shared→Prop
 |mk {k g1 loc1 H1 hh tt wA acc ys kk}:K.g0.le g1→ej b g1 K.it k K.Ia wA→Rep b ((K.c.pin [(K.D,bG ys kk)]).pin wA) g1 loc1 H1 hh→aX b g1 acc ys→ys.length=k→K.P g1 (fT K.tg.isTup K.tg.run K.elt.run K.it f k loc1 acc H1)→CC.Inv K f {K.s with heap:=hh,toks:=tt}
noncomputable def CC.err (K:CC b cs n):VP:=notedBy (model b.prog b.w) K.c.A K.c.env λe s'=>K.R (.error e) s'
def CC.app (K:CC b cs n) (f:Nat) (x:Value) (oG:Shared):Prop:=wpAny (model b.prog b.w) K.c.A (PySem.call (.builtin "list.append") [.ref K.D,x]) (λ_ Dc=>∃ m,m < f+1∧K.Inv m Dc) K.err oG
def CC.elts (K:CC b cs n) (f:Nat) (cn:Shared):Prop:=wpAny (model b.prog b.w) K.c.A (eval K.elt.py K.c.env) (λx oG=>K.app f x oG) K.err cn
def CC.asg (K:CC b cs n) (f:Nat) (v:Value) (aO:Shared):Prop:=wpAny (model b.prog b.w) K.c.A (PySem.assign K.tg.py K.c.env v) (λ_ cn=>K.elts f cn) K.err aO
def CC.BA (K:CC b cs n) (f:Nat) (r:Option Value) (aO:Shared):Prop:=match r with
 |none=>K.R (.ok .next) aO
 |some v=>K.asg f v aO
theorem CG {P:Res AV→Prop} (P0:¬ P .stuck) {tup:Bool} {tg:Loc→AV→Option Loc} {elt:Loc→aa→Res AV} {it:It} {f k:Nat} {loc:Loc} {acc:List AV} {H:aa} (hp:P (fT tup tg elt it (f+1) k loc acc H)) :
  it.within k=true∧(it.d8=true→tup=true)∧k≤65536∧NP (it.next k H) (λv=>∃ cS u H4,tg loc v=some cS∧elt cS H=.ok u H4∧P (fT tup tg elt it f (k+1) cS (acc++[u]) H4)) (P (.ok (.fl acc) H)):=by
 replace hp:P (match it.within k&&(!it.d8||tup)&&decide (k≤65536),it.next k H with
  |true,some Option.none=>.ok (.fl acc) H
  |true,some (some v)=>match tg loc v with
   |Option.none=>.stuck
   |some loc=>match elt loc H with
    |.ok u H=>fT tup tg elt it f (k+1) loc (acc++[u]) H
    |_=>.stuck
  |_,_=>.stuck):=hp
 cases hw:it.within k&&(!it.d8||tup)&&decide (k≤65536) with
 |false=>rw [hw] at hp;exact (P0 hp).elim
 |true=>
  rw [hw] at hp
  have h1:=Bool.and_eq_true_iff.mp hw
  have h2:=Bool.and_eq_true_iff.mp h1.1
  refine ⟨h2.1,λq=>?_,of_decide_eq_true h1.2,?_⟩
  ·have:=h2.2
   rw [q] at this
   exact this
  ·cases hn:it.next k H with
   |none=>rw [hn] at hp;exact (P0 hp).elim
   |some r=>
    rw [hn] at hp
    cases r with
    |none=>exact hp
    |some v=>
     show ∃ cS u H4,_
     replace hp:P (match tg loc v with
      |Option.none=>.stuck
      |some loc=>match elt loc H with
       |.ok u H=>fT tup tg elt it f (k+1) loc (acc++[u]) H
       |_=>.stuck):=hp
     cases ht:tg loc v with
     |none=>rw [ht] at hp;exact (P0 hp).elim
     |some cS=>
      rw [ht] at hp
      replace hp:P (match elt cS H with
       |.ok u H=>fT tup tg elt it f (k+1) cS (acc++[u]) H
       |_=>.stuck):=hp
      cases he:elt cS H with
      |stuck=>rw [he] at hp;exact (P0 hp).elim
      |bD x H4=>rw [he] at hp;exact (P0 hp).elim
      |ok u H4=>rw [he] at hp;exact ⟨cS,u,H4,rfl,he,hp⟩
theorem CC.CM (K:CC b cs n) {f k kk t:Nat} {g:Gh} {loc:Loc} {H:aa} {h:Heap} {ps:List (Addr×Obj)} {acc:List AV} {ys:List Value} {u:AV} {w:Value} (le:K.g0.le g) (hI:ej b g K.it (k+1) K.Ia ps) (R:Rep b ((K.c.pin [(K.D,bG ys kk)]).pin ps) g loc H h) (hV:aX b g acc ys) (V:ak b g u w) (hk:ys.length=k) (hz:k≤65536)
  (hp:K.P g (fT K.tg.isTup K.tg.run K.elt.run K.it f (k+1) loc (acc++[u]) H)):K.app f w {K.s with heap:=h,toks:=t}:=by
 refine aJ R ?_;clear R;intro m ag af R
 rw [ua] at R
 have hD:=R.pinned (p:=(K.D,bG ys kk)) (List.mem_append_right _ (.head _))
 refine wpAny_list_append_plain (items:=ys.toArray) ⟨kk,hD⟩ (λLC ui IA=>?_) (by rw [List.size_toArray,hk];exact Nat.le_trans hz (by decide))
 refine bg ui ?_;clear ui;intro K5 ui
 have ui:LC.get? K.D=some (bG (ys++[w]) K5):=by rw [ui,List.push_toArray]
 have nd:=R.lq
 have OW:=R.t6 (h':=LC) (ps':=ps++[(K.D,bG (ys++[w]) K5)]) (by rw [List.map_append,List.map_append];rfl) (λa o hn e=>(IA.2 a λq=>hn (by rw [q,List.map_append];exact List.mem_append_right _ (.head _))).trans e) (λp hp=>by
  rcases List.mem_append.mp hp with hp |hp
  ·refine (IA.2 _ λq=>?_).trans (R.pinned (List.mem_append_left _ hp))
   rw [List.map_append,List.nodup_append] at nd
   exact nd.2.2 _ (List.mem_map_of_mem hp) _ (.head _) q
  ·rw [List.mem_singleton.mp hp];exact ui)
 exact ⟨f,Nat.lt_succ_self f,.mk le hI ⟨m,ag,af,by rw [ua];exact OW⟩ (.of (hV.all.append (.cons V .nil))) (by rw [List.length_append,hk];rfl) hp⟩
theorem CC.turn (K:CC b cs n) (O:b.Ok) (P0:∀ g,¬ K.P g .stuck) (Pm:∀ {g1 g2 r},g1.le g2→K.P g1 r→K.P g2 r) (G:K.c.Good b cs n)
  (fin:∀ {g1 loc1 H1 h8 t8 acc ys kk},K.g0.le g1→K.P g1 (.ok (.fl acc) H1)→aX b g1 acc ys→Rep b (K.c.pin [(K.D,bG ys kk)]) g1 loc1 H1 h8→K.R (.ok .next) {K.s with heap:=h8,toks:=t8}) (f:Nat) (s':Shared) (h:K.Inv (f+1) s') :
  Nx b K.c K.err K.tg.py K.Ia (K.BA f) s':=by
 cases h with
 |@mk k g1 loc1 H1 hh tt wA acc ys kk c9 Ck R7 hV hk dc=>
  refine gj (CG (P0 _) dc) ?_;intro w1 w2 w3 np
  refine yX (c:=K.c.pin [(K.D,bG ys kk)]) (Q:=K.BA f) (E:=K.err) (s:={K.s with heap:=hh,toks:=tt}) G.hand K.tg.shape Ck R7 (np.mono (λv hv=>?_) λhn=>?_) (λl e=>?_) λht=>K.tg.AW (w2 ht)
  ·intro g2 val h8 t8 HS aP Og R8 V8
   refine Ae hv ?_;clear hv;intro cS u H4 e1 e2 hp
   have G8:=(G.pin [(K.D,bG ys kk)]).pin HS
   refine K.tg.ok O ((K.c.pin [(K.D,bG ys kk)]).pin HS) g2 loc1 H1 {K.s with heap:=h8,toks:=t8} (λ_ cn=>K.elts f cn) K.err n v val G8 R8 V8 ?_
   refine sY (e1 ..)▸?_
   intro h9 t9 R9
   refine K.elt.ok O ((K.c.pin [(K.D,bG ys kk)]).pin HS) g2 cS H1 {K.s with heap:=h9,toks:=t9} (λx oG=>K.app f x oG) K.err G8 R9 ?_
   refine sY (e2 ..)▸?_
   intro g4 w rj KH kK vm OU
   exact K.CM ((c9.trans aP).trans kK) (Og.mono kK) vm (.of (hV.all.imp λ_ _=>ak.mono (aP.trans kK))) OU hk w3 (Pm (aP.trans kK) hp)
  ·exact λh8 t8 R8=>fin c9 hn hV R8
  ·rw [e] at w1
   exact Nat.not_lt.mpr (of_decide_eq_true w1)
theorem CC.loop (K:CC b cs n) (O:b.Ok) (P0:∀ g,¬ K.P g .stuck) (Pm:∀ {g1 g2 r},g1.le g2→K.P g1 r→K.P g2 r) (G:K.c.Good b cs n)
  (fin:∀ {g1 loc1 H1 h8 t8 acc ys kk},K.g0.le g1→K.P g1 (.ok (.fl acc) H1)→aX b g1 acc ys→Rep b (K.c.pin [(K.D,bG ys kk)]) g1 loc1 H1 h8→K.R (.ok .next) {K.s with heap:=h8,toks:=t8}) {iter:Expr} {sc:Scope} {pos:Pos} {fuel:Nat} {s':Shared} (h:K.Inv fuel s') :
  codeAny (model b.prog b.w) K.c.A (.compLoop (.ListComp K.elt.py [⟨K.tg.py,iter,[],0⟩] sc pos) 0 (.ref K.Ia) (.ref K.D) K.c.env) K.R s':=by
 refine nZ K.Inv (λf s' h=>?_) fuel h
 cases f with
 |zero=>cases h with |mk c9 Ck R7 hV hk dc=>exact (P0 _ dc).elim
 |succ f=>exact wpAny_mono (K.turn O P0 Pm G fin f s' h) (λr aO hr=>by cases r with |none=>exact hr |some v=>exact hr) λ_ _ y=>y
end
theorem vg (O:b.Ok) {cs':Scope} (elt:Ex b cs' n) (tg:Tg b cs') (src:Src b cs n) (fv:List Nat) (sc:Scope) (pos:Pos)
  (uh:∀ env:Env,env.scope=cs→relabel sc env=cs')
  (xx:∀ (env:Env) (as:Nat→Addr),env.scope=cs→(∀ x∈fv,env.cells.lookup (b.nm x)=some (as x))→closureFor sc env=pure (fv.map λx=>(b.nm x,as x)))
  (ze:∀ x∈fv,cs.names.lookup (b.nm x)=some .cell∧cs'.names.lookup (b.nm x)=some .cell)
  (nh:sc.kind=.function) (fq:∀ y∈sc.names,y.2≠.cell) (pw:∀ y∈sc.names,y.2=.local→sc.names.lookup y.1=some .local)
  {c:FC} {g:Gh} {loc:Loc} {H:aa} {s:Shared} {Q E:VP} {cp:Pos} (use:Option (Value→Sem Unit)) (P:Gh→Res AV→Prop) (P0:∀ g,¬ P g .stuck) (Pm:∀ {g1 g2 r},g1.le g2→P g1 r→P g2 r)
  (G:c.Good b cs n) (R:Rep b c g loc H s.heap) (xB:(fv.all λx=>(loc.lookup x).isSome)=true)
  (Ms:∀ Q':VP,(∀ it H0 g0 I ps h0 h1 t1,g.le g0→Rep b c g0 loc H0 h0→(∀ a o,h0.get? a=some o→h1.get? a=some o)→(∀ p∈ps,h0.objs.size≤p.1∧h1.get? p.1=some p.2)→(ps.map (·.1)).Nodup→ej b g0 it 0 I ps→
   P g0 (fT tg.isTup tg.run elt.run it (it.size H0+1) 0 (ku fv loc) [] H0)→Q' (.ref I) {s with heap:=h1,toks:=t1})→cz b c g loc s (src.run loc H) Q' E)
  (fin:∀ {g9 v H1 D C m8 h8 t8 Ig vP vN},g.le g9→P g9 (.ok v H1)→h8.Ns C m8→c.L≠C→b.hT.objs.size≤C→aE b c g9 loc H1 h8 Ig vP vN→(∀ p∈cells g9 vP vN c.pins,p.1≠C)→ak b g9 v (.ref D)→
   compPost (model b.prog b.w) c.A E use Q (.ref D) C (.ok .next) {s with heap:=h8,toks:=t8}) :
  wpAny (model b.prog b.w) c.A (comprehension (.ListComp elt.py [⟨tg.py,src.py,[],0⟩] sc pos) sc c.env cp (newList []) false (eval src.py c.env) use) Q E s:=by
  have jC:∃ as:Nat→Addr,∀ x∈fv,∃ v,loc.lookup x=some v∧c.env.cells.lookup (b.nm x)=some (as x)∧∃ o val,eP b g (as x) o∧o.data=.cell (some val)∧ak b g v val:=by
   refine aJ R ?_;clear R;intro m ag af R'
   have:∀ x,∃ a,x∈fv→∃ v,loc.lookup x=some v∧c.env.cells.lookup (b.nm x)=some a∧∃ o val,eP b g a o∧o.data=.cell (some val)∧ak b g v val:=by
    intro x
    by_cases hx:x∈fv
    ·have h1:=List.all_eq_true.mp xB x hx
     refine bg (Option.isSome_iff_exists.mp h1) ?_;intro v hv
     refine ai (R'.loc x v hv) ?_;intro val k1 k2
     rcases k1 with ⟨k1,_⟩ |⟨_,a,o,q1,q2,q3⟩
     ·have K6:c.env.scope.names.lookup (b.nm x)=some .local:=k1
      rw [G.sc,(ze x hx).1] at K6
      cases K6
     ·exact ⟨a,λ_=>⟨v,hv,q1,o,val,q2,q3,k2⟩⟩
    ·exact ⟨0,λh=>absurd h hx⟩
   exact ⟨λx=>(this x).choose,λx hx=>(this x).choose_spec hx⟩
  refine bg jC ?_;clear jC;intro as has
  have Kb:=xx c.env as G.sc λx hx=>(has x hx).choose_spec.2.1
  refine wpAny_comprehension_free (use:=use) rfl (src.fs _) Kb nh pw (src.ok O c g loc H s _ E G R (Ms _ λit H0 g0 Ia ps h0 h1 t1 BP R0 k1 k2 k3 hI xi=>?_))
  generalize it.size H0+1=fuel at xi
  refine wpAny_newObj_type (wpAny_newFunctionEnv fq (by intro y hy;simp at hy) (λh3 ee Ff=>?_) nh)
  dsimp only at ee Ff ⊢
  generalize IW:h1.push {cls:=.type "list",dict:=Option.none,data:=.seq ([]:List Value).toArray}=H2 at ee Ff ⊢
  have hC:H2.objs.size=h1.objs.size+1:=by rw [← IW,Heap.size_push]
  have kH:∀ a o,h1.get? a=some o→h3.get? a=some o:=λa o e=>Ff.extBut a o (by rw [hC];exact Nat.ne_of_lt (Nat.lt_succ_of_lt (Heap.lt_size e))) (Heap.get?_push_of_some _ (IW▸Heap.get?_push_of_some _ e))
  have hD:h3.get? h1.objs.size=some (bG [] 0):=Ff.extBut _ _ (by rw [hC];exact Nat.ne_of_lt (Nat.lt_succ_self _)) (Heap.get?_push_of_some _ (IW▸Heap.get?_push_size _ rfl))
  have kc:c.env.scope.kind=.function:=by rw [G.sc];exact G.kind
  have DX:h0.objs.size≤h1.objs.size:=by
   obtain ⟨p,hp⟩:∃ p,p∈ps:=by cases hI<;>exact ⟨_,.head _⟩
   exact Nat.le_trans (k2 p hp).1 (Nat.le_of_lt (Heap.lt_size (k2 p hp).2))
  have IX:h0.objs.size≤H2.objs.size:=by rw [hC];exact Nat.le_succ_of_le DX
  refine sI (vd (env:=compEnvC sc (fv.map λx=>(b.nm x,as x)) H2.objs.size c.env) (L':=H2.objs.size) (A':=c.A) kc G.frame R0 IX ee (λa o e=>kH a o (k1 a o e))) ?_;intro oL mL ag af O3 Cj R2 lH back
  generalize nj:compEnvC sc (fv.map λx=>(b.nm x,as x)) H2.objs.size c.env=hW at R2 back lH
  have eL:(c.inner oL hW H2.objs.size).L=H2.objs.size:=by unfold FC.inner FC.sub;cases c.comp<;>rfl
  have eE:(c.inner oL hW H2.objs.size).env=hW:=by unfold FC.inner FC.sub;cases c.comp<;>rfl
  have eA:(c.inner oL hW H2.objs.size).A=c.A:=by unfold FC.inner FC.sub;cases c.comp<;>rfl
  have eF:c.A.frames=some ((c.inner oL hW H2.objs.size).outer.map (·.1)):=by
   rw [G.frames];unfold FC.inner FC.sub;cases c.comp<;>rfl
  have CE:hW.scope=cs':=by rw [← nj];exact uh c.env G.sc
  have Ko:cs'.kind=.function:=by rw [← uh c.env G.sc];exact nh
  have G2:(c.inner oL hW H2.objs.size).Good b cs' n:=by
   refine ⟨by rw [eE];exact CE,Ko,by rw [eE,eL,← nj];rfl,λh=>Bool.noConfusion (show true=false from h),by rw [eA,eF];rfl,by rw [eA];exact G.hand,by rw [eA];exact G.depth,by rw [eA];exact G.units,?_,?_⟩
   ·rw [eE,← nj];exact G.glob
   ·rw [eE,← nj];exact G.blt
  have R3:aE b (c.inner oL hW H2.objs.size) g0 [] H0 h3 _ ag af:={R2 with}
  have IE:∀ q∈cells g0 ag af (c.inner oL hW H2.objs.size).pins,q.1 < h0.objs.size:=lH
  have KL:∀ p∈ps,p.1 < h1.objs.size:=λp hp=>Heap.lt_size (k2 p hp).2
  have IU:b.hT.objs.size≤h0.objs.size:=by
   refine aJ R0 ?_;clear R0;intro m ag af R0
   exact Nat.le_trans R0.above (Nat.le_of_lt R0.lt)
  have R4:=R3.EL (ps:=ps++[(h1.objs.size,bG [] 0)]) (λp hp=>by
   rcases List.mem_append.mp hp with hp |hp
   ·refine ⟨λq hq=>Nat.ne_of_lt (Nat.lt_of_lt_of_le (IE q hq) (k2 p hp).1),Nat.le_trans IU (k2 p hp).1,by rw [eL,hC];exact Nat.ne_of_lt (Nat.lt_succ_of_lt (KL p hp)),kH _ _ (k2 p hp).2⟩
   ·simp only [List.mem_singleton] at hp
    subst hp
    exact ⟨λq hq=>Nat.ne_of_lt (Nat.lt_of_lt_of_le (IE q hq) DX),Nat.le_trans IU DX,by rw [eL,hC];exact Nat.ne_of_lt (Nat.lt_succ_self _),hD⟩) (by
   refine sY (List.map_append ..)▸?_;rewrite [List.nodup_append]
   refine ⟨k3,by simp,λx hx y hy e=>?_⟩
   refine ai (List.mem_map.mp hx) ?_;rintro p hp rfl
   simp only [List.map_cons,List.map_nil,List.mem_singleton] at hy
   subst hy
   exact absurd e (Nat.ne_of_lt (KL p hp)))
  have R5:=R4.Bk (loc':=ku fv loc) λk v e=>by
   refine aQ (uq e) ?_;intro hk hv
   obtain ⟨v',uY,gW,o,val,jZ,Fz,th⟩:=has k hk
   rw [hv] at uY
   cases uY
   refine ⟨val,.inr ⟨?_,as k,o,?_,jZ.mono BP,Fz⟩,th.mono BP⟩
   ·show (c.inner oL hW H2.objs.size).env.scope.names.lookup _=_
    rw [eE,CE];exact (ze k hk).2
   ·show (c.inner oL hW H2.objs.size).env.cells.lookup _=_
    refine sY (eE ..)▸?_;refine (nj ..)▸?_
    exact u6 O.inj hk
  generalize Lr:c.inner oL hW H2.objs.size=c2 at R5 G2 eL eE eA back
  have R6:Rep b ((c2.pin [(h1.objs.size,bG [] 0)]).pin ps) g0 (ku fv loc) H0 h3:=⟨_,ag,af,by rw [ua];exact R5⟩
  have loop:codeAny (model b.prog b.w) c.A (.compLoop (.ListComp elt.py [⟨tg.py,src.py,[],0⟩] sc pos) 0 (.ref Ia) (.ref h1.objs.size) hW) (compPost (model b.prog b.w) c.A E use Q (.ref h1.objs.size) H2.objs.size) {s with heap:=h3,toks:=t1+([]:List (Str×Value)).length}:=by
   have lp:=CC.loop ⟨c2,elt,tg,g0,it,Ia,h1.objs.size,s,P,compPost (model b.prog b.w) c.A E use Q (.ref h1.objs.size) H2.objs.size⟩ O P0 Pm G2 (λ{g1 loc1 H1 h8 t8 acc ys kk} c9 dc hV R8=>by
    refine aJ R8 ?_;clear R8;intro m8 ME MB R8
    have R9:=R8.HV
    have E9:=bJ g1 (h1.objs.size,bG ys kk)
    refine Ae (back (l2:=loc1) (c9.trans E9) ⟨m8,ME,MB,by subst Lr;exact {R9 with}⟩) ?_;intro Ig vP vN vm Mz MA
    exact fin ((BP.trans c9).trans E9) (Pm E9 dc) (by have:=R9.ns;rw [eL] at this;exact this) (Nat.ne_of_lt (Nat.lt_of_lt_of_le Mz IX)) (Nat.le_trans IU IX) vm MA (.fl (.inl (.head _)) rfl rfl rfl (.of (hV.all.imp λ_ _=>ak.mono E9)))) (iter:=src.py) (sc:=sc) (pos:=pos) (fuel:=fuel) (s':={s with heap:=h3,toks:=t1+([]:List (Str×Value)).length}) (.mk (.refl _) hI R6 .nil rfl xi)
   have lp:codeAny (model b.prog b.w) c2.A (.compLoop (.ListComp elt.py [⟨tg.py,src.py,[],0⟩] sc pos) 0 (.ref Ia) (.ref h1.objs.size) c2.env) (compPost (model b.prog b.w) c.A E use Q (.ref h1.objs.size) H2.objs.size) {s with heap:=h3,toks:=t1+([]:List (Str×Value)).length}:=lp
   rw [eA,eE] at lp
   exact lp
  refine codeAny_compStart_list ?_ ?_
  ·rw [← nj] at loop;exact loop
  ·have is:=BY (Q:=λNq s'=>codeAny (model b.prog b.w) c.A (.compLoop (.ListComp elt.py [⟨tg.py,src.py,[],0⟩] sc pos) 0 Nq (.ref h1.objs.size) hW) (compPost (model b.prog b.w) c.A E use Q (.ref h1.objs.size) H2.objs.size) s') (E:=notedBy (model b.prog b.w) c.A hW λe s'=>compPost (model b.prog b.w) c.A E use Q (.ref h1.objs.size) H2.objs.size (.error e) s') (s:={s with heap:=h3,toks:=t1+([]:List (Str×Value)).length}) (c:=c2.pin [(h1.objs.size,bG [] 0)]) hI R6 loop
   have OG:(c2.pin [(h1.objs.size,bG [] 0)]).A=c.A:=eA
   rw [OG,← nj] at is
   exact is
noncomputable def Ex.comp {cs':Scope} (elt:Ex b cs' n) (tg:Tg b cs') (src:Src b cs n) (fv:List Nat) (sc:Scope) (pos:Pos)
  (uh:∀ env:Env,env.scope=cs→relabel sc env=cs')
  (xx:∀ (env:Env) (as:Nat→Addr),env.scope=cs→(∀ x∈fv,env.cells.lookup (b.nm x)=some (as x))→closureFor sc env=pure (fv.map λx=>(b.nm x,as x)))
  (ze:∀ x∈fv,cs.names.lookup (b.nm x)=some .cell∧cs'.names.lookup (b.nm x)=some .cell)
  (nh:sc.kind=.function) (fq:∀ y∈sc.names,y.2≠.cell) (pw:∀ y∈sc.names,y.2=.local→sc.names.lookup y.1=some .local):Ex b cs n where
 py:=.ListComp elt.py [⟨tg.py,src.py,[],0⟩] sc pos
 run:=jq tg.isTup tg.run elt.run src.run fv
 ok:=λO c g loc H s Q E G R hp=>by
  rewrite [eval_ListComp]
  unfold jq at hp
  split at hp
  ·rename_i xB
   exact vg O elt tg src fv sc pos uh xx ze nh fq pw Option.none (λg r=>ao b c g loc s r Q E) (λ_ h=>h.elim) (λle h=>h.shift le) G R xB
    (λQ' k=>hp.Dj λit H0 g0 I ps h0 h1 t1 le R0 k1 k2 k3 hI xi=>k it H0 g0 I ps h0 h1 t1 le R0 k1 k2 k3 hI (xi.shift (h':=s.heap) (t':=s.toks) (.refl _)))
    (λle hP ee hL hT vm hC V=>⟨_,ee,λh9 Iz=>hP _ _ h9 _ (.refl _) ⟨_,_,_,vm.but Iz hL hT hC⟩ V⟩)
  ·exact hp.elim
noncomputable def St.AI {tk:Nat} {cs':Scope} (x:Lv b cs) (xp:Pos) (elt:Ex b cs' n) (tg:Tg b cs') (src:Src b cs n) (fv:List Nat) (sc:Scope) (pos p:Pos)
  (uh:∀ env:Env,env.scope=cs→relabel sc env=cs')
  (xx:∀ (env:Env) (as:Nat→Addr),env.scope=cs→(∀ x∈fv,env.cells.lookup (b.nm x)=some (as x))→closureFor sc env=pure (fv.map λx=>(b.nm x,as x)))
  (ze:∀ x∈fv,cs.names.lookup (b.nm x)=some .cell∧cs'.names.lookup (b.nm x)=some .cell)
  (nh:sc.kind=.function) (fq:∀ y∈sc.names,y.2≠.cell) (pw:∀ y∈sc.names,y.2=.local→sc.names.lookup y.1=some .local)
  (B9:∀ env:Env,env.scope=cs→swapsWith (.ListComp elt.py [⟨tg.py,src.py,[],0⟩] sc pos) (some (.Name (b.nm x.x) xp)) p.line env=pure true):St b cs n tk where
 py:=.Assign [.Name (b.nm x.x) xp] (.ListComp elt.py [⟨tg.py,src.py,[],0⟩] sc pos) p
 run:=λloc H=>(jq tg.isTup tg.run elt.run src.run fv loc H).bind λv H=>.ok (.next,(x.x,v)::loc) H
 ok:=λO c g loc H s Q E G hc _ R hp=>by
  refine sY (exec_Assign_Name_used _ _ _ _ (B9 c.env G.sc) ..)▸?_
  refine wpAny_bind (wpAny_standAt (wpAny_bind ?_))
  show wpAny _ c.A (do let _ ← comprehension (.ListComp elt.py [⟨tg.py,src.py,[],0⟩] sc pos) sc c.env _ (newList []) false (eval src.py c.env) (some (PySem.assign (.Name (b.nm x.x) xp) c.env))) _ _ s
  dsimp only at hp
  unfold jq at hp
  split at hp
  ·rename_i xB
   refine wpAny_bind (wpAny_mono (vg (Q:=λ_ s'=>Q .next s') O elt tg src fv sc pos uh xx ze nh fq pw (some (PySem.assign (.Name (b.nm x.x) xp) c.env)) (λg r=>bC b c g s (r.bind λv H=>.ok (.next,(x.x,v)::loc) H) Q E) (λ_ h=>h.elim) (λle h=>bC.shift (h':=s.heap) (t':=s.toks) le h) G R xB
    (λQ' k=>by
     revert hp
     cases q:src.run loc H with
     |stuck=>intro hp;exact hp
     |bD y H'=>intro hp;exact hp
     |ok it H0=>
      intro hp g0 I ps h0 h1 t1 le R0 k1 k2 k3 hI
      exact k it H0 g0 I ps h0 h1 t1 le R0 k1 k2 k3 hI (bC.shift (h':=s.heap) (t':=s.toks) le hp))
    (λ{g9 v H1 D C m8 h8 t8 Ig vP vN} le hP ee hL hT vm hC V=>?_)) (λ_ s' hq=>wpAny_pure (wpAny_pure hq)) λ_ _ e=>e)
   have hk:c.env.scope=cs:=G.sc
   have hx:c.env.kindOf (b.nm x.x)=some .local:=by show c.env.scope.names.lookup _=_;rw [hk];exact x.h
   refine wpAny_assign_Name (wpAny_storeName_local hx (by rw [G.locals];exact vm.ns) (λh2 hn hs=>?_) (by rw [hk,G.kind];rfl))
   rw [G.locals] at hn hs
   exact ⟨m8,ee.sameBut hs (Ne.symm hL),λh9 Iz=>hP g9 h9 _ (.refl _) ⟨_,_,_,(vm.store O.inj V hx hn hs).but Iz hL hT hC⟩⟩
  ·exact hp.elim
end
section
variable {b:Base} {cs:Scope} {n:Nat}
theorem ic {c:FC} {g:Gh} {loc:Loc} {H:aa} {h h':Heap} {a:Addr} {o:Obj} (R:Rep b c g loc H h) (k:∀ a o,h.get? a=some o→h'.get? a=some o) (hn:h.objs.size≤a) (ha:h'.get? a=some o):Rep b c {g with bF:=(a,o)::g.bF} loc H h':=by
 refine aJ R ?_;clear R;intro m ag af R
 exact ⟨m,ag,af,R.Ju k hn ha⟩
noncomputable def Ex.tup (es:bx b cs n) (k:Nat) (p:Pos):Ex b cs n where
 py:=.Tuple es.py k p
 run:=λloc H=>(es.vals loc H).bind λvs H=>if vs.length≤aq then .ok (.tup vs) H else .stuck
 ok:=λO c g loc H s Q E G R hp=>wpAny_Tuple_spliced (bx.p7 O p es c g loc H s _ E G R (hp.jO λvs H' g' vals h' t' le R' V aw=>by
  split at aw
  ·rename_i hz
   refine ⟨by rw [← V.length];exact hz,?_⟩
   have aP:=bJ g' (h'.objs.size,i8 vals 0)
   exact aw _ _ _ t' aP (ic R' (λ_ _ e=>Heap.get?_push_of_some _ e) (Nat.le_refl _) (Heap.get?_push_size _ rfl)) (.tup (.inl (.head _)) rfl rfl rfl (.of (V.all.imp λ_ _=>ak.mono aP)))
  ·exact aw.elim))
noncomputable def Ex.lst (es:bx b cs n) (p:Pos):Ex b cs n where
 py:=.List es.py p
 run:=λloc H=>(es.vals loc H).bind λvs H=>if vs.length≤aq then .ok (.fl vs) H else .stuck
 ok:=λO c g loc H s Q E G R hp=>wpAny_List_spliced (bx.p7 O p es c g loc H s _ E G R (hp.jO λvs H' g' vals h' t' le R' V aw=>by
  split at aw
  ·rename_i hz
   refine ⟨by rw [← V.length];exact hz,?_⟩
   have aP:=bJ g' (h'.objs.size,bG vals 0)
   exact aw _ _ _ t' aP (ic R' (λ_ _ e=>Heap.get?_push_of_some _ e) (Nat.le_refl _) (Heap.get?_push_size _ rfl)) (.fl (.inl (.head _)) rfl rfl rfl (.of (V.all.imp λ_ _=>ak.mono aP)))
  ·exact aw.elim))
noncomputable def Ex.newList (es:bx b cs n) (p:Pos):Ex b cs n where
 py:=.List es.py p
 run:=λloc H=>(es.vals loc H).bind λvs H=>if vs.length≤aq then .ok (.ref H.length) (H++[.list vs]) else .stuck
 ok:=λO c g loc H s Q E G R hp=>wpAny_List_spliced (bx.p7 O p es c g loc H s _ E G R (hp.jO λvs H' g' vals h' t' le R' V aw=>by
  split at aw
  ·rename_i hz
   refine ⟨by rw [← V.length];exact hz,?_⟩
   refine aJ R' ?_;clear R';intro m ag af R2
   have aP:=pC g' h'.objs.size
   have hl:H'.length=g'.ρ.length:=R2.heap.length.trans R2.bX.length.symm
   have R3:=R2.CN (h':=h'.push (bG vals 0)) (o:=.list vs) (ch:=[(h'.objs.size,bG vals 0)]) (λ_ _ e=>Heap.get?_push_of_some _ e) (by simp) (by simp;exact Heap.get?_push_size _ rfl) (by simp) (.list V.all)
   exact aw _ _ _ t' aP ⟨m,_,af,R3⟩ (.ref (by show (g'.ρ++[h'.objs.size])[H'.length]?=_;rw [hl];simp))
  ·exact aw.elim))
noncomputable def Ex.chain {op HW:CmpOp} (x:Ex b cs n) (o:Cp b op) (y:Ex b cs n) (o':Cp b HW) (z:Ex b cs n) (p:Pos) (hm:lastMarks [op,HW] [y.py,z.py]=false:=by with_unfolding_all rfl):Ex b cs n where
 py:=.Compare x.py [op,HW] [y.py,z.py] p
 run:=λloc H=>(x.run loc H).bind λu H=>(y.run loc H).bind λv H=>(o.run u v H).bind λr H=>(aY r H).bind λt H=>match t with
  |true=>(z.run loc H).bind λw H=>o'.run v w H
  |false=>.ok r H
 ok:=λO c g loc H s Q E G R hp=>Compare_chain (x.ok O c g loc H s _ E G R (hp.seq λu H1 g1 xu h1 t1 c9 R1 V1 dc=>chain_link
  (y.ok O c g1 loc H1 {s with heap:=h1,toks:=t1} _ E G R1 (dc.seq λv H2 g2 xv h2 t2 aP R2 V2 bA=>
   o.ok O c g2 loc H2 {s with heap:=h2,toks:=t2} _ E _ _ u v xu xv G R2 (V1.mono aP) V2 (bA.seq λr H3 g3 xr h3 t3 gV R3 V3 fF=>
    g8 (s:={s with heap:=h3,toks:=t3}) R3 V3 (fF.oJ λt H4 g4 h4 t4 kK R4 Li=>by
     cases t with
     |true=>exact chain_last (z.ok O c g4 loc H4 {s with heap:=h4,toks:=t4} _ E G R4 (ao.seq Li λw H5 g5 xw h5 t5 Nf R5 V5 NL=>
       o'.ok O c g5 loc H5 {s with heap:=h5,toks:=t5} Q E _ _ v w xv xw G R5 (V2.mono ((gV.trans kK).trans Nf)) V5 NL))
     |false=>exact Li g4 xr h4 t4 (.refl _) R4 (V3.mono kK))))))) hm
def Jy (b:Base) (f:Value) (run:List AV→aa→Res AV):Prop:=
 ∀ (c:FC) (g:Gh) (loc:Loc) (H:aa) (s:Shared) (Q E:VP) (cs:Scope) (n:Nat) (args:List AV) (vals:List Value),c.Good b cs n→Rep b c g loc H s.heap→aX b g args vals→
  ao b c g loc s (run args H) Q E→wpAny (model b.prog b.w) c.A (PySem.call f vals []) Q E s
structure Bf (b:Base) (f:Value) where
 run:List AV→aa→Res AV
 ok:b.Ok→Jy b f run
structure Bn (b:Base) (cs:Scope) (f:Value) extends Gv cs where
 hv:bootBuiltins s=some f
 hn:s≠"__name__"
theorem tG {f:Value} (O:b.Ok) (x:Bn b cs f) (hg:nsIn b.K mainGlobals x.s=some none) {p:Pos} {c:FC} {g:Gh} {loc:Loc} {H:aa} {s:Shared} {Q E:VP} (G:c.Good b cs n) (R:Rep b c g loc H s.heap) (h:Q f s) :
  wpAny (model b.prog b.w) c.A (eval (.Name x.s p) c.env) Q E s:=Jk O x.toGv hg x.hv x.hn G R h
noncomputable def Ex.bf {f:Value} (F:Bf b f) (x:Bn b cs f) (hg:b.Ok→nsIn b.K mainGlobals x.s=some Option.none) (args:bx b cs n) (np p:Pos) (hf:(∃ id,f=.builtin id)∨∃ T,f=.type T):Ex b cs n where
 py:=.Call (.Name x.s np) args.py [] p
 run:=λloc H=>(args.vals loc H).bind λvs H=>F.run vs H
 ok:=λO c g loc H s Q E G R hp=>by
  refine wpAny_Call_NameR (tG O x (hg O) G R ?_)
  have main:=wpAny_mono (bx.ij O (f:=f) p args c g loc H s (λvs aO=>wpAny (model b.prog b.w) c.A (PySem.call f ([]++vs) []) Q E aO) E G R (hp.jO λvs H' g' vals h' t' le R' V aw=>
   F.ok O c g' loc H' {s with heap:=h',toks:=t'} Q E _ _ vs vals G R' V aw)) (Q':=λa aO=>wpAny (model b.prog b.w) c.A (PySem.call f ([]++a.pos) a.kw) Q E aO) (λa aO h=>by rw [h.1];exact h.2) λ_ _ x=>x
  rcases hf with ⟨id,rfl⟩ |⟨T,rfl⟩
  ·exact callWith_builtin (by rw [bx.plain]) main
  ·exact PyProof.Rows.callWith_type (by rw [bx.plain]) main
noncomputable def Ak (v:AV) (H:aa):Option Nat:=match v with
 |.tup l=>some l.length
 |.str l=>some l.length
 |v=>(itemsOf H v).map (·.length)
theorem GC {v:AV} {H:aa} {k:Nat}:Ak v H=some k→(∃ l,v=.tup l∧l.length=k)∨(∃ l,v=.str l∧l.length=k)∨∃ l,itemsOf H v=some l∧l.length=k:=by
 cases v with
 |tup l=>exact λh=>.inl ⟨l,rfl,Option.some.inj h⟩
 |str l=>exact λh=>.inr (.inl ⟨l,rfl,Option.some.inj h⟩)
 |_=>exact λh=>.inr (.inr (Option.map_eq_some_iff.mp h))
noncomputable def fm (b:Base):Bf b (.builtin "len") where
 run:=λargs H=>lu (λv=>bV (λk=>if k≤1099511627776 then .ok (.int (k:Nat)) H else .stuck) (Ak v H)) args
 ok:=λO c g loc H s Q E cs n args vals G R V hp=>by
  refine dw (P:=(ao b c g loc s · Q E)) (C:=λvals=>wpAny (model b.prog b.w) c.A (PySem.call (.builtin "len") vals []) Q E s) id V hp λv x V1 hp=>?_
  refine ai (cW (P:=(ao b c g loc s · Q E)) id hp) ?_;intro k hk hq
  clear hp
  refine aQ (ao.ite hq) ?_;intro hz hp
  refine aJ (id R) ?_;intro m ag af R'
  rcases GC hk with ⟨l,rfl,e⟩ |⟨l,rfl,e⟩ |⟨l,hl,e⟩
  ·obtain ⟨a,rfl,o,vs,q,h1,h2,h3,h4,h5⟩:=V1.inv
   have e:(List.toArray vs).size=k:=h5.all.length.symm.trans e
   refine PyProof.Rows.len_tuple ⟨o,R'.there h1,h2,q,h3⟩ (by rw [e];omega) ?_
   refine sY (e ..)▸?_
   exact hp g _ s.heap _ (.refl g) R (.int _ _)
  ·refine bg V1.inv ?_;rintro t rfl
   have e:(⟨l.toArray⟩:Str).length=k:=e
   refine len_str (by rw [e];omega) ?_
   refine sY (e ..)▸?_
   exact hp g _ s.heap _ (.refl g) R (.int _ _)
  ·refine eO (dz R' V1 hl) ?_;rintro a o vs q rfl h1 h2 h3 h4 h5
   have e:(List.toArray vs).size=k:=h5.all.length.symm.trans e
   refine call_len_list ⟨o,h1,h2,q,h3⟩ (by rw [e];omega) ?_
   refine sY (e ..)▸?_
   exact hp g _ s.heap _ (.refl g) R (.int _ _)
end
theorem vals1 {b:Base} {g:Gh} {args:List AV} {vals:List Value} (V:aX b g args vals) {v:AV} (e:args=[v]):∃ x,vals=[x]∧ak b g v x:=by
 subst e
 cases V with
 |cons h t=>cases t;exact ⟨_,rfl,h⟩
theorem vals2 {b:Base} {g:Gh} {args:List AV} {vals:List Value} (V:aX b g args vals) {u v:AV} (e:args=[u,v]):∃ x y,vals=[x,y]∧ak b g u x∧ak b g v y:=by
 subst e
 cases V with
 |cons h t=>cases t with |cons h' t=>cases t;exact ⟨_,_,rfl,h,h'⟩
section
variable {b:Base} {cs:Scope} {n:Nat}
theorem log2_small {k:Nat} (h:k < 1152921504606846976):k.log2 < 1920:=by
 by_cases e:k=0
 ·subst e;decide
 ·exact Nat.lt_of_lt_of_le ((Nat.log2_lt e).mpr (show k < 2 ^ 60 from h)) (by decide)
noncomputable def ek (k:Nat):List Nat:=(Nat.toDigits 10 k).map Char.toNat
noncomputable def mA:Int→List Nat
 |.ofNat k=>ek k
 |.negSucc k=>45::ek (k+1)
theorem wL (k:Nat):(toString k).toList.map Char.toNat=ek k:=by
 show (Nat.repr k).toList.map Char.toNat=_
 simp [ek]
theorem int_text (i:Int):Str.ofString (toString i)=⟨(mA i).toArray⟩:=by
 rewrite [Str.ofString_eq_toList]
 congr 2
 cases i with
 |ofNat k=>exact wL k
 |negSucc k=>
  show ("-"++Nat.repr (k+1)).toList.map Char.toNat=45::ek (k+1)
  have:=wL (k+1)
  simp only [String.toList_append,List.map_append]
  refine sY (show (Nat.repr (k+1)).toList.map Char.toNat=ek (k+1) from this ..)▸?_
  rfl
noncomputable def JI (b:Base):Bf b (.type "str") where
 run:=λargs H=>lu (λv=>match v with
  |.int i=>if i.natAbs < 1152921504606846976 then .ok (.str (mA i)) H else .stuck
  |.str l=>.ok (.str l) H
  |_=>.stuck) args
 ok:=λO c g loc H s Q E cs n args vals G R V hp=>by
  refine dw (P:=(ao b c g loc s · Q E)) (C:=λvals=>wpAny (model b.prog b.w) c.A (PySem.call (.type "str") vals []) Q E s) id V hp λv x V1 hp=>?_
  cases v with
  |int i=>
   refine bg V1.inv ?_;rintro t rfl
   refine aQ (ao.ite hp) ?_;intro hz hp
   refine P.str_of_int (log2_small hz) ?_
   rewrite [int_text]
   exact hp g _ s.heap _ (.refl g) R (.str _ _)
  |str l=>
   refine bg V1.inv ?_;rintro t rfl
   exact P.str_of_str (hp g _ s.heap s.toks (.refl g) R (.str _ _))
  |_=>exact hp.elim
noncomputable def vK (b:Base):Bf b (.type "int") where
 run:=λargs H=>lu (onStr λl=>if (l.all λc=>decide (48≤c)&&decide (c≤57))∧l≠[]∧l.length≤640 then .ok (.int (NumText.digitsVal l:Nat)) H else .stuck) args
 ok:=λO c g loc H s Q E cs n args vals G R V hp=>by
  refine dw (P:=(ao b c g loc s · Q E)) (C:=λvals=>wpAny (model b.prog b.w) c.A (PySem.call (.type "int") vals []) Q E s) id V hp λv x V1 hp=>?_
  refine gq (P:=(ao b c g loc s · Q E)) (C:=λx=>wpAny (model b.prog b.w) c.A (PySem.call (.type "int") [x] []) Q E s) id V1 hp λl t hp=>?_
  refine aQ (ao.ite hp) ?_;rintro ⟨h1,h2,h3⟩ hp
  have h1:∀ c∈l,48≤c∧c≤57:=λc hc=>by simpa using List.all_eq_true.mp h1 c hc
  have e:(⟨l.toArray⟩:Str).length=l.length:=rfl
  refine KIN.call_text (PySem.intText_digits (x:=⟨l.toArray⟩) (by simpa [NumText.AllDigits] using h1) (by simpa using h2) (by rw [e];exact lO h3 rfl)) (by rw [e];exact h3) ?_
  exact hp g _ s.heap _ (.refl g) R (.int _ _)
noncomputable def Kq (b:Base):Bf b (.builtin "abs") where
 run:=λargs H=>lu (iE λi=>.ok (.int (if i < 0 then -i else i)) H) args
 ok:=λO c g loc H s Q E cs n args vals G R V hp=>by
  refine dw (P:=(ao b c g loc s · Q E)) (C:=λvals=>wpAny (model b.prog b.w) c.A (PySem.call (.builtin "abs") vals []) Q E s) id V hp λv x V1 hp=>?_
  refine hK (P:=(ao b c g loc s · Q E)) (C:=λx=>wpAny (model b.prog b.w) c.A (PySem.call (.builtin "abs") [x] []) Q E s) id V1 hp λi t hp=>?_
  exact call_abs_int λu tk=>hp g _ s.heap _ (.refl g) R (.int _ _)
noncomputable def F6 (b:Base):Bf b (.type "tuple") where
 run:=λargs H=>lu (λv=>bV (λl=>if l.length≤aq then .ok (.tup l) H else .stuck) (itemsOf H v)) args
 ok:=λO c g loc H s Q E cs n args vals G R V hp=>by
  refine dw (P:=(ao b c g loc s · Q E)) (C:=λvals=>wpAny (model b.prog b.w) c.A (PySem.call (.type "tuple") vals []) Q E s) id V hp λv x V1 hp=>?_
  refine ai (cW (P:=(ao b c g loc s · Q E)) id hp) ?_;intro l hl hp
  refine aQ (ao.ite hp) ?_;intro hz hp
  refine aJ (id R) ?_;intro m ag af R'
  refine eO (dz R' V1 hl) ?_;rintro a o vs q rfl h1 h2 h3 h4 h5
  exact call_tuple_list ⟨o,h1,h2,q,h3⟩ (λh' hk=>hp _ _ _ s.toks (bJ g (h'.objs.size,i8 vs 0)) (ic (R.keep hk) (λa o e=>Heap.get?_push_of_some _ e) (Nat.le_refl _) (Heap.get?_push_size _ rfl))
   (.tup (.inl (.head _)) rfl rfl rfl (h5.mono (bJ g (h'.objs.size,i8 vs 0))))) (Nat.le_trans (Nat.le_of_eq h5.all.length.symm) hz)
end
noncomputable def AV.isBool:AV→Bool
 |.bool _=>true
 |_=>false
noncomputable def AV.i0:AV→Bool
 |.bool t=>t
 |_=>false
section
variable {b:Base} {cs:Scope} {n:Nat}
theorem all_range {l:List AV}:(List.range l.length).all (λi=>(l.map AV.i0).getD i false)=l.all AV.i0:=by
 rewrite [Bool.eq_iff_iff,List.all_eq_true,List.all_eq_true]
 have e:∀ i (hi:i < l.length),(l.map AV.i0).getD i false=l[i].i0:=λi hi=>by rw [List.getD_eq_getElem?_getD,List.getElem?_map,List.getElem?_eq_getElem hi];rfl
 refine ⟨λh x hx=>?_,λh i hi=>?_⟩
 ·obtain ⟨i,hi,rfl⟩:=List.mem_iff_getElem.mp hx
  refine (e i hi ..)▸?_
  exact h i (List.mem_range.mpr hi)
 ·refine sY (e i (List.mem_range.mp hi) ..)▸?_
  exact h _ (List.getElem_mem _)
theorem EI {g:Gh} {u:AV} {v:Value} (V:ak b g u v) (hb:u.isBool=true):v=.bool u.i0:=by
 cases u with
 |bool t=>exact V.inv
 |_=>exact Bool.noConfusion hb
noncomputable def FP (b:Base):Bf b (.builtin "all") where
 run:=λargs H=>lu (DC λl=>if l.all AV.isBool then .ok (.bool (l.all AV.i0)) H else .stuck) args
 ok:=λO c g loc H s Q E cs n args vals G R V hp=>by
  refine dw (P:=(ao b c g loc s · Q E)) (C:=λvals=>wpAny (model b.prog b.w) c.A (PySem.call (.builtin "all") vals []) Q E s) id V hp λv x V1 hp=>?_
  refine ai (zk (P:=(ao b c g loc s · Q E)) id hp) ?_;rintro l rfl hp
  refine aQ (ao.ite hp) ?_;intro hb hp
  refine aJ (id R) ?_;intro m ag af R'
  refine eO (dz R' V1 (l:=l) rfl) ?_;rintro a o vs q rfl h1 h2 h3 h4 h5
  refine call_all_walk (wpAny_pyIter_list ⟨o,h1,h2,q,h3⟩ ⟨_,_,_,_,_,_,λi=>(l.map AV.i0).getD i false,rfl,Walks.list (A:=c.A.in1) G.hand s.heap.objs.size a (Nat.ne_of_lt (Heap.lt_size h1)) (List.toArray vs),⟨⟨_,Heap.get?_push_size _ rfl,rfl,rfl⟩,⟨o,Heap.get?_push_of_some _ h1,h2,q,h3⟩⟩,?_,λh' tk hk=>?_⟩)
  ·intro i v s' Q' E' hP hQ
   refine ai (h5.all.get' (show vs[i]?=some v by rw [← hP,List.getElem?_toArray])) ?_;intro u hu hv
   have e:(l.map AV.i0).getD i false=u.i0:=by rw [List.getD_eq_getElem?_getD,List.getElem?_map,hu];rfl
   refine sY (EI hv (List.all_eq_true.mp hb u (List.mem_of_getElem? hu)) ..)▸?_
   exact wpAny_truthy_bool (e▸hQ)
  ·refine sY (show (List.toArray vs).size=l.length from h5.all.length.symm ..)▸?_;refine sY (all_range ..)▸?_
   exact hp g _ h' tk (.refl g) (R.keep λb' o' e'=>hk b' o' (λhm=>absurd (Heap.lt_size e') (by rw [List.mem_singleton.mp hm];exact Nat.lt_irrefl _)) (Heap.get?_push_of_some _ e')) (.bool _)
set_option genCtorIdx true in
inductive Ty where
 |int |bool |str |tuple
noncomputable def Ty.name:Ty→String
 |.int=>"int"
 |.bool=>"bool"
 |.str=>"str"
 |.tuple=>"tuple"
noncomputable def wX (v:AV) (T:Ty):Option Bool:=match v,T with
 |.none,_=>some false
 |.bool _,.int=>some true
 |.bool _,.bool=>some true
 |.bool _,_=>some false
 |.int _,.int=>some true
 |.int _,_=>some false
 |.str _,.str=>some true
 |.str _,_=>some false
 |.tup _,.tuple=>some true
 |.tup _,_=>some false
 |_,_=>none
theorem B5 {c:FC} {g:Gh} {loc:Loc} {H:aa} {s:Shared} {Q E:VP} {v:AV} {x:Value} (T:Ty) (R:Rep b c g loc H s.heap) (V:ak b g v x)
  (hp:match wX v T with |some t=>∀ t',Q (.bool t) {s with toks:=t'} |none=>False):wpAny (model b.prog b.w) c.A (PySem.call (.builtin "isinstance") [x,.type T.name] []) Q E s:=by
 refine aJ R ?_;clear R;intro m ag af R'
 cases v with
 |none=>cases V.inv;cases T<;>first |exact IsiPair.NoneType_int (hp _) |exact IsiPair.NoneType_bool (hp _) |exact IsiPair.NoneType_str (hp _) |exact IsiPair.NoneType_tuple (hp _)
 |bool t=>cases V.inv;cases T<;>first |exact IsiPair.bool_int (hp s.toks) |exact IsiPair.bool_bool (hp s.toks) |exact IsiPair.bool_str (hp _) |exact IsiPair.bool_tuple (hp _)
 |int i=>(refine bg V.inv ?_;rintro t rfl);cases T<;>first |exact IsiPair.int_int (hp s.toks) |exact IsiPair.int_bool (hp _) |exact IsiPair.int_str (hp _) |exact IsiPair.int_tuple (hp _)
 |str l=>(refine bg V.inv ?_;rintro t rfl);cases T<;>first |exact IsiPair.str_str (hp s.toks) |exact IsiPair.str_int (hp _) |exact IsiPair.str_bool (hp _) |exact IsiPair.str_tuple (hp _)
 |tup l=>obtain ⟨a,rfl,o,vs,n,h1,h2,_⟩:=V.inv;cases T<;>first |exact IsiPair.tuple_tuple (R'.there h1) h2 (hp s.toks) |exact IsiPair.tuple_int (R'.there h1) h2 (hp _) |exact IsiPair.tuple_bool (R'.there h1) h2 (hp _) |exact IsiPair.tuple_str (R'.there h1) h2 (hp _)
 |_=>exact hp.elim
noncomputable def Ex.sV (e:Ex b cs n) (T:Ty) (x:Bn b cs (.builtin "isinstance")) (y:Bn b cs (.type T.name)) (hg:b.Ok→nsIn b.K mainGlobals x.s=some Option.none∧nsIn b.K mainGlobals y.s=some Option.none) (np tp p:Pos):Ex b cs n where
 py:=.Call (.Name x.s np) [e.py,.Name y.s tp] [] p
 run:=λloc H=>(e.run loc H).bind λv H=>match wX v T with
  |some t=>.ok (.bool t) H
  |none=>.stuck
 ok:=λO c g loc H s Q E G R hp=>by
  refine wpAny_Call_NameR (tG O x (hg O).1 G R ?_)
  have e2:starEach [.Name y.s tp] c.env=[(false,eval (.Name y.s tp) c.env)]:=rfl
  have e1:starEach (e.py::[.Name y.s tp]) c.env=(false,eval e.py c.env)::starEach [.Name y.s tp] c.env:=e.ns _ _
  refine callWith_builtin (by rw [e1,e2];rfl) ?_
  refine sY (e1 ..)▸?_;refine sY (e2 ..)▸?_
  refine Calls.evalArgs_plain (Calls.spliced_cons (e.ok O c g loc H s _ E G R (hp.seq λv H' g' val h' t' le R' V aw=>?_)))
  refine Calls.spliced_cons (tG (s:={s with heap:=h',toks:=t'}) O y (hg O).2 G R' (Calls.spliced_nil ?_))
  refine B5 (s:={s with heap:=h',toks:=t'}) T R' V ?_
  revert aw
  cases wX v T with
  |none=>intro aw;exact aw
  |some t=>intro aw t2;exact aw g' _ h' t2 (.refl _) R' (.bool t)
noncomputable def wO (b:Base):Bf b (.type "list") where
 run:=λargs H=>lu (DC λl=>if l.length≤aq then .ok (.fl l) H else .stuck) args
 ok:=λO c g loc H s Q E cs n args vals G R V hp=>by
  refine dw (P:=(ao b c g loc s · Q E)) (C:=λvals=>wpAny (model b.prog b.w) c.A (PySem.call (.type "list") vals []) Q E s) id V hp λv x V1 hp=>?_
  refine ai (zk (P:=(ao b c g loc s · Q E)) id hp) ?_;rintro l rfl hp
  refine aQ (ao.ite hp) ?_;intro hz hp
  refine aJ (id R) ?_;intro m ag af R'
  refine eO (dz R' V1 (l:=l) rfl) ?_;rintro a o vs q rfl h1 h2 h3 h4 h5
  exact call_list_seq a (.inl rfl) h1 h2 h3 (λh' c' hk hd=>hp _ _ _ s.toks (bJ g (s.heap.objs.size,bG vs c')) (ic R hk (Nat.le_refl _) hd) (.fl (.inl (.head _)) rfl rfl rfl (h5.mono (bJ g (s.heap.objs.size,bG vs c'))))) (Nat.le_trans (Nat.le_of_eq h5.all.length.symm) hz)
def Hp (b:Base) (f:Value) (run:List AV→aa→Res It):Prop:=
 ∀ (c:FC) (g:Gh) (loc:Loc) (H:aa) (s:Shared) (Q E:VP) (cs:Scope) (n:Nat) (args:List AV) (vals:List Value),c.Good b cs n→Rep b c g loc H s.heap→aX b g args vals→
  cz b c g loc s (run args H) Q E→wpAny (model b.prog b.w) c.A (PySem.call f vals []) (λx aO=>wpAny (model b.prog b.w) c.A (pyIter x) Q E aO) E s
structure Bi (b:Base) (f:Value) where
 run:List AV→aa→Res It
 ok:b.Ok→Hp b f run
theorem cz.jO {c:FC} {g:Gh} {loc:Loc} {s:Shared} {Q E:VP} {r:Res (List AV)} {f:List AV→aa→Res It} {Q':List Value→Shared→Prop} (hp:cz b c g loc s (r.bind f) Q E)
  (k:∀ v H' g' val h' t',g.le g'→Rep b c g' loc H' h'→aX b g' v val→cz b c g' loc {s with heap:=h',toks:=t'} (f v H') Q E→Q' val {s with heap:=h',toks:=t'}) :
  dZ b c g loc s r Q' E:=by
 cases r with
 |ok v H'=>
  intro g' val h' t' le R V
  have aw:cz b c g loc s (f v H') Q E:=hp
  refine k v H' g' val h' t' le R V ?_
  revert aw
  cases f v H' with
  |ok u H2=>intro aw g2 I ps h0 h2 t2 aP;exact aw g2 I ps h0 h2 t2 (le.trans aP)
  |bD x H2=>intro aw g2 e h2 t2 aP F2;exact aw g2 e h2 t2 (le.trans aP) F2
  |stuck=>intro aw;exact aw
 |bD x H'=>exact hp
 |stuck=>exact hp
noncomputable def Src.bi {T:String} (F:Bi b (.type T)) (x:Bn b cs (.type T)) (hg:b.Ok→nsIn b.K mainGlobals x.s=some none) (args:bx b cs n) (np p:Pos):Src b cs n where
 py:=.Call (.Name x.s np) args.py [] p
 run:=λloc H=>(args.vals loc H).bind λvs H=>F.run vs H
 fs:=λ_ _=>rfl
 ok:=λO c g loc H s Q E G R hp=>by
  refine wpAny_Call_NameR (tG O x (hg O) G R ?_)
  have main:=wpAny_mono (bx.ij O (f:=.type T) p args c g loc H s (λvs aO=>wpAny (model b.prog b.w) c.A (PySem.call (.type T) ([]++vs) []) (λx aO=>wpAny (model b.prog b.w) c.A (pyIter x) Q E aO) E aO) E G R (hp.jO λvs H' g' vals h' t' le R' V aw=>
   F.ok O c g' loc H' {s with heap:=h',toks:=t'} Q E _ _ vs vals G R' V aw)) (Q':=λa aO=>wpAny (model b.prog b.w) c.A (PySem.call (.type T) ([]++a.pos) a.kw) (λx aO=>wpAny (model b.prog b.w) c.A (pyIter x) Q E aO) E aO) (λa aO h=>by rw [h.1];exact h.2) λ_ _ x=>x
  exact PyProof.Rows.callWith_type (by rw [bx.plain]) main
noncomputable def wt (a b c:Int) (H:aa):Res It:=if Builtin.Range.small a b c=true∧0≤Builtin.Range.rangeSize a b c∧c≠0∧c.natAbs < 1000 then .ok (.ff a c (Builtin.Range.rangeSize a b c).toNat) H else .stuck
theorem Bq {c:FC} {g:Gh} {loc:Loc} {H:aa} {s:Shared} {Q E:VP} {a e st:Int} {tk:Nat} {t u v:Tok} (R:Rep b c g loc H s.heap)
  (hz:Builtin.Range.small a e st=true) (h0:0≤Builtin.Range.rangeSize a e st) (hp:cz b c g loc s (.ok (.ff a st (Builtin.Range.rangeSize a e st).toNat) H) Q E) :
  wpAny (model b.prog b.w) c.A (pyIter (.ref s.heap.objs.size)) Q E {s with heap:=s.heap.push {cls:=.type "range",data:=.fields #[.int a t,.int e u,.int st v]},toks:=tk}:=by
 refine wpAny_pyIter_range (IsRange.new _ _ _ _ _ _ _) hz ?_
 have R1:Rep b c g loc H (s.heap.push {cls:=.type "range",data:=.fields #[.int a t,.int e u,.int st v]}):=R.keep λ_ _ e=>Heap.get?_push_of_some _ e
 refine hp g _ [((s.heap.push {cls:=.type "range",data:=.fields #[.int a t,.int e u,.int st v]}).objs.size,zZ a (Builtin.Range.rangeSize a e st) st)] _ _ _ (.refl g) R1 (λ_ _ e=>Heap.get?_push_of_some _ e)
  (by intro p hp;simp only [List.mem_singleton] at hp;subst hp;exact ⟨Nat.le_refl _,Heap.get?_push_size _ rfl⟩) (by simp) ?_
 have:=ej.ff (b:=b) (g:=g) (a:=a) (c:=st) (n:=(Builtin.Range.rangeSize a e st).toNat) (k:=0) (I:=(s.heap.push {cls:=.type "range",data:=.fields #[.int a t,.int e u,.int st v]}).objs.size)
 rw [Int.toNat_of_nonneg h0] at this
 simpa using this
theorem Br {c:FC} {g:Gh} {loc:Loc} {H:aa} {s:Shared} {Q E:VP} {a e st:Int} (hp:cz b c g loc s (wt a e st H) Q E) :
  Builtin.Range.small a e st=true∧0≤Builtin.Range.rangeSize a e st∧st≠0∧st.natAbs < 1000∧cz b c g loc s (.ok (.ff a st (Builtin.Range.rangeSize a e st).toNat) H) Q E:=by
 refine aQ (D7 (P:=(cz b c g loc s · Q E)) id hp) ?_;intro h hp
 exact ⟨h.1,h.2.1,h.2.2.1,h.2.2.2,hp⟩
noncomputable def fQ (b:Base):Bi b (.type "range") where
 run:=λargs H=>match args with
  |[e]=>iE (λe=>wt 0 e 1 H) e
  |[a,e,st]=>iE (λa=>iE (λe=>iE (λst=>wt a e st H) st) e) a
  |_=>.stuck
 ok:=λO c g loc H s Q E cs n args vals G R V hp=>by
  match args with
  |[e]=>
   refine bk (cons_of V) ?_;rintro x m rfl V1 W
   refine sY (nil_of W ..)▸?_
   refine hK (P:=(cz b c g loc s · Q E)) (C:=λx=>wpAny (model b.prog b.w) c.A (PySem.call (.type "range") [x] []) (λx aO=>wpAny (model b.prog b.w) c.A (pyIter x) Q E aO) E s) id V1 hp λi t hp=>?_
   refine qg (Br hp) ?_;intro h1 h2 h3 h4 hp
   exact call_range_1 (Bq R h1 h2 hp)
  |[a,e,st]=>
   refine bk (cons_of V) ?_;rintro x m rfl V1 W
   refine bk (cons_of W) ?_;rintro y m rfl V2 W
   refine bk (cons_of W) ?_;rintro z m rfl V3 W
   refine sY (nil_of W ..)▸?_
   refine hK (P:=(cz b c g loc s · Q E)) (C:=λx=>wpAny (model b.prog b.w) c.A (PySem.call (.type "range") [x,y,z] []) (λx aO=>wpAny (model b.prog b.w) c.A (pyIter x) Q E aO) E s) id V1 hp λi t hp=>?_
   refine hK (P:=(cz b c g loc s · Q E)) (C:=λy=>wpAny (model b.prog b.w) c.A (PySem.call (.type "range") [.int i t,y,z] []) (λx aO=>wpAny (model b.prog b.w) c.A (pyIter x) Q E aO) E s) id V2 hp λj u hp=>?_
   refine hK (P:=(cz b c g loc s · Q E)) (C:=λz=>wpAny (model b.prog b.w) c.A (PySem.call (.type "range") [.int i t,.int j u,z] []) (λx aO=>wpAny (model b.prog b.w) c.A (pyIter x) Q E aO) E s) id V3 hp λk v hp=>?_
   refine qg (Br hp) ?_;intro h1 h2 h3 h4 hp
   exact call_range_3 h3 (Bq R h1 h2 hp) (.inl (PyProof.noPylong_small (Nat.lt_trans h4 (by decide))))
  |[]=>exact hp.elim
  |[_,_]=>exact hp.elim
  |_::_::_::_::_=>exact hp.elim
theorem OB {α:Type} {P:α→Prop} {a:α} (h:P a):∀ p∈[a],P p:=λ_ hp=>List.mem_singleton.mp hp▸h
theorem LH {α:Type} {P:α→Prop} {a a':α} (h:P a) (h':P a'):∀ p∈[a,a'],P p:=List.forall_mem_cons.mpr ⟨h,OB h'⟩
noncomputable def Je (b:Base):Bi b (.type "enumerate") where
 run:=λargs H=>lu (onStr λl=>.ok (.jF l) H) args
 ok:=λO c g loc H s Q E cs n args vals G R V hp=>by
  refine dw (P:=(cz b c g loc s · Q E)) (C:=λvals=>wpAny (model b.prog b.w) c.A (PySem.call (.type "enumerate") vals []) (λx aO=>wpAny (model b.prog b.w) c.A (pyIter x) Q E aO) E s) id V hp λv x V1 hp=>?_
  refine gq (P:=(cz b c g loc s · Q E)) (C:=λx=>wpAny (model b.prog b.w) c.A (PySem.call (.type "enumerate") [x] []) (λx aO=>wpAny (model b.prog b.w) c.A (pyIter x) Q E aO) E s) id V1 hp λl t hp=>?_
  refine call_enumerate_str λh' he hi hz hk=>wpAny_pyIter_enum he ?_
  refine cO hi ?_;clear hi;intro o ho h2 h3
  exact hp g _ [(s.heap.objs.size+1,tv s.heap.objs.size 0 .none),(s.heap.objs.size,o)] s.heap h' s.toks (.refl g) R hk
   (LH ⟨Nat.le_succ _,he⟩ ⟨Nat.le_refl _,ho⟩) (by simp) (.jF h2 h3)
noncomputable def EN (b:Base):Bi b (.type "zip") where
 run:=λargs H=>E3 (λu v=>bV (λ_=>bV (λ_=>.ok (.zip u v) H) (itemsOf H v)) (itemsOf H u)) args
 ok:=λO c g loc H s Q E cs n args vals G R V hp=>by
  refine rC (P:=(cz b c g loc s · Q E)) (C:=λvals=>wpAny (model b.prog b.w) c.A (PySem.call (.type "zip") vals []) (λx aO=>wpAny (model b.prog b.w) c.A (pyIter x) Q E aO) E s) id V hp λu v x y V1 V2 hp=>?_
  refine ai (cW (P:=(cz b c g loc s · Q E)) id hp) ?_;intro l1 NU hp
  refine ai (cW (P:=(cz b c g loc s · Q E)) id hp) ?_;intro l2 Ln hp
  refine aJ (id R) ?_;intro m ag af R'
  refine eO (dz R' V1 NU) ?_;rintro a1 o1 Pe q1 rfl x1 x2 x3 x4 x5
  refine eO (dz R' V2 Ln) ?_;rintro a2 o2 Pd q2 rfl y1 y2 y3 y4 y5
  refine call_zip_2 ⟨o1,x1,x2,q1,x3⟩ ⟨o2,y1,y2,q2,y3⟩ λh' z1 z2 z3 z4 z5 z6 hk=>wpAny_pyIter_zip z1 ?_
  refine cO z4 ?_;clear z4;intro p1 p2 p3 p4
  refine cO z5 ?_;clear z5;intro r1 r2 r3 r4
  exact hp g _ [(s.heap.objs.size+4,vS (s.heap.objs.size+2) (s.heap.objs.size+3)),(s.heap.objs.size+2,iB (.ref s.heap.objs.size) (.ref (s.heap.objs.size+1))),(s.heap.objs.size+3,iB .none .none),(s.heap.objs.size,p1),(s.heap.objs.size+1,r1)] s.heap h' s.toks (.refl g) R hk
   (List.forall_mem_cons.mpr ⟨⟨Nat.le_add_right _ _,z1⟩,List.forall_mem_cons.mpr ⟨⟨Nat.le_add_right _ _,z2⟩,List.forall_mem_cons.mpr ⟨⟨Nat.le_add_right _ _,z3⟩,LH ⟨Nat.le_refl _,p2⟩ ⟨Nat.le_add_right _ _,r2⟩⟩⟩⟩) (by simp) (.zip V1 V2 p3 p4 r3 r4)
end
noncomputable def idx {α:Type} (l:List α) (k:Int):Option α:=if 0≤k then l[k.toNat]? else if -(l.length:Int)≤k then l[(k+l.length).toNat]? else none
noncomputable def fits (k:Int):Bool:=decide (-(2 ^ 62)≤k)&&decide (k < 2 ^ 62)
noncomputable def kf (v i:AV) (H:aa):Option AV:=match i with
 |.int k=>if fits k then match v with
  |.tup l=>idx l k
  |.str l=>(idx l k).map λc=>.str [c]
  |v=>(itemsOf H v).bind λl=>idx l k
  else none
 |.str x=>match v with
  |.eY l=>l.lookup x
  |_=>none
 |_=>none
theorem seqIndex_of {α:Type} {l:List α} {k:Int} {x:α} (h:idx l k=some x):∃ j,seqIndex? k l.length=some j∧l[j]?=some x:=by
 unfold idx at h
 have main:∀ m:Int,(if k < 0 then k+(l.length:Int) else k)=m→0≤m→m < l.length→seqIndex? k l.length=some m.toNat:=by
  intro m hm h0 h1
  show (if (decide (0≤(if k < 0 then k+(l.length:Int) else k))&&decide ((if k < 0 then k+(l.length:Int) else k) < l.length))=true then some (if k < 0 then k+(l.length:Int) else k).toNat else none)=_
  refine sY (hm ..)▸?_;rewrite [if_pos (by simp [h0,h1])];rfl
 split at h
 ·rename_i hk
  have:=(List.getElem?_eq_some_iff.mp h).1
  exact ⟨k.toNat,main k (if_neg (Int.not_lt.mpr hk)) hk ((Int.toNat_lt hk).mp this),h⟩
 ·split at h
  ·rename_i hk hl
   have:=(List.getElem?_eq_some_iff.mp h).1
   exact ⟨(k+l.length).toNat,main _ (if_pos (Int.not_le.mp hk)) (Int.add_left_neg (l.length:Int)▸Int.add_le_add_right hl _) (by have q:=Int.add_lt_add_right (Int.not_le.mp hk) (l.length:Int);rwa [Int.zero_add] at q),h⟩
  ·cases h
section
variable {b:Base} {cs:Scope} {n:Nat}
theorem GX {k:Int} (h:fits k=true):-(2 ^ 62)≤k∧k < 2 ^ 62:=⟨of_decide_eq_true (Bool.and_eq_true_iff.mp h).1,of_decide_eq_true (Bool.and_eq_true_iff.mp h).2⟩
theorem D4 {v u:AV} {k:Int} {H:aa} (h:kf v (.int k) H=some u):fits k=true∧((∃ l,v=.tup l∧idx l k=some u)∨(∃ l cp,v=.str l∧idx l k=some cp∧.str [cp]=u)∨∃ l,itemsOf H v=some l∧idx l k=some u):=by
 refine aQ (Option.ite_none_right_eq_some.mp h) ?_;intro hf h
 refine ⟨hf,?_⟩
 cases v with
 |tup l=>exact .inl ⟨l,rfl,h⟩
 |str l=>exact (Option.map_eq_some_iff.mp h).elim λcp q=>.inr (.inl ⟨l,cp,rfl,q.1,q.2⟩)
 |_=>exact .inr (.inr (Option.bind_eq_some_iff.mp h))
theorem list_item {c:FC} {g:Gh} {s:Shared} {Q E:VP} {l:List AV} {a:Addr} {vs:List Value} {k:Int} {t:Tok} {u:AV} {value slice:Expr} {ops:List Value} (hL:s.heap.IsList a (List.toArray vs)) (h5:aI (ak b g) l vs)
  (hf:-(2 ^ 62)≤k∧k < 2 ^ 62) (hk:idx l k=some u) (hs:subscripted slice false (.ref a) (.int k t)=operate ops (getItem (.ref a) (.int k t))) (hp:∀ y t',ak b g u y→Q y {s with toks:=t'}):wpAny (model b.prog b.w) c.A (subscriptTail value slice (.ref a) (.int k t)) Q E s:=by
 have hsz:(List.toArray vs).size=l.length:=h5.length.symm
 unfold idx at hk
 by_cases h0:0≤k
 ·rw [if_pos h0] at hk
  refine ai (h5.get hk) ?_;intro y hy hV
  exact tail_any hL.typeIs slot_list_getitem.lookup (wpAny_getItem_list hL h0 (Int.lt_trans hf.2 (by decide)) (by simpa using hy) (hp y s.toks hV)) hs
 ·rw [if_neg h0] at hk
  refine aQ (Option.ite_none_right_eq_some.mp hk) ?_;intro h1 hk
  refine ai (h5.get hk) ?_;intro y hy hV
  exact tail_any hL.typeIs slot_list_getitem.lookup (wpAny_getItem_list_neg hL (Int.not_le.mp h0) (by rw [hsz];exact h1) (Int.le_trans (by decide) hf.1) (by rw [hsz];simpa using hy) (hp y s.toks hV)) hs
theorem yh {c:FC} {g:Gh} {loc:Loc} {H:aa} {s:Shared} {Q E:VP} {v:AV} {x:Value} {k:Int} {t:Tok} {u:AV} {value slice:Expr} {ops:List Value} (R:Rep b c g loc H s.heap) (V:ak b g v x)
  (hu:kf v (.int k) H=some u) (hs:subscripted slice false x (.int k t)=operate ops (getItem x (.int k t))) (hp:∀ y t',ak b g u y→Q y {s with toks:=t'}):wpAny (model b.prog b.w) c.A (subscriptTail value slice x (.int k t)) Q E s:=by
 refine aJ R ?_;clear R;intro m ag af R'
 refine aQ (D4 hu) ?_;intro hf hu
 have hf:=GX hf
 rcases hu with ⟨l,rfl,hk⟩ |⟨l,cp,rfl,hc,rfl⟩ |⟨l,hl,hk⟩
 ·obtain ⟨a,rfl,o,vs,q,h1,h2,h3,h4,h5⟩:=V.inv
  refine ai (seqIndex_of hk) ?_;intro j hj hx
  refine ai (h5.all.get hx) ?_;intro y hy hV
  have hT:IsTup s.heap a (List.toArray vs):=⟨o,R'.there h1,h2,q,h3⟩
  exact tail_any hT.typeIs slot_tuple_getitem.lookup (PyProof.Rows.getItem_tuple hT (Int.le_trans (by decide) hf.1) (Int.lt_trans hf.2 (by decide)) (j:=j) (by rw [show (List.toArray vs).size=l.length from h5.all.length.symm];exact hj) (by simpa using hy) (hp y s.toks hV)) hs
 ·refine bg V.inv ?_;rintro t' rfl
  refine ai (seqIndex_of hc) ?_;intro j hj hx
  refine tail_any (typeIs_str s _ _) F.slot_str_getitem.lookup (P.getItem_str (c:=cp) ?_ ?_ (hp _ _ (.str [cp] _))) hs
  ·simp only [Bool.or_eq_false_iff,decide_eq_false_iff_not];exact ⟨Int.not_lt.mpr (Int.le_trans (by decide) hf.1),Int.not_le.mpr (Int.lt_trans hf.2 (by decide))⟩
  ·show (seqIndex? k l.length).bind _=_
   refine sY (hj ..)▸?_
   simpa using hx
 ·refine eO (dz R' V hl) ?_;rintro a o vs q rfl h1 h2 h3 h4 h5
  exact list_item ⟨o,h1,h2,q,h3⟩ h5.all hf hk hs hp
theorem D5 {c:FC} {g:Gh} {loc:Loc} {H:aa} {s:Shared} {Q E:VP} {v k:AV} {x xk:Value} {value slice:Expr} (R:Rep b c g loc H s.heap) (V:ak b g v x) (V2:ak b g k xk) (hs:subscripted slice false=wJ false)
  (hp:ao b c g loc s (iE (λj=>bV (λu=>.ok u H) (kf v (.int j) H)) k) Q E):wpAny (model b.prog b.w) c.A (subscriptTail value slice x xk) Q E s:=by
 refine hK (P:=(ao b c g loc s · Q E)) (C:=λxk=>wpAny (model b.prog b.w) c.A (subscriptTail value slice x xk) Q E s) id V2 hp λj t hp=>?_
 refine ai (cW (P:=(ao b c g loc s · Q E)) id hp) ?_;intro u hu hp
 exact yh R V hu (congrFun (congrFun hs _) _) λy t' V=>hp g y s.heap t' (.refl g) R V
noncomputable def Ex.item (o i:Ex b cs n) (p:Pos) (hs:autoParam (subscripted i.py false=wJ false) LY):Ex b cs n where
 py:=.Subscript o.py i.py p
 run:=λloc H=>(o.run loc H).bind λv H=>(i.run loc H).bind λk H=>iE (λj=>bV (λu=>.ok u H) (kf v (.int j) H)) k
 ok:=λO c g loc H s Q E G R hp=>Subscript_ (o.ok O c g loc H s _ E G R (hp.seq λv H1 g1 xv h1 t1 c9 R1 V1 dc=>
  i.ok O c g1 loc H1 {s with heap:=h1,toks:=t1} _ E G R1 (dc.seq λk H2 g2 xk h2 t2 aP R2 V2 bA=>
   D5 (s:={s with heap:=h2,toks:=t2}) R2 (V1.mono aP) V2 hs bA)))
noncomputable def upTo {α:Type} (l:List α) (j:Int):List α:=if 0≤j then l.take j.toNat else l.take (l.length - (-j).toNat)
noncomputable def ft {α:Type} (l:List α) (i:Int):List α:=if 0≤i then l.drop i.toNat else l.drop (l.length - (-i).toNat)
noncomputable def sliceTo (v:AV) (j:Int) (H:aa):Res AV:=match v with
 |.tup l=>if 0 < j∧j < l.length∧l.length≤aq then .ok (.tup (l.take j.toNat)) H else .stuck
 |.fl l=>if l.length≤aq then .ok (.fl (upTo l j)) H else .stuck
 |_=>.stuck
noncomputable def sliceFrom (v:AV) (i:Int) (H:aa):Res AV:=match v with
 |.tup l=>if 1≤i∧i≤l.length∧l.length≤aq then .ok (.tup (l.drop i.toNat)) H else .stuck
 |.fl l=>if l.length≤aq then .ok (.fl (ft l i)) H else .stuck
 |_=>.stuck
noncomputable def ja (v:AV) (i j:Int) (H:aa):Res AV:=onStr (λl=>if 0≤i∧i≤j∧i≤l.length∧l.length≤aq then .ok (.str ((l.drop i.toNat).take (j - i).toNat)) H else .stuck) v
theorem zU {l:List Nat} {i j:Int} (h0:0≤i) (h1:i≤j) (h2:i≤l.length):Txt.slice ⟨l.toArray⟩ (some i) (some j)=⟨((l.drop i.toNat).take (j - i).toNat).toArray⟩:=by
 by_cases hj:j≤l.length
 ·have:=slice_closes (x:=⟨l.toArray⟩) (i:=i) (j:=j) ⟨h0,h1,by simpa using hj⟩
  simpa using eq_of_beq this
 ·have e:Txt.slice ⟨l.toArray⟩ (some i) (some j)=Txt.slice ⟨l.toArray⟩ (some i) (some (l.length:Int)):=by
   have hL:(⟨l.toArray⟩:Str).length=l.length:=by show l.toArray.size=_;simp
   have:Builtin.Str.strSliceIndices (some i) (some j) 1 (⟨l.toArray⟩:Str).length=Builtin.Str.strSliceIndices (some i) (some (l.length:Int)) 1 (⟨l.toArray⟩:Str).length:=by
    refine sY (hL ..)▸?_
    unfold Builtin.Str.strSliceIndices
    have a1:¬ (j < 0):=Int.not_lt.mpr (Int.le_trans h0 h1)
    have a2:¬ ((l.length:Int) < 0):=Int.not_lt.mpr (Int.natCast_nonneg _)
    simp only [a1,a2,if_false]
    refine sY (Int.min_eq_right (Int.le_of_lt (Int.not_le.mp hj)))▸?_;rewrite [Int.min_self]
    simp
   unfold Txt.slice
   refine sY (this ..)▸?_;rfl
  refine sY (e ..)▸?_
  have:=slice_closes (x:=⟨l.toArray⟩) (i:=i) (j:=(l.length:Int)) ⟨h0,h2,by simp⟩
  have e2:=eq_of_beq this
  refine sY (e2 ..)▸?_
  congr 1
  rewrite [List.take_of_length_le (by simp;exact Kz (Int.le_refl _)),List.take_of_length_le (by simp;exact Kz (Int.le_of_lt (Int.not_le.mp hj)))];rfl
theorem CY {A:Around} {E:VP} {s:Shared} {t sl:Addr} {items:Array Value} {j:Nat} {u:Tok} {Q:VP} (ht:IsTup s.heap t items) (hs:s.heap.IsSliceOf sl .none (.int j u) .none) (h1:1≤j) (hj:j < items.size) (hz:items.size≤aq)
  (h:Q (.ref s.heap.objs.size) {s with heap:=s.heap.push (i8 (items.toList.take j) 0)}):wpAny (model b.prog b.w) A (getItem (.ref t) (.ref sl)) Q E s:=by
 have Fm:sizeOk (.seq (items.toList.take j).toArray):=by
  show (items.toList.take j).toArray.size≤sizeLine
  refine sY (List.size_toArray ..)▸?_;refine sY (List.length_take ..)▸?_;refine sY (Array.length_toList ..)▸?_;refine sY (GA ..)▸?_
  exact Nat.le_trans (Nat.min_le_right _ _) hz
 refine cO (id hs) ?_;intro os Fl N7 zf
 have Od:s.TypeIs (.ref sl) "slice":=⟨os,Fl,N7⟩
 unfold getItem
 try with_reducible refine wpAny_holding ?_
 first |refine wpAny_bind (wpAny_pure ?_) |skip
 refine wpAny_bind (wpAny_sequenceKey ht.typeIs (by decide) ?_)
 refine wpAny_bind (wpAny_callSpecial?_slot (name:=Str.ofString "__getitem__") ht.typeIs slot_tuple_getitem
  (wpAny_call_entry slot_tuple_getitem ht.typeIs entry_tuple_getitem ?_ (args_tuple_getitem _ _)))
 show wpAny _ _ (Builtin.Tuple.tupleItemsOf (.ref t) >>= _) _ _ s
 refine wpAny_bind (tupleItemsOf_ ht ?_)
 refine wpAny_bind (wpAny_typeOf Od ?_)
 rewrite [if_pos (by decide)]
 have e1:Builtin.Slice.sliceAdjust none (some (j:Int)) 1 (items.size:Int)=(0,(j:Int)):=by
  unfold Builtin.Slice.sliceAdjust
  have h1:¬ ((1:Int) < 0):=(by decide)
  have h2:¬ ((j:Int) < 0):=Int.not_lt.mpr (Int.natCast_nonneg _)
  simp only [h1,h2,if_false]
  exact congrArg _ (Int.min_eq_left (Int.ofNat_le.mpr (Nat.le_of_lt hj)))
 have e2:Builtin.Slice.slicePlaces 0 (j:Int) 1=j:=by
  unfold Builtin.Slice.slicePlaces
  have h1:(1:Int) > 0:=(by decide)
  simp only [h1,if_true,Int.ediv_one]
  split<;>omega
 have sa:∀ {Q:Int×Int×Nat→Shared→Prop},Q (0,1,j) s→wpAny (model b.prog b.w) A.in1 (Builtin.Slice.sliceApplied (.ref sl) (pure (items.size:Int))) Q E s:=by
  intro Q h
  unfold Builtin.Slice.sliceApplied Builtin.Slice.sliceFields
  refine wpAny_bind (wpAny_bind (wpAny_field Fl zf (x:=.none) rfl (wpAny_bind (wpAny_field Fl zf (x:=.int j u) rfl (wpAny_bind (wpAny_field Fl zf (x:=.none) rfl (wpAny_pure ?_)))))))
  refine wpAny_bind (slicePart_none ?_)
  show wpAny _ _ (if ((1:Int)==0)=true then _ else _) _ _ s
  rewrite [if_neg (by decide)]
  refine wpAny_bind (slicePart_none (wpAny_bind (slicePart_int (wpAny_bind (wpAny_pure ?_)))))
  show wpAny _ _ (match Builtin.Slice.sliceAdjust none (some (j:Int)) 1 (items.size:Int) with |(lo,hi)=>pure (lo,(1:Int),Builtin.Slice.slicePlaces lo hi 1)) _ _ s
  refine sY (e1 ..)▸?_
  show wpAny _ _ (pure ((0:Int),(1:Int),Builtin.Slice.slicePlaces 0 (j:Int) 1)) _ _ s
  refine sY (e2 ..)▸?_
  exact wpAny_pure h
 refine wpAny_bind (sa ?_)
 have lG:¬ (((0:Int)==0&&(1:Int)==1&&j==items.size)=true):=by
  have:(j==items.size)=false:=by rw [beq_eq_false_iff_ne];exact Nat.ne_of_lt hj
  rw [this];simp
 have e3:((List.range j).filterMap λ(k:Nat)=>items[((0:Int)+(k:Int) * 1).toNat]?).toArray=(items.toList.take j).toArray:=by
  have:=pick_run items 0 j
  rw [List.filterMap_map] at this
  congr 1
  rw [show (λ(k:Nat)=>items[((0:Int)+(k:Int) * 1).toNat]?)=((λx=>items[x]?)∘λx=>0+x) from by
   funext k
   have:((0:Int)+(k:Int) * 1).toNat=0+k:=Nat.zero_add _
   refine sY (this ..)▸?_;rfl]
  rw [this];rfl
 show wpAny _ _ (if ((0:Int)==0&&(1:Int)==1&&j==items.size)=true then _ else _) _ _ s
 refine sY (if_neg lG ..)▸?_;refine sY (e3 ..)▸?_
 first
  |exact wpAny_bind (m:=Builtin.Tuple.tupleExact _) (wpAny_newObj_type (wpAny_pure ⟨_,rfl,wpAny_pure h⟩) Fm)
  |exact wpAny_bind (m:=Builtin.Tuple.tupleExact _) (wpAny_newObj_type (wpAny_bind (wpAny_pure (wpAny_pure ⟨_,rfl,wpAny_pure h⟩))) Fm)
  |exact wpAny_bind (wpAny_bind (m:=Builtin.Tuple.tupleExact _) (wpAny_newObj_type (wpAny_pure (wpAny_pure ⟨_,rfl,wpAny_pure h⟩)) Fm))
  |exact wpAny_bind (wpAny_bind (m:=Builtin.Tuple.tupleExact _) (wpAny_newObj_type (wpAny_pure ⟨_,rfl,wpAny_pure h⟩) Fm))
theorem AU {vs:List Value} (j:Int):slicePick (List.toArray vs) none (some j) none=(upTo vs j).toArray:=by
 unfold upTo
 split
 ·rename_i h
  obtain ⟨k,rfl⟩:∃ k:Nat,j=(k:Int):=⟨j.toNat,(Int.toNat_of_nonneg h).symm⟩
  rewrite [slicePick_upto']
  simp
 ·rename_i h
  obtain ⟨k,rfl⟩:∃ k:Nat,j=-(k:Int):=⟨(-j).toNat,KQ h⟩
  rewrite [slicePick_butLast _ _ (KR h)]
  simp
theorem Ct {vs:List Value} (j:Int):slicePick (List.toArray vs) (some j) none none=(ft vs j).toArray:=by
 unfold ft
 split
 ·rename_i h
  obtain ⟨k,rfl⟩:∃ k:Nat,j=(k:Int):=⟨j.toNat,(Int.toNat_of_nonneg h).symm⟩
  rewrite [slicePick_from']
  simp
 ·rename_i h
  obtain ⟨k,rfl⟩:∃ k:Nat,j=-(k:Int):=⟨(-j).toNat,KQ h⟩
  rewrite [slicePick_last _ _ (KR h)]
  simp
theorem CX {α β:Type} {R:α→β→Prop} {l:List α} {m:List β} (h:aI R l m) (j:Int):aI R (upTo l j) (upTo m j):=by
 unfold upTo
 refine sY (h.length ..)▸?_
 split
 ·exact h.take _
 ·exact h.take _
theorem Ep {α β:Type} {R:α→β→Prop} {l:List α} {m:List β} (h:aI R l m) (j:Int):aI R (ft l j) (ft m j):=by
 unfold ft
 refine sY (h.length ..)▸?_
 split
 ·exact h.drop _
 ·exact h.drop _
noncomputable abbrev cX (l u:Value):Obj:={cls:=.type "slice",data:=.fields #[l,u,.none]}
section
variable {c:FC} {g:Gh} {loc:Loc} {H:aa} {s:Shared} {Q E:VP} {v k k':AV} {x xk MN:Value} {value lo hi:Expr} {sp:Pos}
theorem BE {j:Int} (h:0 < j):((j.toNat:Nat):Int)=j∧1≤j.toNat:=⟨Int.toNat_of_nonneg (Int.le_of_lt h),Int.pos_iff_toNat_pos.mp h⟩
theorem zV {j:Int} {tj:Tok} (R:Rep b c g loc H s.heap) (V:ak b g v x) (hp:ao b c g loc s (Mine.sliceTo v j H) Q E) :
  wpAny (model b.prog b.w) c.A (subscriptTail value (.Slice Option.none (some hi) Option.none sp) x (.ref s.heap.objs.size)) Q E {s with heap:=s.heap.push (cX .none (.int j tj))}:=by
 have kp:∀ a o,s.heap.get? a=some o→(s.heap.push (cX .none (.int j tj))).get? a=some o:=λ_ _ e=>Heap.get?_push_of_some _ e
 have R2:=R.keep kp
 cases v with
 |tup l=>
  refine aQ (ao.ite hp) ?_;rintro ⟨z1,z2,z3⟩ hp
  refine aJ R ?_;clear R;intro m ag af R3
  obtain ⟨a,rfl,ob,vs,q,q1,q2,q3,q4,q5⟩:=V.inv
  have hT:IsTup (s.heap.push (cX .none (.int j tj))) a (List.toArray vs):=⟨ob,kp _ _ (R3.there q1),q2,q,q3⟩
  have hsz:(List.toArray vs).size=l.length:=q5.all.length.symm
  refine aQ (BE z1) ?_;intro hj h1
  refine tail_any (s:={s with heap:=s.heap.push (cX .none (.int j tj))}) hT.typeIs slot_tuple_getitem.lookup (CY (j:=j.toNat) hT (by rw [hj];exact Heap.IsSliceOf.new s.heap .none (.int j tj) .none) h1 (by rw [hsz];exact Int.ofNat_lt.mp (by rw [hj];exact z2)) (by rw [hsz];exact z3) ?_) (ops:=[.ref s.heap.objs.size,.ref a]) rfl
  exact hp _ _ _ s.toks (bJ g ((s.heap.push (cX .none (.int j tj))).objs.size,i8 (vs.take j.toNat) 0)) (ic R2 (λ_ _ e=>Heap.get?_push_of_some _ e) (Nat.le_refl _) (Heap.get?_push_size _ rfl))
   (.tup (vs:=vs.take j.toNat) (.inl (.head _)) rfl rfl rfl (.of ((q5.all.take _).imp λ_ _=>ak.mono (bJ g ((s.heap.push (cX .none (.int j tj))).objs.size,i8 (vs.take j.toNat) 0)))))
 |fl l=>
  refine aQ (ao.ite hp) ?_;intro hz hp
  refine aJ R ?_;clear R;intro m ag af R3
  refine eO (dz R3 V (l:=l) rfl) ?_;rintro a ob vs q rfl q1 q2 q3 q4 q5
  have hL:(s.heap.push (cX .none (.int j tj))).IsList a (List.toArray vs):=⟨ob,kp _ _ q1,q2,q,q3⟩
  refine tail_any (s:={s with heap:=s.heap.push (cX .none (.int j tj))}) hL.typeIs slot_list_getitem.lookup (wpAny_getItem_list_slice hL (Heap.IsSliceOf.new s.heap .none (.int j tj) .none) .none (.int j tj) .none (by simp) ?_ (Nat.le_trans (Nat.le_of_eq q5.all.length.symm) hz)) (ops:=[.ref s.heap.objs.size,.ref a]) rfl
  rewrite [AU]
  exact hp _ _ _ s.toks (bJ g ((s.heap.push (cX .none (.int j tj))).objs.size,bG (upTo vs j) 0)) (ic R2 (λ_ _ e=>Heap.get?_push_of_some _ e) (Nat.le_refl _) (Heap.get?_push_size _ rfl))
   (.fl (vs:=upTo vs j) (.inl (.head _)) rfl rfl rfl (.of ((CX q5.all j).imp λ_ _=>ak.mono (bJ g ((s.heap.push (cX .none (.int j tj))).objs.size,bG (upTo vs j) 0)))))
 |_=>exact hp.elim
theorem zW {i j:Int} {ti tj:Tok} (R:Rep b c g loc H s.heap) (V:ak b g v x) (hp:ao b c g loc s (Mine.ja v i j H) Q E) :
  wpAny (model b.prog b.w) c.A (subscriptTail value (.Slice (some lo) (some hi) Option.none sp) x (.ref s.heap.objs.size)) Q E {s with heap:=s.heap.push {cls:=.type "slice",data:=.fields #[.int i ti,.int j tj,.none]}}:=by
 refine gq (P:=(ao b c g loc s · Q E)) (C:=λx=>wpAny (model b.prog b.w) c.A (subscriptTail value (.Slice (some lo) (some hi) Option.none sp) x (.ref s.heap.objs.size)) Q E {s with heap:=s.heap.push {cls:=.type "slice",data:=.fields #[.int i ti,.int j tj,.none]}}) id V hp λl t hp=>?_
 refine aQ (ao.ite hp) ?_;rintro ⟨z0,z1,z2,z3⟩ hp
 refine aJ R ?_;clear R;intro m ag af R4
 obtain ⟨T,id,hl,hT,hg⟩:=SBH.sliceItem_ss (s:=s) (A:=c.A) (E:=E) (Q:=Q) keptFrN ⟨R4.fr,R4.news⟩ (λh' t' k' a=>by
  rw [zU z0 z1 z2]
  exact hp g _ h' k' (.refl _) ⟨m,ag,af,R4.ofNews a.1 a.2⟩ (.str _ _)) (by exact z3)
 exact tail_any hT hl hg rfl
theorem wh {j:Int} {tj:Tok} (R:Rep b c g loc H s.heap) (V:ak b g v x) (hp:ao b c g loc s (Mine.sliceFrom v j H) Q E) :
  wpAny (model b.prog b.w) c.A (subscriptTail value (.Slice (some lo) Option.none Option.none sp) x (.ref s.heap.objs.size)) Q E {s with heap:=s.heap.push (cX (.int j tj) .none)}:=by
 have kp:∀ a o,s.heap.get? a=some o→(s.heap.push (cX (.int j tj) .none)).get? a=some o:=λ_ _ e=>Heap.get?_push_of_some _ e
 have R2:=R.keep kp
 cases v with
 |tup l=>
  refine aQ (ao.ite hp) ?_;rintro ⟨z1,z2,z3⟩ hp
  refine aJ R ?_;clear R;intro m ag af R3
  obtain ⟨a,rfl,ob,vs,q,q1,q2,q3,q4,q5⟩:=V.inv
  have hT:IsTup (s.heap.push (cX (.int j tj) .none)) a (List.toArray vs):=⟨ob,kp _ _ (R3.there q1),q2,q,q3⟩
  have hsz:(List.toArray vs).size=l.length:=q5.all.length.symm
  refine aQ (BE (Int.lt_of_lt_of_le Int.one_pos z1)) ?_;intro hj h1
  refine tail_any (s:={s with heap:=s.heap.push (cX (.int j tj) .none)}) hT.typeIs slot_tuple_getitem.lookup (getItem_tuple_from (a:=j.toNat) hT (by rw [hj];exact Heap.IsSliceOf.new s.heap (.int j tj) .none .none) h1 (by rw [hsz];exact Int.ofNat_le.mp (by rw [hj];exact z2)) ?_ (by rw [hsz];exact z3)) (ops:=[.ref s.heap.objs.size,.ref a]) rfl
  exact hp _ _ _ s.toks (bJ g ((s.heap.push (cX (.int j tj) .none)).objs.size,i8 (vs.drop j.toNat) 0)) (ic R2 (λ_ _ e=>Heap.get?_push_of_some _ e) (Nat.le_refl _) (Heap.get?_push_size _ rfl))
   (.tup (vs:=vs.drop j.toNat) (.inl (.head _)) rfl rfl rfl (.of ((q5.all.drop _).imp λ_ _=>ak.mono (bJ g ((s.heap.push (cX (.int j tj) .none)).objs.size,i8 (vs.drop j.toNat) 0)))))
 |fl l=>
  refine aQ (ao.ite hp) ?_;intro hz hp
  refine aJ R ?_;clear R;intro m ag af R3
  refine eO (dz R3 V (l:=l) rfl) ?_;rintro a ob vs q rfl q1 q2 q3 q4 q5
  have hL:(s.heap.push (cX (.int j tj) .none)).IsList a (List.toArray vs):=⟨ob,kp _ _ q1,q2,q,q3⟩
  refine tail_any (s:={s with heap:=s.heap.push (cX (.int j tj) .none)}) hL.typeIs slot_list_getitem.lookup (wpAny_getItem_list_slice hL (Heap.IsSliceOf.new s.heap (.int j tj) .none .none) (.int j tj) .none .none (by simp) ?_ (Nat.le_trans (Nat.le_of_eq q5.all.length.symm) hz)) (ops:=[.ref s.heap.objs.size,.ref a]) rfl
  rewrite [Ct]
  exact hp _ _ _ s.toks (bJ g ((s.heap.push (cX (.int j tj) .none)).objs.size,bG (ft vs j) 0)) (ic R2 (λ_ _ e=>Heap.get?_push_of_some _ e) (Nat.le_refl _) (Heap.get?_push_size _ rfl))
   (.fl (vs:=ft vs j) (.inl (.head _)) rfl rfl rfl (.of ((Ep q5.all j).imp λ_ _=>ak.mono (bJ g ((s.heap.push (cX (.int j tj) .none)).objs.size,bG (ft vs j) 0)))))
 |_=>exact hp.elim
end
noncomputable def Ex.sliceTo (o hi:Ex b cs n) (sp p:Pos):Ex b cs n where
 py:=.Subscript o.py (.Slice Option.none (some hi.py) Option.none sp) p
 run:=λloc H=>(o.run loc H).bind λv H=>(hi.run loc H).bind λk H=>iE (λj=>Mine.sliceTo v j H) k
 ok:=λO c g loc H s Q E G R hp=>Subscript_ (o.ok O c g loc H s _ E G R (hp.seq λv H1 g1 xv h1 t1 c9 R1 V1 dc=>
  wpAny_Slice (evalPart_none_step (hi.ok O c g1 loc H1 {s with heap:=h1,toks:=t1} _ E G R1 (dc.seq λk H2 g2 xk h2 t2 aP R2 V2 bA=>evalPart_none_step (by
   refine bk (qk V2 (P:=(ao b c g2 loc {s with heap:=h2,toks:=t2} · Q E)) id bA) ?_;rintro j t rfl rfl bA
   exact zV (s:={s with heap:=h2,toks:=t2}) R2 (V1.mono aP) bA))))))
noncomputable def Ex.sliceFrom (o lo:Ex b cs n) (sp p:Pos):Ex b cs n where
 py:=.Subscript o.py (.Slice (some lo.py) Option.none Option.none sp) p
 run:=λloc H=>(o.run loc H).bind λv H=>(lo.run loc H).bind λk H=>iE (λj=>Mine.sliceFrom v j H) k
 ok:=λO c g loc H s Q E G R hp=>Subscript_ (o.ok O c g loc H s _ E G R (hp.seq λv H1 g1 xv h1 t1 c9 R1 V1 dc=>
  wpAny_Slice (evalPart_some_step (lo.ok O c g1 loc H1 {s with heap:=h1,toks:=t1} _ E G R1 (dc.seq λk H2 g2 xk h2 t2 aP R2 V2 bA=>evalPart_none_step (evalPart_none_step (by
   refine bk (qk V2 (P:=(ao b c g2 loc {s with heap:=h2,toks:=t2} · Q E)) id bA) ?_;rintro j t rfl rfl bA
   exact wh (s:={s with heap:=h2,toks:=t2}) R2 (V1.mono aP) bA)))))))
noncomputable def Ex.ja (o lo hi:Ex b cs n) (sp p:Pos):Ex b cs n where
 py:=.Subscript o.py (.Slice (some lo.py) (some hi.py) Option.none sp) p
 run:=λloc H=>(o.run loc H).bind λv H=>(lo.run loc H).bind λk H=>(hi.run loc H).bind λk' H=>iE (λi=>iE (λj=>Mine.ja v i j H) k') k
 ok:=λO c g loc H s Q E G R hp=>Subscript_ (o.ok O c g loc H s _ E G R (hp.seq λv H1 g1 xv h1 t1 c9 R1 V1 dc=>
  wpAny_Slice (evalPart_some_step (lo.ok O c g1 loc H1 {s with heap:=h1,toks:=t1} _ E G R1 (dc.seq λk H2 g2 xk h2 t2 aP R2 V2 bA=>evalPart_some_step (hi.ok O c g2 loc H2 {s with heap:=h2,toks:=t2} _ E G R2 (ao.seq bA λk' H3 g3 MN h3 t3 gV R3 V3 fF=>evalPart_none_step (by
   refine bk (qk V2 (P:=(ao b c g3 loc {s with heap:=h3,toks:=t3} · Q E)) id fF) ?_;rintro i t rfl rfl fF
   refine bk (qk V3 (P:=(ao b c g3 loc {s with heap:=h3,toks:=t3} · Q E)) id fF) ?_;rintro j t rfl rfl fF
   exact zW (s:={s with heap:=h3,toks:=t3}) R3 (V1.mono (aP.trans gV)) fF))))))))
end
section
variable {b:Base} {cs:Scope} {n:Nat}
theorem sM {c:FC} {g:Gh} {loc:Loc} {H:aa} {h:Heap} {m:Str→Option Value} {ag:List (List (Addr×Obj))} {af:List (Addr×Obj)} (R:aE b c g loc H h m ag af) {i:Nat} {x:Value} {l:List AV} (V:ak b g (.ref i) x) (e:H[i]?=some (.list l)) :
  ∃ a vs k,x=.ref a∧ag[i]?=some [(a,bG vs k)]∧h.get? a=some (bG vs k)∧aX b g l vs:=by
 refine ai V.inv ?_;rintro a rfl hr
 refine fk (sQ R hr e) ?_;intro vs k h1 hv
 exact ⟨_,_,_,rfl,h1,R.cell _ (dp R h1 (.head _)),.of hv⟩
theorem rF {c:FC} {g:Gh} {loc:Loc} {H:aa} {h:Heap} {m:Str→Option Value} {ag:List (List (Addr×Obj))} {af:List (Addr×Obj)} (R:aE b c g loc H h m ag af) {i:Nat} {a:Addr} {vs ys:List Value} {k:Nat} {l:List AV} (hi:ag[i]?=some [(a,bG vs k)]) (ha:h.get? a=some (bG vs k))
  {f:Array Value→Array Value} (e:f vs.toArray=ys.toArray) (V:aX b g l ys):Rep b c g loc (H.set i (.list l)) (h.update a (Obj.mapSeq f)):=by
 have q:=PySem.IsL.update (n:=k) (items:=vs.toArray) ha f
 rw [e] at q
 exact ⟨m,_,af,R.upd (pre:=[]) (post:=[]) (o':=bG ys (if ys.toArray.size==vs.toArray.size then k else k+1)) (ob:=.list l) hi q (Heap.SameBut.update ..) (.list V.all)⟩
structure Bm (b:Base) (name:Str) where
 T:String
 id:String
 pa:PlainAttrs T
 slot:Slot T name id
 uR:typeOf (.builtin id)=pure (.type "method_descriptor")
 is:AV→aa→Bool
 i0:∀ {c:FC} {g:Gh} {loc:Loc} {H:aa} {s:Shared} {v:AV} {x:Value},Rep b c g loc H s.heap→ak b g v x→is v H=true→s.TypeIs x T∧∀ a,x=.ref a→∃ o,s.heap.get? a=some o∧o.dict=none
 run:AV→List AV→aa→Res AV
 ok:b.Ok→∀ (c:FC) (g:Gh) (loc:Loc) (H:aa) (s:Shared) (Q E:VP) (cs:Scope) (n:Nat) (v:AV) (x:Value) (args:List AV) (vals:List Value),c.Good b cs n→Rep b c g loc H s.heap→ak b g v x→aX b g args vals→
  ao b c g loc s (run v args H) Q E→wpAny (model b.prog b.w) c.A (PySem.call (.builtin id) (x::vals) []) Q E s
noncomputable def Ex.bm {name:Str} (o:Ex b cs n) (M:Bm b name) (args:bx b cs n) (ap p:Pos)
  (hb:autoParam (attributeBase o.py=rE) Js) (he:autoParam ((Nat.beq ap.endLine p.line&&Nat.blt args.py.length 30)=true) zB):Ex b cs n where
 py:=.Call (.Attribute o.py name ap) args.py [] p
 run:=λloc H=>(o.run loc H).bind λv H=>match M.is v H with
  |true=>(args.vals loc H).bind λvs H=>M.run v vs H
  |false=>.stuck
 ok:=λO c g loc H s Q E G R hp=>(y7 hb he c.env).elim λ_ he=>MethodCall_ (o.ok O c g loc H s _ E G R (hp.seq λv H1 g1 x h1 t1 c9 R1 V1 dc=>by
  split at dc
  ·rename_i hi
   refine aQ (M.i0 (s:={s with heap:=h1,toks:=t1}) R1 V1 hi) ?_;intro q1 q2
   refine getMethod_builtin q1 M.pa M.slot M.uR q2 ?_
   refine callWith_builtin (by rw [bx.plain]) ?_
   exact wpAny_mono (bx.ij O (f:=.builtin M.id) p args c g1 loc H1 {s with heap:=h1,toks:=t1} (λvs aO=>wpAny (model b.prog b.w) c.A (PySem.call (.builtin M.id) (x::vs) []) Q E aO) E G R1 (dc.jO λvs H2 g2 vals h2 t2 aP R2 V2 bA=>
    M.ok O c g2 loc H2 {s with heap:=h2,toks:=t2} Q E _ _ v x vs vals G R2 (V1.mono aP) V2 bA)) (λa aO h=>by rw [h.1];exact h.2) λ_ _ x=>x
  ·exact dc.elim)) he
noncomputable def isList (v:AV) (H:aa):Bool:=match v with
 |.ref i=>match H[i]? with
  |some (.list _)=>true
  |_=>false
 |_=>false
theorem B4 {v:AV} {H:aa}:isList v H=true→∃ i l,v=.ref i∧H[i]?=some (.list l):=by
 cases v with
 |ref i=>
  show (match H[i]? with |some (.list _)=>true |_=>false)=true→_
  generalize e:H[i]?=o
  cases o with
  |none=>exact nofun
  |some o=>cases o<;>intro h<;>first |exact ⟨i,_,rfl,e⟩ |cases h
 |_=>exact nofun
noncomputable def sG (r:Nat→List AV→Res AV) (v:AV) (H:aa):Res AV:=match v with
 |.ref i=>match H[i]? with
  |some (.list l)=>r i l
  |_=>.stuck
 |_=>.stuck
theorem mY {P:Res AV→Prop} {r:Nat→List AV→Res AV} {v:AV} {H:aa} (hs:¬ P .stuck) (hp:P (sG r v H)):∃ i l,v=.ref i∧H[i]?=some (.list l)∧P (r i l):=by
 cases v with
 |ref i=>
  replace hp:P (match H[i]? with |some (.list l)=>r i l |_=>.stuck):=hp
  revert hp
  generalize ho:H[i]?=o
  cases o with
  |none=>exact λhp=>absurd hp hs
  |some o=>
   cases o with
   |list l=>exact λhp=>⟨i,l,rfl,ho,hp⟩
   |_=>exact λhp=>absurd hp hs
 |_=>exact absurd hp hs
theorem rJ {c:FC} {g:Gh} {loc:Loc} {H:aa} {s:Shared} {v:AV} {x:Value} (R:Rep b c g loc H s.heap) (V:ak b g v x) (h:isList v H=true):s.TypeIs x "list"∧∀ a,x=.ref a→∃ o,s.heap.get? a=some o∧o.dict=none:=by
 refine aJ R ?_;clear R;intro m ag af R
 refine fk (B4 h) ?_;rintro i l rfl e
 refine lA (sM R V e) ?_;rintro a vs k rfl h1 h2 h3
 exact ⟨⟨_,h2,rfl⟩,λa' q=>by cases q;exact ⟨_,h2,rfl⟩⟩
noncomputable def aH (b:Base):Bm b "append" where
 T:="list"
 id:="list.append"
 pa:=PySem.F.plainAttrs_list
 slot:=PySem.F.slot_list_append
 uR:=PySem.F.type_list_append
 is:=isList
 i0:=rJ
 run:=λv args H=>lu (λu=>sG (λi l=>if l.length < aq then .ok .none (H.set i (.list (l++[u]))) else .stuck) v H) args
 ok:=λO c g loc H s Q E cs n v x args vals G R V W hp=>by
  refine dw (P:=(ao b c g loc s · Q E)) (C:=λvals=>wpAny (model b.prog b.w) c.A (PySem.call (.builtin "list.append") (x::vals) []) Q E s) id W hp λu y V1 hp=>?_
  refine bk (mY (P:=(ao b c g loc s · Q E)) id hp) ?_;rintro i l rfl hl hp
  refine aQ (ao.ite hp) ?_;intro hz hp
  refine aJ R ?_;clear R;intro m ag af R'
  refine lA (sM R' V hl) ?_;rintro a vs k rfl h1 h2 h3
  refine call_meets PySem.F.slot_list_append ⟨_,h2,rfl⟩ PySem.F.entry_list_append (PySem.F.args_list_append_2 _ _) (PySem.list_append a vs.toArray k y (show vs.length≤aq from h3.length▸Nat.le_of_lt hz)) ⟨h2,?_⟩
  exact hp g .none _ s.toks (.refl g) (rF R' (ys:=vs++[y]) h1 h2 (by simp) (.of (h3.all.append (.cons V1 .nil)))) .none
theorem DB {vs:List Value} (h:vs.length - 1 < vs.length):vs.toArray.eraseIdxIfInBounds (vs.length - 1)=(vs.take (vs.length - 1)).toArray:=by
 apply Array.ext'
 simp only [Array.eraseIdxIfInBounds,List.size_toArray]
 refine sY (dif_pos h ..)▸?_;refine sY (Array.toList_eraseIdx ..)▸?_;rewrite [List.eraseIdx_eq_take_drop_succ];refine sY (List.drop_of_length_le (show vs.length≤vs.length - 1+1 from Nat.sub_le_iff_le_add.mp (Nat.le_refl _)) ..)▸?_;rewrite [List.append_nil];rfl
noncomputable def z9 (b:Base):Bm b "pop" where
 T:="list"
 id:="list.pop"
 pa:=PySem.F.plainAttrs_list
 slot:=PySem.F.slot_list_pop
 uR:=PySem.F.type_list_pop
 is:=isList
 i0:=rJ
 run:=λv args H=>match args with
  |[]=>sG (λi l=>bV (λu=>if l.length≤aq then .ok u (H.set i (.list (l.take (l.length - 1)))) else .stuck) l[l.length - 1]?) v H
  |_=>.stuck
 ok:=λO c g loc H s Q E cs n v x args vals G R V W hp=>by
  cases args with
  |cons=>exact hp.elim
  |nil=>
   cases nil_of W
   refine bk (mY (P:=(ao b c g loc s · Q E)) id hp) ?_;rintro i l rfl hl hp
   refine ai (cW (P:=(ao b c g loc s · Q E)) id hp) ?_;intro u hu hp
   refine aQ (ao.ite hp) ?_;intro hz hp
   refine aJ R ?_;clear R;intro m ag af R'
   refine lA (sM R' V hl) ?_;rintro a vs k rfl h1 h2 h3
   have hsz:vs.length=l.length:=h3.length.symm
   refine ai (h3.all.get hu) ?_;intro y hy V1
   refine call_meets PySem.F.slot_list_pop ⟨_,h2,rfl⟩ PySem.F.entry_list_pop (PySem.F.args_list_pop_1 _) (PySem.MeetsSeq.list_pop_last a vs.toArray k y (show vs.toArray[vs.length - 1]?=some y by rw [hsz,List.getElem?_toArray];exact hy) (show vs.length≤aq by rw [hsz];exact hz)) ⟨h2,?_⟩
   exact hp g y _ s.toks (.refl g) (rF R' (ys:=vs.take (l.length - 1)) h1 h2 (hsz▸DB ((List.getElem?_eq_some_iff.mp hy).1 |> λh=>by rw [← hsz] at h;exact h)) (.of (h3.all.take _))) V1
end
section
open PySem.StrLaws PySem.Builtin PySem.Builtin.Str
noncomputable def bT (c:Nat) (z:List Nat):List Nat→List Nat
 |[]=>[]
 |k::r=>if k=c then z++bT c z r else k::bT c z r
theorem eV (c:Nat) (z:List Nat):∀ a b:List Nat,bT c z (a++b)=bT c z a++bT c z b
 |[],_=>rfl
 |k::r,b=>by
  have ih:=eV c z r b
  by_cases h:k=c
  ·show (if k=c then z++bT c z (r++b) else k::bT c z (r++b))=(if k=c then z++bT c z r else k::bT c z r)++bT c z b
   refine sY (if_pos h ..)▸?_;refine sY (if_pos h ..)▸?_;refine sY (ih ..)▸?_;rewrite [List.append_assoc];rfl
  ·show (if k=c then z++bT c z (r++b) else k::bT c z (r++b))=(if k=c then z++bT c z r else k::bT c z r)++bT c z b
   rw [if_neg h,if_neg h,ih];rfl
theorem iz (c:Nat) (z:List Nat):∀ l:List Nat,c∉l→bT c z l=l
 |[],_=>rfl
 |k::r,h=>by
  have h1:¬ k=c:=λe=>h (e▸List.mem_cons_self ..)
  have h2:c∉r:=λm=>h (List.mem_cons_of_mem _ m)
  unfold bT
  refine sY (if_neg h1 ..)▸?_;refine sY (iz c z r h2 ..)▸?_;rfl
theorem sx (c:Nat) (z:Str):∀ parts:List Str,(∀ p∈parts,c∉p.cps.toList)→bT c z.cps.toList (Str.join ⟨#[c]⟩ parts).cps.toList=(Str.join z parts).cps.toList
 |[],_=>rfl
 |[p],h=>iz c _ _ (h p (List.mem_singleton.mpr rfl))
 |p::q::r,h=>by
  have ih:=sx c z (q::r) λa ha=>h a (List.mem_cons_of_mem _ ha)
  show bT c z.cps.toList (p++⟨#[c]⟩++Str.join ⟨#[c]⟩ (q::r)).cps.toList=(p++z++Str.join z (q::r)).cps.toList
  simp only [Str.cps_append,Array.toList_append]
  rewrite [eV,eV];refine sY (ih ..)▸?_;refine sY (iz c _ _ (h p (List.mem_cons_self ..)) ..)▸?_
  show p.cps.toList++bT c z.cps.toList [c]++_=_
  simp [bT]
theorem ye (x z:Str) (c:Nat):(Txt.replace x ⟨#[c]⟩ z).cps.toList=bT c z.cps.toList x.cps.toList:=by
 rewrite [replace_one];refine (sx c z _ (split_free x c) ..)▸?_;rewrite [join_split];rfl
noncomputable def bz (c:Nat):List Nat→Option Nat
 |[]=>none
 |k::r=>if k=c then some 0 else (bz c r).map (·+1)
theorem occ_first (x:Str) (c:Nat):∀ (n i:Nat),i+n=x.length+1→(forIn (List.range' i n) ((#[]:Array Nat),i) (occBody x ⟨#[c]⟩ x.length 1)).run.fst.toList=((bz c (x.cps.toList.drop i)).map (i+·)).toList:=by
 have done:∀ (l:List Nat) (k f:Nat),(forIn l ((#[k]:Array Nat),f) (occBody x ⟨#[c]⟩ x.length 1)).run.fst.toList=[k]:=by
  intro l
  induction l with
  |nil=>intro k f;rfl
  |cons a l ih=>
   intro k f
   rw [List.forIn_cons]
   unfold occBody
   rw [if_neg (by simp)]
   exact ih k f
 intro n
 induction n with
 |zero=>
  intro i h
  have:x.cps.toList.drop i=[]:=by
   apply List.drop_of_length_le
   have:x.cps.toList.length=x.length:=by simp [Str.length]
   rw [this,show i=x.length+1 from h];exact Nat.le_succ _
  rw [this];rfl
 |succ n ih=>
  intro i h
  rw [List.range'_succ,List.forIn_cons]
  unfold occBody
  have key:=subAt_one x c i
  cases hi:x.cps.toList[i]? with
  |none=>
   have:x.cps.toList.drop i=[]:=by simpa using hi
   rw [if_neg (λq=>by have:=key.mp ⟨q.1.2,q.2⟩;rw [hi] at this;cases this)]
   have Io:=ih (i+1) ((Nat.add_right_comm _ _ _).trans h)
   have e0:x.cps.toList.drop (i+1)=[]:=by
    rw [← List.drop_drop,this];rfl
   rw [e0] at Io
   rw [this]
   have gen:∀ (l:List Nat) (f:Nat),(∀ j∈l,i < j)→(forIn l ((#[]:Array Nat),f) (occBody x ⟨#[c]⟩ x.length 1)).run.fst.toList=[]:=by
    intro l
    induction l with
    |nil=>intro f _;rfl
    |cons a l ih=>
     intro f hl
     rw [List.forIn_cons]
     unfold occBody
     rw [if_neg (λq=>by
      have h1:=(subAt_one x c a).mp ⟨q.1.2,q.2⟩
      have h2:=(List.getElem?_eq_some_iff.mp h1).1
      have h3:x.cps.toList.length≤i:=by simpa using hi
      have:=hl a (List.mem_cons_self ..)
      exact Nat.lt_irrefl _ (Nat.lt_trans (Nat.lt_of_lt_of_le h2 h3) this))]
     exact ih f λj hj=>hl j (List.mem_cons_of_mem _ hj)
   exact gen _ i (λj hj=>(List.mem_range'_1.mp hj).1)
  |some d=>
   refine bg (List.getElem?_eq_some_iff.mp hi) ?_;intro lH hd
   have ed:x.cps.toList.drop i=d::x.cps.toList.drop (i+1):=by rw [← hd];exact List.drop_eq_getElem_cons lH
   rw [ed]
   by_cases q:d=c
   ·subst q
    have hs:=key.mpr hi
    rw [if_pos ⟨⟨⟨by simp,Nat.le_refl _⟩,hs.1⟩,hs.2⟩]
    have:=done (List.range' (i+1) n) i (i+1)
    simp only [bz,if_true]
    exact this
   ·rw [if_neg (λz=>by have:=key.mp ⟨z.1.2,z.2⟩;rw [hi] at this;exact q (Option.some.inj this))]
    simp only [bz,if_neg q,Option.map_map]
    have Io:=ih (i+1) ((Nat.add_right_comm _ _ _).trans h)
    have step:∀ (l:List Nat) (f f':Nat),(∀ j∈l,f≤j∧f'≤j)→(forIn l ((#[]:Array Nat),f) (occBody x ⟨#[c]⟩ x.length 1)).run.fst.toList=(forIn l ((#[]:Array Nat),f') (occBody x ⟨#[c]⟩ x.length 1)).run.fst.toList:=by
     intro l
     induction l with
     |nil=>intros;rfl
     |cons a l ih=>
      intro f f' hl
      refine aQ (hl a (List.mem_cons_self ..)) ?_;intro q1 q2
      rw [List.forIn_cons,List.forIn_cons]
      unfold occBody
      by_cases hc:a+(⟨#[c]⟩:Str).length≤x.length∧subAt x ⟨#[c]⟩ a=true
      ·rw [if_pos ⟨⟨⟨by simp,q1⟩,hc.1⟩,hc.2⟩,if_pos ⟨⟨⟨by simp,q2⟩,hc.1⟩,hc.2⟩]
      ·rw [if_neg (λz=>hc ⟨z.1.2,z.2⟩),if_neg (λz=>hc ⟨z.1.2,z.2⟩)]
       exact ih f f' λj hj=>hl j (List.mem_cons_of_mem _ hj)
    have e:=step (List.range' (i+1) n) i (i+1) (λj hj=>have q:=(List.mem_range'_1.mp hj).1;⟨Nat.le_of_succ_le q,q⟩)
    refine Eq.trans e (Io.trans ?_)
    congr 2
    funext k
    show i+1+k=i+(k+1)
    exact Nat.add_right_comm _ _ _
theorem yP (x:Str) (c lo:Nat) (h:lo≤x.length):occurrences x ⟨#[c]⟩ lo x.length 1=((bz c (x.cps.toList.drop lo)).map (lo+·)).toList:=by
 rewrite [occ_eq]
 exact occ_first x c _ lo (Nat.add_sub_cancel' (Nat.le_succ_of_le h))
end
section
variable {b:Base} {cs:Scope} {n:Nat}
noncomputable def sW (v:AV) (_:aa):Bool:=match v with
 |.str _=>true
 |_=>false
theorem uf {c:FC} {g:Gh} {loc:Loc} {H:aa} {s:Shared} {v:AV} {x:Value} (R:Rep b c g loc H s.heap) (V:ak b g v x) (h:sW v H=true):s.TypeIs x "str"∧∀ a,x=.ref a→∃ o,s.heap.get? a=some o∧o.dict=none:=by
 cases v with
 |str l=>exact V.inv.elim λt e=>e▸⟨typeIs_str _ _ _,λ_ e=>nomatch e⟩
 |_=>exact Bool.noConfusion h
noncomputable def cT (l:List Nat) (c:Nat) (i:Nat):Int:=match bz c (l.drop i) with
 |some k=>(i+k:Nat)
 |none=>-1
noncomputable def DD (r:Nat→Res AV) (v:AV):Res AV:=match v with
 |.str l=>match l with
  |[c]=>r c
  |_=>.stuck
 |_=>.stuck
theorem wF {P:Res AV→Prop} {r:Nat→Res AV} {v:AV} (hs:¬ P .stuck) (hp:P (DD r v)):∃ c,v=.str [c]∧P (r c):=by
 cases v with
 |str l=>
  match l,hp with
  |[c],hp=>exact ⟨c,rfl,hp⟩
  |[],hp=>exact absurd hp hs
  |_::_::_,hp=>exact absurd hp hs
 |_=>exact absurd hp hs
theorem Ez {l:List Nat} {cp:Nat} {i:Int} (h0:0≤i) (h1:i.toNat≤l.length):Txt.find3 ⟨l.toArray⟩ ⟨#[cp]⟩ i=cT l cp i.toNat:=by
 have hi:fromIndex (⟨l.toArray⟩:Str).length i=i.toNat:=by
  unfold fromIndex
  refine sY (if_neg (Int.not_lt.mpr h0) ..)▸?_
  exact congrArg Int.toNat (Int.max_eq_right h0)
 unfold Txt.find3 cT
 refine sY (hi ..)▸?_;rewrite [yP _ _ _ h1]
 simp only
 cases bz cp (l.drop i.toNat)<;>rfl
noncomputable def tn (b:Base):Bm b "find" where
 T:="str"
 id:="str.find"
 pa:=PySem.F.plainAttrs_str
 slot:=PySem.F.slot_str_find
 uR:=PySem.F.type_str_find
 is:=sW
 i0:=uf
 run:=λv args H=>onStr (λl=>E3 (λu w=>DD (λc=>iE (λi=>if 0≤i∧i.toNat≤l.length then .ok (.int (cT l c i.toNat)) H else .stuck) w) u) args) v
 ok:=λO c g loc H s Q E cs n v x args vals G R V W hp=>by
  refine gq (P:=(ao b c g loc s · Q E)) (C:=λx=>wpAny (model b.prog b.w) c.A (PySem.call (.builtin "str.find") (x::vals) []) Q E s) id V hp λl t hp=>?_
  refine rC (P:=(ao b c g loc s · Q E)) (C:=λvals=>wpAny (model b.prog b.w) c.A (PySem.call (.builtin "str.find") (.str ⟨l.toArray⟩ t::vals) []) Q E s) id W hp λu w y z V1 V2 hp=>?_
  refine ai (wF (P:=(ao b c g loc s · Q E)) id hp) ?_;rintro cp rfl hp
  refine bg V1.inv ?_;rintro t1 rfl
  refine hK (P:=(ao b c g loc s · Q E)) (C:=λz=>wpAny (model b.prog b.w) c.A (PySem.call (.builtin "str.find") [.str ⟨l.toArray⟩ t,.str ⟨[cp].toArray⟩ t1,z] []) Q E s) id V2 hp λi t2 hp=>?_
  refine aQ (ao.ite hp) ?_;rintro ⟨hz,B8⟩ hp
  refine SC.find3 ?_
  show Q (.int (Txt.find3 ⟨l.toArray⟩ ⟨#[cp]⟩ i) s.toks) _
  refine sY (Ez hz B8 ..)▸?_
  exact hp g _ s.heap _ (.refl g) R (.int _ _)
noncomputable def ql (b:Base):Bm b "index" where
 T:="str"
 id:="str.index"
 pa:=PySem.F.plainAttrs_str
 slot:=PySem.F.slot_str_index
 uR:=PySem.F.type_str_index
 is:=sW
 i0:=uf
 run:=λv args H=>onStr (λl=>lu (λu=>DD (λc=>bV (λk=>.ok (.int (k:Nat)) H) (bz c l)) u) args) v
 ok:=λO c g loc H s Q E cs n v x args vals G R V W hp=>by
  refine gq (P:=(ao b c g loc s · Q E)) (C:=λx=>wpAny (model b.prog b.w) c.A (PySem.call (.builtin "str.index") (x::vals) []) Q E s) id V hp λl t hp=>?_
  refine dw (P:=(ao b c g loc s · Q E)) (C:=λvals=>wpAny (model b.prog b.w) c.A (PySem.call (.builtin "str.index") (.str ⟨l.toArray⟩ t::vals) []) Q E s) id W hp λu y V1 hp=>?_
  refine ai (wF (P:=(ao b c g loc s · Q E)) id hp) ?_;rintro cp rfl hp
  refine bg V1.inv ?_;rintro t1 rfl
  refine ai (cW (P:=(ao b c g loc s · Q E)) id hp) ?_;intro k hk hp
  refine SC.index (i:=k) (rest:=[]) ?_ (hp g _ s.heap _ (.refl g) R (.int _ _))
  have:=yP ⟨l.toArray⟩ cp 0 (Nat.zero_le _)
  refine sY (show ([cp].toArray:Array Nat)=#[cp] from rfl ..)▸?_;refine sY (this ..)▸?_
  simp only [List.drop_zero,hk]
  simp
noncomputable def strsOf:List AV→Option (List (List Nat))
 |[]=>some []
 |.str l::r=>(strsOf r).map (l::·)
 |_::_=>none
noncomputable def cy (sep:List Nat):List (List Nat)→List Nat
 |[]=>[]
 |[x]=>x
 |x::r=>x++sep++cy sep r
noncomputable def dO (sep:List Nat) (ts:List (List Nat)):Nat:=ts.foldl (λk t=>k+t.length+sep.length) 0
theorem we {g:Gh}:∀ {l:List AV} {ts:List (List Nat)} {vs:List Value},aX b g l vs→strsOf l=some ts→∃ ps:List (Str×Tok),vs=strValues ps∧ps.map (·.1)=ts.map λt=>⟨t.toArray⟩
 |[],ts,_,V,h=>by cases h;exact ⟨[],nil_of V,rfl⟩
 |v::l,ts,_,V,h=>by
  refine bk (cons_of V) ?_;rintro x r rfl V Vs
  cases v with
  |str t=>
   refine bg V.inv ?_;rintro tk rfl
   refine ai (Option.map_eq_some_iff.mp h) ?_;rintro r hr rfl
   refine ai (we Vs hr) ?_;rintro ps rfl e2
   exact ⟨(⟨t.toArray⟩,tk)::ps,rfl,congrArg (_::·) e2⟩
  |_=>exact nomatch h
theorem uM (sep:List Nat):∀ ts:List (List Nat),Str.join ⟨sep.toArray⟩ (ts.map λt=>⟨t.toArray⟩)=⟨(cy sep ts).toArray⟩
 |[]=>rfl
 |[x]=>rfl
 |x::y::r=>by
  show (⟨x.toArray⟩:Str)++⟨sep.toArray⟩++Str.join ⟨sep.toArray⟩ ((y::r).map λt=>⟨t.toArray⟩)=_
  refine sY (uM sep (y::r) ..)▸?_;rewrite [mQ,mQ]
  rfl
theorem BV (sep:List Nat) (ts:List (List Nat)):((ts.map λt=>(⟨t.toArray⟩:Str)).toArray.foldl (·+·.length+(⟨sep.toArray⟩:Str).length) 0)=dO sep ts:=by
 unfold dO
 simp [List.foldl_map,Str.length]
noncomputable def dS (b:Base):Bm b "join" where
 T:="str"
 id:="str.join"
 pa:=PySem.F.plainAttrs_str
 slot:=PySem.F.slot_str_join
 uR:=PySem.F.type_str_join
 is:=sW
 i0:=uf
 run:=λv args H=>onStr (λsep=>lu (λu=>bV (λts=>if dO sep ts≤aq then .ok (.str (cy sep ts)) H else .stuck) ((itemsOf H u).bind strsOf)) args) v
 ok:=λO c g loc H s Q E cs n v x args vals G R V W hp=>by
  refine gq (P:=(ao b c g loc s · Q E)) (C:=λx=>wpAny (model b.prog b.w) c.A (PySem.call (.builtin "str.join") (x::vals) []) Q E s) id V hp λsep t hp=>?_
  refine dw (P:=(ao b c g loc s · Q E)) (C:=λvals=>wpAny (model b.prog b.w) c.A (PySem.call (.builtin "str.join") (.str ⟨sep.toArray⟩ t::vals) []) Q E s) id W hp λu y V1 hp=>?_
  refine ai (cW (P:=(ao b c g loc s · Q E)) id hp) ?_;intro ts ht hp
  refine aQ (ao.ite hp) ?_;intro hz hp
  refine ai (Option.bind_eq_some_iff.mp ht) ?_;intro l hl ht
  refine aJ (id R) ?_;intro m ag af R'
  refine eO (dz R' V1 hl) ?_;rintro a o vs q rfl h1 h2 h3 h4 h5
  refine ai (we h5 ht) ?_;rintro ps rfl e
  refine SC.join (l:=ps) ⟨o,h1,h2,q,h3⟩ e ?_ λt' k=>?_
  ·unfold JoinOk
   rewrite [BV]
   unfold Builtin.Str.tooLong
   simp only [Bool.not_eq_true',decide_eq_false_iff_not,Nat.not_lt]
   exact hz
  ·refine sY (show Txt.join ⟨sep.toArray⟩ (ts.map λt=>⟨t.toArray⟩)=Str.join ⟨sep.toArray⟩ (ts.map λt=>⟨t.toArray⟩) from StrLaws.glued_eq_join _ _ ..)▸?_;rewrite [uM]
   exact hp g _ s.heap _ (.refl g) R (.str _ _)
theorem Aw {A:Around} {E:VP} {s:Shared} {a a2:Addr} {vs ws:List Value} {k k2:Nat} {o2:Obj} {Q:VP} (h1:s.heap.get? a=some (bG vs k)) (h2:s.heap.get? a2=some o2) (hc:o2.cls=.type "tuple") (hd:o2.data=.seq ws.toArray k2) (hz:vs.toArray.size+ws.toArray.size≤aq)
  (h:Q .none {s with heap:=s.heap.update a (Obj.mapSeq λx=>x++ws.toArray)}):wpAny (model b.prog b.w) A (PySem.call (.builtin "list.extend") [.ref a,.ref a2] []) Q E s:=by
 refine wpAny_call_entry PySem.F.slot_list_extend ⟨_,h1,rfl⟩ PySem.F.entry_list_extend ?_ (PySem.F.args_list_extend_2 _ _)
 show wpAny _ _ (Builtin.List.listExtendWith (.ref a) (.ref a2) .none) _ _ s
 unfold Builtin.List.listExtendWith
 refine wpAny_bind (wpAny_typeOf ⟨o2,h2,hc⟩ ?_)
 have e1:(Builtin.List.listSameRef (.ref a) (.ref a2)||Value.type "tuple"==Value.type "list"||Value.type "tuple"==Value.type "tuple")=true:=by simp
 simp only [e1,if_true]
 refine wpAny_bind ?_
 unfold Builtin.List.listItems
 refine wpAny_bind (wpAny_seqItems h2 hd (wpAny_pure ?_))
 refine wpAny_bind ?_
 refine wpAny_bind (wpAny_seqItems h1 rfl (wpAny_pure ?_))
 have Ka:¬ (!vs.toArray.isEmpty&&Builtin.List.listTooLong (vs.toArray.size+ws.toArray.size))=true:=extend_door hz
 have Nr:(vs.toArray++ws.toArray).size≤sizeLine+1:=by rw [Array.size_append];exact Nat.le_succ_of_le hz
 have fin:wpAny (model b.prog b.w) A.in1 (Builtin.List.listUpdate (.ref a) (·++ws.toArray) >>= λ_=>ret .none) (λfin s'=>∃ v,fin=.done (.ret v)∧Q v s') E s:=
  wpAny_bind (m:=updateSeq a (·++ws.toArray)) (wpAny_updateSeq h1 rfl (wpAny_pure ⟨_,rfl,h⟩) (hz:=Nat.le_trans (Nat.le_add_right _ _) hz) (_hz':=Nr))
 refine sY (if_neg Ka ..)▸?_
 exact fin
noncomputable def EB (b:Base):Bm b "extend" where
 T:="list"
 id:="list.extend"
 pa:=PySem.F.plainAttrs_list
 slot:=PySem.F.slot_list_extend
 uR:=PySem.F.type_list_extend
 is:=isList
 i0:=rJ
 run:=λv args H=>lu (λu=>sG (λi l=>E2 (λr=>if l.length+r.length≤aq then .ok .none (H.set i (.list (l++r))) else .stuck) u) v H) args
 ok:=λO c g loc H s Q E cs n v x args vals G R V W hp=>by
  refine dw (P:=(ao b c g loc s · Q E)) (C:=λvals=>wpAny (model b.prog b.w) c.A (PySem.call (.builtin "list.extend") (x::vals) []) Q E s) id W hp λu y V1 hp=>?_
  refine bk (mY (P:=(ao b c g loc s · Q E)) id hp) ?_;rintro i l rfl hl hp
  refine ai (CZ (P:=(ao b c g loc s · Q E)) id hp) ?_;rintro r rfl hp
  refine aQ (ao.ite hp) ?_;intro hz hp
  refine aJ R ?_;clear R;intro m ag af R'
  refine lA (sM R' V hl) ?_;rintro a vs k rfl h1 h2 h3
  obtain ⟨a2,rfl,o2,ws,k2,q1,q2,q3,q4,q5⟩:=V1.inv
  refine Aw (s:=s) h2 (R'.there q1) q2 q3 (show vs.length+ws.length≤aq by rw [← h3.length,← q5.length];exact hz) ?_
  exact hp g .none _ s.toks (.refl g) (rF R' (ys:=vs++ws) h1 h2 (by simp) (h3.append q5)) .none
end
section
variable {b:Base} {cs:Scope} {n:Nat}
def KV (b:Base) (g:Gh) (p:List Nat×AV) (q:Str×Value):Prop:=q.1=⟨p.1.toArray⟩∧ak b g p.2 q.2
theorem kC {a b:List Nat} (h:(⟨a.toArray⟩:Str)=⟨b.toArray⟩):a=b:=by
 have:=congrArg (λs:Str=>s.cps.toList) h
 simpa using this
theorem CD {g:Gh} {es:List DictEntry} (h:bl b g [] es):es=[]:=by cases h;rfl
theorem AB {g:Gh} {p:List Nat×AV} {l:List (List Nat×AV)} {es:List DictEntry} (h:bl b g (p::l) es):∃ e r,es=e::r∧(∃ t,e.key=.str ⟨p.1.toArray⟩ t)∧e.hash=PyData.keyHash b.w.params ⟨p.1.toArray⟩∧ak b g p.2 e.val∧bl b g l r:=by
 cases h with |cons h1 h2 h3 h4=>exact ⟨_,_,rfl,h1,h2,h3,h4⟩
theorem pP {g:Gh} (l:List (List Nat×AV)):∀ {es:List DictEntry},bl b g l es→∃ cQ:List (Str×Value),Pairs (PySem.strKind b.prog b.w) es cQ∧(∀ e∈es,∃ k,(PySem.strKind b.prog b.w).is k e.key=true∧e.hash=(PySem.strKind b.prog b.w).hash k)∧aI (KV b g) l cQ:=by
 induction l with
 |nil=>exact λh=>CD h▸⟨[],.nil,(λ_ h=>nomatch h),.nil⟩
 |cons p l ih=>
  intro _ h
  refine mZ (AB h) ?_;rintro e r rfl ⟨tk,hk⟩ h2 h3 t
  refine cO (ih t) ?_;intro cQ p1 p2 p3
  have hi:(PySem.strKind b.prog b.w).is ⟨p.1.toArray⟩ e.key=true:=by rw [hk];exact strKind_is b.prog b.w _ _
  exact ⟨(⟨p.1.toArray⟩,e.val)::cQ,.cons hi rfl p1,List.forall_mem_cons.mpr ⟨⟨_,hi,h2⟩,p2⟩,.cons ⟨rfl,h3⟩ p3⟩
theorem uL {g:Gh} {cQ:List (Str×Value)} {l:List (List Nat×AV)} (h:aI (KV b g) l cQ):∀ {es:List DictEntry},Pairs (PySem.strKind b.prog b.w) es cQ→(∀ e∈es,∃ k,(PySem.strKind b.prog b.w).is k e.key=true∧e.hash=(PySem.strKind b.prog b.w).hash k)→bl b g l es:=by
 induction h with
 |nil=>intro es hp _;cases hp;exact .nil
 |@cons p kv l cQ h3 h4 ih=>
  intro es hp hk
  cases hp with
  |cons h1 h2 t=>
   refine aQ h3 ?_;clear h3;intro q1 q2
   refine aQ (List.forall_mem_cons.mp hk) ?_;rintro ⟨u,u1,u2⟩ hk
   have eu:=(PySem.strKind b.prog b.w).inj _ _ _ u1 h1
   exact .cons (q1▸PySem.Value.isStrOf_shape h1) (u2.trans (by rw [eu,q1];rfl)) (h2▸q2) (ih t hk)
theorem lD {g:Gh} {l:List (List Nat×AV)} {cQ:List (Str×Value)} (h:aI (KV b g) l cQ) (hn:(l.map (·.1)).Nodup):(cQ.map (·.1)).Nodup:=by
 have e:cQ.map (·.1)=l.map λp=>(⟨p.1.toArray⟩:Str):=by
  induction h with
  |nil=>rfl
  |cons h _ ih=>simp only [List.map_cons,List.nodup_cons] at hn ⊢;rw [ih hn.2];simp [h.1]
 refine sY (e ..)▸?_
 have:(l.map λp=>(⟨p.1.toArray⟩:Str))=(l.map (·.1)).map λk=>(⟨k.toArray⟩:Str):=by simp
 refine sY (this ..)▸?_;rewrite [List.nodup_iff_pairwise_ne,List.pairwise_map]
 exact (List.nodup_iff_pairwise_ne.mp hn).imp λh q=>h (kC q)
theorem BC {g:Gh} {l:List (List Nat×AV)} {cQ:List (Str×Value)} (h:aI (KV b g) l cQ) (hn:(cQ.map (·.1)).Nodup):(l.map (·.1)).Nodup:=by
 have e:cQ.map (·.1)=(l.map (·.1)).map λk=>(⟨k.toArray⟩:Str):=by
  clear hn
  induction h with
  |nil=>rfl
  |cons h _ ih=>simp [ih,h.1]
 rw [e,List.nodup_iff_pairwise_ne,List.pairwise_map] at hn
 exact List.nodup_iff_pairwise_ne.mpr (hn.imp λh q=>h (by rw [q]))
theorem lP {g:Gh} {k:List Nat} {l:List (List Nat×AV)} {cQ:List (Str×Value)} (h:aI (KV b g) l cQ):(∀ v,l.lookup k=some v→∃ x,valueAt cQ ⟨k.toArray⟩=some x∧ak b g v x)∧(l.lookup k=none→valueAt cQ ⟨k.toArray⟩=none):=by
 induction h with
 |nil=>exact ⟨nofun,λ_=>rfl⟩
 |@cons p q l cQ h t ih=>
  have e:valueAt (q::cQ) ⟨k.toArray⟩=if k=p.1 then some q.2 else valueAt cQ ⟨k.toArray⟩:=by
   unfold valueAt
   refine sY (List.find?_cons ..)▸?_;refine sY (h.1 ..)▸?_
   by_cases z:k=p.1
   ·rw [if_pos z,show decide ((⟨p.1.toArray⟩:Str)=⟨k.toArray⟩)=true from decide_eq_true (by rw [z])];rfl
   ·refine sY (if_neg z ..)▸?_;refine sY (show decide ((⟨p.1.toArray⟩:Str)=⟨k.toArray⟩)=false from decide_eq_false λy=>z (kC y).symm ..)▸?_;rfl
  refine sY (e ..)▸?_
  by_cases z:k=p.1
  ·refine sY (if_pos z ..)▸?_;refine sY (show (p::l).lookup k=some p.2 by rw [z];exact List.lookup_cons_self ..)▸?_
   exact ⟨λv hv=>⟨q.2,rfl,Option.some.inj hv▸h.2⟩,nofun⟩
  ·refine sY (if_neg z ..)▸?_;refine sY (show (p::l).lookup k=l.lookup k from bj z ..)▸?_
   exact ih
noncomputable def tC (v:AV) (H:aa):Option (List (List Nat×AV)):=match v with
 |.eY l=>some l
 |.ref i=>match H[i]? with
  |some (.dict l)=>some l
  |_=>none
 |_=>none
theorem EG {v:AV} {H:aa} {l:List (List Nat×AV)}:tC v H=some l→v=.eY l∨∃ i,v=.ref i∧H[i]?=some (.dict l):=by
 cases v with
 |eY l'=>exact λh=>.inl (congrArg _ (Option.some.inj h))
 |ref i=>
  show (match H[i]? with |some (.dict l)=>some l |_=>none)=_→_
  intro h
  refine .inr ⟨i,rfl,?_⟩
  revert h
  cases H[i]? with
  |none=>exact nofun
  |some o=>cases o<;>intro h<;>cases h;rfl
 |_=>exact nofun
theorem uo {c:FC} {g:Gh} {loc:Loc} {H:aa} {h:Heap} {m:Str→Option Value} {ag:List (List (Addr×Obj))} {af:List (Addr×Obj)} (O:b.Ok) (R:aE b c g loc H h m ag af) {v:AV} {x:Value} {l:List (List Nat×AV)} (V:ak b g v x) (e:tC v H=some l) :
  ∃ a cQ,x=.ref a∧h.DictOf (PySem.strKind b.prog b.w) a cQ∧(a==sysModules)=false∧aI (KV b g) l cQ:=by
 rcases EG e with rfl |⟨i,rfl,ho⟩
 ·obtain ⟨a,rfl,o,es,k,h1,h2,h3,h4,h5,h6⟩:=V.inv
  refine cO (pP _ h6) ?_;intro cQ p1 p2 p3
  exact ⟨a,cQ,rfl,⟨o,_,k,R.stays _ _ h1,h2,h3,by simpa [PySem.KeysOf] using p2,by simpa using p1,lD p3 h5⟩,h4,p3⟩
 ·refine ai V.inv ?_;rintro a rfl hr
  refine bk (tB R hr ho) ?_;intro es k h1 hn hd
  refine cO (pP _ hd) ?_;intro cQ p1 p2 p3
  exact ⟨a,cQ,rfl,⟨_,_,k,R.cell _ (dp R h1 (.head _)),⟨rfl,rfl,rfl⟩,rfl,by simpa [PySem.KeysOf] using p2,by simpa using p1,lD p3 hn⟩,
   beq_eq_false_iff_ne.mpr (Nat.ne_of_gt (Nat.lt_of_lt_of_le (modules_low O.lim) (R.off _ (dp R h1 (.head _))).1)),p3⟩
noncomputable def wW (k:AV) (o:Option (List (List Nat×AV))) (H:aa):Res AV:=onStr (λk=>bV (λl=>bV (λu=>.ok u H) (l.lookup k)) o) k
theorem B2 {P:Res AV→Prop} {k:AV} {o:Option (List (List Nat×AV))} {H:aa} (hs:¬ P .stuck) (hp:P (wW k o H)):∃ k' l u,k=.str k'∧o=some l∧l.lookup k'=some u∧P (.ok u H):=by
 cases k with
 |str k=>
  refine ai (cW hs (show P (bV _ o) from hp)) ?_;intro l h1 hp
  refine ai (cW hs hp) ?_;intro u h2 hp
  exact ⟨k,l,u,rfl,h1,h2,hp⟩
 |_=>exact absurd hp hs
noncomputable def Ex.sU (o i:Ex b cs n) (p:Pos) (hs:autoParam (subscripted i.py false=wJ false) LY):Ex b cs n where
 py:=.Subscript o.py i.py p
 run:=λloc H=>(o.run loc H).bind λv H=>(i.run loc H).bind λk H=>wW k (tC v H) H
 ok:=λO c g loc H s Q E G R hp=>Subscript_ (o.ok O c g loc H s _ E G R (hp.seq λv H1 g1 xv h1 t1 c9 R1 V1 dc=>
  i.ok O c g1 loc H1 {s with heap:=h1,toks:=t1} _ E G R1 (dc.seq λk H2 g2 xk h2 t2 aP R2 V2 bA=>by
   refine lA (B2 (P:=(ao b c g2 loc {s with heap:=h2,toks:=t2} · Q E)) id bA) ?_;rintro k' l u rfl hl hu bA
   refine bg V2.inv ?_;rintro tk rfl
   refine aJ (id R2) ?_;intro m ag af R3
   refine ke (uo O R3 (V1.mono aP) hl) ?_;rintro a cQ rfl d1 d2 d3
   refine ai ((lP d3).1 u hu) ?_;intro y y1 y2
   refine tail_any (s:={s with heap:=h2,toks:=t2}) d1.typeIs slot_dict_getitem.lookup (wpAny_getItem_of (knd:=PySem.strKind b.prog b.w) (strKind_is b.prog b.w _ _) d1.mapOf y1 ?_) (congrFun (congrFun hs _) _)
   exact bA g2 y h2 _ (.refl _) R2 y2)))
noncomputable def Im (l:List AV) (u:AV):Option Bool:=if u.isData&&AV.eZ l&&decide (u.depth≤10) then some (l.any λy=>gz y u) else none
noncomputable def inD (v:AV) (H:aa) (u:AV):Option Bool:=match u with
 |.str k=>(tC v H).map λl=>(l.lookup k).isSome
 |_=>none
noncomputable def K8 (l:List Nat) (u:AV):Option Bool:=match u with
 |.str k=>match k with
  |[c]=>some (decide (c∈l))
  |_=>none
 |_=>none
noncomputable def wZ (u v:AV) (H:aa):Option Bool:=match v with
 |.str l=>K8 l u
 |.tup l=>Im l u
 |v=>inD v H u
theorem ux {u:AV} {d:PyData} (hd:u.data=some d):∀ {l:List AV} {ds:List PyData},AV.gY l=some ds→(ds.any λy=>PyData.eqv y d)=l.any λy=>gz y u
 |[],_,h=>by cases h;rfl
 |v::l,_,h=>by
  refine bk (iM h) ?_;rintro e es h1 h2 rfl
  refine sY (List.any_cons ..)▸?_;refine sY (List.any_cons ..)▸?_;refine sY (ux hd h2 ..)▸?_;refine sY (um v u h1 hd ..)▸?_;rfl
section
variable {c:FC} {g:Gh} {loc:Loc} {H:aa} {s:Shared} {Q E:VP} {u v:AV} {x y:Value}
theorem Ik (G:c.Good b cs n) (R:Rep b c g loc H s.heap) (U:ak b g u x) {l:List AV} (V:ak b g (.tup l) y) (ng:Bool) {t:Bool} (ht:Im l u=some t) (hp:∀ t',Q (.bool (t != ng)) {s with toks:=t'}):wpAny (model b.prog b.w) c.A (compareOp (if ng then .NotIn else .In) x y) Q E s:=by
 unfold Im at ht
 refine aQ (Option.ite_none_right_eq_some.mp ht) ?_;intro hd ht
 cases ht
 rw [Bool.and_eq_true,Bool.and_eq_true] at hd
 refine cO (AV.lM _ hd.1.1) ?_;intro d d1 d2 d3
 refine cO (AV.km _ hd.1.2) ?_;intro ds e1 e2 e3
 refine aJ (id R) ?_;intro m ag af R'
 have T:∀ a o,eP b g a o→s.heap.get? a=some o:=λ_ _ t=>R'.there t
 refine bg (U.reads T _ d1) ?_;intro as ra
 refine bg (V.reads T _ (d:=.tuple ds) (congrArg (Option.map PyData.tuple) e1)) ?_;intro bs rb
 have hu:c.A.units+1+min (PyData.depthAll ds) d.depth < cLine:=by rw [d3];exact Ma (Nat.le_trans (Nat.min_le_right _ _) (lO (of_decide_eq_true hd.2) rfl)) G.units
 cases ng with
 |false=>exact SeqAt.in_tuple_reads rb ra e2 d2 hu (by rw [ux d1 e1];simpa using hp s.toks)
 |true=>exact SeqAt.notIn_tuple_reads rb ra e2 d2 hu (by rw [ux d1 e1];have:=hp s.toks;simpa using this)
theorem Il (O:b.Ok) (R:Rep b c g loc H s.heap) (U:ak b g u x) (V:ak b g v y) (ng:Bool) {t:Bool} (ht:inD v H u=some t) (hp:∀ t',Q (.bool (t != ng)) {s with toks:=t'}):wpAny (model b.prog b.w) c.A (compareOp (if ng then .NotIn else .In) x y) Q E s:=by
 cases u with
 |str k=>
  refine ai (Option.map_eq_some_iff.mp ht) ?_;rintro l hl rfl
  refine bg U.inv ?_;rintro tk rfl
  refine aJ R ?_;clear R;intro m ag af R'
  refine ke (uo O R' V hl) ?_;rintro a cQ rfl d1 d2 d3
  have va:=lP (k:=k) d3
  have e:(valueAt cQ ⟨k.toArray⟩).isSome=(l.lookup k).isSome:=by
   cases q:l.lookup k with
   |none=>rw [va.2 q];rfl
   |some v=>(refine ai (va.1 v q) ?_;intro y y1 _);rw [y1];rfl
  cases ng with
  |false=>exact wpAny_in_of (knd:=PySem.strKind b.prog b.w) (strKind_is b.prog b.w _ _) d2 d1.mapOf (by rw [e];simpa using hp _)
  |true=>exact wpAny_notIn_of (knd:=PySem.strKind b.prog b.w) (strKind_is b.prog b.w _ _) d2 d1.mapOf (by rw [e];have:=hp (s.toks+1);simpa using this)
 |_=>exact absurd ht nofun
theorem GJ (U:ak b g u x) {l:List Nat} (V:ak b g (.str l) y) (ng:Bool) {t:Bool} (ht:K8 l u=some t) (hp:∀ t',Q (.bool (t != ng)) {s with toks:=t'}):wpAny (model b.prog b.w) c.A (compareOp (if ng then .NotIn else .In) x y) Q E s:=by
 cases u with
 |str k=>
  match k,ht with
  |[cp],ht=>
   cases (show some (decide (cp∈l))=some t from ht)
   refine bg U.inv ?_;rintro t1 rfl
   refine bg V.inv ?_;rintro t2 rfl
   have e:=StrLaws.found_one ⟨l.toArray⟩ cp
   cases ng with
   |false=>exact PySem.P.in_str (by rw [show ([cp].toArray:Array Nat)=#[cp] from rfl,e];simpa using hp s.toks)
   |true=>exact PySem.P.notIn_str (by rw [show ([cp].toArray:Array Nat)=#[cp] from rfl,e];have:=hp s.toks;simpa using this)
 |_=>exact absurd ht nofun
theorem B7 (O:b.Ok) (G:c.Good b cs n) (R:Rep b c g loc H s.heap) (U:ak b g u x) (V:ak b g v y)
  (ng:Bool) {t:Bool} (ht:wZ u v H=some t) (hp:∀ t',Q (.bool (t != ng)) {s with toks:=t'}):wpAny (model b.prog b.w) c.A (compareOp (if ng then .NotIn else .In) x y) Q E s:=by
 cases v with
 |str l=>exact GJ U V ng ht hp
 |tup l=>exact Ik G R U V ng ht hp
 |_=>exact Il O R U V ng ht hp
end
noncomputable def fY (b:Base):Cp b .In where
 run:=λu v H=>bV (λt=>.ok (.bool (t != false)) H) (wZ u v H)
 ok:=λO c g loc H s Q E cs n u v x y G R U V hp=>by
  refine ai (cW (P:=(ao b c g loc s · Q E)) id hp) ?_;intro t ht hp
  exact B7 O G R U V false ht λt'=>hp g _ s.heap t' (.refl g) R (.bool _)
noncomputable def dH (b:Base):Cp b .NotIn where
 run:=λu v H=>bV (λt=>.ok (.bool (t != true)) H) (wZ u v H)
 ok:=λO c g loc H s Q E cs n u v x y G R U V hp=>by
  refine ai (cW (P:=(ao b c g loc s · Q E)) id hp) ?_;intro t ht hp
  exact B7 O G R U V true ht λt'=>hp g _ s.heap t' (.refl g) R (.bool _)
noncomputable def GI (v:AV) (H:aa):Bool:=match v with
 |.eY _=>true
 |_=>false
noncomputable def Kf (b:Base):Bm b "get" where
 T:="dict"
 id:="dict.get"
 pa:=PySem.F.plainAttrs_dict
 slot:=PySem.F.slot_dict_get
 uR:=PySem.F.type_dict_get
 is:=GI
 i0:=λ{c g loc H s v x} R V h=>by
  cases v with
  |eY l=>
   refine aJ R ?_;clear R;intro m ag af R
   obtain ⟨a,rfl,o,es,k,h1,h2,_⟩:=V.inv
   exact ⟨⟨_,R.stays _ _ h1,h2.1⟩,λa' q=>by cases q;exact ⟨_,R.stays _ _ h1,h2.2.1⟩⟩
  |_=>exact Bool.noConfusion h
 run:=λv args H=>match v with
  |.eY l=>E3 (λk d=>onStr (λk=>.ok ((l.lookup k).getD d) H) k) args
  |_=>.stuck
 ok:=λO c g loc H s Q E cs n v x args vals G R V W hp=>by
  cases v with
  |eY l=>
   refine rC (P:=(ao b c g loc s · Q E)) (C:=λvals=>wpAny (model b.prog b.w) c.A (PySem.call (.builtin "dict.get") (x::vals) []) Q E s) id W hp λk d y z V1 V2 hp=>?_
   refine gq (P:=(ao b c g loc s · Q E)) (C:=λy=>wpAny (model b.prog b.w) c.A (PySem.call (.builtin "dict.get") (x::[y,z]) []) Q E s) id V1 hp λk t hp=>?_
   refine aJ (id R) ?_;intro m ag af R'
   refine ke (uo O R' V (l:=l) rfl) ?_;rintro a cQ rfl d1 d2 d3
   have va:=lP (k:=k) d3
   refine call_meetsIn PySem.F.slot_dict_get d1.typeIs PySem.F.entry_dict_get (PySem.F.args_dict_get_3 _ _ _) (meets_dict_get_default (PySem.strKind b.prog b.w) a (strKind_is b.prog b.w _ _) d2 z) ⟨_,d1.mapOf,?_⟩
   cases hl:l.lookup k with
   |none=>rw [va.2 hl];rw [hl] at hp;exact hp g z s.heap _ (.refl g) R V2
   |some v=>(refine ai (va.1 v hl) ?_;intro y y1 y2);rw [y1];rw [hl] at hp;exact hp g y s.heap _ (.refl g) R y2
  |_=>exact hp.elim
end
section
variable {b:Base} {cs:Scope} {n:Nat} {tk:Nat}
noncomputable def DF (_:Env):Sem (Option (List Str)):=pure Option.none
theorem qU:DF=DF:=rfl
noncomputable def St.unpack (xs:List (Lv b cs×Pos)) (j:Nat) (xp:Pos) (e:Ex b cs n) (p:Pos)
  (hw:autoParam (swappedStores [.Tuple (hJ b cs xs) j xp] e.py=DF) OP)
  (hs:autoParam (swapsWith e.py=m4) xW):St b cs n tk where
 py:=.Assign [.Tuple (hJ b cs xs) j xp] e.py p
 run:=λloc H=>(e.run loc H).bind λv H=>match v with
  |.tup l=>match dW xs l loc with
   |some loc'=>.ok (.next,loc') H
   |none=>.stuck
  |_=>.stuck
 ok:=λO c g loc H s Q E G hc _ R hp=>Assign_Tuple (e.ok O c g loc H s _ E G R (hp.dD λv H' g' val h' t' le R' V aw=>by
  refine (Tg.names xs j xp).ok O c g' loc H' {s with heap:=h',toks:=t'} _ E n v val G R' V ?_
  show match (match v with |.tup l=>dW xs l loc |_=>none) with
   |some loc'=>∀ h2 t2,Rep b c g' loc' H' h2→Q .next {s with heap:=h2,toks:=t2}
   |none=>False
  revert aw
  cases v with
  |tup l=>
   show bC b c g' _ (match dW xs l loc with
   |some loc'=>.ok (.next,loc') H'
   |none=>.stuck) Q E→(match dW xs l loc with
   |some loc'=>∀ h2 t2,Rep b c g' loc' H' h2→Q .next {s with heap:=h2,toks:=t2}
   |none=>False)
   cases dW xs l loc with
   |none=>exact λh=>h
   |some loc'=>exact λaw h2 t2 R2=>aw g' h2 t2 (.refl _) R2
  |_=>exact λh=>h.elim)) (show swapsWith e.py (some (.Tuple (hJ b cs xs) j xp)) p.line c.env=pure false from congrFun (congrFun (congrFun hs _) _) _) (congrFun hw _)
theorem zz (O:b.Ok):∀ (xs:List (Lv b cs×Pos)) (vs:List AV) (vals:List Value) (c:FC) (g:Gh) (loc:Loc) (H:aa) (s:Shared) (Q:Unit→Shared→Prop) (E:VP),c.Good b cs n→Rep b c g loc H s.heap→aX b g vs vals→
  (match dW xs vs loc with
   |some loc'=>∀ h' t',Rep b c g loc' H h'→Q () {s with heap:=h',toks:=t'}
   |none=>False)→wpAny (model b.prog b.w) c.A (assignInOrder (xs.map λx=>bindName c.env (b.nm x.1.x)) vals) Q E s
 |[],[],_,c,g,loc,H,s,Q,E,G,R,.nil,h=>wpAny_pure (h s.heap s.toks R)
 |[],_::_,_,_,_,_,_,_,_,_,_,_,_,h=>h.elim
 |_::_,[],_,_,_,_,_,_,_,_,_,_,_,h=>h.elim
 |(x,p)::r,v::vs,_,c,g,loc,H,s,Q,E,G,R,.cons (x:=val) (m:=vals) V Vs,h=>by
  show wpAny _ _ (do holding vals (bindName c.env (b.nm x.x) val);assignInOrder (r.map λx=>bindName c.env (b.nm x.1.x)) vals) _ _ _
  refine wpAny_bind (wpAny_holding (wpAny_bindName (mR O x G R V λh' t' R'=>?_)))
  refine zz O r vs vals c g _ H {s with heap:=h',toks:=t'} Q E G R' Vs ?_
  have h':match dW r vs ((x.x,v)::loc) with
   |some loc'=>∀ h' t',Rep b c g loc' H h'→Q () {s with heap:=h',toks:=t'}
   |none=>False:=h
  exact h'
set_option tactic.hygienic true in
noncomputable def St.i9 (xs:List (Lv b cs×Pos)) (j:Nat) (xp:Pos) (e:Ex b cs n) (p:Pos)
  (hw:∀ env:Env,env.scope=cs→swappedStores [.Tuple (hJ b cs xs) j xp] e.py env=pure (some (xs.map λx=>b.nm x.1.x)):=by intro env h;cases env;subst h;rfl)
  (hs:autoParam (swapsWith e.py=m4) xW):St b cs n tk where
 py:=.Assign [.Tuple (hJ b cs xs) j xp] e.py p
 run:=λloc H=>(e.run loc H).bind λv H=>match v with
  |.tup l=>match dW xs.reverse l.reverse loc with
   |some loc'=>.ok (.next,loc') H
   |none=>.stuck
  |_=>.stuck
 ok:=λO c g loc H s Q E G hc _ R hp=>Assign_Tuple_swapped (e.ok O c g loc H s _ E G R (hp.dD λv H' g' val h' t' le R' V aw=>by
  cases v with
  |tup l=>
   have bA:bC b c g' {s with heap:=h',toks:=t'} (match dW xs.reverse l.reverse loc with
    |some loc'=>.ok (.next,loc') H'
    |none=>.stuck) Q E:=aw
   refine aJ (id R') ?_;intro m ag af R3
   cases V with
   |tup h1 h2 h3 h4 h5=>
    rename_i a o vs k
    have hlen:(xs.map λx=>b.nm x.1.x).length=(List.toArray vs).size:=by
     have q:(dW xs.reverse l.reverse loc).isSome=true:=by
      revert bA
      cases dW xs.reverse l.reverse loc with
      |none=>exact λh=>h.elim
      |some _=>exact λ_=>rfl
     have:=pb _ _ _ q
     simp only [List.length_reverse] at this
     rw [List.length_map,this,h5.length];simp
    refine sY (hlen ..)▸?_
    refine unpackItems_tuple G.hand ⟨o,R3.there h1,h2,k,h3⟩ λgW hx=>?_
    have R4:Rep b c g' loc H' gW:=⟨m,ag,af,R3.keep λa o e=>hx a o (Nat.ne_of_lt (Heap.lt_size e)) e⟩
    have V4:aX b g' l.reverse (List.toArray vs).toList.reverse:=.of h5.all.reverse
    refine (List.map_reverse ..)▸?_;refine sY (List.map_map ..)▸?_;refine sY (List.map_reverse ..)▸?_;refine (List.map_reverse ..)▸?_
    refine zz O xs.reverse l.reverse _ c g' loc H' {s with heap:=gW,toks:=t'} _ E G R4 V4 ?_
    revert bA
    cases dW xs.reverse l.reverse loc with
    |none=>exact λh=>h.elim
    |some loc'=>exact λbA h3 t3 R5=>bA g' h3 t3 (.refl _) R5
  |_=>exact aw.elim)) (show swapsWith e.py (some (.Tuple (hJ b cs xs) j xp)) p.line c.env=pure false from congrFun (congrFun (congrFun hs _) _) _) (hw _ G.sc)
end
section
variable {b:Base} {cs:Scope} {n:Nat}
theorem zt {o:Obj} {es:Array DictEntry} {k:Nat} (h:o.ExactDict) (e:o.data=.dict es k):o=bE es.toList k:=by
 obtain ⟨cl,d,dt,sl⟩:=o
 refine bZ h ?_;clear h;intro h1 h2 h3
 simp only at h1 h2 h3 e
 subst h1 h2 h3 e
 simp [bE]
theorem aE.HU {c:FC} {g:Gh} {loc:Loc} {H:aa} {h:Heap} {m:Str→Option Value} {ag:List (List (Addr×Obj))} {af:List (Addr×Obj)} {ch:List (Addr×Obj)} (R:aE b (c.pin ch) g loc H h m ag af) {o:aK} (hr:aZ b (ak b g) (bl b g) o ch) :
  aE b c {g with ρ:=g.ρ++[iN ch]} loc (H++[o]) h m (ag++[ch]) af:=by
 have le:=pC g (iN ch)
 have perm:(cells {g with ρ:=g.ρ++[iN ch]} (ag++[ch]) af c.pins).Perm (cells g ag af (ch++c.pins)):=by
  simp only [cells,List.flatten_append,List.flatten_cons,List.flatten_nil,List.append_nil]
  refine List.Perm.append_left _ ?_
  rewrite [List.append_assoc]
  refine List.Perm.append_left _ ?_
  rewrite [← List.append_assoc,← List.append_assoc]
  exact List.Perm.append_right _ List.perm_append_comm
 refine {R with cell:=λp hp=>R.cell p (perm.mem_iff.mp hp),nodup:=(perm.map (·.1)).nodup_iff.mpr R.nodup,off:=λp hp=>R.off p (perm.mem_iff.mp hp),loc:=?_,heap:=?_,bX:=?_}
 ·intro x v hx
  refine ai (R.loc x v hx) ?_;intro val h1 h2
  exact ⟨val,h1.mono le,h2.mono le⟩
 ·refine (R.heap.imp λ_ _ z=>z.imp (λ_ _=>ak.mono le) λ_ _=>bl.mono le).append (.cons ?_ .nil)
  exact hr.imp (λ_ _=>ak.mono le) λ_ _=>bl.mono le
 ·exact R.bX.append (.cons (.inr rfl) .nil)
inductive gC (b:Base) (cs:Scope) (n:Nat) where
 |nil
 |cons (x:Lit) (k:Nat) (p:Pos) (e:Ex b cs n) (r:gC b cs n)
noncomputable def gC.keys:gC b cs n→List (Option Expr)
 |.nil=>[]
 |.cons x k p _ r=>some (.Constant (.str x.s) k p)::r.keys
noncomputable def gC.py:gC b cs n→List Expr
 |.nil=>[]
 |.cons _ _ _ e r=>e.py::r.py
noncomputable def gC.vals:gC b cs n→Loc→aa→Res (List (List Nat×AV))
 |.nil,_,H=>.ok [] H
 |.cons x _ _ e r,loc,H=>match e.run loc H with
  |.ok v H=>(r.vals loc H).bind λvs H=>.ok ((x.l,v)::vs) H
  |_=>.stuck
def FT (b:Base) (g:Gh) (p:List Nat×AV) (q:Value×Value):Prop:=(∃ t,q.1=.str ⟨p.1.toArray⟩ t)∧ak b g p.2 q.2
theorem gC.ok (O:b.Ok) (pos:Pos):∀ (ks:gC b cs n) (c:FC) (g:Gh) (loc:Loc) (H:aa) (s:Shared) (Q:List (Value×Value)→Shared→Prop) (E:VP),c.Good b cs n→Rep b c g loc H s.heap→
  (match ks.vals loc H with
   |.ok vs H'=>∀ g' ps h' t',g.le g'→Rep b c g' loc H' h'→aI (FT b g') vs ps→Q ps {s with heap:=h',toks:=t'}
   |_=>False)→wpAny (model b.prog b.w) c.A (evalPairs (pairTrees ks.keys ks.py c.env pos)) Q E s
 |.nil,c,g,loc,H,s,Q,E,G,R,hp=>pairTrees_nil_walk (hp g [] s.heap s.toks (.refl g) R .nil)
 |.cons x k p e r,c,g,loc,H,s,Q,E,G,R,hp=>by
  refine pairTrees_cons_walk (wpAny_Constant_str ?_)
  refine e.ok O c g loc H _ _ E G R ?_
  have aw:match (match e.run loc H with
    |.ok v H=>(r.vals loc H).bind λvs H=>.ok ((x.l,v)::vs) H
    |_=>.stuck) with
   |.ok vs H'=>∀ g' ps h' t',g.le g'→Rep b c g' loc H' h'→aI (FT b g') vs ps→Q ps {s with heap:=h',toks:=t'}
   |_=>False:=hp
  revert aw
  cases e.run loc H with
  |stuck=>exact λh=>h.elim
  |bD x H=>exact λh=>h.elim
  |ok v H1=>
   intro aw g1 val h1 t1 c9 R1 V1
   refine gC.ok O pos r c g1 loc H1 {s with heap:=h1,toks:=t1} _ E G R1 ?_
   revert aw
   show (match (r.vals loc H1).bind λvs H=>Res.ok ((x.l,v)::vs) H with
    |.ok vs H'=>∀ g' ps h' t',g.le g'→Rep b c g' loc H' h'→aI (FT b g') vs ps→Q ps {s with heap:=h',toks:=t'}
    |_=>False)→_
   cases r.vals loc H1 with
   |stuck=>exact λh=>h.elim
   |bD x H=>exact λh=>h.elim
   |ok vs H2=>
    intro aw g2 ps h2 t2 aP R2 V2
    refine aw g2 _ h2 t2 (c9.trans aP) R2 (.cons ⟨⟨_,by rw [x.h]⟩,V1.mono aP⟩ V2)
theorem Ni {g:Gh} {l:List (List Nat×AV)} {ps:List (Value×Value)} (h:aI (FT b g) l ps):allStrKeys ps=true∧aI (KV b g) l (strPairs ps):=by
 induction h with
 |nil=>exact ⟨rfl,.nil⟩
 |@cons p q l ps h t ih=>
  obtain ⟨k,v⟩:=q
  refine aQ h ?_;clear h;rintro ⟨tk,hk⟩ hv
  have hk:k=_:=hk
  subst hk
  refine aQ ih ?_;intro h1 h2
  exact ⟨h1,.cons ⟨rfl,hv⟩ h2⟩
theorem GG (ks:gC b cs n):ks.keys.length=ks.py.length:=by
 induction ks with
 |nil=>rfl
 |cons x k p e r ih=>simp [gC.keys,gC.py,ih]
theorem D0 (ks:gC b cs n):ks.keys.all (·.isSome)=true:=by
 induction ks with
 |nil=>rfl
 |cons x k p e r ih=>simpa [gC.keys] using ih
noncomputable def Ex.dict (ks:gC b cs n) (p:Pos) (h0:ks.keys≠[]:=by simp [gC.keys]) (hlen:ks.keys.length≤15:=by decide):Ex b cs n where
 py:=.Dict ks.keys ks.py p
 run:=λloc H=>match ks.vals loc H with
  |.ok vs H=>if (vs.map (·.1)).Nodup then .ok (.ref H.length) (H++[.dict vs]) else .stuck
  |_=>.stuck
 ok:=λO c g loc H s Q E G R hp=>by
  refine wpAny_Dict_walk (knd:=PySem.strKind b.prog b.w) (D0 ks) (GG ks) h0 hlen ?_
  refine aJ R ?_;clear R;intro m ag af R0
  have R1:=R0.zF (h':=s.heap.push (bE [] 0)) (ps:=[(s.heap.objs.size,bE [] 0)]) (λ_ _ e=>Heap.get?_push_of_some _ e) (by simp) (by simp) (by simp;exact Heap.get?_push_size _ rfl)
  refine gC.ok O p ks (c.pin _) g loc H {s with heap:=s.heap.push (bE [] 0)} _ E (G.pin _) ⟨m,ag,af,R1⟩ ?_
  revert hp
  show ao b c g loc s (match ks.vals loc H with
   |.ok vs H=>if (vs.map (·.1)).Nodup then .ok (.ref H.length) (H++[.dict vs]) else .stuck
   |_=>.stuck) Q E→_
  cases ks.vals loc H with
  |stuck=>exact λh=>h.elim
  |bD x H=>exact λh=>h.elim
  |ok vs H1=>
   show ao b c g loc s (if (vs.map (·.1)).Nodup then .ok (.ref H1.length) (H1++[.dict vs]) else .stuck) Q E→_
   split
   ·rename_i hn
    intro hp g1 ps h1 t1 c9 R2 V2
    refine aJ R2 ?_;clear R2;intro m2 bN dd R2
    refine aQ (Ni V2) ?_;intro k1 k2
    have hd:h1.DictOf (PySem.strKind b.prog b.w) s.heap.objs.size []:=
     ⟨bE [] 0,#[],0,R2.pinned (.head _),⟨rfl,rfl,rfl⟩,rfl,(λe h=>by simp at h),.nil,.nil⟩
    refine display_done_str k1 (lD k2 hn) hd λh' hm hs=>?_
    refine vH hm ?_;clear hm;intro o' es ep e1 e2 e3 e4 e5 e6
    have eo:=zt e2 e3
    subst eo
    have R3:=R2.sy (h':=h') (ps':=[(s.heap.objs.size,bE es.toList ep)]) (λa o ha e=>(hs.2 a (by simpa using ha)).trans e) (by simp) (by simp) (by simpa using e1)
    have R4:=R3.HU (o:=.dict vs) (.dict hn (uL k2 e5 (by simpa [PySem.KeysOf] using e4)))
    have hl:H1.length=g1.ρ.length:=R2.heap.length.trans R2.bX.length.symm
    refine hp {g1 with ρ:=g1.ρ++[s.heap.objs.size]} _ h' _ (c9.trans (pC g1 _)) ⟨_,_,_,R4⟩ (.ref ?_)
    show (g1.ρ++[s.heap.objs.size])[H1.length]?=_
    rw [hl];simp
   ·exact λh=>h.elim
noncomputable def qb (l:List (List Nat×AV)) (k:List Nat) (v:AV):List (List Nat×AV):=
 if l.any (λp=>p.1==k) then l.map (λp=>if p.1=k then (p.1,v) else p) else l++[(k,v)]
set_option tactic.hygienic true in
theorem zT {g:Gh} {l:List (List Nat×AV)} {cQ:List (Str×Value)} {k:List Nat} {v:AV} {x:Value} (h:aI (KV b g) l cQ) (V:ak b g v x):aI (KV b g) (qb l k v) (stored cQ (⟨k.toArray⟩:Str) x):=by
 have ea:cQ.any (λkv=>decide (kv.1=(⟨k.toArray⟩:Str)))=l.any (λp=>p.1==k):=by
  induction h with
  |nil=>rfl
  |cons h _ ih=>
   refine sY (List.any_cons ..)▸?_;refine sY (List.any_cons ..)▸?_;refine sY (ih ..)▸?_
   congr 1
   refine sY (h.1 ..)▸?_
   rename_i p q _ _ _
   by_cases e:p.1=k
   ·rw [e];simp
   ·have:¬ (⟨p.1.toArray⟩:Str)=⟨k.toArray⟩:=λz=>e (kC z)
    refine sY (decide_eq_false this ..)▸?_
    exact (beq_eq_false_iff_ne.mpr e).symm
 unfold qb stored
 refine sY (show cQ.any (λkv=>decide (kv.1=(⟨k.toArray⟩:Str)))=l.any (λp=>p.1==k) from ea ..)▸?_
 split
 ·clear ea
  rename_i hh
  clear hh
  induction h with
  |nil=>exact .nil
  |cons h _ ih=>
   rename_i p q l cQ _
   refine sY (List.map_cons ..)▸?_;refine sY (List.map_cons ..)▸?_
   refine .cons ?_ ih
   by_cases e:p.1=k
   ·rw [if_pos e,if_pos (by rw [h.1,e])];exact ⟨h.1,V⟩
   ·rw [if_neg e,if_neg (by rw [h.1];exact λz=>e (kC z))];exact h
 ·exact h.append (.cons ⟨rfl,V⟩ .nil)
noncomputable def Bz (r:Nat→List (List Nat×AV)→Res AV) (v:AV) (H:aa):Res AV:=match v with
 |.ref i=>match H[i]? with
  |some (.dict l)=>r i l
  |_=>.stuck
 |_=>.stuck
theorem Aa {P:Res AV→Prop} {r:Nat→List (List Nat×AV)→Res AV} {v:AV} {H:aa} (hs:¬ P .stuck) (hp:P (Bz r v H)):∃ i l,v=.ref i∧H[i]?=some (.dict l)∧P (r i l):=by
 cases v with
 |ref i=>
  replace hp:P (match H[i]? with |some (.dict l)=>r i l |_=>.stuck):=hp
  revert hp
  generalize ho:H[i]?=o
  cases o with
  |none=>exact λhp=>absurd hp hs
  |some o=>
   cases o with
   |dict l=>exact λhp=>⟨i,l,rfl,ho,hp⟩
   |_=>exact λhp=>absurd hp hs
 |_=>exact absurd hp hs
noncomputable def Di (v:AV) (k:AV) (u:AV) (H:aa):Res AV:=Bz (λi l=>onStr (λk=>if l.length≤sizeLine then .ok .none (H.set i (.dict (qb l k u))) else .stuck) k) v H
theorem Ga (O:b.Ok) {c:FC} {g:Gh} {loc:Loc} {H:aa} {s:Shared} {Q:Unit→Shared→Prop} {E:VP} {v k u:AV} {x xk xu:Value} (R:Rep b c g loc H s.heap) (V:ak b g v x) (V3:ak b g k xk) (U:ak b g u xu)
  (hp:ao b c g loc s (Di v k u H) (λ_=>Q ()) E):wpAny (model b.prog b.w) c.A (PySem.setItem x xk xu) Q E s:=by
 refine bk (Aa (P:=(ao b c g loc s · (λ_=>Q ()) E)) id hp) ?_;rintro i l rfl hl hp
 refine gq (P:=(ao b c g loc s · (λ_=>Q ()) E)) (C:=λxk=>wpAny (model b.prog b.w) c.A (PySem.setItem x xk xu) Q E s) id V3 hp λk t hp=>?_
 refine aQ (ao.ite hp) ?_;intro hz hp
 refine ai V.inv ?_;rintro a rfl hr
 refine aJ R ?_;clear R;intro m ag af R4
 refine bk (tB R4 hr hl) ?_;intro es ep q1 hn hd
 refine cO (pP _ hd) ?_;intro cQ p1 p2 p3
 have d1:s.heap.DictOf (PySem.strKind b.prog b.w) a cQ:=⟨_,_,ep,R4.cell _ (dp R4 q1 (.head _)),⟨rfl,rfl,rfl⟩,rfl,by simpa [PySem.KeysOf] using p2,by simpa using p1,lD p3 hn⟩
 refine wpAny_setItem_pairs (hsz:=by rw [← p3.length];exact hz) (strKind_is b.prog b.w _ _) d1 λh4 hm NF=>?_
 refine vH hm ?_;clear hm;intro o' nN LP e1 e2 e3 e4 e5 e6
 cases zt e2 e3
 have p4:=zT (k:=k) p3 U
 exact hp g .none h4 _ (.refl _) ⟨m,_,_,R4.upd (pre:=[]) (post:=[]) (h':=h4) (o':=bE nN.toList LP) (ob:=.dict (qb l k u)) q1 e1 NF (.dict (BC p4 e6) (uL p4 e5 (by simpa [PySem.KeysOf] using e4)))⟩ .none
noncomputable def St.setItem {tk:Nat} (o i:Ex b cs n) (sp:Pos) (e:Ex b cs n) (p:Pos)
  (hs:autoParam (swapsWith e.py=m4) xW):St b cs n tk where
 py:=.Assign [.Subscript o.py i.py sp] e.py p
 run:=λloc H=>(e.run loc H).bind λu H=>(o.run loc H).bind λv H=>(i.run loc H).bind λk H=>(Di v k u H).bind λ_ H=>.ok (.next,loc) H
 ok:=λO c g loc H s Q E G hc _ R hp=>wpAny_Assign_Subscript (e.ok O c g loc H s _ E G R (hp.dD λu H1 g1 xu h1 t1 c9 R1 V1 dc=>
  o.ok O c g1 loc H1 {s with heap:=h1,toks:=t1} _ E G R1 (dc.dD λv H2 g2 xv h2 t2 aP R2 V2 bA=>
   i.ok O c g2 loc H2 {s with heap:=h2,toks:=t2} _ E G R2 (bA.dD λk H3 g3 xk h3 t3 gV R3 V3 fF=>
    Ga (s:={s with heap:=h3,toks:=t3}) O R3 (V2.mono gV) V3 ((V1.mono aP).mono gV) (fF.dD (loc:=loc) λ_ _ g' _ h' t' Pp R' _ aw=>aw g' h' t' (.refl _) R'))))) (congrFun (congrFun (congrFun hs _) _) _)
end
section
variable {b:Base} {cs:Scope} {n:Nat}
theorem F8 (x y:List Nat):(⟨x.toArray⟩:Str)++(⟨y.toArray⟩:Str)=⟨(x++y).toArray⟩:=by
 show (⟨x.toArray++y.toArray⟩:Str)=_
 congr 1
 simp
theorem str_len (x:List Nat):(⟨x.toArray⟩:Str).length=x.length:=by show x.toArray.size=_;simp
noncomputable def fu (v:AV) (H:aa):Res AV:=match v with
 |.str l=>if l.length≤sizeLine then .ok (.str l) H else .stuck
 |.int i=>if i.natAbs < 1152921504606846976 then .ok (.str (mA i)) H else .stuck
 |_=>.stuck
set_option tactic.hygienic true in
noncomputable def Ex.fmt (e:Ex b cs n) (p:Pos):Ex b cs n where
 py:=.FormattedValue e.py (-1) Option.none p
 run:=λloc H=>(e.run loc H).bind fu
 ok:=λO c g loc H s Q E G R hp=>FormattedValue_plain (e.ok O c g loc H s _ E G R (hp.seq λv H' g' val h' t' le R' V aw=>by
  unfold fu at aw
  cases V<;>first |exact aw.elim |skip
  ·rename_i i t
   dsimp only at aw
   split at aw
   ·rename_i hz
    refine formatField_int_small (log2_small hz) ?_
    rewrite [int_text]
    exact aw g' _ h' _ (.refl _) R' (.str _ _)
   ·exact aw.elim
  ·rename_i l t
   dsimp only at aw
   split at aw
   ·rename_i hz
    exact formatField_str (λt2 tk=>aw g' _ h' tk (.refl _) R' (.str _ _)) (by rw [str_len];exact hz)
   ·exact aw.elim))
noncomputable def bx.joined:bx b cs n→List Nat→Loc→aa→Res AV
 |.nil,acc,_,H=>if acc.length≤sizeLine then .ok (.str acc) H else .stuck
 |.cons e r,acc,loc,H=>(e.run loc H).bind λv H=>match v with
  |.str l=>if (acc++l).length≤sizeLine then r.joined (acc++l) loc H else .stuck
  |_=>.stuck
set_option tactic.hygienic true in
theorem bx.BU (O:b.Ok) (es:bx b cs n):∀ (acc:List Nat) (c:FC) (g:Gh) (loc:Loc) (H:aa) (s:Shared) (Q E:VP),c.Good b cs n→Rep b c g loc H s.heap→ao b c g loc s (es.joined acc loc H) Q E→
  wpAny (model b.prog b.w) c.A (joinParts ⟨acc.toArray⟩ (evalEach es.py c.env)) Q E s:=by
 induction es with
 |nil=>
  intro acc c g loc H s Q E G R hp
  unfold bx.joined at hp
  split at hp
  ·rename_i hz
   exact joinParts_nil (hp g _ s.heap _ (.refl g) R (.str _ _)) (by rw [str_len];exact hz)
  ·exact hp.elim
 |cons e r ih=>
  intro acc c g loc H s Q E G R hp
  show wpAny _ _ (joinParts ⟨acc.toArray⟩ (eval e.py c.env::evalEach r.py c.env)) _ _ _
  refine joinParts_cons (e.ok O c g loc H s _ E G R (ao.seq (f:=λv H=>match v with
  |.str l=>if (acc++l).length≤sizeLine then r.joined (acc++l) loc H else .stuck
  |_=>.stuck) hp λv H' g' val h' t' le R' V aw=>?_))
  cases V<;>first |exact aw.elim |skip
  rename_i l t
  dsimp only at aw
  split at aw
  ·rename_i hz
   dsimp only
   rewrite [F8]
   exact ⟨by rw [str_len];exact hz,ih (acc++l) c g' loc H' {s with heap:=h',toks:=t'} Q E G R' aw⟩
  ·exact aw.elim
noncomputable def Ex.iK (e e':Ex b cs n) (r:bx b cs n) (p:Pos):Ex b cs n where
 py:=.JoinedStr (e.py::e'.py::r.py) p
 run:=λloc H=>(bx.cons e (.cons e' r)).joined [] loc H
 ok:=λO c g loc H s Q E G R hp=>JoinedStr_many (bx.BU O (.cons e (.cons e' r)) [] c g loc H s Q E G R hp)
end
section
variable {b:Base} {cs:Scope} {n:Nat}
structure Et (b:Base) (cs:Scope) (n:Nat) where
 py:Expr
 run:Loc→aa→Res AV
 ok:b.Ok→∀ (c:FC) (g:Gh) (loc:Loc) (H:aa) (s:Shared) (Q E:VP),c.Good b cs n→1≤s.toks→Rep b c g loc H s.heap→ao b c g loc s (run loc H) Q E→
  wpAny (model b.prog b.w) c.A (eval py c.env) Q E s
 ns:∀ r env,starEach (py::r) env=(false,eval py env)::starEach r env:=by intros;rfl
noncomputable def Et.of (e:Ex b cs n):Et b cs n where
 py:=e.py
 run:=e.run
 ok:=λO c g loc H s Q E G _ R hp=>e.ok O c g loc H s Q E G R hp
 ns:=e.ns
noncomputable def Et.bin {op:Operator} (x:Et b cs n) (o:Op b op) (y:Et b cs n) (p:Pos):Et b cs n where
 py:=.BinOp x.py op y.py p
 run:=λloc H=>(x.run loc H).bind λu H=>(y.run loc H).bind λv H=>o.run u v H
 ok:=λO c g loc H s Q E G ht R hp=>wpAny_BinOp (r6 ht (x.ok O c g loc H s _ E G ht R (hp.seq λu H' g' val h' t' le R' V aw jB=>
  y.ok O c g' loc H' {s with heap:=h',toks:=t'} _ E G jB R' (aw.seq λv H2 g2 eQ h2 t2 aP R2 V2 bA=>
   o.ok O c g2 loc H2 {s with heap:=h2,toks:=t2} Q E _ _ u v val eQ G R2 (V.mono aP) V2 bA))))
structure Fx (b:Base) (cs:Scope) (n:Nat) where
 py:Expr
 run:Loc→Option (List Nat)
 ok:b.Ok→∀ (c:FC) (g:Gh) (loc:Loc) (H:aa) (s:Shared) (Q E:VP),c.Good b cs n→Rep b c g loc H s.heap→(match run loc with
   |some l=>∀ g' h' t' t,g.le g'→s.toks≤t→Rep b c g' loc H h'→Q (.str ⟨l.toArray⟩ t) {s with heap:=h',toks:=t'}
   |none=>False)→wpAny (model b.prog b.w) c.A (eval py c.env) Q E s
 ns:∀ r env,starEach (py::r) env=(false,eval py env)::starEach r env:=by intros;rfl
noncomputable def Fx.lit (b:Base) (cs:Scope) (n:Nat) (x:Lit) (k:Nat) (p:Pos):Fx b cs n where
 py:=.Constant (.str x.s) k p
 run:=λ_=>some x.l
 ok:=λ_ c g loc H s Q E _ R hp=>by
  refine wpAny_Constant_str ?_
  refine sY (x.h ..)▸?_
  exact hp g s.heap _ _ (.refl g) (Nat.le_refl _) R
noncomputable def Fx.strOf (b:Base) (cs:Scope) (n:Nat) (x:Bn b cs (.type "str")) (hg:b.Ok→nsIn b.K mainGlobals x.s=some Option.none) (y:Nat) (yp np p:Pos) (hd:autoParam ((b.nm y==("__debug__":Str))=false) xX):Fx b cs n where
 py:=.Call (.Name x.s np) [.Name (b.nm y) yp] [] p
 run:=λloc=>match loc.lookup y with
  |some (.int i)=>if i.natAbs < 1152921504606846976 then some (mA i) else none
  |_=>none
 ok:=λO c g loc H s Q E G R hp=>by
  split at hp
  ·rename_i l hl
   split at hl
   ·rename_i i hi
    split at hl
    ·rename_i hz
     cases hl
     have key:∀ (e:Ex b cs n),e.run loc H=.ok (.int i) H→wpAny (model b.prog b.w) c.A (eval (.Call (.Name x.s np) [e.py] [] p) c.env) Q E s:=by
      intro e he
      refine wpAny_Call_NameR (tG O x (hg O) G R ?_)
      refine PyProof.Rows.callWith_type (by show (backTo p (starEach (bx.cons e .nil).py c.env)).any _=false;rw [bx.plain]) ?_
      refine r6 (Nat.le_refl s.toks) ?_
      refine wpAny_mono (bx.ij O (f:=.type "str") p (.cons e .nil) c g loc H s (λvs aO=>s.toks≤aO.toks→wpAny (model b.prog b.w) c.A (PySem.call (.type "str") ([]++vs) []) Q E aO) E G R ?_) (λa aO h ht=>by rw [h.1];exact h.2 ht) λ_ _ x=>x
      show dZ b c g loc s ((e.run loc H).bind λv H=>(Res.ok [] H).bind λvs H=>.ok (v::vs) H) _ E
      refine sY (he ..)▸?_
      intro g' vals h' t' le R' V ht
      refine ai (vals1 V rfl) ?_;rintro x rfl V1
      cases V1
      refine P.str_of_int (log2_small hz) ?_
      rewrite [int_text]
      exact hp g' h' _ _ le ht R'
     exact key (Ex.loc b cs n y yp hd) (by show ab loc y H=_;unfold ab;rw [hi])
    ·cases hl
   ·cases hl
  ·exact hp.elim
theorem Dt {A:Around} {E:VP} {s:Shared} {x y z:Str} {t u v:Tok} {Q:VP} (hu:u≠0) (hv:v≠0) (Nv:u≠v) (Nt:(y==z)=false) (hb:x.length+(x.length+1) * z.length≤16777216)
  (hq:∀ t' k,Q (.str (Txt.replace x y z) t') {s with toks:=k}) :
  wpAny (model b.prog b.w) A (PySem.call (.builtin "str.replace") [.str x t,.str y u,.str z v]) Q E s:=by
 have hl:Builtin.Str.tooLong (x.length+(Builtin.Str.occurrences x y 0 x.length (x.length+1)).length * z.length)=false:=by
  have h1:=StrLaws.occ_length_le x y 0 x.length (x.length+1)
  have h2:(Builtin.Str.occurrences x y 0 x.length (x.length+1)).length * z.length≤(x.length+1) * z.length:=Nat.mul_le_mul_right _ h1
  unfold Builtin.Str.tooLong sizeLine
  exact decide_eq_false (Nat.not_lt.mpr (Nat.le_trans (Nat.add_le_add_left h2 _) hb))
 refine call_gives PySem.F.slot_str_replace (typeIs_str _ _ _) PySem.F.entry_str_replace (PySem.F.args_str_replace_3 _ _ _)
  (gives_str_replace x y z t u v λ_=>⟨by simp [hu,hv],by simp [Nv],Nt,hl⟩) ?_
 have xh:=hq
 unfold Txt.replace at xh
 cases hc:((Builtin.Str.occurrences x y 0 x.length (x.length+1)).isEmpty||(y.length==0&&z.length==0))
 ·rw [hc] at xh
  simp only [Bool.false_eq_true,if_false] at xh ⊢
  exact ⟨fits_replaced y hb,xh _ _⟩
 ·rw [hc] at xh
  simp only [if_true] at xh ⊢
  exact xh t s.toks
noncomputable def vE (c:Nat) (z:List Nat) (v:AV) (H:aa):Res AV:=match v with
 |.str l=>if z≠[c]∧l.length+(l.length+1) * z.length≤16777216 then .ok (.str (bT c z l)) H else .stuck
 |_=>.stuck
set_option tactic.hygienic true in
noncomputable def Et.replace (o:Et b cs n) (x:Lit) (f:Fx b cs n) (k:Nat) (xp ap p:Pos) (cp:Nat) (hx:x.l=[cp])
  (he:∀ env,∃ pl,eval (.Call (.Attribute o.py "replace" ap) [.Constant (.str x.s) k xp,f.py] [] p) env=(do
   let ov ← eval o.py env
   standAt ap.atName
   let (g,first) ← holding [ov] (getMethod ov "replace" pl)
   callWith p g first (backTo p (starEach [.Constant (.str x.s) k xp,f.py] env)) []):=by intro;exact ⟨_,by with_unfolding_all rfl⟩):Et b cs n where
 py:=.Call (.Attribute o.py "replace" ap) [.Constant (.str x.s) k xp,f.py] [] p
 run:=λloc H=>(o.run loc H).bind λv H=>match f.run loc with
  |some z=>vE cp z v H
  |none=>.stuck
 ok:=λO c g loc H s Q E G ht R hp=>(he c.env).elim λpl he=>MethodCall_ (r6 ht (o.ok O c g loc H s _ E G ht R (hp.seq λv H1 g1 y h1 t1 c9 R1 V1 dc za=>by
  split at dc
  ·rename_i z hz
   cases v<;>first |exact dc.elim |skip
   rename_i l
   cases V1
   rename_i tk
   have bA:ao b c g1 loc {s with heap:=h1,toks:=t1} (if z≠[cp]∧l.length+(l.length+1) * z.length≤16777216 then .ok (.str (bT cp z l)) H1 else .stuck) Q E:=dc
   split at bA
   ·rename_i hc
    have q1:({s with heap:=h1,toks:=t1}:Shared).TypeIs (.str ⟨l.toArray⟩ tk) "str":=typeIs_str _ _ _
    have q2:∀ a,Value.str ⟨l.toArray⟩ tk=.ref a→∃ o,h1.get? a=some o∧o.dict=Option.none:=λa q=>Value.noConfusion q
    have sl:=PySem.F.slot_str_replace
    have ty:=PySem.F.type_str_replace
    have pa:=PySem.F.plainAttrs_str
    show wpAny _ _ (getMethod _ _ _) _ _ _
    have gm:=λQ=>@getMethod_builtin (model b.prog b.w) c.A E {s with heap:=h1,toks:=t1} (.str ⟨l.toArray⟩ tk) "str" (Str.ofString "replace") "str.replace" pl Q q1 pa sl ty q2
    with_reducible refine gm _ ?_
    have fe:starEach [.Constant (.str x.s) k xp,f.py] c.env=(false,eval (.Constant (.str x.s) k xp) c.env)::(false,eval f.py c.env)::starEach [] c.env:=by
     show (false,eval (.Constant (.str x.s) k xp) c.env)::starEach [f.py] c.env=_
     rewrite [f.ns];rfl
    refine sY (fe ..)▸?_
    refine callWith_builtin rfl ?_
    refine evalArgs_plain ?_
    refine Calls.spliced_cons (wpAny_Constant_str (k:=k) (pos:=xp) ?_)
    refine Calls.spliced_cons (f.ok O c g1 loc H1 {s with heap:=h1,toks:=t1+1} _ E G R1 ?_)
    refine sY (hz ..)▸?_
    intro g2 h2 t2 t aP s8 R2
    refine spliced_none ?_
    show wpAny (model b.prog b.w) c.A (PySem.call (.builtin "str.replace") [.str ⟨l.toArray⟩ tk,.str x.s t1,.str ⟨z.toArray⟩ t] []) Q E {s with heap:=h2,toks:=t2}
    have e1:x.s=⟨#[cp]⟩:=by rw [x.h,hx]
    have Mr:1≤t1:=za
    have Iw:t1+1≤t:=s8
    refine Dt (Nat.ne_of_gt Mr) (Nat.ne_of_gt (Nat.lt_of_lt_of_le (Nat.succ_pos _) Iw)) (Nat.ne_of_lt Iw) ?_ (by rw [str_len,str_len];exact hc.2) λt' q=>?_
    ·refine sY (x.h ..)▸?_;refine sY (hx ..)▸?_
     exact beq_eq_false_iff_ne.mpr λq=>hc.1 (kC q).symm
    ·have e2:Txt.replace ⟨l.toArray⟩ x.s ⟨z.toArray⟩=⟨(bT cp z l).toArray⟩:=by
      refine sY (e1 ..)▸?_
      have:=ye ⟨l.toArray⟩ ⟨z.toArray⟩ cp
      apply Str.ext'
      simpa using congrArg List.toArray this
     refine sY (e2 ..)▸?_
     exact bA g2 _ h2 q aP R2 (.str _ _)
   ·exact bA.elim
  ·exact dc.elim))) he
noncomputable def Et.call {k:Nat} (f:Fn b k) (x:Gv cs) (hx:b.Ok→nsIn b.K mainGlobals x.s=some (some (.ref f.addr))∧keepIn b.K (.ref f.addr)=true) (e:Et b cs n) (np p:Pos) (hn:k < n):Et b cs n where
 py:=.Call (.Name x.s np) [e.py] [] p
 run:=λloc H=>(e.run loc H).bind λv H=>f.run [v] H
 ok:=λO c g loc H s Q E G ht R hp=>by
  refine wpAny_Call_NameR (mD O x (hx O).1 G R ?_)
  refine sY (show starEach [e.py] c.env=(false,eval e.py c.env)::starEach [] c.env from e.ns [] c.env ..)▸?_
  refine callWith_of (P:=b.K.In) rfl (keeps_K (hx O).2) ?_
  refine evalArgs_plain (Calls.spliced_cons (e.ok O c g loc H s _ E G ht R (hp.seq λv H' g' val h' t' le R' V aw=>spliced_none ?_)))
  refine aJ (id R') ?_;intro m ag af R2
  exact ⟨O.X.keeps R2.stays,wpAny_call (f.ok O c cs n g' loc H' {s with heap:=h',toks:=t'} Q E [v] [val] G hn R' (.cons V .nil) aw)⟩
structure Tt (b:Base) (cs:Scope) (n:Nat) where
 py:Expr
 run:Loc→aa→Res Bool
 ok:b.Ok→∀ (c:FC) (g:Gh) (loc:Loc) (H:aa) (s:Shared) (Q:Bool→Shared→Prop) (E:VP),c.Good b cs n→1≤s.toks→Rep b c g loc H s.heap→d0 b c g loc s (run loc H) Q E→
  wpAny (model b.prog b.w) c.A (isTrue py c.env (eval py c.env)) Q E s
noncomputable def Tt.cmp {op:CmpOp} (x:Et b cs n) (o:Cp b op) (y:Ex b cs n) (p:Pos) (hm:autoParam (behindInMarks op y.py=false) xX):Tt b cs n where
 py:=.Compare x.py [op] [y.py] p
 run:=λloc H=>(x.run loc H).bind λu H=>(y.run loc H).bind λv H=>(o.run u v H).bind aY
 ok:=λO c g loc H s Q E G ht R hp=>kB (x.ok O c g loc H s _ E G ht R (hp.dD λu H' g' val h' t' le R' V aw=>
  y.ok O c g' loc H' {s with heap:=h',toks:=t'} _ E G R' (aw.dD λv H2 g2 eQ h2 t2 aP R2 V2 bA=>
   o.ok O c g2 loc H2 {s with heap:=h2,toks:=t2} _ E _ _ u v val eQ G R2 (V.mono aP) V2 (bA.dD λz H3 g3 CW h3 t3 gV R3 V3 fF=>
    g8 (s:={s with heap:=h3,toks:=t3}) R3 V3 fF)))) hm
noncomputable def St.Ml {tk:Nat} (hk:1≤tk) (e:Et b cs n) (p:Pos):St b cs n tk where
 py:=.Return (some e.py) p
 run:=λloc H=>(e.run loc H).bind λv H=>.ok (.ret v,loc) H
 ok:=λO c g loc H s Q E G hc hs R hp=>wpAny_Return_some (e.ok O c g loc H s _ E G (Nat.le_trans hk hs) R (hp.dD λv H' g' val h' t' le R' V aw=>aw g' val h' t' (.refl _) R' V))
noncomputable def St.Hn {tk:Nat} (hk:1≤tk) (x:Lv b cs) (xp:Pos) (e:Et b cs n) (p:Pos) (hs:autoParam (swapsWith e.py=m4) xW):St b cs n tk where
 py:=.Assign [.Name (b.nm x.x) xp] e.py p
 run:=λloc H=>(e.run loc H).bind λv H=>.ok (.next,(x.x,v)::loc) H
 ok:=λO c g loc H s Q E G hc ht R hp=>wpAny_Assign_Name (e.ok O c g loc H s _ E G (Nat.le_trans hk ht) R (hp.dD λv H' g' val h' t' le R' V aw=>
  mR (s:={s with heap:=h',toks:=t'}) O x G R' V λh2 t2 R2=>aw g' h2 t2 (.refl _) R2)) (congrFun (congrFun (congrFun hs _) _) _)
noncomputable def St.Mo {tk:Nat} (hk:1≤tk) (t:Tt b cs n) (x y:bb b cs n tk) (p:Pos):St b cs n tk where
 py:=.If t.py x.py y.py p
 run:=λloc H=>(t.run loc H).bind λv H=>match v with |true=>x.run loc H |false=>y.run loc H
 ok:=λO c g loc H s Q E G hc hs R hp=>wpAny_If (r6 hs (t.ok O c g loc H s _ E G (Nat.le_trans hk hs) R (hp.oJ λv H' g' h' t' le R' aw ht=>by
  cases v with
  |true=>exact bb.ok O x c g' loc H' {s with heap:=h',toks:=t'} Q E G hc ht R' aw
  |false=>exact bb.ok O y c g' loc H' {s with heap:=h',toks:=t'} Q E G hc ht R' aw)))
end
noncomputable def pM (K:Frag) (C:Addr):Bool:=match K.lookup C with
 |some ⟨_,_,.cls cd,sl⟩=>!cd.hasDel&&(sl.toList[4]?).join==some (.builtin "Exception.__new__")&&!cd.mro.isEmpty&&cd.mro.contains (.ref C)&&cd.mro.contains (.type "Exception")&&!cd.mro.contains (.type "AttributeError")&&!cd.mro.contains (.type "NameError")&&cd.mro.contains (.type "BaseException") &&
   specialIn K (.ref C) "__call__"==some (some (.builtin "type.__call__"))&&instIn K (.ref C) (.type "type")==some true
 |_=>false
structure kA (M:Model) (h:Heap) (C:Addr):Prop where
 obj:∃ oc od cd sl,h.get? C=some ⟨oc,od,.cls cd,sl⟩∧cd.hasDel=false∧cd.mro.isEmpty=false
 made:Looks M h (Bind.madeBy (.ref C)) (some "Exception.__new__")
 base:Looks M h (Bind.staticBase (.ref C)) (.ref C)
 self:Looks M h (isSubtype (.ref C) (.ref C)) true
 exc:Looks M h (isSubtype (.ref C) (.type "Exception")) true
 attr:Looks M h (isSubtype (.ref C) (.type "AttributeError")) false
 name:Looks M h (isSubtype (.ref C) (.type "NameError")) false
 root:Looks M h (isSubtype (.ref C) (.type "BaseException")) true
 call:Looks M h (specialOf (.ref C) "__call__") (some (.builtin "type.__call__"))
 typ:Looks M h (isInstance (.ref C) (.type "type")) true
set_option tactic.hygienic true in
theorem kj {K:Frag} {M:Model} {h:Heap} (X:K.In h) {C:Addr} (e:pM K C=true):kA M h C:=by
 unfold pM at e
 split at e
 ·rename_i oc od cd sl ho
  simp only [Bool.and_eq_true,Bool.not_eq_true',beq_iff_eq] at e
  refine aQ e ?_;clear e;rintro ⟨⟨⟨⟨⟨⟨⟨⟨e1,e2⟩,e3⟩,e4⟩,e5⟩,e6⟩,e7⟩,e8⟩,e9⟩ OI
  have hc:clsIn K C=some cd:=by unfold clsIn;rw [ho]
  have hm:Looks M h (mroOf (.ref C)) cd.mro:=(looks_clsIn X hc).andThen .now
  obtain ⟨c,l,hl⟩:∃ c l,cd.mro=c::l:=by cases q:cd.mro with |nil=>rw [q] at e3;cases e3 |cons c l=>exact ⟨c,l,rfl⟩
  have made:Looks M h (Bind.madeBy (.ref C)) (some "Exception.__new__"):=by
   intro A Q E s k q
   unfold Bind.madeBy
   refine wpAny_bind (hm A _ E s k ?_)
   refine sY (hl ..)▸?_;rewrite [List.forIn_cons]
   refine wpAny_bind (wpAny_bind (wpAny_bind (wpAny_bind (wpAny_loadPart (k _ _ (X _ _ ho)) (wpAny_pure ?_)))))
   dsimp only
   refine (Array.getElem?_toList ..)▸?_;refine sY (e2 ..)▸?_
   exact wpAny_pure (wpAny_pure (wpAny_pure q))
  have sub:∀ {b:Value} {r:Bool},cd.mro.contains b=r→Looks M h (isSubtype (.ref C) b) r:=λ{b r} z=>looks_mroIn X (by unfold mroIn;rw [hc,Option.bind_some,if_neg (by rw [e3];decide),z])
  refine ⟨⟨oc,od,cd,sl,X _ _ ho,e1,e3⟩,made,?_,sub e4,sub e5,sub e6,sub e7,sub e8,looks_specialIn X e9,looks_instIn X OI⟩
  ·intro A Q E s k q
   unfold Bind.staticBase
   refine wpAny_bind (hm A _ E s k ?_)
   refine sY (hl ..)▸?_;rewrite [List.forIn_cons]
   exact wpAny_bind (wpAny_bind (wpAny_bind (made A _ E s k (wpAny_pure (wpAny_pure (wpAny_pure q))))))
 ·cases e
noncomputable abbrev Ax (C t:Addr):Obj:={cls:=.ref C,data:=.fields #[.ref t,.none,.none,.none,.bool false,.none]}
noncomputable abbrev pL (h:Heap) (C:Addr) (rest:List Value):Heap:=(h.push (i8 rest 0)).push (Ax C h.objs.size)
section
variable {prog:Program} {w:World} {A:Around} {C:Addr} {R:Result→Shared→Prop} {h:Heap} {g:Array GenState} {d:Drawn} {t:Nat} {os:OsState}
theorem Ha {rest:List Value} (Y:kA (model prog w) h C) (Fi:rest.length≤sizeLine)
  (hq:R (.ok (.ret (.ref (h.objs.size+1)))) ⟨pL h C rest,g,d,t,os⟩):codeAny (model prog w) A (.call (.builtin "Exception.__new__") ⟨.ref C::rest,[]⟩) R ⟨h,g,d,t,os⟩:=by
 obtain ⟨⟨oc,od,cd,sl,hC,e1,e4⟩,made,base,self,exc,attr,name,root,call,typ⟩:=Y
 have F:=PySem.F.excBase_Exception
 have Fq:=F.quiet
 refine codeAny_call_builtin_code (Code.quiet_builtin _ F.quiet) ?_
 have star:=F.noStar
 have here:∀ id,Manifest.canonical "Exception.__new__"=Manifest.canonical id→Looks (model prog w) h (Bind.madeHere id (.ref C)) ():=λid z=>base.andThen (made.andThen (Looks.of_pure (by simp only [Option.map_some,z,bne_self_eq_false,Bool.false_eq_true,if_false])))
 have OY:=here _ F.canon
 simp only [checkBuiltinCall,F.newKind,F.newSplit,F.newRow]
 repeat (first |simp only [bne_self_eq_false,Bool.false_eq_true,if_false,Bool.not_true] |lk)
 refine codeAny_builtinAt F.entry ?_
 have OZ:=F.ends
 unfold Builtin.«BaseException.__new__»
 refine _root_.PySem.wpAt_bind ?_
 show _root_.PySem.wpAt _ _ _ (stack >>= _) _ _ _
 refine _root_.PySem.wpAt_bind (_root_.PySem.wpAt_stack λp below=>_root_.PySem.wpAt_of_wpAny ?_)
 wp_walk
 refine _root_.PySem.wpAt_of_wpAny ?_
 refine sY (F.owner ..)▸?_
 repeat (first |simp only [bne_self_eq_false,Bool.false_eq_true,if_false,Bool.not_true] |lk |wp_step)
 refine wpAny_load (Heap.get?_push_of_some _ (Heap.get?_push_of_some _ hC)) ?_
 dsimp only
 refine sY (e1 ..)▸?_
 refine wpAny_pure (wpAny_pure (wpAny_pure ?_))
 show R _ _
 rewrite [Heap.size_push]
 exact hq
theorem EC {rest:List Value} {init:Value} (Y:kA (model prog w) h C) (hi:Looks (model prog w) h (typeLookup (.ref C) "__init__") (some init)) (Fi:rest.length≤sizeLine)
  (hb:∀ self,Looks (model prog w) h (bindSpecial init self) (init,[self]))
  (hq:codeAny (model prog w) (A.under (.builtin "type.__call__" ⟨.ref C::rest,[]⟩)) (.call init ⟨.ref (h.objs.size+1)::rest,[]⟩) (InitBack (h.objs.size+1) R) ⟨pL h C rest,g,d,t,os⟩) :
  codeAny (model prog w) A (.call (.ref C) ⟨rest,[]⟩) R ⟨h,g,d,t,os⟩:=by
 have Y':=Y
 obtain ⟨⟨oc,od,cd,sl,hC,e1,e4⟩,made,base,self,exc,attr,name,root,call,typ⟩:=Y
 refine codeAny_of_tree ?_
 show wpAny _ _ (callAny (.ref C) _) _ _ _
 refine nd_load hC ?_
 show wpAny _ _ (callAny.viaDunder (.ref C) _) _ _ _
 unfold callAny.viaDunder
 refine wpAny_bind (call.at ?_)
 dsimp only
 rewrite [tc_bind]
 refine wpAny_bind (wpAny_pure (wpAny_bind (wpAny_pure ?_)))
 refine wpAny_pure (a:=Fin.again (.call (.builtin "type.__call__") ⟨.ref C::rest,[]⟩)) (And.intro rfl ?_)
 refine codeAny_call_builtin_at (Code.quiet_builtin _ (by decide +kernel)) entry_typeCall (check_slot tc_kind tc_split typ (tc_args _ _ _) ?_)
 unfold Builtin.«type.__call__»
 have hm:Looks (model prog w) h (mroOf (.ref C)) cd.mro:=((Looks.ld (part:=none) hC).andThen .now).andThen .now
 repeat (first |simp only [e4,Bool.false_eq_true,if_false] |with_reducible refine wpAny_call ?_ |lk)
 refine Ha Y' Fi ?_
 have k:∀ b o,h.get? b=some o→(pL h C rest).get? b=some o:=λb o e=>Heap.get?_push_of_some _ (Heap.get?_push_of_some _ e)
 have hx:(pL h C rest).get? (h.objs.size+1)=some (Ax C h.objs.size):=by heap_get
 have t1:Looks (model prog w) (pL h C rest) (typeOf (.ref (h.objs.size+1))) (.ref C):=(Looks.ld hx).andThen .now
 have s1:=self.keeps k
 have i1:=hi.keeps k
 have b1:=(hb (.ref (h.objs.size+1))).keeps k
 unfold isInstance callSpecial? specialOf
 repeat (first |with_reducible refine wpAny_call ?_ |lk)
 refine codeAny_mono hq λr s' z=>?_
 rcases r with e |(v |_ |_ |_)<;>first |exact z |exact z.elim |skip
 refine aQ z ?_;clear z;rintro rfl z
 exact wpAny_pure (wpAny_pure z)
end
theorem AS:Slot "wrapper_descriptor" "__get__" "wrapper_descriptor.__get__":=.of (owner:="wrapper_descriptor") (n:="__get__") (by rw [typeLookup_type,builtinLookup_eq_fast];kernel_rfl) (by decide +kernel) (by decide +kernel) (by decide +kernel)
 (by first |exact .inl (by decide +kernel) |exact .inr (by decide +kernel)) (by rw [isSubtype_type];kernel_rfl)
theorem CS:entryFor table "wrapper_descriptor.__get__"=some Builtin.«wrapper_descriptor.__get__»:=entryFor_of_tree (by kernel_rfl)
theorem FY (a b c:Value):argsOk "wrapper_descriptor.__get__" ⟨[a,b,c],[]⟩:=by unfold argsOk;kernel_rfl
theorem FW:typeOf (.builtin "Exception.__init__")=pure (.type "wrapper_descriptor"):=by kernel_rfl
section
variable {prog:Program} {w:World} {A:Around} {E:VP} {h:Heap} {g:Array GenState} {d:Drawn} {t:Nat} {os:OsState}
theorem Hw {x C:Addr} {Q:Fin→Shared→Prop} (hi:Looks (model prog w) h (isInstance (.ref x) (.type "Exception")) true) (hq:Q (.done (.ret (.ref h.objs.size))) ⟨h.push {cls:=.type "method-wrapper",data:=.fields #[.builtin "Exception.__init__",.ref x]},g,d,t,os⟩) :
  wpAny (model prog w) A (Builtin.«wrapper_descriptor.__get__» ⟨[.builtin "Exception.__init__",.ref x,.ref C],[]⟩) Q E ⟨h,g,d,t,os⟩:=by
 have hn:(".".intercalate (("Exception.__init__":String).cutAt '.').dropLast)="Exception":=by decide +kernel
 have Lp:Looks (model prog w) h (isInstance (.ref x) (.type (".".intercalate (("Exception.__init__":String).cutAt '.').dropLast))) true:=by rw [hn];exact hi
 unfold Builtin.«wrapper_descriptor.__get__»
 repeat (first |lk |with_reducible refine wpAny_newObj_type ?_ (by size_fits))
 exact hq
theorem JJ {so D x C:Addr} {l₀ l:List Value} {K:Frag} {tk:Tok} {Q:Fin→Shared→Prop}
  (nK:h.get? so=some {cls:=.type "super",dict:=none,data:=.fields #[.ref D,.ref x,.ref C],slots:=#[]}) (lG:Looks (model prog w) h (opaqueClassAbove (.ref C)) none)
  (hC:Looks (model prog w) h (mroOf (.ref C)) l₀) (hl:(l₀.dropWhile (· != .ref D)).drop 1=l) (X:K.In h)
  (hf:alongIn K "__init__" l=some (some (.builtin "Exception.__init__"))) (s7:x≠C) (hi:Looks (model prog w) h (isInstance (.ref x) (.type "Exception")) true)
  (hq:Q (.done (.ret (.ref h.objs.size))) ⟨h.push {cls:=.type "method-wrapper",data:=.fields #[.builtin "Exception.__init__",.ref x]},g,d,t,os⟩) :
  wpAny (model prog w) A (Builtin.«super.__getattribute__» ⟨[.ref so,.str "__init__" tk],[]⟩) Q E ⟨h,g,d,t,os⟩:=by
 have IF:=AS.lookup
 have uS:(Value.ref x==Value.ref C)=false:=by simp [s7]
 have Lu:(⟨h,g,d,t,os⟩:Shared).TypeIs (.builtin "Exception.__init__") "wrapper_descriptor":=FW
 have IJ:({cls:=.type "super",dict:=none,data:=.fields #[.ref D,.ref x,.ref C],slots:=#[]}:Obj).data=.fields #[.ref D,.ref x,.ref C]:=rfl
 have f0:(#[.ref D,.ref x,.ref C]:Array Value)[0]?=some (.ref D):=rfl
 have f1:(#[.ref D,.ref x,.ref C]:Array Value)[1]?=some (.ref x):=rfl
 have f2:(#[.ref D,.ref x,.ref C]:Array Value)[2]?=some (.ref C):=rfl
 have hn:(("__init__":Str)==("__class__":Str))=false:=by decide +kernel
 unfold Builtin.«super.__getattribute__»
 repeat (first
  |(with_reducible refine wpAny_field nK IJ f0 ?_) |(with_reducible refine wpAny_field nK IJ f1 ?_) |(with_reducible refine wpAny_field nK IJ f2 ?_)
  |(with_reducible refine ks_wpAny_notOpaque lG ?_)
  |(with_reducible refine Looks.at hC ?_;rw [hl])
  |(refine ks_forIn_along X (λ_ _=>rfl) rfl ?_ hf)
  |(with_reducible refine wpAny_typeOf Lu ?_)
  |(with_reducible refine wpAny_call_entry AS Lu CS ?_ (FY _ _ _))
  |(with_reducible refine Hw hi ?_)
  |(with_reducible refine ⟨_,rfl,?_⟩)
  |(simp only [hn,uS,Bool.or_false,Bool.false_eq_true,if_false])
  |wp_step
  |dsimp only)
 all_goals exact hq
theorem Bp {so D x C:Addr} {l₀ l:List Value} {K:Frag} {pl:Sem Bool} {Q:Value×List Value→Shared→Prop}
  (nK:h.get? so=some {cls:=.type "super",dict:=none,data:=.fields #[.ref D,.ref x,.ref C],slots:=#[]}) (lG:Looks (model prog w) h (opaqueClassAbove (.ref C)) none)
  (hC:Looks (model prog w) h (mroOf (.ref C)) l₀) (hl:(l₀.dropWhile (· != .ref D)).drop 1=l) (X:K.In h)
  (hf:alongIn K "__init__" l=some (some (.builtin "Exception.__init__"))) (s7:x≠C) (hi:Looks (model prog w) h (isInstance (.ref x) (.type "Exception")) true)
  (hq:Q (.ref h.objs.size,[]) ⟨h.push {cls:=.type "method-wrapper",data:=.fields #[.builtin "Exception.__init__",.ref x]},g,d,t+1,os⟩) :
  wpAny (model prog w) A (getMethod (.ref so) "__init__" pl) Q E ⟨h,g,d,t,os⟩:=by
 have IF:=PySem.F.ks_slot_super_ga.lookup
 have My:=PySem.F.ks_canon_super_ga
 have hT:∀ t',(⟨h,g,d,t',os⟩:Shared).TypeIs (.ref so) "super":=λ_=>⟨_,nK,rfl⟩
 unfold getMethod
 refine wpAny_bind (wpAny_specialOf (hT _) IF ?_)
 show wpAny _ _ (if (Manifest.canonical "super.__getattribute__" != "object.__getattribute__")=true then _ else _) _ _ _
 refine sY (if_pos My ..)▸?_
 unfold getAttr getAttrBy
 refine wpAny_bind (wpAny_bind (wpAny_mkText (wpAny_holding (wpAny_bind (wpAny_typeOf (hT _) (wpAny_bind (wpAny_of_eq IF ?_)))))))
 show wpAny _ _ (getAttrByItsOwn (.ref so) (.str "__init__" t) (.type "super") (.builtin "super.__getattribute__") true false) _ _ _
 unfold getAttrByItsOwn hookBefore callGetattribute boundAndCalled
 refine wpAny_bind (wpAny_of_eq (show (if onTheHeap (.type "super") then typeLookup (.type "super") "__getattr__" else pure none)=pure none from rfl) ?_)
 refine wpAny_bind (wpAny_attempt (wpAny_holding ?_))
 show wpAny _ _ (bindSpecial (.builtin "super.__getattribute__") (.ref so) >>= _) _ _ _
 refine wpAny_bind (wpAny_of_eq (PySem.F.ks_slot_super_ga.bind _) ?_)
 refine wpAny_mono (Q:=λv s'=>v=.ref h.objs.size∧s'=⟨h.push {cls:=.type "method-wrapper",data:=.fields #[.builtin "Exception.__init__",.ref x]},g,d,t+1,os⟩) (E:=λ_ _=>False)
  (wpAny_call_entry PySem.F.ks_slot_super_ga (hT _) PySem.F.ks_entry_super_ga (JJ nK lG hC hl X hf s7 hi ⟨_,rfl,rfl,rfl⟩) (PySem.F.ks_gaArgs_super _ _)) (λv s' hv=>?_) λ_ _ z=>z.elim
 refine aQ hv ?_;clear hv;rintro rfl rfl
 exact wpAny_pure (wpAny_pure hq)
theorem Dq {x C:Addr} {v:Value} {oe:Obj} {oc:Value} {od:Option Addr} {cd:ClassData} {sl:Array (Option Value)} {Q:Unit→Shared→Prop} (hx:h.get? x=some oe) (hc:oe.cls=.ref C) (hC:h.get? C=some ⟨oc,od,.cls cd,sl⟩)
  (hq:Q () ⟨h,g,d,t,os⟩):wpAny (model prog w) A (checkBoundCall "Exception.__init__" ⟨[.ref x,v],[]⟩) Q E ⟨h,g,d,t,os⟩:=by
 have F:=PySem.F.excBase_Exception
 unfold checkBoundCall
 simp only [F.initRow,F.initKind]
 rewrite [if_pos (by decide)]
 unfold Bind.checkArgs
 repeat (first |(with_reducible refine wpAny_loadPart_at hx ?_;rw [hc]) |with_reducible refine wpAny_loadPart_at hC ?_ |wp_step)
 exact hq
theorem Gf {b x:Addr} {v:Value} {oe:Obj} {vs:Array Value} {old:Value} {C:Addr} {oc:Value} {od:Option Addr} {cd:ClassData} {sl:Array (Option Value)} {R:Result→Shared→Prop} (hc:oe.cls=.ref C) (hC:h.get? C=some ⟨oc,od,.cls cd,sl⟩) (hb:h.get? b=some {cls:=.type "method-wrapper",dict:=none,data:=.fields #[.builtin "Exception.__init__",.ref x],slots:=#[]})
  (hx:h.get? x=some oe) (hd:oe.data=.fields vs) (h0:vs[0]?=some old) (hq:∀ h' T,h'.get? x=some {oe with data:=.fields (vs.setIfInBounds 0 (.ref T))}→(∀ a o,a≠x→h.get? a=some o→h'.get? a=some o)→h'.get? T=some (i8 [v] 0)→T≠x→h.get? T=none→R (.ok (.ret .none)) ⟨h',g,d,t,os⟩) :
  codeAny (model prog w) A (.call (.ref b) ⟨[v],[]⟩) R ⟨h,g,d,t,os⟩:=by
 have F:=PySem.F.excBase_Exception
 refine codeAny_of_tree ?_
 show wpAny _ A.in1 (callAny (.ref b) ⟨[v],[]⟩) _ _ _
 unfold callAny
 refine wpAny_bind (wpAny_load hb ?_)
 show wpAny _ _ (do checkBoundCall "Exception.__init__" ⟨[.ref x,v],[]⟩;again (.builtin "Exception.__init__" ⟨[.ref x,v],[]⟩)) _ _ _
 refine wpAny_bind (Dq hx hc hC (wpAny_pure ⟨plainId_quiet F.init.plain _,codeAny_builtin F.initEntry ?_⟩))
 unfold Builtin.«BaseException.__init__»
 repeat (first |lk |wp_step)
 refine wpAny_load (Heap.get?_push_of_some _ hx) ?_
 refine sY (hd ..)▸?_
 refine wpAny_pure ?_
 refine sY (h0 ..)▸?_
 refine wpAny_pure (wpAny_bind ?_)
 refine wpAny_setField (Heap.get?_push_of_some _ hx) hd (by rcases Nat.lt_or_ge 0 vs.size with z |z;exact z;rw [Array.getElem?_eq_none z] at h0;cases h0) ?_
 have fin:∀ {E':VP} {A':Around} {m:Sem Unit} {Q:Unit→Shared→Prop} {s:Shared},(m=pure ()∨∃ a,m=letGo [a])→Q () s→wpAny (model prog w) A' m Q E' s:=by
  rintro E' A' m Q s (rfl |⟨a,rfl⟩) hQ
  ·exact wpAny_pure hQ
  ·exact wpAny_letGo hQ
 refine fin ?_ (wpAny_pure ?_)
 ·cases old<;>first |exact .inl rfl |exact .inr ⟨_,rfl⟩
 ·show R _ _
  have hT:h.objs.size≠x:=Nat.ne_of_gt (Heap.lt_size hx)
  refine hq _ h.objs.size ?_ ?_ ?_ hT (Heap.get?_none_of_le (Nat.le_refl _))
  ·obtain ⟨ec,ed,Py,Pw⟩:=oe
   dsimp only at hd
   subst hd
   exact Heap.get?_update_self _ (Heap.get?_push_of_some _ hx) rfl
  ·intro a o ha e
   refine sY (Heap.get?_update_other _ _ (Ne.symm ha) ..)▸?_
   exact Heap.get?_push_of_some _ e
  ·refine sY (Heap.get?_update_other _ _ (Ne.symm hT) ..)▸?_
   exact Heap.get?_push_size _ rfl
end
noncomputable def FI:List Value:=[.ref 81,.ref 69,.ref 40,.type "Exception",.type "BaseException",.type "object"]
noncomputable def xO (l:List Value):Bool:=decide (l=FI)
theorem Bv (self:Value) {l:List Value} (e:xO l=true):refuseLoop self "__setattr__" l=pure ():=by
 rw [of_decide_eq_true e];unfold FI;rw [refuseLoop_ref,refuseLoop_ref,refuseLoop_ref];kernel_rfl
theorem Ay {l:List Value} (e:xO l=true):l.contains (.type "object")=true∧l.isEmpty=false:=by
 rw [of_decide_eq_true e];exact ⟨by decide +kernel,rfl⟩
noncomputable def tu (K:Frag) (C:Addr):Bool:=(clsIn K C).any λcd=>xO cd.mro
section
variable {prog:Program} {w:World} {A:Around} {K:Frag} {C x:Addr} {s:Shared} {R:Result→Shared→Prop}
theorem xN {ox:Obj} {od:Option Obj} {name:Str} {tk:Tok} {v:Value} (X:K.In s.heap) (I:InstAt s.heap x ox C od) (hp:tu K C=true) (ht:takerIn K C name=some none)
  (h:∀ b,wpAny (model prog w) A.in1 (Builtin.ObjectAttr.storeInOwnDict (.ref x) (.ref C) (.str name tk) name v b)
   (λfin s'=>match fin with |.done f=>R (.ok f) s' |.again c'=>c'.quiet=true∧codeAny (model prog w) A c' R s') (λe s'=>R (.error e) s') s) :
  codeAny (model prog w) A (.call (.builtin "object.__setattr__") ⟨[.ref x,.str name tk,v],[]⟩) R s:=by
 have SF:=PySem.F.store_object
 refine ai (any_some hp) ?_;intro cd hc ho
 refine aQ (Ay ho) ?_;intro NM ne
 have sub:Looks (model prog w) s.heap (isInstance (.ref x) (.type "object")) true:=I.type.andThen (looks_mroIn X (by unfold mroIn;rw [hc,Option.bind_some,if_neg (by rw [ne];decide),NM]))
 refine codeAny_call_builtin SF.slot.plain SF.entry (@check_slot (model prog w) _ _ s "object.__setattr__" "object" "__setattr__" (.ref x) [.str name tk,v] [] _ SF.kind SF.split sub (SF.args (.ref x) (.str name tk) v) ?_)
 refine ai (Option.bind_eq_some_iff.mp ht) ?_;intro attr ha hr
 have hm:Looks (model prog w) s.heap (mroOf (.ref C)) cd.mro:=(looks_clsIn X hc).andThen .now
 have L3:Looks (model prog w) s.heap (Builtin.ObjectAttr.storeTaker? attr) none:=by
  cases attr with
  |none=>exact .now
  |some a=>
   refine ai (Option.map_eq_some_iff.mp hr) ?_;intro b hb hr
   refine (looks_takesIn X hb).andThen ?_
   cases b
   ·exact .now
   ·cases hr
 rewrite [osa_eq,refuse_eq]
 refine wpAny_bind (wpAny_bind (I.type.here (wpAny_bind (hm.here ?_))))
 refine sY (Bv _ ho ..)▸?_
 refine wpAny_pure (wpAny_bind (I.type.here (wpAny_bind ((looks_findIn X ha).here (wpAny_bind (L3.here ?_))))))
 exact h _
theorem By {A':Around} {d:Addr} {es:List DictEntry} {n:Nat} {name:Str} {v:Value} {tk:Tok} {Q:Fin→Shared→Prop} {E:VP} {s:Shared} (hd:s.heap.get? d=some (bE es n)) (hk:es.any (·.refKey)=false) (hz:(putL name (PyData.keyHash w.params name) (.str name s.toks) v es).length≤1000)
  (h:∀ h',h'.get? d=some (bE (putL name (PyData.keyHash w.params name) (.str name s.toks) v es) (putN name es n))→(∀ a o,a≠d→s.heap.get? a=some o→h'.get? a=some o)→Q (.done (.ret .none)) {s with heap:=h',toks:=s.toks+1}) :
  wpAny (model prog w) A' (Builtin.ObjectAttr.storeInDict d (.str name tk) name v) Q E s:=by
 refine wpAny_bind (wpAny_pure (wpAny_bind ?_))
 unfold nsSet
 refine wpAny_bind (wpAny_bind (wpAny_askSetting (wpAny_pure (wpAny_bind (wpAny_mkText (wpAny_bind (wpAny_loadPart hd ?_)))))))
 dsimp only
 have c:(!(es.toArray.any (·.key.isStr name))&&es.toArray.any (·.refKey))=false:=by
  refine (Array.any_toList ..)▸?_;refine (Array.any_toList ..)▸?_
  show (_&&es.any (·.refKey))=false
  refine sY (hk ..)▸?_;rewrite [Bool.and_false];rfl
 rewrite [aRefKeyMayBeTheName_at];refine sY (c ..)▸?_
 have e1:(s.heap.update d (Obj.putName name (PyData.keyHash w.params name) (.str name s.toks) v)).get? d=some (bE (putL name (PyData.keyHash w.params name) (.str name s.toks) v es) (putN name es n)):=by
  rewrite [Heap.get?_update_self _ hd (by rw [putName_dict];rfl),putName_dict];rfl
 refine wpAny_updatePart hd ?_
 refine wpAny_bind (wpAny_lookBehind e1 (pastItsLine_dict (by rw [List.size_toArray,sizeLine_eq];exact lO hz rfl)) ?_)
 refine wpAny_pure (h _ e1 λa o ha e=>?_)
 refine sY (Heap.get?_update_other _ _ (Ne.symm ha) ..)▸?_
 exact e
theorem CA {ox:Obj} {name:Str} {tk:Tok} {v:Value} {vs:Array Value} (X:K.In s.heap) (I:InstAt s.heap x ox C none) (hd:ox.dict=none) (hf:ox.data=.fields vs) (hp:tu K C=true) (ht:takerIn K C name=some none) (hh:(clsIn K C).any (·.hasDict)=true)
  (h:∀ h' d,h'.get? x=some {ox with dict:=some d}→h'.get? d=some (bE (putL name (PyData.keyHash w.params name) (.str name s.toks) v []) (putN name [] 0))→s.heap.get? d=none→d≠x→(∀ a o,a≠x→s.heap.get? a=some o→h'.get? a=some o)→R (.ok (.ret .none)) {s with heap:=h',toks:=s.toks+1}) :
  codeAny (model prog w) A (.call (.builtin "object.__setattr__") ⟨[.ref x,.str name tk,v],[]⟩) R s:=by
 refine xN X I hp ht λb=>?_
 refine ai (any_some hh) ?_;intro cd hc IM
 obtain ⟨hx,jC,hn,-⟩:=I
 obtain ⟨oc,M3,M4,kG⟩:=ox
 dsimp only at jC hd hf
 subst jC hd hf
 have kx:s.heap.objs.size≠x:=Nat.ne_of_gt (Heap.lt_size hx)
 refine wpAny_bind (wpAny_pure (wpAny_bind (wpAny_bind (wpAny_loadPart hx (wpAny_bind ((looks_clsIn X hc).here ?_))))))
 refine sY (IM ..)▸?_
 refine wpAny_bind (wpAny_alloc (wpAny_bind (wpAny_update (Heap.get?_push_of_some _ hx) ?_)))
 refine wpAny_pure (a:=some s.heap.objs.size) ?_
 have Nw:=Heap.get?_push_of_some (bE [] 0) hx
 have e1:((s.heap.push (bE [] 0)).update x λo=>{o with dict:=some s.heap.objs.size}).get? x=some {cls:=.ref C,dict:=some s.heap.objs.size,data:=.fields vs,slots:=kG}:=Heap.get?_update_self _ Nw rfl
 have keep:∀ a o,a≠x→s.heap.get? a=some o→((s.heap.push (bE [] 0)).update x λo=>{o with dict:=some s.heap.objs.size}).get? a=some o:=λa o ha e=>by
  refine sY (Heap.get?_update_other _ _ (Ne.symm ha) ..)▸?_
  exact Heap.get?_push_of_some _ e
 have e2:((s.heap.push (bE [] 0)).update x λo=>{o with dict:=some s.heap.objs.size}).get? s.heap.objs.size=some (bE [] 0):=by
  refine sY (Heap.get?_update_other _ _ (Ne.symm kx) ..)▸?_
  exact Heap.get?_push_size _ rfl
 refine By (s:={s with heap:=(s.heap.push (bE [] 0)).update x λo=>{o with dict:=some s.heap.objs.size}}) (es:=[]) (n:=0) e2 rfl (by show 1≤1000;decide) λh' f1 f2=>?_
 exact h h' s.heap.objs.size (f2 _ _ (Ne.symm kx) e1) f1 (Heap.get?_none_of_le (Nat.le_refl _)) kx λa o ha e=>f2 a o (λq=>by subst q;exact absurd (Heap.lt_size e) (Nat.lt_irrefl _)) (keep a o ha e)
theorem ED {ox:Obj} {name:Str} {tk:Tok} {v:Value} {es:List DictEntry} {n:Nat} {d:Addr} (X:K.In s.heap) (I:InstAt s.heap x ox C (some (bE es n))) (hd:ox.dict=some d) (hk:es.any (·.refKey)=false) (hz:(putL name (PyData.keyHash w.params name) (.str name s.toks) v es).length≤1000) (hp:tu K C=true) (ht:takerIn K C name=some none) (hh:(clsIn K C).any (·.hasDict)=true)
  (h:∀ h',h'.get? d=some (bE (putL name (PyData.keyHash w.params name) (.str name s.toks) v es) (putN name es n))→(∀ a o,a≠d→s.heap.get? a=some o→h'.get? a=some o)→R (.ok (.ret .none)) {s with heap:=h',toks:=s.toks+1}) :
  codeAny (model prog w) A (.call (.builtin "object.__setattr__") ⟨[.ref x,.str name tk,v],[]⟩) R s:=by
 refine xN X I hp ht λb=>?_
 refine ai (any_some hh) ?_;intro cd hc IM
 obtain ⟨hx,jC,hn,nM⟩:=I
 rw [hd] at nM
 obtain ⟨oc,M3,M4,kG⟩:=ox
 dsimp only at jC hd
 subst jC hd
 refine wpAny_bind (wpAny_pure (wpAny_bind (wpAny_bind (wpAny_loadPart hx (wpAny_bind ((looks_clsIn X hc).here ?_))))))
 refine sY (IM ..)▸?_
 refine wpAny_pure (a:=some d) ?_
 exact By (s:=s) nM hk hz λh' f1 f2=>h h' f1 f2
theorem Bj {E:VP} {ox:Obj} {od:Option Obj} {name:Str} {v:Value} {Q:Unit→Shared→Prop} (X:K.In s.heap) (I:InstAt s.heap x ox C od)
  (hs:findIn K (.ref C) "__setattr__"=some (some (.builtin "object.__setattr__")))
  (h:codeAny (model prog w) A (.call (.builtin "object.__setattr__") ⟨[.ref x,.str name s.toks,v],[]⟩) (λr s'=>match r with |.ok (.ret _)=>Q () s' |.ok _=>False |.error e=>E e s') {s with toks:=s.toks+1}) :
  wpAny (model prog w) A (setAttr (.ref x) name v) Q E s:=set_plain X I hs h
end
structure js (b:Base) (f dF cc D:Addr) (scope:Scope) (p:Nat) (ps:List Nat) (body:List Stmt):Prop where
 fn:∃ name qual params dV kV doc pm an ct oc od kG ar,b.K.lookup f=some ⟨oc,od,.func (ksFn name qual params body scope dV kV doc pm an (.ref dF) ct cc),kG⟩∧codeIn b.K (.ref dF) qual=true∧
  (params.posonlyargs++params.args).head?=some ar∧ar.arg=b.nm p∧∀ vals:List Value,vals.length=ps.length+1→bindArgs (ksFn name qual params body scope dV kV doc pm an (.ref dF) ct cc) ⟨vals,[]⟩=pure (((p::ps).map b.nm).zip vals)
 code:∃ LW LU vs LV file tf,b.K.lookup dF=some ⟨LW,LU,.fields vs,LV⟩∧vs[2]?=some (.str file tf)∧((b.prog.main.file:Str)==file)=true
 cell:∃ cl LS LQ,b.K.lookup cc=some ⟨cl,LS,.cell (some (.ref D)),LQ⟩
 cls:∃ cd,clsIn b.K D=some cd
 sup:nsIn b.K mainGlobals "super"=some none
 top:(b.prog.main.scope.names.lookup ("super":Str)).isSome=false
 ks:scope.names.lookup ("super":Str)=some .globalImplicit
 kc:scope.names.lookup ("__class__":Str)=some .free
 kind:scope.kind=.function
 wI:∀ x∈scope.names,x.2≠.cell
 co:scope.isCoroutine=false
 gen:scope.isGenerator=false
 loc:∀ q∈p::ps,scope.names.lookup (b.nm q)=some .local
 fresh:p∉ps
noncomputable abbrev dC (qual:Str) (scope:Scope) (L f dF cc:Addr):Env:=ksEnv qual scope L f (.ref dF) cc
noncomputable abbrev fN (p0 p1 ap cp ep:Pos) (args:List Expr) (rest:List Stmt):List Stmt:=.Expr (.Call (.Attribute (.Call (.Name "super" p0) [] [] p1) "__init__" ap) args [] cp) ep::rest
def qv (p0 p1 ap cp ep:Pos) (args:List Expr):Prop:=(∀ env:Env,∃ pl,eval (.Call (.Attribute (.Call (.Name "super" p0) [] [] p1) "__init__" ap) args [] cp) env=(do
   let ov ← attributeBase (.Call (.Name "super" p0) [] [] p1) "__init__" env (eval (.Call (.Name "super" p0) [] [] p1) env)
   standAt ap.atName
   let (f,first) ← holding [ov] (getMethod ov "__init__" pl)
   callWith cp f first (backTo cp (starEach args env)) []))∧
  ∀ env:Env,swapsWith (.Call (.Attribute (.Call (.Name "super" p0) [] [] p1) "__init__" ap) args [] cp) none ep.line env=pure false
section
variable {b:Base} {A:Around} {s:Shared} {R:Result→Shared→Prop} {f dF cc D x C:Addr} {scope:Scope} {p:Nat} {ps:List Nat}
set_option tactic.hygienic true in
theorem oH (O:b.Ok) {p0 p1 ap cp ep:Pos} {args:List Expr} {rest:List Stmt} (S:js b f dF cc D scope p ps (fN p0 p1 ap cp ep args rest)) {ox:Obj} {vals:List Value} (stays:b.hT.StaysIn s.heap) (hx:s.heap.get? x=some ox) (lE:ox.cls=.ref C) (lG:notCls ox=true)
  (rK:mroIn b.K C (.ref D)=some true) (lF:A.depth < recursionLimit) (hlen:vals.length=ps.length)
  (h:∀ qual h' pl so t',h'.Ns s.heap.objs.size (λy=>(((p::ps).map b.nm).zip (.ref x::vals)).reverse.lookup y)→(∀ a o,s.heap.get? a=some o→h'.get? a=some o)→
   h'.get? so=some {cls:=.type "super",dict:=none,data:=.fields #[.ref D,.ref x,.ref C],slots:=#[]}→s.heap.objs.size < so→
   wpAny (model b.prog b.w) (A.deeper (dC qual scope s.heap.objs.size f dF cc)) (getMethod (.ref so) "__init__" pl) (λfx cn=>
    wpAny (model b.prog b.w) (A.deeper (dC qual scope s.heap.objs.size f dF cc)) (callWith cp fx.1 fx.2 (backTo cp (starEach args (dC qual scope s.heap.objs.size f dF cc))) []) (λ_ eD=>
     wpAny (model b.prog b.w) (A.deeper (dC qual scope s.heap.objs.size f dF cc)) (execs rest (dC qual scope s.heap.objs.size f dF cc)) (λfl s'=>R (.ok (.ret (match fl with |.ret v=>v |_=>.none))) s')
      (λe s'=>wpAny (model b.prog b.w) (A.deeper (dC qual scope s.heap.objs.size f dF cc)) (leaving (dC qual scope s.heap.objs.size f dF cc) e) (λ_ gw=>R (.error e) gw) (λe' gw=>R (.error e') gw) s') eD)
      (λe s'=>wpAny (model b.prog b.w) (A.deeper (dC qual scope s.heap.objs.size f dF cc)) (leaving (dC qual scope s.heap.objs.size f dF cc) e) (λ_ gw=>R (.error e) gw) (λe' gw=>R (.error e') gw) s') cn)
      (λe s'=>wpAny (model b.prog b.w) (A.deeper (dC qual scope s.heap.objs.size f dF cc)) (leaving (dC qual scope s.heap.objs.size f dF cc) e) (λ_ gw=>R (.error e) gw) (λe' gw=>R (.error e') gw) s')
    {s with heap:=h',toks:=t'})
  (pE:qv p0 p1 ap cp ep args) :
  codeAny (model b.prog b.w) A (.call (.ref f) ⟨.ref x::vals,[]⟩) R s:=by
 obtain ⟨name,qual,params,dV,kV,doc,pm,an,ct,oc,od,kG,ar,f1,f2,f3,f4,f5⟩:=S.fn
 refine JQ S.code ?_;intro LW LU vs LV file tf c1 c2 c3
 refine aJ S.cell ?_;intro cl LS LQ k1
 refine bg S.cls ?_;intro ON hD
 have X:b.K.In s.heap:=O.X.keeps stays
 refine ks_codeAny_call_defAt (fd:=ksFn name qual params (fN p0 p1 ap cp ep args rest) scope dV kV doc pm an (.ref dF) ct cc) (body:=fN p0 p1 ap cp ep args rest) (binds:=((p::ps).map b.nm).zip (.ref x::vals)) lF (X _ _ f1) rfl (O.lim.keeps stays) (codeRec_of X f2) rfl (.of_eq (f5 _ (by simp [hlen])))
  S.wI (λy hy=>?_) (λh₀ ee hk=>?_) S.co S.gen S.kind
 ·refine ai (List.mem_map.mp (List.of_mem_zip (a:=y.1) (b:=y.2) hy).1) ?_;intro q hq e
  rw [← e];exact S.loc q hq
 ·have hL:s.heap.objs.size < h₀.objs.size:=by
   refine lB ee ?_;clear ee;intro _ _ _ e _
   exact Heap.lt_size e
  have HI:b.hT.StaysIn h₀:=λa o e=>hk a o (stays a o e)
  have X0:b.K.In h₀:=O.X.keeps HI
  refine ai (O.glob _ _ S.sup) ?_;intro mg g1 g2
  refine ai O.blt ?_;intro mb b1 b2
  refine bg (pE.1 (dC qual scope s.heap.objs.size f dF cc)) ?_;intro pl Fj
  obtain ⟨oD,LA,Lz⟩:∃ oD,h₀.get? D=some oD∧oD.data=.cls ON:=by
   unfold clsIn at hD
   split at hD
   ·rename_i c d Jj sl ho
    cases hD
    exact ⟨_,X0 _ _ ho,rfl⟩
   ·cases hD
  have J9:(((p::ps).map b.nm).zip (.ref x::vals)).reverse.lookup ar.arg=some (.ref x):=by
   refine sY (f4 ..)▸?_
   show (((b.nm p,Value.ref x)::(ps.map b.nm).zip vals).reverse).lookup (b.nm p)=_
   refine sY (List.reverse_cons ..)▸?_;rewrite [List.lookup_append]
   have:((ps.map b.nm).zip vals).reverse.lookup (b.nm p)=none:=by
    rewrite [List.lookup_eq_none_iff]
    intro y hy
    refine ai (List.mem_map.mp (List.of_mem_zip (a:=y.1) (b:=y.2) (List.mem_reverse.mp hy)).1) ?_;intro q hq e
    refine (e ..)▸?_
    exact bne_iff_ne.mpr λz=>S.fresh (by rw [O.inj _ _ z];exact hq)
   refine sY (this ..)▸?_;rewrite [List.lookup_cons,beq_self_eq_true]
   rfl
  refine ks_wpAt_execs_cons (ks_wpAt_Expr_any ?_ ?_ (pE.2 _))
  ·refine ks_wpAt_MethodCall (pl:=pl) ?_ Fj
   refine ks_wpAt_super_base (env:=dC qual scope s.heap.objs.size f dF cc) S.ks S.kc (by decide +kernel) rfl (X0 _ _ f1) rfl f3 rfl (X0 _ _ c1) rfl c2 c3 S.top ?_
   refine ks_loadName_global S.kind S.ks (loadGlobal_builtin (env:=dC qual scope s.heap.objs.size f dF cc) (g1.keeps HI) g2 (b1.keeps HI) ((b2 _ (by decide +kernel)).trans (by decide +kernel:bootBuiltins "super"=some (.type "super"))) ⟨rfl,?_⟩)
   refine wpAny_loadName_free S.kind S.kc rfl ⟨_,X0 _ _ k1,rfl⟩ ?_
   refine wpAny_loadName_local S.kind (by rw [f4];exact S.loc p (.head _)) ee J9 ?_
   refine ks_wpAny_isType_cls LA Lz ⟨rfl,?_⟩
   refine ks_wpAny_call_super LA Lz (hk _ _ hx) lE (λc e=>?_) (looks_mroIn X0 rK) (λh' e k=>?_)
   ·unfold notCls at lG
    rw [e] at lG
    cases lG
   ·refine wpAny_mono (h qual h' pl h₀.objs.size _ (ee.keeps k) (λa o q=>k _ _ (hk a o q)) e hL) (λfx cn q=>wpAny_mono q (λv eD z=>_root_.PySem.wpAt_of_wpAny z) λ_ _ z=>z) λ_ _ z=>z
  ·unfold interactive
   show (scope.kind==ScopeKind.module&&_)=false
   refine sY (S.kind ..)▸?_
   rfl
end
structure ji (b:Base) (C:Addr):Prop where
 makes:pM b.K C=true
 over:tu b.K C=true
 dict:hasDictIn b.K C=true
 set:findIn b.K (.ref C) "__setattr__"=some (some (.builtin "object.__setattr__"))
 E1:nsIn b.K cStatics "thirdparty.any"=some none
noncomputable abbrev qh (x:Addr):Obj:={cls:=.type "method-wrapper",dict:=none,data:=.fields #[.builtin "Exception.__init__",.ref x],slots:=#[]}
section
variable {b:Base} {A:Around} {s:Shared} {R:Result→Shared→Prop} {x C:Addr} {scope:Scope}
theorem ie {env:Env} {E:VP} {Q:VP} {y:Str} {p:Pos} {m:Str→Option Value} {v:Value} {L:Addr} (hk:env.scope.kind=.function) (hy:env.kindOf y=some .local) (hl:env.locals=L) (ee:s.heap.Ns L m) (hv:m y=some v) (hd:(y==("__debug__":Str))=false) (h:Q v s) :
  wpAny (model b.prog b.w) A (eval (.Name y p) env) Q E s:=wpAny_Name (wpAny_loadName_local hk hy (by rw [hl];exact ee) hv h) hd
theorem D1 {q:Addr} {M:Model} (h:Heap) (X:h.get? q=some (qh x)):∃ k,(k=Keeper.frame∨k=Keeper.machine∨k=Keeper.boundFrame)∧Looks M h (keeperOf (.ref q)) k:=by
 refine ⟨.machine,.inr (.inl rfl),?_⟩
 unfold keeperOf
 exact (Looks.ld X).andThen (.of_pure (by kernel_rfl))
set_option tactic.hygienic true in
theorem GZ (O:b.Ok) (XF:ji b C) {f dF cc D:Addr} {p a:Nat} {p0 p1 ap cp ep pa q1 q2 q3 q4:Pos}
  (S:js b f dF cc D scope p [a] (fN p0 p1 ap cp ep [.Name (b.nm a) pa] [.Assign [.Attribute (.Name (b.nm p) q1) (b.nm a) q2] (.Name (b.nm a) q3) q4]))
  (pv:ks_superIn b.K C D "__init__"=some (some (.builtin "Exception.__init__"))) (rK:mroIn b.K C (.ref D)=some true) (Iu:takerIn b.K C (b.nm a)=some none)
  (pE:qv p0 p1 ap cp ep [.Name (b.nm a) pa]) (B9:∀ env:Env,swapsWith (.Name (b.nm a) q3) (some (.Attribute (.Name (b.nm p) q1) (b.nm a) q2)) q4.line env=pure false)
  (IL:(b.nm p==("__debug__":Str))=false) (hd2:(b.nm a==("__debug__":Str))=false) (Cb:p≠a)
  {v:Value} {ox:Obj} {vs:Array Value} {old:Value} (stays:b.hT.StaysIn s.heap) (hx:s.heap.get? x=some ox) (lE:ox.cls=.ref C) (ta:ox.dict=none) (td:ox.data=.fields vs) (xc:vs[0]?=some old) (cB:b.hT.get? x=none) (lF:A.depth+1 < recursionLimit)
  (h:∀ h' d T t',h'.get? x=some {ox with dict:=some d,data:=.fields (vs.setIfInBounds 0 (.ref T))}→(∃ t0,h'.get? d=some (bE [⟨PyData.keyHash b.w.params (b.nm a),.str (b.nm a) t0,v⟩] 1))→s.heap.get? d=none→d≠x→(∀ c o,c≠x→s.heap.get? c=some o→h'.get? c=some o)→R (.ok (.ret .none)) {s with heap:=h',toks:=t'}) :
  codeAny (model b.prog b.w) A (.call (.ref f) ⟨[.ref x,v],[]⟩) R s:=by
 have Y:=kj (M:=model b.prog b.w) (O.X.keeps stays) XF.makes
 obtain ⟨cd,i3⟩:∃ cd,clsIn b.K C=some cd:=by
  have:=pv
  unfold ks_superIn at this
  cases z:clsIn b.K C with
  |none=>rw [z] at this;cases this
  |some cd=>exact ⟨cd,rfl⟩
 have lG:notCls ox=true:=by unfold notCls;rw [td]
 have s7:x≠C:=by
  rintro rfl
  unfold clsIn at i3
  split at i3
  ·rename_i c d Jj sl ho
   rw [O.X _ _ ho] at cB
   cases cB
  ·cases i3
 refine oH O S stays hx lE lG rK (Nat.lt_of_succ_lt lF) rfl (λqual h1 pl so t1 ee hk nK lH=>?_) pE
 have yJ:b.hT.StaysIn h1:=λa o e=>hk a o (stays a o e)
 have X1:=O.X.keeps yJ
 have I1:InstAt h1 x ox C none:=⟨hk _ _ hx,lE,lG,by rw [ta];trivial⟩
 have iI:=pv
 unfold ks_superIn at iI
 rw [i3] at iI
 have Y1:=Y.exc.keeps hk
 refine Bp (l₀:=cd.mro) nK (looks_opaque X1 XF.E1) ?_ rfl X1 iI s7 (I1.type.andThen Y1) ?_
 ·exact λA Q E s k q=>wpAny_bind ((looks_clsIn X1 i3) A _ E s k (wpAny_pure q))
 have Lm:∀ {c o},s.heap.get? c=some o→c≠s.heap.objs.size:=λe=>Nat.ne_of_lt (Heap.lt_size e)
 have kO:(([p,a].map b.nm).zip [.ref x,v]).reverse.lookup (b.nm a)=some v:=by
  show [(b.nm a,v),(b.nm p,Value.ref x)].lookup (b.nm a)=_
  rewrite [List.lookup_cons,beq_self_eq_true];rfl
 have pT:(([p,a].map b.nm).zip [.ref x,v]).reverse.lookup (b.nm p)=some (.ref x):=by
  show [(b.nm a,v),(b.nm p,Value.ref x)].lookup (b.nm p)=_
  refine sY (bj (λq=>Cb (O.inj _ _ q)) ..)▸?_;rewrite [List.lookup_cons,beq_self_eq_true];rfl
 have k2:∀ c o,h1.get? c=some o→(h1.push (qh x)).get? c=some o:=λc o e=>Heap.get?_push_of_some _ e
 have uT:(h1.push (qh x)).get? h1.objs.size=some (qh x):=Heap.get?_push_size _ rfl
 refine callWith_of (P:=λh=>h.get? h1.objs.size=some (qh x)) rfl D1 ?_
 refine evalArgs_plain ?_
 refine Calls.spliced_cons (ie (m:=λy=>(([p,a].map b.nm).zip [.ref x,v]).reverse.lookup y) S.kind (S.loc a (by simp)) rfl (ee.keeps k2) kO hd2 ?_)
 refine spliced_none ⟨uT,?_⟩
 have hC:∃ oc od cd sl,(h1.push (qh x)).get? C=some ⟨oc,od,.cls cd,sl⟩:=by
  refine Ac Y.obj ?_;intro oc od cd sl e _
  exact ⟨oc,od,cd,sl,k2 _ _ (hk _ _ e)⟩
 refine Ad hC ?_;clear hC;intro oc od Pz Ph hC
 refine wpAny_call (Gf (v:=v) lE hC uT (k2 _ _ (hk _ _ hx)) td xc λh2 T e1 e2 e3 e4 e5=>?_)
 have Ip:s.heap.objs.size≠x:=(Lm hx).symm
 have A8:b.hT.StaysIn h2:=λc o e=>e2 c o (λq=>by subst q;rw [cB] at e;cases e) (k2 _ _ (yJ _ _ e))
 have xj:h2.Ns s.heap.objs.size (λy=>(([p,a].map b.nm).zip [.ref x,v]).reverse.lookup y):=by
  refine lB ee ?_;clear ee;intro oL es ep z r
  exact ⟨oL,es,ep,e2 _ _ Ip (k2 _ _ z),r⟩
 have X2:=O.X.keeps A8
 have I2:InstAt h2 x {ox with data:=.fields (vs.setIfInBounds 0 (.ref T))} C none:=⟨e1,lE,rfl,by dsimp only;rw [ta];trivial⟩
 refine wpAny_execs_cons (plainObj_wpAny_Assign_Attribute ?_ (B9 _))
 refine ie (m:=λy=>(([p,a].map b.nm).zip [.ref x,v]).reverse.lookup y) (s:=⟨h2,s.gens,s.drawn,t1+1,s.os⟩) S.kind (S.loc a (by simp)) rfl xj kO hd2 ?_
 refine ie (m:=λy=>(([p,a].map b.nm).zip [.ref x,v]).reverse.lookup y) (s:=⟨h2,s.gens,s.drawn,t1+1,s.os⟩) S.kind (S.loc p (by simp)) rfl xj pT IL ?_
 refine Bj (s:=⟨h2,s.gens,s.drawn,t1+1,s.os⟩) X2 I2 XF.set (CA (s:=⟨h2,s.gens,s.drawn,t1+1+1,s.os⟩) X2 I2 ta rfl XF.over Iu XF.dict λh3 d q1 q2 q3 q4 q5=>?_)
 refine wpAny_execs_nil ?_
 have keep:∀ c o,c≠x→s.heap.get? c=some o→h2.get? c=some o:=λc o hc e=>e2 c o hc (k2 _ _ (hk _ _ e))
 refine h h3 d T _ q1 ⟨_,q2⟩ ?_ q4 λc o hc e=>q5 c o hc (keep c o hc e)
 cases z:s.heap.get? d with
 |none=>rfl
 |some o=>rw [keep d o q4 z] at q3;cases q3
end
section
variable {b:Base} {A:Around} {s:Shared} {R:Result→Shared→Prop} {x C:Addr} {scope:Scope}
structure CR (b:Base) (C f:Addr) (a:Nat):Prop where
 ok:∀ {A:Around} {s:Shared} {R:Result→Shared→Prop} {x:Addr} {v:Value} {ox:Obj} {vs:Array Value} {old:Value},b.hT.StaysIn s.heap→s.heap.get? x=some ox→ox.cls=.ref C→ox.dict=none→ox.data=.fields vs→vs[0]?=some old→b.hT.get? x=none→A.depth+1 < recursionLimit→
  (∀ h' d T t',h'.get? x=some {ox with dict:=some d,data:=.fields (vs.setIfInBounds 0 (.ref T))}→(∃ t0,h'.get? d=some (bE [⟨PyData.keyHash b.w.params (b.nm a),.str (b.nm a) t0,v⟩] 1))→s.heap.get? d=none→d≠x→(∀ c o,c≠x→s.heap.get? c=some o→h'.get? c=some o)→R (.ok (.ret .none)) {s with heap:=h',toks:=t'})→
  codeAny (model b.prog b.w) A (.call (.ref f) ⟨[.ref x,v],[]⟩) R s
set_option tactic.hygienic true in
theorem A9 (O:b.Ok) (XF:ji b C) {f f2 dF cc D:Addr} {p a z:Nat} {p0 p1 ap cp ep pa q1 q2 q3 q4:Pos}
  (S:js b f dF cc D scope p [a,z] (fN p0 p1 ap cp ep [.Name (b.nm a) pa] [.Assign [.Attribute (.Name (b.nm p) q1) (b.nm z) q2] (.Name (b.nm z) q3) q4]))
  (F2:CR b C f2 a) (II:fnIn b.K f2=true) (s8:typeIn b.K (.ref f2)=some (.type "function"))
  (pv:ks_superIn b.K C D "__init__"=some (some (.ref f2))) (rK:mroIn b.K C (.ref D)=some true) (Iu:takerIn b.K C (b.nm z)=some none)
  (pE:qv p0 p1 ap cp ep [.Name (b.nm a) pa]) (B9:∀ env:Env,swapsWith (.Name (b.nm z) q3) (some (.Attribute (.Name (b.nm p) q1) (b.nm z) q2)) q4.line env=pure false)
  (IL:(b.nm p==("__debug__":Str))=false) (hd2:(b.nm a==("__debug__":Str))=false) (zg:(b.nm z==("__debug__":Str))=false) (Cb:p≠a) (NK:p≠z) (Ls:a≠z)
  {v u:Value} {ox:Obj} {vs:Array Value} {old:Value} (stays:b.hT.StaysIn s.heap) (hx:s.heap.get? x=some ox) (lE:ox.cls=.ref C) (ta:ox.dict=none) (td:ox.data=.fields vs) (xc:vs[0]?=some old) (cB:b.hT.get? x=none) (lF:A.depth+2 < recursionLimit)
  (h:∀ h' d od T t',h'.get? x=some {ox with dict:=some d,data:=.fields (vs.setIfInBounds 0 (.ref T))}→h'.get? d=some od→od.cls=.type "dict"→lookIn (b.nm z) od=some (some u)→s.heap.get? d=none→d≠x→(∀ c o,c≠x→s.heap.get? c=some o→h'.get? c=some o)→R (.ok (.ret .none)) {s with heap:=h',toks:=t'}) :
  codeAny (model b.prog b.w) A (.call (.ref f) ⟨[.ref x,v,u],[]⟩) R s:=by
 obtain ⟨cd,i3⟩:∃ cd,clsIn b.K C=some cd:=by
  have:=pv
  unfold ks_superIn at this
  cases z:clsIn b.K C with
  |none=>rw [z] at this;cases this
  |some cd=>exact ⟨cd,rfl⟩
 have lG:notCls ox=true:=by unfold notCls;rw [td]
 have s7:x≠C:=by
  rintro rfl
  unfold clsIn at i3
  split at i3
  ·rename_i c d Jj sl ho
   rw [O.X _ _ ho] at cB
   cases cB
  ·cases i3
 refine oH O S stays hx lE lG rK (Nat.lt_of_succ_lt (Nat.lt_of_succ_lt lF)) rfl (λqual h1 pl so t1 ee hk nK lH=>?_) pE
 have yJ:b.hT.StaysIn h1:=λa o e=>hk a o (stays a o e)
 have X1:=O.X.keeps yJ
 have iI:=pv
 unfold ks_superIn at iI
 rw [i3] at iI
 obtain ⟨of,Eb,Ea⟩:∃ of,h1.get? f2=some of∧of.cls=.type "function":=by
  have jB:(b.K.lookup f2).map (·.cls)=some (.type "function"):=s8
  cases z:b.K.lookup f2 with
  |none=>rw [z] at jB;cases jB
  |some of=>rw [z] at jB;exact ⟨of,X1 _ _ z,Option.some.inj jB⟩
 refine ks_wpAny_getMethod_super (l₀:=cd.mro) nK (looks_opaque X1 XF.E1) ?_ rfl X1 iI Eb Ea s7 (by decide +kernel) ?_
 ·exact λA Q E s k q=>wpAny_bind ((looks_clsIn X1 i3) A _ E s k (wpAny_pure q))
 have Lm:∀ {c o},s.heap.get? c=some o→c≠s.heap.objs.size:=λe=>Nat.ne_of_lt (Heap.lt_size e)
 have kO:(([p,a,z].map b.nm).zip [.ref x,v,u]).reverse.lookup (b.nm a)=some v:=by
  show [(b.nm z,u),(b.nm a,v),(b.nm p,Value.ref x)].lookup (b.nm a)=_
  refine sY (bj (λq=>Ls (O.inj _ _ q)) ..)▸?_;rewrite [List.lookup_cons,beq_self_eq_true];rfl
 have Jl:(([p,a,z].map b.nm).zip [.ref x,v,u]).reverse.lookup (b.nm z)=some u:=by
  show [(b.nm z,u),(b.nm a,v),(b.nm p,Value.ref x)].lookup (b.nm z)=_
  rewrite [List.lookup_cons,beq_self_eq_true];rfl
 have pT:(([p,a,z].map b.nm).zip [.ref x,v,u]).reverse.lookup (b.nm p)=some (.ref x):=by
  show [(b.nm z,u),(b.nm a,v),(b.nm p,Value.ref x)].lookup (b.nm p)=_
  refine sY (bj (λq=>NK (O.inj _ _ q)) ..)▸?_;refine sY (bj (λq=>Cb (O.inj _ _ q)) ..)▸?_;rewrite [List.lookup_cons,beq_self_eq_true];rfl
 have k2:∀ c o,h1.get? c=some o→(h1.push (methodObj (.ref f2) (.ref x))).get? c=some o:=λc o e=>Heap.get?_push_of_some _ e
 have uT:(h1.push (methodObj (.ref f2) (.ref x))).get? h1.objs.size=some (methodObj (.ref f2) (.ref x)):=Heap.get?_push_size _ rfl
 refine callWith_of (P:=MethP b.K h1.objs.size f2 (.ref x)) rfl (keeps_M II) ?_
 refine evalArgs_plain ?_
 refine Calls.spliced_cons (ie (m:=λy=>(([p,a,z].map b.nm).zip [.ref x,v,u]).reverse.lookup y) S.kind (S.loc a (by simp)) rfl (ee.keeps k2) kO hd2 ?_)
 refine spliced_none ⟨⟨uT,X1.keeps k2⟩,?_⟩
 refine wpAny_call (ks_codeAny_call_bound uT ?_)
 have Ip:s.heap.objs.size≠x:=(Lm hx).symm
 refine F2.ok (λc o e=>k2 _ _ (yJ _ _ e)) (k2 _ _ (hk _ _ hx)) lE ta td xc cB lF λh2 d T t2 e1 e2 e3 e4 e5=>?_
 refine bg e2 ?_;clear e2;intro t0 e2
 have A8:b.hT.StaysIn h2:=λc o e=>e5 c o (λq=>by subst q;rw [cB] at e;cases e) (k2 _ _ (yJ _ _ e))
 have xj:h2.Ns s.heap.objs.size (λy=>(([p,a,z].map b.nm).zip [.ref x,v,u]).reverse.lookup y):=by
  refine lB ee ?_;clear ee;intro oL es ep z r
  exact ⟨oL,es,ep,e5 _ _ Ip (k2 _ _ z),r⟩
 have X2:=O.X.keeps A8
 have I2:InstAt h2 x {ox with dict:=some d,data:=.fields (vs.setIfInBounds 0 (.ref T))} C (some (bE [⟨PyData.keyHash b.w.params (b.nm a),.str (b.nm a) t0,v⟩] 1)):=⟨e1,lE,rfl,e2⟩
 refine wpAny_execs_cons (plainObj_wpAny_Assign_Attribute ?_ (B9 _))
 refine ie (m:=λy=>(([p,a,z].map b.nm).zip [.ref x,v,u]).reverse.lookup y) (s:=⟨h2,s.gens,s.drawn,t2,s.os⟩) S.kind (S.loc z (by simp)) rfl xj Jl zg ?_
 refine ie (m:=λy=>(([p,a,z].map b.nm).zip [.ref x,v,u]).reverse.lookup y) (s:=⟨h2,s.gens,s.drawn,t2,s.os⟩) S.kind (S.loc p (by simp)) rfl xj pT IL ?_
 have uS:¬ b.nm a=b.nm z:=λq=>Ls (O.inj _ _ q)
 refine Bj (s:=⟨h2,s.gens,s.drawn,t2,s.os⟩) X2 I2 XF.set (ED (s:=⟨h2,s.gens,s.drawn,t2+1,s.os⟩) X2 I2 rfl rfl ?_ XF.over Iu XF.dict λh3 q1 q2=>?_)
 ·simp only [putL]
  split<;>simp
 refine wpAny_execs_nil ?_
 have keep:∀ c o,c≠x→s.heap.get? c=some o→h2.get? c=some o:=λc o hc e=>e5 c o hc (k2 _ _ (hk _ _ e))
 have zf:s.heap.get? d=none:=by
  cases z:s.heap.get? d with
  |none=>rfl
  |some o=>rw [k2 _ _ (hk _ _ z)] at e3;cases e3
 refine h h3 d _ T _ (q2 _ _ e4.symm e1) q1 rfl ?_ zf e4 λc o hc e=>q2 c o (λq=>by subst q;rw [zf] at e;cases e) (keep c o hc e)
 have f1:(Value.str (b.nm a) t0).isStr (b.nm z)=false:=by simpa [Value.isStr] using uS
 have f2:∀ t,(Value.str (b.nm z) t).isStr (b.nm z)=true:=λt=>by simp [Value.isStr]
 show getL (b.nm z) (putL (b.nm z) _ _ u [⟨_,.str (b.nm a) t0,v⟩])=_
 simp only [putL,f1,Bool.false_eq_true,if_false,getL,List.find?_cons,f2]
end
section
variable {b:Base} {cs:Scope} {n:Nat}
theorem GS {B h:Heap} {outer:List (Env×Obj)} {af:List (Addr×Obj)} (F:iX outer af):(∀ p∈af,h.get? p.1=some p.2)→(∀ p∈af,B.get? p.1=none)→h.FunFrames B (outer.map (·.1)):=by
 induction F with
 |nil=>exact λ_ _=>trivial
 |cons h1 h2 h3 t ih=>exact λh4 h5=>⟨by rw [h2];decide,⟨_,_,h1,h5 _ (.head _),h4 _ (.head _),h3⟩,ih (λp hp=>h4 p (.tail _ hp)) λp hp=>h5 p (.tail _ hp)⟩
theorem Cx {c:FC} {g:Gh} {loc:Loc} {H:aa} {h h':Heap} {v:AV} {e d:Addr} {oe od:Obj} {vs:Array Value} (G:c.Good b cs n) (hc:c.comp=false) (R:Rep b c g loc H h) (keep:∀ a o,h.get? a=some o→h'.get? a=some o)
  (he:h.get? e=none) (h1:h'.get? e=some oe) (h2:oe.cls=.ref du) (h3:oe.dict=some d) (h4:oe.data=.fields vs) (h5:vs[1]?=some .none) (hd:h.get? d=none) (N6:d≠e) (h6:h'.get? d=some od) (h7:CP b g v od):d5 b c g H v e h':=by
 refine aJ R ?_;clear R;intro m ag af R
 refine Ae (id R.ns) ?_;intro oL _ _ hL pz _
 have Fd:∀ p∈af,p∈cells g ag af c.pins:=λp hp=>by simp [cells,hp]
 have K9:∀ p∈g.bF++(ag.flatten++c.pins),p∈cells g ag af c.pins:=λp hp=>by
  simp only [cells,List.mem_append] at hp ⊢
  rcases hp with hp |hp |hp
  ·exact .inl hp
  ·exact .inr (.inl hp)
  ·exact .inr (.inr (.inr hp))
 let as:List Addr:=e::c.L::af.map (·.1)
 have out:∀ {a o},h.get? a=some o→a≠c.L→a∉af.map (·.1)→a∉as:=λ{a o} q k1 k2 hm=>by
  rcases List.mem_cons.mp hm with rfl |hm
  ·rw [he] at q;cases q
  ·rcases List.mem_cons.mp hm with rfl |hm
   ·exact k1 rfl
   ·exact k2 hm
 have JY:∀ {a},h.get? a=none→a∉af.map (·.1):=λ{a} q hm=>by
  refine ai (List.mem_map.mp hm) ?_;rintro p hp rfl
  rw [R.cell p (Fd p hp)] at q;cases q
 have ed:d∉as:=λhm=>by
  rcases List.mem_cons.mp hm with q |hm
  ·exact N6 q
  ·rcases List.mem_cons.mp hm with rfl |hm
   ·rw [hL] at hd;cases hd
   ·exact JY hd hm
 have sep:∀ p∈g.bF++(ag.flatten++c.pins),p.1∉af.map (·.1):=λp hp hm=>by
  refine ai (List.mem_map.mp hm) ?_;intro q hq e
  have nd:=R.nodup
  have P:(cells g ag af c.pins).Perm (af++(g.bF++(ag.flatten++c.pins))):=by
   simp only [cells]
   have e1:g.bF++(ag.flatten++(af++c.pins))=(g.bF++ag.flatten)++(af++c.pins):=by simp
   have e2:g.bF++(ag.flatten++c.pins)=(g.bF++ag.flatten)++c.pins:=by simp
   refine sY (e1 ..)▸?_;refine sY (e2 ..)▸?_;rewrite [← List.append_assoc,← List.append_assoc]
   exact List.Perm.append_right _ List.perm_append_comm
  rw [(P.map (·.1)).nodup_iff,List.map_append,List.nodup_append] at nd
  exact nd.2.2 q.1 (List.mem_map_of_mem hq) p.1 (List.mem_map_of_mem hp) e
 refine .inr ⟨.made,hideAll h' as,ag,af,m,d,od,trivial,?_⟩
 refine {fG:=⟨λa o q=>of_hideAll _ q,hideAll_none _ (.head _),?_,oe,vs,h1,h2,h3,h4,h5⟩,dict:=hideAll_get _ h6 ed,eG:=h7,top:=?_,ns:=R.ns.keeps keep,above:=R.above,cell:=?_,rk:=R.af,fr:=λp hp=>keep _ _ (R.cell p (Fd p hp)),nodup:=R.nodup,off:=R.off,heap:=R.heap,bX:=R.bX}
 ·refine ⟨by rw [G.sc,G.kind];decide,⟨c.L,oL,G.frame hc,hideAll_none _ (.tail _ (.head _)),keep _ _ hL,λvs q=>by rw [pz] at q;cases q⟩,?_⟩
  exact GS R.af (λp hp=>keep _ _ (R.cell p (Fd p hp))) λp hp=>hideAll_none _ (.tail _ (.tail _ (List.mem_map_of_mem hp)))
 ·intro a o q
  refine hideAll_get _ (keep _ _ (R.stays a o q)) (out (R.stays a o q) ?_ λhm=>?_)
  ·rintro rfl
   exact absurd (Heap.lt_size q) (Nat.not_lt.mpr R.above)
  ·refine ai (List.mem_map.mp hm) ?_;rintro p hp rfl
   exact absurd (Heap.lt_size q) (Nat.not_lt.mpr (R.off p (Fd p hp)).1)
 ·intro p hp
  have hc:=R.cell p (K9 p hp)
  exact hideAll_get _ (keep _ _ hc) (out hc (R.off p (K9 p hp)).2 (sep p hp))
theorem z8 {M:Model} {A:Around} {E:VP} {s:Shared} {env:Env} {x:Sem Value} {C:Addr} {Q:Flow→Shared→Prop} (hh:A.handled=none)
  (h:wpAny M A x (λv aO=>∃ e oe vs,v=.ref e∧aO.heap.get? e=some oe∧oe.cls=.ref C∧oe.data=.fields vs∧vs[1]?=some .none∧Looks M aO.heap (isSubtype (.ref C) (.type "BaseException")) true∧Looks M aO.heap (typeOf (.ref C)) (.type "type")∧E (.ref e) aO) E s) :
  wpAny M A (raiseStmt env (some x) none) Q E s:=by
 unfold raiseStmt
 refine wpAny_bind (wpAny_mono h (λv aO h₁=>?_) λ_ _ x=>x)
 refine JV h₁ ?_;clear h₁;rintro e oe vs rfl he jC hd h1 hs ht hE
 obtain ⟨hp,g,d,tk,os⟩:=aO
 have Lj:∀ {Q':Bool→Shared→Prop},Q' false ⟨hp,g,d,tk,os⟩→wpAny M A (isType (.ref e)) Q' E ⟨hp,g,d,tk,os⟩:=by
  intro Q' hq
  simp only [isType,loadHead]
  refine wpAny_bind (wpAny_loadPart he ?_)
  rw [hd];exact wpAny_pure hq
 have T1:Looks M hp (typeOf (.ref e)) (.ref C):=(Looks.ld he).andThen (by rw [jC];exact .now)
 have T2:Looks M hp (isInstance (.ref e) (.type "BaseException")) true:=T1.andThen hs
 refine wpAny_bind (wpAny_pure ?_)
 dsimp only
 refine wpAny_bind (wpAny_holding ?_)
 unfold excFromValue isExcClass
 refine wpAny_bind (wpAny_bind (Lj ?_))
 simp only [Bool.false_eq_true,if_false]
 refine wpAny_pure ?_
 simp only [Bool.false_eq_true,if_false]
 refine wpAny_bind (T2.at ?_)
 simp only [if_true]
 refine wpAny_pure ?_
 refine wpAny_bind (Lj ?_)
 simp only [Bool.false_eq_true,if_false]
 unfold raisedInstance
 refine wpAny_bind (wpAny_bind (T1.at (wpAny_bind (ht.at ?_))))
 rewrite [if_pos (by simp)]
 refine wpAny_pure ?_
 unfold setFlight raiseNew
 refine wpAny_bind (wpAny_bind (wpAny_field he hd h1 ?_))
 rewrite [if_neg (by decide)]
 refine wpAny_pure (wpAny_bind (wpAny_handled ?_))
 refine sY (hh ..)▸?_
 first
  |exact wpAny_throw hE
  |exact wpAny_bind (wpAny_pure (wpAny_throw hE))
end
structure xZ (b:Base) (C f:Addr):Prop where
 ok:∀ {A:Around} {s:Shared} {R:Result→Shared→Prop} {x:Addr} {v u:Value} {ox:Obj} {vs:Array Value} {old:Value},b.hT.StaysIn s.heap→s.heap.get? x=some ox→ox.cls=.ref C→ox.dict=none→ox.data=.fields vs→vs[0]?=some old→b.hT.get? x=none→A.depth+2 < recursionLimit→
  (∀ h' d od T t',h'.get? x=some {ox with dict:=some d,data:=.fields (vs.setIfInBounds 0 (.ref T))}→h'.get? d=some od→od.cls=.type "dict"→lookIn "spot" od=some (some u)→s.heap.get? d=none→d≠x→(∀ c o,c≠x→s.heap.get? c=some o→h'.get? c=some o)→R (.ok (.ret .none)) {s with heap:=h',toks:=t'})→
  codeAny (model b.prog b.w) A (.call (.ref f) ⟨[.ref x,v,u],[]⟩) R s
structure FU (b:Base):Prop where
 facts:ji b du
 init:∃ f,findIn b.K (.ref du) "__init__"=some (some (.ref f))∧typeIn b.K (.ref f)=some (.type "function")∧xZ b du f
 keep:keepIn b.K (.ref du)=true
 typ:typeIn b.K (.ref du)=some (.type "type")
section
variable {b:Base} {cs:Scope} {n:Nat}
noncomputable def St.raise {tk:Nat} (x:Gv cs) (msg eG:Ex b cs n) (np cp p:Pos) (hx:b.Ok→nsIn b.K mainGlobals x.s=some (some (.ref du))∧FU b):St b cs n tk where
 py:=.Raise (some (.Call (.Name x.s np) [msg.py,eG.py] [] cp)) none p
 run:=λloc H=>(msg.run loc H).bind λ_ H=>(eG.run loc H).bind λv H=>.bD v H
 ok:=λO c g loc H s Q E G hc _ R hp=>by
  refine aQ (hx O) ?_;intro x1 XF
  refine cO XF.init ?_;intro fi i1 i2 SP
  rewrite [arm_exec_Raise]
  refine wpAny_bind (wpAny_standAt (z8 (C:=du) G.hand ?_))
  refine wpAny_bind (wpAny_Call_NameR (mD O x x1 G R ?_))
  refine callWith_of (P:=b.K.In) (by rw [show starEach [msg.py,eG.py] c.env=starEach (bx.cons msg (.cons eG .nil)).py c.env from rfl,bx.plain];rfl) (keeps_K XF.keep) ?_
  refine wpAny_mono (bx.ij O cp (.cons msg (.cons eG .nil)) c g loc H s (λvs aO=>b.K.In aO.heap∧wpAny (model b.prog b.w) c.A (PySem.call (.ref du) ([]++vs) []) _ E aO) E G R ?_) (λa aO h=>⟨h.2.1,by rw [h.1];exact h.2.2⟩) λ_ _ x=>x
  replace hp:bC b c g s ((msg.run loc H).bind λ_ H=>(eG.run loc H).bind λv H=>.bD v H) Q E:=hp
  show dZ b c g loc s ((msg.run loc H).bind λv H=>((eG.run loc H).bind λv H=>(Res.ok [] H).bind λvs H=>.ok (v::vs) H).bind λvs H=>.ok (v::vs) H) _ E
  revert hp
  cases msg.run loc H with
  |stuck=>exact λh=>h.elim
  |bD x H1=>exact λh=>h
  |ok m H1=>
   show bC b c g s ((eG.run loc H1).bind λv H=>.bD v H) Q E→dZ b c g loc s (((eG.run loc H1).bind λv H=>(Res.ok [] H).bind λvs H=>.ok (v::vs) H).bind λvs H=>.ok (m::vs) H) _ E
   cases eG.run loc H1 with
   |stuck=>exact λh=>h.elim
   |bD x H1=>exact λh=>h
   |ok v H2=>
    intro hp g1 vals h1 t1 c9 R1 V1
    refine bk (vals2 V1 rfl) ?_;rintro xm xs rfl Vm Vs
    refine aJ (id R1) ?_;intro m1 O6 MD FQ
    have X1:=O.X.keeps FQ.stays
    refine ⟨X1,wpAny_call ?_⟩
    have Y:=kj (M:=model b.prog b.w) X1 XF.facts.makes
    have kx:∀ a o,h1.get? a=some o→(pL h1 du [xm,xs]).get? a=some o:=λa o e=>Heap.get?_push_of_some _ (Heap.get?_push_of_some _ e)
    have ex:(pL h1 du [xm,xs]).get? (h1.objs.size+1)=some (Ax du h1.objs.size):=by
     have:=Heap.get?_push_size (h1.push (i8 [xm,xs] 0)) (o:=Ax du h1.objs.size) rfl
     rwa [Heap.size_push] at this
    have en:h1.get? (h1.objs.size+1)=none:=Heap.get?_none_of_le (Nat.le_succ _)
    have OF:b.hT.get? (h1.objs.size+1)=none:=by
     cases z:b.hT.get? (h1.objs.size+1) with
     |none=>rfl
     |some o=>rw [FQ.stays _ _ z] at en;cases en
    refine EC Y (looks_findIn X1 i1) (by show 2≤sizeLine;rw [sizeLine_eq];decide) (λself=>bind_fn X1 self i2) ?_
    refine SP.ok (s:=⟨pL h1 du [xm,xs],s.gens,s.drawn,t1,s.os⟩) (λa o e=>kx _ _ (FQ.stays a o e)) ex rfl rfl rfl rfl OF ?_ λh2 d od T t2 e1 e2 e3 e4 e5 e6 e7=>?_
    ·show c.A.depth+1+2 < _
     have:=G.depth;exact OJ this
    have k2:∀ a o,h1.get? a=some o→h2.get? a=some o:=λa o e=>e7 _ _ (λq=>by rw [q,en] at e;cases e) (kx _ _ e)
    have A8:b.hT.StaysIn h2:=λa o e=>k2 _ _ (FQ.stays a o e)
    have N5:h1.get? d=none:=by
     cases z:h1.get? d with
     |none=>rfl
     |some o=>rw [kx _ _ z] at e5;cases e5
    refine ⟨rfl,wpAny_bind (wpAny_standAt (wpAny_pure ⟨h1.objs.size+1,_,_,rfl,e1,rfl,rfl,rfl,Y.root.keeps k2,looks_typeIn (O.X.keeps A8) XF.typ,?_⟩))⟩
    exact hp g1 _ h2 t2 c9 (Cx G hc R1 k2 en e1 rfl rfl rfl rfl N5 e6 e2 ⟨e3,xs,e4,Vs⟩)
end
section
variable {b:Base} {n:Nat}
noncomputable def A5 (C:Nat) (p a:Nat) (sup:List AV→aa→Res AV) (rest:Loc→aa→Res (av×Loc)) (args:List AV) (H:aa):Res AV:=match args with
 |[self,v]=>match fieldsOf C self H with
  |some _=>(sup [self,v] H).bind λ_ H=>aF (rest [(a,v),(p,self)] H)
  |none=>.stuck
 |_=>.stuck
set_option tactic.hygienic true in
noncomputable def JZ {k:Nat} {cs':Scope} (f dF cc D C:Addr) (p a:Nat) (sup:Fn b k) (rest:bb b cs' n 0) (NV:k < n) (p0 p1 ap cp ep pa:Pos)
  (xA:b.Ok→js b f dF cc D cs' p [a] (fN p0 p1 ap cp ep [.Name (b.nm a) pa] rest.py)∧ks_superIn b.K C D "__init__"=some (some (.ref sup.addr))∧mroIn b.K C (.ref D)=some true∧fnIn b.K sup.addr=true∧typeIn b.K (.ref sup.addr)=some (.type "function")∧nsIn b.K cStatics "thirdparty.any"=some none)
  (pE:qv p0 p1 ap cp ep [.Name (b.nm a) pa]) (hd2:(b.nm a==("__debug__":Str))=false) (Cb:p≠a):Fn b n where
 addr:=f
 run:=A5 C p a sup.run rest.run
 ok:=λO c cs N g loc H s Q E args vals G hN R V hp=>by
  unfold A5 at hp
  split at hp
  ·rename_i self v
   refine bk (vals2 V rfl) ?_;rintro xs xv rfl Vs Vv
   split at hp
   ·rename_i w hw
    obtain ⟨i,fs⟩:=w
    refine JX (xA O) ?_;intro S pv rK II s8 Mu
    refine aJ (id R) ?_;intro m ag af R'
    refine sI (ug R' Vs hw) ?_;rintro x dx es LP rfl rfl hi I hF
    obtain ⟨cd,i3⟩:∃ cd,clsIn b.K C=some cd:=by
     have:=pv
     unfold ks_superIn at this
     cases z:clsIn b.K C with
     |none=>rw [z] at this;cases this
     |some cd=>exact ⟨cd,rfl⟩
    have cB:b.hT.get? x=none:=R'.none (dp R' hi (.head _))
    have s7:x≠C:=by
     rintro rfl
     unfold clsIn at i3
     split at i3
     ·rename_i c d Jj sl ho
      rw [O.X _ _ ho] at cB
      cases cB
     ·cases i3
    have lF:c.A.depth < recursionLimit:=by have:=G.depth;exact AD this
    refine oH O S R'.stays I.at_ I.cls I.no rK lF rfl (λqual h1 pl so t1 ee hk nK lH=>?_) pE
    refine lA (id ee) ?_;intro oL es ep pz uV uW Pt
    have Pr:∀ a o,s.heap.get? a=some o→h1.get? a=some o:=hk
    have kO:(([p,a].map b.nm).zip [.ref x,xv]).reverse.lookup (b.nm a)=some xv:=by
     show [(b.nm a,xv),(b.nm p,Value.ref x)].lookup (b.nm a)=_
     rewrite [List.lookup_cons,beq_self_eq_true];rfl
    have pT:(([p,a].map b.nm).zip [.ref x,xv]).reverse.lookup (b.nm p)=some (.ref x):=by
     show [(b.nm a,xv),(b.nm p,Value.ref x)].lookup (b.nm p)=_
     refine sY (bj (λq=>Cb (O.inj _ _ q)) ..)▸?_;rewrite [List.lookup_cons,beq_self_eq_true];rfl
    refine xH (tk:=0) (cl:=[]) (loc:=loc) (loc':=[(a,v),(p,.ref i)]) (H:=H) (env:=dC qual cs' s.heap.objs.size f dF cc) (h₁:=h1) (t₁:=t1) (cm:=λ_=>none) (λA' Qf Ef=>wpAny (model b.prog b.w) A' (getMethod (.ref so) "__init__" pl) (λfx cn=>
     wpAny (model b.prog b.w) A' (callWith cp fx.1 fx.2 (backTo cp (starEach [.Name (b.nm a) pa] (dC qual cs' s.heap.objs.size f dF cc))) []) (λ_ eD=>wpAny (model b.prog b.w) A' (execs rest.py (dC qual cs' s.heap.objs.size f dF cc)) Qf Ef eD) Ef cn) Ef {s with heap:=h1,toks:=t1})
     ((sup.run [.ref i,v] H).bind λ_ H=>rest.run [(a,v),(p,.ref i)] H) G hN R rfl rfl rfl rfl rfl S.kind ee hk (Nat.zero_le _) ?_ ?_ ?_ ?_ ?_ (λc' g' Qf Ef G' xy he hA R2 le aw=>?_) ?_
    rotate_left 5
    ·refine aJ (id R2) ?_;intro m2 bN dd OV
     have X1:=O.X.keeps OV.stays
     have iI:=pv
     unfold ks_superIn at iI
     rw [i3] at iI
     obtain ⟨of,Eb,Ea⟩:∃ of,h1.get? sup.addr=some of∧of.cls=.type "function":=by
      have jB:(b.K.lookup sup.addr).map (·.cls)=some (.type "function"):=s8
      cases z:b.K.lookup sup.addr with
      |none=>rw [z] at jB;cases jB
      |some of=>rw [z] at jB;exact ⟨of,X1 _ _ z,Option.some.inj jB⟩
     refine ks_wpAny_getMethod_super (l₀:=cd.mro) nK (looks_opaque X1 Mu) ?_ rfl X1 iI Eb Ea s7 (by decide +kernel) ?_
     ·exact λA Q E s k q=>wpAny_bind ((looks_clsIn X1 i3) A _ E s k (wpAny_pure q))
     have k2:∀ c o,h1.get? c=some o→(h1.push (methodObj (.ref sup.addr) (.ref x))).get? c=some o:=λc o e=>Heap.get?_push_of_some _ e
     have uT:(h1.push (methodObj (.ref sup.addr) (.ref x))).get? h1.objs.size=some (methodObj (.ref sup.addr) (.ref x)):=Heap.get?_push_size _ rfl
     refine callWith_of (P:=MethP b.K h1.objs.size sup.addr (.ref x)) rfl (keeps_M II) ?_
     refine evalArgs_plain ?_
     refine Calls.spliced_cons (ie (m:=λy=>(([p,a].map b.nm).zip [.ref x,xv]).reverse.lookup y) S.kind (S.loc a (by simp)) rfl (ee.keeps k2) kO hd2 ?_)
     refine spliced_none ⟨⟨uT,X1.keeps k2⟩,?_⟩
     refine wpAny_call (ks_codeAny_call_bound uT ?_)
     refine sup.ok O c' cs' n g' [(a,v),(p,.ref i)] H ⟨h1.push (methodObj (.ref sup.addr) (.ref x)),s.gens,s.drawn,t1+1,s.os⟩ _ Ef [.ref i,v] [.ref x,xv] G' NV (R2.keep k2) (.cons (Vs.mono le) (.cons (Vv.mono le) .nil)) ?_
     refine bC.dD (Q:=Qf) (f:=λ_ H=>rest.run [(a,v),(p,.ref i)] H) (aw.shift (.refl _)) λv2 H2 g2 eQ h2 t2 aP R4 V4 bA=>?_
     have:=bb.ok O rest c' g2 [(a,v),(p,.ref i)] H2 ⟨h2,s.gens,s.drawn,t2,s.os⟩ Qf Ef G' xy (Nat.zero_le _) R4 bA
     rw [he] at this
     exact this
    ·show ao b c g loc s (aF ((sup.run [.ref i,v] H).bind λ_ H=>rest.run [(a,v),(p,.ref i)] H)) Q E
     revert hp
     cases sup.run [.ref i,v] H with
     |stuck=>exact id
     |bD x H=>exact id
     |ok v H=>exact id
    ·exact λ_ _ h=>nomatch h
    ·exact .nil
    ·exact λ_ _ h=>nomatch h
    ·intro k q
     exact absurd rfl (S.wI _ (mem_lookup (show cs'.names.lookup (b.nm k)=some .cell from q)))
    ·intro k u xo
     by_cases e1:k=a
     ·subst e1
      rw [List.lookup_cons,beq_self_eq_true] at xo
      cases xo
      exact ⟨xv,Vv,.inl ⟨S.loc k (by simp),kO⟩⟩
     ·rw [bj e1] at xo
      by_cases e2:k=p
      ·subst e2
       rw [List.lookup_cons,beq_self_eq_true] at xo
       cases xo
       exact ⟨.ref x,Vs,.inl ⟨S.loc k (by simp),pT⟩⟩
      ·rw [bj e2] at xo
       cases xo
   ·exact hp.elim
  ·exact hp.elim
end
section
variable {b:Base} {cs:Scope} {n:Nat}
noncomputable def Ex.hole (b:Base) (cs:Scope) (n:Nat) (py:Expr) (ns:∀ r env,starEach (py::r) env=(false,eval py env)::starEach r env:=by intros;rfl):Ex b cs n where
 py:=py
 run:=λ_ _=>.stuck
 ok:=λ_ _ _ _ _ _ _ _ _ _ hp=>hp.elim
 ns:=ns
noncomputable def St.hole (b:Base) (cs:Scope) (n tk:Nat) (py:Stmt):St b cs n tk where
 py:=py
 run:=λ_ _=>.stuck
 ok:=λ_ _ _ _ _ _ _ _ _ _ _ _ hp=>hp.elim
mutual
def fh (K:Frag) (P:Params):AV→Value→Prop
 |.none,x=>x=.none
 |.bool v,x=>x=.bool v
 |.int i,x=>∃ t,x=.int i t
 |.str l,x=>∃ t,x=.str ⟨l.toArray⟩ t
 |.tup l,x=>∃ a,x=.ref a∧∃ o vs k,K.lookup a=some o∧o.cls=.type "tuple"∧o.data=.seq (List.toArray vs) k∧o.dict=Option.none∧iA K P l vs
 |.fl l,x=>∃ a,x=.ref a∧∃ o vs k,K.lookup a=some o∧o.cls=.type "list"∧o.data=.seq (List.toArray vs) k∧o.dict=Option.none∧iA K P l vs
 |.eY l,x=>∃ a,x=.ref a∧∃ o es k,K.lookup a=some o∧o.ExactDict∧o.data=.dict (List.toArray es) k∧(a==sysModules)=false∧(l.map (·.1)).Nodup∧jg K P l es
 |.ref _,_=>False
 |.txt _,_=>False
def iA (K:Frag) (P:Params):List AV→List Value→Prop
 |[],m=>m=[]
 |v::l,m=>∃ x r,m=x::r∧fh K P v x∧iA K P l r
def jg (K:Frag) (P:Params):List (List Nat×AV)→List DictEntry→Prop
 |[],m=>m=[]
 |(k,v)::l,m=>∃ e r,m=e::r∧(∃ t,e.key=.str ⟨k.toArray⟩ t)∧e.hash=PyData.keyHash P ⟨k.toArray⟩∧fh K P v e.val∧jg K P l r
end
mutual
theorem rz (O:b.Ok) {g:Gh}:∀ (v:AV) {x:Value},fh b.K b.w.params v x→ak b g v x
 |.none,_,h=>by cases h;exact .none
 |.bool v,_,h=>by cases h;exact .bool _
 |.int v,_,h=>by (refine bg h ?_;clear h;rintro t rfl);exact .int _ _
 |.str l,_,h=>by (refine bg h ?_;clear h;rintro t rfl);exact .str _ _
 |.tup l,_,h=>by obtain ⟨a,rfl,o,vs,k,h1,h2,h3,h4,h5⟩:=h;exact .tup (.inr (O.X _ _ h1)) h2 h3 h4 (o7 O l h5)
 |.fl l,_,h=>by obtain ⟨a,rfl,o,vs,k,h1,h2,h3,h4,h5⟩:=h;exact .fl (.inr (O.X _ _ h1)) h2 h3 h4 (o7 O l h5)
 |.eY l,_,h=>by obtain ⟨a,rfl,o,es,k,h1,h2,h3,h4,h5,h6⟩:=h;exact .eY (O.X _ _ h1) h2 h3 h4 h5 (tx O l h6)
 |.ref _,_,h=>h.elim
 |.txt _,_,h=>h.elim
theorem o7 (O:b.Ok) {g:Gh}:∀ (l:List AV) {m:List Value},iA b.K b.w.params l m→aX b g l m
 |[],_,h=>by cases h;exact .nil
 |v::l,_,h=>by (refine bk h ?_;clear h;rintro x r rfl h1 h2);exact .cons (rz O v h1) (o7 O l h2)
theorem tx (O:b.Ok) {g:Gh}:∀ (l:List (List Nat×AV)) {m:List DictEntry},jg b.K b.w.params l m→bl b g l m
 |[],_,h=>by cases h;exact .nil
 |(k,v)::l,_,h=>by (refine mZ h ?_;clear h;rintro e r rfl h1 h2 h3 h4);exact .cons h1 h2 (rz O v h3) (tx O l h4)
end
noncomputable def Ex.glob (x:Gv cs) (v:AV) (hx:b.Ok→∃ val,nsIn b.K mainGlobals x.s=some (some val)∧fh b.K b.w.params v val) (p:Pos):Ex b cs n where
 py:=.Name x.s p
 run:=λ_ H=>.ok v H
 ok:=λO c g loc H s Q E G R hp=>by
  refine ai (hx O) ?_;intro val h1 h2
  exact mD O x h1 G R (hp g val s.heap s.toks (.refl g) R (rz O v h2))
end
section
variable {prog:Program} {w:World} {A:Around} {E:VP} {s:Shared} {K:Frag} {x C:Addr} {ox:Obj} {od:Option Obj} {name:Str} {expr:Bool} {Q:VP}
theorem Ai {h:Heap} {g:Array GenState} {d:Drawn} {t:Nat} {os:OsState} {Q:Bool→Shared→Prop} {oe:Obj} (Y:kA (model prog w) h C) (he:h.get? x=some oe) (hc:oe.cls=.ref C) (ht:Looks (model prog w) h (typeOf (.ref C)) (.type "type"))
  (hq:Q true ⟨h,g,d,t,os⟩):wpAny (model prog w) A (excMatches (.ref x) (.ref C)) Q E ⟨h,g,d,t,os⟩:=by
 obtain ⟨⟨oc,Pk,cd,sl,hC,e1,e4⟩,made,base,self,exc,attr,nm,root,call,typ⟩:=Y
 have f:=tc_notTuple
 have T1:Looks (model prog w) h (typeOf (.ref x)) (.ref C):=(Looks.ld he).andThen (by rw [hc];exact .now)
 have T2:Looks (model prog w) h (isInstance (.ref x) (.ref C)) true:=T1.andThen self
 have T3:Looks (model prog w) h (isInstance (.ref C) (.type "tuple")) false:=ht.andThen (.of_pure f)
 have T4:Looks (model prog w) h (isType (.ref C)) true:=by
  intro A Q E s k q
  unfold isType loadHead
  exact wpAny_bind (wpAny_loadPart (k _ _ hC) (wpAny_pure q))
 unfold excMatches
 repeat (first |lk |wp_step)
 exact hq
end
section
variable {prog:Program} {w:World} {A:Around} {E:VP} {h:Heap} {g:Array GenState} {d:Drawn} {t:Nat} {os:OsState} {K:Frag} {x C:Addr} {ox:Obj} {od:Option Obj} {name:Str}
theorem GR {tk:Tok} {v:Value} {R:Result→Shared→Prop} (X:K.In h) (I:InstAt h x ox C od) (Y:kA (model prog w) h C) (hf:findObj K C od name=some (.value v)) (hh:handedIn v=true) (hq:R (.ok (.ret v)) ⟨h,g,d,t,os⟩) :
  codeAny (model prog w) A (.call (.builtin "BaseException.__getattribute__") ⟨[.ref x,.str name tk],[]⟩) R ⟨h,g,d,t,os⟩:=by
 have hk:builtinKind "BaseException.__getattribute__"=some .slot:=by decide +kernel
 have Iy:splitId "BaseException.__getattribute__"=some ("BaseException","__getattribute__"):=by decide +kernel
 have T1:Looks (model prog w) h (isInstance (.ref x) (.type "BaseException")) true:=I.type.andThen Y.root
 have FX:=PySem.F.attr_Exception
 have pl:=FX.ga.plain
 have en:=PySem.F.entry_bexc_ga
 refine codeAny_call_builtin pl en ?_
 refine @check_slot (model prog w) _ _ ⟨h,g,d,t,os⟩ "BaseException.__getattribute__" "BaseException" "__getattribute__" (.ref x) [.str name tk] [] _ hk Iy T1 (PySem.F.args_bexc_ga (.ref x) (.str name tk)) ?_
 have L0:=I.type (M:=model prog w)
 have L1:=looks_find (M:=model prog w) X I hf
 unfold Builtin.«object.__getattribute__»
 have sa:slotArgs "__getattribute__" 1 {pos:=[Value.ref x,Value.str name tk]}=pure (.ref x,[.str name tk]):=by kernel_rfl
 refine sY (sa ..)▸?_
 refine wpAny_bind (wpAny_pure ?_)
 dsimp only
 have an:Builtin.ObjectAttr.attrName (.str name tk)=pure name:=by kernel_rfl
 refine sY (an ..)▸?_
 refine wpAny_bind (wpAny_pure (wpAny_bind (L0.at (wpAny_bind (L1.at ?_)))))
 exact wpAny_pure hq
theorem Ek {expr:Bool} {v:Value} {Q:VP} (X:K.In h) (I:InstAt h x ox C od) (Y:kA (model prog w) h C) (NZ:findIn K (.ref C) "__getattribute__"=some (some (.builtin "BaseException.__getattribute__")))
  (NX:findIn K (.ref C) "__getattr__"=some none) (hf:findObj K C od name=some (.value v)) (hh:handedIn v=true) (hq:Q v ⟨h,g,d,t+1,os⟩):wpAny (model prog w) A (getAttr (.ref x) name expr) Q E ⟨h,g,d,t,os⟩:=by
 have L0:=I.type (M:=model prog w)
 have L1:=looks_findIn (M:=model prog w) X NZ
 have L2:=looks_findIn (M:=model prog w) X NX
 have FX:=PySem.F.attr_Exception
 have Iq:(Value.builtin "BaseException.__getattribute__"==Value.builtin "object.__getattribute__")=false:=by decide +kernel
 have Ir:(onTheHeap (Value.ref C)&&Value.builtin "BaseException.__getattribute__"==Value.builtin "object.__getattribute__")=false:=by rw [Iq];rfl
 have Nu:(expr&&onTheHeap (Value.builtin "BaseException.__getattribute__"))=false:=by cases expr<;>rfl
 have bd:=FX.ga.bind (.ref x)
 unfold getAttr getAttrBy
 refine wpAny_bind (wpAny_mkText (wpAny_holding (wpAny_bind (L0.at (wpAny_bind (L1.at ?_))))))
 dsimp only
 refine sY (Ir ..)▸?_
 show wpAny _ _ (getAttrByItsOwn _ _ _ _ _ _) _ _ _
 unfold getAttrByItsOwn hookBefore callGetattribute
 refine sY (Nu ..)▸?_
 refine wpAny_bind ?_
 refine sY (if_pos (show onTheHeap (.ref C)=true from rfl) ..)▸?_
 refine L2.at ?_
 refine wpAny_bind (wpAny_attempt (wpAny_holding ?_))
 refine sY (if_neg Bool.false_ne_true ..)▸?_
 unfold boundAndCalled
 refine sY (bd ..)▸?_
 refine wpAny_bind (wpAny_pure ?_)
 refine wpAny_call (GR (tk:=t) X I Y hf hh ?_)
 show wpAny _ _ (handedOut v) _ _ _
 refine sY (handedOut_of hh ..)▸?_
 exact wpAny_pure hq
end
section
variable {b:Base} {cs:Scope} {n:Nat}
theorem kW.rep {c:FC} {g:Gh} {H:aa} {x:AV} {e:Addr} {h:Heap} {f:jN} {B:Heap} {ag:List (List (Addr×Obj))} {af:List (Addr×Obj)} {m:Str→Option Value} {d:Addr} {od:Obj} (F:kW b c g H x e h f B ag af m d od):aE b c g [] H h m ag af where
 stays:=λa o q=>F.fG.base a o (F.top a o q)
 ns:=F.ns
 above:=F.above
 cell:=λp hp=>by
  simp only [cells,List.mem_append] at hp
  rcases hp with hp |hp |hp |hp
  ·exact F.fG.base _ _ (F.cell p (by simp [hp]))
  ·exact F.fG.base _ _ (F.cell p (by simp only [List.mem_append];exact .inr (.inl hp)))
  ·exact F.fr p hp
  ·exact F.fG.base _ _ (F.cell p (by simp [hp]))
 nodup:=F.nodup
 off:=F.off
 loc:=λ_ _ e=>nomatch e
 heap:=F.heap
 bX:=F.bX
 af:=F.rk
theorem aE.t7 {c:FC} {g:Gh} {H:aa} {h h':Heap} {m m':Str→Option Value} {ag:List (List (Addr×Obj))} {af:List (Addr×Obj)} (R:aE b c g [] H h m ag af) (hn:h'.Ns c.L m') (hs:Heap.SameBut c.L h h'):aE b c g [] H h' m' ag af:=
 {R with stays:=(R.fr.set hn hs).keep,ns:=hn,cell:=λp hp=>(hs.2 _ (R.off p hp).2).trans (R.cell p hp),loc:=λ_ _ e=>nomatch e}
structure zL (b:Base):Prop where
 facts:ji b du
 typ:typeIn b.K (.ref du)=some (.type "type")
 ga:findIn b.K (.ref du) "__getattribute__"=some (some (.builtin "BaseException.__getattribute__"))
 gn:findIn b.K (.ref du) "__getattr__"=some none
 eG:findIn b.K (.ref du) "spot"=some none
theorem rU {prog:Program} {w:World} {A:Around} {s:Shared} {env:Env} {R:Result→Shared→Prop} {e:Value} {nm:Str} {st:Stmt} {pos:Pos}
  (h:wpAny (model prog w) A (setFlight e none) (λ_ aO=>wpAny (model prog w) A (bindName env nm e) (λ_ cn=>wpAny (model prog w) A (execs [st] env) (λf eD=>R (.ok f) eD) (λ_ _=>False) cn) (λ_ _=>False) aO) (λ_ _=>False) s) :
  codeAny (model prog w) A (.handlers e [.ExceptHandler none (some nm) [st] pos] env) R s:=by
 refine codeAny_of_tree ?_
 show wpAny _ A (do return Fin.done (← (handleWith e env [.ExceptHandler none (some nm) [st] pos]).onRaise (λx=>do noteFrame x env;theTreesLotGoes x))) _ _ s
 refine wpAny_bind (wpAny_noted ?_)
 unfold handleWith
 refine wpAny_bind (wpAny_standAt (wpAny_bind (wpAny_mono h (λ_ aO h₁=>?_) λ_ _ z=>z.elim)))
 refine wpAny_bind (wpAny_mono h₁ (λ_ cn xb=>?_) λ_ _ z=>z.elim)
 refine wpAny_bind (wpAny_attempt (wpAny_mono xb (λf eD xa=>?_) λ_ _ z=>z.elim))
 exact wpAny_pure (wpAny_pure xa)
end
section
variable {b:Base} {cs:Scope} {n:Nat}
noncomputable def pS (r:Res (av×Loc)):Res (av×Loc):=match r with
 |.bD v H=>.ok (.ret v,[]) H
 |r=>r
noncomputable def St.C5 {tk:Nat} (body:bb b cs n tk) (x:Gv cs) (fl:Lv b cs) (tp np ap rp aw p:Pos) (hx:b.Ok→nsIn b.K mainGlobals x.s=some (some (.ref du))∧zL b)
  (hd:(b.nm fl.x==("__debug__":Str))=false)
  (he:∀ env,eval (.Attribute (.Name (b.nm fl.x) np) "spot" ap) env=(do
   let v ← eval (.Name (b.nm fl.x) np) env
   standAt ap.atName
   let r ← holding [v] (getAttr v "spot" true)
   letTemporaryGo (.Name (b.nm fl.x) np) v r
   pure r)):St b cs n tk where
 py:=.Try body.py [.ExceptHandler (some (.Name x.s tp)) (some (b.nm fl.x)) [.Return (some (.Attribute (.Name (b.nm fl.x) np) "spot" ap)) rp] aw] [] [] p
 run:=λloc H=>pS (body.run loc H)
 ok:=λO c g loc H s Q E G hc ht R hp=>by
  refine aQ (hx O) ?_;intro x1 CO
  refine wpAny_Try_except (bb.ok O body c g loc H s _ _ G hc ht R ?_)
  replace hp:bC b c g s (pS (body.run loc H)) Q E:=hp
  revert hp
  cases body.run loc H with
  |stuck=>exact id
  |ok r H1=>
   obtain ⟨fw,l⟩:=r
   cases fw with
   |next=>exact λhp g' h' t' le R'=>wpAny_execs_nil (hp g' h' t' le R')
   |ret v=>exact λhp g' val h' t' le R' V=>hp g' val h' t' le R' V
  |bD v H1=>
   intro hp g1 e h1 t1 c9 F1
   obtain q |⟨f,B,ag,af,m,d,od,hk,F⟩:=F1
   ·rw [hc] at q;cases q
   have ri:c.A.frames=some (c.env::c.outer.map (·.1)):=by rw [G.frames,hc];rfl
   refine rQ (s:={s with heap:=h1,toks:=t1}) ri (G.frame hc) hk F.fG λh2 FH u2=>?_
   refine bg (F.move (f':=.held c.L) rfl FH u2) ?_;intro dd F2
   refine qn (fl:=none) (λq=>by cases q) (s:={s with heap:=h2,toks:=t1}) F2.fG λh3 zl u3=>?_
   refine bg (F2.move (f':=.free) trivial zl u3) ?_;intro O5 F3
   have KI:b.hT.StaysIn h3:=F3.rep.stays
   have X3:=O.X.keeps KI
   refine mZ F3.fG.exc ?_;intro oe vs e1 e2 e3 e4 e5
   refine ai (O.glob _ _ x1) ?_;intro mg Ov FD
   have IG:c.env.scope=cs:=G.sc
   have Cc:c.env.scope.kind=.function:=by rw [IG];exact G.kind
   have Ft:c.env.kindOf (b.nm fl.x)=some .local:=by show c.env.scope.names.lookup _=_;rw [IG];exact fl.h
   refine wpAny_handleBy_cons (codeAny_handlers_test ?_) (by intro q;cases q)
   refine Calls.Name_function_global Cc (by show c.env.scope.names.lookup _=_;rw [IG];exact x.h) (Calls.loadGlobal_global (mg:=mg) (by rw [G.glob];exact Ov.keeps KI) FD ?_) x.d
   refine Ai (kj X3 CO.facts.makes) e1 e2 (looks_typeIn X3 CO.typ) ?_
   show codeAny _ _ _ _ _
   refine rU ?_
   refine qn (fl:=none) (λq=>by cases q) (s:={s with heap:=h3,toks:=t1}) F3.fG λh4 I9 u4=>?_
   refine bg (F3.move (f':=.free) trivial I9 u4) ?_;intro O4 F4
   have R4:=F4.rep
   refine wpAny_bindName (wpAny_storeName_local Ft (by rw [G.locals];exact R4.ns) (λh5 Fo Fh=>?_) (by rw [Cc];rfl))
   rw [G.locals] at Fo Fh
   have R5:=R4.t7 Fo Fh
   refine mZ F4.fG.exc ?_;intro oe vs e1 e2 e3 e4 e5
   refine bZ F4.fG.I6 ?_;rintro _ ⟨L',Po,q1,q2,q3,q4⟩ _
   have eL:L'=c.L:=Option.some.inj (q1.symm.trans (G.frame hc))
   subst eL
   have M7:e≠c.L:=λq=>by rw [← q,e1] at q3;cases q3;exact q4 _ e4
   have M8:d≠c.L:=λq=>by rw [← q,F4.dict] at q2;cases q2
   have zp:h5.get? e=some oe:=(Fh.2 _ M7).trans e1
   have OK:h5.get? d=some od:=(Fh.2 _ M8).trans (F4.fG.base _ _ F4.dict)
   obtain ⟨Pg,val,MX,KJ⟩:=F4.eG
   have X5:=O.X.keeps R5.stays
   have I5:InstAt h5 e oe du (some od):=⟨zp,e2,by unfold notCls;rw [e4],by rw [e3];exact OK⟩
   have fo:findObj b.K du (some od) "spot"=some (.value val):=findObj_own CO.facts.dict CO.eG rfl MX
   refine wpAny_execs_cons (wpAny_Return_some (Attribute_any_ ?_ (he _)))
   refine ie (m:=λy=>if y=b.nm fl.x then some (.ref e) else m y) Cc Ft (G.locals) Fo (if_pos rfl) hd ?_
   refine Ek X5 I5 (kj X5 CO.facts.makes) CO.ga CO.gn fo (handed KJ) ?_
   show wpAny _ _ (do bindName c.env (b.nm fl.x) .none;unbindBehindTheSuite c.env (b.nm fl.x) aw) _ _ _
   refine wpAny_bind (wpAny_bindName (wpAny_storeName_local Ft (by rw [G.locals];exact Fo) (λh6 ID Lh=>?_) (by rw [Cc];rfl)))
   rw [G.locals] at ID Lh
   have R6:=R5.t7 ID Lh
   unfold unbindBehindTheSuite
   refine wpAny_onRaise (wpAny_unbindName_local Ft (by rw [G.locals];exact ID) (if_pos rfl) (by rw [Cc];rfl) λh7 u7 Ll Le=>?_)
   rw [G.locals] at Ll Le
   exact hp g1 val h7 _ c9 ⟨_,_,_,R6.t7 Ll Le⟩ KJ
end
mutual
noncomputable def AV.closed (n:Nat):AV→Bool
 |.tup l=>AV.d7 n l
 |.fl l=>AV.d7 n l
 |.eY l=>AV.fU n l
 |.ref i=>Nat.blt i n
 |_=>true
noncomputable def AV.d7 (n:Nat):List AV→Bool
 |[]=>true
 |v::l=>v.closed n&&AV.d7 n l
noncomputable def AV.fU (n:Nat):List (List Nat×AV)→Bool
 |[]=>true
 |p::l=>p.2.closed n&&AV.fU n l
end
noncomputable def aK.closed (n:Nat):aK→Bool
 |.inst _ fs=>fs.all λf=>f.2.closed n
 |.list l=>AV.d7 n l
 |.dict l=>AV.fU n l
 |_=>true
section
variable {b:Base} {g g':Gh}
theorem uJ {i n:Nat} (h:Nat.blt i n=true):i < n:=Nat.le_of_ble_eq_true h
theorem ak.isClosed {v:AV} {x:Value} (h:ak b g v x):v.closed g.ρ.length=true:=
 ak.rec (motive_1:=λv _ _=>v.closed g.ρ.length=true) (motive_2:=λl _ _=>AV.d7 g.ρ.length l=true) (motive_3:=λl _ _=>AV.fU g.ρ.length l=true)
  rfl (λ_=>rfl) (λ_ _=>rfl) (λ_ _=>rfl) (λ_ _ _ _ _ i=>i) (λ_ _ _ _ _ i=>i) (λ_ _ _ _ _ _ i=>i) (λh=>Nat.ble_eq_true_of_le (List.getElem?_eq_some_iff.mp h).1) (λ_ _=>rfl)
  rfl (λ_ _ i j=>Bool.and_eq_true_iff.mpr ⟨i,j⟩) rfl (λ_ _ _ _ i j=>Bool.and_eq_true_iff.mpr ⟨i,j⟩) h
theorem aX.isClosed {v:List AV} {x:List Value} (h:aX b g v x):AV.d7 g.ρ.length v=true:=
 aX.rec (motive_1:=λv _ _=>v.closed g.ρ.length=true) (motive_2:=λl _ _=>AV.d7 g.ρ.length l=true) (motive_3:=λl _ _=>AV.fU g.ρ.length l=true)
  rfl (λ_=>rfl) (λ_ _=>rfl) (λ_ _=>rfl) (λ_ _ _ _ _ i=>i) (λ_ _ _ _ _ i=>i) (λ_ _ _ _ _ _ i=>i) (λh=>Nat.ble_eq_true_of_le (List.getElem?_eq_some_iff.mp h).1) (λ_ _=>rfl)
  rfl (λ_ _ i j=>Bool.and_eq_true_iff.mpr ⟨i,j⟩) rfl (λ_ _ _ _ i j=>Bool.and_eq_true_iff.mpr ⟨i,j⟩) h
theorem bl.isClosed {v:List (List Nat×AV)} {x:List DictEntry} (h:bl b g v x):AV.fU g.ρ.length v=true:=
 bl.rec (motive_1:=λv _ _=>v.closed g.ρ.length=true) (motive_2:=λl _ _=>AV.d7 g.ρ.length l=true) (motive_3:=λl _ _=>AV.fU g.ρ.length l=true)
  rfl (λ_=>rfl) (λ_ _=>rfl) (λ_ _=>rfl) (λ_ _ _ _ _ i=>i) (λ_ _ _ _ _ i=>i) (λ_ _ _ _ _ _ i=>i) (λh=>Nat.ble_eq_true_of_le (List.getElem?_eq_some_iff.mp h).1) (λ_ _=>rfl)
  rfl (λ_ _ i j=>Bool.and_eq_true_iff.mpr ⟨i,j⟩) rfl (λ_ _ _ _ i j=>Bool.and_eq_true_iff.mpr ⟨i,j⟩) h
structure Down (g' g:Gh) (n:Nat):Prop where
 bF:∀ p∈g'.bF,p∈g.bF
 bX:∀ i a,i < n→g'.ρ[i]?=some a→g.ρ[i]?=some a
theorem ak.down {n:Nat} (D:Down g' g n) {v:AV} {x:Value} (h:ak b g' v x):v.closed n=true→ak b g v x:=
 ak.rec (motive_1:=λv x _=>v.closed n=true→ak b g v x) (motive_2:=λl m _=>AV.d7 n l=true→aX b g l m) (motive_3:=λl m _=>AV.fU n l=true→bl b g l m)
  (λ_=>.none) (λv _=>.bool v) (λi t _=>.int i t) (λl t _=>.str l t) (λh1 h2 h3 h4 _ i e=>.tup (h1.imp (D.bF _) id) h2 h3 h4 (i e)) (λh1 h2 h3 h4 _ i e=>.fl (h1.imp (D.bF _) id) h2 h3 h4 (i e)) (λh1 h2 h3 h4 h5 _ i e=>.eY h1 h2 h3 h4 h5 (i e))
  (λh e=>.ref (D.bX _ _ (uJ e) h)) (λt h _=>.txt t h) (λ_=>.nil) (λ_ _ i j e=>.cons (i (Bool.and_eq_true_iff.mp e).1) (j (Bool.and_eq_true_iff.mp e).2)) (λ_=>.nil) (λh1 h2 _ _ i j e=>.cons h1 h2 (i (Bool.and_eq_true_iff.mp e).1) (j (Bool.and_eq_true_iff.mp e).2)) h
theorem bl.down {n:Nat} (D:Down g' g n) {v:List (List Nat×AV)} {x:List DictEntry} (h:bl b g' v x):AV.fU n v=true→bl b g v x:=
 bl.rec (motive_1:=λv x _=>v.closed n=true→ak b g v x) (motive_2:=λl m _=>AV.d7 n l=true→aX b g l m) (motive_3:=λl m _=>AV.fU n l=true→bl b g l m)
  (λ_=>.none) (λv _=>.bool v) (λi t _=>.int i t) (λl t _=>.str l t) (λh1 h2 h3 h4 _ i e=>.tup (h1.imp (D.bF _) id) h2 h3 h4 (i e)) (λh1 h2 h3 h4 _ i e=>.fl (h1.imp (D.bF _) id) h2 h3 h4 (i e)) (λh1 h2 h3 h4 h5 _ i e=>.eY h1 h2 h3 h4 h5 (i e))
  (λh e=>.ref (D.bX _ _ (uJ e) h)) (λt h _=>.txt t h) (λ_=>.nil) (λ_ _ i j e=>.cons (i (Bool.and_eq_true_iff.mp e).1) (j (Bool.and_eq_true_iff.mp e).2)) (λ_=>.nil) (λh1 h2 _ _ i j e=>.cons h1 h2 (i (Bool.and_eq_true_iff.mp e).1) (j (Bool.and_eq_true_iff.mp e).2)) h
theorem yo {n:Nat} {l:List AV}:AV.d7 n l=true→∀ v∈l,v.closed n=true:=by
 induction l with
 |nil=>intro _ _ h;cases h
 |cons a l ih=>
  intro e v h
  have e:=Bool.and_eq_true_iff.mp e
  rcases List.mem_cons.mp h with rfl |h
  ·exact e.1
  ·exact ih e.2 v h
theorem aI.imp_mem {α β:Type} {R S:α→β→Prop} {l:List α} {m:List β} (h:aI R l m) (k:∀ a b,a∈l→R a b→S a b):aI S l m:=by
 induction h with
 |nil=>exact .nil
 |cons h _ ih=>exact .cons (k _ _ (.head _) h) (ih λa b m=>k a b (.tail _ m))
theorem aZ.down {n:Nat} {o:aK} {ch:List (Addr×Obj)} (D:Down g' g n) (h:aZ b (ak b g') (bl b g') o ch):o.closed n=true→aZ b (ak b g) (bl b g) o ch:=
 aZ.casesOn (motive:=λo ch _=>o.closed n=true→aZ b (ak b g) (bl b g) o ch) h (λh e=>.inst (h.imp_mem λf _ hm z=>⟨z.1,z.2.down D (List.all_eq_true.mp e f hm)⟩))
  (λh e=>.list (h.imp_mem λv _ hm z=>z.down D (yo e v hm))) (λh' h e=>.dict h' (h.down D e))
  (λh1 h _=>.scan h1 (h.imp_mem λf _ hm z=>⟨z.1,z.2.down D ((List.mem_cons.mp hm).elim (λq=>q▸rfl) λhm=>(List.mem_singleton.mp hm)▸rfl)⟩)) λ_=>.dead
end
noncomputable def mask (lo hi:Nat):Nat→aa→aa
 |_,[]=>[]
 |i,o::H=>(match Nat.ble lo i&&Nat.blt i hi with |true=>o |false=>.dead)::mask lo hi (i+1) H
noncomputable def vJ (q:Bool) (n:Nat) (o o':aK):Option aK:=match q with
 |true=>match o'.closed n with
  |true=>some o'
  |false=>none
 |false=>match o' with
  |.dead=>some o
  |_=>none
theorem wV {q:Bool} {n:Nat} {o o' x:aK}:vJ q n o o'=some x→(q=true∧x=o'∧o'.closed n=true)∨(q=false∧o'=.dead∧x=o):=by
 cases q with
 |true=>
  show (match o'.closed n with |true=>some o' |false=>none)=_→_
  cases o'.closed n with
  |true=>exact λh=>.inl ⟨rfl,(Option.some.inj h).symm,rfl⟩
  |false=>exact nofun
 |false=>
  cases o' with
  |dead=>exact λh=>.inr ⟨rfl,rfl,(Option.some.inj h).symm⟩
  |_=>exact nofun
noncomputable def gQ (lo hi n:Nat):Nat→aa→aa→Option aa
 |_,[],_=>some []
 |i,o::H,H2=>match H2 with
  |[]=>none
  |o'::H'=>(vJ (Nat.ble lo i&&Nat.blt i hi) n o o').bind λx=>(gQ lo hi n (i+1) H H').map (x::·)
theorem r9 {lo hi n i:Nat} {o:aK} {H H2 H3:aa}:gQ lo hi n i (o::H) H2=some H3→∃ o' H' x r,H2=o'::H'∧H3=x::r∧vJ (Nat.ble lo i&&Nat.blt i hi) n o o'=some x∧gQ lo hi n (i+1) H H'=some r:=by
 cases H2 with
 |nil=>exact nofun
 |cons o' H'=>exact λh=>(Option.bind_eq_some_iff.mp h).elim λx k=>(Option.map_eq_some_iff.mp k.2).elim λr q=>⟨o',H',x,r,rfl,q.2.symm,k.1,q.1⟩
theorem wD {α:Type} {a b c d:List α} (h:(b++c).Perm (d++a)) (x:List α):(x++b++c).Perm (d++(x++a)):=by
 refine ((List.append_assoc x b c)▸(h.append_left x)).trans ?_
 rewrite [← List.append_assoc,← List.append_assoc]
 exact List.Perm.append_right _ List.perm_append_comm
theorem pX {α β:Type} {R:α→β→Prop} {a:α} {l:List α} {m:List β} (h:aI R (a::l) m):∃ x r,m=x::r∧R a x∧aI R l r:=by
 cases h with |cons h t=>exact ⟨_,_,rfl,h,t⟩
theorem pW {α β:Type} {R:α→β→Prop} {m:List β} {x:β} {l:List α} (h:aI R l (x::m)):∃ a r,l=a::r∧R a x∧aI R r m:=by
 cases h with |cons h t=>exact ⟨_,_,rfl,h,t⟩
def hY (b:Base) (lo hi n i:Nat) (V:AV→Value→Prop) (D:List (List Nat×AV)→List DictEntry→Prop) (ρ:List Addr) (H:aa) (P:List (Addr×Obj)):Prop:=
 ∀ {H2:aa} {bN:List (List (Addr×Obj))} {H3:aa} {r:List Addr} {V2 V3:AV→Value→Prop} {D2 D3:List (List Nat×AV)→List DictEntry→Prop},aI (aZ b V2 D2) H2 bN→aI fc (ρ++r) bN→gQ lo hi n i H H2=some H3→
   (∀ o ch,aZ b V D o ch→aZ b V3 D3 o ch)→(∀ o ch,aZ b V2 D2 o ch→o.closed n=true→aZ b V3 D3 o ch)→
   ∃ f9 J,aI (aZ b V3 D3) H3 f9∧aI fc ρ f9∧(bN.flatten++P).Perm (J++f9.flatten)
section
variable {b:Base} {lo hi n i:Nat} {V:AV→Value→Prop} {D:List (List Nat×AV)→List DictEntry→Prop} {H:aa} {ρ:List Addr} {P:List (Addr×Obj)} {o:aK} {ch:List (Addr×Obj)} {a:Addr}
theorem hY.seen (h:hY b lo hi n (i+1) V D ρ H P) (q:(Nat.ble lo i&&Nat.blt i hi)=true):hY b lo hi n i V D (a::ρ) (o::H) P:=by
 intro H2 bN H3 r V2 V3 D2 D3 a2 b2 e s1 s2
 refine E4 (r9 e) ?_;rintro o' H' x r' rfl rfl e1 e2
 refine bk (pX a2) ?_;rintro FJ bN rfl c1 c2
 refine bk (pW b2) ?_;intro _ _ e3 d1 d2
 cases e3
 rcases wV e1 with ⟨_,rfl,hc⟩ |⟨q',_⟩
 ·refine bk (h c2 d2 e2 s1 s2) ?_;intro f9 J m1 m2 m3
  exact ⟨FJ::f9,J,.cons (s2 _ _ c1 hc) m1,.cons d1 m2,by rw [List.flatten_cons,List.flatten_cons];exact wD m3 FJ⟩
 ·rw [q] at q';cases q'
theorem hY.HB (h:hY b lo hi n (i+1) V D ρ H P) (q:(Nat.ble lo i&&Nat.blt i hi)=false) (h1:aZ b V D o ch) (r1:fc a ch):hY b lo hi n i V D (a::ρ) (o::H) (ch++P):=by
 intro H2 bN H3 r V2 V3 D2 D3 a2 b2 e s1 s2
 refine E4 (r9 e) ?_;rintro o' H' x r' rfl rfl e1 e2
 refine bk (pX a2) ?_;rintro FJ bN rfl c1 c2
 refine bk (pW b2) ?_;intro _ _ e3 d1 d2
 cases e3
 rcases wV e1 with ⟨q',_⟩ |⟨_,rfl,rfl⟩
 ·rw [q] at q';cases q'
 ·refine bk (h c2 d2 e2 s1 s2) ?_;intro f9 J m1 m2 m3
  cases (show FJ=[] from c1.inv)
  refine ⟨ch::f9,J,.cons (s1 _ _ h1) m1,.cons r1 m2,?_⟩
  refine sY (List.flatten_cons ..)▸?_;refine sY (List.flatten_cons ..)▸?_;rewrite [List.nil_append,← List.append_assoc]
  exact (List.perm_append_comm.append_right P).trans (wD m3 ch)
theorem DR {ag:List (List (Addr×Obj))} (h:aI (aZ b V D) H ag):∀ (i:Nat) {ρ:List Addr},aI fc ρ ag→
  ∃ nv P,aI (aZ b V D) (mask lo hi i H) nv∧aI fc ρ nv∧ag.flatten.Perm (P++nv.flatten)∧hY b lo hi n i V D ρ H P:=by
 induction h with
 |nil=>
  intro i ρ hr
  cases hr
  exact ⟨[],[],.nil,.nil,.refl _,λ{H2 bN H3 r V2 V3 D2 D3} _ _ e _ _=>by cases e;exact ⟨[],bN.flatten,.nil,.nil,.refl _⟩⟩
 |@cons o ch H ag h1 h2 ih=>
  intro i ρ hr
  refine bk (pW hr) ?_;rintro a ρ rfl r1 r2
  refine ke (ih (i+1) r2) ?_;intro nv P k1 k2 k3 k4
  unfold mask
  cases q:Nat.ble lo i&&Nat.blt i hi with
  |true=>
   refine ⟨ch::nv,P,.cons h1 k1,.cons r1 k2,?_,k4.seen q⟩
   refine sY (List.flatten_cons ..)▸?_;refine sY (List.flatten_cons ..)▸?_
   refine (k3.append_left ch).trans ?_
   rewrite [← List.append_assoc,← List.append_assoc]
   exact List.perm_append_comm.append_right _
  |false=>
   refine ⟨[]::nv,ch++P,.cons .dead k1,.cons (.inl rfl) k2,?_,k4.HB q h1 r1⟩
   refine sY (List.flatten_cons ..)▸?_;refine sY (List.flatten_cons ..)▸?_;rewrite [List.nil_append,List.append_assoc]
   exact k3.append_left ch
end
theorem mX {α:Type} {I A F P Q J C:List α} (h:(A++P).Perm (J++C)):(I++(A++(F++(P++Q)))).Perm (J++(I++(C++(F++Q)))):=by
 have h1:(A++(F++(P++Q))).Perm (J++(C++(F++Q))):=by
  refine (List.Perm.append_left A (List.perm_append_comm_assoc F P Q)).trans ?_
  have:=h.append_right (F++Q)
  rwa [List.append_assoc,List.append_assoc] at this
 exact (h1.append_left I).trans (List.perm_append_comm_assoc I J _)
section
variable {b:Base} {c:FC} {g:Gh} {loc:Loc} {H:aa} {h:Heap}
theorem aE.len {m:Str→Option Value} {ag:List (List (Addr×Obj))} {af:List (Addr×Obj)} (R:aE b c g loc H h m ag af):H.length=g.ρ.length:=R.heap.length.trans R.bX.length.symm
theorem zr {g':Gh} (le:g.le g'):Down g' {g' with ρ:=g.ρ} g.ρ.length:=⟨λ_ h=>h,λi a hi e=>by
 refine aQ le ?_;clear le;rintro ⟨r,hr⟩ _
 rw [hr,List.getElem?_append_left hi] at e
 exact e⟩
theorem ue {g':Gh} (le:g.le g'):g.le {g' with ρ:=g.ρ}:=⟨⟨[],by simp⟩,le.2⟩
theorem Dv (lo hi:Nat) (R:Rep b c g loc H h):∃ P,Rep b (c.pin P) g loc (mask lo hi 0 H) h∧∀ {g':Gh} {H2 H3:aa},g.le g'→gQ lo hi H.length 0 H H2=some H3→
  (∀ {h':Heap},Rep b (c.pin P) g' loc H2 h'→Rep b c {g' with ρ:=g.ρ} loc H3 h')∧∀ {h':Heap} {x:AV} {e:Addr},x.closed H.length=true→d5 b (c.pin P) g' H2 x e h'→d5 b c {g' with ρ:=g.ρ} H3 x e h':=by
 refine aJ R ?_;clear R;intro m ag af R
 refine ke (DR (lo:=lo) (hi:=hi) (n:=H.length) R.heap 0 R.bX) ?_;intro nv P k1 k2 k3 k4
 have hp:(cells g nv af (P++c.pins)).Perm (cells g ag af c.pins):=by
  have:=mX (I:=g.bF) (F:=af) (Q:=c.pins) (J:=[]) (k3.trans List.perm_append_comm).symm
  exact this
 refine ⟨P,⟨m,nv,af,{stays:=R.stays,ns:=R.ns,above:=R.above,cell:=λp hm=>R.cell p (hp.mem_iff.mp hm),nodup:=((hp.map (·.1)).nodup_iff).mpr R.nodup,off:=λp hm=>R.off p (hp.mem_iff.mp hm),loc:=R.loc,heap:=k1,bX:=k2,af:=R.af}⟩,λ{g' H2 H3} le e=>?_⟩
 have aP:=ue le
 have dn:Down g' {g' with ρ:=g.ρ} H.length:=by rw [R.len];exact zr le
 refine aQ (id le) ?_;rintro ⟨r,hr⟩ _
 have back:∀ {bN:List (List (Addr×Obj))},aI (aZ b (ak b g') (bl b g')) H2 bN→aI fc g'.ρ bN→∃ f9 J,aI (aZ b (ak b {g' with ρ:=g.ρ}) (bl b {g' with ρ:=g.ρ})) H3 f9∧aI fc g.ρ f9∧(bN.flatten++P).Perm (J++f9.flatten):=λa1 a2=>by
  rw [hr] at a2
  exact k4 a1 a2 e (λ_ _ z=>z.imp (λ_ _=>ak.mono aP) λ_ _=>bl.mono aP) λ_ _ z hc=>z.down dn hc
 refine ⟨λ{h'} R2=>?_,λ{h' x e} hx F=>?_⟩
 ·refine aJ R2 ?_;clear R2;intro m2 bN dd R2
  refine bk (back R2.heap R2.bX) ?_;intro f9 J m1 q2 m3
  have hp:(cells g' bN dd (P++c.pins)).Perm (J++cells {g' with ρ:=g.ρ} f9 dd c.pins):=mX m3
  have nd:=((hp.map (·.1)).nodup_iff).mp R2.nodup
  rw [List.map_append,List.nodup_append] at nd
  refine ⟨m2,f9,dd,{stays:=R2.stays,ns:=R2.ns,above:=R2.above,cell:=λp hm=>R2.cell p (hp.mem_iff.mpr (List.mem_append_right _ hm)),nodup:=nd.2.1,off:=λp hm=>R2.off p (hp.mem_iff.mpr (List.mem_append_right _ hm)),loc:=λk v e=>?_,heap:=m1,bX:=q2,af:=R2.af}⟩
  refine ai (R2.loc k v e) ?_;intro val l1 l2
  refine ai (R.loc k v e) ?_;intro O1 _ l4
  exact ⟨val,l1,l2.down dn (by rw [R.len];exact l4.isClosed)⟩
 ·obtain q |⟨f,B,bN,dd,m2,d,od,hk,F⟩:=F
  ·exact .inl q
  refine bk (back F.heap F.bX) ?_;intro f9 J m1 q2 m3
  have hp:(cells g' bN dd (P++c.pins)).Perm (J++cells {g' with ρ:=g.ρ} f9 dd c.pins):=mX m3
  have aw:(g'.bF++(bN.flatten++(P++c.pins))).Perm (J++(g'.bF++(f9.flatten++c.pins))):=mX (F:=[]) m3
  have nd:=((hp.map (·.1)).nodup_iff).mp F.nodup
  rw [List.map_append,List.nodup_append] at nd
  obtain ⟨s1,val,s2,s3⟩:=F.eG
  exact .inr ⟨f,B,f9,dd,m2,d,od,hk,{fG:=F.fG,dict:=F.dict,eG:=⟨s1,val,s2,s3.down dn hx⟩,top:=F.top,ns:=F.ns,above:=F.above,cell:=λp hm=>F.cell p (aw.mem_iff.mpr (List.mem_append_right _ hm)),rk:=F.rk,fr:=F.fr,nodup:=nd.2.1,off:=λp hm=>F.off p (hp.mem_iff.mpr (List.mem_append_right _ hm)),heap:=m1,bX:=q2}⟩
noncomputable def qm (n:Nat) (v:AV) (o:Option aa) (k:aa→Res AV):Res AV:=match v.closed n,o with
 |true,some H3=>k H3
 |_,_=>.stuck
noncomputable def Cs (lo hi:Nat) (H:aa) (r:Res AV):Res AV:=match r with
 |.ok v H'=>qm H.length v (gQ lo hi H.length 0 H H') (.ok v)
 |.bD x H'=>qm H.length x (gQ lo hi H.length 0 H H') (.bD x)
 |.stuck=>.stuck
set_option tactic.hygienic true in
theorem tm {n:Nat} {v:AV} {o:Option aa} {k:aa→Res AV} {s:Shared} {Q E:VP} (h:ao b c g loc s (qm n v o k) Q E):v.closed n=true∧∃ H3,o=some H3∧ao b c g loc s (k H3) Q E:=by
 unfold qm at h
 split at h
 ·rename_i H3 h1
  exact ⟨h1,H3,rfl,h⟩
 ·exact h.elim
noncomputable def Fn.gc {n:Nat} (lo hi:Nat) (f:Fn b n):Fn b n where
 addr:=f.addr
 run:=λargs H=>Cs lo hi H (f.run args (mask lo hi 0 H))
 ok:=λO c cs N g loc H s Q E args vals G hN R V hp=>by
  refine ai (Dv lo hi R) ?_;intro P R2 k
  have len:H.length=g.ρ.length:=by (refine aJ R ?_;clear R;intro m ag af R);exact R.len
  refine f.ok O (c.pin P) cs N g loc _ s Q E args vals (G.pin P) hN R2 V ?_
  dsimp only at hp
  generalize f.run args (mask lo hi 0 H)=r at hp ⊢
  cases r with
  |stuck=>exact hp
  |ok v H2=>
   obtain ⟨hc,H3,hu,hp⟩:=tm hp
   intro g' val h' t' le R' V'
   exact hp _ val h' t' (ue le) ((k le hu).1 R') (V'.down (zr le) (by rw [← len];exact hc))
  |bD x H2=>
   obtain ⟨hc,H3,hu,hp⟩:=tm hp
   intro g' e h' t' le F
   exact hp _ e h' t' (ue le) ((k le hu).2 hc F)
end
noncomputable def vL (v:AV) (r:Res (av×Loc)):Res (av×Loc):=match v.closed 0 with
 |true=>r
 |false=>.stuck
noncomputable def vM (H:aa) (r:Res (av×Loc)):Res (av×Loc):=match r with
 |.ok (.next,_) _=>.ok (.next,[]) H
 |.ok (.ret v,_) _=>vL v (.ok (.ret v,[]) H)
 |.bD x _=>vL x (.bD x H)
 |.stuck=>.stuck
section
variable {b:Base} {cs:Scope} {n:Nat}
theorem tc {v:AV} {r:Res (av×Loc)} {c:FC} {g:Gh} {s:Shared} {Q:Flow→Shared→Prop} {E:VP} (h:bC b c g s (vL v r) Q E):v.closed 0=true∧bC b c g s r Q E:=by
 unfold vL at h
 split at h
 ·exact ⟨by assumption,h⟩
 ·exact h.elim
theorem GK (O:b.Ok) {tk:Nat} (pad:Nat) (body:bb b cs n tk) {c:FC} {g:Gh} {loc:Loc} {H:aa} {s:Shared} {Q:Flow→Shared→Prop} {E:VP} (G:c.Good b cs n) (hc:c.comp=false) (ht:tk≤s.toks) (hl:∀ k v,loc.lookup k=some v→v.closed 0=true) (R:Rep b c g loc H s.heap)
  (hp:bC b c g s (vM H (body.run loc (List.replicate pad .dead))) Q E):wpAny (model b.prog b.w) c.A (execs body.py c.env) Q E s:=by
 refine aJ R ?_;clear R;intro m ag af R
 have fl:(List.replicate pad ([]:List (Addr×Obj))).flatten=[]:=by simp
 have dn:∀ Eh Eg:Gh,(∀ p∈Eh.bF,p∈Eg.bF)→Down Eh Eg 0:=λEh Eg h=>⟨h,λi a hi _=>absurd hi (Nat.not_lt_zero i)⟩
 have dc:(cells ⟨List.replicate pad 0,g.bF⟩ (List.replicate pad []) af (ag.flatten++c.pins)).Perm (cells g ag af c.pins):=by
  have:=mX (I:=g.bF) (F:=af) (Q:=c.pins) (A:=[]) (P:=ag.flatten) (J:=[]) (C:=ag.flatten) (.refl _)
  unfold cells
  refine sY (fl ..)▸?_
  exact this
 have r1:∀ k,aI fc (List.replicate k 0) (List.replicate k []):=λk=>by
  induction k with
  |zero=>exact .nil
  |succ k ih=>exact .cons (.inl rfl) ih
 have h1:∀ k,aI (aZ b (ak b ⟨List.replicate pad 0,g.bF⟩) (bl b ⟨List.replicate pad 0,g.bF⟩)) (List.replicate k .dead) (List.replicate k []):=λk=>by
  induction k with
  |zero=>exact .nil
  |succ k ih=>exact .cons .dead ih
 have R1:Rep b (c.pin ag.flatten) ⟨List.replicate pad 0,g.bF⟩ loc (List.replicate pad .dead) s.heap:=
  ⟨m,List.replicate pad [],af,{stays:=R.stays,ns:=R.ns,above:=R.above,cell:=λp hm=>R.cell p (dc.mem_iff.mp hm),nodup:=((dc.map (·.1)).nodup_iff).mpr R.nodup,off:=λp hm=>R.off p (dc.mem_iff.mp hm),loc:=λk v e=>(R.loc k v e).imp λval z=>⟨z.1,z.2.down (dn g ⟨List.replicate pad 0,g.bF⟩ λ_ h=>h) (hl k v e)⟩,heap:=h1 pad,bX:=r1 pad,af:=R.af}⟩
 have back:∀ {g2:Gh},(⟨List.replicate pad 0,g.bF⟩:Gh).le g2→g.le ⟨g.ρ,g2.bF⟩:=λle=>⟨⟨[],by simp⟩,le.2⟩
 have rep:∀ {g2:Gh} {cS:Loc} {H2:aa} {h2:Heap},(⟨List.replicate pad 0,g.bF⟩:Gh).le g2→Rep b (c.pin ag.flatten) g2 cS H2 h2→Rep b c ⟨g.ρ,g2.bF⟩ [] H h2:=λ{g2 cS H2 h2} le R2=>by
  refine aJ R2 ?_;clear R2;intro m2 bN dd R2
  have bA:(cells g2 bN dd (ag.flatten++c.pins)).Perm (bN.flatten++cells ⟨g.ρ,g2.bF⟩ ag dd c.pins):=mX (.refl _)
  have nd:=((bA.map (·.1)).nodup_iff).mp R2.nodup
  rw [List.map_append,List.nodup_append] at nd
  exact ⟨m2,ag,dd,{stays:=R2.stays,ns:=R2.ns,above:=R2.above,cell:=λp hm=>R2.cell p (bA.mem_iff.mpr (List.mem_append_right _ hm)),nodup:=nd.2.1,off:=λp hm=>R2.off p (bA.mem_iff.mpr (List.mem_append_right _ hm)),loc:=(λ_ _ e=>nomatch e),heap:=R.heap.imp λ_ _ z=>z.imp (λ_ _=>ak.mono (back le)) λ_ _=>bl.mono (back le),bX:=R.bX,af:=R2.af}⟩
 refine bb.ok O body (c.pin ag.flatten) _ loc _ s Q E (G.pin _) hc ht R1 ?_
 revert hp
 generalize body.run loc (List.replicate pad .dead)=r
 intro hp
 cases r with
 |stuck=>exact hp
 |bD x H2=>
  refine aQ (tc hp) ?_;intro hx hp
  intro g2 e h2 t2 le F
  refine hp _ e h2 t2 (back le) ?_
  obtain q |⟨f,B,bN,dd,m2,d,od,hk,F⟩:=F
  ·exact .inl q
  have bA:(cells g2 bN dd (ag.flatten++c.pins)).Perm (bN.flatten++cells ⟨g.ρ,g2.bF⟩ ag dd c.pins):=mX (.refl _)
  have fF:(g2.bF++(bN.flatten++(ag.flatten++c.pins))).Perm (bN.flatten++(g2.bF++(ag.flatten++c.pins))):=List.perm_append_comm_assoc _ _ _
  have nd:=((bA.map (·.1)).nodup_iff).mp F.nodup
  rw [List.map_append,List.nodup_append] at nd
  obtain ⟨s1,val,s2,s3⟩:=F.eG
  exact .inr ⟨f,B,ag,dd,m2,d,od,hk,{fG:=F.fG,dict:=F.dict,eG:=⟨s1,val,s2,s3.down (dn g2 ⟨g.ρ,g2.bF⟩ λ_ h=>h) hx⟩,top:=F.top,ns:=F.ns,above:=F.above,cell:=λp hm=>F.cell p (fF.mem_iff.mpr (List.mem_append_right _ hm)),rk:=F.rk,fr:=F.fr,nodup:=nd.2.1,off:=λp hm=>F.off p (bA.mem_iff.mpr (List.mem_append_right _ hm)),heap:=R.heap.imp λ_ _ z=>z.imp (λ_ _=>ak.mono (back le)) λ_ _=>bl.mono (back le),bX:=R.bX}⟩
 |ok u H2=>
  obtain ⟨u,l⟩:=u
  cases u with
  |next=>intro g2 h2 t2 le R2;exact hp _ h2 t2 (back le) (rep le R2)
  |ret v=>
   refine aQ (tc hp) ?_;intro hx hp
   intro g2 val h2 t2 le R2 V2
   exact hp _ val h2 t2 (back le) (rep le R2) (V2.down (dn g2 ⟨g.ρ,g2.bF⟩ λ_ h=>h) hx)
theorem rn {k:Nat} {v:AV}:∀ {ps:List Nat} {args:List AV} {acc:Loc},AV.d7 0 args=true→(∀ k v,acc.lookup k=some v→v.closed 0=true)→((ps.zip args).reverse++acc).lookup k=some v→v.closed 0=true
 |[],_,_,_,ha,e=>ha k v e
 |_::_,[],_,_,ha,e=>ha k v e
 |p::ps,a::args,acc,h,ha,e=>by
  have h:=Bool.and_eq_true_iff.mp h
  rw [List.zip_cons_cons,List.reverse_cons,List.append_assoc] at e
  refine rn (acc:=(p,a)::acc) h.2 (λk v e=>?_) e
  by_cases q:k=p
  ·subst q
   rw [List.lookup_cons,beq_self_eq_true] at e
   cases e
   exact h.1
  ·rw [bj q] at e
   exact ha k v e
noncomputable def zb (pad:Nat) (ps:List Nat) (body:Loc→aa→Res (av×Loc)) (args:List AV) (H:aa):Res AV:=match AV.d7 0 args&&Nat.beq args.length ps.length with
 |true=>aF (vM H (body ((ps.zip args).reverse) (List.replicate pad .dead)))
 |false=>.stuck
noncomputable def J0 {cs':Scope} (pad:Nat) (addr:Addr) (ps:List Nat) (body:bb b cs' n 0) (xA:b.Ok→FnAt b addr cs' ps body.py)
  (hk:cs'.kind=.function) (xt:cs'.isCoroutine=false) (rN:cs'.isGenerator=false) (rM:(ps.all λp=>cs'.names.lookup (b.nm p)==some .local||cs'.names.lookup (b.nm p)==some .cell)=true):Fn b n where
 addr:=addr
 run:=zb pad ps body.run
 ok:=λO c cs N g loc H s Q E args vals G hN R V hp=>by
  refine Ab (xA O) ?_;intro oc od kG fd f1 f2 f3 f4 f5 f6 f8 f7
  unfold zb at hp
  split at hp
  ·rename_i hlen
   have hlen:=Bool.and_eq_true_iff.mp hlen
   have hv:vals.length=ps.length:=by rw [← V.length];exact Nat.eq_of_beq_eq_true hlen.2
   refine aJ (id R) ?_;intro m ag af R'
   have X:=O.X.keeps R'.stays
   subst f3
   have px:((((ps.map b.nm).zip vals)).all λy=>fd.scope.names.lookup y.1==some .local||fd.scope.names.lookup y.1==some .cell)=true:=by
    refine List.all_eq_true.mpr λx hx=>?_
    refine aQ (List.of_mem_zip hx) ?_;intro y hy
    refine ai (List.mem_map.mp y) ?_;intro p hp e
    refine (e ..)▸?_
    exact List.all_eq_true.mp rM p hp
   refine codeAny_call_cells (fd:=fd) (body:=body.py) (binds:=(ps.map b.nm).zip vals) (by have:=G.depth;exact AD this) (X _ _ f1) rfl (O.lim.keeps R'.stays) (codeRec_of X f6) f2 (f7 vals hv) f8 (kindsX px _) (λaO I=>?_) xt rN hk
   obtain ⟨⟨h₁,t₁,rfl⟩,hn,iJ,_⟩:=I.toInCall
   have kg:=vi (b:=b) (g:=g) (kind:=(callEnvC fd s.heap.objs.size addr).kindOf) (mL:=λ_=>none) (mC:=λ_=>none) (acc:=[]) O.inj (p6 (ps:=ps) V) (λx hx=>by
    have:=List.all_eq_true.mp px x hx
    rcases Bool.or_eq_true_iff.mp this with q |q
    ·exact .inl (show fd.scope.names.lookup x.1=_ by simpa using q)
    ·exact .inr (show fd.scope.names.lookup x.1=_ by simpa using q)) (λ_ _ e=>nomatch e)
   have jC:∀ k v,((ps.zip args).reverse++[]).lookup k=some v→v.closed 0=true:=λk v e=>rn (acc:=[]) hlen.1 (λ_ _ e=>nomatch e) e
   have hs:∀ k,(callEnvC fd s.heap.objs.size addr).kindOf (b.nm k)=some .cell→∃ a,(callEnvC fd s.heap.objs.size addr).cells.lookup (b.nm k)=some a:=λk q=>Option.isSome_iff_exists.mp (cellsFrom_some fd.scope.names (s.heap.objs.size+1) [] (x:=b.nm k) (.inl q))
   rw [List.append_nil] at kg jC
   exact xH ((callEnvC fd s.heap.objs.size addr).cells.filter λp=>(callEnvC fd s.heap.objs.size addr).cells.lookup p.1==some p.2) (λA Q E=>wpAny (model b.prog b.w) A (execs body.py (callEnvC fd s.heap.objs.size addr)) Q E {s with heap:=h₁,toks:=t₁}) (vM H (body.run ((ps.zip args).reverse) (List.replicate pad .dead))) G hN R rfl rfl rfl f4 f5 hk hn iJ (Nat.zero_le _)
    (λn a hm=>I.cell n a (by simpa using (List.mem_filter.mp hm).2)) (I.apart.filter _) (λn a hm=>I.above n a (List.mem_filter.mp hm).1) (λk q=>let ⟨a,ha⟩:=hs k q;⟨a,ha,List.mem_filter.mpr ⟨mem_lookup ha,by simpa using ha⟩⟩) kg
    (λc' g' Q E G' xy he hA R' _ aw=>by
     have:=GK O pad body (s:={s with heap:=h₁,toks:=t₁}) G' xy (Nat.zero_le _) jC R' aw
     rw [he] at this
     exact this) hp
  ·exact hp.elim
end
theorem wN {hi:Nat}:∀ {H:aa} {i:Nat},i+H.length≤hi→mask 0 hi i H=H
 |[],_,_=>rfl
 |o::H,i,h=>by
  have h:i+(H.length+1)≤hi:=h
  have e:Nat.blt i hi=true:=Nat.ble_eq_true_of_le (Nat.lt_of_le_of_lt (Nat.le_add_right _ _) h)
  unfold mask
  rw [wN (Nat.le_trans (Nat.le_of_eq (Nat.add_right_comm _ _ _)) h),e]
  cases q:Nat.ble 0 i with
  |true=>rfl
  |false=>exact absurd (Nat.ble_eq_true_of_le (Nat.zero_le i)) (by rw [q];decide)
theorem sd {hi n:Nat} {J:aa}:∀ {H H':aa} {i:Nat},i+H.length≤hi→H'.length=H.length→(∀ o∈H',o.closed n=true)→gQ 0 hi n i H (H'++J)=some H'
 |[],[],_,_,_,_=>rfl
 |[],_::_,_,_,e,_=>nomatch e
 |_::_,[],_,_,e,_=>nomatch e
 |o::H,o'::H',i,h,e,hc=>by
  have h:i+(H.length+1)≤hi:=h
  have e1:Nat.blt i hi=true:=Nat.ble_eq_true_of_le (Nat.lt_of_le_of_lt (Nat.le_add_right _ _) h)
  have e2:Nat.ble 0 i=true:=Nat.ble_eq_true_of_le (Nat.zero_le i)
  show ((vJ (Nat.ble 0 i&&Nat.blt i hi) n o o').bind λx=>(gQ 0 hi n (i+1) H (H'++J)).map (x::·))=_
  rewrite [sd (Nat.le_trans (Nat.le_of_eq (Nat.add_right_comm _ _ _)) h) (Nat.succ.inj e) λo h=>hc o (.tail _ h)];refine sY (e1 ..)▸?_;refine sY (e2 ..)▸?_
  show ((match o'.closed n with |true=>some o' |false=>none).bind λx=>some (x::H'))=_
  refine sY (hc o' (.head _) ..)▸?_
  rfl
section
variable {b:Base} {c:FC} {g:Gh} {loc:Loc} {H:aa} {h:Heap}
theorem vu {fs:List (Nat×AV)} {es:List DictEntry} (k:aI (cJ b.nm (ak b g)) fs es):(fs.all λf=>f.2.closed g.ρ.length)=true:=by
 induction k with
 |nil=>rfl
 |cons h _ ih=>rw [List.all_cons,ih,h.2.isClosed];rfl
theorem aZ.isClosed {o:aK} {ch:List (Addr×Obj)} (k:aZ b (ak b g) (bl b g) o ch):o.closed g.ρ.length=true:=
 aZ.casesOn (motive:=λo _ _=>o.closed g.ρ.length=true) k (λk=>vu k) (λk=>(aX.of k).isClosed) (λ_ k=>k.isClosed) (λ_ _=>rfl) rfl
theorem sA (R:Rep b c g loc H h):∀ o∈H,o.closed H.length=true:=by
 refine aJ R ?_;clear R;intro m ag af R
 refine sY (R.len ..)▸?_
 intro o ho
 refine bg (List.getElem?_of_mem ho) ?_;intro i hi
 refine ai (R.heap.get hi) ?_;intro ch _ k
 exact k.isClosed
theorem aI.Dh {α β:Type} {R:α→β→Prop} {l:List α} {m:List β} (h:aI R l m) {i:Nat} {x y:α} (e:l[i]?=some x) (k:∀ b,m[i]?=some b→R x b→R y b):aI R (l.set i y) m:=by
 induction h generalizing i with
 |nil=>exact .nil
 |cons h t ih=>
  cases i with
  |zero=>simp at e;subst e;exact .cons (k _ rfl h) t
  |succ i=>exact .cons h (ih (by simpa using e) λb hb=>k b (by simpa using hb))
theorem Bt (R:Rep b c g loc H h) {i:Nat} {o:aK} (e:H[i]?=some o):∃ ch,aZ b (ak b g) (bl b g) o ch∧∀ o',aZ b (ak b g) (bl b g) o' ch→Rep b c g loc (H.set i o') h:=by
 refine aJ R ?_;clear R;intro m ag af R
 refine ai (R.heap.get e) ?_;intro ch h1 k
 refine ⟨ch,k,λo' k'=>⟨m,ag,af,{R with heap:=R.heap.Dh e λb hb _=>?_}⟩⟩
 cases h1.symm.trans hb
 exact k'
structure AL {n:Nat} (f:Fn b n) (C x y:Nat):Prop where
 step:∀ {l:List Nat} {i:Int} {t:AV} {r:List AV} {H:aa} {a:Nat},b.bH x y l i (t::r)→H[a]?=some (.inst C [(x,.str l),(y,.int i)])→∃ j J,f.run [.ref a] H=.ok t (H.set a (.inst C [(x,.str l),(y,.int j)])++J)∧b.bH x y l j r∧∀ k,t.closed k=true
 init:∀ {l:List Nat} {ts:List AV},b.lx l ts→b.bH x y l 0 ts
 only:∀ {x' y':Nat} {l:List Nat} {i:Int} {ts:List AV},b.bH x' y' l i ts→x'=x∧y'=y
noncomputable def xq:List AV→Option (AV×List AV)
 |t::r=>some (t,r)
 |[]=>none
noncomputable def tV (u v:AV):Option (List AV):=match u with
 |.txt ts=>match v with
  |.int i=>match i with
   |.ofNat k=>match k with
    |0=>some ts
    |_=>none
   |_=>none
  |_=>none
 |_=>none
noncomputable def tW (x y:Nat):List (Nat×AV)→Option (List AV)
 |[p,q]=>match Nat.beq p.1 x&&Nat.beq q.1 y with
  |true=>tV p.2 q.2
  |false=>none
 |_=>none
noncomputable def y8 (C x y:Nat) (o:aK):Option (AV×List AV):=match o with
 |.scan D ts=>match Nat.beq C D with
  |true=>xq ts
  |false=>none
 |.inst D fs=>match Nat.beq C D with
  |true=>(tW x y fs).bind xq
  |false=>none
 |_=>none
theorem Ci {l:List AV} {t:AV} {r:List AV}:xq l=some (t,r)→l=t::r:=by
 cases l with
 |nil=>exact nofun
 |cons=>exact λh=>by cases h;rfl
theorem yc {u v:AV} {ts:List AV}:tV u v=some ts→u=.txt ts∧v=.int 0:=by
 cases u with
 |txt Ky=>
  cases v with
  |int i=>
   cases i with
   |ofNat k=>
    cases k with
    |zero=>exact λh=>by cases h;exact ⟨rfl,rfl⟩
    |succ=>exact nofun
   |negSucc=>exact nofun
  |_=>exact nofun
 |_=>exact nofun
theorem A6 {x y:Nat} {fs:List (Nat×AV)} {ts:List AV}:tW x y fs=some ts→fs=[(x,.txt ts),(y,.int 0)]:=by
 match fs with
 |[]=>exact nofun
 |[_]=>exact nofun
 |_::_::_::_=>exact nofun
 |[(x',u),(y',v)]=>
  show (match Nat.beq x' x&&Nat.beq y' y with |true=>tV u v |false=>none)=_→_
  cases q:Nat.beq x' x&&Nat.beq y' y with
  |false=>exact nofun
  |true=>
   intro h
   refine aQ (yc h) ?_;rintro rfl rfl
   refine sY (Nat.eq_of_beq_eq_true (Bool.and_eq_true_iff.mp q).1 ..)▸?_;refine sY (Nat.eq_of_beq_eq_true (Bool.and_eq_true_iff.mp q).2 ..)▸?_;rfl
theorem GB {C x y:Nat} {o:aK} {t:AV} {r:List AV}:y8 C x y o=some (t,r)→o=.scan C (t::r)∨o=.inst C [(x,.txt (t::r)),(y,.int 0)]:=by
 cases o with
 |scan D ts=>
  show (match Nat.beq C D with |true=>xq ts |false=>none)=_→_
  cases q:Nat.beq C D with
  |false=>exact nofun
  |true=>intro h;rw [Ci h,Nat.eq_of_beq_eq_true q];exact .inl rfl
 |inst D fs=>
  show (match Nat.beq C D with |true=>(tW x y fs).bind xq |false=>none)=_→_
  cases q:Nat.beq C D with
  |false=>exact nofun
  |true=>
   intro h
   refine ai (Option.bind_eq_some_iff.mp h) ?_;intro ts h1 h2
   refine sY (A6 h1 ..)▸?_;refine sY (Ci h2 ..)▸?_;refine sY (Nat.eq_of_beq_eq_true q ..)▸?_
   exact .inr rfl
 |_=>exact nofun
noncomputable def Ii (C x y:Nat) (args:List AV) (H:aa):Res AV:=lu (λv=>match v with
 |.ref a=>bV (λp=>.ok p.1 (H.set a (.scan C p.2))) (H[a]?.bind (y8 C x y))
 |_=>.stuck) args
theorem BM (O:b.Ok) {n:Nat} {f:Fn b n} {C x y:Nat} (L:AL f C x y) {cs:Scope} {N:Nat} {s:Shared} {Q E:VP} {a:Nat} {vals:List Value} (G:c.Good b cs N) (hN:n < N) (R:Rep b c g loc H s.heap) (V:aX b g [.ref a] vals)
  {l:List Nat} {i:Int} {t:AV} {r:List AV} (ha:a < H.length) (hs:b.bH x y l i (t::r)) (R1:Rep b c g loc (H.set a (.inst C [(x,.str l),(y,.int i)])) s.heap) (hp:ao b c g loc s (.ok t (H.set a (.scan C r))) Q E) :
  codeAny (model b.prog b.w) c.A (.call (.ref f.addr) ⟨vals,[]⟩) (λr s'=>match r with |.ok (.ret v)=>Q v s' |.ok _=>False |.error e=>E e s') s:=by
 have e1:(H.set a (.inst C [(x,.str l),(y,.int i)]))[a]?=some (.inst C [(x,.str l),(y,.int i)]):=by simp [ha]
 refine bk (L.step hs e1) ?_;intro j J k1 k2 k3
 have hc:=sA R1
 rw [List.length_set] at hc
 refine (f.gc 0 H.length).ok O c cs N g loc _ s Q E _ vals G hN R1 V ?_
 show ao b c g loc s (Cs 0 H.length _ (f.run [.ref a] (mask 0 H.length 0 _))) Q E
 rewrite [wN (by simp)];refine sY (k1 ..)▸?_;rewrite [List.set_set]
 show ao b c g loc s (qm _ t (gQ 0 H.length _ 0 _ (H.set a (.inst C [(x,.str l),(y,.int j)])++J)) (.ok t)) Q E
 refine sY (List.length_set ..)▸?_;rewrite [sd (by simp) (by simp) (λo ho=>?_)]
 ·unfold qm
  refine sY (show t.closed H.length=true from k3 _ ..)▸?_
  intro g' val h' t' le R' V'
  refine hp g' val h' t' le ?_ V'
  refine ai (Bt R' (i:=a) (o:=.inst C [(x,.str l),(y,.int j)]) (by simp [ha])) ?_;intro ch q1 q2
  refine Ac q1.inv ?_;rintro _ _ _ _ rfl q3
  have:=q2 (.scan C r) (.scan k2 q3)
  rwa [List.set_set] at this
 ·rcases List.mem_or_eq_of_mem_set ho with ho |rfl
  ·exact sA R o ho
  ·rfl
noncomputable def Fn.J2 {n:Nat} (f:Fn b n) (C x y:Nat) (L:AL f C x y):Fn b n where
 addr:=f.addr
 run:=Ii C x y
 ok:=λO c cs N g loc H s Q E args vals G hN R V hp=>by
  refine dw (P:=(ao b c g loc s · Q E)) (C:=λvals=>codeAny (model b.prog b.w) c.A (.call (.ref f.addr) ⟨vals,[]⟩) (λr s'=>match r with |.ok (.ret v)=>Q v s' |.ok _=>False |.error e=>E e s') s) id V hp λv x' V1 hp=>?_
  cases v with
  |ref a=>
   refine ai (cW (P:=(ao b c g loc s · Q E)) id hp) ?_;rintro ⟨t,r⟩ hn hq
   refine ai (Option.bind_eq_some_iff.mp hn) ?_;intro o e hn
   refine ai (Bt R e) ?_;intro ch q1 q2
   rcases GB hn with rfl |rfl
   ·obtain ⟨ad,d,es,k,rfl,x',y',l,i,z1,z2⟩:=q1.inv
    refine aQ (L.only z1) ?_;rintro rfl rfl
    exact BM O L G hN R (.cons V1 .nil) (List.getElem?_eq_some_iff.mp e).1 z1 (q2 _ (.inst z2)) hq
   ·refine Ac q1.inv ?_;rintro ad d es k rfl z2
    refine bk (pX z2) ?_;rintro e1 Px rfl ⟨w3,w4⟩ w2
    refine fk (ak.inv w4) ?_;intro l tk w6 hl
    exact BM O L G hN R (.cons V1 .nil) (List.getElem?_eq_some_iff.mp e).1 (L.init hl) (q2 _ (.inst (.cons ⟨w3,by rw [w6];exact .str l tk⟩ w2))) hq
  |_=>exact hp.elim
end
noncomputable def sL:List Str:=[.ofString "what",.ofString "spot",.ofString "self",.ofString "text",.ofString "vars",.ofString "tolds",.ofString "goal",.ofString "shown",.ofString "name",.ofString "domain",.ofString "told",.ofString "x",.ofString "thing",.ofString "one",.ofString "many",.ofString "kind",.ofString "row",.ofString "form",.ofString "place",.ofString "other",.ofString "low",.ofString "high",.ofString "piece",.ofString "waiting",.ofString "pieces",.ofString "fault",.ofString "sign",.ofString "number",.ofString "is_call",.ofString "some",.ofString "rest",.ofString "data",.ofString "is_done",.ofString "ranges",.ofString "rows",.ofString "flat",.ofString "goal_var",.ofString "run_of",.ofString "end",.ofString "begin",.ofString "signs",.ofString "is_below",.ofString "digits",.ofString "skip",.ofString "quotation",.ofString "scanner",.ofString "ahead",.ofString "token",.ofString "is_sign",.ofString "take",.ofString "stack",.ofString "word_value",.ofString "closed",.ofString "want",.ofString "opened",.ofString "is_whole",.ofString "value",.ofString "spots",.ofString "goal_spot",.ofString "shown_spot",.ofString "last",.ofString "stretch",.ofString "found",.ofString "new_var",.ofString "post",.ofString "head",.ofString "variable",.ofString "constraint",.ofString "output",.ofString "item",.ofString "size",.ofString "look",.ofString "domain_of",.ofString "model",.ofString "k",.ofString "feed",.ofString "wide",.ofString "written",.ofString "lap",.ofString "seam",.ofString "way",.ofString "lot",.ofString "first",.ofString "script"]
noncomputable def yS:List Str→Nat→Nat→Str
 |[],_,o=>⟨#[1114112+o]⟩
 |s::_,0,_=>s
 |_::r,k+1,o=>yS r k o
noncomputable def o9 (k:Nat):Str:=yS sL k k
noncomputable def uu:AV:=.tup [.str [115,97,116,105,115,102,121],.str [109,105,110,105,109,105,122,101],.str [109,97,120,105,109,105,122,101]]
noncomputable def rW:AV:=.tup [.str [108,105,110,101,97,114,95,108,101],.str [108,105,110,101,97,114,95,101,113],.str [108,105,110,101,97,114,95,110,101]]
noncomputable def l6:AV:=.tup [.str [98,111,117,110,100,115],.str [118,97,108,117,101,115]]
noncomputable def eK:AV:=.str [48,49,50,51,52,53,54,55,56,57]
noncomputable def eC:AV:=.str [97,98,99,100,101,102,103,104,105,106,107,108,109,110,111,112,113,114,115,116,117,118,119,120,121,122,65,66,67,68,69,70,71,72,73,74,75,76,77,78,79,80,81,82,83,84,85,86,87,88,89,90,95]
noncomputable def mF:AV:=.str [40,41,91,93,123,125,44,59,58]
noncomputable def dR:AV:=.int 1000
noncomputable def qo:AV:=.eY [([108,105,110,101,97,114,95,108,101],.str [78,88,110]),([108,105,110,101,97,114,95,101,113],.str [78,88,110]),([108,105,110,101,97,114,95,110,101],.str [78,88,110]),([116,105,109,101,115],.str [120,120,120]),([100,105,118],.str [120,120,120]),([109,111,100],.str [120,120,120]),([97,98,115],.str [120,120]),([109,97,120],.str [88,120]),([109,105,110],.str [88,120]),([101,108,101,109,101,110,116],.str [120,88,120]),([101,108,101,109,101,110,116,95,111,102],.str [120,78,120]),([116,97,98,108,101],.str [88,82]),([97,108,108,95,100,105,102,102,101,114,101,110,116],.str [88,115]),([99,111,117,110,116],.str [88,110,120]),([110,118,97,108,117,101],.str [88,120]),([99,97,114,100,105,110,97,108,105,116,121],.str [88,78,78,78]),([99,117,109,117,108,97,116,105,118,101],.str [88,78,78,110]),([100,105,115,106,117,110,99,116,105,118,101],.str [88,78]),([99,105,114,99,117,105,116],.str [88]),([105,110,118,101,114,115,101],.str [88,88]),([114,101,103,117,108,97,114],.str [88,110,110,82,110,78]),([108,101,120,95,108,101],.str [88,88]),([108,101,120,95,108,116],.str [88,88]),([105,110,99,114,101,97,115,105,110,103],.str [88]),([112,114,101,99,101,100,101],.str [110,110,88]),([99,108,97,117,115,101],.str [88,88]),([97,110,100],.str [88,120]),([111,114],.str [88,120]),([120,111,114],.str [120,120,120]),([114,101,105,102],.str [120,116]),([105,109,112],.str [120,116])]
noncomputable def ur:AV:=.eY [([108,105,110,101,97,114,95,108,101],.tup [.tup [.int 1,.int 2]]),([108,105,110,101,97,114,95,101,113],.tup [.tup [.int 1,.int 2]]),([108,105,110,101,97,114,95,110,101],.tup [.tup [.int 1,.int 2]]),([99,97,114,100,105,110,97,108,105,116,121],.tup [.tup [.int 2,.int 3],.tup [.int 2,.int 4]]),([99,117,109,117,108,97,116,105,118,101],.tup [.tup [.int 1,.int 2],.tup [.int 1,.int 3]]),([100,105,115,106,117,110,99,116,105,118,101],.tup [.tup [.int 1,.int 2]]),([105,110,118,101,114,115,101],.tup [.tup [.int 1,.int 2]])]
noncomputable def bq:AV:=.fl [.str [118,97,114,32,123,50,46,46,53,44,32,64,48,46,46,48,125,58,32,122,59],.str [118,97,114,32,123,48,46,46,51,44,32,64,50,46,46,53,125,58,32,122,59],.str [118,97,114,32,123,48,46,46,49,44,32,64,50,46,46,51,125,58,32,122,59],.str [118,97,114,32,123,48,46,46,49,44,32,64,49,46,46,49,125,58,32,122,59],.str [118,97,114,32,64,51,46,46,49,58,32,122,59],.str [118,97,114,32,123,64,53,46,46,49,125,58,32,122,59],.str [118,97,114,32,123,48,46,46,48,32,64,50,46,46,53,125,58,32,122,59],.str [118,97,114,32,123,48,46,46,48,44,32,64,125,58,32,122,59],.str [118,97,114,32,48,46,46,49,58,32,64,53,59],.str [118,97,114,32,48,46,46,49,32,64,122,59],.str [118,97,114,32,48,46,46,64,58,32,122,59],.str [118,97,114,32,64,122,46,46,49,58,32,122,59],.str [118,97,114,32,48,46,46,49,58,32,122,32,64,121,59],.str [118,97,114,32,48,64,44,32,49,58,32,122,59],.str [118,97,114,32,48,46,46,49,58,32,64,91,93,59]]
noncomputable def bh:AV:=.fl [.str [64,102,111,111,59],.str [64,53,59],.str [64,86,97,114,32,48,46,46,49,58,32,122,59],.str [64,34,118,97,114,34,32,48,46,46,49,58,32,122,59],.str [64,91,93,32,59],.str [64,59],.str [64,110,111,110,101,59],.str [64,59,59]]
noncomputable def aT:AV:=.fl [.str [99,111,110,115,116,114,97,105,110,116,32,64,108,105,110,101,97,114,95,108,101,40,91,116,114,117,101,93,44,32,91,48,93,44,32,49,41,59],.str [99,111,110,115,116,114,97,105,110,116,32,64,108,105,110,101,97,114,95,108,101,40,91,49,93,44,32,91,77,93,44,32,49,41,59],.str [99,111,110,115,116,114,97,105,110,116,32,64,108,105,110,101,97,114,95,108,101,40,91,49,93,44,32,91,45,49,93,44,32,49,41,59],.str [99,111,110,115,116,114,97,105,110,116,32,64,108,105,110,101,97,114,95,108,101,40,91,49,44,32,49,93,44,32,91,48,93,44,32,49,41,59],.str [99,111,110,115,116,114,97,105,110,116,32,64,108,105,110,101,97,114,95,108,101,40,91,49,93,44,32,91,48,93,44,32,110,111,110,101,41,59],.str [99,111,110,115,116,114,97,105,110,116,32,64,116,97,98,108,101,40,91,48,93,44,32,91,91,102,97,108,115,101,93,93,41,59],.str [99,111,110,115,116,114,97,105,110,116,32,64,116,97,98,108,101,40,91,48,93,44,32,91,91,49,44,32,50,93,93,41,59],.str [99,111,110,115,116,114,97,105,110,116,32,64,102,111,111,40,49,41,59],.str [99,111,110,115,116,114,97,105,110,116,32,64,59],.str [99,111,110,115,116,114,97,105,110,116,32,64,109,97,120,40,91,93,44,32,48,41,59],.str [99,111,110,115,116,114,97,105,110,116,32,64,99,108,97,117,115,101,40,91,48,93,44,32,91,93,41,59],.str [99,111,110,115,116,114,97,105,110,116,32,64,116,105,109,101,115,40,48,44,32,48,41,59],.str [99,111,110,115,116,114,97,105,110,116,32,64,51,59],.str [99,111,110,115,116,114,97,105,110,116,32,64,114,101,105,102,40,48,44,32,53,41,59],.str [99,111,110,115,116,114,97,105,110,116,32,64,97,108,108,95,100,105,102,102,101,114,101,110,116,40,91,48,93,44,32,34,119,101,108,108,34,41,59],.str [99,111,110,115,116,114,97,105,110,116,32,64,91,93,59],.str [99,111,110,115,116,114,97,105,110,116,32,99,105,114,99,117,105,116,40,91,48,93,64,59],.str [99,111,110,115,116,114,97,105,110,116,32,64,99,105,114,99,117,105,116,40,41,59]]
noncomputable def aU:AV:=.fl [.str [115,111,108,118,101,32,64,109,105,110,105,109,105,122,101,32,77,59],.str [115,111,108,118,101,32,64,109,97,120,105,109,105,122,101,32,77,59],.str [115,111,108,118,101,32,64,109,105,110,105,109,105,122,101,32,45,49,59],.str [115,111,108,118,101,32,64,34,115,97,116,105,115,102,121,34,59],.str [115,111,108,118,101,32,109,105,110,105,109,105,122,101,32,64,120,59],.str [115,111,108,118,101,32,64,108,101,97,115,116,32,48,59],.str [115,111,108,118,101,32,115,97,116,105,115,102,121,32,64,48,59],.str [115,111,108,118,101,32,109,105,110,105,109,105,122,101,32,64,59],.str [115,111,108,118,101,32,64,59],.str [115,111,108,118,101,32,109,97,120,105,109,105,122,101,32,64,116,114,117,101,59],.str [115,111,108,118,101,32,64,48,59]]
noncomputable def aW:AV:=.fl [.str [111,117,116,112,117,116,32,64,51,59],.str [111,117,116,112,117,116,32,64,91,51,93,59],.str [111,117,116,112,117,116,32,64,91,110,111,115,117,99,104,40,49,41,93,59],.str [111,117,116,112,117,116,32,64,91,116,101,120,116,40,51,41,93,59],.str [111,117,116,112,117,116,32,64,91,105,110,116,40,48,44,32,49,41,93,59],.str [111,117,116,112,117,116,32,64,91,108,105,115,116,40,51,41,93,59],.str [111,117,116,112,117,116,32,64,91,105,110,116,40,77,41,93,59],.str [111,117,116,112,117,116,32,64,91,98,111,111,108,40,77,41,93,59],.str [111,117,116,112,117,116,32,64,91,108,105,115,116,40,91,98,111,111,108,40,77,41,93,41,93,59],.str [111,117,116,112,117,116,32,64,91,105,102,40,77,44,32,91,93,44,32,91,93,41,93,59],.str [111,117,116,112,117,116,32,64,91,105,102,40,48,44,32,91,105,110,116,40,77,41,93,44,32,91,93,41,93,59],.str [111,117,116,112,117,116,32,64,91,105,102,40,48,44,32,91,93,44,32,91,98,111,111,108,40,77,41,93,41,93,59],.str [111,117,116,112,117,116,32,64,91,105,102,40,48,44,32,91,116,101,120,116,40,34,121,34,41,44,32,105,110,116,40,77,41,93,44,32,91,93,41,93,59],.str [111,117,116,112,117,116,32,64,91,116,101,120,116,40,34,121,34,44,32,34,122,34,41,93,59],.str [111,117,116,112,117,116,32,64,91,105,102,40,48,44,32,91,93,41,93,59],.str [111,117,116,112,117,116,32,64,91,105,102,40,48,44,32,91,93,44,32,51,41,93,59],.str [111,117,116,112,117,116,32,64,91,91,93,93,59],.str [111,117,116,112,117,116,32,64,91,105,110,116,40,116,114,117,101,41,93,59],.str [111,117,116,112,117,116,32,64,91,105,110,116,40,45,49,41,93,59],.str [111,117,116,112,117,116,32,64,110,111,110,101,59],.str [111,117,116,112,117,116,32,64,116,101,120,116,40,34,121,34,41,59],.str [111,117,116,112,117,116,32,64,59]]
noncomputable def aM (i:Nat) (j:Option Nat):List Stmt:=match PySem.Challenge.pw_pc0056_01.main.body[i]?,j with
 |some (.FunctionDef _ _ body _ _ _ _ _ _ _),none=>body
 |some (.ClassDef _ _ _ body _ _ _ _ _ _ _),some j=>match body[j]? with
  |some (.FunctionDef _ _ body _ _ _ _ _ _ _)=>body
  |_=>[]
 |_,_=>[]
noncomputable abbrev fS (l:List (Str×NameKind)) (m:List (Str×Const):=[]):Scope:=⟨.function,l,false,false,m⟩
noncomputable abbrev fA (s:Str):Str×Const:=("fast",.str s)
noncomputable abbrev gI:NameKind:=.globalImplicit
noncomputable def o4:Scope:=fS [("self",.local)]
noncomputable def ll:Scope:=fS [("self",.local),("name",.local),("domain",.local),("len",gI)]
noncomputable def oZ:Scope:=fS [("self",.local),("told",.local)]
noncomputable def oY:Scope:=fS [("self",.local),("len",gI)]
noncomputable def jV:Scope:=fS [("self",.local),("x",.local)]
noncomputable def oV:Scope:=fS [("thing",.local),("isinstance",gI),("int",gI),("bool",gI)]
noncomputable def iq:Scope:=fS [("thing",.local),("isinstance",gI),("tuple",gI),("all",gI)] [fA "thing",fA "one"]
noncomputable def uG:Scope:=fS [("thing",.local),("many",.local),("is_number",gI)]
noncomputable def yK:Scope:=fS [("kind",.local),("thing",.local),("many",.cell),("is_var",gI),("isinstance",gI),("tuple",gI),("all",gI),("is_number",gI),("is_row_of_numbers",gI),("str",gI),("STRENGTHS",gI),("len",gI),("LINEAR",gI),("told_fault",gI)] [fA "kind",fA "thing",fA "many",fA "one",fA "row"]
noncomputable def nG:Scope:=fS [("told",.cell),("many",.local),("name",.local),("form",.local),("place",.local),("kind",.local),("one",.local),("other",.local),("isinstance",gI),("tuple",gI),("len",gI),("str",gI),("FORMS",gI),("enumerate",gI),("fits",gI),("PAIRS",gI),("min",gI),("all",gI),("machine_fault",gI)] [fA "told",fA "many",fA "name",fA "form",fA "place",fA "kind",fA "one",fA "other",fA "row"]
noncomputable def oM:Scope:=fS [("told",.local),("name",.local)]
noncomputable def q9:Scope:=fS [("domain",.local),("all",gI)] [fA "domain",fA "low",fA "high"]
noncomputable def md:Scope:=fS [("piece",.local),("many",.local),("waiting",.local),("isinstance",gI),("tuple",gI),("len",gI),("str",gI),("is_var",gI)]
noncomputable def mc:Scope:=fS [("shown",.local),("many",.local),("waiting",.local),("pieces",.local),("piece",.local),("fault",.local),("len",gI),("isinstance",gI),("tuple",gI),("piece_fault",gI)]
noncomputable def sr:Scope:=fS [("text",.local),("LETTERS",gI),("all",gI)] [fA "text",fA "sign"]
noncomputable def oO:Scope:=fS [("text",.local)]
noncomputable def ml:Scope:=fS [("number",.local),("abs",gI),("MOST_DIGITS",gI),("FdError",gI),("str",gI)]
noncomputable def oK:Scope:=fS [("thing",.local),("isinstance",gI),("bool",gI),("int",gI),("digits_text",gI),("str",gI),("quoted",gI),("FdError",gI)]
noncomputable def nH:Scope:=fS [("some",.local),("waiting",.local),("is_call",.local),("rest",.local),("place",.local),("len",gI),("isinstance",gI),("str",gI),("is_word",gI),("range",gI)]
noncomputable def oX:Scope:=fS [("data",.local),("pieces",.local),("waiting",.local),("is_done",.local),("thing",.local),("len",gI),("isinstance",gI),("tuple",gI),("open_tuple",gI),("word_text",gI)]
noncomputable def mj:Scope:=fS [("domain",.local),("ranges",.local),("len",gI)] [fA "domain",fA "low",fA "high",fA "ranges"]
noncomputable def oW:Scope:=fS [("flat",.local),("rows",.local),("name",.local),("domain",.local),("told",.local),("kind",.local),("goal_var",.local),("domain_text",gI),("is_word",gI),("quoted",gI),("data_text",gI)]
noncomputable def fX:Scope:=fS [("self",.local),("text",.local)]
noncomputable def fW:Scope:=fS [("self",.local)]
noncomputable def fV:Scope:=fS [("self",.local),("end",.local),("len",gI)]
noncomputable def eT:Scope:=fS [("self",.local),("signs",.local),("begin",.local),("spot",.local),("len",gI)]
noncomputable def eb:Scope:=fS [("self",.local),("begin",.local),("pieces",.local),("sign",.local),("TextFault",gI)]
noncomputable def eU:Scope:=fS [("self",.local),("begin",.local),("is_below",.local),("digits",.local),("DIGITS",gI),("len",gI),("MOST_DIGITS",gI),("TextFault",gI),("int",gI)]
noncomputable def fg:Scope:=fS [("self",.local),("begin",.local),("sign",.local),("DIGITS",gI),("LETTERS",gI),("SIGNS",gI),("TextFault",gI)]
noncomputable def jy:Scope:=fS [("self",.local),("text",.local),("FlatScanner",gI)]
noncomputable def jx:Scope:=fS [("self",.local),("token",.local)]
noncomputable def ib:Scope:=fS [("self",.local),("sign",.local)]
noncomputable def jw:Scope:=fS [("self",.local),("sign",.local),("TextFault",gI)]
noncomputable def ix:Scope:=fS [("self",.local),("TextFault",gI)]
noncomputable def gv:Scope:=fS [("self",.local),("token",.local),("TextFault",gI)]
noncomputable def iw:Scope:=fS [("self",.local),("stack",.local),("token",.local)]
noncomputable def iy:Scope:=fS [("self",.local),("stack",.local),("some",.local),("end",.local),("tuple",gI)]
noncomputable def jz:Scope:=fS [("self",.local),("stack",.local),("is_whole",.local),("value",.local),("len",gI)]
noncomputable def gr:Scope:=fS [("self",.local),("text",.local),("__class__",.free),("super",gI),("Flat",gI)]
noncomputable def ia:Scope:=fS [("self",.local),("last",.local),("spot",.local),("low",.local),("high",.local),("TextFault",gI)]
noncomputable def iv:Scope:=fS [("self",.local),("found",.local),("len",gI),("tuple",gI)]
noncomputable def gS:Scope:=fS [("self",.local),("domain",.local),("TextFault",gI)]
noncomputable def gu:Scope:=fS [("self",.local)]
noncomputable def jv:Scope:=fS [("self",.local),("spot",.local),("kind",.local),("TextFault",gI),("GOALS",gI)]
noncomputable def iu:Scope:=fS [("self",.local),("spot",.local),("TextFault",gI)]
noncomputable def ju:Scope:=fS [("self",.local),("head",.local),("TextFault",gI)]
noncomputable def jt:Scope:=fS [("self",.local),("fault",.local),("spot",.local),("TextFault",gI)]
noncomputable def iZ:Scope:=fS [("self",.cell),("many",.local),("told",.local),("spot",.local),("goal_var",.local),("zip",gI),("told_fault",gI),("all",gI),("truths_of",gI),("TextFault",gI),("is_var",gI),("shown_fault",gI)] [fA "self",fA "many",fA "told",fA "spot",fA "x",fA "goal_var"]
noncomputable def oN:Scope:=fS [("text",.local),("FlatReader",gI)]
noncomputable def oR:Scope:=fS []
noncomputable def mf:Scope:=fS []
noncomputable def oP:Scope:=fS []
noncomputable def oU:Scope:=fS []
noncomputable def oQ:Scope:=fS []
noncomputable def q8:Scope:=fS [("feed",.local),("wide",.local),("k",.local),("len",gI)]
noncomputable def oS:Scope:=fS [("feed",.local),("some",.local),("name",.local),("written",.local),("domain",.local),("told",.local),("tolds",.local),("lap",.local),("data",.local),("goal",.local),("shown",.local),("_law_draw",gI),("_law_names",gI),("_law_domains",gI),("range",gI),("_law_tolds",gI),("_law_goals",gI),("_law_shown",gI)]
noncomputable def q0:Scope:=fS [("feed",.local),("rows",.local),("seam",.local),("_law_draw",gI)]
noncomputable def lS:Scope:=fS [("feed",.local),("rows",.local),("first",.local),("many",.local),("way",.local),("lot",.local),("row",.local),("spot",.local),("_law_draw",gI),("_law_bent_vars",gI),("_law_bent_heads",gI),("_law_bent_tolds",gI),("_law_bent_goals",gI),("_law_bent_shown",gI),("len",gI),("str",gI)]
noncomputable def kE:Scope:=fS [("text",.local),("fault",.local),("read_flat",gI),("TextFault",gI)]
noncomputable def mh:Scope:=fS [("script",.local),("feed",.local),("some",.local),("tolds",.local),("goal",.local),("shown",.local),("text",.local),("rows",.local),("flat",.local),("lap",.local),("list",gI),("_law_model",gI),("read_flat",gI),("_law_laid",gI),("flat_text",gI),("range",gI),("_law_bent",gI),("len",gI),("_law_heard",gI)] [fA "script",fA "feed",fA "some",fA "tolds",fA "goal",fA "shown",fA "data",fA "text",fA "rows",fA "flat",fA "lap"]
noncomputable def sv:Scope:=fS [("self",.local),("what",.local),("__class__",.free),("super",gI)]
noncomputable def qz:Scope:=fS [("self",.local),("what",.local),("spot",.local),("__class__",.free),("super",gI)]
noncomputable def zy:List Str:=[.ofString "abs",.ofString "all",.ofString "bool",.ofString "enumerate",.ofString "int",.ofString "isinstance",.ofString "len",.ofString "list",.ofString "range",.ofString "str",.ofString "super",.ofString "tuple",.ofString "zip"]
noncomputable def zv:List (Str×Nat):=[(.ofString "_law_bent",563),(.ofString "_law_domains",509),(.ofString "_law_draw",542),(.ofString "_law_goals",523),(.ofString "_law_heard",570),(.ofString "_law_laid",556),(.ofString "_law_model",549),(.ofString "_law_names",502),(.ofString "_law_shown",530),(.ofString "_law_tolds",516),(.ofString "data_text",254),(.ofString "digits_text",233),(.ofString "domain_text",259),(.ofString "fits",178),(.ofString "flat_text",266),(.ofString "is_number",161),(.ofString "is_row_of_numbers",166),(.ofString "is_truth",200),(.ofString "is_var",173),(.ofString "is_word",219),(.ofString "open_tuple",247),(.ofString "piece_fault",207),(.ofString "quoted",226),(.ofString "read_flat",495),(.ofString "shown_fault",214),(.ofString "told_fault",188),(.ofString "truths_of",195),(.ofString "word_text",240)]
noncomputable def zx:List (Nat×Nat):=[(150,4),(150,5),(150,6),(150,7),(325,1),(325,3),(486,35),(486,45),(486,46),(486,57),(486,58),(486,59)]
noncomputable def BJ:List (Nat×Nat×Nat):=[(150,63,126),(150,64,133),(150,70,140),(150,72,147),(325,26,287),(325,27,315),(325,37,301),(325,43,294),(325,44,308),(325,47,322),(486,6,457),(486,9,436),(486,27,371),(486,31,399),(486,48,357),(486,49,350),(486,51,378),(486,52,392),(486,53,364),(486,54,385),(486,61,429),(486,66,443),(486,67,450),(486,68,464),(486,69,471),(486,71,478),(486,73,483)]
noncomputable def BI:List (Str×Nat×Nat):=[(.ofString "Flat",150,119),(.ofString "FlatReader",486,422),(.ofString "FlatScanner",325,280)]
noncomputable def IZ:List (Str×AV):=[(.ofString "GOALS",uu),(.ofString "LINEAR",rW),(.ofString "STRENGTHS",l6),(.ofString "DIGITS",eK),(.ofString "LETTERS",eC),(.ofString "SIGNS",mF),(.ofString "MOST_DIGITS",dR),(.ofString "FORMS",qo),(.ofString "PAIRS",ur),(.ofString "_law_bent_vars",bq),(.ofString "_law_bent_heads",bh),(.ofString "_law_bent_tolds",aT),(.ofString "_law_bent_goals",aU),(.ofString "_law_bent_shown",aW)]
noncomputable def zj:List (Nat×Scope×List Nat×List Stmt):=[(119,o4,[2],aM 14 (some 0)),
 (126,ll,[2,8,9],aM 14 (some 1)),
 (133,oZ,[2,10],aM 14 (some 2)),
 (140,oY,[2],aM 14 (some 3)),
 (147,jV,[2,11],aM 14 (some 4)),
 (161,oV,[12],aM 15 none),
 (166,iq,[12],aM 16 none),
 (173,uG,[12,14],aM 17 none),
 (178,yK,[15,12,14],aM 18 none),
 (188,nG,[10,14],aM 20 none),
 (195,oM,[10],aM 21 none),
 (200,q9,[9],aM 22 none),
 (207,md,[22,14,23],aM 23 none),
 (214,mc,[7,14],aM 24 none),
 (219,sr,[3],aM 25 none),
 (226,oO,[3],aM 26 none),
 (233,ml,[27],aM 27 none),
 (240,oK,[12],aM 28 none),
 (247,nH,[29,23],aM 29 none),
 (254,oX,[31],aM 30 none),
 (259,mj,[9],aM 31 none),
 (266,oW,[35],aM 32 none),
 (280,fX,[2,3],aM 33 (some 0)),
 (287,fW,[2],aM 33 (some 1)),
 (294,fV,[2],aM 33 (some 2)),
 (301,eT,[2,40],aM 33 (some 3)),
 (308,eb,[2],aM 33 (some 4)),
 (315,eU,[2],aM 33 (some 5)),
 (322,fg,[2],aM 33 (some 6)),
 (343,jy,[2,3],aM 34 (some 0)),
 (350,jx,[2],aM 34 (some 1)),
 (357,ib,[2,26],aM 34 (some 2)),
 (364,jw,[2,26],aM 34 (some 3)),
 (371,ix,[2],aM 34 (some 4)),
 (378,gv,[2,47],aM 34 (some 5)),
 (385,iw,[2,50],aM 34 (some 6)),
 (392,iy,[2,50],aM 34 (some 7)),
 (399,jz,[2],aM 34 (some 8)),
 (429,ia,[2,60],aM 35 (some 1)),
 (436,iv,[2],aM 35 (some 2)),
 (443,gS,[2],aM 35 (some 3)),
 (450,gu,[2],aM 35 (some 4)),
 (457,jv,[2,1],aM 35 (some 5)),
 (464,iu,[2,1],aM 35 (some 6)),
 (471,ju,[2],aM 35 (some 7)),
 (478,jt,[2,25,1],aM 35 (some 8)),
 (483,iZ,[2],aM 35 (some 9)),
 (495,oN,[3],aM 36 none),
 (502,oR,[],aM 38 none),
 (509,mf,[],aM 39 none),
 (516,oP,[],aM 40 none),
 (523,oU,[],aM 41 none),
 (530,oQ,[],aM 42 none),
 (542,q8,[75,76],aM 48 none),
 (549,oS,[75],aM 49 none),
 (556,q0,[75,34],aM 50 none),
 (563,lS,[75,34,82,14],aM 51 none),
 (570,kE,[3],aM 52 none),
 (575,mh,[83],aM 53 none)]
structure tS (b:Base):Prop where
 bt:∀ x∈zy,nsIn b.K mainGlobals x=some none
 df:∀ p∈zv,nsIn b.K mainGlobals p.1=some (some (.ref p.2))∧keepIn b.K (.ref p.2)=true
 cl:∀ C∈[150,325,486],pZ b C
 ca:∀ p∈zx,findIn b.K (.ref p.1) (b.nm p.2)=some none
 me:∀ p∈BJ,findIn b.K (.ref p.1) (b.nm p.2.1)=some (some (.ref p.2.2))∧isFn b.K (.ref p.2.2)=true∧keepIn b.K (.ref p.2.2)=true
 mm:∀ p∈BI,nsIn b.K mainGlobals p.1=some (some (.ref p.2.1))∧keepIn b.K (.ref p.2.1)=true∧makesIn b.K p.2.1=true∧findIn b.K (.ref p.2.1) "__init__"=some (some (.ref p.2.2))∧typeIn b.K (.ref p.2.2)=some (.type "function")
 gl:∀ p∈IZ,∃ val,nsIn b.K mainGlobals p.1=some (some val)∧fh b.K b.w.params p.2 val
 fn:∀ p∈zj,FnAt b p.1 p.2.1 p.2.2.1 p.2.2.2
 s1:js b 30 29 18 40 sv 2 [0] (aM 1 (some 0))
 s2:js b 59 58 47 69 qz 2 [0,1] (aM 2 (some 0))
 s3:js b 422 421 410 486 gr 2 [3] (aM 35 (some 0))
 k1:ks_superIn b.K 81 40 "__init__"=some (some (.builtin "Exception.__init__"))
 k2:ks_superIn b.K 81 69 "__init__"=some (some (.ref 30))
 k3:ks_superIn b.K 486 486 "__init__"=some (some (.ref 343))
 m1:mroIn b.K 81 (.ref 40)=some true
 m2:mroIn b.K 81 (.ref 69)=some true
 m3:mroIn b.K 486 (.ref 486)=some true
 f1:fnIn b.K 30=true
 f3:fnIn b.K 343=true
 y1:typeIn b.K (.ref 30)=some (.type "function")
 y2:typeIn b.K (.ref 59)=some (.type "function")
 y3:typeIn b.K (.ref 343)=some (.type "function")
 t1:takerIn b.K 81 (b.nm 0)=some none
 t2:takerIn b.K 81 (b.nm 1)=some none
 ex:ji b 81
 tf:nsIn b.K mainGlobals "TextFault"=some (some (.ref 81))
 ti:findIn b.K (.ref 81) "__init__"=some (some (.ref 59))
 tk:keepIn b.K (.ref 81)=true
 ty:typeIn b.K (.ref 81)=some (.type "type")
 ga:findIn b.K (.ref 81) "__getattribute__"=some (some (.builtin "BaseException.__getattribute__"))
 gn:findIn b.K (.ref 81) "__getattr__"=some none
 sp:findIn b.K (.ref 81) "spot"=some none
noncomputable abbrev Af:Nat:=3
noncomputable abbrev Ag:Nat:=1
noncomputable def isWs (c:Nat):Bool:=decide (c∈[32,9,13,10])
noncomputable def cg (c:Nat):Bool:=decide (c∈[48,49,50,51,52,53,54,55,56,57])
noncomputable def wQ:List Nat:=[97,98,99,100,101,102,103,104,105,106,107,108,109,110,111,112,113,114,115,116,117,118,119,120,121,122,65,66,67,68,69,70,71,72,73,74,75,76,77,78,79,80,81,82,83,84,85,86,87,88,89,90,95]
noncomputable def isLet (c:Nat):Bool:=decide (c∈wQ)
noncomputable def pq (c:Nat):Bool:=decide (c∈wQ++[48,49,50,51,52,53,54,55,56,57])
noncomputable def sX (c:Nat):Bool:=decide (c∈[40,41,91,93,123,125,44,59,58])
noncomputable def gE:Nat→List Nat→List Nat
 |0,l=>l
 |f+1,l=>match l.dropWhile isWs with
  |37::r=>gE f (r.dropWhile λc=>!Nat.beq c 10)
  |r=>r
noncomputable def skip (l:List Nat):List Nat:=gE (l.length+1) l
noncomputable def quot:List Nat→Option (List Nat×List Nat)
 |[]=>none
 |34::r=>some ([],r)
 |10::_=>none
 |92::110::r=>(quot r).map λp=>(10::p.1,p.2)
 |92::34::r=>(quot r).map λp=>(34::p.1,p.2)
 |92::92::r=>(quot r).map λp=>(92::p.1,p.2)
 |92::_=>none
 |c::r=>(quot r).map λp=>(c::p.1,p.2)
noncomputable def fB (neg:Bool) (l:List Nat):Option (List Nat×AV×List Nat):=match l.takeWhile cg with
 |[]=>none
 |d::ds=>match Nat.ble (d::ds).length 640 with
  |true=>some ([110,117,109,98,101,114],.int (match neg with |true=>-(NumText.digitsVal (d::ds):Nat) |false=>(NumText.digitsVal (d::ds):Nat)),l.dropWhile cg)
  |false=>none
noncomputable def fD:List Nat→Option (List Nat×AV×List Nat)
 |[]=>none
 |34::r=>(quot r).map λp=>([116,101,120,116],.str p.1,p.2)
 |45::r=>fB true r
 |c::r=>match cg c,isLet c,sX c with
  |true,_,_=>fB false (c::r)
  |_,true,_=>some ([119,111,114,100],.str ((c::r).takeWhile pq),(c::r).dropWhile pq)
  |_,_,true=>some ([115,105,103,110],.str [c],r)
  |_,_,_=>match c,r with
   |46,46::r=>some ([115,105,103,110],.str [46,46],r)
   |_,_=>none
inductive Toks (n:Nat):List Nat→List AV→Prop
 |nil {l}:Toks n l []
 |fin {l}:skip l=[]→Toks n l [.tup [.str [101,110,100],.str [],.int (n:Nat)]]
 |tok {l m k v r ts}:skip l=m→fD m=some (k,v,r)→Toks n r ts→Toks n l (.tup [.str k,v,.int ((n - m.length:Nat):Int)]::ts)
noncomputable def kJ:Nat→Nat→List Nat→Option (List AV)
 |0,_,_=>none
 |f+1,n,l=>match skip l with
  |[]=>some [.tup [.str [101,110,100],.str [],.int (n:Nat)]]
  |c::m=>match fD (c::m) with
   |some (k,v,r)=>(kJ f n r).map (.tup [.str k,v,.int ((n - (c::m).length:Nat):Int)]::·)
   |none=>none
theorem BN {n:Nat} (f:Nat):∀ {l:List Nat} {ts:List AV},kJ f n l=some ts→Toks n l ts:=by
 induction f with
 |zero=>exact λh=>nomatch h
 |succ f ih=>
  intro l ts h
  unfold kJ at h
  cases hs:skip l with
  |nil=>rw [hs] at h;cases h;exact .fin hs
  |cons c m=>
   rw [hs] at h
   dsimp only at h
   cases ht:fD (c::m) with
   |none=>rw [ht] at h;cases h
   |some p=>
    obtain ⟨k,v,r⟩:=p
    rw [ht] at h
    dsimp only at h
    cases q:kJ f n r with
    |none=>rw [q] at h;cases h
    |some us=>
     rw [q] at h
     cases h
     exact .tok hs ht (ih q)
structure U where
 w:World
 K:Frag
 hT:Heap
noncomputable def B0 (Z:U):Base:={prog:=PySem.Challenge.pw_pc0056_01,w:=Z.w,K:=Z.K,hT:=Z.hT,nm:=o9,pf:=λ_=>True,lx:=λ_ _=>True,bH:=λ_ _ _ _ _=>True}
noncomputable def B (Z:U):Base:=
 {prog:=PySem.Challenge.pw_pc0056_01,w:=Z.w,K:=Z.K,hT:=Z.hT,nm:=o9,pf:=λK=>tS (B0 Z),lx:=λl ts=>(l.length < 3900∧∀ c∈l,c < 1114112)∧Toks l.length l ts,
  bH:=λx y l i ts=>(x=Af∧y=Ag)∧(l.length < 3900∧∀ c∈l,c < 1114112)∧∃ k:Nat,i=k∧k≤l.length∧Toks l.length (l.drop k) ts}
theorem BB:∀ {l:List Str} {k o:Nat},yS l k o∈l∨yS l k o=⟨#[1114112+o]⟩
 |[],_,_=>.inr rfl
 |s::l,0,_=>.inl (.head _)
 |s::l,k+1,o=>(BB (l:=l) (k:=k) (o:=o)).imp (.tail _) id
theorem yQ:∀ {l:List Str} {k o:Nat},k < l.length→l[k]?=some (yS l k o)
 |[],_,_,h=>absurd h (Nat.not_lt_zero _)
 |s::l,0,_,_=>rfl
 |s::l,k+1,o,h=>yQ (l:=l) (k:=k) (o:=o) (Nat.lt_of_succ_lt_succ h)
theorem yR:∀ {l:List Str} {k o:Nat},l.length≤k→yS l k o=⟨#[1114112+o]⟩
 |[],_,_,_=>rfl
 |s::l,0,_,h=>absurd h (Nat.not_succ_le_zero _)
 |s::l,k+1,o,h=>yR (l:=l) (k:=k) (o:=o) (Nat.le_of_succ_le_succ h)
theorem yW:∀ s∈sL,(s.cps[0]?.all λc=>Nat.blt c 1114112)=true∧(s==("__debug__":Str))=false:=by decide +kernel
theorem yV (k:Nat) (s:Str) (hs:s∈sL):s≠⟨#[1114112+k]⟩:=λe=>by
 have:=(yW s hs).1
 rw [e] at this
 have:Nat.blt (1114112+k) 1114112=true:=this
 exact absurd (Nat.le_of_ble_eq_true this) (Nat.not_lt.mpr (Nat.le_add_right _ _))
theorem Gr (i j:Nat) (e:o9 i=o9 j):i=j:=by
 have nd:sL.Nodup:=by decide +kernel
 have key:∀ i,(i < sL.length∧sL[i]?=some (o9 i))∨(sL.length≤i∧o9 i=⟨#[1114112+i]⟩):=λi=>by
  by_cases h:i < sL.length
  ·exact .inl ⟨h,yQ h⟩
  ·exact .inr ⟨Nat.le_of_not_lt h,yR (Nat.le_of_not_lt h)⟩
 rcases key i with ⟨h1,h2⟩ |⟨h1,h2⟩<;>rcases key j with ⟨k1,k2⟩ |⟨k1,k2⟩
 ·rw [← e] at k2
  exact (List.getElem?_inj h1 nd).mp (h2.trans k2.symm)
 ·exact absurd (e.trans k2) (yV j _ (List.mem_of_getElem? h2))
 ·exact absurd (e.symm.trans h2) (yV i _ (List.mem_of_getElem? k2))
 ·have:=h2.symm.trans (e.trans k2)
  injection this with this
  injection this with this
  injection this with this
  exact Nat.add_left_cancel this
theorem nd {Z:U} (k:Nat):((B Z).nm k==("__debug__":Str))=false:=by
 show (o9 k==("__debug__":Str))=false
 rcases BB (l:=sL) (k:=k) (o:=k) with h |h
 ·exact (yW _ h).2
 ·have h:o9 k=_:=h
  refine sY (h ..)▸?_;rewrite [beq_eq_false_iff_ne]
  intro e
  have:=congrArg (λs:Str=>s.cps.size) e
  revert this
  show 1=_→False
  decide +kernel
noncomputable def p9 (run:List AV→aa→Res AV) (args:List AV) (H:aa):Res AV:=match args with
 |[.str l]=>match Nat.blt l.length 3900&&l.all λc=>Nat.blt c 1114112,kJ 2000 l.length l with
  |true,some ts=>run [.txt ts] H
  |_,_=>.stuck
 |_=>.stuck
set_option tactic.hygienic true in
noncomputable def Fn.texts {Z:U} {n:Nat} (f:Fn (B Z) n):Fn (B Z) n where
 addr:=f.addr
 run:=p9 f.run
 ok:=λO c cs N g loc H s Q E args vals G hN R V hp=>by
  unfold p9 at hp
  split at hp
  ·rename_i l
   split at hp
   ·rename_i ts hg hl
    refine ai (vals1 V rfl) ?_;rintro x rfl V1
    cases V1
    rw [Bool.and_eq_true] at hg
    exact f.ok O c cs N g loc H s Q E _ _ G hN R (.cons (.txt _ ⟨⟨Nat.le_of_ble_eq_true hg.1,λc hc=>Nat.le_of_ble_eq_true (List.all_eq_true.mp hg.2 c hc)⟩,BN _ hl⟩) .nil) hp
   ·exact hp.elim
  ·exact hp.elim
section
variable (Z:U)
theorem OD {b b':Base} (h:ji b 81) (e:b.K=b'.K):ji b' 81:=⟨e▸h.makes,e▸h.over,e▸h.dict,e▸h.set,e▸h.E1⟩
variable {Z} in
theorem facts (O:(B Z).Ok):tS (B Z):=by
 have h:tS (B0 Z):=O.pf
 have sup:∀ {f dF cc D:Addr} {scope:Scope} {p:Nat} {ps:List Nat} {body:List Stmt},js (B0 Z) f dF cc D scope p ps body→js (B Z) f dF cc D scope p ps body:=λs=>⟨s.fn,s.code,s.cell,s.cls,s.sup,s.top,s.ks,s.kc,s.kind,s.wI,s.co,s.gen,s.loc,s.fresh⟩
 exact {bt:=h.bt,df:=h.df,cl:=λC m=>⟨(h.cl C m).get,(h.cl C m).dict,(h.cl C m).over,(h.cl C m).set⟩,ca:=h.ca,me:=h.me,mm:=h.mm,gl:=h.gl,fn:=h.fn,s1:=sup h.s1,s2:=sup h.s2,s3:=sup h.s3,k1:=h.k1,k2:=h.k2,k3:=h.k3,m1:=h.m1,m2:=h.m2,m3:=h.m3,f1:=h.f1,f3:=h.f3,y1:=h.y1,y2:=h.y2,y3:=h.y3,t1:=h.t1,t2:=h.t2,ex:=OD h.ex rfl,tf:=h.tf,ti:=h.ti,tk:=h.tk,ty:=h.ty,ga:=h.ga,gn:=h.gn,sp:=h.sp}
theorem bt (x:Str) (h:zy.contains x=true):(B Z).Ok→nsIn (B Z).K mainGlobals x=some none:=λO=>(facts O).bt x (List.elem_iff.mp h)
theorem FN (x:Str) (h:zy.contains x=true):(B Z).Ok→nsIn (B Z).K mainGlobals "isinstance"=some none∧nsIn (B Z).K mainGlobals x=some none:=λO=>⟨(facts O).bt _ (List.elem_iff.mp (by decide +kernel)),(facts O).bt x (List.elem_iff.mp h)⟩
theorem df (x:Str) (a:Nat) (h:zv.contains (x,a)=true):(B Z).Ok→nsIn (B Z).K mainGlobals x=some (some (.ref a))∧keepIn (B Z).K (.ref a)=true:=λO=>(facts O).df (x,a) (List.elem_iff.mp h)
theorem ca (C x:Nat) (h:((zx.contains (C,x)&&[150,325,486].contains C))=true):(B Z).Ok→pZ (B Z) C∧findIn (B Z).K (.ref C) ((B Z).nm x)=some none:=λO=>⟨(facts O).cl C (List.elem_iff.mp (Bool.and_eq_true_iff.mp h).2),(facts O).ca (C,x) (List.elem_iff.mp (Bool.and_eq_true_iff.mp h).1)⟩
theorem me (C x a:Nat) (h:((BJ.contains (C,x,a)&&[150,325,486].contains C))=true):(B Z).Ok→pZ (B Z) C∧findIn (B Z).K (.ref C) ((B Z).nm x)=some (some (.ref a))∧isFn (B Z).K (.ref a)=true∧keepIn (B Z).K (.ref a)=true:=
 λO=>⟨(facts O).cl C (List.elem_iff.mp (Bool.and_eq_true_iff.mp h).2),(facts O).me (C,x,a) (List.elem_iff.mp (Bool.and_eq_true_iff.mp h).1)⟩
theorem mk (x:Str) (C a:Nat) (h:BI.contains (x,C,a)=true):(B Z).Ok→nsIn (B Z).K mainGlobals x=some (some (.ref C))∧keepIn (B Z).K (.ref C)=true∧makesIn (B Z).K C=true∧findIn (B Z).K (.ref C) "__init__"=some (some (.ref a))∧typeIn (B Z).K (.ref a)=some (.type "function"):=λO=>(facts O).mm (x,C,a) (List.elem_iff.mp h)
theorem OL:(B Z).Ok→nsIn (B Z).K mainGlobals "TextFault"=some (some (.ref du))∧zL (B Z):=λO=>⟨(facts O).tf,(facts O).ex,(facts O).ty,(facts O).ga,(facts O).gn,(facts O).sp⟩
end
noncomputable def JM (sc cs:Scope):Scope:={sc with names:=sc.names.map λ(n,k)=>if (k==.free&&cs.kind==.function&&cs.names.lookup n==some .cell) then (n,.cell) else (n,k)}
theorem eX {sc cs cs':Scope} (h:JM sc cs=cs'):∀ env:Env,env.scope=cs→relabel sc env=cs':=by
 rintro env rfl
 exact h
theorem eg {sc:Scope} (h:(sc.names.all λy=>y.2 != .cell)=true):∀ y∈sc.names,y.2≠.cell:=λy hy e=>by
 have:=List.all_eq_true.mp h y hy
 rw [e] at this;cases this
theorem dE {sc:Scope} (h:(sc.names.all λy=>!(y.2==.local)||(sc.names.lookup y.1==some .local))=true):∀ y∈sc.names,y.2=.local→sc.names.lookup y.1=some .local:=λy hy e=>by
 have:=List.all_eq_true.mp h y hy
 rw [e] at this
 simpa using this
theorem lI {b:Base} {sc cs:Scope} (h:(sc.names.all λy=>y.2 != .free)=true):∀ (env:Env) (as:Nat→Addr),env.scope=cs→(∀ x∈([]:List Nat),env.cells.lookup (b.nm x)=some (as x))→closureFor sc env=pure (([]:List Nat).map λx=>(b.nm x,as x)):=λenv as _ _=>
 closureFor_none λy hy e=>by
  have:=List.all_eq_true.mp h y hy
  rw [e] at this;cases this
noncomputable def FF (x:Str):List (Str×NameKind)→Bool
 |[]=>false
 |(y,.free)::r=>x==y&&r.all λz=>z.2 != .free
 |_::r=>FF x r
theorem An {b:Base} {sc cs:Scope} (x:Nat) (h:FF (b.nm x) sc.names=true):∀ (env:Env) (as:Nat→Addr),env.scope=cs→(∀ y∈[x],env.cells.lookup (b.nm y)=some (as y))→closureFor sc env=pure ([x].map λx=>(b.nm x,as x)):=λenv as _ hx=>by
 have hl:=hx x (.head _)
 have hc:cellOf env (b.nm x)=pure (as x):=by unfold cellOf;rw [hl]
 simp only [closureFor]
 generalize sc.names=l at h ⊢
 induction l with
 |nil=>cases h
 |cons y l ih=>
  obtain ⟨y,k⟩:=y
  rewrite [List.forIn_cons]
  cases k with
  |free=>
   have h:((b.nm x==y)&&l.all λz=>z.2 != .free)=true:=h
   rw [Bool.and_eq_true] at h
   have e:b.nm x=y:=by simpa using h.1
   subst e
   have e2:((NameKind.free==NameKind.free)=true):=rfl
   simp only [e2,if_true,hc]
   show (forIn l [(b.nm x,as x)] _ >>= λr=>pure r)=_
   rw [forIn_yield_id [(b.nm x,as x)] (λz hz c=>by
    obtain ⟨n,kind⟩:=z
    have:(kind==NameKind.free)=false:=by simpa using List.all_eq_true.mp h.2 _ hz
    simp only [this,Bool.false_eq_true,if_false])]
   rfl
  |_=>exact ih h
theorem zc {b:Base} {cs:Scope} {ps:List Nat} (h:(ps.all λp=>cs.names.lookup (b.nm p)==some .local)=true):∀ p∈ps,cs.names.lookup (b.nm p)=some .local:=λp hp=>by simpa using List.all_eq_true.mp h p hp
theorem Ee {b:Base} {cs cs':Scope} (x:Nat) (h1:cs.names.lookup (b.nm x)=some .cell) (h2:cs'.names.lookup (b.nm x)=some .cell):∀ y∈[x],cs.names.lookup (b.nm y)=some .cell∧cs'.names.lookup (b.nm y)=some .cell:=λy hy=>by
 cases List.mem_singleton.mp hy
 exact ⟨h1,h2⟩
noncomputable abbrev bx.c {b:Base} {cs:Scope} {n:Nat} (e:Ex b cs n) (r:bx b cs n):bx b cs n:=.cons e r
noncomputable abbrev bx.n {b:Base} {cs:Scope} {n:Nat}:bx b cs n:=.nil
noncomputable abbrev bx.o {b:Base} {cs:Scope} {n:Nat} (e:Ex b cs n):bx b cs n:=.cons e .nil
noncomputable abbrev gM.c {b:Base} {cs:Scope} {n:Nat} (e:Tx b cs n) (r:gM b cs n):gM b cs n:=.cons e r
noncomputable abbrev gM.n {b:Base} {cs:Scope} {n:Nat}:gM b cs n:=.nil
noncomputable abbrev gM.o {b:Base} {cs:Scope} {n:Nat} (e:Tx b cs n):gM b cs n:=.cons e .nil
noncomputable abbrev bb.c {b:Base} {cs:Scope} {n tk:Nat} (e:St b cs n tk) (r:bb b cs n tk):bb b cs n tk:=.cons e r
noncomputable abbrev bb.n {b:Base} {cs:Scope} {n tk:Nat}:bb b cs n tk:=.nil
noncomputable abbrev bb.o {b:Base} {cs:Scope} {n tk:Nat} (e:St b cs n tk):bb b cs n tk:=.cons e .nil
noncomputable abbrev gC.c {b:Base} {cs:Scope} {n:Nat} (x:Lit) (k:Nat) (p:Pos) (e:Ex b cs n) (r:gC b cs n):gC b cs n:=.cons x k p e r
noncomputable abbrev gC.n {b:Base} {cs:Scope} {n:Nat}:gC b cs n:=.nil
section
variable {Z:U} {cs:Scope} {n:Nat}
noncomputable def sP (a b d:Nat):Pos:=⟨a,b,a,d⟩
noncomputable def lT (s:Str):Lit:=⟨s,s.cps.toList,rfl⟩
noncomputable def lC (x a b d:Nat):Ex (B Z) cs n:=.loc _ _ _ x ⟨a,b,a,d⟩ (nd x)
noncomputable def tX (s:Str) (a b d:Nat):Ex (B Z) cs n:=.str _ _ _ (lT s) 0 ⟨a,b,a,d⟩
noncomputable def iC (i:Int) (a b d:Nat):Ex (B Z) cs n:=.int _ _ _ i 0 ⟨a,b,a,d⟩
noncomputable def aL (x C y a b d e:Nat) (h:autoParam ((zx.contains (C,y)&&[150,325,486].contains C)=true) zB):Ex (B Z) cs n:=.attr (lC x a b d) C y ⟨a,b,a,e⟩ (ca Z C y h)
noncomputable def cL {k:Nat} (f:Fn (B Z) k) (s:Str) (args:bx (B Z) cs n) (np p:Pos) (h:autoParam ((zv.contains (s,f.addr)&&(!(s==("__debug__":Str))&&Nat.blt k n))=true) zB) (hl:autoParam (cs.names.lookup s=some .globalImplicit) j4):Ex (B Z) cs n:=
 .call f ⟨s,hl,Bool.not_eq_true' _ |>.mp (Bool.and_eq_true_iff.mp (Bool.and_eq_true_iff.mp h).2).1⟩ (df Z s f.addr (Bool.and_eq_true_iff.mp h).1) args np p (Nat.lt_of_lt_of_le (Nat.le_of_ble_eq_true (Bool.and_eq_true_iff.mp (Bool.and_eq_true_iff.mp h).2).2) (Nat.le_refl _))
noncomputable def Hi (args:bx (B Z) cs n) (np p:Pos) (h:autoParam (cs.names.lookup ("abs":Str)=some .globalImplicit) j4):Ex (B Z) cs n:=.bf (Kq _) ⟨⟨"abs",h,qF⟩,by kernel_rfl,(show ("abs":Str)≠"__name__" by decide +kernel)⟩ (bt Z "abs" rfl) args np p (.inl ⟨_,rfl⟩)
noncomputable def jf (args:bx (B Z) cs n) (np p:Pos) (h:autoParam (cs.names.lookup ("all":Str)=some .globalImplicit) j4):Ex (B Z) cs n:=.bf (FP _) ⟨⟨"all",h,qF⟩,by kernel_rfl,(show ("all":Str)≠"__name__" by decide +kernel)⟩ (bt Z "all" rfl) args np p (.inl ⟨_,rfl⟩)
noncomputable def zo (args:bx (B Z) cs n) (np p:Pos) (h:autoParam (cs.names.lookup ("int":Str)=some .globalImplicit) j4):Ex (B Z) cs n:=.bf (vK _) ⟨⟨"int",h,qF⟩,by kernel_rfl,(show ("int":Str)≠"__name__" by decide +kernel)⟩ (bt Z "int" rfl) args np p (.inr ⟨_,rfl⟩)
noncomputable def bu (args:bx (B Z) cs n) (np p:Pos) (h:autoParam (cs.names.lookup ("len":Str)=some .globalImplicit) j4):Ex (B Z) cs n:=.bf (fm _) ⟨⟨"len",h,qF⟩,by kernel_rfl,(show ("len":Str)≠"__name__" by decide +kernel)⟩ (bt Z "len" rfl) args np p (.inl ⟨_,rfl⟩)
noncomputable def EE (args:bx (B Z) cs n) (np p:Pos) (h:autoParam (cs.names.lookup ("list":Str)=some .globalImplicit) j4):Ex (B Z) cs n:=.bf (wO _) ⟨⟨"list",h,qF⟩,by kernel_rfl,(show ("list":Str)≠"__name__" by decide +kernel)⟩ (bt Z "list" rfl) args np p (.inr ⟨_,rfl⟩)
noncomputable def Hh (args:bx (B Z) cs n) (np p:Pos) (h:autoParam (cs.names.lookup ("str":Str)=some .globalImplicit) j4):Ex (B Z) cs n:=.bf (JI _) ⟨⟨"str",h,qF⟩,by kernel_rfl,(show ("str":Str)≠"__name__" by decide +kernel)⟩ (bt Z "str" rfl) args np p (.inr ⟨_,rfl⟩)
noncomputable def ve (args:bx (B Z) cs n) (np p:Pos) (h:autoParam (cs.names.lookup ("tuple":Str)=some .globalImplicit) j4):Ex (B Z) cs n:=.bf (F6 _) ⟨⟨"tuple",h,qF⟩,by kernel_rfl,(show ("tuple":Str)≠"__name__" by decide +kernel)⟩ (bt Z "tuple" rfl) args np p (.inr ⟨_,rfl⟩)
noncomputable def is_bool (e:Ex (B Z) cs n) (np tp p:Pos) (h1:autoParam (cs.names.lookup ("isinstance":Str)=some .globalImplicit) j4) (h2:autoParam (cs.names.lookup ("bool":Str)=some .globalImplicit) j4):Ex (B Z) cs n:=.sV e .bool ⟨⟨"isinstance",h1,qF⟩,by kernel_rfl,(show ("isinstance":Str)≠"__name__" by decide +kernel)⟩ ⟨⟨"bool",h2,qF⟩,by kernel_rfl,(show ("bool":Str)≠"__name__" by decide +kernel)⟩ (FN Z "bool" rfl) np tp p
noncomputable def B3 (e:Ex (B Z) cs n) (np tp p:Pos) (h1:autoParam (cs.names.lookup ("isinstance":Str)=some .globalImplicit) j4) (h2:autoParam (cs.names.lookup ("int":Str)=some .globalImplicit) j4):Ex (B Z) cs n:=.sV e .int ⟨⟨"isinstance",h1,qF⟩,by kernel_rfl,(show ("isinstance":Str)≠"__name__" by decide +kernel)⟩ ⟨⟨"int",h2,qF⟩,by kernel_rfl,(show ("int":Str)≠"__name__" by decide +kernel)⟩ (FN Z "int" rfl) np tp p
noncomputable def pk (e:Ex (B Z) cs n) (np tp p:Pos) (h1:autoParam (cs.names.lookup ("isinstance":Str)=some .globalImplicit) j4) (h2:autoParam (cs.names.lookup ("str":Str)=some .globalImplicit) j4):Ex (B Z) cs n:=.sV e .str ⟨⟨"isinstance",h1,qF⟩,by kernel_rfl,(show ("isinstance":Str)≠"__name__" by decide +kernel)⟩ ⟨⟨"str",h2,qF⟩,by kernel_rfl,(show ("str":Str)≠"__name__" by decide +kernel)⟩ (FN Z "str" rfl) np tp p
noncomputable def gx (e:Ex (B Z) cs n) (np tp p:Pos) (h1:autoParam (cs.names.lookup ("isinstance":Str)=some .globalImplicit) j4) (h2:autoParam (cs.names.lookup ("tuple":Str)=some .globalImplicit) j4):Ex (B Z) cs n:=.sV e .tuple ⟨⟨"isinstance",h1,qF⟩,by kernel_rfl,(show ("isinstance":Str)≠"__name__" by decide +kernel)⟩ ⟨⟨"tuple",h2,qF⟩,by kernel_rfl,(show ("tuple":Str)≠"__name__" by decide +kernel)⟩ (FN Z "tuple" rfl) np tp p
end
section
variable (Z:U)
theorem nO {A:Addr} {sc:Scope} {ps:List Nat} {py body:List Stmt} (i:Nat) (h:zj[i]?=some (A,sc,ps,body)) (e:py=body):(B Z).Ok→FnAt (B Z) A sc ps py:=λO=>e▸(facts O).fn _ (List.mem_of_getElem? (i:=i) h)
noncomputable def fM {Z:U} {cs:Scope} {n:Nat} (A:Addr) (ps:List Nat) (body:bb (B Z) cs n 0) {py:List Stmt} (i:Nat) (h:zj[i]?=some (A,cs,ps,py)) (e:body.py=py) (hk:autoParam (cs.kind=.function) OQ) (xt:autoParam (cs.isCoroutine=false) xX) (rN:autoParam (cs.isGenerator=false) xX) (rM:autoParam ((ps.all λp=>cs.names.lookup ((B Z).nm p)==some .local||cs.names.lookup ((B Z).nm p)==some .cell)=true) zB):Fn (B Z) n:=pg A ps body (nO Z i h e) hk xt rN rM
theorem kM:(B Z).Ok→nsIn (B Z).K mainGlobals "TextFault"=some (some (.ref du))∧FU (B Z):=λO=>by
 have F:=facts O
 have e1:aM 1 (some 0)=fN ⟨5,8,5,13⟩ ⟨5,8,5,15⟩ ⟨5,8,5,24⟩ ⟨5,8,5,30⟩ ⟨5,8,5,30⟩ [.Name ((B Z).nm 0) ⟨5,25,5,29⟩] [.Assign [.Attribute (.Name ((B Z).nm 2) ⟨6,8,6,12⟩) ((B Z).nm 0) ⟨6,8,6,17⟩] (.Name ((B Z).nm 0) ⟨6,20,6,24⟩) ⟨6,8,6,24⟩]:=by kernel_rfl
 have e2:aM 2 (some 0)=fN ⟨13,8,13,13⟩ ⟨13,8,13,15⟩ ⟨13,8,13,24⟩ ⟨13,8,13,30⟩ ⟨13,8,13,30⟩ [.Name ((B Z).nm 0) ⟨13,25,13,29⟩] [.Assign [.Attribute (.Name ((B Z).nm 2) ⟨14,8,14,12⟩) ((B Z).nm 1) ⟨14,8,14,17⟩] (.Name ((B Z).nm 1) ⟨14,20,14,24⟩) ⟨14,8,14,24⟩]:=by kernel_rfl
 have s1:=F.s1
 have s2:=F.s2
 rw [e1] at s1
 rw [e2] at s2
 have k1:CR (B Z) du 30 0:=⟨λstays hx lE ta td xc cB hr h=>GZ O F.ex s1 F.k1 F.m1 F.t1 ⟨λenv=>⟨_,by with_unfolding_all rfl⟩,λenv=>by with_unfolding_all rfl⟩ (λenv=>by with_unfolding_all rfl) (nd _) (nd _) (by decide) stays hx lE ta td xc cB hr h⟩
 have k2:xZ (B Z) du 59:=⟨λstays hx lE ta td xc cB hr h=>A9 O F.ex s2 k1 F.f1 F.y1 F.k2 F.m2 F.t2 ⟨λenv=>⟨_,by with_unfolding_all rfl⟩,λenv=>by with_unfolding_all rfl⟩ (λenv=>by with_unfolding_all rfl) (nd _) (nd _) (nd _) (by decide) (by decide) (by decide) stays hx lE ta td xc cB hr h⟩
 exact ⟨F.tf,F.ex,⟨59,F.ti,F.y2,k2⟩,F.tk,F.ty⟩
abbrev kU (s:Str) (c:AV):Prop:=(B Z).Ok→∃ val,nsIn (B Z).K mainGlobals s=some (some val)∧fh (B Z).K (B Z).w.params c val
theorem lK {s:Str} {c:AV} (i:Nat) (h:IZ[i]?=some (s,c)):kU Z s c:=λO=>(facts O).gl _ (List.mem_of_getElem? h)
theorem En:kU Z "GOALS" uu:=lK Z 0 rfl
theorem Cr:kU Z "LINEAR" rW:=lK Z 1 rfl
theorem xE:kU Z "STRENGTHS" l6:=lK Z 2 rfl
theorem lJ:kU Z "DIGITS" eK:=lK Z 3 rfl
theorem kh:kU Z "LETTERS" eC:=lK Z 4 rfl
theorem El:kU Z "SIGNS" mF:=lK Z 5 rfl
theorem jd:kU Z "MOST_DIGITS" dR:=lK Z 6 rfl
theorem xF:kU Z "FORMS" qo:=lK Z 7 rfl
theorem Em:kU Z "PAIRS" ur:=lK Z 8 rfl
theorem rP:kU Z "_law_bent_vars" bq:=lK Z 9 rfl
theorem qD:kU Z "_law_bent_heads" bh:=lK Z 10 rfl
theorem qA:kU Z "_law_bent_tolds" aT:=lK Z 11 rfl
theorem qE:kU Z "_law_bent_goals" aU:=lK Z 12 rfl
theorem qC:kU Z "_law_bent_shown" aW:=lK Z 13 rfl
noncomputable def jJ:bb (B Z) fX 1 0:=(.cons (.setAttr (lC 2 190 8 12) 325 3 (sP 190 8 17) (lC 3 190 20 24) (sP 190 8 24) (ca Z 325 3 rfl))
 (.cons (.setAttr (lC 2 191 8 12) 325 1 (sP 191 8 17) (iC 0 191 20 21) (sP 191 8 21) (ca Z 325 1 rfl))
 .nil))
theorem oq:(B Z).Ok→FnAt (B Z) 280 fX [2,3] (jJ Z).py:=nO Z 22 rfl (by kernel_rfl)
noncomputable def pK:Fn (B Z) 1:=pg 280 [2,3] (jJ Z) (oq Z) rfl rfl rfl (by kernel_rfl)
noncomputable def jI:bb (B Z) fW 1 0:=(.cons (.ret (.ja (aL 2 325 3 194 15 19 24) (aL 2 325 1 194 25 29 34) (.bin (aL 2 325 1 194 35 39 44) (aB _) (iC 1 194 47 48) (sP 194 35 48)) (sP 194 25 48) (sP 194 15 49)) (sP 194 8 49))
 .nil)
theorem oo:(B Z).Ok→FnAt (B Z) 287 fW [2] (jI Z).py:=nO Z 23 rfl (by kernel_rfl)
noncomputable def aG:Fn (B Z) 1:=pg 287 [2] (jI Z) (oo Z) rfl rfl rfl (by kernel_rfl)
noncomputable def iO:bb (B Z) eT 1 0:=(.cons (.i9 [(⟨39,by kernel_rfl⟩,(sP 204 8 13)),(⟨1,by kernel_rfl⟩,(sP 204 15 19))] 0 (sP 204 8 19) (.tup (.cons (aL 2 325 1 204 23 27 32) (.cons (aL 2 325 1 204 34 38 43) .nil)) 0 (sP 204 22 44)) (sP 204 8 44))
 (.cons (.while 4000 (.and (.cons (.cmp (lC 1 205 14 18) (nc _) (bu (.cons (aL 2 325 3 205 25 29 34) .nil) (sP 205 21 24) (sP 205 21 35)) (sP 205 14 35)) (.cons (.cmp (.item (aL 2 325 3 205 40 44 49) (lC 1 205 50 54) (sP 205 40 55)) (fY _) (lC 40 205 59 64) (sP 205 40 64)) .nil)) (sP 205 14 64)) (.cons (.assign ⟨1,by kernel_rfl⟩ (sP 206 12 16) (.bin (lC 1 206 19 23) (aB _) (iC 1 206 26 27) (sP 206 19 27)) (sP 206 12 27))
 .nil) ⟨205,8,206,27⟩)
 (.cons (.setAttr (lC 2 207 8 12) 325 1 (sP 207 8 17) (lC 1 207 20 24) (sP 207 8 24) (ca Z 325 1 rfl))
 (.cons (.ret (.ja (aL 2 325 3 208 15 19 24) (lC 39 208 25 30) (lC 1 208 31 35) (sP 208 25 35) (sP 208 15 36)) (sP 208 8 36))
 .nil))))
theorem mI:(B Z).Ok→FnAt (B Z) 301 eT [2,40] (iO Z).py:=nO Z 25 rfl (by kernel_rfl)
noncomputable def a9:Fn (B Z) 1:=pg 301 [2,40] (iO Z) (mI Z) rfl rfl rfl (by kernel_rfl)
noncomputable def jH:bb (B Z) fV 2 0:=(.cons (.expr (.bp (lC 2 197 8 12) 325 37 (a9 Z) (.cons (.str _ _ _ (lT " \t\r\n") 0 (sP 197 20 29)) .nil) (sP 197 8 19) (sP 197 8 30) (by decide) (me Z 325 37 301 rfl)) (sP 197 8 30))
 (.cons (.while 4000 (.cmp (.bp (lC 2 198 14 18) 325 26 (aG Z) .nil (sP 198 14 23) (sP 198 14 25) (by decide) (me Z 325 26 287 rfl)) (ba _) (.str _ _ _ (lT "%") 0 (sP 198 29 32)) (sP 198 14 32)) (.cons (.assign ⟨38,by kernel_rfl⟩ (sP 199 12 15) (.bm (aL 2 325 3 199 18 22 27) (tn _) (.cons (.str _ _ _ (lT "\n") 0 (sP 199 33 37)) (.cons (aL 2 325 1 199 39 43 48) .nil)) (sP 199 18 32) (sP 199 18 49)) (sP 199 12 49))
 (.cons (.setAttr (lC 2 200 12 16) 325 1 (sP 200 12 21) (.ite (.cmp (lC 38 200 31 34) (rO _) (iC 0 200 38 39) (sP 200 31 39)) (lC 38 200 24 27) (bu (.cons (aL 2 325 3 200 49 53 58) .nil) (sP 200 45 48) (sP 200 45 59)) (sP 200 24 59)) (sP 200 12 59) (ca Z 325 1 rfl))
 (.cons (.expr (.bp (lC 2 201 12 16) 325 37 (a9 Z) (.cons (.str _ _ _ (lT " \t\r\n") 0 (sP 201 24 33)) .nil) (sP 201 12 23) (sP 201 12 34) (by decide) (me Z 325 37 301 rfl)) (sP 201 12 34))
 .nil))) ⟨198,8,201,34⟩)
 .nil))
theorem om:(B Z).Ok→FnAt (B Z) 294 fV [2] (jH Z).py:=nO Z 24 rfl (by kernel_rfl)
noncomputable def c0:Fn (B Z) 2:=pg 294 [2] (jH Z) (om Z) rfl rfl rfl (by kernel_rfl)
noncomputable def gK:bb (B Z) eb 2 0:=(.cons (.i9 [(⟨39,by kernel_rfl⟩,(sP 211 8 13)),(⟨24,by kernel_rfl⟩,(sP 211 15 21))] 0 (sP 211 8 21) (.tup (.cons (aL 2 325 1 211 25 29 34) (.cons (.newList .nil (sP 211 36 38)) .nil)) 0 (sP 211 24 39)) (sP 211 8 39))
 (.cons (.setAttr (lC 2 212 8 12) 325 1 (sP 212 8 17) (.bin (aL 2 325 1 212 20 24 29) (aB _) (iC 1 212 32 33) (sP 212 20 33)) (sP 212 8 33) (ca Z 325 1 rfl))
 (.cons (.while 4000 (.cmp (.bp (lC 2 213 14 18) 325 26 (aG Z) .nil (sP 213 14 23) (sP 213 14 25) (by decide) (me Z 325 26 287 rfl)) (dH _) (.tup (.cons (.str _ _ _ (lT "") 0 (sP 213 34 36)) (.cons (.str _ _ _ (lT "\n") 0 (sP 213 38 42)) (.cons (.str _ _ _ (lT "\"") 0 (sP 213 44 47)) .nil))) 0 (sP 213 33 48)) (sP 213 14 48)) (.cons (.assign ⟨26,by kernel_rfl⟩ (sP 214 12 16) (.bp (lC 2 214 19 23) 325 26 (aG Z) .nil (sP 214 19 28) (sP 214 19 30) (by decide) (me Z 325 26 287 rfl)) (sP 214 12 30))
 (.cons (.ite (.cmp (lC 26 215 15 19) (ba _) (.str _ _ _ (lT "\\") 0 (sP 215 23 27)) (sP 215 15 27)) (.cons (.setAttr (lC 2 216 16 20) 325 1 (sP 216 16 25) (.bin (aL 2 325 1 216 28 32 37) (aB _) (iC 1 216 40 41) (sP 216 28 41)) (sP 216 16 41) (ca Z 325 1 rfl))
 (.cons (.ite (.cmp (.bp (lC 2 217 19 23) 325 26 (aG Z) .nil (sP 217 19 28) (sP 217 19 30) (by decide) (me Z 325 26 287 rfl)) (dH _) (.tup (.cons (.str _ _ _ (lT "n") 0 (sP 217 39 42)) (.cons (.str _ _ _ (lT "\"") 0 (sP 217 44 47)) (.cons (.str _ _ _ (lT "\\") 0 (sP 217 49 53)) .nil))) 0 (sP 217 38 54)) (sP 217 19 54)) (.cons (.raise ⟨"TextFault",by rfl,by decide +kernel⟩ (.str _ _ _ (lT "a backslash stands ahead of n, a quote or a backslash") 0 (sP 218 36 91)) (.bin (aL 2 325 1 218 93 97 102) (si _) (iC 1 218 105 106) (sP 218 93 106)) (sP 218 26 35) (sP 218 26 107) (sP 218 20 107) (kM Z))
 .nil) .nil ⟨217,16,218,107⟩)
 (.cons (.assign ⟨26,by kernel_rfl⟩ (sP 219 16 20) (.ite (.cmp (.bp (lC 2 219 31 35) 325 26 (aG Z) .nil (sP 219 31 40) (sP 219 31 42) (by decide) (me Z 325 26 287 rfl)) (ba _) (.str _ _ _ (lT "n") 0 (sP 219 46 49)) (sP 219 31 49)) (.str _ _ _ (lT "\n") 0 (sP 219 23 27)) (.bp (lC 2 219 55 59) 325 26 (aG Z) .nil (sP 219 55 64) (sP 219 55 66) (by decide) (me Z 325 26 287 rfl)) (sP 219 23 66)) (sP 219 16 66))
 .nil))) .nil ⟨215,12,219,66⟩)
 (.cons (.expr (.bm (lC 24 220 12 18) (aH _) (.cons (lC 26 220 26 30) .nil) (sP 220 12 25) (sP 220 12 31)) (sP 220 12 31))
 (.cons (.setAttr (lC 2 221 12 16) 325 1 (sP 221 12 21) (.bin (aL 2 325 1 221 24 28 33) (aB _) (iC 1 221 36 37) (sP 221 24 37)) (sP 221 12 37) (ca Z 325 1 rfl))
 .nil)))) ⟨213,8,221,37⟩)
 (.cons (.ite (.cmp (.bp (lC 2 222 11 15) 325 26 (aG Z) .nil (sP 222 11 20) (sP 222 11 22) (by decide) (me Z 325 26 287 rfl)) (dq _) (.str _ _ _ (lT "\"") 0 (sP 222 26 29)) (sP 222 11 29)) (.cons (.raise ⟨"TextFault",by rfl,by decide +kernel⟩ (.str _ _ _ (lT "a text is not closed") 0 (sP 223 28 50)) (lC 39 223 52 57) (sP 223 18 27) (sP 223 18 58) (sP 223 12 58) (kM Z))
 .nil) .nil ⟨222,8,223,58⟩)
 (.cons (.setAttr (lC 2 224 8 12) 325 1 (sP 224 8 17) (.bin (aL 2 325 1 224 20 24 29) (aB _) (iC 1 224 32 33) (sP 224 20 33)) (sP 224 8 33) (ca Z 325 1 rfl))
 (.cons (.ret (.bm (.str _ _ _ (lT "") 0 (sP 225 15 17)) (dS _) (.cons (lC 24 225 23 29) .nil) (sP 225 15 22) (sP 225 15 30)) (sP 225 8 30))
 .nil))))))
theorem kP:(B Z).Ok→FnAt (B Z) 308 eb [2] (gK Z).py:=nO Z 26 rfl (by kernel_rfl)
noncomputable def cH:Fn (B Z) 2:=pg 308 [2] (gK Z) (kP Z) rfl rfl rfl (by kernel_rfl)
noncomputable def iP:bb (B Z) eU 2 0:=(.cons (.i9 [(⟨39,by kernel_rfl⟩,(sP 228 8 13)),(⟨41,by kernel_rfl⟩,(sP 228 15 23))] 0 (sP 228 8 23) (.tup (.cons (aL 2 325 1 228 27 31 36) (.cons (.cmp (.bp (lC 2 228 38 42) 325 26 (aG Z) .nil (sP 228 38 47) (sP 228 38 49) (by decide) (me Z 325 26 287 rfl)) (ba _) (.str _ _ _ (lT "-") 0 (sP 228 53 56)) (sP 228 38 56)) .nil)) 0 (sP 228 26 57)) (sP 228 8 57))
 (.cons (.ite (.of (lC 41 229 11 19)) (.cons (.setAttr (lC 2 230 12 16) 325 1 (sP 230 12 21) (.bin (aL 2 325 1 230 24 28 33) (aB _) (iC 1 230 36 37) (sP 230 24 37)) (sP 230 12 37) (ca Z 325 1 rfl))
 .nil) .nil ⟨229,8,230,37⟩)
 (.cons (.assign ⟨42,by kernel_rfl⟩ (sP 231 8 14) (.bp (lC 2 231 17 21) 325 37 (a9 Z) (.cons (.glob ⟨"DIGITS",by rfl,by decide +kernel⟩ eK (lJ Z) (sP 231 29 35)) .nil) (sP 231 17 28) (sP 231 17 36) (by decide) (me Z 325 37 301 rfl)) (sP 231 8 36))
 (.cons (.ite (.or (.cons (.cmp (lC 42 232 11 17) (ba _) (.str _ _ _ (lT "") 0 (sP 232 21 23)) (sP 232 11 23)) (.cons (.cmp (bu (.cons (lC 42 232 31 37) .nil) (sP 232 27 30) (sP 232 27 38)) (jP _) (.glob ⟨"MOST_DIGITS",by rfl,by decide +kernel⟩ dR (jd Z) (sP 232 41 52)) (sP 232 27 52)) .nil)) (sP 232 11 52)) (.cons (.raise ⟨"TextFault",by rfl,by decide +kernel⟩ (.iK (.str _ _ _ (lT "a number has from one to ") 0 (sP 233 30 55)) (.fmt (.glob ⟨"MOST_DIGITS",by rfl,by decide +kernel⟩ dR (jd Z) (sP 233 56 67)) (sP 233 55 68)) (.cons (.str _ _ _ (lT " digits") 0 (sP 233 68 75)) .nil) (sP 233 28 76)) (lC 39 233 78 83) (sP 233 18 27) (sP 233 18 84) (sP 233 12 84) (kM Z))
 .nil) .nil ⟨232,8,233,84⟩)
 (.cons (.ret (.ite (.of (lC 41 234 31 39)) (.neg (zo (.cons (lC 42 234 20 26) .nil) (sP 234 16 19) (sP 234 16 27)) (sP 234 15 27)) (zo (.cons (lC 42 234 49 55) .nil) (sP 234 45 48) (sP 234 45 56)) (sP 234 15 56)) (sP 234 8 56))
 .nil)))))
theorem mJ:(B Z).Ok→FnAt (B Z) 315 eU [2] (iP Z).py:=nO Z 27 rfl (by kernel_rfl)
noncomputable def de:Fn (B Z) 2:=pg 315 [2] (iP Z) (mJ Z) rfl rfl rfl (by kernel_rfl)
noncomputable def i7:bb (B Z) fg 3 0:=(.cons (.expr (.bp (lC 2 237 8 12) 325 43 (c0 Z) .nil (sP 237 8 17) (sP 237 8 19) (by decide) (me Z 325 43 294 rfl)) (sP 237 8 19))
 (.cons (.i9 [(⟨39,by kernel_rfl⟩,(sP 238 8 13)),(⟨26,by kernel_rfl⟩,(sP 238 15 19))] 0 (sP 238 8 19) (.tup (.cons (aL 2 325 1 238 23 27 32) (.cons (.bp (lC 2 238 34 38) 325 26 (aG Z) .nil (sP 238 34 43) (sP 238 34 45) (by decide) (me Z 325 26 287 rfl)) .nil)) 0 (sP 238 22 46)) (sP 238 8 46))
 (.cons (.ite (.cmp (lC 26 239 11 15) (ba _) (.str _ _ _ (lT "") 0 (sP 239 19 21)) (sP 239 11 21)) (.cons (.ret (.tup (.cons (.str _ _ _ (lT "end") 0 (sP 240 20 25)) (.cons (.str _ _ _ (lT "") 0 (sP 240 27 29)) (.cons (lC 39 240 31 36) .nil))) 0 (sP 240 19 37)) (sP 240 12 37))
 .nil) .nil ⟨239,8,240,37⟩)
 (.cons (.ite (.cmp (lC 26 241 11 15) (ba _) (.str _ _ _ (lT "\"") 0 (sP 241 19 22)) (sP 241 11 22)) (.cons (.ret (.tup (.cons (.str _ _ _ (lT "text") 0 (sP 242 20 26)) (.cons (.bp (lC 2 242 28 32) 325 44 (cH Z) .nil (sP 242 28 42) (sP 242 28 44) (by decide) (me Z 325 44 308 rfl)) (.cons (lC 39 242 46 51) .nil))) 0 (sP 242 19 52)) (sP 242 12 52))
 .nil) .nil ⟨241,8,242,52⟩)
 (.cons (.ite (.or (.cons (.cmp (lC 26 243 11 15) (ba _) (.str _ _ _ (lT "-") 0 (sP 243 19 22)) (sP 243 11 22)) (.cons (.cmp (lC 26 243 26 30) (fY _) (.glob ⟨"DIGITS",by rfl,by decide +kernel⟩ eK (lJ Z) (sP 243 34 40)) (sP 243 26 40)) .nil)) (sP 243 11 40)) (.cons (.ret (.tup (.cons (.str _ _ _ (lT "number") 0 (sP 244 20 28)) (.cons (.bp (lC 2 244 30 34) 325 27 (de Z) .nil (sP 244 30 41) (sP 244 30 43) (by decide) (me Z 325 27 315 rfl)) (.cons (lC 39 244 45 50) .nil))) 0 (sP 244 19 51)) (sP 244 12 51))
 .nil) .nil ⟨243,8,244,51⟩)
 (.cons (.ite (.cmp (lC 26 245 11 15) (fY _) (.glob ⟨"LETTERS",by rfl,by decide +kernel⟩ eC (kh Z) (sP 245 19 26)) (sP 245 11 26)) (.cons (.ret (.tup (.cons (.str _ _ _ (lT "word") 0 (sP 246 20 26)) (.cons (.bp (lC 2 246 28 32) 325 37 (a9 Z) (.cons (.bin (.glob ⟨"LETTERS",by rfl,by decide +kernel⟩ eC (kh Z) (sP 246 40 47)) (aB _) (.glob ⟨"DIGITS",by rfl,by decide +kernel⟩ eK (lJ Z) (sP 246 50 56)) (sP 246 40 56)) .nil) (sP 246 28 39) (sP 246 28 57) (by decide) (me Z 325 37 301 rfl)) (.cons (lC 39 246 59 64) .nil))) 0 (sP 246 19 65)) (sP 246 12 65))
 .nil) .nil ⟨245,8,246,65⟩)
 (.cons (.ite (.cmp (.ja (aL 2 325 3 247 11 15 20) (lC 39 247 21 26) (.bin (lC 39 247 27 32) (aB _) (iC 2 247 35 36) (sP 247 27 36)) (sP 247 21 36) (sP 247 11 37)) (ba _) (.str _ _ _ (lT "..") 0 (sP 247 41 45)) (sP 247 11 45)) (.cons (.setAttr (lC 2 248 12 16) 325 1 (sP 248 12 21) (.bin (lC 39 248 24 29) (aB _) (iC 2 248 32 33) (sP 248 24 33)) (sP 248 12 33) (ca Z 325 1 rfl))
 (.cons (.ret (.tup (.cons (.str _ _ _ (lT "sign") 0 (sP 249 20 26)) (.cons (.str _ _ _ (lT "..") 0 (sP 249 28 32)) (.cons (lC 39 249 34 39) .nil))) 0 (sP 249 19 40)) (sP 249 12 40))
 .nil)) .nil ⟨247,8,249,40⟩)
 (.cons (.ite (.cmp (lC 26 250 11 15) (dH _) (.glob ⟨"SIGNS",by rfl,by decide +kernel⟩ mF (El Z) (sP 250 23 28)) (sP 250 11 28)) (.cons (.raise ⟨"TextFault",by rfl,by decide +kernel⟩ (.iK (.str _ _ _ (lT "a sign stands for nothing: ") 0 (sP 251 30 57)) (.fmt (lC 26 251 58 62) (sP 251 57 63)) .nil (sP 251 28 64)) (lC 39 251 66 71) (sP 251 18 27) (sP 251 18 72) (sP 251 12 72) (kM Z))
 .nil) .nil ⟨250,8,251,72⟩)
 (.cons (.setAttr (lC 2 252 8 12) 325 1 (sP 252 8 17) (.bin (lC 39 252 20 25) (aB _) (iC 1 252 28 29) (sP 252 20 29)) (sP 252 8 29) (ca Z 325 1 rfl))
 (.cons (.ret (.tup (.cons (.str _ _ _ (lT "sign") 0 (sP 253 16 22)) (.cons (lC 26 253 24 28) (.cons (lC 39 253 30 35) .nil))) 0 (sP 253 15 36)) (sP 253 8 36))
 .nil))))))))))
theorem nB:(B Z).Ok→FnAt (B Z) 322 fg [2] (i7 Z).py:=nO Z 28 rfl (by kernel_rfl)
noncomputable def eh:Fn (B Z) 3:=pg 322 [2] (i7 Z) (nB Z) rfl rfl rfl (by kernel_rfl)
end
noncomputable abbrev RL:=Res (av×Loc)
noncomputable abbrev cV (v:AV):List AV→aa→Res (List AV):=λvs H=>.ok (v::vs) H
noncomputable abbrev rt (l:Loc):AV→aa→Res (av×Loc):=λv H=>.ok (.ret v,l) H
noncomputable abbrev nz {α:Type} (l:Loc):α→aa→Res (av×Loc):=λ_ H=>.ok (.next,l) H
noncomputable abbrev nx:Loc→aa→Res (av×Loc):=λl H=>.ok (.next,l) H
noncomputable def au (fl:av×Loc) (H:aa) (k:Loc→aa→Res (av×Loc)):Res (av×Loc):=match fl with
 |(.next,loc)=>k loc H
 |(.ret v,loc)=>.ok (.ret v,loc) H
noncomputable def cx (C x:Nat) (v:AV) (H:aa) (k:aa→Res AV):Res AV:=match kq C x v H with
 |true=>k H
 |false=>.stuck
noncomputable def gp {b:Base} {name:Str} (M:Bm b name) (v:AV) (H:aa) (k:aa→Res AV):Res AV:=match M.is v H with
 |true=>k H
 |false=>.stuck
noncomputable def wK (v:AV) (H:aa):Res AV:=sH (λi=>.ok (.int (-i)) H) v
noncomputable def EV (v k k':AV) (H:aa):Res AV:=iE (λi=>iE (λj=>ja v i j H) k') k
noncomputable def HL (v k:AV) (H:aa):Res AV:=iE (λj=>sliceFrom v j H) k
noncomputable def A7 (v k:AV) (H:aa):Res AV:=iE (λj=>sliceTo v j H) k
noncomputable def cG (v k:AV) (H:aa):Res AV:=iE (λj=>bV (λu=>.ok u H) (kf v (.int j) H)) k
noncomputable def sT (v k:AV) (H:aa):Res AV:=wW k (tC v H) H
noncomputable def d6 (acc:List Nat) (H:aa):Res AV:=if acc.length≤sizeLine then .ok (.str acc) H else .stuck
noncomputable def aS (acc:List Nat) (v:AV) (k:List Nat→Res AV):Res AV:=match v with
 |.str l=>if (acc++l).length≤sizeLine then k (acc++l) else .stuck
 |_=>.stuck
noncomputable def putAll:List Nat→List AV→Loc→Option Loc
 |[],[],loc=>some loc
 |x::r,v::vs,loc=>putAll r vs ((x,v)::loc)
 |_,_,_=>none
noncomputable def lj (xs:List Nat) (loc:Loc) (v:AV):Option Loc:=match v with
 |.tup l=>putAll xs l loc
 |_=>none
noncomputable def sf (xs:List Nat) (v:AV) (loc:Loc) (H:aa):Res (av×Loc):=match v with
 |.tup l=>match putAll xs.reverse l.reverse loc with
  |some loc'=>.ok (.next,loc') H
  |none=>.stuck
 |_=>.stuck
noncomputable def lQ (xs:List Nat) (v:AV) (loc:Loc) (H:aa):Res (av×Loc):=match v with
 |.tup l=>match putAll xs l loc with
  |some loc'=>.ok (.next,loc') H
  |none=>.stuck
 |_=>.stuck
noncomputable def I4 (z:Option AV):Option (List Nat):=match z with
 |some (.int i)=>if i.natAbs < 1152921504606846976 then some (mA i) else none
 |_=>none
noncomputable def EZ (c:Nat) (z:Option (List Nat)) (v:AV) (H:aa):Res AV:=match z with
 |some z=>vE c z v H
 |none=>.stuck
noncomputable def nq (k:List Nat) (r:Res AV) (f:aa→Res (List (List Nat×AV))):Res (List (List Nat×AV)):=match r with
 |.ok v H=>(f H).bind λvs H=>.ok ((k,v)::vs) H
 |_=>.stuck
noncomputable def zu (r:Res (List (List Nat×AV))):Res AV:=match r with
 |.ok vs H=>if (vs.map (·.1)).Nodup then .ok (.ref H.length) (H++[.dict vs]) else .stuck
 |_=>.stuck
section
variable {α cq cP dA ei gd iY nD EM:Type} {r:Res α} {a:α} {H:aa} {f1:α→aa→Res cq} {f2:cq→aa→Res cP} {f3:cP→aa→Res dA} {f4:dA→aa→Res ei} {f5:ei→aa→Res gd} {f6:gd→aa→Res iY} {f7:iY→aa→Res nD} {f8:nD→aa→Res EM}
theorem b1 {X:Res cq} (h:r=.ok a H) (q:f1 a H=X):r.bind f1=X:=by rw [h];exact q
theorem c1 {r2:Res α} {X:Res cq} (h:r=r2) (q:r2.bind f1=X):r.bind f1=X:=by rw [h];exact q
theorem k1 {X:Res cq} (q:f1 a H=X):(Res.ok a H).bind f1=X:=q
theorem b2 {X:Res cP} (h:r=.ok a H) (q:(f1 a H).bind f2=X):(r.bind f1).bind f2=X:=by rw [h];exact q
theorem c2 {r2:Res α} {X:Res cP} (h:r=r2) (q:(r2.bind f1).bind f2=X):(r.bind f1).bind f2=X:=by rw [h];exact q
theorem k2 {X:Res cP} (q:(f1 a H).bind f2=X):((Res.ok a H).bind f1).bind f2=X:=q
theorem b3 {X:Res dA} (h:r=.ok a H) (q:((f1 a H).bind f2).bind f3=X):((r.bind f1).bind f2).bind f3=X:=by rw [h];exact q
theorem c3 {r2:Res α} {X:Res dA} (h:r=r2) (q:((r2.bind f1).bind f2).bind f3=X):((r.bind f1).bind f2).bind f3=X:=by rw [h];exact q
theorem k3 {X:Res dA} (q:((f1 a H).bind f2).bind f3=X):(((Res.ok a H).bind f1).bind f2).bind f3=X:=q
theorem b4 {X:Res ei} (h:r=.ok a H) (q:(((f1 a H).bind f2).bind f3).bind f4=X):(((r.bind f1).bind f2).bind f3).bind f4=X:=by rw [h];exact q
theorem c4 {r2:Res α} {X:Res ei} (h:r=r2) (q:(((r2.bind f1).bind f2).bind f3).bind f4=X):(((r.bind f1).bind f2).bind f3).bind f4=X:=by rw [h];exact q
theorem k4 {X:Res ei} (q:(((f1 a H).bind f2).bind f3).bind f4=X):((((Res.ok a H).bind f1).bind f2).bind f3).bind f4=X:=q
theorem b5 {X:Res gd} (h:r=.ok a H) (q:((((f1 a H).bind f2).bind f3).bind f4).bind f5=X):((((r.bind f1).bind f2).bind f3).bind f4).bind f5=X:=by rw [h];exact q
theorem c5 {r2:Res α} {X:Res gd} (h:r=r2) (q:((((r2.bind f1).bind f2).bind f3).bind f4).bind f5=X):((((r.bind f1).bind f2).bind f3).bind f4).bind f5=X:=by rw [h];exact q
theorem k5 {X:Res gd} (q:((((f1 a H).bind f2).bind f3).bind f4).bind f5=X):(((((Res.ok a H).bind f1).bind f2).bind f3).bind f4).bind f5=X:=q
theorem b6 {X:Res iY} (h:r=.ok a H) (q:(((((f1 a H).bind f2).bind f3).bind f4).bind f5).bind f6=X):(((((r.bind f1).bind f2).bind f3).bind f4).bind f5).bind f6=X:=by rw [h];exact q
theorem c6 {r2:Res α} {X:Res iY} (h:r=r2) (q:(((((r2.bind f1).bind f2).bind f3).bind f4).bind f5).bind f6=X):(((((r.bind f1).bind f2).bind f3).bind f4).bind f5).bind f6=X:=by rw [h];exact q
theorem k6 {X:Res iY} (q:(((((f1 a H).bind f2).bind f3).bind f4).bind f5).bind f6=X):((((((Res.ok a H).bind f1).bind f2).bind f3).bind f4).bind f5).bind f6=X:=q
theorem b7 {X:Res nD} (h:r=.ok a H) (q:((((((f1 a H).bind f2).bind f3).bind f4).bind f5).bind f6).bind f7=X):((((((r.bind f1).bind f2).bind f3).bind f4).bind f5).bind f6).bind f7=X:=by rw [h];exact q
theorem c7 {r2:Res α} {X:Res nD} (h:r=r2) (q:((((((r2.bind f1).bind f2).bind f3).bind f4).bind f5).bind f6).bind f7=X):((((((r.bind f1).bind f2).bind f3).bind f4).bind f5).bind f6).bind f7=X:=by rw [h];exact q
theorem k7 {X:Res nD} (q:((((((f1 a H).bind f2).bind f3).bind f4).bind f5).bind f6).bind f7=X):(((((((Res.ok a H).bind f1).bind f2).bind f3).bind f4).bind f5).bind f6).bind f7=X:=q
theorem b8 {X:Res EM} (h:r=.ok a H) (q:(((((((f1 a H).bind f2).bind f3).bind f4).bind f5).bind f6).bind f7).bind f8=X):(((((((r.bind f1).bind f2).bind f3).bind f4).bind f5).bind f6).bind f7).bind f8=X:=by rw [h];exact q
theorem c8 {r2:Res α} {X:Res EM} (h:r=r2) (q:(((((((r2.bind f1).bind f2).bind f3).bind f4).bind f5).bind f6).bind f7).bind f8=X):(((((((r.bind f1).bind f2).bind f3).bind f4).bind f5).bind f6).bind f7).bind f8=X:=by rw [h];exact q
theorem k8 {X:Res EM} (q:(((((((f1 a H).bind f2).bind f3).bind f4).bind f5).bind f6).bind f7).bind f8=X):((((((((Res.ok a H).bind f1).bind f2).bind f3).bind f4).bind f5).bind f6).bind f7).bind f8=X:=q
end
section
variable {α cq cP dA ei gd iY nD:Type} {X:Res AV} {r r2:Res α} {a:α} {H:aa}
theorem l7 {r r2:Res (av×Loc)} (h:r=r2) (q:aF r2=X):aF r=X:=h▸q
theorem Kv {f1:α→aa→Res (av×Loc)} (h:r=.ok a H) (q:aF (f1 a H)=X):aF (r.bind f1)=X:=by rw [h];exact q
theorem Pa {f1:α→aa→Res (av×Loc)} (h:r=r2) (q:aF (r2.bind f1)=X):aF (r.bind f1)=X:=by rw [h];exact q
theorem yG {f1:α→aa→Res (av×Loc)} (q:aF (f1 a H)=X):aF ((Res.ok a H).bind f1)=X:=q
theorem oy {f1:α→aa→Res cq} {f2:cq→aa→Res (av×Loc)} (h:r=.ok a H) (q:aF ((f1 a H).bind f2)=X):aF ((r.bind f1).bind f2)=X:=by rw [h];exact q
theorem AO {f1:α→aa→Res cq} {f2:cq→aa→Res (av×Loc)} (h:r=r2) (q:aF ((r2.bind f1).bind f2)=X):aF ((r.bind f1).bind f2)=X:=by rw [h];exact q
theorem MJ {f1:α→aa→Res cq} {f2:cq→aa→Res (av×Loc)} (q:aF ((f1 a H).bind f2)=X):aF (((Res.ok a H).bind f1).bind f2)=X:=q
theorem qZ {f1:α→aa→Res cq} {f2:cq→aa→Res cP} {f3:cP→aa→Res (av×Loc)} (h:r=.ok a H) (q:aF (((f1 a H).bind f2).bind f3)=X):aF (((r.bind f1).bind f2).bind f3)=X:=by rw [h];exact q
theorem vT {f1:α→aa→Res cq} {f2:cq→aa→Res cP} {f3:cP→aa→Res (av×Loc)} (h:r=r2) (q:aF (((r2.bind f1).bind f2).bind f3)=X):aF (((r.bind f1).bind f2).bind f3)=X:=by rw [h];exact q
theorem rZ {f1:α→aa→Res cq} {f2:cq→aa→Res cP} {f3:cP→aa→Res (av×Loc)} (q:aF (((f1 a H).bind f2).bind f3)=X):aF ((((Res.ok a H).bind f1).bind f2).bind f3)=X:=q
theorem qY {f1:α→aa→Res cq} {f2:cq→aa→Res cP} {f3:cP→aa→Res dA} {f4:dA→aa→Res (av×Loc)} (h:r=.ok a H) (q:aF ((((f1 a H).bind f2).bind f3).bind f4)=X):aF ((((r.bind f1).bind f2).bind f3).bind f4)=X:=by rw [h];exact q
theorem nF {f1:α→aa→Res cq} {f2:cq→aa→Res cP} {f3:cP→aa→Res dA} {f4:dA→aa→Res (av×Loc)} (h:r=r2) (q:aF ((((r2.bind f1).bind f2).bind f3).bind f4)=X):aF ((((r.bind f1).bind f2).bind f3).bind f4)=X:=by rw [h];exact q
theorem ow {f1:α→aa→Res cq} {f2:cq→aa→Res cP} {f3:cP→aa→Res dA} {f4:dA→aa→Res (av×Loc)} (q:aF ((((f1 a H).bind f2).bind f3).bind f4)=X):aF (((((Res.ok a H).bind f1).bind f2).bind f3).bind f4)=X:=q
theorem Ku {f1:α→aa→Res cq} {f2:cq→aa→Res cP} {f3:cP→aa→Res dA} {f4:dA→aa→Res ei} {f5:ei→aa→Res (av×Loc)} (h:r=.ok a H) (q:aF (((((f1 a H).bind f2).bind f3).bind f4).bind f5)=X):aF (((((r.bind f1).bind f2).bind f3).bind f4).bind f5)=X:=by rw [h];exact q
theorem yH {f1:α→aa→Res cq} {f2:cq→aa→Res cP} {f3:cP→aa→Res dA} {f4:dA→aa→Res ei} {f5:ei→aa→Res (av×Loc)} (h:r=r2) (q:aF (((((r2.bind f1).bind f2).bind f3).bind f4).bind f5)=X):aF (((((r.bind f1).bind f2).bind f3).bind f4).bind f5)=X:=by rw [h];exact q
theorem EO {f1:α→aa→Res cq} {f2:cq→aa→Res cP} {f3:cP→aa→Res dA} {f4:dA→aa→Res ei} {f5:ei→aa→Res (av×Loc)} (q:aF (((((f1 a H).bind f2).bind f3).bind f4).bind f5)=X):aF ((((((Res.ok a H).bind f1).bind f2).bind f3).bind f4).bind f5)=X:=q
theorem MM {f1:α→aa→Res cq} {f2:cq→aa→Res cP} {f3:cP→aa→Res dA} {f4:dA→aa→Res ei} {f5:ei→aa→Res gd} {f6:gd→aa→Res (av×Loc)} (h:r=.ok a H) (q:aF ((((((f1 a H).bind f2).bind f3).bind f4).bind f5).bind f6)=X):aF ((((((r.bind f1).bind f2).bind f3).bind f4).bind f5).bind f6)=X:=by rw [h];exact q
theorem Hs {f1:α→aa→Res cq} {f2:cq→aa→Res cP} {f3:cP→aa→Res dA} {f4:dA→aa→Res ei} {f5:ei→aa→Res gd} {f6:gd→aa→Res (av×Loc)} (h:r=r2) (q:aF ((((((r2.bind f1).bind f2).bind f3).bind f4).bind f5).bind f6)=X):aF ((((((r.bind f1).bind f2).bind f3).bind f4).bind f5).bind f6)=X:=by rw [h];exact q
theorem Kt {f1:α→aa→Res cq} {f2:cq→aa→Res cP} {f3:cP→aa→Res dA} {f4:dA→aa→Res ei} {f5:ei→aa→Res gd} {f6:gd→aa→Res (av×Loc)} (q:aF ((((((f1 a H).bind f2).bind f3).bind f4).bind f5).bind f6)=X):aF (((((((Res.ok a H).bind f1).bind f2).bind f3).bind f4).bind f5).bind f6)=X:=q
theorem Pc {f1:α→aa→Res cq} {f2:cq→aa→Res cP} {f3:cP→aa→Res dA} {f4:dA→aa→Res ei} {f5:ei→aa→Res gd} {f6:gd→aa→Res iY} {f7:iY→aa→Res (av×Loc)} (h:r=.ok a H) (q:aF (((((((f1 a H).bind f2).bind f3).bind f4).bind f5).bind f6).bind f7)=X):aF (((((((r.bind f1).bind f2).bind f3).bind f4).bind f5).bind f6).bind f7)=X:=by rw [h];exact q
theorem O9 {f1:α→aa→Res cq} {f2:cq→aa→Res cP} {f3:cP→aa→Res dA} {f4:dA→aa→Res ei} {f5:ei→aa→Res gd} {f6:gd→aa→Res iY} {f7:iY→aa→Res (av×Loc)} (h:r=r2) (q:aF (((((((r2.bind f1).bind f2).bind f3).bind f4).bind f5).bind f6).bind f7)=X):aF (((((((r.bind f1).bind f2).bind f3).bind f4).bind f5).bind f6).bind f7)=X:=by rw [h];exact q
theorem O8 {f1:α→aa→Res cq} {f2:cq→aa→Res cP} {f3:cP→aa→Res dA} {f4:dA→aa→Res ei} {f5:ei→aa→Res gd} {f6:gd→aa→Res iY} {f7:iY→aa→Res (av×Loc)} (q:aF (((((((f1 a H).bind f2).bind f3).bind f4).bind f5).bind f6).bind f7)=X):aF ((((((((Res.ok a H).bind f1).bind f2).bind f3).bind f4).bind f5).bind f6).bind f7)=X:=q
theorem Pb {f1:α→aa→Res cq} {f2:cq→aa→Res cP} {f3:cP→aa→Res dA} {f4:dA→aa→Res ei} {f5:ei→aa→Res gd} {f6:gd→aa→Res iY} {f7:iY→aa→Res nD} {f8:nD→aa→Res (av×Loc)} (h:r=.ok a H) (q:aF ((((((((f1 a H).bind f2).bind f3).bind f4).bind f5).bind f6).bind f7).bind f8)=X):aF ((((((((r.bind f1).bind f2).bind f3).bind f4).bind f5).bind f6).bind f7).bind f8)=X:=by rw [h];exact q
theorem MK {f1:α→aa→Res cq} {f2:cq→aa→Res cP} {f3:cP→aa→Res dA} {f4:dA→aa→Res ei} {f5:ei→aa→Res gd} {f6:gd→aa→Res iY} {f7:iY→aa→Res nD} {f8:nD→aa→Res (av×Loc)} (h:r=r2) (q:aF ((((((((r2.bind f1).bind f2).bind f3).bind f4).bind f5).bind f6).bind f7).bind f8)=X):aF ((((((((r.bind f1).bind f2).bind f3).bind f4).bind f5).bind f6).bind f7).bind f8)=X:=by rw [h];exact q
theorem O7 {f1:α→aa→Res cq} {f2:cq→aa→Res cP} {f3:cP→aa→Res dA} {f4:dA→aa→Res ei} {f5:ei→aa→Res gd} {f6:gd→aa→Res iY} {f7:iY→aa→Res nD} {f8:nD→aa→Res (av×Loc)} (q:aF ((((((((f1 a H).bind f2).bind f3).bind f4).bind f5).bind f6).bind f7).bind f8)=X):aF (((((((((Res.ok a H).bind f1).bind f2).bind f3).bind f4).bind f5).bind f6).bind f7).bind f8)=X:=q
end
theorem ae {α β:Type} {a:α} {H:aa} {f:α→aa→Res β}:(Res.ok a H).bind f=f a H:=rfl
section
variable (Z:U)
noncomputable def jL (loc:Loc) (H:aa):RL:=
 (((((ab loc 2 H).bind λv H=>aD 325 3 v H).bind λv H=>((ab loc 2 H).bind λv H=>aD 325 1 v H).bind λi H=>(((ab loc 2 H).bind λv H=>aD 325 1 v H).bind λu H=>(Res.ok (AV.int 1) H).bind λv H=>(aB (B Z)).run u v H).bind λj H=>EV v i j H).bind (rt loc)).bind λfl H=>au fl H nx)
noncomputable def dj (loc:Loc) (H:aa):Res Bool:=(((ab loc 2 H).bind λv H=>cx 325 26 v H λH=>(Res.ok [] H).bind λvs H=>(aG Z).run (v::vs) H).bind λu H=>(Res.ok (AV.str [37]) H).bind λv H=>((ba (B Z)).run u v H).bind aY)
noncomputable def di (loc:Loc) (H:aa):RL:=(((((ab loc 2 H).bind λv H=>aD 325 3 v H).bind λv H=>gp (tn (B Z)) v H λH=>((Res.ok (AV.str [10]) H).bind λv H=>(((ab loc 2 H).bind λv H=>aD 325 1 v H).bind λv H=>(Res.ok [] H).bind (cV v)).bind (cV v)).bind λvs H=>(tn (B Z)).run v vs H).bind λv H=>Res.ok (av.next,(38,v)::loc) H).bind λfl H=>au fl H λloc H=>(((((ab loc 38 H).bind λu H=>(Res.ok (AV.int 0) H).bind λv H=>((rO (B Z)).run u v H).bind aY).bind λt H=>match t with |true=>((ab loc 38 H)) |false=>(((((ab loc 2 H).bind λv H=>aD 325 3 v H).bind λv H=>(Res.ok [] H).bind (cV v)).bind λvs H=>(fm (B Z)).run vs H))).bind λu H=>(ab loc 2 H).bind λv H=>(setField 325 1 v u H).bind (nz loc)).bind λfl H=>au fl H λloc H=>((((ab loc 2 H).bind λv H=>cx 325 37 v H λH=>((Res.ok (AV.str [32,9,13,10]) H).bind λv H=>(Res.ok [] H).bind (cV v)).bind λvs H=>(a9 Z).run (v::vs) H).bind (nz loc)).bind λfl H=>au fl H nx)))
noncomputable def jK (loc:Loc) (H:aa):RL:=
 ((((ab loc 2 H).bind λv H=>cx 325 37 v H λH=>((Res.ok (AV.str [32,9,13,10]) H).bind λv H=>(Res.ok [] H).bind (cV v)).bind λvs H=>(a9 Z).run (v::vs) H).bind (nz loc)).bind λfl H=>au fl H λloc H=>((bS (dj Z) (di Z) 4000 loc H).bind λfl H=>au fl H nx))
noncomputable def cN (loc:Loc) (H:aa):Res Bool:=(((ab loc 1 H).bind λu H=>((((ab loc 2 H).bind λv H=>aD 325 3 v H).bind λv H=>(Res.ok [] H).bind (cV v)).bind λvs H=>(fm (B Z)).run vs H).bind λv H=>((nc (B Z)).run u v H).bind aY).bind λv H=>match v with |true=>((((((ab loc 2 H).bind λv H=>aD 325 3 v H).bind λv H=>(ab loc 1 H).bind λi H=>cG v i H).bind λu H=>(ab loc 40 H).bind λv H=>((fY (B Z)).run u v H).bind aY).bind λv H=>match v with |true=>((Res.ok true H)) |false=>(Res.ok false H))) |false=>(Res.ok false H))
noncomputable def eM (loc:Loc) (H:aa):RL:=((((ab loc 1 H).bind λu H=>(Res.ok (AV.int 1) H).bind λv H=>(aB (B Z)).run u v H).bind λv H=>Res.ok (av.next,(1,v)::loc) H).bind λfl H=>au fl H nx)
noncomputable def iV (loc:Loc) (H:aa):RL:=
 ((((((ab loc 2 H).bind λv H=>aD 325 1 v H).bind λv H=>(((ab loc 2 H).bind λv H=>aD 325 1 v H).bind λv H=>(Res.ok [] H).bind (cV v)).bind (cV v)).bind λvs H=>if vs.length≤aq then Res.ok (AV.tup vs) H else Res.stuck).bind λv H=>sf [39,1] v loc H).bind λfl H=>au fl H λloc H=>((bS (cN Z) (eM Z) 4000 loc H).bind λfl H=>au fl H λloc H=>(((ab loc 1 H).bind λu H=>(ab loc 2 H).bind λv H=>(setField 325 1 v u H).bind (nz loc)).bind λfl H=>au fl H λloc H=>(((((ab loc 2 H).bind λv H=>aD 325 3 v H).bind λv H=>(ab loc 39 H).bind λi H=>(ab loc 1 H).bind λj H=>EV v i j H).bind (rt loc)).bind λfl H=>au fl H nx))))
noncomputable def ck (loc:Loc) (H:aa):Res Bool:=(((ab loc 2 H).bind λv H=>cx 325 26 v H λH=>(Res.ok [] H).bind λvs H=>(aG Z).run (v::vs) H).bind λu H=>(((Res.ok (AV.str []) H).bind λv H=>((Res.ok (AV.str [10]) H).bind λv H=>((Res.ok (AV.str [34]) H).bind λv H=>(Res.ok [] H).bind (cV v)).bind (cV v)).bind (cV v)).bind λvs H=>if vs.length≤aq then Res.ok (AV.tup vs) H else Res.stuck).bind λv H=>((dH (B Z)).run u v H).bind aY)
noncomputable def bP (loc:Loc) (H:aa):RL:=((((ab loc 2 H).bind λv H=>cx 325 26 v H λH=>(Res.ok [] H).bind λvs H=>(aG Z).run (v::vs) H).bind λv H=>Res.ok (av.next,(26,v)::loc) H).bind λfl H=>au fl H λloc H=>((((ab loc 26 H).bind λu H=>(Res.ok (AV.str [92]) H).bind λv H=>((ba (B Z)).run u v H).bind aY).bind λt H=>match t with |true=>((((((ab loc 2 H).bind λv H=>aD 325 1 v H).bind λu H=>(Res.ok (AV.int 1) H).bind λv H=>(aB (B Z)).run u v H).bind λu H=>(ab loc 2 H).bind λv H=>(setField 325 1 v u H).bind (nz loc)).bind λfl H=>au fl H λloc H=>(((((ab loc 2 H).bind λv H=>cx 325 26 v H λH=>(Res.ok [] H).bind λvs H=>(aG Z).run (v::vs) H).bind λu H=>(((Res.ok (AV.str [110]) H).bind λv H=>((Res.ok (AV.str [34]) H).bind λv H=>((Res.ok (AV.str [92]) H).bind λv H=>(Res.ok [] H).bind (cV v)).bind (cV v)).bind (cV v)).bind λvs H=>if vs.length≤aq then Res.ok (AV.tup vs) H else Res.stuck).bind λv H=>((dH (B Z)).run u v H).bind aY).bind λt H=>match t with |true=>((((Res.ok (AV.str [97,32,98,97,99,107,115,108,97,115,104,32,115,116,97,110,100,115,32,97,104,101,97,100,32,111,102,32,110,44,32,97,32,113,117,111,116,101,32,111,114,32,97,32,98,97,99,107,115,108,97,115,104]) H).bind λ_ H=>(((ab loc 2 H).bind λv H=>aD 325 1 v H).bind λu H=>(Res.ok (AV.int 1) H).bind λv H=>(si (B Z)).run u v H).bind λv H=>Res.bD v H).bind λfl H=>au fl H nx)) |false=>nx loc H).bind λfl H=>au fl H λloc H=>((((((ab loc 2 H).bind λv H=>cx 325 26 v H λH=>(Res.ok [] H).bind λvs H=>(aG Z).run (v::vs) H).bind λu H=>(Res.ok (AV.str [110]) H).bind λv H=>((ba (B Z)).run u v H).bind aY).bind λt H=>match t with |true=>((Res.ok (AV.str [10]) H)) |false=>(((ab loc 2 H).bind λv H=>cx 325 26 v H λH=>(Res.ok [] H).bind λvs H=>(aG Z).run (v::vs) H))).bind λv H=>Res.ok (av.next,(26,v)::loc) H).bind λfl H=>au fl H nx)))) |false=>nx loc H).bind λfl H=>au fl H λloc H=>((((ab loc 24 H).bind λv H=>gp (aH (B Z)) v H λH=>((ab loc 26 H).bind λv H=>(Res.ok [] H).bind (cV v)).bind λvs H=>(aH (B Z)).run v vs H).bind (nz loc)).bind λfl H=>au fl H λloc H=>(((((ab loc 2 H).bind λv H=>aD 325 1 v H).bind λu H=>(Res.ok (AV.int 1) H).bind λv H=>(aB (B Z)).run u v H).bind λu H=>(ab loc 2 H).bind λv H=>(setField 325 1 v u H).bind (nz loc)).bind λfl H=>au fl H nx))))
noncomputable def gN (loc:Loc) (H:aa):RL:=
 ((((((ab loc 2 H).bind λv H=>aD 325 1 v H).bind λv H=>(((Res.ok [] H).bind λvs H=>if vs.length≤aq then Res.ok (AV.ref H.length) (H++[aK.list vs]) else Res.stuck).bind λv H=>(Res.ok [] H).bind (cV v)).bind (cV v)).bind λvs H=>if vs.length≤aq then Res.ok (AV.tup vs) H else Res.stuck).bind λv H=>sf [39,24] v loc H).bind λfl H=>au fl H λloc H=>(((((ab loc 2 H).bind λv H=>aD 325 1 v H).bind λu H=>(Res.ok (AV.int 1) H).bind λv H=>(aB (B Z)).run u v H).bind λu H=>(ab loc 2 H).bind λv H=>(setField 325 1 v u H).bind (nz loc)).bind λfl H=>au fl H λloc H=>((bS (ck Z) (bP Z) 4000 loc H).bind λfl H=>au fl H λloc H=>(((((ab loc 2 H).bind λv H=>cx 325 26 v H λH=>(Res.ok [] H).bind λvs H=>(aG Z).run (v::vs) H).bind λu H=>(Res.ok (AV.str [34]) H).bind λv H=>((dq (B Z)).run u v H).bind aY).bind λt H=>match t with |true=>((((Res.ok (AV.str [97,32,116,101,120,116,32,105,115,32,110,111,116,32,99,108,111,115,101,100]) H).bind λ_ H=>(ab loc 39 H).bind λv H=>Res.bD v H).bind λfl H=>au fl H nx)) |false=>nx loc H).bind λfl H=>au fl H λloc H=>(((((ab loc 2 H).bind λv H=>aD 325 1 v H).bind λu H=>(Res.ok (AV.int 1) H).bind λv H=>(aB (B Z)).run u v H).bind λu H=>(ab loc 2 H).bind λv H=>(setField 325 1 v u H).bind (nz loc)).bind λfl H=>au fl H λloc H=>((((Res.ok (AV.str []) H).bind λv H=>gp (dS (B Z)) v H λH=>((ab loc 24 H).bind λv H=>(Res.ok [] H).bind (cV v)).bind λvs H=>(dS (B Z)).run v vs H).bind (rt loc)).bind λfl H=>au fl H nx))))))
noncomputable def gX (loc:Loc) (H:aa):RL:=(((((ab loc 41 H).bind aY).bind λt H=>match t with |true=>(((((ab loc 42 H).bind λv H=>(Res.ok [] H).bind (cV v)).bind λvs H=>(vK (B Z)).run vs H).bind λv H=>wK v H)) |false=>((((ab loc 42 H).bind λv H=>(Res.ok [] H).bind (cV v)).bind λvs H=>(vK (B Z)).run vs H))).bind (rt loc)).bind λfl H=>au fl H nx)
noncomputable def eN (loc:Loc) (H:aa):RL:=((((ab loc 2 H).bind λv H=>cx 325 37 v H λH=>((Res.ok eK H).bind λv H=>(Res.ok [] H).bind (cV v)).bind λvs H=>(a9 Z).run (v::vs) H).bind λv H=>Res.ok (av.next,(42,v)::loc) H).bind λfl H=>au fl H λloc H=>(((((ab loc 42 H).bind λu H=>(Res.ok (AV.str []) H).bind λv H=>((ba (B Z)).run u v H).bind aY).bind λv H=>match v with |true=>(Res.ok true H) |false=>((((((ab loc 42 H).bind λv H=>(Res.ok [] H).bind (cV v)).bind λvs H=>(fm (B Z)).run vs H).bind λu H=>(Res.ok dR H).bind λv H=>((jP (B Z)).run u v H).bind aY).bind λv H=>match v with |true=>(Res.ok true H) |false=>((Res.ok false H))))).bind λt H=>match t with |true=>(((((λacc:List Nat=>(Res.ok (AV.str [97,32,110,117,109,98,101,114,32,104,97,115,32,102,114,111,109,32,111,110,101,32,116,111,32]) H).bind λv H=>aS acc v λacc=>((Res.ok dR H).bind fu).bind λv H=>aS acc v λacc=>(Res.ok (AV.str [32,100,105,103,105,116,115]) H).bind λv H=>aS acc v λacc=>d6 acc H) []).bind λ_ H=>(ab loc 39 H).bind λv H=>Res.bD v H).bind λfl H=>au fl H nx)) |false=>nx loc H).bind λfl H=>au fl H λloc H=>gX Z loc H))
noncomputable def iW (loc:Loc) (H:aa):RL:=
 ((((((ab loc 2 H).bind λv H=>aD 325 1 v H).bind λv H=>((((ab loc 2 H).bind λv H=>cx 325 26 v H λH=>(Res.ok [] H).bind λvs H=>(aG Z).run (v::vs) H).bind λu H=>(Res.ok (AV.str [45]) H).bind λv H=>(ba (B Z)).run u v H).bind λv H=>(Res.ok [] H).bind (cV v)).bind (cV v)).bind λvs H=>if vs.length≤aq then Res.ok (AV.tup vs) H else Res.stuck).bind λv H=>sf [39,41] v loc H).bind λfl H=>au fl H λloc H=>((((ab loc 41 H).bind aY).bind λt H=>match t with |true=>((((((ab loc 2 H).bind λv H=>aD 325 1 v H).bind λu H=>(Res.ok (AV.int 1) H).bind λv H=>(aB (B Z)).run u v H).bind λu H=>(ab loc 2 H).bind λv H=>(setField 325 1 v u H).bind (nz loc)).bind λfl H=>au fl H nx)) |false=>nx loc H).bind λfl H=>au fl H λloc H=>eN Z loc H))
noncomputable def dK (loc:Loc) (H:aa):RL:=((((ab loc 39 H).bind λu H=>(Res.ok (AV.int 1) H).bind λv H=>(aB (B Z)).run u v H).bind λu H=>(ab loc 2 H).bind λv H=>(setField 325 1 v u H).bind (nz loc)).bind λfl H=>au fl H λloc H=>(((((Res.ok (AV.str [115,105,103,110]) H).bind λv H=>((ab loc 26 H).bind λv H=>((ab loc 39 H).bind λv H=>(Res.ok [] H).bind (cV v)).bind (cV v)).bind (cV v)).bind λvs H=>if vs.length≤aq then Res.ok (AV.tup vs) H else Res.stuck).bind (rt loc)).bind λfl H=>au fl H nx))
noncomputable def dJ (loc:Loc) (H:aa):RL:=((((ab loc 26 H).bind λu H=>(Res.ok mF H).bind λv H=>((dH (B Z)).run u v H).bind aY).bind λt H=>match t with |true=>(((((λacc:List Nat=>(Res.ok (AV.str [97,32,115,105,103,110,32,115,116,97,110,100,115,32,102,111,114,32,110,111,116,104,105,110,103,58,32]) H).bind λv H=>aS acc v λacc=>((ab loc 26 H).bind fu).bind λv H=>aS acc v λacc=>d6 acc H) []).bind λ_ H=>(ab loc 39 H).bind λv H=>Res.bD v H).bind λfl H=>au fl H nx)) |false=>nx loc H).bind λfl H=>au fl H λloc H=>dK Z loc H)
noncomputable def dI (loc:Loc) (H:aa):RL:=((((((ab loc 2 H).bind λv H=>aD 325 3 v H).bind λv H=>(ab loc 39 H).bind λi H=>((ab loc 39 H).bind λu H=>(Res.ok (AV.int 2) H).bind λv H=>(aB (B Z)).run u v H).bind λj H=>EV v i j H).bind λu H=>(Res.ok (AV.str [46,46]) H).bind λv H=>((ba (B Z)).run u v H).bind aY).bind λt H=>match t with |true=>(((((ab loc 39 H).bind λu H=>(Res.ok (AV.int 2) H).bind λv H=>(aB (B Z)).run u v H).bind λu H=>(ab loc 2 H).bind λv H=>(setField 325 1 v u H).bind (nz loc)).bind λfl H=>au fl H λloc H=>(((((Res.ok (AV.str [115,105,103,110]) H).bind λv H=>((Res.ok (AV.str [46,46]) H).bind λv H=>((ab loc 39 H).bind λv H=>(Res.ok [] H).bind (cV v)).bind (cV v)).bind (cV v)).bind λvs H=>if vs.length≤aq then Res.ok (AV.tup vs) H else Res.stuck).bind (rt loc)).bind λfl H=>au fl H nx))) |false=>nx loc H).bind λfl H=>au fl H λloc H=>dJ Z loc H)
noncomputable def cw (loc:Loc) (H:aa):RL:=((((ab loc 26 H).bind λu H=>(Res.ok eC H).bind λv H=>((fY (B Z)).run u v H).bind aY).bind λt H=>match t with |true=>((((((Res.ok (AV.str [119,111,114,100]) H).bind λv H=>(((ab loc 2 H).bind λv H=>cx 325 37 v H λH=>(((Res.ok eC H).bind λu H=>(Res.ok eK H).bind λv H=>(aB (B Z)).run u v H).bind λv H=>(Res.ok [] H).bind (cV v)).bind λvs H=>(a9 Z).run (v::vs) H).bind λv H=>((ab loc 39 H).bind λv H=>(Res.ok [] H).bind (cV v)).bind (cV v)).bind (cV v)).bind λvs H=>if vs.length≤aq then Res.ok (AV.tup vs) H else Res.stuck).bind (rt loc)).bind λfl H=>au fl H nx)) |false=>nx loc H).bind λfl H=>au fl H λloc H=>dI Z loc H)
noncomputable def cv (loc:Loc) (H:aa):RL:=(((((ab loc 26 H).bind λu H=>(Res.ok (AV.str [45]) H).bind λv H=>((ba (B Z)).run u v H).bind aY).bind λv H=>match v with |true=>(Res.ok true H) |false=>((((ab loc 26 H).bind λu H=>(Res.ok eK H).bind λv H=>((fY (B Z)).run u v H).bind aY).bind λv H=>match v with |true=>(Res.ok true H) |false=>((Res.ok false H))))).bind λt H=>match t with |true=>((((((Res.ok (AV.str [110,117,109,98,101,114]) H).bind λv H=>(((ab loc 2 H).bind λv H=>cx 325 27 v H λH=>(Res.ok [] H).bind λvs H=>(de Z).run (v::vs) H).bind λv H=>((ab loc 39 H).bind λv H=>(Res.ok [] H).bind (cV v)).bind (cV v)).bind (cV v)).bind λvs H=>if vs.length≤aq then Res.ok (AV.tup vs) H else Res.stuck).bind (rt loc)).bind λfl H=>au fl H nx)) |false=>nx loc H).bind λfl H=>au fl H λloc H=>cw Z loc H)
noncomputable def cu (loc:Loc) (H:aa):RL:=((((ab loc 26 H).bind λu H=>(Res.ok (AV.str [34]) H).bind λv H=>((ba (B Z)).run u v H).bind aY).bind λt H=>match t with |true=>((((((Res.ok (AV.str [116,101,120,116]) H).bind λv H=>(((ab loc 2 H).bind λv H=>cx 325 44 v H λH=>(Res.ok [] H).bind λvs H=>(cH Z).run (v::vs) H).bind λv H=>((ab loc 39 H).bind λv H=>(Res.ok [] H).bind (cV v)).bind (cV v)).bind (cV v)).bind λvs H=>if vs.length≤aq then Res.ok (AV.tup vs) H else Res.stuck).bind (rt loc)).bind λfl H=>au fl H nx)) |false=>nx loc H).bind λfl H=>au fl H λloc H=>cv Z loc H)
noncomputable def cK (loc:Loc) (H:aa):RL:=
 ((((ab loc 2 H).bind λv H=>cx 325 43 v H λH=>(Res.ok [] H).bind λvs H=>(c0 Z).run (v::vs) H).bind (nz loc)).bind λfl H=>au fl H λloc H=>((((((ab loc 2 H).bind λv H=>aD 325 1 v H).bind λv H=>(((ab loc 2 H).bind λv H=>cx 325 26 v H λH=>(Res.ok [] H).bind λvs H=>(aG Z).run (v::vs) H).bind λv H=>(Res.ok [] H).bind (cV v)).bind (cV v)).bind λvs H=>if vs.length≤aq then Res.ok (AV.tup vs) H else Res.stuck).bind λv H=>sf [39,26] v loc H).bind λfl H=>au fl H λloc H=>((((ab loc 26 H).bind λu H=>(Res.ok (AV.str []) H).bind λv H=>((ba (B Z)).run u v H).bind aY).bind λt H=>match t with |true=>((((((Res.ok (AV.str [101,110,100]) H).bind λv H=>((Res.ok (AV.str []) H).bind λv H=>((ab loc 39 H).bind λv H=>(Res.ok [] H).bind (cV v)).bind (cV v)).bind (cV v)).bind λvs H=>if vs.length≤aq then Res.ok (AV.tup vs) H else Res.stuck).bind (rt loc)).bind λfl H=>au fl H nx)) |false=>nx loc H).bind λfl H=>au fl H λloc H=>cu Z loc H)))
end
noncomputable abbrev bH (l:List Nat) (k:Nat):aK:=.inst 325 [(3,.str l),(1,.int (k:Int))]
section
variable {H:aa} {a:Nat} {l:List Nat} {k:Nat}
theorem gt (h:H[a]?=some (bH l k)):aD 325 3 (.ref a) H=.ok (.str l) H:=by simp [aD,fieldsOf,h]
theorem gs (h:H[a]?=some (bH l k)):aD 325 1 (.ref a) H=.ok (.int (k:Int)) H:=by simp [aD,fieldsOf,h,List.lookup]
theorem ss (h:H[a]?=some (bH l k)) (j:Int):setField 325 1 (.ref a) (.int j) H=.ok .none (H.set a (.inst 325 [(3,.str l),(1,.int j)])):=by simp [setField,fieldsOf,h,rA]
theorem mV (h:H[a]?=some (bH l k)) (x:Nat) (hx:Nat.ble 4 x=true) (f:aa→Res AV):cx 325 x (.ref a) H f=f H:=by
 have hx:=Nat.le_of_ble_eq_true hx
 have:kq 325 x (.ref a) H=true:=by
  have e1:(x==3)=false:=beq_false_of_ne λe=>by subst e;exact absurd hx (by decide)
  have e2:(x==1)=false:=beq_false_of_ne λe=>by subst e;exact absurd hx (by decide)
  simp [kq,h,List.lookup,e1,e2]
 unfold cx
 refine sY (this ..)▸?_;rfl
theorem ma (h:H[a]?=some (bH l k)) (o:aK):(H.set a o)[a]?=some o:=by
 have:=(List.getElem?_eq_some_iff.mp h).1
 simp [this]
end
section
variable {b:Base} {H:aa} {l:List Nat}
theorem zE {i j:Nat}:(aB b).run (.int (i:Int)) (.int (j:Int)) H=.ok (.int ((i+j:Nat):Int)) H:=rfl
theorem add_one {i:Nat}:(aB b).run (.int (i:Int)) (.int 1) H=.ok (.int ((i+1:Nat):Int)) H:=rfl
theorem sO {i j:Nat}:(nc b).run (.int (i:Int)) (.int (j:Int)) H=.ok (.bool (decide (i < j))) H:=by
 show Res.ok (AV.bool (decide ((i:Int) < (j:Int)))) H=_
 simp
theorem len_str (h:l.length < 3900):(fm b).run [.str l] H=.ok (.int (l.length:Int)) H:=by
 show (if l.length≤1099511627776 then _ else _)=_
 rewrite [if_pos (zC h rfl)];rfl
theorem in_str {c:Nat} {s:List Nat}:(fY b).run (.str [c]) (.str s) H=.ok (.bool (decide (c∈s))) H:=by
 show Res.ok (AV.bool (decide (c∈s) != false)) H=_
 simp
theorem ig {u v:List Nat}:(ba b).run (.str u) (.str v) H=.ok (.bool (u==v)) H:=by
 show Res.ok (AV.bool ((u==v) != false)) H=_
 simp
theorem yY {u v:List Nat}:(dq b).run (.str u) (.str v) H=.ok (.bool (!(u==v))) H:=by
 show Res.ok (AV.bool ((u==v) != true)) H=_
 simp
theorem wi {i j:Nat} (h1:i≤j) (h2:i≤l.length) (hl:l.length < 3900):EV (.str l) (.int (i:Int)) (.int (j:Int)) H=.ok (.str ((l.drop i).take (j - i))) H:=by
 show (if 0≤(i:Int)∧(i:Int)≤j∧(i:Int)≤l.length∧l.length≤aq then Res.ok (AV.str ((l.drop (i:Int).toNat).take ((j:Int) - i).toNat)) H else .stuck)=_
 rewrite [if_pos ⟨Int.natCast_nonneg i,Int.ofNat_le.mpr h1,Int.ofNat_le.mpr h2,Nat.le_trans (Nat.le_of_lt hl) (by decide)⟩];refine sY (show ((j:Int) - i).toNat=j - i from Mp h1)▸?_
 rfl
theorem xJ {i:Nat} (h:i < 3900):fits (i:Int)=true:=by
 unfold fits
 rewrite [Bool.and_eq_true]
 refine ⟨decide_eq_true ?_,decide_eq_true ?_⟩
 ·exact Int.le_trans (by decide) (Int.natCast_nonneg i)
 ·exact Int.lt_trans (Int.ofNat_lt.mpr h) (by decide)
theorem B1 {k:Int}:kf (.str l) (.int k) H=if fits k then (idx l k).map λc=>.str [c] else none:=rfl
theorem rg {v u:AV} {j:Int} (h:kf v (.int j) H=some u):cG v (.int j) H=.ok u H:=by
 show bV (λu=>Res.ok u H) (kf v (.int j) H)=_
 rw [h];rfl
theorem item_str {i c:Nat} (h:l[i]?=some c) (hl:l.length < 3900):cG (.str l) (.int (i:Int)) H=.ok (.str [c]) H:=by
 have hi:=(List.getElem?_eq_some_iff.mp h).1
 have hf:fits (i:Int)=true:=xJ (Nat.lt_trans hi hl)
 have h0:idx l (i:Int)=some c:=by
  unfold idx
  refine sY (if_pos (Int.natCast_nonneg i) ..)▸?_
  exact h
 exact rg (by rw [B1,if_pos hf,h0];rfl)
theorem oz {u v:AV}:(if [u,v].length≤aq then Res.ok (AV.tup [u,v]) H else Res.stuck)=.ok (.tup [u,v]) H:=rfl
theorem HC {u v x:AV}:(if [u,v,x].length≤aq then Res.ok (AV.tup [u,v,x]) H else Res.stuck)=.ok (.tup [u,v,x]) H:=rfl
theorem aC {loc:Loc} {f:Loc→aa→Res (av×Loc)}:au (.next,loc) H f=f loc H:=rfl
theorem dM {v:AV} {loc:Loc} {f:Loc→aa→Res (av×Loc)}:au (.ret v,loc) H f=.ok (.ret v,loc) H:=rfl
theorem a8 {t:Bool}:aY (.bool t) H=.ok t H:=rfl
theorem zR {x y:Nat} {u v:AV} {loc:Loc}:sf [x,y] (.tup [u,v]) loc H=.ok (.next,(x,u)::(y,v)::loc) H:=rfl
theorem gl {x:Nat} {v:AV} {loc:Loc} (h:loc.lookup x=some v):ab loc x H=.ok v H:=by simp [ab,h]
theorem ip {T:Loc→aa→Res Bool} {Bd:Loc→aa→Res (av×Loc)} {f:Nat} {loc loc':Loc} {H' LZ:aa} (h1:T loc H=.ok true H') (h2:Bd loc H'=.ok (.next,loc') LZ):bS T Bd (f+1) loc H=bS T Bd f loc' LZ:=by
 show (T loc H).bind _=_
 refine sY (h1 ..)▸?_
 show (Bd loc H').bind _=_
 rw [h2];rfl
theorem gD {T:Loc→aa→Res Bool} {Bd:Loc→aa→Res (av×Loc)} {f:Nat} {loc:Loc} {H':aa} (h1:T loc H=.ok false H'):bS T Bd (f+1) loc H=.ok (.next,loc) H':=by
 show (T loc H).bind _=_
 rw [h1];rfl
theorem drop_nil {j:Nat} (hj:j≤l.length) (h:l.drop j=[]):j=l.length:=Nat.le_antisymm hj (List.drop_eq_nil_iff.mp h)
theorem drop_cons {j c:Nat} {r:List Nat} (h:l.drop j=c::r):j < l.length∧l[j]?=some c∧l.drop (j+1)=r:=by
 have h1:j < l.length:=by
  by_cases q:j < l.length
  ·exact q
  ·rw [List.drop_eq_nil_of_le (Nat.le_of_not_lt q)] at h;cases h
 refine ⟨h1,?_,?_⟩
 ·have:=congrArg (·[0]?) h
  simpa [List.getElem?_drop] using this
 ·rw [← List.drop_drop,h];rfl
end
section
variable (Z:U) {H:aa} {a:Nat} {l:List Nat} {k:Nat}
theorem kD (h:H[a]?=some (bH l k)) (hk:k≤l.length) (hl:l.length < 3900):(aG Z).run [.ref a] H=.ok (.str ((l.drop k).take 1)) H:=by
 have e:(aG Z).run [.ref a] H=aF (jL Z [(2,.ref a)] H):=by kernel_rfl
 refine sY (e ..)▸?_
 unfold jL
 simp only [ab,List.lookup,beq_self_eq_true,ae,gt h,gs h,add_one,wi (Nat.le_succ k) hk hl,dM,aF]
 refine sY (show k.succ - k=1 from Nat.add_sub_cancel_left k 1)▸?_;rfl
structure AJ (a k j:Nat) (ws:List Nat) (loc:Loc):Prop where
 l1:loc.lookup 1=some (.int (j:Int))
 l2:loc.lookup 2=some (.ref a)
 K2:loc.lookup 39=some (.int (k:Int))
 K1:loc.lookup 40=some (.str ws)
theorem Dr (h:H[a]?=some (bH l k)) (hl:l.length < 3900) {ws:List Nat} {c j:Nat} {loc:Loc} (P:AJ a k j ws loc) (e1:j < l.length) (e2:l[j]?=some c):cN Z loc H=.ok (decide (c∈ws)) H:=by
 unfold cN
 refine b2 (gl P.l1) ?_;refine b5 (gl P.l2) ?_;refine b4 (gt h) ?_;refine k4 (k3 ?_);refine b2 (len_str hl) ?_;refine b2 sO ?_;refine b1 a8 ?_;refine sY (decide_eq_true e1 ..)▸?_
 show Res.bind _ _=_
 refine b4 (gl P.l2) ?_;refine b3 (gt h) ?_;refine b3 (gl P.l1) ?_;refine b2 (item_str e2 hl) ?_;refine b2 (gl P.K1) ?_;refine b2 in_str ?_;refine b1 a8 ?_
 cases decide (c∈ws)<;>rfl
theorem Ds (h:H[a]?=some (bH l k)) (hl:l.length < 3900) {ws:List Nat} (r:List Nat):∀ (j f:Nat) (loc:Loc),l.drop j=r→j≤l.length→r.length < f→AJ a k j ws loc→
  ∃ loc',bS (cN Z) (eM Z) f loc H=.ok (.next,loc') H∧AJ a k (j+(r.takeWhile λc=>decide (c∈ws)).length) ws loc':=by
 induction r with
 |nil=>
  intro j f loc hd hj hf P
  obtain ⟨f,rfl⟩:∃ g,f=g+1:=⟨f - 1,(Nat.sub_add_cancel hf).symm⟩
  have e:=drop_nil hj hd
  refine ⟨loc,gD ?_,P⟩
  unfold cN
  refine b2 (gl P.l1) ?_;refine b5 (gl P.l2) ?_;refine b4 (gt h) ?_;refine k4 (k3 ?_);refine b2 (len_str hl) ?_;refine b2 sO ?_;refine b1 a8 ?_;refine sY (decide_eq_false λz=>absurd e (Nat.ne_of_lt z) ..)▸?_;rfl
 |cons c r ih=>
  intro j f loc hd hj hf P
  obtain ⟨f,rfl⟩:∃ g,f=g+1:=⟨f - 1,(Nat.sub_add_cancel (Nat.lt_of_le_of_lt (Nat.zero_le _) hf)).symm⟩
  refine bZ (drop_cons hd) ?_;intro e1 e2 e3
  have hf:r.length+1 < f+1:=hf
  have test:=Dr Z h hl P e1 e2
  by_cases hc:c∈ws
  ·refine ai (ih (j+1) f ((1,.int ((j+1:Nat):Int))::loc) e3 e1 (Nat.lt_of_succ_lt_succ hf) ⟨rfl,P.l2,P.K2,P.K1⟩) ?_;intro loc' q1 q2
   refine ⟨loc',?_,?_⟩
   ·refine (q1 ..)▸?_
    refine ip (H':=H) (by rw [test,decide_eq_true hc]) ?_
    unfold eM
    refine b3 (gl P.l1) ?_;refine k3 ?_;refine b2 add_one ?_;refine k1 ?_;refine sY (aC ..)▸?_;rfl
   ·have:((c::r).takeWhile λc=>decide (c∈ws)).length=(r.takeWhile λc=>decide (c∈ws)).length+1:=by simp [List.takeWhile,hc]
    refine sY (this ..)▸?_
    rwa [show j+1+(r.takeWhile λc=>decide (c∈ws)).length=j+((r.takeWhile λc=>decide (c∈ws)).length+1) from Nat.add_right_comm _ _ _] at q2
  ·refine ⟨loc,gD (by rw [test,decide_eq_false hc]),?_⟩
   have:((c::r).takeWhile λc=>decide (c∈ws)).length=0:=by simp [List.takeWhile,hc]
   rw [this];exact P
theorem wc {p:Nat→Bool}:∀ r:List Nat,r.take (r.takeWhile p).length=r.takeWhile p
 |[]=>rfl
 |c::r=>by
  cases q:p c with
  |true=>simp [List.takeWhile,q,wc r]
  |false=>simp [List.takeWhile,q]
theorem o5 {p:Nat→Bool}:∀ r:List Nat,(r.takeWhile p).length≤r.length
 |[]=>Nat.le_refl _
 |c::r=>by
  cases q:p c with
  |true=>simp [List.takeWhile,q,o5 r]
  |false=>simp [List.takeWhile,q]
theorem mU (h:H[a]?=some (bH l k)) (hk:k≤l.length) (hl:l.length < 3900) (ws:List Nat) :
  (a9 Z).run [.ref a,.str ws] H=.ok (.str ((l.drop k).takeWhile λc=>decide (c∈ws))) (H.set a (bH l (k+((l.drop k).takeWhile λc=>decide (c∈ws)).length))):=by
 have e:(a9 Z).run [.ref a,.str ws] H=aF (iV Z [(40,.str ws),(2,.ref a)] H):=by kernel_rfl
 refine sY (e ..)▸?_
 refine ai (Ds Z h hl (ws:=ws) (l.drop k) k 4000 [(39,.int (k:Int)),(1,.int (k:Int)),(40,.str ws),(2,.ref a)] rfl hk (by rw [List.length_drop];exact dU (Nat.lt_of_le_of_lt (Nat.sub_le _ _) hl) rfl) ⟨rfl,rfl,rfl,rfl⟩) ?_;intro loc' q1 q2
 have hn:k+((l.drop k).takeWhile λc=>decide (c∈ws)).length≤l.length:=by
  exact BK (o5 (p:=λc=>decide (c∈ws)) (l.drop k)) (gA rfl hk)
 unfold iV
 have g2:∀ H,ab [(40,.str ws),(2,.ref a)] 2 H=.ok (.ref a) H:=λ_=>rfl
 simp only [g2,ae,gs h,oz,zR,q1,aC,gl q2.l1,gl q2.l2,gl q2.K2,ss h]
 have h2:=ma h (bH l (k+((l.drop k).takeWhile λc=>decide (c∈ws)).length))
 simp only [gt h2,ae,wi (Nat.le_add_right _ _) hk hl,dM,aF,Nat.add_sub_cancel_left,wc]
end
section
variable {b:Base} {H:aa} {l:List Nat}
theorem rT {p:Nat→Bool} {k:Nat} {r:List Nat} (h:l.drop k=r):l.drop (k+(r.takeWhile p).length)=r.dropWhile p:=by
 refine (List.drop_drop ..)▸?_;refine sY (h ..)▸?_
 clear h
 induction r with
 |nil=>rfl
 |cons c r ih=>
  cases q:p c with
  |true=>simpa [List.takeWhile,List.dropWhile,q] using ih
  |false=>simp [List.takeWhile,List.dropWhile,q]
theorem Cy {r:List Nat}:∀ {k:Nat},l.drop k=r→bz 10 r=none→r.dropWhile (λc=>!Nat.beq c 10)=[]:=by
 intro k h
 clear h
 induction r with
 |nil=>intro _;rfl
 |cons c r ih=>
  intro e
  unfold bz at e
  split at e
  ·cases e
  ·rename_i hc
   have:Nat.beq c 10=false:=by
    cases q:Nat.beq c 10 with
    |true=>exact absurd (Nat.eq_of_beq_eq_true q) hc
    |false=>rfl
   refine sY (List.dropWhile_cons ..)▸?_;refine sY (this ..)▸?_
   exact ih (by simpa using e)
theorem GY {r:List Nat} {n:Nat} (e:bz 10 r=some n):r.drop n=r.dropWhile (λc=>!Nat.beq c 10)∧n≤r.length:=by
 induction r generalizing n with
 |nil=>cases e
 |cons c r ih=>
  unfold bz at e
  split at e
  ·rename_i hc
   subst hc
   cases e
   exact ⟨by simp [List.dropWhile],by simp⟩
  ·rename_i hc
   have:Nat.beq c 10=false:=by
    cases q:Nat.beq c 10 with
    |true=>exact absurd (Nat.eq_of_beq_eq_true q) hc
    |false=>rfl
   cases q:bz 10 r with
   |none=>rw [q] at e;cases e
   |some m=>
    rw [q] at e
    cases e
    refine aQ (ih q) ?_;intro h1 h2
    refine ⟨?_,by simp;exact h2⟩
    refine sY (List.dropWhile_cons ..)▸?_;refine sY (this ..)▸?_
    exact h1
theorem mG {name:Str} {M:Bm b name} {f:aa→Res AV} (h:M.is (.str l) H=true):gp M (.str l) H f=f H:=by unfold gp;rw [h]
theorem Ey {k:Nat} (hk:k≤l.length):(tn b).run (.str l) [.str [10],.int (k:Int)] H=.ok (.int (cT l 10 k)) H:=by
 exact if_pos (⟨Int.natCast_nonneg k,hk⟩:0≤(k:Int)∧(k:Int).toNat≤l.length)
theorem GQ {i j:Int}:(rO b).run (.int i) (.int j) H=.ok (.bool (decide (j≤i))) H:=rfl
end
theorem dg {p:Nat→Bool}:∀ r:List Nat,(r.dropWhile p).length≤r.length
 |[]=>Nat.le_refl _
 |c::r=>by
  refine sY (List.dropWhile_cons ..)▸?_
  split
  ·exact Nat.le_succ_of_le (dg r)
  ·exact Nat.le_refl _
section
variable (Z:U) {H:aa} {a:Nat} {l:List Nat} {k:Nat}
theorem EP (h:H[a]?=some (bH l k)) (hk:k≤l.length) (hl:l.length < 3900) {r:List Nat} (hr:l.drop k=r):∃ v k',(a9 Z).run [.ref a,.str [32,9,13,10]] H=.ok v (H.set a (bH l k'))∧l.drop k'=r.dropWhile isWs∧k'≤l.length:=by
 have e:=mU Z h hk hl [32,9,13,10]
 rw [hr] at e
 refine ⟨_,_,e,rT (p:=isWs) hr,?_⟩
 exact BK (o5 (p:=λc=>decide (c∈[32,9,13,10])) r) (gA hr hk)
theorem DV (h:H[a]?=some (bH l k)) (hk:k≤l.length) (hl:l.length < 3900) {r:List Nat} (hr:l.drop k=r) {loc:Loc} (g2:loc.lookup 2=some (.ref a)) :
  ∃ loc' k',di Z loc H=.ok (.next,loc') (H.set a (bH l k'))∧loc'.lookup 2=some (.ref a)∧l.drop k'=(r.dropWhile λc=>!Nat.beq c 10).dropWhile isWs∧k'≤l.length:=by
 unfold di
 refine sY (gl g2 ..)▸?_;refine sY (ae ..)▸?_;refine sY (gt h ..)▸?_;refine sY (ae ..)▸?_;rewrite [mG rfl];refine sY (ae ..)▸?_;refine sY (gl g2 ..)▸?_;refine sY (ae ..)▸?_;refine sY (gs h ..)▸?_;rewrite [ae,ae,ae];refine sY (ae ..)▸?_;refine sY (Ey hk ..)▸?_;rewrite [ae];refine sY (ae ..)▸?_;refine sY (aC ..)▸?_
 have g3:List.lookup 2 ((38,AV.int (cT l 10 k))::loc)=some (.ref a):=g2
 rewrite [gl (x:=38) (v:=.int (cT l 10 k)) rfl,ae,ae];refine sY (GQ ..)▸?_;rewrite [ae];refine sY (a8 ..)▸?_;refine sY (ae ..)▸?_
 have fin:∀ j:Nat,j≤l.length→l.drop j=r.dropWhile (λc=>!Nat.beq c 10)→∃ loc' k',((Res.ok (AV.int (j:Int)) H).bind λu H=>(ab ((38,AV.int (cT l 10 k))::loc) 2 H).bind λv H=>(setField 325 1 v u H).bind λ_ H=>Res.ok (av.next,((38,AV.int (cT l 10 k))::loc)) H).bind (λfl H=>au fl H λloc H=>
   ((((ab loc 2 H).bind λv H=>cx 325 37 v H λH=>((Res.ok (AV.str [32,9,13,10]) H).bind λv H=>(Res.ok [] H).bind λvs H=>Res.ok (v::vs) H).bind λvs H=>(a9 Z).run (v::vs) H).bind λ_ H=>Res.ok (av.next,loc) H).bind λfl H=>au fl H λloc H=>(Res.ok (av.next,loc) H)))=.ok (.next,loc') (H.set a (bH l k'))∧loc'.lookup 2=some (.ref a)∧l.drop k'=(r.dropWhile λc=>!Nat.beq c 10).dropWhile isWs∧k'≤l.length:=λj hj hd=>by
  have h2:=ma h (bH l j)
  refine bk (EP Z h2 hj hl hd) ?_;intro v k' q1 q2 q3
  refine ⟨_,k',?_,g3,q2,q3⟩
  refine k2 ?_;refine b2 (gl g3) ?_;refine b2 (ss h ..) ?_;refine k1 ?_;refine sY (aC ..)▸?_;refine b3 (gl g3) ?_;refine c2 (mV h2 37 rfl ..) ?_;refine k4 (k4 ?_);refine k3 ?_;refine b2 q1 ?_;refine k1 ?_;refine sY (aC ..)▸?_;rewrite [List.set_set];rfl
 cases q:bz 10 r with
 |none=>
  have e1:cT l 10 k=-1:=by unfold cT;rw [hr,q]
  have e2:decide ((0:Int)≤cT l 10 k)=false:=by rw [e1];decide
  refine sY (e2 ..)▸?_
  dsimp only
  refine sY (gl g3 ..)▸?_;refine sY (ae ..)▸?_;refine sY (gt h ..)▸?_;rewrite [ae,ae];refine sY (ae ..)▸?_;refine sY (len_str hl ..)▸?_
  exact fin l.length (Nat.le_refl _) (by rw [Cy hr q];simp)
 |some n=>
  refine aQ (GY q) ?_;intro q1 q2
  have e1:cT l 10 k=((k+n:Nat):Int):=by unfold cT;rw [hr,q]
  have e2:decide ((0:Int)≤cT l 10 k)=true:=by rw [e1];exact decide_eq_true (Int.natCast_nonneg _)
  refine sY (e2 ..)▸?_
  dsimp only
  rewrite [gl (x:=38) (v:=.int (cT l 10 k)) rfl]
  have:=fin (k+n) (BK q2 (gA hr hk)) (by rw [← List.drop_drop,hr];exact q1)
  rw [← e1] at this
  exact this
end
noncomputable def sk (g:Nat) (r:List Nat):List Nat:=match r with
 |37::r=>gE g (r.dropWhile λc=>!Nat.beq c 10)
 |r=>r
theorem hG (g:Nat) (r:List Nat):gE (g+1) r=sk g (r.dropWhile isWs):=by
 show (match r.dropWhile isWs with |37::r=>gE g (r.dropWhile λc=>!Nat.beq c 10) |r=>r)=_
 unfold sk
 rfl
theorem fP {g c:Nat} {r:List Nat} (h:c≠37):sk g (c::r)=c::r:=by
 unfold sk
 split
 ·rename_i e;injection e with e _;exact absurd e h
 ·rfl
theorem j7:∀ (n:Nat) (r:List Nat) (f g:Nat),r.length≤n→n < f→n < g→gE f r=gE g r
 |n,r,0,g,_,h,_=>absurd h (Nat.not_lt_zero _)
 |n,r,f,0,_,_,h=>absurd h (Nat.not_lt_zero _)
 |n,r,f+1,g+1,h,hf,hg=>by
  rewrite [hG,hG]
  have hd:=dg (p:=isWs) r
  generalize r.dropWhile isWs=q at hd
  cases q with
  |nil=>rfl
  |cons c q=>
   by_cases hc:c=37
   ·subst hc
    show gE f _=gE g _
    have h2:=dg (p:=λc=>!Nat.beq c 10) q
    have hd:q.length+1≤r.length:=hd
    cases n with
    |zero=>exact absurd (Nat.le_trans hd h) (Nat.not_succ_le_zero _)
    |succ n=>exact j7 n _ f g (Nat.le_trans h2 (Nat.le_of_succ_le_succ (Nat.le_trans hd h))) (Nat.lt_of_succ_lt_succ hf) (Nat.lt_of_succ_lt_succ hg)
   ·refine sY (fP hc ..)▸?_;refine sY (fP hc ..)▸?_;rfl
theorem set_same {H:aa} {a:Nat} {o:aK} (h:H[a]?=some o):H.set a o=H:=by
 refine List.ext_getElem? λi=>?_
 refine sY (List.getElem?_set ..)▸?_
 split
 ·rename_i q
  subst q
  refine sY (if_pos (List.getElem?_eq_some_iff.mp h).1 ..)▸?_;refine sY (h ..)▸?_;rfl
 ·rfl
section
variable (Z:U) {H:aa} {a:Nat} {l:List Nat} {k:Nat}
theorem rB (h:H[a]?=some (bH l k)) (hk:k≤l.length) (hl:l.length < 3900) {loc:Loc} (g2:loc.lookup 2=some (.ref a)):dj Z loc H=.ok ((l.drop k).take 1==[37]) H:=by
 unfold dj
 refine sY (gl g2 ..)▸?_;refine k2 ?_;refine sY (mV h 26 rfl ..)▸?_;refine k2 ?_;refine sY (kD Z h hk hl ..)▸?_;refine k1 (k1 ?_);refine sY (ig ..)▸?_;refine k1 ?_;refine sY (a8 ..)▸?_;rfl
theorem Bc (hl:l.length < 3900):∀ (n:Nat) (r:List Nat) (k f:Nat) (loc:Loc) (H:aa),r.length≤n→n < f→H[a]?=some (bH l k)→k≤l.length→l.drop k=r→loc.lookup 2=some (.ref a)→r.dropWhile isWs=r→
  ∃ loc' k',bS (dj Z) (di Z) f loc H=.ok (.next,loc') (H.set a (bH l k'))∧l.drop k'=sk n r∧k'≤l.length:=by
 intro n
 induction n with
 |zero=>
  intro r k f loc H hr hf h hk hd g2 hw
  obtain ⟨f,rfl⟩:∃ g,f=g+1:=⟨f - 1,(Nat.sub_add_cancel hf).symm⟩
  have e:r=[]:=List.eq_nil_of_length_eq_zero (Nat.eq_zero_of_le_zero hr)
  subst e
  refine ⟨loc,k,?_,hd,hk⟩
  rewrite [gD (H':=H) (by rw [rB Z h hk hl g2,hd];rfl)]
  refine sY (set_same h ..)▸?_;rfl
 |succ n ih=>
  intro r k f loc H hr hf h hk hd g2 hw
  obtain ⟨f,rfl⟩:∃ g,f=g+1:=⟨f - 1,(Nat.sub_add_cancel (Nat.lt_of_le_of_lt (Nat.zero_le _) hf)).symm⟩
  have HH:∀ (e:((l.drop k).take 1==[37])=false),bS (dj Z) (di Z) (f+1) loc H=.ok (.next,loc) (H.set a (bH l k)):=λe=>by
   rewrite [gD (H':=H) (by rw [rB Z h hk hl g2,e])]
   refine sY (set_same h ..)▸?_;rfl
  cases r with
  |nil=>exact ⟨loc,k,HH (by rw [hd];rfl),hd,hk⟩
  |cons c r=>
   by_cases hc:c=37
   ·subst hc
    refine ke (DV Z h hk hl hd g2) ?_;intro loc' k' q1 q2 q3 q4
    have M0:l.drop k'=(r.dropWhile λc=>!Nat.beq c 10).dropWhile isWs:=q3
    have c9:=dg (p:=λc=>!Nat.beq c 10) r
    have aP:=dg (p:=isWs) (r.dropWhile λc=>!Nat.beq c 10)
    have hr:r.length+1≤n+1:=hr
    have idem:∀ x:List Nat,(x.dropWhile isWs).dropWhile isWs=x.dropWhile isWs:=λx=>by
     induction x with
     |nil=>rfl
     |cons y x ih=>
      cases q:isWs y with
      |true=>rw [List.dropWhile_cons,q];exact ih
      |false=>rw [List.dropWhile_cons,q];simp [List.dropWhile_cons,q]
    refine bk (ih _ k' f loc' (H.set a (bH l k')) (Nat.le_trans aP (Nat.le_trans c9 (Nat.le_of_succ_le_succ hr))) (Nat.lt_of_succ_lt_succ hf) (ma h _) q4 M0 q2 (idem _)) ?_;intro cS k2 p1 p2 p3
    refine ⟨cS,k2,?_,?_,p3⟩
    ·rewrite [ip (H':=H) (by rw [rB Z h hk hl g2,hd];rfl) q1];refine sY (p1 ..)▸?_;rewrite [List.set_set];rfl
    ·refine sY (p2 ..)▸?_
     show _=gE (n+1) _
     rewrite [hG];rfl
   ·refine ⟨loc,k,HH (by rw [hd];simp [hc]),?_,hk⟩
    refine sY (hd ..)▸?_;refine sY (fP hc ..)▸?_;rfl
theorem Dd (h:H[a]?=some (bH l k)) (hk:k≤l.length) (hl:l.length < 3900):∃ v k',(c0 Z).run [.ref a] H=.ok v (H.set a (bH l k'))∧l.drop k'=skip (l.drop k)∧k'≤l.length:=by
 have e:(c0 Z).run [.ref a] H=aF (jK Z [(2,.ref a)] H):=by kernel_rfl
 have g2:List.lookup 2 [(2,AV.ref a)]=some (.ref a):=rfl
 refine bk (EP Z h hk hl rfl) ?_;intro v k1 q1 q2 q3
 have len:=List.length_drop (i:=k) (l:=l)
 have le:=dg (p:=isWs) (l.drop k)
 have idem:∀ x:List Nat,(x.dropWhile isWs).dropWhile isWs=x.dropWhile isWs:=λx=>by
  induction x with
  |nil=>rfl
  |cons y x ih=>
   cases q:isWs y with
   |true=>rw [List.dropWhile_cons,q];exact ih
   |false=>rw [List.dropWhile_cons,q];simp [List.dropWhile_cons,q]
 refine bk (Bc Z hl l.length _ k1 4000 [(2,.ref a)] (H.set a (bH l k1)) (gA q2 q3).2 (dU hl rfl) (ma h _) q3 q2 g2 (idem _)) ?_;intro loc' k2 p1 p2 p3
 refine ⟨.none,k2,?_,?_,p3⟩
 ·rw [e]
  unfold jK
  rw [gl g2,ae,mV h 37 rfl,ae,ae,ae,q1,ae,ae,aC,p1,ae,aC,List.set_set]
  rfl
 ·rw [p2,← hG]
  unfold skip
  exact j7 _ _ _ _ (Nat.le_refl _) (by omega) (Nat.lt_succ_self _)
end
noncomputable abbrev Qh (H:aa) (a:Nat) (l:List Nat) (j:Nat) (ps:List AV):aa:=H.set a (bH l j)++[.list ps]
section
variable {b:Base} {H:aa} {a:Nat} {l:List Nat} {j:Nat} {ps:List AV}
theorem fj (ha:a < H.length):(Qh H a l j ps)[a]?=some (bH l j):=by
 rewrite [List.getElem?_append_left (by simpa using ha)]
 simp [ha]
theorem sD (ha:a < H.length) (i:Nat):(Qh H a l j ps).set a (bH l i)=Qh H a l i ps:=by
 unfold Qh
 rewrite [List.set_append_left _ _ (by simpa using ha),List.set_set];rfl
theorem wz:(Qh H a l j ps)[H.length]?=some (.list ps):=by
 rewrite [List.getElem?_append_right (by simp)]
 simp
theorem E0 (hp:ps.length < aq) (u:AV):(aH b).run (.ref H.length) [u] (Qh H a l j ps)=.ok .none (Qh H a l j (ps++[u])):=by
 show (match (Qh H a l j ps)[H.length]? with
   |some (.list l')=>if l'.length < aq then Res.ok AV.none ((Qh H a l j ps).set H.length (.list (l'++[u]))) else .stuck
   |_=>.stuck)=_
 refine sY (wz ..)▸?_
 dsimp only
 refine sY (if_pos hp ..)▸?_
 congr 1
 unfold Qh
 rewrite [List.set_append_right _ _ (by simp)]
 simp
theorem HR {f:aa→Res AV}:gp (aH b) (.ref H.length) (Qh H a l j ps) f=f (Qh H a l j ps):=by
 have:(aH b).is (.ref H.length) (Qh H a l j ps)=true:=by
  show isList (.ref H.length) (Qh H a l j ps)=true
  unfold isList
  dsimp only
  refine sY (wz ..)▸?_;rfl
 unfold gp
 refine sY (this ..)▸?_;rfl
theorem Lb {c x y:Nat} (hc:c < 1114112) (z:List Nat) (hz:(AV.str z).isData=true) (hx:x < 1114112) (hy:y < 1114112):(dH b).run (.str [c]) (.tup [.str z,.str [x],.str [y]]) H=.ok (.bool (!(z==[c]||(x==c||y==c)))) H:=by
 have e:wZ (.str [c]) (.tup [.str z,.str [x],.str [y]]) H=some (z==[c]||(x==c||y==c)):=by
  have d1:(AV.str [c]).isData=true:=Bool.and_eq_true_iff.mpr ⟨decide_eq_true hc,rfl⟩
  have d2:AV.eZ [.str z,.str [x],.str [y]]=true:=by
   show ((AV.str z).isData&&((decide (x < 1114112)&&true)&&((decide (y < 1114112)&&true)&&true)))=true
   rw [hz,decide_eq_true hx,decide_eq_true hy];rfl
  show (if (AV.str [c]).isData&&AV.eZ [.str z,.str [x],.str [y]]&&decide ((AV.str [c]).depth≤10) then some ([AV.str z,.str [x],.str [y]].any λy=>gz y (.str [c])) else none)=_
  refine sY (d1 ..)▸?_;refine sY (d2 ..)▸?_
  show some _=some _
  congr 1
  show (z==[c]||((x==c&&true)||((y==c&&true)||false)))=_
  rewrite [Bool.and_true,Bool.and_true,Bool.or_false];rfl
 show bV (λt=>Res.ok (AV.bool (t != true)) H) (wZ (.str [c]) (.tup [.str z,.str [x],.str [y]]) H)=_
 refine sY (e ..)▸?_
 show Res.ok (AV.bool (_ != true)) H=_
 simp
theorem Gu {x y:Nat} (hx:x < 1114112) (hy:y < 1114112):(dH b).run (.str []) (.tup [.str [],.str [x],.str [y]]) H=.ok (.bool false) H:=by
 have e:wZ (.str []) (.tup [.str [],.str [x],.str [y]]) H=some true:=by
  have d2:AV.eZ [.str [],.str [x],.str [y]]=true:=by
   show (true&&((decide (x < 1114112)&&true)&&((decide (y < 1114112)&&true)&&true)))=true
   rw [decide_eq_true hx,decide_eq_true hy];rfl
  show (if (AV.str []).isData&&AV.eZ [.str [],.str [x],.str [y]]&&decide ((AV.str []).depth≤10) then some ([AV.str [],.str [x],.str [y]].any λy=>gz y (.str [])) else none)=_
  refine sY (d2 ..)▸?_
  rfl
 show bV (λt=>Res.ok (AV.bool (t != true)) H) (wZ (.str []) (.tup [.str [],.str [x],.str [y]]) H)=_
 refine sY (e ..)▸?_
 rfl
end
section
variable (Z:U) {H:aa} {a:Nat} {l:List Nat} {j:Nat} {ps:List AV}
theorem jA (ha:a < H.length) (hj:j≤l.length) (hl:l.length < 3900):(aG Z).run [.ref a] (Qh H a l j ps)=.ok (.str ((l.drop j).take 1)) (Qh H a l j ps):=kD Z (fj ha) hj hl
noncomputable def Az (c:Nat):Nat:=match Nat.beq c 110 with
 |true=>10
 |false=>c
structure x9 (a p:Nat) (loc:Loc):Prop where
 l2:loc.lookup 2=some (.ref a)
 BR:loc.lookup 24=some (.ref p)
theorem HQ (ha:a < H.length) (hj:j≤l.length) (hl:l.length < 3900) (hc:∀ c∈l,c < 1114112) {loc:Loc} (P:x9 a H.length loc) :
  ck Z loc (Qh H a l j ps)=.ok (match l.drop j with |[]=>false |c::_=>!(10==c||34==c)) (Qh H a l j ps):=by
 unfold ck
 refine b2 (gl P.l2) ?_;refine c1 (mV (fj ha) 26 rfl ..) ?_;refine k2 ?_;refine b1 (jA Z ha hj hl) ?_;refine k3 (k4 ?_);refine k5 (k5 ?_);refine k4 (k3 ?_);refine k2 ?_;refine b1 HC ?_
 have mem:∀ c,c∈l.drop j→c < 1114112:=λc h=>hc c (List.mem_of_mem_drop h)
 generalize l.drop j=r at mem ⊢
 cases r with
 |nil=>
  show ((dH _).run (.str []) _ _).bind aY=_
  refine b1 (Gu (by decide) (by decide)) ?_;refine sY (a8 ..)▸?_;rfl
 |cons c r=>
  show ((dH _).run (.str [c]) _ _).bind aY=_
  refine b1 (Lb (mem c (.head _)) [] rfl (by decide) (by decide)) ?_;refine sY (a8 ..)▸?_
  rfl
theorem Gn (ha:a < H.length) (hl:l.length < 3900) {c:Nat} {r:List Nat} (hd:l.drop j=c::r) (hc:c≠92) (hp:ps.length < aq) {loc:Loc} (P:x9 a H.length loc) :
  bP Z loc (Qh H a l j ps)=.ok (.next,(26,.str [c])::loc) (Qh H a l (j+1) (ps++[.str [c]])):=by
 refine bZ (drop_cons hd) ?_;intro e1 e2 e3
 have g2:List.lookup 2 ((26,AV.str [c])::loc)=some (.ref a):=P.l2
 have Oq:List.lookup 24 ((26,AV.str [c])::loc)=some (.ref H.length):=P.BR
 unfold bP
 have hs:List.take 1 (l.drop j)=[c]:=by rw [hd];rfl
 refine b3 (gl P.l2) ?_;refine c2 (mV (fj ha) 26 rfl ..) ?_;refine k3 ?_;refine c2 (jA Z ha (Nat.le_of_lt e1) hl) ?_;refine sY (hs ..)▸?_;refine k2 (k1 ?_);refine sY (aC ..)▸?_;refine b3 (gl (x:=26) (v:=.str [c]) rfl) ?_;refine k3 ?_;refine b3 ig ?_;refine b2 a8 ?_;refine sY (show (([c]:List Nat)==[92])=false by simp [hc])▸?_
 dsimp only
 refine k1 ?_;refine sY (aC ..)▸?_;refine b3 (gl Oq) ?_;refine c2 HR ?_;refine b4 (gl (x:=26) (v:=.str [c]) rfl) ?_;refine k4 (k3 ?_);refine b2 (E0 hp ..) ?_;refine k1 ?_;refine sY (aC ..)▸?_;refine b4 (gl g2) ?_;refine b3 (gs (fj ha)) ?_;refine k3 ?_;refine b2 add_one ?_;refine b2 (gl g2) ?_;refine b2 (ss (fj ha) ..) ?_;refine k1 ?_;refine sY (aC ..)▸?_;refine sY (sD ha ..)▸?_;rfl
theorem JN (ha:a < H.length) (hl:l.length < 3900) {c:Nat} {r:List Nat} (hd:l.drop j=92::c::r) (hc:c=110∨c=34∨c=92) (hp:ps.length < aq) {loc:Loc} (P:x9 a H.length loc) :
  ∃ loc',bP Z loc (Qh H a l j ps)=.ok (.next,loc') (Qh H a l (j+1+1) (ps++[.str [Az c]]))∧x9 a H.length loc':=by
 refine bZ (drop_cons hd) ?_;intro e1 e2 e3
 refine bZ (drop_cons e3) ?_;intro d1 d2 d3
 have lt:c < 1114112:=by rcases hc with rfl |rfl |rfl<;>decide
 have g2:List.lookup 2 ((26,AV.str [92])::loc)=some (.ref a):=P.l2
 have hs:List.take 1 (l.drop (j+1))=[c]:=by rw [e3];rfl
 have fin:∀ e:Nat,∃ loc',(((ab ((26,AV.str [e])::(26,AV.str [92])::loc) 24 (Qh H a l (j+1) ps)).bind λv H=>gp (aH (B Z)) v H λH=>((ab ((26,AV.str [e])::(26,AV.str [92])::loc) 26 H).bind λv H=>(Res.ok [] H).bind λvs H=>Res.ok (v::vs) H).bind λvs H=>(aH (B Z)).run v vs H).bind λ_ H=>Res.ok (av.next,((26,AV.str [e])::(26,AV.str [92])::loc)) H).bind (λfl H=>au fl H λloc H=>(((((ab loc 2 H).bind λv H=>aD 325 1 v H).bind λu H=>(Res.ok (AV.int 1) H).bind λv H=>(aB (B Z)).run u v H).bind λu H=>(ab loc 2 H).bind λv H=>(setField 325 1 v u H).bind λ_ H=>Res.ok (av.next,loc) H).bind λfl H=>au fl H λloc H=>(Res.ok (av.next,loc) H)))=.ok (.next,loc') (Qh H a l (j+1+1) (ps++[.str [e]]))∧x9 a H.length loc':=λe=>by
  refine ⟨(26,AV.str [e])::(26,AV.str [92])::loc,?_,⟨P.l2,P.BR⟩⟩
  have k2:List.lookup 2 ((26,AV.str [e])::(26,AV.str [92])::loc)=some (.ref a):=P.l2
  have Nk:List.lookup 24 ((26,AV.str [e])::(26,AV.str [92])::loc)=some (.ref H.length):=P.BR
  refine b3 (gl Nk) ?_;refine c2 HR ?_;refine b4 (gl (x:=26) (v:=.str [e]) rfl) ?_;refine k4 (k3 ?_);refine b2 (E0 hp ..) ?_;refine k1 ?_;refine sY (aC ..)▸?_;refine b4 (gl k2) ?_;refine b3 (gs (fj ha)) ?_;refine k3 ?_;refine b2 add_one ?_;refine b2 (gl k2) ?_;refine b2 (ss (fj ha) ..) ?_;refine k1 ?_;refine sY (aC ..)▸?_;refine sY (sD ha ..)▸?_;rfl
 unfold bP
 have NG:List.take 1 (l.drop j)=[92]:=by rw [hd];rfl
 refine sY (gl P.l2 ..)▸?_;refine sY (ae ..)▸?_;refine sY (mV (fj ha) 26 rfl ..)▸?_;refine sY (ae ..)▸?_;refine sY (jA Z ha (Nat.le_of_lt e1) hl ..)▸?_;refine sY (NG ..)▸?_;rewrite [ae];refine sY (ae ..)▸?_;refine sY (aC ..)▸?_;rewrite [gl (x:=26) (v:=.str [92]) rfl,ae,ae];refine sY (ig ..)▸?_;rewrite [ae];refine sY (a8 ..)▸?_;refine sY (ae ..)▸?_;refine sY (show (([92]:List Nat)==[92])=true from rfl ..)▸?_
 dsimp only
 refine sY (gl g2 ..)▸?_;refine sY (ae ..)▸?_;refine sY (gs (fj ha) ..)▸?_;rewrite [ae,ae];refine sY (add_one ..)▸?_;refine sY (ae ..)▸?_;refine sY (gl g2 ..)▸?_;refine sY (ae ..)▸?_;refine sY (ss (fj ha) ..)▸?_;rewrite [ae];refine sY (ae ..)▸?_;refine sY (aC ..)▸?_;refine sY (sD ha ..)▸?_;refine sY (gl g2 ..)▸?_;refine sY (ae ..)▸?_;refine sY (mV (fj ha) 26 rfl ..)▸?_;refine sY (ae ..)▸?_;refine sY (jA Z ha e1 hl ..)▸?_;refine sY (hs ..)▸?_;refine sY (ae ..)▸?_;rewrite [ae,ae,ae,ae,ae,ae,ae];refine sY (HC ..)▸?_;refine sY (ae ..)▸?_;rewrite [Lb lt [110] rfl (by decide) (by decide),ae];refine sY (a8 ..)▸?_;refine sY (ae ..)▸?_
 have t:(!(([110]:List Nat)==[c]||(34==c||92==c)))=false:=by rcases hc with rfl |rfl |rfl<;>rfl
 refine sY (t ..)▸?_
 dsimp only
 refine sY (ae ..)▸?_;refine sY (aC ..)▸?_;refine sY (gl g2 ..)▸?_;refine sY (ae ..)▸?_;refine sY (mV (fj ha) 26 rfl ..)▸?_;refine sY (ae ..)▸?_;refine sY (jA Z ha e1 hl ..)▸?_;refine sY (hs ..)▸?_;rewrite [ae,ae];refine sY (ig ..)▸?_;rewrite [ae];refine sY (a8 ..)▸?_;refine sY (ae ..)▸?_
 rcases hc with rfl |rfl |rfl
 ·refine sY (show (([110]:List Nat)==[110])=true from rfl ..)▸?_
  dsimp only
  rewrite [ae,ae];refine sY (aC ..)▸?_;refine sY (ae ..)▸?_;refine sY (aC ..)▸?_
  exact fin 10
 ·refine sY (show (([34]:List Nat)==[110])=false from rfl ..)▸?_
  dsimp only
  refine sY (gl g2 ..)▸?_;refine sY (ae ..)▸?_;refine sY (mV (fj ha) 26 rfl ..)▸?_;refine sY (ae ..)▸?_;refine sY (jA Z ha e1 hl ..)▸?_;refine sY (hs ..)▸?_;rewrite [ae,ae];refine sY (aC ..)▸?_;refine sY (ae ..)▸?_;refine sY (aC ..)▸?_
  exact fin 34
 ·refine sY (show (([92]:List Nat)==[110])=false from rfl ..)▸?_
  dsimp only
  refine sY (gl g2 ..)▸?_;refine sY (ae ..)▸?_;refine sY (mV (fj ha) 26 rfl ..)▸?_;refine sY (ae ..)▸?_;refine sY (jA Z ha e1 hl ..)▸?_;refine sY (hs ..)▸?_;rewrite [ae,ae];refine sY (aC ..)▸?_;refine sY (ae ..)▸?_;refine sY (aC ..)▸?_
  exact fin 92
end
theorem mW {c:Nat} {r:List Nat} (h1:c≠34) (h2:c≠10) (h3:c≠92):quot (c::r)=(quot r).map λp=>(c::p.1,p.2):=by
 rewrite [quot.eq_def]
 split<;>simp_all
theorem wy {d:Nat} {r:List Nat} {v r':List Nat} (h:quot (92::d::r)=some (v,r')):(d=110∨d=34∨d=92)∧∃ v1,quot r=some (v1,r')∧v=Az d::v1:=by
 have main:∀ e,((quot r).map λp:List Nat×List Nat=>(e::p.1,p.2))=some (v,r')→∃ v1,quot r=some (v1,r')∧v=e::v1:=λe h=>by
  cases q:quot r with
  |none=>rw [q] at h;cases h
  |some p=>rw [q] at h;cases h;exact ⟨p.1,rfl,rfl⟩
 by_cases h1:d=110
 ·subst h1;exact ⟨.inl rfl,main 10 (by rw [quot.eq_def] at h;exact h)⟩
 by_cases h2:d=34
 ·subst h2;exact ⟨.inr (.inl rfl),main 34 (by rw [quot.eq_def] at h;exact h)⟩
 by_cases h3:d=92
 ·subst h3;exact ⟨.inr (.inr rfl),main 92 (by rw [quot.eq_def] at h;exact h)⟩
 rw [quot.eq_def] at h
 split at h<;>simp_all
noncomputable abbrev str1 (c:Nat):AV:=.str [c]
theorem EU:∀ v:List Nat,strsOf (v.map str1)=some (v.map λc=>[c])
 |[]=>rfl
 |c::v=>by
  show (strsOf (v.map str1)).map ([c]::·)=_
  rw [EU v];rfl
theorem BX:∀ v:List Nat,cy [] (v.map λc=>[c])=v
 |[]=>rfl
 |[c]=>rfl
 |c::d::v=>by
  show [c]++[]++cy [] ((d::v).map λc=>[c])=_
  rw [BX (d::v)];rfl
theorem BW (v:List Nat):dO [] (v.map λc=>[c])=v.length:=by
 have:∀ (v:List Nat) (k:Nat),(v.map λc=>[c]).foldl (λk (t:List Nat)=>k+t.length+([]:List Nat).length) k=k+v.length:=by
  intro v
  induction v with
  |nil=>intro k;rfl
  |cons c v ih=>
   intro k
   show (v.map λc=>[c]).foldl (λk (t:List Nat)=>k+t.length+([]:List Nat).length) (k+1+0)=_
   rw [ih,List.length_cons];exact Nat.add_right_comm k 1 v.length
 unfold dO
 rw [this];exact Nat.zero_add _
section
variable (Z:U) {H:aa} {a:Nat} {l:List Nat}
theorem Bw (ha:a < H.length) (hl:l.length < 3900) (hc:∀ c∈l,c < 1114112):∀ (n:Nat) (r:List Nat) (j f:Nat) (ps:List AV) (v r':List Nat) (loc:Loc),r.length≤n→n < f→l.drop j=r→j≤l.length→quot r=some (v,r')→x9 a H.length loc→ps.length+n < aq→
  ∃ loc' k,bS (ck Z) (bP Z) f loc (Qh H a l j ps)=.ok (.next,loc') (Qh H a l k (ps++v.map str1))∧x9 a H.length loc'∧l.drop k=34::r'∧k≤l.length∧v.length≤n:=by
 intro n
 induction n with
 |zero=>
  intro r j f ps v r' loc hr hf hd hj hq P hp
  have e:r=[]:=List.eq_nil_of_length_eq_zero (Nat.eq_zero_of_le_zero hr)
  subst e
  cases hq
 |succ n ih=>
  intro r j f ps v r' loc hr hf hd hj hq P hp
  obtain ⟨f,rfl⟩:∃ g,f=g+1:=⟨f - 1,(Nat.sub_add_cancel (Nat.lt_of_le_of_lt (Nat.zero_le _) hf)).symm⟩
  have test:=HQ Z (ps:=ps) ha hj hl hc P
  rw [hd] at test
  have la:∀ u:AV,(ps++[u]).length=ps.length+1:=λu=>by simp
  cases r with
  |nil=>cases hq
  |cons c r=>
   refine bZ (drop_cons hd) ?_;intro e1 e2 e3
   have hr:r.length+1≤n+1:=hr
   by_cases jY:c=34
   ·subst jY
    rw [quot.eq_def] at hq
    cases hq
    refine ⟨loc,j,?_,P,hd,hj,Nat.zero_le _⟩
    refine sY (gD test ..)▸?_
    simp
   by_cases rj:c=10
   ·subst rj;rw [quot.eq_def] at hq;cases hq
   have ES:ck Z loc (Qh H a l j ps)=.ok true (Qh H a l j ps):=by
    refine sY (test ..)▸?_
    have x1:(10==c)=false:=by simpa using Ne.symm rj
    have x2:(34==c)=false:=by simpa using Ne.symm jY
    show Res.ok (!(10==c||34==c)) _=_
    rw [x1,x2];rfl
   by_cases xD:c=92
   ·subst xD
    cases r with
    |nil=>rw [quot.eq_def] at hq;cases hq
    |cons d r=>
     obtain ⟨zg,v1,k1,rfl⟩:=wy hq
     refine ai (JN Z (ps:=ps) ha hl hd zg (Nat.lt_of_le_of_lt (Nat.le_add_right _ _) hp) P) ?_;intro loc1 q1 q2
     refine bZ (drop_cons e3) ?_;intro f1 f2 f3
     have hr:r.length+1+1≤n+1:=hr
     refine mZ (ih r (j+1+1) f (ps++[.str [Az d]]) v1 r' loc1 (Nat.le_of_succ_le (Nat.le_of_succ_le_succ hr)) (Nat.lt_of_succ_lt_succ hf) f3 f1 k1 q2 (by rw [la,Nat.add_right_comm];exact hp)) ?_;intro cS k2 p1 p2 p3 p4 p5
     refine ⟨cS,k2,?_,p2,p3,p4,by simp;exact p5⟩
     refine sY (ip ES q1 ..)▸?_;refine sY (p1 ..)▸?_
     simp
   ·rw [mW jY rj xD] at hq
    cases q:quot r with
    |none=>rw [q] at hq;cases hq
    |some p=>
     rw [q] at hq
     cases hq
     have step:=Gn Z ha hl hd xD (Nat.lt_of_le_of_lt (Nat.le_add_right _ _) hp) P (ps:=ps)
     refine mZ (ih r (j+1) f (ps++[.str [c]]) p.1 p.2 ((26,.str [c])::loc) (Nat.le_of_succ_le_succ hr) (Nat.lt_of_succ_lt_succ hf) e3 e1 q ⟨P.l2,P.BR⟩ (by rw [la,Nat.add_right_comm];exact hp)) ?_;intro cS k2 p1 p2 p3 p4 p5
     refine ⟨cS,k2,?_,p2,p3,p4,by simp;exact p5⟩
     refine sY (ip ES step ..)▸?_;refine sY (p1 ..)▸?_
     simp
theorem Dz {k:Nat} (h:H[a]?=some (bH l k)) (hl:l.length < 3900) (hc:∀ c∈l,c < 1114112) {r v r':List Nat} (hd:l.drop k=34::r) (hq:quot r=some (v,r')) :
  ∃ k' ps,(cH Z).run [.ref a] H=.ok (.str v) (Qh H a l k' ps)∧l.drop k'=r'∧k'≤l.length:=by
 have e:(cH Z).run [.ref a] H=aF (gN Z [(2,.ref a)] H):=by kernel_rfl
 have ha:=(List.getElem?_eq_some_iff.mp h).1
 refine bZ (drop_cons hd) ?_;intro e1 e2 e3
 have g2:List.lookup 2 [(2,AV.ref a)]=some (.ref a):=rfl
 have FD:List.lookup 2 [(39,AV.int (k:Int)),(24,AV.ref H.length),(2,AV.ref a)]=some (.ref a):=rfl
 have hH:H++[.list []]=Qh H a l k []:=by unfold Qh;rw [set_same h]
 have NJ:r.length≤l.length:=by
  have:=congrArg List.length hd
  rw [List.length_drop,List.length_cons] at this;exact Nat.le_trans (Nat.le_succ _) (show r.length+1≤l.length from this▸Nat.sub_le _ _)
 have lm:4000 < aq:=by decide
 refine mZ (Bw Z ha hl hc l.length r (k+1) 4000 [] v r' [(39,AV.int (k:Int)),(24,AV.ref H.length),(2,AV.ref a)] NJ (dU hl rfl) e3 e1 hq ⟨rfl,rfl⟩ (by show 0+l.length < _;rw [Nat.zero_add];exact Nat.lt_trans (dU (b:=4000) hl rfl) lm)) ?_;intro loc' k2 p1 p2 p3 p4 p5
 refine bZ (drop_cons p3) ?_;intro d1 d2 d3
 refine ⟨k2+1,v.map str1,?_,d3,d1⟩
 have hs:List.take 1 (l.drop k2)=[34]:=by rw [p3];rfl
 refine sY (e ..)▸?_
 unfold gN
 refine Ku (gl g2) ?_;refine qY (gs h) ?_;refine Kt ?_
 show aF (Res.bind (Res.bind (Res.bind (Res.bind (Res.bind (Res.ok (AV.ref H.length) (H++[aK.list []])) _) _) _) _) _)=_
 refine EO (EO ?_);refine ow (rZ ?_);refine oy oz ?_;refine Kv zR ?_;refine l7 aC ?_;refine sY (hH ..)▸?_;refine qY (gl FD) ?_;refine qZ (gs (fj ha)) ?_;refine rZ ?_;refine oy add_one ?_;refine oy (gl FD) ?_;refine oy (ss (fj ha) ..) ?_;refine yG ?_;refine l7 aC ?_;refine sY (sD ha ..)▸?_;refine Kv p1 ?_;refine l7 aC ?_;refine qY (gl p2.l2) ?_;refine vT (mV (fj ha) 26 rfl ..) ?_;refine ow ?_;refine vT (jA Z ha (Nat.le_of_lt d1) hl) ?_;refine sY (hs ..)▸?_;refine rZ (rZ ?_);refine qZ yY ?_;refine oy a8 ?_;refine sY (show (!(([34]:List Nat)==[34]))=false from rfl ..)▸?_
 dsimp only
 refine yG ?_;refine l7 aC ?_;refine qY (gl p2.l2) ?_;refine qZ (gs (fj ha)) ?_;refine rZ ?_;refine oy add_one ?_;refine oy (gl p2.l2) ?_;refine oy (ss (fj ha) ..) ?_;refine yG ?_;refine l7 aC ?_;refine sY (sD ha ..)▸?_;refine rZ ?_;refine AO (mG rfl) ?_;refine qY (gl p2.BR) ?_;refine ow (rZ ?_)
 have j1:(dS (B Z)).run (.str []) [.ref H.length] (Qh H a l (k2+1) ([]++v.map str1))=.ok (.str v) (Qh H a l (k2+1) (v.map str1)):=by
  show bV (λts=>if dO [] ts≤aq then Res.ok (AV.str (cy [] ts)) (Qh H a l (k2+1) (v.map str1)) else .stuck) ((itemsOf (Qh H a l (k2+1) (v.map str1)) (.ref H.length)).bind strsOf)=_
  rw [show itemsOf (Qh H a l (k2+1) (v.map str1)) (.ref H.length)=some (v.map str1) by
   unfold itemsOf
   dsimp only
   refine sY (wz ..)▸?_;rfl]
  show bV _ (strsOf (v.map str1))=_
  rewrite [EU]
  show (if dO [] _≤aq then _ else _)=_
  rewrite [if_pos (by rw [BW];omega),BX];rfl
 refine oy j1 ?_;refine yG ?_;refine l7 dM ?_
 rfl
end
section
variable {b:Base} {H:aa}
theorem IY {i j:Nat}:(jP b).run (.int (i:Int)) (.int (j:Int)) H=.ok (.bool (decide (j < i))) H:=by
 show Res.ok (AV.bool (decide ((j:Int) < (i:Int)))) H=_
 simp
theorem int_str {l:List Nat} (h1:(l.all λc=>decide (48≤c)&&decide (c≤57))=true) (h2:l≠[]) (h3:l.length≤640):(vK b).run [.str l] H=.ok (.int (NumText.digitsVal l:Nat)) H:=by
 exact if_pos (⟨h1,h2,h3⟩:(l.all λc=>decide (48≤c)&&decide (c≤57))=true∧l≠[]∧l.length≤640)
theorem Ji (r:List Nat):((r.takeWhile cg).all λc=>decide (48≤c)&&decide (c≤57))=true:=by
 have k:∀ c∈[48,49,50,51,52,53,54,55,56,57],(decide (48≤c)&&decide (c≤57))=true:=by decide +kernel
 exact List.all_eq_true.mpr λc hc=>k c (of_decide_eq_true (List.all_eq_true.mp (List.all_takeWhile (p:=cg) (l:=r)) c hc))
set_option tactic.hygienic true in
theorem gT {neg:Bool} {m k:List Nat} {v:AV} {r:List Nat} (h:fB neg m=some (k,v,r)):k=[110,117,109,98,101,114]∧m.takeWhile cg≠[]∧(m.takeWhile cg).length≤640∧v=.int (match (generalizing:=false) neg with |true=>-(NumText.digitsVal (m.takeWhile cg):Nat) |false=>(NumText.digitsVal (m.takeWhile cg):Nat))∧r=m.dropWhile cg:=by
 unfold fB at h
 split at h
 ·cases h
 ·rename_i d ds e
  split at h
  ·rename_i hl
   cases h
   refine sY (e ..)▸?_
   exact ⟨rfl,by simp,Nat.le_of_ble_eq_true hl,rfl,rfl⟩
  ·cases h
end
section
variable (Z:U) {H:aa} {a:Nat} {l:List Nat}
theorem sJ {k:Nat} (h:H[a]?=some (bH l k)) (hl:l.length < 3900) {m kk:List Nat} {v:AV} {r:List Nat} (neg:Bool) (hk:k≤l.length) (hd:l.drop k=(match neg with |true=>45::m |false=>m)) (hn:neg=false→m.take 1≠[45]) (hx:fB neg m=some (kk,v,r)) :
  ∃ k',(de Z).run [.ref a] H=.ok v (H.set a (bH l k'))∧l.drop k'=r∧k'≤l.length:=by
 have e:(de Z).run [.ref a] H=aF (iW Z [(2,.ref a)] H):=by kernel_rfl
 refine qg (gT hx) ?_;rintro rfl x1 x2 rfl rfl
 have g2:List.lookup 2 [(2,AV.ref a)]=some (.ref a):=rfl
 have mk:∀ t:Bool,List.lookup 2 [(39,AV.int (k:Int)),(41,AV.bool t),(2,AV.ref a)]=some (.ref a)∧List.lookup 41 [(39,AV.int (k:Int)),(41,AV.bool t),(2,AV.ref a)]=some (.bool t):=λ_=>⟨rfl,rfl⟩
 have dn:(m.takeWhile cg==([]:List Nat))=false:=by
  cases q:m.takeWhile cg with
  |nil=>exact absurd q x1
  |cons _ _=>rfl
 have tw:∀ x:List Nat,(x.takeWhile λc=>decide (c∈[48,49,50,51,52,53,54,55,56,57]))=x.takeWhile cg:=λ_=>rfl
 have last:∀ (t:Bool) (j:Nat),H[a]?=some (bH l k)→t=neg→j≤l.length→l.drop j=m→
   ∃ k',aF (eN Z [(39,AV.int (k:Int)),(41,AV.bool t),(2,AV.ref a)] (H.set a (bH l j)))
    = .ok (.int (match (generalizing:=false) neg with |true=>-(NumText.digitsVal (m.takeWhile cg):Nat) |false=>(NumText.digitsVal (m.takeWhile cg):Nat))) (H.set a (bH l k'))∧l.drop k'=m.dropWhile cg∧k'≤l.length:=λt j h0 ht hj IK=>by
  subst ht
  have h1:=ma h0 (bH l j)
  have rr:=mU Z h1 hj hl [48,49,50,51,52,53,54,55,56,57]
  rw [IK,tw,List.set_set] at rr
  have NW:j+(m.takeWhile cg).length≤l.length:=by
   exact BK (o5 (p:=cg) m) (gA IK hj)
  refine ⟨j+(m.takeWhile cg).length,?_,rT IK,NW⟩
  have Fc:List.lookup 42 ((42,AV.str (m.takeWhile cg))::[(39,AV.int (k:Int)),(41,AV.bool t),(2,AV.ref a)])=some (.str (m.takeWhile cg)):=rfl
  have Nj:List.lookup 41 ((42,AV.str (m.takeWhile cg))::[(39,AV.int (k:Int)),(41,AV.bool t),(2,AV.ref a)])=some (.bool t):=rfl
  unfold eN
  refine qZ (gl (mk t).1) ?_;refine AO (mV h1 37 rfl ..) ?_;refine ow (ow ?_);refine rZ ?_
  show aF (Res.bind (Res.bind ((a9 Z).run [.ref a,.str [48,49,50,51,52,53,54,55,56,57]] _) _) _)=_
  refine oy rr ?_;refine yG ?_;refine l7 aC ?_;refine qY (gl Fc) ?_;refine ow ?_;refine nF ig ?_;refine sY (dn ..)▸?_;refine ow ?_;refine qZ a8 ?_
  dsimp only
  refine MM (gl Fc) ?_;refine Kt (EO ?_);refine qY (len_str (iQ x2 rfl)) ?_;refine ow ?_
  show aF (Res.bind (Res.bind (Res.bind (Res.bind ((jP (B Z)).run (.int ((m.takeWhile cg).length:Int)) (.int ((1000:Nat):Int)) _) _) _) _) _)=_
  refine nF IY ?_;rewrite [decide_eq_false (Nat.not_lt.mpr (lO x2 rfl))];refine ow ?_;refine qZ a8 ?_
  dsimp only
  refine MJ ?_
  dsimp only
  refine yG ?_;refine l7 aC ?_
  unfold gX
  refine qY (gl Nj) ?_;refine qZ a8 ?_
  cases t with
  |true=>
   dsimp only
   refine Ku (gl Fc) ?_;refine EO (ow ?_);refine qZ (int_str (Ji m) x1 x2) ?_
   rfl
  |false=>
   dsimp only
   refine qY (gl Fc) ?_;refine ow (rZ ?_);refine oy (int_str (Ji m) x1 x2) ?_
   rfl
 refine sY (e ..)▸?_
 unfold iW
 refine sY (gl g2 ..)▸?_;refine sY (ae ..)▸?_;refine sY (gs h ..)▸?_;refine sY (ae ..)▸?_;refine sY (gl g2 ..)▸?_;refine sY (ae ..)▸?_;refine sY (mV h 26 rfl ..)▸?_;refine sY (ae ..)▸?_;refine sY (kD Z h hk hl ..)▸?_;rewrite [ae,ae];refine sY (ig ..)▸?_;rewrite [ae,ae,ae,ae];refine sY (oz ..)▸?_;rewrite [ae];refine sY (zR ..)▸?_;refine sY (ae ..)▸?_;refine sY (aC ..)▸?_
 cases neg with
 |true=>
  have hd:l.drop k=45::m:=hd
  refine bZ (drop_cons hd) ?_;intro e1 e2 e3
  have hs:(List.take 1 (l.drop k)==[45])=true:=by rw [hd];rfl
  refine sY (hs ..)▸?_;refine sY (gl (mk true).2 ..)▸?_;rewrite [ae];refine sY (a8 ..)▸?_;refine sY (ae ..)▸?_
  dsimp only
  refine sY (gl (mk true).1 ..)▸?_;refine sY (ae ..)▸?_;refine sY (gs h ..)▸?_;rewrite [ae,ae];refine sY (add_one ..)▸?_;refine sY (ae ..)▸?_;refine sY (gl (mk true).1 ..)▸?_;refine sY (ae ..)▸?_;refine sY (ss h ..)▸?_;rewrite [ae,ae];refine sY (aC ..)▸?_;refine sY (ae ..)▸?_;refine sY (aC ..)▸?_
  exact last true (k+1) h rfl e1 e3
 |false=>
  have hd:l.drop k=m:=hd
  have hs:(List.take 1 (l.drop k)==[45])=false:=by
   refine sY (hd ..)▸?_
   simpa using hn rfl
  refine sY (hs ..)▸?_;refine sY (gl (mk false).2 ..)▸?_;rewrite [ae];refine sY (a8 ..)▸?_;rewrite [ae]
  dsimp only
  refine sY (ae ..)▸?_;refine sY (aC ..)▸?_
  have:=last false k h rfl hk hd
  rw [set_same h] at this
  exact this
end
theorem ph {c:Nat} {r:List Nat} (h1:c≠34) (h2:c≠45):fD (c::r)=match cg c,isLet c,sX c with
  |true,_,_=>fB false (c::r)
  |_,true,_=>some ([119,111,114,100],.str ((c::r).takeWhile pq),(c::r).dropWhile pq)
  |_,_,true=>some ([115,105,103,110],.str [c],r)
  |_,_,_=>match (generalizing:=false) c,r with
   |46,46::r=>some ([115,105,103,110],.str [46,46],r)
   |_,_=>none:=by
 rewrite [fD.eq_def]
 split
 ·rename_i q;cases q
 ·rename_i q;cases q;exact absurd rfl h1
 ·rename_i q;cases q;exact absurd rfl h2
 ·rename_i q;cases q;rfl
section
variable {b:Base} {H:aa} {L:Loc} {c x:Nat} {s:List Nat}
theorem H8 (h:c≠x):(([c]:List Nat)==[x])=false:=beq_eq_false_iff_ne.mpr λe=>h (List.cons.inj e).1
theorem v7 {u v:List Nat} {t:Bool} (g:L.lookup 26=some (.str u)) (h:(u==v)=t):((ab L 26 H).bind λu H=>(Res.ok (AV.str v) H).bind λv H=>((ba b).run u v H).bind aY)=.ok t H:=by
 rw [gl g,ae,ae,ig,ae,h];rfl
theorem zN (g:L.lookup 26=some (.str [c])) {t:Bool} (h:decide (c∈s)=t):((ab L 26 H).bind λu H=>(Res.ok (AV.str s) H).bind λv H=>((fY b).run u v H).bind aY)=.ok t H:=by
 rw [gl g,ae,ae,in_str,ae,h];rfl
end
section
variable (Z:U) {H:aa} {a:Nat} {l:List Nat} {k:Nat} {c:Nat} {m:List Nat}
noncomputable abbrev Lk (k c a:Nat):Loc:=[(39,.int (k:Int)),(26,.str [c]),(2,.ref a)]
noncomputable abbrev ru (kk:List Nat) (v:AV) (k:Nat):AV:=.tup [.str kk,v,.int (k:Int)]
theorem MQ (h:H[a]?=some (bH l k)) (hk:k≤l.length) (hl:l.length < 3900) {H0:aa} {v0:AV} {k0:Nat} (h0:H0[a]?=some (bH l k0)) (q:(c0 Z).run [.ref a] H0=.ok v0 H) (hd:l.drop k=c::m):cK Z [(2,.ref a)] H0=cu Z (Lk k c a) H:=by
 have s1:=kD Z h hk hl
 rw [hd] at s1
 have s1:(aG Z).run [.ref a] H=.ok (.str [c]) H:=s1
 unfold cK
 refine b3 (gl rfl) ?_
 refine sY (mV h0 43 rfl ..)▸?_
 refine k3 ?_
 refine b2 q ?_
 refine k1 ?_
 refine sY (aC ..)▸?_
 refine b5 (gl rfl) ?_
 refine b4 (gs h) ?_
 refine b6 (gl rfl) ?_
 refine sY (mV h 26 rfl ..)▸?_
 refine k6 ?_
 refine b5 s1 ?_
 refine k5 (k4 (k3 ?_))
 refine b1 (a:=(av.next,Lk k c a)) rfl ?_
 refine sY (aC ..)▸?_
 exact b2 (v7 (t:=false) rfl rfl) rfl
theorem HF (h:H[a]?=some (bH l k)) (hk:k≤l.length) (hl:l.length < 3900) {H0:aa} {v0:AV} {k0:Nat} (h0:H0[a]?=some (bH l k0)) (q:(c0 Z).run [.ref a] H0=.ok v0 H) (hd:l.drop k=[]):aF (cK Z [(2,.ref a)] H0)=.ok (ru [101,110,100] (.str []) k) H:=by
 have s1:=kD Z h hk hl
 rw [hd] at s1
 have s1:(aG Z).run [.ref a] H=.ok (.str []) H:=s1
 suffices q:cK Z [(2,.ref a)] H0=.ok (.ret (ru [101,110,100] (.str []) k),[(39,.int (k:Int)),(26,.str []),(2,.ref a)]) H from congrArg aF q
 unfold cK
 refine b3 (gl rfl) ?_
 refine sY (mV h0 43 rfl ..)▸?_
 refine k3 ?_
 refine b2 q ?_
 refine k1 ?_
 refine sY (aC ..)▸?_
 refine b5 (gl rfl) ?_
 refine b4 (gs h) ?_
 refine b6 (gl rfl) ?_
 refine sY (mV h 26 rfl ..)▸?_
 refine k6 ?_
 refine b5 s1 ?_
 refine k5 (k4 (k3 ?_))
 refine b1 (a:=(av.next,[(39,.int (k:Int)),(26,.str []),(2,.ref a)])) rfl ?_
 refine sY (aC ..)▸?_
 exact b2 (v7 (t:=true) rfl rfl) rfl
theorem MR (h:c≠34):cu Z (Lk k c a) H=cv Z (Lk k c a) H:=by
 unfold cu
 exact b2 (v7 rfl (H8 h)) rfl
theorem Mh (h:H[a]?=some (bH l k)) {v:List Nat} {H':aa} (q:(cH Z).run [.ref a] H=.ok (.str v) H'):cu Z (Lk k 34 a) H=.ok (.ret (ru [116,101,120,116] (.str v) k),Lk k 34 a) H':=by
 unfold cu
 refine b2 (v7 (t:=true) rfl rfl) ?_
 try dsimp only
 refine k5 ?_
 refine b7 (gl rfl) ?_
 refine sY (mV h 44 rfl ..)▸?_
 refine k7 ?_
 refine b6 q ?_
 rfl
theorem HG (h:H[a]?=some (bH l k)) {v:AV} {H':aa} (q:(de Z).run [.ref a] H=.ok v H') (hc:c=45∨c≠45∧cg c=true):cv Z (Lk k c a) H=.ok (.ret (ru [110,117,109,98,101,114] v k),Lk k c a) H':=by
 unfold cv
 refine b2 (a:=true) (H:=H) ?_ ?_
 ·rcases hc with rfl |⟨h1,h2⟩
  ·exact b1 (v7 rfl rfl) rfl
  ·exact b1 (v7 rfl (H8 h1)) (b1 (zN rfl h2) rfl)
 ·try dsimp only
  refine k5 ?_
  refine b7 (gl rfl) ?_
  refine sY (mV h 27 rfl ..)▸?_
  refine k7 ?_
  refine b6 q ?_
  rfl
theorem MS (h:c≠45) (hd:cg c=false):cv Z (Lk k c a) H=cw Z (Lk k c a) H:=by
 unfold cv
 exact b2 (b1 (v7 rfl (H8 h)) (b1 (zN rfl hd) rfl)) rfl
theorem MT (h:isLet c=false):cw Z (Lk k c a) H=dI Z (Lk k c a) H:=by
 unfold cw
 exact b2 (zN rfl h) rfl
theorem Mi (h:H[a]?=some (bH l k)) (hw:isLet c=true) {v:AV} {H':aa} (q:(a9 Z).run [.ref a,.str (wQ++[48,49,50,51,52,53,54,55,56,57])] H=.ok v H'):cw Z (Lk k c a) H=.ok (.ret (ru [119,111,114,100] v k),Lk k c a) H':=by
 have OT:(aB (B Z)).run eC eK H=.ok (AV.str (wQ++[48,49,50,51,52,53,54,55,56,57])) H:=by kernel_rfl
 unfold cw
 refine b2 (zN rfl hw) ?_
 try dsimp only
 refine k5 ?_
 refine b7 (gl rfl) ?_
 refine sY (mV h 37 rfl ..)▸?_
 skip
 refine b8 OT ?_
 refine k8 (k7 ?_)
 refine b6 q ?_
 rfl
theorem KA (h:H[a]?=some (bH l k)) (hk:k≤l.length) (hl:l.length < 3900) (hd:l.drop k=c::m) {t:Bool} (ht:(List.take 2 (c::m)==[46,46])=t):dI Z (Lk k c a) H=match (generalizing:=false) t with
  |true=>.ok (.ret (ru [115,105,103,110] (.str [46,46]) k),Lk k c a) (H.set a (bH l (k+2)))
  |false=>dJ Z (Lk k c a) H:=by
 have a2:(aB (B Z)).run (.int (k:Int)) (.int 2) H=.ok (.int ((k+2:Nat):Int)) H:=rfl
 unfold dI
 refine b5 (gl rfl) ?_
 refine b4 (gt h) ?_
 refine b4 (gl rfl) ?_
 refine b5 (gl rfl) ?_
 refine k5 ?_
 refine b4 a2 ?_
 refine b3 (wi (Nat.le_add_right _ _) hk hl) ?_
 refine sY (show k+2 - k=2 from Nat.add_sub_cancel_left k 2)▸?_;refine sY (hd ..)▸?_
 refine k3 ?_
 refine b3 ig ?_
 refine sY (ht ..)▸?_
 refine b2 a8 ?_
 cases t with
 |false=>rfl
 |true=>
  try dsimp only
  refine b4 (gl rfl) ?_
  refine k4 ?_
  refine b3 a2 ?_
  refine b3 (gl rfl) ?_
  refine b3 (ss h ..) ?_
  rfl
theorem MU (h:sX c=true):dJ Z (Lk k c a) H=dK Z (Lk k c a) H:=by
 have ni:(dH (B Z)).run (.str [c]) mF H=.ok (.bool false) H:=by
  show Res.ok (AV.bool (decide (c∈[40,41,91,93,123,125,44,59,58]) != true)) _=_
  rw [show decide (c∈[40,41,91,93,123,125,44,59,58])=true from h];rfl
 unfold dJ
 refine b3 (gl rfl) ?_
 refine k3 ?_
 refine b3 ni ?_
 rfl
theorem MV (h:H[a]?=some (bH l k)):dK Z (Lk k c a) H=.ok (.ret (ru [115,105,103,110] (.str [c]) k),Lk k c a) (H.set a (bH l (k+1))):=by
 unfold dK
 refine b3 (gl rfl) ?_
 refine k3 ?_
 refine b2 add_one ?_
 refine b2 (gl rfl) ?_
 refine b2 (ss h ..) ?_
 rfl
set_option tactic.hygienic true in
theorem uD (h:H[a]?=some (bH l k)) (hk:k≤l.length) (hl:l.length < 3900) (hc:∀ c∈l,c < 1114112) {m kk:List Nat} {v:AV} {r:List Nat} (hm:skip (l.drop k)=m)
  (hx:(m=[]∧kk=[101,110,100]∧v=.str []∧r=[])∨fD m=some (kk,v,r)) :
  ∃ j J,(eh Z).run [.ref a] H=.ok (.tup [.str kk,v,.int ((l.length - m.length:Nat):Int)]) (H.set a (bH l j)++J)∧l.drop j=r∧j≤l.length:=by
 have e:(eh Z).run [.ref a] H=aF (cK Z [(2,.ref a)] H):=by kernel_rfl
 refine bk (Dd Z h hk hl) ?_;intro v0 k1 q1 q2 q3
 rw [hm] at q2
 have xn:l.length - m.length=k1:=((gA q2 q3).1).symm▸(by have:=gA q2 q3;exact (by rw [← this.1]))
 refine sY (xn ..)▸?_;refine sY (e ..)▸?_
 have h1:=ma h (bH l k1)
 cases m with
 |nil=>
  rcases hx with ⟨_,rfl,rfl,rfl⟩ |hx
  ·exact ⟨k1,[],by rw [HF Z h1 q3 hl h q1 q2,List.append_nil],q2,q3⟩
  ·cases hx
 |cons c m=>
  rcases hx with ⟨hh,_⟩ |hx
  ·cases hh
  refine bZ (drop_cons q2) ?_;intro e1 e2 e3
  refine sY (MQ Z h1 q3 hl h q1 q2 ..)▸?_
  by_cases jY:c=34
  ·subst jY
   refine ai (Option.map_eq_some_iff.mp (show (quot m).map (λp=>(([116,101,120,116]:List Nat),AV.str p.1,p.2))=some (kk,v,r) from hx)) ?_;intro p hq hx
   cases hx
   refine bk (Dz Z h1 hl hc q2 (r:=m) (v:=p.1) (r':=p.2) hq) ?_;intro k' ps p1 p2 p3
   exact ⟨k',[.list ps],by rw [Mh Z h1 p1];unfold Qh;rw [List.set_set];rfl,p2,p3⟩
  refine sY (MR Z jY ..)▸?_
  by_cases uX:c=45
  ·subst uX
   have hx:fB true m=some (kk,v,r):=hx
   refine cO (sJ Z h1 hl (m:=m) true q3 q2 (λh=>nomatch h) hx) ?_;intro k' p1 p2 p3
   refine aQ (gT hx) ?_;rintro rfl _
   exact ⟨k',[],by rw [HG Z h1 p1 (.inl rfl),List.set_set,List.append_nil];rfl,p2,p3⟩
  rw [ph jY uX] at hx
  cases hd:cg c with
  |true=>
   rw [hd] at hx
   refine cO (sJ Z h1 hl (m:=c::m) false q3 q2 (λ_ h=>uX (by injection h)) hx) ?_;intro k' p1 p2 p3
   refine aQ (gT hx) ?_;rintro rfl _
   exact ⟨k',[],by rw [HG Z h1 p1 (.inr ⟨uX,hd⟩),List.set_set,List.append_nil];rfl,p2,p3⟩
  |false=>
  rw [hd] at hx
  refine sY (MS Z uX hd ..)▸?_
  cases hle:isLet c with
  |true=>
   rw [hle] at hx
   cases hx
   have rr:=mU Z h1 q3 hl (wQ++[48,49,50,51,52,53,54,55,56,57])
   rw [q2,List.set_set] at rr
   refine ⟨k1+((c::m).takeWhile pq).length,[],by rw [Mi Z h1 hle rr,List.append_nil];rfl,rT q2,?_⟩
   exact BK (o5 (p:=pq) (c::m)) (gA q2 q3)
  |false=>
  rw [hle] at hx
  refine sY (MT Z hle ..)▸?_
  cases Fe:sX c with
  |true=>
   rw [Fe] at hx
   cases hx
   have M9:c≠46:=by rintro rfl;cases Fe
   have ht:(List.take 2 (c::r)==[46,46])=false:=beq_eq_false_iff_ne.mpr λe=>M9 (List.cons.inj (show c::List.take 1 r=46::[46] from e)).1
   exact ⟨k1+1,[],by rw [KA Z h1 q3 hl q2 ht];dsimp only;rw [MU Z Fe,MV Z h1,List.set_set,List.append_nil];rfl,e3,e1⟩
  |false=>
   rw [Fe] at hx
   dsimp only at hx
   split at hx
   ·rename_i r0
    cases hx
    refine bZ (drop_cons e3) ?_;intro f1 f2 f3
    exact ⟨k1+2,[],by rw [KA Z h1 q3 hl q2 rfl,List.set_set,List.append_nil];rfl,f3,f1⟩
   ·cases hx
theorem se (x:List Nat) (v:AV) (i:Int) (hv:∀ k,v.closed k=true) (k:Nat):(AV.tup [.str x,v,.int i]).closed k=true:=by
 show ((AV.str x).closed k&&(v.closed k&&((AV.int i).closed k&&true)))=true
 rw [hv k];rfl
set_option tactic.hygienic true in
theorem vp {m kk:List Nat} {v:AV} {r:List Nat} (h:fD m=some (kk,v,r)) (k:Nat):v.closed k=true:=by
 have num:∀ {neg:Bool} {m:List Nat},fB neg m=some (kk,v,r)→v.closed k=true:=λh=>by
  refine qg (gT h) ?_;rintro _ _ _ rfl _
  rfl
 rw [fD.eq_def] at h
 split at h
 ·cases h
 ·rename_i m
  cases q:quot m with
  |none=>rw [q] at h;cases h
  |some p=>rw [q] at h;cases h;rfl
 ·exact num h
 ·split at h
  ·exact num h
  ·cases h;rfl
  ·cases h;rfl
  ·split at h
   ·cases h;rfl
   ·cases h
theorem J1:AL (eh Z) 325 Af Ag where
 step:=λ{l i t r H a} hs h=>by
  obtain ⟨_,⟨hl,hc⟩,k,rfl,hk,T⟩:=hs
  have h:H[a]?=some (bH l k):=h
  cases T with
  |fin e=>
   refine bk (uD Z h hk hl hc e (.inl ⟨rfl,rfl,rfl,rfl⟩)) ?_;intro j J p1 p2 p3
   exact ⟨_,J,p1,⟨⟨rfl,rfl⟩,⟨hl,hc⟩,j,rfl,p3,.nil⟩,se _ _ _ λ_=>rfl⟩
  |tok e1 e2 T=>
   refine bk (uD Z h hk hl hc e1 (.inr e2)) ?_;intro j J p1 p2 p3
   exact ⟨_,J,p1,⟨⟨rfl,rfl⟩,⟨hl,hc⟩,j,rfl,p3,by rw [p2];exact T⟩,se _ _ _ λk=>vp e2 k⟩
 init:=λ{l ts} h=>⟨⟨rfl,rfl⟩,h.1,0,rfl,Nat.zero_le _,h.2⟩
 only:=λh=>h.1
noncomputable def i5:Fn (B Z) 3:=(eh Z).J2 325 Af Ag (J1 Z)
end
section
variable (Z:U)
noncomputable def yE:bb (B Z) o4 1 0:=(.c (.setAttr (lC 2 33 8 12) 150 4 (sP 33 8 17) (.newList .n (sP 33 20 22)) (sP 33 8 22) (ca Z 150 4 qT))
 (.c (.setAttr (lC 2 34 8 12) 150 5 (sP 34 8 18) (.newList .n (sP 34 21 23)) (sP 34 8 23) (ca Z 150 5 qT))
 (.c (.setAttr (lC 2 35 8 12) 150 6 (sP 35 8 17) (.tup (.c (tX "satisfy" 35 21 30) (.o (.none _ _ _ 0 (sP 35 32 36)))) 0 (sP 35 20 37)) (sP 35 8 37) (ca Z 150 6 qT))
 (.c (.setAttr (lC 2 36 8 12) 150 7 (sP 36 8 18) (.tup .n 0 (sP 36 21 23)) (sP 36 8 23) (ca Z 150 7 qT))
 .n))))
noncomputable def ym:Fn (B Z) 1:=fM 119 [2] (yE Z) 0 rfl (by kernel_rfl)
noncomputable def uw:bb (B Z) ll 1 0:=(.c (.expr (.bm (aL 2 150 4 39 8 12 17) (aH _) (.o (.tup (.c (lC 8 39 26 30) (.o (lC 9 39 32 38))) 0 (sP 39 25 39))) (sP 39 8 24) (sP 39 8 40)) (sP 39 8 40))
 (.c (.ret (.bin (bu (.o (aL 2 150 4 40 19 23 28)) (sP 40 15 18) (sP 40 15 29)) (si _) (iC 1 40 32 33) (sP 40 15 33)) (sP 40 8 33))
 .n))
noncomputable def uk:Fn (B Z) 1:=fM 126 [2,8,9] (uw Z) 1 rfl (by kernel_rfl)
noncomputable def yD:bb (B Z) oZ 1 0:=(.c (.expr (.bm (aL 2 150 5 43 8 12 18) (aH _) (.o (lC 10 43 26 30)) (sP 43 8 25) (sP 43 8 31)) (sP 43 8 31))
 .n)
noncomputable def yl:Fn (B Z) 1:=fM 133 [2,10] (yD Z) 2 rfl (by kernel_rfl)
noncomputable def yC:bb (B Z) oY 1 0:=(.c (.ret (bu (.o (aL 2 150 4 46 19 23 28)) (sP 46 15 18) (sP 46 15 29)) (sP 46 8 29))
 .n)
noncomputable def rm:Fn (B Z) 1:=fM 140 [2] (yC Z) 3 rfl (by kernel_rfl)
noncomputable def rX:bb (B Z) jV 1 0:=(.c (.ret (.item (.item (aL 2 150 4 49 15 19 24) (lC 11 49 25 26) (sP 49 15 27)) (iC 1 49 28 29) (sP 49 15 30)) (sP 49 8 30))
 .n)
noncomputable def kN:Fn (B Z) 1:=fM 147 [2,11] (rX Z) 4 rfl (by kernel_rfl)
noncomputable def yz:bb (B Z) oV 1 0:=(.c (.ret (.and (.c (B3 (lC 12 51 22 27) (sP 51 11 21) (sP 51 29 32) (sP 51 11 33)) (.o (.not (is_bool (lC 12 51 54 59) (sP 51 43 53) (sP 51 61 65) (sP 51 43 66)) (sP 51 39 66)))) (sP 51 11 67)) (sP 51 4 67))
 .n)
noncomputable def l3:Fn (B Z) 1:=fM 161 [12] (yz Z) 5 rfl (by kernel_rfl)
noncomputable def lU:Scope:=(fS [(".0",.local),("one",.local),("is_number",gI)])
noncomputable def mi:Scope:=(fS [(".0",.local),("one",.local),("is_number",gI)])
noncomputable def n0:bb (B Z) iq 2 0:=(.c (.ret (.and (.c (gx (lC 12 53 22 27) (sP 53 11 21) (sP 53 29 34) (sP 53 11 35)) (.o (jf (.o (.comp (cs':=mi) (cL (l3 Z) "is_number" (.o (lC 13 53 55 58)) (sP 53 45 54) (sP 53 45 59)) (.name ⟨13,qL⟩ (sP 53 64 67)) (.of (lC 12 53 71 76)) [] lU (sP 53 44 77) (eX (by kernel_rfl)) (lI (by kernel_rfl)) (λ_ h=>nomatch h) rfl (eg (by kernel_rfl)) (dE (by kernel_rfl)))) (sP 53 40 43) (sP 53 40 78)))) (sP 53 11 78)) (sP 53 4 78))
 .n)
noncomputable def i4:Fn (B Z) 2:=fM 166 [12] (n0 Z) 6 rfl (by kernel_rfl)
noncomputable def EK:bb (B Z) uG 2 0:=(.c (.ret (.and (.c (cL (l3 Z) "is_number" (.o (lC 12 55 21 26)) (sP 55 11 20) (sP 55 11 27)) (.o (.chain (iC 0 55 32 33) (DW _) (lC 12 55 37 42) (nc _) (lC 14 55 45 49) (sP 55 32 49)))) (sP 55 11 49)) (sP 55 4 49))
 .n)
noncomputable def hM:Fn (B Z) 2:=fM 173 [12,14] (EK Z) 7 rfl (by kernel_rfl)
noncomputable def Bo:Scope:=(fS [(".0",.local),("one",.local),("is_var",gI),("many",.free)])
noncomputable def Dp:Scope:=(fS [(".0",.local),("one",.local),("is_var",gI),("many",.cell)])
noncomputable def Bl:Scope:=(fS [(".0",.local),("row",.local),("is_row_of_numbers",gI)])
noncomputable def Dn:Scope:=(fS [(".0",.local),("row",.local),("is_row_of_numbers",gI)])
noncomputable def Jr:bb (B Z) yK 3 0:=(.c (.ite (.cmp (lC 15 57 7 11) (ba _) (tX "x" 57 15 18) (sP 57 7 18)) (.c (.ret (cL (hM Z) "is_var" (.c (lC 12 58 22 27) (.o (lC 14 58 29 33))) (sP 58 15 21) (sP 58 15 34)) (sP 58 8 34))
 .n) .n ⟨57,4,58,34⟩)
 (.c (.ite (.cmp (lC 15 59 7 11) (ba _) (tX "X" 59 15 18) (sP 59 7 18)) (.c (.ret (.and (.c (gx (lC 12 60 26 31) (sP 60 15 25) (sP 60 33 38) (sP 60 15 39)) (.o (jf (.o (.comp (cs':=Dp) (cL (hM Z) "is_var" (.c (lC 13 60 56 59) (.o (lC 14 60 61 65))) (sP 60 49 55) (sP 60 49 66)) (.name ⟨13,qL⟩ (sP 60 71 74)) (.of (lC 12 60 78 83)) [14] Bo (sP 60 48 84) (eX (by kernel_rfl)) (An 14 (by kernel_rfl)) (Ee 14 (by kernel_rfl) (by kernel_rfl)) rfl (eg (by kernel_rfl)) (dE (by kernel_rfl)))) (sP 60 44 47) (sP 60 44 85)))) (sP 60 15 85)) (sP 60 8 85))
 .n) .n ⟨59,4,60,85⟩)
 (.c (.ite (.cmp (lC 15 61 7 11) (ba _) (tX "n" 61 15 18) (sP 61 7 18)) (.c (.ret (cL (l3 Z) "is_number" (.o (lC 12 62 25 30)) (sP 62 15 24) (sP 62 15 31)) (sP 62 8 31))
 .n) .n ⟨61,4,62,31⟩)
 (.c (.ite (.cmp (lC 15 63 7 11) (ba _) (tX "N" 63 15 18) (sP 63 7 18)) (.c (.ret (cL (i4 Z) "is_row_of_numbers" (.o (lC 12 64 33 38)) (sP 64 15 32) (sP 64 15 39)) (sP 64 8 39))
 .n) .n ⟨63,4,64,39⟩)
 (.c (.ite (.cmp (lC 15 65 7 11) (ba _) (tX "R" 65 15 18) (sP 65 7 18)) (.c (.ret (.and (.c (gx (lC 12 66 26 31) (sP 66 15 25) (sP 66 33 38) (sP 66 15 39)) (.o (jf (.o (.comp (cs':=Dn) (cL (i4 Z) "is_row_of_numbers" (.o (lC 16 66 67 70)) (sP 66 49 66) (sP 66 49 71)) (.name ⟨16,qL⟩ (sP 66 76 79)) (.of (lC 12 66 83 88)) [] Bl (sP 66 48 89) (eX (by kernel_rfl)) (lI (by kernel_rfl)) (λ_ h=>nomatch h) rfl (eg (by kernel_rfl)) (dE (by kernel_rfl)))) (sP 66 44 47) (sP 66 44 90)))) (sP 66 15 90)) (sP 66 8 90))
 .n) .n ⟨65,4,66,90⟩)
 (.c (.ite (.cmp (lC 15 67 7 11) (ba _) (tX "s" 67 15 18) (sP 67 7 18)) (.c (.ret (.and (.c (pk (lC 12 68 26 31) (sP 68 15 25) (sP 68 33 36) (sP 68 15 37)) (.o (.cmp (lC 12 68 42 47) (fY _) (.glob ⟨"STRENGTHS",qG,qF⟩ l6 (xE Z) (sP 68 51 60)) (sP 68 42 60)))) (sP 68 15 60)) (sP 68 8 60))
 .n) .n ⟨67,4,68,60⟩)
 (.c (.ret (.and (.c (gx (lC 12 69 22 27) (sP 69 11 21) (sP 69 29 34) (sP 69 11 35)) (.c (.cmp (bu (.o (lC 12 69 44 49)) (sP 69 40 43) (sP 69 40 50)) (jP _) (iC 0 69 53 54) (sP 69 40 54)) (.c (.cmp (.item (lC 12 69 60 65) (iC 0 69 66 67) (sP 69 60 68)) (fY _) (.glob ⟨"LINEAR",qG,qF⟩ rW (Cr Z) (sP 69 72 78)) (sP 69 60 78)) (.o (.cmp (.hole _ _ _ (PySem.Expr.Call (func:=(PySem.Expr.Name "told_fault" (sP 69 85 95))) (args:=[(PySem.Expr.Name "thing" (sP 69 96 101)),(PySem.Expr.Name "many" (sP 69 103 107))]) (keywords:=[]) (pos:=(sP 69 85 108)))) (ba _) (tX "" 69 112 114) (sP 69 85 114)))))) (sP 69 11 115)) (sP 69 4 115))
 .n)))))))
noncomputable def Jc:Fn (B Z) 3:=fM 178 [15,12,14] (Jr Z) 8 rfl (by kernel_rfl)
noncomputable def sq:Scope:=(fS [(".0",.local),("row",.local),("len",gI),("told",.free)])
noncomputable def tY:Scope:=(fS [(".0",.local),("row",.local),("len",gI),("told",.cell)])
noncomputable def xT:bb (B Z) nG 4 0:=(.c (.ite (.or (.c (.not (.of (gx (lC 10 80 22 26) (sP 80 11 21) (sP 80 28 33) (sP 80 11 34))) (sP 80 7 34)) (.c (.cmp (bu (.o (lC 10 80 42 46)) (sP 80 38 41) (sP 80 38 47)) (ba _) (iC 0 80 51 52) (sP 80 38 52)) (.c (.not (.of (pk (.item (lC 10 80 72 76) (iC 0 80 77 78) (sP 80 72 79)) (sP 80 61 71) (sP 80 81 84) (sP 80 61 85))) (sP 80 57 85)) (.o (.cmp (.item (lC 10 80 91 95) (iC 0 80 96 97) (sP 80 91 98)) (dH _) (.glob ⟨"FORMS",qG,qF⟩ qo (xF Z) (sP 80 106 111)) (sP 80 91 111)))))) (sP 80 7 112)) (.c (.ret (tX "no constraint is told so" 81 15 41) (sP 81 8 41))
 .n) .n ⟨80,4,81,41⟩)
 (.c (.i9 [(⟨8,qL⟩,(sP 82 4 8)),(⟨17,qL⟩,(sP 82 10 14))] 0 (sP 82 4 14) (.tup (.c (.item (lC 10 82 18 22) (iC 0 82 23 24) (sP 82 18 25)) (.o (.sU (.glob ⟨"FORMS",qG,qF⟩ qo (xF Z) (sP 82 27 32)) (.item (lC 10 82 33 37) (iC 0 82 38 39) (sP 82 33 40)) (sP 82 27 41)))) 0 (sP 82 17 42)) (sP 82 4 42))
 (.c (.ite (.cmp (bu (.o (lC 10 83 11 15)) (sP 83 7 10) (sP 83 7 16)) (dq _) (.bin (bu (.o (lC 17 83 24 28)) (sP 83 20 23) (sP 83 20 29)) (aB _) (iC 1 83 32 33) (sP 83 20 33)) (sP 83 7 33)) (.c (.ret (.iK (.fmt (lC 8 84 18 22) (sP 84 17 23)) (tX " has " 84 23 28) (.c (.fmt (bu (.o (lC 17 84 33 37)) (sP 84 29 32) (sP 84 29 38)) (sP 84 28 39)) (.c (tX " arguments, not " 84 39 55) (.o (.fmt (.bin (bu (.o (lC 10 84 60 64)) (sP 84 56 59) (sP 84 56 65)) (si _) (iC 1 84 68 69) (sP 84 56 69)) (sP 84 55 70))))) (sP 84 15 71)) (sP 84 8 71))
 .n) .n ⟨83,4,84,71⟩)
 (.c (.for (.bi (Je _) ⟨⟨"enumerate",qG,qF⟩,by kernel_rfl,by decide +kernel⟩ (bt Z "enumerate" rfl) (.o (lC 17 85 33 37)) (sP 85 23 32) (sP 85 23 38)) (.names [(⟨18,qL⟩,(sP 85 8 13)),(⟨15,qL⟩,(sP 85 15 19))] 0 (sP 85 8 19)) (.c (.ite (.not (.of (cL (Jc Z) "fits" (.c (lC 15 86 20 24) (.c (.item (lC 10 86 26 30) (.bin (lC 18 86 31 36) (aB _) (iC 1 86 39 40) (sP 86 31 40)) (sP 86 26 41)) (.o (lC 14 86 43 47)))) (sP 86 15 19) (sP 86 15 48))) (sP 86 11 48)) (.c (.ret (.iK (.fmt (lC 8 87 22 26) (sP 87 21 27)) (tX ": argument " 87 27 38) (.c (.fmt (.bin (lC 18 87 39 44) (aB _) (iC 1 87 47 48) (sP 87 39 48)) (sP 87 38 49)) (.o (tX " is of another kind" 87 49 68))) (sP 87 19 69)) (sP 87 12 69))
 .n) .n ⟨86,8,87,69⟩)
 .n) ⟨85,4,87,69⟩)
 (.c (.for (.of (.bm (.glob ⟨"PAIRS",qG,qF⟩ ur (Em Z) (sP 88 22 27)) (Kf _) (.c (lC 8 88 32 36) (.o (.tup .n 0 (sP 88 38 40)))) (sP 88 22 31) (sP 88 22 41))) (.names [(⟨13,qL⟩,(sP 88 8 11)),(⟨19,qL⟩,(sP 88 13 18))] 0 (sP 88 8 18)) (.c (.ite (.cmp (bu (.o (.item (lC 10 89 15 19) (lC 13 89 20 23) (sP 89 15 24))) (sP 89 11 14) (sP 89 11 25)) (dq _) (bu (.o (.item (lC 10 89 33 37) (lC 19 89 38 43) (sP 89 33 44))) (sP 89 29 32) (sP 89 29 45)) (sP 89 11 45)) (.c (.ret (.iK (.fmt (lC 8 90 22 26) (sP 90 21 27)) (tX ": arguments " 90 27 39) (.c (.fmt (lC 13 90 40 43) (sP 90 39 44)) (.c (tX " and " 90 44 49) (.c (.fmt (lC 19 90 50 55) (sP 90 49 56)) (.o (tX " are of unlike lengths" 90 56 78))))) (sP 90 19 79)) (sP 90 12 79))
 .n) .n ⟨89,8,90,79⟩)
 .n) ⟨88,4,90,79⟩)
 (.c (.ite (.and (.c (.cmp (lC 8 91 7 11) (ba _) (tX "cumulative" 91 15 27) (sP 91 7 27)) (.o (.cmp (.hole _ _ _ (PySem.Expr.Call (func:=(PySem.Expr.Name "min" (sP 91 32 35))) (args:=[(PySem.Expr.BinOp (left:=(PySem.Expr.BinOp (left:=(PySem.Expr.Subscript (value:=(PySem.Expr.Name "told" (sP 91 36 40))) (slice:=(PySem.Expr.Constant (PySem.Const.int 2) 0 (sP 91 41 42))) (pos:=(sP 91 36 43)))) (op:=(PySem.Operator.Add)) (right:=(PySem.Expr.Subscript (value:=(PySem.Expr.Name "told" (sP 91 46 50))) (slice:=(PySem.Expr.Constant (PySem.Const.int 3) 0 (sP 91 51 52))) (pos:=(sP 91 46 53)))) (pos:=(sP 91 36 53)))) (op:=(PySem.Operator.Add)) (right:=(PySem.Expr.Subscript (value:=(PySem.Expr.Name "told" (sP 91 56 60))) (slice:=(PySem.Expr.Slice (lower:=(some (PySem.Expr.Constant (PySem.Const.int 4) 0 (sP 91 61 62)))) (upper:=(none)) (step:=(none)) (pos:=(sP 91 61 63)))) (pos:=(sP 91 56 64)))) (pos:=(sP 91 36 64)))]) (keywords:=[]) (pos:=(sP 91 32 65)))) (nc _) (iC 0 91 68 69) (sP 91 32 69)))) (sP 91 7 69)) (.c (.ret (tX "cumulative: no task lasts, or needs, less than 0, and no limit is less" 92 15 87) (sP 92 8 87))
 .n) .n ⟨91,4,92,87⟩)
 (.c (.ite (.and (.c (.cmp (lC 8 93 7 11) (ba _) (tX "disjunctive" 93 15 28) (sP 93 7 28)) (.o (.cmp (.hole _ _ _ (PySem.Expr.Call (func:=(PySem.Expr.Name "min" (sP 93 33 36))) (args:=[(PySem.Expr.BinOp (left:=(PySem.Expr.Subscript (value:=(PySem.Expr.Name "told" (sP 93 37 41))) (slice:=(PySem.Expr.Constant (PySem.Const.int 2) 0 (sP 93 42 43))) (pos:=(sP 93 37 44)))) (op:=(PySem.Operator.Add)) (right:=(PySem.Expr.Tuple [(PySem.Expr.Constant (PySem.Const.int 0) 0 (sP 93 48 49))] 0 (sP 93 47 51))) (pos:=(sP 93 37 51)))]) (keywords:=[]) (pos:=(sP 93 33 52)))) (nc _) (iC 0 93 55 56) (sP 93 33 56)))) (sP 93 7 56)) (.c (.ret (tX "disjunctive: no task lasts less than 0" 94 15 55) (sP 94 8 55))
 .n) .n ⟨93,4,94,55⟩)
 (.c (.ite (.and (.c (.cmp (lC 8 95 7 11) (fY _) (.tup (.c (tX "max" 95 16 21) (.o (tX "min" 95 23 28))) 0 (sP 95 15 29)) (sP 95 7 29)) (.o (.cmp (bu (.o (.item (lC 10 95 38 42) (iC 1 95 43 44) (sP 95 38 45))) (sP 95 34 37) (sP 95 34 46)) (ba _) (iC 0 95 50 51) (sP 95 34 51)))) (sP 95 7 51)) (.c (.ret (.iK (.fmt (lC 8 96 18 22) (sP 96 17 23)) (tX ": there is one variable at least" 96 23 55) .n (sP 96 15 56)) (sP 96 8 56))
 .n) .n ⟨95,4,96,56⟩)
 (.c (.ite (.and (.c (.cmp (lC 8 97 7 11) (ba _) (tX "table" 97 15 22) (sP 97 7 22)) (.o (.not (.of (jf (.o (.comp (cs':=tY) (.cmp (bu (.o (lC 16 97 41 44)) (sP 97 37 40) (sP 97 37 45)) (ba _) (bu (.o (.item (lC 10 97 53 57) (iC 1 97 58 59) (sP 97 53 60))) (sP 97 49 52) (sP 97 49 61)) (sP 97 37 61)) (.name ⟨16,qL⟩ (sP 97 66 69)) (.of (.item (lC 10 97 73 77) (iC 2 97 78 79) (sP 97 73 80))) [10] sq (sP 97 36 81) (eX (by kernel_rfl)) (An 10 (by kernel_rfl)) (Ee 10 (by kernel_rfl) (by kernel_rfl)) rfl (eg (by kernel_rfl)) (dE (by kernel_rfl)))) (sP 97 32 35) (sP 97 32 82))) (sP 97 28 82)))) (sP 97 7 83)) (.c (.ret (tX "table: a row has a number for each variable" 98 15 60) (sP 98 8 60))
 .n) .n ⟨97,4,98,60⟩)
 (.c (.ret (.ite (.cmp (lC 8 99 34 38) (ba _) (tX "regular" 99 42 51) (sP 99 34 51)) (.hole _ _ _ (PySem.Expr.Call (func:=(PySem.Expr.Name "machine_fault" (sP 99 11 24))) (args:=[(PySem.Expr.Name "told" (sP 99 25 29))]) (keywords:=[]) (pos:=(sP 99 11 30)))) (tX "" 99 57 59) (sP 99 11 59)) (sP 99 4 59))
 .n))))))))))
noncomputable def pJ:Fn (B Z) 4:=fM 188 [10,14] (xT Z) 9 rfl (by kernel_rfl)
noncomputable def yr:bb (B Z) oM 1 0:=(.c (.assign ⟨8,qL⟩ (sP 101 4 8) (.item (lC 10 101 11 15) (iC 0 101 16 17) (sP 101 11 18)) (sP 101 4 18))
 (.c (.ite (.cmp (lC 8 102 7 11) (ba _) (tX "clause" 102 15 23) (sP 102 7 23)) (.c (.ret (.bin (.item (lC 10 103 15 19) (iC 1 103 20 21) (sP 103 15 22)) (aB _) (.item (lC 10 103 25 29) (iC 2 103 30 31) (sP 103 25 32)) (sP 103 15 32)) (sP 103 8 32))
 .n) .n ⟨102,4,103,32⟩)
 (.c (.ite (.cmp (lC 8 104 7 11) (fY _) (.tup (.c (tX "and" 104 16 21) (.o (tX "or" 104 23 27))) 0 (sP 104 15 28)) (sP 104 7 28)) (.c (.ret (.bin (.item (lC 10 105 15 19) (iC 1 105 20 21) (sP 105 15 22)) (aB _) (.tup (.o (.item (lC 10 105 26 30) (iC 2 105 31 32) (sP 105 26 33))) 0 (sP 105 25 35)) (sP 105 15 35)) (sP 105 8 35))
 .n) .n ⟨104,4,105,35⟩)
 (.c (.ite (.cmp (lC 8 106 7 11) (ba _) (tX "xor" 106 15 20) (sP 106 7 20)) (.c (.ret (.sliceFrom (lC 10 107 15 19) (iC 1 107 20 21) (sP 107 20 22) (sP 107 15 23)) (sP 107 8 23))
 .n) .n ⟨106,4,107,23⟩)
 (.c (.ret (.ite (.cmp (lC 8 108 25 29) (fY _) (.tup (.c (tX "reif" 108 34 40) (.o (tX "imp" 108 42 47))) 0 (sP 108 33 48)) (sP 108 25 48)) (.tup (.o (.item (lC 10 108 12 16) (iC 1 108 17 18) (sP 108 12 19))) 0 (sP 108 11 21)) (.tup .n 0 (sP 108 54 56)) (sP 108 11 56)) (sP 108 4 56))
 .n)))))
noncomputable def rl:Fn (B Z) 1:=fM 195 [10] (yr Z) 10 rfl (by kernel_rfl)
noncomputable def vo:Scope:=(fS [(".0",.local),("low",.local),("high",.local)])
noncomputable def wm:Scope:=(fS [(".0",.local),("low",.local),("high",.local)])
noncomputable def AH:bb (B Z) q9 1 0:=(.c (.ret (jf (.o (.comp (cs':=wm) (.and (.c (.cmp (lC 20 110 16 19) (rO _) (iC 0 110 23 24) (sP 110 16 24)) (.o (.cmp (lC 21 110 29 33) (DW _) (iC 1 110 37 38) (sP 110 29 38)))) (sP 110 16 38)) (.names [(⟨20,qL⟩,(sP 110 43 46)),(⟨21,qL⟩,(sP 110 48 52))] 0 (sP 110 43 52)) (.of (lC 9 110 56 62)) [] vo (sP 110 15 63) (eX (by kernel_rfl)) (lI (by kernel_rfl)) (λ_ h=>nomatch h) rfl (eg (by kernel_rfl)) (dE (by kernel_rfl)))) (sP 110 11 14) (sP 110 11 64)) (sP 110 4 64))
 .n)
noncomputable def tq:Fn (B Z) 1:=fM 200 [9] (AH Z) 11 rfl (by kernel_rfl)
noncomputable def vx:bb (B Z) md 3 0:=(.c (.ite (.or (.c (.not (.of (gx (lC 22 112 22 27) (sP 112 11 21) (sP 112 29 34) (sP 112 11 35))) (sP 112 7 35)) (.o (.cmp (bu (.o (lC 22 112 43 48)) (sP 112 39 42) (sP 112 39 49)) (nc _) (iC 2 112 52 53) (sP 112 39 53)))) (sP 112 7 53)) (.c (.ret (tX "a piece has a kind and what is shown" 113 15 53) (sP 113 8 53))
 .n) .n ⟨112,4,113,53⟩)
 (.c (.ite (.and (.c (.cmp (.item (lC 22 114 7 12) (iC 0 114 13 14) (sP 114 7 15)) (ba _) (tX "text" 114 19 25) (sP 114 7 25)) (.c (.cmp (bu (.o (lC 22 114 34 39)) (sP 114 30 33) (sP 114 30 40)) (ba _) (iC 2 114 44 45) (sP 114 30 45)) (.o (.of (pk (.item (lC 22 114 61 66) (iC 1 114 67 68) (sP 114 61 69)) (sP 114 50 60) (sP 114 71 74) (sP 114 50 75)))))) (sP 114 7 75)) (.c (.ret (tX "" 115 15 17) (sP 115 8 17))
 .n) .n ⟨114,4,115,17⟩)
 (.c (.ite (.and (.c (.cmp (.item (lC 22 116 7 12) (iC 0 116 13 14) (sP 116 7 15)) (fY _) (.tup (.c (tX "int" 116 20 25) (.o (tX "bool" 116 27 33))) 0 (sP 116 19 34)) (sP 116 7 34)) (.c (.cmp (bu (.o (lC 22 116 43 48)) (sP 116 39 42) (sP 116 39 49)) (ba _) (iC 2 116 53 54) (sP 116 39 54)) (.o (.of (cL (hM Z) "is_var" (.c (.item (lC 22 116 66 71) (iC 1 116 72 73) (sP 116 66 74)) (.o (lC 14 116 76 80))) (sP 116 59 65) (sP 116 59 81)))))) (sP 116 7 81)) (.c (.ret (tX "" 117 15 17) (sP 117 8 17))
 .n) .n ⟨116,4,117,17⟩)
 (.c (.ite (.and (.c (.cmp (.item (lC 22 118 7 12) (iC 0 118 13 14) (sP 118 7 15)) (ba _) (tX "list" 118 19 25) (sP 118 7 25)) (.o (.cmp (bu (.o (lC 22 118 34 39)) (sP 118 30 33) (sP 118 30 40)) (ba _) (iC 2 118 44 45) (sP 118 30 45)))) (sP 118 7 45)) (.c (.expr (.bm (lC 23 119 8 15) (aH _) (.o (.item (lC 22 119 23 28) (iC 1 119 29 30) (sP 119 23 31))) (sP 119 8 22) (sP 119 8 32)) (sP 119 8 32))
 (.c (.ret (tX "" 120 15 17) (sP 120 8 17))
 .n)) .n ⟨118,4,120,17⟩)
 (.c (.ite (.and (.c (.cmp (.item (lC 22 121 7 12) (iC 0 121 13 14) (sP 121 7 15)) (ba _) (tX "if" 121 19 23) (sP 121 7 23)) (.c (.cmp (bu (.o (lC 22 121 32 37)) (sP 121 28 31) (sP 121 28 38)) (ba _) (iC 4 121 42 43) (sP 121 28 43)) (.o (.of (cL (hM Z) "is_var" (.c (.item (lC 22 121 55 60) (iC 1 121 61 62) (sP 121 55 63)) (.o (lC 14 121 65 69))) (sP 121 48 54) (sP 121 48 70)))))) (sP 121 7 70)) (.c (.expr (.bm (lC 23 122 8 15) (EB _) (.o (.sliceFrom (lC 22 122 23 28) (iC 2 122 29 30) (sP 122 29 31) (sP 122 23 32))) (sP 122 8 22) (sP 122 8 33)) (sP 122 8 33))
 (.c (.ret (tX "" 123 15 17) (sP 123 8 17))
 .n)) .n ⟨121,4,123,17⟩)
 (.c (.ret (tX "no piece is told so" 124 11 32) (sP 124 4 32))
 .n))))))
noncomputable def vv:Fn (B Z) 3:=fM 207 [22,14,23] (vx Z) 12 rfl (by kernel_rfl)
noncomputable def vw:bb (B Z) mc 4 0:=(.c (.assign ⟨23,qL⟩ (sP 126 4 11) (.newList (.o (lC 7 126 15 20)) (sP 126 14 21)) (sP 126 4 21))
 (.c (.while 4000 (.cmp (bu (.o (lC 23 127 14 21)) (sP 127 10 13) (sP 127 10 22)) (jP _) (iC 0 127 25 26) (sP 127 10 26)) (.c (.assign ⟨24,qL⟩ (sP 128 8 14) (.bm (lC 23 128 17 24) (z9 _) .n (sP 128 17 28) (sP 128 17 30)) (sP 128 8 30))
 (.c (.ite (.not (.of (gx (lC 24 129 26 32) (sP 129 15 25) (sP 129 34 39) (sP 129 15 40))) (sP 129 11 40)) (.c (.ret (tX "pieces stand in a list" 130 19 43) (sP 130 12 43))
 .n) .n ⟨129,8,130,43⟩)
 (.c (.for (.of (lC 24 131 21 27)) (.name ⟨22,qL⟩ (sP 131 12 17)) (.c (.assign ⟨25,qL⟩ (sP 132 12 17) (cL (vv Z) "piece_fault" (.c (lC 22 132 32 37) (.c (lC 14 132 39 43) (.o (lC 23 132 45 52)))) (sP 132 20 31) (sP 132 20 53)) (sP 132 12 53))
 (.c (.ite (.cmp (lC 25 133 15 20) (dq _) (tX "" 133 24 26) (sP 133 15 26)) (.c (.ret (lC 25 134 23 28) (sP 134 16 28))
 .n) .n ⟨133,12,134,28⟩)
 .n)) ⟨131,8,134,28⟩)
 .n))) ⟨127,4,134,28⟩)
 (.c (.ret (tX "" 135 11 13) (sP 135 4 13))
 .n)))
noncomputable def vr:Fn (B Z) 4:=fM 214 [7,14] (vw Z) 13 rfl (by kernel_rfl)
noncomputable def jQ:Fn (B Z) 4:=(vr Z).gc 0 0
noncomputable def wk:Scope:=(fS [(".0",.local),("sign",.local),("LETTERS",gI),("DIGITS",gI)])
noncomputable def yd:Scope:=(fS [(".0",.local),("sign",.local),("LETTERS",gI),("DIGITS",gI)])
noncomputable def CK:bb (B Z) sr 1 0:=(.c (.ret (.and (.c (.cmp (lC 3 137 11 15) (dq _) (tX "" 137 19 21) (sP 137 11 21)) (.c (.cmp (.item (lC 3 137 26 30) (iC 0 137 31 32) (sP 137 26 33)) (fY _) (.glob ⟨"LETTERS",qG,qF⟩ eC (kh Z) (sP 137 37 44)) (sP 137 26 44)) (.o (jf (.o (.comp (cs':=yd) (.or (.c (.cmp (lC 26 137 54 58) (fY _) (.glob ⟨"LETTERS",qG,qF⟩ eC (kh Z) (sP 137 62 69)) (sP 137 54 69)) (.o (.cmp (lC 26 137 73 77) (fY _) (.glob ⟨"DIGITS",qG,qF⟩ eK (lJ Z) (sP 137 81 87)) (sP 137 73 87)))) (sP 137 54 87)) (.name ⟨26,qL⟩ (sP 137 92 96)) (.of (lC 3 137 100 104)) [] wk (sP 137 53 105) (eX (by kernel_rfl)) (lI (by kernel_rfl)) (λ_ h=>nomatch h) rfl (eg (by kernel_rfl)) (dE (by kernel_rfl)))) (sP 137 49 52) (sP 137 49 106))))) (sP 137 11 106)) (sP 137 4 106))
 .n)
noncomputable def lL:Fn (B Z) 1:=fM 219 [3] (CK Z) 14 rfl (by kernel_rfl)
noncomputable def xU:bb (B Z) oO 1 1:=(.c (.Ml (by decide) (.bin (.bin (.of (tX "\"" 139 11 14)) (aB _) (.replace (.replace (.replace (.of (lC 3 139 17 21)) (lT "\\") (.lit _ _ _ (lT "\\\\") 0 (sP 139 36 42)) 0 (sP 139 30 34) (sP 139 17 29) (sP 139 17 43) 92 rfl) (lT "\"") (.lit _ _ _ (lT "\\\"") 0 (sP 139 57 62)) 0 (sP 139 52 55) (sP 139 17 51) (sP 139 17 63) 34 rfl) (lT "\n") (.lit _ _ _ (lT "\\n") 0 (sP 139 78 83)) 0 (sP 139 72 76) (sP 139 17 71) (sP 139 17 84) 10 rfl) (sP 139 11 84)) (aB _) (.of (tX "\"" 139 87 90)) (sP 139 11 90)) (sP 139 4 90))
 .n)
theorem CL:(B Z).Ok→FnAt (B Z) 226 oO [3] (xU Z).py:=nO Z 15 rfl (by kernel_rfl)
noncomputable def nk:Fn (B Z) 1:=E7 226 3 [] (xU Z) (CL Z) rfl rfl rfl (by decide +kernel) (zc (by kernel_rfl))
noncomputable def vA:bb (B Z) ml 1 0:=(.c (.ite (.cmp (Hi (.o (lC 27 141 11 17)) (sP 141 7 10) (sP 141 7 18)) (rO _) (.bin (iC 10 141 22 24) (JO _) (.glob ⟨"MOST_DIGITS",qG,qF⟩ dR (jd Z) (sP 141 28 39)) (sP 141 22 39)) (sP 141 7 39)) (.c (.hole _ _ _ _ (PySem.Stmt.Raise (exc:=(some (PySem.Expr.Call (func:=(PySem.Expr.Name "FdError" (sP 142 14 21))) (args:=[(PySem.Expr.JoinedStr (values:=[(PySem.Expr.Constant (PySem.Const.str "a number has at most ") 0 (sP 142 24 45)),(PySem.Expr.FormattedValue (PySem.Expr.Name "MOST_DIGITS" (sP 142 46 57)) (-1) (none) (sP 142 45 58)),(PySem.Expr.Constant (PySem.Const.str " digits") 0 (sP 142 58 65))]) (pos:=(sP 142 22 66)))]) (keywords:=[]) (pos:=(sP 142 14 67))))) (cause:=(none)) (pos:=(sP 142 8 67))))
 .n) .n ⟨141,4,142,67⟩)
 (.c (.ret (Hh (.o (lC 27 143 15 21)) (sP 143 11 14) (sP 143 11 22)) (sP 143 4 22))
 .n))
noncomputable def jT:Fn (B Z) 1:=fM 233 [27] (vA Z) 16 rfl (by kernel_rfl)
noncomputable def yq:bb (B Z) oK 2 0:=(.c (.ite (.cmp (lC 12 145 7 12) (rI _) (.none _ _ _ 0 (sP 145 16 20)) (sP 145 7 20)) (.c (.ret (tX "none" 146 15 21) (sP 146 8 21))
 .n) .n ⟨145,4,146,21⟩)
 (.c (.ite (.of (is_bool (lC 12 147 18 23) (sP 147 7 17) (sP 147 25 29) (sP 147 7 30))) (.c (.ret (.ite (.of (lC 12 148 25 30)) (tX "true" 148 15 21) (tX "false" 148 36 43) (sP 148 15 43)) (sP 148 8 43))
 .n) .n ⟨147,4,148,43⟩)
 (.c (.ite (.of (B3 (lC 12 149 18 23) (sP 149 7 17) (sP 149 25 28) (sP 149 7 29))) (.c (.ret (cL (jT Z) "digits_text" (.o (lC 12 150 27 32)) (sP 150 15 26) (sP 150 15 33)) (sP 150 8 33))
 .n) .n ⟨149,4,150,33⟩)
 (.c (.ite (.of (pk (lC 12 151 18 23) (sP 151 7 17) (sP 151 25 28) (sP 151 7 29))) (.c (.ret (cL (nk Z) "quoted" (.o (lC 12 152 22 27)) (sP 152 15 21) (sP 152 15 28)) (sP 152 8 28))
 .n) .n ⟨151,4,152,28⟩)
 (.c (.hole _ _ _ _ (PySem.Stmt.Raise (exc:=(some (PySem.Expr.Call (func:=(PySem.Expr.Name "FdError" (sP 153 10 17))) (args:=[(PySem.Expr.Constant (value:=(PySem.Const.str "plain data has numbers, texts, truths, none, and tuples of these")) (k:=0) (pos:=(sP 153 18 84)))]) (keywords:=[]) (pos:=(sP 153 10 85))))) (cause:=(none)) (pos:=(sP 153 4 85))))
 .n)))))
noncomputable def yk:Fn (B Z) 2:=fM 240 [12] (yq Z) 17 rfl (by kernel_rfl)
noncomputable def xV:bb (B Z) nH 2 0:=(.c (.assign ⟨28,qL⟩ (sP 155 4 11) (.and (.c (.cmp (bu (.o (lC 29 155 18 22)) (sP 155 14 17) (sP 155 14 23)) (jP _) (iC 0 155 26 27) (sP 155 14 27)) (.c (pk (.item (lC 29 155 43 47) (iC 0 155 48 49) (sP 155 43 50)) (sP 155 32 42) (sP 155 52 55) (sP 155 32 56)) (.o (cL (lL Z) "is_word" (.o (.item (lC 29 155 69 73) (iC 0 155 74 75) (sP 155 69 76))) (sP 155 61 68) (sP 155 61 77))))) (sP 155 14 77)) (sP 155 4 77))
 (.c (.assign ⟨30,qL⟩ (sP 156 4 8) (.ite (.of (lC 28 156 23 30)) (.sliceFrom (lC 29 156 11 15) (iC 1 156 16 17) (sP 156 16 18) (sP 156 11 19)) (lC 29 156 36 40) (sP 156 11 40)) (sP 156 4 40))
 (.c (.expr (.bm (lC 23 157 4 11) (aH _) (.o (.tup (.c (.bool _ _ _ (true) 0 (sP 157 20 24)) (.o (.ite (.of (lC 28 157 33 40)) (tX ")" 157 26 29) (tX "]" 157 46 49) (sP 157 26 49)))) 0 (sP 157 19 50))) (sP 157 4 18) (sP 157 4 51)) (sP 157 4 51))
 (.c (.for (.bi (fQ _) ⟨⟨"range",qG,qF⟩,by kernel_rfl,by decide +kernel⟩ (bt Z "range" rfl) (.c (.bin (bu (.o (lC 30 158 27 31)) (sP 158 23 26) (sP 158 23 32)) (si _) (iC 1 158 35 36) (sP 158 23 36)) (.c (.neg (iC 1 158 39 40) (sP 158 38 40)) (.o (.neg (iC 1 158 43 44) (sP 158 42 44))))) (sP 158 17 22) (sP 158 17 45)) (.name ⟨18,qL⟩ (sP 158 8 13)) (.c (.expr (.bm (lC 23 159 8 15) (aH _) (.o (.tup (.c (.bool _ _ _ (false) 0 (sP 159 24 29)) (.o (.item (lC 30 159 31 35) (lC 18 159 36 41) (sP 159 31 42)))) 0 (sP 159 23 43))) (sP 159 8 22) (sP 159 8 44)) (sP 159 8 44))
 (.c (.ite (.cmp (lC 18 160 11 16) (jP _) (iC 0 160 19 20) (sP 160 11 20)) (.c (.expr (.bm (lC 23 161 12 19) (aH _) (.o (.tup (.c (.bool _ _ _ (true) 0 (sP 161 28 32)) (.o (tX ", " 161 34 38))) 0 (sP 161 27 39))) (sP 161 12 26) (sP 161 12 40)) (sP 161 12 40))
 .n) .n ⟨160,8,161,40⟩)
 .n)) ⟨158,4,161,40⟩)
 (.c (.expr (.bm (lC 23 162 4 11) (aH _) (.o (.tup (.c (.bool _ _ _ (true) 0 (sP 162 20 24)) (.o (.ite (.of (lC 28 162 43 50)) (.bin (.item (lC 29 162 26 30) (iC 0 162 31 32) (sP 162 26 33)) (aB _) (tX "(" 162 36 39) (sP 162 26 39)) (tX "[" 162 56 59) (sP 162 26 59)))) 0 (sP 162 19 60))) (sP 162 4 18) (sP 162 4 61)) (sP 162 4 61))
 .n)))))
noncomputable def xK:Fn (B Z) 2:=fM 247 [29,23] (xV Z) 18 rfl (by kernel_rfl)
noncomputable def yB:bb (B Z) oX 3 0:=(.c (.i9 [(⟨24,qL⟩,(sP 164 4 10)),(⟨23,qL⟩,(sP 164 12 19))] 0 (sP 164 4 19) (.tup (.c (.newList .n (sP 164 23 25)) (.o (.newList (.o (.tup (.c (.bool _ _ _ (false) 0 (sP 164 29 34)) (.o (lC 31 164 36 40))) 0 (sP 164 28 41))) (sP 164 27 42)))) 0 (sP 164 22 43)) (sP 164 4 43))
 (.c (.while 4000 (.cmp (bu (.o (lC 23 165 14 21)) (sP 165 10 13) (sP 165 10 22)) (jP _) (iC 0 165 25 26) (sP 165 10 26)) (.c (.unpack [(⟨32,qL⟩,(sP 166 8 15)),(⟨12,qL⟩,(sP 166 17 22))] 0 (sP 166 8 22) (.bm (lC 23 166 25 32) (z9 _) .n (sP 166 25 36) (sP 166 25 38)) (sP 166 8 38))
 (.c (.ite (.of (lC 32 167 11 18)) (.c (.expr (.bm (lC 24 168 12 18) (aH _) (.o (lC 12 168 26 31)) (sP 168 12 25) (sP 168 12 32)) (sP 168 12 32))
 .n) (.c (.ite (.of (gx (lC 12 169 24 29) (sP 169 13 23) (sP 169 31 36) (sP 169 13 37))) (.c (.expr (cL (xK Z) "open_tuple" (.c (lC 12 170 23 28) (.o (lC 23 170 30 37))) (sP 170 12 22) (sP 170 12 38)) (sP 170 12 38))
 .n) (.c (.expr (.bm (lC 24 172 12 18) (aH _) (.o (cL (yk Z) "word_text" (.o (lC 12 172 36 41)) (sP 172 26 35) (sP 172 26 42))) (sP 172 12 25) (sP 172 12 43)) (sP 172 12 43))
 .n) ⟨169,8,172,43⟩)
 .n) ⟨167,8,172,43⟩)
 .n)) ⟨165,4,172,43⟩)
 (.c (.ret (.bm (tX "" 173 11 13) (dS _) (.o (lC 24 173 19 25)) (sP 173 11 18) (sP 173 11 26)) (sP 173 4 26))
 .n)))
noncomputable def yj:Fn (B Z) 3:=fM 254 [31] (yB Z) 19 rfl (by kernel_rfl)
noncomputable def fR:Fn (B Z) 3:=(yj Z).gc 0 0
noncomputable def rx:Scope:=(fS [(".0",.local),("low",.local),("high",.local),("digits_text",gI)])
noncomputable def su:Scope:=(fS [(".0",.local),("low",.local),("high",.local),("digits_text",gI)])
noncomputable def vz:bb (B Z) mj 2 0:=(.c (.AI (cs':=su) ⟨33,qL⟩ (sP 175 4 10) (.iK (.fmt (cL (jT Z) "digits_text" (.o (lC 20 175 29 32)) (sP 175 17 28) (sP 175 17 33)) (sP 175 16 34)) (tX ".." 175 34 36) (.o (.fmt (cL (jT Z) "digits_text" (.o (lC 21 175 49 53)) (sP 175 37 48) (sP 175 37 54)) (sP 175 36 55))) (sP 175 14 56)) (.names [(⟨20,qL⟩,(sP 175 61 64)),(⟨21,qL⟩,(sP 175 66 70))] 0 (sP 175 61 70)) (.of (lC 9 175 74 80)) [] rx (sP 175 13 81) (sP 175 4 81) (eX (by kernel_rfl)) (lI (by kernel_rfl)) (λ_ h=>nomatch h) rfl (eg (by kernel_rfl)) (dE (by kernel_rfl)) (λenv h=>by cases env;subst h;rfl))
 (.c (.ret (.ite (.cmp (bu (.o (lC 33 176 28 34)) (sP 176 24 27) (sP 176 24 35)) (ba _) (iC 1 176 39 40) (sP 176 24 40)) (.item (lC 33 176 11 17) (iC 0 176 18 19) (sP 176 11 20)) (.bin (.bin (tX "{" 176 46 49) (aB _) (.bm (tX ", " 176 52 56) (dS _) (.o (lC 33 176 62 68)) (sP 176 52 61) (sP 176 52 69)) (sP 176 46 69)) (aB _) (tX "}" 176 72 75) (sP 176 46 75)) (sP 176 11 75)) (sP 176 4 75))
 .n))
noncomputable def jS:Fn (B Z) 2:=fM 259 [9] (vz Z) 20 rfl (by kernel_rfl)
noncomputable def yA:bb (B Z) oW 4 0:=(.c (.assign ⟨34,qL⟩ (sP 178 4 8) (.newList .n (sP 178 11 13)) (sP 178 4 13))
 (.c (.for (.of (aL 35 150 4 179 24 28 33)) (.names [(⟨8,qL⟩,(sP 179 8 12)),(⟨9,qL⟩,(sP 179 14 20))] 0 (sP 179 8 20)) (.c (.expr (.bm (lC 34 180 8 12) (aH _) (.o (.iK (tX "var " 180 22 26) (.fmt (cL (jS Z) "domain_text" (.o (lC 9 180 39 45)) (sP 180 27 38) (sP 180 27 46)) (sP 180 26 47)) (.c (tX ": " 180 47 49) (.c (.fmt (.ite (.of (cL (lL Z) "is_word" (.o (lC 8 180 67 71)) (sP 180 59 66) (sP 180 59 72))) (lC 8 180 51 55) (cL (nk Z) "quoted" (.o (lC 8 180 85 89)) (sP 180 78 84) (sP 180 78 90)) (sP 180 51 90)) (sP 180 49 92)) (.o (tX ";" 180 92 93)))) (sP 180 20 94))) (sP 180 8 19) (sP 180 8 95)) (sP 180 8 95))
 .n) ⟨179,4,180,95⟩)
 (.c (.for (.of (aL 35 150 5 181 16 20 26)) (.name ⟨10,qL⟩ (sP 181 8 12)) (.c (.expr (.bm (lC 34 182 8 12) (aH _) (.o (.iK (tX "constraint " 182 22 33) (.fmt (cL (fR Z) "data_text" (.o (lC 10 182 44 48)) (sP 182 34 43) (sP 182 34 49)) (sP 182 33 50)) (.o (tX ";" 182 50 51)) (sP 182 20 52))) (sP 182 8 19) (sP 182 8 53)) (sP 182 8 53))
 .n) ⟨181,4,182,53⟩)
 (.c (.unpack [(⟨15,qL⟩,(sP 183 4 8)),(⟨36,qL⟩,(sP 183 10 18))] 0 (sP 183 4 18) (aL 35 150 6 183 21 25 30) (sP 183 4 30))
 (.c (.expr (.bm (lC 34 184 4 8) (aH _) (.o (.ite (.cmp (lC 36 184 36 44) (rI _) (.none _ _ _ 0 (sP 184 48 52)) (sP 184 36 52)) (.iK (tX "solve " 184 18 24) (.fmt (lC 15 184 25 29) (sP 184 24 30)) (.o (tX ";" 184 30 31)) (sP 184 16 32)) (.iK (tX "solve " 184 60 66) (.fmt (lC 15 184 67 71) (sP 184 66 72)) (.c (tX " " 184 72 73) (.c (.fmt (lC 36 184 74 82) (sP 184 73 83)) (.o (tX ";" 184 83 84)))) (sP 184 58 85)) (sP 184 16 85))) (sP 184 4 15) (sP 184 4 86)) (sP 184 4 86))
 (.c (.expr (.bm (lC 34 185 4 8) (aH _) (.o (.iK (tX "output " 185 18 25) (.fmt (cL (fR Z) "data_text" (.o (aL 35 150 7 185 36 40 46)) (sP 185 26 35) (sP 185 26 47)) (sP 185 25 48)) (.o (tX ";" 185 48 49)) (sP 185 16 50))) (sP 185 4 15) (sP 185 4 51)) (sP 185 4 51))
 (.c (.ret (.bin (.bm (tX "\n" 186 11 15) (dS _) (.o (lC 34 186 21 25)) (sP 186 11 20) (sP 186 11 26)) (aB _) (tX "\n" 186 29 33) (sP 186 11 33)) (sP 186 4 33))
 .n)))))))
noncomputable def jo:Fn (B Z) 4:=fM 266 [35] (yA Z) 21 rfl (by kernel_rfl)
noncomputable def qV:bb (B Z) jy 4 0:=(.c (.setAttr (lC 2 257 8 12) 486 45 (sP 257 8 20) (.make 325 (pK Z) ⟨"FlatScanner",qG,qF⟩ (.o (lC 3 257 35 39)) (sP 257 23 34) (sP 257 23 40) (by decide) (mk Z "FlatScanner" 325 280 rfl)) (sP 257 8 40) (ca Z 486 45 qT))
 (.c (.setAttr (lC 2 258 8 12) 486 46 (sP 258 8 18) (.bp (aL 2 486 45 258 21 25 33) 325 47 (i5 Z) .n (sP 258 21 39) (sP 258 21 41) (by decide) (me Z 325 47 322 rfl)) (sP 258 8 41) (ca Z 486 46 qT))
 .n))
noncomputable def qM:Fn (B Z) 4:=fM 343 [2,3] (qV Z) 29 rfl (by kernel_rfl)
noncomputable def qR:bb (B Z) jx 4 0:=(.c (.assign ⟨47,qL⟩ (sP 261 8 13) (aL 2 486 46 261 16 20 26) (sP 261 8 26))
 (.c (.setAttr (lC 2 262 8 12) 486 46 (sP 262 8 18) (.bp (aL 2 486 45 262 21 25 33) 325 47 (i5 Z) .n (sP 262 21 39) (sP 262 21 41) (by decide) (me Z 325 47 322 rfl)) (sP 262 8 41) (ca Z 486 46 qT))
 (.c (.ret (lC 47 263 15 20) (sP 263 8 20))
 .n)))
noncomputable def bI:Fn (B Z) 4:=fM 350 [2] (qR Z) 30 rfl (by kernel_rfl)
noncomputable def nA:bb (B Z) ib 1 0:=(.c (.ret (.cmp (.sliceTo (aL 2 486 46 266 15 19 25) (iC 2 266 27 28) (sP 266 26 28) (sP 266 15 29)) (ba _) (.tup (.c (tX "sign" 266 34 40) (.o (lC 26 266 42 46))) 0 (sP 266 33 47)) (sP 266 15 47)) (sP 266 8 47))
 .n)
noncomputable def cD:Fn (B Z) 1:=fM 357 [2,26] (nA Z) 31 rfl (by kernel_rfl)
noncomputable def qQ:bb (B Z) jw 5 0:=(.c (.ite (.not (.of (.bp (lC 2 269 15 19) 486 48 (cD Z) (.o (lC 26 269 28 32)) (sP 269 15 27) (sP 269 15 33) (by decide) (me Z 486 48 357 rfl))) (sP 269 11 33)) (.c (.raise ⟨"TextFault",qG,qF⟩ (.iK (.fmt (lC 26 270 31 35) (sP 270 30 36)) (tX " is wanted" 270 36 46) .n (sP 270 28 47)) (.item (aL 2 486 46 270 49 53 59) (iC 2 270 60 61) (sP 270 49 62)) (sP 270 18 27) (sP 270 18 63) (sP 270 12 63) (kM Z))
 .n) .n ⟨269,8,270,63⟩)
 (.c (.expr (.bp (lC 2 271 8 12) 486 49 (bI Z) .n (sP 271 8 17) (sP 271 8 19) (by decide) (me Z 486 49 350 rfl)) (sP 271 8 19))
 .n))
noncomputable def dT:Fn (B Z) 5:=fM 364 [2,26] (qQ Z) 32 rfl (by kernel_rfl)
noncomputable def oi:bb (B Z) ix 5 0:=(.c (.ite (.cmp (.item (aL 2 486 46 274 11 15 21) (iC 0 274 22 23) (sP 274 11 24)) (dq _) (tX "number" 274 28 36) (sP 274 11 36)) (.c (.raise ⟨"TextFault",qG,qF⟩ (tX "a whole number is wanted" 275 28 54) (.item (aL 2 486 46 275 56 60 66) (iC 2 275 67 68) (sP 275 56 69)) (sP 275 18 27) (sP 275 18 70) (sP 275 12 70) (kM Z))
 .n) .n ⟨274,8,275,70⟩)
 (.c (.ret (.item (.bp (lC 2 276 15 19) 486 49 (bI Z) .n (sP 276 15 24) (sP 276 15 26) (by decide) (me Z 486 49 350 rfl)) (iC 1 276 27 28) (sP 276 15 29)) (sP 276 8 29))
 .n))
noncomputable def fZ:Fn (B Z) 5:=fM 371 [2] (oi Z) 33 rfl (by kernel_rfl)
noncomputable def lg:bb (B Z) gv 1 0:=(.c (.ite (.or (.c (.cmp (.item (lC 47 279 11 16) (iC 0 279 17 18) (sP 279 11 19)) (ba _) (tX "number" 279 23 31) (sP 279 11 31)) (.o (.cmp (.item (lC 47 279 35 40) (iC 0 279 41 42) (sP 279 35 43)) (ba _) (tX "text" 279 47 53) (sP 279 35 53)))) (sP 279 11 53)) (.c (.ret (.item (lC 47 280 19 24) (iC 1 280 25 26) (sP 280 19 27)) (sP 280 12 27))
 .n) .n ⟨279,8,280,27⟩)
 (.c (.ite (.and (.c (.cmp (.item (lC 47 281 11 16) (iC 0 281 17 18) (sP 281 11 19)) (ba _) (tX "word" 281 23 29) (sP 281 11 29)) (.o (.cmp (.item (lC 47 281 34 39) (iC 1 281 40 41) (sP 281 34 42)) (fY _) (.tup (.c (tX "none" 281 47 53) (.c (tX "true" 281 55 61) (.o (tX "false" 281 63 70)))) 0 (sP 281 46 71)) (sP 281 34 71)))) (sP 281 11 71)) (.c (.ret (.ite (.cmp (.item (lC 47 282 27 32) (iC 1 282 33 34) (sP 282 27 35)) (ba _) (tX "none" 282 39 45) (sP 282 27 45)) (.none _ _ _ 0 (sP 282 19 23)) (.cmp (.item (lC 47 282 51 56) (iC 1 282 57 58) (sP 282 51 59)) (ba _) (tX "true" 282 63 69) (sP 282 51 69)) (sP 282 19 69)) (sP 282 12 69))
 .n) .n ⟨281,8,282,69⟩)
 (.c (.raise ⟨"TextFault",qG,qF⟩ (tX "a number, a text, a list or a call is wanted" 283 24 70) (.item (lC 47 283 72 77) (iC 2 283 78 79) (sP 283 72 80)) (sP 283 14 23) (sP 283 14 81) (sP 283 8 81) (kM Z))
 .n)))
noncomputable def kZ:Fn (B Z) 1:=fM 378 [2,47] (lg Z) 34 rfl (by kernel_rfl)
noncomputable def oj:bb (B Z) iy 6 0:=(.c (.ite (.of (.bp (lC 2 299 11 15) 486 48 (cD Z) (.o (tX "," 299 24 27)) (sP 299 11 23) (sP 299 11 28) (by decide) (me Z 486 48 357 rfl))) (.c (.expr (.bp (lC 2 300 12 16) 486 49 (bI Z) .n (sP 300 12 21) (sP 300 12 23) (by decide) (me Z 486 49 350 rfl)) (sP 300 12 23))
 (.c (.ret (.tup (.c (.bool _ _ _ (false) 0 (sP 301 20 25)) (.o (.none _ _ _ 0 (sP 301 27 31)))) 0 (sP 301 19 32)) (sP 301 12 32))
 .n)) .n ⟨299,8,301,32⟩)
 (.c (.unpack [(⟨29,qL⟩,(sP 302 8 12)),(⟨38,qL⟩,(sP 302 14 17))] 0 (sP 302 8 17) (.item (lC 50 302 20 25) (.neg (iC 1 302 27 28) (sP 302 26 28)) (sP 302 20 29)) (sP 302 8 29))
 (.c (.expr (.bp (lC 2 303 8 12) 486 53 (dT Z) (.o (lC 38 303 18 21)) (sP 303 8 17) (sP 303 8 22) (by decide) (me Z 486 53 364 rfl)) (sP 303 8 22))
 (.c (.expr (.bm (lC 50 304 8 13) (z9 _) .n (sP 304 8 17) (sP 304 8 19)) (sP 304 8 19))
 (.c (.ret (.tup (.c (.bool _ _ _ (true) 0 (sP 305 16 20)) (.o (ve (.o (lC 29 305 28 32)) (sP 305 22 27) (sP 305 22 33)))) 0 (sP 305 15 34)) (sP 305 8 34))
 .n)))))
noncomputable def i6:Fn (B Z) 6:=fM 392 [2,50] (oj Z) 36 rfl (by kernel_rfl)
noncomputable def oh:bb (B Z) iw 7 0:=(.c (.assign ⟨47,qL⟩ (sP 286 8 13) (.bp (lC 2 286 16 20) 486 49 (bI Z) .n (sP 286 16 25) (sP 286 16 27) (by decide) (me Z 486 49 350 rfl)) (sP 286 8 27))
 (.c (.ite (.and (.c (.cmp (.item (lC 47 287 11 16) (iC 0 287 17 18) (sP 287 11 19)) (ba _) (tX "word" 287 23 29) (sP 287 11 29)) (.o (.of (.bp (lC 2 287 34 38) 486 48 (cD Z) (.o (tX "(" 287 47 50)) (sP 287 34 46) (sP 287 34 51) (by decide) (me Z 486 48 357 rfl))))) (sP 287 11 51)) (.c (.expr (.bp (lC 2 288 12 16) 486 49 (bI Z) .n (sP 288 12 21) (sP 288 12 23) (by decide) (me Z 486 49 350 rfl)) (sP 288 12 23))
 (.c (.expr (.bm (lC 50 289 12 17) (aH _) (.o (.tup (.c (.newList (.o (.item (lC 47 289 27 32) (iC 1 289 33 34) (sP 289 27 35))) (sP 289 26 36)) (.o (tX ")" 289 38 41))) 0 (sP 289 25 42))) (sP 289 12 24) (sP 289 12 43)) (sP 289 12 43))
 .n)) (.c (.ite (.cmp (.sliceTo (lC 47 290 13 18) (iC 2 290 20 21) (sP 290 19 21) (sP 290 13 22)) (ba _) (.tup (.c (tX "sign" 290 27 33) (.o (tX "[" 290 35 38))) 0 (sP 290 26 39)) (sP 290 13 39)) (.c (.expr (.bm (lC 50 291 12 17) (aH _) (.o (.tup (.c (.newList .n (sP 291 26 28)) (.o (tX "]" 291 30 33))) 0 (sP 291 25 34))) (sP 291 12 24) (sP 291 12 35)) (sP 291 12 35))
 .n) (.c (.ret (.tup (.c (.bool _ _ _ (true) 0 (sP 293 20 24)) (.o (.bp (lC 2 293 26 30) 486 51 (kZ Z) (.o (lC 47 293 42 47)) (sP 293 26 41) (sP 293 26 48) (by decide) (me Z 486 51 378 rfl)))) 0 (sP 293 19 49)) (sP 293 12 49))
 .n) ⟨290,8,293,49⟩)
 .n) ⟨287,8,293,49⟩)
 (.c (.ite (.of (.bp (lC 2 294 11 15) 486 48 (cD Z) (.o (.item (.item (lC 50 294 24 29) (.neg (iC 1 294 31 32) (sP 294 30 32)) (sP 294 24 33)) (iC 1 294 34 35) (sP 294 24 36))) (sP 294 11 23) (sP 294 11 37) (by decide) (me Z 486 48 357 rfl))) (.c (.ret (.bp (lC 2 295 19 23) 486 52 (i6 Z) (.o (lC 50 295 31 36)) (sP 295 19 30) (sP 295 19 37) (by decide) (me Z 486 52 392 rfl)) (sP 295 12 37))
 .n) .n ⟨294,8,295,37⟩)
 (.c (.ret (.tup (.c (.bool _ _ _ (false) 0 (sP 296 16 21)) (.o (.none _ _ _ 0 (sP 296 23 27)))) 0 (sP 296 15 28)) (sP 296 8 28))
 .n))))
noncomputable def nY:Fn (B Z) 7:=fM 385 [2,50] (oh Z) 35 rfl (by kernel_rfl)
noncomputable def qX:bb (B Z) jz 8 0:=(.c (.assign ⟨50,qL⟩ (sP 308 8 13) (.newList .n (sP 308 16 18)) (sP 308 8 18))
 (.c (.while 4000 (.of (.bool _ _ _ (true) 0 (sP 309 14 18))) (.c (.unpack [(⟨55,qL⟩,(sP 310 12 20)),(⟨56,qL⟩,(sP 310 22 27))] 0 (sP 310 12 27) (.bp (lC 2 310 30 34) 486 54 (nY Z) (.o (lC 50 310 42 47)) (sP 310 30 41) (sP 310 30 48) (by decide) (me Z 486 54 385 rfl)) (sP 310 12 48))
 (.c (.while 4000 (.of (lC 55 311 18 26)) (.c (.ite (.cmp (bu (.o (lC 50 312 23 28)) (sP 312 19 22) (sP 312 19 29)) (ba _) (iC 0 312 33 34) (sP 312 19 34)) (.c (.ret (lC 56 313 27 32) (sP 313 20 32))
 .n) .n ⟨312,16,313,32⟩)
 (.c (.expr (.bm (.item (.item (lC 50 314 16 21) (.neg (iC 1 314 23 24) (sP 314 22 24)) (sP 314 16 25)) (iC 0 314 26 27) (sP 314 16 28)) (aH _) (.o (lC 56 314 36 41)) (sP 314 16 35) (sP 314 16 42)) (sP 314 16 42))
 (.c (.unpack [(⟨55,qL⟩,(sP 315 16 24)),(⟨56,qL⟩,(sP 315 26 31))] 0 (sP 315 16 31) (.bp (lC 2 315 34 38) 486 52 (i6 Z) (.o (lC 50 315 46 51)) (sP 315 34 45) (sP 315 34 52) (by decide) (me Z 486 52 392 rfl)) (sP 315 16 52))
 .n))) ⟨311,12,315,52⟩)
 .n)) ⟨309,8,315,52⟩)
 .n))
noncomputable def qH:Fn (B Z) 8:=fM 399 [2] (qX Z) 37 rfl (by kernel_rfl)
noncomputable def j3:Fn (B Z) 8:=(qH Z).gc 3 5
noncomputable def gP:bb (B Z) gr 5 0:=(.c (.setAttr (lC 2 320 8 12) 486 35 (sP 320 8 17) (.make 150 (ym Z) ⟨"Flat",qG,qF⟩ .n (sP 320 20 24) (sP 320 20 26) (by decide) (mk Z "Flat" 150 119 rfl)) (sP 320 8 26) (ca Z 486 35 qT))
 (.c (.setAttr (lC 2 321 8 12) 486 57 (sP 321 8 18) (.newList .n (sP 321 21 23)) (sP 321 8 23) (ca Z 486 57 qT))
 (.c (.setAttr (lC 2 322 8 12) 486 58 (sP 322 8 22) (.neg (iC 1 322 26 27) (sP 322 25 27)) (sP 322 8 27) (ca Z 486 58 qT))
 (.c (.setAttr (lC 2 323 8 12) 486 59 (sP 323 8 23) (.neg (iC 1 323 27 28) (sP 323 26 28)) (sP 323 8 28) (ca Z 486 59 qT))
 .n))))
theorem pV:(B Z).Ok→js (B Z) 422 421 410 486 gr 2 [3] (fN ⟨319,8,319,13⟩ ⟨319,8,319,15⟩ ⟨319,8,319,24⟩ ⟨319,8,319,30⟩ ⟨319,8,319,30⟩ [.Name ((B Z).nm 3) ⟨319,25,319,29⟩] (gP Z).py):=λO=>by
 have h:=(facts O).s3
 have e:fN ⟨319,8,319,13⟩ ⟨319,8,319,15⟩ ⟨319,8,319,24⟩ ⟨319,8,319,30⟩ ⟨319,8,319,30⟩ [.Name ((B Z).nm 3) ⟨319,25,319,29⟩] (gP Z).py=aM 35 (some 0):=by kernel_rfl
 rw [e];exact h
noncomputable def j2:Fn (B Z) 5:=JZ 422 421 410 486 486 2 3 (qM Z) (gP Z) (by decide) ⟨319,8,319,13⟩ ⟨319,8,319,15⟩ ⟨319,8,319,24⟩ ⟨319,8,319,30⟩ ⟨319,8,319,30⟩ ⟨319,25,319,29⟩ (λO=>⟨pV Z O,(facts O).k3,(facts O).m3,(facts O).f3,(facts O).y3,(facts O).ex.E1⟩) ⟨λenv=>⟨_,by with_unfolding_all rfl⟩,λenv=>by with_unfolding_all rfl⟩ (nd _) (by decide)
noncomputable def ny:bb (B Z) ia 6 0:=(.c (.i9 [(⟨1,qL⟩,(sP 326 8 12)),(⟨20,qL⟩,(sP 326 14 17))] 0 (sP 326 8 17) (.tup (.c (.item (aL 2 486 46 326 21 25 31) (iC 2 326 32 33) (sP 326 21 34)) (.o (.bp (lC 2 326 36 40) 486 27 (fZ Z) .n (sP 326 36 47) (sP 326 36 49) (by decide) (me Z 486 27 371 rfl)))) 0 (sP 326 20 50)) (sP 326 8 50))
 (.c (.expr (.bp (lC 2 327 8 12) 486 53 (dT Z) (.o (tX ".." 327 18 22)) (sP 327 8 17) (sP 327 8 23) (by decide) (me Z 486 53 364 rfl)) (sP 327 8 23))
 (.c (.assign ⟨21,qL⟩ (sP 328 8 12) (.bp (lC 2 328 15 19) 486 27 (fZ Z) .n (sP 328 15 26) (sP 328 15 28) (by decide) (me Z 486 27 371 rfl)) (sP 328 8 28))
 (.c (.ite (.or (.c (.cmp (lC 20 329 11 14) (jP _) (lC 21 329 17 21) (sP 329 11 21)) (.o (.and (.c (.cmp (lC 60 329 26 30) (GH _) (.none _ _ _ 0 (sP 329 38 42)) (sP 329 26 42)) (.o (.cmp (lC 20 329 47 50) (DW _) (.bin (lC 60 329 54 58) (aB _) (iC 1 329 61 62) (sP 329 54 62)) (sP 329 47 62)))) (sP 329 26 62)))) (sP 329 11 63)) (.c (.raise ⟨"TextFault",qG,qF⟩ (tX "ranges ascend, and do not touch" 330 28 61) (lC 1 330 63 67) (sP 330 18 27) (sP 330 18 68) (sP 330 12 68) (kM Z))
 .n) .n ⟨329,8,330,68⟩)
 (.c (.ret (.tup (.c (lC 20 331 16 19) (.o (lC 21 331 21 25))) 0 (sP 331 15 26)) (sP 331 8 26))
 .n)))))
noncomputable def iL:Fn (B Z) 6:=fM 429 [2,60] (ny Z) 38 rfl (by kernel_rfl)
noncomputable def og:bb (B Z) iv 7 0:=(.c (.ite (.not (.of (.bp (lC 2 334 15 19) 486 48 (cD Z) (.o (tX "{" 334 28 31)) (sP 334 15 27) (sP 334 15 32) (by decide) (me Z 486 48 357 rfl))) (sP 334 11 32)) (.c (.ret (.tup (.o (.bp (lC 2 335 20 24) 486 61 (iL Z) (.o (.none _ _ _ 0 (sP 335 33 37))) (sP 335 20 32) (sP 335 20 38) (by decide) (me Z 486 61 429 rfl))) 0 (sP 335 19 40)) (sP 335 12 40))
 .n) .n ⟨334,8,335,40⟩)
 (.c (.expr (.bp (lC 2 336 8 12) 486 49 (bI Z) .n (sP 336 8 17) (sP 336 8 19) (by decide) (me Z 486 49 350 rfl)) (sP 336 8 19))
 (.c (.assign ⟨62,qL⟩ (sP 337 8 13) (.newList .n (sP 337 16 18)) (sP 337 8 18))
 (.c (.while 4000 (.not (.of (.bp (lC 2 338 18 22) 486 48 (cD Z) (.o (tX "}" 338 31 34)) (sP 338 18 30) (sP 338 18 35) (by decide) (me Z 486 48 357 rfl))) (sP 338 14 35)) (.c (.ite (.cmp (bu (.o (lC 62 339 19 24)) (sP 339 15 18) (sP 339 15 25)) (jP _) (iC 0 339 28 29) (sP 339 15 29)) (.c (.expr (.bp (lC 2 340 16 20) 486 53 (dT Z) (.o (tX "," 340 26 29)) (sP 340 16 25) (sP 340 16 30) (by decide) (me Z 486 53 364 rfl)) (sP 340 16 30))
 .n) .n ⟨339,12,340,30⟩)
 (.c (.expr (.bm (lC 62 341 12 17) (aH _) (.o (.bp (lC 2 341 25 29) 486 61 (iL Z) (.o (.ite (.cmp (bu (.o (lC 62 341 58 63)) (sP 341 54 57) (sP 341 54 64)) (jP _) (iC 0 341 67 68) (sP 341 54 68)) (.item (.item (lC 62 341 38 43) (.neg (iC 1 341 45 46) (sP 341 44 46)) (sP 341 38 47)) (iC 1 341 48 49) (sP 341 38 50)) (.none _ _ _ 0 (sP 341 74 78)) (sP 341 38 78))) (sP 341 25 37) (sP 341 25 79) (by decide) (me Z 486 61 429 rfl))) (sP 341 12 24) (sP 341 12 80)) (sP 341 12 80))
 .n)) ⟨338,8,341,80⟩)
 (.c (.expr (.bp (lC 2 342 8 12) 486 49 (bI Z) .n (sP 342 8 17) (sP 342 8 19) (by decide) (me Z 486 49 350 rfl)) (sP 342 8 19))
 (.c (.ret (ve (.o (lC 62 343 21 26)) (sP 343 15 20) (sP 343 15 27)) (sP 343 8 27))
 .n))))))
noncomputable def nV:Fn (B Z) 7:=fM 436 [2] (og Z) 39 rfl (by kernel_rfl)
noncomputable def nX:Fn (B Z) 7:=(nV Z).gc 3 5
noncomputable def mH:bb (B Z) gS 8 0:=(.c (.assign ⟨9,qL⟩ (sP 346 8 14) (.bp (lC 2 346 17 21) 486 9 (nX Z) .n (sP 346 17 28) (sP 346 17 30) (by decide) (me Z 486 9 436 rfl)) (sP 346 8 30))
 (.c (.expr (.bp (lC 2 347 8 12) 486 53 (dT Z) (.o (tX ":" 347 18 21)) (sP 347 8 17) (sP 347 8 22) (by decide) (me Z 486 53 364 rfl)) (sP 347 8 22))
 (.c (.ite (.cmp (.item (aL 2 486 46 348 11 15 21) (iC 0 348 22 23) (sP 348 11 24)) (dH _) (.tup (.c (tX "word" 348 33 39) (.o (tX "text" 348 41 47))) 0 (sP 348 32 48)) (sP 348 11 48)) (.c (.raise ⟨"TextFault",qG,qF⟩ (tX "a name is wanted" 349 28 46) (.item (aL 2 486 46 349 48 52 58) (iC 2 349 59 60) (sP 349 48 61)) (sP 349 18 27) (sP 349 18 62) (sP 349 12 62) (kM Z))
 .n) .n ⟨348,8,349,62⟩)
 (.c (.expr (.bp (aL 2 486 35 350 8 12 17) 150 63 (uk Z) (.c (.item (.bp (lC 2 350 26 30) 486 49 (bI Z) .n (sP 350 26 35) (sP 350 26 37) (by decide) (me Z 486 49 350 rfl)) (iC 1 350 38 39) (sP 350 26 40)) (.o (lC 9 350 42 48))) (sP 350 8 25) (sP 350 8 49) (by decide) (me Z 150 63 126 rfl)) (sP 350 8 49))
 .n))))
noncomputable def mE:Fn (B Z) 8:=fM 443 [2] (mH Z) 40 rfl (by kernel_rfl)
noncomputable def k9:bb (B Z) gu 9 0:=(.c (.expr (.bm (aL 2 486 57 353 8 12 18) (aH _) (.o (.item (aL 2 486 46 353 26 30 36) (iC 2 353 37 38) (sP 353 26 39))) (sP 353 8 25) (sP 353 8 40)) (sP 353 8 40))
 (.c (.expr (.bp (aL 2 486 35 354 8 12 17) 150 64 (yl Z) (.o (.bp (lC 2 354 23 27) 486 31 (j3 Z) .n (sP 354 23 32) (sP 354 23 34) (by decide) (me Z 486 31 399 rfl))) (sP 354 8 22) (sP 354 8 35) (by decide) (me Z 150 64 133 rfl)) (sP 354 8 35))
 .n))
noncomputable def kY:Fn (B Z) 9:=fM 450 [2] (k9 Z) 41 rfl (by kernel_rfl)
noncomputable def qP:bb (B Z) jv 6 0:=(.c (.ite (.cmp (aL 2 486 58 357 11 15 25) (rO _) (iC 0 357 29 30) (sP 357 11 30)) (.c (.raise ⟨"TextFault",qG,qF⟩ (tX "a model has one goal" 358 28 50) (lC 1 358 52 56) (sP 358 18 27) (sP 358 18 57) (sP 358 12 57) (kM Z))
 .n) .n ⟨357,8,358,57⟩)
 (.c (.setAttr (lC 2 359 8 12) 486 58 (sP 359 8 22) (.item (aL 2 486 46 359 25 29 35) (iC 2 359 36 37) (sP 359 25 38)) (sP 359 8 38) (ca Z 486 58 qT))
 (.c (.assign ⟨15,qL⟩ (sP 360 8 12) (.bp (lC 2 360 15 19) 486 49 (bI Z) .n (sP 360 15 24) (sP 360 15 26) (by decide) (me Z 486 49 350 rfl)) (sP 360 8 26))
 (.c (.ite (.or (.c (.cmp (.item (lC 15 361 11 15) (iC 0 361 16 17) (sP 361 11 18)) (dq _) (tX "word" 361 22 28) (sP 361 11 28)) (.o (.cmp (.item (lC 15 361 32 36) (iC 1 361 37 38) (sP 361 32 39)) (dH _) (.glob ⟨"GOALS",qG,qF⟩ uu (En Z) (sP 361 47 52)) (sP 361 32 52)))) (sP 361 11 52)) (.c (.raise ⟨"TextFault",qG,qF⟩ (tX "satisfy, minimize or maximize is wanted" 362 28 69) (.item (lC 15 362 71 75) (iC 2 362 76 77) (sP 362 71 78)) (sP 362 18 27) (sP 362 18 79) (sP 362 12 79) (kM Z))
 .n) .n ⟨361,8,362,79⟩)
 (.c (.setAttr (aL 2 486 35 363 8 12 17) 150 6 (sP 363 8 22) (.tup (.c (.item (lC 15 363 26 30) (iC 1 363 31 32) (sP 363 26 33)) (.o (.ite (.cmp (.item (lC 15 363 43 47) (iC 1 363 48 49) (sP 363 43 50)) (ba _) (tX "satisfy" 363 54 63) (sP 363 43 63)) (.none _ _ _ 0 (sP 363 35 39)) (.bp (lC 2 363 69 73) 486 27 (fZ Z) .n (sP 363 69 80) (sP 363 69 82) (by decide) (me Z 486 27 371 rfl)) (sP 363 35 82)))) 0 (sP 363 25 83)) (sP 363 8 83) (ca Z 150 6 qT))
 .n)))))
noncomputable def qJ:Fn (B Z) 6:=fM 457 [2,1] (qP Z) 42 rfl (by kernel_rfl)
noncomputable def oa:bb (B Z) iu 9 0:=(.c (.ite (.cmp (aL 2 486 59 366 11 15 26) (rO _) (iC 0 366 30 31) (sP 366 11 31)) (.c (.raise ⟨"TextFault",qG,qF⟩ (tX "a model is shown in one way" 367 28 57) (lC 1 367 59 63) (sP 367 18 27) (sP 367 18 64) (sP 367 12 64) (kM Z))
 .n) .n ⟨366,8,367,64⟩)
 (.c (.setAttr (lC 2 368 8 12) 486 59 (sP 368 8 23) (.item (aL 2 486 46 368 26 30 36) (iC 2 368 37 38) (sP 368 26 39)) (sP 368 8 39) (ca Z 486 59 qT))
 (.c (.setAttr (aL 2 486 35 369 8 12 17) 150 7 (sP 369 8 23) (.bp (lC 2 369 26 30) 486 31 (j3 Z) .n (sP 369 26 35) (sP 369 26 37) (by decide) (me Z 486 31 399 rfl)) (sP 369 8 37) (ca Z 150 7 qT))
 .n)))
noncomputable def nW:Fn (B Z) 9:=fM 464 [2,1] (oa Z) 43 rfl (by kernel_rfl)
noncomputable def qO:bb (B Z) ju 10 0:=(.c (.assign ⟨65,qL⟩ (sP 372 8 12) (.bp (lC 2 372 15 19) 486 49 (bI Z) .n (sP 372 15 24) (sP 372 15 26) (by decide) (me Z 486 49 350 rfl)) (sP 372 8 26))
 (.c (.ite (.cmp (.sliceTo (lC 65 373 11 15) (iC 2 373 17 18) (sP 373 16 18) (sP 373 11 19)) (ba _) (.tup (.c (tX "word" 373 24 30) (.o (tX "var" 373 32 37))) 0 (sP 373 23 38)) (sP 373 11 38)) (.c (.expr (.bp (lC 2 374 12 16) 486 66 (mE Z) .n (sP 374 12 25) (sP 374 12 27) (by decide) (me Z 486 66 443 rfl)) (sP 374 12 27))
 .n) (.c (.ite (.cmp (.sliceTo (lC 65 375 13 17) (iC 2 375 19 20) (sP 375 18 20) (sP 375 13 21)) (ba _) (.tup (.c (tX "word" 375 26 32) (.o (tX "constraint" 375 34 46))) 0 (sP 375 25 47)) (sP 375 13 47)) (.c (.expr (.bp (lC 2 376 12 16) 486 67 (kY Z) .n (sP 376 12 27) (sP 376 12 29) (by decide) (me Z 486 67 450 rfl)) (sP 376 12 29))
 .n) (.c (.ite (.cmp (.sliceTo (lC 65 377 13 17) (iC 2 377 19 20) (sP 377 18 20) (sP 377 13 21)) (ba _) (.tup (.c (tX "word" 377 26 32) (.o (tX "solve" 377 34 41))) 0 (sP 377 25 42)) (sP 377 13 42)) (.c (.expr (.bp (lC 2 378 12 16) 486 6 (qJ Z) (.o (.item (lC 65 378 22 26) (iC 2 378 27 28) (sP 378 22 29))) (sP 378 12 21) (sP 378 12 30) (by decide) (me Z 486 6 457 rfl)) (sP 378 12 30))
 .n) (.c (.ite (.cmp (.sliceTo (lC 65 379 13 17) (iC 2 379 19 20) (sP 379 18 20) (sP 379 13 21)) (ba _) (.tup (.c (tX "word" 379 26 32) (.o (tX "output" 379 34 42))) 0 (sP 379 25 43)) (sP 379 13 43)) (.c (.expr (.bp (lC 2 380 12 16) 486 68 (nW Z) (.o (.item (lC 65 380 24 28) (iC 2 380 29 30) (sP 380 24 31))) (sP 380 12 23) (sP 380 12 32) (by decide) (me Z 486 68 464 rfl)) (sP 380 12 32))
 .n) (.c (.raise ⟨"TextFault",qG,qF⟩ (tX "var, constraint, solve or output is wanted" 382 28 72) (.item (lC 65 382 74 78) (iC 2 382 79 80) (sP 382 74 81)) (sP 382 18 27) (sP 382 18 82) (sP 382 12 82) (kM Z))
 .n) ⟨379,8,382,82⟩)
 .n) ⟨377,8,382,82⟩)
 .n) ⟨375,8,382,82⟩)
 .n) ⟨373,8,382,82⟩)
 (.c (.expr (.bp (lC 2 383 8 12) 486 53 (dT Z) (.o (tX ";" 383 18 21)) (sP 383 8 17) (sP 383 8 22) (by decide) (me Z 486 53 364 rfl)) (sP 383 8 22))
 .n)))
noncomputable def j0:Fn (B Z) 10:=fM 471 [2] (qO Z) 44 rfl (by kernel_rfl)
noncomputable def qN:bb (B Z) jt 1 0:=(.c (.ite (.cmp (lC 25 386 11 16) (dq _) (tX "" 386 20 22) (sP 386 11 22)) (.c (.raise ⟨"TextFault",qG,qF⟩ (lC 25 387 28 33) (lC 1 387 35 39) (sP 387 18 27) (sP 387 18 40) (sP 387 12 40) (kM Z))
 .n) .n ⟨386,8,387,40⟩)
 .n)
noncomputable def b0:Fn (B Z) 1:=fM 478 [2,25,1] (qN Z) 45 rfl (by kernel_rfl)
noncomputable def mn:Scope:=(fS [(".0",.local),("x",.local),("is_truth",gI),("self",.free)])
noncomputable def mT:Scope:=(fS [(".0",.local),("x",.local),("is_truth",gI),("self",.cell)])
noncomputable def pU:bb (B Z) iZ 11 0:=(.c (.while 4000 (.cmp (.item (aL 2 486 46 390 14 18 24) (iC 0 390 25 26) (sP 390 14 27)) (dq _) (tX "end" 390 31 36) (sP 390 14 36)) (.c (.expr (.bp (lC 2 391 12 16) 486 69 (j0 Z) .n (sP 391 12 21) (sP 391 12 23) (by decide) (me Z 486 69 471 rfl)) (sP 391 12 23))
 .n) ⟨390,8,391,23⟩)
 (.c (.assign ⟨14,qL⟩ (sP 392 8 12) (.bp (aL 2 486 35 392 15 19 24) 150 70 (rm Z) .n (sP 392 15 29) (sP 392 15 31) (by decide) (me Z 150 70 140 rfl)) (sP 392 8 31))
 (.c (.for (.bi (EN _) ⟨⟨"zip",qG,qF⟩,by kernel_rfl,by decide +kernel⟩ (bt Z "zip" rfl) (.c (.attr (aL 2 486 35 393 30 34 39) 150 5 (sP 393 30 45) (ca Z 150 5 qT)) (.o (aL 2 486 57 393 47 51 57))) (sP 393 26 29) (sP 393 26 58)) (.names [(⟨10,qL⟩,(sP 393 12 16)),(⟨1,qL⟩,(sP 393 18 22))] 0 (sP 393 12 22)) (.c (.expr (.bp (lC 2 394 12 16) 486 71 (b0 Z) (.c (cL (pJ Z) "told_fault" (.c (lC 10 394 33 37) (.o (lC 14 394 39 43))) (sP 394 22 32) (sP 394 22 44)) (.o (lC 1 394 46 50))) (sP 394 12 21) (sP 394 12 51) (by decide) (me Z 486 71 478 rfl)) (sP 394 12 51))
 (.c (.ite (.not (.of (jf (.o (.comp (cs':=mT) (cL (tq Z) "is_truth" (.o (.bp (aL 2 486 35 395 33 37 42) 150 72 (kN Z) (.o (lC 11 395 53 54)) (sP 395 33 52) (sP 395 33 55) (by decide) (me Z 150 72 147 rfl))) (sP 395 24 32) (sP 395 24 56)) (.name ⟨11,qL⟩ (sP 395 61 62)) (.of (cL (rl Z) "truths_of" (.o (lC 10 395 76 80)) (sP 395 66 75) (sP 395 66 81))) [2] mn (sP 395 23 82) (eX (by kernel_rfl)) (An 2 (by kernel_rfl)) (Ee 2 (by kernel_rfl) (by kernel_rfl)) rfl (eg (by kernel_rfl)) (dE (by kernel_rfl)))) (sP 395 19 22) (sP 395 19 83))) (sP 395 15 83)) (.c (.raise ⟨"TextFault",qG,qF⟩ (.iK (.fmt (.item (lC 10 396 35 39) (iC 0 396 40 41) (sP 396 35 42)) (sP 396 34 43)) (tX ": a truth has the values 0 and 1 alone" 396 43 81) .n (sP 396 32 82)) (lC 1 396 84 88) (sP 396 22 31) (sP 396 22 89) (sP 396 16 89) (kM Z))
 .n) .n ⟨395,12,396,89⟩)
 .n)) ⟨393,8,396,89⟩)
 (.c (.assign ⟨36,qL⟩ (sP 397 8 16) (.item (.attr (aL 2 486 35 397 19 23 28) 150 6 (sP 397 19 33) (ca Z 150 6 qT)) (iC 1 397 34 35) (sP 397 19 36)) (sP 397 8 36))
 (.c (.expr (.bp (lC 2 398 8 12) 486 71 (b0 Z) (.c (.ite (.or (.c (.cmp (lC 36 398 24 32) (rI _) (.none _ _ _ 0 (sP 398 36 40)) (sP 398 24 40)) (.o (.of (cL (hM Z) "is_var" (.c (lC 36 398 51 59) (.o (lC 14 398 61 65))) (sP 398 44 50) (sP 398 44 66))))) (sP 398 24 66)) (tX "" 398 18 20) (tX "the goal is no variable" 398 72 97) (sP 398 18 97)) (.o (aL 2 486 58 398 99 103 113))) (sP 398 8 17) (sP 398 8 114) (by decide) (me Z 486 71 478 rfl)) (sP 398 8 114))
 (.c (.expr (.bp (lC 2 399 8 12) 486 71 (b0 Z) (.c (cL (jQ Z) "shown_fault" (.c (.attr (aL 2 486 35 399 30 34 39) 150 7 (sP 399 30 45) (ca Z 150 7 qT)) (.o (lC 14 399 47 51))) (sP 399 18 29) (sP 399 18 52)) (.o (aL 2 486 59 399 54 58 69))) (sP 399 8 17) (sP 399 8 70) (by decide) (me Z 486 71 478 rfl)) (sP 399 8 70))
 (.c (.ret (aL 2 486 35 400 15 19 24) (sP 400 8 24))
 .n)))))))
noncomputable def jE:Fn (B Z) 11:=fM 483 [2] (pU Z) 46 rfl (by kernel_rfl)
noncomputable def yt:bb (B Z) oN 12 0:=(.c (.ret (.bp (.make 486 (j2 Z) ⟨"FlatReader",qG,qF⟩ (.o (lC 3 402 22 26)) (sP 402 11 21) (sP 402 11 27) (by decide) (mk Z "FlatReader" 486 422 rfl)) 486 73 (jE Z) .n (sP 402 11 33) (sP 402 11 35) (by decide) (me Z 486 73 483 rfl)) (sP 402 4 35))
 .n)
noncomputable def jl:Fn (B Z) 12:=fM 495 [3] (yt Z) 47 rfl (by kernel_rfl)
noncomputable def cM:Fn (B Z) 12:=(jl Z).texts
noncomputable def yw:bb (B Z) oR 1 0:=(.c (.ret (.lst (.c (.tup (.c (tX "X1" 405 13 17) (.o (tX "X1" 405 19 23))) 0 (sP 405 12 24)) (.c (.tup (.c (tX "b" 405 27 30) (.o (tX "b" 405 32 35))) 0 (sP 405 26 36)) (.c (.tup (.c (tX "Bc_2" 405 39 45) (.o (tX "Bc_2" 405 47 53))) 0 (sP 405 38 54)) (.c (.tup (.c (tX "_Q" 405 57 61) (.o (tX "_Q" 405 63 67))) 0 (sP 405 56 68)) (.c (.tup (.c (tX "a b" 405 71 76) (.o (tX "\"a b\"" 405 78 85))) 0 (sP 405 70 86)) (.c (.tup (.c (tX "" 405 89 91) (.o (tX "\"\"" 405 93 97))) 0 (sP 405 88 98)) (.c (.tup (.c (tX "1x" 405 101 105) (.o (tX "\"1x\"" 405 107 113))) 0 (sP 405 100 114)) (.o (.tup (.c (tX "q\"r" 405 117 122) (.o (tX "\"q\\\"r\"" 405 124 133))) 0 (sP 405 116 134)))))))))) (sP 405 11 135)) (sP 405 4 135))
 .n)
noncomputable def lZ:Fn (B Z) 1:=fM 502 [] (yw Z) 48 rfl (by kernel_rfl)
noncomputable def vy:bb (B Z) mf 1 0:=(.c (.ret (.lst (.c (.tup (.c (.tup (.o (.tup (.c (iC 0 407 15 16) (.o (iC 1 407 18 19))) 0 (sP 407 14 20))) 0 (sP 407 13 22)) (.o (tX "0..1" 407 24 30))) 0 (sP 407 12 31)) (.c (.tup (.c (.tup .n 0 (sP 407 34 36)) (.o (tX "{}" 407 38 42))) 0 (sP 407 33 43)) (.c (.tup (.c (.tup (.c (.tup (.c (iC 0 407 48 49) (.o (iC 0 407 51 52))) 0 (sP 407 47 53)) (.o (.tup (.c (iC 2 407 56 57) (.o (iC 5 407 59 60))) 0 (sP 407 55 61)))) 0 (sP 407 46 62)) (.o (tX "{0..0, 2..5}" 407 64 78))) 0 (sP 407 45 79)) (.c (.tup (.c (.tup (.o (.tup (.c (.neg (iC 7 407 85 86) (sP 407 84 86)) (.o (.neg (iC 2 407 89 90) (sP 407 88 90)))) 0 (sP 407 83 91))) 0 (sP 407 82 93)) (.o (tX "-7..-2" 407 95 103))) 0 (sP 407 81 104)) (.o (.tup (.c (.tup (.c (.tup (.c (.neg (iC 3 407 110 111) (sP 407 109 111)) (.o (.neg (iC 3 407 114 115) (sP 407 113 115)))) 0 (sP 407 108 116)) (.o (.tup (.c (iC 0 407 119 120) (.o (iC 9 407 122 123))) 0 (sP 407 118 124)))) 0 (sP 407 107 125)) (.o (tX "{-3..-3, 0..9}" 407 127 143))) 0 (sP 407 106 144))))))) (sP 407 11 145)) (sP 407 4 145))
 .n)
noncomputable def jR:Fn (B Z) 1:=fM 509 [] (vy Z) 49 rfl (by kernel_rfl)
noncomputable def yu:bb (B Z) oP 1 0:=(.c (.ret (.lst (.c (.tup (.c (.tup (.c (tX "linear_le" 409 14 25) (.c (.tup (.o (iC 1 409 28 29)) 0 (sP 409 27 31)) (.c (.tup (.o (iC 0 409 34 35)) 0 (sP 409 33 37)) (.o (iC 4 409 39 40))))) 0 (sP 409 13 41)) (.o (tX "linear_le([1], [0], 4)" 409 43 67))) 0 (sP 409 12 68)) (.c (.tup (.c (.tup (.c (tX "all_different" 409 72 87) (.c (.tup (.o (iC 0 409 90 91)) 0 (sP 409 89 93)) (.o (tX "values" 409 95 103)))) 0 (sP 409 71 104)) (.o (tX "all_different([0], \"values\")" 409 106 136))) 0 (sP 409 70 137)) (.c (.tup (.c (.tup (.c (tX "circuit" 409 141 150) (.o (.tup .n 0 (sP 409 152 154)))) 0 (sP 409 140 155)) (.o (tX "circuit([])" 409 157 170))) 0 (sP 409 139 171)) (.o (.tup (.c (.tup (.c (tX "table" 409 175 182) (.c (.tup (.o (iC 0 409 185 186)) 0 (sP 409 184 188)) (.o (.tup (.c (.tup (.o (iC 1 409 192 193)) 0 (sP 409 191 195)) (.o (.tup (.o (iC 3 409 198 199)) 0 (sP 409 197 201)))) 0 (sP 409 190 202))))) 0 (sP 409 174 203)) (.o (tX "table([0], [[1], [3]])" 409 205 229))) 0 (sP 409 173 230)))))) (sP 409 11 231)) (sP 409 4 231))
 .n)
noncomputable def lX:Fn (B Z) 1:=fM 516 [] (yu Z) 50 rfl (by kernel_rfl)
noncomputable def yy:bb (B Z) oU 1 0:=(.c (.ret (.lst (.c (.tup (.c (.tup (.c (tX "satisfy" 411 14 23) (.o (.none _ _ _ 0 (sP 411 25 29)))) 0 (sP 411 13 30)) (.o (tX "satisfy" 411 32 41))) 0 (sP 411 12 42)) (.c (.tup (.c (.tup (.c (tX "minimize" 411 46 56) (.o (iC 0 411 58 59))) 0 (sP 411 45 60)) (.o (tX "minimize 0" 411 62 74))) 0 (sP 411 44 75)) (.o (.tup (.c (.tup (.c (tX "maximize" 411 79 89) (.o (iC 0 411 91 92))) 0 (sP 411 78 93)) (.o (tX "maximize 0" 411 95 107))) 0 (sP 411 77 108))))) (sP 411 11 109)) (sP 411 4 109))
 .n)
noncomputable def l0:Fn (B Z) 1:=fM 523 [] (yy Z) 51 rfl (by kernel_rfl)
noncomputable def yv:bb (B Z) oQ 1 0:=(.c (.ret (.lst (.c (.tup (.c (.tup .n 0 (sP 413 13 15)) (.o (tX "[]" 413 17 21))) 0 (sP 413 12 22)) (.c (.tup (.c (.tup (.o (.tup (.c (tX "int" 413 27 32) (.o (iC 0 413 34 35))) 0 (sP 413 26 36))) 0 (sP 413 25 38)) (.o (tX "[int(0)]" 413 40 50))) 0 (sP 413 24 51)) (.c (.tup (.c (.tup (.c (.tup (.c (tX "text" 413 56 62) (.o (tX "y" 413 64 67))) 0 (sP 413 55 68)) (.o (.tup (.c (tX "list" 413 71 77) (.o (.tup (.o (.tup (.c (tX "bool" 413 81 87) (.o (iC 0 413 89 90))) 0 (sP 413 80 91))) 0 (sP 413 79 93)))) 0 (sP 413 70 94)))) 0 (sP 413 54 95)) (.o (tX "[text(\"y\"), list([bool(0)])]" 413 97 127))) 0 (sP 413 53 128)) (.o (.tup (.c (.tup (.o (.tup (.c (tX "if" 413 133 137) (.c (iC 0 413 139 140) (.c (.tup (.o (.tup (.c (tX "int" 413 144 149) (.o (iC 0 413 151 152))) 0 (sP 413 143 153))) 0 (sP 413 142 155)) (.o (.tup .n 0 (sP 413 157 159)))))) 0 (sP 413 132 160))) 0 (sP 413 131 162)) (.o (tX "[if(0, [int(0)], [])]" 413 164 187))) 0 (sP 413 130 188)))))) (sP 413 11 189)) (sP 413 4 189))
 .n)
noncomputable def lY:Fn (B Z) 1:=fM 530 [] (yv Z) 52 rfl (by kernel_rfl)
noncomputable def AG:bb (B Z) q8 1 0:=(.c (.assign ⟨74,qL⟩ (sP 420 4 5) (.sU (lC 75 420 8 12) (tX "at" 420 13 17) (sP 420 8 18)) (sP 420 4 18))
 (.c (.setItem (lC 75 421 4 8) (tX "at" 421 9 13) (sP 421 4 14) (.bin (lC 74 421 17 18) (aB _) (iC 1 421 21 22) (sP 421 17 22)) (sP 421 4 22))
 (.c (.ite (.cmp (lC 74 422 7 8) (nc _) (bu (.o (.sU (lC 75 422 15 19) (tX "cells" 422 20 27) (sP 422 15 28))) (sP 422 11 14) (sP 422 11 29)) (sP 422 7 29)) (.c (.ret (.bin (.item (.sU (lC 75 423 15 19) (tX "cells" 423 20 27) (sP 423 15 28)) (lC 74 423 29 30) (sP 423 15 31)) (m9 _) (lC 76 423 34 38) (sP 423 15 38)) (sP 423 8 38))
 .n) .n ⟨422,4,423,38⟩)
 (.c (.ret (.bin (.bin (.bin (.bin (.bin (.bin (.bin (iC 7 424 12 13) (jk _) (lC 74 424 16 17) (sP 424 12 17)) (jk _) (lC 74 424 20 21) (sP 424 12 21)) (aB _) (.bin (iC 3 424 24 25) (jk _) (lC 74 424 28 29) (sP 424 24 29)) (sP 424 12 29)) (aB _) (.bin (iC 4 424 32 33) (jk _) (bu (.o (.sU (lC 75 424 40 44) (tX "cells" 424 45 52) (sP 424 40 53))) (sP 424 36 39) (sP 424 36 54)) (sP 424 32 54)) (sP 424 12 54)) (aB _) (iC 2 424 57 58) (sP 424 12 58)) (m9 _) (iC 89 424 62 64) (sP 424 11 64)) (m9 _) (lC 76 424 67 71) (sP 424 11 71)) (sP 424 4 71))
 .n))))
noncomputable def aR:Fn (B Z) 1:=fM 542 [75,76] (AG Z) 53 rfl (by kernel_rfl)
noncomputable def yx:bb (B Z) oS 2 0:=(.c (.assign ⟨29,qL⟩ (sP 426 4 8) (.newList (.o (.tup (.c (.tup (.c (tX "x" 426 14 17) (.o (.tup (.o (.tup (.c (iC 0 426 21 22) (.o (iC 3 426 24 25))) 0 (sP 426 20 26))) 0 (sP 426 19 28)))) 0 (sP 426 13 29)) (.o (tX "var 0..3: x;" 426 31 45))) 0 (sP 426 12 46))) (sP 426 11 47)) (sP 426 4 47))
 (.c (.ite (.cmp (cL (aR Z) "_law_draw" (.c (lC 75 427 17 21) (.o (iC 2 427 23 24))) (sP 427 7 16) (sP 427 7 25)) (ba _) (iC 1 427 29 30) (sP 427 7 30)) (.c (.unpack [(⟨8,qL⟩,(sP 428 8 12)),(⟨77,qL⟩,(sP 428 14 21))] 0 (sP 428 8 21) (.item (cL (lZ Z) "_law_names" .n (sP 428 24 34) (sP 428 24 36)) (cL (aR Z) "_law_draw" (.c (lC 75 428 47 51) (.o (iC 8 428 53 54))) (sP 428 37 46) (sP 428 37 55)) (sP 428 24 56)) (sP 428 8 56))
 (.c (.unpack [(⟨9,qL⟩,(sP 429 8 14)),(⟨10,qL⟩,(sP 429 16 20))] 0 (sP 429 8 20) (.item (cL (jR Z) "_law_domains" .n (sP 429 23 35) (sP 429 23 37)) (cL (aR Z) "_law_draw" (.c (lC 75 429 48 52) (.o (iC 5 429 54 55))) (sP 429 38 47) (sP 429 38 56)) (sP 429 23 57)) (sP 429 8 57))
 (.c (.expr (.bm (lC 29 430 8 12) (aH _) (.o (.tup (.c (.tup (.c (lC 8 430 22 26) (.o (lC 9 430 28 34))) 0 (sP 430 21 35)) (.o (.bin (.bin (.bin (.bin (tX "var " 430 37 43) (aB _) (lC 10 430 46 50) (sP 430 37 50)) (aB _) (tX ": " 430 53 57) (sP 430 37 57)) (aB _) (lC 77 430 60 67) (sP 430 37 67)) (aB _) (tX ";" 430 70 73) (sP 430 37 73)))) 0 (sP 430 20 74))) (sP 430 8 19) (sP 430 8 75)) (sP 430 8 75))
 .n))) .n ⟨427,4,430,75⟩)
 (.c (.assign ⟨5,qL⟩ (sP 431 4 9) (.newList .n (sP 431 12 14)) (sP 431 4 14))
 (.c (.for (.bi (fQ _) ⟨⟨"range",qG,qF⟩,by kernel_rfl,by decide +kernel⟩ (bt Z "range" rfl) (.o (cL (aR Z) "_law_draw" (.c (lC 75 432 31 35) (.o (iC 3 432 37 38))) (sP 432 21 30) (sP 432 21 39))) (sP 432 15 20) (sP 432 15 40)) (.name ⟨78,qL⟩ (sP 432 8 11)) (.c (.unpack [(⟨31,qL⟩,(sP 433 8 12)),(⟨10,qL⟩,(sP 433 14 18))] 0 (sP 433 8 18) (.item (cL (lX Z) "_law_tolds" .n (sP 433 21 31) (sP 433 21 33)) (cL (aR Z) "_law_draw" (.c (lC 75 433 44 48) (.o (iC 4 433 50 51))) (sP 433 34 43) (sP 433 34 52)) (sP 433 21 53)) (sP 433 8 53))
 (.c (.expr (.bm (lC 5 434 8 13) (aH _) (.o (.tup (.c (lC 31 434 22 26) (.o (.bin (.bin (tX "constraint " 434 28 41) (aB _) (lC 10 434 44 48) (sP 434 28 48)) (aB _) (tX ";" 434 51 54) (sP 434 28 54)))) 0 (sP 434 21 55))) (sP 434 8 20) (sP 434 8 56)) (sP 434 8 56))
 .n)) ⟨432,4,434,56⟩)
 (.c (.unpack [(⟨6,qL⟩,(sP 435 4 8)),(⟨10,qL⟩,(sP 435 10 14))] 0 (sP 435 4 14) (.item (cL (l0 Z) "_law_goals" .n (sP 435 17 27) (sP 435 17 29)) (cL (aR Z) "_law_draw" (.c (lC 75 435 40 44) (.o (iC 3 435 46 47))) (sP 435 30 39) (sP 435 30 48)) (sP 435 17 49)) (sP 435 4 49))
 (.c (.unpack [(⟨7,qL⟩,(sP 436 4 9)),(⟨77,qL⟩,(sP 436 11 18))] 0 (sP 436 4 18) (.item (cL (lY Z) "_law_shown" .n (sP 436 21 31) (sP 436 21 33)) (cL (aR Z) "_law_draw" (.c (lC 75 436 44 48) (.o (iC 4 436 50 51))) (sP 436 34 43) (sP 436 34 52)) (sP 436 21 53)) (sP 436 4 53))
 (.c (.ret (.tup (.c (lC 29 437 12 16) (.c (lC 5 437 18 23) (.c (.tup (.c (lC 6 437 26 30) (.o (.bin (.bin (tX "solve " 437 32 40) (aB _) (lC 10 437 43 47) (sP 437 32 47)) (aB _) (tX ";" 437 50 53) (sP 437 32 53)))) 0 (sP 437 25 54)) (.o (.tup (.c (lC 7 437 57 62) (.o (.bin (.bin (tX "output " 437 64 73) (aB _) (lC 77 437 76 83) (sP 437 64 83)) (aB _) (tX ";" 437 86 89) (sP 437 64 89)))) 0 (sP 437 56 90)))))) 0 (sP 437 11 91)) (sP 437 4 91))
 .n)))))))
noncomputable def jm:Fn (B Z) 2:=fM 549 [75] (yx Z) 54 rfl (by kernel_rfl)
noncomputable def AF:bb (B Z) q0 2 0:=(.c (.assign ⟨79,qL⟩ (sP 439 4 8) (.item (.lst (.c (tX "\n" 439 12 16) (.c (tX "  " 439 18 22) (.c (tX " % ; var {\n" 439 24 38) (.o (tX "\r\n\t" 439 40 48))))) (sP 439 11 49)) (cL (aR Z) "_law_draw" (.c (lC 75 439 60 64) (.o (iC 4 439 66 67))) (sP 439 50 59) (sP 439 50 68)) (sP 439 11 69)) (sP 439 4 69))
 (.c (.ret (.bin (.bm (lC 79 440 11 15) (dS _) (.o (lC 34 440 21 25)) (sP 440 11 20) (sP 440 11 26)) (aB _) (tX "\n" 440 29 33) (sP 440 11 33)) (sP 440 4 33))
 .n))
noncomputable def gG:Fn (B Z) 2:=fM 556 [75,34] (AF Z) 55 rfl (by kernel_rfl)
noncomputable def tH:bb (B Z) lS 2 1:=(.c (.assign ⟨80,qL⟩ (sP 442 4 7) (cL (aR Z) "_law_draw" (.c (lC 75 442 20 24) (.o (iC 6 442 26 27))) (sP 442 10 19) (sP 442 10 28)) (sP 442 4 28))
 (.c (.assign ⟨81,qL⟩ (sP 443 4 7) (.item (.lst (.c (.glob ⟨"_law_bent_vars",qG,qF⟩ bq (rP Z) (sP 443 11 25)) (.c (.glob ⟨"_law_bent_heads",qG,qF⟩ bh (qD Z) (sP 443 27 42)) (.c (.glob ⟨"_law_bent_tolds",qG,qF⟩ aT (qA Z) (sP 443 44 59)) (.c (.glob ⟨"_law_bent_goals",qG,qF⟩ aU (qE Z) (sP 443 61 76)) (.c (.glob ⟨"_law_bent_shown",qG,qF⟩ aW (qC Z) (sP 443 78 93)) (.o (.lst (.c (tX "@solve satisfy;" 443 96 113) (.o (tX "@output [];" 443 115 128))) (sP 443 95 129)))))))) (sP 443 10 130)) (lC 80 443 131 134) (sP 443 10 135)) (sP 443 4 135))
 (.c (.Hn (by decide) ⟨16,qL⟩ (sP 444 4 7) (.replace (.of (.item (lC 81 444 10 13) (cL (aR Z) "_law_draw" (.c (lC 75 444 24 28) (.o (bu (.o (lC 81 444 34 37)) (sP 444 30 33) (sP 444 30 38)))) (sP 444 14 23) (sP 444 14 39)) (sP 444 10 40))) (lT "M") (.strOf _ _ _ ⟨⟨"str",qG,qF⟩,by kernel_rfl,by decide +kernel⟩ (bt Z "str" rfl) 14 (sP 444 58 62) (sP 444 54 57) (sP 444 54 63) (nd _)) 0 (sP 444 49 52) (sP 444 10 48) (sP 444 10 64) 77 rfl) (sP 444 4 64))
 (.c (.ite (.cmp (lC 80 445 7 10) (ba _) (iC 3 445 14 15) (sP 445 7 15)) (.c (.ret (.bin (.bin (.sliceTo (lC 34 446 15 19) (.neg (iC 2 446 22 23) (sP 446 21 23)) (sP 446 20 23) (sP 446 15 24)) (aB _) (.lst (.o (lC 16 446 28 31)) (sP 446 27 32)) (sP 446 15 32)) (aB _) (.sliceFrom (lC 34 446 35 39) (.neg (iC 1 446 41 42) (sP 446 40 42)) (sP 446 40 43) (sP 446 35 44)) (sP 446 15 44)) (sP 446 8 44))
 .n) .n ⟨445,4,446,44⟩)
 (.c (.ite (.cmp (lC 80 447 7 10) (ba _) (iC 4 447 14 15) (sP 447 7 15)) (.c (.ret (.bin (.sliceTo (lC 34 448 15 19) (.neg (iC 1 448 22 23) (sP 448 21 23)) (sP 448 20 23) (sP 448 15 24)) (aB _) (.lst (.o (lC 16 448 28 31)) (sP 448 27 32)) (sP 448 15 32)) (sP 448 8 32))
 .n) .n ⟨447,4,448,32⟩)
 (.c (.ite (.cmp (lC 80 449 7 10) (ba _) (iC 5 449 14 15) (sP 449 7 15)) (.c (.ret (.bin (lC 34 450 15 19) (aB _) (.lst (.o (lC 16 450 23 26)) (sP 450 22 27)) (sP 450 15 27)) (sP 450 8 27))
 .n) .n ⟨449,4,450,27⟩)
 (.c (.assign ⟨1,qL⟩ (sP 451 4 8) (.ite (.cmp (lC 80 451 41 44) (ba _) (iC 0 451 48 49) (sP 451 41 49)) (cL (aR Z) "_law_draw" (.c (lC 75 451 21 25) (.o (.bin (lC 82 451 27 32) (aB _) (iC 1 451 35 36) (sP 451 27 36)))) (sP 451 11 20) (sP 451 11 37)) (cL (aR Z) "_law_draw" (.c (lC 75 451 65 69) (.o (.bin (bu (.o (lC 34 451 75 79)) (sP 451 71 74) (sP 451 71 80)) (aB _) (iC 1 451 83 84) (sP 451 71 84)))) (sP 451 55 64) (sP 451 55 85)) (sP 451 11 85)) (sP 451 4 85))
 (.c (.ret (.bin (.bin (.sliceTo (lC 34 452 11 15) (lC 1 452 17 21) (sP 452 16 21) (sP 452 11 22)) (aB _) (.lst (.o (lC 16 452 26 29)) (sP 452 25 30)) (sP 452 11 30)) (aB _) (.sliceFrom (lC 34 452 33 37) (lC 1 452 38 42) (sP 452 38 43) (sP 452 33 44)) (sP 452 11 44)) (sP 452 4 44))
 .n))))))))
theorem yF:(B Z).Ok→FnAt (B Z) 563 lS [75,34,82,14] (tH Z).py:=nO Z 56 rfl (by kernel_rfl)
noncomputable def ki:Fn (B Z) 2:=E7 563 75 [34,82,14] (tH Z) (yF Z) rfl rfl rfl (by decide +kernel) (zc (by kernel_rfl))
noncomputable def ro:bb (B Z) kE 13 0:=(.c (.C5 (.c (.expr (cL (cM Z) "read_flat" (.o (lC 3 455 18 22)) (sP 455 8 17) (sP 455 8 23)) (sP 455 8 23))
 .n) ⟨"TextFault",qG,qF⟩ ⟨25,qL⟩ (sP 456 11 20) (sP 457 15 20) (sP 457 15 25) (sP 457 8 25) ⟨456,4,457,25⟩ ⟨454,4,457,25⟩ (OL Z) (nd _) (by intro;with_unfolding_all rfl))
 (.c (.ret (.none _ _ _ 0 (sP 458 11 15)) (sP 458 4 15))
 .n))
theorem xY:(B Z).Ok→FnAt (B Z) 570 kE [3] (ro Z).py:=nO Z 57 rfl (by kernel_rfl)
noncomputable def jn:Fn (B Z) 13:=J0 3 570 [3] (ro Z) (xY Z) qK qF qF qT
noncomputable def Dm:Scope:=(fS [(".0",.local),("data",.local),("text",.local)])
noncomputable def Ge:Scope:=(fS [(".0",.local),("data",.local),("text",.local)])
noncomputable def Dl:Scope:=(fS [(".0",.local),("data",.local),("text",.local)])
noncomputable def Gd:Scope:=(fS [(".0",.local),("data",.local),("text",.local)])
noncomputable def Dk:Scope:=(fS [(".0",.local),("data",.local),("text",.local)])
noncomputable def Gb:Scope:=(fS [(".0",.local),("data",.local),("text",.local)])
noncomputable def vQ:bb (B Z) mh 14 1:=(.c (.assign ⟨75,qL⟩ (sP 460 4 8) (.dict (.c (lT "cells") 0 (sP 460 12 19) (EE (.o (.sliceTo (lC 83 460 26 32) (iC 30 460 34 36) (sP 460 33 36) (sP 460 26 37))) (sP 460 21 25) (sP 460 21 38)) (.c (lT "at") 0 (sP 460 40 44) (iC 0 460 46 47) .n)) (sP 460 11 48) (λh=>nomatch h) (Nat.le_of_ble_eq_true rfl)) (sP 460 4 48))
 (.c (.unpack [(⟨29,qL⟩,(sP 461 4 8)),(⟨5,qL⟩,(sP 461 10 15)),(⟨6,qL⟩,(sP 461 17 21)),(⟨7,qL⟩,(sP 461 23 28))] 0 (sP 461 4 28) (cL (jm Z) "_law_model" (.o (lC 75 461 42 46)) (sP 461 31 41) (sP 461 31 47)) (sP 461 4 47))
 (.c (.assign ⟨34,qL⟩ (sP 462 4 8) (.bin (.comp (cs':=Ge) (lC 3 462 12 16) (.names [(⟨31,qL⟩,(sP 462 21 25)),(⟨3,qL⟩,(sP 462 27 31))] 0 (sP 462 21 31)) (.of (.bin (lC 29 462 35 39) (aB _) (lC 5 462 42 47) (sP 462 35 47))) [] Dm (sP 462 11 48) (eX (by kernel_rfl)) (lI (by kernel_rfl)) (λ_ h=>nomatch h) rfl (eg (by kernel_rfl)) (dE (by kernel_rfl))) (aB _) (.lst (.c (.item (lC 6 462 52 56) (iC 1 462 57 58) (sP 462 52 59)) (.o (.item (lC 7 462 61 66) (iC 1 462 67 68) (sP 462 61 69)))) (sP 462 51 70)) (sP 462 11 70)) (sP 462 4 70))
 (.c (.assign ⟨35,qL⟩ (sP 463 4 8) (cL (cM Z) "read_flat" (.o (cL (gG Z) "_law_laid" (.c (lC 75 463 31 35) (.o (lC 34 463 37 41))) (sP 463 21 30) (sP 463 21 42))) (sP 463 11 20) (sP 463 11 43)) (sP 463 4 43))
 (.c (.ite (.or (.c (.cmp (aL 35 150 4 464 7 11 16) (dq _) (.comp (cs':=Gd) (lC 31 464 21 25) (.names [(⟨31,qL⟩,(sP 464 30 34)),(⟨3,qL⟩,(sP 464 36 40))] 0 (sP 464 30 40)) (.of (lC 29 464 44 48)) [] Dl (sP 464 20 49) (eX (by kernel_rfl)) (lI (by kernel_rfl)) (λ_ h=>nomatch h) rfl (eg (by kernel_rfl)) (dE (by kernel_rfl))) (sP 464 7 49)) (.o (.cmp (aL 35 150 5 464 53 57 63) (dq _) (.comp (cs':=Gb) (lC 31 464 68 72) (.names [(⟨31,qL⟩,(sP 464 77 81)),(⟨3,qL⟩,(sP 464 83 87))] 0 (sP 464 77 87)) (.of (lC 5 464 91 96)) [] Dk (sP 464 67 97) (eX (by kernel_rfl)) (lI (by kernel_rfl)) (λ_ h=>nomatch h) rfl (eg (by kernel_rfl)) (dE (by kernel_rfl))) (sP 464 53 97)))) (sP 464 7 97)) (.c (.ret (.bool _ _ _ (false) 0 (sP 465 15 20)) (sP 465 8 20))
 .n) .n ⟨464,4,465,20⟩)
 (.c (.ite (.or (.c (.cmp (aL 35 150 6 466 7 11 16) (dq _) (.item (lC 6 466 20 24) (iC 0 466 25 26) (sP 466 20 27)) (sP 466 7 27)) (.c (.cmp (aL 35 150 7 466 31 35 41) (dq _) (.item (lC 7 466 45 50) (iC 0 466 51 52) (sP 466 45 53)) (sP 466 31 53)) (.o (.cmp (cL (jo Z) "flat_text" (.o (lC 35 466 67 71)) (sP 466 57 66) (sP 466 57 72)) (dq _) (.bin (.bm (tX "\n" 466 76 80) (dS _) (.o (lC 34 466 86 90)) (sP 466 76 85) (sP 466 76 91)) (aB _) (tX "\n" 466 94 98) (sP 466 76 98)) (sP 466 57 98))))) (sP 466 7 98)) (.c (.ret (.bool _ _ _ (false) 0 (sP 467 15 20)) (sP 467 8 20))
 .n) .n ⟨466,4,467,20⟩)
 (.c (.for (.bi (fQ _) ⟨⟨"range",qG,qF⟩,by kernel_rfl,by decide +kernel⟩ (bt Z "range" rfl) (.o (iC 2 468 21 22)) (sP 468 15 20) (sP 468 15 23)) (.name ⟨78,qL⟩ (sP 468 8 11)) (.c (.assign ⟨3,qL⟩ (sP 469 8 12) (cL (gG Z) "_law_laid" (.c (lC 75 469 25 29) (.o (cL (ki Z) "_law_bent" (.c (lC 75 469 41 45) (.c (lC 34 469 47 51) (.c (bu (.o (lC 29 469 57 61)) (sP 469 53 56) (sP 469 53 62)) (.o (bu (.o (lC 29 469 68 72)) (sP 469 64 67) (sP 469 64 73)))))) (sP 469 31 40) (sP 469 31 74)))) (sP 469 15 24) (sP 469 15 75)) (sP 469 8 75))
 (.c (.Mo (by decide) (.cmp (.call (jn Z) ⟨"_law_heard",qG,qF⟩ (df Z "_law_heard" 570 rfl) (.replace (.of (lC 3 470 22 26)) (lT "@") (.lit _ _ _ (lT "") 0 (sP 470 40 42)) 0 (sP 470 35 38) (sP 470 22 34) (sP 470 22 43) 64 rfl) (sP 470 11 21) (sP 470 11 44) (by decide)) (dq _) (.bm (lC 3 470 48 52) (ql _) (.o (tX "@" 470 59 62)) (sP 470 48 58) (sP 470 48 63)) (sP 470 11 63)) (.c (.ret (.bool _ _ _ (false) 0 (sP 471 19 24)) (sP 471 12 24))
 .n) .n ⟨470,8,471,24⟩)
 .n)) ⟨468,4,471,24⟩)
 (.c (.ret (.bool _ _ _ (true) 0 (sP 472 11 15)) (sP 472 4 15))
 .n))))))))
theorem OS:(B Z).Ok→FnAt (B Z) 575 mh [83] (vQ Z).py:=nO Z 58 rfl (by kernel_rfl)
end
section
variable (Z:U)
noncomputable def ey (Z:U) (loc:Loc) (H:aa):RL:=((((ab loc 34 H).bind λv H=>gp (aH (B Z)) v H λH=>(((λacc:List Nat=>(Res.ok (AV.str [118,97,114,32]) H).bind λv H=>aS acc v λacc=>((((ab loc 9 H).bind λv H=>(Res.ok [] H).bind (cV v)).bind λvs H=>(jS Z).run vs H).bind fu).bind λv H=>aS acc v λacc=>(Res.ok (AV.str [58,32]) H).bind λv H=>aS acc v λacc=>((((((ab loc 8 H).bind λv H=>(Res.ok [] H).bind (cV v)).bind λvs H=>(lL Z).run vs H).bind aY).bind λt H=>match t with |true=>((ab loc 8 H)) |false=>((((ab loc 8 H).bind λv H=>(Res.ok [] H).bind (cV v)).bind λvs H=>(nk Z).run vs H))).bind fu).bind λv H=>aS acc v λacc=>(Res.ok (AV.str [59]) H).bind λv H=>aS acc v λacc=>d6 acc H) []).bind λv H=>(Res.ok [] H).bind (cV v)).bind λvs H=>(aH (B Z)).run v vs H).bind (nz loc)).bind λfl H=>au fl H nx)
noncomputable def fL (Z:U) (loc:Loc) (H:aa):RL:=((((ab loc 34 H).bind λv H=>gp (aH (B Z)) v H λH=>(((λacc:List Nat=>(Res.ok (AV.str [99,111,110,115,116,114,97,105,110,116,32]) H).bind λv H=>aS acc v λacc=>((((ab loc 10 H).bind λv H=>(Res.ok [] H).bind (cV v)).bind λvs H=>(fR Z).run vs H).bind fu).bind λv H=>aS acc v λacc=>(Res.ok (AV.str [59]) H).bind λv H=>aS acc v λacc=>d6 acc H) []).bind λv H=>(Res.ok [] H).bind (cV v)).bind λvs H=>(aH (B Z)).run v vs H).bind (nz loc)).bind λfl H=>au fl H nx)
noncomputable def fK (Z:U) (loc:Loc) (H:aa):RL:=(((((Res.ok (AV.str [10]) H).bind λv H=>gp (dS (B Z)) v H λH=>((ab loc 34 H).bind λv H=>(Res.ok [] H).bind (cV v)).bind λvs H=>(dS (B Z)).run v vs H).bind λu H=>(Res.ok (AV.str [10]) H).bind λv H=>(aB (B Z)).run u v H).bind (rt loc)).bind λfl H=>au fl H nx)
noncomputable def ew (Z:U) (loc:Loc) (H:aa):RL:=((((ab loc 34 H).bind λv H=>gp (aH (B Z)) v H λH=>(((λacc:List Nat=>(Res.ok (AV.str [111,117,116,112,117,116,32]) H).bind λv H=>aS acc v λacc=>(((((ab loc 35 H).bind λv H=>aD 150 7 v H).bind λv H=>(Res.ok [] H).bind (cV v)).bind λvs H=>(fR Z).run vs H).bind fu).bind λv H=>aS acc v λacc=>(Res.ok (AV.str [59]) H).bind λv H=>aS acc v λacc=>d6 acc H) []).bind λv H=>(Res.ok [] H).bind (cV v)).bind λvs H=>(aH (B Z)).run v vs H).bind (nz loc)).bind λfl H=>au fl H λloc H=>fK Z loc H)
noncomputable def fJ (Z:U) (loc:Loc) (H:aa):RL:=((((ab loc 34 H).bind λv H=>gp (aH (B Z)) v H λH=>((((ab loc 36 H).bind λu H=>(Res.ok AV.none H).bind λv H=>((rI (B Z)).run u v H).bind aY).bind λt H=>match t with |true=>(((λacc:List Nat=>(Res.ok (AV.str [115,111,108,118,101,32]) H).bind λv H=>aS acc v λacc=>((ab loc 15 H).bind fu).bind λv H=>aS acc v λacc=>(Res.ok (AV.str [59]) H).bind λv H=>aS acc v λacc=>d6 acc H) [])) |false=>(((λacc:List Nat=>(Res.ok (AV.str [115,111,108,118,101,32]) H).bind λv H=>aS acc v λacc=>((ab loc 15 H).bind fu).bind λv H=>aS acc v λacc=>(Res.ok (AV.str [32]) H).bind λv H=>aS acc v λacc=>((ab loc 36 H).bind fu).bind λv H=>aS acc v λacc=>(Res.ok (AV.str [59]) H).bind λv H=>aS acc v λacc=>d6 acc H) []))).bind λv H=>(Res.ok [] H).bind (cV v)).bind λvs H=>(aH (B Z)).run v vs H).bind (nz loc)).bind λfl H=>au fl H λloc H=>ew Z loc H)
noncomputable def fI (Z:U) (loc:Loc) (H:aa):RL:=((((ab loc 35 H).bind λv H=>aD 150 6 v H).bind λv H=>lQ [15,36] v loc H).bind λfl H=>au fl H λloc H=>fJ Z loc H)
noncomputable def et (Z:U) (loc:Loc) (H:aa):RL:=(((((ab loc 35 H).bind λv H=>aD 150 5 v H).bind fE).bind λit H=>bK false (λloc v=>some ((10,v)::loc)) (fL Z) it (it.size H+1) 0 loc H).bind λfl H=>au fl H λloc H=>fI Z loc H)
noncomputable def fH (Z:U) (loc:Loc) (H:aa):RL:=(((((ab loc 35 H).bind λv H=>aD 150 4 v H).bind fE).bind λit H=>bK true (lj [8,9]) (ey Z) it (it.size H+1) 0 loc H).bind λfl H=>au fl H λloc H=>et Z loc H)
noncomputable def JH (Z:U) (loc:Loc) (H:aa):RL:=
 ((((Res.ok [] H).bind λvs H=>if vs.length≤aq then Res.ok (AV.ref H.length) (H++[aK.list vs]) else Res.stuck).bind λv H=>Res.ok (av.next,(34,v)::loc) H).bind λfl H=>au fl H λloc H=>fH Z loc H)
noncomputable def cF (Z:U) (loc:Loc) (H:aa):Res Bool:=((((ab loc 2 H).bind λv H=>aD 486 46 v H).bind λv H=>(Res.ok (AV.int 0) H).bind λi H=>cG v i H).bind λu H=>(Res.ok (AV.str [101,110,100]) H).bind λv H=>((dq (B Z)).run u v H).bind aY)
noncomputable def aV (Z:U) (loc:Loc) (H:aa):RL:=((((ab loc 2 H).bind λv H=>cx 486 69 v H λH=>(Res.ok [] H).bind λvs H=>(j0 Z).run (v::vs) H).bind (nz loc)).bind λfl H=>au fl H nx)
noncomputable def nC (Z:U) (loc:Loc) (H:aa):RL:=(((((((jq false (λloc v=>some ((11,v)::loc)) (λloc H=>(((((ab loc 2 H).bind λv H=>aD 486 35 v H).bind λv H=>cx 150 72 v H λH=>((ab loc 11 H).bind λv H=>(Res.ok [] H).bind (cV v)).bind λvs H=>(kN Z).run (v::vs) H).bind λv H=>(Res.ok [] H).bind (cV v)).bind λvs H=>(tq Z).run vs H)) (λloc H=>((((ab loc 10 H).bind λv H=>(Res.ok [] H).bind (cV v)).bind λvs H=>(rl Z).run vs H).bind fE)) [2] loc H).bind λv H=>(Res.ok [] H).bind (cV v)).bind λvs H=>(FP (B Z)).run vs H).bind aY).bind λv H=>Res.ok (!v) H).bind λt H=>match t with |true=>(((((λacc:List Nat=>(((ab loc 10 H).bind λv H=>(Res.ok (AV.int 0) H).bind λi H=>cG v i H).bind fu).bind λv H=>aS acc v λacc=>(Res.ok (AV.str [58,32,97,32,116,114,117,116,104,32,104,97,115,32,116,104,101,32,118,97,108,117,101,115,32,48,32,97,110,100,32,49,32,97,108,111,110,101]) H).bind λv H=>aS acc v λacc=>d6 acc H) []).bind λ_ H=>(ab loc 1 H).bind λv H=>Res.bD v H).bind λfl H=>au fl H nx)) |false=>nx loc H).bind λfl H=>au fl H nx)
noncomputable def bB (Z:U) (loc:Loc) (H:aa):RL:=((((ab loc 2 H).bind λv H=>cx 486 71 v H λH=>((((ab loc 10 H).bind λv H=>((ab loc 14 H).bind λv H=>(Res.ok [] H).bind (cV v)).bind (cV v)).bind λvs H=>(pJ Z).run vs H).bind λv H=>((ab loc 1 H).bind λv H=>(Res.ok [] H).bind (cV v)).bind (cV v)).bind λvs H=>(b0 Z).run (v::vs) H).bind (nz loc)).bind λfl H=>au fl H λloc H=>nC Z loc H)
noncomputable def dm (Z:U) (loc:Loc) (H:aa):RL:=((((ab loc 2 H).bind λv H=>aD 486 35 v H).bind (rt loc)).bind λfl H=>au fl H nx)
noncomputable def bW (Z:U) (loc:Loc) (H:aa):RL:=((((ab loc 2 H).bind λv H=>cx 486 71 v H λH=>((((((ab loc 2 H).bind λv H=>aD 486 35 v H).bind λv H=>aD 150 7 v H).bind λv H=>((ab loc 14 H).bind λv H=>(Res.ok [] H).bind (cV v)).bind (cV v)).bind λvs H=>(jQ Z).run vs H).bind λv H=>(((ab loc 2 H).bind λv H=>aD 486 59 v H).bind λv H=>(Res.ok [] H).bind (cV v)).bind (cV v)).bind λvs H=>(b0 Z).run (v::vs) H).bind (nz loc)).bind λfl H=>au fl H λloc H=>dm Z loc H)
noncomputable def cE (Z:U) (loc:Loc) (H:aa):RL:=((((ab loc 2 H).bind λv H=>cx 486 71 v H λH=>(((((ab loc 36 H).bind λu H=>(Res.ok AV.none H).bind λv H=>((rI (B Z)).run u v H).bind aY).bind λv H=>match v with |true=>(Res.ok true H) |false=>((((((ab loc 36 H).bind λv H=>((ab loc 14 H).bind λv H=>(Res.ok [] H).bind (cV v)).bind (cV v)).bind λvs H=>(hM Z).run vs H).bind aY).bind λv H=>match v with |true=>(Res.ok true H) |false=>((Res.ok false H))))).bind λt H=>match t with |true=>((Res.ok (AV.str []) H)) |false=>((Res.ok (AV.str [116,104,101,32,103,111,97,108,32,105,115,32,110,111,32,118,97,114,105,97,98,108,101]) H))).bind λv H=>(((ab loc 2 H).bind λv H=>aD 486 58 v H).bind λv H=>(Res.ok [] H).bind (cV v)).bind (cV v)).bind λvs H=>(b0 Z).run (v::vs) H).bind (nz loc)).bind λfl H=>au fl H λloc H=>bW Z loc H)
noncomputable def dY (Z:U) (loc:Loc) (H:aa):RL:=((((((ab loc 2 H).bind λv H=>aD 486 35 v H).bind λv H=>aD 150 6 v H).bind λv H=>(Res.ok (AV.int 1) H).bind λi H=>cG v i H).bind λv H=>Res.ok (av.next,(36,v)::loc) H).bind λfl H=>au fl H λloc H=>cE Z loc H)
noncomputable def dk (Z:U) (loc:Loc) (H:aa):RL:=(((((((ab loc 2 H).bind λv H=>aD 486 35 v H).bind λv H=>aD 150 5 v H).bind λv H=>(((ab loc 2 H).bind λv H=>aD 486 57 v H).bind λv H=>(Res.ok [] H).bind (cV v)).bind (cV v)).bind λvs H=>(EN (B Z)).run vs H).bind λit H=>bK true (lj [10,1]) (bB Z) it (it.size H+1) 0 loc H).bind λfl H=>au fl H λloc H=>dY Z loc H)
noncomputable def bw (Z:U) (loc:Loc) (H:aa):RL:=(((((ab loc 2 H).bind λv H=>aD 486 35 v H).bind λv H=>cx 150 70 v H λH=>(Res.ok [] H).bind λvs H=>(rm Z).run (v::vs) H).bind λv H=>Res.ok (av.next,(14,v)::loc) H).bind λfl H=>au fl H λloc H=>dk Z loc H)
noncomputable def jM (Z:U) (loc:Loc) (H:aa):RL:=
 ((bS (cF Z) (aV Z) 4000 loc H).bind λfl H=>au fl H λloc H=>bw Z loc H)
noncomputable def JF (Z:U) (loc:Loc) (H:aa):RL:=
 ((((((ab loc 3 H).bind λv H=>(Res.ok [] H).bind (cV v)).bind λvs H=>madeBy (j2 Z).run 486 vs H).bind λv H=>cx 486 73 v H λH=>(Res.ok [] H).bind λvs H=>(jE Z).run (v::vs) H).bind (rt loc)).bind λfl H=>au fl H nx)
noncomputable def kn (Z:U) (loc:Loc) (H:aa):RL:=
 ((((ab loc 75 H).bind λv H=>(Res.ok (AV.str [97,116]) H).bind λi H=>sT v i H).bind λv H=>Res.ok (av.next,(74,v)::loc) H).bind λfl H=>au fl H λloc H=>((((ab loc 74 H).bind λu H=>(Res.ok (AV.int 1) H).bind λv H=>(aB (B Z)).run u v H).bind λu H=>(ab loc 75 H).bind λv H=>(Res.ok (AV.str [97,116]) H).bind λk H=>(Di v k u H).bind (nz loc)).bind λfl H=>au fl H λloc H=>((((ab loc 74 H).bind λu H=>((((ab loc 75 H).bind λv H=>(Res.ok (AV.str [99,101,108,108,115]) H).bind λi H=>sT v i H).bind λv H=>(Res.ok [] H).bind (cV v)).bind λvs H=>(fm (B Z)).run vs H).bind λv H=>((nc (B Z)).run u v H).bind aY).bind λt H=>match t with |true=>(((((((ab loc 75 H).bind λv H=>(Res.ok (AV.str [99,101,108,108,115]) H).bind λi H=>sT v i H).bind λv H=>(ab loc 74 H).bind λi H=>cG v i H).bind λu H=>(ab loc 76 H).bind λv H=>(m9 (B Z)).run u v H).bind (rt loc)).bind λfl H=>au fl H nx)) |false=>nx loc H).bind λfl H=>au fl H λloc H=>((((((((((Res.ok (AV.int 7) H).bind λu H=>(ab loc 74 H).bind λv H=>(jk (B Z)).run u v H).bind λu H=>(ab loc 74 H).bind λv H=>(jk (B Z)).run u v H).bind λu H=>((Res.ok (AV.int 3) H).bind λu H=>(ab loc 74 H).bind λv H=>(jk (B Z)).run u v H).bind λv H=>(aB (B Z)).run u v H).bind λu H=>((Res.ok (AV.int 4) H).bind λu H=>((((ab loc 75 H).bind λv H=>(Res.ok (AV.str [99,101,108,108,115]) H).bind λi H=>sT v i H).bind λv H=>(Res.ok [] H).bind (cV v)).bind λvs H=>(fm (B Z)).run vs H).bind λv H=>(jk (B Z)).run u v H).bind λv H=>(aB (B Z)).run u v H).bind λu H=>(Res.ok (AV.int 2) H).bind λv H=>(aB (B Z)).run u v H).bind λu H=>(Res.ok (AV.int 89) H).bind λv H=>(m9 (B Z)).run u v H).bind λu H=>(ab loc 76 H).bind λv H=>(m9 (B Z)).run u v H).bind (rt loc)).bind λfl H=>au fl H nx))))
noncomputable def jU (Z:U) (loc:Loc) (H:aa):RL:=((((ab loc 29 H).bind λv H=>gp (aH (B Z)) v H λH=>((((((ab loc 8 H).bind λv H=>((ab loc 9 H).bind λv H=>(Res.ok [] H).bind (cV v)).bind (cV v)).bind λvs H=>if vs.length≤aq then Res.ok (AV.tup vs) H else Res.stuck).bind λv H=>((((((Res.ok (AV.str [118,97,114,32]) H).bind λu H=>(ab loc 10 H).bind λv H=>(aB (B Z)).run u v H).bind λu H=>(Res.ok (AV.str [58,32]) H).bind λv H=>(aB (B Z)).run u v H).bind λu H=>(ab loc 77 H).bind λv H=>(aB (B Z)).run u v H).bind λu H=>(Res.ok (AV.str [59]) H).bind λv H=>(aB (B Z)).run u v H).bind λv H=>(Res.ok [] H).bind (cV v)).bind (cV v)).bind λvs H=>if vs.length≤aq then Res.ok (AV.tup vs) H else Res.stuck).bind λv H=>(Res.ok [] H).bind (cV v)).bind λvs H=>(aH (B Z)).run v vs H).bind (nz loc)).bind λfl H=>au fl H nx)
noncomputable def nT (Z:U) (loc:Loc) (H:aa):RL:=(((((Res.ok [] H).bind λvs H=>(jR Z).run vs H).bind λv H=>(((ab loc 75 H).bind λv H=>((Res.ok (AV.int 5) H).bind λv H=>(Res.ok [] H).bind (cV v)).bind (cV v)).bind λvs H=>(aR Z).run vs H).bind λi H=>cG v i H).bind λv H=>lQ [9,10] v loc H).bind λfl H=>au fl H λloc H=>jU Z loc H)
noncomputable def nS (Z:U) (loc:Loc) (H:aa):RL:=((((ab loc 5 H).bind λv H=>gp (aH (B Z)) v H λH=>((((ab loc 31 H).bind λv H=>((((Res.ok (AV.str [99,111,110,115,116,114,97,105,110,116,32]) H).bind λu H=>(ab loc 10 H).bind λv H=>(aB (B Z)).run u v H).bind λu H=>(Res.ok (AV.str [59]) H).bind λv H=>(aB (B Z)).run u v H).bind λv H=>(Res.ok [] H).bind (cV v)).bind (cV v)).bind λvs H=>if vs.length≤aq then Res.ok (AV.tup vs) H else Res.stuck).bind λv H=>(Res.ok [] H).bind (cV v)).bind λvs H=>(aH (B Z)).run v vs H).bind (nz loc)).bind λfl H=>au fl H nx)
noncomputable def el (Z:U) (loc:Loc) (H:aa):RL:=(((((Res.ok [] H).bind λvs H=>(lX Z).run vs H).bind λv H=>(((ab loc 75 H).bind λv H=>((Res.ok (AV.int 4) H).bind λv H=>(Res.ok [] H).bind (cV v)).bind (cV v)).bind λvs H=>(aR Z).run vs H).bind λi H=>cG v i H).bind λv H=>lQ [31,10] v loc H).bind λfl H=>au fl H λloc H=>nS Z loc H)
noncomputable def g7 (Z:U) (loc:Loc) (H:aa):RL:=(((((ab loc 29 H).bind λv H=>((ab loc 5 H).bind λv H=>((((ab loc 6 H).bind λv H=>((((Res.ok (AV.str [115,111,108,118,101,32]) H).bind λu H=>(ab loc 10 H).bind λv H=>(aB (B Z)).run u v H).bind λu H=>(Res.ok (AV.str [59]) H).bind λv H=>(aB (B Z)).run u v H).bind λv H=>(Res.ok [] H).bind (cV v)).bind (cV v)).bind λvs H=>if vs.length≤aq then Res.ok (AV.tup vs) H else Res.stuck).bind λv H=>((((ab loc 7 H).bind λv H=>((((Res.ok (AV.str [111,117,116,112,117,116,32]) H).bind λu H=>(ab loc 77 H).bind λv H=>(aB (B Z)).run u v H).bind λu H=>(Res.ok (AV.str [59]) H).bind λv H=>(aB (B Z)).run u v H).bind λv H=>(Res.ok [] H).bind (cV v)).bind (cV v)).bind λvs H=>if vs.length≤aq then Res.ok (AV.tup vs) H else Res.stuck).bind λv H=>(Res.ok [] H).bind (cV v)).bind (cV v)).bind (cV v)).bind (cV v)).bind λvs H=>if vs.length≤aq then Res.ok (AV.tup vs) H else Res.stuck).bind (rt loc)).bind λfl H=>au fl H nx)
noncomputable def nR (Z:U) (loc:Loc) (H:aa):RL:=(((((Res.ok [] H).bind λvs H=>(lY Z).run vs H).bind λv H=>(((ab loc 75 H).bind λv H=>((Res.ok (AV.int 4) H).bind λv H=>(Res.ok [] H).bind (cV v)).bind (cV v)).bind λvs H=>(aR Z).run vs H).bind λi H=>cG v i H).bind λv H=>lQ [7,77] v loc H).bind λfl H=>au fl H λloc H=>g7 Z loc H)
noncomputable def nQ (Z:U) (loc:Loc) (H:aa):RL:=(((((Res.ok [] H).bind λvs H=>(l0 Z).run vs H).bind λv H=>(((ab loc 75 H).bind λv H=>((Res.ok (AV.int 3) H).bind λv H=>(Res.ok [] H).bind (cV v)).bind (cV v)).bind λvs H=>(aR Z).run vs H).bind λi H=>cG v i H).bind λv H=>lQ [6,10] v loc H).bind λfl H=>au fl H λloc H=>nR Z loc H)
noncomputable def g6 (Z:U) (loc:Loc) (H:aa):RL:=(((((((ab loc 75 H).bind λv H=>((Res.ok (AV.int 3) H).bind λv H=>(Res.ok [] H).bind (cV v)).bind (cV v)).bind λvs H=>(aR Z).run vs H).bind λv H=>(Res.ok [] H).bind (cV v)).bind λvs H=>(fQ (B Z)).run vs H).bind λit H=>bK false (λloc v=>some ((78,v)::loc)) (el Z) it (it.size H+1) 0 loc H).bind λfl H=>au fl H λloc H=>nQ Z loc H)
noncomputable def nP (Z:U) (loc:Loc) (H:aa):RL:=((((Res.ok [] H).bind λvs H=>if vs.length≤aq then Res.ok (AV.ref H.length) (H++[aK.list vs]) else Res.stuck).bind λv H=>Res.ok (av.next,(5,v)::loc) H).bind λfl H=>au fl H λloc H=>g6 Z loc H)
noncomputable def gH (Z:U) (loc:Loc) (H:aa):RL:=((((((ab loc 75 H).bind λv H=>((Res.ok (AV.int 2) H).bind λv H=>(Res.ok [] H).bind (cV v)).bind (cV v)).bind λvs H=>(aR Z).run vs H).bind λu H=>(Res.ok (AV.int 1) H).bind λv H=>((ba (B Z)).run u v H).bind aY).bind λt H=>match t with |true=>((((((Res.ok [] H).bind λvs H=>(lZ Z).run vs H).bind λv H=>(((ab loc 75 H).bind λv H=>((Res.ok (AV.int 8) H).bind λv H=>(Res.ok [] H).bind (cV v)).bind (cV v)).bind λvs H=>(aR Z).run vs H).bind λi H=>cG v i H).bind λv H=>lQ [8,77] v loc H).bind λfl H=>au fl H λloc H=>nT Z loc H)) |false=>nx loc H).bind λfl H=>au fl H λloc H=>nP Z loc H)
noncomputable def JG (Z:U) (loc:Loc) (H:aa):RL:=
 (((((((((Res.ok (AV.str [120]) H).bind λv H=>((((((Res.ok (AV.int 0) H).bind λv H=>((Res.ok (AV.int 3) H).bind λv H=>(Res.ok [] H).bind (cV v)).bind (cV v)).bind λvs H=>if vs.length≤aq then Res.ok (AV.tup vs) H else Res.stuck).bind λv H=>(Res.ok [] H).bind (cV v)).bind λvs H=>if vs.length≤aq then Res.ok (AV.tup vs) H else Res.stuck).bind λv H=>(Res.ok [] H).bind (cV v)).bind (cV v)).bind λvs H=>if vs.length≤aq then Res.ok (AV.tup vs) H else Res.stuck).bind λv H=>((Res.ok (AV.str [118,97,114,32,48,46,46,51,58,32,120,59]) H).bind λv H=>(Res.ok [] H).bind (cV v)).bind (cV v)).bind λvs H=>if vs.length≤aq then Res.ok (AV.tup vs) H else Res.stuck).bind λv H=>(Res.ok [] H).bind (cV v)).bind λvs H=>if vs.length≤aq then Res.ok (AV.ref H.length) (H++[aK.list vs]) else Res.stuck).bind λv H=>Res.ok (av.next,(29,v)::loc) H).bind λfl H=>au fl H λloc H=>gH Z loc H)
noncomputable def tM (Z:U) (loc:Loc) (H:aa):RL:=
 ((((((Res.ok (AV.str [10]) H).bind λv H=>((Res.ok (AV.str [32,32]) H).bind λv H=>((Res.ok (AV.str [32,37,32,59,32,118,97,114,32,123,10]) H).bind λv H=>((Res.ok (AV.str [13,10,9]) H).bind λv H=>(Res.ok [] H).bind (cV v)).bind (cV v)).bind (cV v)).bind (cV v)).bind λvs H=>if vs.length≤aq then Res.ok (AV.fl vs) H else Res.stuck).bind λv H=>(((ab loc 75 H).bind λv H=>((Res.ok (AV.int 4) H).bind λv H=>(Res.ok [] H).bind (cV v)).bind (cV v)).bind λvs H=>(aR Z).run vs H).bind λi H=>cG v i H).bind λv H=>Res.ok (av.next,(79,v)::loc) H).bind λfl H=>au fl H λloc H=>(((((ab loc 79 H).bind λv H=>gp (dS (B Z)) v H λH=>((ab loc 34 H).bind λv H=>(Res.ok [] H).bind (cV v)).bind λvs H=>(dS (B Z)).run v vs H).bind λu H=>(Res.ok (AV.str [10]) H).bind λv H=>(aB (B Z)).run u v H).bind (rt loc)).bind λfl H=>au fl H nx))
noncomputable def kS (Z:U) (loc:Loc) (H:aa):RL:=((((((ab loc 34 H).bind λv H=>(ab loc 1 H).bind λi H=>A7 v i H).bind λu H=>(((ab loc 16 H).bind λv H=>(Res.ok [] H).bind (cV v)).bind λvs H=>if vs.length≤aq then Res.ok (AV.fl vs) H else Res.stuck).bind λv H=>(aB (B Z)).run u v H).bind λu H=>((ab loc 34 H).bind λv H=>(ab loc 1 H).bind λi H=>HL v i H).bind λv H=>(aB (B Z)).run u v H).bind (rt loc)).bind λfl H=>au fl H nx)
noncomputable def iU (Z:U) (loc:Loc) (H:aa):RL:=(((((ab loc 80 H).bind λu H=>(Res.ok (AV.int 0) H).bind λv H=>((ba (B Z)).run u v H).bind aY).bind λt H=>match t with |true=>((((ab loc 75 H).bind λv H=>(((ab loc 82 H).bind λu H=>(Res.ok (AV.int 1) H).bind λv H=>(aB (B Z)).run u v H).bind λv H=>(Res.ok [] H).bind (cV v)).bind (cV v)).bind λvs H=>(aR Z).run vs H)) |false=>((((ab loc 75 H).bind λv H=>(((((ab loc 34 H).bind λv H=>(Res.ok [] H).bind (cV v)).bind λvs H=>(fm (B Z)).run vs H).bind λu H=>(Res.ok (AV.int 1) H).bind λv H=>(aB (B Z)).run u v H).bind λv H=>(Res.ok [] H).bind (cV v)).bind (cV v)).bind λvs H=>(aR Z).run vs H))).bind λv H=>Res.ok (av.next,(1,v)::loc) H).bind λfl H=>au fl H λloc H=>kS Z loc H)
noncomputable def iT (Z:U) (loc:Loc) (H:aa):RL:=((((ab loc 80 H).bind λu H=>(Res.ok (AV.int 5) H).bind λv H=>((ba (B Z)).run u v H).bind aY).bind λt H=>match t with |true=>(((((ab loc 34 H).bind λu H=>(((ab loc 16 H).bind λv H=>(Res.ok [] H).bind (cV v)).bind λvs H=>if vs.length≤aq then Res.ok (AV.fl vs) H else Res.stuck).bind λv H=>(aB (B Z)).run u v H).bind (rt loc)).bind λfl H=>au fl H nx)) |false=>nx loc H).bind λfl H=>au fl H λloc H=>iU Z loc H)
noncomputable def iS (Z:U) (loc:Loc) (H:aa):RL:=((((ab loc 80 H).bind λu H=>(Res.ok (AV.int 4) H).bind λv H=>((ba (B Z)).run u v H).bind aY).bind λt H=>match t with |true=>((((((ab loc 34 H).bind λv H=>((Res.ok (AV.int 1) H).bind λv H=>wK v H).bind λi H=>A7 v i H).bind λu H=>(((ab loc 16 H).bind λv H=>(Res.ok [] H).bind (cV v)).bind λvs H=>if vs.length≤aq then Res.ok (AV.fl vs) H else Res.stuck).bind λv H=>(aB (B Z)).run u v H).bind (rt loc)).bind λfl H=>au fl H nx)) |false=>nx loc H).bind λfl H=>au fl H λloc H=>iT Z loc H)
noncomputable def iR (Z:U) (loc:Loc) (H:aa):RL:=((((ab loc 80 H).bind λu H=>(Res.ok (AV.int 3) H).bind λv H=>((ba (B Z)).run u v H).bind aY).bind λt H=>match t with |true=>(((((((ab loc 34 H).bind λv H=>((Res.ok (AV.int 2) H).bind λv H=>wK v H).bind λi H=>A7 v i H).bind λu H=>(((ab loc 16 H).bind λv H=>(Res.ok [] H).bind (cV v)).bind λvs H=>if vs.length≤aq then Res.ok (AV.fl vs) H else Res.stuck).bind λv H=>(aB (B Z)).run u v H).bind λu H=>((ab loc 34 H).bind λv H=>((Res.ok (AV.int 1) H).bind λv H=>wK v H).bind λi H=>HL v i H).bind λv H=>(aB (B Z)).run u v H).bind (rt loc)).bind λfl H=>au fl H nx)) |false=>nx loc H).bind λfl H=>au fl H λloc H=>iS Z loc H)
noncomputable def x8 (Z:U) (loc:Loc) (H:aa):RL:=(((((ab loc 81 H).bind λv H=>(((ab loc 75 H).bind λv H=>((((ab loc 81 H).bind λv H=>(Res.ok [] H).bind (cV v)).bind λvs H=>(fm (B Z)).run vs H).bind λv H=>(Res.ok [] H).bind (cV v)).bind (cV v)).bind λvs H=>(aR Z).run vs H).bind λi H=>cG v i H).bind λv H=>EZ 77 (I4 (loc.lookup 14)) v H).bind λv H=>Res.ok (av.next,(16,v)::loc) H).bind λfl H=>au fl H λloc H=>iR Z loc H)
noncomputable def x7 (Z:U) (loc:Loc) (H:aa):RL:=((((((Res.ok bq H).bind λv H=>((Res.ok bh H).bind λv H=>((Res.ok aT H).bind λv H=>((Res.ok aU H).bind λv H=>((Res.ok aW H).bind λv H=>((((Res.ok (AV.str [64,115,111,108,118,101,32,115,97,116,105,115,102,121,59]) H).bind λv H=>((Res.ok (AV.str [64,111,117,116,112,117,116,32,91,93,59]) H).bind λv H=>(Res.ok [] H).bind (cV v)).bind (cV v)).bind λvs H=>if vs.length≤aq then Res.ok (AV.fl vs) H else Res.stuck).bind λv H=>(Res.ok [] H).bind (cV v)).bind (cV v)).bind (cV v)).bind (cV v)).bind (cV v)).bind (cV v)).bind λvs H=>if vs.length≤aq then Res.ok (AV.fl vs) H else Res.stuck).bind λv H=>(ab loc 80 H).bind λi H=>cG v i H).bind λv H=>Res.ok (av.next,(81,v)::loc) H).bind λfl H=>au fl H λloc H=>x8 Z loc H)
noncomputable def tN (Z:U) (loc:Loc) (H:aa):RL:=
 (((((ab loc 75 H).bind λv H=>((Res.ok (AV.int 6) H).bind λv H=>(Res.ok [] H).bind (cV v)).bind (cV v)).bind λvs H=>(aR Z).run vs H).bind λv H=>Res.ok (av.next,(80,v)::loc) H).bind λfl H=>au fl H λloc H=>x7 Z loc H)
noncomputable def rq (Z:U) (loc:Loc) (H:aa):RL:=
 ((pS (((((ab loc 3 H).bind λv H=>(Res.ok [] H).bind (cV v)).bind λvs H=>(cM Z).run vs H).bind (nz loc)).bind λfl H=>au fl H nx)).bind λfl H=>au fl H λloc H=>(((Res.ok AV.none H).bind (rt loc)).bind λfl H=>au fl H nx))
noncomputable def Hr (Z:U) (loc:Loc) (H:aa):RL:=((((((ab loc 3 H).bind λv H=>vE 64 [] v H).bind λv H=>(jn Z).run [v] H).bind λu H=>((ab loc 3 H).bind λv H=>gp (ql (B Z)) v H λH=>((Res.ok (AV.str [64]) H).bind λv H=>(Res.ok [] H).bind (cV v)).bind λvs H=>(ql (B Z)).run v vs H).bind λv H=>((dq (B Z)).run u v H).bind aY).bind λt H=>match t with |true=>((((Res.ok (AV.bool (false)) H).bind (rt loc)).bind λfl H=>au fl H nx)) |false=>nx loc H).bind λfl H=>au fl H nx)
noncomputable def qy (Z:U) (loc:Loc) (H:aa):RL:=(((((ab loc 75 H).bind λv H=>((((ab loc 75 H).bind λv H=>((ab loc 34 H).bind λv H=>((((ab loc 29 H).bind λv H=>(Res.ok [] H).bind (cV v)).bind λvs H=>(fm (B Z)).run vs H).bind λv H=>((((ab loc 29 H).bind λv H=>(Res.ok [] H).bind (cV v)).bind λvs H=>(fm (B Z)).run vs H).bind λv H=>(Res.ok [] H).bind (cV v)).bind (cV v)).bind (cV v)).bind (cV v)).bind λvs H=>(ki Z).run vs H).bind λv H=>(Res.ok [] H).bind (cV v)).bind (cV v)).bind λvs H=>(gG Z).run vs H).bind λv H=>Res.ok (av.next,(3,v)::loc) H).bind λfl H=>au fl H λloc H=>Hr Z loc H)
noncomputable def Hq (Z:U) (loc:Loc) (H:aa):RL:=(((Res.ok (AV.bool (true)) H).bind (rt loc)).bind λfl H=>au fl H nx)
noncomputable def qx (Z:U) (loc:Loc) (H:aa):RL:=(((((Res.ok (AV.int 2) H).bind λv H=>(Res.ok [] H).bind (cV v)).bind λvs H=>(fQ (B Z)).run vs H).bind λit H=>bK false (λloc v=>some ((78,v)::loc)) (qy Z) it (it.size H+1) 0 loc H).bind λfl H=>au fl H λloc H=>Hq Z loc H)
noncomputable def uA (Z:U) (loc:Loc) (H:aa):RL:=((((((ab loc 35 H).bind λv H=>aD 150 6 v H).bind λu H=>((ab loc 6 H).bind λv H=>(Res.ok (AV.int 0) H).bind λi H=>cG v i H).bind λv H=>((dq (B Z)).run u v H).bind aY).bind λv H=>match v with |true=>(Res.ok true H) |false=>(((((ab loc 35 H).bind λv H=>aD 150 7 v H).bind λu H=>((ab loc 7 H).bind λv H=>(Res.ok (AV.int 0) H).bind λi H=>cG v i H).bind λv H=>((dq (B Z)).run u v H).bind aY).bind λv H=>match v with |true=>(Res.ok true H) |false=>((((((ab loc 35 H).bind λv H=>(Res.ok [] H).bind (cV v)).bind λvs H=>(jo Z).run vs H).bind λu H=>(((Res.ok (AV.str [10]) H).bind λv H=>gp (dS (B Z)) v H λH=>((ab loc 34 H).bind λv H=>(Res.ok [] H).bind (cV v)).bind λvs H=>(dS (B Z)).run v vs H).bind λu H=>(Res.ok (AV.str [10]) H).bind λv H=>(aB (B Z)).run u v H).bind λv H=>((dq (B Z)).run u v H).bind aY).bind λv H=>match v with |true=>(Res.ok true H) |false=>((Res.ok false H))))))).bind λt H=>match t with |true=>((((Res.ok (AV.bool (false)) H).bind (rt loc)).bind λfl H=>au fl H nx)) |false=>nx loc H).bind λfl H=>au fl H λloc H=>qx Z loc H)
noncomputable def uz (Z:U) (loc:Loc) (H:aa):RL:=((((((ab loc 35 H).bind λv H=>aD 150 4 v H).bind λu H=>(jq true (lj [31,3]) (λloc H=>(ab loc 31 H)) (λloc H=>((ab loc 29 H).bind fE)) [] loc H).bind λv H=>((dq (B Z)).run u v H).bind aY).bind λv H=>match v with |true=>(Res.ok true H) |false=>(((((ab loc 35 H).bind λv H=>aD 150 5 v H).bind λu H=>(jq true (lj [31,3]) (λloc H=>(ab loc 31 H)) (λloc H=>((ab loc 5 H).bind fE)) [] loc H).bind λv H=>((dq (B Z)).run u v H).bind aY).bind λv H=>match v with |true=>(Res.ok true H) |false=>((Res.ok false H))))).bind λt H=>match t with |true=>((((Res.ok (AV.bool (false)) H).bind (rt loc)).bind λfl H=>au fl H nx)) |false=>nx loc H).bind λfl H=>au fl H λloc H=>uA Z loc H)
noncomputable def uy (Z:U) (loc:Loc) (H:aa):RL:=(((((((ab loc 75 H).bind λv H=>((ab loc 34 H).bind λv H=>(Res.ok [] H).bind (cV v)).bind (cV v)).bind λvs H=>(gG Z).run vs H).bind λv H=>(Res.ok [] H).bind (cV v)).bind λvs H=>(cM Z).run vs H).bind λv H=>Res.ok (av.next,(35,v)::loc) H).bind λfl H=>au fl H λloc H=>uz Z loc H)
noncomputable def zK (Z:U) (loc:Loc) (H:aa):RL:=((((jq true (lj [31,3]) (λloc H=>(ab loc 3 H)) (λloc H=>(((ab loc 29 H).bind λu H=>(ab loc 5 H).bind λv H=>(aB (B Z)).run u v H).bind fE)) [] loc H).bind λu H=>((((ab loc 6 H).bind λv H=>(Res.ok (AV.int 1) H).bind λi H=>cG v i H).bind λv H=>(((ab loc 7 H).bind λv H=>(Res.ok (AV.int 1) H).bind λi H=>cG v i H).bind λv H=>(Res.ok [] H).bind (cV v)).bind (cV v)).bind λvs H=>if vs.length≤aq then Res.ok (AV.fl vs) H else Res.stuck).bind λv H=>(aB (B Z)).run u v H).bind λv H=>Res.ok (av.next,(34,v)::loc) H).bind λfl H=>au fl H λloc H=>uy Z loc H)
noncomputable def zJ (Z:U) (loc:Loc) (H:aa):RL:=(((((ab loc 75 H).bind λv H=>(Res.ok [] H).bind (cV v)).bind λvs H=>(jm Z).run vs H).bind λv H=>lQ [29,5,6,7] v loc H).bind λfl H=>au fl H λloc H=>zK Z loc H)
noncomputable def AK (Z:U) (loc:Loc) (H:aa):RL:=
 (((zu (nq [99,101,108,108,115] ((((ab loc 83 H).bind λv H=>(Res.ok (AV.int 30) H).bind λi H=>A7 v i H).bind λv H=>(Res.ok [] H).bind (cV v)).bind λvs H=>(wO (B Z)).run vs H) λH=>(nq [97,116] (Res.ok (AV.int 0) H) λH=>(Res.ok [] H)))).bind λv H=>Res.ok (av.next,(75,v)::loc) H).bind λfl H=>au fl H λloc H=>zJ Z loc H)
theorem Kn (loc:Loc) (H:aa):(vQ Z).run loc H=AK Z loc H:=by kernel_rfl
end
noncomputable abbrev rY:=List Nat×AV×Nat
noncomputable def lW:Nat→Nat→List Nat→Option (List rY)
 |0,_,_=>none
 |f+1,n,l=>match l.isEmpty with
  |true=>some []
  |false=>match l.dropWhile isWs with
   |[]=>none
   |c::m=>match Nat.beq c 37,fD (c::m) with
    |false,some (k,v,r)=>match (!r.isEmpty||((c::m)==[59]))&&Nat.ble r.length n with
     |true=>(lW f n r).map ((k,v,n - (c::m).length)::·)
     |false=>none
    |_,_=>none
inductive gZ (n:Nat):List Nat→List AV→Prop
 |fin {l}:skip l=[]→gZ n l [.tup [.str [101,110,100],.str [],.int (n:Nat)]]
 |tok {l m k v r ts}:skip l=m→fD m=some (k,v,r)→gZ n r ts→gZ n l (.tup [.str k,v,.int ((n - m.length:Nat):Int)]::ts)
set_option tactic.hygienic true in
theorem gZ.kJ {n:Nat} {l:List Nat} {ts:List AV} (h:gZ n l ts):∀ f,ts.length≤f→Mine.kJ f n l=some ts:=by
 induction h with
 |fin e=>
  intro f hf
  cases f with
  |zero=>simp at hf
  |succ f=>unfold Mine.kJ;rw [e]
 |tok e1 e2 _ ih=>
  intro f hf
  cases f with
  |zero=>simp at hf
  |succ f=>
   rename_i l m k v r ts _
   cases m with
   |nil=>cases e2
   |cons c m=>
    unfold Mine.kJ
    refine sY (e1 ..)▸?_
    dsimp only
    refine sY (e2 ..)▸?_
    dsimp only
    refine sY (ih f (by simpa using hf) ..)▸?_
    rfl
noncomputable def dB (o:Nat) (t:rY):AV:=.tup [.str t.1,t.2.1,.int ((o+t.2.2:Nat):Int)]
theorem dropWhile_append {p:Nat→Bool} {l X:List Nat} (h:l.dropWhile p≠[]):(l++X).dropWhile p=l.dropWhile p++X:=by
 induction l with
 |nil=>exact absurd rfl h
 |cons c l ih=>
  refine sY (List.cons_append ..)▸?_;refine sY (List.dropWhile_cons ..)▸?_;refine sY (List.dropWhile_cons ..)▸?_
  rw [List.dropWhile_cons] at h
  split at h
  ·rename_i q;rw [if_pos q,if_pos q];exact ih h
  ·rename_i q;rw [if_neg q,if_neg q];rfl
theorem takeWhile_append {p:Nat→Bool} {l X:List Nat} (h:l.dropWhile p≠[]):(l++X).takeWhile p=l.takeWhile p:=by
 induction l with
 |nil=>exact absurd rfl h
 |cons c l ih=>
  refine sY (List.cons_append ..)▸?_;refine sY (List.takeWhile_cons ..)▸?_;refine sY (List.takeWhile_cons ..)▸?_
  rw [List.dropWhile_cons] at h
  split at h
  ·rename_i q;rw [if_pos q,if_pos q,ih h]
  ·rename_i q;rw [if_neg q,if_neg q]
theorem lV {X:List Nat}:∀ (n:Nat) {l v r:List Nat},l.length≤n→quot l=some (v,r)→quot (l++X)=some (v,r++X)
 |n,[],v,r,_,h=>nomatch h
 |0,_::_,v,r,h,_=>absurd h (Nat.not_succ_le_zero _)
 |n+1,c::l,v,r,hn,h=>by
  have hn:l.length+1≤n+1:=hn
  by_cases jY:c=34
  ·subst jY
   rw [quot.eq_def] at h
   cases h
   refine sY (List.cons_append ..)▸?_;rewrite [quot.eq_def]
   rfl
  by_cases rj:c=10
  ·subst rj;rw [quot.eq_def] at h;cases h
  by_cases xD:c=92
  ·subst xD
   cases l with
   |nil=>rw [quot.eq_def] at h;cases h
   |cons d l=>
    have hn:l.length+1+1≤n+1:=hn
    obtain ⟨hd,v1,q,rfl⟩:=wy h
    have ih:=lV (X:=X) n (Nat.le_of_succ_le (Nat.le_of_succ_le_succ hn)) q
    show quot (92::d::(l++X))=_
    rcases hd with rfl |rfl |rfl<;>(rw [quot.eq_def];show Option.map _ (quot (l++X))=_;rw [ih];rfl)
  ·rw [mW jY rj xD] at h
   refine sY (List.cons_append ..)▸?_;refine sY (mW jY rj xD ..)▸?_
   cases q:quot l with
   |none=>rw [q] at h;cases h
   |some p=>
    rw [q] at h
    cases h
    refine sY (lV n (Nat.le_of_succ_le_succ hn) q ..)▸?_
    rfl
set_option tactic.hygienic true in
theorem nI {neg:Bool} {m X k:List Nat} {v:AV} {r:List Nat} (h:fB neg m=some (k,v,r)) (hr:r≠[]):fB neg (m++X)=some (k,v,r++X):=by
 have hd:m.dropWhile cg≠[]:=by
  refine qg (gT h) ?_;rintro _ _ _ _ rfl
  exact hr
 unfold fB at h ⊢
 refine sY (takeWhile_append hd ..)▸?_;refine sY (dropWhile_append hd ..)▸?_
 split at h
 ·cases h
 ·rename_i d ds e
  split at h
  ·rename_i hl;cases h;rfl
  ·cases h
theorem vq {c:Nat} {m X k:List Nat} {v:AV} {r:List Nat} (h:fD (c::m)=some (k,v,r)) (hr:r≠[]∨c::m=[59]):fD (c::(m++X))=some (k,v,r++X):=by
 by_cases jY:c=34
 ·subst jY
  have h':(quot m).map (λp=>(([116,101,120,116]:List Nat),AV.str p.1,p.2))=some (k,v,r):=h
  show (quot (m++X)).map (λp=>(([116,101,120,116]:List Nat),AV.str p.1,p.2))=_
  cases q:quot m with
  |none=>rw [q] at h';cases h'
  |some p=>rw [q] at h';cases h';rw [lV m.length (Nat.le_refl _) q];rfl
 by_cases uX:c=45
 ·subst uX
  have h':fB true m=some (k,v,r):=h
  rcases hr with hr |hr
  ·exact nI (X:=X) h' hr
  ·cases hr
 rw [ph jY uX] at h ⊢
 cases hd:cg c with
 |true=>
  rw [hd] at h
  rcases hr with hr |hr
  ·exact nI (X:=X) (m:=c::m) h hr
  ·cases hr;cases hd
 |false=>
 rw [hd] at h
 cases hle:isLet c with
 |true=>
  rw [hle] at h
  cases h
  rcases hr with hr |hr
  ·show some (_,AV.str ((c::m++X).takeWhile pq),(c::m++X).dropWhile pq)=_
   refine sY (takeWhile_append hr ..)▸?_;refine sY (dropWhile_append hr ..)▸?_;rfl
  ·cases hr;cases hle
 |false=>
 rw [hle] at h
 cases hs:sX c with
 |true=>rw [hs] at h;cases h;rfl
 |false=>
  rw [hs] at h
  dsimp only at h ⊢
  split at h
  ·cases h;rfl
  ·cases h
theorem F9 {l:List Nat} {c:Nat} {m:List Nat} (h:l.dropWhile isWs=c::m) (hc:c≠37):skip l=c::m:=by
 unfold skip
 rewrite [hG];refine sY (h ..)▸?_;refine sY (fP hc ..)▸?_;rfl
set_option tactic.hygienic true in
theorem wa {N o n:Nat} {X:List Nat} {us:List AV} (hX:gZ N X us) (hN:N=o+n+X.length) (f:Nat):∀ (l:List Nat) (ts:List rY),lW f n l=some ts→l.length≤n→gZ N (l++X) (ts.map (dB o)++us):=by
 induction f with
 |zero=>exact λ_ _ h _=>nomatch h
 |succ f IH=>
  intro l ts h hn
  unfold lW at h
  cases hl:l.isEmpty with
  |true=>
   rw [hl] at h
   cases h
   refine sY (List.isEmpty_iff.mp hl ..)▸?_
   exact hX
  |false=>
  rw [hl] at h
  dsimp only at h
  cases hw:l.dropWhile isWs with
  |nil=>rw [hw] at h;cases h
  |cons c m=>
  rw [hw] at h
  dsimp only at h
  split at h
  ·rename_i k v r hc ht
   split at h
   ·rename_i hr
    rw [Bool.and_eq_true] at hr
    cases q:lW f n r with
    |none=>rw [q] at h;cases h
    |some Ky=>
     rw [q] at h
     cases h
     have xy:c≠37:=λe=>by subst e;cases hc
     have xg:r≠[]∨c::m=[59]:=by
      rcases Bool.or_eq_true_iff.mp hr.1 with hr |hr
      ·left;rintro rfl;cases hr
      ·right;simpa using hr
     have NR:(c::m).length≤l.length:=by rw [← hw];exact dg l
     have ih:=IH r Ky q (Nat.le_of_ble_eq_true hr.2)
     have t:=gZ.tok (n:=N) (l:=l++X) (F9 (by rw [dropWhile_append (by rw [hw];simp),hw];rfl) xy) (vq (X:=X) ht xg) ih
     have e:N - (c::m++X).length=o+(n - (c::m).length):=by
      rw [List.length_append];exact MP hN (Nat.le_trans NR hn)
     have e':N - (c::(m++X)).length=o+(n - (c::m).length):=e
     rw [e'] at t
     exact t
   ·cases h
  ·cases h
theorem A1 {N:Nat} {l l':List Nat} {us:List AV} (h:skip l=skip l') (T:gZ N l us):gZ N l' us:=by
 cases T with
 |fin e=>exact .fin (h▸e)
 |tok e1 e2 e3=>exact .tok (h▸e1) e2 e3
theorem qc {s X:List Nat} (h:s.dropWhile isWs=[]):skip (s++X)=skip X:=by
 have e:(s++X).dropWhile isWs=X.dropWhile isWs:=by
  induction s with
  |nil=>rfl
  |cons c s ih=>
   rw [List.dropWhile_cons] at h
   split at h
   ·rename_i q;rw [List.cons_append,List.dropWhile_cons,if_pos q];exact ih h
   ·cases h
 unfold skip
 rewrite [hG,hG];refine sY (e ..)▸?_
 have hd:=dg (p:=isWs) X
 generalize X.dropWhile isWs=q at hd
 cases q with
 |nil=>rfl
 |cons c q=>
  have hd:q.length+1≤X.length:=hd
  by_cases hc:c=37
  ·subst hc
   have h2:=dg (p:=λc=>!Nat.beq c 10) q
   show gE (s++X).length _=gE X.length _
   have p3:X.length - 1 < X.length:=Nat.sub_lt (Nat.lt_of_lt_of_le (Nat.succ_pos _) hd) Nat.one_pos
   exact j7 (X.length - 1) _ _ _ (Nat.le_sub_of_add_le (Nat.le_trans (Nat.succ_le_succ h2) hd)) (by rw [List.length_append];exact Nat.lt_of_lt_of_le p3 (Nat.le_add_left _ _)) p3
  ·refine sY (fP hc ..)▸?_;refine sY (fP hc ..)▸?_;rfl
noncomputable def cC:List (List Nat):=[[10],[32,32],[32,37,32,59,32,118,97,114,32,123,10],[13,10,9]]
theorem Bb {s X:List Nat} (hs:s∈cC):skip (s++X)=skip X:=by
 unfold cC at hs
 simp only [List.mem_cons,List.not_mem_nil,or_false] at hs
 rcases hs with rfl |rfl |rfl |rfl
 ·exact qc rfl
 ·exact qc rfl
 ·have h1:skip ([32,37,32,59,32,118,97,114,32,123,10]++X)=gE (X.length+11) (10::X):=rfl
  refine sY (h1 ..)▸?_;rewrite [j7 (X.length+1) (10::X) _ (X.length+2) (by simp) (Nat.add_lt_add_left (by decide) _) (Nat.le_refl _)]
  exact qc (s:=[10]) rfl
 ·exact qc rfl
noncomputable def vC (sl:Nat):Nat→List (List Nat×List rY)→List AV
 |o,[]=>[]
 |o,[x]=>x.2.map (dB o)++[.tup [.str [101,110,100],.str [],.int ((o+x.1.length+1:Nat):Int)]]
 |o,x::r=>x.2.map (dB o)++vC sl (o+x.1.length+sl) r
theorem uB {s:List Nat} (hs:s∈cC):∀ (rs:List (List Nat×List rY)) (o N:Nat),rs≠[]→(∀ x∈rs,lW 60 x.1.length x.1=some x.2)→N=o+(cy s (rs.map Prod.fst)++[10]).length→gZ N (cy s (rs.map Prod.fst)++[10]) (vC s.length o rs)
 |[],_,_,h,_,_=>absurd rfl h
 |[x],o,N,_,hx,hN=>by
  have hN:N=o+(x.1++[10]).length:=hN
  have T:gZ N [10] [.tup [.str [101,110,100],.str [],.int (N:Nat)]]:=.fin rfl
  have:=wa T (o:=o) (n:=x.1.length) (by rw [hN,List.length_append];exact (Nat.add_assoc _ _ _).symm) 60 x.1 x.2 (hx x (.head _)) (Nat.le_refl _)
  rw [show N=o+x.1.length+1 by rw [hN,List.length_append];rfl] at this ⊢
  exact this
 |x::y::r,o,N,_,hx,hN=>by
  have e:cy s ((x::y::r).map Prod.fst)++[10]=x.1++(s++(cy s ((y::r).map Prod.fst)++[10])):=by
   show x.1++s++cy s ((y::r).map Prod.fst)++[10]=_
   simp
  rw [e] at hN ⊢
  have Lx:N=o+(x.1.length+(s.length+(cy s ((y::r).map Prod.fst)++[10]).length)):=by rw [hN,List.length_append,List.length_append]
  have ih:=uB hs (y::r) (o+x.1.length+s.length) N (by simp) (λz hz=>hx z (.tail _ hz)) (Lx.trans (by rw [← Nat.add_assoc,← Nat.add_assoc]))
  exact wa (A1 (Bb hs).symm ih) (o:=o) (n:=x.1.length) (by rw [List.length_append,Lx,← Nat.add_assoc]) 60 x.1 x.2 (hx x (.head _)) (Nat.le_refl _)
noncomputable def cd (s:String):List Nat:=s.toList.map Char.toNat
noncomputable def wq (l:List (Int×Int)):AV:=.tup (l.map λp=>.tup [.int p.1,.int p.2])
noncomputable def pe:List (String×String):=[("X1","X1"),("b","b"),("Bc_2","Bc_2"),("_Q","_Q"),("a b","\"a b\""),("","\"\""),("1x","\"1x\""),("q\"r","\"q\\\"r\"")]
noncomputable def tA:List (List (Int×Int)×String):=[([(0,1)],"0..1"),([],"{}"),([(0,0),(2,5)],"{0..0, 2..5}"),([(-7,-2)],"-7..-2"),([(-3,-3),(0,9)],"{-3..-3, 0..9}")]
noncomputable abbrev aA:=AV×List Nat
noncomputable def vV (n:String×String) (d:List (Int×Int)×String):aA:=(.tup [.str (cd n.1),wq d.1],cd "var "++cd d.2++cd ": "++cd n.2++cd ";")
noncomputable def dv:List aA:=pe.flatMap λn=>tA.map λd=>vV n d
noncomputable def ay:aA:=(.tup [.str (cd "x"),wq [(0,3)]],cd "var 0..3: x;")
noncomputable def eR (v:AV) (s:String):aA:=(v,cd "constraint "++cd s++cd ";")
noncomputable def bU:List aA:=[eR (.tup [.str (cd "linear_le"),.tup [.int 1],.tup [.int 0],.int 4]) "linear_le([1], [0], 4)",eR (.tup [.str (cd "all_different"),.tup [.int 0],.str (cd "values")]) "all_different([0], \"values\")",
 eR (.tup [.str (cd "circuit"),.tup []]) "circuit([])",eR (.tup [.str (cd "table"),.tup [.int 0],.tup [.tup [.int 1],.tup [.int 3]]]) "table([0], [[1], [3]])"]
noncomputable def mB (v:AV) (s:String):aA:=(v,cd "solve "++cd s++cd ";")
noncomputable def cj:List aA:=[mB (.tup [.str (cd "satisfy"),.none]) "satisfy",mB (.tup [.str (cd "minimize"),.int 0]) "minimize 0",mB (.tup [.str (cd "maximize"),.int 0]) "maximize 0"]
noncomputable def jb (v:AV) (s:String):aA:=(v,cd "output "++cd s++cd ";")
noncomputable def cY:List aA:=[jb (.tup []) "[]",jb (.tup [.tup [.str (cd "int"),.int 0]]) "[int(0)]",jb (.tup [.tup [.str (cd "text"),.str (cd "y")],.tup [.str (cd "list"),.tup [.tup [.str (cd "bool"),.int 0]]]]) "[text(\"y\"), list([bool(0)])]",
 jb (.tup [.tup [.str (cd "if"),.int 0,.tup [.tup [.str (cd "int"),.int 0]],.tup []]]) "[if(0, [int(0)], [])]"]
noncomputable def a7 (row:List Nat):List rY:=(lW 60 row.length row).getD []
noncomputable def mK (o:Nat):List rY→AV
 |t::_=>dB o t
 |[]=>.none
def All {α:Type} (P:α→Prop):List α→Prop
 |[]=>True
 |a::l=>P a∧All P l
theorem cI {α β:Type} {P:α→Prop} {F G:α→β}:∀ {l:List α},l.map F=l.map G→(∀ x,F x=G x→P x)→All P l
 |[],_,_=>trivial
 |a::_,h,k=>⟨k a (List.cons.inj h).1,cI (List.cons.inj h).2 k⟩
theorem All.mem {α:Type} {P:α→Prop}:∀ {l:List α},All P l→∀ a∈l,P a
 |_::_,h,a,m=>by
  rcases List.mem_cons.mp m with rfl |m
  ·exact h.1
  ·exact All.mem h.2 a m
noncomputable abbrev stH (p0 p1 p2:aK) (ah:AV) (ts:List AV) (vs tl sp:List AV) (goal shown:AV) (gs ss:Int):aa:=
 [p0,p1,p2,.inst 486 [(45,.ref 4),(46,ah),(35,.ref 5),(57,.ref 8),(58,.int gs),(59,.int ss)],.scan 325 ts,.inst 150 [(4,.ref 6),(5,.ref 7),(6,goal),(7,shown)],.list vs,.list tl,.list sp]
noncomputable abbrev L0:Loc:=[(2,.ref 3)]
section
variable (Z:U)
theorem F5:All (λx:aA=>∀ (o:Nat) (p0 p1 p2:aK) (t v0:AV) (r tl sp:List AV) (goal shown:AV) (gs ss:Int),
  aV Z L0 (stH p0 p1 p2 (mK o (a7 x.2)) ((a7 x.2).tail.map (dB o)++t::r) [v0] tl sp goal shown gs ss)=.ok (.next,L0) (stH p0 p1 p2 t r [v0,x.1] tl sp goal shown gs ss)) dv:=by
 refine cI (F:=λx o p0 p1 p2 t v0 r tl sp goal shown gs ss=>aV Z L0 (stH p0 p1 p2 (mK o (a7 x.2)) ((a7 x.2).tail.map (dB o)++t::r) [v0] tl sp goal shown gs ss))
  (G:=λx o p0 p1 p2 t v0 r tl sp goal shown gs ss=>.ok (.next,L0) (stH p0 p1 p2 t r [v0,x.1] tl sp goal shown gs ss)) (by kernel_rfl) λx e o p0 p1 p2 t v0 r tl sp goal shown gs ss=>congrArg (λf=>f o p0 p1 p2 t v0 r tl sp goal shown gs ss) e
end
noncomputable def ez (many:Nat):List (Option AV):=[some (.tup [.str (cd "linear_le"),.tup [.bool true],.tup [.int (0)],.int (1)]),
 some (.tup [.str (cd "linear_le"),.tup [.int (1)],.tup [.int (many:Nat)],.int (1)]),
 some (.tup [.str (cd "linear_le"),.tup [.int (1)],.tup [.int (-1)],.int (1)]),
 some (.tup [.str (cd "linear_le"),.tup [.int (1),.int (1)],.tup [.int (0)],.int (1)]),
 some (.tup [.str (cd "linear_le"),.tup [.int (1)],.tup [.int (0)],.none]),
 some (.tup [.str (cd "table"),.tup [.int (0)],.tup [.tup [.bool false]]]),
 some (.tup [.str (cd "table"),.tup [.int (0)],.tup [.tup [.int (1),.int (2)]]]),
 some (.tup [.str (cd "foo"),.int (1)]),
 none,
 some (.tup [.str (cd "max"),.tup [],.int (0)]),
 some (.tup [.str (cd "clause"),.tup [.int (0)],.tup []]),
 some (.tup [.str (cd "times"),.int (0),.int (0)]),
 some (.int (3)),
 some (.tup [.str (cd "reif"),.int (0),.int (5)]),
 some (.tup [.str (cd "all_different"),.tup [.int (0)],.str (cd "well")]),
 some (.tup []),
 none,
 some (.tup [.str (cd "circuit")])]
noncomputable def eB (many:Nat):List (Option AV):=[some (.tup [.str (cd "minimize"),.int (many:Nat)]),
 some (.tup [.str (cd "maximize"),.int (many:Nat)]),
 some (.tup [.str (cd "minimize"),.int (-1)]),
 none,
 none,
 none,
 none,
 none,
 none,
 none,
 none]
noncomputable def eS (many:Nat):List (Option AV):=[some (.int (3)),
 some (.tup [.int (3)]),
 some (.tup [.tup [.str (cd "nosuch"),.int (1)]]),
 some (.tup [.tup [.str (cd "text"),.int (3)]]),
 some (.tup [.tup [.str (cd "int"),.int (0),.int (1)]]),
 some (.tup [.tup [.str (cd "list"),.int (3)]]),
 some (.tup [.tup [.str (cd "int"),.int (many:Nat)]]),
 some (.tup [.tup [.str (cd "bool"),.int (many:Nat)]]),
 some (.tup [.tup [.str (cd "list"),.tup [.tup [.str (cd "bool"),.int (many:Nat)]]]]),
 some (.tup [.tup [.str (cd "if"),.int (many:Nat),.tup [],.tup []]]),
 some (.tup [.tup [.str (cd "if"),.int (0),.tup [.tup [.str (cd "int"),.int (many:Nat)]],.tup []]]),
 some (.tup [.tup [.str (cd "if"),.int (0),.tup [],.tup [.tup [.str (cd "bool"),.int (many:Nat)]]]]),
 some (.tup [.tup [.str (cd "if"),.int (0),.tup [.tup [.str (cd "text"),.str (cd "y")],.tup [.str (cd "int"),.int (many:Nat)]],.tup []]]),
 some (.tup [.tup [.str (cd "text"),.str (cd "y"),.str (cd "z")]]),
 some (.tup [.tup [.str (cd "if"),.int (0),.tup []]]),
 some (.tup [.tup [.str (cd "if"),.int (0),.tup [],.int (3)]]),
 some (.tup [.tup []]),
 some (.tup [.tup [.str (cd "int"),.bool true]]),
 some (.tup [.tup [.str (cd "int"),.int (-1)]]),
 some (.none),
 some (.tup [.str (cd "text"),.str (cd "y")]),
 none]
noncomputable def bc:AV→List (List Nat)
 |.fl l=>l.map λv=>match v with |.str s=>s |_=>[]
 |_=>[]
noncomputable def aN (many:Nat) (r:List Nat):List Nat:=bT 77 (ek many) r
noncomputable def clean (r:List Nat):List Nat:=bT 64 [] r
noncomputable def d9 (many:Nat):List (Option AV)→List (List Nat)→List aA
 |some d::D,r::R=>(d,clean (aN many r))::d9 many D R
 |none::D,_::R=>d9 many D R
 |_,_=>[]
noncomputable def eI (many:Nat):List (Option AV)→List (List Nat)→List (Nat×List Nat)
 |none::D,r::R=>((bz 64 (aN many r)).getD 0,clean (aN many r))::eI many D R
 |some _::D,_::R=>eI many D R
 |_,_=>[]
noncomputable def gy:List (List Nat):=[cd "@solve satisfy;",cd "@output [];"]
noncomputable def gk {α:Type}:List α→List (Option AV):=λl=>l.map λ_=>none
noncomputable def bO {α:Type}:Res α→Option AV
 |.bD x _=>some x
 |_=>none
section
variable (Z:U)
theorem L4 (o:Nat) (p0 p1 p2:aK) (t:AV) (r tl sp:List AV) (goal shown:AV) (gs ss:Int) :
  aV Z L0 (stH p0 p1 p2 (mK o (a7 ay.2)) ((a7 ay.2).tail.map (dB o)++t::r) [] tl sp goal shown gs ss)=.ok (.next,L0) (stH p0 p1 p2 t r [ay.1] tl sp goal shown gs ss):=by kernel_rfl
abbrev qu (x:aA):Prop:=∀ (o:Nat) (p0 p1 p2:aK) (t:AV) (r vs:List AV) (goal shown:AV) (gs ss:Int),
  aV Z L0 (stH p0 p1 p2 (mK o (a7 x.2)) ((a7 x.2).tail.map (dB o)++t::r) vs [] [] goal shown gs ss)=.ok (.next,L0) (stH p0 p1 p2 t r vs [x.1] [.int ((o+11:Nat):Int)] goal shown gs ss)
abbrev qt (x:aA):Prop:=∀ (o:Nat) (p0 p1 p2:aK) (t t0 s0:AV) (r vs:List AV) (goal shown:AV) (gs ss:Int),
  aV Z L0 (stH p0 p1 p2 (mK o (a7 x.2)) ((a7 x.2).tail.map (dB o)++t::r) vs [t0] [s0] goal shown gs ss)=.ok (.next,L0) (stH p0 p1 p2 t r vs [t0,x.1] [s0,.int ((o+11:Nat):Int)] goal shown gs ss)
abbrev qr (x:aA):Prop:=∀ (o:Nat) (p0 p1 p2:aK) (t t0 s0 t1 s1:AV) (r vs:List AV) (goal shown:AV) (gs ss:Int),
  aV Z L0 (stH p0 p1 p2 (mK o (a7 x.2)) ((a7 x.2).tail.map (dB o)++t::r) vs [t0,t1] [s0,s1] goal shown gs ss)=.ok (.next,L0) (stH p0 p1 p2 t r vs [t0,t1,x.1] [s0,s1,.int ((o+11:Nat):Int)] goal shown gs ss)
abbrev tP (x:aA):Prop:=∀ (o:Nat) (p0 p1 p2:aK) (t:AV) (r vs tl sp:List AV) (goal shown:AV) (ss:Int),
  aV Z L0 (stH p0 p1 p2 (mK o (a7 x.2)) ((a7 x.2).tail.map (dB o)++t::r) vs tl sp goal shown (-1) ss)=.ok (.next,L0) (stH p0 p1 p2 t r vs tl sp x.1 shown ((o+6:Nat):Int) ss)
abbrev qw (x:aA):Prop:=∀ (o:Nat) (p0 p1 p2:aK) (t:AV) (r vs tl sp:List AV) (goal shown:AV) (gs:Int),
  aV Z L0 (stH p0 p1 p2 (mK o (a7 x.2)) ((a7 x.2).tail.map (dB o)++t::r) vs tl sp goal shown gs (-1))=.ok (.next,L0) (stH p0 p1 p2 t r vs tl sp goal x.1 gs ((o+7:Nat):Int))
noncomputable abbrev tL (vs tl sp:List AV) (gs ss:Int) (x:aA) (o:Nat) (p0 p1 p2:aK) (t:AV) (r:List AV) (goal shown:AV):Res (av×Loc):=aV Z L0 (stH p0 p1 p2 (mK o (a7 x.2)) ((a7 x.2).tail.map (dB o)++t::r) vs tl sp goal shown gs ss)
noncomputable abbrev tR (vs tl sp:List AV) (gs ss:Int) (p0 p1 p2:aK) (t:AV) (r:List AV) (goal shown:AV):Res (av×Loc):=.ok (.next,L0) (stH p0 p1 p2 t r vs tl sp goal shown gs ss)
noncomputable abbrev F0 (x:aA):=λo p0 p1 p2 t r vs goal shown gs ss=>tL Z vs [] [] gs ss x o p0 p1 p2 t r goal shown
noncomputable abbrev G0 (x:aA):=λ(o:Nat) p0 p1 p2 t r vs goal shown gs ss=>tR vs [x.1] [.int ((o+11:Nat):Int)] gs ss p0 p1 p2 t r goal shown
noncomputable abbrev F1 (x:aA):=λo p0 p1 p2 t t0 s0 r vs goal shown gs ss=>tL Z vs [t0] [s0] gs ss x o p0 p1 p2 t r goal shown
noncomputable abbrev G1 (x:aA):=λ(o:Nat) p0 p1 p2 t t0 s0 r vs goal shown gs ss=>tR vs [t0,x.1] [s0,.int ((o+11:Nat):Int)] gs ss p0 p1 p2 t r goal shown
noncomputable abbrev F2 (x:aA):=λo p0 p1 p2 t t0 s0 t1 s1 r vs goal shown gs ss=>tL Z vs [t0,t1] [s0,s1] gs ss x o p0 p1 p2 t r goal shown
noncomputable abbrev G2 (x:aA):=λ(o:Nat) p0 p1 p2 t t0 s0 t1 s1 r vs goal shown gs ss=>tR vs [t0,t1,x.1] [s0,s1,.int ((o+11:Nat):Int)] gs ss p0 p1 p2 t r goal shown
noncomputable abbrev Fg (x:aA):=λo p0 p1 p2 t r vs tl sp goal shown ss=>tL Z vs tl sp (-1) ss x o p0 p1 p2 t r goal shown
noncomputable abbrev Gg (x:aA):=λ(o:Nat) p0 p1 p2 t r vs tl sp (_:AV) shown ss=>tR vs tl sp ((o+6:Nat):Int) ss p0 p1 p2 t r x.1 shown
noncomputable abbrev Fs (x:aA):=λo p0 p1 p2 t r vs tl sp goal shown gs=>tL Z vs tl sp gs (-1) x o p0 p1 p2 t r goal shown
noncomputable abbrev Gs (x:aA):=λ(o:Nat) p0 p1 p2 t r vs tl sp goal (_:AV) gs=>tR vs tl sp gs ((o+7:Nat):Int) p0 p1 p2 t r goal x.1
variable {Z} in
theorem of0 {x:aA} (e:F0 Z x=G0 x):qu Z x:=λo p0 p1 p2 t r vs goal shown gs ss=>congrArg (λf=>f o p0 p1 p2 t r vs goal shown gs ss) e
variable {Z} in
theorem KP {x:aA} (e:F1 Z x=G1 x):qt Z x:=λo p0 p1 p2 t t0 s0 r vs goal shown gs ss=>congrArg (λf=>f o p0 p1 p2 t t0 s0 r vs goal shown gs ss) e
variable {Z} in
theorem of2 {x:aA} (e:F2 Z x=G2 x):qr Z x:=λo p0 p1 p2 t t0 s0 t1 s1 r vs goal shown gs ss=>congrArg (λf=>f o p0 p1 p2 t t0 s0 t1 s1 r vs goal shown gs ss) e
variable {Z} in
theorem KO {x:aA} (e:Fg Z x=Gg x):tP Z x:=λo p0 p1 p2 t r vs tl sp goal shown ss=>congrArg (λf=>f o p0 p1 p2 t r vs tl sp goal shown ss) e
variable {Z} in
theorem KN {x:aA} (e:Fs Z x=Gs x):qw Z x:=λo p0 p1 p2 t r vs tl sp goal shown gs=>congrArg (λf=>f o p0 p1 p2 t r vs tl sp goal shown gs) e
theorem yI:All (λx=>qu Z x∧qt Z x) bU:=
 cI (F:=λx=>(F0 Z x,F1 Z x)) (G:=λx=>(G0 x,G1 x)) (by kernel_rfl) λ_ e=>⟨of0 (congrArg (·.1) e),KP (congrArg (·.2) e)⟩
theorem C6:All (qr Z) bU:=cI (F:=F2 Z) (G:=G2) (by kernel_rfl) λ_=>of2
theorem GN:All (tP Z) cj:=cI (F:=Fg Z) (G:=Gg) (by kernel_rfl) λ_=>KO
theorem De:All (qw Z) cY:=cI (F:=Fs Z) (G:=Gs) (by kernel_rfl) λ_=>KN
end
section
variable (Z:U)
theorem C7 (many:Nat) (h:many=1∨many=2):All (λx=>qu Z x∧qt Z x∧qr Z x) (d9 many (ez many) (bc aT)):=
 cI (F:=λx=>(F0 Z x,F1 Z x,F2 Z x)) (G:=λx=>(G0 x,G1 x,G2 x)) (by rcases h with rfl |rfl<;>kernel_rfl) λ_ e=>⟨of0 (congrArg (·.1) e),KP (congrArg (·.2.1) e),of2 (congrArg (·.2.2) e)⟩
theorem Ei (many:Nat) (h:many=1∨many=2):All (tP Z) (d9 many (eB many) (bc aU)):=cI (F:=Fg Z) (G:=Gg) (by rcases h with rfl |rfl<;>kernel_rfl) λ_=>KO
theorem Bg (many:Nat) (h:many=1∨many=2):All (qw Z) (d9 many (eS many) (bc aW)):=cI (F:=Fs Z) (G:=Gs) (by rcases h with rfl |rfl<;>kernel_rfl) λ_=>KN
end
section
variable (Z:U)
abbrev Ref (x:Nat×List Nat) (vs tl sp:List AV) (gs ss:Int):Prop:=∀ (o:Nat) (p0 p1 p2:aK) (k s:List Nat) (i:Int) (r:List AV) (goal shown:AV),
  bO (aV Z L0 (stH p0 p1 p2 (mK o (a7 x.2)) ((a7 x.2).tail.map (dB o)++.tup [.str k,.str s,.int i]::r) vs tl sp goal shown gs ss))=some (.int ((o+x.1:Nat):Int))
noncomputable abbrev rL (x:Nat×List Nat) (vs tl sp:List AV) (gs ss:Int):=λ(o:Nat) (p0 p1 p2:aK) (k s:List Nat) (i:Int) (r:List AV) (goal shown:AV)=>
  bO (aV Z L0 (stH p0 p1 p2 (mK o (a7 x.2)) ((a7 x.2).tail.map (dB o)++.tup [.str k,.str s,.int i]::r) vs tl sp goal shown gs ss))
noncomputable abbrev rR (x:Nat×List Nat):=λ(o:Nat) (_ _ _:aK) (_ _:List Nat) (_:Int) (_:List AV) (_ _:AV)=>some (AV.int ((o+x.1:Nat):Int))
variable {Z} in
theorem rd {x:Nat×List Nat} {vs tl sp:List AV} {gs ss:Int} (e:rL Z x vs tl sp gs ss=rR x):Ref Z x vs tl sp gs ss:=λo p0 p1 p2 k s i r goal shown=>congrArg (λf=>f o p0 p1 p2 k s i r goal shown) e
theorem CU:All (λx=>(∀ tl sp gs ss,Ref Z x [] tl sp gs ss)∧(∀ v0 tl sp gs ss,Ref Z x [v0] tl sp gs ss)∧∀ v0 v1 tl sp gs ss,Ref Z x [v0,v1] tl sp gs ss) (eI 0 (gk (bc bq)) (bc bq)):=
 cI (F:=λx v0 v1 tl sp gs ss=>(rL Z x [] tl sp gs ss,rL Z x [v0] tl sp gs ss,rL Z x [v0,v1] tl sp gs ss)) (G:=λx _ _ _ _ _ _=>(rR x,rR x,rR x)) (by kernel_rfl) λx e=>
  ⟨λtl sp gs ss=>rd (congrArg (λf=>(f .none .none tl sp gs ss).1) e),λv0 tl sp gs ss=>rd (congrArg (λf=>(f v0 .none tl sp gs ss).2.1) e),λv0 v1 tl sp gs ss=>rd (congrArg (λf=>(f v0 v1 tl sp gs ss).2.2) e)⟩
theorem Cg:All (λx=>∀ vs tl sp gs ss,Ref Z x vs tl sp gs ss) (eI 0 (gk (bc bh)) (bc bh)):=
 cI (F:=λx vs tl sp gs ss=>rL Z x vs tl sp gs ss) (G:=λx _ _ _ _ _=>rR x) (by kernel_rfl) λx e vs tl sp gs ss=>rd (congrArg (λf=>f vs tl sp gs ss) e)
theorem C8:All (λx=>(∀ vs gs ss,Ref Z x vs [] [] gs ss)∧(∀ t0 s0 vs gs ss,Ref Z x vs [t0] [s0] gs ss)∧∀ t0 s0 t1 s1 vs gs ss,Ref Z x vs [t0,t1] [s0,s1] gs ss) (eI 0 (ez 0) (bc aT)):=
 cI (F:=λx t0 s0 t1 s1 vs gs ss=>(rL Z x vs [] [] gs ss,rL Z x vs [t0] [s0] gs ss,rL Z x vs [t0,t1] [s0,s1] gs ss)) (G:=λx _ _ _ _ _ _ _=>(rR x,rR x,rR x)) (by kernel_rfl) λx e=>
  ⟨λvs gs ss=>rd (congrArg (λf=>(f .none .none .none .none vs gs ss).1) e),λt0 s0 vs gs ss=>rd (congrArg (λf=>(f t0 s0 .none .none vs gs ss).2.1) e),λt0 s0 t1 s1 vs gs ss=>rd (congrArg (λf=>(f t0 s0 t1 s1 vs gs ss).2.2) e)⟩
theorem Ej:All (λx=>∀ vs tl sp ss,Ref Z x vs tl sp (-1) ss) (eI 0 (eB 0) (bc aU)):=
 cI (F:=λx vs tl sp ss=>rL Z x vs tl sp (-1) ss) (G:=λx _ _ _ _=>rR x) (by kernel_rfl) λx e vs tl sp ss=>rd (congrArg (λf=>f vs tl sp ss) e)
theorem Bh:All (λx=>∀ vs tl sp gs,Ref Z x vs tl sp gs (-1)) (eI 0 (eS 0) (bc aW)):=
 cI (F:=λx vs tl sp gs=>rL Z x vs tl sp gs (-1)) (G:=λx _ _ _ _=>rR x) (by kernel_rfl) λx e vs tl sp gs=>rd (congrArg (λf=>f vs tl sp gs) e)
theorem Cz:All (λx=>∀ vs tl sp (g s:Nat),Ref Z x vs tl sp (g:Int) (s:Int)) (eI 0 (gk gy) gy):=
 cI (F:=λx vs tl sp (g s:Nat)=>rL Z x vs tl sp (g:Int) (s:Int)) (G:=λx _ _ _ _ _=>rR x) (by kernel_rfl) λx e vs tl sp g s=>rd (congrArg (λf=>f vs tl sp g s) e)
end
theorem cA {tup:Bool} {tg:Loc→AV→Option Loc} {body:Loc→aa→Res (av×Loc)} {it:It} {f k:Nat} {loc loc1 cS:Loc} {H H':aa} {v:AV} (hw:(it.within k&&(!it.d8||tup))=true) (hn:it.next k H=some (some v)) (ht:tg loc v=some loc1) (hb:body loc1 H=.ok (.next,cS) H') :
  bK tup tg body it (f+1) k loc H=bK tup tg body it f (k+1) cS H':=by
 show (match it.within k&&(!it.d8||tup),it.next k H with
  |true,some none=>Res.ok (av.next,loc) H
  |true,some (some v)=>match tg loc v with
   |none=>.stuck
   |some loc=>(body loc H).bind λfl H=>match fl with
    |(.next,loc)=>bK tup tg body it f (k+1) loc H
    |(.ret v,loc)=>.ok (.ret v,loc) H
  |_,_=>.stuck)=_
 rw [hw,hn]
 dsimp only
 rw [ht]
 dsimp only
 rw [hb]
 rfl
theorem dP {tup:Bool} {tg:Loc→AV→Option Loc} {body:Loc→aa→Res (av×Loc)} {it:It} {f k:Nat} {loc:Loc} {H:aa} (hw:(it.within k&&(!it.d8||tup))=true) (hn:it.next k H=some none):bK tup tg body it (f+1) k loc H=.ok (.next,loc) H:=by
 show (match it.within k&&(!it.d8||tup),it.next k H with
  |true,some none=>Res.ok (av.next,loc) H
  |true,some (some v)=>match tg loc v with
   |none=>.stuck
   |some loc=>(body loc H).bind λfl H=>match fl with
    |(.next,loc)=>bK tup tg body it f (k+1) loc H
    |(.ret v,loc)=>.ok (.ret v,loc) H
  |_,_=>.stuck)=_
 refine sY (hw ..)▸?_;refine sY (hn ..)▸?_;rfl
theorem hU {α β:Type} {r:Res α} {f:α→aa→Res β} {x:AV} (h:bO r=some x):bO (r.bind f)=some x:=by
 cases r with
 |ok _ _=>cases h
 |bD y H=>exact h
 |stuck=>cases h
theorem pF {tup:Bool} {tg:Loc→AV→Option Loc} {body:Loc→aa→Res (av×Loc)} {it:It} {f k:Nat} {loc loc1:Loc} {H:aa} {v x:AV} (hw:(it.within k&&(!it.d8||tup))=true) (hn:it.next k H=some (some v)) (ht:tg loc v=some loc1) (hb:bO (body loc1 H)=some x) :
  bO (bK tup tg body it (f+1) k loc H)=some x:=by
 show bO (match it.within k&&(!it.d8||tup),it.next k H with
  |true,some none=>Res.ok (av.next,loc) H
  |true,some (some v)=>match tg loc v with
   |none=>.stuck
   |some loc=>(body loc H).bind λfl H=>match fl with
    |(.next,loc)=>bK tup tg body it f (k+1) loc H
    |(.ret v,loc)=>.ok (.ret v,loc) H
  |_,_=>.stuck)=_
 refine sY (hw ..)▸?_;refine sY (hn ..)▸?_
 dsimp only
 refine sY (ht ..)▸?_
 exact hU hb
noncomputable abbrev La (m:Nat):Loc:=[(14,.int (m:Nat)),(2,.ref 3)]
section
variable (Z:U)
theorem Ie (p0 p1 p2:aK) (ah:AV) (ts:List AV) (a:AV) (tl sp:List AV) (goal shown:AV) (gs ss:Int) :
  bw Z L0 (stH p0 p1 p2 ah ts [a] tl sp goal shown gs ss)=dk Z (La 1) (stH p0 p1 p2 ah ts [a] tl sp goal shown gs ss):=by kernel_rfl
theorem Ic (p0 p1 p2:aK) (ah:AV) (ts:List AV) (a b:AV) (tl sp:List AV) (goal shown:AV) (gs ss:Int) :
  bw Z L0 (stH p0 p1 p2 ah ts [a,b] tl sp goal shown gs ss)=dk Z (La 2) (stH p0 p1 p2 ah ts [a,b] tl sp goal shown gs ss):=by kernel_rfl
theorem E6 (p0 p1 p2:aK) (ah:AV) (ts vs tl sp:List AV) (goal shown:AV) (gs ss:Int) (m:Nat) :
  dk Z (La m) (stH p0 p1 p2 ah ts vs tl sp goal shown gs ss)=(bK true (lj [10,1]) (bB Z) (.zip (.ref 7) (.ref 8)) (tl.length+1) 0 (La m) (stH p0 p1 p2 ah ts vs tl sp goal shown gs ss)).bind λfl H=>au fl H λloc H=>dY Z loc H:=by kernel_rfl
abbrev Good (x:AV) (m:Nat) (L:Loc):Prop:=∀ (p0 p1 p2:aK) (ah:AV) (ts vs tl sp:List AV) (goal shown s:AV) (gs ss:Int),
  bB Z ((1,s)::(10,x)::L) (stH p0 p1 p2 ah ts vs tl sp goal shown gs ss)=.ok (.next,(1,s)::(10,x)::L) (stH p0 p1 p2 ah ts vs tl sp goal shown gs ss)
noncomputable abbrev gL (x:AV) (L:Loc):=λ(p0 p1 p2:aK) (ah:AV) (ts vs tl sp:List AV) (goal shown s:AV) (gs ss:Int)=>bB Z ((1,s)::(10,x)::L) (stH p0 p1 p2 ah ts vs tl sp goal shown gs ss)
noncomputable abbrev gR (x:AV) (L:Loc):=λ(p0 p1 p2:aK) (ah:AV) (ts vs tl sp:List AV) (goal shown s:AV) (gs ss:Int)=>Res.ok (av.next,(1,s)::(10,x)::L) (stH p0 p1 p2 ah ts vs tl sp goal shown gs ss)
variable {Z} in
theorem HX {x:AV} {m:Nat} {L:Loc} (e:gL Z x L=gR x L):Good Z x m L:=λp0 p1 p2 ah ts vs tl sp goal shown s gs ss=>congrArg (λf=>f p0 p1 p2 ah ts vs tl sp goal shown s gs ss) e
theorem ER (m:Nat) (h:m=1∨m=2):All (λx:aA=>Good Z x.1 m (La m)∧(∀ s0 t0,Good Z x.1 m ((1,s0)::(10,t0)::La m))∧∀ s0 t0 s1 t1,Good Z x.1 m ((1,s1)::(10,t1)::(1,s0)::(10,t0)::La m)) bU:=
 cI (F:=λx s0 t0 s1 t1=>(gL Z x.1 (La m),gL Z x.1 ((1,s0)::(10,t0)::La m),gL Z x.1 ((1,s1)::(10,t1)::(1,s0)::(10,t0)::La m)))
  (G:=λx s0 t0 s1 t1=>(gR x.1 (La m),gR x.1 ((1,s0)::(10,t0)::La m),gR x.1 ((1,s1)::(10,t1)::(1,s0)::(10,t0)::La m))) (by rcases h with rfl |rfl<;>kernel_rfl) λx e=>
  ⟨HX (congrArg (λf=>(f .none .none .none .none).1) e),λs0 t0=>HX (congrArg (λf=>(f s0 t0 .none .none).2.1) e),λs0 t0 s1 t1=>HX (congrArg (λf=>(f s0 t0 s1 t1).2.2) e)⟩
abbrev j5 (x:AV) (vs:List AV) (m:Nat) (L:Loc):Prop:=∀ (p0 p1 p2:aK) (ah:AV) (ts tl sp:List AV) (goal shown s:AV) (gs ss:Int),
  bO (bB Z ((1,s)::(10,x)::L) (stH p0 p1 p2 ah ts vs tl sp goal shown gs ss))=some s
noncomputable abbrev bL (x:AV) (vs:List AV) (L:Loc):=λ(p0 p1 p2:aK) (ah:AV) (ts tl sp:List AV) (goal shown s:AV) (gs ss:Int)=>bO (bB Z ((1,s)::(10,x)::L) (stH p0 p1 p2 ah ts vs tl sp goal shown gs ss))
noncomputable abbrev bR:=λ(_ _ _:aK) (_:AV) (_ _ _:List AV) (_ _ s:AV) (_ _:Int)=>some s
variable {Z} in
theorem yO {x:AV} {vs:List AV} {m:Nat} {L:Loc} (e:bL Z x vs L=bR):j5 Z x vs m L:=λp0 p1 p2 ah ts tl sp goal shown s gs ss=>congrArg (λf=>f p0 p1 p2 ah ts tl sp goal shown s gs ss) e
theorem HE:All (λx:aA=>j5 Z x.1 [ay.1] 1 (La 1)∧(∀ s0 t0,j5 Z x.1 [ay.1] 1 ((1,s0)::(10,t0)::La 1))∧∀ s0 t0 s1 t1,j5 Z x.1 [ay.1] 1 ((1,s1)::(10,t1)::(1,s0)::(10,t0)::La 1)) (d9 1 (ez 1) (bc aT)):=
 cI (F:=λx s0 t0 s1 t1=>(bL Z x.1 [ay.1] (La 1),bL Z x.1 [ay.1] ((1,s0)::(10,t0)::La 1),bL Z x.1 [ay.1] ((1,s1)::(10,t1)::(1,s0)::(10,t0)::La 1))) (G:=λ_ _ _ _ _=>(bR,bR,bR)) (by kernel_rfl) λx e=>
  ⟨yO (congrArg (λf=>(f .none .none .none .none).1) e),λs0 t0=>yO (congrArg (λf=>(f s0 t0 .none .none).2.1) e),λs0 t0 s1 t1=>yO (congrArg (λf=>(f s0 t0 s1 t1).2.2) e)⟩
theorem HD:All (λx:aA=>∀ y,j5 Z x.1 [ay.1,y] 2 (La 2)∧(∀ s0 t0,j5 Z x.1 [ay.1,y] 2 ((1,s0)::(10,t0)::La 2))∧∀ s0 t0 s1 t1,j5 Z x.1 [ay.1,y] 2 ((1,s1)::(10,t1)::(1,s0)::(10,t0)::La 2)) (d9 2 (ez 2) (bc aT)):=
 cI (F:=λx y s0 t0 s1 t1=>(bL Z x.1 [ay.1,y] (La 2),bL Z x.1 [ay.1,y] ((1,s0)::(10,t0)::La 2),bL Z x.1 [ay.1,y] ((1,s1)::(10,t1)::(1,s0)::(10,t0)::La 2))) (G:=λ_ _ _ _ _ _=>(bR,bR,bR)) (by kernel_rfl) λx e y=>
  ⟨yO (congrArg (λf=>(f y .none .none .none .none).1) e),λs0 t0=>yO (congrArg (λf=>(f y s0 t0 .none .none).2.1) e),λs0 t0 s1 t1=>yO (congrArg (λf=>(f y s0 t0 s1 t1).2.2) e)⟩
end
structure nU (m:Nat) (L:Loc):Prop where
 l2:L.lookup 2=some (.ref 3)
 K3:L.lookup 14=some (.int (m:Nat))
noncomputable def kr:AV→AV
 |.tup [_,v]=>v
 |_=>.none
section
variable (Z:U)
theorem Ib {m:Nat} {L:Loc} (hL:nU m L) (p0 p1 p2:aK) (ah:AV) (ts vs tl sp:List AV) (k v shown:AV) (gs ss:Int) :
  dY Z L (stH p0 p1 p2 ah ts vs tl sp (.tup [k,v]) shown gs ss)=cE Z ((36,v)::L) (stH p0 p1 p2 ah ts vs tl sp (.tup [k,v]) shown gs ss):=by
 unfold dY
 simp only [gl hL.l2]
 kernel_rfl
abbrev Kr (v:AV) (m:Nat):Prop:=∀ (L:Loc) (_:nU m L) (p0 p1 p2:aK) (ah:AV) (ts vs tl sp:List AV) (goal shown:AV) (gs ss:Int),
  cE Z ((36,v)::L) (stH p0 p1 p2 ah ts vs tl sp goal shown gs ss)=bW Z ((36,v)::L) (stH p0 p1 p2 ah ts vs tl sp goal shown gs ss)
abbrev Ks (v:AV) (m:Nat):Prop:=∀ (L:Loc) (_:nU m L) (p0 p1 p2:aK) (ah:AV) (ts vs tl sp:List AV) (goal shown:AV) (gs ss:Int),
  bO (cE Z ((36,v)::L) (stH p0 p1 p2 ah ts vs tl sp goal shown gs ss))=some (.int gs)
theorem Nh {v:AV} {L:Loc}:List.lookup 36 ((36,v)::L)=some v:=rfl
theorem Fb {v:AV} {m:Nat} {L:Loc} (hL:nU m L):List.lookup 2 ((36,v)::L)=some (.ref 3):=hL.l2
theorem DZ {v:AV} {m:Nat} {L:Loc} (hL:nU m L):List.lookup 14 ((36,v)::L)=some (.int (m:Nat)):=hL.K3
noncomputable def Y7 (loc:Loc) (H:aa):Res AV:=((ab loc 2 H).bind λv H=>cx 486 71 v H λH=>(((((ab loc 36 H).bind λu H=>(Res.ok AV.none H).bind λv H=>((rI (B Z)).run u v H).bind aY).bind λv H=>match v with |true=>(Res.ok true H) |false=>((((((ab loc 36 H).bind λv H=>((ab loc 14 H).bind λv H=>(Res.ok [] H).bind λvs H=>Res.ok (v::vs) H).bind λvs H=>Res.ok (v::vs) H).bind λvs H=>(hM Z).run vs H).bind aY).bind λv H=>match v with |true=>(Res.ok true H) |false=>((Res.ok false H))))).bind λt H=>match t with |true=>((Res.ok (AV.str []) H)) |false=>((Res.ok (AV.str [116,104,101,32,103,111,97,108,32,105,115,32,110,111,32,118,97,114,105,97,98,108,101]) H))).bind λv H=>(((ab loc 2 H).bind λv H=>aD 486 58 v H).bind λv H=>(Res.ok [] H).bind λvs H=>Res.ok (v::vs) H).bind λvs H=>Res.ok (v::vs) H).bind λvs H=>(b0 Z).run (v::vs) H)
noncomputable def Y6 (loc:Loc) (H:aa):Res AV:=((ab loc 2 H).bind λv H=>cx 486 71 v H λH=>((((((ab loc 2 H).bind λv H=>aD 486 35 v H).bind λv H=>aD 150 7 v H).bind λv H=>((ab loc 14 H).bind λv H=>(Res.ok [] H).bind λvs H=>Res.ok (v::vs) H).bind λvs H=>Res.ok (v::vs) H).bind λvs H=>(jQ Z).run vs H).bind λv H=>(((ab loc 2 H).bind λv H=>aD 486 59 v H).bind λv H=>(Res.ok [] H).bind λvs H=>Res.ok (v::vs) H).bind λvs H=>Res.ok (v::vs) H).bind λvs H=>(b0 Z).run (v::vs) H)
theorem lN {r:Res AV} {L:Loc} {k:Loc→aa→Res (av×Loc)}:((r.bind λ_ H=>Res.ok (av.next,L) H).bind λfl H=>au fl H λloc H=>k loc H)=r.bind λ_ H=>k L H:=by cases r<;>rfl
theorem xM {r:Res AV} {k:aa→Res (av×Loc)} {x:AV} (h:bO r=some x):bO (r.bind λ_ H=>k H)=some x:=hU h
noncomputable abbrev Lg (m:Nat) (v:AV):Loc:=(36,v)::La m
theorem vR (m:Nat):nU m (La m):=⟨rfl,rfl⟩
theorem KU {v:AV} {m:Nat} {L:Loc} {H:aa} (hL:nU m L):cE Z ((36,v)::L) H=(Y7 Z (Lg m v) H).bind λ_ H=>bW Z ((36,v)::L) H:=by
 unfold cE Y7;simp only [gl Nh,gl (Fb hL),gl (DZ hL),gl (Fb (vR m)),gl (DZ (vR m))];exact lN
theorem KW {v:AV} {m:Nat} {L:Loc} {H:aa} (hL:nU m L):bW Z ((36,v)::L) H=(Y6 Z (La m) H).bind λ_ H=>dm Z ((36,v)::L) H:=by
 unfold bW Y6;simp only [gl (Fb hL),gl (DZ hL),gl (vR m).l2,gl (vR m).K3];exact lN
noncomputable abbrev kL (v:AV) (m:Nat):=λ(p0 p1 p2:aK) (ah:AV) (ts vs tl sp:List AV) (goal shown:AV) (gs ss:Int)=>Y7 Z (Lg m v) (stH p0 p1 p2 ah ts vs tl sp goal shown gs ss)
noncomputable abbrev kR:=λ(p0 p1 p2:aK) (ah:AV) (ts vs tl sp:List AV) (goal shown:AV) (gs ss:Int)=>Res.ok AV.none (stH p0 p1 p2 ah ts vs tl sp goal shown gs ss)
theorem FA (m:Nat) (h:m=1∨m=2):All (λx:aA=>Kr Z (kr x.1) m) cj:=
 cI (F:=λx=>kL Z (kr x.1) m) (G:=λ_=>kR) (by rcases h with rfl |rfl<;>kernel_rfl) λx e L hL p0 p1 p2 ah ts vs tl sp goal shown gs ss=>(KU Z hL).trans (b1 (congrArg (λf=>f p0 p1 p2 ah ts vs tl sp goal shown gs ss) e) rfl)
theorem Kc (m:Nat) (h:m=1∨m=2):All (λx:aA=>Ks Z (kr x.1) m) (d9 m (eB m) (bc aU)):=
 cI (F:=λx p0 p1 p2 ah ts vs tl sp goal shown gs ss=>bO (kL Z (kr x.1) m p0 p1 p2 ah ts vs tl sp goal shown gs ss)) (G:=λ_ _ _ _ _ _ _ _ _ _ _ gs _=>some (.int gs)) (by rcases h with rfl |rfl<;>kernel_rfl) λx e L hL p0 p1 p2 ah ts vs tl sp goal shown gs ss=>by
  rw [KU Z hL];exact xM (congrArg (λf=>f p0 p1 p2 ah ts vs tl sp goal shown gs ss) e)
abbrev JA (x:AV) (m:Nat):Prop:=∀ (v:AV) (L:Loc) (_:nU m L) (p0 p1 p2:aK) (ah:AV) (ts vs tl sp:List AV) (goal:AV) (gs ss:Int),
  bW Z ((36,v)::L) (stH p0 p1 p2 ah ts vs tl sp goal x gs ss)=dm Z ((36,v)::L) (stH p0 p1 p2 ah ts vs tl sp goal x gs ss)
abbrev JB (x:AV) (m:Nat):Prop:=∀ (v:AV) (L:Loc) (_:nU m L) (p0 p1 p2:aK) (ah:AV) (ts vs tl sp:List AV) (goal:AV) (gs ss:Int),
  bO (bW Z ((36,v)::L) (stH p0 p1 p2 ah ts vs tl sp goal x gs ss))=some (.int ss)
noncomputable abbrev zh (x:AV) (m:Nat):=λ(p0 p1 p2:aK) (ah:AV) (ts vs tl sp:List AV) (goal:AV) (gs ss:Int)=>Y6 Z (La m) (stH p0 p1 p2 ah ts vs tl sp goal x gs ss)
theorem HJ (m:Nat) (h:m=1∨m=2):All (λx:aA=>JA Z x.1 m) cY:=
 cI (F:=λx=>zh Z x.1 m) (G:=λx p0 p1 p2 ah ts vs tl sp goal gs ss=>Res.ok AV.none (stH p0 p1 p2 ah ts vs tl sp goal x.1 gs ss)) (by rcases h with rfl |rfl<;>kernel_rfl) λx e v L hL p0 p1 p2 ah ts vs tl sp goal gs ss=>(KW Z hL).trans (b1 (congrArg (λf=>f p0 p1 p2 ah ts vs tl sp goal gs ss) e) rfl)
theorem HK (m:Nat) (h:m=1∨m=2):All (λx:aA=>JB Z x.1 m) (d9 m (eS m) (bc aW)):=
 cI (F:=λx p0 p1 p2 ah ts vs tl sp goal gs ss=>bO (zh Z x.1 m p0 p1 p2 ah ts vs tl sp goal gs ss)) (G:=λ_ _ _ _ _ _ _ _ _ _ _ ss=>some (.int ss)) (by rcases h with rfl |rfl<;>kernel_rfl) λx e v L hL p0 p1 p2 ah ts vs tl sp goal gs ss=>by
  rw [KW Z hL];exact xM (congrArg (λf=>f p0 p1 p2 ah ts vs tl sp goal gs ss) e)
theorem Nb {v:AV} {m:Nat} {L:Loc} (hL:nU m L) (p0 p1 p2:aK) (ah:AV) (ts vs tl sp:List AV) (goal shown:AV) (gs ss:Int) :
  aF (dm Z ((36,v)::L) (stH p0 p1 p2 ah ts vs tl sp goal shown gs ss))=.ok (.ref 5) (stH p0 p1 p2 ah ts vs tl sp goal shown gs ss):=by
 unfold dm
 simp only [gl (Fb hL)]
 kernel_rfl
end
structure PS where
 vs:List AV
 tl:List AV
 sp:List AV
 goal:AV
 shown:AV
 gs:Int
 ss:Int
noncomputable abbrev gh (p0 p1 p2:aK) (ah:AV) (ts:List AV) (S:PS):aa:=stH p0 p1 p2 ah ts S.vs S.tl S.sp S.goal S.shown S.gs S.ss
noncomputable def dN (row:List Nat):Bool:=(lW 60 row.length row).isSome&&match a7 row with
 |t::_=>!(t.1==[101,110,100])
 |[]=>false
section
variable (Z:U)
def ky (row:List Nat) (o:Nat) (S S':PS):Prop:=∀ (p0 p1 p2:aK) (t:AV) (r:List AV),
  aV Z L0 (gh p0 p1 p2 (mK o (a7 row)) ((a7 row).tail.map (dB o)++t::r) S)=.ok (.next,L0) (gh p0 p1 p2 t r S')
theorem xQ (p0 p1 p2:aK) (k:List Nat) (v i:AV) (ts:List AV) (S:PS) :
  cF Z L0 (gh p0 p1 p2 (.tup [.str k,v,i]) ts S)=.ok ((k==[101,110,100]) != true) (gh p0 p1 p2 (.tup [.str k,v,i]) ts S):=by kernel_rfl
inductive tK (sl:Nat):List (List Nat)→Nat→PS→PS→Prop
 |nil {o S}:tK sl [] o S S
 |cons {row rows o S S' JC}:ky Z row o S S'→dN row=true→tK sl rows (o+row.length+sl) S' JC→tK sl (row::rows) o S JC
noncomputable def dG (sl:Nat):Nat→List (List Nat)→List AV
 |_,[]=>[]
 |o,r::rs=>(a7 r).map (dB o)++dG sl (o+r.length+sl) rs
noncomputable def cR (sl:Nat):Nat→List (List Nat)→Nat
 |o,[]=>o
 |o,r::rs=>cR sl (o+r.length+sl) rs
theorem wo {row:List Nat} (h:dN row=true) (o:Nat) (p0 p1 p2:aK) (ts:List AV) (S:PS):∃ u us,a7 row=u::us∧cF Z L0 (gh p0 p1 p2 (dB o u) ts S)=.ok true (gh p0 p1 p2 (dB o u) ts S):=by
 unfold dN at h
 rw [Bool.and_eq_true] at h
 cases q:a7 row with
 |nil=>rw [q] at h;cases h.2
 |cons u us=>
  rw [q] at h
  refine ⟨u,us,rfl,?_⟩
  have e:=xQ Z p0 p1 p2 u.1 u.2.1 (.int ((o+u.2.2:Nat):Int)) ts S
  have h2:(!(u.1==[101,110,100]))=true:=h.2
  have e2:((u.1==[101,110,100]) != true)=true:=by
   cases z:(u.1==[101,110,100]) with
   |true=>rw [z] at h2;cases h2
   |false=>rfl
  rw [e2] at e
  exact e
set_option tactic.hygienic true in
theorem uE {sl:Nat} {rows:List (List Nat)} {o:Nat} {S S':PS} (h:tK Z sl rows o S S'):∀ (f:Nat) (p0 p1 p2:aK) (t:AV) (r:List AV),∃ u us,dG sl o rows++t::r=u::us∧
  bS (cF Z) (aV Z) (f+rows.length) L0 (gh p0 p1 p2 u us S)=bS (cF Z) (aV Z) f L0 (gh p0 p1 p2 t r S'):=by
 induction h with
 |nil=>intro f p0 p1 p2 t r;exact ⟨t,r,rfl,rfl⟩
 |cons hr hb _ ih=>
  rename_i row rows o S S' JC _
  intro f p0 p1 p2 t r
  refine fk (ih f p0 p1 p2 t r) ?_;intro u us e1 e2
  refine fk (wo Z hb o p0 p1 p2 ((a7 row).tail.map (dB o)++u::us) S) ?_;intro u0 Kx q1 q2
  refine ⟨dB o u0,Kx.map (dB o)++u::us,?_,?_⟩
  ·show ((a7 row).map (dB o)++dG sl (o+row.length+sl) rows)++t::r=_
   rewrite [List.append_assoc];refine sY (e1 ..)▸?_;refine sY (q1 ..)▸?_
   rfl
  ·have xg:=hr p0 p1 p2 u us
   rw [q1] at xg q2
   refine (e2 ..)▸?_
   exact ip (f:=f+rows.length) q2 xg
theorem oE {sl:Nat}:∀ (A:List (List Nat)) (o:Nat) (C:List (List Nat)),dG sl o (A++C)=dG sl o A++dG sl (cR sl o A) C
 |[],_,_=>rfl
 |r::A,o,C=>by
  show (a7 r).map (dB o)++dG sl (o+r.length+sl) (A++C)=((a7 r).map (dB o)++dG sl (o+r.length+sl) A)++_
  refine sY (oE A ..)▸?_;rewrite [List.append_assoc]
  rfl
noncomputable def je (i:Nat):AV:=.tup [.str [101,110,100],.str [],.int (i:Int)]
theorem wb {sl:Nat}:∀ (rows:List (List Nat)) (o:Nat),rows≠[]→∃ i,vC sl o (rows.map λr=>(r,a7 r))=dG sl o rows++[je i]
 |[],_,h=>absurd rfl h
 |[r],o,_=>⟨o+r.length+1,by
   show (a7 r).map (dB o)++[_]=((a7 r).map (dB o)++[])++_
   rewrite [List.append_nil]
   rfl⟩
 |r::r'::rows,o,_=>by
  obtain ⟨i,e⟩:=wb (r'::rows) (o+r.length+sl) (by simp)
  refine ⟨i,?_⟩
  show (a7 r).map (dB o)++vC sl (o+r.length+sl) ((r'::rows).map λr=>(r,a7 r))=((a7 r).map (dB o)++dG sl (o+r.length+sl) (r'::rows))++_
  refine sY (e ..)▸?_;rewrite [List.append_assoc];rfl
end
noncomputable def laid (s:List Nat) (rows:List (List Nat)):List Nat:=cy s rows++[10]
noncomputable def bY:PS:=⟨[],[],[],.tup [.str (cd "satisfy"),.none],.tup [],-1,-1⟩
structure kQ (s:List Nat) (rows:List (List Nat)):Prop where
 HM:s∈cC
 ne:rows≠[]
 HN:∀ r∈rows,dN r=true
 short:(laid s rows).length < 3900
 low:∀ c∈laid s rows,c < 1114112
 pI:(dG s.length 0 rows).length < 2000
theorem BO {s:List Nat} {rows:List (List Nat)} (h:kQ s rows):∃ i,kJ 2000 (laid s rows).length (laid s rows)=some (dG s.length 0 rows++[je i]):=by
 refine bg (wb (sl:=s.length) rows 0 h.ne) ?_;intro i e
 refine ⟨i,?_⟩
 have hx:∀ x∈rows.map λr=>(r,a7 r),lW 60 x.1.length x.1=some x.2:=λx hx=>by
  refine ai (List.mem_map.mp hx) ?_;rintro r hr rfl
  have hb:=h.HN r hr
  unfold dN at hb
  rw [Bool.and_eq_true] at hb
  show lW 60 r.length r=some (a7 r)
  unfold a7
  cases q:lW 60 r.length r with
  |none=>rw [q] at hb;cases hb.1
  |some ts=>rfl
 have hm:(rows.map λr=>(r,a7 r)).map Prod.fst=rows:=by
  refine sY (List.map_map ..)▸?_
  exact List.map_id rows
 have T:=uB h.HM (rows.map λr=>(r,a7 r)) 0 (laid s rows).length (by simpa using h.ne) hx (by rw [hm,Nat.zero_add];rfl)
 rw [hm,e] at T
 exact T.kJ 2000 (by rw [List.length_append];exact h.pI)
section
variable (Z:U)
theorem uH {s:List Nat} {rows:List (List Nat)} (h:kQ s rows) (H:aa):∃ i,(cM Z).run [.str (laid s rows)] H=(jl Z).run [.txt (dG s.length 0 rows++[je i])] H:=by
 refine bg (BO h) ?_;intro i e
 refine ⟨i,?_⟩
 show p9 (jl Z).run [.str (laid s rows)] H=_
 unfold p9
 have g:(Nat.blt (laid s rows).length 3900&&(laid s rows).all λc=>Nat.blt c 1114112)=true:=by
  rewrite [Bool.and_eq_true]
  exact ⟨Nat.ble_eq_true_of_le h.short,List.all_eq_true.mpr λc hc=>Nat.ble_eq_true_of_le (h.low c hc)⟩
 dsimp only
 refine sY (g ..)▸?_;refine sY (e ..)▸?_;rfl
theorem sC (p0 p1 p2:aK) (u:AV) (us:List AV) :
  (jl Z).run [.txt (u::us)] [p0,p1,p2]=aF (((aF (jM Z L0 (gh p0 p1 p2 u us bY))).bind λv H=>Res.ok (av.ret v,[(3,AV.txt (u::us))]) H).bind λfl H=>au fl H λloc H=>.ok (.next,loc) H):=by kernel_rfl
end
set_option genCtorIdx true in
inductive Kd where
 |v
 |t
 |g
 |s
noncomputable abbrev cU:=Kd×aA
noncomputable def stepK (k:Kd) (x:aA) (o:Nat) (S:PS):PS:=match k with
 |.v=>{S with vs:=S.vs++[x.1]}
 |.t=>{S with tl:=S.tl++[x.1],sp:=S.sp++[.int ((o+11:Nat):Int)]}
 |.g=>{S with goal:=x.1,gs:=((o+6:Nat):Int)}
 |.s=>{S with shown:=x.1,ss:=((o+7:Nat):Int)}
noncomputable def runK (sl:Nat):List cU→Nat→PS→PS
 |[],_,S=>S
 |(k,x)::L,o,S=>runK sl L (o+x.2.length+sl) (stepK k x o S)
noncomputable def bo (k:Kd):List cU→List aA
 |[]=>[]
 |(k',x)::L=>match k,k' with
  |.v,.v=>x::bo k L
  |.t,.t=>x::bo k L
  |.g,.g=>x::bo k L
  |.s,.s=>x::bo k L
  |_,_=>bo k L
def mN (x:aA):Prop:=x∈bU∨∃ m,(m=1∨m=2)∧x∈d9 m (ez m) (bc aT)
def kz (x:aA):Prop:=x∈cj∨∃ m,(m=1∨m=2)∧x∈d9 m (eB m) (bc aU)
def jh (x:aA):Prop:=x∈cY∨∃ m,(m=1∨m=2)∧x∈d9 m (eS m) (bc aW)
structure kX (L:List cU) (S:PS):Prop where
 v:bo .v L=[]∨(S.vs=[]∧(bo .v L=[ay]∨∃ y,y∈dv∧bo .v L=[ay,y]))∨∃ a,S.vs=[a]∧∃ y,y∈dv∧bo .v L=[y]
 t:S.tl.length=S.sp.length∧S.tl.length+(bo .t L).length≤3∧∀ x∈bo .t L,mN x
 g:bo .g L=[]∨(S.gs=-1∧∃ x,bo .g L=[x]∧kz x)
 s:bo .s L=[]∨(S.ss=-1∧∃ x,bo .s L=[x]∧jh x)
theorem kF:(∀ x∈ay::dv,dN x.2=true)∧(∀ x∈bU,dN x.2=true)∧(∀ x∈cj,dN x.2=true)∧(∀ x∈cY,dN x.2=true):=by
 have h:((ay::dv).all λx=>dN x.2)=true∧(bU.all λx=>dN x.2)=true∧(cj.all λx=>dN x.2)=true∧(cY.all λx=>dN x.2)=true:=by decide +kernel
 exact ⟨List.all_eq_true.mp h.1,List.all_eq_true.mp h.2.1,List.all_eq_true.mp h.2.2.1,List.all_eq_true.mp h.2.2.2⟩
theorem ry (m:Nat) (hm:m=1∨m=2):(∀ x∈d9 m (ez m) (bc aT),dN x.2=true)∧(∀ x∈d9 m (eB m) (bc aU),dN x.2=true)∧(∀ x∈d9 m (eS m) (bc aW),dN x.2=true):=by
 have h:∀ m,m=1∨m=2→((d9 m (ez m) (bc aT)).all λx=>dN x.2)=true∧((d9 m (eB m) (bc aU)).all λx=>dN x.2)=true∧((d9 m (eS m) (bc aW)).all λx=>dN x.2)=true:=by
  rintro m (rfl |rfl)<;>decide +kernel
 refine bZ (h m hm) ?_;intro h1 h2 h3
 exact ⟨List.all_eq_true.mp h1,List.all_eq_true.mp h2,List.all_eq_true.mp h3⟩
theorem mN.b {x:aA} (h:mN x):dN x.2=true:=h.elim (kF.2.1 x) λ⟨m,hm,h⟩=>(ry m hm).1 x h
theorem kz.b {x:aA} (h:kz x):dN x.2=true:=h.elim (kF.2.2.1 x) λ⟨m,hm,h⟩=>(ry m hm).2.1 x h
theorem jh.b {x:aA} (h:jh x):dN x.2=true:=h.elim (kF.2.2.2 x) λ⟨m,hm,h⟩=>(ry m hm).2.2 x h
section
variable (Z:U)
theorem AZ {x:aA} (hx:mN x) {S:PS} (h1:S.tl.length=S.sp.length) (h2:S.tl.length≤2) (o:Nat):ky Z x.2 o S (stepK .t x o S):=by
 have H:qu Z x∧qt Z x∧qr Z x:=by
  rcases hx with h |⟨m,hm,h⟩
  ·exact ⟨((yI Z).mem x h).1,((yI Z).mem x h).2,(C6 Z).mem x h⟩
  ·exact (C7 Z m hm).mem x h
 obtain ⟨vs,tl,sp,goal,shown,gs,ss⟩:=S
 intro p0 p1 p2 t r
 refine vF tl sp h1 h2 ?_ ?_ ?_
 ·exact H.1 o p0 p1 p2 t r vs goal shown gs ss
 ·intro t0 s0;exact H.2.1 o p0 p1 p2 t t0 s0 r vs goal shown gs ss
 ·intro t0 t1 s0 s1;exact H.2.2 o p0 p1 p2 t t0 s0 t1 s1 r vs goal shown gs ss
theorem Co {x:aA} (hx:kz x) {S:PS} (h:S.gs=-1) (o:Nat):ky Z x.2 o S (stepK .g x o S):=by
 have H:tP Z x:=by
  rcases hx with h |⟨m,hm,h⟩
  ·exact (GN Z).mem x h
  ·exact (Ei Z m hm).mem x h
 obtain ⟨vs,tl,sp,goal,shown,gs,ss⟩:=S
 have h:gs=-1:=h
 subst h
 intro p0 p1 p2 t r
 exact H o p0 p1 p2 t r vs tl sp goal shown ss
theorem zX {x:aA} (hx:jh x) {S:PS} (h:S.ss=-1) (o:Nat):ky Z x.2 o S (stepK .s x o S):=by
 have H:qw Z x:=by
  rcases hx with h |⟨m,hm,h⟩
  ·exact (De Z).mem x h
  ·exact (Bg Z m hm).mem x h
 obtain ⟨vs,tl,sp,goal,shown,gs,ss⟩:=S
 have h:ss=-1:=h
 subst h
 intro p0 p1 p2 t r
 exact H o p0 p1 p2 t r vs tl sp goal shown gs
theorem Hu {S:PS} (h:S.vs=[]) (o:Nat):ky Z ay.2 o S (stepK .v ay o S):=by
 obtain ⟨vs,tl,sp,goal,shown,gs,ss⟩:=S
 have h:vs=[]:=h
 subst h
 intro p0 p1 p2 t r
 exact L4 Z o p0 p1 p2 t r tl sp goal shown gs ss
theorem Ht {S:PS} {a:AV} {y:aA} (hy:y∈dv) (h:S.vs=[a]) (o:Nat):ky Z y.2 o S (stepK .v y o S):=by
 obtain ⟨vs,tl,sp,goal,shown,gs,ss⟩:=S
 have h:vs=[a]:=h
 subst h
 intro p0 p1 p2 t r
 exact (F5 Z).mem y hy o p0 p1 p2 t a r tl sp goal shown gs ss
theorem wg {sl:Nat} {L:List cU} {o:Nat} {S:PS} (C:kX L S):tK Z sl (L.map λx=>x.2.2) o S (runK sl L o S):=by
 induction L generalizing o S with
 |nil=>exact .nil
 |cons p L ih=>
  obtain ⟨k,x⟩:=p
  have C1:=C.v;have C2:=C.t;have C3:=C.g;have C4:=C.s
  cases k with
  |v=>
   have c:bo .v ((.v,x)::L)=x::bo .v L:=rfl
   rw [c] at C1
   rcases C1 with h |⟨hv,h⟩ |⟨a,hv,y,hy,h⟩
   ·cases h
   ·have hx:x=ay:=by rcases h with h |⟨y,_,h⟩<;>(injection h)
    subst hx
    refine .cons (Hu Z hv o) (kF.1 _ (.head _)) (ih ⟨?_,C2,C3,C4⟩)
    rcases h with h |⟨y,hy,h⟩
    ·injection h with _ h;exact .inl h
    ·injection h with _ h
     exact .inr (.inr ⟨ay.1,by show S.vs++[ay.1]=_;rw [hv];rfl,y,hy,h⟩)
   ·injection h with h1 h2
    subst h1
    exact .cons (Ht Z hy hv o) (kF.1 _ (.tail _ hy)) (ih ⟨.inl h2,C2,C3,C4⟩)
  |t=>
   have c:bo .t ((.t,x)::L)=x::bo .t L:=rfl
   rw [c] at C2
   refine bZ C2 ?_;clear C2;intro h1 h2 h3
   have h2:S.tl.length+((bo .t L).length+1)≤3:=h2
   refine .cons (AZ Z (h3 x (.head _)) h1 (by omega) o) (h3 x (.head _)).b (ih ⟨C1,⟨?_,?_,λy hy=>h3 y (.tail _ hy)⟩,C3,C4⟩)
   ·show (S.tl++[x.1]).length=(S.sp++[_]).length
    rw [List.length_append,List.length_append,h1];rfl
   ·show (S.tl++[x.1]).length+_≤3
    rw [List.length_append,List.length_singleton];omega
  |g=>
   have c:bo .g ((.g,x)::L)=x::bo .g L:=rfl
   rw [c] at C3
   rcases C3 with h |⟨hg,y,h,hy⟩
   ·cases h
   ·injection h with h1 h2
    subst h1
    exact .cons (Co Z hy hg o) hy.b (ih ⟨C1,C2,.inl h2,C4⟩)
  |s=>
   have c:bo .s ((.s,x)::L)=x::bo .s L:=rfl
   rw [c] at C4
   rcases C4 with h |⟨hg,y,h,hy⟩
   ·cases h
   ·injection h with h1 h2
    subst h1
    exact .cons (zX Z hy hg o) hy.b (ih ⟨C1,C2,C3,.inl h2⟩)
end
theorem pB:All (λx:aA=>∃ k,x.1=.tup [k,kr x.1]) cj∧∀ m,m=1∨m=2→All (λx:aA=>∃ k,x.1=.tup [k,kr x.1]) (d9 m (eB m) (bc aU)):=by
 refine ⟨?_,?_⟩
 ·repeat' (first |exact True.intro |refine And.intro ⟨_,rfl⟩ ?_)
 ·rintro m (rfl |rfl)<;>repeat' (first |exact True.intro |refine And.intro ⟨_,rfl⟩ ?_)
section
variable (Z:U)
theorem Ah {m:Nat} (hm:m=1∨m=2) {S:PS} (hv:S.vs.length=m) (p0 p1 p2:aK) (ah:AV) (ts:List AV) :
  bw Z L0 (gh p0 p1 p2 ah ts S)=dk Z (La m) (gh p0 p1 p2 ah ts S):=by
 obtain ⟨vs,tl,sp,goal,shown,gs,ss⟩:=S
 rcases hm with rfl |rfl
 ·match vs,hv with
  |[a],_=>exact Ie Z p0 p1 p2 ah ts a tl sp goal shown gs ss
 ·match vs,hv with
  |[a,b],_=>exact Ic Z p0 p1 p2 ah ts a b tl sp goal shown gs ss
theorem oB {m:Nat} (hm:m=1∨m=2) (xs:List aA) (hx:∀ x∈xs,x∈bU) (hn:xs.length≤2) (sp:List AV) (hs:sp.length=xs.length) (vs:List AV) (p0 p1 p2:aK) (ah:AV) (ts:List AV) (goal shown:AV) (gs ss:Int) :
  ∃ L,nU m L∧bK true (lj [10,1]) (bB Z) (.zip (.ref 7) (.ref 8)) ((xs.map (·.1)).length+1) 0 (La m) (stH p0 p1 p2 ah ts vs (xs.map (·.1)) sp goal shown gs ss)=.ok (.next,L) (stH p0 p1 p2 ah ts vs (xs.map (·.1)) sp goal shown gs ss):=by
 have G:=ER Z m hm
 revert hx
 refine vF xs sp hs.symm hn ?_ ?_ ?_
 ·exact λ_=>⟨La m,⟨rfl,rfl⟩,dP rfl rfl⟩
 ·intro x s hx
  have g:=G.mem x (hx x (.head _))
  refine ⟨(1,s)::(10,x.1)::La m,⟨rfl,rfl⟩,?_⟩
  refine sY (show ((([x]:List aA).map (·.1)).length+1)=1+1 from rfl ..)▸?_;rewrite [cA (loc1:=(1,s)::(10,x.1)::La m) (v:=.tup [x.1,s]) rfl rfl rfl (g.1 _ _ _ _ _ _ _ _ _ _ _ _ _)]
  exact dP rfl rfl
 ·intro x y s s' hx
  have g:=G.mem x (hx x (.head _))
  have g':=G.mem y (hx y (.tail _ (.head _)))
  refine ⟨(1,s')::(10,y.1)::(1,s)::(10,x.1)::La m,⟨rfl,rfl⟩,?_⟩
  rw [show ((([x,y]:List aA).map (·.1)).length+1)=1+1+1 from rfl,cA (loc1:=(1,s)::(10,x.1)::La m) (v:=.tup [x.1,s]) rfl rfl rfl (g.1 _ _ _ _ _ _ _ _ _ _ _ _ _),
   cA (loc1:=(1,s')::(10,y.1)::(1,s)::(10,x.1)::La m) (v:=.tup [y.1,s']) rfl rfl rfl (g'.2.1 _ _ _ _ _ _ _ _ _ _ _ _ _ _ _)]
  exact dP rfl rfl
theorem A0 {m:Nat} (hm:m=1∨m=2) (xs:List aA) (hx:∀ x∈xs,x∈bU) (hn:xs.length≤2) (sp:List AV) (hs:sp.length=xs.length) (vs:List AV) (bad s:AV) (tl' gi:List AV)
  (hb:j5 Z bad vs m (La m)∧(∀ s0 t0,j5 Z bad vs m ((1,s0)::(10,t0)::La m))∧∀ s0 t0 s1 t1,j5 Z bad vs m ((1,s1)::(10,t1)::(1,s0)::(10,t0)::La m)) (p0 p1 p2:aK) (ah:AV) (ts:List AV) (goal shown:AV) (gs ss:Int) :
  bO (bK true (lj [10,1]) (bB Z) (.zip (.ref 7) (.ref 8)) ((xs.map (·.1)++bad::tl').length+1) 0 (La m) (stH p0 p1 p2 ah ts vs (xs.map (·.1)++bad::tl') (sp++s::gi) goal shown gs ss))=some s:=by
 have G:=ER Z m hm
 revert hx
 refine vF xs sp hs.symm hn ?_ ?_ ?_
 ·exact λ_=>pF (loc1:=(1,s)::(10,bad)::La m) (v:=.tup [bad,s]) rfl rfl rfl (hb.1 _ _ _ _ _ _ _ _ _ _ _ _)
 ·intro x s0 hx
  have g:=G.mem x (hx x (.head _))
  show bO (bK true (lj [10,1]) (bB Z) (.zip (.ref 7) (.ref 8)) (tl'.length+1+1+1) 0 (La m) (stH p0 p1 p2 ah ts vs (x.1::bad::tl') (s0::s::gi) goal shown gs ss))=some s
  rewrite [cA (loc1:=(1,s0)::(10,x.1)::La m) (v:=.tup [x.1,s0]) rfl rfl rfl (g.1 _ _ _ _ _ _ _ _ _ _ _ _ _)]
  exact pF (loc1:=(1,s)::(10,bad)::(1,s0)::(10,x.1)::La m) (v:=.tup [bad,s]) rfl rfl rfl (hb.2.1 _ _ _ _ _ _ _ _ _ _ _ _ _ _)
 ·intro x y s0 s1 hx
  have g:=G.mem x (hx x (.head _))
  have g':=G.mem y (hx y (.tail _ (.head _)))
  show bO (bK true (lj [10,1]) (bB Z) (.zip (.ref 7) (.ref 8)) (tl'.length+1+1+1+1) 0 (La m) (stH p0 p1 p2 ah ts vs (x.1::y.1::bad::tl') (s0::s1::s::gi) goal shown gs ss))=some s
  rw [cA (loc1:=(1,s0)::(10,x.1)::La m) (v:=.tup [x.1,s0]) rfl rfl rfl (g.1 _ _ _ _ _ _ _ _ _ _ _ _ _),
   cA (loc1:=(1,s1)::(10,y.1)::(1,s0)::(10,x.1)::La m) (v:=.tup [y.1,s1]) rfl rfl rfl (g'.2.1 _ _ _ _ _ _ _ _ _ _ _ _ _ _ _)]
  exact pF (loc1:=(1,s)::(10,bad)::(1,s1)::(10,y.1)::(1,s0)::(10,x.1)::La m) (v:=.tup [bad,s]) rfl rfl rfl (hb.2.2 _ _ _ _ _ _ _ _ _ _ _ _ _ _ _ _)
structure qq (S:PS) (m:Nat):Prop where
 two:m=1∨m=2
 vs:S.vs.length=m
theorem zm {r:Res (av×Loc)} {x:AV} (h:bO r=some x):bO (aF r)=some x:=by
 cases r with
 |ok _ _=>cases h
 |bD y H=>exact h
 |stuck=>cases h
theorem A3 {S:PS} {m:Nat} (W:qq S m) {xs:List aA} (hx:∀ x∈xs,x∈bU) (hn:xs.length≤2) (ht:S.tl=xs.map (·.1)) (hs:S.sp.length=xs.length) {g s:aA} (hg:g∈cj) (uU:S.goal=g.1) (IB:s∈cY) (Ca:S.shown=s.1) (p0 p1 p2:aK) (ah:AV) (ts:List AV) :
  aF (bw Z L0 (gh p0 p1 p2 ah ts S))=.ok (.ref 5) (gh p0 p1 p2 ah ts S):=by
 refine sY (Ah Z W.two W.vs ..)▸?_
 obtain ⟨vs,tl,sp,goal,shown,gs,ss⟩:=S
 dsimp only at ht hs uU Ca
 subst ht uU Ca
 refine ai (oB Z W.two xs hx hn sp hs vs p0 p1 p2 ah ts g.1 s.1 gs ss) ?_;intro L hL e
 refine bg (pB.1.mem g hg) ?_;intro k hk
 have gg:=(FA Z m W.two).mem g hg
 have sg:=(HJ Z m W.two).mem s IB
 dsimp only [gh]
 rewrite [E6];refine sY (e ..)▸?_;refine sY (ae ..)▸?_;refine sY (aC ..)▸?_;refine sY (hk ..)▸?_;refine sY (Ib Z hL ..)▸?_;refine sY (gg L hL ..)▸?_;refine sY (sg _ L hL ..)▸?_;refine sY (Nb Z hL ..)▸?_;rfl
theorem A2 {S:PS} {m:Nat} (W:qq S m) {xs:List aA} (hx:∀ x∈xs,x∈bU) (hn:xs.length≤2) {bad s:AV} {tl' sj gi:List AV} (ht:S.tl=xs.map (·.1)++bad::tl') (hs:S.sp=sj++s::gi) (h0:sj.length=xs.length)
  (hb:j5 Z bad S.vs m (La m)∧(∀ s0 t0,j5 Z bad S.vs m ((1,s0)::(10,t0)::La m))∧∀ s0 t0 s1 t1,j5 Z bad S.vs m ((1,s1)::(10,t1)::(1,s0)::(10,t0)::La m)) (p0 p1 p2:aK) (ah:AV) (ts:List AV) :
  bO (bw Z L0 (gh p0 p1 p2 ah ts S))=some s:=by
 refine sY (Ah Z W.two W.vs ..)▸?_
 obtain ⟨vs,tl,sp,goal,shown,gs,ss⟩:=S
 dsimp only at ht hs hb
 subst ht hs
 dsimp only [gh]
 rewrite [E6]
 exact hU (A0 Z W.two xs hx hn sj h0 vs bad s tl' gi hb p0 p1 p2 ah ts goal shown gs ss)
theorem A4 {S:PS} {m:Nat} (W:qq S m) {xs:List aA} (hx:∀ x∈xs,x∈bU) (hn:xs.length≤2) (ht:S.tl=xs.map (·.1)) (hs:S.sp.length=xs.length) {g:aA} (hg:g∈d9 m (eB m) (bc aU)) (uU:S.goal=g.1) (p0 p1 p2:aK) (ah:AV) (ts:List AV) :
  bO (bw Z L0 (gh p0 p1 p2 ah ts S))=some (.int S.gs):=by
 refine sY (Ah Z W.two W.vs ..)▸?_
 obtain ⟨vs,tl,sp,goal,shown,gs,ss⟩:=S
 dsimp only at ht hs uU
 subst ht uU
 refine ai (oB Z W.two xs hx hn sp hs vs p0 p1 p2 ah ts g.1 shown gs ss) ?_;intro L hL e
 refine bg ((pB.2 m W.two).mem g hg) ?_;intro k hk
 have gb:=(Kc Z m W.two).mem g hg
 dsimp only [gh]
 rewrite [E6];refine sY (e ..)▸?_;refine sY (ae ..)▸?_;refine sY (aC ..)▸?_;refine sY (hk ..)▸?_;refine sY (Ib Z hL ..)▸?_
 exact gb L hL _ _ _ _ _ _ _ _ _ _ _ _
theorem zQ {S:PS} {m:Nat} (W:qq S m) {xs:List aA} (hx:∀ x∈xs,x∈bU) (hn:xs.length≤2) (ht:S.tl=xs.map (·.1)) (hs:S.sp.length=xs.length) {g s:aA} (hg:g∈cj) (uU:S.goal=g.1) (IB:s∈d9 m (eS m) (bc aW)) (Ca:S.shown=s.1) (p0 p1 p2:aK) (ah:AV) (ts:List AV) :
  bO (bw Z L0 (gh p0 p1 p2 ah ts S))=some (.int S.ss):=by
 refine sY (Ah Z W.two W.vs ..)▸?_
 obtain ⟨vs,tl,sp,goal,shown,gs,ss⟩:=S
 dsimp only at ht hs uU Ca
 subst ht uU Ca
 refine ai (oB Z W.two xs hx hn sp hs vs p0 p1 p2 ah ts g.1 s.1 gs ss) ?_;intro L hL e
 refine bg (pB.1.mem g hg) ?_;intro k hk
 have gg:=(FA Z m W.two).mem g hg
 have sb:=(HK Z m W.two).mem s IB
 dsimp only [gh]
 rewrite [E6];refine sY (e ..)▸?_;refine sY (ae ..)▸?_;refine sY (aC ..)▸?_;refine sY (hk ..)▸?_;refine sY (Ib Z hL ..)▸?_;refine sY (gg L hL ..)▸?_
 exact sb _ L hL _ _ _ _ _ _ _ _ _ _ _
end
noncomputable abbrev az (L:List cU):List (List Nat):=L.map λx=>x.2.2
noncomputable def vB (row:List Nat):Bool:=match a7 row with
 |(_,.str _,_)::_=>true
 |_=>false
theorem AP {T:Loc→aa→Res Bool} {Bd:Loc→aa→Res (av×Loc)} {f:Nat} {loc:Loc} {H H':aa} {x:AV} (h1:T loc H=.ok true H') (h2:bO (Bd loc H')=some x):bO (bS T Bd (f+1) loc H)=some x:=by
 show bO ((T loc H).bind _)=_
 refine sY (h1 ..)▸?_
 show bO ((Bd loc H').bind _)=_
 exact hU h2
section
variable (Z:U)
noncomputable def post (u:AV) (us:List AV) (r:Res (av×Loc)):Res AV:=aF (((aF r).bind λv H=>Res.ok (av.ret v,[(3,AV.txt (u::us))]) H).bind λfl H=>au fl H λloc H=>.ok (.next,loc) H)
theorem wC {u:AV} {us:List AV} {r:Res (av×Loc)} {x:AV} (h:bO r=some x):bO (post u us r)=some x:=zm (hU (hU (zm h)))
theorem Gp {u:AV} {us:List AV} {r:Res (av×Loc)} {v:AV} {H:aa} (h:aF r=.ok v H):post u us r=.ok v H:=by
 unfold post
 refine sY (h ..)▸?_
 rfl
theorem wM (H:aa):jM Z L0 H=(bS (cF Z) (aV Z) 4000 L0 H).bind λfl H=>au fl H λloc H=>bw Z loc H:=rfl
theorem wx {s:List Nat} {L:List cU} (C:kX L bY) (T:kQ s (az L)) (hn:(az L).length≤100) (p0 p1 p2:aK) :
  ∃ i u us,(cM Z).run [.str (laid s (az L))] [p0,p1,p2]=post u us (bw Z L0 (gh p0 p1 p2 (je i) [] (runK s.length L 0 bY))):=by
 refine bg (uH Z T [p0,p1,p2]) ?_;intro i e
 obtain ⟨f,hf⟩:∃ f,4000=(f+1)+(az L).length:=LJ (by assumption)
 obtain ⟨u,us,e1,e2⟩:=uE Z (wg Z (sl:=s.length) C) (f+1) p0 p1 p2 (je i) []
 refine ⟨i,u,us,?_⟩
 refine sY (e ..)▸?_;refine sY (e1 ..)▸?_;rewrite [sC,wM];refine sY (hf ..)▸?_;refine sY (e2 ..)▸?_;rewrite [gD (H':=gh p0 p1 p2 (je i) [] (runK s.length L 0 bY)) (xQ Z p0 p1 p2 _ _ _ _ _)]
 rfl
set_option tactic.hygienic true in
theorem z7 {s:List Nat} {L:List cU} {row:List Nat} {B:List (List Nat)} (C:kX L bY) (T:kQ s (az L++row::B)) (hn:(az L).length≤100) (hB:∀ r∈B,vB r=true) (p0 p1 p2:aK) {x:AV}
  (hx:∀ (k c:List Nat) (i:Int) (r:List AV),bO (aV Z L0 (gh p0 p1 p2 (mK (cR s.length 0 (az L)) (a7 row)) ((a7 row).tail.map (dB (cR s.length 0 (az L)))++.tup [.str k,.str c,.int i]::r) (runK s.length L 0 bY)))=some x) :
  bO ((cM Z).run [.str (laid s (az L++row::B))] [p0,p1,p2])=some x:=by
 refine bg (uH Z T [p0,p1,p2]) ?_;intro i e
 obtain ⟨f,hf⟩:∃ f,4000=(f+1)+(az L).length:=LJ (by assumption)
 have hb:dN row=true:=T.HN row (List.mem_append_right _ (.head _))
 have next:∃ k c i' r,dG s.length (cR s.length 0 (az L)+row.length+s.length) B++[je i]=.tup [.str k,.str c,.int i']::r:=by
  cases B with
  |nil=>exact ⟨_,_,_,[],rfl⟩
  |cons r0 B=>
   have h0:=hB r0 (.head _)
   unfold vB at h0
   show ∃ k c i' r,((a7 r0).map (dB _)++dG s.length _ B)++[je i]=_
   split at h0
   ·rename_i k c b ts q
    rw [q]
    exact ⟨k,c,_,_,rfl⟩
   ·cases h0
 refine Ad next ?_;clear next;intro k c i' r NO
 refine fk (wo Z hb (cR s.length 0 (az L)) p0 p1 p2 ((a7 row).tail.map (dB (cR s.length 0 (az L)))++.tup [.str k,.str c,.int i']::r) (runK s.length L 0 bY)) ?_;intro u0 Kx q1 q2
 obtain ⟨u,us,e1,e2⟩:=uE Z (wg Z (sl:=s.length) C) (f+1) p0 p1 p2 (dB (cR s.length 0 (az L)) u0) ((a7 row).tail.map (dB (cR s.length 0 (az L)))++.tup [.str k,.str c,.int i']::r)
 have tk:dG s.length 0 (az L++row::B)++[je i]=u::us:=by
  rw [oE,List.append_assoc]
  show dG s.length 0 (az L)++((a7 row).map (dB _)++dG s.length _ B++[je i])=_
  rw [List.append_assoc,NO,← e1,q1]
  rfl
 rw [e,tk,sC,wM,hf,e2]
 have Lc:=hx k c i' r
 rw [q1] at Lc
 refine wC (hU (AP q2 ?_))
 rw [q1]
 exact Lc
end
noncomputable abbrev OC (p0 p1 p2:aK) (ah:AV) (ts:List AV) (vs tl sp:List AV) (goal shown:AV) (gs ss:Int) (rs:List AV):aa:=
 [p0,p1,p2,.inst 486 [(45,.ref 4),(46,ah),(35,.ref 5),(57,.ref 8),(58,.int gs),(59,.int ss)],.scan 325 ts,.inst 150 [(4,.ref 6),(5,.ref 7),(6,goal),(7,shown)],.list vs,.list tl,.list sp,.list rs]
noncomputable def eJ:AV→AV
 |.tup [a,_]=>a
 |_=>.none
noncomputable def eH:AV→AV
 |.tup [_,b]=>b
 |_=>.none
structure gO (L:Loc):Prop where
 iH:L.lookup 34=some (.ref 9)
 uK:L.lookup 35=some (.ref 5)
section
variable (Z:U)
structure FZ where
 p0:aK
 p1:aK
 p2:aK
 ah:AV
 ts:List AV
 vs:List AV
 tl:List AV
 sp:List AV
 goal:AV
 shown:AV
 gs:Int
 ss:Int
noncomputable abbrev FZ.H (z:FZ) (rs:List AV):aa:=OC z.p0 z.p1 z.p2 z.ah z.ts z.vs z.tl z.sp z.goal z.shown z.gs z.ss rs
theorem Kw {a b:AV} {L:Loc} (h:gO L):List.lookup 34 ((9,a)::(8,b)::L)=some (.ref 9):=h.iH
theorem v9 {a b:AV} {L:Loc}:List.lookup 9 ((9,a)::(8,b)::L)=some a:=rfl
theorem v8 {a b:AV} {L:Loc}:List.lookup 8 ((9,a)::(8,b)::L)=some b:=rfl
theorem KG {a:AV} {L:Loc} (h:gO L):List.lookup 34 ((10,a)::L)=some (.ref 9):=h.iH
theorem KH {a:AV} {L:Loc}:List.lookup 10 ((10,a)::L)=some a:=rfl
theorem xG {a b:AV} {L:Loc} (h:gO L):List.lookup 34 ((36,a)::(15,b)::L)=some (.ref 9):=h.iH
theorem Oo {a b:AV} {L:Loc} (h:gO L):List.lookup 35 ((36,a)::(15,b)::L)=some (.ref 5):=h.uK
theorem Om {a b:AV} {L:Loc}:List.lookup 36 ((36,a)::(15,b)::L)=some a:=rfl
theorem Ou {a b:AV} {L:Loc}:List.lookup 15 ((36,a)::(15,b)::L)=some b:=rfl
noncomputable abbrev Lf:Loc:=[(34,.ref 9),(35,.ref 5)]
theorem ko:gO Lf:=⟨rfl,rfl⟩
noncomputable def X1 (loc:Loc) (H:aa):Res AV:=((ab loc 34 H).bind λv H=>gp (aH (B Z)) v H λH=>(((λacc:List Nat=>(Res.ok (AV.str [118,97,114,32]) H).bind λv H=>aS acc v λacc=>((((ab loc 9 H).bind λv H=>(Res.ok [] H).bind λvs H=>Res.ok (v::vs) H).bind λvs H=>(jS Z).run vs H).bind fu).bind λv H=>aS acc v λacc=>(Res.ok (AV.str [58,32]) H).bind λv H=>aS acc v λacc=>((((((ab loc 8 H).bind λv H=>(Res.ok [] H).bind λvs H=>Res.ok (v::vs) H).bind λvs H=>(lL Z).run vs H).bind aY).bind λt H=>match t with |true=>((ab loc 8 H)) |false=>((((ab loc 8 H).bind λv H=>(Res.ok [] H).bind λvs H=>Res.ok (v::vs) H).bind λvs H=>(nk Z).run vs H))).bind fu).bind λv H=>aS acc v λacc=>(Res.ok (AV.str [59]) H).bind λv H=>aS acc v λacc=>d6 acc H) []).bind λv H=>(Res.ok [] H).bind λvs H=>Res.ok (v::vs) H).bind λvs H=>(aH (B Z)).run v vs H)
noncomputable def X2 (loc:Loc) (H:aa):Res AV:=((ab loc 34 H).bind λv H=>gp (aH (B Z)) v H λH=>(((λacc:List Nat=>(Res.ok (AV.str [99,111,110,115,116,114,97,105,110,116,32]) H).bind λv H=>aS acc v λacc=>((((ab loc 10 H).bind λv H=>(Res.ok [] H).bind λvs H=>Res.ok (v::vs) H).bind λvs H=>(fR Z).run vs H).bind fu).bind λv H=>aS acc v λacc=>(Res.ok (AV.str [59]) H).bind λv H=>aS acc v λacc=>d6 acc H) []).bind λv H=>(Res.ok [] H).bind λvs H=>Res.ok (v::vs) H).bind λvs H=>(aH (B Z)).run v vs H)
noncomputable def X4 (loc:Loc) (H:aa):Res AV:=((ab loc 34 H).bind λv H=>gp (aH (B Z)) v H λH=>(((λacc:List Nat=>(Res.ok (AV.str [111,117,116,112,117,116,32]) H).bind λv H=>aS acc v λacc=>(((((ab loc 35 H).bind λv H=>aD 150 7 v H).bind λv H=>(Res.ok [] H).bind λvs H=>Res.ok (v::vs) H).bind λvs H=>(fR Z).run vs H).bind fu).bind λv H=>aS acc v λacc=>(Res.ok (AV.str [59]) H).bind λv H=>aS acc v λacc=>d6 acc H) []).bind λv H=>(Res.ok [] H).bind λvs H=>Res.ok (v::vs) H).bind λvs H=>(aH (B Z)).run v vs H)
noncomputable def X5 (loc:Loc) (H:aa):Res AV:=((ab loc 34 H).bind λv H=>gp (aH (B Z)) v H λH=>((((ab loc 36 H).bind λu H=>(Res.ok AV.none H).bind λv H=>((rI (B Z)).run u v H).bind aY).bind λt H=>match t with |true=>(((λacc:List Nat=>(Res.ok (AV.str [115,111,108,118,101,32]) H).bind λv H=>aS acc v λacc=>((ab loc 15 H).bind fu).bind λv H=>aS acc v λacc=>(Res.ok (AV.str [59]) H).bind λv H=>aS acc v λacc=>d6 acc H) [])) |false=>(((λacc:List Nat=>(Res.ok (AV.str [115,111,108,118,101,32]) H).bind λv H=>aS acc v λacc=>((ab loc 15 H).bind fu).bind λv H=>aS acc v λacc=>(Res.ok (AV.str [32]) H).bind λv H=>aS acc v λacc=>((ab loc 36 H).bind fu).bind λv H=>aS acc v λacc=>(Res.ok (AV.str [59]) H).bind λv H=>aS acc v λacc=>d6 acc H) []))).bind λv H=>(Res.ok [] H).bind λvs H=>Res.ok (v::vs) H).bind λvs H=>(aH (B Z)).run v vs H)
theorem vj {r:Res AV} {L:Loc}:((r.bind λ_ H=>Res.ok (av.next,L) H).bind λfl H=>au fl H λloc H=>Res.ok (av.next,loc) H)=r.bind λ_ H=>Res.ok (av.next,L) H:=by cases r<;>rfl
theorem LG {a b:AV} {L:Loc} {H:aa} (h:gO L):ey Z ((9,a)::(8,b)::L) H=(X1 Z ((9,a)::(8,b)::Lf) H).bind λ_ H=>Res.ok (av.next,(9,a)::(8,b)::L) H:=by
 unfold ey X1;simp only [gl (Kw h),gl (Kw ko),gl v9,gl v8];exact vj
theorem OA {a:AV} {L:Loc} {H:aa} (h:gO L):fL Z ((10,a)::L) H=(X2 Z ((10,a)::Lf) H).bind λ_ H=>Res.ok (av.next,(10,a)::L) H:=by
 unfold fL X2;simp only [gl (KG h),gl (KG ko),gl KH];exact vj
theorem Oy {a b:AV} {L:Loc} {H:aa} (h:gO L):ew Z ((36,a)::(15,b)::L) H=(X4 Z Lf H).bind λ_ H=>fK Z ((36,a)::(15,b)::L) H:=by
 unfold ew X4;simp only [gl (xG h),gl (Oo h),gl ko.iH,gl ko.uK];exact lN
theorem Ox {a b:AV} {L:Loc} {H:aa} (h:gO L):fJ Z ((36,a)::(15,b)::L) H=(X5 Z ((36,a)::(15,b)::Lf) H).bind λ_ H=>ew Z ((36,a)::(15,b)::L) H:=by
 unfold fJ X5;simp only [gl (xG h),gl (xG ko),gl Om,gl Ou];exact lN
noncomputable def jW (z:FZ) (rs:List AV):Res AV:=.ok .none (z.H rs)
theorem L5 (z:FZ):X1 Z ((9,eH ay.1)::(8,eJ ay.1)::Lf) (z.H [])=jW z [.str ay.2]:=by kernel_rfl
theorem Hy:dv.map (λx z r=>X1 Z ((9,eH x.1)::(8,eJ x.1)::Lf) (FZ.H z [r]))=dv.map λx z r=>jW z [r,.str x.2]:=by kernel_rfl
theorem F7:bU.map (λx z a b c=>(X2 Z ((10,x.1)::Lf) (FZ.H z [a]),X2 Z ((10,x.1)::Lf) (FZ.H z [a,b]),X2 Z ((10,x.1)::Lf) (FZ.H z [a,b,c])))=bU.map λx z a b c=>(jW z [a,.str x.2],jW z [a,b,.str x.2],jW z [a,b,c,.str x.2]):=by kernel_rfl
theorem GP:cj.map (λx z a b c d=>(X5 Z ((36,eH x.1)::(15,eJ x.1)::Lf) (FZ.H z [a]),X5 Z ((36,eH x.1)::(15,eJ x.1)::Lf) (FZ.H z [a,b]),X5 Z ((36,eH x.1)::(15,eJ x.1)::Lf) (FZ.H z [a,b,c]),X5 Z ((36,eH x.1)::(15,eJ x.1)::Lf) (FZ.H z [a,b,c,d]))) =
  cj.map λx z a b c d=>(jW z [a,.str x.2],jW z [a,b,.str x.2],jW z [a,b,c,.str x.2],jW z [a,b,c,d,.str x.2]):=by kernel_rfl
noncomputable abbrev FZ.S (z:FZ) (s:AV):FZ:={z with shown:=s}
theorem Dg:cY.map (λx z a b c d e=>(X4 Z Lf ((FZ.S z x.1).H [a,b]),X4 Z Lf ((FZ.S z x.1).H [a,b,c]),X4 Z Lf ((FZ.S z x.1).H [a,b,c,d]),X4 Z Lf ((FZ.S z x.1).H [a,b,c,d,e]))) =
  cY.map λx z a b c d e=>(jW (FZ.S z x.1) [a,b,.str x.2],jW (FZ.S z x.1) [a,b,c,.str x.2],jW (FZ.S z x.1) [a,b,c,d,.str x.2],jW (FZ.S z x.1) [a,b,c,d,e,.str x.2]):=by kernel_rfl
theorem Hv {L:Loc} (h:gO L) (z:FZ):ey Z ((9,eH ay.1)::(8,eJ ay.1)::L) (z.H [])=.ok (.next,(9,eH ay.1)::(8,eJ ay.1)::L) (z.H [.str ay.2]):=by
 rw [LG Z h,L5];rfl
theorem Hx {x:aA} (hx:x∈dv) {L:Loc} (h:gO L) (z:FZ) (r:AV):ey Z ((9,eH x.1)::(8,eJ x.1)::L) (z.H [r])=.ok (.next,(9,eH x.1)::(8,eJ x.1)::L) (z.H [r,.str x.2]):=by
 rw [LG Z h,show X1 Z _ (z.H [r])=_ from congrFun (congrFun (List.map_inj_left.mp (Hy Z) x hx) z) r];rfl
theorem tT {x:aA} (hx:x∈bU) {L:Loc} (h:gO L) (z:FZ) (rs:List AV) (hr:(∃ a,rs=[a])∨(∃ a b,rs=[a,b])∨∃ a b c,rs=[a,b,c]):fL Z ((10,x.1)::L) (z.H rs)=.ok (.next,(10,x.1)::L) (z.H (rs++[.str x.2])):=by
 have t:=List.map_inj_left.mp (F7 Z) x hx
 have e:X2 Z ((10,x.1)::Lf) (z.H rs)=jW z (rs++[.str x.2]):=by
  rcases hr with ⟨a,rfl⟩ |⟨a,b,rfl⟩ |⟨a,b,c,rfl⟩
  ·exact congrArg (·.1) (congrFun (congrFun (congrFun (congrFun t z) a) a) a)
  ·exact congrArg (·.2.1) (congrFun (congrFun (congrFun (congrFun t z) a) b) a)
  ·exact congrArg (·.2.2) (congrFun (congrFun (congrFun (congrFun t z) a) b) c)
 rw [OA Z h,e];rfl
def JD (rs:List AV):Prop:=(∃ a,rs=[a])∨(∃ a b,rs=[a,b])∨(∃ a b c,rs=[a,b,c])∨∃ a b c d,rs=[a,b,c,d]
theorem GO {x:aA} (hx:x∈cj) {L:Loc} (h:gO L) (z:FZ) {rs:List AV} (hr:JD rs) :
  fJ Z ((36,eH x.1)::(15,eJ x.1)::L) (z.H rs)=ew Z ((36,eH x.1)::(15,eJ x.1)::L) (z.H (rs++[.str x.2])):=by
 have t:=List.map_inj_left.mp (GP Z) x hx
 have e:X5 Z ((36,eH x.1)::(15,eJ x.1)::Lf) (z.H rs)=jW z (rs++[.str x.2]):=by
  rcases hr with ⟨a,rfl⟩ |⟨a,b,rfl⟩ |⟨a,b,c,rfl⟩ |⟨a,b,c,d,rfl⟩
  ·exact congrArg (·.1) (congrFun (congrFun (congrFun (congrFun (congrFun t z) a) a) a) a)
  ·exact congrArg (·.2.1) (congrFun (congrFun (congrFun (congrFun (congrFun t z) a) b) a) a)
  ·exact congrArg (·.2.2.1) (congrFun (congrFun (congrFun (congrFun (congrFun t z) a) b) c) a)
  ·exact congrArg (·.2.2.2) (congrFun (congrFun (congrFun (congrFun (congrFun t z) a) b) c) d)
 rw [Ox Z h,e];rfl
theorem Df {x:aA} (hx:x∈cY) {a b:AV} {L:Loc} (h:gO L) (z:FZ) {rs:List AV} (hr:JD rs) (r:AV) :
  ew Z ((36,a)::(15,b)::L) ((z.S x.1).H (rs++[r]))=fK Z ((36,a)::(15,b)::L) ((z.S x.1).H (rs++[r]++[.str x.2])):=by
 have t:=List.map_inj_left.mp (Dg Z) x hx
 have e:X4 Z Lf ((z.S x.1).H (rs++[r]))=jW (z.S x.1) (rs++[r]++[.str x.2]):=by
  rcases hr with ⟨a,rfl⟩ |⟨a,b,rfl⟩ |⟨a,b,c,rfl⟩ |⟨a,b,c,d,rfl⟩
  ·exact congrArg (·.1) (congrFun (congrFun (congrFun (congrFun (congrFun (congrFun t z) a) r) a) a) a)
  ·exact congrArg (·.2.1) (congrFun (congrFun (congrFun (congrFun (congrFun (congrFun t z) a) b) r) a) a)
  ·exact congrArg (·.2.2.1) (congrFun (congrFun (congrFun (congrFun (congrFun (congrFun t z) a) b) c) r) a)
  ·exact congrArg (·.2.2.2) (congrFun (congrFun (congrFun (congrFun (congrFun (congrFun t z) a) b) c) d) r)
 rw [Oy Z h,e];rfl
theorem Ow {L:Loc} (h:gO L) (z:FZ) (a b:AV) (rs:List AV) :
  fI Z L (FZ.H {z with goal:=.tup [a,b]} rs)=fJ Z ((36,b)::(15,a)::L) (FZ.H {z with goal:=.tup [a,b]} rs):=by
 unfold fI;rw [gl h.uK];kernel_rfl
end
theorem uI:dv.map (λx=>x.1)=dv.map (λx=>.tup [eJ x.1,eH x.1])∧cj.map (λx=>x.1)=cj.map λx=>.tup [eJ x.1,eH x.1]:=⟨by kernel_rfl,by kernel_rfl⟩
theorem strs_map:∀ rows:List (List Nat),strsOf (rows.map AV.str)=some rows
 |[]=>rfl
 |r::rows=>by
  show (strsOf (rows.map AV.str)).map (r::·)=_
  rw [strs_map rows];rfl
theorem uN (s:List Nat):∀ rows:List (List Nat),rows≠[]→dO s rows=(cy s rows).length+s.length
 |[],h=>absurd rfl h
 |[r],_=>by unfold dO;show 0+r.length+s.length=_;rw [Nat.zero_add];rfl
 |r::r'::rows,_=>by
  have ih:=uN s (r'::rows) (by simp)
  have sh:∀ (l:List (List Nat)) (k:Nat),l.foldl (λk t=>k+t.length+s.length) k=k+l.foldl (λk t=>k+t.length+s.length) 0:=by
   intro l
   induction l with
   |nil=>intro k;rfl
   |cons x l ih=>intro k;rw [List.foldl_cons,List.foldl_cons,ih,ih (0+_+_),Nat.zero_add,← Nat.add_assoc,← Nat.add_assoc]
  unfold dO at ih ⊢
  refine sY (List.foldl_cons ..)▸?_;rewrite [sh];refine sY (ih ..)▸?_
  show _=(r++s++cy s (r'::rows)).length+_
  rw [List.length_append,List.length_append,Nat.zero_add,← Nat.add_assoc]
theorem rH {b:Base} {s:List Nat} {rows:List (List Nat)} {u:AV} {H:aa} (hi:itemsOf H u=some (rows.map AV.str)) (hn:rows≠[]) (hl:(laid s rows).length < 3900) (hs:s.length < 3900):(dS b).run (.str s) [u] H=.ok (.str (cy s rows)) H:=by
 show bV (λts=>if dO s ts≤aq then Res.ok (AV.str (cy s ts)) H else .stuck) ((itemsOf H u).bind strsOf)=_
 refine sY (hi ..)▸?_
 show bV _ (strsOf (rows.map AV.str))=_
 rewrite [strs_map]
 show (if dO s rows≤aq then _ else _)=_
 have h1:(cy s rows).length+1 < 3900:=by
  unfold laid at hl
  rw [List.length_append] at hl
  exact hl
 have h2:8000≤aq:=by decide
 rewrite [if_pos (by rw [uN s rows hn];exact Nat.le_trans (CF (d:=8000) (Nat.le_of_lt (Nat.lt_of_succ_lt h1)) (Nat.le_of_lt hs) rfl) h2)];rfl
theorem add_str {b:Base} {u v:List Nat} {H:aa} (h:u.length+v.length < 8000):(aB b).run (.str u) (.str v) H=.ok (.str (u++v)) H:=by
 have h2:8000≤aq:=by decide
 show (if u.length+v.length≤aq then _ else _)=_
 rewrite [if_pos (zC h rfl)];rfl
section
variable (Z:U)
theorem Eo (z:FZ):(jo Z).run [.ref 5] (stH z.p0 z.p1 z.p2 z.ah z.ts z.vs z.tl z.sp z.goal z.shown z.gs z.ss)=aF (fH Z Lf (z.H [])):=by kernel_rfl
noncomputable abbrev FZ.V (z:FZ) (l:List AV):FZ:={z with vs:=l}
noncomputable abbrev FZ.T (z:FZ) (l:List AV):FZ:={z with tl:=l}
theorem LF {L:Loc} (h:gO L) (z:FZ) (rs:List AV) :
  fH Z L (z.H rs)=(bK true (lj [8,9]) (ey Z) (.lst (.ref 6)) (z.vs.length+1) 0 L (z.H rs)).bind λfl H=>au fl H λloc H=>et Z loc H:=by
 unfold fH;rw [gl h.uK];kernel_rfl
theorem I7 {L:Loc} (h:gO L) (z:FZ) (rs:List AV) :
  et Z L (z.H rs)=(bK false (λloc v=>some ((10,v)::loc)) (fL Z) (.lst (.ref 7)) (z.tl.length+1) 0 L (z.H rs)).bind λfl H=>au fl H λloc H=>fI Z loc H:=by
 unfold et;rw [gl h.uK];kernel_rfl
theorem CT (ys:List aA) (hy:∀ y∈ys,y∈dv) (hn:ys.length≤1) (z:FZ) :
  ∃ L,gO L∧fH Z Lf ((z.V (ay.1::ys.map (·.1))).H [])=et Z L ((z.V (ay.1::ys.map (·.1))).H (.str ay.2::ys.map λy=>.str y.2)):=by
 revert hy
 refine mP ys hn ?_ ?_
 ·exact λ_=>⟨_,⟨rfl,rfl⟩,(LF Z ko _ _).trans (b1 ((cA (v:=ay.1) rfl rfl rfl (Hv Z ko (z.V [ay.1]))).trans (dP rfl rfl)) rfl)⟩
 ·intro y hy
  have hv:=hy y (.head _)
  have MW:lj [8,9] ((9,eH ay.1)::(8,eJ ay.1)::Lf) y.1=some ((9,eH y.1)::(8,eJ y.1)::(9,eH ay.1)::(8,eJ ay.1)::Lf):=by rw [show y.1=_ from List.map_inj_left.mp uI.1 y hv];rfl
  exact ⟨_,⟨rfl,rfl⟩,(LF Z ko _ _).trans (b1 ((cA (v:=ay.1) rfl rfl rfl (Hv Z ko (z.V [ay.1,y.1]))).trans ((cA (v:=y.1) rfl rfl MW (Hx Z hv ⟨rfl,rfl⟩ (z.V [ay.1,y.1]) (.str ay.2))).trans (dP rfl rfl))) rfl)⟩
theorem AX {L:Loc} (h:gO L) (xs:List aA) (hx:∀ x∈xs,x∈bU) (hn:xs.length≤2) (rs:List AV) (hr:(∃ a,rs=[a])∨∃ a b,rs=[a,b]) (z:FZ) :
  ∃ L',gO L'∧et Z L ((z.T (xs.map (·.1))).H rs)=fI Z L' ((z.T (xs.map (·.1))).H (rs++xs.map λx=>.str x.2)):=by
 have pI:∀ r,(∃ a,rs++[r]=[a])∨(∃ a b,rs++[r]=[a,b])∨∃ a b c,rs++[r]=[a,b,c]:=λr=>by
  rcases hr with ⟨a,rfl⟩ |⟨a,b,rfl⟩
  ·exact .inr (.inl ⟨_,_,rfl⟩)
  ·exact .inr (.inr ⟨_,_,_,rfl⟩)
 have xg:(∃ a,rs=[a])∨(∃ a b,rs=[a,b])∨∃ a b c,rs=[a,b,c]:=hr.imp id Or.inl
 revert hx
 refine p8 xs hn ?_ ?_ ?_
 ·exact λ_=>⟨L,h,(I7 Z h _ _).trans (b1 (dP rfl rfl) (by rw [show rs++([]:List aA).map (λx=>AV.str x.2)=rs from List.append_nil rs];rfl))⟩
 ·exact λx hx=>⟨(10,x.1)::L,⟨h.iH,h.uK⟩,(I7 Z h _ _).trans (b1 ((cA (v:=x.1) rfl rfl rfl (tT Z (hx x (.head _)) h (z.T [x.1]) rs xg)).trans (dP rfl rfl)) rfl)⟩
 ·intro x y hx
  have h1:gO ((10,x.1)::L):=⟨h.iH,h.uK⟩
  have t:=tT Z (hx y (.tail _ (.head _))) h1 (z.T [x.1,y.1]) _ (pI (.str x.2))
  rw [List.append_assoc] at t
  exact ⟨(10,y.1)::(10,x.1)::L,⟨h.iH,h.uK⟩,(I7 Z h _ _).trans (b1 ((cA (v:=x.1) rfl rfl rfl (tT Z (hx x (.head _)) h (z.T [x.1,y.1]) rs xg)).trans ((cA (v:=y.1) rfl rfl rfl t).trans (dP rfl rfl))) rfl)⟩
theorem Oz {a b:AV} {L:Loc} (h:gO L) (rows:List (List Nat)) (hn:rows≠[]) (hl:(laid [10] rows).length < 3900) (z:FZ) :
  aF (fK Z ((36,a)::(15,b)::L) (z.H (rows.map AV.str)))=.ok (.str (laid [10] rows)) (z.H (rows.map AV.str)):=by
 unfold fK
 rw [ae,mG rfl,gl (xG h),ae,ae,ae,rH rfl hn hl (by decide),ae,ae,add_str (by
  unfold laid at hl
  rw [List.length_append] at hl
  exact Nat.lt_trans hl (by decide)),ae,ae,dM]
 rfl
theorem Ja (ys xs:List aA) (eW:ys.length≤1) (cB:xs.length≤2):JD ((AV.str ay.2::ys.map λy=>AV.str y.2)++xs.map λx=>AV.str x.2):=by
 refine mP ys eW ?_ λy=>?_
 ·exact p8 xs cB (.inl ⟨_,rfl⟩) (λ_=>.inr (.inl ⟨_,_,rfl⟩)) λ_ _=>.inr (.inr (.inl ⟨_,_,_,rfl⟩))
 ·exact p8 xs cB (.inr (.inl ⟨_,_,rfl⟩)) (λ_=>.inr (.inr (.inl ⟨_,_,_,rfl⟩))) λ_ _=>.inr (.inr (.inr ⟨_,_,_,_,rfl⟩))
noncomputable abbrev fz (p0 p1 p2:aK) (ah:AV) (ts:List AV) (ys xs:List aA) (sp:List AV) (g s:aA) (gs ss:Int):FZ:=⟨p0,p1,p2,ah,ts,ay.1::ys.map (·.1),xs.map (·.1),sp,g.1,s.1,gs,ss⟩
theorem vt {ys xs:List aA} {g s:aA} (hy:∀ y∈ys,y∈dv) (eW:ys.length≤1) (hx:∀ x∈xs,x∈bU) (cB:xs.length≤2) (hg:g∈cj) (hs:s∈cY) (p0 p1 p2:aK) (ah:AV) (ts sp:List AV) (gs ss:Int)
  (hl:(laid [10] ((ay::ys++xs++[g,s]).map (·.2))).length < 3900) :
  ∃ rs,(jo Z).run [.ref 5] (stH p0 p1 p2 ah ts (ay.1::ys.map (·.1)) (xs.map (·.1)) sp g.1 s.1 gs ss)=.ok (.str (laid [10] ((ay::ys++xs++[g,s]).map (·.2)))) (stH p0 p1 p2 ah ts (ay.1::ys.map (·.1)) (xs.map (·.1)) sp g.1 s.1 gs ss++[.list rs]):=by
 refine ⟨((ay::ys++xs++[g,s]).map (·.2)).map AV.str,?_⟩
 refine ai (CT Z ys hy eW (fz p0 p1 p2 ah ts ys xs sp g s gs ss)) ?_;intro L1 h1 e1
 have NI:(∃ a,(AV.str ay.2::ys.map λy=>AV.str y.2)=[a])∨∃ a b,(AV.str ay.2::ys.map λy=>AV.str y.2)=[a,b]:=by
  exact mP ys eW (.inl ⟨_,rfl⟩) λ_=>.inr ⟨_,_,rfl⟩
 refine ai (AX Z h1 xs hx cB _ NI (fz p0 p1 p2 ah ts ys xs sp g s gs ss)) ?_;intro L2 h2 e2
 have pI:=Ja ys xs eW cB
 have NY:g.1=.tup [eJ g.1,eH g.1]:=List.map_inj_left.mp uI.2 g hg
 have e3:=Ow Z h2 (fz p0 p1 p2 ah ts ys xs sp g s gs ss) (eJ g.1) (eH g.1) ((AV.str ay.2::ys.map λy=>AV.str y.2)++xs.map λx=>AV.str x.2)
 rw [← NY] at e3
 have e4:=GO Z hg h2 (fz p0 p1 p2 ah ts ys xs sp g s gs ss) pI
 have e5:=Df Z hs (a:=eH g.1) (b:=eJ g.1) h2 (fz p0 p1 p2 ah ts ys xs sp g s gs ss) pI (.str g.2)
 have e6:=(Eo Z (fz p0 p1 p2 ah ts ys xs sp g s gs ss)).trans (congrArg aF (e1.trans (e2.trans (e3.trans (e4.trans e5)))))
 have er:((AV.str ay.2::ys.map λy=>AV.str y.2)++xs.map λx=>AV.str x.2)++[.str g.2]++[.str s.2]=((ay::ys++xs++[g,s]).map (·.2)).map AV.str:=by
  rw [List.map_map,List.map_append,List.map_append,List.append_assoc];rfl
 rw [er] at e6
 exact e6.trans (Oz Z h2 _ (by simp) hl (fz p0 p1 p2 ah ts ys xs sp g s gs ss))
end
noncomputable abbrev aj (cs:List AV) (k:Nat):aK:=.dict [([99,101,108,108,115],.fl cs),([97,116],.int (k:Int))]
structure CellsOk (cs:List AV):Prop where
 int:∀ v∈cs,∃ i,v=.int i
 len:cs.length≤30
theorem GW {i:Int} {n:Nat} (hn:0 < n):∃ d:Nat,d < n∧i.fmod (n:Int)=(d:Int):=by
 have h1:0≤i.fmod (n:Int):=Int.fmod_nonneg_of_pos i (Int.ofNat_lt.mpr hn)
 have h2:i.fmod (n:Int) < (n:Int):=Int.fmod_lt_of_pos i (Int.ofNat_lt.mpr hn)
 exact ⟨(i.fmod n).toNat,(Int.toNat_lt h1).mpr h2,(Int.toNat_of_nonneg h1).symm⟩
section
variable {b:Base} {H:aa}
theorem uc {i:Int} {n:Nat} (hn:0 < n):∃ d:Nat,d < n∧(m9 b).run (.int i) (.int (n:Int)) H=.ok (.int (d:Int)) H:=by
 refine ai (GW (i:=i) hn) ?_;intro d h1 h2
 refine ⟨d,h1,?_⟩
 show (if (n:Int)≠0 then Res.ok (AV.int (i.fmod n)) H else Res.stuck)=_
 rewrite [if_pos (by omega)];refine sY (h2 ..)▸?_;rfl
theorem mul_eq {i j:Int}:(jk b).run (.int i) (.int j) H=if small i then Res.ok (AV.int (i * j)) H else .stuck:=rfl
theorem Ba {i:Nat} (h:i < 100000):small (i:Int)=true:=by
 unfold small
 rewrite [Bool.and_eq_true]
 refine ⟨decide_eq_true ?_,decide_eq_true ?_⟩
 ·exact Int.lt_of_lt_of_le (by decide) (Int.natCast_nonneg i)
 ·exact Int.lt_trans (Int.ofNat_lt.mpr h) (by decide)
theorem qi {i j:Nat} (h:i < 100000):(jk b).run (.int (i:Int)) (.int (j:Int)) H=.ok (.int ((i * j:Nat):Int)) H:=by
 refine sY (mul_eq ..)▸?_;refine sY (if_pos (Ba h) ..)▸?_;rewrite [Int.natCast_mul];rfl
theorem D6 {l:List AV} {k:Int}:kf (.fl l) (.int k) H=if fits k then idx l k else none:=rfl
theorem my {l:List AV} {i:Nat} {v:AV} (h:l[i]?=some v) (hi:i < 3900):cG (.fl l) (.int (i:Int)) H=.ok v H:=by
 have h0:idx l (i:Int)=some v:=by
  unfold idx
  refine sY (if_pos (Int.natCast_nonneg i) ..)▸?_
  exact h
 exact rg (by rw [D6,if_pos (xJ hi)];exact h0)
theorem Ho {x:Nat}:(aB b).run (.int (x:Int)) (.int 2) H=.ok (.int ((x+2:Nat):Int)) H:=rfl
theorem pj {l:List AV} (h:l.length < 3900):(fm b).run [.fl l] H=.ok (.int (l.length:Int)) H:=by
 show (if l.length≤1099511627776 then _ else _)=_
 rewrite [if_pos (zC h rfl)];rfl
end
theorem jr {r:Res (av×Loc)} {f:Loc→aa→Res (av×Loc)} {l:Loc} {H:aa} {X} (h:r=.ok (.next,l) H) (q:f l H=X):(r.bind λfl H=>au fl H f)=X:=by rw [h];exact q
section
variable (Z:U)
noncomputable abbrev Ld (k n:Nat):Loc:=[(74,.int (k:Int)),(76,.int (n:Int)),(75,.ref 0)]
theorem dQ {cs:List AV} (C:CellsOk cs) {k n:Nat} (hk:k < 200) (hn:0 < n) (R:aa):∃ d:Nat,d < n∧(aR Z).run [.ref 0,.int (n:Int)] (aj cs k::R)=.ok (.int (d:Int)) (aj cs (k+1)::R):=by
 have e:(aR Z).run [.ref 0,.int (n:Int)] (aj cs k::R)=aF (kn Z [(76,.int (n:Int)),(75,.ref 0)] (aj cs k::R)):=by kernel_rfl
 have hl:cs.length < 3900:=Nat.lt_of_le_of_lt C.len (by decide)
 have fin:∀ {d:Nat},kn Z [(76,.int (n:Int)),(75,.ref 0)] (aj cs k::R)=.ok (.ret (.int (d:Int)),Ld k n) (aj cs (k+1)::R)→(aR Z).run [.ref 0,.int (n:Int)] (aj cs k::R)=.ok (.int (d:Int)) (aj cs (k+1)::R):=λq=>e.trans (congrArg aF q)
 by_cases h:k < cs.length
 ·refine bg (C.int cs[k] (List.getElem_mem h)) ?_;intro i hi
  have hv:cs[k]?=some (.int i):=by rw [List.getElem?_eq_getElem h,hi]
  refine ai (uc (b:=B Z) (H:=aj cs (k+1)::R) (i:=i) hn) ?_;intro d h1 h2
  refine ⟨d,h1,fin ?_⟩
  unfold kn
  refine b1 (a:=(av.next,Ld k n)) (H:=aj cs k::R) rfl ?_
  refine b2 (a:=true) (H:=aj cs (k+1)::R) (b1 (a:=AV.int (k:Int)) (H:=aj cs (k+1)::R) rfl (b2 (a:=[.fl cs]) (H:=aj cs (k+1)::R) rfl (b1 (pj hl) (b1 sO (by rw [decide_eq_true h];rfl))))) ?_
  dsimp only
  refine b6 rfl ?_
  refine k6 ?_
  refine b5 rfl ?_
  refine b5 rfl ?_
  refine b4 (my hv (Nat.lt_trans h hl)) ?_
  refine b4 rfl ?_
  refine b3 h2 ?_
  rfl
 ·refine ai (uc (b:=B Z) (H:=aj cs (k+1)::R) (i:=(((7 * k * k+3 * k+4 * cs.length+2:Nat)):Int)) (n:=89) (by decide)) ?_;intro d' uY gW
  refine ai (uc (b:=B Z) (H:=aj cs (k+1)::R) (i:=(d':Int)) hn) ?_;intro d h1 h2
  refine ⟨d,h1,fin ?_⟩
  unfold kn
  refine b1 (a:=(av.next,Ld k n)) (H:=aj cs k::R) rfl ?_
  refine b2 (a:=false) (H:=aj cs (k+1)::R) (b1 (a:=AV.int (k:Int)) (H:=aj cs (k+1)::R) rfl (b2 (a:=[.fl cs]) (H:=aj cs (k+1)::R) rfl (b1 (pj hl) (b1 sO (by rw [decide_eq_false h];rfl))))) ?_
  refine jr (l:=Ld k n) (H:=aj cs (k+1)::R) rfl ?_
  skip
  refine b8 (b1 (a:=AV.int 7) rfl (b1 (a:=AV.int (k:Int)) rfl (qi (i:=7) (j:=k) (by decide)))) ?_
  refine b8 rfl ?_
  refine b7 (qi (i:=7 * k) (j:=k) (by omega)) ?_
  refine k8 ?_
  refine b8 rfl ?_
  refine b7 (qi (i:=3) (j:=k) (by decide)) ?_
  refine b6 (zE (i:=7 * k * k) (j:=3 * k)) ?_
  refine k7 ?_
  refine b8 rfl ?_
  skip
  refine c7 rfl ?_
  skip
  refine b7 (pj hl) ?_
  refine b6 (qi (i:=4) (j:=cs.length) (by decide)) ?_
  refine b5 (zE (i:=7 * k * k+3 * k) (j:=4 * cs.length)) ?_
  refine k5 ?_
  refine b4 (Ho (x:=7 * k * k+3 * k+4 * cs.length)) ?_
  refine k4 ?_
  refine b3 gW ?_
  refine b3 rfl ?_
  refine b2 h2 ?_
  rfl
end
section
variable {b:Base} {H:aa}
theorem xI {x:AV}:(if [x].length≤aq then Res.ok (AV.fl [x]) H else Res.stuck)=.ok (.fl [x]) H:=rfl
theorem FH {x y:AV}:(if [x,y].length≤aq then Res.ok (AV.fl [x,y]) H else Res.stuck)=.ok (.fl [x,y]) H:=rfl
theorem I9 {x y z u:AV}:(if [x,y,z,u].length≤aq then Res.ok (AV.fl [x,y,z,u]) H else Res.stuck)=.ok (.fl [x,y,z,u]) H:=rfl
theorem Pu {x y z u v q:AV}:(if [x,y,z,u,v,q].length≤aq then Res.ok (AV.fl [x,y,z,u,v,q]) H else Res.stuck)=.ok (.fl [x,y,z,u,v,q]) H:=rfl
theorem m7 {n:Nat} (h:n < 8000):n≤aq:=Nat.le_trans (Nat.le_of_lt h) (by decide)
theorem vD {l:List AV} {j:Int} (h:l.length < 3900):A7 (.fl l) (.int j) H=.ok (.fl (upTo l j)) H:=by
 show (if l.length≤aq then _ else _)=_
 rewrite [if_pos (m7 (dU h rfl))];rfl
theorem EW {l:List AV} {j:Int} (h:l.length < 3900):HL (.fl l) (.int j) H=.ok (.fl (ft l j)) H:=by
 show (if l.length≤aq then _ else _)=_
 rewrite [if_pos (m7 (dU h rfl))];rfl
theorem mM {l m:List AV} (h:l.length+m.length < 8000):(aB b).run (.fl l) (.fl m) H=.ok (.fl (l++m)) H:=by
 show (if l.length+m.length≤aq then _ else _)=_
 refine sY (if_pos (m7 h) ..)▸?_;rfl
theorem vY {l:List AV} {i:Nat}:upTo l (i:Int)=l.take i:=by
 unfold upTo;rw [if_pos (Int.natCast_nonneg i)];rfl
theorem Es {l:List AV} {i:Nat}:ft l (i:Int)=l.drop i:=by
 unfold ft;rw [if_pos (Int.natCast_nonneg i)];rfl
theorem vX {l:List AV} {i:Nat}:upTo l (Int.negSucc i)=l.take (l.length - (i+1)):=by
 unfold upTo;rw [if_neg (by exact of_decide_eq_false rfl)];rfl
theorem Er {l:List AV} {i:Nat}:ft l (Int.negSucc i)=l.drop (l.length - (i+1)):=by
 unfold ft;rw [if_neg (by exact of_decide_eq_false rfl)];rfl
end
section
variable (Z:U)
theorem wU {cs:List AV} (C:CellsOk cs) {k:Nat} (hk:k < 200) (R:aa) (rows:List (List Nat)) (hn:rows≠[]) (hl:∀ s∈cC,(laid s rows).length < 3900) :
  ∃ s∈cC,(gG Z).run [.ref 0,.fl (rows.map AV.str)] (aj cs k::R)=.ok (.str (laid s rows)) (aj cs (k+1)::R):=by
 refine ai (dQ Z C hk (n:=4) (by decide) R) ?_;intro d hd e
 obtain ⟨s,hs,hi,h4⟩:∃ s,s∈cC∧(cC.map AV.str)[d]?=some (.str s)∧s.length < 100:=by
  have hb:∀ s∈cC,s.length < 100:=by decide
  exact ⟨cC[d]'hd,List.getElem_mem _,by rw [List.getElem?_map,List.getElem?_eq_getElem hd];rfl,hb _ (List.getElem_mem _)⟩
 refine ⟨s,hs,?_⟩
 have e0:(gG Z).run [.ref 0,.fl (rows.map AV.str)] (aj cs k::R)=aF (tM Z [(34,.fl (rows.map AV.str)),(75,.ref 0)] (aj cs k::R)):=by kernel_rfl
 have e':(aR Z).run [.ref 0,.int 4] (aj cs k::R)=.ok (.int (d:Int)) (aj cs (k+1)::R):=e
 have Lp:[AV.str [10],.str [32,32],.str [32,37,32,59,32,118,97,114,32,123,10],.str [13,10,9]][d]?=some (.str s):=hi
 have MZ:List.lookup 34 [(79,AV.str s),(34,.fl (rows.map AV.str)),(75,.ref 0)]=some (.fl (rows.map AV.str)):=rfl
 have zd:=hl s hs
 refine sY (e0 ..)▸?_
 unfold tM
 repeat rw [ae]
 refine qZ I9 ?_;refine yH (gl (x:=75) (v:=.ref 0) rfl) ?_
 repeat rw [ae]
 refine qZ e' ?_;refine AO (my Lp (dU hd rfl)) ?_
 repeat rw [ae]
 refine l7 aC ?_;refine qY (gl (x:=79) (v:=.str s) rfl) ?_;refine vT (mG rfl) ?_;refine yH (gl MZ) ?_
 repeat rw [ae]
 refine vT (rH rfl hn zd (dU h4 rfl)) ?_
 repeat rw [ae]
 rw [add_str (by
  unfold laid at zd
  rw [List.length_append] at zd
  exact Nat.lt_trans zd (by decide))]
 repeat rw [ae]
 refine l7 dM ?_
 rfl
end
inductive il (rows:List (List Nat)) (first m:Nat):List (List Nat)→Prop
 |v {r:List Nat} {i:Nat}:r∈bc bq→i≤first→il rows first m (rows.take i++aN m r::rows.drop i)
 |h {r:List Nat} {i:Nat}:r∈bc bh→i≤rows.length→il rows first m (rows.take i++aN m r::rows.drop i)
 |t {r:List Nat} {i:Nat}:r∈bc aT→i≤rows.length→il rows first m (rows.take i++aN m r::rows.drop i)
 |g {r:List Nat}:r∈bc aU→il rows first m (rows.take (rows.length - 2)++aN m r::rows.drop (rows.length - 1))
 |s {r:List Nat}:r∈bc aW→il rows first m (rows.take (rows.length - 1)++[aN m r])
 |x {r:List Nat}:r∈gy→il rows first m (rows++[aN m r])
noncomputable def iF:List (List (List Nat)):=[bc bq,bc bh,bc aT,bc aU,bc aW,gy]
noncomputable def E8:List AV:=[bq,bh,aT,aU,aW,.fl [.str [64,115,111,108,118,101,32,115,97,116,105,115,102,121,59],.str [64,111,117,116,112,117,116,32,91,93,59]]]
theorem Gz:E8=iF.map λl=>AV.fl (l.map AV.str):=by kernel_rfl
theorem Aj:∀ l∈iF,l.length < 30∧0 < l.length∧∀ r∈l,r.length < 100:=by
 have h:(iF.all λl=>Nat.blt l.length 30&&Nat.blt 0 l.length&&l.all λr=>Nat.blt r.length 100)=true:=by decide +kernel
 intro l hl
 have h1:=List.all_eq_true.mp h l hl
 rw [Bool.and_eq_true,Bool.and_eq_true] at h1
 exact ⟨Nat.le_of_ble_eq_true h1.1.1,Nat.le_of_ble_eq_true h1.1.2,λr hr=>Nat.le_of_ble_eq_true (List.all_eq_true.mp h1.2 r hr)⟩
theorem DS {m:Nat} (hm:m=1∨m=2):I4 (some (.int (m:Int)))=some (ek m)∧(ek m).length=1∧ek m≠[77]:=by
 rcases hm with rfl |rfl<;>exact ⟨by kernel_rfl,by kernel_rfl,by decide +kernel⟩
section
variable {b:Base} {H:aa}
theorem Du {m:Nat} (hm:m=1∨m=2) {r:List Nat} (hr:r.length < 100):EZ 77 (I4 (some (.int (m:Int)))) (.str r) H=.ok (.str (aN m r)) H:=by
 refine bZ (DS hm) ?_;intro h1 h2 h3
 refine sY (h1 ..)▸?_
 show (if ek m≠[77]∧r.length+(r.length+1) * (ek m).length≤16777216 then _ else _)=_
 rewrite [if_pos ⟨h3,by rw [h2,Nat.mul_one];exact CF (Nat.le_of_lt hr) hr rfl⟩]
 rfl
theorem pN {i j:Nat}:(ba b).run (.int (i:Int)) (.int (j:Int)) H=.ok (.bool (decide (i=j))) H:=by
 show Res.ok (AV.bool (((i:Int)==(j:Int)) != false)) H=_
 have:((i:Int)==(j:Int))=decide (i=j):=by
  rw [Bool.eq_iff_iff,beq_iff_eq,decide_eq_true_iff];exact Int.ofNat_inj
 rw [this];cases decide (i=j)<;>rfl
end
section
variable (Z:U)
noncomputable abbrev vk (m first:Nat) (rv:AV):Loc:=[(14,.int (m:Int)),(82,.int (first:Int)),(34,rv),(75,.ref 0)]
noncomputable abbrev bM (row:List Nat) (fC:AV) (way:Nat) (L:Loc):Loc:=(16,.str row)::(81,fC)::(80,.int (way:Int))::L
theorem CJ {rows:List (List Nat)} (hr:rows.length < 100) {L:Loc} (jY:L.lookup 34=some (.fl (rows.map AV.str))) {row:List Nat} (Ol:L.lookup 16=some (.str row)) {i:Nat} {H:aa} :
  aF (kS Z ((1,.int (i:Int))::L) H)=.ok (.fl ((rows.take i++row::rows.drop i).map AV.str)) H:=by
 have xG:List.lookup 34 ((1,AV.int (i:Int))::L)=some (.fl (rows.map AV.str)):=jY
 have Ot:List.lookup 16 ((1,AV.int (i:Int))::L)=some (.str row):=Ol
 have hlen:(rows.map AV.str).length < 3900:=by rw [List.length_map];exact dU hr rfl
 unfold kS
 refine yH (gl xG) ?_
 repeat rw [ae]
 refine yH (gl (x:=1) (v:=.int (i:Int)) rfl) ?_
 repeat rw [ae]
 refine nF (vD hlen) ?_;refine sY (vY ..)▸?_
 repeat rw [ae]
 refine Hs (gl Ot) ?_
 repeat rw [ae]
 refine nF xI ?_
 repeat rw [ae]
 rw [mM (by
  refine sY (List.length_singleton ..)▸?_;refine sY (List.length_take ..)▸?_;exact CH (Nat.lt_of_le_of_lt (Nat.min_le_right _ _) hlen) rfl)]
 repeat rw [ae]
 refine nF (gl xG) ?_
 repeat rw [ae]
 refine nF (gl (x:=1) (v:=.int (i:Int)) rfl) ?_
 repeat rw [ae]
 refine vT (EW hlen) ?_;refine sY (Es ..)▸?_
 repeat rw [ae]
 rw [mM (by
  refine sY (List.length_append ..)▸?_;refine sY (List.length_singleton ..)▸?_;refine sY (List.length_take ..)▸?_;refine sY (List.length_drop ..)▸?_;exact KY hlen)]
 repeat rw [ae]
 refine l7 dM ?_
 show Res.ok (AV.fl _) H=_
 refine sY (List.map_append ..)▸?_;refine sY (List.map_cons ..)▸?_;refine sY (List.map_take ..)▸?_;refine sY (List.map_drop ..)▸?_;rewrite [List.append_assoc]
 rfl
theorem ub {i:Int} {H:aa}:wK (.int i) H=.ok (.int (-i)) H:=rfl
theorem vW {l:List AV}:upTo l (-2)=l.take (l.length - 2)∧upTo l (-1)=l.take (l.length - 1)∧ft l (-1)=l.drop (l.length - 1):=⟨vX (i:=1),vX (i:=0),Er (i:=0)⟩
section
variable {b:Base} {H:aa}
theorem LO {i:Nat}:(ba b).run (.int (i:Int)) (.int 0) H=.ok (.bool (decide (i=0))) H:=pN (j:=0)
theorem eq1 {i:Nat}:(ba b).run (.int (i:Int)) (.int 1) H=.ok (.bool (decide (i=1))) H:=pN (j:=1)
theorem eq3 {i:Nat}:(ba b).run (.int (i:Int)) (.int 3) H=.ok (.bool (decide (i=3))) H:=pN (j:=3)
theorem eq4 {i:Nat}:(ba b).run (.int (i:Int)) (.int 4) H=.ok (.bool (decide (i=4))) H:=pN (j:=4)
theorem eq5 {i:Nat}:(ba b).run (.int (i:Int)) (.int 5) H=.ok (.bool (decide (i=5))) H:=pN (j:=5)
end
structure BL (L:Loc) (rows:List (List Nat)) (row:List Nat) (first way:Nat):Prop where
 iH:L.lookup 34=some (.fl (rows.map AV.str))
 BS:L.lookup 16=some (.str row)
 BQ:L.lookup 80=some (.int (way:Int))
 Ng:L.lookup 82=some (.int (first:Int))
 jX:L.lookup 75=some (.ref 0)
theorem Jm {rows:List (List Nat)} (hr:rows.length < 100) {L:Loc} {row:List Nat} {first way:Nat} (B:BL L rows row first way) {H:aa} :
  iR Z L H=if way=3 then .ok (.ret (.fl ((rows.take (rows.length - 2)++row::rows.drop (rows.length - 1)).map AV.str)),L) H else iS Z L H:=by
 have hlen:(rows.map AV.str).length < 3900:=by rw [List.length_map];exact dU hr rfl
 unfold iR
 refine b3 (gl B.BQ) ?_
 refine k3 ?_
 refine b3 eq3 ?_
 skip
 refine b2 a8 ?_
 skip
 by_cases h:way=3
 ·refine sY (if_pos h ..)▸?_;refine sY (decide_eq_true h ..)▸?_
  dsimp only
  refine b6 (gl B.iH) ?_
  refine k7 ?_
  refine b6 ub ?_
  skip
  refine b5 (vD hlen) ?_;refine sY (vW.1 ..)▸?_
  skip
  refine b7 (gl B.BS) ?_
  refine k7 (k6 ?_)
  refine b5 xI ?_
  skip
  rw [mM (by
   refine sY (List.length_singleton ..)▸?_;refine sY (List.length_take ..)▸?_;exact CH (Nat.lt_of_le_of_lt (Nat.min_le_right _ _) hlen) rfl)]
  refine k4 ?_
  refine b5 (gl B.iH) ?_
  refine k6 ?_
  refine b5 ub ?_
  skip
  refine b4 (EW hlen) ?_;refine sY (vW.2.2 ..)▸?_
  skip
  rw [mM (by
   refine sY (List.length_append ..)▸?_;refine sY (List.length_singleton ..)▸?_;refine sY (List.length_take ..)▸?_;refine sY (List.length_drop ..)▸?_;exact KY hlen)]
  refine k3 (k2 ?_)
  refine b1 dM ?_
  skip
  refine sY (dM ..)▸?_;refine sY (List.map_append ..)▸?_;refine sY (List.map_cons ..)▸?_;refine sY (List.map_take ..)▸?_;refine sY (List.map_drop ..)▸?_;rewrite [List.append_assoc,List.length_map]
  rfl
 ·refine sY (if_neg h ..)▸?_;refine sY (decide_eq_false h ..)▸?_
  dsimp only
  refine k1 ?_;refine sY (aC ..)▸?_;rfl
theorem Jn {rows:List (List Nat)} (hr:rows.length < 100) {L:Loc} {row:List Nat} {first way:Nat} (B:BL L rows row first way) {H:aa} :
  iS Z L H=if way=4 then .ok (.ret (.fl ((rows.take (rows.length - 1)++[row]).map AV.str)),L) H else iT Z L H:=by
 have hlen:(rows.map AV.str).length < 3900:=by rw [List.length_map];exact dU hr rfl
 unfold iS
 refine b3 (gl B.BQ) ?_
 refine k3 ?_
 refine b3 eq4 ?_
 skip
 refine b2 a8 ?_
 skip
 by_cases h:way=4
 ·refine sY (if_pos h ..)▸?_;refine sY (decide_eq_true h ..)▸?_
  dsimp only
  refine b5 (gl B.iH) ?_
  refine k6 ?_
  refine b5 ub ?_
  skip
  refine b4 (vD hlen) ?_;refine sY (vW.2.1 ..)▸?_
  skip
  refine b6 (gl B.BS) ?_
  refine k6 (k5 ?_)
  refine b4 xI ?_
  skip
  rw [mM (by
   refine sY (List.length_singleton ..)▸?_;refine sY (List.length_take ..)▸?_;exact CH (Nat.lt_of_le_of_lt (Nat.min_le_right _ _) hlen) rfl)]
  refine k3 (k2 ?_)
  refine b1 dM ?_
  skip
  refine sY (dM ..)▸?_;refine sY (List.map_append ..)▸?_;refine sY (List.map_take ..)▸?_;rewrite [List.length_map]
  rfl
 ·refine sY (if_neg h ..)▸?_;refine sY (decide_eq_false h ..)▸?_
  dsimp only
  refine k1 ?_;refine sY (aC ..)▸?_;rfl
theorem Jo {rows:List (List Nat)} (hr:rows.length < 100) {L:Loc} {row:List Nat} {first way:Nat} (B:BL L rows row first way) {H:aa} :
  iT Z L H=if way=5 then .ok (.ret (.fl ((rows++[row]).map AV.str)),L) H else iU Z L H:=by
 have hlen:(rows.map AV.str).length < 3900:=by rw [List.length_map];exact dU hr rfl
 unfold iT
 refine b3 (gl B.BQ) ?_
 refine k3 ?_
 refine b3 eq5 ?_
 skip
 refine b2 a8 ?_
 skip
 by_cases h:way=5
 ·refine sY (if_pos h ..)▸?_;refine sY (decide_eq_true h ..)▸?_
  dsimp only
  refine b4 (gl B.iH) ?_
  skip
  refine b6 (gl B.BS) ?_
  refine k6 (k5 ?_)
  refine b4 xI ?_
  skip
  rw [mM (by
   refine sY (List.length_singleton ..)▸?_;exact iQ hlen rfl)]
  refine k3 (k2 ?_)
  refine b1 dM ?_
  skip
  refine sY (dM ..)▸?_;refine sY (List.map_append ..)▸?_
  rfl
 ·refine sY (if_neg h ..)▸?_;refine sY (decide_eq_false h ..)▸?_
  dsimp only
  refine k1 ?_;refine sY (aC ..)▸?_;rfl
theorem Jp {cs:List AV} (C:CellsOk cs) {k:Nat} (hk:k < 200) (R:aa) {rows:List (List Nat)} (hr:rows.length < 100) {L:Loc} {row:List Nat} {first way:Nat} (B:BL L rows row first way) :
  ∃ i,(if way=0 then i≤first else i≤rows.length)∧aF (iU Z L (aj cs k::R))=.ok (.fl ((rows.take i++row::rows.drop i).map AV.str)) (aj cs (k+1)::R):=by
 have hlen:(rows.map AV.str).length < 3900:=by rw [List.length_map];exact dU hr rfl
 unfold iU
 by_cases h:way=0
 ·refine ai (dQ Z C hk (n:=first+1) (Nat.succ_pos _) R) ?_;intro d hd e
  refine ⟨d,by rw [if_pos h];exact Nat.le_of_succ_le_succ hd,?_⟩
  refine nF (gl B.BQ) ?_
  repeat rw [ae]
  refine nF LO ?_
  repeat rw [ae]
  refine vT a8 ?_
  repeat rw [ae]
  refine sY (decide_eq_true h ..)▸?_
  dsimp only
  refine nF (gl B.jX) ?_
  repeat rw [ae]
  refine Hs (gl B.Ng) ?_
  repeat rw [ae]
  refine yH add_one ?_
  repeat rw [ae]
  refine AO e ?_
  repeat rw [ae]
  refine l7 aC ?_
  exact CJ Z hr B.iH B.BS
 ·refine ai (dQ Z C hk (n:=rows.length+1) (Nat.succ_pos _) R) ?_;intro d hd e
  refine ⟨d,by rw [if_neg h];exact Nat.le_of_succ_le_succ hd,?_⟩
  refine nF (gl B.BQ) ?_
  repeat rw [ae]
  refine nF LO ?_
  repeat rw [ae]
  refine vT a8 ?_
  repeat rw [ae]
  refine sY (decide_eq_false h ..)▸?_
  dsimp only
  refine nF (gl B.jX) ?_
  repeat rw [ae]
  refine MK (gl B.iH) ?_
  repeat rw [ae]
  refine Hs (pj hlen) ?_
  repeat rw [ae]
  refine yH add_one ?_
  repeat rw [ae]
  rewrite [List.length_map];refine AO e ?_
  repeat rw [ae]
  refine l7 aC ?_
  exact CJ Z hr B.iH B.BS
theorem mx {way:Nat} {fC x:List (List Nat)} (h:iF[way]?=some fC) (e:iF[way]?=some x) {r:List Nat} (hr:r∈fC):r∈x:=Option.some.inj (h.symm.trans e)▸hr
theorem EJ {cs:List AV} (C:CellsOk cs) {k:Nat} (hk:k < 190) (R:aa) {rows:List (List Nat)} (hr:rows.length < 100) (first:Nat) {m:Nat} (hm:m=1∨m=2) :
  ∃ k' out,k'≤k+3∧il rows first m out∧(ki Z).run [.ref 0,.fl (rows.map AV.str),.int (first:Int),.int (m:Int)] (aj cs k::R)=.ok (.fl (out.map AV.str)) (aj cs k'::R):=by
 have e0:(ki Z).run [.ref 0,.fl (rows.map AV.str),.int (first:Int),.int (m:Int)] (aj cs k::R)=aF (tN Z (vk m first (.fl (rows.map AV.str))) (aj cs k::R)):=by kernel_rfl
 refine ai (dQ Z C (k:=k) (dU hk rfl) (n:=6) (by decide) R) ?_;intro way Al e1
 have zp:(aR Z).run [.ref 0,.int 6] (aj cs k::R)=.ok (.int (way:Int)) (aj cs (k+1)::R):=e1
 obtain ⟨fC,Ec⟩:∃ fC,iF[way]?=some fC:=⟨iF[way]'Al,List.getElem?_eq_getElem Al⟩
 have Mw:=List.mem_of_getElem? Ec
 refine bZ (Aj fC Mw) ?_;intro s1 s2 s3
 have IS:(iF.map λl=>AV.fl (l.map AV.str))[way]?=some (.fl (fC.map AV.str)):=by rw [List.getElem?_map,Ec];rfl
 rw [← Gz] at IS
 refine ai (dQ Z C (k:=k+1) (iQ hk rfl) (n:=(fC.map AV.str).length) (by rw [List.length_map];exact s2) R) ?_;intro d hd e2
 rw [List.length_map] at hd
 obtain ⟨r,IC⟩:∃ r,fC[d]?=some r:=⟨fC[d],List.getElem?_eq_getElem hd⟩
 have xf:=List.mem_of_getElem? IC
 have NH:(fC.map AV.str)[d]?=some (.str r):=by rw [List.getElem?_map,IC];rfl
 have Bx:BL (bM (aN m r) (.fl (fC.map AV.str)) way (vk m first (.fl (rows.map AV.str)))) rows (aN m r) first way:=⟨rfl,rfl,rfl,rfl,rfl⟩
 have run:tN Z (vk m first (.fl (rows.map AV.str))) (aj cs k::R)=iR Z (bM (aN m r) (.fl (fC.map AV.str)) way (vk m first (.fl (rows.map AV.str)))) (aj cs (k+2)::R):=by
  refine jr (l:=(80,.int (way:Int))::vk m first (.fl (rows.map AV.str))) (H:=aj cs (k+1)::R) ?_ ?_
  ·exact b1 (a:=.int (way:Int)) (H:=aj cs (k+1)::R) (b1 (a:=[.ref 0,.int 6]) (H:=aj cs k::R) rfl zp) rfl
  refine jr (l:=(81,.fl (fC.map AV.str))::(80,.int (way:Int))::vk m first (.fl (rows.map AV.str))) (H:=aj cs (k+1)::R) ?_ ?_
  ·refine b1 (a:=.fl (fC.map AV.str)) (H:=aj cs (k+1)::R) ?_ rfl
   refine b1 (a:=.fl E8) (H:=aj cs (k+1)::R) (by kernel_rfl) ?_
   refine b1 (a:=.int (way:Int)) (H:=aj cs (k+1)::R) (gl rfl) ?_
   exact my IS (Nat.lt_trans Al (by decide))
  refine jr (l:=bM (aN m r) (.fl (fC.map AV.str)) way (vk m first (.fl (rows.map AV.str)))) (H:=aj cs (k+2)::R) ?_ rfl
  refine b1 (a:=.str (aN m r)) (H:=aj cs (k+2)::R) ?_ rfl
  have lk:List.lookup 14 ((81,AV.fl (fC.map AV.str))::(80,AV.int (way:Int))::vk m first (.fl (rows.map AV.str)))=some (.int (m:Int)):=rfl
  refine b1 (a:=.str r) (H:=aj cs (k+2)::R) ?_ (by rw [lk];exact Du hm (s3 r xf))
  refine b1 (a:=.fl (fC.map AV.str)) (H:=aj cs (k+1)::R) (gl rfl) ?_
  refine b1 (a:=.int (d:Int)) (H:=aj cs (k+2)::R) ?_ ?_
  rotate_left
  ·exact my NH (Nat.lt_trans hd (Nat.lt_trans s1 (by decide)))
  refine b1 (a:=[.ref 0,.int ((fC.map AV.str).length:Int)]) (H:=aj cs (k+1)::R) ?_ e2
  refine b1 (a:=.ref 0) (H:=aj cs (k+1)::R) (gl rfl) ?_
  refine b1 (a:=[.int ((fC.map AV.str).length:Int)]) (H:=aj cs (k+1)::R) ?_ rfl
  refine b1 (a:=.int ((fC.map AV.str).length:Int)) (H:=aj cs (k+1)::R) ?_ rfl
  refine b1 (a:=[.fl (fC.map AV.str)]) (H:=aj cs (k+1)::R) (b1 (a:=.fl (fC.map AV.str)) (H:=aj cs (k+1)::R) (gl rfl) rfl) ?_
  exact pj (by rw [List.length_map];exact Nat.lt_trans s1 (by decide))
 refine sY (e0 ..)▸?_;refine sY (run ..)▸?_;refine sY (Jm Z hr Bx ..)▸?_;refine sY (Jn Z hr Bx ..)▸?_;refine sY (Jo Z hr Bx ..)▸?_
 refine ai (Jp Z C (k:=k+2) (CH hk rfl) R hr Bx) ?_;intro i hi e3
 revert Ec hi e3
 clear IS e1 zp run Bx
 refine Nd way Al ?_ ?_ ?_ ?_ ?_ ?_
 ·exact λhl hi e3=>⟨k+3,_,Nat.le_refl _,.v (mx hl rfl xf) hi,e3⟩
 ·exact λhl hi e3=>⟨k+3,_,Nat.le_refl _,.h (mx hl rfl xf) hi,e3⟩
 ·exact λhl hi e3=>⟨k+3,_,Nat.le_refl _,.t (mx hl rfl xf) hi,e3⟩
 ·exact λhl _ _=>⟨k+2,_,Nat.le_succ _,.g (mx hl rfl xf),rfl⟩
 ·exact λhl _ _=>⟨k+2,_,Nat.le_succ _,.s (mx hl rfl xf),rfl⟩
 ·exact λhl _ _=>⟨k+2,_,Nat.le_succ _,.x (mx hl rfl xf),rfl⟩
end
noncomputable abbrev pr (x:aA):AV:=.tup [x.1,.str x.2]
noncomputable def oA:List (AV×String):=[(.tup [.str (cd "linear_le"),.tup [.int 1],.tup [.int 0],.int 4],"linear_le([1], [0], 4)"),(.tup [.str (cd "all_different"),.tup [.int 0],.str (cd "values")],"all_different([0], \"values\")"),(.tup [.str (cd "circuit"),.tup []],"circuit([])"),(.tup [.str (cd "table"),.tup [.int 0],.tup [.tup [.int 1],.tup [.int 3]]],"table([0], [[1], [3]])")]
noncomputable def pA:List (AV×String):=[(.tup [.str (cd "satisfy"),.none],"satisfy"),(.tup [.str (cd "minimize"),.int 0],"minimize 0"),(.tup [.str (cd "maximize"),.int 0],"maximize 0")]
noncomputable def oI:List (AV×String):=[(.tup [],"[]"),(.tup [.tup [.str (cd "int"),.int 0]],"[int(0)]"),(.tup [.tup [.str (cd "text"),.str (cd "y")],.tup [.str (cd "list"),.tup [.tup [.str (cd "bool"),.int 0]]]],"[text(\"y\"), list([bool(0)])]"),(.tup [.tup [.str (cd "if"),.int 0,.tup [.tup [.str (cd "int"),.int 0]],.tup []]],"[if(0, [int(0)], [])]")]
theorem tabs:bU=oA.map (λp=>eR p.1 p.2)∧cj=pA.map (λp=>mB p.1 p.2)∧cY=oI.map (λp=>jb p.1 p.2):=⟨rfl,rfl,rfl⟩
noncomputable abbrev pp (p:AV×String):AV:=.tup [p.1,.str (cd p.2)]
noncomputable abbrev pn (p:String×String):AV:=.tup [.str (cd p.1),.str (cd p.2)]
noncomputable abbrev pd (p:List (Int×Int)×String):AV:=.tup [wq p.1,.str (cd p.2)]
theorem l9:(∀ p∈oA++pA++oI,(cd p.2).length < 100)∧(∀ p∈pe,(cd p.2).length < 100)∧∀ p∈tA,(cd p.2).length < 100:=by
 have h:((oA++pA++oI).all λp=>Nat.blt (cd p.2).length 100)=true∧(pe.all λp=>Nat.blt (cd p.2).length 100)=true∧(tA.all λp=>Nat.blt (cd p.2).length 100)=true:=by decide +kernel
 exact ⟨λp hp=>Nat.le_of_ble_eq_true (List.all_eq_true.mp h.1 p hp),λp hp=>Nat.le_of_ble_eq_true (List.all_eq_true.mp h.2.1 p hp),λp hp=>Nat.le_of_ble_eq_true (List.all_eq_true.mp h.2.2 p hp)⟩
theorem zD {b:Base} {H:aa} {i:Nat} {l:List AV} {u:AV} (h:H[i]?=some (.list l)) (hl:l.length < 3900):(aH b).run (.ref i) [u] H=.ok .none (H.set i (.list (l++[u]))):=by
 show (match H[i]? with
   |some (.list l)=>if l.length < aq then Res.ok AV.none (H.set i (.list (l++[u]))) else .stuck
   |_=>.stuck)=_
 refine sY (h ..)▸?_
 dsimp only
 have:8000≤aq:=by decide
 rewrite [if_pos (dU hl rfl)];rfl
theorem CI {b:Base} {H:aa} {i:Nat} {l:List AV} {f:aa→Res AV} (h:H[i]?=some (.list l)):gp (aH b) (.ref i) H f=f H:=by
 have:(aH b).is (.ref i) H=true:=by
  show (match H[i]? with
   |some (.list _)=>true
   |_=>false)=true
  refine sY (h ..)▸?_;rfl
 unfold gp;rw [this]
theorem Mg {u v x y:AV} {H:aa}:(if [u,v,x,y].length≤aq then Res.ok (AV.tup [u,v,x,y]) H else Res.stuck)=.ok (.tup [u,v,x,y]) H:=rfl
theorem Mf {x y:Nat} {u v:AV} {loc:Loc} {H:aa}:lQ [x,y] (.tup [u,v]) loc H=.ok (.next,(y,v)::(x,u)::loc) H:=rfl
theorem pick {α:Type} {T:List α} {f:α→AV} {d:Nat} (h:d < T.length):∃ p∈T,(T.map f)[d]?=some (f p):=⟨T[d],List.getElem_mem h,by rw [List.getElem?_map,List.getElem?_eq_getElem h];rfl⟩
theorem oF {F D:List AV→aa→Res AV} {T:List AV} {H H':aa} {L:Loc} {x y d:Nat} {n:Int} {u v:AV} {K:Loc→aa→Res (av×Loc)} (hF:F [] H=.ok (.fl T) H) (M:L.lookup 75=some (.ref 0)) (e:D [.ref 0,.int n] H=.ok (.int (d:Int)) H') (hi:T[d]?=some (.tup [u,v])) (hd:d < 3900) :
  (((((Res.ok [] H).bind λvs H=>F vs H).bind λv H=>(((ab L 75 H).bind λv H=>((Res.ok (AV.int n) H).bind λv H=>(Res.ok [] H).bind λvs H=>Res.ok (v::vs) H).bind λvs H=>Res.ok (v::vs) H).bind λvs H=>D vs H).bind λi H=>cG v i H).bind λv H=>lQ [x,y] v L H).bind λfl H=>au fl H λloc H=>K loc H)=K ((y,v)::(x,u)::L) H':=by
 refine jr (l:=(y,v)::(x,u)::L) (H:=H') ?_ rfl
 refine b1 (a:=.tup [u,v]) (H:=H') ?_ Mf
 refine b1 (a:=.fl T) (H:=H) (b1 (a:=[]) (H:=H) rfl hF) ?_
 refine b1 (a:=.int (d:Int)) (H:=H') ?_ ?_
 ·exact b1 (a:=[.ref 0,.int n]) (H:=H) (b1 (a:=.ref 0) (H:=H) (gl M) rfl) e
 ·exact my hi hd
theorem xS {b:Base} {a s:List Nat} {L:Loc} {x:Nat} {H:aa} (h:L.lookup x=some (.str s)) (ha:a.length < 100) (hs:s.length < 100) :
  (((((Res.ok (AV.str a) H).bind λu H=>(ab L x H).bind λv H=>(aB b).run u v H).bind λu H=>(Res.ok (AV.str [59]) H).bind λv H=>(aB b).run u v H).bind λv H=>(Res.ok [] H).bind λvs H=>Res.ok (v::vs) H)=Res.ok [.str (a++s++[59])] H):=by
 refine b1 (a:=.str (a++s++[59])) (H:=H) ?_ rfl
 refine b1 (a:=.str (a++s)) (H:=H) ?_ ?_
 ·refine b1 (a:=.str a) (H:=H) rfl ?_
  exact b1 (a:=.str s) (H:=H) (gl h) (add_str (by exact OM ha hs rfl))
 ·refine b1 (a:=.str [59]) (H:=H) rfl ?_
  exact add_str (by rw [List.length_append,List.length_singleton];omega)
section
variable (Z:U)
theorem BF (H:aa):(lZ Z).run [] H=.ok (.fl (pe.map pn)) H:=by kernel_rfl
theorem EF (H:aa):(jR Z).run [] H=.ok (.fl (tA.map pd)) H:=by kernel_rfl
theorem AY (H:aa):(lX Z).run [] H=.ok (.fl (oA.map pp)) H:=by kernel_rfl
theorem Cn (H:aa):(l0 Z).run [] H=.ok (.fl (pA.map pp)) H:=by kernel_rfl
theorem Be (H:aa):(lY Z).run [] H=.ok (.fl (oI.map pp)) H:=by kernel_rfl
theorem yf (F:aK):(jm Z).run [.ref 0] [F]=aF (gH Z [(29,.ref 1),(75,.ref 0)] [F,.list [pr ay]]):=by kernel_rfl
structure ML (L:Loc):Prop where
 jX:L.lookup 75=some (.ref 0)
 sR:L.lookup 29=some (.ref 1)
 l5:L.lookup 5=some (.ref 2)
theorem oC {cs:List AV} (C:CellsOk cs) {k:Nat} (hk:k < 200) {L:Loc} (M:ML L) (A:aK) (l:List AV) (hl:l.length < 100) :
  ∃ x∈bU,∃ L',ML L'∧el Z L [aj cs k,A,.list l]=.ok (.next,L') [aj cs (k+1),A,.list (l++[pr x])]:=by
 refine ai (dQ Z C hk (n:=4) (by decide) [A,.list l]) ?_;intro d hd e
 have e':(aR Z).run [.ref 0,.int 4] [aj cs k,A,.list l]=.ok (.int (d:Int)) [aj cs (k+1),A,.list l]:=e
 refine ai (pick (T:=oA) (f:=pp) (d:=d) hd) ?_;intro p hp hi
 have hz:=l9.1 p (List.mem_append_left _ (List.mem_append_left _ hp))
 have M':ML ((10,.str (cd p.2))::(31,p.1)::L):=⟨M.jX,M.sR,M.l5⟩
 refine ⟨eR p.1 p.2,by rw [tabs.1];exact List.mem_map.mpr ⟨p,hp,rfl⟩,_,M',?_⟩
 refine (oF (K:=nS Z) (AY Z [aj cs k,A,.list l]) M.jX e' hi (dU hd rfl)).trans ?_
 exact jr (l:=(10,.str (cd p.2))::(31,p.1)::L) (H:=[aj cs (k+1),A,.list (l++[pr (eR p.1 p.2)])]) (b1 (a:=.none) (H:=[aj cs (k+1),A,.list (l++[pr (eR p.1 p.2)])]) (b1 (a:=.ref 2) (H:=[aj cs (k+1),A,.list l]) (gl M'.l5) ((CI rfl).trans (b1 (a:=[pr (eR p.1 p.2)]) (H:=[aj cs (k+1),A,.list l]) (b1 (a:=pr (eR p.1 p.2)) (H:=[aj cs (k+1),A,.list l]) (b1 (a:=[p.1,.str (eR p.1 p.2).2]) (H:=[aj cs (k+1),A,.list l]) (b1 (a:=p.1) (H:=[aj cs (k+1),A,.list l]) rfl (b1 (H:=[aj cs (k+1),A,.list l]) (xS rfl (by decide) hz) rfl)) oz) rfl) (zD rfl (dU hl rfl))))) rfl) rfl
theorem y6 (L:Loc) (F A:aK):nP Z L [F,A]=g6 Z ((5,.ref 2)::L) [F,A,.list []]:=by kernel_rfl
theorem JK {b:Base} {s r:List Nat} {L:Loc} {H:aa} (h:L.lookup 10=some (.str s)) (h':L.lookup 77=some (.str r)) (hs:s.length < 100) (hr:r.length < 100) :
  ((((((Res.ok (AV.str [118,97,114,32]) H).bind λu H=>(ab L 10 H).bind λv H=>(aB b).run u v H).bind λu H=>(Res.ok (AV.str [58,32]) H).bind λv H=>(aB b).run u v H).bind λu H=>(ab L 77 H).bind λv H=>(aB b).run u v H).bind λu H=>(Res.ok (AV.str [59]) H).bind λv H=>(aB b).run u v H).bind λv H=>(Res.ok [] H).bind λvs H=>Res.ok (v::vs) H)=Res.ok [.str ([118,97,114,32]++s++[58,32]++r++[59])] H:=by
 have l4:([118,97,114,32]:List Nat).length=4:=rfl
 have l2:([58,32]:List Nat).length=2:=rfl
 refine b1 (a:=.str ([118,97,114,32]++s++[58,32]++r++[59])) (H:=H) ?_ rfl
 refine b1 (a:=.str ([118,97,114,32]++s++[58,32]++r)) (H:=H) ?_ ?_
 ·refine b1 (a:=.str ([118,97,114,32]++s++[58,32])) (H:=H) ?_ (b1 (a:=.str r) (H:=H) (gl h') (add_str (by rw [List.length_append,List.length_append];exact rw3 hs hr)))
  refine b1 (a:=.str ([118,97,114,32]++s)) (H:=H) ?_ ?_
  ·exact b1 (a:=.str [118,97,114,32]) (H:=H) rfl (b1 (a:=.str s) (H:=H) (gl h) (add_str (by exact rw1 hs)))
  ·exact b1 (a:=.str [58,32]) (H:=H) rfl (add_str (by rw [List.length_append];exact rw2 hs))
 ·exact b1 (a:=.str [59]) (H:=H) rfl (add_str (by rw [List.length_append,List.length_append,List.length_append,List.length_singleton];exact rw4 hs hr))
theorem Gx {L:Loc} {u v:AV} {s r:List Nat} (h8:L.lookup 8=some u) (h9:L.lookup 9=some v) (rj:L.lookup 10=some (.str s)) (Oi:L.lookup 77=some (.str r)) (Oj:L.lookup 29=some (.ref 1)) (hs:s.length < 100) (hr:r.length < 100) (F:aK) {l:List AV} (hl:l.length < 100) :
  jU Z L [F,.list l]=.ok (.next,L) [F,.list (l++[.tup [.tup [u,v],.str ([118,97,114,32]++s++[58,32]++r++[59])]])]:=
 jr (l:=L) (H:=[F,.list (l++[.tup [.tup [u,v],.str ([118,97,114,32]++s++[58,32]++r++[59])]])]) (b1 (a:=.none) (H:=[F,.list (l++[.tup [.tup [u,v],.str ([118,97,114,32]++s++[58,32]++r++[59])]])]) (b1 (a:=.ref 1) (H:=[F,.list l]) (gl Oj) ((CI rfl).trans (b1 (a:=[.tup [.tup [u,v],.str ([118,97,114,32]++s++[58,32]++r++[59])]]) (H:=[F,.list l]) (b1 (a:=.tup [.tup [u,v],.str ([118,97,114,32]++s++[58,32]++r++[59])]) (H:=[F,.list l])
  (b1 (a:=[.tup [u,v],.str ([118,97,114,32]++s++[58,32]++r++[59])]) (H:=[F,.list l]) (b1 (a:=.tup [u,v]) (H:=[F,.list l]) (b1 (a:=[u,v]) (H:=[F,.list l]) (b1 (a:=u) (H:=[F,.list l]) (gl h8) (b1 (a:=[v]) (H:=[F,.list l]) (b1 (a:=v) (H:=[F,.list l]) (gl h9) rfl) rfl)) oz) (b1 (H:=[F,.list l]) (JK rj Oi hs hr) rfl)) oz) rfl) (zD rfl (dU hl rfl))))) rfl) rfl
theorem CV {cs:List AV} (C:CellsOk cs) {k:Nat} (hk:k < 150) :
  ∃ k' ys L,k'≤k+3∧(∀ y∈ys,y∈dv)∧ys.length≤1∧ML L∧gH Z [(29,.ref 1),(75,.ref 0)] [aj cs k,.list [pr ay]]=g6 Z L [aj cs k',.list ((ay::ys).map pr),.list []]:=by
 refine ai (dQ Z C (k:=k) (dU hk rfl) (n:=2) (by decide) [.list [pr ay]]) ?_;intro d hd e
 have e':(aR Z).run [.ref 0,.int 2] [aj cs k,.list [pr ay]]=.ok (.int (d:Int)) [aj cs (k+1),.list [pr ay]]:=e
 by_cases h:d=1
 ·refine ai (dQ Z C (k:=k+1) (iQ hk rfl) (n:=8) (by decide) [.list [pr ay]]) ?_;intro d2 hd2 e2
  have Jg:(aR Z).run [.ref 0,.int 8] [aj cs (k+1),.list [pr ay]]=.ok (.int (d2:Int)) [aj cs (k+1+1),.list [pr ay]]:=e2
  refine ai (dQ Z C (k:=k+1+1) (FO hk rfl) (n:=5) (by decide) [.list [pr ay]]) ?_;intro d3 zg e3
  have OH:(aR Z).run [.ref 0,.int 5] [aj cs (k+1+1),.list [pr ay]]=.ok (.int (d3:Int)) [aj cs (k+1+1+1),.list [pr ay]]:=e3
  refine ai (pick (T:=pe) (f:=pn) (d:=d2) hd2) ?_;intro n hn hi
  refine ai (pick (T:=tA) (f:=pd) (d:=d3) zg) ?_;intro p hp hj
  have z1:=l9.2.1 n hn
  have z2:=l9.2.2 p hp
  refine ⟨k+1+1+1,[vV n p],(5,.ref 2)::(10,.str (cd p.2))::(9,wq p.1)::(77,.str (cd n.2))::(8,.str (cd n.1))::[(29,.ref 1),(75,.ref 0)],Nat.le_refl _,?_,Nat.le_refl 1,⟨rfl,rfl,rfl⟩,?_⟩
  ·intro y hy
   rw [List.mem_singleton] at hy
   subst hy
   exact List.mem_flatMap.mpr ⟨n,hn,List.mem_map.mpr ⟨p,hp,rfl⟩⟩
  ·refine jr (l:=(10,.str (cd p.2))::(9,wq p.1)::(77,.str (cd n.2))::(8,.str (cd n.1))::[(29,.ref 1),(75,.ref 0)]) (H:=[aj cs (k+1+1+1),.list ([pr ay]++[pr (vV n p)])]) (b1 (a:=true) (H:=[aj cs (k+1),.list [pr ay]]) ?_ ?_) ?_
   ·refine b1 (a:=.int (d:Int)) (H:=[aj cs (k+1),.list [pr ay]]) (b1 (a:=[.ref 0,.int 2]) (H:=[aj cs k,.list [pr ay]]) rfl e') ?_
    exact b1 (a:=.int 1) (H:=[aj cs (k+1),.list [pr ay]]) rfl (b1 (a:=.bool true) (H:=[aj cs (k+1),.list [pr ay]]) (eq1.trans (by rw [decide_eq_true h])) rfl)
   ·refine (oF (K:=nT Z) (BF Z [aj cs (k+1),.list [pr ay]]) rfl Jg hi (dU hd2 rfl)).trans ?_
    refine (oF (K:=jU Z) (EF Z [aj cs (k+1+1),.list [pr ay]]) rfl OH hj (dU zg rfl)).trans ?_
    exact Gx Z rfl rfl rfl rfl rfl z2 z1 _ (by decide)
   exact y6 Z _ _ _
 ·refine ⟨k+1,[],(5,.ref 2)::[(29,.ref 1),(75,.ref 0)],Nat.lt_add_of_pos_right (Nat.succ_pos _),(λy hy=>by cases hy),by decide,⟨rfl,rfl,rfl⟩,?_⟩
  unfold gH
  rw [gl (x:=75) (v:=.ref 0) rfl]
  repeat rw [ae]
  rw [e']
  repeat rw [ae]
  rw [eq1]
  repeat rw [ae]
  rw [a8]
  repeat rw [ae]
  rw [decide_eq_false h]
  dsimp only
  repeat rw [ae]
  rw [aC]
  exact y6 Z _ _ _
theorem DO {L:Loc} (M:ML L) (v:AV):ML ((78,v)::L):=⟨M.jX,M.sR,M.l5⟩
theorem zO {cs:List AV} (C:CellsOk cs) {k:Nat} (hk:k < 150) {L:Loc} (M:ML L) (A:aK) {d:Nat} (hd:d < 3) :
  ∃ (xs:List aA) (L':Loc),(∀ x∈xs,x∈bU)∧xs.length≤2∧ML L'∧((fQ (B Z)).run [.int (d:Int)] [aj cs k,A,.list []]).bind (λit H=>bK false (λloc v=>some ((78,v)::loc)) (el Z) it (it.size H+1) 0 L H)=.ok (.next,L') [aj cs (k+d),A,.list (xs.map pr)]:=by
 refine KZ d hd ?_ ?_ ?_
 ·refine ⟨[],L,(λ_ h=>by cases h),by decide,M,?_⟩
  have rr:(fQ (B Z)).run [.int ((0:Nat):Int)] [aj cs k,A,.list []]=.ok (.ff 0 1 0) [aj cs k,A,.list []]:=by kernel_rfl
  refine b1 rr ?_
  show bK false (λloc v=>some ((78,v)::loc)) (el Z) (.ff 0 1 0) (0+1) 0 L _=_
  exact dP rfl rfl
 ·obtain ⟨x,hx,L1,M1,e1⟩:=oC Z C (k:=k) (dU hk rfl) (DO M (.int 0)) A [] (by decide)
  refine ⟨[x],L1,(λy h=>by rw [List.mem_singleton] at h;subst h;exact hx),by exact Nat.le_succ 1,M1,?_⟩
  have rr:(fQ (B Z)).run [.int ((1:Nat):Int)] [aj cs k,A,.list []]=.ok (.ff 0 1 1) [aj cs k,A,.list []]:=by kernel_rfl
  refine b1 rr ?_
  show bK false (λloc v=>some ((78,v)::loc)) (el Z) (.ff 0 1 1) (0+1+1) 0 L _=_
  exact (cA (v:=.int 0) rfl rfl rfl e1).trans (dP rfl rfl)
 ·obtain ⟨x,hx,L1,M1,e1⟩:=oC Z C (k:=k) (dU hk rfl) (DO M (.int 0)) A [] (by decide)
  obtain ⟨y,hy,L2,M2,e2⟩:=oC Z C (k:=k+1) (iQ hk rfl) (DO M1 (.int 1)) A [pr x] (by rw [List.length_singleton];exact Nat.le_add_left _ _)
  refine ⟨[x,y],L2,(λz h=>?_),Nat.le_refl 2,M2,?_⟩
  ·rcases List.mem_cons.mp h with rfl |h
   ·exact hx
   ·rw [List.mem_singleton] at h;subst h;exact hy
  have rr:(fQ (B Z)).run [.int ((2:Nat):Int)] [aj cs k,A,.list []]=.ok (.ff 0 1 2) [aj cs k,A,.list []]:=by kernel_rfl
  refine b1 rr ?_
  show bK false (λloc v=>some ((78,v)::loc)) (el Z) (.ff 0 1 2) (0+1+1+1) 0 L _=_
  exact (cA (v:=.int 0) rfl rfl rfl e1).trans ((cA (v:=.int 1) rfl rfl rfl e2).trans (dP rfl rfl))
theorem Gw {L:Loc} {u v:AV} {s r:List Nat} (M:ML ((77,.str r)::(7,v)::(10,.str s)::(6,u)::L)) (hs:s.length < 100) (hr:r.length < 100) (H:aa) :
  g7 Z ((77,.str r)::(7,v)::(10,.str s)::(6,u)::L) H=.ok (.ret (.tup [.ref 1,.ref 2,.tup [u,.str ([115,111,108,118,101,32]++s++[59])],.tup [v,.str ([111,117,116,112,117,116,32]++r++[59])]]),(77,.str r)::(7,v)::(10,.str s)::(6,u)::L) H:=by
 have c1:=xS (b:=B Z) (a:=[115,111,108,118,101,32]) (L:=(77,.str r)::(7,v)::(10,.str s)::(6,u)::L) (x:=10) (s:=s) (H:=H) rfl (by decide) hs
 have c2:=xS (b:=B Z) (a:=[111,117,116,112,117,116,32]) (L:=(77,.str r)::(7,v)::(10,.str s)::(6,u)::L) (x:=77) (s:=r) (H:=H) rfl (by decide) hr
 unfold g7
 refine b1 (a:=(av.ret (.tup [.ref 1,.ref 2,.tup [u,.str ([115,111,108,118,101,32]++s++[59])],.tup [v,.str ([111,117,116,112,117,116,32]++r++[59])]]),(77,.str r)::(7,v)::(10,.str s)::(6,u)::L)) (H:=H) (b1 (H:=H) ?_ rfl) rfl
 refine b1 (H:=H) (b1 (H:=H) (gl M.sR) (b1 (H:=H) (b1 (H:=H) (gl M.l5) (b1 (H:=H) (b1 (H:=H) (b1 (H:=H) (b1 (H:=H) (gl rfl) (b1 (H:=H) c1 rfl)) oz) (b1 (H:=H) (b1 (H:=H) (b1 (H:=H) (b1 (H:=H) (gl rfl) (b1 (H:=H) c2 rfl)) oz) rfl) rfl)) rfl)) rfl)) Mg
theorem BH {cs:List AV} (C:CellsOk cs) {k:Nat} (hk:k < 150) {L:Loc} (M:ML L) (A B':aK) :
  ∃ g s,g∈cj∧s∈cY∧aF (nQ Z L [aj cs k,A,B'])=.ok (.tup [.ref 1,.ref 2,pr g,pr s]) [aj cs (k+1+1),A,B']:=by
 refine ai (dQ Z C (k:=k) (dU hk rfl) (n:=3) (by decide) [A,B']) ?_;intro d hd e
 have e':(aR Z).run [.ref 0,.int 3] [aj cs k,A,B']=.ok (.int (d:Int)) [aj cs (k+1),A,B']:=e
 refine ai (dQ Z C (k:=k+1) (iQ hk rfl) (n:=4) (by decide) [A,B']) ?_;intro d2 hd2 e2
 have Jg:(aR Z).run [.ref 0,.int 4] [aj cs (k+1),A,B']=.ok (.int (d2:Int)) [aj cs (k+1+1),A,B']:=e2
 refine ai (pick (T:=pA) (f:=pp) (d:=d) hd) ?_;intro p hp hi
 refine ai (pick (T:=oI) (f:=pp) (d:=d2) hd2) ?_;intro q hq hj
 have z1:=l9.1 p (List.mem_append_left _ (List.mem_append_right _ hp))
 have z2:=l9.1 q (List.mem_append_right _ hq)
 refine ⟨mB p.1 p.2,jb q.1 q.2,by rw [tabs.2.1];exact List.mem_map.mpr ⟨p,hp,rfl⟩,by rw [tabs.2.2];exact List.mem_map.mpr ⟨q,hq,rfl⟩,?_⟩
 have M1:ML ((10,.str (cd p.2))::(6,p.1)::L):=⟨M.jX,M.sR,M.l5⟩
 have M2:ML ((77,.str (cd q.2))::(7,q.1)::(10,.str (cd p.2))::(6,p.1)::L):=⟨M.jX,M.sR,M.l5⟩
 have H2:∀ {r:Res (av×Loc)} {v:AV} {l:Loc} {H:aa},r=.ok (.ret v,l) H→aF r=.ok v H:=λh=>by rw [h];rfl
 refine H2 (l:=(77,.str (cd q.2))::(7,q.1)::(10,.str (cd p.2))::(6,p.1)::L) ?_
 refine (oF (K:=nR Z) (Cn Z [aj cs k,A,B']) M.jX e' hi (dU hd rfl)).trans ?_
 refine (oF (K:=g7 Z) (Be Z [aj cs (k+1),A,B']) M1.jX Jg hj (dU hd2 rfl)).trans ?_
 exact Gw Z M2 z1 z2 _
theorem BG {cs:List AV} (C:CellsOk cs):∃ (k:Nat) (ys xs:List aA) (g s:aA),k≤20∧(∀ y∈ys,y∈dv)∧ys.length≤1∧(∀ x∈xs,x∈bU)∧xs.length≤2∧g∈cj∧s∈cY∧
  (jm Z).run [.ref 0] [aj cs 0]=.ok (.tup [.ref 1,.ref 2,pr g,pr s]) [aj cs k,.list ((ay::ys).map pr),.list (xs.map pr)]:=by
 refine JW (CV Z C (k:=0) (by decide)) ?_;intro k ys L hk hy eW M e
 refine ai (dQ Z C (k:=k) (iQ hk rfl) (n:=3) (by decide) [.list ((ay::ys).map pr),.list []]) ?_;intro d hd e1
 have zp:(aR Z).run [.ref 0,.int 3] [aj cs k,.list ((ay::ys).map pr),.list []]=.ok (.int (d:Int)) [aj cs (k+1),.list ((ay::ys).map pr),.list []]:=e1
 refine ke (zO Z C (k:=k+1) (FO hk rfl) M (.list ((ay::ys).map pr)) hd) ?_;intro xs L' hx cB M' e2
 refine bk (BH Z C (k:=k+1+d) (LR (Nat.succ_le_succ hk) (Nat.le_of_lt hd) rfl) M' (.list ((ay::ys).map pr)) (.list (xs.map pr))) ?_;intro g s hg hs e3
 refine ⟨k+1+d+1+1,ys,xs,g,s,LX (c:=2) (CF (d:=7) (Nat.succ_le_succ hk) (Nat.le_of_lt hd) rfl) rfl,hy,eW,hx,cB,hg,hs,?_⟩
 rw [yf,e]
 unfold g6
 rw [gl M.jX]
 repeat rw [ae]
 rw [zp]
 repeat rw [ae]
 rw [e2]
 repeat rw [ae]
 rw [aC]
 exact e3
end
noncomputable def EY (r:List Nat):Bool:=dN r&&Nat.blt r.length 100&&(r.all λc=>Nat.blt c 1114112)&&Nat.blt (a7 r).length 100
structure RF (r:List Nat):Prop where
 b:dN r=true
 len:r.length < 100
 low:∀ c∈r,c < 1114112
 pI:(a7 r).length < 100
theorem EX {r:List Nat} (h:EY r=true):RF r:=by
 unfold EY at h
 rw [Bool.and_eq_true,Bool.and_eq_true,Bool.and_eq_true] at h
 exact ⟨h.1.1.1,Nat.le_of_ble_eq_true h.1.1.2,λc hc=>Nat.le_of_ble_eq_true (List.all_eq_true.mp h.1.2 c hc),Nat.le_of_ble_eq_true h.2⟩
theorem gF {s r:List Nat} {rows:List (List Nat)} (h:rows≠[]):cy s (r::rows)=r++s++cy s rows:=by
 cases rows with
 |nil=>exact absurd rfl h
 |cons a b=>rfl
theorem j9 {s:List Nat} (h:s∈cC):s.length < 20∧(∀ c∈s,c < 1114112)∧64∉s:=by
 have q:(cC.all λs=>Nat.blt s.length 20&&(s.all λc=>Nat.blt c 1114112)&&!s.contains 64)=true:=by decide +kernel
 have:=List.all_eq_true.mp q s h
 rw [Bool.and_eq_true,Bool.and_eq_true] at this
 refine ⟨Nat.le_of_ble_eq_true this.1.1,λc hc=>Nat.le_of_ble_eq_true (List.all_eq_true.mp this.1.2 c hc),λm=>?_⟩
 have h2:=this.2
 rw [List.contains_iff_mem.mpr m] at h2
 cases h2
theorem uP {s:List Nat} (hs:s.length < 20):∀ (rows:List (List Nat)),(∀ r∈rows,r.length < 100)→(cy s rows).length≤120 * rows.length
 |[],_=>Nat.zero_le _
 |r::rows,h=>by
  have ih:=uP hs rows λa ha=>h a (.tail _ ha)
  have h0:=h r (.head _)
  by_cases e:rows=[]
  ·subst e
   show r.length≤120 * 1
   exact zC h0 rfl
  ·rw [gF e,List.length_append,List.length_append,List.length_cons];exact Np h0 hs ih
theorem uO {s:List Nat} {P:Nat→Prop} (hs:∀ c∈s,P c):∀ (rows:List (List Nat)),(∀ r∈rows,∀ c∈r,P c)→∀ c∈cy s rows,P c
 |[],_,c,m=>by cases m
 |r::rows,h,c,m=>by
  by_cases e:rows=[]
  ·subst e
   exact h r (.head _) c m
  ·rw [gF e] at m
   rcases List.mem_append.mp m with m |m
   ·rcases List.mem_append.mp m with m |m
    ·exact h r (.head _) c m
    ·exact hs c m
   ·exact uO hs rows (λa ha=>h a (.tail _ ha)) c m
theorem uC (sl:Nat):∀ (rows:List (List Nat)) (o:Nat),(∀ r∈rows,(a7 r).length < 100)→(dG sl o rows).length≤100 * rows.length
 |[],_,_=>Nat.zero_le _
 |r::rows,o,h=>by
  have ih:=uC sl rows (o+r.length+sl) λa ha=>h a (.tail _ ha)
  have h0:=h r (.head _)
  show ((a7 r).map (dB o)++dG sl _ rows).length≤_
  rw [List.length_append,List.length_map,List.length_cons];exact Nn h0 ih
theorem iG {s:List Nat} (hs:s∈cC) {rows:List (List Nat)} (hn:rows.length≤12) (h:∀ r∈rows,r.length < 100):(laid s rows).length < 3900:=by
 unfold laid
 have:=uP (j9 hs).1 rows h
 rw [List.length_append,List.length_singleton];exact Nm hn this
theorem tU {s:List Nat} (hs:s∈cC) {rows:List (List Nat)} (ne:rows≠[]) (hn:rows.length≤12) (h:∀ r∈rows,RF r):kQ s rows where
 HM:=hs
 ne:=ne
 HN:=λr hr=>(h r hr).b
 short:=iG hs hn λr hr=>(h r hr).len
 low:=λc hc=>by
  unfold laid at hc
  rcases List.mem_append.mp hc with m |m
  ·exact uO (P:=λc=>c < 1114112) (j9 hs).2.1 rows (λr hr=>(h r hr).low) c m
  ·rw [List.mem_singleton] at m;subst m;decide
 pI:=by
  have:=uC s.length rows 0 λr hr=>(h r hr).pI
  exact Nl hn this
theorem tE {s:List Nat} (hs:64∉s):∀ (rows:List (List Nat)),bT 64 [] (cy s rows)=cy s (rows.map clean)
 |[]=>rfl
 |r::rows=>by
  by_cases e:rows=[]
  ·subst e;rfl
  ·refine sY (gF e ..)▸?_;rewrite [eV,eV];refine sY (tE hs rows ..)▸?_;refine sY (iz 64 [] s hs ..)▸?_;refine sY (List.map_cons ..)▸?_;rewrite [gF (by simpa using e)]
   rfl
theorem tD {s:List Nat} (hs:s∈cC) (rows:List (List Nat)):bT 64 [] (laid s rows)=laid s (rows.map clean):=by
 unfold laid
 rewrite [eV];refine sY (tE (j9 hs).2.2 ..)▸?_
 rfl
theorem tF {rows:List (List Nat)} (h:∀ r∈rows,64∉r):rows.map clean=rows:=by
 induction rows with
 |nil=>rfl
 |cons r rows ih=>
  refine sY (List.map_cons ..)▸?_;refine sY (ih λa ha=>h a (.tail _ ha))▸?_
  unfold clean
  refine sY (iz 64 [] r (h r (.head _)) ..)▸?_;rfl
theorem pG {c:Nat}:∀ (a b:List Nat),c∉a→bz c (a++b)=(bz c b).map (·+a.length)
 |[],b,_=>by
  show bz c b=_
  cases bz c b<;>rfl
 |k::a,b,h=>by
  have h1:¬ k=c:=λe=>h (e▸List.mem_cons_self ..)
  have ih:=pG a b λm=>h (List.mem_cons_of_mem _ m)
  show (if k=c then some 0 else (bz c (a++b)).map (·+1))=_
  refine sY (if_neg h1 ..)▸?_;refine sY (ih ..)▸?_
  cases bz c b<;>rfl
theorem uj {c:Nat}:∀ (a b:List Nat) {i:Nat},bz c a=some i→bz c (a++b)=some i
 |[],_,_,h=>by cases h
 |k::a,b,i,h=>by
  by_cases e:k=c
  ·show (if k=c then some 0 else _)=_
   refine sY (if_pos e ..)▸?_
   have h':(if k=c then some 0 else (bz c a).map (·+1))=some i:=h
   rw [if_pos e] at h'
   exact h'
  ·show (if k=c then some 0 else (bz c (a++b)).map (·+1))=_
   have h':(if k=c then some 0 else (bz c a).map (·+1))=some i:=h
   rw [if_neg e] at h' ⊢
   cases q:bz c a with
   |none=>rw [q] at h';cases h'
   |some j=>rw [uj a b q];rw [q] at h';exact h'
theorem rD (sl:Nat):∀ (A:List (List Nat)) (o:Nat),cR sl o A=cR sl 0 A+o
 |[],o=>(Nat.zero_add o).symm
 |r::A,o=>by
  show cR sl (o+r.length+sl) A=cR sl (0+r.length+sl) A+o
  rw [rD sl A,rD sl A (0+r.length+sl),Nat.zero_add];simp only [Nat.add_assoc,Nat.add_comm,Nat.add_left_comm]
theorem vb {s:List Nat} (hs:64∉s) {br:List Nat} {i:Nat} (hb:bz 64 br=some i) (B:List (List Nat)):∀ (A:List (List Nat)),(∀ r∈A,64∉r)→bz 64 (cy s (A++br::B))=some (cR s.length 0 A+i)
 |[],_=>by
  show bz 64 (cy s (br::B))=some (0+i)
  rw [Nat.zero_add]
  by_cases e:B=[]
  ·subst e;exact hb
  ·rw [gF e,List.append_assoc]
   exact uj _ _ hb
 |r::A,h=>by
  have ih:=vb hs hb B A λa ha=>h a (.tail _ ha)
  show bz 64 (cy s (r::(A++br::B)))=some (cR s.length (0+r.length+s.length) A+i)
  rw [gF (by simp),List.append_assoc,pG r _ (h r (.head _)),pG s _ hs,ih,rD _ A (0+r.length+s.length)]
  show some (cR s.length 0 A+i+s.length+r.length)=_
  rw [Nat.zero_add];congr 1;simp only [Nat.add_assoc,Nat.add_comm,Nat.add_left_comm]
theorem u9 {s:List Nat} (hs:s∈cC) {br:List Nat} {i:Nat} (hb:bz 64 br=some i) {A B:List (List Nat)} (h:∀ r∈A,64∉r):bz 64 (laid s (A++br::B))=some (cR s.length 0 A+i):=uj _ _ (vb (j9 hs).2.2 hb B A h)
noncomputable def I3 (r:List Nat):Bool:=EY r&&vB r&&!r.contains 64
structure GF (r:List Nat):Prop where
 rf:RF r
 word:vB r=true
 free:64∉r
theorem Ke {r:List Nat} (h:I3 r=true):GF r:=by
 unfold I3 at h
 rw [Bool.and_eq_true,Bool.and_eq_true] at h
 refine ⟨EX h.1.1,h.1.2,λm=>?_⟩
 have h2:=h.2
 rw [List.contains_iff_mem.mpr m] at h2
 cases h2
theorem Cm:∀ x∈ay::dv++bU++cj++cY,GF x.2:=by
 have h:((ay::dv++bU++cj++cY).all λx=>I3 x.2)=true:=by decide +kernel
 exact λx hx=>Ke (List.all_eq_true.mp h x hx)
theorem gB {m:Nat} (hm:m=1∨m=2):∀ l∈iF,∀ r∈l,RF (clean (aN m r))∧(aN m r).length < 100∧∃ i,bz 64 (aN m r)=some i:=by
 have h:∀ m,m=1∨m=2→(iF.all λl=>l.all λr=>EY (clean (aN m r))&&Nat.blt (aN m r).length 100&&(bz 64 (aN m r)).isSome)=true:=by
  rintro m (rfl |rfl)<;>decide +kernel
 intro l hl r hr
 have:=List.all_eq_true.mp (List.all_eq_true.mp (h m hm) l hl) r hr
 rw [Bool.and_eq_true,Bool.and_eq_true] at this
 refine ⟨EX this.1.1,Nat.le_of_ble_eq_true this.1.2,?_⟩
 cases q:bz 64 (aN m r) with
 |none=>rw [q] at this;cases this.2
 |some i=>exact ⟨i,rfl⟩
theorem cf (k:Kd) (C:List cU):∀ A:List cU,bo k (A++C)=bo k A++bo k C
 |[]=>rfl
 |(k',x)::A=>by
  have ih:=cf k C A
  cases k<;>cases k'<;>first |exact ih |exact congrArg (x::·) ih
theorem kI (k:Kd):∀ l:List aA,bo k (l.map (Prod.mk k))=l
 |[]=>rfl
 |x::l=>by
  have ih:=kI k l
  cases k<;>exact congrArg (x::·) ih
theorem dy {k k':Kd} (h:k≠k'):∀ l:List aA,bo k (l.map (Prod.mk k'))=[]
 |[]=>rfl
 |x::l=>by
  have ih:=dy h l
  cases k<;>cases k'<;>first |exact ih |exact absurd rfl h
theorem jj (sl:Nat) (C:List cU):∀ (A:List cU) (o:Nat) (S:PS),runK sl (A++C) o S=runK sl C (cR sl o (az A)) (runK sl A o S)
 |[],_,_=>rfl
 |(k,x)::A,o,S=>jj sl C A (o+x.2.length+sl) (stepK k x o S)
theorem mq (sl:Nat):∀ (L:List cU) (o:Nat) (S:PS),(runK sl L o S).vs=S.vs++(bo .v L).map (·.1)
 |[],_,S=>(List.append_nil S.vs).symm
 |(k,x)::L,o,S=>by
  have ih:=mq sl L (o+x.2.length+sl) (stepK k x o S)
  cases k<;>first |exact ih |exact ih.trans (List.append_assoc S.vs [x.1] _)
theorem qd (sl:Nat):∀ (L:List cU) (o:Nat) (S:PS),(runK sl L o S).tl=S.tl++(bo .t L).map (·.1)
 |[],_,S=>(List.append_nil S.tl).symm
 |(k,x)::L,o,S=>by
  have ih:=qd sl L (o+x.2.length+sl) (stepK k x o S)
  cases k<;>first |exact ih |exact ih.trans (List.append_assoc S.tl [x.1] _)
theorem mr (sl:Nat):∀ (L:List cU) (o:Nat) (S:PS),∃ gi,(runK sl L o S).sp=S.sp++gi∧gi.length=(bo .t L).length
 |[],_,S=>⟨[],(List.append_nil S.sp).symm,rfl⟩
 |(k,x)::L,o,S=>by
  refine ai (mr sl L (o+x.2.length+sl) (stepK k x o S)) ?_;intro gi h1 h2
  cases k with
  |t=>exact ⟨.int ((o+11:Nat):Int)::gi,h1.trans (List.append_assoc S.sp [_] _),congrArg (·+1) h2⟩
  |v=>exact ⟨gi,h1,h2⟩
  |g=>exact ⟨gi,h1,h2⟩
  |s=>exact ⟨gi,h1,h2⟩
theorem mv (sl:Nat):∀ (L:List cU) (o:Nat) (S:PS),bo .g L=[]→(runK sl L o S).goal=S.goal∧(runK sl L o S).gs=S.gs
 |[],_,_,_=>⟨rfl,rfl⟩
 |(k,x)::L,o,S,h=>by
  cases k with
  |g=>cases h
  |v=>exact mv sl L _ (stepK .v x o S) h
  |t=>exact mv sl L _ (stepK .t x o S) h
  |s=>exact mv sl L _ (stepK .s x o S) h
theorem mu (sl:Nat):∀ (L:List cU) (o:Nat) (S:PS),bo .s L=[]→(runK sl L o S).shown=S.shown∧(runK sl L o S).ss=S.ss
 |[],_,_,_=>⟨rfl,rfl⟩
 |(k,x)::L,o,S,h=>by
  cases k with
  |s=>cases h
  |v=>exact mu sl L _ (stepK .v x o S) h
  |t=>exact mu sl L _ (stepK .t x o S) h
  |g=>exact mu sl L _ (stepK .g x o S) h
theorem qe (sl:Nat) (A C:List cU) (x:aA) (o:Nat) (S:PS) (h:bo .g C=[]):(runK sl (A++(.g,x)::C) o S).goal=x.1∧(runK sl (A++(.g,x)::C) o S).gs=((cR sl o (az A)+6:Nat):Int):=by
 rewrite [jj]
 exact mv sl C _ (stepK .g x (cR sl o (az A)) (runK sl A o S)) h
theorem tZ (sl:Nat) (A C:List cU) (x:aA) (o:Nat) (S:PS) (h:bo .s C=[]):(runK sl (A++(.s,x)::C) o S).shown=x.1∧(runK sl (A++(.s,x)::C) o S).ss=((cR sl o (az A)+7:Nat):Int):=by
 rewrite [jj]
 exact mu sl C _ (stepK .s x (cR sl o (az A)) (runK sl A o S)) h
theorem Gi (sl:Nat) (A C:List cU) (x:aA) (o:Nat):∃ sj gi,(runK sl (A++(.t,x)::C) o bY).sp=sj++.int ((cR sl o (az A)+11:Nat):Int)::gi∧sj.length=(bo .t A).length:=by
 rewrite [jj]
 refine ai (mr sl A o bY) ?_;intro sj h1 h2
 refine ai (mr sl C (cR sl o (az A)+x.2.length+sl) (stepK .t x (cR sl o (az A)) (runK sl A o bY))) ?_;intro gi h3 _
 refine ⟨sj,gi,?_,h2⟩
 have jZ:(runK sl C (cR sl o (az A)+x.2.length+sl) (stepK .t x (cR sl o (az A)) (runK sl A o bY))).sp=((runK sl A o bY).sp++[_])++gi:=h3
 show (runK sl C (cR sl o (az A)+x.2.length+sl) (stepK .t x (cR sl o (az A)) (runK sl A o bY))).sp=_
 refine sY (jZ ..)▸?_;refine sY (h1 ..)▸?_;rewrite [List.append_assoc]
 rfl
theorem cond_of {L:List cU} (v:bo .v L=[]∨bo .v L=[ay]∨∃ y,y∈dv∧bo .v L=[ay,y]) (t:(bo .t L).length≤3) (tr:∀ x∈bo .t L,mN x) (g:bo .g L=[]∨∃ x,bo .g L=[x]∧kz x) (s:bo .s L=[]∨∃ x,bo .s L=[x]∧jh x):kX L bY where
 v:=v.elim .inl λh=>.inr (.inl ⟨rfl,h⟩)
 t:=⟨rfl,by show 0+_≤3;omega,tr⟩
 g:=g.elim .inl λh=>.inr ⟨rfl,h⟩
 s:=s.elim .inl λh=>.inr ⟨rfl,h⟩
theorem wB {α:Type} {a b:List α} {x:α} (h:[x]=a++b):a=[]∨a=[x]:=by
 cases a with
 |nil=>exact .inl rfl
 |cons y a=>
  injection h with h1 h2
  subst h1
  cases a with
  |nil=>exact .inr rfl
  |cons z a=>cases h2
theorem HT {α:Type} {a b:List α} {x y:α} (h:[x,y]=a++b):a=[]∨a=[x]∨a=[x,y]:=by
 cases a with
 |nil=>exact .inl rfl
 |cons z a=>
  injection h with h1 h2
  subst h1
  rcases wB h2 with rfl |rfl
  ·exact .inr (.inl rfl)
  ·exact .inr (.inr rfl)
theorem EH {A C:List cU} (h:kX (A++C) bY):kX A bY:=by
 obtain ⟨v,t,g,s⟩:=h
 rw [cf] at v t g s
 refine cond_of ?_ ?_ ?_ ?_ ?_
 ·rcases v with h |⟨_,h |⟨y,hy,h⟩⟩ |⟨a,h,_⟩
  ·exact .inl (List.append_eq_nil_iff.mp h).1
  ·rcases wB h.symm with h |h
   ·exact .inl h
   ·exact .inr (.inl h)
  ·rcases HT h.symm with h |h |h
   ·exact .inl h
   ·exact .inr (.inl h)
   ·exact .inr (.inr ⟨y,hy,h⟩)
  ·cases h
 ·have:=t.2.1
  rw [List.length_append] at this
  have h0:bY.tl.length=0:=rfl
  omega
 ·exact λx hx=>t.2.2 x (List.mem_append_left _ hx)
 ·rcases g with h |⟨_,x,h,hx⟩
  ·exact .inl (List.append_eq_nil_iff.mp h).1
  ·rcases wB h.symm with h |h
   ·exact .inl h
   ·exact .inr ⟨x,h,hx⟩
 ·rcases s with h |⟨_,x,h,hx⟩
  ·exact .inl (List.append_eq_nil_iff.mp h).1
  ·rcases wB h.symm with h |h
   ·exact .inl h
   ·exact .inr ⟨x,h,hx⟩
noncomputable def lR:List (Option AV)→List (List Nat)→List (List Nat)
 |some _::D,r::R=>r::lR D R
 |none::D,_::R=>lR D R
 |_,_=>[]
theorem hZ (m:Nat) {r:List Nat}:∀ (D:List (Option AV)) (R:List (List Nat)),D.length=R.length→r∈R→((bz 64 (aN m r)).getD 0,clean (aN m r))∈eI m D R∨(r∈lR D R∧∃ d,(d,clean (aN m r))∈d9 m D R):=by
 intro D
 induction D with
 |nil=>intro R hl h;cases R with
  |nil=>cases h
  |cons=>cases hl
 |cons o D ih=>intro R hl h;cases R with
  |nil=>cases hl
  |cons r' R=>
  injection hl with hl
  rcases List.mem_cons.mp h with rfl |h
  ·cases o with
   |none=>exact .inl (.head _)
   |some d=>exact .inr ⟨.head _,d,.head _⟩
  ·cases o with
   |none=>exact (ih R hl h).imp (.tail _) id
   |some d=>exact (ih R hl h).imp id λ⟨h1,d,h2⟩=>⟨.tail _ h1,d,.tail _ h2⟩
theorem o8 {α:Type} (l:List α):(gk l).length=l.length:=List.length_map _
theorem j8 {α:Type} (r:List Nat):∀ (l:List α) (R:List (List Nat)),¬ r∈lR (gk l) R
 |[],_,h=>by cases h
 |_::_,[],h=>by cases h
 |_::l,_::R,h=>j8 r l R h
theorem jc {m:Nat} (hm:m=1∨m=2):eI m (gk (bc bq)) (bc bq)=eI 0 (gk (bc bq)) (bc bq)∧
  eI m (gk (bc bh)) (bc bh)=eI 0 (gk (bc bh)) (bc bh)∧eI m (ez m) (bc aT)=eI 0 (ez 0) (bc aT)∧
  eI m (eB m) (bc aU)=eI 0 (eB 0) (bc aU)∧eI m (eS m) (bc aW)=eI 0 (eS 0) (bc aW)∧eI m (gk gy) gy=eI 0 (gk gy) gy:=by
 rcases hm with rfl |rfl<;>exact ⟨by kernel_rfl,by kernel_rfl,by kernel_rfl,by kernel_rfl,by kernel_rfl,by kernel_rfl⟩
theorem wj {m:Nat} (hm:m=1∨m=2):(∀ r∈lR (ez m) (bc aT),bz 64 (aN m r)=some 11)∧(∀ r∈lR (eB m) (bc aU),bz 64 (aN m r)=some 6)∧∀ r∈lR (eS m) (bc aW),bz 64 (aN m r)=some 7:=by
 have h:∀ m,m=1∨m=2→((lR (ez m) (bc aT)).all λr=>bz 64 (aN m r)==some 11)=true∧((lR (eB m) (bc aU)).all λr=>bz 64 (aN m r)==some 6)=true∧((lR (eS m) (bc aW)).all λr=>bz 64 (aN m r)==some 7)=true:=by
  rintro m (rfl |rfl)<;>decide +kernel
 refine bZ (h m hm) ?_;intro h1 h2 h3
 exact ⟨λr hr=>eq_of_beq (List.all_eq_true.mp h1 r hr),λr hr=>eq_of_beq (List.all_eq_true.mp h2 r hr),λr hr=>eq_of_beq (List.all_eq_true.mp h3 r hr)⟩
theorem wR (m:Nat):(ez m).length=(bc aT).length∧(eB m).length=(bc aU).length∧(eS m).length=(bc aW).length:=⟨by kernel_rfl,by kernel_rfl,by kernel_rfl⟩
structure Bs (ys xs:List aA) (g s:aA):Prop where
 hy:∀ y∈ys,y∈dv
 eW:ys.length≤1
 hx:∀ x∈xs,x∈bU
 cB:xs.length≤2
 hg:g∈cj
 hs:s∈cY
noncomputable abbrev kV (ys:List aA):List cU:=(ay::ys).map (Prod.mk .v)
noncomputable abbrev kT (xs:List aA):List cU:=xs.map (Prod.mk .t)
noncomputable abbrev kb (ys xs:List aA) (g s:aA):List cU:=kV ys++kT xs++[(.g,g),(.s,s)]
section
variable {ys xs:List aA} {g s:aA}
theorem qj:bo .v (kb ys xs g s)=ay::ys∧bo .t (kb ys xs g s)=xs∧bo .g (kb ys xs g s)=[g]∧bo .s (kb ys xs g s)=[s]:=by
 refine ⟨?_,?_,?_,?_⟩<;>rw [cf,cf]
 ·rw [kI,dy (by intro h;cases h)];show ay::ys++[]++[]=_;simp
 ·rw [kI,dy (by intro h;cases h)];show []++xs++[]=_;simp
 ·rw [dy (by intro h;cases h),dy (by intro h;cases h)];rfl
 ·rw [dy (by intro h;cases h),dy (by intro h;cases h)];rfl
theorem Bs.v (D:Bs ys xs g s):ay::ys=[ay]∨∃ y,y∈dv∧ay::ys=[ay,y]:=by
 have h:=D.hy
 revert h
 exact mP ys D.eW (λ_=>.inl rfl) λy h=>.inr ⟨y,h y (.head _),rfl⟩
theorem Bs.cond (D:Bs ys xs g s):kX (kb ys xs g s) bY:=by
 refine gj (qj (ys:=ys) (xs:=xs) (g:=g) (s:=s)) ?_;intro h1 h2 h3 h4
 refine cond_of ?_ ?_ ?_ ?_ ?_
 ·rw [h1];exact .inr D.v
 ·rw [h2];exact Nat.le_succ_of_le D.cB
 ·rw [h2];exact λx hx=>.inl (D.hx x hx)
 ·rw [h3];exact .inr ⟨g,rfl,.inl D.hg⟩
 ·rw [h4];exact .inr ⟨s,rfl,.inl D.hs⟩
theorem Bs.gf (D:Bs ys xs g s):∀ r∈az (kb ys xs g s),GF r:=by
 intro r hr
 refine ai (List.mem_map.mp hr) ?_;rintro x hx rfl
 refine Cm x.2 ?_
 rcases List.mem_append.mp hx with hx |hx
 ·rcases List.mem_append.mp hx with hx |hx
  ·refine ai (List.mem_map.mp hx) ?_;rintro y hy rfl
   refine List.mem_append_left _ (List.mem_append_left _ (List.mem_append_left _ ?_))
   rcases List.mem_cons.mp hy with rfl |hy
   ·exact .head _
   ·exact .tail _ (D.hy y hy)
  ·refine ai (List.mem_map.mp hx) ?_;rintro y hy rfl
   exact List.mem_append_left _ (List.mem_append_left _ (List.mem_append_right _ (D.hx y hy)))
 ·rcases List.mem_cons.mp hx with rfl |hx
  ·exact List.mem_append_left _ (List.mem_append_right _ D.hg)
  ·rw [List.mem_singleton] at hx;subst hx
   exact List.mem_append_right _ D.hs
theorem Bs.len (D:Bs ys xs g s):(az (kb ys xs g s)).length=1+ys.length+xs.length+2:=by
 show (List.map _ _).length=_
 rewrite [List.length_map];refine sY (List.length_append ..)▸?_;refine sY (List.length_append ..)▸?_;rewrite [List.length_map,List.length_map];refine sY (List.length_cons ..)▸?_
 show ys.length+1+xs.length+2=_
 omega
end
section
variable (Z:U)
def gJ (sm:List Nat) (out:List (List Nat)):Prop:=∀ p0 p1 p2:aK,∃ i:Nat,bz 64 (laid sm out)=some i∧bO ((cM Z).run [.str (bT 64 [] (laid sm out))] [p0,p1,p2])=some (.int (i:Int))
abbrev mO (x:Nat×List Nat) (S:PS):Prop:=Ref Z x S.vs S.tl S.sp S.gs S.ss
theorem yN {A B:List (List Nat)} {br:List Nat} (hA:∀ r∈A,GF r) (hB:∀ r∈B,GF r):(A++br::B).map clean=A++clean br::B:=by
 refine sY (List.map_append ..)▸?_;refine sY (List.map_cons ..)▸?_;refine sY (tF λr hr=>(hA r hr).free)▸?_;refine sY (tF λr hr=>(hB r hr).free)▸?_;rfl
theorem refused {A:List cU} {B:List (List Nat)} {br:List Nat} {i:Nat} {sm:List Nat} (hs:sm∈cC) (C:kX A bY) (hA:∀ r∈az A,GF r) (hB:∀ r∈B,GF r) (hn:(az A).length+B.length≤10) (hb:RF (clean br)) (hi:bz 64 br=some i)
  (hr:mO Z ((bz 64 br).getD 0,clean br) (runK sm.length A 0 bY)):gJ Z sm (az A++br::B):=by
 intro p0 p1 p2
 refine ⟨_,u9 hs hi λr hr=>(hA r hr).free,?_⟩
 refine sY (tD hs ..)▸?_;refine sY (yN hA hB ..)▸?_
 refine z7 Z C (tU hs (by simp) (by rw [List.length_append,List.length_cons];exact iQ hn rfl) ?_) (by omega) (λr hr=>(hB r hr).word) p0 p1 p2 ?_
 ·intro r hr
  rcases List.mem_append.mp hr with hr |hr
  ·exact (hA r hr).rf
  ·rcases List.mem_cons.mp hr with rfl |hr
   ·exact hb
   ·exact (hB r hr).rf
 ·intro k c j r
  have:=hr (cR sm.length 0 (az A)) p0 p1 p2 k c j r (runK sm.length A 0 bY).goal (runK sm.length A 0 bY).shown
  rw [hi] at this
  exact this
theorem zM {A B:List cU} {k:Kd} {d:AV} {br:List Nat} {i:Nat} {sm:List Nat} (hs:sm∈cC) (C:kX (A++(k,(d,clean br))::B) bY) (hA:∀ r∈az A,GF r) (hB:∀ r∈az B,GF r) (hn:(az A).length+(az B).length≤10) (hb:RF (clean br)) (hi:bz 64 br=some i)
  (hr:∀ (p0 p1 p2:aK) (ah:AV) (ts:List AV),bO (bw Z L0 (gh p0 p1 p2 ah ts (runK sm.length (A++(k,(d,clean br))::B) 0 bY)))=some (.int ((cR sm.length 0 (az A)+i:Nat):Int))):gJ Z sm (az A++br::az B):=by
 intro p0 p1 p2
 refine ⟨_,u9 hs hi λr hr=>(hA r hr).free,?_⟩
 refine sY (tD hs ..)▸?_;refine sY (yN hA hB ..)▸?_
 have e:az A++clean br::az B=az (A++(k,(d,clean br))::B):=by
  show _=List.map _ _
  refine sY (List.map_append ..)▸?_;refine sY (List.map_cons ..)▸?_;rfl
 refine sY (e ..)▸?_
 have T:kQ sm (az (A++(k,(d,clean br))::B)):=by
  refine (e ..)▸?_
  refine tU hs (by simp) (by rw [List.length_append,List.length_cons];exact iQ hn rfl) ?_
  intro r hr
  rcases List.mem_append.mp hr with hr |hr
  ·exact (hA r hr).rf
  ·rcases List.mem_cons.mp hr with rfl |hr
   ·exact hb
   ·exact (hB r hr).rf
 refine aJ (wx Z C T (by rw [← e,List.length_append,List.length_cons];exact iQ hn rfl) p0 p1 p2) ?_;intro _ u us h
 refine sY (h ..)▸?_
 exact wC (hr p0 p1 p2 _ _)
end
section
variable (Z:U)
variable {ys xs:List aA} {g s:aA}
theorem Bs.two (D:Bs ys xs g s) {m:Nat} (hm:m=1+ys.length):m=1∨m=2:=by have:=D.eW;omega
theorem l8 (k:Kd) (L:List cU) (i:Nat):bo k L=bo k (L.take i)++bo k (L.drop i):=by rw [← cf,List.take_append_drop]
theorem Bs.pQ (D:Bs ys xs g s) (i:Nat):kX ((kb ys xs g s).take i) bY:=by
 refine EH (C:=(kb ys xs g s).drop i) ?_
 rewrite [List.take_append_drop]
 exact D.cond
theorem Bs.Hz (D:Bs ys xs g s) (i:Nat):bo .v ((kb ys xs g s).take i)=[]∨bo .v ((kb ys xs g s).take i)=[ay]∨∃ y,bo .v ((kb ys xs g s).take i)=[ay,y]:=by
 have h:=l8 .v (kb ys xs g s) i
 rw [qj.1] at h
 rcases D.v with e |⟨y,_,e⟩
 ·rw [e] at h
  exact (wB h).imp id .inl
 ·rw [e] at h
  exact (HT h).imp id λh=>h.imp id λh=>⟨y,h⟩
theorem Bs.o6 (D:Bs ys xs g s) (i:Nat):(∀ r∈az ((kb ys xs g s).take i),GF r)∧(∀ r∈az ((kb ys xs g s).drop i),GF r)∧(az ((kb ys xs g s).take i)).length+(az ((kb ys xs g s).drop i)).length≤10:=by
 have e:az ((kb ys xs g s).take i)++az ((kb ys xs g s).drop i)=az (kb ys xs g s):=by
  refine (List.map_append ..)▸?_;rewrite [List.take_append_drop];rfl
 have hl:=D.len
 rw [← e,List.length_append] at hl
 have h1:=D.eW
 have h2:=D.cB
 refine ⟨λr hr=>D.gf r (e▸List.mem_append_left _ hr),λr hr=>D.gf r (e▸List.mem_append_right _ hr),lO (te hl h1 h2) rfl⟩
theorem G4 (D:Bs ys xs g s) {m:Nat} (hm:m=1+ys.length) {sm:List Nat} (hs:sm∈cC) {r:List Nat} (hr:r∈bc bq) (i:Nat) :
  gJ Z sm (az ((kb ys xs g s).take i)++aN m r::az ((kb ys xs g s).drop i)):=by
 have h2:=D.two hm
 obtain ⟨b1,_,j,hj⟩:=gB h2 _ (.head _) r hr
 refine bZ (D.o6 i) ?_;intro t1 t2 t3
 refine refused Z hs (D.pQ i) t1 t2 t3 b1 hj ?_
 rcases hZ m (gk (bc bq)) (bc bq) (o8 _) hr with h |h
 ·rw [(jc h2).1] at h
  have R:=(CU Z).mem _ h
  have e:=mq sm.length ((kb ys xs g s).take i) 0 bY
  rcases D.Hz i with q |q |⟨y,q⟩<;>rw [q] at e<;>unfold mO<;>rw [e]
  ·exact R.1 _ _ _ _
  ·exact R.2.1 _ _ _ _ _
  ·exact R.2.2 _ _ _ _ _ _
 ·exact absurd h.1 (j8 _ _ _)
theorem G7 (D:Bs ys xs g s) {m:Nat} (hm:m=1+ys.length) {sm:List Nat} (hs:sm∈cC) {r:List Nat} (hr:r∈bc bh) (i:Nat) :
  gJ Z sm (az ((kb ys xs g s).take i)++aN m r::az ((kb ys xs g s).drop i)):=by
 have h2:=D.two hm
 obtain ⟨b1,_,j,hj⟩:=gB h2 _ (.tail _ (.head _)) r hr
 refine bZ (D.o6 i) ?_;intro t1 t2 t3
 refine refused Z hs (D.pQ i) t1 t2 t3 b1 hj ?_
 rcases hZ m (gk (bc bh)) (bc bh) (o8 _) hr with h |h
 ·rw [(jc h2).2.1] at h
  exact (Cg Z).mem _ h _ _ _ _ _
 ·exact absurd h.1 (j8 _ _ _)
theorem vU (D:Bs ys xs g s) {m:Nat} (hm:m=1+ys.length) {L:List cU} (hv:bo .v L=ay::ys) (sl:Nat):qq (runK sl L 0 bY) m:=by
 refine ⟨D.two hm,?_⟩
 rewrite [mq];refine sY (hv ..)▸?_
 show (List.map _ (ay::ys)).length=m
 rw [List.length_map,List.length_cons];exact (Nat.add_comm _ _).trans hm.symm
theorem Jq {ys:List aA} (eW:ys.length≤1) {m:Nat} (hm:m=1+ys.length) {x:aA} (hd:x∈d9 m (ez m) (bc aT)) :
  j5 Z x.1 (ay.1::ys.map (·.1)) m (La m)∧(∀ s0 t0,j5 Z x.1 (ay.1::ys.map (·.1)) m ((1,s0)::(10,t0)::La m))∧∀ s0 t0 s1 t1,j5 Z x.1 (ay.1::ys.map (·.1)) m ((1,s1)::(10,t1)::(1,s0)::(10,t0)::La m):=by
 match ys,eW,hm with
 |[],_,hm=>
  have hm:m=1:=hm
  subst hm
  have:=(HE Z).mem x hd
  refine sY (List.map_nil ..)▸?_
  exact this
 |[y],_,hm=>
  have hm:m=2:=hm
  subst hm
  have:=(HD Z).mem x hd y.1
  refine sY (List.map_cons ..)▸?_;refine sY (List.map_nil ..)▸?_
  exact this
theorem G5 (D:Bs ys xs g s) {m:Nat} (hm:m=1+ys.length) {sm:List Nat} (hs:sm∈cC) {r:List Nat} (hr:r∈bc aT) (i:Nat) :
  gJ Z sm (az ((kb ys xs g s).take i)++aN m r::az ((kb ys xs g s).drop i)):=by
 have h2:=D.two hm
 obtain ⟨b1,_,j,hj⟩:=gB h2 _ (.tail _ (.tail _ (.head _))) r hr
 refine bZ (D.o6 i) ?_;intro t1 t2 t3
 have xe:=l8 .t (kb ys xs g s) i
 rw [qj.2.1] at xe
 have xl:(bo .t ((kb ys xs g s).take i)).length+(bo .t ((kb ys xs g s).drop i)).length=xs.length:=by rw [← List.length_append,← xe]
 have cB:=D.cB
 rcases hZ m (ez m) (bc aT) (wR m).1 hr with h |⟨h,d,hd⟩
 ·refine refused Z hs (D.pQ i) t1 t2 t3 b1 hj ?_
  rw [(jc h2).2.2.1] at h
  have R:=(C8 Z).mem _ h
  have e1:=qd sm.length ((kb ys xs g s).take i) 0 bY
  refine ai (mr sm.length ((kb ys xs g s).take i) 0 bY) ?_;intro gi e2 e3
  unfold mO
  refine sY (e1 ..)▸?_;refine sY (e2 ..)▸?_
  generalize hq:bo .t ((kb ys xs g s).take i)=q at e3 xl
  have xl:q.length≤2:=Nat.le_trans (Nat.le_add_right _ _) (Nat.le_trans (Nat.le_of_eq xl) D.cB)
  exact vF q gi e3.symm xl (R.1 _ _ _) (λ_ _=>R.2.1 _ _ _ _ _) λ_ _ _ _=>R.2.2 _ _ _ _ _ _ _
 ·have MG:=(wj h2).1 r h
  have hv:bo .v ((kb ys xs g s).take i++(.t,(d,clean (aN m r)))::(kb ys xs g s).drop i)=ay::ys:=by
   rewrite [cf]
   show _++bo .v ((kb ys xs g s).drop i)=_
   rewrite [← l8];refine sY (qj.1 ..)▸?_;rfl
  have N1:bo .g ((kb ys xs g s).take i++(.t,(d,clean (aN m r)))::(kb ys xs g s).drop i)=[g]:=by
   rewrite [cf]
   show _++bo .g ((kb ys xs g s).drop i)=_
   rewrite [← l8];refine sY (qj.2.2.1 ..)▸?_;rfl
  have s9:bo .s ((kb ys xs g s).take i++(.t,(d,clean (aN m r)))::(kb ys xs g s).drop i)=[s]:=by
   rewrite [cf]
   show _++bo .s ((kb ys xs g s).drop i)=_
   rewrite [← l8];refine sY (qj.2.2.2 ..)▸?_;rfl
  have jB:bo .t ((kb ys xs g s).take i++(.t,(d,clean (aN m r)))::(kb ys xs g s).drop i)=bo .t ((kb ys xs g s).take i)++(d,clean (aN m r))::bo .t ((kb ys xs g s).drop i):=by
   rewrite [cf]
   rfl
  have DQ:∀ x,x∈bo .t ((kb ys xs g s).take i)∨x∈bo .t ((kb ys xs g s).drop i)→x∈xs:=λx h=>by
   refine sY (xe ..)▸?_
   exact List.mem_append.mpr h
  refine zM Z hs (cond_of (by rw [hv];exact .inr D.v) (by rw [jB,List.length_append,List.length_cons];omega) ?_ (by rw [N1];exact .inr ⟨g,rfl,.inl D.hg⟩) (by rw [s9];exact .inr ⟨s,rfl,.inl D.hs⟩)) t1 t2 t3 b1 MG ?_
  ·refine sY (jB ..)▸?_
   intro x hx
   rcases List.mem_append.mp hx with hx |hx
   ·exact .inl (D.hx x (DQ x (.inl hx)))
   ·rcases List.mem_cons.mp hx with rfl |hx
    ·exact .inr ⟨m,h2,hd⟩
    ·exact .inl (D.hx x (DQ x (.inr hx)))
  ·intro p0 p1 p2 ah ts
   refine fk (Gi sm.length ((kb ys xs g s).take i) ((kb ys xs g s).drop i) (d,clean (aN m r)) 0) ?_;intro sj gi e1 e2
   have OE:(runK sm.length ((kb ys xs g s).take i++(.t,(d,clean (aN m r)))::(kb ys xs g s).drop i) 0 bY).vs=ay.1::ys.map (·.1):=by rw [mq,hv];rfl
   refine A2 Z (vU D hm hv sm.length) (xs:=bo .t ((kb ys xs g s).take i)) (λx hx=>D.hx x (DQ x (.inl hx))) (by omega) (bad:=d) (tl':=(bo .t ((kb ys xs g s).drop i)).map (·.1)) ?_ e1 e2 ?_ p0 p1 p2 ah ts
   ·rw [qd,jB,List.map_append];rfl
   ·refine sY (OE ..)▸?_
    have q:=Jq Z D.eW hm (x:=(d,clean (aN m r))) hd
    dsimp only at q
    exact q
end
section
variable (Z:U)
variable {ys xs:List aA} {g s:aA}
noncomputable abbrev cZ (ys xs:List aA):List cU:=kV ys++kT xs
theorem rG:kb ys xs g s=(cZ ys xs++[(Kd.g,g)])++[(Kd.s,s)]:=by
 exact (List.append_assoc (cZ ys xs) [(Kd.g,g)] [(Kd.s,s)]).symm
theorem sS:bo .v (cZ ys xs)=ay::ys∧bo .t (cZ ys xs)=xs∧bo .g (cZ ys xs)=[]∧bo .s (cZ ys xs)=[]:=by
 refine ⟨?_,?_,?_,?_⟩<;>rw [cf]
 ·rewrite [kI,dy (by intro h;cases h),List.append_nil];rfl
 ·rewrite [kI,dy (by intro h;cases h),List.nil_append];rfl
 ·rw [dy (by intro h;cases h),dy (by intro h;cases h)];rfl
 ·rw [dy (by intro h;cases h),dy (by intro h;cases h)];rfl
theorem Bs.I0 (D:Bs ys xs g s):(∀ r∈az (cZ ys xs),GF r)∧GF g.2∧GF s.2∧(az (cZ ys xs)).length≤5:=by
 have e:az (kb ys xs g s)=az (cZ ys xs)++[g.2,s.2]:=by
  show List.map _ _=_
  rw [List.map_append];rfl
 have hl:=D.len
 rw [e,List.length_append] at hl
 have hl:(az (cZ ys xs)).length+2=1+ys.length+xs.length+2:=hl
 have h1:=D.eW
 have h2:=D.cB
 refine ⟨λr hr=>D.gf r (by rw [e];exact List.mem_append_left _ hr),D.gf _ (by rw [e];exact List.mem_append_right _ (.head _)),D.gf _ (by rw [e];exact List.mem_append_right _ (.tail _ (.head _))),by omega⟩
theorem Bs.FL (D:Bs ys xs g s) {C:List cU} (hv:bo .v C=[]) (ht:bo .t C=[]) (hg:bo .g C=[]∨∃ x,bo .g C=[x]∧kz x) (hs:bo .s C=[]∨∃ x,bo .s C=[x]∧jh x):kX (cZ ys xs++C) bY:=by
 refine gj (sS (ys:=ys) (xs:=xs)) ?_;intro h1 h2 h3 h4
 refine cond_of ?_ ?_ ?_ ?_ ?_<;>rw [cf]
 ·rw [h1,hv,List.append_nil];exact .inr D.v
 ·rw [h2,ht,List.append_nil];exact Nat.le_succ_of_le D.cB
 ·rw [h2,ht,List.append_nil];exact λx hx=>.inl (D.hx x hx)
 ·rw [h3];exact hg
 ·rw [h4];exact hs
theorem uv (D:Bs ys xs g s) {m:Nat} (hm:m=1+ys.length) {C:List cU} (hv:bo .v C=[]) (ht:bo .t C=[]) (sl:Nat) :
  qq (runK sl (cZ ys xs++C) 0 bY) m∧(runK sl (cZ ys xs++C) 0 bY).tl=xs.map (·.1)∧(runK sl (cZ ys xs++C) 0 bY).sp.length=xs.length∧(runK sl (cZ ys xs++C) 0 bY).vs=ay.1::ys.map (·.1):=by
 refine gj (sS (ys:=ys) (xs:=xs)) ?_;intro h1 h2 _ _
 have q1:bo .v (cZ ys xs++C)=ay::ys:=by rw [cf,h1,hv,List.append_nil]
 have q2:bo .t (cZ ys xs++C)=xs:=by rw [cf,h2,ht,List.append_nil]
 refine ⟨vU D hm q1 sl,?_,?_,?_⟩
 ·rw [qd,q2];rfl
 ·refine ai (mr sl (cZ ys xs++C) 0 bY) ?_;intro gi e1 e2
  refine sY (e1 ..)▸?_
  show ([]++gi).length=_
  rewrite [List.nil_append];refine sY (e2 ..)▸?_;refine sY (q2 ..)▸?_;rfl
 ·rw [mq,q1];rfl
theorem G9 (D:Bs ys xs g s) {m:Nat} (hm:m=1+ys.length) {sm:List Nat} (hs:sm∈cC) {r:List Nat} (hr:r∈bc aU) :
  gJ Z sm (az (cZ ys xs)++aN m r::az [(Kd.s,s)]):=by
 have h2:=D.two hm
 obtain ⟨b1,_,j,hj⟩:=gB h2 _ (.tail _ (.tail _ (.tail _ (.head _)))) r hr
 refine gj D.I0 ?_;intro t1 _ t2 t3
 have hB:∀ r∈az [(Kd.s,s)],GF r:=λr h=>by
  have h:r∈[s.2]:=h
  rw [List.mem_singleton] at h;subst h;exact t2
 rcases hZ m (eB m) (bc aU) (wR m).2.1 hr with h |⟨h,d,hd⟩
 ·have C0:=D.FL (C:=[]) rfl rfl (.inl rfl) (.inl rfl)
  rw [List.append_nil] at C0
  refine refused Z hs C0 t1 hB (by show _+1≤10;exact iQ t3 rfl) b1 hj ?_
  rw [(jc h2).2.2.2.1] at h
  unfold mO
  refine sY ((mv sm.length (cZ ys xs) 0 bY sS.2.2.1).2 ..)▸?_
  exact (Ej Z).mem _ h _ _ _ _
 ·have C0:=D.FL (C:=[(.g,(d,clean (aN m r))),(.s,s)]) rfl rfl (.inr ⟨_,rfl,.inr ⟨m,h2,hd⟩⟩) (.inr ⟨s,rfl,.inl D.hs⟩)
  refine zM Z hs C0 t1 hB (by show _+1≤10;exact iQ t3 rfl) b1 ((wj h2).2.1 r h) ?_
  intro p0 p1 p2 ah ts
  refine gj (uv D hm (C:=[(.g,(d,clean (aN m r))),(.s,s)]) rfl rfl sm.length) ?_;intro W q1 q2 _
  refine aQ (qe sm.length (cZ ys xs) [(.s,s)] (d,clean (aN m r)) 0 bY rfl) ?_;intro g1 g2
  have:=A4 Z W D.hx D.cB q1 q2 hd g1 p0 p1 p2 ah ts
  rw [g2] at this
  exact this
theorem G6 (D:Bs ys xs g s) {m:Nat} (hm:m=1+ys.length) {sm:List Nat} (hs:sm∈cC) {r:List Nat} (hr:r∈bc aW) :
  gJ Z sm (az (cZ ys xs++[(Kd.g,g)])++aN m r::az []):=by
 have h2:=D.two hm
 obtain ⟨b1,_,j,hj⟩:=gB h2 _ (.tail _ (.tail _ (.tail _ (.tail _ (.head _))))) r hr
 refine gj D.I0 ?_;intro t0 t1 _ t3
 have hA:∀ r∈az (cZ ys xs++[(Kd.g,g)]),GF r:=λr h=>by
  have h:r∈List.map _ (cZ ys xs++[(Kd.g,g)]):=h
  rw [List.map_append] at h
  rcases List.mem_append.mp h with h |h
  ·exact t0 r h
  ·have h:r∈[g.2]:=h
   rw [List.mem_singleton] at h;subst h;exact t1
 have hl:(az (cZ ys xs++[(Kd.g,g)])).length≤6:=by
  show (List.map _ _).length≤6
  refine sY (List.map_append ..)▸?_;refine sY (List.length_append ..)▸?_
  show (az (cZ ys xs)).length+1≤6
  exact Nat.succ_le_succ t3
 have hB:∀ r∈az [],GF r:=λr h=>by cases h
 rcases hZ m (eS m) (bc aW) (wR m).2.2 hr with h |⟨h,d,hd⟩
 ·have C0:=D.FL (C:=[(.g,g)]) rfl rfl (.inr ⟨g,rfl,.inl D.hg⟩) (.inl rfl)
  refine refused Z hs C0 hA hB (by show _+0≤10;exact dU hl rfl) b1 hj ?_
  rw [(jc h2).2.2.2.2.1] at h
  unfold mO
  refine sY ((mu sm.length (cZ ys xs++[(Kd.g,g)]) 0 bY (by rw [cf,sS.2.2.2];rfl)).2 ..)▸?_
  exact (Bh Z).mem _ h _ _ _ _
 ·have e:(cZ ys xs++[(Kd.g,g)])++[(Kd.s,(d,clean (aN m r)))]=cZ ys xs++[(Kd.g,g),(Kd.s,(d,clean (aN m r)))]:=List.append_assoc _ _ _
  have C0:=D.FL (C:=[(.g,g),(.s,(d,clean (aN m r)))]) rfl rfl (.inr ⟨g,rfl,.inl D.hg⟩) (.inr ⟨_,rfl,.inr ⟨m,h2,hd⟩⟩)
  refine zM Z hs (B:=[]) (by rw [e];exact C0) hA hB (by show _+0≤10;exact dU hl rfl) b1 ((wj h2).2.2 r h) ?_
  intro p0 p1 p2 ah ts
  refine gj (uv D hm (C:=[(.g,g),(.s,(d,clean (aN m r)))]) rfl rfl sm.length) ?_;intro W q1 q2 _
  refine aQ (qe sm.length (cZ ys xs) [(.s,(d,clean (aN m r)))] g 0 bY rfl) ?_;intro g1 _
  refine aQ (tZ sm.length (cZ ys xs++[(Kd.g,g)]) [] (d,clean (aN m r)) 0 bY rfl) ?_;intro s1 s2
  rw [e] at s1 s2 ⊢
  have:=zQ Z W D.hx D.cB q1 q2 D.hg g1 hd s1 p0 p1 p2 ah ts
  rw [s2] at this
  exact this
theorem G3 (D:Bs ys xs g s) {m:Nat} (hm:m=1+ys.length) {sm:List Nat} (hs:sm∈cC) {r:List Nat} (hr:r∈gy) :
  gJ Z sm (az (kb ys xs g s)++aN m r::[]):=by
 have h2:=D.two hm
 obtain ⟨b1,_,j,hj⟩:=gB h2 _ (.tail _ (.tail _ (.tail _ (.tail _ (.tail _ (.head _)))))) r hr
 have hl:=D.len
 have l1:=D.eW
 have l2:=D.cB
 refine refused Z hs D.cond D.gf (λr h=>by cases h) (by show _+0≤10;exact lO (te hl l1 l2) rfl) b1 hj ?_
 rcases hZ m (gk gy) gy (o8 _) hr with h |h
 ·rw [(jc h2).2.2.2.2.2] at h
  have e:kb ys xs g s=(cZ ys xs++[(Kd.g,g)])++[(Kd.s,s)]:=rG
  have g2:=(qe sm.length (cZ ys xs) [(.s,s)] g 0 bY rfl).2
  have s2:=(tZ sm.length (cZ ys xs++[(Kd.g,g)]) [] s 0 bY rfl).2
  rw [← e] at s2
  unfold mO
  refine sY (g2 ..)▸?_;refine sY (s2 ..)▸?_
  exact (Cz Z).mem _ h _ _ _ _ _
 ·exact absurd h.1 (j8 _ _ _)
theorem EA (D:Bs ys xs g s) {m:Nat} (hm:m=1+ys.length) {sm:List Nat} (hs:sm∈cC) {out:List (List Nat)} (ho:il (az (kb ys xs g s)) m m out):gJ Z sm out∧(∀ r∈out,r.length < 100)∧out≠[]∧out.length≤12:=by
 have h2:=D.two hm
 have hl:=D.len
 have l1:=D.eW
 have l2:=D.cB
 have good:=D.gf
 have br:∀ l∈iF,∀ r∈l,(aN m r).length < 100:=λl hl r hr=>(gB h2 l hl r hr).2.1
 have mix:∀ (A B:List (List Nat)) (b:List Nat),(∀ r∈A,r∈az (kb ys xs g s))→(∀ r∈B,r∈az (kb ys xs g s))→b.length < 100→∀ r∈A++b::B,r.length < 100:=λA B b hA hB hb r hr=>by
  rcases List.mem_append.mp hr with hr |hr
  ·exact (good r (hA r hr)).rf.len
  ·rcases List.mem_cons.mp hr with rfl |hr
   ·exact hb
   ·exact (good r (hB r hr)).rf.len
 have tk:∀ i,(az (kb ys xs g s)).take i=az ((kb ys xs g s).take i):=λi=>List.map_take.symm
 have dr:∀ i,(az (kb ys xs g s)).drop i=az ((kb ys xs g s).drop i):=λi=>List.map_drop.symm
 have small:∀ (i j:Nat) (b:List Nat) (h:i≤j),((az (kb ys xs g s)).take i++b::(az (kb ys xs g s)).drop j).length≤12:=λi j b h=>by
  rw [List.length_append,List.length_cons,List.length_take,List.length_drop];exact Nc h (te hl D.eW D.cB)
 have kl:(cZ ys xs).length=(az (kb ys xs g s)).length - 2:=by
  refine sY (hl ..)▸?_
  show (kV ys++kT xs).length=_
  rw [List.length_append,List.length_map,List.length_map,List.length_cons];exact congrArg (·+xs.length) (Nat.add_comm _ _)
 have e1:(kb ys xs g s).take ((az (kb ys xs g s)).length - 2)=cZ ys xs:=List.take_left' kl
 have ea:kb ys xs g s=(cZ ys xs++[(Kd.g,g)])++[(Kd.s,s)]:=rG
 have K4:(cZ ys xs++[(Kd.g,g)]).length=(az (kb ys xs g s)).length - 1:=by
  rw [List.length_append,kl,List.length_singleton,hl];rfl
 have e2:(kb ys xs g s).take ((az (kb ys xs g s)).length - 1)=cZ ys xs++[(Kd.g,g)]:=by rw [ea];exact List.take_left' (by rw [← ea];exact K4)
 have e3:(kb ys xs g s).drop ((az (kb ys xs g s)).length - 1)=[(Kd.s,s)]:=by rw [ea];exact List.drop_left' (by rw [← ea];exact K4)
 cases ho with
 |@v r i hr hi=>
  refine ⟨?_,mix _ _ _ (λr h=>List.mem_of_mem_take h) (λr h=>List.mem_of_mem_drop h) (br _ (.head _) r hr),by simp,small _ _ _ (Nat.le_refl _)⟩
  rw [tk,dr];exact G4 Z D hm hs hr i
 |@h r i hr hi=>
  refine ⟨?_,mix _ _ _ (λr h=>List.mem_of_mem_take h) (λr h=>List.mem_of_mem_drop h) (br _ (.tail _ (.head _)) r hr),by simp,small _ _ _ (Nat.le_refl _)⟩
  rw [tk,dr];exact G7 Z D hm hs hr i
 |@t r i hr hi=>
  refine ⟨?_,mix _ _ _ (λr h=>List.mem_of_mem_take h) (λr h=>List.mem_of_mem_drop h) (br _ (.tail _ (.tail _ (.head _))) r hr),by simp,small _ _ _ (Nat.le_refl _)⟩
  rw [tk,dr];exact G5 Z D hm hs hr i
 |@g r hr=>
  refine ⟨?_,mix _ _ _ (λr h=>List.mem_of_mem_take h) (λr h=>List.mem_of_mem_drop h) (br _ (.tail _ (.tail _ (.tail _ (.head _)))) r hr),by simp,small _ _ _ (by omega)⟩
  rw [tk,dr,e1,e3];exact G9 Z D hm hs hr
 |@s r hr=>
  refine ⟨?_,mix _ [] _ (λr h=>List.mem_of_mem_take h) (λr h=>by cases h) (br _ (.tail _ (.tail _ (.tail _ (.tail _ (.head _))))) r hr),by simp,?_⟩
  ·rw [tk,e2];exact G6 Z D hm hs hr
  ·rw [List.length_append,List.length_take,List.length_singleton];omega
 |@x r hr=>
  refine ⟨?_,mix _ [] _ (λr h=>h) (λr h=>by cases h) (br _ (.tail _ (.tail _ (.tail _ (.tail _ (.tail _ (.head _)))))) r hr),by simp,?_⟩
  ·exact G3 Z D hm hs hr
  ·rw [List.length_append,List.length_singleton];exact iQ (te hl l1 l2) rfl
end
theorem nr:∀ x∈ay::dv++bU++cj++cY,x.1.isData=true∧x.1.depth≤10∧gz x.1 x.1=true:=by
 have h:((ay::dv++bU++cj++cY).all λx=>x.1.isData&&Nat.ble x.1.depth 10&&gz x.1 x.1)=true:=by decide +kernel
 intro x hx
 have:=List.all_eq_true.mp h x hx
 rw [Bool.and_eq_true,Bool.and_eq_true] at this
 exact ⟨this.1.1,Nat.le_of_ble_eq_true this.1.2,this.2⟩
theorem vf:∀ (l:List aA),(∀ x∈l,x.1.isData=true∧x.1.depth≤10∧gz x.1 x.1=true)→AV.eZ (l.map (·.1))=true∧AV.jG (l.map (·.1))≤10∧pO (l.map (·.1)) (l.map (·.1))=true
 |[],_=>⟨rfl,Nat.zero_le _,rfl⟩
 |x::l,h=>by
  refine bZ (vf l λa ha=>h a (.tail _ ha)) ?_;intro h1 h2 h3
  refine bZ (h x (.head _)) ?_;intro q1 q2 q3
  refine ⟨?_,?_,?_⟩
  ·show (x.1.isData&&AV.eZ (l.map (·.1)))=true
   rw [q1,h1];rfl
  ·show max x.1.depth (AV.jG (l.map (·.1)))≤10
   omega
  ·show (gz x.1 x.1&&pO (l.map (·.1)) (l.map (·.1)))=true
   rw [q3,h3];rfl
section
variable {b:Base} {H:aa}
theorem yZ {i:Nat} {l:List aA} (hi:H[i]?=some (.list (l.map λx:aA=>x.1))) (h:∀ x∈l,x.1.isData=true∧x.1.depth≤10∧gz x.1 x.1=true):(dq b).run (.ref i) (.fl (l.map λx:aA=>x.1)) H=.ok (.bool false) H:=by
 refine bZ (vf l h) ?_;intro h1 h2 h3
 have f1:flat H (.ref i)=.fl (l.map λx:aA=>x.1):=by unfold flat;dsimp only;rw [hi]
 have e:xP (.ref i) (.fl (l.map λx:aA=>x.1)) H=.ok true H:=by
  show (match (flat H (.ref i)).isData&&(AV.fl (l.map λx:aA=>x.1)).isData&&decide (min (flat H (.ref i)).depth (AV.fl (l.map λx:aA=>x.1)).depth≤20) with
  |true=>Res.ok (gz (flat H (.ref i)) (AV.fl (l.map λx:aA=>x.1))) H
  |false=>.stuck)=_
  refine sY (f1 ..)▸?_
  have d1:(AV.fl (l.map λx:aA=>x.1)).isData=true:=h1
  have d2:(AV.fl (l.map λx:aA=>x.1)).depth≤20:=by show AV.jG (l.map λx:aA=>x.1)+1≤20;exact iQ h2 rfl
  refine sY (d1 ..)▸?_;rewrite [Nat.min_self];refine sY (decide_eq_true d2 ..)▸?_
  show Res.ok (pO (l.map λx:aA=>x.1) (l.map λx:aA=>x.1)) H=_
  refine sY (h3 ..)▸?_;rfl
 show (xP (.ref i) (.fl (l.map λx:aA=>x.1)) H).bind _=_
 refine b1 e ?_
 rfl
theorem H9 {l:List AV} (h:(AV.tup l).isData=true∧(AV.tup l).depth≤10∧gz (AV.tup l) (AV.tup l)=true):(dq b).run (.tup l) (.tup l) H=.ok (.bool false) H:=by
 refine bZ h ?_;clear h;intro h1 h2 h3
 have e:xP (.tup l) (.tup l) H=.ok true H:=by
  show (match (AV.tup l).isData&&(AV.tup l).isData&&decide (min (AV.tup l).depth (AV.tup l).depth≤20) with
  |true=>Res.ok (gz (AV.tup l) (AV.tup l)) H
  |false=>.stuck)=_
  refine sY (h1 ..)▸?_;rewrite [Nat.min_self];refine sY (decide_eq_true (Nat.le_trans h2 (by decide:10≤20)) ..)▸?_;refine sY (h3 ..)▸?_
  rfl
 show (xP (.tup l) (.tup l) H).bind _=_
 refine b1 e ?_
 rfl
theorem ne_int {i:Nat}:(dq b).run (.int (i:Int)) (.int (i:Int)) H=.ok (.bool false) H:=by
 show Res.ok (AV.bool (((i:Int)==(i:Int)) != true)) H=_
 rewrite [beq_self_eq_true]
 rfl
theorem B6 {l:List Nat} {i:Nat} (h:bz 64 l=some i):(ql b).run (.str l) [.str [64]] H=.ok (.int (i:Int)) H:=by
 show bV (λk=>Res.ok (AV.int ((k:Nat):Int)) H) (bz 64 l)=_
 rw [h];rfl
theorem HO {l:List Nat} (h:l.length < 3900):vE 64 [] (.str l) H=.ok (.str (bT 64 [] l)) H:=by
 show (if ([]:List Nat)≠[64]∧l.length+(l.length+1) * ([]:List Nat).length≤16777216 then _ else _)=_
 rw [if_pos ⟨by decide,by show l.length+(l.length+1) * 0≤_;exact zC h rfl⟩]
end
section
variable (Z:U)
theorem Cf {t:List Nat} {i:Nat} (h:bO ((cM Z).run [.str t] [.dead,.dead,.dead])=some (.int (i:Int))) (H:aa):(jn Z).run [.str t] H=.ok (.int (i:Int)) H:=by
 have e0:(jn Z).run [.str t] H=aF (vM H (rq Z [(3,.str t)] [.dead,.dead,.dead])):=by kernel_rfl
 rw [e0]
 unfold rq
 rw [gl (x:=3) (v:=.str t) rfl]
 repeat rw [ae]
 cases q:(cM Z).run [.str t] [.dead,.dead,.dead] with
 |ok _ _=>rw [q] at h;cases h
 |stuck=>rw [q] at h;cases h
 |bD x H'=>
  rw [q] at h
  have h:some x=some (.int (i:Int)):=h
  injection h with h
  subst h
  rfl
variable {ys xs:List aA} {g s:aA}
theorem Au (D:Bs ys xs g s) {sm:List Nat} (hs:sm∈cC) (p0 p1 p2:aK):∃ ah sp gs ss,(cM Z).run [.str (laid sm (az (kb ys xs g s)))] [p0,p1,p2]=.ok (.ref 5) (stH p0 p1 p2 ah [] (ay.1::ys.map (·.1)) (xs.map (·.1)) sp g.1 s.1 gs ss):=by
 have hl:=D.len
 have l1:=D.eW
 have l2:=D.cB
 have T:kQ sm (az (kb ys xs g s)):=tU hs (by intro e;rw [e] at hl;exact IQ hl) (lO (te hl l1 l2) rfl) λr hr=>(D.gf r hr).rf
 refine aJ (wx Z D.cond T (lO (te hl l1 l2) rfl) p0 p1 p2) ?_;intro i u us e
 refine gj (uv D (m:=1+ys.length) rfl (C:=[(.g,g),(.s,s)]) rfl rfl sm.length) ?_;intro W q1 q2 q3
 have g1:=(qe sm.length (cZ ys xs) [(.s,s)] g 0 bY rfl).1
 have s1:=(tZ sm.length (cZ ys xs++[(Kd.g,g)]) [] s 0 bY rfl).1
 rw [← rG] at s1
 have t:=A3 Z W D.hx D.cB q1 q2 D.hg g1 D.hs s1 p0 p1 p2 (je i) []
 have t':=Gp (u:=u) (us:=us) t
 refine ⟨je i,(runK sm.length (kb ys xs g s) 0 bY).sp,(runK sm.length (kb ys xs g s) 0 bY).gs,(runK sm.length (kb ys xs g s) 0 bY).ss,?_⟩
 refine sY (e ..)▸?_
 refine t'.trans ?_
 show Res.ok (AV.ref 5) (stH p0 p1 p2 (je i) [] (runK sm.length (kb ys xs g s) 0 bY).vs (runK sm.length (kb ys xs g s) 0 bY).tl _ (runK sm.length (kb ys xs g s) 0 bY).goal (runK sm.length (kb ys xs g s) 0 bY).shown _ _)=_
 refine sY (q3 ..)▸?_;refine sY (q1 ..)▸?_;refine sY (g1 ..)▸?_;refine sY (s1 ..)▸?_;rfl
end
section
variable {b:Base} {H:aa}
theorem len_list {i:Nat} {l:List AV} (h:H[i]?=some (.list l)) (hl:l.length < 3900):(fm b).run [.ref i] H=.ok (.int (l.length:Int)) H:=by
 have e:Ak (.ref i) H=some l.length:=by
  show (itemsOf H (.ref i)).map (·.length)=_
  have:itemsOf H (.ref i)=some l:=by unfold itemsOf;dsimp only;rw [h]
  rw [this];rfl
 show bV (λk=>if k≤1099511627776 then Res.ok (AV.int ((k:Nat):Int)) H else .stuck) (Ak (.ref i) H)=_
 refine sY (e ..)▸?_
 exact if_pos (zC hl rfl)
theorem Me {x y z u:Nat} {a c d e:AV} {loc:Loc}:lQ [x,y,z,u] (.tup [a,c,d,e]) loc H=.ok (.next,(u,e)::(z,d)::(y,c)::(x,a)::loc) H:=rfl
theorem DT {l:List AV} (h:l.length < 3900):(wO b).run [.fl l] H=.ok (.fl l) H:=by
 show (if l.length≤aq then _ else _)=_
 rewrite [if_pos (m7 (dU h rfl))];rfl
end
theorem v5:(∀ x∈cj,∃ l,x.1=.tup l)∧∀ x∈cY,∃ l,x.1=.tup l:=by
 have h:All (λx:aA=>∃ l,x.1=.tup l) cj∧All (λx:aA=>∃ l,x.1=.tup l) cY:=by
  constructor<;>repeat' (first |exact True.intro |refine And.intro ⟨_,rfl⟩ ?_)
 exact ⟨h.1.mem,h.2.mem⟩
section
variable (Z:U)
variable {ys xs:List aA} {g s:aA}
structure LB (L:Loc) (rows:List (List Nat)):Prop where
 jX:L.lookup 75=some (.ref 0)
 iH:L.lookup 34=some (.fl (rows.map AV.str))
 sR:L.lookup 29=some (.ref 1)
theorem y9 {cs:List AV} (C:CellsOk cs) (D:Bs ys xs g s) {k:Nat} (hk:k < 100) {R:aa} (hR:R[0]?=some (.list ((ay::ys).map pr))) {L:Loc} (M:LB L (az (kb ys xs g s))) :
  ∃ k' L',k'≤k+4∧LB L' (az (kb ys xs g s))∧qy Z L (aj cs k::R)=.ok (.next,L') (aj cs k'::R):=by
 have l1:=D.eW
 have l2:=D.cB
 have hl:=D.len
 have hm:((ay::ys).map pr).length=1+ys.length:=by rw [List.length_map,List.length_cons];exact Nat.add_comm _ _
 refine bk (EJ Z C (k:=k) (dU hk rfl) R (rows:=az (kb ys xs g s)) (iQ (te hl l1 l2) rfl) (1+ys.length) (D.two rfl)) ?_;intro k1 out xn ho e1
 have q:∀ sm∈cC,_:=λsm hs=>EA Z D rfl hs ho
 refine gj (q _ (.head _)) ?_;intro _ o1 o2 o3
 refine ai (wU Z C (k:=k1) (by omega) R out o2 λs hs=>iG hs o3 o1) ?_;intro sm hs e2
 refine ai ((q sm hs).1 .dead .dead .dead) ?_;intro i e3 e4
 have e5:=Cf Z e4 (aj cs (k1+1)::R)
 have xd:=iG hs o3 o1
 refine ⟨k1+1,(3,.str (laid sm out))::L,Nat.succ_le_succ xn,⟨M.jX,M.iH,M.sR⟩,?_⟩
 have lr:∀ F:aK,(fm (B Z)).run [.ref 1] (F::R)=.ok (.int ((1+ys.length:Nat):Int)) (F::R):=λF=>by
  rw [len_list (i:=1) (l:=(ay::ys).map pr) (by exact hR) (by omega),hm]
 have ln:∀ F:aK,(((ab L 29 (F::R)).bind λv H=>(Res.ok [] H).bind λvs H=>Res.ok (v::vs) H).bind λvs H=>(fm (B Z)).run vs H)=.ok (.int ((1+ys.length:Nat):Int)) (F::R):=λF=>b1 (a:=[.ref 1]) (H:=F::R) (b1 (a:=.ref 1) (H:=F::R) (gl M.sR) rfl) (lr F)
 refine jr (l:=(3,.str (laid sm out))::L) (H:=aj cs (k1+1)::R) ?_ ?_
 ·refine b1 (a:=.str (laid sm out)) (H:=aj cs (k1+1)::R) ?_ rfl
  refine b1 (a:=[.ref 0,.fl (out.map AV.str)]) (H:=aj cs k1::R) ?_ ?_
  rotate_left
  ·exact e2
  refine b1 (a:=.ref 0) (H:=aj cs k::R) (gl M.jX) ?_
  refine b1 (a:=[.fl (out.map AV.str)]) (H:=aj cs k1::R) ?_ rfl
  refine b1 (a:=.fl (out.map AV.str)) (H:=aj cs k1::R) ?_ rfl
  refine b1 (a:=[.ref 0,.fl ((az (kb ys xs g s)).map AV.str),.int ((1+ys.length:Nat):Int),.int ((1+ys.length:Nat):Int)]) (H:=aj cs k::R) ?_ ?_
  rotate_left
  ·exact e1
  refine b1 (a:=.ref 0) (H:=aj cs k::R) (gl M.jX) ?_
  refine b1 (a:=[.fl ((az (kb ys xs g s)).map AV.str),.int ((1+ys.length:Nat):Int),.int ((1+ys.length:Nat):Int)]) (H:=aj cs k::R) ?_ rfl
  refine b1 (a:=.fl ((az (kb ys xs g s)).map AV.str)) (H:=aj cs k::R) (gl M.iH) ?_
  refine b1 (a:=[.int ((1+ys.length:Nat):Int),.int ((1+ys.length:Nat):Int)]) (H:=aj cs k::R) ?_ rfl
  refine b1 (a:=.int ((1+ys.length:Nat):Int)) (H:=aj cs k::R) (ln _) ?_
  refine b1 (a:=[.int ((1+ys.length:Nat):Int)]) (H:=aj cs k::R) ?_ rfl
  exact b1 (a:=.int ((1+ys.length:Nat):Int)) (H:=aj cs k::R) (ln _) rfl
 ·refine jr (l:=(3,.str (laid sm out))::L) (H:=aj cs (k1+1)::R) (b1 (a:=false) (H:=aj cs (k1+1)::R) ?_ rfl) rfl
  refine b1 (a:=.int (i:Int)) (H:=aj cs (k1+1)::R) ?_ ?_
  ·refine b1 (a:=.str (bT 64 [] (laid sm out))) (H:=aj cs (k1+1)::R) ?_ ?_
   rotate_left
   ·exact e5
   exact b1 (a:=.str (laid sm out)) (H:=aj cs (k1+1)::R) (gl rfl) (HO xd)
  ·refine b1 (a:=.int (i:Int)) (H:=aj cs (k1+1)::R) ?_ (b1 (a:=.bool false) (H:=aj cs (k1+1)::R) ne_int rfl)
   refine b1 (a:=.str (laid sm out)) (H:=aj cs (k1+1)::R) (gl rfl) ?_
   refine (mG rfl).trans ?_
   exact b1 (a:=[.str [64]]) (H:=aj cs (k1+1)::R) rfl (B6 e3)
noncomputable abbrev LM (l:List AV) (g s:aA):Loc:=[(7,pr s),(6,pr g),(5,.ref 2),(29,.ref 1),(75,.ref 0),(83,.fl l)]
theorem J3 (D:Bs ys xs g s) (l:List AV) (F:aK):zK Z (LM l g s) [F,.list ((ay::ys).map pr),.list (xs.map pr)]=uy Z ((34,.fl ((az (kb ys xs g s)).map AV.str))::LM l g s) [F,.list ((ay::ys).map pr),.list (xs.map pr)]:=by
 have h1:=D.eW
 have h2:=D.cB
 clear D
 refine mP ys h1 ?_ λy=>?_<;>exact p8 xs h2 (by kernel_rfl) (λ_=>by kernel_rfl) λ_ _=>by kernel_rfl
theorem Hj (D:Bs ys xs g s) {L:Loc} (h:L.lookup 29=some (.ref 1)) (p0 p2:aK) (ah:AV) (ts vs tl sp:List AV) (goal shown:AV) (gs ss:Int) :
  jq true (lj [31,3]) (λloc H=>(ab loc 31 H)) (λloc H=>((ab loc 29 H).bind fE)) [] L (stH p0 (.list ((ay::ys).map pr)) p2 ah ts vs tl sp goal shown gs ss)=.ok (.fl ((ay::ys).map λx:aA=>x.1)) (stH p0 (.list ((ay::ys).map pr)) p2 ah ts vs tl sp goal shown gs ss):=by
 show ((ab L 29 _).bind fE).bind _=_
 refine b2 (gl h) ?_
 exact mP ys D.eW (by kernel_rfl) λ_=>by kernel_rfl
theorem Hk (D:Bs ys xs g s) {L:Loc} (h:L.lookup 5=some (.ref 2)) (p0 p1:aK) (ah:AV) (ts vs tl sp:List AV) (goal shown:AV) (gs ss:Int) :
  jq true (lj [31,3]) (λloc H=>(ab loc 31 H)) (λloc H=>((ab loc 5 H).bind fE)) [] L (stH p0 p1 (.list (xs.map pr)) ah ts vs tl sp goal shown gs ss)=.ok (.fl (xs.map λx:aA=>x.1)) (stH p0 p1 (.list (xs.map pr)) ah ts vs tl sp goal shown gs ss):=by
 show ((ab L 5 _).bind fE).bind _=_
 refine b2 (gl h) ?_
 exact p8 xs D.cB (by kernel_rfl) (λ_=>by kernel_rfl) λ_ _=>by kernel_rfl
theorem yL:az (kb ys xs g s)=(ay::ys++xs++[g,s]).map (·.2):=by
 show List.map _ _=_
 refine sY (List.map_append ..)▸?_;refine sY (List.map_append ..)▸?_;refine sY (List.map_append ..)▸?_;refine sY (List.map_append ..)▸?_;refine sY (List.map_map ..)▸?_;refine sY (List.map_map ..)▸?_
 rfl
theorem Bs.data (D:Bs ys xs g s):(∀ x∈ay::ys,x.1.isData=true∧x.1.depth≤10∧gz x.1 x.1=true)∧(∀ x∈xs,x.1.isData=true∧x.1.depth≤10∧gz x.1 x.1=true)∧(g.1.isData=true∧g.1.depth≤10∧gz g.1 g.1=true)∧(s.1.isData=true∧s.1.depth≤10∧gz s.1 s.1=true):=by
 refine ⟨λx hx=>nr x (List.mem_append_left _ (List.mem_append_left _ (List.mem_append_left _ ?_))),λx hx=>nr x (List.mem_append_left _ (List.mem_append_left _ (List.mem_append_right _ (D.hx x hx)))),nr g (List.mem_append_left _ (List.mem_append_right _ D.hg)),nr s (List.mem_append_right _ D.hs)⟩
 rcases List.mem_cons.mp hx with rfl |hx
 ·exact .head _
 ·exact .tail _ (D.hy x hx)
end
section
variable {b:Base} {H:aa}
theorem ne_data {v:AV} (hv:∃ l,v=.tup l) (h:v.isData=true∧v.depth≤10∧gz v v=true):(dq b).run v v H=.ok (.bool false) H:=by
 refine bg hv ?_;clear hv;rintro l rfl
 exact H9 h
end
section
variable (Z:U)
variable {ys xs:List aA} {g s:aA}
theorem J6 {cs:List AV} (C:CellsOk cs) (D:Bs ys xs g s) {k:Nat} (hk:k < 50) {R:aa} (hR:R[0]?=some (.list ((ay::ys).map pr))) {L:Loc} (M:LB L (az (kb ys xs g s))) :
  ∃ L' H',qx Z L (aj cs k::R)=.ok (.ret (.bool true),L') H':=by
 have Ij:∀ {L:Loc} (_:LB L (az (kb ys xs g s))) (v:AV),LB ((78,v)::L) (az (kb ys xs g s)):=λM v=>⟨M.jX,M.iH,M.sR⟩
 refine bk (y9 Z C D (k:=k) (dU hk rfl) hR (Ij M (.int 0))) ?_;intro k1 L1 h1 M1 e1
 refine bk (y9 Z C D (k:=k1) (by omega) hR (Ij M1 (.int 1))) ?_;intro k2 L2 h2 M2 e2
 refine ⟨L2,aj cs k2::R,?_⟩
 have rr:(fQ (B Z)).run [.int 2] (aj cs k::R)=.ok (.ff 0 1 2) (aj cs k::R):=by kernel_rfl
 have loop:bK false (λloc v=>some ((78,v)::loc)) (qy Z) (.ff 0 1 2) ((It.ff 0 1 2).size (aj cs k::R)+1) 0 L (aj cs k::R)=.ok (.next,L2) (aj cs k2::R):=by
  show bK false (λloc v=>some ((78,v)::loc)) (qy Z) (.ff 0 1 2) (0+1+1+1) 0 L _=_
  exact (cA (v:=.int 0) rfl rfl rfl e1).trans ((cA (v:=.int 1) rfl rfl rfl e2).trans (dP rfl rfl))
 unfold qx
 refine k4 (k4 (k3 ?_))
 refine b2 rr ?_
 skip
 refine b1 loop ?_
 skip
 refine sY (aC ..)▸?_
 rfl
theorem J5 {cs:List AV} (C:CellsOk cs) (D:Bs ys xs g s) {k:Nat} (hk:k < 50) (l:List AV) (ah:AV) (sp:List AV) (gs ss:Int) :
  ∃ L' H',uA Z ((35,.ref 5)::(34,.fl ((az (kb ys xs g s)).map AV.str))::LM l g s) (stH (aj cs k) (.list ((ay::ys).map pr)) (.list (xs.map pr)) ah [] (ay.1::ys.map (·.1)) (xs.map (·.1)) sp g.1 s.1 gs ss)=.ok (.ret (.bool true),L') H':=by
 refine gj D.data ?_;intro _ _ d3 d4
 have hl:=D.len
 have l1:=D.eW
 have l2:=D.cB
 have xd:=iG (s:=[10]) (.head _) (rows:=az (kb ys xs g s)) (lO (te hl l1 l2) rfl) λr hr=>(D.gf r hr).rf.len
 refine bg (vt Z D.hy D.eW D.hx D.cB D.hg D.hs (aj cs k) (.list ((ay::ys).map pr)) (.list (xs.map pr)) ah [] sp gs ss (by rw [← yL];exact xd)) ?_;intro rs e
 rw [← yL] at e
 have f6:aD 150 6 (.ref 5) (stH (aj cs k) (.list ((ay::ys).map pr)) (.list (xs.map pr)) ah [] (ay.1::ys.map (·.1)) (xs.map (·.1)) sp g.1 s.1 gs ss)=.ok g.1 (stH (aj cs k) (.list ((ay::ys).map pr)) (.list (xs.map pr)) ah [] (ay.1::ys.map (·.1)) (xs.map (·.1)) sp g.1 s.1 gs ss):=by kernel_rfl
 have f7:aD 150 7 (.ref 5) (stH (aj cs k) (.list ((ay::ys).map pr)) (.list (xs.map pr)) ah [] (ay.1::ys.map (·.1)) (xs.map (·.1)) sp g.1 s.1 gs ss)=.ok s.1 (stH (aj cs k) (.list ((ay::ys).map pr)) (.list (xs.map pr)) ah [] (ay.1::ys.map (·.1)) (xs.map (·.1)) sp g.1 s.1 gs ss):=by kernel_rfl
 have K7:∀ (x:aA) (H:aa),cG (pr x) (.int 0) H=.ok x.1 H:=λx H=>by kernel_rfl
 have tl:∃ L' H',qx Z ((35,.ref 5)::(34,.fl ((az (kb ys xs g s)).map AV.str))::LM l g s) (stH (aj cs k) (.list ((ay::ys).map pr)) (.list (xs.map pr)) ah [] (ay.1::ys.map (·.1)) (xs.map (·.1)) sp g.1 s.1 gs ss++[.list rs])=.ok (.ret (.bool true),L') H':=J6 Z C D hk rfl ⟨rfl,rfl,rfl⟩
 refine vI tl ?_;clear tl;intro L' H' e4
 refine ⟨L',H',?_⟩
 unfold uA
 refine b5 (gl (x:=35) (v:=.ref 5) rfl) ?_
 skip
 refine b4 f6 ?_
 skip
 refine b5 (gl (x:=6) (v:=pr g) rfl) ?_
 refine k5 ?_
 rewrite [K7]
 refine k4 ?_
 refine b4 (ne_data (v5.1 g D.hg) d3) ?_
 skip
 refine b3 a8 ?_
 skip
 try dsimp only
 skip
 refine b5 (gl (x:=35) (v:=.ref 5) rfl) ?_
 skip
 refine b4 f7 ?_
 skip
 refine b5 (gl (x:=7) (v:=pr s) rfl) ?_
 refine k5 ?_
 rewrite [K7]
 refine k4 ?_
 refine b4 (ne_data (v5.2 s D.hs) d4) ?_
 skip
 refine b3 a8 ?_
 skip
 try dsimp only
 skip
 refine b6 (gl (x:=35) (v:=.ref 5) rfl) ?_
 refine k6 (k5 ?_)
 refine b4 e ?_
 refine k6 ?_
 refine c5 (mG rfl) ?_
 skip
 refine b7 (gl (x:=34) (v:=.fl ((az (kb ys xs g s)).map AV.str)) rfl) ?_
 refine k7 (k6 ?_)
 rw [rH rfl (by intro e;rw [e] at hl;exact IQ hl) xd (by decide)]
 refine k5 (k5 ?_)
 rw [add_str (by
  unfold laid at xd
  rw [List.length_append] at xd
  exact Nat.lt_trans xd (by decide))]
 refine k4 ?_
 refine b4 yY ?_
 skip
 refine sY (show ((laid [10] (az (kb ys xs g s))==cy [10] (az (kb ys xs g s))++[10]))=true from beq_self_eq_true _ ..)▸?_
 skip
 refine b3 a8 ?_
 skip
 refine sY (Bool.not_true ..)▸?_
 try dsimp only
 refine k2 (k1 ?_)
 try dsimp only
 skip
 repeat rw [aC]
 exact e4
theorem J4 {cs:List AV} (C:CellsOk cs) (D:Bs ys xs g s) {k:Nat} (hk:k < 50) (l:List AV) (ah:AV) (sp:List AV) (gs ss:Int) :
  ∃ L' H',uz Z ((35,.ref 5)::(34,.fl ((az (kb ys xs g s)).map AV.str))::LM l g s) (stH (aj cs k) (.list ((ay::ys).map pr)) (.list (xs.map pr)) ah [] (ay.1::ys.map (·.1)) (xs.map (·.1)) sp g.1 s.1 gs ss)=.ok (.ret (.bool true),L') H':=by
 refine vI (J5 Z C D hk l ah sp gs ss) ?_;intro L' H' e4
 refine gj D.data ?_;intro d1 d2 _ _
 have f4:aD 150 4 (.ref 5) (stH (aj cs k) (.list ((ay::ys).map pr)) (.list (xs.map pr)) ah [] (ay.1::ys.map (·.1)) (xs.map (·.1)) sp g.1 s.1 gs ss)=.ok (.ref 6) (stH (aj cs k) (.list ((ay::ys).map pr)) (.list (xs.map pr)) ah [] (ay.1::ys.map (·.1)) (xs.map (·.1)) sp g.1 s.1 gs ss):=by kernel_rfl
 have f5:aD 150 5 (.ref 5) (stH (aj cs k) (.list ((ay::ys).map pr)) (.list (xs.map pr)) ah [] (ay.1::ys.map (·.1)) (xs.map (·.1)) sp g.1 s.1 gs ss)=.ok (.ref 7) (stH (aj cs k) (.list ((ay::ys).map pr)) (.list (xs.map pr)) ah [] (ay.1::ys.map (·.1)) (xs.map (·.1)) sp g.1 s.1 gs ss):=by kernel_rfl
 refine ⟨L',H',?_⟩
 unfold uz
 refine b5 (gl (x:=35) (v:=.ref 5) rfl) ?_
 skip
 refine b4 f4 ?_
 skip
 refine b4 (Hj D rfl ..) ?_
 skip
 refine b4 (yZ (l:=ay::ys) rfl d1) ?_
 skip
 refine b3 a8 ?_
 skip
 try dsimp only
 refine b5 (gl (x:=35) (v:=.ref 5) rfl) ?_
 skip
 refine b4 f5 ?_
 skip
 refine b4 (Hk D rfl ..) ?_
 skip
 refine b4 (yZ (l:=xs) rfl d2) ?_
 skip
 refine b3 a8 ?_
 refine k2 (k1 ?_)
 try dsimp only
 skip
 repeat rw [aC]
 exact e4
theorem GD (l:List AV) (hi:∀ v∈l,∃ i,v=.int i) (hl:l.length < 3900):∃ L' H',AK Z [(83,.fl l)] []=.ok (.ret (.bool true),L') H':=by
 have C:CellsOk (l.take 30):=⟨λv hv=>hi v (List.mem_of_mem_take hv),List.length_take_le 30 l⟩
 refine JS (BG Z C) ?_;intro k ys xs g s hk hy eW hx cB hg hs e1
 have D:Bs ys xs g s:=⟨hy,eW,hx,cB,hg,hs⟩
 have len:=D.len
 refine ai (wU Z C (k:=k) (iQ hk rfl) [.list ((ay::ys).map pr),.list (xs.map pr)] (az (kb ys xs g s)) (by intro e;rw [e] at len;exact IQ len) (λs hs=>iG hs (lO (te len eW cB) rfl) λr hr=>(D.gf r hr).rf.len)) ?_;intro sm NC e2
 refine Ad (Au Z D NC (aj (l.take 30) (k+1)) (.list ((ay::ys).map pr)) (.list (xs.map pr))) ?_;intro ah sp gs ss e3
 refine vI (J4 Z C D (k:=k+1) (FO hk rfl) l ah sp gs ss) ?_;intro L' H' e4
 refine ⟨L',H',?_⟩
 have L9:upTo l 30=l.take 30:=vY (i:=30)
 have zd:(l.take 30).length < 3900:=Nat.lt_of_le_of_lt C.len (by decide)
 have d:zu (nq [99,101,108,108,115] (.ok (.fl (l.take 30)) []) λH=>(nq [97,116] (Res.ok (AV.int 0) H) λH=>(Res.ok [] H)))=.ok (.ref 0) [aj (l.take 30) 0]:=by kernel_rfl
 unfold AK
 rw [gl (x:=83) (v:=.fl l) rfl]
 repeat rw [ae]
 rw [vD hl,L9]
 repeat rw [ae]
 rw [DT zd,d]
 repeat rw [ae]
 rw [aC]
 unfold zJ
 rw [gl (x:=75) (v:=.ref 0) rfl]
 repeat rw [ae]
 rw [e1]
 repeat rw [ae]
 rw [Me]
 repeat rw [ae]
 rw [aC]
 refine (J3 Z D l _).trans ?_
 unfold uy
 rw [gl (x:=75) (v:=.ref 0) rfl]
 repeat rw [ae]
 rw [gl (x:=34) (v:=.fl ((az (kb ys xs g s)).map AV.str)) rfl]
 repeat rw [ae]
 rw [e2]
 repeat rw [ae]
 rw [e3]
 repeat rw [ae]
 rw [aC]
 exact e4
end
theorem AR {b:Base} {g:Gh} {P:Params} {h:Heap} {l:List Int}:∀ {vs:List Value},WellAll P h vs (ofPys (l.map PyData.int))→aX b g (l.map AV.int) vs:=by
 induction l with
 |nil=>intro vs w;cases w;exact .nil
 |cons i l ih=>
  intro vs w
  have w:WellAll P h vs (.cons (.int i) (ofPys (l.map PyData.int))):=w
  cases w with
  |cons h t=>cases h;exact .cons (.int _ _) (ih t)
theorem AQ {b:Base} {g:Gh} {P:Params} {l:List Int} {a:Addr} (W:Well P b.hT (.ref a) (ofPy (.list (l.map PyData.int)))):ak b g (.fl (l.map AV.int)) (.ref a):=by
 have W:Well P b.hT (.ref a) (.list (ofPys (l.map PyData.int))):=W
 cases W with
 |list h1 h2=>exact .fl (.inr h1) rfl rfl rfl (AR h2)
set_option maxHeartbeats 4000000 in
theorem DY {w:World} {K:Frag} {hT:Heap} {p:Program} {loose:List Str} {Mm:ExcName→Option Value} {mg mb:Str→Option Value} {s:Shared} {L fa a:Addr} {cd:Value} {l:List Int} {Q:Flow→Shared→Prop} {E:VP}
  {name x:Str} {sc:Scope} {body:List Stmt} (FB:tS (B0 ⟨w,K,hT⟩)) (KX:K.In hT) (T:Top p loose Mm mg mb hT) (W:Well w.params hT (.ref a) (ofPy (.list (l.map PyData.int)))) (hl:¬ (63:Int) < l.length)
  (F:Fr hT L s.heap λy=>List.lookup y [(x,Value.ref a)].reverse) (ht:1≤s.toks) (hx:x=o9 83) (ND:sc=mh) (hb:body=aM 53 none)
  (hQ:∀ h' t' m,Fr hT L h' m→Q (.ret (.bool true)) {s with heap:=h',toks:=t'}) :
  wpAny (model PySem.Challenge.pw_pc0056_01 w) (callerA.deeper (envOf name sc L fa cd)) (execs body (envOf name sc L fa cd)) Q E s:=by
 subst hx ND
 have O:(B ⟨w,K,hT⟩).Ok:=⟨FB,Gr,λh=>by
   refine aQ h ?_;clear h;rintro ⟨h1,h2⟩ _
   exact ⟨h1▸(by decide),h2▸(by decide)⟩,KX,T.nolimit,λx r e=>⟨mg,T.g,match r,e with
   |none,e=>mg_none_of KX T.g e
   |some v,e=>mg_of KX T.g e⟩,⟨mb,T.b,T.builtins⟩⟩
 have e:body=(vQ ⟨w,K,hT⟩).py:=hb.trans (by kernel_rfl)
 rw [e]
 refine vI (GD ⟨w,K,hT⟩ (l.map AV.int) (λv hv=>by
  refine ai (List.mem_map.mp hv) ?_;intro i _ e
  exact ⟨i,e.symm⟩) (by rw [List.length_map];omega)) ?_;intro L' H' run
 refine bb.ok O (vQ ⟨w,K,hT⟩) ⟨envOf name mh L fa cd,false,L,callerA.deeper (envOf name mh L fa cd),[],[]⟩ ⟨[],[]⟩ [(83,.fl (l.map AV.int))] [] s Q E ⟨rfl,rfl,rfl,λ_=>rfl,rfl,rfl,by show 1+claimMargin+1+10 * 14+10 < recursionLimit;decide,by show 4+3+40 * 14+40 < cLine;decide,rfl,rfl⟩ rfl ht ?_ ?_
 ·refine ⟨_,[],[],{stays:=F.keep,ns:=F.ns,above:=F.above,cell:=(λp hp=>nomatch hp),nodup:=.nil,off:=(λp hp=>nomatch hp),loc:=λk v e=>?_,heap:=.nil,bX:=.nil,af:=.nil}⟩
  by_cases q:k=83
  ·subst q
   cases (show some (AV.fl (l.map AV.int))=some v from e)
   refine ⟨.ref a,.inl ⟨by kernel_rfl,?_⟩,AQ W⟩
   show List.lookup (o9 83) [(o9 83,Value.ref a)]=_
   rw [List.lookup_cons,beq_self_eq_true]
  ·rw [bj q] at e;cases e
 ·rw [Kn,run]
  intro g' val h' t' _ R V
  obtain ⟨m,ag,af,R⟩:=R
  cases V
  exact hQ h' t' m ⟨R.ns,R.stays,F.above⟩
theorem Ih {α:Type} {l:List α} (h:l.length=2):∃ a b,l=[a,b]:=by
 cases l with
 |nil=>cases h
 |cons a t=>cases t with
  |nil=>cases h
  |cons b t=>cases t with
   |nil=>exact ⟨a,b,rfl⟩
   |cons=>cases h
theorem Mn {α:Type} {l:List α} (h:l.length=3):∃ a b c,l=[a,b,c]:=by
 cases l with
 |nil=>cases h
 |cons a t=>exact (Ih (Nat.succ.inj h)).elim λb ⟨c,e⟩=>⟨a,b,c,e▸rfl⟩
section
variable {b:Base}
noncomputable def fnOf:Data→Option FuncData
 |.func fd=>some fd
 |_=>none
theorem GV {fd:FuncData} (d:Data):fnOf d=some fd→d=.func fd:=by
 cases d<;>intro (h:_=some fd)<;>first |(cases h;rfl) |cases h
noncomputable def LI (K:Frag) (a:Addr):Option FuncData:=(K.lookup a).bind λo=>fnOf o.data
theorem Jb {K:Frag} {a:Addr} {fd:FuncData} (h:LI K a=some fd):∃ oc od kG,K.lookup a=some ⟨oc,od,.func fd,kG⟩:=by
 refine ai (Option.bind_eq_some_iff.mp h) ?_;intro o h1 h2
 exact ⟨o.cls,o.dict,o.slots,by rw [h1,← GV _ h2]⟩
noncomputable def zP (n:Nat) (v0 v1 v2 v3 v4:Value):List Value:=List.take n [v0,v1,v2,v3,v4]
theorem C9 {n:Nat} (vals:List Value) (h:vals.length=n) (hn:n≤5):∃ v0 v1 v2 v3 v4,vals=zP n v0 v1 v2 v3 v4:=by
 subst h
 obtain _ |⟨a,l⟩:=vals
 ·exact ⟨.none,.none,.none,.none,.none,rfl⟩
 obtain _ |⟨b,l⟩:=l
 ·exact ⟨a,a,a,a,a,rfl⟩
 obtain _ |⟨c,l⟩:=l
 ·exact ⟨a,b,a,a,a,rfl⟩
 obtain _ |⟨d,l⟩:=l
 ·exact ⟨a,b,c,a,a,rfl⟩
 obtain _ |⟨e,l⟩:=l
 ·exact ⟨a,b,c,d,a,rfl⟩
 obtain _ |⟨f,l⟩:=l
 ·exact ⟨a,b,c,d,e,rfl⟩
 exact absurd (show l.length+6≤5 from hn) (by omega)
noncomputable abbrev AM:=Nat×Scope×List Nat×List Stmt
noncomputable def Cv (K:Frag) (nm:Nat→Str) (p:AM):Option ((FuncBody×Scope×Nat×Nat×Bool×List (Str×Addr)×Bool)×(Value→Value→Value→Value→Value→Sem (List (Str×Value)))):=
 (LI K p.1).map λfd=>((fd.body,fd.scope,fd.globals,fd.builtins,codeIn K fd.code fd.qualname,fd.closure,Nat.ble p.2.2.1.length 5),λv0 v1 v2 v3 v4=>bindArgs fd ⟨zP p.2.2.1.length v0 v1 v2 v3 v4,[]⟩)
noncomputable def Cw (nm:Nat→Str) (p:AM):Option ((FuncBody×Scope×Nat×Nat×Bool×List (Str×Addr)×Bool)×(Value→Value→Value→Value→Value→Sem (List (Str×Value)))):=
 some ((.stmts p.2.2.2,p.2.1,mainGlobals,builtinsNs,true,[],true),λv0 v1 v2 v3 v4=>pure ((p.2.2.1.map nm).zip (zP p.2.2.1.length v0 v1 v2 v3 v4)))
theorem Cu {p:AM} (h:Cv b.K b.nm p=Cw b.nm p):FnAt b p.1 p.2.1 p.2.2.1 p.2.2.2:=by
 refine ai (Option.map_eq_some_iff.mp h) ?_;intro fd h1 h2
 refine aJ (Jb h1) ?_;intro oc od kG h3
 have q1:=congrArg Prod.fst h2
 have q2:=congrArg Prod.snd h2
 refine ⟨oc,od,kG,fd,h3,congrArg (·.1) q1,congrArg (·.2.1) q1,congrArg (·.2.2.1) q1,congrArg (·.2.2.2.1) q1,congrArg (·.2.2.2.2.1) q1,congrArg (·.2.2.2.2.2.1) q1,λvals hv=>?_⟩
 obtain ⟨v0,v1,v2,v3,v4,e⟩:=C9 vals hv (Nat.le_of_ble_eq_true (congrArg (·.2.2.2.2.2.2) q1))
 rw [e]
 exact congrFun (congrFun (congrFun (congrFun (congrFun q2 v0) v1) v2) v3) v4
end
section
variable {b:Base}
theorem Km (h:zy.map (λx=>nsIn b.K mainGlobals x)=zy.map λ_=>some none):∀ x∈zy,nsIn b.K mainGlobals x=some none:=List.map_inj_left.mp h
theorem Kj (h:zv.map (λp=>(nsIn b.K mainGlobals p.1,keepIn b.K (.ref p.2)))=zv.map λp=>(some (some (.ref p.2)),true)):∀ p∈zv,nsIn b.K mainGlobals p.1=some (some (.ref p.2))∧keepIn b.K (.ref p.2)=true:=λp hp=>Prod.mk.inj (List.map_inj_left.mp h p hp)
theorem Kk (h:[150,325,486].map (λC=>(plainGet b.K C "",hasDictIn b.K C,plainOver b.K C,findIn b.K (.ref C) "__setattr__"))=[150,325,486].map λ_=>(true,true,true,some (some (.builtin "object.__setattr__")))):∀ C∈[150,325,486],pZ b C:=λC hC=>
 have h:=Prod.mk.inj (List.map_inj_left.mp h C hC)
 ⟨h.1,(Prod.mk.inj h.2).1,(Prod.mk.inj (Prod.mk.inj h.2).2).1,(Prod.mk.inj (Prod.mk.inj h.2).2).2⟩
theorem Kl (h:zx.map (λp=>findIn b.K (.ref p.1) (b.nm p.2))=zx.map λ_=>some none):∀ p∈zx,findIn b.K (.ref p.1) (b.nm p.2)=some none:=List.map_inj_left.mp h
theorem Kh (h:BJ.map (λp=>(findIn b.K (.ref p.1) (b.nm p.2.1),isFn b.K (.ref p.2.2),keepIn b.K (.ref p.2.2)))=BJ.map λp=>(some (some (.ref p.2.2)),true,true)):∀ p∈BJ,findIn b.K (.ref p.1) (b.nm p.2.1)=some (some (.ref p.2.2))∧isFn b.K (.ref p.2.2)=true∧keepIn b.K (.ref p.2.2)=true:=λp hp=>
 have h:=Prod.mk.inj (List.map_inj_left.mp h p hp)
 ⟨h.1,Prod.mk.inj h.2⟩
theorem Kg (h:BI.map (λp=>(nsIn b.K mainGlobals p.1,keepIn b.K (.ref p.2.1),makesIn b.K p.2.1,findIn b.K (.ref p.2.1) "__init__",typeIn b.K (.ref p.2.2)))=BI.map λp=>(some (some (.ref p.2.1)),true,true,some (some (.ref p.2.2)),some (.type "function"))):∀ p∈BI,nsIn b.K mainGlobals p.1=some (some (.ref p.2.1))∧keepIn b.K (.ref p.2.1)=true∧makesIn b.K p.2.1=true∧findIn b.K (.ref p.2.1) "__init__"=some (some (.ref p.2.2))∧typeIn b.K (.ref p.2.2)=some (.type "function"):=λp hp=>
 have h:=Prod.mk.inj (List.map_inj_left.mp h p hp)
 have h2:=Prod.mk.inj h.2
 have h3:=Prod.mk.inj h2.2
 ⟨h.1,h2.1,h3.1,Prod.mk.inj h3.2⟩
theorem Ki (h:zj.map (Cv b.K b.nm)=zj.map (Cw b.nm)):∀ p∈zj,FnAt b p.1 p.2.1 p.2.2.1 p.2.2.2:=λp hp=>Cu (List.map_inj_left.mp h p hp)
end
section
variable {K:Frag} {P:Params}
theorem Dx:fh K P .none .none:=rfl
theorem Dy {v:Bool}:fh K P (.bool v) (.bool v):=rfl
theorem Gl {i:Int} {t:Tok}:fh K P (.int i) (.int i t):=⟨t,rfl⟩
theorem Gk {l:List Nat} {s:Str} {t:Tok} (h:s=⟨l.toArray⟩):fh K P (.str l) (.str s t):=⟨t,h▸rfl⟩
theorem Gj {l:List AV} {a:Addr} {o:Obj} {vs:List Value} {k:Nat} (h1:K.lookup a=some o) (h2:o.cls=.type "tuple") (h3:o.data=.seq (List.toArray vs) k) (h4:o.dict=Option.none) (h5:iA K P l vs):fh K P (.tup l) (.ref a):=⟨a,rfl,o,vs,k,h1,h2,h3,h4,h5⟩
theorem HP {l:List AV} {a:Addr} {o:Obj} {vs:List Value} {k:Nat} (h1:K.lookup a=some o) (h2:o.cls=.type "list") (h3:o.data=.seq (List.toArray vs) k) (h4:o.dict=Option.none) (h5:iA K P l vs):fh K P (.fl l) (.ref a):=⟨a,rfl,o,vs,k,h1,h2,h3,h4,h5⟩
theorem Gm {l:List (List Nat×AV)} {a:Addr} {o:Obj} {es:List DictEntry} {k:Nat} (h1:K.lookup a=some o) (h2:o.ExactDict) (h3:o.data=.dict (List.toArray es) k) (h4:(a==sysModules)=false) (h5:(l.map (·.1)).Nodup) (h6:jg K P l es):fh K P (.eY l) (.ref a):=⟨a,rfl,o,es,k,h1,h2,h3,h4,h5,h6⟩
theorem Dw:iA K P [] []:=rfl
theorem Bu {v:AV} {l:List AV} {x:Value} {m:List Value} (h1:fh K P v x) (h2:iA K P l m):iA K P (v::l) (x::m):=⟨x,m,rfl,h1,h2⟩
theorem AA:jg K P [] []:=rfl
theorem yn {k:List Nat} {v:AV} {l:List (List Nat×AV)} {e:DictEntry} {m:List DictEntry} {t:Tok} (h1:e.key=.str ⟨k.toArray⟩ t) (h2:e.hash=PyData.keyHash P ⟨k.toArray⟩) (h3:fh K P v e.val) (h4:jg K P l m):jg K P ((k,v)::l) (e::m):=⟨e,m,rfl,⟨t,h1⟩,h2,h3,h4⟩
end
end Mine
namespace Mine.head
theorem tw5445721716414253218:0=0:=rfl
theorem tw12310735299239354703:0=0:=rfl
theorem tw976808484645153763:0=0:=rfl
theorem tw12460202669355646752:0=0:=rfl
theorem tw15501141472565082077:0=0:=rfl
theorem tw11628534518673281344:0=0:=rfl
theorem tw3715584954343283195:0=0:=rfl
theorem tw2554682012703037696:0=0:=rfl
theorem tw16871623187472473471:0=0:=rfl
theorem tw14788773977795034992:0=0:=rfl
theorem tw6772502638888315869:0=0:=rfl
theorem tw15794997505209512671:0=0:=rfl
theorem tw11296743742662292762:0=0:=rfl
theorem tw18007968972792079559:0=0:=rfl
theorem tw2864405669816312776:0=0:=rfl
theorem tw9133290819911140118:0=0:=rfl
theorem tw15520248196984853422:0=0:=rfl
theorem tw12998212659555988865:0=0:=rfl
theorem tw9186546921256032858:0=0:=rfl
theorem tw3986194592780655508:0=0:=rfl
theorem tw14628233357713752721:0=0:=rfl
theorem tw14139502460874162764:0=0:=rfl
theorem tw9984397402777080727:0=0:=rfl
theorem tw3696042808614700290:0=0:=rfl
theorem tw3790771472595898956:0=0:=rfl
theorem tw7450023128482652576:0=0:=rfl
theorem tw18384547517478447814:0=0:=rfl
theorem tw12352672977532951062:0=0:=rfl
theorem tw1134157569726261602:0=0:=rfl
theorem tw7013799640231393816:0=0:=rfl
theorem tw9554341912967214643:0=0:=rfl
theorem tw4834694072379752904:0=0:=rfl
theorem tw6088685845774392931:0=0:=rfl
theorem tw45052839361067614:0=0:=rfl
theorem tw4965378191221513410:0=0:=rfl
theorem tw1519320592345488741:0=0:=rfl
theorem tw1919001801439425371:0=0:=rfl
theorem tw6684681932595197013:0=0:=rfl
theorem tw6240353410654795137:0=0:=rfl
theorem tw8895791426145780158:0=0:=rfl
theorem tw6559418069007068644:0=0:=rfl
theorem tw8187629637223713605:0=0:=rfl
theorem tw17674571679781333832:0=0:=rfl
theorem tw17850378814381688901:0=0:=rfl
theorem tw15436542981012472205:0=0:=rfl
theorem tw11105056867450500199:0=0:=rfl
theorem tw13510609219080548989:0=0:=rfl
theorem tw16817119741492734445:0=0:=rfl
theorem tw7498250532897285284:0=0:=rfl
theorem tw18416563613846182222:0=0:=rfl
theorem tw7876399200375917224:0=0:=rfl
theorem tw10812213935944405949:0=0:=rfl
theorem tw17453365369857097546:0=0:=rfl
theorem tw9114333099845857663:0=0:=rfl
theorem tw2172669909848549399:0=0:=rfl
theorem tw8182079617134344778:0=0:=rfl
theorem tw17988201657351507238:0=0:=rfl
theorem tw4235852798576303577:0=0:=rfl
theorem tw13499107582688000984:0=0:=rfl
theorem tw6889739017440866108:0=0:=rfl
theorem tw4693820183103290663:0=0:=rfl
theorem tw16903022960794457021:0=0:=rfl
theorem tw17782148633632673465:0=0:=rfl
theorem tw3746228215898030841:0=0:=rfl
theorem tw9464831228461672588:0=0:=rfl
theorem tw709382114072422158:0=0:=rfl
theorem tw13357441389134331599:0=0:=rfl
theorem tw7161073391023584161:0=0:=rfl
theorem tw9746458257258439470:0=0:=rfl
theorem tw15035418422258542911:0=0:=rfl
theorem tw16659920880120507502:0=0:=rfl
theorem tw12601080634535202701:0=0:=rfl
theorem tw2096541523181747872:0=0:=rfl
theorem tw1714602735852981970:0=0:=rfl
theorem tw16966009324859112401:0=0:=rfl
theorem tw1212124681294104184:0=0:=rfl
theorem tw9388430590476628193:0=0:=rfl
theorem tw8402214883040486957:0=0:=rfl
theorem tw12822298378996975857:0=0:=rfl
theorem tw6521490308693473283:0=0:=rfl
theorem tw8169693465737517768:0=0:=rfl
theorem tw15798066900824788120:0=0:=rfl
theorem tw13335025841360890868:0=0:=rfl
theorem tw7758381527925395934:0=0:=rfl
theorem tw604627371996746742:0=0:=rfl
theorem tw5104563664521345299:0=0:=rfl
theorem tw16714887947964762639:0=0:=rfl
theorem tw5243709496306360405:0=0:=rfl
theorem tw12207028300977255130:0=0:=rfl
theorem tw17486074103640542121:0=0:=rfl
theorem tw12201952087667049370:0=0:=rfl
theorem tw9065935926736091543:0=0:=rfl
theorem tw17017319662998615:0=0:=rfl
theorem tw15539854500240908086:0=0:=rfl
theorem tw11427066125472700054:0=0:=rfl
theorem tw3062044705579621278:0=0:=rfl
theorem tw9987851973559822609:0=0:=rfl
theorem tw10706776884845955466:0=0:=rfl
theorem tw15604011560834605598:0=0:=rfl
theorem tw742351954350328859:0=0:=rfl
theorem tw1618804561499322139:0=0:=rfl
theorem tw6247268493268985975:0=0:=rfl
theorem tw12773685731770592110:0=0:=rfl
theorem tw14028522991509751376:0=0:=rfl
theorem tw13637325136056909300:0=0:=rfl
theorem tw7658410731251134818:0=0:=rfl
theorem tw13630207444239645078:0=0:=rfl
theorem tw14699756766385990792:0=0:=rfl
theorem tw11714945338242495837:0=0:=rfl
theorem tw17332727794074296334:0=0:=rfl
theorem tw532055438628499158:0=0:=rfl
theorem tw6211381574409162282:0=0:=rfl
theorem tw12596594776246401625:0=0:=rfl
theorem tw17297054508065495485:0=0:=rfl
theorem tw6588589085864783938:0=0:=rfl
theorem tw14643560169476415855:0=0:=rfl
theorem tw9196398404247428943:0=0:=rfl
theorem tw1832916270232011604:0=0:=rfl
theorem tw15204471325056678010:0=0:=rfl
theorem tw14676189674455941282:0=0:=rfl
theorem tw9162278640276766204:0=0:=rfl
theorem tw10270352894671993868:0=0:=rfl
theorem tw12695399030622205104:0=0:=rfl
theorem tw5723944856813171866:0=0:=rfl
theorem tw15091486752826498866:0=0:=rfl
theorem tw15785421084128741142:0=0:=rfl
theorem tw7253898381062576733:0=0:=rfl
theorem tw3387570628784222811:0=0:=rfl
theorem tw1457377512435260902:0=0:=rfl
theorem tw8603420104599213669:0=0:=rfl
theorem tw14842460003800876886:0=0:=rfl
theorem tw4964814941381164201:0=0:=rfl
theorem tw3264716943610762504:0=0:=rfl
theorem tw11828678163099705964:0=0:=rfl
theorem tw7417405269818204032:0=0:=rfl
theorem tw17552560543380974038:0=0:=rfl
theorem tw9062998866958442273:0=0:=rfl
theorem tw5111174896325423537:0=0:=rfl
theorem tw11063524718261073790:0=0:=rfl
theorem tw14999265807660949796:0=0:=rfl
theorem tw11325123074623421636:0=0:=rfl
theorem tw10021064610941686981:0=0:=rfl
theorem tw5651425540991249520:0=0:=rfl
theorem tw8382746154173761051:0=0:=rfl
theorem tw18260194641540637818:0=0:=rfl
theorem tw5019597260055213698:0=0:=rfl
theorem tw17173245716831642929:0=0:=rfl
theorem tw4433315090154635215:0=0:=rfl
theorem tw7802898811600756450:0=0:=rfl
theorem tw13906610036690215845:0=0:=rfl
theorem tw15305915472762889579:0=0:=rfl
theorem tw17844492200522320778:0=0:=rfl
theorem tw9625377726130185387:0=0:=rfl
theorem tw3501597964444990463:0=0:=rfl
theorem tw2581250870941146908:0=0:=rfl
theorem tw8541356943393881859:0=0:=rfl
theorem tw174166394780034911:0=0:=rfl
theorem tw3089916443595474862:0=0:=rfl
theorem tw3615648651819825313:0=0:=rfl
theorem tw5438144065070405397:0=0:=rfl
theorem tw7994106446794305319:0=0:=rfl
theorem tw1909714482019496454:0=0:=rfl
theorem tw8627200689577751383:0=0:=rfl
theorem tw830787435187342335:0=0:=rfl
theorem tw8732543388465361972:0=0:=rfl
theorem tw13086575352542018947:0=0:=rfl
theorem tw4691952243595246448:0=0:=rfl
theorem tw17113217626458354986:0=0:=rfl
theorem tw17700853532424174462:0=0:=rfl
theorem tw5870146547769353613:0=0:=rfl
theorem tw807142644699662319:0=0:=rfl
theorem tw17789423225533864492:0=0:=rfl
theorem tw2879759524354350568:0=0:=rfl
theorem tw9202431907968578930:0=0:=rfl
theorem tw780477332936465449:0=0:=rfl
theorem tw16922147877168347812:0=0:=rfl
theorem tw12892129938458570674:0=0:=rfl
theorem tw12344544660321961925:0=0:=rfl
theorem tw2203363585012173787:0=0:=rfl
theorem tw5599997604879368025:0=0:=rfl
theorem tw5401097623525119610:0=0:=rfl
theorem tw6327039764776113722:0=0:=rfl
theorem tw5353729903917744248:0=0:=rfl
theorem tw6640010369347007910:0=0:=rfl
theorem tw8535708456716222715:0=0:=rfl
theorem tw1495726902847802894:0=0:=rfl
theorem tw15638870477510070732:0=0:=rfl
theorem tw2518057956044344595:0=0:=rfl
theorem tw10275917185175975021:0=0:=rfl
theorem tw10510622979536455646:0=0:=rfl
theorem tw693309671712327132:0=0:=rfl
theorem tw1506576300011279404:0=0:=rfl
theorem tw7704315382344345624:0=0:=rfl
theorem tw16997897962222511:0=0:=rfl
theorem tw16894197260953374720:0=0:=rfl
theorem tw1643771367246577777:0=0:=rfl
theorem tw5986637957666399235:0=0:=rfl
theorem tw11194998557105285118:0=0:=rfl
theorem tw2825341998796452840:0=0:=rfl
theorem tw15039987702171664376:0=0:=rfl
theorem tw14531177953140590962:0=0:=rfl
theorem tw12364624919760631829:0=0:=rfl
theorem tw12475708393154427166:0=0:=rfl
theorem tw5092371620264689978:0=0:=rfl
theorem tw15112835437128306455:0=0:=rfl
theorem tw11484358847640170188:0=0:=rfl
theorem tw14512941343882779238:0=0:=rfl
theorem tw14061139507663348314:0=0:=rfl
theorem tw6053349399257934933:0=0:=rfl
theorem tw11582096051123008839:0=0:=rfl
theorem tw13353151263460963528:0=0:=rfl
theorem tw4528443807372415038:0=0:=rfl
theorem tw5927865893512547691:0=0:=rfl
theorem tw10079960370226730655:0=0:=rfl
theorem tw1224924573807776437:0=0:=rfl
theorem tw4708111749353345164:0=0:=rfl
theorem tw2400818531096893172:0=0:=rfl
theorem tw9082462177598256812:0=0:=rfl
theorem tw573967197379146972:0=0:=rfl
theorem tw8097174177036852075:0=0:=rfl
theorem tw10356212845559719233:0=0:=rfl
theorem tw13988103294471073821:0=0:=rfl
theorem tw1917425121527220963:0=0:=rfl
theorem tw1276956409769668328:0=0:=rfl
theorem tw3688799982635324794:0=0:=rfl
theorem tw17464823870196871000:0=0:=rfl
theorem tw14744981736328886265:0=0:=rfl
theorem tw10748227973586771634:0=0:=rfl
theorem tw18090392515378641496:0=0:=rfl
theorem tw4273228799998304602:0=0:=rfl
theorem tw1689142752476645926:0=0:=rfl
theorem tw14882813523228863612:0=0:=rfl
theorem tw18206790257293066854:0=0:=rfl
theorem tw4543076655600059902:0=0:=rfl
theorem tw6880043348581005364:0=0:=rfl
theorem tw17212568112599259466:0=0:=rfl
theorem tw6237802210402583469:0=0:=rfl
theorem tw1937370526825066196:0=0:=rfl
theorem tw1852205218256702202:0=0:=rfl
theorem tw12024539317367501503:0=0:=rfl
theorem tw6587087628758450585:0=0:=rfl
theorem tw2994366008111725845:0=0:=rfl
theorem tw12147184966966947637:0=0:=rfl
theorem tw1858285994304674589:0=0:=rfl
theorem tw17725469503822016867:0=0:=rfl
theorem tw14881559683392861959:0=0:=rfl
theorem tw10005452208157733855:0=0:=rfl
theorem tw14943480678444902952:0=0:=rfl
theorem tw2350586252961548244:0=0:=rfl
theorem tw17197444120159719569:0=0:=rfl
theorem tw13246386896891170512:0=0:=rfl
theorem tw5788964047882338313:0=0:=rfl
theorem tw6426539377367359892:0=0:=rfl
theorem tw6053997905714604814:0=0:=rfl
theorem tw5638995163158488052:0=0:=rfl
theorem tw16474958459275807246:0=0:=rfl
theorem tw3512634313551410195:0=0:=rfl
theorem tw12359489953124434286:0=0:=rfl
theorem tw4381510469713062047:0=0:=rfl
theorem tw2260579728952749127:0=0:=rfl
theorem tw851385035628625539:0=0:=rfl
theorem tw8402328212356670530:0=0:=rfl
theorem tw6085824867444503733:0=0:=rfl
theorem tw17836260108008149386:0=0:=rfl
theorem tw10533634037010066435:0=0:=rfl
theorem tw1463646239528298992:0=0:=rfl
theorem tw8812732774380208333:0=0:=rfl
theorem tw9564218140379066381:0=0:=rfl
theorem tw12032222614953749359:0=0:=rfl
theorem tw3284144214690860562:0=0:=rfl
theorem tw4648074632519319735:0=0:=rfl
theorem tw2237326684586592538:0=0:=rfl
theorem tw9353324838224930552:0=0:=rfl
theorem tw17508272824862286709:0=0:=rfl
theorem tw4330215655383310121:0=0:=rfl
theorem tw7906546307943345882:0=0:=rfl
theorem tw262713603470380999:0=0:=rfl
theorem tw1626232751844553403:0=0:=rfl
theorem tw6846597200999610202:0=0:=rfl
theorem tw6110071263904590700:0=0:=rfl
theorem tw5629256929840616583:0=0:=rfl
theorem tw8874674299285249911:0=0:=rfl
theorem tw3304075619188804072:0=0:=rfl
theorem tw2326617092838664518:0=0:=rfl
theorem tw7712916153251135833:0=0:=rfl
theorem tw14364637388885140079:0=0:=rfl
theorem tw17577399041416155939:0=0:=rfl
theorem tw1985537357303476512:0=0:=rfl
theorem tw315434073420411817:0=0:=rfl
theorem tw779419810087314491:0=0:=rfl
theorem tw14527164170590304321:0=0:=rfl
theorem tw733406405333840765:0=0:=rfl
theorem tw14909605222495392915:0=0:=rfl
theorem tw17243387458012846398:0=0:=rfl
theorem tw12205659690895024086:0=0:=rfl
theorem tw10987702880554017565:0=0:=rfl
theorem tw8216834362191484069:0=0:=rfl
theorem tw5479459121986351116:0=0:=rfl
theorem tw8414573866900348196:0=0:=rfl
theorem tw11988142204041823098:0=0:=rfl
theorem tw18332285231265401824:0=0:=rfl
theorem tw7523532297153676066:0=0:=rfl
theorem tw10059252607514160932:0=0:=rfl
theorem tw10205530081349824492:0=0:=rfl
theorem tw15895748673760503845:0=0:=rfl
theorem tw5319049981483164881:0=0:=rfl
theorem tw9716329373054682134:0=0:=rfl
theorem tw18080951475816111786:0=0:=rfl
theorem tw10261356005730403935:0=0:=rfl
theorem tw2753283235347674219:0=0:=rfl
theorem tw11692735721529064706:0=0:=rfl
theorem tw15782939476341012554:0=0:=rfl
theorem tw467416434755642258:0=0:=rfl
theorem tw4023466491090337370:0=0:=rfl
theorem tw10730805705081004914:0=0:=rfl
theorem tw13078646160514809887:0=0:=rfl
theorem tw1489404036187247834:0=0:=rfl
theorem tw9820158181544301314:0=0:=rfl
theorem tw12987040726578829979:0=0:=rfl
theorem tw11005904730967762025:0=0:=rfl
theorem tw6507506987150044280:0=0:=rfl
theorem tw6265338273532641288:0=0:=rfl
theorem tw7688317290187622652:0=0:=rfl
theorem tw10900948863051656163:0=0:=rfl
theorem tw15326552575505426906:0=0:=rfl
theorem tw14385403278947933607:0=0:=rfl
theorem tw13227620805987009915:0=0:=rfl
theorem tw7225263504248862125:0=0:=rfl
theorem tw4063747431996464497:0=0:=rfl
theorem tw17348764703882912863:0=0:=rfl
theorem tw6100774026682323163:0=0:=rfl
theorem tw12287978374625458572:0=0:=rfl
theorem tw4311042196063409733:0=0:=rfl
theorem tw3368030927266983236:0=0:=rfl
theorem tw17265401458761052179:0=0:=rfl
theorem tw17646911460466567920:0=0:=rfl
theorem tw6474009502463322548:0=0:=rfl
theorem tw13537664574400122534:0=0:=rfl
theorem tw9827913525700040407:0=0:=rfl
theorem tw17142359554024780413:0=0:=rfl
theorem tw6388477656530123435:0=0:=rfl
theorem tw3690969761935527329:0=0:=rfl
theorem tw4196546014268931301:0=0:=rfl
theorem tw5141578139466067413:0=0:=rfl
theorem tw10875119458065257276:0=0:=rfl
theorem tw3083302935323014018:0=0:=rfl
theorem tw16576625349610184965:0=0:=rfl
theorem tw3749026756887285471:0=0:=rfl
theorem tw16640130746408290383:0=0:=rfl
theorem tw10898857373019930491:0=0:=rfl
theorem tw2506711637615833298:0=0:=rfl
theorem tw14982685227137828758:0=0:=rfl
theorem tw1687793838685487538:0=0:=rfl
theorem tw11925700103697007601:0=0:=rfl
theorem tw3088210815446039105:0=0:=rfl
theorem tw18052791168796427526:0=0:=rfl
theorem tw16874305072444578374:0=0:=rfl
theorem tw11923155195566972133:0=0:=rfl
theorem tw10865165270600546614:0=0:=rfl
theorem tw14969872817325187116:0=0:=rfl
theorem tw5274623360512300857:0=0:=rfl
theorem tw10951786044768298760:0=0:=rfl
theorem tw2249667046024356820:0=0:=rfl
theorem tw5140934472235413692:0=0:=rfl
theorem tw8773370040425892893:0=0:=rfl
theorem tw6490296386705211140:0=0:=rfl
theorem tw6298033893332097587:0=0:=rfl
theorem tw3991279037241028524:0=0:=rfl
theorem tw12741294794224977040:0=0:=rfl
theorem tw300626226527484142:0=0:=rfl
theorem tw11485113708198979986:0=0:=rfl
theorem tw533756555076263647:0=0:=rfl
theorem tw6489421142724028100:0=0:=rfl
theorem tw12740806245664736207:0=0:=rfl
theorem tw14432977821161478157:0=0:=rfl
theorem tw4976181008148175253:0=0:=rfl
theorem tw12398312691204496596:0=0:=rfl
theorem tw7789450098604059249:0=0:=rfl
theorem tw4764554697811233:0=0:=rfl
theorem tw11544532188706048022:0=0:=rfl
theorem tw10366927770000222440:0=0:=rfl
theorem tw18433677622606106133:0=0:=rfl
theorem tw5038994553942263901:0=0:=rfl
theorem tw6846866878297920324:0=0:=rfl
theorem tw4017301010375394790:0=0:=rfl
theorem tw12330954535739239725:0=0:=rfl
theorem tw12865059321931465230:0=0:=rfl
theorem tw6212921109956642855:0=0:=rfl
theorem tw3794523003379204399:0=0:=rfl
theorem tw4160124254940468481:0=0:=rfl
theorem tw7928285938522686346:0=0:=rfl
theorem tw18123143868385100064:0=0:=rfl
theorem tw10242447542790323104:0=0:=rfl
theorem tw13653928888864918839:0=0:=rfl
theorem tw6121141971511671821:0=0:=rfl
theorem tw17698105195316432488:0=0:=rfl
theorem tw12472887615940459650:0=0:=rfl
theorem tw4746297304354101679:0=0:=rfl
theorem tw1082313596108445148:0=0:=rfl
theorem tw8715499118904818895:0=0:=rfl
theorem tw10018764681926925449:0=0:=rfl
theorem tw6836605351468522007:0=0:=rfl
theorem tw7313386461004707312:0=0:=rfl
theorem tw9214367901419015226:0=0:=rfl
theorem tw4277651752456152607:0=0:=rfl
theorem tw5331137831679937033:0=0:=rfl
theorem tw14195316510222423288:0=0:=rfl
theorem tw8035625575855466936:0=0:=rfl
theorem tw13337238644230332656:0=0:=rfl
theorem tw1939405473400901271:0=0:=rfl
theorem tw13198292447841614426:0=0:=rfl
theorem tw3869590956505411354:0=0:=rfl
theorem tw5944575059761466720:0=0:=rfl
theorem tw10504981510240967646:0=0:=rfl
theorem tw13896987355042952010:0=0:=rfl
theorem tw17905491414393134947:0=0:=rfl
theorem tw10786079294511566085:0=0:=rfl
theorem tw11426403942048686318:0=0:=rfl
theorem tw13689084217373910675:0=0:=rfl
theorem tw5346772772824661884:0=0:=rfl
theorem tw4972248218790579157:0=0:=rfl
theorem tw4709128311485490483:0=0:=rfl
theorem tw8299393411229908732:0=0:=rfl
theorem tw9074772780463953568:0=0:=rfl
theorem tw1522823579158628613:0=0:=rfl
theorem tw16441004959143088680:0=0:=rfl
theorem tw12858780395421280599:0=0:=rfl
theorem tw14393718171448925343:0=0:=rfl
theorem tw7404141018258913797:0=0:=rfl
theorem tw5617373736292572815:0=0:=rfl
theorem tw14112051064653734678:0=0:=rfl
theorem tw2355103038987944067:0=0:=rfl
theorem tw14969385696402013904:0=0:=rfl
theorem tw9777900189565919194:0=0:=rfl
theorem tw11308087075614649832:0=0:=rfl
theorem tw11097941207591946120:0=0:=rfl
theorem tw15468718075485040107:0=0:=rfl
theorem tw10840385229135970747:0=0:=rfl
theorem tw17188972718952451159:0=0:=rfl
theorem tw15841401105113185080:0=0:=rfl
theorem tw6207834228037699737:0=0:=rfl
theorem tw9515422150858430662:0=0:=rfl
theorem tw4945251732147069371:0=0:=rfl
theorem tw2441957057352720082:0=0:=rfl
theorem tw10668533816033670360:0=0:=rfl
theorem tw3665506230870052707:0=0:=rfl
theorem tw1319983325249436295:0=0:=rfl
theorem tw1389810093214676884:0=0:=rfl
theorem tw6891450509433485068:0=0:=rfl
theorem tw15253846138512369154:0=0:=rfl
theorem tw8534208459206503383:0=0:=rfl
theorem tw1499353310998574721:0=0:=rfl
theorem tw17002534310236347988:0=0:=rfl
theorem tw2591067827882107080:0=0:=rfl
theorem tw8866670633112419022:0=0:=rfl
theorem tw17525636777796739105:0=0:=rfl
theorem tw4839655697589452165:0=0:=rfl
theorem tw13955511503576765797:0=0:=rfl
theorem tw6684978435548883818:0=0:=rfl
theorem tw16014373381606645092:0=0:=rfl
theorem tw9325123708862168440:0=0:=rfl
theorem tw16172356507618199906:0=0:=rfl
theorem tw8101760021730824546:0=0:=rfl
theorem tw12970416583428475236:0=0:=rfl
theorem tw15064752311394979489:0=0:=rfl
theorem tw13295774097974887486:0=0:=rfl
theorem tw6202090305015876224:0=0:=rfl
theorem tw2491421050496283774:0=0:=rfl
theorem tw9592777112578238593:0=0:=rfl
theorem tw12299445865675373075:0=0:=rfl
theorem tw11821203517306503961:0=0:=rfl
theorem tw10258521583956687137:0=0:=rfl
theorem tw9702098958229961203:0=0:=rfl
theorem tw5764021196749891206:0=0:=rfl
theorem tw497287684792784471:0=0:=rfl
theorem tw16769997242578385675:0=0:=rfl
theorem tw16782820856776367440:0=0:=rfl
theorem tw15656768269340197940:0=0:=rfl
theorem tw14679116673082234219:0=0:=rfl
theorem tw13379354915994877463:0=0:=rfl
theorem tw16572314662081343053:0=0:=rfl
theorem tw3368474557548986910:0=0:=rfl
theorem tw4857777746444614323:0=0:=rfl
theorem tw3980653432952411973:0=0:=rfl
theorem tw15895551434495452948:0=0:=rfl
theorem tw4607607821588926596:0=0:=rfl
theorem tw9083612298779875492:0=0:=rfl
theorem tw2437478716016495240:0=0:=rfl
theorem tw12851702773856589430:0=0:=rfl
theorem tw1062042127530464391:0=0:=rfl
theorem tw5906749814970224870:0=0:=rfl
theorem tw5467695095851852608:0=0:=rfl
theorem tw3547240966391284428:0=0:=rfl
theorem tw10431609616501453582:0=0:=rfl
theorem tw17093656651364094606:0=0:=rfl
theorem tw15148963937461231693:0=0:=rfl
theorem tw7287109101882759415:0=0:=rfl
theorem tw16847831306532103052:0=0:=rfl
theorem tw11147590313062582412:0=0:=rfl
theorem tw14492117785962260688:0=0:=rfl
theorem tw14843749296085226474:0=0:=rfl
theorem tw14205479233844494046:0=0:=rfl
theorem tw8451290768687142514:0=0:=rfl
theorem tw7680146299302783591:0=0:=rfl
theorem tw17958272820484234708:0=0:=rfl
theorem tw8997269238129315039:0=0:=rfl
theorem tw8476099583838051002:0=0:=rfl
theorem tw7277520189549225825:0=0:=rfl
theorem tw13986843968525588388:0=0:=rfl
theorem tw10010264046613662565:0=0:=rfl
theorem tw5015311536963163689:0=0:=rfl
theorem tw13801937863458859944:0=0:=rfl
theorem tw12949380547846470161:0=0:=rfl
theorem tw17362218986543327160:0=0:=rfl
theorem tw17411354535832351560:0=0:=rfl
theorem tw1315816938146588887:0=0:=rfl
theorem tw6737735255597943219:0=0:=rfl
theorem tw2154566216772986472:0=0:=rfl
theorem tw11434997419882176723:0=0:=rfl
theorem tw16031315777459398524:0=0:=rfl
theorem tw3103639331685909893:0=0:=rfl
theorem tw44622916816846810:0=0:=rfl
theorem tw5593727005144783397:0=0:=rfl
theorem tw1673358830478937286:0=0:=rfl
theorem tw9101448428047585222:0=0:=rfl
theorem tw8569104457590258164:0=0:=rfl
theorem tw1211024037004892549:0=0:=rfl
theorem tw9743709737119245314:0=0:=rfl
theorem tw13199516396595161752:0=0:=rfl
theorem tw3556061257289618393:0=0:=rfl
theorem tw16106133796442146334:0=0:=rfl
theorem tw15800230474308256007:0=0:=rfl
theorem tw820421773197932041:0=0:=rfl
theorem tw13478637309914159250:0=0:=rfl
theorem tw13585267454733459922:0=0:=rfl
theorem tw9103479521544129834:0=0:=rfl
theorem tw14139617269561922093:0=0:=rfl
theorem tw15967466079928408925:0=0:=rfl
theorem tw10467814448475477596:0=0:=rfl
theorem tw5487235932777146282:0=0:=rfl
theorem tw9658139154387788515:0=0:=rfl
theorem tw3496171461512900480:0=0:=rfl
theorem tw14417885227837004991:0=0:=rfl
end Mine.head
set_option maxHeartbeats 0
set_option Elab.async true
set_option tactic.hygienic true
theorem Mine.head:PySem.Challenge.rw_pc0056_01.Holds:=by
 w_on;o_law;k_head;(case hw=>w_witness2)
 k_go0
 rename_i w O2 aO mg mb G Y fa o pm doc kV ho hg KX X V GL T B TE TW w9 w8 M w7 w6 i3 w5 hs OX Fw Pq Ln w4 w3 w2 w1 w0 hL ra MO r0 hI hr N9 Lr K0 hD h1 F N0
 refine Mine.DY ?fb KX T MO N9 F (Nat.le_add_left 1 _) (by kernel_rfl) (by kernel_rfl) (by kernel_rfl) (λh' t' m F'=>?gb)
 case fb=>
  refine {bt:=Mine.Km (by kernel_rfl),df:=Mine.Kj (by kernel_rfl),cl:=Mine.Kk (by kernel_rfl),ca:=Mine.Kl (by kernel_rfl),me:=Mine.Kh (by kernel_rfl),mm:=Mine.Kg (by kernel_rfl),fn:=Mine.Ki (by kernel_rfl),ex:=⟨by kernel_rfl,by kernel_rfl,by kernel_rfl,by kernel_rfl,by kernel_rfl⟩,k1:=by kernel_rfl,k2:=by kernel_rfl,k3:=by kernel_rfl,m1:=by kernel_rfl,m2:=by kernel_rfl,m3:=by kernel_rfl,f1:=by kernel_rfl,f3:=by kernel_rfl,y1:=by kernel_rfl,y2:=by kernel_rfl,y3:=by kernel_rfl,t1:=by kernel_rfl,t2:=by kernel_rfl,tf:=by kernel_rfl,ti:=by kernel_rfl,tk:=by kernel_rfl,ty:=by kernel_rfl,ga:=by kernel_rfl,gn:=by kernel_rfl,sp:=by kernel_rfl,gl:=?gl,s1:=?_,s2:=?_,s3:=?_}
  case gl=>
   refine Mine.All.mem (l:=Mine.IZ) ?_
   repeat' (first |exact True.intro |refine And.intro ⟨_,by with_unfolding_all rfl,by
    repeat' (first
     |exact Mine.Dx
     |exact Mine.Dy
     |exact Mine.Gl
     |exact Mine.Dw
     |exact Mine.AA
     |exact Mine.Gk (by kernel_rfl)
     |refine Mine.Bu ?_ ?_
     |refine Mine.yn (by with_unfolding_all rfl) (by with_unfolding_all rfl) ?_ ?_
     |refine Mine.Gj (by with_unfolding_all rfl) (by with_unfolding_all rfl) (by with_unfolding_all rfl) (by with_unfolding_all rfl) ?_
     |refine Mine.HP (by with_unfolding_all rfl) (by with_unfolding_all rfl) (by with_unfolding_all rfl) (by with_unfolding_all rfl) ?_
     |refine Mine.Gm (by with_unfolding_all rfl) ⟨by with_unfolding_all rfl,by with_unfolding_all rfl,by with_unfolding_all rfl⟩ (by with_unfolding_all rfl) (by kernel_rfl) (by decide +kernel) ?_)⟩ ?_)
  all_goals
   refine ⟨⟨_,_,_,_,_,_,_,_,_,_,_,_,_,by with_unfolding_all rfl,by kernel_rfl,by with_unfolding_all rfl,by kernel_rfl,?_⟩,⟨_,_,_,_,_,_,by with_unfolding_all rfl,by with_unfolding_all rfl,by kernel_rfl⟩,⟨_,_,_,by with_unfolding_all rfl⟩,⟨_,by with_unfolding_all rfl⟩,by kernel_rfl,by kernel_rfl,by kernel_rfl,by kernel_rfl,by kernel_rfl,by decide +kernel,by kernel_rfl,by kernel_rfl,?_,by decide⟩
   rotate_left
   ·refine Mine.All.mem ?_
    repeat' (first |exact True.intro |refine And.intro (by kernel_rfl) ?_)
   intro vals h
   first
    |(obtain ⟨v,v',rfl⟩:=Mine.Ih h;rfl)
    |(obtain ⟨v,v',Pf,rfl⟩:=Mine.Mn h;rfl)
 case gb=>
  refine goodW_bool F' hg (λ_=>?_) ?_
  ·rfl
  ·refine postW_of (X:=true) (by first |rfl |o_shape) (by first |rfl |wtm_val) rfl
theorem PySem.Challenge.cw_pc0056_01_holds : PySem.Challenge.rw_pc0056_01.Holds :=
 Mine.head
