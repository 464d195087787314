import PyProof.Rows.All
import Wide.All
import OpenK.AllK
import Wide.FinOn
import Lean
import PySem.Challenge.RW_sa0604_02
set_option Elab.async false
set_option linter.all false
set_option genInjectivity false
set_option genSizeOf false
set_option compiler.extract_closed false
set_option bootstrap.genMatcherCode false
set_option tactic.hygienic false
set_option maxRecDepth 1000000
set_option maxHeartbeats 0
open PySem PySem.W PyProof.Rows PySem.Calls
namespace Mine
noncomputable section
section
def cB:Lean.Syntax:=.node .none `Lean.Parser.Tactic.tacticSeq #[.node .none `Lean.Parser.Tactic.tacticSeq1Indented #[.node .none `null #[.node .none `Lean.Parser.Tactic.tacticRfl #[.atom .none "rfl"]]]]
@[elab_as_elim] theorem YJ{α:Sort u}{p:α->Prop}{a b:α}(e:a=b)(h:p b):p a:=Eq.mpr (congrArg p e) h
def V3:List Lean.Name:=("Lean.Parser.Tactic.assumption null Lean.Parser.Tactic.tacticSeq1Indented Lean.Parser.Tactic.tacticSeq group Lean.Parser.Tactic.exact Lean.Parser.Tactic.tacticRfl Lean.Parser.Term.syntheticHole Lean.Parser.Term.app Lean.Parser.Tactic.refine' str PySem.W.tacticWtm_at_ Lean.Parser.Tactic.paren Lean.Parser.Tactic.first Lean.Parser.Tactic.Conv.lhs Lean.Parser.Tactic.Conv.whnf Lean.Parser.Tactic.Conv.convSeq1Indented Lean.Parser.Tactic.Conv.convSeq Lean.Parser.Tactic.Conv.conv Lean.Parser.Tactic.done Lean.Parser.Tactic.rotateLeft Lean.Parser.Tactic.focus Lean.Parser.Tactic.intro Lean.Parser.Tactic.withUnfoldingAll Lean.Parser.Tactic.withReducible Lean.Parser.Tactic.refine Lean.Parser.Tactic.optConfig Lean.Parser.Tactic.decide Lean.Parser.Term.hole Lean.Parser.Tactic.tacticRepeat_ Lean.Parser.Tactic.«tactic_<;>_» Lean.Parser.Tactic.tacticTry_ Lean.Parser.Tactic.fail Lean.Parser.Tactic.rwRule Lean.Parser.Tactic.rwRuleSeq Lean.Parser.Tactic.rewriteSeq hygieneInfo Lean.Parser.Term.hygienicLParen Lean.Parser.Term.paren Lean.Parser.Tactic.elimTarget Lean.Parser.Tactic.cases Lean.Parser.Term.byTactic Lean.Parser.Term.anonymousCtor Lean.Parser.Term.basicFun Lean.Parser.Term.fun Lean.Parser.Tactic.posConfigItem Lean.Parser.Tactic.configItem tacticKernel_rfl".splitOn " ").map String.toName
def ds(xs:List Lean.Syntax)(s:String):Lean.Syntax:=
 ((((s.replace "~" " B1 C1 D1").replace "!" " '? '_ H2").splitOn " ").foldl (λ(st:List Lean.Syntax) t=>match t.toList with
  | '\''::r=>.atom .none (String.ofList r)::st
  | '$'::r=>(Lean.mkIdent (String.ofList r).toName).raw::st
  | '#'::r=>xs.getD r.length .missing::st
  | k::r=>let n:=(String.ofList r).toNat!;.node .none (V3.getD (k.toNat-65) .anonymous) (st.take n).reverse.toArray::st.drop n
  | []=>st) []).headD .missing
def KU:Lean.Syntax:=ds [] "'with_unfolding_all 'rfl G1~ X2~"
def Uc:Lean.Syntax:=ds [] "'intro '_ ]1 $h B2 W2 '; 'cases B0 $h h2 B1 B0 B0 i4 B3 C1 D1"
def Pz:Lean.Syntax:=ds [] "'intro $o $i B2 W2 '; 'with_unfolding_all 'rfl G1~ X2 B3 C1 D1"
def Gy:Lean.Syntax:=ds [] "'intro $o $i B2 W2 '; 'exact '⟨ '_ ]1 ', 'by 'with_unfolding_all 'rfl G1~ X2~ j2 B3 '⟩ k3 F2 B3 C1 D1"
def NU:Lean.Syntax:=ds [] "'intro '_ ]1 B1 W2 '; 'rfl G1 B3 C1 D1"
def V2:Lean.Syntax:=ds [] "'intro '_ ]1 '_ ]1 B2 W2 '; 'rfl G1 B3 C1 D1"
def V1:Lean.Syntax:=ds [] "'exact $Jk 'fun '_ ]1 '_ ]1 B2 B0 '=> $rfl l4 m2 B1 I2 F2~"
def JL:Lean.Syntax:=ds [] "'decide '+ $kernel n2 o1 B1 [1 \\2~"
def AS:Lean.Syntax:=ds [] "'kernel_rfl p1~"
def N5:Lean.Syntax:=ds [] "'decide B0 [1 \\2~"
local macro_rules | `(tactic| rw $s:rwRuleSeq)=>pure (s.raw[1].getSepArgs.foldr (λr z=>ds [ds [if r[0].isNone then r[1] else ds [r[1]] "$Eq.symm # B1 I2",r] "'first '| 'refine $Mine.YJ #! B2 I2 Z2~ E2 '| 'rewrite B0 [1 '[ #. B1 '] c3 B0 d4~ E2 B2 N2",z] "'( # '; #. B3 C1 D1 ') M3") (ds [] "'with_reducible 'try 'rfl G1~ `2~ Y2"))
inductive g8 where
 | v(i:Nat) | k (n:Nat) | a (x y:g8) | m (n:Nat) (x:g8) | w (x:g8) (n:Nat)
inductive LF where
 | h'(k n:Nat)(x y:g8)(r:LF) | g' (k:Nat) (x y:g8)
@[reducible] def LF.l(x y:g8)(r:LF):LF:=.h' 0 1 x y r
@[reducible] def LF.t(x y:g8)(r:LF):LF:=.h' 1 1 x y r
@[reducible] def LF.e(x y:g8)(r:LF):LF:=.h' 2 1 x y r
@[reducible] def LF.f(x y:g8)(r:LF):LF:=.h' 3 1 x y r
@[reducible] def LF.g(x y:g8):LF:=.g' 0 x y
@[reducible] def LF.b(x y:g8):LF:=.g' 1 x y
@[reducible] def LF.z:LF:=.g' 2 (.k 0) (.k 0)
@[reducible] def LF.l2(n:Nat)(x y:g8)(r:LF):LF:=.h' 0 n x y r
@[reducible] def LF.t2(n:Nat)(x y:g8)(r:LF):LF:=.h' 1 n x y r
@[reducible] def LF.e2(n:Nat)(x y:g8)(r:LF):LF:=.h' 2 n x y r
@[reducible] def LF.f2(n:Nat)(x y:g8)(r:LF):LF:=.h' 3 n x y r
noncomputable def OI:List Nat->Nat->Nat
 | [],_=>0
 | x::_,0=>x
 | _::l,i+1=>OI l i
noncomputable def g8.den(c:List Nat):g8->Nat
 | .v i=>OI c i
 | .k n=>n
 | .a x y=>x.den c+y.den c
 | .m n x=>n*x.den c
 | .w x n=>x.den c*n
noncomputable def MY:Nat->Nat->Nat->Prop
 | 0,a,b=>a<=b
 | 1,a,b=>a<b
 | 2,a,b=>a=b
 | _+3,a,b=>a=b
noncomputable def MX:Nat->Nat->Nat->Prop
 | 0,a,b=>a<=b
 | 1,a,b=>a<b
 | _+2,_,_=>False
noncomputable def LF.den(c:List Nat):LF->Prop
 | .h' k _ x y r=>MY k (x.den c) (y.den c)->r.den c
 | .g' k x y=>MX k (x.den c) (y.den c)
noncomputable def jh:List Nat->List Nat->Nat
 | [],_=>0
 | _::_,[]=>0
 | x::p,y::c=>x*y+jh p c
noncomputable def kY:List Nat->List Nat->List Nat
 | [],q=>q
 | x::p,[]=>x::p
 | x::p,y::q=>(x+y)::kY p q
noncomputable def tl(n:Nat):List Nat->List Nat
 | []=>[]
 | x::p=>n*x::tl n p
noncomputable def Fu:Nat->List Nat
 | 0=>[1]
 | i+1=>0::Fu i
noncomputable def Hg:List Nat->List Nat->Bool
 | [],_=>true
 | x::p,[]=>Nat.beq x 0&&Hg p []
 | x::p,y::q=>Nat.ble x y&&Hg p q
noncomputable def g8.p:g8->List Nat
 | .v i=>Fu (i+1)
 | .k n=>[n]
 | .a x y=>kY x.p y.p
 | .m n x=>tl n x.p
 | .w x n=>tl n x.p
noncomputable def pL:Nat->List Nat->List Nat->List Nat
 | 0,p,_=>p
 | 1,p,_=>kY [1] p
 | 2,p,_=>p
 | _+3,_,q=>q
noncomputable def pR:Nat->List Nat->List Nat->List Nat
 | 0,_,q=>q
 | 1,_,q=>q
 | 2,_,q=>q
 | _+3,p,_=>p
noncomputable def pG:Nat->List Nat->List Nat->List Nat->List Nat->Bool
 | 0,x,y,L,R=>Hg (kY x R) (kY y L)
 | 1,x,y,L,R=>Hg (kY [1] (kY x R)) (kY y L)
 | _+2,_,_,L,R=>Hg (kY [1] R) L
noncomputable def LF.ok(L R:List Nat):LF->Bool
 | .h' k n x y r=>r.ok (kY (tl n (pL k x.p y.p)) L) (kY (tl n (pR k x.p y.p)) R)
 | .g' k x y=>pG k x.p y.p L R
theorem eY:∀p q c,jh (kY p q) c=jh p c+jh q c
 | [],q,c=>(Nat.zero_add _).symm
 | x::p,[],c=>rfl
 | x::p,y::q,[]=>rfl
 | x::p,y::q,z::c=>by
  show(x+y)*z+jh (kY p q) c=(x*z+jh p c)+(y*z+jh q c);rw[eY p q c,Nat.add_mul,Nat.add_add_add_comm]
theorem mh(n:Nat):∀p c,jh (tl n p) c=n*jh p c
 | [],c=>(Nat.mul_zero n).symm
 | x::p,[]=>(Nat.mul_zero n).symm
 | x::p,y::c=>by
  show n*x*y+jh (tl n p) c=n*(x*y+jh p c);rw[mh n p c,Nat.mul_add,Nat.mul_assoc]
theorem yV:∀i c,jh (Fu i) c=OI c i
 | 0,[]=>rfl
 | i+1,[]=>rfl
 | 0,y::c=>by show 1*y+jh [] c=y;rw[Nat.one_mul];rfl
 | i+1,y::c=>by show 0*y+jh (Fu i) c=OI c i;rw[Nat.zero_mul,Nat.zero_add];exact yV i c
theorem qg:∀p q c,Hg p q=true->jh p c<=jh q c
 | [],q,c,_=>Nat.zero_le _
 | x::p,q,[],_=>Nat.zero_le _
 | x::p,[],z::c,h=>by
  have h:(Nat.beq x 0&&Hg p [])=true:=h;rw[Bool.and_eq_true]at h;have e:=Nat.eq_of_beq_eq_true h.1;subst e;have:=qg p [] c h.2;show 0*z+jh p c<=0;rw[Nat.zero_mul,Nat.zero_add];exact this
 | x::p,y::q,z::c,h=>by
  have h:(Nat.ble x y&&Hg p q)=true:=h;rw[Bool.and_eq_true]at h;exact Nat.add_le_add (Nat.mul_le_mul_right z (Nat.le_of_ble_eq_true h.1)) (qg p q c h.2)
theorem g8.kg(c:List Nat):∀x:g8,jh x.p (1::c)=x.den c
 | .v i=>yV (i+1) (1::c)
 | .k n=>by show n*1+jh [] c=n;rw[Nat.mul_one];rfl
 | .a x y=>by show jh (kY x.p y.p) _=_;rw[eY,x.kg,y.kg];rfl
 | .m n x=>by show jh (tl n x.p) _=_;rw[mh,x.kg];rfl
 | .w x n=>by show jh (tl n x.p) _=x.den c*n;rw[mh,x.kg,Nat.mul_comm]
theorem Jj(c:List Nat):∀(k:Nat)(x y:g8),MY k (x.den c) (y.den c)->jh (pL k x.p y.p) (1::c)<=jh (pR k x.p y.p) (1::c)
 | 0,x,y,z=>by show jh x.p _<=jh y.p _;rw[x.kg,y.kg];exact z
 | 1,x,y,z=>by show jh (kY [1] x.p) _<=jh y.p _;rw[eY,x.kg,y.kg,Nat.add_comm];exact z
 | 2,x,y,z=>by show jh x.p _<=jh y.p _;rw[x.kg,y.kg];exact Nat.le_of_eq z
 | _+3,x,y,z=>by show jh y.p _<=jh x.p _;rw[x.kg,y.kg];exact Nat.le_of_eq (Eq.symm z)
theorem Ji(c:List Nat):∀(k:Nat)(x y:g8)(L R:List Nat),pG k x.p y.p L R=true->jh L (1::c)<=jh R (1::c)->MX k (x.den c) (y.den c)
 | 0,x,y,L,R,h,i=>by
  have:=qg _ _ (1::c) h;rw[eY,eY,x.kg,y.kg]at this;exact Nat.le_of_add_le_add_right (Nat.le_trans this (Nat.add_le_add_left i _))
 | 1,x,y,L,R,h,i=>by
  have:=qg _ _ (1::c) h;rw[eY,eY,eY,x.kg,y.kg, <-Nat.add_assoc,Nat.add_comm (jh [1] _)]at this;exact Nat.le_of_add_le_add_right (Nat.le_trans this (Nat.add_le_add_left i _))
 | _+2,x,y,L,R,h,i=>by
  have:=qg _ _ (1::c) h;rw[eY,Nat.add_comm]at this;exact absurd (Nat.le_trans this i) (Nat.not_succ_le_self _)
theorem LF.sound(c:List Nat):∀(f:LF)(L R:List Nat),f.ok L R=true->jh L (1::c)<=jh R (1::c)->f.den c
 | .h' k n x y r,L,R,h,i=>λz=>r.sound c _ _ h (by rw[eY,eY,mh,mh];exact Nat.add_le_add (Nat.mul_le_mul_left n (Jj c k x y z)) i)
 | .g' k x y,L,R,h,i=>Ji c k x y L R h i
@[reducible] noncomputable def g8.A:g8:=.v 0
@[reducible] noncomputable def g8.B:g8:=.v 1
@[reducible] noncomputable def g8.C:g8:=.v 2
@[reducible] noncomputable def g8.D:g8:=.v 3
@[reducible] noncomputable def g8.E:g8:=.v 4
@[reducible] noncomputable def g8.F:g8:=.v 5
@[reducible] noncomputable def g8.G:g8:=.v 6
@[reducible] noncomputable def g8.H:g8:=.v 7
@[reducible] noncomputable def g8.Z:g8:=.k 0
@[reducible] noncomputable def g8.O:g8:=.k 1
theorem aG{a:Nat}(f:LF)(h:f.ok [] []=true):f.den [a]:=f.sound _ _ _ h (Nat.le_refl _)
theorem aH{a b:Nat}(f:LF)(h:f.ok [] []=true):f.den [a,b]:=f.sound _ _ _ h (Nat.le_refl _)
theorem aX{a b c:Nat}(f:LF)(h:f.ok [] []=true):f.den [a,b,c]:=f.sound _ _ _ h (Nat.le_refl _)
theorem bD{a b c d:Nat}(f:LF)(h:f.ok [] []=true):f.den [a,b,c,d]:=f.sound _ _ _ h (Nat.le_refl _)
theorem gf{a b c d e:Nat}(f:LF)(h:f.ok [] []=true):f.den [a,b,c,d,e]:=f.sound _ _ _ h (Nat.le_refl _)
theorem lZ{a b c d e i:Nat}(f:LF)(h:f.ok [] []=true):f.den [a,b,c,d,e,i]:=f.sound _ _ _ h (Nat.le_refl _)
theorem qY{a b c d e i j:Nat}(f:LF)(h:f.ok [] []=true):f.den [a,b,c,d,e,i,j]:=f.sound _ _ _ h (Nat.le_refl _)
theorem IV{a b c d e i j k:Nat}(f:LF)(h:f.ok [] []=true):f.den [a,b,c,d,e,i,j,k]:=f.sound _ _ _ h (Nat.le_refl _)
theorem jg{a b:Nat}:LF.den [a,b] (.l .A .B (.g .A .B)):=aH (.l .A .B (.g .A .B)) rfl
theorem yQ{a b c:Nat}:LF.den [a,b,c] (.f .A (.a .B .O) (.l .A (.a .C .O) (.g .B .C))):=aX (.f .A (.a .B .O) (.l .A (.a .C .O) (.g .B .C))) rfl
theorem z6{a:Nat}:LF.den [a] (.g .Z .A):=aG (.g .Z .A) rfl
theorem DC{a:Nat}:LF.den [a] (.l .A (.k 1000) (.g .A (.k 1000000))):=aG (.l .A (.k 1000) (.g .A (.k 1000000))) rfl
theorem DD{a:Nat}:LF.den [a] (.l .A (.k 90000) (.g .A (.k 100000))):=aG (.l .A (.k 90000) (.g .A (.k 100000))) rfl
theorem E9{a:Nat}:LF.den [a] (.l .A (.k 1000) (.g .A (.k 16777216))):=aG (.l .A (.k 1000) (.g .A (.k 16777216))) rfl
theorem Fb{a:Nat}:LF.den [a] (.l .A (.k 100000) (.g .A (.k 1000000))):=aG (.l .A (.k 100000) (.g .A (.k 1000000))) rfl
theorem Fc{a b:Nat}:LF.den [a,b] (.g .A (.a .A .B)):=aH (.g .A (.a .A .B)) rfl
theorem G7{a b c d:Nat}:LF.den [a,b,c,d] (.e (.a (.a .A .O) .B) .C (.e .D (.a .B .O) (.g (.a .A .D) .C))):=bD (.e (.a (.a .A .O) .B) .C (.e .D (.a .B .O) (.g (.a .A .D) .C))) rfl
theorem G8{a b c d:Nat}:LF.den [a,b,c,d] (.f (.a (.a .A .O) .B) .C (.f .D (.a .B .O) (.g .C (.a .A .D)))):=bD (.f (.a (.a .A .O) .B) .C (.f .D (.a .B .O) (.g .C (.a .A .D)))) rfl
theorem u7{a b c d:Nat}:LF.den [a,b,c,d] (.e (.a (.a .A .O) .B) .C (.e .D (.a .B .O) (.g .D .C))):=bD (.e (.a (.a .A .O) .B) .C (.e .D (.a .B .O) (.g .D .C))) rfl
theorem u9{a b c:Nat}:LF.den [a,b,c] (.t .A .B (.l .B (.a .C .O) (.g .A .C))):=aX (.t .A .B (.l .B (.a .C .O) (.g .A .C))) rfl
theorem xj{a:Nat}:LF.den [a] (.t .Z .A (.l .A .Z (.z))):=aG (.t .Z .A (.l .A .Z (.z))) rfl
theorem xk{a b:Nat}:LF.den [a,b] (.l (.a .A (.m 10 .B)) (.k 80000) (.g .A (.k 90000))):=aH (.l (.a .A (.m 10 .B)) (.k 80000) (.g .A (.k 90000))) rfl
theorem xl{a b c d:Nat}:LF.den [a,b,c,d] (.l .A (.a .B .C) (.e (.a .C .B) .D (.g .A .D))):=bD (.l .A (.a .B .C) (.e (.a .C .B) .D (.g .A .D))) rfl
theorem Cr{a b:Nat}:LF.den [a,b] (.t .A .B (.b .A .B)):=aH (.t .A .B (.b .A .B)) rfl
theorem Cs{a b:Nat}:LF.den [a,b] (.t .A .B (.g .A .B)):=aH (.t .A .B (.g .A .B)) rfl
theorem Ct{a:Nat}:LF.den [a] (.l .A (.k 90000) (.g .A (.k 999999))):=aG (.l .A (.k 90000) (.g .A (.k 999999))) rfl
theorem Cu{a b c:Nat}:LF.den [a,b,c] (.l (.a .A .B) .C (.g .A .C)):=aX (.l (.a .A .B) .C (.g .A .C)) rfl
theorem EJ{a b:Nat}:LF.den [a,b] (.e .A .B (.l .B (.k 1000000) (.g .A (.k 16777216)))):=aH (.e .A .B (.l .B (.k 1000000) (.g .A (.k 16777216)))) rfl
theorem EK{a b:Nat}:LF.den [a,b] (.t .A .B (.g (.a .A .O) .B)):=aH (.t .A .B (.g (.a .A .O) .B)) rfl
theorem EL{a b:Nat}:LF.den [a,b] (.l .A (.a .O (.m 5 .B)) (.g .A (.a .O (.m 5 (.a .B .O))))):=aH (.l .A (.a .O (.m 5 .B)) (.g .A (.a .O (.m 5 (.a .B .O))))) rfl
theorem EM{a b:Nat}:LF.den [a,b] (.l (.a .A .O) (.a .O (.m 5 .B)) (.g .A (.a .O (.m 5 .B)))):=aH (.l (.a .A .O) (.a .O (.m 5 .B)) (.g .A (.a .O (.m 5 .B)))) rfl
theorem EN{a b c:Nat}:LF.den [a,b,c] (.l (.a .A .O) .B (.f (.a .C .A) .B (.g .O .C))):=aX (.l (.a .A .O) .B (.f (.a .C .A) .B (.g .O .C))) rfl
theorem EO{a b c:Nat}:LF.den [a,b,c] (.e (.a .A .B) .C (.g (.a .A .B) .C)):=aX (.e (.a .A .B) .C (.g (.a .A .B) .C)) rfl
theorem EP{a b c:Nat}:LF.den [a,b,c] (.f (.a .A .B) .C (.g .C (.a .A .B))):=aX (.f (.a .A .B) .C (.g .C (.a .A .B))) rfl
theorem ER{a b:Nat}:LF.den [a,b] (.t .Z .A (.b .Z (.a .A .B))):=aH (.t .Z .A (.b .Z (.a .A .B))) rfl
theorem ES{a b c:Nat}:LF.den [a,b,c] (.l (.a .A .B) .C (.g .B .C)):=aX (.l (.a .A .B) .C (.g .B .C)) rfl
theorem ET{a b c:Nat}:LF.den [a,b,c] (.l .A .B (.l .B .C (.g .A .C))):=aX (.l .A .B (.l .B .C (.g .A .C))) rfl
theorem EU{a b c:Nat}:LF.den [a,b,c] (.f .A (.a .B .C) (.l .A (.k 1000) (.g .B (.k 1000)))):=aX (.f .A (.a .B .C) (.l .A (.k 1000) (.g .B (.k 1000)))) rfl
theorem EV{a b c:Nat}:LF.den [a,b,c] (.f .A (.a .B .C) (.l .A (.k 1000) (.g .C (.k 1000)))):=aX (.f .A (.a .B .C) (.l .A (.k 1000) (.g .C (.k 1000)))) rfl
theorem EW{a b c d:Nat}:LF.den [a,b,c,d] (.l (.a (.a .A .B) .O) .C (.f (.a .B .A) .D (.g (.a .D .O) .C))):=bD (.l (.a (.a .A .B) .O) .C (.f (.a .B .A) .D (.g (.a .D .O) .C))) rfl
theorem EX{a:Nat}:LF.den [a] (.e .A .Z (.g .A (.k 36))):=aG (.e .A .Z (.g .A (.k 36))) rfl
theorem EY{a b:Nat}:LF.den [a,b] (.e .A .Z (.g .A .B)):=aH (.e .A .Z (.g .A .B)) rfl
theorem EZ{a:Nat}:LF.den [a] (.t .Z .A (.g .O .A)):=aG (.t .Z .A (.g .O .A)) rfl
theorem E8{a:Nat}:LF.den [a] (.l .O (.a .A .A) (.g .O (.m 3 .A))):=aG (.l .O (.a .A .A) (.g .O (.m 3 .A))) rfl
theorem IL{a:Nat}:LF.den [a] (.l .A (.k 1000000) (.g .A (.k 16777216))):=aG (.l .A (.k 1000000) (.g .A (.k 16777216))) rfl
theorem IM{a b:Nat}:LF.den [a,b] (.l (.a .A (.m 5 .B)) (.k 80000) (.g .A (.k 90000))):=aH (.l (.a .A (.m 5 .B)) (.k 80000) (.g .A (.k 90000))) rfl
theorem IP{a:Nat}:LF.den [a] (.l .A (.k 90000) (.g .A (.k 1000000))):=aG (.l .A (.k 90000) (.g .A (.k 1000000))) rfl
theorem IQ{a b c:Nat}:LF.den [a,b,c] (.g (.a .A (.a (.a .B (.a .C .O)) .O)) (.a (.a (.a .A .B) (.k 2)) .C)):=aX (.g (.a .A (.a (.a .B (.a .C .O)) .O)) (.a (.a (.a .A .B) (.k 2)) .C)) rfl
theorem IS{a b c:Nat}:LF.den [a,b,c] (.g (.a (.a (.a .A .B) (.k 2)) .C) (.a .A (.a (.a .B (.a .C .O)) .O))):=aX (.g (.a (.a (.a .A .B) (.k 2)) .C) (.a .A (.a (.a .B (.a .C .O)) .O))) rfl
theorem IT{a b:Nat}:LF.den [a,b] (.l .A .B (.g (.a .Z (.a .A .O)) (.a .B .O))):=aH (.l .A .B (.g (.a .Z (.a .A .O)) (.a .B .O))) rfl
theorem IU{a b c:Nat}:LF.den [a,b,c] (.l (.a .A (.a .B .O)) (.a .C .O) (.g (.a (.a .A .O) .B) (.a .C .O))):=aX (.l (.a .A (.a .B .O)) (.a .C .O) (.g (.a (.a .A .O) .B) (.a .C .O))) rfl
theorem iL{a b:Nat}(h:(a:Int)<=(b:Int)):a<=b:=Int.ofNat_le.mp h
theorem iT{a b:Nat}(h:(a:Int)<(b:Int)):a<b:=Int.ofNat_lt.mp h
theorem iE{a b:Nat}(h:(a:Int)=(b:Int)):a=b:=Int.ofNat_inj.mp h
theorem UZ{a b:Nat}(h:¬(a:Int)<=(b:Int)):b<a:=Nat.lt_of_not_le λz=>h (Int.ofNat_le.mpr z)
theorem Mf{a b:Nat}(h:¬(a:Int)<(b:Int)):b<=a:=Nat.le_of_not_lt λz=>h (Int.ofNat_lt.mpr z)
theorem qW{a b:Nat}(h:a<=b):(a:Int)<=(b:Int):=Int.ofNat_le.mpr h
theorem DA{a b:Nat}(h:a<b):(a:Int)<(b:Int):=Int.ofNat_lt.mpr h
theorem UY{a b:Nat}(h:a=b):(a:Int)=(b:Int):=Int.ofNat_inj.mpr h
theorem iN{n a:Nat}: -(n:Int)<=(a:Int):=Int.le_trans (Int.neg_le_neg (Int.natCast_nonneg n)) (Int.natCast_nonneg a)
end
section
inductive Yk(p1 p2 p3:Prop):Prop | mk (h1:p1) (h2:p2) (h3:p3)
inductive Yl(p1 p2 p3 p4:Prop):Prop | mk (h1:p1) (h2:p2) (h3:p3) (h4:p4)
inductive Ym(p1 p2 p3 p4 p5:Prop):Prop | mk (h1:p1) (h2:p2) (h3:p3) (h4:p4) (h5:p5)
inductive OZ(p1 p2 p3 p4 p5 p6:Prop):Prop | mk (h1:p1) (h2:p2) (h3:p3) (h4:p4) (h5:p5) (h6:p6)
inductive VG(p1 p2 p3 p4 p5 p6 p7:Prop):Prop | mk (h1:p1) (h2:p2) (h3:p3) (h4:p4) (h5:p5) (h6:p6) (h7:p7)
inductive O0(p1 p2 p3 p4 p5 p6 p7 p8:Prop):Prop | mk (h1:p1) (h2:p2) (h3:p3) (h4:p4) (h5:p5) (h6:p6) (h7:p7) (h8:p8)
inductive VH(p1 p2 p3 p4 p5 p6 p7 p8 p9:Prop):Prop | mk (h1:p1) (h2:p2) (h3:p3) (h4:p4) (h5:p5) (h6:p6) (h7:p7) (h8:p8) (h9:p9)
inductive OY(p1 p2 p3 p4 p5 p6 p7 p8 p9 I6:Prop):Prop | mk (h1:p1) (h2:p2) (h3:p3) (h4:p4) (h5:p5) (h6:p6) (h7:p7) (h8:p8) (h9:p9) (Wg:I6)
inductive VF(p1 p2 p3 p4 p5 p6 p7 p8 p9 I6 MS:Prop):Prop | mk (h1:p1) (h2:p2) (h3:p3) (h4:p4) (h5:p5) (h6:p6) (h7:p7) (h8:p8) (h9:p9) (Wg:I6) (Yv:MS)
inductive NF{Hp Hq:Type}(P:Hp->Hq->Prop):Prop | mk (a1:Hp) (a2:Hq) (h:P a1 a2)
inductive TL{Hp Hq NA:Type}(P:Hp->Hq->NA->Prop):Prop | mk (a1:Hp) (a2:Hq) (a3:NA) (h:P a1 a2 a3)
inductive Yn{Hp Hq NA VB:Type}(P:Hp->Hq->NA->VB->Prop):Prop | mk (a1:Hp) (a2:Hq) (a3:NA) (a4:VB) (h:P a1 a2 a3 a4)
theorem ne_sn{α β:Type}{f:α->Option β}{x a:α}{o:β}(e:f x=some o)(h:f a=none):x≠a:=λz=>by subst z;rw[h]at e;cases e
theorem ne_ns{α β:Type}{f:α->Option β}{x a:α}{o:β}(e:f x=none)(h:f a=some o):x≠a:=λz=>by subst z;rw[h]at e;cases e
theorem nn{α:Type}{x:α}:x∉([]:List α):=List.not_mem_nil
theorem gg{α:Type}{x a:α}:x∉[a]↔x≠a:=by simp
theorem oy{α:Type}{x a b:α}:x∉[a,b]↔x≠a/\x≠b:=by simp
theorem CD{α:Type}{x a b c:α}:x∉[a,b,c]↔x≠a/\x≠b/\x≠c:=by simp
theorem xn{α:Type}{x a b c d:α}:x∉[a,b,c,d]↔x≠a/\x≠b/\x≠c/\x≠d:=by simp
end
section
theorem Fq{a:Nat}(h0:(a<2)):((a=0)\/(a=1)):=(Nat.lt_succ_iff_lt_or_eq.mp h0).imp Nat.lt_one_iff.mp id
theorem MM{a:Nat}(h0:(a<3)):((a=0)\/((a=1)\/(a=2))):=(Nat.lt_succ_iff_lt_or_eq.mp h0).elim (λh=>(Fq h).imp id .inl) λh=>.inr (.inr h)
theorem SA{a:Nat}(h0:(a<5)):((a=0)\/((a=1)\/((a=2)\/((a=3)\/(a=4))))):=(Nat.lt_succ_iff_lt_or_eq.mp h0).elim (λh=>(Nat.lt_succ_iff_lt_or_eq.mp h).elim (λh=>(MM h).imp id (.imp id .inl)) λh=>.inr (.inr (.inr (.inl h)))) λh=>.inr (.inr (.inr (.inr h)))
theorem MO{b:Nat}(h0:1<=b+b):1<=b:=Nat.lt_of_not_le λz=>aG (.l .O (.a .A .A) (.l2 2 .A .Z .z)) rfl h0 z
theorem Vr{a:Int}{b:Nat}(h0:(a=((b:Nat):Int))):((-(9223372036854775808:Int))<=a):=h0▸iN
theorem RH{a:Int}{b:Nat}(h0:(b<4611686018427387904))(h1:(a=((b:Nat):Int))):(a<(9223372036854775808:Int)):=h1▸Int.lt_trans (DA (b:=4611686018427387904) h0) (by decide)
theorem XH{a:Int}{b:Nat}(h0:(a=((b:Nat):Int))):((0:Int)<=a):=h0▸Int.natCast_nonneg b
theorem XI{a:Int}{b:Nat}(h0:(b<4611686018427387904))(h1:(a=((b:Nat):Int))):((¬(a<(-(9223372036854775808:Int))))/\(¬(a>=(9223372036854775808:Int)))):=⟨Int.not_lt.mpr (Vr h1),Int.not_le.mpr (RH h0 h1)⟩
theorem XJ{a:Int}{b:Int}{c:Nat}(h0:(c<(Int.toNat (a-b)))):((0:Int)<((((Int.toNat (a-b)):Nat):Int)-((c:Nat):Int))):=Int.sub_pos.mpr (DA h0)
theorem XK{a:Int}{b:Nat}:((a+(((b+1):Nat):Int))=((a+((b:Nat):Int))+(1:Int))):=(Int.add_assoc a b 1).symm
theorem XM{a:Int}{b:Int}{c:Nat}:(((((Int.toNat (a-b)):Nat):Int)-(((c+1):Nat):Int))=(((((Int.toNat (a-b)):Nat):Int)-((c:Nat):Int))-(1:Int))):=(Int.sub_sub _ (c:Int) 1).symm
theorem XN{a:Int}{b:Int}:(((((Int.toNat (a-b)):Nat):Int)-(((Int.toNat (a-b)):Nat):Int))<=(0:Int)):=Int.le_of_eq (Int.sub_self _)
theorem XO{a:Int}:((a+((0:Nat):Int))=a):=Int.add_zero a
theorem RJ{a:Int}:((a-((0:Nat):Int))=a):=Int.sub_zero a
theorem RK{a:Int}{b:Int}(h0:((-(1000000:Int))<=b))(h1:(a<=(1000000:Int))):((Int.toNat (a-b))<=16777216):=Int.toNat_le.mpr (Int.le_trans (Int.sub_le_sub h1 h0) (by decide))
theorem RL{a:Int}{b:Nat}(h0:(a<((b:Nat):Int)))(h1:(b<=1000000)):(a<(9223372036854775808:Int)):=Int.lt_trans (Int.lt_of_lt_of_le h0 (qW (b:=1000000) h1)) (by decide)
theorem RM{a:Int}{b:Nat}{c:Nat}(h0:(a<((c:Nat):Int)))(h1:(b=c)):(a<((b:Nat):Int)):=h1▸h0
theorem RN{a:Nat}:((Int.toNat (((a:Nat):Int)-(0:Int)))=a):=congrArg Int.toNat (Int.sub_zero (a:Int))
theorem RO{a:Nat}:((max (-(1:Int)) (min (0:Int) ((a:Nat):Int)))=(0:Int)):=(congrArg (max (-1)) (Int.min_eq_left (Int.natCast_nonneg a))).trans (by decide)
theorem RP{a:Nat}:((((((a:Nat):Int)-(0:Int))-(-(1:Int)))-(1:Int))=((a:Nat):Int)):=(Int.sub_sub _ (-1) 1).trans ((Int.sub_zero _).trans (Int.sub_zero _))
theorem RR{a:Nat}{b:Nat}(h0:(b<a)):((Int.toNat (((a:Nat):Int)+((-(1:Int))*((b:Nat):Int))))=(a-b)):=(congrArg (λx=>Int.toNat ((a:Int)+x)) ((Int.neg_mul 1 (b:Int)).trans (congrArg Neg.neg (Int.one_mul (b:Int))))).trans (Int.toNat_sub a b)
theorem RS{a:Nat}{b:Nat}(h0:(b<a)):((a-b)=(1+((a-1)-b))):=by rw[Nat.sub_right_comm,Nat.add_comm,Nat.sub_add_cancel (Nat.sub_pos_of_lt h0)]
theorem RT{a:Nat}{b:Nat}(h0:((a%2)=1))(h1:((a+1)<(b*2))):(((a/2)+1)<b):=Nat.lt_of_not_le λz=>bD (.e (.a (.m 2 .A) .B) .C (.f .B .O (.t (.a .C .O) (.w .D 2) (.l2 2 .D (.a .A .O) .z)))) rfl (Nat.div_add_mod a 2) h0 h1 z
theorem RU{a:Nat}{b:Nat}(h0:((a+1)<(b*2)))(h1:(¬((a%2)=1)))(h2:(¬(a=0))):((((a/2)-1)+1)<b):=by
 have e:=Nat.div_add_mod a 2;rcases Nat.eq_zero_or_pos (a/2) with z | z
 ·rw[z]at e
  rcases Fq (Nat.mod_lt a (show 2>0 by decide)) with m | m
  ·rw[m]at e;exact absurd e.symm h2
  ·exact absurd m h1
 ·rw[Nat.sub_add_cancel z]
  exact Nat.lt_of_not_le λw=>bD (.e (.a (.m 2 .A) .B) .C (.t (.a .C .O) (.w .D 2) (.l2 2 .D .A .z))) rfl e h0 w
theorem RZ{a:Nat}{b:Nat}{c:Nat}{d:Nat}{e:Nat}{f:Nat}(h0:(((min a (b-c))+(min d (b-(c+a))))=(a+d)))(h1:(0<d))(h2:(e=d))(h3:(f=a))(h4:(¬((min a (b-c))=f))):False:=h4 ((Nat.le_antisymm (Nat.min_le_left _ _) (bD (.f (.a .A .B) (.a .C .D) (.l .B .D (.g .C .A))) rfl h0 (Nat.min_le_left _ _))).trans h3.symm)
theorem Sl{a:Nat}{b:Nat}{c:Nat}(h0:(((1:Int)=(1:Int))/\(((min c b)-(min a b))=b))):(((min a b)=0)\/(b=0)):=by
 rcases Nat.eq_zero_or_pos b with z | z
 ·exact .inr z
 ·have h:b<=b-min a b:=Nat.le_trans (Nat.le_of_eq h0.2.symm) (Nat.sub_le_sub_right (Nat.min_le_right c b) _)
  exact .inl (Nat.eq_zero_of_not_pos λhm=>absurd h (Nat.not_le.mpr (Nat.sub_lt z hm)))
theorem Sr{a:Nat}(h0:(((a:Nat):Int)<(5:Int)))(h1:(2<=a))(h2:(a<8)):((a-3)<2):=Nat.lt_of_le_of_lt (Nat.sub_le_sub_right (Nat.le_of_lt_succ (iT (b:=5) h0)) 3) (by decide)
theorem Ss{a:Nat}(h0:(((a:Nat):Int)<(5:Int)))(h1:(2<=a))(h2:(a<8))(h3:(¬(((a:Nat):Int)=(2:Int)))):((((a:Nat):Int)-(3:Int))=(((a-3):Nat):Int)):=(Int.ofNat_sub (Nat.lt_of_le_of_ne h1 λz=>h3 (congrArg Nat.cast z.symm))).symm
theorem Su{a:Nat}{b:Nat}(h0:(1<=(b+b))):((((a+1)+((3*b)-1))+1)<=(a+((3*(b+b))-1))):=bD (.e (.a .B .O) (.m 3 .C) (.f (.a .D .O) (.m 3 (.a .C .C)) (.l2 3 .O .C (.g (.a (.a (.a .A .O) .B) .O) (.a .A .D))))) rfl (Nat.sub_add_cancel (Nat.le_trans (MO h0) (Nat.le_mul_of_pos_left b (by decide)))) (Nat.sub_add_cancel (Nat.le_trans h0 (Nat.le_mul_of_pos_left _ (by decide)))) (MO h0)
theorem RV(h0:(4575<=10000)):((4575+(10000-4575))=10000):=rfl
theorem RW{a:Nat}{b:Nat}{c:Nat}(h0:(0<c))(h1:(c<=0)):((a<=b)/\((b+5)<=((a+(5*c))+5))):=absurd h0 (Nat.not_lt.mpr h1)
theorem RY{a:Nat}{b:Nat}{c:Nat}{d:Nat}{e:Nat}{f:Nat}(h0:((a+(10*d))<=80000))(h1:((b+c)=(d+1)))(h2:(0<e))(h3:(0<f))(h4:(c=(e+f))):(((a+(10*b))+(5*c))<=80000):=lZ (.l (.a .A (.m 10 .D)) (.k 80000) (.e2 10 (.a .B .C) (.a .D .O) (.t2 5 .Z .E (.t2 5 .Z .F (.f2 5 .C (.a .E .F) (.g (.a (.a .A (.m 10 .B)) (.m 5 .C)) (.k 80000))))))) rfl h0 h1 h2 h3 h4
theorem R7{a:Nat}{b:Nat}(h0:(a<b)):(((a+1)-b)=0):=Nat.sub_eq_zero_of_le h0
theorem Sb{a:Nat}{b:Nat}(h0:(a<=b)):((a<=(Int.toNat ((a:Nat):Int)))/\((Int.toNat ((a:Nat):Int))<=b)):=⟨Nat.le_refl a,h0⟩
theorem Sd{a:Nat}{b:Nat}{c:Nat}(h0:(a<b))(h1:(b<=(a+(c-a))))(h2:(a<=c)):((a<=(Int.toNat ((b:Nat):Int)))/\((Int.toNat ((b:Nat):Int))<=c)):=⟨Nat.le_of_lt h0,Nat.add_sub_cancel' h2▸h1⟩
theorem Se{a:Nat}{b:Nat}{c:Nat}{d:Nat}(h0:((a<c)/\(c<=d)))(h1:(c<=b)):(a<=b):=Nat.le_trans (Nat.le_of_lt h0.1) h1
theorem Sf{a:Int}(h0:(¬(a<(0:Int)))):((0:Int)<=a):=Int.not_lt.mp h0
theorem Sg{a:Nat}{b:Nat}:((max (0:Int) (min ((a:Nat):Int) ((b:Nat):Int)))=(((min a b):Nat):Int)):=by
 rcases Nat.le_total a b with h | h
 ·rw[Nat.min_eq_left h,Int.min_eq_left (qW h)];exact Int.max_eq_right (Int.natCast_nonneg a)
 ·rw[Nat.min_eq_right h,Int.min_eq_right (qW h)];exact Int.max_eq_right (Int.natCast_nonneg b)
theorem Sh{a:Nat}{b:Nat}(h0:(((b:Nat):Int)<((a:Nat):Int))):((Int.toNat (((a:Nat):Int)-((b:Nat):Int)))=(a-b)):=Int.toNat_sub a b
theorem Si{a:Nat}{b:Nat}(h0:(¬(((b:Nat):Int)<((a:Nat):Int)))):((Int.toNat (0:Int))=(a-b)):=(Nat.sub_eq_zero_of_le (Mf h0)).symm
theorem Sj{a:Nat}{b:Nat}:((Int.toNat (((a:Nat):Int)+((1:Int)*((b:Nat):Int))))=(a+b)):=congrArg (λx=>Int.toNat ((a:Int)+x)) (Int.one_mul (b:Int))
theorem Sm{a:Nat}{b:Nat}{c:Nat}(h0:(a<=c)):((a-b)<=(c-b)):=Nat.sub_le_sub_right h0 b
theorem MI{a:Int}{b:Nat}(h0:((0:Int)<=a))(h1:(a<((b:Nat):Int))):((Int.toNat a)<b):=(Int.toNat_lt h0).mpr h1
theorem MK{a:Int}(h0:((0:Int)<=a)):(a=(((Int.toNat a):Nat):Int)):=(Int.toNat_of_nonneg h0).symm
theorem Sn{a:Int}:((a-(1:Int))=(a+(-(1:Int)))):=rfl
theorem So{a:Int}:(a=(a+(0:Int))):=(Int.add_zero a).symm
theorem ML{a:Nat}{b:Nat}{c:Nat}(h0:((b+a)=(c+1)))(h1:(c<=1000))(h2:(a<=b)):(a<=1000):=Nat.le_of_not_lt λz=>aX (.e (.a .B .A) (.a .C .O) (.l .C (.k 1000) (.l .A .B (.t2 2 (.k 1000) .A .z)))) rfl h0 h1 h2 z
theorem Sp{a:Nat}{b:Nat}:((Int.toNat ((((a:Nat):Int)+(1:Int))-((b:Nat):Int)))=((a+1)-b)):=Int.toNat_sub (a+1) b
theorem Sq{a:Nat}:(((((a+1):Nat):Int)-(1:Int))=((a:Nat):Int)):=Int.add_sub_cancel (a:Int) 1
theorem Sv{a:Nat}(h0:(0<a)):((((a-1):Nat):Int)=(((a:Nat):Int)-(1:Int))):=Int.ofNat_sub h0
theorem Sw:(0<4):=by decide
theorem Sx:(1<=900):=by decide
theorem Sy:(0<=1000):=by decide
theorem Sz{a:Nat}{b:Nat}(h0:(a<5))(h1:(b=a)):(((1+a)+((3*8)-1))<=40):=aG (.t .A (.k 5) (.g (.a (.a .O .A) (.k 23)) (.k 40))) rfl h0
theorem MN{a:Nat}{b:Int}(h0:((0:Int)<=b)):((0:Int)<=(((a:Nat):Int)+b)):=Int.add_nonneg (Int.natCast_nonneg a) h0
theorem SD{a:Nat}{b:Nat}(h0:(¬(a=b))):(¬(((a:Nat):Int)=((b:Nat):Int))):=λz=>h0 (iE z)
theorem SE:(0<=4):=by decide
theorem SG{a:Nat}(h0:(a<=4)):(a<=4):=h0
theorem SH{a:Nat}(h0:((a<48)\/(57<a)))(h1:(a=50)):False:=by subst h1;exact h0.elim (by decide) (by decide)
theorem SI{a:Nat}(h0:((a<48)\/(57<a)))(h1:(¬(a<48))):(57<a):=h0.resolve_left h1
theorem R9{a:Nat}{b:Int}{c:Nat}(h0:((((a:Nat):Int)+b)<=((c:Nat):Int)))(h1:((0:Int)<=b)):((a<=(Int.toNat (((a:Nat):Int)+b)))/\((Int.toNat (((a:Nat):Int)+b))<=c)):=⟨(Int.le_toNat (MN h1)).mpr (Int.le_add_of_nonneg_right h1),Int.toNat_le.mpr h0⟩
theorem I4{i n:Nat}(h:i<n)(hs:n<=1000):i<2^62:=Nat.lt_of_lt_of_le h (Nat.le_trans hs (by decide))
theorem SJ{i n:Nat}(h:i<n):n-(i+1)<n-i:=Nat.sub_lt_sub_left h (Nat.lt_succ_self i)
theorem SK{i n:Nat}(h:i<n):n+1-i=(n+1-(i+1))+1:=(Nat.succ_sub (Nat.le_of_lt h)).trans (congrArg (· +1) (Nat.add_sub_add_right n 1 i).symm)
theorem I5{i n:Nat}(h:i<n):n+1-(i+1)<n+1-i:=Nat.sub_lt_sub_left (Nat.lt_succ_of_lt h) (Nat.lt_succ_self i)
theorem SM{a b l n:Nat}(h:a<b)(z:l+b<=n):l+1+a<=n+1+a/\l+1+a<=n:=by
 have k:l+1+a<=n:=by rw[Nat.add_assoc,Nat.add_comm 1 a];exact Nat.le_trans (Nat.add_le_add_left h l) z
 exact⟨Nat.le_trans k (Nat.le_trans (Nat.le_succ n) (Nat.le_add_right _ _)),k⟩
theorem SN{a k f:Nat}(h:a<=k+1+f):a<=k+(f+1):=Nat.le_trans h (Nat.le_of_eq (Nat.succ_add_eq_add_succ k f))
section
variable{α β:Type}{f:α->β}{l m:List α}{x y:α}{n:Nat}
theorem iy:x∈l++x::m:=List.mem_append_right _ (.head _)
theorem qc:(l++[x]).length=l.length+1:=List.length_append
theorem Cw(h:l.length<=n):(l++[x]).length<=n+1:=Nat.le_trans (Nat.le_of_eq qc) (Nat.succ_le_succ h)
theorem DE:(l.map f).length=l.length:=List.length_map _
theorem Rd:((l++[x]).map f).length=l.length+1:=DE.trans qc
theorem qE(h:l.length<=n):(l.map f).length<=n:=Nat.le_trans (Nat.le_of_eq DE) h
theorem G9(h:l.length<=n):((l++[x]).map f).length<=n+1:=qE (Cw h)
theorem Mt(h:l.length<=n):((l++[x]++[y]).map f).length<=n+2:=qE (Cw (Cw h))
theorem Rg(h:(l++[x]).length<=n+1):l.length<=n:=Nat.le_of_succ_le_succ (Nat.le_trans (Nat.le_of_eq qc.symm) h)
theorem Rh(h:((l++[x]).map f).length<=n+1):l.length<=n:=Rg (Nat.le_trans (Nat.le_of_eq DE.symm) h)
theorem Rf(h:l.length<=m.length):(l++[x]).length<=(m++[y]).length:=Nat.le_trans (Cw h) (Nat.le_of_eq qc.symm)
theorem Xq(h:l.length<=m.length+1):l.length<=(m++[y]).length:=Nat.le_trans h (Nat.le_of_eq qc.symm)
theorem atS:(l++[x])[l.length]? =some x:=by rw[List.getElem?_append_right (Nat.le_refl _),Nat.sub_self];rfl
theorem Uj:((l++[x]).map f)[l.length]? =some (f x):=by rw[List.getElem?_map,atS];rfl
theorem FC(h:0<n):decide ((n:Int)>0)=true:=decide_eq_true (Int.natCast_pos.mpr h)
theorem CV:decide ((((l++[x]).map f).length:Int)>0)=true:=FC (by rw[Rd];exact Nat.succ_pos _)
theorem SW:decide (((l++[x]).length:Int)>0)=true:=FC (by rw[qc];exact Nat.succ_pos _)
theorem FU:(((l++[x]).map f).length:Int)-1=(l.length:Int):=by rw[Rd];exact Int.add_sub_cancel (l.length:Int) 1
theorem I0:(l++[x]).map f=l.map f++[f x]:=List.map_append
theorem Lm{f:α->List β}:List.flatMap f [x]=f x:=List.append_nil (f x)
theorem vC{f:α->Nat}:((l++[x]).map f).sum=(l.map f).sum+f x:=by rw[I0,List.sum_append];rfl
theorem Q1{j:Nat}(h:j<l.length):(j:Int)<((l.map f).length:Int):=Int.ofNat_lt.mpr (Nat.lt_of_lt_of_le h (Nat.le_of_eq DE.symm))
theorem Ac:[x].Nodup:=.cons (λ_ h=>nomatch h) .nil
theorem J1{a b:α}(h1:x≠a)(h2:x≠b):x∉[a,b]:=λh=>(List.mem_cons.mp h).elim h1 λh=>h2 (List.mem_singleton.mp h)
theorem Rt{a b d:α}(h1:x≠a)(h2:x≠b)(h3:x≠d):x∉[a,b,d]:=λh=>(List.mem_cons.mp h).elim h1 (J1 h2 h3)
theorem Xl{p:Prop}[Decidable p]{x y z:α}:(if p then x else if p then y else z)=if p then x else z:=if h:p then by rw[if_pos h,if_pos h] else by rw[if_neg h,if_neg h,if_neg h]
theorem OH{p q:Prop}[Decidable p][Decidable q]{x y z u:α}:(if p then x else if q then y else if p then z else u)=if p then x else if q then y else u:=if h:p then by rw[if_pos h,if_pos h] else by rw[if_neg h,if_neg h,if_neg h]
end
theorem bH{a b:Bool}(h:(a&&b)=true):a=true/\b=true:=(Bool.and_eq_true _ _).mp h
theorem nB{b:Bool}(h:(!b)=true):b=false:=by cases b with | false=>rfl | true=>cases h
theorem ff{p:Prop}{b:Bool}(e:b=false)(h:b=true):p:=absurd (e.symm.trans h) Bool.false_ne_true
theorem all1{α:Type}{P:α->Prop}{x:α}(h:P x):∀j∈[x],P j:=λ_ m=>(List.mem_singleton.mp m)▸h
theorem all2{α:Type}{P:α->Prop}{x y:α}(h:P x)(g:P y):∀j∈[x,y],P j:=λ_ m=>(List.mem_cons.mp m).elim (λe=>e▸h) λm=>(List.mem_singleton.mp m)▸g
end
section
noncomputable section
abbrev pw:Program:=PySem.Challenge.pw_sa0604_02
noncomputable def treeOf:Nat->(Nat->Obj)->Nat->Nat->Nat->BT
 | 0,_,_,_,_=>.nil
 | k+1,f,n,a,b=>match Nat.ble n b with
  | true=>.nil
  | false=>.node (f b) (treeOf k f n (2*a) (a+b)) (treeOf k f n (2*a) (2*a+b))
noncomputable def ov(o0 o2 o3 o4 CM ON:Obj)(g:Nat->Obj)(i:Nat):Obj:=
 match Nat.beq i 3 with
 | true=>o3
 | false=>match Nat.beq i 12 with
  | true=>CM
  | false=>match Nat.beq i 13 with
   | true=>ON
   | false=>match Nat.beq i 4 with
    | true=>o4
    | false=>match Nat.beq i 2 with
     | true=>o2
     | false=>match Nat.beq i 0 with
      | true=>o0
      | false=>g i
abbrev kh:Program:=pw
noncomputable def fR:List Stmt:=behindTheImports kh
noncomputable def xK:Env:={ scope:=kh.main.scope,locals:=mainNs,globals:=mainNs,cells:=[],code:=.ref 13,frame:=some 14 }
noncomputable def fj:Code:=.body fR xK
noncomputable def GH:List Frame:=[topFrame ⟨0,0,0,0⟩]
noncomputable def tm(w:World)(os:OsState):Option (Shared×Thread):=PySem.W.Fast.tw15667345088766844465 PySem.W.Fast.tw14364793385576792824 kh w 11 (some (.ref 6)) 12 ⟨boot_heap w.params,Array.mk [],boot_drawn,boot_toks,os⟩ (topStub kh)
noncomputable def Sa(w:World)(os:OsState):Heap:=match tm w os with | some (s,_)=>s.heap | none=>default
noncomputable def ga(w:World)(os:OsState)(i:Nat):Obj:=((Sa w os).objs[i]?).getD default
noncomputable def ON(w:World)(os:OsState):Obj:=ga w os 13
noncomputable def CM(l:List Value):Obj:=⟨.none,none,.fields ⟨l⟩, #[]⟩
noncomputable def ent(P:Params)(e:List Nat×Nat×Value):DictEntry:=⟨PyData.keyHash P ⟨⟨e.1⟩⟩,.str ⟨⟨e.1⟩⟩ e.2.1,e.2.2⟩
noncomputable def nX(P:Params)(nv:Option Value)(l:List (List Nat×Nat×Value))(n:Nat):Obj:=match boot_o_3 P with
 | ⟨c,d,.dict es _,s⟩=>⟨c,d,.dict ⟨(match nv with | some v=>(match es.toList with | e::r=>{ e with val:=v }::r | []=>[]) | none=>es.toList)++l.map (ent P)⟩ n,s⟩
 | o=>o
noncomputable def o2(P:Params)(l:List (List Nat×Nat×Value))(n:Nat):Obj:=match boot_o_2 P with
 | ⟨c,d,_,s⟩=>⟨c,d,.dict ⟨l.map (ent P)⟩ n,s⟩
noncomputable def q9(w:World)(N:Nat)(s:SharedT)(i j:Nat)(pos:Pos):Option (Flow×SharedT×Code×Pos):=
 PySem.W.Fast.tw10110043849684766642 PySem.W.Fast.tw14364793385576792824 kh w 11 (some (.ref 6)) 1 N s ⟨(PySem.W.Fast.tw12563942051412417395 ((fR.drop i).take j) xK).wrap doneF deadEnd id id,fj,pos,GH⟩
noncomputable def mf(r:Option (Flow×SharedT×Code×Pos))(n:Nat)(g:Nat->Obj)(i:Nat):Obj:=match Nat.ble n i with
 | false=>g i
 | true=>match r with
  | some (_,s,_)=>(s.tree.get i).getD default
  | none=>default
noncomputable def Hk(w:World)(os:OsState)(a2 a3 V0:Obj)(n t:Nat)(g:Nat->Obj):SharedT:=
 ⟨treeOf 12 (ov (boot_o_0 w.params) a2 a3 (boot_o_4 w.params) V0 (ON w os) g) n 1 0,n,{},Array.mk [],{},t,os⟩
noncomputable def E0:List (List Nat×Nat×Value):=[]
noncomputable def L0:List Value:=[]
noncomputable def A0(P:Params):Obj:=o2 P [] 0
noncomputable def B0(P:Params):Obj:=nX P (none) E0 9
noncomputable def S0(w:World)(os:OsState)(g:Nat->Obj):SharedT:=Hk w os (A0 w.params) (B0 w.params) (CM L0) 15 187 g
noncomputable def E1:List (List Nat×Nat×Value):=E0++[([79,78,69],190,.str ⟨⟨[111,110,101]⟩⟩ 189),([87,65,89,83],192,.str ⟨⟨[119,97,121,115]⟩⟩ 191),([83,80,76,73,84],194,.str ⟨⟨[115,112,108,105,116]⟩⟩ 193),([74,85,77,80],196,.str ⟨⟨[106,117,109,112]⟩⟩ 195),([77,65,82,75],198,.str ⟨⟨[109,97,114,107]⟩⟩ 197),([78,65,77,69],200,.str ⟨⟨[110,97,109,101]⟩⟩ 199),([83,69,84],202,.str ⟨⟨[115,101,116]⟩⟩ 201),([71,65,73,78],204,.str ⟨⟨[103,97,105,110]⟩⟩ 203),([80,76,65,67,69],206,.str ⟨⟨[112,108,97,99,101]⟩⟩ 205),([65,83,75],208,.str ⟨⟨[97,115,107]⟩⟩ 207),([70,69,78,67,69],210,.str ⟨⟨[102,101,110,99,101]⟩⟩ 209),([70,65,73,76],212,.str ⟨⟨[102,97,105,108]⟩⟩ 211),([65,66,79,82,84],214,.str ⟨⟨[97,98,111,114,116]⟩⟩ 213),([83,85,67,67,69,69,68],216,.str ⟨⟨[115,117,99,99,101,101,100]⟩⟩ 215),([68,79,78,69],218,.str ⟨⟨[100,111,110,101]⟩⟩ 217),([80,85,84],220,.str ⟨⟨[112,117,116]⟩⟩ 219),([69,77,73,84],222,.str ⟨⟨[101,109,105,116]⟩⟩ 221),([79,80,69,78],224,.str ⟨⟨[111,112,101,110]⟩⟩ 223),([83,72,85,84],226,.str ⟨⟨[115,104,117,116]⟩⟩ 225),([77,69,69,84],228,.str ⟨⟨[109,101,101,116]⟩⟩ 227),([83,73,78,71,76,69],240,.ref 15),([65,76,79,78,69],245,.ref 16),([114,111,119,95,111,102],256,.ref 23),([105,115,95,112,108,97,105,110,95,116,101,120,116],263,.ref 30),([119,105,116,104,95,116,101,120,116,115,95,106,111,105,110,101,100],272,.ref 37),([80,97,116,116,101,114,110,67,111,100,101],356,.ref 94),([115,116,114,97,105,103,104,116,101,110,101,100],366,.ref 105),([99,111,109,112,105,108,101,95,112,97,116,116,101,114,110],374,.ref 112)]
noncomputable def L1:List Value:=L0++[.int 24 0,.int 0 0,.ref 22,.int 33 0,.int 0 0,.ref 29,.int 35 0,.int 0 0,.ref 36,.int 45 0,.int 0 0,.ref 43,.int 106 0,.int 0 0,.ref 104,.int 116 0,.int 0 0,.ref 111]
noncomputable def A1(P:Params):Obj:=o2 P [] 0
noncomputable def B1(P:Params):Obj:=nX P (some (.str ⟨⟨[115,110,111,98,111,108,46,99,111,109,112,105,108,101,95,112,97,116,116,101,114,110]⟩⟩ 187)) E1 37
noncomputable def S1(w:World)(os:OsState)(g:Nat->Obj):SharedT:=Hk w os (A1 w.params) (B1 w.params) (CM L1) 113 375 g
noncomputable def R0(w:World)(os:OsState)(g:Nat->Obj):=q9 w 799 (S0 w os g) 0 29 ⟨0,0,0,0⟩
noncomputable def G0(w:World)(os:OsState)(g:Nat->Obj):Nat->Obj:=mf (R0 w os g) 15 g
theorem I7(w:World)(os:OsState)(g:Nat->Obj):R0 w os g=some (.next,S1 w os (G0 w os g),fj,⟨116,0,120,36⟩):=by kernel_rfl
noncomputable def E2:List (List Nat×Nat×Value):=E1++[([83,110,111,98,111,108,69,114,114,111,114],410,.ref 132),([70,97,105,108,117,114,101],430,.ref 145),([80,97,116,116,101,114,110],459,.ref 166)]
noncomputable def L2:List Value:=L1++[.int 122 0,.int 0 0,.ref 119,.int 128 0,.int 0 0,.ref 141,.int 130 0,.int 0 0,.ref 155]
noncomputable def A2(P:Params):Obj:=o2 P [([116,121,112,101,46,95,95,115,117,98,99,108,97,115,115,101,115,95,95,46,69,120,99,101,112,116,105,111,110,46,48],407,.int 132 0),([116,121,112,101,46,95,95,115,117,98,99,108,97,115,115,101,115,95,95,46,69,120,99,101,112,116,105,111,110,46,110],408,.int 1 0)] 2
noncomputable def B2(P:Params):Obj:=nX P (some (.str ⟨⟨[115,110,111,98,111,108,46,118,97,108,117,101,115]⟩⟩ 375)) E2 40
noncomputable def S2(w:World)(os:OsState)(g:Nat->Obj):SharedT:=Hk w os (A2 w.params) (B2 w.params) (CM L2) 171 460 g
noncomputable def R1(w:World)(os:OsState)(g:Nat->Obj):=q9 w 670 (S1 w os g) 29 4 ⟨116,0,120,36⟩
noncomputable def G1(w:World)(os:OsState)(g:Nat->Obj):Nat->Obj:=mf (R1 w os g) 113 g
theorem I8(w:World)(os:OsState)(g:Nat->Obj):R1 w os g=some (.next,S2 w os (G1 w os g),fj,⟨130,0,133,24⟩):=by kernel_rfl
noncomputable def E3:List (List Nat×Nat×Value):=E2++[([68,101,108,97,121,101,100],488,.ref 187),([78,97,109,101,82,101,102],521,.ref 208),([105,115,95,102,97,105,108],528,.ref 219),([102,105,116,115],536,.ref 226),([119,104,111,108,101,95,111,102,95,116,101,120,116],547,.ref 233),([116,101,120,116,95,111,102,95,119,104,111,108,101],556,.ref 240),([116,111,95,119,104,111,108,101],564,.ref 247),([116,111,95,116,101,120,116],571,.ref 254),([110,101,101,100,95,116,101,120,116],579,.ref 261),([67,79,85,78,84,69,68],587,.ref 262),([83,73,71,78,69,68],592,.ref 263),([87,73,68,84,72,95,79,70,95,67,79,85,78,84],594,.int 64 593),([112,108,97,105,110,95,99,111,117,110,116],604,.ref 271),([112,108,97,105,110,95,115,105,103,110,115],613,.ref 278)]
noncomputable def L3:List Value:=L2++[.int 134 0,.int 0 0,.ref 176,.int 138 0,.int 0 0,.ref 197,.int 144 0,.int 0 0,.ref 218,.int 146 0,.int 0 0,.ref 225,.int 148 0,.int 0 0,.ref 232,.int 161 0,.int 0 0,.ref 239,.int 167 0,.int 0 0,.ref 246,.int 171 0,.int 0 0,.ref 253,.int 175 0,.int 0 0,.ref 260,.int 184 0,.int 0 0,.ref 270,.int 191 0,.int 0 0,.ref 277]
noncomputable def A3(P:Params):Obj:=o2 P [([116,121,112,101,46,95,95,115,117,98,99,108,97,115,115,101,115,95,95,46,69,120,99,101,112,116,105,111,110,46,48],407,.int 132 0),([116,121,112,101,46,95,95,115,117,98,99,108,97,115,115,101,115,95,95,46,69,120,99,101,112,116,105,111,110,46,110],408,.int 1 0)] 2
noncomputable def B3(P:Params):Obj:=nX P (some (.str ⟨⟨[115,110,111,98,111,108,46,110,111,100,101,115]⟩⟩ 580)) E3 54
noncomputable def S3(w:World)(os:OsState)(g:Nat->Obj):SharedT:=Hk w os (A3 w.params) (B3 w.params) (CM L3) 279 614 g
noncomputable def R2(w:World)(os:OsState)(g:Nat->Obj):=q9 w 774 (S2 w os g) 33 15 ⟨130,0,133,24⟩
noncomputable def G2(w:World)(os:OsState)(g:Nat->Obj):Nat->Obj:=mf (R2 w os g) 171 g
theorem I9(w:World)(os:OsState)(g:Nat->Obj):R2 w os g=some (.next,S3 w os (G2 w os g),fj,⟨191,0,195,15⟩):=by kernel_rfl
noncomputable def E4:List (List Nat×Nat×Value):=E3++[([112,97,116,116,101,114,110,95,111,102],621,.ref 285),([105,115,95,100,101,108,97,121,101,100],628,.ref 292),([115,101,116,116,108,101,100],637,.ref 299),([79,80,69,78,73,78,71],641,.str ⟨⟨[40]⟩⟩ 640),([67,76,79,83,73,78,71],643,.str ⟨⟨[41]⟩⟩ 642),([99,104,97,114,115,95,101,110,100],653,.ref 306),([108,101,110,95,101,110,100],662,.ref 313),([112,111,115,95,101,110,100],670,.ref 320),([114,112,111,115,95,101,110,100],679,.ref 327),([116,97,98,95,101,110,100],688,.ref 334),([114,116,97,98,95,101,110,100],698,.ref 341),([114,101,109,95,101,110,100],705,.ref 348),([97,110,121,95,97,116],714,.ref 355),([110,111,116,97,110,121,95,97,116],723,.ref 362),([114,117,110,95,101,110,100],733,.ref 369),([115,112,97,110,95,101,110,100],743,.ref 376),([98,114,101,97,107,95,101,110,100],753,.ref 383),([97,114,98,95,101,110,100,115],761,.ref 390),([98,97,108,95,101,110,100],770,.ref 397),([98,97,108,95,101,110,100,115],780,.ref 404),([111,110,101,95,101,110,100],790,.ref 411),([112,108,97,105,110,95,101,110,100],799,.ref 418),([101,110,100,115,95,111,102],810,.ref 425),([77,69,84],814,.int 0 813),([70,65,73,76,69,68],816,.int 1 815),([79,86,69,82],818,.int 2 817)]
noncomputable def L4:List Value:=L3++[.int 196 0,.int 0 0,.ref 284,.int 205 0,.int 0 0,.ref 291,.int 207 0,.int 0 0,.ref 298,.int 219 0,.int 0 0,.ref 305,.int 222 0,.int 0 0,.ref 312,.int 224 0,.int 0 0,.ref 319,.int 226 0,.int 0 0,.ref 326,.int 228 0,.int 0 0,.ref 333,.int 230 0,.int 0 0,.ref 340,.int 233 0,.int 0 0,.ref 347,.int 235 0,.int 0 0,.ref 354,.int 237 0,.int 0 0,.ref 361,.int 239 0,.int 0 0,.ref 368,.int 243 0,.int 0 0,.ref 375,.int 246 0,.int 0 0,.ref 382,.int 249 0,.int 0 0,.ref 389,.int 251 0,.int 0 0,.ref 396,.int 264 0,.int 0 0,.ref 403,.int 270 0,.int 0 0,.ref 410,.int 290 0,.int 0 0,.ref 417,.int 292 0,.int 0 0,.ref 424]
noncomputable def A4(P:Params):Obj:=o2 P [([116,121,112,101,46,95,95,115,117,98,99,108,97,115,115,101,115,95,95,46,69,120,99,101,112,116,105,111,110,46,48],407,.int 132 0),([116,121,112,101,46,95,95,115,117,98,99,108,97,115,115,101,115,95,95,46,69,120,99,101,112,116,105,111,110,46,110],408,.int 1 0)] 2
noncomputable def B4(P:Params):Obj:=nX P (some (.str ⟨⟨[115,110,111,98,111,108,46,112,97,116,116,101,114,110,95,109,97,99,104,105,110,101]⟩⟩ 811)) E4 80
noncomputable def S4(w:World)(os:OsState)(g:Nat->Obj):SharedT:=Hk w os (A4 w.params) (B4 w.params) (CM L4) 426 819 g
noncomputable def R3(w:World)(os:OsState)(g:Nat->Obj):=q9 w 717 (S3 w os g) 48 28 ⟨191,0,195,15⟩
noncomputable def G3(w:World)(os:OsState)(g:Nat->Obj):Nat->Obj:=mf (R3 w os g) 279 g
theorem Ja(w:World)(os:OsState)(g:Nat->Obj):R3 w os g=some (.next,S4 w os (G3 w os g),fj,⟨304,0,304,4⟩):=by kernel_rfl
noncomputable def E5:List (List Nat×Nat×Value):=E4++[([87,97,121],865,.ref 449),([77,97,116,99,104],980,.ref 526),([110,97,109,101,100,95,114,111,119,115],989,.ref 537)]
noncomputable def L5:List Value:=L4++[.int 305 0,.int 0 0,.ref 431,.int 317 0,.int 0 0,.ref 459,.int 425 0,.int 0 0,.ref 536]
noncomputable def A5(P:Params):Obj:=o2 P [([116,121,112,101,46,95,95,115,117,98,99,108,97,115,115,101,115,95,95,46,69,120,99,101,112,116,105,111,110,46,48],407,.int 132 0),([116,121,112,101,46,95,95,115,117,98,99,108,97,115,115,101,115,95,95,46,69,120,99,101,112,116,105,111,110,46,110],408,.int 1 0)] 2
noncomputable def B5(P:Params):Obj:=nX P (some (.str ⟨⟨[115,110,111,98,111,108,46,112,97,116,116,101,114,110,95,109,97,99,104,105,110,101]⟩⟩ 811)) E5 83
noncomputable def S5(w:World)(os:OsState)(g:Nat->Obj):SharedT:=Hk w os (A5 w.params) (B5 w.params) (CM L5) 538 990 g
noncomputable def R4(w:World)(os:OsState)(g:Nat->Obj):=q9 w 796 (S4 w os g) 76 3 ⟨304,0,304,4⟩
noncomputable def G4(w:World)(os:OsState)(g:Nat->Obj):Nat->Obj:=mf (R4 w os g) 426 g
theorem Jc(w:World)(os:OsState)(g:Nat->Obj):R4 w os g=some (.next,S5 w os (G4 w os g),fj,⟨425,0,431,16⟩):=by kernel_rfl
noncomputable def E6:List (List Nat×Nat×Value):=E5++[([109,97,116,99,104,95,111,114,100,101,114,115],1002,.ref 544),([80,108,97,105,110,72,111,115,116],1064,.ref 582),([76,79,83,84],1068,.str ⟨⟨[108,111,115,116]⟩⟩ 1067),([109,97,116,99,104,95,112,108,97,105,110],1080,.ref 593),([109,97,116,99,104,95,97,116],1091,.ref 600),([116,114,105,101,100],1106,.ref 607),([97,100,118,97,110,99,101,100],1122,.ref 614),([108,101,100,95,105,110],1134,.ref 621),([108,101,100,95,111,117,116],1150,.ref 628),([115,116,101,101,114,101,100],1162,.ref 635),([116,97,107,101,110],1179,.ref 642),([95,108,97,119,95,100,105,112,112,101,100],1191,.ref 649),([95,108,97,119,95,103,114,111,119,110],1204,.ref 656),([95,108,97,119,95,103,111,110,101],1210,.ref 661)]
noncomputable def L6:List Value:=L5++[.int 432 0,.int 0 0,.ref 543,.int 441 0,.int 0 0,.ref 550,.int 469 0,.int 0 0,.ref 592,.int 475 0,.int 0 0,.ref 599,.int 478 0,.int 0 0,.ref 606,.int 496 0,.int 0 0,.ref 613,.int 511 0,.int 0 0,.ref 620,.int 522 0,.int 0 0,.ref 627,.int 529 0,.int 0 0,.ref 634,.int 537 0,.int 0 0,.ref 641,.int 554 0,.int 0 0,.ref 648,.int 558 0,.int 0 0,.ref 655,.int 571 0,.int 0 0,.ref 660]
noncomputable def A6(P:Params):Obj:=o2 P [([116,121,112,101,46,95,95,115,117,98,99,108,97,115,115,101,115,95,95,46,69,120,99,101,112,116,105,111,110,46,48],407,.int 132 0),([116,121,112,101,46,95,95,115,117,98,99,108,97,115,115,101,115,95,95,46,69,120,99,101,112,116,105,111,110,46,110],408,.int 1 0)] 2
noncomputable def B6(P:Params):Obj:=nX P (some (.str ⟨⟨[108,97,119,95,115,97,48,54,48,52,95,48,50]⟩⟩ 1180)) E6 97
noncomputable def S6(w:World)(os:OsState)(g:Nat->Obj):SharedT:=Hk w os (A6 w.params) (B6 w.params) (CM L6) 662 1211 g
noncomputable def R5(w:World)(os:OsState)(g:Nat->Obj):=q9 w 777 (S5 w os g) 79 17 ⟨425,0,431,16⟩
noncomputable def G5(w:World)(os:OsState)(g:Nat->Obj):Nat->Obj:=mf (R5 w os g) 538 g
theorem Jd(w:World)(os:OsState)(g:Nat->Obj):R5 w os g=some (.next,S6 w os (G5 w os g),fj,⟨571,0,582,40⟩):=by kernel_rfl
noncomputable def E7:List (List Nat×Nat×Value):=E6++[([108,97,119],1216,.ref 666)]
noncomputable def L7:List Value:=L6++[.int 583 0,.int 0 0,.ref 665]
noncomputable def A7(P:Params):Obj:=o2 P [([116,121,112,101,46,95,95,115,117,98,99,108,97,115,115,101,115,95,95,46,69,120,99,101,112,116,105,111,110,46,48],407,.int 132 0),([116,121,112,101,46,95,95,115,117,98,99,108,97,115,115,101,115,95,95,46,69,120,99,101,112,116,105,111,110,46,110],408,.int 1 0)] 2
noncomputable def B7(P:Params):Obj:=nX P (some (.str ⟨⟨[108,97,119,95,115,97,48,54,48,52,95,48,50]⟩⟩ 1180)) E7 98
noncomputable def S7(w:World)(os:OsState)(g:Nat->Obj):SharedT:=Hk w os (A7 w.params) (B7 w.params) (CM L7) 667 1217 g
noncomputable def R6(w:World)(os:OsState)(g:Nat->Obj):=q9 w 27 (S6 w os g) 96 1 ⟨571,0,582,40⟩
noncomputable def G6(w:World)(os:OsState)(g:Nat->Obj):Nat->Obj:=mf (R6 w os g) 662 g
theorem Je(w:World)(os:OsState)(g:Nat->Obj):R6 w os g=some (.next,S7 w os (G6 w os g),fj,⟨583,0,609,77⟩):=by kernel_rfl
end
end
section
noncomputable section
theorem FE(w:World)(N:Nat)(s:SharedT)(i j:Nat)(pos:Pos):q9 w N s i j pos=segRunT treeTable kh w 11 (some (.ref 6)) 1 N s (piecesOf ((fR.drop i).take j) xK fj pos GH):=by
 unfold q9;rw[<-PySem.W.Fast.te10110043849684766642, <-PySem.W.Fast.te14364793385576792824, <-PySem.W.Fast.te12563942051412417395]
theorem Ae(w:World)(os:OsState):tm w os=topGo treeTable kh w 11 (some (.ref 6)) 12 ⟨boot_heap w.params,Array.mk [],boot_drawn,boot_toks,os⟩ (topStub kh):=by
 unfold tm;rw[<-PySem.W.Fast.te15667345088766844465, <-PySem.W.Fast.te14364793385576792824]
noncomputable def sa(w:World)(os:OsState):Shared:=⟨Sa w os,Array.mk [],{},187,os⟩
theorem Jh(w:World)(os:OsState):tm w os=some (sa w os,⟨PySem.W.Fast.tw11892475500146522536 PySem.W.Fast.tw14364793385576792824 fj,fj,⟨0,0,0,0⟩,GH⟩):=by kernel_rfl
theorem Bq(w:World)(os:OsState):PySem.W.Fast.tw14374325043358763698 PySem.W.Fast.tw14364793385576792824 kh w 11 (some (.ref 6)) 1 1 (sa w os) ⟨(PySem.W.Fast.tw1066825118222455980 fR xK).wrap (λ_=>doneF .next) deadEnd id id,fj,⟨0,0,0,0⟩,GH⟩=some (.next,(S0 w os (ga w os)).abs,fj,⟨0,0,0,0⟩):=by kernel_rfl
theorem take_drop(i j:Nat):fR.drop i=(fR.drop i).take j++fR.drop (i+j):=by rw[<-List.drop_drop,List.take_append_drop]
theorem eK{w:World}{N N':Nat}{s s':SharedT}{r:Shared}{i j:Nat}{pos pos':Pos}(h:q9 w N s i j pos=some (.next,s',fj,pos'))(k:topRun treeTable kh w 11 (some (.ref 6)) N' s'.abs (restOf (fR.drop (i+j)) xK fj pos' GH)=some r):
  topRun treeTable kh w 11 (some (.ref 6)) (N+N') s.abs (restOf (fR.drop i) xK fj pos GH)=some r:=by
 rw[FE]at h;rw[take_drop i j];exact piece_app (segRun_of h) k
end
end
section
noncomputable section
noncomputable def H0(w:World)(os:OsState):Nat->Obj:=ga w os
noncomputable def H1(w:World)(os:OsState):Nat->Obj:=G0 w os (H0 w os)
noncomputable def H2(w:World)(os:OsState):Nat->Obj:=G1 w os (H1 w os)
noncomputable def H3(w:World)(os:OsState):Nat->Obj:=G2 w os (H2 w os)
noncomputable def H4(w:World)(os:OsState):Nat->Obj:=G3 w os (H3 w os)
noncomputable def H5(w:World)(os:OsState):Nat->Obj:=G4 w os (H4 w os)
noncomputable def H6(w:World)(os:OsState):Nat->Obj:=G5 w os (H5 w os)
noncomputable def H7(w:World)(os:OsState):Nat->Obj:=G6 w os (H6 w os)
noncomputable def lS(w:World)(os:OsState):SharedT:=S7 w os (H7 w os)
noncomputable def ju:Nat:=12+(1+(799+(670+(774+(717+(796+(777+(27+2))))))))
theorem Ib(w:World)(os:OsState)(g:Nat->Obj):PySem.W.Fast.tw14082659384304107361 PySem.W.Fast.tw14364793385576792824 kh w 11 (some (.ref 6)) 2 (S7 w os g).abs ⟨doneF .next,fj,⟨583,0,609,77⟩,GH⟩=some (S7 w os g).abs:=by kernel_rfl
theorem fin_run(w:World)(os:OsState):topRun treeTable kh w 11 (some (.ref 6)) 2 (lS w os).abs (restOf (fR.drop 97) xK fj ⟨583,0,609,77⟩ GH)=some (lS w os).abs:=by
 have e:fR.drop 97=[]:=by kernel_rfl
 rw[e];refine piece_nil ?_;have:=Ib w os (H7 w os);rw[<-PySem.W.Fast.te14082659384304107361, <-PySem.W.Fast.te14364793385576792824]at this;exact this
theorem whole_run(w:World)(os:OsState):topRun treeTable kh w 11 (some (.ref 6)) ju ⟨boot_heap w.params,Array.mk [],boot_drawn,boot_toks,os⟩ (topStub kh)=some (lS w os).abs:=by
 have h:=Jh w os;rw[Ae, <-PySem.W.Fast.te11892475500146522536, <-PySem.W.Fast.te14364793385576792824]at h;refine go_top h ?_;have b:=Bq w os;rw[<-PySem.W.Fast.te14374325043358763698, <-PySem.W.Fast.te14364793385576792824, <-PySem.W.Fast.te1066825118222455980]at b;refine piece_block b ?_;have e0:fR=fR.drop 0:=rfl;rw[e0];exact eK (I7 w os (H0 w os)) (eK (I8 w os (H1 w os)) (eK (I9 w os (H2 w os)) (eK (Ja w os (H3 w os)) (eK (Jc w os (H4 w os)) (eK (Jd w os (H5 w os)) (eK (Je w os (H6 w os)) (fin_run w os)))))))
end
end
section
noncomputable section
noncomputable def u4:List Stmt:=(behindTheImports pw).drop 96
noncomputable def qv:Program:={ pw with main:={ pw.main with body:=u4 } }
noncomputable def jE:List Str:=pw.boundNames.filter λn=> !(n==("law":Str))
noncomputable def tq:Program:={ kh with main:={ kh.main with body:=fR.drop 96 } }
noncomputable def nJ:List Str:=kh.boundNames.filter λn=> !(n==("law":Str))
noncomputable def lN:Nat:=10000
theorem xG(w:World)(os:OsState):(staticsOk (importedModules kh.main.body) (boot_heap w.params) (lS w os).abs.heap&&namesBound kh (lS w os).abs.heap&&gensDone (lS w os).abs&&laidKept (boot_heap w.params) (lS w os).abs.heap)=true:=by kernel_rfl
theorem FG(w:World)(os:OsState):PySem.W.Fast.tw4187177175401517315 tq nJ (importedModules kh.main.body) (λs=>xlAt tq [] s&&recOk [] s) true (lS w os).abs=openGood tq nJ:=by kernel_rfl
theorem opened(w:World):(fencedOpening treeTable kh w lN).map (λs=>(s.heap,s.gens,s.drawn,s.toks))=some (boot_heap w.params,Array.mk [],boot_drawn,boot_toks):=
 boot_open (p:=kh) (N:=lN) (by kernel_rfl) (by kernel_rfl) (λs=>by kernel_rfl) w
theorem m4(w:World):((boot_heap w.params).isNs mainGlobals&&(Array.mk ([]:List GenState)).size==0,(boot_heap w.params).objs.size,(boot_heap w.params).nsMap mainGlobals "__annotations__")=(true,11,some (.ref 6)):=by kernel_rfl
end
end
section
noncomputable section
noncomputable def dE(o:Obj):Bool:=match o with | ⟨_,_,.freed,_⟩=>false | _=>true
theorem lg:∀(k:Nat)(f:Nat->Obj)(n A b i:Nat),0<A->i+1<2^k->(treeOf k f n A b).get i=if A*i+b<n then some (f (A*i+b)) else none
 | 0,f,n,A,b,i,_,h=>by simp at h
 | k+1,f,n,A,b,i,hA,h=>by
  show(match Nat.ble n b with | true=>BT.nil | false=>BT.node (f b) (treeOf k f n (2*A) (A+b)) (treeOf k f n (2*A) (2*A+b))).get i=_
  by_cases hb:n<=b
  ·rw[Nat.ble_eq_true_of_le hb]
   have:¬A*i+b<n:=by have:=Nat.zero_le (A*i);exact(λz0=>aX (.l .A .B (.t (.a .C .B) .A (.z))) rfl hb z0)
   rw[if_neg this];rfl
  ·have:Nat.ble n b=false:=by
    cases q:Nat.ble n b with
    | false=>rfl
    | true=>exact absurd (Nat.le_of_ble_eq_true q) hb
   rw[this];dsimp only;rw[BT.get_node];by_cases h0:i=0
   ·subst h0;rw[if_pos rfl,if_pos (by exact aX (.t .A .B (.b (.a (.w .C 0) .A) .B)) rfl (Nat.lt_of_not_le hb))];simp
   ·rw[if_neg h0]
    by_cases p:i%2=1
    ·rw[if_pos p,lg k f n (2*A) (A+b) (i/2) (by exact aG (.t .Z .A (.b .Z (.m 2 .A))) rfl hA) (by rw[Nat.pow_succ]at h;exact RT p h), <-X.KT.arith1 p]
    ·rw[if_neg p,lg k f n (2*A) (2*A+b) (i/2-1) (by exact aG (.t .Z .A (.b .Z (.m 2 .A))) rfl hA) (by rw[Nat.pow_succ]at h;exact RU h p h0), <-X.KT.arith2 h0 p]
theorem gr{r:Option (Flow×SharedT×Code×Pos)}{n:Nat}{g:Nat->Obj}{i:Nat}(h:i<n):mf r n g i=g i:=by
 unfold mf;have:Nat.ble n i=false:=by
  cases q:Nat.ble n i with
  | false=>rfl
  | true=>exact absurd (Nat.le_of_ble_eq_true q) (Nat.not_le.mpr h)
 rw[this]
theorem Bl{o:Obj}(h:dE o=true):alive o=some o:=by
 obtain⟨c,d,dt,sl⟩:=o;cases dt<;>first | rfl | exact absurd h Bool.false_ne_true
noncomputable def NY:List Nat:=[15,16,22,23,29,30,36,37,50,51,57,58,64,65,69,70,76,77,83,84,90,91,93,94,104,105,111,112]
noncomputable def NZ:List Nat:=[116,121,128,129,131,132,144,145,162,163,165,166]
noncomputable def N0:List Nat:=[183,184,186,187,204,205,207,208,218,219,225,226,232,233,239,240,246,247,253,254,260,261,262,263,264,270,271,277,278]
noncomputable def N1:List Nat:=[284,285,291,292,298,299,305,306,312,313,319,320,326,327,333,334,340,341,347,348,354,355,361,362,368,369,375,376,382,383,389,390,396,397,403,404,410,411,417,418,424,425]
noncomputable def N2:List Nat:=[438,439,445,446,448,449,466,467,473,474,480,481,487,488,494,495,501,502,508,509,515,516,522,523,525,526,536,537]
noncomputable def N3:List Nat:=[543,544,557,558,564,565,571,572,578,579,581,582,592,593,599,600,606,607,613,614,620,621,627,628,634,635,641,642,648,649,655,656,660,661]
noncomputable def N4:List Nat:=[665,666]
noncomputable def addrs:List Nat:=3::2::(NY++(NZ++(N0++(N1++(N2++(N3++(N4)))))))
theorem HE(w:World)(os:OsState)(g:Nat->Obj):NY.all (λa=>dE (G0 w os g a))=true:=by kernel_rfl
theorem KV:NY.all (λa=>Nat.blt a 113&&Nat.blt 13 a)=true:=by decide+kernel
theorem HF(w:World)(os:OsState)(g:Nat->Obj):NZ.all (λa=>dE (G1 w os g a))=true:=by kernel_rfl
theorem KW:NZ.all (λa=>Nat.blt a 171&&Nat.blt 13 a)=true:=by decide+kernel
theorem HG(w:World)(os:OsState)(g:Nat->Obj):N0.all (λa=>dE (G2 w os g a))=true:=by kernel_rfl
theorem KX:N0.all (λa=>Nat.blt a 279&&Nat.blt 13 a)=true:=by decide+kernel
theorem HH(w:World)(os:OsState)(g:Nat->Obj):N1.all (λa=>dE (G3 w os g a))=true:=by kernel_rfl
theorem KY:N1.all (λa=>Nat.blt a 426&&Nat.blt 13 a)=true:=by decide+kernel
theorem HI(w:World)(os:OsState)(g:Nat->Obj):N2.all (λa=>dE (G4 w os g a))=true:=by kernel_rfl
theorem KZ:N2.all (λa=>Nat.blt a 538&&Nat.blt 13 a)=true:=by decide+kernel
theorem HJ(w:World)(os:OsState)(g:Nat->Obj):N3.all (λa=>dE (G5 w os g a))=true:=by kernel_rfl
theorem La:N3.all (λa=>Nat.blt a 662&&Nat.blt 13 a)=true:=by decide+kernel
theorem HK(w:World)(os:OsState)(g:Nat->Obj):N4.all (λa=>dE (G6 w os g a))=true:=by kernel_rfl
theorem Lb:N4.all (λa=>Nat.blt a 667&&Nat.blt 13 a)=true:=by decide+kernel
theorem Ui(w:World)(os:OsState)(a:Nat)(h:a<667):H7 w os a=H7 w os a:=rfl
theorem PF(w:World)(os:OsState)(a:Nat)(h:a<662):H7 w os a=H6 w os a:=(Ui w os a (by exact aG (.t .A (.k 662) (.b .A (.k 667))) rfl h)).trans (gr (r:=R6 w os (H6 w os)) h)
theorem PD(w:World)(os:OsState)(a:Nat)(h:a<538):H7 w os a=H5 w os a:=(PF w os a (by exact aG (.t .A (.k 538) (.b .A (.k 662))) rfl h)).trans (gr (r:=R5 w os (H5 w os)) h)
theorem PC(w:World)(os:OsState)(a:Nat)(h:a<426):H7 w os a=H4 w os a:=(PD w os a (by exact aG (.t .A (.k 426) (.b .A (.k 538))) rfl h)).trans (gr (r:=R4 w os (H4 w os)) h)
theorem PB(w:World)(os:OsState)(a:Nat)(h:a<279):H7 w os a=H3 w os a:=(PC w os a (by exact aG (.t .A (.k 279) (.b .A (.k 426))) rfl h)).trans (gr (r:=R3 w os (H3 w os)) h)
theorem at2(w:World)(os:OsState)(a:Nat)(h:a<171):H7 w os a=H2 w os a:=(PB w os a (by exact aG (.t .A (.k 171) (.b .A (.k 279))) rfl h)).trans (gr (r:=R2 w os (H2 w os)) h)
theorem Uh(w:World)(os:OsState)(a:Nat)(h:a<113):H7 w os a=H1 w os a:=(at2 w os a (by exact aG (.t .A (.k 113) (.b .A (.k 171))) rfl h)).trans (gr (r:=R1 w os (H1 w os)) h)
noncomputable def cH(w:World):OsState:=match fencedOpening treeTable kh w lN with | some s=>s.os | none=>default
noncomputable def bq(w:World):Nat->Obj:=ov (boot_o_0 w.params) (A7 w.params) (B7 w.params) (boot_o_4 w.params) (CM L7) (ON w (cH w)) (H7 w (cH w))
theorem d0(w:World)(a:Nat)(h:13<a):bq w a=H7 w (cH w) a:=by
 have e (n:Nat) (hn:n<=13):Nat.beq a n=false:=by
  cases q:Nat.beq a n with
  | false=>rfl
  | true=>have:=Nat.eq_of_beq_eq_true q;exact False.elim (aH (.t (.k 13) .A (.e .A .B (.l .B (.k 13) (.z)))) rfl h this hn)
 unfold bq ov;rw[e 3 (by decide),e 12 (by decide),e 13 (by decide),e 4 (by decide),e 2 (by decide),e 0 (by decide)]
theorem Ee(w:World)(a:Nat)(h:a<667):(lS w (cH w)).tree.get a=some (bq w a):=by
 have:=lg 12 (bq w) 667 1 0 a (by decide) (Nat.lt_of_lt_of_le (by exact aG (.t .A (.k 667) (.b (.a .A .O) (.k 4096))) rfl h:a+1<4096) (by decide))
 rw[Nat.one_mul,Nat.add_zero,if_pos h]at this;exact this
theorem wG(w:World):dE (bq w 3)=true:=by kernel_rfl
theorem wH(w:World):dE (bq w 2)=true:=by kernel_rfl
theorem Mm(w:World)(a:Nat)(h:a∈NY):a<667/\dE (bq w a)=true:=by
 have h1:=List.all_eq_true.mp KV a h;rw[Bool.and_eq_true,Nat.blt_eq,Nat.blt_eq]at h1;refine⟨by exact aG (.t .A (.k 113) (.b .A (.k 667))) rfl h1.1,?_⟩
 rw[d0 w a h1.2,Uh w (cH w) a h1.1];exact List.all_eq_true.mp (HE w (cH w) (H0 w (cH w))) a h
theorem Mn(w:World)(a:Nat)(h:a∈NZ):a<667/\dE (bq w a)=true:=by
 have h1:=List.all_eq_true.mp KW a h;rw[Bool.and_eq_true,Nat.blt_eq,Nat.blt_eq]at h1;refine⟨by exact aG (.t .A (.k 171) (.b .A (.k 667))) rfl h1.1,?_⟩
 rw[d0 w a h1.2,at2 w (cH w) a h1.1];exact List.all_eq_true.mp (HF w (cH w) (H1 w (cH w))) a h
theorem Mo(w:World)(a:Nat)(h:a∈N0):a<667/\dE (bq w a)=true:=by
 have h1:=List.all_eq_true.mp KX a h;rw[Bool.and_eq_true,Nat.blt_eq,Nat.blt_eq]at h1;refine⟨by exact aG (.t .A (.k 279) (.b .A (.k 667))) rfl h1.1,?_⟩
 rw[d0 w a h1.2,PB w (cH w) a h1.1];exact List.all_eq_true.mp (HG w (cH w) (H2 w (cH w))) a h
theorem Mp(w:World)(a:Nat)(h:a∈N1):a<667/\dE (bq w a)=true:=by
 have h1:=List.all_eq_true.mp KY a h;rw[Bool.and_eq_true,Nat.blt_eq,Nat.blt_eq]at h1;refine⟨by exact aG (.t .A (.k 426) (.b .A (.k 667))) rfl h1.1,?_⟩
 rw[d0 w a h1.2,PC w (cH w) a h1.1];exact List.all_eq_true.mp (HH w (cH w) (H3 w (cH w))) a h
theorem Mq(w:World)(a:Nat)(h:a∈N2):a<667/\dE (bq w a)=true:=by
 have h1:=List.all_eq_true.mp KZ a h;rw[Bool.and_eq_true,Nat.blt_eq,Nat.blt_eq]at h1;refine⟨by exact aG (.t .A (.k 538) (.b .A (.k 667))) rfl h1.1,?_⟩
 rw[d0 w a h1.2,PD w (cH w) a h1.1];exact List.all_eq_true.mp (HI w (cH w) (H4 w (cH w))) a h
theorem Mr(w:World)(a:Nat)(h:a∈N3):a<667/\dE (bq w a)=true:=by
 have h1:=List.all_eq_true.mp La a h;rw[Bool.and_eq_true,Nat.blt_eq,Nat.blt_eq]at h1;refine⟨by exact aG (.t .A (.k 662) (.b .A (.k 667))) rfl h1.1,?_⟩
 rw[d0 w a h1.2,PF w (cH w) a h1.1];exact List.all_eq_true.mp (HJ w (cH w) (H5 w (cH w))) a h
theorem Ms(w:World)(a:Nat)(h:a∈N4):a<667/\dE (bq w a)=true:=by
 have h1:=List.all_eq_true.mp Lb a h;rw[Bool.and_eq_true,Nat.blt_eq,Nat.blt_eq]at h1;refine⟨by exact aG (.t .A (.k 667) (.b .A (.k 667))) rfl h1.1,?_⟩
 rw[d0 w a h1.2,Ui w (cH w) a h1.1];exact List.all_eq_true.mp (HK w (cH w) (H6 w (cH w))) a h
theorem Cv(w:World)(a:Nat)(h:a∈addrs):a<667/\dE (bq w a)=true:=by
 rcases List.mem_cons.mp h with rfl | h
 ·exact⟨by decide,wG w⟩
 rcases List.mem_cons.mp h with rfl | h
 ·exact⟨by decide,wH w⟩
 rcases List.mem_append.mp h with h | h
 ·exact Mm w a h
 rcases List.mem_append.mp h with h | h
 ·exact Mn w a h
 rcases List.mem_append.mp h with h | h
 ·exact Mo w a h
 rcases List.mem_append.mp h with h | h
 ·exact Mp w a h
 rcases List.mem_append.mp h with h | h
 ·exact Mq w a h
 rcases List.mem_append.mp h with h | h
 ·exact Mr w a h
 exact Ms w a h
theorem BJ(w:World)(a:Nat)(h:a∈addrs):(lS w (cH w)).abs.heap.get? a=some (bq w a):=by
 obtain⟨h1,h2⟩:=Cv w a h;exact(abs_get h1 (Ee w a h1)).trans (Bl h2)
noncomputable def KO(w:World):Frag:=addrs.map λa=>(a,bq w a)
noncomputable def eX:Hook where
 α:=List (Option Obj)
 obs s:=addrs.map s.heap.get?
 val w:=addrs.map λa=>some (bq w a)
 says w h:=(KO w).In h
 of w s e:=λa o h=>by
  have key:∀(l:List Nat),l.map s.heap.get? =l.map (λa=>some (bq w a))->List.lookup a (l.map λa=>(a,bq w a))=some o->s.heap.get? a=some o:=by
   intro l hl e
   induction l with
   | nil=>cases e
   | cons b l ih=>
    rw[List.map_cons,List.map_cons,List.cons.injEq]at hl;rw[List.map_cons,List.lookup_cons]at e;by_cases q:(a==b)=true
    ·rw[q]at e;cases e
     have:=beq_iff_eq.mp q;subst this;exact hl.1
    ·rw[Bool.not_eq_true]at q;rw[q]at e
     exact ih hl.2 e
  exact key addrs e h
 keeps w h h' x k:=λa o e=>k a o (x a o e)
theorem xN{tb:String->Option Builtin}{p:Program}{w:World}{N m:Nat}{ann:Option Value}{iD cy:Shared}(h1:(iD.heap.isNs mainGlobals&&iD.gens.size==0)=true)(h2:iD.heap.objs.size=m)(h3:iD.heap.nsMap mainGlobals "__annotations__"=ann)
  (h4:topRun tb p w m ann N iD (topStub p)=some cy) (h5:(staticsOk (importedModules p.main.body) iD.heap cy.heap&&namesBound p cy.heap&&gensDone cy&&laidKept iD.heap cy.heap)=true):topFrom tb p w N iD=some cy:=by
 subst h2 h3;unfold topFrom;rw[h1];dsimp only;rw[h4];show(match staticsOk (importedModules p.main.body) iD.heap cy.heap&&namesBound p cy.heap&&gensDone cy&&laidKept iD.heap cy.heap with | true=>some cy | false=>none)=some cy
 rw[h5]
theorem IK{p q:Program}{loose:List Str}{Xt:Shared->Bool}{α:Type}{Yf:Shared->α}{Ya:World->α}{w:World}{N:Nat}{iD cy:Shared}(h1:fencedOpening treeTable p w N=some iD)(h2:topFrom treeTable p w N iD=some cy)
  (h3:openSeen q loose (importedModules p.main.body) Xt true cy=openGood q loose) (h4:Yf cy=Ya w):(openEnds treeTable p w N).map (λs=>(openSeen q loose (importedModules p.main.body) Xt true s,Yf s))=some (openGood q loose,Ya w):=by
 unfold openEnds;rw[h1];show(topFrom treeTable p w N iD).map _=_;rw[h2];exact congrArg some (Prod.ext h3 h4)
theorem An:ju+(lN-ju)=lN:=by
 have:Nat.ble ju lN=true:=by kernel_rfl
 have:=Nat.le_of_ble_eq_true this;exact RV this
theorem FF(w:World)(os:OsState):topRun treeTable kh w 11 (some (.ref 6)) lN ⟨boot_heap w.params,Array.mk [],boot_drawn,boot_toks,os⟩ (topStub kh)=some (lS w os).abs:=by
 have r:=topRun_mono (lN-ju) _ _ _ _ (whole_run w os);rw[An]at r;exact r
theorem xD(w:World)(os:OsState):openSeen tq nJ (importedModules kh.main.body) (λs=>xlAt tq [] s&&recOk [] s) true (lS w os).abs=openGood tq nJ:=by
 have sn:=FG w os;rw[<-PySem.W.Fast.te4187177175401517315]at sn;exact sn
theorem I3(w:World):eX.obs (lS w (cH w)).abs=eX.val w:=List.map_congr_left λa h=>BJ w a h
theorem Ft{w:World}{s:Shared}(h:fencedOpening treeTable kh w lN=some s):cH w=s.os:=by unfold cH;rw[h]
theorem Ia(w:World):∃os,fencedOpening treeTable kh w lN=some ⟨boot_heap w.params,Array.mk [],boot_drawn,boot_toks,os⟩:=by
 obtain⟨⟨h,gs,d,k,os⟩,e,e'⟩:=Option.map_eq_some_iff.mp (opened w);simp only[Prod.mk.injEq]at e';obtain⟨rfl,rfl,rfl,rfl⟩:=e';exact⟨os,e⟩
theorem Ju(w:World)(os:OsState):topFrom treeTable kh w lN ⟨boot_heap w.params,Array.mk [],boot_drawn,boot_toks,os⟩=some (lS w os).abs:=
 xN (congrArg Prod.fst (m4 w)) (congrArg (λx=>x.2.1) (m4 w)) (congrArg (λx=>x.2.2) (m4 w)) (FF w os) (xG w os)
theorem Mk:LeftO kh tq nJ (λs=>xlAt tq [] s&&recOk [] s) eX.obs eX.val lN:=λw=>by
 obtain⟨os,hf⟩:=Ia w;have V9:cH w=os:=Ft hf;subst V9;exact IK hf (Ju w _) (xD w _) (I3 w)
theorem left:LeftO pw qv jE (λs=>xlAt qv [] s&&recOk [] s) eX.obs eX.val lN:=by
 have h:=Mk;unfold tq nJ fR at h;unfold qv jE u4;have e:pw=kh:=rfl;rw[e];exact h
end
end
section
noncomputable section
def iR:OpenRow:=PySem.Challenge.rw_sa0604_02.row
theorem z5:(defOf qv "law").isSome=true:=by kernel_rfl
noncomputable def lW:DefRec×List (Str×Expr):=(defOf qv "law").get z5
end
theorem well:PySem.Challenge.rw_sa0604_02.wellSaid=true:=by kernel_rfl
set_option tactic.hygienic true in
theorem reduce(call:WalkO qv jE (XL qv []) eX.says iR.toRowW lW.1 lW.2 λf vs=>PySem.call f vs):PySem.Challenge.rw_sa0604_02.Holds:=by
 refine holds_law well λTd=>?_
 show iR.Holds;refine PySem.W.holds_open (r:=iR) (q:=qv) (loose:=jE) (Xt:=λs=>xlAt qv [] s&&recOk [] s) (XP:=XL qv []) (Yf:=eX.obs) (Ya:=eX.val) (YP:=eX.says) (N:=lN) (d:=lW.1) (kwd:=lW.2) left eX.of eX.keeps (λs e=>xl_of s (Bool.and_eq_true_iff.mp e).1) XL.keeps ?a1 ?a2 ?a3 (λs e=>recFacts_of (Bool.and_eq_true_iff.mp e).2) ?a4 Td ?a5 ⟨rfl,rfl,rfl,rfl,rfl,?a6⟩ ?hw call
 case a1=>kernel_rfl
 case a2=>kernel_rfl
 case a3=>kernel_rfl
 case a4=>rfl
 case a5=>decide+kernel
 case a6=>decide+kernel
 case hw=>w_witness2
end
section
inductive V where
 | none | bool (b:Bool) | int (i:Int) | str (x:Str) | tup (l:List V)
 | lst(a:Addr) | qD (a:Addr) | inst (C d:Addr) | glob (v:Value) | Ag (a b:Int)
 deriving Inhabited
theorem mA(C d:Addr):∀w,V.inst C d≠.glob w:=λ_ h=>by cases h
theorem c5(a:Addr):∀w,V.lst a≠.glob w:=λ_ h=>by cases h
theorem bW(i:Int):∀w,V.int i≠.glob w:=λ_ h=>by cases h
theorem ia(x:Str):∀w,V.str x≠.glob w:=λ_ h=>by cases h
theorem tE(l:List V):∀w,V.tup l≠.glob w:=λ_ h=>by cases h
inductive AO where
 | list(l:List V)
 | dict(l:List (Str×V))
 deriving Inhabited
abbrev AH:=Addr->Option AO
abbrev Loc:=List (Str×V)
theorem f7{σ:AH}{x a:Addr}{d:List (Str×V)}{l:List V}(e:σ x=some (.dict d))(h:σ a=some (.list l)):x≠a:=λz=>by subst z;rw[h]at e;cases e
theorem vd{σ:AH}{x a:Addr}{d:List (Str×V)}{l:List V}(e:σ x=some (.list l))(h:σ a=some (.dict d)):x≠a:=(f7 h e).symm
noncomputable def AH.put(σ:AH)(a:Addr)(o:AO):AH:=λb=>if b=a then some o else σ b
theorem J3{α:Type}{f:α->V}{l:List α}{x:α}:some (AO.list (l.map f++[f x]))=some (AO.list ((l++[x]).map f)):=by rw[I0]
theorem AH.aa(σ:AH)(a:Addr)(o:AO):σ.put a o a=some o:=by exact if_pos rfl
theorem AH.ae(σ:AH){a b:Addr}(o:AO)(h:b≠a):σ.put a o b=σ b:=by simp[AH.put,h]
mutual
inductive ay(h:Heap):Value->V->Prop
 | none:ay h .none .none
 | bool(b:Bool):ay h (.bool b) (.bool b)
 | int(i:Int)(t:Tok):ay h (.int i t) (.int i)
 | str(x:Str)(t:Tok):ay h (.str x t) (.str x)
 | tup{a:Addr}{vs:Array Value}{l:List V}{n:Nat}(ho:IsT h a vs n)(hs:aE h vs.toList l):ay h (.ref a) (.tup l)
 | lst(a:Addr):ay h (.ref a) (.lst a)
 | qD(a:Addr):ay h (.ref a) (.qD a)
 | inst{x C d:Addr}(ho:h.get? x=some (instObj C d)):ay h (.ref x) (.inst C d)
 | glob(v:Value):ay h v (.glob v)
 | Ag{r:Addr}{a b:Int}{t u v:Tok}(ho:IsRange h r a b 1 t u v):ay h (.ref r) (.Ag a b)
inductive aE(h:Heap):List Value->List V->Prop
 | nil:aE h [] []
 | cons{u:Value}{v:V}{us:List Value}{vs:List V}(hv:ay h u v)(hs:aE h us vs):aE h (u::us) (v::vs)
end
inductive dk(h:Heap):List (Str×Value)->List (Str×V)->Prop
 | nil:dk h [] []
 | cons{k:Str}{u:Value}{v:V}{kvs:List (Str×Value)}{l:List (Str×V)}(hv:ay h u v)(hs:dk h kvs l):dk h ((k,u)::kvs) ((k,v)::l)
structure Cx where
 prog:Program
 w:World
 K:Frag
 p:Program
 loose:List Str
 mg:Str->Option Value
 mb:Str->Option Value
 h0:Heap
noncomputable def bodyOf{Q:Prop}{P:World->Shared->Shared->(Str->Option Value)->(Str->Option Value)->Prop}(_:Q=∀w s t mg mb,P w s t mg mb):World×Shared×Shared×(Str->Option Value)×(Str->Option Value)->Prop:=λx=>P x.1 x.2.1 x.2.2.1 x.2.2.2.1 x.2.2.2.2
noncomputable def yg:World×Shared×Shared×(Str->Option Value)×(Str->Option Value)->Prop:=bodyOf (Q:=WalkO qv jE (XL qv []) eX.says iR.toRowW lW.1 lW.2 λf vs=>PySem.call f vs) rfl
theorem vA:Nonempty (World×Shared×Shared×(Str->Option Value)×(Str->Option Value)):=by
 exact⟨⟨⟨λ_ _=>0,{ strHash:=λ_=>0,shareClass:=λ_=>0,mergeTok:=λt=>t,idOf:=λ_=>0,idOfShared:=λ_ _=>0,followText:=λ_=>false,idOfImm:=λ_=>0 }⟩,{},{},λ_=>none,λ_=>none⟩⟩
noncomputable def x0:World×Shared×Shared×(Str->Option Value)×(Str->Option Value):= @Classical.epsilon _ vA λx=>¬yg x
noncomputable def w:World:=x0.1
noncomputable def c:Cx:=⟨iR.toRowW.prog,w,KO w,qv,looseW qv jE,x0.2.2.2.1,x0.2.2.2.2,x0.2.2.1.heap⟩
abbrev UU{α β:Type}(f:α->β->Prop)(x:α×β):Prop:=f x.1 x.2
theorem yu{α:Type}{P:α->Prop}(ne:Nonempty α)(h:P (@Classical.epsilon α ne λx=>¬P x))(a:α):P a:=Classical.byContradiction λn=>(@Classical.epsilon_spec α (λx=>¬P x) ⟨a,n⟩) h
noncomputable def xx{α:Type}(Q:α->Prop)(d:α):α:= @Classical.epsilon α ⟨d⟩ λx=>¬Q x
theorem xa{α:Type}{Q:α->Prop}{d:α}(h:Q (xx Q d))(a:α):Q a:=yu ⟨d⟩ h a
theorem hK:c.K=KO w:=rfl
inductive jq(h:Heap)(a:Addr):AO->Prop
 | list{vs:Array Value}{n:Nat}{l:List V}(ho:IsL h a vs n)(hs:aE h vs.toList l):jq h a (.list l)
 | dict{kvs:List (Str×Value)}{l:List (Str×V)}(ho:h.DictOf (strKind c.prog c.w) a kvs)(hs:dk h kvs l):jq h a (.dict l)
noncomputable def Kt(o:Obj):Prop:=(∃vs n,o={ cls:=.type "tuple",dict:=none,data:=.seq vs n,slots:= #[] })\/(∃C d,o=instObj C d)\/∃fs,o={ cls:=.type "range",dict:=none,data:=.fields fs,slots:= #[] }
noncomputable def Loose(o:Obj):Prop:=¬Kt o
theorem cX{o:Obj}{es ep}(h:o.data=.dict es ep):Loose o:=by rintro (⟨_,_,rfl⟩ | ⟨_,_,rfl⟩ | ⟨_,rfl⟩)<;>cases h
theorem iS{o:Obj}{v}(h:o.data=.cell v):Loose o:=by rintro (⟨_,_,rfl⟩ | ⟨_,_,rfl⟩ | ⟨_,rfl⟩)<;>cases h
theorem eM{o:Obj}{t:String}(h:o.cls=.type t)(h1:t≠"tuple")(h2:t≠"range"):Loose o:=by rintro (⟨_,_,rfl⟩ | ⟨_,_,rfl⟩ | ⟨_,rfl⟩)<;>cases h<;>contradiction
theorem ay.keep{h h':Heap}(k:∀b o,h.get? b=some o->¬Loose o->h'.get? b=some o){u:Value}{v:V}(r:ay h u v):ay h' u v:=
 @ay.rec h (λu v _=>ay h' u v) (λus vs _=>aE h' us vs) .none .bool .int .str (λho _ ih=>.tup (k _ _ ho (λl=>l (.inl ⟨_,_,rfl⟩))) ih) .lst .qD (λho=>.inst (k _ _ ho (λl=>l (.inr (.inl ⟨_,_,rfl⟩))))) .glob (λho=>.Ag (k _ _ ho (λl=>l (.inr (.inr ⟨_,rfl⟩))))) .nil (λ_ _ a b=>.cons a b) u v r
theorem aE.keep{h h':Heap}(k:∀b o,h.get? b=some o->¬Loose o->h'.get? b=some o){us:List Value}{vs:List V}(r:aE h us vs):aE h' us vs:=
 @aE.rec h (λ_ _ _=>True) (λus vs _=>aE h' us vs) trivial (λ_=>trivial) (λ_ _=>trivial) (λ_ _=>trivial) (λ_ _ _=>trivial) (λ_=>trivial) (λ_=>trivial) (λ_=>trivial) (λ_=>trivial) (λ_=>trivial) .nil (λhv _ _ b=>.cons (hv.keep k) b) us vs r
theorem dk.keep{h h':Heap}(k:∀b o,h.get? b=some o->¬Loose o->h'.get? b=some o){es:List (Str×Value)}{l:List (Str×V)}(r:dk h es l):dk h' es l:=
 @dk.rec h (λes l _=>dk h' es l) .nil (λhv _ ih=>.cons (hv.keep k) ih) es l r
inductive VK(h:Heap)(a:Addr):Prop
 | mk(ob:Obj)(e:h.get? a=some ob)(l:Loose ob)
theorem jq.at{h:Heap}{a:Addr}{o:AO}(r:jq h a o):VK h a:=by
 cases r with
 | list ho _=>exact⟨_,ho,eM (t:="list") rfl (by decide) (by decide)⟩
 | dict hd _=>obtain⟨ob,_,_,ho,hx,_⟩:=hd;exact⟨ob,ho,eM (t:="dict") hx.1 (by decide) (by decide)⟩
theorem jq.keep{h h':Heap}{a:Addr}{o:AO}(k:∀b o,h.get? b=some o->¬Loose o->h'.get? b=some o)(e:∀ob,h.get? a=some ob->h'.get? a=some ob)(r:jq h a o):jq h' a o:=by
 cases r with
 | list ho hs=>exact .list (e _ ho) (hs.keep k)
 | dict hd hs=>obtain⟨ob,es,ep,ho,r⟩:=hd;exact .dict ⟨ob,es,ep,e _ ho,r⟩ (hs.keep k)
inductive KS(h:Heap)(u:Value)(l:List V):Prop
 | mk(a:Addr)(vs:Array Value)(n:Nat)(e:u=.ref a)(ho:IsT h a vs n)(hs:aE h vs.toList l)
inductive Ky(h:Heap)(u:Value)(C d:Addr):Prop
 | mk(x:Addr)(e:u=.ref x)(ho:h.get? x=some (instObj C d))
noncomputable def VI(h:Heap)(u:Value)(v:V):Prop:=match v with
 | .none=>u=.none
 | .bool b=>u=.bool b
 | .int i=>∃t,u=.int i t
 | .str x=>∃t,u=.str x t
 | .tup l=>KS h u l
 | .lst a=>u=.ref a
 | .qD a=>u=.ref a
 | .inst C d=>Ky h u C d
 | .glob w=>u=w
 | .Ag a b=>∃r t u' v,u=.ref r/\IsRange h r a b 1 t u' v
theorem ay.vi{h:Heap}{u:Value}{v:V}(r:ay h u v):VI h u v:=
 @ay.rec h (λu v _=>VI h u v) (λ_ _ _=>True) rfl (λ_=>rfl) (λ_ t=>⟨t,rfl⟩) (λ_ t=>⟨t,rfl⟩) (λho hs _=>⟨_,_,_,rfl,ho,hs⟩) (λ_=>rfl) (λ_=>rfl) (λho=>⟨_,rfl,ho⟩) (λ_=>rfl) (λho=>⟨_,_,_,_,rfl,ho⟩) trivial (λ_ _ _ _=>trivial) u v r
theorem aE.ind{h:Heap}{P:List Value->List V->Prop}(n:P [] [])(k:∀{u v us vs},ay h u v->aE h us vs->P us vs->P (u::us) (v::vs)){us:List Value}{vs:List V}(r:aE h us vs):P us vs:=
 @aE.rec h (λ_ _ _=>True) (λus vs _=>P us vs) trivial (λ_=>trivial) (λ_ _=>trivial) (λ_ _=>trivial) (λ_ _ _=>trivial) (λ_=>trivial) (λ_=>trivial) (λ_=>trivial) (λ_=>trivial) (λ_=>trivial) n (λhv hs _ b=>k hv hs b) us vs r
noncomputable def VJ(h:Heap)(us:List Value)(vs:List V):Prop:=match us,vs with
 | [],[]=>True
 | u::us,v::vs=>ay h u v/\aE h us vs
 | [],_::_=>False
 | _::_,[]=>False
theorem aE.vj{h:Heap}{us:List Value}{vs:List V}(r:aE h us vs):VJ h us vs:=aE.ind (P:=VJ h) trivial (λhv hs _=>⟨hv,hs⟩) r
theorem aE.nil_inv{h:Heap}{us:List Value}(r:aE h us []):us=[]:=by
 cases us with
 | nil=>rfl
 | cons u us=>exact r.vj.elim
inductive O4(h:Heap)(us:List Value)(v:V)(vs:List V):Prop
 | mk(u:Value)(Gi:List Value)(e:us=u::Gi)(r:ay h u v)(rs:aE h Gi vs)
theorem aE.cons_inv{h:Heap}{us:List Value}{v:V}{vs:List V}(r:aE h us (v::vs)):O4 h us v vs:=by
 cases us with
 | nil=>exact r.vj.elim
 | cons u us=>exact⟨u,us,rfl,r.vj.1,r.vj.2⟩
theorem aE.length{h:Heap}{us:List Value}{vs:List V}(r:aE h us vs):us.length=vs.length:=aE.ind (P:=λus vs=>us.length=vs.length) rfl (λ_ _ ih=>congrArg (· +1) ih) r
inductive Kx(h:Heap)(us:List Value)(i:Nat)(v:V):Prop
 | mk(u:Value)(e:us[i]? =some u)(r:ay h u v)
theorem aE.get{h:Heap}{us:List Value}{vs:List V}(r:aE h us vs){i:Nat}{v:V}(e:vs[i]? =some v):Kx h us i v:=
 aE.ind (P:=λus vs=>∀(i:Nat)(v:V),vs[i]? =some v->Kx h us i v) (λi v e=>by rw[List.getElem?_nil]at e;cases e) (λhv _ ih i v e=>by
  cases i with
  | zero=>exact⟨_,rfl,Option.some.inj e▸hv⟩
  | succ i=>obtain⟨u,a,b⟩:=ih i v e;exact⟨u,a,b⟩) r i v e
theorem aE.append{h:Heap}{us Gi:List Value}{vs TF:List V}(r:aE h us vs)(r':aE h Gi TF):aE h (us++Gi) (vs++TF):=aE.ind (P:=λus vs=>aE h (us++Gi) (vs++TF)) r' (λhv _ ih=>.cons hv ih) r
theorem aE.take{h:Heap}(n:Nat){us:List Value}{vs:List V}(r:aE h us vs):aE h (us.take n) (vs.take n):=
 aE.ind (P:=λus vs=>∀n,aE h (us.take n) (vs.take n)) (λn=>by rw[List.take_nil,List.take_nil];exact .nil) (λhv _ ih n=>by
  cases n with
  | zero=>exact .nil
  | succ n=>exact .cons hv (ih n)) r n
theorem aE.drop{h:Heap}(n:Nat){us:List Value}{vs:List V}(r:aE h us vs):aE h (us.drop n) (vs.drop n):=
 aE.ind (P:=λus vs=>∀n,aE h (us.drop n) (vs.drop n)) (λn=>by rw[List.drop_nil,List.drop_nil];exact .nil) (λhv hs ih n=>by
  cases n with
  | zero=>exact .cons hv hs
  | succ n=>exact ih n) r n
theorem aE.set{h:Heap}{us:List Value}{vs:List V}(r:aE h us vs)(i:Nat){u:Value}{v:V}(q:ay h u v):aE h (us.set i u) (vs.set i v):=
 aE.ind (P:=λus vs=>∀i,aE h (us.set i u) (vs.set i v)) (λ_=>.nil) (λhv hs ih i=>by
  cases i with
  | zero=>exact .cons q hs
  | succ i=>exact .cons hv (ih i)) r i
theorem aE.snoc{h:Heap}{us:List Value}{vs:List V}(r:aE h us vs){u:Value}{v:V}(q:ay h u v):aE h (us++[u]) (vs++[v]):=r.append (.cons q .nil)
theorem aE.reverse{h:Heap}{us:List Value}{vs:List V}(r:aE h us vs):aE h us.reverse vs.reverse:=
 aE.ind (P:=λus vs=>aE h us.reverse vs.reverse) .nil (λhv _ ih=>by rw[List.reverse_cons,List.reverse_cons];exact ih.snoc hv) r
structure Kq:Prop where
 oO:c.K.In c.h0
 top:TopRead c.p c.loose c.mg c.mb c.h0
 MC:c.h0.NoLimit
structure St(h:Heap)(σ:AH):Prop where
 fP:∀b o,c.h0.get? b=some o->h.get? b=some o
 objs:∀a o,σ a=some o->jq h a o
 new:∀a o,σ a=some o->c.h0.get? a=none
 lo:∀a o,σ a=some o->a≠1
 base:∃o,c.h0.get? 2=some o
 ok:Kq
theorem St.two{h:Heap}{σ:AH}(S:St h σ){a:Addr}(ha:h.objs.size<=a):a≠1:=by
 obtain⟨o,e⟩:=S.base;have:=Heap.lt_size (S.fP _ _ e);rintro rfl;exact absurd (Nat.lt_of_lt_of_le this ha) (by decide)
theorem St.oO{h:Heap}{σ:AH}(S:St h σ):c.K.In h:=S.ok.oO.keeps S.fP
theorem St.top{h:Heap}{σ:AH}(S:St h σ):TopRead c.p c.loose c.mg c.mb h:=S.ok.top.keeps S.fP
noncomputable def aw(env:Env):List Addr:=env.locals::env.cells.map (·.2)
noncomputable def eG(env:Env)(h:Heap)(x:Str)(u:Value):Prop:=
 (env.kindOf x=some .local/\∃m,h.Ns env.locals m/\m x=some u)\/
 ((env.kindOf x=some .cell\/env.kindOf x=some .free)/\∃a o,env.cells.lookup x=some a/\h.get? a=some o/\o.data=.cell (some u))
noncomputable def outs(O:List Env):List Addr:=O.map (·.locals)
structure lK(env e:Env)(h:Heap)(σ:AH):Prop where
 kind:e.scope.kind≠.module
 fr:e.frame=some e.locals
 away:e.locals∉aw env
 free:σ e.locals=none
 xg:c.h0.get? e.locals=none
 obj:∃o es n,h.get? e.locals=some o/\o.data=.dict es n
structure dh(O:List Env)(env:Env)(h:Heap)(σ:AH)(ρ:Loc):Prop where
 has:∀x v,ρ.lookup x=some v->∃u,eG env h x u/\ay h u v
 ns:∃m,h.Ns env.locals m
 sep:∀b∈aw env,σ b=none/\c.h0.get? b=none/\∃o,h.get? b=some o/\Loose o
 nodup:(aw env).Nodup
 cell:∀q∈env.cells,∃v,h.IsCell q.2 v
 kind:env.scope.kind=.function
 glob:env.globals=mainGlobals/\env.builtins=builtinsNs
 out:∀e∈O,lK env e h σ
structure Fm(O:List Env)(env:Env)(σ:AH)(h h':Heap)(af:AH):Prop where
 keep:∀b o,h.get? b=some o->σ b=none->b∉aw env->b∉outs O->h'.get? b=some o
 slots:∀b o,h.get? b=some o->b∈outs O->∃sl,h'.get? b=some { o with slots:=sl }
 iA:∀b o,h.get? b=some o->∃o',h'.get? b=some o'
 fresh:∀b o,af b=some o->σ b=none->h.get? b=none
theorem Fm.refl(O:List Env)(env:Env)(σ:AH)(h:Heap):Fm O env σ h h σ:=⟨λ_ _ e _ _ _=>e,λ_ o e _=>⟨o.slots,e⟩,λ_ o e=>⟨o,e⟩,λ_ _ e1 e2=>by rw[e1]at e2;cases e2⟩
section
variable{O:List Env}{env:Env}{σ af i4:AH}{h h' Ls:Heap}
theorem Fm.xo(a:Fm O env σ h h' af){b:Addr}(e:h'.get? b=none):h.get? b=none:=by
 cases q:h.get? b with
 | none=>rfl
 | some o=>obtain⟨o',e'⟩:=a.iA b o q;rw[e]at e';cases e'
theorem Fm.mu(a:Fm O env σ h h' af){b:Addr}{o:Obj}(e:h.get? b=some o)(n:σ b=none):af b=none:=by
 cases q:af b with
 | none=>rfl
 | some o'=>rw[a.fresh b o' q n]at e;cases e
theorem Fm.trans(a:Fm O env σ h h' af)(b:Fm O env af h' Ls i4):Fm O env σ h Ls i4:=by
 refine⟨λx o e n f g=>b.keep x o (a.keep x o e n f g) (a.mu e n) f g,λx o e m=>?_,λx o e=>?_,λx o e n=>?_⟩
 ·obtain⟨sl,e1⟩:=a.slots x o e m
  obtain⟨Jn,e2⟩:=b.slots x _ e1 m;exact⟨Jn,e2⟩
 ·obtain⟨o',e'⟩:=a.iA x o e;exact b.iA x o' e'
 ·cases q:af x with
  | none=>exact a.xo (b.fresh x o e q)
  | some o'=>exact a.fresh x o' q n
theorem dh.loose{ρ:Loc}(F:dh O env h σ ρ){b:Addr}(m:b∈outs O){o:Obj}(e:h.get? b=some o):Loose o:=by
 obtain⟨q,hq,rfl⟩:=List.mem_map.mp m;obtain⟨o',es,n,e1,e2⟩:=(F.out q hq).obj;rw[e]at e1;cases e1;exact cX e2
end
theorem gq{O:List Env}{env:Env}{σ af:AH}{h h':Heap}{ρ:Loc}(S:St h σ)(F:dh O env h σ ρ)(M:Fm O env σ h h' af):
  ∀b o,h.get? b=some o->¬Loose o->h'.get? b=some o:=λb o e n=>by
 refine M.keep b o e ?_ ?_ λm=>n (F.loose m e)
 ·cases q:σ b with
  | none=>rfl
  | some ao=>obtain⟨ob,e',l⟩:=(S.objs b ao q).at;rw[e]at e';cases e';exact absurd l n
 ·intro m
  obtain⟨_,_,ob,e',l⟩:=F.sep b m;rw[e]at e';cases e';exact absurd l n
theorem ay.step{O:List Env}{env:Env}{σ af:AH}{h h':Heap}{ρ:Loc}{u:Value}{v:V}(r:ay h u v)(S:St h σ)(F:dh O env h σ ρ)(M:Fm O env σ h h' af):ay h' u v:=r.keep (gq S F M)
theorem aE.step{O:List Env}{env:Env}{σ af:AH}{h h':Heap}{ρ:Loc}{u:List Value}{v:List V}(r:aE h u v)(S:St h σ)(F:dh O env h σ ρ)(M:Fm O env σ h h' af):aE h' u v:=r.keep (gq S F M)
structure NX where
 n:Nat
 X:Int->Loc->AH->Prop
noncomputable def cY(env:Env)(A:Around):List Env:=match A.frames with | some (e::O)=>if e.locals=env.locals then O else e::O | _=>[]
structure fp(env:Env)(A:Around)(n:NX):Prop where
 depth:A.depth+n.n<recursionLimit
 units:A.units+10*n.n<cLine
 hand:A.handled=none
 frames:(A.frames=some (env::cY env A)/\env.frame=some env.locals)\/(A.frames=some (cY env A)/\∀num ρ σ,¬n.X num ρ σ)
section
variable{env:Env}{A:Around}{n:NX}{m:Nat}
theorem fp.dep(r:fp env A n):A.depth<recursionLimit:=Nat.lt_of_le_of_lt (Nat.le_add_right _ _) r.depth
theorem fp.TC(r:fp env A n):A.units<cLine:=Nat.lt_of_le_of_lt (Nat.le_add_right _ _) r.units
theorem fp.less(r:fp env A n)(h:m<=n.n):fp env A ⟨m,n.X⟩:=⟨by have:=r.depth;exact aX (.t (.a .A .B) (.k 1000) (.l .C .B (.b (.a .A .C) (.k 1000)))) rfl this h,by have:=r.units;exact aX (.t (.a .A (.m 10 .B)) (.k 9900) (.l2 10 .C .B (.b (.a .A (.m 10 .C)) (.k 9900)))) rfl this h,r.hand,r.frames⟩
end
noncomputable def DU:Addr:=132
inductive ExcAt(B h:Heap)(e d:Addr):Option Value->Prop
 | made{oe:Obj}{vs:Array Value}(he:h.get? e=some oe)(hc:oe.cls=.ref DU)(hd:oe.dict=some d)(hf:oe.data=.fields vs)(h1:vs[1]? =some .none):ExcAt B h e d none
 | hZ{oe oT:Obj}{vs ts:Array Value}{T:Addr}{f:Value}(he:h.get? e=some oe)(hc:oe.cls=.ref DU)(hd:oe.dict=some d)(hf:oe.data=.fields vs)(h1:vs[1]? =some (.ref T))(hT:B.get? T=none)(ne:T≠e)(ht:h.get? T=some oT)(rQ:oT.data=.fields ts)(h3:ts[3]? =some f):ExcAt B h e d (some f)
noncomputable def Gr(B h:Heap)(e d:Addr)(env:Env):Prop:=ExcAt B h e d none\/ExcAt B h e d (some .none)\/ExcAt B h e d (some (rawInt env.locals))
structure Pb(O:List Env)(env:Env)(e d:Addr)(num:Int)(B h:Heap):Prop where
 bP:B.StaysIn h
 new:B.get? e=none
 fr:h.FunFrames B (env::O)
 at_:Gr B h e d env
 num:∃kvs u,B.DictOf (strKind c.prog c.w) d kvs/\kvs.lookup ("number":Str)=some u/\ay B u (.int num)
inductive aR(O:List Env)(env:Env)(σ:AH)(s:Shared){α β:Type}(R:Heap->α->β->Prop)(Q:β->Loc->AH->Prop)(u:α)(s':Shared):Prop
 | mk(h':Heap)(tk:Nat)(v:β)(ρ':Loc)(af:AH)(e:s'={ s with heap:=h',toks:=tk })(S:St h' af)(F:dh O env h' af ρ')(M:Fm O env σ s.heap h' af)(r:R h' u v)(q:Q v ρ' af)
structure Hx(O:List Env)(env:Env)(σ:AH)(h B h':Heap)(af:AH):Prop where
 keep:∀b o,h.get? b=some o->σ b=none->b∉aw env->b∉outs O->B.get? b=some o
 slots:∀b o,h.get? b=some o->b∈outs O->∃sl,h'.get? b=some { o with slots:=sl }
 iA:∀b o,h.get? b=some o->∃o',h'.get? b=some o'
 fresh:∀b o,af b=some o->σ b=none->h.get? b=none
structure uh(O:List Env)(env:Env)(B h:Heap)(σ:AH)(ρ:Loc):Prop where
 has:∀x v,ρ.lookup x=some v->∃u,eG env h x u/\ay B u v
 ns:∃m,h.Ns env.locals m
 sep:∀b∈aw env,σ b=none/\c.h0.get? b=none/\∃o,h.get? b=some o/\∀vs,o.data≠.fields vs
 nodup:(aw env).Nodup
 cell:∀q∈env.cells,∃v,h.IsCell q.2 v
 kind:env.scope.kind=.function
 glob:env.globals=mainGlobals/\env.builtins=builtinsNs
 out:∀e∈O,lK env e h σ
inductive EPost(O:List Env)(env:Env)(σ:AH)(s:Shared)(X:Int->Loc->AH->Prop)(x:Value)(s':Shared):Prop
 | mk(e d:Addr)(B h':Heap)(tk:Nat)(num:Int)(ρ':Loc)(af:AH)(hx:x=.ref e)(hs:s'={ s with heap:=h',toks:=tk })(S:St B af)(F:uh O env B h' af ρ')(Y:Pb O env e d num B h')(M:Hx O env σ s.heap B h' af)(q:X num ρ' af)
structure HP where
 p:Heap->Prop
 keep:∀h h':Heap,(∀b o,h.get? b=some o->¬Loose o->h'.get? b=some o)->p h->p h'
noncomputable def HP.top:HP:=⟨λ_=>True,λ_ _ _ _=>trivial⟩
noncomputable def HP.v(u:Value)(v:V):HP:=⟨λh=>ay h u v,λ_ _ k r=>r.keep k⟩
noncomputable def HP.vs(us:List Value)(vs:List V):HP:=⟨λh=>aE h us vs,λ_ _ k r=>r.keep k⟩
noncomputable def HP.and(a b:HP):HP:=⟨λh=>a.p h/\b.p h,λh h' k x=>⟨a.keep h h' k x.1,b.keep h h' k x.2⟩⟩
noncomputable def Tr(n:NX)(env:Env)(ρ:Loc)(σ:AH)(H:HP){α β:Type}(t:Sem α)(R:Heap->α->β->Prop)(Q:β->Loc->AH->Prop):Prop:=
 ∀(A:Around)(s:Shared),fp env A n->St s.heap σ->dh (cY env A) env s.heap σ ρ->H.p s.heap->wpAny (model c.prog c.w) A t (aR (cY env A) env σ s R Q) (EPost (cY env A) env σ s n.X) s
variable{O:List Env}
noncomputable def Ex(n:NX)(env:Env)(e:Expr)(ρ:Loc)(σ:AH)(Q:V->Loc->AH->Prop):Prop:=Tr n env ρ σ .top (eval e env) ay Q
noncomputable def rt(n:NX)(env:Env)(es:List Expr)(ρ:Loc)(σ:AH)(Q:List V->Loc->AH->Prop):Prop:=∀pos,Tr n env ρ σ .top (spliced (backTo pos (starEach es env))) aE Q
theorem aR.trans{env:Env}{σ:AH}{s:Shared}{α β:Type}{R:Heap->α->β->Prop}{Q:β->Loc->AH->Prop}{h':Heap}{tk:Nat}{af:AH}(M:Fm O env σ s.heap h' af){u:α}{s':Shared}
  (p:aR O env af { s with heap:=h',toks:=tk } R Q u s'):aR O env σ s R Q u s':=by
 obtain⟨h2,oh,v,d5,bU,rfl,S,F,M2,r,q⟩:=p;exact⟨h2,oh,v,d5,bU,rfl,S,F,M.trans M2,r,q⟩
theorem EPost.trans{env:Env}{σ:AH}{s:Shared}{X:Int->Loc->AH->Prop}{h':Heap}{tk:Nat}{af:AH}(M:Fm O env σ s.heap h' af){u:Value}{s':Shared}
  (p:EPost O env af { s with heap:=h',toks:=tk } X u s'):EPost O env σ s X u s':=by
 obtain⟨e,d,B,h2,oh,num,d5,bU,rfl,rfl,S,F,Y,M2,q⟩:=p;refine⟨e,d,B,h2,oh,num,d5,bU,rfl,rfl,S,F,Y,⟨λb o e n f g=>M2.keep b o (M.keep b o e n f g) (M.mu e n) f g,λb o e m=>?_,λb o e=>?_,λb o e n=>?_⟩,q⟩
 ·obtain⟨sl,e1⟩:=M.slots b o e m
  obtain⟨Jn,e2⟩:=M2.slots b _ e1 m;exact⟨Jn,e2⟩
 ·obtain⟨o',e'⟩:=M.iA b o e;exact M2.iA b o' e'
 ·cases q:af b with
  | none=>exact M.xo (M2.fresh b o e q)
  | some o'=>exact M.fresh b o' q n
theorem aR.here{env:Env}{σ af:AH}{ρ:Loc}{s:Shared}{α β:Type}{R:Heap->α->β->Prop}{Q:β->Loc->AH->Prop}{u:α}{v:β}{h':Heap}{tk:Nat}(S:St h' af)(F:dh O env h' af ρ)(M:Fm O env σ s.heap h' af)(r:R h' u v)(q:Q v ρ af):
  aR O env σ s R Q u { s with heap:=h',toks:=tk }:=⟨h',tk,v,ρ,af,rfl,S,F,M,r,q⟩
theorem aR.bP{env:Env}{σ:AH}{ρ:Loc}{s:Shared}{α β:Type}{R:Heap->α->β->Prop}{Q:β->Loc->AH->Prop}{u:α}{v:β}{tk:Nat}(S:St s.heap σ)(F:dh O env s.heap σ ρ)(r:R s.heap u v)(q:Q v ρ σ):
  aR O env σ s R Q u { s with toks:=tk }:=⟨s.heap,tk,v,ρ,σ,rfl,S,F,.refl ..,r,q⟩
section
variable{n:NX}{env:Env}{ρ:Loc}{σ:AH}{H:HP}{α β γ δ:Type}{R:Heap->α->β->Prop}{R':Heap->γ->δ->Prop}
theorem Tr.go{ρ':Loc}{af:AH}{t:Sem α}{Q:β->Loc->AH->Prop}
  (h:Tr n env ρ' af H t R Q) {A:Around} {s:Shared} {h':Heap} {tk:Nat} (hA:fp env A n) (M:Fm (cY env A) env σ s.heap h' af) (S:St h' af) (F:dh (cY env A) env h' af ρ') (hH:H.p h'):
  wpAny (model c.prog c.w) A t (aR (cY env A) env σ s R Q) (EPost (cY env A) env σ s n.X) { s with heap:=h',toks:=tk }:=
 wpAny_mono (h A { s with heap:=h',toks:=tk } hA S F hH) (λ_ _ z=>z.trans M) λ_ _ z=>z.trans M
theorem Tr.mono{t:Sem α}{Q Q':β->Loc->AH->Prop}(h:Tr n env ρ σ H t R Q)(k:∀v ρ' af,Q v ρ' af->Q' v ρ' af):Tr n env ρ σ H t R Q':=
 λA s hA S F hH=>wpAny_mono (h A s hA S F hH) (λ_ _ ⟨h',tk,v,ρ',af,e,S',F',M,r,q⟩=>⟨h',tk,v,ρ',af,e,S',F',M,r,k v ρ' af q⟩) λ_ _ x=>x
theorem Tr.with{t:Sem α}{Q:β->Loc->AH->Prop}{H':HP}(h:Tr n env ρ σ H t R Q)(k:∀h,H'.p h->H.p h):Tr n env ρ σ H' t R Q:=λA s hA S F hH=>h A s hA S F (k _ hH)
theorem Tr.w0{t:Sem α}{Q:β->Loc->AH->Prop}(h:Tr n env ρ σ .top t R Q):Tr n env ρ σ H t R Q:=h.with λ_ _=>trivial
theorem Tr.w1{t:Sem α}{Q:β->Loc->AH->Prop}{G:HP}(h:Tr n env ρ σ G t R Q):Tr n env ρ σ (G.and H) t R Q:=h.with λ_ x=>x.1
theorem Tr.w2{t:Sem α}{Q:β->Loc->AH->Prop}{G G':HP}(h:Tr n env ρ σ (G.and G') t R Q):Tr n env ρ σ (G'.and (G.and H)) t R Q:=h.with λ_ x=>⟨x.2.1,x.1⟩
theorem Tr.w3{t:Sem α}{Q:β->Loc->AH->Prop}{G G' G2:HP}(h:Tr n env ρ σ (G.and G') t R Q):Tr n env ρ σ (G'.and (G2.and (G.and H))) t R Q:=h.with λ_ x=>⟨x.2.2.1,x.1⟩
theorem Tr.GC{t:Sem α}{Q:β->Loc->AH->Prop}{G:HP}(h:Tr n env ρ σ H t R Q):Tr n env ρ σ (G.and H) t R Q:=h.with λ_ x=>x.2
theorem Tr.bind{m:Sem α}{f:α->Sem γ}{Q:δ->Loc->AH->Prop}(G:α->β->HP)(hG:∀h u v,R h u v->(G u v).p h)
  (h:Tr n env ρ σ H m R (λv ρ' af=>∀u,Tr n env ρ' af ((G u v).and H) (f u) R' Q)):Tr n env ρ σ H (m >>=f) R' Q:=λA s hA S F hH=>by
 refine wpAny_bind (wpAny_mono (h A s hA S F hH) (λu s' p=>?_) λ_ _ x=>x)
 obtain⟨h',tk,v,ρ',af,rfl,S',F',M,r,q⟩:=p;exact(q u).go hA M S' F' ⟨hG _ _ _ r,H.keep _ _ (gq S F M) hH⟩
end
section
variable{n:NX}{env:Env}{ρ:Loc}{σ:AH}{H:HP}{α β:Type}{R:Heap->α->β->Prop}{Q:β->Loc->AH->Prop}
theorem Tr.ir{m:Sem Value}{f:Value->Sem α}(h:Tr n env ρ σ H m ay (λv ρ' af=>∀u,Tr n env ρ' af ((HP.v u v).and H) (f u) R Q)):Tr n env ρ σ H (m >>=f) R Q:=Tr.bind HP.v (λ_ _ _ r=>r) h
noncomputable def kG{α:Type}:Heap->α->α->Prop:=λ_ a b=>a=b
theorem Tr.nP{γ:Type}{m:Sem γ}{f:γ->Sem α}(h:Tr n env ρ σ H m kG (λv ρ' af=>Tr n env ρ' af H (f v) R Q)):Tr n env ρ σ H (m >>=f) R Q:=
 Tr.bind (R:=kG) (λu v=>⟨λ_=>u=v,λ_ _ _ e=>e⟩) (λ_ _ _ r=>r) (h.mono λv ρ' af q u A s hA S F hH=>by obtain⟨e,hH⟩:=hH;cases e;exact q A s hA S F hH)
theorem Tr.standAt{p:Pos}{t:Unit->Sem α}(h:Tr n env ρ σ H (t ()) R Q):Tr n env ρ σ H (PySem.standAt p >>=t) R Q:=λA s hA S F hH=>wpAny_bind (wpAny_standAt (h A s hA S F hH))
theorem Tr.holding{vs:List Value}{t:Sem α}(h:Tr n env ρ σ H t R Q):Tr n env ρ σ H (PySem.holding vs t) R Q:=λA s hA S F hH=>wpAny_holding (h A s hA S F hH)
theorem Tr.release{vs ks:List Value}{t:Unit->Sem α}(h:Tr n env ρ σ H (t ()) R Q):Tr n env ρ σ H (PySem.release vs ks >>=t) R Q:=λA s hA S F hH=>wpAny_bind (wpAny_release (h A s hA S F hH))
theorem Tr.pure{u:α}{v:β}(r:∀h,H.p h->R h u v)(q:Q v ρ σ):Tr n env ρ σ H (Pure.pure u) R Q:=λ_ s _ S F hH=>wpAny_pure (aR.bP (tk:=s.toks) S F (r _ hH) q)
theorem Tr.eq{t t':Sem α}(e:t=t')(h:Tr n env ρ σ H t' R Q):Tr n env ρ σ H t R Q:=e▸h
end
section
variable{n:NX}{env:Env}{ρ:Loc}{σ:AH}{H:HP}{β:Type}{R:Heap->Value->β->Prop}{Q:β->Loc->AH->Prop}
theorem Tr.operate{vs:List Value}{t:Sem Value}(h:Tr n env ρ σ H t R Q):Tr n env ρ σ H (PySem.operate vs t) R Q:=λA s hA S F hH=>wpAny_operateT (h A s hA S F hH)
end
section
variable{env:Env}{σ:AH}{ρ:Loc}{h h':Heap}
theorem eG.ext{x:Str}{u:Value}(k:∀b o,h.get? b=some o->h'.get? b=some o):eG env h x u->eG env h' x u
 | .inl ⟨hl,m,hn,hv⟩=>.inl ⟨hl,m,hn.keeps k,hv⟩
 | .inr ⟨hk,a,o,hc,ho,hd⟩=>.inr ⟨hk,a,o,hc,k _ _ ho,hd⟩
theorem St.ext(S:St h σ)(k:∀b o,h.get? b=some o->h'.get? b=some o):St h' σ:=
 ⟨λb o e=>k b o (S.fP b o e),λa o e=>by obtain⟨ob,e1,_⟩:=(S.objs a o e).at;exact(S.objs a o e).keep (λb o e _=>k b o e) (k a),S.new,S.lo,S.base,S.ok⟩
theorem IsCell.keep{a:Addr}(k:∀o,h.get? a=some o->h'.get? a=some o):(∃v,h.IsCell a v)->∃v,h'.IsCell a v:=λ⟨v,o,ho,hd⟩=>⟨v,o,k o ho,hd⟩
theorem lK.keep{e:Env}{af:AH}(x:lK env e h σ)(k:∀o,h.get? e.locals=some o->∃sl,h'.get? e.locals=some { o with slots:=sl })(n:af e.locals=none):lK env e h' af:=
 ⟨x.kind,x.fr,x.away,n,x.xg,by obtain⟨o,es,m,e1,e2⟩:=x.obj;obtain⟨sl,e3⟩:=k o e1;exact⟨_,es,m,e3,e2⟩⟩
theorem dh.ext{af:AH}(F:dh O env h σ ρ)(k:∀b o,h.get? b=some o->h'.get? b=some o)(Md:∀b∈aw env,af b=none)(hO:∀e∈O,af e.locals=none):dh O env h' af ρ:=
 ⟨λx v e=>let ⟨u,hu,r⟩:=F.has x v e;⟨u,hu.ext k,r.keep λb o e _=>k b o e⟩,let ⟨m,hm⟩:=F.ns;⟨m,hm.keeps k⟩,λb hb=>let ⟨_,e2,o,e3,e4⟩:=F.sep b hb;⟨Md b hb,e2,o,k _ _ e3,e4⟩,F.nodup,λq hq=>IsCell.keep (k q.2) (F.cell q hq),F.kind,F.glob,λe he=>(F.out e he).keep (λo z=>⟨o.slots,k _ _ z⟩) (hO e he)⟩
theorem dh.ext'(F:dh O env h σ ρ)(k:∀b o,h.get? b=some o->h'.get? b=some o):dh O env h' σ ρ:=F.ext k (λb hb=>(F.sep b hb).1) λe he=>(F.out e he).free
theorem Fm.ext(k:∀b o,h.get? b=some o->h'.get? b=some o):Fm O env σ h h' σ:=⟨λb o e _ _ _=>k b o e,λb o e _=>⟨o.slots,k b o e⟩,λb o e=>⟨o,k b o e⟩,λb o e1 e2=>by rw[e1]at e2;cases e2⟩
theorem St.gE(S:St h σ)(k:∀b o,h.get? b=some o->h'.get? b=some o){a:Addr}{ao:AO}(ha:h.get? a=none)(LP:a≠1)(r:jq h' a ao):St h' (σ.put a ao):=by
 have S':=S.ext k;refine⟨S'.fP,λb o e=>?_,λb o e=>?_,λb o e=>?_,S.base,S.ok⟩
 rotate_left 2
 ·by_cases q:b=a
  ·rw[q];exact LP
  ·rw[AH.ae _ _ q]at e;exact S.lo b o e
 rotate_right 2
 ·by_cases q:b=a
  ·subst q;rw[AH.aa]at e;cases e;exact r
  ·rw[AH.ae _ _ q]at e;exact S'.objs b o e
 ·by_cases q:b=a
  ·subst q
   cases z:c.h0.get? b with
   | none=>rfl
   | some o'=>rw[S.fP b o' z]at ha;cases ha
  ·rw[AH.ae _ _ q]at e;exact S'.new b o e
theorem dh.gE(F:dh O env h σ ρ)(k:∀b o,h.get? b=some o->h'.get? b=some o){a:Addr}{ao:AO}(ha:h.get? a=none):dh O env h' (σ.put a ao) ρ:=
 F.ext k (λb hb=>by
  obtain⟨e1,_,o,e3,_⟩:=F.sep b hb;rw[AH.ae];exact e1;rintro rfl;rw[ha]at e3;cases e3) λe he=>by
  have x:=F.out e he;obtain⟨o,_,_,e3,_⟩:=x.obj;rw[AH.ae];exact x.free;intro z;rw[z,ha]at e3;cases e3
theorem Fm.gE(k:∀b o,h.get? b=some o->h'.get? b=some o){a:Addr}{ao:AO}(ha:h.get? a=none):Fm O env σ h h' (σ.put a ao):=
 ⟨λb o e _ _ _=>k b o e,λb o e _=>⟨o.slots,k b o e⟩,λb o e=>⟨o,k b o e⟩,λb o e1 e2=>by
  by_cases q:b=a
  ·subst q;exact ha
  ·rw[AH.ae _ _ q]at e1;rw[e1]at e2;cases e2⟩
theorem bz{a:Addr}(ha:h.objs.size<=a):h.get? a=none:=by
 cases z:h.get? a with
 | none=>rfl
 | some o=>exact absurd (Heap.lt_size z) (Nat.not_lt.mpr ha)
theorem cb{a:Addr}{ao:AO}(r0:jq h a ao)(sb:Heap.SameBut a h h'):∀b o,h.get? b=some o->¬Loose o->h'.get? b=some o:=λb o e n=>by
 by_cases q:b=a
 ·subst q;obtain⟨ob,e1,l⟩:=r0.at;rw[e]at e1;cases e1;exact absurd l n
 ·exact(sb.2 b q).trans e
theorem St.update(S:St h σ){a:Addr}{ao Du:AO}(ha:σ a=some ao)(sb:Heap.SameBut a h h')(r:jq h' a Du):St h' (σ.put a Du):=by
 refine⟨λb o e=>?_,λb o e=>?_,λb o e=>?_,λb o e=>?_,S.base,S.ok⟩
 rotate_left 3
 ·by_cases q:b=a
  ·rw[q];exact S.lo a ao ha
  ·rw[AH.ae _ _ q]at e;exact S.lo b o e
 rotate_right 3
 ·by_cases q:b=a
  ·subst q;rw[S.new b ao ha]at e;cases e
  ·exact(sb.2 b q).trans (S.fP b o e)
 ·by_cases q:b=a
  ·subst q;rw[AH.aa]at e;cases e;exact r
  ·rw[AH.ae _ _ q]at e;exact(S.objs b o e).keep (cb (S.objs a ao ha) sb) (λob e=>(sb.2 b q).trans e)
 ·by_cases q:b=a
  ·subst q;exact S.new b ao ha
  ·rw[AH.ae _ _ q]at e;exact S.new b o e
theorem eG.sameBut{a:Addr}{x:Str}{u:Value}(sb:Heap.SameBut a h h')(n:a∉aw env):eG env h x u->eG env h' x u
 | .inl ⟨hl,m,hn,hv⟩=>.inl ⟨hl,m,hn.sameBut sb (λe=>n (by rw[<-e];exact .head _)),hv⟩
 | .inr ⟨hk,b,o,hc,ho,hd⟩=>.inr ⟨hk,b,o,hc,(sb.2 b (λe=>n (by
   rw[<-e];refine .tail _ (List.mem_map.mpr ⟨(x,b),?_,rfl⟩);have:=List.lookup_eq_some_iff.mp hc;obtain⟨l1,l2,e1,_⟩:=this;rw[e1];exact iy))).trans ho,hd⟩
theorem dh.update(S:St h σ)(F:dh O env h σ ρ){a:Addr}{ao Du:AO}(ha:σ a=some ao)(sb:Heap.SameBut a h h'):dh O env h' (σ.put a Du) ρ:=by
 have nf:a∉aw env:=λm=>by rw[(F.sep a m).1]at ha;cases ha
 refine⟨λx v e=>?_,?_,λb hb=>?_,F.nodup,λq hq=>IsCell.keep (λo e=>(sb.2 q.2 λz=>nf (by rw[<-z];exact .tail _ (List.mem_map_of_mem hq))).trans e) (F.cell q hq),F.kind,F.glob,λe he=>?_⟩
 rotate_right
 ·have x:=F.out e he
  have q:e.locals≠a:=λz=>by have:=x.free;rw[z,ha]at this;cases this
  exact x.keep (λo z=>⟨o.slots,(sb.2 _ q).trans z⟩) (by rw[AH.ae _ _ q];exact x.free)
 ·obtain⟨u,hu,r⟩:=F.has x v e
  exact⟨u,hu.sameBut sb nf,r.keep (cb (S.objs a ao ha) sb)⟩
 ·obtain⟨m,hm⟩:=F.ns;exact⟨m,hm.sameBut sb λe=>nf (by rw[<-e];exact .head _)⟩
 ·obtain⟨e1,e2,o,e3,e4⟩:=F.sep b hb
  have q:b≠a:=λe=>nf (e▸hb)
  exact⟨by rw[AH.ae _ _ q];exact e1,e2,o,(sb.2 b q).trans e3,e4⟩
theorem dh.MR(F:dh O env h σ ρ){a:Addr}{ao:AO}(ha:σ a=some ao){b:Addr}(m:b∈outs O):b≠a:=by
 obtain⟨e,he,rfl⟩:=List.mem_map.mp m;intro z;have:=(F.out e he).free;rw[z,ha]at this;cases this
theorem Fm.update(F:dh O env h σ ρ){a:Addr}{ao Du:AO}(ha:σ a=some ao)(sb:Heap.SameBut a h h')(ro:jq h' a Du):Fm O env σ h h' (σ.put a Du):=
 ⟨λb o e n _ _=>(sb.2 b (λq=>by rw[q,ha]at n;cases n)).trans e,λb o e m=>⟨o.slots,(sb.2 b (F.MR ha m)).trans e⟩,λb o e=>by
  by_cases q:b=a
  ·subst q;obtain⟨ob,e',_⟩:=ro.at;exact⟨ob,e'⟩
  ·exact⟨o,(sb.2 b q).trans e⟩,λb o e1 e2=>by
  by_cases q:b=a
  ·subst q;rw[ha]at e2;cases e2
  ·rw[AH.ae _ _ q]at e1;rw[e1]at e2;cases e2⟩
theorem aR.extend{s:Shared}{α β:Type}{R:Heap->α->β->Prop}{Q:β->Loc->AH->Prop}{u:α}{v:β}{tk:Nat}(S:St s.heap σ)(F:dh O env s.heap σ ρ)(k:∀b o,s.heap.get? b=some o->h'.get? b=some o)(z:s.heap.objs.size<=h'.objs.size)(r:R h' u v)(q:Q v ρ σ):
  aR O env σ s R Q u { s with heap:=h',toks:=tk }:=⟨h',tk,v,ρ,σ,rfl,S.ext k,F.ext' k,.ext k,r,q⟩
theorem aR.new{s:Shared}{α β:Type}{R:Heap->α->β->Prop}{Q:β->Loc->AH->Prop}{u:α}{v:β}{tk:Nat}(S:St s.heap σ)(F:dh O env s.heap σ ρ)(k:∀b o,s.heap.get? b=some o->h'.get? b=some o)(z:s.heap.objs.size<=h'.objs.size){a:Addr}{ao:AO}(ha:s.heap.objs.size<=a)(ro:jq h' a ao)(r:R h' u v)(q:Q v ρ (σ.put a ao)):
  aR O env σ s R Q u { s with heap:=h',toks:=tk }:=⟨h',tk,v,ρ,_,rfl,S.gE k (bz ha) (S.two ha) ro,F.gE k (bz ha),.gE k (bz ha),r,q⟩
theorem aR.upd{s:Shared}{α β:Type}{R:Heap->α->β->Prop}{Q:β->Loc->AH->Prop}{u:α}{v:β}{tk:Nat}(S:St s.heap σ)(F:dh O env s.heap σ ρ){a:Addr}{ao Du:AO}(ha:σ a=some ao)(sb:Heap.SameBut a s.heap h')(ro:jq h' a Du)(r:R h' u v)(q:Q v ρ (σ.put a Du)):
  aR O env σ s R Q u { s with heap:=h',toks:=tk }:=⟨h',tk,v,ρ,_,rfl,S.update ha sb ro,F.update S ha sb,.update F ha sb ro,r,q⟩
end
theorem aO{h:Heap}(o:Obj):∀b o',h.get? b=some o'->(h.push o).get? b=some o':=λ_ _ e=>Heap.get?_push_of_some _ e
theorem push_size{h:Heap}(o:Obj):h.objs.size<=(h.push o).objs.size:=by rw[Heap.size_push];exact Nat.le_succ _
end
section
section
variable{O:List Env}
theorem pK(o:Obj)(f:Array Value->Array Value):(o.mapFields f).dict=o.dict:=by
 obtain⟨c,d,dt,sl⟩:=o;cases dt<;>rfl
structure i7(h h':Heap):Prop where
 slots:h.UpToSlots h'
 iA:∀b o,h.get? b=some o->∃o',h'.get? b=some o'
theorem i7.trans{h h' Ls:Heap}(x:i7 h h')(y:i7 h' Ls):i7 h Ls:=⟨x.slots.trans y.slots,λb o e=>by obtain⟨o',e'⟩:=x.iA b o e;exact y.iA b o' e'⟩
theorem lK.jM{e env:Env}{h h':Heap}{σ:AH}(x:lK env e h σ)(t:i7 h h'):lK env e h' σ:=by
 obtain⟨o,es,n,e1,e2⟩:=x.obj;obtain⟨sl,e3⟩:=t.slots _ o e1 λvs q=>by rw[e2]at q;cases q
 exact⟨x.kind,x.fr,x.away,x.free,x.xg,_,es,n,e3,e2⟩
theorem eG.jM{env:Env}{h h':Heap}{x:Str}{u:Value}(t:i7 h h'):eG env h x u->eG env h' x u
 | .inl ⟨hl,m,hn,hv⟩=>.inl ⟨hl,m,t.slots.ns hn,hv⟩
 | .inr ⟨hk,a,o,hc,ho,hd⟩=>by
  obtain⟨sl,e⟩:=t.slots a o ho λvs q=>by rw[hd]at q;cases q
  exact .inr ⟨hk,a,_,hc,e,hd⟩
theorem uh.jM{env:Env}{B h h':Heap}{σ:AH}{ρ:Loc}(F:uh O env B h σ ρ)(t:i7 h h'):uh O env B h' σ ρ:=by
 refine⟨λx v e=>?_,?_,λb hb=>?_,F.nodup,λq hq=>?_,F.kind,F.glob,λe he=>(F.out e he).jM t⟩
 ·obtain⟨u,hu,r⟩:=F.has x v e;exact⟨u,hu.jM t,r⟩
 ·obtain⟨m,hm⟩:=F.ns;exact⟨m,t.slots.ns hm⟩
 ·obtain⟨e1,e2,o,e3,e4⟩:=F.sep b hb
  obtain⟨sl,e5⟩:=t.slots b o e3 e4;exact⟨e1,e2,_,e5,e4⟩
 ·obtain⟨v,o,ho,hd⟩:=F.cell q hq
  obtain⟨sl,e⟩:=t.slots _ o ho λvs q=>by rw[hd]at q;cases q
  exact⟨v,_,e,hd⟩
theorem Hx.jM{env:Env}{B h h1 h':Heap}{σ af:AH}{ρ:Loc}(M:Hx O env σ h B h1 af)(F:uh O env B h1 af ρ)(t:i7 h1 h'):Hx O env σ h B h' af:=by
 refine⟨M.keep,λb o e m=>?_,λb o e=>?_,M.fresh⟩
 ·obtain⟨sl,e1⟩:=M.slots b o e m
  obtain⟨q,hq,rfl⟩:=List.mem_map.mp m;obtain⟨o',es,n,f1,f2⟩:=(F.out q hq).obj;rw[e1]at f1;cases f1;obtain⟨Jn,e2⟩:=t.slots _ _ e1 λvs q=>by rw[f2]at q;cases q
  exact⟨Jn,e2⟩
 ·obtain⟨o',e'⟩:=M.iA b o e;exact t.iA b o' e'
section
variable{M:Model}{A:Around}{E:Value->Shared->Prop}{s:Shared}{B:Heap}{env:Env}{e d:Addr}{Q:Unit->Shared->Prop}
theorem rK{oe:Obj}{vs:Array Value}{head:Value}{Eh:Bool}(wd:A.frames=some (env::O))(hf:env.frame=some env.locals)(hs:B.StaysIn s.heap)(hn:B.get? e=none)(hl:s.heap.FunFrames B (env::O))
  (he:s.heap.get? e=some oe) (hc:oe.cls=.ref DU) (hi:oe.dict=some d) (hd:oe.data=.fields vs) (h1:1<vs.size)
  (hQ:∀h',ExcAt B h' e d (some (rawInt env.locals))->B.StaysIn h'->h'.FunFrames B (env::O)->i7 s.heap h'->Q () { s with heap:=h' }):
  wpAny M A (do let a <-frameOf env;let pl <-entryPlaceOf env.locals Eh;let b <-EntryCells.newEntry head a .none (rawInt env.locals) .none pl;setField (.ref e) 1 b) Q E s:=by
 have MD:e∉(env::O).filterMap (·.frame):=λhm=>by
  obtain⟨_,o,ho,QD⟩:=hl.mem hm;rw[he]at ho;cases ho;exact QD vs hd
 refine wpAny_bind (wpAny_frameOf_fun wd hl hf λg sg=>wpAny_bind (wpAny_entryPlaceOf λpl tZ=>?_))
 unfold EntryCells.newEntry newFields;refine wpAny_bind (wpAny_newObj_type ?_ (tZ.sizeOk5 _ _ _ _ _));have Ou:g.get? e=some oe:=(sg.2.1 e MD).trans he;have kb:B.StaysIn g:=λb o hb=>(sg.2.1 b λhm=>by rw[(hl.mem hm).1]at hb;cases hb).trans (hs b o hb)
 generalize kQ:({ cls:=.type "traceback",dict:=none,data:=.fields ([head,Value.ref env.locals,.none,rawInt env.locals,.none]++(if pl.isEmpty then List.replicate 6 Value.none else pl)).toArray,slots:= #[] }:Obj)=ob
 have QI:∃ts,ob.data=.fields ts/\ts[3]? =some (rawInt env.locals):=⟨_,by rw[<-kQ],by rfl⟩
 have QD:ob.isFreed=false:=by rw[<-kQ];rfl
 dsimp only;have jb:=Heap.get?_push_of_some (h:=g) ob Ou;have hT:(g.push ob).get? g.objs.size=some ob:=Heap.get?_push_size _ QD;refine wpAny_setField jb hd h1 ?_;have neT:g.objs.size≠e:=Nat.ne_of_gt (Heap.lt_size Ou);have Dx:=Obj.data_mapFields hd (·.setIfInBounds 1 (Value.ref g.objs.size))
 have Ov:=Heap.get?_update_self (Obj.mapFields (·.setIfInBounds 1 (Value.ref g.objs.size))) jb (Obj.isFreed_of_fields Dx)
 have ot:∀b,b≠e->((g.push ob).update e (Obj.mapFields (·.setIfInBounds 1 (Value.ref g.objs.size)))).get? b=(g.push ob).get? b:=λb hb=>Heap.get?_update_other _ _ hb.symm
 have kp:∀b o,b≠e->g.get? b=some o->((g.push ob).update e (Obj.mapFields (·.setIfInBounds 1 (Value.ref g.objs.size)))).get? b=some o:=λb o hb ho=>(ot b hb).trans (Heap.get?_push_of_some _ ho)
 have Vk:∀b o,s.heap.get? b=some o->(∀vs,o.data≠.fields vs)->b≠e:=λb o hb hv q=>by
  rw[q,he]at hb;cases hb;exact hv vs hd
 obtain⟨ts,OE,h3⟩:=QI;have pr:∀b o,s.heap.get? b=some o->∃o',((g.push ob).update e (Obj.mapFields (·.setIfInBounds 1 (Value.ref g.objs.size)))).get? b=some o':=λb o hb=>by
  by_cases q:b=e
  ·subst q;exact⟨_,Ov⟩
  ·obtain⟨sl,e1⟩:=sg.2.2 b o hb;exact⟨_,kp b _ q e1⟩
 refine hQ _ (.hZ Ov (by rw[Obj.cls_mapFields];exact hc) (by rw[pK];exact hi) Dx (by simp[h1]) kb.fresh neT ((ot _ neT).trans hT) OE h3) (λb o hb=>kp b o (λq=>by rw[q,hn]at hb;cases hb) (kb b o hb)) (hl.of_keeps λb o hb hv=>?_) ⟨λb o hb hv=>?_,pr⟩
 ·obtain⟨sl,e1⟩:=sg.2.2 b o hb
  exact⟨_,kp b _ (Vk b o hb hv) e1,rfl⟩
 ·obtain⟨sl,e1⟩:=sg.2.2 b o hb
  exact⟨sl,kp b _ (Vk b o hb hv) e1⟩
theorem iQ{fl:Value}{fr:Option Addr}(hs:B.StaysIn s.heap)(x:ExcAt B s.heap e d (some fl)){l:List Env}(hl:s.heap.FunFrames B l)
  (hQ:∀h',ExcAt B h' e d (some (fr.elim .none λf=>rawInt f))->B.StaysIn h'->h'.FunFrames B l->i7 s.heap h'->Q () { s with heap:=h' }):wpAny M A (setFlight (.ref e) fr) Q E s:=by
 cases x with
 | @hZ oe oT vs ts T _ he hc hi hd h1 JT ne hT rQ h3=>
  unfold setFlight;refine wpAny_bind (wpAny_field he hd h1 ?_);rw[if_pos (show(Value.ref T != Value.none)=true from by rfl)]
  have sz:3<ts.size:=(Array.getElem?_eq_some_iff.mp h3).1;refine wpAny_setField hT rQ sz ?_;have ot:∀b,b≠T->(s.heap.update T (Obj.mapFields (·.setIfInBounds 3 (fr.elim Value.none λf=>rawInt f)))).get? b=s.heap.get? b:=λb hb=>Heap.get?_update_other _ _ hb.symm
  have MB:∀b o,s.heap.get? b=some o->(∀vs,o.data≠.fields vs)->b≠T:=λb o hb hv q=>by
   rw[q,hT]at hb;cases hb;exact hv ts rQ
  have Dx:=Obj.data_mapFields rQ (·.setIfInBounds 3 (fr.elim Value.none λf=>rawInt f))
  refine hQ _ (.hZ ((ot _ ne.symm).trans he) hc hi hd h1 JT ne (Heap.get?_update_self _ hT (Obj.isFreed_of_fields Dx)) Dx (by simp[sz])) (λb o hb=>(ot b λq=>by rw[q,JT]at hb;cases hb).trans (hs b o hb)) (hl.of_keeps λb o hb hv=>⟨o,(ot b (MB b o hb hv)).trans hb,rfl⟩) ⟨λb o hb hv=>⟨o.slots,(ot b (MB b o hb hv)).trans hb⟩,λb o hb=>by
   by_cases q:b=T
   ·subst q;exact⟨_,Heap.get?_update_self _ hT (Obj.isFreed_of_fields Dx)⟩
   ·exact⟨o,(ot b q).trans hb⟩⟩
theorem qd(wd:A.frames=some (env::O))(hf:env.frame=some env.locals)(hs:B.StaysIn s.heap)(hn:B.get? e=none)(hl:s.heap.FunFrames B (env::O))(x:Gr B s.heap e d env)
  (hQ:∀h',ExcAt B h' e d (some (rawInt env.locals))->B.StaysIn h'->h'.FunFrames B (env::O)->i7 s.heap h'->Q () { s with heap:=h' }):wpAny M A (noteFrame (.ref e) env) Q E s:=by
 unfold noteFrame;rw[hf];rcases x with x | x | x
 ·cases x with
  | @made oe vs he hc hi hd h1=>
   refine wpAny_bind (wpAny_field he hd h1 ?_);rw[if_neg (by decide)]
   exact rK wd hf hs hn hl he hc hi hd (Array.getElem?_eq_some_iff.mp h1).1 hQ
 ·cases x with
  | @hZ oe oT vs ts T _ he hc hi hd h1 JT ne hT rQ h3=>
   refine wpAny_bind (wpAny_field he hd h1 ?_);rw[if_pos (show(Value.ref T != Value.none)=true from by rfl)]
   refine wpAny_bind (wpAny_field hT rQ h3 ?_);rw[if_neg (show¬((Value.none==rawInt env.locals)=true) from by exact nofun)]
   refine wpAny_bind (wpAny_setField hT rQ (Array.getElem?_eq_some_iff.mp h3).1 ?_);have ot:∀b,b≠T->(s.heap.update T (Obj.mapFields (·.setIfInBounds 3 Value.none))).get? b=s.heap.get? b:=λb hb=>Heap.get?_update_other _ _ hb.symm
   have MB:∀b o,s.heap.get? b=some o->(∀vs,o.data≠.fields vs)->b≠T:=λb o hb hv q=>by
    rw[q,hT]at hb;cases hb;exact hv ts rQ
   exact rK (s:={ s with heap:=s.heap.update T (Obj.mapFields (·.setIfInBounds 3 Value.none)) }) wd hf (λb o hb=>(ot b λq=>by rw[q,JT]at hb;cases hb).trans (hs b o hb)) hn (hl.of_keeps λb o hb hv=>⟨o,(ot b (MB b o hb hv)).trans hb,rfl⟩) ((ot _ ne.symm).trans he) hc hi hd (Array.getElem?_eq_some_iff.mp h1).1
    λh' x1 x2 x3 x4=>hQ h' x1 x2 x3 ⟨λb o hb hv=>x4.slots b o ((ot b (MB b o hb hv)).trans hb) hv,λb o hb=>by
     by_cases q:b=T
     ·subst q;exact x4.iA _ _ (Heap.get?_update_self _ hT (Obj.isFreed_of_fields (Obj.data_mapFields rQ (·.setIfInBounds 3 Value.none))))
     ·exact x4.iA b o ((ot b q).trans hb)⟩
 ·have x':=x
  cases x with
  | @hZ oe oT vs ts T _ he hc hi hd h1 JT ne hT rQ h3=>
   refine wpAny_bind (wpAny_field he hd h1 ?_);rw[if_pos (show(Value.ref T != Value.none)=true from by rfl)]
   refine wpAny_bind (wpAny_field hT rQ h3 ?_);rw[if_pos (show(rawInt env.locals==rawInt env.locals)=true from by exact beq_self_eq_true _)]
   exact wpAny_pure (hQ s.heap x' hs hl ⟨.refl _,λ_ o e=>⟨o,e⟩⟩)
end
section
variable{M:Model}{A:Around}{s s':Shared}{env:Env}{σ:AH}{X:Int->Loc->AH->Prop}{x:Value}{n:NX}
theorem zI{B h:Heap}{e d:Addr}{fl:Value}{E:Value->Shared->Prop}{TH:String}{k:Sem Unit}{Q:Unit->Shared->Prop}(y:ExcAt B s.heap e d (some fl))(hk:wpAny M A k Q E s):
  wpAny M A (do
   if (<-field (.ref e) 1)==.none then unsupported TH
   k) Q E s:=by
 cases y with
 | @hZ oe oT vs ts T _ he hc hi hd h1 JT ne hT rQ h3=>
  refine wpAny_bind (wpAny_field he hd h1 ?_);rw[if_neg (show¬((Value.ref T==Value.none)=true) from by exact nofun)]
  exact hk
theorem EPost.loop(hA:fp env A n)(p:EPost (cY env A) env σ s n.X x s'):notedBy M A env (λe X5=>cameBackBy M A env (EPost (cY env A) env σ s n.X) e X5) x s':=by
 obtain⟨e,d,B,h1,tk,num,bJ,aI,rfl,rfl,S,F,Y,Me,q⟩:=p;obtain⟨wd,hf⟩:A.frames=some (env::cY env A)/\env.frame=some env.locals:=by
  rcases hA.frames with z | z
  ·exact z
  ·exact absurd q (z.2 _ _ _)
 refine qd (s:={ s with heap:=h1,toks:=tk }) wd hf Y.bP Y.new Y.fr Y.at_ λh2 y2 Hj GI t2=>?_
 unfold cameBackBy;refine zI (s:={ s with heap:=h2,toks:=tk }) (h:=h2) y2 ?_
 refine iQ (s:={ s with heap:=h2,toks:=tk }) Hj y2 GI λh3 y3 J4 Lo t3=>?_
 rw[hf]at y3;have t:=t2.trans t3;exact⟨e,d,B,h3,tk,num,bJ,aI,rfl,rfl,S,F.jM t,⟨J4,Y.new,Lo,.inr (.inr y3),Y.num⟩,Me.jM F t,q⟩
theorem leave_own{Q:Unit->Shared->Prop}{E:Value->Shared->Prop}{B:Heap}{e d:Addr}{num:Int}(wd:A.frames=some (env::cY env A))(hf:env.frame=some env.locals)(Y:Pb (cY env A) env e d num B s.heap)
  (hQ:∀h',ExcAt B h' e d (some .none)->B.StaysIn h'->h'.FunFrames B (cY env A)->i7 s.heap h'->Q () { s with heap:=h' }):wpAny M A (leaving env (.ref e)) Q E s:=by
 unfold leaving;refine wpAny_bind (qd wd hf Y.bP Y.new Y.fr Y.at_ λh2 y2 Hj GI t2=>?_)
 exact iQ (s:={ s with heap:=h2 }) Hj y2 GI λh3 y3 J4 Lo t3=>hQ h3 y3 J4 Lo.2.2 (t2.trans t3)
end
end
end
section
variable{O:List Env}
section
variable(n:NX)(env:Env)
noncomputable def KN(f:Value->Sem Value)(a:V)(ρ:Loc)(σ:AH)(Q:V->Loc->AH->Prop):Prop:=∀u,Tr n env ρ σ (HP.v u a) (f u) ay Q
noncomputable def iI(f:Value->Value->Sem Value)(a b:V)(ρ:Loc)(σ:AH)(Q:V->Loc->AH->Prop):Prop:=∀u v,Tr n env ρ σ ((HP.v u a).and (HP.v v b)) (f u v) ay Q
noncomputable def Dt(a:V)(ρ:Loc)(σ:AH)(Q:Bool->Loc->AH->Prop):Prop:=∀u,Tr n env ρ σ (HP.v u a) (truthy u) kG Q
noncomputable def Test(e:Expr)(ρ:Loc)(σ:AH)(Q:Bool->Loc->AH->Prop):Prop:=Tr n env ρ σ .top (isTrue e env (eval e env)) kG Q
noncomputable def qH(op:BoolOp)(es:List Expr)(ρ:Loc)(σ:AH)(Q:Bool->Loc->AH->Prop):Prop:=Tr n env ρ σ .top (allTrue op es env) kG Q
noncomputable def yd(op:BoolOp)(es:List Expr)(ρ:Loc)(σ:AH)(Q:V->Loc->AH->Prop):Prop:=∀pos,Tr n env ρ σ .top (boolOp pos op (evalEach es env)) ay Q
noncomputable def cK(f:Value)(vs:List V)(ρ:Loc)(σ:AH)(Q:V->Loc->AH->Prop):Prop:=∀us,Tr n env ρ σ (HP.vs us vs) (call f us) ay Q
end
section
variable(n:NX)(env:Env)
abbrev T9(op:Value->Value->Sem Value)(a:V)(Q:V->Loc->AH->Prop):V->Loc->AH->Prop:=λb ρ σ=>iI n env op a b ρ σ Q
abbrev DG(op:Value->Value->Sem Value)(r:Expr)(Q:V->Loc->AH->Prop):V->Loc->AH->Prop:=λa ρ σ=>Ex n env r ρ σ (T9 n env op a Q)
abbrev Ub(op:Value->Sem Value)(Q:V->Loc->AH->Prop):V->Loc->AH->Prop:=λa ρ σ=>KN n env op a ρ σ Q
abbrev Pf(a b:Expr)(Q:V->Loc->AH->Prop):Bool->Loc->AH->Prop:=λy ρ σ=>if y then Ex n env a ρ σ Q else Ex n env b ρ σ Q
abbrev KR(Q:Bool->Loc->AH->Prop):V->Loc->AH->Prop:=λa ρ σ=>Dt n env a ρ σ Q
abbrev Pm(Q:Bool->Loc->AH->Prop):Bool->Loc->AH->Prop:=λy=>Q (!y)
abbrev A8(v:V)(Q:List V->Loc->AH->Prop):List V->Loc->AH->Prop:=λvs=>Q (v::vs)
abbrev O8(es:List Expr)(Q:List V->Loc->AH->Prop):V->Loc->AH->Prop:=λv ρ σ=>rt n env es ρ σ (A8 v Q)
abbrev Px(Q:V->Loc->AH->Prop):List V->Loc->AH->Prop:=λvs ρ σ=>vs.length<=1000/\Q (.tup vs) ρ σ
abbrev Pj(Q:V->Loc->AH->Prop):List V->Loc->AH->Prop:=λvs ρ σ=>vs.length<=1000/\∀a,σ a=none->Q (.lst a) ρ (σ.put a (.list vs))
abbrev Ko(op:BoolOp)(a:V)(es:List Expr)(Q:V->Loc->AH->Prop):Bool->Loc->AH->Prop:=λy ρ σ=>if y=(op==.Or) then Q a ρ σ else yd n env op es ρ σ Q
abbrev VL(op:BoolOp)(es:List Expr)(Q:V->Loc->AH->Prop):V->Loc->AH->Prop:=λa ρ σ=>Dt n env a ρ σ (Ko n env op a es Q)
abbrev AllK(op:BoolOp)(es:List Expr)(Q:Bool->Loc->AH->Prop):Bool->Loc->AH->Prop:=λy ρ σ=>if y=(op==.Or) then Q y ρ σ else qH n env op es ρ σ Q
end
theorem ay.bool_inv{h:Heap}{u:Value}{b:Bool}(r:ay h u (.bool b)):u=.bool b:=r.vi
theorem ay.int_inv{h:Heap}{u:Value}{i:Int}(r:ay h u (.int i)):∃t,u=.int i t:=r.vi
theorem ay.str_inv{h:Heap}{u:Value}{i:Str}(r:ay h u (.str i)):∃t,u=.str i t:=r.vi
theorem ay.none_inv{h:Heap}{u:Value}(r:ay h u .none):u=.none:=r.vi
theorem ay.lst_inv{h:Heap}{u:Value}{a:Addr}(r:ay h u (.lst a)):u=.ref a:=r.vi
theorem ay.oG{h:Heap}{u:Value}{a:Addr}(r:ay h u (.qD a)):u=.ref a:=r.vi
theorem ay.dB{h:Heap}{u w:Value}(r:ay h u (.glob w)):u=w:=r.vi
theorem ay.cR{h:Heap}{u:Value}{l:List V}(r:ay h u (.tup l)):KS h u l:=r.vi
theorem ay.jC{h:Heap}{u:Value}{C d:Addr}(r:ay h u (.inst C d)):Ky h u C d:=r.vi
theorem ay.yZ{h:Heap}{u:Value}{a b:Int}(r:ay h u (.Ag a b)):∃r t u' v,u=.ref r/\IsRange h r a b 1 t u' v:=r.vi
section
variable{n:NX}{env:Env}{ρ:Loc}{σ:AH}{Q:V->Loc->AH->Prop}
theorem N9{k pos}(q:Q .none ρ σ):Ex n env (.Constant .none k pos) ρ σ Q:=λ_ s _ S F _=>wpAny_pure (aR.bP (tk:=s.toks) S F .none q)
theorem N8{b k pos}(q:Q (.bool b) ρ σ):Ex n env (.Constant (.bool b) k pos) ρ σ Q:=λ_ s _ S F _=>wpAny_pure (aR.bP (tk:=s.toks) S F (.bool b) q)
theorem Qb{i k pos}(q:Q (.int i) ρ σ):Ex n env (.Constant (.int i) k pos) ρ σ Q:=λ_ s _ S F _=>wpAny_Constant_int (aR.bP (tk:=s.toks+1) S F (.int i _) q)
theorem BE{i k pos}(q:Q (.str i) ρ σ):Ex n env (.Constant (.str i) k pos) ρ σ Q:=λ_ s _ S F _=>Constant_str (aR.bP (tk:=s.toks+1) S F (.str i _) q)
theorem ma{A:Around}{E:Value->Shared->Prop}{s:Shared}{x:Str}{u:Value}{Q:Value->Shared->Prop}(hk:env.scope.kind=.function)(h:eG env s.heap x u)(q:Q u s)(hc:(x==("__classdict__":Str))=false):wpAny (model c.prog c.w) A (loadName env x) Q E s:=by
 rcases h with ⟨hl,m,hn,hv⟩ | ⟨GR,a,o,Ej,ho,hd⟩
 ·exact wpAny_loadName_local hk hl hn hv q
 ·have hv:s.heap.IsCell a (some u):=⟨o,ho,hd⟩
  rcases GR with GR | GR
  ·exact wpAny_loadName_cell hk GR Ej hv q
  ·exact wpAny_loadName_free hk GR Ej hv q hc
theorem Tr.loadName{x:Str}{v:V}{H:HP}(e:ρ.lookup x=some v)(q:Q v ρ σ)(hc:autoParam ((x==("__classdict__":Str))=false) cB):Tr n env ρ σ H (PySem.loadName env x) ay Q:=λA s _ S F _=>by
 obtain⟨u,hu,r⟩:=F.has x v e;exact ma F.kind hu (aR.bP (tk:=s.toks) S F r q) hc
theorem DY{x:Str}{pos:Pos}{v:V}(e:ρ.lookup x=some v)(q:Q v ρ σ)(hd:autoParam ((x==("__debug__":Str))=false) cB)(hc:autoParam ((x==("__classdict__":Str))=false) cB):Ex n env (.Name x pos) ρ σ Q:=λA s hA S F hH=>
 wpAny_Name (Tr.loadName (H:=.top) e q hc A s hA S F hH) hd
theorem gk{x:Str}{pos:Pos}{u:Value}{v:V}(hx:env.kindOf x=some .globalImplicit)(e:nsIn c.K mainGlobals x=some (some u))(r:Kq->ay c.h0 u v)(q:Q v ρ σ)(hd:autoParam ((x==("__debug__":Str))=false) cB):Ex n env (.Name x pos) ρ σ Q:=λA s _ S F _=>by
 refine Name_function_global F.kind hx (loadGlobal_global (mg:=c.mg) ?_ (mg_of (S.ok.oO.keeps λ_ _ e=>e) S.ok.top.g e) (aR.bP (tk:=s.toks) S F ((r S.ok).keep λb o e _=>S.fP b o e) q)) hd
 rw[F.glob.1];exact(S.top).g
theorem kM{x:Str}{pos:Pos}{u:Value}(hx:env.kindOf x=some .globalImplicit)(e:nsIn c.K mainGlobals x=some Option.none)(hb:bootBuiltins x=some u)(hn:x≠"__name__")(q:Q (.glob u) ρ σ)(hd:autoParam ((x==("__debug__":Str))=false) cB):Ex n env (.Name x pos) ρ σ Q:=λA s _ S F _=>by
 refine Name_function_global F.kind hx (loadGlobal_builtin (mg:=c.mg) (mb:=c.mb) ?_ (mg_none_of (S.ok.oO.keeps λ_ _ e=>e) S.ok.top.g e) ?_ ((S.ok.top.builtins x hn).trans hb) (aR.bP (tk:=s.toks) S F (.glob u) q)) hd
 ·rw[F.glob.1];exact(S.top).g
 ·rw[F.glob.2];exact(S.top).b
theorem yz{Q:List V->Loc->AH->Prop}(q:Q [] ρ σ):rt n env [] ρ σ Q:=λ_ _ s _ S F _=>spliced_nil (aR.bP (tk:=s.toks) S F .nil q)
noncomputable def fA(e:Expr):Bool:= !Nat.beq e.ctorIdx (Expr.Starred e ⟨0,0,0,0⟩).ctorIdx
theorem qj{e:Expr}(h:fA e=true)(es:List Expr)(env:Env):starEach (e::es) env=(false,eval e env)::starEach es env:=by cases e<;>first | rfl | cases h
theorem plain_any:∀{es:List Expr}(_:es.all fA=true)(pos:Pos)(env:Env),(backTo pos (starEach es env)).any (·.1)=false
 | [],_,_,_=>rfl
 | e::es,h,pos,env=>by
  rw[List.all_cons,Bool.and_eq_true]at h;rw[qj h.1];exact plain_any h.2 pos env
theorem cj{e:Expr}{es:List Expr}{Q:List V->Loc->AH->Prop}(h:Ex n env e ρ σ (O8 n env es Q))(he:autoParam (fA e=true) cB):rt n env (e::es) ρ σ Q:=λpos A s hA S F hH=>by
 rw[qj he];refine spliced_cons (wpAny_mono (h A s hA S F hH) (λu s' p=>?_) λ_ _ e=>e)
 obtain⟨h',tk,v,ρ',af,rfl,S',F',M,r,q⟩:=p;refine wpAny_mono ((q pos) A { s with heap:=h',toks:=tk } hA S' F' trivial) (λus s' p=>?_) λ_ _ z=>z.trans M
 obtain⟨h2,oh,vs,d5,bU,rfl,S2,F2,M2,r2,q2⟩:=p;exact⟨h2,oh,v::vs,d5,bU,rfl,S2,F2,M.trans M2,.cons (r.step S' F' M2) r2,q2⟩
theorem lR{elts:List Expr}{k:Nat}{pos:Pos}(h:rt n env elts ρ σ (Px Q)):Ex n env (.Tuple elts k pos) ρ σ Q:=λA s hA S F _=>by
 refine wpAny_Tuple_spliced (wpAny_mono (h pos A s hA S F trivial) (λus s' p=>?_) λ_ _ e=>e)
 obtain⟨h',tk,vs,ρ',af,rfl,S',F',M,r,hl,q⟩:=p;have hlen:us.length<=sizeLine:=by rw[r.length];exact Nat.le_trans hl (by decide)
 refine⟨hlen,aR.trans M (aR.extend S' F' (aO _) (push_size _) (.tup (IsT.new _ _) ?_) q)⟩;simpa using r.keep λb o e _=>aO _ b o e
theorem aW{elts:List Expr}{pos:Pos}(h:rt n env elts ρ σ (Pj Q)):Ex n env (.List elts pos) ρ σ Q:=λA s hA S F _=>by
 refine wpAny_List_spliced (wpAny_mono (h pos A s hA S F trivial) (λus s' p=>?_) λ_ _ e=>e)
 obtain⟨h',tk,vs,ρ',af,rfl,S',F',M,r,hl,q⟩:=p;have hlen:us.length<=sizeLine:=by rw[r.length];exact Nat.le_trans hl (by decide)
 refine⟨hlen,aR.trans M (aR.new (a:=h'.objs.size) (ao:=.list vs) S' F' (aO _) (push_size _) (Nat.le_refl _) (.list (IsL.new _ _) ?_) (.lst _) (q _ ?_))⟩
 ·simpa using r.keep λb o e _=>aO _ b o e
 ·cases z:af h'.objs.size with
  | none=>rfl
  | some ao=>obtain⟨ob,e1,_⟩:=(S'.objs _ _ z).at;exact absurd (Heap.lt_size e1) (Nat.lt_irrefl _)
theorem two{α β:Type}{R:Heap->α->β->Prop}{Q:β->Loc->AH->Prop}{l r:Expr}{f:Value->Value->Sem α}
  (h:Ex n env l ρ σ (λa bJ aI=>Ex n env r bJ aI (λb d5 bU=>∀u v,Tr n env d5 bU ((HP.v u a).and (HP.v v b)) (f u v) R Q))) {A:Around} {s:Shared} (hA:fp env A n) (S:St s.heap σ) (F:dh (cY env A) env s.heap σ ρ):
  wpAny (model c.prog c.w) A (eval l env) (λu cy=>wpAny (model c.prog c.w) A (eval r env) (λv FV=>wpAny (model c.prog c.w) A (f u v) (aR (cY env A) env σ s R Q) (EPost (cY env A) env σ s n.X) FV) (EPost (cY env A) env σ s n.X) cy) (EPost (cY env A) env σ s n.X) s:=by
 refine wpAny_mono (h A s hA S F trivial) (λu s1 p=>?_) λ_ _ x=>x
 obtain⟨h1,gv,a,bJ,aI,rfl,S1,F1,M1,r1,q1⟩:=p;refine wpAny_mono (q1 A { s with heap:=h1,toks:=gv } hA S1 F1 trivial) (λv s2 p=>?_) λ_ _ z=>z.trans M1
 obtain⟨h2,oh,b,d5,bU,rfl,S2,F2,M2,r2,q2⟩:=p;exact(q2 u v).go (s:=s) hA (M1.trans M2) S2 F2 ⟨r1.step S1 F1 M2,r2⟩
theorem PZ{l r:Expr}{op:Operator}{pos:Pos}(h:Ex n env l ρ σ (DG n env (binaryOp op) r Q)):Ex n env (.BinOp l op r pos) ρ σ Q:=
 λA s hA S F _=>wpAny_BinOp (two h hA S F)
theorem Qa{l r:Expr}{op:CmpOp}{pos:Pos}(h:Ex n env l ρ σ (DG n env (compareOp op) r Q))(hm:autoParam (behindInMarks op r=false) KU):Ex n env (.Compare l [op] [r] pos) ρ σ Q:=
 λA s hA S F _=>wpAny_Compare1 (two h hA S F) hm
theorem Un{e:Expr}{op:UnaryOp}{pos:Pos}(h:Ex n env e ρ σ (Ub n env (unaryOp op) Q)):Ex n env (.UnaryOp op e pos) ρ σ Q:=
 Tr.eq (arm_eval_UnaryOp ..) (Tr.ir (h.mono λa bJ aI q u=>Tr.standAt (Tr.holding ((q u).with λ_ x=>x.1))))
theorem GG{t a b:Expr}{pos:Pos}(h:Test n env t ρ σ (Pf n env a b Q)):Ex n env (.IfExp t a b pos) ρ σ Q:=
 Tr.eq (arm_eval_IfExp ..) (Tr.nP (h.mono λy bJ aI q=>by cases y<;>exact q))
theorem kL{op:BoolOp}{es:List Expr}{pos:Pos}(h:yd n env op es ρ σ Q):Ex n env (.BoolOp op es pos) ρ σ Q:=h pos
theorem rF{op:BoolOp}{e:Expr}(h:Ex n env e ρ σ Q):yd n env op [e] ρ σ Q:=λ_=>h
theorem iO{op:BoolOp}{e e2:Expr}{es:List Expr}(h:Ex n env e ρ σ (VL n env op (e2::es) Q)):yd n env op (e::e2::es) ρ σ Q:=λpos A s hA S F _=>by
 show wpAny _ A (do
  let v <-eval e env
  PySem.standAt pos
  let t <-PySem.holding [v] (truthy v)
  match op,t with
  | .And,false | .Or,true=>Pure.pure v
  | _,_=>boolOp pos op (evalEach (e2::es) env)) _ _ s
 refine wpAny_bind (wpAny_mono (h A s hA S F trivial) (λu s1 p=>?_) λ_ _ x=>x)
 obtain⟨h1,gv,a,bJ,aI,rfl,S1,F1,M1,r1,q1⟩:=p;refine wpAny_bind (wpAny_standAt (wpAny_bind (wpAny_holding (wpAny_mono (q1 u A { s with heap:=h1,toks:=gv } hA S1 F1 r1) (λv s2 p=>?_) λ_ _ z=>z.trans M1))))
 obtain⟨h2,oh,b,d5,bU,rfl,S2,F2,M2,r2,q2⟩:=p;cases r2;have Vu:=r1.step S1 F1 M2;dsimp only[Ko]at q2;cases op<;>cases v<;>simp at q2<;>dsimp only
 ·exact wpAny_pure (aR.here (s:=s) S2 F2 (M1.trans M2) Vu q2)
 ·exact(q2 pos).go (s:=s) hA (M1.trans M2) S2 F2 trivial
 ·exact(q2 pos).go (s:=s) hA (M1.trans M2) S2 F2 trivial
 ·exact wpAny_pure (aR.here (s:=s) S2 F2 (M1.trans M2) Vu q2)
theorem aY{e:Expr}{Q:Bool->Loc->AH->Prop}(h:Ex n env e ρ σ (KR n env Q))(he:autoParam (isTrue e env (eval e env)=(do let v <-eval e env;PySem.standAt e.pos;PySem.holding [v] (truthy v))) cB):Test n env e ρ σ Q:=
 Tr.eq he (Tr.ir (h.mono λa bJ aI q u=>Tr.standAt (Tr.holding ((q u).with λ_ x=>x.1))))
theorem Nn{e:Expr}{pos:Pos}{Q:Bool->Loc->AH->Prop}(h:Test n env e ρ σ (Pm Q)):Test n env (.UnaryOp .Not e pos) ρ σ Q:=
 Tr.eq (arm_isTrue_UnaryOp ..) (Tr.nP (h.mono λy bJ aI q=>Tr.pure (λ_ _=>rfl) q))
theorem J6{op:BoolOp}{es:List Expr}{pos:Pos}{Q:Bool->Loc->AH->Prop}(h:qH n env op es ρ σ Q):Test n env (.BoolOp op es pos) ρ σ Q:=h
theorem uk{op:BoolOp}{Q:Bool->Loc->AH->Prop}(q:Q (op==.And) ρ σ):qH n env op [] ρ σ Q:=Tr.pure (λ_ _=>rfl) q
theorem rC{op:BoolOp}{e:Expr}{es:List Expr}{Q:Bool->Loc->AH->Prop}(h:Test n env e ρ σ (AllK n env op es Q)):qH n env op (e::es) ρ σ Q:=
 Tr.eq (arm_allTrue_cons ..) (Tr.nP (h.mono λy bJ aI q=>by
  dsimp only[AllK]at q;cases op<;>cases y<;>simp at q<;>dsimp only<;>first | exact Tr.pure (λ_ _=>rfl) q | exact q))
theorem C9{l r:Expr}{op:CmpOp}{pos:Pos}{Q:Bool->Loc->AH->Prop}(h:Ex n env l ρ σ (DG n env (compareOp op) r (KR n env Q)))(hm:autoParam (behindInMarks op r=false) KU):Test n env (.Compare l [op] [r] pos) ρ σ Q:=by
 refine Tr.eq (isTrue_Compare1 ..) ?_;rw[markedBehindIn_of_false hm];exact Tr.ir (h.mono λa bJ aI q u=>Tr.ir (Tr.holding (q.w0.mono λb d5 bU q v=>Tr.standAt (Tr.ir (Tr.operate ((q u v).w2.mono λy rm fE q w=>Tr.holding (q w).w1))))))
theorem Bw{α β:Type}{R:Heap->α->β->Prop}{Q:β->Loc->AH->Prop}{l r r2:Expr}{o1:CmpOp}{pos:Pos}{last:Value->Value->Sem α}{neg:Value->Sem α}
  (h:Ex n env l ρ σ (λa bJ aI=>Ex n env r bJ aI (λb d5 bU=>iI n env (compareOp o1) a b d5 bU (λy rm fE=>Dt n env y rm fE (λk wg ki=>
   if k then Ex n env r2 wg ki (λd wh mK=>∀v w,Tr n env wh mK ((HP.v v b).and (HP.v w d)) (last v w) R Q)
   else∀w,Tr n env wg ki (HP.v w y) (neg w) R Q))))):
  Tr n env ρ σ .top (eval l env >>=λa=>PySem.holding [a] (eval r env) >>=λrv=>PySem.standAt pos >>=λ_=>PySem.holding [a,rv] (compareOp o1 a rv) >>=λcv=>PySem.release [a,rv] [cv] >>=λ_=>
   PySem.holding [cv,rv] (truthy cv) >>=λb=>if b=true then (PySem.holding [rv] (eval r2 env) >>=λXZ=>PySem.standAt pos >>=λ_=>last rv XZ) else neg cv) R Q:=by
 refine Tr.ir (h.mono λa bJ aI q u=>Tr.ir (Tr.holding (q.w0.mono λb d5 bU q v=>Tr.standAt (Tr.ir (Tr.holding ((q u v).w2.mono λy rm fE q w=>Tr.release (Tr.nP (Tr.holding ((q w).w1.mono λk wg ki q=>?_)))))))))
 cases k
 ·exact(q w).w1
 ·exact Tr.ir (Tr.holding (q.w0.mono λd wh mK q v2=>Tr.standAt (q v v2).w3))
theorem J7{l r r2:Expr}{o1 o2:CmpOp}{pos:Pos}{Q:Bool->Loc->AH->Prop}(h:Ex n env l ρ σ (λa bJ aI=>Ex n env r bJ aI (λb d5 bU=>iI n env (compareOp o1) a b d5 bU (λy rm fE=>Dt n env y rm fE (λk wg ki=>
   if k then Ex n env r2 wg ki (λd wh mK=>iI n env (compareOp o2) b d wh mK (λz VC Kf=>Dt n env z VC Kf Q)) else Q false wg ki)))))
  (he:autoParam (isTrue (.Compare l [o1,o2] [r,r2] pos) env (eval (.Compare l [o1,o2] [r,r2] pos) env)=(eval l env >>=λa=>testChain pos a [o1,o2] [eval r env,eval r2 env])) KU):Test n env (.Compare l [o1,o2] [r,r2] pos) ρ σ Q:=
 Tr.eq he (Bw (pos:=pos) (R:=kG) (Q:=Q) (last:=λu v=>PySem.operate [u,v] (compareOp o2 u v) >>=λw=>PySem.holding [w] (truthy w)) (neg:=λ_=>(Pure.pure false:Sem Bool)) (h.mono λa bJ aI q=>q.mono λb d5 bU q u v=>(q u v).mono λy rm fE q w=>(q w).mono λk wg ki q=>by
  cases k
  ·exact λw=>Tr.pure (λ_ _=>rfl) q
  ·exact Tr.mono q λd wh mK q u v=>Tr.ir (Tr.operate ((q u v).mono λz VC Kf q w=>Tr.holding (q w).w1))))
end
end
section
variable{O:List Env}
noncomputable def V.isNone:V->Bool | .none=>true | _=>false
theorem qu{h:Heap}{u:Value}{a:V}(r:ay h u a)(hg:∀v,a≠.glob v):handedIn u=true/\plainIs u .none=true/\(u==.none)=a.isNone:=
 (show(∃v,a=.glob v)\/(handedIn u=true/\plainIs u .none=true/\(u==.none)=a.isNone) by cases r<;>first | exact .inr ⟨rfl,rfl,rfl⟩ | exact .inl ⟨_,rfl⟩).elim (λ⟨v,e⟩=>absurd e (hg v)) id
section
variable{n:NX}{env:Env}{ρ:Loc}{σ:AH}{Q:V->Loc->AH->Prop}
theorem my{b:Bool}{Q:Bool->Loc->AH->Prop}(q:Q b ρ σ):Dt n env (.bool b) ρ σ Q:=λu A s hA S F r=>by
 obtain rfl:=ay.bool_inv r;exact wpAny_truthy_bool (aR.bP (tk:=s.toks) S F rfl q)
theorem SO{a b:Int}(q:Q (.int (a+b)) ρ σ):iI n env (binaryOp .Add) (.int a) (.int b) ρ σ Q:=λu v A s hA S F r=>by
 obtain⟨t,rfl⟩:=ay.int_inv r.1;obtain⟨t',rfl⟩:=ay.int_inv r.2;exact P.add_int (aR.bP (tk:=s.toks+1) S F (.int _ _) q)
theorem SP{a b:Int}(q:Q (.int (a-b)) ρ σ):iI n env (binaryOp .Sub) (.int a) (.int b) ρ σ Q:=λu v A s hA S F r=>by
 obtain⟨t,rfl⟩:=ay.int_inv r.1;obtain⟨t',rfl⟩:=ay.int_inv r.2;exact P.sub_int (aR.bP (tk:=s.toks+1) S F (.int _ _) q)
theorem CO{a b:Int}(q:Q (.int (a*b)) ρ σ)(hm:IntMulOk a b):iI n env (binaryOp .Mult) (.int a) (.int b) ρ σ Q:=λu v A s hA S F r=>by
 obtain⟨t,rfl⟩:=ay.int_inv r.1;obtain⟨t',rfl⟩:=ay.int_inv r.2;exact P.mul_int (aR.bP (tk:=s.toks+1) S F (.int _ _) q) hm
theorem CN{a b:Int}(hb:b≠0)(q:Q (.int (a.fmod b)) ρ σ):iI n env (binaryOp .Mod) (.int a) (.int b) ρ σ Q:=λu v A s hA S F r=>by
 obtain⟨t,rfl⟩:=ay.int_inv r.1;obtain⟨t',rfl⟩:=ay.int_inv r.2;exact mod_int' hb (aR.bP (tk:=s.toks+1) S F (.int _ _) q)
theorem qf{a:Int}(q:Q (.int (-a)) ρ σ):KN n env (unaryOp .USub) (.int a) ρ σ Q:=λu A s hA S F r=>by
 obtain⟨t,rfl⟩:=ay.int_inv r;exact P.neg_int (aR.bP (tk:=s.toks+1) S F (.int _ _) q)
theorem OO{a b:Int}(q:Q (.int (a+b)) ρ σ):iI n env (inplaceOp .Add) (.int a) (.int b) ρ σ Q:=λu v A s hA S F r=>by
 obtain⟨t,rfl⟩:=ay.int_inv r.1;obtain⟨t',rfl⟩:=ay.int_inv r.2;exact P.iadd_int (aR.bP (tk:=s.toks+1) S F (.int _ _) q)
theorem By{a b:Int}(q:Q (.bool (a==b)) ρ σ):iI n env (compareOp .Eq) (.int a) (.int b) ρ σ Q:=λu v A s hA S F r=>by
 obtain⟨t,rfl⟩:=ay.int_inv r.1;obtain⟨t',rfl⟩:=ay.int_inv r.2;exact P.eq_int (aR.bP (tk:=s.toks) S F (.bool _) q)
theorem PR{a b:Int}(q:Q (.bool (decide (a<b))) ρ σ):iI n env (compareOp .Lt) (.int a) (.int b) ρ σ Q:=λu v A s hA S F r=>by
 obtain⟨t,rfl⟩:=ay.int_inv r.1;obtain⟨t',rfl⟩:=ay.int_inv r.2;exact P.lt_int (aR.bP (tk:=s.toks) S F (.bool _) q)
theorem PO{a b:Int}(q:Q (.bool (decide (a<=b))) ρ σ):iI n env (compareOp .LtE) (.int a) (.int b) ρ σ Q:=λu v A s hA S F r=>by
 obtain⟨t,rfl⟩:=ay.int_inv r.1;obtain⟨t',rfl⟩:=ay.int_inv r.2;exact P.le_int (aR.bP (tk:=s.toks) S F (.bool _) q)
theorem cmp_gt{a b:Int}(q:Q (.bool (decide (a>b))) ρ σ):iI n env (compareOp .Gt) (.int a) (.int b) ρ σ Q:=λu v A s hA S F r=>by
 obtain⟨t,rfl⟩:=ay.int_inv r.1;obtain⟨t',rfl⟩:=ay.int_inv r.2;exact P.gt_int (aR.bP (tk:=s.toks) S F (.bool _) q)
theorem is_none{a:V}(q:Q (.bool a.isNone) ρ σ)(hg:autoParam (∀v,a≠.glob v) Uc):iI n env (compareOp .Is) a .none ρ σ Q:=λu v A s hA S F r=>by
 obtain rfl:=ay.none_inv r.2;have e:=(qu r.1 hg).2;exact wpAny_is_plain e.1 (by rw[e.2];exact aR.bP (tk:=s.toks) S F (.bool _) q)
theorem bQ{a:V}(q:Q (.bool (!a.isNone)) ρ σ)(hg:autoParam (∀v,a≠.glob v) Uc):iI n env (compareOp .IsNot) a .none ρ σ Q:=λu v A s hA S F r=>by
 obtain rfl:=ay.none_inv r.2;have e:=(qu r.1 hg).2;exact wpAny_isNot_plain e.1 (by rw[e.2];exact aR.bP (tk:=s.toks) S F (.bool _) q)
theorem wK{a b:Str}(q:Q (.bool (a==b)) ρ σ):iI n env (compareOp .Eq) (.str a) (.str b) ρ σ Q:=λu v A s hA S F r=>by
 obtain⟨t,rfl⟩:=ay.str_inv r.1;obtain⟨t',rfl⟩:=ay.str_inv r.2;exact P.eq_str (aR.bP (tk:=s.toks) S F (by rw[SeqAt.str_beq];exact .bool _) q)
theorem kH{a b:Str}(q:Q (.bool (!(Builtin.Str.occurrences b a 0 b.length 1).isEmpty)) ρ σ):iI n env (compareOp .In) (.str a) (.str b) ρ σ Q:=λu v A s hA S F r=>by
 obtain⟨t,rfl⟩:=ay.str_inv r.1;obtain⟨t',rfl⟩:=ay.str_inv r.2;exact P.in_str (aR.bP (tk:=s.toks) S F (.bool _) q)
set_option tactic.hygienic true in
theorem xH{x y:Str}{t u:Tok}{Q:Value->Shared->Prop}{s:Shared}(hl:(x++y).length<=sizeLine)(h:∀t k,Q (.str (x++y) t) { s with toks:=k }):
  (if x.length==0 then Made.val (.str y u) else if y.length==0 then Made.val (.str x t) else Made.str (x++y)).post Q s:=by
 have e0:∀z:Str,z.length=0->z=⟨#[]⟩:=λz hz=>by obtain⟨a⟩:=z;simp[Str.length]at hz;rw[hz]
 split
 ·rename_i hz
  have:x++y=y:=by rw[e0 x (by simpa using hz)];obtain⟨a⟩:=y;show(⟨#[]++a⟩:Str)=⟨a⟩;simp
  have:=this▸h u s.toks;exact this
 ·split
  ·rename_i hz
   have:x++y=x:=by rw[e0 y (by simpa using hz)];obtain⟨a⟩:=x;show(⟨a++ #[]⟩:Str)=⟨a⟩;rfl
   have:=this▸h t s.toks;exact this
  ·exact⟨hl,h s.toks (s.toks+1)⟩
theorem kU{a b:Str}(hl:(a++b).length<=sizeLine)(q:Q (.str (a++b)) ρ σ):iI n env (binaryOp .Add) (.str a) (.str b) ρ σ Q:=λu v A s hA S F r=>by
 obtain⟨t,rfl⟩:=ay.str_inv r.1;obtain⟨t',rfl⟩:=ay.str_inv r.2;exact P.add_str (xH hl λt k=>aR.bP (tk:=k) S F (.str _ _) q)
theorem iu{a b:V}{k:Bool}(h:∀A s u v,fp env A n->St s.heap σ->ay s.heap u a->ay s.heap v b->SeqAt.RcAt A s u v k)(q:Q (.bool k) ρ σ):iI n env (compareOp .Eq) a b ρ σ Q:=λu v A s hA S F r=>
 cmp_ofEq (h A s u v hA S r.1 r.2 _ _ _ _ (aR.bP (tk:=s.toks) S F (.bool _) q))
theorem jz{l:List V}{b:Str}(q:Q (.bool false) ρ σ):iI n env (compareOp .Eq) (.tup l) (.str b) ρ σ Q:=
 iu (λA s u v hA S r1 r2=>by
  obtain⟨a,vs,m,rfl,ht,hs⟩:=r1.cR;obtain⟨t',rfl⟩:=r2.str_inv;exact .tuple_str b t' ⟨_,ht,rfl,_,rfl⟩ hA.TC) q
theorem qU{a b:Bool}(q:Q (.bool (a==b)) ρ σ):iI n env (compareOp .Eq) (.bool a) (.bool b) ρ σ Q:=
 iu (λA s u v hA S r1 r2=>by obtain rfl:=r1.bool_inv;obtain rfl:=r2.bool_inv;exact .bool_bool a b) q
theorem yl{h:Heap}{vs:List Value}{l:List Str}(r:aE h vs (l.map V.str))(b:Str):vs.any (λy=>Value.isStr y b)=l.contains b:=by
 induction l generalizing vs with
 | nil=>rw[r.nil_inv];rfl
 | cons x l ih=>
  obtain⟨u,us,rfl,hv,hs⟩:=r.cons_inv;obtain⟨t,rfl⟩:=hv.str_inv;rw[List.any_cons,ih hs,List.contains_cons];have e:(x==b)=(b==x):=by rw[Bool.eq_iff_iff];simp only[beq_iff_eq];exact eq_comm
  show((x==b)||l.contains b)=_
  rw[e]
theorem Fg{h:Heap}{vs:List Value}{l:List Str}(r:aE h vs (l.map V.str)){y:Value}(m:y∈vs):∃x t,y=.str x t:=by
 induction l generalizing vs with
 | nil=>rw[r.nil_inv]at m;cases m
 | cons x l ih=>
  obtain⟨u,us,rfl,hv,hs⟩:=r.cons_inv;rcases List.mem_cons.mp m with e | m
  ·obtain⟨t,e2⟩:=hv.str_inv;exact⟨_,_,e.trans e2⟩
  ·exact ih hs m
theorem uD{A:Around}{s:Shared}{vs:List Value}{l:List Str}(r:aE s.heap vs (l.map V.str))(b:Str)(t:Tok):∀y,y∈vs.toArray->SeqAt.EqAt A s y (.str b t) (Value.isStr y b):=λy m=>by
 obtain⟨x,t',rfl⟩:=Fg r (by simpa using m)
 exact SeqAt.EqAt.str_str (A:=A) (s:=s) x t' b t
theorem bF{b:Str}{l:List Str}(q:Q (.bool (l.contains b)) ρ σ):iI n env (compareOp .In) (.str b) (.tup (l.map V.str)) ρ σ Q:=λu v A s hA S F r=>by
 obtain⟨t,rfl⟩:=ay.str_inv r.1;obtain⟨a,vs,m,rfl,ht,hs⟩:=ay.cR r.2;refine SeqAt.in_tupleAt (λy=>Value.isStr y b) ⟨_,ht,rfl,_,rfl⟩ (by simpa using uD hs b t) ?_
 rw[<-Array.any_toList,yl hs b];exact aR.bP (tk:=s.toks) S F (.bool _) q
theorem wL{b:Str}{a:Addr}{l:List Str}(ha:σ a=some (.list (l.map V.str)))(q:Q (.bool (l.contains b)) ρ σ):iI n env (compareOp .In) (.str b) (.lst a) ρ σ Q:=λu v A s hA S F r=>by
 obtain⟨t,rfl⟩:=ay.str_inv r.1;obtain rfl:=ay.lst_inv r.2;have o:=S.objs _ _ ha;cases o with
 | list ho hs=>
  refine SeqAt.in_listAt (λy=>Value.isStr y b) ho.isList (by simpa using uD hs b t) ?_
  rw[<-Array.any_toList,yl hs b];exact aR.bP (tk:=s.toks) S F (.bool _) q
end
end
section
variable{O:List Env}
abbrev zq(n:NX)(env:Env)(value slice:Expr)(a b:V)(ρ:Loc)(σ:AH)(Q:V->Loc->AH->Prop):Prop:=iI n env (subscriptTail value slice) a b ρ σ Q
noncomputable def fm(slice:Expr):Prop:=∀o i,subscripted slice false o i=operate [o,i] (getItem o i)
section
variable{n:NX}{env:Env}{ρ:Loc}{σ:AH}{Q:V->Loc->AH->Prop}
theorem Qc{value slice:Expr}{pos:Pos}(h:Ex n env value ρ σ (DG n env (subscriptTail value slice) slice Q)):Ex n env (.Subscript value slice pos) ρ σ Q:=
 λA s hA S F _=>Subscript_ (two h hA S F)
theorem ml{k:Int}{m j:Nat}(h0:k=(j:Int))(h1:j<m):seqIndex? k m=some j:=by
 subst h0;rw[seqIndex_of (by exact(qW (z6))) (by exact(DA (Cr h1)))];rfl
theorem tA{value slice:Expr}{l:List V}{k:Int}{j:Nat}{v:V}(hk:k=(j:Int))(hv:l[j]? =some v)(hj:j<2^62)(q:Q v ρ σ)(hs:autoParam (fm slice) Pz):zq n env value slice (.tup l) (.int k) ρ σ Q:=λu w A s hA S F r=>by
 obtain⟨a,vs,m,rfl,ht,rs⟩:=ay.cR r.1;obtain⟨t,rfl⟩:=ay.int_inv r.2;obtain⟨y,hy,ry⟩:=rs.get hv;have gT:j<vs.size:=by have:=List.getElem?_eq_some_iff.mp hy;simpa using this.1
 have Xb:s.heap.IsTuple a vs:=⟨_,ht,rfl,_,rfl⟩;refine tail_any (T:="tuple") Xb.typeIs slot_tuple_getitem.lookup (P.getItem_tuple (k:=j) ht (by exact Vr hk) (by exact RH hj hk) (ml hk gT) (by simpa using hy) ?_) (hs _ _)
 exact aR.bP (tk:=s.toks) S F ry q
theorem cz{value slice:Expr}{a:Addr}{l:List V}{k:Int}{j:Nat}{v:V}(ha:σ a=some (.list l))(hk:k=(j:Int))(hv:l[j]? =some v)(hj:j<2^62)(q:Q v ρ σ)(hs:autoParam (fm slice) Pz):zq n env value slice (.lst a) (.int k) ρ σ Q:=λu w A s hA S F r=>by
 obtain rfl:=ay.lst_inv r.1;obtain⟨t,rfl⟩:=ay.int_inv r.2;have o:=S.objs _ _ ha;cases o with
 | list ho rs=>
  obtain⟨y,hy,ry⟩:=rs.get hv;refine tail_any ho.isList.typeIs slot_list_getitem.lookup (wpAny_getItem_list ho.isList (by exact XH hk) (by exact RH hj hk) (x:=y) (by rw[hk];simpa using hy) ?_) (hs _ _)
  exact aR.bP (tk:=s.toks) S F ry q
theorem iY{value slice:Expr}{x:Str}{k:Int}{j:Nat}{d:Nat}(hk:k=(j:Int))(hv:x.cps.toList[j]? =some d)(hj:j<2^62)(q:Q (.str ⟨#[d]⟩) ρ σ)(hs:autoParam (fm slice) Pz):zq n env value slice (.str x) (.int k) ρ σ Q:=λu w A s hA S F r=>by
 obtain⟨t,rfl⟩:=ay.str_inv r.1;obtain⟨t',rfl⟩:=ay.int_inv r.2;have gT:j<x.length:=by have:=List.getElem?_eq_some_iff.mp hv;have h2:=this.1;rw[Array.length_toList]at h2;exact h2
 refine tail_any (T:="str") (typeIs_str s x t) PySem.F.slot_str_getitem.lookup (P.getItem_str (c:=d) ?_ ?_ ?_) (hs _ _)
 ·simp only[Bool.or_eq_false_iff,decide_eq_false_iff_not];exact XI hj hk
 ·rw[ml hk gT];simpa using hv
 ·exact aR.bP (tk:=s.toks+1) S F (.str _ _) q
noncomputable def JG(n:NX)(env:Env)(o:Option Expr)(ρ:Loc)(σ:AH)(Q:Option Int->Loc->AH->Prop):Prop:=match o with
 | none=>Q none ρ σ
 | some e=>Ex n env e ρ σ (λv ρ' af=>match v with | .int i=>Q (some i) ρ' af | _=>False)
noncomputable def DM(n:NX)(env:Env)(value slice:Expr)(a:V)(l u k:Option Int)(ρ:Loc)(σ:AH)(Q:V->Loc->AH->Prop):Prop:=
 ∀(A:Around)(s:Shared)(w:Value)(sl:Addr)(vl vu vk:Value),fp env A n->St s.heap σ->dh (cY env A) env s.heap σ ρ->ay s.heap w a->s.heap.IsSliceOf sl vl vu vk->IsPart vl l->IsPart vu u->IsPart vk k->
  wpAny (model c.prog c.w) A (subscriptTail value slice w (.ref sl)) (aR (cY env A) env σ s ay Q) (EPost (cY env A) env σ s n.X) s
theorem pN{o:Option Expr}{Q:Option Int->Loc->AH->Prop}(h:JG n env o ρ σ Q){A:Around}{s:Shared}(hA:fp env A n)(S:St s.heap σ)(F:dh (cY env A) env s.heap σ ρ){P:Value->Shared->Prop}{E:Value->Shared->Prop}(hE:∀u s',EPost (cY env A) env σ s n.X u s'->E u s')
  (k:∀u h' tk i ρ' af,St h' af->dh (cY env A) env h' af ρ'->Fm (cY env A) env σ s.heap h' af->IsPart u i->Q i ρ' af->P u { s with heap:=h',toks:=tk }):wpAny (model c.prog c.w) A (evalPart o env) P E s:=by
 cases o with
 | none=>rw[evalPart_none];exact wpAny_pure (k .none s.heap s.toks none ρ σ S F (.refl ..) .none h)
 | some e=>
  rw[evalPart_some];refine wpAny_mono (h A s hA S F trivial) (λu s' p=>?_) hE
  obtain⟨h',tk,v,ρ',af,rfl,S',F',M,r,q⟩:=p;cases v<;>first | exact False.elim q | skip
  obtain⟨t,rfl⟩:=r.int_inv;exact k _ h' tk _ ρ' af S' F' M (.int _ t) q
theorem BD{value:Expr}{lo hi st:Option Expr}{p pos:Pos}(h:Ex n env value ρ σ (λa bJ aI=>JG n env lo bJ aI (λl d5 bU=>JG n env hi d5 bU (λu rm fE=>JG n env st rm fE (λk wg ki=>DM n env value (.Slice lo hi st p) a l u k wg ki Q))))):Ex n env (.Subscript value (.Slice lo hi st p) pos) ρ σ Q:=λA s hA S F _=>by
 refine Subscript_ (wpAny_mono (h A s hA S F trivial) (λw s1 p1=>wpAny_Slice ?_) λ_ _ x=>x)
 obtain⟨h1,gv,a,bJ,aI,rfl,S1,F1,M1,r1,q1⟩:=p1;refine pN q1 (s:={ s with heap:=h1,toks:=gv }) hA S1 F1 (λ_ _ z=>z.trans M1) λvl h2 oh l d5 bU S2 F2 M2 pl q2=>?_
 refine pN q2 (s:={ s with heap:=h2,toks:=oh }) hA S2 F2 (λ_ _ z=>z.trans (M1.trans M2)) λvu h3 Aq u rm fE S3 F3 M3 pu q3=>?_
 refine pN q3 (s:={ s with heap:=h3,toks:=Aq }) hA S3 F3 (λ_ _ z=>z.trans ((M1.trans M2).trans M3)) λvk h4 J8 k wg ki S4 F4 M4 pk q4=>?_
 have r4:=((r1.step S1 F1 M2).step S2 F2 M3).step S3 F3 M4;have M:=((M1.trans M2).trans M3).trans M4;have kp:=aO (h:=h4) { cls:=.type "slice",data:=.fields #[vl,vu,vk] };have M5:Fm (cY env A) env ki h4 (h4.push { cls:=.type "slice",data:=.fields #[vl,vu,vk] }) ki:=.ext kp;exact wpAny_mono (q4 A { s with heap:=_,toks:=J8 } w _ vl vu vk hA (S4.ext kp) (F4.ext' kp) (r4.keep λb o e _=>kp b o e) (Heap.IsSliceOf.new ..) pl pu pk) (λ_ _ z=>z.trans (M.trans M5)) λ_ _ z=>z.trans (M.trans M5)
theorem gH{value slice:Expr}{x:Str}{l u:Option Int}(hx:x.length<=sizeLine)(q:Q (.str (Txt.slice x l u)) ρ σ)(hs:autoParam (∀o i,∃ops,subscripted slice false o i=operate ops (getItem o i)) Gy):DM n env value slice (.str x) l u none ρ σ Q:=λA s w sl vl vu vk hA S F r Dz pl pu pk=>by
 obtain⟨t,rfl⟩:=ay.str_inv r;obtain⟨ops,ho⟩:=hs (.str x t) (.ref sl);cases pk;have mk:∀{v:Value}{i:Option Int},IsPart v i->∃p:Option (Int×Tok),partValue p=v/\p.map (·.1)=i:=λz=>by
  cases z with
  | none=>exact⟨none,rfl,rfl⟩
  | int i t=>exact⟨some (i,t),rfl,rfl⟩
 obtain⟨SU,rfl,el⟩:=mk pl;obtain⟨S9,rfl,eu⟩:=mk pu;refine tail_any (T:="str") (typeIs_str s x t) PySem.F.slot_str_getitem.lookup (wpAny_getItem_str_slice (l:=SU) (u:=S9) (st:=none) Dz rfl ?_) ho;refine post_val_or_str ⟨?_,λt' k=>?_⟩
 ·show(Txt.slice x (SU.map (·.1)) (S9.map (·.1))).length<=sizeLine
  exact Nat.le_trans (Txt.slice_le x _ _) hx
 ·show aR (cY env A) env σ s ay Q (.str (Txt.slice x (SU.map (·.1)) (S9.map (·.1))) t') { s with toks:=k }
  rw[el,eu];exact aR.bP (tk:=k) S F (.str _ _) q
end
end
section
variable{O:List Env}
noncomputable def dg(l:List (Str×V))(k:Str):Option V:=(l.find? λkv=>kv.1=k).map (·.2)
noncomputable def b7(l:List (Str×V))(k:Str)(v:V):List (Str×V):=
 if l.any (λkv=>kv.1=k) then l.map (λkv=>if kv.1=k then (kv.1,v) else kv) else l++[(k,v)]
theorem dA{β:Type}{l:List (Str×β)}{y k:Str}{v:β}:(((y,v)::l).find? λkv=>kv.1=k).map (·.2)=if y=k then some v else (l.find? λkv=>kv.1=k).map (·.2):=by
 by_cases h:y=k
 ·rw[if_pos h];show Option.map _ (match decide (y=k) with | true=>some (y,v) | false=>_)=_;rw[decide_eq_true h];rfl
 ·rw[if_neg h];show Option.map _ (match decide (y=k) with | true=>some (y,v) | false=>_)=_;rw[decide_eq_false h]
theorem dk.ind{h:Heap}{P:List (Str×Value)->List (Str×V)->Prop}(n:P [] [])(k:∀{k u v kvs l},ay h u v->dk h kvs l->P kvs l->P ((k,u)::kvs) ((k,v)::l)){kvs:List (Str×Value)}{l:List (Str×V)}(r:dk h kvs l):P kvs l:=
 @dk.rec h (λkvs l _=>P kvs l) n (λhv hs b=>k hv hs b) kvs l r
theorem dk.length{h:Heap}{kvs:List (Str×Value)}{l:List (Str×V)}(r:dk h kvs l):kvs.length=l.length:=dk.ind (P:=λkvs l=>kvs.length=l.length) rfl (λ_ _ ih=>congrArg (· +1) ih) r
theorem dk.get{h:Heap}{kvs:List (Str×Value)}{l:List (Str×V)}(r:dk h kvs l)(k:Str):
  (∀v,dg l k=some v->∃u,valueAt kvs k=some u/\ay h u v)/\(dg l k=none->valueAt kvs k=none):=
 dk.ind (P:=λkvs l=>(∀v,dg l k=some v->∃u,valueAt kvs k=some u/\ay h u v)/\(dg l k=none->valueAt kvs k=none)) ⟨λv e=>(nomatch e),λ_=>rfl⟩ (λ{k' u v kvs l} hv _ ih=>by
  rw[show dg ((k',v)::l) k=_ from dA,show valueAt ((k',u)::kvs) k=_ from dA]
  by_cases hk:k'=k
  ·rw[if_pos hk,if_pos hk];exact⟨λw e=>⟨_,rfl,Option.some.inj e▸hv⟩,λe=>(nomatch e)⟩
  ·rw[if_neg hk,if_neg hk];exact ih) r
theorem dk.any{h:Heap}{kvs:List (Str×Value)}{l:List (Str×V)}(r:dk h kvs l)(k:Str):kvs.any (λkv=>kv.1=k)=l.any (λkv=>kv.1=k):=
 dk.ind (P:=λkvs l=>kvs.any (λkv=>kv.1=k)=l.any (λkv=>kv.1=k)) rfl (λ_ _ ih=>congrArg (_ || ·) ih) r
theorem dk.IZ{h:Heap}{kvs:List (Str×Value)}{l:List (Str×V)}(r:dk h kvs l)(k:Str){u:Value}{v:V}(q:ay h u v):
  dk h (kvs.map λkv=>if kv.1=k then (kv.1,u) else kv) (l.map λkv=>if kv.1=k then (kv.1,v) else kv):=
 dk.ind (P:=λkvs l=>dk h (kvs.map λkv=>if kv.1=k then (kv.1,u) else kv) (l.map λkv=>if kv.1=k then (kv.1,v) else kv)) .nil (λ{k' u' v' kvs l} hv hs ih=>by
  show dk h ((if k'=k then (k',u) else (k',u'))::_) ((if k'=k then (k',v) else (k',v'))::_)
  by_cases hk:k'=k
  ·rw[if_pos hk,if_pos hk];exact .cons q ih
  ·rw[if_neg hk,if_neg hk];exact .cons hv ih) r
theorem dk.snoc{h:Heap}{kvs:List (Str×Value)}{l:List (Str×V)}(r:dk h kvs l)(k:Str){u:Value}{v:V}(q:ay h u v):dk h (kvs++[(k,u)]) (l++[(k,v)]):=
 dk.ind (P:=λkvs l=>dk h (kvs++[(k,u)]) (l++[(k,v)])) (.cons q .nil) (λhv _ ih=>.cons hv ih) r
theorem dk.stored{h:Heap}{kvs:List (Str×Value)}{l:List (Str×V)}(r:dk h kvs l)(k:Str){u:Value}{v:V}(q:ay h u v):dk h (PySem.stored kvs k u) (b7 l k v):=by
 unfold PySem.stored b7;rw[r.any k];split
 ·exact r.IZ k q
 ·exact r.snoc k q
inductive O6(prog:Program)(h:Heap)(a:Addr)(kvs:List (Str×Value)):Prop
 | mk(es:Array DictEntry)(ep:Nat)(ho:h.get? a=some { cls:=.type "dict",data:=.dict es ep })(hk:KeysOf (strKind prog w) es)(hp:Pairs (strKind prog w) es.toList kvs)
theorem eB{prog:Program}{h:Heap}{a:Addr}{kvs:List (Str×Value)}(d:h.DictOf (strKind prog w) a kvs):O6 prog h a kvs:=by
 obtain⟨⟨oc,od,Vq,os⟩,es,ep,ho,⟨hc,hd,hs⟩,Il,hk,hp,_⟩:=d;cases hc;cases hd;cases hs;cases Il;exact⟨es,ep,ho,hk,hp⟩
set_option tactic.hygienic true in
theorem wQ{prog:Program}{es:List DictEntry}{kvs:List (Str×Value)}(hp:Pairs (strKind prog w) es kvs)(k:Str):(es.find? λe=>e.key.isStr k).map (·.val)=valueAt kvs k:=by
 rw[<-hp.find k];have:(λe:DictEntry=>(strKind prog w).is k e.key)=λe=>e.key.isStr k:=funext λe=>(isStr_of k e.key).symm
 rw[this]
theorem rW{prog:Program}{es:Array DictEntry}(hk:KeysOf (strKind prog w) es):es.toList.any (λx=>x.refKey)=false:=by
 rw[List.any_eq_false];intro e he;obtain⟨k,h1,_⟩:=hk e (Array.mem_toList_iff.mp he);obtain⟨t,h2⟩:=Value.isStrOf_shape h1;unfold DictEntry.refKey;rw[h2];exact nofun
theorem nq{prog:Program}{es:Array DictEntry}{ep:Nat}{kvs:List (Str×Value)}(hk:KeysOf (strKind prog w) es)(hp:Pairs (strKind prog w) es.toList kvs)(k:Str):lookIn k { cls:=.type "dict",data:=.dict es ep }=some (valueAt kvs k):=by
 have e:=wQ hp k;unfold lookIn;dsimp only;cases z:List.find? (λx=>x.key.isStr k) es.toList with
 | some en=>rw[z]at e;dsimp only;rw[<-e];rfl
 | none=>rw[z]at e;dsimp only;rw[rW hk, <-e];rfl
structure ua(C:Addr):Prop where
 get:plainGet c.K C "x"=true
 dict:hasDictIn c.K C=true
 set:findIn c.K (.ref C) "__setattr__"=some (some (.builtin "object.__setattr__"))
 over:plainOver c.K C=true
noncomputable def Bc(C:Addr)(x:Str):Prop:=findIn c.K (.ref C) x=some none
theorem zH{h:Heap}{u:Value}{v:V}(r:ay h u v)(hg:∀w,v≠.glob w):handedIn u=true:=(qu r hg).1
section
variable{n:NX}{env:Env}{ρ:Loc}{σ:AH}{Q:V->Loc->AH->Prop}
theorem DV{value:Expr}{attr:Str}{pos:Pos}(h:Ex n env value ρ σ (Ub n env (λo=>getAttr o attr true) Q))
  (he:eval (.Attribute value attr pos) env=(do
   let o <-eval value env
   PySem.standAt pos.atName
   let r <-PySem.holding [o] (getAttr o attr true)
   letTemporaryGo value o r
   Pure.pure r):=by with_unfolding_all rfl):Ex n env (.Attribute value attr pos) ρ σ Q:=λA s hA S F _=>by
 refine Attribute_any_ (wpAny_mono (h A s hA S F trivial) (λu s1 p=>?_) λ_ _ x=>x) he
 obtain⟨h1,gv,a,bJ,aI,rfl,S1,F1,M1,r1,q1⟩:=p;exact(q1 u).go (s:=s) hA M1 S1 F1 r1
theorem ax{C d:Addr}{attr:Str}{l:List (Str×V)}{v:V}(co:ua C)(na:Bc C attr)(hd:σ d=some (.dict l))(hv:dg l attr=some v)(hg:∀w,v≠.glob w)(q:Q v ρ σ):KN n env (λo=>getAttr o attr true) (.inst C d) ρ σ Q:=λu A s hA S F r=>by
 obtain⟨x,rfl,hx⟩:=ay.jC r;have o:=S.objs _ _ hd;cases o with
 | dict ho hs=>
  obtain⟨es,ep,kQ,hk,hp⟩:=eB ho;obtain⟨w,hw,rw_⟩:=(hs.get attr).1 v hv;have I:InstAt s.heap x (instObj C d) C (some { cls:=.type "dict",data:=.dict es ep }):=⟨hx,rfl,rfl,kQ⟩;refine get_value (S.oO) I (plainGet_of co.get).1 (findObj_own (attr:=none) co.dict na rfl (by rw[nq hk hp,hw])) (zH rw_ hg) ?_
  exact aR.bP (tk:=s.toks+1) S F rw_ q
end
namespace f9
@[reducible] noncomputable def P(prog:Program)(A:Around)(E:Value->Shared->Prop)(s:Shared)(d:Addr)(kvs:List (Str×Value))(name:Str)(v:Value)(Q:Unit->Shared->Prop):Prop:=∀(hm:s.heap.DictOf (strKind prog w) d kvs)(hQ:∀h',h'.DictOf (strKind prog w) d (stored kvs name v)->Heap.SameBut d s.heap h'->Q () { s with heap:=h',toks:=s.toks+1 }),wpAny (model prog w) A (nsSet d name v) Q E s
noncomputable def Q_:=UU λprog=>UU λA=>UU λE=>UU λs=>UU λd=>UU λkvs=>UU λname=>UU (P prog A E s d kvs name)
noncomputable def x_:=xx Q_ (default,({}:Around),(λ_ _=>True),({}:Shared),(0:Nat),[],"",default,(λ_ _=>True))
def prog:=x_.1
def A:=x_.2.1
def E:=x_.2.2.1
def s:=x_.2.2.2.1
def d:=x_.2.2.2.2.1
def kvs:=x_.2.2.2.2.2.1
def name:=x_.2.2.2.2.2.2.1
def v:=x_.2.2.2.2.2.2.2.1
def Q:=x_.2.2.2.2.2.2.2.2
set_option tactic.hygienic true in
theorem go:P prog A E s d kvs name v Q:=by
 intro hm hQ;obtain⟨⟨oc,od,Vq,os⟩,es,ep,ho,⟨hc,hd,hs⟩,Il,hk,hp,hn⟩:=hm;cases hc;cases hd;cases hs;cases Il;unfold nsSet;refine wpAny_bind (wpAny_bind (wpAny_askSetting (wpAny_pure (wpAny_bind (wpAny_mkText (wpAny_bind (wpAny_loadPart ho ?_)))))));dsimp only;have c:aRefKeyMayBeTheName name es=false:=by
  rw[aRefKeyMayBeTheName_at, <-Array.any_toList, <-Array.any_toList,rW hk,Bool.and_false]
 rw[c];have key:(PySem.strKind prog w).is name (.str name s.toks)=true:=by show(name==name)=true;exact beq_self_eq_true _
 have idx:(es.findIdx? λe=>e.key.isStr name)=kvs.findIdx? λkv=>decide (kv.1=name):=by
  rw[<-hp.findIdx name];have:(λe:DictEntry=>(strKind prog w).is name e.key)=λe=>e.key.isStr name:=funext λe=>(isStr_of name e.key).symm
  rw[this];obtain⟨l⟩:=es;simp
 refine wpAny_updatePart ho ?_;refine hQ _ ?_ (Heap.SameBut.update ..);rw[Obj.putName_eq];cases hi:es.findIdx? λe=>e.key.isStr name with
 | some i=>
  have hl:(es.toList.findIdx? λe=>(strKind prog w).is name e.key)=some i:=by
   rw[hp.findIdx name, <-idx,hi]
  have e1:Obj.putNameByArray name (hashStr w name) (.str name s.toks) v { cls:=.type "dict",dict:=none,data:=.dict es ep,slots:= #[] }={ cls:=.type "dict",dict:=none,data:=.dict (es.modify i λe=>{ e with val:=v }) ep,slots:= #[] }:=by
   unfold Obj.putNameByArray;dsimp only;rw[hi]
  have BO:=Heap.get?_update_self (Obj.putNameByArray name (hashStr w name) (.str name s.toks) v) ho (by rw[e1];rfl)
  rw[e1]at BO;refine⟨_,_,ep,BO,⟨rfl,rfl,rfl⟩,rfl,hk.modify _ _,?_,?_⟩
  ·rw[stored,if_pos (any_of_findIdx_some (idx▸hi))]
   have:=hp.modify hn hl v;obtain⟨l⟩:=es;simpa using this
  ·rw[stored,if_pos (any_of_findIdx_some (idx▸hi)),keys_map_store];exact hn
 | none=>
  have LR:name∉kvs.map (·.1):=not_mem_of_findIdx_none (idx▸hi)
  have Lw:¬(kvs.any λkv=>decide (kv.1=name))=true:=by
   rw[List.any_eq_true];rintro⟨kv,WH,he⟩;exact LR (List.mem_map.mpr ⟨kv,WH,of_decide_eq_true he⟩)
  have e1:Obj.putNameByArray name (hashStr w name) (.str name s.toks) v { cls:=.type "dict",dict:=none,data:=.dict es ep,slots:= #[] }={ cls:=.type "dict",dict:=none,data:=.dict (es.push ⟨hashStr w name,.str name s.toks,v⟩) (ep+1),slots:= #[] }:=by
   unfold Obj.putNameByArray;dsimp only;rw[hi]
  have BO:=Heap.get?_update_self (Obj.putNameByArray name (hashStr w name) (.str name s.toks) v) ho (by rw[e1];rfl)
  rw[e1]at BO;refine⟨_,_,ep+1,BO,⟨rfl,rfl,rfl⟩,rfl,hk.push key _,?_,?_⟩
  ·rw[stored,if_neg Lw]
   have:=hp.append key (hashStr w name) v;obtain⟨l⟩:=es;simpa using this
  ·rw[stored,if_neg Lw,List.map_append,List.nodup_append]
   refine⟨hn,by exact Ac,?_⟩
   intro a ha b hb;simp only[List.map_cons,List.map_nil,List.mem_singleton]at hb;subst hb;exact λe=>LR (e▸ha)
end f9
theorem kS{prog:Program}{A:Around}{E:Value->Shared->Prop}{s:Shared}{d:Addr}{kvs:List (Str×Value)}{name:Str}{v:Value}{Q:Unit->Shared->Prop}(hm:s.heap.DictOf (strKind prog w) d kvs)(hQ:∀h',h'.DictOf (strKind prog w) d (stored kvs name v)->Heap.SameBut d s.heap h'->Q () { s with heap:=h',toks:=s.toks+1 }):wpAny (model prog w) A (nsSet d name v) Q E s:=(xa (Q:=f9.Q_) f9.go (prog,A,E,s,d,kvs,name,v,Q):f9.P prog A E s d kvs name v Q) hm hQ
section
variable{n:NX}{env:Env}{ρ:Loc}{σ:AH}
theorem aP{C d:Addr}{attr:Str}{l:List (Str×V)}{v:V}{Q:Unit->Loc->AH->Prop}(co:ua C)(na:Bc C attr)(hd:σ d=some (.dict l))(hl:l.length<=1000)(q:Q () ρ (σ.put d (.dict (b7 l attr v)))):
  ∀u w,Tr n env ρ σ ((HP.v u (.inst C d)).and (HP.v w v)) (setAttr u attr w) kG Q:=λu w A s hA S F r=>by
 obtain⟨r1,r2⟩:=r;obtain⟨x,rfl,hx⟩:=ay.jC r1;have o:=S.objs _ _ hd;have X0:=S.oO;cases o with
 | @dict kvs _ ho hs=>
  obtain⟨es,ep,kQ,hk,hp⟩:=eB ho;have I:InstAt s.heap x (instObj C d) C (some { cls:=.type "dict",data:=.dict es ep }):=⟨hx,rfl,rfl,kQ⟩;refine set_plain X0 I co.set ?_;obtain⟨cd,hc,BM⟩:=any_some co.dict;refine osa_open (s:={ s with toks:=s.toks+1 }) (r:=none) X0 I co.over (by unfold takerIn;rw[na];rfl) λb=>?_
  have Lk:Looks (model c.prog c.w) ({ s with toks:=s.toks+1 }:Shared).heap (classData C) cd:=looks_clsIn X0 hc
  refine wpAny_bind (wpAny_pure (wpAny_bind (wpAny_bind (wpAny_loadPart hx (wpAny_bind (Lk.here (s:={ s with toks:=s.toks+1 }) ?_))))))
  rw[BM];refine wpAny_pure (a:=some d) (wpAny_bind (wpAny_pure (wpAny_bind (kS (s:={ s with toks:=s.toks+1 }) ho λh' mH sb=>?_))))
  obtain⟨GF,Lg,BS,GR,BV⟩:=eB mH;have hz:GF.size<=sizeLine+1:=by
   have e1:=BV.length;have e2:(stored kvs attr w).length<=kvs.length+1:=by unfold stored;split<;>simp
   have e3:=hs.length;rw[Array.length_toList]at e1;rw[sizeLine_eq];exact bD (.e .A .B (.e .C .D (.l .D (.a .A .O) (.l .B (.k 1000) (.g .C (.a (.k 16777216) .O)))))) rfl e3 e1 e2 hl
  refine wpAny_bind (wpAny_lookBehind BS (pastItsLine_dict hz) (wpAny_pure ?_));refine aR.upd (s:=s) S F hd sb (.dict mH ?_) rfl q;exact(hs.stored attr r2).keep (cb (S.objs _ _ hd) sb)
end
end
section
variable{O:List Env}
noncomputable def Keeps(f:Value):Prop:=∀h:Heap,c.K.In h->∃k,(k=Keeper.frame\/k=Keeper.machine\/k=Keeper.boundFrame)/\Looks (model c.prog c.w) h (keeperOf f) k
theorem jX{a:Addr}(h:keepIn c.K (.ref a)=true):Keeps (.ref a):=keeps_K h
theorem az{i:String}:Keeps (.builtin i):=λh _=>⟨.machine,.inr (.inl rfl),Looks.of_pure rfl⟩
theorem xf{i:String}:Keeps (.type i):=λh _=>⟨.machine,.inr (.inl rfl),Looks.of_pure rfl⟩
theorem lQ{M:Model}{A:Around}{E:Value->Shared->Prop}{s:Shared}{f:Value}{args:List (Bool×Sem Value)}{Q:Args->Shared->Prop}(hp:args.any (·.1)=false)(h:wpAny M A (spliced args) (λvs s'=>Q ⟨vs,[]⟩ s') E s):wpAny M A (evalArgs f true args []) Q E s:=by
 cases args with
 | nil=>
  unfold evalArgs;show wpAny M A (spliced [] >>=_) Q E s;refine wpAny_bind (wpAny_mono h (λvs s' h'=>?_) λ_ _ x=>x)
  refine wpAny_bind (wpAny_pure ?_);refine wpAny_holding ?_;exact wpAny_bind (wpAny_pure (wpAny_bind (wpAny_pure (wpAny_pure h'))))
 | cons x r=>
  obtain⟨b,x⟩:=x;simp only[List.any_cons,Bool.or_eq_false_iff]at hp;cases hp.1;exact evalArgs_plain h
noncomputable def Bb(n:NX)(env:Env)(name:Str)(a:V)(f:Value)(ρ:Loc)(σ:AH):Prop:=
 ∀(A:Around)(s:Shared)(pl:Sem Bool)(u:Value)(Q:Value×List Value->Shared->Prop)(E:Value->Shared->Prop),fp env A n->St s.heap σ->ay s.heap u a->(∀tk,Q (f,[u]) { s with toks:=tk })->wpAny (model c.prog c.w) A (getMethod u name pl) Q E s
section
variable(n:NX)(env:Env)
abbrev t8(f:Value)(Q:V->Loc->AH->Prop):List V->Loc->AH->Prop:=λvs ρ σ=>cK n env f vs ρ σ Q
abbrev Kr(f:Value)(a:V)(Q:V->Loc->AH->Prop):List V->Loc->AH->Prop:=λvs ρ σ=>cK n env f (a::vs) ρ σ Q
abbrev Pd(args:List Expr)(Q:V->Loc->AH->Prop):V->Loc->AH->Prop:=λa ρ σ=>∃f,a=.glob f/\Keeps f/\rt n env args ρ σ (t8 n env f Q)
inductive KH(name:Str)(args:List Expr)(Q:V->Loc->AH->Prop)(a:V)(ρ:Loc)(σ:AH):Prop
 | mk(f:Value)(gm:Bb n env name a f ρ σ)(kf:Keeps f)(q:rt n env args ρ σ (Kr n env f a Q))
abbrev KG(name:Str)(args:List Expr)(Q:V->Loc->AH->Prop):V->Loc->AH->Prop:=λa ρ σ=>KH n env name args Q a ρ σ
end
section
variable{n:NX}{env:Env}{ρ:Loc}{σ:AH}{Q:V->Loc->AH->Prop}
theorem nQ{pos:Pos}{f:Value}{first:List Value}{fv:List V}{args:List Expr}(kf:Keeps f)(hp:args.all fA=true)
  (h:rt n env args ρ σ (λvs d5 bU=>cK n env f (fv++vs) d5 bU Q)):Tr n env ρ σ (HP.vs first fv) (callWith pos f first (backTo pos (starEach args env)) []) ay Q:=λA s hA S F r=>by
 have hp:=plain_any hp pos env;refine callWith_of (P:=c.K.In) (by rw[hp];rfl) kf (lQ hp (wpAny_mono (h pos A s hA S F trivial) (λus s1 p=>?_) λ_ _ x=>x))
 obtain⟨h1,gv,vs,bJ,aI,rfl,S1,F1,M1,r1,q1⟩:=p;exact⟨S1.oO,(q1 _).go (s:=s) hA M1 S1 F1 ((r.step S F M1).append r1)⟩
theorem oH{func:Expr}{args:List Expr}{pos:Pos}
  (h:Ex n env func ρ σ (Pd n env args Q))
  (he:autoParam (eval (.Call func args [] pos) env=(do callWith pos (<-eval func env) [] (backTo pos (starEach args env)) (backToKw pos (keywordEach [] env)))) cB)
  (hp:autoParam (args.all fA=true) cB):Ex n env (.Call func args [] pos) ρ σ Q:=λA s hA S F _=>by
 rw[he];refine wpAny_bind (wpAny_mono (h A s hA S F trivial) (λu s1 p=>?_) λ_ _ x=>x)
 obtain⟨h1,gv,a,bJ,aI,rfl,S1,F1,M1,r1,f,rfl,kf,q1⟩:=p;obtain rfl:=r1.dB;exact(nQ (fv:=[]) kf hp q1).go (s:=s) hA M1 S1 F1 .nil
theorem aB{o:Expr}{name:Str}{args:List Expr}{apos pos:Pos}
  (h:Ex n env o ρ σ (KG n env name args Q))
  (hb:autoParam (attributeBase o name env (eval o env)=eval o env) KU)
  (LM:autoParam (methodCallForm (args.length+([]:List Keyword).length) (backTo pos (starEach args env)) (backToKw pos (keywordEach [] env))=true) cB) (hl:autoParam ((apos.endLine==pos.line)=true) cB)
  (hp:autoParam (args.all fA=true) cB):Ex n env (.Call (.Attribute o name apos) args [] pos) ρ σ Q:=λA s hA S F _=>by
 rw[arm_eval_Call,hb];refine wpAny_bind (wpAny_mono (h A s hA S F trivial) (λu s1 p=>?_) λ_ _ x=>x)
 obtain⟨h1,gv,a,bJ,aI,rfl,S1,F1,M1,r1,f,gm,kf,q1⟩:=p;have QM:methodCallPos true o env apos pos=Pure.pure pos:=by unfold methodCallPos;simp[hl]
 refine wpAny_bind (wpAny_standAt ?_);unfold methodCall;rw[LM];refine wpAny_bind (wpAny_holding (gm A _ _ u _ _ hA S1 r1 λtk=>?_))
 refine wpAny_bind (wpAny_of_eq QM ?_);exact(nQ (fv:=[a]) kf hp q1).go (s:=s) hA M1 S1 F1 (.cons r1 .nil)
theorem a9{C d:Addr}{name:Str}{f:Addr}{l:List (Str×V)}(co:ua C)(hf:findIn c.K (.ref C) name=some (some (.ref f)))(ht:isFn c.K (.ref f)=true)(hd:σ d=some (.dict l))(hn:dg l name=none):Bb n env name (.inst C d) (.ref f) ρ σ:=λA s pl u Q E hA S r q=>by
 obtain⟨x,rfl,hx⟩:=ay.jC r;have o:=S.objs _ _ hd;cases o with
 | dict ho hs=>
  obtain⟨es,ep,kQ,hk,hp⟩:=eB ho;have I:InstAt s.heap x (instObj C d) C (some { cls:=.type "dict",data:=.dict es ep }):=⟨hx,rfl,rfl,kQ⟩;refine method_fn (S.oO) I (plainGet_of co.get).1 (plainGet_of co.get).2 hf (beq_iff_eq.mp ht) ?_ (q s.toks);show(lookIn name _).map _=_;rw[nq hk hp,(hs.get name).2 hn];rfl
theorem bw{a:Addr}{l:List V}{name:Str}{id:String}(slot:Slot "list" name id)(ty:typeOf (.builtin id)=pure (.type "method_descriptor"))(ha:σ a=some (.list l)):Bb n env name (.lst a) (.builtin id) ρ σ:=λA s pl u Q E hA S r q=>by
 obtain rfl:=ay.lst_inv r;have o:=S.objs _ _ ha;cases o with
 | list ho hs=>exact getMethod_builtin (T:="list") ⟨_,ho,rfl⟩ PySem.F.plainAttrs_list slot ty (λb e=>by cases e;exact⟨_,ho,rfl⟩) (q s.toks)
theorem Ef{a:Addr}{l:List (Str×V)}{name:Str}{id:String}(slot:Slot "dict" name id)(ty:typeOf (.builtin id)=pure (.type "method_descriptor"))(ha:σ a=some (.dict l)):Bb n env name (.qD a) (.builtin id) ρ σ:=λA s pl u Q E hA S r q=>by
 obtain rfl:=ay.oG r;have o:=S.objs _ _ ha;cases o with
 | dict ho hs=>
  obtain⟨es,ep,kQ,hk,hp⟩:=eB ho;exact getMethod_builtin (T:="dict") ⟨_,kQ,rfl⟩ PySem.F.plainAttrs_dict slot ty (λb e=>by cases e;exact⟨_,kQ,rfl⟩) (q s.toks)
theorem Ic{x:Str}{name:Str}{id:String}(slot:Slot "str" name id)(ty:typeOf (.builtin id)=pure (.type "method_descriptor")):Bb n env name (.str x) (.builtin id) ρ σ:=λA s pl u Q E hA S r q=>by
 obtain⟨t,rfl⟩:=ay.str_inv r;exact getMethod_builtin (T:="str") (typeIs_str _ _ _) PySem.F.plainAttrs_str slot ty (λb e=>by cases e) (q s.toks)
inductive Po(h:Heap)(us:List Value)(a:V):Prop
 | mk(u:Value)(e:us=[u])(r:ay h u a)
inductive Py(h:Heap)(us:List Value)(a b:V):Prop
 | mk(u v:Value)(e:us=[u,v])(r:ay h u a)(r':ay h v b)
theorem fD{h:Heap}{us:List Value}{a:V}(r:aE h us [a]):Po h us a:=by
 obtain⟨u,Gi,e,h1,h2⟩:=r.cons_inv;exact⟨u,by rw[e,h2.nil_inv],h1⟩
theorem d9{h:Heap}{us:List Value}{a b:V}(r:aE h us [a,b]):Py h us a b:=by
 obtain⟨u,Gi,e,h1,h2⟩:=r.cons_inv;obtain⟨v,e2,h3⟩:=fD h2;exact⟨u,v,by rw[e,e2],h1,h3⟩
theorem Dh{h:Heap}{us:List Value}{a b d:V}(r:aE h us [a,b,d]):∃u v w,us=[u,v,w]/\ay h u a/\ay h v b/\ay h w d:=by
 obtain⟨u,Gi,e,h1,h2⟩:=r.cons_inv;obtain⟨v,w,e2,h3,h4⟩:=d9 h2;exact⟨u,v,w,by rw[e,e2],h1,h3,h4⟩
theorem aZ{a:Addr}{l:List V}{v:V}(ha:σ a=some (.list l))(hl:l.length<=1000000)(q:Q .none ρ (σ.put a (.list (l++[v])))):cK n env (.builtin "list.append") [.lst a,v] ρ σ Q:=λus A s hA S F r=>by
 obtain⟨u,w,rfl,r1,r2⟩:=d9 r;obtain rfl:=ay.lst_inv r1;have o:=S.objs _ _ ha;cases o with
 | @list vs m _ ho hs=>
  have el:vs.size<=sizeLine:=by have:=hs.length;rw[Array.length_toList]at this;rw[sizeLine_eq];exact EJ this hl
  refine call_meets PySem.F.slot_list_append (T:="list") ⟨_,ho,rfl⟩ PySem.F.entry_list_append (PySem.F.args_list_append_2 _ _) (list_append a vs m w el) ⟨ho,?_⟩;refine aR.upd (s:=s) (tk:=s.toks) S F ha (Heap.SameBut.update ..) (.list (ho.update _) ?_) .none q;have k:=cb (S.objs _ _ ha) (Heap.SameBut.update s.heap a (Obj.mapSeq λx=>x.push w))
  simpa using (hs.keep k).snoc (r2.keep k)
theorem gy{a:Addr}{l:List V}{v:V}(ha:σ a=some (.list (l++[v])))(hl:l.length<=1000000)(q:Q v ρ (σ.put a (.list l))):cK n env (.builtin "list.pop") [.lst a] ρ σ Q:=λus A s hA S F r=>by
 obtain⟨u,rfl,r1⟩:=fD r;obtain rfl:=ay.lst_inv r1;have o:=S.objs _ _ ha;cases o with
 | @list vs m _ ho hs=>
  have e0:=hs.length;rw[Array.length_toList]at e0;simp only[List.length_append,List.length_cons,List.length_nil]at e0;have el:vs.size<=sizeLine:=by rw[sizeLine_eq];exact aH (.e .A (.a .B (.a .Z .O)) (.l .B (.k 1000000) (.g .A (.k 16777216)))) rfl e0 hl
  obtain⟨y,hy,ry⟩:=hs.get (i:=l.length) (v:=v) (by exact atS)
  have Xg:vs[vs.size-1]? =some y:=by rw[e0];simpa using hy
  refine call_meets PySem.F.slot_list_pop (T:="list") ⟨_,ho,rfl⟩ PySem.F.entry_list_pop (PySem.F.args_list_pop_1 _) (MeetsSeq.list_pop_last a vs m y Xg el) ⟨ho,?_⟩;have k:=cb (S.objs _ _ ha) (Heap.SameBut.update s.heap a (Obj.mapSeq λxs=>xs.eraseIdxIfInBounds (vs.size-1)))
  refine aR.upd (s:=s) (tk:=s.toks) S F ha (Heap.SameBut.update ..) (.list (ho.update _) ?_) (ry.keep k) q;have h2:=(hs.keep k).take l.length;rw[List.take_left]at h2;obtain⟨vl⟩:=vs;simp only[List.size_toArray]at e0;have:(vl.toArray.eraseIdxIfInBounds (vl.toArray.size-1)).toList=vl.take l.length:=by
   simp only[List.size_toArray,e0,Nat.add_sub_cancel,List.eraseIdxIfInBounds_toArray];rw[List.eraseIdx_eq_take_drop_succ,List.drop_eq_nil_of_le (by exact aH (.e .A (.a .B (.a .Z .O)) (.g .A (.a .B .O))) rfl e0),List.append_nil]
  rw[this];exact h2
theorem sR{a:Addr}{l:List V}(ha:σ a=some (.list l))(hl:l.length<=1000000)(q:Q .none ρ (σ.put a (.list l.reverse))):cK n env (.builtin "list.reverse") [.lst a] ρ σ Q:=λus A s hA S F r=>by
 obtain⟨u,rfl,r1⟩:=fD r;obtain rfl:=ay.lst_inv r1;have o:=S.objs _ _ ha;cases o with
 | @list vs m _ ho hs=>
  have el:vs.size<=sizeLine:=by have:=hs.length;rw[Array.length_toList]at this;rw[sizeLine_eq];exact EJ this hl
  refine call_meets PySem.F.slot_list_reverse (T:="list") ⟨_,ho,rfl⟩ PySem.F.entry_list_reverse (PySem.F.args_list_reverse_1 _) (AutoSeq1.list_reverse_list_0 a vs m el) ⟨ho,?_⟩;refine aR.upd (s:=s) (tk:=s.toks) S F ha (Heap.SameBut.update ..) (.list (ho.update _) ?_) .none q;have k:=cb (S.objs _ _ ha) (Heap.SameBut.update s.heap a (Obj.mapSeq λx=>x.reverse))
  simpa using (hs.keep k).reverse
theorem jw{a b:Addr}{l m:List V}(ha:σ a=some (.list l))(hb:σ b=some (.list m))(hl:l.length<=100000)(hm:m.length<=100000)(q:Q .none ρ (σ.put a (.list (l++m)))):cK n env (.builtin "list.extend") [.lst a,.lst b] ρ σ Q:=λus A s hA S F r=>by
 obtain⟨u,w,rfl,r1,r2⟩:=d9 r;obtain rfl:=ay.lst_inv r1;obtain rfl:=ay.lst_inv r2;have o:=S.objs _ _ ha;have o2:=S.objs _ _ hb;cases o with
 | @list vs k _ ho hs=>
  cases o2 with
  | @list tF k2 _ zN uP=>
   have e1:=hs.length;have e2:=uP.length;rw[Array.length_toList]at e1 e2;have el:vs.size<=sizeLine:=by rw[sizeLine_eq];exact aH (.e .A .B (.l .B (.k 100000) (.g .A (.k 16777216)))) rfl e1 hl
   have V8:vs.size+tF.size<=sizeLine+1:=by rw[sizeLine_eq];exact bD (.e .A .B (.e .C .D (.l .B (.k 100000) (.l .D (.k 100000) (.g (.a .A .C) (.a (.k 16777216) .O)))))) rfl e1 e2 hl hm
   have door:¬(!vs.isEmpty&&Builtin.List.listTooLong (vs.size+tF.size))=true:=by
    have:Builtin.List.listTooLong (vs.size+tF.size)=false:=by
     unfold Builtin.List.listTooLong;have:vs.size+tF.size<=200000:=by exact bD (.e .A .B (.e .C .D (.l .B (.k 100000) (.l .D (.k 100000) (.g (.a .A .C) (.k 200000)))))) rfl e1 e2 hl hm
     exact decide_eq_false (by rw[sizeLine_eq];exact(λz0=>bD (.e .A .B (.e .C .D (.l .B (.k 100000) (.l .D (.k 100000) (.t (.k 16777216) (.a .A .C) (.z)))))) rfl e1 e2 hl hm z0))
    rw[this,Bool.and_false];exact Bool.false_ne_true
   refine call_meets PySem.F.slot_list_extend (T:="list") ⟨_,ho,rfl⟩ PySem.F.entry_list_extend (PySem.F.args_list_extend_2 _ _) (AutoSeq1.list_extend_list_list_0 a vs k b tF k2 door el V8) ⟨ho,zN,?_⟩;refine aR.upd (s:=s) (tk:=s.toks) S F ha (Heap.SameBut.update ..) (.list (ho.update _) ?_) .none q;have k:=cb (S.objs _ _ ha) (Heap.SameBut.update s.heap a (Obj.mapSeq λxs=>xs++tF))
   simpa using (hs.keep k).append (uP.keep k)
theorem cg{x:Str}(hx:x.length<=1000000)(q:Q (.int x.length) ρ σ):cK n env (.builtin "len") [.str x] ρ σ Q:=λus A s hA S F r=>by
 obtain⟨u,rfl,r1⟩:=fD r;obtain⟨t,rfl⟩:=ay.str_inv r1;exact P.len_str (by exact(λz0=>aG (.l .A (.k 1000000) (.l (.k 9223372036854775808) .A (.z))) rfl hx (iL z0))) (aR.bP (tk:=s.toks+1+1) S F (.int _ _) q)
theorem aN{a:Addr}{l:List V}(ha:σ a=some (.list l))(hx:l.length<=1000000)(q:Q (.int l.length) ρ σ):cK n env (.builtin "len") [.lst a] ρ σ Q:=λus A s hA S F r=>by
 obtain⟨u,rfl,r1⟩:=fD r;obtain rfl:=ay.lst_inv r1;have o:=S.objs _ _ ha;cases o with
 | @list vs m _ ho hs=>
  have e1:=hs.length;rw[Array.length_toList]at e1;exact PySem.Calls.call_len_list ho.isList (by exact(DA (aH (.e .A .B (.l .B (.k 1000000) (.b .A (.k 9223372036854775808)))) rfl e1 hx))) (by rw[e1];exact aR.bP (tk:=s.toks+1+1) S F (.int _ _) q)
theorem lO{l:List V}(hx:l.length<=1000000)(q:Q (.int l.length) ρ σ):cK n env (.builtin "len") [.tup l] ρ σ Q:=λus A s hA S F r=>by
 obtain⟨u,rfl,r1⟩:=fD r;obtain⟨a,vs,m,rfl,ht,hs⟩:=ay.cR r1;have e1:=hs.length;rw[Array.length_toList]at e1;exact P.len_tuple ht (by exact(λz0=>aH (.e .A .B (.l .B (.k 1000000) (.l (.k 9223372036854775808) .A (.z)))) rfl e1 hx (iL z0))) (by rw[e1];exact aR.bP (tk:=s.toks+1+1) S F (.int _ _) q)
theorem Bt{i:Int}(q:Q (.int (if i<0 then -i else i)) ρ σ):cK n env (.builtin "abs") [.int i] ρ σ Q:=λus A s hA S F r=>by
 obtain⟨u,rfl,r1⟩:=fD r;obtain⟨t,rfl⟩:=ay.int_inv r1;exact call_abs_int λu tk=>aR.bP (tk:=tk) S F (.int _ _) q
theorem Bu{i:Int}(q:Q (.int i) ρ σ):cK n env (.type "int") [.int i] ρ σ Q:=λus A s hA S F r=>by
 obtain⟨u,rfl,r1⟩:=fD r;obtain⟨t,rfl⟩:=ay.int_inv r1;exact call_int_int (aR.bP (tk:=s.toks) S F (.int _ _) q)
theorem jx{i:Int}(q:Q (.Ag 0 i) ρ σ):cK n env (.type "range") [.int i] ρ σ Q:=λus A s hA S F r=>by
 obtain⟨u,rfl,r1⟩:=fD r;obtain⟨t,rfl⟩:=ay.int_inv r1;exact call_range_1 (aR.extend (tk:=s.toks+1+1) S F (aO _) (push_size _) (.Ag (Heap.get?_push_size _ rfl)) q)
theorem uw{i j:Int}(q:Q (.Ag i j) ρ σ):cK n env (.type "range") [.int i,.int j] ρ σ Q:=λus A s hA S F r=>by
 obtain⟨u,v,rfl,r1,r2⟩:=d9 r;obtain⟨t,rfl⟩:=ay.int_inv r1;obtain⟨t',rfl⟩:=ay.int_inv r2;exact call_range_2 (aR.extend (tk:=s.toks+1) S F (aO _) (push_size _) (.Ag (Heap.get?_push_size _ rfl)) q)
end
end
section
variable{O:List Env}
inductive Fl where | next | brk | cont | ret (v:V)
inductive oZ(h:Heap):Flow->Fl->Prop
 | next:oZ h .next .next
 | brk:oZ h .brk .brk
 | cont:oZ h .cont .cont
 | ret{u:Value}{v:V}(r:ay h u v):oZ h (.ret u) (.ret v)
section
variable(n:NX)(env:Env)
noncomputable def oq(st:Stmt)(ρ:Loc)(σ:AH)(Q:Fl->Loc->AH->Prop):Prop:=Tr n env ρ σ .top (exec st env) oZ Q
noncomputable def b8(ss:List Stmt)(ρ:Loc)(σ:AH)(Q:Fl->Loc->AH->Prop):Prop:=Tr n env ρ σ .top (execs ss env) oZ Q
noncomputable def yc(t:Expr)(v:V)(ρ:Loc)(σ:AH)(Q:Loc->AH->Prop):Prop:=∀u,Tr n env ρ σ (HP.v u v) (assign t env u) kG (λ_=>Q)
noncomputable def KQ(x:Str)(v:V)(ρ:Loc)(σ:AH)(Q:Loc->AH->Prop):Prop:=∀u,Tr n env ρ σ (HP.v u v) (storeName env x u) kG (λ_=>Q)
set_option tactic.hygienic true in
abbrev yh(rest:List Stmt)(Q:Fl->Loc->AH->Prop):Fl->Loc->AH->Prop:=λf ρ σ=>match f with | .next=>b8 n env rest ρ σ Q | f=>Q f ρ σ
set_option tactic.hygienic true in
abbrev DK(Q:Fl->Loc->AH->Prop):Loc->AH->Prop:=λρ σ=>Q .next ρ σ
set_option tactic.hygienic true in
abbrev Ks(Q:Fl->Loc->AH->Prop):V->Loc->AH->Prop:=λ_ ρ σ=>Q .next ρ σ
abbrev KP(Q:Fl->Loc->AH->Prop):V->Loc->AH->Prop:=λv ρ σ=>Q (.ret v) ρ σ
abbrev TO(b o:List Stmt)(Q:Fl->Loc->AH->Prop):Bool->Loc->AH->Prop:=λy ρ σ=>if y then b8 n env b ρ σ Q else b8 n env o ρ σ Q
abbrev O2(t:Expr)(Q:Loc->AH->Prop):V->Loc->AH->Prop:=λv ρ σ=>yc n env t v ρ σ Q
abbrev Pw(x:Str)(Q:Loc->AH->Prop):V->Loc->AH->Prop:=λv ρ σ=>KQ n env x v ρ σ Q
abbrev Pt(attr:Str)(v:V)(Q:Loc->AH->Prop):V->Loc->AH->Prop:=λa ρ σ=>∀u w,Tr n env ρ σ ((HP.v u a).and (HP.v w v)) (setAttr u attr w) kG (λ_=>Q)
abbrev Pu(attr:Str)(a:V)(Q:Loc->AH->Prop):V->Loc->AH->Prop:=λr ρ σ=>∀u w,Tr n env ρ σ ((HP.v u a).and (HP.v w r)) (setAttr u attr w) kG (λ_=>Q)
abbrev Kk(op:Operator)(attr:Str)(a old:V)(Q:Loc->AH->Prop):V->Loc->AH->Prop:=λw ρ σ=>iI n env (inplaceOp op) old w ρ σ (Pu n env attr a Q)
abbrev Kj(op:Operator)(value:Expr)(attr:Str)(a:V)(Q:Loc->AH->Prop):V->Loc->AH->Prop:=λold ρ σ=>Ex n env value ρ σ (Kk n env op attr a old Q)
abbrev Ki(op:Operator)(value:Expr)(attr:Str)(Q:Loc->AH->Prop):V->Loc->AH->Prop:=λa ρ σ=>KN n env (λy=>getAttr y attr true) a ρ σ (Kj n env op value attr a Q)
end
section
variable{env:Env}{σ:AH}{ρ:Loc}{h h':Heap}
theorem c6{a:Addr}{o:Obj}(ho:h.get? a=some o)(l:Loose o)(k:∀b o,b≠a->h.get? b=some o->h'.get? b=some o):∀b o,h.get? b=some o->¬Loose o->h'.get? b=some o:=λb o' e n=>by
 by_cases q:b=a
 ·subst q;rw[ho]at e;cases e;exact absurd l n
 ·exact k b o' q e
theorem St.other(S:St h σ){a:Addr}{o:Obj}(ho:h.get? a=some o)(l:Loose o)(Md:σ a=none)(h0:c.h0.get? a=none)(k:∀b o,b≠a->h.get? b=some o->h'.get? b=some o):St h' σ:=by
 refine⟨λb o' e=>k b o' (λq=>by rw[q,h0]at e;cases e) (S.fP b o' e),λb ao e=>?_,S.new,S.lo,S.base,S.ok⟩
 exact(S.objs b ao e).keep (c6 ho l k) λob e'=>k b ob (λq=>by rw[q,Md]at e;cases e) e'
set_option tactic.hygienic true in
theorem Ns.uniq{a:Addr}{m m':Str->Option Value}(x:h.Ns a m)(y:h.Ns a m'):m=m':=by
 obtain⟨o,es,ep,ho,hd,_,hf⟩:=x;obtain⟨o',GF,Lg,mH,BM,_,WB⟩:=y;rw[ho]at mH;cases mH;rw[hd]at BM;cases BM;exact funext λx=>(hf x).symm.trans (WB x)
theorem dh.kW(F:dh O env h σ ρ){a:Addr}(ha:a∈aw env)(sb:Heap.SameBut a h h'):∀e∈O,lK env e h' σ:=λe he=>
 (F.out e he).keep (λo z=>⟨o.slots,(sb.2 _ λq=>(F.out e he).away (by rw[q];exact ha)).trans z⟩) (F.out e he).free
theorem dh.store(S:St h σ)(F:dh O env h σ ρ){x:Str}{u:Value}{v:V}{m:Str->Option Value}(hx:env.kindOf x=some .local)(hm:h.Ns env.locals m)(hn:h'.Ns env.locals λy=>if y=x then some u else m y)(sb:Heap.SameBut env.locals h h')(r:ay h u v):
  dh O env h' σ ((x,v)::ρ):=by
 have mem:env.locals∈aw env:=.head _;obtain⟨e1,e2,o,e3,e4⟩:=F.sep _ mem;have lk:=c6 e3 e4 λb o q e=>(sb.2 b q).trans e
 have Hb:=F.nodup;unfold aw at Hb;rw[List.nodup_cons]at Hb;refine⟨λy w e=>?_,⟨_,hn⟩,λb hb=>?_,F.nodup,λq hq=>IsCell.keep (λo e=>(sb.2 q.2 λz=>Hb.1 (by rw[<-z];exact List.mem_map_of_mem hq)).trans e) (F.cell q hq),F.kind,F.glob,F.kW mem sb⟩
 ·rw[List.lookup_cons]at e
  by_cases q:y=x
  ·subst q
   simp only[BEq.rfl]at e;cases e;exact⟨u,.inl ⟨hx,_,hn,if_pos rfl⟩,r.keep lk⟩
  ·have:(y==x)=false:=by simpa using q
   rw[this]at e;obtain⟨u',hu,r'⟩:=F.has y w e;refine⟨u',?_,r'.keep lk⟩;rcases hu with ⟨hl,m',Iy,hv⟩ | ⟨hk,a,o',hc,ho,hd⟩
   ·exact .inl ⟨hl,_,hn,by rw[if_neg q,Ns.uniq hm Iy];exact hv⟩
   ·refine .inr ⟨hk,a,o',hc,(sb.2 a λq'=>?_).trans ho,hd⟩
    have nd:=F.nodup;unfold aw at nd;rw[List.nodup_cons]at nd;refine nd.1 (q'▸List.mem_map.mpr ⟨(y,a),?_,rfl⟩);obtain⟨l1,l2,e1,_⟩:=List.lookup_eq_some_iff.mp hc;rw[e1];exact iy
 ·obtain⟨f1,f2,o',f3,f4⟩:=F.sep b hb
  by_cases q:b=env.locals
  ·subst q
   obtain⟨ME,es,ep,ho,hd,_⟩:=hn;exact⟨f1,f2,ME,ho,cX hd⟩
  ·exact⟨f1,f2,o',(sb.2 b q).trans f3,f4⟩
theorem dh.Ao(S:St h σ)(F:dh O env h σ ρ){x:Str}{u:Value}{v:V}{a:Addr}(hx:env.kindOf x=some .cell)(hc:env.cells.lookup x=some a)(hn:h'.IsCell a (some u))(sb:Heap.SameBut a h h')(r:ay h u v):
  dh O env h' σ ((x,v)::ρ):=by
 obtain⟨l1,l2,ec,Ep⟩:=List.lookup_eq_some_iff.mp hc;have mem:a∈aw env:=.tail _ (List.mem_map.mpr ⟨(x,a),by rw[ec];exact iy,rfl⟩)
 obtain⟨e1,e2,o,e3,e4⟩:=F.sep _ mem;have lk:=c6 e3 e4 λb o q e=>(sb.2 b q).trans e
 have nd:=F.nodup;unfold aw at nd;rw[List.nodup_cons]at nd;have nl:env.locals≠a:=λq=>nd.1 (q▸List.mem_map.mpr ⟨(x,a),by rw[ec];exact iy,rfl⟩)
 refine⟨λy w e=>?_,?_,λb hb=>?_,F.nodup,λq hq=>?_,F.kind,F.glob,F.kW mem sb⟩
 rotate_left 3
 ·by_cases z:q.2=a
  ·rw[z];exact⟨_,hn⟩
  ·exact IsCell.keep (λo e=>(sb.2 q.2 z).trans e) (F.cell q hq)
 rotate_right 3
 ·rw[List.lookup_cons]at e
  by_cases q:y=x
  ·subst q
   simp only[BEq.rfl]at e;cases e;obtain⟨oc,QJ,Wz⟩:=hn;exact⟨u,.inr ⟨.inl hx,a,oc,hc,QJ,Wz⟩,r.keep lk⟩
  ·have:(y==x)=false:=by simpa using q
   rw[this]at e;obtain⟨u',hu,r'⟩:=F.has y w e;refine⟨u',?_,r'.keep lk⟩;rcases hu with ⟨hl,m',Iy,hv⟩ | ⟨hk,b,o',hb,ho,hd⟩
   ·exact .inl ⟨hl,m',Iy.sameBut sb nl,hv⟩
   ·refine .inr ⟨hk,b,o',hb,(sb.2 b λq'=>?_).trans ho,hd⟩
    subst q';obtain⟨k1,k2,ek,_⟩:=List.lookup_eq_some_iff.mp hb;have m1:(x,b)∈env.cells:=by rw[ec];exact iy
    have m2:(y,b)∈env.cells:=by rw[ek];exact iy
    exact q (congrArg Prod.fst ((lV nd.2 m2 m1 rfl)))
 ·obtain⟨m,hm⟩:=F.ns;exact⟨m,hm.sameBut sb nl⟩
 ·obtain⟨f1,f2,o',f3,f4⟩:=F.sep b hb
  by_cases q:b=a
  ·subst q
   obtain⟨ME,ho,hd⟩:=hn;exact⟨f1,f2,ME,ho,iS hd⟩
  ·exact⟨f1,f2,o',(sb.2 b q).trans f3,f4⟩
where
 lV:∀{l:List (Str×Addr)},(l.map (·.2)).Nodup->∀{p q:Str×Addr},p∈l->q∈l->p.2=q.2->p=q
 | [],_,_,_,h,_,_=>by cases h
 | z::l,nd,p,q,hp,hq,e=>by
  rw[List.map_cons,List.nodup_cons]at nd;rcases List.mem_cons.mp hp with rfl | BV<;>rcases List.mem_cons.mp hq with rfl | JV
  ·rfl
  ·exact absurd (e▸List.mem_map_of_mem (f:=Prod.snd) JV) nd.1
  ·exact absurd (e.symm▸List.mem_map_of_mem (f:=Prod.snd) BV) nd.1
  ·exact lV nd.2 BV JV e
theorem Fm.frame(F:dh O env h σ ρ){a:Addr}(ha:a∈aw env)(there:∃o,h'.get? a=some o)(sb:Heap.SameBut a h h'):Fm O env σ h h' σ:=
 ⟨λb o e _ nf _=>(sb.2 b λq=>nf (q▸ha)).trans e,λb o e m=>⟨o.slots,(sb.2 b λq=>by
   obtain⟨x,hx,rfl⟩:=List.mem_map.mp m;exact(F.out x hx).away (by rw[q];exact ha)).trans e⟩,λb o e=>by
  by_cases q:b=a
  ·subst q;exact there
  ·exact⟨o,(sb.2 b q).trans e⟩,λb o e1 e2=>by rw[e1]at e2;cases e2⟩
end
section
variable{n:NX}{env:Env}{ρ:Loc}{σ:AH}{Q:Fl->Loc->AH->Prop}
theorem bR{x:Str}{v:V}{Q:Loc->AH->Prop}(hx:env.kindOf x=some .local)(q:Q ((x,v)::ρ) σ):KQ n env x v ρ σ Q:=λu A s _ S F r=>by
 obtain⟨m,hm⟩:=F.ns;have mem:env.locals∈aw env:=.head _;obtain⟨e1,e2,o,e3,e4⟩:=F.sep _ mem;refine wpAny_storeName_local hx hm (λh' hn sb=>?_) (by rw[F.kind];rfl)
 refine⟨h',s.toks+1,(),_,σ,rfl,S.other e3 e4 e1 e2 λb o q e=>(sb.2 b q).trans e,F.store S hx hm hn sb r,.frame F mem ?_ sb,rfl,q⟩
 obtain⟨o',_,_,ho,_⟩:=hn;exact⟨o',ho⟩
theorem C7{x:Str}{v:V}{a:Addr}{Q:Loc->AH->Prop}(hx:env.kindOf x=some .cell)(hc:env.cells.lookup x=some a)(q:Q ((x,v)::ρ) σ):KQ n env x v ρ σ Q:=λu A s _ S F r=>by
 have mc:(x,a)∈env.cells:=by
  obtain⟨l1,l2,ec,_⟩:=List.lookup_eq_some_iff.mp hc;rw[ec];exact iy
 have mem:a∈aw env:=.tail _ (List.mem_map.mpr ⟨(x,a),mc,rfl⟩);obtain⟨w,hw⟩:=F.cell _ mc;obtain⟨e1,e2,o,e3,e4⟩:=F.sep _ mem;refine wpAny_storeName_cell F.kind hx hc hw (λh' hn sb=>?_)
 refine⟨h',s.toks,(),_,σ,rfl,S.other e3 e4 e1 e2 λb o q e=>(sb.2 b q).trans e,F.Ao S hx hc hn sb r,.frame F mem ?_ sb,rfl,q⟩
 obtain⟨o',ho,_⟩:=hn;exact⟨o',ho⟩
theorem uu{x:Str}{pos:Pos}{v:V}{Q:Loc->AH->Prop}(h:KQ n env x v ρ σ Q):yc n env (.Name x pos) v ρ σ Q:=λu A s hA S F r=>wpAny_assign_Name (h u A s hA S F r)
theorem ft{x:Str}{pos:Pos}{v:V}{Q:Loc->AH->Prop}(hx:env.kindOf x=some .local)(q:Q ((x,v)::ρ) σ):yc n env (.Name x pos) v ρ σ Q:=uu (bR hx q)
theorem aV{o:Expr}{attr:Str}{pos:Pos}{v:V}{Q:Loc->AH->Prop}
  (h:Ex n env o ρ σ (Pt n env attr v Q)):yc n env (.Attribute o attr pos) v ρ σ Q:=λu=>by
 refine Tr.eq (arm_assign_Attribute ..) ?_;refine Tr.ir (Tr.holding (h.w0.mono λa bJ aI q w=>Tr.standAt (Tr.nP (Tr.holding ?_))))
 refine(q w u).mono λy d5 bU q=>?_
 exact Tr.eq (t':=PySem.release [u,w] [] >>=λ_=>Pure.pure ()) (bind_pure_unit.symm) (Tr.release (Tr.pure (λ_ _=>rfl) q))
noncomputable def Hz(n:NX)(env:Env)(a i v:V)(ρ:Loc)(σ:AH)(Q:Loc->AH->Prop):Prop:=∀u k w,Tr n env ρ σ ((HP.v u a).and ((HP.v k i).and (HP.v w v))) (setItem u k w) kG (λ_=>Q)
theorem jT{o i:Expr}{pos:Pos}{v:V}{Q:Loc->AH->Prop}
  (h:Ex n env o ρ σ (λa bJ aI=>Ex n env i bJ aI (λk d5 bU=>Hz n env a k v d5 bU Q))):yc n env (.Subscript o i pos) v ρ σ Q:=λu=>by
 refine Tr.eq (arm_assign_Subscript ..) ?_;refine Tr.ir (Tr.holding (h.w0.mono λa bJ aI q w=>Tr.ir (Tr.holding (q.w0.mono λk d5 bU q y=>Tr.standAt (Tr.nP (Tr.holding ?_))))))
 have q':Tr n env d5 bU ((HP.v y k).and ((HP.v w a).and (HP.v u v))) _ _ _:=(q w y u).with λ_ x=>⟨x.2.1,x.1,x.2.2⟩
 refine q'.mono λz rm fE q=>?_
 exact Tr.eq (t':=PySem.release _ [] >>=λ_=>Pure.pure ()) (bind_pure_unit.symm) (Tr.release (Tr.pure (λ_ _=>rfl) q))
noncomputable def wi(n:NX)(env:Env):List Expr->List V->Loc->AH->(Loc->AH->Prop)->Prop
 | [],[],ρ,σ,Q=>Q ρ σ
 | t::ts,v::vs,ρ,σ,Q=>yc n env t v ρ σ (λbJ aI=>wi n env ts vs bJ aI Q)
 | _,_,_,_,_=>False
theorem pz:∀{ts:List Expr}{vs:List V}{ρ:Loc}{σ:AH}{Q:Loc->AH->Prop},((assignEach ts env).map (·.2))=ts.map (λt=>assign t env)->wi n env ts vs ρ σ Q->∀us,Tr n env ρ σ (HP.vs us vs) (assignInOrder (ts.map λt=>assign t env) us) kG (λ_=>Q)
 | [],[],ρ,σ,Q,_,h,us=>λA s hA S F r=>by obtain rfl:=r.nil_inv;exact wpAny_pure (aR.bP (tk:=s.toks) (v:=()) S F rfl h)
 | t::ts,v::vs,ρ,σ,Q,e,h,us=>λA s hA S F r=>by
  obtain⟨u,us,rfl,hv,hs⟩:=r.cons_inv;have e':((assignEach ts env).map (·.2))=ts.map (λt=>assign t env):=(show((assignEach (t::ts) env).map (·.2)).tail=((assignEach ts env).map (·.2)) by cases t<;>rfl).symm.trans (congrArg List.tail e)
  show wpAny _ A (do holding us (assign t env u);assignInOrder (ts.map λt=>assign t env) us) _ _ s
  exact(Tr.nP (H:=(HP.v u v).and (HP.vs us vs)) (Tr.holding (((h u).w1).mono λy bJ aI q=>(pz e' q us).GC))) A s hA S F ⟨hv,hs⟩
 | [],_::_,_,_,_,_,h,_=>h.elim
 | _::_,[],_,_,_,_,h,_=>h.elim
theorem JM{ts:List Expr}{k:Nat}{pos:Pos}{vs:List V}{Q:Loc->AH->Prop}(h:wi n env ts vs ρ σ Q)(hl:autoParam (ts.length=vs.length) cB)
  (he:autoParam (assignEach ts env=ts.map λt=>(false,assign t env)) cB):yc n env (.Tuple ts k pos) (.tup vs) ρ σ Q:=λu A s hA S F r=>by
 obtain⟨a,items,m,rfl,ht,hs⟩:=ay.cR r;have e0:=hs.length;rw[Array.length_toList]at e0;have e2:((assignEach ts env).map (·.2))=ts.map (λt=>assign t env):=by rw[he,List.map_map];rfl
 refine wpAny_assign_Tuple hA.hand ⟨_,ht,rfl,_,rfl⟩ (by rw[he,List.length_map,hl,e0]) (by rw[he,List.findIdx?_map];simp[Function.comp_def]) λh' eb=>?_
 rw[e2];have kp:∀b o,s.heap.get? b=some o->h'.get? b=some o:=λb o e=>eb b o (Nat.ne_of_lt (Heap.lt_size e)) e
 exact(pz e2 h _).go (s:=s) hA (.ext kp) (S.ext kp) (F.ext' kp) (hs.keep λb o e _=>kp b o e)
set_option tactic.hygienic true in
theorem Jq(q:Q .next ρ σ):b8 n env [] ρ σ Q:=λA s hA S F _=>wpAny_execs_nil (aR.bP (tk:=s.toks) S F .next q)
set_option tactic.hygienic true in
theorem au{st:Stmt}{rest:List Stmt}(h:oq n env st ρ σ (yh n env rest Q)):b8 n env (st::rest) ρ σ Q:=λA s hA S F _=>by
 refine wpAny_execs_cons (wpAny_mono (h A s hA S F trivial) (λf s' p=>?_) λ_ _ x=>x)
 obtain⟨h1,gv,v,bJ,aI,rfl,S1,F1,M1,r1,q1⟩:=p;cases r1 with
 | next=>exact Tr.go q1 (s:=s) hA M1 S1 F1 trivial
 | brk=>exact⟨h1,gv,_,bJ,aI,rfl,S1,F1,M1,.brk,q1⟩
 | cont=>exact⟨h1,gv,_,bJ,aI,rfl,S1,F1,M1,.cont,q1⟩
 | ret r=>exact⟨h1,gv,_,bJ,aI,rfl,S1,F1,M1,.ret r,q1⟩
theorem OS{e:Expr}{pos:Pos}(h:Ex n env e ρ σ (Ks Q))(hi:autoParam (interactive env=false) cB)(hs:autoParam (swapsWith e none pos.line env=pure false) cB):oq n env (.Expr e pos) ρ σ Q:=λA s hA S F _=>by
 refine wpAny_Expr_any (wpAny_mono (h A s hA S F trivial) (λu s1 p=>?_) λ_ _ x=>x) hi hs
 obtain⟨h1,gv,a,bJ,aI,rfl,S1,F1,M1,r1,q1⟩:=p;exact⟨h1,gv,_,bJ,aI,rfl,S1,F1,M1,.next,q1⟩
theorem C5{e:Expr}{pos:Pos}(h:Ex n env e ρ σ (KP Q)):oq n env (.Return (some e) pos) ρ σ Q:=λA s hA S F _=>by
 refine wpAny_Return_some (wpAny_mono (h A s hA S F trivial) (λu s1 p=>?_) λ_ _ x=>x)
 obtain⟨h1,gv,a,bJ,aI,rfl,S1,F1,M1,r1,q1⟩:=p;exact⟨h1,gv,_,bJ,aI,rfl,S1,F1,M1,.ret r1,q1⟩
theorem Ni{t:Expr}{b o:List Stmt}{pos:Pos}(h:Test n env t ρ σ (TO n env b o Q)):oq n env (.If t b o pos) ρ σ Q:=λA s hA S F _=>by
 refine wpAny_If (wpAny_mono (h A s hA S F trivial) (λu s1 p=>?_) λ_ _ x=>x)
 obtain⟨h1,gv,a,bJ,aI,rfl,S1,F1,M1,r1,q1⟩:=p;cases r1;cases u<;>exact Tr.go q1 (s:=s) hA M1 S1 F1 trivial
theorem Nh{pos}(q:Q .brk ρ σ):oq n env (.Break pos) ρ σ Q:=λA s hA S F _=>wpAny_Break (aR.bP (tk:=s.toks) S F .brk q)
theorem Hm{pos}(q:Q .cont ρ σ):oq n env (.Continue pos) ρ σ Q:=λA s hA S F _=>wpAny_Continue (aR.bP (tk:=s.toks) S F .cont q)
theorem ag{t:Expr}{value:Expr}{pos:Pos}(h:Ex n env value ρ σ (O2 n env t (DK Q)))
  (hs:autoParam (swapsWithSole [t] value pos.line env=pure false) cB) (hw:autoParam (swappedStores [t] value env=pure none) cB) (ha:autoParam ((assignEach [t] env).map (·.2)=[assign t env]) cB):oq n env (.Assign [t] value pos) ρ σ Q:=λA s hA S F _=>by
 refine wpAny_Assign_stores (wpAny_mono (h A s hA S F trivial) (λu s1 p=>?_) λ_ _ x=>x) hs hw
 obtain⟨h1,gv,a,bJ,aI,rfl,S1,F1,M1,r1,q1⟩:=p;rw[ha];refine wpAny_mono ((q1 u).go (s:=s) hA M1 S1 F1 r1) (λ_ s2 p=>?_) λ_ _ x=>x
 obtain⟨h2,oh,a2,d5,bU,rfl,S2,F2,M2,r2,q2⟩:=p;exact⟨h2,oh,_,d5,bU,rfl,S2,F2,M2,.next,q2⟩
noncomputable def HA(n:NX)(env:Env):List Str->List V->Loc->AH->(Loc->AH->Prop)->Prop
 | [],[],ρ,σ,Q=>Q ρ σ
 | t::ts,v::vs,ρ,σ,Q=>KQ n env t v ρ σ (λbJ aI=>HA n env ts vs bJ aI Q)
 | _,_,_,_,_=>False
theorem vB:∀{ts:List Str}{vs:List V}{ρ:Loc}{σ:AH}{Q:Loc->AH->Prop},HA n env ts vs ρ σ Q->∀us,Tr n env ρ σ (HP.vs us vs) (assignInOrder (ts.map λt=>bindName env t) us) kG (λ_=>Q)
 | [],[],ρ,σ,Q,h,us=>λA s hA S F r=>by obtain rfl:=r.nil_inv;exact wpAny_pure (aR.bP (tk:=s.toks) (v:=()) S F rfl h)
 | t::ts,v::vs,ρ,σ,Q,h,us=>λA s hA S F r=>by
  obtain⟨u,us,rfl,hv,hs⟩:=r.cons_inv;show wpAny _ A (do holding us (bindName env t u);assignInOrder (ts.map λt=>bindName env t) us) _ _ s
  refine(Tr.nP (H:=(HP.v u v).and (HP.vs us vs)) (Tr.holding (?_:Tr n env ρ σ ((HP.v u v).and (HP.vs us vs)) (bindName env t u) kG _))) A s hA S F ⟨hv,hs⟩;intro A s hA S F r;refine wpAny_bindName (((h u).w1.mono λy bJ aI q=>?_) A s hA S F r)
  exact(vB q us).GC
 | [],_::_,_,_,_,h,_=>h.elim
 | _::_,[],_,_,_,h,_=>h.elim
theorem gW{ts:List Expr}{k:Nat}{Dd:Pos}{value:Expr}{pos:Pos}{names:List Str}(h:Ex n env value ρ σ (λv bJ aI=>∃vs,v=.tup vs/\vs.length=names.length/\HA n env names.reverse vs.reverse bJ aI (DK Q)))
  (hw:swappedStores [.Tuple ts k Dd] value env=pure (some names)) (hs:autoParam (swapsWithSole [.Tuple ts k Dd] value pos.line env=pure false) cB):oq n env (.Assign [.Tuple ts k Dd] value pos) ρ σ Q:=λA s hA S F _=>by
 rw[exec_Assign_arm];refine wpAny_bind (wpAny_standAt ?_);rw[hs];refine wpAny_bind (wpAny_pure ?_);rw[if_neg (by decide)]
 refine wpAny_bind (wpAny_mono (h A s hA S F trivial) (λv s1 p=>?_) λ_ _ x=>x)
 obtain⟨h1,gv,a,bJ,aI,rfl,S1,F1,M1,r1,vs,rfl,hl,q1⟩:=p;rw[hw];refine wpAny_bind (wpAny_pure ?_);obtain⟨a,items,m,rfl,ht,US⟩:=ay.cR r1;have e0:=US.length;rw[Array.length_toList]at e0;show wpAny _ A (do
  rule "assign.swapped-stores"
  let items <-unpackItems (.ref a) names.length none
  assignInOrder (names.reverse.map λn=>bindName env n) items.reverse
  pure Flow.next) _ _ _
 refine wpAny_bind (wpAny_rule (wpAny_bind ?_));rw[<-hl, <-e0];refine wpAny_unpackItems_tuple hA.hand ⟨_,ht,rfl,_,rfl⟩ λh' eb=>?_
 have kp:∀b o,h1.get? b=some o->h'.get? b=some o:=λb o e=>eb b o (Nat.ne_of_lt (Heap.lt_size e)) e
 refine wpAny_bind (wpAny_mono ((vB q1 items.toList.reverse).go (s:=s) hA (M1.trans (.ext kp)) (S1.ext kp) (F1.ext' kp) ((US.reverse).keep λb o e _=>kp b o e)) (λ_ s2 p=>?_) λ_ _ x=>x)
 obtain⟨h2,oh,a2,d5,bU,rfl,S2,F2,M2,r2,q2⟩:=p;exact wpAny_pure ⟨h2,oh,Fl.next,d5,bU,rfl,S2,F2,M2,oZ.next,q2⟩
theorem Hl{x:Str}{pos' pos:Pos}{op:Operator}{value:Expr}{v:V}(e:ρ.lookup x=some v)
  (h:Ex n env value ρ σ (T9 n env (inplaceOp op) v (Pw n env x (DK Q)))) (hc:autoParam ((x==("__classdict__":Str))=false) cB):oq n env (.AugAssign (.Name x pos') op value pos) ρ σ Q:=λA s hA S F _=>by
 refine wpAny_AugAssign_Name ?_;obtain⟨u,hu,r⟩:=F.has x v e;refine ma F.kind hu ?_ hc;refine wpAny_mono (h A s hA S F trivial) (λw s1 p=>?_) λ_ _ x=>x
 obtain⟨h1,gv,a,bJ,aI,rfl,S1,F1,M1,r1,q1⟩:=p;refine wpAny_mono ((q1 u w).go (s:=s) hA M1 S1 F1 ⟨r.step S F M1,r1⟩) (λy s2 p=>?_) λ_ _ x=>x
 obtain⟨h2,oh,a2,d5,bU,rfl,S2,F2,M2,r2,q2⟩:=p;refine wpAny_mono ((q2 y).go (s:=s) hA M2 S2 F2 r2) (λ_ s3 p=>?_) λ_ _ x=>x
 obtain⟨h3,Aq,a3,rm,fE,rfl,S3,F3,M3,r3,q3⟩:=p;exact⟨h3,Aq,_,rm,fE,rfl,S3,F3,M3,.next,q3⟩
theorem cU{o value:Expr}{attr:Str}{Dd pos:Pos}{op:Operator}
  (h:Ex n env o ρ σ (Ki n env op value attr (DK Q))):oq n env (.AugAssign (.Attribute o attr Dd) op value pos) ρ σ Q:=λA s hA S F _=>by
 refine wpAny_AugAssign_AttributeAny (wpAny_mono (h A s hA S F trivial) (λov s1 p=>?_) λ_ _ x=>x)
 obtain⟨h1,gv,a,bJ,aI,rfl,S1,F1,M1,r1,q1⟩:=p;refine wpAny_mono ((q1 ov) A { s with heap:=h1,toks:=gv } hA S1 F1 r1) (λold s2 p=>?_) λ_ _ z=>z.trans M1
 obtain⟨h2,oh,b,d5,bU,rfl,S2,F2,M2,r2,q2⟩:=p;refine wpAny_mono (q2 A { s with heap:=h2,toks:=oh } hA S2 F2 trivial) (λw s3 p=>?_) λ_ _ z=>z.trans (M1.trans M2)
 obtain⟨h3,Aq,d,rm,fE,rfl,S3,F3,M3,r3,q3⟩:=p;refine wpAny_mono (q3 old w A { s with heap:=h3,toks:=Aq } hA S3 F3 ⟨r2.step S2 F2 M3,r3⟩) (λy s4 p=>?_) λ_ _ z=>z.trans ((M1.trans M2).trans M3)
 obtain⟨h4,J8,f,wg,ki,rfl,S4,F4,M4,r4,q4⟩:=p;refine wpAny_mono ((q4 ov y).go (s:=s) hA (((M1.trans M2).trans M3).trans M4) S4 F4 ⟨((r1.step S1 F1 M2).step S2 F2 M3).step S3 F3 M4,r4⟩) (λ_ s5 p=>?_) λ_ _ x=>x
 obtain⟨h5,Gg,f5,wh,mK,rfl,S5,F5,M5,r5,q5⟩:=p;exact⟨h5,Gg,_,wh,mK,rfl,S5,F5,M5,.next,q5⟩
set_option tactic.hygienic true in
noncomputable def Gw(k:Nat)(I:Nat->Loc->AH->Prop)(Q:Fl->Loc->AH->Prop):Fl->Loc->AH->Prop:=λf ρ σ=>match f with
 | .next | .cont=>∃m,m<k/\I m ρ σ
 | .brk=>Q .next ρ σ
 | .ret v=>Q (.ret v) ρ σ
abbrev VZ(n:NX)(env:Env)(body orelse:List Stmt)(Q' Q:Fl->Loc->AH->Prop):Bool->Loc->AH->Prop:=λb ρ σ=>if b then b8 n env body ρ σ Q' else b8 n env orelse ρ σ Q
inductive VY(env:Env)(σ:AH)(s:Shared)(I:Nat->Loc->AH->Prop)(k:Nat)(s':Shared):Prop
 | mk(h':Heap)(tk:Nat)(ρ':Loc)(af:AH)(e:s'={ s with heap:=h',toks:=tk })(S:St h' af)(F:dh O env h' af ρ')(M:Fm O env σ s.heap h' af)(i:I k ρ' af)
set_option tactic.hygienic true in
theorem eE{test:Expr}{body orelse:List Stmt}{pos:Pos}(I:Nat->Loc->AH->Prop)(k:Nat)(h0:I k ρ σ)
  (turn:∀k ρ σ,I k ρ σ->Test n env test ρ σ (VZ n env body orelse (Gw k I Q) Q)):oq n env (.While test body orelse pos) ρ σ Q:=λA s hA S F _=>by
 refine wpAny_While ?_;refine codeAny_whileLoop (VY (O:=cY env A) env σ s I) ?_ k ⟨s.heap,s.toks,ρ,σ,rfl,S,F,.refl ..,h0⟩;rintro k s' ⟨h1,gv,bJ,aI,rfl,S1,F1,M1,i1⟩;refine wpAny_mono (turn k bJ aI i1 A { s with heap:=h1,toks:=gv } hA S1 F1 trivial) (λb s2 p=>?_) λ_ _ x=>(x.trans M1).loop hA
 obtain⟨h2,oh,b',d5,bU,rfl,S2,F2,M2,r2,q2⟩:=p;cases r2;have M:=M1.trans M2;cases b
 ·simp only[Bool.false_eq_true,if_false]at q2 ⊢
  refine wpAny_mono (Tr.go q2 (s:=s) hA M S2 F2 trivial) (λf s3 p=>p) λ_ _ x=>x.loop hA
 ·simp only[if_true]at q2 ⊢
  refine wpAny_mono (Tr.go q2 (s:=s) hA M S2 F2 trivial) (λf s3 p=>?_) λ_ _ x=>x.loop hA
  obtain⟨h3,Aq,f',rm,fE,rfl,S3,F3,M3,r3,q3⟩:=p;cases r3 with
  | next=>obtain⟨m,hm,i⟩:=q3;exact⟨m,hm,h3,Aq,rm,fE,rfl,S3,F3,M3,i⟩
  | cont=>obtain⟨m,hm,i⟩:=q3;exact⟨m,hm,h3,Aq,rm,fE,rfl,S3,F3,M3,i⟩
  | brk=>exact⟨h3,Aq,_,rm,fE,rfl,S3,F3,M3,.next,q3⟩
  | ret r=>exact⟨h3,Aq,_,rm,fE,rfl,S3,F3,M3,.ret r,q3⟩
end
end
section
variable{O:List Env}
set_option tactic.hygienic true in
noncomputable def ug(n:NX)(env:Env)(target:Expr)(body orelse:List Stmt)(G:AH->Prop):List V->Loc->AH->(Fl->Loc->AH->Prop)->Prop
 | [],ρ,σ,Q=>G σ/\b8 n env orelse ρ σ Q
 | v::vs,ρ,σ,Q=>G σ/\yc n env target v ρ σ (λbJ aI=>b8 n env body bJ aI (λf d5 bU=>match f with
   | .next | .cont=>ug n env target body orelse G vs d5 bU Q
   | .brk=>Q .next d5 bU
   | .ret v=>Q (.ret v) d5 bU))
theorem lU{prog:Program}{A:Around}{E:Value->Shared->Prop}{s:Shared}{I:Addr}{o:Obj}{n:String}{vs:Array Value}{elts:List Expr}{x1:Nat}{pos:Pos}{v:Value}{Q:Unit->Shared->Prop}(ho:s.heap.get? I=some o)(hc:o.cls=.type n)(hd:o.data=.fields vs)
  (hn:(["enumerate","zip","dict_itemiterator","dict_reverseitemiterator","odict_iterator","itertools.zip_longest","itertools.pairwise"].contains n)=false) (hQ:Q () s):wpAny (model prog w) A (letOwnedTupleGo (.Tuple elts x1 pos) (.ref I) v) Q E s:=by
 unfold letOwnedTupleGo;cases v<;>first | exact wpAny_pure hQ | skip
 refine wpAny_bind (wpAny_load ho ?_);rw[hc,hd];dsimp only;rw[hn,Bool.false_and];exact wpAny_pure hQ
structure TP(G:AH->Prop)(I:Addr)(vs:List V)(T:Nat->Heap->Prop):Prop where
 keep:∀i h h',T i h->(∀o,h.get? I=some o->h'.get? I=some o)->(∀b o,h.get? b=some o->¬Loose o->h'.get? b=some o)->T i h'
 loose:∀i h,T i h->∃o,h.get? I=some o/\Loose o
 item:∀i v (A:Around) (s:Shared) (σ:AH) (Q:Option Value->Shared->Prop) (E:Value->Shared->Prop),A.handled=none->T i s.heap->St s.heap σ->σ I=none->G σ->vs[i]? =some v->
  (∀u h' tk,ay s.heap u v->T (i+1) h'->(∀b o,b≠I->s.heap.get? b=some o->h'.get? b=some o)->Q (some u) { s with heap:=h',toks:=tk })->wpAny (model c.prog c.w) A (pyNext (.ref I)) Q E s
 self:∀i (A:Around) (s:Shared) (Q:Value->Shared->Prop) (E:Value->Shared->Prop),T i s.heap->Q (.ref I) s->wpAny (model c.prog c.w) A (pyIter (.ref I)) Q E s
 go:∀i (A:Around) (s:Shared) (elts:List Expr) (x1:Nat) (pos:Pos) (v:Value) (Q:Unit->Shared->Prop) (E:Value->Shared->Prop),T i s.heap->Q () s->wpAny (model c.prog c.w) A (letOwnedTupleGo (.Tuple elts x1 pos) (.ref I) v) Q E s
 done:∀(A:Around)(s:Shared)(σ:AH)(Q:Option Value->Shared->Prop)(E:Value->Shared->Prop),A.handled=none->T vs.length s.heap->St s.heap σ->σ I=none->G σ->
  (∀h' tk,(∀b o,b≠I->s.heap.get? b=some o->h'.get? b=some o)->Q none { s with heap:=h',toks:=tk })->wpAny (model c.prog c.w) A (pyNext (.ref I)) Q E s
section
variable{env:Env}{σ:AH}{ρ:Loc}{h h':Heap}
theorem dh.other(F:dh O env h σ ρ){a:Addr}{o:Obj}(ho:h.get? a=some o)(l:Loose o)(na:a∉aw env)(no:a∉outs O)(k:∀b o,b≠a->h.get? b=some o->h'.get? b=some o):dh O env h' σ ρ:=by
 have kf:∀b∈aw env,∀o,h.get? b=some o->h'.get? b=some o:=λb hb o e=>k b o (λq=>na (q▸hb)) e
 refine⟨λx v e=>?_,?_,λb hb=>?_,F.nodup,λq hq=>IsCell.keep (kf q.2 (.tail _ (List.mem_map_of_mem hq))) (F.cell q hq),F.kind,F.glob,λe he=>(F.out e he).keep (λo z=>⟨o.slots,k _ _ (λq=>no (by rw[<-q];exact List.mem_map_of_mem he)) z⟩) (F.out e he).free⟩
 ·obtain⟨u,hu,r⟩:=F.has x v e
  refine⟨u,?_,r.keep (c6 ho l k)⟩;rcases hu with ⟨hl,m',Iy,hv⟩ | ⟨hk,b,o',hc,mH,hd⟩
  ·exact .inl ⟨hl,m',Iy.at' (kf _ (.head _)),hv⟩
  ·refine .inr ⟨hk,b,o',hc,kf b (.tail _ ?_) o' mH,hd⟩
   obtain⟨l1,l2,ec,_⟩:=List.lookup_eq_some_iff.mp hc;exact List.mem_map.mpr ⟨(x,b),by rw[ec];exact iy,rfl⟩
 ·obtain⟨m,hm⟩:=F.ns;exact⟨m,hm.at' (kf _ (.head _))⟩
 ·obtain⟨e1,e2,o',e3,e4⟩:=F.sep b hb
  exact⟨e1,e2,o',kf b hb o' e3,e4⟩
theorem Fm.other{g:Heap}{oj:AH}(M:Fm O env oj g h σ){a:Addr}(ha:g.get? a=none)(k:∀b o,b≠a->h.get? b=some o->h'.get? b=some o):Fm O env oj g h' σ:=by
 refine⟨λb o e n f g=>k b o (λq=>by rw[q,ha]at e;cases e) (M.keep b o e n f g),λb o e m=>?_,λb o e=>?_,M.fresh⟩
 ·obtain⟨sl,e1⟩:=M.slots b o e m
  exact⟨sl,k b _ (λq=>by rw[q,ha]at e;cases e) e1⟩
 obtain⟨o',e'⟩:=M.iA b o e;exact⟨o',k b o' (λq=>by rw[q,ha]at e;cases e) e'⟩
end
inductive Kv(n:NX)(env:Env)(target:Expr)(body orelse:List Stmt)(G:AH->Prop)(σ:AH)(s:Shared)(I:Addr)(vs:List V)(T:Nat->Heap->Prop)(Q:Fl->Loc->AH->Prop)(k:Nat)(s':Shared):Prop
 | mk(i:Nat)(h':Heap)(tk:Nat)(ρ':Loc)(af:AH)(e:s'={ s with heap:=h',toks:=tk })(S:St h' af)(F:dh O env h' af ρ')(M:Fm O env σ s.heap h' af)(hI:af I=none)(hT:T i h')(q:ug n env target body orelse G (vs.drop i) ρ' af Q)(hi:i<=vs.length)(hk:k=vs.length-i)
section
variable{n:NX}{env:Env}{ρ:Loc}{σ:AH}{Q:Fl->Loc->AH->Prop}
set_option tactic.hygienic true in
theorem BG{target:Expr}{body orelse:List Stmt}{G:AH->Prop}{I:Addr}{vs:List V}{T:Nat->Heap->Prop}(J:TP G I vs T){A:Around}(hA:fp env A n){s s1:Shared}{h1:Heap}{gv:Nat}(hI:s.heap.get? I=none)(S:St s.heap σ)(F:dh (cY env A) env s.heap σ ρ)
  {bJ:Loc} {aI:AH} (W8:s1={ s with heap:=h1,toks:=gv }) (S1:St h1 aI) (F1:dh (cY env A) env h1 aI bJ) (M1:Fm (cY env A) env σ s.heap h1 aI) (Iz:aI I=none) (hT:T 0 h1) (q:ug n env target body orelse G vs bJ aI Q) {R:Result->Shared->Prop}
  (hR:∀f s',aR (cY env A) env σ s oZ Q f s'->R (.ok f) s') (hE:∀x s',EPost (cY env A) env σ s n.X x s'->notedBy (model c.prog c.w) A env (λe s'=>R (.error e) s') x s') (ht:autoParam (∀v,letOwnedTupleGo target (.ref I) v=Pure.pure ()) NU):codeAny (model c.prog c.w) A (.forLoop target (.ref I) body orelse env) R s1:=by
 subst W8;have h0:c.h0.get? I=none:=by
  cases z:c.h0.get? I with
  | none=>rfl
  | some o=>rw[S.fP I o z]at hI;cases hI
 have nf:I∉aw env:=λm=>by obtain⟨_,_,o,e,_⟩:=F.sep I m;rw[hI]at e;cases e
 have no:I∉outs (cY env A):=λm=>by
  obtain⟨q,hq,z⟩:=List.mem_map.mp m;obtain⟨o,_,_,e,_⟩:=(F.out q hq).obj;rw[z,hI]at e;cases e
 refine codeAny_forLoop (Kv (O:=cY env A) n env target body orelse G σ s I vs T Q) ?_ vs.length
  ⟨0,h1,gv,bJ,aI,rfl,S1,F1,M1,Iz,hT,q,Nat.zero_le _,rfl⟩ ht
 rintro k s' ⟨i,h2,oh,d5,bU,rfl,S2,F2,M2,zP,Qi,q2,hi,rfl⟩;obtain⟨oI,uO,lI⟩:=J.loose _ _ Qi;by_cases gT:i<vs.length
 ·have ed:vs.drop i=vs[i]::vs.drop (i+1):=(List.drop_eq_getElem_cons gT)
  rw[ed]at q2;obtain⟨g2,q2⟩:=q2;refine J.item i vs[i] A { s with heap:=h2,toks:=oh } bU _ _ hA.hand Qi S2 zP g2 (List.getElem?_eq_getElem gT) λu h3 Aq r3 Uu k3=>?_
  have S3:=S2.other uO lI zP h0 k3;have F3:=F2.other uO lI nf no k3;have M3:=M2.other hI k3;have XU:=r3.keep (c6 uO lI k3);refine wpAny_mono (q2 u A { s with heap:=h3,toks:=Aq } hA S3 F3 XU) (λ_ s4 p=>?_) λ_ _ x=>hE _ _ (x.trans M3)
  obtain⟨h4,J8,_,wg,ki,rfl,S4,F4,M4,_,q4⟩:=p;refine wpAny_mono (q4 A { s with heap:=h4,toks:=J8 } hA S4 F4 trivial) (λf s5 p=>?_) λ_ _ x=>hE _ _ (x.trans (M3.trans M4))
  obtain⟨h5,Gg,f',wh,mK,rfl,S5,F5,M5,r5,q5⟩:=p;have NQ:=M4.trans M5;have Pk:=M3.trans NQ;obtain⟨oJ,QF,lJ⟩:=J.loose _ _ Uu;have again:ug n env target body orelse G (vs.drop (i+1)) wh mK Q->∃m,m<vs.length-i/\Kv (O:=cY env A) n env target body orelse G σ s I vs T Q m { s with heap:=h5,toks:=Gg }:=λq5=>
   ⟨vs.length-(i+1),by exact bD (.e (.a .A (.a .B .O)) .C (.f (.a .D .B) .C (.b .A .D))) rfl (Nat.sub_add_cancel (EK gT)) (Nat.sub_add_cancel (Cs gT)),i+1,h5,Gg,wh,mK,rfl,S5,F5,Pk,NQ.mu QF zP,J.keep _ _ _ Uu (λo e=>NQ.keep I o e zP nf no) (gq S3 F3 NQ),q5,gT,rfl⟩
  cases r5 with
  | next=>exact again q5
  | cont=>exact again q5
  | brk=>exact hR _ _ ⟨h5,Gg,.next,wh,mK,rfl,S5,F5,Pk,.next,q5⟩
  | ret r=>exact hR _ _ ⟨h5,Gg,.ret _,wh,mK,rfl,S5,F5,Pk,.ret r,q5⟩
 ·have Ox:i=vs.length:=by exact Nat.le_antisymm (jg hi) (jg (Nat.le_of_not_lt gT))
  subst Ox;rw[List.drop_length]at q2;obtain⟨g2,q2⟩:=q2;refine J.done A { s with heap:=h2,toks:=oh } bU _ _ hA.hand Qi S2 zP g2 λh3 Aq k3=>?_
  have S3:=S2.other uO lI zP h0 k3;have F3:=F2.other uO lI nf no k3;have M3:=M2.other hI k3;exact wpAny_mono (Tr.go q2 (s:=s) hA M3 S3 F3 trivial) (λf s4 p=>hR _ _ p) λ_ _ x=>hE _ _ x
noncomputable def rB(a:V)(σ:AH)(G:AH->Prop)(vs:List V):Prop:=
 ∀(A:Around)(s:Shared)(u:Value)(Q:Value->Shared->Prop)(E:Value->Shared->Prop),A.handled=none->St s.heap σ->ay s.heap u a->
  (∀o T tk,TP G s.heap.objs.size vs T->T 0 (s.heap.push o)->Q (.ref s.heap.objs.size) { s with heap:=s.heap.push o,toks:=tk })->wpAny (model c.prog c.w) A (pyIter u) Q E s
theorem dN{a:Addr}{vs:List V}(ha:σ a=some (.list vs)):rB (.lst a) σ (λaf=>af a=some (.list vs)) vs:=λA s u Q E hh S r hQ=>by
 obtain rfl:=r.lst_inv;have o:=S.objs _ _ ha;cases o with
 | @list us m _ ho hs=>
  refine wpAny_pyIter_list ⟨_,ho,rfl,_,rfl⟩ (hQ _ (λi h=>h.IsListIter s.heap.objs.size a i) s.toks ⟨?_,?_,?_,(λ_ _ _ _ _ st hQ=>wpAny_pyIter_listiter st hQ),(λ_ _ _ _ _ _ _ _ _ st hQ=>by obtain⟨o,e,hc,hd⟩:=st;exact lU e hc hd (by decide) hQ),?_⟩ ⟨_,Heap.get?_push_size _ rfl,rfl,rfl⟩)
  ·rintro i h h' ⟨o,e,x⟩ k _;exact⟨o,k _ e,x⟩
  ·rintro i h ⟨o,e,hc,x⟩;exact⟨o,e,eM hc (by decide) (by decide)⟩
  ·intro i v A s σ Q E hh ht S hI g hv hQ
   have o:=S.objs _ _ g;cases o with
   | @list us m _ ho hs=>
    obtain⟨u,hu,r⟩:=hs.get hv;exact wpAny_pyNext_list_item ht ⟨_,ho,rfl,_,rfl⟩ (by simpa using hu) λh' hit sb=>hQ u h' s.toks r hit λb o n e=>(sb.2 b n).trans e
  ·intro A s σ Q E hh ht S hI g hQ
   have o:=S.objs _ _ g;cases o with
   | @list us m _ ho hs=>
    have e0:=hs.length;rw[Array.length_toList]at e0;exact wpAny_pyNext_list_end hh ht ⟨_,ho,rfl,_,rfl⟩ (by simp[e0]) λh' eb=>hQ h' s.toks λb o n e=>eb b o n e
inductive TupAt(I:Addr)(vs:List V)(i:Nat)(h:Heap):Prop
 | mk(t:Addr)(us:Array Value)(m:Nat)(hit:h.IsTupleIter I t i)(ht:IsT h t us m)(hs:aE h us.toList vs)
theorem Cd{vs:List V}:rB (.tup vs) σ (λ_=>True) vs:=λA s u Q E hh S r hQ=>by
 obtain⟨a,items,m,rfl,ht,hs⟩:=ay.cR r;have ne:∀{h:Heap} {I t:Addr} {i us m},h.IsTupleIter I t i->IsT h t us m->t≠I:=by
  rintro h I t i us m ⟨o,e,hc,_⟩ e2 rfl;rw[e2]at e;cases e;simp at hc
 refine wpAny_pyIter_tuple ⟨_,ht,rfl,_,rfl⟩ (hQ _ (TupAt s.heap.objs.size vs) s.toks ⟨?_,?_,?_,(λ_ _ _ _ _ st hQ=>by obtain⟨_,_,_,st,_⟩:=st;exact wpAny_pyIter_tupleiter st hQ),(λ_ _ _ _ _ _ _ _ _ st hQ=>by obtain⟨_,_,_,⟨o,e,hc,hd⟩,_⟩:=st;exact lU e hc hd (by decide) hQ),?_⟩ ⟨a,items,m,⟨_,Heap.get?_push_size _ rfl,rfl,rfl⟩,aO _ _ _ ht,hs.keep λb o e _=>aO _ b o e⟩)
 ·rintro i h h' ⟨t,us,m,⟨o,e,x⟩,ht,hs⟩ k kl;exact⟨t,us,m,⟨o,k _ e,x⟩,kl _ _ ht (λl=>l (.inl ⟨_,_,rfl⟩)),hs.keep kl⟩
 ·rintro i h ⟨_,_,_,⟨o,e,hc,x⟩,_⟩;exact⟨o,e,eM hc (by decide) (by decide)⟩
 ·intro i v A s σ Q E hh ⟨t,us,m,hit,ht,hs⟩ S hI g hv hQ
  obtain⟨u,hu,r⟩:=hs.get hv;have n1:=ne hit ht;refine wpAny_pyNext_tuple_item hit ⟨_,ht,rfl,_,rfl⟩ (by simpa using hu) λh' Im sb=>?_
  obtain⟨oI,uO,Wr,Yx⟩:=hit;exact hQ u h' s.toks r ⟨t,us,m,Im,(sb.2 t n1).trans ht,hs.keep (c6 uO (eM Wr (by decide) (by decide)) λb o n e=>(sb.2 b n).trans e)⟩ λb o n e=>(sb.2 b n).trans e
 ·intro A s σ Q E hh ⟨t,us,m,hit,ht,hs⟩ S hI g hQ
  have e0:=hs.length;rw[Array.length_toList]at e0;exact wpAny_pyNext_tuple_end hh hit ⟨_,ht,rfl,_,rfl⟩ (by simp[e0]) λh' eb=>hQ h' s.toks λb o n e=>eb b o n e
noncomputable def dG(a b:Int):List V:=(List.range (b-a).toNat).map λi=>.int (a+(i:Nat))
theorem jI(a b:Int):(dG a b).length=(b-a).toNat:=by simp[dG]
theorem vm(a b:Int):Builtin.Range.rangeSize a b 1=((b-a).toNat:Int):=by
 delta Builtin.Range.rangeSize
 rw[if_pos (by decide)]
 by_cases h:a<b
 ·rw[if_pos h,Int.ediv_one,Int.sub_add_cancel];exact(Int.toNat_of_nonneg (Int.sub_nonneg.mpr (Int.le_of_lt h))).symm
 ·rw[if_neg h,Int.toNat_of_nonpos (Int.sub_nonpos_of_le (Int.not_lt.mp h))];rfl
theorem pV{a b:Int}(ha: -1000000<=a)(Ie:a<=1000000)(hb: -1000000<=b)(Oh:b<=1000000):rB (.Ag a b) σ (λ_=>True) (dG a b):=λA s u Q E hh S r hQ=>by
 obtain⟨r,t,u,v,rfl,ho⟩:=r.yZ;have sz:=vm a b;refine wpAny_pyIter_range ho (small_one (by exact(Int.le_trans (by decide) ha)) (by exact(Int.lt_of_le_of_lt Ie (by decide))) (by exact(Int.le_trans (by decide) hb)) (by exact(Int.lt_of_le_of_lt Oh (by decide)))) ?_
 refine(hQ _ (λi h=>IsRangeIter h s.heap.objs.size (a+(i:Nat)) (((b-a).toNat:Int)-(i:Nat)) 1) s.toks ⟨?_,?_,?_,(λ_ _ _ _ _ st hQ=>wpAny_pyIter_rangeiter st hQ),(λ_ _ _ _ _ _ _ _ _ st hQ=>lU st rfl rfl (by decide) hQ),?_⟩ ?_)
 ·intro i h h' x k _;exact k _ x
 ·intro i h x;exact⟨_,x,eM (t:="range_iterator") rfl (by decide) (by decide)⟩
 ·intro i w A s σ Q E hh hit S hI g hv hQ
  have gT:i<(b-a).toNat:=by have:=(List.getElem?_eq_some_iff.mp hv).1;rwa [jI]at this
  have ev:w=.int (a+(i:Nat)):=by simp[dG,List.getElem?_range gT]at hv;exact hv.symm
  subst ev;refine wpAny_pyNext_range_item hit (by exact XJ gT) λh' Im sb=>hQ _ h' _ (.int _ _) ?_ λb o n e=>(sb.2 b n).trans e
  have e1:a+((i+1:Nat):Int)=a+(i:Int)+1:=by exact XK
  have e2:((b-a).toNat:Int)-((i+1:Nat):Int)=((b-a).toNat:Int)-(i:Int)-1:=by exact XM
  rw[e1,e2];exact Im
 ·intro A s σ Q E hh hit S hI g hQ
  rw[jI]at hit;exact wpAny_pyNext_range_end hh hit (by exact XN ) λh' eb=>hQ h' s.toks λb o n e=>eb b o n e
 ·rw[<-sz]
  have:a+((0:Nat):Int)=a:=by exact XO
  rw[this];have:Builtin.Range.rangeSize a b 1-((0:Nat):Int)=Builtin.Range.rangeSize a b 1:=by exact RJ
  rw[this];exact Heap.get?_push_size _ rfl
inductive Pc(n:NX)(env:Env)(target:Expr)(body orelse:List Stmt)(Q:Fl->Loc->AH->Prop)(a:V)(ρ:Loc)(σ:AH):Prop
 | mk(G:AH->Prop)(vs:List V)(it:rB a σ G vs)(f:ug n env target body orelse G vs ρ σ Q)
theorem fW{target iter:Expr}{body orelse:List Stmt}{pos:Pos}(h:Ex n env iter ρ σ (λa bJ aI=>Pc n env target body orelse Q a bJ aI))
  (hs:autoParam (∀x,foldedSetIterable iter env x=Pure.pure x) NU) (ht:autoParam (∀I v,letOwnedTupleGo target (.ref I) v=Pure.pure ()) V2):oq n env (.For target iter body orelse pos) ρ σ Q:=λA s hA S F _=>by
 refine wpAny_For (wpAny_mono (h A s hA S F trivial) (λu s1 p=>?_) λ_ _ x=>x) hs
 obtain⟨h1,gv,a,bJ,aI,rfl,S1,F1,M1,r1,G,vs,J,q1⟩:=p;refine J A { s with heap:=h1,toks:=gv } u _ _ hA.hand S1 r1 λo T tk J hT=>?_
 have kp:=aO (h:=h1) o;have nI:h1.get? h1.objs.size=none:=bz (Nat.le_refl _);have Iz:aI h1.objs.size=none:=by
  cases z:aI h1.objs.size with
  | none=>rfl
  | some ao=>obtain⟨ob,e1,_⟩:=(S1.objs _ _ z).at;rw[nI]at e1;cases e1
 exact BG J hA (s:=s) (M1.xo nI) S F rfl (S1.ext kp) (F1.ext' kp) (M1.trans (.ext kp)) Iz hT q1 (λf s' p=>p) (λ_ _ x=>x.loop hA) (ht _)
end
end
section
variable{O:List Env}
abbrev Ru:Int->Loc->AH->Prop:=λ_ _ _=>False
abbrev nx(n:Nat):NX:=⟨n,Ru⟩
theorem EPost.no{env:Env}{σ:AH}{s s':Shared}{x:Value}{P:Prop}(p:EPost O env σ s Ru x s'):P:=by
 obtain⟨e,d,B,h1,tk,num,bJ,aI,rfl,rfl,S,F,Y,Me,q⟩:=p;exact q.elim
noncomputable def ye(n:Nat)(eO:Env)(target elt:Expr)(G:AH->Prop)(K:Loc->Prop):List V->List V->Loc->AH->(List V->AH->Prop)->Prop
 | [],acc,ρ,σ,Q=>G σ/\Q acc σ
 | v::vs,acc,ρ,σ,Q=>G σ/\yc (nx n) eO target v ρ σ (λbJ aI=>Ex (nx n) eO elt bJ aI (λy d5 bU=>acc.length<=1000000/\K d5/\ye n eO target elt G K vs (acc++[y]) d5 bU Q))
section
variable{env:Env}{σ:AH}{ρ:Loc}{h:Heap}
theorem St.adopt(S:St h σ){a:Addr}{ao:AO}(r:jq h a ao)(h0:c.h0.get? a=none)(h1:a≠1):St h (σ.put a ao):=by
 refine⟨S.fP,λb o e=>?_,λb o e=>?_,λb o e=>?_,S.base,S.ok⟩
 ·by_cases q:b=a
  ·subst q;rw[AH.aa]at e;cases e;exact r
  ·rw[AH.ae _ _ q]at e;exact S.objs b o e
 ·by_cases q:b=a
  ·subst q;exact h0
  ·rw[AH.ae _ _ q]at e;exact S.new b o e
 ·by_cases q:b=a
  ·rw[q];exact h1
  ·rw[AH.ae _ _ q]at e;exact S.lo b o e
theorem dh.adopt(F:dh O env h σ ρ){a:Addr}{ao:AO}(na:a∉aw env)(no:a∉outs O):dh O env h (σ.put a ao) ρ:=
 F.ext (λ_ _ e=>e) (λb hb=>by
  rw[AH.ae]
  ·exact(F.sep b hb).1
  ·rintro rfl;exact na hb) λe he=>by
  rw[AH.ae]
  ·exact(F.out e he).free
  ·intro z;exact no (z▸List.mem_map_of_mem he)
theorem Fm.adopt{g:Heap}{oj:AH}(M:Fm O env oj g h σ){a:Addr}{ao:AO}(ha:g.get? a=none):Fm O env oj g h (σ.put a ao):=
 ⟨M.keep,M.slots,M.iA,λb o e1 e2=>by
  by_cases q:b=a
  ·rw[q];exact ha
  ·rw[AH.ae _ _ q]at e1;exact M.fresh b o e1 e2⟩
theorem dh.Ai(F:dh O env h σ ρ){b:Addr}(m:b∈aw env){o:Obj}(e:h.get? b=some o)(sl:Array (Option Value)):Loose { o with slots:=sl }:=by
 rcases List.mem_cons.mp m with rfl | m
 ·obtain⟨_,o',es,ep,e1,e2,_⟩:=F.ns
  rw[e]at e1;cases e1;exact cX e2
 ·obtain⟨q,hq,rfl⟩:=List.mem_map.mp m
  obtain⟨v,o',e1,e2⟩:=F.cell q hq;rw[e]at e1;cases e1;exact iS e2
theorem dh.pq{l:List Env}{eO:Env}{h':Heap}{af:AH}{Yh VE:Loc}(S:St h σ)(F:dh O env h σ ρ)(F0:dh l eO h σ Yh)(M:Fm l eO σ h h' af)(F':dh l eO h' af VE)
  (hO:∀e∈O,e∈l) (hl:env.locals∉aw eO)
  (rN:∀p∈env.cells,p.2∈aw eO->eO.kindOf p.1=some .cell/\eO.cells.lookup p.1=some p.2)
  (hk:∀p∈eO.cells,∀v,ρ.lookup p.1=some v->VE.lookup p.1=some v) (Ox:∀p∈eO.cells,p.2∈aw eO):dh O env h' af ρ:=by
 have keep:∀b∈aw env,b∉aw eO->∀o,h.get? b=some o->∃sl,h'.get? b=some { o with slots:=sl }:=λb hb nb o e=>by
  by_cases q:b∈outs l
  ·exact M.slots b o e q
  ·exact⟨o.slots,M.keep b o e (F.sep b hb).1 nb q⟩
 have nt:∀{m},h.Ns env.locals m->h'.Ns env.locals m:=λ{m} hn=>by
  obtain⟨o,es,ep,ho,hd,r⟩:=hn;obtain⟨sl,e⟩:=keep _ (.head _) hl o ho;exact⟨_,es,ep,e,hd,r⟩
 refine⟨λx v e=>?_,?_,λb hb=>?_,F.nodup,λq hq=>?_,F.kind,F.glob,λe he=>?_⟩
 ·obtain⟨u,hu,r⟩:=F.has x v e
  rcases hu with ⟨uN,m,hn,hv⟩ | ⟨Oy,a,o,hc,ho,hd⟩
  ·exact⟨u,.inl ⟨uN,m,nt hn,hv⟩,r.step S F0 M⟩
  ·obtain⟨l1,l2,ec,_⟩:=List.lookup_eq_some_iff.mp hc
   have mc:(x,a)∈env.cells:=by rw[ec];exact iy
   by_cases q:a∈aw eO
   ·obtain⟨k1,k2⟩:=rN _ mc q
    have m2:(x,a)∈eO.cells:=by
     obtain⟨j1,j2,ej,_⟩:=List.lookup_eq_some_iff.mp k2;rw[ej];exact iy
    obtain⟨u',Xc,r'⟩:=F'.has x v (hk _ m2 v e);rcases Xc with ⟨uN,_⟩ | ⟨_,a',o',Ej,mH,BM⟩
    ·rw[k1]at uN;cases uN
    ·rw[k2]at Ej;cases Ej
     exact⟨u',.inr ⟨Oy,a,o',hc,mH,BM⟩,r'⟩
   ·obtain⟨sl,e1⟩:=keep a (.tail _ (List.mem_map.mpr ⟨(x,a),mc,rfl⟩)) q o ho
    exact⟨u,.inr ⟨Oy,a,_,hc,e1,hd⟩,r.step S F0 M⟩
 ·obtain⟨m,hm⟩:=F.ns;exact⟨m,nt hm⟩
 ·obtain⟨e1,e2,o,e3,e4⟩:=F.sep b hb
  by_cases q:b∈aw eO
  ·obtain⟨f1,_,o',f3,f4⟩:=F'.sep b q
   exact⟨f1,e2,o',f3,f4⟩
  ·obtain⟨sl,e5⟩:=keep b hb q o e3
   exact⟨M.mu e3 e1,e2,_,e5,F.Ai hb e3 sl⟩
 ·by_cases z:q.2∈aw eO
  ·obtain⟨k1,k2⟩:=rN _ hq z
   have m2:(q.1,q.2)∈eO.cells:=by
    obtain⟨j1,j2,ej,_⟩:=List.lookup_eq_some_iff.mp k2;rw[ej];exact iy
   exact F'.cell _ m2
  ·obtain⟨v,o,ho,hd⟩:=F.cell q hq
   obtain⟨sl,e⟩:=keep _ (.tail _ (List.mem_map_of_mem hq)) z o ho;exact⟨v,_,e,hd⟩
 ·have x:=F'.out e (hO e he)
  exact⟨x.kind,x.fr,(F.out e he).away,x.free,x.xg,x.obj⟩
theorem Fm.pq{l:List Env}{eO:Env}{g h':Heap}{oj af:AH}(M:Fm O env oj g h σ)(N:Fm l eO σ h h' af)(hO:∀b∈outs O,b∈outs l)(hl:∀b∈outs l,b∈outs O\/b∈aw env)(hf:∀b∈aw eO,b∈aw env\/g.get? b=none):Fm O env oj g h' af:=by
 refine⟨λb o e n f f2=>?_,λb o e m=>?_,λb o e=>?_,λb o e n=>?_⟩
 ·have e2:=M.keep b o e n f f2
  refine N.keep b o e2 (M.mu e n) (λq=>?_) λq=>?_
  ·rcases hf b q with q | q
   ·exact f q
   ·rw[q]at e;cases e
  ·rcases hl b q with q | q
   ·exact f2 q
   ·exact f q
 ·obtain⟨sl,e1⟩:=M.slots b o e m
  obtain⟨Jn,e2⟩:=N.slots b _ e1 (hO b m);exact⟨Jn,e2⟩
 ·obtain⟨o',e'⟩:=M.iA b o e
  exact N.iA b o' e'
 ·cases z:σ b with
  | none=>exact M.xo (N.fresh b o e z)
  | some o'=>exact M.fresh b o' z n
end
section
variable{n:NX}{env:Env}{ρ:Loc}{σ:AH}{Q:V->Loc->AH->Prop}
inductive CompI(O l:List Env)(n:Nat)(env eO:Env)(target elt:Expr)(G:AH->Prop)(K:Loc->Prop)(bJ:Loc)(σ:AH)(s:Shared)(I D:Addr)(vs:List V)(T:Nat->Heap->Prop)(Q:List V->AH->Prop)(k:Nat)(s':Shared):Prop
 | mk(i:Nat)(h':Heap)(tk:Nat)(ρ':Loc)(af:AH)(us:Array Value)(m:Nat)(acc:List V)(e:s'={ s with heap:=h',toks:=tk })(S:St h' af)(F':dh l eO h' af ρ')(F:dh O env h' af bJ)(M:Fm O env σ s.heap h' af)(hI:af I=none)(hD:af D=none)(hT:T i h')(L:IsL h' D us m)(R:aE h' us.toList acc)
  (q:ye n eO target elt G K (vs.drop i) acc ρ' af Q) (hi:i<=vs.length) (hk:k=vs.length-i)
def lq(target:Expr):Prop:=∀{prog:Program}{A:Around}{elt iter:Expr}{scope:Scope}{pos:Pos}{it acc:Value}{env:Env}{R:Result->Shared->Prop}(I:Nat->Shared->Prop)
  (turn:∀n s,I n s->wpAny (model prog w) A (pyNext it) (λr cy=>match r with
   | none=>R (.ok .next) cy
   | some v=>(∀(elts:List Expr)(x1:Nat)(tp:Pos)(Q:Unit->Shared->Prop)(E:Value->Shared->Prop),Q () cy->wpAny (model prog w) A (letOwnedTupleGo (.Tuple elts x1 tp) it v) Q E cy)/\wpAny (model prog w) A (assign target env v) (λ_ FV=>
     wpAny (model prog w) A (eval elt env) (λx Tz=>
       wpAny (model prog w) A (call (.builtin "list.append") [acc,x]) (λ_ TA=>∃m,m<n/\I m TA) (notedBy (model prog w) A env λe s'=>R (.error e) s') Tz) (notedBy (model prog w) A env λe s'=>R (.error e) s') FV)
     (notedBy (model prog w) A env λe s'=>R (.error e) s') cy) (notedBy (model prog w) A env λe s'=>R (.error e) s') s)
  (n:Nat),(∀s,I n s->codeAny (model prog w) A (.compLoop (.ListComp elt [⟨target,iter,[],0⟩] scope pos) 0 it acc env) R s)
theorem Jk{target:Expr}(ht:∀it v,letOwnedTupleGo target it v=Pure.pure ()):lq target:=λI turn n s h=>
 codeAny_compLoop_tests I (λn s hI=>wpAny_mono (turn n s hI) (λr cy je=>by
  cases r with
  | none=>exact je
  | some v=>exact wpAny_mono je.2 (λ_ FV B9=>wpAny_tests_nil (by simp only[if_true];exact B9)) λ_ _ x=>x) λ_ _ x=>x) n h (ht _)
theorem xB{elts:List Expr}{x1:Nat}{tp:Pos}:lq (.Tuple elts x1 tp):=λI turn n s h=>
 LCp.codeAny_compLoop_pair I (λn s hI=>wpAny_mono (turn n s hI) (λr cy je=>by
  cases r with
  | none=>exact je
  | some v=>exact je.1 _ _ _ _ _ je.2) λ_ _ x=>x) n h
inductive TZ(n:Nat)(env:Env)(scope:Scope)(cl:List (Str×Addr))(target elt:Expr)(Q:V->Loc->AH->Prop)(a:V)(bJ:Loc)(aI:AH):Prop
 | mk(G:AH->Prop)(vs:List V)(NB:Loc)(J:rB a aI G vs)(UX:∀x v,NB.lookup x=some v->bJ.lookup x=some v/\x∈cl.map (·.1))
  (q:∀C,ye n (compEnvC scope cl C env) target elt G (λρ'=>∀p∈cl,∀v,bJ.lookup p.1=some v->ρ'.lookup p.1=some v) vs [] NB aI (λys bU=>∀D,bU D=none->Q (.lst D) bJ (bU.put D (.list ys))))
end
namespace fG
@[reducible] noncomputable def P(n:NX)(env:Env)(ρ:Loc)(σ:AH)(Q:V->Loc->AH->Prop)(A:Around)(s:Shared)(scope:Scope)(cl:List (Str×Addr))(pos:Pos):Prop:=∀{elt:Expr}{target:Expr}{iter:Expr}(yG:closureFor scope env=pure cl)(yF:∀y∈scope.names,y.2≠.cell)(rO:scope.kind=.function)(sY:∀y∈scope.names,y.2=.local->scope.names.lookup y.1=some .local)(rN:∀p∈cl,env.cells.lookup p.1=some p.2/\cl.lookup p.1=some p.2/\(relabel scope env).names.lookup p.1=some .cell/\(env.kindOf p.1=some .cell\/env.kindOf p.1=some .free))(Oz:(cl.map (·.2)).Nodup)(yE:∀p∈env.cells,p.2∈cl.map (·.2)->p∈cl)(h:Ex n env iter ρ σ (TZ n.n env scope cl target elt Q))(hs:∀x,foldedSetIterable iter env x=Pure.pure x)(hr:lq target)(hA:fp env A n)(S:St s.heap σ)(F:dh (cY env A) env s.heap σ ρ),wpAny (model c.prog c.w) A (eval (.ListComp elt [⟨target,iter,[],0⟩] scope pos) env) (aR (cY env A) env σ s ay Q) (EPost (cY env A) env σ s n.X) s
noncomputable def Q_:=UU λn=>UU λenv=>UU λρ=>UU λσ=>UU λQ=>UU λA=>UU λs=>UU λscope=>UU (P n env ρ σ Q A s scope)
noncomputable def x_:=xx Q_ (⟨0,λ_ _ _=>True⟩,default,[],(λ_=>none),(λ_ _ _=>True),({}:Around),({}:Shared),default,[],default)
def n:=x_.1
def env:=x_.2.1
def ρ:=x_.2.2.1
def σ:=x_.2.2.2.1
def Q:=x_.2.2.2.2.1
def A:=x_.2.2.2.2.2.1
def s:=x_.2.2.2.2.2.2.1
def scope:=x_.2.2.2.2.2.2.2.1
def cl:=x_.2.2.2.2.2.2.2.2.1
def pos:=x_.2.2.2.2.2.2.2.2.2
theorem go:P n env ρ σ Q A s scope cl pos:=by
 intro elt target iter yG yF rO sY rN Oz yE h hs hr hA S F;rw[eval_ListComp];refine wpAny_comprehension_free (use:=none) rfl hs yG rO sY (wpAny_mono (h A s hA S F trivial) (λu s1 p=>?_) λ_ _ x=>x)
 obtain⟨h1,gv,a,bJ,aI,rfl,S1,F1,M1,r1,G,vs,NB,J,UX,q1⟩:=p;refine J A { s with heap:=h1,toks:=gv } u _ _ hA.hand S1 r1 λo T oh J hT=>?_
 dsimp only at J hT ⊢;generalize hI:h1.objs.size=I at J hT ⊢;have kI:=aO (h:=h1) o;have nI:h1.get? I=none:=by rw[<-hI];exact bz (Nat.le_refl _)
 have J5:(h1.push o).objs.size=I+1:=by rw[Heap.size_push,hI]
 generalize En:h1.push o=h2 at hT kI J5 ⊢;refine wpAny_newObj_type (wpAny_newFunctionEnv yF (by intro y hy;simp at hy) (λh4 sZ Eu=>?_) rO)
 dsimp only at sZ Eu ⊢;generalize Qw:h2.push { cls:=.type "list",dict:=none,data:=.seq ([]:List Value).toArray }=h3 at sZ Eu ⊢;have kD:∀b o,h2.get? b=some o->h3.get? b=some o:=by rw[<-Qw];exact aO _
 have Ur:h3.get? h2.objs.size=some { cls:=.type "list",dict:=none,data:=.seq ([]:List Value).toArray,slots:= #[] }:=by rw[<-Qw];exact Heap.get?_push_size _ rfl
 have Nj:h3.objs.size=h2.objs.size+1:=by rw[<-Qw,Heap.size_push]
 generalize hD:h2.objs.size=D at Ur Nj ⊢;generalize hC:h3.objs.size=C at sZ Eu ⊢;have Rm:I≠D:=by exact(λz0=>aX (.f .A (.a .B .O) (.e .A .C (.f .B .C (.z)))) rfl J5 hD z0)
 have OK:I≠C:=by exact(λz0=>gf (.f .A (.a .B .O) (.f .C (.a .D .O) (.e .A .E (.e .C .B (.f .D .E (.z)))))) rfl Nj J5 hC hD z0)
 have Rl:D≠C:=by exact(λz0=>aX (.f .A (.a .B .O) (.e .A .C (.f .B .C (.z)))) rfl Nj hC z0)
 have n1:∀b,h1.objs.size<=b->h1.get? b=none:=λb hb=>bz hb
 have CC:h1.get? D=none:=n1 D (by exact bD (.f .A (.a .B .O) (.e .A .C (.e .D .B (.g .D .C)))) rfl J5 hD hI)
 have CB:h1.get? C=none:=n1 C (by exact lZ (.f .A (.a .B .O) (.f .C (.a .D .O) (.e .A .E (.e .C .B (.e .F .D (.g .F .E)))))) rfl Nj J5 hC hD hI)
 have k4:∀b o,b≠C->h3.get? b=some o->h4.get? b=some o:=λb o nb e=>Eu.extBut b o nb (aO _ b o e)
 have Q6:∀b o,h1.get? b=some o->h4.get? b=some o:=λb o e=>k4 b o (λq=>by rw[q,CB]at e;cases e) (kD b o (kI b o e))
 have none_of:∀{a:Addr},h1.get? a=none->aI a=none:=λ{a} ha=>by
  cases z:aI a with
  | none=>rfl
  | some ao=>obtain⟨ob,e1,_⟩:=(S1.objs _ _ z).at;rw[ha]at e1;cases e1
 have uJ:∀{a:Addr},h1.get? a=none->c.h0.get? a=none:=λ{a} ha=>by
  cases z:c.h0.get? a with
  | none=>rfl
  | some ao=>rw[S1.fP _ _ z]at ha;cases ha
 have t7:∀{a:Addr},h1.get? a=none->a∉aw env:=λ{a} ha m=>by obtain⟨_,_,o,e,_⟩:=F1.sep a m;rw[ha]at e;cases e
 have hE:aw (compEnvC scope cl C env)=C::cl.map (·.2):=rfl
 have S4:St h4 aI:=S1.ext Q6;have F4:dh (cY env A) env h4 aI bJ:=F1.ext' Q6;have M4:Fm (cY env A) env σ s.heap h4 aI:=M1.trans (.ext Q6);have pE:∀p∈cl,p.2∈aw env:=λp hp=>by
  obtain⟨l1,l2,ec,_⟩:=List.lookup_eq_some_iff.mp (rN p hp).1;exact .tail _ (List.mem_map.mpr ⟨p,by rw[ec];exact iy,rfl⟩)
 have Vd:env.locals≠C:=λq=>t7 CB (by rw[<-q];exact .head _)
 obtain⟨l,zJ,UG,QA⟩:∃l,A.frames=some l/\(∀e∈cY env A,e∈l)/\∀e∈l,e∈cY env A\/(e=env/\env.frame=some env.locals):=by
  rcases hA.frames with z | z
  ·exact⟨_,z.1,λe he=>.tail _ he,λe he=>(List.mem_cons.mp he).elim (λq=>.inr ⟨q,z.2⟩) .inl⟩
  ·exact⟨_,z.1,λe he=>he,λe he=>.inl he⟩
 have MP:∀e∈cY env A,e.locals≠C:=λe he q=>by
  obtain⟨o,_,_,e1,_⟩:=(F1.out e he).obj;rw[q,CB]at e1;cases e1
 have AW:cY (compEnvC scope cl C env) A=l:=by
  unfold cY;rw[zJ];cases l with
  | nil=>rfl
  | cons e l=>
   refine if_neg λq=>?_
   have q:e.locals=C:=q;rcases QA e (.head _) with z | z
   ·exact MP e z q
   ·rw[z.1]at q;exact Vd q
 have Od:fp (compEnvC scope cl C env) A (nx n.n):=⟨hA.depth,hA.units,hA.hand,.inr ⟨by rw[AW];exact zJ,λ_ _ _ q=>q⟩⟩
 have outI:∀b∈outs l,b∈outs (cY env A)\/b=env.locals:=λb hb=>by
  obtain⟨e,he,rfl⟩:=List.mem_map.mp hb;rcases QA e he with z | z
  ·exact .inl (List.mem_map_of_mem z)
  ·exact .inr (by rw[z.1])
 have Xx:env.locals∉cl.map (·.2):=λm=>by
  obtain⟨p,hp,e⟩:=List.mem_map.mp m;have nd:=F1.nodup;unfold aw at nd;rw[List.nodup_cons]at nd;obtain⟨l1,l2,ec,_⟩:=List.lookup_eq_some_iff.mp (rN p hp).1;exact nd.1 (e▸List.mem_map.mpr ⟨p,by rw[ec];exact iy,rfl⟩)
 have J2:∀{a:Addr},h1.get? a=none->a∉outs (cY env A):=λ{a} ha m=>by
  obtain⟨e,he,q⟩:=List.mem_map.mp m;obtain⟨o,_,_,e1,_⟩:=(F1.out e he).obj;rw[q,ha]at e1;cases e1
 have Mz:∀{a:Addr},h1.get? a=none->a∉outs l:=λ{a} ha m=>by
  rcases outI a m with z | z
  ·exact J2 ha z
  ·exact t7 ha (by rw[z];exact .head _)
 have VN:dh l (compEnvC scope cl C env) h4 aI NB:=by
  refine⟨λx v e=>?_,⟨_,sZ⟩,λb hb=>?_,?_,λq hq=>?_,rO,F1.glob,λe he=>?_⟩
  rotate_right
  ·rcases QA e he with z | z
   ·have x:=F4.out e z
    refine⟨x.kind,x.fr,λm=>?_,x.free,x.xg,x.obj⟩
    rw[hE]at m;rcases List.mem_cons.mp m with q | q
    ·exact MP e z q
    ·obtain⟨p,hp,q⟩:=List.mem_map.mp q
     exact x.away (q▸pE p hp)
   ·rw[z.1]
    obtain⟨e1,e2,_⟩:=F4.sep _ (.head _);obtain⟨_,o,es,ep,ho,hd,_⟩:=F4.ns;refine⟨by rw[F4.kind];decide,z.2,λm=>?_,e1,e2,o,es,ep,ho,hd⟩
    rw[hE]at m;rcases List.mem_cons.mp m with q | q
    ·exact Vd q
    ·exact Xx q
  ·obtain⟨e1,m1⟩:=UX x v e
   obtain⟨p,hp,rfl⟩:=List.mem_map.mp m1;obtain⟨c1,c2,c3,c4⟩:=rN p hp;obtain⟨u,hu,r⟩:=F4.has _ _ e1;rcases hu with ⟨uN,_⟩ | ⟨_,a,o,hc,ho,hd⟩
   ·rcases c4 with c4 | c4<;>(rw[c4]at uN;cases uN)
   ·rw[c1]at hc;cases hc
    exact⟨u,.inr ⟨.inl c3,p.2,o,c2,ho,hd⟩,r⟩
  ·rw[hE]at hb
   rcases List.mem_cons.mp hb with rfl | hb
   ·obtain⟨oL,es,ep,GU,hd,_⟩:=sZ
    exact⟨none_of CB,uJ CB,oL,GU,cX hd⟩
   ·obtain⟨p,hp,rfl⟩:=List.mem_map.mp hb
    exact F4.sep _ (pE p hp)
  ·rw[hE,List.nodup_cons]
   refine⟨λm=>?_,Oz⟩
   obtain⟨p,hp,e⟩:=List.mem_map.mp m;exact t7 CB (e▸pE p hp)
  ·have JV:q∈cl:=hq
   obtain⟨l1,l2,ec,_⟩:=List.lookup_eq_some_iff.mp (rN q JV).1;exact F4.cell q (by rw[ec];exact iy)
 have T4:T 0 h4:=J.keep 0 h2 h4 hT (λo e=>k4 I o OK (kD I o e)) λb o e _=>k4 b o (λq=>by
  have l: @LT.lt Nat _ b h2.objs.size:=Heap.lt_size e;have q': @Eq Nat b C:=q;exact gf (.t .A .B (.f .C (.a .D .O) (.e .B .D (.e .C .E (.f .A .E (.z)))))) rfl l Nj hD hC q) (kD b o e)
 have Wi:IsL h4 D #[] 0:=k4 D _ Rl Ur;have key:codeAny (model c.prog c.w) A (.compLoop (.ListComp elt [⟨target,iter,[],0⟩] scope pos) 0 (.ref I) (.ref D) (compEnvC scope cl C env)) (compPost (model c.prog c.w) A (EPost (cY env A) env σ s n.X) none (aR (cY env A) env σ s ay Q) (.ref D) C) { s with heap:=h4,toks:=oh }:=by
  refine hr (λk s'=>CompI (cY env A) l n.n env (compEnvC scope cl C env) target elt G (λρ'=>∀p∈cl,∀v,bJ.lookup p.1=some v->ρ'.lookup p.1=some v) bJ σ s I D vs T (λys bU=>∀D,bU D=none->Q (.lst D) bJ (bU.put D (.list ys))) k s') ?_ vs.length _
   ⟨0,h4,oh,NB,aI, #[],0,[],rfl,S4,VN,F4,M4,none_of (by rw[<-hI];exact n1 _ (Nat.le_refl _)),none_of CC,T4,Wi,.nil,q1 C,Nat.zero_le _,rfl⟩
  rintro k s' ⟨i,h5,Gg,wh,mK,us,m,acc,rfl,S5,Pa,F5,M5,JP,Qh,T5,L5,R5,q5,hi,rfl⟩;obtain⟨oI,uO,lI⟩:=J.loose _ _ T5;have Vf:s.heap.get? I=none:=M1.xo nI;have Ve:s.heap.get? D=none:=M1.xo CC;have Vc:s.heap.get? C=none:=M1.xo CB;have AZ:h1.get? I=none:=nI;have Fj:∀{a:Addr},h1.get? a=none->a≠C->a∉aw (compEnvC scope cl C env):=λ{a} ha nc m=>by
   rw[hE]at m;rcases List.mem_cons.mp m with q | q
   ·exact nc q
   ·obtain⟨p,hp,e⟩:=List.mem_map.mp q
    exact t7 ha (e▸pE p hp)
  have lD:Loose { cls:=.type "list",dict:=none,data:=.seq us m,slots:= #[] }:=eM (t:="list") rfl (by decide) (by decide)
  by_cases gT:i<vs.length
  ·have ed:vs.drop i=vs[i]::vs.drop (i+1):=(List.drop_eq_getElem_cons gT)
   rw[ed]at q5;obtain⟨g5,q5⟩:=q5;refine J.item i vs[i] A { s with heap:=h5,toks:=Gg } mK _ _ hA.hand T5 S5 JP g5 (List.getElem?_eq_getElem gT) λu h6 J9 r6 T6 k6=>?_
   have S6:=S5.other uO lI JP (uJ AZ) k6;have Hv:=Pa.other uO lI (Fj AZ OK) (Mz AZ) k6;have F6:=F5.other uO lI (t7 AZ) (J2 AZ) k6;have M6:=M5.other Vf k6;have R6:=R5.keep (c6 uO lI k6);have L6:IsL h6 D us m:=k6 D _ (λq=>Rm q.symm) L5
   refine⟨λelts x1 tp Q E hq=>J.go (i+1) A { s with heap:=h6,toks:=J9 } elts x1 tp u Q E T6 hq,?_⟩
   refine wpAny_mono (q5 u A { s with heap:=h6,toks:=J9 } Od S6 (by rw[AW];exact Hv) (r6.keep (c6 uO lI k6))) (λ_ s7 p=>?_) λ_ _ x=>x.no
   rw[AW]at p;obtain⟨h7,TB,_,VD,Kg,rfl,S7,VO,M7,_,q7⟩:=p;refine wpAny_mono (q7 A { s with heap:=h7,toks:=TB } Od S7 (by rw[AW];exact VO) trivial) (λy s8 p=>?_) λ_ _ x=>x.no
   rw[AW]at p;obtain⟨h8,YK,yv,NC,rp,rfl,S8,TN,M8,r8,WJ,K8,q8⟩:=p;have Gx:Fm l (compEnvC scope cl C env) mK h6 h8 rp:=M7.trans M8;have Og:aw (compEnvC scope cl C env)=C::cl.map (·.2):=rfl
   have F8:dh (cY env A) env h8 rp bJ:=F6.pq S6 Hv Gx TN UG (by
    rw[Og];intro q;rcases List.mem_cons.mp q with q | q
    ·exact t7 CB (q▸.head _)
    ·obtain⟨p,hp,e⟩:=List.mem_map.mp q
     have nd:=F1.nodup;unfold aw at nd;rw[List.nodup_cons]at nd;obtain⟨l1,l2,ec,_⟩:=List.lookup_eq_some_iff.mp (rN p hp).1;exact nd.1 (e▸List.mem_map.mpr ⟨p,by rw[ec];exact iy,rfl⟩)) (λp hp q=>by
    rw[Og]at q;rcases List.mem_cons.mp q with q | q
    ·exact absurd (List.mem_cons_of_mem _ (List.mem_map_of_mem hp)) (q▸t7 CB)
    ·obtain⟨c1,c2,c3,c4⟩:=rN p (yE p hp q)
     exact⟨c3,c2⟩) K8 (λp hp=>by rw[Og];exact List.mem_cons_of_mem _ (List.mem_map_of_mem hp))
   have VS:Fm (cY env A) env σ s.heap h8 rp:=M6.pq Gx (λb hb=>by
    obtain⟨e,he,rfl⟩:=List.mem_map.mp hb;exact List.mem_map_of_mem (UG e he)) (λb hb=>(outI b hb).imp id λz=>by rw[z];exact .head _) λb hb=>by
    rw[Og]at hb;rcases List.mem_cons.mp hb with q | q
    ·exact .inr (q▸Vc)
    ·obtain⟨p,hp,e⟩:=List.mem_map.mp q
     exact .inl (e▸pE p hp)
   have Vj:=Fj CC Rl;have L8:IsL h8 D us m:=Gx.keep D _ L6 Qh Vj (Mz CC);have T8:T (i+1) h8:=J.keep _ _ _ T6 (λo e=>Gx.keep I o e JP (Fj AZ OK) (Mz AZ)) (gq S6 Hv Gx)
   have Wj:rp I=none:=by
    obtain⟨oJ,QF,_⟩:=J.loose _ _ T6;exact Gx.mu QF JP
   have Us:rp D=none:=Gx.mu L6 Qh;have R8:=R6.step S6 Hv Gx;have el:us.size<=sizeLine:=by have:=R8.length;rw[Array.length_toList]at this;rw[sizeLine_eq];exact EJ this WJ
   refine call_meets PySem.F.slot_list_append (T:="list") ⟨_,L8,rfl⟩ PySem.F.entry_list_append (PySem.F.args_list_append_2 _ _) (list_append D us m y el) ⟨L8,?_⟩;have sb:=Heap.SameBut.update h8 D (Obj.mapSeq λx=>x.push y)
   have k9:∀b o,b≠D->h8.get? b=some o->(h8.update D (Obj.mapSeq λx=>x.push y)).get? b=some o:=λb o nb e=>(sb.2 b nb).trans e
   have lk:=c6 L8 lD k9;refine⟨vs.length-(i+1),by exact bD (.e (.a .A (.a .B .O)) .C (.f (.a .D .B) .C (.b .A .D))) rfl (Nat.sub_add_cancel (EK gT)) (Nat.sub_add_cancel (Cs gT)),i+1,_,_,NC,rp,_,_,acc++[yv],rfl,S8.other L8 lD Us (uJ CC) k9,TN.other L8 lD Vj (Mz CC) k9,F8.other L8 lD (t7 CC) (J2 CC) k9,VS.other Ve k9,Wj,Us,J.keep _ _ _ T8 (λo e=>k9 I o Rm e) lk,L8.update _,?_,q8,gT,rfl⟩
   simpa using (R8.keep lk).snoc (r8.keep lk)
  ·have Ox:i=vs.length:=by exact Nat.le_antisymm (jg hi) (jg (Nat.le_of_not_lt gT))
   subst Ox;rw[List.drop_length]at q5;obtain⟨g5,q5⟩:=q5;refine J.done A { s with heap:=h5,toks:=Gg } mK _ _ hA.hand T5 S5 JP g5 λh6 J9 k6=>?_
   have S6:=S5.other uO lI JP (uJ AZ) k6;have Hv:=Pa.other uO lI (Fj AZ OK) (Mz AZ) k6;have F6:=F5.other uO lI (t7 AZ) (J2 AZ) k6;have M6:=M5.other Vf k6;have R6:=R5.keep (c6 uO lI k6);have L6:IsL h6 D us m:=k6 D _ (λq=>Rm q.symm) L5
   obtain⟨mC,WO⟩:=Hv.ns;obtain⟨Wb,Wc,oC,Qe,Qf⟩:=Hv.sep C (.head _);refine⟨mC,WO,λh7 M9=>?_⟩
   have k7:∀b o,b≠C->h6.get? b=some o->h7.get? b=some o:=λb o nb e=>(M9.2 b nb).trans e
   have lk:=c6 Qe Qf k7;have S7:=S6.other Qe Qf Wb Wc k7;have F7:=F6.other Qe Qf (t7 CB) (J2 CB) k7;have M7:=M6.other Vc k7;have L7:IsL h7 D us m:=k7 D _ Rl L6;have Oe:D≠1:=by
    obtain⟨o2,e2⟩:=S1.base;have:=Heap.lt_size (S1.fP _ _ e2);have l: @LT.lt Nat _ 2 h1.objs.size:=this;intro q;have q': @Eq Nat D 1:=q;exact bD (.t (.k 2) .A (.f .B (.a .C .O) (.e .D .O (.e .A .C (.e .B .D (.z)))))) rfl this J5 q hI hD
   exact⟨h7,J9,.lst D,bJ,mK.put D (.list acc),rfl,S7.adopt (.list L7 (R6.keep lk)) (uJ CC) Oe,F7.adopt (t7 CC) (J2 CC),M7.adopt Ve,.lst D,q5 D Qh⟩
 exact codeAny_compStart_list key (J.self 0 A _ _ _ T4 key)
end fG
theorem uE{n:NX}{env:Env}{ρ:Loc}{σ:AH}{Q:V->Loc->AH->Prop}{A:Around}{s:Shared}{scope:Scope}{cl:List (Str×Addr)}{pos:Pos}:fG.P n env ρ σ Q A s scope cl pos:=xa (Q:=fG.Q_) fG.go (n,env,ρ,σ,Q,A,s,scope,cl,pos)
section
variable{n:NX}{env:Env}{ρ:Loc}{σ:AH}{Q:V->Loc->AH->Prop}
theorem jB{elt target iter:Expr}{scope:Scope}{cl:List (Str×Addr)}{pos:Pos}
  (yG:closureFor scope env=pure cl) (yF:∀y∈scope.names,y.2≠.cell) (rO:scope.kind=.function)
  (sY:∀y∈scope.names,y.2=.local->scope.names.lookup y.1=some .local)
  (rN:∀p∈cl,env.cells.lookup p.1=some p.2/\cl.lookup p.1=some p.2/\(relabel scope env).names.lookup p.1=some .cell/\(env.kindOf p.1=some .cell\/env.kindOf p.1=some .free)) (Oz:(cl.map (·.2)).Nodup)
  (yE:∀p∈env.cells,p.2∈cl.map (·.2)->p∈cl)
  (h:Ex n env iter ρ σ (TZ n.n env scope cl target elt Q))
  (hs:autoParam (∀x,foldedSetIterable iter env x=Pure.pure x) NU) (hr:autoParam (lq target) V1):Ex n env (.ListComp elt [⟨target,iter,[],0⟩] scope pos) ρ σ Q:=λA s hA S F _=>uE yG yF rO sY rN Oz yE h hs hr hA S F
end
end
section
variable{O:List Env}
set_option tactic.hygienic true in
noncomputable def DJ(I:Loc->AH->Prop)(Q:Fl->Loc->AH->Prop):Fl->Loc->AH->Prop:=λf ρ σ=>match f with
 | .next | .cont=>I ρ σ
 | .brk=>Q .next ρ σ
 | .ret v=>Q (.ret v) ρ σ
set_option tactic.hygienic true in
theorem dM{n:NX}{env:Env}{Q:Fl->Loc->AH->Prop}{target:Expr}{body orelse:List Stmt}{G:AH->Prop}(I:List V->Loc->AH->Prop)(hG:∀vs ρ σ,I vs ρ σ->G σ)
  (turn:∀v vs ρ σ,I (v::vs) ρ σ->yc n env target v ρ σ (λbJ aI=>b8 n env body bJ aI (DJ (I vs) Q))) (fin:∀ρ σ,I [] ρ σ->b8 n env orelse ρ σ Q):
  ∀(vs:List V)(ρ:Loc)(σ:AH),I vs ρ σ->ug n env target body orelse G vs ρ σ Q
 | [],ρ,σ,h=>⟨hG _ _ _ h,fin ρ σ h⟩
 | v::vs,ρ,σ,h=>⟨hG _ _ _ h,λu=>Tr.mono (turn v vs ρ σ h u) λ_ bJ aI q=>Tr.mono q λf d5 bU q=>by
   cases f with
   | next=>exact dM I hG turn fin vs d5 bU q
   | cont=>exact dM I hG turn fin vs d5 bU q
   | brk=>exact q
   | ret v=>exact q⟩
theorem n7(m:Nat):dG 0 m=(List.range' 0 m).map λi=>.int (i:Nat):=by
 unfold dG;rw[List.range_eq_range'];have:((m:Int)-0).toNat=m:=by exact RN
 rw[this];refine List.map_congr_left λi _=>?_
 rw[Int.zero_add]
theorem jV{n:Nat}{eO:Env}{target elt:Expr}{G:AH->Prop}{K:Loc->Prop}{Q:List V->AH->Prop}(I:List V->List V->Loc->AH->Prop)(hG:∀vs acc ρ σ,I vs acc ρ σ->G σ)
  (turn:∀v vs acc ρ σ,I (v::vs) acc ρ σ->yc (nx n) eO target v ρ σ (λbJ aI=>Ex (nx n) eO elt bJ aI (λy d5 bU=>acc.length<=1000000/\K d5/\I vs (acc++[y]) d5 bU))) (fin:∀acc ρ σ,I [] acc ρ σ->Q acc σ):
  ∀(vs acc:List V)(ρ:Loc)(σ:AH),I vs acc ρ σ->ye n eO target elt G K vs acc ρ σ Q
 | [],acc,ρ,σ,h=>⟨hG _ _ _ _ h,fin acc ρ σ h⟩
 | v::vs,acc,ρ,σ,h=>⟨hG _ _ _ _ h,λu=>Tr.mono (turn v vs acc ρ σ h u) λ_ bJ aI q=>Tr.mono q λy d5 bU q=>⟨q.1,q.2.1,jV I hG turn fin vs _ d5 bU q.2.2⟩⟩
noncomputable def JK(n:NX)(env:Env)(test:Expr)(body orelse:List Stmt)(Q:Fl->Loc->AH->Prop):Nat->Loc->AH->Prop
 | 0,_,_=>False
 | k+1,ρ,σ=>Test n env test ρ σ (λb bJ aI=>if b then b8 n env body bJ aI (DJ (JK n env test body orelse Q k) Q) else b8 n env orelse bJ aI Q)
section
variable{n:NX}{env:Env}{ρ:Loc}{σ:AH}
set_option tactic.hygienic true in
theorem xF{Q:Fl->Loc->AH->Prop}{test:Expr}{body orelse:List Stmt}{pos:Pos}(k:Nat)(h:JK n env test body orelse Q k ρ σ):oq n env (.While test body orelse pos) ρ σ Q:=
 eE (λk ρ σ=>JK n env test body orelse Q k ρ σ) k h λk ρ σ h=>by
  cases k with
  | zero=>exact h.elim
  | succ k=>
   refine Tr.mono h λb bJ aI q=>?_
   cases b with
   | false=>exact q
   | true=>
    simp only[if_true]at q ⊢;refine Tr.mono q λf d5 bU q=>?_
    cases f with
    | next=>exact⟨k,Nat.lt_succ_self k,q⟩
    | cont=>exact⟨k,Nat.lt_succ_self k,q⟩
    | brk=>exact q
    | ret v=>exact q
variable{Q:V->Loc->AH->Prop}
theorem y7{value slice:Expr}{a:Addr}{xs:List V}{l u k:Option Int}(f:List V->List V)(ha:σ a=some (.list xs))(hk:k≠some 0)(hz:xs.length<=sizeLine)
  (hf:∀(h:Heap)(vs:Array Value),vs.size=xs.length->aE h vs.toList xs->aE h (slicePick vs l u k).toList (f xs)) (q:∀b,σ b=none->Q (.lst b) ρ (σ.put b (.list (f xs))))
  (hs:autoParam (∀o i,∃ops,subscripted slice false o i=operate ops (getItem o i)) Gy):DM n env value slice (.lst a) l u k ρ σ Q:=λA s w sl vl vu vk hA S F r Dz pl pu pk=>by
 obtain rfl:=ay.lst_inv r;obtain⟨ops,ho⟩:=hs (.ref a) (.ref sl);have o:=S.objs _ _ ha;cases o with
 | @list vs m _ kQ rs=>
  have el:vs.size=xs.length:=by have:=rs.length;simpa using this
  refine tail_any kQ.isList.typeIs slot_list_getitem.lookup (wpAny_getItem_list_slice (lo:=l) (hi:=u) (st:=k) kQ.isList Dz pl pu pk hk ?_ (by rw[el];exact hz)) ho
  refine aR.new (a:=s.heap.objs.size) S F (aO _) (push_size _) (Nat.le_refl _) (.list (IsL.new _ _) ?_) (.lst _) (q _ ?_)
  ·have kp:=aO (h:=s.heap) { cls:=.type "list",data:=.seq (slicePick vs l u k) }
   exact hf _ vs el (rs.keep (h':=s.heap.push _) λb o e _=>kp b o e)
  ·cases z:σ s.heap.objs.size with
   | none=>rfl
   | some ao=>obtain⟨ob,e1,_⟩:=(S.objs _ _ z).at;exact absurd (Heap.lt_size e1) (Nat.lt_irrefl _)
theorem Jo{value slice:Expr}{a:Addr}{xs:List V}(ha:σ a=some (.list xs))(hz:xs.length<=1000000)(q:∀b,σ b=none->Q (.lst b) ρ (σ.put b (.list xs.reverse)))
  (hs:autoParam (∀o i,∃ops,subscripted slice false o i=operate ops (getItem o i)) Gy):DM n env value slice (.lst a) none none (some (-1)) ρ σ Q:=
 y7 List.reverse ha (by decide) (by rw[sizeLine_eq];exact IL hz) (λh vs _ rs=>by rw[krv_pick];exact rs.reverse) q hs
theorem y9{value slice:Expr}{a:Addr}{xs:List V}{k:Nat}{i:Int}(ha:σ a=some (.list xs))(hz:xs.length<=1000000)(hk:k<=xs.length)(hi:i=(k:Nat))(q:∀b,σ b=none->Q (.lst b) ρ (σ.put b (.list (xs.take k))))
  (hs:autoParam (∀o i,∃ops,subscripted slice false o i=operate ops (getItem o i)) Gy):DM n env value slice (.lst a) none (some i) none ρ σ Q:=by
 subst hi;exact y7 (List.take k) ha (by decide) (by rw[sizeLine_eq];exact IL hz) (λh vs e rs=>by rw[slicePick_upto vs k (by exact aX (.f .A .B (.l .C .B (.g .C .A))) rfl e hk)];exact rs.take k) q hs
theorem qZ(items:Array Value)(h:0<items.size):slicePick items none (some 0) (some (-1))=items.toList.tail.reverse.toArray:=by
 obtain⟨l⟩:=items;cases l with
 | nil=>simp at h
 | cons x l=>
  unfold slicePick;have hb:sliceBounds none (some 0) (some (-1)) (Array.size ⟨x::l⟩)=((l.length:Int),0, -1):=by
   simp[sliceBounds];exact RO
  rw[hb];show((sliceRange (l.length:Int) 0 (-1)).filterMap _).toArray=_;have e:sliceRange (l.length:Int) 0 (-1)=(List.range l.length).map λk=>l.length-k:=by
   unfold sliceRange;have h1:¬((-1:Int)>0):=by decide
   by_cases h:(l.length:Int)>0
   ·have e:((l.length:Int)-0 - -1-1)/(- -1)=(l.length:Int):=by
     rw[show(- -1:Int)=1 by decide,Int.ediv_one];exact RP
    rw[if_neg h1,if_pos h,e];show List.map _ (List.range l.length)=_;apply List.map_congr_left;intro k hk;have:=List.mem_range.mp hk;exact RR this
   ·have e:l.length=0:=by exact Nat.le_antisymm (aG (.l .A .Z (.g .A .Z)) rfl (Mf h)) (z6)
    rw[if_neg h1,if_neg h,e];rfl
  have e2:((List.range l.length).map λk=>l.length-k)=((List.range l.length).map (1+ ·)).reverse:=by
   refine List.ext_getElem (by rw[List.length_map,List.length_reverse,List.length_map]) λi h1 h2=>?_
   rw[List.length_map,List.length_range]at h1;rw[List.getElem_map,List.getElem_reverse];simp;exact RS h1
  have h3:=pick_run (⟨x::l⟩:Array Value) 1 l.length;rw[e,e2,List.filterMap_reverse,h3];simp
theorem n9{value slice:Expr}{a:Addr}{x:V}{xs:List V}(ha:σ a=some (.list (x::xs)))(hz:xs.length<=100000)(q:∀b,σ b=none->Q (.lst b) ρ (σ.put b (.list xs.reverse)))
  (hs:autoParam (∀o i,∃ops,subscripted slice false o i=operate ops (getItem o i)) Gy):DM n env value slice (.lst a) none (some 0) (some (-1)) ρ σ Q:=
 y7 (λl=>l.tail.reverse) ha (by decide) (by rw[sizeLine_eq];simp;exact aG (.l .A (.k 100000) (.g .A (.k 16777215))) rfl hz) (λh vs e rs=>by
  rw[qZ vs (by rw[e];exact Nat.succ_pos _)]
  have:=rs.drop 1;rw[List.drop_one,List.drop_one]at this;exact this.reverse) q hs
end
end
section
variable{O:List Env}
theorem rJ{prog:Program}{A:Around}{E:Value->Shared->Prop}{it t:Addr}{items:Array Value}(ic:t≠it):∀(n i:Nat)(s:Shared)(Q:List Value->Shared->Prop),s.heap.IsListIter it t i->s.heap.IsList t items->i+n<=items.size->
  (∀h',h'.IsListIter it t (i+n)->Heap.SameBut it s.heap h'->Q ((items.toList.drop i).take n) { s with heap:=h' })->wpAny (model prog w) A (draw (.ref it) n) Q E s
 | 0,i,s,Q,hit,_,_,hQ=>by
  show wpAny _ _ (Pure.pure []) Q E s;exact wpAny_pure (by simpa using hQ s.heap hit (Heap.SameBut.refl ..))
 | n+1,i,s,Q,hit,ht,hle,hQ=>by
  have gT:i<items.size:=by exact aX (.l (.a .A (.a .B .O)) .C (.b .A .C)) rfl hle
  show wpAny _ _ (pyNext (.ref it) >>=_) Q E s;refine wpAny_bind (wpAny_pyNext_list_item hit ht (x:=items[i]) (by simp[gT]) λje wZ uQ=>?_)
  refine wpAny_bind (wpAny_holding (rJ ic n (i+1) _ _ wZ (ht.extBut uQ.extBut ic) (by exact aX (.l (.a .A (.a .B .O)) .C (.g (.a (.a .A .O) .B) .C)) rfl hle) λB9 Io L9=>wpAny_pure ?_))
  have hd:items.toList.drop i=items[i]::items.toList.drop (i+1):=by simp[List.drop_eq_getElem_cons,gT]
  have:=hQ B9 (by rw[show i+(n+1)=i+1+n by exact Nat.le_antisymm (aH (.g (.a .A (.a .B .O)) (.a (.a .A .O) .B)) rfl) (aH (.g (.a (.a .A .O) .B) (.a .A (.a .B .O))) rfl)];exact Io) (uQ.trans L9)
  rw[hd,List.take_succ_cons]at this;exact this
theorem vI{prog:Program}{A:Around}{E:Value->Shared->Prop}{s:Shared}{t:Addr}{items:Array Value}{Q:List Value->Shared->Prop}(hh:A.handled=none)(ht:s.heap.IsList t items)
  (hQ:∀h',Heap.ExtBut s.heap.objs.size s.heap h'->Q items.toList { s with heap:=h' }):wpAny (model prog w) A (unpackItems (.ref t) items.size none) Q E s:=by
 have gT:t≠s.heap.objs.size:=by obtain⟨o,ho,_⟩:=ht;exact Nat.ne_of_lt (Heap.lt_size ho)
 unfold unpackItems;refine wpAny_bind ?_
 ·unfold notIterableAtAll
  refine wpAny_bind (wpAny_specialOf ht.typeIs slot_list_iter.lookup ?_);refine wpAny_pure ?_;refine wpAny_ite_false (c:=false=true) rfl ?_;refine wpAny_bind (wpAny_holding (wpAny_pyIter_list ht ?_));refine wpAny_bind (wpAny_holding (rJ gT items.size 0 _ _ ⟨_,Heap.get?_push_size _ rfl,rfl,rfl⟩ (ht.push _) (by exact aG (.g (.a .Z .A) .A) rfl) λje wZ uQ=>?_))
  have Qj:List.take items.size (List.drop 0 items.toList)=items.toList:=by
   rw[List.drop_zero];exact List.take_of_length_le (by exact Nat.le_refl _)
  rw[Qj];refine wpAny_ite_false (decide_eq_false (Nat.lt_irrefl items.size)) ?_;have Ma:je.IsList t items:=(ht.push _).extBut uQ.extBut gT;refine wpAny_bind (wpAny_holding (wpAny_pyNext_list_end hh wZ Ma (by simp) λB9 LI=>?_))
  refine wpAny_ite_false (c:=false=true) rfl ?_;refine wpAny_pure (hQ B9 λb o hb e=>LI b o hb (uQ.extBut b o hb (Heap.get?_push_of_some _ e)))
section
variable{n:NX}{env:Env}{ρ:Loc}{σ:AH}
theorem wJ{ts:List Expr}{k:Nat}{pos:Pos}{a:Addr}{vs:List V}{Q:Loc->AH->Prop}(ha:σ a=some (.list vs))(h:wi n env ts vs ρ σ Q)(hl:autoParam (ts.length=vs.length) cB)
  (he:autoParam (assignEach ts env=ts.map λt=>(false,assign t env)) cB):yc n env (.Tuple ts k pos) (.lst a) ρ σ Q:=λu A s hA S F r=>by
 obtain rfl:=ay.lst_inv r;have o:=S.objs _ _ ha;cases o with
 | @list items m _ ho hs=>
  have e0:=hs.length;rw[Array.length_toList]at e0;have e2:((assignEach ts env).map (·.2))=ts.map (λt=>assign t env):=by rw[he,List.map_map];rfl
  rw[arm_assign_Tuple];refine wpAny_bind (wpAny_standAt ?_);unfold unpack;have hn:(assignEach ts env).length=items.size:=by rw[he,List.length_map,hl,e0]
  have LZ:(assignEach ts env).findIdx? (·.1)=none:=by rw[he,List.findIdx?_map];simp[Function.comp_def]
  rw[hn,LZ];refine wpAny_bind (wpAny_holding (vI hA.hand ⟨_,ho,rfl,_,rfl⟩ λh' eb=>?_))
  rw[e2];have kp:∀b o,s.heap.get? b=some o->h'.get? b=some o:=λb o e=>eb b o (Nat.ne_of_lt (Heap.lt_size e)) e
  exact(pz e2 h _).go (s:=s) hA (.ext kp) (S.ext kp) (F.ext' kp) (hs.keep λb o e _=>kp b o e)
end
mutual
inductive i8(σ:AH):Nat->V->V->Prop
 | none{k:Nat}:i8 σ k .none .none
 | int{k:Nat}(i:Int):i8 σ k (.int i) (.int i)
 | str{k:Nat}(x:Str):i8 σ k (.str x) (.str x)
 | tup{k:Nat}{l m:List V}(h:fq σ k l m):i8 σ (k+1) (.tup l) (.tup m)
 | lst{k:Nat}{a b:Addr}{l m:List V}(ha:σ a=some (.list l))(hb:σ b=some (.list m))(h:fq σ k l m):i8 σ (k+1) (.lst a) (.lst b)
inductive fq(σ:AH):Nat->List V->List V->Prop
 | nil{k:Nat}:fq σ k [] []
 | cons{k:Nat}{u v:V}{us vs:List V}(h:i8 σ k u v)(hs:fq σ k us vs):fq σ k (u::us) (v::vs)
end
theorem fq.len{σ:AH}{k:Nat}{l m:List V}(r:fq σ k l m):l.length=m.length:=
 @fq.rec σ (λ_ _ _ _=>True) (λ_ l m _=>l.length=m.length) trivial (λ_=>trivial) (λ_=>trivial) (λ_ _=>trivial) (λ_ _ _ _=>trivial) rfl (λ_ _ _ ih=>congrArg (· +1) ih) k l m r
theorem fq.get{σ:AH}{k:Nat}{l m:List V}(r:fq σ k l m):∀(j:Nat)(u v:V),l[j]? =some u->m[j]? =some v->i8 σ k u v:=
 @fq.rec σ (λ_ _ _ _=>True) (λk l m _=>∀(j:Nat)(u v:V),l[j]? =some u->m[j]? =some v->i8 σ k u v) trivial (λ_=>trivial) (λ_=>trivial) (λ_ _=>trivial) (λ_ _ _ _=>trivial) (λj u v e _=>nomatch e) (λh _ _ ih j u v e1 e2=>match j,e1,e2 with
  | 0,e1,e2=>Option.some.inj e1▸Option.some.inj e2▸h
  | j+1,e1,e2=>ih j u v e1 e2) k l m r
theorem aE.at_{h:Heap}{us:List Value}{vs:List V}(r:aE h us vs){j:Nat}(hj:j<us.length):∃v,vs[j]? =some v/\ay h us[j] v:=by
 have hl:=r.length;obtain⟨u,hu,ru⟩:=r.get (i:=j) (v:=vs[j]'(by exact aX (.t .A .B (.e .B .C (.b .A .C))) rfl hj hl)) (List.getElem?_eq_getElem (by exact aX (.t .A .B (.e .B .C (.b .A .C))) rfl hj hl))
 rw[List.getElem?_eq_getElem hj]at hu;cases hu;exact⟨_,List.getElem?_eq_getElem (by exact aX (.t .A .B (.e .B .C (.b .A .C))) rfl hj hl),ru⟩
theorem wI(n:Nat):((List.range n).all λ_=>true)=true:=List.all_eq_true.mpr λ_ _=>rfl
theorem oW{s:Shared}{σ:AH}(S:St s.heap σ):∀(k:Nat){a b:V},i8 σ k a b->∀(A:Around)(u v:Value),A.units+k<cLine->ay s.heap u a->ay s.heap v b->SeqAt.EqAt A s u v true/\(k≠0->∀l m x y,(a=.tup l/\b=.tup m)\/(a=.lst x/\b=.lst y)->SeqAt.RcAt A s u v true)
 | k,_,_,.none,A,u,v,hA,r1,r2=>by
  obtain rfl:=r1.none_inv;obtain rfl:=r2.none_inv;exact⟨.same _,λ_ l m x y h=>by rcases h with ⟨h,_⟩ | ⟨h,_⟩<;>cases h⟩
 | k,_,_,.int i,A,u,v,hA,r1,r2=>by
  obtain⟨t,rfl⟩:=r1.int_inv;obtain⟨t',rfl⟩:=r2.int_inv;refine⟨?_,λ_ l m x y h=>by rcases h with ⟨h,_⟩ | ⟨h,_⟩<;>cases h⟩
  have:=SeqAt.EqAt.int_int (A:=A) (s:=s) i t i t';simpa using this
 | k,_,_,.str i,A,u,v,hA,r1,r2=>by
  obtain⟨t,rfl⟩:=r1.str_inv;obtain⟨t',rfl⟩:=r2.str_inv;refine⟨?_,λ_ l m x y h=>by rcases h with ⟨h,_⟩ | ⟨h,_⟩<;>cases h⟩
  have:=SeqAt.EqAt.str_str (A:=A) (s:=s) i t i t';simpa using this
 | k+1,_,_,.tup h,A,u,v,hA,r1,r2=>by
  obtain⟨x,vs,n,rfl,ht,hs⟩:=r1.cR;obtain⟨y,tF,n2,rfl,BX,uP⟩:=r2.cR;have e1:=hs.length;have e2:=uP.length;have e3:=h.len;rw[Array.length_toList]at e1 e2;have Qg:A.in1.units+k<cLine:=by have e:A.in1.units=A.units+1:=rfl;rw[e];exact aH (.t (.a .A (.a .B .O)) (.k 9900) (.b (.a (.a .A .O) .B) (.k 9900))) rfl hA
  have rc:SeqAt.RcAt A s (.ref x) (.ref y) true:=by
   have:=SeqAt.RcAt.tuples (A:=A) (e:=λ_=>true) ⟨_,ht,rfl,_,rfl⟩ ⟨_,BX,rfl,_,rfl⟩ (by exact aH (.t (.a .A (.a .B .O)) (.k 9900) (.b .A (.k 9900))) rfl hA) λj h1 h2=>by
    obtain⟨a,ea,ra⟩:=hs.at_ (j:=j) (by simpa using h1)
    obtain⟨b,eb,rb⟩:=uP.at_ (j:=j) (by simpa using h2)
    exact(oW S k (h.get j a b ea eb) A.in1 _ _ Qg (by simpa using ra) (by simpa using rb)).1
   have ee:vs.size=tF.size:=by exact Nat.le_antisymm (bD (.e .A .B (.e .C .A (.f .D .B (.g .C .D)))) rfl e3 e1 e2) (bD (.f .A .B (.f .C .A (.e .D .B (.g .D .C)))) rfl e3 e1 e2)
   rw[wI,ee]at this;simpa using this
  refine⟨?_,λ_ _ _ _ _ _=>rc⟩
  by_cases q:x=y
  ·subst q;exact .same _
  ·exact .of_refs q rc
 | k+1,_,_,.lst (a:=x) (b:=y) ha hb h,A,u,v,hA,r1,r2=>by
  obtain rfl:=r1.lst_inv;obtain rfl:=r2.lst_inv;have o1:=S.objs _ _ ha;have o2:=S.objs _ _ hb;cases o1 with
  | @list vs n _ ht hs=>
   cases o2 with
   | @list tF n2 _ BX uP=>
    have e1:=hs.length;have e2:=uP.length;have e3:=h.len;rw[Array.length_toList]at e1 e2;have Qg:A.in1.units+k<cLine:=by have e:A.in1.units=A.units+1:=rfl;rw[e];exact aH (.t (.a .A (.a .B .O)) (.k 9900) (.b (.a (.a .A .O) .B) (.k 9900))) rfl hA
    have rc:SeqAt.RcAt A s (.ref x) (.ref y) true:=by
     have:=SeqAt.RcAt.lists (A:=A) (e:=λ_=>true) ⟨_,ht,rfl,_,rfl⟩ ⟨_,BX,rfl,_,rfl⟩ (by exact Nat.le_antisymm (bD (.e .A .B (.e .C .A (.f .D .B (.g .C .D)))) rfl e3 e1 e2) (bD (.f .A .B (.f .C .A (.e .D .B (.g .D .C)))) rfl e3 e1 e2)) (by exact aH (.t (.a .A (.a .B .O)) (.k 9900) (.b .A (.k 9900))) rfl hA) λj h1 h2=>by
      obtain⟨a,ea,ra⟩:=hs.at_ (j:=j) (by simpa using h1)
      obtain⟨b,eb,rb⟩:=uP.at_ (j:=j) (by simpa using h2)
      exact(oW S k (h.get j a b ea eb) A.in1 _ _ Qg (by simpa using ra) (by simpa using rb)).1
     rw[wI]at this;exact this
    refine⟨?_,λ_ _ _ _ _ _=>rc⟩
    by_cases q:x=y
    ·subst q;exact .same _
    ·exact .of_refs q rc
section
variable{n:Nat}{X:Int->Loc->AH->Prop}{env:Env}{ρ:Loc}{σ:AH}{Q:V->Loc->AH->Prop}
theorem uz{l m:List V}(h:i8 σ 9 (.tup l) (.tup m))(q:Q (.bool true) ρ σ):iI ⟨n+1,X⟩ env (compareOp .Eq) (.tup l) (.tup m) ρ σ Q:=
 iu (λA s u v hA S r1 r2=>(oW S 9 h A u v (by have:=hA.units;exact aH (.t (.a .A (.m 10 (.a .B .O))) (.k 9900) (.b (.a .A (.k 9)) (.k 9900))) rfl this) r1 r2).2 (by decide) l m 0 0 (.inl ⟨rfl,rfl⟩)) q
theorem nS{l m:List V}(h:i8 σ 9 (.tup l) (.tup m))(q:Q (.bool false) ρ σ):iI ⟨n+1,X⟩ env (compareOp .NotEq) (.tup l) (.tup m) ρ σ Q:=λu v A s hA S F r=>by
 obtain⟨x,vs,k,rfl,ht,hs⟩:=ay.cR r.1;obtain⟨y,tF,k2,rfl,BX,uP⟩:=ay.cR r.2;cases h with
 | tup h=>
  have e1:=hs.length;have e2:=uP.length;have e3:=h.len;rw[Array.length_toList]at e1 e2;have hu:=hA.units;have:=SeqAt.RcNeAt.tuples (A:=A) (s:=s) (e:=λ_=>true) ⟨_,ht,rfl,_,rfl⟩ ⟨_,BX,rfl,_,rfl⟩ (by exact aH (.t (.a .A (.m 10 (.a .B .O))) (.k 9900) (.b .A (.k 9900))) rfl hu) λj h1 h2=>by
    obtain⟨a,ea,ra⟩:=hs.at_ (j:=j) (by simpa using h1)
    obtain⟨b,eb,rb⟩:=uP.at_ (j:=j) (by simpa using h2)
    exact(oW S 8 (h.get j a b ea eb) A.in1 _ _ (by have e:A.in1.units=A.units+1:=rfl;rw[e];exact aH (.t (.a .A (.m 10 (.a .B .O))) (.k 9900) (.b (.a (.a .A .O) (.k 8)) (.k 9900))) rfl hu) (by simpa using ra) (by simpa using rb)).1
  have ee:vs.size=tF.size:=by exact Nat.le_antisymm (bD (.e .A .B (.e .C .A (.f .D .B (.g .C .D)))) rfl e3 e1 e2) (bD (.f .A .B (.f .C .A (.e .D .B (.g .D .C)))) rfl e3 e1 e2)
  rw[wI,ee]at this;refine cmp_ofNotEq (this _ _ _ _ ?_);have e4:(!(true&&tF.size==tF.size))=false:=by simp
  rw[e4];exact aR.bP (tk:=s.toks) S F (.bool _) q
end
end
section
variable{O:List Env}
inductive Ku(f:Addr)(qual:Str)(scope:Scope)(gM:Value)(names:List Str)(body:List Stmt):Prop
 | mk(name:_)(params:_)(dV:_)(kV:_)(doc:_)(pm:_)(an:_)(ct:_)(oc:_)(od:_)(OP:_)(ho:c.K.lookup f=some ⟨oc,od,.func (fnOf name qual params body scope dV kV doc pm an gM ct),OP⟩)(hb:∀(us:List Value)(s:Shared),c.K.In s.heap->us.length=names.length->BindsTo s (fnOf name qual params body scope dV kV doc pm an gM ct) ⟨us,[]⟩ (names.zip us))
structure FnAt(f:Addr)(qual:Str)(scope:Scope)(gM:Value)(names:List Str)(body:List Stmt):Prop where
 at_:Ku f qual scope gM names body
 code:codeIn c.K gM qual=true
 locals:∀x∈names,scope.names.lookup x=some .local
 co:scope.isCoroutine=false
 gen:scope.isGenerator=false
 kind:scope.kind=.function
 cell:∀x∈scope.names,x.2≠.cell
noncomputable def Fl.val:Fl->V
 | .ret v=>v
 | _=>.none
noncomputable def cx(n:Nat)(X:Int->AH->Prop)(f:Value)(vs:List V)(σ:AH)(Q:V->AH->Prop):Prop:=
 ∀(env:Env)(ρ:Loc)(Y:Int->Loc->AH->Prop)(A:Around)(s:Shared)(us:List Value),(∀num af,X num af->Y num ρ af)->fp env A ⟨n,Y⟩->St s.heap σ->dh (cY env A) env s.heap σ ρ->aE s.heap us vs->
  codeAny (model c.prog c.w) A (.call f ⟨us,[]⟩) (λr s'=>match r with
   | .ok (.ret v)=>aR (cY env A) env σ s ay (λv ρ' af=>ρ'=ρ/\Q v af) v s'
   | .ok _=>False
   | .error e=>EPost (cY env A) env σ s Y e s') s
abbrev aU(n:Nat)(f:Value)(vs:List V)(σ:AH)(Q:V->AH->Prop):Prop:=cx n (λ_ _=>False) f vs σ Q
theorem cx.mono{n:Nat}{X:Int->AH->Prop}{f:Value}{vs:List V}{σ:AH}{Q Q':V->AH->Prop}(h:cx n X f vs σ Q)(k:∀v af,Q v af->Q' v af):cx n X f vs σ Q':=λenv ρ Y A s us hX hA S F r=>
 codeAny_mono (h env ρ Y A s us hX hA S F r) λr s' z=>by
  rcases r with e | (v | _ | _ | _)<;>first | exact z | skip
  obtain⟨h',tk,v,ρ',af,e,S',F',M,r,e2,q⟩:=z;exact⟨h',tk,v,ρ',af,e,S',F',M,r,e2,k _ _ q⟩
theorem aU.mono{n:Nat}{f:Value}{vs:List V}{σ:AH}{Q Q':V->AH->Prop}(h:aU n f vs σ Q)(k:∀v af,Q v af->Q' v af):aU n f vs σ Q':=cx.mono h k
theorem cx.less{n m:Nat}{X:Int->AH->Prop}{f:Value}{vs:List V}{σ:AH}{Q:V->AH->Prop}(h:cx n X f vs σ Q)(k:n<=m):cx m X f vs σ Q:=λenv ρ Y A s us hX hA S F r=>h env ρ Y A s us hX (hA.less k) S F r
theorem aU.less{n m:Nat}{f:Value}{vs:List V}{σ:AH}{Q:V->AH->Prop}(h:aU n f vs σ Q)(k:n<=m):aU m f vs σ Q:=cx.less h k
abbrev Be(Q:V->Loc->AH->Prop)(ρ:Loc):V->AH->Prop:=λv σ=>Q v ρ σ
abbrev rq(Q:V->AH->Prop):Fl->Loc->AH->Prop:=λfl _ σ=>Q fl.val σ
theorem cx.call{n:NX}{env:Env}{ρ:Loc}{X:Int->AH->Prop}{f:Value}{vs:List V}{σ:AH}{Q:V->Loc->AH->Prop}(h:cx n.n X f vs σ (Be Q ρ))(hX:∀num af,X num af->n.X num ρ af):cK n env f vs ρ σ Q:=λus A s hA S F r=>by
 refine wpAny_call (codeAny_mono (h env ρ n.X A s us hX hA S F r) λr s' z=>?_)
 rcases r with e | (v | _ | _ | _)<;>first | exact z | skip
 obtain⟨h',tk,v,ρ',af,e,S',F',M,r,e2,q⟩:=z;subst e2;exact⟨h',tk,v,_,af,e,S',F',M,r,q⟩
theorem aU.call{n:NX}{env:Env}{ρ:Loc}{f:Value}{vs:List V}{σ:AH}{Q:V->Loc->AH->Prop}(h:aU n.n f vs σ (Be Q ρ)):cK n env f vs ρ σ Q:=cx.call h λ_ _ x=>x.elim
theorem aE.zip{h:Heap}{names:List Str}{us:List Value}{vs:List V}(r:aE h us vs)(acc:List (Str×Value))(sP:Loc)(ha:∀y v,sP.lookup y=some v->∃u,acc.lookup y=some u/\ay h u v):
  ∀y v,((names.zip vs).reverse++sP).lookup y=some v->∃u,((names.zip us).reverse++acc).lookup y=some u/\ay h u v:=
 aE.ind (P:=λus vs=>∀(names:List Str)(acc:List (Str×Value))(sP:Loc),(∀y v,sP.lookup y=some v->∃u,acc.lookup y=some u/\ay h u v)->∀y v,((names.zip vs).reverse++sP).lookup y=some v->∃u,((names.zip us).reverse++acc).lookup y=some u/\ay h u v)
  (λnames acc sP ha=>by cases names<;>exact ha) (λ{u w us vs} hv hs ih names acc sP ha y v e=>by
  cases names with
  | nil=>exact ha y v e
  | cons x names=>
   rw[List.zip_cons_cons,List.reverse_cons,List.append_assoc]at e ⊢;refine ih names ((x,u)::acc) ((x,w)::sP) (λz b eb=>?_) y v e
   rw[List.lookup_cons]at eb ⊢;cases q:z==x with
   | true=>rw[q]at eb;exact⟨u,rfl,Option.some.inj eb▸hv⟩
   | false=>rw[q]at eb;exact ha z b eb) r names acc sP ha
theorem Gp{names:List Str}{vs:List V}{y:Str}{v:V}(e:((names.zip vs).reverse).lookup y=some v):y∈names:=by
 obtain⟨l1,l2,e1,_⟩:=List.lookup_eq_some_iff.mp e;have:(y,v)∈(names.zip vs).reverse:=by rw[e1];exact iy
 exact(List.of_mem_zip (List.mem_reverse.mp this)).1
noncomputable def xC:List Str->List V->Loc->Loc
 | [],_,acc=>acc
 | x::xs,vs,acc=>match vs with
  | []=>acc
  | v::vs=>xC xs vs ((x,v)::acc)
theorem y0:∀(xs:List Str)(vs:List V)(acc:Loc),xC xs vs acc=(xs.zip vs).reverse++acc
 | [],vs,acc=>rfl
 | _::_,[],acc=>rfl
 | x::xs,v::vs,acc=>by show xC xs vs ((x,v)::acc)=_;rw[y0 xs vs,List.zip_cons_cons,List.reverse_cons,List.append_assoc];rfl
theorem jU{n:NX}{env:Env}{b b':List Stmt}{ρ ρ':Loc}{σ:AH}{Q:Fl->Loc->AH->Prop}(eb:b=b')(er:ρ=ρ')(h:b8 n env b' ρ' σ Q):b8 n env b ρ σ Q:=by subst eb er;exact h
theorem qT{env:Env}{A:Around}{n:NX}(hA:fp env A n):∃l,A.frames=some l/\(∀e∈cY env A,e∈l)/\(∀e∈l,e∈cY env A\/(e=env/\env.frame=some env.locals))/\(l=env::cY env A\/∀num ρ σ,¬n.X num ρ σ):=by
 rcases hA.frames with z | z
 ·exact⟨_,z.1,λe he=>.tail _ he,λe he=>(List.mem_cons.mp he).elim (λq=>.inr ⟨q,z.2⟩) .inl,.inl rfl⟩
 ·exact⟨_,z.1,λe he=>he,λe he=>.inl he,.inr z.2⟩
noncomputable def nO(n:NX)(env:Env)(ss:List Stmt)(ρ:Loc)(σ:AH)(Q:Fl->Loc->AH->Prop):Prop:=
 ∀(A:Around)(s:Shared),A.frames=some (env::cY env A)/\env.frame=some env.locals->fp env A n->St s.heap σ->dh (cY env A) env s.heap σ ρ->wpAny (model c.prog c.w) A (execs ss env) (aR (cY env A) env σ s oZ Q) (EPost (cY env A) env σ s n.X) s
namespace jP
@[reducible] noncomputable def P(env:Env)(ρ:Loc)(Y:Int->Loc->AH->Prop)(A:Around)(s:Shared)(us:List Value)(n:Nat)(X:Int->AH->Prop)(f:Addr)(qual:Str)(scope:Scope)(gM:Value)(names:List Str)(body:List Stmt)(vs:List V)(σ:AH)(Q:V->AH->Prop):Prop:=∀(fa:FnAt f qual scope gM names body)(hl:vs.length=names.length)(h:∀L,nO ⟨n,λnum _ af=>X num af⟩ (envOf qual scope L f gM) body (xC names vs []) σ (rq Q))(hX:∀num af,X num af->Y num ρ af)(hA:fp env A ⟨n+1,Y⟩)(S:St s.heap σ)(F:dh (cY env A) env s.heap σ ρ)(r:aE s.heap us vs),codeAny (model c.prog c.w) A (.call (.ref f) ⟨us,[]⟩) (λr s'=>match r with
   | .ok (.ret v)=>aR (cY env A) env σ s ay (λv ρ' af=>ρ'=ρ/\Q v af) v s'
   | .ok _=>False
   | .error e=>EPost (cY env A) env σ s Y e s') s
noncomputable def Q_:=UU λenv=>UU λρ=>UU λY=>UU λA=>UU λs=>UU λus=>UU λn=>UU λX=>UU λf=>UU λqual=>UU λscope=>UU λgM=>UU λnames=>UU λbody=>UU λvs=>UU (P env ρ Y A s us n X f qual scope gM names body vs)
noncomputable def x_:=xx Q_ (default,[],(λ_ _ _=>True),({}:Around),({}:Shared),[],0,(λ_ _=>True),(0:Nat),"",default,default,[],[],[],(λ_=>none),(λ_ _=>True))
def env:=x_.1
def ρ:=x_.2.1
def Y:=x_.2.2.1
def A:=x_.2.2.2.1
def s:=x_.2.2.2.2.1
def us:=x_.2.2.2.2.2.1
def n:=x_.2.2.2.2.2.2.1
def X:=x_.2.2.2.2.2.2.2.1
def f:=x_.2.2.2.2.2.2.2.2.1
def qual:=x_.2.2.2.2.2.2.2.2.2.1
def scope:=x_.2.2.2.2.2.2.2.2.2.2.1
def gM:=x_.2.2.2.2.2.2.2.2.2.2.2.1
def names:=x_.2.2.2.2.2.2.2.2.2.2.2.2.1
def body:=x_.2.2.2.2.2.2.2.2.2.2.2.2.2.1
def vs:=x_.2.2.2.2.2.2.2.2.2.2.2.2.2.2.1
def σ:=x_.2.2.2.2.2.2.2.2.2.2.2.2.2.2.2.1
def Q:=x_.2.2.2.2.2.2.2.2.2.2.2.2.2.2.2.2
set_option tactic.hygienic true in
theorem go:P env ρ Y A s us n X f qual scope gM names body vs σ Q:=by
 intro fa hl h hX hA S F r;rw[y0,List.append_nil]at h;obtain⟨name,params,dV,kV,doc,pm,an,ct,oc,od,OP,ho,hb⟩:=fa.at_;have X0:=S.oO;have WN:us.length=names.length:=by rw[r.length,hl]
 refine codeAny_call_def (fd:=fnOf name qual params body scope dV kV doc pm an gM ct) (body:=body) (binds:=names.zip us) hA.dep (X0 _ _ ho) rfl (S.ok.MC.keeps S.fP) (codeRec_of X0 fa.code) rfl (hb us s X0 WN) fa.cell (λx hx=>fa.locals _ (List.of_mem_zip (b:=x.2) (by exact hx)).1) (λh₀ JU hk=>?_) fa.co fa.gen fa.kind
 show wpAny _ (A.deeper (envOf qual scope s.heap.objs.size f gM)) (execs body (envOf qual scope s.heap.objs.size f gM)) _ _ _;have nL:s.heap.get? s.heap.objs.size=none:=bz (Nat.le_refl _);obtain⟨l,zJ,hO,hI,LA⟩:=qT hA;have wd:(A.deeper (envOf qual scope s.heap.objs.size f gM)).frames=some (envOf qual scope s.heap.objs.size f gM::l):=Around.frames_deeper zJ;have AW:cY (envOf qual scope s.heap.objs.size f gM) (A.deeper (envOf qual scope s.heap.objs.size f gM))=l:=by
  unfold cY;rw[wd];exact if_pos rfl
 have Od:fp (envOf qual scope s.heap.objs.size f gM) (A.deeper (envOf qual scope s.heap.objs.size f gM)) ⟨n,λnum _ af=>X num af⟩:=
  ⟨by have:=hA.depth;simp[Around.deeper]at this ⊢;exact aH (.t (.a .A (.a .B .O)) (.k 1000) (.b (.a (.a .A .O) .B) (.k 1000))) rfl this,by have:=hA.units;simp[Around.deeper]at this ⊢;exact aH (.t (.a .A (.m 10 (.a .B .O))) (.k 9900) (.b (.a (.a .A (.k 3)) (.m 10 .B)) (.k 9900))) rfl this,hA.hand,.inl ⟨by rw[AW];exact wd,rfl⟩⟩
 have QZ:σ s.heap.objs.size=none:=by
  cases z:σ s.heap.objs.size with
  | none=>rfl
  | some ao=>obtain⟨ob,e1,_⟩:=(S.objs _ _ z).at;rw[nL]at e1;cases e1
 have Wf:c.h0.get? s.heap.objs.size=none:=by
  cases z:c.h0.get? s.heap.objs.size with
  | none=>rfl
  | some ao=>rw[S.fP _ _ z]at nL;cases nL
 have S0:St h₀ σ:=S.ext hk;have r0:aE h₀ us vs:=r.keep λb o e _=>hk b o e
 have jc:aw (envOf qual scope s.heap.objs.size f gM)=[s.heap.objs.size]:=rfl;have t7:∀b o,s.heap.get? b=some o->b∉aw (envOf qual scope s.heap.objs.size f gM):=λb o e m=>by
  rw[jc,List.mem_singleton]at m;subst m;rw[nL]at e;cases e
 have Fh:=F.ext' hk;have F0:dh l (envOf qual scope s.heap.objs.size f gM) h₀ σ (names.zip vs).reverse:=by
  refine⟨λy v e=>?_,⟨_,JU⟩,λb hb=>?_,by exact Ac,(λq hq=>by cases hq),fa.kind,⟨rfl,rfl⟩,λe he=>?_⟩
  ·obtain⟨u,hu,ru⟩:=aE.zip (names:=names) r0 [] [] (λ_ _ e=>by cases e) y v (by simpa using e)
   simp only[List.append_nil]at hu;exact⟨u,.inl ⟨fa.locals y (Gp e),_,JU,hu⟩,ru⟩
  ·have:b=s.heap.objs.size:=by simpa[aw,envOf] using hb
   subst this;obtain⟨oL,es,ep,GU,hd,_⟩:=JU;exact⟨QZ,Wf,oL,GU,cX hd⟩
  ·rcases hI e he with z | z
   ·have x:=F.out e z
    obtain⟨o,es,m,e1,e2⟩:=x.obj;exact⟨x.kind,x.fr,t7 _ _ e1,x.free,x.xg,o,es,m,hk _ _ e1,e2⟩
   ·rw[z.1]
    obtain⟨e1,e2,_⟩:=F.sep _ (.head _);obtain⟨_,o,es,ep,mH,hd,_⟩:=F.ns;exact⟨by rw[F.kind];decide,z.2,t7 _ _ mH,e1,e2,o,es,ep,hk _ _ mH,hd⟩
 have MQ:∀b∈outs (cY env A),b∈outs l:=λb hb=>by obtain⟨e,he,rfl⟩:=List.mem_map.mp hb;exact List.mem_map_of_mem (hO e he)
 have outI:∀b∈outs l,b∈outs (cY env A)\/b∈aw env:=λb hb=>by
  obtain⟨e,he,rfl⟩:=List.mem_map.mp hb;rcases hI e he with z | z
  ·exact .inl (List.mem_map_of_mem z)
  ·exact .inr (by rw[z.1];exact .head _)
 have Ri:env.locals∉aw (envOf qual scope s.heap.objs.size f gM):=by obtain⟨_,o,es,ep,mH,_⟩:=F.ns;exact t7 _ _ mH
 refine wpAny_mono (h s.heap.objs.size _ { s with heap:=h₀,toks:=s.toks+(names.zip us).length } ⟨by rw[AW];exact wd,rfl⟩ Od S0 (by rw[AW];exact F0)) (λfl s' p=>?_) λx s' p=>?_
 ·rw[AW]at p
  obtain⟨h1,gv,fv,bJ,aI,rfl,S1,F1,M1,r1,q1⟩:=p;have NG:dh (cY env A) env h1 aI ρ:=Fh.pq S0 F0 M1 F1 hO Ri (λp hp q=>by
   obtain⟨v,o,e,_⟩:=F.cell p hp;exact absurd q (t7 _ _ e)) (λp hp=>by cases hp) (λp hp=>by cases hp)
  have M:Fm (cY env A) env σ s.heap h1 aI:=Fm.pq (.ext hk) M1 MQ outI λb hb=>by
   rw[jc,List.mem_singleton]at hb;subst hb;exact .inr nL
  cases r1 with
  | ret rv=>exact⟨h1,gv,_,ρ,aI,rfl,S1,NG,M,rv,rfl,q1⟩
  | next=>exact⟨h1,gv,.none,ρ,aI,rfl,S1,NG,M,.none,rfl,q1⟩
  | brk=>exact⟨h1,gv,.none,ρ,aI,rfl,S1,NG,M,.none,rfl,q1⟩
  | cont=>exact⟨h1,gv,.none,ρ,aI,rfl,S1,NG,M,.none,rfl,q1⟩
 ·obtain⟨e,d,B,h1,gv,num,bJ,aI,rfl,rfl,S1,F1,Y1,M1,q1⟩:=p
  have Uw:=hX _ _ q1;obtain rfl:l=env::cY env A:=by
   rcases LA with z | z
   ·exact z
   ·exact absurd Uw (z _ _ _)
  show wpAny _ (A.deeper (envOf qual scope s.heap.objs.size f gM)) (leaving (envOf qual scope s.heap.objs.size f gM) (.ref e)) _ _ _;refine leave_own (s:={ s with heap:=h1,toks:=gv }) (by rw[AW];exact wd) rfl Y1 λh2 y2 Hj GI t2=>?_
  rw[AW]at GI F1 M1;have M2:=M1.jM F1 t2;have F2:=F1.jM t2;have IA:∀b o,s.heap.get? b=some o->σ b=none->b∉aw env->b∉outs (cY env A)->B.get? b=some o:=λb o e1 n f1 f2=>M2.keep b o (hk b o e1) n (t7 b o e1) λm=>(outI b m).elim f2 f1
  have Q2:∀b o,s.heap.get? b=some o->¬Loose o->B.get? b=some o:=λb o e1 nl=>IA b o e1 (by
   cases z:σ b with
   | none=>rfl
   | some ao=>obtain⟨ob,e2,l⟩:=(S.objs b ao z).at;rw[e1]at e2;cases e2;exact absurd l nl) (λm=>by obtain⟨_,_,o',e2,l⟩:=F.sep b m;rw[e1]at e2;cases e2;exact nl l) λm=>nl (F.loose m e1)
  have own:∀b∈aw env,∀o,s.heap.get? b=some o->∃sl,h2.get? b=some { o with slots:=sl }:=λb hb o e1=>by
   by_cases q:b∈outs (env::cY env A)
   ·exact M2.slots b o (hk b o e1) q
   ·exact⟨o.slots,Hj _ _ (M2.keep b o (hk b o e1) (F.sep b hb).1 (t7 b o e1) q)⟩
  have mu:∀b o,s.heap.get? b=some o->σ b=none->aI b=none:=λb o e1 n=>by
   cases z:aI b with
   | none=>rfl
   | some o'=>have:=M2.fresh b o' z n;dsimp only at this;rw[hk b o e1]at this;cases this
  show EPost (cY env A) env σ s Y (.ref e) _;refine⟨e,d,B,h2,gv,num,ρ,aI,rfl,rfl,S1,⟨λx v e1=>?_,?_,λb hb=>?_,F.nodup,λq hq=>?_,F.kind,F.glob,λe1 he=>?_⟩,⟨Hj,Y1.new,GI,.inr (.inl y2),Y1.num⟩,⟨IA,λb o e1 m=>M2.slots b o (hk b o e1) (MQ b m),λb o e1=>M2.iA b o (hk b o e1),λb o e1 e2=>?_⟩,Uw⟩
  ·obtain⟨u,hu,ru⟩:=F.has x v e1
   refine⟨u,?_,ru.keep Q2⟩;rcases hu with ⟨uN,m',⟨o,es,ep,mH,hd,rr⟩,hv⟩ | ⟨Oy,a,o,hc,mH,hd⟩
   ·obtain⟨sl,e2⟩:=own _ (.head _) o mH
    exact .inl ⟨uN,m',⟨_,es,ep,e2,hd,rr⟩,hv⟩
   ·obtain⟨l1,l2,ec,_⟩:=List.lookup_eq_some_iff.mp hc
    obtain⟨sl,e2⟩:=own a (.tail _ (List.mem_map.mpr ⟨(x,a),by rw[ec];exact iy,rfl⟩)) o mH
    exact .inr ⟨Oy,a,_,hc,e2,hd⟩
  ·obtain⟨m',o,es,ep,mH,hd,rr⟩:=F.ns
   obtain⟨sl,e2⟩:=own _ (.head _) o mH;exact⟨m',_,es,ep,e2,hd,rr⟩
  ·obtain⟨e1,e2,o,e3,e4⟩:=F.sep b hb
   obtain⟨sl,e5⟩:=own b hb o e3;refine⟨mu b o e3 e1,e2,_,e5,?_⟩;rcases List.mem_cons.mp hb with rfl | m
   ·obtain⟨_,o',es,ep,f1,f2,_⟩:=F.ns
    rw[e3]at f1;cases f1;intro vs q;rw[f2]at q;cases q
   ·obtain⟨q,hq,rfl⟩:=List.mem_map.mp m
    obtain⟨v,o',f1,f2⟩:=F.cell q hq;rw[e3]at f1;cases f1;intro vs q;rw[f2]at q;cases q
  ·obtain⟨v,o,f1,f2⟩:=F.cell q hq
   obtain⟨sl,e2⟩:=own _ (.tail _ (List.mem_map_of_mem hq)) o f1;exact⟨v,_,e2,f2⟩
  ·have x:=F2.out e1 (hO e1 he)
   exact⟨x.kind,x.fr,(F.out e1 he).away,x.free,x.xg,x.obj⟩
  ·have:=M2.fresh b o e1 e2
   cases z:s.heap.get? b with
   | none=>rfl
   | some ob=>have e3:=hk b ob z;dsimp only at this;rw[this]at e3;cases e3
end jP
theorem DR{env:Env}{ρ:Loc}{Y:Int->Loc->AH->Prop}{A:Around}{s:Shared}{us:List Value}{n:Nat}{X:Int->AH->Prop}{f:Addr}{qual:Str}{scope:Scope}{gM:Value}{names:List Str}{body:List Stmt}{vs:List V}{σ:AH}{Q:V->AH->Prop}:jP.P env ρ Y A s us n X f qual scope gM names body vs σ Q:=xa (Q:=jP.Q_) jP.go (env,ρ,Y,A,s,us,n,X,f,qual,scope,gM,names,body,vs,σ,Q)
theorem yr{n:Nat}{X:Int->AH->Prop}{f:Addr}{qual:Str}{scope:Scope}{gM:Value}{names:List Str}{body:List Stmt}{vs:List V}{σ:AH}{Q:V->AH->Prop}(fa:FnAt f qual scope gM names body)(hl:vs.length=names.length)
  (h:∀L,nO ⟨n,λnum _ af=>X num af⟩ (envOf qual scope L f gM) body (xC names vs []) σ (rq Q)):cx (n+1) X (.ref f) vs σ Q:=λ_ _ _ _ _ _ hX hA S F r=>DR fa hl h hX hA S F r
theorem dX{n:Nat}{X:Int->AH->Prop}{f:Addr}{qual:Str}{scope:Scope}{gM:Value}{names:List Str}{body:List Stmt}{vs:List V}{σ:AH}{Q:V->AH->Prop}(fa:FnAt f qual scope gM names body)(hl:vs.length=names.length)
  (h:∀L,b8 ⟨n,λnum _ af=>X num af⟩ (envOf qual scope L f gM) body (xC names vs []) σ (rq Q)):cx (n+1) X (.ref f) vs σ Q:=yr fa hl λL A s _ hA S F=>h L A s hA S F trivial
theorem aC{n:Nat}{f:Addr}{qual:Str}{scope:Scope}{gM:Value}{names:List Str}{body:List Stmt}{vs:List V}{σ:AH}{Q:V->AH->Prop}(fa:FnAt f qual scope gM names body)(hl:vs.length=names.length)
  (h:∀L,b8 (nx n) (envOf qual scope L f gM) body (xC names vs []) σ (rq Q)):aU (n+1) (.ref f) vs σ Q:=dX fa hl h
theorem Gb{env:Env}{A:Around}{n:Nat}{Y:Int->Loc->AH->Prop}{C:Addr}{us:List Value}(hA:fp env A ⟨n+1,Y⟩):fp env (A.under (.builtin "type.__call__" ⟨.ref C::us,[]⟩)) (nx n):=
 ⟨by have:=hA.depth;have e:(A.under (.builtin "type.__call__" ⟨.ref C::us,[]⟩)).depth=A.depth+1:=rfl;rw[e];show _+n<_;have:A.depth+(n+1)<recursionLimit:=this;exact aH (.t (.a .A (.a .B .O)) (.k 1000) (.b (.a (.a .A .O) .B) (.k 1000))) rfl this,by
   have:=hA.units;have e:(A.under (.builtin "type.__call__" ⟨.ref C::us,[]⟩)).units=A.units+1:=rfl;rw[e];show _+10*n<_;have:A.units+10*(n+1)<cLine:=this;exact aH (.t (.a .A (.m 10 (.a .B .O))) (.k 9900) (.b (.a (.a .A .O) (.m 10 .B)) (.k 9900))) rfl this,hA.hand,hA.frames.imp id λz=>⟨z.1,λ_ _ _ q=>q⟩⟩
theorem jW{n:Nat}{C f:Addr}{vs:List V}{σ:AH}{Q:V->AH->Prop}(hm:makesIn c.K C=true)(hi:findIn c.K (.ref C) "__init__"=some (some (.ref f)))(hf:isFn c.K (.ref f)=true)
  (h:∀d,σ d=none->aU n (.ref f) (.inst C d::vs) (σ.put d (.dict [])) (λv af=>v=.none/\Q (.inst C d) af)):aU (n+1) (.ref C) vs σ Q:=λenv ρ Y A s us hX hA S F r=>by
 have X0:=S.oO;obtain⟨hh,g,d,t,os⟩:=s;refine make_core (makes_of X0 hm) (looks_findIn X0 hi) (λself=>bind_fn X0 self (beq_iff_eq.mp hf)) (.inl rfl) ?_
 have kp:∀b o,hh.get? b=some o->((hh.push emptyDict).push (instObj C hh.objs.size)).get? b=some o:=λb o e=>aO _ _ _ (aO _ _ _ e)
 have nD:hh.get? hh.objs.size=none:=bz (Nat.le_refl _);have hx:((hh.push emptyDict).push (instObj C hh.objs.size)).get? (hh.objs.size+1)=some (instObj C hh.objs.size):=by heap_get
 have hd:((hh.push emptyDict).push (instObj C hh.objs.size)).get? hh.objs.size=some emptyDict:=by heap_get
 have Md:σ hh.objs.size=none:=by
  cases z:σ hh.objs.size with
  | none=>rfl
  | some ao=>obtain⟨ob,e1,_⟩:=(S.objs _ _ z).at;rw[nD]at e1;cases e1
 have ro:jq ((hh.push emptyDict).push (instObj C hh.objs.size)) hh.objs.size (.dict []):=.dict (kvs:=[]) ⟨_, #[],0,hd,⟨rfl,rfl,rfl⟩,rfl,λe he=>by simp at he,.nil,.nil⟩ .nil
 have S1:=S.gE kp nD (S.two (Nat.le_refl _)) ro;have F1:=F.gE kp nD (ao:=.dict []);have M1:Fm (cY env A) env σ hh _ _:=.gE kp nD (ao:=.dict []);have r1:aE ((hh.push emptyDict).push (instObj C hh.objs.size)) (.ref (hh.objs.size+1)::us) (.inst C hh.objs.size::vs):=.cons (.inst hx) (r.keep λb o e _=>kp b o e)
 refine codeAny_mono (h hh.objs.size Md env ρ Ru _ ⟨_,g,d,t,os⟩ _ (λ_ _ x=>x) (Gb hA) S1 F1 r1) λr s' z=>?_
 rcases r with e | (v | _ | _ | _)<;>first | exact z.no | exact z.elim | skip
 obtain⟨h',tk,v',ρ',af,e,S',F',M,r,e2,rfl,q⟩:=z;obtain rfl:=r.none_inv;refine⟨rfl,h',tk,_,ρ',af,?_,S',F',M1.trans M,.inst (gq S1 F1 M _ _ hx λl=>l (.inr (.inl ⟨_,_,rfl⟩))),e2,q⟩
 rw[e]
end
section
noncomputable section
noncomputable def OM(l:List Stmt)(i:Nat):Stmt:=match l[i]? with | some s=>s | none=>.Pass ⟨0,0,0,0⟩
noncomputable def Tc{α:Type}(s:Stmt)(z:α)(f:Arguments->List Stmt->Scope->α):α:=if h:s.ctorIdx=0 then Stmt.FunctionDef.elim (motive_2:=λ_=>α) s h λ_ a b _ _ _ c _ _ _=>f a b c else z
noncomputable def aM(s:Stmt):List Stmt:=Tc s (if h:s.ctorIdx=2 then Stmt.ClassDef.elim (motive_2:=λ_=>List Stmt) s h λ_ _ _ b _ _ _ _ _ _ _=>b else []) λ_ b _=>b
noncomputable def nA(s:Stmt):Arguments:=Tc s ⟨[],[],none,[],[],none,[]⟩ λa _ _=>a
noncomputable def aj(s:Stmt):Scope:=Tc s pw.main.scope λ_ _ c=>c
noncomputable def cP(i:Nat):Stmt:=OM (behindTheImports pw) i
noncomputable def cN(i:Nat):Stmt:=OM fR i
noncomputable def bO(i j:Nat):Stmt:=OM (aM (cP i)) j
noncomputable def df(i j:Nat):Stmt:=OM (aM (cN i)) j
theorem MW:pw=kh:=rfl
theorem bj(i:Nat):cN i=cP i:=by unfold cN cP fR;rw[MW]
theorem bI(i j:Nat):df i j=bO i j:=by unfold df bO;rw[bj]
noncomputable def kO(o:Obj):FuncData:=match o.data with | .func fd=>fd | _=>{ name:="",qualname:="",params:=⟨[],[],none,[],[],none,[]⟩,body:=.stmts [],scope:=pw.main.scope,globals:=0,closure:=[],defaults:=.none,kwdefaults:=.none,doc:=.none,pyModule:=.none,annotations:=none,code:=.none,closureTuple:=.none,builtins:=0 }
noncomputable def ur(o:Obj)(qual:Str)(st:Stmt)(code:Addr):Obj:=⟨o.cls,o.dict,.func (fnOf (kO o).name qual (nA st) (aM st) (aj st) .none .none (kO o).doc (kO o).pyModule (kO o).annotations (.ref code) (kO o).closureTuple),o.slots⟩
noncomputable def codeB(o:Obj)(q:Str):Bool:=match o with
 | ⟨_,_,.fields vs,_⟩=>(match vs.toList with | _::.str n _::_=>n==q | _=>false)
 | _=>false
theorem iG(w:World)(a:Nat)(h:addrs.contains a=true):(KO w).lookup a=some (bq w a):=by
 have key:∀l:List Nat,l.contains a=true->List.lookup a (l.map λa=>(a,bq w a))=some (bq w a):=by
  intro l h
  induction l with
  | nil=>simp at h
  | cons b l ih=>
   rw[List.map_cons,List.lookup_cons];by_cases q:(a==b)=true
   ·rw[q];have:=beq_iff_eq.mp q;subst this;rfl
   ·rw[Bool.not_eq_true]at q;rw[q]
    rw[List.contains_cons,q,Bool.false_or]at h;exact ih h
 exact key addrs h
theorem m6{c:Nat}{q:Str}(h:addrs.contains c=true)(e:codeB (bq w c) q=true):codeIn (KO w) (.ref c) q=true:=by
 unfold codeIn;dsimp only;rw[iG w c h];revert e;generalize bq w c=o;intro e;obtain⟨c1,d1,dt,s1⟩:=o;cases dt<;>first | exact e | exact absurd e Bool.false_ne_true
structure uf(st:Stmt)(names:List Str):Prop where
 loc:names.all (λx=>(aj st).names.lookup x==some .local)=true
 rest:(!(aj st).isCoroutine && !(aj st).isGenerator&&(aj st).kind==.function&&(aj st).names.all λx=>x.2 != .cell)=true
theorem Ea{a code:Nat}{qual:Str}{st oX:Stmt}{names:List Str}(ha:addrs.contains a=true)(hc:addrs.contains code=true)(bV:oX=st)(ho:bq w a=ur (bq w a) qual oX code)(BL:codeB (bq w code) qual=true)
  (hb:∀(name qual:Str)(body:List Stmt)(scope:Scope)(doc pm:Value)(an:Option Addr)(gM ct:Value)(us:List Value),us.length=names.length->bindArgs (fnOf name qual (nA st) body scope .none .none doc pm an gM ct) ⟨us,[]⟩=pure (names.zip us)) (sh:uf st names):FnAt a qual (aj st) (.ref code) names (aM st):=by
 subst bV;have r:=sh.rest;rw[Bool.and_eq_true,Bool.and_eq_true,Bool.and_eq_true]at r;obtain⟨⟨⟨r1,r2⟩,r3⟩,r4⟩:=r;refine⟨⟨(kO (bq w a)).name,nA oX,.none,.none,(kO (bq w a)).doc,(kO (bq w a)).pyModule,(kO (bq w a)).annotations,(kO (bq w a)).closureTuple,(bq w a).cls,(bq w a).dict,(bq w a).slots,?_,λus s _ hu=>.of_eq (hb _ _ _ _ _ _ _ _ _ us hu)⟩,?_,λx hx=>?_,by simpa using r1,by simpa using r2,by simpa using r3,λx hx=>?_⟩
 ·rw[hK,iG w a ha];exact congrArg some ho
 ·rw[hK];exact m6 hc BL
 ·exact beq_iff_eq.mp (List.all_eq_true.mp sh.loc x hx)
 ·have:=List.all_eq_true.mp r4 x hx
  simpa using this
theorem IY{α β:Type}{f g:α->β}{l:List α}(h:l.map f=l.map g)(i:Nat){x:α}(hi:l[i]? =some x):f x=g x:=by
 have:=congrArg (λl:List β=>l[i]?) h
 simp only[List.getElem?_map,hi,Option.map_some,Option.some.injEq]at this;exact this
abbrev o9:=Nat×Str×Stmt×Nat
theorem fg{P:List Value->Prop}{n:Nat}(h:∀a us,us.length=n->P (a::us)):∀us:List Value,us.length=n+1->P us
 | a::us,e=>h a us (Nat.succ.inj e)
theorem lenZ{P:List Value->Prop}(h:P []):∀us:List Value,us.length=0->P us:=λus e=>List.eq_nil_of_length_eq_zero e▸h
theorem qa{P:List Value->Prop}(h:∀a,P [a]):∀us:List Value,us.length=1->P us:=fg λa=>lenZ (h a)
theorem jD{P:List Value->Prop}(h:∀a b,P [a,b]):∀us:List Value,us.length=2->P us:=fg λa=>fg λb=>lenZ (h a b)
theorem jf{P:List Value->Prop}(h:∀a b c,P [a,b,c]):∀us:List Value,us.length=3->P us:=fg λa=>fg λb=>fg λc=>lenZ (h a b c)
theorem qX{P:List Value->Prop}(h:∀a b c d,P [a,b,c,d]):∀us:List Value,us.length=4->P us:=fg λa=>fg λb=>fg λc=>fg λd=>lenZ (h a b c d)
theorem Q9{P:List Value->Prop}(h:∀a b c d e,P [a,b,c,d,e]):∀us:List Value,us.length=5->P us:=fg λa=>fg λb=>fg λc=>fg λd=>fg λe=>lenZ (h a b c d e)
theorem Ra{P:List Value->Prop}(h:∀a b c d e f,P [a,b,c,d,e,f]):∀us:List Value,us.length=6->P us:=fg λa=>fg λb=>fg λc=>fg λd=>fg λe=>fg λf=>lenZ (h a b c d e f)
theorem EI{P:List Value->Prop}(h:∀a b c d e f g,P [a,b,c,d,e,f,g]):∀us:List Value,us.length=7->P us:=fg λa=>fg λb=>fg λc=>fg λd=>fg λe=>fg λf=>fg λg=>lenZ (h a b c d e f g)
theorem rL{G:World->OsState->Nat->Obj}{k n:Nat}{L:List o9}(hG:∀a,13<a->a<n->bq w a=G w (cH w) a)(sh:L.map (λx=>G w (cH w) x.1)=L.map (λx=>ur (G w (cH w) x.1) x.2.1 x.2.2.1 x.2.2.2))(co:L.all (λx=>codeB (G w (cH w) x.2.2.2) x.2.1)=true)
  (i:Nat) {a code:Nat} {qual:Str} {oX st:Stmt} {names:List Str} (hi:L[i]? =some (a,qual,oX,code)) (bV:oX=st) (hb:(Nat.blt 13 a&&Nat.blt a n&&Nat.blt 13 code&&Nat.blt code n&&addrs.contains a&&addrs.contains code)=true)
  (bd:∀(name qual:Str)(body:List Stmt)(scope:Scope)(doc pm:Value)(an:Option Addr)(gM ct:Value)(us:List Value),us.length=names.length->bindArgs (fnOf name qual (nA st) body scope .none .none doc pm an gM ct) ⟨us,[]⟩=pure (names.zip us)) (Yb:uf st names):FnAt a qual (aj st) (.ref code) names (aM st):=by
 simp only[Bool.and_eq_true,Nat.blt_eq]at hb;obtain⟨⟨⟨⟨⟨b1,b2⟩,b3⟩,b4⟩,b5⟩,b6⟩:=hb;refine Ea b5 b6 bV ?_ ?_ bd Yb
 ·have:=IY sh i hi
  rw[hG a b1 b2];exact this
 ·rw[hG code b3 b4]
  exact List.all_eq_true.mp co _ (List.mem_of_getElem? hi)
abbrev JE(st:Stmt)(names:List Str)(us:List Value):Prop:=(λ(name qual:Str)(body:List Stmt)(scope:Scope)(doc pm:Value)(an:Option Addr)(gM ct:Value)=>bindArgs (fnOf name qual (nA st) body scope .none .none doc pm an gM ct) ⟨us,[]⟩)=λ_ _ _ _ _ _ _ _ _=>pure (names.zip us)
noncomputable def NH:List o9:=[(23,("row_of":Str),cN 23,22),(30,("is_plain_text":Str),cN 24,29),(37,("with_texts_joined":Str),cN 25,36),(51,("PatternCode.__init__":Str),df 26 0,50),(58,("PatternCode.emit":Str),df 26 1,57),(65,("PatternCode.put":Str),df 26 2,64),(70,("PatternCode.begun":Str),df 26 3,69),(77,("PatternCode.choice":Str),df 26 4,76),(84,("PatternCode.repeat":Str),df 26 5,83),(91,("PatternCode.bound":Str),df 26 6,90),(105,("straightened":Str),cN 27,104),(112,("compile_pattern":Str),cN 28,111)]
theorem FJ(w:World)(os:OsState)(g:Nat->Obj):NH.map (λx=>G0 w os g x.1)=NH.map (λx=>ur (G0 w os g x.1) x.2.1 x.2.2.1 x.2.2.2):=by kernel_rfl
theorem HR(w:World)(os:OsState)(g:Nat->Obj):NH.all (λx=>codeB (G0 w os g x.2.2.2) x.2.1)=true:=by kernel_rfl
theorem Ry(w:World)(a:Nat)(h1:13<a)(h2:a<113):bq w a=G0 w (cH w) (H0 w (cH w)) a:=(d0 w a h1).trans (Uh w (cH w) a h2)
theorem AU(i:Nat){a code:Nat}{qual:Str}{oX st:Stmt}{names:List Str}(hi:NH[i]? =some (a,qual,oX,code))(bV:oX=st)(bd:∀us:List Value,us.length=names.length->JE st names us)(hb:autoParam ((Nat.blt 13 a&&Nat.blt a 113&&Nat.blt 13 code&&Nat.blt code 113&&addrs.contains a&&addrs.contains code)=true) JL)
  (loc:autoParam (names.all (λx=>(aj st).names.lookup x==some .local)=true) AS) (rest:autoParam ((!(aj st).isCoroutine && !(aj st).isGenerator&&(aj st).kind==.function&&(aj st).names.all λx=>x.2 != .cell)=true) AS):FnAt a qual (aj st) (.ref code) names (aM st):=
 rL (G:=λw os=>G0 w os (H0 w os)) (k:=0) (Ry w) (FJ w _ _) (HR w _ _) i hi bV hb (λa b c d e f g h i us hu=>congrArg (λF=>F a b c d e f g h i) (bd us hu)) ⟨loc,rest⟩
theorem Ba:FnAt 23 "row_of" (aj (cP 23)) (.ref 22) ["node","kind"] (aM (cP 23)):=
 AU 0 rfl (bj _) (jD (by intros;kernel_rfl))
theorem i5:FnAt 30 "is_plain_text" (aj (cP 24)) (.ref 29) ["node"] (aM (cP 24)):=
 AU 1 rfl (bj _) (qa (by intros;kernel_rfl))
theorem j6:FnAt 37 "with_texts_joined" (aj (cP 25)) (.ref 36) ["parts"] (aM (cP 25)):=
 AU 2 rfl (bj _) (qa (by intros;kernel_rfl))
theorem kB:FnAt 51 "PatternCode.__init__" (aj (bO 26 0)) (.ref 50) ["self"] (aM (bO 26 0)):=
 AU 3 rfl (bI _ _) (qa (by intros;kernel_rfl))
theorem kA:FnAt 58 "PatternCode.emit" (aj (bO 26 1)) (.ref 57) ["self","order"] (aM (bO 26 1)):=
 AU 4 rfl (bI _ _) (jD (by intros;kernel_rfl))
theorem lr:FnAt 65 "PatternCode.put" (aj (bO 26 2)) (.ref 64) ["self","node"] (aM (bO 26 2)):=
 AU 5 rfl (bI _ _) (jD (by intros;kernel_rfl))
theorem cu:FnAt 70 "PatternCode.begun" (aj (bO 26 3)) (.ref 69) ["self","node"] (aM (bO 26 3)):=
 AU 6 rfl (bI _ _) (jD (by intros;kernel_rfl))
theorem ji:FnAt 77 "PatternCode.choice" (aj (bO 26 4)) (.ref 76) ["self","parts"] (aM (bO 26 4)):=
 AU 7 rfl (bI _ _) (jD (by intros;kernel_rfl))
theorem jj:FnAt 84 "PatternCode.repeat" (aj (bO 26 5)) (.ref 83) ["self","node"] (aM (bO 26 5)):=
 AU 8 rfl (bI _ _) (jD (by intros;kernel_rfl))
theorem d6:FnAt 91 "PatternCode.bound" (aj (bO 26 6)) (.ref 90) ["self","word","ends"] (aM (bO 26 6)):=
 AU 9 rfl (bI _ _) (jf (by intros;kernel_rfl))
theorem o8:FnAt 105 "straightened" (aj (cP 27)) (.ref 104) ["orders"] (aM (cP 27)):=
 AU 10 rfl (bj _) (qa (by intros;kernel_rfl))
theorem lu:FnAt 112 "compile_pattern" (aj (cP 28)) (.ref 111) ["node"] (aM (cP 28)):=
 AU 11 rfl (bj _) (qa (by intros;kernel_rfl))
noncomputable def NI:List o9:=[(163,"Pattern.__init__",df 32 0,162)]
theorem FL(w:World)(os:OsState)(g:Nat->Obj):NI.map (λx=>G1 w os g x.1)=NI.map (λx=>ur (G1 w os g x.1) x.2.1 x.2.2.1 x.2.2.2):=by kernel_rfl
theorem HT(w:World)(os:OsState)(g:Nat->Obj):NI.all (λx=>codeB (G1 w os g x.2.2.2) x.2.1)=true:=by kernel_rfl
theorem Rz(w:World)(a:Nat)(h1:13<a)(h2:a<171):bq w a=G1 w (cH w) (H1 w (cH w)) a:=(d0 w a h1).trans (at2 w (cH w) a h2)
theorem Wd(i:Nat){a code:Nat}{qual:Str}{oX st:Stmt}{names:List Str}(hi:NI[i]? =some (a,qual,oX,code))(bV:oX=st)(bd:∀us:List Value,us.length=names.length->JE st names us)(hb:autoParam ((Nat.blt 13 a&&Nat.blt a 171&&Nat.blt 13 code&&Nat.blt code 171&&addrs.contains a&&addrs.contains code)=true) JL)
  (loc:autoParam (names.all (λx=>(aj st).names.lookup x==some .local)=true) AS) (rest:autoParam ((!(aj st).isCoroutine && !(aj st).isGenerator&&(aj st).kind==.function&&(aj st).names.all λx=>x.2 != .cell)=true) AS):FnAt a qual (aj st) (.ref code) names (aM st):=
 rL (G:=λw os=>G1 w os (H1 w os)) (k:=0) (Rz w) (FL w _ _) (HT w _ _) i hi bV hb (λa b c d e f g h i us hu=>congrArg (λF=>F a b c d e f g h i) (bd us hu)) ⟨loc,rest⟩
theorem o6:FnAt 163 "Pattern.__init__" (aj (bO 32 0)) (.ref 162) ["self","node"] (aM (bO 32 0)):=
 Wd 0 rfl (bI _ _) (jD (by intros;kernel_rfl))
noncomputable def NK:List o9:=[(184,"Delayed.__init__",df 33 0,183),(205,"NameRef.__init__",df 34 0,204),(219,"is_fail",cN 35,218),(226,"fits",cN 36,225),(233,"whole_of_text",cN 37,232),(240,"text_of_whole",cN 38,239),(247,"to_whole",cN 39,246),(254,"to_text",cN 40,253),(261,"need_text",cN 41,260),(278,"plain_signs",cN 47,277)]
theorem FN(w:World)(os:OsState)(g:Nat->Obj):NK.map (λx=>G2 w os g x.1)=NK.map (λx=>ur (G2 w os g x.1) x.2.1 x.2.2.1 x.2.2.2):=by kernel_rfl
theorem HU(w:World)(os:OsState)(g:Nat->Obj):NK.all (λx=>codeB (G2 w os g x.2.2.2) x.2.1)=true:=by kernel_rfl
theorem RA(w:World)(a:Nat)(h1:13<a)(h2:a<279):bq w a=G2 w (cH w) (H2 w (cH w)) a:=(d0 w a h1).trans (PB w (cH w) a h2)
theorem Ln(i:Nat){a code:Nat}{qual:Str}{oX st:Stmt}{names:List Str}(hi:NK[i]? =some (a,qual,oX,code))(bV:oX=st)(bd:∀us:List Value,us.length=names.length->JE st names us)(hb:autoParam ((Nat.blt 13 a&&Nat.blt a 279&&Nat.blt 13 code&&Nat.blt code 279&&addrs.contains a&&addrs.contains code)=true) JL)
  (loc:autoParam (names.all (λx=>(aj st).names.lookup x==some .local)=true) AS) (rest:autoParam ((!(aj st).isCoroutine && !(aj st).isGenerator&&(aj st).kind==.function&&(aj st).names.all λx=>x.2 != .cell)=true) AS):FnAt a qual (aj st) (.ref code) names (aM st):=
 rL (G:=λw os=>G2 w os (H2 w os)) (k:=0) (RA w) (FN w _ _) (HU w _ _) i hi bV hb (λa b c d e f g h i us hu=>congrArg (λF=>F a b c d e f g h i) (bd us hu)) ⟨loc,rest⟩
theorem o5:FnAt 205 "NameRef.__init__" (aj (bO 34 0)) (.ref 204) ["self","kind","owner","key"] (aM (bO 34 0)):=
 Ln 1 rfl (bI _ _) (qX (by intros;kernel_rfl))
theorem rz:FnAt 219 "is_fail" (aj (cP 35)) (.ref 218) ["value"] (aM (cP 35)):=
 Ln 2 rfl (bj _) (qa (by intros;kernel_rfl))
theorem Hw:FnAt 226 "fits" (aj (cP 36)) (.ref 225) ["number","width"] (aM (cP 36)):=
 Ln 3 rfl (bj _) (jD (by intros;kernel_rfl))
theorem i6:FnAt 233 "whole_of_text" (aj (cP 37)) (.ref 232) ["text","width"] (aM (cP 37)):=
 Ln 4 rfl (bj _) (jD (by intros;kernel_rfl))
theorem wy:FnAt 247 "to_whole" (aj (cP 39)) (.ref 246) ["value","width"] (aM (cP 39)):=
 Ln 6 rfl (bj _) (jD (by intros;kernel_rfl))
noncomputable def NL:List o9:=[(285,"pattern_of",cN 48,284),(292,"is_delayed",cN 49,291),(299,"settled",cN 50,298),(306,"chars_end",cN 54,305),(313,"len_end",cN 55,312),(320,"pos_end",cN 56,319),(327,"rpos_end",cN 57,326),(334,"tab_end",cN 58,333),(341,"rtab_end",cN 59,340),(348,"rem_end",cN 60,347),(355,"any_at",cN 61,354),(362,"notany_at",cN 62,361),(369,"run_end",cN 63,368),(376,"span_end",cN 64,375),(383,"break_end",cN 65,382),(390,"arb_ends",cN 66,389),(397,"bal_end",cN 67,396),(404,"bal_ends",cN 68,403),(411,"one_end",cN 69,410),(418,"plain_end",cN 70,417),(425,"ends_of",cN 71,424)]
theorem FP(w:World)(os:OsState)(g:Nat->Obj):NL.map (λx=>G3 w os g x.1)=NL.map (λx=>ur (G3 w os g x.1) x.2.1 x.2.2.1 x.2.2.2):=by kernel_rfl
theorem HV(w:World)(os:OsState)(g:Nat->Obj):NL.all (λx=>codeB (G3 w os g x.2.2.2) x.2.1)=true:=by kernel_rfl
theorem RB(w:World)(a:Nat)(h1:13<a)(h2:a<426):bq w a=G3 w (cH w) (H3 w (cH w)) a:=(d0 w a h1).trans (PC w (cH w) a h2)
theorem wR(i:Nat){a code:Nat}{qual:Str}{oX st:Stmt}{names:List Str}(hi:NL[i]? =some (a,qual,oX,code))(bV:oX=st)(bd:∀us:List Value,us.length=names.length->JE st names us)(hb:autoParam ((Nat.blt 13 a&&Nat.blt a 426&&Nat.blt 13 code&&Nat.blt code 426&&addrs.contains a&&addrs.contains code)=true) JL)
  (loc:autoParam (names.all (λx=>(aj st).names.lookup x==some .local)=true) AS) (rest:autoParam ((!(aj st).isCoroutine && !(aj st).isGenerator&&(aj st).kind==.function&&(aj st).names.all λx=>x.2 != .cell)=true) AS):FnAt a qual (aj st) (.ref code) names (aM st):=
 rL (G:=λw os=>G3 w os (H3 w os)) (k:=0) (RB w) (FP w _ _) (HV w _ _) i hi bV hb (λa b c d e f g h i us hu=>congrArg (λF=>F a b c d e f g h i) (bd us hu)) ⟨loc,rest⟩
theorem sG:FnAt 285 "pattern_of" (aj (cP 48)) (.ref 284) ["value"] (aM (cP 48)):=
 wR 0 rfl (bj _) (qa (by intros;kernel_rfl))
theorem ly:FnAt 292 "is_delayed" (aj (cP 49)) (.ref 291) ["told"] (aM (cP 49)):=
 wR 1 rfl (bj _) (qa (by intros;kernel_rfl))
theorem rA:FnAt 299 "settled" (aj (cP 50)) (.ref 298) ["node","host"] (aM (cP 50)):=
 wR 2 rfl (bj _) (jD (by intros;kernel_rfl))
theorem uc:FnAt 306 "chars_end" (aj (cP 54)) (.ref 305) ["subject","at","text"] (aM (cP 54)):=
 wR 3 rfl (bj _) (jf (by intros;kernel_rfl))
theorem zi:FnAt 313 "len_end" (aj (cP 55)) (.ref 312) ["subject","at","many"] (aM (cP 55)):=
 wR 4 rfl (bj _) (jf (by intros;kernel_rfl))
theorem wu:FnAt 327 "rpos_end" (aj (cP 57)) (.ref 326) ["subject","at","place"] (aM (cP 57)):=
 wR 6 rfl (bj _) (jf (by intros;kernel_rfl))
theorem A9:FnAt 355 "any_at" (aj (cP 61)) (.ref 354) ["subject","at","signs"] (aM (cP 61)):=
 wR 10 rfl (bj _) (jf (by intros;kernel_rfl))
theorem zk:FnAt 369 "run_end" (aj (cP 63)) (.ref 368) ["subject","at","signs","is_in"] (aM (cP 63)):=
 wR 12 rfl (bj _) (qX (by intros;kernel_rfl))
theorem wx:FnAt 376 "span_end" (aj (cP 64)) (.ref 375) ["subject","at","signs"] (aM (cP 64)):=
 wR 13 rfl (bj _) (jf (by intros;kernel_rfl))
theorem wm:FnAt 390 "arb_ends" (aj (cP 66)) (.ref 389) ["subject","at"] (aM (cP 66)):=
 wR 15 rfl (bj _) (jD (by intros;kernel_rfl))
theorem zg:FnAt 397 "bal_end" (aj (cP 67)) (.ref 396) ["subject","at"] (aM (cP 67)):=
 wR 16 rfl (bj _) (jD (by intros;kernel_rfl))
theorem wo:FnAt 404 "bal_ends" (aj (cP 68)) (.ref 403) ["subject","at"] (aM (cP 68)):=
 wR 17 rfl (bj _) (jD (by intros;kernel_rfl))
theorem zj:FnAt 411 "one_end" (aj (cP 69)) (.ref 410) ["kind","subject","at","told"] (aM (cP 69)):=
 wR 18 rfl (bj _) (qX (by intros;kernel_rfl))
theorem ue:FnAt 418 "plain_end" (aj (cP 70)) (.ref 417) ["node","subject","at"] (aM (cP 70)):=
 wR 19 rfl (bj _) (jf (by intros;kernel_rfl))
theorem zh:FnAt 425 "ends_of" (aj (cP 71)) (.ref 424) ["kind","subject","at","told"] (aM (cP 71)):=
 wR 20 rfl (bj _) (qX (by intros;kernel_rfl))
noncomputable def NN:List o9:=[(439,"Way.__init__",df 76 0,438),(446,"Way.copied",df 76 1,445),(467,"Match.__init__",df 77 0,466),(474,"Match.run",df 77 1,473),(481,"Match.way_back",df 77 2,480),(488,"Match.done",df 77 3,487),(495,"Match.met_once",df 77 4,494),(502,"Match.ended",df 77 5,501),(509,"Match.other",df 77 6,508),(516,"Match.met_often",df 77 7,515),(523,"Match.asked",df 77 8,522),(537,"named_rows",cN 78,536)]
theorem FQ(w:World)(os:OsState)(g:Nat->Obj):NN.map (λx=>G4 w os g x.1)=NN.map (λx=>ur (G4 w os g x.1) x.2.1 x.2.2.1 x.2.2.2):=by kernel_rfl
theorem HW(w:World)(os:OsState)(g:Nat->Obj):NN.all (λx=>codeB (G4 w os g x.2.2.2) x.2.1)=true:=by kernel_rfl
theorem RD(w:World)(a:Nat)(h1:13<a)(h2:a<538):bq w a=G4 w (cH w) (H4 w (cH w)) a:=(d0 w a h1).trans (PD w (cH w) a h2)
theorem AV(i:Nat){a code:Nat}{qual:Str}{oX st:Stmt}{names:List Str}(hi:NN[i]? =some (a,qual,oX,code))(bV:oX=st)(bd:∀us:List Value,us.length=names.length->JE st names us)(hb:autoParam ((Nat.blt 13 a&&Nat.blt a 538&&Nat.blt 13 code&&Nat.blt code 538&&addrs.contains a&&addrs.contains code)=true) JL)
  (loc:autoParam (names.all (λx=>(aj st).names.lookup x==some .local)=true) AS) (rest:autoParam ((!(aj st).isCoroutine && !(aj st).isGenerator&&(aj st).kind==.function&&(aj st).names.all λx=>x.2 != .cell)=true) AS):FnAt a qual (aj st) (.ref code) names (aM st):=
 rL (G:=λw os=>G4 w os (H4 w os)) (k:=0) (RD w) (FQ w _ _) (HW w _ _) i hi bV hb (λa b c d e f g h i us hu=>congrArg (λF=>F a b c d e f g h i) (bd us hu)) ⟨loc,rest⟩
theorem wj:FnAt 439 "Way.__init__" (aj (bO 76 0)) (.ref 438) ["self","orders","pc","at","named","marks","calls"] (aM (bO 76 0)):=
 AV 0 rfl (bI _ _) (EI (by intros;kernel_rfl))
theorem sD:FnAt 446 "Way.copied" (aj (bO 76 1)) (.ref 445) ["self","pc"] (aM (bO 76 1)):=
 AV 1 rfl (bI _ _) (jD (by intros;kernel_rfl))
theorem sC:FnAt 467 "Match.__init__" (aj (bO 77 0)) (.ref 466) ["self","subject","host"] (aM (bO 77 0)):=
 AV 2 rfl (bI _ _) (jf (by intros;kernel_rfl))
theorem ub:FnAt 474 "Match.run" (aj (bO 77 1)) (.ref 473) ["self","orders","begin"] (aM (bO 77 1)):=
 AV 3 rfl (bI _ _) (jf (by intros;kernel_rfl))
theorem mM:FnAt 481 "Match.way_back" (aj (bO 77 2)) (.ref 480) ["self"] (aM (bO 77 2)):=
 AV 4 rfl (bI _ _) (qa (by intros;kernel_rfl))
theorem dj:FnAt 488 "Match.done" (aj (bO 77 3)) (.ref 487) ["self","order","way"] (aM (bO 77 3)):=
 AV 5 rfl (bI _ _) (jf (by intros;kernel_rfl))
theorem ig:FnAt 495 "Match.met_once" (aj (bO 77 4)) (.ref 494) ["self","order","way"] (aM (bO 77 4)):=
 AV 6 rfl (bI _ _) (jf (by intros;kernel_rfl))
theorem g7:FnAt 502 "Match.ended" (aj (bO 77 5)) (.ref 501) ["self","order","way"] (aM (bO 77 5)):=
 AV 7 rfl (bI _ _) (jf (by intros;kernel_rfl))
theorem dD:FnAt 509 "Match.other" (aj (bO 77 6)) (.ref 508) ["self","order","way"] (aM (bO 77 6)):=
 AV 8 rfl (bI _ _) (jf (by intros;kernel_rfl))
theorem gN:FnAt 516 "Match.met_often" (aj (bO 77 7)) (.ref 515) ["self","way","ends"] (aM (bO 77 7)):=
 AV 9 rfl (bI _ _) (jf (by intros;kernel_rfl))
theorem qI:FnAt 523 "Match.asked" (aj (bO 77 8)) (.ref 522) ["self","tree","way"] (aM (bO 77 8)):=
 AV 10 rfl (bI _ _) (jf (by intros;kernel_rfl))
theorem sF:FnAt 537 "named_rows" (aj (cP 78)) (.ref 536) ["named"] (aM (cP 78)):=
 AV 11 rfl (bj _) (qa (by intros;kernel_rfl))
noncomputable def NO:List o9:=[(544,"match_orders",cN 79,543),(558,"PlainHost.__init__",df 81 0,557),(565,"PlainHost.value_of",df 81 1,564),(572,"PlainHost.assign",df 81 2,571),(579,"PlainHost.step",df 81 3,578),(593,"match_plain",cN 84,592),(600,"match_at",cN 85,599),(607,"tried",cN 86,606),(614,"advanced",cN 87,613),(621,"led_in",cN 88,620),(628,"led_out",cN 89,627),(635,"steered",cN 90,634),(642,"taken",cN 91,641),(649,"_law_dipped",cN 93,648),(656,"_law_grown",cN 94,655),(661,"_law_gone",cN 95,660)]
theorem FR(w:World)(os:OsState)(g:Nat->Obj):NO.map (λx=>G5 w os g x.1)=NO.map (λx=>ur (G5 w os g x.1) x.2.1 x.2.2.1 x.2.2.2):=by kernel_rfl
theorem HX(w:World)(os:OsState)(g:Nat->Obj):NO.all (λx=>codeB (G5 w os g x.2.2.2) x.2.1)=true:=by kernel_rfl
theorem RE(w:World)(a:Nat)(h1:13<a)(h2:a<662):bq w a=G5 w (cH w) (H5 w (cH w)) a:=(d0 w a h1).trans (PF w (cH w) a h2)
theorem wc(i:Nat){a code:Nat}{qual:Str}{oX st:Stmt}{names:List Str}(hi:NO[i]? =some (a,qual,oX,code))(bV:oX=st)(bd:∀us:List Value,us.length=names.length->JE st names us)(hb:autoParam ((Nat.blt 13 a&&Nat.blt a 662&&Nat.blt 13 code&&Nat.blt code 662&&addrs.contains a&&addrs.contains code)=true) JL)
  (loc:autoParam (names.all (λx=>(aj st).names.lookup x==some .local)=true) AS) (rest:autoParam ((!(aj st).isCoroutine && !(aj st).isGenerator&&(aj st).kind==.function&&(aj st).names.all λx=>x.2 != .cell)=true) AS):FnAt a qual (aj st) (.ref code) names (aM st):=
 rL (G:=λw os=>G5 w os (H5 w os)) (k:=0) (RE w) (FR w _ _) (HX w _ _) i hi bV hb (λa b c d e f g h i us hu=>congrArg (λF=>F a b c d e f g h i) (bd us hu)) ⟨loc,rest⟩
theorem o7:FnAt 544 "match_orders" (aj (cP 79)) (.ref 543) ["orders","subject","is_anchored","host"] (aM (cP 79)):=
 wc 0 rfl (bj _) (qX (by intros;kernel_rfl))
theorem mO:FnAt 558 "PlainHost.__init__" (aj (bO 81 0)) (.ref 557) ["self","values","limit","refused"] (aM (bO 81 0)):=
 wc 1 rfl (bI _ _) (qX (by intros;kernel_rfl))
theorem jk:FnAt 565 "PlainHost.value_of" (aj (bO 81 1)) (.ref 564) ["self","tree"] (aM (bO 81 1)):=
 wc 2 rfl (bI _ _) (jD (by intros;kernel_rfl))
theorem kC:FnAt 572 "PlainHost.assign" (aj (bO 81 2)) (.ref 571) ["self","ref","value"] (aM (bO 81 2)):=
 wc 3 rfl (bI _ _) (jf (by intros;kernel_rfl))
theorem mQ:FnAt 579 "PlainHost.step" (aj (bO 81 3)) (.ref 578) ["self"] (aM (bO 81 3)):=
 wc 4 rfl (bI _ _) (qa (by intros;kernel_rfl))
theorem qJ:FnAt 593 "match_plain" (aj (cP 84)) (.ref 592) ["node","subject","is_anchored","host"] (aM (cP 84)):=
 wc 5 rfl (bj _) (qX (by intros;kernel_rfl))
theorem wt:FnAt 600 "match_at" (aj (cP 85)) (.ref 599) ["node","subject","begin","host"] (aM (cP 85)):=
 wc 6 rfl (bj _) (qX (by intros;kernel_rfl))
theorem DI:FnAt 607 "tried" (aj (cP 86)) (.ref 606) ["node","subject","begin","host"] (aM (cP 86)):=
 wc 7 rfl (bj _) (qX (by intros;kernel_rfl))
theorem fk:FnAt 614 "advanced" (aj (cP 87)) (.ref 613) ["chain","at","named","subject","pile","host"] (aM (cP 87)):=
 wc 8 rfl (bj _) (Ra (by intros;kernel_rfl))
theorem lz:FnAt 621 "led_in" (aj (cP 88)) (.ref 620) ["here","rest","at","named","pile"] (aM (cP 88)):=
 wc 9 rfl (bj _) (Q9 (by intros;kernel_rfl))
theorem mR:FnAt 628 "led_out" (aj (cP 89)) (.ref 627) ["here","rest","at","named","subject","pile","host"] (aM (cP 89)):=
 wc 10 rfl (bj _) (EI (by intros;kernel_rfl))
theorem mS:FnAt 635 "steered" (aj (cP 90)) (.ref 634) ["chain","at","named","pile"] (aM (cP 90)):=
 wc 11 rfl (bj _) (qX (by intros;kernel_rfl))
theorem oA:FnAt 642 "taken" (aj (cP 91)) (.ref 641) ["here","rest","at","named","subject","pile","host"] (aM (cP 91)):=
 wc 12 rfl (bj _) (EI (by intros;kernel_rfl))
theorem sE:FnAt 649 "_law_dipped" (aj (cP 93)) (.ref 648) ["well","many"] (aM (cP 93)):=
 wc 13 rfl (bj _) (jD (by intros;kernel_rfl))
theorem ud:FnAt 656 "_law_grown" (aj (cP 94)) (.ref 655) ["well","deep","refs"] (aM (cP 94)):=
 wc 14 rfl (bj _) (jf (by intros;kernel_rfl))
theorem wq:FnAt 661 "_law_gone" (aj (cP 95)) (.ref 660) ["is_made","told","subject","is_anchored","kept","refused","most"] (aM (cP 95)):=
 wc 15 rfl (bj _) (EI (by intros;kernel_rfl))
end
end
section
open PySem PySem.W PyProof.Rows PySem.Calls Builtin
variable{O:List Env}
section
variable{prog:Program}{A:Around}{E:Value->Shared->Prop}{K:Frag}{C:Addr}
noncomputable def GX(d:Data):Bool:=match d with
 | .cls _=>true
 | _=>false
theorem zV{d:Data}:GX d=true->∃cd,d=.cls cd:=by
 cases d<;>intro h<;>first | exact absurd h Bool.false_ne_true | exact⟨_,rfl⟩
noncomputable def clsAt(K:Frag)(C:Addr):Bool:=(K.lookup C).elim false λo=>GX o.data
theorem rH{K:Frag}{C:Addr}(h:clsAt K C=true):∃o cd,K.lookup C=some o/\o.data=.cls cd:=by
 revert h;unfold clsAt;cases K.lookup C with
 | none=>exact λh=>absurd h Bool.false_ne_true
 | some o=>exact λh=>have⟨cd,e⟩:=zV h;⟨o,cd,rfl,e⟩
noncomputable def gU(K:Frag)(t:Value)(C:Addr):Bool:=clsAt K C&&typeIn K (.ref C)==some (.type "type")&&instIn K (.ref C) (.type "type")==some true&&subIn K t (.ref C)==some false
theorem uV{x:Str}{tk:Tok}{dep:Int}{dt:Tok}{s:Shared}{Q:Fin->Shared->Prop}(X0:K.In s.heap)(e:gU K (.type "str") C=true)(h:∀n,Q (.done (.ret (.bool false))) { s with toks:=n }):
  wpAny (model prog w) A (Builtin.«isinstance.nested» ⟨[.str x tk,.ref C,.int dep dt],[]⟩) Q E s:=by
 obtain⟨hh,g,d,tt,os⟩:=s;unfold Builtin.«isinstance.nested»;have ht:Looks (model prog w) hh (typeOf (.str x tk)) (.type "str"):=Looks.of_pure rfl;refine wpAny_bind (ht.at ?_);rw[if_neg (by exact nofun)]
 unfold gU at e;rw[Bool.and_eq_true,Bool.and_eq_true,Bool.and_eq_true]at e;obtain⟨⟨⟨e0,e1⟩,e2⟩,e3⟩:=e;have L1:=looks_typeIn (M:=model prog w) X0 (beq_iff_eq.mp e1);have L2:=looks_instIn (M:=model prog w) X0 (beq_iff_eq.mp e2);have L3:Looks (model prog w) hh (isInstance (.str x tk) (.ref C)) false:=ht.andThen (looks_subIn X0 (beq_iff_eq.mp e3));have L4:Looks (model prog w) hh (isSubtype (.type "str") (.ref C)) false:=looks_subIn X0 (beq_iff_eq.mp e3);refine wpAny_bind (L1.at ?_);rw[if_pos (by decide)]
 k_delta "plainIsInstance"
 unfold isType
 repeat lk
 obtain⟨⟨oc,od,dt,os⟩,cd,ho,hd⟩:=rH e0;have hd:dt=.cls cd:=hd;subst hd;refine nd_load (X0 _ _ ho) (nd_pure (wpAny_pure ?_));refine wpAny_ite_false (c:=false=true) rfl ?_;refine wpAny_bind (L3.at ?_);refine wpAny_ite_false (c:=false=true) rfl ?_;refine wpAny_bind (class_attr_str ?_)
 repeat lk
 exact h _
theorem m9{x:Str}{tk:Tok}{s:Shared}{Q:Value->Shared->Prop}(X0:K.In s.heap)(e:gU K (.type "str") C=true)(h:∀n,Q (.bool false) { s with toks:=n }):
  wpAny (model prog w) A (call (.builtin "isinstance") [.str x tk,.ref C]) Q E s:=by
 refine call_isinstance_of ?_ (by intro e;cases e)
 exact uV X0 e λn=>h n
end
theorem vx{prog:Program}{A:Around}{E:Value->Shared->Prop}{s:Shared}{l:Addr}{items:Array Value}{n:Nat}{k:Int}{t:Tok}{v:Value}{Q:Unit->Shared->Prop}(ho:IsL s.heap l items n)
  (h0:0<=k) (LL:k<2^63) (hn:k<items.size) (hQ:Q () { s with heap:=s.heap.update l (Obj.mapSeq (·.setIfInBounds k.toNat v)) }):
  wpAny (model prog w) A (setItem (.ref l) (.int k t) v) Q E s:=by
 have hl:s.heap.IsList l items:=⟨_,ho,rfl,_,rfl⟩;unfold setItem
 try with_reducible refine wpAny_holding ?_
 skip
 refine wpAny_bind (wpAny_sequenceKey hl.typeIs (by decide) ?_)
 refine wpAny_bind (wpAny_callSpecial?_slot (name:=Str.ofString "__setitem__") hl.typeIs slot_list_setitem
  (wpAny_call_entry slot_list_setitem hl.typeIs entry_list_setitem ?_ (args_list_setitem _ _ _)))
 show wpAny _ _ (Builtin.List.listSubscript? (.int k t) >>=_) _ _ s;refine wpAny_bind (wpAny_listSubscript_int (fitsIndex_of h0 LL) ?_);clear LL;obtain⟨j,rfl⟩:=Int.eq_ofNat_of_zero_le h0;have hj:j<items.size:=by exact Cr (iT hn)
 have Xf:items[j]? =some items[j]:=Array.getElem?_eq_getElem hj;show wpAny _ _ ((seqItemAt l j >>=λr=>pure (r.map (j, ·))) >>=_) _ _ s
 refine wpAny_bind (wpAny_bind (wpAny_seqItemAt ho rfl (wpAny_pure ?_)));rw[Xf];show wpAny _ _ (setSeqItemAt l j v >>=_) _ _ s;refine wpAny_bind (wpAny_setSeqItemAt ho rfl ?_)
 first
  | exact wpAny_bind (wpAny_pure (wpAny_pure ⟨.none,rfl,wpAny_pure hQ⟩))
  | exact wpAny_pure ⟨.none,rfl,wpAny_pure hQ⟩
section
variable{n:NX}{env:Env}{ρ:Loc}{σ:AH}{X0:XP}{Q:V->Loc->AH->Prop}
theorem uX{C:Addr}{x:Str}(e:gU c.K (.type "str") C=true)(q:Q (.bool false) ρ σ):cK n env (.builtin "isinstance") [.str x,.glob (.ref C)] ρ σ Q:=λus A s hA S F r=>by
 obtain⟨u,v,rfl,r1,r2⟩:=d9 r;obtain⟨t,rfl⟩:=ay.str_inv r1;obtain rfl:=ay.dB r2;exact m9 (S.oO) e λm=>aR.bP (tk:=m) S F (.bool _) q
theorem nU{x:Str}(q:Q (.bool true) ρ σ):cK n env (.builtin "isinstance") [.str x,.glob (.type "str")] ρ σ Q:=λus A s hA S F r=>by
 obtain⟨u,v,rfl,r1,r2⟩:=d9 r;obtain⟨t,rfl⟩:=ay.str_inv r1;obtain rfl:=ay.dB r2;exact IsiPair.str_str (aR.bP (tk:=s.toks) S F (.bool _) q)
theorem nV{x:Str}(q:Q (.bool false) ρ σ):cK n env (.builtin "isinstance") [.str x,.glob (.type "tuple")] ρ σ Q:=λus A s hA S F r=>by
 obtain⟨u,v,rfl,r1,r2⟩:=d9 r;obtain⟨t,rfl⟩:=ay.str_inv r1;obtain rfl:=ay.dB r2;exact IsiPair.str_tuple (aR.bP (tk:=s.toks+1) S F (.bool _) q)
theorem nT{x:Int}(q:Q (.bool false) ρ σ):cK n env (.builtin "isinstance") [.int x,.glob (.type "tuple")] ρ σ Q:=λus A s hA S F r=>by
 obtain⟨u,v,rfl,r1,r2⟩:=d9 r;obtain⟨t,rfl⟩:=ay.int_inv r1;obtain rfl:=ay.dB r2;exact IsiPair.int_tuple (aR.bP (tk:=s.toks+1) S F (.bool _) q)
theorem kT{a b:Addr}{l m:List V}(ha:σ a=some (.list l))(hb:σ b=some (.list m))(hl:l.length<=100000)(hm:m.length<=100000)(q:∀d,σ d=none->Q (.lst d) ρ (σ.put d (.list (l++m)))):iI n env (binaryOp .Add) (.lst a) (.lst b) ρ σ Q:=λu v A s hA S F r=>by
 obtain rfl:=ay.lst_inv r.1;obtain rfl:=ay.lst_inv r.2;have o:=S.objs _ _ ha;have o2:=S.objs _ _ hb;cases o with
 | @list vs k _ ho hs=>
  cases o2 with
  | @list tF k2 _ zN uP=>
   have e1:=hs.length;have e2:=uP.length;rw[Array.length_toList]at e1 e2;refine P.add_list ho zN (aR.new (tk:=s.toks) (ao:=.list (l++m)) S F (aO _) (push_size _) (Nat.le_refl _) (.list (IsL.new _ _) ?_) (.lst _) (q _ ?_)) (by rw[sizeLine_eq];exact bD (.e .A .B (.e .C .D (.l .B (.k 100000) (.l .D (.k 100000) (.g (.a .A .C) (.k 16777216)))))) rfl e1 e2 hl hm)
   ·simpa using (hs.keep λb o e _=>aO _ b o e).append (uP.keep λb o e _=>aO _ b o e)
   ·cases z:σ s.heap.objs.size with
    | none=>rfl
    | some ao=>obtain⟨ob,e1,_⟩:=(S.objs _ _ z).at;exact absurd (Heap.lt_size e1) (Nat.lt_irrefl _)
theorem xq{l m:List V}(hl:l.length<=100000)(hm:m.length<=100000)(q:Q (.tup (l++m)) ρ σ):iI n env (binaryOp .Add) (.tup l) (.tup m) ρ σ Q:=λu v A s hA S F r=>by
 obtain⟨a,vs,k,rfl,ht,hs⟩:=ay.cR r.1;obtain⟨b,tF,k2,rfl,BX,uP⟩:=ay.cR r.2;have e1:=hs.length;have e2:=uP.length;rw[Array.length_toList]at e1 e2;by_cases h1:vs.isEmpty=true
 ·have l0:l=[]:=by
   have:vs= #[]:=by simpa using h1
   subst this;cases l with | nil=>rfl | cons x y=>simp at e1
  subst l0;exact concat_meets ⟨_,ht,rfl⟩ ⟨_,BX,rfl⟩ noFill_tuple_add seq_tuple_add PySem.F.slot_tuple_add PySem.F.entry_tuple_add (PySem.F.args_tuple_add_2 _ _)
   (tuple_addW0 a b vs tF k k2 none none #[] #[] h1) ⟨ht,BX,aR.bP (tk:=s.toks) S F (show ay _ _ (.tup ([]++m)) from r.2) q⟩
 ·by_cases h2:tF.isEmpty=true
  ·have l0:m=[]:=by
    have:tF= #[]:=by simpa using h2
    subst this;cases m with | nil=>rfl | cons x y=>simp at e2
   subst l0;exact concat_meets ⟨_,ht,rfl⟩ ⟨_,BX,rfl⟩ noFill_tuple_add seq_tuple_add PySem.F.slot_tuple_add PySem.F.entry_tuple_add (PySem.F.args_tuple_add_2 _ _)
    (tuple_addW1 a b vs tF k k2 none none #[] #[] h1 h2) ⟨ht,BX,aR.bP (tk:=s.toks) S F (show ay _ _ (.tup (l++[])) from (List.append_nil l).symm▸r.1) q⟩
  ·refine P.add_tuple ht BX h1 h2 (aR.extend (tk:=s.toks) S F (aO _) (push_size _) (.tup (IsT.new _ _) ?_) q) (by rw[sizeLine_eq];exact bD (.e .A .B (.e .C .D (.l .B (.k 100000) (.l .D (.k 100000) (.g (.a .A .C) (.k 16777216)))))) rfl e1 e2 hl hm)
   simpa using (hs.keep λb o e _=>aO _ b o e).append (uP.keep λb o e _=>aO _ b o e)
theorem qR{a b:Int}(ha: -1000000<=a)(Ie:a<=1000000)(hb: -1000000<=b)(Oh:b<=1000000)(q:∀d,σ d=none->Q (.lst d) ρ (σ.put d (.list (dG a b)))):cK n env (.type "list") [.Ag a b] ρ σ Q:=λus A s hA S F r=>by
 obtain⟨u,rfl,r1⟩:=fD r;obtain⟨r,t,u,v,rfl,ho⟩:=r1.yZ;have sz:=vm a b;refine PySem.call_list_range hA.hand ho (small_one (by exact(Int.le_trans (by decide) ha)) (by exact(Int.lt_of_le_of_lt Ie (by decide))) (by exact(Int.le_trans (by decide) hb)) (by exact(Int.lt_of_le_of_lt Oh (by decide)))) sz (by exact RK ha Oh) λh' tk acc c' kp hd it=>?_
 refine aR.new (ao:=.list (dG a b)) S F kp ?_ (Nat.le_refl _) (.list hd ?_) (.lst _) (q _ ?_)
 ·exact Nat.le_of_lt (Heap.lt_size hd)
 ·obtain⟨i1,i2⟩:=it
  have key:∀(k:Nat)(us:List Value),(∀j v,us[j]? =some v->∃t,v=Value.int (a+((k+j:Nat):Int)) t)->aE h' us ((List.range' k us.length).map λi=>V.int (a+(i:Nat))):=by
   intro k us
   induction us generalizing k with
   | nil=>intro _;exact .nil
   | cons u us ih=>
    intro hh;rw[List.length_cons,List.range'_succ,List.map_cons];refine .cons ?_ (ih (k+1) λj v e=>?_)
    ·obtain⟨t,rfl⟩:=hh 0 u (by rfl);simpa using ay.int _ t
    ·obtain⟨t,rfl⟩:=hh (j+1) v (by simpa using e);exact⟨t,by congr 2;exact(UY (Nat.le_antisymm (aH (.g (.a .A (.a .B .O)) (.a (.a .A .O) .B)) rfl) (aH (.g (.a (.a .A .O) .B) (.a .A (.a .B .O))) rfl)))⟩
  have:=key 0 acc.toList (λj v e=>by obtain⟨t,e2⟩:=i2 j v (by simpa using e);exact⟨t,by rw[e2];rfl⟩)
  rw[Array.length_toList,i1]at this;simpa[dG,List.range_eq_range'] using this
 ·cases z:σ s.heap.objs.size with
  | none=>rfl
  | some ao=>obtain⟨ob,e1,_⟩:=(S.objs _ _ z).at;exact absurd (Heap.lt_size e1) (Nat.lt_irrefl _)
theorem qS{l:List V}(hl:l.length<=1000000)(q:∀d,σ d=none->Q (.lst d) ρ (σ.put d (.list l))):cK n env (.type "list") [.tup l] ρ σ Q:=λus A s hA S F r=>by
 obtain⟨u,rfl,r1⟩:=fD r;obtain⟨a,vs,m,rfl,ht,hs⟩:=ay.cR r1;have e1:=hs.length;rw[Array.length_toList]at e1;refine PySem.call_list_seq a (.inr rfl) ht rfl rfl (λh' c' kp hd=>?_) (by rw[sizeLine_eq];exact EJ e1 hl)
 refine aR.new (tk:=s.toks) (ao:=.list l) S F kp (Nat.le_of_lt (Heap.lt_size hd)) (Nat.le_refl _) (.list hd (hs.keep λb o e _=>kp b o e)) (.lst _) (q _ ?_)
 cases z:σ s.heap.objs.size with
 | none=>rfl
 | some ao=>obtain⟨ob,e1,_⟩:=(S.objs _ _ z).at;exact absurd (Heap.lt_size e1) (Nat.lt_irrefl _)
theorem aE.strs{h:Heap}:∀{l:List Str}{us:List Value},aE h us (l.map .str)->StrsAre us l
 | [],us,r=>by
  cases us with
  | nil=>exact .nil
  | cons u us=>exact r.vj.elim
 | x::l,us,r=>by
  cases us with
  | nil=>exact r.vj.elim
  | cons u us=>obtain⟨t,e⟩:=ay.str_inv r.vj.1;rw[e];exact .cons x t (aE.strs r.vj.2)
theorem zz{x:Str}{a:Addr}{l:List Str}(ha:σ a=some (.list (l.map .str)))(hl:(l.map (·.length)).sum+l.length*x.length<=16777216)(q:Q (.str (Txt.join x l)) ρ σ):cK n env (.builtin "str.join") [.str x,.lst a] ρ σ Q:=λus A s hA S F r=>by
 obtain⟨u,v,rfl,r1,r2⟩:=d9 r;obtain⟨t,rfl⟩:=ay.str_inv r1;obtain rfl:=ay.lst_inv r2;have o:=S.objs _ _ ha;cases o with
 | @list vs k _ ho hs=>exact PyProof.Rows.join_list ⟨_,ho,rfl,_,rfl⟩ hs.strs hl λt' k=>aR.bP (tk:=k) S F (.str _ _) q
theorem qQ{a:Addr}{l:List (Str×V)}{k:Str}{d:V}(ha:σ a=some (.dict l))(q:Q ((dg l k).getD d) ρ σ):cK n env (.builtin "dict.get") [.qD a,.str k,d] ρ σ Q:=λus A s hA S F r=>by
 obtain⟨u,v,z,rfl,r1,r2,r3⟩:=Dh r;obtain⟨t,rfl⟩:=ay.str_inv r2;obtain rfl:=ay.oG r1;have o:=S.objs _ _ ha;cases o with
 | @dict kvs _ ho hs=>
  have na:(a==sysModules)=false:=by have:=S.lo _ _ ha;simpa[sysModules] using this
  refine call_meetsIn PySem.F.slot_dict_get ho.typeIs PySem.F.entry_dict_get (PySem.F.args_dict_get_3 _ _ _) (meets_dict_get_default (strKind c.prog c.w) a (k:=k) (by show(k==k)=true;exact beq_self_eq_true _) na z) ⟨_,ho.mapOf,?_⟩
  refine aR.bP (tk:=s.toks+1) S F ?_ q;cases hk:dg l k with
  | none=>rw[(hs.get k).2 hk];exact r3
  | some v=>obtain⟨u,hu,ru⟩:=(hs.get k).1 v hk;rw[hu];exact ru
theorem mq{a:Addr}{l:List V}{i:Int}{v:V}{Q:Loc->AH->Prop}(ha:σ a=some (.list l))(h0:0<=i)(h1:i<l.length)(hl:l.length<=1000000)(q:Q ρ (σ.put a (.list (l.set i.toNat v)))):Hz n env (.lst a) (.int i) v ρ σ Q:=λu k w A s hA S F r=>by
 obtain rfl:=ay.lst_inv r.1;obtain⟨t,rfl⟩:=ay.int_inv r.2.1;have o:=S.objs _ _ ha;cases o with
 | @list vs m _ ho hs=>
  have e1:=hs.length;rw[Array.length_toList]at e1;refine vx ho h0 (by exact RL h1 hl) (by exact RM h1 e1) ?_
  have k:=cb (S.objs _ _ ha) (Heap.SameBut.update s.heap a (Obj.mapSeq (·.setIfInBounds i.toNat w)))
  refine aR.upd (v:=()) (s:=s) (tk:=s.toks) S F ha (Heap.SameBut.update ..) (.list (ho.update _) ?_) rfl q;simpa using (hs.keep k).set i.toNat (r.2.2.keep k)
theorem FH{a:Addr}{l:List (Str×V)}{k:Str}{v:V}{Q:Loc->AH->Prop}(ha:σ a=some (.dict l))(hl:l.length<=1000)(q:Q ρ (σ.put a (.dict (b7 l k v)))):Hz n env (.qD a) (.str k) v ρ σ Q:=λu k' w A s hA S F r=>by
 obtain rfl:=ay.oG r.1;obtain⟨t,rfl⟩:=ay.str_inv r.2.1;have o:=S.objs _ _ ha;cases o with
 | @dict kvs _ ho hs=>
  refine wpAny_setItem_pairs (knd:=strKind c.prog c.w) (k:=k) (by show(k==k)=true;exact beq_self_eq_true _) ho (λh' mH sb=>?_) (by rw[hs.length,sizeLine_eq];exact E9 hl)
  refine aR.upd (v:=()) (s:=s) S F ha sb (.dict mH ?_) rfl q;exact(hs.stored k r.2.2).keep (cb (S.objs _ _ ha) sb)
end
end
section
theorem oP{α β:Type}{x x':α}{y y':β}{l:List Nat}{a:Nat}(h:(x,y,l.all (λa=>isFn (KO w) (.ref a)&&keepIn (KO w) (.ref a)))=(x',y',true))(m:a∈l):isFn c.K (.ref a)=true/\Keeps (.ref a):=by
 have h:=List.all_eq_true.mp (congrArg (λx=>x.2.2) h) a m
 rw[Bool.and_eq_true]at h;exact⟨h.1,jX h.2⟩
theorem fU{α β:Type}{x x':α}{y y':β}{C:Value}{l:List Str}{r:List (Option (Option Value))}(h:(x,l.map (λn=>findIn (KO w) C n),y)=(x',r,y'))(i:Nat){n:Str}{v:Option (Option Value)}(e:l[i]? =some n)(e':r[i]? =some v):findIn c.K C n=v:=by
 have h:=congrArg (λx=>x.2.1) h
 dsimp only at h;rw[<-h,List.getElem?_map,e]at e';exact Option.some.inj e'
theorem HM{β:Type}{y y':β}{C:Nat}(h:((plainGet (KO w) C "x" && hasDictIn (KO w) C&&plainOver (KO w) C&&makesIn (KO w) C&&keepIn (KO w) (.ref C)&&gU (KO w) (.type "str") C),y)=(true,y'))(l:findIn c.K (.ref C) ("__setattr__":Str)=some (some (.builtin "object.__setattr__"))):ua C/\makesIn c.K C=true/\Keeps (.ref C)/\gU c.K (.type "str") C=true:=by
 have h:=congrArg Prod.fst h;dsimp only at h;simp only[Bool.and_eq_true]at h;obtain⟨⟨⟨⟨⟨h1,h2⟩,h3⟩,h4⟩,h5⟩,h6⟩:=h;exact⟨⟨h1,h2,l,h3⟩,h4,jX h5,h6⟩
abbrev LK(C:Addr)(x:Str)(r:Option (Option Value)):Prop:=findIn c.K (.ref C) x=r
abbrev CK(C:Addr):Prop:=ua C/\makesIn c.K C=true/\Keeps (.ref C)/\gU c.K (.type "str") C=true
abbrev FK(a:Addr):Prop:=isFn c.K (.ref a)=true/\Keeps (.ref a)
theorem aQ(w:World):((plainGet (KO w) 94 "x" && hasDictIn (KO w) 94&&plainOver (KO w) 94&&makesIn (KO w) 94&&keepIn (KO w) (.ref 94)&&gU (KO w) (.type "str") 94),(["__setattr__","__init__","orders","emit","put","begun","choice","repeat","bound"]:List Str).map (λx=>findIn (KO w) (.ref 94) x),([51,58,65,70,77,84,91]:List Nat).all (λa=>isFn (KO w) (.ref a)&&keepIn (KO w) (.ref a)))=(true,[some (some (.builtin "object.__setattr__")),some (some (.ref 51)),some none,some (some (.ref 58)),some (some (.ref 65)),some (some (.ref 70)),some (some (.ref 77)),some (some (.ref 84)),some (some (.ref 91))],true):=by kernel_rfl
theorem i9:LK 94 "__setattr__" (some (some (.builtin "object.__setattr__"))):=fU (aQ w) 0 rfl rfl
theorem kE:LK 94 "__init__" (some (some (.ref 51))):=fU (aQ w) 1 rfl rfl
theorem bg:LK 94 "orders" (some none):=fU (aQ w) 2 rfl rfl
theorem aL:LK 94 "emit" (some (some (.ref 58))):=fU (aQ w) 3 rfl rfl
theorem lE:LK 94 "put" (some (some (.ref 65))):=fU (aQ w) 4 rfl rfl
theorem j7:LK 94 "begun" (some (some (.ref 70))):=fU (aQ w) 5 rfl rfl
theorem jm:LK 94 "choice" (some (some (.ref 77))):=fU (aQ w) 6 rfl rfl
theorem jn:LK 94 "repeat" (some (some (.ref 84))):=fU (aQ w) 7 rfl rfl
theorem j8:LK 94 "bound" (some (some (.ref 91))):=fU (aQ w) 8 rfl rfl
theorem bL:CK 94:=HM (aQ w) i9
theorem kF:FK 51:=oP (aQ w) (by decide)
theorem ak:FK 58:=oP (aQ w) (by decide)
theorem gS:FK 65:=oP (aQ w) (by decide)
theorem fY:FK 70:=oP (aQ w) (by decide)
theorem fL:FK 77:=oP (aQ w) (by decide)
theorem fM:FK 84:=oP (aQ w) (by decide)
theorem fZ:FK 91:=oP (aQ w) (by decide)
theorem nR(w:World):((plainGet (KO w) 145 "x" && hasDictIn (KO w) 145&&plainOver (KO w) 145&&makesIn (KO w) 145&&keepIn (KO w) (.ref 145)&&gU (KO w) (.type "str") 145),(["__setattr__","__init__"]:List Str).map (λx=>findIn (KO w) (.ref 145) x),([]:List Nat).all (λa=>isFn (KO w) (.ref a)&&keepIn (KO w) (.ref a)))=(true,[some (some (.builtin "object.__setattr__")),some (some (.builtin "object.__init__"))],true):=by kernel_rfl
theorem lA:LK 145 "__setattr__" (some (some (.builtin "object.__setattr__"))):=fU (nR w) 0 rfl rfl
theorem zf:CK 145:=HM (nR w) lA
theorem fN(w:World):((plainGet (KO w) 166 "x" && hasDictIn (KO w) 166&&plainOver (KO w) 166&&makesIn (KO w) 166&&keepIn (KO w) (.ref 166)&&gU (KO w) (.type "str") 166),(["__setattr__","__init__","node"]:List Str).map (λx=>findIn (KO w) (.ref 166) x),([163]:List Nat).all (λa=>isFn (KO w) (.ref a)&&keepIn (KO w) (.ref a)))=(true,[some (some (.builtin "object.__setattr__")),some (some (.ref 163)),some none],true):=by kernel_rfl
theorem lG:LK 166 "__setattr__" (some (some (.builtin "object.__setattr__"))):=fU (fN w) 0 rfl rfl
theorem pe:LK 166 "__init__" (some (some (.ref 163))):=fU (fN w) 1 rfl rfl
theorem jo:LK 166 "node" (some none):=fU (fN w) 2 rfl rfl
theorem jO:CK 166:=HM (fN w) lG
theorem ph:FK 163:=oP (fN w) (by decide)
theorem dK(w:World):((plainGet (KO w) 208 "x" && hasDictIn (KO w) 208&&plainOver (KO w) 208&&makesIn (KO w) 208&&keepIn (KO w) (.ref 208)&&gU (KO w) (.type "str") 208),(["__setattr__","__init__","kind","owner","key"]:List Str).map (λx=>findIn (KO w) (.ref 208) x),([205]:List Nat).all (λa=>isFn (KO w) (.ref a)&&keepIn (KO w) (.ref a)))=(true,[some (some (.builtin "object.__setattr__")),some (some (.ref 205)),some none,some none,some none],true):=by kernel_rfl
theorem lC:LK 208 "__setattr__" (some (some (.builtin "object.__setattr__"))):=fU (dK w) 0 rfl rfl
theorem pb:LK 208 "__init__" (some (some (.ref 205))):=fU (dK w) 1 rfl rfl
theorem pd:LK 208 "kind" (some none):=fU (dK w) 2 rfl rfl
theorem oo:LK 208 "owner" (some none):=fU (dK w) 3 rfl rfl
theorem ez:LK 208 "key" (some none):=fU (dK w) 4 rfl rfl
theorem ie:CK 208:=HM (dK w) lC
theorem pg:FK 205:=oP (dK w) (by decide)
theorem eI(w:World):((plainGet (KO w) 449 "x" && hasDictIn (KO w) 449&&plainOver (KO w) 449&&makesIn (KO w) 449&&keepIn (KO w) (.ref 449)&&gU (KO w) (.type "str") 449),(["__setattr__","__init__","orders","pc","at","named","marks","calls","copied"]:List Str).map (λx=>findIn (KO w) (.ref 449) x),([439,446]:List Nat).all (λa=>isFn (KO w) (.ref a)&&keepIn (KO w) (.ref a)))=(true,[some (some (.builtin "object.__setattr__")),some (some (.ref 439)),some none,some none,some none,some none,some none,some none,some (some (.ref 446))],true):=by kernel_rfl
theorem qO:LK 449 "__setattr__" (some (some (.builtin "object.__setattr__"))):=fU (eI w) 0 rfl rfl
theorem wA:LK 449 "__init__" (some (some (.ref 439))):=fU (eI w) 1 rfl rfl
theorem c7:LK 449 "orders" (some none):=fU (eI w) 2 rfl rfl
theorem bA:LK 449 "pc" (some none):=fU (eI w) 3 rfl rfl
theorem cL:LK 449 "at" (some none):=fU (eI w) 4 rfl rfl
theorem fK:LK 449 "named" (some none):=fU (eI w) 5 rfl rfl
theorem cS:LK 449 "marks" (some none):=fU (eI w) 6 rfl rfl
theorem di:LK 449 "calls" (some none):=fU (eI w) 7 rfl rfl
theorem iH:LK 449 "copied" (some (some (.ref 446))):=fU (eI w) 8 rfl rfl
theorem d4:CK 449:=HM (eI w) qO
theorem wC:FK 439:=oP (eI w) (by decide)
theorem dS:FK 446:=oP (eI w) (by decide)
theorem bx(w:World):((plainGet (KO w) 526 "x" && hasDictIn (KO w) 526&&plainOver (KO w) 526&&makesIn (KO w) 526&&keepIn (KO w) (.ref 526)&&gU (KO w) (.type "str") 526),(["__setattr__","__init__","subject","host","history","run","way_back","done","met_once","ended","other","met_often","asked"]:List Str).map (λx=>findIn (KO w) (.ref 526) x),([467,474,481,488,495,502,509,516,523]:List Nat).all (λa=>isFn (KO w) (.ref a)&&keepIn (KO w) (.ref a)))=(true,[some (some (.builtin "object.__setattr__")),some (some (.ref 467)),some none,some none,some none,some (some (.ref 474)),some (some (.ref 481)),some (some (.ref 488)),some (some (.ref 495)),some (some (.ref 502)),some (some (.ref 509)),some (some (.ref 516)),some (some (.ref 523))],true):=by kernel_rfl
theorem om:LK 526 "__setattr__" (some (some (.builtin "object.__setattr__"))):=fU (bx w) 0 rfl rfl
theorem sI:LK 526 "__init__" (some (some (.ref 467))):=fU (bx w) 1 rfl rfl
theorem cJ:LK 526 "subject" (some none):=fU (bx w) 2 rfl rfl
theorem dQ:LK 526 "host" (some none):=fU (bx w) 3 rfl rfl
theorem cI:LK 526 "history" (some none):=fU (bx w) 4 rfl rfl
theorem ui:LK 526 "run" (some (some (.ref 474))):=fU (bx w) 5 rfl rfl
theorem mV:LK 526 "way_back" (some (some (.ref 481))):=fU (bx w) 6 rfl rfl
theorem sH:LK 526 "done" (some (some (.ref 488))):=fU (bx w) 7 rfl rfl
theorem mU:LK 526 "met_once" (some (some (.ref 495))):=fU (bx w) 8 rfl rfl
theorem qM:LK 526 "ended" (some (some (.ref 502))):=fU (bx w) 9 rfl rfl
theorem qN:LK 526 "other" (some (some (.ref 509))):=fU (bx w) 10 rfl rfl
theorem lB:LK 526 "met_often" (some (some (.ref 516))):=fU (bx w) 11 rfl rfl
theorem qL:LK 526 "asked" (some (some (.ref 523))):=fU (bx w) 12 rfl rfl
theorem bZ:CK 526:=HM (bx w) om
theorem sL:FK 467:=oP (bx w) (by decide)
theorem nN:FK 474:=oP (bx w) (by decide)
theorem il:FK 481:=oP (bx w) (by decide)
theorem lH:FK 488:=oP (bx w) (by decide)
theorem ik:FK 495:=oP (bx w) (by decide)
theorem km:FK 502:=oP (bx w) (by decide)
theorem kn:FK 509:=oP (bx w) (by decide)
theorem gR:FK 516:=oP (bx w) (by decide)
theorem kj:FK 523:=oP (bx w) (by decide)
theorem bp(w:World):((plainGet (KO w) 582 "x" && hasDictIn (KO w) 582&&plainOver (KO w) 582&&makesIn (KO w) 582&&keepIn (KO w) (.ref 582)&&gU (KO w) (.type "str") 582),(["__setattr__","__init__","values","limit","refused","width","steps","log","value_of","assign","step"]:List Str).map (λx=>findIn (KO w) (.ref 582) x),([558,565,572,579]:List Nat).all (λa=>isFn (KO w) (.ref a)&&keepIn (KO w) (.ref a)))=(true,[some (some (.builtin "object.__setattr__")),some (some (.ref 558)),some none,some none,some none,some none,some none,some none,some (some (.ref 565)),some (some (.ref 572)),some (some (.ref 579))],true):=by kernel_rfl
theorem j9:LK 582 "__setattr__" (some (some (.builtin "object.__setattr__"))):=fU (bp w) 0 rfl rfl
theorem mW:LK 582 "__init__" (some (some (.ref 558))):=fU (bp w) 1 rfl rfl
theorem eJ:LK 582 "values" (some none):=fU (bp w) 2 rfl rfl
theorem gP:LK 582 "limit" (some none):=fU (bp w) 3 rfl rfl
theorem fX:LK 582 "refused" (some none):=fU (bp w) 4 rfl rfl
theorem gQ:LK 582 "width" (some none):=fU (bp w) 5 rfl rfl
theorem cf:LK 582 "steps" (some none):=fU (bp w) 6 rfl rfl
theorem dz:LK 582 "log" (some none):=fU (bp w) 7 rfl rfl
theorem dI:LK 582 "value_of" (some (some (.ref 565))):=fU (bp w) 8 rfl rfl
theorem dq:LK 582 "assign" (some (some (.ref 572))):=fU (bp w) 9 rfl rfl
theorem ij:LK 582 "step" (some (some (.ref 579))):=fU (bp w) 10 rfl rfl
theorem bt:CK 582:=HM (bp w) j9
theorem mX:FK 558:=oP (bp w) (by decide)
theorem bX:FK 565:=oP (bp w) (by decide)
theorem bK:FK 572:=oP (bp w) (by decide)
theorem dR:FK 579:=oP (bp w) (by decide)
noncomputable def sX:List Str:=[("ONE":Str),("WAYS":Str),("SPLIT":Str),("JUMP":Str),("MARK":Str),("NAME":Str),("SET":Str),("GAIN":Str),("PLACE":Str),("ASK":Str),("FENCE":Str),("FAIL":Str),("ABORT":Str),("SUCCEED":Str),("DONE":Str),("PUT":Str),("EMIT":Str),("OPEN":Str),("SHUT":Str),("MEET":Str),("SINGLE":Str),("ALONE":Str),("row_of":Str),("is_plain_text":Str),("with_texts_joined":Str),("PatternCode":Str),("straightened":Str),("compile_pattern":Str),("SnobolError":Str),("Failure":Str),("Pattern":Str),("Delayed":Str),("NameRef":Str),("is_fail":Str),("fits":Str),("whole_of_text":Str),("text_of_whole":Str),("to_whole":Str),("to_text":Str),("need_text":Str),("COUNTED":Str),("SIGNED":Str),("WIDTH_OF_COUNT":Str),("plain_count":Str),("plain_signs":Str),("pattern_of":Str),("is_delayed":Str),("settled":Str),("OPENING":Str),("CLOSING":Str),("chars_end":Str),("len_end":Str),("pos_end":Str),("rpos_end":Str),("tab_end":Str),("rtab_end":Str),("rem_end":Str),("any_at":Str),("notany_at":Str),("run_end":Str),("span_end":Str),("break_end":Str),("arb_ends":Str),("bal_end":Str),("bal_ends":Str),("one_end":Str),("plain_end":Str),("ends_of":Str),("MET":Str),("FAILED":Str),("OVER":Str),("Way":Str),("Match":Str),("named_rows":Str),("match_orders":Str),("PlainHost":Str),("LOST":Str),("match_plain":Str),("match_at":Str),("tried":Str),("advanced":Str),("led_in":Str),("led_out":Str),("steered":Str),("taken":Str),("_law_dipped":Str),("_law_grown":Str),("_law_gone":Str),("law":Str),("len":Str),("abs":Str),("int":Str),("range":Str),("isinstance":Str),("chr":Str),("ord":Str),("list":Str),("str":Str),("tuple":Str),("super":Str),("dict":Str)]
theorem Lp(w:World):sX.map (λx=>nsIn (KO w) mainGlobals x)=[some (some (.str "one" 189)),some (some (.str "ways" 191)),some (some (.str "split" 193)),some (some (.str "jump" 195)),some (some (.str "mark" 197)),some (some (.str "name" 199)),some (some (.str "set" 201)),some (some (.str "gain" 203)),some (some (.str "place" 205)),some (some (.str "ask" 207)),some (some (.str "fence" 209)),some (some (.str "fail" 211)),some (some (.str "abort" 213)),some (some (.str "succeed" 215)),some (some (.str "done" 217)),some (some (.str "put" 219)),some (some (.str "emit" 221)),some (some (.str "open" 223)),some (some (.str "shut" 225)),some (some (.str "meet" 227)),some (some (.ref 15)),some (some (.ref 16)),some (some (.ref 23)),some (some (.ref 30)),some (some (.ref 37)),some (some (.ref 94)),some (some (.ref 105)),some (some (.ref 112)),some (some (.ref 132)),some (some (.ref 145)),some (some (.ref 166)),some (some (.ref 187)),some (some (.ref 208)),some (some (.ref 219)),some (some (.ref 226)),some (some (.ref 233)),some (some (.ref 240)),some (some (.ref 247)),some (some (.ref 254)),some (some (.ref 261)),some (some (.ref 262)),some (some (.ref 263)),some (some (.int 64 593)),some (some (.ref 271)),some (some (.ref 278)),some (some (.ref 285)),some (some (.ref 292)),some (some (.ref 299)),some (some (.str "(" 640)),some (some (.str ")" 642)),some (some (.ref 306)),some (some (.ref 313)),some (some (.ref 320)),some (some (.ref 327)),some (some (.ref 334)),some (some (.ref 341)),some (some (.ref 348)),some (some (.ref 355)),some (some (.ref 362)),some (some (.ref 369)),some (some (.ref 376)),some (some (.ref 383)),some (some (.ref 390)),some (some (.ref 397)),some (some (.ref 404)),some (some (.ref 411)),some (some (.ref 418)),some (some (.ref 425)),some (some (.int 0 813)),some (some (.int 1 815)),some (some (.int 2 817)),some (some (.ref 449)),some (some (.ref 526)),some (some (.ref 537)),some (some (.ref 544)),some (some (.ref 582)),some (some (.str "lost" 1067)),some (some (.ref 593)),some (some (.ref 600)),some (some (.ref 607)),some (some (.ref 614)),some (some (.ref 621)),some (some (.ref 628)),some (some (.ref 635)),some (some (.ref 642)),some (some (.ref 649)),some (some (.ref 656)),some (some (.ref 661)),some (some (.ref 666)),some none,some none,some none,some none,some none,some none,some none,some none,some none,some none,some none,some none]:=by kernel_rfl
noncomputable def pP:List (Str×Option (Option Value)):=[(("ONE":Str),some (some (.str ("one":Str) 189))),(("WAYS":Str),some (some (.str ("ways":Str) 191))),(("SPLIT":Str),some (some (.str ("split":Str) 193))),(("JUMP":Str),some (some (.str ("jump":Str) 195))),(("MARK":Str),some (some (.str ("mark":Str) 197))),(("NAME":Str),some (some (.str ("name":Str) 199))),(("SET":Str),some (some (.str ("set":Str) 201))),(("GAIN":Str),some (some (.str ("gain":Str) 203))),(("PLACE":Str),some (some (.str ("place":Str) 205))),(("ASK":Str),some (some (.str ("ask":Str) 207))),(("FENCE":Str),some (some (.str ("fence":Str) 209))),(("FAIL":Str),some (some (.str ("fail":Str) 211))),(("ABORT":Str),some (some (.str ("abort":Str) 213))),(("SUCCEED":Str),some (some (.str ("succeed":Str) 215))),(("DONE":Str),some (some (.str ("done":Str) 217))),(("PUT":Str),some (some (.str ("put":Str) 219))),(("EMIT":Str),some (some (.str ("emit":Str) 221))),(("OPEN":Str),some (some (.str ("open":Str) 223))),(("SHUT":Str),some (some (.str ("shut":Str) 225))),(("MEET":Str),some (some (.str ("meet":Str) 227))),(("SINGLE":Str),some (some (.ref 15))),(("ALONE":Str),some (some (.ref 16))),(("row_of":Str),some (some (.ref 23))),(("is_plain_text":Str),some (some (.ref 30))),(("with_texts_joined":Str),some (some (.ref 37))),(("PatternCode":Str),some (some (.ref 94))),(("straightened":Str),some (some (.ref 105))),(("compile_pattern":Str),some (some (.ref 112))),(("SnobolError":Str),some (some (.ref 132))),(("Failure":Str),some (some (.ref 145))),(("Pattern":Str),some (some (.ref 166))),(("Delayed":Str),some (some (.ref 187))),(("NameRef":Str),some (some (.ref 208))),(("is_fail":Str),some (some (.ref 219))),(("fits":Str),some (some (.ref 226))),(("whole_of_text":Str),some (some (.ref 233))),(("text_of_whole":Str),some (some (.ref 240))),(("to_whole":Str),some (some (.ref 247))),(("to_text":Str),some (some (.ref 254))),(("need_text":Str),some (some (.ref 261))),(("COUNTED":Str),some (some (.ref 262))),(("SIGNED":Str),some (some (.ref 263))),(("WIDTH_OF_COUNT":Str),some (some (.int 64 593))),(("plain_count":Str),some (some (.ref 271))),(("plain_signs":Str),some (some (.ref 278))),(("pattern_of":Str),some (some (.ref 285))),(("is_delayed":Str),some (some (.ref 292))),(("settled":Str),some (some (.ref 299))),(("OPENING":Str),some (some (.str ("(":Str) 640))),(("CLOSING":Str),some (some (.str (")":Str) 642))),(("chars_end":Str),some (some (.ref 306))),(("len_end":Str),some (some (.ref 313))),(("pos_end":Str),some (some (.ref 320))),(("rpos_end":Str),some (some (.ref 327))),(("tab_end":Str),some (some (.ref 334))),(("rtab_end":Str),some (some (.ref 341))),(("rem_end":Str),some (some (.ref 348))),(("any_at":Str),some (some (.ref 355))),(("notany_at":Str),some (some (.ref 362))),(("run_end":Str),some (some (.ref 369))),(("span_end":Str),some (some (.ref 376))),(("break_end":Str),some (some (.ref 383))),(("arb_ends":Str),some (some (.ref 390))),(("bal_end":Str),some (some (.ref 397))),(("bal_ends":Str),some (some (.ref 404))),(("one_end":Str),some (some (.ref 411))),(("plain_end":Str),some (some (.ref 418))),(("ends_of":Str),some (some (.ref 425))),(("MET":Str),some (some (.int 0 813))),(("FAILED":Str),some (some (.int 1 815))),(("OVER":Str),some (some (.int 2 817))),(("Way":Str),some (some (.ref 449))),(("Match":Str),some (some (.ref 526))),(("named_rows":Str),some (some (.ref 537))),(("match_orders":Str),some (some (.ref 544))),(("PlainHost":Str),some (some (.ref 582))),(("LOST":Str),some (some (.str ("lost":Str) 1067))),(("match_plain":Str),some (some (.ref 593))),(("match_at":Str),some (some (.ref 600))),(("tried":Str),some (some (.ref 607))),(("advanced":Str),some (some (.ref 614))),(("led_in":Str),some (some (.ref 621))),(("led_out":Str),some (some (.ref 628))),(("steered":Str),some (some (.ref 635))),(("taken":Str),some (some (.ref 642))),(("_law_dipped":Str),some (some (.ref 649))),(("_law_grown":Str),some (some (.ref 656))),(("_law_gone":Str),some (some (.ref 661))),(("law":Str),some (some (.ref 666))),(("len":Str),some none),(("abs":Str),some none),(("int":Str),some none),(("range":Str),some none),(("isinstance":Str),some none),(("chr":Str),some none),(("ord":Str),some none),(("list":Str),some none),(("str":Str),some none),(("tuple":Str),some none),(("super":Str),some none),(("dict":Str),some none)]
theorem pQ{x:Str}{r:Option (Option Value)}(h:pP.lookup x=some r):nsIn c.K mainGlobals x=r:=by
 have e:pP=sX.zip (sX.map λx=>nsIn (KO w) mainGlobals x):=by rw[Lp];rfl
 rw[e]at h;rw[hK];revert h;generalize sX=l;intro h
 induction l with
 | nil=>cases h
 | cons y l ih=>
  rw[List.map_cons,List.zip_cons_cons,List.lookup_cons]at h;by_cases q:(x==y)=true
  ·rw[q]at h;cases h;rw[beq_iff_eq.mp q]
  ·rw[Bool.not_eq_true]at q;rw[q]at h;exact ih h
noncomputable def H9:List Nat:=[23,30,37,105,112,219,226,233,240,247,254,261,271,278,285,292,299,306,313,320,327,334,341,348,355,362,369,376,383,390,397,404,411,418,425,537,544,593,600,607,614,621,628,635,642,649,656,661,666]
theorem H8(w:World):H9.all (λa=>keepIn (KO w) (.ref a))=true:=by kernel_rfl
theorem DZ{a:Nat}(h:H9.contains a=true):Keeps (.ref a):=jX (by rw[hK];exact List.all_eq_true.mp (H8 w) a (List.contains_iff_mem.mp h))
end
section
noncomputable def toks(l:List (Str×Nat)):List Value:=l.map λx=>.str x.1 x.2
theorem vF{h:Heap}:∀l:List (Str×Nat),aE h (toks l) ((l.map (·.1)).map V.str)
 | []=>.nil
 | x::l=>.cons (.str _ _) (vF l)
noncomputable def Ar(l:List (Str×Nat)):Obj:={ cls:=.type "tuple",dict:=none,data:=.seq ⟨toks l⟩ 0,slots:= #[] }
theorem gY{a:Nat}{l:List (Str×Nat)}(ha:addrs.contains a=true)(e:bq w a=Ar l)(ok:Kq):ay c.h0 (.ref a) (.tup ((l.map (·.1)).map V.str)):=by
 have:c.K.lookup a=some (Ar l):=by rw[hK,iG w a ha,e]
 exact .tup (n:=0) (ok.oO a _ this) (vF l)
noncomputable def C8:List (Str×Nat):=[("len",582),("pos",583),("rpos",584),("tab",585),("rtab",586)]
noncomputable def FZ:List (Str×Nat):=[("any",588),("notany",589),("span",590),("break",591)]
noncomputable def za:List (Str×Nat):=[("chars",229),("len",230),("pos",231),("rpos",232),("tab",233),("rtab",234),("any",235),("notany",236),("span",237),("break",238),("rem",239)]
noncomputable def Js:List (Str×Nat):=[("fence",241),("fail",242),("abort",243),("succeed",244)]
theorem I2(w:World):bq w 262=Ar C8:=by kernel_rfl
theorem Rx(w:World):bq w 263=Ar FZ:=by kernel_rfl
theorem XE(w:World):bq w 15=Ar za:=by kernel_rfl
theorem Rw(w:World):bq w 16=Ar Js:=by kernel_rfl
end
section
section
variable{n:NX}{env:Env}{ρ:Loc}{σ:AH}{Q:V->Loc->AH->Prop}
theorem aF{x:Str}{a:Nat}{p pos:Pos}{args:List Expr}(h:rt n env args ρ σ (t8 n env (.ref a) Q))(hk:autoParam (env.kindOf x=some .globalImplicit) cB)(ht:autoParam (pP.lookup x=some (some (some (.ref a)))) cB)(ha:autoParam (H9.contains a=true) cB)
  (hd:autoParam ((x==("__debug__":Str))=false) cB) (hp:autoParam (args.all fA=true) cB):
  Ex n env (.Call (.Name x p) args [] pos) ρ σ Q:=oH (gk hk (pQ ht) (λ_=>.glob _) ⟨_,rfl,DZ ha,h⟩ hd) rfl hp
theorem bh{x:Str}{i:String}{p pos:Pos}{args:List Expr}(h:rt n env args ρ σ (t8 n env (.builtin i) Q))(hk:autoParam (env.kindOf x=some .globalImplicit) cB)(ht:autoParam (pP.lookup x=some (some none)) cB)(hb:autoParam (bootBuiltins x=some (.builtin i)) cB)(hn:autoParam (x≠"__name__") N5)
  (hd:autoParam ((x==("__debug__":Str))=false) cB) (hp:autoParam (args.all fA=true) cB):
  Ex n env (.Call (.Name x p) args [] pos) ρ σ Q:=oH (kM hk (pQ ht) hb hn ⟨_,rfl,az,h⟩ hd) rfl hp
theorem jy{x:Str}{i:String}{p pos:Pos}{args:List Expr}(h:rt n env args ρ σ (t8 n env (.type i) Q))(hk:autoParam (env.kindOf x=some .globalImplicit) cB)(ht:autoParam (pP.lookup x=some (some none)) cB)(hb:autoParam (bootBuiltins x=some (.type i)) cB)(hn:autoParam (x≠"__name__") N5)
  (hd:autoParam ((x==("__debug__":Str))=false) cB) (hp:autoParam (args.all fA=true) cB):
  Ex n env (.Call (.Name x p) args [] pos) ρ σ Q:=oH (kM hk (pQ ht) hb hn ⟨_,rfl,xf,h⟩ hd) rfl hp
theorem jH{x:Str}{u:Value}{v:V}{pos:Pos}(r:Kq->ay c.h0 u v)(q:Q v ρ σ)(hk:autoParam (env.kindOf x=some .globalImplicit) cB)(ht:autoParam (pP.lookup x=some (some (some u))) cB)(hd:autoParam ((x==("__debug__":Str))=false) cB):Ex n env (.Name x pos) ρ σ Q:=gk hk (pQ ht) r q hd
theorem aq{x y:Str}{t:Tok}{pos:Pos}(ht:pP.lookup x=some (some (some (.str y t))))(q:Q (.str y) ρ σ)(hk:autoParam (env.kindOf x=some .globalImplicit) cB)(hd:autoParam ((x==("__debug__":Str))=false) cB):Ex n env (.Name x pos) ρ σ Q:=gk hk (pQ ht) (λ_=>.str y t) q hd
theorem iV{x:Str}{y:Int}{t:Tok}{pos:Pos}(ht:pP.lookup x=some (some (some (.int y t))))(q:Q (.int y) ρ σ)(hk:autoParam (env.kindOf x=some .globalImplicit) cB)(hd:autoParam ((x==("__debug__":Str))=false) cB):Ex n env (.Name x pos) ρ σ Q:=gk hk (pQ ht) (λ_=>.int y t) q hd
theorem iW{x:Str}{i:String}{pos:Pos}(ht:pP.lookup x=some (some none))(hb:bootBuiltins x=some (.type i))(q:Q (.glob (.type i)) ρ σ)(hk:autoParam (env.kindOf x=some .globalImplicit) cB)(hn:autoParam (x≠"__name__") N5)(hd:autoParam ((x==("__debug__":Str))=false) cB):Ex n env (.Name x pos) ρ σ Q:=kM hk (pQ ht) hb hn q hd
theorem th{x:Str}{u:Value}{pos:Pos}(ht:pP.lookup x=some (some (some u)))(q:Q (.glob u) ρ σ)(hk:autoParam (env.kindOf x=some .globalImplicit) cB)(hd:autoParam ((x==("__debug__":Str))=false) cB):Ex n env (.Name x pos) ρ σ Q:=gk hk (pQ ht) (λ_=>.glob u) q hd
abbrev Pp(Q:List V->Loc->AH->Prop):V->Loc->AH->Prop:=λv ρ σ=>Q [v] ρ σ
theorem cO{e:Expr}{Q:List V->Loc->AH->Prop}(h:Ex n env e ρ σ (Pp Q))(he:autoParam (fA e=true) cB):rt n env [e] ρ σ Q:=cj (h.mono λ_ _ _ q=>yz q) he
end
theorem Li{n:NX}{env:Env}{ρ:Loc}{σ:AH}{Q:Option Int->Loc->AH->Prop}(q:Q none ρ σ):JG n env none ρ σ Q:=q
abbrev Pg(Q:Option Int->Loc->AH->Prop):V->Loc->AH->Prop:=λv ρ σ=>∃i,v=.int i/\Q (some i) ρ σ
theorem Lj{n:NX}{env:Env}{ρ:Loc}{σ:AH}{Q:Option Int->Loc->AH->Prop}{e:Expr}(h:Ex n env e ρ σ (Pg Q)):JG n env (some e) ρ σ Q:=Tr.mono h λv bJ aI ⟨i,e,q⟩=>by subst e;exact q
theorem DX{Q:Int->Prop}{i:Int}(q:Q i):∃j,V.int i=.int j/\Q j:=⟨i,rfl,q⟩
theorem and_nil{n:NX}{env:Env}{ρ:Loc}{σ:AH}{Q:Bool->Loc->AH->Prop}(q:Q true ρ σ):qH n env .And [] ρ σ Q:=uk q
theorem or_nil{n:NX}{env:Env}{ρ:Loc}{σ:AH}{Q:Bool->Loc->AH->Prop}(q:Q false ρ σ):qH n env .Or [] ρ σ Q:=uk q
abbrev Hr(n:NX)(env:Env)(es:List Expr)(Q:Bool->Loc->AH->Prop):Bool->Loc->AH->Prop:=λy ρ σ=>if y=true then qH n env .And es ρ σ Q else Q false ρ σ
abbrev Pq(n:NX)(env:Env)(es:List Expr)(Q:Bool->Loc->AH->Prop):Bool->Loc->AH->Prop:=λy ρ σ=>if y=true then Q true ρ σ else qH n env .Or es ρ σ Q
theorem and_cons{n:NX}{env:Env}{ρ:Loc}{σ:AH}{e:Expr}{es:List Expr}{Q:Bool->Loc->AH->Prop}(h:Test n env e ρ σ (Hr n env es Q)):qH n env .And (e::es) ρ σ Q:=
 rC (Tr.mono h λy bJ aI q=>by cases y<;>simpa[Hr,Pq,AllK] using q)
theorem or_cons{n:NX}{env:Env}{ρ:Loc}{σ:AH}{e:Expr}{es:List Expr}{Q:Bool->Loc->AH->Prop}(h:Test n env e ρ σ (Pq n env es Q)):qH n env .Or (e::es) ρ σ Q:=
 rC (Tr.mono h λy bJ aI q=>by cases y<;>simpa[Hr,Pq,AllK] using q)
theorem U7{P Q:Prop}(h:P):if true=true then P else Q:=h
theorem U6{P Q:Prop}(h:Q):if false=true then P else Q:=h
theorem ite_tt{b:Bool}{P Q:Prop}(e:b=true)(h:P):if b=true then P else Q:=by rw[if_pos e];exact h
theorem ite_ff{b:Bool}{P Q:Prop}(e:b=false)(h:Q):if b=true then P else Q:=by rw[if_neg (by rw[e];decide)];exact h
theorem Q3{p:Prop}[d:Decidable p]{P Q:Prop}(h1:p->P)(h2:¬p->Q):if p then P else Q:=match d with
 | .isTrue h=>h1 h
 | .isFalse h=>h2 h
theorem Tv{n:NX}{env:Env}{ρ:Loc}{σ:AH}{Q:V->Loc->AH->Prop}{value slice:Expr}{v:V}{l:List V}(q:Q v ρ σ)(hs:fm slice):zq n env value slice (.tup (v::l)) (.int 0) ρ σ Q:=tA (j:=0) rfl rfl (by decide) q hs
theorem Tw{n:NX}{env:Env}{ρ:Loc}{σ:AH}{Q:V->Loc->AH->Prop}{value slice:Expr}{u v:V}{l:List V}(q:Q v ρ σ)(hs:fm slice):zq n env value slice (.tup (u::v::l)) (.int 1) ρ σ Q:=tA (j:=1) rfl rfl (by decide) q hs
theorem Tx{n:NX}{env:Env}{ρ:Loc}{σ:AH}{Q:V->Loc->AH->Prop}{value slice:Expr}{u v x:V}{l:List V}(q:Q x ρ σ)(hs:fm slice):zq n env value slice (.tup (u::v::x::l)) (.int 2) ρ σ Q:=tA (j:=2) rfl rfl (by decide) q hs
theorem Ll{l:List V}{P:Prop}(hl:Nat.ble l.length 1000=true)(h:P):l.length<=1000/\P:=⟨Nat.le_of_ble_eq_true hl,h⟩
theorem Lc{n:NX}{env:Env}{ρ:Loc}{σ:AH}{Q:Loc->AH->Prop}(q:Q ρ σ):wi n env [] [] ρ σ Q:=q
abbrev Kh(n:NX)(env:Env)(ts:List Expr)(vs:List V)(Q:Loc->AH->Prop):Loc->AH->Prop:=λρ σ=>wi n env ts vs ρ σ Q
theorem JN{n:NX}{env:Env}{ρ:Loc}{σ:AH}{Q:Loc->AH->Prop}{t:Expr}{ts:List Expr}{v:V}{vs:List V}(h:yc n env t v ρ σ (Kh n env ts vs Q)):wi n env (t::ts) (v::vs) ρ σ Q:=h
theorem sQ(l:List Str)(b:Str):l.any (· ==b)=l.contains b:=by
 induction l with
 | nil=>rfl
 | cons x l ih=>
  rw[List.any_cons,List.contains_cons,ih];have e:(x==b)=(b==x):=by rw[Bool.eq_iff_iff];simp only[beq_iff_eq];exact eq_comm
  rw[e]
theorem hV{n:NX}{env:Env}{ρ:Loc}{σ:AH}{Q:V->Loc->AH->Prop}{b:Str}{l:List Str}(q:Q (.bool (!l.contains b)) ρ σ):iI n env (compareOp .NotIn) (.str b) (.tup (l.map V.str)) ρ σ Q:=λu v A s hA S F r=>by
 obtain⟨t,rfl⟩:=ay.str_inv r.1;obtain⟨a,vs,m,rfl,ht,hs⟩:=ay.cR r.2;refine notin_tuple_strs ⟨_,ht,rfl,_,rfl⟩ hs.strs ?_;rw[sQ];exact aR.bP (tk:=s.toks) S F (.bool _) q
theorem ID(l:List V):(V.tup l).isNone=false:=rfl
theorem IC(x:Str):(V.str x).isNone=false:=rfl
theorem IB(i:Int):(V.int i).isNone=false:=rfl
theorem GY(C d:Addr):(V.inst C d).isNone=false:=rfl
abbrev at_(ρ:Loc)(x:Str):Option V:=List.lookup x ρ
theorem nr{x y:Str}{v:V}{r:Option V}{ρ:Loc}(h:(x==y)=false)(e:List.lookup x ρ=r):List.lookup x ((y,v)::ρ)=r:=by rw[List.lookup_cons,h];exact e
theorem z7{x:Str}{v:V}{ρ:Loc}:List.lookup x ((x,v)::ρ)=some v:=by rw[List.lookup_cons];simp
noncomputable def okN(x:Str):Bool:= !(x==("__debug__":Str)) && !(x==("__classdict__":Str))
theorem MG{x:Str}(h:okN x=true):(x==("__debug__":Str))=false:=by unfold okN at h;rw[Bool.and_eq_true,Bool.not_eq_true',Bool.not_eq_true']at h;exact h.1
theorem MH{x:Str}(h:okN x=true):(x==("__classdict__":Str))=false:=by unfold okN at h;rw[Bool.and_eq_true,Bool.not_eq_true',Bool.not_eq_true']at h;exact h.2
noncomputable def CG(e:Expr):Bool:= !(Nat.beq e.ctorIdx 8||Nat.beq e.ctorIdx 9||Nat.beq e.ctorIdx 10)
theorem Ab{value:Expr}(h:CG value=true)(t:Expr)(l:Nat)(env:Env):swapsWithSole [t] value l env=pure false:=by cases value<;>first | rfl | cases h
section
variable{n:NX}{env:Env}{ρ:Loc}{σ:AH}
theorem yy{x:Str}{pos:Pos}{v:V}{Q:V->Loc->AH->Prop}(e:ρ.lookup x=some v)(q:Q v ρ σ)(h:okN x=true):Ex n env (.Name x pos) ρ σ Q:=DY e q (MG h) (MH h)
theorem HZ{x:Str}{pos:Pos}{v:V}{es:List Expr}{Q:List V->Loc->AH->Prop}(e:ρ.lookup x=some v)(q:rt n env es ρ σ (A8 v Q))(h:okN x=true):rt n env (.Name x pos::es) ρ σ Q:=cj (yy e q h) rfl
theorem Qd{x:Str}{pos:Pos}{v:V}{Q:List V->Loc->AH->Prop}(e:ρ.lookup x=some v)(q:Q [v] ρ σ)(h:okN x=true):rt n env [.Name x pos] ρ σ Q:=HZ e (yz q) h
theorem Oa{i k pos}{es:List Expr}{Q:List V->Loc->AH->Prop}(q:rt n env es ρ σ (A8 (.str i) Q)):rt n env (.Constant (.str i) k pos::es) ρ σ Q:=cj (BE q) rfl
theorem Ta{x:Str}{p pos:Pos}{v:V}{ss:List Stmt}{Q:Fl->Loc->AH->Prop}(e:ρ.lookup x=some v)(q:Q (.ret v) ρ σ)(h:okN x=true):b8 n env (.Return (some (.Name x p)) pos::ss) ρ σ Q:=au (C5 (yy e q h))
theorem Tu{e:Expr}{pos:Pos}{ss:List Stmt}{Q:Fl->Loc->AH->Prop}(h:Ex n env e ρ σ (KP Q)):b8 n env (.Return (some e) pos::ss) ρ σ Q:=au (C5 h)
theorem Hi{t:Expr}{b o:List Stmt}{pos:Pos}{ss:List Stmt}{Q:Fl->Loc->AH->Prop}(h:Test n env t ρ σ (TO n env b o (yh n env ss Q))):b8 n env (.If t b o pos::ss) ρ σ Q:=au (Ni h)
theorem zb{x a i:Str}{p1 p2 pos:Pos}{k}{Q:Bool->Loc->AH->Prop}(e:ρ.lookup x=some (.str a))(q:Q (a==i) ρ σ)(h:okN x=true):Test n env (.Compare (.Name x p1) [.Eq] [.Constant (.str i) k p2] pos) ρ σ Q:=C9 (yy e (BE (wK (my q))) h) (by with_unfolding_all rfl)
theorem U0{x a i:Str}{p1 p2 p3 pos:Pos}{k}{b ss:List Stmt}{Q:Fl->Loc->AH->Prop}(e:ρ.lookup x=some (.str a))(f:(a==i)=false)(q:b8 n env ss ρ σ Q)(h:okN x=true):b8 n env (.If (.Compare (.Name x p1) [.Eq] [.Constant (.str i) k p2] p3) b [] pos::ss) ρ σ Q:=Hi (zb e (ite_ff f (Jq q)) h)
theorem U1{x a i:Str}{p1 p2 p3 pos:Pos}{k}{b o ss:List Stmt}{Q:Fl->Loc->AH->Prop}(e:ρ.lookup x=some (.str a))(f:(a==i)=true)(q:b8 n env b ρ σ (yh n env ss Q))(h:okN x=true):b8 n env (.If (.Compare (.Name x p1) [.Eq] [.Constant (.str i) k p2] p3) b o pos::ss) ρ σ Q:=Hi (zb e (ite_tt f q) h)
theorem Uk{x attr:Str}{p pos:Pos}{v:V}{Q:V->Loc->AH->Prop}(e:ρ.lookup x=some v)(q:KN n env (λo=>getAttr o attr true) v ρ σ Q)(h:okN x=true):Ex n env (.Attribute (.Name x p) attr pos) ρ σ Q:=DV (yy e q h) (by with_unfolding_all rfl)
set_option tactic.hygienic true in
abbrev ze(n:NX)(env:Env)(x:Str)(Q:Fl->Loc->AH->Prop):V->Loc->AH->Prop:=λv ρ σ=>Q .next ((x,v)::ρ) σ
theorem aA{x:Str}{p pos:Pos}{value:Expr}{Q:Fl->Loc->AH->Prop}(h:Ex n env value ρ σ (ze n env x Q))(hx:env.kindOf x=some .local)(hv:CG value=true):oq n env (.Assign [.Name x p] value pos) ρ σ Q:=ag (h.mono λv bJ aI q=>ft hx q) (Ab hv _ _ _) rfl rfl
end
end
def N7(l t:String):String:=String.join ((l.splitOn " ").map λn=>t.replace "@" n)
def V4:List (String×Lean.Syntax):=[("a",ds [] "'first '| 'assumption A1~ E2 '| 'exact $z7 F2~ E2 '| 'rfl G1~ E2 '| '( 'refine' $nr $rfl! B2 I2 J2 '; 'wtm_at '\"a\" K1 L2 B3 C1 D1 ') M3~ E2 B4 N2"),("b",ds [] "'( '( 'conv B0 B0 '=> 'lhs O1 '; 'whnf P1 B3 Q1 R1 S5~ ') M3 '; '( 'first '| 'done T1~ E2 '| 'rfl G1~ E2 B2 N2~ ') M3 B3 C1 D1 ') M3"),("c",ds [] "'( 'rotate_left B0 U2 '; '( 'focus 'wtm_at '\"a\" K1 L2~ V2~ ') M3 '; 'rotate_left B0 U2 '; '( 'focus 'rfl G1~ V2~ ') M3 B7 C1 D1 ') M3"),("d",ds [] "'( 'rotate_left B0 U2 '; '( 'focus 'wtm_at '\"a\" K1 L2~ V2~ ') M3 '; '( 'focus 'rfl G1~ V2~ ') M3 '; 'rotate_left B0 U2 '; '( 'focus 'rfl G1~ V2~ ') M3 B9 C1 D1 ') M3"),("e",ds [] "'( 'rotate_left B0 U2 '; '( 'focus '( 'intro $o $i B2 W2 '; 'with_unfolding_all 'rfl G1~ X2 B3 C1 D1 ') M3~ V2~ ') M3 B3 C1 D1 ') M3"),("h",ds [] "'try '( 'refine $ite_tt!! B2 I2 Z2 '; '( 'focus 'rfl G1~ V2~ ') M3 B3 C1 D1 ') M3~ `2"),("i",ds [] "'try '( 'refine $ite_ff!! B2 I2 Z2 '; '( 'focus 'rfl G1~ V2~ ') M3 B3 C1 D1 ') M3~ `2"),("j",ds [] "'( 'refine' $Q3!! B2 I2 J2 '<;> 'intro '_ ]1 B1 W2 _3~ ') M3"),("l",ds [] "'focus '( 'first '| '( '( 'with_reducible 'refine' $U0!!!! B4 I2 J2~ Y2~ ') M3 '; 'wtm_at '\"d\" K1 L2 B3 C1 D1 ') M3~ E2 '| '( '( 'with_reducible 'refine' $U1!!!! B4 I2 J2~ Y2~ ') M3 '; 'wtm_at '\"d\" K1 L2 B3 C1 D1 ') M3~ E2 '| '( '( 'with_reducible 'refine' $zb!!! B3 I2 J2~ Y2~ ') M3 '; 'wtm_at '\"c\" K1 L2 B3 C1 D1 ') M3~ E2 '| '( '( 'with_reducible 'refine' $Ta!!! B3 I2 J2~ Y2~ ') M3 '; 'wtm_at '\"c\" K1 L2 B3 C1 D1 ') M3~ E2 '| '( '( 'with_reducible 'refine' $Qd!!! B3 I2 J2~ Y2~ ') M3 '; 'wtm_at '\"c\" K1 L2 B3 C1 D1 ') M3~ E2 '| '( '( 'with_reducible 'refine' $HZ!!! B3 I2 J2~ Y2~ ') M3 '; 'wtm_at '\"c\" K1 L2 B3 C1 D1 ') M3~ E2 '| '( '( 'with_reducible 'refine' $Uk!!! B3 I2 J2~ Y2~ ') M3 '; 'wtm_at '\"c\" K1 L2 B3 C1 D1 ') M3~ E2 '| 'wtm_at '\"k\" K1 L2~ E2 '| '( '( 'with_reducible 'refine' $yy!!! B3 I2 J2~ Y2~ ') M3 '; 'wtm_at '\"c\" K1 L2 B3 C1 D1 ') M3~ E2 '| '( '( 'with_reducible 'refine' $Hl!!! B3 I2 J2~ Y2~ ') M3 '; 'wtm_at '\"c\" K1 L2 B3 C1 D1 ') M3~ E2 '| '( '( 'with_reducible 'refine $ite_ff!! B2 I2 Z2~ Y2~ ') M3 '; '( 'focus 'first '| 'rfl G1~ E2 '| 'decide B0 [1 \\2~ E2 '| 'with_reducible 'exact $ID '_ ]1 B1 I2 F2~ Y2~ E2 '| 'with_reducible 'exact $IC '_ ]1 B1 I2 F2~ Y2~ E2 '| 'with_reducible 'exact $IB '_ ]1 B1 I2 F2~ Y2~ E2 '| 'with_reducible 'exact $GY '_ ]1 '_ ]1 B2 I2 F2~ Y2~ E2 B6 N2~ V2~ ') M3 B3 C1 D1 ') M3~ E2 '| '( '( 'with_reducible 'refine $ite_tt!! B2 I2 Z2~ Y2~ ') M3 '; '( 'focus 'first '| 'rfl G1~ E2 '| 'decide B0 [1 \\2~ E2 B2 N2~ V2~ ') M3 B3 C1 D1 ') M3~ E2 '| '( '( 'with_reducible 'refine $Tv!! B2 I2 Z2~ Y2~ ') M3 '; 'wtm_at '\"e\" K1 L2 B3 C1 D1 ') M3~ E2 '| '( '( 'with_reducible 'refine $Tw!! B2 I2 Z2~ Y2~ ') M3 '; 'wtm_at '\"e\" K1 L2 B3 C1 D1 ') M3~ E2 '| '( '( 'with_reducible 'refine $Tx!! B2 I2 Z2~ Y2~ ') M3 '; 'wtm_at '\"e\" K1 L2 B3 C1 D1 ') M3~ E2 B15 N2~ ') M3~ V2"),("k",ds [] ("'focus 'with_reducible '( 'first"++N7 "Hi Tu au Jq C5 Ni Oa yz Qb BE N9 N8 PZ GG BD Li Lj DX Qc Un lR Lc JN Nn U7 U6 and_nil or_nil and_cons or_cons J6 my SO SP OO By PR PO cmp_gt wK Nh Hm" " '| 'refine $@! B1 I2 Z2~ E2"++N7 "ft bR Ll" " '| '( 'refine $@!! B2 I2 Z2 '; '( 'focus 'with_unfolding_all 'rfl G1~ X2~ V2~ ') M3 B3 C1 D1 ') M3~ E2"++N7 "cj C9 DV J7 Qa" " '| '( 'refine $@!! B2 I2 Z2 '; 'rotate_left B0 U2 '; '( 'focus 'with_unfolding_all 'rfl G1~ X2~ V2~ ') M3 B5 C1 D1 ') M3~ E2"++N7 "JM OS" " '| '( 'refine $@!!! B3 I2 Z2 '; 'rotate_left B0 U2 '; '( 'focus 'with_unfolding_all 'rfl G1~ X2~ V2~ ') M3 '; '( 'focus 'with_unfolding_all 'rfl G1~ X2~ V2~ ') M3 B7 C1 D1 ') M3~ E2"++" '| 'fail B0 a2~ E2 B53 N2~ ') M3~ Y2~ V2"))]
local macro_rules | `(tactic| wtm_at $s:str)=>match V4.lookup s.getString with
 | some t=>pure t
 | none=>Lean.Macro.throwUnsupported
local macro_rules | `(tactic| kd_p)=>pure (ds [] "'repeat 'wtm_at '\"l\" K1 L2~ ^2")
local macro_rules | `(tactic| kcf_m)=>pure (ds [] "'( 'refine' $jU!!! B3 I2 J2 '; 'rotate_left B0 U2 '; 'rotate_left B0 U2 '; '( 'focus 'wtm_at '\"b\" K1 L2~ V2~ ') M3 '; '( 'focus 'wtm_at '\"b\" K1 L2~ V2~ ') M3 B9 C1 D1 ') M3")
section
theorem Fs{n:NX}{env:Env}{ρ:Loc}{σ:AH}{Q:V->Loc->AH->Prop}{a b:Int}(q:Q (.int (a-b)) ρ σ):iI n env (inplaceOp .Sub) (.int a) (.int b) ρ σ Q:=λu v A s hA S F r=>by
 obtain⟨t,rfl⟩:=ay.int_inv r.1;obtain⟨t',rfl⟩:=ay.int_inv r.2;exact P.isub_int (aR.bP (tk:=s.toks+1) S F (.int _ _) q)
noncomputable def oV:Option Int->V
 | none=>.none
 | some i=>.int i
noncomputable def cG(s:Str)(a:Int)(t:Str):Option Int:=if Txt.slice s (some a) (some (a+t.length))==t then some (a+t.length) else none
noncomputable def nj(s:Str)(a m:Int):Option Int:=if a+m<=s.length then some (a+m) else none
noncomputable def j0(s:Str)(a p:Int):Option Int:=if (s.length:Int)-a==p then some a else none
section
variable{n:Nat}{σ:AH}{Q:V->AH->Prop}{s t:Str}{a m p:Int}
set_option tactic.hygienic true in
theorem vO(hs:s.length<=1000)(ht:t.length<=1000)(q:Q (oV (cG s a t)) σ):aU 1 (.ref 306) [.str s,.int a,.str t] σ Q:=by
 refine aC (uc) rfl λL=>?_
 kcf_m
 (refine au (aA ?_ rfl rfl))
 kd_p;refine bh ?_;kd_p;refine cg (by exact DC ht) ?_
 kd_p;refine gH (by rw[sizeLine_eq];exact E9 hs) ?_
 kd_p;unfold cG at q;wtm_at "j"<;>rename_i h
 ·rw[if_pos h]at q;kd_p;exact q
 ·rw[if_neg h]at q;kd_p;exact q
set_option tactic.hygienic true in
theorem Ay(hs:s.length<=1000)(q:Q (oV (nj s a m)) σ):aU 1 (.ref 313) [.str s,.int a,.int m] σ Q:=by
 refine aC (zi) rfl λL=>?_
 kcf_m;kd_p;refine bh ?_;kd_p;refine cg (by exact DC hs) ?_
 kd_p;unfold nj at q;wtm_at "j"<;>rename_i h<;>simp only[decide_eq_true_eq]at h
 ·rw[if_pos h]at q;kd_p;exact q
 ·rw[if_neg h]at q;kd_p;exact q
set_option tactic.hygienic true in
theorem xY(hs:s.length<=1000)(q:Q (oV (j0 s a p)) σ):aU 1 (.ref 327) [.str s,.int a,.int p] σ Q:=by
 refine aC (wu) rfl λL=>?_
 kcf_m;kd_p;refine bh ?_;kd_p;refine cg (by exact DC hs) ?_
 kd_p;unfold j0 at q;wtm_at "j"<;>rename_i h
 ·rw[if_pos h]at q;kd_p;exact q
 ·rw[if_neg h]at q;kd_p;exact q
noncomputable def gG(s:Str)(a:Int)(t:Str):Bool:=match s.cps.toList[a.toNat]? with | some d=>t.cps.toList.contains d | none=>false
noncomputable def rD(s:Str)(a:Int)(t:Str):Option Int:=if a<s.length/\gG s a t=true then some (a+1) else none
theorem ti(d:Nat)(t:Str):(!(Builtin.Str.occurrences t ⟨#[d]⟩ 0 t.length 1).isEmpty)=t.cps.toList.contains d:=by
 rw[StrLaws.found_one];simp
set_option tactic.hygienic true in
theorem Di(hs:s.length<=1000)(h0:0<=a)(q:Q (oV (rD s a t)) σ):aU 1 (.ref 355) [.str s,.int a,.str t] σ Q:=by
 refine aC (A9) rfl λL=>?_
 kcf_m;kd_p;refine bh ?_;kd_p;refine cg (by exact DC hs) ?_
 kd_p;unfold rD at q;wtm_at "j"<;>rename_i h1
 ·simp only[decide_eq_true_eq]at h1
  kd_p;have gT:a.toNat<s.cps.toList.length:=by rw[Array.length_toList];unfold Str.length at h1;exact MI h0 h1
  refine iY (j:=a.toNat) (d:=s.cps.toList[a.toNat]) (by exact MK h0) (List.getElem?_eq_getElem gT) (by unfold Str.length at hs;rw[Array.length_toList]at gT;exact aH (.t .A .B (.l .B (.k 1000) (.b .A (.k 4611686018427387904)))) rfl gT hs) ?_
  kd_p;refine kH ?_;rw[ti];kd_p;have e:gG s a t=t.cps.toList.contains s.cps.toList[a.toNat]:=by unfold gG;rw[List.getElem?_eq_getElem gT]
  wtm_at "j"<;>rename_i h2
  ·rw[if_pos ⟨h1,e.trans h2⟩]at q;kd_p;exact q
  ·rw[if_neg (λz=>h2 (e.symm.trans z.2))]at q;kd_p;exact q
 ·simp only[decide_eq_true_eq]at h1
  rw[if_neg (λz=>h1 z.1)]at q
  kd_p;exact q
noncomputable def gV(s:Str)(t:Str)(isIn:Bool):Nat->Nat->Nat
 | 0,i=>i
 | k+1,i=>if i<s.length/\gG s i t=isIn then gV s t isIn k (i+1) else i
theorem ny{s t:Str}{b:Bool}{k i:Nat}:gV s t b (k+1) i=if i<s.length/\gG s i t=b then gV s t b k (i+1) else i:=rfl
noncomputable def runEnd(s:Str)(a:Nat)(t:Str)(isIn:Bool):Nat:=gV s t isIn (s.length-a) a
theorem mj{s t:Str}{b:Bool}:∀{k i:Nat},¬(i<s.length/\gG s i t=b)->gV s t b k i=i
 | 0,_,_=>rfl
 | k+1,i,h=>by rw[ny,if_neg h]
theorem tu{s t:Str}{b:Bool}{i:Nat}(h:i<s.length/\gG s i t=b):gV s t b (s.length-i) i=gV s t b (s.length-(i+1)) (i+1):=by
 have:s.length-i=(s.length-(i+1))+1:=by exact Nat.le_antisymm (bD (.e (.a .A .B) .C (.f (.a .D (.a .B .O)) .C (.g .A (.a .D .O)))) rfl (Nat.sub_add_cancel (Cs h.1)) (Nat.sub_add_cancel (EK h.1))) (bD (.f (.a .A .B) .C (.e (.a .D (.a .B .O)) .C (.g (.a .D .O) .A))) rfl (Nat.sub_add_cancel (Cs h.1)) (Nat.sub_add_cancel (EK h.1)))
 rw[this,ny];rw[if_pos h]
set_option tactic.hygienic true in
theorem AE{k:Nat}{b:Bool}(hs:s.length<=1000)(q:Q (.int (runEnd s k t b)) σ):aU 1 (.ref 369) [.str s,.int k,.str t,.bool b] σ Q:=by
 refine aC (zk) rfl λL=>?_
 kcf_m;refine au ?_;refine eE (λm ρ af=>∃i:Nat,m=s.length-i/\af=σ/\runEnd s k t b=runEnd s i t b/\at_ ρ "at"=some (.int i)/\at_ ρ "subject"=some (.str s)/\at_ ρ "signs"=some (.str t)/\at_ ρ "is_in"=some (.bool b)) (s.length-k) ⟨k,rfl,rfl,rfl,rfl,rfl,rfl,rfl⟩ ?_
 rintro m ρ af ⟨i,rfl,rfl,hi,e1,e2,e3,e4⟩;kd_p;refine bh ?_;kd_p;refine cg (by exact DC hs) ?_
 kd_p;wtm_at "j"<;>rename_i h1
 ·have uK:i<s.length:=by simpa using h1
  have gT:i<s.cps.toList.length:=by rw[Array.length_toList];exact uK
  kd_p;refine iY (j:=i) (d:=s.cps.toList[i]) rfl (List.getElem?_eq_getElem gT) (I4 uK hs) ?_;kd_p;refine kH ?_;rw[ti];kd_p;refine qU ?_;kd_p;have e:gG s i t=t.cps.toList.contains s.cps.toList[i]:=by unfold gG;simp only[Int.toNat_natCast];rw[List.getElem?_eq_getElem gT]
  wtm_at "j"<;>rename_i h2
  ·have hc:i<s.length/\gG s i t=b:=⟨uK,by rw[e];exact beq_iff_eq.mp h2⟩
   kd_p;dsimp only[Gw];refine⟨s.length-(i+1),SJ uK,i+1,rfl,rfl,?_,z7,nr rfl e2,nr rfl e3,nr rfl e4⟩;rw[hi];exact tu hc
  ·have hc:¬(i<s.length/\gG s i t=b):=λz=>h2 (by rw[<-e];exact beq_iff_eq.mpr z.2)
   kd_p;have:runEnd s k t b=i:=by rw[hi];exact mj hc
   rw[this]at q;exact q
 ·have uK:¬i<s.length:=by simpa using h1
  kd_p;have:runEnd s k t b=i:=by rw[hi];exact mj (λz=>uK z.1)
  rw[this]at q;exact q
noncomputable def j4(s:Str)(a:Nat)(t:Str):Option Int:=if a<runEnd s a t true then some (runEnd s a t true) else none
set_option tactic.hygienic true in
theorem xZ{k:Nat}(hs:s.length<=1000)(q:Q (oV (j4 s k t)) σ):aU 2 (.ref 376) [.str s,.int k,.str t] σ Q:=by
 refine aC (wx) rfl λL=>?_
 kcf_m
 (refine au (aA ?_ rfl rfl))
 refine aF ?_;kd_p;refine aU.call (AE hs ?_);kd_p;unfold j4 at q;wtm_at "j"<;>rename_i h<;>simp only[gt_iff_lt,decide_eq_true_eq,Int.ofNat_lt]at h
 ·rw[if_pos h]at q;kd_p;exact q
 ·rw[if_neg h]at q;kd_p;exact q
noncomputable def zA(s:Str)(i:Nat):Str:=match s.cps.toList[i]? with | some d=>⟨#[d]⟩ | none=>""
noncomputable def f6(s:Str)(i:Nat):Int:=if zA s i==("(":Str) then 1 else if zA s i==(")":Str) then -1 else 0
noncomputable def fI(s:Str):Nat->Int->Nat->Option Nat
 | 0,_,_=>none
 | k+1,l,i=>if i<s.length then (if l+f6 s i<0 then none else if l+f6 s i=0 then some (i+1) else fI s k (l+f6 s i) (i+1)) else none
theorem mZ{s:Str}{k:Nat}{l:Int}{i:Nat}:fI s (k+1) l i=if i<s.length then (if l+f6 s i<0 then none else if l+f6 s i=0 then some (i+1) else fI s k (l+f6 s i) (i+1)) else none:=rfl
noncomputable def fT(s:Str)(a:Nat):Option Nat:=fI s (s.length+1-a) 0 a
noncomputable def oN:Option Nat->V
 | none=>.none
 | some i=>.int (i:Nat)
inductive Km(s:Str)(k:Nat)(σ:AH)(m:Nat)(ρ:Loc):AH->Prop
 | mk(i:Nat)(l:Int)(em:m=s.length+1-i)(hi:fT s k=fI s m l i)(e1:at_ ρ "at"=some (.int i))(e2:at_ ρ "subject"=some (.str s))(e3:at_ ρ "level"=some (.int l)):Km s k σ m ρ σ
set_option tactic.hygienic true in
theorem sq(hs:s.length<=1000){k:Nat}(q:Q (oN (fT s k)) σ):aU 1 (.ref 397) [.str s,.int k] σ Q:=by
 refine aC (zg) rfl λL=>?_
 kcf_m
 (refine au (aA ?_ rfl rfl))
 kd_p;refine eE (Km s k σ) (s.length+1-k) ⟨k,0,rfl,rfl,by wtm_at "a",by wtm_at "a",by wtm_at "a"⟩ ?_
 rintro m ρ af ⟨i,l,rfl,hi,e1,e2,e3⟩;kd_p;refine bh ?_;kd_p;refine cg (by exact DC hs) ?_
 kd_p;wtm_at "j"<;>rename_i h1
 ·have uK:i<s.length:=by simpa using h1
  have gT:i<s.cps.toList.length:=by rw[Array.length_toList];exact uK
  have ec:(⟨#[s.cps.toList[i]]⟩:Str)=zA s i:=by unfold zA;rw[List.getElem?_eq_getElem gT]
  have yK:fI s (s.length+1-i) l i=(if l+f6 s i<0 then none else if l+f6 s i=0 then some (i+1) else fI s (s.length+1-(i+1)) (l+f6 s i) (i+1)):=by
   have:s.length+1-i=(s.length+1-(i+1))+1:=SK uK;rw[this,mZ];rw[if_pos uK]
  rw[hi,yK]at q;have ev:f6 s i=if zA s i==("(":Str) then 1 else if zA s i==(")":Str) then -1 else 0:=rfl
  have go:∀l2:Int,l2=l+f6 s i->∀(b:Bool),b=decide (l2<0)->∀(A B:Prop),(b=true->Q .none σ->A)->(b=false->(∀(C D:Prop),((l2==0)=true->Q (.int ((i+1:Nat):Int)) σ->C)->((l2==0)=false->fT s k=fI s (s.length+1-(i+1)) l2 (i+1)->D)->if (l2==0)=true then C else D)->B)->if b=true then A else B:=by
   rintro _ rfl b rfl A B hA hB;by_cases z:l+f6 s i<0
   ·rw[if_pos z]at q
    rw[if_pos (decide_eq_true z)];exact hA (decide_eq_true z) q
   ·rw[if_neg (by rw[decide_eq_false z];decide)]
    refine hB (decide_eq_false z) λC D hC hD=>?_
    rw[if_neg z]at q yK;by_cases y:l+f6 s i=0
    ·rw[if_pos y]at q
     rw[if_pos (beq_iff_eq.mpr y)];exact hC (beq_iff_eq.mpr y) q
    ·rw[if_neg y]at yK
     have y2:=beq_eq_false_iff_ne.mpr y;rw[if_neg (by rw[y2];decide)];exact hD y2 (hi.trans yK)
  kd_p;refine iY (j:=i) (d:=s.cps.toList[i]) rfl (List.getElem?_eq_getElem gT) (I4 uK hs) ?_;rw[ec];kd_p;refine aq rfl ?_;kd_p;wtm_at "j"<;>rename_i h2
  ·have e4:l+1=l+f6 s i:=by rw[ev,if_pos h2]
   kd_p;refine go _ e4 _ rfl _ _ (λ_ q=>?_) (λ_ hb=>?_)
   ·kd_p;exact q
   ·kd_p
    refine hb _ _ (λ_ q=>?_) (λ_ hn=>?_)
    ·kd_p;exact q
    ·kd_p
     exact⟨s.length+1-(i+1),I5 uK,i+1,_,rfl,hn,by wtm_at "a",by wtm_at "a",by wtm_at "a"⟩
  ·kd_p
   refine iY (j:=i) (d:=s.cps.toList[i]) rfl (List.getElem?_eq_getElem gT) (I4 uK hs) ?_;rw[ec];kd_p;refine aq rfl ?_;kd_p;wtm_at "j"<;>rename_i h3
   ·have e4:l-1=l+f6 s i:=by rw[ev,if_neg h2,if_pos h3];exact Sn
    kd_p;refine Fs ?_;kd_p;refine go _ e4 _ rfl _ _ (λ_ q=>?_) (λ_ hb=>?_)
    ·kd_p;exact q
    ·kd_p
     refine hb _ _ (λ_ q=>?_) (λ_ hn=>?_)
     ·kd_p;exact q
     ·kd_p
      exact⟨s.length+1-(i+1),I5 uK,i+1,_,rfl,hn,by wtm_at "a",by wtm_at "a",by wtm_at "a"⟩
   ·have e4:l=l+f6 s i:=by rw[ev,if_neg h2,if_neg h3];exact So
    kd_p;refine go _ e4 _ rfl _ _ (λ_ q=>?_) (λ_ hb=>?_)
    ·kd_p;exact q
    ·kd_p
     refine hb _ _ (λ_ q=>?_) (λ_ hn=>?_)
     ·kd_p;exact q
     ·kd_p
      exact⟨s.length+1-(i+1),I5 uK,i+1,_,rfl,hn,by wtm_at "a",by wtm_at "a",by wtm_at "a"⟩
 ·have uK:¬i<s.length:=by simpa using h1
  kd_p;have e0:fI s (s.length+1-i) l i=none:=by
   cases s.length+1-i with
   | zero=>rfl
   | succ k=>rw[mZ,if_neg uK]
  rw[hi,e0]at q;exact q
noncomputable def DP(s:Str):Nat->Nat->List Nat
 | 0,_=>[]
 | k+1,a=>match fT s a with | none=>[] | some e=>e::DP s k e
noncomputable def cE(s:Str)(a:Nat):List Nat:=DP s (s.length+1) a
set_option tactic.hygienic true in
theorem pA{s:Str}:∀{k:Nat}{l:Int}{i e:Nat},fI s k l i=some e->i<e/\e<=s.length
 | 0,_,_,_,h=>by cases h
 | k+1,l,i,e,h=>by
  rw[mZ]at h;split at h
  ·rename_i z
   split at h
   ·cases h
   ·split at h
    ·cases h;exact⟨Nat.lt_succ_self _,z⟩
    ·have:=pA h;exact⟨Nat.lt_of_succ_lt this.1,this.2⟩
  ·cases h
theorem iq{s:Str}{a e:Nat}(h:fT s a=some e):a<e/\e<=s.length:=pA h
noncomputable def sy(s:Str):Nat->List Nat->Prop
 | a,[]=>fT s a=none
 | a,e::l=>fT s a=some e/\sy s e l
theorem Bo{s:Str}:∀{k a:Nat},s.length<k+a->sy s a (DP s k a)
 | 0,a,h=>by
  show fT s a=none;cases z:fT s a with
  | none=>rfl
  | some e=>have:=iq z;exact False.elim (aX (.t .A .B (.l .B .C (.t .C (.a .Z .A) (.z)))) rfl this.1 this.2 h)
 | k+1,a,h=>by
  show sy s a (match fT s a with | none=>[] | some e=>e::DP s k e)
  cases z:fT s a with
  | none=>exact z
  | some e=>exact⟨z,Bo (by have:=iq z;exact bD (.t .A .B (.t .C (.a (.a .D .O) .A) (.b .C (.a .D .B)))) rfl this.1 h)⟩
theorem rE{s:Str}{a:Nat}{l:List Nat}(h:sy s a l):fT s a=l.head? :=by cases l with | nil=>exact h | cons e l=>exact h.1
theorem ip{s:Str}:∀{a:Nat}{l:List Nat},sy s a l->l.length+a<=s.length+1+a/\(l≠[]->l.length+a<=s.length)
 | a,[],_=>⟨by simp,λh=>absurd rfl h⟩
 | a,e::l,h=>by
  have h1:=iq h.1;have h2:=ip h.2;have k:l.length+e<=s.length:=by
   cases l with
   | nil=>rw[List.length_nil,Nat.zero_add];exact h1.2
   | cons x y=>exact h2.2 (List.cons_ne_nil _ _)
  have z:=SM h1.1 k;exact⟨z.1,λ_=>z.2⟩
theorem yo{s:Str}:∀{a:Nat}{l:List Nat},sy s a l->∀e∈l,e<=s.length
 | _,[],_,_,m=>by cases m
 | _,e::l,h,x,m=>by
  rcases List.mem_cons.mp m with rfl | m
  ·exact(iq h.1).2
  ·exact yo h.2 x m
theorem gj(s:Str)(a:Nat):sy s a (cE s a):=Bo (by exact aH (.b .A (.a (.a .A .O) .B)) rfl)
inductive O3(s:Str)(k:Nat)(σ:AH)(fa:Addr)(m:Nat)(ρ:Loc)(af:AH):Prop
 | mk (a:Nat) (d r:List Nat) (em:m=r.length) (e0:cE s k=d++r) (hr:sy s a r) (es:af=σ.put fa (.list (d.map λi=>.int (i:Nat)))) (e1:at_ ρ "subject"=some (.str s)) (e2:at_ ρ "found"=some (.lst fa)) (e3:at_ ρ "end"=some (oN r.head?))
set_option tactic.hygienic true in
theorem qw(hs:s.length<=1000){k:Nat}(q:∀b,σ b=none->Q (.lst b) (σ.put b (.list ((cE s k).map λi=>.int (i:Nat))))):aU 2 (.ref 404) [.str s,.int k] σ Q:=by
 refine aC (wo) rfl λL=>?_
 kcf_m;refine au (gW (names:=["found","end"]) ?_ rfl);refine lR ?_;refine cj ?_ rfl;refine aW ?_;kd_p;intro fa jc;refine cj ?_ rfl;refine aF ?_;kd_p;refine aU.call (sq hs ?_);kd_p;refine⟨_,rfl,rfl,?_⟩;refine bR rfl ?_;refine bR rfl ?_;show b8 _ _ _ _ _ _;kd_p;have hc:=gj s k;rw[rE hc];refine eE (O3 s k σ fa) (cE s k).length ⟨k,[],cE s k,rfl,rfl,hc,rfl,by wtm_at "a",by wtm_at "a",by wtm_at "a"⟩ ?_
 rintro m ρ af ⟨a,d,r,rfl,e0,hr,rfl,e1,e2,e3⟩;cases r with
 | nil=>
  have e3:at_ ρ "end"=some .none:=e3;kd_p;refine bQ ?_;kd_p;rw[List.append_nil]at e0;rw[<-e0];exact q fa jc
 | cons e r=>
  have e3:at_ ρ "end"=some (.int (e:Nat)):=e3;have hl:=(ip hc).1;have hd:d.length<=1001:=by have:=congrArg List.length e0;simp at this;exact gf (.l (.a .A .B) (.a (.a .C .O) .B) (.f .A (.a .D (.a .E .O)) (.l .C (.k 1000) (.g .D (.k 1001))))) rfl hl this hs
  kd_p;refine bQ ?_;kd_p;wtm_at "h";kd_p;refine aB ?_;kd_p;refine⟨_,bw PySem.F.slot_list_append PySem.F.type_list_append (AH.aa _ _ _),az,?_⟩;kd_p;refine aZ (AH.aa _ _ _) (by refine qE ?_;exact aG (.l .A (.k 1001) (.g .A (.k 1000000))) rfl hd) ?_
  kd_p
  (refine aA ?_ rfl rfl)
  refine aF ?_;kd_p;refine aU.call (sq hs ?_);rw[rE hr.2];kd_p;refine⟨r.length,by exact Nat.le_refl _,e,d++[e],r,rfl,by rw[e0];exact(List.append_assoc _ [_] _).symm,hr.2,?_,by wtm_at "a",by wtm_at "a",by wtm_at "a"⟩
  funext b;unfold AH.put;by_cases h:b=fa<;>simp[h]
end
end
section
inductive Pl where
 | chars(t:Str) | len (m:Int) | xA (m:Int) | any (t:Str) | span (t:Str)
noncomputable def Pl.kind:Pl->Str
 | .chars _=>"chars" | .len _=>"len" | .xA _=>"rpos" | .any _=>"any" | .span _=>"span"
noncomputable def Pl.told:Pl->V
 | .chars t=>.str t | .any t=>.str t | .span t=>.str t | .len m=>.int m | .xA m=>.int m
noncomputable def Pl.fits:Pl->Prop
 | .chars t=>t.length<=1000
 | .len m=>0<=m
 | _=>True
noncomputable def Pl.ends(s:Str)(k:Nat):Pl->Option Int
 | .chars t=>cG s k t | .len m=>nj s k m | .xA m=>j0 s k m | .any t=>rD s k t | .span t=>j4 s k t
section
variable{n:Nat}{σ:AH}{Q:V->AH->Prop}{s t:Str}{k:Nat}
set_option tactic.hygienic true in
theorem AA{p:Pl}(hs:s.length<=1000)(hp:p.fits)(q:Q (oV (p.ends s k)) σ):aU 3 (.ref 411) [.str p.kind,.str s,.int k,p.told] σ Q:=by
 refine aC (zj) rfl λL=>?_
 cases p<;>dsimp only[Pl.kind,Pl.told]
 case chars t=>
  kcf_m;kd_p;refine aF ?_;kd_p;exact aU.call ((vO hs hp q).less (by decide))
 case len m=>
  kcf_m;kd_p;refine aF ?_;kd_p;exact aU.call ((Ay hs q).less (by decide))
 case xA m=>
  kcf_m;kd_p;refine aF ?_;kd_p;exact aU.call ((xY hs q).less (by decide))
 case any t=>
  kcf_m;kd_p;refine aF ?_;kd_p;exact aU.call ((Di hs (by exact(qW (z6))) q).less (by decide))
 case span t=>
  kcf_m;kd_p;refine aF ?_;kd_p;exact aU.call ((xZ hs q).less (by decide))
noncomputable def XR(s:Str):Bool:= !(s==("rem":Str)) && !(s==("arb":Str)) && !(s==("bal":Str))
theorem Jg(p:Pl):XR p.kind=true:=by cases p<;>(dsimp only[Pl.kind];decide)
theorem g6{p:Pl}(hs:s.length<=1000)(hp:p.fits)(q:Q (oV (p.ends s k)) σ):aU 4 (.ref 418) [.tup [.str p.kind,p.told],.str s,.int k] σ Q:=by
 refine aC (ue) rfl λL=>?_
 kcf_m;kd_p;have hr:(p.kind==("rem":Str))=false:=nB (bH (bH (Jg p)).1).1
 try refine ite_ff hr ?_
 refine aF ?_;kd_p;exact aU.call (AA hs hp q)
end
end
section
theorem ng(w:World):(isNotIn (KO w) "int" 145&&kin_not (KO w) 166 145&&plainGet (KO w) 166 "__class__" && hasDictIn (KO w) 166&&(findIn (KO w) (.ref 166) "__class__"==some (some (.builtin "object.__class__")))&&(specialIn (KO w) (.builtin "object.__class__") "__get__"==some (some (.builtin "getset_descriptor.__get__")))&&(takesIn (KO w) (.builtin "object.__class__")==some true)&&(mroIn (KO w) 166 (.type "object")==some true)&&isIn (KO w) (.ref 166) 166)=true:=by kernel_rfl
section
variable{n:NX}{env:Env}{ρ:Loc}{σ:AH}{Q:V->Loc->AH->Prop}
theorem uU{x:Int}(q:Q (.bool true) ρ σ):cK n env (.builtin "isinstance") [.int x,.glob (.type "int")] ρ σ Q:=λus A s hA S F r=>by
 obtain⟨u,v,rfl,r1,r2⟩:=d9 r;obtain⟨t,rfl⟩:=ay.int_inv r1;obtain rfl:=ay.dB r2;exact IsiPair.int_int (aR.bP (tk:=s.toks) S F (.bool _) q)
theorem uY{x:Str}(q:Q (.bool false) ρ σ):cK n env (.builtin "isinstance") [.str x,.glob (.type "int")] ρ σ Q:=λus A s hA S F r=>by
 obtain⟨u,v,rfl,r1,r2⟩:=d9 r;obtain⟨t,rfl⟩:=ay.str_inv r1;obtain rfl:=ay.dB r2;exact IsiPair.str_int (aR.bP (tk:=s.toks+1) S F (.bool _) q)
theorem nW{l:List V}(q:Q (.bool true) ρ σ):cK n env (.builtin "isinstance") [.tup l,.glob (.type "tuple")] ρ σ Q:=λus A s hA S F r=>by
 obtain⟨u,v,rfl,r1,r2⟩:=d9 r;obtain⟨a,vs,m,rfl,ht,hs⟩:=ay.cR r1;obtain rfl:=ay.dB r2;exact IsiPair.tuple_tuple ht rfl (aR.bP (tk:=s.toks) S F (.bool _) q)
theorem s6{x:Int}(q:Q (.bool false) ρ σ):cK n env (.builtin "isinstance") [.int x,.glob (.ref 145)] ρ σ Q:=λus A s hA S F r=>by
 obtain⟨u,v,rfl,r1,r2⟩:=d9 r;obtain⟨t,rfl⟩:=ay.int_inv r1;obtain rfl:=ay.dB r2;have h:=ng w;rw[<-hK]at h;have h1:=(bH (bH (bH (bH (bH (bH (bH (bH h).1).1).1).1).1).1).1).1;exact isn_call (P:=λ_=>True) S.oO (λM=>Looks.of_pure rfl) h1 (by intro e;cases e) trivial int_cls (aR.bP (tk:=s.toks+1) S F (.bool _) q)
theorem s9{d:Addr}{l:List (Str×V)}(hd:σ d=some (.dict l))(q:Q (.bool false) ρ σ):cK n env (.builtin "isinstance") [.inst 166 d,.glob (.ref 145)] ρ σ Q:=λus A s hA S F r=>by
 obtain⟨u,v,rfl,r1,r2⟩:=d9 r;obtain⟨x,rfl,hx⟩:=ay.jC r1;obtain rfl:=ay.dB r2;have h:=ng w;rw[<-hK]at h;have k8:=(bH h).1;have k7:=(bH k8).1;have k6:=(bH k7).1;have k5:=(bH k6).1;have k4:=(bH k5).1;have k3:=(bH k4).1;have k2:=(bH k3).1;have o:=S.objs _ _ hd;cases o with
 | dict ho hs=>
  obtain⟨es,ep,kQ,hk,hp⟩:=eB ho;have I:InstAt s.heap x (instObj 166 d) 166 (some { cls:=.type "dict",data:=.dict es ep }):=⟨hx,rfl,rfl,kQ⟩;exact kin_callC S.oO I (bH k2).2 (bH k3).2 (bH k4).2 (beq_iff_eq.mp (bH k5).2) (beq_iff_eq.mp (bH k6).2) (beq_iff_eq.mp (bH k7).2) (beq_iff_eq.mp (bH k8).2) (aR.bP (tk:=s.toks+1) S F (.bool _) q)
theorem uW{d:Addr}(q:Q (.bool true) ρ σ):cK n env (.builtin "isinstance") [.inst 166 d,.glob (.ref 166)] ρ σ Q:=λus A s hA S F r=>by
 obtain⟨u,v,rfl,r1,r2⟩:=d9 r;obtain⟨x,rfl,hx⟩:=ay.jC r1;obtain rfl:=ay.dB r2;have h:=ng w;rw[<-hK]at h;exact isi_call S.oO (λM=>(Looks.ld hx).andThen .now) (bH h).2 (by intro e;cases e) (aR.bP (tk:=s.toks) S F (.bool _) q)
end
end
section
section
variable{n:NX}{env:Env}{ρ:Loc}{σ:AH}{Q:V->Loc->AH->Prop}
theorem kJ{a b:Str}(q:Q (.bool (!(b.cps.toList<a.cps.toList))) ρ σ):iI n env (compareOp .LtE) (.str a) (.str b) ρ σ Q:=λu v A s hA S F r=>by
 obtain⟨t,rfl⟩:=ay.str_inv r.1;obtain⟨t',rfl⟩:=ay.str_inv r.2;exact P.le_str (aR.bP (tk:=s.toks) S F (.bool _) q)
theorem CP{a b:Int}(h0:0<=b)(hz:(Builtin.Int.intBits a:Int)+b<=2^27)(q:Q (.int (a*2^b.toNat)) ρ σ):iI n env (binaryOp .LShift) (.int a) (.int b) ρ σ Q:=λu v A s hA S F r=>by
 obtain⟨t,rfl⟩:=ay.int_inv r.1;obtain⟨t',rfl⟩:=ay.int_inv r.2;exact lshift_int h0 hz (aR.bP (tk:=s.toks+1) S F (.int _ _) q)
theorem Bv{d:Nat}(q:Q (.int d) ρ σ):cK n env (.builtin "ord") [.str ⟨#[d]⟩] ρ σ Q:=λus A s hA S F r=>by
 obtain⟨u,rfl,r1⟩:=fD r;obtain⟨t,rfl⟩:=ay.str_inv r1;exact P.ord_of_char (aR.bP (tk:=s.toks+1) S F (.int _ _) q)
theorem DW{l r r2:Expr}{o1 o2:CmpOp}{pos:Pos}(h:Ex n env l ρ σ (λa bJ aI=>Ex n env r bJ aI (λb d5 bU=>iI n env (compareOp o1) a b d5 bU (λy rm fE=>Dt n env y rm fE (λk wg ki=>
   if k then Ex n env r2 wg ki (λd wh mK=>iI n env (compareOp o2) b d wh mK Q) else Q y wg ki)))))
  (he:autoParam (eval (.Compare l [o1,o2] [r,r2] pos) env=(eval l env >>=λa=>compareChain pos a [o1,o2] [eval r env,eval r2 env])) KU):Ex n env (.Compare l [o1,o2] [r,r2] pos) ρ σ Q:=by
 exact Tr.eq he (Bw (pos:=pos) (R:=ay) (Q:=Q) (last:=λu v=>PySem.operate [u,v] (compareOp o2 u v)) (neg:=λw=>(Pure.pure w:Sem Value)) (h.mono λa bJ aI q=>q.mono λb d5 bU q u v=>(q u v).mono λy rm fE q w=>(q w).mono λk wg ki q=>by
  cases k
  ·exact λw=>Tr.pure (λ_ r=>r) q
  ·exact Tr.mono q λd wh mK q u v=>Tr.operate (q u v)))
end
theorem Cc{x:Str}{σ:AH}(hx:x.cps.all (· < 128)=true):rB (.str x) σ (λ_=>True) (x.cps.toList.map λd=>.str ⟨#[d]⟩):=λA s u Q E hh S r hQ=>by
 obtain⟨t,rfl⟩:=r.str_inv;refine wpAny_pyIter_ascii hx (hQ _ (λi h=>h.IsStrIter s.heap.objs.size "str_ascii_iterator" x t i) s.toks ⟨?_,?_,?_,(λ_ _ _ _ _ st hQ=>wpAny_pyIter_striter_ascii st hQ),(λ_ _ _ _ _ _ _ _ _ st hQ=>by obtain⟨o,e,hc,hd⟩:=st;exact lU e hc hd (by decide) hQ),?_⟩ ⟨_,Heap.get?_push_size _ rfl,rfl,rfl⟩)
 ·rintro i h h' ⟨o,e,x⟩ k _;exact⟨o,k _ e,x⟩
 ·rintro i h ⟨o,e,hc,x⟩;exact⟨o,e,eM hc (by decide) (by decide)⟩
 ·intro i v A s σ Q E hh ht S hI g hv hQ
  rw[List.getElem?_map]at hv;obtain⟨d,hd,rfl⟩:=Option.map_eq_some_iff.mp hv;exact wpAny_pyNext_ascii_item ht (by rw[<-Array.getElem?_toList];exact hd) λh' hit sb=>hQ _ h' _ (.str _ _) hit λb o n e=>(sb.2 b n).trans e
 ·intro A s σ Q E hh ht S hI g hQ
  exact wpAny_pyNext_ascii_end hh ht (by simp) λh' eb=>hQ h' s.toks λb o n e=>eb b o n e
end
section
theorem lT{h base:Heap}:∀{l:List Env},(∀e∈l,e.scope.kind≠.module/\∃L o,e.frame=some L/\base.get? L=none/\h.get? L=some o/\∀vs,o.data≠.fields vs)->h.FunFrames base l
 | [],_=>trivial
 | e::_,k=>⟨(k e (.head _)).1,(k e (.head _)).2,lT λe he=>k e (.tail _ he)⟩
theorem dh.CH{O:List Env}{env:Env}{h:Heap}{σ:AH}{ρ:Loc}(F:dh O env h σ ρ){b:Addr}(m:b∈aw env){o:Obj}(e:h.get? b=some o):∀vs,o.data≠.fields vs:=by
 rcases List.mem_cons.mp m with rfl | m
 ·obtain⟨_,o',es,ep,e1,e2,_⟩:=F.ns
  rw[e]at e1;cases e1;intro vs q;rw[e2]at q;cases q
 ·obtain⟨q,hq,rfl⟩:=List.mem_map.mp m
  obtain⟨v,o',e1,e2⟩:=F.cell q hq;rw[e]at e1;cases e1;intro vs q;rw[e2]at q;cases q
theorem EPost.made{env:Env}{A:Around}{s:Shared}{h1 hF:Heap}{tk:Nat}{σ aI:AH}{bJ:Loc}{X:Int->Loc->AH->Prop}{e d:Addr}{num:Int}{t:Tok}{fs:Array Value}{kvs:List (Str×Value)}{O:List Env}
  (hf:env.frame=some env.locals) (S1:St h1 aI) (F1:dh O env h1 aI bJ) (M1:Fm O env σ s.heap h1 aI) (kp:∀b o,h1.get? b=some o->hF.get? b=some o) (ne:h1.get? e=none)
  (he:hF.get? e=some { cls:=.ref DU,dict:=some d,data:=.fields fs,slots:= #[] }) (Wh:fs[1]? =some .none) (D:hF.DictOf (strKind c.prog c.w) d kvs) (nd:h1.get? d=none) (Rq:d≠e) (hn:kvs.lookup ("number":Str)=some (.int num t)) (q:X num bJ aI):
  EPost O env σ s X (.ref e) { s with heap:=hF,toks:=tk }:=by
 have IA:∀b o,h1.get? b=some o->b≠env.locals->b∉outs O->(hideAll hF (e::env.locals::outs O)).get? b=some o:=λb o e1 n1 n2=>hideAll_get _ (kp b o e1) λm=>by
  rcases List.mem_cons.mp m with z | m
  ·rw[z,ne]at e1;cases e1
  ·rcases List.mem_cons.mp m with z | m
   ·exact n1 z
   ·exact n2 m
 have lF:∀b,b=env.locals\/b∈outs O->aI b=none/\c.h0.get? b=none/\∀o,h1.get? b=some o->Loose o:=λb m=>by
  rcases m with rfl | m
  ·obtain⟨e1,e2,o,e3,e4⟩:=F1.sep _ (.head _)
   exact⟨e1,e2,λo' z=>by rw[e3]at z;cases z;exact e4⟩
  ·refine⟨?_,?_,λo z=>F1.loose m z⟩<;>obtain⟨q,hq,rfl⟩:=List.mem_map.mp m
   ·exact(F1.out q hq).free
   ·exact(F1.out q hq).xg
 have U4:∀b o,h1.get? b=some o->¬Loose o->(hideAll hF (e::env.locals::outs O)).get? b=some o:=λb o e1 nl=>IA b o e1 (λz=>nl ((lF b (.inl z)).2.2 o e1)) λz=>nl ((lF b (.inr z)).2.2 o e1)
 refine⟨e,d,hideAll hF (e::env.locals::outs O),hF,tk,num,bJ,aI,rfl,rfl,?_,?_,?_,?_,q⟩
 ·refine⟨λb o e1=>IA b o (S1.fP b o e1) (λz=>by rw[(lF b (.inl z)).2.1]at e1;cases e1) (λz=>by rw[(lF b (.inr z)).2.1]at e1;cases e1),λa o e1=>?_,S1.new,S1.lo,S1.base,S1.ok⟩
  exact(S1.objs a o e1).keep U4 λob e2=>IA a ob e2 (λz=>by rw[(lF a (.inl z)).1]at e1;cases e1) λz=>by rw[(lF a (.inr z)).1]at e1;cases e1
 ·refine⟨λx v e1=>?_,?_,λb hb=>?_,F1.nodup,λp hp=>IsCell.keep (kp p.2) (F1.cell p hp),F1.kind,F1.glob,λx hx=>(F1.out x hx).keep (λo z=>⟨o.slots,kp _ _ z⟩) (F1.out x hx).free⟩
  ·obtain⟨u,hu,r⟩:=F1.has x v e1
   exact⟨u,hu.ext kp,r.keep U4⟩
  ·obtain⟨m,hm⟩:=F1.ns;exact⟨m,hm.keeps kp⟩
  ·obtain⟨e1,e2,o,e3,e4⟩:=F1.sep b hb
   exact⟨e1,e2,o,kp b o e3,F1.CH hb e3⟩
 ·have dn:d∉e::env.locals::outs O:=λm=>by
   rcases List.mem_cons.mp m with z | m
   ·exact Rq z
   ·rcases List.mem_cons.mp m with z | m
    ·obtain⟨_,o,_,_,e1,_⟩:=F1.ns;rw[<-z,nd]at e1;cases e1
    ·obtain⟨q,hq,z⟩:=List.mem_map.mp m
     obtain⟨o,_,_,e1,_⟩:=(F1.out q hq).obj;rw[z,nd]at e1;cases e1
  refine⟨λb o e1=>of_hideAll _ e1,hideAll_none _ (.head _),lT λx hx=>?_,.inl (.made he rfl rfl rfl Wh),kvs,_,?_,hn,.int _ _⟩
  ·rcases List.mem_cons.mp hx with rfl | hx
   ·obtain⟨_,o,es,ep,e1,e2,_⟩:=F1.ns
    exact⟨by rw[F1.kind];decide,_,o,hf,hideAll_none _ (.tail _ (.head _)),kp _ _ e1,λvs z=>by rw[e2]at z;cases z⟩
   ·have x':=F1.out x hx
    obtain⟨o,es,n,e1,e2⟩:=x'.obj;exact⟨x'.kind,_,o,x'.fr,hideAll_none _ (.tail _ (.tail _ (List.mem_map_of_mem hx))),kp _ _ e1,λvs z=>by rw[e2]at z;cases z⟩
  ·obtain⟨o,es,ep,e1,r⟩:=D
   exact⟨o,es,ep,hideAll_get _ e1 dn,r⟩
 ·refine⟨λb o e1 n f1 f2=>IA b o (M1.keep b o e1 n f1 f2) (λz=>f1 (by rw[z];exact .head _)) f2,λb o e1 m=>?_,λb o e1=>?_,M1.fresh⟩
  ·obtain⟨sl,e2⟩:=M1.slots b o e1 m;exact⟨sl,kp _ _ e2⟩
  ·obtain⟨o',e2⟩:=M1.iA b o e1;exact⟨o',kp _ _ e2⟩
end
section
open PySem PySem.W PyProof.Rows PySem.Calls PySem.Builtin PySem.Builtin.ObjectAttr PySem.Builtin.Getset_descriptor
section
variable{prog:Program}{w:World}{A:Around}{E:Value->Shared->Prop}{h:Heap}{g:Array GenState}{d:Drawn}{t:Nat}{os:OsState}
variable{nm q:Str}{C N:Addr}{bs bm:List Value}{hdct:Bool}{sn:List Str}{sub:List Value}{ab:Bool}{col:Option Bool}{dd:Option Addr}{k0 k1 k2 k3 k5:Option Value}{newId:String}
theorem Nz{e:Addr}{oe:Obj}{Q:Fin->Shared->Prop}(he:h.get? e=some oe)(WA:oe.cls=.ref C)(hC:h.get? C=some (excClassObj nm q C N bs bm hdct sn sub ab col dd k0 k1 k2 k3 k5 newId))(Lz:bm.contains (.type "Exception")=true)
  (hq:Q (.done (.ret (.ref h.objs.size))) ⟨h.push { cls:=.type "method-wrapper",data:=.fields #[.builtin "Exception.__init__",.ref e] },g,d,t,os⟩):
  wpAny (model prog w) A (Builtin.«wrapper_descriptor.__get__» ⟨[.builtin "Exception.__init__",.ref e,.ref C],[]⟩) Q E ⟨h,g,d,t,os⟩:=by
 have Wq:(Value.ref C::bm).contains (.type "Exception")=true:=by rw[List.contains_cons,Lz,Bool.or_true]
 unfold Builtin.«wrapper_descriptor.__get__»;refine wpAny_bind (wpAny_of_eq (show _=pure (Value.builtin "Exception.__init__",some (Value.ref e),some (Value.ref C)) from rfl) ?_)
 refine wpAny_bind ?_;refine wpAny_bind (wpAny_of_eq (show _=pure (("__init__":Str),Value.type "Exception") from by kernel_rfl) ?_)
 dsimp only;refine wpAny_bind ?_;unfold isInstance;obtain⟨oc,od,Vq,OP⟩:=oe;subst WA
 repeat (first | with_reducible refine wpAny_loadPart_at he ?_ | (with_reducible refine wpAny_isSubtype_exc hC ?_;rw[Wq]) | wp_step)
 exact hq
theorem og:Slot "wrapper_descriptor" "__get__" "wrapper_descriptor.__get__":=.of (owner:="wrapper_descriptor") (n:="__get__") (by rw[typeLookup_type,builtinLookup_eq_fast];kernel_rfl) (by decide+kernel) (by decide+kernel) (by decide+kernel)
 (by first | exact .inl (by decide+kernel) | exact .inr (by decide+kernel)) (by rw[isSubtype_type];kernel_rfl)
theorem sU:entryFor table "wrapper_descriptor.__get__"=some Builtin.«wrapper_descriptor.__get__» :=entryFor_of_tree (by kernel_rfl)
theorem uq(a b c:Value):argsOk "wrapper_descriptor.__get__" ⟨[a,b,c],[]⟩:=by unfold argsOk;kernel_rfl
theorem zx{M:Model}{A:Around}{E:Value->Shared->Prop}{s:Shared}{f:Value}{l m:List Value}{Q:Value->Shared->Prop}(e:l=m)(h:wpAny M A (call f m) Q E s):wpAny M A (call f l) Q E s:=e▸h
theorem yb{so D x:Addr}{ox:Obj}{l₀ l:List Value}{K:Frag}{tk:Tok}{Q:Fin->Shared->Prop}
  (JX:h.get? so=some { cls:=.type "super",dict:=none,data:=.fields #[.ref D,.ref x,.ref C],slots:= #[] }) (QE:Looks (model prog w) h (opaqueClassAbove (.ref C)) none)
  (hm:Looks (model prog w) h (mroOf (.ref C)) l₀) (hl:(l₀.dropWhile (· != .ref D)).drop 1=l) (X:K.In h) (hf:alongIn K "__init__" l=some (some (.builtin "Exception.__init__"))) (QW:x≠C)
  (hx:h.get? x=some ox) (QX:ox.cls=.ref C) (hC:h.get? C=some (excClassObj nm q C N bs bm hdct sn sub ab col dd k0 k1 k2 k3 k5 newId)) (Lz:bm.contains (.type "Exception")=true)
  (hq:Q (.done (.ret (.ref h.objs.size))) ⟨h.push { cls:=.type "method-wrapper",data:=.fields #[.builtin "Exception.__init__",.ref x] },g,d,t,os⟩):
  wpAny (model prog w) A (Builtin.«super.__getattribute__» ⟨[.ref so,.str ("__init__":Str) tk],[]⟩) Q E ⟨h,g,d,t,os⟩:=by
 have QB:=og.lookup;have ic:(Value.ref x==Value.ref C)=false:=by simp[QW]
 have hn:(("__init__":Str)==("__class__":Str))=false:=by decide
 have Uv:(⟨h,g,d,t,os⟩:Shared).TypeIs (.builtin "Exception.__init__") "wrapper_descriptor":=by show _=_;kernel_rfl
 have Il:({ cls:=.type "super",dict:=none,data:=.fields #[.ref D,.ref x,.ref C],slots:= #[] }:Obj).data=.fields #[.ref D,.ref x,.ref C]:=rfl;have f0:(#[.ref D,.ref x,.ref C]:Array Value)[0]? =some (.ref D):=rfl;have f1:(#[.ref D,.ref x,.ref C]:Array Value)[1]? =some (.ref x):=rfl;have f2:(#[.ref D,.ref x,.ref C]:Array Value)[2]? =some (.ref C):=rfl;have Wv:decide ((Value.ref C==Value.none||("__init__":Str)==("__class__":Str))=true)=false:=by rw[hn];rfl
 have hd2:(if (Value.ref x==Value.ref C)=true then Value.none else Value.ref x)=Value.ref x:=if_neg (by rw[ic];decide)
 have Wx:[Value.builtin "Exception.__init__",if (Value.ref x==Value.ref C)=true then Value.none else Value.ref x,Value.ref C]=[Value.builtin "Exception.__init__",Value.ref x,Value.ref C]:=by rw[hd2]
 have Ww:decide ((Value.ref C==Value.none)=true)=false:=rfl;unfold Builtin.«super.__getattribute__»
 repeat (first
  | (with_reducible refine wpAny_field JX Il f0 ?_) | (with_reducible refine wpAny_field JX Il f1 ?_) | (with_reducible refine wpAny_field JX Il f2 ?_)
  | (with_reducible refine ks_wpAny_notOpaque QE ?_)
  | (with_reducible refine Looks.at hm ?_;rw[hl])
  | (refine ks_forIn_along X (λ_ _=>rfl) rfl ?_ hf)
  | (with_reducible refine wpAny_typeOf Uv ?_)
  | (with_reducible refine zx Wx ?_)
  | (with_reducible refine wpAny_call_entry og Uv sU ?_ (uq _ _ _))
  | (with_reducible refine Nz hx QX hC Lz ?_)
  | (with_reducible refine⟨_,rfl,?_⟩)
  | ((with_reducible apply wpAny_ite_false);focus (first | exact Wv | exact Ww))
  | wp_step
  | dsimp only)
 all_goals exact hq
theorem v8{so D x:Addr}{ox:Obj}{l₀ l:List Value}{K:Frag}{pl:Sem Bool}{Q:Value×List Value->Shared->Prop}
  (JX:h.get? so=some { cls:=.type "super",dict:=none,data:=.fields #[.ref D,.ref x,.ref C],slots:= #[] }) (QE:Looks (model prog w) h (opaqueClassAbove (.ref C)) none)
  (hm:Looks (model prog w) h (mroOf (.ref C)) l₀) (hl:(l₀.dropWhile (· != .ref D)).drop 1=l) (X:K.In h) (hf:alongIn K "__init__" l=some (some (.builtin "Exception.__init__"))) (QW:x≠C)
  (hx:h.get? x=some ox) (QX:ox.cls=.ref C) (hC:h.get? C=some (excClassObj nm q C N bs bm hdct sn sub ab col dd k0 k1 k2 k3 k5 newId)) (Lz:bm.contains (.type "Exception")=true)
  (hq:Q (.ref h.objs.size,[]) ⟨h.push { cls:=.type "method-wrapper",data:=.fields #[.builtin "Exception.__init__",.ref x] },g,d,t+1,os⟩):
  wpAny (model prog w) A (getMethod (.ref so) "__init__" pl) Q E ⟨h,g,d,t,os⟩:=by
 have QB:=F.ks_slot_super_ga.lookup;have Qm:=F.ks_canon_super_ga;have hT:∀t',(⟨h,g,d,t',os⟩:Shared).TypeIs (.ref so) "super":=λ_=>⟨_,JX,rfl⟩
 unfold getMethod;refine wpAny_bind (wpAny_specialOf (hT _) QB ?_);show wpAny _ _ (if (Manifest.canonical "super.__getattribute__" != "object.__getattribute__")=true then _ else _) _ _ _
 rw[if_pos Qm];unfold getAttr getAttrBy;refine wpAny_bind (wpAny_bind (wpAny_mkText (wpAny_holding (wpAny_bind (wpAny_typeOf (hT _) (wpAny_bind (wpAny_of_eq QB ?_)))))));show wpAny _ _ (getAttrByItsOwn (.ref so) (.str ("__init__":Str) t) (.type "super") (.builtin "super.__getattribute__") true false) _ _ _;unfold getAttrByItsOwn hookBefore callGetattribute boundAndCalled;refine wpAny_bind (wpAny_of_eq (show(if onTheHeap (.type "super") then typeLookup (.type "super") "__getattr__" else pure none)=pure none from rfl) ?_)
 refine wpAny_bind (wpAny_attempt (wpAny_holding ?_));show wpAny _ _ (bindSpecial (.builtin "super.__getattribute__") (.ref so) >>=_) _ _ _;refine wpAny_bind (wpAny_of_eq (F.ks_slot_super_ga.bind _) ?_);refine wpAny_mono (Q:=λv s'=>v=.ref h.objs.size/\s'=⟨h.push { cls:=.type "method-wrapper",data:=.fields #[.builtin "Exception.__init__",.ref x] },g,d,t+1,os⟩) (E:=λ_ _=>False)
  (wpAny_call_entry F.ks_slot_super_ga (hT _) F.ks_entry_super_ga (yb JX QE hm hl X hf QW hx QX hC Lz ⟨_,rfl,rfl,rfl⟩) (F.ks_gaArgs_super _ _)) (λv s' hv=>?_) λ_ _ z=>z.elim
 obtain⟨rfl,rfl⟩:=hv;exact wpAny_pure (wpAny_pure hq)
theorem JD{x b a0:Addr}{v:Value}{Q:Value->Shared->Prop}(hb:h.get? b=some { cls:=.type "method-wrapper",dict:=none,data:=.fields #[.builtin "Exception.__init__",.ref x],slots:= #[] })
  (hx:h.get? x=some { cls:=.ref C,dict:=none,data:=.fields #[.ref a0,.none,.none,.none,.bool false,.none],slots:= #[] }) (F:ExcBaseFacts "Exception" newId "Exception.__init__" bm) (hC:h.get? C=some (excClassObj nm q C N bs bm hdct sn sub ab col dd k0 k1 k2 k3 k5 newId))
  (hq:∀h',h'.get? x=some { cls:=.ref C,dict:=none,data:=.fields #[.ref h.objs.size,.none,.none,.none,.bool false,.none],slots:= #[] }->(∀y o,y≠x->h.get? y=some o->h'.get? y=some o)->Q .none ⟨h',g,d,t,os⟩):
  wpAny (model prog w) A (call (.ref b) [v]) Q E ⟨h,g,d,t,os⟩:=by
 refine wpAny_call (codeAny_of_tree ?_);show wpAny _ A.in1 (callAny (.ref b) _) _ _ _;unfold callAny;refine wpAny_bind (wpAny_load hb ?_);have Qk:builtinKind "Exception.__init__"=some .slot:=F.initKind;have Ws:∀(E':Value->Shared->Prop)(Q':Unit->Shared->Prop),Q' () ⟨h,g,d,t,os⟩->wpAny (model prog w) A.in1 (checkBoundCall "Exception.__init__" ⟨[.ref x,v],[]⟩) Q' E' ⟨h,g,d,t,os⟩:=by
  intro E' Q' Wk;unfold checkBoundCall;rw[F.initRow,Qk];refine wpAny_ite_true (by decide) ?_
  unfold Bind.checkArgs;have Ql:(Value.ref C::bm).contains (.type "Exception")=true:=by rw[List.contains_cons,F.hasB,Bool.or_true]
  have QS:=F.noStar
  repeat (first | (with_reducible refine wpAny_loadPart_at hx ?_) | with_reducible refine wpAny_loadPart_at hC ?_ | (with_reducible refine wpAny_isSubtype_exc hC ?_;rw[Ql]) | wp_step)
  exact Wk
 refine wpAny_ite_true (show decide ((Value.type "method-wrapper"==Value.type "method" || Value.type "method-wrapper"==Value.type "builtin_function_or_method" || Value.type "method-wrapper"==Value.type "method-wrapper")=true)=true by decide) ?_
 show wpAny _ _ (checkBoundCall "Exception.__init__" ⟨[.ref x,v],[]⟩ >>=_) _ _ _;refine wpAny_bind (Ws _ _ ?_);show wpAny _ _ (pure (Fin.again (.builtin "Exception.__init__" ⟨[.ref x,v],[]⟩))) _ _ _;refine wpAny_pure ⟨plainId_quiet F.init.plain _,codeAny_builtin F.initEntry ?_⟩;rw[Around.under_plainId F.init.plain _];have YF:({ cls:=.ref C,dict:=none,data:=.fields #[.ref a0,.none,.none,.none,.bool false,.none],slots:= #[] }:Obj).data=.fields #[.ref a0,.none,.none,.none,.bool false,.none]:=rfl;unfold Builtin.«BaseException.__init__»
 wp_walk
 show Q .none _;exact hq _ (Heap.get?_update_self _ (Heap.get?_push_of_some _ hx) rfl) λy o hy e1=>(Heap.get?_update_other _ _ hy.symm).trans (Heap.get?_push_of_some _ e1)
end
section
variable{prog:Program}{w:World}{A:Around}{s:Shared}{x C:Addr}{K:Frag}
theorem xw(self:Value):refuseLoop self "__setattr__" [.ref C,.type "Exception",.type "BaseException",.type "object"]=pure ():=by
 rw[refuseLoop_ref];kernel_rfl
theorem Hn{R:Result->Shared->Prop}{ox:Obj}{od:Option Obj}{name:Str}{tk:Tok}{v:Value}{cd:ClassData}(X:K.In s.heap)(I:InstAt s.heap x ox C od)(hc:clsIn K C=some cd)(hm:cd.mro=[.ref C,.type "Exception",.type "BaseException",.type "object"])(ht:takerIn K C name=some none)
  (h:∀b,wpAny (model prog w) A.in1 (storeInOwnDict (.ref x) (.ref C) (.str name tk) name v b)
   (λfin s'=>match fin with | .done f=>R (.ok f) s' | .again c'=>c'.quiet=true/\codeAny (model prog w) A c' R s') (λe s'=>R (.error e) s') s):
  codeAny (model prog w) A (.call (.builtin "object.__setattr__") ⟨[.ref x,.str name tk,v],[]⟩) R s:=by
 have SF:=PySem.F.store_object;have Ii:cd.mro.contains (.type "object")=true:=by rw[hm];rfl
 have ne:cd.mro.isEmpty=false:=by rw[hm];rfl
 have sub:Looks (model prog w) s.heap (isInstance (.ref x) (.type "object")) true:=I.type.andThen (looks_mroIn X (by unfold mroIn;rw[hc,Option.bind_some,if_neg (by rw[ne];decide),Ii]))
 refine codeAny_call_builtin SF.slot.plain SF.entry (@check_slot (model prog w) _ _ s "object.__setattr__" "object" "__setattr__" (.ref x) [.str name tk,v] [] _ SF.kind SF.split sub (SF.args (.ref x) (.str name tk) v) ?_);obtain⟨attr,ha,hr⟩:=Option.bind_eq_some_iff.mp ht;have WQ:Looks (model prog w) s.heap (mroOf (.ref C)) cd.mro:=(looks_clsIn X hc).andThen .now;have L3:Looks (model prog w) s.heap (storeTaker? attr) none:=by
  cases attr with
  | none=>exact .now
  | some a=>
   obtain⟨b,hb,e⟩:=Option.map_eq_some_iff.mp hr;refine(looks_takesIn X hb).andThen ?_;cases b
   ·exact .now
   ·cases e
 rw[osa_eq,refuse_eq];refine wpAny_bind (wpAny_bind (I.type.here (wpAny_bind (WQ.here ?_))));rw[hm,xw];refine wpAny_pure (wpAny_bind (I.type.here (wpAny_bind ((looks_findIn X ha).here (wpAny_bind (L3.here ?_))))));exact h _
end
section
variable{A:Around}{E:Value->Shared->Prop}{s:Shared}{x C:Addr}
theorem v9{name:Str}{tk:Tok}{v:Value}{b:Bool}{fs:Array Value}{cd:ClassData}{Q:PySem.Fin->Shared->Prop}(X:c.K.In s.heap)(hx:s.heap.get? x=some { cls:=.ref C,dict:=none,data:=.fields fs,slots:= #[] })(hc:clsIn c.K C=some cd)(hd:cd.hasDict=true)
  (hq:∀h',h'.get? x=some { cls:=.ref C,dict:=some s.heap.objs.size,data:=.fields fs,slots:= #[] }->h'.DictOf (strKind c.prog c.w) s.heap.objs.size [(name,v)]->(∀y o,y≠x->s.heap.get? y=some o->h'.get? y=some o)->Q (.done (.ret .none)) { s with heap:=h',toks:=s.toks+1 }):
  wpAny (model c.prog c.w) A (storeInOwnDict (.ref x) (.ref C) (.str name tk) name v b) Q E s:=by
 have Lk:Looks (model c.prog c.w) s.heap (classData C) cd:=looks_clsIn X hc;refine wpAny_bind (wpAny_pure (wpAny_bind (wpAny_bind (wpAny_loadPart hx (wpAny_bind (Lk.here ?_))))));rw[hd];show wpAny _ _ (alloc { cls:=.type "dict",data:=.dict #[] } >>=λd=>update x (λo=>{ o with dict:=some d }) >>=λ_=>dictMade (.ref C) x d) _ _ _
 refine wpAny_bind (wpAny_alloc (wpAny_bind ?_));have JZ:=Heap.get?_push_of_some ({ cls:=.type "dict",data:=.dict #[] }:Obj) hx;refine wpAny_update JZ ?_;show wpAny _ _ (pure (some s.heap.objs.size)) _ _ _;refine wpAny_pure ?_;have Mb:=Heap.get?_update_self (λo=>{ o with dict:=some s.heap.objs.size }) JZ rfl
 have ne:s.heap.objs.size≠x:=Nat.ne_of_gt (Heap.lt_size hx);have hd2:((s.heap.push { cls:=.type "dict",data:=.dict #[] }).update x (λo=>{ o with dict:=some s.heap.objs.size })).get? s.heap.objs.size=some { cls:=.type "dict",dict:=none,data:=.dict #[],slots:= #[] }:=(Heap.get?_update_other _ _ ne.symm).trans (Heap.get?_push_size _ rfl)
 have D:((s.heap.push { cls:=.type "dict",data:=.dict #[] }).update x (λo=>{ o with dict:=some s.heap.objs.size })).DictOf (strKind c.prog c.w) s.heap.objs.size []:=⟨_, #[],0,hd2,⟨rfl,rfl,rfl⟩,rfl,λe he=>by simp at he,.nil,.nil⟩
 refine wpAny_bind (wpAny_pure (wpAny_bind (kS (s:={ s with heap:=(s.heap.push { cls:=.type "dict",data:=.dict #[] }).update x (λo=>{ o with dict:=some s.heap.objs.size }) }) D λh' D' sb=>?_)))
 obtain⟨GF,Lg,BS,GR,BV⟩:=eB D';have hz:GF.size<=sizeLine+1:=by
  have e1:=BV.length;rw[Array.length_toList]at e1;rw[sizeLine_eq,e1];show 1<=_;decide
 refine wpAny_bind (wpAny_lookBehind BS (pastItsLine_dict hz) (wpAny_pure ?_));exact hq h' ((sb.2 _ ne.symm).trans Mb) D' λy o hy e1=>(sb.2 y λq=>by rw[q,bz (Nat.le_refl _)]at e1;cases e1).trans ((Heap.get?_update_other _ _ hy.symm).trans (Heap.get?_push_of_some _ e1))
theorem tY{dx:Addr}{kvs:List (Str×Value)}{name:Str}{tk:Tok}{v:Value}{b:Bool}{fs:Array Value}{cd:ClassData}{Q:PySem.Fin->Shared->Prop}(X:c.K.In s.heap)(hx:s.heap.get? x=some { cls:=.ref C,dict:=some dx,data:=.fields fs,slots:= #[] })(hc:clsIn c.K C=some cd)(hd:cd.hasDict=true)
  (D:s.heap.DictOf (strKind c.prog c.w) dx kvs) (hl:kvs.length<=1000)
  (hq:∀h',h'.DictOf (strKind c.prog c.w) dx (stored kvs name v)->Heap.SameBut dx s.heap h'->Q (.done (.ret .none)) { s with heap:=h',toks:=s.toks+1 }):
  wpAny (model c.prog c.w) A (storeInOwnDict (.ref x) (.ref C) (.str name tk) name v b) Q E s:=by
 have Lk:Looks (model c.prog c.w) s.heap (classData C) cd:=looks_clsIn X hc;refine wpAny_bind (wpAny_pure (wpAny_bind (wpAny_bind (wpAny_loadPart hx (wpAny_bind (Lk.here ?_))))));rw[hd];refine wpAny_pure (a:=some dx) (wpAny_bind (wpAny_pure (wpAny_bind (kS D λh' D' sb=>?_))))
 obtain⟨GF,Lg,BS,GR,BV⟩:=eB D';have hz:GF.size<=sizeLine+1:=by
  have e1:=BV.length;have e2:(stored kvs name v).length<=kvs.length+1:=by unfold stored;split<;>simp
  rw[Array.length_toList]at e1;rw[sizeLine_eq];exact aX (.e .A .B (.l .B (.a .C .O) (.l .C (.k 1000) (.g .A (.a (.k 16777216) .O))))) rfl e1 e2 hl
 exact wpAny_bind (wpAny_lookBehind BS (pastItsLine_dict hz) (wpAny_pure (hq h' D' sb)))
end
end
section
noncomputable def gO(sl:Array (Option Value))(i:Nat):Option Value:=(sl.toList[i]?).getD none
noncomputable def HY(K:Frag)(C:Addr)(cd:ClassData)(sl:Array (Option Value)):Bool:=cd.mro==[.ref C,.type "Exception",.type "BaseException",.type "object"]&&sl.toList==[gO sl 0,gO sl 1,gO sl 2,gO sl 3,some (.builtin "Exception.__new__"),gO sl 5] && !cd.hasDel&&cd.hasDict&&nsOkIn K cd.ns&&nsIn K cd.ns "__init__"==some (some (.ref 129))
noncomputable def PY(K:Frag)(C:Addr)(o:Obj):Bool:=match o.data with
 | .cls cd=>o.cls==.type "type" && HY K C cd o.slots
 | _=>false
noncomputable def DT(K:Frag)(C:Addr):Bool:=clsAt K C&&(K.lookup C).elim false (PY K C)
theorem Lh(w:World):(DT (KO w) 132&&(findIn (KO w) (.ref 132) "__setattr__"==some (some (.builtin "object.__setattr__")))&&(takerIn (KO w) 132 "number"==some none)&&(takerIn (KO w) 132 "told"==some none))=true:=by kernel_rfl
theorem xp{K:Frag}{h:Heap}{N:Addr}{m:Str->Option Value}{n:Str}{v:Value}(X:K.In h)(G:h.Ns N m)(e:nsIn K N n=some (some v)):m n=some v:=by
 obtain⟨o,es,ep,ho,hd,_,hf⟩:=G;cases q:K.lookup N with
 | none=>unfold nsIn at e;rw[q]at e;cases e
 | some o'=>
  have z:=X _ _ q;rw[ho]at z;cases z;obtain⟨oc,od,dt,OP⟩:=o;cases hd;unfold nsIn at e;rw[q]at e;have e:(match es.toList.find? (·.key.isStr n) with
   | some e=>some (some e.val)
   | none=>if es.toList.any (·.refKey) then none else some none)=some (some v):=e
  rw[<-hf];unfold nsFind findBy;rw[<-Array.find?_toList];revert e;cases es.toList.find? (·.key.isStr n) with
  | some en=>intro e;cases e;rfl
  | none=>cases es.toList.any (·.refKey)<;>(intro e;cases e)
inductive Hu(h:Heap)(C:Addr):Prop
 | mk(nm q:Str)(N:Addr)(bs:List Value)(hdct:Bool)(sn:List Str)(sub:List Value)(ab:Bool)(col:Option Bool)(dd:Option Addr)(k0 k1 k2 k3 k5:Option Value)(mN:Str->Option Value)
  (hC:h.get? C=some (excClassObj nm q C N bs [.type "Exception",.type "BaseException",.type "object"] hdct sn sub ab col dd k0 k1 k2 k3 k5 "Exception.__new__")) (hn:h.Ns N mN) (hi:mN "__init__"=some (.ref 129))
theorem yx{K:Frag}{C:Addr}(e:DT K C=true):∃dd cd sl,K.lookup C=some ⟨.type "type",dd,.cls cd,sl⟩/\HY K C cd sl=true:=by
 have⟨e0,e1⟩:=(Bool.and_eq_true _ _).mp e;obtain⟨⟨oc,dd,dt,sl⟩,cd,ho,hd⟩:=rH e0;have hd:dt=.cls cd:=hd;rw[hd]at ho;rw[ho]at e1;have⟨e2,e3⟩:=(Bool.and_eq_true _ _).mp (show(oc==.type "type" && HY K C cd sl)=true from e1)
 exact⟨dd,cd,sl,beq_iff_eq.mp e2▸ho,e3⟩
theorem sV{K:Frag}{h:Heap}{C:Addr}(X:K.In h)(e:DT K C=true):Hu h C:=by
 obtain⟨dd,cd,sl,ho,e⟩:=yx e;obtain⟨nm,bs,mro,ns,qn,hd,sn,sub,ab,col,del⟩:=cd;obtain⟨l⟩:=sl;have hm:mro=[.ref C,.type "Exception",.type "BaseException",.type "object"]:=beq_iff_eq.mp (bH (bH (bH (bH (bH e).1).1).1).1).1;have hs:l=[gO ⟨l⟩ 0,gO ⟨l⟩ 1,gO ⟨l⟩ 2,gO ⟨l⟩ 3,some (.builtin "Exception.__new__"),gO ⟨l⟩ 5]:=beq_iff_eq.mp (bH (bH (bH (bH (bH e).1).1).1).1).2;have Qt:del=false:=nB (bH (bH (bH (bH e).1).1).1).2;have oM:nsOkIn K ns=true:=(bH (bH e).1).2;have WS:nsIn K ns "__init__"=some (some (.ref 129)):=beq_iff_eq.mp (bH e).2;clear e;subst hm Qt;obtain⟨k0,k1,k2,k3,k5,hl⟩:∃k0 k1 k2 k3 k5,l=[k0,k1,k2,k3,some (.builtin "Exception.__new__"),k5]:=⟨_,_,_,_,_,hs⟩;subst hl;obtain⟨mN,hN,hv⟩:∃mN,h.Ns ns mN/\mN "__init__"=some (.ref 129):=by
  refine⟨_,.of_isNs (isNs_of_in X oM),?_⟩;exact xp X (.of_isNs (isNs_of_in X oM)) WS
 exact⟨nm,qn,ns,bs,hd,sn,sub,ab,col,dd,k0,k1,k2,k3,k5,mN,X _ _ ho,hN,hv⟩
end
section
noncomputable def rR(o:Obj):FuncData:={ name:=(kO o).name,qualname:=("SnobolError.__init__":Str),params:=nA (bO 30 0),body:=.stmts (aM (bO 30 0)),scope:=aj (bO 30 0),globals:=mainGlobals,closure:=[(("__class__":Str),116)],defaults:=(kO o).defaults,kwdefaults:=(kO o).kwdefaults,doc:=(kO o).doc,pyModule:=(kO o).pyModule,annotations:=(kO o).annotations,code:=.ref 128,closureTuple:=(kO o).closureTuple,builtins:=builtinsNs }
theorem Ez(w:World):bq w 129=⟨.type "function",(bq w 129).dict,.func (rR (bq w 129)),(bq w 129).slots⟩:=by kernel_rfl
theorem zR(w:World):codeB (bq w 128) ("SnobolError.__init__":Str)=true:=by kernel_rfl
theorem zQ(w:World):bq w 116=⟨(bq w 116).cls,(bq w 116).dict,.cell (some (.ref 132)),(bq w 116).slots⟩:=by kernel_rfl
theorem zT(w:World)(S:Setting)(a b d:Value):peek (KO w) S (bindArgs (rR (bq w 129)) ⟨[a,b,d],[]⟩)=some [(("self":Str),a),(("number":Str),b),(("told":Str),d)]:=by kernel_rfl
theorem w8{s:Shared}(X:c.K.In s.heap)(a b d:Value):BindsTo s (rR (bq w 129)) ⟨[a,b,d],[]⟩ [(("self":Str),a),(("number":Str),b),(("told":Str),d)]:=kp_binds (K:=KO w) X λS=>zT w S a b d
theorem uT:∀x∈(aj (bO 30 0)).names,x.2≠.cell:=by decide+kernel
theorem uS:∀x∈[("self":Str),("number":Str),("told":Str)],(aj (bO 30 0)).names.lookup x=some .local:=by decide+kernel
theorem dc:(aj (bO 30 0)).isCoroutine=false/\(aj (bO 30 0)).isGenerator=false/\(aj (bO 30 0)).kind=.function:=⟨by kernel_rfl,by kernel_rfl,by kernel_rfl⟩
theorem yL{h:Heap}(X:c.K.In h):∃od sl,h.get? 129=some ⟨.type "function",od,.func (rR (bq w 129)),sl⟩:=by
 have e:c.K.lookup 129=some (bq w 129):=by rw[hK];exact iG w 129 (by decide+kernel)
 rw[Ez w]at e;exact⟨_,_,X _ _ e⟩
theorem DQ{h:Heap}(X:c.K.In h):∃o,h.get? 116=some o/\o.data=.cell (some (.ref 132)):=by
 have e:c.K.lookup 116=some (bq w 116):=by rw[hK];exact iG w 116 (by decide+kernel)
 rw[zQ w]at e;exact⟨_,X _ _ e,rfl⟩
end
section
open PySem PySem.W PyProof.Rows PySem.Calls PySem.Builtin PySem.Builtin.ObjectAttr PySem.Builtin.Getset_descriptor
inductive O7(K:Frag)(C:Addr):Prop
 | mk(cd:ClassData)(hc:clsIn K C=some cd)(hm:cd.mro=[.ref C,.type "Exception",.type "BaseException",.type "object"])(hd:cd.hasDict=true)
  (hs:findIn K (.ref C) "__setattr__"=some (some (.builtin "object.__setattr__"))) (t1:takerIn K C "number"=some none) (t2:takerIn K C "told"=some none) (hb:DT K C=true) (ho:∃o,K.lookup C=some o/\o.data=.cls cd)
theorem pM:O7 c.K 132:=by
 have h:=Lh w;rw[<-hK]at h;have k4:=(bH h).1;have k3:=(bH k4).1;have hb:=(bH k3).1;obtain⟨dd,cd,sl,ho,e⟩:=yx hb;have e3:=(bH (bH e).1).1;exact⟨cd,by delta clsIn;rw[ho],beq_iff_eq.mp (bH (bH (bH e3).1).1).1,(bH e3).2,beq_iff_eq.mp (bH k3).2,beq_iff_eq.mp (bH k4).2,beq_iff_eq.mp (bH h).2,hb,_,ho,rfl⟩
section
variable{A:Around}{E:Value->Shared->Prop}{s:Shared}{x:Addr}{Q:Unit->Shared->Prop}
theorem AL{v:Value}{fs:Array Value}(X:c.K.In s.heap)(hx:s.heap.get? x=some { cls:=.ref 132,dict:=none,data:=.fields fs,slots:= #[] })
  (hq:∀h' tk,h'.get? x=some { cls:=.ref 132,dict:=some s.heap.objs.size,data:=.fields fs,slots:= #[] }->h'.DictOf (strKind c.prog c.w) s.heap.objs.size [(("number":Str),v)]->(∀y o,y≠x->s.heap.get? y=some o->h'.get? y=some o)->Q () { s with heap:=h',toks:=tk }):
  wpAny (model c.prog c.w) A (setAttr (.ref x) "number" v) Q E s:=by
 obtain⟨cd,hc,hm,hd,hs,t1,t2,_⟩:=pM;have I:InstAt s.heap x { cls:=.ref 132,dict:=none,data:=.fields fs,slots:= #[] } 132 none:=⟨hx,rfl,rfl,trivial⟩;refine set_plain X I hs ?_;refine Hn (s:={ s with toks:=s.toks+1 }) X I hc hm t1 λb=>?_
 exact v9 (s:={ s with toks:=s.toks+1 }) X hx hc hd λh' e1 e2 e3=>hq h' _ e1 e2 e3
theorem x9{v:Value}{fs:Array Value}{dx:Addr}{od:Obj}{kvs:List (Str×Value)}(X:c.K.In s.heap)(hx:s.heap.get? x=some { cls:=.ref 132,dict:=some dx,data:=.fields fs,slots:= #[] })(D:s.heap.DictOf (strKind c.prog c.w) dx kvs)(hl:kvs.length<=1000)
  (hq:∀h' tk,h'.DictOf (strKind c.prog c.w) dx (stored kvs "told" v)->Heap.SameBut dx s.heap h'->Q () { s with heap:=h',toks:=tk }):
  wpAny (model c.prog c.w) A (setAttr (.ref x) "told" v) Q E s:=by
 obtain⟨cd,hc,hm,hd,hs,t1,t2,_⟩:=pM;obtain⟨es,ep,kQ,_,_⟩:=eB D;have I:InstAt s.heap x { cls:=.ref 132,dict:=some dx,data:=.fields fs,slots:= #[] } 132 (some { cls:=.type "dict",data:=.dict es ep }):=⟨hx,rfl,rfl,kQ⟩;refine set_plain X I hs ?_;refine Hn (s:={ s with toks:=s.toks+1 }) X I hc hm t2 λb=>?_
 exact tY (s:={ s with toks:=s.toks+1 }) X hx hc hd D hl λh' e1 e2=>hq h' _ e1 e2
end
end
section
theorem xb:(iR.toRowW.prog.main.scope.names.lookup ("super":Str)).isSome=false:=by kernel_rfl
noncomputable def GQ(P:Arguments):Bool:=match P.posonlyargs++P.args with | a::_=>a.arg==("self":Str) | []=>false
theorem zS:GQ (nA (bO 30 0))=true:=by kernel_rfl
theorem zU:∃ar,((nA (bO 30 0)).posonlyargs++(nA (bO 30 0)).args).head? =some ar/\ar.arg=("self":Str):=by
 have h:=zS;unfold GQ at h;generalize (nA (bO 30 0)).posonlyargs++(nA (bO 30 0)).args=l at h ⊢;cases l with
 | nil=>cases h
 | cons a l=>exact⟨a,rfl,eq_of_beq h⟩
noncomputable def uF(d:Data):Array Value:=match d with
 | .fields vs=>vs
 | _=> #[]
noncomputable def Jr(v:Option Value):Str×Tok:=match v with
 | some (.str x t)=>(x,t)
 | _=>(⟨#[]⟩,default)
theorem HN(w:World):(bq w 128).data=.fields (uF (bq w 128).data):=by kernel_rfl
theorem HQ(w:World):(uF (bq w 128).data)[2]? =some (.str (Jr (uF (bq w 128).data)[2]?).1 (Jr (uF (bq w 128).data)[2]?).2):=by kernel_rfl
theorem HO(w:World):((c.prog.main.file:Str)==(Jr (uF (bq w 128).data)[2]?).1)=true:=by kernel_rfl
theorem code_at{h:Heap}(X:c.K.In h):∃oc vs file tf,h.get? 128=some oc/\oc.data=.fields vs/\vs[2]? =some (.str file tf)/\((c.prog.main.file:Str)==file)=true:=
 ⟨_,_,_,_,X _ _ (by rw[hK];exact iG w 128 (by decide+kernel)),HN w,HQ w,HO w⟩
theorem w9:(aj (bO 30 0)).names.lookup ("super":Str)=some .globalImplicit/\(aj (bO 30 0)).names.lookup ("__class__":Str)=some .free/\(aj (bO 30 0)).names.lookup ("self":Str)=some .local/\(aj (bO 30 0)).names.lookup ("number":Str)=some .local/\(aj (bO 30 0)).names.lookup ("told":Str)=some .local:=by
 refine⟨?_,?_,?_,?_,?_⟩<;>kernel_rfl
end
section
theorem AK{α:Code}{M:Model}{A:Around}{env:Env}{b b':List Stmt}{Q:Flow->Shared->Prop}{E:Value->Shared->Prop}{s:Shared}(eb:b=b')(h:PySem.wpAt M A α (execs b' env) Q E s):PySem.wpAt M A α (execs b env) Q E s:=by subst eb;exact h
theorem Aj(w:World):nsIn (KO w) cStatics "thirdparty.any"=some none:=by kernel_rfl
theorem u0{A:Around}{E:Value->Shared->Prop}{s:Shared}{b:Addr}{vs:Array Value}{Q:Keeper->Shared->Prop}(hb:s.heap.get? b=some { cls:=.type "method-wrapper",dict:=none,data:=.fields vs,slots:= #[] })(h:Q .machine s):wpAny (model c.prog c.w) A (keeperOf (.ref b)) Q E s:=
 wpAny_bind (wpAny_load hb (wpAny_pure h))
theorem x8{A:Around}{E:Value->Shared->Prop}{hh:Heap}{g d t os}{pos q r:Pos}{k:Nat}{env:Env}{x:Str}{b e t0:Addr}{Q:Value->Shared->Prop}{nm qn:Str}{N:Addr}{bs:List Value}{hdct:Bool}{sn:List Str}{sub:List Value}{ab:Bool}{col:Option Bool}{dd:Option Addr}{k0 k1 k2 k3 k5:Option Value}
  (hb:hh.get? b=some { cls:=.type "method-wrapper",dict:=none,data:=.fields #[.builtin "Exception.__init__",.ref e],slots:= #[] })
  (hx:hh.get? e=some { cls:=.ref 132,dict:=none,data:=.fields #[.ref t0,.none,.none,.none,.bool false,.none],slots:= #[] })
  (hC:hh.get? 132=some (excClassObj nm qn 132 N bs [.type "Exception",.type "BaseException",.type "object"] hdct sn sub ab col dd k0 k1 k2 k3 k5 "Exception.__new__"))
  (hq:∀h' tk t1,h'.get? e=some { cls:=.ref 132,dict:=none,data:=.fields #[.ref t1,.none,.none,.none,.bool false,.none],slots:= #[] }->(∀y o,y≠e->hh.get? y=some o->h'.get? y=some o)->Q .none ⟨h',g,d,tk,os⟩):
  wpAny (model c.prog c.w) A (callWith pos (.ref b) [] (backTo q (starEach [.Constant (.str x) k r] env)) []) Q E ⟨hh,g,d,t,os⟩:=by
 unfold callWith;refine wpAny_bind (wpAny_holding (wpAny_mono (Q:=λa cy=>a=⟨[.str x t],[]⟩/\cy=⟨hh,g,d,t+1,os⟩) (E:=λ_ _=>False) (evalArgs_plain (spliced_more (wpAny_Constant_str (spliced_none ⟨rfl,rfl⟩)))) (λa cy je=>wpAny_bind (wpAny_standAt ?_)) λ_ _ z=>z.elim))
 obtain⟨rfl,rfl⟩:=je;refine wpAny_bind (m:=keeperOf (.ref b)) (u0 hb ?_);refine wpAny_bind (JD hb hx F.excBase_Exception hC λh' e1 e2=>wpAny_bind (wpAny_holding (wpAny_point (wpAny_pure (hq _ _ _ e1 e2)))))
namespace iK
@[reducible] noncomputable def P(A:Around)(E:Value->Shared->Prop)(s:Shared)(t0:Addr)(u1 u2:Value)(Q:Value->Shared->Prop):Prop:=∀{e:Addr} (rP:A.depth<recursionLimit) (X:c.K.In s.heap) (T:TopRead c.p c.loose c.mg c.mb s.heap) (hl:s.heap.NoLimit) (LH:∀o,c.K.lookup e≠some o) (he:s.heap.get? e=some { cls:=.ref 132,dict:=none,data:=.fields #[.ref t0,.none,.none,.none,.bool false,.none],slots:= #[] }) (hq:∀h' tk d,(∀b o,b≠e->s.heap.get? b=some o->h'.get? b=some o)->s.heap.get? d=none->d≠e->(∃t1,h'.get? e=some { cls:=.ref 132,dict:=some d,data:=.fields #[.ref t1,.none,.none,.none,.bool false,.none],slots:= #[] })->
   (∃kvs,h'.DictOf (strKind c.prog c.w) d kvs/\kvs.lookup ("number":Str)=some u1)->Q .none { s with heap:=h',toks:=tk }),wpAny (model c.prog c.w) A (call (.ref 129) [.ref e,u1,u2]) Q E s
noncomputable def Q_:=UU λA=>UU λE=>UU λs=>UU λt0=>UU λu1=>UU (P A E s t0 u1)
noncomputable def x_:=xx Q_ (({}:Around),(λ_ _=>True),({}:Shared),(0:Nat),default,default,(λ_ _=>True))
def A:=x_.1
def E:=x_.2.1
def s:=x_.2.2.1
def t0:=x_.2.2.2.1
def u1:=x_.2.2.2.2.1
def u2:=x_.2.2.2.2.2.1
def Q:=x_.2.2.2.2.2.2
set_option tactic.hygienic true in
theorem go:P A E s t0 u1 u2 Q:=by
 intro e rP X T hl LH he hq;obtain⟨od,sl,ho⟩:=yL X;refine wpAny_call (ks_codeAny_call_defAt (fd:=rR (bq w 129)) (binds:=[(("self":Str),.ref e),(("number":Str),u1),(("told":Str),u2)]) rP ho rfl hl (codeRec_of X (by rw[hK];exact m6 (by decide+kernel) (zR w))) rfl (w8 X _ _ _) uT (λx hx=>?_) (λh2 JU kp=>?_) dc.1 dc.2.1 dc.2.2)
 ·refine uS x.1 ?_
  rcases List.mem_cons.mp hx with rfl | hx
  ·exact .head _
  ·rcases List.mem_cons.mp hx with rfl | hx
   ·exact .tail _ (.head _)
   ·rw[List.mem_singleton]at hx;subst hx;exact .tail _ (.tail _ (.head _))
 refine AK (b':=?bb) ?eb ?hh
 case eb=>((conv=>lhs;whnf);first | done | rfl)
 refine ks_wpAt_execs_cons (ks_wpAt_Expr_any (ks_wpAt_MethodCall ?_));obtain⟨ar,Dw,LY⟩:=zU;obtain⟨oc,vs,file,tf,Wt,QJ,QT,LJ⟩:=code_at X;obtain⟨k1,k2,k3,k4,k5⟩:=w9;refine ks_wpAt_super_base (f:=129) (fd:=rR (bq w 129)) (ar:=ar) (cc:=128) k1 k2 rfl rfl (kp _ _ ho) rfl Dw rfl (kp _ _ Wt) QJ QT LJ xb ?_;rw[LY];refine ks_loadName_global dc.2.2 k1 (loadGlobal_builtin (mb:=c.mb) (mg:=c.mg) (v:=.type "super") ?g1 ?g2 ?g3 ?g4 ⟨rfl,?_⟩)
 case g1=>exact T.g.keeps kp
 case g2=>exact mg_none_of X T.g (by rw[hK];kernel_rfl)
 case g3=>exact T.b.keeps kp
 case g4=>exact(T.builtins _ (by decide)).trans (by decide+kernel)
 obtain⟨YI,Wu,Oj⟩:=DQ X;refine wpAny_loadName_free dc.2.2 k2 rfl ⟨_,kp _ _ Wu,Oj⟩ ?_;refine wpAny_loadName_local dc.2.2 k3 JU rfl ?_;obtain⟨cd,hc,hm,hd,hs,t1,t2,hb,oK,LU,Qo⟩:=pM;have X2:c.K.In h2:=X.keeps kp;have Uq:=X2 _ _ LU;have Oe:=Qo;refine ks_wpAny_isType_cls Uq Oe ⟨rfl,?_⟩;refine ks_wpAny_call_super Uq Oe (kp _ _ he) rfl (λc e=>?_) (looks_mroIn X2 ?sub) (λh3 e3 Mh=>?_)
 ·cases e
 case sub=>(unfold mroIn;rw[hc];simp[hm])
 have X3:c.K.In h3:=X2.keeps Mh;obtain⟨nm,qn,N,bs,hdct,sn,sub,ab,col,dd,q0,q1,q2,q3,q5,mN,hC,hN,hi⟩:=sV X3 hb;have ic:e≠132:=by
  rintro rfl;have:=Mh _ _ (kp _ _ he);rw[hC]at this;cases this
 refine v8 e3 (looks_opaque X3 (by rw[hK];exact Aj w)) (l₀:=cd.mro) (λA Q E s k q=>wpAny_bind ((looks_clsIn X3 hc) A _ E s k (wpAny_pure q))) (l:=[.type "Exception",.type "BaseException",.type "object"]) (by rw[hm];decide+kernel) X3 (by decide+kernel) ic (Mh _ _ (kp _ _ he)) rfl hC (by decide+kernel) ?_
 refine x8 (e:=e) (t0:=t0) (b:=h3.objs.size) (Heap.get?_push_at rfl rfl) (Heap.get?_push_of_some _ (Mh _ _ (kp _ _ he))) (Heap.get?_push_of_some _ hC) λh4 J8 Yd UC Xm=>?_
 have Mi:∀y o,y≠e->h2.get? y=some o->h4.get? y=some o:=λy o hy q=>Xm y o hy (Heap.get?_push_of_some _ (Mh _ _ q))
 have Ut:s.heap.objs.size≠e:=Nat.ne_of_gt (Heap.lt_size he);have X4:c.K.In h4:=λa o q=>Mi a o (by rintro rfl;exact LH _ q) (X2 a o q)
 have sZ:=JU.at (h':=h4) (λo q=>Mi _ _ Ut q)
 refine ks_wpAt_execs_cons (ks_wpAt_Assign_Attr (wpAt_of_wpAny (wpAny_Name (wpAny_loadName_local dc.2.2 k4 sZ rfl (wpAny_Name (wpAny_loadName_local dc.2.2 k3 sZ rfl (AL (s:=⟨h4,s.gens,s.drawn,J8,s.os⟩) X4 UC λh6 J9 UD D6 Q8=>?_)))))))
 have X6:c.K.In h6:=λa o q=>Q8 a o (by rintro rfl;exact LH _ q) (X4 a o q)
 have LS:=sZ.at (h':=h6) (λo q=>Q8 _ _ Ut q)
 refine ks_wpAt_execs_cons (ks_wpAt_Assign_Attr (wpAt_of_wpAny (wpAny_Name (wpAny_loadName_local dc.2.2 k5 LS rfl (wpAny_Name (wpAny_loadName_local dc.2.2 k3 LS rfl (x9 (s:=⟨h6,s.gens,s.drawn,J9,s.os⟩) (od:=default) X6 UD D6 (by exact Nat.succ_pos _) λh7 TB D7 U8=>?_)))))))
 have Qs:(h4.objs.size:Nat)≠e:=Nat.ne_of_gt (Heap.lt_size UC);refine wpAt_of_wpAny (wpAny_pure (hq h7 TB h4.objs.size (λb o hb q=>?_) ?_ Qs ⟨Yd,?_⟩ ⟨_,D7,?_⟩))
 ·have Wo:b≠h4.objs.size:=Nat.ne_of_lt (Heap.lt_size (Mi _ _ hb (kp _ _ q)))
  exact(U8.2 b Wo).trans (Q8 _ _ hb (Mi _ _ hb (kp _ _ q)))
 ·cases q:s.heap.get? h4.objs.size with
  | none=>rfl
  | some o=>exact absurd (Heap.lt_size (Mi _ _ Qs (kp _ _ q))) (Nat.lt_irrefl _)
 ·exact(U8.2 e Qs.symm).trans UD
 ·(first | rfl | kernel_rfl | (unfold stored;simp;done) | (unfold stored;rw[if_neg (by decide)];rfl) | (unfold stored;decide))
end iK
theorem Ca{A:Around}{E:Value->Shared->Prop}{s:Shared}{e t0:Addr}{u1 u2:Value}{Q:Value->Shared->Prop}(rP:A.depth<recursionLimit)(X:c.K.In s.heap)(T:TopRead c.p c.loose c.mg c.mb s.heap)(hl:s.heap.NoLimit)(LH:∀o,c.K.lookup e≠some o)(he:s.heap.get? e=some { cls:=.ref 132,dict:=none,data:=.fields #[.ref t0,.none,.none,.none,.bool false,.none],slots:= #[] })(hq:∀h' tk d,(∀b o,b≠e->s.heap.get? b=some o->h'.get? b=some o)->s.heap.get? d=none->d≠e->(∃t1,h'.get? e=some { cls:=.ref 132,dict:=some d,data:=.fields #[.ref t1,.none,.none,.none,.bool false,.none],slots:= #[] })->
   (∃kvs,h'.DictOf (strKind c.prog c.w) d kvs/\kvs.lookup ("number":Str)=some u1)->Q .none { s with heap:=h',toks:=tk }):wpAny (model c.prog c.w) A (call (.ref 129) [.ref e,u1,u2]) Q E s:=(xa (Q:=iK.Q_) iK.go (A,E,s,t0,u1,u2,Q):iK.P A E s t0 u1 u2 Q) rP X T hl LH he hq
end
section
theorem xv{prog:Program}{w:World}{A:Around}{E:Value->Shared->Prop}{env:Env}{C N:Addr}{nm q:Str}{bs bm:List Value}{hdct:Bool}{sn:List Str}{sub:List Value}{ab:Bool}{col:Option Bool}{dd:Option Addr}{k0 k1 k2 k3 k5:Option Value}{newId:String}
  {s:Shared} {x:Sem Value} {Q:Flow->Shared->Prop} (Ly:bm.contains (.type "BaseException")=true) (hh:A.handled=none)
  (h:wpAny (model prog w) A x (λv cy=>∃e t d,v=.ref e/\cy.heap.get? C=some (excClassObj nm q C N bs bm hdct sn sub ab col dd k0 k1 k2 k3 k5 newId)/\
   cy.heap.get? e=some { cls:=.ref C,dict:=some d,data:=.fields #[.ref t,.none,.none,.none,.bool false,.none],slots:= #[] }/\E (.ref e) cy) E s):
  wpAny (model prog w) A (raiseStmt env (some x) none) Q E s:=by
 have Ql:(Value.ref C::bm).contains (.type "BaseException")=true:=by rw[List.contains_cons,Ly,Bool.or_true]
 unfold raiseStmt;refine wpAny_bind (wpAny_mono h (λv cy je=>?_) λ_ _ x=>x)
 obtain⟨e,t,d,rfl,hC,he,hE⟩:=je;obtain⟨hp,g,dr,tk,os⟩:=cy
 repeat (first | with_reducible refine wpAny_loadPart_at he ?_ | with_reducible refine wpAny_loadPart_at hC ?_ | (with_reducible refine wpAny_isSubtype_exc hC ?_;rw[Ql]) | wp_step)
 exact wpAny_raiseNew_none hh hE
end
section
theorem CA{A:Around}{E:Value->Shared->Prop}{s:Shared}{u1 u2:Value}{Q:Value->Shared->Prop}(rP:A.depth+1<recursionLimit)(X:c.K.In s.heap)(T:TopRead c.p c.loose c.mg c.mb s.heap)(hl:s.heap.NoLimit)
  (hq:∀h' tk e d t1 kvs,(∀b o,s.heap.get? b=some o->h'.get? b=some o)->s.heap.get? e=none->s.heap.get? d=none->d≠e->
   h'.get? e=some { cls:=.ref 132,dict:=some d,data:=.fields #[.ref t1,.none,.none,.none,.bool false,.none],slots:= #[] }->
   h'.DictOf (strKind c.prog c.w) d kvs->kvs.lookup ("number":Str)=some u1->Q (.ref e) { s with heap:=h',toks:=tk }):
  wpAny (model c.prog c.w) A (call (.ref 132) [u1,u2]) Q E s:=by
 obtain⟨cd,hc,hm,hd,hs,t1,t2,hb,oK,LU,Qo⟩:=pM;obtain⟨nm,qn,N,bs,hdct,sn,sub,ab,col,dd,q0,q1,q2,q3,q5,mN,hC,hN,hi⟩:=sV X hb;obtain⟨od,sl,ho⟩:=yL X;obtain⟨hh,g,dr,tk,os⟩:=s;refine wpAny_call_exc_init F.excBase_Exception hC hN hi ho rfl (λh1 e m=>?_) (by size_fits)
 obtain⟨t0,he,_,_⟩:=m.there;have X1:c.K.In h1:=X.keeps m.keeps;refine Ca (s:=⟨h1,g,dr,tk,os⟩) rP X1 (T.keeps m.keeps) (hl.keeps m.keeps) (λo q=>?_) he (λh' Ye d k1 k2 k3 k4 k5=>⟨rfl,?_⟩)
 ·have:=X e o q
  rw[m.new]at this;cases this
 obtain⟨t9,k4⟩:=k4;obtain⟨kvs,k5,k6⟩:=k5;refine hq h' Ye e d t9 kvs (λb o q=>k1 b o (λz=>?_) (m.keeps b o q)) m.new ?_ k3 k4 k5 k6
 ·rw[z,m.new]at q;cases q
 ·cases q:hh.get? d with
  | none=>rfl
  | some o=>exact absurd ((m.keeps d o q).symm.trans k2) (by exact nofun)
end
section
theorem C0{n:Nat}{X:Int->Loc->AH->Prop}{env:Env}{ρ:Loc}{σ:AH}{a b:Expr}{np Bz pos:Pos}{Q:Fl->Loc->AH->Prop}
  (hx:env.kindOf "SnobolError"=some .globalImplicit) (e:nsIn c.K mainGlobals "SnobolError"=some (some (.ref 132))) (hk:Keeps (.ref 132)) (hp:[a,b].all fA=true)
  (h:rt ⟨n+2,X⟩ env [a,b] ρ σ (λvs ρ' af=>∃num v2,vs=[.int num,v2]/\X num ρ' af)):
  oq ⟨n+2,X⟩ env (.Raise (some (.Call (.Name "SnobolError" np) [a,b] [] Bz)) none pos) ρ σ Q:=λA s hA S F _=>by
 obtain⟨cd,hc,hm,hd,hs,t1,t2,hb,oK,LU,Qo⟩:=pM;obtain⟨nm,qn,N,bs,hdct,sn,sub,ab,col,dd,q0,q1,q2,q3,q5,mN,hC,hN,hi⟩:=sV S.oO hb;rw[arm_exec_Raise];refine wpAny_bind (wpAny_standAt (xv (C:=132) (nm:=nm) (q:=qn) (N:=N) (bs:=bs) (bm:=[.type "Exception",.type "BaseException",.type "object"]) (hdct:=hdct) (sn:=sn) (sub:=sub) (ab:=ab) (col:=col) (dd:=dd) (k0:=q0) (k1:=q1) (k2:=q2) (k3:=q3) (k5:=q5) (newId:="Exception.__new__") (by decide) hA.hand ?_))
 refine wpAny_bind (wpAny_mono (wpAny_Call_ofName (Name_function_global F.kind hx (loadGlobal_global (mg:=c.mg) (by rw[F.glob.1];exact S.top.g) (mg_of S.oO S.top.g e) ?_) (by decide))) (λv Yc Q0=>Q0) λ_ _ x=>x)
 have BV:=plain_any hp Bz env;refine callWith_of (P:=c.K.In) (by rw[BV];rfl) hk (lQ BV (wpAny_mono (h Bz A s hA S F trivial) (λus s1 p=>?_) λ_ _ x=>x))
 obtain⟨h1,gv,vs,bJ,aI,rfl,S1,F1,M1,r1,num,v2,rfl,q⟩:=p;refine⟨S1.oO,?_⟩;have Up:h1.get? 132=s.heap.get? 132:=(S1.oO _ _ LU).trans (S.oO _ _ LU).symm;rw[hC]at Up;obtain⟨u1,u2,rfl,ra,rb⟩:=d9 r1;obtain⟨ta,rfl⟩:=ra.int_inv;refine CA (s:=⟨h1,s.gens,s.drawn,gv,s.os⟩) (by have:=hA.depth;have:A.depth+(n+2)<recursionLimit:=this;exact aH (.t (.a .A (.a .B (.k 2))) (.k 1000) (.b (.a .A .O) (.k 1000))) rfl this) S1.oO S1.top S1.top.nolimit λhF tk e d t kvs kp ne nd Rq he D hn=>?_
 refine wpAny_bind (wpAny_standAt (wpAny_pure ⟨e,t,d,rfl,kp _ _ Up,he,?_⟩));refine EPost.made (s:=s) (A:=A) ?_ S1 F1 M1 kp ne he rfl D nd Rq hn q;rcases hA.frames with z | z
 ·exact z.2
 ·exact absurd q (z.2 _ _ _)
end
section
theorem Fo(w:World):(hasDictIn (KO w) 132&&(findIn (KO w) (.ref 132) "number"==some none)&&(findIn (KO w) (.ref 132) "__getattr__"==some none)&&(findIn (KO w) (.ref 132) "__getattribute__"==some (some (.builtin "BaseException.__getattribute__"))))=true:=by kernel_rfl
theorem Ed:builtinKind "BaseException.__getattribute__"=some .slot:=by decide+kernel
theorem BI:splitId "BaseException.__getattribute__"=some ("BaseException","__getattribute__"):=by decide+kernel
theorem Lr:(Value.builtin "BaseException.__getattribute__"==Value.builtin "object.__getattribute__")=false:=by decide+kernel
theorem jN(k:Str):∀kvs:List (Str×Value),valueAt kvs k=kvs.lookup k
 | []=>rfl
 | (x,v)::kvs=>by
  have ih:=jN k kvs;unfold valueAt at ih ⊢;rw[List.lookup_cons,List.find?_cons];by_cases q:x=k
  ·subst q;simp
  ·have q2:(k==x)=false:=by simpa using λz=>q z.symm
   rw[q2];simp only[q,decide_false];exact ih
theorem Dp{A:Around}{E:Value->Shared->Prop}{s:Shared}{B:Heap}{e d:Addr}{f:Option Value}{kvs:List (Str×Value)}{num:Int}{t:Tok}{Q:Value->Shared->Prop}(X:c.K.In s.heap)(Y:ExcAt B s.heap e d f)
  (D:s.heap.DictOf (strKind c.prog c.w) d kvs) (hn:kvs.lookup ("number":Str)=some (.int num t)) (hq:Q (.int num t) { s with toks:=s.toks+1 }):wpAny (model c.prog c.w) A (getAttr (.ref e) "number" true) Q E s:=by
 have h:=Fo w;rw[<-hK]at h;have k4:=(bH h).1;have k3:=(bH k4).1;have g2:=(bH k3).1;have g3:=beq_iff_eq.mp (bH k3).2;have g4:=beq_iff_eq.mp (bH k4).2;have g5:=beq_iff_eq.mp (bH h).2;obtain⟨es,ep,kQ,hk,hp⟩:=eB D;have I:∃oe,InstAt s.heap e oe 132 (some { cls:=.type "dict",data:=.dict es ep }):=by
  cases Y with
  | made he hc hd hf h1=>exact⟨_,he,hc,by unfold notCls;rw[hf],by rw[hd];exact kQ⟩
  | hZ he hc hd hf h1 hT ne ht rQ h3=>exact⟨_,he,hc,by unfold notCls;rw[hf],by rw[hd];exact kQ⟩
 obtain⟨oe,I⟩:=I;obtain⟨cd,hc,hm,_⟩:=pM;have L0:=I.type (M:=model c.prog c.w);have L1:=looks_findIn (M:=model c.prog c.w) X g5;have L2:=looks_findIn (M:=model c.prog c.w) X g4;have L3:=looks_find (M:=model c.prog c.w) X I (findObj_own (attr:=none) g2 g3 rfl (by rw[nq hk hp,jN,hn]))
 have SF:=PySem.F.attr_Exception.ga;have Ii:cd.mro.contains (.type "BaseException")=true:=by rw[hm];rfl
 have ne:cd.mro.isEmpty=false:=by rw[hm];rfl
 have sub:Looks (model c.prog c.w) s.heap (isInstance (.ref e) (.type "BaseException")) true:=L0.andThen (looks_mroIn X (by unfold mroIn;rw[hc,Option.bind_some,if_neg (by rw[ne];decide),Ii]))
 obtain⟨hh,g,dr,tk,os⟩:=s;unfold getAttr getAttrBy;refine wpAny_bind (wpAny_mkText (wpAny_holding (wpAny_bind (L0.at (wpAny_bind (L1.at ?_))))));dsimp only;rw[Lr,Bool.and_false,if_neg (by decide)]
 unfold getAttrByItsOwn;refine wpAny_bind (show wpAny _ _ (hookBefore (.ref 132)) _ _ _ from L2.at (wpAny_bind (wpAny_attempt (wpAny_holding ?_))))
 unfold callGetattribute;rw[if_neg (by decide)]
 unfold boundAndCalled;refine wpAny_bind (wpAny_of_eq (SF.bind (.ref e)) ?_);refine wpAny_call ?_;refine codeAny_call_builtin SF.plain PySem.F.entry_bexc_ga (@check_slot (model c.prog c.w) _ _ ⟨hh,g,dr,tk+1,os⟩ "BaseException.__getattribute__" "BaseException" "__getattribute__" (.ref e) [.str "number" tk] [] _ Ed BI sub (PySem.F.args_bexc_ga _ _) ?_);refine wpAny_bind (wpAny_pure (wpAny_bind (wpAny_pure ?_)));refine wpAny_bind (L0.at (wpAny_bind (L3.at ?_)));refine wpAny_pure ?_;exact wpAny_pure hq
section
variable{O:List Env}{env:Env}{B h h':Heap}{σ af:AH}{ρ:Loc}
theorem uh.land(F:uh O env B h σ ρ)(st:B.StaysIn h):dh O env h σ ρ:=by
 refine⟨λx v e=>?_,F.ns,λb hb=>?_,F.nodup,F.cell,F.kind,F.glob,F.out⟩
 ·obtain⟨u,hu,r⟩:=F.has x v e;exact⟨u,hu,r.keep λb o e _=>st b o e⟩
 ·obtain⟨e1,e2,o,e3,e4⟩:=F.sep b hb
  refine⟨e1,e2,o,e3,?_⟩;rcases List.mem_cons.mp hb with rfl | m
  ·obtain⟨_,o',es,ep,f1,f2,_⟩:=F.ns
   rw[e3]at f1;cases f1;exact cX f2
  ·obtain⟨q,hq,rfl⟩:=List.mem_map.mp m
   obtain⟨v,o',f1,f2⟩:=F.cell q hq;rw[e3]at f1;cases f1;exact iS f2
theorem Hx.land(M:Hx O env σ h B h' af)(st:B.StaysIn h'):Fm O env σ h h' af:=⟨λb o e n f g=>st b o (M.keep b o e n f g),M.slots,M.iA,M.fresh⟩
theorem dh.drop(S:St h σ){x:Str}{m:Str->Option Value}{v:Option Value}{ρ':Loc}(F:dh O env h σ ρ)(hm:h.Ns env.locals m)(hn:h'.Ns env.locals λy=>if y=x then v else m y)(sb:Heap.SameBut env.locals h h')(hl:∀z w,ρ'.lookup z=some w->z≠x/\ρ.lookup z=some w):
  dh O env h' σ ρ':=by
 have mem:env.locals∈aw env:=.head _;obtain⟨e1,e2,o,e3,e4⟩:=F.sep _ mem;have lk:=c6 e3 e4 λb o q e=>(sb.2 b q).trans e
 have Hb:=F.nodup;unfold aw at Hb;rw[List.nodup_cons]at Hb;refine⟨λy w e=>?_,⟨_,hn⟩,λb hb=>?_,F.nodup,λq hq=>IsCell.keep (λo e=>(sb.2 q.2 λz=>Hb.1 (by rw[<-z];exact List.mem_map_of_mem hq)).trans e) (F.cell q hq),F.kind,F.glob,F.kW mem sb⟩
 ·obtain⟨q,e⟩:=hl y w e
  obtain⟨u',hu,r'⟩:=F.has y w e;refine⟨u',?_,r'.keep lk⟩;rcases hu with ⟨hl,m',Iy,hv⟩ | ⟨hk,a,o',hc,ho,hd⟩
  ·exact .inl ⟨hl,_,hn,by rw[if_neg q,Ns.uniq hm Iy];exact hv⟩
  ·refine .inr ⟨hk,a,o',hc,(sb.2 a λq'=>?_).trans ho,hd⟩
   refine Hb.1 (q'▸List.mem_map.mpr ⟨(y,a),?_,rfl⟩);obtain⟨l1,l2,e1,_⟩:=List.lookup_eq_some_iff.mp hc;rw[e1];exact iy
 ·obtain⟨f1,f2,o',f3,f4⟩:=F.sep b hb
  by_cases q:b=env.locals
  ·subst q
   obtain⟨ME,es,ep,ho,hd,_⟩:=hn;exact⟨f1,f2,ME,ho,cX hd⟩
  ·exact⟨f1,f2,o',(sb.2 b q).trans f3,f4⟩
end
theorem ExcAt.away{B h h':Heap}{e d L:Addr}{f:Option Value}(Y:ExcAt B h e d f){o:Obj}(hL:h.get? L=some o)(hd:∀vs,o.data≠.fields vs)(sb:Heap.SameBut L h h'):ExcAt B h' e d f:=by
 have t:∀{b:Addr}{ob:Obj}{vs:Array Value},h.get? b=some ob->ob.data=.fields vs->h'.get? b=some ob:=λe1 e2=>(sb.2 _ λq=>by subst q;rw[hL]at e1;cases e1;exact hd _ e2).trans e1
 cases Y with
 | made he hc hd hf h1=>exact .made (t he hf) hc hd hf h1
 | hZ he hc hd hf h1 hT ne ht rQ h3=>exact .hZ (t he hf) hc hd hf h1 hT ne (t ht rQ) rQ h3
section
variable{A:Around}{E:Value->Shared->Prop}{s:Shared}{env:Env}{σ aI:AH}{bJ:Loc}{B h1:Heap}{e d:Addr}{tk:Nat}{num:Int}{wr fo:Str}{np p1 p2 p3 p4 hp:Pos}{Q:Fl->Loc->AH->Prop}
end
namespace lL
set_option tactic.hygienic true in
@[reducible] noncomputable def P(A:Around)(E:Value->Shared->Prop)(s:Shared)(env:Env)(σ aI:AH)(bJ:Loc)(B h1:Heap)(e d:Addr)(tk:Nat)(num:Int)(wr fo:Str)(np p1 p2 p3 p4 hp:Pos)(Q:Fl->Loc->AH->Prop):Prop:=∀(wd:A.frames=some (env::cY env A))(hf:env.frame=some env.locals)(S:St B aI)(F:uh (cY env A) env B h1 aI bJ)(Y:Pb (cY env A) env e d num B h1)(M:Hx (cY env A) env σ s.heap B h1 aI)(kx:env.kindOf "SnobolError"=some .globalImplicit)(hg:nsIn c.K mainGlobals "SnobolError"=some (some (.ref 132)))(kw:env.kindOf wr=some .local)(kf:env.kindOf fo=some .local)(hw:bJ.lookup wr=none)(ic:fo≠wr)(QU:(wr==("__classdict__":Str))=false)(OF:(wr==("__debug__":Str))=false)(q:Q .next ((fo,.int num)::bJ) aI),wpAny (model c.prog c.w) A (noteFrame (.ref e) env) (λ_ s2=>wpAny (model c.prog c.w) A (setFlight (.ref e) none) (λ_ s3=>wpAny (model c.prog c.w) A (handleBy (.ref e) env [.ExceptHandler (some (.Name "SnobolError" np)) (some wr) [.Assign [.Name fo p1] (.Attribute (.Name wr p2) "number" p3) p4] hp]) (aR (cY env A) env σ s oZ Q) E s3) E s2) E { s with heap:=h1,toks:=tk }
noncomputable def Q_:=UU λA=>UU λE=>UU λs=>UU λenv=>UU λσ=>UU λaI=>UU λbJ=>UU λB=>UU λh1=>UU λe=>UU λd=>UU λtk=>UU λnum=>UU λwr=>UU λfo=>UU λnp=>UU λp1=>UU λp2=>UU λp3=>UU λp4=>UU (P A E s env σ aI bJ B h1 e d tk num wr fo np p1 p2 p3 p4)
noncomputable def x_:=xx Q_ (({}:Around),(λ_ _=>True),({}:Shared),default,(λ_=>none),(λ_=>none),[],default,default,(0:Nat),(0:Nat),0,0,"","",default,default,default,default,default,default,(λ_ _ _=>True))
def A:=x_.1
def E:=x_.2.1
def s:=x_.2.2.1
def env:=x_.2.2.2.1
def σ:=x_.2.2.2.2.1
def aI:=x_.2.2.2.2.2.1
def bJ:=x_.2.2.2.2.2.2.1
def B:=x_.2.2.2.2.2.2.2.1
def h1:=x_.2.2.2.2.2.2.2.2.1
def e:=x_.2.2.2.2.2.2.2.2.2.1
def d:=x_.2.2.2.2.2.2.2.2.2.2.1
def tk:=x_.2.2.2.2.2.2.2.2.2.2.2.1
def num:=x_.2.2.2.2.2.2.2.2.2.2.2.2.1
def wr:=x_.2.2.2.2.2.2.2.2.2.2.2.2.2.1
def fo:=x_.2.2.2.2.2.2.2.2.2.2.2.2.2.2.1
def np:=x_.2.2.2.2.2.2.2.2.2.2.2.2.2.2.2.1
def p1:=x_.2.2.2.2.2.2.2.2.2.2.2.2.2.2.2.2.1
def p2:=x_.2.2.2.2.2.2.2.2.2.2.2.2.2.2.2.2.2.1
def p3:=x_.2.2.2.2.2.2.2.2.2.2.2.2.2.2.2.2.2.2.1
def p4:=x_.2.2.2.2.2.2.2.2.2.2.2.2.2.2.2.2.2.2.2.1
def hp:=x_.2.2.2.2.2.2.2.2.2.2.2.2.2.2.2.2.2.2.2.2.1
def Q:=x_.2.2.2.2.2.2.2.2.2.2.2.2.2.2.2.2.2.2.2.2.2
theorem go:P A E s env σ aI bJ B h1 e d tk num wr fo np p1 p2 p3 p4 hp Q:=by
 intro wd hf S F Y M kx hg kw kf hw ic QU OF q;refine qd (s:={ s with heap:=h1,toks:=tk }) wd hf Y.bP Y.new Y.fr Y.at_ λh2 y2 Hj GI t2=>?_
 refine iQ (s:={ s with heap:=h2,toks:=tk }) (fr:=none) Hj y2 GI λh3 y3 J4 Lo t3=>?_
 have S3:St h3 aI:=S.ext J4;obtain⟨cd,hc,hm,hd,hs,q1,q2,hb,_⟩:=pM;obtain⟨nm,qn,N,bs,hdct,sn,sub,ab,col,dd,k0,k1,k2,k3,k5,mN,hC,hN,hi⟩:=sV S3.oO hb;obtain⟨oe,Ov,Qu⟩:∃oe,h3.get? e=some oe/\oe.cls=.ref 132:=by
  cases y3 with
  | hZ he hc hd hf h1 hT ne ht rQ h3=>exact⟨_,he,hc⟩
 refine wpAny_handleBy_cons (codeAny_handlers_test (Name_function_global F.kind kx (loadGlobal_global (mg:=c.mg) (by rw[F.glob.1];exact S3.top.g) (mg_of S3.oO S3.top.g hg) ?_) (by decide))) (by intro q;cases q)
 refine wpAny_excMatches_sub_self hC Ov Qu (by decide) (codeAny_handlers_suite_as ?_)
 refine iQ (s:={ s with heap:=h3,toks:=tk }) (fr:=none) J4 y3 Lo λh4 y4 OR We t4=>?_
 have t:=(t2.trans t3).trans t4;have F4:=(F.jM t).land OR;have M4:=(M.jM F t).land OR;have S4:St h4 aI:=S.ext OR;obtain⟨m,Iu⟩:=F4.ns;obtain⟨oL,es,ep,GU,Oo,YD⟩:=id Iu;have mem:env.locals∈aw env:=.head _;obtain⟨f1,f2,_⟩:=F4.sep _ mem;have nF:∀vs,oL.data≠.fields vs:=λvs z=>by rw[Oo]at z;cases z
 have QK:(env.scope.kind==.class||(env.scope.kind==.module&&env.locals != env.globals))=false:=by rw[F.kind];rfl
 refine wpAny_storeName_local kw Iu (λh5 JS MZ=>?_) QK
 have S5:St h5 aI:=S4.other GU (cX Oo) f1 f2 λb o q e=>(MZ.2 b q).trans e
 have F5:=F4.store S4 kw Iu JS MZ (.glob (.ref e));have M5:Fm (cY env A) env aI h4 h5 aI:=.frame F4 mem (by obtain⟨o',_,_,ho,_⟩:=JS;exact⟨o',ho⟩) MZ
 have y5:=y4.away GU nF MZ;have Uo:B.get? env.locals=none:=by
  obtain⟨_,⟨L,o,e1,e2,_⟩,_⟩:=We;rw[hf]at e1;cases e1;exact e2
 obtain⟨kvs,u,DB,BR,ru⟩:=Y.num;obtain⟨tok,rfl⟩:=ru.int_inv;have D5:h5.DictOf (strKind c.prog c.w) d kvs:=by
  obtain⟨o,GF,Lg,e1,r⟩:=DB;exact⟨o,GF,Lg,(MZ.2 _ λz=>by rw[<-z,e1]at Uo;cases Uo).trans (OR _ _ e1),r⟩
 refine wpAny_execs_cons (wpAny_Assign_stores ?_ rfl rfl);have QL:env.scope.kind=.function:=F.kind;refine Attribute_any_ (wpAny_mono (Q:=λv s'=>v=.ref e/\s'={ s with heap:=h5,toks:=tk+1 }) (E:=λ_ _=>False) ?_ (λv s' ⟨e1,e2⟩=>?_) λ_ _ x=>x.elim) (by with_unfolding_all rfl)
 ·exact wpAny_Name (wpAny_loadName_local QL kw JS (if_pos rfl) ⟨rfl,rfl⟩) OF
 subst e1 e2;refine Dp (s:={ s with heap:=h5,toks:=tk+1 }) S5.oO y5 D5 BR ?_
 refine wpAny_assign_Name ?_;have Pa:dh (cY env A) env h5 aI ((wr,.glob (.ref e))::bJ):=F5;refine wpAny_storeName_local kf JS (λh6 LQ Te=>?_) QK
 have Vo:=JS;obtain⟨Vo,Yt,Yr,QG,Qp,_⟩:=Vo;have S6:St h6 aI:=S5.other QG (cX Qp) f1 f2 λb o q e=>(Te.2 b q).trans e
 have F6:=F5.store S5 kf JS LQ Te (.int num tok);have M6:Fm (cY env A) env aI h5 h6 aI:=.frame F5 mem (by obtain⟨o',_,_,ho,_⟩:=LQ;exact⟨o',ho⟩) Te
 refine wpAny_execs_nil ?_;refine wpAny_nameGoes_keeps kw LQ QK λh7 v UL M9=>?_
 obtain⟨YH,Yu,Ys,QH,Qq,_⟩:=id LQ;have S7:St h7 aI:=S6.other QH (cX Qq) f1 f2 λb o q e=>(M9.2 b q).trans e
 have M7:Fm (cY env A) env aI h6 h7 aI:=.frame F6 mem (by obtain⟨o',_,_,ho,_⟩:=UL;exact⟨o',ho⟩) M9
 have F7:dh (cY env A) env h7 aI ((fo,.int num)::bJ):=dh.drop S6 F6 LQ UL M9 λz w hz=>by
  rw[List.lookup_cons]at hz;by_cases q:z=fo
  ·subst q
   simp only[BEq.rfl]at hz;refine⟨ic,?_⟩;rw[List.lookup_cons];simp only[BEq.rfl];exact hz
  ·have q2:(z==fo)=false:=by simpa using q
   rw[q2]at hz;have zw:z≠wr:=λz2=>by subst z2;rw[hw]at hz;cases hz
   refine⟨zw,?_⟩;rw[List.lookup_cons,q2,List.lookup_cons];have q3:(z==wr)=false:=by simpa using zw
   rw[q3];exact hz
 exact⟨h7,_,.next,_,aI,rfl,S7,F7,((M4.trans M5).trans M6).trans M7,.next,q⟩
end lL
theorem HL{A:Around}{E:Value->Shared->Prop}{s:Shared}{env:Env}{σ aI:AH}{bJ:Loc}{B h1:Heap}{e d:Addr}{tk:Nat}{num:Int}{wr fo:Str}{np p1 p2 p3 p4 hp:Pos}{Q:Fl->Loc->AH->Prop}:lL.P A E s env σ aI bJ B h1 e d tk num wr fo np p1 p2 p3 p4 hp Q:=xa (Q:=lL.Q_) lL.go (A,E,s,env,σ,aI,bJ,B,h1,e,d,tk,num,wr,fo,np,p1,p2,p3,p4,hp,Q)
section
variable{A:Around}{E:Value->Shared->Prop}{s:Shared}{env:Env}{σ aI:AH}{bJ:Loc}{B h1:Heap}{e d:Addr}{tk:Nat}{num:Int}{wr fo:Str}{np p1 p2 p3 p4 hp:Pos}{Q:Fl->Loc->AH->Prop}
end
section
variable{n:NX}{env:Env}{ρ:Loc}{σ:AH}{Q:Fl->Loc->AH->Prop}{wr fo:Str}{np p1 p2 p3 p4 hp pos:Pos}{body rest:List Stmt}{st:Stmt}
set_option tactic.hygienic true in
abbrev KI(n:NX)(env:Env)(rest:List Stmt)(Q:Fl->Loc->AH->Prop):Fl->Loc->AH->Prop:=λf ρ σ=>match f with | .next=>nO n env rest ρ σ Q | f=>Q f ρ σ
set_option tactic.hygienic true in
theorem FI(h:oq n env st ρ σ (KI n env rest Q)):nO n env (st::rest) ρ σ Q:=λA s hf hA S F=>by
 refine wpAny_execs_cons (wpAny_mono (h A s hA S F trivial) (λf s1 p=>?_) λ_ _ x=>x)
 obtain⟨h1,gv,fl,bJ,aI,rfl,S1,F1,M1,r1,q1⟩:=p;cases r1 with
 | next=>exact wpAny_mono (q1 A { s with heap:=h1,toks:=gv } hf hA S1 F1) (λ_ _ z=>z.trans M1) λ_ _ z=>z.trans M1
 | _=>exact⟨h1,gv,_,bJ,aI,rfl,S1,F1,M1,by constructor;try assumption,q1⟩
set_option tactic.hygienic true in
theorem Jl(h:b8 ⟨n.n,λnum ρ' af=>ρ'.lookup wr=none/\b8 n env rest ((fo,.int num)::ρ') af Q⟩ env body ρ σ (yh n env rest Q))
  (kx:env.kindOf "SnobolError"=some .globalImplicit) (hg:nsIn c.K mainGlobals "SnobolError"=some (some (.ref 132))) (kw:env.kindOf wr=some .local) (kf:env.kindOf fo=some .local) (ic:fo≠wr) (QU:(wr==("__classdict__":Str))=false) (OF:(wr==("__debug__":Str))=false):
  nO n env (.Try body [.ExceptHandler (some (.Name "SnobolError" np)) (some wr) [.Assign [.Name fo p1] (.Attribute (.Name wr p2) "number" p3) p4] hp] [] [] pos::rest) ρ σ Q:=λA s hf hA S F=>by
 refine wpAny_execs_cons (wpAny_Try_except (wpAny_mono (h A s ⟨hA.depth,hA.units,hA.hand,.inl hf⟩ S F trivial) (λf s1 p=>?_) λx s1 p=>?_))
 ·obtain⟨h1,gv,fl,bJ,aI,rfl,S1,F1,M1,r1,q1⟩:=p
  cases r1 with
  | next=>exact wpAny_execs_nil (Tr.go (s:=s) q1 hA M1 S1 F1 trivial)
  | _=>exact⟨h1,gv,_,bJ,aI,rfl,S1,F1,M1,by constructor;try assumption,q1⟩
 ·obtain⟨e,d,B,h1,tk,num,bJ,aI,rfl,rfl,S1,F1,Y,M,hw,q⟩:=p
  have k:=HL (s:=s) (tk:=tk) (E:=EPost (cY env A) env σ s n.X) (np:=np) (p1:=p1) (p2:=p2) (p3:=p3) (p4:=p4) (hp:=hp) (Q:=λfl ρ' af=>fl=.next/\b8 n env rest ρ' af Q) hf.1 hf.2 S1 F1 Y M kx hg kw kf hw ic QU OF ⟨rfl,q⟩
  refine wpAny_mono k (λ_ s2 k2=>wpAny_mono k2 (λ_ s3 k3=>wpAny_mono k3 (λf s4 p=>?_) λ_ _ x=>x) λ_ _ x=>x) λ_ _ x=>x
  obtain⟨h2,oh,fl,d5,bU,rfl,S2,F2,M2,r2,rfl,q2⟩:=p;cases r2;exact Tr.go (s:=s) q2 hA M2 S2 F2 trivial
end
end
section
noncomputable def gA(av ar al:Addr)(st lim:Int):List (Str×V):=[("values",.qD av),("limit",.int lim),("refused",.lst ar),("width",.int 64),("steps",.int st),("log",.lst al)]
theorem BU{a b d:Addr}{s l:Int}:(gA a b d s l).length<=1000:=Nat.le_of_ble_eq_true rfl
structure eT(σ:AH)(d av ar al:Addr)(rf:List Str)(vals:List (Str×V))(log:List V)(st lim:Int):Prop where
 h:σ d=some (.dict (gA av ar al st lim))
 v:σ av=some (.dict vals)
 r:σ ar=some (.list (rf.map V.str))
 l:σ al=some (.list log)
section
variable{n:Nat}{σ:AH}{Q:V->AH->Prop}{s t:Str}{k:Nat}{d av ar al:Addr}{rf:List Str}{vals:List (Str×V)}{log:List V}{st lim:Int}
theorem zD(w:World):keepIn (KO w) (.ref 132)=true:=by kernel_rfl
theorem Q7:Keeps (.ref 132):=jX (by rw[hK];exact zD w)
theorem tX{n:Nat}{X:Int->Loc->AH->Prop}{env:Env}{ρ:Loc}{σ:AH}{a b:Expr}{np Bz pos:Pos}{Q:Fl->Loc->AH->Prop}(h:rt ⟨n+2,X⟩ env [a,b] ρ σ (λvs ρ' af=>∃num v2,vs=[.int num,v2]/\X num ρ' af))(hx:autoParam (env.kindOf "SnobolError"=some .globalImplicit) cB)(hp:autoParam ([a,b].all fA=true) cB):
  oq ⟨n+2,X⟩ env (.Raise (some (.Call (.Name "SnobolError" np) [a,b] [] Bz)) none pos) ρ σ Q:=C0 hx (pQ rfl) Q7 hp h
set_option tactic.hygienic true in
theorem oi{X:Int->AH->Prop}(H:eT σ d av ar al rf vals log st lim)(q:st+1<=lim->Q .none (σ.put d (.dict (gA av ar al (st+1) lim))))(x:¬st+1<=lim->X 22 (σ.put d (.dict (gA av ar al (st+1) lim)))):cx 3 X (.ref 579) [.inst 582 d] σ Q:=by
 have co:=(bt).1;refine dX (mQ) rfl λL=>?_
 kcf_m;refine au (cU ?_);kd_p;refine ax co (cf) H.h (v:=.int st) rfl (bW _) ?_;kd_p;refine aP co (cf) H.h BU ?_;have e:b7 (gA av ar al st lim) "steps" (.int (st+1))=gA av ar al (st+1) lim:=rfl;rw[e];kd_p;refine ax co (cf) (AH.aa _ _ _) (v:=.int (st+1)) rfl (bW _) ?_;kd_p;refine ax co (gP) (AH.aa _ _ _) (v:=.int lim) rfl (bW _) ?_;kd_p;wtm_at "j"<;>rename_i h1
 ·have h2:¬st+1<=lim:=by simpa using h1
  kd_p;refine tX ?_;kd_p;exact⟨22,_,rfl,x h2⟩
 ·have h2:st+1<=lim:=by simpa using h1
  kd_p;exact q h2
noncomputable def fV(key:Str):List (Str×V):=[("kind",.str "var"),("owner",.none),("key",.str key)]
set_option tactic.hygienic true in
theorem fJ{rd:Addr}{key:Str}{v:V}(H:eT σ d av ar al rf vals log st lim)(hr:σ rd=some (.dict (fV key)))(hv:vals.length<=1000)(jd:log.length<=1000000)(ic:al≠av)
  (q:rf.contains key=false->Q (.bool true) ((σ.put av (.dict (b7 vals key v))).put al (.list (log++[.tup [.str key,v]])))) (q':rf.contains key=true->Q (.bool false) σ) (Eg:d≠av) (pU:rd≠av):aU 1 (.ref 572) [.inst 582 d,.inst 208 rd,v] σ Q:=by
 have co:=(bt).1;have cr:=(ie).1;refine aC (kC) rfl λL=>?_
 kcf_m;kd_p;refine ax cr (ez) hr (v:=.str key) rfl (ia _) ?_;kd_p;refine ax co (fX) H.h (v:=.lst ar) rfl (c5 _) ?_;refine wL H.r ?_;kd_p;wtm_at "j"<;>rename_i hc
 ·kd_p
  exact q' hc
 ·rw[Bool.not_eq_true]at hc
  kd_p
  (refine ag ?_)
  kd_p;refine jT ?_;kd_p;refine ax co (eJ) H.h (v:=.qD av) rfl (by intro _ h;cases h) ?_
  kd_p;refine ax cr (ez) hr (v:=.str key) rfl (ia _) ?_;refine FH H.v hv ?_;kd_p;have e1:(σ.put av (.dict (b7 vals key v))) d=some (.dict (gA av ar al st lim)):=(AH.ae _ _ Eg).trans H.h;have e2:(σ.put av (.dict (b7 vals key v))) rd=some (.dict (fV key)):=(AH.ae _ _ pU).trans hr;have e3:(σ.put av (.dict (b7 vals key v))) al=some (.list log):=(AH.ae _ _ ic).trans H.l;refine aB ?_;kd_p;refine ax co (dz) e1 (v:=.lst al) rfl (c5 _) ?_;refine⟨_,bw PySem.F.slot_list_append PySem.F.type_list_append e3,az,?_⟩;kd_p;refine ax cr (ez) e2 (v:=.str key) rfl (ia _) ?_;kd_p;refine aZ e3 jd ?_;kd_p;exact q hc
theorem i0{key:Str}(H:eT σ d av ar al rf vals log st lim)(q:Q ((dg vals key).getD (.str "")) σ):aU 1 (.ref 565) [.inst 582 d,.tup [.str "name",.str key]] σ Q:=by
 have co:=(bt).1;refine aC (jk) rfl λL=>?_
 kcf_m;kd_p;refine aB ?_;kd_p;refine ax co (eJ) H.h (v:=.qD av) rfl (by intro _ h;cases h) ?_
 refine⟨_,Ef PySem.F.slot_dict_get PySem.F.type_dict_get H.v,az,?_⟩;kd_p;refine qQ H.v ?_;exact q
end
end
section
noncomputable def OQ(o:Obj):FuncData:=fnOf (kO o).name ("plain_count":Str) (nA (cP 46)) (aM (cP 46)) (aj (cP 46)) (kO o).defaults (kO o).kwdefaults (kO o).doc (kO o).pyModule (kO o).annotations (.ref 270) (kO o).closureTuple
theorem MT(w:World):bq w 271=⟨(bq w 271).cls,(bq w 271).dict,.func (OQ (bq w 271)),(bq w 271).slots⟩:=by kernel_rfl
theorem Fv(w:World):codeB (bq w 270) ("plain_count":Str)=true:=by kernel_rfl
theorem CT:([("value":Str),("kind":Str),("width":Str)].all (λx=>(aj (cP 46)).names.lookup x==some .local)&&(!(aj (cP 46)).isCoroutine && !(aj (cP 46)).isGenerator&&(aj (cP 46)).kind==.function&&(aj (cP 46)).names.all λx=>x.2 != .cell))=true:=by kernel_rfl
theorem Fw(w:World)(S:Setting)(a b d:Value):peek (KO w) S (bindArgs (OQ (bq w 271)) ⟨[a,b,d],[]⟩)=some [(("value":Str),a),(("kind":Str),b),(("width":Str),d)]:=by kernel_rfl
theorem CS{s:Shared}(X:c.K.In s.heap)(a b d:Value):BindsTo s (OQ (bq w 271)) ⟨[a,b,d],[]⟩ [(("value":Str),a),(("kind":Str),b),(("width":Str),d)]:=kp_binds (K:=KO w) X λS=>Fw w S a b d
theorem qK:FnAt 271 ("plain_count":Str) (aj (cP 46)) (.ref 270) [("value":Str),("kind":Str),("width":Str)] (aM (cP 46)):=by
 have sh:=CT;rw[Bool.and_eq_true,Bool.and_eq_true,Bool.and_eq_true,Bool.and_eq_true]at sh;obtain⟨s0,⟨⟨r1,r2⟩,r3⟩,r4⟩:=sh;refine⟨⟨(kO (bq w 271)).name,nA (cP 46),(kO (bq w 271)).defaults,(kO (bq w 271)).kwdefaults,(kO (bq w 271)).doc,(kO (bq w 271)).pyModule,(kO (bq w 271)).annotations,(kO (bq w 271)).closureTuple,(bq w 271).cls,(bq w 271).dict,(bq w 271).slots,?_,λus s X hu=>?_⟩,?_,λx hx=>beq_iff_eq.mp (List.all_eq_true.mp s0 x hx),by simpa using r1,by simpa using r2,by simpa using r3,λx hx=>by simpa using List.all_eq_true.mp r4 x hx⟩
 ·rw[hK,iG w 271 (by decide+kernel)];exact congrArg some (MT w)
 ·exact jf (P:=λus=>BindsTo s (OQ (bq w 271)) ⟨us,[]⟩ ([("value":Str),("kind":Str),("width":Str)].zip us)) (λa b d=>CS X a b d) us hu
 ·rw[hK];exact m6 (by decide+kernel) (Fv w)
end
section
inductive JI:Str->Prop
 | nil:JI ""
 | two:JI "2"
 | some(d:Nat)(l:List Nat)(h1:d≠43)(h2:d≠45)(h3:d<48\/57<d)(h4:∀x∈d::l,x<128)(h5:l.length<=60):JI ⟨(d::l).toArray⟩
noncomputable def sT(x:Str):Option Int:=if x="" then some 0 else if x="2" then some 2 else none
theorem uB{d:Nat}{l:List Nat}(h3:d<48\/57<d):sT ⟨(d::l).toArray⟩=none:=by
 unfold sT;have e1:(⟨(d::l).toArray⟩:Str)≠"":=λz=>by
  have:=congrArg (λs:Str=>s.cps.toList.head?) z
  have e3:("":Str).cps.toList.head? =none:=by decide
  rw[e3]at this;simp at this
 have e2:(⟨(d::l).toArray⟩:Str)≠"2":=λz=>by
  have:=congrArg (λs:Str=>s.cps.toList.head?) z
  have e3:("2":Str).cps.toList.head? =some 50:=by decide
  rw[e3]at this;simp at this;exact SH h3 this
 rw[if_neg e1,if_neg e2]
theorem Cy(a b:Nat):decide ([a]<[b])=decide (a<b):=by
 rw[decide_eq_decide];constructor
 ·intro h;cases h with
  | rel h=>exact h
  | cons h=>cases h
 ·intro h;exact .rel h
section
variable{σ:AH}{Q:V->AH->Prop}
theorem xR(q:Q (.bool true) σ):aU 1 (.ref 226) [.int 2,.int 64] σ Q:=by
 refine aC (Hw) rfl λL=>?_
 kcf_m;kd_p;refine DW ?_;kd_p;refine CP (by decide) (by decide) ?_
 refine qf ?_;kd_p;refine CP (by decide) (by decide) ?_
 kd_p;exact q
theorem mD{d:Nat}{l:List Nat}(h1:d≠43)(h2:d≠45)(h4:∀x∈d::l,x<128)(h5:l.length<=60)(q:(d<48\/57<d)/\Q .none σ\/(d=50/\l=[]/\Q (.int 2) σ)):aU 2 (.ref 233) [.str ⟨(d::l).toArray⟩,.int 64] σ Q:=by
 have e2:("+-":Str).cps.toList.contains d=false:=by
  have e3:("+-":Str).cps.toList=[43,45]:=by decide
  rw[e3];simp[h1,h2]
 have e3:(⟨(d::l).toArray⟩:Str).length=l.length+1:=by show(d::l).toArray.size=_;rfl
 have e4:(⟨(d::l).toArray⟩:Str).cps.toList=d::l:=rfl;have z0:("0":Str).cps.toList=[48]:=by decide
 have z9:("9":Str).cps.toList=[57]:=by decide
 refine aC (i6) rfl λL=>?_
 kcf_m;kd_p
 (refine aA ?_ rfl rfl)
 kd_p;refine iY (j:=0) (d:=d) rfl (by rfl) (by decide) ?_
 kd_p;refine kH ?_;rw[ti,e2];kd_p;refine bh ?_;kd_p;refine cg (by rw[e3];exact aG (.l .A (.k 60) (.g (.a .A .O) (.k 1000000))) rfl h5) ?_
 kd_p;refine ite_ff (by rw[e3];simp;exact(qW (aG (.l .A (.k 60) (.g (.a .A .O) (.k 64))) rfl h5))) ?_
 kd_p
 (refine aA ?_ rfl rfl)
 kd_p;refine fW ?_;kd_p;refine⟨_,_,Cc (by simpa using h4),?_⟩
 rw[e4,List.map_cons];refine⟨trivial,?_⟩;kd_p;refine kJ ?_;rw[z0];have b0:decide ([d]<[48])=decide (d<48):=Cy _ _;have b9:decide ([57]<[d])=decide (57<d):=Cy _ _;show Dt _ _ (.bool (!decide ([d]<[48]))) _ _ _;rw[b0];refine my ?_;rcases q with ⟨hd,q⟩ | ⟨rfl,rfl,q⟩
 ·by_cases Ek:d<48
  ·refine ite_ff (by simp[Ek]) ?_
   kd_p;exact q
  ·have Wy:57<d:=by exact SI hd Ek
   refine ite_tt (by simp[Ek]) ?_
   kd_p;refine kJ ?_;rw[z9];show Dt _ _ (.bool (!decide ([57]<[d]))) _ _ _;rw[b9];refine my ?_;refine ite_tt (by simp[Wy]) ?_
   kd_p;exact q
 ·refine ite_tt (by decide) ?_
  kd_p;refine kJ ?_;rw[z9];show Dt _ _ (.bool (!decide ([57]<[50]))) _ _ _;refine my ?_;refine ite_ff (by decide) ?_
  kd_p
  (refine aA ?_ rfl rfl)
  kd_p;refine CO ?_ (.of_left (by decide))
  kd_p;refine bh ?_;kd_p;refine Bv ?_;kd_p;refine⟨trivial,?_⟩;kd_p
  (refine aA ?_ rfl rfl)
  kd_p;refine iY (j:=0) (d:=50) rfl (by rfl) (by decide) ?_
  kd_p;refine aY ?_;refine aF ?_;kd_p;refine aU.call (xR ?_);kd_p;exact q
theorem Gn{x:Str}(hx:JI x)(q:Q (oV (sT x)) σ):aU 2 (.ref 233) [.str x,.int 64] σ Q:=by
 cases hx with
 | nil=>
  refine aC (i6) rfl λL=>?_
  kcf_m;kd_p;exact q
 | two=>exact mD (d:=50) (l:=[]) (by decide) (by decide) (by decide) (by decide) (.inr ⟨rfl,rfl,q⟩)
 | some d l h1 h2 h3 h4 h5=>
  rw[uB h3]at q;exact mD h1 h2 h4 h5 (.inl ⟨h3,q⟩)
end
end
section
inductive NV:V->Prop
 | int(i:Int):NV (.int i)
 | str(x:Str)(h:JI x):NV (.str x)
noncomputable def m8:V->Option Int
 | .int i=>some i
 | .str x=>sT x
 | _=>none
noncomputable def mL(X:Int->AH->Prop)(Q:V->AH->Prop)(f:Int->V)(σ:AH)(v:V):Prop:=match m8 v with
 | none=>X 1 σ
 | some k=>if k<0 then X 14 σ else Q (f k) σ
section
variable{σ:AH}{X:Int->AH->Prop}{Q:V->AH->Prop}{v:V}
theorem x5(hv:NV v)(q:Q (oV (m8 v)) σ):aU 3 (.ref 247) [v,.int 64] σ Q:=by
 refine aC (wy) rfl λL=>?_
 kcf_m;kd_p;refine aY ?_;refine bh ?_;kd_p;refine iW rfl rfl ?_;kd_p;cases hv with
 | int i=>
  refine uU ?_;kd_p;exact q
 | str x h=>
  refine uY ?_;kd_p;refine aY ?_;refine bh ?_;kd_p;refine iW rfl rfl ?_;kd_p;refine nU ?_;kd_p;refine aF ?_;kd_p;exact aU.call (Gn h q)
set_option tactic.hygienic true in
theorem rk(hv:NV v)(q:mL X Q .int σ v):cx 4 X (.ref 271) [v,.str "len",.int 64] σ Q:=by
 refine dX (qK) rfl λL=>?_
 kcf_m
 (refine au (aA ?_ rfl rfl))
 refine aF ?_;kd_p;refine aU.call ((x5 hv ?_).less (Nat.le_of_ble_eq_true rfl));unfold mL at q;cases hc:m8 v with
 | none=>
  rw[hc]at q;show ze _ _ _ _ .none _ _;kd_p;refine is_none ?_;kd_p;wtm_at "h";kd_p;refine tX (n:=1) ?_;kd_p;exact⟨1,_,rfl,q⟩
 | some k=>
  rw[hc]at q;show ze _ _ _ _ (.int k) _ _;kd_p;refine is_none ?_;kd_p;wtm_at "j"<;>rename_i h1<;>simp only[decide_eq_true_eq]at h1
  ·have q:X 14 σ:=by simpa[h1] using q
   kd_p;refine tX (n:=1) ?_;kd_p;exact⟨14,_,rfl,q⟩
  ·have q:Q (.int k) σ:=by simpa[h1] using q
   kd_p;exact q
theorem Av{R:V->AH->Prop}(hv:NV v)(q:R (.bool false) σ):aU 1 (.ref 219) [v] σ R:=by
 refine aC (rz) rfl λL=>?_
 kcf_m;kd_p;refine bh ?_;kd_p;refine th rfl ?_;kd_p;cases hv with
 | int i=>exact s6 q
 | str x h=>exact uX (zf).2.2.2 q
theorem nM{R:V->AH->Prop}{l:List V}(q:R (.bool true) σ):aU 1 (.ref 292) [.tup l] σ R:=by
 refine aC (ly) rfl λL=>?_
 kcf_m;kd_p;refine bh ?_;kd_p;refine iW rfl rfl ?_;kd_p;exact nW q
noncomputable def zv(k:Str):V:=.tup [.str "delay",.tup [.str "name",.str k]]
variable{d av ar al:Addr}{rf:List Str}{vals:List (Str×V)}{log:List V}{st lim:Int}{key:Str}
set_option tactic.hygienic true in
theorem kz(H:eT σ d av ar al rf vals log st lim)(hv:NV ((dg vals key).getD (.str "")))(q:mL X Q (λk=>.tup [.str "len",.int k]) σ ((dg vals key).getD (.str ""))):cx 5 X (.ref 299) [.tup [.str "len",zv key],.inst 582 d] σ Q:=by
 have co:=(bt).1;unfold zv;refine dX (rA) rfl λL=>?_
 kcf_m;kd_p;refine jH (gY (by decide+kernel) (I2 w)) ?_
 refine hV ?_;kd_p;refine aY ?_;refine aF ?_;kd_p;refine aU.call ((nM ?_).less (Nat.le_of_ble_eq_true rfl));kd_p
 (refine aA ?_ rfl rfl)
 refine aB ?_;kd_p;refine⟨_,a9 co (dI) (bX).1 H.h rfl,(bX).2,?_⟩;kd_p;refine aU.call ((i0 H ?_).less (Nat.le_of_ble_eq_true rfl));generalize ((dg vals key).getD (.str ""))=v at hv q;kd_p;refine aY ?_;refine aF ?_;kd_p;refine aU.call ((Av hv ?_).less (Nat.le_of_ble_eq_true rfl));kd_p;refine jH (gY (by decide+kernel) (I2 w)) ?_
 refine bF ?_;kd_p;kd_p;refine aF ?_;kd_p;refine ax co (gQ) H.h (v:=.int 64) rfl (bW _) ?_;kd_p;refine cx.call ((rk (X:=X) hv ?_).less (Nat.le_of_ble_eq_true rfl)) (λ_ _ x=>x)
 unfold mL at q ⊢;split
 ·rename_i z;rw[z]at q;exact q
 ·rename_i k z
  rw[z]at q;dsimp only at q;split
  ·rename_i z2;rw[if_pos z2]at q;exact q
  ·rename_i z2;rw[if_neg z2]at q
   show Be _ _ _ _;kd_p;exact q
end
end
section
noncomputable def Kept(σ af:AH)(D:List Addr):Prop:=∀b o,σ b=some o->b∉D->af b=some o
theorem Kept.refl(σ:AH)(D:List Addr):Kept σ σ D:=λ_ _ e _=>e
theorem Kept.trans{σ aI bU:AH}{D:List Addr}(a:Kept σ aI D)(b:Kept aI bU D):Kept σ bU D:=λx o e n=>b x o (a x o e n) n
theorem Kept.gone{σ aI:AH}{D:List Addr}(K:Kept σ aI D){x:Addr}(e:aI x=.none)(n:x∉D):σ x=.none:=by
 cases z:σ x with
 | none=>rfl
 | some o=>rw[K x o z n]at e;cases e
theorem Kept.more{σ af:AH}{D D':List Addr}(K:Kept σ af D)(h:∀x∈D,x∈D'):Kept σ af D':=λb o e n=>K b o e λm=>n (h b m)
theorem Kept.put{σ:AH}{a:Addr}{o:AO}{D:List Addr}(h:a∈D):Kept σ (σ.put a o) D:=λb o' e n=>by rw[AH.ae];exact e;rintro rfl;exact n h
theorem Kept.new{σ:AH}{a:Addr}{o:AO}{D:List Addr}(h:σ a=none):Kept σ (σ.put a o) D:=λb o' e n=>by rw[AH.ae _ _ (by first | exact ne_sn e h | exact ne_ns e h)];exact e
theorem Kept.xt{σ aI:AH}{a:Addr}{o:AO}(K:Kept σ aI [])(h:σ a=none):Kept σ (aI.put a o) []:=λb p e n=>by
 rw[AH.ae _ _ (by exact ne_sn e h)];exact K b p e n
theorem Kept.to{σ af:AH}{D:List Addr}(K:Kept σ af []):Kept σ af D:=λb o e _=>K b o e (by exact nn)
theorem AH.aT{σ:AH}{a b:Addr}{o:AO}(h:(σ.put a o) b=none):σ b=none:=by
 rw[AH.ae]at h
 ·exact h
 ·rintro rfl;rw[AH.aa]at h;cases h
set_option tactic.hygienic true in
theorem AH.bS(σ:AH)(a:Addr)(o o':AO):(σ.put a o).put a o'=σ.put a o':=by
 funext b;unfold AH.put;by_cases h:b=a<;>exact Xl
end
section
abbrev Ref:=Addr×Str
inductive Sk where
 | fence | fail | abort | cA
inductive Lf where
 | pl(p:Pl) | dZ | cV (Yp:Bool) | ask | bM (k:Sk) | c0 (r:Ref)
inductive Nd where
 | leaf(l:Lf) | cat (a b:Nd) | alt (a b:Nd) | bo (a:Nd) | nm (now:Bool) (a:Nd) (r:Ref)
inductive It where
 | nd(n:Nd) | round (a:Nd) (b:Nat) | fin (now:Bool) (r:Ref) (b:Nat)
noncomputable def fh(r:Ref):V:=.inst 208 r.1
noncomputable def Sk.kind:Sk->Str
 | .fence=>"fence" | .fail=>"fail" | .abort=>"abort" | .cA=>"succeed"
noncomputable def Lf.kind:Lf->Str
 | .pl p=>p.kind | .dZ=>"len" | .cV false=>"arb" | .cV true=>"bal" | .ask=>"delay" | .bM k=>k.kind | .c0 _=>"cursor"
noncomputable def Lf.args:Lf->List V
 | .pl p=>[p.told] | .dZ=>[zv "N"] | .cV _=>[] | .ask=>[.tup [.str "name",.str "P"]] | .bM _=>[] | .c0 r=>[fh r]
noncomputable def Lf.v(l:Lf):V:=.tup (.str l.kind::l.args)
noncomputable def Nd.v:Nd->V
 | .leaf l=>l.v
 | .cat a b=>.tup [.str "cat",a.v,b.v]
 | .alt a b=>.tup [.str "alt",a.v,b.v]
 | .bo a=>.tup [.str "arbno",a.v]
 | .nm true a r=>.tup [.str "now",a.v,fh r]
 | .nm false a r=>.tup [.str "later",a.v,fh r]
noncomputable def It.v:It->V
 | .nd n=>n.v
 | .round a b=>.tup [.str "end round",.tup [.str "arbno",a.v],.int b]
 | .fin true r b=>.tup [.str "end now",fh r,.int b]
 | .fin false r b=>.tup [.str "end later",fh r,.int b]
noncomputable def hM:List It->V
 | []=>.none
 | i::r=>.tup [i.v,hM r]
abbrev Named:=List (Ref×Str)
noncomputable def d8(n:Named):List V:=n.map λp=>.tup [fh p.1,.str p.2]
noncomputable def gC(l:Named):V:=.tup (d8 l)
structure cD where
 chain:List It
 at_:Nat
 named:Named
noncomputable def cD.v(w:cD):V:=.tup [hM w.chain,.int w.at_,gC w.named]
structure HS where
 vals:List (Str×V)
 log:List V
 steps:Nat
structure Cf where
 s:Str
 rf:List Str
 pn:Nd
noncomputable def HS.tick(h:HS):HS:={ h with steps:=h.steps+1 }
noncomputable def HS.set(h:HS)(k:Str)(v:V):HS:={ h with vals:=b7 h.vals k v,log:=h.log++[.tup [.str k,v]] }
noncomputable def HS.N(h:HS):V:=(dg h.vals "N").getD (.str "")
noncomputable def bu(v:V):Except Bool Pl:=match m8 v with
 | none=>.error false
 | some k=>if k<0 then .error true else .ok (.len k)
abbrev br:=List (Option cD)
inductive AR where
 | go(w:cD) | dead | dv | err (b:Bool)
noncomputable def eQ(C:Cf)(r:List It)(a:Nat)(n:Named)(p:br)(h:HS)(q:Pl):AR×br×HS:=match q.ends C.s a with
 | none=>(.dead,p,h)
 | some e=>(.go ⟨r,e.toNat,n⟩,p,h)
noncomputable def cutText(C:Cf)(b a:Nat):Str:=Txt.slice C.s (some (b:Nat)) (some (a:Nat))
noncomputable def fQ(C:Cf)(r:List It)(a:Nat)(n:Named)(p:br)(h:HS)(k:Str)(v:V):AR×br×HS:=if C.rf.contains k=true then (.dead,p,h) else (.go ⟨r,a,n⟩,p,h.set k v)
noncomputable def wF(C:Cf)(l:Lf)(r:List It)(a:Nat)(n:Named)(p:br)(h:HS):AR×br×HS:=match l with
 | .pl q=>eQ C r a n p h q
 | .dZ=>(match bu h.N with
  | .error b=>(.err b,p,h)
  | .ok q=>eQ C r a n p h q)
 | .cV false=>(.go ⟨r,a,n⟩,(if a<C.s.length then some ⟨.nd (.leaf (.cV false))::r,a+1,n⟩::p else p),h)
 | .cV true=>(match cE C.s a with
  | []=>(.dead,p,h)
  | e::es=>(.go ⟨r,e,n⟩,es.map (λe=>some ⟨r,e,n⟩)++p,h))
 | .ask=>(.go ⟨.nd C.pn::r,a,n⟩,p,h)
 | .bM .fence=>(.go ⟨r,a,n⟩,none::p,h)
 | .bM .fail=>(.dead,p,h)
 | .bM .abort=>(.dv,p,h)
 | .bM .cA=>(.go ⟨r,a,n⟩,some ⟨.nd (.leaf (.bM .cA))::r,a,n⟩::p,h)
 | .c0 k=>fQ C r a n p h k.2 (.int a)
noncomputable def mY(C:Cf)(i:It)(r:List It)(a:Nat)(n:Named)(p:br)(h:HS):AR×br×HS:=match i with
 | .nd (.leaf l)=>wF C l r a n p h
 | .nd (.cat x y)=>(.go ⟨.nd x::.nd y::r,a,n⟩,p,h)
 | .nd (.alt x y)=>(.go ⟨.nd x::r,a,n⟩,some ⟨.nd y::r,a,n⟩::p,h)
 | .nd (.bo x)=>(.go ⟨r,a,n⟩,some ⟨.nd x::.round x a::r,a,n⟩::p,h)
 | .nd (.nm b x k)=>(.go ⟨.nd x::.fin b k a::r,a,n⟩,p,h)
 | .round x b=>(if a=b then .dead else .go ⟨.nd (.bo x)::r,a,n⟩,p,h)
 | .fin true k b=>fQ C r a n p h k.2 (.str (cutText C b a))
 | .fin false k b=>(.go ⟨r,a,n++[(k,cutText C b a)]⟩,p,h)
inductive Rs where
 | cut | err (b:Bool) | none | dv | met (a:Nat) (n:Named)
noncomputable def FW(k:cD->br->HS->Rs×HS):br->HS->Rs×HS
 | [],h=>(.none,h)
 | none::_,h=>(.dv,h)
 | some w::p,h=>k w p h
noncomputable def sj(k:cD->br->HS->Rs×HS)(x:AR×br×HS):Rs×HS:=match x.1 with
 | .go w=>k w x.2.1 x.2.2
 | .dead=>FW k x.2.1 x.2.2
 | .dv=>(.dv,x.2.2)
 | .err b=>(.err b,x.2.2)
noncomputable def fc(C:Cf):Nat->cD->br->HS->Rs×HS
 | 0,w,_,h=>match w.chain with
  | []=>(.met w.at_ w.named,h)
  | _::_=>(.cut,h.tick)
 | f+1,w,p,h=>match w.chain with
  | []=>(.met w.at_ w.named,h)
  | i::r=>sj (fc C f) (mY C i r w.at_ w.named p h.tick)
theorem mv(C:Cf)(f a:Nat)(n:Named)(p:br)(h:HS):fc C f ⟨[],a,n⟩ p h=(.met a n,h):=by cases f<;>rfl
theorem nG(C:Cf)(i:It)(r:List It)(a:Nat)(n:Named)(p:br)(h:HS):fc C 0 ⟨i::r,a,n⟩ p h=(.cut,h.tick):=rfl
theorem fC(C:Cf)(f:Nat)(i:It)(r:List It)(a:Nat)(n:Named)(p:br)(h:HS):fc C (f+1) ⟨i::r,a,n⟩ p h=sj (fc C f) (mY C i r a n p h.tick):=rfl
end
section
section
variable{n:Nat}{σ:AH}{Q:V->AH->Prop}{a b rest named:V}{at':Int}{aS:Addr}{l:List V}
theorem Ax(q:Q (.tup [.tup [a,.tup [b,rest]],.int at',named]) σ):aU 1 (.ref 621) [.tup [.str "cat",a,b],rest,.int at',named,.lst aS] σ Q:=by
 refine aC (lz) rfl λL=>?_
 kcf_m
 (refine au (aA ?_ rfl rfl))
 kd_p;exact q
theorem Aw(hp:σ aS=some (.list l))(hl:l.length<=1000000)(q:Q (.tup [.tup [a,rest],.int at',named]) (σ.put aS (.list (l++[.tup [.tup [b,rest],.int at',named]])))):aU 1 (.ref 621) [.tup [.str "alt",a,b],rest,.int at',named,.lst aS] σ Q:=by
 refine aC (lz) rfl λL=>?_
 kcf_m
 (refine au (aA ?_ rfl rfl))
 kd_p;refine aB ?_;kd_p;refine⟨_,bw PySem.F.slot_list_append PySem.F.type_list_append hp,az,?_⟩;kd_p;refine aZ hp hl ?_;kd_p;exact q
theorem vT(hp:σ aS=some (.list l))(hl:l.length<=1000000)(q:Q (.tup [rest,.int at',named]) (σ.put aS (.list (l++[.tup [.tup [a,.tup [.tup [.str "end round",.tup [.str "arbno",a],.int at'],rest]],.int at',named]])))):aU 1 (.ref 621) [.tup [.str "arbno",a],rest,.int at',named,.lst aS] σ Q:=by
 refine aC (lz) rfl λL=>?_
 kcf_m
 (refine au (aA ?_ rfl rfl))
 kd_p;refine aB ?_;kd_p;refine⟨_,bw PySem.F.slot_list_append PySem.F.type_list_append hp,az,?_⟩;kd_p;refine aZ hp hl ?_;kd_p;exact q
theorem qA{k:Str}(hk:k="later"\/k="now")(q:Q (.tup [.tup [a,.tup [.tup [.str ("end "++k),b,.int at'],rest]],.int at',named]) σ):aU 1 (.ref 621) [.tup [.str k,a,b],rest,.int at',named,.lst aS] σ Q:=by
 refine aC (lz) rfl λL=>?_
 rcases hk with rfl | rfl
 ·kcf_m
  (refine au (aA ?_ rfl rfl))
  kd_p;refine kU (by decide) ?_
  kd_p;exact q
 ·kcf_m
  (refine au (aA ?_ rfl rfl))
  kd_p;refine kU (by decide) ?_
  kd_p;exact q
variable{s:Str}{b0:Int}{ns:List V}{hd:V}
theorem vW(hs:s.length<=1000)(hn:ns.length<=100000)(q:Q (.tup [rest,.int at',.tup (ns++[.tup [a,.str (Txt.slice s (some b0) (some at'))]])]) σ):aU 1 (.ref 628) [.tup [.str "end later",a,.int b0],rest,.int at',.tup ns,.str s,.lst aS,hd] σ Q:=by
 refine aC (mR) rfl λL=>?_
 kcf_m
 (refine au (ag ?_))
 kd_p;refine gH (by rw[sizeLine_eq];exact E9 hs) ?_
 kd_p;refine xq (by exact aG (.l .A (.k 100000) (.g .A (.k 100000))) rfl hn) (by exact Nat.succ_pos _) ?_
 kd_p;exact q
set_option tactic.hygienic true in
theorem vX(q:Q (if at'=b0 then .none else .tup [.tup [a,rest],.int at',named]) σ):aU 1 (.ref 628) [.tup [.str "end round",a,.int b0],rest,.int at',named,.str s,.lst aS,hd] σ Q:=by
 refine aC (mR) rfl λL=>?_
 kcf_m
 (refine au (ag ?_))
 kd_p;wtm_at "j"<;>rename_i h<;>simp only[beq_iff_eq]at h
 ·rw[if_pos h]at q;kd_p;exact q
 ·rw[if_neg h]at q;kd_p;exact q
theorem AB{d av ar al rd:Addr}{key:Str}{rf:List Str}{vals:List (Str×V)}{log:List V}{st lim:Int}(hs:s.length<=1000)(H:eT σ d av ar al rf vals log st lim)(hr:σ rd=some (.dict (fV key)))(hv:vals.length<=1000)(jd:log.length<=1000000)(ic:al≠av)(Eg:d≠av)(pU:rd≠av)
  (q:rf.contains key=false->Q (.tup [rest,.int at',named]) ((σ.put av (.dict (b7 vals key (.str (Txt.slice s (some b0) (some at')))))).put al (.list (log++[.tup [.str key,.str (Txt.slice s (some b0) (some at'))]])))) (q':rf.contains key=true->Q .none σ):
  aU 2 (.ref 628) [.tup [.str "end now",.inst 208 rd,.int b0],rest,.int at',named,.str s,.lst aS,.inst 582 d] σ Q:=by
 have co:=(bt).1;refine aC (mR) rfl λL=>?_
 kcf_m
 (refine au (ag ?_))
 kd_p;refine aY ?_;refine aB ?_;kd_p;refine⟨_,a9 co (dq) (bK).1 H.h rfl,(bK).2,?_⟩;kd_p;refine gH (by rw[sizeLine_eq];exact E9 hs) ?_
 kd_p;refine aU.call (fJ H hr hv jd ic (λhc=>?_) (λhc=>?_) Eg pU)
 ·kd_p
  exact q hc
 ·kd_p
  exact q' hc
end
end
section
section
variable{n:Nat}{σ:AH}{Q:V->AH->Prop}{a b rest named host:V}{at':Nat}{aS:Addr}{l:List V}{s:Str}
theorem mB{p:Pl}(q:Q (.bool false) σ):aU 1 (.ref 292) [p.told] σ Q:=by
 refine aC (ly) rfl λL=>?_
 kcf_m;kd_p;refine bh ?_;kd_p;refine iW rfl rfl ?_;kd_p;cases p<;>first | exact nV q | exact nT q
set_option tactic.hygienic true in
theorem AF{p:Pl}(q:Q (.tup [.str p.kind,p.told]) σ):aU 2 (.ref 299) [.tup [.str p.kind,p.told],host] σ Q:=by
 refine aC (rA) rfl λL=>?_
 kcf_m;kd_p;refine jH (gY (by decide+kernel) (I2 w)) ?_
 refine hV ?_;kd_p;wtm_at "j"<;>rename_i h1
 ·kd_p
  refine jH (gY (by decide+kernel) (Rx w)) ?_
  refine hV ?_;kd_p;wtm_at "j"<;>rename_i h2
  ·kd_p
   exact q
  ·kd_p
   refine aY ?_;refine aF ?_;kd_p;refine aU.call (mB ?_);kd_p;exact q
 ·kd_p
  refine aY ?_;refine aF ?_;kd_p;refine aU.call (mB ?_);kd_p;exact q
set_option tactic.hygienic true in
theorem vZ{ll:List V}(hp:σ aS=some (.list ll))(hl:ll.length<=1000000)(hs:s.length<=1000)
  (q:Q (.tup [rest,.int at',named]) (if (at':Int)<s.length then σ.put aS (.list (ll++[.tup [.tup [.tup [.str "arb"],rest],.int ((at':Int)+1),named]])) else σ)):
  aU 1 (.ref 642) [.tup [.str "arb"],rest,.int at',named,.str s,.lst aS,host] σ Q:=by
 refine aC (oA) rfl λL=>?_
 kcf_m
 (refine au (aA ?_ rfl rfl))
 kd_p;refine bh ?_;kd_p;refine cg (by exact DC hs) ?_
 kd_p;wtm_at "j"<;>rename_i h1<;>simp only[decide_eq_true_eq]at h1
 ·rw[if_pos h1]at q
  kd_p;refine aB ?_;kd_p;refine⟨_,bw PySem.F.slot_list_append PySem.F.type_list_append hp,az,?_⟩;kd_p;refine aZ hp hl ?_;kd_p;exact q
 ·rw[if_neg h1]at q
  kd_p;exact q
theorem rl{p:Pl}(hs:s.length<=1000)(hp:p.fits)(q:Q (match p.ends s at' with | none=>.none | some e=>.tup [rest,.int e,named]) σ):
  aU 5 (.ref 642) [.tup [.str p.kind,p.told],rest,.int at',named,.str s,.lst aS,host] σ Q:=by
 refine aC (oA) rfl λL=>?_
 kcf_m
 (refine au (aA ?_ rfl rfl))
 kd_p;have h1:(p.kind==("arb":Str))=false:=nB (bH (bH (Jg p)).1).2;have h2:(p.kind==("bal":Str))=false:=nB (bH (Jg p)).2
 try refine ite_ff h1 ?_
 kd_p
 try refine ite_ff h2 ?_
 kd_p
 (refine aA ?_ rfl rfl)
 refine aF ?_;kd_p;refine aU.call ((AF ?_).less (by decide))
 kd_p;refine is_none ?_;kd_p
 (refine aA ?_ rfl rfl)
 refine aF ?_;kd_p;refine aU.call (g6 hs hp ?_);kd_p;cases he:p.ends s at' with
 | none=>rw[he]at q;kd_p;refine is_none ?_;kd_p;exact q
 | some e=>rw[he]at q;kd_p;refine is_none ?_;kd_p;(try refine ite_ff rfl ?_);kd_p;exact q
set_option tactic.hygienic true in
theorem v7{X:Int->AH->Prop}{d av ar al:Addr}{rf:List Str}{vals:List (Str×V)}{log:List V}{st lim:Int}(hs:s.length<=1000)(H:eT σ d av ar al rf vals log st lim)(hv:NV ((dg vals "N").getD (.str "")))
  (x:∀b,bu ((dg vals "N").getD (.str ""))=.error b->X (if b then 14 else 1) σ) (q:∀p,bu ((dg vals "N").getD (.str ""))=.ok p->Q (match p.ends s at' with | none=>.none | some e=>.tup [rest,.int e,named]) σ):
  cx 6 X (.ref 642) [.tup [.str "len",zv "N"],rest,.int at',named,.str s,.lst aS,.inst 582 d] σ Q:=by
 refine dX (oA) rfl λL=>?_
 kcf_m
 (refine au (aA ?_ rfl rfl))
 kd_p
 (refine aA ?_ rfl rfl)
 refine aF ?_;kd_p;refine cx.call (kz (X:=X) H hv ?_) (λ_ _ x=>x)
 revert x q;generalize ((dg vals "N").getD (.str ""))=v;intro x q;unfold mL;cases hc:m8 v with
 | none=>exact x false (by unfold bu;rw[hc])
 | some k=>
  dsimp only;split
  ·rename_i h;exact x true (by unfold bu;rw[hc];exact if_pos h)
  ·rename_i h
   have q:=q (.len k) (by unfold bu;rw[hc];exact if_neg h)
   have hp:(Pl.len k).fits:=Int.not_lt.mp h;show Be _ _ _ _;kd_p;refine is_none ?_;kd_p
   (refine aA ?_ rfl rfl)
   refine aF ?_;kd_p;refine aU.call ((g6 (p:=.len k) hs hp ?_).less (Nat.le_of_ble_eq_true rfl));kd_p;cases he:(Pl.len k).ends s at' with
   | none=>rw[he]at q;refine is_none (a:=.none) ?_;kd_p;exact q
   | some e=>rw[he]at q;refine is_none (a:=.int e) ?_;kd_p;(try refine ite_ff rfl ?_);kd_p;exact q
theorem Ng{n:NX}{env:Env}{ρ:Loc}{σ:AH}{Q:V->Loc->AH->Prop}{value slice:Expr}{a:Addr}{xs:List V}(ha:σ a=some (.list xs))(hz:xs.length<=100000)(q:∀b,σ b=none->Q (.lst b) ρ (σ.put b (.list xs.tail.reverse)))
  (hs:autoParam (∀o i,∃ops,subscripted slice false o i=operate ops (getItem o i)) Gy):DM n env value slice (.lst a) none (some 0) (some (-1)) ρ σ Q:=by
 cases xs with
 | nil=>
  exact y7 (λ_=>[]) ha (by decide) (by exact Nat.zero_le _) (λh vs e rs=>by
   have:vs= #[]:=by simpa using e
   subst this;exact .nil) q hs
 | cons x xs=>exact n9 ha (by simp at hz;exact aG (.l .A (.k 99999) (.g .A (.k 100000))) rfl hz) q hs
noncomputable def Bp(rest named:V)(e:Nat):V:=.tup [rest,.int (e:Nat),named]
inductive Kn(σ:AH)(aS b ra:Addr)(ll:List V)(rest named:V)(es:List Nat)(vs:List V)(ρ:Loc)(af:AH):Prop
 | mk (ds rs:List Nat) (e1:es.tail.reverse=ds++rs) (e2:vs=rs.map λi=>.int (i:Nat)) (e3:af aS=some (.list (ll++ds.map (Bp rest named)))) (e4:af ra=some (.list (es.tail.reverse.map λi=>.int (i:Nat)))) (e5:af b=some (.list (es.map λi=>.int (i:Nat)))) (K:Kept σ af [aS])
   (l1:at_ ρ "pile"=some (.lst aS)) (l2:at_ ρ "rest"=some rest) (l3:at_ ρ "named"=some named) (l4:at_ ρ "ends"=some (.lst b)):Kn σ aS b ra ll rest named es vs ρ af
theorem v5{ll:List V}(hp:σ aS=some (.list ll))(hl:ll.length<=100000)(hs:s.length<=1000)
  (q:∀af,Kept σ af [aS]->af aS=some (.list (ll++(cE s at').tail.reverse.map (Bp rest named)))->Q (match cE s at' with | []=>.none | e::_=>Bp rest named e) af):
  aU 3 (.ref 642) [.tup [.str "bal"],rest,.int at',named,.str s,.lst aS,host] σ Q:=by
 refine aC (oA) rfl λL=>?_
 kcf_m
 (refine au (aA ?_ rfl rfl))
 kd_p
 (refine aA ?_ rfl rfl)
 refine aF ?_;kd_p;refine aU.call (qw hs λb hb=>?_)
 have Vm:aS≠b:=λz=>by rw[z,hb]at hp;cases hp
 have hlen:=(ip (gj s at')).1;revert q hlen;generalize cE s at'=es;intro q hlen;have El:es.length<=1001:=by exact aX (.l (.a .A .B) (.a (.a .C .O) .B) (.l .C (.k 1000) (.g .A (.k 1001)))) rfl hlen hs
 have eb:(σ.put b (.list (es.map λi=>.int (i:Nat)))) b=some (.list (es.map λi=>.int (i:Nat))):=AH.aa _ _ _
 have ep:(σ.put b (.list (es.map λi=>.int (i:Nat)))) aS=some (.list ll):=by rw[AH.ae _ _ Vm];exact hp
 have K0:Kept σ (σ.put b (.list (es.map λi=>.int (i:Nat)))) [aS]:=Kept.new hb
 revert eb ep K0;generalize (σ.put b (.list (es.map λi=>.int (i:Nat))))=ba
 intro eb ep K0;kd_p;refine fW ?_;kd_p;refine qf ?_;kd_p;refine Ng eb (by refine qE ?_;exact aG (.l .A (.k 1001) (.g .A (.k 100000))) rfl El) ?_
 intro ra pU;rw[<-List.map_tail, <-List.map_reverse];refine⟨_,_,dN (AH.aa _ _ _),?_⟩;have Rv:∀{x o},ba x=some o->x≠ra:=λ{x o} e z=>by rw[z,pU]at e;cases e
 refine dM (Kn σ aS b ra ll rest named es) (λvs ρ aI ⟨_,_,_,_,_,e4,_,_,_,_,_,_⟩=>e4) ?_ ?_ _ _ _ ?_
 ·rintro v vs ρ aI ⟨ds,rs,e1,e2,e3,e4,e5,K,l1,l2,l3,l4⟩
  cases rs with
  | nil=>cases e2
  | cons r rs=>
   rw[List.map_cons,List.cons.injEq]at e2;obtain⟨rfl,rfl⟩:=e2;have hz:(ll++ds.map (Bp rest named)).length<=1000000:=by
    have:=congrArg List.length e1;simp at this ⊢;exact gf (.f .A (.a .B (.a .C .O)) (.l .D (.k 100000) (.l .E (.k 1001) (.l .A .E (.g (.a .D .B) (.k 1000000)))))) rfl this hl El (Nat.sub_le _ _)
   have XD:aS≠ra:=Rv ep;kd_p;refine aB ?_;kd_p;refine⟨_,bw PySem.F.slot_list_append PySem.F.type_list_append e3,az,?_⟩;kd_p;refine aZ e3 hz ?_;kd_p;refine⟨ds++[r],rs,by rw[e1];exact(List.append_assoc _ [_] _).symm,rfl,?_,?_,?_,K.trans (Kept.put (by exact .head _)),by wtm_at "a",by wtm_at "a",by wtm_at "a",by wtm_at "a"⟩
   ·rw[AH.aa];simp[Bp]
   ·rw[AH.ae _ _ (Ne.symm XD)];exact e4
   ·rw[AH.ae _ _ (Ne.symm Vm)];exact e5
 ·rintro ρ aI ⟨ds,rs,e1,e2,e3,e4,e5,K,l1,l2,l3,l4⟩
  have:rs=[]:=by cases rs with | nil=>rfl | cons p rs=>cases e2
  subst this;rw[List.append_nil]at e1;rw[<-e1]at e3;have q:=q aI K e3;kd_p;refine bh ?_;kd_p;refine aN e5 (by refine qE ?_;exact aG (.l .A (.k 1001) (.g .A (.k 1000000))) rfl El) ?_
  kd_p;cases es with
  | nil=>kd_p;exact q
  | cons e es=>
   refine ite_tt (by exact FC (Nat.succ_pos _)) ?_
   kd_p;refine cz (j:=0) (v:=.int (e:Nat)) e5 (by rfl) (by rfl) (by decide) ?_
   kd_p;exact q
 ·exact⟨[],_,rfl,rfl,by rw[AH.ae _ _ (Rv ep)];simpa using ep,AH.aa _ _ _,by rw[AH.ae _ _ (Rv eb)];exact eb,K0.trans (Kept.new pU),by wtm_at "a",by wtm_at "a",by wtm_at "a",by wtm_at "a"⟩
end
end
section
noncomputable def dO:List Str:=["cat","alt","arbno","later","now"]
noncomputable def gI:List Str:=["fence","abort","fail","succeed"]
noncomputable def Sk.v(k:Sk):V:=.tup [.str k.kind]
section
variable{n:Nat}{σ:AH}{Q:V->AH->Prop}{rest named host:V}{at':Int}{aS:Addr}{l more:List V}{s kind:Str}
theorem iF(hk:dO.contains kind=true)(h:aU n (.ref 621) [.tup (.str kind::more),rest,.int at',named,.lst aS] σ Q):
  aU (n+1) (.ref 614) [.tup [.tup (.str kind::more),rest],.int at',named,.str s,.lst aS,host] σ Q:=by
 refine aC (fk) rfl λL=>?_
 kcf_m
 (refine au (ag ?_))
 kd_p
 (refine aA ?_ rfl rfl)
 kd_p;refine bF (l:=dO) ?_;kd_p
 try refine ite_tt hk ?_
 kd_p;refine aF ?_;kd_p;exact aU.call h
theorem nK(hs:kind.length<=1000)(hk:dO.contains kind=false)(he:(Txt.slice kind none (some 4)==("end ":Str))=true)(h:aU n (.ref 628) [.tup (.str kind::more),rest,.int at',named,.str s,.lst aS,host] σ Q):
  aU (n+1) (.ref 614) [.tup [.tup (.str kind::more),rest],.int at',named,.str s,.lst aS,host] σ Q:=by
 refine aC (fk) rfl λL=>?_
 kcf_m
 (refine au (ag ?_))
 kd_p
 (refine aA ?_ rfl rfl)
 kd_p;refine bF (l:=dO) ?_;kd_p
 try refine ite_ff hk ?_
 kd_p;refine gH (by rw[sizeLine_eq];exact E9 hs) ?_
 kd_p
 try refine ite_tt he ?_
 kd_p;refine aF ?_;kd_p;exact aU.call h
theorem gZ{X:Int->AH->Prop}(hs:kind.length<=1000)(hk:dO.contains kind=false)(he:(Txt.slice kind none (some 4)==("end ":Str))=false)(h1:(kind==("cursor":Str))=false)(h2:(kind==("delay":Str))=false)(h3:gI.contains kind=false)
  (h:cx n X (.ref 642) [.tup (.str kind::more),rest,.int at',named,.str s,.lst aS,host] σ Q):
  cx (n+1) X (.ref 614) [.tup [.tup (.str kind::more),rest],.int at',named,.str s,.lst aS,host] σ Q:=by
 refine dX (fk) rfl λL=>?_
 kcf_m
 (refine au (ag ?_))
 kd_p
 (refine aA ?_ rfl rfl)
 kd_p;refine bF (l:=dO) ?_;kd_p
 try refine ite_ff hk ?_
 kd_p;refine gH (by rw[sizeLine_eq];exact E9 hs) ?_
 kd_p
 try refine ite_ff he ?_
 kd_p
 try refine ite_ff h1 ?_
 kd_p
 try refine ite_ff h2 ?_
 kd_p;refine bF (l:=gI) ?_;kd_p
 try refine ite_ff h3 ?_
 kd_p;refine aF ?_;kd_p;exact cx.call h λ_ _ x=>x
theorem vL{k:Sk}{vr:V}(h:aU n (.ref 635) [.tup [k.v,vr],.int at',named,.lst aS] σ Q):
  aU (n+1) (.ref 614) [.tup [k.v,vr],.int at',named,.str s,.lst aS,host] σ Q:=by
 cases k<;>(unfold Sk.v at h ⊢;dsimp only[Sk.kind]at h ⊢)<;>(
  refine aC (fk) rfl λL=>?_
  kcf_m
  (refine au (ag ?_))
  kd_p
  (refine aA ?_ rfl rfl)
  kd_p;refine bF (l:=dO) ?_;kd_p;refine gH (by rw[sizeLine_eq];decide) ?_
  kd_p;refine bF (l:=gI) ?_;kd_p;refine aF ?_;kd_p;exact aU.call h)
set_option tactic.hygienic true in
theorem AI{l:List V}{k:Sk}(hp:σ aS=some (.list l))(hl:l.length<=1000000)(q:match k with
   | .abort=>Q (.str "lost") σ
   | .fail=>Q .none σ
   | .fence=>Q (.tup [rest,.int at',named]) (σ.put aS (.list (l++[.none])))
   | .cA=>Q (.tup [rest,.int at',named]) (σ.put aS (.list (l++[.tup [.tup [(Sk.cA).v,rest],.int at',named]])))):
  aU 1 (.ref 635) [.tup [k.v,rest],.int at',named,.lst aS] σ Q:=by
 cases k<;>(unfold Sk.v at q ⊢;dsimp only[Sk.kind]at q ⊢)
 case abort=>
  refine aC (mS) rfl λL=>?_
  kcf_m;refine au (gW (names:=["kind","rest"]) ?_ rfl);kd_p;refine⟨_,rfl,rfl,?_⟩;refine bR rfl ?_;refine bR rfl ?_;show b8 _ _ _ _ _ _;kd_p;refine aq rfl ?_;kd_p;exact q
 case fail=>
  refine aC (mS) rfl λL=>?_
  kcf_m;refine au (gW (names:=["kind","rest"]) ?_ rfl);kd_p;refine⟨_,rfl,rfl,?_⟩;refine bR rfl ?_;refine bR rfl ?_;show b8 _ _ _ _ _ _;kd_p;exact q
 all_goals
  refine aC (mS) rfl λL=>?_
  kcf_m;refine au (gW (names:=["kind","rest"]) ?_ rfl);kd_p;refine⟨_,rfl,rfl,?_⟩;refine bR rfl ?_;refine bR rfl ?_;show b8 _ _ _ _ _ _;kd_p;refine aB ?_;kd_p;refine⟨_,bw PySem.F.slot_list_append PySem.F.type_list_append hp,az,?_⟩;kd_p;refine aZ hp hl ?_;kd_p;exact q
variable{d av ar al rd:Addr}{key x:Str}{rf:List Str}{vals:List (Str×V)}{log:List V}{st lim:Int}
theorem tG(H:eT σ d av ar al rf vals log st lim)(hr:σ rd=some (.dict (fV key)))(hv:vals.length<=1000)(jd:log.length<=1000000)(ic:al≠av)(Eg:d≠av)(pU:rd≠av)
  (q:rf.contains key=false->Q (.tup [rest,.int at',named]) ((σ.put av (.dict (b7 vals key (.int at')))).put al (.list (log++[.tup [.str key,.int at']])))) (q':rf.contains key=true->Q .none σ):
  aU 2 (.ref 614) [.tup [.tup [.str "cursor",.inst 208 rd],rest],.int at',named,.str s,.lst aS,.inst 582 d] σ Q:=by
 have co:=(bt).1;refine aC (fk) rfl λL=>?_
 kcf_m
 (refine au (ag ?_))
 kd_p
 (refine aA ?_ rfl rfl)
 kd_p;refine bF (l:=dO) ?_;kd_p;refine gH (by rw[sizeLine_eq];decide) ?_
 kd_p;refine aY ?_;refine aB ?_;kd_p;refine⟨_,a9 co (dq) (bK).1 H.h rfl,(bK).2,?_⟩;kd_p;refine aU.call (fJ H hr hv jd ic (λhc=>?_) (λhc=>?_) Eg pU)
 ·kd_p
  exact q hc
 ·kd_p
  exact q' hc
theorem ku{dp:Addr}{l:List (Str×V)}(hd:σ dp=some (.dict l))(q:Q (.bool false) σ):aU 1 (.ref 219) [.inst 166 dp] σ Q:=by
 refine aC (rz) rfl λL=>?_
 kcf_m;kd_p;refine bh ?_;kd_p;refine th rfl ?_;kd_p;exact s9 hd q
theorem sv{dp:Addr}{v:V}(hd:σ dp=some (.dict [("node",v)]))(hv:∀w,v≠.glob w)(q:Q v σ):aU 2 (.ref 285) [.inst 166 dp] σ Q:=by
 refine aC (sG) rfl λL=>?_
 kcf_m;kd_p;refine aY ?_;refine bh ?_;kd_p;refine th rfl ?_;kd_p;refine uW ?_;kd_p;refine ax (jO).1 (jo) hd (v:=v) rfl hv ?_;kd_p;exact q
theorem vK{dp:Addr}{v:V}(H:eT σ d av ar al rf vals log st lim)(hx:(dg vals key).getD (.str "")=.inst 166 dp)(hd:σ dp=some (.dict [("node",v)]))(hv:∀w,v≠.glob w)(q:Q (.tup [.tup [v,rest],.int at',named]) σ):
  aU 3 (.ref 614) [.tup [.tup [.str "delay",.tup [.str "name",.str key]],rest],.int at',named,.str s,.lst aS,.inst 582 d] σ Q:=by
 have co:=(bt).1;refine aC (fk) rfl λL=>?_
 kcf_m
 (refine au (ag ?_))
 kd_p
 (refine aA ?_ rfl rfl)
 kd_p;refine bF (l:=dO) ?_;kd_p;refine gH (by rw[sizeLine_eq];decide) ?_
 kd_p
 (refine aA ?_ rfl rfl)
 refine aB ?_;kd_p;refine⟨_,a9 co (dI) (bX).1 H.h rfl,(bX).2,?_⟩;kd_p;refine aU.call ((i0 H ?_).less (by decide))
 rw[hx];kd_p;refine aY ?_;refine aF ?_;kd_p;refine aU.call ((ku hd ?_).less (by decide))
 kd_p;refine aF ?_;kd_p;refine aU.call ((sv hd hv ?_).less (by decide))
 kd_p;exact q
end
end
section
structure Fx where
 d:Addr
 av:Addr
 ar:Addr
 al:Addr
 dp:Addr
 refs:List Ref
 lim:Nat
 C:Cf
noncomputable def Lf.ok(refs:List Ref):Lf->Prop
 | .pl p=>p.fits
 | .dZ=>True
 | .cV _=>True
 | .ask=>True
 | .bM _=>True
 | .c0 r=>r∈refs
noncomputable def Nd.ok(refs:List Ref):Nd->Prop
 | .leaf l=>l.ok refs
 | .cat a b=>a.ok refs/\b.ok refs
 | .alt a b=>a.ok refs/\b.ok refs
 | .bo a=>a.ok refs
 | .nm _ a r=>a.ok refs/\r∈refs
noncomputable def It.ok(refs:List Ref):It->Prop
 | .nd n=>n.ok refs
 | .round a _=>a.ok refs
 | .fin _ r _=>r∈refs
structure Gs(F:Fx)(h:HS):Prop where
 p:dg h.vals "P"=some (.inst 166 F.dp)
 n:NV h.N
noncomputable def SS(F:Fx):List (Str×V):=[("node",F.C.pn.v)]
noncomputable def Dm:Option cD->V
 | some w=>w.v
 | none=>.none
noncomputable def gD(p:br):List V:=(p.map Dm).reverse
theorem kZ(x:Option cD)(p:br):gD (x::p)=gD p++[Dm x]:=by simp[gD]
theorem iz(p:br):(gD p).length=p.length:=by simp[gD]
structure gL(F:Fx)(σ:AH)(h:HS):Prop where
 host:eT σ F.d F.av F.ar F.al F.C.rf h.vals h.log h.steps F.lim
 rf:∀r∈F.refs,σ r.1=some (.dict (fV r.2))
 pat:σ F.dp=some (.dict (SS F))
 apart:[F.d,F.av,F.ar,F.al].Nodup
 away:∀r∈F.refs,r.1≠F.d/\r.1≠F.av
 xu:F.dp≠F.d/\F.dp≠F.av
noncomputable def Fx.D(F:Fx):List Addr:=[F.d,F.av,F.al]
section
variable{F:Fx}{σ:AH}{h:HS}{a:Addr}{o:AO}
theorem gL.ne(H:gL F σ h):OZ (F.d≠F.av) (F.d≠F.ar) (F.d≠F.al) (F.av≠F.ar) (F.av≠F.al) (F.ar≠F.al):=by
 have:=H.apart;have⟨h1,h⟩:=List.nodup_cons.mp this;have⟨h2,h⟩:=List.nodup_cons.mp h;have h3:=(List.nodup_cons.mp h).1;exact⟨λz=>h1 (z▸.head _),λz=>h1 (z▸.tail _ (.head _)),λz=>h1 (z▸.tail _ (.tail _ (.head _))),λz=>h2 (z▸.head _),λz=>h2 (z▸.tail _ (.head _)),λz=>h3 (z▸.head _)⟩
theorem gL.put(H:gL F σ h)(n1:F.d≠a)(n2:F.av≠a)(n3:F.ar≠a)(n4:F.al≠a)(n5:∀r∈F.refs,r.1≠a)(n6:F.dp≠a):gL F (σ.put a o) h:=by
 refine⟨⟨?_,?_,?_,?_⟩,λr hr=>?_,?_,H.apart,H.away,H.xu⟩
 ·rw[AH.ae _ _ n1];exact H.host.h
 ·rw[AH.ae _ _ n2];exact H.host.v
 ·rw[AH.ae _ _ n3];exact H.host.r
 ·rw[AH.ae _ _ n4];exact H.host.l
 ·rw[AH.ae _ _ (n5 r hr)];exact H.rf r hr
 ·rw[AH.ae _ _ n6];exact H.pat
theorem gL.new(H:gL F σ h)(ha:σ a=none):gL F (σ.put a o) h:=
 H.put (ne_sn H.host.h ha) (ne_sn H.host.v ha) (ne_sn H.host.r ha) (ne_sn H.host.l ha) (λr hr=>ne_sn (H.rf r hr) ha) (ne_sn H.pat ha)
theorem gL.assign(H:gL F σ h)(k:Str)(v:V):gL F ((σ.put F.av (.dict (b7 h.vals k v))).put F.al (.list (h.log++[.tup [.str k,v]]))) (h.set k v):=by
 obtain⟨n1,n2,n3,n4,n5,n6⟩:=H.ne;refine⟨⟨?_,?_,?_,?_⟩,λr hr=>?_,?_,H.apart,H.away,H.xu⟩
 ·rw[AH.ae _ _ n3,AH.ae _ _ n1];exact H.host.h
 ·rw[AH.ae _ _ n5];exact AH.aa _ _ _
 ·rw[AH.ae _ _ n6,AH.ae _ _ (Ne.symm n4)];exact H.host.r
 ·exact AH.aa _ _ _
 ·rw[AH.ae _ _ (f7 (H.rf r hr) H.host.l),AH.ae _ _ (H.away r hr).2];exact H.rf r hr
 ·rw[AH.ae _ _ (f7 H.pat H.host.l),AH.ae _ _ H.xu.2];exact H.pat
theorem gL.step(H:gL F σ h):gL F (σ.put F.d (.dict (gA F.av F.ar F.al (h.steps+1) F.lim))) h.tick:=by
 obtain⟨n1,n2,n3,n4,n5,n6⟩:=H.ne;refine⟨⟨?_,?_,?_,?_⟩,λr hr=>?_,?_,H.apart,H.away,H.xu⟩
 ·rw[AH.aa];rfl
 ·rw[AH.ae _ _ (Ne.symm n1)];exact H.host.v
 ·rw[AH.ae _ _ (Ne.symm n2)];exact H.host.r
 ·rw[AH.ae _ _ (Ne.symm n3)];exact H.host.l
 ·rw[AH.ae _ _ (H.away r hr).1];exact H.rf r hr
 ·rw[AH.ae _ _ H.xu.1];exact H.pat
theorem gL.kept{af:AH}(H:gL F σ h)(K:Kept σ af []):gL F af h:=
 ⟨⟨K _ _ H.host.h nn,K _ _ H.host.v nn,K _ _ H.host.r nn,K _ _ H.host.l nn⟩,λr hr=>K _ _ (H.rf r hr) nn,K _ _ H.pat nn,H.apart,H.away,H.xu⟩
theorem gL.yN{af:AH}{D:List Addr}(H:gL F σ h)(K:Kept σ af D)(n:∀x∈D,x≠F.d/\x≠F.av/\x≠F.ar/\x≠F.al/\(∀r∈F.refs,x≠r.1)/\x≠F.dp):gL F af h:=
 ⟨⟨K _ _ H.host.h λm=>(n _ m).1 rfl,K _ _ H.host.v λm=>(n _ m).2.1 rfl,K _ _ H.host.r λm=>(n _ m).2.2.1 rfl,K _ _ H.host.l λm=>(n _ m).2.2.2.1 rfl⟩,λr hr=>K _ _ (H.rf r hr) λm=>(n _ m).2.2.2.2.1 r hr rfl,K _ _ H.pat λm=>(n _ m).2.2.2.2.2 rfl,H.apart,H.away,H.xu⟩
end
structure mG(F:Fx)(aS:Addr)(ba σ:AH)(h:HS)(p:br):Prop where
 bV:gL F σ h
 pl:σ aS=some (.list (gD p))
 off:F.ar≠aS/\F.al≠aS
 rest:Kept ba σ [F.d,F.av,F.al,aS]
section
variable{F:Fx}{aS:Addr}{ba σ:AH}{h:HS}{p:br}
theorem mG.Fp(T:mG F aS ba σ h p):OZ (F.d≠aS) (F.av≠aS) (F.ar≠aS) (F.al≠aS) (∀r∈F.refs,r.1≠aS) (F.dp≠aS):=
 ⟨f7 T.bV.host.h T.pl,f7 T.bV.host.v T.pl,T.off.1,T.off.2,λr hr=>f7 (T.bV.rf r hr) T.pl,f7 T.bV.pat T.pl⟩
theorem mG.y6(T:mG F aS ba σ h p)(p':br):mG F aS ba (σ.put aS (.list (gD p'))) h p':=by
 obtain⟨n1,n2,n3,n4,n5,n6⟩:=T.Fp;exact⟨T.bV.put n1 n2 n3 n4 n5 n6,AH.aa _ _ _,T.off,T.rest.trans (Kept.put (by exact .tail _ (.tail _ (.tail _ (.head _)))))⟩
theorem mG.assign(T:mG F aS ba σ h p)(k:Str)(v:V):mG F aS ba ((σ.put F.av (.dict (b7 h.vals k v))).put F.al (.list (h.log++[.tup [.str k,v]]))) (h.set k v) p:=by
 obtain⟨n1,n2,n3,n4,n5,n6⟩:=T.Fp;refine⟨T.bV.assign k v,?_,T.off,(T.rest.trans (Kept.put (by exact .tail _ (.head _)))).trans (Kept.put (by exact .tail _ (.tail _ (.head _))))⟩
 rw[AH.ae _ _ (Ne.symm n4),AH.ae _ _ (Ne.symm n2)];exact T.pl
theorem mG.step(T:mG F aS ba σ h p):mG F aS ba (σ.put F.d (.dict (gA F.av F.ar F.al (h.steps+1) F.lim))) h.tick p:=by
 obtain⟨n1,n2,n3,n4,n5,n6⟩:=T.Fp;refine⟨T.bV.step,?_,T.off,T.rest.trans (Kept.put (by exact .head _))⟩
 rw[AH.ae _ _ (Ne.symm n1)];exact T.pl
theorem mG.kept(T:mG F aS ba σ h p){af:AH}{p':br}(K:Kept σ af [aS])(hp:af aS=some (.list (gD p'))):mG F aS ba af h p':=by
 obtain⟨n1,n2,n3,n4,n5,n6⟩:=T.Fp;refine⟨T.bV.yN K λx m=>?_,hp,T.off,T.rest.trans (K.more (by simp))⟩
 rw[List.mem_singleton]at m;subst m;exact⟨Ne.symm n1,Ne.symm n2,Ne.symm n3,Ne.symm n4,λr hr=>Ne.symm (n5 r hr),Ne.symm n6⟩
theorem gL.begin(H:gL F σ h)(ha:σ aS=none)(p:br):mG F aS σ (σ.put aS (.list (gD p))) h p:=
 ⟨H.new ha,AH.aa _ _ _,⟨ne_sn H.host.r ha,ne_sn H.host.l ha⟩,Kept.new ha⟩
end
noncomputable def Ug:AR->Option V
 | .go w=>some w.v
 | .dead=>some .none
 | .dv=>some (.str "lost")
 | .err _=>none
noncomputable def wN(b:Bool):Int:=if b then 14 else 1
noncomputable def Ue:AR->Option Int
 | .err b=>some (wN b)
 | _=>none
inductive AQ(F:Fx)(aS:Addr)(ba:AH)(R:AR×br×HS)(v:V)(af:AH):Prop
 | mk(e:Ug R.1=some v)(T:mG F aS ba af R.2.2 R.2.1)
inductive AX(F:Fx)(aS:Addr)(ba:AH)(R:AR×br×HS)(num:Int)(af:AH):Prop
 | mk(e:Ue R.1=some num)(T:mG F aS ba af R.2.2 R.2.1)
theorem uC{p:Pl}{s:Str}{a:Nat}{e:Int}(hf:p.fits)(h:p.ends s a=some e):0<=e:=by
 cases p<;>simp only[Pl.ends]at h
 ·unfold cG at h;split at h<;>cases h;exact(qW (aH (.g .Z (.a .A .B)) rfl))
 ·unfold nj at h;split at h<;>cases h
  have:(0:Int)<=_:=hf;exact MN this
 ·unfold j0 at h;split at h<;>cases h;exact(qW (z6))
 ·unfold rD at h;split at h<;>cases h;exact(qW (aG (.g .Z (.a .A .O)) rfl))
 ·unfold j4 at h;split at h<;>cases h;exact(qW (z6))
set_option tactic.hygienic true in
theorem lP{v:V}{p:Pl}(h:bu v=.ok p):p.fits:=by
 unfold bu at h;split at h
 ·cases h
 ·split at h
  ·cases h
  ·rename_i k _ hk;cases h;exact Int.not_lt.mp hk
theorem Jf{C:Cf}{r:List It}{a:Nat}{n:Named}{p:br}{h:HS}{q:Pl}(hf:q.fits):Ug (eQ C r a n p h q).1=some (match q.ends C.s a with | none=>V.none | some e=>.tup [hM r,.int e,gC n])/\(eQ C r a n p h q).2=(p,h):=by
 unfold eQ;cases he:q.ends C.s a with
 | none=>exact⟨rfl,rfl⟩
 | some e=>
  have:=uC hf he;refine⟨?_,rfl⟩;show some (V.tup [_,.int ((e.toNat:Nat):Int),_])=_;rw[Int.toNat_of_nonneg this]
end
section
theorem aU.mJ{n:Nat}{X:Int->AH->Prop}{f:Value}{vs:List V}{σ:AH}{Q:V->AH->Prop}(h:aU n f vs σ Q):cx n X f vs σ Q:=λenv ρ Y A s us _ hA S F r=>h env ρ Y A s us (λ_ _ z=>z.elim) hA S F r
section
variable{F:Fx}{aS:Addr}{ba σ:AH}{h:HS}{p:br}{i:It}{r:List It}{a:Nat}{n:Named}{l:Lf}
theorem AQ.set(T:mG F aS ba σ h p){k:Str}{v:V}(hc:F.C.rf.contains k=false):AQ F aS ba (fQ F.C r a n p h k v) (.tup [hM r,.int a,gC n]) ((σ.put F.av (.dict (b7 h.vals k v))).put F.al (.list (h.log++[.tup [.str k,v]]))):=by
 have e:fQ F.C r a n p h k v=(.go ⟨r,a,n⟩,p,h.set k v):=by unfold fQ;rw[if_neg (by rw[hc];decide)]
 rw[e];exact⟨rfl,T.assign k v⟩
theorem AQ.unset(T:mG F aS ba σ h p){k:Str}{v:V}(hc:F.C.rf.contains k=true):AQ F aS ba (fQ F.C r a n p h k v) .none σ:=by
 have e:fQ F.C r a n p h k v=(.dead,p,h):=by unfold fQ;rw[if_pos hc]
 rw[e];exact⟨rfl,T⟩
theorem AQ.pl(T:mG F aS ba σ h p){q:Pl}(hf:q.fits):AQ F aS ba (eQ F.C r a n p h q) (match q.ends F.C.s a with | none=>V.none | some e=>.tup [hM r,.int e,gC n]) σ:=by
 obtain⟨e1,e2⟩:=Jf (C:=F.C) (r:=r) (a:=a) (n:=n) (p:=p) (h:=h) hf;refine⟨e1,?_⟩;rw[e2];exact T
theorem AQ.push(T:mG F aS ba σ h p)(w:cD)(x:Option cD){v:V}(e:w.v=v):AQ F aS ba (.go w,x::p,h) v (σ.put aS (.list (gD p++[Dm x]))):=⟨congrArg some e,by rw[<-kZ];exact T.y6 _⟩
noncomputable def SV(s:Str):Bool:= !dO.contains s && !(Txt.slice s none (some 4)==("end ":Str)) && !(s==("cursor":Str)) && !(s==("delay":Str)) && !gI.contains s&&Nat.ble s.length 1000
theorem MU(q:Pl):SV q.kind=true:=by cases q<;>(dsimp only[Pl.kind];decide)
theorem CU(q:Pl):dO.contains q.kind=false/\(Txt.slice q.kind none (some 4)==("end ":Str))=false/\(q.kind==("cursor":Str))=false/\(q.kind==("delay":Str))=false/\gI.contains q.kind=false/\q.kind.length<=1000:=by
 have h6:=bH (MU q);have h5:=bH h6.1;have h4:=bH h5.1;have h3:=bH h4.1;have h2:=bH h3.1;exact⟨nB h2.1,nB h2.2,nB h3.2,nB h4.2,nB h5.2,Nat.le_of_ble_eq_true h6.2⟩
theorem Jx(T:mG F aS ba σ h p)(O:Gs F h)(hs:F.C.s.length<=1000)(hi:l.ok F.refs)(hv:h.vals.length<=1000)(jd:h.log.length<=1000000)(hp:p.length<=100000):
  cx 7 (AX F aS ba (wF F.C l r a n p h)) (.ref 614) [.tup [l.v,hM r],.int a,gC n,.str F.C.s,.lst aS,.inst 582 F.d] σ (AQ F aS ba (wF F.C l r a n p h)):=by
 obtain⟨n1,n2,n3,n4,n5,n6⟩:=T.bV.ne;have tZ:(gD p).length<=1000000:=by rw[iz];exact Fb hp
 cases l with
 | pl q=>
  obtain⟨k1,k2,k3,k4,k5,k0⟩:=CU q;exact(gZ k0 k1 k2 k3 k4 k5 (rl hs hi (AQ.pl T hi)).mJ).less (by decide)
 | dZ=>
  refine gZ (by decide) (by decide) (by decide) (by decide) (by decide) (by decide) (v7 hs T.bV.host O.n (λb e=>?_) λq e=>?_)
  ·refine⟨?_,?_⟩
   ·show Ue (match bu h.N with | .error b=>(AR.err b,p,h) | .ok q=>eQ F.C r a n p h q).1=_
    unfold HS.N;rw[e];rfl
   ·show mG F aS ba σ (match bu h.N with | .error b=>(AR.err b,p,h) | .ok q=>eQ F.C r a n p h q).2.2 (match bu h.N with | .error b=>(AR.err b,p,h) | .ok q=>eQ F.C r a n p h q).2.1
    unfold HS.N;rw[e];exact T
  ·have:=AQ.pl (r:=r) (a:=a) (n:=n) T (lP e)
   have e2:wF F.C .dZ r a n p h=eQ F.C r a n p h q:=by
    show(match bu h.N with | .error b=>(AR.err b,p,h) | .ok q=>eQ F.C r a n p h q)=_
    unfold HS.N;rw[e]
   rw[e2];exact this
 | cV b=>
  cases b with
  | false=>
   refine(gZ (by decide) (by decide) (by decide) (by decide) (by decide) (by decide) (vZ T.pl tZ hs ?_).mJ).less (by decide)
   by_cases e:a<F.C.s.length
   ·rw[if_pos (by exact(DA (Cr e)))]
    have e2:wF F.C (.cV false) r a n p h=(.go ⟨r,a,n⟩,some ⟨.nd (.leaf (.cV false))::r,a+1,n⟩::p,h):=by
     show(AR.go _,(if a<F.C.s.length then _ else p),h)=_
     rw[if_pos e]
    rw[e2];exact AQ.push T _ _ rfl
   ·rw[if_neg (by exact(λz0=>aH (.l .A .B (.t .B .A (.z))) rfl (Nat.le_of_not_lt e) (iT z0)))]
    have e2:wF F.C (.cV false) r a n p h=(.go ⟨r,a,n⟩,p,h):=by
     show(AR.go _,(if a<F.C.s.length then _ else p),h)=_
     rw[if_neg e]
    rw[e2];exact⟨rfl,T⟩
  | true=>
   refine(gZ (by decide) (by decide) (by decide) (by decide) (by decide) (by decide) (v5 T.pl (by rw[iz];exact hp) hs λaf K e=>?_).mJ).less (by decide)
   have e2:wF F.C (.cV true) r a n p h=(match cE F.C.s a with | []=>(AR.dead,p,h) | e::es=>(.go ⟨r,e,n⟩,es.map (λe=>some ⟨r,e,n⟩)++p,h)):=rfl
   rw[e2];revert e;cases cE F.C.s a with
   | nil=>intro e;exact⟨rfl,T.kept K (by simpa using e)⟩
   | cons x es=>
    intro e;refine⟨rfl,T.kept K ?_⟩;rw[e];simp[gD,Dm,cD.v,Function.comp_def];rfl
 | ask=>
  refine(vK T.bV.host (dp:=F.dp) (by rw[O.p];rfl) T.bV.pat ?_ ⟨rfl,T⟩).mJ.less (by decide)
  intro u;cases F.C.pn with
  | leaf l=>intro z;cases z
  | nm b x k=>cases b<;>(intro z;cases z)
  | _=>intro z;cases z
 | bM k=>
  refine((vL (AI T.pl tZ ?_)).mJ).less (by decide)
  cases k with
  | abort=>exact⟨rfl,T⟩
  | fail=>exact⟨rfl,T⟩
  | fence=>exact AQ.push T _ _ rfl
  | cA=>exact AQ.push T _ (some ⟨.nd (.leaf (.bM .cA))::r,a,n⟩) rfl
 | c0 k=>
  exact((tG T.bV.host (T.bV.rf k hi) hv jd (Ne.symm n5) n1 (T.bV.away k hi).2 (λhc=>AQ.set T hc) (λhc=>AQ.unset T hc)).mJ).less (by decide)
theorem Nr(T:mG F aS ba σ h p)(O:Gs F h)(hs:F.C.s.length<=1000)(hi:i.ok F.refs)(hv:h.vals.length<=1000)(jd:h.log.length<=1000000)(hp:p.length<=100000)(hn:n.length<=100000):
  cx 7 (AX F aS ba (mY F.C i r a n p h)) (.ref 614) [.tup [i.v,hM r],.int a,gC n,.str F.C.s,.lst aS,.inst 582 F.d] σ (AQ F aS ba (mY F.C i r a n p h)):=by
 obtain⟨n1,n2,n3,n4,n5,n6⟩:=T.bV.ne;have tZ:(gD p).length<=1000000:=by rw[iz];exact Fb hp
 cases i with
 | round x b=>
  refine((nK (by decide) (by decide) (by decide) (vX ?_)).mJ).less (by decide)
  have e2:mY F.C (.round x b) r a n p h=((if a=b then AR.dead else .go ⟨.nd (.bo x)::r,a,n⟩),p,h):=rfl
  rw[e2];by_cases e:a=b
  ·rw[if_pos e,if_pos (by rw[e])];exact⟨rfl,T⟩
  ·rw[if_neg e,if_neg (by exact SD e)];exact⟨rfl,T⟩
 | fin now k b=>
  cases now with
  | false=>
   refine((nK (by decide) (by decide) (by decide) (vW (ns:=d8 n) hs (by simpa[d8] using hn) ⟨?_,T⟩)).mJ).less (by decide)
   show some (V.tup [_,_,gC (n++[_])])=_;unfold gC d8;rw[List.map_append];rfl
  | true=>
   exact((nK (by decide) (by decide) (by decide) (AB hs T.bV.host (T.bV.rf k hi) hv jd (Ne.symm n5) n1 (T.bV.away k hi).2 (λhc=>AQ.set T hc) (λhc=>AQ.unset T hc))).mJ).less (by decide)
 | nd m=>
  cases m with
  | leaf l=>exact Jx T O hs hi hv jd hp
  | cat x y=>exact((iF (by decide) (Ax ⟨rfl,T⟩)).mJ).less (by decide)
  | alt x y=>exact((iF (by decide) (Aw T.pl tZ (AQ.push T ⟨.nd x::r,a,n⟩ (some ⟨.nd y::r,a,n⟩) rfl))).mJ).less (by decide)
  | bo x=>exact((iF (by decide) (vT T.pl tZ (AQ.push T ⟨r,a,n⟩ (some ⟨.nd x::.round x a::r,a,n⟩) rfl))).mJ).less (by decide)
  | nm now x k=>
   cases now with
   | false=>exact((iF (by decide) (qA (.inl rfl) ⟨rfl,T⟩)).mJ).less (by decide)
   | true=>exact((iF (by decide) (qA (.inr rfl) ⟨rfl,T⟩)).mJ).less (by decide)
end
end
section
open PySem PySem.W PyProof.Rows PySem.Calls Builtin Builtin.Str
theorem uy(i n:Nat):max (0:Int) (min (if (i:Int)<0 then (i:Int)+n else i) n)=((min i n:Nat):Int):=by
 rw[if_neg (Int.not_lt.mpr (Int.natCast_nonneg i))];exact Sg
theorem Af(p q:Nat):sliceRange (p:Int) (q:Int) 1=(List.range (q-p)).map (p+ ·):=by
 unfold sliceRange;have e:((if (1:Int)>0 then (if (p:Int)<q then ((q:Int)-p+1-1)/1 else 0) else (if (p:Int)>q then ((p:Int)-q-1-1)/(-1) else 0)):Int).toNat=q-p:=by
  rw[if_pos (by decide),Int.ediv_one,Int.add_sub_cancel]
  by_cases h:(p:Int)<q
  ·rw[if_pos h];exact Sh h
  ·rw[if_neg h];exact Si h
 dsimp only;rw[e];exact List.map_congr_left λk _=>by exact Sj
theorem Ey(a b n:Nat):strSliceIndices (some (a:Int)) (some (b:Int)) 1 n=(List.range (min b n-min a n)).map (min a n+ ·):=by
 have:strSliceIndices (some (a:Int)) (some (b:Int)) 1 n=sliceRange (max (0:Int) (min (if (a:Int)<0 then (a:Int)+n else a) n)) (max (0:Int) (min (if (b:Int)<0 then (b:Int)+n else b) n)) 1:=rfl
 rw[this,uy,uy,Af]
set_option tactic.hygienic true in
theorem xr(l:List Nat)(s m:Nat):((List.range m).map (s+ ·)).filterMap (l[·]?)=(l.drop s).take m:=by
 induction m generalizing s with
 | zero=>rfl
 | succ m ih=>
  rw[List.range_succ_eq_map,List.map_cons,List.map_map];have e:((λx=>s+x)∘Nat.succ)=λx=>s+1+x:=funext λx=>by show s+(x+1)=_;exact Nat.le_antisymm (aH (.g (.a .A (.a .B .O)) (.a (.a .A .O) .B)) rfl) (aH (.g (.a (.a .A .O) .B) (.a .A (.a .B .O))) rfl)
  rw[e];have U3:=ih (s+1);show List.filterMap (λi=>l[i]?) (s::(List.range m).map λx=>s+1+x)=_
  cases h:l[s]? with
  | none=>
   have hs:l.length<=s:=List.getElem?_eq_none_iff.mp h;rw[List.filterMap_cons,h];dsimp only;rw[U3,List.drop_of_length_le (Nat.le_succ_of_le hs),List.drop_of_length_le hs,List.take_nil,List.take_nil]
  | some v=>
   obtain⟨hs,hv⟩:=List.getElem?_eq_some_iff.mp h;rw[List.filterMap_cons,h];dsimp only;rw[U3,List.drop_eq_getElem_cons hs,List.take_succ_cons,hv]
set_option tactic.hygienic true in
theorem r7(x:Str)(a b:Nat):Txt.slice x (some (a:Int)) (some (b:Int))=⟨((x.cps.toList.drop a).take (b-a)).toArray⟩:=by
 have hl:x.cps.toList.length=x.length:=Array.length_toList;have key:(x.cps.toList.drop (min a x.length)).take (min b x.length-min a x.length)=(x.cps.toList.drop a).take (b-a):=by
  by_cases h:a<=x.length
  ·rw[Nat.min_eq_left h]
   by_cases h2:b<=x.length
   ·rw[Nat.min_eq_left h2]
   ·have hd:(x.cps.toList.drop a).length=x.length-a:=by rw[List.length_drop,hl]
    rw[Nat.min_eq_right (Nat.le_of_not_le h2),List.take_of_length_le (Nat.le_of_eq hd),List.take_of_length_le (by rw[hd];exact Nat.sub_le_sub_right (Nat.le_of_not_le h2) a)]
  ·have h3:x.length<=a:=Nat.le_of_not_le h
   rw[Nat.min_eq_right h3,List.drop_of_length_le (Nat.le_of_eq hl),List.drop_of_length_le (by rw[hl];exact h3),List.take_nil,List.take_nil]
 unfold Txt.slice;rw[Ey];by_cases h:((1:Int)==1&&((List.range (min b x.length-min a x.length)).map (min a x.length+ ·)).length==x.length)=true
 ·rw[if_pos h, <-key]
  rw[Bool.and_eq_true,List.length_map,List.length_range,beq_iff_eq,beq_iff_eq]at h;have h1:min a x.length=0\/x.length=0:=by exact Sl h
  have h2:x.cps.toList.length<=min b x.length-min a x.length:=by rw[hl];exact aH (.f .A .B (.g .B .A)) rfl h.2
  have e:((x.cps.toList.drop (min a x.length)).take (min b x.length-min a x.length))=x.cps.toList:=by
   rw[List.take_of_length_le (by rw[List.length_drop];exact Nat.le_trans (Nat.sub_le _ _) h2)]
   rcases h1 with h1 | h1
   ·rw[h1];rfl
   ·have:x.cps.toList=[]:=List.eq_nil_of_length_eq_zero (hl.trans h1)
    rw[this,List.drop_nil]
  rw[e]
 ·rw[if_neg h, <-key, <-xr]
  have:(λi=>x.cps[i]?)=λi=>x.cps.toList[i]? :=funext λi=>(Array.getElem?_toList).symm
  rw[this]
theorem cps_append(a b:Str):(a++b).cps.toList=a.cps.toList++b.cps.toList:=by show(a.cps++b.cps).toList=_;simp
end
section
theorem BK{k x:Str}{v:V}(n:x≠k):∀l:List (Str×V),dg (l.map λkv=>if kv.1=k then (kv.1,v) else kv) x=dg l x
 | []=>rfl
 | (y,u)::l=>by
  have ih:=BK (v:=v) n l;show dg ((if y=k then (y,v) else (y,u))::_) x=_
  by_cases q:y=k
  ·have z:¬y=x:=λz=>n (z.symm.trans q)
   rw[if_pos q];exact dA.trans ((if_neg z).trans (ih.trans (dA.trans (if_neg z)).symm))
  ·rw[if_neg q]
   exact dA.trans ((congrArg (λz=>if y=x then some u else z) ih).trans dA.symm)
theorem yD{k:Str}{v:V}:∀l:List (Str×V),l.any (λkv=>kv.1=k)=true->dg (l.map λkv=>if kv.1=k then (kv.1,v) else kv) k=some v
 | [],h=>by cases h
 | (y,u)::l,h=>by
  show dg ((if y=k then (y,v) else (y,u))::_) k=_
  by_cases q:y=k
  ·rw[if_pos q];exact dA.trans (if_pos q)
  ·rw[if_neg q]
   refine dA.trans ((if_neg q).trans (yD l ?_));have h:(decide (y=k)||l.any λkv=>kv.1=k)=true:=h
   rw[decide_eq_false q,Bool.false_or]at h;exact h
theorem wV{k x:Str}{v:V}:∀l:List (Str×V),l.any (λkv=>kv.1=x)=false\/x≠k->dg (l++[(k,v)]) x=if x=k then some v else dg l x
 | [],_=>by
  refine dA.trans ?_;by_cases q:x=k
  ·rw[if_pos q,if_pos q.symm]
  ·rw[if_neg q,if_neg λz=>q z.symm];rfl
 | (y,u)::l,h=>by
  refine Eq.trans (dA (l:=l++[(k,v)])) ?_;by_cases q:y=x
  ·rw[if_pos q]
   rcases h with h | h
   ·have h:(decide (y=x)||l.any λkv=>kv.1=x)=false:=h
    rw[decide_eq_true q]at h;cases h
   ·rw[if_neg h];exact(dA.trans (if_pos q)).symm
  ·rw[if_neg q]
   have h2:l.any (λkv=>kv.1=x)=false\/x≠k:=h.imp (λh=>by
    have h:(decide (y=x)||l.any λkv=>kv.1=x)=false:=h
    rw[decide_eq_false q,Bool.false_or]at h;exact h) id
   refine(wV l h2).trans ?_;rw[show dg ((y,u)::l) x=dg l x from dA.trans (if_neg q)]
theorem yC{l:List (Str×V)}{k x:Str}{v:V}(n:x≠k):dg (b7 l k v) x=dg l x:=by
 unfold b7;split
 ·exact BK n l
 ·exact(wV l (.inr n)).trans (if_neg n)
set_option tactic.hygienic true in
theorem zF{l:List (Str×V)}{k:Str}{v:V}:dg (b7 l k v) k=some v:=by
 unfold b7;split
 ·rename_i h;exact yD l h
 ·rename_i h;exact(wV l (.inl (Bool.eq_false_iff.mpr h))).trans (if_pos rfl)
theorem vy(l:List (Str×V))(k:Str)(v:V):(b7 l k v).length<=l.length+1:=by
 unfold b7;split
 ·exact Nat.le_succ_of_le (Nat.le_of_eq DE)
 ·exact Nat.le_of_eq qc
theorem oD{P:cD->Prop}{w0:cD}(h:P w0):∀w,AR.go w0=.go w->P w:=λw e=>by cases e;exact h
structure mT(F:Fx):Prop where
 hs:F.C.s.length<=4
 sg:∀x∈F.C.s.cps.toList,x<128/\(x<48\/57<x)/\x≠43/\x≠45
 pn:F.C.pn.ok F.refs
 ky:∀r∈F.refs,r.2≠"P"
theorem yU{F:Fx}(O:mT F)(b a:Nat):JI (cutText F.C b a):=by
 unfold cutText;rw[r7];have hm:∀x∈(F.C.s.cps.toList.drop b).take (a-b),x∈F.C.s.cps.toList:=λx hx=>List.mem_of_mem_drop (List.mem_of_mem_take hx)
 have hl:((F.C.s.cps.toList.drop b).take (a-b)).length<=4:=by
  have:F.C.s.cps.toList.length=F.C.s.length:=Array.length_toList;have:=O.hs;rw[List.length_take,List.length_drop];exact bD (.e .A .B (.l .B (.k 4) (.l .C .D (.l .D .A (.g .C (.k 4)))))) rfl (by assumption) this (Nat.min_le_right _ _) (Nat.sub_le _ _)
 revert hm hl;generalize (F.C.s.cps.toList.drop b).take (a-b)=l;intro hm hl;cases l with
 | nil=>exact .nil
 | cons d l=>
  have hd:=O.sg d (hm d (by exact .head _))
  exact .some d l hd.2.2.1 hd.2.2.2 hd.2.1 (λx hx=>(O.sg x (hm x hx)).1) (by simp at hl;exact aG (.l .A (.k 3) (.g .A (.k 60))) rfl hl)
theorem yJ{F:Fx}{h:HS}(H:Gs F h){k:Str}{v:V}(hk:k≠"P")(hv:NV v):Gs F (h.set k v):=by
 refine⟨?_,?_⟩
 ·show dg (b7 h.vals k v) "P"=_
  rw[yC (Ne.symm hk)];exact H.p
 ·show NV ((dg (b7 h.vals k v) "N").getD (.str ""))
  by_cases q:("N":Str)=k
  ·subst q;rw[zF];exact hv
  ·rw[yC q];exact H.n
structure sM(F:Fx)(st:Nat)(w:cD):Prop where
 ok:∀i∈w.chain,i.ok F.refs
 nm:w.named.length<=st
structure Gd(F:Fx)(h:HS)(p:br):Prop where
 ok:Gs F h
 lo:h.log.length<=h.steps
 va:h.vals.length<=3+h.steps
 pi:p.length<=1+5*h.steps
 wa:∀w,some w∈p->sM F h.steps w
structure zd(F:Fx)(st:Nat)(R:AR×br×HS):Prop where
 es:R.2.2.steps=st
 gd:Gd F R.2.2 R.2.1
 wa:∀w,R.1=.go w->sM F st w
section
variable{F:Fx}{h:HS}{p:br}{i:It}{r:List It}{a:Nat}{n:Named}
theorem sM.up{st:Nat}{w:cD}(W:sM F st w):sM F (st+1) w:=⟨W.ok,Nat.le_succ_of_le W.nm⟩
theorem Gd.tick(G:Gd F h p):Gd F h.tick p:=
 ⟨⟨G.ok.p,G.ok.n⟩,Nat.le_succ_of_le G.lo,by have:=G.va;show h.vals.length<=3+(h.steps+1);exact aH (.l .A (.a (.k 3) .B) (.g .A (.a (.k 3) (.a .B .O)))) rfl this,by have:=G.pi;show p.length<=1+5*(h.steps+1);exact EL this,λw m=>(G.wa w m).up⟩
theorem zd.same(G:Gd F h p){x:AR}{p':br}(hl:p'.length<=p.length+5)(hp:∀w,some w∈p'->some w∈p\/sM F (h.steps+1) w)(hw:∀w,x=.go w->sM F (h.steps+1) w):zd F (h.steps+1) (x,p',h.tick):=by
 refine⟨rfl,⟨G.tick.ok,G.tick.lo,G.tick.va,?_,λw m=>?_⟩,hw⟩
 ·have:=G.pi;show p'.length<=1+5*(h.steps+1);exact aX (.l .A (.a .O (.m 5 .B)) (.l .C (.a .A (.k 5)) (.g .C (.a .O (.m 5 (.a .B .O)))))) rfl this hl
 ·rcases hp w m with z | z
  ·exact(G.wa w z).up
  ·exact z
theorem zd.set(G:Gd F h p)(O:mT F){k:Ref}{v:V}(hk:k∈F.refs)(hv:NV v)(W:sM F (h.steps+1) ⟨r,a,n⟩):zd F (h.steps+1) (fQ F.C r a n p h.tick k.2 v):=by
 unfold fQ;split
 ·exact .same G (Nat.le_add_right _ _) (λw m=>.inl m) (λw e=>by cases e)
 ·refine⟨rfl,⟨yJ G.tick.ok (O.ky k hk) hv,?_,?_,?_,λw m=>(G.wa w m).up⟩,λw e=>by cases e;exact W⟩
  ·show(h.log++[_]).length<=h.steps+1
   have:=G.lo;refine Cw ?_;exact jg this
  ·show(b7 h.vals k.2 v).length<=3+(h.steps+1)
   have:=vy h.vals k.2 v;have:=G.va;exact aX (.l .A (.a (.k 3) .B) (.l .C (.a .A .O) (.g .C (.a (.k 3) (.a .B .O))))) rfl this (by assumption)
  ·have:=G.pi;show p.length<=1+5*(h.steps+1);exact EL this
theorem zd.pl(G:Gd F h p){q:Pl}(W:∀b,sM F (h.steps+1) ⟨r,b,n⟩):zd F (h.steps+1) (eQ F.C r a n p h.tick q):=by
 unfold eQ;split
 ·exact .same G (Nat.le_add_right _ _) (λw m=>.inl m) (λw e=>by cases e)
 ·exact .same G (Nat.le_add_right _ _) (λw m=>.inl m) (oD (W _))
theorem Bk(O:mT F)(G:Gd F h p)(W:sM F h.steps ⟨i::r,a,n⟩):zd F (h.steps+1) (mY F.C i r a n p h.tick):=by
 have hr:∀j∈r,j.ok F.refs:=λj m=>W.ok j (by exact .tail _ (by assumption))
 have hi:i.ok F.refs:=W.ok i (by exact .head _)
 have hn:n.length<=h.steps:=W.nm;have wr:∀(js:List It)(b:Nat),(∀j∈js,j.ok F.refs)->sM F (h.steps+1) ⟨js++r,b,n⟩:=λjs b hj=>⟨λj m=>(List.mem_append.mp m).elim (hj j) (hr j),Nat.le_succ_of_le hn⟩
 have w0:∀b,sM F (h.steps+1) ⟨r,b,n⟩:=λb=>wr [] b (by exact nofun)
 have one:∀(x:AR)(w:cD),sM F (h.steps+1) w->(∀w,x=.go w->sM F (h.steps+1) w)->zd F (h.steps+1) (x,some w::p,h.tick):=λx w hw hx=>
  .same G (by simp) (λv m=>(List.mem_cons.mp m).elim (λe=>by cases e;exact .inr hw) .inl) hx
 have zero:∀(x:AR),(∀w,x=.go w->sM F (h.steps+1) w)->zd F (h.steps+1) (x,p,h.tick):=λx hx=>.same G (Nat.le_add_right _ _) (λw m=>.inl m) hx
 cases i with
 | round x b=>
  show zd _ _ ((if a=b then AR.dead else .go ⟨.nd (.bo x)::r,a,n⟩),p,h.tick)
  split
  ·exact zero _ λw e=>nomatch e
  ·exact zero _ (oD (wr [.nd (.bo x)] a (all1 hi)))
 | fin now k b=>
  cases now with
  | false=>exact zero _ (oD (⟨hr,by refine Cw ?_;exact hn⟩))
  | true=>exact .set G O hi (.str _ (yU O b a)) (w0 a)
 | nd m=>
  cases m with
  | cat x y=>exact zero _ (oD (wr [.nd x,.nd y] a (all2 hi.1 hi.2)))
  | alt x y=>exact one _ _ (wr [.nd y] a (all1 hi.2)) (oD (wr [.nd x] a (all1 hi.1)))
  | bo x=>exact one _ _ (wr [.nd x,.round x a] a (all2 hi hi)) (oD (w0 a))
  | nm b x k=>exact zero _ (oD (wr [.nd x,.fin b k a] a (all2 hi.1 hi.2)))
  | leaf l=>
   cases l with
   | pl q=>exact .pl G w0
   | dZ=>
    show zd _ _ (match bu h.tick.N with | .error b=>(AR.err b,p,h.tick) | .ok q=>eQ F.C r a n p h.tick q)
    split
    ·exact zero _ λw e=>nomatch e
    ·exact .pl G w0
   | cV b=>
    cases b with
    | false=>
     show zd _ _ (AR.go _,(if a<F.C.s.length then _ else p),h.tick)
     split
     ·exact one _ _ (wr [.nd (.leaf (.cV false))] (a+1) (all1 trivial)) (oD (w0 a))
     ·exact zero _ (oD (w0 a))
    | true=>
     show zd _ _ (match cE F.C.s a with | []=>(AR.dead,p,h.tick) | e::es=>(.go ⟨r,e,n⟩,es.map (λe=>some ⟨r,e,n⟩)++p,h.tick))
     have hb:=(ip (gj F.C.s a)).2;revert hb;cases cE F.C.s a with
     | nil=>intro _;exact zero _ λw e=>nomatch e
     | cons e es=>
      intro hb;have hb:=hb (by exact List.cons_ne_nil _ _)
      have:=O.hs;refine .same G (by simp at hb ⊢;exact bD (.l (.a (.a .A .O) .B) .C (.l .C (.k 4) (.g (.a .A .D) (.a .D (.k 5))))) rfl hb this) (λw m=>?_) (oD (w0 _))
      rcases List.mem_append.mp m with z | z
      ·obtain⟨b,_,e⟩:=List.mem_map.mp z
       cases e;exact .inr (w0 b)
      ·exact .inl z
   | ask=>exact zero _ (oD (wr [.nd F.C.pn] a (all1 O.pn)))
   | bM k=>
    cases k with
    | fence=>exact .same G (by simp) (λw m=>(List.mem_cons.mp m).elim (λe=>by cases e) .inl) (oD (w0 a))
    | fail=>exact zero _ λw e=>nomatch e
    | abort=>exact zero _ λw e=>nomatch e
    | cA=>exact one _ _ (wr [.nd (.leaf (.bM .cA))] a (all1 trivial)) (oD (w0 a))
   | c0 k=>exact .set G O hi (.int _) (w0 a)
end
end
section
noncomputable def XY(ba:AH)(R:Rs)(v:V)(σ:AH):Prop:=match R with
 | .none=>v=.none
 | .dv=>v=.str "lost"
 | .met a n=>∃b,v=.tup [.int a,.lst b]/\σ b=some (.list (d8 n))/\ba b=none
 | .cut=>False
 | .err _=>False
noncomputable def Vx:Rs->Option Int
 | .cut=>some 22
 | .err b=>some (wN b)
 | _=>none
inductive TQ(F:Fx)(ba:AH)(R:Rs×HS)(v:V)(σ:AH):Prop
 | mk(e:XY ba R.1 v σ)(H:gL F σ R.2)(K:Kept ba σ F.D)
inductive TX(F:Fx)(ba:AH)(R:Rs×HS)(num:Int)(σ:AH):Prop
 | mk(e:Vx R.1=some num)(H:gL F σ R.2)(K:Kept ba σ F.D)
theorem mG.done{F:Fx}{aS:Addr}{ba σ:AH}{h:HS}{p:br}(T:mG F aS ba σ h p)(h0:ba aS=none):Kept ba σ F.D:=λb o e n=>by
 refine T.rest b o e ?_;have n:b∉[F.d,F.av,F.al]:=n;rw[CD]at n;rw[xn];exact⟨n.1,n.2.1,n.2.2,ne_sn e h0⟩
inductive TI(F:Fx)(aS:Addr)(ba:AH)(R:Rs×HS)(f:Nat)(ρ:Loc)(σ:AH):Prop
 | mk(p:br)(h:HS)(T:mG F aS ba σ h p)(G:Gd F h p)(hf:f+h.steps=F.lim)(e:FW (fc F.C f) p h=R)(l1:at_ ρ "pile"=some (.lst aS))(l2:at_ ρ "subject"=some (.str F.C.s))(l3:at_ ρ "host"=some (.inst 582 F.d)):TI F aS ba R f ρ σ
inductive TJ(F:Fx)(aS:Addr)(ba:AH)(R:Rs×HS)(f0 f:Nat)(ρ:Loc)(σ:AH):Prop
 | mk(hm:f<=f0)(w:cD)(p:br)(h:HS)(T:mG F aS ba σ h p)(G:Gd F h p)(W:sM F h.steps w)(hf:f+h.steps=F.lim)(e:fc F.C f w p h=R)(l1:at_ ρ "pile"=some (.lst aS))(l2:at_ ρ "subject"=some (.str F.C.s))(l3:at_ ρ "host"=some (.inst 582 F.d))
   (l4:at_ ρ "chain"=some (hM w.chain)) (l5:at_ ρ "at"=some (.int w.at_)) (l6:at_ ρ "named"=some (gC w.named)):TJ F aS ba R f0 f ρ σ
section
variable{F:Fx}{σ:AH}{h:HS}{n:Nd}{begin f:Nat}
end
namespace jR
@[reducible] noncomputable def P(F:Fx)(σ:AH)(h:HS)(n:Nd)(begin f:Nat):Prop:=∀(H:gL F σ h)(O:mT F)(hl:F.lim<=900)(G:Gd F h [])(hn:n.ok F.refs)(hf:f+h.steps=F.lim),cx 9 (TX F σ (fc F.C f ⟨[.nd n],begin,[]⟩ [] h)) (.ref 607) [n.v,.str F.C.s,.int begin,.inst 582 F.d] σ (TQ F σ (fc F.C f ⟨[.nd n],begin,[]⟩ [] h))
noncomputable def Q_:=UU λF=>UU λσ=>UU λh=>UU λn=>UU (P F σ h n)
noncomputable def x_:=xx Q_ (⟨(0:Nat),(0:Nat),(0:Nat),(0:Nat),(0:Nat),[],0,⟨"",[],.leaf .dZ⟩⟩,(λ_=>none),⟨[],[],0⟩,.leaf .dZ,0,0)
def F:=x_.1
def σ:=x_.2.1
def h:=x_.2.2.1
def n:=x_.2.2.2.1
def begin:=x_.2.2.2.2.1
def f:=x_.2.2.2.2.2
theorem go:P F σ h n begin f:=by
 intro H O hl G hn hf;have co:=(bt).1;refine dX (DI) rfl λL=>?_
 kcf_m
 (refine au (aA ?_ rfl rfl))
 refine aW ?_;kd_p;intro aS pT;kd_p;have W0:sM F h.steps ⟨[.nd n],begin,[]⟩:=⟨all1 hn,Nat.zero_le _⟩;have G0:Gd F h [some ⟨[.nd n],begin,[]⟩]:=⟨G.ok,G.lo,G.va,by exact Nat.le_add_right _ _,λw m=>by simp at m;subst m;exact W0⟩
 generalize hR:fc F.C f ⟨[.nd n],begin,[]⟩ [] h=R;refine eE (TI F aS σ R) f ⟨_,h,H.begin pT [some ⟨[.nd n],begin,[]⟩],G0,hf,hR,by wtm_at "a",by wtm_at "a",by wtm_at "a"⟩ ?_
 rintro f ρ af ⟨p,h1,T,G1,yI,e,l1,l2,l3⟩;have tZ:(gD p).length<=1000000:=by rw[iz];have:=G1.pi;exact bD (.e2 5 (.a .A .B) .C (.l .D (.a .O (.m 5 .B)) (.l2 5 .C (.k 900) (.g .D (.k 1000000))))) rfl yI this hl
 kd_p;refine bh ?_;kd_p;refine aN T.pl tZ ?_;rw[iz];kd_p;cases p with
 | nil=>
  kd_p;cases e;exact⟨rfl,T.bV,T.done pT⟩
 | cons x p=>
  refine ite_tt (by exact FC (Nat.succ_pos _)) ?_
  have e0:af aS=some (.list (gD p++[Dm x])):=by rw[<-kZ];exact T.pl
  rw[kZ]at tZ;kd_p
  (refine aA ?_ rfl rfl)
  refine aB ?_;kd_p;refine⟨_,bw PySem.F.slot_list_pop PySem.F.type_list_pop e0,az,?_⟩;kd_p;refine gy e0 (by simp at tZ;exact aG (.l .A (.k 999999) (.g .A (.k 1000000))) rfl tZ) ?_
  have T1:=T.y6 p;have G2:Gd F h1 p:=⟨G1.ok,G1.lo,G1.va,by have:=G1.pi;simp at this;exact EM this,λw m=>G1.wa w (by exact .tail _ (by assumption))⟩
  cases x with
  | none=>
   cases e;show ze _ _ _ _ .none _ _;kd_p;refine is_none ?_;kd_p;refine aq rfl ?_;kd_p;exact⟨rfl,T1.bV,T1.done pT⟩
  | some w=>
   have e:fc F.C f w p h1=R:=e;have W:=G1.wa w (by exact .head _)
   show ze _ _ _ _ w.v _ _;unfold cD.v;kd_p;refine is_none ?_;kd_p
   (refine ag ?_)
   kd_p;refine eE (TJ F aS σ R f) f ⟨Nat.le_refl _,w,p,h1,T1,G2,W,yI,e,?_,?_,?_,?_,?_,?_⟩ ?_
   iterate 6 (focus wtm_at "a")
   rintro f1 bJ aI ⟨hm,⟨chain,a,nm⟩,p1,h2,TS,G3,W1,uL,e1,l1,l2,l3,l4,l5,l6⟩;dsimp only at l4 l5 l6;cases chain with
   | nil=>
    have Xo:at_ bJ "chain"=some .none:=l4;have WT:(d8 nm).length<=1000000:=by unfold d8;rw[List.length_map];have:=W1.nm;dsimp only at this;exact bD (.e (.a .A .B) .C (.l .C (.k 900) (.l .D .B (.g .D (.k 1000000))))) rfl uL hl this
    rw[mv]at e1;cases e1;unfold gC at l6;kd_p;refine bQ ?_;kd_p;refine is_none ?_;kd_p;refine jy ?_;kd_p;refine qS WT ?_;intro b hb;kd_p;have Qk:σ b=none:=by
     cases z:σ b with
     | none=>rfl
     | some o=>
      exfalso;by_cases m:b∈[F.d,F.av,F.al,aS]
      ·simp only[List.mem_cons,List.not_mem_nil,or_false]at m
       rcases m with m | m | m | m
       ·rw[m,TS.bV.host.h]at hb;cases hb
       ·rw[m,TS.bV.host.v]at hb;cases hb
       ·rw[m,TS.bV.host.l]at hb;cases hb
       ·rw[m,TS.pl]at hb;cases hb
      ·rw[TS.rest b o z m]at hb;cases hb
    exact⟨⟨b,rfl,AH.aa _ _ _,Qk⟩,TS.bV.new hb,(TS.done pT).trans (Kept.new hb)⟩
   | cons i r=>
    have Xo:at_ bJ "chain"=some (.tup [i.v,hM r]):=l4;kd_p;refine bQ ?_;kd_p;wtm_at "h";kd_p;refine aB ?_;kd_p;refine⟨_,a9 co (ij) (dR).1 TS.bV.host.h rfl,(dR).2,?_⟩;kd_p;refine cx.call ((oi (X:=TX F σ R) TS.bV.host (λqV=>?_) (λqV=>?_)).less (Nat.le_of_ble_eq_true rfl)) (λ_ _ x=>x)
    rotate_left
    ·have Qv:f1=0:=by exact Nat.le_antisymm (aX (.e (.a .A .B) .C (.t .C (.a .B .O) (.g .A .Z))) rfl uL (UZ qV)) (z6)
     subst Qv;rw[nG]at e1;cases e1;have T3:=TS.step;exact⟨rfl,T3.bV,T3.done pT⟩
    obtain⟨f2,rfl⟩:∃f2,f1=f2+1:=⟨f1-1,by exact Nat.le_antisymm (aH (.f (.a .A .O) .B (.g .B (.a .A .O))) rfl (Nat.sub_add_cancel (EN (iL qV) uL))) (aH (.e (.a .A .O) .B (.g (.a .A .O) .B)) rfl (Nat.sub_add_cancel (EN (iL qV) uL)))⟩
    rw[fC]at e1;have AG:=Bk O G3 W1;have T3:=TS.step;have hi:i.ok F.refs:=W1.ok i (by exact .head _)
    kd_p
    (refine aA ?_ rfl rfl)
    refine aF ?_;kd_p;refine cx.call ((cx.mono (Nr (r:=r) (a:=a) (n:=nm) T3 G3.tick.ok (by have:=O.hs;exact aG (.l .A (.k 4) (.g .A (.k 1000))) rfl this) hi (by have:=G3.tick.va;show h2.vals.length<=1000;have e:h2.tick.steps=h2.steps+1:=rfl;have:=G3.va;exact bD (.e (.a (.a .A .O) .B) .C (.l .D (.a (.k 3) .B) (.l .C (.k 900) (.g .D (.k 1000))))) rfl uL this hl) (by have:=G3.lo;show h2.log.length<=_;exact bD (.e (.a (.a .A .O) .B) .C (.l .C (.k 900) (.l .D .B (.g .D (.k 1000000))))) rfl uL hl this) (by have:=G3.pi;exact bD (.e2 5 (.a (.a .A .O) .B) .C (.l .D (.a .O (.m 5 .B)) (.l2 5 .C (.k 900) (.g .D (.k 100000))))) rfl uL this hl) (by have:=W1.nm;dsimp only at this;exact bD (.e (.a (.a .A .O) .B) .C (.l .C (.k 900) (.l .D .B (.g .D (.k 100000))))) rfl uL hl this)) ?_).less (Nat.le_of_ble_eq_true rfl)) ?_
    ·rintro v bU ⟨ev,T4⟩
     revert e1 AG ev T4;generalize mY F.C i r a nm p1 h2.tick=A;obtain⟨x,p2,h3⟩:=A;intro e1 AG ev T4;have bV:h3.steps=h2.steps+1:=AG.es;cases x with
     | err b=>cases ev
     | go w2=>
      obtain⟨PM,a2,n2⟩:=w2;cases ev;have e1:fc F.C f2 ⟨PM,a2,n2⟩ p2 h3=R:=e1;show ze _ _ _ _ (.tup [hM PM,.int a2,gC n2]) _ _;kd_p;refine is_none ?_;kd_p;refine aq rfl ?_;refine jz ?_;kd_p
      (refine ag ?_)
      kd_p;exact⟨_,Nat.lt_succ_self _,Nat.le_of_succ_le hm,⟨PM,a2,n2⟩,p2,h3,T4,AG.gd,by rw[bV];exact AG.wa _ rfl,by exact Nat.le_antisymm (G7 uL bV) (G8 uL bV),e1,by wtm_at "a",by wtm_at "a",by wtm_at "a",by wtm_at "a",by wtm_at "a",by wtm_at "a"⟩
     | dead=>
      cases ev;kd_p;refine is_none ?_;kd_p;show b8 _ _ _ _ _ _;kd_p;refine is_none ?_;kd_p;exact⟨f2,by exact aH (.l (.a .A .O) .B (.b .A .B)) rfl hm,p2,h3,T4,AG.gd,by exact Nat.le_antisymm (G7 uL bV) (G8 uL bV),e1,by wtm_at "a",by wtm_at "a",by wtm_at "a"⟩
     | dv=>
      cases ev;cases e1;kd_p;refine is_none ?_;kd_p;refine aq rfl ?_;kd_p;refine aq rfl ?_;kd_p;exact⟨rfl,T4.bV,T4.done pT⟩
    ·rintro num bU ⟨ev,T4⟩
     revert e1 ev T4;generalize mY F.C i r a nm p1 h2.tick=A;obtain⟨x,p2,h3⟩:=A;intro e1 ev T4;cases x with
     | err b=>cases e1;exact⟨ev,T4.bV,T4.done pT⟩
     | _=>cases ev
end jR
theorem Gm{F:Fx}{σ:AH}{h:HS}{n:Nd}{begin f:Nat}:jR.P F σ h n begin f:=xa (Q:=jR.Q_) jR.go (F,σ,h,n,begin,f)
section
variable{F:Fx}{σ:AH}{h:HS}{n:Nd}{begin f:Nat}
end
end
section
inductive Rp where
 | cut | err (b:Bool) | none | met (b a:Nat) (n:Named)
noncomputable def rY(k:HS->Rp×HS)(b:Nat)(x:Rs×HS):Rp×HS:=match x.1 with
 | .none=>k x.2
 | .dv=>(.none,x.2)
 | .met a n=>(.met b a n,x.2)
 | .cut=>(.cut,x.2)
 | .err e=>(.err e,x.2)
noncomputable def places(P:Nat->Nat->HS->Rs×HS)(lim:Nat):Nat->Nat->HS->Rp×HS
 | 0,_,h=>(.none,h)
 | m+1,b,h=>rY (places P lim m (b+1)) b (P (lim-h.steps) b h)
theorem Gd.nil{F:Fx}{h:HS}{p:br}(G:Gd F h p):Gd F h []:=⟨G.ok,G.lo,G.va,Nat.zero_le _,λw m=>by cases m⟩
structure NS(F:Fx)(l:Nat)(R:Rs×HS):Prop where
 gd:Gd F R.2 []
 le:R.1=.cut\/R.2.steps<=l
theorem FX{F:Fx}{l:Nat}{k:cD->br->HS->Rs×HS}{p:br}{h:HS}(G:Gd F h p)(hl:h.steps<=l)(hk:∀w p,Gd F h p->sM F h.steps w->NS F l (k w p h)):NS F l (FW k p h):=by
 cases p with
 | nil=>exact⟨G,.inr hl⟩
 | cons x p=>
  have G2:Gd F h p:=⟨G.ok,G.lo,G.va,by have:=G.pi;simp at this;exact EM this,λw m=>G.wa w (by exact .tail _ (by assumption))⟩
  cases x with
  | none=>exact⟨G.nil,.inr hl⟩
  | some w=>exact hk w p G2 (G.wa w (by exact .head _))
theorem tB{F:Fx}(O:mT F){l:Nat}:∀(f:Nat)(w:cD)(p:br)(h:HS),Gd F h p->sM F h.steps w->f+h.steps=l->NS F l (fc F.C f w p h)
 | f,⟨[],a,n⟩,p,h,G,_,hf=>by rw[mv];exact⟨G.nil,.inr (by show h.steps<=l;exact aX (.e (.a .A .B) .C (.g .B .C)) rfl hf)⟩
 | 0,⟨i::r,a,n⟩,p,h,G,W,hf=>by rw[nG];exact⟨G.tick.nil,.inl rfl⟩
 | f+1,⟨i::r,a,n⟩,p,h,G,W,hf=>by
  rw[fC];have AG:=Bk O G W;revert AG;generalize mY F.C i r a n p h.tick=A;obtain⟨x,p2,h3⟩:=A;intro AG;have bV:h3.steps=h.steps+1:=AG.es;cases x with
  | go w=>exact tB O f w p2 h3 AG.gd (by rw[bV];exact AG.wa w rfl) (by exact Nat.le_antisymm (G7 hf bV) (G8 hf bV))
  | dead=>
   exact FX (h:=h3) AG.gd (by exact u7 hf bV) λw p G' W'=>tB O f w p h3 G' W' (by exact Nat.le_antisymm (G7 hf bV) (G8 hf bV))
  | dv=>exact⟨AG.gd.nil,.inr (by show h3.steps<=l;exact u7 hf bV)⟩
  | err b=>exact⟨AG.gd.nil,.inr (by show h3.steps<=l;exact u7 hf bV)⟩
end
section
theorem uH{n:NX}{env:Env}{Q:Fl->Loc->AH->Prop}{target:Expr}{body orelse:List Stmt}(I:Nat->Nat->Loc->AH->Prop)
  (turn:∀b m ρ σ,I b (m+1) ρ σ->yc n env target (.int (b:Nat)) ρ σ (λbJ aI=>b8 n env body bJ aI (DJ (I (b+1) m) Q))) (fin:∀b ρ σ,I b 0 ρ σ->b8 n env orelse ρ σ Q) (m:Nat) {ρ:Loc} {σ:AH} (h:I 0 (m+1) ρ σ):
  ug n env target body orelse (λ_=>True) (dG 0 ((m:Int)+1)) ρ σ Q:=by
 have e0:dG 0 ((m:Int)+1)=(List.range' 0 (m+1)).map λi=>.int (i:Nat):=n7 (m+1)
 rw[e0];refine dM (λvs ρ σ=>∃b m,vs=(List.range' b m).map (λi=>V.int (i:Nat))/\I b m ρ σ) (λ_ _ _ _=>trivial) ?_ ?_ _ _ _ ⟨0,_,rfl,h⟩
 ·rintro v vs ρ σ ⟨b,m,ev,i⟩
  cases m with
  | zero=>cases ev
  | succ m=>
   rw[List.range'_succ,List.map_cons,List.cons.injEq]at ev;obtain⟨rfl,rfl⟩:=ev;exact λu=>Tr.mono (turn b m ρ σ i u) λ_ bJ aI q=>Tr.mono q λf d5 bU q=>match f,q with
    | .next,q=>⟨_,_,rfl,q⟩
    | .cont,q=>⟨_,_,rfl,q⟩
    | .brk,q=>q
    | .ret _,q=>q
 ·rintro ρ σ ⟨b,m,ev,i⟩
  cases m with
  | zero=>exact fin b ρ σ i
  | succ m=>cases ev
noncomputable def XX(b:Nat)(ba:AH)(R:Rs)(v:V)(σ:AH):Prop:=match R with
 | .none=>v=.none
 | .dv=>v=.str "lost"
 | .met a n=>∃x,v=.tup [.int b,.int a,.lst x]/\σ x=some (.list (d8 n))/\ba x=none
 | .cut=>False
 | .err _=>False
inductive BQ(F:Fx)(ba:AH)(b:Nat)(R:Rs×HS)(v:V)(σ:AH):Prop
 | mk(e:XX b ba R.1 v σ)(H:gL F σ R.2)(K:Kept ba σ F.D)
noncomputable def XW(ba:AH)(R:Rp)(v:V)(σ:AH):Prop:=match R with
 | .none=>v=.none
 | .met b a n=>∃x,v=.tup [.int b,.int a,.lst x]/\σ x=some (.list (d8 n))/\ba x=none
 | .cut=>False
 | .err _=>False
noncomputable def Vw:Rp->Option Int
 | .cut=>some 22
 | .err b=>some (wN b)
 | _=>none
inductive PQ(F:Fx)(ba:AH)(R:Rp×HS)(v:V)(σ:AH):Prop
 | mk(e:XW ba R.1 v σ)(H:gL F σ R.2)(K:Kept ba σ F.D)
inductive PX(F:Fx)(ba:AH)(R:Rp×HS)(num:Int)(σ:AH):Prop
 | mk(e:Vw R.1=some num)(H:gL F σ R.2)(K:Kept ba σ F.D)
theorem gL.off{F:Fx}{σ:AH}{h:HS}(H:gL F σ h){x:Addr}(e:σ x=none):x∉F.D:=by
 show x∉[F.d,F.av,F.al];rw[CD];exact⟨ne_ns e H.host.h,ne_ns e H.host.v,ne_ns e H.host.l⟩
noncomputable def tP(F:Fx)(n:Nd):Nat->Nat->HS->Rs×HS:=λf b h=>fc F.C f ⟨[.nd n],b,[]⟩ [] h
section
variable{F:Fx}{σ:AH}{h:HS}{n:Nd}{begin f:Nat}
theorem xS(H:gL F σ h)(O:mT F)(hl:F.lim<=900)(G:Gd F h [])(hn:n.ok F.refs)(hf:f+h.steps=F.lim):
  cx 10 (TX F σ (tP F n f begin h)) (.ref 600) [n.v,.str F.C.s,.int begin,.inst 582 F.d] σ (BQ F σ begin (tP F n f begin h)):=by
 refine dX (wt) rfl λL=>?_
 kcf_m
 (refine au (aA ?_ rfl rfl))
 refine aF ?_;kd_p;refine cx.call (cx.mono (Gm H O hl G hn hf) ?_) (λ_ _ x=>x)
 rintro v af ⟨e,H1,K1⟩;unfold tP;revert e H1;generalize fc F.C f ⟨[.nd n],begin,[]⟩ [] h=R;obtain⟨R1,R2⟩:=R;intro e H1;cases R1 with
 | cut=>exact e.elim
 | err b=>exact e.elim
 | none=>
  have e:v=.none:=e;subst e;kd_p;refine is_none ?_;kd_p;exact⟨rfl,H1,K1⟩
 | dv=>
  have e:v=.str "lost":=e;subst e;kd_p;refine is_none ?_;kd_p;refine aq rfl ?_;kd_p;exact⟨rfl,H1,K1⟩
 | met a nm=>
  obtain⟨b,rfl,e1,e2⟩:=e;kd_p;refine is_none ?_;kd_p;refine aq rfl ?_;refine jz ?_;kd_p;exact⟨⟨b,rfl,e1,e2⟩,H1,K1⟩
inductive PI(F:Fx)(ba:AH)(n:Nd)(R:Rp×HS)(b m:Nat)(ρ:Loc)(σ:AH):Prop
 | mk(h:HS)(e:places (tP F n) F.lim m b h=R)(H:gL F σ h)(G:Gd F h [])(hle:h.steps<=F.lim)(K:Kept ba σ F.D)(l1:at_ ρ "node"=some n.v)(l2:at_ ρ "subject"=some (.str F.C.s))(l3:at_ ρ "host"=some (.inst 582 F.d)):PI F ba n R b m ρ σ
end
namespace eH
@[reducible] noncomputable def P(F:Fx)(σ:AH)(h:HS)(n:Nd)(gb:Bool):Prop:=∀(H:gL F σ h)(O:mT F)(hl:F.lim<=900)(G:Gd F h [])(hn:n.ok F.refs)(hle:h.steps<=F.lim),cx 11 (PX F σ (places (tP F n) F.lim ((if gb then 0 else F.C.s.length)+1) 0 h)) (.ref 593) [n.v,.str F.C.s,.bool gb,.inst 582 F.d] σ (PQ F σ (places (tP F n) F.lim ((if gb then 0 else F.C.s.length)+1) 0 h))
noncomputable def Q_:=UU λF=>UU λσ=>UU λh=>UU (P F σ h)
noncomputable def x_:=xx Q_ (⟨(0:Nat),(0:Nat),(0:Nat),(0:Nat),(0:Nat),[],0,⟨"",[],.leaf .dZ⟩⟩,(λ_=>none),⟨[],[],0⟩,.leaf .dZ,true)
def F:=x_.1
def σ:=x_.2.1
def h:=x_.2.2.1
def n:=x_.2.2.2.1
def gb:=x_.2.2.2.2
theorem go:P F σ h n gb:=by
 intro H O hl G hn hle;generalize hm:(if gb then 0 else F.C.s.length)=m
 have Iu:m<=4:=by have:=O.hs;subst hm;split<;>first | exact SE | exact SG this
 generalize hR:places (tP F n) F.lim (m+1) 0 h=R;refine dX (qJ) rfl λL=>?_
 kcf_m;refine au (fW ?_);refine jy ?_;refine cO (Tr.mono (Q:=λv ρ' af=>v=.int ((m:Int)+1)/\ρ'=([("host",.inst 582 F.d),("is_anchored",.bool gb),("subject",.str F.C.s),("node",n.v)]:Loc)/\σ=af) ?_ ?_)
 ·refine GG ?_
  refine aY ?_;kd_p;subst hm;cases gb with
  | true=>kd_p;exact⟨rfl,rfl,rfl⟩
  | false=>
   kd_p;refine bh ?_;kd_p;refine cg (by have:=O.hs;exact aG (.l .A (.k 4) (.g .A (.k 1000000))) rfl this) ?_
   kd_p;exact⟨rfl,rfl,rfl⟩
 rintro v ρ' af ⟨rfl,rfl,rfl⟩;refine jx ?_;refine⟨_,_,pV (by exact(by decide)) (by exact(by decide)) (by exact iN) (by exact(qW (aG (.l .A (.k 4) (.g (.a .A .O) (.k 1000000))) rfl Iu))),?_⟩
 refine uH (PI F σ n R) ?_ ?_ m ⟨h,hR,H,G,hle,Kept.refl _ _,by wtm_at "a",by wtm_at "a",by wtm_at "a"⟩
 ·rintro b m ρ aI ⟨h1,e,H1,G1,pS,K1,l1,l2,l3⟩
  have RG:NS F F.lim (tP F n (F.lim-h1.steps) b h1):=tB O _ _ _ _ G1 ⟨all1 hn,Nat.zero_le _⟩ (by exact Nat.le_antisymm (EO (Nat.sub_add_cancel (jg pS))) (EP (Nat.sub_add_cancel (jg pS))))
  have C:=xS (begin:=b) H1 O hl G1 hn (show F.lim-h1.steps+h1.steps=F.lim by exact Nat.le_antisymm (EO (Nat.sub_add_cancel (jg pS))) (EP (Nat.sub_add_cancel (jg pS))))
  have e:rY (places (tP F n) F.lim m (b+1)) b (tP F n (F.lim-h1.steps) b h1)=R:=e;revert e C RG;generalize tP F n (F.lim-h1.steps) b h1=T;obtain⟨T1,h2⟩:=T;intro RG C e;kd_p
  (refine aA ?_ rfl rfl)
  refine aF ?_;kd_p;refine cx.call (cx.mono C ?_) ?_
  ·rintro v bU ⟨e1,H2,K2⟩
   cases T1 with
   | cut=>exact e1.elim
   | err b=>exact e1.elim
   | none=>
    have e1:v=.none:=e1;subst e1;kd_p;refine bQ ?_;kd_p;exact⟨h2,e,H2,RG.gd,RG.le.resolve_left (by intro z;cases z),K1.trans K2,by wtm_at "a",by wtm_at "a",by wtm_at "a"⟩
   | dv=>
    have e1:v=.str "lost":=e1;subst e1;cases e;kd_p;refine bQ ?_;kd_p;wtm_at "h";kd_p;refine aq rfl ?_;kd_p;exact⟨rfl,H2,K1.trans K2⟩
   | met a nm=>
    obtain⟨x,rfl,Wa,Um⟩:=e1;cases e;kd_p;refine bQ ?_;kd_p;wtm_at "h";kd_p;refine aq rfl ?_;refine jz ?_;kd_p;exact⟨⟨x,rfl,Wa,K1.gone Um (H1.off Um)⟩,H2,K1.trans K2⟩
  ·rintro num bU ⟨e1,H2,K2⟩
   cases T1 with
   | cut=>cases e;exact⟨e1,H2,K1.trans K2⟩
   | err b=>cases e;exact⟨e1,H2,K1.trans K2⟩
   | _=>cases e1
 ·rintro b ρ aI ⟨h1,e,H1,G1,pS,K1,l1,l2,l3⟩
  cases e;kd_p;exact⟨rfl,H1,K1⟩
end eH
theorem ri{F:Fx}{σ:AH}{h:HS}{n:Nd}{gb:Bool}:eH.P F σ h n gb:=xa (Q:=eH.Q_) eH.go (F,σ,h,n,gb)
section
variable{F:Fx}{σ:AH}{h:HS}{n:Nd}{begin f:Nat}
end
end
section
noncomputable def Nd.kind:Nd->Str
 | .leaf l=>l.kind | .cat .. =>"cat" | .alt .. =>"alt" | .bo _=>"arbno"
 | .nm true .. =>"now" | .nm false .. =>"later"
noncomputable def Nd.args:Nd->List V
 | .leaf l=>l.args | .cat a b=>[a.v,b.v] | .alt a b=>[a.v,b.v] | .bo a=>[a.v]
 | .nm true a r=>[a.v,fh r] | .nm false a r=>[a.v,fh r]
theorem Nd.v_eq(n:Nd):n.v=.tup (.str n.kind::n.args):=by
 cases n with
 | nm b a r=>cases b<;>rfl
 | _=>rfl
noncomputable def Nd.size:Nd->Nat
 | .cat a b=>a.size+b.size+1
 | .alt a b=>a.size+b.size+1
 | .bo a=>a.size+1
 | .nm _ a _=>a.size+1
 | .leaf _=>1
noncomputable def ah:Nd->List Nd
 | .cat a b=>ah a++ah b
 | n=>[n]
noncomputable def aD:Nd->List Nd
 | .alt a b=>aD a++aD b
 | n=>[n]
inductive Ord where
 | leaf(l:Lf) | split (g:Nat) | bG (g:Nat) | mark | nm (now:Bool) (r:Ref) | dY | done
noncomputable def Lf.MF:Lf->Str
 | .pl _=>"one" | .dZ=>"one" | .cV _=>"ways" | .ask=>"ask" | .bM k=>k.kind | .c0 _=>"place"
noncomputable def Lf.oa:Lf->List V
 | .pl p=>[.str p.kind,p.told] | .dZ=>[.str "len",zv "N"] | .cV false=>[.str "arb"] | .cV true=>[.str "bal"] | .ask=>[.tup [.str "name",.str "P"]] | .bM _=>[] | .c0 r=>[fh r]
noncomputable def Ord.kind:Ord->Str
 | .leaf l=>l.MF | .split _=>"split" | .bG _=>"jump" | .mark=>"mark" | .nm true _=>"set" | .nm false _=>"name" | .dY=>"gain" | .done=>"done"
noncomputable def Ord.args:Ord->List V
 | .leaf l=>l.oa | .split g=>[.int g] | .bG g=>[.int g] | .mark=>[] | .nm true r=>[fh r] | .nm false r=>[fh r] | .dY=>[] | .done=>[]
noncomputable def Ord.v(o:Ord):V:=.tup (.str o.kind::o.args)
theorem Ord.v_eq(o:Ord):o.v=.tup (.str o.kind::o.args):=rfl
abbrev bY:=List (Option Ord)
noncomputable def kX:Option Ord->V
 | some o=>o.v
 | none=>.none
noncomputable def Pl.text:Pl->Option Str
 | .chars t=>some t | .len _=>none | .xA _=>none | .any _=>none | .span _=>none
noncomputable def textOf:Nd->Option Str
 | .leaf (.pl p)=>p.text
 | .leaf .dZ=>none | .leaf (.cV _)=>none | .leaf .ask=>none | .leaf (.bM _)=>none | .leaf (.c0 _)=>none | .cat .. =>none | .alt .. =>none | .bo _=>none | .nm .. =>none
noncomputable def Gh:Option Str->Nat
 | some t=>t.length
 | none=>0
noncomputable def Nd.txt(n:Nd):Nat:=Gh (textOf n)
noncomputable def aJ(found:List Nd)(p:Nd):List Nd:=match textOf p with
 | none=>found++[p]
 | some t=>if t="" then found else match found.getLast? with
  | none=>found++[p]
  | some q=>match textOf q with
   | none=>found++[p]
   | some u=>found.dropLast++[.leaf (.pl (.chars (u++t)))]
noncomputable def joined(ps:List Nd):List Nd:=ps.foldl aJ []
noncomputable def cM(os:bY):List Nat->bY
 | []=>os
 | j::js=>cM (os.set j (some (.bG os.length))) js
noncomputable def hW(put:Nd->bY->bY):List Nd->bY->List Nat->bY
 | [],os,js=>cM os js
 | [p],os,js=>cM (put p os) js
 | p::ps,os,js=>
  let SR:=put p (os++[none])
  hW put ps ((SR++[none]).set os.length (some (.split (SR.length+1)))) (js++[SR.length])
noncomputable def putN:Nat->Nd->bY->bY
 | 0,_,os=>os
 | k+1,n,os=>match n with
  | .leaf l=>os++[some (.leaf l)]
  | .cat a b=>(joined (ah (.cat a b))).foldl (λos p=>putN k p os) os
  | .alt a b=>hW (putN k) (aD (.alt a b)) os []
  | .bo a=>
   let Vs:=putN k a (os++[some (.split (os.length+2)),none,some .mark])++[some .dY,some (.bG os.length)]
   Vs.set (os.length+1) (some (.bG Vs.length))
  | .nm now a r=>putN k a (os++[some .mark])++[some (.nm now r)]
end
section
noncomputable def de(b:Bool):Nd->List Nd:=if b then aD else ah
noncomputable def jY(b:Bool):Str:=if b then "alt" else "cat"
theorem eW:∀st:List Nd,st.length<=(st.map Nd.size).sum
 | []=>Nat.le_refl _
 | p::st=>by
  have:=eW st;have:0<p.size:=by cases p<;>exact Nat.succ_pos _
  show st.length+1<=p.size+(st.map Nd.size).sum;exact aX (.t .Z .A (.l .B .C (.g (.a .B .O) (.a .A .C)))) rfl this (by assumption)
theorem Nd.size_pos(n:Nd):0<n.size:=by cases n<;>exact Nat.succ_pos _
noncomputable def Rb(s:Str):Bool:= !(s==("cat":Str)) && !(s==("alt":Str)) && !(s==("arbno":Str)) && !(s==("later":Str)) && !(s==("now":Str))
theorem Ml(l:Lf):Rb l.kind=true:=by
 cases l with
 | pl p=>cases p<;>rfl
 | cV b=>cases b<;>rfl
 | bM k=>cases k<;>rfl
 | _=>rfl
theorem qb(l:Lf):(l.kind==("cat":Str))=false/\(l.kind==("alt":Str))=false/\(l.kind==("arbno":Str))=false/\(l.kind==("later":Str))=false/\(l.kind==("now":Str))=false:=by
 have h5:=bH (Ml l);have h4:=bH h5.1;have h3:=bH h4.1;have h2:=bH h3.1;exact⟨nB h2.1,nB h2.2,nB h3.2,nB h4.2,nB h5.2⟩
noncomputable def RC(b:Bool)(p:Nd):Prop:=((p.kind==jY b)=false/\de b p=[p])\/
  ((p.kind==jY b)=true/\∃x y,p.args=[x.v,y.v]/\de b p=de b x++de b y/\p.size=x.size+y.size+1)
theorem vq{b:Bool}{p:Nd}(h1:(p.kind==jY b)=false)(h2:de b p=[p]):RC b p:=.inl ⟨h1,h2⟩
theorem CW{b:Bool}{p x y:Nd}(h1:(p.kind==jY b)=true)(h2:p.args=[x.v,y.v])(h3:de b p=de b x++de b y)(h4:p.size=x.size+y.size+1):RC b p:=.inr ⟨h1,x,y,h2,h3,h4⟩
set_option tactic.hygienic true in
theorem CX(b:Bool)(p:Nd):RC b p:=by
 cases b<;>cases p with
 | cat x y=>first | exact vq rfl rfl | exact CW (x:=x) (y:=y) rfl rfl rfl rfl
 | alt x y=>first | exact vq rfl rfl | exact CW (x:=x) (y:=y) rfl rfl rfl rfl
 | nm b _ _=>cases b<;>exact vq rfl rfl
 | leaf l=>exact vq (by first | exact(qb l).1 | exact(qb l).2.1) rfl
 | _=>exact vq rfl rfl
section
variable{σ:AH}{Q:V->AH->Prop}
set_option tactic.hygienic true in
theorem vY{n:Nd}{b:Bool}(hz:n.size<=1000)(q:∀a af,σ a=none->af a=some (.list ((de b n).map Nd.v))->Kept σ af []->Q (.lst a) af):
  aU 1 (.ref 23) [n.v,.str (jY b)] σ Q:=by
 refine aC (Ba) rfl λL=>?_
 kcf_m;refine au (gW (names:=["found","waiting"]) ?_ rfl);refine lR ?_;refine cj ?_ rfl;refine aW ?_;kd_p;intro fa jc;refine cj ?_ rfl;refine aW ?_;kd_p;intro wa zO;kd_p;refine⟨_,rfl,rfl,?_⟩;refine bR rfl ?_;refine bR rfl ?_;show b8 _ _ _ _ _ _;kd_p;have Fn:fa≠wa:=λe=>by rw[<-e,AH.aa]at zO;cases zO
 have Ew:σ wa=none:=by rw[AH.ae _ _ (Ne.symm Fn)]at zO;exact zO
 let I:Nat->Loc->AH->Prop:=λk ρ af=>NF λ(f:List Nd)(st:List Nd)=>VH (f++st.reverse.flatMap (de b)=de b n) (k=(st.map Nd.size).sum) (f.length+k<=1000) (af fa=some (.list (f.map Nd.v))) (af wa=some (.list (st.map Nd.v))) (∀x o,σ x=some o->af x=some o) (at_ ρ "found"=some (.lst fa)) (at_ ρ "waiting"=some (.lst wa)) (at_ ρ "kind"=some (.str (jY b)))
 refine eE I n.size ?_ ?_
 ·refine⟨[],[n],Lm,rfl,Nat.le_trans (Nat.le_of_eq (Nat.zero_add _)) hz,?_,AH.aa _ _ _,λx o e=>?_,by rfl,by rfl,by rfl⟩
  ·rw[AH.ae _ _ Fn];exact AH.aa _ _ _
  ·rw[AH.ae _ _ (by exact ne_sn e Ew),AH.ae _ _ (by exact ne_sn e jc)];exact e
 ·rintro k ρ aI ⟨f,st,ef,ek,hk,sf,sw,ke,l1,l2,l3⟩
  have Dz:st.length<=1000:=by have:=eW st;exact bD (.l (.a .A .B) (.k 1000) (.f .B .C (.l .D .C (.g .D (.k 1000))))) rfl hk ek this
  have fl:(f.map Nd.v).length<=1000000:=by rw[List.length_map];exact aH (.l (.a .A .B) (.k 1000) (.g .A (.k 1000000))) rfl hk
  rcases List.eq_nil_or_concat st with rfl | ⟨st,p,rfl⟩
  ·kd_p
   refine bh ?_;kd_p;refine aN sw (by exact Nat.zero_le _) ?_
   kd_p;refine q fa aI jc ?_ λx o e _=>ke x o e
   have ef:f++[]=de b n:=ef;rw[sf, <-ef,List.append_nil]
  ·rw[List.concat_eq_append]at *
   have Vz:aI wa=some (.list (st.map Nd.v++[.tup (.str p.kind::p.args)])):=by rw[sw,List.map_append, <-p.v_eq];rfl
   have hl:(st.map Nd.v).length<=100000:=qE (aG (.l .A (.k 999) (.g .A (.k 100000))) rfl (Rg Dz));kd_p;refine bh ?_;kd_p;refine aN sw (G9 (aG (.l .A (.k 999) (.g .A (.k 999999))) rfl (Rg Dz))) ?_;kd_p;refine ite_tt CV ?_;kd_p
   (refine aA ?_ rfl rfl)
   refine aB ?_;kd_p;refine⟨_,bw PySem.F.slot_list_pop PySem.F.type_list_pop Vz,az,?_⟩;kd_p;refine gy Vz (by exact Fb hl) ?_
   kd_p;rcases CX b p with ⟨h1,h2⟩ | ⟨h1,x,y,h2,h3,h4⟩
   ·try refine ite_ff h1 ?_
    kd_p;refine aB ?_;kd_p;refine⟨_,bw PySem.F.slot_list_append PySem.F.type_list_append (by rw[AH.ae _ _ Fn];exact sf),az,?_⟩
    kd_p;refine aZ (by rw[AH.ae _ _ Fn];exact sf) fl ?_
    kd_p;have pp:=p.size_pos;refine⟨(st.map Nd.size).sum,?_,f++[p],st,?_,rfl,?_,?_,?_,?_,by wtm_at "a",by wtm_at "a",by wtm_at "a"⟩
    ·rw[ek,vC];exact Nat.lt_add_of_pos_right pp
    ·rw[<-ef,List.reverse_append];show f++[p]++_=f++(de b p++_);rw[h2,List.append_assoc];rfl
    ·rw[ek,vC]at hk;rw[qc];exact aX (.l (.a .A (.a .B .C)) (.k 1000) (.t .Z .C (.g (.a (.a .A .O) .B) (.k 1000)))) rfl hk pp
    ·rw[AH.aa,List.map_append, <-p.v_eq];rfl
    ·rw[AH.ae _ _ (Ne.symm Fn),AH.aa]
    ·intro z o e
     rw[AH.ae _ _ (by exact ne_sn e jc),AH.ae _ _ (by exact ne_sn e Ew)];exact ke z o e
   ·try refine ite_tt h1 ?_
    rw[h2];kd_p;refine aB ?_;kd_p;refine⟨_,bw PySem.F.slot_list_extend PySem.F.type_list_extend (AH.aa _ _ _),az,?_⟩;refine cO ?_;refine aW ?_;kd_p;intro ea GO;have Vn:wa≠ea:=λz=>by rw[<-z,AH.aa]at GO;cases GO
    have LG:aI ea=none:=by rw[AH.ae _ _ (Ne.symm Vn)]at GO;exact GO
    refine jw (l:=st.map Nd.v) (m:=[y.v,x.v]) (by rw[AH.ae _ _ Vn];exact AH.aa _ _ _) (AH.aa _ _ _) (by exact aG (.l .A (.k 100000) (.g .A (.k 100000))) rfl hl) (Nat.le_of_ble_eq_true rfl) ?_
    kd_p;refine⟨(st.map Nd.size).sum+y.size+x.size,?_,f,st++[y,x],?_,?_,?_,?_,?_,?_,by wtm_at "a",by wtm_at "a",by wtm_at "a"⟩
    ·rw[ek,vC,h4];exact aX (.b (.a (.a .A .B) .C) (.a .A (.a (.a .C .B) .O))) rfl
    ·rw[<-ef,List.reverse_append,List.reverse_append];show f++(de b x++(de b y++_))=f++(de b p++_);rw[h3,List.append_assoc]
    ·rw[List.map_append,List.sum_append];exact Nat.add_assoc _ _ _
    ·rw[ek,vC,h4]at hk;exact bD (.l (.a .A (.a .B (.a (.a .C .D) .O))) (.k 1000) (.g (.a .A (.a (.a .B .D) .C)) (.k 1000))) rfl hk
    ·rw[AH.ae _ _ Fn,AH.ae _ _ (by exact(ne_ns LG sf).symm),AH.ae _ _ Fn];exact sf
    ·rw[AH.aa,List.map_append];rfl
    ·intro z o e
     have e1:=ke z o e;rw[AH.ae _ _ (by exact ne_sn e Ew),AH.ae _ _ (by exact ne_sn e1 LG),AH.ae _ _ (by exact ne_sn e Ew)];exact e1
end
end
section
section
variable{σ:AH}{Q:V->AH->Prop}
noncomputable def Ua(p:Nd):Prop:=((p.kind==("chars":Str))=false/\textOf p=none)\/∃t,p=.leaf (.pl (.chars t))
theorem sk{p:Nd}(h1:(p.kind==("chars":Str))=false)(h2:textOf p=none):Ua p:=.inl ⟨h1,h2⟩
set_option tactic.hygienic true in
theorem fS(p:Nd):Ua p:=by
 cases p with
 | leaf l=>cases l with
  | pl q=>cases q with
   | chars t=>exact .inr ⟨t,rfl⟩
   | _=>exact sk rfl rfl
  | cV b=>cases b<;>exact sk rfl rfl
  | bM k=>cases k<;>exact sk rfl rfl
  | _=>exact sk rfl rfl
 | nm b _ _=>cases b<;>exact sk rfl rfl
 | _=>exact sk rfl rfl
theorem bN(t:Str):textOf (.leaf (.pl (.chars t)))=some t:=rfl
set_option tactic.hygienic true in
theorem qz{p:Nd}(q:Q (.bool (textOf p).isSome) σ):aU 1 (.ref 30) [p.v] σ Q:=by
 rcases fS p with ⟨h1,h2⟩ | ⟨t,rfl⟩
 ·rw[p.v_eq]
  refine aC (i5) rfl λL=>?_
  kcf_m;kd_p;refine kL ?_;refine iO ?_;kd_p;rw[h1];kd_p;refine(if_pos rfl).mpr ?_;rw[h2]at q;exact q
 ·have e:(Nd.leaf (.pl (.chars t))).v=.tup [.str "chars",.str t]:=rfl
  rw[e];refine aC (i5) rfl λL=>?_
  kcf_m;kd_p;refine kL ?_;refine iO ?_;kd_p;refine(if_neg (by decide)).mpr ?_
  refine rF ?_;refine bh ?_;kd_p;refine iW rfl rfl ?_;kd_p;refine nU ?_;exact q
theorem ED{f:List Nd}{p:Nd}(h:textOf p=none):aJ f p=f++[p]:=by unfold aJ;rw[h]
theorem IF{f:List Nd}{t:Str}(h:t=""):aJ f (.leaf (.pl (.chars t)))=f:=by unfold aJ;rw[bN];exact if_pos h
theorem IG{t:Str}(h:t≠""):aJ [] (.leaf (.pl (.chars t)))=[.leaf (.pl (.chars t))]:=by unfold aJ;rw[bN];exact if_neg h
theorem EC{f:List Nd}{u:Nd}{t:Str}(h:t≠"")(h2:textOf u=none):aJ (f++[u]) (.leaf (.pl (.chars t)))=(f++[u])++[.leaf (.pl (.chars t))]:=by unfold aJ;rw[bN,List.getLast?_concat];dsimp only;rw[if_neg h,h2]
theorem EB{f:List Nd}{t2 t:Str}(h:t≠""):aJ (f++[.leaf (.pl (.chars t2))]) (.leaf (.pl (.chars t)))=f++[.leaf (.pl (.chars (t2++t)))]:=by unfold aJ;rw[bN,List.getLast?_concat];dsimp only;rw[if_neg h,bN,List.dropLast_concat]
noncomputable def cQ(l:List Nd):Nat:=(l.map Nd.txt).sum
set_option tactic.hygienic true in
theorem Dk{pa:Addr}{ps:List Nd}(hp:σ pa=some (.list (ps.map Nd.v)))(hl:ps.length<=1000)(ht:cQ ps<=1000)(q:∀a af,σ a=none->af a=some (.list ((joined ps).map Nd.v))->Kept σ af []->Q (.lst a) af):
  aU 2 (.ref 37) [.lst pa] σ Q:=by
 refine aC (j6) rfl λL=>?_
 kcf_m
 (refine au (aA ?_ rfl rfl))
 refine aW ?_;kd_p;intro fa jc;kd_p;have XB:pa≠fa:=λe=>by rw[<-e,hp]at jc;cases jc
 refine fW ?_;kd_p;refine⟨_,_,dN (by rw[AH.ae _ _ XB];exact hp),?_⟩
 refine dM (λvs ρ af=>TL λds rs f=>O0 (ps=ds++rs) (vs=rs.map Nd.v) (f=joined ds) (f.length<=ds.length) (cQ f+cQ rs<=1000) (af fa=some (.list (f.map Nd.v))) (∀x o,σ x=some o->af x=some o) (at_ ρ "found"=some (.lst fa))) ?_ ?_ ?_ _ _ _ ?_
 ·rintro vs ρ aI ⟨ds,rs,f,e1,e2,e3,e4,e5,e6,e7,l1⟩
  exact e7 _ _ hp
 ·rintro v vs ρ aI ⟨ds,rs,f,e1,e2,e3,e4,e5,e6,e7,l1⟩
  cases rs with
  | nil=>cases e2
  | cons p rs=>
   rw[List.map_cons,List.cons.injEq]at e2;obtain⟨rfl,rfl⟩:=e2;have zJ:(f.map Nd.v).length<=1000000:=by have:=congrArg List.length e1;rw[List.length_append]at this;rw[List.length_map];exact bD (.f .A (.a .B (.a .C .O)) (.l .A (.k 1000) (.l .D .B (.g .D (.k 1000000))))) rfl this hl e4
   have GD:aJ f p=joined (ds++[p]):=by rw[e3];unfold joined;rw[List.foldl_append];rfl
   have Dv:ps=(ds++[p])++rs:=e1.trans (List.append_assoc ds [p] rs).symm;kd_p;refine aY ?_;refine aF ?_;kd_p;refine aU.call ((qz ?_).less (by decide))
   kd_p;rcases fS p with ⟨h1,h2⟩ | ⟨t,rfl⟩
   ·have PW:aJ f p=f++[p]:=ED h2
    rw[h2]
    try refine ite_ff rfl ?_
    kd_p;refine aB ?_;kd_p;refine⟨_,bw PySem.F.slot_list_append PySem.F.type_list_append e6,az,?_⟩;kd_p;refine aZ e6 zJ ?_;kd_p;refine⟨ds++[p],rs,f++[p],Dv,rfl,?_,Rf e4,?_,?_,?_,by wtm_at "a"⟩
    ·rw[<-GD,PW]
    ·have:cQ (p::rs)=p.txt+cQ rs:=by rfl
     have h3:cQ (f++[p])=cQ f+p.txt:=vC;exact gf (.l (.a .A .B) (.k 1000) (.e .C (.a .A .D) (.f .B (.a .D .E) (.g (.a .C .E) (.k 1000))))) rfl e5 h3 this
    ·rw[AH.aa];exact J3
    ·intro x o e
     rw[AH.ae _ _ (by exact ne_sn e jc)];exact e7 x o e
   ·try refine ite_tt rfl ?_
    have ev:(Nd.leaf (.pl (.chars t))).v=.tup [.str "chars",.str t]:=rfl;rw[ev];kd_p;wtm_at "j"<;>rename_i UT
    ·have BY:t="":=by simpa using UT
     kd_p;refine⟨ds++[_],rs,f,Dv,rfl,?_,Xq (Nat.le_succ_of_le e4),?_,e6,e7,by wtm_at "a"⟩
     ·rw[<-GD];exact(IF BY).symm
     ·have:cQ (Nd.leaf (.pl (.chars t))::rs)=t.length+cQ rs:=by rfl
      exact bD (.l (.a .A .B) (.k 1000) (.f .B (.a .C .D) (.g (.a .A .D) (.k 1000)))) rfl e5 this
    ·have BY:t≠"":=by simpa using UT
     kd_p;refine bh ?_;kd_p;refine aN e6 zJ ?_;kd_p;rcases List.eq_nil_or_concat f with rfl | ⟨f,u,rfl⟩
     ·try refine ite_ff (by rfl) ?_
      kd_p;refine aB ?_;kd_p;refine⟨_,bw PySem.F.slot_list_append PySem.F.type_list_append e6,az,?_⟩;kd_p;refine aZ e6 zJ ?_;kd_p;rw[IG BY]at GD;refine⟨ds++[_],rs,_,Dv,rfl,GD,by rw[qc];exact Nat.succ_le_succ (Nat.zero_le _),?_,?_,?_,by wtm_at "a"⟩
      ·have e5:0+(t.length+cQ rs)<=1000:=e5
       rw[Nat.zero_add]at e5;exact e5
      ·rw[AH.aa];rfl
      ·intro x o e
       rw[AH.ae _ _ (by exact ne_sn e jc)];exact e7 x o e
     ·rw[List.concat_eq_append]at *
      refine ite_tt CV ?_;kd_p;refine aY ?_;refine aF ?_;kd_p;refine bh ?_;kd_p;refine aN e6 zJ ?_;kd_p;refine cz (j:=f.length) (v:=u.v) e6 FU Uj (aG (.l .A (.k 999999) (.b .A (.k 4611686018427387904))) rfl (Rh zJ)) ?_;kd_p;refine aU.call ((qz ?_).less (by decide))
      kd_p;rcases fS u with ⟨h1,h2⟩ | ⟨t2,rfl⟩
      ·rw[h2]
       try refine ite_ff rfl ?_
       kd_p;refine aB ?_;kd_p;refine⟨_,bw PySem.F.slot_list_append PySem.F.type_list_append e6,az,?_⟩;kd_p;refine aZ e6 zJ ?_;kd_p;have ej:aJ (f++[u]) (.leaf (.pl (.chars t)))=(f++[u])++[.leaf (.pl (.chars t))]:=EC BY h2;rw[ej]at GD;refine⟨ds++[_],rs,_,Dv,rfl,GD,Rf e4,?_,?_,?_,by wtm_at "a"⟩
       ·have:cQ (Nd.leaf (.pl (.chars t))::rs)=t.length+cQ rs:=by rfl
        have h3:cQ ((f++[u])++[.leaf (.pl (.chars t))])=cQ (f++[u])+t.length:=vC;exact gf (.l (.a .A .B) (.k 1000) (.e .C (.a .A .D) (.f .B (.a .D .E) (.g (.a .C .E) (.k 1000))))) rfl e5 h3 this
       ·rw[AH.aa];exact J3 (f:=Nd.v) (x:=Nd.leaf (.pl (.chars t)))
       ·intro x o e
        rw[AH.ae _ _ (by exact ne_sn e jc)];exact e7 x o e
      ·try refine ite_tt rfl ?_
       kd_p
       (refine aA ?_ rfl rfl)
       kd_p;refine aB ?_;kd_p;have Ul:aI fa=some (.list (f.map Nd.v++[.tup [.str "chars",.str t2]])):=by rw[e6,List.map_append];rfl
       refine⟨_,bw PySem.F.slot_list_pop PySem.F.type_list_pop Ul,az,?_⟩;kd_p;refine gy Ul (qE (Nat.le_succ_of_le (Rh zJ))) ?_;kd_p;have OE:cQ (Nd.leaf (.pl (.chars t))::rs)=t.length+cQ rs:=by rfl
       have rQ:cQ (f++[Nd.leaf (.pl (.chars t2))])=cQ f+t2.length:=vC;have ha:(t2++t).length=t2.length+t.length:=by show(t2.cps++t.cps).size=_;rw[Array.size_append];rfl
       refine kU (by rw[sizeLine_eq,ha];exact lZ (.l (.a .A .B) (.k 1000) (.f .A (.a .C .D) (.f .B (.a .E .F) (.g (.a .D .E) (.k 16777216))))) rfl e5 rQ OE) ?_
       kd_p;refine aB ?_;kd_p;refine⟨_,bw PySem.F.slot_list_append PySem.F.type_list_append (AH.aa _ _ _),az,?_⟩;kd_p;refine aZ (AH.aa _ _ _) (qE (Nat.le_succ_of_le (Rh zJ))) ?_;kd_p;have ej:aJ (f++[.leaf (.pl (.chars t2))]) (.leaf (.pl (.chars t)))=f++[.leaf (.pl (.chars (t2++t)))]:=EB BY;rw[ej]at GD;refine⟨ds++[_],rs,_,Dv,rfl,GD,Rf (Nat.le_of_succ_le (Nat.le_trans (Nat.le_of_eq qc.symm) e4)),?_,?_,?_,by wtm_at "a"⟩
       ·have h3:cQ (f++[.leaf (.pl (.chars (t2++t)))])=cQ f+(t2.length+t.length):=by rw[<-ha];exact vC
        exact qY (.l (.a .A .B) (.k 1000) (.e .C (.a .D (.a .E .F)) (.f .B (.a .F .G) (.f .A (.a .D .E) (.g (.a .C .G) (.k 1000)))))) rfl e5 h3 OE rQ
       ·rw[AH.aa];exact J3 (f:=Nd.v) (x:=Nd.leaf (.pl (.chars (t2++t))))
       ·intro x o e
        rw[AH.ae _ _ (by exact ne_sn e jc),AH.ae _ _ (by exact ne_sn e jc)];exact e7 x o e
 ·rintro ρ aI ⟨ds,rs,f,e1,e2,e3,e4,e5,e6,e7,l1⟩
  have:rs=[]:=by cases rs with | nil=>rfl | cons p rs=>cases e2
  subst this;kd_p;refine q fa aI jc ?_ λx o e _=>e7 x o e
  rw[e6,e3,e1,List.append_nil]
 ·refine⟨[],ps,[],rfl,rfl,rfl,Nat.le_refl _,by simpa[cQ] using ht,AH.aa _ _ _,λx o e=>?_,by rfl⟩
  rw[AH.ae _ _ (by exact ne_sn e jc)];exact e
end
end
section
inductive WI where
 | put(n:Nd) | emit (o:Ord) | CQ (e:Addr) | qm (e:Addr) | meet (e:Addr)
noncomputable def WI.v:WI->V
 | .put n=>.tup [.str "put",n.v]
 | .emit o=>.tup [.str "emit",o.v]
 | .CQ e=>.tup [.str "open",.lst e]
 | .qm e=>.tup [.str "shut",.lst e]
 | .meet e=>.tup [.str "meet",.lst e]
structure dH(σ:AH)(d oa:Addr)(os:bY):Prop where
 h:σ d=some (.dict [("orders",.lst oa)])
 o:σ oa=some (.list (os.map kX))
theorem dH.ne{σ:AH}{d oa:Addr}{os:bY}(C:dH σ d oa os):d≠oa:=λe=>by have:=C.h;rw[e,C.o]at this;cases this
theorem dH.put{σ:AH}{d oa:Addr}{os:bY}(C:dH σ d oa os)(fi:bY):dH (σ.put oa (.list (fi.map kX))) d oa fi:=⟨by rw[AH.ae _ _ C.ne];exact C.h,AH.aa _ _ _⟩
theorem dH.other{σ:AH}{d oa:Addr}{os:bY}(C:dH σ d oa os){a:Addr}{o:AO}(h1:d≠a)(h2:oa≠a):dH (σ.put a o) d oa os:=⟨by rw[AH.ae _ _ h1];exact C.h,by rw[AH.ae _ _ h2];exact C.o⟩
section
variable{σ:AH}{Q:V->AH->Prop}{d oa:Addr}{os:bY}
theorem ib(C:dH σ d oa os)(hl:os.length<=100000)(o:Option Ord)(q:Q (.int os.length) (σ.put oa (.list ((os++[o]).map kX)))):aU 1 (.ref 58) [.inst 94 d,kX o] σ Q:=by
 have co:=(bL).1;have e0:(os.map kX++[kX o])=(os++[o]).map kX:=by exact I0.symm
 refine aC (kA) rfl λL=>?_
 kcf_m;kd_p;refine aB ?_;kd_p;refine ax co (bg) C.h (v:=.lst oa) rfl (c5 _) ?_;refine⟨_,bw PySem.F.slot_list_append PySem.F.type_list_append C.o,az,?_⟩;kd_p;refine aZ C.o (by refine qE ?_;exact Fb hl) ?_
 rw[e0];kd_p;refine bh ?_;kd_p;refine ax co (bg) (C.put _).h (v:=.lst oa) rfl (c5 _) ?_;kd_p;refine aN (C.put _).o (by refine G9 ?_;exact aG (.l .A (.k 100000) (.g .A (.k 999999))) rfl hl) ?_
 kd_p;have:(((os++[o]).map kX).length:Int)-1=os.length:=by exact FU
 rw[this];exact q
theorem tJ(C:dH σ d oa os)(hl:os.length<=100000){e:Addr}{x y:V}(he:σ e=some (.list [x,y]))(h1:oa≠e)(q:Q .none ((σ.put oa (.list ((os++[none]).map kX))).put e (.list [.int os.length,y]))):
  aU 2 (.ref 91) [.inst 94 d,.str "open",.lst e] σ Q:=by
 have co:=(bL).1;refine aC (d6) rfl λL=>?_
 kcf_m;kd_p;refine aq rfl ?_;kd_p
 (refine ag ?_)
 refine aB ?_;kd_p;refine⟨_,a9 co (aL) (ak).1 C.h rfl,(ak).2,?_⟩;kd_p;refine aU.call (ib C hl none ?_);refine jT ?_;kd_p;refine mq (i:=0) (l:=[x,y]) (by rw[AH.ae _ _ (Ne.symm h1)];exact he) (by decide) (by simp) (by exact Nat.le_add_left _ _) ?_
 kd_p;exact q
theorem tK(C:dH σ d oa os)(hl:os.length<=90000){e e2:Addr}{k:Nat}{js:List V}(he:σ e=some (.list [.int k,.lst e2]))(jb:σ e2=some (.list js))(hj:js.length<=100000)(hk:k<os.length)(h1:oa≠e)(h2:oa≠e2)(h3:e≠e2)(h4:d≠e2)
  (q:Q .none (((σ.put oa (.list ((os++[none]).map kX))).put e2 (.list (js++[.int os.length]))).put oa (.list (((os++[none]).set k (some (.split (os.length+1)))).map kX)))):
  aU 2 (.ref 91) [.inst 94 d,.str "shut",.lst e] σ Q:=by
 have co:=(bL).1;refine aC (d6) rfl λL=>?_
 kcf_m;kd_p;refine aq rfl ?_;kd_p;refine aq rfl ?_;kd_p;refine aB ?_;kd_p;refine cz (j:=1) (v:=.lst e2) he (by rfl) (by rfl) (by decide) ?_
 refine⟨_,bw PySem.F.slot_list_append PySem.F.type_list_append jb,az,?_⟩;refine cO ?_;refine aB ?_;kd_p;refine⟨_,a9 co (aL) (ak).1 C.h rfl,(ak).2,?_⟩;kd_p;refine aU.call (ib C (by exact DD hl) none ?_)
 refine aZ (by rw[AH.ae _ _ (Ne.symm h2)];exact jb) (by exact Fb hj) ?_
 have C2:=(C.put (os++[none])).other (a:=e2) (o:=.list (js++[.int os.length])) h4 h2;kd_p
 (refine ag ?_)
 kd_p;refine aq rfl ?_;kd_p;refine bh ?_;kd_p;refine ax co (bg) C2.h (v:=.lst oa) rfl (c5 _) ?_;kd_p;refine aN C2.o (by refine G9 ?_;exact Ct hl) ?_
 kd_p;refine jT ?_;kd_p;refine ax co (bg) C2.h (v:=.lst oa) rfl (c5 _) ?_;kd_p;refine cz (j:=0) (v:=.int k) (by rw[AH.ae _ _ h3,AH.ae _ _ (Ne.symm h1)];exact he) (by rfl) (by rfl) (by decide) ?_
 refine mq C2.o (by exact(qW (z6))) (by simp;exact(DA (aH (.t .A .B (.b .A (.a .B .O))) rfl hk))) (by refine G9 ?_;exact Ct hl) ?_
 kd_p;have e0:(((os++[none]).map kX).set ((k:Int).toNat) (.tup [.str "split",.int (((os++[none]).map kX).length)]))=(((os++[none]).set k (some (.split (os.length+1)))).map kX):=by
  rw[List.map_set,Int.toNat_natCast];rw[Rd];rfl
 rw[e0];exact q
theorem tI(C:dH σ d oa os)(hl:os.length<=90000){e e2:Addr}{x:V}{js:List Nat}(he:σ e=some (.list [x,.lst e2]))(jb:σ e2=some (.list (js.map λj=>.int (j:Nat))))(hj:∀j∈js,j<os.length)(h1:oa≠e)(h2:oa≠e2)
  (q:∀af,dH af d oa (cM os js)->Kept σ af [oa]->Q .none af):
  aU 2 (.ref 91) [.inst 94 d,.str "meet",.lst e] σ Q:=by
 have co:=(bL).1;refine aC (d6) rfl λL=>?_
 kcf_m;kd_p;refine aq rfl ?_;kd_p;refine aq rfl ?_;kd_p;refine fW ?_;kd_p;refine cz (j:=1) (v:=.lst e2) he (by rfl) (by rfl) (by decide) ?_
 refine⟨_,_,dN jb,?_⟩;refine dM (λvs ρ af=>NF λ(Ce:List Nat)(fi:bY)=>VG (vs=Ce.map (λj=>.int (j:Nat))) (∀j∈Ce,j<fi.length) (fi.length=os.length) (cM fi Ce=cM os js) (dH af d oa fi) (Kept σ af [oa]) (at_ ρ "self"=some (.inst 94 d))) ?_ ?_ ?_ _ _ _ ?_
 ·rintro vs ρ aI ⟨Ce,fi,e1,e2,e3,e4,C1,K1,l1⟩
  exact K1 _ _ jb (by simpa using Ne.symm h2)
 ·rintro v vs ρ aI ⟨Ce,fi,e1,e2,e3,e4,C1,K1,l1⟩
  cases Ce with
  | nil=>cases e1
  | cons j Ce=>
   rw[List.map_cons,List.cons.injEq]at e1;obtain⟨rfl,rfl⟩:=e1;kd_p
   (refine ag ?_)
   kd_p;refine aq rfl ?_;kd_p;refine bh ?_;kd_p;refine ax co (bg) C1.h (v:=.lst oa) rfl (c5 _) ?_;kd_p;refine aN C1.o (by refine qE ?_;exact aH (.e .A .B (.l .B (.k 90000) (.g .A (.k 1000000)))) rfl e3 hl) ?_
   kd_p;refine jT ?_;kd_p;refine ax co (bg) C1.h (v:=.lst oa) rfl (c5 _) ?_;kd_p;have LO:=e2 j (by exact .head _)
   refine mq C1.o (by exact(qW (z6))) (by refine Q1 ?_;exact Cr LO) (by refine qE ?_;exact aH (.e .A .B (.l .B (.k 90000) (.g .A (.k 1000000)))) rfl e3 hl) ?_
   kd_p;have e0:((fi.map kX).set ((j:Int).toNat) (.tup [.str "jump",.int ((fi.map kX).length)]))=((fi.set j (some (.bG fi.length))).map kX):=by
    rw[List.map_set,Int.toNat_natCast];rw[DE];rfl
   rw[e0];refine⟨Ce,fi.set j (some (.bG fi.length)),rfl,λi hi=>?_,by rw[List.length_set];exact e3,by rw[<-e4];rfl,C1.put _,λb o eb nb=>?_,by wtm_at "a"⟩
   ·rw[List.length_set];exact e2 i (by exact .tail _ (by assumption))
   ·rw[AH.ae _ _ (by simpa using nb)];exact K1 b o eb nb
 ·rintro ρ aI ⟨Ce,fi,e1,e2,e3,e4,C1,K1,l1⟩
  have:Ce=[]:=by cases Ce with | nil=>rfl | cons p rs=>cases e1
  subst this;kd_p;rw[<-e4]at q;exact q aI C1 K1
 ·exact⟨js,os,rfl,hj,rfl,rfl,C,Kept.refl _ _,by wtm_at "a"⟩
end
end
section
noncomputable def bB(e:Addr):List Nd->List WI
 | []=>[]
 | [p]=>[.put p,.meet e]
 | p::ps=>.CQ e::.put p::.qm e::bB e ps
noncomputable def opens(e:Addr)(ps:List Nd):List WI:=ps.flatMap λp=>[.CQ e,.put p,.qm e]
theorem rG(e:Addr)(p:Nd):∀ps:List Nd,bB e (ps++[p])=opens e ps++[.put p,.meet e]
 | []=>rfl
 | [q]=>rfl
 | q::r::ps=>by
  have:=rG e p (r::ps);show WI.CQ e::.put q::.qm e::bB e ((r::ps)++[p])=_;rw[this];rfl
theorem rX(e:Addr)(ps:List Nd):(opens e ps).length=3*ps.length:=by
 induction ps with
 | nil=>rfl
 | cons p ps ih=>unfold opens at *;rw[List.flatMap_cons,List.length_append,ih];simp;exact Nat.le_antisymm (aG (.g (.a (.k 3) (.m 3 .A)) (.m 3 (.a .A .O))) rfl) (aG (.g (.m 3 (.a .A .O)) (.a (.k 3) (.m 3 .A))) rfl)
section
variable{σ:AH}{Q:V->AH->Prop}{d oa:Addr}{os:bY}
theorem Dj{pa:Addr}{ps:List Nd}{p:Nd}(hp:σ pa=some (.list ((ps++[p]).map Nd.v)))(hl:ps.length<=1000)
  (q:∀a e e2 af,σ a=none->σ e=none->σ e2=none->e≠e2->af a=some (.list ((bB e (ps++[p])).map WI.v))->af e=some (.list [.int (-1),.lst e2])->af e2=some (.list [])->Kept σ af []->Q (.lst a) af):
  aU 1 (.ref 77) [.inst 94 d,.lst pa] σ Q:=by
 refine aC (ji) rfl λL=>?_
 kcf_m;refine au (gW (names:=["found","ends"]) ?_ rfl);refine lR ?_;refine cj ?_ rfl;refine aW ?_;kd_p;intro fa jc;refine cj ?_ rfl;refine aW ?_;kd_p;refine qf ?_;refine cj ?_ rfl;refine aW ?_;kd_p;intro e2 jb;kd_p;intro e he;kd_p;refine⟨_,rfl,rfl,?_⟩;refine bR rfl ?_;refine bR rfl ?_;show b8 _ _ _ _ _ _;have n1:fa≠e2:=λz=>by rw[<-z,AH.aa]at jb;cases jb
 have n2:e2≠e:=λz=>by rw[<-z,AH.aa]at he;cases he
 have n3:fa≠e:=λz=>by rw[<-z,AH.ae _ _ n1,AH.aa]at he;cases he
 have LC:σ e2=none:=by rw[AH.ae _ _ (Ne.symm n1)]at jb;exact jb
 have UB:σ e=none:=by rw[AH.ae _ _ (Ne.symm n2),AH.ae _ _ (Ne.symm n3)]at he;exact he
 generalize B8:((σ.put fa (.list [])).put e2 (.list [])).put e (.list [.int (-1),.lst e2])=aI;have k1:∀b o,σ b=some o->aI b=some o:=λb o eb=>by
  rw[<-B8,AH.ae _ _ (by exact ne_sn eb UB),AH.ae _ _ (by exact ne_sn eb LC),AH.ae _ _ (by exact ne_sn eb jc)];exact eb
 have s1:aI fa=some (.list []):=by rw[<-B8,AH.ae _ _ n3,AH.ae _ _ n1];exact AH.aa _ _ _
 have s2:aI e=some (.list [.int (-1),.lst e2]):=by rw[<-B8];exact AH.aa _ _ _
 have s3:aI e2=some (.list []):=by rw[<-B8,AH.ae _ _ n2];exact AH.aa _ _ _
 have tZ:((ps++[p]).map Nd.v).length<=1000000:=by refine G9 ?_;exact aG (.l .A (.k 1000) (.g .A (.k 999999))) rfl hl
 clear B8;kd_p;refine fW ?_;kd_p;refine bh ?_;kd_p;refine aN (k1 _ _ hp) tZ ?_;kd_p;refine y9 (k:=ps.length) (k1 _ _ hp) tZ (by simp) (by exact FU) ?_
 intro sa GW;refine⟨_,_,dN (AH.aa _ _ _),?_⟩;have et:((ps++[p]).map Nd.v).take ps.length=ps.map Nd.v:=by rw[List.map_append];exact List.take_left' (by exact DE)
 rw[et];have QQ:σ sa=none:=by
  cases z:σ sa with
  | none=>rfl
  | some o=>rw[k1 _ _ z]at GW;cases GW
 have m1:sa≠fa:=λz=>by rw[z,s1]at GW;cases GW
 have m2:sa≠e:=λz=>by rw[z,s2]at GW;cases GW
 have m3:sa≠e2:=λz=>by rw[z,s3]at GW;cases GW
 refine dM (λvs ρ af=>NF λ(ds:List Nd)(rs:List Nd)=>OY (ps=ds++rs) (vs=rs.map Nd.v) (af fa=some (.list ((opens e ds).map WI.v))) (af e=some (.list [.int (-1),.lst e2])) (af e2=some (.list [])) (af sa=some (.list (ps.map Nd.v))) (Kept σ af []) (at_ ρ "found"=some (.lst fa)) (at_ ρ "ends"=some (.lst e)) (at_ ρ "parts"=some (.lst pa))) ?_ ?_ ?_ _ _ _ ?_
 ·rintro vs ρ bU ⟨ds,rs,q1,q2,q3,q4,q5,q6,q7,l1,l2,l3⟩
  exact q6
 ·rintro v vs ρ bU ⟨ds,rs,q1,q2,q3,q4,q5,q6,q7,l1,l2,l3⟩
  cases rs with
  | nil=>cases q2
  | cons r rs=>
   rw[List.map_cons,List.cons.injEq]at q2;obtain⟨rfl,rfl⟩:=q2;have BN:(opens e ds).length<=3000:=by rw[rX];have:=congrArg List.length q1;simp at this;exact aX (.f .A (.a .B (.a .C .O)) (.f .A (.a .B (.a .C .O)) (.f .A (.a .B (.a .C .O)) (.l .A (.k 1000) (.l .A (.k 1000) (.l .A (.k 1000) (.g (.m 3 .B) (.k 3000)))))))) rfl this this this hl hl hl
   kd_p;refine aB ?_;kd_p;refine⟨_,bw PySem.F.slot_list_extend PySem.F.type_list_extend q3,az,?_⟩;refine cO ?_;refine aW ?_;kd_p;refine aq rfl ?_;kd_p;refine aq rfl ?_;kd_p;refine aq rfl ?_;kd_p;intro xa uR;have o1:fa≠xa:=λz=>by rw[<-z,q3]at uR;cases uR
   have o2:e≠xa:=λz=>by rw[<-z,q4]at uR;cases uR
   have o3:e2≠xa:=λz=>by rw[<-z,q5]at uR;cases uR
   have o4:sa≠xa:=λz=>by rw[<-z,q6]at uR;cases uR
   refine jw (by rw[AH.ae _ _ o1];exact q3) (AH.aa _ _ _) (by refine qE ?_;exact aG (.l .A (.k 3000) (.g .A (.k 100000))) rfl BN) (by exact Nat.le_add_left _ _) ?_
   kd_p;refine⟨ds++[r],rs,by rw[q1];exact(List.append_assoc _ [_] _).symm,rfl,?_,?_,?_,?_,λb o eb nb=>?_,by wtm_at "a",by wtm_at "a",by wtm_at "a"⟩
   ·rw[AH.aa];unfold opens;rw[List.flatMap_append,List.map_append];rfl
   ·rw[AH.ae _ _ (Ne.symm n3),AH.ae _ _ o2];exact q4
   ·rw[AH.ae _ _ (Ne.symm n1),AH.ae _ _ o3];exact q5
   ·rw[AH.ae _ _ m1,AH.ae _ _ o4];exact q6
   ·have JO:=q7 b o eb nb
    rw[AH.ae _ _ (by exact ne_sn eb jc),AH.ae _ _ (by exact ne_sn JO uR)];exact JO
 ·rintro ρ bU ⟨ds,rs,q1,q2,q3,q4,q5,q6,q7,l1,l2,l3⟩
  have:rs=[]:=by cases rs with | nil=>rfl | cons p rs=>cases q2
  subst this;rw[List.append_nil]at q1;subst q1;have UM:=q7 _ _ hp (by exact nn)
  have BN:(opens e ps).length<=3000:=by rw[rX];exact aG (.l .A (.k 1000) (.l .A (.k 1000) (.l .A (.k 1000) (.g (.m 3 .A) (.k 3000))))) rfl hl hl hl
  kd_p;refine aW ?_;kd_p;refine aq rfl ?_;kd_p;refine bh ?_;kd_p;refine aN UM tZ ?_;kd_p;refine cz (j:=ps.length) (v:=p.v) UM (by exact FU) (by exact Uj) (by exact aG (.l .A (.k 1000) (.b .A (.k 4611686018427387904))) rfl hl) ?_
  kd_p;refine aq rfl ?_;kd_p;intro xa uR;have o1:fa≠xa:=λz=>by rw[<-z,q3]at uR;cases uR
  have o2:e≠xa:=λz=>by rw[<-z,q4]at uR;cases uR
  have o3:e2≠xa:=λz=>by rw[<-z,q5]at uR;cases uR
  refine kT (by rw[AH.ae _ _ o1];exact q3) (AH.aa _ _ _) (by refine qE ?_;exact aG (.l .A (.k 3000) (.g .A (.k 100000))) rfl BN) (by exact Nat.le_add_left _ _) ?_
  intro ya OG;have BZ:bU ya=none:=by
   rw[AH.ae]at OG
   ·exact OG
   ·rintro rfl;rw[AH.aa]at OG;cases OG
  refine q ya e e2 _ ?_ UB LC (Ne.symm n2) ?_ ?_ ?_ λb o eb nb=>?_
  ·cases z:σ ya with
   | none=>rfl
   | some o=>rw[q7 _ _ z (by exact nn)]at BZ;cases BZ
  ·rw[AH.aa,rG,List.map_append];rfl
  ·rw[AH.ae _ _ (by exact(ne_ns BZ q4).symm),AH.ae _ _ o2];exact q4
  ·rw[AH.ae _ _ (by exact(ne_ns BZ q5).symm),AH.ae _ _ o3];exact q5
  ·have JO:=q7 b o eb nb
   rw[AH.ae _ _ (by exact ne_sn JO BZ),AH.ae _ _ (by exact ne_sn JO uR)];exact JO
 ·refine⟨[],ps,rfl,rfl,?_,?_,?_,AH.aa _ _ _,λb o eb _=>?_,by wtm_at "a",by wtm_at "a",by wtm_at "a"⟩
  ·rw[AH.ae _ _ (Ne.symm m1)];exact s1
  ·rw[AH.ae _ _ (Ne.symm m2)];exact s2
  ·rw[AH.ae _ _ (Ne.symm m3)];exact s3
  ·rw[AH.ae _ _ (by exact ne_sn eb QQ)];exact k1 b o eb
end
end
section
section
variable{σ:AH}{Q:V->AH->Prop}{d oa:Addr}{os:bY}
theorem dH.new{a:Addr}{o:AO}(C:dH σ d oa os)(h:σ a=none):dH (σ.put a o) d oa os:=
 C.other (λz=>by have:=C.h;rw[z,h]at this;cases this) (λz=>by have:=C.o;rw[z,h]at this;cases this)
end
namespace iM
@[reducible] noncomputable def P(σ:AH)(Q:V->AH->Prop)(d oa:Addr)(os:bY)(n:Nd):Prop:=∀(C:dH σ d oa os)(hl:os.length<=90000)(q:∀a e e2 af,σ a=none->σ e=none->σ e2=none->e≠e2->af a=some (.list (([.put n,.emit .dY,.emit (.bG os.length),.meet e]:List WI).map WI.v))->af e=some (.list [.int os.length,.lst e2])->af e2=some (.list [.int ((os.length+1:Nat):Int)])->dH af d oa (os++[some (.split (os.length+2)),none,some .mark])->Kept σ af [oa]->Q (.lst a) af),aU 2 (.ref 84) [.inst 94 d,n.v] σ Q
noncomputable def Q_:=UU λσ=>UU λQ=>UU λd=>UU λoa=>UU (P σ Q d oa)
noncomputable def x_:=xx Q_ ((λ_=>none),(λ_ _=>True),(0:Nat),(0:Nat),[],.leaf .dZ)
def σ:=x_.1
def Q:=x_.2.1
def d:=x_.2.2.1
def oa:=x_.2.2.2.1
def os:=x_.2.2.2.2.1
def n:=x_.2.2.2.2.2
theorem go:P σ Q d oa os n:=by
 intro C hl q;have co:=(bL).1;refine aC (jj) rfl λL=>?_
 kcf_m
 (first | refine au (aA ?_ rfl rfl) | refine au (ag ?_))
 refine aB ?_;kd_p;refine⟨_,a9 co (aL) (ak).1 C.h rfl,(ak).2,?_⟩;kd_p;refine aU.call ((ib C (by exact DD hl) none ?_).less (by first | decide | lia))
 kd_p
 (first | refine aA ?_ rfl rfl | refine ag ?_)
 refine aB ?_;have C1:=C.put (os++[none]);kd_p;refine⟨_,a9 co (aL) (ak).1 C1.h rfl,(ak).2,?_⟩;kd_p;refine aU.call ((ib C1 (by refine Cw ?_;exact aG (.l .A (.k 90000) (.g .A (.k 99999))) rfl hl) none ?_).less (by first | decide | lia))
 have C2:=C1.put (os++[none]++[none]);kd_p
 (first | refine aA ?_ rfl rfl | refine ag ?_)
 kd_p;refine aq rfl ?_;kd_p;refine bh ?_;kd_p;refine ax co (bg) C2.h (v:=.lst oa) rfl (c5 _) ?_;kd_p;refine aN C2.o (by refine Mt ?_;exact aG (.l .A (.k 90000) (.g .A (.k 999998))) rfl hl) ?_
 kd_p;refine jT ?_;kd_p;refine ax co (bg) C2.h (v:=.lst oa) rfl (c5 _) ?_;kd_p;refine mq C2.o (by exact(qW (z6))) (by simp;exact(DA (aG (.b .A (.a .A (.k 2))) rfl))) (by refine Mt ?_;exact aG (.l .A (.k 90000) (.g .A (.k 999998))) rfl hl) ?_
 have e0:(((os++[none]++[none]).map kX).set ((os.length:Int).toNat) (.tup [.str "split",.int (((os++[none]++[none]).map kX).length)]))=((os++[some (Ord.split (os.length+2)),none]).map kX):=by
  rw[List.append_assoc,DE,List.length_append,Int.toNat_natCast,List.map_append,List.set_append_right _ _ (Nat.le_of_eq DE),DE,Nat.sub_self];exact(List.map_append (f:=kX) (l₁:=os) (l₂:=[some (Ord.split (os.length+2)),none])).symm
 rw[e0];have C3:=C2.put (os++[some (Ord.split (os.length+2)),none]);kd_p;refine aB ?_;kd_p;refine⟨_,a9 co (aL) (ak).1 C3.h rfl,(ak).2,?_⟩;kd_p;refine aq rfl ?_;kd_p;refine aU.call ((ib C3 (by simp;exact aG (.l .A (.k 90000) (.g .A (.k 99998))) rfl hl) (some Ord.mark) ?_).less (by first | decide | lia))
 have C4:=C3.put (os++[some (Ord.split (os.length+2)),none]++[some Ord.mark]);have K4:Kept σ ((((σ.put oa (.list ((os++[none]).map kX))).put oa (.list ((os++[none]++[none]).map kX))).put oa (.list ((os++[some (Ord.split (os.length+2)),none]).map kX))).put oa (.list ((os++[some (Ord.split (os.length+2)),none]++[some Ord.mark]).map kX))) [oa]:=
  (((Kept.put (by first | exact nn | exact .head _)).trans (Kept.put (by first | exact nn | exact .head _))).trans (Kept.put (by first | exact nn | exact .head _))).trans (Kept.put (by first | exact nn | exact .head _))
 revert C4 K4;generalize ((((σ.put oa (.list ((os++[none]).map kX))).put oa (.list ((os++[none]++[none]).map kX))).put oa (.list ((os++[some (Ord.split (os.length+2)),none]).map kX))).put oa (.list ((os++[some (Ord.split (os.length+2)),none]++[some Ord.mark]).map kX)))=ki;intro C4 K4;have el:(((os++[none]).length:Nat):Int)=((os.length+1:Nat):Int):=by simp
 rw[el];have e5:(os++[some (Ord.split (os.length+2)),none]++[some Ord.mark])=os++[some (Ord.split (os.length+2)),none,some Ord.mark]:=by exact List.append_assoc _ _ _
 rw[e5]at C4;have CI:∀{b:Addr},ki b=none->σ b=none:=λ{b} hb=>K4.gone hb (by rintro m;rw[List.mem_singleton]at m;rw[m,C4.o]at hb;cases hb)
 kd_p;refine aW ?_;kd_p;refine aq rfl ?_;kd_p;refine aq rfl ?_;kd_p;refine aq rfl ?_;kd_p;refine aq rfl ?_;kd_p;refine aq rfl ?_;kd_p;refine aq rfl ?_;kd_p;refine aW ?_;kd_p;refine aW ?_;kd_p;intro e2 jb;kd_p;intro e he;kd_p;intro a ha;have ne:e≠e2:=λz=>by rw[z,AH.aa]at he;cases he
 have na:a≠e:=λz=>by rw[z,AH.aa]at ha;cases ha
 have Ie:=AH.aT ha;have Xs:a≠e2:=λz=>by rw[z,AH.aa]at Ie;cases Ie
 refine q a e e2 _ (CI (AH.aT Ie)) (CI (AH.aT he)) (CI jb) ne (AH.aa _ _ _) ?_ ?_ (((C4.new jb).new he).new ha) (((K4.trans (Kept.new jb)).trans (Kept.new he)).trans (Kept.new ha))
 ·rw[AH.ae _ _ (Ne.symm na),AH.aa]
 ·rw[AH.ae _ _ (Ne.symm Xs),AH.ae _ _ (Ne.symm ne),AH.aa]
end iM
theorem Dl{σ:AH}{Q:V->AH->Prop}{d oa:Addr}{os:bY}{n:Nd}:iM.P σ Q d oa os n:=xa (Q:=iM.Q_) iM.go (σ,Q,d,oa,os,n)
section
variable{σ:AH}{Q:V->AH->Prop}{d oa:Addr}{os:bY}
end
end
section
theorem tc(f:List Nd)(p:Nd):(aJ f p).length<=f.length+1:=by
 unfold aJ;split
 ·exact Nat.le_of_eq qc
 ·split
  ·exact aG (.g .A (.a .A .O)) rfl
  ·split
   ·exact Nat.le_of_eq qc
   ·split<;>(simp;try lia -abstractProof)
theorem pY(ps:List Nd):(joined ps).length<=ps.length:=by
 have key:∀(ps f:List Nd),(ps.foldl aJ f).length<=f.length+ps.length:=by
  intro ps
  induction ps with
  | nil=>intro f;exact Nat.le_refl _
  | cons p ps ih=>intro f;have:=ih (aJ f p);have:=tc f p;simp at *;exact bD (.l .A (.a .B .O) (.l .C (.a .A .D) (.g .C (.a .B (.a .D .O))))) rfl this (by assumption)
 have:=key ps [];rw[List.length_nil,Nat.zero_add]at this;exact this
section
variable{σ:AH}{Q:V->AH->Prop}{d oa:Addr}{os:bY}
theorem vN{x y:Nd}(hz:(Nd.cat x y).size<=1000)(ht:cQ (ah (.cat x y))<=1000)(hl:(ah (.cat x y)).length<=1000)
  (q:∀a af,σ a=none->af a=some (.list (((joined (ah (.cat x y))).map WI.put).map WI.v))->Kept σ af []->Q (.lst a) af):aU 3 (.ref 70) [.inst 94 d,(Nd.cat x y).v] σ Q:=by
 have e:(Nd.cat x y).v=.tup [.str "cat",x.v,y.v]:=rfl;rw[e];refine aC (cu) rfl λL=>?_
 kcf_m
 (refine au (aA ?_ rfl rfl))
 kd_p;refine jB (cl:=[]) (closureFor_none (by decide)) (by decide) rfl (by decide) (λ_ h=>nomatch h) (by decide) (λ_ _ h=>nomatch h) ?_
 refine aF ?_;refine cO ?_;refine aF ?_;kd_p;rw[<-e];refine aU.call ((vY (b:=false) hz ?_).less (by decide))
 intro ra aI pU Ts K1;refine aU.call (Dk Ts hl ht ?_);intro ja bU Yy Vy K2;refine⟨_,_,[],dN Vy,(λ_ _ h=>nomatch h),λC=>?_⟩
 refine jV (λvs acc ρ af=>∃ds rs:List Nd,joined (ah (.cat x y))=ds++rs/\vs=rs.map Nd.v/\acc=ds.map (λp=>(WI.put p).v)/\af=bU/\(joined (ah (.cat x y))).length<=1000) ?_ ?_ ?_ _ _ _ _ ⟨[],_,rfl,rfl,rfl,rfl,?_⟩
 ·rintro vs acc ρ af ⟨ds,rs,e1,e2,e3,rfl,e5⟩
  exact Vy
 ·rintro v vs acc ρ af ⟨ds,rs,e1,e2,e3,rfl,e5⟩
  cases rs with
  | nil=>cases e2
  | cons r rs=>
   rw[List.map_cons,List.cons.injEq]at e2;obtain⟨rfl,rfl⟩:=e2;have Ig:acc.length<=1000000:=by rw[e3,List.length_map];rw[e1]at e5;simp at e5;exact aH (.l (.a .A (.a .B .O)) (.k 1000) (.g .A (.k 1000000))) rfl e5
   kd_p;refine aq rfl ?_;kd_p;exact⟨Ig,(λ_ h=>nomatch h),ds++[r],rs,by rw[e1];exact(List.append_assoc _ [_] _).symm,rfl,by rw[e3];exact I0.symm,rfl,e5⟩
 ·rintro acc ρ af ⟨ds,rs,e1,e2,e3,rfl,e5⟩ D hD
  have:rs=[]:=by cases rs with | nil=>rfl | cons p rs=>cases e2
  subst this;rw[List.append_nil]at e1;refine q D _ ?_ ?_ ((K1.trans K2).trans (Kept.new hD))
  ·cases z:σ D with
   | none=>rfl
   | some o=>rw[(K1.trans K2) _ _ z (by exact nn)]at hD;cases hD
  ·rw[AH.aa,e1,e3,List.map_map];rfl
 ·exact Nat.le_trans (pY _) hl
theorem xy(x y:Nd):∃ps p,aD (.alt x y)=ps++[p]:=by
 have:∀n:Nd,∃ps p,aD n=ps++[p]:=by
  intro n
  induction n with
  | alt a b we w7=>obtain⟨ps,p,e⟩:=w7;exact⟨aD a++ps,p,by show aD a++aD b=_;rw[e,List.append_assoc]⟩
  | _=>exact⟨[],_,rfl⟩
 exact this _
theorem vM{x y:Nd}(hz:(Nd.alt x y).size<=1000)(hl:(aD (.alt x y)).length<=1000)(C:dH σ d oa os)
  (q:∀a e e2 af,σ a=none->σ e=none->σ e2=none->e≠e2->af a=some (.list ((bB e (aD (.alt x y))).map WI.v))->af e=some (.list [.int (-1),.lst e2])->af e2=some (.list [])->Kept σ af []->Q (.lst a) af):aU 3 (.ref 70) [.inst 94 d,(Nd.alt x y).v] σ Q:=by
 have co:=(bL).1;have e:(Nd.alt x y).v=.tup [.str "alt",x.v,y.v]:=rfl;rw[e];refine aC (cu) rfl λL=>?_
 kcf_m
 (refine au (aA ?_ rfl rfl))
 kd_p;refine aB ?_;kd_p;refine⟨_,a9 co (jm) (fL).1 C.h rfl,(fL).2,?_⟩;refine cO ?_;refine aF ?_;kd_p;rw[<-e];refine aU.call ((vY (b:=true) hz ?_).less (by decide))
 intro ra aI pU Ts K1;obtain⟨ps,p,er⟩:=xy x y;have Tt:aI ra=some (.list ((ps++[p]).map Nd.v)):=by rw[Ts, <-er];rfl
 rw[er]at hl;refine aU.call ((Dj Tt (by simp at hl;exact aG (.l .A (.k 999) (.g .A (.k 1000))) rfl hl) ?_).less (by decide))
 intro a e1 e2 bU ha he jb ne sa se qG K2;rw[er]at q;have back:∀{b:Addr},aI b=none->σ b=none:=λ{b} hb=>by
  cases z:σ b with
  | none=>rfl
  | some o=>rw[K1 _ _ z (by exact nn)]at hb;cases hb
 exact q a e1 e2 bU (back ha) (back he) (back jb) ne sa se qG (K1.trans K2)
theorem rh{n:Nd}(C:dH σ d oa os)(hl:os.length<=90000)
  (q:∀a e e2 af,σ a=none->σ e=none->σ e2=none->e≠e2->af a=some (.list (([.put n,.emit .dY,.emit (.bG os.length),.meet e]:List WI).map WI.v))->af e=some (.list [.int os.length,.lst e2])->af e2=some (.list [.int ((os.length+1:Nat):Int)])->dH af d oa (os++[some (.split (os.length+2)),none,some .mark])->Kept σ af [oa]->Q (.lst a) af):aU 3 (.ref 70) [.inst 94 d,(Nd.bo n).v] σ Q:=by
 have co:=(bL).1;have e:(Nd.bo n).v=.tup [.str "arbno",n.v]:=rfl;rw[e];refine aC (cu) rfl λL=>?_
 kcf_m
 (refine au (aA ?_ rfl rfl))
 kd_p;refine aB ?_;kd_p;refine⟨_,a9 co (jn) (fM).1 C.h rfl,(fM).2,?_⟩;kd_p;exact aU.call (Dl C hl q)
theorem xQ{n:Nd}{now:Bool}{r:Ref}(C:dH σ d oa os)(hl:os.length<=90000)
  (q:∀a af,σ a=none->af a=some (.list (([.put n,.emit (.nm now r)]:List WI).map WI.v))->dH af d oa (os++[some .mark])->Kept σ af [oa]->Q (.lst a) af):aU 3 (.ref 70) [.inst 94 d,(Nd.nm now n r).v] σ Q:=by
 have co:=(bL).1;have C1:=C.put (os++[some .mark]);have He:∀{b:Addr},(σ.put oa (.list ((os++[some Ord.mark]).map kX))) b=none->σ b=none:=λ{b} hb=>AH.aT hb
 cases now with
 | true=>
  have e:(Nd.nm true n r).v=.tup [.str "now",n.v,fh r]:=rfl;rw[e];refine aC (cu) rfl λL=>?_
  kcf_m
  (refine au (aA ?_ rfl rfl))
  kd_p;refine aB ?_;kd_p;refine⟨_,a9 co (aL) (ak).1 C.h rfl,(ak).2,?_⟩;kd_p;refine aq rfl ?_;kd_p;refine aU.call ((ib C (by exact DD hl) (some .mark) ?_).less (by decide))
  kd_p;refine aW ?_;kd_p;refine aq rfl ?_;kd_p;refine aq rfl ?_;kd_p;refine aq rfl ?_;kd_p;intro a ha;exact q a _ (He ha) (AH.aa _ _ _) (C1.new ha) ((Kept.put (by exact .head _)).trans (Kept.new ha))
 | false=>
  have e:(Nd.nm false n r).v=.tup [.str "later",n.v,fh r]:=rfl;rw[e];refine aC (cu) rfl λL=>?_
  kcf_m
  (refine au (aA ?_ rfl rfl))
  kd_p;refine aB ?_;kd_p;refine⟨_,a9 co (aL) (ak).1 C.h rfl,(ak).2,?_⟩;kd_p;refine aq rfl ?_;kd_p;refine aU.call ((ib C (by exact DD hl) (some .mark) ?_).less (by decide))
  kd_p;refine aW ?_;kd_p;refine aq rfl ?_;kd_p;refine aq rfl ?_;kd_p;refine aq rfl ?_;kd_p;intro a ha;exact q a _ (He ha) (AH.aa _ _ _) (C1.new ha) ((Kept.put (by exact .head _)).trans (Kept.new ha))
end
end
section
theorem Ah(p:Pl):(za.map (·.1)).contains p.kind=true:=by cases p<;>(dsimp only[Pl.kind];decide)
section
variable{σ:AH}{Q:V->AH->Prop}{d oa:Addr}{os:bY}
theorem tH(l:Lf)(C:dH σ d oa os)(hl:os.length<=90000)
  (q:∀a af,σ a=none->af a=some (.list [])->dH af d oa (os++[some (.leaf l)])->Kept σ af [oa]->Q (.lst a) af):aU 3 (.ref 70) [.inst 94 d,(Nd.leaf l).v] σ Q:=by
 have co:=(bL).1;obtain⟨f1,f2,f3,f4,f5⟩:=qb l;have e:(Nd.leaf l).v=.tup (.str l.kind::l.args):=rfl;rw[e];have C1:=C.put (os++[some (.leaf l)]);refine aC (cu) rfl λL=>?_
 kcf_m
 (refine au (aA ?_ rfl rfl))
 kd_p
 try refine ite_ff f1 ?_
 kd_p
 try refine ite_ff f2 ?_
 kd_p
 try refine ite_ff f3 ?_
 kd_p
 try refine ite_ff f4 ?_
 kd_p
 try refine ite_ff f5 ?_
 kd_p;refine jH (gY (by decide+kernel) (XE w)) ?_
 refine bF ?_;kd_p;have E:=λ(Q:V->AH->Prop) q=>ib (Q:=Q) C (by exact DD hl) (some (.leaf l)) q
 cases l with
 | pl p=>
  dsimp only[Lf.kind,Lf.args]
  try refine ite_tt (Ah p) ?_
  kd_p;refine aB ?_;kd_p;refine⟨_,a9 co (aL) (ak).1 C.h rfl,(ak).2,?_⟩;kd_p;refine aq rfl ?_;kd_p;refine bh ?_;kd_p;refine lO (by exact Nat.le_add_left _ _) ?_
  kd_p;wtm_at "h";kd_p;refine aU.call ((E _ ?_).less (by decide))
  kd_p;refine aW ?_;kd_p;intro a ha;exact q a _ (AH.aT ha) (AH.aa _ _ _) (C1.new ha) ((Kept.put (by exact .head _)).trans (Kept.new ha))
 | dZ=>
  dsimp only[Lf.kind,Lf.args];kd_p;refine aB ?_;kd_p;refine⟨_,a9 co (aL) (ak).1 C.h rfl,(ak).2,?_⟩;kd_p;refine aq rfl ?_;kd_p;refine bh ?_;kd_p;refine lO (by exact Nat.le_add_left _ _) ?_
  kd_p;wtm_at "h";kd_p;refine aU.call ((E _ ?_).less (by decide))
  kd_p;refine aW ?_;kd_p;intro a ha;exact q a _ (AH.aT ha) (AH.aa _ _ _) (C1.new ha) ((Kept.put (by exact .head _)).trans (Kept.new ha))
 | cV b=>
  cases b<;>(
   dsimp only[Lf.kind,Lf.args];kd_p;refine aB ?_;kd_p;refine⟨_,a9 co (aL) (ak).1 C.h rfl,(ak).2,?_⟩;kd_p;refine aq rfl ?_;kd_p;refine aU.call ((E _ ?_).less (by decide))
   kd_p;refine aW ?_;kd_p;intro a ha;exact q a _ (AH.aT ha) (AH.aa _ _ _) (C1.new ha) ((Kept.put (by exact .head _)).trans (Kept.new ha)))
 | bM k=>
  cases k<;>(
   dsimp only[Lf.kind,Lf.args,Sk.kind];kd_p;refine aB ?_;kd_p;refine⟨_,a9 co (aL) (ak).1 C.h rfl,(ak).2,?_⟩;refine cO ?_;kd_p;refine jH (gY (by decide+kernel) (Rw w)) ?_
   refine bF ?_;kd_p;refine aU.call ((E _ ?_).less (by decide))
   kd_p;refine aW ?_;kd_p;intro a ha;exact q a _ (AH.aT ha) (AH.aa _ _ _) (C1.new ha) ((Kept.put (by exact .head _)).trans (Kept.new ha)))
 | ask=>
  dsimp only[Lf.kind,Lf.args];kd_p;refine aB ?_;kd_p;refine⟨_,a9 co (aL) (ak).1 C.h rfl,(ak).2,?_⟩;refine cO ?_;kd_p;refine jH (gY (by decide+kernel) (Rw w)) ?_
  refine bF ?_;kd_p;refine aq rfl ?_;kd_p;refine aU.call ((E _ ?_).less (by decide))
  kd_p;refine aW ?_;kd_p;intro a ha;exact q a _ (AH.aT ha) (AH.aa _ _ _) (C1.new ha) ((Kept.put (by exact .head _)).trans (Kept.new ha))
 | c0 r=>
  dsimp only[Lf.kind,Lf.args];kd_p;refine aB ?_;kd_p;refine⟨_,a9 co (aL) (ak).1 C.h rfl,(ak).2,?_⟩;refine cO ?_;kd_p;refine jH (gY (by decide+kernel) (Rw w)) ?_
  refine bF ?_;kd_p;refine aq rfl ?_;kd_p;refine aU.call ((E _ ?_).less (by decide))
  kd_p;refine aW ?_;kd_p;intro a ha;exact q a _ (AH.aT ha) (AH.aa _ _ _) (C1.new ha) ((Kept.put (by exact .head _)).trans (Kept.new ha))
end
end
section
noncomputable def sz(l:List Nd):Nat:=(l.map Nd.size).sum
theorem cq(p:Nd)(l:List Nd):sz (p::l)=p.size+sz l:=by rfl
theorem gu(l m:List Nd):sz (l++m)=sz l+sz m:=by simp[sz]
theorem gK:∀n:Nd,sz (ah n)+(ah n).length=n.size+1:=by
 intro n
 induction n with
 | cat a b we w7=>show sz (ah a++ah b)+(ah a++ah b).length=a.size+b.size+1+1;rw[gu,List.length_append];exact Nat.le_antisymm (lZ (.e (.a .A .B) (.a .C .O) (.e (.a .D .E) (.a .F .O) (.g (.a (.a .D .A) (.a .E .B)) (.a (.a (.a .F .C) .O) .O)))) rfl w7 we) (lZ (.f (.a .A .B) (.a .C .O) (.f (.a .D .E) (.a .F .O) (.g (.a (.a (.a .F .C) .O) .O) (.a (.a .D .A) (.a .E .B))))) rfl w7 we)
 | _=>rfl
theorem gJ:∀n:Nd,sz (aD n)+(aD n).length=n.size+1:=by
 intro n
 induction n with
 | alt a b we w7=>show sz (aD a++aD b)+(aD a++aD b).length=a.size+b.size+1+1;rw[gu,List.length_append];exact Nat.le_antisymm (lZ (.e (.a .A .B) (.a .C .O) (.e (.a .D .E) (.a .F .O) (.g (.a (.a .D .A) (.a .E .B)) (.a (.a (.a .F .C) .O) .O)))) rfl w7 we) (lZ (.f (.a .A .B) (.a .C .O) (.f (.a .D .E) (.a .F .O) (.g (.a (.a (.a .F .C) .O) .O) (.a (.a .D .A) (.a .E .B))))) rfl w7 we)
 | _=>rfl
theorem fe:∀n:Nd,0<(ah n).length:=by
 intro n
 induction n with
 | cat a b we w7=>show 0<(ah a++ah b).length;rw[List.length_append];exact ER we
 | _=>exact Nat.zero_lt_one
theorem gh:∀n:Nd,0<(aD n).length:=by
 intro n
 induction n with
 | alt a b we w7=>show 0<(aD a++aD b).length;rw[List.length_append];exact ER we
 | _=>exact Nat.zero_lt_one
theorem vD(f:List Nd)(p:Nd):sz (aJ f p)<=sz f+p.size:=by
 have hp:=p.size_pos;unfold aJ;split
 ·rw[gu,cq];exact Nat.le_refl _
 ·split
  ·exact Fc
  ·rcases List.eq_nil_or_concat f with rfl | ⟨f,u,rfl⟩
   ·exact Nat.le_of_eq (Nat.zero_add p.size).symm
   ·rw[List.concat_eq_append]
    simp only[List.getLast?_append,List.getLast?_singleton,Option.some_or];split
    ·rw[gu,cq];exact Nat.le_refl _
    ·rw[List.dropLast_concat,gu,gu,cq,cq]
     have:=u.size_pos;show sz f+1<=sz f+u.size+p.size;exact aX (.t .Z .A (.g (.a .B .O) (.a (.a .B .C) .A))) rfl hp
theorem j5(ps:List Nd):sz (joined ps)<=sz ps:=by
 have key:∀(ps f:List Nd),sz (ps.foldl aJ f)<=sz f+sz ps:=by
  intro ps
  induction ps with
  | nil=>intro f;exact Nat.le_refl _
  | cons p ps ih=>intro f;have:=ih (aJ f p);have:=vD f p;rw[cq];show sz (ps.foldl aJ (aJ f p))<=_;exact gf (.l .A (.a .B .C) (.l .D (.a .A .E) (.g .D (.a .B (.a .C .E))))) rfl this (by assumption)
 exact Nat.le_trans (key ps []) (Nat.le_of_eq (Nat.zero_add _))
theorem jG{p:Nd}{l:List Nd}(h:p∈l):p.size<=sz l:=by
 induction l with
 | nil=>cases h
 | cons q l ih=>
  rw[cq];rcases List.mem_cons.mp h with rfl | h
  ·exact Fc
  ·exact Nat.le_trans (ih h) (Nat.le_add_left _ _)
noncomputable def Nd.text:Nd->Nat
 | .leaf l=>Gh (textOf (.leaf l))
 | .cat a b=>a.text+b.text
 | .alt a b=>a.text+b.text
 | .bo a=>a.text
 | .nm _ a _=>a.text
noncomputable def tx(l:List Nd):Nat:=(l.map Nd.text).sum
theorem gi(p:Nd)(l:List Nd):tx (p::l)=p.text+tx l:=by rfl
theorem gw(l m:List Nd):tx (l++m)=tx l+tx m:=by simp[tx]
theorem Jv(p:Nd):p.txt<=p.text:=by
 cases p with
 | leaf l=>exact Nat.le_refl _
 | _=>exact Nat.zero_le _
theorem Ap(l:List Nd):cQ l<=tx l:=by
 induction l with
 | nil=>exact Nat.le_refl _
 | cons p l ih=>have:=Jv p;rw[gi];simp[cQ]at *;exact bD (.l .A .B (.l .C .D (.g (.a .A .C) (.a .B .D)))) rfl this ih
theorem lh:∀n:Nd,tx (ah n)=n.text:=by
 intro n
 induction n with
 | cat a b we w7=>show tx (ah a++ah b)=_;rw[gw,we,w7];rfl
 | _=>rfl
theorem xO:∀n:Nd,tx (aD n)=n.text:=by
 intro n
 induction n with
 | alt a b we w7=>show tx (aD a++aD b)=_;rw[gw,we,w7];rfl
 | _=>rfl
set_option tactic.hygienic true in
theorem gX{p:Nd}{t:Str}(h:textOf p=some t):p.text=t.length:=by
 rcases fS p with ⟨_,h2⟩ | ⟨u,rfl⟩
 ·rw[h]at h2;cases h2
 ·cases h;rfl
theorem Str.gB(a b:Str):(a++b).length=a.length+b.length:=by show(a.cps++b.cps).size=_;rw[Array.size_append];rfl
set_option tactic.hygienic true in
theorem vH(f:List Nd)(p:Nd):tx (aJ f p)<=tx f+p.text:=by
 unfold aJ;split
 ·rw[gw,gi];exact Nat.le_refl _
 ·rename_i t ht
  split
  ·exact Fc
  ·rcases List.eq_nil_or_concat f with rfl | ⟨f,u,rfl⟩
   ·exact Nat.le_of_eq (Nat.zero_add p.text).symm
   ·rw[List.concat_eq_append]
    simp only[List.getLast?_append,List.getLast?_singleton,Option.some_or];split
    ·rw[gw,gi];exact Nat.le_refl _
    ·rename_i v hv
     have e1:=gX ht;have e2:=gX hv;rw[List.dropLast_concat,gw,gw,gi,gi];have:=Str.gB v t;show tx f+(v++t).length<=tx f+u.text+p.text;exact lZ (.e .A (.a .B .C) (.f .D .C (.f .E .B (.g (.a .F .A) (.a (.a .F .E) .D))))) rfl this e1 e2
theorem As(ps:List Nd):tx (joined ps)<=tx ps:=by
 have key:∀(ps f:List Nd),tx (ps.foldl aJ f)<=tx f+tx ps:=by
  intro ps
  induction ps with
  | nil=>intro f;exact Nat.le_refl _
  | cons p ps ih=>intro f;have:=ih (aJ f p);have:=vH f p;rw[gi];show tx (ps.foldl aJ (aJ f p))<=_;exact gf (.l .A (.a .B .C) (.l .D (.a .A .E) (.g .D (.a .B (.a .C .E))))) rfl this (by assumption)
 exact Nat.le_trans (key ps []) (Nat.le_of_eq (Nat.zero_add _))
theorem xm{p:Nd}{l:List Nd}(h:p∈l):p.text<=tx l:=by
 induction l with
 | nil=>cases h
 | cons q l ih=>
  rw[gi];rcases List.mem_cons.mp h with rfl | h
  ·exact Fc
  ·exact Nat.le_trans (ih h) (Nat.le_add_left _ _)
theorem mn:∀(js:List Nat)(os:bY),(cM os js).length=os.length
 | [],_=>rfl
 | j::js,os=>by show(cM (os.set j _) js).length=_;rw[mn js,List.length_set]
noncomputable def Grows(put:Nd->bY->bY)(k:Nat):Prop:=∀n os,n.size<=k->os.length<=(put n os).length/\(put n os).length+5<=os.length+5*n.size+5
theorem jJ(put:Nd->bY->bY)(p q:Nd)(ps:List Nd)(os:bY)(js:List Nat):
  hW put (p::q::ps) os js=hW put (q::ps) ((put p (os++[none])++[none]).set os.length (some (.split ((put p (os++[none])).length+1)))) (js++[(put p (os++[none])).length]):=rfl
theorem qk{put:Nd->bY->bY}{k:Nat}(g:Grows put k):∀(ps:List Nd)(os:bY)(js:List Nat),sz ps<=k->ps≠[]->os.length<=(hW put ps os js).length/\(hW put ps os js).length+2<=os.length+5*sz ps+2*ps.length
 | [],_,_,_,h=>absurd rfl h
 | [p],os,js,hs,_=>by
  show os.length<=(cM (put p os) js).length/\(cM (put p os) js).length+2<=_;rw[cq]at hs ⊢;have:=g p os (by exact aH (.l (.a .A .Z) .B (.g .A .B)) rfl hs)
  rw[mn];simp[sz];exact⟨jg this.1,aX (.l (.a .A (.k 5)) (.a (.a .B (.m 5 .C)) (.k 5)) (.g .A (.a .B (.m 5 .C)))) rfl this.2⟩
 | p::q::ps,os,js,hs,_=>by
  rw[jJ];rw[cq]at hs;have h1:=g p (os++[none]) (by exact Cu hs)
  have:=qk g (q::ps) ((put p (os++[none])++[none]).set os.length (some (.split ((put p (os++[none])).length+1)))) (js++[(put p (os++[none])).length]) (by exact ES hs) (by exact List.cons_ne_nil _ _)
  rw[List.length_set,List.length_append]at this;rw[cq];simp only[List.length_append,List.length_cons,List.length_nil]at *;exact⟨aX (.l (.a .A (.a .Z .O)) .B (.l (.a .C (.a .Z .O)) .A (.g .C .B))) rfl this.1 h1.1,lZ (.l (.a .A (.k 2)) (.a (.a (.a .B (.a .Z .O)) (.m 5 .C)) (.m 2 (.a .D .O))) (.l (.a .B (.k 5)) (.a (.a (.a .E (.a .Z .O)) (.m 5 .F)) (.k 5)) (.g (.a .A (.k 2)) (.a (.a .E (.m 5 (.a .F .C))) (.m 2 (.a (.a .D .O) .O)))))) rfl this.2 h1.2⟩
theorem uG{put:Nd->bY->bY}{k:Nat}(g:Grows put k):∀(ps:List Nd)(os:bY),sz ps<=k->os.length<=(ps.foldl (λos p=>put p os) os).length/\(ps.foldl (λos p=>put p os) os).length<=os.length+5*sz ps
 | [],_,_=>⟨Nat.le_refl _,Nat.le_refl _⟩
 | p::ps,os,hs=>by
  rw[cq]at hs ⊢;have h1:=g p os (by exact Cu hs)
  have h2:=uG g ps (put p os) (by exact ES hs)
  rw[List.foldl_cons];exact⟨ET h1.1 h2.1,gf (.l (.a .A (.k 5)) (.a (.a .B (.m 5 .C)) (.k 5)) (.l .D (.a .A (.m 5 .E)) (.g .D (.a .B (.m 5 (.a .C .E)))))) rfl h1.2 h2.2⟩
theorem grows:∀k,Grows (putN k) k
 | 0=>λn os h=>by have:=n.size_pos;exact RW this h
 | k+1=>λn os h=>by
  have g:=grows k;cases n with
  | cat a b=>
   have h1:=gK (.cat a b);have h2:=j5 (ah (.cat a b));have h3:=fe a;have h4:=fe b;have h5:(ah (.cat a b)).length=(ah a).length+(ah b).length:=by show(ah a++ah b).length=_;rw[List.length_append]
   have:=uG g (joined (ah (.cat a b))) os (by exact qY (.e (.a .A .B) (.a .C .O) (.t .Z .D (.t .Z .E (.f .B (.a .D .E) (.l .C (.a .F .O) (.l .G .A (.g .G .F))))))) rfl h1 h3 h4 h5 h h2)
   show os.length<=((joined (ah (.cat a b))).foldl (λos p=>putN k p os) os).length/\_
   refine⟨this.1,?_⟩;show((joined (ah (.cat a b))).foldl (λos p=>putN k p os) os).length+5<=_
   exact IV (.e2 5 (.a .A .B) (.a .C .O) (.l .D (.a .E (.m 5 .F)) (.t2 5 .Z .G (.f2 5 .B (.a .H .G) (.l2 5 .F .A (.g (.a .D (.k 5)) (.a (.a .E (.m 5 .C)) (.k 5)))))))) rfl h1 this.2 h4 h5 h2
  | alt a b=>
   have h1:=gJ (.alt a b);have h3:=gh a;have h4:=gh b;have h5:(aD (.alt a b)).length=(aD a).length+(aD b).length:=by show(aD a++aD b).length=_;rw[List.length_append]
   have:=qk g (aD (.alt a b)) os [] (by exact lZ (.e (.a .A .B) (.a .C .O) (.t .Z .D (.t .Z .E (.f .B (.a .D .E) (.l .C (.a .F .O) (.g .A .F)))))) rfl h1 h3 h4 h5 h) (by intro z;rw[z]at h5;simp at h5;exact aH (.t .Z .A (.f .Z (.a .A .B) (.z))) rfl h3 h5)
   show os.length<=(hW (putN k) (aD (.alt a b)) os []).length/\(hW (putN k) (aD (.alt a b)) os []).length+5<=_;exact⟨jg this.1,qY (.e2 5 (.a .A .B) (.a .C .O) (.l (.a .D (.k 2)) (.a (.a .E (.m 5 .A)) (.m 2 .B)) (.t2 3 .Z .F (.f2 3 .B (.a .F .G) (.g (.a .D (.k 5)) (.a (.a .E (.m 5 .C)) (.k 5))))))) rfl h1 this.2 h3 h5⟩
  | bo a=>
   have hs:(Nd.bo a).size=a.size+1:=rfl;have:=g a (os++[some (.split (os.length+2)),none,some .mark]) (by exact yQ hs h)
   show os.length<=(List.set _ _ _).length/\(List.set _ _ _).length+5<=_;rw[List.length_append]at this;rw[List.length_set,List.length_append];exact⟨aH (.l (.a .A (.a (.a (.a .Z .O) .O) .O)) .B (.g .A (.a .B (.a (.a .Z .O) .O)))) rfl this.1,bD (.l (.a .A (.k 5)) (.a (.a (.a .B (.a (.a (.a .Z .O) .O) .O)) (.m 5 .C)) (.k 5)) (.f .D (.a .C .O) (.f .D (.a .C .O) (.f .D (.a .C .O) (.f .D (.a .C .O) (.f .D (.a .C .O) (.g (.a (.a .A (.a (.a .Z .O) .O)) (.k 5)) (.a (.a .B (.m 5 .D)) (.k 5))))))))) rfl this.2 hs hs hs hs hs⟩
  | nm b a r=>
   have hs:(Nd.nm b a r).size=a.size+1:=rfl;have:=g a (os++[some .mark]) (by exact yQ hs h)
   show os.length<=(putN k a (os++[some Ord.mark])++[_]).length/\(putN k a (os++[some Ord.mark])++[_]).length+5<=_;rw[List.length_append]at this;rw[List.length_append];exact⟨aH (.l (.a .A (.a .Z .O)) .B (.g .A (.a .B (.a .Z .O)))) rfl this.1,bD (.l (.a .A (.k 5)) (.a (.a (.a .B (.a .Z .O)) (.m 5 .C)) (.k 5)) (.f .D (.a .C .O) (.f .D (.a .C .O) (.f .D (.a .C .O) (.f .D (.a .C .O) (.f .D (.a .C .O) (.g (.a (.a .A (.a .Z .O)) (.k 5)) (.a (.a .B (.m 5 .D)) (.k 5))))))))) rfl this.2 hs hs hs hs hs⟩
  | _=>
   show os.length<=(os++[some (Ord.leaf _)]).length/\(os++[some (Ord.leaf _)]).length+5<=os.length+5*1+5;rw[qc];exact⟨Nat.le_succ _,aG (.g (.a (.a .A .O) (.k 5)) (.a (.a .A (.m 5 .O)) (.k 5))) rfl⟩
structure PS(σ:AH)(d oa wa:Addr)(ws:List WI)(os:bY):Prop where
 cd:dH σ d oa os
 w:σ wa=some (.list (ws.map WI.v))
theorem PS.ne{σ:AH}{d oa wa:Addr}{ws:List WI}{os:bY}(P:PS σ d oa wa ws os)(h:oa≠wa):d≠wa:=λe=>by have:=P.cd.h;rw[e,P.w]at this;cases this
noncomputable def yP:Nd->Option Ord
 | .leaf l=>some (.leaf l)
 | .cat .. =>none | .alt .. =>none | .bo _=>none | .nm .. =>none
structure yj(d oa wa:Addr)(T:Nat->AH->Prop):Prop where
 leaf:∀n o ws os σ m,yP n=some o->PS σ d oa wa (ws++[.put n]) os->os.length<=90000->ws.length<=90000->(∀af,PS af d oa wa ws (os++[some o])->Kept σ af [oa,wa]->T m af)->T (m+1) σ
 cat:∀x y ws os σ m,PS σ d oa wa (ws++[.put (.cat x y)]) os->(Nd.cat x y).size<=1000->(Nd.cat x y).text<=1000->ws.length<=90000->(∀af,PS af d oa wa (ws++((joined (ah (.cat x y))).map WI.put).reverse) os->Kept σ af [oa,wa]->T m af)->T (m+1) σ
 alt:∀x y ws os σ m,PS σ d oa wa (ws++[.put (.alt x y)]) os->(Nd.alt x y).size<=1000->ws.length<=90000->
  (∀e e2 af,σ e=none->σ e2=none->e≠e2->PS af d oa wa (ws++(bB e (aD (.alt x y))).reverse) os->af e=some (.list [.int (-1),.lst e2])->af e2=some (.list [])->Kept σ af [oa,wa]->T m af)->T (m+1) σ
 bo:∀n ws os σ m,PS σ d oa wa (ws++[.put (.bo n)]) os->os.length<=90000->ws.length<=90000->
  (∀e e2 af,σ e=none->σ e2=none->e≠e2->PS af d oa wa (ws++[.meet e,.emit (.bG os.length),.emit .dY,.put n]) (os++[some (.split (os.length+2)),none,some .mark])->af e=some (.list [.int os.length,.lst e2])->af e2=some (.list [.int ((os.length+1:Nat):Int)])->Kept σ af [oa,wa]->T m af)->T (m+1) σ
 nm:∀b n r ws os σ m,PS σ d oa wa (ws++[.put (.nm b n r)]) os->os.length<=90000->ws.length<=90000->(∀af,PS af d oa wa (ws++[.emit (.nm b r),.put n]) (os++[some .mark])->Kept σ af [oa,wa]->T m af)->T (m+1) σ
 emit:∀o ws os σ m,PS σ d oa wa (ws++[.emit o]) os->os.length<=90000->ws.length<=90000->(∀af,PS af d oa wa ws (os++[some o])->Kept σ af [oa,wa]->T m af)->T (m+1) σ
 CQ:∀e e2 (x:Int) ws os σ m,PS σ d oa wa (ws++[.CQ e]) os->os.length<=90000->ws.length<=90000->σ e=some (.list [.int x,.lst e2])->e≠oa->e≠wa->(∀af,PS af d oa wa ws (os++[none])->af e=some (.list [.int os.length,.lst e2])->Kept σ af [oa,wa,e]->T m af)->T (m+1) σ
 qm:∀e e2 (k:Nat) (js:List Nat) ws os σ m,PS σ d oa wa (ws++[.qm e]) os->os.length<=90000->ws.length<=90000->js.length<=90000->σ e=some (.list [.int k,.lst e2])->σ e2=some (.list (js.map λj=>.int (j:Nat)))->k<os.length->e≠oa->e≠wa->e2≠oa->e2≠wa->e≠e2->
  (∀af,PS af d oa wa ws ((os++[none]).set k (some (.split (os.length+1))))->af e2=some (.list ((js++[os.length]).map λj=>.int (j:Nat)))->Kept σ af [oa,wa,e2]->T m af)->T (m+1) σ
 meet:∀e e2 (x:Int) (js:List Nat) ws os σ m,PS σ d oa wa (ws++[.meet e]) os->os.length<=90000->ws.length<=90000->σ e=some (.list [.int x,.lst e2])->σ e2=some (.list (js.map λj=>.int (j:Nat)))->(∀j∈js,j<os.length)->e≠oa->e≠wa->e2≠oa->e2≠wa->
  (∀af,PS af d oa wa ws (cM os js)->Kept σ af [oa,wa]->T m af)->T (m+1) σ
def Puts(d oa wa:Addr)(T:Nat->AH->Prop)(put:Nd->bY->bY)(n:Nd):Prop:=
 ∃t,∀ws os σ m,PS σ d oa wa (ws++[.put n]) os->os.length+5*n.size<=80000->ws.length+10*n.size<=80000->(∀af,PS af d oa wa ws (put n os)->Kept σ af [oa,wa]->T m af)->T (m+t) σ
theorem vh{d oa wa:Addr}{T:Nat->AH->Prop}{put:Nd->bY->bY}{k:Nat}(g:Grows put k):∀ps:List Nd,(∀p∈ps,Puts d oa wa T put p)->sz ps<=k->
  ∃t,∀ws os σ m,PS σ d oa wa (ws++(ps.map WI.put).reverse) os->os.length+5*sz ps<=80000->ws.length+10*sz ps<=80000->(∀af,PS af d oa wa ws (ps.foldl (λos p=>put p os) os)->Kept σ af [oa,wa]->T m af)->T (m+t) σ
 | [],_,_=>⟨0,λws os σ m P _ _ q=>q σ (by simpa using P) (Kept.refl _ _)⟩
 | p::ps,hp,hk=>by
  rw[cq]at hk;obtain⟨t1,h1⟩:=hp p (by exact .head _)
  obtain⟨t2,h2⟩:=vh g ps (λq hq=>hp q (by exact .tail _ (by assumption))) (by exact ES hk)
  refine⟨t2+t1,λws os σ m P b1 b2 q=>?_⟩
  rw[cq]at b1 b2;have pp:=p.size_pos;have hl:ps.length<=sz ps:=eW ps;have gp:=g p os (by exact Cu hk)
  rw[<-Nat.add_assoc];refine h1 (ws++(ps.map WI.put).reverse) os σ (m+t2) (by simpa using P) (by exact aX (.l (.a .A (.m 5 (.a .B .C))) (.k 80000) (.g (.a .A (.m 5 .B)) (.k 80000))) rfl b1) (by simp;exact bD (.l (.a .A (.m 10 (.a .B .C))) (.k 80000) (.l .D .C (.g (.a (.a .A .D) (.m 10 .B)) (.k 80000)))) rfl b2 hl) λaI P1 K1=>?_
  exact h2 ws (put p os) aI m P1 (by exact bD (.l (.a .A (.m 5 (.a .B .C))) (.k 80000) (.l (.a .D (.k 5)) (.a (.a .A (.m 5 .B)) (.k 5)) (.g (.a .D (.m 5 .C)) (.k 80000)))) rfl b1 gp.2) (by exact aX (.l (.a .A (.m 10 (.a .B .C))) (.k 80000) (.g (.a .A (.m 10 .C)) (.k 80000))) rfl b2) λbU P2 K2=>q bU P2 (K1.trans K2)
theorem vg{d oa wa:Addr}{T:Nat->AH->Prop}(tn:yj d oa wa T){put:Nd->bY->bY}{k:Nat}(g:Grows put k):∀ps:List Nd,(∀p∈ps,Puts d oa wa T put p)->sz ps<=k->ps≠[]->
  ∃t,∀e e2 (x:Int) (js:List Nat) ws os σ m,PS σ d oa wa (ws++(bB e ps).reverse) os->σ e=some (.list [.int x,.lst e2])->σ e2=some (.list (js.map λj=>.int (j:Nat)))->(∀j∈js,j<os.length)->js.length<=os.length->e≠oa->e≠wa->e2≠oa->e2≠wa->e≠e2->
   os.length+5*sz ps+5*ps.length<=80005->ws.length+10*sz ps+5*ps.length<=80000->(∀af,PS af d oa wa ws (hW put ps os js)->Kept σ af [oa,wa,e,e2]->T m af)->T (m+t) σ
 | [],_,_,h=>absurd rfl h
 | [p],hp,hk,_=>by
  obtain⟨t1,h1⟩:=hp p (by exact .head _)
  refine⟨1+t1,λe e2 x js ws os σ m P se qG hj Qy n1 n2 n3 n4 n5 b1 b2 q=>?_⟩
  rw[cq]at b1 b2 hk;have gp:=g p os (by exact aH (.l (.a .A .Z) .B (.g .A .B)) rfl hk)
  have ek:(bB e [p]).reverse=[.meet e]++[.put p]:=rfl;rw[ek, <-List.append_assoc]at P;rw[<-Nat.add_assoc];refine h1 (ws++[.meet e]) os σ (m+1) P (by exact aH (.l (.a (.a .A (.m 5 (.a .B .Z))) (.m 5 (.a .Z .O))) (.k 80005) (.g (.a .A (.m 5 .B)) (.k 80000))) rfl b1) (by rw[qc];exact aH (.l (.a (.a .A (.m 10 (.a .B .Z))) (.m 5 (.a .Z .O))) (.k 80000) (.g (.a (.a .A .O) (.m 10 .B)) (.k 80000))) rfl b2) λaI P1 K1=>?_
  have Nb:=K1 _ _ se (J1 n1 n2);have Tf:=K1 _ _ qG (J1 n3 n4);exact tn.meet e e2 x js ws _ aI m P1 (by exact aX (.l (.a (.a .A (.m 5 (.a .B .Z))) (.m 5 (.a .Z .O))) (.k 80005) (.l (.a .C (.k 5)) (.a (.a .A (.m 5 .B)) (.k 5)) (.g .C (.k 90000)))) rfl b1 gp.2) (by exact aH (.l (.a (.a .A (.m 10 (.a .B .Z))) (.m 5 (.a .Z .O))) (.k 80000) (.g .A (.k 90000))) rfl b2) Nb Tf (λj h=>Nat.lt_of_lt_of_le (hj j h) gp.1) n1 n2 n3 n4 λbU P2 K2=>q bU P2 ((K1.trans K2).more (by intro x hx;simp at hx ⊢;rcases hx with h | h<;>simp[h]))
 | p::r::ps,hp,hk,_=>by
  obtain⟨t1,h1⟩:=hp p (by exact .head _)
  obtain⟨t2,h2⟩:=vg tn g (r::ps) (λq hq=>hp q (by simp at hq ⊢;exact .inr hq)) (by rw[cq]at hk;exact ES hk) (by exact List.cons_ne_nil _ _)
  refine⟨t2+1+t1+1,λe e2 x js ws os σ m P se qG hj Qy n1 n2 n3 n4 n5 b1 b2 q=>?_⟩
  rw[cq]at b1 b2 hk;rw[jJ]at q;have pp:=p.size_pos;have hl:(bB e (r::ps)).length<=3*(r::ps).length:=by
   have:∀l:List Nd,(bB e l).length<=3*l.length:=by
    intro l
    induction l with
    | nil=>exact Nat.zero_le _
    | cons a l ih=>cases l with
     | nil=>show 2<=3;decide
     | cons b l=>show(bB e (b::l)).length+1+1+1<=_;simp at ih ⊢;exact aH (.l .A (.m 3 (.a .B .O)) (.g (.a (.a (.a .A .O) .O) .O) (.m 3 (.a (.a .B .O) .O)))) rfl ih
   exact this _
  have gp:=g p (os++[none]) (by exact Cu hk)
  have ek:(bB e (p::r::ps)).reverse=((bB e (r::ps)).reverse++[.qm e]++[.put p])++[.CQ e]:=by
   show(WI.CQ e::.put p::.qm e::bB e (r::ps)).reverse=_;rw[List.reverse_cons,List.reverse_cons,List.reverse_cons]
  rw[ek, <-List.append_assoc]at P;simp only[List.length_append,List.length_cons,List.length_nil]at b1 b2 gp hl;have e0:m+(t2+1+t1+1)=m+t2+1+t1+1:=by exact Nat.le_antisymm (aX (.g (.a .A (.a (.a (.a .B .O) .C) .O)) (.a (.a (.a (.a .A .B) .O) .C) .O)) rfl) (aX (.g (.a (.a (.a (.a .A .B) .O) .C) .O) (.a .A (.a (.a (.a .B .O) .C) .O))) rfl)
  rw[e0];refine tn.CQ e e2 x _ os σ _ P (by exact bD (.l (.a (.a .A (.m 5 (.a .B .C))) (.m 5 (.a (.a .D .O) .O))) (.k 80005) (.g .A (.k 90000))) rfl b1) (by simp;exact gf (.l (.a (.a .A (.m 10 (.a .B .C))) (.m 5 (.a (.a .D .O) .O))) (.k 80000) (.l .E (.m 3 (.a .D .O)) (.g (.a .A (.a .E (.k 2))) (.k 90000)))) rfl b2 hl) se n1 n2 λaI P1 X8 K1=>?_
  have Tg:=K1 _ _ qG (Rt n3 n4 n5.symm);rw[<-List.append_assoc]at P1;refine h1 _ (os++[none]) aI _ P1 (by rw[qc];exact bD (.l (.a (.a .A (.m 5 (.a .B .C))) (.m 5 (.a (.a .D .O) .O))) (.k 80005) (.g (.a (.a .A .O) (.m 5 .B)) (.k 80000))) rfl b1) (by simp;exact gf (.l (.a (.a .A (.m 10 (.a .B .C))) (.m 5 (.a (.a .D .O) .O))) (.k 80000) (.l .E (.m 3 (.a .D .O)) (.g (.a (.a .A (.a .E .O)) (.m 10 .B)) (.k 80000)))) rfl b2 hl) λbU P2 K2=>?_
  have Nc:=K2 _ _ X8 (J1 n1 n2);have Th:=K2 _ _ Tg (J1 n3 n4);rw[<-List.append_assoc]at P2;refine tn.qm e e2 os.length js _ _ bU _ P2 (by exact gf (.l (.a .A (.k 5)) (.a (.a (.a .B (.a .Z .O)) (.m 5 .C)) (.k 5)) (.l (.a (.a .B (.m 5 (.a .C .D))) (.m 5 (.a (.a .E .O) .O))) (.k 80005) (.g .A (.k 90000)))) rfl gp.2 b1) (by simp;exact gf (.l (.a (.a .A (.m 10 (.a .B .C))) (.m 5 (.a (.a .D .O) .O))) (.k 80000) (.l .E (.m 3 (.a .D .O)) (.g (.a .A .E) (.k 90000)))) rfl b2 hl) (by exact gf (.l (.a (.a .A (.m 5 (.a .B .C))) (.m 5 (.a (.a .D .O) .O))) (.k 80005) (.l .E .A (.g .E (.k 90000)))) rfl b1 Qy) Nc Th (by exact aH (.l (.a .A (.a .Z .O)) .B (.b .A .B)) rfl gp.1) n1 n2 n3 n4 n5 λfE P3 Ti K3=>?_
  have To:=K3 _ _ Nc (Rt n1 n2 n5);refine h2 e e2 (os.length:Int) _ ws _ fE m P3 To Ti (λj LO=>?_) ?_ n1 n2 n3 n4 n5 ?_ (by simp;exact bD (.l (.a (.a .A (.m 10 (.a .B .C))) (.m 5 (.a (.a .D .O) .O))) (.k 80000) (.g (.a (.a .A (.m 10 .C)) (.m 5 (.a .D .O))) (.k 80000))) rfl b2) λki P4 K4=>q ki P4 ?_
  ·rw[List.length_set,List.length_append,List.length_singleton]
   rcases List.mem_append.mp LO with h | h
   ·have:=hj j h;exact aX (.l (.a .A (.a .Z .O)) .B (.t .C .A (.b .C (.a .B .O)))) rfl gp.1 this
   ·rw[List.mem_singleton]at h;exact aH (.e .A .B (.b .A (.a .B .O))) rfl h
  ·rw[List.length_set];simp;exact aX (.l (.a .A (.a .Z .O)) .B (.l .C .A (.g .C .B))) rfl gp.1 Qy
  ·rw[List.length_set];rw[qc];exact gf (.l (.a .A (.k 5)) (.a (.a (.a .B (.a .Z .O)) (.m 5 .C)) (.k 5)) (.l (.a (.a .B (.m 5 (.a .C .D))) (.m 5 (.a (.a .E .O) .O))) (.k 80005) (.g (.a (.a (.a .A .O) (.m 5 .D)) (.m 5 (.a .E .O))) (.k 80005)))) rfl gp.2 b1
  ·refine(((K1.more ?_).trans (K2.more ?_)).trans (K3.more ?_)).trans K4
   ·exact λx hx=>List.mem_append_left [_] hx
   ·exact λx hx=>List.mem_append_left [_,_] hx
   ·exact λx hx=>(List.mem_cons.mp hx).elim (λh=>h▸.head _) λh=>.tail _ ((List.mem_cons.mp h).elim (λh=>h▸.head _) λh=>.tail _ (.tail _ h))
theorem MV{d oa wa:Addr}{T:Nat->AH->Prop}(tn:yj d oa wa T)(ic:oa≠wa):∀k n,n.size<=k->n.size<=1000->n.text<=1000->Puts d oa wa T (putN k) n
 | 0,n,h,_,_=>by have:=n.size_pos;exact False.elim (xj this h)
 | k+1,n,h,hz,ht=>by
  have ih:=MV tn ic k;have g:=grows k;cases n with
  | cat a b=>
   have h1:=gK (.cat a b);have h2:=j5 (ah (.cat a b));have h3:=fe a;have h4:=fe b;have h5:(ah (.cat a b)).length=(ah a).length+(ah b).length:=by show(ah a++ah b).length=_;rw[List.length_append]
   have h6:=As (ah (.cat a b));rw[lh]at h6;obtain⟨t,ht⟩:=vh (d:=d) (oa:=oa) (wa:=wa) (T:=T) g (joined (ah (.cat a b))) (λp hp=>ih p (by have:=jG hp;exact IV (.e (.a .A .B) (.a .C .O) (.t .Z .D (.t .Z .E (.f .B (.a .E .D) (.l .C (.a .F .O) (.l .G .A (.l .H .G (.g .H .F)))))))) rfl h1 h4 h3 h5 h h2 this) (by have:=jG hp;exact qY (.e (.a .A .B) (.a .C .O) (.t .Z .D (.f .B (.a .E .D) (.l .C (.k 1000) (.l .F .A (.l .G .F (.g .G (.k 1000)))))))) rfl h1 h4 h5 hz h2 this) (by have:=xm hp;exact aX (.l .A (.k 1000) (.l .B .C (.l .C .A (.g .B (.k 1000))))) rfl ht this h6)) (by exact qY (.e (.a .A .B) (.a .C .O) (.t .Z .D (.t .Z .E (.f .B (.a .D .E) (.l .C (.a .F .O) (.l .G .A (.g .G .F))))))) rfl h1 h3 h4 h5 h h2)
   refine⟨t+1,λws os σ m P b1 b2 q=>?_⟩
   rw[<-Nat.add_assoc];refine tn.cat a b ws os σ (m+t) P hz (by assumption) (by exact xk b2) λaI P1 K1=>?_
   exact ht ws os aI m P1 (by exact qY (.l (.a .A (.m 5 .B)) (.k 80000) (.e2 5 (.a .C .D) (.a .B .O) (.t2 5 .Z .E (.f2 5 .D (.a .F .E) (.l2 5 .G .C (.g (.a .A (.m 5 .G)) (.k 80000))))))) rfl b1 h1 h4 h5 h2) (by exact qY (.l (.a .A (.m 10 .B)) (.k 80000) (.e2 10 (.a .C .D) (.a .B .O) (.t2 10 .Z .E (.f2 10 .D (.a .F .E) (.l2 10 .G .C (.g (.a .A (.m 10 .G)) (.k 80000))))))) rfl b2 h1 h4 h5 h2) λbU P2 K2=>q bU P2 (K1.trans K2)
  | alt a b=>
   have h1:=gJ (.alt a b);have h3:=gh a;have h4:=gh b;have h5:(aD (.alt a b)).length=(aD a).length+(aD b).length:=by show(aD a++aD b).length=_;rw[List.length_append]
   have h6:=xO (.alt a b);obtain⟨t,ht⟩:=vg tn g (aD (.alt a b)) (λp hp=>ih p (by have:=jG hp;exact qY (.e (.a .A .B) (.a .C .O) (.t .Z .D (.t .Z .E (.f .B (.a .E .D) (.l .C (.a .F .O) (.l .G .A (.g .G .F))))))) rfl h1 h4 h3 h5 h this) (by have:=jG hp;exact lZ (.e (.a .A .B) (.a .C .O) (.t .Z .D (.f .B (.a .E .D) (.l .C (.k 1000) (.l .F .A (.g .F (.k 1000))))))) rfl h1 h4 h5 hz this) (by have:=xm hp;exact aX (.e .A .B (.l .B (.k 1000) (.l .C .A (.g .C (.k 1000))))) rfl h6 ht this)) (by exact lZ (.e (.a .A .B) (.a .C .O) (.t .Z .D (.t .Z .E (.f .B (.a .D .E) (.l .C (.a .F .O) (.g .A .F)))))) rfl h1 h3 h4 h5 h) (by intro z;rw[z]at h5;simp at h5;exact aH (.t .Z .A (.f .Z (.a .A .B) (.z))) rfl h3 h5)
   refine⟨t+1,λws os σ m P b1 b2 q=>?_⟩
   rw[<-Nat.add_assoc];refine tn.alt a b ws os σ (m+t) P hz (by exact xk b2) λe e2 aI he jb ne P1 se qG K1=>?_
   have nn:∀{x:Addr},σ x=none->x≠oa/\x≠wa:=λ{x} hx=>⟨(λz=>by have:=P.cd.o;rw[<-z,hx]at this;cases this),(λz=>by have:=P.w;rw[<-z,hx]at this;cases this)⟩
   refine ht e e2 (-1) [] ws os aI m P1 se qG (by exact nofun) (by exact Nat.zero_le _) (nn he).1 (nn he).2 (nn jb).1 (nn jb).2 ne (by exact bD (.l (.a .A (.m 5 .B)) (.k 80000) (.e (.a .C .D) (.a .B .O) (.e (.a .C .D) (.a .B .O) (.e (.a .C .D) (.a .B .O) (.e (.a .C .D) (.a .B .O) (.e (.a .C .D) (.a .B .O) (.g (.a (.a .A (.m 5 .C)) (.m 5 .D)) (.k 80005)))))))) rfl b1 h1 h1 h1 h1 h1) (by exact RY b2 h1 h3 h4 h5) λbU P2 K2=>q bU P2 ?_
   intro x o ex nx;refine K2 x o (K1 x o ex nx) ?_;simp at nx ⊢;exact⟨nx.1,nx.2,(λz=>by rw[z,he]at ex;cases ex),(λz=>by rw[z,jb]at ex;cases ex)⟩
  | bo a=>
   have hs:(Nd.bo a).size=a.size+1:=rfl;have g1:=λos=>g a (os++[some (.split (os.length+2)),none,some .mark]) (by exact yQ hs h)
   obtain⟨t,ht⟩:=ih a (by exact yQ hs h) (by exact aH (.f .A (.a .B .O) (.l .A (.k 1000) (.g .B (.k 1000)))) rfl hs hz) ht
   refine⟨1+1+1+t+1,λws os σ m P b1 b2 q=>?_⟩
   have e0:m+(1+1+1+t+1)=m+1+1+1+t+1:=by exact Nat.le_antisymm (aH (.g (.a .A (.a (.a (.a (.a .O .O) .O) .B) .O)) (.a (.a (.a (.a (.a .A .O) .O) .O) .B) .O)) rfl) (aH (.g (.a (.a (.a (.a (.a .A .O) .O) .O) .B) .O) (.a .A (.a (.a (.a (.a .O .O) .O) .B) .O))) rfl)
   rw[e0];refine tn.bo a ws os σ _ P (by exact IM b1) (by exact xk b2) λe e2 aI he jb ne P1 se qG K1=>?_
   have nn:∀{x:Addr},σ x=none->x≠oa/\x≠wa:=λ{x} hx=>⟨(λz=>by have:=P.cd.o;rw[<-z,hx]at this;cases this),(λz=>by have:=P.w;rw[<-z,hx]at this;cases this)⟩
   have g2:=g1 os;have ew:ws++[.meet e,.emit (.bG os.length),.emit .dY,.put a]=(((ws++[.meet e])++[.emit (.bG os.length)])++[.emit .dY])++[WI.put a]:=by simp
   rw[ew]at P1;simp only[List.length_append,List.length_cons,List.length_nil]at g2;refine ht _ _ aI _ P1 (by simp;exact aX (.l (.a .A (.m 5 .B)) (.k 80000) (.f .B (.a .C .O) (.f .B (.a .C .O) (.f .B (.a .C .O) (.f .B (.a .C .O) (.f .B (.a .C .O) (.g (.a (.a .A (.k 3)) (.m 5 .C)) (.k 80000)))))))) rfl b1 hs hs hs hs hs) (by simp;exact aX (.l (.a .A (.m 10 .B)) (.k 80000) (.f2 10 .B (.a .C .O) (.g (.a (.a .A (.k 3)) (.m 10 .C)) (.k 80000)))) rfl b2 hs) λbU P2 K2=>?_
   refine tn.emit .dY _ _ bU _ P2 (by exact bD (.l (.a .A (.k 5)) (.a (.a (.a .B (.a (.a (.a .Z .O) .O) .O)) (.m 5 .C)) (.k 5)) (.l (.a .B (.m 5 .D)) (.k 80000) (.f2 5 .D (.a .C .O) (.g .A (.k 90000))))) rfl g2.2 b1 hs) (by simp;exact aH (.l (.a .A (.m 10 .B)) (.k 80000) (.g .A (.k 89998))) rfl b2) λfE P3 K3=>?_
   refine tn.emit (.bG os.length) _ _ fE _ P3 (by refine Cw ?_;exact bD (.l (.a .A (.k 5)) (.a (.a (.a .B (.a (.a (.a .Z .O) .O) .O)) (.m 5 .C)) (.k 5)) (.l (.a .B (.m 5 .D)) (.k 80000) (.f2 5 .D (.a .C .O) (.g .A (.k 89999))))) rfl g2.2 b1 hs) (by refine Cw ?_;exact aH (.l (.a .A (.m 10 .B)) (.k 80000) (.g .A (.k 89999))) rfl b2) λki P4 K4=>?_
   have KA:=(K2.trans K3).trans K4;have X9:=KA _ _ se (by simp[nn he])
   have Tn:=KA _ _ qG (by simp[nn jb])
   refine tn.meet e e2 _ [os.length+1] ws _ ki m P4 (by simp;exact bD (.l (.a .A (.k 5)) (.a (.a (.a .B (.a (.a (.a .Z .O) .O) .O)) (.m 5 .C)) (.k 5)) (.l (.a .B (.m 5 .D)) (.k 80000) (.f2 5 .D (.a .C .O) (.g .A (.k 89998))))) rfl g2.2 b1 hs) (by exact xk b2) X9 Tn (by simp;exact aH (.l (.a .A (.a (.a (.a .Z .O) .O) .O)) .B (.b .A (.a .B .O))) rfl g2.1) (nn he).1 (nn he).2 (nn jb).1 (nn jb).2 λmK P5 K5=>q mK ?_ ((K1.trans KA).trans K5)
   have e5:putN (k+1) (.bo a) os=cM (putN k a (os++[some (.split (os.length+2)),none,some .mark])++[some .dY]++[some (.bG os.length)]) [os.length+1]:=by
    show List.set _ _ _=List.set _ _ _;simp
   rw[e5];exact P5
  | nm b a r=>
   have hs:(Nd.nm b a r).size=a.size+1:=rfl;have g1:=λos=>g a (os++[some .mark]) (by exact yQ hs h)
   obtain⟨t,ht⟩:=ih a (by exact yQ hs h) (by exact aH (.f .A (.a .B .O) (.l .A (.k 1000) (.g .B (.k 1000)))) rfl hs hz) ht
   refine⟨1+t+1,λws os σ m P b1 b2 q=>?_⟩
   have e0:m+(1+t+1)=m+1+t+1:=by exact Nat.le_antisymm (aH (.g (.a .A (.a (.a .O .B) .O)) (.a (.a (.a .A .O) .B) .O)) rfl) (aH (.g (.a (.a (.a .A .O) .B) .O) (.a .A (.a (.a .O .B) .O))) rfl)
   rw[e0];refine tn.nm b a r ws os σ _ P (by exact IM b1) (by exact xk b2) λaI P1 K1=>?_
   have g2:=g1 os;have ew:ws++[.emit (.nm b r),.put a]=(ws++[.emit (.nm b r)])++[WI.put a]:=by exact(List.append_assoc _ [_] _).symm
   rw[ew]at P1;simp only[List.length_append,List.length_cons,List.length_nil]at g2;refine ht _ _ aI _ P1 (by rw[qc];exact aX (.l (.a .A (.m 5 .B)) (.k 80000) (.f .B (.a .C .O) (.f .B (.a .C .O) (.f .B (.a .C .O) (.f .B (.a .C .O) (.f .B (.a .C .O) (.g (.a (.a .A .O) (.m 5 .C)) (.k 80000)))))))) rfl b1 hs hs hs hs hs) (by rw[qc];exact aX (.l (.a .A (.m 10 .B)) (.k 80000) (.f2 10 .B (.a .C .O) (.g (.a (.a .A .O) (.m 10 .C)) (.k 80000)))) rfl b2 hs) λbU P2 K2=>?_
   exact tn.emit (.nm b r) _ _ bU _ P2 (by exact bD (.l (.a .A (.k 5)) (.a (.a (.a .B (.a .Z .O)) (.m 5 .C)) (.k 5)) (.l (.a .B (.m 5 .D)) (.k 80000) (.f2 5 .D (.a .C .O) (.g .A (.k 90000))))) rfl g2.2 b1 hs) (by exact xk b2) λfE P3 K3=>q fE P3 ((K1.trans K2).trans K3)
  | leaf l=>exact⟨1,λws os σ m P b1 b2 q=>tn.leaf _ _ ws os σ m rfl P (by exact IM b1) (by exact xk b2) q⟩
end
section
theorem pD(e:Addr):∀l:List Nd,(bB e l).length<=3*l.length
 | []=>by exact Nat.le_refl _
 | [p]=>by exact Nat.le_succ 2
 | p::q::l=>by have:=pD e (q::l);show(bB e (q::l)).length+1+1+1<=_;simp at this ⊢;exact aH (.l .A (.m 3 (.a .B .O)) (.g (.a (.a (.a .A .O) .O) .O) (.m 3 (.a (.a .B .O) .O)))) rfl this
theorem PS.pop{σ:AH}{d oa wa:Addr}{ws:List WI}{i:WI}{os:bY}(P:PS σ d oa wa (ws++[i]) os)(h1:oa≠wa):PS (σ.put wa (.list (ws.map WI.v))) d oa wa ws os:=
 ⟨P.cd.other (P.ne h1) h1,AH.aa _ _ _⟩
theorem PS.top{σ:AH}{d oa wa:Addr}{ws:List WI}{i:WI}{os:bY}(P:PS σ d oa wa (ws++[i]) os):σ wa=some (.list (ws.map WI.v++[i.v])):=by rw[P.w];exact J3.symm
section
variable{σ:AH}{Q:V->AH->Prop}{d oa:Addr}{os:bY}
theorem xE{n:NX}{env:Env}{ρ:Loc}{σ:AH}{Q:Fl->Loc->AH->Prop}{test:Expr}{body orelse:List Stmt}{pos:Pos}(h:∃k,JK n env test body orelse Q k ρ σ):oq n env (.While test body orelse pos) ρ σ Q:=by
 obtain⟨k,h⟩:=h;exact xF k h
theorem mE{n:NX}{env:Env}{ρ:Loc}{σ:AH}{Q:Fl->Loc->AH->Prop}{test:Expr}{body orelse:List Stmt}{k:Nat}(h:Test n env test ρ σ (λb bJ aI=>if b=true then b8 n env body bJ aI (DJ (JK n env test body orelse Q k) Q) else b8 n env orelse bJ aI Q)):JK n env test body orelse Q (k+1) ρ σ:=h
structure HB(d oa wa:Addr)(T:Nat->AH->Prop):Prop where
 put:∀nd ws os σ m (R:List WI->bY->AH->Prop),PS σ d oa wa (ws++[.put nd]) os->ws.length<=90000->
  (∀Q':V->AH->Prop,(∀a items fi af,af a=some (.list (items.map WI.v))->items.length<=9000->a≠wa->dH af d oa fi->af wa=some (.list (ws.map WI.v))->R items fi af->Q' (.lst a) af)->aU 3 (.ref 70) [.inst 94 d,nd.v] (σ.put wa (.list (ws.map WI.v))) Q')->
  (∀items fi af i4,R items fi af->PS i4 d oa wa (ws++items.reverse) fi->Kept af i4 [wa]->T m i4)->T (m+1) σ
 emit:∀o ws os σ m,PS σ d oa wa (ws++[.emit o]) os->os.length<=90000->ws.length<=90000->(∀af,PS af d oa wa ws (os++[some o])->Kept σ af [oa,wa]->T m af)->T (m+1) σ
 bound:∀(i:WI)(word:Str)(e:Addr) ws os σ m (R:bY->AH->Prop),i.v=.tup [.str word,.lst e]->(word==("put":Str))=false->(word==("emit":Str))=false->PS σ d oa wa (ws++[i]) os->ws.length<=90000->
  (∀Q':V->AH->Prop,(∀fi af,dH af d oa fi->af wa=some (.list (ws.map WI.v))->R fi af->Q' .none af)->aU 3 (.ref 91) [.inst 94 d,.str word,.lst e] (σ.put wa (.list (ws.map WI.v))) Q')->
  (∀fi af,R fi af->PS af d oa wa ws fi->T m af)->T (m+1) σ
theorem Kept.Nq{σ af i4:AH}{wa oa:Addr}{o:AO}(K:Kept (σ.put wa o) af [oa])(K2:Kept af i4 [wa]):Kept σ i4 [oa,wa]:=λb p e n=>by
 simp at n;refine K2 b p (K b p ?_ (by simpa using n.1)) (by simpa using n.2)
 rw[AH.ae _ _ n.2];exact e
theorem Kept.wa{σ af:AH}{D:List Addr}{wa:Addr}{o:AO}(K:Kept (σ.put wa o) af D)(h:wa∉D):af wa=some o:=K _ _ (AH.aa _ _ _) h
theorem Kept.cd{σ af:AH}{d oa:Addr}{os:bY}(K:Kept σ af [])(C:dH σ d oa os):dH af d oa os:=⟨K _ _ C.h (by exact nn),K _ _ C.o (by exact nn)⟩
theorem da{σ:AH}{wa a:Addr}{o:AO}(h:(σ.put wa o) a=none):a≠wa:=λz=>by rw[z,AH.aa]at h;cases h
theorem Df{wa:Addr}{T:Nat->AH->Prop}(ic:oa≠wa)(t0:HB d oa wa T):yj d oa wa T where
 leaf:=λn o ws os σ m h P b1 b2 q=>by
  have C1:=(P.pop ic).cd;refine t0.put n ws os σ m (λitems fi af=>items=[]/\fi=os++[some o]/\Kept (σ.put wa (.list (ws.map WI.v))) af [oa]) P b2 (λQ' hq=>?_) ?_
  ·have JV:∀a af,(σ.put wa (.list (ws.map WI.v))) a=none->af a=some (.list [])->dH af d oa (os++[some o])->Kept (σ.put wa (.list (ws.map WI.v))) af [oa]->Q' (.lst a) af:=λa af ha sa C2 K=>hq a [] _ af sa (by exact Nat.zero_le _) (da ha) C2 (K.wa (by simpa using Ne.symm ic)) ⟨rfl,rfl,K⟩
   cases n<;>(simp only[yP]at h;cases h);exact tH _ C1 b1 JV
  ·rintro items fi af i4 ⟨rfl,rfl,K⟩ P2 K2
   exact q i4 (by simpa using P2) (K.Nq K2)
 cat:=λx y ws os σ m P hz ht b2 q=>by
  have h1:=gK (.cat x y);have h3:=lh (.cat x y);have h4:=Ap (ah (.cat x y));have h5:=pY (ah (.cat x y));have h6:(ah (.cat x y)).length<=sz (ah (.cat x y)):=eW _;have C1:=(P.pop ic).cd;refine t0.put _ ws os σ m (λitems fi af=>items=(joined (ah (.cat x y))).map WI.put/\fi=os/\Kept (σ.put wa (.list (ws.map WI.v))) af []) P b2 (λQ' hq=>?_) ?_
  ·exact vN hz (by exact aX (.e .A .B (.l .B (.k 1000) (.l .C .A (.g .C (.k 1000))))) rfl h3 ht h4) (by exact ML h1 hz h6) λa af ha sa K=>hq a _ os af sa (by refine qE ?_;exact bD (.e (.a .A .B) (.a .C .O) (.l .C (.k 1000) (.l .D .B (.g .D (.k 9000))))) rfl h1 hz h5) (da ha) (K.cd C1) (K.wa (by exact nn)) ⟨rfl,rfl,K⟩
  ·rintro items fi af i4 ⟨rfl,rfl,K⟩ P2 K2
   exact q i4 P2 (Kept.Nq (K.to) K2)
 alt:=λx y ws os σ m P hz b2 q=>by
  have h1:=gJ (.alt x y);have h6:(aD (.alt x y)).length<=sz (aD (.alt x y)):=eW _;have C1:=(P.pop ic).cd;refine t0.put _ ws os σ m (λitems fi af=>∃e e2,(σ.put wa (.list (ws.map WI.v))) e=none/\(σ.put wa (.list (ws.map WI.v))) e2=none/\e≠e2/\items=bB e (aD (.alt x y))/\fi=os/\af e=some (.list [.int (-1),.lst e2])/\af e2=some (.list [])/\Kept (σ.put wa (.list (ws.map WI.v))) af []) P b2 (λQ' hq=>?_) ?_
  ·refine vM hz (by exact ML h1 hz h6) C1 λa e e2 af ha he jb ne sa se qG K=>hq a _ os af sa ?_ (da ha) (K.cd C1) (K.wa (by exact nn)) ⟨e,e2,he,jb,ne,rfl,rfl,se,qG,K⟩
   have:=pD e (aD (.alt x y));exact bD (.e (.a .A .B) (.a .C .O) (.e (.a .A .B) (.a .C .O) (.l .D (.m 3 .B) (.l .C (.k 1000) (.l .C (.k 1000) (.l .B .A (.g .D (.k 9000)))))))) rfl h1 h1 this hz hz h6
  ·rintro items fi af i4 ⟨e,e2,he,jb,ne,rfl,rfl,se,qG,K⟩ P2 K2
   exact q e e2 i4 (AH.aT he) (AH.aT jb) ne P2 (K2 _ _ se (by simpa using da he)) (K2 _ _ qG (by simpa using da jb)) (Kept.Nq (K.to) K2)
 bo:=λn ws os σ m P b1 b2 q=>by
  have C1:=(P.pop ic).cd;refine t0.put _ ws os σ m (λitems fi af=>∃e e2,(σ.put wa (.list (ws.map WI.v))) e=none/\(σ.put wa (.list (ws.map WI.v))) e2=none/\e≠e2/\items=[.put n,.emit .dY,.emit (.bG os.length),.meet e]/\fi=os++[some (.split (os.length+2)),none,some .mark]/\af e=some (.list [.int os.length,.lst e2])/\af e2=some (.list [.int ((os.length+1:Nat):Int)])/\Kept (σ.put wa (.list (ws.map WI.v))) af [oa]) P b2 (λQ' hq=>?_) ?_
  ·exact rh C1 b1 λa e e2 af ha he jb ne sa se qG C2 K=>hq a _ _ af sa (by exact Nat.le_add_left _ _) (da ha) C2 (K.wa (by simpa using Ne.symm ic)) ⟨e,e2,he,jb,ne,rfl,rfl,se,qG,K⟩
  ·rintro items fi af i4 ⟨e,e2,he,jb,ne,rfl,rfl,se,qG,K⟩ P2 K2
   exact q e e2 i4 (AH.aT he) (AH.aT jb) ne P2 (K2 _ _ se (by simpa using da he)) (K2 _ _ qG (by simpa using da jb)) (K.Nq K2)
 nm:=λb n r ws os σ m P b1 b2 q=>by
  have C1:=(P.pop ic).cd;refine t0.put _ ws os σ m (λitems fi af=>items=[.put n,.emit (.nm b r)]/\fi=os++[some .mark]/\Kept (σ.put wa (.list (ws.map WI.v))) af [oa]) P b2 (λQ' hq=>?_) ?_
  ·exact xQ C1 b1 λa af ha sa C2 K=>hq a _ _ af sa (by exact Nat.le_add_left _ _) (da ha) C2 (K.wa (by simpa using Ne.symm ic)) ⟨rfl,rfl,K⟩
  ·rintro items fi af i4 ⟨rfl,rfl,K⟩ P2 K2
   exact q i4 P2 (K.Nq K2)
 emit:=t0.emit
 CQ:=λe e2 x ws os σ m P b1 b2 se n1 n2 q=>by
  have C1:=(P.pop ic).cd;refine t0.bound (.CQ e) "open" e ws os σ m (λfi af=>fi=os++[none]/\af e=some (.list [.int os.length,.lst e2])/\Kept σ af [oa,wa,e]) rfl (by decide) (by decide) P b2 (λQ' hq=>?_) ?_
  ·refine(tJ C1 (by exact DD b1) (by rw[AH.ae _ _ n2];exact se) (Ne.symm n1) ?_).less (by decide)
   refine hq _ _ ⟨?_,?_⟩ ?_ ⟨rfl,AH.aa _ _ _,((Kept.put (by exact .tail _ (.head _))).trans (Kept.put (by exact .head _))).trans (Kept.put (by exact .tail _ (.tail _ (.head _))))⟩
   ·rw[AH.ae _ _ (λz=>by have:=C1.h;rw[z,AH.ae _ _ n2,se]at this;cases this),AH.ae _ _ C1.ne];exact C1.h
   ·rw[AH.ae _ _ (Ne.symm n1)];exact AH.aa _ _ _
   ·rw[AH.ae _ _ (Ne.symm n2),AH.ae _ _ (Ne.symm ic)];exact AH.aa _ _ _
  ·rintro fi af ⟨rfl,Nb,K⟩ P2
   exact q af P2 Nb K
 qm:=λe e2 k js ws os σ m P b1 b2 b3 se qG hk n1 n2 n3 n4 n5 q=>by
  have C1:=(P.pop ic).cd;have Vi:d≠e2:=λz=>by have:=P.cd.h;rw[z,qG]at this;cases this
  refine t0.bound (.qm e) "shut" e ws os σ m (λfi af=>fi=(os++[none]).set k (some (.split (os.length+1)))/\af e2=some (.list ((js++[os.length]).map λj=>.int (j:Nat)))/\Kept σ af [oa,wa,e2]) rfl (by decide) (by decide) P b2 (λQ' hq=>?_) ?_
  ·refine(tK C1 b1 (by rw[AH.ae _ _ n2];exact se) (by rw[AH.ae _ _ n4];exact qG) (by refine qE ?_;exact DD b3) hk (Ne.symm n1) (Ne.symm n3) n5 Vi ?_).less (by decide)
   refine hq _ _ ⟨?_,AH.aa _ _ _⟩ ?_ ⟨rfl,?_,(((Kept.put (by exact .tail _ (.head _))).trans (Kept.put (by exact .head _))).trans (Kept.put (by exact .tail _ (.tail _ (.head _))))).trans (Kept.put (by exact .head _))⟩
   ·rw[AH.ae _ _ C1.ne,AH.ae _ _ Vi,AH.ae _ _ C1.ne];exact C1.h
   ·rw[AH.ae _ _ (Ne.symm ic),AH.ae _ _ (Ne.symm n4),AH.ae _ _ (Ne.symm ic)];exact AH.aa _ _ _
   ·rw[AH.ae _ _ n3,AH.aa];exact J3
  ·rintro fi af ⟨rfl,Nb,K⟩ P2
   exact q af P2 Nb K
 meet:=λe e2 x js ws os σ m P b1 b2 se qG hj n1 n2 n3 n4 q=>by
  have C1:=(P.pop ic).cd;refine t0.bound (.meet e) "meet" e ws os σ m (λfi af=>fi=cM os js/\Kept σ af [oa,wa]) rfl (by decide) (by decide) P b2 (λQ' hq=>?_) ?_
  ·refine(tI C1 b1 (by rw[AH.ae _ _ n2];exact se) (by rw[AH.ae _ _ n4];exact qG) hj (Ne.symm n1) (Ne.symm n3) λaf C2 K=>?_).less (by decide)
   exact hq _ _ C2 (K.wa (by simpa using Ne.symm ic)) ⟨rfl,(Kept.put (by exact .tail _ (.head _))).trans (K.more (by simp))⟩
  ·rintro fi af ⟨rfl,K⟩ P2
   exact q af P2 K
def KC(d wa:Addr)(ρ:Loc):Prop:=at_ ρ "self"=some (.inst 94 d)/\at_ ρ "waiting"=some (.lst wa)
def VT(d wa:Addr)(W:Nat->Loc->AH->Prop):Nat->AH->Prop:=λm af=>∀ρ,KC d wa ρ->W m ρ af
set_option tactic.hygienic true in
theorem Nv{n:Nd}(C:dH σ d oa os)(hz:n.size<=1000)(ht:n.text<=1000)(hl:os.length<=1000)(q:∀af,dH af d oa (putN n.size n os)->Kept σ af [oa]->Q .none af):aU 5 (.ref 65) [.inst 94 d,n.v] σ Q:=by
 have co:=(bL).1;refine aC (lr) rfl λL=>?_
 kcf_m
 (refine au (aA ?_ rfl rfl))
 refine aW ?_;kd_p;refine aq rfl ?_;kd_p;intro wa zO;kd_p;have n1:oa≠wa:=λz=>by have:=C.o;rw[z,zO]at this;cases this
 have P0:PS (σ.put wa (.list [(WI.put n).v])) d oa wa ([]++[.put n]) os:=⟨C.new zO,AH.aa _ _ _⟩;refine xE ?_;have key:∀{T:Nat->AH->Prop},yj d oa wa T->(∀af,PS af d oa wa [] (putN n.size n os)->Kept σ af [oa]->T 1 af)->∃k,T k (σ.put wa (.list [(WI.put n).v])):=by
  intro T tn fin;obtain⟨t,h⟩:=MV tn n1 n.size n (Nat.le_refl _) hz ht;exact⟨1+t,h [] os _ 1 P0 (by exact aH (.l .A (.k 1000) (.l .B (.k 1000) (.l .B (.k 1000) (.l .B (.k 1000) (.l .B (.k 1000) (.l .B (.k 1000) (.g (.a .A (.m 5 .B)) (.k 80000)))))))) rfl hl hz hz hz hz hz) (by simp;exact aG (.l2 10 .A (.k 1000) (.g (.m 10 .A) (.k 80000))) rfl hz) λaf P1 K1=>fin af P1 λb o eb nb=>by
   refine K1 b o ?_ ?_
   ·rw[AH.ae _ _ (by exact ne_sn eb zO)];exact eb
   ·simp at nb ⊢;exact⟨nb,λz=>by rw[z,zO]at eb;cases eb⟩⟩
 have fin2:∀{W:Nat->Loc->AH->Prop}{ρ:Loc}{ba:AH},KC d wa ρ->(∃k,VT d wa W k ba)->∃k,W k ρ ba:=by
  rintro W ρ ba hl ⟨k,h⟩;exact⟨k,h ρ hl⟩
 refine fin2 ⟨by rfl,by rfl⟩ (key (Df n1 ⟨?put,?emit,?bound⟩) ?fin)
 case fin=>
  rintro af P1 K1 ρ ⟨l1,l2⟩;refine mE ?_;kd_p;refine bh ?_;kd_p;refine aN P1.w (by exact Nat.zero_le _) ?_
  kd_p;exact q af P1.cd K1
 case emit=>
  intro o ws os σ m P h1 h2 q ρ hl;have Er:=hl;obtain⟨l1,l2⟩:=hl;have et:σ wa=some (.list (ws.map WI.v++[.tup [.str "emit",o.v]])):=P.top;have P2:=P.pop n1;refine mE ?_;kd_p;refine bh ?_;kd_p;refine aN P.w (by refine G9 ?_;exact Ct h2) ?_
  kd_p
  try refine ite_tt (by exact CV) ?_
  kd_p
  (refine ag ?_)
  refine aB ?_;kd_p;refine⟨_,bw PySem.F.slot_list_pop PySem.F.type_list_pop et,az,?_⟩;kd_p;refine gy et (by refine qE ?_;exact IP h2) ?_
  kd_p;refine aq rfl ?_;kd_p;refine aq rfl ?_;kd_p;refine aB ?_;kd_p;refine⟨_,a9 co (aL) (ak).1 P2.cd.h rfl,(ak).2,?_⟩;kd_p;refine aU.call ((ib P2.cd (by exact DD h1) (some o) ?_).less (by decide))
  kd_p;exact q _ ⟨P2.cd.put _,by rw[AH.ae _ _ (Ne.symm n1)];exact P2.w⟩ ((Kept.put (by exact .tail _ (.head _))).trans (Kept.put (by exact .head _))) _ ⟨by wtm_at "a",by wtm_at "a"⟩
 case put=>
  intro nd ws os σ m R P h2 hB q ρ hl;obtain⟨l1,l2⟩:=hl;have et:σ wa=some (.list (ws.map WI.v++[.tup [.str "put",nd.v]])):=P.top;have P2:=P.pop n1;refine mE ?_;kd_p;refine bh ?_;kd_p;refine aN P.w (by refine G9 ?_;exact Ct h2) ?_
  kd_p
  try refine ite_tt (by exact CV) ?_
  kd_p
  (refine ag ?_)
  refine aB ?_;kd_p;refine⟨_,bw PySem.F.slot_list_pop PySem.F.type_list_pop et,az,?_⟩;kd_p;refine gy et (by refine qE ?_;exact IP h2) ?_
  kd_p;refine aq rfl ?_;kd_p;refine aB ?_;kd_p;refine⟨_,bw PySem.F.slot_list_extend PySem.F.type_list_extend P2.w,az,?_⟩;refine cO ?_;refine BD ?_;refine aB ?_;kd_p;refine⟨_,a9 co (j7) (fY).1 P2.cd.h rfl,(fY).2,?_⟩;kd_p;refine aU.call ((hB _ ?_).less (by decide))
  intro a items fi af sa hi na C2 sw r;kd_p;refine qf ?_;kd_p;refine Jo sa (by refine qE ?_;exact aG (.l .A (.k 9000) (.g .A (.k 1000000))) rfl hi) ?_
  intro b hb;have nb:wa≠b:=λz=>by rw[<-z,sw]at hb;cases hb
  refine jw (by rw[AH.ae _ _ nb];exact sw) (AH.aa _ _ _) (by refine qE ?_;exact DD h2) (by simp;exact aG (.l .A (.k 9000) (.g .A (.k 100000))) rfl hi) ?_
  kd_p;have C3:=C2.new (o:=.list (items.map WI.v).reverse) hb;refine q items fi af _ r ⟨C3.other ?_ n1,?_⟩ ((Kept.new hb).trans (Kept.put (by exact .head _))) _ ⟨by wtm_at "a",by wtm_at "a"⟩
  ·exact P.ne n1
  ·rw[AH.aa];simp
 case bound=>
  intro i word e ws os σ m R ei Xd w6 P h2 hB q ρ hl;obtain⟨l1,l2⟩:=hl;have et:σ wa=some (.list (ws.map WI.v++[.tup [.str word,.lst e]])):=by rw[<-ei];exact P.top
  have P2:=P.pop n1;refine mE ?_;kd_p;refine bh ?_;kd_p;refine aN P.w (by refine G9 ?_;exact Ct h2) ?_
  kd_p
  try refine ite_tt (by exact CV) ?_
  kd_p
  (refine ag ?_)
  refine aB ?_;kd_p;refine⟨_,bw PySem.F.slot_list_pop PySem.F.type_list_pop et,az,?_⟩;kd_p;refine gy et (by refine qE ?_;exact IP h2) ?_
  kd_p;refine aq rfl ?_;kd_p
  try refine ite_ff Xd ?_
  kd_p;refine aq rfl ?_;kd_p
  try refine ite_ff w6 ?_
  kd_p;refine aB ?_;kd_p;refine⟨_,a9 co (j8) (fZ).1 P2.cd.h rfl,(fZ).2,?_⟩;kd_p;refine aU.call ((hB _ ?_).less (by decide))
  intro fi af C2 sw r;kd_p;exact q fi af r ⟨C2,sw⟩ _ ⟨by wtm_at "a",by wtm_at "a"⟩
end
end
section
noncomputable def Ord.eU:Ord->Bool | .bG _=>true | _=>false
noncomputable def resolve(os:List Ord):Nat->Nat->Nat
 | 0,g=>g
 | k+1,g=>match os[g]? with | some (.bG g')=>resolve os k g' | _=>g
def cF(os:List Ord)(g:Nat):Prop:=∃f o,os[resolve os f g]? =some o/\o.eU=false
noncomputable def dF(os:List Ord)(g:Nat):Nat:= @dite _ (cF os g) (Classical.propDecidable _) (λh=>resolve os (Classical.choose h) g) (λ_=>g)
theorem kN{os:List Ord}{g:Nat}(h:cF os g):∃f o,dF os g=resolve os f g/\os[resolve os f g]? =some o/\o.eU=false:=by
 obtain⟨o,h1,h2⟩:=Classical.choose_spec h;exact⟨_,o,by unfold dF;rw[dif_pos h],h1,h2⟩
noncomputable def cC(os:List Ord):Ord->Ord
 | .bG g=>.bG (dF os g)
 | .split g=>.split (dF os g)
 | o=>o
noncomputable def Ord.goal:Ord->Option Nat
 | .bG g=>some g
 | .split g=>some g
 | .leaf _=>none | .mark=>none | .nm .. =>none | .dY=>none | .done=>none
noncomputable def RF(s:Str):Bool:= !(s==("jump":Str)) && !([("jump":Str),"split"].contains s) && !(s==("done":Str))
theorem EH(l:Lf):RF l.MF=true:=by
 cases l with
 | bM k=>cases k<;>rfl
 | _=>rfl
theorem pZ(l:Lf):(l.MF==("jump":Str))=false/\([("jump":Str),"split"].contains l.MF)=false/\(l.MF==("done":Str))=false:=by
 have h3:=bH (EH l);have h2:=bH h3.1;exact⟨nB h2.1,nB h2.2,nB h3.2⟩
set_option tactic.hygienic true in
theorem CR(o:Ord):(o.goal=none/\([("jump":Str),"split"].contains o.kind)=false)\/∃g,o.goal=some g/\([("jump":Str),"split"].contains o.kind)=true/\o.args=[.int g]:=by
 cases o with
 | bG g=>exact .inr ⟨g,rfl,rfl,rfl⟩
 | split g=>exact .inr ⟨g,rfl,rfl,rfl⟩
 | leaf l=>exact .inl ⟨rfl,(pZ l).2.1⟩
 | nm b r=>cases b<;>exact .inl ⟨rfl,rfl⟩
 | _=>exact .inl ⟨rfl,rfl⟩
set_option tactic.hygienic true in
theorem zW(o:Ord):(o.eU=false/\(o.kind==("jump":Str))=false)\/∃g,o=.bG g:=by
 cases o with
 | bG g=>exact .inr ⟨g,rfl⟩
 | leaf l=>exact .inl ⟨rfl,(pZ l).1⟩
 | nm b r=>cases b<;>exact .inl ⟨rfl,rfl⟩
 | _=>exact .inl ⟨rfl,rfl⟩
theorem xI{os:List Ord}{o:Ord}{g:Nat}(h:o.goal=some g):(cC os o).v=.tup [.str o.kind,.int ((dF os g:Nat):Int)]:=by
 cases o<;>cases h<;>rfl
theorem rg{os:List Ord}{o:Ord}(h:o.goal=none):cC os o=o:=by cases o<;>first | rfl | cases h
section
variable{σ:AH}{Q:V->AH->Prop}
end
namespace dW
@[reducible] noncomputable def P(σ:AH)(Q:V->AH->Prop)(a:Addr)(os:List Ord):Prop:=∀(ha:σ a=some (.list (os.map Ord.v)))(hl:os.length<=90000)(hr:∀o∈os,∀g,o.goal=some g->cF os g)(q:∀b af,σ b=none->af b=some (.list ((os.map (cC os)).map Ord.v))->Kept σ af []->Q (.lst b) af),aU 1 (.ref 105) [.lst a] σ Q
noncomputable def Q_:=UU λσ=>UU λQ=>UU (P σ Q)
noncomputable def x_:=xx Q_ ((λ_=>none),(λ_ _=>True),(0:Nat),[])
def σ:=x_.1
def Q:=x_.2.1
def a:=x_.2.2.1
def os:=x_.2.2.2
set_option tactic.hygienic true in
theorem go:P σ Q a os:=by
 intro ha hl hr q;refine aC (o8) rfl λL=>?_
 kcf_m
 (refine au (aA ?_ rfl rfl))
 refine aW ?_;kd_p;intro fa jc;have Xv:a≠fa:=λe=>by rw[<-e,ha]at jc;cases jc
 kd_p;refine fW ?_;kd_p;refine⟨_,_,dN (by rw[AH.ae _ _ Xv];exact ha),?_⟩
 refine dM (λvs ρ af=>NF λ(ds:List Ord)(rs:List Ord)=>OZ (os=ds++rs) (vs=rs.map Ord.v) (af fa=some (.list ((ds.map (cC os)).map Ord.v))) (Kept σ af []) (at_ ρ "found"=some (.lst fa)) (at_ ρ "orders"=some (.lst a))) ?_ ?_ ?_ _ _ _ ?_
 ·rintro vs ρ aI ⟨ds,rs,e1,e2,e3,K,l1,l2⟩
  exact K _ _ ha (by exact nn)
 ·rintro v vs ρ aI ⟨ds,rs,e1,e2,e3,K,l1,l2⟩
  cases rs with
  | nil=>cases e2
  | cons o rs=>
   rw[List.map_cons,List.cons.injEq]at e2;obtain⟨rfl,rfl⟩:=e2;have BN:((ds.map (cC os)).map Ord.v).length<=1000000:=by have:=congrArg List.length e1;simp at this ⊢;exact aX (.f .A (.a .B (.a .C .O)) (.l .A (.k 90000) (.g .B (.k 1000000)))) rfl this hl
   have Dv:os=(ds++[o])++rs:=by rw[e1];exact(List.append_assoc _ [_] _).symm
   have ho:o∈os:=by rw[e1];exact iy
   have Ux:=K _ _ ha (by exact nn)
   rcases CR o with ⟨h1,h2⟩ | ⟨g,h1,h2,h3⟩
   ·rw[o.v_eq]
    kd_p;refine aq rfl ?_;kd_p;refine aq rfl ?_;kd_p;refine bF (l:=["jump","split"]) ?_;kd_p
    try refine ite_ff h2 ?_
    kd_p;refine aB ?_;kd_p;refine⟨_,bw PySem.F.slot_list_append PySem.F.type_list_append e3,az,?_⟩;kd_p;refine aZ e3 BN ?_;kd_p;refine⟨ds++[o],rs,Dv,rfl,?_,K.xt jc,by wtm_at "a",by wtm_at "a"⟩
    rw[AH.aa];simp[rg h1, <-o.v_eq]
   ·rw[o.v_eq,h3]
    kd_p;refine aq rfl ?_;kd_p;refine aq rfl ?_;kd_p;refine bF (l:=["jump","split"]) ?_;kd_p
    try refine ite_tt h2 ?_
    kd_p
    (refine aA ?_ rfl rfl)
    kd_p;obtain⟨F0,o2,eF,zN,Qx⟩:=kN (hr o ho g h1);rw[<-eF]at zN;refine eE (λk ρ af=>af=aI/\∃g',resolve os k g'=dF os g/\at_ ρ "goal"=some (.int (g':Nat))/\at_ ρ "found"=some (.lst fa)/\at_ ρ "orders"=some (.lst a)/\at_ ρ "order"=some (.tup [.str o.kind,.int g])) F0 ⟨rfl,g,eF.symm,by wtm_at "a",by wtm_at "a",by wtm_at "a",by wtm_at "a"⟩ ?_
    rintro k d5 _ ⟨rfl,g',hg,l3,l4,l5,l6⟩;have step:∀p:Ord,os[g']? =some p->∀(P:Prop),(p.eU=false->(p.kind==("jump":Str))=false->g'=dF os g->P)->(∀g2 k2,k=k2+1->p=.bG g2->resolve os k2 g2=dF os g->P)->P:=by
     intro p hp P h1 h2;rcases zW p with ⟨j1,j2⟩ | ⟨g2,rfl⟩
     ·refine h1 j1 j2 ?_
      cases k with
      | zero=>exact hg
      | succ k=>rw[<-hg];show _=(match os[g']? with | some (.bG g')=>resolve os k g' | _=>g');rw[hp];cases p<;>first | rfl | cases j1
     ·cases k with
      | zero=>
       have hg:g'=_:=hg;rw[<-hg,hp]at zN;cases zN;cases Qx
      | succ k=>
       refine h2 g2 k rfl rfl ?_;rw[<-hg];show _=(match os[g']? with | some (.bG g')=>resolve os k g' | _=>g');rw[hp]
    have there:∃p,os[g']? =some p:=by
     cases hp:os[g']? with
     | some p=>exact⟨p,rfl⟩
     | none=>
      have:g'=dF os g:=by
       cases k with
       | zero=>exact hg
       | succ k=>rw[<-hg];show _=(match os[g']? with | some (.bG g')=>resolve os k g' | _=>g');rw[hp]
      rw[<-this,hp]at zN;cases zN
    obtain⟨p,hp⟩:=there;have UN:(os.map Ord.v)[g']? =some (.tup (.str p.kind::p.args)):=by rw[List.getElem?_map,hp, <-p.v_eq];rfl
    have gT:g'<2^62:=by have:=(List.getElem?_eq_some_iff.mp hp).1;exact aH (.t .A .B (.l .B (.k 90000) (.b .A (.k 4611686018427387904)))) rfl this hl
    kd_p;refine cz (j:=g') Ux rfl UN gT ?_;kd_p;refine aq rfl ?_;kd_p;refine step p hp _ (λj1 j2 j3=>?_) (λg2 k2 ek ep WD=>?_)
    ·try refine ite_ff j2 ?_
     kd_p
     (refine aA ?_ rfl rfl)
     kd_p;refine aB ?_;kd_p;refine⟨_,bw PySem.F.slot_list_append PySem.F.type_list_append e3,az,?_⟩;kd_p;refine aZ e3 BN ?_;kd_p;refine⟨ds++[o],rs,Dv,rfl,?_,K.xt jc,by wtm_at "a",by wtm_at "a"⟩
     rw[AH.aa,j3];simp[xI h1]
    ·subst ep
     try refine ite_tt (rfl) ?_
     kd_p
     (refine aA ?_ rfl rfl)
     kd_p;refine cz (j:=g') Ux rfl UN gT ?_;have e4:(V.tup (.str (Ord.bG g2).kind::(Ord.bG g2).args))=.tup [.str "jump",.int g2]:=rfl;rw[e4];kd_p;exact⟨k2,by exact aH (.f .A (.a .B .O) (.b .B .A)) rfl ek,rfl,g2,WD,by wtm_at "a",by wtm_at "a",by wtm_at "a",by wtm_at "a"⟩
 ·rintro ρ aI ⟨ds,rs,e1,e2,e3,K,l1,l2⟩
  have:rs=[]:=by cases rs with | nil=>rfl | cons p rs=>cases e2
  subst this;kd_p;refine q fa aI jc ?_ K;rw[List.append_nil]at e1;rw[<-e1]at e3;exact e3
 ·exact⟨[],os,rfl,rfl,AH.aa _ _ _,Kept.new jc,by wtm_at "a",by wtm_at "a"⟩
end dW
theorem qC{σ:AH}{Q:V->AH->Prop}{a:Addr}{os:List Ord}:dW.P σ Q a os:=xa (Q:=dW.Q_) dW.go (σ,Q,a,os)
section
variable{σ:AH}{Q:V->AH->Prop}
end
end
section
noncomputable def cZ(f:Nd->Nat->List Ord):List Nd->Nat->List Ord
 | [],_=>[]
 | p::ps,b=>f p b++cZ f ps (b+(f p b).length)
noncomputable def c8(f:Nd->Nat->List Ord):List Nd->Nat->List Ord
 | [],_=>[]
 | [p],b=>f p b
 | p::q::ps,b=>
  let c:=f p (b+1)
  let rest:=c8 f (q::ps) (b+c.length+2)
  .split (b+c.length+2)::(c++.bG (b+c.length+2+rest.length)::rest)
noncomputable def codeAt:Nat->Nd->Nat->List Ord
 | 0,_,_=>[]
 | k+1,n,b=>match n with
  | .leaf l=>[.leaf l]
  | .cat x y=>cZ (codeAt k) (joined (ah (.cat x y))) b
  | .alt x y=>c8 (codeAt k) (aD (.alt x y)) b
  | .bo a=>
   let c:=codeAt k a (b+3)
   .split (b+2)::.bG (b+3+c.length+2)::.mark::(c++[.dY,.bG b])
  | .nm now a r=>.mark::(codeAt k a (b+1)++[.nm now r])
noncomputable def sJ(E:Nat):bY->List Nat->bY
 | os,[]=>os
 | os,j::js=>sJ E (os.set j (some (.bG E))) js
theorem n8:∀(js:List Nat)(os:bY),cM os js=sJ os.length os js
 | [],_=>rfl
 | j::js,os=>by
  show cM (os.set j _) js=sJ _ (os.set j _) js;rw[n8 js,List.length_set]
theorem CY(E:Nat):∀(js:List Nat)(os:bY),(sJ E os js).length=os.length
 | [],_=>rfl
 | j::js,os=>by show(sJ E (os.set j _) js).length=_;rw[CY E js,List.length_set]
theorem nz(E:Nat)(xs:bY):∀(js:List Nat)(os:bY),(∀j∈js,j<os.length)->sJ E (os++xs) js=sJ E os js++xs
 | [],_,_=>rfl
 | j::js,os,h=>by
  show sJ E ((os++xs).set j _) js=sJ E (os.set j _) js++xs;rw[List.set_append_left _ _ (h j (by exact .head _)),nz E xs js _ (λi hi=>by rw[List.length_set];exact h i (by exact .tail _ (by assumption)))]
theorem y1(E j:Nat):∀(js:List Nat)(os:bY),sJ E os (js++[j])=(sJ E os js).set j (some (.bG E))
 | [],_=>rfl
 | i::js,os=>y1 E j js (os.set i _)
theorem vf{f:Nd->Nat->List Ord}{put:Nd->bY->bY}:∀(ps:List Nd)(os:bY),(∀p∈ps,∀os,put p os=os++(f p os.length).map some)->ps.foldl (λos p=>put p os) os=os++(cZ f ps os.length).map some
 | [],os,_=>(List.append_nil _).symm
 | p::ps,os,h=>by
  rw[List.foldl_cons,h p (by exact .head _),vf ps _ (λq hq=>h q (by exact .tail _ (by assumption)))]
  show _=os++(f p os.length++cZ f ps (os.length+(f p os.length).length)).map some;rw[List.map_append,List.append_assoc,List.length_append,List.length_map]
theorem ve{f:Nd->Nat->List Ord}{put:Nd->bY->bY}:∀(ps:List Nd)(os:bY)(js:List Nat),ps≠[]->(∀p∈ps,∀os,put p os=os++(f p os.length).map some)->(∀j∈js,j<os.length)->
  hW put ps os js=sJ (os.length+(c8 f ps os.length).length) os js++(c8 f ps os.length).map some
 | [],_,_,h,_,_=>absurd rfl h
 | [p],os,js,_,h,hj=>by
  show cM (put p os) js=_;rw[n8,h p (by exact .head _),nz _ _ _ _ hj]
  show _=sJ (os.length+(f p os.length).length) os js++(f p os.length).map some;rw[List.length_append,List.length_map]
 | p::q::ps,os,js,_,h,hj=>by
  rw[jJ,h p (by exact .head _)]
  have e2:(os++[none]++(f p (os++[none]).length).map some).length=os.length+(f p (os.length+1)).length+1:=by rw[List.length_append,List.length_map,qc,Nat.add_right_comm]
  have e1:((os++[none]++(f p (os++[none]).length).map some++[none]).set os.length (some (.split ((os++[none]++(f p (os++[none]).length).map some).length+1))))=os++(some (Ord.split (os.length+(f p (os.length+1)).length+2))::((f p (os.length+1)).map some++[none])):=by
   rw[e2,List.append_assoc,List.append_assoc,List.set_append_right _ _ (Nat.le_refl _),Nat.sub_self,qc];rfl
  rw[e1,e2];have e3:(os++(some (Ord.split (os.length+(f p (os.length+1)).length+2))::((f p (os.length+1)).map some++[none]))).length=os.length+(f p (os.length+1)).length+2:=by rw[List.length_append,List.length_cons,List.length_append,List.length_map];rfl
  rw[ve (q::ps) _ _ (by exact List.cons_ne_nil _ _) (λr hr=>h r (.tail _ hr)) (λj LO=>by
   rcases List.mem_append.mp LO with z | z
   ·rw[List.length_append];exact Nat.lt_of_lt_of_le (hj j z) (Nat.le_add_right _ _)
   ·rw[List.mem_singleton]at z;rw[z,e3];exact Nat.lt_succ_self _)]
  rw[e3,y1,nz _ _ _ _ hj];have e4:c8 f (p::q::ps) os.length=.split (os.length+(f p (os.length+1)).length+2)::(f p (os.length+1)++.bG (os.length+(f p (os.length+1)).length+2+(c8 f (q::ps) (os.length+(f p (os.length+1)).length+2)).length)::c8 f (q::ps) (os.length+(f p (os.length+1)).length+2)):=rfl;rw[e4];generalize c8 f (q::ps) (os.length+(f p (os.length+1)).length+2)=R;generalize hA:f p (os.length+1)=A;have e5:os.length+(Ord.split (os.length+A.length+2)::(A++Ord.bG (os.length+A.length+2+R.length)::R)).length=os.length+A.length+2+R.length:=by rw[List.length_cons,List.length_append,List.length_cons];exact Nat.le_antisymm (IQ) (IS)
  rw[e5];generalize hE:os.length+A.length+2+R.length=E;have hs:(sJ E os js).length=os.length:=CY _ _ _;rw[List.set_append_right _ _ (by exact aX (.e .A .B (.g .A (.a (.a .B .C) .O))) rfl hs)]
  have e6:os.length+A.length+1-(sJ E os js).length=(A.map some).length+1:=by rw[hs,List.length_map,Nat.add_assoc,Nat.add_sub_cancel_left]
  rw[e6,List.set_cons_succ,List.set_append_right _ _ (Nat.le_refl _),Nat.sub_self,List.append_assoc];show _++(_::((A.map some++[some (Ord.bG E)])++R.map some))=_;rw[List.append_assoc (A.map some),List.map_cons,List.map_append];rfl
theorem tr:∀(k:Nat)(n:Nd)(os:bY),n.size<=k->putN k n os=os++(codeAt k n os.length).map some
 | 0,n,_,h=>by have:=n.size_pos;exact False.elim (xj this h)
 | k+1,n,os,h=>by
  have ih:=tr k;cases n with
  | cat a b=>
   have h1:=gK (.cat a b);have h2:=j5 (ah (.cat a b));have h3:=fe a;have h4:=fe b;have h5:(ah (.cat a b)).length=(ah a).length+(ah b).length:=by show(ah a++ah b).length=_;rw[List.length_append]
   exact vf (f:=codeAt k) (joined (ah (.cat a b))) os λp hp os=>ih p os (by have:=jG hp;exact IV (.e (.a .A .B) (.a .C .O) (.t .Z .D (.t .Z .E (.f .B (.a .E .D) (.l .C (.a .F .O) (.l .G .A (.l .H .G (.g .H .F)))))))) rfl h1 h4 h3 h5 h h2 this)
  | alt a b=>
   have h1:=gJ (.alt a b);have h3:=gh a;have h4:=gh b;have h5:(aD (.alt a b)).length=(aD a).length+(aD b).length:=by show(aD a++aD b).length=_;rw[List.length_append]
   exact ve (f:=codeAt k) (aD (.alt a b)) os [] (by intro z;rw[z]at h5;exact aH (.t .Z .A (.f .Z (.a .A .B) (.z))) rfl h3 h5) (λp hp os=>ih p os (by have:=jG hp;exact qY (.e (.a .A .B) (.a .C .O) (.t .Z .D (.t .Z .E (.f .B (.a .E .D) (.l .C (.a .F .O) (.l .G .A (.g .G .F))))))) rfl h1 h4 h3 h5 h this)) (by exact nofun)
  | bo a=>
   have hs:(Nd.bo a).size=a.size+1:=rfl;show List.set (putN k a _++_) _ _=os++(Ord.split (os.length+2)::Ord.bG _::Ord.mark::(codeAt k a (os.length+3)++[Ord.dY,Ord.bG os.length])).map some;rw[ih a _ (by exact yQ hs h)]
   have e1:(os++[some (Ord.split (os.length+2)),none,some Ord.mark]).length=os.length+3:=List.length_append;rw[e1];rw[List.append_assoc,List.append_assoc,List.set_append_right _ _ (by exact aG (.g .A (.a .A .O)) rfl)]
   have e7:∀C:List Ord,(os++([some (Ord.split (os.length+2)),none,some Ord.mark]++(C.map some++[some Ord.dY,some (Ord.bG os.length)]))).length=os.length+3+C.length+2:=λC=>by
    rw[List.length_append,List.length_append,List.length_append,List.length_map];exact(Nat.add_assoc os.length 3 (C.length+2)).symm
   rw[e7,Nat.add_sub_cancel_left,List.map_cons,List.map_cons,List.map_cons,List.map_append];rfl
  | nm b a r=>
   have hs:(Nd.nm b a r).size=a.size+1:=rfl;show putN k a (os++[some Ord.mark])++[_]=os++(Ord.mark::(codeAt k a (os.length+1)++[Ord.nm b r])).map some;rw[ih a _ (by exact yQ hs h)]
   rw[qc,List.append_assoc,List.append_assoc,List.map_cons,List.map_append];rfl
  | _=>rfl
noncomputable def rawOf(n:Nd):List Ord:=codeAt n.size n 0++[.done]
noncomputable def codeOf(n:Nd):List Ord:=(rawOf n).map (cC (rawOf n))
end
section
theorem oF{x y p:Nd}(h:p∈joined (ah (.cat x y))):p.size<(Nd.cat x y).size:=by
 have h1:=gK (.cat x y);have h2:=j5 (ah (.cat x y));have h3:=fe x;have h4:=fe y;have h5:(ah (.cat x y)).length=(ah x).length+(ah y).length:=by show(ah x++ah y).length=_;rw[List.length_append]
 have:=jG h;exact qY (.e (.a .A .B) (.a .C .O) (.t .Z .D (.t .Z .E (.f .B (.a .D .E) (.l .F .A (.l .G .F (.b .G .C))))))) rfl h1 h3 h4 h5 h2 this
theorem oE{x y p:Nd}(h:p∈aD (.alt x y)):p.size<(Nd.alt x y).size:=by
 have h1:=gJ (.alt x y);have h3:=gh x;have h4:=gh y;have h5:(aD (.alt x y)).length=(aD x).length+(aD y).length:=by show(aD x++aD y).length=_;rw[List.length_append]
 have:=jG h;exact lZ (.e (.a .A .B) (.a .C .O) (.t .Z .D (.t .Z .E (.f .B (.a .E .D) (.l .F .A (.b .F .C)))))) rfl h1 h4 h3 h5 this
theorem jK{f g:Nd->Nat->List Ord}:∀(ps:List Nd),(∀p∈ps,∀b,f p b=g p b)->∀b,cZ f ps b=cZ g ps b
 | [],_,_=>rfl
 | p::ps,h,b=>by
  show f p b++cZ f ps (b+(f p b).length)=g p b++cZ g ps (b+(g p b).length);rw[h p (by exact .head _),jK ps (λq hq=>h q (by exact .tail _ (by assumption)))]
theorem gx(f:Nd->Nat->List Ord)(p q:Nd)(ps:List Nd)(b:Nat):c8 f (p::q::ps) b=.split (b+(f p (b+1)).length+2)::(f p (b+1)++.bG (b+(f p (b+1)).length+2+(c8 f (q::ps) (b+(f p (b+1)).length+2)).length)::c8 f (q::ps) (b+(f p (b+1)).length+2)):=rfl
theorem jv{f g:Nd->Nat->List Ord}:∀(ps:List Nd),(∀p∈ps,∀b,f p b=g p b)->∀b,c8 f ps b=c8 g ps b
 | [],_,_=>rfl
 | [p],h,b=>h p (by exact .head _) b
 | p::q::ps,h,b=>by
  rw[gx,gx,h p (by exact .head _),jv (q::ps) (λr hr=>h r (by simp at hr ⊢;exact .inr hr))]
theorem jA:∀(k:Nat)(n:Nd),n.size<=k->∀j,n.size<=j->∀b,codeAt k n b=codeAt j n b
 | 0,n,h,_,_,_=>by have:=n.size_pos;exact False.elim (xj this h)
 | k+1,n,h,0,hj,_=>by have:=n.size_pos;exact False.elim (xj this hj)
 | k+1,n,h,j+1,hj,b=>by
  have ih:=jA k;cases n with
  | leaf l=>rfl
  | cat x y=>exact jK _ (λp hp b=>by have:=oF hp;exact ih p (by exact u9 this h) j (by exact u9 this hj) b) b
  | alt x y=>exact jv _ (λp hp b=>by have:=oE hp;exact ih p (by exact u9 this h) j (by exact u9 this hj) b) b
  | bo a=>
   have hs:(Nd.bo a).size=a.size+1:=rfl;have e:=ih a (by exact yQ hs h) j (by exact yQ hs hj) (b+3)
   show Ord.split (b+2)::.bG (b+3+(codeAt k a (b+3)).length+2)::.mark::(codeAt k a (b+3)++[.dY,.bG b])=Ord.split (b+2)::.bG (b+3+(codeAt j a (b+3)).length+2)::.mark::(codeAt j a (b+3)++[.dY,.bG b]);rw[e]
  | nm now a r=>
   have hs:(Nd.nm now a r).size=a.size+1:=rfl;have e:=ih a (by exact yQ hs h) j (by exact yQ hs hj) (b+1)
   show Ord.mark::(codeAt k a (b+1)++[.nm now r])=Ord.mark::(codeAt j a (b+1)++[.nm now r]);rw[e]
noncomputable def code(n:Nd)(b:Nat):List Ord:=codeAt n.size n b
theorem m7(l:Lf)(b:Nat):code (.leaf l) b=[.leaf l]:=rfl
theorem pJ(x y:Nd)(b:Nat):code (.cat x y) b=cZ code (joined (ah (.cat x y))) b:=
 jK _ (λp hp b=>by have:=oF hp;have e:(Nd.cat x y).size=x.size+y.size+1:=rfl;exact jA _ p (by exact bD (.t .A .B (.e .B (.a (.a .C .D) .O) (.g .A (.a .C .D)))) rfl this e) _ (Nat.le_refl _) b) b
theorem pH(x y:Nd)(b:Nat):code (.alt x y) b=c8 code (aD (.alt x y)) b:=
 jv _ (λp hp b=>by have:=oE hp;have e:(Nd.alt x y).size=x.size+y.size+1:=rfl;exact jA _ p (by exact bD (.t .A .B (.e .B (.a (.a .C .D) .O) (.g .A (.a .C .D)))) rfl this e) _ (Nat.le_refl _) b) b
theorem pI(a:Nd)(b:Nat):code (.bo a) b=.split (b+2)::.bG (b+3+(code a (b+3)).length+2)::.mark::(code a (b+3)++[.dY,.bG b]):=rfl
theorem yq(now:Bool)(a:Nd)(r:Ref)(b:Nat):code (.nm now a r) b=.mark::(code a (b+1)++[.nm now r]):=rfl
noncomputable def dC(p:Nd)(qs:List Nd):List Nd:=match textOf p with
 | none=>p::qs
 | some t=>match qs with
  | []=>[p]
  | q::qs=>match textOf q with
   | none=>p::q::qs
   | some u=>.leaf (.pl (.chars (t++u)))::qs
noncomputable def JJ:List Nd->List Nd
 | []=>[]
 | p::ps=>dC p (JJ ps)
theorem fy{p:Nd}{qs:List Nd}(h:textOf p=none):dC p qs=p::qs:=by unfold dC;rw[h]
theorem fw(p:Nd):dC p []=[p]:=by unfold dC;split<;>rfl
theorem ix{p q:Nd}{qs:List Nd}(h:textOf q=none):dC p (q::qs)=p::q::qs:=by unfold dC;split<;>simp[h]
theorem fO{p q:Nd}{qs:List Nd}{t u:Str}(hp:textOf p=some t)(h:textOf q=some u):dC p (q::qs)=.leaf (.pl (.chars (t++u)))::qs:=by unfold dC;rw[hp];simp[h]
theorem Str.zu(a b c:Str):a++b++c=a++(b++c):=by
 show Str.mk (a.cps++b.cps++c.cps)=Str.mk (a.cps++(b.cps++c.cps));rw[Array.append_assoc]
set_option tactic.hygienic true in
theorem mw{p:Nd}{t:Str}(h:textOf p=some t):p=.leaf (.pl (.chars t)):=by
 rcases fS p with ⟨_,h2⟩ | ⟨u,rfl⟩
 ·rw[h]at h2;cases h2
 ·cases h;rfl
theorem uZ{t u:Str}{qs:List Nd}:dC (.leaf (.pl (.chars t))) (dC (.leaf (.pl (.chars u))) qs)=dC (.leaf (.pl (.chars (t++u)))) qs:=by
 cases qs with
 | nil=>rw[fw,fw,fO (bN t) (bN u)]
 | cons q qs=>
  cases h:textOf q with
  | none=>rw[ix h,ix h,fO (bN t) (bN u)]
  | some v=>rw[fO (bN u) h,fO (bN _) h,fO (bN t) (bN _),Str.zu]
theorem EA{f:List Nd}{p:Nd}(h:textOf p=none):aJ f p=f++[p]:=by unfold aJ;rw[h]
theorem Q4{f:List Nd}{p q:Nd}{t:Str}(h:textOf p=some t)(ht:t≠"")(hq:textOf q=none):aJ (f++[q]) p=f++[q]++[p]:=by
 unfold aJ;rw[h];dsimp only;rw[if_neg ht,List.getLast?_concat];dsimp only;rw[hq]
theorem Q5{f:List Nd}{p q:Nd}{t u:Str}(h:textOf p=some t)(ht:t≠"")(hq:textOf q=some u):aJ (f++[q]) p=f++[.leaf (.pl (.chars (u++t)))]:=by
 unfold aJ;rw[h];dsimp only;rw[if_neg ht,List.getLast?_concat];dsimp only;rw[hq];dsimp only;rw[List.dropLast_concat]
theorem rS:∀(ps:List Nd)(f:List Nd)(q:Nd),(∀p∈ps,textOf p≠some ("":Str))->ps.foldl aJ (f++[q])=f++JJ (q::ps)
 | [],f,q,_=>by show f++[q]=f++dC q [];rw[fw]
 | p::ps,f,q,h=>by
  have ih:=rS ps;have h':∀r∈ps,textOf r≠some ("":Str):=λr hr=>h r (by exact .tail _ (by assumption))
  rw[List.foldl_cons];show List.foldl aJ (aJ (f++[q]) p) ps=f++dC q (dC p (JJ ps));have hp:=h p (by exact .head _)
  cases GV:textOf p with
  | none=>
   rw[EA GV,ih (f++[q]) p h'];show f++[q]++dC p (JJ ps)=_;rw[fy GV,ix GV];simp
  | some t=>
   have ht:t≠"":=λz=>by rw[GV,z]at hp;exact hp rfl
   cases JW:textOf q with
   | none=>
    rw[Q4 GV ht JW,ih (f++[q]) p h'];show f++[q]++dC p (JJ ps)=_;rw[fy JW];simp
   | some u=>
    rw[Q5 GV ht JW,ih f _ h',mw JW,mw GV,uZ];rfl
theorem rT{ps:List Nd}(h:∀p∈ps,textOf p≠some ("":Str)):joined ps=JJ ps:=by
 cases ps with
 | nil=>rfl
 | cons p ps=>
  have hp:=h p (by exact .head _)
  have e:aJ [] p=[]++[p]:=by
   unfold aJ;cases ht:textOf p with
   | none=>rfl
   | some t=>dsimp only;rw[if_neg λz=>by rw[ht,z]at hp;exact hp rfl];rfl
  show List.foldl aJ (aJ [] p) ps=_;rw[e,rS ps [] p λq hq=>h q (by exact .tail _ (by assumption))];rfl
noncomputable def Nd.tok:Nd->Prop
 | .leaf l=>textOf (.leaf l)≠some ("":Str)
 | .cat a b=>a.tok/\b.tok
 | .alt a b=>a.tok/\b.tok
 | .bo a=>a.tok
 | .nm _ a _=>a.tok
theorem oR:∀{n:Nd},n.tok->∀p∈ah n,p.tok/\textOf p≠some ("":Str):=by
 intro n
 induction n with
 | cat a b we w7=>
  intro h p hp;rcases List.mem_append.mp (show p∈ah a++ah b from hp) with z | z
  ·exact we h.1 p z
  ·exact w7 h.2 p z
 | leaf l=>intro h p hp;rw[show ah (.leaf l)=[.leaf l] from rfl,List.mem_singleton]at hp;subst hp;exact⟨h,h⟩
 | alt a b _ _=>intro h p hp;rw[show ah (.alt a b)=[.alt a b] from rfl,List.mem_singleton]at hp;subst hp;exact⟨h,by intro z;cases z⟩
 | bo a _=>intro h p hp;rw[show ah (.bo a)=[.bo a] from rfl,List.mem_singleton]at hp;subst hp;exact⟨h,by intro z;cases z⟩
 | nm b a r _=>intro h p hp;rw[show ah (.nm b a r)=[.nm b a r] from rfl,List.mem_singleton]at hp;subst hp;exact⟨h,by intro z;cases z⟩
theorem nC(f:Nd->Nat->List Ord)(p:Nd)(b:Nat):cZ f [p] b=f p b:=by show f p b++[]=_;rw[List.append_nil]
theorem iw{n:Nd}(h:n.tok)(b:Nat):code n b=cZ code (JJ (ah n)) b:=by
 have one:∀m:Nd,ah m=[m]->code m b=cZ code (JJ (ah m)) b:=λm e=>by
  rw[e];show _=cZ code (dC m []) b;rw[fw,nC]
 cases n with
 | cat x y=>rw[pJ,rT λp hp=>(oR h p hp).2]
 | leaf l=>exact one _ rfl
 | alt a b=>exact one _ rfl
 | bo a=>exact one _ rfl
 | nm b a r=>exact one _ rfl
end
section
section
variable{σ:AH}{Q:V->AH->Prop}
theorem iP{n:NX}{env:Env}{ρ:Loc}{Q:V->Loc->AH->Prop}{x:Str}{a:Nat}{p pos:Pos}{args:List Expr}(kf:Keeps (.ref a))(h:rt n env args ρ σ (t8 n env (.ref a) Q))(hk:autoParam (env.kindOf x=some .globalImplicit) cB)(ht:autoParam (pP.lookup x=some (some (some (.ref a)))) cB)
  (hd:autoParam ((x==("__debug__":Str))=false) N5) (hp:autoParam (args.all fA=true) cB):
  Ex n env (.Call (.Name x p) args [] pos) ρ σ Q:=oH (gk hk (pQ ht) (λ_=>.glob _) ⟨_,rfl,kf,h⟩ hd) rfl hp
theorem AD{d:Addr}(hd:σ d=some (.dict []))(q:∀a,σ a=none->Q .none ((σ.put a (.list [])).put d (.dict [("orders",.lst a)]))):aU 1 (.ref 51) [.inst 94 d] σ Q:=by
 have co:=(bL).1;refine aC (kB) rfl λL=>?_
 kcf_m
 (refine au (ag ?_))
 refine aW ?_;kd_p;intro a ha;have Xw:d≠a:=λz=>by rw[z,ha]at hd;cases hd
 refine aV ?_;kd_p;refine aP co (bg) (by rw[AH.ae _ _ Xw];exact hd) (by exact Nat.zero_le _) ?_
 have e:b7 [] "orders" (.lst a)=[(("orders":Str),V.lst a)]:=rfl;rw[e];kd_p;exact q a ha
theorem su{n:Nd}(hz:n.size<=1000)(ht:n.text<=1000)(hr:∀o∈rawOf n,∀g,o.goal=some g->cF (rawOf n) g)
  (q:∀a af,σ a=none->af a=some (.list ((codeOf n).map Ord.v))->Kept σ af []->Q (.lst a) af):aU 6 (.ref 112) [n.v] σ Q:=by
 have co:=bL;refine aC (lu) rfl λL=>?_
 kcf_m
 (refine au (aA ?_ rfl rfl))
 refine iP co.2.2.1 ?_;kd_p;refine aU.call ((jW co.2.1 (kE) (kF).1 λd hd=>AD (AH.aa _ _ _) λoa Dy=>⟨rfl,?_⟩).less (by decide))
 have LV:=AH.aT Dy;have XA:oa≠d:=λz=>by rw[z,AH.aa]at Dy;cases Dy
 have C:dH ((((σ.put d (.dict [])).put oa (.list []))).put d (.dict [("orders",.lst oa)])) d oa []:=⟨AH.aa _ _ _,by rw[AH.ae _ _ XA];exact AH.aa _ _ _⟩
 have K0:Kept σ ((((σ.put d (.dict [])).put oa (.list []))).put d (.dict [("orders",.lst oa)])) []:=((Kept.new hd).xt LV).xt hd;revert C K0;generalize ((((σ.put d (.dict [])).put oa (.list []))).put d (.dict [("orders",.lst oa)]))=aI;intro C K0;kd_p;refine aB ?_;kd_p;refine⟨_,a9 co.1 (lE) (gS).1 C.h rfl,(gS).2,?_⟩;kd_p;refine aU.call ((Nv C hz ht (by exact Nat.zero_le _) ?_).less (by decide))
 intro bU C2 K2;have gl:=(grows n.size n [] (Nat.le_refl _)).2;simp only[List.length_nil]at gl;kd_p;refine aB ?_;kd_p;refine⟨_,a9 co.1 (aL) (ak).1 C2.h rfl,(ak).2,?_⟩;kd_p;refine aq rfl ?_;kd_p;refine aU.call ((ib C2 (by exact aH (.l (.a .A (.k 5)) (.a (.a .Z (.m 5 .B)) (.k 5)) (.l .B (.k 1000) (.l .B (.k 1000) (.l .B (.k 1000) (.l .B (.k 1000) (.l .B (.k 1000) (.g .A (.k 100000)))))))) rfl gl hz hz hz hz hz) (some .done) ?_).less (by decide))
 have C3:=C2.put (putN n.size n []++[some .done]);have e1:(putN n.size n []++[some Ord.done])=(rawOf n).map some:=by
  rw[tr n.size n [] (Nat.le_refl _)];exact I0.symm
 have e2:((rawOf n).map some).map kX=(rawOf n).map Ord.v:=by rw[List.map_map];rfl
 rw[e1]at C3 ⊢;have so:=C3.o;rw[e2]at so C3 ⊢;kd_p;refine aF ?_;kd_p;refine ax co.1 (bg) C3.h (v:=.lst oa) rfl (c5 _) ?_;kd_p;refine aU.call ((qC so ?_ hr ?_).less (by decide))
 ·have:=congrArg List.length e1
  rw[List.length_map,List.length_append]at this;simp at this;exact aX (.f (.a .A .O) .B (.l (.a .A (.k 5)) (.a (.a .Z (.m 5 .C)) (.k 5)) (.l2 5 .C (.k 1000) (.g .B (.k 90000))))) rfl this gl hz
 ·intro b fE hb sb K3
  have kk:Kept σ (bU.put oa (.list ((rawOf n).map Ord.v))) []:=λx o ex nx=>by
   have ne:x≠oa:=λz=>by rw[z,LV]at ex;cases ex
   rw[AH.ae _ _ ne];exact K2 x o (K0 x o ex nx) (by simpa using ne)
  refine q b fE ?_ sb (kk.trans K3);cases z:σ b with
  | none=>rfl
  | some o=>rw[kk _ _ z (by exact nn)]at hb;cases hb
end
end
section
noncomputable def aK(o pc at' nm mk cl:V):List (Str×V):=[("orders",o),("pc",pc),("at",at'),("named",nm),("marks",mk),("calls",cl)]
theorem bT{o p a n m k:V}:(aK o p a n m k).length<=1000:=Nat.le_of_ble_eq_true rfl
noncomputable def ck(s:Str)(d ha:Addr):List (Str×V):=[("subject",.str s),("host",.inst 582 d),("history",.lst ha)]
section
variable{σ:AH}{Q:V->AH->Prop}{d dw dm ha:Addr}{o pc at' nm mk cl:V}{s:Str}
theorem x7(hd:σ dw=some (.dict []))(q:Q .none (σ.put dw (.dict (aK o pc at' nm mk cl)))):aU 1 (.ref 439) [.inst 449 dw,o,pc,at',nm,mk,cl] σ Q:=by
 have co:=(d4).1;refine aC (wj) rfl λL=>?_
 kcf_m
 (refine au (ag ?_))
 kd_p;refine aV ?_;kd_p;refine aP co (c7) hd (by exact Nat.zero_le _) ?_
 kd_p
 (refine ag ?_)
 kd_p;refine aV ?_;kd_p;refine aP co (bA) (AH.aa _ _ _) (Nat.le_of_ble_eq_true rfl) ?_;rw[AH.bS];kd_p
 (refine ag ?_)
 kd_p;refine aV ?_;kd_p;refine aP co (cL) (AH.aa _ _ _) (Nat.le_of_ble_eq_true rfl) ?_;rw[AH.bS];kd_p
 (refine ag ?_)
 kd_p;refine aV ?_;kd_p;refine aP co (fK) (AH.aa _ _ _) (Nat.le_of_ble_eq_true rfl) ?_;rw[AH.bS];kd_p
 (refine ag ?_)
 kd_p;refine aV ?_;kd_p;refine aP co (cS) (AH.aa _ _ _) (Nat.le_of_ble_eq_true rfl) ?_;rw[AH.bS];kd_p
 (refine ag ?_)
 kd_p;refine aV ?_;kd_p;refine aP co (di) (AH.aa _ _ _) (Nat.le_of_ble_eq_true rfl) ?_;rw[AH.bS];kd_p;exact q
theorem sS(q:∀dw,σ dw=none->Q (.inst 449 dw) (σ.put dw (.dict (aK o pc at' nm mk cl)))):aU 2 (.ref 449) [o,pc,at',nm,mk,cl] σ Q:=by
 have co:=d4;refine jW co.2.1 (wA) (wC).1 λd hd=>x7 (AH.aa _ _ _) ⟨rfl,?_⟩
 rw[AH.bS];exact q d hd
def jt(v:V):Prop:=∀u,v≠.glob u
theorem i3(ho:jt o)(hn:jt nm)(hm:jt mk)(hc:jt cl){k a p:Int}(hd:σ dw=some (.dict (aK o (.int p) (.int a) nm mk cl)))(q:∀d2,σ d2=none->Q (.inst 449 d2) (σ.put d2 (.dict (aK o (.int k) (.int a) nm mk cl)))):aU 3 (.ref 446) [.inst 449 dw,.int k] σ Q:=by
 have co:=d4;refine aC (sD) rfl λL=>?_
 kcf_m;kd_p;refine iP co.2.2.1 ?_;kd_p;refine ax co.1 (c7) hd (v:=o) rfl ho ?_;kd_p;refine ax co.1 (cL) hd (v:=.int a) rfl (bW _) ?_;kd_p;refine ax co.1 (fK) hd (v:=nm) rfl hn ?_;kd_p;refine ax co.1 (cS) hd (v:=mk) rfl hm ?_;kd_p;refine ax co.1 (di) hd (v:=cl) rfl hc ?_;kd_p;exact aU.call (sS q)
set_option tactic.hygienic true in
theorem tS(hd:σ dm=some (.dict []))(q:∀ha,σ ha=none->Q .none ((σ.put ha (.list [])).put dm (.dict (ck s d ha)))):aU 1 (.ref 467) [.inst 526 dm,.str s,.inst 582 d] σ Q:=by
 have co:=(bZ).1;refine aC (sC) rfl λL=>?_
 kcf_m
 (refine au (ag ?_))
 kd_p;refine aV ?_;kd_p;refine aP co (cJ) hd (by exact Nat.zero_le _) ?_
 kd_p
 (refine ag ?_)
 kd_p;refine aV ?_;kd_p;refine aP co (dQ) (AH.aa _ _ _) (Nat.le_of_ble_eq_true rfl) ?_;rw[AH.bS];kd_p
 (refine ag ?_)
 refine aW ?_;kd_p;intro ha zK;have nd:dm≠ha:=λz=>by rw[z,AH.aa]at zK;cases zK
 refine aV ?_;kd_p;refine aP co (cI) (by rw[AH.ae _ _ nd];exact AH.aa _ _ _) (Nat.le_of_ble_eq_true rfl) ?_
 have e:∀o1 o2 o3,((σ.put dm o1).put ha o2).put dm o3=(σ.put ha o2).put dm o3:=λo1 o2 o3=>by
  funext b;unfold AH.put;by_cases h:b=dm<;>exact OH
 rw[e];kd_p;exact q ha (AH.aT zK)
set_option tactic.hygienic true in
theorem zB(q:∀dm ha,σ dm=none->σ ha=none->dm≠ha->Q (.inst 526 dm) ((σ.put ha (.list [])).put dm (.dict (ck s d ha)))):aU 2 (.ref 526) [.str s,.inst 582 d] σ Q:=by
 have co:=bZ;refine jW co.2.1 (sI) (sL).1 λdm hd=>tS (AH.aa _ _ _) λha zK=>⟨rfl,?_⟩
 have nd:dm≠ha:=λz=>by rw[z,AH.aa]at zK;cases zK
 have e:∀o1 o2 o3,((σ.put dm o1).put ha o2).put dm o3=(σ.put ha o2).put dm o3:=λo1 o2 o3=>by
  funext b;unfold AH.put;by_cases h:b=dm<;>exact OH
 rw[e];exact q dm ha hd (AH.aT zK) nd
theorem x6(hm:σ dm=some (.dict (ck s d ha))){l:List V}(hl:l.length<=100000)(hh:σ ha=some (.list l))(q:match l.getLast? with | none=>Q .none σ | some v=>Q v (σ.put ha (.list l.dropLast))):aU 1 (.ref 481) [.inst 526 dm] σ Q:=by
 have co:=(bZ).1;refine aC (mM) rfl λL=>?_
 kcf_m;kd_p;refine bh ?_;kd_p;refine ax co (cI) hm (v:=.lst ha) rfl (c5 _) ?_;kd_p;refine aN hh (by exact Fb hl) ?_
 kd_p;rcases List.eq_nil_or_concat l with rfl | ⟨l,v,rfl⟩
 ·try refine ite_ff (by decide) ?_
  kd_p;exact q
 ·rw[List.concat_eq_append]at *
  try refine ite_tt (by exact SW) ?_
  refine aB ?_;kd_p;refine ax co (cI) hm (v:=.lst ha) rfl (c5 _) ?_;refine⟨_,bw PySem.F.slot_list_pop PySem.F.type_list_pop hh,az,?_⟩;kd_p;refine gy hh (by simp at hl;exact aG (.l .A (.k 99999) (.g .A (.k 1000000))) rfl hl) ?_
  simp at q;exact q
end
end
section
section
variable{σ:AH}{Q:V->AH->Prop}{d dw dm ha:Addr}{o nm mk cl:V}{s:Str}{pc a:Nat}
theorem IE{p:Pl}{n:NX}{env:Env}{ρ:Loc}{σ:AH}{Q:V->Loc->AH->Prop}(q:Q (.bool false) ρ σ):cK n env (.builtin "isinstance") [p.told,.glob (.type "tuple")] ρ σ Q:=by cases p<;>first | exact nV q | exact nT q
theorem xU{p:Pl}(hs:s.length<=1000)(hp:p.fits)(hm:σ dm=some (.dict (ck s d ha)))(hw:σ dw=some (.dict (aK o (.int pc) (.int a) nm mk cl)))
  (q:match p.ends s a with | none=>Q (.bool false) σ | some e=>Q (.bool true) (σ.put dw (.dict (aK o (.int ((pc:Int)+1)) (.int e) nm mk cl)))):aU 6 (.ref 495) [.inst 526 dm,.tup [.str "one",.str p.kind,p.told],.inst 449 dw] σ Q:=by
 have co:=(bZ).1;have cw:=(d4).1;refine aC (ig) rfl λL=>?_
 kcf_m
 (refine au (aA ?_ rfl rfl))
 kd_p;refine aY ?_;refine bh ?_;kd_p;refine iW rfl rfl ?_;kd_p;refine IE ?_;kd_p
 (refine aA ?_ rfl rfl)
 refine aF ?_;kd_p;refine ax co (cJ) hm (v:=.str s) rfl (ia _) ?_;kd_p;refine ax cw (cL) hw (v:=.int a) rfl (bW _) ?_;kd_p;refine aU.call ((g6 hs hp ?_).less (by decide))
 cases he:p.ends s a with
 | none=>
  rw[he]at q;kd_p;refine is_none ?_;kd_p;exact q
 | some e=>
  rw[he]at q;have eo:oV (some e)=.int e:=rfl;rw[eo];kd_p;refine is_none ?_;kd_p
  (refine ag ?_)
  kd_p;refine aV ?_;kd_p;refine aP cw (cL) hw bT ?_;have e1:b7 (aK o (.int pc) (.int a) nm mk cl) "at" (.int e)=aK o (.int pc) (.int e) nm mk cl:=rfl;rw[e1];kd_p;refine cU ?_;kd_p;refine ax cw (bA) (AH.aa _ _ _) (v:=.int pc) rfl (bW _) ?_;kd_p;refine aP cw (bA) (AH.aa _ _ _) bT ?_;have e2:b7 (aK o (.int pc) (.int e) nm mk cl) "pc" (.int ((pc:Int)+1))=aK o (.int ((pc:Int)+1)) (.int e) nm mk cl:=rfl;rw[e2,AH.bS];kd_p;exact q
set_option tactic.hygienic true in
theorem Az{X:Int->AH->Prop}{av ar al:Addr}{rf:List Str}{vals:List (Str×V)}{log:List V}{st lim:Int}(hs:s.length<=1000)(hm:σ dm=some (.dict (ck s d ha)))(hw:σ dw=some (.dict (aK o (.int pc) (.int a) nm mk cl)))(H:eT σ d av ar al rf vals log st lim)(hv:NV ((dg vals "N").getD (.str "")))
  (x:∀b,bu ((dg vals "N").getD (.str ""))=.error b->X (wN b) σ)
  (q:∀p,bu ((dg vals "N").getD (.str ""))=.ok p->match p.ends s a with | none=>Q (.bool false) σ | some e=>Q (.bool true) (σ.put dw (.dict (aK o (.int ((pc:Int)+1)) (.int e) nm mk cl)))):
  cx 7 X (.ref 495) [.inst 526 dm,.tup [.str "one",.str "len",zv "N"],.inst 449 dw] σ Q:=by
 have co:=(bZ).1;have cw:=(d4).1;refine dX (ig) rfl λL=>?_
 kcf_m
 (refine au (aA ?_ rfl rfl))
 kd_p;refine aY ?_;refine bh ?_;kd_p;refine iW rfl rfl ?_;kd_p;refine nW ?_;kd_p
 (refine aA ?_ rfl rfl)
 refine aF ?_;kd_p;refine ax co (dQ) hm (v:=.inst 582 d) rfl (mA _ _) ?_;kd_p;refine cx.call ((kz (X:=X) (key:="N") H hv ?_).less (Nat.le_of_ble_eq_true rfl)) (λ_ _ x=>x)
 revert x q;generalize ((dg vals "N").getD (.str ""))=v;intro x q;unfold mL;cases hc:m8 v with
 | none=>exact x false (by unfold bu;rw[hc])
 | some k=>
  dsimp only;split
  ·rename_i h;exact x true (by unfold bu;rw[hc];exact if_pos h)
  ·rename_i h
   have q:=q (.len k) (by unfold bu;rw[hc];exact if_neg h)
   have hp:(Pl.len k).fits:=Int.not_lt.mp h;show Be _ _ _ _;kd_p;refine is_none ?_;kd_p
   (refine aA ?_ rfl rfl)
   kd_p
   (refine aA ?_ rfl rfl)
   refine aF ?_;kd_p;refine ax co (cJ) hm (v:=.str s) rfl (ia _) ?_;kd_p;refine ax cw (cL) hw (v:=.int a) rfl (bW _) ?_;kd_p;refine aU.call ((g6 (p:=.len k) hs hp ?_).less (Nat.le_of_ble_eq_true rfl));cases he:(Pl.len k).ends s a with
   | none=>
    rw[he]at q;kd_p;refine is_none (a:=.none) ?_;kd_p;exact q
   | some e=>
    rw[he]at q;have eo:oV (some e)=.int e:=rfl;rw[eo];kd_p;refine is_none ?_;kd_p
    (refine ag ?_)
    kd_p;refine aV ?_;kd_p;refine aP cw (cL) hw bT ?_;have e1:b7 (aK o (.int pc) (.int a) nm mk cl) "at" (.int e)=aK o (.int pc) (.int e) nm mk cl:=rfl;rw[e1];kd_p;refine cU ?_;kd_p;refine ax cw (bA) (AH.aa _ _ _) (v:=.int pc) rfl (bW _) ?_;kd_p;refine aP cw (bA) (AH.aa _ _ _) bT ?_;have e2:b7 (aK o (.int pc) (.int e) nm mk cl) "pc" (.int ((pc:Int)+1))=aK o (.int ((pc:Int)+1)) (.int e) nm mk cl:=rfl;rw[e2,AH.bS];kd_p;exact q
theorem tN{b:Nat}(hs:s.length<=1000)(hm:σ dm=some (.dict (ck s d ha)))(ho:jt mk)(hw:σ dw=some (.dict (aK o (.int pc) (.int a) nm (.tup [mk,.int b]) cl)))
  (q:Q (.bool (decide ((a:Int)>b))) (σ.put dw (.dict (aK o (.int pc) (.int a) nm mk cl)))):aU 6 (.ref 502) [.inst 526 dm,.tup [.str "gain"],.inst 449 dw] σ Q:=by
 have co:=(bZ).1;have cw:=(d4).1;refine aC (g7) rfl λL=>?_
 kcf_m
 (refine au (ag ?_))
 kd_p;refine ax cw (cS) hw (v:=.tup [mk,.int b]) rfl (tE _) ?_;kd_p
 (refine ag ?_)
 kd_p;refine aV ?_;kd_p;refine aP cw (cS) hw bT ?_;have e1:b7 (aK o (.int pc) (.int a) nm (.tup [mk,.int b]) cl) "marks" mk=aK o (.int pc) (.int a) nm mk cl:=rfl;rw[e1];kd_p
 (refine aA ?_ rfl rfl)
 kd_p;have Hc:dm≠dw:=λz=>by rw[z,hw]at hm;cases hm
 refine ax co (cJ) (by rw[AH.ae _ _ Hc];exact hm) (v:=.str s) rfl (ia _) ?_
 kd_p;refine ax cw (cL) (AH.aa _ _ _) (v:=.int a) rfl (bW _) ?_;kd_p;refine gH (by rw[sizeLine_eq];exact E9 hs) ?_
 kd_p;refine aq rfl ?_;kd_p;refine ax cw (cL) (AH.aa _ _ _) (v:=.int a) rfl (bW _) ?_;kd_p;exact q
theorem tO{b:Nat}{r:V}(hs:s.length<=1000)(hm:σ dm=some (.dict (ck s d ha)))(ho:jt mk)(hn:jt nm)(hw:σ dw=some (.dict (aK o (.int pc) (.int a) nm (.tup [mk,.int b]) cl)))
  (q:Q (.bool true) (σ.put dw (.dict (aK o (.int pc) (.int a) (.tup [nm,.tup [r,.str (Txt.slice s (some b) (some a))]]) mk cl)))):aU 6 (.ref 502) [.inst 526 dm,.tup [.str "name",r],.inst 449 dw] σ Q:=by
 have co:=(bZ).1;have cw:=(d4).1;refine aC (g7) rfl λL=>?_
 kcf_m
 (refine au (ag ?_))
 kd_p;refine ax cw (cS) hw (v:=.tup [mk,.int b]) rfl (tE _) ?_;kd_p
 (refine ag ?_)
 kd_p;refine aV ?_;kd_p;refine aP cw (cS) hw bT ?_;have e1:b7 (aK o (.int pc) (.int a) nm (.tup [mk,.int b]) cl) "marks" mk=aK o (.int pc) (.int a) nm mk cl:=rfl;rw[e1];kd_p
 (refine aA ?_ rfl rfl)
 kd_p;have Hc:dm≠dw:=λz=>by rw[z,hw]at hm;cases hm
 refine ax co (cJ) (by rw[AH.ae _ _ Hc];exact hm) (v:=.str s) rfl (ia _) ?_
 kd_p;refine ax cw (cL) (AH.aa _ _ _) (v:=.int a) rfl (bW _) ?_;kd_p;refine gH (by rw[sizeLine_eq];exact E9 hs) ?_
 kd_p;refine aq rfl ?_;kd_p;refine aq rfl ?_;kd_p
 (refine ag ?_)
 kd_p;refine ax cw (fK) (AH.aa _ _ _) (v:=nm) rfl hn ?_;kd_p;refine aV ?_;kd_p;refine aP cw (fK) (AH.aa _ _ _) bT ?_;have e2:∀x,b7 (aK o (.int pc) (.int a) nm mk cl) "named" x=aK o (.int pc) (.int a) x mk cl:=λ_=>rfl
 rw[e2,AH.bS];kd_p;exact q
theorem vR{b:Nat}{av ar al rd:Addr}{key:Str}{rf:List Str}{vals:List (Str×V)}{log:List V}{st lim:Int}(hs:s.length<=1000)(hm:σ dm=some (.dict (ck s d ha)))(ho:jt mk)(hw:σ dw=some (.dict (aK o (.int pc) (.int a) nm (.tup [mk,.int b]) cl)))
  (H:eT (σ.put dw (.dict (aK o (.int pc) (.int a) nm mk cl))) d av ar al rf vals log st lim) (hr:(σ.put dw (.dict (aK o (.int pc) (.int a) nm mk cl))) rd=some (.dict (fV key))) (hv:vals.length<=1000) (jd:log.length<=1000000) (ic:al≠av) (Eg:d≠av) (pU:rd≠av)
  (q:rf.contains key=false->Q (.bool true) (((σ.put dw (.dict (aK o (.int pc) (.int a) nm mk cl))).put av (.dict (b7 vals key (.str (Txt.slice s (some b) (some a)))))).put al (.list (log++[.tup [.str key,.str (Txt.slice s (some b) (some a))]])))) (q':rf.contains key=true->Q (.bool false) (σ.put dw (.dict (aK o (.int pc) (.int a) nm mk cl)))):aU 6 (.ref 502) [.inst 526 dm,.tup [.str "set",.inst 208 rd],.inst 449 dw] σ Q:=by
 have co:=(bZ).1;have cw:=(d4).1;have cp:=(bt).1;refine aC (g7) rfl λL=>?_
 kcf_m
 (refine au (ag ?_))
 kd_p;refine ax cw (cS) hw (v:=.tup [mk,.int b]) rfl (tE _) ?_;kd_p
 (refine ag ?_)
 kd_p;refine aV ?_;kd_p;refine aP cw (cS) hw bT ?_;have e1:b7 (aK o (.int pc) (.int a) nm (.tup [mk,.int b]) cl) "marks" mk=aK o (.int pc) (.int a) nm mk cl:=rfl;rw[e1];kd_p
 (refine aA ?_ rfl rfl)
 kd_p;have Hc:dm≠dw:=λz=>by rw[z,hw]at hm;cases hm
 refine ax co (cJ) (by rw[AH.ae _ _ Hc];exact hm) (v:=.str s) rfl (ia _) ?_
 kd_p;refine ax cw (cL) (AH.aa _ _ _) (v:=.int a) rfl (bW _) ?_;kd_p;refine gH (by rw[sizeLine_eq];exact E9 hs) ?_
 kd_p;refine aq rfl ?_;kd_p;refine aq rfl ?_;kd_p;refine aB ?_;kd_p;refine ax co (dQ) (by rw[AH.ae _ _ Hc];exact hm) (v:=.inst 582 d) rfl (mA _ _) ?_
 refine⟨_,a9 cp (dq) (bK).1 H.h rfl,(bK).2,?_⟩;kd_p;exact aU.call ((fJ H hr hv jd ic q q' Eg pU).less (by decide))
end
end
section
section
variable{σ:AH}{Q:V->AH->Prop}{d dw dm ha:Addr}{o nm mk cl:V}{s:Str}{pc a:Nat}
noncomputable def kd(s:Str)(a:Nat):List Nat:=List.range' a (s.length+1-a)
theorem xP(hs:s.length<=1000)(ha:a<=1000)(q:∀e,σ e=none->Q (.lst e) (σ.put e (.list ((kd s a).map λi=>.int (i:Nat))))):aU 1 (.ref 390) [.str s,.int a] σ Q:=by
 refine aC (wm) rfl λL=>?_
 kcf_m;kd_p;refine jy ?_;refine cO ?_;refine jy ?_;kd_p;refine bh ?_;kd_p;refine cg (by exact DC hs) ?_
 kd_p;refine uw ?_;refine qR (by exact iN) (by exact(qW (DC ha))) (by exact iN) (by exact(qW (aG (.l .A (.k 1000) (.g (.a .A .O) (.k 1000000))) rfl hs))) ?_
 intro e he;have er:dG (a:Int) ((s.length:Int)+1)=(kd s a).map λi=>.int (i:Nat):=by
  unfold dG kd;have e1:((s.length:Int)+1-(a:Int)).toNat=s.length+1-a:=by exact Sp
  rw[e1,List.range_eq_range',List.range'_eq_map_range (s:=a)];rw[List.map_map,List.range_eq_range'];refine List.map_congr_left λi _=>?_
  rfl
 rw[er];exact q e he
noncomputable def gz(b:Bool)(s:Str)(a:Nat):List Nat:=if b then cE s a else kd s a
noncomputable def Dn(b:Bool):Str:=if b then "bal" else "arb"
theorem Au{b:Bool}(hs:s.length<=1000)(ha:a<=1000)(q:∀e,σ e=none->Q (.lst e) (σ.put e (.list ((gz b s a).map λi=>.int (i:Nat))))):aU 3 (.ref 425) [.str (Dn b),.str s,.int a,.none] σ Q:=by
 refine aC (zh) rfl λL=>?_
 cases b with
 | false=>
  kcf_m;kd_p;refine aF ?_;kd_p;exact aU.call ((xP hs ha q).less (by decide))
 | true=>
  kcf_m;kd_p;refine aF ?_;kd_p;exact aU.call (qw hs q)
theorem xT{ea:Addr}(he:σ ea=some (.list []))(q:Q (.bool false) σ):aU 4 (.ref 516) [.inst 526 dm,.inst 449 dw,.lst ea] σ Q:=by
 refine aC (gN) rfl λL=>?_
 kcf_m;kd_p;refine bh ?_;kd_p;refine aN he (by exact Nat.zero_le _) ?_
 kd_p;exact q
structure Laid(σ af:AH)(dw ha:Addr)(o nm mk cl:V)(pc:Nat)(hist:List V)(es:List Nat)(ps:List (Addr×Nat)):Prop where
 snd:ps.map (·.2)=es
 hi:af ha=some (.list (hist++ps.map λp=>.inst 449 p.1))
 at_:∀p∈ps,af p.1=some (.dict (aK o (.int ((pc:Int)+1)) (.int (p.2:Nat)) nm mk cl))
 new:∀p∈ps,σ p.1=none
 nd:(ps.map (·.1)).Nodup
 kept:Kept σ af [dw,ha]
end
namespace fH
@[reducible] noncomputable def P(σ:AH)(Q:V->AH->Prop)(d dw dm ha:Addr)(o nm mk cl:V)(s:Str)(pc a:Nat)(ea:Addr)(e0:Nat)(es:List Nat)(hist:List V):Prop:=∀(ho:jt o)(hn:jt nm)(AY:jt mk)(hc:jt cl)(Ow:es.length<=1000)(zL:hist.length<=100000)(hm:σ dm=some (.dict (ck s d ha)))(hw:σ dw=some (.dict (aK o (.int pc) (.int a) nm mk cl)))(hh:σ ha=some (.list hist))(he:σ ea=some (.list ((e0::es).map λi=>.int (i:Nat))))(I1:ea≠ha)(q:∀ps af,Laid σ af dw ha o nm mk cl pc hist es.reverse ps->af dw=some (.dict (aK o (.int ((pc:Int)+1)) (.int e0) nm mk cl))->Q (.bool true) af),aU 4 (.ref 516) [.inst 526 dm,.inst 449 dw,.lst ea] σ Q
noncomputable def Q_:=UU λσ=>UU λQ=>UU λd=>UU λdw=>UU λdm=>UU λha=>UU λo=>UU λnm=>UU λmk=>UU λcl=>UU λs=>UU λpc=>UU λa=>UU λea=>UU λe0=>UU (P σ Q d dw dm ha o nm mk cl s pc a ea e0)
noncomputable def x_:=xx Q_ ((λ_=>none),(λ_ _=>True),(0:Nat),(0:Nat),(0:Nat),(0:Nat),.none,.none,.none,.none,"",0,0,(0:Nat),0,[],[])
def σ:=x_.1
def Q:=x_.2.1
def d:=x_.2.2.1
def dw:=x_.2.2.2.1
def dm:=x_.2.2.2.2.1
def ha:=x_.2.2.2.2.2.1
def o:=x_.2.2.2.2.2.2.1
def nm:=x_.2.2.2.2.2.2.2.1
def mk:=x_.2.2.2.2.2.2.2.2.1
def cl:=x_.2.2.2.2.2.2.2.2.2.1
def s:=x_.2.2.2.2.2.2.2.2.2.2.1
def pc:=x_.2.2.2.2.2.2.2.2.2.2.2.1
def a:=x_.2.2.2.2.2.2.2.2.2.2.2.2.1
def ea:=x_.2.2.2.2.2.2.2.2.2.2.2.2.2.1
def e0:=x_.2.2.2.2.2.2.2.2.2.2.2.2.2.2.1
def es:=x_.2.2.2.2.2.2.2.2.2.2.2.2.2.2.2.1
def hist:=x_.2.2.2.2.2.2.2.2.2.2.2.2.2.2.2.2
theorem go:P σ Q d dw dm ha o nm mk cl s pc a ea e0 es hist:=by
 intro ho hn AY hc Ow zL hm hw hh he I1 q;have co:=(bZ).1;have cw:=(d4).1;have Hc:dm≠dw:=λz=>by rw[z,hw]at hm;cases hm
 have n2:ha≠dw:=λz=>by rw[z,hw]at hh;cases hh
 have n3:dm≠ha:=λz=>by rw[z,hh]at hm;cases hm
 have n4:ea≠dw:=λz=>by rw[z,hw]at he;cases he
 refine aC (gN) rfl λL=>?_
 kcf_m;kd_p;refine bh ?_;kd_p;refine aN he (by simp;exact aG (.l .A (.k 1000) (.g .A (.k 999999))) rfl Ow) ?_
 kd_p
 try refine ite_ff (by simp;lia) ?_
 kd_p;refine cU ?_;kd_p;refine ax cw (bA) hw (v:=.int pc) rfl (bW _) ?_;kd_p;refine aP cw (bA) hw bT ?_;have e2:b7 (aK o (.int pc) (.int a) nm mk cl) "pc" (.int ((pc:Int)+1))=aK o (.int ((pc:Int)+1)) (.int a) nm mk cl:=rfl;rw[e2];kd_p;refine fW ?_;kd_p;refine qf ?_;kd_p;refine n9 (x:=.int e0) (xs:=es.map λi=>.int (i:Nat)) (by rw[AH.ae _ _ n4];exact he) (by refine qE ?_;exact aG (.l .A (.k 1000) (.g .A (.k 100000))) rfl Ow) ?_
 intro ra pU;have Et:=AH.aT pU;have m1:dw≠ra:=λz=>by rw[z]at hw;rw[hw]at Et;cases Et
 have m3:ha≠ra:=λz=>by rw[z]at hh;rw[hh]at Et;cases Et
 refine⟨_,_,dN (AH.aa _ _ _),?_⟩;refine dM (λvs ρ af=>TL λds rs ps=>O0 (es.reverse=ds++rs) (vs=rs.map (λi=>.int (i:Nat))) (Laid σ af dw ha o nm mk cl pc hist ds ps) (af dw=some (.dict (aK o (.int ((pc:Int)+1)) (.int a) nm mk cl))) (af ra=some (.list (es.map λi=>.int (i:Nat)).reverse)) (at_ ρ "self"=some (.inst 526 dm)) (at_ ρ "way"=some (.inst 449 dw)) (at_ ρ "ends"=some (.lst ea))) ?_ ?_ ?_ _ _ _ ?_
 ·rintro vs ρ aI ⟨ds,rs,ps,q1,q2,LD,q4,q5,l1,l2,l3⟩
  exact q5
 ·rintro v vs ρ aI ⟨ds,rs,ps,q1,q2,LD,q4,q5,l1,l2,l3⟩
  cases rs with
  | nil=>cases q2
  | cons e rs=>
   rw[List.map_cons,List.cons.injEq]at q2;obtain⟨rfl,rfl⟩:=q2;have JR:=LD.kept _ _ hm (by simp[Hc,n3])
   have tZ:(hist++ps.map λp=>V.inst 449 p.1).length<=1000000:=by
    have h1:=congrArg List.length LD.snd;have h2:=congrArg List.length q1;simp at h1 h2 ⊢;exact gf (.f .A (.a .B (.a .C .O)) (.e .D .B (.l .A (.k 1000) (.l .E (.k 100000) (.g (.a .E .D) (.k 1000000)))))) rfl h2 h1 Ow zL
   kd_p
   (refine aA ?_ rfl rfl)
   refine aB ?_;kd_p;refine⟨_,a9 cw (iH) (dS).1 q4 rfl,(dS).2,?_⟩;kd_p;refine ax cw (bA) q4 (v:=.int ((pc:Int)+1)) rfl (bW _) ?_;kd_p;refine aU.call (i3 ho hn AY hc q4 λd2 hd2=>?_)
   have o1:dw≠d2:=λz=>by rw[z,hd2]at q4;cases q4
   have o2:dm≠d2:=λz=>by rw[z,hd2]at JR;cases JR
   have o3:ha≠d2:=λz=>by have:=LD.hi;rw[z,hd2]at this;cases this
   have o4:ra≠d2:=λz=>by rw[z,hd2]at q5;cases q5
   kd_p
   (refine ag ?_)
   kd_p;refine aV ?_;kd_p;refine aP cw (cL) (AH.aa _ _ _) bT ?_;have e3:b7 (aK o (.int ((pc:Int)+1)) (.int a) nm mk cl) "at" (.int (e:Nat))=aK o (.int ((pc:Int)+1)) (.int (e:Nat)) nm mk cl:=rfl;rw[e3,AH.bS];kd_p;refine aB ?_;kd_p;refine ax co (cI) (by rw[AH.ae _ _ o2];exact JR) (v:=.lst ha) rfl (c5 _) ?_
   refine⟨_,bw PySem.F.slot_list_append PySem.F.type_list_append (by rw[AH.ae _ _ o3];exact LD.hi),az,?_⟩
   kd_p;refine aZ (by rw[AH.ae _ _ o3];exact LD.hi) tZ ?_
   kd_p;have Qn:σ d2=none:=LD.kept.gone hd2 (by simp[Ne.symm o1,Ne.symm o3])
   refine⟨ds++[e],rs,ps++[(d2,e)],by rw[q1];exact(List.append_assoc _ [_] _).symm,rfl,⟨by simp[LD.snd],?_,?_,?_,?_,?_⟩,?_,?_,by wtm_at "a",by wtm_at "a",by wtm_at "a"⟩
   ·rw[AH.aa];simp
   ·intro p hp
    rcases List.mem_append.mp hp with h | h
    ·have h1:=LD.at_ p h
     rw[AH.ae _ _ (f7 h1 LD.hi),AH.ae _ _ (by exact ne_sn h1 hd2)];exact h1
    ·rw[List.mem_singleton]at h;subst h
     rw[AH.ae _ _ (Ne.symm o3)];exact AH.aa _ _ _
   ·intro p hp
    rcases List.mem_append.mp hp with h | h
    ·exact LD.new p h
    ·rw[List.mem_singleton]at h;subst h;exact Qn
   ·rw[List.map_append,List.nodup_append]
    refine⟨LD.nd,by exact Ac,λx hx y hy e=>?_⟩
    simp at hy;subst hy;subst e;obtain⟨p,hp,rfl⟩:=List.mem_map.mp hx;rw[LD.at_ p hp]at hd2;cases hd2
   ·intro b ob eb nb
    have Vh:=nb;simp at Vh;have h1:=LD.kept b ob eb nb;rw[AH.ae _ _ Vh.2,AH.ae _ _ (by exact ne_sn h1 hd2)];exact h1
   ·rw[AH.ae _ _ (Ne.symm n2),AH.ae _ _ o1];exact q4
   ·rw[AH.ae _ _ (Ne.symm m3),AH.ae _ _ o4];exact q5
 ·rintro ρ aI ⟨ds,rs,ps,q1,q2,LD,q4,q5,l1,l2,l3⟩
  have:rs=[]:=by cases rs with | nil=>rfl | cons p rs=>cases q2
  subst this;rw[List.append_nil]at q1;subst q1;have Ou:=LD.kept _ _ he (by simp[n4,I1])
  kd_p
  (refine ag ?_)
  kd_p;refine cz (j:=0) (v:=.int e0) Ou (by rfl) (by rfl) (by decide) ?_
  refine aV ?_;kd_p;refine aP cw (cL) q4 bT ?_;have e3:b7 (aK o (.int ((pc:Int)+1)) (.int a) nm mk cl) "at" (.int e0)=aK o (.int ((pc:Int)+1)) (.int e0) nm mk cl:=rfl;rw[e3];kd_p;refine q ps _ ⟨LD.snd,?_,λp hp=>?_,LD.new,LD.nd,LD.kept.trans (Kept.put (by exact .head _))⟩ (AH.aa _ _ _)
  ·rw[AH.ae _ _ n2];exact LD.hi
  ·rw[AH.ae]
   ·exact LD.at_ p hp
   ·intro z;have:=LD.new p hp;rw[z,hw]at this;cases this
 ·refine⟨[],es.reverse,[],rfl,by exact(List.map_reverse ..).symm,⟨rfl,?_,by exact nofun,by exact nofun,by exact .nil,?_⟩,?_,AH.aa _ _ _,by wtm_at "a",by wtm_at "a",by wtm_at "a"⟩
  ·rw[AH.ae _ _ m3,AH.ae _ _ n2,hh];simp
  ·exact(Kept.put (by exact .head _)).trans (Kept.new pU)
  ·rw[AH.ae _ _ m1,AH.aa]
end fH
theorem vU{σ:AH}{Q:V->AH->Prop}{d dw dm ha:Addr}{o nm mk cl:V}{s:Str}{pc a:Nat}{ea:Addr}{e0:Nat}{es:List Nat}{hist:List V}:fH.P σ Q d dw dm ha o nm mk cl s pc a ea e0 es hist:=xa (Q:=fH.Q_) fH.go (σ,Q,d,dw,dm,ha,o,nm,mk,cl,s,pc,a,ea,e0,es,hist)
section
variable{σ:AH}{Q:V->AH->Prop}{d dw dm ha:Addr}{o nm mk cl:V}{s:Str}{pc a:Nat}
end
end
section
section
variable{σ:AH}{Q:V->AH->Prop}{d dw dm ha:Addr}{o nm mk cl:V}{s:Str}{pc a:Nat}
theorem Gk(ho:jt o)(hc:jt cl){av ar al dp:Addr}{key:Str}{rf:List Str}{vals:List (Str×V)}{log:List V}{st lim:Int}{n:Nd}(hm:σ dm=some (.dict (ck s d ha)))(hw:σ dw=some (.dict (aK o (.int pc) (.int a) nm mk cl)))
  (H:eT σ d av ar al rf vals log st lim) (hx:(dg vals key).getD (.str "")=.inst 166 dp) (hd:σ dp=some (.dict [("node",n.v)])) (Ro:dp≠dw) (hz:n.size<=1000) (ht:n.text<=1000) (hr:∀o∈rawOf n,∀g,o.goal=some g->cF (rawOf n) g)
  (q:∀ob af,σ ob=none->af ob=some (.list ((codeOf n).map Ord.v))->af dw=some (.dict (aK (.lst ob) (.int 0) (.int a) nm mk (.tup [cl,.tup [o,.int ((pc:Int)+1)]])))->Kept σ af [dw]->Q (.bool true) af):
  aU 7 (.ref 523) [.inst 526 dm,.tup [.str "name",.str key],.inst 449 dw] σ Q:=by
 have co:=(bZ).1;have cw:=(d4).1;have cp:=(bt).1;have nv:∀u,n.v≠.glob u:=λu z=>by rw[n.v_eq]at z;cases z
 refine aC (qI) rfl λL=>?_
 kcf_m
 (refine au (aA ?_ rfl rfl))
 refine aB ?_;kd_p;refine ax co (dQ) hm (v:=.inst 582 d) rfl (mA _ _) ?_;refine⟨_,a9 cp (dI) (bX).1 H.h rfl,(bX).2,?_⟩;kd_p;refine aU.call ((i0 H ?_).less (by decide))
 rw[hx];kd_p;refine aY ?_;refine aF ?_;kd_p;refine aU.call ((ku hd ?_).less (by decide))
 kd_p
 (refine ag ?_)
 kd_p;refine ax cw (di) hw (v:=cl) rfl hc ?_;kd_p;refine ax cw (c7) hw (v:=o) rfl ho ?_;kd_p;refine ax cw (bA) hw (v:=.int pc) rfl (bW _) ?_;kd_p;refine aV ?_;kd_p;refine aP cw (di) hw bT ?_;have e1:∀x,b7 (aK o (.int pc) (.int a) nm mk cl) "calls" x=aK o (.int pc) (.int a) nm mk x:=λ_=>rfl
 rw[e1];kd_p
 (refine ag ?_)
 kd_p;refine aF ?_;refine cO ?_;refine aF ?_;kd_p;refine aU.call ((sv (v:=n.v) (by rw[AH.ae _ _ Ro];exact hd) nv ?_).less (by decide))
 refine aU.call ((su (n:=n) hz ht hr ?_).less (by decide))
 intro ob aI kQ Tq K;have Xz:ob≠dw:=λz=>by rw[z,AH.aa]at kQ;cases kQ
 have s1:=K _ _ (AH.aa _ _ _) (by exact nn)
 kd_p;refine aV ?_;kd_p;refine aP cw (c7) s1 bT ?_;have e2:∀x y,b7 (aK o (.int pc) (.int a) nm mk x) "orders" y=aK y (.int pc) (.int a) nm mk x:=λ_ _=>rfl
 rw[e2];kd_p;refine aV ?_;kd_p;refine aP cw (bA) (AH.aa _ _ _) bT ?_;have e3:∀x y,b7 (aK y (.int pc) (.int a) nm mk x) "pc" (.int 0)=aK y (.int 0) (.int a) nm mk x:=λ_ _=>rfl
 rw[e3,AH.bS];kd_p;refine q ob _ (AH.aT kQ) ?_ (AH.aa _ _ _) (((Kept.put (by exact .head _)).trans K.to).trans (Kept.put (by exact .head _)))
 rw[AH.ae _ _ Xz];exact Tq
theorem tW{b:Bool}(ho:jt o)(hn:jt nm)(AY:jt mk)(hc:jt cl){hist:List V}(hs:s.length<=1000)(rM:a<=1000)(El:(gz b s a).length<=1001)(zL:hist.length<=100000)(hm:σ dm=some (.dict (ck s d ha)))(hw:σ dw=some (.dict (aK o (.int pc) (.int a) nm mk cl)))
  (hh:σ ha=some (.list hist)) (q:∀e es,gz b s a=e::es->∀ps af,Laid σ af dw ha o nm mk cl pc hist es.reverse ps->af dw=some (.dict (aK o (.int ((pc:Int)+1)) (.int e) nm mk cl))->Q (.bool true) af) (q':gz b s a=[]->∀af,Kept σ af []->Q (.bool false) af):
  aU 5 (.ref 509) [.inst 526 dm,.tup [.str "ways",.str (Dn b)],.inst 449 dw] σ Q:=by
 have co:=(bZ).1;have cw:=(d4).1;refine aC (dD) rfl λL=>?_
 kcf_m
 (refine au (aA ?_ rfl rfl))
 kd_p;refine aq rfl ?_;kd_p;refine aq rfl ?_;kd_p;refine aB ?_;kd_p;refine⟨_,a9 co (lB) (gR).1 hm rfl,(gR).2,?_⟩;kd_p;refine aF ?_;kd_p;refine ax co (cJ) hm (v:=.str s) rfl (ia _) ?_;kd_p;refine ax cw (cL) hw (v:=.int a) rfl (bW _) ?_;kd_p;refine aU.call ((Au hs rM ?_).less (by decide))
 intro ea GO;have I1:∀{x ob},σ x=some ob->x≠ea:=λ{x ob} hx z=>by rw[z,GO]at hx;cases hx
 revert q q' El;generalize gz b s a=l;intro El q q';kd_p;cases l with
 | nil=>exact aU.call (xT (AH.aa _ _ _) (q' rfl _ (Kept.new GO)))
 | cons e es=>
  refine aU.call (vU ho hn AY hc (e0:=e) (es:=es) (hist:=hist) (by simpa using El) zL (by rw[AH.ae _ _ (I1 hm)];exact hm) (by rw[AH.ae _ _ (I1 hw)];exact hw) (by rw[AH.ae _ _ (I1 hh)];exact hh) (AH.aa _ _ _) (Ne.symm (I1 hh)) λps af LD sd=>?_)
  exact q e es rfl ps af ⟨LD.snd,LD.hi,LD.at_,λp hp=>AH.aT (LD.new p hp),LD.nd,(Kept.new GO).trans LD.kept⟩ sd
theorem vV(ho:jt o)(hc:jt cl){av ar al dp:Addr}{key:Str}{rf:List Str}{vals:List (Str×V)}{log:List V}{st lim:Int}{n:Nd}(hm:σ dm=some (.dict (ck s d ha)))(hw:σ dw=some (.dict (aK o (.int pc) (.int a) nm mk cl)))
  (H:eT σ d av ar al rf vals log st lim) (hx:(dg vals key).getD (.str "")=.inst 166 dp) (hd:σ dp=some (.dict [("node",n.v)])) (Ro:dp≠dw) (hz:n.size<=1000) (ht:n.text<=1000) (hr:∀o∈rawOf n,∀g,o.goal=some g->cF (rawOf n) g)
  (q:∀ob af,σ ob=none->af ob=some (.list ((codeOf n).map Ord.v))->af dw=some (.dict (aK (.lst ob) (.int 0) (.int a) nm mk (.tup [cl,.tup [o,.int ((pc:Int)+1)]])))->Kept σ af [dw]->Q (.bool true) af):
  aU 8 (.ref 509) [.inst 526 dm,.tup [.str "ask",.tup [.str "name",.str key]],.inst 449 dw] σ Q:=by
 have co:=(bZ).1;refine aC (dD) rfl λL=>?_
 kcf_m
 (refine au (aA ?_ rfl rfl))
 kd_p;refine aq rfl ?_;kd_p;refine aq rfl ?_;kd_p;refine aq rfl ?_;kd_p;refine aB ?_;kd_p;refine⟨_,a9 co (qL) (kj).1 hm rfl,(kj).2,?_⟩;kd_p;exact aU.call (Gk ho hc hm hw H hx hd Ro hz ht hr q)
theorem tV(q:Q (.bool false) σ):aU 1 (.ref 509) [.inst 526 dm,.tup [.str "fail"],.inst 449 dw] σ Q:=by
 refine aC (dD) rfl λL=>?_
 kcf_m
 (refine au (aA ?_ rfl rfl))
 kd_p;refine aq rfl ?_;kd_p;exact q
theorem rj{hist:List V}(hm:σ dm=some (.dict (ck s d ha)))(hw:σ dw=some (.dict (aK o (.int pc) (.int a) nm mk cl)))(hh:σ ha=some (.list hist))(zL:hist.length<=100000)
  (q:∀d2,σ d2=none->Q (.bool true) (((σ.put d2 (.dict (aK .none (.int 0) (.int 0) .none .none .none))).put ha (.list (hist++[.inst 449 d2]))).put dw (.dict (aK o (.int ((pc:Int)+1)) (.int a) nm mk cl)))):aU 4 (.ref 509) [.inst 526 dm,.tup [.str "fence"],.inst 449 dw] σ Q:=by
 have co:=(bZ).1;have cw:=(d4);have n1:ha≠dw:=λz=>by rw[z,hw]at hh;cases hh
 refine aC (dD) rfl λL=>?_
 kcf_m
 (refine au (aA ?_ rfl rfl))
 kd_p;refine aq rfl ?_;kd_p;refine aq rfl ?_;kd_p;refine aq rfl ?_;kd_p;refine aq rfl ?_;kd_p;refine aq rfl ?_;kd_p;refine aB ?_;kd_p;refine ax co (cI) hm (v:=.lst ha) rfl (c5 _) ?_;refine⟨_,bw PySem.F.slot_list_append PySem.F.type_list_append hh,az,?_⟩;refine cO ?_;refine iP cw.2.2.1 ?_;kd_p;refine aU.call ((sS λd2 hd2=>?_).less (by decide))
 have n2:ha≠d2:=λz=>by rw[z,hd2]at hh;cases hh
 have n3:dw≠d2:=λz=>by rw[z,hd2]at hw;cases hw
 refine aZ (by rw[AH.ae _ _ n2];exact hh) (by exact Fb zL) ?_
 kd_p;have w6:((σ.put d2 (.dict (aK .none (.int 0) (.int 0) .none .none .none))).put ha (.list (hist++[.inst 449 d2]))) dw=some (.dict (aK o (.int pc) (.int a) nm mk cl)):=by rw[AH.ae _ _ (Ne.symm n1),AH.ae _ _ n3];exact hw
 refine cU ?_;kd_p;refine ax cw.1 (bA) w6 (v:=.int pc) rfl (bW _) ?_;kd_p;refine aP cw.1 (bA) w6 bT ?_;have e9:∀x a y z u v,b7 (aK x (.int pc) a y z u) "pc" v=aK x v a y z u:=λ_ _ _ _ _ _=>rfl
 rw[e9];kd_p;exact q d2 hd2
theorem oz(ho:jt o)(hn:jt nm)(AY:jt mk)(hc:jt cl){hist:List V}(hm:σ dm=some (.dict (ck s d ha)))(hw:σ dw=some (.dict (aK o (.int pc) (.int a) nm mk cl)))(hh:σ ha=some (.list hist))(zL:hist.length<=100000)
  (q:∀d2,σ d2=none->Q (.bool true) (((σ.put d2 (.dict (aK o (.int pc) (.int a) nm mk cl))).put ha (.list (hist++[.inst 449 d2]))).put dw (.dict (aK o (.int ((pc:Int)+1)) (.int a) nm mk cl)))):aU 4 (.ref 509) [.inst 526 dm,.tup [.str "succeed"],.inst 449 dw] σ Q:=by
 have co:=(bZ).1;have cw:=(d4).1;have n1:ha≠dw:=λz=>by rw[z,hw]at hh;cases hh
 refine aC (dD) rfl λL=>?_
 kcf_m
 (refine au (aA ?_ rfl rfl))
 kd_p;refine aq rfl ?_;kd_p;refine aq rfl ?_;kd_p;refine aq rfl ?_;kd_p;refine aq rfl ?_;kd_p;refine aq rfl ?_;kd_p;refine aq rfl ?_;kd_p;refine aB ?_;kd_p;refine ax co (cI) hm (v:=.lst ha) rfl (c5 _) ?_;refine⟨_,bw PySem.F.slot_list_append PySem.F.type_list_append hh,az,?_⟩;refine cO ?_;refine aB ?_;kd_p;refine⟨_,a9 cw (iH) (dS).1 hw rfl,(dS).2,?_⟩;kd_p;refine ax cw (bA) hw (v:=.int pc) rfl (bW _) ?_;kd_p;refine aU.call (i3 ho hn AY hc hw λd2 hd2=>?_)
 have n2:ha≠d2:=λz=>by rw[z,hd2]at hh;cases hh
 have n3:dw≠d2:=λz=>by rw[z,hd2]at hw;cases hw
 refine aZ (by rw[AH.ae _ _ n2];exact hh) (by exact Fb zL) ?_
 kd_p;have w6:((σ.put d2 (.dict (aK o (.int pc) (.int a) nm mk cl))).put ha (.list (hist++[.inst 449 d2]))) dw=some (.dict (aK o (.int pc) (.int a) nm mk cl)):=by rw[AH.ae _ _ (Ne.symm n1),AH.ae _ _ n3];exact hw
 refine cU ?_;kd_p;refine ax cw (bA) w6 (v:=.int pc) rfl (bW _) ?_;kd_p;refine aP cw (bA) w6 bT ?_;have e9:∀x a y z u v,b7 (aK x (.int pc) a y z u) "pc" v=aK x v a y z u:=λ_ _ _ _ _ _=>rfl
 rw[e9];kd_p;exact q d2 hd2
theorem tU{PN o':V}{p':Int}(hm:σ dm=some (.dict (ck s d ha)))(hw:σ dw=some (.dict (aK o (.int pc) (.int a) nm mk (.tup [PN,.tup [o',.int p']]))))
  (q:Q (.bool true) (σ.put dw (.dict (aK o' (.int p') (.int a) nm mk PN)))):
  aU 5 (.ref 509) [.inst 526 dm,.tup [.str "done"],.inst 449 dw] σ Q:=by
 have co:=(bZ).1;have cw:=(d4).1;refine aC (dD) rfl λL=>?_
 kcf_m
 (refine au (aA ?_ rfl rfl))
 kd_p;refine aq rfl ?_;kd_p;refine aq rfl ?_;kd_p;refine aq rfl ?_;kd_p;refine aq rfl ?_;kd_p
 (refine ag ?_)
 kd_p;refine ax cw (di) hw (v:=.tup [PN,.tup [o',.int p']]) rfl (tE _) ?_;kd_p;refine aV ?_;kd_p;refine aP cw (di) hw bT ?_;have e1:∀x y,b7 (aK o (.int pc) (.int a) nm mk y) "calls" x=aK o (.int pc) (.int a) nm mk x:=λ_ _=>rfl
 rw[e1];kd_p;refine aV ?_;kd_p;refine aP cw (c7) (AH.aa _ _ _) bT ?_;have e2:∀x y,b7 (aK o (.int pc) (.int a) nm mk x) "orders" y=aK y (.int pc) (.int a) nm mk x:=λ_ _=>rfl
 rw[e2,AH.bS];kd_p;refine aV ?_;kd_p;refine aP cw (bA) (AH.aa _ _ _) bT ?_;have e3:∀x y z,b7 (aK y (.int pc) (.int a) nm mk x) "pc" z=aK y z (.int a) nm mk x:=λ_ _ _=>rfl
 rw[e3,AH.bS];kd_p;exact q
end
end
section
section
variable{σ:AH}{Q:V->AH->Prop}{d dw dm ha:Addr}{o nm mk cl:V}{s:Str}{pc a:Nat}{n:Nat}
theorem qx{X:Int->AH->Prop}{more:List V}(hm:σ dm=some (.dict (ck s d ha)))(h:cx n X (.ref 495) [.inst 526 dm,.tup (.str "one"::more),.inst 449 dw] σ Q):cx (n+1) X (.ref 488) [.inst 526 dm,.tup (.str "one"::more),.inst 449 dw] σ Q:=by
 have co:=(bZ).1;have cw:=(d4).1;refine dX (dj) rfl λL=>?_
 kcf_m
 (first | refine au (aA ?_ rfl rfl) | refine au (ag ?_))
 kd_p;refine aq rfl ?_;kd_p;refine aB ?_;kd_p;refine⟨_,a9 co (mU) (ik).1 hm rfl,(ik).2,?_⟩;kd_p;exact cx.call h λ_ _ x=>x
theorem d3{word:Str}{more:List V}(h1:(word==("one":Str))=false)(h2:(word==("split":Str))=false)(h3:(word==("jump":Str))=false)(h4:(word==("mark":Str))=false)(h5:([("name":Str),"set","gain"].contains word)=false)(h6:(word==("place":Str))=false)(hm:σ dm=some (.dict (ck s d ha)))
  (h:aU n (.ref 509) [.inst 526 dm,.tup (.str word::more),.inst 449 dw] σ Q):aU (n+1) (.ref 488) [.inst 526 dm,.tup (.str word::more),.inst 449 dw] σ Q:=by
 have co:=(bZ).1;refine aC (dj) rfl λL=>?_
 kcf_m
 (first | refine au (aA ?_ rfl rfl) | refine au (ag ?_))
 kd_p;refine aq rfl ?_;kd_p
 try refine ite_ff h1 ?_
 kd_p;refine aq rfl ?_;kd_p
 try refine ite_ff h2 ?_
 kd_p;refine aq rfl ?_;kd_p
 try refine ite_ff h3 ?_
 kd_p;refine aq rfl ?_;kd_p
 try refine ite_ff h4 ?_
 kd_p;refine aq rfl ?_;kd_p;refine aq rfl ?_;kd_p;refine aq rfl ?_;kd_p;refine bF (l:=["name","set","gain"]) ?_;kd_p
 try refine ite_ff h5 ?_
 kd_p;refine aq rfl ?_;kd_p
 try refine ite_ff h6 ?_
 kd_p;refine aB ?_;kd_p;refine⟨_,a9 co (qN) (kn).1 hm rfl,(kn).2,?_⟩;kd_p;exact aU.call h
theorem vP{g:Nat}(hm:σ dm=some (.dict (ck s d ha)))(hw:σ dw=some (.dict (aK o (.int pc) (.int a) nm mk cl)))(q:Q (.bool true) (σ.put dw (.dict (aK o (.int g) (.int a) nm mk cl)))):aU 1 (.ref 488) [.inst 526 dm,.tup [.str "jump",.int g],.inst 449 dw] σ Q:=by
 have co:=(bZ).1;have cw:=(d4).1;refine aC (dj) rfl λL=>?_
 kcf_m
 (first | refine au (aA ?_ rfl rfl) | refine au (ag ?_))
 kd_p;refine aq rfl ?_;kd_p;refine aq rfl ?_;kd_p;refine aq rfl ?_;kd_p
 (first | refine aA ?_ rfl rfl | refine ag ?_)
 kd_p;refine aV ?_;kd_p;refine aP cw (bA) hw bT ?_;have e9:∀x a y z u v,b7 (aK x (.int pc) a y z u) "pc" v=aK x v a y z u:=λ_ _ _ _ _ _=>rfl
 rw[e9];kd_p;exact q
theorem tM(ho:jt o)(hn:jt nm)(AY:jt mk)(hc:jt cl){g:Nat}{hist:List V}(hm:σ dm=some (.dict (ck s d ha)))(hw:σ dw=some (.dict (aK o (.int pc) (.int a) nm mk cl)))(hh:σ ha=some (.list hist))(zL:hist.length<=100000)(q:∀d2,σ d2=none->Q (.bool true) (((σ.put d2 (.dict (aK o (.int g) (.int a) nm mk cl))).put ha (.list (hist++[.inst 449 d2]))).put dw (.dict (aK o (.int ((pc:Int)+1)) (.int a) nm mk cl)))):aU 4 (.ref 488) [.inst 526 dm,.tup [.str "split",.int g],.inst 449 dw] σ Q:=by
 have co:=(bZ).1;have cw:=(d4).1;have n1:ha≠dw:=λz=>by rw[z,hw]at hh;cases hh
 refine aC (dj) rfl λL=>?_
 kcf_m
 (first | refine au (aA ?_ rfl rfl) | refine au (ag ?_))
 kd_p;refine aq rfl ?_;kd_p;refine aq rfl ?_;kd_p;refine aB ?_;kd_p;refine ax co (cI) hm (v:=.lst ha) rfl (c5 _) ?_;refine⟨_,bw PySem.F.slot_list_append PySem.F.type_list_append hh,az,?_⟩;refine cO ?_;refine aB ?_;kd_p;refine⟨_,a9 cw (iH) (dS).1 hw rfl,(dS).2,?_⟩;kd_p;refine aU.call (i3 ho hn AY hc hw λd2 hd2=>?_)
 have n2:ha≠d2:=λz=>by rw[z,hd2]at hh;cases hh
 have n3:dw≠d2:=λz=>by rw[z,hd2]at hw;cases hw
 refine aZ (by rw[AH.ae _ _ n2];exact hh) (by exact Fb zL) ?_
 kd_p;have w6:((σ.put d2 (.dict (aK o (.int g) (.int a) nm mk cl))).put ha (.list (hist++[.inst 449 d2]))) dw=some (.dict (aK o (.int pc) (.int a) nm mk cl)):=by rw[AH.ae _ _ (Ne.symm n1),AH.ae _ _ n3];exact hw
 refine cU ?_;kd_p;refine ax cw (bA) w6 (v:=.int pc) rfl (bW _) ?_;kd_p;refine aP cw (bA) w6 bT ?_;have e9:∀x a y z u v,b7 (aK x (.int pc) a y z u) "pc" v=aK x v a y z u:=λ_ _ _ _ _ _=>rfl
 rw[e9];kd_p;exact q d2 hd2
theorem vQ(AY:jt mk)(hm:σ dm=some (.dict (ck s d ha)))(hw:σ dw=some (.dict (aK o (.int pc) (.int a) nm mk cl)))(q:Q (.bool true) (σ.put dw (.dict (aK o (.int ((pc:Int)+1)) (.int a) nm (.tup [mk,.int a]) cl)))):aU 1 (.ref 488) [.inst 526 dm,.tup [.str "mark"],.inst 449 dw] σ Q:=by
 have co:=(bZ).1;have cw:=(d4).1;refine aC (dj) rfl λL=>?_
 kcf_m
 (first | refine au (aA ?_ rfl rfl) | refine au (ag ?_))
 kd_p;refine aq rfl ?_;kd_p;refine aq rfl ?_;kd_p;refine aq rfl ?_;kd_p;refine aq rfl ?_;kd_p
 (first | refine aA ?_ rfl rfl | refine ag ?_)
 kd_p;refine ax cw (cS) hw (v:=mk) rfl AY ?_;kd_p;refine ax cw (cL) hw (v:=.int a) rfl (bW _) ?_;kd_p;refine aV ?_;kd_p;refine aP cw (cS) hw bT ?_;have e8:∀x,b7 (aK o (.int pc) (.int a) nm mk cl) "marks" x=aK o (.int pc) (.int a) nm x cl:=λ_=>rfl
 rw[e8];kd_p;refine cU ?_;kd_p;refine ax cw (bA) (AH.aa _ _ _) (v:=.int pc) rfl (bW _) ?_;kd_p;refine aP cw (bA) (AH.aa _ _ _) bT ?_;have e9:∀x a y z u v,b7 (aK x (.int pc) a y z u) "pc" v=aK x v a y z u:=λ_ _ _ _ _ _=>rfl
 rw[e9];kd_p;rw[AH.bS];exact q
theorem iZ{word:Str}{more:List V}{R:Bool->AH->Prop}(h1:(word==("one":Str))=false)(h2:(word==("split":Str))=false)(h3:(word==("jump":Str))=false)(h4:(word==("mark":Str))=false)(h5:([("name":Str),"set","gain"].contains word)=true)(hm:σ dm=some (.dict (ck s d ha)))
  (h:aU n (.ref 502) [.inst 526 dm,.tup (.str word::more),.inst 449 dw] σ (λv af=>∃b,v=.bool b/\R b af)) (q0:∀af,R false af->Q (.bool false) af)
  (q1:∀af,R true af->∃o pc at' nm mk cl,af dw=some (.dict (aK o (.int pc) at' nm mk cl))/\Q (.bool true) (af.put dw (.dict (aK o (.int (pc+1)) at' nm mk cl)))):aU (n+1) (.ref 488) [.inst 526 dm,.tup (.str word::more),.inst 449 dw] σ Q:=by
 have co:=(bZ).1;have cw:=(d4).1;refine aC (dj) rfl λL=>?_
 kcf_m
 (first | refine au (aA ?_ rfl rfl) | refine au (ag ?_))
 kd_p;refine aq rfl ?_;kd_p
 try refine ite_ff h1 ?_
 kd_p;refine aq rfl ?_;kd_p
 try refine ite_ff h2 ?_
 kd_p;refine aq rfl ?_;kd_p
 try refine ite_ff h3 ?_
 kd_p;refine aq rfl ?_;kd_p
 try refine ite_ff h4 ?_
 kd_p;refine aq rfl ?_;kd_p;refine aq rfl ?_;kd_p;refine aq rfl ?_;kd_p;refine bF (l:=["name","set","gain"]) ?_;kd_p
 try refine ite_tt h5 ?_
 kd_p;refine aY ?_;refine aB ?_;kd_p;refine⟨_,a9 co (qM) (km).1 hm rfl,(km).2,?_⟩;kd_p;refine aU.call (aU.mono h ?_);rintro v af ⟨b,rfl,r⟩;kd_p;cases b with
 | false=>
  kd_p;exact q0 af r
 | true=>
  obtain⟨o,pc,at',nm,mk,cl,hw,q⟩:=q1 af r;kd_p;refine cU ?_;kd_p;refine ax cw (bA) hw (v:=.int pc) rfl (bW _) ?_;kd_p;refine aP cw (bA) hw bT ?_;have e9:∀x a y z u v,b7 (aK x (.int pc) a y z u) "pc" v=aK x v a y z u:=λ_ _ _ _ _ _=>rfl
  rw[e9];kd_p;exact q
theorem tL{av ar al rd:Addr}{key:Str}{rf:List Str}{vals:List (Str×V)}{log:List V}{st lim:Int}(hm:σ dm=some (.dict (ck s d ha)))(hw:σ dw=some (.dict (aK o (.int pc) (.int a) nm mk cl)))(H:eT σ d av ar al rf vals log st lim)(hr:σ rd=some (.dict (fV key)))(hv:vals.length<=1000)(jd:log.length<=1000000)(ic:al≠av)(Eg:d≠av)(pU:rd≠av)(Qr:dw≠av)(BN:dw≠al)
  (q:rf.contains key=false->Q (.bool true) (((σ.put av (.dict (b7 vals key (.int a)))).put al (.list (log++[.tup [.str key,.int a]]))).put dw (.dict (aK o (.int ((pc:Int)+1)) (.int a) nm mk cl)))) (q':rf.contains key=true->Q (.bool false) σ):aU 2 (.ref 488) [.inst 526 dm,.tup [.str "place",.inst 208 rd],.inst 449 dw] σ Q:=by
 have co:=(bZ).1;have cw:=(d4).1;have cp:=(bt).1;refine aC (dj) rfl λL=>?_
 kcf_m
 (first | refine au (aA ?_ rfl rfl) | refine au (ag ?_))
 kd_p;refine aq rfl ?_;kd_p;refine aq rfl ?_;kd_p;refine aq rfl ?_;kd_p;refine aq rfl ?_;kd_p;refine aq rfl ?_;kd_p;refine aq rfl ?_;kd_p;refine aq rfl ?_;kd_p;refine bF (l:=["name","set","gain"]) ?_;kd_p;refine aq rfl ?_;kd_p;refine aY ?_;refine aB ?_;kd_p;refine ax co (dQ) hm (v:=.inst 582 d) rfl (mA _ _) ?_;refine⟨_,a9 cp (dq) (bK).1 H.h rfl,(bK).2,?_⟩;kd_p;refine ax cw (cL) hw (v:=.int a) rfl (bW _) ?_;kd_p;refine aU.call (fJ H hr hv jd ic (λhc=>?_) (λhc=>?_) Eg pU)
 rotate_left
 ·kd_p
  exact q' hc
 kd_p;have w6:((σ.put av (.dict (b7 vals key (.int a)))).put al (.list (log++[.tup [.str key,.int a]]))) dw=some (.dict (aK o (.int pc) (.int a) nm mk cl)):=by rw[AH.ae _ _ BN,AH.ae _ _ Qr];exact hw
 refine cU ?_;kd_p;refine ax cw (bA) w6 (v:=.int pc) rfl (bW _) ?_;kd_p;refine aP cw (bA) w6 bT ?_;have e9:∀x a y z u v,b7 (aK x (.int pc) a y z u) "pc" v=aK x v a y z u:=λ_ _ _ _ _ _=>rfl
 rw[e9];kd_p;exact q hc
end
end
section
structure bf where
 code:List Ord
 pc:Nat
 at_:Nat
 named:Named
 marks:List Nat
 calls:List (List Ord×Nat)
noncomputable def nY:Named->V
 | []=>.none
 | p::r=>.tup [nY r,.tup [fh p.1,.str p.2]]
noncomputable def qF:List Nat->V
 | []=>.none
 | m::r=>.tup [qF r,.int m]
set_option tactic.hygienic true in
noncomputable def bf.next(w:bf):bf:={ w with pc:=w.pc+1 }
abbrev bE:=List (Option bf)
inductive MA where
 | go(w:bf) | dead | over | err (b:Bool) | met
set_option tactic.hygienic true in
noncomputable def ow(C:Cf)(w:bf)(hist:bE)(h:HS)(q:Pl):MA×bE×HS:=match q.ends C.s w.at_ with
 | none=>(.dead,hist,h)
 | some e=>(.go { w.next with at_:=e.toNat },hist,h)
noncomputable def iU(C:Cf)(w:bf)(hist:bE)(h:HS)(k:Str)(v:V):MA×bE×HS:=if C.rf.contains k=true then (.dead,hist,h) else (.go w.next,hist,h.set k v)
set_option tactic.hygienic true in
noncomputable def kr(w:bf)(hist:bE)(h:HS)(es:List Nat):MA×bE×HS:=match es with
 | []=>(.dead,hist,h)
 | e::es=>(.go { w.next with at_:=e },es.map (λe=>some { w.next with at_:=e })++hist,h)
noncomputable def jF(C:Cf)(l:Lf)(w:bf)(hist:bE)(h:HS):MA×bE×HS:=match l with
 | .pl q=>ow C w hist h q
 | .dZ=>(match bu h.N with
  | .error b=>(.err b,hist,h)
  | .ok q=>ow C w hist h q)
 | .cV b=>kr w hist h (gz b C.s w.at_)
 | .ask=>(.go { w with code:=codeOf C.pn,pc:=0,calls:=(w.code,w.pc+1)::w.calls },hist,h)
 | .bM .fence=>(.go w.next,none::hist,h)
 | .bM .fail=>(.dead,hist,h)
 | .bM .abort=>(.over,hist,h)
 | .bM .cA=>(.go w.next,some w::hist,h)
 | .c0 k=>iU C w hist h k.2 (.int w.at_)
set_option tactic.hygienic true in
noncomputable def eP(C:Cf)(o:Ord)(w:bf)(hist:bE)(h:HS):MA×bE×HS:=match o with
 | .leaf l=>jF C l w hist h
 | .split g=>(.go w.next,some { w with pc:=g }::hist,h)
 | .bG g=>(.go { w with pc:=g },hist,h)
 | .mark=>(.go { w.next with marks:=w.at_::w.marks },hist,h)
 | .nm true r=>iU C { w with marks:=w.marks.tail } hist h r.2 (.str (cutText C (w.marks.headD 0) w.at_))
 | .nm false r=>(.go { w.next with marks:=w.marks.tail,named:=(r,cutText C (w.marks.headD 0) w.at_)::w.named },hist,h)
 | .dY=>(if w.marks.headD 0<w.at_ then .go { w.next with marks:=w.marks.tail } else .dead,hist,h)
 | .done=>(match w.calls with
  | []=>.met
  | (c,p)::r=>.go { w with code:=c,pc:=p,calls:=r },hist,h)
noncomputable def Rk(k:bf->bE->HS->Rs×HS):bE->HS->Rs×HS
 | [],h=>(.none,h)
 | none::_,h=>(.dv,h)
 | some w::p,h=>k w p h
noncomputable def rV(k:bf->bE->HS->Rs×HS)(w:bf)(x:MA×bE×HS):Rs×HS:=match x.1 with
 | .go w'=>k w' x.2.1 x.2.2
 | .dead=>Rk k x.2.1 x.2.2
 | .over=>(.dv,x.2.2)
 | .err b=>(.err b,x.2.2)
 | .met=>(.met w.at_ w.named.reverse,x.2.2)
noncomputable def bf.order(w:bf):Ord:=(w.code[w.pc]?).getD .done
noncomputable def fz(C:Cf):Nat->bf->bE->HS->Rs×HS
 | 0,_,_,h=>(.cut,h.tick)
 | f+1,w,hist,h=>rV (fz C f) w (eP C w.order w hist h.tick)
structure Mx where
 F:Fx
 dm:Addr
 ha:Addr
noncomputable def ko(M:Mx)(σ:AH)(oa:Addr)(code:List Ord):Prop:=σ oa=some (.list (code.map Ord.v))/\oa≠M.ha/\oa≠M.F.al
noncomputable def cW(M:Mx)(σ:AH):List (List Ord×Nat)->V->Prop
 | [],v=>v=.none
 | (c,p)::r,v=>∃v' oa,cW M σ r v'/\ko M σ oa c/\v=.tup [v',.tup [.lst oa,.int p]]
inductive pj(M:Mx)(σ:AH)(dw:Addr)(w:bf):Prop
 | mk(oa:Addr)(cl:V)(hw:σ dw=some (.dict (aK (.lst oa) (.int w.pc) (.int w.at_) (nY w.named) (qF w.marks) cl)))(ho:ko M σ oa w.code)(hc:cW M σ w.calls cl)
noncomputable def BF:List (Str×V):=aK .none (.int 0) (.int 0) .none .none .none
noncomputable def sO(M:Mx)(σ:AH)(dw:Addr):Option bf->Prop
 | some w=>pj M σ dw w
 | none=>σ dw=some (.dict BF)
noncomputable def dJ(M:Mx)(σ:AH)(D:List Addr):Prop:=∀x∈D,x=M.ha\/x=M.F.al\/∃l,σ x=some (.dict l)
section
variable{M:Mx}{σ af:AH}{D:List Addr}{oa dw:Addr}{code:List Ord}{w:bf}
theorem ko.kept(O:ko M σ oa code)(K:Kept σ af D)(W:dJ M σ D):ko M af oa code:=by
 refine⟨K _ _ O.1 λm=>?_,O.2⟩
 rcases W _ m with z | z | ⟨l,z⟩
 ·exact O.2.1 z
 ·exact O.2.2 z
 ·rw[O.1]at z;cases z
theorem cW.kept(K:Kept σ af D)(W:dJ M σ D):∀{l:List (List Ord×Nat)}{v:V},cW M σ l v->cW M af l v
 | [],_,h=>h
 | (_,_)::_,_,⟨v',oa,h1,h2,h3⟩=>⟨v',oa,cW.kept K W h1,h2.kept K W,h3⟩
theorem pj.kept(A:pj M σ dw w)(K:Kept σ af D)(W:dJ M σ D)(n:dw∉D):pj M af dw w:=by
 obtain⟨oa,cl,hw,ho,hc⟩:=A;exact⟨oa,cl,K _ _ hw n,ho.kept K W,cW.kept K W hc⟩
theorem sO.kept{x:Option bf}(A:sO M σ dw x)(K:Kept σ af D)(W:dJ M σ D)(n:dw∉D):sO M af dw x:=by
 cases x with
 | none=>exact K _ _ A n
 | some w=>exact pj.kept A K W n
theorem sO.dict{x:Option bf}(A:sO M σ dw x):∃l,σ dw=some (.dict l):=by
 cases x with
 | none=>exact⟨_,A⟩
 | some w=>obtain⟨oa,cl,hw,ho,hc⟩:=A;exact⟨_,hw⟩
theorem ux{l:List (List Ord×Nat)}{v:V}(h:cW M σ l v):v.isNone=l.isEmpty:=by
 cases l with
 | nil=>have:v=.none:=h;subst this;rfl
 | cons p r=>obtain⟨c,q⟩:=p;obtain⟨v',oa,_,_,rfl⟩:=h;rfl
end
structure zo(M:Mx)(ba:AH):Prop where
 d:∃o,ba M.F.d=some o
 av:∃o,ba M.F.av=some o
 ar:∃o,ba M.F.ar=some o
 al:∃o,ba M.F.al=some o
 dp:∃o,ba M.F.dp=some o
 dm:∃o,ba M.dm=some o
 ha:∃o,ba M.ha=some o
 rf:∀r∈M.F.refs,∃o,ba r.1=some o
 off:M.ha≠M.F.ar/\M.ha≠M.F.al
 My:M.dm≠M.F.d/\M.dm≠M.F.av
noncomputable def Mx.D(M:Mx):List Addr:=[M.F.d,M.F.av,M.F.al,M.ha]
structure eL(M:Mx)(ba σ:AH)(h:HS)(hist:List (Addr×Option bf)):Prop where
 bV:gL M.F σ h
 mt:σ M.dm=some (.dict (ck M.F.C.s M.F.d M.ha))
 hi:σ M.ha=some (.list (hist.map λp=>V.inst 449 p.1).reverse)
 cV:∀p∈hist,sO M σ p.1 p.2
 nd:(hist.map (·.1)).Nodup
 new:∀p∈hist,ba p.1=none
 rest:Kept ba σ M.D
structure wB(M:Mx)(ba σ:AH)(h:HS)(hist:List (Addr×Option bf))(dw:Addr)(w:bf):Prop where
 base:eL M ba σ h hist
 fresh:ba dw=none
 off:dw∉hist.map (·.1)
 cur:pj M σ dw w
section
variable{M:Mx}{ba σ af:AH}{h:HS}{hist:List (Addr×Option bf)}{dw x:Addr}{w:bf}
theorem zo.new(O:zo M ba)(hx:ba x=none):O0 (x≠M.F.d) (x≠M.F.av) (x≠M.F.ar) (x≠M.F.al) (∀r∈M.F.refs,x≠r.1) (x≠M.F.dp) (x≠M.dm) (x≠M.ha):=by
 have t:∀{y},(∃o,ba y=some o)->x≠y:=λ{y} ⟨o,e⟩ z=>by subst z;rw[hx]at e;cases e
 exact⟨t O.d,t O.av,t O.ar,t O.al,λr hr=>t (O.rf r hr),t O.dp,t O.dm,t O.ha⟩
theorem eL.gone(B:eL M ba σ h hist)(hx:σ x=none):ba x=none:=by
 refine B.rest.gone hx ?_;show x∉[M.F.d,M.F.av,M.F.al,M.ha];rw[xn];exact⟨ne_ns hx B.bV.host.h,ne_ns hx B.bV.host.v,ne_ns hx B.bV.host.l,ne_ns hx B.hi⟩
theorem eL.kept(O:zo M ba)(B:eL M ba σ h hist)(K:Kept σ af [x])(hx:ba x=none)(hd:∃l,σ x=some (.dict l))(no:x∉hist.map (·.1)):eL M ba af h hist:=by
 obtain⟨a1,a2,a3,a4,a5,a6,a7,a8⟩:=O.new hx;have W:dJ M σ [x]:=λy m=>by rw[List.mem_singleton]at m;subst m;exact .inr (.inr hd)
 refine⟨B.bV.yN K λy m=>?_,K _ _ B.mt (by simpa using Ne.symm a7),K _ _ B.hi (by simpa using Ne.symm a8),λp hp=>(B.cV p hp).kept K W ?_,B.nd,B.new,λb o e n=>K b o (B.rest b o e n) ?_⟩
 ·rw[List.mem_singleton]at m;subst m;exact⟨a1,a2,a3,a4,a5,a6⟩
 ·rw[gg];rintro rfl;exact no (List.mem_map_of_mem hp)
 ·rw[gg];exact ne_sn e hx
theorem eL.assign(O:zo M ba)(B:eL M ba σ h hist)(k:Str)(v:V):eL M ba ((σ.put M.F.av (.dict (b7 h.vals k v))).put M.F.al (.list (h.log++[.tup [.str k,v]]))) (h.set k v) hist:=by
 have K:Kept σ ((σ.put M.F.av (.dict (b7 h.vals k v))).put M.F.al (.list (h.log++[.tup [.str k,v]]))) [M.F.av,M.F.al]:=(Kept.put (by exact .head _)).trans (Kept.put (by exact .tail _ (.head _)))
 have W:dJ M σ [M.F.av,M.F.al]:=λy m=>by
  simp only[List.mem_cons,List.not_mem_nil,or_false]at m;rcases m with rfl | rfl
  ·exact .inr (.inr ⟨_,B.bV.host.v⟩)
  ·exact .inr (.inl rfl)
 have n:∀{y:Addr}{l:List (Str×V)},σ y=some (.dict l)->y≠M.F.av->y∉[M.F.av,M.F.al]:=λe n=>by rw[oy];exact⟨n,f7 e B.bV.host.l⟩
 refine⟨B.bV.assign k v,K _ _ B.mt (n B.mt O.My.2),K _ _ B.hi ?_,λp hp=>(B.cV p hp).kept K W ?_,B.nd,B.new,λb o e nb=>K b o (B.rest b o e nb) ?_⟩
 ·rw[oy];exact⟨vd B.hi B.bV.host.v,O.off.2⟩
 ·obtain⟨l,e⟩:=(B.cV p hp).dict
  exact n e (O.new (B.new p hp)).2
 ·have nb:b∉[M.F.d,M.F.av,M.F.al,M.ha]:=nb
  rw[xn]at nb;rw[oy];exact⟨nb.2.1,nb.2.2.1⟩
theorem eL.step(O:zo M ba)(B:eL M ba σ h hist):eL M ba (σ.put M.F.d (.dict (gA M.F.av M.F.ar M.F.al (h.steps+1) M.F.lim))) h.tick hist:=by
 have K:Kept σ (σ.put M.F.d (.dict (gA M.F.av M.F.ar M.F.al (h.steps+1) M.F.lim))) [M.F.d]:=Kept.put (by exact .head _)
 have W:dJ M σ [M.F.d]:=λy m=>by rw[List.mem_singleton]at m;subst m;exact .inr (.inr ⟨_,B.bV.host.h⟩)
 refine⟨B.bV.step,K _ _ B.mt (by simpa using O.My.1),K _ _ B.hi (by simpa using vd B.hi B.bV.host.h),λp hp=>(B.cV p hp).kept K W ?_,B.nd,B.new,λb o e nb=>K b o (B.rest b o e nb) ?_⟩
 ·rw[gg];exact(O.new (B.new p hp)).1
 ·have nb:b∉[M.F.d,M.F.av,M.F.al,M.ha]:=nb
  rw[xn]at nb;rw[gg];exact nb.1
theorem eL.lay(O:zo M ba)(B:eL M ba σ h hist){ps:List (Addr×Option bf)}(K:Kept σ af [dw,M.ha])(JQ:ba dw=none)(hd:∃l,σ dw=some (.dict l))(no:dw∉hist.map (·.1))(hi:af M.ha=some (.list ((hist.map λp=>V.inst 449 p.1).reverse++(ps.map λp=>V.inst 449 p.1).reverse)))
  (hw:∀p∈ps,sO M af p.1 p.2) (hn:∀p∈ps,σ p.1=none) (nd:(ps.map (·.1)).Nodup):eL M ba af h (ps++hist):=by
 obtain⟨a1,a2,a3,a4,a5,a6,a7,a8⟩:=O.new JQ;have W:dJ M σ [dw,M.ha]:=λy m=>by
  simp only[List.mem_cons,List.not_mem_nil,or_false]at m;rcases m with rfl | rfl
  ·exact .inr (.inr hd)
  ·exact .inl rfl
 have nh:∀{y:Addr}{l:List (Str×V)},σ y=some (.dict l)->y≠M.ha:=λe=>f7 e B.hi
 refine⟨B.bV.yN K λy m=>?_,K _ _ B.mt ?_,by rw[hi,List.map_append,List.reverse_append],λp hp=>?_,?_,λp hp=>?_,λb o e nb=>K b o (B.rest b o e nb) ?_⟩
 ·simp only[List.mem_cons,List.not_mem_nil,or_false]at m
  rcases m with rfl | rfl
  ·exact⟨a1,a2,a3,a4,a5,a6⟩
  ·exact⟨(nh B.bV.host.h).symm,(nh B.bV.host.v).symm,O.off.1,O.off.2,λr hr=>(nh (B.bV.rf r hr)).symm,(nh B.bV.pat).symm⟩
 ·rw[oy];exact⟨Ne.symm a7,nh B.mt⟩
 ·rcases List.mem_append.mp hp with h1 | h1
  ·exact hw p h1
  ·refine(B.cV p h1).kept K W ?_
   obtain⟨l,e⟩:=(B.cV p h1).dict;rw[oy];refine⟨?_,nh e⟩;rintro rfl;exact no (List.mem_map_of_mem h1)
 ·rw[List.map_append,List.nodup_append]
  refine⟨nd,B.nd,λx hx y hy e=>?_⟩
  subst e;obtain⟨p,hp,rfl⟩:=List.mem_map.mp hx;obtain⟨q,hq,e⟩:=List.mem_map.mp hy;obtain⟨l,e2⟩:=(B.cV q hq).dict;rw[e,hn p hp]at e2;cases e2
 ·rcases List.mem_append.mp hp with h1 | h1
  ·exact B.gone (hn p h1)
  ·exact B.new p h1
 ·have nb:b∉[M.F.d,M.F.av,M.F.al,M.ha]:=nb
  rw[xn]at nb;rw[oy];exact⟨ne_sn e JQ,nb.2.2.2⟩
theorem eL.pop(O:zo M ba){p:Addr×Option bf}(B:eL M ba σ h (p::hist)):eL M ba (σ.put M.ha (.list (hist.map λp=>V.inst 449 p.1).reverse)) h hist/\sO M (σ.put M.ha (.list (hist.map λp=>V.inst 449 p.1).reverse)) p.1 p.2/\ba p.1=none/\p.1∉hist.map (·.1):=by
 have K:Kept σ (σ.put M.ha (.list (hist.map λp=>V.inst 449 p.1).reverse)) [M.ha]:=Kept.put (by exact .head _)
 have W:dJ M σ [M.ha]:=λy m=>by rw[List.mem_singleton]at m;exact .inl m
 have nh:∀{y:Addr}{l:List (Str×V)},σ y=some (.dict l)->y∉[M.ha]:=λe=>by rw[gg];exact f7 e B.hi
 have nd:=B.nd;rw[List.map_cons,List.nodup_cons]at nd;have wk:∀q∈p::hist,sO M (σ.put M.ha (.list (hist.map λp=>V.inst 449 p.1).reverse)) q.1 q.2:=λq hq=>by
  obtain⟨l,e⟩:=(B.cV q hq).dict;exact(B.cV q hq).kept K W (nh e)
 refine⟨⟨B.bV.yN K λy m=>?_,K _ _ B.mt (nh B.mt),AH.aa _ _ _,λq hq=>wk q (by exact .tail _ (by assumption)),nd.2,λq hq=>B.new q (by exact .tail _ (by assumption)),λb o e nb=>K b o (B.rest b o e nb) ?_⟩,wk p (by exact .head _),B.new p (by exact .head _),nd.1⟩
 ·rw[List.mem_singleton]at m;subst m
  have OL:∀{y:Addr}{l:List (Str×V)},σ y=some (.dict l)->M.ha≠y:=λe=>(f7 e B.hi).symm
  exact⟨OL B.bV.host.h,OL B.bV.host.v,O.off.1,O.off.2,λr hr=>OL (B.bV.rf r hr),OL B.bV.pat⟩
 ·have nb:b∉[M.F.d,M.F.av,M.F.al,M.ha]:=nb
  rw[xn]at nb;rw[gg];exact nb.2.2.2
end
end
section
theorem qt(l:Named):jt (nY l):=λu h=>by cases l<;>cases h
theorem lj(l:List Nat):jt (qF l):=λu h=>by cases l<;>cases h
theorem oY(a:Addr):jt (.lst a):=λ_ h=>by cases h
theorem vJ:jt .none:=λ_ h=>by cases h
theorem Gj(l:List V):jt (.tup l):=λ_ h=>by cases h
theorem pB{M:Mx}{σ:AH}{l:List (List Ord×Nat)}{v:V}(h:cW M σ l v):jt v:=by
 cases l with
 | nil=>have:v=.none:=h;subst this;exact vJ
 | cons p r=>obtain⟨c,q⟩:=p;obtain⟨v',oa,_,_,rfl⟩:=h;exact Gj _
noncomputable def zp(M:Mx)(w:bf):Ord->Prop
 | .leaf l=>l.ok M.F.refs
 | .nm _ r=>r∈M.F.refs/\w.marks≠[]
 | .dY=>w.marks≠[]
 | .split _=>True
 | .bG _=>True
 | .mark=>True
 | .done=>w.calls≠[]
noncomputable def DL(n:Nd):Prop:=n.size<=1000/\n.text<=1000/\∀o∈rawOf n,∀g,o.goal=some g->cF (rawOf n) g
inductive SQ(M:Mx)(ba:AH)(hist:List (Addr×Option bf))(dw:Addr):MA×bE×HS->V->AH->Prop
 | go{w':bf}{w5:bE}{h':HS}{af:AH}(uM:List (Addr×Option bf))(eh:uM.map (·.2)=w5)(S:wB M ba af h' uM dw w'):SQ M ba hist dw (.go w',w5,h') (.bool true) af
 | dead{w5:bE}{h':HS}{af:AH}(eh:hist.map (·.2)=w5)(B:eL M ba af h' hist):SQ M ba hist dw (.dead,w5,h') (.bool false) af
inductive SX(M:Mx)(ba:AH)(R:MA×bE×HS)(num:Int)(af:AH):Prop
 | mk(b:Bool)(e:R.1=.err b)(en:num=wN b)(H:gL M.F af R.2.2)(K:Kept ba af M.D)
section
variable{M:Mx}{ba σ:AH}{h:HS}{hist:List (Addr×Option bf)}{dw:Addr}{w:bf}{oa:Addr}{cl:V}
theorem wB.put(O:zo M ba)(S:wB M ba σ h hist dw w){w':bf}(hw:σ dw=some (.dict (aK (.lst oa) (.int w.pc) (.int w.at_) (nY w.named) (qF w.marks) cl)))(ho:ko M σ oa w.code)(hc:cW M σ w.calls cl)(e1:w'.code=w.code)(e2:w'.calls=w.calls){f:List (Str×V)}(ef:f=aK (.lst oa) (.int w'.pc) (.int w'.at_) (nY w'.named) (qF w'.marks) cl):
  wB M ba (σ.put dw (.dict f)) h hist dw w':=by
 subst ef;have W:dJ M σ [dw]:=λy m=>by rw[List.mem_singleton]at m;subst m;exact .inr (.inr ⟨_,hw⟩)
 refine⟨S.base.kept O (Kept.put (by exact .head _)) S.fresh ⟨_,hw⟩ S.off,S.fresh,S.off,oa,cl,AH.aa _ _ _,?_,?_⟩
 ·rw[e1];exact ho.kept (Kept.put (by exact .head _)) W
 ·rw[e2];exact cW.kept (Kept.put (by exact .head _)) W hc
theorem wB.push(O:zo M ba)(S:wB M ba σ h hist dw w){w':bf}{x:Option bf}{d2:Addr}{f2 f:List (Str×V)}(hd2:σ d2=none)(hw:σ dw=some (.dict (aK (.lst oa) (.int w.pc) (.int w.at_) (nY w.named) (qF w.marks) cl)))(ho:ko M σ oa w.code)(hc:cW M σ w.calls cl)(e1:w'.code=w.code)(e2:w'.calls=w.calls)
  (ef:f=aK (.lst oa) (.int w'.pc) (.int w'.at_) (nY w'.named) (qF w'.marks) cl) (ex:match x with | none=>f2=BF | some v=>v.code=w.code/\v.calls=w.calls/\f2=aK (.lst oa) (.int v.pc) (.int v.at_) (nY v.named) (qF v.marks) cl):
  wB M ba (((σ.put d2 (.dict f2)).put M.ha (.list ((hist.map λp=>V.inst 449 p.1).reverse++[.inst 449 d2]))).put dw (.dict f)) h ((d2,x)::hist) dw w':=by
 subst ef;have a8:M.ha≠dw:=vd S.base.hi hw;have nd:dw≠d2:=ne_sn hw hd2;have nh:M.ha≠d2:=ne_sn S.base.hi hd2;have K:Kept σ (((σ.put d2 (.dict f2)).put M.ha (.list ((hist.map λp=>V.inst 449 p.1).reverse++[.inst 449 d2]))).put dw (.dict (aK (.lst oa) (.int w'.pc) (.int w'.at_) (nY w'.named) (qF w'.marks) cl))) [dw,M.ha]:=((Kept.new hd2).trans (Kept.put (by exact .tail _ (.head _)))).trans (Kept.put (by exact .head _))
 have W:dJ M σ [dw,M.ha]:=λy m=>by
  simp only[List.mem_cons,List.not_mem_nil,or_false]at m;rcases m with rfl | rfl
  ·exact .inr (.inr ⟨_,hw⟩)
  ·exact .inl rfl
 have e3:(((σ.put d2 (.dict f2)).put M.ha (.list ((hist.map λp=>V.inst 449 p.1).reverse++[.inst 449 d2]))).put dw (.dict (aK (.lst oa) (.int w'.pc) (.int w'.at_) (nY w'.named) (qF w'.marks) cl))) d2=some (.dict f2):=by
  rw[AH.ae _ _ (Ne.symm nd),AH.ae _ _ (Ne.symm nh)];exact AH.aa _ _ _
 refine⟨S.base.lay O (ps:=[(d2,x)]) K S.fresh ⟨_,hw⟩ S.off ?_ ?_ (by simpa using hd2) (by exact Ac),S.fresh,?_,oa,cl,AH.aa _ _ _,by rw[e1];exact ho.kept K W,by rw[e2];exact cW.kept K W hc⟩
 ·rw[AH.ae _ _ a8,AH.aa];rfl
 ·intro p hp
  rw[List.mem_singleton]at hp;subst hp;cases x with
  | none=>exact e3.trans (by rw[ex])
  | some v=>exact⟨oa,cl,by rw[e3,ex.2.2],by rw[ex.1];exact ho.kept K W,by rw[ex.2.1];exact cW.kept K W hc⟩
 ·rw[List.map_cons,List.mem_cons]
  rintro (z | z)
  ·exact nd z
  ·exact S.off z
set_option tactic.hygienic true in
theorem SQ.pl(O:zo M ba)(S:wB M ba σ h hist dw w)(hw:σ dw=some (.dict (aK (.lst oa) (.int w.pc) (.int w.at_) (nY w.named) (qF w.marks) cl)))(ho:ko M σ oa w.code)(hc:cW M σ w.calls cl){q:Pl}(hf:q.fits):
  match q.ends M.F.C.s w.at_ with | none=>SQ M ba hist dw (ow M.F.C w (hist.map (·.2)) h q) (.bool false) σ | some e=>SQ M ba hist dw (ow M.F.C w (hist.map (·.2)) h q) (.bool true) (σ.put dw (.dict (aK (.lst oa) (.int ((w.pc:Int)+1)) (.int e) (nY w.named) (qF w.marks) cl))):=by
 unfold ow;cases he:q.ends M.F.C.s w.at_ with
 | none=>exact .dead rfl S.base
 | some e=>
  have e0:=uC hf he;refine .go hist rfl (S.put O (w':={ w.next with at_:=e.toNat }) hw ho hc rfl rfl ?_)
  show _=aK _ (.int ((w.pc+1:Nat):Int)) (.int ((e.toNat:Nat):Int)) _ _ _;rw[Int.toNat_of_nonneg e0];rfl
theorem AJ{es:List Nat}{ps:List (Addr×Nat)}(e:ps.map (·.2)=es.reverse)(f:Nat->Option bf):(ps.reverse.map λp=>(p.1,f p.2)).map (·.2)=es.map f:=by
 rw[List.map_map];show ps.reverse.map (λp=>f p.2)=_
 have:ps.reverse.map (·.2)=es:=by rw[List.map_reverse,e,List.reverse_reverse]
 rw[<-this,List.map_map];rfl
end
namespace jQ
@[reducible] noncomputable def P(M:Mx)(ba σ:AH)(h:HS)(hist:List (Addr×Option bf))(dw:Addr):Prop:=∀{w:bf}(O:zo M ba)(S:wB M ba σ h hist dw w)(G:Gs M.F h)(hs:M.F.C.s.length<=4)(pn:DL M.F.C.pn)(Lx:w.at_<=1000){o:Ord}(oM:zp M w o)(GL:o≠.leaf (.bM .abort))(hv:h.vals.length<=1000)(jd:h.log.length<=1000000)(zL:hist.length<=100000),cx 10 (SX M ba (eP M.F.C o w (hist.map (·.2)) h)) (.ref 488) [.inst 526 M.dm,o.v,.inst 449 dw] σ (SQ M ba hist dw (eP M.F.C o w (hist.map (·.2)) h))
noncomputable def Q_:=UU λM=>UU λba=>UU λσ=>UU λh=>UU (P M ba σ h)
noncomputable def x_:=xx Q_ (⟨⟨(0:Nat),(0:Nat),(0:Nat),(0:Nat),(0:Nat),[],0,⟨"",[],.leaf .dZ⟩⟩,(0:Nat),(0:Nat)⟩,(λ_=>none),(λ_=>none),⟨[],[],0⟩,[],(0:Nat))
def M:=x_.1
def ba:=x_.2.1
def σ:=x_.2.2.1
def h:=x_.2.2.2.1
def hist:=x_.2.2.2.2.1
def dw:=x_.2.2.2.2.2
set_option tactic.hygienic true in
theorem go:P M ba σ h hist dw:=by
 intro w O S G hs pn Lx o oM GL hv jd zL;have hm:=S.base.mt;obtain⟨n1,n2,n3,n4,n5,n6⟩:=S.base.bV.ne;obtain⟨a1,a2,a3,a4,a5,a6,a7,a8⟩:=O.new S.fresh;have w5:M.F.C.s.length<=1000:=by exact aG (.l .A (.k 4) (.g .A (.k 1000))) rfl hs
 have Eo:((hist.map λp=>V.inst 449 p.1).reverse).length<=100000:=by rw[List.length_reverse,List.length_map];exact zL
 obtain⟨oa,cl,hw,ho,hc⟩:=S.cur;have vc:=pB hc;have hi:=S.base.hi;have PL:∀{q:Pl},q.fits->cx 7 (SX M ba (ow M.F.C w (hist.map (·.2)) h q)) (.ref 488) [.inst 526 M.dm,.tup [.str "one",.str q.kind,q.told],.inst 449 dw] σ (SQ M ba hist dw (ow M.F.C w (hist.map (·.2)) h q)):=λ{q} hf=>
  qx hm (xU w5 hf hm hw (SQ.pl O S hw ho hc hf)).mJ
 cases o with
 | bG g=>
  refine((vP hm hw ?_).mJ).less (by decide)
  exact .go hist rfl (S.put O (w':={ w with pc:=g }) hw ho hc rfl rfl rfl)
 | mark=>
  refine((vQ (lj _) hm hw ?_).mJ).less (by decide)
  exact .go hist rfl (S.put O (w':={ w.next with marks:=w.at_::w.marks }) hw ho hc rfl rfl rfl)
 | split g=>
  refine((tM (oY _) (qt _) (lj _) vc hm hw hi Eo λd2 hd2=>?_).mJ).less (by decide)
  exact .go ((d2,some { w with pc:=g })::hist) rfl (S.push O (w':=w.next) hd2 hw ho hc rfl rfl rfl ⟨rfl,rfl,rfl⟩)
 | done=>
  have e2:eP M.F.C .done w (hist.map (·.2)) h=(match w.calls with | []=>MA.met | (c,p)::r=>.go { w with code:=c,pc:=p,calls:=r },hist.map (·.2),h):=rfl
  rw[e2];have Oi:=hc;have oM:w.calls≠[]:=oM;cases rN:w.calls with
  | nil=>exact absurd rN oM
  | cons q r=>
   obtain⟨c,p⟩:=q;rw[rN]at Oi;obtain⟨v',XF,h1,h2,rfl⟩:=Oi;refine((d3 (by decide) (by decide) (by decide) (by decide) (by decide) (by decide) hm (tU hm hw ?_)).mJ).less (by decide)
   have W:dJ M σ [dw]:=λy m=>by rw[List.mem_singleton]at m;subst m;exact .inr (.inr ⟨_,hw⟩)
   exact .go hist rfl ⟨S.base.kept O (Kept.put (by exact .head _)) S.fresh ⟨_,hw⟩ S.off,S.fresh,S.off,XF,v',AH.aa _ _ _,h2.kept (Kept.put (by exact .head _)) W,cW.kept (Kept.put (by exact .head _)) W h1⟩
 | dY=>
  obtain⟨code,pc,at_,named,marks,calls⟩:=w;cases marks with
  | nil=>exact absurd rfl oM
  | cons b ms=>
   refine((iZ (R:=λy af=>y=decide ((at_:Int)>b)/\af=σ.put dw _) (by decide) (by decide) (by decide) (by decide) (by decide) hm (tN w5 hm (lj ms) hw ⟨_,rfl,rfl,rfl⟩) (λaf z=>?_) λaf z=>?_).mJ).less (by decide)
   ·obtain⟨z1,rfl⟩:=z
    have:¬b<at_:=by have z1:=z1.symm;simp at z1;exact(λz0=>aH (.l .A .B (.t .B .A (.z))) rfl z1 z0)
    show SQ M ba hist dw (if b<at_ then _ else MA.dead,hist.map (·.2),h) _ _
    rw[if_neg this];exact .dead rfl (S.base.kept O (Kept.put (by exact .head _)) S.fresh ⟨_,hw⟩ S.off)
   ·obtain⟨z1,rfl⟩:=z
    have:b<at_:=by have z1:=z1.symm;simp at z1;exact Cr z1
    refine⟨_,_,_,_,_,_,AH.aa _ _ _,?_⟩;rw[AH.bS];show SQ M ba hist dw (if b<at_ then _ else MA.dead,hist.map (·.2),h) _ _
    rw[if_pos this];exact .go hist rfl (S.put O (w':=⟨code,pc+1,at_,named,ms,calls⟩) hw ho hc rfl rfl rfl)
 | nm b r=>
  obtain⟨hr,AY⟩:=oM;obtain⟨code,pc,at_,named,marks,calls⟩:=w;cases marks with
  | nil=>exact absurd rfl AY
  | cons b0 ms=>
   cases b with
   | false=>
    refine((iZ (R:=λy af=>y=true/\af=σ.put dw _) (by decide) (by decide) (by decide) (by decide) (by decide) hm (tO w5 hm (lj ms) (qt _) hw ⟨true,rfl,rfl,rfl⟩) (λ_ z=>by cases z.1) λaf z=>?_).mJ).less (by decide)
    obtain⟨_,rfl⟩:=z;refine⟨_,_,_,_,_,_,AH.aa _ _ _,?_⟩;rw[AH.bS];exact .go hist rfl (S.put O (w':=⟨code,pc+1,at_,(r,cutText M.F.C b0 at_)::named,ms,calls⟩) hw ho hc rfl rfl rfl)
   | true=>
    have S1:wB M ba (σ.put dw (.dict (aK (.lst oa) (.int pc) (.int at_) (nY named) (qF ms) cl))) h hist dw ⟨code,pc,at_,named,ms,calls⟩:=S.put O (w':=⟨code,pc,at_,named,ms,calls⟩) hw ho hc rfl rfl rfl;have e2:eP M.F.C (.nm true r) ⟨code,pc,at_,named,b0::ms,calls⟩ (hist.map (·.2)) h=iU M.F.C ⟨code,pc,at_,named,ms,calls⟩ (hist.map (·.2)) h r.2 (.str (cutText M.F.C b0 at_)):=rfl
    rw[e2];refine((iZ (R:=λy af=>(y=true/\M.F.C.rf.contains r.2=false/\af=_)\/(y=false/\M.F.C.rf.contains r.2=true/\af=_)) (by decide) (by decide) (by decide) (by decide) (by decide) hm (vR w5 hm (lj ms) hw S1.base.bV.host (S1.base.bV.rf r hr) hv jd (Ne.symm n5) n1 (S1.base.bV.away r hr).2 (λhc=>⟨true,rfl,.inl ⟨rfl,hc,rfl⟩⟩) (λhc=>⟨false,rfl,.inr ⟨rfl,hc,rfl⟩⟩)) (λaf z=>?_) λaf z=>?_).mJ).less (by decide)
    ·rcases z with ⟨z,_⟩ | ⟨_,z,rfl⟩
     ·cases z
     ·unfold iU;rw[if_pos z]
      exact .dead rfl S1.base
    ·rcases z with ⟨_,z,rfl⟩ | ⟨z,_⟩
     ·refine⟨_,_,_,_,_,_,by rw[AH.ae _ _ a4,AH.ae _ _ a2];exact AH.aa _ _ _,?_⟩
      unfold iU;rw[if_neg (by rw[z];decide)]
      have B2:=S1.base.assign O r.2 (.str (cutText M.F.C b0 at_));have w6:((((σ.put dw (.dict (aK (.lst oa) (.int pc) (.int at_) (nY named) (qF ms) cl))).put M.F.av (.dict (b7 h.vals r.2 (.str (cutText M.F.C b0 at_))))).put M.F.al (.list (h.log++[.tup [.str r.2,.str (cutText M.F.C b0 at_)]])))) dw=some (.dict (aK (.lst oa) (.int pc) (.int at_) (nY named) (qF ms) cl)):=by rw[AH.ae _ _ a4,AH.ae _ _ a2];exact AH.aa _ _ _
      have K:Kept (σ.put dw (.dict (aK (.lst oa) (.int pc) (.int at_) (nY named) (qF ms) cl))) ((((σ.put dw (.dict (aK (.lst oa) (.int pc) (.int at_) (nY named) (qF ms) cl))).put M.F.av (.dict (b7 h.vals r.2 (.str (cutText M.F.C b0 at_))))).put M.F.al (.list (h.log++[.tup [.str r.2,.str (cutText M.F.C b0 at_)]])))) [M.F.av,M.F.al]:=(Kept.put (by exact .head _)).trans (Kept.put (by exact .tail _ (.head _)))
      have W:dJ M (σ.put dw (.dict (aK (.lst oa) (.int pc) (.int at_) (nY named) (qF ms) cl))) [M.F.av,M.F.al]:=λy m=>by
       simp only[List.mem_cons,List.not_mem_nil,or_false]at m;rcases m with rfl | rfl
       ·exact .inr (.inr ⟨_,S1.base.bV.host.v⟩)
       ·exact .inr (.inl rfl)
      have S2:wB M ba ((((σ.put dw (.dict (aK (.lst oa) (.int pc) (.int at_) (nY named) (qF ms) cl))).put M.F.av (.dict (b7 h.vals r.2 (.str (cutText M.F.C b0 at_))))).put M.F.al (.list (h.log++[.tup [.str r.2,.str (cutText M.F.C b0 at_)]])))) (h.set r.2 (.str (cutText M.F.C b0 at_))) hist dw ⟨code,pc,at_,named,ms,calls⟩:=
       ⟨B2,S.fresh,S.off,S1.cur.kept K W (by rw[oy];exact⟨a2,a4⟩)⟩
      have OA:ko M (σ.put dw (.dict (aK (.lst oa) (.int pc) (.int at_) (nY named) (qF ms) cl))) oa code:=ho.kept (D:=[dw]) (Kept.put (by exact .head _)) (λy m=>by rw[List.mem_singleton]at m;subst m;exact .inr (.inr ⟨_,hw⟩))
      have Oi:cW M (σ.put dw (.dict (aK (.lst oa) (.int pc) (.int at_) (nY named) (qF ms) cl))) calls cl:=cW.kept (D:=[dw]) (Kept.put (by exact .head _)) (λy m=>by rw[List.mem_singleton]at m;subst m;exact .inr (.inr ⟨_,hw⟩)) hc
      exact .go hist rfl (S2.put O (w':=⟨code,pc+1,at_,named,ms,calls⟩) w6 (OA.kept K W) (cW.kept K W Oi) rfl rfl rfl)
     ·cases z
 | leaf l=>
  show cx 10 (SX M ba (jF M.F.C l w (hist.map (·.2)) h)) _ _ σ (SQ M ba hist dw (jF M.F.C l w (hist.map (·.2)) h))
  have oM:l.ok M.F.refs:=oM;cases l with
  | pl q=>exact(PL oM).less (by decide)
  | dZ=>
   refine(qx hm (Az w5 hm hw S.base.bV.host G.n (λb e=>?_) λq e=>?_)).less (by decide)
   ·have e2:jF M.F.C .dZ w (hist.map (·.2)) h=(.err b,hist.map (·.2),h):=by
     show(match bu h.N with | .error b=>(MA.err b,hist.map Prod.snd,h) | .ok q=>ow M.F.C w (hist.map Prod.snd) h q)=_
     unfold HS.N;rw[e]
    rw[e2];exact⟨b,rfl,rfl,S.base.bV,S.base.rest⟩
   ·have e2:jF M.F.C .dZ w (hist.map (·.2)) h=ow M.F.C w (hist.map (·.2)) h q:=by
     show(match bu h.N with | .error b=>(MA.err b,hist.map Prod.snd,h) | .ok q=>ow M.F.C w (hist.map Prod.snd) h q)=_
     unfold HS.N;rw[e]
    rw[e2];exact SQ.pl O S hw ho hc (lP e)
  | cV b=>
   have El:(gz b M.F.C.s w.at_).length<=1001:=by
    cases b with
    | false=>show(kd M.F.C.s w.at_).length<=1001;simp[kd];exact aH (.l .A (.k 4) (.g (.a .A .O) (.a (.k 1001) .B))) rfl hs
    | true=>have:=(ip (gj M.F.C.s w.at_)).1;show(cE M.F.C.s w.at_).length<=1001;exact aX (.l (.a .A .B) (.a (.a .C .O) .B) (.l .C (.k 4) (.g .A (.k 1001)))) rfl this hs
   have e2:jF M.F.C (.cV b) w (hist.map (·.2)) h=kr w (hist.map (·.2)) h (gz b M.F.C.s w.at_):=rfl
   rw[e2];have hk:(Ord.leaf (.cV b)).v=.tup [.str "ways",.str (Dn b)]:=by cases b<;>rfl
   rw[hk];refine((d3 (by decide) (by decide) (by decide) (by decide) (by decide) (by decide) hm (tW (oY _) (qt _) (lj _) vc w5 Lx El Eo hm hw hi (λe es ee ps af LD sd=>?_) λee af K=>?_)).mJ).less (by decide)
   ·rw[ee]
    have W:dJ M σ [dw,M.ha]:=λy m=>by
     simp only[List.mem_cons,List.not_mem_nil,or_false]at m;rcases m with rfl | rfl
     ·exact .inr (.inr ⟨_,hw⟩)
     ·exact .inl rfl
    refine .go ((ps.reverse.map λp=>(p.1,some { w.next with at_:=p.2 }))++hist) ?_ ⟨S.base.lay O LD.kept S.fresh ⟨_,hw⟩ S.off ?_ ?_ ?_ ?_,S.fresh,?_,oa,cl,sd,ho.kept LD.kept W,cW.kept LD.kept W hc⟩
    ·rw[List.map_append,AJ LD.snd λe=>some { w.next with at_:=e }]
    ·rw[LD.hi];simp[Function.comp_def]
    ·intro p hp
     obtain⟨q,hq,rfl⟩:=List.mem_map.mp hp;exact⟨oa,cl,LD.at_ q (List.mem_reverse.mp hq),ho.kept LD.kept W,cW.kept LD.kept W hc⟩
    ·intro p hp
     obtain⟨q,hq,rfl⟩:=List.mem_map.mp hp;exact LD.new q (List.mem_reverse.mp hq)
    ·have:=LD.nd
     rw[List.map_map];show(ps.reverse.map λp=>p.1).Nodup
     rw[List.map_reverse];exact(List.reverse_perm _).nodup_iff.mpr this
    ·rw[List.map_append,List.mem_append]
     rintro (z | z)
     ·rw[List.map_map]at z
      obtain⟨q,hq,e⟩:=List.mem_map.mp z;have:=LD.new q (List.mem_reverse.mp hq);have e':q.1=dw:=e;rw[e',hw]at this;cases this
     ·exact S.off z
   ·rw[ee]
    exact .dead rfl (S.base.kept O (K.to (D:=[dw])) S.fresh ⟨_,hw⟩ S.off)
  | ask=>
   refine((d3 (by decide) (by decide) (by decide) (by decide) (by decide) (by decide) hm (vV (n:=M.F.C.pn) (oY _) vc hm hw S.base.bV.host (dp:=M.F.dp) (by rw[G.p];rfl) S.base.bV.pat (Ne.symm a6) pn.1 pn.2.1 pn.2.2 λob af kQ Tq X7 K=>?_)).mJ).less (by decide)
   have W:dJ M σ [dw]:=λy m=>by rw[List.mem_singleton]at m;subst m;exact .inr (.inr ⟨_,hw⟩)
   refine .go hist rfl ⟨S.base.kept O K S.fresh ⟨_,hw⟩ S.off,S.fresh,S.off,ob,_,by rw[X7];rfl,⟨Tq,ne_ns kQ hi,ne_ns kQ S.base.bV.host.l⟩,?_⟩
   exact⟨cl,oa,cW.kept K W hc,ho.kept K W,by rfl⟩
  | bM k=>
   cases k with
   | abort=>exact absurd rfl GL
   | fail=>
    refine((d3 (by decide) (by decide) (by decide) (by decide) (by decide) (by decide) hm (tV ?_)).mJ).less (by decide)
    exact .dead rfl S.base
   | fence=>
    refine((d3 (by decide) (by decide) (by decide) (by decide) (by decide) (by decide) hm (rj hm hw hi Eo λd2 hd2=>?_)).mJ).less (by decide)
    exact .go ((d2,none)::hist) rfl (S.push O (w':=w.next) (x:=none) hd2 hw ho hc rfl rfl rfl rfl)
   | cA=>
    refine((d3 (by decide) (by decide) (by decide) (by decide) (by decide) (by decide) hm (oz (oY _) (qt _) (lj _) vc hm hw hi Eo λd2 hd2=>?_)).mJ).less (by decide)
    exact .go ((d2,some w)::hist) rfl (S.push O (w':=w.next) (x:=some w) hd2 hw ho hc rfl rfl rfl ⟨rfl,rfl,rfl⟩)
  | c0 r=>
   have hr:r∈M.F.refs:=oM;have e2:jF M.F.C (.c0 r) w (hist.map (·.2)) h=iU M.F.C w (hist.map (·.2)) h r.2 (.int w.at_):=rfl
   rw[e2];refine((tL hm hw S.base.bV.host (S.base.bV.rf r hr) hv jd (Ne.symm n5) n1 (S.base.bV.away r hr).2 a2 a4 (λEj=>?_) (λEj=>?_)).mJ).less (by decide)
   ·unfold iU;rw[if_neg (by rw[Ej];decide)]
    have K:Kept σ ((σ.put M.F.av (.dict (b7 h.vals r.2 (.int w.at_)))).put M.F.al (.list (h.log++[.tup [.str r.2,.int w.at_]]))) [M.F.av,M.F.al]:=(Kept.put (by exact .head _)).trans (Kept.put (by exact .tail _ (.head _)))
    have W:dJ M σ [M.F.av,M.F.al]:=λy m=>by
     simp only[List.mem_cons,List.not_mem_nil,or_false]at m;rcases m with rfl | rfl
     ·exact .inr (.inr ⟨_,S.base.bV.host.v⟩)
     ·exact .inr (.inl rfl)
    have nd:dw∉[M.F.av,M.F.al]:=by rw[oy];exact⟨a2,a4⟩
    have S2:wB M ba ((σ.put M.F.av (.dict (b7 h.vals r.2 (.int w.at_)))).put M.F.al (.list (h.log++[.tup [.str r.2,.int w.at_]]))) (h.set r.2 (.int w.at_)) hist dw w:=
     ⟨S.base.assign O r.2 (.int w.at_),S.fresh,S.off,S.cur.kept K W nd⟩
    exact .go hist rfl (S2.put O (w':=w.next) (K _ _ hw nd) (ho.kept K W) (cW.kept K W hc) rfl rfl rfl)
   ·unfold iU;rw[if_pos Ej]
    exact .dead rfl S.base
end jQ
theorem Gl{M:Mx}{ba σ:AH}{h:HS}{hist:List (Addr×Option bf)}{dw:Addr}:jQ.P M ba σ h hist dw:=xa (Q:=jQ.Q_) jQ.go (M,ba,σ,h,hist,dw)
section
variable{M:Mx}{ba σ:AH}{h:HS}{hist:List (Addr×Option bf)}{dw:Addr}{w:bf}{oa:Addr}{cl:V}
end
end
section
noncomputable def Seg(U:List Ord)(b:Nat)(c:List Ord):Prop:=∀i o,c[i]? =some o->U[b+i]? =some o
theorem Seg.left{U:List Ord}{b:Nat}{c d:List Ord}(h:Seg U b (c++d)):Seg U b c:=λi o e=>h i o (by rw[List.getElem?_append_left (List.getElem?_eq_some_iff.mp e).1];exact e)
theorem Seg.right{U:List Ord}{b:Nat}{c d:List Ord}(h:Seg U b (c++d)):Seg U (b+c.length) d:=λi o e=>by
 have:=h (c.length+i) o (by rw[List.getElem?_append_right (Nat.le_add_right _ _),Nat.add_sub_cancel_left];exact e)
 rw[Nat.add_assoc];exact this
theorem Seg.head{U:List Ord}{b:Nat}{o:Ord}{c:List Ord}(h:Seg U b (o::c)):U[b]? =some o:=h 0 o rfl
theorem Seg.tail{U:List Ord}{b:Nat}{o:Ord}{c:List Ord}(h:Seg U b (o::c)):Seg U (b+1) c:=λi p e=>by
 have:=h (i+1) p e;rw[Nat.add_assoc,Nat.add_comm 1 i];exact this
theorem Seg.self(c:List Ord):Seg c 0 c:=λi o e=>by rw[Nat.zero_add];exact e
theorem fB{U:List Ord}{g:Nat}{o:Ord}(h:U[g]? =some o)(hj:o.eU=false):cF U g:=⟨0,o,h,hj⟩
theorem vt{U:List Ord}{g g':Nat}(h:U[g]? =some (.bG g'))(r:cF U g'):cF U g:=by
 obtain⟨f,o,e,j⟩:=r;refine⟨f+1,o,?_,j⟩;have:resolve U (f+1) g=resolve U f g':=by show(match U[g]? with | some (.bG g')=>resolve U f g' | _=>g)=_;rw[h]
 rw[this];exact e
noncomputable def Pn(refs:List Ref):Ord->Prop
 | .leaf l=>l.ok refs
 | .nm _ r=>r∈refs
 | .split _=>True | .bG _=>True | .mark=>True | .dY=>True | .done=>True
structure Good(refs:List Ref)(U:List Ord)(o:Ord):Prop where
 ok:Pn refs o
 res:∀g,o.goal=some g->cF U g
structure fF(refs:List Ref)(n:Nd):Prop where
 tok:n.tok
 ok:n.ok refs
 tx:n.text<=1000
theorem iX{refs:List Ref}:∀{n:Nd},fF refs n->∀p∈ah n,fF refs p
 | .cat a b,h,p,hp=>by
  have e:(Nd.cat a b).text=a.text+b.text:=rfl;have:=h.tx;rcases List.mem_append.mp (show p∈ah a++ah b from hp) with z | z
  ·exact iX ⟨h.tok.1,h.ok.1,by exact EU e this⟩ p z
  ·exact iX ⟨h.tok.2,h.ok.2,by exact EV e this⟩ p z
 | .leaf l,h,p,hp=>by rw[show ah (.leaf l)=[.leaf l] from rfl,List.mem_singleton]at hp;subst hp;exact h
 | .alt a b,h,p,hp=>by rw[show ah (.alt a b)=[.alt a b] from rfl,List.mem_singleton]at hp;subst hp;exact h
 | .bo a,h,p,hp=>by rw[show ah (.bo a)=[.bo a] from rfl,List.mem_singleton]at hp;subst hp;exact h
 | .nm b a r,h,p,hp=>by rw[show ah (.nm b a r)=[.nm b a r] from rfl,List.mem_singleton]at hp;subst hp;exact h
theorem gF{refs:List Ref}:∀{n:Nd},fF refs n->∀p∈aD n,fF refs p
 | .alt a b,h,p,hp=>by
  have e:(Nd.alt a b).text=a.text+b.text:=rfl;have:=h.tx;rcases List.mem_append.mp (show p∈aD a++aD b from hp) with z | z
  ·exact gF ⟨h.tok.1,h.ok.1,by exact EU e this⟩ p z
  ·exact gF ⟨h.tok.2,h.ok.2,by exact EV e this⟩ p z
 | .leaf l,h,p,hp=>by rw[show aD (.leaf l)=[.leaf l] from rfl,List.mem_singleton]at hp;subst hp;exact h
 | .cat a b,h,p,hp=>by rw[show aD (.cat a b)=[.cat a b] from rfl,List.mem_singleton]at hp;subst hp;exact h
 | .bo a,h,p,hp=>by rw[show aD (.bo a)=[.bo a] from rfl,List.mem_singleton]at hp;subst hp;exact h
 | .nm b a r,h,p,hp=>by rw[show aD (.nm b a r)=[.nm b a r] from rfl,List.mem_singleton]at hp;subst hp;exact h
theorem Str.pos{t:Str}(h:t≠""):0<t.length:=by
 rcases Nat.eq_zero_or_pos t.length with z | z
 ·refine absurd ?_ h
  obtain⟨c⟩:=t;have:c= #[]:=Array.eq_empty_of_size_eq_zero z;subst this;rfl
 ·exact z
theorem Str.not_nil{t:Str}(h:0<t.length):t≠"":=λz=>by subst z;exact absurd h (by decide)
inductive Ph(ps:List Nd)(q:Nd):Prop
 | inl(h:q∈ps)
 | inr(t:Str)(e:q=.leaf (.pl (.chars t)))(l:t.length<=tx ps)(z:0<t.length)
theorem pX:∀{ps:List Nd}{q:Nd},(∀p∈ps,textOf p≠some ("":Str))->q∈JJ ps->Ph ps q
 | [],q,_,h=>by cases h
 | p::ps,q,ic,h=>by
  have h:q∈dC p (JJ ps):=h;have ih:∀{r:Nd},r∈JJ ps->Ph ps r:=pX λr hr=>ic r (by exact .tail _ (by assumption))
  have up:∀{r:Nd},r∈JJ ps->Ph (p::ps) r:=λhr=>by
   rcases ih hr with z | ⟨t,e,l,z⟩
   ·exact .inl (.tail _ z)
   ·exact .inr t e (by rw[gi];exact aX (.l .A .B (.g .A (.a .C .B))) rfl l) z
  cases hp:textOf p with
  | none=>
   rw[fy hp]at h;rcases List.mem_cons.mp h with rfl | h
   ·exact .inl (.head _)
   ·exact up h
  | some t=>
   have GV:=mw hp;have Xa:p.text=t.length:=gX hp;have OD:0<t.length:=Str.pos λz=>ic p (by exact .head _) (by rw[hp,z])
   revert h;cases hj:JJ ps with
   | nil=>
    intro h;rw[fw,List.mem_singleton]at h;subst h;exact .inl (.head _)
   | cons r rs=>
    intro h;have hr:r∈JJ ps:=by rw[hj];exact .head _
    cases OC:textOf r with
    | none=>
     rw[ix OC]at h;rcases List.mem_cons.mp h with rfl | h
     ·exact .inl (.head _)
     ·exact up (by rw[hj];exact h)
    | some u=>
     rw[fO hp OC]at h;rcases List.mem_cons.mp h with rfl | h
     ·refine .inr _ rfl ?_ ?_
      ·have hu:u.length<=tx ps:=by
        rcases ih hr with z | ⟨t',e,l,_⟩
        ·have:=xm z;rw[gX OC]at this;exact this
        ·subst e;cases OC;exact l
       rw[Str.gB,gi];exact bD (.f .A .B (.l .C .D (.g (.a .B .C) (.a .A .D)))) rfl Xa hu
      ·rw[Str.gB];exact ER OD
     ·exact up (by rw[hj];exact .tail _ h)
theorem yM{p:Nd}{ps:List Nd}:∃q qs,JJ (p::ps)=q::qs:=by
 show∃q qs,dC p (JJ ps)=q::qs;unfold dC;split
 ·exact⟨_,_,rfl⟩
 ·split
  ·exact⟨_,_,rfl⟩
  ·split<;>exact⟨_,_,rfl⟩
theorem GZ{refs:List Ref}{n q:Nd}(h:fF refs n)(hq:q∈JJ (ah n)):fF refs q:=by
 rcases pX (λp hp=>(oR h.tok p hp).2) hq with z | ⟨t,rfl,l,z⟩
 ·exact iX h q z
 ·rw[lh]at l
  have:=h.tx;exact⟨λe=>Str.not_nil z (by cases e;rfl),(show t.length<=1000 by exact aH (.l .A (.k 1000) (.l .B .A (.g .B (.k 1000)))) rfl this l),(show Gh (some t)<=1000 from (show t.length<=1000 by exact aH (.l .A (.k 1000) (.l .B .A (.g .B (.k 1000)))) rfl this l))⟩
theorem nu:∀{n p:Nd},p∈ah n->ah p=[p]
 | .cat a b,p,hp=>(List.mem_append.mp (show p∈ah a++ah b from hp)).elim nu nu
 | .leaf l,p,hp=>by rw[show ah (.leaf l)=[.leaf l] from rfl,List.mem_singleton]at hp;subst hp;rfl
 | .alt a b,p,hp=>by rw[show ah (.alt a b)=[.alt a b] from rfl,List.mem_singleton]at hp;subst hp;rfl
 | .bo a,p,hp=>by rw[show ah (.bo a)=[.bo a] from rfl,List.mem_singleton]at hp;subst hp;rfl
 | .nm b a r,p,hp=>by rw[show ah (.nm b a r)=[.nm b a r] from rfl,List.mem_singleton]at hp;subst hp;rfl
theorem iB(n:Nd):∃p ps,ah n=p::ps:=by
 have:=fe n;cases h:ah n with
 | nil=>rw[h]at this;cases this
 | cons p ps=>exact⟨p,ps,rfl⟩
theorem eN(n:Nd):∃p ps,aD n=p::ps:=by
 have:=gh n;cases h:aD n with
 | nil=>rw[h]at this;cases this
 | cons p ps=>exact⟨p,ps,rfl⟩
theorem pv{f:Nd->Nat->List Ord}{p:Nd}{ps:List Nd}{b:Nat}(hp:∃o r,f p b=o::r/\o.eU=false):∃o r,c8 f (p::ps) b=o::r/\o.eU=false:=by
 cases ps with
 | nil=>exact hp
 | cons q ps=>exact⟨_,_,gx ..,rfl⟩
theorem mm{f:Nd->Nat->List Ord}{p:Nd}{ps:List Nd}{b:Nat}(hp:∃o r,f p b=o::r/\o.eU=false):∃o r,cZ f (p::ps) b=o::r/\o.eU=false:=by
 obtain⟨o,r,e,j⟩:=hp;exact⟨o,r++cZ f ps (b+(f p b).length),by show f p b++_=_;rw[e];rfl,j⟩
theorem kR{refs:List Ref}{n:Nd}(h:fF refs n):joined (ah n)=JJ (ah n):=rT λp hp=>(oR h.tok p hp).2
theorem iv{refs:List Ref}:∀(k:Nat)(n:Nd),n.size<=k->fF refs n->∀b,∃o r,code n b=o::r/\o.eU=false
 | 0,n,h,_,_=>by have:=n.size_pos;exact False.elim (xj this h)
 | k+1,n,h,N,b=>by
  have ih:=iv (refs:=refs) k;cases n with
  | leaf l=>exact⟨_,_,rfl,rfl⟩
  | bo a=>exact⟨_,_,rfl,rfl⟩
  | nm b a r=>exact⟨_,_,rfl,rfl⟩
  | alt x y=>
   rw[pH];have hm:=λp=>oE (x:=x) (y:=y) (p:=p)
   have ho:=λp=>gF N p
   obtain⟨p,ps,e⟩:=eN (.alt x y);rw[e]at hm ho ⊢;exact pv (ih p (by have:=hm p (by exact .head _);exact u9 this h) (ho p (by exact .head _)) b)
  | cat x y=>
   rw[pJ,kR N];have hm:=λp=>oF (x:=x) (y:=y) (p:=p)
   rw[kR N]at hm;have ho:=λp=>GZ (q:=p) N
   obtain⟨p,ps,e⟩:=iB (.cat x y);rw[e]at hm ho ⊢;obtain⟨q,qs,e2⟩:=yM (p:=p) (ps:=ps);rw[e2]at hm ho ⊢;exact mm (ih q (by have:=hm q (by exact .head _);exact u9 this h) (ho q (by exact .head _)) b)
noncomputable def Gu(p:Nd):Prop:=∀b,∃o r,code p b=o::r/\o.eU=false
noncomputable def wz(refs:List Ref)(U:List Ord)(p:Nd):Prop:=∀b,Seg U b (code p b)->cF U (b+(code p b).length)->∀o∈code p b,Good refs U o
theorem vw{refs:List Ref}{U:List Ord}:∀(ps:List Nd),(∀p∈ps,Gu p/\wz refs U p)->∀b,Seg U b (cZ code ps b)->cF U (b+(cZ code ps b).length)->∀o∈cZ code ps b,Good refs U o
 | [],_,_,_,_,o,h=>by cases h
 | p::ps,hp,b,sg,r,o,h=>by
  have sg:Seg U b (code p b++cZ code ps (b+(code p b).length)):=sg;have r:cF U (b+(code p b++cZ code ps (b+(code p b).length)).length):=r;rw[List.length_append, <-Nat.add_assoc]at r;rcases List.mem_append.mp (show o∈code p b++cZ code ps (b+(code p b).length) from h) with z | z
  ·refine(hp p (by exact .head _)).2 b sg.left ?_ o z
   cases ps with
   | nil=>exact r
   | cons q ps=>
    obtain⟨o2,r2,e,j⟩:=mm (f:=code) (ps:=ps) ((hp q (by exact .tail _ (.head _))).1 (b+(code p b).length))
    have sr:=sg.right;rw[e]at sr;exact fB sr.head j
  ·exact vw ps (λq hq=>hp q (by exact .tail _ (by assumption))) _ sg.right r o z
theorem um{refs:List Ref}{U:List Ord}:∀(ps:List Nd),(∀p∈ps,Gu p/\wz refs U p)->∀b,Seg U b (c8 code ps b)->cF U (b+(c8 code ps b).length)->∀o∈c8 code ps b,Good refs U o
 | [],_,_,_,_,o,h=>by cases h
 | [p],hp,b,sg,r,o,h=>(hp p (by exact .head _)).2 b sg r o h
 | p::q::ps,hp,b,sg,r,o,h=>by
  rw[gx]at sg r h;have s1:=sg.tail;have s2:=s1.left;have s3:=s1.right;have s4:=s3.tail;generalize hc:code p (b+1)=c at *;have hb:b+1+c.length+1=b+c.length+2:=by exact Nat.le_antisymm (aH (.g (.a (.a (.a .A .O) .B) .O) (.a (.a .A .B) (.k 2))) rfl) (aH (.g (.a (.a .A .B) (.k 2)) (.a (.a (.a .A .O) .B) .O)) rfl)
  rw[hb]at s4;have hr:b+(Ord.split (b+c.length+2)::(c++.bG (b+c.length+2+(c8 code (q::ps) (b+c.length+2)).length)::c8 code (q::ps) (b+c.length+2))).length=b+c.length+2+(c8 code (q::ps) (b+c.length+2)).length:=by simp;exact Nat.le_antisymm (IQ) (IS)
  rw[hr]at r;obtain⟨o2,r2,e,j⟩:=pv (f:=code) (ps:=ps) ((hp q (by exact .tail _ (.head _))).1 (b+c.length+2))
  have hg:cF U (b+c.length+2):=by
   have:=s4;rw[e]at this;exact fB this.head j
  rcases List.mem_cons.mp h with rfl | h
  ·exact⟨trivial,λg eg=>by cases eg;exact hg⟩
  ·rcases List.mem_append.mp h with z | z
   ·have:=(hp p (by exact .head _)).2 (b+1)
    rw[hc]at this;exact this s2 (vt s3.head r) o z
   ·rcases List.mem_cons.mp z with rfl | z
    ·exact⟨trivial,λg eg=>by cases eg;exact r⟩
    ·exact um (q::ps) (λx hx=>hp x (by simp at hx ⊢;exact .inr hx)) _ s4 r o z
theorem rI{refs:List Ref}{U:List Ord}:∀(k:Nat)(n:Nd),n.size<=k->fF refs n->wz refs U n
 | 0,n,h,_=>by have:=n.size_pos;exact False.elim (xj this h)
 | k+1,n,h,N=>λb sg r o ho=>by
  have ih:=rI (refs:=refs) (U:=U) k;cases n with
  | leaf l=>rw[m7,List.mem_singleton]at ho;subst ho;exact⟨N.ok,λg e=>by cases e⟩
  | alt x y=>
   rw[pH]at sg r ho;exact um (aD (.alt x y)) (λp hp=>by
    have:=oE hp;have hN:=gF N p hp;exact⟨λb=>iv _ p (Nat.le_refl _) hN b,ih p (by exact u9 this h) hN⟩) b sg r o ho
  | cat x y=>
   rw[pJ]at sg r ho;refine vw (joined (ah (.cat x y))) (λp hp=>?_) b sg r o ho
   have:=oF hp;rw[kR N]at hp;have hN:=GZ N hp;exact⟨λb=>iv _ p (Nat.le_refl _) hN b,ih p (by exact u9 this h) hN⟩
  | bo a=>
   have hs:(Nd.bo a).size=a.size+1:=rfl;rw[pI]at sg r ho;have Na:fF refs a:=⟨N.tok,N.ok,N.tx⟩;have s3:=sg.tail.tail.tail;have hb:b+1+1+1=b+3:=by exact Nat.le_antisymm (aG (.g (.a (.a (.a .A .O) .O) .O) (.a .A (.k 3))) rfl) (aG (.g (.a .A (.k 3)) (.a (.a (.a .A .O) .O) .O)) rfl)
   rw[hb]at s3;have hm:U[b+2]? =some .mark:=sg.tail.tail.head;have hr:b+(Ord.split (b+2)::.bG (b+3+(code a (b+3)).length+2)::.mark::(code a (b+3)++[.dY,.bG b])).length=b+3+(code a (b+3)).length+2:=by simp;exact Nat.le_antisymm (aH (.g (.a .A (.a (.a (.a (.a .B (.k 2)) .O) .O) .O)) (.a (.a (.a .A (.k 3)) .B) (.k 2))) rfl) (aH (.g (.a (.a (.a .A (.k 3)) .B) (.k 2)) (.a .A (.a (.a (.a (.a .B (.k 2)) .O) .O) .O))) rfl)
   rw[hr]at r;have s4:=s3.right;simp only[List.mem_cons,List.mem_append,List.not_mem_nil,or_false]at ho;rcases ho with rfl | rfl | rfl | ho | rfl | rfl
   ·exact⟨trivial,λg e=>by cases e;exact fB hm rfl⟩
   ·exact⟨trivial,λg e=>by cases e;exact r⟩
   ·exact⟨trivial,λg e=>by cases e⟩
   ·exact ih a (by exact yQ hs h) Na (b+3) s3.left (fB s4.head rfl) o ho
   ·exact⟨trivial,λg e=>by cases e⟩
   ·exact⟨trivial,λg e=>by cases e;exact fB sg.head rfl⟩
  | nm now a rr=>
   have hs:(Nd.nm now a rr).size=a.size+1:=rfl;rw[yq]at sg r ho;have Na:fF refs a:=⟨N.tok,N.ok.1,N.tx⟩;have s2:=sg.tail;have s3:=s2.right;simp only[List.mem_cons,List.mem_append,List.not_mem_nil,or_false]at ho;rcases ho with rfl | ho | rfl
   ·exact⟨trivial,λg e=>by cases e⟩
   ·exact ih a (by exact yQ hs h) Na (b+1) s2.left (fB s3.head rfl) o ho
   ·exact⟨N.ok.2,λg e=>by cases e⟩
theorem vp{refs:List Ref}{n:Nd}(N:fF refs n):∀o∈rawOf n,Good refs (rawOf n) o:=λo ho=>by
 have sg:Seg (rawOf n) 0 (code n 0++[.done]):=Seg.self _;have hd:=sg.right.head;rcases List.mem_append.mp (show o∈code n 0++[.done] from ho) with z | z
 ·exact rI n.size n (Nat.le_refl _) N 0 sg.left (fB hd rfl) o z
 ·rw[List.mem_singleton]at z;subst z;exact⟨trivial,λg e=>by cases e⟩
theorem yX{refs:List Ref}{n:Nd}(N:fF refs n)(hz:n.size<=1000):DL n:=⟨hz,N.tx,λo ho g e=>(vp N o ho).res g e⟩
theorem FD{n:Nd}(hz:n.size<=1000):(rawOf n).length<=90000:=by
 have e:=congrArg List.length (tr n.size n [] (Nat.le_refl _));have g:=(grows n.size n [] (Nat.le_refl _)).2;simp at e g;show(codeAt n.size n 0++[Ord.done]).length<=90000;refine Cw ?_;exact aX (.f .A .B (.l .A (.m 5 .C) (.l2 5 .C (.k 1000) (.g .B (.k 89999))))) rfl e g hz
end
section
structure NT(M:Mx)(J:bf->bE->Prop):Prop where
 ord:∀w H,J w H->∃o,w.code[w.pc]? =some o/\((o=.done/\w.calls=[])\/zp M w o)/\w.at_<=M.F.C.s.length
 go:∀w H h w' H' h',J w H->eP M.F.C w.order w H h=(.go w',H',h')->J w' H'
 back:∀w H w' H2,J w H->H=some w'::H2->J w' H2
structure uj(F:Fx)(h:HS)(n:Nat):Prop where
 ok:Gs F h
 lo:h.log.length<=h.steps
 va:h.vals.length<=3+h.steps
 pi:n<=1+5*h.steps
structure pf(F:Fx)(st:Nat)(R:MA×bE×HS):Prop where
 es:R.2.2.steps=st
 gd:uj F R.2.2 R.2.1.length
section
variable{F:Fx}{h:HS}{H:bE}{w:bf}
theorem uj.tick{n:Nat}(G:uj F h n):uj F h.tick n:=
 ⟨⟨G.ok.p,G.ok.n⟩,Nat.le_succ_of_le G.lo,by have:=G.va;show h.vals.length<=3+(h.steps+1);exact aH (.l .A (.a (.k 3) .B) (.g .A (.a (.k 3) (.a .B .O)))) rfl this,by have:=G.pi;show n<=1+5*(h.steps+1);exact EL this⟩
theorem pf.same(G:uj F h H.length){x:MA}{H':bE}(hl:H'.length<=H.length+5):pf F (h.steps+1) (x,H',h.tick):=
 ⟨rfl,G.tick.ok,G.tick.lo,G.tick.va,by have:=G.pi;show H'.length<=1+5*(h.steps+1);exact aX (.l .A (.a .O (.m 5 .B)) (.l .C (.a .A (.k 5)) (.g .C (.a .O (.m 5 (.a .B .O)))))) rfl this hl⟩
theorem pf.set(G:uj F h H.length)(O:mT F){k:Ref}{v:V}(hk:k∈F.refs)(hv:NV v):pf F (h.steps+1) (iU F.C w H h.tick k.2 v):=by
 unfold iU;split
 ·exact .same G (Nat.le_add_right _ _)
 ·refine⟨rfl,yJ G.tick.ok (O.ky k hk) hv,?_,?_,by have:=G.pi;show H.length<=1+5*(h.steps+1);exact EL this⟩
  ·show(h.log++[_]).length<=h.steps+1
   have:=G.lo;refine Cw ?_;exact jg this
  ·show(b7 h.vals k.2 v).length<=3+(h.steps+1)
   have:=vy h.vals k.2 v;have:=G.va;exact aX (.l .A (.a (.k 3) .B) (.l .C (.a .A .O) (.g .C (.a (.k 3) (.a .B .O))))) rfl this (by assumption)
theorem pf.pl(G:uj F h H.length){q:Pl}:pf F (h.steps+1) (ow F.C w H h.tick q):=by
 unfold ow;split<;>exact .same G (Nat.le_add_right _ _)
set_option tactic.hygienic true in
theorem yR{M:Mx}(O:mT M.F)(G:uj M.F h H.length){o:Ord}(oM:zp M w o\/(o=.done/\w.calls=[])):pf M.F (h.steps+1) (eP M.F.C o w H h.tick):=by
 have z:∀{x:MA},pf M.F (h.steps+1) (x,H,h.tick):=.same G (Nat.le_add_right _ _);cases o with
 | leaf l=>
  show pf _ _ (jF M.F.C l w H h.tick);have hl:l.ok M.F.refs:=oM.elim id λz=>by cases z.1
  cases l with
  | pl q=>exact .pl G
  | dZ=>
   show pf _ _ (match bu h.tick.N with | .error b=>(MA.err b,H,h.tick) | .ok q=>ow M.F.C w H h.tick q)
   split
   ·exact z
   ·exact .pl G
  | cV b=>
   show pf _ _ (kr w H h.tick (gz b M.F.C.s w.at_));have hb:(gz b M.F.C.s w.at_).length<=6:=by
    have:=O.hs;cases b with
    | false=>show(kd M.F.C.s w.at_).length<=6;simp[kd];exact aH (.l .A (.k 4) (.g (.a .A .O) (.a (.k 6) .B))) rfl this
    | true=>have:=(ip (gj M.F.C.s w.at_)).1;show(cE M.F.C.s w.at_).length<=6;exact aX (.l (.a .A .B) (.a (.a .C .O) .B) (.l .C (.k 4) (.g .A (.k 6)))) rfl this (by assumption)
   unfold kr;split
   ·exact z
   ·rename_i e es ee
    rw[ee]at hb;exact .same G (by simp at hb ⊢;exact aH (.l .A (.k 5) (.g (.a .A .B) (.a .B (.k 5)))) rfl hb)
  | ask=>exact z
  | bM k=>
   cases k with
   | fence=>exact .same G (by simp)
   | fail=>exact z
   | abort=>exact z
   | cA=>exact .same G (by simp)
  | c0 k=>exact .set G O hl (.int _)
 | split g=>exact .same G (by simp)
 | bG g=>exact z
 | mark=>exact z
 | nm b r=>
  have hr:r∈M.F.refs:=oM.elim (λz=>z.1) λz=>by cases z.1
  cases b with
  | false=>exact z
  | true=>exact .set G O hr (.str _ (yU O _ _))
 | dY=>exact z
 | done=>exact z
end
noncomputable def Tb(ba:AH)(R:Rs)(v:V)(σ:AH):Prop:=match R with
 | .none=>v=.tup [.int 1,.none]
 | .dv=>v=.tup [.int 2,.none]
 | .met a n=>∃dw o pc mk cl,v=.tup [.int 0,.inst 449 dw]/\σ dw=some (.dict (aK o pc (.int a) (nY n.reverse) mk cl))/\ba dw=none
 | .cut=>False
 | .err _=>False
inductive RQ(M:Mx)(ba:AH)(R:Rs×HS)(v:V)(σ:AH):Prop
 | mk(e:Tb ba R.1 v σ)(H:gL M.F σ R.2)(K:Kept ba σ M.D)
inductive RX(M:Mx)(ba:AH)(R:Rs×HS)(num:Int)(σ:AH):Prop
 | mk(e:Vx R.1=some num)(H:gL M.F σ R.2)(K:Kept ba σ M.D)
inductive RI(M:Mx)(J:bf->bE->Prop)(ba:AH)(R:Rs×HS)(f:Nat)(ρ:Loc)(σ:AH):Prop
 | on(w:bf)(dw:Addr)(hist:List (Addr×Option bf))(h:HS)(S:wB M ba σ h hist dw w)(T:J w (hist.map (·.2)))(G:uj M.F h hist.length)(hf:f+h.steps=M.F.lim)(e:fz M.F.C f w (hist.map (·.2)) h=R)(l1:at_ ρ "self"=some (.inst 526 M.dm))(l2:at_ ρ "way"=some (.inst 449 dw)):RI M J ba R f ρ σ
 | off(e:R.1=.none)(B:eL M ba σ R.2 [])(l1:at_ ρ "self"=some (.inst 526 M.dm))(l2:at_ ρ "way"=some .none):RI M J ba R f ρ σ
noncomputable def KL(o:Ord):Prop:=((o.kind==("done":Str))=true->o=.done)/\((o.kind==("abort":Str))=true->o=.leaf (.bM .abort))
theorem kl_no{o:Ord}(h1:(o.kind==("done":Str))=false)(h2:(o.kind==("abort":Str))=false):KL o:=⟨ff h1,ff h2⟩
theorem zX(o:Ord):KL o:=by
 cases o with
 | nm b r=>cases b<;>exact kl_no rfl rfl
 | done=>exact⟨λ_=>rfl,ff rfl⟩
 | leaf l=>
  cases l with
  | bM k=>cases k<;>first | exact kl_no rfl rfl | exact⟨ff rfl,λ_=>rfl⟩
  | _=>exact kl_no rfl rfl
 | _=>exact kl_no rfl rfl
theorem xc{b:Bool}{P A:Prop}(hP:P)(h:b=true->P->A):if b=true then A else P:=by
 cases b with
 | false=>exact hP
 | true=>exact h rfl hP
section
variable{M:Mx}{J:bf->bE->Prop}{σ:AH}{h:HS}
end
namespace oB
@[reducible] noncomputable def P(M:Mx)(J:bf->bE->Prop)(σ:AH)(h:HS)(oa:Addr)(code:List Ord)(begin f:Nat):Prop:=∀(O:zo M σ)(T:NT M J)(FO:mT M.F)(pn:DL M.F.C.pn)(qV:M.F.lim<=900)(Hs:gL M.F σ h)(hm:σ M.dm=some (.dict (ck M.F.C.s M.F.d M.ha)))(hh:σ M.ha=some (.list []))(ho:ko M σ oa code)(hj:J ⟨code,0,begin,[],[],[]⟩ [])(GN:∀w H,J w H->w.code.length<=100000)(G:uj M.F h 0)(hf:f+h.steps=M.F.lim),cx 11 (RX M σ (fz M.F.C f ⟨code,0,begin,[],[],[]⟩ [] h)) (.ref 474) [.inst 526 M.dm,.lst oa,.int begin] σ (RQ M σ (fz M.F.C f ⟨code,0,begin,[],[],[]⟩ [] h))
noncomputable def Q_:=UU λM=>UU λJ=>UU λσ=>UU λh=>UU λoa=>UU λcode=>UU (P M J σ h oa code)
noncomputable def x_:=xx Q_ (⟨⟨(0:Nat),(0:Nat),(0:Nat),(0:Nat),(0:Nat),[],0,⟨"",[],.leaf .dZ⟩⟩,(0:Nat),(0:Nat)⟩,(λ_ _=>True),(λ_=>none),⟨[],[],0⟩,(0:Nat),[],0,0)
def M:=x_.1
def J:=x_.2.1
def σ:=x_.2.2.1
def h:=x_.2.2.2.1
def oa:=x_.2.2.2.2.1
def code:=x_.2.2.2.2.2.1
def begin:=x_.2.2.2.2.2.2.1
def f:=x_.2.2.2.2.2.2.2
theorem go:P M J σ h oa code begin f:=by
 intro O T FO pn qV Hs hm hh ho hj GN G hf;have co:=(bZ).1;have cw:=d4;have cp:=(bt).1;refine dX (ub) rfl λL=>?_
 kcf_m
 (refine au (aA ?_ rfl rfl))
 refine iP cw.2.2.1 ?_;kd_p;refine aU.call ((sS λdw JQ=>?_).less (Nat.le_of_ble_eq_true rfl))
 kd_p;have K0:Kept σ (σ.put dw (.dict (aK (.lst oa) (.int 0) (.int begin) .none .none .none))) []:=Kept.new JQ;have S0:wB M σ (σ.put dw (.dict (aK (.lst oa) (.int 0) (.int begin) .none .none .none))) h [] dw ⟨code,0,begin,[],[],[]⟩:=by
  refine⟨⟨Hs.new JQ,K0 _ _ hm nn,K0 _ _ hh nn,(by intro p hp;cases hp),by exact .nil,(by intro p hp;cases hp),K0.to⟩,JQ,by exact nofun,oa,.none,AH.aa _ _ _,⟨K0 _ _ ho.1 nn,ho.2⟩,rfl⟩
 generalize hR:fz M.F.C f ⟨code,0,begin,[],[],[]⟩ [] h=R;refine eE (RI M J σ R) f (.on _ dw [] h S0 hj G hf hR (by wtm_at "a") (by wtm_at "a")) ?_
 rintro f ρ aI (⟨w,dw,hist,h1,S,Tj,G1,yI,e,l1,l2⟩ | ⟨e,B,l1,l2⟩)
 rotate_left
 ·kd_p
  refine bQ ?_;kd_p;refine iV rfl ?_;kd_p;exact⟨by rw[e];rfl,B.bV,B.rest⟩
 kd_p;refine bQ ?_;kd_p;wtm_at "h";kd_p;refine aB ?_;kd_p;refine ax co (dQ) S.base.mt (v:=.inst 582 M.F.d) rfl (mA _ _) ?_;refine⟨_,a9 cp (ij) (dR).1 S.base.bV.host.h rfl,(dR).2,?_⟩;kd_p;refine cx.call ((oi (X:=RX M σ R) S.base.bV.host (λhl=>?_) (λhl=>?_)).less (Nat.le_of_ble_eq_true rfl)) (λ_ _ x=>x)
 rotate_left
 ·have Qv:f=0:=by exact Nat.le_antisymm (aX (.e (.a .A .B) .C (.t .C (.a .B .O) (.g .A .Z))) rfl yI (UZ hl)) (z6)
  subst Qv;cases e;have B3:=S.base.step O;exact⟨rfl,B3.bV,B3.rest⟩
 obtain⟨f2,rfl⟩:∃f2,f=f2+1:=⟨f-1,by exact Nat.le_antisymm (aH (.f (.a .A .O) .B (.g .B (.a .A .O))) rfl (Nat.sub_add_cancel (EN (iL hl) yI))) (aH (.e (.a .A .O) .B (.g (.a .A .O) .B)) rfl (Nat.sub_add_cancel (EN (iL hl) yI)))⟩
 have e:rV (fz M.F.C f2) w (eP M.F.C w.order w (hist.map (·.2)) h1.tick)=R:=e
 obtain⟨o,LX,Es,Lx⟩:=T.ord _ _ Tj;have mH:w.order=o:=by unfold bf.order;rw[LX];rfl
 have Em:=T.go w (hist.map (·.2)) h1.tick
 rw[mH]at e Em;have S2:wB M σ (aI.put M.F.d (.dict (gA M.F.av M.F.ar M.F.al (h1.steps+1) M.F.lim))) h1.tick hist dw w:=by
  have W:dJ M aI [M.F.d]:=λy m=>by rw[List.mem_singleton]at m;subst m;exact .inr (.inr ⟨_,S.base.bV.host.h⟩)
  exact⟨S.base.step O,S.fresh,S.off,S.cur.kept (Kept.put (by exact .head _)) W (by rw[gg];exact(O.new S.fresh).1)⟩
 have AG:=yR (H:=hist.map (·.2)) (w:=w) FO (by simpa using G1) (Es.symm)
 have BL:=GN _ _ Tj;have sd:=λoM GL=>Gl O S2 G1.tick.ok FO.hs pn (by have:=FO.hs;exact aH (.l .A (.k 4) (.l .B .A (.g .B (.k 1000)))) rfl this Lx) (o:=o) oM GL (by show h1.vals.length<=1000;have:=G1.va;exact aX (.l (.a .A .O) .B (.l .C (.a (.k 3) .A) (.l .B (.k 900) (.g .C (.k 1000))))) rfl (iL hl) this qV) (by show h1.log.length<=1000000;have:=G1.lo;exact aX (.l (.a .A .O) .B (.l .B (.k 900) (.l .C .A (.g .C (.k 1000000))))) rfl (iL hl) qV this) (by have:=G1.pi;exact aX (.l2 5 (.a .A .O) .B (.l .C (.a .O (.m 5 .A)) (.l2 5 .B (.k 900) (.g .C (.k 100000))))) rfl (iL hl) this qV)
 revert S2 sd;generalize (aI.put M.F.d (.dict (gA M.F.av M.F.ar M.F.al (h1.steps+1) M.F.lim)))=bU;intro S2 sd;obtain⟨Vp,cl,hw,zN,rN⟩:=S2.cur;have OT:=pB rN;have hlen:w.pc<2^62:=by have:=(List.getElem?_eq_some_iff.mp LX).1;exact aH (.t .A .B (.l .B (.k 100000) (.b .A (.k 4611686018427387904)))) rfl this BL
 kd_p
 (refine aA ?_ rfl rfl)
 kd_p;refine ax cw.1 (c7) hw (v:=.lst Vp) rfl (c5 _) ?_;kd_p;refine ax cw.1 (bA) hw (v:=.int w.pc) rfl (bW _) ?_;refine cz (j:=w.pc) zN.1 rfl (by rw[List.getElem?_map,LX];rfl) hlen ?_
 rw[o.v_eq]at sd ⊢;kd_p;refine aq rfl ?_;kd_p;have kl:=zX o;have U5:cl.isNone=w.calls.isEmpty:=ux rN;by_cases Iw:o=.done/\w.calls=[]
 ·obtain⟨rfl,Uy⟩:=Iw
  try refine ite_tt (by decide) ?_
  kd_p;refine ax cw.1 (di) hw (v:=cl) rfl OT ?_;kd_p;refine is_none ?_ OT;rw[U5,Uy];kd_p;refine iV rfl ?_;kd_p;have em:eP M.F.C .done w (hist.map (·.2)) h1.tick=(.met,hist.map (·.2),h1.tick):=by
   show((match w.calls with | []=>MA.met | (c,p)::r=>.go { w with code:=c,pc:=p,calls:=r }),_,_)=_
   rw[Uy]
  rw[em]at e;cases e;exact⟨⟨dw,.lst Vp,.int w.pc,qF w.marks,cl,rfl,by rw[List.reverse_reverse];exact hw,S2.fresh⟩,S2.base.bV,S2.base.rest⟩
 have oM:zp M w o:=Es.resolve_left Iw;refine xc ?_ (λq1 hP=>?_)
 rotate_left
 ·have q2:cl.isNone=false:=by
   rw[U5];cases hc:w.calls with
   | nil=>exact absurd ⟨kl.1 q1,hc⟩ Iw
   | cons a b=>rfl
  kd_p;refine ax cw.1 (di) hw (v:=cl) rfl OT ?_;kd_p;refine is_none ?_ OT;rw[q2]
  repeat (first | exact hP | wtm_at "l")
 ·kd_p
  refine aq rfl ?_;kd_p;by_cases GL:o=.leaf (.bM .abort)
  ·subst GL
   have em:eP M.F.C (.leaf (.bM .abort)) w (hist.map (·.2)) h1.tick=(.over,hist.map (·.2),h1.tick):=rfl
   rw[em]at e;cases e
   try refine ite_tt (by decide) ?_
   kd_p;refine iV rfl ?_;kd_p;exact⟨rfl,S2.base.bV,S2.base.rest⟩
  ·have Xu:(o.kind==("abort":Str))=false:=by
    cases q:(o.kind==("abort":Str)) with
    | false=>rfl
    | true=>exact absurd (kl.2 q) GL
   try refine ite_ff Xu ?_
   kd_p;refine aY ?_;refine aB ?_;kd_p;refine⟨_,a9 co (sH) (lH).1 S2.base.mt rfl,(lH).2,?_⟩;kd_p;refine cx.call ((cx.mono (sd oM GL) ?_).less (Nat.le_of_ble_eq_true rfl)) ?_
   ·intro v fE se
    revert e se AG Em;generalize eP M.F.C o w (hist.map (·.2)) h1.tick=A
    intro e Em AG se;cases se with
    | @go w' w5 h' _ uM eh S3=>
     subst eh;have bV:h'.steps=h1.steps+1:=AG.es;have e:fz M.F.C f2 w' (uM.map (·.2)) h'=R:=e
     kd_p;exact⟨f2,Nat.lt_succ_self _,.on w' dw uM h' S3 (Em _ _ _ Tj rfl) (by simpa using AG.gd) (by exact Nat.le_antisymm (G7 yI bV) (G8 yI bV)) e (by wtm_at "a") (by wtm_at "a")⟩
    | @dead w5 h' _ eh B3=>
     subst eh;have bV:h'.steps=h1.steps+1:=AG.es;have WE:((hist.map λp=>V.inst 449 p.1).reverse).length<=100000:=by rw[List.length_reverse,List.length_map];have:=G1.pi;exact aX (.l2 5 (.a .A .O) .B (.l .C (.a .O (.m 5 .A)) (.l2 5 .B (.k 900) (.g .C (.k 100000))))) rfl (iL hl) this qV
     kd_p
     (refine aA ?_ rfl rfl)
     refine aB ?_;kd_p;refine⟨_,a9 co (mV) (il).1 B3.mt rfl,(il).2,?_⟩;kd_p;refine aU.call ((x6 B3.mt WE B3.hi ?_).less (Nat.le_of_ble_eq_true rfl));cases hist with
     | nil=>
      have e:((Rs.none,h'):Rs×HS)=R:=e;subst e;simp only[List.map_nil,List.reverse_nil,List.getLast?_nil];kd_p;refine bQ (a:=.none) ?_;kd_p;exact⟨0,Nat.succ_pos _,.off rfl B3 (by wtm_at "a") (by wtm_at "a")⟩
     | cons p hist=>
      have ed:(((p::hist).map λp=>V.inst 449 p.1).reverse)=(hist.map λp=>V.inst 449 p.1).reverse++[V.inst 449 p.1]:=by simp
      obtain⟨B4,W4,f4,o4⟩:=B3.pop O;rw[ed,List.getLast?_concat,List.dropLast_concat];revert B4 W4;generalize (fE.put M.ha (.list (hist.map λp=>V.inst 449 p.1).reverse))=ki
      intro B4 W4;obtain⟨pa,px⟩:=p;cases px with
      | none=>
       have e:((Rs.dv,h'):Rs×HS)=R:=e;subst e;have W4:ki pa=some (.dict (aK .none (.int 0) (.int 0) .none .none .none)):=W4;kd_p;refine bQ ?_;kd_p;wtm_at "h";kd_p;refine ax cw.1 (c7) W4 (v:=.none) rfl vJ ?_;kd_p;refine is_none (a:=.none) ?_;kd_p;refine iV rfl ?_;kd_p;exact⟨rfl,B4.bV,B4.rest⟩
      | some w4=>
       have e:fz M.F.C f2 w4 (hist.map (·.2)) h'=R:=e
       have W4:pj M ki pa w4:=W4;obtain⟨XG,Yq,Xe,YB,Yw⟩:=id W4;have VU:=T.back w _ w4 (hist.map (·.2)) Tj rfl
       kd_p;refine bQ ?_;kd_p;wtm_at "h";kd_p;refine ax cw.1 (c7) Xe (v:=.lst XG) rfl (c5 _) ?_;kd_p;refine is_none ?_;kd_p;wtm_at "i";kd_p;refine⟨f2,Nat.lt_succ_self _,.on w4 pa hist h' ⟨B4,f4,o4,W4⟩ VU ⟨AG.gd.ok,AG.gd.lo,AG.gd.va,?_⟩ (by exact Nat.le_antisymm (G7 yI bV) (G8 yI bV)) e (by wtm_at "a") (by wtm_at "a")⟩
       have:=AG.gd.pi;simp at this;exact EM this
   ·rintro num fE ⟨b,eb,en,H3,K3⟩
    revert e eb H3;generalize eP M.F.C o w (hist.map (·.2)) h1.tick=A
    obtain⟨x,w5,h'⟩:=A;intro e eb H3;have eb:x=.err b:=eb;subst eb;cases e;exact⟨by rw[en];rfl,H3,K3⟩
end oB
theorem Nw{M:Mx}{J:bf->bE->Prop}{σ:AH}{h:HS}{oa:Addr}{code:List Ord}{begin f:Nat}:oB.P M J σ h oa code begin f:=xa (Q:=oB.Q_) oB.go (M,J,σ,h,oa,code,begin,f)
section
variable{M:Mx}{J:bf->bE->Prop}{σ:AH}{h:HS}
end
end
section
structure kc(n:Nat)(H:bE)(R:MA×bE×HS):Prop where
 go:∀w',R.1=.go w'->w'.named.length<=n+1
 hs:∀v,some v∈R.2.1->some v∈H\/v.named.length<=n
section
variable{C:Cf}{w:bf}{H:bE}{h:HS}
theorem kc.same{n:Nat}{x:MA}(hx:∀w',x=.go w'->w'.named.length<=n+1):kc n H (x,H,h):=⟨hx,λv m=>.inl m⟩
theorem kc.push{n:Nat}{x:MA}{v:bf}(hx:∀w',x=.go w'->w'.named.length<=n+1)(hv:v.named.length<=n):kc n H (x,some v::H,h):=⟨hx,λu m=>(List.mem_cons.mp m).elim (λe=>by cases e;exact .inr hv) .inl⟩
theorem kc.wW{n:Nat}{w1:bf}(hn:w1.named.length<=n+1):kc n H (.go w1,H,h):=.same λw' e=>by cases e;exact hn
theorem kc.no{n:Nat}{x:MA}(hx:∀w',x=.go w'->False):kc n H (x,H,h):=.same λw' e=>(hx w' e).elim
theorem Hd{q:Pl}:kc w.named.length H (ow C w H h q):=by
 unfold ow;split
 ·exact .no λw' e=>nomatch e
 ·exact .wW (Nat.le_succ _)
theorem CF{n:Nat}{k:Str}{v:V}(hn:w.named.length<=n+1):kc n H (iU C w H h k v):=by
 unfold iU;split
 ·exact .no λw' e=>nomatch e
 ·exact⟨λw' e=>by cases e;exact hn,λv m=>.inl m⟩
set_option tactic.hygienic true in
theorem yS(o:Ord):kc w.named.length H (eP C o w H h):=by
 cases o with
 | leaf l=>
  show kc _ _ (jF C l w H h);cases l with
  | pl q=>exact Hd
  | dZ=>
   show kc _ _ (match bu h.N with | .error b=>(MA.err b,H,h) | .ok q=>ow C w H h q)
   cases bu h.N with
   | error b=>exact .no λw' e=>nomatch e
   | ok q=>exact Hd
  | cV b=>
   show kc _ _ (kr w H h (gz b C.s w.at_));cases gz b C.s w.at_ with
   | nil=>exact .no λw' e=>nomatch e
   | cons x es=>
    refine⟨λw' e=>by cases e;exact Nat.le_succ _,λv m=>?_⟩
    rcases List.mem_append.mp m with m | m
    ·obtain⟨e,_,e2⟩:=List.mem_map.mp m
     cases e2;exact .inr (Nat.le_refl _)
    ·exact .inl m
  | ask=>exact .wW (Nat.le_succ _)
  | bM k=>
   cases k with
   | fence=>exact⟨λw' e=>by cases e;exact Nat.le_succ _,λv m=>(List.mem_cons.mp m).elim (λe=>nomatch e) .inl⟩
   | fail=>exact .no λw' e=>nomatch e
   | abort=>exact .no λw' e=>nomatch e
   | cA=>exact .push (λw' e=>by cases e;exact Nat.le_succ _) (Nat.le_refl _)
  | c0 k=>exact CF (Nat.le_succ _)
 | split g=>exact .push (v:={ w with pc:=g }) (λw' e=>by cases e;exact Nat.le_succ _) (Nat.le_refl _)
 | bG g=>exact .wW (w1:={ w with pc:=g }) (Nat.le_succ _)
 | mark=>exact .wW (w1:={ w.next with marks:=w.at_::w.marks }) (Nat.le_succ _)
 | nm b r=>
  cases b with
  | false=>exact .wW (Nat.le_refl _)
  | true=>exact CF (w:={ w with marks:=w.marks.tail }) (Nat.le_succ _)
 | dY=>
  show kc _ _ ((if w.marks.headD 0<w.at_ then MA.go { w.next with marks:=w.marks.tail } else MA.dead),H,h)
  by_cases e:w.marks.headD 0<w.at_
  ·rw[if_pos e];exact .wW (Nat.le_succ _)
  ·rw[if_neg e];exact .no λw' e=>nomatch e
 | done=>
  show kc _ _ ((match w.calls with | []=>MA.met | (c,p)::r=>MA.go { w with code:=c,pc:=p,calls:=r }),H,h)
  cases w.calls with
  | nil=>exact .no λw' e=>nomatch e
  | cons c r=>exact .wW (w1:={ w with code:=c.1,pc:=c.2,calls:=r }) (Nat.le_succ _)
end
structure Hy(F:Fx)(l:Nat)(R:Rs×HS):Prop where
 gd:uj F R.2 0
 le:R.1=.cut\/R.2.steps<=l
 nm:∀a n,R.1=.met a n->n.length<=R.2.steps
theorem uj.nil{F:Fx}{h:HS}{n:Nat}(G:uj F h n):uj F h 0:=⟨G.ok,G.lo,G.va,Nat.zero_le _⟩
noncomputable def DH(H:bE)(R:MA×bE×HS):Prop:=R.1=.dead->R.2.1=H
theorem wM{H:bE}{x:MA}{h:HS}:DH H (x,H,h):=λ_=>rfl
theorem zC{H H':bE}{w:bf}{h:HS}:DH H (.go w,H',h):=λe=>nomatch e
theorem GB{C:Cf}{w:bf}{H:bE}{h:HS}{q:Pl}:DH H (ow C w H h q):=by unfold ow;split<;>exact wM
theorem BA{C:Cf}{w:bf}{H:bE}{h:HS}{k:Str}{v:V}:DH H (iU C w H h k v):=by
 unfold iU;split
 ·exact wM
 ·exact zC
theorem Ff{C:Cf}{o:Ord}{w:bf}{H:bE}{h:HS}:DH H (eP C o w H h):=by
 cases o with
 | leaf l=>
  show DH H (jF C l w H h);cases l with
  | pl q=>exact GB
  | dZ=>
   show DH H (match bu h.N with | .error b=>(MA.err b,H,h) | .ok q=>ow C w H h q)
   cases bu h.N with
   | error b=>exact wM
   | ok q=>exact GB
  | cV b=>
   show DH H (kr w H h (gz b C.s w.at_));cases gz b C.s w.at_ with
   | nil=>exact wM
   | cons x es=>exact zC
  | ask=>exact zC
  | bM k=>cases k<;>first | exact wM | exact zC
  | c0 k=>exact BA
 | nm b r=>cases b with
  | false=>exact zC
  | true=>exact BA
 | dY=>exact wM
 | done=>exact wM
 | _=>exact zC
theorem z8{C:Cf}{o:Ord}{w:bf}{H H':bE}{h h':HS}(e:eP C o w H h=(.dead,H',h')):H'=H:=by
 have z:DH H (eP C o w H h):=Ff;rw[e]at z;exact z rfl
theorem te{M:Mx}{J:bf->bE->Prop}(O:mT M.F)(T:NT M J){l:Nat}:∀(f:Nat)(w:bf)(H:bE)(h:HS),J w H->uj M.F h H.length->w.named.length<=h.steps->(∀v,some v∈H->v.named.length<=h.steps)->f+h.steps=l->Hy M.F l (fz M.F.C f w H h)
 | 0,w,H,h,_,G,_,_,hf=>⟨G.tick.nil,.inl rfl,λa n e=>by cases e⟩
 | f+1,w,H,h,Tj,G,hn,hh,hf=>by
  show Hy _ _ (rV (fz M.F.C f) w (eP M.F.C w.order w H h.tick));obtain⟨o,LX,Es,Lx⟩:=T.ord _ _ Tj;have mH:w.order=o:=by unfold bf.order;rw[LX];rfl
  have Em:=T.go w H h.tick;rw[mH]at Em ⊢;have AG:=yR O G Es.symm;have NM:=yS (C:=M.F.C) (w:=w) (H:=H) (h:=h.tick) o;have hd:=λH' h'=>z8 (C:=M.F.C) (o:=o) (w:=w) (H:=H) (H':=H') (h:=h.tick) (h':=h')
  revert Em AG NM hd;generalize eP M.F.C o w H h.tick=A;obtain⟨x,H2,h2⟩:=A;intro Em AG NM hd;have bV:h2.steps=h.steps+1:=AG.es;have En:∀v,some v∈H2->v.named.length<=h2.steps:=λv m=>by
   rcases NM.hs v m with z | z
   ·have:=hh v z;exact aX (.f .A (.a .B .O) (.l .C .B (.g .C .A))) rfl bV this
   ·exact bD (.f .A (.a .B .O) (.l .C .D (.l .D .B (.g .C .A)))) rfl bV z hn
  cases x with
  | go w'=>exact te O T f w' H2 h2 (Em _ _ _ Tj rfl) AG.gd (by have:=NM.go w' rfl;exact bD (.f .A (.a .B .O) (.l .C (.a .D .O) (.l .D .B (.g .C .A)))) rfl bV this hn) En (by exact Nat.le_antisymm (G7 hf bV) (G8 hf bV))
  | over=>exact⟨AG.gd.nil,.inr (by show h2.steps<=l;exact u7 hf bV),λa n e=>by cases e⟩
  | err b=>exact⟨AG.gd.nil,.inr (by show h2.steps<=l;exact u7 hf bV),λa n e=>by cases e⟩
  | met=>exact⟨AG.gd.nil,.inr (by show h2.steps<=l;exact u7 hf bV),λa n e=>by cases e;show w.named.reverse.length<=h2.steps;rw[List.length_reverse];exact aX (.f .A (.a .B .O) (.l .C .B (.g .C .A))) rfl bV hn⟩
  | dead=>
   have e:=hd H2 h2 rfl;subst e;cases H2 with
   | nil=>exact⟨AG.gd.nil,.inr (by show h2.steps<=l;exact u7 hf bV),λa n e=>by cases e⟩
   | cons y H2=>
    cases y with
    | none=>exact⟨AG.gd.nil,.inr (by show h2.steps<=l;exact u7 hf bV),λa n e=>by cases e⟩
    | some v=>
     refine te O T f v H2 h2 (T.back w _ v H2 Tj rfl) ⟨AG.gd.ok,AG.gd.lo,AG.gd.va,?_⟩ (En v (by exact .head _)) (λu m=>En u (by exact .tail _ (by assumption))) (by exact Nat.le_antisymm (G7 hf bV) (G8 hf bV))
     have:=AG.gd.pi;simp at this;exact EM this
end
section
noncomputable def str(U:List Ord):List Ord:=U.map (cC U)
structure zr(refs:List Ref)(U:List Ord):Prop where
 len:U.length<=90000
 ok:∀o∈U,Pn refs o
inductive dy(refs:List Ref):List Ord->Nat->List Nat->List (List Ord×Nat)->List It->Prop
 | fin{U pc mk}(h:U[pc]? =some .done):dy refs U pc mk [] []
 | ret{U pc mk U2 p cl r}(h:U[pc]? =some .done)(u:zr refs U2)(c:dy refs U2 p mk cl r):dy refs U pc mk ((str U2,p)::cl) r
 | bG{U pc g mk cl r}(h:U[pc]? =some (.bG g))(c:dy refs U g mk cl r):dy refs U pc mk cl r
 | nm{U pc now k a mk cl r}(h:U[pc]? =some (.nm now k))(c:dy refs U (pc+1) mk cl r):dy refs U pc (a::mk) cl (.fin now k a::r)
 | dY{U pc x a mk cl r}(h:U[pc]? =some .dY)(c:dy refs U (pc+1) mk cl (.nd (.bo x)::r)):dy refs U pc (a::mk) cl (.round x a::r)
 | row{U b mk cl r}(ns:List Nd)(hn:∀n∈ns,fF refs n)(sg:Seg U b (cZ code (JJ (ns.flatMap ah)) b))(c:dy refs U (b+(cZ code (JJ (ns.flatMap ah)) b).length) mk cl r):dy refs U b mk cl (ns.map It.nd++r)
theorem oS{refs:List Ref}{ns:List Nd}(hn:∀n∈ns,fF refs n):∀p∈ns.flatMap ah,fF refs p/\textOf p≠some ("":Str)/\ah p=[p]:=λp hp=>by
 obtain⟨n,hm,hp⟩:=List.mem_flatMap.mp hp;exact⟨iX (hn n hm) p hp,(oR (hn n hm).tok p hp).2,nu hp⟩
theorem pW{refs:List Ref}{ps:List Nd}(hp:∀p∈ps,fF refs p/\textOf p≠some ("":Str)/\ah p=[p]){q:Nd}(hq:q∈JJ ps):(∃b0:Nat,True)/\ah q=[q]/\∀b,∃o r,code q b=o::r/\o.eU=false:=by
 refine⟨⟨0,trivial⟩,?_⟩;rcases pX (λp h=>(hp p h).2.1) hq with z | ⟨t,rfl,_,_⟩
 ·exact⟨(hp q z).2.2,iv _ q (Nat.le_refl _) (hp q z).1⟩
 ·exact⟨rfl,λb=>⟨_,_,rfl,rfl⟩⟩
section
variable{refs:List Ref}{U:List Ord}{pc:Nat}{mk:List Nat}{cl:List (List Ord×Nat)}{r:List It}
theorem dy.Cb(h:dy refs U pc mk cl r):∀{g},U[pc]? =some (.bG g)->dy refs U g mk cl r:=by
 induction h with
 | fin h=>intro g e;rw[h]at e;cases e
 | ret h u c _=>intro g e;rw[h]at e;cases e
 | bG h c _=>intro g e;rw[h]at e;cases e;exact c
 | nm h c _=>intro g e;rw[h]at e;cases e
 | dY h c _=>intro g e;rw[h]at e;cases e
 | @row U b mk cl r ns hn sg c ih=>
  intro g e;cases ns with
  | nil=>exact ih e
  | cons n ns=>
   obtain⟨p,ps,e1⟩:=iB n;have hh:=oS hn;have e2:(n::ns).flatMap ah=p::(ps++ns.flatMap ah):=by rw[List.flatMap_cons,e1];rfl
   rw[e2]at sg hh;obtain⟨q,qs,e3⟩:=yM (p:=p) (ps:=ps++ns.flatMap ah);have hq:=(pW (q:=q) hh (by rw[e3];exact .head _)).2.2 b
   rw[e3]at sg;obtain⟨o,r2,e4,j⟩:=mm (f:=code) (ps:=qs) hq;rw[e4]at sg;have:=sg.head;rw[e]at this;cases this;cases j
theorem dy.res(h:dy refs U pc mk cl r):cF U pc:=by
 induction h with
 | fin h=>exact fB h rfl
 | ret h u c _=>exact fB h rfl
 | bG h c ih=>exact vt h ih
 | nm h c _=>exact fB h rfl
 | dY h c _=>exact fB h rfl
 | @row U b mk cl r ns hn sg c ih=>
  cases ns with
  | nil=>exact ih
  | cons n ns=>
   obtain⟨p,ps,e1⟩:=iB n;have hh:=oS hn;have e2:(n::ns).flatMap ah=p::(ps++ns.flatMap ah):=by rw[List.flatMap_cons,e1];rfl
   rw[e2]at sg hh;obtain⟨q,qs,e3⟩:=yM (p:=p) (ps:=ps++ns.flatMap ah);have hq:=(pW (q:=q) hh (by rw[e3];exact .head _)).2.2 b
   rw[e3]at sg;obtain⟨o,r2,e4,j⟩:=mm (f:=code) (ps:=qs) hq;rw[e4]at sg;exact fB sg.head j
theorem dy.along(h:dy refs U pc mk cl r):∀f,dy refs U (resolve U f pc) mk cl r:=by
 intro f
 induction f generalizing pc with
 | zero=>exact h
 | succ f ih=>
  show dy refs U (match U[pc]? with | some (.bG g')=>resolve U f g' | _=>pc) mk cl r
  cases e:U[pc]? with
  | none=>exact h
  | some o=>
   cases o with
   | bG g=>exact ih (h.Cb e)
   | _=>exact h
theorem dy.final(h:dy refs U pc mk cl r):dy refs U (dF U pc) mk cl r:=by
 obtain⟨f,o,e,_,_⟩:=kN h.res;rw[e];exact h.along f
theorem pO{o:Ord}(h:U[pc]? =some o)(j:o.eU=false):dF U pc=pc:=by
 obtain⟨f,o',e,_,_⟩:=kN (fB h j);rw[e];cases f with
 | zero=>rfl
 | succ f=>
  show(match U[pc]? with | some (.bG g')=>resolve U f g' | _=>pc)=pc
  rw[h];cases o<;>first | rfl | cases j
theorem FT{o:Ord}(h:U[pc]? =some o):(str U)[pc]? =some (cC U o):=by unfold str;rw[List.getElem?_map,h];rfl
end
end
section
abbrev Vals:=List (Str×V)
structure yi(C:Cf)(w:cD)(p:br)(v:Vals)(l:List V)(R:Rs)(v':Vals)(l':List V):Prop where
 nc:R≠.cut
 ev:∃f,∀st,∃mI,fc C f w p ⟨v,l,st⟩=(R,⟨v',l',mI⟩)
structure Bf(C:Cf)(p:br)(v:Vals)(l:List V)(R:Rs)(v':Vals)(l':List V):Prop where
 nc:R≠.cut
 ev:∃f,∀st,∃mI,FW (fc C f) p ⟨v,l,st⟩=(R,⟨v',l',mI⟩)
noncomputable def Back(C:Cf)(w':cD)(p':br)(v':Vals)(l':List V)(w:cD)(p:br)(v:Vals)(l:List V):Prop:=∀R v2 l2,yi C w' p' v' l' R v2 l2->yi C w p v l R v2 l2
noncomputable def lp(C:Cf)(p':br)(v':Vals)(l':List V)(w:cD)(p:br)(v:Vals)(l:List V):Prop:=∀R v2 l2,Bf C p' v' l' R v2 l2->yi C w p v l R v2 l2
section
variable{C:Cf}{i:It}{r:List It}{a:Nat}{n:Named}{p p':br}{v v':Vals}{l l':List V}{w w' w2:cD}{p2:br}{v2:Vals}{l2:List V}
theorem Back.refl:Back C w p v l w p v l:=λ_ _ _ h=>h
theorem Back.trans(a:Back C w2 p2 v2 l2 w' p' v' l')(b:Back C w' p' v' l' w p v l):Back C w2 p2 v2 l2 w p v l:=λR x y h=>b R x y (a R x y h)
theorem lp.trans{p3:br}{v3:Vals}{l3:List V}(a:lp C p3 v3 l3 w' p' v' l')(b:Back C w' p' v' l' w p v l):lp C p3 v3 l3 w p v l:=λR x y h=>b R x y (a R x y h)
theorem c9(e:∀st,mY C i r a n p ⟨v,l,st⟩=(.go w',p',⟨v',l',st⟩)):Back C w' p' v' l' ⟨i::r,a,n⟩ p v l:=λR v2 l2 h=>by
 obtain⟨f,hf⟩:=h.ev;refine⟨h.nc,f+1,λst=>?_⟩
 obtain⟨mI,e'⟩:=hf (st+1);refine⟨mI,?_⟩;rw[fC];show sj (fc C f) (mY C i r a n p ⟨v,l,st+1⟩)=_;rw[e];exact e'
theorem fu(e:∀st,mY C i r a n p ⟨v,l,st⟩=(.dead,p',⟨v',l',st⟩)):lp C p' v' l' ⟨i::r,a,n⟩ p v l:=λR v2 l2 h=>by
 obtain⟨f,hf⟩:=h.ev;refine⟨h.nc,f+1,λst=>?_⟩
 obtain⟨mI,e'⟩:=hf (st+1);refine⟨mI,?_⟩;rw[fC];show sj (fc C f) (mY C i r a n p ⟨v,l,st+1⟩)=_;rw[e];exact e'
theorem vE{x:AR}{R:Rs}(e:∀st,mY C i r a n p ⟨v,l,st⟩=(x,p',⟨v',l',st⟩))(hx:x=.dv/\R=.dv\/∃b,x=.err b/\R=.err b):yi C ⟨i::r,a,n⟩ p v l R v' l':=by
 refine⟨by rcases hx with ⟨_,rfl⟩ | ⟨b,_,rfl⟩<;>(intro z;cases z),1,λst=>⟨st+1,?_⟩⟩
 rw[fC];show sj (fc C 0) (mY C i r a n p ⟨v,l,st+1⟩)=_;rw[e];rcases hx with ⟨rfl,rfl⟩ | ⟨b,rfl,rfl⟩<;>rfl
theorem Ge:yi C ⟨[],a,n⟩ p v l (.met a n) v l:=⟨λz=>(by cases z),0,λst=>⟨st,rfl⟩⟩
theorem Dc:Bf C [] v l .none v l:=⟨λz=>(by cases z),0,λst=>⟨st,rfl⟩⟩
theorem xM:Bf C (none::p) v l .dv v l:=⟨λz=>(by cases z),0,λst=>⟨st,rfl⟩⟩
theorem nH{R:Rs}(h:yi C w p v l R v' l'):Bf C (some w::p) v l R v' l':=⟨h.nc,h.ev⟩
end
theorem eA{s t:Str}{a:Nat}(ht:t≠""):cG s a t=(if (s.cps.toList.drop a).take t.length=t.cps.toList then some ((a+t.length:Nat):Int) else none):=by
 unfold cG;have e1:((a:Int)+(t.length:Nat))=((a+t.length:Nat):Int):=by rfl
 rw[e1,r7];have e2:a+t.length-a=t.length:=by exact Nat.le_antisymm (aX (.e (.a .A .B) (.a .B .C) (.g .A .C)) rfl (Nat.sub_add_cancel (Fc))) (aX (.f (.a .A .B) (.a .B .C) (.g .C .A)) rfl (Nat.sub_add_cancel (Fc)))
 rw[e2];by_cases h:(s.cps.toList.drop a).take t.length=t.cps.toList
 ·rw[if_pos h,if_pos]
  rw[h];exact beq_self_eq_true _
 ·rw[if_neg h,if_neg]
  simp only[beq_iff_eq];intro z;have:=congrArg (λx:Str=>x.cps.toList) z
  exact h (by simpa using this)
theorem pC{s t u:Str}{a:Nat}(ht:t≠"")(hu:u≠""):cG s a (t++u)=(match cG s a t with | none=>none | some _=>cG s ((a+t.length:Nat):Int) u):=by
 have h0:t++u≠"":=Str.not_nil (by rw[Str.gB];have:=Str.pos ht;exact ER this)
 have et:((a:Nat):Int)=(a:Int):=rfl;rewrite [eA h0,eA ht,eA hu,cps_append,Str.gB];have hl:t.cps.toList.length=t.length:=Array.length_toList;have e:(s.cps.toList.drop a).take (t.length+u.length)=(s.cps.toList.drop a).take t.length++(s.cps.toList.drop (a+t.length)).take u.length:=by
  rw[List.take_add,List.drop_drop]
 rw[e];by_cases h1:(s.cps.toList.drop a).take t.length=t.cps.toList
 ·rw[if_pos h1,h1]
  dsimp only;by_cases h2:(s.cps.toList.drop (a+t.length)).take u.length=u.cps.toList
  ·rw[if_pos h2,if_pos (by rw[h2]),Nat.add_assoc]
  ·rw[if_neg h2,if_neg λz=>h2 (List.append_cancel_left z)]
 ·rw[if_neg h1,if_neg]
  intro z;refine h1 ?_;by_cases hz:((s.cps.toList.drop a).take t.length).length=t.cps.toList.length
  ·exact(List.append_inj z hz).1
  ·exfalso
   have hlen:=congrArg List.length z;have UW:u.cps.toList.length=u.length:=Array.length_toList;rw[List.length_append,List.length_append,hl,UW]at hlen;rw[List.length_take,List.length_drop]at hz hlen;rw[List.length_take,List.length_drop]at hlen;have:=Str.pos hu;exact RZ hlen this UW hl hz
end
section
inductive qP(F:Fx)(w:bf)(t:cD):Prop
 | mk(U:List Ord)(hc:w.code=str U)(u:zr F.refs U)(ea:t.at_=w.at_)(en:t.named=w.named.reverse)(la:w.at_<=F.C.s.length)(lm:∀m∈w.marks,m<=w.at_)
   (c:dy F.refs U w.pc w.marks w.calls t.chain\/(U[w.pc]? =some .mark/\dy F.refs U (w.pc+1) (w.at_::w.marks) w.calls t.chain)):qP F w t
inductive DF(F:Fx)(w:bf)(ys:List Nd)(r:List It):Prop
 | mk(U:List Ord)(hc:w.code=str U)(u:zr F.refs U)(la:w.at_<=F.C.s.length)(lm:∀m∈w.marks,m<=w.at_)(hy:∀y∈ys,fF F.refs y)(sg:Seg U w.pc (c8 code (ys.flatMap aD) w.pc))(c:dy F.refs U (w.pc+(c8 code (ys.flatMap aD) w.pc).length) w.marks w.calls r):DF F w ys r
noncomputable def zt(w:bf)(r:List It)(y:Nd):Option cD:=some ⟨.nd y::r,w.at_,w.named.reverse⟩
noncomputable def DO:It:=.nd (.leaf (.cV false))
inductive dT(F:Fx):bE->br->Prop
 | nil:dT F [] []
 | fence{H P}(pr:dT F H P):dT F (none::H) (none::P)
 | way{w t H P}(h:qP F w t)(pr:dT F H P):dT F (some w::H) (some t::P)
 | alts{w r H P}(y:Nd)(ys:List Nd)(h:DF F w (y::ys) r)(pr:dT F H P):dT F (some w::H) ((y::ys).map (zt w r)++P)
 | N6 {r H P} (w:bf) (b:Nat) (hb:b<=F.C.s.length) (hw:∀e,b<=e->e<=F.C.s.length->qP F { w with at_:=e } ⟨r,e,w.named.reverse⟩) (pr:dT F H P):dT F ((kd F.C.s b).map (λe=>some { w with at_:=e })++H) (some ⟨DO::r,b,w.named.reverse⟩::P)
inductive sA(F:Fx)(w:bf)(H:bE):cD->br->Prop
 | plain{t P}(h:qP F w t)(pr:dT F H P):sA F w H t P
 | alts{r P}(y:Nd)(ys:List Nd)(h:DF F w (y::ys) r)(pr:dT F H P):sA F w H ⟨.nd y::r,w.at_,w.named.reverse⟩ (ys.map (zt w r)++P)
theorem jS{s:Str}{b:Nat}(hb:b<=s.length):kd s b=b::kd s (b+1):=by
 unfold kd;have:s.length+1-b=(s.length+1-(b+1))+1:=by exact Nat.le_antisymm (bD (.e (.a .A .B) (.a .C .O) (.f (.a .D (.a .B .O)) (.a .C .O) (.g .A (.a .D .O)))) rfl (Nat.sub_add_cancel (aH (.l .A .B (.g .A (.a .B .O))) rfl hb)) (Nat.sub_add_cancel (aH (.l .A .B (.g (.a .A .O) (.a .B .O))) rfl hb))) (bD (.f (.a .A .B) (.a .C .O) (.e (.a .D (.a .B .O)) (.a .C .O) (.g (.a .D .O) .A))) rfl (Nat.sub_add_cancel (aH (.l .A .B (.g .A (.a .B .O))) rfl hb)) (Nat.sub_add_cancel (aH (.l .A .B (.g (.a .A .O) (.a .B .O))) rfl hb)))
 rw[this,List.range'_succ]
theorem Bn{s:Str}{b:Nat}(hb:s.length<b):kd s b=[]:=by
 unfold kd;have:s.length+1-b=0:=by exact R7 hb
 rw[this];rfl
section
variable{F:Fx}{H:bE}{p P:br}{w:bf}
theorem dT.nil_inv(h:dT F [] p):p=[]:=by
 generalize e:([]:bE)=H0 at h;cases h with
 | nil=>rfl
 | fence pr=>cases e
 | way h pr=>cases e
 | alts y ys h pr=>cases e
 | N6 w b hb hw pr=>rw[jS hb]at e;cases e
inductive VP(F:Fx)(H:bE)(p:br):Prop
 | mk(P:br)(e:p=none::P)(h:dT F H P)
theorem dT.zE(h:dT F (none::H) p):VP F H p:=by
 generalize e:(none::H:bE)=H0 at h;cases h with
 | nil=>cases e
 | fence pr=>cases e;exact⟨_,rfl,pr⟩
 | way h pr=>cases e
 | alts y ys h pr=>cases e
 | N6 w b hb hw pr=>rw[jS hb]at e;cases e
theorem dT.uo{r:List It}{b:Nat}(hb:b<=F.C.s.length)(hw:∀e,b<=e->e<=F.C.s.length->qP F { w with at_:=e } ⟨r,e,w.named.reverse⟩)(pr:dT F H P):
  dT F ((kd F.C.s (b+1)).map (λe=>some { w with at_:=e })++H) (if b<F.C.s.length then some ⟨DO::r,b+1,w.named.reverse⟩::P else P):=by
 by_cases z:b<F.C.s.length
 ·rw[if_pos z];exact .N6 w (b+1) z (λe h1 h2=>hw e (by exact aH (.l (.a .A .O) .B (.g .A .B)) rfl h1) h2) pr
 ·rw[if_neg z,Bn (by exact aH (.l .A .B (.b .A (.a .B .O))) rfl (Nat.le_of_not_lt z))];exact pr
theorem uv{r:List It}{a:Nat}{n:Named}{v:Vals}{l:List V}:Back F.C ⟨r,a,n⟩ (if a<F.C.s.length then some ⟨DO::r,a+1,n⟩::P else P) v l ⟨DO::r,a,n⟩ P v l:=c9 λst=>rfl
inductive Pr(F:Fx)(w:bf)(H:bE)(p:br):Prop
 | mk(t:cD)(P:br)(c:sA F w H t P)(b:∀v l R v' l',yi F.C t P v l R v' l'->Bf F.C p v l R v' l')
theorem dT.pop(h:dT F (some w::H) p):Pr F w H p:=by
 generalize e:(some w::H:bE)=H0 at h;cases h with
 | nil=>cases e
 | fence pr=>cases e
 | way h pr=>cases e;exact⟨_,_,.plain h pr,λv l R v' l' t=>nH t⟩
 | alts y ys h pr=>cases e;exact⟨_,_,.alts y ys h pr,λv l R v' l' t=>nH t⟩
 | N6 w' b hb hw pr=>
  rw[jS hb]at e;cases e;exact⟨_,_,.plain (hw b (Nat.le_refl _) hb) (dT.uo hb hw pr),λv l R v' l' t=>nH (uv _ _ _ t)⟩
end
section
variable{F:Fx}{r:List It}{n:Named}{P:br}{v:Vals}{l:List V}
theorem xd{p:Nd}{t:Str}(h:textOf p=some t){qs:List Nd}{q:Nd}{XS:List Nd}(e:dC p qs=q::XS):∃u,textOf q=some u:=by
 cases qs with
 | nil=>rw[fw]at e;cases e;exact⟨_,h⟩
 | cons q2 XT=>
  cases h2:textOf q2 with
  | none=>rw[ix h2]at e;cases e;exact⟨_,h⟩
  | some u=>rw[fO h h2]at e;cases e;exact⟨_,rfl⟩
theorem yT{refs:List Ref}{x y:Nd}(h:fF refs (.cat x y)):fF refs x/\fF refs y:=by
 have e:(Nd.cat x y).text=x.text+y.text:=rfl;have:=h.tx;exact⟨⟨h.tok.1,h.ok.1,by exact EU e this⟩,⟨h.tok.2,h.ok.2,by exact EV e this⟩⟩
theorem vv{m:Nd}(h:∀x y,m≠.cat x y):ah m=[m]:=by cases m<;>first | rfl | exact absurd rfl (h _ _)
inductive VX(F:Fx)(r:List It)(n:Named)(P:br)(a:Nat)(q:Nd)(qs ns:List Nd):Prop
 | mk(nt:List Nd)(h1:∀m∈q::nt,fF F.refs m)(h2:JJ ((q::nt).flatMap ah)=q::qs)(h3:JJ (nt.flatMap ah)=qs)(h4:∀(v:Vals)(l:List V),Back F.C ⟨.nd q::(nt.map It.nd++r),a,n⟩ P v l ⟨ns.map It.nd++r,a,n⟩ P v l)
theorem qr{a:Nat}{q:Nd}{qs:List Nd}(hq:textOf q=none):∀(k:Nat)(ns:List Nd),sz ns<=k->(∀m∈ns,fF F.refs m)->JJ (ns.flatMap ah)=q::qs->VX F r n P a q qs ns
 | k,[],_,_,e=>by cases e
 | 0,m::ms,h,_,_=>by rw[cq]at h;have:=m.size_pos;exact False.elim (aH (.l (.a .A .B) .Z (.t .Z .A (.z))) rfl h this)
 | k+1,m::ms,h,hn,e=>by
  rw[cq]at h;by_cases hc:∃x y,m=.cat x y
  ·obtain⟨x,y,rfl⟩:=hc
   have hs:(Nd.cat x y).size=x.size+y.size+1:=rfl;have hx:=yT (hn _ (.head _));obtain⟨nt,h1,h2,Oc,h3⟩:=qr (a:=a) hq k (x::y::ms) (by rw[cq,cq];exact gf (.l (.a .A .B) (.a .C .O) (.f .A (.a (.a .D .E) .O) (.g (.a .D (.a .E .B)) .C))) rfl h hs) (λp hp=>by
    rcases List.mem_cons.mp hp with rfl | hp
    ·exact hx.1
    ·rcases List.mem_cons.mp hp with rfl | hp
     ·exact hx.2
     ·exact hn p (.tail _ hp)) (by rw[List.flatMap_cons,List.flatMap_cons, <-List.append_assoc];exact e)
   exact⟨nt,h1,h2,Oc,λv l=>(h3 v l).trans (c9 λst=>rfl)⟩
  ·have hr:ah m=[m]:=vv λx y z=>hc ⟨x,y,z⟩
   have e:dC m (JJ (ms.flatMap ah))=q::qs:=by rw[List.flatMap_cons,hr]at e;exact e
   cases hm:textOf m with
   | some t=>obtain⟨u,hu⟩:=xd hm e;rw[hq]at hu;cases hu
   | none=>
    rw[fy hm]at e;cases e;refine⟨ms,hn,?_,rfl,λv l=>Back.refl⟩
    rw[List.flatMap_cons,hr];show dC q (JJ (ms.flatMap ah))=_;rw[fy hm]
inductive VV(F:Fx)(r:List It)(n:Named)(P:br)(v:Vals)(l:List V)(qs:List Nd)(T:Str)(ns:List Nd)(a:Nat):Prop
 | mk(nt:List Nd)(h1:∀m∈nt,fF F.refs m)(h2:JJ (nt.flatMap ah)=qs)(h3:∀e,cG F.C.s a T=some e->Back F.C ⟨nt.map It.nd++r,e.toNat,n⟩ P v l ⟨ns.map It.nd++r,a,n⟩ P v l)(h4:cG F.C.s a T=none->lp F.C P v l ⟨ns.map It.nd++r,a,n⟩ P v l)
theorem mx{q:Nd}{qs:List Nd}:∀(k:Nat)(ns:List Nd)(T:Str)(q:Nd),textOf q=some T->sz ns<=k->(∀m∈ns,fF F.refs m)->JJ (ns.flatMap ah)=q::qs->∀a:Nat,VV F r n P v l qs T ns a
 | k,[],_,_,_,_,_,e,_=>by cases e
 | 0,m::ms,_,_,_,h,_,_,_=>by rw[cq]at h;have:=m.size_pos;exact False.elim (aH (.l (.a .A .B) .Z (.t .Z .A (.z))) rfl h this)
 | k+1,m::ms,T,q,hq,h,hn,e,a=>by
  rw[cq]at h;have GS:∀p∈ms,fF F.refs p:=λp hp=>hn p (.tail _ hp)
  by_cases hc:∃x y,m=.cat x y
  ·obtain⟨x,y,rfl⟩:=hc
   have hs:(Nd.cat x y).size=x.size+y.size+1:=rfl;have hx:=yT (hn _ (.head _));obtain⟨nt,h1,h2,h3,h4⟩:=mx (q:=q) k (x::y::ms) T q hq (by rw[cq,cq];exact gf (.l (.a .A .B) (.a .C .O) (.f .A (.a (.a .D .E) .O) (.g (.a .D (.a .E .B)) .C))) rfl h hs) (λp hp=>by
    rcases List.mem_cons.mp hp with rfl | hp
    ·exact hx.1
    ·rcases List.mem_cons.mp hp with rfl | hp
     ·exact hx.2
     ·exact GS p hp) (by rw[List.flatMap_cons,List.flatMap_cons, <-List.append_assoc];exact e) a
   exact⟨nt,h1,h2,λe he=>(h3 e he).trans (c9 λst=>rfl),λhe=>(h4 he).trans (c9 λst=>rfl)⟩
  ·have hr:ah m=[m]:=vv λx y z=>hc ⟨x,y,z⟩
   have e:dC m (JJ (ms.flatMap ah))=q::qs:=by rw[List.flatMap_cons,hr]at e;exact e
   have pm:=m.size_pos;cases hm:textOf m with
   | none=>rw[fy hm]at e;cases e;rw[hm]at hq;cases hq
   | some t=>
    have WR:=mw hm;subst WR;have ht:t≠"":=λz=>(hn _ (.head _)).tok (by rw[z];rfl)
    have step:∀e,cG F.C.s a t=some e->Back F.C ⟨ms.map It.nd++r,e.toNat,n⟩ P v l ⟨(Nd.leaf (.pl (.chars t))::ms).map It.nd++r,a,n⟩ P v l:=λe he=>c9 λst=>by
     show eQ F.C (ms.map It.nd++r) a n P ⟨v,l,st⟩ (.chars t)=_;unfold eQ;show(match cG F.C.s a t with | none=>_ | some e=>_)=_
     rw[he]
    have fail:cG F.C.s a t=none->lp F.C P v l ⟨(Nd.leaf (.pl (.chars t))::ms).map It.nd++r,a,n⟩ P v l:=λhe=>fu λst=>by
     show eQ F.C (ms.map It.nd++r) a n P ⟨v,l,st⟩ (.chars t)=_;unfold eQ;show(match cG F.C.s a t with | none=>_ | some e=>_)=_
     rw[he]
    cases hj:JJ (ms.flatMap ah) with
    | nil=>
     rw[hj,fw]at e;cases e;cases hq;exact⟨ms,GS,hj,step,fail⟩
    | cons q2 XT=>
     rw[hj]at e;cases h2:textOf q2 with
     | none=>
      rw[ix h2]at e;cases e;cases hq;exact⟨ms,GS,hj,step,fail⟩
     | some u=>
      rw[fO hm h2]at e;cases e;cases hq;have hu:u≠"":=λz=>by
       have hh:=oS GS;rcases pX (λp hp=>(hh p hp).2.1) (show q2∈JJ (ms.flatMap ah) by rw[hj];exact .head _) with y | ⟨t',e',_,p0⟩
       ·exact(hh q2 y).2.1 (by rw[h2,z])
       ·subst e';cases h2;subst z;exact absurd p0 (by decide)
      cases he:cG F.C.s a t with
      | none=>
       have ej:=pC (s:=F.C.s) (a:=a) ht hu;rw[he]at ej;obtain⟨nt,h1,h3,_,_⟩:=mx (q:=q2) k ms u q2 h2 (by exact aX (.l (.a .A .B) (.a .C .O) (.t .Z .A (.g .B .C))) rfl h pm) GS hj a
       exact⟨nt,h1,h3,λe z=>(by rw[ej]at z;cases z),λ_=>fail he⟩
      | some e1=>
       have ej:=pC (s:=F.C.s) (a:=a) ht hu;rw[he]at ej;dsimp only at ej;have Dv:e1=((a+t.length:Nat):Int):=by
        rw[eA ht]at he;split at he
        ·cases he;rfl
        ·cases he
       subst Dv;obtain⟨nt,h1,h3,h4,h5⟩:=mx (q:=q2) k ms u q2 h2 (by exact aX (.l (.a .A .B) (.a .C .O) (.t .Z .A (.g .B .C))) rfl h pm) GS hj (a+t.length)
       have st:=step _ he;rw[Int.toNat_natCast]at st;exact⟨nt,h1,h3,λe z=>by rw[ej]at z;exact(h4 e z).trans st,λz=>by rw[ej]at z;exact(h5 z).trans st⟩
end
end
section
inductive hJ(F:Fx)(w:bf)(t:cD)(P:br)(v:Vals)(l:List V):MA×bE×HS->Prop
 | go{w' H' v' l' st}(t':cD)(P':br)(cr:sA F w' H' t' P')(bk:Back F.C t' P' v' l' t P v l):hJ F w t P v l (.go w',H',⟨v',l',st⟩)
 | dead{H' v' l' st}(P':br)(pr:dT F H' P')(bk:lp F.C P' v' l' t P v l):hJ F w t P v l (.dead,H',⟨v',l',st⟩)
 | over{H' v' l' st}(tv:yi F.C t P v l .dv v' l'):hJ F w t P v l (.over,H',⟨v',l',st⟩)
 | err{H' v' l' st b}(tv:yi F.C t P v l (.err b) v' l'):hJ F w t P v l (.err b,H',⟨v',l',st⟩)
 | met{H' v' l' st}(tv:yi F.C t P v l (.met w.at_ w.named.reverse) v' l'):hJ F w t P v l (.met,H',⟨v',l',st⟩)
structure Step(F:Fx)(w:bf)(H:bE)(t:cD)(P:br):Prop where
 ord:∃o,w.code[w.pc]? =some o/\((o=.done/\w.calls=[])\/∀dm ha,zp ⟨F,dm,ha⟩ w o)/\w.at_<=F.C.s.length
 len:w.code.length<=100000
 Jp:∀v l st,hJ F w t P v l (eP F.C w.order w H ⟨v,l,st⟩)
section
variable{F:Fx}{w:bf}{H:bE}{t t':cD}{P P':br}{U:List Ord}{o:Ord}{r:List It}
theorem hJ.back{v l}{R:MA×bE×HS}(b:Back F.C t' P' v l t P v l)(s:hJ F w t' P' v l R):hJ F w t P v l R:=by
 cases s with
 | go t2 P2 cr bk=>exact .go t2 P2 cr (bk.trans b)
 | dead P2 pr bk=>exact .dead P2 pr (bk.trans b)
 | over tv=>exact .over (b _ _ _ tv)
 | err tv=>exact .err (b _ _ _ tv)
 | met tv=>exact .met (b _ _ _ tv)
theorem Step.back(s:Step F w H t' P')(b:∀v l,Back F.C t' P' v l t P v l):Step F w H t P:=⟨s.ord,s.len,λv l st=>(s.Jp v l st).back (b v l)⟩
theorem fb(hc:w.code=str U)(u:zr F.refs U)(hU:U[w.pc]? =some o)(la:w.at_<=F.C.s.length)(hm:(cC U o=.done/\w.calls=[])\/∀dm ha,zp ⟨F,dm,ha⟩ w (cC U o))(hs:∀v l st,hJ F w t P v l (eP F.C (cC U o) w H ⟨v,l,st⟩)):Step F w H t P:=by
 have e1:w.code[w.pc]? =some (cC U o):=by rw[hc];exact FT hU
 have e2:w.order=cC U o:=by unfold bf.order;rw[e1];rfl
 have:=u.len;exact⟨⟨_,e1,hm,la⟩,by rw[hc];unfold str;rw[List.length_map];exact DD this,λv l st=>by rw[e2];exact hs v l st⟩
theorem zr.at_(u:zr F.refs U){i:Nat}(h:U[i]? =some o):Pn F.refs o:=u.ok o (List.mem_of_getElem? h)
theorem Bm{q1 q2:Nd}{qs:List Nd}{b:Nat}(sg:Seg U b (c8 code (q1::q2::qs) b))(hq:∃o r,code q2 (b+(code q1 (b+1)).length+2)=o::r/\o.eU=false):
  U[b]? =some (.split (b+(code q1 (b+1)).length+2))/\Seg U (b+1) (code q1 (b+1))/\U[b+1+(code q1 (b+1)).length]? =some (.bG (b+(c8 code (q1::q2::qs) b).length))/\Seg U (b+(code q1 (b+1)).length+2) (c8 code (q2::qs) (b+(code q1 (b+1)).length+2))/\
   b+(c8 code (q1::q2::qs) b).length=b+(code q1 (b+1)).length+2+(c8 code (q2::qs) (b+(code q1 (b+1)).length+2)).length/\dF U (b+(code q1 (b+1)).length+2)=b+(code q1 (b+1)).length+2:=by
 rw[gx]at sg ⊢;obtain⟨o,r2,e4,j⟩:=pv (f:=code) (ps:=qs) hq;revert sg e4;generalize code q1 (b+1)=c;generalize c8 code (q2::qs) (b+c.length+2)=A;intro sg e4;have s1:=sg.tail;have s4:=s1.right.tail;have hb:b+1+c.length+1=b+c.length+2:=by exact Nat.le_antisymm (aH (.g (.a (.a (.a .A .O) .B) .O) (.a (.a .A .B) (.k 2))) rfl) (aH (.g (.a (.a .A .B) (.k 2)) (.a (.a (.a .A .O) .B) .O)) rfl)
 rw[hb]at s4;have el:b+(Ord.split (b+c.length+2)::(c++.bG (b+c.length+2+A.length)::A)).length=b+c.length+2+A.length:=by simp;exact Nat.le_antisymm (IQ) (IS)
 refine⟨sg.head,s1.left,by rw[el];exact s1.right.head,s4,el,?_⟩
 rw[e4]at s4;exact pO s4.head j
inductive VW(F:Fx)(w:bf)(r:List It)(P:br)(q1:Nd)(qs:List Nd)(y:Nd)(ys:List Nd):Prop
 | mk(Ho:List Nd)(h1:∀m∈q1::Ho,fF F.refs m)(h2:Ho.flatMap aD=qs)(h3:∀v l,Back F.C ⟨.nd q1::r,w.at_,w.named.reverse⟩ (Ho.map (zt w r)++P) v l ⟨.nd y::r,w.at_,w.named.reverse⟩ (ys.map (zt w r)++P) v l)
theorem qq{q1:Nd}{qs:List Nd}:∀(k:Nat)(y:Nd)(ys:List Nd),y.size<=k->(∀m∈y::ys,fF F.refs m)->(y::ys).flatMap aD=q1::qs->VW F w r P q1 qs y ys
 | 0,y,_,h,_,_=>by have:=y.size_pos;exact False.elim (xj this h)
 | k+1,y,ys,h,hn,e=>by
  have Xi:∀m∈ys,fF F.refs m:=λm hm=>hn m (.tail _ hm)
  by_cases ha:∃x z,y=.alt x z
  ·obtain⟨x,z,rfl⟩:=ha
   have hs:(Nd.alt x z).size=x.size+z.size+1:=rfl;have N:=hn _ (.head _);have et:(Nd.alt x z).text=x.text+z.text:=rfl;have:=N.tx;obtain⟨Ho,h1,h2,h3⟩:=qq k x (z::ys) (by exact bD (.f .A (.a (.a .B .C) .O) (.l .A (.a .D .O) (.g .B .D))) rfl hs h) (λm hm=>by
    rcases List.mem_cons.mp hm with rfl | hm
    ·exact⟨N.tok.1,N.ok.1,by exact EU et this⟩
    ·rcases List.mem_cons.mp hm with rfl | hm
     ·exact⟨N.tok.2,N.ok.2,by exact EV et this⟩
     ·exact Xi m hm) (by rw[List.flatMap_cons,List.flatMap_cons, <-List.append_assoc];exact e)
   exact⟨Ho,h1,h2,λv l=>(h3 v l).trans (c9 λst=>rfl)⟩
  ·have hr:aD y=[y]:=by cases y<;>first | rfl | exact absurd ⟨_,_,rfl⟩ ha
   rw[List.flatMap_cons,hr]at e;have e:y::ys.flatMap aD=q1::qs:=e;cases e;exact⟨ys,hn,rfl,λv l=>Back.refl⟩
theorem qp{y:Nd}{ys:List Nd}{q1 q2:Nd}{qs:List Nd}(h:DF F w (y::ys) r)(pr:dT F H P)(e:(y::ys).flatMap aD=q1::q2::qs):Step F w H ⟨.nd y::r,w.at_,w.named.reverse⟩ (ys.map (zt w r)++P):=by
 obtain⟨U,hc,u,la,lm,hy,sg,c⟩:=h;rw[e]at sg c;have oM:∀q∈q1::q2::qs,fF F.refs q:=λq hq=>by
  rw[<-e]at hq;obtain⟨m,hm,hq⟩:=List.mem_flatMap.mp hq;exact gF (hy m hm) q hq
 obtain⟨t1,t2,t3,t4,t5,t6⟩:=Bm sg (iv _ q2 (Nat.le_refl _) (oM q2 (by exact .tail _ (.head _))) _)
 rw[t5]at t3 c;revert t1 t2 t3 t4 t6 c;generalize hg:w.pc+(code q1 (w.pc+1)).length+2=g;intro c t1 t2 t3 t4 t6;obtain⟨Ho,h1,h2,h3⟩:=qq (F:=F) (w:=w) (r:=r) (P:=P) y.size y ys (Nat.le_refl _) hy e;refine fb hc u t1 la (.inr λ_ _=>trivial) λv l st=>?_
 have es:cC U (.split g)=.split g:=by show Ord.split (dF U g)=_;rw[t6]
 rw[es];refine .go ⟨.nd q1::r,w.at_,w.named.reverse⟩ (Ho.map (zt w r)++P) (.plain ?_ ?_) (h3 v l)
 ·have er:[q1].flatMap ah=ah q1:=by exact Lm
  have Jm:Seg U (w.pc+1) (cZ code (JJ ([q1].flatMap ah)) (w.pc+1)):=by rw[er, <-iw (h1 q1 (.head _)).tok];exact t2
  refine⟨U,hc,u,rfl,rfl,la,lm,.inl (.row (r:=r) [q1] (λm hm=>by rw[List.mem_singleton]at hm;subst hm;exact h1 _ (.head _)) Jm ?_)⟩
  rw[er, <-iw (h1 q1 (.head _)).tok];exact .bG t3 c
 ·cases Ho with
  | nil=>cases h2
  | cons y2 Yg=>
   refine .alts (w:={ w with pc:=g }) y2 Yg ⟨U,hc,u,la,lm,λm hm=>h1 m (.tail _ hm),?_,?_⟩ pr
   ·rw[h2];exact t4
   ·rw[h2];exact c
end
end
section
theorem ql{s t:Str}{b:Bool}:∀{k i:Nat},gV s t b k i<=i+k
 | 0,_=>Nat.le_refl _
 | k+1,i=>by
  rw[ny];split
  ·have:=ql (s:=s) (t:=t) (b:=b) (k:=k) (i:=i+1);exact aX (.l .A (.a (.a .B .O) .C) (.g .A (.a .B (.a .C .O)))) rfl this
  ·exact aH (.g .A (.a .A (.a .B .O))) rfl
set_option tactic.hygienic true in
theorem Fy{s:Str}{a:Nat}{q:Pl}{e:Int}(ha:a<=s.length)(hq:q.fits)(ht:textOf (.leaf (.pl q))≠some ("":Str))(he:q.ends s a=some e):a<=e.toNat/\e.toNat<=s.length:=by
 cases q with
 | chars t=>
  have ht:t≠"":=λz=>ht (by rw[z];rfl)
  have he:cG s a t=some e:=he;rw[eA ht]at he;split at he
  ·rename_i h
   cases he;have h:=congrArg List.length h;rw[List.length_take,List.length_drop]at h;have e1:s.cps.toList.length=s.length:=Array.length_toList;have e2:t.cps.toList.length=t.length:=Array.length_toList;rw[e1,e2]at h;have:=Str.pos ht;rw[Int.toNat_natCast];exact⟨Fc,gf (.f .A .B (.l .A .C (.e (.a .C .D) .E (.g (.a .D .B) .E)))) rfl h (Nat.min_le_right _ _) (Nat.sub_add_cancel (jg ha))⟩
  ·cases he
 | len m=>
  have he:nj s a m=some e:=he;have hq:0<=m:=hq;unfold nj at he;split at he
  ·cases he;exact R9 (by assumption) hq
  ·cases he
 | xA m=>
  have he:j0 s a m=some e:=he;unfold j0 at he;split at he
  ·cases he;exact Sb ha
  ·cases he
 | any t=>
  have he:rD s a t=some e:=he;unfold rD at he;split at he
  ·rename_i h;cases he;exact⟨Nat.le_succ a,iT h.1⟩
  ·cases he
 | span t=>
  have he:j4 s a t=some e:=he;unfold j4 at he;split at he
  ·cases he
   have:runEnd s a t true<=a+(s.length-a):=ql;exact Sd (by assumption) this ha
  ·cases he
section
variable{F:Fx}{w:bf}{H:bE}{t:cD}{P:br}{U:List Ord}{o:Ord}{r:List It}
set_option tactic.hygienic true in
theorem mF{e:Nat}(hc:w.code=str U)(u:zr F.refs U)(la:e<=F.C.s.length)(lm:∀m∈w.marks,m<=w.at_)(le:w.at_<=e)(c:dy F.refs U (w.pc+1) w.marks w.calls r):qP F { w.next with at_:=e } ⟨r,e,w.named.reverse⟩:=
 ⟨U,hc,u,rfl,rfl,la,λm hm=>Nat.le_trans (lm m hm) le,.inl c⟩
theorem yp{r:List It}{w:bf}(pr:dT F H P):∀(es:List Nat),(∀e∈es,qP F { w with at_:=e } ⟨r,e,w.named.reverse⟩)->dT F (es.map (λe=>some { w with at_:=e })++H) (es.map (λe=>some ⟨r,e,w.named.reverse⟩)++P)
 | [],_=>pr
 | e::es,h=>.way (h e (by exact .head _)) (yp pr es λx hx=>h x (by exact .tail _ (by assumption)))
theorem yn{s:Str}:∀{a:Nat}{l:List Nat},sy s a l->∀e∈l,a<=e
 | _,[],_,e,m=>by cases m
 | a,x::l,h,e,m=>by
  have:=iq h.1;rcases List.mem_cons.mp m with rfl | m
  ·exact Cs this.1
  ·have:=yn h.2 e m;exact Se (by assumption) this
theorem tw{q:Pl}{v l st}(hc:w.code=str U)(u:zr F.refs U)(la:w.at_<=F.C.s.length)(lm:∀m∈w.marks,m<=w.at_)(hq:q.fits)(ht:textOf (.leaf (.pl q))≠some ("":Str))(pr:dT F H P)(c:dy F.refs U (w.pc+1) w.marks w.calls r)
  (h1:∀e,q.ends F.C.s w.at_=some e->Back F.C ⟨r,e.toNat,w.named.reverse⟩ P v l t P v l) (h2:q.ends F.C.s w.at_=none->lp F.C P v l t P v l):hJ F w t P v l (ow F.C w H ⟨v,l,st⟩ q):=by
 unfold ow;cases he:q.ends F.C.s w.at_ with
 | none=>exact .dead P pr (h2 he)
 | some e=>
  obtain⟨a1,a2⟩:=Fy la hq ht he;exact .go _ P (.plain (mF hc u a2 lm a1 c) pr) (h1 e he)
theorem ym{q:Pl}{n:Named}{a:Nat}{x:Nd}(hx:∀v l st,mY F.C (.nd x) r a n P ⟨v,l,st⟩=eQ F.C r a n P ⟨v,l,st⟩ q)(v l):(∀e,q.ends F.C.s a=some e->Back F.C ⟨r,e.toNat,n⟩ P v l ⟨.nd x::r,a,n⟩ P v l)/\(q.ends F.C.s a=none->lp F.C P v l ⟨.nd x::r,a,n⟩ P v l):=
 ⟨λe he=>c9 λst=>by rw[hx];unfold eQ;rw[he],λhe=>fu λst=>by rw[hx];unfold eQ;rw[he]⟩
set_option tactic.hygienic true in
theorem vz{k:Str}{x:V}{v l st}{i:It}{w1:bf}(hw:qP F w1.next ⟨r,w.at_,w.named.reverse⟩)(pr:dT F H P)(hx:∀st,mY F.C i r w.at_ w.named.reverse P ⟨v,l,st⟩=fQ F.C r w.at_ w.named.reverse P ⟨v,l,st⟩ k x):
  hJ F w ⟨i::r,w.at_,w.named.reverse⟩ P v l (iU F.C w1 H ⟨v,l,st⟩ k x):=by
 unfold iU;by_cases z:F.C.rf.contains k=true
 ·rw[if_pos z];exact .dead P pr (fu λst=>by rw[hx];unfold fQ;rw[if_pos z])
 ·rw[if_neg z];exact .go _ P (.plain hw pr) (c9 λst=>by rw[hx];unfold fQ;rw[if_neg z];rfl)
end
structure Ds(F:Fx):Prop where
 Vl:fF F.refs F.C.pn
 size:F.C.pn.size<=1000
theorem yY{refs:List Ref}{n:Nd}(N:fF refs n)(hz:n.size<=1000):zr refs (rawOf n):=⟨FD hz,λo ho=>(vp N o ho).ok⟩
theorem vn{refs:List Ref}{n:Nd}(N:fF refs n){mk:List Nat}{cl:List (List Ord×Nat)}{r:List It}(c:dy refs (rawOf n) (code n 0).length mk cl r):dy refs (rawOf n) 0 mk cl (.nd n::r):=by
 have er:[n].flatMap ah=ah n:=by exact Lm
 have sg:Seg (rawOf n) 0 (code n 0++[.done]):=Seg.self _;refine .row (r:=r) [n] (λm hm=>by rw[List.mem_singleton]at hm;subst hm;exact N) ?_ ?_
 ·rw[er, <-iw N.tok];exact sg.left
 ·rw[er, <-iw N.tok,Nat.zero_add];exact c
theorem vo(n:Nd):(rawOf n)[(code n 0).length]? =some .done:=by
 have sg:Seg (rawOf n) 0 (code n 0++[.done]):=Seg.self _;have:=sg.right.head
 rwa [Nat.zero_add]at this
section
variable{F:Fx}{w:bf}{H:bE}{t:cD}{P:br}{U:List Ord}{o:Ord}{r:List It}
set_option tactic.hygienic true in
theorem Al(K:Ds F){l:Lf}(hc:w.code=str U)(u:zr F.refs U)(la:w.at_<=F.C.s.length)(lm:∀m∈w.marks,m<=w.at_)(hU:U[w.pc]? =some (.leaf l))(ht:textOf (.leaf l)≠some ("":Str))(pr:dT F H P)(c:dy F.refs U (w.pc+1) w.marks w.calls r):Step F w H ⟨.nd (.leaf l)::r,w.at_,w.named.reverse⟩ P:=by
 have ok:l.ok F.refs:=u.at_ hU;have nx:qP F w.next ⟨r,w.at_,w.named.reverse⟩:=mF hc u la lm (Nat.le_refl _) c
 refine fb hc u hU la (.inr λ_ _=>ok) λv g st=>?_
 show hJ F w _ P v g (jF F.C l w H ⟨v,g,st⟩);cases l with
 | pl q=>exact tw hc u la lm ok ht pr c (ym (λ_ _ _=>rfl) v g).1 (ym (λ_ _ _=>rfl) v g).2
 | dZ=>
  show hJ F w _ P v g (match bu (HS.N ⟨v,g,st⟩) with | .error b=>(MA.err b,H,⟨v,g,st⟩) | .ok q=>ow F.C w H ⟨v,g,st⟩ q)
  have e0:∀mI,HS.N ⟨v,g,mI⟩=HS.N ⟨v,g,st⟩:=λ_=>rfl
  have ea:∀mI,mY F.C (.nd (.leaf .dZ)) r w.at_ w.named.reverse P ⟨v,g,mI⟩=(match bu (HS.N ⟨v,g,mI⟩) with | .error b=>(.err b,P,⟨v,g,mI⟩) | .ok q=>eQ F.C r w.at_ w.named.reverse P ⟨v,g,mI⟩ q):=λ_=>rfl
  cases h:bu (HS.N ⟨v,g,st⟩) with
  | error b=>exact .err (vE (x:=.err b) (p':=P) (λmI=>by rw[ea,e0,h]) (.inr ⟨b,rfl,rfl⟩))
  | ok q=>
   have hq:q.fits/\textOf (.leaf (.pl q))≠some ("":Str):=by
    unfold bu at h;split at h
    ·cases h
    ·split at h
     ·cases h
     ·cases h;exact⟨show(0:Int)<=_ by exact Sf (by assumption),λz=>by cases z⟩
   exact tw hc u la lm hq.1 hq.2 pr c (λe he=>c9 λmI=>by rw[ea,e0,h];dsimp only;unfold eQ;rw[he]) (λhe=>fu λmI=>by rw[ea,e0,h];dsimp only;unfold eQ;rw[he])
 | cV b=>
  cases b with
  | false=>
   show hJ F w _ P v g (kr w H ⟨v,g,st⟩ (kd F.C.s w.at_));rw[jS la];exact .go _ _ (.plain nx (dT.uo (w:=w.next) la (λe h1 h2=>mF hc u h2 lm h1 c) pr)) uv
  | true=>
   show hJ F w _ P v g (kr w H ⟨v,g,st⟩ (cE F.C.s w.at_));have ea:∀mI,mY F.C (.nd (.leaf (.cV true))) r w.at_ w.named.reverse P ⟨v,g,mI⟩=(match cE F.C.s w.at_ with | []=>(.dead,P,⟨v,g,mI⟩) | e::es=>(.go ⟨r,e,w.named.reverse⟩,es.map (λe=>some ⟨r,e,w.named.reverse⟩)++P,⟨v,g,mI⟩)):=λ_=>rfl
   have bc:=gj F.C.s w.at_;have b1:=yo bc;have b2:=yn bc;cases h:cE F.C.s w.at_ with
   | nil=>exact .dead P pr (fu λmI=>by rw[ea,h])
   | cons e es=>
    rw[h]at b1 b2;refine .go ⟨r,e,w.named.reverse⟩ (es.map (λe=>some ⟨r,e,w.named.reverse⟩)++P) (.plain (mF hc u (b1 e (by exact .head _)) lm (b2 e (by exact .head _)) c) ?_) (c9 λmI=>by rw[ea,h])
    exact yp (w:=w.next) pr es λx hx=>mF hc u (b1 x (by exact .tail _ (by assumption))) lm (b2 x (by exact .tail _ (by assumption))) c
 | ask=>
  refine .go ⟨.nd F.C.pn::r,w.at_,w.named.reverse⟩ P (.plain ⟨rawOf F.C.pn,rfl,yY K.Vl K.size,rfl,rfl,la,lm,.inl (vn K.Vl ?_)⟩ pr) (c9 λ_=>rfl)
  show dy F.refs (rawOf F.C.pn) _ w.marks ((w.code,w.pc+1)::w.calls) r;rw[hc];exact .ret (vo _) u c
 | bM k=>
  cases k with
  | fence=>exact .go _ (none::P) (.plain nx (.fence pr)) (c9 λ_=>rfl)
  | fail=>exact .dead P pr (fu λ_=>rfl)
  | abort=>exact .over (vE (x:=.dv) (p':=P) (λ_=>rfl) (.inl ⟨rfl,rfl⟩))
  | cA=>
   refine .go _ (some ⟨.nd (.leaf (.bM .cA))::r,w.at_,w.named.reverse⟩::P) (.plain nx (.way ⟨U,hc,u,rfl,rfl,la,lm,.inl ?_⟩ pr)) (c9 λ_=>rfl)
   have e:[Nd.leaf (.bM .cA)].flatMap ah=[Nd.leaf (.bM .cA)]:=rfl;have e2:JJ [Nd.leaf (.bM .cA)]=[Nd.leaf (.bM .cA)]:=rfl;refine .row (r:=r) [.leaf (.bM .cA)] (λm hm=>?_) ?_ ?_
   ·rw[List.mem_singleton]at hm;subst hm;exact⟨λz=>by (cases z),trivial,Nat.zero_le _⟩
   ·rw[e,e2,nC,m7]
    intro i o e;cases i with
    | zero=>cases e;exact hU
    | succ i=>cases e
   ·rw[e,e2,nC,m7];exact c
 | c0 k=>exact vz nx pr (λ_=>rfl)
end
end
section
section
variable{F:Fx}{w:bf}{H:bE}{t:cD}{P:br}{U:List Ord}{o:Ord}{r:List It}
theorem tj{refs:List Ref}{n:Nd}{pc:Nat}{mk:List Nat}{cl:List (List Ord×Nat)}(N:fF refs n)(sg:Seg U pc (code n pc))(c:dy refs U (pc+(code n pc).length) mk cl r):dy refs U pc mk cl (.nd n::r):=by
 have er:[n].flatMap ah=ah n:=by exact Lm
 refine .row (r:=r) [n] (λm hm=>by rw[List.mem_singleton]at hm;subst hm;exact N) ?_ ?_
 ·rw[er, <-iw N.tok];exact sg
 ·rw[er, <-iw N.tok];exact c
theorem Am(K:Ds F){q:Nd}{ns:List Nd}(hc:w.code=str U)(u:zr F.refs U)(la:w.at_<=F.C.s.length)(lm:∀m∈w.marks,m<=w.at_)(pr:dT F H P)(hr:ah q=[q])(N:fF F.refs q)(sg:Seg U w.pc (code q w.pc))(c:dy F.refs U (w.pc+(code q w.pc).length) w.marks w.calls r)(self:dy F.refs U w.pc w.marks w.calls (.nd q::r)):
  Step F w H ⟨.nd q::r,w.at_,w.named.reverse⟩ P:=by
 cases q with
 | leaf l=>exact Al K hc u la lm sg.head N.tok pr c
 | cat x y=>
  exfalso;have h1:=fe x;have h2:=fe y;obtain⟨p,ps,e1⟩:=iB x;obtain⟨p2,SY,e2⟩:=iB y;have hr:ah x++ah y=[Nd.cat x y]:=hr;rw[e1,e2]at hr;have:=congrArg List.length hr;simp at this
 | alt x y=>
  obtain⟨p,ps,e1⟩:=eN x;obtain⟨p2,SY,e2⟩:=eN y;have e:([Nd.alt x y]:List Nd).flatMap aD=aD (.alt x y):=by exact Lm
  have e3:aD (.alt x y)=aD x++aD y:=rfl;have e4:∃q1 q2 qs,aD (.alt x y)=q1::q2::qs:=by
   rw[e3,e1,e2];cases ps with
   | nil=>exact⟨_,_,_,rfl⟩
   | cons a b=>exact⟨_,_,_,rfl⟩
  obtain⟨q1,q2,qs,e4⟩:=e4;rw[pH]at sg c;exact qp (ys:=[]) ⟨U,hc,u,la,lm,λm hm=>by rw[List.mem_singleton]at hm;subst hm;exact N,by rw[e];exact sg,by rw[e];exact c⟩ pr (by rw[e];exact e4)
 | bo a=>
  rw[pI]at sg c;have Na:fF F.refs a:=⟨N.tok,N.ok,N.tx⟩;have hm:U[w.pc+2]? =some .mark:=sg.tail.tail.head;have s3:=sg.tail.tail.tail;have hb:w.pc+1+1+1=w.pc+3:=by exact Nat.le_antisymm (aG (.g (.a (.a (.a .A .O) .O) .O) (.a .A (.k 3))) rfl) (aG (.g (.a .A (.k 3)) (.a (.a (.a .A .O) .O) .O)) rfl)
  rw[hb]at s3;have hl:w.pc+(Ord.split (w.pc+2)::.bG (w.pc+3+(code a (w.pc+3)).length+2)::.mark::(code a (w.pc+3)++[.dY,.bG w.pc])).length=w.pc+3+(code a (w.pc+3)).length+2:=by simp;exact Nat.le_antisymm (aH (.g (.a .A (.a (.a (.a (.a .B (.k 2)) .O) .O) .O)) (.a (.a (.a .A (.k 3)) .B) (.k 2))) rfl) (aH (.g (.a (.a (.a .A (.k 3)) .B) (.k 2)) (.a .A (.a (.a (.a (.a .B (.k 2)) .O) .O) .O))) rfl)
  rw[hl]at c;refine fb hc u sg.head la (.inr λ_ _=>trivial) λv g st=>?_
  have es:cC U (.split (w.pc+2))=.split (w.pc+2):=by show Ord.split (dF U (w.pc+2))=_;rw[pO hm rfl]
  rw[es];refine .go ⟨r,w.at_,w.named.reverse⟩ (some ⟨.nd a::.round a w.at_::r,w.at_,w.named.reverse⟩::P) (.plain ⟨U,hc,u,rfl,rfl,la,lm,.inl (.bG sg.tail.head c)⟩ (.way ⟨U,hc,u,rfl,rfl,la,lm,.inr ⟨hm,?_⟩⟩ pr)) (c9 λ_=>rfl)
  exact tj (pc:=w.pc+3) Na s3.left (.dY s3.right.head (.bG s3.right.tail.head self))
 | nm now a k=>
  rw[yq]at sg c;have Na:fF F.refs a:=⟨N.tok,N.ok.1,N.tx⟩;have hl:w.pc+(Ord.mark::(code a (w.pc+1)++[.nm now k])).length=w.pc+1+(code a (w.pc+1)).length+1:=by simp;exact Nat.le_antisymm (aH (.g (.a .A (.a (.a .B .O) .O)) (.a (.a (.a .A .O) .B) .O)) rfl) (aH (.g (.a (.a (.a .A .O) .B) .O) (.a .A (.a (.a .B .O) .O))) rfl)
  rw[hl]at c;refine fb hc u sg.head la (.inr λ_ _=>trivial) λv g st=>?_
  refine .go ⟨.nd a::.fin now k w.at_::r,w.at_,w.named.reverse⟩ P (.plain ⟨U,hc,u,rfl,rfl,la,?_,.inl ?_⟩ pr) (c9 λ_=>rfl)
  ·intro m hm
   rcases List.mem_cons.mp hm with rfl | hm
   ·exact Nat.le_refl _
   ·exact lm m hm
  ·exact tj (pc:=w.pc+1) Na sg.tail.left (.nm sg.tail.right.head c)
theorem C6(K:Ds F){n:Nd}{ns:List Nd}(hc:w.code=str U)(u:zr F.refs U)(la:w.at_<=F.C.s.length)(lm:∀m∈w.marks,m<=w.at_)(pr:dT F H P)(hn:∀m∈n::ns,fF F.refs m)(sg:Seg U w.pc (cZ code (JJ ((n::ns).flatMap ah)) w.pc))(c:dy F.refs U (w.pc+(cZ code (JJ ((n::ns).flatMap ah)) w.pc).length) w.marks w.calls r):
  Step F w H ⟨(n::ns).map It.nd++r,w.at_,w.named.reverse⟩ P:=by
 obtain⟨p,ps,e1⟩:=iB n;have e2:(n::ns).flatMap ah=p::(ps++ns.flatMap ah):=by rw[List.flatMap_cons,e1];rfl
 have hh:=oS hn;have QO:∃q qs,JJ ((n::ns).flatMap ah)=q::qs:=by rw[e2];exact yM
 obtain⟨q,qs,e3⟩:=QO;have hq:=pW (q:=q) hh (by rw[e3];exact .head _)
 rw[e3]at sg c;have Jm:Seg U w.pc (code q w.pc++cZ code qs (w.pc+(code q w.pc).length)):=sg;have el:w.pc+(cZ code (q::qs) w.pc).length=w.pc+(code q w.pc).length+(cZ code qs (w.pc+(code q w.pc).length)).length:=by
  show w.pc+(code q w.pc++cZ code qs (w.pc+(code q w.pc).length)).length=_;rw[List.length_append,Nat.add_assoc]
 rw[el]at c;cases hT:textOf q with
 | some T=>
  have JW:=mw hT;have Wl:T≠"":=λz=>by
   rcases pX (λp hp=>(hh p hp).2.1) (show q∈JJ ((n::ns).flatMap ah) by rw[e3];exact .head _) with y | ⟨t',e',_,p0⟩
   ·exact(hh q y).2.1 (by rw[hT,z])
   ·subst e';cases hT;subst z;exact absurd p0 (by decide)
  have rN:code q w.pc=[.leaf (.pl (.chars T))]:=by rw[JW];rfl
  rw[rN]at Jm c;have Tp:U[w.pc]? =some (.leaf (.pl (.chars T))):=Jm.head;refine fb hc u Tp la (.inr λ_ _=>u.at_ Tp) λv g st=>?_
  obtain⟨nt,h1,h2,h3,h4⟩:=mx (F:=F) (q:=q) (r:=r) (n:=w.named.reverse) (P:=P) (v:=v) (l:=g) (qs:=qs) (sz (n::ns)) (n::ns) T q hT (Nat.le_refl _) hn e3 w.at_;refine tw (r:=nt.map It.nd++r) hc u la lm (u.at_ Tp) (λz=>Wl (by cases z;rfl)) pr (.row nt h1 ?_ ?_) h3 h4
  ·rw[h2];exact Jm.tail
  ·rw[h2];exact c
 | none=>
  obtain⟨nt,h1,h2,h3,h4⟩:=qr (F:=F) (r:=r) (n:=w.named.reverse) (P:=P) (a:=w.at_) (qs:=qs) hT (sz (n::ns)) (n::ns) (Nat.le_refl _) hn e3;refine Step.back (t':=⟨.nd q::(nt.map It.nd++r),w.at_,w.named.reverse⟩) (P':=P) ?_ h4;refine Am (ns:=nt) K hc u la lm pr hq.2.1 (h1 q (.head _)) Jm.left (.row nt (λm hm=>h1 m (.tail _ hm)) ?_ ?_) ?_
  ·rw[h3];exact Jm.right
  ·rw[h3];exact c
  ·refine .row (r:=r) (q::nt) h1 ?_ ?_
   ·rw[h2];exact sg
   ·rw[h2,el];exact c
end
end
section
section
variable{F:Fx}{w:bf}{H:bE}{t:cD}{P:br}{U:List Ord}{o:Ord}{r:List It}
set_option tactic.hygienic true in
theorem Ak(K:Ds F)(pr:dT F H P){pc:Nat}{mk:List Nat}{cl:List (List Ord×Nat)}{ch:List It}(c:dy F.refs U pc mk cl ch):∀w:bf,w.code=str U->zr F.refs U->w.pc=pc->w.marks=mk->w.calls=cl->w.at_<=F.C.s.length->(∀m∈w.marks,m<=w.at_)->Step F w H ⟨ch,w.at_,w.named.reverse⟩ P:=by
 induction c with
 | fin h=>
  intro w hc u e1 e2 e3 la lm;rw[<-e1]at h;exact fb hc u h la (.inl ⟨rfl,e3⟩) λv g st=>by
   show hJ F w _ P v g ((match w.calls with | []=>MA.met | (c,p)::r=>.go { w with code:=c,pc:=p,calls:=r }),H,⟨v,g,st⟩)
   rw[e3];exact .met Ge
 | ret h u2 c _=>
  intro w hc u e1 e2 e3 la lm;rw[<-e1]at h;exact fb hc u h la (.inr λ_ _=>(by show w.calls≠[];rw[e3];intro z;cases z)) λv g st=>by
   show hJ F w _ P v g ((match w.calls with | []=>MA.met | (c,p)::r=>.go { w with code:=c,pc:=p,calls:=r }),H,⟨v,g,st⟩)
   rw[e3];exact .go _ P (.plain ⟨_,rfl,u2,rfl,rfl,la,lm,.inl (by rw[<-e2]at c;exact c)⟩ pr) Back.refl
 | bG h c _=>intro w hc u e1 e2 e3 la lm;rw[<-e1]at h;exact fb hc u h la (.inr λ_ _=>trivial) λv g st=>.go _ P (.plain ⟨_,hc,u,rfl,rfl,la,lm,.inl (by rw[<-e2, <-e3]at c;exact c.final)⟩ pr) Back.refl
 | @nm U pc now k a mk cl r h c _=>
  intro w hc u e1 e2 e3 la lm;rw[<-e1]at h c;have lt:∀m∈w.marks.tail,m<=w.at_:=λm hm=>lm m (List.mem_of_mem_tail hm)
  have et:w.marks.tail=mk:=by rw[e2];rfl
  have eh:w.marks.headD 0=a:=by rw[e2];rfl
  refine fb hc u h la (.inr λ_ _=>⟨u.at_ h,by rw[e2];intro z;cases z⟩) λv g st=>?_
  rw[<-et, <-e3]at c;cases now with
  | true=>
   show hJ F w _ P v g (iU F.C { w with marks:=w.marks.tail } H ⟨v,g,st⟩ k.2 (.str (cutText F.C (w.marks.headD 0) w.at_)))
   rw[eh];exact vz (w1:={ w with marks:=w.marks.tail }) ⟨U,hc,u,rfl,rfl,la,lt,.inl c⟩ pr λ_=>rfl
  | false=>
   show hJ F w _ P v g (.go { w.next with marks:=w.marks.tail,named:=(k,cutText F.C (w.marks.headD 0) w.at_)::w.named },H,⟨v,g,st⟩)
   rw[eh];refine .go ⟨r,w.at_,w.named.reverse++[(k,cutText F.C a w.at_)]⟩ P (.plain ⟨U,hc,u,rfl,?_,la,lt,.inl c⟩ pr) (c9 λ_=>rfl)
   show _=((k,cutText F.C a w.at_)::w.named).reverse;rw[List.reverse_cons]
 | @dY U pc x a mk cl r h c _=>
  intro w hc u e1 e2 e3 la lm;rw[<-e1]at h c;have lt:∀m∈w.marks.tail,m<=w.at_:=λm hm=>lm m (List.mem_of_mem_tail hm)
  have et:w.marks.tail=mk:=by rw[e2];rfl
  have eh:w.marks.headD 0=a:=by rw[e2];rfl
  have al:a<=w.at_:=lm a (by rw[e2];exact .head _)
  refine fb hc u h la (.inr λ_ _=>by show w.marks≠[];rw[e2];intro z;cases z) λv g st=>?_
  rw[<-et, <-e3]at c;show hJ F w _ P v g (if w.marks.headD 0<w.at_ then .go { w.next with marks:=w.marks.tail } else .dead,H,⟨v,g,st⟩)
  rw[eh];have ea:∀mI,mY F.C (.round x a) r w.at_ w.named.reverse P ⟨v,g,mI⟩=(if w.at_=a then .dead else .go ⟨.nd (.bo x)::r,w.at_,w.named.reverse⟩,P,⟨v,g,mI⟩):=λ_=>rfl
  by_cases z:a<w.at_
  ·rw[if_pos z]
   exact .go ⟨.nd (.bo x)::r,w.at_,w.named.reverse⟩ P (.plain ⟨U,hc,u,rfl,rfl,la,lt,.inl c⟩ pr) (c9 λmI=>by rw[ea,if_neg (by exact(λz0=>aH (.t .A .B (.e .B .A (.z))) rfl z z0))])
  ·rw[if_neg z]
   exact .dead P pr (fu λmI=>by rw[ea,if_pos (by exact Nat.le_antisymm (jg (Nat.le_of_not_lt z)) (jg al))])
 | @row U b mk cl r ns hn sg c ih=>
  intro w hc u e1 e2 e3 la lm;cases ns with
  | nil=>exact ih w hc u e1 e2 e3 la lm
  | cons n ns=>
   rw[<-e1, <-e2, <-e3]at c;rw[<-e1]at sg;exact C6 K hc u la lm pr hn sg c
theorem si(K:Ds F)(pr:dT F H P)(h:qP F w t):Step F w H t P:=by
 obtain⟨U,hc,u,ea,en,la,lm,c⟩:=h;obtain⟨ch,a,n⟩:=t;dsimp only at ea en c;subst ea;subst en;rcases c with c | ⟨hm,c⟩
 ·exact Ak K pr c w hc u rfl rfl rfl la lm
 ·refine fb hc u hm la (.inr λ_ _=>trivial) λv g st=>?_
  refine .go ⟨ch,w.at_,w.named.reverse⟩ P (.plain ⟨U,hc,u,rfl,rfl,la,λm hm=>?_,.inl c⟩ pr) Back.refl
  rcases List.mem_cons.mp hm with rfl | hm
  ·exact Nat.le_refl _
  ·exact lm m hm
theorem mr(K:Ds F)(h:sA F w H t P):Step F w H t P:=by
 cases h with
 | plain h pr=>exact si K pr h
 | @alts r P y ys h pr=>
  cases e:(y::ys).flatMap aD with
  | nil=>
   exfalso;obtain⟨p,ps,e1⟩:=eN y;rw[List.flatMap_cons,e1]at e;cases e
  | cons q1 qs=>
   cases qs with
   | cons q2 qs=>exact qp h pr e
   | nil=>
    have e0:ys=[]:=by
     cases ys with
     | nil=>rfl
     | cons y2 ys=>
      exfalso;obtain⟨p,ps,e1⟩:=eN y;obtain⟨p2,SY,e2⟩:=eN y2;rw[List.flatMap_cons,List.flatMap_cons,e1,e2]at e;have:=congrArg List.length e;rw[List.length_append,List.length_append]at this;exact aX (.e (.a (.a .A .O) (.a (.a .B .O) .C)) .O (.z)) rfl this
    subst e0;have e:aD y=[q1]:=by simpa using e
    have ey:y=q1:=by
     cases y with
     | alt a b=>
      exfalso;obtain⟨p,ps,e1⟩:=eN a;obtain⟨p2,SY,e2⟩:=eN b;have e:aD a++aD b=[q1]:=e;rw[e1,e2]at e;have:=congrArg List.length e;simp at this
     | leaf l=>cases e;rfl
     | cat a b=>cases e;rfl
     | bo a=>cases e;rfl
     | nm b a r=>cases e;rfl
    subst ey;obtain⟨U,hc,u,la,lm,hy,sg,c⟩:=h;have e2:([y]:List Nd).flatMap aD=[y]:=by assumption
    rw[e2]at sg c;exact si (t:=⟨.nd y::r,w.at_,w.named.reverse⟩) K pr ⟨U,hc,u,rfl,rfl,la,lm,.inl (tj (hy y (.head _)) sg c)⟩
end
noncomputable def MJ(F:Fx)(w:bf)(H:bE):Prop:=∃t P,sA F w H t P
theorem Jw{M:Mx}(K:Ds M.F):NT M (MJ M.F):=by
 refine⟨λw H ⟨t,P,c⟩=>?_,λw H h w' H' h' ⟨t,P,c⟩ e=>?_,λw H w' H2 ⟨t,P,c⟩ e=>?_⟩
 ·obtain⟨o,h1,h2,h3⟩:=(mr K c).ord
  exact⟨o,h1,h2.elim .inl λz=>.inr (z M.dm M.ha),h3⟩
 ·have s:=(mr K c).Jp h.vals h.log h.steps
  have e:eP M.F.C w.order w H ⟨h.vals,h.log,h.steps⟩=(.go w',H',h'):=e;rw[e]at s;cases s with
  | go t' P' cr bk=>exact⟨t',P',cr⟩
 ·subst e
  cases c with
  | plain h pr=>obtain⟨t',P',c',_⟩:=pr.pop;exact⟨t',P',c'⟩
  | alts y ys h pr=>obtain⟨t',P',c',_⟩:=pr.pop;exact⟨t',P',c'⟩
theorem oU{F:Fx}(K:Ds F):∀(f:Nat)(w:bf)(H:bE)(t:cD)(P:br)(h:HS),sA F w H t P->(fz F.C f w H h).1≠.cut->yi F.C t P h.vals h.log (fz F.C f w H h).1 (fz F.C f w H h).2.vals (fz F.C f w H h).2.log
 | 0,_,_,_,_,_,_,n=>absurd rfl n
 | f+1,w,H,t,P,h,c,n=>by
  have s:=(mr K c).Jp h.vals h.log (h.steps+1);have e:fz F.C (f+1) w H h=rV (fz F.C f) w (eP F.C w.order w H ⟨h.vals,h.log,h.steps+1⟩):=rfl;rw[e]at n ⊢;revert s n;generalize eP F.C w.order w H ⟨h.vals,h.log,h.steps+1⟩=R;intro n s;cases s with
  | @go w' H' v' l' st t' P' cr bk=>exact bk _ _ _ (oU K f w' H' t' P' ⟨v',l',st⟩ cr n)
  | @dead H' v' l' st P' pr bk=>
   refine bk _ _ _ ?_;cases H' with
   | nil=>have:=pr.nil_inv;subst this;exact Dc
   | cons x H2=>
    cases x with
    | none=>obtain⟨P2,rfl,_⟩:=pr.zE;exact xM
    | some w2=>
     obtain⟨t2,P2,c2,hb⟩:=pr.pop;exact hb _ _ _ _ _ (oU K f w2 H2 t2 P2 ⟨v',l',st⟩ c2 n)
  | over tv=>exact tv
  | err tv=>exact tv
  | met tv=>exact tv
theorem nE{F:Fx}{n:Nd}{b:Nat}(N:fF F.refs n)(hz:n.size<=1000)(hb:b<=F.C.s.length):sA F ⟨codeOf n,0,b,[],[],[]⟩ [] ⟨[.nd n],b,[]⟩ []:=
 .plain ⟨rawOf n,rfl,yY N hz,rfl,rfl,hb,λm hm=>(by cases hm),.inl (vn N (.fin (vo n)))⟩ .nil
end
section
inductive Nx(S:Type) where
 | go(s:S) | fin (R:Rs)
structure Sys(S:Type) where
 stop:S->Option Rs
 step:S->HS->Nx S×HS
noncomputable def uI{S:Type}(k:S->HS->Rs×HS)(x:Nx S×HS):Rs×HS:=match x.1 with
 | .go s=>k s x.2
 | .fin R=>(R,x.2)
noncomputable def Sys.run{S:Type}(Y:Sys S):Nat->S->HS->Rs×HS
 | 0,s,h=>(match Y.stop s with
  | some R=>(R,h)
  | none=>(.cut,h.tick))
 | f+1,s,h=>(match Y.stop s with
  | some R=>(R,h)
  | none=>uI (Y.run f) (Y.step s h.tick))
structure Sys.Ok{S:Type}(Y:Sys S):Prop where
 log:∀s h,∃e,(Y.step s h).2.log=h.log++e/\e.length<=1
 st:∀s h,(Y.step s h).2.steps=h.steps
 nc:∀s h R,(Y.step s h).1=.fin R->R≠.cut
 ns:∀s R,Y.stop s=some R->R≠.cut
inductive GE(f:Nat)(h:HS)(R:Rs×HS):Prop
 | mk(e:List V)(el:R.2.log=h.log++e)(l1:e.length+h.steps<=R.2.steps)(l2:R.1=.cut->e.length<=f/\R.2.steps=h.steps+f+1)(l3:R.1≠.cut->R.2.steps<=h.steps+f)
section
variable{S:Type}{Y:Sys S}
theorem eC{s:S}{R:Rs}(e:Y.stop s=some R)(f:Nat)(h:HS):Y.run f s h=(R,h):=by
 cases f<;>(show(match Y.stop s with | some R=>(R,h) | none=>_)=_;rw[e])
theorem iC{s:S}(e:Y.stop s=none)(h:HS):Y.run 0 s h=(.cut,h.tick):=by show(match Y.stop s with | some R=>(R,h) | none=>(Rs.cut,h.tick))=_;rw[e]
theorem eZ{s:S}(e:Y.stop s=none)(f:Nat)(h:HS):Y.run (f+1) s h=uI (Y.run f) (Y.step s h.tick):=by show(match Y.stop s with | some R=>(R,h) | none=>uI (Y.run f) (Y.step s h.tick))=_;rw[e]
theorem yB(O:Y.Ok){s:S}{R:Rs}(e:Y.stop s=some R)(f:Nat)(h:HS):GE f h (Y.run f s h):=by
 rw[eC e];exact⟨[],by exact(List.append_nil _).symm,by simp,λz=>absurd z (O.ns s R e),λ_=>Nat.le_add_right _ _⟩
theorem BH(O:Y.Ok)(f:Nat):∀(s:S)(h:HS),GE f h (Y.run f s h):=by
 induction f with
 | zero=>
  intro s h;cases e:Y.stop s with
  | some R=>exact yB O e _ h
  | none=>rw[iC e];exact⟨[],by exact(List.append_nil _).symm,by show 0+h.steps<=h.steps+1;exact aG (.g (.a .Z .A) (.a .A .O)) rfl,λ_=>⟨Nat.le_refl _,rfl⟩,λz=>absurd rfl z⟩
 | succ f ih=>
  intro s h;cases e:Y.stop s with
  | some R=>exact yB O e _ h
  | none=>
    rw[eZ e];obtain⟨e1,h1,h2⟩:=O.log s h.tick;have h3:=O.st s h.tick;have h4:=O.nc s h.tick;revert h1 h3 h4;generalize Y.step s h.tick=x;obtain⟨x,h'⟩:=x;intro h1 h3 h4;have h1:h'.log=h.log++e1:=h1;have h3:h'.steps=h.steps+1:=h3;cases x with
    | fin R=>exact⟨e1,h1,by show e1.length+h.steps<=h'.steps;exact aX (.f .A (.a .B .O) (.l .C .O (.g (.a .C .B) .A))) rfl (by assumption) h2,λz=>absurd z (h4 R rfl),λ_=>by show h'.steps<=_;exact aX (.e .A (.a .B .O) (.g .A (.a .B (.a .C .O)))) rfl (by assumption)⟩
    | go s'=>
     obtain⟨e2,k1,k2,k3,k4⟩:=ih s' h';refine⟨e1++e2,?_,?_,λz=>?_,λz=>?_⟩
     ·show(Y.run f s' h').2.log=_
      rw[k1,h1,List.append_assoc];rfl
     ·show _<=(Y.run f s' h').2.steps
      rw[List.length_append];exact gf (.l (.a .A .B) .C (.f .B (.a .D .O) (.l .E .O (.g (.a (.a .E .A) .D) .C)))) rfl k2 (by assumption) h2
     ·obtain⟨a,b⟩:=k3 z
      refine⟨by rw[List.length_append];exact aX (.l .A .O (.l .B .C (.g (.a .A .B) (.a .C .O)))) rfl h2 a,?_⟩
      show(Y.run f s' h').2.steps=_;exact Nat.le_antisymm (bD (.e .A (.a (.a .B .C) .O) (.e .B (.a .D .O) (.g .A (.a (.a .D (.a .C .O)) .O)))) rfl b (by assumption)) (bD (.f .A (.a (.a .B .C) .O) (.f .B (.a .D .O) (.g (.a (.a .D (.a .C .O)) .O) .A))) rfl b (by assumption))
     ·have:=k4 z
      show(Y.run f s' h').2.steps<=_;exact bD (.e .A (.a .B .O) (.l .C (.a .A .D) (.g .C (.a .B (.a .D .O))))) rfl (by assumption) this
theorem GK(O:Y.Ok){s:S}(e:Y.stop s=none)(f:Nat)(h:HS):h.steps+1<=(Y.run f s h).2.steps:=by
 cases f with
 | zero=>rw[iC e];exact Nat.le_refl _
 | succ f=>
  rw[eZ e];have h3:=O.st s h.tick;revert h3;generalize Y.step s h.tick=x;obtain⟨x,h'⟩:=x;intro h3;have h3:h'.steps=h.steps+1:=h3;cases x with
  | fin R=>show _<=h'.steps;exact aH (.f .A (.a .B .O) (.g (.a .B .O) .A)) rfl (by assumption)
  | go s'=>
   obtain⟨e2,k1,k2,k3,k4⟩:=BH O f s' h';show _<=(Y.run f s' h').2.steps;exact bD (.l (.a .A .B) .C (.f .B (.a .D .O) (.g (.a .D .O) .C))) rfl k2 (by assumption)
theorem wU(f:Nat):∀(g:Nat)(s:S)(h:HS),f<=g->(Y.run f s h).1≠.cut->Y.run g s h=Y.run f s h:=by
 induction f with
 | zero=>
  intro g s h l n;cases e:Y.stop s with
  | some R=>rw[eC e,eC e]
  | none=>rw[iC e]at n;exact absurd rfl n
 | succ f ih=>
  intro g s h l n;cases e:Y.stop s with
  | some R=>rw[eC e,eC e]
  | none=>
    cases g with
    | zero=>exact False.elim (aG (.l (.a .A .O) .Z (.z)) rfl l)
    | succ g=>
     rw[eZ e]at n ⊢;rw[eZ e];revert n;generalize Y.step s h.tick=x;obtain⟨x,h'⟩:=x;intro n;cases x with
     | fin R=>rfl
     | go s'=>exact ih g s' h' (by exact aH (.l (.a .A .O) (.a .B .O) (.g .A .B)) rfl l) n
inductive GP(f:Nat)(h:HS)(A B:HS):Prop
 | mk(e:List V)(el:B.log=A.log++e)(st:h.steps+f+1<=B.steps)
theorem Lq(O:Y.Ok)(f:Nat):∀(g:Nat)(s:S)(h:HS),f<=g->(Y.run f s h).1=.cut->GP f h (Y.run f s h).2 (Y.run g s h).2:=by
 induction f with
 | zero=>
  intro g s h l n;cases e:Y.stop s with
  | some R=>rw[eC e]at n;exact absurd n (O.ns s R e)
  | none=>
   obtain⟨e2,k1,k2,k3,k4⟩:=BH O g s h;rw[iC e];exact⟨e2,k1,GK O e g h⟩
 | succ f ih=>
  intro g s h l n;cases e:Y.stop s with
  | some R=>rw[eC e]at n;exact absurd n (O.ns s R e)
  | none=>
    cases g with
    | zero=>exact False.elim (aG (.l (.a .A .O) .Z (.z)) rfl l)
    | succ g=>
     rw[eZ e]at n ⊢;rw[eZ e];have h3:=O.st s h.tick;have h4:=O.nc s h.tick;revert n h3 h4;generalize Y.step s h.tick=x;obtain⟨x,h'⟩:=x;intro n h3 h4;have h3:h'.steps=h.steps+1:=h3;cases x with
     | fin R=>exact absurd n (h4 R rfl)
     | go s'=>
      obtain⟨e2,k1,k2⟩:=ih g s' h' (by exact aH (.l (.a .A .O) (.a .B .O) (.g .A .B)) rfl l) n
      exact⟨e2,k1,by show h.steps+(f+1)+1<=(Y.run g s' h').2.steps;exact bD (.l (.a (.a .A .B) .O) .C (.f .A (.a .D .O) (.g (.a (.a .D (.a .B .O)) .O) .C))) rfl k2 (by assumption)⟩
end
structure Bd(p:Nat->HS->Rs×HS):Prop where
 ext:∀f h,GE f h (p f h)
 pos:∀f h,h.steps+1<=(p f h).2.steps
 mono:∀f g h,f<=g->(p f h).1≠.cut->p g h=p f h
 pre:∀f g h,f<=g->(p f h).1=.cut->GP f h (p f h).2 (p g h).2
theorem Sys.Ok.bd{S:Type}{Y:Sys S}(O:Y.Ok){s:S}(e:Y.stop s=none):Bd λf h=>Y.run f s h:=
 ⟨λf h=>BH O f s h,λf h=>GK O e f h,λf g h=>wU f g s h,λf g h=>Lq O f g s h⟩
inductive PE(lim:Nat)(h:HS)(R:Rp×HS):Prop
 | mk(e:List V)(el:R.2.log=h.log++e)(l1:e.length+h.steps<=R.2.steps)(l2:R.1=.cut->e.length+h.steps<=lim/\R.2.steps=lim+1)(l3:R.1≠.cut->R.2.steps<=lim)
section
variable{P:Nat->Nat->HS->Rs×HS}
theorem cT(lim m b:Nat)(h:HS):places P lim (m+1) b h=rY (places P lim m (b+1)) b (P (lim-h.steps) b h):=rfl
theorem nZ(B:∀b,Bd λf h=>P f b h){lim:Nat}:∀(m b:Nat)(h:HS),h.steps<=lim->PE lim h (places P lim m b h)
 | 0,b,h,hl=>⟨[],by exact(List.append_nil _).symm,by simp[places],λz=>(by cases z),λ_=>hl⟩
 | m+1,b,h,hl=>by
  rw[cT];obtain⟨e1,h1,h2,h3,h4⟩:=(B b).ext (lim-h.steps) h;revert h1 h2 h3 h4;generalize P (lim-h.steps) b h=x;obtain⟨x,h'⟩:=x;intro h1 h2 h3 h4;dsimp only at h1 h2 h3 h4;cases x with
  | cut=>obtain⟨a,b⟩:=h3 rfl;exact⟨e1,h1,h2,λ_=>⟨by exact bD (.l .A .B (.e (.a .B .C) .D (.g (.a .A .C) .D))) rfl a (Nat.sub_add_cancel (jg hl)),by show h'.steps=_;exact Nat.le_antisymm (bD (.e .A (.a (.a .B .C) .O) (.e (.a .C .B) .D (.g .A (.a .D .O)))) rfl b (Nat.sub_add_cancel (jg hl))) (bD (.f .A (.a (.a .B .C) .O) (.f (.a .C .B) .D (.g (.a .D .O) .A))) rfl b (Nat.sub_add_cancel (jg hl)))⟩,λz=>absurd rfl z⟩
  | err b=>have:=h4 (λz=>by cases z);exact⟨e1,h1,h2,λz=>(by cases z),λ_=>by show h'.steps<=_;exact xl this (Nat.sub_add_cancel (jg hl))⟩
  | dv=>have:=h4 (λz=>by cases z);exact⟨e1,h1,h2,λz=>(by cases z),λ_=>by show h'.steps<=_;exact xl this (Nat.sub_add_cancel (jg hl))⟩
  | met a n=>have:=h4 (λz=>by cases z);exact⟨e1,h1,h2,λz=>(by cases z),λ_=>by show h'.steps<=_;exact xl this (Nat.sub_add_cancel (jg hl))⟩
  | none=>
   have h5:=h4 (λz=>by cases z)
   obtain⟨e2,k1,k2,k3,k4⟩:=nZ B (lim:=lim) m (b+1) h' (by exact xl h5 (Nat.sub_add_cancel (jg hl)))
   refine⟨e1++e2,?_,?_,λz=>?_,k4⟩
   ·show(places P lim m (b+1) h').2.log=_
    rw[k1,h1,List.append_assoc]
   ·show _<=(places P lim m (b+1) h').2.steps
    rw[List.length_append];exact gf (.l (.a .A .B) .C (.l (.a .D .E) .B (.g (.a (.a .D .A) .E) .C))) rfl k2 h2
   ·obtain⟨a,c⟩:=k3 z
    exact⟨by rw[List.length_append];exact gf (.l (.a .A .B) .C (.l (.a .D .E) .B (.g (.a (.a .D .A) .E) .C))) rfl a h2,c⟩
theorem p_pos(B:∀b,Bd λf h=>P f b h){lim m b:Nat}{h:HS}(hl:h.steps<=lim):h.steps+1<=(places P lim (m+1) b h).2.steps:=by
 rw[cT];have h1:=(B b).pos (lim-h.steps) h;obtain⟨_,_,_,_,h4⟩:=(B b).ext (lim-h.steps) h;revert h1 h4;generalize P (lim-h.steps) b h=x;obtain⟨x,h'⟩:=x;intro h1 h4;dsimp only at h1 h4;cases x with
 | none=>
  have:=h4 (λz=>by cases z)
  obtain⟨e2,k1,k2,k3,k4⟩:=nZ B m (b+1) h' (lim:=lim) (by exact xl this (Nat.sub_add_cancel (jg hl)))
  show _<=(places P lim m (b+1) h').2.steps;exact bD (.l (.a .A .O) .B (.l (.a .C .B) .D (.g (.a .A .O) .D))) rfl h1 k2
 | cut=>exact h1
 | err b=>exact h1
 | dv=>exact h1
 | met a n=>exact h1
theorem p_mono(B:∀b,Bd λf h=>P f b h){l1 l2:Nat}(hl:l1<=l2):∀(m b:Nat)(h:HS),(places P l1 m b h).1≠.cut->places P l2 m b h=places P l1 m b h
 | 0,b,h,n=>rfl
 | m+1,b,h,n=>by
  rw[cT]at n ⊢;rw[cT];have h1:=(B b).mono (l1-h.steps) (l2-h.steps) h (by exact Sm hl)
  by_cases z:(P (l1-h.steps) b h).1=.cut
  ·exfalso
   revert z n;generalize P (l1-h.steps) b h=x;obtain⟨x,h'⟩:=x;intro n z;have z:x=.cut:=z;subst z;exact n rfl
  ·rw[h1 z]
   revert n;generalize P (l1-h.steps) b h=x;obtain⟨x,h'⟩:=x;intro n;cases x with
   | none=>exact p_mono B hl m (b+1) h' n
   | cut=>rfl
   | err b=>rfl
   | dv=>rfl
   | met a n=>rfl
inductive PP(l:Nat)(A B:HS):Prop
 | mk(e:List V)(el:B.log=A.log++e)(st:l+1<=B.steps)
theorem yW(B:∀b,Bd λf h=>P f b h){l1 l2:Nat}(hl:l1<=l2):∀(m b:Nat)(h:HS),h.steps<=l1->(places P l1 m b h).1=.cut->PP l1 (places P l1 m b h).2 (places P l2 m b h).2
 | 0,b,h,_,n=>by cases n
 | m+1,b,h,hs,n=>by
  rw[cT]at n ⊢;rw[cT];by_cases z:(P (l1-h.steps) b h).1=.cut
  ·obtain⟨e1,h1,h2⟩:=(B b).pre (l1-h.steps) (l2-h.steps) h (by exact gf (.l .A .B (.e (.a .C .D) .A (.f (.a .E .D) .B (.g .C .E)))) rfl hl (Nat.sub_add_cancel (jg hs)) (Nat.sub_add_cancel (ET hs hl))) z
   obtain⟨_,_,_,_,h4⟩:=(B b).ext (l2-h.steps) h;revert z h1;generalize P (l1-h.steps) b h=x;obtain⟨x,hx⟩:=x;intro z h1;have z:x=.cut:=z;subst z;revert h1 h2 h4;generalize P (l2-h.steps) b h=y;obtain⟨y,hy⟩:=y;intro h2 h4 h1;have h1:hy.log=hx.log++e1:=h1;have h2:h.steps+(l1-h.steps)+1<=hy.steps:=h2;cases y with
   | none=>
    have:=h4 (λz=>by cases z)
    dsimp only at this;obtain⟨e2,k1,k2,k3,k4⟩:=nZ B m (b+1) hy (lim:=l2) (by exact xl this (Nat.sub_add_cancel (aX (.l .A .B (.l .C .A (.g .C .B))) rfl hl hs)))
    refine⟨e1++e2,?_,?_⟩
    ·show(places P l2 m (b+1) hy).2.log=hx.log++(e1++e2)
     rw[k1,h1,List.append_assoc]
    ·show _<=(places P l2 m (b+1) hy).2.steps
     exact lZ (.l (.a (.a .A .B) .O) .C (.l (.a .D .C) .E (.f (.a .B .A) .F (.g (.a .F .O) .E)))) rfl (by assumption) k2 (Nat.sub_add_cancel (jg hs))
   | cut=>exact⟨e1,h1,by show _<=hy.steps;exact EW (by assumption) (Nat.sub_add_cancel (jg hs))⟩
   | err b=>exact⟨e1,h1,by show _<=hy.steps;exact EW (by assumption) (Nat.sub_add_cancel (jg hs))⟩
   | dv=>exact⟨e1,h1,by show _<=hy.steps;exact EW (by assumption) (Nat.sub_add_cancel (jg hs))⟩
   | met a n=>exact⟨e1,h1,by show _<=hy.steps;exact EW (by assumption) (Nat.sub_add_cancel (jg hs))⟩
  ·have h1:=(B b).mono (l1-h.steps) (l2-h.steps) h (by exact gf (.l .A .B (.e (.a .C .D) .A (.f (.a .E .D) .B (.g .C .E)))) rfl hl (Nat.sub_add_cancel (jg hs)) (Nat.sub_add_cancel (ET hs hl)))
   obtain⟨_,_,_,_,h4⟩:=(B b).ext (l1-h.steps) h;rw[h1 z];have h5:=h4 z;revert n z h5;generalize P (l1-h.steps) b h=x;obtain⟨x,h'⟩:=x;intro n z h5;dsimp only at h5;cases x with
   | none=>exact yW B hl m (b+1) h' (by exact xl h5 (Nat.sub_add_cancel (jg hs))) n
   | cut=>exact absurd rfl z
   | err b=>cases n
   | dv=>cases n
   | met a n=>cases n
end
end
section
section
variable{σ:AH}{Q:V->AH->Prop}
theorem tT{l:Named}(hl:l.length<=100000)(q:∀a af,σ a=none->af a=some (.list (d8 l.reverse))->Kept σ af []->Q (.lst a) af):aU 1 (.ref 537) [nY l] σ Q:=by
 refine aC (sF) rfl λL=>?_
 kcf_m
 (refine au (aA ?_ rfl rfl))
 refine aW ?_;kd_p;intro fa jc;kd_p;refine eE (λk ρ af=>∃ds rs:Named,l=ds++rs/\k=rs.length/\af fa=some (.list (d8 ds))/\Kept σ af []/\at_ ρ "found"=some (.lst fa)/\at_ ρ "named"=some (nY rs)) l.length ⟨[],l,rfl,rfl,AH.aa _ _ _,Kept.new jc,by wtm_at "a",by wtm_at "a"⟩ ?_
 rintro k ρ aI ⟨ds,rs,e1,e2,sf,K,l1,l2⟩;have BN:(d8 ds).length<=1000000:=by have:=congrArg List.length e1;simp[d8]at this ⊢;exact aX (.f .A (.a .B .C) (.l .A (.k 100000) (.g .B (.k 1000000)))) rfl this hl
 cases rs with
 | nil=>
  have l2:at_ ρ "named"=some .none:=l2;kd_p;refine bQ ?_;kd_p;refine aB ?_;kd_p;refine⟨_,bw PySem.F.slot_list_reverse PySem.F.type_list_reverse sf,az,?_⟩;kd_p;refine sR sf BN ?_;kd_p;refine q fa _ jc ?_ (K.xt jc);rw[AH.aa,e1,List.append_nil];simp[d8]
 | cons p rs=>
  have l2:at_ ρ "named"=some (.tup [nY rs,.tup [fh p.1,.str p.2]]):=l2;kd_p;refine bQ ?_;kd_p;wtm_at "h";kd_p
  (refine ag ?_)
  kd_p;refine aB ?_;kd_p;refine⟨_,bw PySem.F.slot_list_append PySem.F.type_list_append sf,az,?_⟩;kd_p;refine aZ sf BN ?_;kd_p;refine⟨rs.length,by rw[e2];exact Nat.le_refl _,ds++[p],rs,by rw[e1];exact(List.append_assoc _ [_] _).symm,rfl,?_,K.xt jc,by wtm_at "a",by wtm_at "a"⟩
  rw[AH.aa];exact J3
noncomputable def mP(F:Fx)(code:List Ord):Nat->Nat->HS->Rs×HS:=λf b h=>fz F.C f ⟨code,0,b,[],[],[]⟩ [] h
inductive PJ(F:Fx)(ba:AH)(oa:Addr)(code:List Ord)(R:Rp×HS)(b m:Nat)(ρ:Loc)(σ:AH):Prop
 | mk(h:HS)(e:places (mP F code) F.lim m b h=R)(H:gL F σ h)(G:uj F h 0)(hle:h.steps<=F.lim)(K:Kept ba σ F.D)(hb:b+m<=F.C.s.length+1)(l1:at_ ρ "orders"=some (.lst oa))(l2:at_ ρ "subject"=some (.str F.C.s))(l3:at_ ρ "host"=some (.inst 582 F.d)):PJ F ba oa code R b m ρ σ
variable{F:Fx}{J:bf->bE->Prop}{h:HS}{oa:Addr}{code:List Ord}
end
namespace dU
@[reducible] noncomputable def P(σ:AH)(F:Fx)(J:bf->bE->Prop)(h:HS)(oa:Addr)(code:List Ord)(gb:Bool):Prop:=∀(T:∀dm ha,NT ⟨F,dm,ha⟩ J)(GN:∀w H,J w H->w.code.length<=100000)(hj:∀b,b<=F.C.s.length->J ⟨code,0,b,[],[],[]⟩ [])(H:gL F σ h)(O:mT F)(pn:DL F.C.pn)(hl:F.lim<=900)(G:uj F h 0)(hle:h.steps<=F.lim)(ho:σ oa=some (.list (code.map Ord.v)))(Dy:oa≠F.al),cx 12 (PX F σ (places (mP F code) F.lim ((if gb then 0 else F.C.s.length)+1) 0 h)) (.ref 544) [.lst oa,.str F.C.s,.bool gb,.inst 582 F.d] σ (PQ F σ (places (mP F code) F.lim ((if gb then 0 else F.C.s.length)+1) 0 h))
noncomputable def Q_:=UU λσ=>UU λF=>UU λJ=>UU λh=>UU λoa=>UU (P σ F J h oa)
noncomputable def x_:=xx Q_ ((λ_=>none),⟨(0:Nat),(0:Nat),(0:Nat),(0:Nat),(0:Nat),[],0,⟨"",[],.leaf .dZ⟩⟩,(λ_ _=>True),⟨[],[],0⟩,(0:Nat),[],true)
def σ:=x_.1
def F:=x_.2.1
def J:=x_.2.2.1
def h:=x_.2.2.2.1
def oa:=x_.2.2.2.2.1
def code:=x_.2.2.2.2.2.1
def gb:=x_.2.2.2.2.2.2
theorem go:P σ F J h oa code gb:=by
 intro T GN hj H O pn hl G hle ho Dy;have cm:=bZ;have cw:=d4;have Iv:(if gb then 0 else F.C.s.length)<=F.C.s.length:=by split<;>first | exact z6 | exact aG (.g .A .A) rfl
 generalize hm:(if gb then 0 else F.C.s.length)=m at Iv
 have Iu:m<=4:=by have:=O.hs;exact aH (.l .A (.k 4) (.l .B .A (.g .B (.k 4)))) rfl this Iv
 generalize hR:places (mP F code) F.lim (m+1) 0 h=R;refine dX (o7) rfl λL=>?_
 kcf_m;refine au (fW ?_);refine jy ?_;refine cO (Tr.mono (Q:=λv ρ' af=>v=.int ((m:Int)+1)/\ρ'=([("host",.inst 582 F.d),("is_anchored",.bool gb),("subject",.str F.C.s),("orders",.lst oa)]:Loc)/\σ=af) ?_ ?_)
 ·refine GG ?_
  refine aY ?_;kd_p;subst hm;cases gb with
  | true=>kd_p;exact⟨rfl,rfl,rfl⟩
  | false=>
   kd_p;refine bh ?_;kd_p;refine cg (by have:=O.hs;exact aG (.l .A (.k 4) (.g .A (.k 1000000))) rfl this) ?_
   kd_p;exact⟨rfl,rfl,rfl⟩
 rintro v ρ' af ⟨rfl,rfl,rfl⟩;refine jx ?_;refine⟨_,_,pV (by exact(by decide)) (by exact(by decide)) (by exact iN) (by exact(qW (aG (.l .A (.k 4) (.g (.a .A .O) (.k 1000000))) rfl Iu))),?_⟩
 refine uH (PJ F σ oa code R) ?_ ?_ m ⟨h,hR,H,G,hle,Kept.refl _ _,by exact IT Iv,by wtm_at "a",by wtm_at "a",by wtm_at "a"⟩
 ·rintro b m ρ aI ⟨h1,e,H1,G1,pS,K1,hb,l1,l2,l3⟩
  have nD:oa∉F.D:=by
   show oa∉[F.d,F.av,F.al];rw[CD];exact⟨vd ho H.host.h,vd ho H.host.v,Dy⟩
  have OA:=K1 _ _ ho nD;kd_p
  (refine ag ?_)
  refine aB ?_;refine iP cm.2.2.1 ?_;kd_p;refine aU.call ((zB λdm ha Dx zK nd=>?_).less (Nat.le_of_ble_eq_true rfl))
  have K2:Kept aI ((aI.put ha (.list [])).put dm (.dict (ck F.C.s F.d ha))) []:=(Kept.new zK).xt Dx;have Ir:((aI.put ha (.list [])).put dm (.dict (ck F.C.s F.d ha))) dm=some (.dict (ck F.C.s F.d ha)):=AH.aa _ _ _;have En:((aI.put ha (.list [])).put dm (.dict (ck F.C.s F.d ha))) ha=some (.list []):=by rw[AH.ae _ _ nd.symm];exact AH.aa _ _ _
  revert K2 Ir En;generalize ((aI.put ha (.list [])).put dm (.dict (ck F.C.s F.d ha)))=bU;intro K2 Ir En;have H2:gL F bU h1:=H1.kept K2;have zN:=K2 _ _ OA nn;have Om:zo ⟨F,dm,ha⟩ bU:=⟨⟨_,H2.host.h⟩,⟨_,H2.host.v⟩,⟨_,H2.host.r⟩,⟨_,H2.host.l⟩,⟨_,H2.pat⟩,⟨_,Ir⟩,⟨_,En⟩,λr hr=>⟨_,H2.rf r hr⟩,⟨ne_ns zK H1.host.r,ne_ns zK H1.host.l⟩,⟨ne_ns Dx H1.host.h,ne_ns Dx H1.host.v⟩⟩
  have Jb:J ⟨code,0,b,[],[],[]⟩ []:=hj b (by exact aX (.l (.a .A (.a .B .O)) (.a .C .O) (.g .A .C)) rfl hb)
  have RG:Hy F F.lim (mP F code (F.lim-h1.steps) b h1):=te (M:=⟨F,dm,ha⟩) O (T dm ha) _ _ _ _ Jb G1 (Nat.zero_le _) (λv m=>by cases m) (by exact Nat.le_antisymm (EO (Nat.sub_add_cancel (jg pS))) (EP (Nat.sub_add_cancel (jg pS))))
  have C:=Nw (M:=⟨F,dm,ha⟩) Om (T dm ha) O pn hl H2 Ir En ⟨zN,(ne_sn OA zK),Dy⟩ (begin:=b) (f:=F.lim-h1.steps) Jb GN G1 (show F.lim-h1.steps+h1.steps=F.lim by exact Nat.le_antisymm (EO (Nat.sub_add_cancel (jg pS))) (EP (Nat.sub_add_cancel (jg pS))))
  have e:rY (places (mP F code) F.lim m (b+1)) b (mP F code (F.lim-h1.steps) b h1)=R:=e;have Cm:fz F.C (F.lim-h1.steps) ⟨code,0,b,[],[],[]⟩ [] h1=mP F code (F.lim-h1.steps) b h1:=rfl;rw[Cm]at C;revert e C RG;generalize mP F code (F.lim-h1.steps) b h1=X;obtain⟨T1,h2⟩:=X;intro RG C e;have KD:∀{fE:AH},Kept bU fE (Mx.D ⟨F,dm,ha⟩)->Kept aI fE F.D:=λK3 x o ex nx=>K3 x o (K2 x o ex nn) (by
   have nx:x∉[F.d,F.av,F.al]:=nx;show x∉[F.d,F.av,F.al,ha];rw[CD]at nx;rw[xn];exact⟨nx.1,nx.2.1,nx.2.2,ne_sn ex zK⟩)
  refine⟨_,a9 cm.1 (ui) (nN).1 Ir rfl,(nN).2,?_⟩;kd_p;refine cx.call ((cx.mono C ?_).less (Nat.le_of_ble_eq_true rfl)) ?_
  ·rintro v fE ⟨e1,H3,K3⟩
   have zm:=KD K3;cases T1 with
   | cut=>exact e1.elim
   | err b=>exact e1.elim
   | none=>
    have e1:v=.tup [.int 1,.none]:=e1;subst e1;kd_p;refine iV rfl ?_;kd_p;refine iV rfl ?_;kd_p;exact⟨h2,e,H3,RG.gd,RG.le.resolve_left (by intro z;cases z),K1.trans zm,by exact IU hb,by wtm_at "a",by wtm_at "a",by wtm_at "a"⟩
   | dv=>
    have e1:v=.tup [.int 2,.none]:=e1;subst e1;cases e;kd_p;refine iV rfl ?_;kd_p;refine iV rfl ?_;kd_p;exact⟨rfl,H3,K1.trans zm⟩
   | met a nm=>
    obtain⟨dw,o,pc,mk,cl,rfl,hw,Ek⟩:=e1;have WU:nm.length<=h2.steps:=RG.nm a nm rfl;have bV:h2.steps<=F.lim:=RG.le.resolve_left (by intro z;cases z)
    cases e;kd_p;refine iV rfl ?_;kd_p;refine ax cw.1 (cL) hw (v:=.int a) rfl (bW _) ?_;kd_p;refine aF ?_;kd_p;refine ax cw.1 (fK) hw (v:=nY nm.reverse) rfl (qt _) ?_;kd_p;refine aU.call ((tT (l:=nm.reverse) (by rw[List.length_reverse];exact aX (.l .A (.k 900) (.l .B .A (.l .C .B (.g .C (.k 100000))))) rfl hl bV WU) λx ki hx sx K4=>?_).less (Nat.le_of_ble_eq_true rfl))
    rw[List.reverse_reverse]at sx;kd_p;have KA:Kept aI ki F.D:=zm.trans K4.to;have x1:aI x=none:=by
     refine zm.gone hx ?_;exact H3.off hx
    exact⟨⟨x,rfl,sx,K1.gone x1 (H1.off x1)⟩,H3.kept K4,K1.trans KA⟩
  ·rintro num fE ⟨e1,H3,K3⟩
   have zm:=KD K3;cases T1 with
   | cut=>cases e;exact⟨e1,H3,K1.trans zm⟩
   | err b=>cases e;exact⟨e1,H3,K1.trans zm⟩
   | _=>cases e1
 ·rintro b ρ aI ⟨h1,e,H1,G1,pS,K1,hb,l1,l2,l3⟩
  cases e;kd_p;exact⟨rfl,H1,K1⟩
end dU
theorem qB{σ:AH}{F:Fx}{J:bf->bE->Prop}{h:HS}{oa:Addr}{code:List Ord}{gb:Bool}:dU.P σ F J h oa code gb:=xa (Q:=dU.Q_) dU.go (σ,F,J,h,oa,code,gb)
section
variable{σ:AH}{Q:V->AH->Prop}
variable{F:Fx}{J:bf->bE->Prop}{h:HS}{oa:Addr}{code:List Ord}
end
end
section
inductive g9:V->Prop
 | str(k t:Str):g9 (.tup [.str k,.str t])
 | int(k:Str)(i:Int):g9 (.tup [.str k,.int i])
inductive Ad(h:HS)(h':HS):Prop
 | mk(e:List V)(el:h'.log=h.log++e)(l:e.length<=1)(st:h'.steps=h.steps)(pl:∀x∈e,g9 x)
theorem Ad.same{h:HS}:Ad h h:=⟨[],by exact(List.append_nil _).symm,Nat.zero_le _,rfl,λx m=>by cases m⟩
theorem Ad.set{h:HS}{k:Str}{v:V}(hv:g9 (.tup [.str k,v])):Ad h (h.set k v):=⟨_,rfl,Nat.le_refl _,rfl,λx m=>by rw[List.mem_singleton]at m;subst m;exact hv⟩
section
variable{C:Cf}{r:List It}{a:Nat}{n:Named}{p:br}{h:HS}{w:bf}{H:bE}
theorem Gz{q:Pl}:Ad h (eQ C r a n p h q).2.2:=by unfold eQ;split<;>exact .same
theorem Bi{k:Str}{v:V}(hv:g9 (.tup [.str k,v])):Ad h (fQ C r a n p h k v).2.2:=by
 unfold fQ;split
 ·exact .same
 ·exact .set hv
theorem HC(i:It):Ad h (mY C i r a n p h).2.2:=by
 cases i with
 | nd m=>
  cases m with
  | leaf l=>
   cases l with
   | pl q=>exact Gz
   | dZ=>
    show Ad h (match bu h.N with | .error b=>(AR.err b,p,h) | .ok q=>eQ C r a n p h q).2.2
    split
    ·exact .same
    ·exact Gz
   | cV b=>
    cases b with
    | false=>exact .same
    | true=>
     show Ad h (match cE C.s a with | []=>(AR.dead,p,h) | e::es=>(AR.go (cD.mk r e n),es.map (λe=>some (cD.mk r e n))++p,h)).2.2
     split<;>exact .same
   | ask=>exact .same
   | bM k=>cases k<;>exact .same
   | c0 k=>exact Bi (.int _ _)
  | cat x y=>exact .same
  | alt x y=>exact .same
  | bo x=>exact .same
  | nm b x k=>exact .same
 | round x b=>exact .same
 | fin b k m=>
  cases b with
  | true=>exact Bi (.str _ _)
  | false=>exact .same
theorem Bh{q:Pl}:Ad h (ow C w H h q).2.2:=by unfold ow;split<;>exact .same
theorem yk{k:Str}{v:V}(hv:g9 (.tup [.str k,v])):Ad h (iU C w H h k v).2.2:=by
 unfold iU;split
 ·exact .same
 ·exact .set hv
theorem DN(o:Ord):Ad h (eP C o w H h).2.2:=by
 cases o with
 | leaf l=>
  cases l with
  | pl q=>exact Bh
  | dZ=>
   show Ad h (match bu h.N with | .error b=>(MA.err b,H,h) | .ok q=>ow C w H h q).2.2
   split
   ·exact .same
   ·exact Bh
  | cV b=>
   show Ad h (kr w H h (gz b C.s w.at_)).2.2;unfold kr;split<;>exact .same
  | ask=>exact .same
  | bM k=>cases k<;>exact .same
  | c0 k=>exact yk (.int _ _)
 | split g=>exact .same
 | bG g=>exact .same
 | mark=>exact .same
 | nm b k=>
  cases b with
  | true=>exact yk (.str _ _)
  | false=>exact .same
 | dY=>exact .same
 | done=>exact .same
end
noncomputable def Nk:br->Nx (cD×br)
 | []=>.fin .none
 | none::_=>.fin .dv
 | some w::p=>.go (w,p)
noncomputable def Nl(x:AR×br×HS):Nx (cD×br)×HS:=match x.1 with
 | .go w=>(.go (w,x.2.1),x.2.2)
 | .dead=>(Nk x.2.1,x.2.2)
 | .dv=>(.fin .dv,x.2.2)
 | .err b=>(.fin (.err b),x.2.2)
noncomputable def xJ(C:Cf):Sys (cD×br) where
 stop s:=match s.1.chain with
  | []=>some (.met s.1.at_ s.1.named)
  | _::_=>none
 step s h:=match s.1.chain with
  | []=>(.fin .none,h)
  | i::r=>Nl (mY C i r s.1.at_ s.1.named s.2 h)
theorem jL(C:Cf):∀(f:Nat)(w:cD)(p:br)(h:HS),fc C f w p h=(xJ C).run f (w,p) h
 | f,⟨[],a,n⟩,p,h=>by rw[mv,eC (R:=.met a n) rfl]
 | 0,⟨i::r,a,n⟩,p,h=>by rw[nG,iC rfl]
 | f+1,⟨i::r,a,n⟩,p,h=>by
  rw[fC,eZ rfl];show sj _ (mY C i r a n p h.tick)=uI _ (Nl (mY C i r a n p h.tick));generalize mY C i r a n p h.tick=x;obtain⟨x,p2,h2⟩:=x;cases x with
  | go w=>exact jL C f w p2 h2
  | dead=>
   cases p2 with
   | nil=>rfl
   | cons y p3=>
    cases y with
    | none=>rfl
    | some w=>exact jL C f w p3 h2
  | dv=>rfl
  | err b=>rfl
noncomputable def Mu:bE->Nx (bf×bE)
 | []=>.fin .none
 | none::_=>.fin .dv
 | some w::p=>.go (w,p)
noncomputable def Mv(w:bf)(x:MA×bE×HS):Nx (bf×bE)×HS:=match x.1 with
 | .go w=>(.go (w,x.2.1),x.2.2)
 | .dead=>(Mu x.2.1,x.2.2)
 | .over=>(.fin .dv,x.2.2)
 | .err b=>(.fin (.err b),x.2.2)
 | .met=>(.fin (.met w.at_ w.named.reverse),x.2.2)
noncomputable def Cz(C:Cf):Sys (bf×bE) where
 stop _:=none
 step s h:=Mv s.1 (eP C s.1.order s.1 s.2 h)
theorem me(C:Cf):∀(f:Nat)(w:bf)(p:bE)(h:HS),fz C f w p h=(Cz C).run f (w,p) h
 | 0,w,p,h=>rfl
 | f+1,w,p,h=>by
  rw[eZ rfl];show rV (fz C f) w (eP C w.order w p h.tick)=uI _ (Mv w (eP C w.order w p h.tick));generalize eP C w.order w p h.tick=x;obtain⟨x,p2,h2⟩:=x;cases x with
  | go w=>exact me C f w p2 h2
  | dead=>
   cases p2 with
   | nil=>rfl
   | cons y p3=>
    cases y with
    | none=>rfl
    | some w=>exact me C f w p3 h2
  | over=>rfl
  | err b=>rfl
  | met=>rfl
theorem FY:∀{p:br}{R:Rs},Nk p=.fin R->R≠.cut
 | [],R,e=>by cases e;intro z;cases z
 | none::_,R,e=>by cases e;intro z;cases z
 | some _::_,R,e=>by cases e
theorem Fd:∀{p:bE}{R:Rs},Mu p=.fin R->R≠.cut
 | [],R,e=>by cases e;intro z;cases z
 | none::_,R,e=>by cases e;intro z;cases z
 | some _::_,R,e=>by cases e
theorem Nm(x:AR×br×HS):(Nl x).2=x.2.2:=by obtain⟨x,p,h⟩:=x;cases x<;>rfl
theorem Jt(x:AR×br×HS){R:Rs}:(Nl x).1=.fin R->R≠.cut:=by
 obtain⟨x,p,h⟩:=x;cases x with
 | go w=>intro e;cases e
 | dead=>exact FY
 | dv=>intro e;cases e;intro z;cases z
 | err b=>intro e;cases e;intro z;cases z
theorem Mw(w:bf)(x:MA×bE×HS):(Mv w x).2=x.2.2:=by obtain⟨x,p,h⟩:=x;cases x<;>rfl
theorem IX(w:bf)(x:MA×bE×HS){R:Rs}:(Mv w x).1=.fin R->R≠.cut:=by
 obtain⟨x,p,h⟩:=x;cases x with
 | go w=>intro e;cases e
 | dead=>exact Fd
 | over=>intro e;cases e;intro z;cases z
 | err b=>intro e;cases e;intro z;cases z
 | met=>intro e;cases e;intro z;cases z
theorem Ad.log{h h':HS}(a:Ad h h'):∃e,h'.log=h.log++e/\e.length<=1:=by obtain⟨e,x,y,_,_⟩:=a;exact⟨e,x,y⟩
theorem Ad.steps{h h':HS}(a:Ad h h'):h'.steps=h.steps:=by obtain⟨_,_,_,x,_⟩:=a;exact x
theorem tD(C:Cf)(s:cD×br)(h:HS):Ad h ((xJ C).step s h).2:=by
 obtain⟨⟨ch,a,n⟩,p⟩:=s;cases ch with
 | nil=>exact .same
 | cons i r=>show Ad h (Nl _).2;rw[Nm];exact HC i
theorem tg(C:Cf)(s:bf×bE)(h:HS):Ad h ((Cz C).step s h).2:=by
 show Ad h (Mv _ _).2;rw[Mw];exact DN _
theorem Ga(C:Cf):(xJ C).Ok:=
 ⟨λs h=>(tD C s h).log,λs h=>(tD C s h).steps,λs h R e=>by
  obtain⟨⟨ch,a,n⟩,p⟩:=s;cases ch with
  | nil=>cases e;intro z;cases z
  | cons i r=>exact Jt _ e,λs R e=>by
  obtain⟨⟨ch,a,n⟩,p⟩:=s;cases ch with
  | nil=>cases e;intro z;cases z
  | cons i r=>cases e⟩
theorem Fe(C:Cf):(Cz C).Ok:=
 ⟨λs h=>(tg C s h).log,λs h=>(tg C s h).steps,λs h R e=>IX _ _ e,λs R e=>by cases e⟩
theorem Ad.plain{h h':HS}(a:Ad h h')(hl:∀x∈h.log,g9 x):∀x∈h'.log,g9 x:=by
 obtain⟨e,el,_,_,pl⟩:=a;rw[el];intro x m;exact(List.mem_append.mp m).elim (hl x) (pl x)
theorem yA{S:Type}{Y:Sys S}(hy:∀s h,Ad h (Y.step s h).2)(f:Nat):∀(s:S)(h:HS),(∀x∈h.log,g9 x)->∀x∈(Y.run f s h).2.log,g9 x:=by
 induction f with
 | zero=>
  intro s h hl;cases e:Y.stop s with
  | some R=>rw[eC e];exact hl
  | none=>rw[iC e];exact hl
 | succ f ih=>
  intro s h hl;cases e:Y.stop s with
  | some R=>rw[eC e];exact hl
  | none=>
    rw[eZ e];have h1:=(hy s h.tick).plain hl;revert h1;generalize Y.step s h.tick=x;obtain⟨x,h'⟩:=x;intro h1;cases x with
    | fin R=>exact h1
    | go s'=>exact ih s' h' h1
theorem FA(F:Fx)(n:Nd)(f b:Nat)(h:HS)(hl:∀x∈h.log,g9 x):∀x∈(tP F n f b h).2.log,g9 x:=by
 have e:tP F n f b h=(xJ F.C).run f (⟨[.nd n],b,[]⟩,[]) h:=jL ..;rw[e];exact yA (tD F.C) f _ h hl
theorem Fz(F:Fx)(code:List Ord)(f b:Nat)(h:HS)(hl:∀x∈h.log,g9 x):∀x∈(mP F code f b h).2.log,g9 x:=by
 have e:mP F code f b h=(Cz F.C).run f (⟨code,0,b,[],[],[]⟩,[]) h:=me ..;rw[e];exact yA (tg F.C) f _ h hl
theorem mi{P:Nat->Nat->HS->Rs×HS}(hP:∀f b h,(∀x∈h.log,g9 x)->∀x∈(P f b h).2.log,g9 x){lim:Nat}:∀(m b:Nat)(h:HS),(∀x∈h.log,g9 x)->∀x∈(places P lim m b h).2.log,g9 x
 | 0,b,h,hl=>hl
 | m+1,b,h,hl=>by
  rw[cT];have z:=hP (lim-h.steps) b h hl;revert z;generalize P (lim-h.steps) b h=x;obtain⟨x,h2⟩:=x;intro z;cases x with
  | none=>exact mi hP m (b+1) h2 z
  | cut=>exact z
  | err b=>exact z
  | dv=>exact z
  | met a n=>exact z
set_option tactic.hygienic true in
theorem PH(F:Fx)(n:Nd)(b:Nat):Bd λf h=>tP F n f b h:=by
 have e:(λf h=>tP F n f b h)=λf h=>(xJ F.C).run f (⟨[.nd n],b,[]⟩,[]) h:=by funext f h;exact jL ..
 rw[e];exact(Ga F.C).bd rfl
set_option tactic.hygienic true in
theorem PG(F:Fx)(code:List Ord)(b:Nat):Bd λf h=>mP F code f b h:=by
 have e:(λf h=>mP F code f b h)=λf h=>(Cz F.C).run f (⟨code,0,b,[],[],[]⟩,[]) h:=by funext f h;exact me ..
 rw[e];exact(Fe F.C).bd rfl
inductive O5(h0:HS)(l:Nat)(W A:Rp×HS):Prop
 | mk(ec:A.1=.cut)(st:A.2.steps=l+1)(e:List V)(el:W.2.log=A.2.log++e)(ll:A.2.log.length<=l)
section
variable{P:Nat->Nat->HS->Rs×HS}{h0:HS}{m l g:Nat}
theorem yO(B:∀b,Bd λf h=>P f b h)(h1:h0.steps=0)(h:(places P 36 (m+1) 0 h0).1=.cut):(places P 36 (m+1) 0 h0).2.steps=37:=by
 obtain⟨e,el,l1,l2,l3⟩:=nZ B (lim:=36) (m+1) 0 h0 (by exact EX h1)
 exact(l2 h).2
theorem td(B:∀b,Bd λf h=>P f b h)(h1:h0.steps=0)(h:(places P 36 (m+1) 0 h0).1≠.cut):0<(places P 36 (m+1) 0 h0).2.steps/\(places P 36 (m+1) 0 h0).2.steps<=36:=by
 obtain⟨e,el,l1,l2,l3⟩:=nZ B (lim:=36) (m+1) 0 h0 (by exact EX h1)
 have:=p_pos B (lim:=36) (m:=m) (b:=0) (h:=h0) (by exact EX h1)
 exact⟨by exact aH (.l (.a .A .O) .B (.b .Z .B)) rfl this,l3 h⟩
theorem u5(B:∀b,Bd λf h=>P f b h)(h1:h0.steps=0)(h2:h0.log=[])(hl:l<(places P 36 (m+1) 0 h0).2.steps):O5 h0 l (places P 36 (m+1) 0 h0) (places P l (m+1) 0 h0):=by
 have Mj:l<=36:=by
  obtain⟨e,el,l1,l2,l3⟩:=nZ B (lim:=36) (m+1) 0 h0 (by exact EX h1)
  by_cases z:(places P 36 (m+1) 0 h0).1=.cut
  ·have:=l2 z;exact aH (.e .A (.a (.k 36) .O) (.t .B .A (.g .B (.k 36)))) rfl this.2 hl
  ·have:=l3 z;exact aH (.t .A .B (.l .B (.k 36) (.g .A (.k 36)))) rfl hl this
 obtain⟨e,el,l1,l2,l3⟩:=nZ B (lim:=l) (m+1) 0 h0 (by exact EY h1)
 by_cases z:(places P l (m+1) 0 h0).1=.cut
 ·obtain⟨e2,k1,k2⟩:=yW B Mj (m+1) 0 h0 (by exact EY h1) z
  obtain⟨a,b⟩:=l2 z;exact⟨z,b,e2,k1,by rw[el,h2];simp;exact Cu a⟩
 ·have:=l3 z
  rw[p_mono B Mj (m+1) 0 h0 z]at hl;exact False.elim (aH (.t .A .B (.l .B .A (.z))) rfl hl this)
theorem Ck(B:∀b,Bd λf h=>P f b h)(h1:h0.steps=0)(hl:l<=g)(h:(places P l (m+1) 0 h0).1=.cut):(places P l (m+1) 0 h0).2.log.length<=(places P g (m+1) 0 h0).2.log.length:=by
 obtain⟨e2,k1,k2⟩:=yW B hl (m+1) 0 h0 (by exact EY h1) h
 rw[k1,List.length_append];exact Fc
theorem Co(B:∀b,Bd λf h=>P f b h)(h1:h0.steps=0)(h:(places P 36 (m+1) 0 h0).1≠.cut)(hl:(places P 36 (m+1) 0 h0).2.steps<=g):places P g (m+1) 0 h0=places P 36 (m+1) 0 h0:=by
 obtain⟨_,Mj⟩:=td B h1 h;have e:places P (places P 36 (m+1) 0 h0).2.steps (m+1) 0 h0=places P 36 (m+1) 0 h0:=by
  by_cases z:(places P (places P 36 (m+1) 0 h0).2.steps (m+1) 0 h0).1=.cut
  ·obtain⟨e2,k1,k2⟩:=yW B Mj (m+1) 0 h0 (by exact EY h1) z
   exact False.elim (aG (.l (.a .A .O) .A (.z)) rfl k2)
  ·exact(p_mono B Mj (m+1) 0 h0 z).symm
 rw[<-e];rw[<-e]at h;exact p_mono B hl (m+1) 0 h0 h
end
inductive Alike(x y:Rp×HS):Prop
 | mk(e:x.1=y.1)(el:x.2.log=y.2.log)
theorem Gf{C:Cf}{w:cD}{p:br}{h:HS}{f:Nat}{R:Rs}{v:Vals}{l:List V}(T:yi C w p h.vals h.log R v l)(n:(fc C f w p h).1≠.cut):(fc C f w p h).1=R/\(fc C f w p h).2.vals=v/\(fc C f w p h).2.log=l:=by
 obtain⟨g,hg⟩:=T.ev;obtain⟨st,e⟩:=hg h.steps;have e:fc C g w p h=(R,⟨v,l,st⟩):=e;rw[jL]at e n ⊢;have e2:(xJ C).run f (w,p) h=(xJ C).run g (w,p) h:=by
  rcases Nat.le_total f g with z | z
  ·exact(wU f g (w,p) h z n).symm
  ·exact wU g f (w,p) h z (by rw[e];exact T.nc)
 rw[e2,e];exact⟨rfl,rfl,rfl⟩
theorem qi{F:Fx}(K:Ds F){n:Nd}(N:fF F.refs n)(hz:n.size<=1000){l1 l2:Nat}:∀(m b:Nat)(h g:HS),b+m<=F.C.s.length+1->h.vals=g.vals->h.log=g.log->(places (mP F (codeOf n)) l1 m b h).1≠.cut->(places (tP F n) l2 m b g).1≠.cut->Alike (places (mP F (codeOf n)) l1 m b h) (places (tP F n) l2 m b g)
 | 0,b,h,g,_,_,el,_,_=>⟨rfl,el⟩
 | m+1,b,h,g,hb,ev,el,n1,n2=>by
  rw[cT]at n1 n2 ⊢;rw[cT];have cr:sA F ⟨codeOf n,0,b,[],[],[]⟩ [] ⟨[.nd n],b,[]⟩ []:=nE N hz (by exact aX (.l (.a .A (.a .B .O)) (.a .C .O) (.g .A .C)) rfl hb)
  have T:=λz=>oU K (l1-h.steps) _ _ _ _ h cr z
  have T2:∀{R v l},yi F.C ⟨[.nd n],b,[]⟩ [] g.vals g.log R v l->(tP F n (l2-g.steps) b g).1≠.cut->(tP F n (l2-g.steps) b g).1=R/\(tP F n (l2-g.steps) b g).2.vals=v/\(tP F n (l2-g.steps) b g).2.log=l:=λT z=>Gf T z
  have c1:∀{k:HS->Rp×HS}{b:Nat}{x:Rs×HS},(rY k b x).1≠.cut->x.1≠.cut:=λ{k b x} z y=>by
   obtain⟨x,hx⟩:=x;have y:x=.cut:=y;subst y;exact z rfl
  have T:=T (c1 n1);rw[ev,el]at T;obtain⟨a1,a2,a3⟩:=T2 T (c1 n2);have T:=a1;revert n1 n2 a1 a2 a3;show(rY _ b (mP F (codeOf n) (l1-h.steps) b h)).1≠.cut->_->_=(mP F (codeOf n) (l1-h.steps) b h).1->_=(mP F (codeOf n) (l1-h.steps) b h).2.vals->_=(mP F (codeOf n) (l1-h.steps) b h).2.log->_;generalize mP F (codeOf n) (l1-h.steps) b h=x;generalize tP F n (l2-g.steps) b g=y;obtain⟨x,hx⟩:=x;obtain⟨y,hy⟩:=y;intro n1 n2 a1 a2 a3;have a1:y=x:=a1;subst a1;cases y with
  | none=>exact qi K N hz m (b+1) hx hy (by exact IU hb) a2.symm a3.symm n1 n2
  | cut=>exact absurd rfl n1
  | err e=>exact⟨rfl,a3.symm⟩
  | dv=>exact⟨rfl,a3.symm⟩
  | met a n=>exact⟨rfl,a3.symm⟩
end
section
structure eR(σ:AH)(fa ca:Addr)(t:Nat):Prop where
 ex:∃turn,∃cells:List Int,σ fa=some (.list [.lst ca,.int (turn:Nat)])/\σ ca=some (.list (cells.map V.int))/\fa≠ca/\cells.length<=1000/\turn<=t
theorem eR.kept{σ af:AH}{fa ca:Addr}{t:Nat}(F:eR σ fa ca t)(K:Kept σ af []):eR af fa ca t:=by
 obtain⟨turn,cells,h1,h2,h3,h4,h5⟩:=F.ex;exact⟨turn,cells,K _ _ h1 (by exact nn),K _ _ h2 (by exact nn),h3,h4,h5⟩
theorem eR.less{σ:AH}{fa ca:Addr}{t t':Nat}(F:eR σ fa ca t)(h:t<=t'):eR σ fa ca t':=by
 obtain⟨turn,cells,h1,h2,h3,h4,h5⟩:=F.ex;exact⟨turn,cells,h1,h2,h3,h4,by exact ET h5 h⟩
section
variable{σ:AH}{Q:V->AH->Prop}
theorem Aa{a:Int}{m:Nat}(hm:0<m):∃r:Nat,r<m/\a.fmod (m:Int)=(r:Int):=by
 have h1:=Int.fmod_nonneg_of_pos a (b:=(m:Int)) (by exact(DA (aG (.t .Z .A (.b .Z .A)) rfl hm)))
 have h2:=Int.fmod_lt_of_pos a (b:=(m:Int)) (by exact(DA (aG (.t .Z .A (.b .Z .A)) rfl hm)))
 exact⟨(a.fmod (m:Int)).toNat,by exact MI h1 h2,by exact MK h1⟩
set_option tactic.hygienic true in
theorem dP{fa ca:Addr}{t m:Nat}(F:eR σ fa ca t)(ht:t<=1000)(hm:0<m)(q:∀(r:Nat) af,r<m->eR af fa ca (t+1)->Kept σ af [fa]->Q (.int r) af):aU 1 (.ref 649) [.lst fa,.int m] σ Q:=by
 obtain⟨turn,cells,h1,h2,h3,h4,h5⟩:=F.ex;have fin:∀{a:Int},Q (.int (a.fmod m)) (σ.put fa (.list [.lst ca,.int ((turn:Int)+1)])):=λ{a}=>by
  obtain⟨r,hr,e⟩:=Aa (a:=a) hm;rw[e];refine q r _ hr ⟨turn+1,cells,AH.aa _ _ _,?_,h3,h4,by exact aH (.l .A .B (.g (.a .A .O) (.a .B .O))) rfl h5⟩ (Kept.put (by exact .head _))
  rw[AH.ae _ _ h3.symm];exact h2
 have UK:((m:Nat):Int)≠0:=by exact(λz0=>aG (.t .Z .A (.e .A .Z (.z))) rfl hm (iE z0))
 refine aC (sE) rfl λL=>?_
 kcf_m
 (refine au (ag ?_))
 kd_p;refine wJ h1 ?_;kd_p
 (refine ag ?_)
 kd_p;refine jT ?_;kd_p;refine mq h1 (by decide) (by simp) (by exact Nat.le_add_left _ _) ?_
 have e0:[V.lst ca,V.int (turn:Int)].set ((1:Int).toNat) (V.int ((turn:Int)+1))=[.lst ca,.int ((turn:Int)+1)]:=rfl;rw[e0];have Oc:(σ.put fa (.list [.lst ca,.int ((turn:Int)+1)])) ca=some (.list (cells.map V.int)):=by rw[AH.ae _ _ h3.symm];exact h2
 kd_p;refine bh ?_;kd_p;refine aN Oc (by refine qE ?_;exact DC h4) ?_
 kd_p;wtm_at "j"<;>rename_i gT
 ·have QC:turn<cells.length:=by simp at gT;exact gT
  kd_p;refine bh ?_;refine cO ?_;refine jy ?_;kd_p;refine cz (j:=turn) (v:=.int cells[turn]) Oc rfl (by rw[List.getElem?_map,List.getElem?_eq_getElem QC];rfl) (by exact aH (.l .A (.k 1000) (.l .B .A (.b .B (.k 4611686018427387904)))) rfl ht h5) ?_
  kd_p;refine Bu ?_;refine Bt ?_;kd_p;exact CN UK fin
 ·kd_p
  refine CO ?_ ?_;rotate_left
  ·exact IntMulOk.of_left (by decide)
  kd_p;exact CN UK fin
def wD(σ:AH)(l:List Ref):Prop:=∀r∈l,σ r.1=some (.dict (fV r.2))
theorem wD.kept{σ af:AH}{l:List Ref}{fa ca:Addr}{t:Nat}(R:wD σ l)(F:eR σ fa ca t)(K:Kept σ af [fa]):wD af l:=λr hr=>K _ _ (R r hr) (by
 obtain⟨turn,cells,h1,_⟩:=F.ex;simp only[List.mem_cons,List.not_mem_nil,or_false];intro z;have:=R r hr;rw[z,h1]at this;cases this)
theorem xX{rd:Addr}{a b k:V}(hd:σ rd=some (.dict []))(q:Q .none (σ.put rd (.dict [("kind",a),("owner",b),("key",k)]))):aU 1 (.ref 205) [.inst 208 rd,a,b,k] σ Q:=by
 have co:=(ie).1;refine aC (o5) rfl λL=>?_
 kcf_m
 (refine au (ag ?_))
 kd_p;refine aV ?_;kd_p;refine aP co (pd) hd (by exact Nat.zero_le _) ?_
 kd_p
 (refine ag ?_)
 kd_p;refine aV ?_;kd_p;refine aP co (oo) (AH.aa _ _ _) (Nat.le_of_ble_eq_true rfl) ?_;rw[AH.bS];kd_p
 (refine ag ?_)
 kd_p;refine aV ?_;kd_p;refine aP co (ez) (AH.aa _ _ _) (Nat.le_of_ble_eq_true rfl) ?_;rw[AH.bS];kd_p;exact q
theorem yt{key:Str}(q:∀rd,σ rd=none->Q (.inst 208 rd) (σ.put rd (.dict (fV key)))):aU 2 (.ref 208) [.str "var",.none,.str key] σ Q:=by
 have co:=ie;refine jW co.2.1 (pb) (pg).1 λd hd=>xX (AH.aa _ _ _) ⟨rfl,?_⟩
 rw[AH.bS];exact q d hd
theorem xW{rd:Addr}{a:V}(hd:σ rd=some (.dict []))(q:Q .none (σ.put rd (.dict [("node",a)]))):aU 1 (.ref 163) [.inst 166 rd,a] σ Q:=by
 have co:=(jO).1;refine aC (o6) rfl λL=>?_
 kcf_m;kd_p
 (refine ag ?_)
 kd_p;refine aV ?_;kd_p;refine aP co (jo) hd (by exact Nat.zero_le _) ?_
 kd_p;exact q
theorem DS{a:V}(q:∀rd,σ rd=none->Q (.inst 166 rd) (σ.put rd (.dict [("node",a)]))):aU 2 (.ref 166) [a] σ Q:=by
 have co:=jO;refine jW co.2.1 (pe) (ph).1 λd hd=>xW (AH.aa _ _ _) ⟨rfl,?_⟩
 rw[AH.bS];exact q d hd
end
end
section
structure Dr(refs:List Ref)(m:Nat)(n:Nd):Prop where
 tok:n.tok
 ok:n.ok refs
 tx:n.text<=2*m
 sz:n.size+1<=2*m
section
variable{refs:List Ref}{m k:Nat}{x y:Nd}
theorem Dr.up(h:Dr refs m x)(l:m<=k):Dr refs k x:=⟨h.tok,h.ok,by have:=h.tx;exact aX (.l .A (.m 2 .B) (.l2 2 .B .C (.g .A (.m 2 .C)))) rfl this l,by have:=h.sz;exact aX (.l (.a .A .O) (.m 2 .B) (.l2 2 .B .C (.g (.a .A .O) (.m 2 .C)))) rfl this l⟩
theorem Dr.bo(h:Dr refs m x):Dr refs (m+m) (.bo x):=⟨h.tok,h.ok,by have:=h.tx;show x.text<=_;exact aH (.l .A (.m 2 .B) (.g .A (.m 2 (.a .B .B)))) rfl this,by have:=h.sz;show x.size+1+1<=_;exact aH (.l2 2 (.a .A .O) (.m 2 .B) (.g (.a (.a .A .O) .O) (.m 2 (.a .B .B)))) rfl this⟩
theorem Dr.nm{b:Bool}{r:Ref}(hr:r∈refs)(h:Dr refs m x):Dr refs (m+m) (.nm b x r):=⟨h.tok,⟨h.ok,hr⟩,by have:=h.tx;show x.text<=_;exact aH (.l .A (.m 2 .B) (.g .A (.m 2 (.a .B .B)))) rfl this,by have:=h.sz;show x.size+1+1<=_;exact aH (.l2 2 (.a .A .O) (.m 2 .B) (.g (.a (.a .A .O) .O) (.m 2 (.a .B .B)))) rfl this⟩
theorem Dr.cat(h:Dr refs m x)(g:Dr refs m y):Dr refs (m+m) (.cat x y):=⟨⟨h.tok,g.tok⟩,⟨h.ok,g.ok⟩,by have:=h.tx;have:=g.tx;show x.text+y.text<=_;exact aX (.l .A (.m 2 .B) (.l .C (.m 2 .B) (.g (.a .C .A) (.m 2 (.a .B .B))))) rfl this (by assumption),by have:=h.sz;have:=g.sz;show x.size+y.size+1+1<=_;exact aX (.l (.a .A .O) (.m 2 .B) (.l (.a .C .O) (.m 2 .B) (.g (.a (.a (.a .C .A) .O) .O) (.m 2 (.a .B .B))))) rfl this (by assumption)⟩
theorem Dr.alt(h:Dr refs m x)(g:Dr refs m y):Dr refs (m+m) (.alt x y):=⟨⟨h.tok,g.tok⟩,⟨h.ok,g.ok⟩,by have:=h.tx;have:=g.tx;show x.text+y.text<=_;exact aX (.l .A (.m 2 .B) (.l .C (.m 2 .B) (.g (.a .C .A) (.m 2 (.a .B .B))))) rfl this (by assumption),by have:=h.sz;have:=g.sz;show x.size+y.size+1+1<=_;exact aX (.l (.a .A .O) (.m 2 .B) (.l (.a .C .O) (.m 2 .B) (.g (.a (.a (.a .C .A) .O) .O) (.m 2 (.a .B .B))))) rfl this (by assumption)⟩
end
noncomputable def ni(r1 r2:Ref):List Nd:=[.leaf (.pl (.chars "a")),.leaf (.pl (.len 1)),.leaf (.cV true),.leaf (.bM .fence),.leaf (.cV false),.leaf .dZ,.leaf (.bM .fail),.leaf .ask,.leaf (.bM .cA),.leaf (.pl (.any "ab")),.leaf (.pl (.chars "ab")),.leaf (.c0 r1),.leaf (.pl (.chars "b")),.leaf (.bM .abort),.leaf (.pl (.span "ab")),.leaf (.c0 r2)]
theorem EG{refs:List Ref}{r1 r2:Ref}(h1:r1∈refs)(h2:r2∈refs):∀n∈ni r1 r2,Dr refs 1 n:=by
 have z:∀{l:Lf},textOf (.leaf l)=none->l.ok refs->Dr refs 1 (.leaf l):=λ{l} e o=>⟨λz=>(by have z:textOf (.leaf l)=some ("":Str):=z;rw[e]at z;cases z),o,(by show Gh (textOf (.leaf l))<=_;rw[e];exact Nat.zero_le _),Nat.le_refl _⟩
 have t:∀{t:Str},t≠""->t.length<=2->Dr refs 1 (.leaf (.pl (.chars t))):=λ{t} e o=>⟨λz=>e (by cases z;rfl),(show t.length<=1000 by exact aG (.l .A (.k 2) (.g .A (.k 1000))) rfl o),o,Nat.le_refl _⟩
 intro n hn;unfold ni at hn;simp only[List.mem_cons,List.not_mem_nil,or_false]at hn;rcases hn with rfl | rfl | rfl | rfl | rfl | rfl | rfl | rfl | rfl | rfl | rfl | rfl | rfl | rfl | rfl | rfl
 ·exact t (by decide) (by decide)
 ·exact z rfl (show(0:Int)<=1 by decide)
 ·exact z rfl trivial
 ·exact z rfl trivial
 ·exact z rfl trivial
 ·exact z rfl trivial
 ·exact z rfl trivial
 ·exact z rfl trivial
 ·exact z rfl trivial
 ·exact z rfl trivial
 ·exact t (by decide) (by decide)
 ·exact z rfl h1
 ·exact t (by decide) (by decide)
 ·exact z rfl trivial
 ·exact z rfl trivial
 ·exact z rfl h2
theorem EF(r1 r2:Ref){j:Nat}(h:j<16):∃n,n∈ni r1 r2/\((ni r1 r2).map Nd.v)[j]? =some n.v:=by
 have h:j<(ni r1 r2).length:=h;exact⟨(ni r1 r2)[j],List.getElem_mem h,by rw[List.getElem?_map,List.getElem?_eq_getElem h];rfl⟩
inductive GJ(ba:AH)(fa ca ra:Addr)(d t:Nat)(ρ:Loc)(σ:AH):Prop
 | mk(r:Nat)(hr:r<8)(h0:r=0\/0<d)(l1:at_ ρ "form"=some (.int r))(l2:at_ ρ "refs"=some (.lst ra))(l3:at_ ρ "deep"=some (.int d))(l4:at_ ρ "well"=some (.lst fa))(F:eR σ fa ca (t+1))(K:Kept ba σ [fa])
theorem CE{j:Nat}(h:j<2):∃b k,([.str "later",.str "now"]:List V)[j]? =some (.str k)/\∀n r,(Nd.nm b n r).v=.tup [.str k,n.v,fh r]:=by
 have:j=0\/j=1:=by exact Fq h
 rcases this with rfl | rfl
 ·exact⟨false,"later",rfl,λ_ _=>rfl⟩
 ·exact⟨true,"now",rfl,λ_ _=>rfl⟩
theorem Dg(r1 r2:Ref){j:Nat}(h:j<2):∃r,(r=r1\/r=r2)/\([fh r1,fh r2]:List V)[j]? =some (fh r):=by
 have:j=0\/j=1:=by exact Fq h
 rcases this with rfl | rfl
 ·exact⟨r1,.inl rfl,rfl⟩
 ·exact⟨r2,.inr rfl,rfl⟩
theorem IW{σ:AH}{fa ca ra:Addr}{t:Nat}{r1 r2:Ref}(F:eR σ fa ca t)(h:σ ra=some (.list [fh r1,fh r2])):ra∉[fa]:=by
 obtain⟨turn,cells,h1,_⟩:=F.ex;rw[gg];intro z;rw[z,h1]at h;cases h
theorem eR.new{σ:AH}{fa ca:Addr}{t:Nat}(F:eR σ fa ca t){a:Addr}{o:AO}(ha:σ a=none):eR (σ.put a o) fa ca t:=F.kept (Kept.new ha)
theorem eR.ne{σ:AH}{fa ca:Addr}{t:Nat}(F:eR σ fa ca t){a:Addr}(ha:σ a=none):a≠fa:=by
 obtain⟨turn,cells,h1,_⟩:=F.ex;intro z;rw[z,h1]at ha;cases ha
noncomputable abbrev lX:List V:=[.tup [.str "chars",.str "a"],.tup [.str "len",.int 1],.tup [.str "bal"],.tup [.str "fence"],.tup [.str "arb"],.tup [.str "len",.tup [.str "delay",.tup [.str "name",.str "N"]]],.tup [.str "fail"],.tup [.str "delay",.tup [.str "name",.str "P"]]]
noncomputable abbrev lY(r1:Ref):List V:=[.tup [.str "succeed"],.tup [.str "any",.str "ab"],.tup [.str "chars",.str "ab"],.tup [.str "cursor",fh r1],.tup [.str "chars",.str "b"],.tup [.str "abort"]]
noncomputable abbrev rU(r2:Ref):List V:=[.tup [.str "span",.str "ab"],.tup [.str "cursor",fh r2]]
section
variable{fa ca ra:Addr}{r1 r2:Ref}{refs:List Ref}
noncomputable def jl(fa ca ra:Addr)(r1 r2:Ref)(refs:List Ref)(d:Nat):Prop:=∀{σ:AH}{Q:V->AH->Prop}{t:Nat},eR σ fa ca t->σ ra=some (.list [fh r1,fh r2])->t+3*2^d<=900->
  (∀(n:Nd) af,Dr refs (2^d) n->eR af fa ca (t+(3*2^d-1))->Kept σ af [fa]->Q n.v af)->aU (d+2) (.ref 656) [.lst fa,.int d,.lst ra] σ Q
set_option tactic.hygienic true in
theorem qy(h1:r1∈refs)(h2:r2∈refs){d:Nat}(ih:∀e,d=e+1->jl fa ca ra r1 r2 refs e):jl fa ca ra r1 r2 refs d:=by
 intro σ Q t F pU ht q;have hp:1<=2^d:=Nat.one_le_two_pow;have OD:t<=897:=by exact aH (.l (.a .A (.m 3 .B)) (.k 900) (.l2 3 .O .B (.g .A (.k 897)))) rfl ht hp
 have BW:∀{af},Kept σ af [fa]->af ra=some (.list [fh r1,fh r2]):=λK=>K _ _ pU (IW F pU)
 refine aC (ud) rfl λL=>?_
 kcf_m;refine au (Tr.mono (Q:=λf bJ aI=>f=.next/\GJ σ fa ca ra d t bJ aI) ?_ ?_)
 ·(refine aA ?_ rfl rfl)
  kd_p;wtm_at "j"<;>rename_i hd
  ·kd_p
   refine aF ?_;kd_p;refine aU.call ((dP (m:=8) F (by exact aG (.l .A (.k 897) (.g .A (.k 1000))) rfl OD) (by decide) λr af hr F1 K1=>?_).less (Nat.le_add_left 1 d))
   kd_p;exact⟨rfl,r,hr,.inr (by simpa using hd),by wtm_at "a",by wtm_at "a",by wtm_at "a",by wtm_at "a",F1,K1⟩
  ·kd_p
   exact⟨rfl,0,by decide,.inl rfl,by wtm_at "a",by wtm_at "a",by wtm_at "a",by wtm_at "a",F.less (Nat.le_succ _),Kept.refl _ _⟩
 rintro f bJ aI ⟨rfl,r,hr,h0,l1,l2,l3,l4,F1,K1⟩;show b8 _ _ _ _ _ _;kd_p;wtm_at "j"<;>rename_i c1
 ·kd_p
  (refine ag ?_)
  kd_p
  (refine ag ?_)
  refine aW ?_;kd_p;intro la zM;have Ka:Kept aI (AH.put aI la (.list lX)) []:=Kept.new zM;have ea:=AH.aa aI la (.list lX);revert Ka ea;generalize AH.put aI la (.list lX)=OU;intro Ka ea;kd_p
  (refine ag ?_)
  kd_p;refine aW ?_;kd_p;refine cz (j:=0) (Ka _ _ (BW K1) (by exact nn)) rfl rfl (by decide) ?_
  kd_p;intro lb UH;have Kb:Kept OU (AH.put OU lb (.list (lY r1))) []:=Kept.new UH;have eb:=AH.aa OU lb (.list (lY r1));have ea:=Kb _ _ ea (by exact nn)
  revert Kb eb ea;generalize AH.put OU lb (.list (lY r1))=OV;intro Kb eb ea;refine kT ea eb (Nat.le_of_ble_eq_true rfl) (Nat.le_of_ble_eq_true rfl) λlc UI=>?_
  have Kc:Kept OV (AH.put OV lc (.list (lX++lY r1))) []:=Kept.new UI;have ec:=AH.aa OV lc (.list (lX++lY r1));revert Kc ec;generalize AH.put OV lc (.list (lX++lY r1))=OW;intro Kc ec;have K3:=(Ka.trans Kb).trans Kc;clear ea eb zM UH UI;kd_p;refine aW ?_;kd_p;refine cz (j:=1) (K3 _ _ (BW K1) (by exact nn)) rfl rfl (by decide) ?_
  kd_p;intro ld WL;have Kd:Kept OW (AH.put OW ld (.list (rU r2))) []:=Kept.new WL;have ed:=AH.aa OW ld (.list (rU r2));have ec:=Kd _ _ ec (by exact nn)
  revert Kd ed ec;generalize AH.put OW ld (.list (rU r2))=OX;intro Kd ed ec;refine kT ec ed (Nat.le_of_ble_eq_true rfl) (Nat.le_of_ble_eq_true rfl) λle hle=>?_
  have Xy:le∉[fa]:=by rw[gg];exact(F1.kept (K3.trans Kd)).ne hle
  have Ke:Kept OX (AH.put OX le (.list ((lX++lY r1)++rU r2))) []:=Kept.new hle;have ee:=AH.aa OX le (.list ((lX++lY r1)++rU r2));revert Ke ee;generalize AH.put OX le (.list ((lX++lY r1)++rU r2))=Yj;intro Ke ee;have K4:=(K3.trans Kd).trans Ke;have F4:=F1.kept K4;kd_p;refine aF ?_;kd_p;refine aU.call ((dP (m:=16) F4 (by exact aG (.l .A (.k 897) (.g (.a .A .O) (.k 1000))) rfl OD) (by decide) λr5 mK UP F5 K5=>?_).less (Nat.le_add_left 1 d))
  obtain⟨n,hn,en⟩:=EF r1 r2 UP;refine cz (j:=r5) (K5 _ _ ee Xy) rfl en (by exact aG (.t .A (.k 16) (.b .A (.k 4611686018427387904))) rfl UP) ?_
  have VR:Kept aI Yj [fa]:=λb o e _=>K4 b o e (by exact nn)
  exact q n mK ((EG h1 h2 n hn).up hp) (F5.less (by exact aX (.l2 3 .O .A (.f (.a .B .O) (.m 3 .A) (.g (.a (.a .C .O) .O) (.a .C .B)))) rfl hp (Nat.sub_add_cancel (aG (.l .O .A (.g .O (.m 3 .A))) rfl hp)))) (K1.trans (VR.trans K5))
 ·obtain⟨e,rfl⟩:∃e,d=e+1:=by
   rcases h0 with z | z
   ·exfalso;simp only[decide_eq_true_eq]at c1;exact aG (.e .A .Z (.l (.k 2) .A (.z))) rfl z (Mf c1)
   ·exact⟨d-1,by exact Nat.le_antisymm (aH (.f (.a .A .O) .B (.g .B (.a .A .O))) rfl (Nat.sub_add_cancel (EZ z))) (aH (.e (.a .A .O) .B (.g (.a .A .O) .B)) rfl (Nat.sub_add_cancel (EZ z)))⟩
  have G:jl fa ca ra r1 r2 refs e:=ih e rfl;unfold jl at G;clear ih;have pw:2^(e+1)=2^e+2^e:=by rw[Nat.pow_succ];exact Nat.le_antisymm (aG (.g (.w .A 2) (.a .A .A)) rfl) (aG (.g (.a .A .A) (.w .A 2)) rfl)
  rw[pw]at q ht hp;have WW:1<=2^e:=Nat.one_le_two_pow;generalize 2^e=m at q ht hp WW G;have ed:(((e+1:Nat):Int))-1=(e:Int):=by exact Sq
  have hf:2<=r:=by simp only[decide_eq_true_eq]at c1;exact aG (.l (.k 2) .A (.g (.k 2) .A)) rfl (Mf c1)
  kd_p
  (refine aA ?_ rfl rfl)
  refine aF ?_;kd_p;rw[ed];refine aU.call ((G F1 (BW K1) (by exact aH (.l (.a .A (.m 3 (.a .B .B))) (.k 900) (.l .O (.a .B .B) (.g (.a (.a .A .O) (.m 3 .B)) (.k 900)))) rfl ht hp) λn bU hn F2 K2=>?_).less (Nat.le_refl _))
  have Dq:=K1.trans K2;kd_p;wtm_at "j"<;>rename_i c2
  ·kd_p
   exact q (.bo n) bU hn.bo (F2.less (by exact bD (.l .O (.a .A .A) (.e (.a .B .O) (.m 3 .A) (.f (.a .C .O) (.m 3 (.a .A .A)) (.g (.a (.a .D .O) .B) (.a .D .C))))) rfl hp (Nat.sub_add_cancel (E8 hp)) (Nat.sub_add_cancel (aG (.l .O (.a .A .A) (.g .O (.m 3 (.a .A .A)))) rfl hp)))) Dq
  have c2:¬(r:Int)=2:=by simpa using c2
  kd_p;wtm_at "j"<;>rename_i c3
  ·simp only[decide_eq_true_eq]at c3
   kd_p;refine aW ?_;kd_p;intro la zM;kd_p;obtain⟨b,k,ek,hk⟩:=CE (j:=r-3) (by exact Sr c3 hf hr)
   refine cz (j:=r-3) (AH.aa _ _ _) (by exact Ss c3 hf hr c2) ek (by exact aH (.t .A (.k 5) (.l .B .A (.b .B (.k 4611686018427387904)))) rfl (iT c3) (Nat.sub_le _ _)) ?_
   kd_p;refine aF ?_;kd_p;refine aU.call ((dP (m:=2) (F2.new zM) (by exact aX (.l (.a .A (.m 3 (.a .B .B))) (.k 900) (.e (.a .C .O) (.m 3 .B) (.g (.a (.a .A .O) .C) (.k 1000)))) rfl ht (Nat.sub_add_cancel (E8 hp))) (by decide) λr3 fE UO F3 K3=>?_).less (Nat.le_add_left 1 (e+1)))
   obtain⟨k1,WG,V7⟩:=Dg r1 r2 UO;have TY:Kept bU fE [fa]:=(Kept.new zM).trans K3;refine cz (j:=r3) (BW (Dq.trans TY)) rfl V7 (by exact aG (.t .A (.k 2) (.b .A (.k 4611686018427387904))) rfl UO) ?_
   kd_p;have:=q (.nm b n k1) fE (hn.nm (by rcases WG with rfl | rfl<;>assumption)) (F3.less (by exact Su hp)) (Dq.trans TY)
   rw[hk]at this;exact this
  ·have go:∀{Q:V->AH->Prop},(∀(n2:Nd) fE,Dr refs m n2->eR fE fa ca (t+(3*(m+m)-1))->Kept σ fE [fa]->Q n2.v fE)->aU (e+2) (.ref 656) [.lst fa,.int e,.lst ra] bU Q:=λ{Q} q=>G F2 (BW Dq) (by exact aX (.l (.a .A (.m 3 (.a .B .B))) (.k 900) (.e (.a .C .O) (.m 3 .B) (.g (.a (.a (.a .A .O) .C) (.m 3 .B)) (.k 900)))) rfl ht (Nat.sub_add_cancel (E8 hp))) λn2 fE h3 F3 K3=>q n2 fE h3 (F3.less (by exact bD (.e2 2 (.a .A .O) (.m 3 .B) (.f (.a .C .O) (.m 3 (.a .B .B)) (.g (.a (.a (.a .D .O) .A) .A) (.a .D .C)))) rfl (Nat.sub_add_cancel (E8 hp)) (Nat.sub_add_cancel (aG (.l .O (.a .A .A) (.g .O (.m 3 (.a .A .A)))) rfl hp)))) (Dq.trans K3)
   kd_p;wtm_at "j"<;>rename_i c4
   ·kd_p
    refine aF ?_;kd_p;rw[ed];refine aU.call (go λn2 fE h3 F3 K3=>?_)
    kd_p;exact q (.cat n n2) fE (hn.cat h3) F3 K3
   ·kd_p
    refine aF ?_;kd_p;rw[ed];refine aU.call (go λn2 fE h3 F3 K3=>?_)
    kd_p;exact q (.alt n n2) fE (hn.alt h3) F3 K3
theorem tR(h1:r1∈refs)(h2:r2∈refs):∀(d:Nat),jl fa ca ra r1 r2 refs d
 | 0=>qy h1 h2 λe z=>by cases z
 | d+1=>qy h1 h2 λe z=>by cases z;exact tR h1 h2 d
end
end
section
theorem dk.len{h:Heap}{es:List (Str×Value)}{l:List (Str×V)}(r:dk h es l):es.length=l.length:=by
 induction r with
 | nil=>rfl
 | cons _ _ ih=>rw[List.length_cons,List.length_cons,ih]
theorem fresh_at{h:Heap}{σ:AH}(S:St h σ):σ h.objs.size=none:=by
 cases z:σ h.objs.size with
 | none=>rfl
 | some ao=>obtain⟨ob,e1,_⟩:=(S.objs _ _ z).at;exact absurd (Heap.lt_size e1) (Nat.lt_irrefl _)
theorem zy{n:NX}{env:Env}{ρ:Loc}{σ:AH}{Q:V->Loc->AH->Prop}{a:Addr}{l:List (Str×V)}(ha:σ a=some (.dict l))(hl:l.length<=1000)(q:∀b,σ b=none->Q (.qD b) ρ (σ.put b (.dict l))):cK n env (.type "dict") [.qD a] ρ σ Q:=λus A s hA S F r=>by
 obtain⟨u,rfl,r1⟩:=fD r;obtain rfl:=ay.oG r1;have o:=S.objs _ _ ha;cases o with
 | @dict kvs _ ho hs=>
  have na:(a==sysModules)=false:=by have:=S.lo _ _ ha;simpa[sysModules] using this
  have e1:=hs.len;refine kt_call_dict (knd:=strKind c.prog c.w) na ho (by rw[sizeLine_eq];exact aH (.e .A .B (.l .B (.k 1000) (.g .A (.k 16777216)))) rfl e1 hl) λh' hd sb=>?_
  have kp:∀b o,s.heap.get? b=some o->h'.get? b=some o:=λb o e=>(sb.2 b (Nat.ne_of_lt (Heap.lt_size e))).trans (aO _ b o e)
  refine aR.new (tk:=s.toks) S F kp ?_ (Nat.le_refl _) (.dict hd (hs.keep λb o e _=>kp b o e)) (.qD _) (q _ (fresh_at S))
  obtain⟨o,_,_,e,_⟩:=hd;exact Nat.le_of_lt (Heap.lt_size e)
theorem Cg{h:Heap}{kvs:List (Str×Value)}(r:dk h kvs []):kvs=[]:=by cases r;rfl
theorem wO{n:NX}{env:Env}{ρ:Loc}{σ:AH}{Q:V->Loc->AH->Prop}{e1 e2:Expr}{a b p1 p2 pos:_}
  (h:∀d,σ d=none->Ex n env e1 ρ (σ.put d (.dict [])) λv1 bJ aI=>Ex n env e2 bJ aI λv2 d5 bU=>bU d=some (.dict [])/\Q (.qD d) d5 (bU.put d (.dict [("P",v1),("N",v2)]))):
  Ex n env (.Dict [some (.Constant (.str "P") a p1),some (.Constant (.str "N") b p2)] [e1,e2] pos) ρ σ Q:=λA s hA S F _=>by
 refine wpAny_Dict_pairs (knd:=strKind c.prog c.w) (pairs:=[(eval (.Constant (.str "P") a p1) env,do let z <-eval e1 env;PySem.standAt pos;Pure.pure z),(eval (.Constant (.str "N") b p2) env,do let z <-eval e2 env;PySem.standAt pos;Pure.pure z)]) (by rfl) (by exact List.cons_ne_nil _ _) (by exact Nat.le_add_left _ _) ?_
 have ha:=fresh_at S;have k0:=aO (h:=s.heap) { cls:=.type "dict",data:=.dict #[] };have g0:s.heap.get? s.heap.objs.size=none:=bz (Nat.le_refl _);have ro:jq (s.heap.push { cls:=.type "dict",data:=.dict #[] }) s.heap.objs.size (.dict []):=.dict (Heap.DictOf.new _) .nil;have S0:=S.gE k0 g0 (S.two (Nat.le_refl _)) ro;have F0:=F.gE (ao:=.dict []) k0 g0;have M0:Fm (cY env A) env σ s.heap _ _:=.gE (ao:=.dict []) k0 g0;refine evalPairs_cons (Constant_str (wpAny_bind ?_));refine wpAny_mono (h _ ha A _ hA S0 F0 trivial) (λu1 s1 p=>?_) (λ_ _ z=>z.trans M0)
 obtain⟨h1,gv,v1,bJ,aI,rfl,S1,F1,M1,r1,q1⟩:=p;refine wpAny_bind (wpAny_standAt (wpAny_pure ?_));refine evalPairs_cons (Constant_str (wpAny_bind ?_));refine wpAny_mono (q1 A _ hA S1 F1 trivial) (λu2 s2 p=>?_) (λ_ _ z=>z.trans (M0.trans M1))
 obtain⟨h2,oh,v2,d5,bU,rfl,S2,F2,M2,r2,hd,q2⟩:=p;refine wpAny_bind (wpAny_standAt (wpAny_pure ?_));refine evalPairs_nil ?_;have o2:=S2.objs _ _ hd;have ho:h2.DictOf (strKind c.prog c.w) s.heap.objs.size []:=by
  cases o2 with
  | @dict kvs _ ho hs=>rw[Cg hs]at ho;exact ho
 refine⟨[("P",u1),("N",u2)],⟨rfl,rfl,rfl,rfl,trivial⟩,ho,λh' BM sb=>?_⟩
 have hd2:h'.DictOf (strKind c.prog c.w) s.heap.objs.size [("P",u1),("N",u2)]:=BM;have k:=cb o2 sb;exact aR.trans ((M0.trans M1).trans M2) (aR.upd (s:={ s with heap:=h2,toks:=_ }) S2 F2 hd sb (.dict hd2 (.cons ((r1.step S1 F1 M2).keep k) (.cons (r2.keep k) .nil))) (.qD _) q2)
section
variable{σ:AH}{Q:V->AH->Prop}
set_option tactic.hygienic true in
theorem vS{d av ar:Addr}{lim:Int}(hd:σ d=some (.dict []))(q:∀al,σ al=none->Q .none ((σ.put al (.list [])).put d (.dict (gA av ar al 0 lim)))):aU 1 (.ref 558) [.inst 582 d,.qD av,.int lim,.lst ar] σ Q:=by
 have co:=(bt).1;refine aC (mO) rfl λL=>?_
 kcf_m
 (refine au (ag ?_))
 kd_p;refine aV ?_;kd_p;refine aP co (eJ) hd (by exact Nat.zero_le _) ?_
 kd_p
 (refine ag ?_)
 kd_p;refine aV ?_;kd_p;refine aP co (gP) (AH.aa _ _ _) (Nat.le_of_ble_eq_true rfl) ?_;rw[AH.bS];kd_p
 (refine ag ?_)
 kd_p;refine aV ?_;kd_p;refine aP co (fX) (AH.aa _ _ _) (Nat.le_of_ble_eq_true rfl) ?_;rw[AH.bS];kd_p
 (refine ag ?_)
 kd_p;refine aV ?_;kd_p;refine aP co (gQ) (AH.aa _ _ _) (Nat.le_of_ble_eq_true rfl) ?_;rw[AH.bS];kd_p
 (refine ag ?_)
 kd_p;refine aV ?_;kd_p;refine aP co (cf) (AH.aa _ _ _) (Nat.le_of_ble_eq_true rfl) ?_;rw[AH.bS];kd_p
 (refine ag ?_)
 refine aW ?_;kd_p;intro al rM;have nd:d≠al:=λz=>by rw[z,AH.aa]at rM;cases rM
 refine aV ?_;kd_p;refine aP co (dz) (by rw[AH.ae _ _ nd];exact AH.aa _ _ _) (Nat.le_of_ble_eq_true rfl) ?_
 have e:∀o1 o2 o3,((σ.put d o1).put al o2).put d o3=(σ.put al o2).put d o3:=λo1 o2 o3=>by
  funext b;unfold AH.put;by_cases h:b=d<;>exact OH
 rw[e];kd_p;exact q al (AH.aT rM)
end
end
section
structure NW(refs:List Ref)(k:Nat)(w:cD):Prop where
 ok:∀i∈w.chain,i.ok refs
 nm:∀q∈w.named,q.1∈refs
 le:w.named.length<=k
structure NR(refs:List Ref)(k:Nat)(R:AR×br×HS):Prop where
 go:∀w,R.1=.go w->NW refs k w
 pl:∀w,some w∈R.2.1->NW refs k w
section
variable{refs:List Ref}{C:Cf}{k:Nat}{i:It}{r:List It}{a:Nat}{n:Named}{p:br}{h h':HS}
theorem NW.up{w:cD}(W:NW refs k w):NW refs (k+1) w:=⟨W.ok,W.nm,Nat.le_succ_of_le W.le⟩
theorem NR.same{x:AR}(hp:∀w,some w∈p->NW refs k w)(hx:∀w,x=.go w->NW refs (k+1) w):NR refs (k+1) (x,p,h):=⟨hx,λw m=>(hp w m).up⟩
theorem Hf{q:Pl}(hp:∀w,some w∈p->NW refs k w)(W:∀b,NW refs (k+1) ⟨r,b,n⟩):NR refs (k+1) (eQ C r a n p h q):=by
 unfold eQ;split
 ·exact .same hp λw e=>nomatch e
 ·exact .same hp (oD (W _))
theorem CL{x:Str}{v:V}(hp:∀w,some w∈p->NW refs k w)(W:∀b,NW refs (k+1) ⟨r,b,n⟩):NR refs (k+1) (fQ C r a n p h x v):=by
 unfold fQ;split
 ·exact .same hp λw e=>nomatch e
 ·exact .same hp (oD (W _))
theorem HD(OB:C.pn.ok refs)(W:NW refs k ⟨i::r,a,n⟩)(hp:∀w,some w∈p->NW refs k w):NR refs (k+1) (mY C i r a n p h):=by
 have hi:i.ok refs:=W.ok i (.head _);have hr:∀j∈r,j.ok refs:=λj m=>W.ok j (.tail _ m)
 have hn:∀q∈n,q.1∈refs:=W.nm;have hl:n.length<=k:=W.le;have b:∀b,NW refs (k+1) ⟨r,b,n⟩:=λb=>⟨hr,hn,Nat.le_succ_of_le hl⟩
 have c1:∀{j:It},j.ok refs->∀b,NW refs (k+1) ⟨j::r,b,n⟩:=λ{j} hj b=>⟨λy m=>(List.mem_cons.mp m).elim (λe=>e▸hj) (hr y),hn,Nat.le_succ_of_le hl⟩
 have c2:∀{j j2:It},j.ok refs->j2.ok refs->∀b,NW refs (k+1) ⟨j::j2::r,b,n⟩:=λ{j j2} hj Qx b=>⟨λy m=>(List.mem_cons.mp m).elim (λe=>e▸hj) λm=>(List.mem_cons.mp m).elim (λe=>e▸Qx) (hr y),hn,Nat.le_succ_of_le hl⟩
 have push:∀{x:AR}{y:cD},(∀w,x=.go w->NW refs (k+1) w)->NW refs (k+1) y->NR refs (k+1) (x,some y::p,h):=λ{x y} hx hy=>⟨hx,λw m=>(List.mem_cons.mp m).elim (λe=>by cases e;exact hy) λm=>(hp w m).up⟩
 cases i with
 | nd m=>
  cases m with
  | leaf l=>
   cases l with
   | pl q=>exact Hf hp b
   | dZ=>
    show NR refs (k+1) (match bu h.N with | .error b=>(AR.err b,p,h) | .ok q=>eQ C r a n p h q)
    split
    ·exact .same hp λw e=>nomatch e
    ·exact Hf hp b
   | cV bl=>
    cases bl with
    | false=>
     refine⟨oD (b _),λw m=>?_⟩
     have m:some w∈(if a<C.s.length then some ⟨.nd (.leaf (.cV false))::r,a+1,n⟩::p else p):=m
     split at m
     ·rcases List.mem_cons.mp m with e | m
      ·cases e;exact c1 (j:=.nd (.leaf (.cV false))) hi _
      ·exact(hp w m).up
     ·exact(hp w m).up
    | true=>
     show NR refs (k+1) (match cE C.s a with | []=>(AR.dead,p,h) | e::es=>(AR.go (cD.mk r e n),es.map (λe=>some (cD.mk r e n))++p,h))
     split
     ·exact .same hp λw e=>nomatch e
     ·refine⟨oD (b _),λw m=>?_⟩
      rcases List.mem_append.mp m with m | m
      ·obtain⟨e,_,e2⟩:=List.mem_map.mp m
       cases e2;exact b _
      ·exact(hp w m).up
   | ask=>exact .same hp (oD (c1 (j:=.nd C.pn) OB _))
   | bM s=>
    cases s with
    | fence=>exact⟨oD (b _),λw m=>(List.mem_cons.mp m).elim (λe=>by cases e) λm=>(hp w m).up⟩
    | fail=>exact .same hp λw e=>nomatch e
    | abort=>exact .same hp λw e=>nomatch e
    | cA=>exact push (oD (b _)) (c1 hi _)
   | c0 x=>exact CL hp b
  | cat x y=>exact .same hp (oD (c2 (j:=.nd x) (j2:=.nd y) hi.1 hi.2 _))
  | alt x y=>exact push (oD (c1 (j:=.nd x) hi.1 _)) (c1 (j:=.nd y) hi.2 _)
  | bo x=>exact push (oD (b _)) (c2 (j:=.nd x) (j2:=.round x a) hi hi _)
  | nm bb x q=>exact .same hp (oD (c2 (j:=.nd x) (j2:=.fin bb q a) hi.1 hi.2 _))
 | round x b0=>
  refine .same hp λw e=>?_
  have e:(if a=b0 then AR.dead else AR.go (cD.mk (.nd (.bo x)::r) a n))=.go w:=e
  split at e
  ·cases e
  ·cases e;exact c1 (j:=.nd (.bo x)) hi _
 | fin bb q b0=>
  cases bb with
  | true=>exact CL hp b
  | false=>
   refine .same hp λw e=>?_
   cases e;refine⟨hr,λy m=>?_,?_⟩
   ·rcases List.mem_append.mp m with m | m
    ·exact hn y m
    ·rw[List.mem_singleton]at m;subst m;exact hi
   ·show(n++[_]).length<=k+1
    rw[List.length_append];exact Nat.succ_le_succ hl
theorem tC(OB:C.pn.ok refs):∀(f k:Nat)(w:cD)(p:br)(h:HS),NW refs k w->(∀w,some w∈p->NW refs k w)->∀a n,(fc C f w p h).1=.met a n->(∀q∈n,q.1∈refs)/\n.length<=k+f
 | f,k,⟨[],a0,n0⟩,p,h,W,_,a,n,e=>by rw[mv]at e;cases e;exact⟨W.nm,Nat.le_trans W.le (Nat.le_add_right _ _)⟩
 | 0,k,⟨i::r,a0,n0⟩,p,h,W,_,a,n,e=>by cases e
 | f+1,k,⟨i::r,a0,n0⟩,p,h,W,hp,a,n,e=>by
  rw[fC]at e;have G:=HD (h:=h.tick) OB W hp;revert G e;generalize mY C i r a0 n0 p h.tick=x;obtain⟨x,p2,h2⟩:=x;intro e G;have z:∀w,NW refs (k+1) w->∀p2:br,(∀w,some w∈p2->NW refs (k+1) w)->(fc C f w p2 h2).1=.met a n->(∀q∈n,q.1∈refs)/\n.length<=k+(f+1):=λw W p2 P e=>by
   have:=tC OB f (k+1) w p2 h2 W P a n e;exact⟨this.1,SN this.2⟩
  cases x with
  | go w=>exact z w (G.go w rfl) p2 G.pl e
  | dead=>
   cases p2 with
   | nil=>cases e
   | cons y p3=>
    cases y with
    | none=>cases e
    | some w=>exact z w (G.pl w (.head _)) p3 (λv m=>G.pl v (.tail _ m)) e
  | dv=>cases e
  | err b=>cases e
theorem vb:∀(f k:Nat)(w:bf)(H:bE)(h:HS),w.named.length<=k->(∀v,some v∈H->v.named.length<=k)->∀a n,(fz C f w H h).1=.met a n->n.length<=k+f
 | 0,k,w,H,h,_,_,a,n,e=>by cases e
 | f+1,k,w,H,h,W,hp,a,n,e=>by
  have e:(rV (fz C f) w (eP C w.order w H h.tick)).1=.met a n:=e;have G:=yS (C:=C) (w:=w) (H:=H) (h:=h.tick) w.order;revert G e;generalize eP C w.order w H h.tick=x;obtain⟨x,p2,h2⟩:=x;intro e G;have hs:∀v,some v∈p2->v.named.length<=k+1:=λv m=>(G.hs v m).elim (λm=>Nat.le_succ_of_le (hp v m)) λl=>Nat.le_succ_of_le (Nat.le_trans l W)
  have z:∀w:bf,w.named.length<=k+1->∀p2:bE,(∀v,some v∈p2->v.named.length<=k+1)->(fz C f w p2 h2).1=.met a n->n.length<=k+(f+1):=λw W p2 P e=>by
   have:=vb f (k+1) w p2 h2 W P a n e;exact aX (.l .A (.a (.a .B .O) .C) (.g .A (.a .B (.a .C .O)))) rfl this
  cases x with
  | go w'=>exact z w' (Nat.le_trans (G.go w' rfl) (Nat.succ_le_succ W)) p2 hs e
  | dead=>
   cases p2 with
   | nil=>cases e
   | cons y p3=>
    cases y with
    | none=>cases e
    | some w=>exact z w (hs w (.head _)) p3 (λv m=>hs v (.tail _ m)) e
  | over=>cases e
  | err b=>cases e
  | met=>cases e;rw[List.length_reverse];exact aX (.l .A .B (.g .A (.a .B (.a .C .O)))) rfl W
end
theorem qh{P:Nat->Nat->HS->Rs×HS}{lim:Nat}{G:Nat->Named->Prop}{M:Nat}(hP:∀f b h a n,f<=lim->b<=M->(P f b h).1=.met a n->G a n):∀(m b:Nat) (h:HS) {b' a n},b+m<=M+1->(places P lim m b h).1=.met b' a n->G a n
 | 0,b,h,b',a,n,_,e=>by cases e
 | m+1,b,h,b',a,n,hb,e=>by
  rw[cT]at e;have z:=hP (lim-h.steps) b h;revert e z;generalize P (lim-h.steps) b h=x;obtain⟨x,h2⟩:=x;intro e z;cases x with
  | none=>exact qh hP m (b+1) h2 (by exact IU hb) e
  | cut=>cases e
  | err b=>cases e
  | dv=>cases e
  | met a n=>cases e;exact z _ _ (Nat.sub_le _ _) (by exact aX (.l (.a .A (.a .B .O)) (.a .C .O) (.g .A .C)) rfl hb) rfl
noncomputable def Ob(C:Cf)(n:Nd)(mk:Bool):Nat->Nat->HS->Rs×HS:=if mk then λf b h=>fz C f ⟨codeOf n,0,b,[],[],[]⟩ [] h else λf b h=>fc C f ⟨[.nd n],b,[]⟩ [] h
noncomputable def bC(C:Cf)(n:Nd)(mk an:Bool)(lim:Nat)(h:HS):Rp×HS:=places (Ob C n mk) lim ((if an then 0 else C.s.length)+1) 0 h
theorem kP(C:Cf)(n:Nd)(mk an:Bool)(lim:Nat)(h:HS)(hl:∀x∈h.log,g9 x):∀x∈(bC C n mk an lim h).2.log,g9 x:=by
 refine mi (λf b h hl=>?_) _ _ _ hl
 cases mk with
 | true=>exact Fz ⟨0,0,0,0,0,[],0,C⟩ (codeOf n) f b h hl
 | false=>exact FA ⟨0,0,0,0,0,[],0,C⟩ n f b h hl
theorem gc(C:Cf)(n:Nd)(mk:Bool):∀b,Bd λf h=>Ob C n mk f b h:=λb=>by
 cases mk with
 | true=>exact PG ⟨0,0,0,0,0,[],0,C⟩ (codeOf n) b
 | false=>exact PH ⟨0,0,0,0,0,[],0,C⟩ n b
end
section
structure Bx where
 dp:Addr
 ka:Addr
 ar:Addr
 refs:List Ref
 C:Cf
 nv:V
noncomputable def Bx.kvs(B:Bx):List (Str×V):=[("P",.inst 166 B.dp),("N",B.nv)]
noncomputable def Bx.h0(B:Bx):HS:=⟨B.kvs,[],0⟩
noncomputable def Bx.fx(B:Bx)(d av al:Addr)(lim:Nat):Fx:=⟨d,av,B.ar,al,B.dp,B.refs,lim,B.C⟩
structure wb(B:Bx):Prop where
 hs:B.C.s.length<=4
 sg:∀x∈B.C.s.cps.toList,x<128/\(x<48\/57<x)/\x≠43/\x≠45
 ky:∀r∈B.refs,r.2≠"P"
 pn:fF B.refs B.C.pn
 Vt:B.C.pn.size<=1000
 nv:NV B.nv
structure JH(B:Bx)(σ:AH):Prop where
 ka:σ B.ka=some (.dict B.kvs)
 ar:σ B.ar=some (.list (B.C.rf.map V.str))
 rf:∀r∈B.refs,σ r.1=some (.dict (fV r.2))
 pat:σ B.dp=some (.dict [("node",B.C.pn.v)])
theorem JH.kept{B:Bx}{σ af:AH}(L:JH B σ)(K:Kept σ af []):JH B af:=⟨K _ _ L.ka (by exact nn),K _ _ L.ar (by exact nn),λr h=>K _ _ (L.rf r h) (by exact nn),K _ _ L.pat (by exact nn)⟩
section
variable{B:Bx}{σ:AH}{Q:V->AH->Prop}
theorem wb.fx(O:wb B)(d av al:Addr)(lim:Nat):mT (B.fx d av al lim):=⟨O.hs,O.sg,O.pn.ok,O.ky⟩
theorem wb.pk(O:wb B)(d av al:Addr)(lim:Nat):Ds (B.fx d av al lim):=⟨O.pn,O.Vt⟩
theorem wb.oM(O:wb B)(d av al:Addr)(lim:Nat):Gs (B.fx d av al lim) B.h0:=⟨rfl,O.nv⟩
inductive Pe(B:Bx)(lim:Nat)(σ af:AH)(v:V):Prop
 | mk(d av al:Addr)(hd:σ d=none)(hv:σ av=none)(hl:σ al=none)(H:gL (B.fx d av al lim) af B.h0)(K:Kept σ af [])(e:v=.inst 582 d)
set_option tactic.hygienic true in
theorem xV{av:Addr}{ba:AH}{lim:Nat}(L:JH B ba)(Ih:ba av=none)(q:∀v af,Pe B lim ba af v->Q v af)(es:σ=ba.put av (.dict B.kvs)):aU 2 (.ref 582) [.qD av,.int lim,.lst B.ar] σ Q:=by
 subst es;have co:=bt;refine jW co.2.1 (mW) (mX).1 λd hd=>vS (AH.aa _ _ _) λal rM=>⟨rfl,?_⟩
 have n1:d≠al:=λz=>by rw[z,AH.aa]at rM;cases rM
 have zG:=AH.aT rM;have n5:av≠d:=λz=>by rw[z,AH.aa]at hd;cases hd
 have n4:av≠al:=λz=>by rw[z,AH.aa]at zG;cases zG
 have Ek:=AH.aT hd;have Lu:=AH.aT zG;have e:∀o1 o2 o3,(((ba.put av o1).put d o2).put al (.list [])).put d o3=((ba.put av o1).put al (.list [])).put d o3:=λo1 o2 o3=>by
  funext b;unfold AH.put;by_cases h:b=d<;>exact OH
 rw[e];have K1:Kept ba (ba.put av (.dict B.kvs)) []:=Kept.new Ih;have K2:Kept (ba.put av (.dict B.kvs)) ((ba.put av (.dict B.kvs)).put al (.list [])) []:=Kept.new zG;have hd2:((ba.put av (.dict B.kvs)).put al (.list [])) d=none:=by rw[AH.ae _ _ n1];exact hd
 have K3:Kept ((ba.put av (.dict B.kvs)).put al (.list [])) (((ba.put av (.dict B.kvs)).put al (.list [])).put d (.dict (gA av B.ar al 0 lim))) []:=Kept.new hd2;have K:=(K1.trans K2).trans K3;have L':=L.kept K;refine q _ _ ⟨d,av,al,Ek,Ih,Lu,⟨⟨AH.aa _ _ _,?_,L'.ar,?_⟩,L'.rf,L'.pat,?_,λr hr=>⟨ne_sn (L.rf r hr) Ek,ne_sn (L.rf r hr) Ih⟩,ne_sn L.pat Ek,ne_sn L.pat Ih⟩,K,rfl⟩
 ·show(((ba.put av (.dict B.kvs)).put al (.list [])).put d _) av=_
  rw[AH.ae _ _ n5,AH.ae _ _ n4];exact AH.aa _ _ _
 ·show(((ba.put av (.dict B.kvs)).put al (.list [])).put d _) al=_
  rw[AH.ae _ _ n1.symm];exact AH.aa _ _ _
 ·have a1:B.ar≠d:=ne_sn L.ar Ek
  have a2:B.ar≠av:=ne_sn L.ar Ih;have a3:B.ar≠al:=ne_sn L.ar Lu;show[d,av,B.ar,al].Nodup;exact List.nodup_cons.mpr ⟨Rt n5.symm a1.symm n1,List.nodup_cons.mpr ⟨J1 a2.symm n4,List.nodup_cons.mpr ⟨λh=>a3 (List.mem_singleton.mp h),Ac⟩⟩⟩
noncomputable def vG(n:Named):List V:=n.map λp=>.tup [.str p.1.2,.str p.2]
inductive d7(D:List Addr)(σ:AH):Rp->V->Prop
 | cut:d7 D σ .cut (.int 22)
 | err{b}:d7 D σ (.err b) (.int (wN b))
 | none:d7 D σ .none .none
 | met{b a n}(y:Addr)(hy:σ y=some (.list (vG n)))(ne:y∉D):d7 D σ (.met b a n) (.tup [.int b,.int a,.lst y])
inductive jr(D:List Addr)(σ:AH)(R:Rp×HS):V->Prop
 | mk(f:V)(al:Addr)(hf:d7 D σ R.1 f)(hl:σ al=some (.list R.2.log))(ne:al∉D):jr D σ R (.tup [f,.lst al,.int R.2.steps])
theorem oQ{D:List Addr}{σ:AH}{a:Addr}(hD:∀x∈D,∃o,σ x=some o)(ha:σ a=none):a∉D:=λm=>by
 obtain⟨o,e⟩:=hD a m;rw[ha]at e;cases e
theorem wY(O:wb B){n:Nd}(N:fF B.refs n)(hz:n.size<=1000){mk an:Bool}{lim b a:Nat}{nm:Named}(e:(bC B.C n mk an lim B.h0).1=.met b a nm):(∀q∈nm,q.1∈B.refs)/\nm.length<=lim:=by
 have nw:∀b,NW B.refs 0 ⟨[.nd n],b,[]⟩:=λb=>⟨λi m=>by rw[List.mem_singleton]at m;subst m;exact N.ok,(λq m=>by cases m),Nat.le_refl _⟩
 have hm:(if an then 0 else B.C.s.length)<=B.C.s.length:=by split<;>first | exact z6 | exact aG (.g .A .A) rfl
 revert e;unfold bC;generalize (if an then 0 else B.C.s.length)=m at hm
 intro e;refine qh (P:=Ob B.C n mk) (M:=B.C.s.length) (G:=λa nm=>(∀q∈nm,q.1∈B.refs)/\nm.length<=lim) (λf b h a nm hf hb e=>?_) _ _ _ (by exact IT hm) e
 cases mk with
 | false=>
  have:=tC O.pn.ok f 0 ⟨[.nd n],b,[]⟩ [] h (nw b) (λw m=>by cases m) a nm e
  exact⟨this.1,by exact aX (.l .A (.a .Z .B) (.l .B .C (.g .A .C))) rfl this.2 hf⟩
 | true=>
  have e:(fz B.C f ⟨codeOf n,0,b,[],[],[]⟩ [] h).1=.met a nm:=e;have T:=oU (F:=B.fx 0 0 0 lim) (O.pk 0 0 0 lim) f _ _ _ _ h (nE N hz hb) (by show(fz B.C f _ [] h).1≠_;rw[e];intro z;cases z)
  have T:yi B.C ⟨[.nd n],b,[]⟩ [] h.vals h.log (fz B.C f ⟨codeOf n,0,b,[],[],[]⟩ [] h).1 _ _:=T;rw[e]at T;obtain⟨g,hg⟩:=T.ev;obtain⟨st,eg⟩:=hg 0;have t:=tC O.pn.ok g 0 ⟨[.nd n],b,[]⟩ [] _ (nw b) (λw m=>by cases m) a nm (by rw[eg])
  have l:=vb f 0 _ [] h (Nat.le_refl _) (λv m=>by cases m) a nm e
  exact⟨t.1,by exact aX (.l .A (.a .Z .B) (.l .B .C (.g .A .C))) rfl l hf⟩
theorem TG(O:wb B){n:Nd}(N:fF B.refs n)(hz:n.size<=1000){d av al oa lim:Nat}{an:Bool}(hl:lim<=900)(H:gL (B.fx d av al lim) σ B.h0)(mk:Bool)(ho:mk=true->σ oa=some (.list ((codeOf n).map Ord.v))/\oa≠al):
  cx 12 (PX (B.fx d av al lim) σ (bC B.C n mk an lim B.h0)) (.ref (if mk then 544 else 593)) [if mk then .lst oa else n.v,.str B.C.s,.bool an,.inst 582 d] σ (PQ (B.fx d av al lim) σ (bC B.C n mk an lim B.h0)):=by
 have fx:=O.fx d av al lim;have pk:=O.pk d av al lim;have hk:=O.oM d av al lim;cases mk with
 | true=>
  obtain⟨h1,h2⟩:=ho rfl;exact qB (F:=B.fx d av al lim) (J:=MJ (B.fx d av al lim)) (λdm ha=>Jw pk) (λw H ⟨t,P,cr⟩=>(mr pk cr).len) (λb hb=>⟨_,_,nE N hz hb⟩) H fx (yX O.pn O.Vt) hl ⟨hk,Nat.le_refl _,by show 2<=3+0;decide,Nat.zero_le _⟩ (Nat.zero_le _) h1 h2
 | false=>
  exact(ri (F:=B.fx d av al lim) H fx hl ⟨hk,Nat.le_refl _,by show 2<=3+0;decide,Nat.zero_le _,λw m=>by cases m⟩ N.ok (Nat.zero_le _)).less (by decide)
end
end
section
theorem Br{n:NX}{env:Env}{b b':List Stmt}{ρ ρ':Loc}{σ:AH}{Q:Fl->Loc->AH->Prop}(e1:b=b')(e2:ρ=ρ')(h:nO n env b' ρ' σ Q):nO n env b ρ σ Q:=by subst e1;subst e2;exact h
section
variable{B:Bx}{σ:AH}{Q:V->AH->Prop}
theorem u3{d av al:Addr}{ba aI bU:AH}(hd:ba d=none)(hv:ba av=none)(hl:ba al=none)(K:Kept ba aI [])(K':Kept aI bU [d,av,al]):Kept ba bU []:=λb o e n=>K' b o (K b o e n) (by
 rw[CD];exact⟨ne_sn e hd,ne_sn e hv,ne_sn e hl⟩)
theorem Eb{σ:AH}{D:List Addr}{R:Rp}{num:Int}(e:Vw R=some num):d7 D σ R (.int num):=by
 cases R with
 | cut=>cases e;exact .cut
 | err b=>cases e;exact .err
 | none=>cases e
 | met b a n=>cases e
set_option tactic.hygienic true in
theorem Jy{D:List Addr}(hD:∀x∈D,∃o,σ x=some o)(O:wb B){n:Nd}(N:fF B.refs n)(hz:n.size<=1000){oa lim:Nat}{an:Bool}(hl:lim<=900)(L:JH B σ)(mk:Bool)(ho:mk=true->σ oa=some (.list ((codeOf n).map Ord.v)))(q:∀v af,jr D af (bC B.C n mk an lim B.h0) v->Kept σ af []->Q v af):
  aU 13 (.ref 661) [.bool mk,if mk then .lst oa else n.v,.str B.C.s,.bool an,.qD B.ka,.lst B.ar,.int lim] σ Q:=by
 have gn:=λb a nm=>wY O N hz (mk:=mk) (an:=an) (lim:=lim) (b:=b) (a:=a) (nm:=nm)
 have go:=λd av al af=>TG (σ:=af) (d:=d) (av:=av) (al:=al) (oa:=oa) (an:=an) (mk:=mk) O N hz hl
 revert gn go q;generalize bC B.C n mk an lim B.h0=R;intro q gn go;refine yr (wq) rfl λLf=>?_
 generalize JY:(if mk=true then V.lst oa else n.v)=tv
 refine Br (b':=?_) (ρ':=?_) ?_ ?_ ?_;rotate_left;rotate_left
 ·wtm_at "b"
 ·wtm_at "b"
 refine FI ?_
 (refine aA ?_ rfl rfl)
 refine iP (bt).2.2.1 ?_;refine cj ?_ rfl;refine jy ?_;kd_p;refine zy L.ka (by show 2<=1000;decide) λav Ih=>?_
 kd_p;refine aU.call ((xV L Ih (λv aI hn=>?_) rfl).less (by decide))
 obtain⟨d,av,al,hd,hv,rM,H,K,rfl⟩:=hn;show nO _ _ _ _ _ _;have go:=go d av al aI H;have mH:mk=true->aI oa=some (.list ((codeOf n).map Ord.v))/\oa≠al:=λz=>⟨K _ _ (ho z) (by exact nn),ne_sn (ho z) rM⟩
 have go:=go mH;have L1:=L.kept K;have fin:∀(f:V) ρ' af,at_ ρ' "found"=some f->at_ ρ' "host"=some (.inst 582 d)->gL (B.fx d av al lim) af R.2->Kept σ af []->d7 D af R.1 f->b8 ⟨12,λnum x af=>False⟩ (envOf ("_law_gone":Str) (aj (cP 95)) Lf 661 (.ref 660)) ((aM (cP 95)).drop 2) ρ' af (rq Q):=λf ρ' af l1 l2 H' K' fv=>by
  have co:=(bt).1;refine' jU (ρ':=ρ') ?_ rfl ?_;rotate_left
  ·wtm_at "b"
  kd_p;refine ax co (dz) H'.host.h rfl (c5 _) ?_;kd_p;refine ax co (cf) H'.host.h rfl (bW _) ?_;kd_p;exact q _ af ⟨f,al,fv,H'.host.l,oQ hD rM⟩ K'
 refine Jl ?_ rfl (pQ rfl) rfl rfl (by decide) rfl rfl
 have hX:∀ρ' num af,ρ'.lookup ("wrong":Str)=none->at_ ρ' "host"=some (.inst 582 d)->PX (B.fx d av al lim) aI R num af->ρ'.lookup ("wrong":Str)=none/\b8 ⟨12,λnum x af=>False⟩ (envOf ("_law_gone":Str) (aj (cP 95)) Lf 661 (.ref 660)) ((aM (cP 95)).drop 2) (("found",.int num)::ρ') af (rq Q):=λρ' num af hw hh ⟨e,H',K'⟩=>
  ⟨hw,fin _ _ af rfl (by wtm_at "a") H' (u3 hd hv rM K K') (Eb e)⟩
 refine au (Tr.mono (Q:=λf d5 bU=>f=.next/\∃v,at_ d5 "found"=some v/\at_ d5 "host"=some (.inst 582 d)/\d5.lookup ("wrong":Str)=none/\PQ (B.fx d av al lim) aI R v bU) ?_ ?_)
 ·cases mk with
  | true=>
   have go:cx 12 (PX (B.fx d av al lim) aI R) (.ref 544) [.lst oa,.str B.C.s,.bool an,.inst 582 d] aI (PQ (B.fx d av al lim) aI R):=go;have JY:V.lst oa=tv:=JY;subst JY;show oq _ _ _ _ _ _;kd_p;refine aY ?_;kd_p
   (refine aA ?_ rfl rfl)
   refine aF ?_;kd_p;refine cx.call (cx.mono go ?_) (λnum af x=>hX _ num af rfl (by wtm_at "a") x)
   intro v bU P;kd_p;exact⟨rfl,v,rfl,by wtm_at "a",rfl,P⟩
  | false=>
   have go:cx 12 (PX (B.fx d av al lim) aI R) (.ref 593) [n.v,.str B.C.s,.bool an,.inst 582 d] aI (PQ (B.fx d av al lim) aI R):=go;have JY:n.v=tv:=JY;subst JY;show oq _ _ _ _ _ _;kd_p;refine aY ?_;kd_p
   (refine aA ?_ rfl rfl)
   refine aF ?_;kd_p;refine cx.call (cx.mono go ?_) (λnum af x=>hX _ num af rfl (by wtm_at "a") x)
   intro v bU P;kd_p;exact⟨rfl,v,rfl,by wtm_at "a",rfl,P⟩
 ·rintro fl d5 bU ⟨rfl,v,l1,l2,l3,e,H2,K2⟩
  have K3:=u3 hd hv rM K K2;have cr:=(ie).1;obtain⟨R1,hR⟩:=R;show b8 _ _ _ _ _ _;cases R1 with
  | cut=>exact e.elim
  | err b=>exact e.elim
  | none=>
   have e:v=.none:=e;subst e;kd_p;refine bQ ?_;kd_p;have co:=(bt).1;refine ax co (dz) H2.host.h rfl (c5 _) ?_;kd_p;refine ax co (cf) H2.host.h rfl (bW _) ?_;kd_p;exact q _ bU ⟨.none,al,.none,H2.host.l,oQ hD rM⟩ K3
  | met b a nm=>
   obtain⟨x,rfl,hx,_⟩:=e;obtain⟨hn,hlen⟩:=gn b a nm rfl;have hr:∀p∈nm,bU p.1.1=some (.dict (fV p.1.2)):=λp hp=>K3 _ _ (L.rf _ (hn p hp)) (by exact nn)
   kd_p;refine bQ ?_;kd_p
   (refine ag ?_)
   kd_p;refine jB (cl:=[]) (closureFor_none (by decide)) (by decide) rfl (by decide) (λ_ h=>nomatch h) (by decide) (λ_ _ h=>nomatch h) ?_ (hr:=xB)
   kd_p;refine⟨_,_,[],dN hx,(λ_ _ h=>nomatch h),λC=>?_⟩
   refine jV (λvs acc ρ af=>∃ds rs:Named,nm=ds++rs/\vs=d8 rs/\acc=vG ds/\af=bU) ?_ ?_ ?_ _ _ _ _ ⟨[],nm,rfl,rfl,rfl,rfl⟩
   ·rintro vs acc ρ af ⟨ds,rs,e1,e2,e3,rfl⟩
    exact hx
   ·rintro v vs acc ρ af ⟨ds,rs,e1,e2,e3,rfl⟩
    cases rs with
    | nil=>cases e2
    | cons p rs=>
     have e2:v::vs=.tup [fh p.1,.str p.2]::d8 rs:=e2;rw[List.cons.injEq]at e2;obtain⟨rfl,rfl⟩:=e2;have Ig:acc.length<=1000000:=by rw[e3];have:=congrArg List.length e1;simp[vG]at this ⊢;exact bD (.f .A (.a .B (.a .C .O)) (.l .D (.k 900) (.l .A .D (.g .B (.k 1000000))))) rfl this hl hlen
     kd_p;refine ax cr (ez) (hr p (by rw[e1];exact iy)) (v:=.str p.1.2) rfl (ia _) ?_
     kd_p;exact⟨Ig,(λ_ h=>nomatch h),ds++[p],rs,by rw[e1];exact(List.append_assoc _ [_] _).symm,rfl,by rw[e3];exact I0.symm,rfl⟩
   ·rintro acc ρ af ⟨ds,rs,e1,e2,e3,rfl⟩ y hy
    have:rs=[]:=by cases rs with | nil=>rfl | cons p rs=>cases e2
    subst this;rw[List.append_nil]at e1;subst e1;kd_p;have co:=(bt).1;have H3:=H2.new (o:=.list acc) hy;refine ax co (dz) H3.host.h rfl (c5 _) ?_;kd_p;refine ax co (cf) H3.host.h rfl (bW _) ?_;kd_p;refine q _ _ ⟨_,al,.met y ?_ (oQ (λx m=>by obtain⟨o,e⟩:=hD x m;exact⟨o,K3 _ _ e (by exact nn)⟩) hy),H3.host.l,oQ hD rM⟩ (K3.trans (Kept.new hy))
    rw[e3];exact AH.aa _ _ _
end
end
section
noncomputable def kq:Rp->Bool
 | .cut=>true | .err _=>false | .none=>false | .met .. =>false
section
variable{n:NX}{env:Env}{ρ:Loc}{σ:AH}{Q:V->Loc->AH->Prop}
theorem yw(b:Bool):(wN b==(22:Int))=false:=by cases b<;>rfl
theorem pF{D:List Addr}{R:Rp}{f:V}(h:d7 D σ R f)(q:Q (.bool (kq R)) ρ σ):iI n env (compareOp .Eq) f (.int 22) ρ σ Q:=by
 cases h with
 | cut=>exact By q
 | @err b=>refine By ?_;rw[yw];exact q
 | none=>exact iu (λA s u v hA S r1 r2=>by
   obtain rfl:=r1.none_inv;obtain⟨t,rfl⟩:=r2.int_inv;exact .none_int _ _) q
 | met y hy _=>exact iu (λA s u v hA S r1 r2=>by
   obtain⟨a,vs,m,rfl,ht,hs⟩:=r1.cR;obtain⟨t,rfl⟩:=r2.int_inv;exact .tuple_int _ _ ⟨_,ht,rfl,_,rfl⟩ hA.TC) q
theorem m5{a b:V}{k:Bool}(h:∀A s u v,fp env A n->St s.heap σ->ay s.heap u a->ay s.heap v b->SeqAt.RcNeAt A s u v k)(q:Q (.bool k) ρ σ):iI n env (compareOp .NotEq) a b ρ σ Q:=λu v A s hA S F r=>
 cmp_ofNotEq (h A s u v hA S r.1 r.2 _ _ _ _ (aR.bP (tk:=s.toks) S F (.bool _) q))
theorem kK{a b:Int}(q:Q (.bool (!(a==b))) ρ σ):iI n env (compareOp .NotEq) (.int a) (.int b) ρ σ Q:=m5 (λA s u v hA S r1 r2=>by
 obtain⟨t,rfl⟩:=r1.int_inv;obtain⟨t',rfl⟩:=r2.int_inv;exact .int_int _ _ _ _) q
theorem uA{D:List Addr}{R:Rp}{f:V}(h:d7 D σ R f)(q:Q (.bool (!kq R)) ρ σ):iI n env (compareOp .NotEq) f (.int 22) ρ σ Q:=by
 cases h with
 | cut=>exact kK q
 | @err b=>refine kK ?_;rw[yw];exact q
 | none=>exact m5 (λA s u v hA S r1 r2=>by
   obtain rfl:=r1.none_inv;obtain⟨t,rfl⟩:=r2.int_inv;exact .none_int _ _) q
 | met y hy _=>exact m5 (λA s u v hA S r1 r2=>by
   obtain⟨a,vs,m,rfl,ht,hs⟩:=r1.cR;obtain⟨t,rfl⟩:=r2.int_inv;exact .tuple_int _ _ ⟨_,ht,rfl,_,rfl⟩ hA.TC) q
theorem md:∀{l:List V},(∀x∈l,g9 x)->fq σ 7 l l
 | [],_=>.nil
 | x::l,h=>by
  refine .cons ?_ (md λy m=>h y (.tail _ m))
  cases h x (.head _) with
  | str k t=>exact .tup (.cons (.str _) (.cons (.str _) .nil))
  | int k i=>exact .tup (.cons (.str _) (.cons (.int _) .nil))
theorem sm:∀(l:Named),fq σ 6 (vG l) (vG l)
 | []=>.nil
 | p::l=>.cons (.tup (.cons (.str _) (.cons (.str _) .nil))) (sm l)
theorem d7.same{D:List Addr}{R:Rp}{f g:V}(h:d7 D σ R f)(k:d7 D σ R g):i8 σ 8 f g:=by
 cases h with
 | cut=>cases k;exact .int _
 | err=>cases k;exact .int _
 | none=>cases k;exact .none
 | met y hy _=>
  cases k with
  | met y2 Xh _=>exact .tup (.cons (.int _) (.cons (.int _) (.cons (.lst hy Xh (sm _)) .nil)))
theorem d7.kept{af:AH}{D:List Addr}{R:Rp}{f:V}(h:d7 D σ R f)(K:Kept σ af D):d7 D af R f:=by
 cases h with
 | cut=>exact .cut
 | err=>exact .err
 | none=>exact .none
 | met y hy ne=>exact .met y (K _ _ hy ne) ne
theorem jr.kept{af:AH}{D:List Addr}{R:Rp×HS}{v:V}(h:jr D σ R v)(K:Kept σ af D):jr D af R v:=by
 obtain⟨f,al,hf,hl,ne⟩:=h;exact⟨f,al,hf.kept K,K _ _ hl ne,ne⟩
end
section
variable{prog:Program}{w:World}{A:Around}{E:Value->Shared->Prop}{s:Shared}
theorem Bj:Builtin.Slice.sliceAdjust none (some 2) 1 3=(0,2):=by decide
theorem qo{sl:Addr}{u:Tok}{Q:Int×Int×Nat->Shared->Prop}(hs:s.heap.IsSliceOf sl .none (.int 2 u) .none)(h:Q (0,1,2) s):
  wpAny (model prog w) A (Builtin.Slice.sliceApplied (.ref sl) (pure (3:Int))) Q E s:=by
 obtain⟨os,LW,GN,Ot⟩:=id hs;unfold Builtin.Slice.sliceApplied Builtin.Slice.sliceFields;refine wpAny_bind (wpAny_bind (wpAny_field LW Ot (x:=.none) rfl (wpAny_bind (wpAny_field LW Ot (x:=.int 2 u) rfl (wpAny_bind (wpAny_field LW Ot (x:=.none) rfl (wpAny_pure ?_)))))));refine wpAny_bind (slicePart_none ?_);show wpAny _ _ (if ((1:Int)==0)=true then _ else _) _ _ s
 rw[if_neg (by decide)]
 refine wpAny_bind (slicePart_none (wpAny_bind (slicePart_int (wpAny_bind (wpAny_pure ?_)))));show wpAny _ _ (match Builtin.Slice.sliceAdjust none (some 2) 1 3 with | (lo,hi)=>pure (lo,(1:Int),Builtin.Slice.slicePlaces lo hi 1)) _ _ s
 rw[Bj];exact wpAny_pure h
theorem ou{t sl:Addr}{a b c:Value}{u:Tok}{Q:Value->Shared->Prop}(ht:IsTup s.heap t #[a,b,c])(hs:s.heap.IsSliceOf sl .none (.int 2 u) .none)
  (h:Q (.ref s.heap.objs.size) { s with heap:=s.heap.push { cls:=.type "tuple",data:=.seq #[a,b] } }):wpAny (model prog w) A (getItem (.ref t) (.ref sl)) Q E s:=by
 have yH:sizeOk (.seq #[a,b]):=by show 2<=sizeLine;decide
 obtain⟨os,LW,GN,Ot⟩:=id hs;have Wn:s.TypeIs (.ref sl) "slice":=⟨os,LW,GN⟩;unfold getItem
 try with_reducible refine wpAny_holding ?_
 first | refine wpAny_bind (wpAny_pure ?_) | skip
 refine wpAny_bind (wpAny_sequenceKey ht.typeIs (by decide) ?_)
 refine wpAny_bind (wpAny_callSpecial?_slot (name:=Str.ofString "__getitem__") ht.typeIs slot_tuple_getitem
  (wpAny_call_entry slot_tuple_getitem ht.typeIs entry_tuple_getitem ?_ (args_tuple_getitem _ _)))
 show wpAny _ _ (Builtin.Tuple.tupleItemsOf (.ref t) >>=_) _ _ s;refine wpAny_bind (tupleItemsOf_ ht ?_);refine wpAny_bind (wpAny_typeOf Wn ?_);rw[if_pos (by decide)]
 refine wpAny_bind (qo hs ?_);show wpAny _ _ (if ((0:Int)==0&&(1:Int)==1&&(2:Nat)==3)=true then _ else _) _ _ s
 rw[if_neg (by decide)]
 have e:(((List.range 2).filterMap λ(k:Nat)=>(#[a,b,c]:Array Value)[((0:Int)+(k:Int)*1).toNat]?).toArray)= #[a,b]:=rfl
 rw[e]
 first
  | exact wpAny_bind (m:=Builtin.Tuple.tupleExact _) (wpAny_newObj_type (wpAny_pure ⟨_,rfl,wpAny_pure h⟩) yH)
  | exact wpAny_bind (m:=Builtin.Tuple.tupleExact _) (wpAny_newObj_type (wpAny_bind (wpAny_pure (wpAny_pure ⟨_,rfl,wpAny_pure h⟩))) yH)
  | exact wpAny_bind (wpAny_bind (m:=Builtin.Tuple.tupleExact _) (wpAny_newObj_type (wpAny_pure (wpAny_pure ⟨_,rfl,wpAny_pure h⟩)) yH))
  | exact wpAny_bind (wpAny_bind (m:=Builtin.Tuple.tupleExact _) (wpAny_newObj_type (wpAny_pure ⟨_,rfl,wpAny_pure h⟩) yH))
end
section
variable{n:NX}{env:Env}{ρ:Loc}{σ:AH}{Q:V->Loc->AH->Prop}
theorem y8{value slice:Expr}{x y z:V}(q:Q (.tup [x,y]) ρ σ)
  (hs:autoParam (∀o i,∃ops,subscripted slice false o i=operate ops (getItem o i)) Gy):DM n env value slice (.tup [x,y,z]) none (some 2) none ρ σ Q:=λA s w sl vl vu vk hA S F r Dz pl pu pk=>by
 obtain⟨a,vs,m,rfl,ht,rs⟩:=ay.cR r;obtain⟨ops,ho⟩:=hs (.ref a) (.ref sl);cases pl;cases pk;cases pu with
 | int u t=>
 obtain⟨l⟩:=vs;cases rs with
 | cons r1 rs=>cases rs with
  | cons r2 rs=>cases rs with
   | cons r3 rs=>
    cases rs;refine tail_any (IsTup.typeIs ⟨_,ht,rfl,_,rfl⟩) slot_tuple_getitem.lookup (ou ⟨_,ht,rfl,_,rfl⟩ Dz ?_) ho;refine aR.extend S F (aO _) (push_size _) (.tup (IsT.new _ _) (.cons (r1.keep λb o e _=>aO _ b o e) (.cons (r2.keep λb o e _=>aO _ b o e) .nil))) q
end
end
section
noncomputable def eV:Scope:=aj (cP 96)
noncomputable def du(L a:Addr)(cd:Value):Env:=envOfC "law" eV L a cd
theorem jZ(L a:Addr)(cd:Value):(du L a cd).cells=[(("well":Str),L+1)]:=by with_unfolding_all rfl
theorem Cn(L a:Addr)(cd:Value):(du L a cd).kindOf "well"=some .cell:=by with_unfolding_all rfl
structure Bg(B:Bx)(oa ca:Addr)(D:List Addr):Prop where
 ka:B.ka∉D
 ar:B.ar∉D
 rf:∀r∈B.refs,r.1∉D
 dp:B.dp∉D
 oa:oa∉D
 ca:ca∉D
structure sN(B:Bx)(n:Nd)(oa fa ca wa:Addr)(t:Nat)(ws:List V)(σ:AH):Prop where
 L:JH B σ
 o:σ oa=some (.list ((codeOf n).map Ord.v))
 F:eR σ fa ca t
 w:σ wa=some (.list ws)
 nw:fa≠wa
section
variable{B:Bx}{n:Nd}{oa fa ca wa:Addr}{t t':Nat}{ws:List V}{σ af:AH}
theorem sN.BB(W:sN B n oa fa ca wa t ws σ)(O:Bg B oa ca [wa,fa])(K:Kept σ af [fa])(F:eR af fa ca t'):sN B n oa fa ca wa t' ws af:=by
 have o:∀{x:Addr},x∉[wa,fa]->x∉[fa]:=λh=>by rw[oy]at h;rw[gg];exact h.2
 exact⟨⟨K _ _ W.L.ka (o O.ka),K _ _ W.L.ar (o O.ar),λr h=>K _ _ (W.L.rf r h) (o (O.rf r h)),K _ _ W.L.pat (o O.dp)⟩,K _ _ W.o (o O.oa),F,K _ _ W.w (by rw[gg];exact W.nw.symm),W.nw⟩
theorem sN.kept(W:sN B n oa fa ca wa t ws σ)(K:Kept σ af []):sN B n oa fa ca wa t ws af:=⟨W.L.kept K,K _ _ W.o (by exact nn),W.F.kept K,K _ _ W.w (by exact nn),W.nw⟩
theorem sN.add(W:sN B n oa fa ca wa t ws σ)(O:Bg B oa ca [wa,fa]){ws':List V}:sN B n oa fa ca wa t ws' (σ.put wa (.list ws')):=by
 have K:Kept σ (σ.put wa (.list ws')) [wa]:=Kept.put (by exact .head _)
 have o:∀{x:Addr},x∉[wa,fa]->x∉[wa]:=λh=>by rw[oy]at h;rw[gg];exact h.1
 refine⟨⟨K _ _ W.L.ka (o O.ka),K _ _ W.L.ar (o O.ar),λr h=>K _ _ (W.L.rf r h) (o (O.rf r h)),K _ _ W.L.pat (o O.dp)⟩,K _ _ W.o (o O.oa),?_,AH.aa _ _ _,W.nw⟩
 obtain⟨turn,cells,h1,h2,h3,h4,h5⟩:=W.F.ex;exact⟨turn,cells,K _ _ h1 (by rw[gg];exact W.nw),K _ _ h2 (o O.ca),h3,h4,h5⟩
theorem sN.live(W:sN B n oa fa ca wa t ws σ):∀x∈[wa,fa],∃o,σ x=some o:=λx m=>by
 simp only[List.mem_cons,List.not_mem_nil,or_false]at m;rcases m with rfl | rfl
 ·exact⟨_,W.w⟩
 ·obtain⟨turn,cells,h1,_⟩:=W.F.ex;exact⟨_,h1⟩
theorem k0{D:List Addr}(K:Kept σ af []):Kept σ af D:=λb o e _=>K b o e nn
theorem Mg(K:Kept σ af [fa]):Kept σ af [wa,fa]:=λb o e h=>K b o e (by rw[oy]at h;rw[gg];exact h.2)
theorem U9{o:AO}:Kept σ (σ.put wa o) [wa,fa]:=Kept.put (by exact .head _)
end
inductive LB(B:Bx)(n:Nd)(an:Bool)(oa fa wa:Addr)(ρ:Loc):Prop
 | mk(l1:at_ ρ "orders"=some (.lst oa))(l2:at_ ρ "node"=some n.v)(l3:at_ ρ "subject"=some (.str B.C.s))(l4:at_ ρ "is_anchored"=some (.bool an))(l5:at_ ρ "kept"=some (.qD B.ka))(l6:at_ ρ "refused"=some (.lst B.ar))(l7:at_ ρ "ways"=some (.lst wa))(l8:at_ ρ "well"=some (.lst fa))
noncomputable def sW(s:Stmt):List Stmt:=if h:s.ctorIdx=9 then Stmt.For.elim (motive_2:=λ_=>List Stmt) s h λ_ _ b _ _=>b else []
noncomputable def IH:List Stmt:=sW (((aM (cP 96)).drop 8).headD (.Pass default))
noncomputable def PT:List Stmt:=sW ((IH.drop 5).headD (.Pass default))
noncomputable def Hh:List Stmt:=sW ((IH.drop 7).headD (.Pass default))
noncomputable def toldOf(mk:Bool)(oa:Addr)(n:Nd):V:=if mk=true then .lst oa else n.v
inductive LT(B:Bx)(n:Nd)(an mk:Bool)(oa fa wa:Addr)(v0:V)(ρ:Loc):Prop
 | mk(lb:LB B n an oa fa wa ρ)(m1:at_ ρ "is_made"=some (.bool mk))(m2:at_ ρ "told"=some (toldOf mk oa n))(m3:at_ ρ "whole"=some v0)
section
variable{B:Bx}{n:Nd}{oa fa ca wa:Addr}{t:Nat}{ws:List V}{σ:AH}{an mk:Bool}{L a:Addr}{cd:Value}
theorem tQ{Q:V->AH->Prop}{lim:Nat}(O:wb B)(N:fF B.refs n)(hz:n.size<=1000)(W:sN B n oa fa ca wa t ws σ)(hl:lim<=900)(q:∀v af,jr [wa,fa] af (bC B.C n mk an lim B.h0) v->Kept σ af []->Q v af):
  aU 13 (.ref 661) [.bool mk,toldOf mk oa n,.str B.C.s,.bool an,.qD B.ka,.lst B.ar,.int lim] σ Q:=Jy W.live O N hz hl W.L mk (λ_=>W.o) q
set_option tactic.hygienic true in
theorem Nt{S m k:Nat}{al:Addr}{f:V}{ρ:Loc}{Q:Fl->Loc->AH->Prop}(O:wb B)(N:fF B.refs n)(hz:n.size<=1000)(W:sN B n oa fa ca wa t ws σ)(lt:LT B n an mk oa fa wa (.tup [f,.lst al,.int S]) ρ)(l9:at_ ρ "most"=some (.int m))(Va:at_ ρ "many"=some (.int k))
  (rM:σ al=some (.list (bC B.C n mk an 36 B.h0).2.log)) (eS:(bC B.C n mk an 36 B.h0).2.steps=S) (hm:m<S) (Xk:(bC B.C n mk an 36 B.h0).2.log.length<=1000000) (hk:k<=(bC B.C n mk an m B.h0).2.log.length)
  (q:∀ρ' af,LT B n an mk oa fa wa (.tup [f,.lst al,.int S]) ρ'->at_ ρ' "many"=some (.int (bC B.C n mk an m B.h0).2.log.length)->at_ ρ' "steps"=at_ ρ "steps"->Kept σ af []->Q .next ρ' af):
  b8 (nx 14) (du L a cd) PT ρ σ Q:=by
 subst eS;have hle:m<=36:=by
  have u:=td (gc B.C n mk) (h0:=B.h0) (m:=if an then 0 else B.C.s.length) rfl
  have c:=yO (gc B.C n mk) (h0:=B.h0) (m:=if an then 0 else B.C.s.length) rfl
  by_cases z:(bC B.C n mk an 36 B.h0).1=.cut
  ·have:=c z;unfold bC at hm;exact aH (.t .A .B (.e .B (.k 37) (.g .A (.k 36)))) rfl hm this
  ·have:=(u z).2;unfold bC at hm;exact aH (.t .A .B (.l .B (.k 36) (.g .A (.k 36)))) rfl hm this
 obtain⟨ec,st,e,el,ll⟩:=u5 (gc B.C n mk) (h0:=B.h0) (m:=if an then 0 else B.C.s.length) rfl rfl hm
 have gp:=kP B.C n mk an m B.h0 (λx h=>nomatch (show x∈([]:List V) from h))
 have go:=λ{Q:V->AH->Prop}=>tQ (mk:=mk) (an:=an) (lim:=m) (Q:=Q) O N hz W (by exact aG (.l .A (.k 36) (.g .A (.k 900))) rfl hle)
 have ec:(bC B.C n mk an m B.h0).1=.cut:=ec;have st:(bC B.C n mk an m B.h0).2.steps=m+1:=st;have el:(bC B.C n mk an 36 B.h0).2.log=(bC B.C n mk an m B.h0).2.log++e:=el;have ll:(bC B.C n mk an m B.h0).2.log.length<=m:=ll;revert go ec st el ll gp q hk rM lt Xk;generalize bC B.C n mk an 36 B.h0=R0;generalize bC B.C n mk an m B.h0=R;intro rM Xj hk lt q gp go ec st el ll;obtain⟨⟨l1,l2,l3,l4,l5,l6,l7,l8⟩,m1,m2,m3⟩:=lt;refine' jU (ρ':=ρ) ?_ rfl ?_;rotate_left
 ·wtm_at "b"
 (refine au (aA ?_ rfl rfl))
 refine aF ?_;kd_p;refine aU.call ((go λv aI T K=>?_).less (by decide))
 obtain⟨f1,PA,hf,Ep,ne⟩:=T;rw[ec]at hf;cases hf;kd_p;have zG:=K _ _ rM (by exact nn)
 have QY:R.2.log.length<=36:=by exact aH (.l .A (.k 36) (.l .B .A (.g .B (.k 36)))) rfl hle ll
 refine bh ?_;kd_p;refine aN Ep (by exact aG (.l .A (.k 36) (.g .A (.k 1000000))) rfl QY) ?_
 kd_p;refine y9 (k:=R.2.log.length) zG Xj (by rw[el,List.length_append];exact Fc) rfl λD hD=>?_
 have eD:R0.2.log.take R.2.log.length=R.2.log:=by rw[el];exact List.take_left' rfl
 rw[eD];kd_p;have e1:((R.2.steps:Nat):Int)=(m:Int)+1:=by exact(UY (Nat.le_antisymm (aH (.e .A (.a .B .O) (.g .A (.a .B .O))) rfl st) (aH (.f .A (.a .B .O) (.g (.a .B .O) .A)) rfl st)))
 rw[e1];refine nS (.tup (.cons (.int _) (.cons (.lst (by rw[AH.ae _ _ (ne_sn Ep hD)];exact Ep) (AH.aa _ _ _) (md gp)) (.cons (.int _) .nil)))) ?_
 have K2:Kept σ (aI.put D (.list R.2.log)) []:=K.trans (Kept.new hD);have Er:(aI.put D (.list R.2.log)) PA=some (.list R.2.log):=by rw[AH.ae _ _ (ne_sn Ep hD)];exact Ep
 revert K2 Er;generalize aI.put D (.list R.2.log)=bU;intro K2 Er;kd_p;refine bh ?_;kd_p;refine aN Er (by exact aG (.l .A (.k 36) (.g .A (.k 1000000))) rfl QY) ?_
 kd_p
 try rw[decide_eq_true (show(k:Int)<=(R.2.log.length:Nat) by exact(qW (jg hk)))]
 kd_p;rw[decide_eq_true (show((R.2.log.length:Nat):Int)<=(m:Int) by exact(qW (jg ll)))]
 kd_p
 (refine aA ?_ rfl rfl)
 refine bh ?_;kd_p;refine aN Er (by exact aG (.l .A (.k 36) (.g .A (.k 1000000))) rfl QY) ?_
 kd_p;exact q _ bU ⟨⟨by wtm_at "a",by wtm_at "a",by wtm_at "a",by wtm_at "a",by wtm_at "a",by wtm_at "a",by wtm_at "a",by wtm_at "a"⟩,by wtm_at "a",by wtm_at "a",by wtm_at "a"⟩ (by wtm_at "a") rfl K2
set_option tactic.hygienic true in
theorem JB{m:Nat}{v0:V}{ρ:Loc}{Q:Fl->Loc->AH->Prop}(O:wb B)(N:fF B.refs n)(hz:n.size<=1000)(W:sN B n oa fa ca wa t ws σ)(lt:LT B n an mk oa fa wa v0 ρ)(l9:at_ ρ "most"=some (.int m))(hm:m<=900)
  (hT:jr [wa,fa] σ (bC B.C n mk an 36 B.h0) v0) (he:bC B.C n mk an m B.h0=bC B.C n mk an 36 B.h0)
  (q:∀ρ' af,LT B n an mk oa fa wa v0 ρ'->Kept σ af []->Q .next ρ' af):
  b8 (nx 14) (du L a cd) Hh ρ σ Q:=by
 have gp:=kP B.C n mk an 36 B.h0 (λx h=>nomatch (show x∈([]:List V) from h))
 have go:=λ{Q:V->AH->Prop}=>tQ (mk:=mk) (an:=an) (lim:=m) (Q:=Q) O N hz W hm
 rw[he]at go;revert go gp hT;generalize bC B.C n mk an 36 B.h0=R;intro hT gp go;obtain⟨⟨l1,l2,l3,l4,l5,l6,l7,l8⟩,m1,m2,m3⟩:=lt;refine' jU (ρ':=ρ) ?_ rfl ?_;rotate_left
 ·wtm_at "b"
 kd_p;refine aF ?_;kd_p;refine aU.call ((go λv aI T K=>?_).less (by decide))
 have Wm:=hT.kept (k0 K);obtain⟨f,al,hf,hl,ne⟩:=Wm;obtain⟨f2,Ud,uL,Er,ne2⟩:=T;kd_p;refine nS (.tup (.cons (uL.same hf) (.cons (.lst Er hl (md gp)) (.cons (.int _) .nil)))) ?_;kd_p;exact q _ aI ⟨⟨by wtm_at "a",by wtm_at "a",by wtm_at "a",by wtm_at "a",by wtm_at "a",by wtm_at "a",by wtm_at "a",by wtm_at "a"⟩,by wtm_at "a",by wtm_at "a",by wtm_at "a"⟩ K
end
end
section
noncomputable def De:List Str:=["orders","node","subject","is_anchored","kept","refused","ways","well","is_made","told","whole"]
section
variable{B:Bx}{n:Nd}{oa fa ca wa:Addr}{t:Nat}{ws:List V}{σ:AH}{an mk:Bool}{L a:Addr}{cd:Value}
inductive CJ(B:Bx)(n:Nd)(an mk:Bool)(oa fa wa:Addr)(v0:V)(S:Nat)(ba:AH)(vs:List V)(ρ:Loc)(σ:AH):Prop
 | mk (ms:List Nat) (k:Nat) (ev:vs=ms.map λm=>.int (m:Nat)) (so:ms.Pairwise (· <= ·)) (hm:∀m∈ms,m<S/\k<=(bC B.C n mk an m B.h0).2.log.length) (lt:LT B n an mk oa fa wa v0 ρ) (l1:at_ ρ "many"=some (.int k)) (l2:at_ ρ "steps"=some (.int S)) (K:Kept ba σ [])
theorem LT.add{v0 v:V}{ρ:Loc}{x:Str}(h:LT B n an mk oa fa wa v0 ρ)(hx:De.contains x=false):LT B n an mk oa fa wa v0 ((x,v)::ρ):=by
 have z:∀{y:Str}{u:V},De.contains y=true->at_ ρ y=some u->at_ ((x,v)::ρ) y=some u:=λ{y u} hy e=>by
  unfold at_ at e ⊢;rw[List.lookup_cons];have:(y==x)=false:=by
   rw[beq_eq_false_iff_ne];rintro rfl;rw[hx]at hy;cases hy
  rw[this];exact e
 obtain⟨⟨l1,l2,l3,l4,l5,l6,l7,l8⟩,m1,m2,m3⟩:=h;exact⟨⟨z (by decide) l1,z (by decide) l2,z (by decide) l3,z (by decide) l4,z (by decide) l5,z (by decide) l6,z (by decide) l7,z (by decide) l8⟩,z (by decide) m1,z (by decide) m2,z (by decide) m3⟩
set_option tactic.hygienic true in
theorem zc{v0:V}{p:Pos}{ms:List Nat}{ρ:Loc}{ba:AH}{G:AH->Prop}{Q:Fl->Loc->AH->Prop}(O:wb B)(N:fF B.refs n)(hz:n.size<=1000)(hG:∀af,Kept σ af []->G af)(GS:∀m∈ms,m<=900/\bC B.C n mk an m B.h0=bC B.C n mk an 36 B.h0)
  (lt:LT B n an mk oa fa wa v0 ρ) (W:sN B n oa fa ca wa t ws σ) (T:jr [wa,fa] σ (bC B.C n mk an 36 B.h0) v0) (K:Kept ba σ [wa,fa])
  (q:∀ρ' af,LB B n an oa fa wa ρ'->sN B n oa fa ca wa t ws af->jr [wa,fa] af (bC B.C n mk an 36 B.h0) v0->Kept ba af [wa,fa]->Q .next ρ' af):
  ug (nx 14) (du L a cd) (.Name "most" p) Hh [] G (ms.map λm=>.int (m:Nat)) ρ σ Q:=by
 refine dM (λvs ρ' af=>∃Ha:List Nat,vs=Ha.map (λm=>.int (m:Nat))/\(∀m∈Ha,m∈ms)/\LT B n an mk oa fa wa v0 ρ'/\Kept σ af []) ?_ ?_ ?_ _ _ _ ⟨ms,rfl,λ_ h=>h,lt,Kept.refl _ _⟩
 ·rintro vs ρ' af ⟨Ha,ev,hm,lt,K'⟩
  exact hG _ K'
 ·rintro v vs ρ' af ⟨Ha,ev,hm,lt,K'⟩
  cases Ha with
  | nil=>cases ev
  | cons m Ha=>
   rw[List.map_cons,List.cons.injEq]at ev;obtain⟨rfl,rfl⟩:=ev;obtain⟨h1,h2⟩:=GS m (hm m (.head _));refine ft rfl ?_;exact JB O N hz (W.kept K') (lt.add rfl) (by wtm_at "a") h1 (T.kept (k0 K')) h2 λd5 bU Xr K2=>⟨Ha,rfl,λx h=>hm x (.tail _ h),Xr,K'.trans K2⟩
 ·rintro ρ' af ⟨Ha,ev,hm,lt,K'⟩
  kd_p;obtain⟨lb,_,_,_⟩:=lt;exact q _ _ lb (W.kept K') (T.kept (k0 K')) (K.trans (k0 K'))
end
namespace lM
set_option tactic.hygienic true in
@[reducible] noncomputable def P(B:Bx)(n:Nd)(oa fa ca wa:Addr)(t:Nat)(ws:List V)(an:Bool)(L a:Addr)(cd:Value)(Q:Fl->Loc->AH->Prop):Prop:=∀{σ:AH}{mk:Bool}(O:wb B)(N:fF B.refs n)(hz:n.size<=1000)(Of:Bg B oa ca [wa,fa])(W:sN B n oa fa ca wa t ws σ)(hw:ws.length<=10)(ht:t<=900){ρ:Loc}(lb:LB B n an oa fa wa ρ)(lm:at_ ρ "is_made"=some (.bool mk))(q:∀ρ' af v,LB B n an oa fa wa ρ'->sN B n oa fa ca wa (t+2) (ws++[v]) af->jr [wa,fa] af (bC B.C n mk an 36 B.h0) v->Kept σ af [wa,fa]->Q .next ρ' af),b8 (nx 14) (du L a cd) IH ρ σ Q
noncomputable def Q_:=UU λB=>UU λn=>UU λoa=>UU λfa=>UU λca=>UU λwa=>UU λt=>UU λws=>UU λan=>UU λL=>UU λa=>UU (P B n oa fa ca wa t ws an L a)
noncomputable def x_:=xx Q_ (⟨(0:Nat),(0:Nat),(0:Nat),[],⟨"",[],.leaf .dZ⟩,.none⟩,.leaf .dZ,(0:Nat),(0:Nat),(0:Nat),(0:Nat),0,[],true,(0:Nat),(0:Nat),default,(λ_ _ _=>True))
def B:=x_.1
def n:=x_.2.1
def oa:=x_.2.2.1
def fa:=x_.2.2.2.1
def ca:=x_.2.2.2.2.1
def wa:=x_.2.2.2.2.2.1
def t:=x_.2.2.2.2.2.2.1
def ws:=x_.2.2.2.2.2.2.2.1
def an:=x_.2.2.2.2.2.2.2.2.1
def L:=x_.2.2.2.2.2.2.2.2.2.1
def a:=x_.2.2.2.2.2.2.2.2.2.2.1
def cd:=x_.2.2.2.2.2.2.2.2.2.2.2.1
def Q:=x_.2.2.2.2.2.2.2.2.2.2.2.2
set_option tactic.hygienic true in
theorem go:P B n oa fa ca wa t ws an L a cd Q:=by
 intro σ mk O N hz Of W hw ht ρ lb lm q;obtain⟨l1,l2,l3,l4,l5,l6,l7,l8⟩:=lb;have cut:=yO (gc B.C n mk) (h0:=B.h0) (m:=if an then 0 else B.C.s.length) rfl
 have Np:=td (gc B.C n mk) (h0:=B.h0) (m:=if an then 0 else B.C.s.length) rfl
 have grow:=λl g hl h=>Ck (l:=l) (g:=g) (gc B.C n mk) (h0:=B.h0) (m:=if an then 0 else B.C.s.length) rfl hl h
 have less:=λl hl=>u5 (l:=l) (gc B.C n mk) (h0:=B.h0) (m:=if an then 0 else B.C.s.length) rfl rfl hl
 have more:=λg h hl=>Co (g:=g) (gc B.C n mk) (h0:=B.h0) (m:=if an then 0 else B.C.s.length) rfl h hl
 have e0:∀l,places (Ob B.C n mk) l ((if an then 0 else B.C.s.length)+1) 0 B.h0=bC B.C n mk an l B.h0:=λ_=>rfl
 rw[e0]at cut Np;have zl:(bC B.C n mk an 36 B.h0).2.log.length<=1000000:=by
  obtain⟨e,el,l1,_,_⟩:=nZ (gc B.C n mk) (lim:=36) ((if an then 0 else B.C.s.length)+1) 0 B.h0 (Nat.zero_le _)
  rw[e0]at el l1;have:(bC B.C n mk an 36 B.h0).2.steps<=37:=by
   by_cases z:(bC B.C n mk an 36 B.h0).1=.cut
   ·have:=cut z;exact aG (.e .A (.k 37) (.g .A (.k 37))) rfl this
   ·have:=(Np z).2;exact aG (.l .A (.k 36) (.g .A (.k 37))) rfl this
  rw[el];show([]++e).length<=_;rw[List.nil_append];exact aX (.l (.a .A .B) .C (.l .C (.k 37) (.g .A (.k 1000000)))) rfl l1 this
 refine' jU (ρ':=ρ) ?_ rfl ?_;rotate_left
 ·wtm_at "b"
 refine au (Tr.mono (Q:=λfl bJ aI=>fl=.next/\aI=σ/\bJ=(("told",toldOf mk oa n)::ρ:Loc)) ?_ ?_)
 ·cases mk with
  | true=>
   show oq _ _ _ _ _ _
   (refine aA ?_ rfl rfl)
   kd_p;refine aY ?_;kd_p;exact⟨rfl,rfl,rfl⟩
  | false=>
   show oq _ _ _ _ _ _
   (refine aA ?_ rfl rfl)
   kd_p;refine aY ?_;kd_p;exact⟨rfl,rfl,rfl⟩
 rintro fl bJ aI ⟨rfl,rfl,rfl⟩;show b8 _ _ _ _ _ _;kd_p
 (refine aA ?_ rfl rfl)
 refine aF ?_;kd_p;refine aU.call ((tQ (mk:=mk) (an:=an) (lim:=36) O N hz W (by decide) λv bU T K=>?_).less (by decide))
 have W2:=W.kept K;have ta:∀{o},jr [wa,fa] (bU.put wa o) (bC B.C n mk an 36 B.h0) v:=λ{o}=>T.kept U9
 kd_p;refine aB ?_;kd_p;refine⟨_,bw PySem.F.slot_list_append PySem.F.type_list_append W2.w,az,?_⟩;kd_p;refine aZ W2.w (by exact aG (.l .A (.k 10) (.g .A (.k 1000000))) rfl hw) ?_
 have W3:=W2.add Of (ws':=ws++[v]);have T3:=ta (o:=.list (ws++[v]));have K3:Kept aI (bU.put wa (.list (ws++[v]))) [wa,fa]:=(k0 K).trans U9;revert W3 T3 K3;generalize bU.put wa (.list (ws++[v]))=fE;intro W3 T3 K3;clear W2 ta T K;have T4:=T3;obtain⟨f,al,hf,hl,ne⟩:=T4;generalize hS:(bC B.C n mk an 36 B.h0).2.steps=S at *;kd_p;refine gW (names:=["steps","many"]) ?_ rfl;kd_p;refine⟨_,rfl,rfl,?_⟩;refine bR rfl ?_;refine bR rfl ?_;show b8 _ _ _ _ _ _;refine au (Tr.mono (Q:=λ(fl:Fl) ρ' af=>fl=.next/\ρ'=(("steps",.int S)::("many",.int 0)::("whole",.tup [f,.lst al,.int S])::("told",toldOf mk oa n)::ρ:Loc)/\af=fE) ?_ ?_)
 ·show oq _ _ _ _ _ _
  cases hc:kq (bC B.C n mk an 36 B.h0).1 with
  | true=>
   have V6:S=37:=cut (by
    revert hc;cases (bC B.C n mk an 36 B.h0).1<;>intro hc<;>first | rfl | cases hc)
   subst V6;kd_p;refine pF hf ?_;rw[hc];kd_p;refine kK ?_;kd_p;refine uA hf ?_;rw[hc];kd_p;exact⟨rfl,rfl,rfl⟩
  | false=>
   have en:(bC B.C n mk an 36 B.h0).1≠.cut:=λz=>by rw[z]at hc;cases hc
   have u:=Np en;kd_p;refine pF hf ?_;rw[hc];kd_p;refine uA hf ?_;rw[hc];kd_p
   try rw[decide_eq_true (show(0:Int)<(S:Int) by exact(DA (aG (.t .Z .A (.b .Z .A)) rfl u.1)))]
   kd_p;rw[decide_eq_true (show(S:Int)<=36 by exact(qW (aG (.l .A (.k 36) (.g .A (.k 36))) rfl u.2)))]
   kd_p;exact⟨rfl,rfl,rfl⟩
 rintro fl ρ' af ⟨rfl,rfl,rfl⟩;have S0:0<S:=by
  cases hc:kq (bC B.C n mk an 36 B.h0).1 with
  | true=>
   have:=cut (by
    revert hc;cases (bC B.C n mk an 36 B.h0).1<;>intro hc<;>first | rfl | cases hc)
   exact aG (.f .A (.k 37) (.b .Z .A)) rfl this
  | false=>exact(Np λz=>by rw[z]at hc;cases hc).1
 have OJ:LT B n an mk oa fa wa (.tup [f,.lst al,.int S]) (("steps",.int S)::("many",.int 0)::("whole",.tup [f,.lst al,.int S])::("told",toldOf mk oa n)::ρ:Loc):=⟨⟨by wtm_at "a",by wtm_at "a",by wtm_at "a",by wtm_at "a",by wtm_at "a",by wtm_at "a",by wtm_at "a",by wtm_at "a"⟩,by wtm_at "a",by wtm_at "a",by wtm_at "a"⟩
 have Rc:at_ (("steps",.int S)::("many",.int 0)::("whole",.tup [f,.lst al,.int S])::("told",toldOf mk oa n)::ρ:Loc) "many"=some (.int (0:Nat)):=rfl;have Rj:at_ (("steps",.int S)::("many",.int 0)::("whole",.tup [f,.lst al,.int S])::("told",toldOf mk oa n)::ρ:Loc) "steps"=some (.int S):=rfl;revert OJ Rc Rj;generalize (("steps",.int S)::("many",.int 0)::("whole",.tup [f,.lst al,.int S])::("told",toldOf mk oa n)::ρ:Loc)=d5;intro OJ Rc Rj;have YG:at_ d5 "well"=some (.lst fa):=by obtain⟨⟨l1,l2,l3,l4,l5,l6,l7,l8⟩,_,_,_⟩:=OJ;exact l8
 show b8 _ _ _ _ _ _;refine au (fW ?_);refine aW ?_;refine cj ?_ rfl;refine aF ?_;kd_p;refine aU.call ((dP (m:=S) W3.F (by exact aG (.l .A (.k 900) (.g .A (.k 1000))) rfl ht) S0 λr ki hr F4 K4=>?_).less (by decide))
 kd_p;intro la zM;have W4:=W3.BB Of K4 F4;have T4:=T3.kept (Mg K4);have Lv:=Mg (wa:=wa) K4 _ _ hl ne;have TR:=K3.trans (Mg (wa:=wa) K4);have W5:=W4.kept (Kept.new (o:=.list [.int (r:Int),.int ((S:Int)-1)]) zM);have NP:=TR.trans (k0 (Kept.new (o:=.list [.int (r:Int),.int ((S:Int)-1)]) zM));have T5:=T4.kept (k0 (Kept.new (o:=.list [.int (r:Int),.int ((S:Int)-1)]) zM));have Ei:=Kept.new (D:=[wa,fa]) (o:=.list [.int (r:Int),.int ((S:Int)-1)]) zM _ _ Lv ne;have BP:=AH.aa ki la (.list [.int (r:Int),.int ((S:Int)-1)]);revert W5 NP T5 Ei BP;generalize AH.put ki la (.list [.int (r:Int),.int ((S:Int)-1)])=mK;intro W5 NP T5 Ei BP;clear zM W4 T4 Lv TR hl hf T3 W3 K3;refine⟨_,_,dN BP,?_⟩;refine dM (λvs ρ σ=>CJ B n an mk oa fa wa (.tup [f,.lst al,.int S]) S mK vs ρ σ) ?_ ?_ ?_ _ _ _ ?_
 ·rintro vs ρ Kf ⟨ms,k,ev,so,hm,lt,l1,l2,K⟩
  exact K _ _ BP (by exact nn)
 ·rintro v vs ρ Kf ⟨ms,k,ev,so,hm,lt,l1,l2,K⟩
  cases ms with
  | nil=>cases ev
  | cons m ms=>
   rw[List.map_cons,List.cons.injEq]at ev;obtain⟨rfl,rfl⟩:=ev;obtain⟨JR,Ir⟩:=hm m (.head _);rw[List.pairwise_cons]at so;refine ft rfl ?_;refine Nt O N hz (W5.kept K) (lt.add rfl) rfl (by wtm_at "a") (K _ _ Ei (by exact nn)) hS JR zl Ir λρ' af lt' Va Xn K'=>?_
   have lc:=less m (by rw[e0,hS];exact JR)
   obtain⟨ec,_,_,_,_⟩:=lc;refine⟨ms,_,rfl,so.2,λm' h'=>⟨(hm m' (.tail _ h')).1,?_⟩,lt',Va,?_,K.trans K'⟩
   ·exact grow m m' (so.1 m' h') ec
   ·rw[Xn];wtm_at "a"
 ·rintro ρ Kf ⟨ms,k,ev,so,hm,lt,l1,l2,K⟩
  have W6:=W5.kept K;have TU:=NP.trans (k0 K);have T6:=T5.kept (k0 K);clear W5 T5 NP Ei BP K hm so ev l1 cut;have lw:at_ ρ "well"=some (.lst fa):=by obtain⟨⟨l1,l2,l3,l4,l5,l6,l7,l8⟩,_,_,_⟩:=lt;exact l8
  have l3:at_ ρ "whole"=some (.tup [f,.lst al,.int S]):=by obtain⟨_,_,_,m3⟩:=lt;exact m3
  kd_p
  (refine aA ?_ rfl rfl)
  kd_p;refine aF ?_;kd_p;refine aU.call ((dP (m:=9) W6.F (by exact aG (.l .A (.k 900) (.g (.a .A .O) (.k 1000))) rfl ht) (by decide) λr9 Kg WY F7 K7=>?_).less (by decide))
  have W7:=W6.BB Of K7 F7;have TV:=TU.trans (Mg (wa:=wa) K7);have T7:=T6.kept (Mg K7);clear W6 T6 TU;kd_p;have WC:d7 [wa,fa] Kg (bC B.C n mk an 36 B.h0).1 f:=by cases T7;assumption
  refine fW ?_;kd_p;refine pF WC ?_;cases hc:kq (bC B.C n mk an 36 B.h0).1 with
  | true=>
   kd_p;refine aW ?_;kd_p;intro lx uN;refine⟨_,_,dN (AH.aa _ _ _),?_⟩;refine zc (ms:=[]) O N hz (G:=_) ?_ (λm h=>nomatch h) (lt.add rfl) (W7.kept (Kept.new uN)) (T7.kept (k0 (Kept.new uN))) (TV.trans (k0 (Kept.new uN))) λρ' af b W T K=>(by show b8 _ _ _ _ _ _;kd_p;exact q ρ' af _ b W T K)
   intro af K';exact K' _ _ (AH.aa _ _ _) (by exact nn)
  | false=>
   have en:(bC B.C n mk an 36 B.h0).1≠.cut:=λz=>by rw[z]at hc;cases hc
   have u:=Np en;kd_p;refine aW ?_;kd_p;intro lx uN;refine⟨_,_,dN (AH.aa _ _ _),?_⟩;have ev:([V.int (S:Int),V.int ((S:Int)+1+(r9:Int))]:List V)=[S,S+1+r9].map λm=>V.int (m:Nat):=by rfl
   rw[ev]at *;refine zc (ms:=[S,S+1+r9]) O N hz (G:=_) ?_ (λm h=>?_) (lt.add rfl) (W7.kept (Kept.new uN)) (T7.kept (k0 (Kept.new uN))) (TV.trans (k0 (Kept.new uN))) λρ' af b W T K=>(by show b8 _ _ _ _ _ _;kd_p;exact q ρ' af _ b W T K)
   ·intro af K'
    exact K' _ _ (AH.aa _ _ _) (by exact nn)
   ·simp only[List.mem_cons,List.not_mem_nil,or_false]at h
    have hm:S<=m/\m<=900:=by rcases h with rfl | rfl<;>first | exact⟨aG (.g .A .A) rfl,aG (.l .A (.k 36) (.g .A (.k 900))) rfl u.2⟩ | exact⟨aH (.g .A (.a (.a .A .O) .B)) rfl,aH (.l .A (.k 36) (.t .B (.k 9) (.g (.a (.a .A .O) .B) (.k 900)))) rfl u.2 WY⟩
    exact⟨hm.2,more m en (by rw[e0,hS];exact hm.1)⟩
 ·refine⟨[r,S-1],0,?_,?_,?_,OJ,Rc,Rj,Kept.refl _ _⟩
  ·have:(((S-1:Nat)):Int)=(S:Int)-1:=by exact Sv S0
   show _=[V.int (r:Int),V.int (((S-1:Nat)):Int)];rw[this]
  ·simp;exact aX (.t .A .B (.f (.a .C .O) .B (.g .A .C))) rfl hr (Nat.sub_add_cancel (EZ S0))
  ·intro m hm
   simp only[List.mem_cons,List.not_mem_nil,or_false]at hm;rcases hm with rfl | rfl
   ·exact⟨hr,Nat.zero_le _⟩
   ·exact⟨by exact aH (.e (.a .A .O) .B (.b .A .B)) rfl (Nat.sub_add_cancel (EZ S0)),Nat.zero_le _⟩
end lM
theorem JC{B:Bx}{n:Nd}{oa fa ca wa:Addr}{t:Nat}{ws:List V}{an:Bool}{L a:Addr}{cd:Value}{Q:Fl->Loc->AH->Prop}:lM.P B n oa fa ca wa t ws an L a cd Q:=xa (Q:=lM.Q_) lM.go (B,n,oa,fa,ca,wa,t,ws,an,L,a,cd,Q)
section
variable{B:Bx}{n:Nd}{oa fa ca wa:Addr}{t:Nat}{ws:List V}{σ:AH}{an mk:Bool}{L a:Addr}{cd:Value}
end
end
section
theorem Le{A B:Prop}(h:A):if true=(BoolOp.Or==BoolOp.Or) then A else B:=by rw[if_pos (by decide)];exact h
theorem Ld{A B:Prop}(h:B):if false=(BoolOp.Or==BoolOp.Or) then A else B:=by rw[if_neg (by decide)];exact h
section
variable{B:Bx}{n:Nd}{oa fa ca wa:Addr}{t:Nat}{σ:AH}{an:Bool}{L a:Addr}{cd:Value}
theorem wX(O:wb B)(N:fF B.refs n)(hz:n.size<=1000)(h1:kq (bC B.C n true an 36 B.h0).1=false)(h2:kq (bC B.C n false an 36 B.h0).1=false):Alike (bC B.C n true an 36 B.h0) (bC B.C n false an 36 B.h0):=by
 have c:∀{R:Rp},kq R=false->R≠.cut:=λh z=>by rw[z]at h;cases h
 have hm:(if an then 0 else B.C.s.length)<=B.C.s.length:=by split<;>first | exact z6 | exact aG (.g .A .A) rfl
 exact qi (F:=B.fx 0 0 0 36) (O.pk 0 0 0 36) N hz (l1:=36) (l2:=36) _ 0 B.h0 B.h0 (by show 0+((if an then 0 else B.C.s.length)+1)<=B.C.s.length+1;exact IT hm) rfl rfl (c h1) (c h2)
theorem JA(O:wb B)(N:fF B.refs n)(hz:n.size<=1000)(Of:Bg B oa ca [wa,fa])(W:sN B n oa fa ca wa t [] σ)(ht:t<=800){ρ:Loc}(lb:LB B n an oa fa wa ρ):
  b8 (nx 14) (du L a cd) ((aM (cP 96)).drop 8) ρ σ (λfl _ _=>fl=.ret (.bool true)):=by
 have turn:=λmk t ws σ ρ Q=>JC (mk:=mk) (t:=t) (ws:=ws) (σ:=σ) (ρ:=ρ) (Q:=Q) (L:=L) (a:=a) (cd:=cd) (an:=an) (n:=n) (B:=B) (oa:=oa) (fa:=fa) (ca:=ca) (wa:=wa) O N hz Of
 refine' jU (ρ':=ρ) ?_ rfl ?_;rotate_left
 ·wtm_at "b"
 refine au (fW ?_);kd_p;refine⟨_,_,Cd,?_⟩;have ad:∀{ρ:Loc}{v:V},LB B n an oa fa wa ρ->LB B n an oa fa wa (("is_made",v)::ρ):=λ{ρ v} ⟨l1,l2,l3,l4,l5,l6,l7,l8⟩=>⟨by wtm_at "a",by wtm_at "a",by wtm_at "a",by wtm_at "a",by wtm_at "a",by wtm_at "a",by wtm_at "a",by wtm_at "a"⟩
 refine⟨trivial,?_⟩;refine ft rfl ?_;refine turn true _ _ _ _ _ W (by decide) (by exact aG (.l .A (.k 800) (.g .A (.k 900))) rfl ht) (ad lb) (by wtm_at "a") λbJ aI v1 Vb W1 T1 K1=>?_
 refine⟨trivial,ft rfl ?_⟩;refine turn false _ _ _ _ _ W1 (by show 1<=10;decide) (by exact aG (.l .A (.k 800) (.g (.a .A (.k 2)) (.k 900))) rfl ht) (ad Vb) (by wtm_at "a") λd5 bU v2 Xp W2 T2 K2=>?_
 refine⟨trivial,?_⟩;have T1:=T1.kept K2;have al:=wX (an:=an) O N hz;have g2:=kP B.C n false an 36 B.h0 (λx h=>nomatch (show x∈([]:List V) from h))
 have hw:=W2.w;obtain⟨_,_,_,_,_,_,l7,_⟩:=Xp;clear turn W W1 K1 K2 ad lb Vb;revert T1 T2 al g2;generalize bC B.C n true an 36 B.h0=R1;generalize bC B.C n false an 36 B.h0=R2;intro T2 T1 al g2;obtain⟨f1,PA,yI,Ep,_⟩:=T1;obtain⟨f2,Ud,uL,Er,_⟩:=T2;have hw:bU wa=some (.list [.tup [f1,.lst PA,.int R1.2.steps],.tup [f2,.lst Ud,.int R2.2.steps]]):=hw;kd_p;refine kL ?_;refine iO ?_;kd_p;refine cz (j:=0) hw rfl rfl (by decide) ?_
 kd_p;refine pF yI ?_;cases h1:kq R1.1 with
 | true=>
  kd_p;refine Le ?_;rfl
 | false=>
  kd_p;refine Ld ?_;refine iO ?_;kd_p;refine cz (j:=1) hw rfl rfl (by decide) ?_
  kd_p;refine pF uL ?_;cases h2:kq R2.1 with
  | true=>
   kd_p;refine Le ?_;rfl
  | false=>
   obtain⟨e1,e2⟩:=al h1 h2;kd_p;refine Ld ?_;refine rF ?_;kd_p;refine cz (j:=0) hw rfl rfl (by decide) ?_
   kd_p;refine y8 ?_;kd_p;refine cz (j:=1) hw rfl rfl (by decide) ?_
   kd_p;refine y8 ?_;rw[e1]at yI;rw[e2]at Ep;refine uz (.tup (.cons (yI.same uL) (.cons (.lst Ep Er (md g2)) .nil))) ?_;kd_p;rfl
end
end
section
section
variable{σ:AH}{n:Nat}{ρ:Loc}
theorem CZ{n:NX}{Q:V->Loc->AH->Prop}{env:Env}{value slice:Expr}{a:Addr}{items:Array Value}{xs:List Int}{k:Nat}(ha:c.h0.IsList a items)(hi:∀h:Heap,aE h items.toList (xs.map V.int))(hz:xs.length<=1000000)
  (q:∀b,σ b=none->Q (.lst b) ρ (σ.put b (.list ((xs.take k).map V.int))))
  (hs:autoParam (∀o i,∃ops,subscripted slice false o i=operate ops (getItem o i)) Gy):DM n env value slice (.glob (.ref a)) none (some (k:Int)) none ρ σ Q:=λA s w sl vl vu vk hA S F r Dz pl pu pk=>by
 obtain rfl:=r.dB;obtain⟨ops,ho⟩:=hs (.ref a) (.ref sl);have kQ:s.heap.IsList a items:=ha.at λo e=>S.fP _ _ e
 have el:items.size=xs.length:=by have:=(hi s.heap).length;simpa using this
 refine tail_any kQ.typeIs slot_list_getitem.lookup (wpAny_getItem_list_slice (lo:=none) (hi:=some (k:Int)) (st:=none) kQ Dz pl pu pk (by decide) ?_ (by rw[el,sizeLine_eq];exact IL hz)) ho
 refine aR.new (a:=s.heap.objs.size) S F (aO _) (push_size _) (Nat.le_refl _) (.list (IsL.new _ _) ?_) (.lst _) (q _ ?_)
 ·rw[slicePick_upto',List.map_take];exact(hi _).take k
 ·cases z:σ s.heap.objs.size with
  | none=>rfl
  | some ao=>obtain⟨ob,e1,_⟩:=(S.objs _ _ z).at;exact absurd (Heap.lt_size e1) (Nat.lt_irrefl _)
theorem Ec{S:Str}(hS:S.length=4){r:Nat}(hr:r<4):∃d,S.cps.toList[r]? =some d:=by
 have:S.cps.toList.length=4:=by rw[Array.length_toList];exact hS
 exact⟨_,List.getElem?_eq_getElem (by exact aH (.t .A (.k 4) (.f .B (.k 4) (.b .A .B))) rfl hr this)⟩
noncomputable def rZ:Scope:={ kind:=ScopeKind.function,names:=[(Str.ofString ".0",NameKind.local),(Str.ofString "turn",NameKind.local),(Str.ofString "_law_dipped",NameKind.globalImplicit),(Str.ofString "well",NameKind.free)],isGenerator:=false,isCoroutine:=false }
end
namespace iJ
@[reducible] noncomputable def P(σ:AH)(n:Nat)(ρ:Loc)(Q:V->Loc->AH->Prop)(L a:Addr)(cd:Value)(S:Str)(fa ca:Addr)(t:Nat)(p1 p2 p3 p4 p5 p6 p7 p8:Pos):Prop:=∀(hS:S.length=4)(ht:t<=900){iter:Expr}(h:Ex (nx (n+1)) (du L a cd) iter ρ σ (λv bJ aI=>∃m:Nat,v=.Ag 0 m/\m<=4/\eR aI fa ca t/\at_ bJ "well"=some (.lst fa)/\∀(ss:List Str) af D,ss.length=m->(∀x∈ss,∃d∈S.cps.toList,x=⟨#[d]⟩)->eR af fa ca (t+m)->Kept aI af [fa]->af D=none->Q (.lst D) bJ (af.put D (.list (ss.map V.str)))))(hs:∀x,foldedSetIterable iter (du L a cd) x=Pure.pure x),Ex (nx (n+1)) (du L a cd) (.ListComp (.Subscript (.Constant (.str S) 0 p1) (.Call (.Name "_law_dipped" p2) [.Name "well" p3,.Constant (.int 4) 0 p4] [] p5) p6) [⟨.Name "turn" p7,iter,[],0⟩] rZ p8) ρ σ Q
noncomputable def Q_:=UU λσ=>UU λn=>UU λρ=>UU λQ=>UU λL=>UU λa=>UU λcd=>UU λS=>UU λfa=>UU λca=>UU λt=>UU λp1=>UU λp2=>UU λp3=>UU λp4=>UU λp5=>UU λp6=>UU (P σ n ρ Q L a cd S fa ca t p1 p2 p3 p4 p5 p6)
noncomputable def x_:=xx Q_ ((λ_=>none),0,[],(λ_ _ _=>True),(0:Nat),(0:Nat),default,"",(0:Nat),(0:Nat),0,default,default,default,default,default,default,default,default)
def σ:=x_.1
def n:=x_.2.1
def ρ:=x_.2.2.1
def Q:=x_.2.2.2.1
def L:=x_.2.2.2.2.1
def a:=x_.2.2.2.2.2.1
def cd:=x_.2.2.2.2.2.2.1
def S:=x_.2.2.2.2.2.2.2.1
def fa:=x_.2.2.2.2.2.2.2.2.1
def ca:=x_.2.2.2.2.2.2.2.2.2.1
def t:=x_.2.2.2.2.2.2.2.2.2.2.1
def p1:=x_.2.2.2.2.2.2.2.2.2.2.2.1
def p2:=x_.2.2.2.2.2.2.2.2.2.2.2.2.1
def p3:=x_.2.2.2.2.2.2.2.2.2.2.2.2.2.1
def p4:=x_.2.2.2.2.2.2.2.2.2.2.2.2.2.2.1
def p5:=x_.2.2.2.2.2.2.2.2.2.2.2.2.2.2.2.1
def p6:=x_.2.2.2.2.2.2.2.2.2.2.2.2.2.2.2.2.1
def p7:=x_.2.2.2.2.2.2.2.2.2.2.2.2.2.2.2.2.2.1
def p8:=x_.2.2.2.2.2.2.2.2.2.2.2.2.2.2.2.2.2.2
theorem go:P σ n ρ Q L a cd S fa ca t p1 p2 p3 p4 p5 p6 p7 p8:=by
 intro hS ht iter h hs;refine jB (cl:=[("well",L+1)]) (by with_unfolding_all rfl) (by decide) rfl (by decide) (λp hp=>?_) (by exact Ac) (λp hp hq=>?_) ?_ (hs:=hs)
 ·rw[List.mem_singleton]at hp;subst hp
  rw[jZ,Cn];exact⟨by rfl,by rfl,by with_unfolding_all rfl,.inl rfl⟩
 ·rw[jZ]at hp;exact hp
 refine Tr.mono h ?_;rintro v bJ aI ⟨m,rfl,hm,F1,hf,q⟩;refine⟨_,_,[("well",.lst fa)],pV (by exact(by decide)) (by exact(by decide)) (by exact iN) (by exact(qW (aG (.l .A (.k 4) (.g .A (.k 1000000))) rfl hm))),?_,λC=>?_⟩
 ·intro x v e
  rw[List.lookup_cons]at e;by_cases z:(x==("well":Str))=true
  ·have:=eq_of_beq z;subst this;rw[z]at e;exact⟨by rw[show List.lookup ("well":Str) bJ=_ from hf];exact e,by exact .head _⟩
  ·simp only[Bool.not_eq_true]at z;rw[z]at e;cases e
 have e0:dG 0 (m:Int)=(List.range' 0 m).map λi=>.int (i:Nat):=n7 m
 rw[e0];refine jV (λvs acc ρ' af=>∃b k,∃ss:List Str,vs=(List.range' b k).map (λi=>.int (i:Nat))/\acc=ss.map V.str/\ss.length+k=m/\(∀x∈ss,∃d∈S.cps.toList,x=⟨#[d]⟩)/\eR af fa ca (t+ss.length)/\Kept aI af [fa]/\at_ ρ' "well"=some (.lst fa)) (λ_ _ _ _ _=>trivial) ?_ ?_ _ _ _ _ ?_
 ·rintro v vs acc ρ' af ⟨b,k,ss,ev,ea,hk,h1,F,K,lf⟩
  cases k with
  | zero=>cases ev
  | succ k=>
   rw[List.range'_succ,List.map_cons,List.cons.injEq]at ev;obtain⟨rfl,rfl⟩:=ev;kd_p;refine aF ?_;kd_p;refine aU.call ((dP (m:=4) F (by exact bD (.e (.a .A (.a .B .O)) .C (.l .C (.k 4) (.l .D (.k 900) (.g (.a .D .A) (.k 1000))))) rfl hk hm ht) (by exact Sw ) λr bU hr F2 K2=>?_).less (by exact aG (.g .O (.a .A .O)) rfl))
   obtain⟨d,hd⟩:=Ec hS hr;refine iY (j:=r) rfl hd (by exact aG (.t .A (.k 4) (.b .A (.k 4611686018427387904))) rfl hr) ?_
   refine⟨by rw[ea,List.length_map];exact aX (.e (.a .A (.a .B .O)) .C (.l .C (.k 4) (.g .A (.k 1000000)))) rfl hk hm,?_,b+1,k,ss++[⟨#[d]⟩],rfl,by rw[ea];exact I0.symm,by rw[qc];exact Nat.le_antisymm (aX (.e (.a .A (.a .B .O)) .C (.g (.a (.a .A .O) .B) .C)) rfl hk) (aX (.f (.a .A (.a .B .O)) .C (.g .C (.a (.a .A .O) .B))) rfl hk),?_,?_,K.trans K2,?_⟩
   ·intro p hp v e
    rw[List.mem_singleton]at hp;subst hp;rw[show List.lookup ("well":Str) bJ=_ from hf]at e;cases e
    wtm_at "a"
   ·intro x hx
    rcases List.mem_append.mp hx with z | z
    ·exact h1 x z
    ·rw[List.mem_singleton]at z;subst z;exact⟨d,List.mem_of_getElem? hd,rfl⟩
   ·refine F2.less ?_;rw[qc];exact aH (.g (.a (.a .A .B) .O) (.a .A (.a .B .O))) rfl
   ·wtm_at "a"
 ·rintro acc ρ' af ⟨b,k,ss,ev,ea,hk,h1,F,K,lf⟩ D hD
  have k0:k=0:=by cases k with | zero=>rfl | succ k=>rw[List.range'_succ,List.map_cons]at ev;cases ev
  subst k0;subst ea;rw[Nat.add_zero]at hk;exact q ss af D hk h1 (by rw[<-hk];exact F) K hD
 ·exact⟨0,m,[],rfl,rfl,by simp,(λ_ h=>nomatch h),F1,Kept.refl _ _,by wtm_at "a"⟩
end iJ
theorem BC{σ:AH}{n:Nat}{ρ:Loc}{Q:V->Loc->AH->Prop}{L a:Addr}{cd:Value}{S:Str}(hS:S.length=4){fa ca:Addr}{t:Nat}(ht:t<=900){iter:Expr}{p1 p2 p3 p4 p5 p6 p7 p8:Pos}(h:Ex (nx (n+1)) (du L a cd) iter ρ σ (λv bJ aI=>∃m:Nat,v=.Ag 0 m/\m<=4/\eR aI fa ca t/\at_ bJ "well"=some (.lst fa)/\∀(ss:List Str) af D,ss.length=m->(∀x∈ss,∃d∈S.cps.toList,x=⟨#[d]⟩)->eR af fa ca (t+m)->Kept aI af [fa]->af D=none->Q (.lst D) bJ (af.put D (.list (ss.map V.str)))))(hs:autoParam (∀x,foldedSetIterable iter (du L a cd) x=Pure.pure x) NU):Ex (nx (n+1)) (du L a cd) (.ListComp (.Subscript (.Constant (.str S) 0 p1) (.Call (.Name "_law_dipped" p2) [.Name "well" p3,.Constant (.int 4) 0 p4] [] p5) p6) [⟨.Name "turn" p7,iter,[],0⟩] rZ p8) ρ σ Q:=(xa (Q:=iJ.Q_) iJ.go (σ,n,ρ,Q,L,a,cd,S,fa,ca,t,p1,p2,p3,p4,p5,p6,p7,p8):iJ.P σ n ρ Q L a cd S fa ca t p1 p2 p3 p4 p5 p6 p7 p8) hS ht h hs
section
variable{σ:AH}{n:Nat}{ρ:Loc}
end
theorem qe:∀l:List Str,(∀x∈l,x.length=1)->(l.map (·.length)).sum=l.length
 | [],_=>rfl
 | x::l,h=>by
  have:=qe l λy hy=>h y (List.mem_cons_of_mem _ hy)
  have h1:=h x (List.mem_cons_self ..);rw[List.map_cons,List.sum_cons,List.length_cons];exact Nat.le_antisymm (aX (.e .A .O (.e .B .C (.g (.a .A .B) (.a .C .O)))) rfl h1 this) (aX (.f .A .O (.f .B .C (.g (.a .C .O) (.a .A .B)))) rfl h1 this)
theorem join_ones(l:List Str)(h:∀x∈l,x.length=1):(Txt.join "" l).length=l.length:=by
 cases l with
 | nil=>rfl
 | cons a r=>
  show(Builtin.Str.glued "" (a::r)).length=_;rw[StrLaws.glued_eq_join,len_join_cons,qe _ h];rfl
end
section
theorem xe{P:Nat->Prop}:∀(l:List Str),(∀x∈l,∃d,P d/\x=⟨#[d]⟩)->(Txt.join "" l).length=l.length/\∀y∈(Txt.join "" l).cps.toList,P y:=λl h=>by
 have h1:∀x∈l,x.length=1:=λx m=>by obtain⟨d,_,rfl⟩:=h x m;rfl
 refine⟨join_ones l h1,?_⟩;cases l with
 | nil=>intro y m;cases m
 | cons a r=>
  have e:Txt.join "" (a::r)=Builtin.Str.glued "" (a::r):=rfl;rw[e,StrLaws.glued_eq_join];have go:∀(r:List Str)(a:Str),(∀x∈a::r,∃d,P d/\x=⟨#[d]⟩)->∀y∈(Str.join "" (a::r)).cps.toList,P y:=by
   intro r
   induction r with
   | nil=>
    intro a h y m;obtain⟨d,hd,rfl⟩:=h a (.head _);have m:y∈[d]:=m;rw[List.mem_singleton]at m;subst m;exact hd
   | cons b r ih=>
    intro a h y m;have m:y∈(a++""++Str.join "" (b::r)).cps.toList:=m;rw[cps_append,cps_append]at m;rcases List.mem_append.mp m with m | m
    ·rcases List.mem_append.mp m with m | m
     ·obtain⟨d,hd,rfl⟩:=h a (.head _)
      have m:y∈[d]:=m;rw[List.mem_singleton]at m;subst m;exact hd
     ·have e0:("":Str).cps.toList=[]:=by decide
      rw[e0]at m;cases m
    ·exact ih b (λx hx=>h x (.tail _ hx)) y m
  exact go r a h
theorem counts(j:Nat)(h:j<5):∃v:V,NV v/\([.int 1,.str "",.str "x",.int (-1),.str "2"]:List V)[j]? =some v:=by
 have:j=0\/j=1\/j=2\/j=3\/j=4:=by exact SA h
 rcases this with rfl | rfl | rfl | rfl | rfl
 ·exact⟨_,.int 1,rfl⟩
 ·exact⟨_,.str _ .nil,rfl⟩
 ·exact⟨.str "x",.str _ (.some 120 [] (by decide) (by decide) (by decide) (by decide) (by decide)),rfl⟩
 ·exact⟨_,.int (-1),rfl⟩
 ·exact⟨_,.str _ .two,rfl⟩
theorem Nf:∀d∈("ab()":Str).cps.toList,d<128/\(d<48\/57<d)/\d≠43/\d≠45:=by decide
structure yf(rx rn ra fa ca:Addr)(t:Nat)(σ:AH):Prop where
 x:σ rx=some (.dict (fV "X"))
 n:σ rn=some (.dict (fV "N"))
 r:σ ra=some (.list [.inst 208 rx,.inst 208 rn])
 F:eR σ fa ca t
theorem yf.BB{rx rn ra fa ca:Addr}{t t':Nat}{σ af:AH}(W:yf rx rn ra fa ca t σ)(K:Kept σ af [fa])(F:eR af fa ca t'):yf rx rn ra fa ca t' af:=by
 obtain⟨turn,cells,h1,_⟩:=W.F.ex;refine⟨K _ _ W.x (by rw[gg];exact f7 W.x h1),K _ _ W.n (by rw[gg];exact f7 W.n h1),K _ _ W.r ?_,F⟩
 rw[gg];intro z;have:=W.r;rw[z,h1]at this;cases this
theorem yf.kept{rx rn ra fa ca:Addr}{t:Nat}{σ af:AH}(W:yf rx rn ra fa ca t σ)(K:Kept σ af []):yf rx rn ra fa ca t af:=⟨K _ _ W.x (by exact nn),K _ _ W.n (by exact nn),K _ _ W.r (by exact nn),W.F.kept K⟩
inductive NJ(rx rn ra fa ca:Addr)(s:Str)(t:Nat)(ρ:Loc)(σ:AH):Prop
 | mk(nd:Nd)(N:fF [(rx,"X"),(rn,"N")] nd)(hz:nd.size<=1000)(D:yf rx rn ra fa ca t σ)(l1:at_ ρ "node"=some nd.v)(l2:at_ ρ "subject"=some (.str s))(l3:at_ ρ "refs"=some (.lst ra))(l4:at_ ρ "well"=some (.lst fa))
inductive KJ(rx rn ra fa ca:Addr)(s:Str)(t:Nat)(ρ:Loc)(σ:AH):Prop
 | mk(nd pn:Nd)(nv:V)(ka dp:Addr)(N:fF [(rx,"X"),(rn,"N")] nd)(hz:nd.size<=1000)(M:fF [(rx,"X"),(rn,"N")] pn)(mz:pn.size<=1000)(hv:NV nv)(D:yf rx rn ra fa ca t σ)(hk:σ ka=some (.dict [("P",.inst 166 dp),("N",nv)]))(hd:σ dp=some (.dict [("node",pn.v)]))(n1:ka≠fa)(n2:dp≠fa)
   (l1:at_ ρ "node"=some nd.v) (l2:at_ ρ "subject"=some (.str s)) (l3:at_ ρ "kept"=some (.qD ka)) (l4:at_ ρ "well"=some (.lst fa)):KJ rx rn ra fa ca s t ρ σ
theorem yf.ka{rx rn ra fa ca:Addr}{t t0:Nat}{σ af:AH}{ka:Addr}{o:AO}(W:yf rx rn ra fa ca t af)(W0:yf rx rn ra fa ca t0 σ)(h:σ ka=none):yf rx rn ra fa ca t (af.put ka o):=by
 have K:Kept af (af.put ka o) [ka]:=Kept.put (by exact .head _)
 obtain⟨VA,PK,g1,g2,g3,g4,g5⟩:=W0.F.ex;obtain⟨turn,cells,h1,h2,h3,h4,h5⟩:=W.F.ex;have z:∀{y o},σ y=some o->y∉[ka]:=λe=>by rw[gg];exact ne_sn e h
 exact⟨K _ _ W.x (z W0.x),K _ _ W.n (z W0.n),K _ _ W.r (z W0.r),turn,cells,K _ _ h1 (z g1),K _ _ h2 (z g2),h3,h4,h5⟩
theorem Jz{L a rx rn ra fa ca:Addr}{cd:Value}{s:Str}(QP:s.length<=4)(QR:∀d∈s.cps.toList,d<128/\(d<48\/57<d)/\d≠43/\d≠45){NC:Loc}{rp:AH}(J:KJ rx rn ra fa ca s 60 NC rp):
  b8 (nx 14) (du L a cd) ((aM (cP 96)).drop 6) NC rp (λfl _ _=>fl=.ret (.bool true)):=by
 obtain⟨nd,pn,nv,ka,dp,N,Mc,M,mz,hv,D8,UE,Uz,n1,n2,l1,l2,l3,l4⟩:=J;refine' jU ?_ ?_ ?_;rotate_left;rotate_left
 ·wtm_at "b"
 ·rfl
 with_reducible refine au ?_
 with_reducible refine gW (names:=["refused","is_anchored","ways"]) ?_ ?_ ?_
 rotate_left
 ·with_unfolding_all rfl
 ·with_unfolding_all rfl
 refine lR ?_;refine cj ?_ rfl;kd_p;refine aW ?_;refine cj ?_ rfl;refine aW ?_;kd_p;intro x0 QV;refine cj ?_ rfl;refine aW ?_;kd_p;intro x1 JZ;refine cj ?_ rfl;refine aW ?_;kd_p;intro x2 Mb;kd_p;intro lo LP;have K0:Kept rp (rp.put x0 (.list [])) []:=Kept.new QV;have K1:Kept (rp.put x0 (.list [])) ((rp.put x0 (.list [])).put x1 (.list [])) []:=Kept.new JZ;have K2:Kept ((rp.put x0 (.list [])).put x1 (.list [])) (((rp.put x0 (.list [])).put x1 (.list [])).put x2 (.list [.str "X"])) []:=Kept.new Mb;have K3:Kept (((rp.put x0 (.list [])).put x1 (.list [])).put x2 (.list [.str "X"])) ((((rp.put x0 (.list [])).put x1 (.list [])).put x2 (.list [.str "X"])).put lo (.list [.lst x0,.lst x1,.lst x2])) []:=Kept.new LP;have a0:=((K1.trans K2).trans K3) x0 (.list []) (AH.aa _ _ _) (by exact nn)
 have a1:=(K2.trans K3) x1 (.list []) (AH.aa _ _ _) (by exact nn)
 have a2:=K3 x2 (.list [.str "X"]) (AH.aa _ _ _) (by exact nn)
 have ao:=AH.aa (((rp.put x0 (.list [])).put x1 (.list [])).put x2 (.list [.str "X"])) lo (.list [.lst x0,.lst x1,.lst x2]);have f0:x0≠fa:=D8.F.ne QV;have f1:x1≠fa:=(D8.F.kept K0).ne JZ;have f2:x2≠fa:=(D8.F.kept (K0.trans K1)).ne Mb;have fo:lo≠fa:=(D8.F.kept ((K0.trans K1).trans K2)).ne LP;have K8:=((K0.trans K1).trans K2).trans K3;revert a0 a1 a2 ao K8;generalize (((rp.put x0 (.list [])).put x1 (.list [])).put x2 (.list [.str "X"])).put lo (.list [.lst x0,.lst x1,.lst x2])=ND;clear K0 K1 K2 K3 QV JZ Mb LP;intro a0 a1 a2 ao K8;have D9:=D8.kept K8;refine aF ?_;kd_p;refine aU.call ((dP (m:=3) D9.F (by decide) (by decide) λr AM hr O9 Gv=>?_).less (by decide))
 have Ht:=D9.BB Gv O9;have q:∀{y:Addr},y≠fa->y∉[fa]:=λh=>by rw[gg];exact h
 obtain⟨ar,rf,er,Dw,Vg⟩:∃ar rf,([.lst x0,.lst x1,.lst x2]:List V)[r]? =some (.lst ar)/\AM ar=some (.list ((rf:List Str).map V.str))/\ar≠fa:=by
  have:r=0\/r=1\/r=2:=by exact MM hr
  rcases this with rfl | rfl | rfl
  ·exact⟨x0,[],rfl,Gv _ _ a0 (q f0),f0⟩
  ·exact⟨x1,[],rfl,Gv _ _ a1 (q f1),f1⟩
  ·exact⟨x2,["X"],rfl,Gv _ _ a2 (q f2),f2⟩
 refine cz (j:=r) (Gv _ _ ao (q fo)) rfl er (by exact aG (.t .A (.k 3) (.b .A (.k 4611686018427387904))) rfl hr) ?_
 refine cj ?_ rfl;kd_p;refine aF ?_;kd_p;refine aU.call ((dP (m:=2) O9 (by decide) (by decide) λr2 AN YC TM Kz=>?_).less (by decide))
 have AP:=Ht.BB Kz TM;have Dw:=Kz _ _ Dw (q Vg);have Ip:=Kz _ _ (Gv _ _ (K8 _ _ UE (by exact nn)) (q n1)) (q n1)
 have Ij:=Kz _ _ (Gv _ _ (K8 _ _ Uz (by exact nn)) (q n2)) (q n2)
 kd_p;generalize (((r2:Int)==1):Bool)=an;refine aW ?_;kd_p;intro wa zO;have Kw:Kept AN (AN.put wa (.list [])) []:=Kept.new zO;have ew:=AH.aa AN wa (.list []);obtain⟨turn,cells,g1,g2,g3,g4,g5⟩:=AP.F.ex;have ne:∀{y o},AN y=some o->y≠wa:=λe=>ne_sn e zO
 have Of:∀oa,oa≠wa->oa≠fa->Bg ⟨dp,ka,ar,[(rx,"X"),(rn,"N")],⟨s,rf,pn⟩,nv⟩ oa ca [wa,fa]:=λoa h1 h2=>by
  have z:∀{y:Addr},y≠wa->y≠fa->y∉[wa,fa]:=λh k=>by rw[oy];exact⟨h,k⟩
  refine⟨z (ne Ip) n1,z (ne Dw) Vg,λr hr=>?_,z (ne Ij) n2,z h1 h2,z (ne g2) g3.symm⟩
  have hr:r∈([(rx,"X"),(rn,"N")]:List Ref):=hr;simp only[List.mem_cons,List.not_mem_nil,or_false]at hr;rcases hr with rfl | rfl
  ·exact z (ne AP.x) (f7 AP.x g1)
  ·exact z (ne AP.n) (f7 AP.n g1)
 have Fn:fa≠wa:=ne g1;have JF:=AP.kept Kw;have Dw:=Kw _ _ Dw (by exact nn)
 have Iq:=Kw _ _ Ip (by exact nn)
 have Ik:=Kw _ _ Ij (by exact nn)
 revert ew JF Dw Iq Ik;generalize AN.put wa (.list [])=TK;intro ew JF Dw Iq Ik;clear AP Ht D9 D8 K8 Gv Kz O9 TM a0 a1 a2 ao Ip Ij UE Uz g1 g2 g3 g4 g5 Kw zO ne f0 f1 f2 fo q er;kd_p;refine⟨_,rfl,rfl,?_⟩;refine bR rfl ?_;refine bR rfl ?_;refine bR rfl ?_;show b8 _ _ _ _ _ _;kd_p
 (refine aA ?_ rfl rfl)
 refine aF ?_;kd_p;have pk:=yX N Mc;refine aU.call ((su pk.1 pk.2.1 pk.2.2 λoa Yi Dy eo zm=>?_).less (by decide))
 have Gq:=JF.kept zm
 try refine ft rfl ?_
 show b8 _ _ _ _ _ _;refine JA (B:=⟨dp,ka,ar,[(rx,"X"),(rn,"N")],⟨s,rf,pn⟩,nv⟩) (n:=nd) (oa:=oa) (fa:=fa) (ca:=ca) (wa:=wa) (t:=62) (an:=an) ⟨QP,QR,λr hr=>?_,M,mz,hv⟩ N Mc (Of oa ?_ ?_) ⟨⟨zm _ _ Iq (by exact nn),zm _ _ Dw (by exact nn),λr hr=>?_,zm _ _ Ik (by exact nn)⟩,eo,Gq.F.less (by decide),zm _ _ ew (by exact nn),Fn⟩ (by decide) ⟨by wtm_at "a",by wtm_at "a",by wtm_at "a",by wtm_at "a",by wtm_at "a",by wtm_at "a",by wtm_at "a",by wtm_at "a"⟩
 ·have hr:r∈([(rx,"X"),(rn,"N")]:List Ref):=hr
  simp only[List.mem_cons,List.not_mem_nil,or_false]at hr;rcases hr with rfl | rfl
  ·show("X":Str)≠"P";decide
  ·show("N":Str)≠"P";decide
 ·exact(ne_sn ew Dy).symm
 ·exact JF.F.ne Dy
 ·have hr:r∈([(rx,"X"),(rn,"N")]:List Ref):=hr
  simp only[List.mem_cons,List.not_mem_nil,or_false]at hr;rcases hr with rfl | rfl
  ·exact Gq.x
  ·exact Gq.n
end
section
theorem Bs{n:NX}{env:Env}{b b':List Stmt}{ρ:Loc}{σ:AH}{Q:Fl->Loc->AH->Prop}(e:b'=b)(h:b8 n env b' ρ σ Q):b8 n env b ρ σ Q:=e▸h
set_option tactic.hygienic true in
theorem Nu{L a x:Addr}{cd:Value}{items:Array Value}{xs:List Int}(ha:c.h0.IsList x items)(hi:∀h:Heap,aE h items.toList (xs.map V.int))(hz:xs.length<=63){σ:AH}:
  b8 (nx 14) (du L a cd) (aM (cP 96)) [("script",.glob (.ref x))] σ (λfl _ _=>fl=.ret (.bool true)):=by
 have cn:=ie;kcf_m
 (refine au (ag ?_))
 refine aW ?_;kd_p;refine CZ (k:=40) ha hi (by exact aG (.l .A (.k 63) (.g .A (.k 1000000))) rfl hz) ?_
 intro la zM;kd_p;intro fa jc;have Rr:fa≠la:=λz=>by rw[z,AH.aa]at jc;cases jc
 refine uu (C7 rfl rfl ?_);have F0:eR ((σ.put la (.list ((xs.take 40).map V.int))).put fa (.list [.lst la,.int 0])) fa la 0:=by
  refine⟨0,xs.take 40,AH.aa _ _ _,?_,Rr,?_,Nat.le_refl _⟩
  ·rw[AH.ae _ _ Rr.symm];exact AH.aa _ _ _
  ·rw[List.length_take];exact aG (.l .A (.k 40) (.g .A (.k 1000))) rfl (Nat.min_le_left _ _)
 revert F0;generalize ((σ.put la (.list ((xs.take 40).map V.int))).put fa (.list [.lst la,.int 0]))=ba;intro F0;clear zM jc Rr ha hi hz;kd_p
 (refine ag ?_)
 refine aW ?_;refine cj ?_ rfl;refine iP cn.2.2.1 ?_;kd_p;refine aU.call ((yt λrx UR=>?_).less (by decide))
 refine cj ?_ rfl;refine iP cn.2.2.1 ?_;kd_p;refine aU.call ((yt λrn UQ=>?_).less (by decide))
 kd_p;intro ra pU;have D0:yf rx rn ra fa la 0 (((ba.put rx (.dict (fV "X"))).put rn (.dict (fV "N"))).put ra (.list [.inst 208 rx,.inst 208 rn])):=by
  have K1:Kept ba (ba.put rx (.dict (fV "X"))) []:=Kept.new UR;have K2:Kept (ba.put rx (.dict (fV "X"))) ((ba.put rx (.dict (fV "X"))).put rn (.dict (fV "N"))) []:=Kept.new UQ;have K3:Kept ((ba.put rx (.dict (fV "X"))).put rn (.dict (fV "N"))) (((ba.put rx (.dict (fV "X"))).put rn (.dict (fV "N"))).put ra (.list [.inst 208 rx,.inst 208 rn])) []:=Kept.new pU;exact⟨(K2.trans K3) _ _ (AH.aa _ _ _) (by exact nn),K3 _ _ (AH.aa _ _ _) (by exact nn),AH.aa _ _ _,((F0.kept K1).kept K2).kept K3⟩
 revert D0;generalize (((ba.put rx (.dict (fV "X"))).put rn (.dict (fV "N"))).put ra (.list [.inst 208 rx,.inst 208 rn]))=aI;intro D0;clear UR UQ pU F0 ba;kd_p
 (refine aA ?_ rfl rfl)
 refine aB ?_;kd_p;refine⟨_,Ic PySem.F.slot_str_join PySem.F.type_str_join,az,?_⟩;refine cO ?_;refine BC rfl (n:=13) (t:=1) (by exact Sx ) (fa:=fa) (ca:=la) ?_
 refine jy ?_;kd_p;refine aF ?_;kd_p;refine aU.call ((dP (m:=5) D0.F (by exact Sy ) (by decide) λk bU hk F2 K2=>?_).less (by decide))
 have D2:=D0.BB K2 F2;kd_p;refine jx ?_;refine⟨k,rfl,by exact aG (.t .A (.k 5) (.g .A (.k 4))) rfl hk,F2,by wtm_at "a",λss fE D hs h1 F3 K3 hD=>?_⟩
 have js:=xe ss h1;have D3:=(D2.BB K3 F3).kept (Kept.new (o:=.list (ss.map V.str)) hD);refine zz (l:=ss) (AH.aa _ _ _) ?_ ?_
 ·rw[qe _ (λx m=>by obtain⟨d,_,rfl⟩:=h1 x m;rfl),hs];show k+k*0<=_;exact aG (.t .A (.k 5) (.g (.a .A (.w .A 0)) (.k 16777216))) rfl hk
 revert D3 js;generalize fE.put D (.list (ss.map V.str))=ki;generalize (Txt.join "" ss)=s;intro js D4;have QP:s.length<=4:=by rw[js.1,hs];exact aG (.t .A (.k 5) (.g .A (.k 4))) rfl hk
 have QR:∀d∈s.cps.toList,d<128/\(d<48\/57<d)/\d≠43/\d≠45:=λd m=>Nf d (js.2 d m)
 clear js h1 hD D2 D0 K2 K3 F2 F3 aI bU fE;kd_p
 (refine aA ?_ rfl rfl)
 refine aF ?_;kd_p;have m1:((rx,"X"):Ref)∈([(rx,"X"),(rn,"N")]:List Ref):=.head _;have m2:((rn,"N"):Ref)∈([(rx,"X"),(rn,"N")]:List Ref):=.tail _ (.head _);have g3:jl fa la ra (rx,"X") (rn,"N") [(rx,"X"),(rn,"N")] 3:=tR m1 m2 3;have g1:jl fa la ra (rx,"X") (rn,"N") [(rx,"X"),(rn,"N")] 1:=tR m1 m2 1;unfold jl at g3 g1;refine aU.call ((g3 D4.F D4.r (by exact aG (.t .A (.k 5) (.g (.a (.a .O .A) (.m 3 (.k 8))) (.k 900))) rfl hk) λnd mK dn F5 K5=>?_).less (by decide))
 have D5:=D4.BB K5 F5;clear g3 K5 F5 D4 m1 m2;have Yz:k<=4:=by exact aG (.t .A (.k 5) (.g .A (.k 4))) rfl hk
 have D5:yf rx rn ra fa la 40 mK:=⟨D5.x,D5.n,D5.r,D5.F.less (by exact Sz hk hs)⟩
 try refine ft rfl ?_
 show b8 _ _ _ _ _ _;refine au (Tr.mono (Q:=λ(fl:Fl) ρ' af=>fl=.next/\NJ rx rn ra fa la s 41 ρ' af) ?_ ?_)
 ·show oq _ _ _ _ _ _
  kd_p;refine aF ?_;kd_p;refine aU.call ((dP (m:=2) D5.F (by decide) (by decide) λr Kf hr F6 K6=>?_).less (by decide))
  have D6:=D5.BB K6 F6;kd_p;wtm_at "j"
  ·kd_p
   (refine ag ?_)
   kd_p;refine⟨rfl,.cat nd (.leaf (.pl (.xA 0))),⟨⟨dn.tok,λz=>by cases z⟩,⟨dn.ok,trivial⟩,?_⟩,?_,D6,rfl,by wtm_at "a",by wtm_at "a",by wtm_at "a"⟩
   ·have:=dn.tx;show nd.text+0<=1000;exact aG (.l .A (.m 2 (.k 8)) (.g (.a .A .Z) (.k 1000))) rfl this
   ·have:=dn.sz;show nd.size+1+1<=1000;exact aG (.l (.a .A .O) (.m 2 (.k 8)) (.g (.a (.a .A .O) .O) (.k 1000))) rfl this
  ·kd_p
   exact⟨rfl,nd,⟨dn.tok,dn.ok,by have:=dn.tx;exact aG (.l .A (.m 2 (.k 8)) (.g .A (.k 1000))) rfl this⟩,by have:=dn.sz;exact aG (.l (.a .A .O) (.m 2 (.k 8)) (.g .A (.k 1000))) rfl this,D6,by wtm_at "a",by wtm_at "a",by wtm_at "a",by wtm_at "a"⟩
 rintro fl VD Kg ⟨rfl,nd,N,Mc,D7,l1,l2,l3,l4⟩;clear D5 dn;show b8 _ _ _ _ _ _;kd_p;refine Tr.mono (Q:=λ(fl:Fl) ρ' af=>fl=.next/\KJ rx rn ra fa la s 60 ρ' af) ?_ ?_
 ·show oq _ _ _ _ _ _
  (refine ag ?_)
  kd_p;refine wO λka Qz=>?_
  have D8:=D7.kept (Kept.new (o:=.dict []) Qz);have e8:=AH.aa Kg ka (.dict []);have nk:ka∉[fa]:=by rw[gg];exact D7.F.ne Qz
  revert D8 e8;generalize AH.put Kg ka (.dict [])=rp;intro D8 e8;refine iP (jO).2.2.1 ?_;refine cO ?_;refine aF ?_;kd_p;refine aU.call ((g1 D8.F D8.r (by decide) λpn ND dn F9 K9=>?_).less (by decide))
  have D9:=D8.BB K9 F9;have e9:=K9 _ _ e8 nk;refine aU.call ((DS λdp Oq=>?_).less (by decide))
  have Rn:dp∉[fa]:=by rw[gg];exact D9.F.ne Oq
  have Kp:Kept ND (ND.put dp (.dict [("node",pn.v)])) []:=Kept.new Oq;have Ht:=D9.kept Kp;have PU:=Kp _ _ e9 (by exact nn)
  have I6:=AH.aa ND dp (.dict [("node",pn.v)]);revert Ht PU I6;generalize AH.put ND dp (.dict [("node",pn.v)])=AM;intro Ht PU I6;kd_p;refine aW ?_;kd_p;intro lv UJ;have el:=AH.aa AM lv (.list [.int 1,.str "",.str "x",.int (-1),.str "2"]);have Kl:Kept AM (AH.put AM lv (.list [.int 1,.str "",.str "x",.int (-1),.str "2"])) []:=Kept.new UJ;have nl:lv∉[fa]:=by rw[gg];exact Ht.F.ne UJ
  have AP:=Ht.kept Kl;have PV:=Kl _ _ PU (by exact nn)
  have MS:=Kl _ _ I6 (by exact nn)
  have e1:(0:Int)-1= -1:=rfl
  try rw[e1]
  revert el AP PV MS;generalize AH.put AM lv (.list [.int 1,.str "",.str "x",.int (-1),.str "2"])=AN;intro el AP PV MS;refine aF ?_;kd_p;refine aU.call ((dP (m:=5) AP.F (by decide) (by decide) λVv TK hr VM Dq=>?_).less (by decide))
  have JF:=AP.BB Dq VM;have V5:=Dq _ _ PV nk;have XQ:=Dq _ _ MS Rn;obtain⟨nv,WV,env⟩:=counts Vv hr;refine cz (j:=Vv) (Dq _ _ el nl) rfl env (by exact aG (.t .A (.k 5) (.b .A (.k 4611686018427387904))) rfl hr) ?_
  refine⟨V5,?_⟩;have Gq:=JF.ka D7 Qz (o:=.dict [("P",.inst 166 dp),("N",nv)]);have XC:dp≠ka:=λz=>by rw[z,e9]at Oq;cases Oq
  kd_p;refine⟨rfl,nd,pn,nv,ka,dp,N,Mc,⟨dn.tok,dn.ok,by have:=dn.tx;exact aG (.l .A (.m 2 (.k 2)) (.g .A (.k 1000))) rfl this⟩,by have:=dn.sz;exact aG (.l (.a .A .O) (.m 2 (.k 2)) (.g .A (.k 1000))) rfl this,WV,⟨Gq.x,Gq.n,Gq.r,Gq.F.less (by decide)⟩,AH.aa _ _ _,?_,by rw[gg]at nk;exact nk,by rw[gg]at Rn;exact Rn,by wtm_at "a",by wtm_at "a",by wtm_at "a",by wtm_at "a"⟩
  rw[AH.ae _ _ XC];exact XQ
 clear g1 D7 N Mc l1 l2 l3 l4 Kg VD;rintro fl NC rp ⟨rfl,J⟩;show b8 _ _ _ _ _ _
 with_reducible refine Bs (b':=(aM (cP 96)).drop 6) ?_ (Jz QP QR J)
 kernel_rfl
end
section
theorem u6:lW.1.name=("law":Str):=by kernel_rfl
theorem Ci:lW.1.body=aM (cP 96):=by kernel_rfl
theorem z4:lW.1.scope=eV:=by kernel_rfl
theorem IJ:lW.2=[]:=by kernel_rfl
theorem z3:lW.1.params.defaults=[]:=by kernel_rfl
theorem zY(name:Str)(body:List Stmt)(scope:Scope)(v pm cd doc:Value):bindArgs (docDef name lW.1.params body scope pm cd doc) ⟨[v],[]⟩=pure [(("script":Str),v)]:=by kernel_rfl
theorem xi:eV.names.lookup ("script":Str)=some .local:=by kernel_rfl
theorem II:eV.isCoroutine=false:=by kernel_rfl
theorem EE:eV.isGenerator=false:=by kernel_rfl
theorem Cj:eV.kind=.function:=by kernel_rfl
theorem xh(n:Nat):cellsFrom n eV.names []=[(("well":Str),n)]:=by with_unfolding_all rfl
theorem Fi{R:WRecords}(L:List WData)(h:WTm.holds R (.and (.not (.lt (.lit (.int 63)) (.len (.arg 0)))) (.lit (.bool true))) { args:=[.list L] }=true):L.length<=63:=by
 have e1:WTm.value R (.lt (.lit (.int 63)) (.len (.arg 0))) { args:=[.list L] }=(less? (.int 63) (.int L.length)).map .bool:=rfl;have e2:less? (.int 63) (.int L.length)=some (decide ((63:Int)<L.length)):=rfl;have e3:WTm.value R (.not (.lt (.lit (.int 63)) (.len (.arg 0)))) { args:=[.list L] }=some (.bool (!decide ((63:Int)<L.length))):=by
  rw[WTm.value,e1,e2];rfl
 unfold WTm.holds at h;rw[WTm.value,e3]at h;by_cases q:(63:Int)<L.length
 ·rw[decide_eq_true q]at h;cases h
 ·exact aG (.l .A (.k 63) (.g .A (.k 63))) rfl (Mf q)
theorem ints_rep{R:WRecords}{cl:Str->Option Addr}{h:Heap}:∀{vs:List Value}{ns:List Int}{as:List Addr},ReadsAllW R cl h vs (ns.map WData.int) as->∀h':Heap,aE h' vs (ns.map V.int)
 | _,[],_,r,h'=>by rw[(readsAllW_nil_inv r).1];exact .nil
 | _,n::ns,_,r,h'=>by
  obtain⟨v,vs,a,b,e,e2,r1,r2⟩:=readsAllW_cons_inv r;obtain⟨t,ev,_⟩:=readsW_int_inv r1;rw[e,ev];exact .cons (.int _ _) (ints_rep r2 h')
theorem D1{h:Heap}{f:Flow}{fl:Fl}(r:oZ h f fl)(e:fl=.ret (.bool true)):f=.ret (.bool true):=by
 subst e;cases r with | ret r=>cases r;rfl
inductive O1(h:Heap)(vals:List Value):Prop
 | mk(x:Addr)(J0:Array Value)(ns:List Int)(e:vals=[.ref x])(hL:h.IsList x J0)(hn:∀h':Heap,aE h' J0.toList (ns.map .int))(hl:ns.length<=63)
theorem Cp{iD cy:Shared}{mg mb:Str->Option Value}(Ol:c=⟨iR.toRowW.prog,w,KO w,qv,looseW qv jE,mg,mb,cy.heap⟩):yg (w,iD,cy,mg,mb):=by
 show bodyOf _ _;unfold bodyOf;dsimp only;intro G hY a o pm cd doc dV kV ho hd Oj UA YA LN args vals as QN WK WZ YE WM;have e1:=UA.none z3;have e2:kV=.none:=by
  have:=UA;rw[IJ]at this;exact this.noKw
 subst e1;subst e2;have BM:=fd_plain hd;have AR:O1 cy.heap vals:=by
  obtain⟨W9,WX⟩:=pre_splitW QN;obtain⟨d,r,rfl,h1,h2⟩:=hasAllW_cons (e:=.list .int) (es:=[]) W9;have hr:r=[]:=by cases r with
   | nil=>rfl
   | cons x r=>exact absurd h2 (by exact nofun)
  subst hr;obtain⟨xs,rfl,h3⟩:=hasW_list h1;obtain⟨ns,rfl⟩:=items_int h3;have hlen:ns.length<=63:=by
   have:=Fi _ WX;simpa using this
  obtain⟨v,vs,rfl,hv,QT⟩:∃v vs,vals=v::vs/\(∃as,ReadsW iR.toRowW.records (classAt iD.heap) cy.heap v (.list (ns.map .int)) as)/\vs=[]:=by
   cases WZ with
   | cons r1 r2=>cases r2;exact⟨_,_,rfl,⟨_,r1⟩,rfl⟩
  subst QT;obtain⟨Yo,hv⟩:=hv;obtain⟨x,ob,J0,n,ai,rfl,hx,hc,Qr,hits, -⟩:=readsW_list_open hv;have hL:cy.heap.IsList x J0:=⟨ob,hx,hc,n,Qr⟩;have BR:=ints_rep hits;exact⟨x,J0,ns,rfl,hL,BR,hlen⟩
 obtain⟨x,J0,ns,rfl,hL,BR,hlen⟩:=AR;have T:=topRead_of G.T;have ok:Kq:=⟨by rw[Ol];exact hY,by rw[Ol];exact T,by rw[Ol];exact T.nolimit⟩
 have h0:c.h0=cy.heap:=by rw[Ol]
 refine wpAny_call ?_;rw[z4,u6,Ci]at BM;rw[u6]at Oj;refine call_cells_ret (by decide+kernel) ho BM T.nolimit Oj (zY _ _ _ _ _ _ _) (λy hy=>?_) (λje tk F C=>?_) II EE Cj
 ·rw[List.mem_singleton]at hy;subst hy;exact .inl xi
 have nL:∀b,cy.heap.objs.size<=b->c.h0.get? b=none:=λb hb=>by rw[h0];exact bz hb
 have fa:aw (du cy.heap.objs.size a cd)=[cy.heap.objs.size,cy.heap.objs.size+1]:=by
  unfold aw;rw[jZ];rfl
 have S:St je (λ_=>none):=⟨λb o e=>F.keep b o (h0▸e),(λ_ _ e=>nomatch e),(λ_ _ e=>nomatch e),(λ_ _ e=>nomatch e),by
  obtain⟨mc,⟨o,_,_,e,_⟩,_⟩:=T.nolimit;exact⟨o,h0▸e⟩,ok⟩
 have GA:je.IsCell (cy.heap.objs.size+1) _:=C.cell ("well":Str) (cy.heap.objs.size+1) (by rw[xh];rfl)
 have VQ:dh [] (du cy.heap.objs.size a cd) je (λ_=>none) [("script",.glob (.ref x))]:=by
  refine⟨λy v e=>?_,⟨_,F.ns⟩,λb hb=>?_,by rw[fa];simp,λq hq=>?_,Cj,⟨rfl,rfl⟩,λe he=>nomatch he⟩
  ·rw[List.lookup_cons]at e
   by_cases z:(y==("script":Str))=true
   ·have:=eq_of_beq z;subst this;rw[z]at e;cases e
    exact⟨.ref x,.inl ⟨by with_unfolding_all rfl,_,F.ns,by with_unfolding_all rfl⟩,.glob _⟩
   ·simp only[Bool.not_eq_true]at z;rw[z]at e;cases e
  ·rw[fa]at hb
   rcases List.mem_cons.mp hb with rfl | hb
   ·obtain⟨oL,es,ep,GU,Oo,_⟩:=F.ns
    exact⟨rfl,nL _ (Nat.le_refl _),oL,GU,cX Oo⟩
   ·rw[List.mem_singleton]at hb;subst hb
    obtain⟨o,e1,e2⟩:=GA;exact⟨rfl,nL _ (Nat.le_succ _),o,e1,iS e2⟩
  ·rw[jZ,List.mem_singleton]at hq;subst hq;exact⟨_,GA⟩
 have W:=Nu (L:=cy.heap.objs.size) (a:=a) (cd:=cd) (h0▸hL) BR hlen (σ:=λ_=>none)
 have hO:cY (du cy.heap.objs.size a cd) (callerA.deeper (envOfC ("law":Str) eV cy.heap.objs.size a cd))=[]:=if_pos rfl;have room:fp (du cy.heap.objs.size a cd) (callerA.deeper (envOfC ("law":Str) eV cy.heap.objs.size a cd)) (nx 14):=⟨(by show(1+claimMargin+1)+14<recursionLimit;decide+kernel),(by simp[Around.deeper];decide+kernel),rfl,.inl ⟨by rw[hO];rfl,rfl⟩⟩
 have key:=W _ { cy with heap:=je,toks:=tk } room S (by rw[hO];exact VQ) trivial
 refine wpAny_mono key (λf s' p=>?_) λ_ _ x=>x.no
 obtain⟨h2,oh,fl,ρ',af,rfl,S',F',M,rr,q⟩:=p;have:=D1 rr q;subst this;refine⟨.inl ⟨_,.bool true,[],rfl,λ_=>rfl,.bool _,by kernel_rfl,λ_=>⟨.nil,(λ_ h=>nomatch h)⟩⟩,.of_keep λb o e=>?_,rfl,AllBare.of_eq LN⟩
 refine M.keep b o (F.keep b o e) rfl ?_ (by rw[hO];intro m;cases m)
 rw[fa];intro hb;have lt:b<cy.heap.objs.size:=Heap.lt_size e;rcases List.mem_cons.mp hb with rfl | hb
 ·exact absurd lt (Nat.lt_irrefl _)
 ·rw[List.mem_singleton]at hb;subst hb;exact absurd lt (Nat.not_lt.mpr (Nat.le_succ _))
theorem Cq:WalkO qv jE (XL qv []) eX.says iR.toRowW lW.1 lW.2 λf vs=>PySem.call f vs:=λNy iD cy mg mb=>(yu vA (Cp rfl:yg x0) (Ny,iD,cy,mg,mb):yg (Ny,iD,cy,mg,mb))
theorem zZ:PySem.Challenge.rw_sa0604_02.Holds:=reduce Cq
end
end
end Mine
theorem PySem.Challenge.cw_sa0604_02_holds : PySem.Challenge.rw_sa0604_02.Holds :=
 Mine.zZ
