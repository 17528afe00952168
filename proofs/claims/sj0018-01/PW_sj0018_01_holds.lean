import PyProof.Rows.All
import PyProof.TableCode
import Wide.All
import OpenK.AllK
import Wide.FinOn
import PySem.Challenge.RW_sj0018_01
set_option Elab.async false
set_option autoImplicit true
set_option maxRecDepth 100000
set_option genInjectivity false
set_option genSizeOf false
set_option genCtorIdx false
set_option tactic.hygienic false
set_option linter.all false
set_option maxHeartbeats 0
namespace Mj.Internal
noncomputable section
theorem MK{x y:Bool}(h:(x&&y)=true):x=true/\y=true:=Bool.and_eq_true_iff.mp h
theorem P5{o:Option α}{f:α->Option β}(h:o.bind f=some b):∃a,o=some a/\f a=some b:=Option.bind_eq_some_iff.mp h
theorem P6{o:Option α}{f:α->β}(h:o.map f=some b):∃a,o=some a/\f a=b:=Option.map_eq_some_iff.mp h
theorem P7{b:α}(h:a∈b::l):a=b\/a∈l:=List.mem_cons.mp h
theorem P8{l:List α}(h:l.isEmpty=true):l=[]:=List.isEmpty_iff.mp h
theorem P9{b:α}(h:a∈[b]):a=b:=List.mem_singleton.mp h
theorem Qa:type_of%@List.length_append:=@List.length_append
theorem Qb:type_of%@List.length_map:=@List.length_map
theorem Qc:type_of%@List.append_nil:=@List.append_nil
theorem Qd:type_of%@List.append_assoc:=@List.append_assoc
theorem Qe:type_of%@List.length_reverse:=@List.length_reverse
theorem Qf:type_of%@List.reverse_cons:=@List.reverse_cons
def Qg:=@Nat.le_refl
def Qh:=@Nat.le_trans
def Qi:=@Nat.le_add_right
def Qj:=@List.mem_cons_self
def Qk:=@Nat.le_succ
def Ql:=@List.mem_cons_of_mem
def Qm:=@Nat.eq_of_beq_eq_true
def Qn:=@Nat.le_of_eq
def Qo:=@Nat.add_le_add_left
def Qp:=@PySem.Heap.get?_push_of_some
def Qq:=@PySem.Heap.get?_push_size
def Qr:=@List.not_mem_nil
section
open PySem
noncomputable abbrev zs0:Str:=⟨#[114,117,110]⟩
noncomputable abbrev zs1:Str:=⟨#[95,95,105,110,105,116,95,95]⟩
noncomputable abbrev zs2:Str:=⟨#[95,95,115,116,97,116,105,99,95,97,116,116,114,105,98,117,116,101,115,95,95]⟩
noncomputable abbrev zs3:Str:=⟨#[95,95,119,101,97,107,114,101,102,95,95]⟩
noncomputable abbrev zs4:Str:=⟨#[95,95,100,105,99,116,95,95]⟩
noncomputable abbrev zs5:Str:=⟨#[102,114,97,109,101,114,117,110,101,46,115,111,117,114,99,101,99,111,114,101]⟩
noncomputable abbrev zs6:Str:=⟨#[115,116,101,112]⟩
noncomputable abbrev zs7:Str:=⟨#[114,111,119,115]⟩
noncomputable abbrev zs8:Str:=⟨#[69,118,83,116,109,116]⟩
noncomputable abbrev zs9:Str:=⟨#[110,117,109,98,101,114]⟩
noncomputable abbrev zs10:Str:=⟨#[102,114,97,109,101,114,117,110,101,46,115,111,117,114,99,101,99,117,116]⟩
noncomputable abbrev zs11:Str:=⟨#[102,114,97,109,101,114,117,110,101,46,115,111,117,114,99,101,115,116,109,116]⟩
noncomputable abbrev zs12:Str:=⟨#[69,118,69,120,112,114]⟩
noncomputable abbrev zs13:Str:=⟨#[95,95,100,111,99,95,95]⟩
noncomputable abbrev zs14:Str:=⟨#[95,95,109,111,100,117,108,101,95,95]⟩
noncomputable abbrev zs15:Str:=⟨#[95,95,102,105,114,115,116,108,105,110,101,110,111,95,95]⟩
noncomputable abbrev zs16:Str:=⟨#[67,117,116,82,117,108,101]⟩
noncomputable abbrev zs17:Str:=⟨#[114,101,97,100,121]⟩
noncomputable abbrev zs18:Str:=⟨#[107,105,110,100]⟩
noncomputable abbrev zs19:Str:=⟨#[97,99,116]⟩
noncomputable abbrev zs20:Str:=⟨#[102,114,97,109,101,114,117,110,101,46,115,111,117,114,99,101,101,120,112,114]⟩
noncomputable abbrev zs21:Str:=⟨#[108,97,119,95,115,106,48,48,49,56,95,48,49]⟩
noncomputable abbrev zs22:Str:=⟨#[115,101,116]⟩
noncomputable abbrev zs23:Str:=⟨#[84,104,114,111,119,110]⟩
noncomputable abbrev zs24:Str:=⟨#[112,117,116]⟩
noncomputable abbrev zs25:Str:=⟨#[114,111,119]⟩
noncomputable abbrev zs26:Str:=⟨#[99,97,108,108]⟩
noncomputable abbrev zs27:Str:=⟨#[114,101,97,100]⟩
noncomputable abbrev zs28:Str:=⟨#[119,114,105,116,101]⟩
noncomputable abbrev zs29:Str:=⟨#[115,116,97,114,116]⟩
noncomputable abbrev zs30:Str:=⟨#[103,111,97,108]⟩
noncomputable abbrev zs31:Str:=⟨#[115,108,111,116,115]⟩
noncomputable abbrev zs32:Str:=⟨#[116,101,120,116]⟩
noncomputable abbrev zs33:Str:=⟨#[118,101,114,115,105,111,110]⟩
noncomputable abbrev zs34:Str:=⟨#[115,112,101,99,105,97,108]⟩
noncomputable abbrev zs35:Str:=⟨#[106,117,109,112]⟩
noncomputable abbrev zs36:Str:=⟨#[121,105,101,108,100]⟩
noncomputable abbrev zs37:Str:=⟨#[108,111,111,112]⟩
noncomputable abbrev zs38:Str:=⟨#[82,117,110,101,69,114,114,111,114]⟩
noncomputable abbrev zs39:Str:=⟨#[85,110,104,101,108,100]⟩
noncomputable abbrev zs40:Str:=⟨#[108,105,100,115]⟩
noncomputable abbrev zs41:Str:=⟨#[103,117,97,114,100,115]⟩
noncomputable abbrev zs42:Str:=⟨#[102,114,97,109,101,114,117,110,101,46,99,115,98,111,117,110,100]⟩
noncomputable abbrev zs43:Str:=⟨#[102,114,97,109,101,114,117,110,101,46,107,105,110,100,115]⟩
noncomputable abbrev zs44:Str:=⟨#[95,108,97,119,95,115,105,109,112,108,101,115]⟩
noncomputable abbrev zs45:Str:=⟨#[95,108,97,119,95,112,97,114,116]⟩
noncomputable abbrev zs46:Str:=⟨#[99,108,111,115,101,100,95,114,101,102]⟩
noncomputable abbrev zs47:Str:=⟨#[116,121,112,101,95,105,116,101,109]⟩
noncomputable abbrev zs48:Str:=⟨#[102,114,97,109,101,114,117,110,101,46,102,97,117,108,116,115]⟩
noncomputable abbrev zs49:Str:=⟨#[116,121,112,101,46,95,95,115,117,98,99,108,97,115,115,101,115,95,95,46,69,120,99,101,112,116,105,111,110,46,48]⟩
noncomputable abbrev zs50:Str:=⟨#[116,121,112,101,46,95,95,115,117,98,99,108,97,115,115,101,115,95,95,46,69,120,99,101,112,116,105,111,110,46,110]⟩
noncomputable abbrev zs51:Str:=⟨#[102,114,97,109,101,114,117,110,101,46,99,115,110,111,100,101,115]⟩
noncomputable abbrev zs52:Str:=⟨#[116,121,112,101,46,95,95,115,117,98,99,108,97,115,115,101,115,95,95,46,69,120,99,101,112,116,105,111,110,46,49]⟩
end
section
open PyProof.Rows PySem PySem.W
theorem Nk:PySem.W.Fast.tw9446332074065402090 PySem.Challenge.rw_sj0018_01=true:=by
  delta PySem.W.Fast.tw9446332074065402090;delta PySem.W.Fast.tw17960256430627541270;delta PySem.W.Fast.tw2436336058641802641;delta PySem.W.Fast.tw12908688711261696721;repeat' with_reducible refine look_both ?_ ?_
  all_goals as_aux_lemma=>kernel_rfl
theorem wsaid_:PySem.Challenge.rw_sj0018_01.wellSaid=true:=(congrFun PySem.W.Fast.te9446332074065402090 _).trans Nk
end
section
@[elab_as_elim]theorem Rr{d:Sort _}{a b:d}{P:d->Prop}(h:a=b)(m:P b):P a:=h▸m
@[elab_as_elim]theorem Rl{d:Sort _}{a b:d}{P:d->Prop}(h:a=b)(m:P a):P b:=h▸m
theorem sI{d:Type _}{a b:d}(h:some a=some b):a=b:=Option.some.inj h
theorem nS{c:Type _}{x:c}{P:Prop}(h:none=some x):P:=by injection h
theorem sN{c:Type _}{x:c}{P:Prop}(h:some x=none):P:=by injection h
theorem cX{P:Prop}(h:true=false):P:=by injection h
theorem fT{P:Prop}(h:false=true):P:=by injection h
theorem bL{a b:Nat}(h:Nat.ble a b=true):a<=b:=Nat.le_of_ble_eq_true h
theorem bD{p:Prop}[Decidable p](h:decide p=true):p:=of_decide_eq_true h
inductive ZC where|e|c(x:Nat)(t:ZC)
inductive ZE where|v(i:Nat)|n(k:Nat)|p(i k:Nat)|a(x y:ZE)|m(k:Nat)(x:ZE)|w(x:ZE)(k:Nat)
noncomputable def ZC.get(c:ZC):Nat->Nat:=ZC.rec (λξ=>0) (λx ξ f i=>Nat.rec x (λi ξ=>f i) i) c
noncomputable def bc(c:ZC)(x:ZE):Nat:=ZE.rec (λi=>c.get i) (λk=>k) (λi k=>c.get i+k) (λξ ξ p q=>p+q) (λk ξ p=>k*p) (λξ k p=>p*k) x
noncomputable def eL:List Nat->List Nat->List Nat|[],l=>l|a::r,l=>List.casesOn l (a::r) λb t=>(a+b)::eL r t
noncomputable def oy(k:Nat)(i:Nat):List Nat:=Nat.rec [k] (λξ l=>0::l) i
noncomputable def b7(x:ZE):List Nat:=ZE.rec (λi=>oy 1<|i+1) (λk=>[k]) (λi k=>k::oy 1 i) (λξ ξ p q=>eL p q) (λk ξ p=>p.map λξ=>k*ξ) (λξ k p=>p.map λξ=>k*ξ) x
noncomputable def gj:List Nat->List Nat->Bool|[],_=>true|a::r,l=>List.casesOn l (Nat.beq a 0&&gj r []) λb t=>Nat.ble a b&&gj r t
noncomputable def dU(c:ZC):List Nat->Nat:=ZC.rec (λξ=>0) (λx ξ f l=>List.casesOn l 0 λk r=>k*x+f r) c
noncomputable def N7(c:ZC)(l:List Nat):Nat:=dU (.c 1 c) l
theorem qu(c:ZC):dU c []=0:=by cases c<;>rfl
theorem qv(c:ZC):∀p q,dU c (eL p q)=dU c p+dU c q:=by induction c with|e=>intro p q;rfl|c x t d=>
    intro p q;rcases p with _|⟨a,r⟩;·exact(Nat.zero_add _).symm
    · rcases q with _|⟨b,s⟩;·rfl
      ·refine(?_:(a+b)*x+dU t (eL r s)=a*x+dU t r+(b*x+dU t s));rw[d,Nat.add_mul];exact Nat.add_add_add_comm ..
theorem vw(k:Nat)(c:ZC):∀p,dU c (p.map λb=>k*b)=k*dU c p:=by induction c with|e=>intro p;exact(Nat.mul_zero k).symm|c x t d=>
    intro p;rcases p with _|⟨a,r⟩;·exact(Nat.mul_zero k).symm
    ·show k*a*x+dU t (r.map λb=>k*b)=k*(a*x+dU t r);rw[d,Nat.mul_add,Nat.mul_assoc]
theorem vx:∀i(c:ZC),dU c (oy 1 i)=c.get i:=by intro i;induction i with
  |zero=>intro c;cases c with|e=>rfl|c x t=>exact(congrArg (λa=>1*x+a)<|qu t).trans<|Nat.one_mul x
  |succ i b=>intro c;cases c with|e=>rfl|c x t=>exact((congrArg (·+dU t (oy 1 i))<|Nat.zero_mul x).trans<|Nat.zero_add _).trans<|b t
theorem mS(c:ZC)(x:ZE):bc c x=N7 c (b7 x):=by induction x with|v i=>exact(vx (i+1)<|.c 1 c).symm|n k=>exact((congrArg (λb=>k*1+b)<|qu c).trans<|Nat.mul_one k).symm|p i k=>exact(Nat.add_comm _ _).trans<|congr (congrArg HAdd.hAdd (Nat.mul_one k).symm) (vx i c).symm|a x y e d=>exact(congr (congrArg HAdd.hAdd e) d).trans (qv ..).symm|m k x h=>exact(congrArg (λb=>k*b) h).trans (vw ..).symm|w x k h=>exact((congrArg (λb=>b*k) h).trans<|Nat.mul_comm ..).trans (vw ..).symm
theorem xf:∀(c:ZC)p q,gj p q=true->dU c p<=dU c q:=by intro c;induction c with|e=>intro p q _;exact Qg _|c x t g=>
    intro p q h;rcases p with _|⟨a,r⟩;·exact Nat.zero_le _
    · rcases q with _|⟨b,s⟩;·obtain⟨f,d⟩:=MK h;haveI d:=g r [] d;rw[qu]at d;refine Rr (Qm f) ?_;exact Qn<|((congrArg (λj=>j+dU t r)<|Nat.zero_mul x).trans<|Nat.zero_add _).trans<|Nat.le_zero.mp d
      ·obtain⟨f,d⟩:=MK h;exact Nat.add_le_add (Nat.mul_le_mul_right x<|bL f)<|g r s d
noncomputable def ai(a:Nat):ZC:=.c a .e
noncomputable def au(a b:Nat):ZC:=.c a<|.c b .e
noncomputable def aH(a b c:Nat):ZC:=.c a<|.c b<|.c c .e
noncomputable def b8(a b c d:Nat):ZC:=.c a<|.c b<|.c c<|.c d .e
noncomputable def ef(a b c d e:Nat):ZC:=.c a<|.c b<|.c c<|.c d<|.c e .e
noncomputable def kH(a b c d e f:Nat):ZC:=.c a<|.c b<|.c c<|.c d<|.c e<|.c f .e
noncomputable def Bn(a b c d e f g:Nat):ZC:=.c a<|.c b<|.c c<|.c d<|.c e<|.c f<|.c g .e
variable(c:ZC)
theorem af(a b x y:ZE)(d:bc c a<=bc c b)(k:gj (eL (b7 x)<|b7 b) (eL (b7 y)<|b7 a)=true):bc c x<=bc c y:=by haveI h:=xf (.c 1 c) _ _ k;rw[qv,qv]at h;rw[mS,mS]at d⊢;exact Nat.le_of_add_le_add_right<|Qh h<|Qo d _
theorem aK(x y:ZE)(k:gj (b7 x) (b7 y)=true):bc c x<=bc c y:=by rw[mS,mS];exact xf (.c 1 c) _ _ k
theorem aO(d f e b x y:ZE)(i:bc c d<=bc c f)(h:bc c e<=bc c b)(k:gj (eL (b7 x)<|b7<|.a f b) (eL (b7 y)<|b7<|.a d e)=true):bc c x<=bc c y:=af c (.a d e) (.a f b) x y (Nat.add_le_add i h) k
theorem eh(h f g d e b x y:ZE)(m:bc c h<=bc c f)(l:bc c g<=bc c d)(j:bc c e<=bc c b)(k:gj (eL (b7 x)<|b7<|.a f<|.a d b) (eL (b7 y)<|b7<|.a h<|.a g e)=true):bc c x<=bc c y:=aO c h f (.a g e) (.a d b) x y m (Nat.add_le_add l j) k
theorem ik(h g j b f i e d x y:ZE)(n:bc c h<=bc c g)(p:bc c j<=bc c b)(o:bc c f<=bc c i)(m:bc c e<=bc c d)(k:gj (eL (b7 x)<|b7<|.a g<|.a b<|.a i d) (eL (b7 y)<|b7<|.a h<|.a j<|.a f e)=true):bc c x<=bc c y:=eh c h g j b (.a f e) (.a i d) x y n p (Nat.add_le_add o m) k
theorem N8(l i b m f g e h d j x y:ZE)(s:bc c l<=bc c i)(q:bc c b<=bc c m)(o:bc c f<=bc c g)(r:bc c e<=bc c h)(p:bc c d<=bc c j)(k:gj (eL (b7 x)<|b7<|.a i<|.a m<|.a g<|.a h j) (eL (b7 y)<|b7<|.a l<|.a b<|.a f<|.a e d)=true):bc c x<=bc c y:=ik c l i b m f g (.a e d) (.a h j) x y s q o (Nat.add_le_add r p) k
theorem eR(x y:ZE)(k:(gj (b7 x) (b7 y)&&gj (b7 y) (b7 x))=true):bc c x=bc c y:=haveI k:=MK k
  Nat.le_antisymm (aK c x y k.1)<|aK c y x k.2
theorem cF(x y:Nat):x<=x-y+y:=Nat.sub_le_iff_le_add.mp<|Qg _
theorem bW{x y:Nat}(h:y<=x):x-y+y<=x:=Qn<|Nat.sub_add_cancel h
theorem i4{x y:Nat}(h:x=y):y<=x:=Qn h.symm
theorem N9{G:Prop}(h:1<=0):G:=absurd h<|Nat.not_succ_le_zero 0
example(a b d:Nat)(h:a+3<=b)(h2:b<d):a+2<=d:=aO (aH _ _ _) (.p 0 3) (.v 1) (.p 1 1) (.v 2) (.p 0 2) (.v 2) h h2 rfl
theorem tJ{a b:Bool}(h:(a&&b)=true):a=true/\b=true:=MK h
theorem Oa{a b c:Bool}(h:(a&&b&&c)=true):a=true/\b=true/\c=true:=haveI k:=tJ h;haveI l:=tJ k.1;⟨l.1,l.2,k.2⟩
theorem tK{a b c d:Bool}(h:(a&&b&&c&&d)=true):a=true/\b=true/\c=true/\d=true:=haveI k:=tJ h;haveI l:=Oa k.1;⟨l.1,l.2.1,l.2.2,k.2⟩
theorem mu:∀c,c<2->c=0\/c=1:=bD rfl
theorem pL:∀c,c<3->c=0\/c=1\/c=2:=bD rfl
theorem Ob:∀c,c<6->c=0\/c=1\/c=2\/c=3\/c=4\/c=5:=bD rfl
theorem Oc:∀c,c<9->c=0\/c=1\/(c=2\/c=3\/c=4)\/c=5\/c=6\/c=7\/c=8:=bD rfl
theorem Bo(D d:Nat)(h:d<3):D+(8+3*(4-(d+1)))=D+(5+3*(4-d)):=congrArg (D+·)<|(bD rfl:∀d,d<3->8+3*(4-(d+1))=5+3*(4-d)) d h
theorem ip{a b:Nat}(h:a<b):decide ((a:Int)<b)=true:=decide_eq_true<|Int.ofNat_lt.mpr h
theorem mw{a b:Nat}(h:¬a<b):decide ((a:Int)<b)=false:=decide_eq_false λk=>h<|Int.ofNat_lt.mp k
theorem cps{p:Prop}(h:∀G:Prop,(p->G)->G):p:=h p id
theorem cW{a:Bool}(h:(!a)=true):a=false:=by cases a<;>first|rfl|injection h
end
section
open PySem
section
inductive AV where|none|bool(b:Bool)|int(i:Int)|str(s:Str)|tup(l:List AV)|fl(l:List AV)|rng(a b c:Int)|ref(r i:Nat)|con(a:Nat)|imm(s:String)|fi(C:Nat)(f:List<|Str×AV)deriving Inhabited
noncomputable def AV.ctorIdx(v:AV):Nat:=AV.casesOn v 0 (λξ=>1) (λξ=>2) (λξ=>3) (λξ=>4) (λξ=>5) (λξ ξ ξ=>6) (λξ ξ=>7) (λξ=>8) (λξ=>9) λξ ξ=>10
noncomputable abbrev TK:=List<|Int⊕List Int
inductive AO where|list(l:List AV)|inst(C:Nat)(f:List<|Str×AV)|edict|idict(l:List<|Int×AV)|sdict(l:List<|Str×AV)|tdict(l:List<|TK×AV)deriving Inhabited
noncomputable def AO.ctorIdx(v:AO):Nat:=AO.casesOn v (λξ=>0) (λξ ξ=>1) 2 (λξ=>3) (λξ=>4) λξ=>5
noncomputable abbrev AS:=List<|List AO
noncomputable def aa{α:Type}:List α->Nat->Option α|[],_=>none|a::l,n=>Nat.casesOn n (some a) λn=>aa l n
noncomputable def aD{α:Type}(f:α->α):List α->Nat->List α|[],_=>[]|a::l,n=>Nat.casesOn n (f a::l) λn=>a::aD f l n
noncomputable def gt(σ:AS)(r i:Nat):Option AO:=(aa σ r).bind λl=>aa l i
noncomputable def pt(σ:AS)(r i:Nat)(o:AO):AS:=aD (λl=>aD (λξ=>o) l i) σ r
noncomputable def nw(σ:AS)(r:Nat)(o:AO):AS:=aD (λl=>l++[o]) σ r
noncomputable def nx(σ:AS)(r:Nat):Option Nat:=(aa σ r).map List.length
noncomputable def pM:List Nat->List Nat->Bool|[],l=>l.isEmpty|a::r,l=>match l with|[]=>false|b::t=>Nat.beq a b&&pM r t
noncomputable def sF(a b:Str):Bool:=pM a.cps.toList b.cps.toList
noncomputable def iF(a b:Int):Bool:=decide<|a=b
noncomputable def tF(a b:TK):Bool:=decide<|a=b
noncomputable def aP{α:Type}(eq:α->α->Bool):List (α×AV)->α->Option AV|[],_=>none|p::r,x=>bif eq p.1 x then some p.2 else aP eq r x
noncomputable def bj{α:Type}(eq:α->α->Bool):List (α×AV)->α->AV->List (α×AV)|[],x,v=>[(x,v)]|p::r,x,v=>bif eq p.1 x then(p.1,v)::r else p::bj eq r x v
noncomputable def bt:List (Str×NameKind)->Str->Option NameKind|[],_=>none|p::r,x=>bif sF p.1 x then some p.2 else bt r x
inductive R(α:Type)where|ok(v:α)(σ:AS)|ex(e:AV)(σ:AS)|stuck
noncomputable def R.ctorIdx{α:Type}(v:R α):Nat:=R.casesOn v (λξ ξ=>0) (λξ ξ=>1) 2
inductive Fl where|next|brk|cont|ret(v:AV)
noncomputable def Fl.ctorIdx(v:Fl):Nat:=Fl.casesOn v 0 1 2 λξ=>3
noncomputable abbrev aq:=List<|Str×AV
inductive S where|go(f:Fl)(loc:aq)(σ:AS)|ex(e:AV)(loc:aq)(σ:AS)|stuck
noncomputable def S.ctorIdx(v:S):Nat:=S.casesOn v (λξ ξ ξ=>0) (λξ ξ ξ=>1) 2
inductive Cd where|ret(s:S)|ao(o:Option AO)(k:AO->Cd)|av(o:Option AV)(k:AV->Cd)|bo(o:Option Bool)(k:Bool->Cd)|call(hd:Bool)(f:Nat)(a:List AV)(σ:AS)(k x:AV->AS->Cd)|sub(p:Cd)(k:Fl->aq->AS->Cd)(x:AV->aq->AS->Cd)
noncomputable def Cd.ctorIdx(v:Cd):Nat:=Cd.casesOn v (λξ=>0) (λξ ξ=>1) (λξ ξ=>2) (λξ ξ=>3) (λξ ξ ξ ξ ξ ξ=>4) λξ ξ ξ=>5
noncomputable abbrev KV:=AV->AS->Cd
noncomputable abbrev f7:=Bool->Nat->List AV->AS->R AV
noncomputable def stk:Cd:=.ret .stuck
noncomputable def Cd.ev(cf:f7):Cd->S
 |.ret s=>s|.ao o k=>match o with|some a=>(k a).ev cf|none=>.stuck
 |.av o k=>match o with|some a=>(k a).ev cf|none=>.stuck
 |.bo o k=>match o with|some a=>(k a).ev cf|none=>.stuck
 |.call hd f a σ k x=>match cf hd f a σ with|.ok v σ=>(k v σ).ev cf|.ex e σ=>(x e σ).ev cf|.stuck=>.stuck
 |.sub p k x=>match p.ev cf with|.go fl loc σ=>(k fl loc σ).ev cf|.ex e loc σ=>(x e loc σ).ev cf|.stuck=>.stuck
structure Fn where
 params:List Str
 body:List Stmt
 scope:Scope
inductive dm where|arg(i:Nat)|val(v:AV)
structure cL where
 gl:Str->Option AV
 bl:Str->Option String
 fn:Nat->Option Fn
 meth:Nat->Str->Option Nat
 init:Nat->Option (Nat×Nat)fz:Nat->List AV->Option (List<|Str×dm)sub:Nat->Nat->Bool
 exc:Nat->Bool
 attr:Nat->Str->Bool
 cd:Nat->Option AO
 kd:Nat->Nat
 rg:Nat->Nat->Option Nat
structure Ctx where
 sc:Scope
 cells:aq
 hd:Bool
 ll:Option Str
 re:Bool
namespace N
noncomputable def append:Str:=⟨#[97,112,112,101,110,100]⟩
noncomputable def pop:Str:=⟨#[112,111,112]⟩
noncomputable def get:Str:=⟨#[103,101,116]⟩
noncomputable def super:Str:=⟨#[115,117,112,101,114]⟩
noncomputable def debug:Str:=⟨#[95,95,100,101,98,117,103,95,95]⟩
noncomputable def classdict:Str:=⟨#[95,95,99,108,97,115,115,100,105,99,116,95,95]⟩
end N
noncomputable def LN:Nat:=16000000
noncomputable def aE{α:Type}(l:List α):Bool:=Nat.blt l.length LN
noncomputable def bb{α:Type}(o:Option α)(k:α->Cd):Cd:=match o with|some a=>k a|none=>stk
noncomputable def oel{α:Type}(o:Option α)(n:Cd)(k:α->Cd):Cd:=match o with|some a=>k a|none=>n
noncomputable def grd(b:Bool)(c:Cd):Cd:=bif b then c else stk
noncomputable def gF:List AV->Option (List Int)|[]=>some []|v::r=>match v with|.int i=>(gF r).map λξ=>i::ξ|_=>none
noncomputable def yN(v:AV):Option<|Int⊕List Int:=match v with|.int i=>some<|.inl i|.tup l=>(gF l).map .inr|_=>none
noncomputable def q9:List AV->Option TK|[]=>some []|v::r=>(yN v).bind λk=>(q9 r).map λξ=>k::ξ
noncomputable def AV.key?(v:AV):Option TK:=match v with|.tup l=>q9 l|_=>Option.none
noncomputable def fH(f:AV->AV->Option Bool):List AV->List AV->Option Bool|[],y=>some y.isEmpty|a::x,y=>match y with|[]=>some false|b::y=>(f a b).bind λp=>(fH f x y).map λξ=>p&&ξ
noncomputable def dy:Nat->AV->AV->Option Bool|0,_,_=>none|n+1,a,b=>match a with
  |.none=>match b with|.none=>some true|.int _=>some false|_=>none 
  |.bool x=>match b with|.bool y=>some<|x==y|.int y=>some<|decide<|(if x then 1 else 0)=y|_=>none 
  |.int x=>match b with|.none=>some false|.int y=>some<|iF x y|.bool y=>some<|decide<|(if y then 1 else 0)=x|.str _=>some false|_=>none 
  |.str x=>match b with|.str y=>some<|sF x y|.int _=>some false|_=>none 
  |.tup x=>match b with|.tup y=>fH (dy n) x y|_=>none 
  |.fl x=>match b with|.fl y=>if x.length=y.length then fH (dy n) x y else some false|_=>none 
  |_=>none
noncomputable def truthy(v:AV):Option Bool:=match v with|.none=>some false|.bool b=>some b|.int i=>some !iF i 0|.tup l=>if aE l then some !l.isEmpty else none|.fl l=>if aE l then some !l.isEmpty else none|_=>none
noncomputable def isNone(v:AV):Bool:=match v with|.none=>true|_=>false
noncomputable def lN(v:AV):Bool:=match v with|.imm _=>true|_=>false
noncomputable def tM(T:cL)(C:Nat)(f:List<|Str×AV)(x:Str):Option AV:=if T.attr C x then(aP sF f x).bind λa=>if lN a then none else some a else none
noncomputable def zQ(T:cL)(v:AV)(x:Str)(σ:AS)(k:KV):Cd:=match v with
 |.ref r i=>.ao (gt σ r i) λo=>match o with|.inst C f=>bb (tM T C f x) λa=>k a σ|_=>stk
 |.fi C f=>bb (tM T C f x) λa=>k a σ|_=>stk
noncomputable def zR(T:cL)(v:AV)(x:Str)(a:AV)(σ:AS)(k:AS->Cd):Cd:=match v with
 |.ref r i=>.ao (gt σ r i) λo=>match o with|.inst C f=>grd (T.attr C x&&aE f&&!T.exc C)<|k<|pt σ r i<|.inst C<|bj sF f x a|_=>stk
 |_=>stk
noncomputable def dW(o:AO)(k:AV):Option<|Option AV:=match o with
 |.edict=>match k with|.int _=>some none|.str _=>some none|k=>k.key?.map λξ=>none 
 |.idict l=>match k with|.int i=>some<|aP iF l i|_=>none 
 |.sdict l=>match k with|.str i=>some<|aP sF l i|_=>none 
 |.tdict l=>k.key?.map λt=>aP tF l t|_=>none
noncomputable def L7(o:AO)(k v:AV):Option AO:=match o with
 |.edict=>match k with|.int i=>some<|.idict [(i,v)]|.str i=>some<|.sdict [(i,v)]|k=>k.key?.map λt=>.tdict [(t,v)] 
 |.idict l=>match k with|.int i=>if aE l then some<|.idict<|bj iF l i v else none|_=>none 
 |.sdict l=>match k with|.str i=>if aE l then some<|.sdict<|bj sF l i v else none|_=>none 
 |.tdict l=>if aE l then k.key?.map λt=>.tdict<|bj tF l t v else none|_=>none
noncomputable def bV(i:Int):Option Nat:=match i with|.ofNat n=>some n|_=>none
noncomputable def bG(l:List AV)(i:Int):Option AV:=if aE l then(bV i).bind<|aa l else none
noncomputable def item(o k:AV)(σ:AS)(K:KV):Cd:=match o with
 |.tup l=>match k with|.int i=>.av (if aE l then(seqIndex? i l.length).bind<|aa l else none) λv=>K v σ|_=>stk 
 |.fl l=>match k with|.int i=>.av (bG l i) λv=>K v σ|_=>stk 
 |.ref r i=>.ao (gt σ r i) λo=>match o with
  |.list l=>match k with|.int i=>.av (bG l i) λv=>K v σ|_=>stk 
  |o=>.av ((dW o k).bind id) λv=>K v σ
 |_=>stk
noncomputable def oA(o:AO)(k v:AV):Option AO:=match o with
 |.list l=>match k with|.int j=>if aE l then(bV j).bind λj=>if Nat.blt j l.length then some<|.list<|aD (λξ=>v) l j else none else none|_=>none 
 |o=>L7 o k v
noncomputable def v8(o k v:AV)(σ:AS)(K:AS->Cd):Cd:=match o with|.ref r i=>.ao (gt σ r i) λo=>.ao (oA o k v) λo=>K<|pt σ r i o|_=>stk
noncomputable def kI(l:List AV)(lo hi:Option AV):Option<|List AV:=if aE l then match lo with
  |none=>match hi with|some<|.int h=>(bV h).map λn=>l.take n|_=>none 
  |some<|.int a=>match hi with|none=>(bV a).map λn=>l.drop n|_=>none 
  |_=>none else none
noncomputable def dE(o:AV)(lo hi:Option AV)(σ:AS)(K:KV):Cd:=match o with
 |.fl l=>.av ((kI l lo hi).map .fl) λv=>K v σ|.ref r i=>.ao (gt σ r i) λo=>match o with|.list l=>.av ((kI l lo hi).map .fl) λv=>K v σ|_=>stk
 |_=>stk
noncomputable def sL(o:AO)(lo:AV):Option AO:=match o with
 |.list l=>match lo with|.int j=>if aE l then(bV j).map λj=>.list<|l.take j else none|_=>none 
 |_=>none
noncomputable def vy(o lo:AV)(σ:AS)(K:AS->Cd):Cd:=match o with|.ref r i=>.ao (gt σ r i) λo=>.ao (sL o lo) λo=>K<|pt σ r i o|_=>stk
noncomputable def tN(op:Operator)(a b:AV):Option AV:=match a with
 |.int x=>match b with
  |.int y=>match op with|.Add=>some<|.int<|x+y|.Sub=>some<|.int<|x-y|.Mult=>if Builtin.Int.intBits x<=64 then some<|.int<|x*y else none|.FloorDiv=>if y=0 then none else if Builtin.divisionGoesByPylong x y then none else some<|.int<|x.fdiv y|.Mod=>if y=0 then none else some<|.int<|x.fmod y|.BitAnd=>some<|.int<|Builtin.bitAnd x y|.BitOr=>some<|.int<|Builtin.bitOr x y|_=>none 
  |.bool y=>match op with|.Mult=>some<|.int<|x*if y=true then(1:Int)else 0|_=>none 
  |_=>none 
 |_=>none
noncomputable def sM(op:CmpOp)(x y:Int):Option Bool:=match op with|.Lt=>some<|decide<|x<y|.LtE=>some<|decide<|x<=y|.Gt=>some<|decide<|y<x|.GtE=>some<|decide<|y<=x|_=>none
noncomputable def tQ(T:cL)(op:CmpOp)(a b:AV)(σ:AS)(k:Bool->Cd):Cd:=match op with
 |.Is=>match b with|.none=>grd (!lN a)<|k<|isNone a|_=>stk 
 |.IsNot=>match b with|.none=>grd (!lN a)<|k !isNone a|_=>stk 
 |.Eq=>.bo (dy 20 a b) k|.NotEq=>.bo (dy 20 a b) λb=>k !b|.In=>match b with|.ref r i=>.ao (gt σ r i) λo=>.bo ((dW o a).map Option.isSome) k|.con c=>bb (T.cd c) λo=>.bo ((dW o a).map Option.isSome) k|_=>stk 
 |op=>match a with|.int x=>(match b with|.int y=>.bo (sM op x y) k|_=>stk)|_=>stk
noncomputable def yO(c:Const):Option AV:=match c with|.none=>some .none|.bool b=>some<|.bool b|.int i=>some<|.int i|.str s=>some<|.str s|_=>none
noncomputable def Od(l:List Str)(x:Str):Bool:=l.any λy=>sF y x
noncomputable def cY(c:Ctx)(x:Str):Bool:=c.ll.any λy=>sF y x
noncomputable def iq(k:Nat)(o:Option NameKind):Bool:=o.any λx=>Nat.beq x.ctorIdx k
theorem gk[Decidable p]{b:Type _}{f:p->Option b}{x:b}(e:(if h:p then f h else none)=some x):∃h,f h=some x:=by
 by_cases q:p;·exact⟨q,(dif_pos q).symm.trans e⟩
 ·rw[dif_neg q]at e;injection e
theorem bY(e:o.any p=true):∃x,o=some x/\p x=true:=by
 rcases o with _|x;·injection e
 ·exact⟨x,rfl,e⟩
theorem jr{f:b->Option c}(e:o.bind f=some y):∃x,o=some x/\f x=some y:=P5 e
theorem jy{d:Type _}{x y z:d}(e:(bif b then x else y)=z):b=true/\x=z\/b=false/\y=z:=by cases b with|true=>exact .inl ⟨rfl,e⟩|false=>exact .inr ⟨rfl,e⟩
theorem jj(e:iq c.ctorIdx o=true):o=some c:=(bY e).elim λx h=>h.1.trans<|congrArg some<|(NameKind.ofNat_ctorIdx x).symm.trans<|(congrArg NameKind.ofNat<|Qm h.2).trans<|NameKind.ofNat_ctorIdx c
noncomputable def yP(v:AV):Option Nat:=AV.casesOn v none (λξ=>none) (λξ=>none) (λξ=>none) (λξ=>none) (λξ=>none) (λξ ξ ξ=>none) (λξ ξ=>none) some (λξ=>none) λξ ξ=>none
theorem DM:yP v=some n->v=.con n:=AV.casesOn v nS (λξ=>nS) (λξ=>nS) (λξ=>nS) (λξ=>nS) (λξ=>nS) (λξ ξ ξ=>nS) (λξ ξ=>nS) (λb h=>congrArg _<|sI h) (λξ=>nS) λξ ξ=>nS
noncomputable def name(T:cL)(c:Ctx)(loc:aq)(x:Str):Option AV:=bif iq 0<|bt c.sc.names x then bif cY c x&&!c.re then none else aP sF loc x else bif iq 1<|bt c.sc.names x then aP sF c.cells x else bif iq 2<|bt c.sc.names x then aP sF c.cells x else bif iq 4<|bt c.sc.names x then(T.gl x).elim ((T.bl x).map .imm) some else none
set_option genCtorIdx true in
inductive BM where|append|pop|get
noncomputable def nE(m:BM)(o:AO)(args:List AV)(put:AO->AS)(σ:AS)(k:KV):Cd:=match m with
 |.append=>match o with|.list l=>(match args with|[v]=>.ao (if aE l then some<|.list<|l++[v]else none) λo=>k .none<|put o|_=>stk)|_=>stk 
 |.pop=>match o with|.list l=>(match args with|[]=>.av (if aE l then l.getLast? else none) λv=>k v<|put<|.list l.dropLast|_=>stk)|_=>stk 
 |.get=>match args with|[]=>stk|a::r=>match r with|[]=>.av ((dW o a).map λr=>r.getD .none) λv=>k v σ|d::r=>match r with|[]=>.av ((dW o a).map λr=>r.getD d) λv=>k v σ|_=>stk
noncomputable def sm(i:Int):Bool:=decide (-1000000000<=i)&&decide (i<=1000000000)
noncomputable def oB(l:List AV)(σ:AS)(k:KV):Cd:=.av (if aE l then some<|.int l.length else none) λv=>k v σ
noncomputable def rU(l:List Int):Option AV:=match l with|[]=>none|a::r=>match r with|[]=>if sm a then some<|.rng 0 a 1 else none|b::r=>match r with|[]=>none|c::r=>if r.isEmpty&&sm a&&sm b&&iF c (-1)then some<|.rng a b c else none
noncomputable def rV(l:List Int):Option Int:=match l with|[]=>none|a::r=>match r with|[]=>none|b::r=>if r.isEmpty then some<|if b<a then b else a else none
noncomputable def zS(v:AV)(σ:AS)(k:KV):Cd:=match v with
 |.tup l=>oB l σ k|.fl l=>oB l σ k|.ref r i=>.ao (gt σ r i) λo=>match o with|.list l=>oB l σ k|_=>stk
 |_=>stk
noncomputable def zT(v:AV):Option AV:=match v with|.fl l=>if aE l then some<|.tup l else none|_=>none
noncomputable def sole{α:Type}(l:List α)(k:α->Cd):Cd:=match l with|[]=>stk|a::r=>match r with|[]=>k a|_=>stk
noncomputable def yQ(hd:Bool)(f:String)(args:List AV)(σ:AS)(k:KV):Cd:=if f="len"then sole args λv=>zS v σ k else if f="min"then grd (!hd)<|bb ((gF args).bind rV) λi=>k (.int i) σ else if f="range"then .av ((gF args).bind rU) λv=>k v σ else if f="tuple"then sole args λv=>.av (zT v) λv=>k v σ else stk
noncomputable def gH(args:List AV)(l:List<|Str×dm):List<|Str×AV:=l.map λp=>(p.1,match p.2 with|.arg i=>(aa args i).getD .none|.val v=>v)
noncomputable def rW(T:cL)(hd:Bool)(f:AV)(args:List AV)(σ:AS)(k x:KV):Cd:=match f with|.imm s=>yQ hd s args σ k|.con a=>oel (T.fn a) (oel (T.fz a args) (bb (T.init a) λp=>bb (nx σ p.2) λn=>.call hd p.1 (.ref p.2 n::args) (nw σ p.2<|.inst a []) (λv σ'=>grd (isNone v)<|k (.ref p.2 n) σ') x) λξ=>.call hd a args σ k x) λξ=>.call hd a args σ k x|_=>stk
noncomputable def qH(T:cL)(v:AV):Bool:=match v with|.imm _=>true|.con a=>(T.fn a).isSome||(T.init a).isSome||(T.fz a []).isSome|_=>false
inductive Bp where|fn(f:Nat)|bm(m:BM)
noncomputable def zU(o:AO)(x:Str):Option BM:=match o with|.list _=>if sF x N.append then some .append else if sF x N.pop then some .pop else none|.inst _ _=>none|_=>if sF x N.get then some .get else none
noncomputable def Bq(T:cL)(v:AV)(x:Str)(σ:AS)(k:Bp->Cd):Cd:=match v with
 |.ref r i=>.ao (gt σ r i) λo=>match o with|.inst C fl=>grd (aP sF fl x).isNone<|bb (T.meth C x) λf=>k<|.fn f|o=>bb (zU o x) λm=>k<|.bm m
 |.fi C fl=>grd (aP sF fl x).isNone<|bb (T.meth C x) λf=>k<|.fn f|.con a=>grd ((T.cd a).isSome&&sF x N.get)<|k<|.bm .get|_=>stk
noncomputable def lO(T:cL)(hd:Bool)(m:Bp)(o:AV)(args:List AV)(σ:AS)(k x:KV):Cd:=match m with|.fn f=>.call hd f (o::args) σ k x|.bm m=>match o with|.ref r i=>.ao (gt σ r i) λob=>nE m ob args (pt σ r i) σ k|.con a=>bb (T.cd a) λob=>nE m ob args (λξ=>σ) σ k|_=>stk
noncomputable def d9(a:Int):Nat->List AV|0=>[]|n+1=>.int a::d9 (a+1) n
noncomputable def iO(a:Int):Nat->List AV|0=>[]|n+1=>.int a::iO (a-1) n
noncomputable def iter(v:AV):Option AV:=match v with|.tup l=>some<|.fl l|.fl l=>some<|.fl l|.rng a b c=>if !(sm a&&sm b)then none else if c=1 then some<|.fl<|d9 a (b-a).toNat else if c=-1 then some<|.fl<|iO a (a-b).toNat else none|_=>none
noncomputable def tR(v:AV)(k:List AV->Cd):Cd:=.av (iter v) λv=>match v with|.fl l=>k l|_=>stk
noncomputable abbrev jJ:=Ctx->aq->Expr->AS->KV->KV->Cd
noncomputable def fN(E:Expr->AS->KV->KV->Cd):List Expr->AS->(List AV->AS->Cd)->KV->Cd|[],σ,k,_=>k [] σ|e::r,σ,k,x=>E e σ (λv σ=>fN E r σ (λvs σ=>k (v::vs) σ) x) x
noncomputable def mx(E:Expr->AS->KV->KV->Cd)(o:Option Expr)(σ:AS)(k:Option AV->AS->Cd)(x:KV):Cd:=match o with|none=>k none σ|some e=>E e σ (λv σ=>k (some v) σ) x
noncomputable def sO(E:Expr->AS->KV->KV->Cd):List Expr->AS->KV->KV->Cd|[],_,_,_=>stk|e::r,σ,k,x=>match r with|[]=>E e σ k x|_=>E e σ (λv σ=>.bo (truthy v) λb=>bif b then sO E r σ k x else k v σ) x
noncomputable def tS(E:Expr->AS->KV->KV->Cd):List Expr->AS->KV->KV->Cd|[],_,_,_=>stk|e::r,σ,k,x=>match r with|[]=>E e σ k x|_=>E e σ (λv σ=>.bo (truthy v) λb=>bif b then k v σ else tS E r σ k x) x
noncomputable def kc(E:Expr->AS->KV->KV->Cd):List (Option Expr)->List Expr->AS->(List (AV×AV)->AS->Cd)->KV->Cd|[],_,σ,k,_=>k [] σ|o::ks,vs,σ,k,x=>match o with|none=>stk|some e=>match vs with|[]=>stk|v::vs=>E e σ (λa σ=>E v σ (λb σ=>kc E ks vs σ (λr σ=>k ((a,b)::r) σ) x) x) x
noncomputable def rX:List (AV×AV)->Option (List<|Int×AV)|[]=>some []|p::r=>match p.1 with|.int i=>(rX r).map ((i,p.2)::·)|_=>none
noncomputable def rY:List (AV×AV)->Option (List<|Str×AV)|[]=>some []|p::r=>match p.1 with|.str i=>(rY r).map ((i,p.2)::·)|_=>none
noncomputable def eS{β:Type}(e:Expr)(i:Nat)(n:β)(k:e.ctorIdx=i->β):β:=if h:e.ctorIdx=i then k h else n
noncomputable def i5(e:Expr)(i:Nat):Bool:=Nat.beq e.ctorIdx i
noncomputable def eD(e:Expr):Option Str:=eS e 23 none λh=>Expr.Name.elim e h λx ξ=>some x
noncomputable def my(e:Expr):Option<|Expr×Str×Pos:=eS e 20 none λh=>Expr.Attribute.elim e h λo n p=>some (o,n,p)
noncomputable def tT(e:Expr):Option<|Expr×Expr:=eS e 21 none λh=>Expr.Subscript.elim e h λo i ξ=>some (o,i)
noncomputable def pN(e:Expr):Option<|Expr×List Expr×List Keyword×Pos:=eS e 16 none λh=>Expr.Call.elim e h λf a k p=>some (f,a,k,p)
noncomputable def tU(e:Expr):Option<|List Expr:=eS e 25 none λh=>Expr.Tuple.elim e h λl ξ ξ=>some l
noncomputable def tW(e:Expr):Option<|List Expr×Pos:=eS e 24 none λh=>Expr.List.elim e h λl p=>some (l,p)
noncomputable def lX(e:Expr):Option<|Option Expr×Option Expr×Option Expr:=eS e 26 none λh=>Expr.Slice.elim e h λlo hi st ξ=>some (lo,hi,st)
noncomputable def zV(e:Expr):Option<|List (Option Expr)×List Expr:=eS e 6 none λh=>Expr.Dict.elim e h λks vs ξ=>some (ks,vs)
noncomputable def G7(e:Expr):Bool:=eS e 19 false λh=>Expr.Constant.elim e h λc ξ ξ=>Nat.beq c.ctorIdx 5
noncomputable def lY(ks:List<|Option Expr):Bool:=ks.all λo=>match o with|some e=>G7 e|none=>false
noncomputable def oE{α:Type}(eq:α->α->Bool):List (α×AV)->Bool|[]=>true|p::r=>!(r.any λq=>eq q.1 p.1)&&oE eq r
noncomputable def pO(z:Bool)(l:List<|AV×AV):Option AO:=match l with|[]=>some .edict|_=>bif z then(rY l).bind λr=>if oE sF r then some<|.sdict r else none else(rX l).bind λr=>if oE iF r then some<|.idict r else none
noncomputable def j7(o:Option NameKind):Bool:=iq 0 o
noncomputable def fD(c:Ctx)(x:Str):Bool:=j7<|bt c.sc.names x
noncomputable def bindL(c:Ctx):List Expr->List AV->aq->Option aq
 |[],[],loc=>some loc|t::ts,vs,loc=>(eD t).bind λx=>match vs with|v::vs=>if fD c x&&!cY c x then bindL c ts vs<|bj sF loc x v else none|[]=>none
 |[],_::_,_=>none
noncomputable def nF(c:Ctx)(t:Expr)(v:AV)(loc:aq):Option aq:=(eD t).elim ((tU t).bind λts=>match v with|.tup l=>bindL c ts l loc|_=>none) λx=>if fD c x&&!cY c x then some<|bj sF loc x v else none
noncomputable def mT(e:Expr):Bool:=(pN e).any λq=>(eD q.1).any λn=>sF n N.super
noncomputable def fB(e:Expr):Bool:=i5 e 22
noncomputable def ke(e:Expr):Bool:=i5 e 7
noncomputable def jk(e:Expr):Bool:=i5 e 8||i5 e 9||i5 e 10
noncomputable def pP(v:AV)(k:Bool->Cd):Cd:=.bo (truthy v) k
noncomputable def kf(E:aq->AS->KV->Cd)(P:aq->AS->(Bool->AS->Cd)->Cd)(x:Str):List AV->List AV->AS->Cd|[],acc,σ=>.ret<|.go (.ret<|.fl acc) [] σ|v::r,acc,σ=>P [(x,v)] σ λb σ=>bif b then E [(x,v)] σ λy σ=>.bo (some<|aE acc) λb=>grd b<|kf E P x r (acc++[y]) σ else kf E P x r acc σ
noncomputable abbrev kJ:=Ctx->aq->Expr->AS->(Bool->AS->Cd)->KV->Cd
noncomputable def ir:KV:=λξ ξ=>stk
noncomputable def mU(Ts:aq->Expr->AS->(Bool->AS->Cd)->KV->Cd)(ifs:List Expr)(loc:aq)(σ:AS)(k:Bool->AS->Cd):Cd:=match ifs with|[]=>k true σ|t::r=>match r with|[]=>Ts loc t σ k ir|_=>stk
noncomputable def iE(o:Option NameKind):Bool:=iq 1 o
noncomputable def gY(sc outer:Scope):Scope:={sc with names:=sc.names.map λp=>if p.2==.free&&iE (bt outer.names p.1)then(p.1,.cell)else p}
noncomputable def yR(k:ScopeKind):Bool:=Nat.beq k.ctorIdx 1
noncomputable def gI(sc:Scope):Bool:=(bt sc.names N.debug).isNone&&(bt sc.names N.classdict).isNone&&yR sc.kind&&!sc.isGenerator&&!sc.isCoroutine
noncomputable def oF(sc:Scope)(cells:aq)(p:Str×NameKind):Bool:=!Nat.beq p.2.ctorIdx 1&&bif Nat.beq p.2.ctorIdx 2 then(aP sF cells p.1).isSome else bif Nat.beq p.2.ctorIdx 0 then j7<|bt sc.names p.1 else true
noncomputable def je(o:Option NameKind):Bool:=iq 2 o
noncomputable def xg(sc outer:Scope)(cells:aq)(x:Str):Bool:=gI sc&&gI (gY sc outer)&&sc.names.all (oF sc cells)&&j7 (bt sc.names x)&&yR outer.kind
noncomputable def oG(Ts:Expr->AS->(Bool->AS->Cd)->KV->Cd)(a:Bool):List Expr->AS->(Bool->AS->Cd)->KV->Cd|[],σ,k,_=>k a σ|e::r,σ,k,x=>Ts e σ (λb σ=>bif b==a then oG Ts a r σ k x else k b σ) x
noncomputable def Oe(T:cL)(E:jJ)(Ts:kJ)(c:Ctx)(loc:aq)(e:Expr)(σ:AS)(k x:KV):Cd:=match e with
 |.Constant v _ _=>bb (yO v) λv=>k v σ|.Name n _=>bb (name T c loc n) λv=>k v σ|.BoolOp o l _=>match o with|.And=>sO (E c loc) l σ k x|.Or=>tS (E c loc) l σ k x 
 |.BinOp a op b _=>E c loc a σ (λu σ=>E c loc b σ (λv σ=>.av (tN op u v) λw=>k w σ) x) x|.UnaryOp o a _=>match o with|.Not=>E c loc a σ (λu σ=>pP u λb=>k (.bool !b) σ) x|.USub=>E c loc a σ (λu σ=>match u with|.int i=>k (.int<|-i) σ|_=>stk) x|_=>stk 
 |.IfExp t a b _=>Ts c loc t σ (λz σ=>bif z then E c loc a σ k x else E c loc b σ k x) x|.Compare a os bs _=>sole os λop=>sole bs λb=>grd (!ke b)<|E c loc a σ (λu σ=>E c loc b σ (λv σ=>tQ T op u v σ λb=>k (.bool b) σ) x) x|.Tuple l _ _=>grd (Nat.ble l.length 64)<|fN (E c loc) l σ (λvs σ=>k (.tup vs) σ) x|.List l p=>grd (Nat.ble l.length 64)<|fN (E c loc) l σ (λvs σ=>match T.rg p.line p.col with|none=>k (.fl vs) σ|some r=>bb (nx σ r) λn=>k (.ref r n)<|nw σ r<|.list vs) x|.Dict ks vs p=>grd (Nat.ble ks.length 15&&ks.length==vs.length&&ks.all Option.isSome)<|kc (E c loc) ks vs σ (λl σ=>bb (pO (lY ks) l) λo=>bb (T.rg p.line p.col) λr=>bb (nx σ r) λn=>k (.ref r n)<|nw σ r o) x|.Attribute o n _=>grd (!mT o)<|E c loc o σ (λv σ=>zQ T v n σ k) x|.Subscript o i _=>oel (lX i) (oel (zV o) (E c loc o σ (λv σ=>E c loc i σ (λa σ=>item v a σ k) x) x) λd=>grd (Nat.ble d.1.length 15&&d.1.length==d.2.length&&d.1.all Option.isSome)<|kc (E c loc) d.1 d.2 σ (λl σ=>bb (pO (lY d.1) l) λo=>E c loc i σ (λa σ=>.av ((dW o a).bind id) λv=>k v σ) x) x) λs=>grd s.2.2.isNone<|E c loc o σ (λv σ=>mx (E c loc) s.1 σ (λa σ=>mx (E c loc) s.2.1 σ (λb σ=>dE v a b σ k) x) x) x|.Call f args kw pos=>grd (kw.isEmpty&&!args.any fB&&Nat.ble args.length 20)<|oel (my f) (bb (eD f) λξ=>E c loc f σ (λv σ=>grd (qH T v)<|fN (E c loc) args σ (λvs σ=>rW T c.hd v vs σ k x) x) x) λq=>grd (!mT q.1&&q.2.2.endLine==pos.line)<|E c loc q.1 σ (λv σ=>Bq T v q.2.1 σ λm=>fN (E c loc) args σ (λvs σ=>lO T c.hd m v vs σ k x) x) x|.ListComp elt gs sc _=>sole gs λg=>bb (eD g.target) λn=>grd (!c.hd&&!ke g.iter&&xg sc c.sc c.cells n&&g.is_async==0)<|E c loc g.iter σ (λv σ=>tR v λl=>.sub (kf (λloc σ k=>E ⟨gY sc c.sc,c.cells.filter λp=>je<|bt sc.names p.1,c.hd,none,false⟩ loc elt σ k ir) (mU (λloc e σ k x=>Ts ⟨gY sc c.sc,c.cells.filter λp=>je<|bt sc.names p.1,c.hd,none,false⟩ loc e σ k x) g.ifs) n l [] σ) (λfl ξ σ=>match fl with|.ret v=>k v σ|_=>stk) λξ ξ ξ=>stk) x|_=>stk
noncomputable def Of(T:cL)(E:jJ)(Ts:kJ)(c:Ctx)(loc:aq)(e:Expr)(σ:AS)(k:Bool->AS->Cd)(x:KV):Cd:=match e with
 |.UnaryOp o a p=>match o with|.Not=>Ts c loc a σ (λb σ=>k (!b) σ) x|o=>E c loc (.UnaryOp o a p) σ (λv σ=>pP v λb=>k b σ) x 
 |.BoolOp o l _=>match o with|.And=>oG (Ts c loc) true l σ k x|.Or=>oG (Ts c loc) false l σ k x 
 |.IfExp ..=>stk|.Compare a os bs _=>sole os λop=>sole bs λb=>grd (!ke b)<|E c loc a σ (λu σ=>E c loc b σ (λv σ=>tQ T op u v σ λb=>k b σ) x) x|e=>E c loc e σ (λv σ=>pP v λb=>k b σ) x
mutual
noncomputable def ev(T:cL):Nat->jJ|0=>λξ ξ ξ ξ ξ ξ=>stk|n+1=>Oe T (ev T n)<|ts T n
noncomputable def ts(T:cL):Nat->kJ|0=>λξ ξ ξ ξ ξ ξ=>stk|n+1=>Of T (ev T n)<|ts T n
end
noncomputable abbrev XS:=AV->aq->AS->Cd
noncomputable abbrev KS:=Fl->aq->AS->Cd
noncomputable abbrev Br:=Ctx->aq->Stmt->AS->KS->XS->Cd
noncomputable def oH(e:Expr):Bool:=i5 e 24||i5 e 22
noncomputable def iG(e:Expr):Bool:=i5 e 25
noncomputable def execs(B:aq->Stmt->AS->KS->XS->Cd):List Stmt->aq->AS->KS->XS->Cd|[],loc,σ,K,_=>K .next loc σ|s::r,loc,σ,K,X=>B loc s σ (λfl loc σ=>match fl with|.next=>execs B r loc σ K X|fl=>K fl loc σ) X
noncomputable def assign(T:cL)(c:Ctx)(E:Expr->AS->KV->KV->Cd)(t:Expr)(v:AV)(loc:aq)(σ:AS)(K:KS)(X:XS):Cd:=oel (my t) (oel (tT t) (grd (!(c.hd&&iG t))<|bb (nF c t v loc) λloc=>K .next loc σ) λq=>E q.1 σ (λov σ=>E q.2 σ (λiv σ=>v8 ov iv v σ λσ=>K .next loc σ) λe σ=>X e loc σ) λe σ=>X e loc σ) λq=>E q.1 σ (λov σ=>zR T ov q.2.1 v σ λσ=>K .next loc σ) λe σ=>X e loc σ
noncomputable def rb(T:cL)(v:AV):Option Nat:=match v with|.fi C _=>if T.exc C then some C else none|_=>none
noncomputable def v9(T:cL)(c:Ctx)(t:Expr):Option Nat:=(eD t).bind λx=>bif iq 4<|bt c.sc.names x then(T.gl x).bind yP else none
noncomputable def sP(keys loc:aq):aq:=loc.filter λp=>keys.any λq=>sF q.1 p.1
noncomputable def lZ(fl:Fl)(loc:aq)(σ:AS):Cd:=.ret<|.go fl loc σ
noncomputable def zW(e:AV)(loc:aq)(σ:AS):Cd:=.ret<|.ex e loc σ
noncomputable def i6(e:AV)(_:aq)(σ:AS):Cd:=.ret<|.ex e [] σ
noncomputable def turn(R:aq->AS->Cd)(keys:aq)(fl:Fl)(loc:aq)(σ:AS):Cd:=match fl with|.next=>R (sP keys loc) σ|.cont=>R (sP keys loc) σ|.brk=>lZ .next (sP keys loc) σ|.ret v=>lZ (.ret v) [] σ
noncomputable abbrev dc:=AV->aq->AS->KS->XS->Cd
noncomputable def bk(B:dc):List AV->aq->AS->Cd|[],loc,σ=>lZ .next loc σ|v::r,loc,σ=>B v loc σ (turn (bk B r) loc) i6
noncomputable def i7(P:aq->AS->(Bool->AS->Cd)->KV->Cd)(B:aq->AS->KS->XS->Cd):Nat->aq->AS->Cd|0,_,_=>stk|n+1,loc,σ=>P loc σ (λb σ=>bif b then B loc σ (turn (i7 P B n) loc) i6 else lZ .next loc σ) λe σ=>zW e loc σ
noncomputable def iP:Nat:=100000
noncomputable def rZ(c:Ctx)(T:cL)(t e:Expr):Option Str:=(eD t).bind λx=>(tW e).bind λq=>if cY c x&&fD c x&&q.1.isEmpty&&(T.rg q.2.line q.2.col).isNone then some x else none
noncomputable def lP(c:Ctx)(e:Expr):Option<|Str×Expr:=(pN e).bind λq=>(my q.1).bind λa=>(eD a.1).bind λx=>match q.2.1 with|[]=>none|b::r=>if sF a.2.1 N.append&&cY c x&&fD c x&&r.isEmpty&&q.2.2.1.isEmpty&&!fB b&&a.2.2.endLine==q.2.2.2.line then some (x,b)else none
noncomputable def kr(o:AV)(v:AV):Option AV:=match o with|.fl l=>if aE l then some<|.fl<|l++[v]else none|_=>none
noncomputable def sQ(c:Ctx)(t:Expr)(B:aq->AS->KS->XS->Cd):dc:=λv loc σ K X=>bb (nF c t v loc) λl=>B l σ K X
noncomputable def Og(T:cL)(E:jJ)(Ts:kJ)(B:Br)(c:Ctx)(loc:aq)(s:Stmt)(σ:AS)(K:KS)(X:XS):Cd:=match s with
 |.Expr e _=>match lP c e with|some p=>bb (aP sF loc p.1) λw=>E c loc p.2 σ (λv σ=>.av (kr w v) λw=>K .next (bj sF loc p.1 w) σ) λe σ=>X e loc σ|none=>grd (!jk e)<|E c loc e σ (λξ σ=>K .next loc σ) λe σ=>X e loc σ 
 |.Pass _=>K .next loc σ|.Break _=>K .brk loc σ|.Continue _=>K .cont loc σ|.Return o _=>match o with|none=>K (.ret .none) [] σ|some e=>E {c with re:=true} loc e σ (λv σ=>K (.ret v) [] σ) λe σ=>X e [] σ 
 |.Assign ts e _=>sole ts λt=>match rZ c T t e with|some x=>K .next (bj sF loc x<|.fl []) σ|none=>grd (!(jk e||oH t||iG t&&iG e))<|E c loc e σ (λv σ=>assign T c (E c loc) t v loc σ K X) λe σ=>X e loc σ 
 |.AugAssign t op e _=>bb (eD t) λx=>grd (fD c x&&!cY c x&&match op with|.Add=>true|_=>false)<|bb (aP sF loc x) λa=>E c loc e σ (λb σ=>match a with
   |.int i=>match b with|.int j=>K .next (bj sF loc x<|.int<|i+j) σ|_=>stk 
   |_=>stk) λe σ=>X e loc σ|.Delete ts _=>sole ts λt=>bb (tT t) λq=>bb (lX q.2) λs=>grd (s.2.1.isNone&&s.2.2.isNone)<|bb s.1 λlo=>E c loc q.1 σ (λv σ=>E c loc lo σ (λa σ=>vy v a σ λσ=>K .next loc σ) λe σ=>X e loc σ) λe σ=>X e loc σ|.If t a b _=>Ts c loc t σ (λz σ=>bif z then execs (B c) a loc σ K X else execs (B c) b loc σ K X) λe σ=>X e loc σ|.While t b o _=>grd o.isEmpty<|.sub (i7 (λloc σ k x=>Ts c loc t σ k x) (λloc σ K X=>execs (B c) b loc σ K X) iP loc σ) K X|.For t it b o _=>grd (!c.hd&&!ke it&&o.isEmpty)<|E c loc it σ (λv σ=>tR v λl=>.sub (bk (sQ c t<|execs (B c) b) l loc σ) K X) λe σ=>X e loc σ|.Raise o r _=>grd (!c.hd&&r.isNone)<|bb o λe=>E c loc e σ (λv σ=>bb (rb T v) λξ=>X v loc σ) λe σ=>X e loc σ|.Try b hs o f _=>grd (!c.hd&&o.isEmpty&&f.isEmpty)<|sole hs λh=>match h with|.ExceptHandler ty nm hb _=>grd (!hb.isEmpty&&nm.all λx=>fD c x&&!cY c x)<|bb ty λt=>execs (B c) b loc σ K λe loc σ=>bb (rb T e) λC=>bb (v9 T c t) λD=>grd (T.exc D)<|bif T.sub C D then execs (B {c with hd:=true}) hb (match nm with|some n=>bj sF loc n e|none=>loc) σ (λf loc σ=>K f (match nm with|some n=>loc.filter λp=>!sF p.1 n|none=>loc) σ) λξ ξ ξ=>stk else X e loc σ
 |_=>stk
noncomputable def cz(T:cL):Nat->Br|0=>λξ ξ ξ ξ ξ ξ=>stk|n+1=>Og T (ev T n) (ts T n)<|cz T n
noncomputable def sa:List Str->List AV->Option aq|[],vs=>if vs.isEmpty then some []else none|x::xs,vs=>match vs with|[]=>none|v::vs=>(sa xs vs).map ((x,v)::·)
noncomputable def l0(fl:Fl)(_:aq)(σ:AS):Cd:=match fl with|.ret v=>.ret<|.go (.ret v) [] σ|.next=>.ret<|.go (.ret .none) [] σ|_=>stk
noncomputable def l5(e:AV)(_:aq)(σ:AS):Cd:=.ret<|.ex e [] σ
noncomputable def code(T:cL)(lln:Nat->Option Str)(hd:Bool)(f:Nat)(args:List AV)(σ:AS):Cd:=bb (T.fn f) λfn=>grd (gI fn.scope&&fn.params.all λx=>!cY ⟨fn.scope,[],hd,lln f,false⟩ x)<|bb (sa fn.params args) λb=>execs (cz T 60 ⟨fn.scope,b.filter λp=>iE<|bt fn.scope.names p.1,hd,lln f,false⟩) fn.body (b.filter λp=>!iE (bt fn.scope.names p.1)) σ l0 l5
noncomputable def fin(s:S):R AV:=match s with
 |.go f _ σ=>match f with|.ret v=>.ok v σ|_=>.stuck 
 |.ex e _ σ=>.ex e σ|.stuck=>.stuck
noncomputable def dX(f:AV->Option AV):List AV->Option (List AV)|[]=>some []|a::r=>(f a).bind λa=>(dX f r).map λξ=>a::ξ
noncomputable def cA:Nat->AS->AV->Option AV|0,_,_=>none|n+1,σ,v=>match v with|.ref r i=>if Nat.beq r 10||Nat.beq r 12 then(gt σ r i).bind λo=>match o with|.list l=>(dX (cA n σ) l).map .fl|_=>none else none|.tup l=>(dX (cA n σ) l).map .tup|.fl l=>(dX (cA n σ) l).map .fl|.fi _ _=>none|v=>some v
noncomputable def gm(σ:AS)(r:Nat):Bool:=(aa σ r).any List.isEmpty
open Classical in
noncomputable def kK(σ:AS)(r:R AV):R AV:=match r with|.ok v σ'=>if gm σ 10=true/\gm σ 12=true/\∀r,r≠10->r≠12->aa σ' r=aa σ r then match cA 6 σ' v with|some v=>.ok v σ|none=>.stuck else .stuck|_=>.stuck
noncomputable def kL(l:List<|Str×dm):Nat:=(l.filter λp=>match p.2 with|.arg _=>true|.val _=>false).length
noncomputable def jK(T:cL)(f:Nat)(args:List AV)(σ:AS):R AV:=match T.fz f args with|some l=>bif Nat.beq (kL l) args.length then .ok (.fi f<|gH args l) σ else .stuck|none=>.stuck
noncomputable def run(T:cL)(lln:Nat->Option Str):Nat->f7|0=>λξ ξ ξ ξ=>.stuck|D+1=>λhd f args σ=>match T.kd f with|0=>fin<|(code T lln hd f args σ).ev<|run T lln D|1=>kK σ<|fin<|(code T lln hd f args σ).ev<|run T lln D|_=>jK T f args σ
noncomputable def hO(t:Cd):Option AO:=match t with|.ao o _=>o|_=>none
noncomputable def tO(t:Cd)(a:AO):Cd:=match t with|.ao _ k=>k a|t=>t
noncomputable def hV(t:Cd):Option AV:=match t with|.av o _=>o|_=>none
noncomputable def tV(t:Cd)(a:AV):Cd:=match t with|.av _ k=>k a|t=>t
noncomputable def hB(t:Cd):Option Bool:=match t with|.bo o _=>o|_=>none
noncomputable def tB(t:Cd)(a:Bool):Cd:=match t with|.bo _ k=>k a|t=>t
structure Cl where
 hd:Bool
 f:Nat
 a:List AV
 s:AS
noncomputable def hC(t:Cd):Option Cl:=match t with|.call hd f a σ _ _=>some ⟨hd,f,a,σ⟩|_=>none
noncomputable def tC(t:Cd)(v:AV)(σ:AS):Cd:=match t with|.call _ _ _ _ k _=>k v σ|t=>t
noncomputable def xC(t:Cd)(v:AV)(σ:AS):Cd:=match t with|.call _ _ _ _ _ x=>x v σ|t=>t
noncomputable def hP(t:Cd):Option Cd:=match t with|.sub p _ _=>some p|_=>none
noncomputable def tP(t:Cd)(fl:Fl)(loc:aq)(σ:AS):Cd:=match t with|.sub _ k _=>k fl loc σ|t=>t
noncomputable def xP(t:Cd)(e:AV)(loc:aq)(σ:AS):Cd:=match t with|.sub _ _ x=>x e loc σ|t=>t
noncomputable def Bs(t:Cd):Cd:=match t with
 |.ao o k=>match o with|some a=>k a|none=>stk 
 |.av o k=>match o with|some a=>k a|none=>stk 
 |.bo o k=>match o with|some a=>k a|none=>stk 
 |.sub p k x=>match p with|.ret s=>(match s with|.go fl loc σ=>k fl loc σ|.ex e loc σ=>x e loc σ|.stuck=>stk)|_=>t 
 |t=>t
noncomputable def adv(t:Cd):Nat->Cd|0=>t|n+1=>Bs<|adv t n
variable{cf:f7}
theorem G8(t:Cd):(Bs t).ev cf=t.ev cf:=by cases t with
 |ao o k=>cases o<;>rfl|av o k=>cases o<;>rfl|bo o k=>cases o<;>rfl|sub p k x=>cases p with|ret s=>cases s<;>rfl|_=>rfl
 |_=>rfl
theorem e9(t:Cd):∀n,(adv t n).ev cf=t.ev cf|0=>rfl|n+1=>(G8 _).trans<|e9 t n
set_option smartUnfolding false in
theorem qI:(Cd.call d f a c k x).ev cf=match cf d f a c with|.ok v c=>(k v c).ev cf|.ex e c=>(x e c).ev cf|.stuck=>S.stuck:=rfl
set_option smartUnfolding false in
theorem rf:(Cd.sub p k x).ev cf=match p.ev cf with|.go fl loc b=>(k fl loc b).ev cf|.ex e loc b=>(x e loc b).ev cf|.stuck=>S.stuck:=rfl
theorem JH(h:cf c f a d=.ok v b):(Cd.call c f a d k x).ev cf=(k v b).ev cf:=by exact Rr qI<|Rr h rfl
theorem JI(h:cf c f a d=.ex v b):(Cd.call c f a d k x).ev cf=(x v b).ev cf:=by exact Rr qI<|Rr h rfl
theorem JJ(h:p.ev cf=.go fl loc a):(Cd.sub p k x).ev cf=(k fl loc a).ev cf:=by exact Rr rf<|Rr h rfl
theorem L8(h:p.ev cf=.ex e loc a):(Cd.sub p k x).ev cf=(x e loc a).ev cf:=by exact Rr rf<|Rr h rfl
theorem kM(n:Nat)(h:o=some a)(H:(tO (adv t n) a).ev cf=r)(e:hO (adv t n)=o:=by kernel_rfl):t.ev cf=r:=by refine Rl (e9 t n)<|Rl H ?_;rw[h]at e;revert e;cases adv t n<;>intro e<;>cases e;rfl
theorem gn(n:Nat)(h:o=some a)(H:(tV (adv t n) a).ev cf=r)(e:hV (adv t n)=o:=by kernel_rfl):t.ev cf=r:=by refine Rl (e9 t n)<|Rl H ?_;rw[h]at e;revert e;cases adv t n<;>intro e<;>cases e;rfl
theorem eE(n:Nat)(h:b=a)(H:(tB (adv t n) a).ev cf=r)(e:hB (adv t n)=some b:=by kernel_rfl):t.ev cf=r:=by refine Rl (e9 t n)<|Rl H ?_;rw[h]at e;revert e;cases adv t n<;>intro e<;>cases e;rfl
theorem aG(n:Nat)(h:cf d f a g=.ok v b)(H:(tC (adv t n) v b).ev cf=r)(e:hC (adv t n)=some ⟨d,f,a,g⟩:=by kernel_rfl):t.ev cf=r:=by refine Rl (e9 t n)<|Rl H ?_;revert e;cases adv t n<;>intro e<;>cases e;exact JH h
theorem pQ(n:Nat)(h:cf d f a g=.ex v b)(H:(xC (adv t n) v b).ev cf=r)(e:hC (adv t n)=some ⟨d,f,a,g⟩:=by kernel_rfl):t.ev cf=r:=by refine Rl (e9 t n)<|Rl H ?_;revert e;cases adv t n<;>intro e<;>cases e;exact JI h
theorem eT(n:Nat)(h:p.ev cf=.go fl loc b)(H:(tP (adv t n) fl loc b).ev cf=r)(e:hP (adv t n)=some p:=by kernel_rfl):t.ev cf=r:=by refine Rl (e9 t n)<|Rl H ?_;revert e;cases adv t n<;>intro e<;>cases e;exact JJ h
theorem Oh(n:Nat)(h:p.ev cf=.ex e' loc b)(H:(xP (adv t n) e' loc b).ev cf=r)(e:hP (adv t n)=some p:=by kernel_rfl):t.ev cf=r:=by refine Rl (e9 t n)<|Rl H ?_;revert e;cases adv t n<;>intro e<;>cases e;exact L8 h
noncomputable def yS(t:Cd):S:=match t with|.ret s=>s|_=>.stuck
theorem az(n:Nat)(a:r≠.stuck)(e:yS (adv t n)=r:=by kernel_rfl):t.ev cf=r:=by refine Rl (e9 t n) ?_;revert e;cases adv t n<;>intro e<;>first|exact e|exact absurd e.symm a
end
noncomputable def pX:Program:=PySem.Challenge.pw_sj0018_01
noncomputable def JK:List Stmt:=pX.main.body
noncomputable def aF(i:Nat):Stmt:=JK.getD i<|.Pass default
noncomputable def aQ(i j:Nat):Stmt:=match aF i with|.ClassDef _ _ _ body _ _ _ _ _ _ _=>body.getD j<|.Pass default|_=>.Pass default
noncomputable def yT:Stmt->Option Fn|.FunctionDef _ args body _ _ _ scope _ _ _=>some ⟨args.args.map λξ=>ξ.arg,body,scope⟩|_=>none
noncomputable def tX:List<|Str×AV:=[(⟨#[95,119,97,108,108]⟩,.con 21),(zs38,.con 38),(⟨#[66,97,100,75,105,110,100]⟩,.con 51),(⟨#[82,117,110,66,111,117,110,100]⟩,.con 63),(⟨#[76,101,102,116,79,117,116]⟩,.con 75),(⟨#[86,79,73,68]⟩,.int 0),(⟨#[66,79,79,76]⟩,.int 1),(⟨#[67,72,65,82]⟩,.int 2),(⟨#[73,49]⟩,.int 3),(⟨#[85,49]⟩,.int 4),(⟨#[73,50]⟩,.int 5),(⟨#[85,50]⟩,.int 6),(⟨#[73,52]⟩,.int 7),(⟨#[85,52]⟩,.int 8),(⟨#[73,56]⟩,.int 9),(⟨#[85,56]⟩,.int 10),(⟨#[78,73,78,84]⟩,.int 11),(⟨#[79,66,74,69,67,84]⟩,.int 12),(⟨#[83,84,82,73,78,71]⟩,.int 13),(⟨#[78,85,76,76,75]⟩,.int 14),(⟨#[80,82,73,77,95,69,78,68]⟩,.int 16),(⟨#[82,95,80,82,73,77]⟩,.int 1),(⟨#[82,95,67,76,65,83,83]⟩,.int 2),(⟨#[82,95,86,65,76,85,69]⟩,.int 3),(⟨#[82,95,65,82,82,65,89]⟩,.int 4),(⟨#[82,95,66,89,82,69,70]⟩,.int 5),(⟨#[82,95,86,65,82]⟩,.int 6),(⟨#[82,95,77,86,65,82]⟩,.int 7),(⟨#[82,95,66,79,88,69,68]⟩,.int 8),(⟨#[82,95,82,79,82,69,70]⟩,.int 9),(⟨#[82,95,70,84,78]⟩,.int 10),(⟨#[82,95,82,65,87]⟩,.int 11),(⟨#[68,69,69,80,69,83,84,95,75,73,78,68]⟩,.int 24),(⟨#[72,69,65,86,73,69,83,84,95,75,73,78,68]⟩,.int 4096),(⟨#[80,82,73,77,95,84,73,68]⟩,.con 78),(⟨#[84,73,68,95,80,82,73,77]⟩,.con 79),(⟨#[65,82,82,65,89,95,84,73,68]⟩,.int 5),(⟨#[75,105,110,100,84,97,98,108,101]⟩,.con 110),(⟨#[105,110,110,101,114,95,107,105,110,100,115]⟩,.con 121),(⟨#[114,111,119,95,108,101,118,101,108]⟩,.con 128),(⟨#[114,111,119,95,108,101,110,103,116,104]⟩,.con 135),(⟨#[99,104,101,99,107,95,107,105,110,100,95,114,111,119]⟩,.con 142),(⟨#[99,104,101,99,107,95,110,97,109,101,100]⟩,.con 149),(⟨#[99,104,101,99,107,95,97,114,103,115]⟩,.con 156),(⟨#[109,97,121,95,115,116,97,110,100]⟩,.con 163),(⟨#[99,108,97,115,115,95,107,105,110,100]⟩,.con 170),(⟨#[112,114,105,109,95,107,105,110,100]⟩,.con 177),(⟨#[116,105,100,95,111,102]⟩,.con 184),(⟨#[97,114,103,115,95,111,102]⟩,.con 191),(⟨#[105,115,95,118,97,108,117,101]⟩,.con 198),(⟨#[105,115,95,118,97,114]⟩,.con 205),(⟨#[67,77,95,79,66,74,95,69,81,85,65,76,83]⟩,.int 3),(⟨#[67,77,95,79,66,74,95,72,65,83,72]⟩,.int 4),(⟨#[67,77,95,68,73,83,80,79,83,69]⟩,.int 106),(⟨#[67,77,95,71,69,84,69,78,85,77]⟩,.int 107),(⟨#[67,77,95,71,69,84,67,85,82,82,69,78,84]⟩,.int 108),(⟨#[67,77,95,77,79,86,69,78,69,88,84]⟩,.int 109),(⟨#[84,95,78,85,76,76,82,69,70]⟩,.int 21),(⟨#[84,95,68,73,83,80,79,83,65,66,76,69]⟩,.int 34),(⟨#[84,95,73,69,78,85,77]⟩,.int 35),(⟨#[84,95,73,69,78,85,77,69,82,65,84,79,82]⟩,.int 36),(⟨#[83,116,111,114,101]⟩,.con 222),(⟨#[68,105,97,103,115]⟩,.con 264),(⟨#[88,95,76,79,67,65,76]⟩,.int 2),(⟨#[88,95,65,83,83,73,71,78]⟩,.int 22),(⟨#[88,95,84,89,80,69,79,70]⟩,.int 29),(⟨#[83,95,69,88,80,82]⟩,.int 1),(⟨#[83,95,66,76,79,67,75]⟩,.int 3),(⟨#[83,95,73,70]⟩,.int 4),(⟨#[83,95,87,72,73,76,69]⟩,.int 5),(⟨#[83,95,68,79]⟩,.int 6),(⟨#[83,95,66,82,69,65,75]⟩,.int 10),(⟨#[83,95,67,79,78,84,73,78,85,69]⟩,.int 11),(⟨#[83,95,84,72,82,79,87]⟩,.int 13),(⟨#[83,95,84,82,89]⟩,.int 14),(⟨#[83,95,89,73,69,76,68]⟩,.int 16),(⟨#[83,95,89,66,82,69,65,75]⟩,.int 17),(⟨#[70,78,95,80,76,65,73,78]⟩,.int 0),(⟨#[86,70,95,82,69,70]⟩,.int 2),(⟨#[86,70,95,79,85,84]⟩,.int 4),(⟨#[86,97,114]⟩,.con 285),(⟨#[70,110]⟩,.con 306),(⟨#[85,110,105,116]⟩,.con 327),(⟨#[68,78,95,78,79,82,77,65,76]⟩,.int 0),(⟨#[68,78,95,66,82,69,65,75]⟩,.int 1),(⟨#[68,78,95,67,79,78,84,73,78,85,69]⟩,.int 2),(⟨#[68,78,95,82,69,84,85,82,78]⟩,.int 3),(⟨#[68,78,95,84,72,82,79,87]⟩,.int 4),(⟨#[87,69,78,84,95,79,78]⟩,.tup [.int 0,.none]),(⟨#[88,95,72,69,76,68]⟩,.int 90),(⟨#[77,79,83,84,95,68,69,69,80]⟩,.int 60),(⟨#[77,79,83,84,95,78,69,83,84,69,68]⟩,.int 870),(⟨#[83,65,89,95,78,85,76,76]⟩,.str ⟨#[79,98,106,101,99,116,32,114,101,102,101,114,101,110,99,101,32,110,111,116,32,115,101,116,32,116,111,32,97,110,32,105,110,115,116,97,110,99,101,32,111,102,32,97,110,32,111,98,106,101,99,116,46]⟩),(zs23,.con 349),(zs39,.con 369),(⟨#[73,116,101,109]⟩,.con 389),(⟨#[83,112,101,99,105,97,108]⟩,.con 417),(⟨#[65,99,116]⟩,.con 438),(⟨#[71,117,97,114,100]⟩,.con 459),(zs12,.con 480),(⟨#[69,118,84,97,114,103,101,116]⟩,.con 515),(zs8,.con 536),(⟨#[70,110,83,116,97,114,116]⟩,.con 557),(⟨#[83,112,108,105,116,115]⟩,.con 578),(⟨#[66,101,103,105,110,115]⟩,.con 599),(⟨#[67,97,108,108,115]⟩,.con 627),(⟨#[80,108,111,116]⟩,.con 704),(⟨#[99,111,117,110,116,95,115,116,101,112]⟩,.con 715),(⟨#[103,111,95,100,101,101,112,101,114]⟩,.con 722),(⟨#[110,101,120,116,95,110,117,109,98,101,114]⟩,.con 729),(⟨#[101,118,97,108,95,101,120,112,114]⟩,.con 736),(⟨#[101,120,101,99,95,115,116,109,116]⟩,.con 743),(⟨#[101,120,101,99,95,114,111,119]⟩,.con 750),(⟨#[107,105,110,100,95,105,110]⟩,.con 757),(⟨#[110,101,119,95,105,116,101,109]⟩,.con 764),(⟨#[98,108,111,99,107,95,110,117,109,98,101,114]⟩,.con 771),(⟨#[98,108,111,99,107,95,108,105,100,115]⟩,.con 778),(⟨#[98,101,103,105,110,95,98,108,111,99,107]⟩,.con 785),(⟨#[108,97,121,95,99,101,108,108,115]⟩,.con 792),(⟨#[99,101,108,108,95,111,102]⟩,.con 799),(⟨#[116,104,114,111,119,95,105,116,101,109]⟩,.con 806),(⟨#[114,111,119,95,116,97,107,105,110,103]⟩,.con 813),(⟨#[119,104,101,110,95,115,97,121,115]⟩,.con 820),(⟨#[112,117,115,104,95,103,117,97,114,100]⟩,.con 827),(⟨#[100,114,111,112,95,103,117,97,114,100,115]⟩,.con 834),(⟨#[105,116,101,109,95,105,115]⟩,.con 841),(⟨#[118,97,108,117,101,95,97,116]⟩,.con 848),(⟨#[112,117,116,95,118,97,108,117,101,95,97,116]⟩,.con 855),(⟨#[69,118,69,102,102,101,99,116]⟩,.con 872),(⟨#[69,118,66,108,111,99,107]⟩,.con 891),(⟨#[69,118,73,102]⟩,.con 910),(⟨#[103,111,101,115,95,111,110]⟩,.con 919),(⟨#[108,111,111,112,95,101,110,100]⟩,.con 926),(⟨#[69,118,87,104,105,108,101]⟩,.con 943),(⟨#[114,117,110,95,100,111]⟩,.con 952),(⟨#[69,118,66,114,101,97,107]⟩,.con 969),(⟨#[69,118,67,111,110,116,105,110,117,101]⟩,.con 988),(⟨#[69,118,89,105,101,108,100,66,114,101,97,107]⟩,.con 1007),(⟨#[69,118,84,104,114,111,119]⟩,.con 1026),(⟨#[99,97,117,103,104,116,95,114,111,119]⟩,.con 1035),(⟨#[98,101,103,105,110,95,99,97,116,99,104]⟩,.con 1042),(⟨#[114,117,110,95,99,97,116,99,104,101,115]⟩,.con 1049),(⟨#[97,102,116,101,114,95,102,105,110,97,108,108,121]⟩,.con 1056),(⟨#[69,118,84,114,121]⟩,.con 1073),(⟨#[83,95,67,85,84]⟩,.int 93),(⟨#[68,78,95,83,84,79,80]⟩,.int 5),(⟨#[67,84,95,80,85,83,72]⟩,.int 1),(⟨#[67,84,95,68,79,78,69]⟩,.int 2),(⟨#[67,84,95,80,65,85,83,69]⟩,.int 3),(⟨#[73,84,95,70,82,69,83,72]⟩,.int 0),(⟨#[73,84,95,82,69,65,68,89]⟩,.int 1),(⟨#[73,84,95,82,85,78,83]⟩,.int 2),(⟨#[73,84,95,80,65,85,83,69,68]⟩,.int 3),(⟨#[73,84,95,79,86,69,82]⟩,.int 4),(⟨#[67,117,116]⟩,.con 1092),(⟨#[67,117,116,70,114,97,109,101]⟩,.con 1113),(zs16,.con 1134),(⟨#[100,111,110,101]⟩,.con 1145),(⟨#[112,117,115,104]⟩,.con 1152),(⟨#[67,117,116,66,108,111,99,107]⟩,.con 1169),(⟨#[110,101,120,116,95,111,102]⟩,.con 1178),(⟨#[67,117,116,73,102]⟩,.con 1195),(⟨#[67,117,116,87,104,105,108,101]⟩,.con 1214),(⟨#[67,117,116,84,114,121]⟩,.con 1233),(⟨#[67,117,116,89,105,101,108,100]⟩,.con 1252),(⟨#[115,116,101,112,95,102,114,97,109,101]⟩,.con 1261),(⟨#[98,101,103,105,110,95,111,110,101]⟩,.con 1268),(⟨#[116,117,114,110,95,115,116,97,99,107]⟩,.con 1275),(⟨#[97,100,118,97,110,99,101]⟩,.con 1282),(⟨#[98,111,100,121,95,114,101,97,100,121]⟩,.con 1289),(⟨#[115,116,97,114,116,95,99,117,116]⟩,.con 1296),(⟨#[107,101,112,116,95,116,104,105,115]⟩,.con 1303),(⟨#[73,116,101,114,97,116,105,111,110]⟩,.con 1327),(⟨#[99,97,108,108,95,105,116,101,114,97,116,105,111,110]⟩,.con 1336),(⟨#[112,117,116,95,105,116,101,114,97,116,105,111,110]⟩,.con 1343),(⟨#[97,103,97,105,110,95,105,116,101,114,97,116,105,111,110]⟩,.con 1350),(⟨#[98,101,103,105,110,95,105,116,101,114,97,116,105,111,110]⟩,.con 1357),(⟨#[109,111,118,101,95,105,116,101,114,97,116,105,111,110]⟩,.con 1364),(⟨#[101,110,100,95,105,116,101,114,97,116,105,111,110]⟩,.con 1371),(⟨#[73,116,101,114,83,116,97,114,116]⟩,.con 1388),(⟨#[69,118,72,101,108,100]⟩,.con 1407),(⟨#[69,118,84,121,112,101,111,102]⟩,.con 1426),(⟨#[114,101,97,100,115,95,116,104,114,111,117,103,104]⟩,.con 1435),(⟨#[99,101,108,108,95,112,108,97,99,101]⟩,.con 1442),(⟨#[108,111,99,97,108,95,118,97,108,117,101]⟩,.con 1449),(⟨#[69,118,76,111,99,97,108]⟩,.con 1466),(⟨#[76,111,99,97,108,84,97,114,103,101,116]⟩,.con 1499),(⟨#[114,101,97,100,121,95,116,97,114,103,101,116]⟩,.con 1508),(⟨#[119,114,105,116,101,95,116,97,114,103,101,116]⟩,.con 1515),(⟨#[69,118,65,115,115,105,103,110]⟩,.con 1532),(⟨#[95,108,97,119,95,84,72,82,79,87,83]⟩,.int 99),(⟨#[95,108,97,119,95,80,73,67,75,83]⟩,.tup [.int 0,.int 1,.int 4,.int 2,.int 3,.int 2,.int 1,.int 6,.int 7,.int 8,.int 8,.int 5,.int 1,.int 5]),(⟨#[95,108,97,119,95,70,73,82,83,84]⟩,.tup [.int 1,.int 3,.int 0,.int 3,.int 0,.int 1,.int 1,.int 11,.int 0,.int 0,.int 2,.int 0,.int 0,.int 4,.int 9,.int 1,.int 0,.int 7,.int 1,.int 0,.int 4,.int 1,.int 0,.int 1,.int 1,.int 1,.int 2,.int 0,.int 0,.int 0,.int 8,.int 0,.int 0,.int 1,.int 0,.int 0,.int 2,.int 0,.int 0,.int 4,.int 5,.int 0,.int 0]),(⟨#[95,108,97,119,95,116,97,107,101]⟩,.con 1543),(⟨#[95,108,97,119,95,118,97,108,117,101]⟩,.con 1550),(⟨#[95,108,97,119,95,115,105,109,112,108,101]⟩,.con 1557),(zs44,.con 1562),(⟨#[95,108,97,119,95,98,108,111,99,107]⟩,.con 1569),(⟨#[95,108,97,119,95,99,97,116,99,104]⟩,.con 1576),(⟨#[95,108,97,119,95,100,114,97,119]⟩,.con 1583),(⟨#[95,108,97,119,95,111,102]⟩,.con 1590),(⟨#[95,108,97,119,95,119,97,108,107]⟩,.con 1597),(⟨#[95,108,97,119,95,108,97,115,116]⟩,.con 1604),(⟨#[95,108,97,119,95,116,104,114,111,119,110]⟩,.con 1611),(⟨#[95,108,97,119,95,99,97,117,103,104,116]⟩,.con 1618),(⟨#[95,108,97,119,95,100,111]⟩,.con 1625),(⟨#[95,108,97,119,95,109,101,97,110,105,110,103]⟩,.con 1632),(⟨#[95,108,97,119,95,108,105,100]⟩,.con 1639),(⟨#[95,108,97,119,95,115,101,116]⟩,.con 1646),(⟨#[95,108,97,119,95,101,120,112,114]⟩,.con 1653),(⟨#[95,108,97,119,95,109,97,114,107,101,100]⟩,.con 1660),(zs45,.con 1665),(⟨#[95,108,97,119,95,114,101,97,100,121]⟩,.con 1672),(⟨#[95,108,97,119,95,112,108,111,116]⟩,.con 1679),(⟨#[95,108,97,119,95,97,115,107]⟩,.con 1684),(⟨#[108,97,119]⟩,.con 1691)]
noncomputable def Bt:List<|Str×String:=[(⟨#[108,101,110]⟩,"len"),(⟨#[109,105,110]⟩,"min"),(⟨#[114,97,110,103,101]⟩,"range"),(⟨#[116,117,112,108,101]⟩,"tuple")]
noncomputable def mz:List<|Nat×Stmt:=[(21,aF 0),(35,aQ 2 0),(93,aQ 39 0),(100,aQ 39 1),(107,aQ 39 2),(121,aF 40),(128,aF 41),(135,aF 42),(142,aF 43),(149,aF 44),(156,aF 45),(163,aF 46),(170,aF 47),(177,aF 48),(184,aF 49),(191,aF 50),(198,aF 51),(205,aF 52),(219,aQ 64 0),(240,aQ 66 0),(247,aQ 66 1),(254,aQ 66 2),(261,aQ 66 3),(282,aQ 85 0),(303,aQ 86 0),(324,aQ 87 0),(346,aQ 99 0),(366,aQ 100 0),(386,aQ 101 0),(407,aQ 102 0),(414,aQ 102 1),(435,aQ 103 0),(456,aQ 104 0),(477,aQ 105 0),(498,aQ 106 0),(505,aQ 106 1),(512,aQ 106 2),(533,aQ 107 0),(554,aQ 108 0),(575,aQ 109 0),(596,aQ 110 0),(617,aQ 111 0),(624,aQ 111 1),(645,aQ 112 0),(652,aQ 112 1),(659,aQ 112 2),(666,aQ 112 3),(673,aQ 112 4),(680,aQ 112 5),(687,aQ 112 6),(694,aQ 112 7),(701,aQ 112 8),(715,aF 113),(722,aF 114),(729,aF 115),(736,aF 116),(743,aF 117),(750,aF 118),(757,aF 119),(764,aF 120),(771,aF 121),(778,aF 122),(785,aF 123),(792,aF 124),(799,aF 125),(806,aF 126),(813,aF 127),(820,aF 128),(827,aF 129),(834,aF 130),(841,aF 131),(848,aF 133),(855,aF 134),(869,aQ 136 0),(888,aQ 137 0),(907,aQ 138 0),(919,aF 139),(926,aF 140),(940,aQ 141 0),(952,aF 142),(966,aQ 143 0),(985,aQ 144 0),(1004,aQ 145 0),(1023,aQ 146 0),(1035,aF 147),(1042,aF 148),(1049,aF 149),(1056,aF 150),(1070,aQ 151 0),(1089,aQ 163 0),(1110,aQ 164 0),(1131,aQ 165 0),(1145,aF 166),(1152,aF 167),(1166,aQ 168 0),(1178,aF 169),(1192,aQ 170 0),(1211,aQ 171 0),(1230,aQ 172 0),(1249,aQ 173 0),(1261,aF 174),(1268,aF 175),(1275,aF 176),(1282,aF 177),(1289,aF 178),(1296,aF 179),(1303,aF 180),(1317,aQ 181 0),(1324,aQ 181 1),(1336,aF 182),(1343,aF 183),(1350,aF 184),(1357,aF 185),(1364,aF 186),(1371,aF 187),(1385,aQ 188 0),(1404,aQ 190 0),(1423,aQ 191 0),(1435,aF 192),(1442,aF 193),(1449,aF 194),(1463,aQ 195 0),(1482,aQ 196 0),(1489,aQ 196 1),(1496,aQ 196 2),(1508,aF 197),(1515,aF 198),(1529,aQ 199 0),(1543,aF 204),(1550,aF 205),(1557,aF 206),(1562,aF 207),(1569,aF 208),(1576,aF 209),(1583,aF 210),(1590,aF 211),(1597,aF 212),(1604,aF 213),(1611,aF 214),(1618,aF 215),(1625,aF 216),(1632,aF 217),(1639,aF 218),(1646,aF 219),(1653,aF 220),(1660,aF 221),(1665,aF 222),(1672,aF 223),(1679,aF 224),(1684,aF 225),(1691,aF 226)]
noncomputable def yU:List<|Nat×List (Str×Nat):=[(110,[(zs24,107),(zs25,100)]),(264,[(⟨#[99,117,116]⟩,254),(⟨#[110,117,109,98,101,114,115]⟩,261),(zs24,247)]),(417,[(zs26,414)]),(480,[(zs0,477)]),(515,[(zs27,505),(zs17,498),(zs28,512)]),(536,[(zs0,533)]),(557,[(zs29,554)]),(578,[(zs17,575)]),(599,[(⟨#[98,101,103,105,110]⟩,596)]),(627,[(zs30,624)]),(704,[(⟨#[97,115,107,101,100]⟩,680),(⟨#[99,108,111,115,101,100]⟩,659),(zs46,666),(⟨#[101,114,114,111,114]⟩,687),(⟨#[102,105,114,115,116]⟩,673),(⟨#[105,115,95,97]⟩,652),(⟨#[115,101,101,110,95,97,115]⟩,701),(zs47,694)]),(872,[(zs0,869)]),(891,[(zs0,888)]),(910,[(zs0,907)]),(943,[(zs0,940)]),(969,[(zs0,966)]),(988,[(zs0,985)]),(1007,[(zs0,1004)]),(1026,[(zs0,1023)]),(1073,[(zs0,1070)]),(1134,[(zs6,1131)]),(1169,[(zs6,1166)]),(1195,[(zs6,1192)]),(1214,[(zs6,1211)]),(1233,[(zs6,1230)]),(1252,[(zs6,1249)]),(1327,[(zs26,1324)]),(1388,[(zs29,1385)]),(1407,[(zs0,1404)]),(1426,[(zs0,1423)]),(1466,[(zs0,1463)]),(1499,[(zs27,1489),(zs17,1482),(zs28,1496)]),(1532,[(zs0,1529)])]
noncomputable def L9:List<|Nat×List Nat:=[(38,[38]),(51,[51,38]),(63,[63,38]),(75,[75,38]),(110,[110]),(222,[222]),(264,[264]),(285,[285]),(306,[306]),(327,[327]),(349,[349]),(369,[369]),(389,[389]),(417,[417]),(438,[438]),(459,[459]),(480,[480]),(515,[515]),(536,[536]),(557,[557]),(578,[578]),(599,[599]),(627,[627]),(704,[704]),(872,[872,536]),(891,[891,536]),(910,[910,536]),(943,[943,536]),(969,[969,536]),(988,[988,536]),(1007,[1007,536]),(1026,[1026,536]),(1073,[1073,536]),(1092,[1092]),(1113,[1113]),(1134,[1134]),(1169,[1169,1134]),(1195,[1195,1134]),(1214,[1214,1134]),(1233,[1233,1134]),(1252,[1252,1134]),(1327,[1327,417]),(1388,[1388,557]),(1407,[1407,480]),(1426,[1426,480]),(1466,[1466,480]),(1499,[1499,515]),(1532,[1532,480])]
noncomputable def sR:List<|Int×AV:=[(0,.int 20),(1,.int 9),(2,.int 10),(3,.int 11),(4,.int 12),(5,.int 13),(6,.int 14),(7,.int 15),(8,.int 16),(9,.int 17),(10,.int 18),(11,.int 19),(12,.int 1),(13,.int 4)]
noncomputable def sS:List<|Int×AV:=[(20,.int 0),(9,.int 1),(10,.int 2),(11,.int 3),(12,.int 4),(13,.int 5),(14,.int 6),(15,.int 7),(16,.int 8),(17,.int 9),(18,.int 10),(19,.int 11),(1,.int 12),(4,.int 13)]
noncomputable def d0{α:Type}:List (Nat×α)->Nat->Option α|[],_=>none|p::r,x=>if p.1=x then some p.2 else d0 r x
noncomputable def kN{α:Type}:List (Str×α)->Str->Option α|[],_=>none|p::r,x=>if p.1=x then some p.2 else kN r x
noncomputable def nG:List<|Nat×List Str:=[(110,[zs7,⟨#[105,110,100,101,120]⟩,⟨#[100,101,112,116,104,115]⟩,⟨#[119,101,105,103,104,116,115]⟩,⟨#[111,112,101,110,115]⟩]),(222,[⟨#[107,116]⟩,⟨#[116,121,112,101,115]⟩,⟨#[102,105,101,108,100,115,95]⟩,⟨#[109,101,116,104,111,100,115]⟩,⟨#[110,97,109,101,115]⟩,⟨#[97,115,109,115]⟩,⟨#[101,110,116,114,121]⟩]),(264,[zs7]),(285,[⟨#[108,105,100]⟩,⟨#[110,97,109,101]⟩,zs18,⟨#[102,108,97,103,115]⟩,⟨#[111,119,110,101,114]⟩,⟨#[97,114,103]⟩,⟨#[98,108,111,99,107]⟩]),(306,[⟨#[102,110,105,100]⟩,⟨#[109,105,100]⟩,zs40,⟨#[112,97,114,97,109,115]⟩,⟨#[116,104,105,115,95,107,105,110,100]⟩,⟨#[114,101,116]⟩,⟨#[98,111,100,121]⟩,⟨#[117,112]⟩,⟨#[115,111,114,116]⟩,⟨#[101,108,101,109]⟩,⟨#[97,116]⟩]),(327,[⟨#[115,116,111,114,101]⟩,⟨#[97,115,109]⟩,⟨#[102,110,115]⟩,⟨#[118,97,114,115]⟩,⟨#[111,102,95,109,105,100]⟩,⟨#[100,105,97,103,115]⟩,⟨#[105,110,105,116,115]⟩,⟨#[115,105,110,105,116,115]⟩,⟨#[99,111,110,115,116,115]⟩]),(349,[⟨#[105,116,101,109]⟩,zs30,zs25]),(389,[zs9,zs18,zs31,zs32,zs7,zs33,zs34]),(417,[⟨#[107,105,110,100,115]⟩]),(438,[zs9,⟨#[102,110]⟩,zs40,⟨#[116,104,105,115]⟩,⟨#[116,97,114,103,115]⟩,⟨#[109,97,114,103,115]⟩,⟨#[99,97,117,103,104,116]⟩,⟨#[104,111,108,101,115]⟩,⟨#[104,101,108,100]⟩,⟨#[101,110,116,101,114,101,100]⟩]),(459,[zs9,zs7,zs19]),(627,[zs7]),(704,[⟨#[117,110,105,116]⟩,⟨#[115,116,111,114,101]⟩,⟨#[107,116]⟩,⟨#[116,104,105,110,103,115]⟩,⟨#[115,116,101,112,115]⟩,⟨#[109,111,115,116]⟩,⟨#[100,101,112,116,104]⟩,⟨#[110,101,115,116,101,100]⟩,zs41,⟨#[115,101,114,105,97,108]⟩,⟨#[116,101,120,116,115]⟩,⟨#[107,105,110]⟩,⟨#[99,97,108,108,115]⟩,⟨#[101,120,112,114,115]⟩,⟨#[112,108,97,99,101,115]⟩,⟨#[116,97,114,103,101,116,115]⟩,⟨#[115,116,109,116,115]⟩,⟨#[99,111,114,101]⟩,⟨#[115,116,97,114,116,115]⟩,⟨#[99,117,116,115]⟩,⟨#[99,117,116,95,98,111,100,105,101,115]⟩,⟨#[115,112,108,105,116,115]⟩,⟨#[98,101,103,105,110,115]⟩,⟨#[98,108,111,99,107,115]⟩]),(1092,[zs19,⟨#[115,116,97,99,107]⟩,zs41]),(1113,[⟨#[115]⟩,⟨#[112,104,97,115,101]⟩,⟨#[100,97,116,97]⟩]),(1327,[⟨#[107,105,110,100,115]⟩,zs19,⟨#[97,114,103,115]⟩,⟨#[115,116,97,116,101]⟩,zs9,⟨#[99,117,116]⟩,⟨#[99,117,114,114,101,110,116]⟩])]
noncomputable def yV:List<|Nat×Nat×Nat:=[(110,93,0),(222,219,0),(264,240,0),(306,303,0),(327,324,0),(389,386,9),(438,435,1),(627,617,0),(704,645,0),(1092,1089,5),(1113,1110,7),(1327,1317,8)]
noncomputable def iu:List<|Nat×List (Str×dm):=[(285,[(⟨#[108,105,100]⟩,.arg 0),(⟨#[110,97,109,101]⟩,.arg 1),(zs18,.arg 2),(⟨#[102,108,97,103,115]⟩,.arg 3),(⟨#[111,119,110,101,114]⟩,.arg 4),(⟨#[97,114,103]⟩,.val<|.int<|-1),(⟨#[98,108,111,99,107]⟩,.val<|.int 0)]),(459,[(zs9,.arg 0),(zs7,.arg 1),(zs19,.arg 2)]),(349,[(⟨#[105,116,101,109]⟩,.arg 0),(zs30,.arg 1),(zs25,.arg 2)]),(75,[(⟨#[99,111,100,101]⟩,.arg 0),(⟨#[97,116]⟩,.arg 1)]),(480,[]),(515,[]),(536,[]),(557,[]),(578,[]),(599,[]),(872,[]),(891,[]),(910,[]),(943,[]),(969,[]),(988,[]),(1007,[]),(1026,[]),(1073,[]),(1134,[]),(1169,[]),(1195,[]),(1214,[]),(1233,[]),(1252,[]),(1388,[]),(1407,[]),(1426,[]),(1466,[]),(1499,[]),(1532,[])]
noncomputable def pR:List<|Str×dm:=[(zs9,.arg 0),(zs18,.arg 1),(zs31,.arg 2),(zs32,.val .none),(zs7,.val<|.fl []),(zs33,.val<|.int 0),(zs34,.val .none)]
noncomputable def Oi:List<|Nat×Nat:=[(52020,0),(53021,0),(54022,0),(55023,0),(56021,0),(199021,0),(265020,0),(266022,0),(268021,0),(269022,0),(270022,0),(314020,2),(318022,3),(320020,11),(371022,0),(376022,0),(378021,0),(379019,0),(380027,0),(381021,0),(382022,0),(383023,0),(384021,0),(385020,0),(386022,0),(387020,0),(388026,0),(471020,0),(487024,4),(491015,4),(520024,4),(639031,4),(680021,6),(864043,4),(1079025,12),(1101008,10),(1101016,10),(1101042,10),(1101043,12),(1101058,10),(1101090,10),(1101103,10),(1165015,0),(1166015,0),(1167017,0),(1168014,0),(1183008,0),(1192008,0),(1204013,0),(1205012,0),(1206011,0)]
noncomputable def Oj:List<|Nat×Str:=[(1569,⟨#[111,117,116]⟩),(1576,zs7),(1672,zs7)]
noncomputable def rh(v:Option AV):Bool:=match v with|some<|.int i=>iF i 12|_=>false
noncomputable def TP:cL where
  gl x:=kN tX x
  bl x:=kN Bt x
  fn a:=(d0 mz a).bind yT
  meth c x:=(d0 yU c).bind λl=>kN l x
  init c:=d0 yV c
  fz c args:=if c=389 then if rh<|aa args 1 then some pR else none else d0 iu c
  sub c d:=((d0 L9 c).getD []).contains d
  exc c:=Nat.beq c 75||Nat.beq c 349
  attr c x:=Od ((d0 nG c).getD []) x
  cd a:=if a=78 then some<|.idict sR else if a=79 then some<|.idict sS else none
  kd f:=bif Nat.beq f 1632 then 1 else bif(d0 iu f).isSome then 2 else bif Nat.beq f 389 then 2 else 0
  rg l c:=d0 Oi<|l*1000+c
noncomputable def LL(f:Nat):Option Str:=d0 Oj f
theorem gy(x:Int):iF x x=true:=decide_eq_true rfl
theorem eK(h:x≠y):iF x y=false:=decide_eq_false h
theorem lQ(h:iF x y=true):x=y:=of_decide_eq_true h
theorem xh:∀{a b:List Nat},pM a b=true↔a=b|[],[]=>⟨λe=>rfl,λe=>rfl⟩|[],_::_=>⟨by intros;contradiction,by intros;contradiction⟩|_::_,[]=>⟨by intros;contradiction,by intros;contradiction⟩|x::a,y::b=>by show(Nat.beq x y&&pM a b)=true↔_;rw[Bool.and_eq_true,xh,List.cons.injEq];exact and_congr_left' ⟨Qm,λh=>Rl h<|Nat.beq_refl x⟩
theorem cI:sF a b=true↔a=b:=xh.trans ⟨λh=>congrArg (λl=>(⟨⟨l⟩⟩:Str)) h,λh=>by cases h;rfl⟩
theorem jf(a:Str):sF a a=true:=cI.mpr rfl
def gp{α:Type}(eq:α->α->Bool):Prop:=∀{a b:α},eq a b=true↔a=b
theorem fg:gp sF:=cI
theorem ku:gp iF:=λ{a b}=>decide_eq_true_iff
theorem zX:gp tF:=λ{a b}=>decide_eq_true_iff
theorem gp.ne{d:f->f->Bool}(h:gp d)(q:a≠b):d a b=false:=Bool.eq_false_iff.mpr λe=>q<|h.mp e
theorem gp.refl{c:b->b->Bool}(h:gp c)(a:b):c a a=true:=h.mpr rfl
theorem fA{a:d->d->Bool}(c:gp a)(l:List<|d×AV)(x:d)(v:AV):(y=x->aP a (bj a l x v) y=some v)/\(y≠x->aP a (bj a l x v) y=aP a l y):=by haveI e:∀(z:d),aP a [(x,v)] z=bif a x z then some v else none:=λi=>rfl;induction l with|nil=>exact⟨λh=>by clear e;subst h;show(bif a y y then _ else _)=_;rw[c.refl];rfl,λh=>by show(bif a x y then _ else _)=_;refine Rr (c.ne<|Ne.symm h) ?_;rfl⟩|cons p l g=>haveI e1:bj a (p::l) x v=bif a p.1 x then(p.1,v)::l else p::bj a l x v:=rfl;cases hp:a p.1 x with
  |true=>
   refine Rr e1<|Rr hp ?_;haveI hp:=c.mp hp;refine⟨λh=>?_,λh=>?_⟩;·show(bif a p.1 y then _ else _)=_;rw[hp,h,c.refl];rfl
   ·show(bif a p.1 y then _ else _)=bif a p.1 y then _ else _;refine Rr (c.ne<|hp▸Ne.symm h) ?_;rfl|false=>
   refine Rr e1<|Rr hp ?_;refine⟨λh=>?_,λh=>?_⟩;·show(bif a p.1 y then _ else _)=_;refine Rr h<|Rr hp ?_;exact h▸g.1 h
   ·show(bif a p.1 y then _ else _)=bif a p.1 y then _ else _;exact Rr (g.2 h) rfl
theorem gz:∀(l:List b)(i:Nat),aa l i=l[i]?|[],i=>by cases i<;>rfl|_::_,0=>rfl|_::l,i+1=>gz l i
theorem bT(g:b->b):∀(l:List b)(i j:Nat),aa (aD g l i) j=if i=j then(aa l j).map g else aa l j
 |[],i,j=>show aa [] j=_ by
  by_cases h:i=j;·rw[if_pos h];cases j<;>rfl
  ·rw[if_neg h]|x::l,0,0=>rfl|x::l,0,j+1=>rfl|x::l,i+1,0=>rfl|x::l,i+1,j+1=>by refine(?_:aa (aD g l i) j=if i+1=j+1 then(aa l j).map g else aa l j);rw[bT g l i j];simp only[Nat.add_right_cancel_iff]
theorem gA(g:b->b):∀(l:List b)(i:Nat),(aD g l i).length=l.length|[],i=>rfl|x::l,0=>rfl|x::l,i+1=>congrArg (λc=>c+1)<|gA g l i
theorem bM(x:c):∀l:List c,aa (l++[x]) l.length=some x|[]=>rfl|_::l=>bM x l
theorem eI(x:b)(r:List b):∀l:List b,aa (l++x::r) l.length=some x|[]=>rfl|_::l=>eI x r l
theorem qJ:∀l:List c,aa l l.length=none|[]=>rfl|_::l=>qJ l
theorem jl:∀(l r:List b)(i:Nat),i<l.length->aa (l++r) i=aa l i|_::_,_,0,_=>rfl|_::l,r,i+1,h=>jl l r i<|Nat.lt_of_succ_lt_succ h
theorem dD:∀{l:List c}{i:Nat},aa l i=some x->i<l.length|_::_,0,_=>Nat.succ_pos _|_::_,_+1,h=>Nat.succ_lt_succ<|dD h
theorem cH(r:List b)(h:aa l i=some x):aa (l++r) i=some x:=(jl l r i<|dD h).trans h
theorem lj:∀{l:List c}{i:Nat},i<l.length->∃x,aa l i=some x|x::_,0,_=>⟨x,rfl⟩|_::l,i+1,h=>lj (i:=i)<|Nat.le_of_succ_le_succ h
inductive aL{α β:Type}(R:α->β->Prop):List α->List β->Prop|nil:aL R [] []|cons{x:α}{y:β}{l:List α}{r:List β}:R x y->aL R l r->aL R (x::l) (y::r)
section
variable{α β:Type}{R R':α->β->Prop}{l l':List α}{r r':List β}
theorem aL.len(h:aL R l r):l.length=r.length:=by induction h with|nil=>rfl|cons _ _ b=>exact congrArg (λa=>a+1) b
theorem aL.mono(k:∀a b,R a b->R' a b)(h:aL R l r):aL R' l r:=by induction h with|nil=>exact .nil|cons a _ c=>exact .cons (k _ _ a) c
theorem aL.get(h:aL R l r):∀{i:Nat}{y:β},aa r i=some y->∃x,aa l i=some x/\R x y:=by induction h with|nil=>intro i y e;exact nS e|cons a _ c=>
  intro i y e;rcases i with _|i;·haveI e:=sI e;subst e;exact⟨_,rfl,a⟩
  ·exact c e
theorem aL.at_(h:aL R l r):∀{i:Nat}{x:α}{y:β},aa l i=some x->aa r i=some y->R x y:=by intro i x y e f;obtain⟨b,e',k⟩:=h.get f;rw[e]at e';haveI e':=sI e';subst e';exact k
theorem aL.of:∀{l:List α}{r:List β},l.length=r.length->(∀i x y,aa l i=some x->aa r i=some y->R x y)->aL R l r|[],[],_,_=>.nil|_::_,_::_,e,h=>.cons (h 0 _ _ rfl rfl)<|aL.of (Nat.succ.inj e) λi=>h<|i+1
theorem aL.app(h:aL R l r)(k:aL R l' r'):aL R (l++l')<|r++r':=by induction h with|nil=>exact k|cons a _ b=>exact .cons a b
theorem aL.take(h:aL R l r):∀i:Nat,aL R (l.take i)<|r.take i:=by induction h with|nil=>intro i;refine Rr List.take_nil<|Rr List.take_nil ?_;exact .nil|cons a _ b=>
  intro i;rcases i with _|i;·exact .nil
  ·exact .cons a<|b i
theorem aL.drop(h:aL R l r):∀i:Nat,aL R (l.drop i)<|r.drop i:=by induction h with|nil=>intro i;refine Rr List.drop_nil<|Rr List.drop_nil ?_;exact .nil|cons a k b=>
  intro i;rcases i with _|i;·exact .cons a k
  ·exact b i
theorem aL.set(c:R x y)(h:aL R l r):∀i:Nat,aL R (l.set i x)<|aD (λd=>y) r i:=by induction h with|nil=>intro i;exact .nil|cons a k b=>
  intro i;rcases i with _|i;·exact .cons c k
  ·exact .cons a<|b i
end
theorem Ol(n:Nat)(h:o=some a)(H:(tB (adv t n) a).ev c=r)(e:hB (adv t n)=o:=by kernel_rfl):t.ev c=r:=by refine Rl (e9 t n)<|Rl H ?_;rw[h]at e;revert e;cases adv t n<;>intro e<;>(first|exact nS e;done|(subst e)|subst e);rfl
theorem bS(n m:Nat)(H:a.ev b=r)(e:adv t n=adv a m:=by kernel_rfl):t.ev b=r:=by rw[<-e9 t n,e,e9];exact H
theorem de(n:Nat)(H:a.ev b=r)(e:adv t n=a:=by kernel_rfl):t.ev b=r:=by refine Rl (e9 t n)<|Rr e ?_;exact H
structure Fs(cf:f7)where
 T:Type
 p:Cd->Cd
 l:Cd->T
 r:T
 ok:∀{t:Cd}{z:S},(p t).ev cf=z->l t=r->t.ev cf=z
namespace Fs
section
variable{cf:f7}(n:Nat)
noncomputable def nil:Fs cf:=⟨Unit,id,λξ=>(),(),λh ξ=>h⟩
noncomputable def V{o:Option AV}{a:AV}(h:o=some a)(k:Fs cf):Fs cf:=⟨Option AV×k.T,λt=>k.p<|tV (adv t n) a,λt=>(hV<|adv t n,k.l<|tV (adv t n) a),(o,k.r),λH e=>gn n h (k.ok H<|congrArg (λξ=>ξ.2) e)<|congrArg (λξ=>ξ.1) e⟩
noncomputable def O{o:Option AO}{a:AO}(h:o=some a)(k:Fs cf):Fs cf:=⟨Option AO×k.T,λt=>k.p<|tO (adv t n) a,λt=>(hO<|adv t n,k.l<|tO (adv t n) a),(o,k.r),λH e=>kM n h (k.ok H<|congrArg (λξ=>ξ.2) e)<|congrArg (λξ=>ξ.1) e⟩
noncomputable def B{b a:Bool}(h:b=a)(k:Fs cf):Fs cf:=⟨Option Bool×k.T,λt=>k.p<|tB (adv t n) a,λt=>(hB<|adv t n,k.l<|tB (adv t n) a),(some b,k.r),λH e=>eE n h (k.ok H<|congrArg (λξ=>ξ.2) e)<|congrArg (λξ=>ξ.1) e⟩
noncomputable def Q{o:Option Bool}{a:Bool}(h:o=some a)(k:Fs cf):Fs cf:=⟨Option Bool×k.T,λt=>k.p<|tB (adv t n) a,λt=>(hB<|adv t n,k.l<|tB (adv t n) a),(o,k.r),λH e=>Ol n h (k.ok H<|congrArg (λξ=>ξ.2) e)<|congrArg (λξ=>ξ.1) e⟩
noncomputable def C{hd:Bool}{f:Nat}{a:List AV}{σ σ':AS}{v:AV}(h:cf hd f a σ=.ok v σ')(k:Fs cf):Fs cf:=⟨Option Cl×k.T,λt=>k.p<|tC (adv t n) v σ',λt=>(hC<|adv t n,k.l<|tC (adv t n) v σ'),(some ⟨hd,f,a,σ⟩,k.r),λH e=>aG n h (k.ok H<|congrArg (λξ=>ξ.2) e)<|congrArg (λξ=>ξ.1) e⟩
noncomputable def X{hd:Bool}{f:Nat}{a:List AV}{σ σ':AS}{v:AV}(h:cf hd f a σ=.ex v σ')(k:Fs cf):Fs cf:=⟨Option Cl×k.T,λt=>k.p<|xC (adv t n) v σ',λt=>(hC<|adv t n,k.l<|xC (adv t n) v σ'),(some ⟨hd,f,a,σ⟩,k.r),λH e=>pQ n h (k.ok H<|congrArg (λξ=>ξ.2) e)<|congrArg (λξ=>ξ.1) e⟩
noncomputable def P{p:Cd}{fl:Fl}{loc:aq}{σ:AS}(h:p.ev cf=.go fl loc σ)(k:Fs cf):Fs cf:=⟨Option Cd×k.T,λt=>k.p<|tP (adv t n) fl loc σ,λt=>(hP<|adv t n,k.l<|tP (adv t n) fl loc σ),(some p,k.r),λH e=>eT n h (k.ok H<|congrArg (λξ=>ξ.2) e)<|congrArg (λξ=>ξ.1) e⟩
noncomputable def Y{p:Cd}{v:AV}{loc:aq}{σ:AS}(h:p.ev cf=.ex v loc σ)(k:Fs cf):Fs cf:=⟨Option Cd×k.T,λt=>k.p<|xP (adv t n) v loc σ,λt=>(hP<|adv t n,k.l<|xP (adv t n) v loc σ),(some p,k.r),λH e=>Oh n h (k.ok H<|congrArg (λξ=>ξ.2) e)<|congrArg (λξ=>ξ.1) e⟩
end
end Fs
section
variable{cf:f7}{t t':Cd}{r:S}(fs:Fs cf)
theorem ah(n:Nat)(b:r≠.stuck)(e:(fs.l t,yS<|adv (fs.p t) n)=(fs.r,r):=by kernel_rfl):t.ev cf=r:=fs.ok (az n b<|congrArg (λa=>a.2) e)<|congrArg (λa=>a.1) e
theorem bH(n:Nat)(H:t'.ev cf=r)(e:(fs.l t,adv (fs.p t) n)=(fs.r,t'):=by kernel_rfl):t.ev cf=r:=fs.ok (de n H<|congrArg (λa=>a.2) e)<|congrArg (λa=>a.1) e
theorem dJ(n m:Nat)(H:t'.ev cf=r)(e:(fs.l t,adv (fs.p t) n)=(fs.r,adv t' m):=by kernel_rfl):t.ev cf=r:=fs.ok (bS n m H<|congrArg (λa=>a.2) e)<|congrArg (λa=>a.1) e
end
theorem gv{r:c}(H:eS e i none k=some r):∃h,k h=some r:=by
 delta eS at H;by_cases h:e.ctorIdx=i;·rw[dif_pos h]at H;exact⟨h,H⟩
 ·rw[dif_neg h]at H;exact nS H
theorem f9(H:eD e=some x):∃p,e=.Name x p:=by refine(gv H).elim λh H=>?_;exact Expr.Name.elim e h (λy p h H=>by haveI H:=sI H;exact⟨p,Rr H rfl⟩) h H
theorem nH(H:my e=some q):e=.Attribute q.1 q.2.1 q.2.2:=by refine(gv H).elim λh H=>?_;exact Expr.Attribute.elim e h (λo n p h H=>by haveI H:=sI H;exact Rl H rfl) h H
theorem yW(H:tT e=some q):∃p,e=.Subscript q.1 q.2 p:=by refine(gv H).elim λh H=>?_;exact Expr.Subscript.elim e h (λo i p h H=>by haveI H:=sI H;exact⟨p,Rl H rfl⟩) h H
theorem JL(H:pN e=some q):e=.Call q.1 q.2.1 q.2.2.1 q.2.2.2:=by refine(gv H).elim λh H=>?_;exact Expr.Call.elim e h (λf a k p h H=>by haveI H:=sI H;exact Rl H rfl) h H
theorem JM(H:tU e=some l):∃k p,e=.Tuple l k p:=by refine(gv H).elim λh H=>?_;exact Expr.Tuple.elim e h (λy k p h H=>by haveI H:=sI H;exact⟨k,p,Rr H rfl⟩) h H
theorem yX(H:tW e=some q):e=.List q.1 q.2:=by refine(gv H).elim λh H=>?_;exact Expr.List.elim e h (λl p h H=>by haveI H:=sI H;exact Rl H rfl) h H
theorem yY(H:lX e=some s):∃p,e=.Slice s.1 s.2.1 s.2.2 p:=by refine(gv H).elim λh H=>?_;exact Expr.Slice.elim e h (λb d c p h H=>by haveI H:=sI H;exact⟨p,Rl H rfl⟩) h H
theorem EX(H:zV e=some d):∃p,e=.Dict d.1 d.2 p:=by refine(gv H).elim λh H=>?_;exact Expr.Dict.elim e h (λb vs p h H=>by haveI H:=sI H;exact⟨p,Rl H rfl⟩) h H
end
section
open PySem PySem.Calls PySem.SeqAt PySem.W
open PyProof.Rows(Fr IsTup)
structure VK(prog:Program)(w:World)(K:Type)[DecidableEq K]where
 is:Heap->K->Value->Prop
 hash:K->Int
 draws:K->Nat
 lvl:Nat
 inj:∀{h:Heap}{v:Value}{x y:K},is h x v->is h y v->x=y
 keeps:∀{h h':Heap}{k:K}{v:Value},(∀t vs,IsTup h t vs->IsTup h' t vs)->is h k v->is h' k v
 hash_ok:∀{A:Around}{E:Value->Shared->Prop}{s:Shared}{k:K}{v:Value}{Q:Int->Shared->Prop},A.units+lvl<cLine->is s.heap k v->Q (hash k) {s with toks:=s.toks+draws k}->wpAny (model prog w) A (pyHash v) Q E s
 eq:∀{A:Around}{s:Shared}{x y:K}{u v:Value},A.units+lvl<cLine->is s.heap x u->is s.heap y v->EqAt A s u v (decide<|x=y)quiet:∀{A:Around}{E:Value->Shared->Prop}{s:Shared}{k:K}{v:Value}{Q:Bool->Shared->Prop}{n:Nat},lvl<n->is s.heap k v->Q true s->wpAny (model prog w) A (eqIsQuiet n v) Q E s
section
variable{prog:Program}{w:World}{K L:Type}[DecidableEq K][DecidableEq L]
def yZ(_:Heap)(i:Int)(v:Value):Prop:=∃t,v=.int i t
noncomputable def iQ:VK prog w Int where
 is:=yZ
 hash:=(intKind prog w).hash
 draws:=λξ=>1
 lvl:=0
 inj:=λ⟨t,a⟩⟨u,b⟩=>by rw[a]at b;cases b;rfl
 keeps:=λξ x=>x
 hash_ok:=λ_⟨t,e⟩h=>(intKind prog w).pyHash (by refine Rr e ?_;exact intKind_is _ _ _ _) h
 eq:=λ{A s x y u v}_⟨t,e⟩⟨u,f⟩=>by refine Rr e<|Rr f ?_;haveI:=EqAt.int_int (A:=A) (s:=s) x t y u;rwa[show(x==y)=decide (x=y)from rfl]at this
 quiet:=λ_⟨t,e⟩h=>by refine Rr e<|Rr (eqIsQuiet_byValue _ rfl) ?_;exact wpAny_pure h
inductive du(k:VK prog w K)(h:Heap):List K->List Value->Prop|nil:du k h [] []|cons{x:K}{v:Value}{xs:List K}{vs:List Value}:k.is h x v->du k h xs vs->du k h (x::xs) (v::vs)
def JN(k:VK prog w K)(h:Heap)(x:List K)(v:Value):Prop:=∃t vs,v=.ref t/\IsTup h t vs/\du k h x vs.toList
variable{k:VK prog w K}{h h':Heap}
theorem du.inj(a:du k h x vs):du k h y vs->x=y:=by induction a generalizing y with|nil=>intro b;cases b;rfl|cons a _ ih=>intro b;cases b with|cons c d=>exact Rr (k.inj a c)<|Rr (ih d) rfl
theorem du.keeps(m:∀t vs,IsTup h t vs->IsTup h' t vs)(a:du k h x vs):du k h' x vs:=by induction a with|nil=>exact .nil|cons a _ ih=>exact .cons (k.keeps m a) ih
theorem du.len(a:du k h x vs):x.length=vs.length:=by induction a with|nil=>rfl|cons _ _ ih=>exact congrArg (λξ=>ξ+1) ih
theorem du.get(a:du k h x vs):∀{i:Nat}{v:Value},vs[i]?=some v->∃y,x[i]?=some y/\k.is h y v:=by induction a with|nil=>intro _ _ e;exact nS e|cons a _ ih=>
  intro i _ e;rcases i with _|i;·injection e with e;exact⟨_,rfl,Rl e a⟩
  ·exact ih e
theorem IsTup.inj'(x:IsTup h t a)(y:IsTup h t b):a=b:=by obtain⟨o,ho,_,n,hd⟩:=x;obtain⟨o',ho',_,n',hd'⟩:=y;rw[ho]at ho';haveI ho':=sI ho';subst ho';rw[hd]at hd';cases hd';rfl
theorem IsTup.ty{s:Shared}(x:IsTup s.heap t a):s.TypeIs (.ref t) "tuple":=by obtain⟨o,ho,hc,_⟩:=x;exact⟨o,ho,hc⟩
theorem xj:∀(x y:List K),((List.range<|min x.length y.length).all (λj=>decide<|x[j]?=y[j]?)&&x.length==y.length)=decide (x=y)
 |[],[]=>rfl|[],b::y=>rfl|a::x,[]=>rfl|a::x,b::y=>by
  haveI ih:=xj x y;haveI e:min (a::x).length (b::y).length=min x.length y.length+1:=by simp
  refine Rr e<|Rr List.range_succ_eq_map ?_;simp only[List.all_cons,List.all_map,List.length_cons];haveI:(List.range<|min x.length y.length).all ((λj=>decide<|(a::x)[j]?=(b::y)[j]?)∘Nat.succ)=(List.range<|min x.length y.length).all λj=>decide<|x[j]?=y[j]?:=rfl;refine Rr this ?_;haveI l:(x.length+1==y.length+1)=(x.length==y.length):=by simp
  rw[l,Bool.and_assoc,ih];by_cases hab:a=b<;>simp[hab]
noncomputable def gZ(k:VK prog w K):VK prog w<|List K where
  is:=JN k
  hash:=λks=>reduceHash<|Builtin.Tuple.tupleHashOf<|ks.map k.hash
  draws:=λks=>(ks.map k.draws).sum+1
  lvl:=k.lvl+1
  inj:=λ⟨t,vs,e,a,p⟩⟨u,ws,f,b,q⟩=>by rw[e]at f;injection f with f;subst f;obtain rfl:=IsTup.inj' a b;exact p.inj q
  keeps:=λm⟨t,vs,e,a,p⟩=>⟨t,vs,e,m _ _ a,p.keeps m⟩
  hash_ok:=by
    rintro A E s ks v Q hu⟨t,vs,rfl,ht,hp⟩hq;haveI hT:=IsTup.ty ht;obtain⟨o,ho,_,n,hd⟩:=ht;skip;refine wpAny_bind<|wpAny_cRoomFor_or (.inr<|af (aH _ _ _) (.a (.a (.v 0)<|.p 1 1)<|.n 1) (.v 2) (.p 0 1) (.v 2) hu rfl) ?_;refine wpAny_bind<|wpAny_specialOf hT F.slot_tuple_hash.lookup ?_;refine wpAny_bind<|wpAny_specialOf hT F.slot_tuple_hash.lookup ?_;refine wpAny_bind<|wpAny_callSpecialIfBoundUnlessNone?_slot hT F.slot_tuple_hash<|wpAny_call_entry F.slot_tuple_hash hT F.entry_tuple_hash ?_<|F.args_tuple_hash_1 _;refine(?_:wpAny _ _ (Builtin.Tuple.tupleItemsOf (.ref t)>>=_) _ _ s);refine wpAny_bind<|wpAny_tupleItemsOf ho hd ?_;refine wpAny_bind ?_;refine Rl Array.forIn_toList ?_;refine wpAny_forIn_list _ (λrest b s'=>∃done left,ks=done++left/\du k s.heap left rest/\b.toList=done.map k.hash/\s'={s with toks:=s.toks+(done.map k.draws).sum}) _ ?_ ?_ _ _ ⟨[],ks,rfl,hp,rfl,rfl⟩
    ·clear hp hq;rintro x rest b s'⟨done,left,rfl,hl,hb,rfl⟩;cases hl with|@cons y _ ks' _ h1 hl'=>haveI hu':=af (aH _ _ _) (.a (.a (.v 0)<|.p 1 1)<|.n 1) (.v 2) (.a (.a (.p 0 1)<|.v 1)<|.n 1) (.v 2) hu rfl;refine wpAny_bind<|k.hash_ok hu' h1 ?_;haveI fin:∃done' left',done++y::ks'=done'++left'/\du k s.heap left' rest/\(b.push<|k.hash y).toList=done'.map k.hash/\{s with toks:=s.toks+(done.map k.draws).sum+k.draws y}={s with toks:=s.toks+(done'.map k.draws).sum}:=⟨done++[y],ks',by simp,hl',by simp[hb],by simp[Nat.add_assoc]⟩;exact wpAny_pure fin
    · clear hp;rintro b s'⟨done,left,rfl,hl,hb,rfl⟩;cases hl;rw[Qc]at hq;refine(?_:wpAny _ _ (retInt<|Builtin.Tuple.tupleHashOf b.toList) _ _ _);refine Rr hb ?_;refine wpAny_ret_mkInt ?_;refine(?_:wpAny _ _ (if(decide (-2^63<=Builtin.Tuple.tupleHashOf (done.map k.hash))&&decide (Builtin.Tuple.tupleHashOf (done.map k.hash)<2^63))=true then _ else _) Q E _);delta reduceHash at hq;by_cases hr:(decide (-2^63<=Builtin.Tuple.tupleHashOf (done.map k.hash))&&decide (Builtin.Tuple.tupleHashOf (done.map k.hash)<2^63))=true
      ·refine Rr (if_pos hr) ?_;rw[if_pos hr]at hq;exact wpAny_pure<|by trivial
      ·refine Rr (if_neg hr) ?_;rw[if_neg hr]at hq;exact wpAny_bind<|wpAny_rule<|wpAny_pure<|by trivial
  eq:=by
    rintro A s x y u v hu⟨t,vs,rfl,ht,hp⟩⟨r,ws,rfl,hr,hq⟩;by_cases hne:t=r
    ·subst hne;obtain rfl:=IsTup.inj' ht hr;obtain rfl:=hp.inj hq;refine Rr (decide_eq_true rfl) ?_;exact EqAt.same _
    · haveI l1:=by exact hp.len
      haveI l2:=by exact hq.len
      haveI:=EqAt.of_refs hne (RcAt.tuples (e:=λj=>decide<|x[j]?=y[j]?) ht hr (af (aH _ _ _) (.a (.a (.v 0)<|.p 1 1)<|.n 1) (.v 2) (.p 0 1) (.v 2) hu rfl) λj h1 h2=>by
        refine cps λG_ g_=>?_;obtain⟨a,ea,ia⟩:=hp.get (i:=j) (v:=vs[j]) (by simp[h1]);obtain⟨b,eb,ib⟩:=hq.get (i:=j) (v:=ws[j]) (by simp[h2]);refine g_ ?_;haveI hu':=af (aH _ _ _) (.a (.a (.v 0)<|.p 1 1)<|.n 1) (.v 2) (.a (.a (.p 0 1)<|.v 1)<|.n 1) (.v 2) hu rfl;haveI:=k.eq (A:=A.in1) hu' ia ib;refine Rr ea<|Rr eb ?_;haveI e:decide (some a=some b)=decide (a=b):=by simp
        refine Rr e ?_;exact this);rw[<-xj,l1,l2];exact this
  quiet:=by rintro A E s ks v Q n hn⟨t,vs,rfl,ht,hp⟩hq;haveI hT:=IsTup.ty ht;obtain⟨o,ho,_,m,hd⟩:=ht;cases n with|zero=>lia|succ n=>
    unfold eqIsQuiet;refine wpAny_bind<|wpAny_specialOf hT F.slot_tuple_eq.lookup ?_;refine wpAny_bind<|wpAny_isInstance hT isSubtype_tuple_tuple ?_;refine wpAny_bind<|wpAny_seqItems ho hd ?_;refine wpAny_bind ?_;refine Rl Array.forIn_toList ?_;refine wpAny_forIn_list _ (λrest r s'=>r.1=none/\s'=s/\∃ks,du k s.heap ks rest) _ ?_ ?_ _ _ ⟨rfl,rfl,_,hp⟩
    ·clear hp hq hT ho;rintro v rest r s'⟨hr,rfl,ks',hall⟩;cases hall with|cons h1 h2=>refine wpAny_bind<|k.quiet (af (au _ _) (.a (.p 0 1)<|.n 1) (.p 1 1) (.p 0 1) (.v 1) hn rfl) h1 ?_;exact wpAny_pure ⟨rfl,rfl,_,h2⟩
    ·clear hp hT ho;rintro⟨r1,r2⟩s'⟨hr,rfl,_⟩;subst hr;exact wpAny_pure hq
def JO(l:VK prog w<|List L)(h:Heap)(x:Int⊕List L)(v:Value):Prop:=match x with|.inl i=>yZ h i v|.inr y=>l.is h y v
noncomputable def sb(l:VK prog w L):VK prog w<|Int⊕List L where
 is:=JO<|gZ l
 hash:=λx=>match x with|.inl i=>(intKind prog w).hash i|.inr y=>(gZ l).hash y
 draws:=λx=>match x with|.inl _=>1|.inr y=>(gZ l).draws y
 lvl:=l.lvl+1
 inj:=λ{h v x y}a b=>by
  rcases x with i|x;·cases y with|inl j=>exact Rr ((iQ (prog:=prog) (w:=w)).inj (h:=h) a b) rfl|inr y=>obtain⟨t,rfl⟩:=a;obtain⟨u,vs,e,_⟩:=b;injection e
  ·cases y with|inl j=>obtain⟨t,rfl⟩:=b;obtain⟨u,vs,e,_⟩:=a;injection e|inr y=>exact Rr ((gZ l).inj a b) rfl
 keeps:=λ{h h' x v}m a=>by
  rcases x with i|y;·exact a
  ·exact(gZ l).keeps m a
 hash_ok:=λ{A E s x v Q}hu a hq=>by
  rcases x with i|y;·exact iQ.hash_ok (Nat.lt_of_le_of_lt (Qi _ _) hu) a hq
  ·exact(gZ l).hash_ok hu a hq
 eq:=λ{A s x y u v}hu a b=>by
  rcases x with i|x;·cases y with
   |inl j=>
    haveI:=(iQ (prog:=prog) (w:=w)).eq (s:=s) (Nat.lt_of_le_of_lt (Qi _ _) hu) a b;haveI e:decide ((Sum.inl i:Int⊕List L)=Sum.inl j)=decide (i=j):=by simp
    refine Rr e ?_;exact this|inr y=>obtain⟨t,rfl⟩:=a;obtain⟨r,vs,rfl,ht,_⟩:=b;haveI e:decide (Sum.inl i=Sum.inr y)=false:=rfl;exact EqAt.int_tuple _ _ ht<|af (aH _ _ _) (.a (.a (.v 0)<|.p 1 1)<|.n 1) (.v 2) (.p 0 1) (.v 2) hu rfl
  ·cases y with|inl j=>obtain⟨t,rfl⟩:=b;obtain⟨r,vs,rfl,ht,_⟩:=a;haveI e:decide (Sum.inr x=Sum.inl j)=false:=rfl;exact EqAt.tuple_int _ _ ht<|af (aH _ _ _) (.a (.a (.v 0)<|.p 1 1)<|.n 1) (.v 2) (.p 0 1) (.v 2) hu rfl|inr y=>
    haveI:=(gZ l).eq hu a b;haveI e:decide ((Sum.inr x:Int⊕List L)=Sum.inr y)=decide (x=y):=by simp
    refine Rr e ?_;exact this
 quiet:=λ{A E s x v Q n}hn a hq=>by
  rcases x with i|y;·exact iQ.quiet (Nat.lt_of_le_of_lt (Nat.zero_le _) hn) a hq
  ·exact(gZ l).quiet hn a hq
end
noncomputable def hE(prog:Program)(w:World):VK prog w TK:=gZ<|sb iQ
noncomputable def iI(prog:Program)(w:World):HeapKind prog w TK where
 is:=λh k a=>(hE prog w).is h k<|.ref a
 hash:=(hE prog w).hash
 draws:=(hE prog w).draws
 room:=λA=>A.units+10<cLine
 inj:=λa b=>(hE prog w).inj a b
 keeps:=λ{h h' k a d o es ep}x ho hd hs=>(hE prog w).keeps (λt vs⟨o',ho',hc,n,hd'⟩=>⟨o',(hs.2 t<|by clear hs;rintro rfl;rw[ho]at ho';injection ho' with ho';clear hc;subst ho';rw[hd]at hd';injection hd').trans ho',hc,n,hd'⟩) x
 pyHash:=λhu x hq=>(hE prog w).hash_ok (Nat.lt_of_le_of_lt (Qo (show 2<=10 by decide) _) hu) x hq
 eqBool:=λhu a b hq=>(hE prog w).eq (Nat.lt_of_le_of_lt (Qo (show 2<=10 by decide) _) hu) a b prog w _ _ hq
 quiet:=λx hq=>(hE prog w).quiet (show 2<8 by decide) x hq
end
section
open PySem PySem.Calls PySem.W
open PyProof.Rows(Fr IsTup)
section
inductive iw where|ref(r i:Nat)|ex(C:Nat)(f:List<|Str×AV)|pv|fr|tb
noncomputable def iw.ctorIdx(v:iw):Nat:=iw.casesOn v (λξ ξ=>0) (λξ ξ=>1) 2 3 4
abbrev aB:=Addr×Addr->iw->Prop
def bX(b:Addr)(p:Addr×Addr):Prop:=b=p.1\/b=p.2
def bA(ρ:aB)(b:Addr):Prop:=∃p t,ρ p t/\bX b p
noncomputable def hG(s:String):Value:=if s="range"\/s="tuple"then .type s else .builtin s
inductive RV(ρ:aB)(h:Heap):Value->AV->Prop|none:RV ρ h .none .none|bool(b:Bool):RV ρ h (.bool b)<|.bool b|int(i:Int)(t:Tok):RV ρ h (.int i t)<|.int i|str(s:Str)(t:Tok):RV ρ h (.str s t)<|.str s|con(a:Addr):RV ρ h (.ref a)<|.con a|imm(s:String){v:Value}(e:v=hG s):RV ρ h v<|.imm s|ref{r i:Nat}{p:Addr×Addr}(e:ρ p<|.ref r i):RV ρ h (.ref p.1)<|.ref r i|ex{p:Addr×Addr}{C:Nat}{f:List<|Str×AV}(e:ρ p<|.ex C f):RV ρ h (.ref p.1)<|.fi C f|rng{r:Addr}{a b c:Int}{t u v:Tok}(hr:IsRange h r a b c t u v)(no:¬bA ρ r):RV ρ h (.ref r)<|.rng a b c|tup{t:Addr}{vs:Array Value}{l:List AV}(ht:IsTup h t vs)(hn:vs.toList.length=l.length)(hl:∀i v a,aa vs.toList i=some v->aa l i=some a->RV ρ h v a):RV ρ h (.ref t)<|.tup l|fl{t:Addr}{vs:Array Value}{l:List AV}(ht:h.PlainList t vs)(no:¬bA ρ t)(hn:vs.toList.length=l.length)(hl:∀i v a,aa vs.toList i=some v->aa l i=some a->RV ρ h v a):RV ρ h (.ref t)<|.fl l|fi{a d:Addr}{C:Nat}{f:List<|Str×AV}{es:List DictEntry}{n:Nat}(ho:h.get? a=some (instObj C d))(n1:¬bA ρ a)(hd:h.get? d=some (dictOf es n))(n2:¬bA ρ d)(hC:TP.exc C=false)(sk:StrKeys es.toArray)(hs:∀x,(nsFind es.toArray x).isSome=(aP sF f x).isSome)(hf:∀x v a,nsFind es.toArray x=some v->aP sF f x=some a->RV ρ h v a):RV ρ h (.ref a)<|.fi C f
abbrev aU(ρ:aB)(h:Heap):List Value->List AV->Prop:=aL<|RV ρ h
def RO(ρ:aB)(h:Heap)(v:Option Value)(a:Option AV):Prop:=v.isSome=a.isSome/\∀w b,v=some w->a=some b->RV ρ h w b
def ck(ρ:aB)(h:Heap){α:Type}:List (α×Value)->List (α×AV)->Prop:=aL λp q=>p.1=q.1/\RV ρ h p.2 q.2
def Ma(h:Heap)(T:Addr):Prop:=∃o ts x,h.get? T=some o/\o.cls=.type "traceback"/\o.data=.fields ts/\ts[3]?=some x
structure cB where
 prog:Program
 w:World
 h₀:Heap
 K:Frag
 mg:Str->Option Value
 mb:Str->Option Value
 os:OsState
 inK:K.In h₀
 nolim:h₀.NoLimit
 glob:h₀.Ns mainGlobals mg
 bi:h₀.Ns builtinsNs mb
 sys:∃o,h₀.get? sysModules=some o
variable(G:cB)
def fZ(ρ:aB)(h:Heap)(d:Addr)(f:List<|Str×AV):Prop:=∃es n,h.get? d=some (dictOf es n)/\StrKeys es.toArray/\UniqKeys es.toArray/\es.length=f.length/\∀x,RO ρ h (nsFind es.toArray x)<|aP sF f x
def jA(ρ:aB)(h:Heap)(d:Addr)(f:List<|Str×AV):Prop:=∃es n,h.get? d=some (dictOf es n)/\StrKeys es.toArray/\∀x,RO ρ h (nsFind es.toArray x)<|aP sF f x
def kO(ρ:aB)(h:Heap)(v:Value):AV->Prop|.none=>v=.none|.bool b=>v=.bool b|.int i=>∃t,v=.int i t|.str s=>∃t,v=.str s t|.tup l=>∃t vs,v=.ref t/\IsTup h t vs/\aU ρ h vs.toList l|.fl l=>∃t vs,v=.ref t/\h.PlainList t vs/\¬bA ρ t/\aU ρ h vs.toList l|.rng a b c=>∃r t u w,v=.ref r/\IsRange h r a b c t u w/\¬bA ρ r|.ref r i=>∃p,v=.ref p.1/\ρ p (.ref r i)|.con a=>v=.ref a|.imm s=>v=hG s|.fi C f=>(∃p,v=.ref p.1/\ρ p (.ex C f))\/TP.exc C=false/\∃a d,v=.ref a/\h.get? a=some (instObj C d)/\¬bA ρ a/\¬bA ρ d/\jA ρ h d f
def bF(ρ:aB)(h:Heap)(p:Addr×Addr):AO->Prop|.list l=>p.2=p.1/\∃vs,h.PlainList p.1 vs/\aU ρ h vs.toList l|.inst C f=>p.2≠p.1/\h.get? p.1=some (instObj C p.2)/\fZ ρ h p.2 f|.edict=>p.2=p.1/\h.get? p.1=some emptyDict|.idict l=>p.2=p.1/\∃kvs,h.DictOf (intKind G.prog G.w) p.1 kvs/\ck ρ h kvs l|.sdict l=>p.2=p.1/\∃kvs,h.DictOf (strKind G.prog G.w) p.1 kvs/\ck ρ h kvs l|.tdict l=>p.2=p.1/\∃kvs,h.DictOfH (iI G.prog G.w) p.1 kvs/\ck ρ h (kvs.map λx=>(x.1,x.2.2)) l
def JP(ρ:aB)(h:Heap)(p:Addr×Addr)(C:Nat)(f:List<|Str×AV):Prop:=p.2≠p.1/\fZ ρ h p.2 f/\TP.exc C=true/\∃a0 tb,h.get? p.1=some ⟨.ref C,some p.2,.fields #[a0,tb,.none,.none,.bool false,.none],#[]⟩/\(tb=.none\/∃T,tb=.ref T/\ρ (T,T) .tb)
def NT(o:Obj):Prop:=o.cls≠.type "tuple"\/∀vs n,o.data≠.seq vs n
def Holds(ρ:aB)(σ:AS)(h:Heap)(p:Addr×Addr):iw->Prop|.ref r i=>∃o,gt σ r i=some o/\bF G ρ h p o|.ex C f=>JP ρ h p C f|.pv=>p.2=p.1/\∃o,h.get? p.1=some o/\NT o|.fr=>p.2=p.1/\∃o es n,h.get? p.1=some o/\o.data=.dict es n|.tb=>p.2=p.1/\Ma h p.1
structure St(ρ:aB)(σ:AS)(s:Shared):Prop where
 conc:∀p t,ρ p t->Holds G ρ σ s.heap p t
 dom:∀r i o,gt σ r i=some o->∃p,ρ p<|.ref r i
 apart:∀b p t q u,ρ p t->ρ q u->bX b p->bX b q->p=q/\t=u
 one:∀p q r i,ρ p (.ref r i)->ρ q (.ref r i)->p=q
 base:G.h₀.StaysIn s.heap
 own0:∀b,bA ρ b->G.h₀.get? b=none
 gens:s.gens=#[]os:s.os=G.os
structure aY(ρ:aB)(h:Heap)(ρ':aB)(h':Heap):Prop where
 ext:∀p t,t≠.pv->ρ p t->ρ' p t
 hid:∀b o,h.get? b=some o->¬bA ρ b->¬bA ρ' b/\h'.get? b=some o
 tup:∀t vs,IsTup h t vs->IsTup h' t vs
structure bz(X:Addr->Prop)(ρ:aB)(h:Heap)(ρ':aB)(h':Heap):Prop where
 g:aY ρ h ρ' h'
 dom:∀b,h'.get? b=none->h.get? b=none
 fr:∀p o,¬X p.1->ρ p .fr->h.get? p.1=some o->∃sl,h'.get? p.1=some {o with slots:=sl}pv:∀p o,¬X p.1->ρ p .pv->h.get? p.1=some o->ρ' p .pv/\h'.get? p.1=some o
abbrev No(_:Addr):Prop:=False
abbrev bq:=bz No
section
variable{G}{ρ ρ' ρ'':aB}{σ σ' σ'':AS}{h h' h'':Heap}{X Y:Addr->Prop}{s s':Shared}
theorem RV.mv(g:aY ρ h ρ' h')(r:RV ρ h v a):RV ρ' h' v a:=by induction r with|none=>exact .none|bool b=>exact .bool b|int i t=>exact .int i t|str s t=>exact .str s t|con a=>exact .con a|imm s e=>exact .imm s e|ref e=>exact .ref<|g.ext _ _ nofun e|ex e=>exact .ex<|g.ext _ _ nofun e|rng o no=>exact .rng (g.hid _ _ o no).2 (g.hid _ _ o no).1|tup c f _ d=>exact .tup (g.tup _ _ c) f d|fl c no f _ d=>exact c.elim λn c=>.fl ⟨n,(g.hid _ _ c no).2⟩ (g.hid _ _ c no).1 f d|fi l k m j hC p q _ d=>exact .fi (g.hid _ _ l k).2 (g.hid _ _ l k).1 (g.hid _ _ m j).2 (g.hid _ _ m j).1 hC p q d
theorem RV.inv(r:RV ρ h v a):kO ρ h v a:=by cases r with|none=>exact rfl|bool b=>exact rfl|int i t=>exact⟨t,rfl⟩|str s t=>exact⟨t,rfl⟩|con a=>exact rfl|imm s e=>exact e|ref e=>exact⟨_,rfl,e⟩|ex e=>exact .inl ⟨_,rfl,e⟩|rng k no=>exact⟨_,_,_,_,rfl,k,no⟩|tup c d hl=>exact⟨_,_,rfl,c,.of d hl⟩|fl c no d hl=>exact⟨_,_,rfl,c,no,.of d hl⟩|fi j l o f hC g n m=>exact .inr ⟨hC,_,_,rfl,j,l,f,_,_,o,g,λx=>⟨n x,m x⟩⟩
theorem RV.fi_(hC:TP.exc C=false)(l:h.get? a=some (instObj C d))(g:¬bA ρ a)(i:¬bA ρ d)(F:jA ρ h d f):RV ρ h (.ref a)<|.fi C f:=by obtain⟨m,n,k,j,c⟩:=F;exact .fi l g k i hC j (λx=>(c x).1) λx=>(c x).2
theorem aU.mv(g:aY ρ h ρ' h')(r:aU ρ h v a):aU ρ' h' v a:=aL.mono (λb b=>RV.mv g) r
theorem RO.mv(g:aY ρ h ρ' h')(r:RO ρ h v a):RO ρ' h' v a:=⟨r.1,λw b e f=>(r.2 w b e f).mv g⟩
theorem ck.mv(g:aY ρ h ρ' h'){a:List<|c×AV}(r:ck ρ h v a):ck ρ' h' v a:=aL.mono (λb b x=>⟨x.1,x.2.mv g⟩) r
theorem RV.tup_(b:IsTup h t vs)(hl:aU ρ h vs.toList l):RV ρ h (.ref t)<|.tup l:=.tup b hl.len λa a a e f=>hl.at_ e f
theorem RV.fl_(b:h.PlainList t vs)(no:¬bA ρ t)(hl:aU ρ h vs.toList l):RV ρ h (.ref t)<|.fl l:=.fl b no hl.len λa a a e f=>hl.at_ e f
theorem fZ.mv(g:aY ρ h ρ' h')(e:∀o,h.get? d=some o->h'.get? d=some o)(c:fZ ρ h d f):fZ ρ' h' d f:=by obtain⟨k,n,b,l,j,m,i⟩:=c;exact⟨k,n,e _ b,l,j,m,λx=>(i x).mv g⟩
theorem bF.mv(g:aY ρ h ρ' h')(k:∀b o,bX b p->h.get? b=some o->h'.get? b=some o)(c:bF G ρ h p o):bF G ρ' h' p o:=by
 haveI d:=k p.1;haveI B:=k p.2;rcases o with l|⟨C,f⟩|_|l|l|l;·exact⟨c.1,c.2.elim λvs c=>⟨vs,c.1.elim λn e=>⟨n,d _ (.inl rfl) e⟩,c.2.mv g⟩⟩
 ·exact⟨c.1,d _ (.inl rfl) c.2.1,c.2.2.mv g λo=>B o<|.inr rfl⟩
 ·exact⟨c.1,d _ (.inl rfl) c.2⟩
 ·obtain⟨e,a,⟨o,m,i,j,r⟩,x⟩:=c;exact⟨e,a,⟨o,m,i,d o (.inl rfl) j,r⟩,x.mv g⟩
 ·obtain⟨e,a,⟨o,m,i,j,r⟩,x⟩:=c;exact⟨e,a,⟨o,m,i,d o (.inl rfl) j,r⟩,x.mv g⟩
 ·obtain⟨e,a,⟨o,m,i,j,z,A,v,D,t⟩,x⟩:=c;exact⟨e,a,⟨o,m,i,d o (.inl rfl) j,z,A,v,λy u=>(hE G.prog G.w).keeps g.tup<|D y u,t⟩,x.mv g⟩
theorem Holds.mv(g:aY ρ h ρ' h')(k:∀b o,bX b p->h.get? b=some o->h'.get? b=some o)(l:∀r i o,t=.ref r i->gt σ r i=some o->gt σ' r i=some o)(c:Holds G ρ σ h p t):Holds G ρ' σ' h' p t:=by
 haveI j:=k p.1;haveI u:=k p.2;rcases t with⟨r,i⟩|⟨C,f⟩|_|_|_;·exact c.elim λo c=>⟨o,l r i o rfl c.1,c.2.mv g k⟩
 ·obtain⟨e,x,hC,w,z,v,y⟩:=c;exact⟨e,x.mv g λo=>u o<|.inr rfl,hC,w,z,j _ (.inl rfl) v,y.imp id λq=>by obtain⟨T,e,t⟩:=q;exact⟨T,e,g.ext _ _ nofun t⟩⟩
 ·exact⟨c.1,c.2.elim λo c=>⟨o,j _ (.inl rfl) c.1,c.2⟩⟩
 ·obtain⟨e,o,m,n,c,d⟩:=c;exact⟨e,o,m,n,j _ (.inl rfl) c,d⟩
 ·obtain⟨e,o,ts,x,c,d⟩:=c;exact⟨e,o,ts,x,j _ (.inl rfl) c,d⟩
theorem Holds.obj(c:Holds G ρ σ h p t)(z:bX b p):∃o,h.get? b=some o/\∀vs,¬IsTup h b vs:=by
 have k:∀{o:Obj},h.get? b=some o->NT o->∃o,h.get? b=some o/\∀vs,¬IsTup h b vs:=λa w=>⟨_,a,λvs⟨o',m,D,n,d'⟩=>by
  rw[a]at m;haveI m:=sI m;subst m;rcases w with w|w;·exact w D
  ·exact w _ _ d'⟩;have g:=λq=>z.elim id λe=>e.trans q;have fl:∀{f},fZ ρ h p.2 f->b=p.2->∃o,h.get? b=some o/\∀vs,¬IsTup h b vs:=λ⟨y,n,a,_⟩q=>k (Rr q a) (.inr λA A q=>by injection q);rcases t with⟨r,i⟩|⟨C,f⟩|_|_|_;·
  obtain⟨o,_,c⟩:=c;rcases o with l|⟨C,f⟩|_|l|l|l;·obtain⟨e,vs,⟨n,a⟩,_⟩:=c;exact k (Rr (g e) a)<|.inl<|by simp
  ·exact z.elim (λq=>k (Rr q c.2.1)<|.inl λq=>by injection q)<|fl c.2.2
  ·exact k (Rr (g c.1) c.2)<|.inr λA A q=>by injection q
  ·obtain⟨e,v,⟨o,y,B,a,u,_⟩,_⟩:=c;exact k (g e▸a)<|.inl<|by rw[u.1];simp
  ·obtain⟨e,v,⟨o,y,B,a,u,_⟩,_⟩:=c;exact k (g e▸a)<|.inl<|by rw[u.1];simp
  ·obtain⟨e,v,⟨o,y,B,a,u,_⟩,_⟩:=c;exact k (g e▸a)<|.inl<|by rw[u.1];simp
 ·obtain⟨_,x,_,F,E,a,_⟩:=c;exact z.elim (λq=>k (Rr q a)<|.inl λq=>by injection q)<|fl x
 ·obtain⟨e,o,a,c⟩:=c;exact k (Rr (g e) a) c
 ·obtain⟨e,o,y,n,a,d⟩:=c;exact k (Rr (g e) a)<|.inr λvs n q=>by rw[d]at q;injection q
 ·obtain⟨e,o,ts,x,a,_,d,_⟩:=c;exact k (Rr (g e) a)<|.inr λvs n q=>by rw[d]at q;injection q
theorem St.obj(Z:St G ρ σ s)(c:bA ρ b):∃o,s.heap.get? b=some o/\∀vs,¬IsTup s.heap b vs:=by refine c.elim λp ζ0=>ζ0.elim λt ζ1=>ζ1.elim λe q=>?_;exact(Z.conc p t e).obj q
theorem St.not0(Z:St G ρ σ s)(c:G.h₀.get? b=some o):¬bA ρ b:=λq=>by haveI:=Z.own0 b q;rw[c]at this;injection this
theorem cC(h:Heap):h.get? h.objs.size=none:=by cases e:h.get? h.objs.size with|none=>rfl|some o=>exact absurd (Heap.lt_size e)<|Nat.lt_irrefl _
theorem cw(h:Heap)(o:Obj):∀b c,h.get? b=some c->(h.push o).get? b=some c:=λb c e=>Qp _ e
theorem St.freshOwn(Z:St G ρ σ s)(d:s.heap.get? b=none):¬bA ρ b:=λq=>by obtain⟨o,a,_⟩:=Z.obj q;rw[d]at a;injection a
theorem St.fresh0(Z:St G ρ σ s)(c:s.heap.get? b=none):G.h₀.get? b=none:=by cases e:G.h₀.get? b with|none=>rfl|some o=>have:=Z.base b o e;rw[c]at this;injection this
theorem aY.rfl:aY ρ h ρ h:=⟨λa a a e=>e,λa a e n=>⟨n,e⟩,λa a e=>e⟩
theorem aY.trans(x:aY ρ h ρ' h')(y:aY ρ' h' ρ'' h''):aY ρ h ρ'' h'':=⟨λp t n e=>y.ext p t n<|x.ext p t n e,λb o e n=>y.hid b o (x.hid b o e n).2 (x.hid b o e n).1,λt vs e=>y.tup t vs<|x.tup t vs e⟩
theorem bz.rfl:bz X ρ h ρ h:=⟨.rfl,λa e=>e,λp o a a e=>⟨o.slots,e⟩,λp o a t e=>⟨t,e⟩⟩
theorem bz.trans(x:bz X ρ h ρ' h')(y:bz X ρ' h' ρ'' h''):bz X ρ h ρ'' h'':=⟨x.g.trans y.g,λb e=>x.dom b<|y.dom b e,λp o n t e=>(x.fr p o n t e).elim λa e'=>y.fr p {o with slots:=a} n (x.g.ext _ _ nofun t) e',λp o n t e=>y.pv p o n (x.pv p o n t e).1 (x.pv p o n t e).2⟩
theorem bz.wk(x:bq ρ h ρ' h'):bz X ρ h ρ' h':=⟨x.g,x.dom,λp o a=>x.fr p o id,λp o a=>x.pv p o id⟩
theorem qw(e:∀b c,h.get? b=some c->h'.get? b=some c)(t:Addr)(vs:Array Value)(x:IsTup h t vs):IsTup h' t vs:=by obtain⟨o,d,r⟩:=x;exact⟨o,e _ _ d,r⟩
theorem lk(f:∀b d,h.get? b=some d->h'.get? b=some d)(b:Addr)(e:h'.get? b=none):h.get? b=none:=by cases q:h.get? b with|none=>rfl|some o=>rw[f b o q]at e;injection e
theorem aY.grow(d:∀b c,h.get? b=some c->h'.get? b=some c):aY ρ h ρ h':=⟨λf f f e=>e,λb o e n=>⟨n,d b o e⟩,qw d⟩
theorem bz.grow(c:∀b d,h.get? b=some d->h'.get? b=some d):bz X ρ h ρ h':=⟨.grow c,lk c,λp o f f e=>⟨o.slots,c _ _ e⟩,λp o f t e=>⟨t,c _ _ e⟩⟩
theorem St.grow(Z:St G ρ σ s)(d:∀b f,s.heap.get? b=some f->h'.get? b=some f)(g:Nat):St G ρ σ {s with heap:=h',toks:=g}:=⟨λp t e=>(Z.conc p t e).mv (.grow d) (λb o c=>d b o) λc c c c e=>e,Z.dom,Z.apart,Z.one,λb o e=>d b o<|Z.base b o e,Z.own0,Z.gens,Z.os⟩
theorem St.toks(Z:St G ρ σ s)(a:Nat):St G ρ σ {s with toks:=a}:=Z.grow (λb b e=>e) a
def aB.add(ρ:aB)(q:Addr×Addr)(u:iw):aB:=λp t=>ρ p t\/p=q/\t=u
theorem aB.new:ρ.add q u q u:=.inr ⟨rfl,rfl⟩
theorem mV(x:bA (ρ.add q u) b):bA ρ b\/bX b q:=by
 obtain⟨p,t,e|⟨e,_⟩,a⟩:=x;·exact .inl ⟨p,t,e,a⟩
 ·exact .inr<|Rl e a
theorem aY.new(g:∀b d,h.get? b=some d->h'.get? b=some d)(i:∀b,bX b q->h.get? b=none):aY ρ h (ρ.add q u) h':=⟨λf f f e=>.inl e,λb o e n=>⟨λx=>(mV x).elim n λx=>by rw[i b x]at e;injection e,g b o e⟩,qw g⟩
theorem bz.new(c:∀b f,h.get? b=some f->h'.get? b=some f)(i:∀b,bX b q->h.get? b=none):bz X ρ h (ρ.add q u) h':=⟨.new c i,lk c,λp o g g e=>⟨o.slots,c _ _ e⟩,λp o g t e=>⟨.inl t,c _ _ e⟩⟩
theorem St.new(Z:St G ρ σ s)(j:∀b v,s.heap.get? b=some v->h'.get? b=some v)(m:∀b,bX b q->s.heap.get? b=none)(B:Nat)(z:∀r i o,gt σ' r i=some o->u=.ref r i\/gt σ r i=some o)(w:∀r i o,gt σ r i=some o->gt σ' r i=some o/\u≠.ref r i)(c:Holds G (ρ.add q u) σ' h' q u):St G (ρ.add q u) σ' {s with heap:=h',toks:=B}:=by
  have no:=λ{b p t}e f g=>Z.freshOwn (m b g) ⟨p,t,e,f⟩;refine⟨λp t e=>?_,λr i o e=>?_,λb p t l y e f g k=>?_,λp l r i e f=>?_,λb o e=>j b o<|Z.base b o e,λb x=>?_,Z.gens,Z.os⟩
  · rcases e with e|⟨rfl,rfl⟩;·exact(Z.conc p t e).mv (.new j m) (λb o A=>j b o) λr i o A e=>(w r i o e).1
    ·exact c
  ·exact(z r i o e).elim (λe=>⟨q,.inr ⟨rfl,e.symm⟩⟩) λe=>(Z.dom r i o e).elim λp e=>⟨p,.inl e⟩
  · rcases e with e|⟨rfl,rfl⟩<;>rcases f with f|⟨rfl,rfl⟩;·exact Z.apart b p t l y e f g k
    ·exact(no e g k).elim
    ·exact(no f k g).elim
    ·exact⟨rfl,rfl⟩
  · have d:∀{p},ρ p (.ref r i)->u=.ref r i->False:=λe q=>(Z.conc _ _ e).elim λo x=>(w r i o x.1).2 q;rcases e with e|⟨rfl,e⟩<;>rcases f with f|⟨rfl,f⟩;·exact Z.one p l r i e f
    ·exact(d e f.symm).elim
    ·exact(d f e.symm).elim
    ·rfl
  ·exact(mV x).elim (Z.own0 b) λx=>Z.fresh0<|m b x
theorem aY.chg(g:bA ρ b)(f:∀vs,¬IsTup h b vs)(d:Heap.ExtBut b h h'):aY ρ h ρ h':=⟨λa a a e=>e,λc o e n=>⟨n,d c o (λq=>n<|Rr q g) e⟩,λt vs x=>x.elim λo y=>⟨o,d t o (λq=>f vs<|Rl q x) y.1,y.2⟩⟩
theorem wa(g:Heap.ExtBut b h h')(f:∃o,h'.get? b=some o)(c:Addr)(e:h'.get? c=none):h.get? c=none:=by cases q:h.get? c with|none=>rfl|some o=>
  by_cases z:c=b;·refine f.elim λo' k=>?_;rw[z,k]at e;injection e
  ·rw[g c o z q]at e;injection e
theorem St.growC(Z:St G ρ σ s)(e:ρ p u)(a:bX b p)(c:Heap.ExtBut b s.heap h'):aY ρ s.heap ρ h':=.chg ⟨p,u,e,a⟩ ((Z.conc p u e).obj a).choose_spec.2 c
theorem St.keepC(Z:St G ρ σ s)(e:ρ p u)(c:bX b p)(i:u≠.fr)(j:u≠.pv)(a:Heap.ExtBut b s.heap h')(l:∃o,h'.get? b=some o):bz X ρ s.heap ρ h':=⟨Z.growC e c a,wa a l,λq o m f g=>⟨o.slots,a _ _ (λk=>i (Z.apart b p u q .fr e f c<|.inl k.symm).2) g⟩,λq o m f g=>⟨f,a _ _ (λk=>j (Z.apart b p u q .pv e f c<|.inl k.symm).2) g⟩⟩
theorem St.chg(Z:St G ρ σ s)(e:ρ p u)(d:bX b p)(j:Heap.ExtBut b s.heap h')(n:Nat)(a:∀r i,u≠.ref r i->gt σ' r i=gt σ r i)(c:aY ρ s.heap ρ h'->Holds G ρ σ' h' p u):St G ρ σ' {s with heap:=h',toks:=n}:=by
  haveI g:=Z.growC e d j;refine⟨λq t f=>?_,λr i o f=>?_,Z.apart,Z.one,λx o f=>?_,Z.own0,Z.gens,Z.os⟩
  · by_cases l:∃x,bX x q/\x=b;·obtain⟨x,w,rfl⟩:=l;obtain⟨rfl,rfl⟩:=Z.apart x p u q t e f d w;exact c g
    ·refine(Z.conc q t f).mv g (λx o y k=>j x o (λz=>l ⟨x,y,z⟩) k) λr i o v k=>?_;rw[a r i λz=>?_];exact k;subst v;clear a c;subst z;exact l ⟨b,Rl (Z.one p q r i e f) d,rfl⟩
  · by_cases m:u=.ref r i;·exact⟨p,Rl m e⟩
    ·rw[a r i m]at f;exact Z.dom r i o f
  ·exact j x o (λq=>Z.not0 f<|Rr q ⟨p,u,e,d⟩)<|Z.base x o f
end
end
abbrev gf:aB:=λξ ξ=>False
def fc(ρ:aB)(l:List Env):Prop:=∀e∈l,e.scope.kind=.function/\∃L,e.frame=some L/\ρ (L,L) .fr
structure Ar(G:cB)(A:Around)(D:Nat)(hd:Bool)(fs:List Env)(ρ:aB)(σ:AS)(s:Shared):Prop where
 frames:A.frames=some fs
 room:A.depth+2*D+1<recursionLimit
 units:A.units+20*D+90<cLine
 hd:hd=false->A.handled=none
 frs:fc ρ fs
 st:St G ρ σ s
 siz:G.h₀.objs.size<=s.heap.objs.size
def XV(ρ:aB)(v:Value)(a:AV):Prop:=∃p C f,v=.ref p.1/\a=.fi C f/\ρ p (.ex C f)
def gN(G:cB)(ρ:aB)(h:Heap)(r:R AV)(Q:Value->Shared->Prop)(E:Value->Shared->Prop):Prop:=match r with|.ok a σ'=>∀ρ' s' v,RV ρ' s'.heap v a->St G ρ' σ' s'->bq ρ h ρ' s'.heap->Q v s'|.ex a σ'=>∀ρ' s' v,XV ρ' v a->St G ρ' σ' s'->bq ρ h ρ' s'.heap->E v s'|.stuck=>False
def oJ(G:cB)(cf:f7)(D:Nat):Prop:=∀(A:Around)(hd:Bool)(fs:List Env)(ρ:aB)(σ:AS)(s:Shared)(f:Nat)(args:List AV)(vs:List Value)(Q:Value->Shared->Prop)(E:Value->Shared->Prop),Ar G A D hd fs ρ σ s->aU ρ s.heap vs args->gN G ρ s.heap (cf hd f args σ) Q E->codeAny (model G.prog G.w) A (.call (.ref f) ⟨vs,[]⟩) (wants Q E) s
def ri(K:Frag)(C:Addr):Prop:=findIn K (.ref C) "__getattribute__"=some (some<|.builtin "BaseException.__getattribute__")/\findIn K (.ref C) "__getattr__"=some none/\mroIn K C (.type "BaseException")=some true
def zY(h:Heap)(a d:Addr)(C:Nat)(ns:List<|Str×Value):Prop:=∃es n,h.get? d=some (dictOf es n)/\StrKeys es.toArray/\UniqKeys es.toArray/\es.length=ns.length/\(∀x,nsFind es.toArray x=ns.lookup x)/\(TP.exc C=false/\h.get? a=some (instObj C d)\/TP.exc C=true/\∃a0,h.get? a=some ⟨.ref C,some d,.fields #[a0,.none,.none,.none,.bool false,.none],#[]⟩)
structure iR(G:cB):Prop where
 gl:∀x v,TP.gl x=some v->∃val,G.mg x=some val/\RV gf G.h₀ val v
 bl:∀x b,TP.gl x=none->TP.bl x=some b->G.mg x=none/\G.mb x=some (hG b)attr:∀C x,TP.attr C x=true->(plainGet G.K C x=true\/ri G.K C)/\hasDictIn G.K C=true/\∃a,findIn G.K (.ref C) x=some a/\noGet G.K a=true
 set:∀C x,TP.attr C x=true->TP.exc C=false->plainOver G.K C=true/\takerIn G.K C x=some none/\(clsIn G.K C).any (λξ=>ξ.hasDict)=true/\findIn G.K (.ref C) "__setattr__"=some (some<|.builtin "object.__setattr__")cd:∀a o,TP.cd a=some o->(a==sysModules)=false/\∃l kvs,o=.idict l/\G.h₀.DictOf (intKind G.prog G.w) a kvs/\ck gf G.h₀ kvs l
 fnk:∀a fn,TP.fn a=some fn->keepIn G.K (.ref a)=true/\typeIn G.K (.ref a)=some (.type "function")own:∀a i r,TP.init a=some (i,r)->keepIn G.K (.ref a)=true/\makesIn G.K a=true/\findIn G.K (.ref a) "__init__"=some (some<|.ref i)/\typeIn G.K (.ref i)=some (.type "function")meth:∀C x f,TP.meth C x=some f->TP.exc C=false/\plainGet G.K C x=true/\findIn G.K (.ref C) x=some (some<|.ref f)/\isFn G.K (.ref f)=true/\keepIn G.K (.ref f)=true
 fzk:∀a args,(TP.fz a args).isSome=true->keepIn G.K (.ref a)=true
 exb:∀C,TP.exc C=true->mroIn G.K C (.type "BaseException")=some true/\typeIn G.K (.ref C)=some (.type "type")/\(clsIn G.K C).isSome=true
 sub:∀C D,TP.exc C=true->TP.exc D=true->mroIn G.K C (.ref D)=some (TP.sub C D)fn:∀f fn,TP.fn f=some fn->∃o fd,G.h₀.get? f=some o/\o.data=.func fd/\fd.body=.stmts fn.body/\fd.scope=fn.scope/\fd.globals=mainGlobals/\fd.builtins=builtinsNs/\fd.closure=[]/\G.h₀.CodeRec fd.code fd.qualname/\(∀vs:List Value,vs.length=fn.params.length->bindArgs fd ⟨vs,[]⟩=pure (fn.params.zip vs))/\fn.params.Nodup/\∀x∈fn.params,bt fn.scope.names x=some .local\/bt fn.scope.names x=some .cell
structure Bx where
 G:cB
 cf:f7
 D:Nat
 A:Around
 top:Env
 l:List Env
 env:Env
 c:Ctx
 lt:iw
 X:Addr->Prop
 ρ₀:aB
 h₀:Heap
 P:S->Prop
abbrev Bx.H(B:Bx)(t:Cd):Prop:=B.P<|t.ev B.cf
abbrev Bx.wp(B:Bx){α:Type}(m:Sem α)(Q:α->Shared->Prop)(E:Value->Shared->Prop)(s:Shared):Prop:=wpAny (model B.G.prog B.G.w) B.A m Q E s
def Bx.Cg(B:Bx)(b:Addr):Prop:=B.h₀.get? b=none\/B.X b
noncomputable def Bx.L(B:Bx):Addr:=B.env.locals
structure ax(B:Bx):Prop where
 T:iR B.G
 cf:oJ B.G B.cf B.D
 ok:gI B.c.sc=true
 stk:¬B.P .stuck
 frames:B.A.frames=some (B.top::B.l)frame:B.env.frame=B.top.frame
 room:B.A.depth+2*B.D+2<recursionLimit
 units:B.A.units+20*B.D+100<cLine
 hd:B.c.hd=false->B.A.handled=none
 sc:B.env.scope=B.c.sc
 fn:B.env.scope.kind=.function
 gl:B.env.globals=mainGlobals
 bi:B.env.builtins=builtinsNs
 above:B.G.h₀.objs.size<=B.L
 cg:B.Cg B.L
 lt:B.lt=.fr\/B.lt=.pv
 ll:B.lt=.pv->B.c.ll=none
def pS(B:Bx)(ρ:aB)(h:Heap)(v:Value)(a:AV):Prop:=∃b vs l,v=.ref b/\a=.fl l/\ρ (b,b) .pv/\h.PlainList b vs/\aU ρ h vs.toList l/\B.Cg b
noncomputable def ei(c:Ctx)(x:Str):Bool:=cY c x&&!c.re
def gG(B:Bx)(ρ:aB)(h:Heap)(m:Str->Option Value)(loc:aq):Prop:=∀x a,aP sF loc x=some a->∃v,m x=some v/\(ei B.c x=false->RV ρ h v a)/\(ei B.c x=true->pS B ρ h v a)
structure At(B:Bx)(loc:aq)(ρ:aB)(σ:AS)(s:Shared):Prop where
 st:St B.G ρ σ s
 frs:fc ρ<|B.top::B.l
 kp:bz B.X B.ρ₀ B.h₀ ρ s.heap
 own:ρ (B.L,B.L) B.lt
 loc:∃m,s.heap.Ns B.L m/\gG B ρ s.heap m loc
 cells:∀x a,aP sF B.c.cells x=some a->∃ca v,B.env.cells.lookup x=some ca/\s.heap.IsCell ca (some v)/\¬bA ρ ca/\RV ρ s.heap v a
section
variable{B:Bx}{G:cB}{ρ ρ':aB}{σ σ':AS}{h h':Heap}{s s':Shared}{loc:aq}{E:Value->Shared->Prop}
theorem fc.mv(g:aY ρ h ρ' h')(F:fc ρ l):fc ρ' l:=λe a=>⟨(F e a).1,(F e a).2.elim λL k=>⟨L,k.1,g.ext _ _ nofun k.2⟩⟩
theorem fc.funs(Z:St G ρ σ s):∀{l:List Env},fc ρ l->s.heap.FunFrames G.h₀ l|[],_=>trivial|e::l,F=>by refine cps λj f=>?_;obtain⟨c,L,i,a⟩:=F e<|.head _;obtain⟨_,o,k,n,g,b⟩:=Z.conc _ _ a;refine f ?_;exact⟨by refine Rr c ?_;intro q;injection q,⟨L,o,i,Z.own0 _ ⟨_,_,a,.inl rfl⟩,g,λvs q=>by rw[b]at q;injection q⟩,fc.funs Z λe d=>F e<|.tail _ d⟩
theorem pS.mv(g:bq ρ h ρ' h')(r:pS B ρ h v a):pS B ρ' h' v a:=by refine cps λo j=>?_;obtain⟨b,vs,l,f,m,i,⟨n,e⟩,c,d⟩:=r;refine j ?_;haveI k:=g.pv (b,b) _ id i e;exact⟨b,vs,l,f,m,k.1,⟨n,k.2⟩,c.mv g.g,d⟩
theorem gG.mv(g:bq ρ h ρ' h')(r:gG B ρ h m loc):gG B ρ' h' m loc:=λx a e=>(r x a e).elim λv k=>⟨v,k.1,λq=>(k.2.1 q).mv g.g,λq=>(k.2.2 q).mv g⟩
theorem bz.data(b:ax B)(K:bz X ρ h ρ' h')(d:¬X B.L)(o:ρ (B.L,B.L) B.lt)(e:h.get? B.L=some c):ρ' (B.L,B.L) B.lt/\∃f,h'.get? B.L=some {c with slots:=f}:=by
 rcases b.lt with q|q<;>rw[q]at o⊢;·exact⟨K.g.ext _ _ nofun o,K.fr (B.L,B.L) c d o e⟩
 ·exact⟨(K.pv (B.L,B.L) c d o e).1,_,(K.pv (B.L,B.L) c d o e).2⟩
theorem At.keep(b:ax B)(Z:At B loc ρ σ s)(K:bq ρ s.heap ρ' s'.heap)(q:St B.G ρ' σ' s'):At B loc ρ' σ' s':=by refine cps λk c=>?_;obtain⟨m,⟨o,z,j,l,w,r⟩,i⟩:=Z.loc;obtain⟨y,A,p⟩:=K.data b id Z.own l;refine c ?_;refine⟨q,Z.frs.mv K.g,Z.kp.trans K.wk,y,⟨m,⟨_,z,j,p,w,r⟩,i.mv K⟩,λx a e=>?_⟩;refine cps λk c=>?_;obtain⟨ca,v,e1,⟨u,f,n⟩,d,t⟩:=Z.cells x a e;refine c ?_;exact⟨ca,v,e1,⟨u,(K.g.hid _ _ f d).2,n⟩,(K.g.hid _ _ f d).1,t.mv K.g⟩
theorem At.toks(b:ax B)(Z:At B loc ρ σ s)(a:Nat):At B loc ρ σ {s with toks:=a}:=Z.keep b .rfl<|Z.st.toks a
theorem uZ(Z:St G ρ σ s):aY gf G.h₀ ρ s.heap:=⟨λa a a e=>e.elim,λb o e a=>⟨Z.not0 e,Z.base b o e⟩,qw Z.base⟩
theorem At.inK(Z:At B loc ρ σ s):B.G.K.In s.heap:=B.G.inK.keeps Z.st.base
theorem At.fr(b:ax B)(Z:At B loc ρ σ s):∃m,Fr B.G.h₀ B.L s.heap m/\gG B ρ s.heap m loc:=Z.loc.elim λm k=>⟨m,⟨k.1,Z.st.base,b.above⟩,k.2⟩
theorem At.ar(b:ax B)(Z:At B loc ρ σ s):Ar B.G B.A B.D B.c.hd (B.top::B.l) ρ σ s:=⟨b.frames,Nat.lt_of_succ_lt b.room,Nat.lt_of_le_of_lt (Qo (bL rfl) _) b.units,b.hd,Z.frs,Z.st,by obtain⟨m,⟨o,_,_,a,_⟩,_⟩:=Z.loc;exact Nat.le_of_lt<|Nat.lt_of_le_of_lt b.above<|Heap.lt_size a⟩
variable{C:Prop}
theorem ax.no(b:ax B)(H:B.H Mj.Internal.stk):C:=(b.stk H).elim
theorem ax.opt(b:ax B){k:d->Cd}(H:B.H<|bb o k)(K:∀a,o=some a->B.H (k a)->C):C:=by cases o with|none=>exact b.no H|some a=>exact K a rfl H
theorem ax.oel(b:ax B){k:e->Cd}(H:B.H<|oel o t k)(N:o=none->B.H t->C)(K:∀a,o=some a->B.H (k a)->C):C:=by cases o with|none=>exact N rfl H|some a=>exact K a rfl H
theorem ax.ao(b:ax B)(H:B.H<|.ao o k)(K:∀a,o=some a->B.H (k a)->C):C:=by cases o with|none=>exact b.no H|some a=>exact K a rfl H
theorem ax.av(b:ax B)(H:B.H<|.av o k)(K:∀a,o=some a->B.H (k a)->C):C:=by cases o with|none=>exact b.no H|some a=>exact K a rfl H
theorem ax.bo(b:ax B)(H:B.H<|.bo o k)(K:∀a,o=some a->B.H (k a)->C):C:=by cases o with|none=>exact b.no H|some a=>exact K a rfl H
theorem ax.grd(b:ax B)(H:B.H<|grd g t)(K:g=true->B.H t->C):C:=by cases g with|false=>exact b.no H|true=>exact K rfl H
theorem ax.sole(b:ax B){k:c->Cd}(H:B.H<|sole l k)(K:∀a,l=[a]->B.H (k a)->C):C:=by
  rcases l with _|⟨a,r⟩;·exact b.no H
  · rcases r with _|_;·exact K a rfl H
    ·exact b.no H
theorem gE(x:Str):∀l:List<|Str×NameKind,bt l x=l.lookup x|[]=>rfl|p::r=>by refine(?_:(bif sF p.1 x then some p.2 else bt r x)=_);refine Rr List.lookup_cons<|Rr (gE x r) ?_;cases h:sF p.1 x with|true=>rw[cI.mp h,beq_self_eq_true];rfl|false=>refine Rr (beq_eq_false_iff_ne.mpr λq=>by rw[q,jf]at h;injection h) ?_;rfl
theorem ax.kind(b:ax B)(e:bt B.c.sc.names x=some k):B.env.kindOf x=some k:=by delta Env.kindOf;rw[b.sc,<-gE];exact e
theorem vz{sc:Scope}(b:(bt sc.names y).isNone=true)(e:bt sc.names x=some k):(x==y)=false:=beq_eq_false_iff_ne.mpr λq=>by rw[<-q,e]at b;injection b
theorem DN:N.debug="__debug__":=by decide+kernel
theorem CJ:N.classdict="__classdict__":=by decide+kernel
theorem lB(h:gI sc=true):(bt sc.names N.debug).isNone=true/\(bt sc.names N.classdict).isNone=true/\sc.kind=.function/\sc.isGenerator=false/\sc.isCoroutine=false:=by delta gI at h;simp only[Bool.and_eq_true,Bool.not_eq_true']at h;refine h.elim λc k=>c.elim λe f=>e.elim λd j=>d.elim λi g=>?_;refine⟨i,g,?_,f,k⟩;exact ScopeKind.function.elim sc.kind (Qm j) rfl
theorem iC(d:gI sc=true)(e:bt sc.names x=some k):(x=="__debug__")=false:=Rr DN<|vz (lB d).1 e
theorem EY(b:ax B)(Z:At B loc ρ σ s)(e:name TP B.c loc x=some a)(H:∀v,RV ρ s.heap v a->Q v s):B.wp (eval (.Name x pos) B.env) Q E s:=by
  haveI g:=B.G.glob.keeps Z.st.base;haveI j:=B.G.bi.keeps Z.st.base;rw[<-b.gl]at g;rw[<-b.bi]at j;rcases jy e with⟨k,e⟩|⟨_,e⟩
  · haveI k:=jj (c:=.local) k;rcases jy e with⟨_,e⟩|⟨q,e⟩;·injection e
    ·obtain⟨m,F,o⟩:=Z.fr b;obtain⟨w,e1,f,_⟩:=o x a e;exact wpAny_Name (wpAny_loadName_local b.fn (b.kind k) F.ns e1<|H w<|f q)<|iC b.ok k
  rcases jy e with⟨k,e⟩|⟨_,e⟩;·haveI k:=jj (c:=.cell) k;obtain⟨ca,w,e1,f,_,i⟩:=Z.cells x a e;exact wpAny_Name (wpAny_loadName_cell b.fn (b.kind k) e1 f<|H w i)<|iC b.ok k
  rcases jy e with⟨k,e⟩|⟨_,e⟩;·haveI k:=jj (c:=.free) k;obtain⟨ca,w,e1,f,_,i⟩:=Z.cells x a e;exact wpAny_Name (wpAny_loadName_free b.fn (b.kind k) e1 f (H w i)<|Rr CJ<|vz (lB b.ok).2.1 k)<|iC b.ok k
  rcases jy e with⟨k,e⟩|⟨_,e⟩;·haveI k:=jj (c:=.globalImplicit) k;cases ev:TP.gl x with|some v=>rw[ev]at e;obtain⟨w,e1,f⟩:=b.T.gl x a<|Rl e ev;exact Calls.Name_function_global b.fn (b.kind k) (Calls.loadGlobal_global g e1<|H w<|f.mv<|uZ Z.st)<|iC b.ok k|none=>rw[ev]at e;obtain⟨v,n,rfl⟩:=P6 e;obtain⟨e1,f⟩:=b.T.bl x v ev n;exact Calls.Name_function_global b.fn (b.kind k) (Calls.loadGlobal_builtin g e1 j f<|H _<|.imm v rfl)<|iC b.ok k
  ·injection e
theorem DO(b:ax B)(Z:At B loc ρ σ s)(e:yO v=some a)(H:∀w d,RV ρ s.heap w a->Q w {s with toks:=d}):B.wp (eval (.Constant v f pos) B.env) Q E s:=by cases v with|none=>haveI e:=sI e;subst e;exact wpAny_Constant_none<|H _ s.toks .none|bool b=>haveI e:=sI e;subst e;exact wpAny_Constant_bool<|H _ s.toks<|.bool b|int i=>haveI e:=sI e;subst e;exact wpAny_Constant_int<|H _ _<|.int i _|str x=>haveI e:=sI e;subst e;exact wpAny_Constant_str<|H _ _<|.str x _|_=>injection e
end
theorem y2(e:nx f r=some i):gt f r i=none/\gt (nw f r o) r i=some o/\∀b a,¬(b=r/\a=i)->gt (nw f r o) b a=gt f b a:=by
  obtain⟨l,hl,rfl⟩:=P6 e;haveI g:∀l:List AO,aa l l.length=none:=λl=>by rw[gz];exact List.getElem?_eq_none<|Qg _
  delta gt nw;refine⟨by refine Rr hl ?_;exact g l,?_,λb a n=>?_⟩;·rw[bT,if_pos rfl,hl];exact bM _ _
  · rw[bT];by_cases q:r=b
    · subst q;refine Rr (if_pos rfl)<|Rr hl ?_;refine(?_:aa (l++[o]) a=aa l a);by_cases k:a<l.length;·exact jl _ _ _ k
      ·rw[gz,gz,List.getElem?_eq_none<|by refine Rr Qa ?_;show l.length+1<=a;haveI:=λz=>n ⟨rfl,z⟩;lia,List.getElem?_eq_none<|by exact af (au _ _) (.v 0) (.v 1) (.v 0) (.v 1) (Nat.le_of_not_lt k) rfl]
    ·exact Rr (if_neg q) rfl
theorem JQ(e:gt d r i=some o):gt (pt d r i o') r i=some o'/\∀b a,¬(b=r/\a=i)->gt (pt d r i o') b a=gt d b a:=by
  refine(P5 e).elim λl f=>f.elim λhl g=>?_;delta gt pt;refine⟨?_,λb a n=>?_⟩;·rw[bT,if_pos rfl,hl];show aa (aD _ l i) i=_;rw[bT,if_pos rfl,g];rfl
  · rw[bT];by_cases q:r=b
    · subst q;refine Rr (if_pos rfl) ?_;rcases aa d r with _|l;·rfl
      ·refine(?_:aa (aD _ l i) a=aa l a);rw[bT,if_neg λz=>n ⟨rfl,z.symm⟩]
    ·exact Rr (if_neg q) rfl
abbrev Kv(B:Bx)(loc:aq)(ρ:aB)(s:Shared)(k:KV)(Q:Value->Shared->Prop):Prop:=∀ρ' σ' s' v a,At B loc ρ' σ' s'->bq ρ s.heap ρ' s'.heap->RV ρ' s'.heap v a->B.H (k a σ')->Q v s'
abbrev Kb(B:Bx)(loc:aq)(ρ:aB)(s:Shared)(k:Bool->AS->Cd)(Q:Bool->Shared->Prop):Prop:=∀ρ' σ' s' z,At B loc ρ' σ' s'->bq ρ s.heap ρ' s'.heap->B.H (k z σ')->Q z s'
abbrev Kx(B:Bx)(loc:aq)(x:KV)(E:Value->Shared->Prop):Prop:=∀ρ' σ' s' v a,At B loc ρ' σ' s'->XV ρ' v a->B.H (x a σ')->E v s'
def eM(B:Bx)(loc:aq)(F:Expr->AS->KV->KV->Cd):Prop:=∀e ρ σ s k x Q E,At B loc ρ σ s->B.H (F e σ k x)->Kv B loc ρ s k Q->Kx B loc x E->B.wp (eval e B.env) Q E s
def sT(B:Bx)(loc:aq)(F:Expr->AS->(Bool->AS->Cd)->KV->Cd):Prop:=∀e ρ σ s k x Q E,At B loc ρ σ s->B.H (F e σ k x)->Kb B loc ρ s k Q->Kx B loc x E->B.wp (isTrue e B.env<|eval e B.env) Q E s
section
variable{B:Bx}{ρ ρ':aB}{σ σ':AS}{h h':Heap}{s s':Shared}{loc:aq}{E:Value->Shared->Prop}{Q:Value->Shared->Prop}
theorem At.grow(b:ax B)(Z:At B loc ρ σ s)(d:∀b c,s.heap.get? b=some c->h'.get? b=some c)(e:Nat):At B loc ρ σ {s with heap:=h',toks:=e}:=Z.keep b (.grow d)<|Z.st.grow d e
theorem At.new(b:ax B)(Z:At B loc ρ σ s)(e:nx σ r=some i)(n:∀b p,s.heap.get? b=some p->h'.get? b=some p)(m:∀b,bX b q->s.heap.get? b=none)(g:Nat)(c:bF B.G (ρ.add q<|.ref r i) h' q o):At B loc (ρ.add q<|.ref r i) (nw σ r o) {s with heap:=h',toks:=g}:=by
  obtain⟨u,t,j⟩:=y2 e;refine Z.keep b (.new n m)<|Z.st.new n m g (λd f o' k=>?_) (λd f o' k=>?_) ⟨o,t,c⟩
  · by_cases z:d=r/\f=i;·exact .inl<|by rw[z.1,z.2]
    ·exact .inr<|Rl (j d f z) k
  · have z:¬(d=r/\f=i):=λz=>by rw[z.1,z.2,u]at k;exact nS k
    exact⟨(j d f z).trans k,λq=>z<|by cases q;exact⟨rfl,rfl⟩⟩
theorem At.newL(b:ax B)(Z:At B loc ρ σ s)(e:nx σ r=some i)(k:a.isFreed=false)(c:aY ρ s.heap (ρ.add (s.heap.objs.size,s.heap.objs.size)<|.ref r i) (s.heap.push a)->(s.heap.push a).get? s.heap.objs.size=some a->bF B.G (ρ.add (s.heap.objs.size,s.heap.objs.size)<|.ref r i) (s.heap.push a) (s.heap.objs.size,s.heap.objs.size) o):At B loc (ρ.add (s.heap.objs.size,s.heap.objs.size)<|.ref r i) (nw σ r o) {s with heap:=s.heap.push a}/\bq ρ s.heap (ρ.add (s.heap.objs.size,s.heap.objs.size)<|.ref r i) (s.heap.push a):=by haveI g:∀b,bX b (s.heap.objs.size,s.heap.objs.size)->s.heap.get? b=none:=λb x=>x.elim (λq=>Rr q<|cC _) λq=>Rr q<|cC _;exact⟨Z.new b e (cw _ _) g s.toks<|c (.new (cw _ _) g)<|Qq _ k,.new (cw _ _) g⟩
theorem At.chg(b:ax B)(Z:At B loc ρ σ s)(e:ρ p<|.ref r i)(u:gt σ r i=some o)(k:bX d p)(f:Heap.ExtBut d s.heap h')(t:∃o,h'.get? d=some o)(j:Nat)(c:aY ρ s.heap ρ h'->bF B.G ρ h' p o'):At B loc ρ (pt σ r i o') {s with heap:=h',toks:=j}/\bq ρ s.heap ρ h':=by obtain⟨w,l⟩:=JQ u;haveI K:bq ρ s.heap ρ h':=Z.st.keepC e k nofun nofun f t;exact⟨Z.keep b K<|Z.st.chg e k f j (λv m n=>l v m λq=>n<|Rr q.1<|Rr q.2 rfl) λg=>⟨o',w,c g⟩,K⟩
theorem bF.at_(Z:At B loc ρ σ s)(e:ρ p<|.ref r i)(c:gt σ r i=some o):bF B.G ρ s.heap p o:=by obtain⟨o',a,d⟩:=Z.st.conc _ _ e;rw[c]at a;haveI a:=sI a;subst a;exact d
theorem gx(h:aE l=true):l.length<16000000:=Nat.blt_eq.mp h
theorem rj(h:aE l=true):(l.length:Int)<2^63:=by haveI:=gx h;lia
theorem jZ(h:aE l=true):l.length<=sizeLine:=by haveI:=gx h;delta sizeLine;lia
theorem aU.size{vs:Array Value}(r:aU ρ h vs.toList l):vs.size=l.length:=r.len
theorem aU.at'{vs:Array Value}(r:aU ρ h vs.toList l)(e:aa l i=some a):∃v,vs[i]?=some v/\RV ρ h v a:=by refine(r.get e).elim λv ζ0=>ζ0.elim λe1 c=>?_;rw[gz,Array.getElem?_toList]at e1;exact⟨v,e1,c⟩
theorem a6{b:Type}{p:Prop}[Decidable p]{o:Option b}{r:b}(e:(if p then o else none)=some r):p/\o=some r:=by
 by_cases h:p;·rw[if_pos h]at e;exact⟨h,e⟩
 ·rw[if_neg h]at e;exact nS e
theorem gC{b:Type}{p:Prop}[Decidable p]{o:Option b}{r:b}(e:(if p then none else o)=some r):¬p/\o=some r:=by
 by_cases h:p;·rw[if_pos h]at e;exact nS e
 ·rw[if_neg h]at e;exact⟨h,e⟩
theorem EZ(e:tN d (.int x) (.int y)=some r)(H:∀v f,RV ρ s.heap v r->Q v {s with toks:=f}):B.wp (binaryOp d (.int x t)<|.int y u) Q E s:=by haveI fin:∀i:Int,some (AV.int i)=some r->Q (.int i s.toks) {s with toks:=s.toks+1}:=λi e=>H _ _<|Rl (sI e)<|.int i _;cases d with|Add=>exact wpAny_add_int<|fin _ e|Sub=>exact AutoIntOps.sub_0<|fin _ e|Mult=>exact AutoIntOps.mul_0 (fin _ (a6 e).2)<|IntMulOk.of_left (a6 e).1|FloorDiv=>exact AutoIntOps.floordiv_1 (by simpa using(gC e).1) (gC (gC e).2).1<|fin _ (gC (gC e).2).2|Mod=>exact AutoIntOps.mod_1 (by simpa using(gC e).1)<|fin _ (gC e).2|BitAnd=>exact PyProof.Rows.and_int<|fin _ e|BitOr=>exact PyProof.Rows.or_int<|fin _ e|_=>exact nS e
theorem G9(g:RV ρ s.heap va a)(c:RV ρ s.heap f b)(e:tN i a b=some r)(H:∀v m,RV ρ s.heap v r->Q v {s with toks:=m}):B.wp (binaryOp i va f) Q E s:=by have l:=g.inv;have j:=c.inv;cases a with
 |int x=>clear g;obtain⟨t,rfl⟩:=l;cases b with
  |int y=>clear c;obtain⟨u,rfl⟩:=j;exact EZ e H|bool y=>clear c;obtain rfl:f=.bool y:=j;cases i with|Mult=>exact PySem.IntBool.mul_int_bool<|H _ _<|Rl (sI e)<|.int _ _|_=>exact nS e
  |_=>exact nS e
 |_=>exact nS e
theorem uU{vs:Array Value}{a:List AV}(h:vs.size=a.length):vs.isEmpty=a.isEmpty:=by delta Array.isEmpty;refine Rr h ?_;clear h;cases a<;>rfl
theorem mO(d:RV ρ s.heap v a)(e:truthy a=some z){Q:Bool->Shared->Prop}(H:∀k,Q z {s with toks:=k}):B.wp (PySem.truthy v) Q E s:=by have c:=d.inv;cases a with|none=>obtain rfl:v=.none:=c;exact PyProof.Rows.truthy_none<|sI e▸H s.toks|bool z=>clear d;obtain rfl:v=.bool z:=c;exact wpAny_truthy_bool<|sI e▸H s.toks|int i=>clear d;obtain⟨t,rfl⟩:=c;exact PyProof.Rows.truthy_int<|Rr (show(i !=0)=z from sI e)<|H s.toks|tup l=>clear d;obtain⟨t,vs,rfl,f,hl⟩:=c;exact PyProof.Rows.truthy_tuple f (by refine Rr hl.size ?_;exact rj (a6 e).1)<|uU hl.size▸sI (a6 e).2▸H _|fl l=>clear d;obtain⟨t,vs,rfl,f,_,hl⟩:=c;exact wpAny_truthy_list f.isList (by refine Rr hl.size ?_;exact rj (a6 e).1)<|uU hl.size▸sI (a6 e).2▸H _|_=>exact nS e
variable{F:Expr->AS->KV->KV->Cd}{x:KV}
theorem iJ(b:ax B)(G:eM B loc F)(m:∀t p σ k x,¬B.H (F (.Starred t p) σ k x))(D:Kx B loc x E):∀(z:List Expr){ρ:aB}{σ:AS}{s:Shared}{k:List AV->AS->Cd}{Q:List Value->Shared->Prop},At B loc ρ σ s->B.H (fN F z σ k x)->(∀ρ' σ' s' vs as,At B loc ρ' σ' s'->bq ρ s.heap ρ' s'.heap->aU ρ' s'.heap vs as->as.length=z.length->B.H (k as σ')->Q vs s')->B.wp (spliced<|backTo pos<|starEach z B.env) Q E s:=by intro z;induction z with|nil=>intro ρ σ s k Q Z H K;exact wpAny_items_nil<|K ρ σ s [] [] Z .rfl .nil rfl H|cons e r ih=>
  intro ρ σ s k Q Z H K;haveI J:starEach (e::r) B.env=(false,eval e B.env)::starEach r B.env:=by clear K;cases e<;>first|rfl|exact absurd H<|m _ _ _ _ _
  refine wpAny_items_cons (G e ρ σ s _ x _ E Z H (λy A C v a o i I j=>?_) D) J;exact ih o j λf d s₂ vs as n c u hl l=>K f d s₂ (v::vs) (a::as) n (i.trans c) (.cons (I.mv c.g) u) (congrArg (λL=>L+1) hl) l
theorem E0(b:ax B)(Z:At B loc ρ σ s)(c:aU ρ s.heap vs as)(K:∀s' v,At B loc ρ σ s'->bq ρ s.heap ρ s'.heap->RV ρ s'.heap v (.tup as)->Q v s'):Q (.ref s.heap.objs.size) {s with heap:=s.heap.push {cls:=.type "tuple",data:=.seq vs.toArray}}:=by haveI a:=cw s.heap {cls:=.type "tuple",data:=.seq vs.toArray};exact K {s with heap:=s.heap.push {cls:=.type "tuple",data:=.seq vs.toArray}} _ (Z.grow b a s.toks) (.grow a)<|.tup_ (IsTup.new _ _)<|c.mv<|.grow a
theorem xk(b:ax B)(Z:At B loc ρ σ s)(c:aU ρ s.heap vs as)(K:∀s' v,At B loc ρ σ s'->bq ρ s.heap ρ s'.heap->RV ρ s'.heap v (.fl as)->Q v s'):Q (.ref s.heap.objs.size) {s with heap:=s.heap.push {cls:=.type "list",data:=.seq vs.toArray}}:=by haveI a:=cw s.heap {cls:=.type "list",data:=.seq vs.toArray};exact K {s with heap:=s.heap.push {cls:=.type "list",data:=.seq vs.toArray}} _ (Z.grow b a s.toks) (.grow a)<|.fl_ ⟨_,Qq _ rfl⟩ (Z.st.freshOwn<|cC _)<|c.mv<|.grow a
end
end
section
open PySem PySem.Calls PySem.SeqAt PySem.W
open PyProof.Rows(Fr IsTup)
section
variable{B:Bx}{ρ ρ':aB}{σ σ':AS}{h h':Heap}{s s':Shared}{loc:aq}{E:Value->Shared->Prop}{Q:Value->Shared->Prop}
theorem PlainList.inj(x:h.PlainList t a)(y:h.PlainList t b):a=b:=by refine x.elim λn d=>?_;obtain⟨n',c⟩:=y;rw[d]at c;cases c;rfl
theorem vA(e:fH f (a::x) (b::y)=some r):∃p q,f a b=some p/\fH f x y=some q/\(p&&q)=r:=by refine(P5 e).elim λp ζ0=>ζ0.elim λj i=>?_;refine(P6 i).elim λq ζ0=>ζ0.elim λd g=>?_;exact⟨p,q,j,d,g⟩
def y3(ρ:aB)(h:Heap)(f:AV->AV->Option Bool):Prop:=∀(a b:AV)(v:Value)(r:Bool),RV ρ h v a->RV ρ h v b->f a b=some r->r=true
theorem u3(i:y3 ρ h f)(p:aU ρ h vs x):∀{r:Bool},aU ρ h vs y->fH f x y=some r->r=true:=by induction p generalizing y with|nil=>intro r q e;cases q;haveI e:=sI e;subst e;rfl|cons a _ c=>intro r q e;cases q with|cons b q=>obtain⟨u,w,e1,j,rfl⟩:=vA e;refine Rr (i _ _ _ _ a b e1)<|Rr (c q j) ?_;rfl
theorem vB{P:AV->AV->Bool->Prop}(o:P .none .none true)(v:∀y,P .none (.int y) false)(t:∀x y,P (.bool x) (.bool y)<|x==y)(u:∀x y,P (.bool x) (.int y)<|decide<|(if x then 1 else 0)=y)(l:∀x,P (.int x) .none false)(q:∀x y,P (.int x) (.int y)<|iF x y)(w:∀x y,P (.int x) (.bool y)<|decide<|(if y then 1 else 0)=x)(p:∀x y,P (.int x) (.str y) false)(m:∀x y,P (.str x) (.str y)<|sF x y)(i:∀x y,P (.str x) (.int y) false)(j:∀x y r,fH (dy n) x y=some r->P (.tup x) (.tup y) r)(g:∀x y r,(if x.length=y.length then fH (dy n) x y else some false)=some r->P (.fl x) (.fl y) r)(e:dy (n+1) a b=some r):P a b r:=by cases a with
 |none=>cases b with|none=>haveI e:=sI e;exact Rl e o|int=>haveI e:=sI e;exact e▸v _|_=>exact nS e
 |bool=>cases b with|bool=>haveI e:=sI e;exact Rl e<|t _ _|int=>haveI e:=sI e;exact Rl e<|u _ _|_=>exact nS e
 |int=>cases b with|none=>haveI e:=sI e;exact e▸l _|int=>haveI e:=sI e;exact Rl e<|q _ _|bool=>haveI e:=sI e;exact Rl e<|w _ _|str=>haveI e:=sI e;exact e▸p _ _|_=>exact nS e
 |str=>cases b with|str=>haveI e:=sI e;exact Rl e<|m _ _|int=>haveI e:=sI e;exact e▸i _ _|_=>exact nS e
 |tup=>cases b with|tup=>exact j _ _ _ e|_=>exact nS e
 |fl=>cases b with|fl=>exact g _ _ _ e|_=>exact nS e
 |_=>exact nS e
theorem j8{G:Prop}(h:kO ρ h v<|.int x)(q:∀t,v≠.int x t):G:=h.elim λt e=>(q t e).elim
theorem DP(n:Nat):y3 ρ h<|dy n:=by induction n with|zero=>intro a b v r _ _ e;exact nS e|succ n m=>
  intro a b v r p A e;haveI w:=p.inv;haveI D:=A.inv;revert w D;refine vB (P:=λa b r=>kO ρ h v a->kO ρ h v b->r=true) ?_ ?_ ?_ ?_ ?_ ?_ ?_ ?_ ?_ ?_ ?_ ?_ e;·exactλC C=>rfl
  ·exactλy f d=>j8 d λt q=>by rw[f]at q;injection q
  ·intro x y f d;injection f.symm.trans d with q;refine Rr q ?_;exact beq_self_eq_true _
  ·exactλx y f d=>j8 d λt q=>by rw[f]at q;injection q
  ·exactλy f d=>j8 f λt q=>by rw[d]at q;injection q
  ·rintro x y⟨t,q⟩⟨u,z⟩;rw[z]at q;injection q with q;refine Rr q ?_;exact gy _
  ·exactλx y f d=>j8 f λt q=>by rw[d]at q;injection q
  ·exactλx y f⟨u,z⟩=>j8 f λt q=>by rw[z]at q;injection q
  ·rintro x y⟨t,q⟩⟨u,z⟩;rw[z]at q;injection q with q;refine Rr q ?_;exact jf _
  ·exactλx y⟨u,z⟩d=>j8 d λt q=>by rw[z]at q;injection q
  ·rintro x y r e⟨t,vs,q,j,hl⟩⟨o,k,z,g,c⟩;rw[z]at q;injection q with q;rw[q]at g;exact u3 m hl (Rr (IsTup.inj' j g) c) e
  ·rintro x y r e⟨t,vs,q,j,_,hl⟩⟨o,k,z,g,_,c⟩;rw[z]at q;injection q with q;rw[q]at g;haveI c:=PlainList.inj j g▸c;exact u3 m hl c<|(if_pos<|hl.len.symm.trans c.len).symm.trans e
abbrev JR(ρ:aB)(s:Shared)(n:Nat):Prop:=∀(A:Around)(a b:AV)(va vb:Value)(r:Bool),A.units+n<cLine->RV ρ s.heap va a->RV ρ s.heap vb b->dy n a b=some r->EqAt A s va vb r/\RcAt A s va vb r/\RcNeAt A s va vb !r
theorem sU:∀{x y:List AV}{r:Bool},fH f x y=some r->∃e:Nat->Bool,(∀j a b,aa x j=some a->aa y j=some b->f a b=some (e j))/\((List.range<|min x.length y.length).all e&&x.length==y.length)=r
  |[],[],_,h=>by haveI h:=sI h;subst h;exact⟨λl=>true,λj a b h=>(nomatch h),rfl⟩|[],_::_,_,h=>by haveI h:=sI h;subst h;exact⟨λl=>true,λj a b h=>(nomatch h),rfl⟩|_::_,[],_,h=>by haveI h:=sI h;subst h;exact⟨λl=>true,λj a b l h=>(nomatch h),rfl⟩|a::x,b::y,r,h=>by
    obtain⟨u,w,e1,n,rfl⟩:=vA h;obtain⟨e,t,p⟩:=sU n;refine⟨λj=>Nat.casesOn j u e,λj o q i k=>?_,?_⟩
    · rcases j with _|j;·haveI i:=sI i;subst i;haveI k:=sI k;subst k;exact e1
      ·exact t j o q i k
    ·rw[show min (a::x).length (b::y).length=min x.length y.length+1 from Nat.succ_min_succ _ _,List.range_succ_eq_map,List.all_cons,List.all_map,Bool.and_assoc,<-p];show(u&&((List.range<|min x.length y.length).all e&&x.length+1==y.length+1))=_;exact Rr (show(x.length+1==y.length+1)=(x.length==y.length)from Bool.eq_iff_iff.mpr<|by rw[beq_iff_eq,beq_iff_eq];exact Nat.add_right_cancel_iff) rfl
theorem aU.el{vs:Array Value}(r:aU ρ h vs.toList x)(b:j<vs.size):∃a,aa x j=some a/\RV ρ h vs[j] a:=by refine cps λg e=>?_;obtain⟨a,c⟩:=lj (by refine Rl r.size ?_;exact b);obtain⟨v,e1,f⟩:=r.at' c;rw[Array.getElem?_eq_getElem b]at e1;haveI e1:=sI e1;subst e1;refine e ?_;exact⟨a,c,f⟩
def E3(A:Around)(s:Shared)(va vb:Value)(r:Bool):Prop:=EqAt A s va vb r/\RcAt A s va vb r/\RcNeAt A s va vb !r
theorem Ha(n:Nat):JR ρ s n:=by induction n with|zero=>intro A a b va w r _ _ _ e;exact nS e|succ n X=>
    intro A a b va w r N O L e;have I:=Nat.lt_of_le_of_lt (Qi _ _) N;haveI same:∀{t F:Addr},va=.ref t->w=.ref F->RcAt A s va w r->EqAt A s va w r:=λ{t F}z o k=>by
      by_cases q:t=F;·rw[o,<-q,<-z]at L;refine Rr (DP (n+1) _ _ _ _ O L e)<|Rr z<|Rr o<|Rr q ?_;exact EqAt.same _
      ·rw[z,o]at k⊢;exact EqAt.of_refs q k
    have K:∀{vs l:Array Value}{x y:List AV}{f:Nat->Bool},aU ρ s.heap vs.toList x->aU ρ s.heap l.toList y->(∀j a b,aa x j=some a->aa y j=some b->dy n a b=some (f j))->∀j(U:j<vs.size)(T:j<l.size),EqAt A.in1 s vs[j] l[j]<|f j:=λhl c H j U T=>(hl.el U).elim λa⟨W,Z⟩=>(c.el T).elim λb⟨eb,Y⟩=>(X A.in1 _ _ _ _ _ (Nat.lt_of_le_of_lt (Qn<|Nat.add_right_comm ..) N) Z Y<|H j a b W eb).1;haveI ia:=O.inv;haveI V:=L.inv;revert ia V same;refine vB (P:=λa b r=>(∀{t F:Addr},va=.ref t->w=.ref F->RcAt A s va w r->EqAt A s va w r)->kO ρ s.heap va a->kO ρ s.heap w b->E3 A s va w r) ?_ ?_ ?_ ?_ ?_ ?_ ?_ ?_ ?_ ?_ ?_ ?_ e;·intro _ d g;refine Rr d<|Rr g ?_;exact⟨EqAt.same _,RcAt.none_none,RcNeAt.none_none⟩
    ·rintro y _(d:va=.none)⟨t,g⟩;refine Rr d<|Rr g ?_;exact⟨EqAt.none_int _ _,RcAt.none_int _ _,RcNeAt.none_int _ _⟩
    ·intro x y _ d g;refine Rr d<|Rr g ?_;exact⟨EqAt.bool_bool _ _,RcAt.bool_bool _ _,RcNeAt.bool_bool _ _⟩
    ·rintro x y _(d:va=.bool x)⟨t,g⟩;refine Rr d<|Rr g ?_;exact⟨EqAt.bool_int _ _ _,RcAt.bool_int _ _ _,RcNeAt.bool_int _ _ _⟩
    ·rintro x _⟨t,d⟩(g:w=.none);refine Rr d<|Rr g ?_;exact⟨EqAt.int_none _ _,RcAt.int_none _ _,RcNeAt.int_none _ _⟩
    ·rintro x y _⟨t,d⟩⟨u,g⟩;refine Rr d<|Rr g ?_;exact⟨EqAt.int_int _ _ _ _,RcAt.int_int _ _ _ _,RcNeAt.int_int _ _ _ _⟩
    ·rintro x y _⟨t,d⟩(g:w=.bool y);rw[d,g,decide_eq_decide.mpr eq_comm];exact⟨EqAt.int_bool _ _ _,RcAt.int_bool _ _ _,RcNeAt.int_bool _ _ _⟩
    ·rintro x y _⟨t,d⟩⟨u,g⟩;refine Rr d<|Rr g ?_;exact⟨EqAt.int_str _ _ _ _,RcAt.int_str _ _ _ _,RcNeAt.int_str _ _ _ _⟩
    ·rintro x y _⟨t,d⟩⟨u,g⟩;refine Rr d<|Rr g<|Rr (Bool.eq_iff_iff.mpr<|cI.trans beq_iff_eq.symm) ?_;exact⟨EqAt.str_str _ _ _ _,RcAt.str_str _ _ _ _,RcNeAt.str_str _ _ _ _⟩
    ·rintro x y _⟨t,d⟩⟨u,g⟩;refine Rr d<|Rr g ?_;exact⟨EqAt.str_int _ _ _ _,RcAt.str_int _ _ _ _,RcNeAt.str_int _ _ _ _⟩
    ·rintro x y r e same⟨t,vs,z,G,hl⟩⟨F,l,o,m,c⟩;obtain⟨f,H,J⟩:=sU e;rw[<-hl.size,<-c.size]at J;haveI v:=RcAt.tuples G m I<|K hl c H;haveI D:=RcNeAt.tuples G m I<|K hl c H;rw[J,<-z,<-o]at v D;exact⟨same z o v,v,D⟩
    · rintro x y r e same⟨t,vs,z,G,_,hl⟩⟨F,l,o,m,_,c⟩;by_cases i:x.length=y.length
      · rw[if_pos i]at e;obtain⟨f,H,J⟩:=sU e;rw[<-i,Nat.min_self,beq_self_eq_true,Bool.and_true,<-hl.size]at J;haveI p:vs.size=l.size:=by exact Rr hl.size<|Rr c.size<|Rr i rfl
        haveI v:=RcAt.lists G.isList m.isList p I<|K hl c H;haveI D:=RcNeAt.lists G.isList m.isList p I<|K hl c H;rw[J,<-z,<-o]at v D;exact⟨same z o v,v,D⟩
      · rw[if_neg i]at e;injection e with e;haveI p:(vs.size !=l.size)=true:=by refine Rr hl.size<|Rr c.size ?_;exact bne_iff_ne.mpr i
        haveI v:=RcAt.lists_lengths G.isList m.isList p I;haveI D:=RcNeAt.lists_lengths G.isList m.isList p I;rw[<-z,<-o]at v D;subst e;exact⟨same z o v,v,D⟩
end
section
variable{B:Bx}{ρ ρ':aB}{σ σ':AS}{h h':Heap}{s s':Shared}{loc:aq}{E:Value->Shared->Prop}{Q:Value->Shared->Prop}
theorem mN[DecidableEq K]{d:K->K->Bool}(i:gp d){x:K}{a:List<|K×Value}{l:List<|K×AV}(hp:ck ρ h a l):RO ρ h (valueAt a x)<|aP d l x:=by induction hp with|nil=>exact⟨rfl,by intros;contradiction⟩|@cons p q a l c _ j=>
  haveI e1:aP d (q::l) x=bif d q.1 x then some q.2 else aP d l x:=rfl;haveI m:valueAt (p::a) x=if p.1=x then some p.2 else valueAt a x:=by delta valueAt;by_cases k:p.1=x<;>simp[k]
  refine Rr e1<|Rr m<|Rr c.1 ?_;by_cases k:q.1=x;·refine Rr (if_pos k)<|Rr (i.mpr k) ?_;exact⟨rfl,λw b f g=>by injection f with f;subst f;injection g with g;subst g;exact c.2⟩
  ·refine Rr (if_neg k)<|Rr (i.ne k) ?_;exact j
theorem u4[DecidableEq K]{x:K}(a:List<|K×Addr×Value):(atKey a x).map (λc=>c.2)=valueAt (a.map λy=>(y.1,y.2.2)) x:=by induction a with|nil=>rfl|cons p r b=>
  unfold atKey valueAt at b⊢;by_cases hp:p.1=x;·simp[hp]
  ·simpa[hp]using b
theorem E1(r:aU ρ h vs l):∀{b:List Int},gF l=some b->du (iQ (prog:=prog) (w:=w)) h b vs:=by induction r with|nil=>intro b e;haveI e:=sI e;subst e;exact .nil|@cons v a vs l f _ g=>intro b e;cases a with|int i=>obtain⟨r,d,rfl⟩:=P6 e;exact .cons f.inv<|g d|_=>injection e
theorem E2(r:RV ρ h v a)(e:yN a=some x):(sb<|iQ (prog:=prog) (w:=w)).is h x v:=by have i:=r.inv;cases a with|int j=>haveI e:=sI e;subst e;exact i|tup l=>clear r;obtain⟨t,vs,rfl,d,hl⟩:=i;obtain⟨r,c,rfl⟩:=P6 e;exact⟨t,vs,rfl,d,E1 hl c⟩|_=>injection e
theorem DQ{l:List AV}{vs:List Value}(r:aU ρ h vs l):∀{b:TK},q9 l=some b->du (sb<|iQ (prog:=prog) (w:=w)) h b vs:=by induction r with|nil=>intro b e;haveI e:=sI e;subst e;exact .nil|@cons v a vs l f _ d=>intro b e;obtain⟨k,g,e⟩:=P5 e;obtain⟨r,i,rfl⟩:=P6 e;exact .cons (E2 f g)<|d i
theorem rk(r:RV ρ h v a)(e:a.key?=some x):∃b,v=.ref b/\(iI prog w).is h x b:=by have i:=r.inv;cases a with|tup l=>clear r;obtain⟨t,vs,rfl,d,hl⟩:=i;exact⟨t,rfl,t,vs,rfl,d,DQ hl e⟩|_=>injection e
def DV(G:cB)(ρ:aB)(h:Heap)(d:Addr)(va:Value)(r:Option AV):Prop:=(d==sysModules)=false/\((∃kvs x,(intKind G.prog G.w).is x va=true/\h.DictOf (intKind G.prog G.w) d kvs/\RO ρ h (valueAt kvs x) r)\/(∃kvs x,(strKind G.prog G.w).is x va=true/\h.DictOf (strKind G.prog G.w) d kvs/\RO ρ h (valueAt kvs x) r)\/∃b x kvs,va=.ref b/\(iI G.prog G.w).is h x b/\h.DictOfH (iI G.prog G.w) d kvs/\RO ρ h ((atKey kvs x).map λξ=>ξ.2) r)
section
variable{G:cB}{d:Addr}{va:Value}{r:Option AV}
theorem DV.i(g:(d==sysModules)=false)(f:(intKind G.prog G.w).is x va=true)(j:h.DictOf (intKind G.prog G.w) d a)(e:RO ρ h (valueAt a x) r):DV G ρ h d va r:=⟨g,.inl ⟨a,x,f,j,e⟩⟩
theorem DV.st(g:(d==sysModules)=false)(f:(strKind G.prog G.w).is x va=true)(i:h.DictOf (strKind G.prog G.w) d a)(e:RO ρ h (valueAt a x) r):DV G ρ h d va r:=⟨g,.inr<|.inl ⟨a,x,f,i,e⟩⟩
theorem DV.t(i:(d==sysModules)=false)(g:(iI G.prog G.w).is h x b)(f:h.DictOfH (iI G.prog G.w) d a)(e:RO ρ h ((atKey a x).map λj=>j.2) r):DV G ρ h d (.ref b) r:=⟨i,.inr<|.inr ⟨b,x,a,rfl,g,f,e⟩⟩
end
theorem qK(Z:At B loc ρ σ s)(e:ρ p t):(p.1==sysModules)=false:=by refine beq_eq_false_iff_ne.mpr λq=>?_;refine B.G.sys.elim λc b=>?_;haveI:=Z.st.own0 p.1 ⟨p,t,e,.inl rfl⟩;rw[q,b]at this;injection this
theorem j0(e:h.get? d=some emptyDict){prog:Program}{w:World}{K:Type}[DecidableEq K](knd:PySem.KeyKind prog w K):h.DictOf knd d []:=⟨_,#[],0,e,⟨rfl,rfl,rfl⟩,rfl,(λe c=>by cases Array.mem_toList_iff.mpr c),.nil,List.nodup_nil⟩
theorem u5(e:h.get? d=some emptyDict){prog:Program}{w:World}{K:Type}[DecidableEq K](knd:HeapKind prog w K):h.DictOfH knd d []:=⟨_,#[],0,e,⟨rfl,rfl,rfl⟩,rfl,rfl,(λe b=>nomatch b),List.nodup_nil⟩
theorem RO.nil:RO ρ h none none:=⟨rfl,by intros;contradiction⟩
theorem Mb(e:dW o a=some r):o=.edict\/(∃l,o=.idict l)\/(∃l,o=.sdict l)\/∃l,o=.tdict l:=by cases o with|edict=>exact .inl rfl|idict l=>exact .inr<|.inl ⟨l,rfl⟩|sdict l=>exact .inr<|.inr<|.inl ⟨l,rfl⟩|tdict l=>exact .inr<|.inr<|.inr ⟨l,rfl⟩|_=>exact nS e
theorem Mc(e:dW .edict a=some r):(∃i,a=.int i)\/(∃x,a=.str x)\/∃l,a=.tup l:=by cases a with|int i=>exact .inl ⟨i,rfl⟩|str x=>exact .inr<|.inl ⟨x,rfl⟩|tup x=>exact .inr<|.inr ⟨x,rfl⟩|_=>exact nS e
theorem zZ(e:dW (.idict l) a=some r):∃i,a=.int i:=by cases a with|int i=>exact⟨i,rfl⟩|_=>exact nS e
theorem Mf(e:dW (.sdict l) a=some r):∃x,a=.str x:=by cases a with|str i=>exact⟨i,rfl⟩|_=>exact nS e
theorem mW(d:bF G ρ h p o)(f:(p.1==sysModules)=false)(c:RV ρ h va a)(e:dW o a=some r):DV G ρ h p.1 va r:=by
  rcases Mb e with rfl|⟨l,rfl⟩|⟨l,rfl⟩|⟨l,rfl⟩
  · rcases Mc e with⟨i,rfl⟩|⟨x,rfl⟩|⟨x,rfl⟩;·obtain⟨t,rfl⟩:=c.inv;rw[<-sI e];exact .i f (intKind_is _ _ _ _) (j0 d.2 _) .nil
    ·obtain⟨t,rfl⟩:=c.inv;rw[<-sI e];exact .st f (strKind_is _ _ _ _) (j0 d.2 _) .nil
    ·obtain⟨t,m,e⟩:=P6 e;obtain⟨b,rfl,j⟩:=rk (prog:=G.prog) (w:=G.w) c m;rw[<-e];exact .t f j (u5 d.2<|iI G.prog G.w) .nil
  ·obtain⟨i,rfl⟩:=zZ e;obtain⟨t,rfl⟩:=c.inv;rw[<-sI e];exact d.2.elim λg k=>.i f (intKind_is _ _ _ _) k.1<|mN ku k.2
  ·obtain⟨x,rfl⟩:=Mf e;obtain⟨t,rfl⟩:=c.inv;rw[<-sI e];exact d.2.elim λg k=>.st f (strKind_is _ _ _ _) k.1<|mN fg k.2
  ·obtain⟨t,m,e⟩:=P6 e;obtain⟨b,rfl,j⟩:=rk (prog:=G.prog) (w:=G.w) c m;rw[<-e];exact d.2.elim λg k=>.t f j k.1<|by rw[u4];exact mN zX k.2
theorem y4(b:ax B)(Z:At B loc ρ σ s)(m:RV ρ s.heap va a)(j:TP.cd d=some o)(e:dW o a=some r):DV B.G ρ s.heap d va r:=by obtain⟨k,l,f,rfl,g,hp⟩:=b.T.cd d o j;obtain⟨i,rfl⟩:=zZ e;obtain⟨t,rfl⟩:=m.inv;rw[<-sI e];exact .i k (intKind_is _ _ _ _) (g.keep Z.st.base)<|mN ku<|hp.mv<|uZ Z.st
theorem RO.get(r:RO ρ h v<|some a):∃w,v=some w/\RV ρ h w a:=by
 rcases v with _|w;·cases r.1
 ·exact⟨w,rfl,r.2 w a rfl rfl⟩
theorem RO.getD(r:RO ρ h v a)(c:RV ρ h b d):RV ρ h (v.getD b)<|a.getD d:=by
  rcases a with _|a
  · rcases v with _|w;·exact c
    ·cases r.1
  ·obtain⟨w,rfl,k⟩:=r.get;exact k
theorem lH(b:ax B):B.A.units+1+10<cLine:=by haveI:=b.units;exact af (aH _ _ _) (.a (.a (.a (.v 0)<|.m 20<|.v 1)<|.n 100)<|.n 1) (.v 2) (.a (.a (.p 0 1)<|.n 10)<|.n 1) (.v 2) this rfl
theorem JS(b:ax B)(x:DV B.G ρ s.heap d va r)(H:∀j,Q (.bool r.isSome) {s with toks:=j}):B.wp (compareOp .In va<|.ref d) Q E s:=by
 obtain⟨i,⟨g,y,f,a,e⟩|⟨g,y,f,a,e⟩|⟨c,y,g,rfl,f,a,e⟩⟩:=x;·exact wpAny_in_of f i a.mapOf<|by refine Rr e.1 ?_;exact H _
 ·exact wpAny_in_of f i a.mapOf<|by refine Rr e.1 ?_;exact H _
 ·refine wpAny_in_heap (lH b) f i a ?_;haveI:=e.1;rw[Option.isSome_map]at this;refine Rr this ?_;exact H _
theorem E4(b:ax B)(x:DV B.G ρ s.heap d va r)(H:∀v j,RV ρ s.heap v (r.getD .none)->Q v {s with toks:=j}):B.wp (call (.builtin "dict.get") [.ref d,va]) Q E s:=by
 obtain⟨i,⟨e,y,g,a,f⟩|⟨e,y,g,a,f⟩|⟨c,y,e,rfl,g,a,f⟩⟩:=x;·exact call_meetsIn F.slot_dict_get a.mapOf.typeIs F.entry_dict_get (F.args_dict_get_2 _ _) (meets_dict_get _ d g i) ⟨_,a.mapOf,H _ _<|f.getD .none⟩
 ·exact call_meetsIn F.slot_dict_get a.mapOf.typeIs F.entry_dict_get (F.args_dict_get_2 _ _) (meets_dict_get _ d g i) ⟨_,a.mapOf,H _ _<|f.getD .none⟩
 ·exact call_meetsIn F.slot_dict_get a.typeIs F.entry_dict_get (F.args_dict_get_2 _ _) (meetsH_dict_get _ d c i) ⟨lH b,y,e,g,a,H _ _<|f.getD .none⟩
theorem E5(b:ax B)(x:DV B.G ρ s.heap d va r)(j:RV ρ s.heap i m)(H:∀v l,RV ρ s.heap v (r.getD m)->Q v {s with toks:=l}):B.wp (call (.builtin "dict.get") [.ref d,va,i]) Q E s:=by
 obtain⟨k,⟨e,y,f,a,g⟩|⟨e,y,f,a,g⟩|⟨c,y,e,rfl,f,a,g⟩⟩:=x;·exact call_meetsIn F.slot_dict_get a.mapOf.typeIs F.entry_dict_get (F.args_dict_get_3 _ _ _) (meets_dict_get_default _ d f k i) ⟨_,a.mapOf,H _ _<|g.getD j⟩
 ·exact call_meetsIn F.slot_dict_get a.mapOf.typeIs F.entry_dict_get (F.args_dict_get_3 _ _ _) (meets_dict_get_default _ d f k i) ⟨_,a.mapOf,H _ _<|g.getD j⟩
 ·exact call_meetsIn F.slot_dict_get a.typeIs F.entry_dict_get (F.args_dict_get_3 _ _ _) (meetsH_dict_get_default _ d c k i) ⟨lH b,y,e,f,a,H _ _<|g.getD j⟩
theorem lp{a dE:Expr}{T id:String}(m:s.TypeIs o T)(hl:typeLookup (.type T) "__getitem__"=pure (some<|.builtin id))(h:B.wp (getItem o i) Q E s)(n:∀l u t p,dE≠.Slice l u t p):B.wp (PyProof.Rows.subscriptTail a dE o i) Q E s:=by
 refine wpAny_bind ?_;refine wpAny_bind<|wpAny_specialOf m hl ?_;haveI e:subscripted dE false o i=operate [o,i] (getItem o i):=by cases dE<;>first|rfl|exact absurd rfl<|n _ _ _ _
 haveI fin:B.wp (subscripted dE false o i) (λr b=>B.wp (letTemporaryGo a o r>>=λj=>pure r) Q E b) E s:=by refine Rr e ?_;exact wpAny_operating<|wpAny_mono h (λr b f=>wpAny_bind<|wpAny_letTemporaryGo<|wpAny_pure f) λj j x=>x
 exact wpAny_pure<|wpAny_bind fin
theorem wb(b:ax B){g dE:Expr}(o:∀l u t p,dE≠.Slice l u t p)(x:DV B.G ρ s.heap d va<|some a)(H:∀v r,RV ρ s.heap v a->Q v {s with toks:=r}):B.wp (PyProof.Rows.subscriptTail g dE (.ref d) va) Q E s:=by
 obtain⟨_,⟨m,y,n,f,j⟩|⟨m,y,n,f,j⟩|⟨c,y,m,rfl,n,f,j⟩⟩:=x;·refine j.get.elim λw ζ0=>ζ0.elim λe k=>?_;exact lp f.mapOf.typeIs slot_dict_getitem.lookup (wpAny_getItem_of n f.mapOf e<|H _ _ k) o
 ·obtain⟨w,e,k⟩:=j.get;exact lp f.mapOf.typeIs slot_dict_getitem.lookup (wpAny_getItem_of n f.mapOf e<|H _ _ k) o
 ·obtain⟨w,e,k⟩:=j.get;obtain⟨z,e',rfl⟩:=P6 e;exact lp f.typeIs slot_dict_getitem.lookup (wpAny_getItem_heap (lH b) n f e'<|H _ _ k) o
theorem l6(e:bV i=some n):i=n:=by cases i<;>(first|injection e;done|(haveI e:=sI e;subst e)|subst e);rfl
theorem u6{b dE:Expr}(y:∀l u t p,dE≠.Slice l u t p)(hl:s.heap.PlainList t vs)(r:aU ρ s.heap vs.toList k)(m:RV ρ s.heap w<|.int i)(e:bG k i=some a)(H:∀v g,RV ρ s.heap v a->Q v {s with toks:=g}):B.wp (PyProof.Rows.subscriptTail b dE (.ref t) w) Q E s:=by obtain⟨u,rfl⟩:=m.inv;obtain⟨x,e⟩:=a6 e;obtain⟨n,q,e⟩:=P5 e;obtain⟨v,j,d⟩:=r.at' e;haveI o:=dD e;haveI:=gx x;haveI:=l6 q;exact lp hl.isList.typeIs list_getitem_lookup (wpAny_getItem_list hl.isList (by lia) (by lia) (by refine Rr this ?_;exact j)<|H v s.toks d) y
theorem Hb(e:seqIndex? i k=some j):-k<=i/\i<k:=by
 delta seqIndex? at e;by_cases b:i<0;·simp only[if_pos b]at e;haveI:=(a6 e).1;simp only[Bool.and_eq_true,decide_eq_true_eq]at this;omega
 ·simp only[if_neg b]at e;haveI:=(a6 e).1;simp only[Bool.and_eq_true,decide_eq_true_eq]at this;omega
theorem Hd(b:ax B)(Z:At B loc ρ σ s){d dE:Expr}(w:∀l u t p,dE≠.Slice l u t p)(x:RV ρ s.heap J o)(y:RV ρ s.heap G i)(H:B.H<|item o i σ k)(K:∀v a g,RV ρ s.heap v a->B.H (k a σ)->Q v {s with toks:=g}):B.wp (PyProof.Rows.subscriptTail d dE J G) Q E s:=by haveI C:=x.inv;cases o with
 |tup l=>clear x;obtain⟨t,vs,rfl,q,m⟩:=C;cases i with|int j=>refine b.av H λa e H=>?_;obtain⟨u,rfl⟩:=y.inv;obtain⟨L,e⟩:=a6 e;obtain⟨n,I,e⟩:=P5 e;refine(m.at' e).elim λv ζ0=>ζ0.elim λM A=>?_;haveI:=gx L;haveI:=Hb I;exact lp q.typeIs PyProof.Rows.slot_tuple_getitem.lookup (PyProof.Rows.getItem_tuple q (by omega) (by omega) (by refine Rr m.size ?_;exact I) M<|K v a s.toks A H) w|_=>exact b.no H
 |fl l=>clear x;obtain⟨t,vs,rfl,q,_,m⟩:=C;cases i with|int j=>exact b.av H λa e H=>u6 w q m y e λv g r=>K v a g r H|_=>exact b.no H
 |ref r j=>
  clear x;obtain⟨p,rfl,hp⟩:=C;refine b.ao H λF N H=>?_;have D:=bF.at_ Z hp N;have f:B.H (.av ((dW F i).bind id) λv=>k v σ)->B.wp (PyProof.Rows.subscriptTail d dE (.ref p.1) G) Q E s:=λH=>b.av H λa e H=>by obtain⟨z,e1,rfl⟩:=P5 e;exact wb b w (mW D (qK Z hp) y e1) λv g r=>K v a g r H
  cases F with
  |list l=>obtain⟨_,vs,q,m⟩:=D;clear f;cases i with|int j=>exact b.av H λa e H=>u6 w q m y e λv g r=>K v a g r H|_=>exact b.no H
  |_=>exact f H
 |_=>exact b.no H
noncomputable def Om(op:CmpOp)(a c:AV)(k:Bool->Cd):Cd:=match a with|.int x=>(match c with|.int y=>.bo (sM op x y) k|_=>stk)|_=>stk
theorem wc(r:RV ρ h v a)(c:(!lN a)=true):plainIs v .none=true/\bif isNone a then v=.none else v≠.none:=by cases r with|none=>exact⟨rfl,rfl⟩|imm=>injection c|_=>exact⟨rfl,nofun⟩
theorem xm(b:ax B)(Z:At B loc ρ σ s)(C:RV ρ s.heap va a)(J:RV ρ s.heap D c)(H:B.H<|tQ TP F a c σ k)(K:∀z V,B.H (k z)->Q (.bool z) {s with toks:=V}):B.wp (compareOp F va D) Q E s:=by
 haveI O:=C.inv;haveI M:=J.inv;haveI g:B.H (Om F a c k)->(∀(x y:Int)(t u:Tok)z,sM F x y=some z->Q (.bool z) s->B.wp (compareOp F (.int x t)<|.int y u) Q E s)->B.wp (compareOp F va D) Q E s:=λH f=>by cases a with
  |int x=>cases c with|int y=>obtain⟨t,rfl⟩:=O;obtain⟨u,rfl⟩:=M;exact b.bo H λz e H=>f x y t u z e<|K z s.toks H|_=>exact b.no H
  |_=>exact b.no H
 haveI N:=λr e=>Ha 20 B.A a c va D r (by haveI:=b.units;exact af (aH _ _ _) (.a (.a (.a (.v 0)<|.m 20<|.v 1)<|.n 100)<|.n 1) (.v 2) (.a (.p 0 20)<|.n 1) (.v 2) this rfl) C J e;cases F with
 |Is=>clear N g;cases c with|none=>
   clear J;obtain rfl:D=.none:=M;refine b.grd H λU H=>?_;obtain⟨I,l⟩:=wc C U;revert H l;cases isNone a<;>intro H l;·exact wpAny_is_other I l<|K _ s.toks H
   ·clear C O;subst l;exact wpAny_is_self I<|K _ s.toks H|_=>exact b.no H
 |IsNot=>clear N g;cases c with|none=>
   clear J;obtain rfl:D=.none:=M;refine b.grd H λU H=>?_;obtain⟨I,l⟩:=wc C U;revert H l;cases isNone a<;>intro H l;·exact wpAny_isNot_other I l<|K _ s.toks H
   ·clear C O;subst l;exact wpAny_isNot_self I<|K _ s.toks H|_=>exact b.no H
 |Eq=>exact b.bo H λr e H=>(N r e).2.1 B.G.prog B.G.w _ _<|K _ s.toks H|NotEq=>exact b.bo H λr e H=>(N r e).2.2 B.G.prog B.G.w _ _<|K _ s.toks H|In=>
  have fin:∀{d:Addr}{o:AO},(∀r,dW o a=some r->DV B.G ρ s.heap d va r)->B.H (.bo ((dW o a).map Option.isSome) k)->B.wp (compareOp .In va<|.ref d) Q E s:=λf H=>b.bo H λz e H=>by obtain⟨r,e1,rfl⟩:=P6 e;exact JS b (f r e1) λV=>K _ V H
  clear N g;cases c with|ref r i=>clear J;obtain⟨p,rfl,hp⟩:=M;exact b.ao H λo T H=>fin (λr e=>mW (bF.at_ Z hp T) (qK Z hp) C e) H|con d=>obtain rfl:D=.ref d:=M;exact b.opt H λo T H=>fin (λr e=>y4 b Z C T e) H|_=>exact b.no H
 |NotIn=>exact g H λx y t u z e=>by injection e|Lt=>exact g H λx y t u z e q=>PySem.P.lt_int<|by haveI e:=sI e;subst e;exact q|LtE=>exact g H λx y t u z e q=>PySem.P.le_int<|by haveI e:=sI e;subst e;exact q|Gt=>exact g H λx y t u z e q=>PySem.P.gt_int<|by haveI e:=sI e;subst e;exact q|GtE=>exact g H λx y t u z e q=>PySem.P.ge_int<|by haveI e:=sI e;subst e;exact q
end
section
variable{prog:Program}{w:World}{A:Around}{E:Value->Shared->Prop}{s:Shared}{K:Frag}{x C:Addr}{ox:Obj}{od:Option Obj}{name:Str}{expr:Bool}{Q:Value->Shared->Prop}
theorem E6(X:K.In s.heap)(I:InstAt s.heap x ox C od)(G:ri K C)(n:findObj K C od name=some (.value v))(l:handedIn v=true)(h:Q v {s with toks:=s.toks+1}):wpAny (model prog w) A (getAttr (.ref x) name expr) Q E s:=by
 obtain⟨hp,g,d,t,os⟩:=s;haveI f:=I.type (M:=model prog w);haveI i:=looks_findIn (M:=model prog w) X G.1;haveI j:=looks_findIn (M:=model prog w) X G.2.1;haveI k:=looks_find (M:=model prog w) X I n;haveI sub:Looks (model prog w) hp (isInstance (.ref x)<|.type "BaseException") true:=I.type.andThen<|looks_mroIn X G.2.2;haveI o:=PySem.F.attr_Exception.ga;refine wpAny_bind<|wpAny_mkText<|wpAny_holding<|wpAny_bind<|f.at<|wpAny_bind<|i.at ?_;refine wpAny_bind<|j.at<|wpAny_bind<|wpAny_attempt<|wpAny_holding ?_;haveI m:callGetattribute (.ref x) (.str name t) (.builtin "BaseException.__getattribute__") expr=boundAndCalled (.builtin "BaseException.__getattribute__") (.ref x) (.str name t):=by cases expr<;>rfl
 refine Rr m ?_;delta boundAndCalled;refine wpAny_bind<|wpAny_pure<|wpAny_call<|codeAny_call_builtin o.plain PySem.F.entry_bexc_ga<|@check_slot (model prog w) _ _ _ "BaseException.__getattribute__" "BaseException" "__getattribute__" (.ref x) [.str name t] [] _ (by decide+kernel) (by decide+kernel) sub (PySem.F.args_bexc_ga (.ref x)<|.str name t) ?_;refine wpAny_bind<|wpAny_pure ?_;refine wpAny_bind<|wpAny_pure ?_;refine wpAny_bind<|f.at<|wpAny_bind<|k.at ?_;refine wpAny_pure ?_;refine(?_:wpAny _ _ (handedOut v) _ _ _);refine Rr (handedOut_of l) ?_;exact wpAny_pure h
end
section
variable{B:Bx}{ρ ρ':aB}{σ σ':AS}{h h':Heap}{s s':Shared}{loc:aq}{E:Value->Shared->Prop}{Q:Value->Shared->Prop}
theorem u7(e:nsFind c.toArray x=some v):getL x c=some (some v):=by delta nsFind findBy at e;delta getL;rw[List.find?_toArray]at e;cases b:c.find? λd=>d.key.isStr x with|none=>rw[b]at e;injection e|some y=>rw[b]at e;haveI e:=sI e;subst e;rfl
theorem fZ.r(F:fZ ρ h d f):jA ρ h d f:=by obtain⟨c,n,e,b,_,_,a⟩:=F;exact⟨c,n,e,b,a⟩
theorem Df(r:RV ρ h v a)(d:lN a=false):handedIn v=true:=by cases r<;>first|rfl|injection d
def oK(ρ:aB)(h:Heap)(v:Value)(C:Nat)(f:List<|Str×AV):Prop:=∃a ox d,v=.ref a/\h.get? a=some ox/\ox.cls=.ref C/\notCls ox=true/\ox.dict=some d/\jA ρ h d f
theorem we(Z:At B loc ρ σ s)(r:RV ρ s.heap v<|.fi C f):oK ρ s.heap v C f:=by
 rcases r.inv with⟨p,rfl,e⟩|⟨_,a,d,rfl,b,_,_,F⟩;·obtain⟨_,F,_,c,g,b,_⟩:=Z.st.conc _ _ e;exact⟨_,_,_,rfl,b,rfl,rfl,rfl,F.r⟩
 ·exact⟨_,_,_,rfl,b,rfl,rfl,rfl,F⟩
theorem vC(Z:At B loc ρ σ s)(e:ρ p<|.ref r i)(b:gt σ r i=some (.inst C f)):oK ρ s.heap (.ref p.1) C f:=let c:=bF.at_ Z e b;⟨_,_,_,rfl,c.2.1,rfl,rfl,rfl,c.2.2.r⟩
theorem vD(b:ax B)(Z:At B loc ρ σ s)(I:oK ρ s.heap v C f)(e:tM TP C f x=some a)(H:∀w D,RV ρ s.heap w a->Q w {s with toks:=D}):B.wp (getAttr v x z) Q E s:=by
 refine(a6 e).elim λt e=>?_;obtain⟨U,y,e⟩:=P5 e;refine(gC e).elim λN e=>?_;haveI e:=sI e;subst e;obtain⟨L,M,d,rfl,r,O,J,u,A,n,j,_,K⟩:=I;haveI:=K x;rw[y]at this;refine cps λV F=>?_;obtain⟨w,k,c⟩:=this.get;obtain⟨m,Fr,_⟩:=Z.fr b;obtain⟨i,q,P,l,p⟩:=b.T.attr C x t;refine F ?_;haveI I:InstAt s.heap L M C<|some<|dictOf A n:=⟨r,O,J,by refine Rr u ?_;exact j⟩;haveI o:=Df c<|Bool.eq_false_iff.mpr N;rcases i with i|i;·exact get_own Fr B.G.inK I i q l p (u7 k) o<|H w _ c
 ·exact E6 Z.inK I i (findObj_own q l p<|u7 k) o<|H w _ c
theorem E7(b:ax B)(Z:At B loc ρ σ s)(j:RV ρ s.heap v a)(H:B.H<|zQ TP a x σ k)(K:∀w c d,RV ρ s.heap w c->B.H (k c σ)->Q w {s with toks:=d}):B.wp (getAttr v x z) Q E s:=by cases a with
 |ref r i=>obtain⟨p,rfl,e⟩:=j.inv;refine b.ao H λo l H=>?_;cases o with|inst C f=>exact b.opt H λc g H=>vD b Z (vC Z e l) g λw d q=>K w c d q H|_=>exact b.no H
 |fi C f=>exact b.opt H λc g H=>vD b Z (we Z j) g λw d q=>K w c d q H|_=>exact b.no H
theorem JT{n x:Str}(h:(n !="super")=true):attributeBase (.Call (.Name n p) [] [] q) x env a=a:=if_pos<|by refine Rr h ?_;rfl
theorem qL(i:mT o=false)(H:B.wp a Q E s):B.wp (attributeBase o x env a) Q E s:=by cases o with
 |Call f b g q=>cases f with
  |Name n p=>cases b with|cons=>exact H|nil=>cases g with
    |cons=>exact H|nil=>refine Rr (JT<|bne_iff_ne.mpr λz=>by
      haveI e:N.super="super":=by decide+kernel
      rw[z,<-e]at i;exact absurd (jf N.super)<|Bool.eq_false_iff.mp i) ?_;exact H
  |_=>exact H
 |_=>exact H
theorem qx(b:ax B)(Z:At B loc ρ σ s)(e:ρ p<|.ref r i)(d:gt σ r i=some (.list l))(j:Heap.SameBut p.1 s.heap h')(hp:h'.PlainList p.1 vs)(f:aY ρ s.heap ρ h'->aU ρ h' vs.toList ys)(c:Nat):At B loc ρ (pt σ r i<|.list ys) {s with heap:=h',toks:=c}/\bq ρ s.heap ρ h':=Z.chg b e d (.inl rfl) j.extBut (hp.elim λm k=>⟨_,k⟩) c λg=>⟨(bF.at_ Z e d).1,vs,hp,f g⟩
theorem Dg(b:ax B)(Z:At B loc ρ σ s)(e:ρ p<|.ref r i)(k:gt σ r i=some (.list f))(o:aE f=true)(t:RV ρ s.heap v a)(H:∀s',At B loc ρ (pt σ r i<|.list<|f++[a]) s'->bq ρ s.heap ρ s'.heap->Q .none s'):B.wp (call (.builtin "list.append") [.ref p.1,v]) Q E s:=by refine(bF.at_ Z e k).elim λξ ζ0=>ζ0.elim λvs ζ1=>ζ1.elim λhp l=>?_;refine wpAny_list_append_plain hp (λh' c q=>?_) (by refine Rr l.size ?_;haveI:=gx o;delta sizeLine;lia);refine(qx b Z e k q c (λg=>by refine Rr Array.toList_push ?_;exact(l.mv g).app<|.cons (t.mv g) .nil) s.toks).elim λn m=>?_;exact H _ n m
theorem He(b:ax B)(Z:At B loc ρ σ s)(e:ρ p<|.ref r i)(t:gt σ r i=some (.list d))(w:aE d=true)(hl:d.getLast?=some a)(H:∀s' v,At B loc ρ (pt σ r i<|.list d.dropLast) s'->bq ρ s.heap ρ s'.heap->RV ρ s'.heap v a->Q v s'):B.wp (call (.builtin "list.pop") [.ref p.1]) Q E s:=by
 refine(bF.at_ Z e t).elim λξ ζ0=>ζ0.elim λvs ζ1=>ζ1.elim λζ2 k=>ζ2.elim λn hp=>?_;haveI e1:=k.size;haveI:=gx w;rw[List.getLast?_eq_getElem?,<-gz]at hl;obtain⟨v,j,m⟩:=k.at' hl;rw[<-e1]at j;refine call_meets F.slot_list_pop ⟨_,hp,rfl⟩ F.entry_list_pop (F.args_list_pop_1 _) (MeetsSeq.list_pop_last p.1 vs n v j<|by delta sizeLine;lia) ⟨hp,?_⟩;haveI u:Heap.SameBut p.1 s.heap<|s.heap.update p.1<|Obj.mapSeq λys=>ys.eraseIdxIfInBounds<|vs.size-1:=Heap.SameBut.update ..;haveI x:(vs.eraseIdxIfInBounds<|vs.size-1).toList=vs.toList.take (d.length-1):=by
  haveI l:=by haveI:=(Array.getElem?_eq_some_iff.mp j).1;exact af (au _ _) (.p 0 1) (.v 1) (.p 0 1) (.v 1) this rfl
  delta Array.eraseIdxIfInBounds;exact Rr (dif_pos l)<|Rr Array.toList_eraseIdx<|Rl e1<|Rl Array.length_toList<|Rr List.eraseIdx_length_sub_one<|Rr List.dropLast_eq_take rfl
 refine(qx b Z (ys:=d.dropLast) e t u ⟨_,IsL.update hp _⟩ (λg=>by refine Rr x<|Rr List.dropLast_eq_take ?_;exact(k.mv g).take _) s.toks).elim λy q=>?_;exact H _ v y q<|m.mv q.g
noncomputable def z4:BM->String|.append=>"list.append"|.pop=>"list.pop"|.get=>"dict.get"
theorem xn(b:ax B)(Z:At B loc ρ σ s)(l:∀{va:Value}{a:AV}{r:Option AV},RV ρ s.heap va a->dW p a=some r->DV B.G ρ s.heap d va r)(o:aU ρ s.heap vs c)(H:B.H<|nE .get p c t σ k)(K:Kv B loc ρ s k Q):B.wp (call (.builtin "dict.get")<|.ref d::vs) Q E s:=by
  rcases o with _|⟨m,i⟩;·exact b.no H
  · rcases i with _|⟨i,n⟩;·refine b.av H λw e H=>?_;obtain⟨r,g,rfl⟩:=P6 e;exact E4 b (l m g) λv f q=>K ρ σ _ v _ (Z.toks b f) .rfl q H
    · rcases n with _|⟨n,u⟩;·refine b.av H λw e H=>?_;obtain⟨r,g,rfl⟩:=P6 e;exact E5 b (l m g) i λv f q=>K ρ σ _ v _ (Z.toks b f) .rfl q H
      ·exact b.no H
theorem DR(b:ax B)(Z:At B loc ρ σ s)(e:ρ p<|.ref r i)(n:gt σ r i=some g)(j:aU ρ s.heap vs d)(H:B.H<|nE m g d (pt σ r i) σ k)(K:Kv B loc ρ s k Q):B.wp (call (.builtin<|z4 m)<|.ref p.1::vs) Q E s:=by
 rcases m with _|_|_;·cases g with
  |list w=>cases j with|nil=>exact b.no H|cons x y=>cases y with|nil=>refine b.ao H λo c H=>?_;haveI t:=(a6 c).1;haveI c:=(a6 c).2;haveI c:=sI c;subst c;exact Dg b Z e n t x λs' l f=>K _ _ s' .none .none l f .none H|cons=>exact b.no H
  |_=>exact b.no H
 ·cases g with
  |list w=>cases j with|nil=>refine b.av H λa c H=>?_;refine(a6 c).elim λt hl=>?_;exact He b Z e n t hl λs' v l f q=>K _ _ s' v a l f q H|cons=>exact b.no H
  |_=>exact b.no H
 ·exact xn b Z (λA z=>mW (bF.at_ Z e n) (qK Z e) A z) j H K
theorem y5(h:sm i=true):-1000000000<=i/\i<=1000000000:=by refine(MK h).elim λc b=>?_;exact⟨of_decide_eq_true c,of_decide_eq_true b⟩
theorem rm(b:ax B)(Z:At B loc ρ σ s)(H:B.H<|oB l σ k)(K:Kv B loc ρ s k Q){vs:Array Value}(hl:aU ρ s.heap vs.toList l):(vs.size:Int)<2^63/\∀t c,Q (.int vs.size t) {s with toks:=c}:=by refine b.av H λa e H=>?_;haveI d:=(a6 e).1;haveI e:=(a6 e).2;haveI e:=sI e;subst e;refine Rr hl.size ?_;exact⟨rj d,λt c=>K ρ σ _ _ _ (Z.toks b c) .rfl (.int _ t) H⟩
theorem wj(b:ax B)(Z:At B loc ρ σ s)(H:B.H<|k (.rng c a d) σ)(K:Kv B loc ρ s k Q):Q (.ref s.heap.objs.size) {s with heap:=s.heap.push {cls:=.type "range",data:=.fields #[.int c t,.int a u,.int d v]},toks:=e}:=K ρ σ {s with heap:=s.heap.push {cls:=.type "range",data:=.fields #[.int c t,.int a u,.int d v]},toks:=e} _ _ (Z.grow b (cw _ _) e) (.grow<|cw _ _) (.rng (IsRange.new ..)<|Z.st.freshOwn<|cC _) H
theorem aL.sole{R:e->f->Prop}{C:Prop}(h:aL R x [b])(K:∀a,x=[a]->R a b->C):C:=by cases h with|cons c d=>cases d;exact K _ rfl c
theorem ax.ite(b:ax B){c:Prop}[Decidable c]{t u:Cd}{C:Prop}(H:B.H<|if c then t else u)(a:c->B.H t->C)(d:B.H u->C):C:=by
 by_cases q:c;·rw[if_pos q]at H;exact a q H
 ·rw[if_neg q]at H;exact d H
theorem E8(e:rU l=some r):(∃b,l=[b]/\r=.rng 0 b 1)\/∃a b,l=[a,b,-1]/\r=.rng a b (-1):=by match l,e with|[a],e=>exact .inl ⟨a,rfl,(sI (a6 e).2).symm⟩|a::b::c::r,e=>haveI q:=(a6 e).1;haveI e:=(a6 e).2;haveI q:=tK q;haveI k:=lQ q.2.2.2;exact .inr ⟨a,b,Rr (P8 q.1)<|Rr k rfl,Rl k (sI e).symm⟩
theorem E9(e:rV l=some r):∃a b,l=[a,b]/\r=if b<a then b else a:=by match l,e with|a::b::r,e=>haveI q:=(a6 e).1;haveI e:=(a6 e).2;exact⟨a,b,Rr (P8 q) rfl,(sI e).symm⟩
theorem j1(r:aU ρ h vs l)(e:gF l=some (a::k)):∃t b d,vs=.int a t::b/\aU ρ h b d/\gF d=some k:=by cases r with|nil=>injection e;contradiction|@cons v x vs l g n=>cases x with|int i=>obtain⟨r,j,q⟩:=P6 e;injection q with m f;refine g.inv.elim λt z=>?_;exact⟨t,vs,l,Rr z<|Rr m rfl,n,Rl f j⟩|_=>injection e
theorem qy(r:aU ρ h vs l)(e:gF l=some []):vs=[]:=by cases r with|nil=>rfl|@cons v x vs l c b=>cases x with|int i=>obtain⟨r,d,q⟩:=P6 e;injection q|_=>injection e
section
variable(b:ax B)(Z:At B loc ρ σ s){args:List AV}{vs:List Value}(hv:aU ρ s.heap vs args){k:KV}(K:Kv B loc ρ s k Q)
include b Z hv K
theorem Hf(H:B.H<|Mj.Internal.sole args λv=>zS v σ k):B.wp (call (.builtin "len") vs) Q E s:=by refine b.sole H λa q H=>(q▸hv).sole λv q g=>?_;refine Rr q ?_;haveI f:=g.inv;clear g q hv;cases a with
 |tup l=>obtain⟨t,vs,rfl,c,hl⟩:=f;haveI q:=rm b Z H K hl;exact PyProof.Rows.len_tuple c q.1<|q.2 _ _|fl l=>obtain⟨t,vs,rfl,c,_,hl⟩:=f;haveI q:=rm b Z H K hl;exact call_len_list c.isList q.1<|q.2 _ _|ref r i=>obtain⟨p,rfl,e⟩:=f;refine b.ao H λo j H=>?_;cases o with|list l=>refine(bF.at_ Z e j).elim λξ ζ0=>ζ0.elim λvs ζ1=>ζ1.elim λc hl=>?_;haveI q:=rm b Z H K hl;exact call_len_list c.isList q.1<|q.2 _ _|_=>exact b.no H
 |_=>exact b.no H
theorem Hg(H:B.H<|grd (!B.c.hd)<|bb ((gF args).bind rV) λi=>k (.int i) σ):B.wp (call (.builtin "min") vs) Q E s:=by refine b.grd H λg H=>b.opt H λi e H=>?_;obtain⟨l,e1,j⟩:=P5 e;obtain⟨x,y,rfl,rfl⟩:=E9 j;obtain⟨t,_,_,rfl,a,e1⟩:=j1 hv e1;obtain⟨u,_,_,rfl,a,e1⟩:=j1 a e1;refine Rr (qy a e1) ?_;refine min_two_ints (b.hd<|cW g) λh' d f=>?_;rw[show(if y<x then Value.int y u else .int x t)=.int (if y<x then y else x) (if y<x then u else t)by by_cases q:y<x;exact Rr (if_pos q)<|Rr (if_pos q)<|Rr (if_pos q) rfl;exact Rr (if_neg q)<|Rr (if_neg q)<|Rr (if_neg q) rfl];exact K ρ σ {s with heap:=h',toks:=d} _ _ (Z.grow b f d) (.grow f) (.int _ _) H
theorem Hh(H:B.H<|.av ((gF args).bind rU) λv=>k v σ):B.wp (call (.type "range") vs) Q E s:=by
 refine b.av H λa e H=>?_;obtain⟨l,e1,f⟩:=P5 e;rcases E8 f with⟨x,rfl,rfl⟩|⟨x,y,rfl,rfl⟩;·obtain⟨t,_,_,rfl,c,e1⟩:=j1 hv e1;refine Rr (qy c e1) ?_;exact call_range_1<|wj b Z H K
 ·obtain⟨t,_,_,rfl,c,e1⟩:=j1 hv e1;obtain⟨u,_,_,rfl,c,e1⟩:=j1 c e1;obtain⟨v,_,_,rfl,c,e1⟩:=j1 c e1;refine Rr (qy c e1) ?_;exact call_range_3 (bD rfl) (wj b Z H K)<|.inl<|PyProof.noPylong_small<|bL rfl
theorem Hi(H:B.H<|Mj.Internal.sole args λv=>.av (zT v) λv=>k v σ):B.wp (call (.type "tuple") vs) Q E s:=by refine b.sole H λa q H=>(q▸hv).sole λv q g=>b.av H λr e H=>?_;refine Rr q ?_;haveI j:=g.inv;clear g q hv;cases a with|fl l=>obtain⟨t,vs,rfl,i,_,hl⟩:=j;obtain⟨n,e⟩:=a6 e;haveI e:=sI e;subst e;refine call_tuple_list i.isList (λh' m=>?_) (by refine Rr hl.size ?_;haveI:=gx n;delta sizeLine;lia);haveI f:∀b d,s.heap.get? b=some d->(h'.push {cls:=.type "tuple",data:=.seq vs}).get? b=some d:=λb d e=>Qp _<|m b d e;exact K ρ σ {s with heap:=h'.push {cls:=.type "tuple",data:=.seq vs}} _ _ (Z.grow b f s.toks) (.grow f) (.tup_ (IsTup.new _ _)<|hl.mv<|.grow f) H|_=>injection e
theorem DU(H:B.H<|yQ B.c.hd f args σ k):B.wp (call (hG f) vs) Q E s:=by
 refine b.ite H (λq H=>?_) λH=>b.ite H (λq H=>?_) λH=>b.ite H (λq H=>?_) λH=>b.ite H (λq H=>?_) λH=>b.no H;·refine Rr q ?_;exact Hf b Z hv K H
 ·refine Rr q ?_;exact Hg b Z hv K H
 ·refine Rr q ?_;exact Hh b Z hv K H
 ·refine Rr q ?_;exact Hi b Z hv K H
end
end
section
variable{B:Bx}{ρ ρ':aB}{σ σ':AS}{h h':Heap}{s s':Shared}{loc:aq}{E:Value->Shared->Prop}{Q:Value->Shared->Prop}
theorem u9(b:ax B)(d:oJ B.G o D)(m:Ar B.G A D i n ρ σ s)(j:aU ρ s.heap vs c){k x:KV}(l:o=B.cf)(H:B.H<|.call i f c σ k x)(K:∀ρ' σ' s' v a,St B.G ρ' σ' s'->bq ρ s.heap ρ' s'.heap->RV ρ' s'.heap v a->B.H (k a σ')->Q v s')(X:∀ρ' σ' s' v a,St B.G ρ' σ' s'->bq ρ s.heap ρ' s'.heap->XV ρ' v a->B.H (x a σ')->E v s'):codeAny (model B.G.prog B.G.w) A (.call (.ref f) ⟨vs,[]⟩) (wants Q E) s:=by
 refine d A i n ρ σ s f c vs Q E m j ?_;clear d;subst l;rw[Bx.H,qI]at H;revert H;rcases B.cf i f c σ with⟨a,σ'⟩|⟨a,σ'⟩|_;·exactλH ρ' s' v r g e=>K ρ' σ' s' v a g e r H
 ·exactλH ρ' s' v r g e=>X ρ' σ' s' v a g e r H
 ·exactλH=>b.stk H
theorem qM(b:ax B)(Z:At B loc ρ σ s)(i:aU ρ s.heap vs d){k x:KV}(H:B.H<|.call B.c.hd f d σ k x)(K:Kv B loc ρ s k Q)(X:Kx B loc x E):B.wp (call (.ref f) vs) Q E s:=wpAny_call<|u9 b b.cf (Z.ar b) i rfl H (λρ' σ' s' v a g e=>K ρ' σ' s' v a (Z.keep b e g) e) λρ' σ' s' v a g e=>X ρ' σ' s' v a<|Z.keep b e g
theorem DW(b:ax B)(Z:At B loc ρ σ s)(V:TP.init a=some (i,r))(W:aU ρ s.heap vs C){k x:KV}(U:nx σ r=some n)(H:B.H<|.call B.c.hd i (.ref r n::C) (nw σ r<|.inst a []) (λv σ'=>grd (isNone v)<|k (.ref r n) σ') x)(K:Kv B loc ρ s k Q)(X:Kx B loc x E):B.wp (call (.ref a) vs) Q E s:=by
  refine(b.T.own a i r V).elim λξ ζ0=>ζ0.elim λP ζ1=>ζ1.elim λc3 c4=>?_;haveI J:=Z.inK;haveI Y:=makes_of (M:=model B.G.prog B.G.w) J P;haveI O:∀b I,s.heap.get? b=some I->((s.heap.push emptyDict).push<|instObj a s.heap.objs.size).get? b=some I:=λb I e=>cw _ _ _ _<|cw _ _ _ _ e;haveI L:∀b,bX b (s.heap.objs.size+1,s.heap.objs.size)->s.heap.get? b=none:=λb x=>x.elim (λq=>q▸Heap.get?_none_of_le (Qk _)) λq=>q▸cC _;haveI l:=Z.new b (o:=.inst a []) U O L s.toks ⟨Nat.ne_of_lt<|Nat.lt_succ_self _,by heap_get,[],0,cw _ _ _ _<|Qq _ rfl,(λe he=>nomatch he),.nil,rfl,λx=>⟨rfl,by intros;contradiction⟩⟩;haveI u:bq ρ s.heap (ρ.add (s.heap.objs.size+1,s.heap.objs.size)<|.ref r n)<|(s.heap.push emptyDict).push<|instObj a s.heap.objs.size:=.new O L;haveI f:=l.ar b;refine wpAny_call ?_;obtain⟨hh,g,d,t,os⟩:=s;refine make_core Y (looks_findIn J c3) (λz=>bind_fn J z c4) (.inl rfl) ?_;refine codeAny_mono (u9 b (A:=B.A.under<|.builtin "type.__call__" ⟨.ref a::vs,[]⟩) b.cf ⟨f.frames,by haveI:=b.room;exact af (aH _ _ _) (.a (.a (.a (.v 0)<|.m 2<|.v 1)<|.n 2)<|.n 1) (.v 2) (.a (.a (.a (.p 0 1)<|.m 2<|.v 1)<|.n 1)<|.n 1) (.v 2) this rfl,by haveI:=b.units;exact af (aH _ _ _) (.a (.a (.a (.v 0)<|.m 20<|.v 1)<|.n 100)<|.n 1) (.v 2) (.a (.a (.a (.p 0 1)<|.m 20<|.v 1)<|.n 90)<|.n 1) (.v 2) this rfl,f.hd,f.frs,f.st,f.siz⟩ (.cons (.ref aB.new)<|W.mv u.g) rfl H (Q:=λv s'=>v=.none/\Q (.ref<|hh.objs.size+1) s') (λρ' σ' s' v c F D rv H=>b.grd H λhc H=>?_) λρ' σ' s' v c F D=>X ρ' σ' s' v c<|l.keep b D F) λr s' y=>?_;·cases c with|none=>exact⟨rv.inv,K ρ' σ' s' _ _ (l.keep b D F) (u.trans D) (.ref<|D.g.ext _ _ nofun aB.new) H⟩|_=>injection hc
  · rcases r with e|fl;·exact y
    ·cases fl with|ret v=>obtain⟨rfl,y⟩:=y;exact⟨rfl,y⟩|_=>exact y.elim
theorem DX(b:ax B)(Z:At B loc ρ σ s)(f:aU ρ s.heap vs e)(H:B.H<|rW TP B.c.hd (.con a) e σ k x)(K:Kv B loc ρ s k Q)(X:Kx B loc x E):B.wp (call (.ref a) vs) Q E s:=by refine b.oel H (λd H=>b.oel H (λd H=>b.opt H λp hp H=>b.opt H λn g H=>DW b Z hp f g H K X) λd d H=>qM b Z f H K X) λd d H=>qM b Z f H K X
theorem Fb(b:ax B)(c:qH TP (.con a)=true):keepIn B.G.K (.ref a)=true:=by
  rcases Bool.or_eq_true_iff.mp c with c|c
  · rcases Bool.or_eq_true_iff.mp c with c|c;·refine(Option.isSome_iff_exists.mp c).elim λf e=>?_;exact(b.T.fnk a f e).1
    ·refine(Option.isSome_iff_exists.mp c).elim λi e=>?_;exact(b.T.own a _ _ e).1
  ·exact b.T.fzk a _ c
theorem mX(h:b.any fB=false):(backTo pos<|starEach b env).any (λc=>c.1)=false:=by
 haveI e:∀l:List Expr,l.any fB=false->(starEach l env).any (λc=>c.1)=false:=by intro l;induction l with|nil=>intro _;rfl|cons e r g=>intro hl;obtain⟨f,d⟩:=Bool.or_eq_false_iff.mp hl;clear hl;cases e<;>first|exact g d|injection f
 delta backTo;refine Rr List.any_map ?_;exact e _ h
theorem mL(g:c.any fB=false){Q:Args->Shared->Prop}(h:B.wp (spliced<|backTo pos<|starEach c B.env) (λvs b=>Q ⟨vs,[]⟩ b) E s):B.wp (evalArgs f true (backTo pos<|starEach c B.env) []) Q E s:=by
 rcases c with _|⟨e,r⟩;·exact wpAny_bind<|wpAny_mono h (λvs s' h'=>wpAny_holding<|wpAny_bind<|wpAny_pure<|wpAny_bind<|wpAny_pure<|wpAny_pure h') λj j x=>x
 ·haveI i:starEach (e::r) B.env=(false,eval e B.env)::starEach r B.env:=by clear h;cases e<;>first|rfl|injection g
  rw[i]at h⊢;exact evalArgs_plain h
variable{V:Expr->AS->KV->KV->Cd}{k x:KV}
theorem CK(b:ax B)(I:eM B loc V)(F:∀t p σ k x,¬B.H (V (.Starred t p) σ k x))(L:d.any fB=false)(Z:At B loc ρ σ s)(H:B.H<|V (.Name f U) σ (λv σ=>grd (qH TP v)<|fN V d σ (λvs σ=>rW TP B.c.hd v vs σ k x) x) x)(K:Kv B loc ρ s k Q)(X:Kx B loc x E):B.wp (eval (.Call (.Name f U) d [] pos) B.env) Q E s:=by refine wpAny_Call_NameR<|I _ ρ σ s _ x _ E Z H (λJ G l v a y w O i=>b.grd i λT i=>?_) X;haveI C:=mX (env:=B.env) (pos:=pos) L;cases a with
 |imm c=>
  obtain rfl:=O.inv;haveI fin:B.wp (evalArgs (hG c) true (backTo pos<|starEach d B.env) []) (λa l=>B.wp (call (hG c) ([]++a.pos) a.kw) Q E l) E l:=mL L<|iJ b I F X d y i λD A s₂ vs as j o z W n=>DU b j z (λe g m v a u r=>K e g m v a u<|(w.trans o).trans r) n;by_cases q:c="range"\/c="tuple";·rw[show hG c=.type c from if_pos q]at fin⊢;exact PySem.callWith_type C fin
  ·rw[show hG c=.builtin c from if_neg q]at fin⊢;exact callWith_builtin C fin|con a=>obtain rfl:v=.ref a:=O.inv;exact callWith_of (by refine Rr C ?_;rfl) (keeps_K<|Fb b T)<|mL L<|iJ b I F X d y i λD A s₂ vs as j o z W n=>⟨j.inK,DX b j z n (λe g m v a u r=>K e g m v a u<|(w.trans o).trans r) X⟩|_=>injection T
theorem vc:N.append="append":=by decide+kernel
theorem Hj:N.pop="pop":=by decide+kernel
theorem xp:N.get="get":=by decide+kernel
theorem vd(d:a.any fB=false)(hl:a.length<=20):methodCallForm (a.length+([]:List Keyword).length) (backTo pos<|starEach a B.env) (backToKw pos<|keywordEach [] B.env)=true:=by
 haveI e:(backTo pos<|starEach a B.env).all (λx=>!x.1)=true:=by simpa using mX d
 delta methodCallForm;refine Rr e<|Rr (show backToKw pos (keywordEach [] B.env)=[]from rfl) ?_;simp only[Bool.true_and,List.all_nil,decide_eq_true_eq];exact af (ai _) (.v 0) (.n 20) (.p 0 1) (.n 30) hl rfl
theorem Dh(F:jA ρ h d f){x:Str}(e:(aP sF f x).isNone=true):∃c n,h.get? d=some (dictOf c n)/\getL x c=some none:=by
 refine cps λw o=>?_;obtain⟨c,n,u,v,q⟩:=F;refine o ?_;refine⟨c,n,u,?_⟩;haveI a:=(q x).1;rw[Option.isNone_iff_eq_none.mp e]at a;haveI a:=Option.not_isSome_iff_eq_none.mp (by refine Rr a ?_;nofun);unfold nsFind findBy at a;delta getL;rw[List.find?_toArray,Option.map_eq_none_iff]at a;refine Rr a ?_;haveI p:c.any (λl=>l.refKey)=false:=List.any_eq_false.mpr λe r=>by obtain⟨n,t,m⟩:=v e<|List.mem_toArray.mpr r;delta DictEntry.refKey;refine Rr m ?_;nofun
 refine Rr p ?_;rfl
theorem lq{T id:String}{x:Str}(g:Slot T x id)(y:PlainAttrs T)(p:typeOf (.builtin id)=pure (.type "method_descriptor"))(f:c.any fB=false)(hl:c.length<=20)(d:(v.endLine==pos.line)=true)(r:s.heap.get? a=some n)(z:n.cls=.type T)(w:n.dict=none)(h:B.wp (spliced<|backTo pos<|starEach c B.env) (λvs j=>B.wp (call (.builtin id)<|.ref a::vs) Q E j) E s):B.wp (methodCall o x v pos B.env (.ref a) (c.length+([]:List Keyword).length) (backTo pos<|starEach c B.env)<|backToKw pos<|keywordEach [] B.env) Q E s:=by
 haveI m:methodCallPos true o B.env v pos=pure pos:=by delta methodCallPos;simp[d]
 delta methodCall;refine Rr (vd f hl) ?_;refine wpAny_bind<|wpAny_holding<|getMethod_builtin ⟨n,r,z⟩ y g p (λb e=>by injection e with e;subst e;exact⟨n,r,w⟩)<|wpAny_bind<|wpAny_of_eq m ?_;exact callWith_builtin (mX f)<|mL f h
theorem vE(b:ax B)(Z:At B loc ρ σ s){x:Str}(I:oK ρ s.heap v C fl)(J:TP.meth C x=some f)(O:(aP sF fl x).isNone=true)(i:c.any fB=false)(hl:c.length<=20)(j:(r.endLine==pos.line)=true)(h:B.wp (spliced<|backTo pos<|starEach c B.env) (λvs e=>B.G.K.In e.heap/\B.wp (call (.ref f)<|v::vs) Q E e) E s):B.wp (methodCall o x r pos B.env v (c.length+([]:List Keyword).length) (backTo pos<|starEach c B.env)<|backToKw pos<|keywordEach [] B.env) Q E s:=by
 obtain⟨a,y,d,rfl,M,w,N,A,F⟩:=I;refine cps λX P=>?_;obtain⟨D,n,p,U⟩:=Dh F O;obtain⟨_,z,H,L,u⟩:=b.T.meth C x f J;obtain⟨W,Fr,_⟩:=Z.fr b;refine P ?_;haveI I:InstAt s.heap a y C<|some<|dictOf D n:=⟨M,w,N,by refine Rr A ?_;exact p⟩;haveI m:methodCallPos true o B.env r pos=pure pos:=by delta methodCallPos;simp[j]
 delta methodCall;refine Rr (vd i hl) ?_;refine wpAny_bind<|wpAny_holding<|method_inst Fr B.G.inK I z H L U<|wpAny_bind<|wpAny_of_eq m ?_;exact callWith_of (by refine Rr (mX i) ?_;rfl) (keeps_K u)<|mL i h
theorem CL(b:ax B)(hF:eM B loc V)(hst:∀t p σ k x,¬B.H (V (.Starred t p) σ k x)){j:List Expr}(hs:j.any fB=false)(hl:j.length<=20)(hsup:mT o=false)(z:(ap.endLine==pos.line)=true)(Z:At B loc ρ σ s)(H:B.H<|V o σ (λv σ=>Bq TP v n σ λm=>fN V j σ (λvs σ=>lO TP B.c.hd m v vs σ k x) x) x)(K:Kv B loc ρ s k Q)(X:Kx B loc x E):B.wp (eval (.Call (.Attribute o n ap) j [] pos) B.env) Q E s:=by refine wpAny_bind<|qL hsup<|hF o ρ σ s _ x _ E Z H (λρ₁ W y v a w K₁ hv d=>wpAny_bind<|wpAny_standAt ?_) X;have fnc:∀{f:Nat},B.H (fN V j W (λvs σ=>lO TP B.c.hd (.fn f) a vs σ k x) x)->B.wp (spliced<|backTo pos<|starEach j B.env) (λvs y=>B.G.K.In y.heap/\B.wp (call (.ref f)<|v::vs) Q E y) E y:=λd=>iJ b hF hst X j w d λρ₂ σ₂ s₂ vs as I A Y ξ u=>⟨I.inK,qM b I (.cons (hv.mv A.g) Y) u (λJ D O v a U P=>K J D O v a U<|(K₁.trans A).trans P) X⟩;cases a with
  |ref r i=>
    obtain⟨p,rfl,e⟩:=hv.inv;refine b.ao d λob ho d=>?_;haveI cc:=bF.at_ w e ho;have bmc:∀{m:BM},B.H (fN V j W (λvs σ=>lO TP B.c.hd (.bm m) (.ref r i) vs σ k x) x)->B.wp (spliced<|backTo pos<|starEach j B.env) (λvs y=>B.wp (call (.builtin<|z4 m)<|.ref p.1::vs) Q E y) E y:=λd=>iJ b hF hst X j w d λρ₂ σ₂ s₂ vs as I A Y ξ u=>b.ao u λob ho u=>DR b I (A.g.ext _ _ nofun e) ho Y u λJ D O v a U P=>K J D O v a U<|(K₁.trans A).trans P;have L:(∃o',y.heap.get? p.1=some o'/\o'.ExactDict)->B.H (bb (if sF n N.get then some BM.get else none) λm=>fN V j W (λvs σ=>lO TP B.c.hd (.bm m) (.ref r i) vs σ k x) x)->B.wp (methodCall o n ap pos B.env (.ref p.1) (j.length+([]:List Keyword).length) (backTo pos<|starEach j B.env)<|backToKw pos<|keywordEach [] B.env) Q E y:=λ⟨o',g1,g2⟩d=>b.opt d λm M d=>by refine cps λG_ g_=>?_;haveI q:=(a6 M).1;haveI M:=(a6 M).2;haveI M:=sI M;clear d;refine g_ ?_;clear g_;haveI q:=(cI.mp q).trans xp;clear H M;subst q;exact lq F.slot_dict_get F.plainAttrs_dict F.type_dict_get hs hl z g1 g2.1 g2.2.1<|bmc d
    cases ob with|inst C fl=>exact b.grd d λhx d=>b.opt d λf M d=>vE b w (vC w e ho) M hx hs hl z<|fnc d|list xs=>
      refine cc.elim λξ ζ0=>ζ0.elim λvs ζ1=>ζ1.elim λζ2 ξ=>ζ2.elim λne hp=>?_;refine b.opt d λm M d=>?_;by_cases q:sF n N.append=true
      ·rw[show zU (.list xs) n=some .append from if_pos q]at M;haveI M:=sI M;have q:=(cI.mp q).trans vc;clear H L;cases q;exact lq F.slot_list_append F.plainAttrs_list F.type_list_append hs hl z hp rfl rfl<|bmc d
      ·refine(a6<|(if_neg q).symm.trans M).elim λq M=>?_;haveI M:=sI M;haveI q:=(cI.mp q).trans Hj;clear H L M;subst q;exact lq F.slot_list_pop F.plainAttrs_list F.type_list_pop hs hl z hp rfl rfl<|bmc d|edict=>exact L ⟨_,cc.2,rfl,rfl,rfl⟩ d|idict l=>exact L (by obtain⟨_,kvs,⟨o',es,ep,h1,h2,_⟩,_⟩:=cc;exact⟨o',h1,h2⟩) d|sdict l=>exact L (by obtain⟨_,kvs,⟨o',es,ep,h1,h2,_⟩,_⟩:=cc;exact⟨o',h1,h2⟩) d|tdict l=>exact L (by obtain⟨_,kvs,⟨o',es,ep,h1,h2,_⟩,_⟩:=cc;exact⟨o',h1,h2⟩) d
  |fi C fl=>exact b.grd d λhx d=>b.opt d λf M d=>vE b w (we w hv) M hx hs hl z<|fnc d|con a=>clear fnc;obtain rfl:v=.ref a:=hv.inv;refine b.grd d λq Hc=>?_;obtain⟨h1,h2⟩:=MK q;obtain⟨ob,hob⟩:=Option.isSome_iff_exists.mp h1;have q:=(cI.mp h2).trans xp;clear H d;subst q;refine cps λG_ g_=>?_;obtain⟨_,il,kvs,rfl,hk',_⟩:=b.T.cd a ob hob;obtain⟨o',es,ep,g1,g2,_⟩:=hk'.keep w.st.base;refine g_ ?_;refine lq F.slot_dict_get F.plainAttrs_dict F.type_dict_get hs hl z g1 g2.1 g2.2.1<|iJ b hF hst X j w Hc λρ₂ σ₂ s₂ vs as I A Y ξ u=>b.opt u λob ho u=>?_;rw[hob]at ho;haveI ho:=sI ho;subst ho;exact xn b I (λra er=>y4 b I ra hob er) Y u λJ D O v a U P=>K J D O v a U<|(K₁.trans A).trans P|_=>exact b.no d
end
section
variable{G:cB}{X:Addr->Prop}{ρ ρ':aB}{σ σ':AS}{h h' h₁:Heap}{s s':Shared}{d:Addr}
def aB.re(ρ:aB)(d:Addr)(T:Option iw):aB:=λp t=>ρ p t/\p≠(d,d)\/p=(d,d)/\T=some t
theorem rp(e:ρ (d,d) .pv)(x:bA (ρ.re d T) b):bA ρ b:=by
 obtain⟨p,t,⟨q,_⟩|⟨rfl,_⟩,a⟩:=x;·exact⟨p,t,q,a⟩
 ·exact⟨_,_,e,a⟩
theorem St.growR(Z:St G ρ σ s)(e:ρ (d,d) .pv):aY ρ s.heap (ρ.re d T) s.heap:=⟨λp t n q=>.inl ⟨q,λz=>n (Z.apart d p t (d,d) .pv q e (.inl<|Rr z rfl)<|.inl rfl).2⟩,λb o q n=>⟨λx=>n<|rp e x,q⟩,λa a q=>q⟩
theorem St.re(Z:St G ρ σ s)(e:ρ (d,d) .pv)(v:∀r i o,gt σ' r i=some o->T=some (.ref r i)\/gt σ r i=some o)(m:∀r i o,gt σ r i=some o->gt σ' r i=some o/\T≠some (.ref r i))(c:aY ρ s.heap (ρ.re d T) s.heap->∀t,T=some t->Holds G (ρ.re d T) σ' s.heap (d,d) t):St G (ρ.re d T) σ' s:=by
  haveI g:=Z.growR (T:=T) e;refine⟨λp t q=>?_,λr i o q=>?_,λb p t l u q j f k=>?_,λp l r i q j=>?_,Z.base,λb x=>Z.own0 b<|rp e x,Z.gens,Z.os⟩
  · rcases q with⟨q,n⟩|⟨rfl,q⟩;·exact(Z.conc p t q).mv g (λb o w k=>k) λr i o w k=>(m r i o k).1
    ·exact c g t q
  · rcases v r i o q with q|q;·exact⟨(d,d),.inr ⟨rfl,q⟩⟩
    ·refine(Z.dom r i o q).elim λp k=>?_;exact⟨p,g.ext _ _ nofun k⟩
  · rcases q with⟨q,n⟩|⟨rfl,q⟩<;>rcases j with⟨j,n'⟩|⟨rfl,j⟩;·exact Z.apart b p t l u q j f k
    ·exact absurd (Z.apart b p t (d,d) .pv q e f k).1 n
    ·exact absurd (Z.apart b (d,d) .pv l u e j f k).1.symm n'
    ·rw[q]at j;haveI j:=sI j;subst j;exact⟨rfl,rfl⟩
  · rcases q with⟨q,n⟩|⟨rfl,q⟩<;>rcases j with⟨j,n'⟩|⟨rfl,j⟩;·exact Z.one p l r i q j
    ·obtain⟨o,k,_⟩:=Z.conc _ _ q;exact absurd j (m r i o k).2
    ·obtain⟨o,k,_⟩:=Z.conc _ _ j;exact absurd q (m r i o k).2
    ·rfl
theorem St.drop(Z:St G ρ σ s)(e:ρ (d,d) .pv):St G (ρ.re d none) σ s:=Z.re e (λa a a q=>.inr q) (λa a a q=>⟨q,nofun⟩) λa a=>by intros;contradiction
theorem bz.re(K:bz X ρ' h' ρ h)(g:aY ρ h (ρ.re d T) h)(b:X d\/h'.get? d=none):bz X ρ' h' (ρ.re d T) h:=⟨K.g.trans g,K.dom,K.fr,λp o n q e=>⟨.inl ⟨(K.pv p o n q e).1,λz=>by clear q;subst z;exact b.elim n λk=>by rw[k]at e;injection e⟩,(K.pv p o n q e).2⟩⟩
theorem bz.pvc(K:bz X ρ' h' ρ h)(g:aY ρ h ρ h₁)(c:Heap.ExtBut d h h₁)(i:∃o,h₁.get? d=some o)(l:h'.get? d=none\/X d):bz X ρ' h' ρ h₁:=by
 have j:∀p o,¬X p->h'.get? p=some o->p≠d:=λp o n q z=>by clear c i;subst z;exact l.elim (λk=>by rw[k]at q;injection q) n
 exact⟨K.g.trans g,λb e=>K.dom b<|wa c i b e,λp o n q e=>(K.fr p o n q e).elim λm k=>⟨m,c _ _ (j _ o n e) k⟩,λp o n q e=>⟨(K.pv p o n q e).1,c _ _ (j _ o n e) (K.pv p o n q e).2⟩⟩
theorem St.pvc(Z:St G ρ σ s)(e:ρ (d,d) .pv)(g:Heap.ExtBut d s.heap h')(b:Nat)(f:∃o,h'.get? d=some o/\NT o):St G ρ σ {s with heap:=h',toks:=b}:=Z.chg e (.inl rfl) g b (λa a a=>rfl) λa=>⟨rfl,f⟩
theorem St.noD(Z:St G ρ σ s)(e:ρ (d,d) .pv):¬bA (ρ.re d none) d:=λb=>by obtain⟨p,t,q,c⟩:=b;exact q.elim (λq=>q.2 (Z.apart d p t (d,d) .pv q.1 e c<|.inl rfl).1) λq=>nomatch q.2
theorem St.lose(Z:St G ρ σ s)(e:ρ (d,d) .pv)(i:Heap.ExtBut d s.heap h'):St G (ρ.re d none) σ {s with heap:=h'}/\aY ρ s.heap (ρ.re d none) h':=by
 haveI f:=Z.drop e;have g:aY ρ s.heap (ρ.re d none) h':=(Z.growC e (.inl rfl) i).trans ⟨(Z.growR e).ext,λb o q n=>⟨λx=>n<|rp e x,q⟩,λc c q=>q⟩;refine⟨⟨λp t q=>?_,f.dom,f.apart,f.one,λb o q=>i b o (λz=>Z.not0 q ⟨_,_,e,.inl z⟩)<|Z.base b o q,f.own0,Z.gens,Z.os⟩,g⟩;rcases q with⟨q,n⟩|⟨_,q⟩;·exact(Z.conc p t q).mv g (λb o j k=>i b o (λz=>n (Z.apart b p t (d,d) .pv q e j<|.inl z).1) k) λc c c c k=>k
 ·injection q
theorem bz.lose(K:bz X ρ' h' ρ h)(e:ρ (d,d) .pv)(g:aY ρ h (ρ.re d none) h₁)(f:Heap.ExtBut d h h₁)(i:h'.get? d=none):bz X ρ' h' (ρ.re d none) h₁:=by
 have c:∀b o,h'.get? b=some o->b≠d:=λb o q z=>by rw[z,i]at q;injection q
 refine⟨K.g.trans g,λb q=>?_,λp o n q k=>(K.fr p o n q k).elim λl z=>⟨l,f _ _ (c _ _ k) z⟩,λp o n q k=>⟨.inl ⟨(K.pv p o n q k).1,λz=>c _ _ k<|by rw[z]⟩,f _ _ (c _ _ k) (K.pv p o n q k).2⟩⟩;by_cases z:b=d;·refine Rr z ?_;exact i
 ·refine K.dom b ?_;cases w:h.get? b with|none=>rfl|some o=>rw[f b o z w]at q;injection q
theorem St.newP(Z:St G ρ σ s)(i:o.isFreed=false)(g:NT o):St G (ρ.add (s.heap.objs.size,s.heap.objs.size) .pv) σ {s with heap:=s.heap.push o}/\bz X ρ s.heap (ρ.add (s.heap.objs.size,s.heap.objs.size) .pv) (s.heap.push o):=by haveI e:∀b,bX b (s.heap.objs.size,s.heap.objs.size)->s.heap.get? b=none:=λb x=>x.elim (λq=>Rr q<|cC _) λq=>Rr q<|cC _;exact⟨Z.new (cw _ _) e s.toks (λa a a q=>.inr q) (λa a a q=>⟨q,nofun⟩) ⟨rfl,o,Qq _ i,g⟩,.new (cw _ _) e⟩
end
section
variable{B:Bx}{ρ ρ':aB}{σ σ':AS}{h h':Heap}{s s':Shared}{loc:aq}{E:Value->Shared->Prop}{Q:Value->Shared->Prop}{V:Expr->AS->KV->KV->Cd}{k x:KV}
abbrev z5(B:Bx)(V:Expr->AS->KV->KV->Cd):Prop:=∀t p σ k x,¬B.H (V (.Starred t p) σ k x)
theorem wm(b:ax B)(hV:eM B loc V)(X:Kx B loc x E):∀(y:List Expr){ρ:aB}{σ:AS}{s:Shared},At B loc ρ σ s->B.H (sO V y σ k x)->Kv B loc ρ s k Q->B.wp (eval (.BoolOp .And y pos) B.env) Q E s|[],_,_,_,_,H,_=>b.no H|[e],ρ,σ,s,Z,H,K=>PyProof.Rows.BoolOp_one<|hV e ρ σ s k x Q E Z H K X|e::e'::r,ρ,σ,s,Z,H,K=>PyProof.Rows.BoolOp_and<|hV e ρ σ s _ x _ E Z H (λm j t v a g f w c=>b.bo c λz u c=>mO w u λq=>by clear u;cases z with|true=>exact wm b hV X (e'::r) (g.toks b q) c λi l s₂ v a n o=>K i l s₂ v a n<|f.trans o|false=>exact K m j _ v a (g.toks b q) f w c) X
theorem xq(b:ax B)(hV:eM B loc V)(X:Kx B loc x E):∀(t:List Expr){ρ:aB}{σ:AS}{s:Shared},At B loc ρ σ s->B.H (tS V t σ k x)->Kv B loc ρ s k Q->B.wp (eval (.BoolOp .Or t pos) B.env) Q E s|[],_,_,_,_,H,_=>b.no H|[e],ρ,σ,s,Z,H,K=>PyProof.Rows.BoolOp_one<|hV e ρ σ s k x Q E Z H K X|e::e'::r,ρ,σ,s,Z,H,K=>PyProof.Rows.BoolOp_or<|hV e ρ σ s _ x _ E Z H (λj m w v a g f q c=>b.bo c λz y c=>mO q y λu=>by clear y;cases z with|false=>exact xq b hV X (e'::r) (g.toks b u) c λl i s₂ v a n o=>K l i s₂ v a n<|f.trans o|true=>exact K j m _ v a (g.toks b u) f q c) X
theorem vF(b:ax B)(hV:eM B loc V)(X:Kx B loc x E)(r:List<|Option Expr):∀(vs:List Expr){ρ:aB}{σ:AS}{s:Shared}{k:List (AV×AV)->AS->Cd}{Q:List (Value×Value)->Shared->Prop},r.length=vs.length->At B loc ρ σ s->B.H (kc V r vs σ k x)->(∀ρ' σ' s' J C,At B loc ρ' σ' s'->bq ρ s.heap ρ' s'.heap->aL (λp q=>RV ρ' s'.heap p.1 q.1/\RV ρ' s'.heap p.2 q.2) J C->C.length=r.length->B.H (k C σ')->Q J s')->B.wp (evalPairs<|pairTrees r vs B.env pos) Q E s:=by induction r with
 |nil=>
  intro vs ρ σ s k Q hl Z H K;rcases vs with _|_;·exact pairTrees_nil_walk<|K ρ σ s [] [] Z .rfl .nil rfl H
  ·injection hl|cons o r T=>
  intro vs ρ σ s k Q hl Z H K;rcases o with _|e;·exact b.no H
  ·rcases vs with _|⟨f,vs⟩;·injection hl
   ·exact pairTrees_cons_walk<|hV e ρ σ s _ x _ E Z H (λn m t u a G F U w=>hV f n m t _ x _ E G w (λM L s₂ v c D i P z=>T vs (Nat.succ.inj hl) D z λl j y J C A d hp O I=>K l j y ((u,v)::J) ((a,c)::C) A ((F.trans i).trans d) (.cons ⟨(U.mv i.g).mv d.g,P.mv d.g⟩ hp) (congrArg (λN=>N+1) O) I) X) X
theorem ck.keys{l:List<|e×AV}(hp:ck ρ h c l):c.map (λb=>b.1)=l.map λb=>b.1:=by induction hp with|nil=>rfl|cons a _ d=>exact Rr List.map_cons<|Rr List.map_cons<|Rr a.1<|Rr d rfl
theorem qN{f:b->b->Bool}(c:gp f):∀{l:List<|b×AV},oE f l=true->(l.map λn=>n.1).Nodup|[],_=>.nil|p::r,e=>by obtain⟨d,i⟩:=MK e;refine List.nodup_cons.mpr ⟨λm=>?_,qN c i⟩;obtain⟨q,j,z⟩:=List.mem_map.mp m;rw[List.any_eq_true.mpr ⟨q,j,c.mpr z⟩]at d;injection d
theorem ck.put[DecidableEq K]{f:K->K->Bool}(i:gp f){x:K}{v:Value}{a:AV}(j:RV ρ h v a){b:List<|K×Value}{l:List<|K×AV}(hp:ck ρ h b l)(n:(b.map λt=>t.1).Nodup):ck ρ h (stored b x v)<|bj f l x a:=by induction hp with|nil=>exact .cons ⟨rfl,j⟩ .nil|@cons p q b l c hp d=>
    obtain⟨r,m⟩:=List.nodup_cons.mp n;haveI d:=d m;show ck ρ h _<|bif f q.1 x then(q.1,a)::l else q::bj f l x a;unfold stored at d⊢;refine Rr List.any_cons<|Rr List.map_cons<|Rr List.cons_append ?_;by_cases z:p.1=x;·rw[i.mpr<|c.1▸z,decide_eq_true z,Bool.true_or,if_pos rfl,if_pos z];refine .cons ⟨c.1,j⟩ ?_;haveI u:b.map (λe=>if e.1=x then(e.1,v)else e)=b:=(List.map_congr_left λy o=>if_neg λw=>r<|List.mem_map.mpr ⟨y,o,w.trans z.symm⟩).trans<|List.map_id' _;refine Rr u ?_;exact hp
    · rw[i.ne λw=>z<|c.1.trans w,decide_eq_false z,Bool.false_or,if_neg z];by_cases k:b.any λe=>e.1=x=true;·rw[if_pos k]at d⊢;exact .cons c d
      ·rw[if_neg k]at d⊢;exact .cons c d
abbrev Bu(ρ:aB)(h:Heap):List (Value×Value)->List (AV×AV)->Prop:=aL λp q=>RV ρ h p.1 q.1/\RV ρ h p.2 q.2
theorem DY(hp:Bu ρ h vs as):∀{c:List<|Int×AV},rX as=some c->∃b,Carries (intKind prog w) vs b/\ck ρ h b c:=by induction hp with|nil=>intro c e;haveI e:=sI e;subst e;exact⟨[],trivial,.nil⟩|@cons p q vs as a _ l=>intro c e;obtain⟨o,j⟩:=p;obtain⟨m,u⟩:=q;cases m with|int i=>obtain⟨r,g,rfl⟩:=P6 e;obtain⟨t,rfl⟩:=a.1.inv;obtain⟨b,f,n⟩:=l g;exact⟨(i,j)::b,⟨intKind_is _ _ _ _,rfl,f⟩,.cons ⟨rfl,a.2⟩ n⟩|_=>injection e
theorem DZ(hp:Bu ρ h vs as):∀{c:List<|Str×AV},rY as=some c->∃b,Carries (strKind prog w) vs b/\ck ρ h b c:=by induction hp with|nil=>intro c e;haveI e:=sI e;subst e;exact⟨[],trivial,.nil⟩|@cons p q vs as a _ l=>intro c e;obtain⟨o,j⟩:=p;obtain⟨m,u⟩:=q;cases m with|str i=>obtain⟨r,g,rfl⟩:=P6 e;obtain⟨t,rfl⟩:=a.1.inv;obtain⟨b,f,n⟩:=l g;exact⟨(i,j)::b,⟨strKind_is _ _ _ _,rfl,f⟩,.cons ⟨rfl,a.2⟩ n⟩|_=>injection e
def g8(G:cB)(ρ:aB)(h:Heap)(d:Addr):AO->Prop|.edict=>h.get? d=some emptyDict|.idict l=>∃kvs,h.DictOf (intKind G.prog G.w) d kvs/\ck ρ h kvs l|.sdict l=>∃kvs,h.DictOf (strKind G.prog G.w) d kvs/\ck ρ h kvs l|_=>False
theorem g8.conc(c:g8 G ρ h d o):bF G ρ h (d,d) o:=by cases o with|edict=>exact⟨rfl,c⟩|idict l=>exact⟨rfl,c⟩|sdict l=>exact⟨rfl,c⟩|_=>exact c.elim
theorem g8.mv(c:g8 G ρ h d o)(g:aY ρ h ρ' h')(k:∀j,h.get? d=some j->h'.get? d=some j):g8 G ρ' h' d o:=by cases o with|edict=>exact k _ c|idict l=>obtain⟨a,⟨o,f,i,e,r⟩,x⟩:=c;exact⟨a,⟨o,f,i,k o e,r⟩,x.mv g⟩|sdict l=>obtain⟨a,⟨o,f,i,e,r⟩,x⟩:=c;exact⟨a,⟨o,f,i,k o e,r⟩,x.mv g⟩|_=>exact c.elim
theorem wo:NT ⟨.type "dict",d,.dict b n,c⟩:=.inr λa a q=>by injection q
theorem g8.obj(c:g8 G ρ h d o):∃g,h.get? d=some g/\NT g:=by cases o with|edict=>exact⟨_,c,wo⟩|idict l=>refine cps λm a=>?_;obtain⟨f,⟨o,n,j,e,b,_⟩,x⟩:=c;refine a ?_;exact⟨o,e,.inl<|by rw[b.1];simp⟩|sdict l=>refine cps λm a=>?_;obtain⟨f,⟨o,n,j,e,b,_⟩,x⟩:=c;refine a ?_;exact⟨o,e,.inl<|by rw[b.1];simp⟩|_=>exact c.elim
theorem wt(b:ax B)(hV:eM B loc V)(X:Kx B loc x E)(F:D.length<=15)(hl:D.length=vs.length)(z:D.all Option.isSome=true)(Z:At B loc ρ σ s){k:AO->AS->Cd}(H:B.H<|kc V D vs σ (λl σ=>bb (pO (lY D) l) λo=>k o σ) x)(K:∀d ρ' σ' s' o,s.heap.get? d=none->ρ' (d,d) .pv->St B.G ρ' σ' s'->bq ρ s.heap ρ' s'.heap->g8 B.G ρ' s'.heap d o->B.H (k o σ')->Q (.ref d) s'):B.wp (eval (.Dict D vs pos) B.env) Q E s:=by refine(Z.st.newP (X:=No) (o:=emptyDict) rfl wo).elim λA y=>?_;cases D with
 |nil=>cases vs with|nil=>exact wpAny_Dict_empty<|K _ _ σ {s with heap:=s.heap.push emptyDict} .edict (cC _) aB.new A y (Qq _ rfl) H|cons=>injection hl
 |cons k0 P=>
 haveI v:=Z.keep b y A;haveI N:(s.heap.push emptyDict).get? s.heap.objs.size=some emptyDict:=Qq _ rfl;haveI fin:∀{a j i h' M o},At B loc a j i->bq (ρ.add (s.heap.objs.size,s.heap.objs.size) .pv) (s.heap.push emptyDict) a i.heap->Heap.SameBut s.heap.objs.size i.heap h'->(∃o,h'.get? s.heap.objs.size=some o)->(aY a i.heap a h'->g8 B.G a h' s.heap.objs.size o)->B.H (k o j)->Q (.ref s.heap.objs.size) {i with heap:=h',toks:=M}:=λ{a j i h' M o}n m C he c f=>by haveI e:=(m.pv (_,_) _ id aB.new N).1;haveI g:=n.st.growC e (.inl rfl) C.extBut;exact K _ a j {i with heap:=h',toks:=M} o (cC _) e (n.st.pvc e C.extBut M (c g).obj) ((y.trans m).pvc g C.extBut he<|.inl<|cC _) (c g) f
 cases hz:lY<|k0::P with|true=>
  rw[hz]at H;refine wpAny_Dict_walk (knd:=strKind B.G.prog B.G.w) z hl nofun F<|vF b hV X _ vs hl v H λa j i ps L n m hp U f=>b.opt f λo p f=>?_;rcases L with _|⟨q,L⟩;·injection U
  ·obtain⟨r,O,p⟩:=P5 p;obtain⟨T,p⟩:=a6 p;haveI p:=sI p;subst p;obtain⟨u,W,J⟩:=DZ hp O;refine⟨u,W,j0 (m.pv (_,_) _ id aB.new N).2 _,λh' t C=>fin (o:=.sdict r) n m C (by obtain⟨o,_,_,k,_⟩:=t;exact⟨o,k⟩) (λg=>⟨u,merged_nil_of_nodup _ (Rr J.keys<|qN fg T)▸t,J.mv g⟩) f⟩|false=>
  rw[hz]at H;refine wpAny_Dict_walk (knd:=intKind B.G.prog B.G.w) z hl nofun F<|vF b hV X _ vs hl v H λa j i ps L n m hp U f=>b.opt f λo p f=>?_;rcases L with _|⟨q,L⟩;·injection U
  ·obtain⟨r,O,p⟩:=P5 p;obtain⟨T,p⟩:=a6 p;haveI p:=sI p;subst p;obtain⟨u,W,J⟩:=DY hp O;refine⟨u,W,j0 (m.pv (_,_) _ id aB.new N).2 _,λh' t C=>fin (o:=.idict r) n m C (by obtain⟨o,_,_,k,_⟩:=t;exact⟨o,k⟩) (λg=>⟨u,merged_nil_of_nodup _ (Rr J.keys<|qN ku T)▸t,J.mv g⟩) f⟩
theorem At.reg(b:ax B)(Z:At B loc ρ σ s)(A:s.heap.get? d=none)(e:ρ' (d,d) .pv)(l:St B.G ρ' σ' s')(C:bq ρ s.heap ρ' s'.heap)(c:aY ρ' s'.heap (ρ'.re d<|some<|.ref r n) s'.heap->bF B.G (ρ'.re d<|some<|.ref r n) s'.heap (d,d) o)(y:nx σ' r=some n):At B loc (ρ'.re d<|some<|.ref r n) (nw σ' r o) s'/\bq ρ s.heap (ρ'.re d<|some<|.ref r n) s'.heap/\RV (ρ'.re d<|some<|.ref r n) s'.heap (.ref d) (.ref r n):=by
  obtain⟨v,w,m⟩:=y2 y;haveI f:=C.re (l.growR (T:=some<|.ref r n) e)<|.inr A;refine⟨Z.keep b f<|l.re e (λj i o' q=>?_) (λj i o' q=>?_) λg t q=>?_,f,.ref (p:=(d,d))<|.inr ⟨rfl,rfl⟩⟩
  · by_cases z:j=r/\i=n;·exact .inl<|Rr z.1<|Rr z.2 rfl
    ·exact .inr<|Rl (m j i z) q
  · have z:¬(j=r/\i=n):=λz=>by rw[z.1,z.2,v]at q;injection q
    exact⟨(m j i z).trans q,λq=>z<|by cases q;exact⟨rfl,rfl⟩⟩
  ·haveI q:=sI q;subst q;exact⟨o,w,c g⟩
theorem Fc(b:ax B)(hV:eM B loc V)(X:Kx B loc x E)(j:i.length<=15)(hl:i.length=vs.length)(f:i.all Option.isSome=true)(Z:At B loc ρ σ s)(H:B.H<|kc V i vs σ (λl σ=>bb (pO (lY i) l) λo=>bb (TP.rg pos.line pos.col) λr=>bb (nx σ r) λn=>k (.ref r n)<|nw σ r o) x)(K:Kv B loc ρ s k Q):B.wp (eval (.Dict i vs pos) B.env) Q E s:=wt b hV X j hl f Z H λd ρ' σ' s' o y e t z c a=>b.opt a λr p a=>b.opt a λn v a=>by obtain⟨A,w,u⟩:=Z.reg b y e t z (λg=>(c.mv g λp q=>q).conc) v;exact K _ _ s' _ _ A w u a
theorem Fd(b:ax B)(hV:eM B loc V)(A:z5 B V)(X:Kx B loc x E)(hl:p.length<=64)(Z:At B loc ρ σ s)(H:B.H<|fN V p σ (λvs σ=>match TP.rg pos.line pos.col with|none=>k (.fl vs) σ|some r=>bb (nx σ r) λn=>k (.ref r n)<|nw σ r<|.list vs) x)(K:Kv B loc ρ s k Q):B.wp (eval (.List p pos) B.env) Q E s:=by
 refine wpAny_List<|iJ b hV A X p Z H λj i f vs as d c q t a=>⟨by refine Rr q.len<|Rr t ?_;delta sizeLine;omega,?_⟩;revert a;rcases TP.rg pos.line pos.col with _|r;·exactλa=>xk b d q λs' v z y r=>K j i s' v _ z (c.trans y) r a
 ·refineλa=>b.opt a λn t a=>?_;obtain⟨l,m⟩:=d.newL b (o:=.list as) t rfl λg e=>⟨rfl,_,⟨_,e⟩,q.mv g⟩;exact K _ _ {f with heap:=f.heap.push {cls:=.type "list",data:=.seq vs.toArray}} _ _ l (c.trans m) (.ref aB.new) a
end
section
variable{B:Bx}{ρ ρ':aB}{σ σ':AS}{h h':Heap}{s s':Shared}{loc:aq}{E:Value->Shared->Prop}{Q:Value->Shared->Prop}{V:Expr->AS->KV->KV->Cd}{k x:KV}
def PV(ρ:aB)(h:Heap)(v:Value):Option AV->Prop|none=>v=.none|some a=>RV ρ h v a
theorem PV.mv(g:aY ρ h ρ' h')(r:PV ρ h v a):PV ρ' h' v a:=by
 rcases a with _|a;·exact r
 ·exact RV.mv g r
theorem wu(b:ax B)(hV:eM B loc V)(X:Kx B loc x E){k:Option AV->AS->Cd}(Z:At B loc ρ σ s)(H:B.H<|mx V e σ k x)(K:∀ρ' σ' s' v a,At B loc ρ' σ' s'->bq ρ s.heap ρ' s'.heap->PV ρ' s'.heap v a->B.H (k a σ')->Q v s'):B.wp (evalPart e B.env) Q E s:=by
 rcases e with _|e;·exact wpAny_pure<|K ρ σ s .none none Z .rfl rfl H
 ·exact hV e ρ σ s _ x _ E Z H (λρ' σ' s' v a g f r=>K ρ' σ' s' v (some a) g f r) X
theorem CE{T id:String}(hl:typeLookup (.type T) "__getitem__"=pure (some<|.builtin id))(h:B.wp (eval a B.env) (λo c=>B.wp (eval (.Slice f e none p) B.env) (λi s₂=>s₂.TypeIs o T/\B.wp (getItem o i) Q E s₂) E c) E s):B.wp (eval (.Subscript a (.Slice f e none p) pos) B.env) Q E s:=by refine wpAny_bind<|wpAny_mono h (λo c m=>wpAny_bind<|wpAny_holding<|wpAny_mono m (λi s₂ b=>wpAny_bind<|wpAny_standAt ?_) λg g x=>x) λg g x=>x;haveI fin:B.wp (operate [i,o]<|getItem o i) (λr d=>B.wp (letTemporaryGo a o r>>=λg=>pure r) Q E d) E s₂:=wpAny_operating<|wpAny_mono b.2 (λr d j=>wpAny_bind<|wpAny_letTemporaryGo<|wpAny_pure j) λg g x=>x;first|(refine wpAny_bind ?_;refine wpAny_bind<|wpAny_specialOf b.1 hl ?_;exact wpAny_pure<|wpAny_bind fin)|(refine wpAny_bind<|wpAny_specialOf b.1 hl ?_;exact wpAny_bind<|wpAny_pure<|wpAny_bind fin)
theorem Di(vs:Array Value)(n:Nat):slicePick vs none (some n) none=(vs.toList.take n).toArray:=slicePick_upto' vs n
theorem Dj(vs:Array Value)(n:Nat):slicePick vs (some n) none none=(vs.toList.drop n).toArray:=slicePick_from' vs n
theorem uV(b:ax B)(Z:At B loc ρ σ s)(hl:s.heap.PlainList t vs)(w:aU ρ s.heap vs.toList l)(p:PV ρ s.heap j C)(y:PV ρ s.heap g q)(H:B.H<|.av ((kI l C q).map .fl) λv=>k v σ)(K:Kv B loc ρ s k Q):B.wp (getItem (.ref t)<|.ref s.heap.objs.size) Q E {s with heap:=s.heap.push {cls:=.type "slice",data:=.fields #[j,g,.none]}}:=by
 refine b.av H λa e H=>?_;obtain⟨ys,e1,rfl⟩:=P6 e;obtain⟨I,d⟩:=a6 e1;clear e e1;haveI f:vs.size<=sizeLine:=by refine Rr w.size ?_;exact jZ I
 haveI o:=cw s.heap {cls:=.type "slice",data:=.fields #[j,g,.none]};haveI c:=Z.grow b o s.toks;have fin:∀{n:Nat}{A:List Value},n=s.heap.objs.size+1->aU ρ (s.heap.push {cls:=.type "slice",data:=.fields #[j,g,.none]}) A ys->Q (.ref n) {s with heap:=(s.heap.push {cls:=.type "slice",data:=.fields #[j,g,.none]}).push {cls:=.type "list",data:=.seq A.toArray}}:=λm G=>by haveI:=xk b c G λs' v F D r=>K ρ σ s' v _ F ((bz.grow o).trans D) r H;rw[Heap.size_push]at this;refine Rr m ?_;exact this
 rcases C with _|z;·obtain rfl:j=.none:=p;clear H;cases q with|none=>injection d|some z=>clear H;cases z with|int i=>clear c;obtain⟨u,rfl⟩:=RV.inv y;obtain⟨n,m,rfl⟩:=P6 d;clear y d;obtain rfl:=l6 m;refine wpAny_getItem_list_slice (hl.isList.push _) (Heap.IsSliceOf.new ..) .none (.int _ u) .none (by simp) ?_ f;rw[Di];exact fin (by rw[Heap.size_push])<|(w.mv<|.grow o).take _|_=>injection d
 ·clear H;cases z with
  |int i=>clear H;cases q with|none=>obtain rfl:g=.none:=y;clear c;obtain⟨u,rfl⟩:=RV.inv p;obtain⟨n,m,rfl⟩:=P6 d;clear p d;obtain rfl:=l6 m;refine wpAny_getItem_list_slice (hl.isList.push _) (Heap.IsSliceOf.new ..) (.int _ u) .none .none (by simp) ?_ f;rw[Dj];exact fin (by rw[Heap.size_push])<|(w.mv<|.grow o).drop _|some=>injection d
  |_=>injection d
theorem D0(b:ax B)(hV:eM B loc V)(X:Kx B loc x E)(Z:At B loc ρ σ s)(H:B.H<|V a σ (λv σ=>mx V lo σ (λa σ=>mx V hi σ (λc σ=>dE v a c σ k) x) x) x)(K:Kv B loc ρ s k Q):B.wp (eval (.Subscript a (.Slice lo hi none p) pos) B.env) Q E s:=by refine CE list_getitem_lookup<|hV a ρ σ s _ x _ E Z H (λU M s₁ v c I C L n=>?_) X;refine wpAny_Slice<|wu b hV X I n λO W s₂ vl yl D u J m=>wu b hV X D m λT N Y vu yu j f hu d=>wpAny_pure ?_;have J:=J.mv f.g;have L:=(L.mv u.g).mv f.g;have f:=λw y A v c F z=>K w y A v c F<|((C.trans u).trans f).trans z;clear n m;cases c with
 |fl l=>obtain⟨t,vs,rfl,G,_,P⟩:=L.inv;exact⟨(G.isList.push _).typeIs,uV b j G P J hu d f⟩|ref r i=>obtain⟨q,rfl,e⟩:=L.inv;refine b.ao d λo ho d=>?_;cases o with|list l=>refine cps λG_ g_=>?_;obtain⟨_,vs,G,P⟩:=bF.at_ j e ho;refine g_ ?_;exact⟨(G.isList.push _).typeIs,uV b j G P J hu d f⟩|_=>exact b.no d
 |_=>exact b.no d
def dY(ρ:aB)(h:Heap)(I:Addr)(l:List AV)(n:Nat):Prop:=(∃t vs,h.IsTupleIter I t n/\IsTup h t vs/\aU ρ h vs.toList l)\/(∃t vs,h.IsListIter I t n/\h.PlainList t vs/\¬bA ρ t/\aU ρ h vs.toList l)\/∃(f:Nat->Int)(m:Nat)(c:Int),IsRangeIter h I (f n) ((m:Int)-n) c/\(∀i,f (i+1)=f i+c)/\l.length=m/\∀i,i<m->aa l i=some (.int<|f i)
theorem dY.mv(x:dY ρ h I l n)(g:aY ρ h ρ' h')(e:∀o,h.get? I=some o->h'.get? I=some o):dY ρ' h' I l n:=by
 rcases x with⟨t,vs,⟨o,i,r⟩,d,a⟩|⟨t,vs,⟨o,i,r⟩,⟨m,d⟩,no,a⟩|⟨f,m,c,a,j⟩;·exact .inl ⟨t,vs,⟨o,e _ i,r⟩,g.tup _ _ d,a.mv g⟩
 ·exact .inr<|.inl ⟨t,vs,⟨o,e _ i,r⟩,⟨m,(g.hid _ _ d no).2⟩,(g.hid _ _ d no).1,a.mv g⟩
 ·exact .inr<|.inr ⟨f,m,c,e _ a,j⟩
theorem nk(x:dY ρ h I l n):∃o vs,h.get? I=some o/\o.data=.fields vs/\(o.cls=.type "tuple_iterator"\/o.cls=.type "list_iterator"\/o.cls=.type "range_iterator"):=by
 rcases x with⟨t,vs,⟨o,e,a,b⟩,_⟩|⟨t,vs,⟨o,e,a,b⟩,_⟩|⟨f,m,c,d,_⟩;·exact⟨o,_,e,b,.inl a⟩
 ·exact⟨o,_,e,b,.inr<|.inl a⟩
 ·exact⟨_,_,d,rfl,.inr<|.inr rfl⟩
theorem nI(x:dY ρ h I l n):∃o,h.get? I=some o/\NT o:=by obtain⟨o,vs,c,b,_⟩:=nk x;exact⟨o,c,.inr λvs n q=>by rw[b]at q;injection q⟩
theorem wx(J:A.handled=none)(Z:St G ρ σ s)(e:ρ (I,I) .pv)(x:dY ρ s.heap I l n){Q:Option Value->Shared->Prop}(T:∀a,aa l n=some a->∀h' z v,Heap.ExtBut I s.heap h'->aY ρ s.heap ρ h'->St G ρ σ {s with heap:=h',toks:=z}->dY ρ h' I l (n+1)->RV ρ h' v a->Q (some v) {s with heap:=h',toks:=z})(L:aa l n=none->∀h',Heap.ExtBut I s.heap h'->Q none {s with heap:=h'}):wpAny (model G.prog G.w) A (pyNext<|.ref I) Q E s:=by
  have C:∀{h' z v a},aa l n=some a->Heap.ExtBut I s.heap h'->(aY ρ s.heap ρ h'->dY ρ h' I l (n+1))->(aY ρ s.heap ρ h'->RV ρ h' v a)->Q (some v) {s with heap:=h',toks:=z}:=λ{h' z v a}O i N D=>by haveI g:=Z.growC e (.inl rfl) i;exact T a O h' z v i g (Z.pvc e i z<|nI<|N g) (N g)<|D g
  have M:aa l n=none->l.length<=n:=λq=>by rw[gz]at q;exact List.getElem?_eq_none_iff.mp q
  cases j:aa l n with|some a=>
    rcases x with⟨t,vs,b,o,u⟩|⟨t,vs,b,o,no,u⟩|⟨f,m,c,b,K,H,hl⟩;·refine cps λU P=>?_;obtain⟨v,D,y⟩:=u.at' j;refine P ?_;refine wpAny_pyNext_tuple_item b o D λh' d i=>?_;exact C j i.extBut (λg=>.inl ⟨t,vs,d,g.tup _ _ o,u.mv g⟩) λg=>y.mv g
    ·obtain⟨v,D,y⟩:=u.at' j;refine wpAny_pyNext_list_item b o.isList D λh' d i=>?_;exact C j i.extBut (λg=>.inr<|.inl ⟨t,vs,d,o.elim λm o=>⟨m,(g.hid _ _ o no).2⟩,no,u.mv g⟩) λg=>y.mv g
    ·have F:=dD j;rw[hl n<|H▸F]at j;refine wpAny_pyNext_range_item b (by lia) λh' d i=>C (sI j▸hl n (H▸F)) i.extBut (λg=>.inr<|.inr ⟨f,m,c,?_,K,H,hl⟩) λg=>sI j▸.int _ _;rw[<-K n,show m-n-1=m-(n+1:Int)by push_cast;lia]at d;exact d|none=>
    have F:=M j;rcases x with⟨t,vs,b,o,u⟩|⟨t,vs,b,o,no,u⟩|⟨f,m,c,b,K,H,hl⟩;·exact wpAny_pyNext_tuple_end J b o (Array.getElem?_eq_none<|by refine Rr u.size ?_;exact F) λh' i=>L j h' i
    ·exact wpAny_pyNext_list_end J b o.isList (Array.getElem?_eq_none<|by refine Rr u.size ?_;exact F) λh' i=>L j h' i
    ·exact wpAny_pyNext_range_end J b (by lia) λh' i=>L j h' i
theorem ve:∀(n:Nat)(a:Int)(i:Nat),i<n->aa (d9 a n) i=some (.int<|a+i)|n+1,a,0,_=>by refine ?_;exact Rr (show a+0=a by lia) rfl|n+1,a,i+1,h=>by refine ?_;exact Rr (ve n (a+1) i<|Nat.lt_of_succ_lt_succ h)<|Rr (show a+1+i=a+(i+1)by push_cast;lia) rfl
theorem vf:∀(n:Nat)(a:Int)(i:Nat),i<n->aa (iO a n) i=some (.int<|a-i)|n+1,a,0,_=>by refine ?_;exact Rr (show a-0=a by lia) rfl|n+1,a,i+1,h=>by refine ?_;exact Rr (vf n (a-1) i<|Nat.lt_of_succ_lt_succ h)<|Rr (show a-1-i=a-(i+1)by push_cast;lia) rfl
theorem vg:∀(n:Nat)(a:Int),(d9 a n).length=n|0,_=>rfl|n+1,a=>congrArg (λc=>c+1)<|vg n<|a+1
theorem vh:∀(n:Nat)(a:Int),(iO a n).length=n|0,_=>rfl|n+1,a=>congrArg (λc=>c+1)<|vh n<|a-1
theorem Dk:Builtin.Range.rangeSize a b 1=(b-a).toNat:=by delta Builtin.Range.rangeSize;split<;>lia
theorem vi:Builtin.Range.rangeSize a b (-1)=(a-b).toNat:=by delta Builtin.Range.rangeSize;split<;>lia
theorem wy(Z:St G ρ σ s)(j:RV ρ s.heap v a)(e:iter a=some (.fl l))(M:∀b,(∀{X:Addr->Prop},bz X ρ s.heap (ρ.add (s.heap.objs.size,s.heap.objs.size) .pv)<|s.heap.push b)->St G (ρ.add (s.heap.objs.size,s.heap.objs.size) .pv) σ {s with heap:=s.heap.push b}->dY (ρ.add (s.heap.objs.size,s.heap.objs.size) .pv) (s.heap.push b) s.heap.objs.size l 0->Q (.ref s.heap.objs.size) {s with heap:=s.heap.push b}):wpAny (model G.prog G.w) A (pyIter v) Q E s:=by
  have n:∀b,b.isFreed=false->NT b->(aY ρ s.heap (ρ.add (s.heap.objs.size,s.heap.objs.size) .pv) (s.heap.push b)->(s.heap.push b).get? s.heap.objs.size=some b->dY (ρ.add (s.heap.objs.size,s.heap.objs.size) .pv) (s.heap.push b) s.heap.objs.size l 0)->Q (.ref s.heap.objs.size) {s with heap:=s.heap.push b}:=λb p H L=>by have K:=λX=>(Z.newP (X:=X) p H).2;exact M b (K _) (Z.newP (X:=No) p H).1<|L (K No).g<|Qq _ p
  cases a with|tup J=>obtain⟨t,vs,rfl,c,d⟩:=j.inv;cases e;exact wpAny_pyIter_tuple c<|n _ rfl (.inl<|by simp) λg q=>.inl ⟨t,vs,⟨_,q,rfl,rfl⟩,g.tup _ _ c,d.mv g⟩|fl J=>obtain⟨t,vs,rfl,c,no,d⟩:=j.inv;cases e;exact wpAny_pyIter_list c.isList<|n _ rfl (.inl<|by simp) λg q=>.inr<|.inl ⟨t,vs,⟨_,q,rfl,rfl⟩,c.elim λm c=>⟨m,(g.hid _ _ c no).2⟩,c.elim λm c=>(g.hid _ _ c no).1,d.mv g⟩|rng x y z=>
    obtain⟨r,t,u,w,rfl,d,_⟩:=j.inv;haveI C:=(gC e).1;haveI e:=(gC e).2;obtain⟨F,I⟩:=MK (by simpa using C);haveI F:=y5 F;haveI I:=y5 I;by_cases o:z=1
    ·subst o;cases e;refine wpAny_pyIter_range d (small_one (by lia) (by lia) (by lia)<|by lia)<|n _ rfl (.inl<|by simp) λg q=>.inr<|.inr ⟨λi=>x+i,(y-x).toNat,1,?_,λi=>by push_cast;lia,vg _ _,ve _ _⟩;rw[Dk]at q⊢;simpa using q
    · rw[if_neg o]at e;clear j o;obtain⟨rfl,e⟩:=a6 e;cases e;refine wpAny_pyIter_range d ?_<|n _ rfl (.inl<|by simp) λg q=>.inr<|.inr ⟨λi=>x-i,(x-y).toNat,-1,?_,λi=>by push_cast;lia,vh _ _,vf _ _⟩
      ·delta Builtin.Range.small;refine Rr vi ?_;simp only[Builtin.Range.rangeFitsLong,Bool.and_eq_true,Bool.or_eq_true,decide_eq_true_eq,show¬-1>0 by decide,if_false];refine⟨⟨⟨⟨?_,?_⟩,?_⟩,?_⟩,.inr ?_⟩<;>(constructor<;>lia)
      ·rw[vi]at q⊢;simpa using q|_=>injection e
end
section
variable{env:Env}{c:Ctx}
theorem CU(env:Env)(d:List<|Str×NameKind):∀(f:List<|Str×Addr),(∀p∈d,p.2=.free->∃a,env.cells.lookup p.1=some a)->∃i,forIn d f (λ(x:Str×NameKind)B=>match x with|(name,l)=>(if(l==NameKind.free)=true then do let a<-cellOf env name;pure<|.yield<|(name,a)::B else pure<|.yield B:Sem<|ForInStep<|List<|Str×Addr))=pure i/\(∀x a,(x,a)∈i->(x,a)∈f\/env.cells.lookup x=some a)/\(∀p∈d,p.2=.free->∃a,(p.1,a)∈i)/\∀q∈f,q∈i:=by induction d with|nil=>exactλf H=>⟨f,rfl,λx a h=>.inl h,λp hp=>(nomatch hp),λq s=>s⟩|cons p r D=>
    intro f h;obtain⟨n,k⟩:=p;by_cases w:k=.free
    · subst w;refine cps λF u=>?_;obtain⟨a,E⟩:=h (n,.free) (.head _) rfl;obtain⟨i,v,y,z,m⟩:=D ((n,a)::f) λp hp=>h p<|.tail _ hp;refine u ?_;refine⟨i,?_,λx b G=>?_,λp hp o=>?_,λq s=>m q<|.tail _ s⟩
      · rw[List.forIn_cons];haveI e:cellOf env n=pure a:=by delta cellOf;exact Rr E rfl
        simp only[e];exact v
      · rcases y x b G with q|q
        · rcases P7 q with q|q;·cases q;exact .inr E
          ·exact .inl q
        ·exact .inr q
      · rcases P7 hp with rfl|hp;·exact⟨a,m _<|.head _⟩
        ·exact z p hp o
    · refine cps λF u=>?_;obtain⟨i,v,y,z,m⟩:=D f λp hp=>h p<|.tail _ hp;refine u ?_;refine⟨i,?_,y,λp hp o=>?_,m⟩
      · rw[List.forIn_cons];haveI:(k==NameKind.free)=false:=by simpa using w
        simp only[this];exact v
      · rcases P7 hp with rfl|hp;·exact absurd o w
        ·exact z p hp o
theorem CV(h:∀p∈sc.names,p.2=.free->∃a,env.cells.lookup p.1=some a):∃f,closureFor sc env=pure f/\∀x,(x,NameKind.free)∈sc.names->f.lookup x=env.cells.lookup x:=by
 obtain⟨f,n,s,t,_⟩:=CU env sc.names [] h;refine⟨f,?_,λx o=>?_⟩;·show(forIn sc.names [] (λ(x:Str×NameKind)i=>match x with|(name,g)=>(if(g==NameKind.free)=true then do let a<-cellOf env name;pure<|.yield<|(name,a)::i else pure<|.yield i:Sem<|ForInStep<|List<|Str×Addr))>>=λi=>pure i)=pure f;refine Rr n ?_;rfl
 ·refine(t (x,.free) o rfl).elim λa r=>?_;cases e:f.lookup x with|none=>exact absurd (List.lookup_eq_none_iff.mp e (x,a) r)<|by simp|some b=>
   obtain⟨l₁,k,hl,_⟩:=List.lookup_eq_some_iff.mp e;rcases s x b<|by refine Rr hl ?_;simp with q|q;·cases q
   ·exact q.symm
theorem D1(a:env.scope=c.sc)(d:env.scope.kind=.function):relabel sc env=gY sc c.sc:=by
 delta relabel gY;congr 1;apply List.map_congr_left;rintro⟨n,k⟩_;haveI e:∀o:Option NameKind,iE o=(o==some .cell):=λo=>by
  rcases o with _|k;·rfl
  ·cases k<;>rfl
 rw[e,gE];simp only[Env.kindOf];simp[<-a,d]
theorem k9{p:Str->Bool}(l:aq):aP sF (l.filter λq=>p q.1) x=some a->aP sF l x=some a/\p x=true:=by induction l with|nil=>exact by intros;contradiction|cons q r g=>haveI e1:aP sF (q::r) x=bif sF q.1 x then some q.2 else aP sF r x:=rfl;intro h;cases hp:p q.1 with
  |true=>rw[List.filter_cons_of_pos (p:=λq:Str×AV=>p q.1) hp]at h;haveI h:(bif sF q.1 x then some q.2 else aP sF (r.filter λq=>p q.1) x)=some a:=h;refine Rr e1 ?_;cases e:sF q.1 x with|true=>rw[e]at h;exact⟨h,Rl (cI.mp e) hp⟩|false=>rw[e]at h;exact g h
  |false=>rw[List.filter_cons_of_neg<|by refine Rr hp ?_;nofun]at h;obtain⟨i,f⟩:=g h;refine⟨?_,f⟩;refine Rr e1<|Rr (Bool.eq_false_iff.mpr λe:sF q.1 x=true=>by rw[<-cI.mp e,hp]at f;exact fT f) ?_;exact i
theorem CW(e:je o=true):o=some .free:=jj e
theorem lh(e:j7 o=true):o=some .local:=jj e
end
structure fE(G:cB)(ρ₁:aB)(h₁:Heap)(I D C:Addr)(l:List AV)(ρ:aB)(σ:AS)(s:Shared)(n:Nat)(acc:List AV)(ys:Array Value)(m:Str->Option Value):Prop where
 st:St G ρ σ s
 kp:bq ρ₁ h₁ ρ s.heap
 tI:ρ (I,I) .pv
 tD:ρ (D,D) .pv
 tC:ρ (C,C) .pv
 it:dY ρ s.heap I l n
 pl:s.heap.PlainList D ys
 acc:aU ρ s.heap ys.toList acc
 ns:s.heap.Ns C m
section
variable{B:Bx}{G:cB}{ρ ρ' ρ₁:aB}{σ σ':AS}{h h' h₁:Heap}{s s':Shared}{loc:aq}{E:Value->Shared->Prop}{Q:Value->Shared->Prop}{k x:KV}{I D C:Addr}{l acc acc':List AV}{n n':Nat}{ys ys':Array Value}{m m':Str->Option Value}
theorem js(x:h.Ns C m)(k:∀o,h.get? C=some o->h'.get? C=some o):h'.Ns C m:=by obtain⟨o,b,c,e,r⟩:=x;exact⟨o,b,c,k o e,r⟩
theorem ki(x:h.PlainList D ys)(k:∀o,h.get? D=some o->h'.get? D=some o):h'.PlainList D ys:=x.elim λn e=>⟨n,k _ e⟩
theorem fE.keep(x:fE G ρ₁ h₁ I D C l ρ σ s n acc ys m)(K:bq ρ s.heap ρ' s'.heap)(c:St G ρ' σ' s'):fE G ρ₁ h₁ I D C l ρ' σ' s' n acc ys m:=haveI k:=λ{J}e o q=>(K.pv (J,J) o id e q).2
 haveI t:∀{J},ρ (J,J) .pv->(∃o,s.heap.get? J=some o)->ρ' (J,J) .pv:=λ{J}e q=>q.elim λo q=>(K.pv (J,J) o id e q).1
 ⟨c,x.kp.trans K,t x.tI<|(x.st.conc _ _ x.tI).2.imp λa=>And.left,t x.tD<|(x.st.conc _ _ x.tD).2.imp λa=>And.left,t x.tC<|(x.st.conc _ _ x.tC).2.imp λa=>And.left,x.it.mv K.g<|k x.tI,ki x.pl<|k x.tD,x.acc.mv K.g,js x.ns<|k x.tC⟩
theorem fE.move(x:fE G ρ₁ h₁ I D C l ρ σ s n acc ys m)(e:ρ (J,J) .pv)(i:h₁.get? J=none)(a:Heap.ExtBut J s.heap h')(f:∃o,h'.get? J=some o/\NT o)(b:Nat)(g:dY ρ h' I l n')(hp:h'.PlainList D ys')(p:aU ρ h' ys'.toList acc')(j:h'.Ns C m'):fE G ρ₁ h₁ I D C l ρ σ {s with heap:=h',toks:=b} n' acc' ys' m':=⟨x.st.pvc e a b f,x.kp.pvc (x.st.growC e (.inl rfl) a) a (f.imp λq=>And.left)<|.inl i,x.tI,x.tD,x.tC,g,hp,p,j⟩
theorem CM(x:dY ρ s.heap I l n)(h:Q (.ref I) s):wpAny (model G.prog G.w) A (pyIter<|.ref I) Q E s:=by
 rcases x with⟨t,vs,a,_⟩|⟨i,p,a,_⟩|⟨f,m,c,a,_⟩;·exact wpAny_pyIter_tupleiter a h
 ·exact wpAny_pyIter_listiter a h
 ·exact wpAny_pyIter_rangeiter a h
noncomputable def jB(c:Ctx)(sc:Scope):Ctx:=⟨gY sc c.sc,c.cells.filter λp=>je<|bt sc.names p.1,c.hd,none,false⟩
def eN(B:Bx)(k:Fl->aq->AS->Cd)(x:AV->aq->AS->Cd)(s:S):Prop:=B.P<|match s with|.go fl loc σ=>(k fl loc σ).ev B.cf|.ex e loc σ=>(x e loc σ).ev B.cf|.stuck=>.stuck
theorem sd{k:Fl->aq->AS->Cd}{x:AV->aq->AS->Cd}(H:B.H<|.sub p k x):eN B k x<|p.ev B.cf:=by rw[Bx.H,rf]at H;revert H;cases p.ev B.cf<;>exact id
noncomputable def kR(k:KV):KS:=λfl ξ σ=>match fl with|.ret v=>k v σ|_=>stk
noncomputable def oM:XS:=λξ ξ ξ=>stk
noncomputable def Bx.comp(B:Bx)(k:KV)(sc:Scope)(cl:List<|Str×Addr)(C:Addr):Bx:={B with env:=compEnvC sc cl C B.env,c:=jB B.c sc,lt:=.pv,P:=eN B (kR k) oM}
noncomputable def y6(F:jJ)(Ts:kJ)(c:Ctx)(sc:Scope)(nm:Str)(elt:Expr)(ifs:List Expr)(rest acc:List AV)(σ:AS):Cd:=kf (λloc σ k=>F (jB c sc) loc elt σ k ir) (mU (λloc e σ k x=>Ts (jB c sc) loc e σ k x) ifs) nm rest acc σ
def nJ(B:Bx)(k:KV)(T:List AV->List AV->AS->Cd)(ρ₁:aB)(h₁:Heap)(I D C:Addr)(l:List AV)(n:Nat)(s:Shared):Prop:=∃done rest acc ρ σ ys m,l=done++rest/\n=rest.length/\fE B.G ρ₁ h₁ I D C l ρ σ s done.length acc ys m/\eN B (kR k) oM ((T rest acc σ).ev B.cf)
section
variable{F:jJ}{elt:Expr}{nm:Str}{sc:Scope}{cl:List<|Str×Addr}{v:Value}{a:AV}{σ₁:AS}{s₁:Shared}
theorem wz(b:At B loc ρ₁ σ₁ s₁)(o:∀x,(x,NameKind.free)∈sc.names->cl.lookup x=B.env.cells.lookup x)(e:fE B.G ρ₁ s₁.heap I D C l ρ σ s n acc ys m)(i:m nm=some v)(r:RV ρ s.heap v a):At (B.comp k sc cl C) [(nm,a)] ρ σ s:=by
  refine⟨e.st,b.frs.mv e.kp.g,b.kp.trans e.kp.wk,e.tC,⟨m,e.ns,λy c d=>?_⟩,λy c d=>?_⟩
  · have d:(bif sF nm y then some a else none)=some c:=d;rcases jy d with⟨q,d⟩|⟨_,d⟩;·rw[<-sI d,<-cI.mp q];exact⟨v,i,λM=>r,by intros;contradiction⟩
    ·exact nS d
  · obtain⟨j,t⟩:=k9 (p:=λy=>je<|bt sc.names y) B.c.cells d;obtain⟨ca,w,e1,⟨K,A,J⟩,H,L⟩:=b.cells y c j;have i:(y,NameKind.free)∈sc.names:=by have:=CW t;rw[gE]at this;obtain⟨l₁,u,hl,_⟩:=List.lookup_eq_some_iff.mp this;refine Rr hl ?_;simp
    exact⟨ca,w,(o y i).trans e1,⟨K,(e.kp.g.hid _ _ A H).2,J⟩,(e.kp.g.hid _ _ A H).1,L.mv e.kp.g⟩
theorem Fe(L:ax<|B.comp k sc cl C)(hF:eM (B.comp k sc cl C) [(nm,a)]<|F (jB B.c sc) [(nm,a)])(p:At B loc ρ₁ σ₁ s₁)(M:∀x,(x,NameKind.free)∈sc.names->cl.lookup x=B.env.cells.lookup x)(w:s₁.heap.get? D=none)(J:I≠D)(N:D≠C)(hl:l=done++a::d)(K:fE B.G ρ₁ s₁.heap I D C l ρ σ s (done.length+1) acc ys m)(Z:m nm=some v)(hv:RV ρ s.heap v a)(z:Bool)(H:eN B (kR k) oM<|(bif z then F (jB B.c sc) [(nm,a)] elt σ (λy σ=>.bo (some<|aE acc) λb=>grd b<|T d (acc++[y]) σ) ir else T d acc σ).ev B.cf):if z=true then B.wp (eval elt<|compEnvC sc cl C B.env) (λy q=>B.wp (call (.builtin "list.append") [.ref D,y]) (λi t=>∃m',m'<d.length+1/\nJ B k T ρ₁ s₁.heap I D C l m' t) E' q) E' s else∃m',m'<d.length+1/\nJ B k T ρ₁ s₁.heap I D C l m' s:=by have fin:∀{ρ σ s acc ys m},fE B.G ρ₁ s₁.heap I D C l ρ σ s (done.length+1) acc ys m->eN B (kR k) oM ((T d acc σ).ev B.cf)->∃m',m'<d.length+1/\nJ B k T ρ₁ s₁.heap I D C l m' s:=λC H=>⟨_,Nat.lt_succ_self _,done++[a],d,_,_,_,_,_,hl.trans<|List.append_cons ..,rfl,Rl (Qa (as:=done) (bs:=[a])).symm C,H⟩;cases z with|false=>exact fin K H|true=>refine hF elt ρ σ s _ _ _ E' (wz p M K Z hv) H (λW Y s8 y ay U K8 V j=>?_) λi i i i i i i j=>L.no j;have g:=K.keep K8 U.st;refine L.bo j λz X j=>L.grd j λhz j=>?_;have hf:=(sI X).trans hz;refine wpAny_list_append_plain g.pl (λh9 u f=>?_) (by rw[g.acc.size];have:=gx hf;unfold sizeLine;lia);have A:=g.st.growC g.tD (.inl rfl) f.extBut;exact fin (g.move g.tD w f.extBut (u.elim λn e=>⟨_,e,.inl<|by simp⟩) s8.toks (g.it.mv A λo=>f.extBut _ o J) u (by rw[Array.toList_push];exact(g.acc.mv A).app<|.cons (V.mv A) .nil)<|js g.ns λo=>f.extBut _ o<|Ne.symm N) j
end
theorem Ff(b:ax B){F:jJ}{Ts:kJ}(hF:∀B':Bx,ax B'->∀loc,eM B' loc<|F B'.c loc)(hT:∀B':Bx,ax B'->∀loc,sT B' loc<|Ts B'.c loc)(hhd:B.c.hd=false)(hset:ke V=false)(P:xg sc B.c.sc B.c.cells Y=true)(Z:At B loc ρ σ s)(H:B.H<|F B.c loc V σ (λv σ=>tR v λl=>.sub (kf (λloc σ k=>F (jB B.c sc) loc elt σ k ir) (mU (λloc e σ k x=>Ts (jB B.c sc) loc e σ k x) ifs) Y l [] σ) (λfl M σ=>match fl with|.ret v=>k v σ|_=>stk) λM M M=>stk) x)(K:Kv B loc ρ s k Q)(X:Kx B loc x E):B.wp (eval (.ListComp elt [⟨.Name Y px,V,ifs,0⟩] sc pos) B.env) Q E s:=by
  have hh:=b.hd hhd;refine cps λG_ g_=>?_;refine(MK P).elim λP hfun=>?_;refine(MK P).elim λP hx=>?_;refine(MK P).elim λP hnames=>?_;refine(MK P).elim λok1 ok2=>?_;have hx:=lh hx;have hnm:=λy hy=>List.all_eq_true.mp hnames y hy;have hcell:∀y∈sc.names,y.2≠.cell:=λy hy q=>by have:=hnm y hy;unfold oF at this;rw[q]at this;injection this
  have hloc:∀y∈sc.names,y.2=.local->sc.names.lookup y.1=some .local:=λy hy q=>by have:=hnm y hy;unfold oF at this;rw[q]at this;rw[<-gE];exact lh this
  refine(lB ok1).elim λξ ζ0=>ζ0.elim λξ ζ1=>ζ1.elim λJ ξ=>?_;refine(CV λy hy q=>by have:=hnm y hy;unfold oF at this;rw[q]at this;refine(Option.isSome_iff_exists.mp this).elim λa ha=>?_;refine(Z.cells y.1 a ha).elim λca ζ0=>ζ0.elim λv ζ1=>ζ1.elim λe1 ξ=>?_;exact⟨ca,e1⟩).elim λcl ζ0=>ζ0.elim λhclos hcl=>?_;refine g_ ?_;clear g_;have hs:∀v,foldedSetIterable V B.env v=pure v:=λv=>by clear H;cases V<;>first|rfl|injection hset
  have hrel:relabel sc B.env=gY sc B.c.sc:=D1 b.sc b.fn;refine wpAny_comprehension_free rfl hs hclos J hloc<|hF B b loc V ρ σ s _ x _ E Z H (λρ₁ σ₁ f v a p K₁ hv j=>b.av j λw hit j=>?_) X;cases w with
  |fl l=>
    have j:=sd j;refine wy p.st hv hit λobI KI ZI II=>?_;refine(ZI.newP (X:=No) (o:={cls:=.type "list",dict:=none,data:=.seq [].toArray}) rfl<|.inl<|by simp).elim λZD KD=>?_;refine wpAny_newObj_type<|wpAny_newFunctionEnv hcell (by intro y hy;cases hy) (λh4 hns4 hsb4=>?_) J;generalize hI:f.heap.objs.size=I at*;have hI0:=hI▸cC _;generalize hH2:f.heap.push obI=H2 at*;have hD0':H2.get? H2.objs.size=none:=cC _;generalize hD:H2.objs.size=D at*;generalize hH3:H2.push {cls:=.type "list",dict:=none,data:=.seq [].toArray}=H3 at*;have u:H3.get? H3.objs.size=none:=cC _;generalize hC:H3.objs.size=C at*;have hk2:=hH2▸cw _ _;have hk3:=hH3▸cw _ _;have hD0:=lk hk2 D hD0';have hC0:=lk hk2 C<|lk hk3 C u;have hk4:∀b o,H3.get? b=some o->h4.get? b=some o:=λb o e=>hsb4.extBut b o (λq=>by rw[q,u]at e;injection e)<|Qp _ e;have oI:∃o,H2.get? I=some o:=by obtain⟨o,_,e,_⟩:=nk II;exact⟨o,e⟩ 
    have gD:H3.get? D=some {cls:=.type "list",dict:=none,data:=.seq [].toArray}:=by refine Rl hH3<|Rl hD ?_;exact Qq _ rfl
    have hID:I≠D:=λq=>by obtain⟨o,e⟩:=oI;rw[q,hD0']at e;injection e
    have hIC:I≠C:=λq=>by refine oI.elim λo e=>?_;have:=hk3 _ _ e;rw[q,u]at this;injection this
    have hDC:D≠C:=λq=>by rw[q,u]at gD;injection gD
    have oC:∃o,h4.get? C=some o/\NT o:=by obtain⟨o,es,ep,e,hd,_⟩:=hns4;exact⟨o,e,.inr λvs n q=>by rw[hd]at q;injection q⟩ 
    have hqC:∀b,bX b (C,C)->H3.get? b=none:=λb x=>x.elim (λq=>Rr q u) λq=>Rr q u;have start:fE B.G ρ₁ f.heap I D C l (((ρ₁.add (I,I) .pv).add (D,D) .pv).add (C,C) .pv) σ₁ {f with heap:=h4,toks:=f.toks+([]:List<|Str×Value).length} 0 [] #[] λx=>[].reverse.lookup x:=by have K4:bq ((ρ₁.add (I,I) .pv).add (D,D) .pv) H3 (((ρ₁.add (I,I) .pv).add (D,D) .pv).add (C,C) .pv) h4:=.new hk4 hqC;have KA:=(KI.trans KD).trans K4;exact⟨ZD.new hk4 hqC _ (λM M M q=>.inr q) (λM M M q=>⟨q,nofun⟩) ⟨rfl,oC⟩,KA,.inl<|.inl aB.new,.inl aB.new,aB.new,II.mv (KD.g.trans K4.g) λo e=>hk4 _ _<|hk3 _ _ e,⟨0,hk4 _ _ gD⟩,.nil,hns4⟩
    have b2:ax<|B.comp k sc cl C:=
      { T:=b.T,cf:=b.cf,ok:=ok2,stk:=b.stk,frames:=b.frames,frame:=b.frame,room:=b.room,units:=b.units,hd:=b.hd,sc:=hrel,fn:=J,gl:=b.gl,bi:=b.bi
        above:=by refine cps λG_ g_=>?_;obtain⟨m,⟨o,_,_,ho,_⟩,_⟩:=p.loc;refine g_ ?_;exact Qh b.above<|Nat.le_of_lt<|Rl hC<|Heap.lt_size<|hk3 _ _<|hk2 _ _ ho
        cg:=.inl<|p.kp.dom C hC0,lt:=.inr rfl,ll:=λM=>rfl};have loop:∀st0:Shared,st0={f with heap:=h4,toks:=f.toks+([]:List<|Str×Value).length}->codeAny (model B.G.prog B.G.w) B.A (.compLoop (.ListComp elt [⟨.Name Y px,V,ifs,0⟩] sc pos) 0 (.ref I) (.ref D)<|compEnvC sc cl C B.env) (compPost (model B.G.prog B.G.w) B.A E none Q (.ref D) C) st0:=by
      rintro st0 rfl;refine codeAny_compLoop_tests (nJ B k (y6 F Ts B.c sc Y elt ifs) ρ₁ f.heap I D C l) (λn s' hI=>?_) l.length ⟨[],l,[],_,_,#[],_,rfl,rfl,start,j⟩;refine cps λG_ g_=>?_;obtain⟨done,U,acc,ρ',σ',ys,m,hl,hn,N,HR⟩:=hI;refine g_ ?_;clear g_;refine wx hh N.st N.tI N.it (λa' ha h5 tk5 v5 L g5 Z5 it5 hv5=>?_) λhr h5 L=>?_;·cases U with|nil=>rw[hl,Qc,qJ]at ha;injection ha|cons a U=>
        rw[hl,eI]at ha;obtain rfl:=sI ha;have ns5:=js N.ns λo=>L _ o<|Ne.symm hIC;have pl5:=ki N.pl λo=>L _ o<|Ne.symm hID;have W:=N.move N.tI hI0 L (nI it5) tk5 it5 pl5 (N.acc.mv g5) ns5;have kind:(compEnvC sc cl C B.env).kindOf Y=some .local:=lookup_relabel_local<|Rl (gE Y _) hx;have hp:((compEnvC sc cl C B.env).scope.kind==.class||(compEnvC sc cl C B.env).scope.kind==.module&&(compEnvC sc cl C B.env).locals !=(compEnvC sc cl C B.env).globals)=false:=by simp[compEnvC,relabel,J]
        refine wpAny_assign_Name<|wpAny_storeName_local kind ns5 (λh6 ns6 O=>?_) hp;have g6:=W.st.growC W.tC (.inl rfl) O.extBut;have CI6:=W.move W.tC hC0 O.extBut (by obtain⟨o,es,ep,e,hd,_⟩:=ns6;exact⟨o,e,.inr λvs n q=>by rw[hd]at q;injection q⟩) (tk5+1) (W.it.mv g6 λo=>O.extBut _ o hIC) (ki pl5 λo=>O.extBut _ o hDC) (W.acc.mv g6) ns6;have hv6:=hv5.mv g6;have hm6:(if Y=Y then some v5 else m Y)=some v5:=if_pos rfl;subst hn;have el:=λ{ρ7 σ7 s7}(C7:fE B.G ρ₁ f.heap I D C l ρ7 σ7 s7 (done.length+1) acc ys λy=>if y=Y then some v5 else m y)(hv7:RV ρ7 s7.heap v5 a)z E' H7=>Fe (elt:=elt) (v:=v5) (T:=y6 F Ts B.c sc Y elt ifs) (E':=E') b2 (hF _ b2 _) p hcl hD0 hID hDC hl C7 hm6 hv7 z H7;clear H j;clear j;rcases ifs with _|⟨t,r⟩;·exact wpAny_pure<|el CI6 hv6 true _ HR
        ·clear j;cases r with|cons=>exact b2.no HR|nil=>rw[List.forIn_cons];refine wpAny_bind<|wpAny_bind<|hT _ b2 [(Y,a)] t ρ' σ' _ _ _ _ _ (wz p hcl CI6 hm6 hv6) HR (λρ7 σ7 s7 z Z7 K7 H7=>?_) λM M M M M M M H8=>b2.no H8;refine wpAny_pure ?_;exact wpAny_pure<|el (CI6.keep K7 Z7.st) (hv6.mv K7.g) z _ H7
      ·cases U with|cons a U=>rw[hl,eI]at hr;injection hr|nil=>refine⟨m,js N.ns λo=>L _ o<|Ne.symm hIC,λh6 O=>?_⟩;refine(N.st.lose N.tI L).elim λZ5 g5=>?_;have K5:=N.kp.lose N.tI g5 L hI0;have ne:∀{a c:Addr},a≠c->(a,a)≠(c,c):=λq z=>q<|congrArg Prod.fst z;have tC:(ρ'.re I none) (C,C) .pv:=.inl ⟨N.tC,ne<|Ne.symm hIC⟩;refine(St.lose Z5 tC O.extBut).elim λZ6 g6=>?_;have K6:=K5.lose tC g6 O.extBut hC0;have tD:((ρ'.re I none).re C none) (D,D) .pv:=.inl ⟨.inl ⟨N.tD,ne<|Ne.symm hID⟩,ne hDC⟩;have g7:=Z6.growR (T:=none) tD;have K7:=K6.re g7<|.inr hD0;exact K _ σ' {s' with heap:=h6} _ _ (p.keep b K7<|Z6.drop tD) (K₁.trans K7) (.fl_ (ki N.pl λo q=>O.extBut _ o hDC<|L _ o (Ne.symm hID) q) (Z6.noD tD)<|N.acc.mv<|(g5.trans g6).trans g7) HR
    exact codeAny_compStart_list (loop _ rfl)<|CM start.it<|loop _ rfl|_=>exact b.no j
end
def lR(n:Nat):Prop:=∀B:Bx,ax B->∀loc,eM B loc<|ev TP n B.c loc
def nK(n:Nat):Prop:=∀B:Bx,ax B->∀loc,sT B loc<|ts TP n B.c loc
section
variable{B:Bx}{ρ:aB}{σ:AS}{s:Shared}{loc:aq}{E:Value->Shared->Prop}{n:Nat}
theorem z6(b:ax B):∀n,z5 B<|ev TP n B.c loc|0=>λa a a a a H=>b.no H|_+1=>λa a a a a H=>b.no H
theorem vG(d:CmpOp)(h:(!ke b)=true):behindInMarks d b=false:=by cases b<;>first|rfl|exact fT h
theorem Dl(h:lX e=none):∀l u t p,e≠.Slice l u t p:=λl u t p q=>by rw[q]at h;injection h
theorem Fg{s:Option Expr×Option Expr×Option Expr}(h:lX e=some s)(c:s.2.2=none):∃p,e=.Slice s.1 s.2.1 none p:=Rl c<|yY h
theorem Fh(hk:lR n)(ht:nK n):lR<|n+1:=by intro B b loc e ρ σ s k x Q E Z H K X;have hV:=hk B b loc;have ns:=z6 (loc:=loc) b n;cases e with
  |Constant v kd pos=>exact b.opt H λa ea H=>DO b Z ea λw V r=>K ρ σ _ w a (Z.toks b V) .rfl r H|Name x pos=>exact b.opt H λa ea H=>EY b Z ea λv r=>K ρ σ s v a Z .rfl r H|BoolOp op es pos=>cases op with|And=>exact wm b hV X es Z H K|Or=>exact xq b hV X es Z H K
  |BinOp a op c pos=>exact wpAny_BinOp<|hV a ρ σ s _ x _ E Z H (λl j F v y m C P h=>hV c l j F _ x _ E m h (λI J s₂ w z L D hw A=>b.av A λr er A=>G9 (P.mv D.g) hw er λu V ru=>K I J _ u r (L.toks b V) (C.trans D) ru A) X) X|UnaryOp op a pos=>refine wpAny_UnaryOp ?_;cases op with
    |Not=>exact hV a ρ σ s _ x _ E Z H (λl j F v y m C P h=>not_value<|b.bo h λz ez h=>mO P ez λV=>K l j _ _ _ (m.toks b V) C (.bool _) h) X|USub=>refine hV a ρ σ s _ x _ E Z H (λl j F v y m C P h=>?_) X;cases y with|int i=>obtain⟨t,rfl⟩:=P.inv;exact PyProof.Rows.neg_int<|K l j _ _ _ (m.toks b _) C (.int _ _) h|_=>exact b.no h
    |_=>exact b.no H
  |IfExp t a c pos=>refine wpAny_IfExp<|ht B b loc t ρ σ s _ x _ E Z H (λl j F z m C h=>?_) X;cases z with|true=>exact hV a l j F k x Q E m h (λI J s₂ v y L D=>K I J s₂ v y L<|C.trans D) X|false=>exact hV c l j F k x Q E m h (λI J s₂ v y L D=>K I J s₂ v y L<|C.trans D) X
  |Compare a ops bs pos=>refine b.sole H λop q h=>b.sole h λc q' A=>b.grd A λU O=>?_;clear H h A;subst q;subst q';exact wpAny_Compare1 (hV a ρ σ s _ x _ E Z O (λl j F v y m C P h=>hV c l j F _ x _ E m h (λI J s₂ w z L D hw A=>xm b L (P.mv D.g) hw A λr V A=>K I J _ _ _ (L.toks b V) (C.trans D) (.bool _) A) X) X)<|vG op U|Tuple es kd pos=>exact b.grd H λhl H=>wpAny_Tuple<|iJ b hV ns X es Z H λl j F vs as m C P hn h=>⟨by refine Rr P.len<|Rr hn ?_;haveI:=bL hl;delta sizeLine;lia,E0 b m P λs' v Z' K' r=>K l j s' v _ Z' (C.trans K') r h⟩|List es pos=>exact b.grd H λhl H=>Fd b hV ns X (bL hl) Z H K|Dict ks vs pos=>refine b.grd H λM H=>?_;refine(MK M).elim λM h3=>?_;refine(MK M).elim λh1 Y=>?_;exact Fc b hV X (bL h1) (beq_iff_eq.mp Y) h3 Z H K|Attribute o nm pos=>refine b.grd H λU H=>?_;exact wpAny_bind<|qL (cW U)<|hV o ρ σ s _ x _ E Z H (λl j F v y m C P h=>wpAny_bind<|wpAny_standAt<|wpAny_bind<|wpAny_holding<|E7 b m P h λw c V rw_ A=>wpAny_bind<|wpAny_letTemporaryGo<|wpAny_pure<|K l j _ w c (m.toks b V) C rw_ A) X|Subscript o i pos=>
    refine b.oel H (λU H=>?_) λs U H=>b.grd H λhst H=>?_
    · have U:=Dl U;refine b.oel H (λξ H=>?_) λd hd H=>b.grd H λM H=>?_;·exact PyProof.Rows.Subscript_ (hV o ρ σ s _ x _ E Z H (λl j F v y m C P h=>hV i l j F _ x _ E m h (λI J s₂ w z L D hw A=>Hd b L U (P.mv D.g) hw A λu c V ru A=>K I J _ u c (L.toks b V) (C.trans D) ru A) X) X)
      · refine(EX hd).elim λdp q=>?_;refine Rr q ?_;refine(MK M).elim λM h3=>?_;refine(MK M).elim λh1 Y=>?_;refine PyProof.Rows.Subscript_<|wt b hV X (bL h1) (beq_iff_eq.mp Y) h3 Z H λd l j F o hd e m C c h=>?_;haveI g:=m.growR (T:=none) e;haveI D:=C.re g<|.inr hd;haveI nd:=m.noD e;refine hV i _ j F _ x _ E (Z.keep b D<|m.drop e) h (λρ₃ σ₃ s₃ w z Z₃ W hw O=>b.av O λr er O=>?_) X;obtain⟨y,e1,rfl⟩:=P5 er;haveI c3:=(c.mv g λξ q=>q).mv W.g λob q=>(W.g.hid d ob q nd).2;haveI hsy:(d==sysModules)=false:=beq_eq_false_iff_ne.mpr λq=>by refine B.G.sys.elim λob hb=>?_;haveI:=Z.st.base _ _ hb;rw[<-q,hd]at this;exact nS this
        exact wb b U (mW c3.conc hsy hw e1) λv V rv=>K ρ₃ σ₃ _ v r (Z₃.toks b V) (D.trans W) rv O
    ·obtain⟨p,rfl⟩:=Fg U<|Option.isNone_iff_eq_none.mp hst;exact D0 b hV X Z H K|Call f args kws pos=>
    refine b.grd H λM h=>?_;clear H;obtain⟨M,h3⟩:=MK M;obtain⟨h1,Y⟩:=MK M;clear M;clear M;obtain rfl:=P8 h1;refine b.oel h (λξ H=>b.opt H λf hf H=>?_) λq hq H=>?_;·obtain⟨fp,rfl⟩:=f9 hf;exact CK b hV ns (cW Y) Z H K X
    ·refine Rr (nH hq) ?_;exact b.grd H λU A=>CL b hV ns (cW Y) (bL h3) (cW (MK U).1) (MK U).2 Z A K X|ListComp elt gs sc pos=>refine b.sole H λg q h=>?_;clear H;subst q;obtain⟨t,it,ifs,as⟩:=g;refine b.opt h λnm hn H=>b.grd H λM A=>?_;refine(f9 hn).elim λpx q=>?_;refine(MK M).elim λM h4=>?_;refine(MK M).elim λM h3=>?_;refine(MK M).elim λh1 Y=>?_;refine Rr (show t=.Name nm px from q)<|Rr (show as=0 from beq_iff_eq.mp h4) ?_;exact Ff b hk ht (cW h1) (cW Y) h3 Z A K X|_=>exact b.no H
theorem wB(b:ax B)(v:sT B loc T)(X:Kx B loc x E)(a:Bool)(t:List Expr):∀{ρ:aB}{σ:AS}{s:Shared}{k:Bool->AS->Cd}{Q:Bool->Shared->Prop},At B loc ρ σ s->B.H (oG T a t σ k x)->Kb B loc ρ s k Q->B.wp (allTrue (if a then .And else .Or) t B.env) Q E s:=by induction t with
 |nil=>intro ρ σ s k Q Z H K;cases a with|true=>exact wpAny_allTrue_And_nil<|K ρ σ s true Z .rfl H|false=>exact wpAny_allTrue_Or_nil<|K ρ σ s false Z .rfl H
 |cons e r u=>intro ρ σ s k Q Z H K;cases a with
  |true=>refine wpAny_allTrue_And_cons<|v e ρ σ s _ x _ E Z H (λh g o z d f c=>?_) X;cases z with|true=>exact u d c λj i s₂ z l m=>K j i s₂ z l<|f.trans m|false=>exact K h g o false d f c
  |false=>refine wpAny_allTrue_Or_cons<|v e ρ σ s _ x _ E Z H (λh g o z d f c=>?_) X;cases z with|false=>exact u d c λj i s₂ z l m=>K j i s₂ z l<|f.trans m|true=>exact K h g o true d f c
theorem vH(b:ax B)(o:lR n)(Z:At B loc ρ σ s)(w:PySem.isTrue e B.env (eval e B.env)=do let v<-eval e B.env;standAt e.pos;holding [v]<|PySem.truthy v)(H:B.H<|ev TP n B.c loc e σ (λv σ=>pP v λb=>k b σ) x)(K:Kb B loc ρ s k Q)(X:Kx B loc x E):B.wp (isTrue e B.env<|eval e B.env) Q E s:=wpAny_isTrue_value (o B b loc e ρ σ s _ x _ E Z H (λf d j v y h i m a=>b.bo a λz p a=>mO m p λl=>K f d _ z (h.toks b l) i a) X) w
theorem Fi(F:lR n)(I:nK n):nK<|n+1:=by intro B b loc e ρ σ s k x Q E Z H K X;have hV:=F B b loc;cases e with
 |UnaryOp C a pos=>cases C with|Not=>exact wpAny_isTrue_Not<|I B b loc a ρ σ s _ x _ E Z H (λi h j z l m d=>K i h j (!z) l m d) X|_=>exact vH b F Z rfl H K X
 |BoolOp C L pos=>
  refine wpAny_isTrue_BoolOp ?_;rcases C with _|_;·exact wB b (I B b loc) X true L Z H K
  ·exact wB b (I B b loc) X false L Z H K|IfExp t a c pos=>exact b.no H|Compare a N bs pos=>refine b.sole H λC q d=>b.sole d λc T f=>b.grd f λP D=>?_;clear H d f;subst q;subst T;exact wpAny_isTrue_Compare1 (hV a ρ σ s _ x _ E Z D (λi h j v y l m U d=>hV c i h j _ x _ E l d (λA u s₂ w z o p M f=>xm b o (U.mv p.g) M f λr O f=>wpAny_truthy_bool<|K A u _ r (o.toks b O) (m.trans p) f) X) X)<|vG C P|_=>exact vH b F Z rfl H K X
theorem fa:∀n,lR n/\nK n|0=>⟨λB b loc e ρ σ s k x Q E Z H K X=>b.no H,λB b loc e ρ σ s k x Q E Z H K X=>b.no H⟩|n+1=>⟨Fh (fa n).1 (fa n).2,Fi (fa n).1 (fa n).2⟩
end
noncomputable def qO(l:List Env):List Addr:=l.filterMap λξ=>ξ.frame
def xr(h:Heap)(e:Addr):Prop:=∃o vs T,h.get? e=some o/\o.data=.fields vs/\vs[1]?=some (.ref T)
section
variable{G:cB}{A:Around}{X:Addr->Prop}{ρ ρ':aB}{σ σ':AS}{h h' h₁:Heap}{s s':Shared}{E:Value->Shared->Prop}{env:Env}{l:List Env}{p:Addr×Addr}{C:Nat}{f:List<|Str×AV}
theorem fc.slot(F:fc ρ l)(c:b∈qO l):ρ (b,b) .fr:=by obtain⟨e,g,q⟩:=List.mem_filterMap.mp c;obtain⟨_,L,a,d⟩:=F e g;rw[q]at a;haveI a:=sI a;subst a;exact d
theorem St.slots(Z:St G ρ σ s)(F:fc ρ l)(d:Heap.SlotsOnly (qO l) s.heap h')(H:Nat):St G ρ σ {s with heap:=h',toks:=H}/\bq ρ s.heap ρ h':=by
  have u:∀{q t b},ρ q t->t≠.fr->bX b q->b∉qO l:=λ{q t b}e n i m=>n (Z.apart b q t (b,b) .fr e (F.slot m) i<|.inl rfl).2;have g:aY ρ s.heap ρ h':=⟨λa a a e=>e,λb o e n=>⟨n,(d.2.1 b λm=>n ⟨_,_,F.slot m,.inl rfl⟩).trans e⟩,λt vs⟨o,w,r⟩=>(d.2.2 t o w).elim λj e=>⟨_,e,r⟩⟩;refine⟨⟨λq t e=>?_,Z.dom,Z.apart,Z.one,λb o e=>(d.2.1 b λm=>Z.not0 e ⟨_,_,F.slot m,.inl rfl⟩).trans<|Z.base b o e,Z.own0,Z.gens,Z.os⟩,⟨g,λb e=>?_,λq o a e k=>d.2.2 _ o k,λq o a e k=>⟨e,(d.2.1 _<|u e nofun<|.inl rfl).trans k⟩⟩⟩
  · haveI c:=Z.conc q t e;by_cases z:t=.fr;·subst z;refine cps λI D=>?_;obtain⟨x,o,B,n,v,y⟩:=c;refine(d.2.2 _ _ v).elim λj k=>?_;refine D ?_;exact⟨x,_,B,n,k,y⟩
    ·exact c.mv g (λb o i k=>(d.2.1 b<|u e z i).trans k) λa a a a k=>k
  ·cases q:s.heap.get? b with|none=>rfl|some o=>refine(d.2.2 b o q).elim λj k=>?_;rw[e]at k;exact nS k
theorem St.trace(Z:St G ρ σ s)(e:ρ p<|.ex C f)(t:ρ (T,T) .tb)(d:Heap.SameBut p.1 s.heap h')(i:h'.get? p.1=some ⟨.ref C,some p.2,.fields #[n,.ref T,.none,.none,.bool false,.none],#[]⟩)(m:Nat):St G ρ σ {s with heap:=h',toks:=m}/\bq ρ s.heap ρ h':=by refine(Z.conc p _ e).elim λb ζ0=>ζ0.elim λF ζ1=>ζ1.elim λhC ξ=>?_;exact⟨Z.chg e (.inl rfl) d.extBut m (λj j j=>rfl) λg=>⟨b,F.mv g λo k=>(d.2 _ b).trans k,hC,n,_,i,.inr ⟨T,rfl,t⟩⟩,Z.keepC e (.inl rfl) nofun nofun d.extBut ⟨_,i⟩⟩
theorem xt(Z:St G ρ σ s)(t:ρ (T,T) .tb)(h:∀h',St G ρ σ {s with heap:=h'}->bq ρ s.heap ρ h'->(∀b,b≠T->h'.get? b=s.heap.get? b)->Q () {s with heap:=h'}):wpAny (model G.prog G.w) A (setField (.ref T) 3 v) Q E s:=by refine cps λq o=>?_;obtain⟨_,r,ts,y,k,n,j,m⟩:=Z.conc _ _ t;refine o ?_;haveI e:=(Array.getElem?_eq_some_iff.mp m).1;refine wpAny_setField k j e ?_;haveI d:=Obj.data_mapFields j λa=>a.setIfInBounds 3 v;haveI c:=Heap.get?_update_self _ k<|Obj.isFreed_of_fields d;haveI i:Heap.SameBut T s.heap<|s.heap.update T<|Obj.mapFields λa=>a.setIfInBounds 3 v:=Heap.SameBut.update ..;exact h _ (Z.chg t (.inl rfl) i.extBut s.toks (λa a a=>rfl) λg=>⟨rfl,_,_,v,c,(Obj.cls_mapFields _ _).trans n,d,by simp[e]⟩) (Z.keepC t (.inl rfl) nofun nofun i.extBut ⟨_,c⟩) i.2
theorem wC(P:A.frames=some (env::l))(F:fc ρ<|env::l)(Z:St G ρ σ s)(e:ρ p<|.ex C f)(h:∀ρ' h',St G ρ' σ {s with heap:=h'}->bq ρ s.heap ρ' h'->xr h' p.1->Q () {s with heap:=h'}):wpAny (model G.prog G.w) A (noteFrame (.ref p.1) env) Q E s:=by
  refine cps λG_ V=>?_;obtain⟨_,L,hf,hL⟩:=F env<|.head _;obtain⟨hne,_,_,W,J,j,ht⟩:=Z.conc p _ e;refine V ?_;haveI i:(#[W,J,.none,.none,.bool false,.none])[1]?=some J:=rfl;delta noteFrame;simp only[hf];refine wpAny_bind<|wpAny_field j rfl i ?_;have k:∀(z:Bool)(r:Heap),St G ρ σ {s with heap:=r}->bq ρ s.heap ρ r->r.get? p.1=some ⟨.ref C,some p.2,.fields #[W,J,.none,.none,.bool false,.none],#[]⟩->wpAny (model G.prog G.w) A (do let a<-frameOf env;let M<-entryPlaceOf L z;let v<-EntryCells.newEntry J a .none (rawInt L) .none M;setField (.ref p.1) 1 v) Q E {s with heap:=r}:=by
    intro z r N K1 i;refine wpAny_bind<|wpAny_frameOf_fun P (F.funs N) hf λg B=>?_;refine(St.slots N F B s.toks).elim λZ2 K2=>?_;haveI he2:=(B.2.1 _ λm=>nomatch(Z.apart p.1 p _ (p.1,p.1) .fr e (F.slot m) (.inl rfl)<|.inl rfl).2).trans i;refine wpAny_bind<|wpAny_entryPlaceOf λM Y=>?_;refine wpAny_bind<|wpAny_newObj_type ?_<|Y.sizeOk5 _ _ _ _ _;generalize t:({cls:=.type "traceback",dict:=none,data:=.fields ([J,.ref L,.none,rawInt L,.none]++if M.isEmpty then List.replicate 6 Value.none else M).toArray}:Obj)=o;haveI O:o.isFreed=false:=by refine Rl t ?_;rfl
    haveI hq:∀b,bX b (g.objs.size,g.objs.size)->g.get? b=none:=λb x=>x.elim (λq=>Rr q<|cC _) λq=>Rr q<|cC _;haveI Z3:=St.new (u:=.tb) Z2 (cw g o) hq s.toks (λH H H q=>.inr q) (λH H H q=>⟨q,nofun⟩) ⟨rfl,o,_,rawInt L,Qq _ O,Rl t rfl,Rl t rfl,by rfl⟩;haveI K3:bq ρ g (ρ.add (g.objs.size,g.objs.size) .tb)<|g.push o:=.new (cw g o) hq;haveI D:=Qp o he2;refine wpAny_setField D rfl (by simp) ?_;haveI K:((g.push o).update p.1 (Obj.mapFields (·.setIfInBounds 1<|Value.ref g.objs.size))).get? p.1=some ⟨.ref C,some p.2,.fields #[W,.ref g.objs.size,.none,.none,.bool false,.none],#[]⟩:=Heap.get?_update_self _ D rfl;refine(St.trace Z3 (.inl e) aB.new (Heap.SameBut.update ..) K s.toks).elim λZ4 K4=>?_;exact h _ _ Z4 (((K1.trans K2).trans K3).trans K4) ⟨_,_,_,K,rfl,rfl⟩
  clear i;rcases ht with rfl|⟨T,rfl,U⟩;·exact k _ s.heap Z .rfl j
  · refine cps λG_ V=>?_;obtain⟨_,oT,ts,y,g1,g2,g3,g4⟩:=Z.conc _ _ U;refine V ?_;refine wpAny_bind<|wpAny_field g1 g3 g4 ?_;by_cases hy:(y==rawInt L)=true;·rw[if_pos hy];exact wpAny_pure<|h ρ s.heap Z .rfl ⟨_,_,T,j,rfl,rfl⟩
    ·rw[if_neg hy];exact wpAny_bind<|xt Z U λr N K1 k1=>k _ r N K1<|(k1 p.1 λq=>nomatch(Z.apart p.1 p _ (T,T) .tb e U (.inl rfl)<|.inl q).2).trans j
theorem vj(Z:St G ρ σ s)(e:ρ p<|.ex C f)(h:∀h',St G ρ σ {s with heap:=h'}->bq ρ s.heap ρ h'->h'.get? p.1=s.heap.get? p.1->Q () {s with heap:=h'}):wpAny (model G.prog G.w) A (setFlight (.ref p.1) fl) Q E s:=by
 refine cps λv o=>?_;obtain⟨j,_,_,t,i,b,n⟩:=Z.conc p _ e;refine o ?_;have a:(#[t,i,.none,.none,.bool false,.none])[1]?=some i:=rfl;refine wpAny_bind<|wpAny_field b rfl a ?_;clear b a;rcases n with rfl|⟨T,rfl,g⟩;·exact wpAny_pure<|h s.heap Z .rfl rfl
 ·exact xt Z g λk u m r=>h k u m<|r p.1 λq=>nomatch(Z.apart p.1 p _ (T,T) .tb e g (.inl rfl)<|.inl q).2
theorem CX(b:A.frames=some (env::l))(F:fc ρ<|env::l)(Z:St G ρ σ s)(e:ρ p<|.ex C f)(h:∀ρ' h',St G ρ' σ {s with heap:=h'}->bq ρ s.heap ρ' h'->Q () {s with heap:=h'}):wpAny (model G.prog G.w) A (leaving env<|.ref p.1) Q E s:=by refine wpAny_bind<|wC b F Z e λa o n d i=>?_;exact vj n (d.g.ext _ _ nofun e) λm j k i=>h a m j<|d.trans k
end
structure BS(B:Bx):Prop where
 top:B.top=B.env
 lt:B.lt=.fr
 re:B.c.re=false
section
variable{B:Bx}{ρ ρ':aB}{σ σ':AS}{h h':Heap}{s s':Shared}{loc loc':aq}{E:Value->Shared->Prop}{Q:Value->Shared->Prop}{m m':Str->Option Value}
theorem gG.but(Z:St B.G ρ σ s)(r:gG B ρ s.heap m loc)(e:ρ (d,d) t)(u:t≠.pv)(b:Heap.ExtBut d s.heap h'):gG B ρ h' m loc:=λx a q=>(r x a q).elim λv k=>by have g:=Z.growC e (.inl rfl) b;refine⟨v,k.1,λz=>(k.2.1 z).mv g,λz=>?_⟩;obtain⟨c,vs,l,o,y,f,⟨n,j⟩,i,p⟩:=k.2.2 z;exact⟨c,vs,l,o,y,f,⟨n,b c _ (λw=>u (Z.apart d (d,d) t (c,c) .pv e f (.inl rfl)<|.inl w.symm).2) j⟩,i.mv g,p⟩
theorem At.cellsG(Z:At B loc ρ σ s)(g:aY ρ s.heap ρ' h'):∀x a,aP sF B.c.cells x=some a->∃ca v,B.env.cells.lookup x=some ca/\h'.IsCell ca (some v)/\¬bA ρ' ca/\RV ρ' h' v a:=λx a e=>by refine(Z.cells x a e).elim λca ζ0=>ζ0.elim λv ζ1=>ζ1.elim λe1 ζ2=>ζ2.elim λζ3 ζ4=>ζ3.elim λi ζ5=>ζ5.elim λd k=>ζ4.elim λf j=>?_;exact⟨ca,v,e1,⟨i,(g.hid _ _ d f).2,k⟩,(g.hid _ _ d f).1,j.mv g⟩
theorem At.setL(b:ax B)(S:BS B)(Z:At B loc ρ σ s)(d:h'.Ns B.L m')(c:Heap.SameBut B.L s.heap h')(f:Nat)(j:aY ρ s.heap ρ h'->gG B ρ h' m' loc'):At B loc' ρ σ {s with heap:=h',toks:=f}:=by haveI e:=S.lt▸Z.own;haveI g:=Z.st.growC e (.inl rfl) c.extBut;obtain⟨o,k,l,i,n,_⟩:=id d;exact⟨Z.st.chg e (.inl rfl) c.extBut f (λa a a=>rfl) λa=>⟨rfl,o,k,l,i,n⟩,Z.frs,Z.kp.pvc g c.extBut ⟨o,i⟩ b.cg,Z.own,⟨m',d,j g⟩,Z.cellsG g⟩
theorem At.sub(Z:At B loc ρ σ s)(k:∀x a,aP sF loc' x=some a->aP sF loc x=some a):At B loc' ρ σ s:=⟨Z.st,Z.frs,Z.kp,Z.own,Z.loc.imp λm q=>⟨q.1,λx a e=>q.2 x a<|k x a e⟩,Z.cells⟩
theorem At.filt(Z:At B loc ρ σ s){p:Str->Bool}:At B (loc.filter λq=>p q.1) ρ σ s:=Z.sub λa a e=>(k9 loc e).1
theorem se(b:ax B):(B.env.scope.kind==.class||B.env.scope.kind==.module&&B.env.locals !=B.env.globals)=false:=by refine Rr b.fn ?_;rfl
theorem ax.lcl(b:ax B)(e:fD B.c x=true):B.env.kindOf x=some .local:=b.kind<|lh e
theorem rq(h:cY c x=false):ei c x=false:=by delta ei;refine Rr h ?_;rfl
theorem lx(b:ax B)(S:BS B)(Z:At B loc ρ σ s)(l:fD B.c x=true)(hl:cY B.c x=false)(r:RV ρ s.heap v a){Q:Unit->Shared->Prop}(H:∀s',At B (bj sF loc x a) ρ σ s'->aY ρ s.heap ρ s'.heap->Heap.ExtBut B.L s.heap s'.heap->Q () s'):B.wp (storeName B.env x v) Q E s:=by
 refine Z.loc.elim λm ζ0=>ζ0.elim λj p=>?_;refine wpAny_storeName_local (b.lcl l) j (λh' n d=>?_)<|se b;have e:=S.lt▸Z.own;refine H _ (Z.setL b S n d (s.toks+1) λg y c q=>?_) (Z.st.growC e (.inl rfl) d.extBut) d.extBut;by_cases f:y=x;·clear l H n;subst f;rw[(fA fg loc y a).1 rfl]at q;haveI q:=sI q;subst q;exact⟨v,if_pos rfl,λt=>r.mv g,λz=>by rw[rq hl]at z;injection z⟩
 ·rw[(fA fg loc x a).2 f]at q;obtain⟨w,e1,o⟩:=p.but Z.st e nofun d.extBut y c q;exact⟨w,(if_neg f).trans e1,o⟩
theorem D2(b:ax B)(S:BS B)(ts:List Expr):∀{vs:List Value}{as:List AV}{loc loc':aq}{s:Shared}{Q:Unit->Shared->Prop},At B loc ρ σ s->aU ρ s.heap vs as->bindL B.c ts as loc=some loc'->(∀s',At B loc' ρ σ s'->aY ρ s.heap ρ s'.heap->Heap.ExtBut B.L s.heap s'.heap->Q () s')->B.wp (assignInOrder ((assignEach ts B.env).map λf=>f.2) vs) Q E s:=by induction ts with
 |nil=>
  intro vs as loc loc' s Q Z d e H;rcases d with _|_;·haveI e:=sI e;subst e;exact wpAny_pure<|H _ Z .rfl λf f f k=>k
  ·injection e|cons t ts z=>intro vs as loc loc' s Q Z d e H;obtain⟨x,y,e'⟩:=P5 e;clear e;cases d with|nil=>injection e'|@cons v a vs as d r=>obtain⟨q,e⟩:=a6 e';obtain⟨w,D⟩:=MK q;obtain⟨F,rfl⟩:=f9 y;exact wpAny_bind<|wpAny_holding<|wpAny_assign_Name<|lx b S Z w (cW D) d λs' C g u=>z C (aU.mv g r) e λj i A l=>H j i (g.trans A) λc o n k=>l c o n<|u c o n k
theorem Dm(ts:List Expr):∀{as:List AV}{loc loc':aq},bindL c ts as loc=some loc'->ts.length=as.length/\(assignEach ts env).length=ts.length/\(assignEach ts env).findIdx? (λb=>b.1)=none:=by induction ts with
 |nil=>intro as loc loc' e;cases as with|nil=>exact⟨rfl,rfl,rfl⟩|cons=>injection e
 |cons t ts g=>intro as loc loc' e;obtain⟨x,j,e'⟩:=P5 e;clear e;cases as with|nil=>injection e'|cons a as=>obtain⟨_,e⟩:=a6 e';obtain⟨i,l,k⟩:=g e;obtain⟨n,rfl⟩:=f9 j;refine⟨congrArg (λb=>b+1) i,congrArg (λb=>b+1) l,?_⟩;refine Rr List.findIdx?_cons<|Rr k ?_;rfl
theorem vI(b:ax B)(S:BS B)(Z:At B loc ρ σ s)(C:iG t=true->B.A.handled=none)(u:RV ρ s.heap v a)(e:nF B.c t a loc=some loc'){Q:Unit->Shared->Prop}(H:∀s',At B loc' ρ σ s'->aY ρ s.heap ρ s'.heap->Heap.ExtBut B.L s.heap s'.heap->Q () s'):B.wp (PySem.assign t B.env v) Q E s:=by delta nF at e;cases p:eD t with|some x=>rw[p]at e;haveI I:=(a6 e).1;haveI e:=(a6 e).2;haveI e:=sI e;subst e;obtain⟨j,r⟩:=MK I;obtain⟨J,rfl⟩:=f9 p;exact wpAny_assign_Name<|lx b S Z j (cW r) u H|none=>rw[p]at e;obtain⟨ts,f,e⟩:=P5 e;obtain⟨K,J,rfl⟩:=JM f;cases a with|tup as=>obtain⟨t,vs,rfl,f,hl⟩:=u.inv;obtain⟨j,r,G⟩:=Dm ts e;refine wpAny_assign_Tuple (C rfl) f (Rr r<|Rr j<|Rr hl.size rfl) G λh' D=>?_;have d:=λb o e=>D b o (Nat.ne_of_lt<|Heap.lt_size e) e;exact D2 b S ts (Z.grow b d s.toks) (hl.mv<|.grow d) e λq l g F=>H q l ((aY.grow d).trans g) λc o n k=>F c o n<|d c o k|_=>injection e
theorem CF{i:Int}{k:Nat}{Q:Unit->Shared->Prop}(g:i=k)(hl:s.heap.PlainList l a)(b:i<2^63)(n:k<a.size)(o:∀h',h'.PlainList l (a.setIfInBounds k v)->Heap.SameBut l s.heap h'->Q () {s with heap:=h'}):wpAny (model prog w) A (setItem (.ref l) (.int i t) v) Q E s:=by
 refine(id hl).elim λp d=>?_;haveI f:=g▸Int.natCast_nonneg k;delta setItem;try with_reducible refine wpAny_holding ?_
 skip;refine wpAny_bind<|wpAny_sequenceKey hl.isList.typeIs (bD rfl) ?_;refine wpAny_bind<|wpAny_callSpecial?_slot hl.isList.typeIs slot_list_setitem<|wpAny_call_entry slot_list_setitem hl.isList.typeIs entry_list_setitem ?_<|args_list_setitem _ _ _;refine(?_:wpAny _ _ (Builtin.List.listSubscript? (.int i t)>>=_) _ _ s);refine wpAny_bind<|wpAny_listSubscript_int (fitsIndex_of f b) ?_;clear b f;subst g;haveI e:=Array.getElem?_eq_getElem n;refine wpAny_bind<|wpAny_bind<|wpAny_seqItemAt d rfl<|wpAny_pure ?_;refine Rr e ?_;haveI c:(s.heap.update l<|Obj.mapSeq λj=>j.setIfInBounds k v).PlainList l<|a.setIfInBounds k v:=⟨_,IsL.update d _⟩;refine wpAny_bind<|wpAny_setSeqItemAt d rfl ?_;exact wpAny_bind<|wpAny_pure<|wpAny_pure ⟨.none,rfl,wpAny_pure<|o _ c<|Heap.SameBut.update ..⟩
theorem CN[DecidableEq K]{k:K}{a:Addr}{v:Value}(c:List<|K×Addr×Value):(storedH c k a v).map (λx=>(x.1,x.2.2))=stored (c.map λx=>(x.1,x.2.2)) k v:=by
 haveI e:(atKey c k).isSome=(c.map λx=>(x.1,x.2.2)).any λd=>d.1=k:=by rw[<-Option.isSome_map,u4];delta valueAt;rw[Option.isSome_map,Bool.eq_iff_iff];simp[List.find?_isSome]
 delta storedH stored;refine Rr e ?_;split;·refine Rr List.map_map<|Rr List.map_map ?_;apply List.map_congr_left;rintro⟨f,i,g⟩_;simp only[Function.comp,putAt];split<;>rfl
 ·simp
theorem D3{K:Type}(b:List<|K×Addr×Value):(b.map λx=>(x.1,x.2.2)).map (λa=>a.1)=b.map λa=>a.1:=by refine Rr List.map_map ?_;rfl
abbrev KU(B:Bx)(loc:aq)(ρ:aB)(s:Shared)(k:AS->Cd)(Q:Unit->Shared->Prop):Prop:=∀ρ' σ' s',At B loc ρ' σ' s'->bq ρ s.heap ρ' s'.heap->B.H (k σ')->Q () s'
theorem Bw[DecidableEq K]{prog:Program}{w:World}{knd:PySem.KeyKind prog w K}{d:Addr}{a:List<|K×Value}(e:h.DictOf knd d a):(a.map λc=>c.1).Nodup:=by obtain⟨_,_,_,_,_,_,_,_,n⟩:=e;exact n
theorem By[DecidableEq K]{prog:Program}{w:World}{knd:PySem.KeyKind prog w K}{d:Addr}{b:List<|K×Value}(f:h.DictOf knd d b):∃e,h.get? d=some e:=f.elim λo x=>x.elim λg x=>x.elim λg x=>⟨o,x.1⟩
theorem Oo[DecidableEq K]{prog:Program}{w:World}{knd:HeapKind prog w K}{d:Addr}{a:List<|K×Addr×Value}(c:h.DictOfH knd d a):(a.map λb=>b.1).Nodup:=by obtain⟨_,_,_,_,_,_,_,_,n⟩:=c;exact n
theorem Oq[DecidableEq K]{prog:Program}{w:World}{knd:HeapKind prog w K}{d:Addr}{a:List<|K×Addr×Value}(c:h.DictOfH knd d a):∃e,h.get? d=some e:=c.elim λo x=>x.elim λf x=>x.elim λf x=>⟨o,x.1⟩
theorem Dn{P:AO->AV->AO->Prop}(x:∀a n,aE a=true->n<a.length->P (.list a) (.int n) (.list<|aD (λA=>v) a n))(y:∀j,P .edict (.int j)<|.idict [(j,v)])(u:∀j,P .edict (.str j)<|.sdict [(j,v)])(w:∀k t,k.key?=some t->P .edict k (.tdict [(t,v)]))(p:∀a j,aE a=true->P (.idict a) (.int j) (.idict<|bj iF a j v))(r:∀a j,aE a=true->P (.sdict a) (.str j) (.sdict<|bj sF a j v))(z:∀a k t,aE a=true->k.key?=some t->P (.tdict a) k (.tdict<|bj tF a t v))(e:oA i k v=some o'):P i k o':=by cases i with
 |list a=>cases k with|int j=>haveI d:=(a6 e).1;haveI e:=(a6 e).2;obtain⟨n,o,e⟩:=P5 e;haveI f:=(a6 e).1;haveI e:=(a6 e).2;haveI e:=sI e;exact Rl e<|l6 o▸x a n d (Nat.blt_eq.mp f)|_=>injection e
 |edict=>cases k with|int j=>haveI e:=sI e;exact Rl e<|y j|str j=>haveI e:=sI e;exact Rl e<|u j|tup l=>obtain⟨t,g,q⟩:=P6 e;exact Rl q<|w _ t g|_=>injection e
 |idict a=>cases k with|int j=>haveI d:=(a6 e).1;haveI e:=(a6 e).2;haveI e:=sI e;exact Rl e<|p a j d|_=>injection e
 |sdict a=>cases k with|str j=>haveI d:=(a6 e).1;haveI e:=(a6 e).2;haveI e:=sI e;exact Rl e<|r a j d|_=>injection e
 |tdict a=>refine(a6 e).elim λd e=>?_;obtain⟨t,g,q⟩:=P6 e;exact Rl q<|z a k t d g|_=>injection e
def l7(B:Bx)(ρ:aB)(s:Shared)(p:Addr×Addr)(Q:Unit->Shared->Prop)(o:AO):Prop:=∀{h' tk},Heap.SameBut p.1 s.heap h'->(∃ob,h'.get? p.1=some ob)->(aY ρ s.heap ρ h'->bF B.G ρ h' p o)->Q () {s with heap:=h',toks:=tk}
section
variable{p:Addr×Addr}{Q:Unit->Shared->Prop}{v k:AV}{vv vk:Value}
theorem wF(l:RV ρ s.heap vv v)(hp:p.2=p.1)(d:s.heap.DictOf (intKind B.G.prog B.G.w) p.1 b)(c:ck ρ s.heap b e)(hl:e.length<=sizeLine)(F:l7 B ρ s p Q<|.idict<|bj iF e j v)(f:RV ρ s.heap vk<|.int j):B.wp (setItem (.ref p.1) vk vv) Q E s:=by obtain⟨t,rfl⟩:=f.inv;exact wpAny_setItem_pairs (intKind_is _ _ _ _) d (λh' a i=>F i (By a) λg=>⟨hp,_,a,(c.mv g).put ku (l.mv g)<|Bw d⟩)<|Rr c.len hl
theorem wG(l:RV ρ s.heap vv v)(hp:p.2=p.1)(d:s.heap.DictOf (strKind B.G.prog B.G.w) p.1 b)(c:ck ρ s.heap b e)(hl:e.length<=sizeLine)(F:l7 B ρ s p Q<|.sdict<|bj sF e j v)(f:RV ρ s.heap vk<|.str j):B.wp (setItem (.ref p.1) vk vv) Q E s:=by obtain⟨t,rfl⟩:=f.inv;exact wpAny_setItem_pairs (strKind_is _ _ _ _) d (λh' a i=>F i (By a) λg=>⟨hp,_,a,(c.mv g).put fg (l.mv g)<|Bw d⟩)<|Rr c.len hl
theorem wH(b:ax B)(q:RV ρ s.heap vv v)(hp:p.2=p.1)(f:s.heap.DictOfH (iI B.G.prog B.G.w) p.1 a)(j:ck ρ s.heap (a.map λx=>(x.1,x.2.2)) e)(hl:e.length<=sizeLine)(F:l7 B ρ s p Q<|.tdict<|bj tF e t v)(l:k.key?=some t)(n:RV ρ s.heap vk k):B.wp (setItem (.ref p.1) vk vv) Q E s:=by obtain⟨c,rfl,o⟩:=rk (prog:=B.G.prog) (w:=B.G.w) n l;refine wpAny_setItem_heap (lH b) o f (λh' d r=>F r (Oq d) λg=>⟨hp,_,d,?_⟩)<|(Qb _▸j.len)▸hl;rw[CN];exact(j.mv g).put zX (q.mv g)<|Rr (D3 a)<|Oo f
theorem D4(j:RV ρ s.heap vv v)(c:bF B.G ρ s.heap p<|.list b)(l:aE b=true)(o:n<b.length)(F:l7 B ρ s p Q<|.list<|aD (λi=>v) b n)(q:RV ρ s.heap vk<|.int n):B.wp (setItem (.ref p.1) vk vv) Q E s:=by obtain⟨t,rfl⟩:=q.inv;obtain⟨e1,vs,hp,d⟩:=c;have f:=gx l;refine CF rfl hp (by lia) (by refine Rr d.size ?_;exact o) λh' a f=>F f (a.elim λi k=>⟨_,k⟩) λg=>⟨e1,_,a,?_⟩;refine Rr Array.toList_setIfInBounds ?_;exact(d.mv g).set (j.mv g) n
end
theorem CY(b:ax B)(Z:At B loc ρ σ s){o k v:AV}{z g w:Value}(q:RV ρ s.heap z o)(N:RV ρ s.heap g k)(d:RV ρ s.heap w v)(H:B.H<|v8 o k v σ K){Q:Unit->Shared->Prop}(M:KU B loc ρ s K Q):B.wp (setItem z g w) Q E s:=by have q:=q.inv;cases o with
 |ref r i=>
  obtain⟨p,rfl,e⟩:=q;refine b.ao H λA y H=>b.ao H λo' I H=>?_;refine Dn (P:=λA k o'=>bF B.G ρ s.heap p A->l7 B ρ s p Q o'->RV ρ s.heap g k->B.wp (setItem (.ref p.1) g w) Q E s) ?_ ?_ ?_ ?_ ?_ ?_ ?_ I (bF.at_ Z e y) (λL J c=>?_) N;·exactλl n a D c F=>D4 d c a D F
  ·exactλj c F=>wF d c.1 (j0 c.2 _) .nil (Nat.zero_le _) F
  ·exactλj c F=>wG d c.1 (j0 c.2 _) .nil (Nat.zero_le _) F
  ·exactλk t u c F=>wH b d c.1 (u5 c.2 _) .nil (Nat.zero_le _) F u
  ·exactλl j a c F=>c.2.elim λf x=>wF d c.1 x.1 x.2 (jZ a) F
  ·exactλl j a c F=>c.2.elim λf x=>wG d c.1 x.1 x.2 (jZ a) F
  ·exactλl k t a u c F=>c.2.elim λf x=>wH b d c.1 x.1 x.2 (jZ a) F u
  ·obtain⟨C,O⟩:=Z.chg b e y (.inl rfl) L.extBut J _ c;exact M _ _ _ C O H|_=>exact b.no H
end
section
variable{B:Bx}{ρ ρ':aB}{σ σ':AS}{h h':Heap}{s s':Shared}{loc loc':aq}{E:Value->Shared->Prop}
theorem rt{name:Str}(q:s.heap.get? d=some (dictOf a n))(r:StrKeys a.toArray)(z:UniqKeys a.toArray)(w:∀h' g n',h'.get? d=some (dictOf g n')->StrKeys g.toArray->UniqKeys g.toArray->(∀x,nsFind g.toArray x=if x=name then some v else nsFind a.toArray x)->g.length=(if(nsFind a.toArray name).isSome then a.length else a.length+1)->Heap.SameBut d s.heap h'->Q () {s with heap:=h',toks:=s.toks+1}):wpAny M A (nsSet d name v) Q E s:=λG p F=>by
  haveI m:a.toArray.any (λl=>l.refKey)=false:=by rw[Array.any_eq_false'];intro e D;obtain⟨n,t,h⟩:=r e D;simp[DictEntry.refKey,h]
  simp only[nsSet,strHash,Sem.wp_bind',Sem.wp_cmd_ask,Sem.wp_pure',Sem.wp_cmd_mkText];rw[Sem.wp_loadPart_of M G (λe l s'=>E e s') p {s with toks:=s.toks+1} _ q];simp only[aRefKeyMayBeTheName_eq,aRefKeyMayBeTheNameByArray,m,Bool.and_false];refine⟨by rw[q];rfl,?_⟩;haveI k:(nsFind a.toArray name).isSome=(a.toArray.findIdx? λl=>l.key.isStr name).isSome:=by
    delta nsFind findBy;rw[Option.isSome_map,Bool.eq_iff_iff,Array.find?_isSome,Array.findIdx?_isSome,Array.any_eq_true];constructor;·rintro⟨x,C,hp⟩;obtain⟨i,f,rfl⟩:=Array.mem_iff_getElem.mp C;exact⟨i,f,hp⟩
    ·rintro⟨i,f,hp⟩;exact⟨_,Array.getElem_mem f,hp⟩
  cases f:a.toArray.findIdx? λl=>l.key.isStr name with
  |some i=>
    haveI e1:∀c b,Obj.putName name c b v (dictOf a n)=dictOf (a.modify i λe=>{e with val:=v}) n:=λc b=>by simp only[Obj.putName_eq,Obj.putNameByArray,f,List.modify_toArray]
    refine w _ (a.modify i λe=>{e with val:=v}) n ?_ ?_ ?_ (λx=>?_) ?_<|Heap.SameBut.update ..;·rw[Heap.get?_update_self _ q<|by rw[e1];rfl,e1]
    ·simpa only[List.modify_toArray]using r.modify i v
    ·simpa only[List.modify_toArray]using z.modify i v
    ·haveI:=findBy_modify (λn v=>v.isStr n) Value.isStr_inj a.toArray name x v i f;simp only[List.modify_toArray]at this;exact this
    ·rw[k,f];simp|none=>
    haveI e1:∀c b,Obj.putName name c b v (dictOf a n)=dictOf (a++[⟨c,b,v⟩]) (n+1):=λc b=>by simp only[Obj.putName_eq,Obj.putNameByArray,f,List.push_toArray]
    haveI b:∀c,Q () {s with heap:=s.heap.update d<|Obj.putName name c (.str name s.toks) v,toks:=s.toks+1}:=λc=>by
      refine w _ (a++[⟨c,.str name s.toks,v⟩]) (n+1) ?_ ?_ ?_ (λx=>?_) ?_<|Heap.SameBut.update ..;·rw[Heap.get?_update_self _ q<|by rw[e1];rfl,e1]
      ·simpa only[List.push_toArray]using r.push c name s.toks v
      ·simpa only[List.push_toArray]using z.push c name s.toks v f
      ·haveI:=findBy_push (λn v=>v.isStr n) a.toArray name x c (.str name s.toks) v λy=>by
          show(name==y)=decide (y=name);by_cases h:y=name;·clear w k f e1;subst h;rfl
          ·haveI:¬name=y:=λe=>h e.symm;simp[h,this] f;simp only[List.push_toArray]at this;exact this
      ·rw[k,f];simp
    exact b _
theorem Dp(l:aq)(x:Str)(a:AV):(bj sF l x a).length=if(aP sF l x).isSome then l.length else l.length+1:=by induction l with|nil=>rfl|cons p r c=>refine(?_:(bif sF p.1 x then(p.1,a)::r else p::bj sF r x a).length=if(bif sF p.1 x then some p.2 else aP sF r x).isSome then _ else _);cases sF p.1 x with|true=>rfl|false=>refine(?_:(bj sF r x a).length+1=if(aP sF r x).isSome then r.length+1 else r.length+1+1);refine Rr c ?_;split<;>rfl
theorem RO.put{f:aq}(k:∀x,RO ρ h (nsFind i x)<|aP sF f x)(l:∀y,nsFind d y=if y=x then some v else nsFind i y)(j:RV ρ h v a)(y:Str):RO ρ h (nsFind d y)<|aP sF (bj sF f x a) y:=by
 rw[l];by_cases c:y=x;·rw[if_pos c,(fA fg f x a).1 c];exact⟨rfl,λw b e f=>by haveI e:=sI e;subst e;haveI f:=sI f;subst f;exact j⟩
 ·rw[if_neg c,(fA fg f x a).2 c];exact k y
theorem vJ(l:K.In s.heap)(t:plainOver K C=true/\takerIn K C x=some none/\(clsIn K C).any (λz=>z.hasDict)=true/\findIn K (.ref C) "__setattr__"=some (some<|.builtin "object.__setattr__"))(q:s.heap.get? a=some (instObj C d))(r:s.heap.get? d=some (dictOf f n))(H:StrKeys f.toArray)(D:UniqKeys f.toArray)(hl:f.length<=sizeLine)(P:∀h' e n' M,h'.get? d=some (dictOf e n')->StrKeys e.toArray->UniqKeys e.toArray->(∀y,nsFind e.toArray y=if y=x then some v else nsFind f.toArray y)->e.length=(if(nsFind f.toArray x).isSome then f.length else f.length+1)->Heap.SameBut d s.heap h'->Q () {s with heap:=h',toks:=M}):wpAny (model prog w) A (setAttr (.ref a) x v) Q E s:=by refine t.elim λT ζ0=>ζ0.elim λJ ζ1=>ζ1.elim λL N=>?_;haveI I:InstAt s.heap a (instObj C d) C<|some<|dictOf f n:=⟨q,rfl,rfl,r⟩;refine set_plain l I N<|osa_open l I T J λb=>?_;obtain⟨cd,G,o⟩:=any_some L;refine wpAny_bind<|wpAny_pure<|wpAny_bind<|wpAny_bind<|wpAny_loadPart q<|wpAny_bind<|Looks.here (looks_clsIn l G) ?_;refine Rr o ?_;refine wpAny_pure<|wpAny_bind<|wpAny_pure<|wpAny_bind ?_;refine rt r H D λh' e n' g k m O j F=>?_;refine wpAny_bind<|wpAny_lookBehind g (pastItsLine_dict<|by refine Rr List.size_toArray<|Rr j ?_;split<;>first|exact af (au _ _) (.v 0) (.v 1) (.p 0 1) (.p 1 1) hl rfl|exact af (au _ _) (.v 0) (.v 1) (.v 0) (.p 1 1) hl rfl) ?_;exact wpAny_pure<|P h' e n' _ g k m O j F
theorem Fj(b:ax B)(Z:At B loc ρ σ s)(U:RV ρ s.heap z o)(G:RV ρ s.heap O v)(H:B.H<|zR TP o x v σ K)(A:KU B loc ρ s K Q):B.wp (setAttr z x O) Q E s:=by cases o with
 |ref r i=>obtain⟨p,rfl,e⟩:=U.inv;refine b.ao H λV w H=>?_;cases V with|inst C f=>refine b.grd H λq H=>?_;refine cps λG_ I=>?_;obtain⟨q,N⟩:=MK q;obtain⟨W,M⟩:=MK q;obtain⟨d,c,es,n,Y,J,F,a,t⟩:=bF.at_ Z e w;refine I ?_;refine vJ Z.inK (b.T.set C x W<|cW N) c Y J F (Rr a<|jZ M) λh' l n' D j m k P hl u=>?_;refine(Z.chg b (o':=.inst C<|bj sF f x v) e w (.inr rfl) u.extBut ⟨_,j⟩ D λg=>⟨d,(u.2 _ d.symm).trans c,l,n',j,m,k,by rw[hl,Dp,(t x).1,a],RO.put (λy=>(t y).mv g) P<|G.mv g⟩).elim λL X=>?_;exact A _ _ _ L X H|_=>exact b.no H
 |_=>exact b.no H
noncomputable def kP(start stop step:Int)(i:Nat):Bool:=if step>0 then start<=i&&i<stop&&(i-start)%step==0 else stop<i&&i<=start&&(start-i)%-step==0
theorem D5(a:Nat)(l:List Value):∀(j:Nat),(l.zipIdx j).filterMap (λx:Value×Nat=>match x with|(x,k)=>if kP a (j+l.length:Nat) 1 k then none else some x)=l.take (a-j):=by induction l with|nil=>intro j;simp|cons x r b=>
  intro j;haveI b:=b<|j+1;rw[show j+1+r.length=j+(x::r).length by refine Rr List.length_cons ?_;lia]at b;refine Rr List.zipIdx_cons<|Rr List.filterMap_cons ?_;haveI d:kP a (j+(x::r).length:Nat) 1 j=decide (a<=j):=by delta kP;rw[if_pos<|bD rfl,Int.emod_one,beq_self_eq_true,Bool.and_true,decide_eq_true<|show j<((j+(x::r).length:Nat):Int)by refine Rr List.length_cons ?_;omega,Bool.and_true];exact decide_eq_decide.mpr<|by omega
  by_cases h:a<=j;·simp only[d,decide_eq_true h,if_true];refine Rr b<|Rr (show a-(j+1)=0 by omega)<|Rr (show a-j=0 by omega) ?_;rfl
  ·simp only[d,decide_eq_false h,Bool.false_eq_true,if_false];exact Rr b<|Rr (show a-j=a-(j+1)+1 from Nat.le_antisymm (aO (b8 _ _ _ _) (.a (.v 0)<|.v 1) (.v 2) (.v 2) (.a (.v 3)<|.p 1 1) (.v 0) (.p 3 1) (bW<|af (au _ _) (.p 0 1) (.v 1) (.v 0) (.v 1) (Nat.lt_of_not_le h) rfl) (cF _ _) rfl)<|aO (b8 _ _ _ _) (.a (.v 0)<|.p 1 1) (.v 2) (.v 2) (.a (.v 3)<|.v 1) (.p 0 1) (.v 3) (bW<|af (au _ _) (.p 0 1) (.v 1) (.p 0 1) (.v 1) (Nat.lt_of_not_le h) rfl) (cF _ _) rfl)<|Rr List.take_succ_cons rfl
theorem CO(b:ax B)(Z:At B loc ρ σ s)(ro:RV ρ s.heap vo o)(T:RV ρ s.heap va a)(D:s.heap.IsSliceOf A va .none .none)(H:B.H<|vy o a σ K)(KK:KU B loc ρ s K Q):B.wp (delItem vo<|.ref A) Q E s:=by cases o with
 |ref r i=>obtain⟨p,rfl,e⟩:=ro.inv;refine b.ao H λob N U=>b.ao U λo' u V=>?_;clear U;cases ob with
  |list xs=>clear H;cases a with|int j=>
    refine cps λG_ g_=>?_;obtain⟨t,rfl⟩:=T.inv;refine(a6 u).elim λz u=>?_;obtain⟨k,Y,rfl⟩:=P6 u;clear T u;obtain rfl:=l6 Y;refine(bF.at_ Z e N).elim λξ G=>G.elim λvs L=>L.elim λC J=>C.elim λn hp=>?_;obtain⟨os,m,I,q⟩:=id D;refine g_ ?_;haveI w:s.TypeIs (.ref A) "slice":=⟨os,m,I⟩;haveI y:s.TypeIs (.ref p.1) "list":=⟨_,hp,rfl⟩;haveI e1:=J.size;haveI O:=jZ z;refine wpAny_delItem_slot y (bD rfl) F.slot_list_delitem<|wpAny_call_entry F.slot_list_delitem y F.entry_list_delitem ?_<|F.args_list_delitem_2 _ _;refine(?_:wpAny _ _ (Builtin.List.listSubscript? (.ref A)>>=_) _ _ s);refine wpAny_bind ?_;refine wpAny_bind<|wpAny_specialOf w slice_no_index ?_;refine wpAny_pure ?_;refine wpAny_bind<|wpAny_typeOf w ?_;refine wpAny_bind<|wpAny_bind<|wpAny_field m q rfl<|wpAny_bind<|wpAny_listPart .none ?_;refine wpAny_bind<|wpAny_field m q rfl<|wpAny_bind<|wpAny_listPart (.int k t) ?_;refine wpAny_bind<|wpAny_field m q rfl<|wpAny_bind<|wpAny_listPart .none<|wpAny_pure ?_;refine wpAny_bind ?_;refine wpAny_bind<|wpAny_seqItems hp rfl<|wpAny_pure ?_;refine wpAny_bind<|wpAny_of_eq (sliceIndices_raw (some k) none none vs.size<|by trivial) ?_;haveI M:sliceBounds (some k) none none vs.size=(((min k vs.size:Nat):Int),(vs.size:Int),1):=by
     simp only[sliceBounds,Option.getD_none];haveI X:¬(k:Int)<0:=by lia
     simp only[X,if_false,show(1:Int)>0 by decide,if_true];congr 1;omega
    refine Rr M ?_;refine wpAny_bind<|wpAny_rule ?_;haveI z:∀f:Array Value,f=vs->(f.toList.zipIdx.filterMap λx:Value×Nat=>match x with|(x,i)=>if kP (min k vs.size:Nat) vs.size 1 i then none else some x).toArray=(vs.toList.take k).toArray:=by clear J hp e1 M;rintro f rfl;haveI:=D5 (min k f.size) f.toList 0;simp only[Nat.zero_add,Nat.sub_zero]at this;refine Rr this ?_;congr 1;rw[<-Array.length_toList,List.take_eq_take_iff];lia
    refine(?_:wpAny _ _ (updateSeq p.1 (λf=>(f.toList.zipIdx.filterMap λx:Value×Nat=>match x with|(x,i)=>if kP (min k vs.size:Nat) vs.size 1 i then none else some x).toArray)>>=_) _ _ s);refine wpAny_bind<|wpAny_updateSeq hp rfl ?_ (by refine Rr e1 ?_;exact O) (by rw[z vs rfl];simp;refine Rr e1 ?_;exact aO (aH _ _ _) (.v 0) (.v 1) (.v 1) (.v 2) (.v 0) (.p 2 1) (Nat.min_le_right _ _) O rfl);refine wpAny_bind<|wpAny_letGo ?_;haveI P:=IsL.update hp λf=>(f.toList.zipIdx.filterMap λx:Value×Nat=>match x with|(x,i)=>if kP (min k vs.size:Nat) vs.size 1 i then none else some x).toArray;rw[z vs rfl]at P;refine(qx b Z e N (Heap.SameBut.update ..) ⟨_,P⟩ (λg=>(J.mv g).take _) s.toks).elim λZ' W=>?_;exact wpAny_pure ⟨_,rfl,KK _ _ _ Z' W V⟩|_=>exact nS u
  |_=>exact nS u
 |_=>exact b.no H
end
inductive FV(ρ:aB)(h:Heap):Flow->Fl->Prop|next:FV ρ h .next .next|brk:FV ρ h .brk .brk|cont:FV ρ h .cont .cont|ret{v:Value}{a:AV}(r:RV ρ h v a):FV ρ h (.ret v)<|.ret a
abbrev Ks(B:Bx)(K:KS)(Q:Flow->Shared->Prop):Prop:=∀ρ' σ' s' loc' fl f,At B loc' ρ' σ' s'->FV ρ' s'.heap fl f->B.H (K f loc' σ')->Q fl s'
abbrev Xs(B:Bx)(X:XS)(E:Value->Shared->Prop):Prop:=∀ρ' σ' s' loc' v a,At B loc' ρ' σ' s'->XV ρ' v a->B.H (X a loc' σ')->E v s'
def z7(B:Bx)(F:aq->Stmt->AS->KS->XS->Cd):Prop:=∀st loc ρ σ s K X Q E,At B loc ρ σ s->B.H (F loc st σ K X)->Ks B K Q->Xs B X E->B.wp (exec st B.env) Q E s
def lS(n:Nat):Prop:=∀B:Bx,ax B->BS B->z7 B (cz TP n B.c)
section
variable{B:Bx}{ρ ρ':aB}{σ σ':AS}{h h':Heap}{s s':Shared}{loc loc':aq}{E:Value->Shared->Prop}{Q:Flow->Shared->Prop}{K:KS}{X:XS}{n:Nat}
theorem Xs.x(b:Xs B X E):Kx B loc (λe σ=>X e loc σ) E:=λρ' σ' s' v a Z r H=>b ρ' σ' s' loc v a Z r H
theorem iD(i:z7 B F)(j:Xs B X E)(e:List Stmt):∀{loc:aq}{ρ:aB}{σ:AS}{s:Shared}{K:KS}{Q:Flow->Shared->Prop},At B loc ρ σ s->B.H (Mj.Internal.execs F e loc σ K X)->Ks B K Q->B.wp (PySem.execs e B.env) Q E s:=by induction e with|nil=>exactλZ H a=>wpAny_execs_nil<|a _ _ _ _ _ _ Z .next H|cons k r l=>
  intro loc ρ σ s K Q Z H a;refine wpAny_execs_cons<|i k loc ρ σ s _ X _ E Z H (λρ' σ' s' loc' fl f b g c=>?_) j;rcases g with _|_|_|q;·exact l b c a
  ·exact a _ _ _ _ _ _ b .brk c
  ·exact a _ _ _ _ _ _ b .cont c
  ·exact a _ _ _ _ _ _ b (.ret q) c
theorem mP(c:jk e=false):swapsWith e t n env=pure false:=by cases e<;>first|rfl|exact cX c
theorem xu(b:ax B):interactive B.env=false:=by delta interactive;refine Rr b.fn ?_;rfl
theorem D6(h:lP c e=some q):∃n t d pos,e=.Call (.Attribute (.Name q.1 t) n d) [q.2] [] pos/\sF n N.append=true/\cY c q.1=true/\fD c q.1=true/\fB q.2=false/\(d.endLine==pos.line)=true:=by
 refine cps λw v=>?_;obtain⟨⟨f,as,p,pos⟩,i,h⟩:=P5 h;obtain⟨⟨o,n,d⟩,u,h⟩:=P5 h;obtain⟨x,l,h⟩:=P5 h;obtain⟨t,l⟩:=f9 l;refine v ?_;haveI i:=(JL i).trans<|congrArg (λf=>Expr.Call f as p pos)<|(nH u).trans<|congrArg (λo=>Expr.Attribute o n d) l;rcases as with _|⟨b,r⟩;·exact nS h
 ·haveI g:=(a6 h).1;haveI h:=(a6 h).2;haveI g:=tK g;haveI k:=tK g.1;rw[P8 k.2.2.2,show p=[]from P8 g.2.1]at i;exact sI h▸⟨_,_,_,_,i,k.1,k.2.1,k.2.2.1,cW g.2.2.1,g.2.2.2⟩
theorem vK(h:cY c x=true)(k:cY c y=true):x=y:=by obtain⟨z,q,h⟩:=bY h;obtain⟨d,b,k⟩:=bY k;exact(cI.mp h).symm.trans<|(sI<|q.symm.trans b).trans<|cI.mp k
theorem CP(b:ax B)(S:BS B)(Z:At B loc ρ σ s)(I:cY B.c x=true)(J:aP sF loc x=some w)(O:RV ρ s.heap Y v)(f:kr w v=some u)(T:s.heap.Ns B.L m)(F:gG B ρ s.heap m loc)(p:m x=some P){Q:Value->Shared->Prop}(H:∀s',At B (bj sF loc x u) ρ σ s'->Q .none s'):B.wp (call (.builtin "list.append") [P,Y]) Q E s:=by
 have hp:ei B.c x=true:=by delta ei;refine Rr I<|Rr S.re ?_;rfl
 obtain⟨w',q,_,k⟩:=F x w J;rw[p]at q;haveI q:=sI q;subst q;clear J;obtain⟨d,vs,l,rfl,rfl,e,U,D,G⟩:=k hp;haveI W:=(a6 f).1;haveI f:=(a6 f).2;haveI f:=sI f;subst f;refine wpAny_list_append_plain U (λh' i t=>?_) (by refine Rr D.size ?_;haveI:=gx W;delta sizeLine;lia);have g:=Z.st.growC e (.inl rfl) t.extBut;haveI r:=i;refine r.elim λk' r=>?_;haveI M:B.L≠d:=λq=>by haveI:=(Z.st.apart d (B.L,B.L) B.lt (d,d) .pv Z.own e (.inl q.symm)<|.inl rfl).2;rw[S.lt]at this;injection this
 refine H _ ⟨Z.st.pvc e t.extBut s.toks ⟨_,r,.inl<|by simp⟩,Z.frs,Z.kp.pvc g t.extBut ⟨_,r⟩ G,Z.own,⟨m,js T λo=>t.extBut _ o M,λy c q=>?_⟩,Z.cellsG g⟩;by_cases A:y=x;·clear k H;subst A;rw[(fA fg loc y _).1 rfl]at q;haveI q:=sI q;subst q;exact⟨_,p,λz=>by rw[hp]at z;(exact cX z),λξ=>⟨d,_,_,rfl,rfl,e,i,by refine Rr Array.toList_push ?_;exact(D.mv g).app<|.cons (O.mv g) .nil,G⟩⟩
 ·rw[(fA fg loc x _).2 A]at q;obtain⟨z,e1,N,_⟩:=F y c q;haveI V:ei B.c y=false:=Bool.eq_false_iff.mpr λz=>A<|vK (MK z).1 I;exact⟨z,e1,λq=>(N q).mv g,λq=>by rw[V]at q;exact fT q⟩
theorem Fo(b:ax B)(S:BS B)(Z:At B loc ρ σ s)(H:B.H<|cz TP (n+1) B.c loc (.Expr e pos) σ K X)(U:Ks B K Q)(W:Xs B X E):B.wp (exec (.Expr e pos) B.env) Q E s:=by haveI hV:=(fa n).1 B b loc;cases G:lP B.c e with
 |none=>
  haveI H:=by haveI e1:cz TP (n+1) B.c loc (.Expr e pos) σ K X=match lP B.c e with|some p=>bb (aP sF loc p.1) λw=>ev TP n B.c loc p.2 σ (λv σ=>.av (kr w v) λw=>K .next (bj sF loc p.1 w) σ) λe σ=>X e loc σ|none=>grd (!jk e)<|ev TP n B.c loc e σ (λV σ=>K .next loc σ) λe σ=>X e loc σ:=rfl;rw[e1,G]at H;exact H
  exact b.grd H λhc H=>wpAny_Expr_any (hV e ρ σ s _ _ _ E Z H (λy t C v a i g hv f=>U _ _ _ _ _ _ i .next f) W.x) (xu b)<|mP<|cW hc|some q=>
  haveI H0:B.H<|bb (aP sF loc q.1) λw=>ev TP n B.c loc q.2 σ (λv σ=>.av (kr w v) λw=>K .next (bj sF loc q.1 w) σ) λe σ=>X e loc σ:=by
   haveI e1:cz TP (n+1) B.c loc (.Expr e pos) σ K X=match lP B.c e with|some p=>bb (aP sF loc p.1) λw=>ev TP n B.c loc p.2 σ (λv σ=>.av (kr w v) λw=>K .next (bj sF loc p.1 w) σ) λe σ=>X e loc σ|none=>grd (!jk e)<|ev TP n B.c loc e σ (λV σ=>K .next loc σ) λe σ=>X e loc σ:=rfl;rw[e1,G]at H;exact H
  clear H;obtain⟨nm,px,ap,P,rfl,J,T,O,g4,g5⟩:=D6 G;refine b.opt H0 λw N H=>wpAny_Expr_any ?_ (xu b)<|mP rfl;haveI hp:ei B.c q.1=true:=by delta ei;refine Rr T<|Rr S.re ?_;rfl
  refine cps λG_ I=>?_;obtain⟨m,hn,Y⟩:=Z.loc;obtain⟨wv,D,_,kk⟩:=Y q.1 w N;obtain⟨d,vs,l,rfl,rfl,e,⟨k,pl⟩,hr,cg⟩:=kk hp;refine I ?_;clear I;haveI J:=(cI.mp J).trans vc;clear G;subst J;refine wpAny_bind<|qL rfl<|wpAny_Name (wpAny_loadName_local b.fn (b.lcl O) hn D<|wpAny_bind<|wpAny_standAt ?_)<|iC b.ok<|lh O;haveI hs:[q.2].any fB=false:=by refine Rr List.any_cons<|Rr g4 ?_;rfl
  refine lq F.slot_list_append F.plainAttrs_list F.type_list_append hs (show 1<=20 by decide) g5 pl rfl rfl ?_;refine iJ (k:=λas σ=>match as with|[v]=>.av (kr (.fl l) v) λw=>K .next (bj sF loc q.1 w) σ|_=>stk) b hV (z6 b n) W.x [q.2] Z H λy t C us as i g j V f=>?_;cases j with|nil=>exact b.no f|@cons u a us as hu j=>cases j with|cons=>exact b.no f|nil=>refine b.av f λw' L f=>?_;refine cps λG_ I=>?_;obtain⟨o,es,ep,ho,hd,r⟩:=hn;obtain⟨_,sl,k2⟩:=g.data b id Z.own ho;refine I ?_;exact CP b S i T N hu L ⟨_,es,ep,k2,hd,r⟩ (Y.mv g) D λs' Z'=>U _ _ _ _ _ _ Z' .next f
theorem At.nil(d:c.sc=B.c.sc)(b:c.cells=B.c.cells)(Z:At {B with c:=c} loc ρ σ s):At B [] ρ σ s:=⟨Z.st,Z.frs,Z.kp,Z.own,Z.loc.imp λm q=>⟨q.1,nofun⟩,λx a e=>Z.cells x a<|Rl b.symm e⟩
theorem ax.c{c:Ctx}(b:ax B)(e:c.sc=B.c.sc)(g:c.hd=false->B.A.handled=none)(f:B.lt=.pv->c.ll=none):ax {B with c:=c}:={T:=b.T,cf:=b.cf,ok:=Rr e b.ok,stk:=b.stk,frames:=b.frames,frame:=b.frame,room:=b.room,units:=b.units,hd:=g,sc:=b.sc.trans e.symm,fn:=b.fn,gl:=b.gl,bi:=b.bi,above:=b.above,cg:=b.cg,lt:=b.lt,ll:=f}
theorem At.freeze(b:ax B)(S:BS B)(Z:At B loc ρ σ s):∃ρ',At {B with c:={B.c with re:=true}} loc ρ' σ s:=by
  have v:∀{y},ei {B.c with re:=true} y=false:=λ{y}=>by delta ei;rw[show(!true)=false from rfl,Bool.and_false]
  refine Z.loc.elim λm k=>k.elim λt p=>?_;by_cases D:∃x w,cY B.c x=true/\aP sF loc x=some w
  · refine cps λM L=>?_;obtain⟨x,w,hl,A⟩:=D;obtain⟨N,o,_,r⟩:=p x w A;haveI hp:ei B.c x=true:=by delta ei;refine Rr hl<|Rr S.re ?_;rfl
    obtain⟨d,vs,l,rfl,rfl,e,H,G,I⟩:=r hp;refine L ?_;haveI g:=Z.st.growR (T:=none) e;refine⟨ρ.re d none,Z.st.drop e,Z.frs.mv g,Z.kp.re g I.symm,g.ext _ _ (Rr S.lt nofun) Z.own,⟨m,t,λy c q=>?_⟩,Z.cellsG g⟩;obtain⟨z,e1,j,F⟩:=p y c q;refine⟨z,e1,λJ=>?_,λq=>by rw[v]at q;exact fT q⟩;cases C:ei B.c y with|false=>exact(j C).mv g|true=>clear hp r;obtain rfl:=vK (MK C).1 hl;rw[o]at e1;haveI e1:=sI e1;clear j F;subst e1;rw[A]at q;haveI q:=sI q;subst q;exact .fl_ H (Z.st.noD e)<|G.mv g
  ·refine⟨ρ,Z.st,Z.frs,Z.kp,Z.own,⟨m,t,λy c q=>?_⟩,Z.cells⟩;obtain⟨z,e1,j,_⟩:=p y c q;exact⟨z,e1,λJ=>j<|rq<|Bool.eq_false_iff.mpr λw=>D ⟨y,c,w,q⟩,λq=>by rw[v]at q;exact fT q⟩
theorem Dq(b:ax B)(S:BS B)(Z:At B loc ρ σ s)(H:B.H<|cz TP (n+1) B.c loc (.Return e pos) σ K X)(m:Ks B K Q)(p:Xs B X E):B.wp (exec (.Return e pos) B.env) Q E s:=by
 rcases e with _|e;·exact wpAny_Return_none<|m _ _ _ _ _ _ (Z.sub<|by intros;contradiction) (.ret .none) H
 ·obtain⟨ρ',t⟩:=Z.freeze b S;haveI q:=b.c (c:={B.c with re:=true}) rfl b.hd b.ll;exact wpAny_Return_some<|(fa n).1 _ q loc e ρ' σ s (λv σ=>K (.ret v) [] σ) (λe σ=>X e [] σ) _ E t H (λi j k v a d l o f=>m _ _ _ _ _ _ (At.nil (c:={B.c with re:=true}) rfl rfl d) (.ret o) f) λi j k v a d r f=>p _ _ _ _ _ _ (At.nil (c:={B.c with re:=true}) rfl rfl d) r f
theorem D7(h:rZ c TP t e=some x):∃d p,t=.Name x d/\e=.List [] p/\cY c x=true/\fD c x=true:=by refine cps λq m=>?_;obtain⟨y,b,h⟩:=P5 h;obtain⟨⟨l,p⟩,o,h⟩:=P5 h;refine(a6 h).elim λg h=>?_;haveI h:=sI h;obtain⟨g,r⟩:=MK g;obtain⟨g,k⟩:=MK g;obtain⟨i,j⟩:=MK g;obtain⟨d,b⟩:=f9 b;refine m ?_;exact Rl h ⟨d,p,b,(yX o).trans<|congrArg (λl=>Expr.List l p)<|P8 k,i,j⟩
theorem D8(b:ax B)(S:BS B)(hl:cY B.c x=true)(l:fD B.c x=true)(Z:At B loc ρ σ s)(H:B.H<|K .next (bj sF loc x<|.fl []) σ)(C:Ks B K Q):B.wp (exec (.Assign [.Name x F] (.List [] p) pos) B.env) Q E s:=by
 refine wpAny_Assign_stores (wpAny_List<|wpAny_items_nil ⟨Nat.zero_le _,?_⟩) rfl rfl;obtain⟨e,f⟩:=Z.st.newP (o:={cls:=.type "list",data:=.seq [].toArray}) rfl<|.inl (by simp);haveI a:=Z.keep b f e;refine a.loc.elim λm ζ0=>ζ0.elim λi D=>?_;haveI A:=S.lt▸a.own;refine wpAny_assign_Name<|wpAny_storeName_local (b.lcl l) i (λh' t k=>?_)<|se b;haveI hp:ei B.c x=true:=by delta ei;refine Rr hl<|Rr S.re ?_;rfl
 haveI v:s.heap.objs.size≠B.L:=λq=>by obtain⟨m,⟨o,_,_,r,_⟩,_⟩:=Z.loc;rw[<-q,cC]at r;exact nS r
 refine C _ _ {s with heap:=h',toks:=s.toks+1} _ _ _ (a.setL b S t k (s.toks+1) λg y c q=>?_) .next H;by_cases j:y=x;·clear l H t;subst j;rw[(fA fg loc y _).1 rfl]at q;haveI q:=sI q;subst q;exact⟨_,if_pos rfl,λz=>by rw[hp]at z;(exact cX z),λG=>⟨_,_,_,rfl,rfl,aB.new,⟨0,k.extBut _ _ v<|Qq _ rfl⟩,.nil,.inl<|Z.kp.dom _<|cC _⟩⟩
 ·rw[(fA fg loc x _).2 j]at q;obtain⟨w,e1,u⟩:=D.but e A nofun k.extBut y c q;exact⟨w,(if_neg j).trans e1,u⟩
end
section
variable{B:Bx}{ρ ρ':aB}{σ σ':AS}{h h':Heap}{s s':Shared}{loc loc':aq}{E:Value->Shared->Prop}{Q:Flow->Shared->Prop}{K:KS}{X:XS}{n:Nat}
theorem Dr(d:oH t=false)(f:(iG t&&iG e)=false):swappedStores [t] e env=pure none:=by cases t with
 |List=>exact cX d|Tuple=>cases e with|Tuple=>exact cX f|_=>rfl
 |_=>rfl
theorem Ds(h:oH t=false):assignAll v ((assignEach [t] env).map λc=>c.2)=PySem.assign t env v:=by cases t<;>first|rfl|exact cX h
theorem CZ(b:ax B)(S:BS B)(Z:At B loc ρ σ s)(H:B.H<|grd (!(jk e||oH t||iG t&&iG e))<|ev TP n B.c loc e σ (λv σ=>Mj.Internal.assign TP B.c (ev TP n B.c loc) t v loc σ K X) λe σ=>X e loc σ)(V:Ks B K Q)(N:Xs B X E):B.wp (exec (.Assign [t] e pos) B.env) Q E s:=by
 haveI hV:=(fa n).1 B b loc;refine b.grd H λG H=>?_;haveI G:=cW G;obtain⟨G,ht⟩:=Bool.or_eq_false_iff.mp G;obtain⟨hc,M⟩:=Bool.or_eq_false_iff.mp G;haveI hs:swapsWithSole [t] e pos.line B.env=pure false:=mP hc;refine wpAny_Assign_stores (hV e ρ σ s _ _ _ E Z H (λz k A v a y K₁ T d=>?_) N.x) hs<|Dr M ht;refine Rr (Ds M) ?_;refine b.oel d (λP d=>b.oel d (λP d=>?_) λq Y d=>?_) λq Y d=>?_;·exact b.grd d λhh d=>b.opt d λloc' hb d=>vI b S y (λhT=>b.hd<|by rw[hT,Bool.and_true]at hh;exact cW hh) T hb λs' Z' P P=>V _ _ _ _ _ _ Z' .next d
 ·obtain⟨p,e⟩:=yW Y;rw[e,arm_assign_Subscript];refine wpAny_bind<|wpAny_holding<|hV q.1 z k A _ _ _ E y d (λw r s₂ ov c i m F f=>?_) N.x;refine wpAny_bind<|wpAny_holding<|hV q.2 w r s₂ _ _ _ E i f (λD C I iv c u j U l=>?_) N.x;refine wpAny_bind<|wpAny_standAt<|wpAny_bind<|wpAny_holding<|CY b u (F.mv j.g) U ((T.mv m.g).mv j.g) l λO W s₄ J K₄ L=>?_;exact wpAny_release<|V _ _ _ _ _ _ J .next L
 ·obtain⟨o,x,p⟩:=q;refine Rr (nH Y) ?_;exact wpAny_bind<|wpAny_holding<|hV o z k A _ _ _ E y d (λw r s₂ ov c i m F f=>wpAny_bind<|wpAny_standAt<|wpAny_bind<|wpAny_holding<|Fj b i F (T.mv m.g) f λD C I u j l=>wpAny_release<|V _ _ _ _ _ _ u .next l) N.x
theorem Dt(b:ax B)(S:BS B){ts:List Expr}(Z:At B loc ρ σ s)(H:B.H<|cz TP (n+1) B.c loc (.Assign ts e pos) σ K X)(f:Ks B K Q)(j:Xs B X E):B.wp (exec (.Assign ts e pos) B.env) Q E s:=by refine b.sole H λt q a=>?_;clear H;subst q;cases d:rZ B.c TP t e with|none=>refine CZ (n:=n) b S Z ?_ f j;revert a;refine Rr d ?_;exact id|some x=>obtain⟨k,p,rfl,rfl,g,i⟩:=D7 d;refine D8 b S g i Z ?_ f;revert a;refine Rr d ?_;exact id
theorem Hk(b:ax B)(S:BS B)(Z:At B loc ρ σ s)(H:B.H<|cz TP (n+1) B.c loc (.AugAssign t C e pos) σ K X)(N:Ks B K Q)(T:Xs B X E):B.wp (exec (.AugAssign t C e pos) B.env) Q E s:=by refine b.opt H λx J H=>b.grd H λr A=>b.opt A λa z G=>?_;clear H A;·obtain⟨Y,rfl⟩:=f9 J;obtain⟨r,L⟩:=MK r;refine(MK r).elim λD w=>?_;cases C with
  |Add=>refine cps λV M=>?_;obtain⟨m,F,P⟩:=Z.fr b;obtain⟨v,y,l,_⟩:=P x a z;refine M ?_;have l:=l<|rq<|cW w;refine wpAny_AugAssign_Name<|wpAny_loadName_local b.fn (b.lcl D) F.ns y<|(fa n).1 B b loc e ρ σ s _ _ _ E Z G (λq p k u c o f O d=>?_) T.x;have l:=(l.mv f.g).inv;clear z G;cases a with
   |int i=>cases c with|int j=>clear y;obtain⟨t,rfl⟩:=l;obtain⟨W,rfl⟩:=O.inv;exact wpAny_iadd_int<|lx b S (o.toks b _) D (cW w) (.int (i+j) k.toks) λs' U I I=>N _ _ _ _ _ _ U .next d|_=>exact b.no d
   |_=>exact b.no d
  |_=>exact fT L
theorem Du(b:ax B){ts:List Expr}(Z:At B loc ρ σ s)(H:B.H<|cz TP (n+1) B.c loc (.Delete ts pos) σ K X)(V:Ks B K Q)(O:Xs B X E):B.wp (exec (.Delete ts pos) B.env) Q E s:=by haveI hV:=(fa n).1 B b loc;refine b.sole H λt q f=>?_;clear H;subst q;refine b.opt f λq hq H=>b.opt H λd W H=>b.grd H λhg H=>b.opt H λY hl H=>?_;clear f;·obtain⟨o,i⟩:=q;obtain⟨q,rfl⟩:=yW hq;obtain⟨p,e⟩:=yY W;obtain⟨P,U⟩:=MK hg;rw[hl,Option.isNone_iff_eq_none.mp P,Option.isNone_iff_eq_none.mp U]at e;··refine Rr e ?_;refine wpAny_Delete<|wpAny_deleteEach_cons ?_;refine wpAny_bind<|hV o ρ σ s _ _ _ E Z H (λk j l v a C L T y=>wpAny_bind<|wpAny_holding<|wpAny_Slice<|hV Y k j l _ _ _ E C y (λG F s₂ u c z m hu r=>wpAny_pure<|wpAny_pure ?_) O.x) O.x;haveI J:=cw s₂.heap {cls:=.type "slice",data:=.fields #[u,.none,.none]};exact wpAny_bind<|wpAny_standAt<|wpAny_bind<|wpAny_holding (CO b (z.grow b J s₂.toks) ((T.mv m.g).mv<|.grow J) (hu.mv<|.grow J) (Heap.IsSliceOf.new ..) r λD I N A M w=>wpAny_release<|wpAny_deleteEach_nil<|V _ _ _ _ _ _ A .next w)
theorem JU(b:ax B)(S:BS B)(l:lS n)(Z:At B loc ρ σ s)(H:B.H<|cz TP (n+1) B.c loc (.If t a c pos) σ K X)(j:Ks B K Q)(i:Xs B X E):B.wp (exec (.If t a c pos) B.env) Q E s:=wpAny_If<|(fa n).2 B b loc t ρ σ s _ _ _ E Z H (λf g m z d k e=>by cases z with|true=>exact iD (l B b S) i a d e j|false=>exact iD (l B b S) i c d e j) i.x
theorem At.note(b:ax B)(S:BS B)(Z:At B loc ρ σ s)(e:ρ p<|.ex C f)(c:A.frames=B.A.frames){Q:Unit->Shared->Prop}(h:∀ρ' s',At B loc ρ' σ s'->ρ' p (.ex C f)->xr s'.heap p.1->Q () s'):wpAny (model B.G.prog B.G.w) A (noteFrame (.ref p.1) B.env) Q E s:=wC (c.trans<|S.top▸b.frames) (S.top▸Z.frs) Z.st e λρ' h' d a t=>h ρ' _ (Z.keep b a d) (a.g.ext _ _ nofun e) t
theorem At.flight(b:ax B)(Z:At B loc ρ σ s)(e:ρ p<|.ex C f){Q:Unit->Shared->Prop}(h:∀s',At B loc ρ σ s'->s'.heap.get? p.1=s.heap.get? p.1->Q () s'):wpAny (model B.G.prog B.G.w) A (setFlight (.ref p.1) fl) Q E s:=vj Z.st e λh' c a k=>h _ (Z.keep b a c) k
theorem qP(b:ax B)(S:BS B)(Z:At B loc ρ σ s)(r:XV ρ v a)(H:∀ρ' s',At B loc ρ' σ s'->XV ρ' v a->E v s')(d:j.frames=B.A.frames):notedBy (model B.G.prog B.G.w) j B.env (cameBackBy (model B.G.prog B.G.w) l B.env E) v s:=by obtain⟨p,C,f,rfl,rfl,e⟩:=r;refine Z.note b S e d λc x q e1⟨o,vs,T,t,k,m⟩=>?_;refine wpAny_bind<|wpAny_field t k m ?_;exact q.flight b e1 λi g u=>H c i g ⟨p,C,f,rfl,rfl,e1⟩
theorem At.p(Z:At B loc ρ σ s):At {B with P:=P} loc ρ σ s:=⟨Z.st,Z.frs,Z.kp,Z.own,Z.loc,Z.cells⟩
theorem At.q(Z:At {B with P:=P} loc ρ σ s):At B loc ρ σ s:=⟨Z.st,Z.frs,Z.kp,Z.own,Z.loc,Z.cells⟩
theorem ax.p(b:ax B)(h:¬P .stuck):ax {B with P:=P}:={T:=b.T,cf:=b.cf,ok:=b.ok,stk:=h,frames:=b.frames,frame:=b.frame,room:=b.room,units:=b.units,hd:=b.hd,sc:=b.sc,fn:=b.fn,gl:=b.gl,bi:=b.bi,above:=b.above,cg:=b.cg,lt:=b.lt,ll:=b.ll}
noncomputable def Ot(n:Nat)(c:Ctx)(t:Expr)(bd:List Stmt)(m:Nat)(loc:aq)(σ:AS):Cd:=i7 (λloc σ k x=>ts TP n c loc t σ k x) (λloc σ K X=>Mj.Internal.execs (cz TP n c) bd loc σ K X) m loc σ
def Ou(B:Bx)(K:KS)(X:XS)(n:Nat)(t:Expr)(bd:List Stmt)(m:Nat)(s:Shared):Prop:=∃loc ρ σ,At B loc ρ σ s/\eN B K X ((Ot n B.c t bd m loc σ).ev B.cf)
theorem D9(b:ax B)(S:BS B)(V:lS n)(Z:At B loc ρ σ s)(H:B.H<|cz TP (n+1) B.c loc (.While t J o pos) σ K X)(I:Ks B K Q)(L:Xs B X E):B.wp (exec (.While t J o pos) B.env) Q E s:=by refine b.grd H λY y=>?_;clear H;obtain rfl:=P8 Y;haveI O:ax {B with P:=eN B K X}:=b.p b.stk;haveI S2:BS {B with P:=eN B K X}:=⟨S.top,S.lt,S.re⟩;refine wpAny_While<|codeAny_whileLoop (Ou B K X n t J) (λm s' hI=>?_) iP ⟨_,_,_,Z,sd y⟩;refine cps λG_ M=>?_;obtain⟨loc',ρ',σ',Z',T⟩:=hI;refine M ?_;clear M;cases m with|zero=>exact(b.stk T).elim|succ m=>refine(fa n).2 {B with P:=eN B K X} O loc' t ρ' σ' s' _ _ _ _ Z'.p T (λw l C z i U g=>?_) λw l C v a i r g=>qP b S (At.q i) r (λj s₂ d D=>L _ _ _ _ _ _ d D g) rfl;cases z with
 |true=>refine iD (X:=i6) (V _ O S2) (λj u s₂ k v a d r e=>qP b S ((At.q d).sub<|by intros;contradiction) r (λG N F A=>L _ _ _ _ _ _ F A e) rfl) J i g λj u s₂ k fl f d W e=>?_;cases W with|next=>exact⟨m,Nat.lt_succ_self _,_,_,_,(At.q d).filt (p:=λx=>loc'.any λq=>sF q.1 x),e⟩|cont=>exact⟨m,Nat.lt_succ_self _,_,_,_,(At.q d).filt (p:=λx=>loc'.any λq=>sF q.1 x),e⟩|brk=>exact I _ _ _ _ _ _ ((At.q d).filt (p:=λx=>loc'.any λq=>sF q.1 x)) .next e|ret q=>exact I _ _ _ _ _ _ ((At.q d).sub<|by intros;contradiction) (.ret q) e
 |false=>exact wpAny_execs_nil<|I _ _ _ _ _ _ (At.q i) .next g
end
section
variable{B:Bx}{ρ ρ' ρ'':aB}{σ σ':AS}{h h' h'':Heap}{s s':Shared}{loc loc':aq}{E:Value->Shared->Prop}{Q:Flow->Shared->Prop}{K:KS}{X:XS}{n:Nat}{I:Addr}
theorem bz.comp(x:bz Y ρ h ρ' h')(y:bz c ρ' h' ρ'' h'')(j:∀a,c a->h.get? a=none\/Y a):bz Y ρ h ρ'' h'':=by have k:∀p o,¬Y p->h.get? p=some o->¬c p:=λp o n e q=>(j p q).elim (λz=>by rw[z]at e;injection e) n;exact⟨x.g.trans y.g,λb e=>x.dom b<|y.dom b e,λp o n t e=>(x.fr p o n t e).elim λi e'=>y.fr p {o with slots:=i} (k _ o n e) (x.g.ext _ _ nofun t) e',λp o n t e=>y.pv p o (k _ o n e) (x.pv p o n t e).1 (x.pv p o n t e).2⟩
noncomputable def Bx.turn(B:Bx)(P:S->Prop)(I:Addr)(ρ:aB)(h:Heap):Bx:={B with P:=P,X:=λa=>B.Cg a/\a≠I,ρ₀:=ρ,h₀:=h}
theorem Fp(Z:At B loc ρ σ s)(i:∀vs,¬s.heap.PlainList I vs):At (B.turn P I ρ s.heap) loc ρ σ s:=⟨Z.st,Z.frs,.rfl,Z.own,Z.loc.imp λm q=>⟨q.1,λx a e=>(q.2 x a e).imp λv k=>⟨k.1,k.2.1,λz=>by obtain⟨d,vs,l,g,o,j,b,c,f⟩:=k.2.2 z;exact⟨d,vs,l,g,o,j,b,c,.inr ⟨f,λq=>i vs<|Rl q b⟩⟩⟩⟩,Z.cells⟩
theorem ly(b:bz B.X B.ρ₀ B.h₀ ρ h)(Z:At (B.turn P I ρ h) loc ρ' σ' s'):At B loc ρ' σ' s':=haveI c:∀a,(B.turn P I ρ h).Cg a->B.Cg a:=λa q=>q.elim (λq=>.inl<|b.dom a q) λq=>q.1
 ⟨Z.st,Z.frs,b.comp Z.kp λa q=>q.1,Z.own,Z.loc.imp λm q=>⟨q.1,λx a e=>(q.2 x a e).imp λv k=>⟨k.1,k.2.1,λz=>by obtain⟨d,vs,l,g,o,i,f,p,j⟩:=k.2.2 z;exact⟨d,vs,l,g,o,i,f,p,c d j⟩⟩⟩,Z.cells⟩
theorem ax.turn(b:ax B)(h:¬P .stuck)(a:B.L≠I):ax<|B.turn P I ρ hp:={T:=b.T,cf:=b.cf,ok:=b.ok,stk:=h,frames:=b.frames,frame:=b.frame,room:=b.room,units:=b.units,hd:=b.hd,sc:=b.sc,fn:=b.fn,gl:=b.gl,bi:=b.bi,above:=b.above,cg:=.inr ⟨b.cg,a⟩,lt:=b.lt,ll:=b.ll}
theorem CQ(x:dY ρ s.heap I l n){Q:Unit->Shared->Prop}(h:Q () s):wpAny (model prog w) A (letOwnedTupleGo t (.ref I) v) Q E s:=by
 refine cps λj c=>?_;obtain⟨o,vs,g,f,b⟩:=nk x;refine c ?_;clear c;have i:∀a:Addr,wpAny (model prog w) A (do let o<-load I match o.cls,o.data with
   |.type n,.fields vs=>if["enumerate","zip","dict_itemiterator","dict_reverseitemiterator","odict_iterator","itertools.zip_longest","itertools.pairwise"].contains n&&vs[0]?==some (rawInt a)then
     rule "for.unpacks-the-owned-tuple"updateField I 0 .none|_,_=>pure ()) Q E s:=λa=>by refine wpAny_bind<|wpAny_load g ?_;refine Rr f ?_;rcases b with b|b|b<;>refine Rr b ?_<;>exact wpAny_pure h
 cases t<;>first|exact wpAny_pure h|skip
 all_goals cases v<;>first|exact i _|exact wpAny_pure h
theorem At.pvc(b:ax B)(Z:At B loc ρ σ s)(e:ρ (I,I) .pv)(y:B.L≠I)(r:B.Cg I)(w:∀vs,¬s.heap.PlainList I vs)(c:Heap.ExtBut I s.heap h')(f:∃o,h'.get? I=some o/\NT o)(p:Nat):At B loc ρ σ {s with heap:=h',toks:=p}:=by have g:=Z.st.growC e (.inl rfl) c;refine⟨Z.st.pvc e c p f,Z.frs,Z.kp.pvc g c (f.imp λF=>And.left) r,Z.own,Z.loc.imp λm q=>⟨js q.1 λo=>c _ o y,λx a e=>(q.2 x a e).imp λv k=>⟨k.1,λz=>(k.2.1 z).mv g,λz=>?_⟩⟩,Z.cellsG g⟩;obtain⟨d,vs,l,t,A,u,j,D,C⟩:=k.2.2 z;exact⟨d,vs,l,t,A,u,ki j λo=>c _ o λq=>w vs<|Rl q j,D.mv g,C⟩
theorem At.lose(b:ax B)(S:BS B)(Z:At B loc ρ σ s)(e:ρ (I,I) .pv)(A:B.L≠I)(p:B.h₀.get? I=none)(y:∀vs,¬s.heap.PlainList I vs)(c:Heap.ExtBut I s.heap h'):∃ρ',At B loc ρ' σ {s with heap:=h'}:=by refine(Z.st.lose e c).elim λw g=>?_;refine⟨_,w,Z.frs.mv g,Z.kp.lose e g c p,g.ext _ _ (Rr S.lt nofun) Z.own,Z.loc.imp λm q=>⟨js q.1 λo=>c _ o A,λx a e=>(q.2 x a e).imp λv k=>⟨k.1,λz=>(k.2.1 z).mv g,λz=>?_⟩⟩,Z.cellsG g⟩;obtain⟨d,vs,l,t,C,u,j,D,r⟩:=k.2.2 z;haveI f:d≠I:=λq=>y vs<|Rl q j;exact⟨d,vs,l,t,C,.inl ⟨u,λq=>f<|congrArg Prod.fst q⟩,ki j λo=>c _ o f,D.mv g,r⟩
theorem sh(x:dY ρ h I l n)(vs:Array Value):¬h.PlainList I vs:=λ⟨m,q⟩=>by obtain⟨o,c,a,b,_⟩:=nk x;rw[q]at a;haveI a:=sI a;subst a;injection b
noncomputable def Ov(n:Nat)(c:Ctx)(t:Expr)(bd:List Stmt)(r:List AV)(loc:aq)(σ:AS):Cd:=bk (sQ c t<|Mj.Internal.execs (cz TP n c) bd) r loc σ
def Ow(B:Bx)(K:KS)(X:XS)(n:Nat)(t:Expr)(bd:List Stmt)(I:Addr)(l:List AV)(m:Nat)(s:Shared):Prop:=∃done rest loc ρ σ,l=done++rest/\m=rest.length/\At B loc ρ σ s/\ρ (I,I) .pv/\dY ρ s.heap I l done.length/\eN B K X ((Ov n B.c t bd rest loc σ).ev B.cf)
theorem Hl(b:ax B)(S:BS B)(hx:lS n)(Z:At B loc ρ σ s)(H:B.H<|cz TP (n+1) B.c loc (.For t F bd o pos) σ K X)(KK:Ks B K Q)(XX:Xs B X E):B.wp (exec (.For t F bd o pos) B.env) Q E s:=by
 refine b.grd H λhg M=>?_;clear H;obtain⟨hg,g3⟩:=MK hg;obtain⟨g1,g2⟩:=MK hg;obtain rfl:=P8 g3;have hh:=b.hd<|cW g1;haveI hs:∀v,foldedSetIterable F B.env v=pure v:=λv=>by clear M hg;clear hg;cases F<;>first|rfl|injection g2
 refine wpAny_For ((fa n).1 B b loc F ρ σ s _ _ _ E Z M (λρ₁ σ₁ s₁ v a A K₁ hv j=>b.av j λw hit j=>?_) XX.x) hs;cases w with
 |fl l=>
  haveI j:=sd j;refine wy A.st hv hit λobI KI ZI II=>?_;generalize hI:s₁.heap.objs.size=I at*;have hI0:=hI▸cC _;have N:=A.kp.dom I hI0;have hL:B.L≠I:=λq=>by obtain⟨m,⟨o,_,_,ho,_⟩,_⟩:=A.loc;rw[q,hI0]at ho;injection ho
  refine codeAny_forLoop_any (Ow B K X n t bd I l) (λm s' hInv=>?_) l.length ⟨[],l,_,_,_,rfl,rfl,A.keep b KI ZI,aB.new,II,j⟩;refine cps λG_ g_=>?_;obtain⟨done,i,loc',ρ',σ',hl,hm,Z',e,O,H'⟩:=hInv;refine g_ ?_;refine wx hh Z'.st e O (λa' ha h5 tk5 v5 V g5 Z5 Y hv5=>?_) λhr h5 V=>?_;·cases i with|nil=>rw[hl,Qc,qJ]at ha;injection ha|cons a i=>
   rw[hl,eI]at ha;obtain rfl:=sI ha;haveI A5:=Z'.pvc b e hL (.inl N) (sh O) V (nI Y) tk5;refine CQ Y ?_;refine(b.p (P:=eN B K X) b.stk).opt H' λloc2 hb H'=>?_;refine vI b S A5 (λξ=>hh) hv5 hb λs6 Z6 g6 hb6=>?_;haveI U:=Y.mv g6 λo=>hb6 I o<|Ne.symm hL;haveI b3:=b.turn (P:=eN B K X) b.stk hL (ρ:=ρ') (hp:=s6.heap);haveI S3:BS<|B.turn (eN B K X) I ρ' s6.heap:=⟨S.top,S.lt,S.re⟩;haveI pI:∀{y T D G},At (B.turn (eN B K X) I ρ' s6.heap) G y T D->y (I,I) .pv/\dY y D.heap I l (done.length+1):=λz=>by refine(nI U).elim λoI ζ0=>ζ0.elim λhoI ξ=>?_;haveI k:=z.kp.pv (I,I) oI (λq=>q.2 rfl) e hoI;exact⟨k.1,U.mv z.kp.g λo q=>(z.kp.pv (I,I) o (λq=>q.2 rfl) e q).2⟩
   haveI e1:l=done++[a]++i:=by rw[hl,Qd];rfl
   haveI e2:(done++[a]).length=done.length+1:=Qa;haveI e3:i.length<m:=by refine Rr hm ?_;exact Nat.lt_succ_self _
   refine iD (X:=i6) (hx _ b3 S3) (λC W s₂ J v a d r u=>qP b S ((ly Z6.kp d).sub<|by intros;contradiction) r (λy D z r₃=>XX _ _ _ _ _ _ z r₃ u) rfl) bd (Fp Z6<|sh U) H' λC W s₂ J fl f d hf u=>?_;cases hf with|next=>exact⟨_,e3,_,i,_,_,_,e1,rfl,(ly Z6.kp d).filt (p:=λx=>loc'.any λq=>sF q.1 x),(pI d).1,e2.symm▸(pI d).2,u⟩|cont=>exact⟨_,e3,_,i,_,_,_,e1,rfl,(ly Z6.kp d).filt (p:=λx=>loc'.any λq=>sF q.1 x),(pI d).1,e2.symm▸(pI d).2,u⟩|brk=>exact KK _ _ _ _ _ _ ((ly Z6.kp d).filt (p:=λx=>loc'.any λq=>sF q.1 x)) .next u|ret q=>exact KK _ _ _ _ _ _ ((ly Z6.kp d).sub<|by intros;contradiction) (.ret q) u
  ·clear hm;cases i with|cons a i=>rw[hl,eI]at hr;injection hr|nil=>obtain⟨C,d⟩:=Z'.lose b S e hL N (sh O) V;exact wpAny_execs_nil<|KK _ _ _ _ _ _ d .next H'
 |_=>exact b.no j
theorem Dv(r:RV ρ h v a)(e:rb TP a=some C):∃p f,v=.ref p.1/\a=.fi C f/\ρ p (.ex C f)/\TP.exc C=true:=by cases a with
 |fi d f=>
  refine(a6 e).elim λhC e=>?_;haveI e:=sI e;subst e;rcases r.inv with⟨p,rfl,q⟩|⟨n,_⟩;·exact⟨p,f,rfl,rfl,q,hC⟩
  ·rw[hC]at n;injection n|_=>injection e
theorem Ea(b:ax B)(S:BS B)(Z:At B loc ρ σ s)(H:B.H<|cz TP (n+1) B.c loc (.Raise e r pos) σ K X)(D:Xs B X E):B.wp (exec (.Raise e r pos) B.env) Q E s:=by refine b.grd H λt j=>b.opt j λe' N d=>?_;clear H j;subst N;obtain⟨P,U⟩:=MK t;clear t;obtain rfl:=Option.isNone_iff_eq_none.mp U;haveI W:=b.hd<|cW P;refine(?_:B.wp (do standAt pos;raiseStmt B.env (some do let v<-eval e' B.env;standAt pos;pure v) none) Q E s);refine wpAny_bind<|wpAny_standAt ?_;refine wpAny_bind<|wpAny_bind<|(fa n).1 B b loc e' ρ σ s _ _ _ E Z d (λm o g v a i L Y d=>b.opt d λC hC d=>?_) D.x;refine wpAny_bind<|wpAny_standAt<|wpAny_pure ?_;obtain⟨p,f,rfl,rfl,q,hx⟩:=Dv Y hC;refine cps λG_ O=>?_;obtain⟨V,b2,b3⟩:=b.T.exb C hx;obtain⟨hne,F,_,a0,tb,l,_⟩:=i.st.conc _ _ q;refine O ?_;haveI u:=i.inK;haveI t1:Looks (model B.G.prog B.G.w) g.heap (typeOf<|.ref p.1)<|.ref C:=(Looks.ld l).andThen .now;haveI i1:Looks (model B.G.prog B.G.w) g.heap (isInstance (.ref p.1)<|.type "BaseException") true:=t1.andThen<|looks_mroIn u V;haveI A:Looks (model B.G.prog B.G.w) g.heap (isType<|.ref p.1) false:=(Looks.ld l).andThen .now;haveI ec:Looks (model B.G.prog B.G.w) g.heap (isExcClass<|.ref p.1) false:=A.andThen .now;haveI m1:Looks (model B.G.prog B.G.w) g.heap (typeOf<|.ref C)<|.type "type":=looks_typeIn u b2;refine wpAny_bind<|wpAny_pure ?_;refine wpAny_bind<|wpAny_holding ?_;refine wpAny_bind<|ec.here ?_;refine wpAny_bind<|i1.here ?_;refine wpAny_pure ?_;refine wpAny_bind<|A.here ?_;refine wpAny_bind<|wpAny_bind<|t1.here<|wpAny_bind<|m1.here ?_;refine wpAny_pure<|wpAny_bind<|i.flight b q λs2 Z2 ξ=>?_;refine wpAny_bind<|wpAny_handled ?_;refine Rr W ?_;haveI fin:=D _ _ _ _ _ _ Z2 ⟨p,C,f,rfl,rfl,q⟩ d;exact wpAny_throw fin
theorem Dw{K:Frag}(e:clsIn K C=some cd):∃c d s,K.lookup C=some ⟨c,d,.cls cd,s⟩:=by delta clsIn at e;revert e;cases K.lookup C with|none=>exact nS|some o=>obtain⟨c,d,b,f⟩:=o;cases b with|cls x=>exactλe=>⟨c,d,f,Rr (sI e) rfl⟩|_=>exact nS
theorem C0(T:iR G)(Z:St G ρ σ s)(e:ρ p<|.ex C f)(hC:TP.exc C=true)(k:TP.exc b=true){Q:Bool->Shared->Prop}(h:Q (TP.sub C b) s):wpAny (model G.prog G.w) A (excMatches (.ref p.1)<|.ref b) Q E s:=by
 refine cps λJ y=>?_;obtain⟨u,t,l⟩:=T.exb b k;obtain⟨z,F,_,H,L,i,_⟩:=Z.conc _ _ e;refine y ?_;haveI g:=G.inK.keeps Z.base;haveI t1:Looks (model G.prog G.w) s.heap (typeOf<|.ref p.1)<|.ref C:=(Looks.ld i).andThen .now;haveI r:Looks (model G.prog G.w) s.heap (typeOf<|.ref b)<|.type "type":=looks_typeIn g t;haveI m:Looks (model G.prog G.w) s.heap (isInstance (.ref b)<|.type "tuple") false:=r.andThen<|Looks.of_pure (by kernel_rfl);haveI v:Looks (model G.prog G.w) s.heap (isType<|.ref b) true:=by obtain⟨cd,o⟩:=Option.isSome_iff_exists.mp l;obtain⟨c,d,M,q⟩:=Dw o;exact(Looks.ld<|g _ _ q).andThen .now
 haveI D:Looks (model G.prog G.w) s.heap (isExcClass<|.ref b) true:=v.andThen<|looks_mroIn g u;haveI x:Looks (model G.prog G.w) s.heap (isSubtype (.ref C)<|.ref b)<|TP.sub C b:=looks_mroIn g<|T.sub C b hC k;refine wpAny_bind<|m.here ?_;refine wpAny_bind<|wpAny_pure ?_;refine wpAny_bind ?_;rw[List.forIn_cons];refine wpAny_bind<|wpAny_bind<|D.here ?_;refine wpAny_pure ?_;refine wpAny_pure<|wpAny_bind<|t1.here<|wpAny_bind ?_;rw[List.forIn_cons];refine wpAny_bind<|wpAny_bind<|x.here ?_;revert h;cases TP.sub C b<;>intro h;·skip;refine wpAny_pure ?_;exact wpAny_pure<|wpAny_pure h
 ·skip;exact wpAny_pure<|wpAny_pure<|wpAny_pure h
theorem C1(b:ax B)(Z:At B loc ρ σ s)(e:v9 TP B.c t=some l){Q:Value->Shared->Prop}(h:Q (.ref l) s):wpAny (model B.G.prog B.G.w) A (eval t B.env) Q E s:=by
 obtain⟨x,m,e'⟩:=P5 e;obtain⟨p,rfl⟩:=f9 m;rcases jy e with⟨d,e⟩|⟨_,e⟩;·haveI d:=jj (c:=.globalImplicit) d;refine(jr e).elim λv ζ0=>ζ0.elim λi e=>?_;rw[DM e]at i;obtain⟨f,e1,k⟩:=b.T.gl _ _ i;obtain rfl:f=.ref _:=k.inv;haveI g:=B.G.glob.keeps Z.st.base;rw[<-b.gl]at g;exact Calls.Name_function_global b.fn (b.kind d) (Calls.loadGlobal_global g e1 h)<|iC b.ok d
 ·injection e
noncomputable def Bx.mark(B:Bx)(v:Option Value):Bx:={B with A:=B.A.mark v,c:={B.c with hd:=true}}
theorem ax.mark(b:ax B):ax<|B.mark v:={T:=b.T,cf:=b.cf,ok:=b.ok,stk:=b.stk,frames:=b.frames,frame:=b.frame,room:=b.room,units:=b.units,hd:=by intros;contradiction,sc:=b.sc,fn:=b.fn,gl:=b.gl,bi:=b.bi,above:=b.above,cg:=b.cg,lt:=b.lt,ll:=b.ll}
theorem At.mark(Z:At B loc ρ σ s):At (B.mark v) loc ρ σ s:=⟨Z.st,Z.frs,Z.kp,Z.own,Z.loc,Z.cells⟩
theorem At.unmark(Z:At (B.mark v) loc ρ σ s):At B loc ρ σ s:=⟨Z.st,Z.frs,Z.kp,Z.own,Z.loc,Z.cells⟩
end
section
variable{B:Bx}{ρ ρ':aB}{σ σ':AS}{h h':Heap}{s s':Shared}{loc loc':aq}{E:Value->Shared->Prop}{Q:Flow->Shared->Prop}{K:KS}{X:XS}{n:Nat}
theorem At.unbind(b:ax B)(S:BS B)(Z:At B loc ρ σ s)(t:fD B.c x=true)(hl:cY B.c x=false)(O:RV ρ s.heap v a){Q:Unit->Shared->Prop}(H:∀s',At B (loc.filter λp=>!sF p.1 x) ρ σ s'->aY ρ s.heap ρ s'.heap->Q () s'):B.wp (do bindName B.env x .none;unbindBehindTheSuite B.env x pos) Q E s:=by
 refine wpAny_bind<|wpAny_bindName<|lx b S Z t hl .none λo f G C=>?_;refine cps λN F=>?_;obtain⟨P,i,g⟩:=f.loc;obtain⟨M,k,_⟩:=g x .none<|(fA fg loc x .none).1 rfl;refine F ?_;refine wpAny_onRaise<|wpAny_unbindName_local (b.lcl t) i k (se b) λD u l d=>?_;have e:=S.lt▸f.own;haveI J:=f.st.growC e (.inl rfl) d.extBut;refine H {o with heap:=D} (f.setL b S l d o.toks λC y c q=>?_)<|G.trans J;obtain⟨L,m⟩:=k9 (p:=λz=>!sF z x) loc q;have r:y≠x:=λz=>by rw[z,jf]at m;exact fT m
 obtain⟨w,e1,I⟩:=g.but f.st e nofun d.extBut y c<|((fA fg loc x .none).2 r).trans L;exact⟨w,(if_neg r).trans e1,I⟩
theorem FV.mv(r:FV ρ h fl f)(g:aY ρ h ρ' h'):FV ρ' h' fl f:=by
 rcases r with _|_|_|r;·exact .next
 ·exact .brk
 ·exact .cont
 ·exact .ret<|r.mv g
theorem Hm(b:ax B)(S:BS B)(hx:lS n)(Z:At B loc ρ σ s)(H:B.H<|cz TP (n+1) B.c loc (.Try bd hs o f pos) σ K X)(P:Ks B K Q)(XX:Xs B X E):B.wp (exec (.Try bd hs o f pos) B.env) Q E s:=by refine b.grd H λW G=>b.sole G λhl hh d=>?_;clear H G;subst hh;obtain⟨W,g3⟩:=MK W;obtain⟨g1,g2⟩:=MK W;clear W;clear W;obtain rfl:=P8 g2;obtain rfl:=P8 g3;cases hl with|ExceptHandler ty nm hb hpos=>
  refine b.grd d λhg2 j=>b.opt j λt ht M=>?_;clear d j;subst ht;obtain⟨hne,hnm⟩:=MK hg2;refine wpAny_Try_except<|iD (hx B b S) (λN O Y A v a i r d=>?_) bd Z M λN O Y A fl f i hf d=>?_
  ·refine b.opt d λC hC j=>b.opt j λD hD I=>b.grd I λhDx m=>?_;clear d j M I;obtain⟨p,C',f,rfl,rfl,q⟩:=r;refine cps λG_ g_=>?_;refine(a6 hC).elim λhCx e=>?_;cases e;refine g_ ?_;clear g_;refine i.note b S q rfl λρ₂ s₂ V g tr=>?_;refine V.flight b g λs₃ l e₃=>?_;refine wpAny_handleBy_cons (codeAny_handlers_test ?_) (by intro q;cases q);refine C1 b l hD ?_;refine C0 b.T l.st g hCx hDx ?_;cases hb':TP.sub C D with|false=>rw[hb']at m;refine wpAny_handleBy_nil ?_;refine cps λG_ g_=>?_;obtain⟨o,vs,T',k1,k2,k3⟩:=tr;refine g_ ?_;refine wpAny_bind<|wpAny_field (e₃.trans k1) k2 k3 ?_;exact wpAny_bind<|l.flight b g λF k u=>wpAny_throw<|XX _ _ _ _ _ _ k ⟨p,C,f,rfl,rfl,g⟩ m|true=>rw[hb']at m;clear hg2;cases hb with|nil=>exact fT hne|cons J z=>
      haveI bm:=b.mark (v:=some<|.ref p.1);haveI Sm:BS<|B.mark<|some<|.ref p.1:=⟨S.top,S.lt,S.re⟩;haveI ir:∀E',Xs (B.mark<|some<|.ref p.1) (λu u u=>Mj.Internal.stk) E':=λE' u u u u u u u u H=>b.no H;rcases nm with _|x;·refine codeAny_handlers_suite<|l.flight b g λF k u=>?_;exact iD (hx _ bm Sm) (ir _) (J::z) k.mark m λρ₅ σ₅ s₅ loc₅ fl f w hf y=>P _ _ _ _ _ _ w.unmark hf y
      ·refine(MK hnm).elim λx1 x2=>?_;haveI x2:=cW x2;refine codeAny_handlers_suite_as<|l.flight b g λF k u=>?_;refine lx bm Sm k.mark x1 x2 (.ex g) λs₅ w u u=>?_;refine iD (hx _ bm Sm) (ir _) (J::z) w m λρ₆ σ₆ s₆ loc₆ fl f Z₆ hf y=>?_;exact At.unbind b S Z₆.unmark x1 x2 RV.none λs₇ U g₇=>P _ _ _ _ _ _ U (hf.mv g₇) y
  · rcases hf with _|_|_|r;·exact wpAny_execs_nil<|P _ _ _ _ _ _ i .next d
    ·exact P _ _ _ _ _ _ i .brk d
    ·exact P _ _ _ _ _ _ i .cont d
    ·exact P _ _ _ _ _ _ i (.ret r) d
theorem JV:∀n,lS n:=by intro n;induction n with|zero=>exactλB b S l loc ρ σ s K X Q E Z H c d=>b.no H|succ n g=>intro B b S l loc ρ σ s K X Q E Z H c d;cases l with|Expr e pos=>exact Fo b S Z H c d|Pass pos=>exact wpAny_Pass<|c _ _ _ _ _ _ Z .next H|Break pos=>exact wpAny_Break<|c _ _ _ _ _ _ Z .brk H|Continue pos=>exact wpAny_Continue<|c _ _ _ _ _ _ Z .cont H|Return e pos=>exact Dq b S Z H c d|Assign ts e pos=>exact Dt b S Z H c d|AugAssign t m e pos=>exact Hk b S Z H c d|Delete ts pos=>exact Du b Z H c d|If t a k pos=>exact JU b S g Z H c d|While t k e pos=>exact D9 b S g Z H c d|For t it k e pos=>exact Hl b S g Z H c d|Raise e j pos=>exact Ea b S Z H d|Try k o e f pos=>exact Hm b S g Z H c d|_=>exact b.no H
end
section
variable{G:cB}{ρ ρ':aB}{σ σ':AS}{h h':Heap}{s s':Shared}{A:Around}{D:Nat}{E:Value->Shared->Prop}{cf:f7}{hd:Bool}{fs:List Env}
theorem uW(b:List<|Str×NameKind):∀(n:Nat)(c:List<|Str×Addr),(x,NameKind.cell)∈b\/(c.lookup x).isSome=true->((cellsFrom n b c).lookup x).isSome=true:=by induction b with|nil=>exactλn c h=>h.elim (by intros;contradiction) id|cons p r f=>
    intro n c h;obtain⟨y,k⟩:=p;refine(?_:((if(k==NameKind.cell)=true then cellsFrom (n+1) r<|(y,n)::c else cellsFrom n r c).lookup x).isSome=true);by_cases d:(k==NameKind.cell)=true
    · rw[if_pos d];refine f (n+1) _ ?_;by_cases e:(x==y)=true;·right;refine Rr List.lookup_cons<|Rr e ?_;rfl
      · rcases h with h|h
        · rcases P7 h with h|h;·cases h;exact absurd (beq_self_eq_true x) e
          ·exact .inl h
        ·right;refine Rr List.lookup_cons<|Rr (Bool.eq_false_iff.mpr e) ?_;exact h
    · rw[if_neg d];refine f n c ?_;rcases h with h|h
      · rcases P7 h with h|h;·cases h;exact absurd (beq_self_eq_true _) d
        ·exact .inl h
      ·exact .inr h
theorem vM(b:List<|Str×Value):∀(m:Str->Option Value),x∉b.map (λf=>f.1)->PySem.bindL d b m x=m x/\PySem.bindC d b m x=m x:=by induction b with|nil=>exactλm f=>⟨rfl,rfl⟩|cons p r i=>
    intro m h;obtain⟨n,v⟩:=p;obtain⟨e,g⟩:=not_or.mp λq=>h<|List.mem_cons.mpr q;refine⟨((i _ g).1).trans ?_,((i _ g).2).trans ?_⟩
    · by_cases k:d n=some .local;·rw[if_pos k];exact if_neg e
      ·rw[if_neg k]
    · by_cases k:d n=some .local;·rw[if_pos k]
      ·rw[if_neg k];exact if_neg e
theorem qQ(b:List<|Str×Value):∀(m:Str->Option Value),(b.map λi=>i.1).Nodup->(x,v)∈b->(d x=some .local->PySem.bindL d b m x=some v)/\(d x≠some .local->PySem.bindC d b m x=some v):=by induction b with|nil=>exactλm i=>by intros;contradiction|cons p r f=>
    intro m j h;obtain⟨g,e⟩:=List.nodup_cons.mp j;rcases P7 h with h|h
    · cases h;refine⟨λk=>((vM r _ g).1).trans ?_,λk=>((vM r _ g).2).trans ?_⟩;·rw[if_pos k];exact if_pos rfl
      ·rw[if_neg k];exact if_pos rfl
    ·exact⟨(f _ e h).1,(f _ e h).2⟩
theorem Eb(f:List Str):∀{as:List AV}{vs:List Value}{b:aq},aU ρ h vs as->sa f as=some b->vs.length=f.length/\∀x a,aP sF b x=some a->∃v,(x,v)∈f.zip vs/\RV ρ h v a:=by induction f with
 |nil=>
  intro as vs b r e;rcases r with _|_;·haveI e:=sI e;subst e;exact⟨rfl,by intros;contradiction⟩
  ·exact nS e|cons p f j=>intro as vs b r e;cases r with|nil=>exact nS e|@cons v a vs as q k=>obtain⟨r,i,e⟩:=P6 e;subst e;haveI m:=(j k i).1;haveI t:=(j k i).2;refine⟨congrArg (λl=>l+1) m,λx c h=>?_⟩;haveI h:(bif sF p x then some a else aP sF r x)=some c:=h;cases g:sF p x with|true=>rw[g]at h;injection h with h;subst h;clear h;obtain rfl:=cI.mp g;exact⟨_,.head _,q⟩|false=>rw[g]at h;obtain⟨v,n,o⟩:=t x c h;exact⟨v,.tail _ n,o⟩
theorem wI(T:iR G)(hcf:oJ G cf D)(Z:Ar G A (D+1) hd fs ρ σ s)(hv:aU ρ s.heap vs args)(H:gN G ρ s.heap (fin<|(code TP LL hd f args σ).ev cf) Q E):codeAny (model G.prog G.w) A (.call (.ref f) ⟨vs,[]⟩) (wants Q E) s:=by
  have l:¬gN G ρ s.heap (fin .stuck) Q E:=id;have opt:∀{α:Type}{o:Option α}{k:α->Cd},gN G ρ s.heap (fin<|(bb o k).ev cf) Q E->∃a,o=some a/\gN G ρ s.heap (fin<|(k a).ev cf) Q E:=λ{α o k}H=>by cases o with|none=>exact(l H).elim|some a=>exact⟨a,rfl,H⟩
  obtain⟨i,hfn,c⟩:=opt H;cases N:gI i.scope with|false=>rw[N]at c;exact(l c).elim|true=>rw[N]at c;cases u:i.params.all λx=>!cY ⟨i.scope,[],hd,LL f,false⟩ x with|false=>rw[u]at c;exact(l c).elim|true=>
  rw[u]at c;refine cps λG_ g_=>?_;obtain⟨b,hb,H₁⟩:=opt c;obtain⟨o,fd,ho,hdat,hbody,d,hgl,hbi,hclo,X,hbind,hnd,hkd⟩:=T.fn f i hfn;obtain⟨O,hbs⟩:=Eb i.params hv hb;have M:=List.map_fst_zip<|Qn O.symm;obtain⟨_,_,f1,f2,f3⟩:=lB N;refine g_ ?_;have j:=Z.st.base;have inC:∀{x:Str},i.scope.names.lookup x=some .cell->(x,NameKind.cell)∈fd.scope.names:=λq=>by obtain⟨l₁,l₂,hl,_⟩:=List.lookup_eq_some_iff.mp q;refine Rr d<|Rr hl ?_;exact List.mem_append_right _<|.head _
  haveI kds:∀{x v},(x,v)∈i.params.zip vs->i.scope.names.lookup x=some .local\/i.scope.names.lookup x=some .cell:=λ{x v}hx=>by haveI:=hkd x<|Rl M<|List.mem_map_of_mem hx;rw[gE]at this;exact this
  haveI U:=Z.room;haveI units:=Z.units;refine codeAny_call_cells (af (aH _ _ _) (.a (.a (.a (.v 0)<|.m 2<|.p 1 1)<|.n 1)<|.n 1) (.v 2) (.p 0 1) (.v 2) U rfl) (j _ _ ho) hdat (G.nolim.keeps j) ?_ hbody (hbind vs O) hclo (λx hx=>?_) (λs₁ x=>?_) (by refine Rr d ?_;exact f3) (by refine Rr d ?_;exact f2) (by refine Rr d ?_;exact f1);·obtain⟨c1,o1,vs1,t1,e1,e2,r⟩:=X;exact⟨c1,o1,vs1,t1,e1,j _ _ e2,r⟩
  ·exact(kds hx).imp (λq=>d▸q) λq=>⟨d▸q,uW _ _ _<|.inl<|inC q⟩
  obtain⟨h1,tk,rfl⟩:=x.toInCall.same;haveI hk1:=x.toInCall.keep;generalize hL:s.heap.objs.size=L at*;haveI W:=hL▸cC s.heap;have hq:∀b,bX b (L,L)->s.heap.get? b=none:=λb x=>x.elim (λq=>Rr q W) λq=>Rr q W;refine cps λG_ g_=>?_;obtain⟨oL,esL,epL,hoL,hdL,_⟩:=x.toInCall.ns;refine g_ ?_;haveI Z1:St G (ρ.add (L,L) .fr) σ {s with heap:=h1,toks:=tk}:=St.new Z.st hk1 hq tk (λξ ξ ξ q=>.inr q) (λξ ξ ξ q=>⟨q,nofun⟩) ⟨rfl,oL,esL,epL,hoL,hdL⟩;have K1:bq ρ s.heap (ρ.add (L,L) .fr) h1:=.new hk1 hq;haveI kof:∀y,(callEnvC fd L f).kindOf y=i.scope.names.lookup y:=λy=>congrArg (λsc:Scope=>sc.names.lookup y) d;let B:Bx:=⟨G,cf,D,A.deeper<|callEnvC fd L f,callEnvC fd L f,fs,callEnvC fd L f,⟨i.scope,b.filter λp=>iE<|bt i.scope.names p.1,hd,LL f,false⟩,.fr,No,ρ,s.heap,λst=>gN G ρ s.heap (fin st) Q E⟩;have bo:ax B:=
    { T:=T,cf:=hcf,ok:=N,stk:=l,frames:=by refine(?_:A.frames.map _=_);refine Rr Z.frames ?_;rfl,frame:=rfl
      room:=af (aH _ _ _) (.a (.a (.a (.v 0)<|.m 2<|.p 1 1)<|.n 1)<|.n 1) (.v 2) (.a (.a (.a (.p 0 1)<|.m 2<|.v 1)<|.n 2)<|.n 1) (.v 2) U rfl,units:=af (aH _ _ _) (.a (.a (.a (.v 0)<|.m 20<|.p 1 1)<|.n 90)<|.n 1) (.v 2) (.a (.a (.a (.p 0 3)<|.m 20<|.v 1)<|.n 100)<|.n 1) (.v 2) units rfl,hd:=Z.hd,sc:=d
      fn:=by show fd.scope.kind=_;refine Rr d ?_;exact f1,gl:=hgl,bi:=hbi,above:=show G.h₀.objs.size<=L from Rl hL Z.siz,cg:=.inl W,lt:=.inl rfl,ll:=by intros;contradiction};haveI bs:BS B:=⟨rfl,rfl,rfl⟩;haveI A1:At B (b.filter λp=>!iE (bt i.scope.names p.1)) (ρ.add (L,L) .fr) σ {s with heap:=h1,toks:=tk}:=by
    refine⟨Z1,λe he=>?_,K1,aB.new,⟨_,x.toInCall.ns,λy a hy=>?_⟩,λy a hy=>?_⟩
    · rcases P7 he with rfl|he;·exact⟨bo.fn,L,rfl,aB.new⟩
      ·exact(Z.frs.mv K1.g) e he
    · obtain⟨hy1,K⟩:=k9 (p:=λz=>!iE (bt i.scope.names z)) b hy;obtain⟨v,t,V⟩:=hbs y a hy1;haveI hl:=(kds t).elim id λq=>by rw[gE,q]at K;exact fT K
      refine⟨v,(qQ _ _ (Rl M.symm hnd) t).1<|(kof y).trans hl,λξ=>V.mv K1.g,λz=>?_⟩;haveI q:=List.all_eq_true.mp u y<|Rl M<|List.mem_map_of_mem t;rw[show cY ⟨i.scope,[],hd,LL f,false⟩ y=true from(MK z).1]at q;exact fT q
    ·obtain⟨hy1,K⟩:=k9 (p:=λz=>iE<|bt i.scope.names z) b hy;obtain⟨v,t,V⟩:=hbs y a hy1;have hl:=(kds t).elim (λq=>by rw[gE,q]at K;exact fT K) id;refine(Option.isSome_iff_exists.mp<|uW fd.scope.names (L+1) []<|.inl<|inC hl).elim λca hca=>?_;haveI I:=x.cell y ca hca;rw[(qQ _ _ (Rl M.symm hnd) t).2<|by rw[kof,hl];trivial]at I;haveI Y:L<ca:=Rr hL<|x.above y ca<|mem_of_lookup hca;exact⟨ca,v,hca,I,λq=>(mV q).elim (Z.st.freshOwn<|Heap.get?_none_of_le<|Rr hL<|Nat.le_of_lt Y) λq=>q.elim (λq=>absurd q<|Nat.ne_of_gt Y) λq=>absurd q<|Nat.ne_of_gt Y,V.mv K1.g⟩
  refine iD (JV 60 B bo bs) (λρ' σ' s' loc' v a P r H'=>?_) i.body A1 H₁ λρ' σ' s' loc' fl f' P hf H'=>?_;·obtain⟨p,C,f',rfl,rfl,e⟩:=r;exact CX bo.frames P.frs P.st e λρ2 h2 Z2 K2=>H' ρ2 {s' with heap:=h2} _ ⟨p,C,f',rfl,rfl,K2.g.ext _ _ nofun e⟩ Z2<|P.kp.trans K2
  ·cases hf with|ret r=>exact H' ρ' s' _ r P.st P.kp|next=>exact H' ρ' s' _ .none P.st P.kp|brk=>exact(l H').elim|cont=>exact(l H').elim
end
inductive dT:AV->Prop|ref{r i:Nat}(h:r=10\/r=12):dT<|.ref r i|tup{l:List AV}{i:Nat}{a:AV}(e:aa l i=some a)(d:dT a):dT<|.tup l|fl{l:List AV}{i:Nat}{a:AV}(e:aa l i=some a)(d:dT a):dT<|.fl l|fi{C:Nat}{f:List<|Str×AV}{x:Str}{a:AV}(e:aP sF f x=some a)(d:dT a):dT<|.fi C f
def DT:iw->Prop|.ref r _=>r=10\/r=12|.ex C f=>dT<|.fi C f|_=>False
def aB.cl(ρ:aB):aB:=λp t=>ρ p t/\¬DT t
section
variable{G:cB}{ρ ρ':aB}{σ σ':AS}{h h':Heap}{s s':Shared}{A:Around}{D:Nat}{Q E:Value->Shared->Prop}{cf:f7}{hd:Bool}{fs:List Env}
theorem jm(x:bA ρ.cl b):bA ρ b:=x.elim λp x=>x.elim λt x=>⟨p,t,x.1.1,x.2⟩
theorem RV.cl(r:RV ρ h v a):¬dT a->RV ρ.cl h v a:=by induction r with|none=>exactλc=>.none|bool b=>exactλc=>.bool b|int i t=>exactλc=>.int i t|str s t=>exactλc=>.str s t|con a=>exactλc=>.con a|imm s e=>exactλc=>.imm s e|ref e=>exactλn=>.ref ⟨e,λd=>n<|.ref d⟩|ex e=>exactλn=>.ex ⟨e,n⟩|rng o no=>exactλc=>.rng o λx=>no<|jm x|tup k j _ g=>exactλn=>.tup k j λi v a e f=>g i v a e f λd=>n<|.tup f d|fl k no j _ g=>exactλn=>.fl k (λx=>no<|jm x) j λi v a e f=>g i v a e f λd=>n<|.fl f d|fi m p hd l hC u q _ g=>exactλn=>.fi m (λx=>p<|jm x) hd (λx=>l<|jm x) hC u q λx v a e f=>g x v a e f λd=>n<|.fi f d
theorem Fq(j:∀a,dT a->∀v,¬RV ρ h v a)(F:jA ρ h d f)(e:aP sF f x=some a):¬dT a:=by obtain⟨l,n,_,_,k⟩:=F;obtain⟨c,i⟩:=k x;intro d;rw[e]at c;obtain⟨v,g⟩:=Option.isSome_iff_exists.mp c;exact j a d v<|i v a g e
theorem Dx(Z:St G ρ σ s)(n:∀p r i,ρ p (.ref r i)->¬(r=10\/r=12))(a:AV)(d:dT a):∀v,¬RV ρ s.heap v a:=by induction d with|ref h=>exactλv r=>by obtain⟨p,_,e⟩:=r.inv;exact n p _ _ e h|tup e _ b=>exactλv r=>by obtain⟨t,vs,_,_,rs⟩:=r.inv;exact let⟨w,_,q⟩:=rs.get e;b w q|fl e _ b=>exactλv r=>by obtain⟨t,vs,_,_,_,rs⟩:=r.inv;exact let⟨w,_,q⟩:=rs.get e;b w q|@fi C f x a e _ b=>
  intro v r;have c:∀d,¬jA ρ s.heap d f:=λd⟨o,m,_,_,k⟩=>by obtain⟨g,j⟩:=k x;rw[e]at g;obtain⟨w,l⟩:=Option.isSome_iff_exists.mp g;exact b w<|j w a l e
  rcases r.inv with⟨p,_,q⟩|⟨_,a,d,_,_,_,_,F⟩;·exact c _ (Z.conc _ _ q).2.1.r
  ·exact c _ F
theorem aU.cl(r:aU ρ h vs l)(n:∀i a,aa l i=some a->¬dT a):aU ρ.cl h vs l:=.of r.len λi x y e f=>(r.at_ e f).cl<|n i y f
theorem qz(r:ck ρ h vs l)(n:∀i q,aa l i=some q->¬dT q.2):ck ρ.cl h vs l:=.of r.len λi x y e f=>⟨(r.at_ e f).1,(r.at_ e f).2.cl<|n i y f⟩
theorem fZ.cl(F:fZ ρ h d f)(n:∀x a,aP sF f x=some a->¬dT a):fZ ρ.cl h d f:=by obtain⟨k,m,l,j,i,o,g⟩:=F;exact⟨k,m,l,j,i,o,λx=>⟨(g x).1,λw b e f=>((g x).2 w b e f).cl<|n x b f⟩⟩
theorem bF.cl(j:∀a,dT a->∀v,¬RV ρ h v a)(c:bF G ρ h p o)(b:bF G ρ' h' q o):bF G ρ'.cl h' q o:=by
 haveI m:∀{n:Type}{vs:List<|n×Value}{l:List<|n×AV},ck ρ h vs l->∀i q,aa l i=some q->¬dT q.2:=λk i q e d=>by obtain⟨_,_,r⟩:=k.get e;exact j _ d _ r.2 
 rcases o with l|⟨C,f⟩|_|l|l|l;·exact⟨b.1,b.2.elim λvs k=>⟨vs,k.1,k.2.cl λi a e d=>by obtain⟨_,_,r⟩:=c.2.choose_spec.2.get e;exact j _ d _ r⟩⟩
 ·exact⟨b.1,b.2.1,b.2.2.cl λx a e=>Fq j c.2.2.r e⟩
 ·exact b
 ·exact⟨b.1,b.2.elim λg k=>⟨g,k.1,qz k.2<|m c.2.choose_spec.2⟩⟩
 ·exact⟨b.1,b.2.elim λg k=>⟨g,k.1,qz k.2<|m c.2.choose_spec.2⟩⟩
 ·exact⟨b.1,b.2.elim λg k=>⟨g,k.1,qz k.2<|m c.2.choose_spec.2⟩⟩
theorem Hn(Z:St G ρ σ s)(e1:gm σ 10=true)(d:gm σ 12=true)(p:Addr×Addr)(r i:Nat)(q:ρ p<|.ref r i):¬(r=10\/r=12):=by
 haveI b:∀{r},gm σ r=true->gt σ r i=none:=λe=>by obtain⟨l,k,e⟩:=bY e;obtain rfl:=P8 e;delta gt;refine Rr k ?_;rfl
 obtain⟨o,k,_⟩:=Z.conc _ _ q;clear q;rintro(rfl|rfl);·rw[b e1]at k;injection k
 ·rw[b d]at k;injection k
theorem qR(k:∀v a w,RV ρ h v a->f a=some w->RV ρ.cl h v w)(r:aU ρ h vs l):∀{c:List AV},dX f l=some c->aU ρ.cl h vs c:=by induction r with|nil=>intro c e;haveI e:=sI e;subst e;exact .nil|cons r rs d=>intro c e;obtain⟨w,e1,e⟩:=P5 e;obtain⟨i,g,e⟩:=P6 e;subst e;exact .cons (k _ _ _ r e1)<|d g
theorem Ho(Z:St G ρ σ s):∀n v a w,RV ρ s.heap v a->cA n σ a=some w->RV ρ.cl s.heap v w:=by intro n;induction n with|zero=>intro v a w r e;injection e|succ n u=>intro v a w r e;haveI y:=r.inv;cases a with
  |ref i j=>clear r;obtain⟨p,rfl,q⟩:=y;refine(a6<|show(if(Nat.beq i 10||Nat.beq i 12)=true then(gt σ i j).bind λo=>match o with|.list l=>(dX (cA n σ) l).map .fl|_=>none else none)=some w from e).elim λm e=>?_;have m:=(Bool.or_eq_true_iff.mp m).imp Qm Qm;obtain⟨o,e1,e⟩:=P5 e;obtain⟨o',k,c⟩:=Z.conc _ _ q;rw[e1]at k;injection k with k;subst k;clear e1;cases o with|list l=>obtain⟨z,d,e⟩:=P6 e;subst e;obtain⟨_,vs,H,rs⟩:=c;exact .fl_ H (λI=>by obtain⟨J,t,k,F⟩:=I;exact k.2<|Rl (Z.apart _ _ _ _ _ q k.1 (.inl rfl) F).2 m)<|qR u rs d|_=>injection e
  |tup l=>clear r;obtain⟨t,vs,rfl,g,rs⟩:=y;refine cps λK C=>?_;obtain⟨z,d,e⟩:=P6 e;refine C ?_;clear C;subst e;exact .tup_ g<|qR u rs d|fl l=>clear r;obtain⟨t,vs,rfl,g,no,rs⟩:=y;obtain⟨z,d,e⟩:=P6 e;subst e;exact .fl_ g (λx=>no<|jm x)<|qR u rs d|fi=>injection e|_=>injection e with e;subst e;exact r.cl nofun
theorem Hp(Z:St G ρ σ s)(H:gN G ρ s.heap (kK σ r) Q E):gN G ρ s.heap r Q E:=by cases r with|stuck=>exact H|ex=>exact False.elim H|ok v σ'=>
    by_cases c:gm σ 10=true/\gm σ 12=true/\∀r,r≠10->r≠12->aa σ' r=aa σ r
    · have H:=by haveI e:kK σ (.ok v σ')=match cA 6 σ' v with|some v=>.ok v σ|none=>.stuck:=if_pos c;rw[e]at H;exact H
      cases F:cA 6 σ' v with|none=>rw[F]at H;exact False.elim H|some w=>
      rw[F]at H;haveI W:=c.1;haveI N:=c.2.1;haveI c3:=c.2.2;have I:=Hn Z W N;haveI J:=Dx Z I;have U:∀r i,¬(r=10\/r=12)->gt σ' r i=gt σ r i:=λr i n=>congrArg (λo=>Option.bind o λl=>aa l i)<|c3 r (λq=>n<|.inl q) λq=>n<|.inr q;intro ρ' s' u ru m j;have M:∀{p t},t≠.pv->ρ p t->ρ'.cl p t:=λ{p t}B e=>⟨j.g.ext p t B e,λd=>by clear B;cases t with|ref r i=>exact I p r i e d|ex C f=>exact J _ d _<|.ex e|_=>exact d⟩;refine H ρ'.cl s' u (Ho m 6 _ _ _ ru F) ⟨λp t e=>?_,λr i o e=>?_,λb p t q u e f=>m.apart b p t q u e.1 f.1,λp q r i e f=>m.one p q r i e.1 f.1,m.base,λb x=>m.own0 b<|jm x,m.gens,m.os⟩ ⟨⟨λp t B e=>M B e,λb o e n=>⟨λx=>(j.g.hid b o e n).1<|jm x,(j.g.hid b o e n).2⟩,j.g.tup⟩,j.dom,j.fr,λp o n t e=>⟨⟨(j.pv p o n t e).1,id⟩,(j.pv p o n t e).2⟩⟩;·haveI c:=m.conc p t e.1;cases t with|ref r i=>obtain⟨o,k,c⟩:=c;rw[U r i e.2]at k;obtain⟨p0,q0⟩:=Z.dom r i o k;obtain⟨o',z,c0⟩:=Z.conc _ _ q0;rw[k]at z;haveI z:=sI z;subst z;exact⟨o,k,c0.cl J c⟩|ex C f=>obtain⟨h1,h2,h3,a0,V,X,P⟩:=c;exact⟨h1,h2.cl λx a k d=>e.2<|.fi k d,h3,a0,V,X,P.imp id λh_=>by obtain⟨T,Y,O⟩:=h_;exact⟨T,Y,O,id⟩⟩|_=>exact c
      ·obtain⟨p,q⟩:=Z.dom r i o e;exact⟨p,M nofun q⟩
    ·haveI e:kK σ (.ok v σ')=.stuck:=if_neg c;rw[e]at H;exact False.elim H
def tY(G:cB):Prop:=∀(A:Around)(D:Nat)(hd:Bool)(fs:List Env)(ρ:aB)(σ:AS)(s:Shared)(a:Nat)(args:List AV)(vs:List Value)(l:List<|Str×dm)(Q E:Value->Shared->Prop),Ar G A (D+1) hd fs ρ σ s->aU ρ s.heap vs args->TP.fz a args=some l->kL l=args.length->(∀h' tk b d ns,(∀c o,s.heap.get? c=some o->h'.get? c=some o)->s.heap.get? b=none->s.heap.get? d=none->d≠b->zY h' b d a ns->(∀ρ',aY ρ s.heap ρ' h'->(∀c,bA ρ' c->bA ρ c\/bX c (b,d))->∀x,RO ρ' h' (ns.lookup x)<|aP sF (gH args l) x)->ns.length=(gH args l).length->Q (.ref b) {s with heap:=h',toks:=tk})->codeAny (model G.prog G.w) A (.call (.ref a) ⟨vs,[]⟩) (wants Q E) s
theorem Hq(H:jK TP f a σ≠.stuck):∃l,TP.fz f a=some l/\kL l=a.length/\jK TP f a σ=.ok (.fi f<|gH a l) σ:=by delta jK at H⊢;cases hl:TP.fz f a with|none=>rw[hl]at H;exact absurd rfl H|some l=>rw[hl]at H;dsimp only at H⊢;cases c:Nat.beq (kL l) a.length with|false=>rw[c]at H;exact absurd rfl H|true=>exact⟨l,rfl,Qm c,rfl⟩
theorem JW(F:tY G)(Z:Ar G A (D+1) hd fs ρ σ s){f:Nat}{a:List AV}(I:aU ρ s.heap vs a)(H:gN G ρ s.heap (jK TP f a σ) Q E):codeAny (model G.prog G.w) A (.call (.ref f) ⟨vs,[]⟩) (wants Q E) s:=by
 refine(Hq λq=>by rw[q]at H;exact H).elim λl ζ0=>ζ0.elim λhl ζ1=>ζ1.elim λL q=>?_;rw[q]at H;refine F A D hd fs ρ σ s f a vs l Q E Z I hl L λh' j b d T k v u m M z i=>?_;refine cps λP J=>?_;obtain⟨B,n,r,y,C,N,en,c⟩:=M;refine J ?_;rcases c with⟨hC,o⟩|⟨hC,O,o⟩;·have K:bq ρ s.heap ρ h':=.grow k;exact H ρ {s with heap:=h',toks:=j} _ (.fi_ hC o (Z.st.freshOwn v) (Z.st.freshOwn u) ⟨B,n,r,y,λx=>Rl (en x).symm<|z ρ K.g (λc=>.inl) x⟩) (Z.st.grow k j) K
 ·have p:∀c,bX c (b,d)->s.heap.get? c=none:=λc x=>x.elim (λq=>Rr q v) λq=>Rr q u;haveI K:bq ρ s.heap (ρ.add (b,d)<|.ex f<|gH a l) h':=.new k p;exact H _ {s with heap:=h',toks:=j} _ (.ex aB.new) (St.new Z.st k p j (λe e e q=>.inr q) (λe e e q=>⟨q,nofun⟩) ⟨m,⟨B,n,r,y,C,N.trans i,λx=>Rl (en x).symm<|z _ K.g (λc=>mV) x⟩,hC,O,.none,o,.inl rfl⟩) K
theorem ry(T:iR G)(F:tY G):∀D,oJ G (run TP LL D) D|0=>λA hd fs ρ σ s f a vs Q E Z c H=>False.elim H|D+1=>λA hd fs ρ σ s f a vs Q E Z c H=>by haveI H:gN G ρ s.heap (match TP.kd f with|0=>fin<|(code TP LL hd f a σ).ev<|run TP LL D|1=>kK σ<|fin<|(code TP LL hd f a σ).ev<|run TP LL D|_=>jK TP f a σ) Q E:=H;revert H;cases TP.kd f with|zero=>exactλH=>wI T (ry T F D) Z c H|succ n=>cases n with|zero=>exactλH=>wI T (ry T F D) Z c<|Hp Z.st H|succ n=>exactλH=>JW F Z c H
end
end
section
open PySem PySem.Calls PySem.W
abbrev LH:=List<|Nat×Obj
noncomputable def cm:LH->Nat->Option Obj|[],_=>none|p::r,a=>bif Nat.beq p.1 a then some p.2 else cm r a
noncomputable def kv:LH->Nat->(Obj->Obj)->LH|[],_,_=>[]|p::r,a,f=>bif Nat.beq p.1 a then(p.1,f p.2)::r else p::kv r a f
noncomputable def Hs(id:String):Bool:=!id.startsWith "lifetime."
noncomputable def z8(c:Code):Bool:=match c with|.builtin id _=>Hs id|_=>true
abbrev jL:=LH×Nat×Nat×Code×Pos
noncomputable def z9(den:Code->Sem Fin)(prog:Program)(w:World)(r:LH->Nat->Nat->Sem Fin->Code->Pos->List Frame->Option jL)(L:LH)(n k:Nat)(cur:Sem Fin)(code:Code)(pos:Pos)(stack:List Frame):Option jL:=match cur with
 |.pure<|.done fl=>match stack with|[]=>none|fr::rest=>match rest with
   |[]=>match fl with|.next=>some (L,n,k,code,pos)|_=>none
   |_::_=>match fr with|.ret y _ _ _ c p _=>r L n k (y<|.ok fl) c p rest|.gen ..=>none
 |.pure<|.again c=>bif z8 c then match step den prog w ⟨{},#[],{},0,{}⟩ ⟨.pure<|.again c,code,pos,stack⟩with|.go _ t=>r L n k t.cur t.code t.pos t.stack|.halt _ _=>none else none|.raise e=>match stack with|[]=>none|fr::rest=>match rest with|[]=>none|_::_=>match fr with|.ret y _ _ _ c p _=>r L n k (y<|.error e) c p rest|.gen ..=>none
 |.rule _ y=>r L n k (y ()) code pos stack|.at p y=>r L n k (y ()) code p stack|.load a _ y=>(cm L a).bind λo=>r L n k (y o) code pos stack|.loadIfAlive a y=>(cm L a).bind λo=>r L n k (y<|some o) code pos stack|.update a _ g y=>bif Nat.ble 11 a||(Nat.beq a 3||Nat.beq a 2)then(cm L a).bind λo=>bif(g o).isFreed then none else r (kv L a g) n k (y ()) code pos stack else none|.alloc o y=>bif o.isFreed then none else r ((n,o)::L) (n+1) k (y n) code pos stack|.point _ y=>r L n k (y ()) code pos stack|.fresh y=>r L n (k+1) (y k) code pos stack|.ask y=>r L n k (y ⟨prog,w.params⟩) code pos stack|.call c h g l y=>let kept:=match c,code with|.builtin _ a,_=>unmarked a.refs|.call f a,.builtin ..|.call f a,.call ..=>unmarked<|if l.contains borrowed then a.refs else f::a.refs|_,_=>[]
  r L n k (den c) c pos<|.ret y h g l code pos kept::stack|.handled own y=>let frames:=if own then match splitAtGen stack with|some (fs,_,_)=>fs|none=>stack else stack
  r L n k (y<|topHandled frames) code pos stack|.stack y=>r L n k (y<|(code,pos)::stack.map Frame.where_) code pos stack|_=>none
noncomputable def cZ(den:Code->Sem Fin)(prog:Program)(w:World)(f:Nat):LH->Nat->Nat->Sem Fin->Code->Pos->List Frame->Option jL:=Nat.rec (λξ ξ ξ ξ ξ ξ ξ=>none) (λξ r=>z9 den prog w r) f
theorem wJ{c:Type}{a b:Nat}{x y:c}:(bif Nat.beq a b then x else y)=if a=b then x else y:=by
 by_cases h:a=b;·rw[if_pos h,h,Nat.beq_refl];rfl
 ·rw[if_neg h,Bool.eq_false_iff.mpr λq=>h<|Qm q];rfl
theorem fW(a:Nat)(o:Obj)(L:LH)(b:Nat):cm ((a,o)::L) b=if a=b then some o else cm L b:=wJ
theorem vN(L:LH)(a:Nat)(g:Obj->Obj)(b:Nat):cm (kv L a g) b=if a=b then(cm L b).map g else cm L b:=by induction L with
  |nil=>
    by_cases h:a=b;·rw[if_pos h];rfl
    ·rw[if_neg h];rfl|cons p r d=>
    obtain⟨c,o⟩:=p;refine Rr (show kv ((c,o)::r) a g=if c=a then(c,g o)::r else(c,o)::kv r a g from wJ) ?_;by_cases h:c=a
    · subst h;rw[if_pos rfl,fW,fW];by_cases q:c=b;·refine Rr (if_pos q)<|Rr (if_pos q)<|Rr (if_pos q) ?_;rfl
      ·exact Rr (if_neg q)<|Rr (if_neg q)<|Rr (if_neg q) rfl
    · rw[if_neg h,fW,fW,d];by_cases q:c=b;·rw[if_pos q,if_neg λk=>h<|q.trans k.symm,if_pos q]
      ·rw[if_neg q,if_neg q]
structure ee(L:LH)(n:Nat)(h:Heap):Prop where
 size:h.objs.size=n
 at_:∀a o,cm L a=some o->h.get? a=some o
theorem CG(a:Code->Sem Fin)(p:Program)(w:World)(s:Shared)(c code:Code)(pos:Pos)(stack:List Frame):step a p w s ⟨.pure<|.again c,code,pos,stack⟩=match step a p w ⟨{},#[],{},0,{}⟩ ⟨.pure<|.again c,code,pos,stack⟩with|.go _ t=>.go s t|.halt o _=>.halt o s:=by rfl
noncomputable def Ht(c:Sem Fin):Bool:=match c with|.pure<|.done _=>true|_=>false
theorem eZ(h:Ht t.cur=false):endAt 1 t=none:=by
 delta endAt;generalize(t.stack.length==1)=b;revert h;generalize t.cur=c;intro h;rcases b with _|_;·rfl
 ·cases c with
  |pure d=>cases d with|done=>injection h|again=>rfl
  |_=>rfl
theorem Dy(h:t.stack=a::b::r):endAt 1 t=none:=by delta endAt;exact Rr h<|Rr (show((a::b::r).length==1)=false from rfl) rfl
def wK(s:Shared)(s':Shared)(L:LH):Prop:=s'.gens=s.gens/\s'.drawn=s.drawn/\s'.os=s.os/\s'.heap.life=s.heap.life/\∀a o,cm L a=none->s.heap.get? a=some o->s'.heap.get? a=some o
section
variable{p:Program}{w:World}{ann:Option Value}{f:Nat}{s s₂:Shared}{t t₂:Thread}{L L₂:LH}{n k n₂ k₂:Nat}{o:jL}{r:LH->Nat->Nat->Sem Fin->Code->Pos->List Frame->Option jL}{code:Code}{pos:Pos}{stack:List Frame}{cur:Sem Fin}
def Gl(p:Program)(w:World)(ann:Option Value)(f:Nat)(s:Shared)(t:Thread)(L:LH)(o:jL):Prop:=∃s',segRun table p w 11 ann 1 f s t=some (.next,s',o.2.2.2.1,o.2.2.2.2)/\ee o.1 o.2.1 s'.heap/\s'.toks=o.2.2.1/\wK s s' L
def IH(p:Program)(w:World)(ann:Option Value)(f:Nat)(r:LH->Nat->Nat->Sem Fin->Code->Pos->List Frame->Option jL):Prop:=∀L n k t o s,ee L n s.heap->s.toks=k->r L n k t.cur t.code t.pos t.stack=some o->Gl p w ann f s t L o
theorem rB(d:endAt 1 t=none)(g:stepOk 11 ann t=true)(c:step (denote table) p w s t=.go s₂ t₂)(e:segRun table p w 11 ann 1 f s₂ t₂=z):segRun table p w 11 ann 1 (f+1) s t=z:=by unfold segRun;refine Rr d<|Rr g<|Rr c ?_;exact e
theorem base(d:IH p w ann f r)(R:ee L n s.heap)(g:s.toks=k)(j:endAt 1 t=none)(l:stepOk 11 ann t=true)(i:∀s,step (denote table) p w s t=.go s t₂)(h:r L n k t₂.cur t₂.code t₂.pos t₂.stack=some o):Gl p w ann (f+1) s t L o:=(d _ _ _ _ _ _ R g h).imp λm e=>⟨rB j l (i s) e.1,e.2⟩
theorem y7(d:IH p w ann f r)(R:ee L n s.heap)(g:s.toks=k)(j:endAt 1 t=none)(l:stepOk 11 ann t=true)(i:step (denote table) p w s t=.go s t₂)(h:r L n k t₂.cur t₂.code t₂.pos t₂.stack=some o):Gl p w ann (f+1) s t L o:=(d _ _ _ _ _ _ R g h).imp λm e=>⟨rB j l i e.1,e.2⟩
theorem rC(v:IH p w ann f r)(i:endAt 1 t=none)(u:stepOk 11 ann t=true)(q:step (denote table) p w s t=.go s₂ t₂)(m:r L₂ n₂ k₂ t₂.cur t₂.code t₂.pos t₂.stack=some o)(h:ee L₂ n₂ s₂.heap)(l:s₂.toks=k₂)(d:wK s s₂ L)(j:∀a o,cm L a=none->s.heap.get? a=some o->cm L₂ a=none):Gl p w ann (f+1) s t L o:=(v _ _ _ _ _ _ h l m).imp λz e=>⟨rB i u q e.1,e.2.1,e.2.2.1,e.2.2.2.1.trans d.1,e.2.2.2.2.1.trans d.2.1,e.2.2.2.2.2.1.trans d.2.2.1,e.2.2.2.2.2.2.1.trans d.2.2.2.1,λa o x y=>e.2.2.2.2.2.2.2 a o (j a o x y)<|d.2.2.2.2 a o x y⟩
theorem qo{c:Type}{x:Option c}{y:c}(h:(bif b then x else none)=some y):b=true/\x=some y:=by
 rcases b with _|_;·injection h
 ·exact⟨rfl,h⟩
theorem mQ{d:Type}{x:Option d}{y:d}(h:(bif b then none else x)=some y):b=false/\x=some y:=by cases b with|true=>injection h|false=>exact⟨rfl,h⟩
theorem C2(d:z8 c=true):stepOk 11 ann ⟨.pure<|.again c,code,pos,stack⟩=true:=by
 haveI:Thread.calm ⟨.pure<|.again c,code,pos,stack⟩=true:=by delta Thread.calm Thread.atCollectorCode Thread.yieldsInsideHandler;cases c with|builtin id b=>dsimp only;refine Rr (show(!id.startsWith "lifetime.")=true from d) ?_;rfl|_=>rfl
 delta stepOk;refine Rr this ?_;rfl
theorem xv(B:IH p w ann f r)(R:ee L n s.heap)(v:s.toks=k)(C:∀y i g l c q b a s,step (denote table) p w s ⟨cur,code,pos,.ret y i g l c q b::a⟩=.go s ⟨y x,c,q,a⟩)(A:∀z,stepOk 11 ann ⟨cur,code,pos,z⟩=true)(h:(match e with|.ret y _ _ _ c p _=>r L n k (y x) c p<|d::a|.gen ..=>none)=some o):Gl p w ann (f+1) s ⟨cur,code,pos,e::d::a⟩ L o:=by
 rcases e with⟨y,i,g,l,c,q,b⟩|_;·exact base B R v (Dy rfl) (A _) (C _ _ _ _ _ _ _ _) h
 ·injection h
theorem Hu{a:Nat}(E:IH p w ann f r)(R:ee L n s.heap)(A:s.toks=k)(B:(Nat.ble 11 a||(Nat.beq a 3||Nat.beq a 2))=true)(j:cm L a=some y)(D:(g y).isFreed=false)(h:r (kv L a g) n k (q ()) code pos stack=some o):Gl p w ann (f+1) s ⟨.update a d g q,code,pos,stack⟩ L o:=by
  haveI v:=R.at_ a y j;haveI l:Heap.SameBut a s.heap<|s.heap.update a g:=Heap.SameBut.update ..;haveI x:stepOk 11 ann ⟨.update a d g q,code,pos,stack⟩=true:=by
    delta stepOk;haveI:(Nat.ble 11 a||a==mainNs||a==cStatics||ann==some (Value.ref a))=true:=by
      rcases Bool.or_eq_true_iff.mp B with z|z;·refine Rr z ?_;rfl
      · rcases Bool.or_eq_true_iff.mp z with z|z;·rw[Qm z];rfl
        ·rw[Qm z];rfl
    dsimp only;refine Rr this ?_;rfl
  haveI C:step (denote table) p w s ⟨.update a d g q,code,pos,stack⟩=.go {s with heap:=s.heap.update a g} ⟨q (),code,pos,stack⟩:=by show(if(s.heap.get? a).isSome=true then _ else _)=_;refine Rr v ?_;rfl
  refine rC E (eZ rfl) x C h ⟨l.1.trans R.size,λb m e=>?_⟩ A ⟨rfl,rfl,rfl,rfl,λb m e q=>(l.2 b λz=>by rw[z,j]at e;injection e).trans q⟩ λb m e q=>?_
  · rw[vN]at e;by_cases q:a=b;·rw[<-q,if_pos rfl,j]at e;refine Rl q<|Rl e ?_;exact Heap.get?_update_self _ v D
    ·rw[if_neg q]at e;exact(l.2 b<|Ne.symm q).trans<|R.at_ b m e
  ·rw[vN,if_neg λz=>by rw[<-z,j]at e;injection e];exact e
theorem Ec{q:Nat->Sem Fin}(m:IH p w ann f r)(R:ee L n s.heap)(l:s.toks=k)(v:b.isFreed=false)(h:r ((n,b)::L) (n+1) k (q n) code pos stack=some o):Gl p w ann (f+1) s ⟨.alloc b q,code,pos,stack⟩ L o:=by
  haveI a:=R.size;haveI u:step (denote table) p w s ⟨.alloc b q,code,pos,stack⟩=.go {s with heap:=s.heap.push b} ⟨q n,code,pos,stack⟩:=by refine Rl a ?_;rfl
  refine rC m (eZ rfl) rfl u h ⟨(Heap.size_push ..).trans<|congrArg (λj=>j+1) a,λc d e=>?_⟩ l ⟨rfl,rfl,rfl,rfl,λc d e q=>Qp _ q⟩ λc d e q=>?_
  · rw[fW]at e;by_cases q:n=c;·rw[if_pos q]at e;refine Rl q<|Rl a<|Rl e ?_;exact Qq _ v
    ·rw[if_neg q]at e;exact Qp _<|R.at_ c d e
  ·rw[fW,if_neg λz=>absurd (Heap.lt_size q)<|by refine Rr a<|Rr z ?_;exact Nat.lt_irrefl _];exact e
theorem C3(m:IH p w ann f r):IH p w ann (f+1)<|z9 (denote table) p w r:=by rintro L n k⟨cur,code,pos,stack⟩o s R i h;cases cur with
 |pure A=>cases A with
  |done fl=>cases stack with|nil=>injection h|cons F j=>cases j with
    |nil=>cases fl with|next=>haveI h:=sI h;exact Rl h ⟨s,rfl,R,i,rfl,rfl,rfl,rfl,λd d d e=>e⟩|_=>injection h
    |cons C j=>exact xv m R i (λd d d d d d d d d=>rfl) (λd=>rfl) h
  |again c=>
   obtain⟨I,h⟩:=qo h;haveI e:=λs=>CG (denote table) p w s c code pos stack;revert h e;generalize step (denote table) p w ⟨{},#[],{},0,{}⟩ ⟨.pure<|.again c,code,pos,stack⟩=z;intro h e;rcases z with⟨M,t⟩|_;·exact base m R i (eZ rfl) (C2 I) e h
   ·injection h
 |raise e=>cases stack with|nil=>injection h|cons F j=>cases j with|nil=>injection h|cons C j=>exact xv m R i (λd d d d d d d d d=>rfl) (λd=>rfl) h
 |rule H y=>exact base m R i (eZ rfl) rfl (λd=>rfl) h|«at»q y=>exact base m R i (eZ rfl) rfl (λd=>rfl) h|point l y=>exact base m R i (eZ rfl) rfl (λd=>rfl) h|ask y=>exact base m R i (eZ rfl) rfl (λd=>rfl) h|handled J y=>exact base m R i (eZ rfl) rfl (λd=>rfl) h|stack y=>exact base m R i (eZ rfl) rfl (λd=>rfl) h|call c K g l y=>exact base m R i (eZ rfl) rfl (λd=>rfl) h|load a u y=>obtain⟨x,v,h⟩:=P5 h;exact y7 m R i (eZ rfl) rfl (by refine(?_:(match s.heap.get? a with|some _=>_|none=>_)=_);exact Rr (R.at_ a x v) rfl) h|loadIfAlive a y=>obtain⟨x,v,h⟩:=P5 h;exact y7 m R i (eZ rfl) rfl (congrArg (λz=>Step.go s ⟨y z,code,pos,stack⟩)<|R.at_ a x v) h|update a u g y=>haveI G:=(qo h).1;haveI h:=(qo h).2;obtain⟨x,v,h⟩:=P5 h;haveI B:=(mQ h).1;haveI h:=(mQ h).2;exact Hu m R i G v B h|alloc b y=>haveI B:=(mQ h).1;haveI h:=(mQ h).2;exact Ec m R i B h|fresh y=>refine rC (s₂:={s with toks:=s.toks+1}) (t₂:=⟨y k,code,pos,stack⟩) m (eZ rfl) rfl (by refine Rl i ?_;rfl) h R (congrArg (λd=>d+1) i) ⟨rfl,rfl,rfl,rfl,λd d d e=>e⟩ λd d e d=>e|_=>injection h
theorem uX:∀f,IH p w ann f<|cZ (denote table) p w f|0=>λb b b b b b b b h=>by injection h|f+1=>C3<|uX f
end
section
noncomputable def pW:Program:=PySem.Challenge.pw_sj0018_01
noncomputable def ZD:Code->Sem Fin:=PySem.W.Fast.tw11892475500146522536 PySem.W.Fast.tw14364793385576792824
theorem Hv:denote table=ZD:=by unfold ZD;rw[table_eq_tree,PySem.W.Fast.te11892475500146522536,PySem.W.Fast.te14364793385576792824]
noncomputable def iT:List Stmt:=behindTheImports pW
noncomputable def lT(i:Nat):Stmt:=iT.getD i<|.Pass default
noncomputable def xw(i j:Nat):Stmt:=match lT i with|.ClassDef _ _ _ body _ _ _ _ _ _ _=>body.getD j<|.Pass default|_=>.Pass default
noncomputable def stmts(i j:Nat):List Stmt:=(iT.drop i).take<|j-i
noncomputable def nL(st:Stmt)(qual:Str)(code:Addr)(pm:Value):Obj:=match st with|.FunctionDef name args body _ _ _ scope _ _ _=>⟨.type "function",none,.func {name,qualname:=qual,params:=args,body:=.stmts body,scope,globals:=3,closure:=[],defaults:=.none,kwdefaults:=.none,doc:=.none,pyModule:=pm,annotations:=none,code:=.ref code,closureTuple:=.none,builtins:=0},#[]⟩|_=>default
noncomputable def e_(P:Params)(x:Str)(t:Tok)(v:Value):DictEntry:=⟨PyData.keyHash P x,.str x t,v⟩
noncomputable def fS:Str:=⟨#[47,99,108,97,105,109,47,99,117,116,46,112,121]⟩
noncomputable def cD:Env:={scope:=pW.main.scope,locals:=mainNs,globals:=mainNs,cells:=[],code:=.ref 13,frame:=some 14}
noncomputable def cE:Code:=.body (behindTheImports pW) cD
noncomputable def q0:Pos:=⟨0,0,0,0⟩
noncomputable def c8(as:List Nat)(L:LH):List<|Option Obj:=as.map<|cm L
noncomputable def dj(as:List Nat)(r:LH×Nat×Nat×Code×Pos):List (Option Obj)×Nat×Nat×Code×Pos:=(c8 as r.1,r.2)
noncomputable def aI(L:LH):List Nat:=L.map λξ=>ξ.1
noncomputable def bg(L:LH):List<|Option Obj:=L.map λp=>some p.2
noncomputable def xx(P:Params)(nv:Value):List DictEntry:=[e_ P ⟨#[95,95,110,97,109,101,95,95]⟩ 165 nv,e_ P zs13 166 .none,e_ P ⟨#[95,95,112,97,99,107,97,103,101,95,95]⟩ 167 .none,e_ P ⟨#[95,95,108,111,97,100,101,114,95,95]⟩ 168<|.builtin "__main__.__loader__#opaque",e_ P ⟨#[95,95,115,112,101,99,95,95]⟩ 169 .none,e_ P ⟨#[95,95,97,110,110,111,116,97,116,105,111,110,115,95,95]⟩ 170<|.ref 6,e_ P ⟨#[95,95,98,117,105,108,116,105,110,115,95,95]⟩ 171<|.ref 4,e_ P ⟨#[95,95,102,105,108,101,95,95]⟩ 173<|.str ⟨#[47,99,108,97,105,109,47,99,117,116,46,112,121]⟩ 172,e_ P ⟨#[95,95,99,97,99,104,101,100,95,95]⟩ 174 .none]
noncomputable def Mg(a:Mj.Internal.AV)(n:Nat):Value:=match a with|.con a=>.ref a|.int i=>.int i n|.str s=>.str s n|_=>.ref n
noncomputable def Mh:List<|Nat×Nat:=[(193,0),(226,0),(242,0),(258,0),(274,0),(278,277),(280,279),(282,281),(284,283),(286,285),(288,287),(290,289),(292,291),(294,293),(296,295),(298,297),(300,299),(302,301),(304,303),(306,305),(308,307),(310,309),(312,311),(314,313),(316,315),(318,317),(320,319),(322,321),(324,323),(326,325),(328,327),(330,329),(332,331),(334,333),(363,0),(392,0),(394,393),(451,0),(459,0),(466,0),(473,0),(483,0),(491,0),(500,0),(509,0),(518,0),(526,0),(535,0),(544,0),(552,0),(561,0),(563,562),(565,564),(567,566),(569,568),(571,570),(573,572),(577,576),(579,578),(581,580),(583,582),(617,0),(672,0),(676,675),(678,677),(680,679),(682,681),(684,683),(686,685),(688,687),(690,689),(692,691),(694,693),(696,695),(698,697),(700,699),(702,701),(704,703),(706,705),(708,707),(747,0),(789,0),(827,0),(831,830),(833,832),(835,834),(837,836),(839,838),(840,332),(842,841),(844,843),(846,845),(848,847),(881,0),(910,0),(947,0),(986,0),(1028,0),(1061,0),(1091,0),(1144,0),(1174,0),(1204,0),(1233,0),(1263,0),(1302,0),(1424,0),(1431,0),(1440,0),(1447,0),(1459,0),(1472,0),(1484,0),(1493,0),(1503,0),(1510,0),(1521,0),(1530,0),(1540,0),(1551,0),(1562,0),(1576,0),(1590,0),(1600,0),(1608,0),(1619,0),(1630,0),(1646,0),(1674,0),(1701,0),(1727,0),(1734,0),(1741,0),(1768,0),(1781,0),(1807,0),(1833,0),(1859,0),(1885,0),(1894,0),(1904,0),(1918,0),(1926,0),(1953,0),(1955,1954),(1959,1958),(1961,1960),(1963,1962),(1965,1964),(1967,1966),(1969,1968),(1971,1970),(1973,1972),(1975,1974),(2006,0),(2037,0),(2068,0),(2075,0),(2082,0),(2109,0),(2118,0),(2145,0),(2172,0),(2202,0),(2229,0),(2243,0),(2254,0),(2264,0),(2277,0),(2286,0),(2296,0),(2304,0),(2349,0),(2359,0),(2372,0),(2380,0),(2391,0),(2401,0),(2411,0),(2441,0),(2469,0),(2495,0),(2503,0),(2513,0),(2523,0),(2549,0),(2598,0),(2609,0),(2621,0),(2649,0),(2653,2652),(2668,1535),(2712,1536),(2721,0),(2729,0),(2740,0),(2746,0),(2757,0),(2774,0),(2784,0),(2792,0),(2802,0),(2812,0),(2828,0),(2842,0),(2852,0),(2863,0),(2870,0),(2878,0),(2885,0),(2894,0),(2900,0),(2923,0),(2931,0),(2937,0),(2977,0)]
noncomputable def Aa(P:Params):List DictEntry:=List.zipWith (λp q=>e_ P p.1 q.1<|Mg p.2 q.2) Mj.Internal.tX Mh
noncomputable def Mi:List Value:=[.int 1 0,.int 0 0,.ref 20,.int 5 0,.int 0 0,.ref 27,.int 10 0,.int 0 0,.ref 47,.int 12 0,.int 0 0,.ref 59,.int 14 0,.int 0 0,.ref 71,.int 49 0,.int 0 0,.ref 85,.int 98 0,.int 0 0,.ref 120,.int 107 0,.int 0 0,.ref 127,.int 111 0,.int 0 0,.ref 134,.int 117 0,.int 0 0,.ref 141,.int 139 0,.int 0 0,.ref 148,.int 143 0,.int 0 0,.ref 155,.int 147 0,.int 0 0,.ref 162,.int 152 0,.int 0 0,.ref 169,.int 156 0,.int 0 0,.ref 176,.int 160 0,.int 0 0,.ref 183,.int 169 0,.int 0 0,.ref 190,.int 174 0,.int 0 0,.ref 197,.int 178 0,.int 0 0,.ref 204,.int 192 0,.int 0 0,.ref 211,.int 203 0,.int 0 0,.ref 232,.int 235 0,.int 0 0,.ref 274,.int 245 0,.int 0 0,.ref 295,.int 259 0,.int 0 0,.ref 316,.int 282 0,.int 0 0,.ref 338,.int 288 0,.int 0 0,.ref 358,.int 292 0,.int 0 0,.ref 378,.int 302 0,.int 0 0,.ref 399,.int 309 0,.int 0 0,.ref 427,.int 322 0,.int 0 0,.ref 448,.int 328 0,.int 0 0,.ref 469,.int 332 0,.int 0 0,.ref 490,.int 342 0,.int 0 0,.ref 525,.int 346 0,.int 0 0,.ref 546,.int 350 0,.int 0 0,.ref 567,.int 354 0,.int 0 0,.ref 588,.int 358 0,.int 0 0,.ref 609,.int 365 0,.int 0 0,.ref 637,.int 416 0,.int 0 0,.ref 714,.int 420 0,.int 0 0,.ref 721,.int 426 0,.int 0 0,.ref 728,.int 429 0,.int 0 0,.ref 735,.int 438 0,.int 0 0,.ref 742,.int 450 0,.int 0 0,.ref 749,.int 459 0,.int 0 0,.ref 756,.int 461 0,.int 0 0,.ref 763,.int 465 0,.int 0 0,.ref 770,.int 469 0,.int 0 0,.ref 777,.int 478 0,.int 0 0,.ref 784,.int 485 0,.int 0 0,.ref 791,.int 488 0,.int 0 0,.ref 798,.int 494 0,.int 0 0,.ref 805,.int 507 0,.int 0 0,.ref 812,.int 518 0,.int 0 0,.ref 819,.int 530 0,.int 0 0,.ref 826,.int 534 0,.int 0 0,.ref 833,.int 536 0,.int 0 0,.ref 840,.int 546 0,.int 0 0,.ref 847,.int 551 0,.int 0 0,.ref 854,.int 565 0,.int 0 0,.ref 861,.int 570 0,.int 0 0,.ref 880,.int 578 0,.int 0 0,.ref 899,.int 586 0,.int 0 0,.ref 918,.int 588 0,.int 0 0,.ref 925,.int 592 0,.int 0 0,.ref 932,.int 600 0,.int 0 0,.ref 951,.int 612 0,.int 0 0,.ref 958,.int 616 0,.int 0 0,.ref 977,.int 620 0,.int 0 0,.ref 996,.int 624 0,.int 0 0,.ref 1015,.int 630 0,.int 0 0,.ref 1034,.int 634 0,.int 0 0,.ref 1041,.int 641 0,.int 0 0,.ref 1048,.int 654 0,.int 0 0,.ref 1055,.int 658 0,.int 0 0,.ref 1062,.int 676 0,.int 0 0,.ref 1081,.int 682 0,.int 0 0,.ref 1102,.int 688 0,.int 0 0,.ref 1123,.int 692 0,.int 0 0,.ref 1144,.int 694 0,.int 0 0,.ref 1151,.int 696 0,.int 0 0,.ref 1158,.int 702 0,.int 0 0,.ref 1177,.int 709 0,.int 0 0,.ref 1184,.int 719 0,.int 0 0,.ref 1203,.int 727 0,.int 0 0,.ref 1222,.int 753 0,.int 0 0,.ref 1241,.int 760 0,.int 0 0,.ref 1260,.int 772 0,.int 0 0,.ref 1267,.int 780 0,.int 0 0,.ref 1274,.int 791 0,.int 0 0,.ref 1281,.int 805 0,.int 0 0,.ref 1288,.int 811 0,.int 0 0,.ref 1295,.int 818 0,.int 0 0,.ref 1302,.int 822 0,.int 0 0,.ref 1309,.int 835 0,.int 0 0,.ref 1335,.int 849 0,.int 0 0,.ref 1342,.int 855 0,.int 0 0,.ref 1349,.int 860 0,.int 0 0,.ref 1356,.int 866 0,.int 0 0,.ref 1363,.int 883 0,.int 0 0,.ref 1370,.int 892 0,.int 0 0,.ref 1377,.int 904 0,.int 0 0,.ref 1396,.int 908 0,.int 0 0,.ref 1415,.int 912 0,.int 0 0,.ref 1434,.int 914 0,.int 0 0,.ref 1441,.int 919 0,.int 0 0,.ref 1448,.int 923 0,.int 0 0,.ref 1455,.int 927 0,.int 0 0,.ref 1474,.int 937 0,.int 0 0,.ref 1507,.int 942 0,.int 0 0,.ref 1514,.int 946 0,.int 0 0,.ref 1521,.int 957 0,.int 0 0,.ref 1542,.int 965 0,.int 0 0,.ref 1549,.int 972 0,.int 0 0,.ref 1556,.int 985 0,.int 0 0,.ref 1561,.int 987 0,.int 0 0,.ref 1568,.int 994 0,.int 0 0,.ref 1575,.int 1013 0,.int 0 0,.ref 1582,.int 1032 0,.int 0 0,.ref 1589,.int 1036 0,.int 0 0,.ref 1596,.int 1042 0,.int 0 0,.ref 1603,.int 1048 0,.int 0 0,.ref 1610,.int 1056 0,.int 0 0,.ref 1617,.int 1070 0,.int 0 0,.ref 1624,.int 1100 0,.int 0 0,.ref 1631,.int 1104 0,.int 0 0,.ref 1638,.int 1107 0,.int 0 0,.ref 1645,.int 1109 0,.int 0 0,.ref 1652,.int 1115 0,.int 0 0,.ref 1659,.int 1120 0,.int 0 0,.ref 1664,.int 1123 0,.int 0 0,.ref 1671,.int 1163 0,.int 0 0,.ref 1678,.int 1170 0,.int 0 0,.ref 1683,.int 1181 0,.int 0 0,.ref 1690]
noncomputable def Mk(P:Params):Obj:=((boot_heap P).get? 0).getD default
noncomputable def Ml(P:Params)(nv:Value)(k n:Nat):Obj:=⟨.type "dict",none,.dict (.mk<|xx P nv++(Aa P).take k) n,.mk []⟩
noncomputable def dH(k:Nat):Obj:=⟨.none,none,.fields<|.mk<|Mi.take k,.mk []⟩
end
section
noncomputable def dK(P:Params)(s0:Str)(n1:Nat)(n2:Nat):Obj:=Ml P (.str s0 n1) n2<|n2+9
noncomputable def tZ(s0:Str)(n1:Nat)(s2:Str)(n3:Int)(n4:Int)(n5:Nat)(n6:Nat):Obj:=⟨.type "code",none,.fields<|.mk [.str s0 n1,.str s2<|n1+1,.str fS<|n1+2,.int n3 0,.int n4 0,.int 0 0,.int 0 0,.int 3 0,.ref n5,.bool true,.int 181 0,.ref<|n5+1,.none,.ref<|n5+2,.ref<|n5+3,.ref<|n5+4,.int n6 0,.int n3 0,.str fS<|n6+1],.mk []⟩
noncomputable def pU(n0:Nat)(s1:Str)(n2:Nat)(s3:Str)(n4:Nat):Obj:=nL (lT n0) s1 n2<|.str s3 n4
noncomputable def P4(n0:Nat)(n1:Nat)(s2:Str)(n3:Nat)(s4:Str)(n5:Nat):Obj:=nL (xw n0 n1) s2 n3<|.str s4 n5
noncomputable def pV(P:Params)(n0:Nat)(s1:Str)(n2:Nat)(n3:Int)(n4:Nat)(n5:Nat)(s6:Str)(n7:Nat)(n8:Nat)(s9:Str)(n10:Nat)(n11:Nat)(n12:Nat):Obj:=⟨.type "dict",none,.dict (.mk [e_ P zs14 n0<|.str s1 n2,e_ P zs15 (n0+4)<|.int n3<|n0+3,e_ P zs1 n4<|.ref n5,e_ P s6 n7<|.ref n8,e_ P s9 n10<|.ref n11,e_ P zs13 (n10+1) .none]) n12,.mk []⟩
noncomputable def t2(P:Params)(n0:Nat)(n1:Int)(n2:Nat):Obj:=⟨.type "dict",none,.dict (.mk [e_ P zs14 n0<|.str zs48 194,e_ P zs15 (n0+4)<|.int n1<|n0+3,e_ P zs2 (n0+5)<|.ref n2,e_ P zs13 (n0+6) .none]) 2,.mk []⟩
noncomputable def t4(s0:Str)(n1:Nat)(n2:Nat)(n3:Nat)(n4:Nat):Obj:=⟨.type "type",none,.cls {name:=s0,bases:=[.ref 38],mro:=[.ref n1,.ref 38,.type "Exception",.type "BaseException",.type "object"],ns:=n2,qualname:=s0,hasDict:=true,slotNames:=[],subclasses:=[],abstract:=false,collection:=none,hasDel:=false},.mk [some<|.ref n3,none,some<|.str s0 n4,some<|.str s0<|n4+8,some<|.builtin "Exception.__new__",some<|.bool true]⟩
noncomputable def dq(s0:Str)(n1:Nat)(n2:Nat)(n3:Nat):Obj:=⟨.type "type",none,.cls {name:=s0,bases:=[.type "object"],mro:=[.ref n1,.type "object"],ns:=n2,qualname:=s0,hasDict:=true,slotNames:=[],subclasses:=[],abstract:=false,collection:=none,hasDel:=false},.mk [none,none,some<|.str s0 n3,some<|.str s0<|n3+8,some<|.builtin "object.__new__",some<|.bool true]⟩
noncomputable def ej(P:Params)(n0:Nat)(s1:Str)(n2:Nat)(n3:Int)(s4:Str)(n5:Nat)(n6:Nat)(s7:Str)(n8:Nat)(n9:Nat)(s10:Str)(n11:Nat)(n12:Nat)(s13:Str)(n14:Nat)(n15:Nat):Obj:=⟨.type "dict",none,.dict (.mk [e_ P zs14 n0<|.str s1 n2,e_ P zs15 (n0+4)<|.int n3<|n0+3,e_ P s4 n5<|.ref n6,e_ P s7 n8<|.ref n9,e_ P s10 n11<|.ref n12,e_ P s13 n14<|.ref<|n12+1,e_ P zs13 (n14+1) .none]) n15,.mk []⟩
noncomputable def dz(P:Params)(n0:Nat)(s1:Str)(n2:Nat)(n3:Int)(s4:Str)(n5:Nat)(n6:Nat):Obj:=⟨.type "dict",none,.dict (.mk [e_ P zs14 n0<|.str s1 n2,e_ P zs15 (n0+4)<|.int n3<|n0+3,e_ P s4 n5<|.ref n6,e_ P zs2 (n5+1)<|.ref<|n6+1,e_ P zs13 (n5+2) .none]) 2,.mk []⟩
noncomputable def c9(s0:Str)(n1:Nat)(n2:Nat)(n3:Nat)(n4:Nat)(n5:Nat):Obj:=⟨.type "type",none,.cls {name:=s0,bases:=[.ref n1],mro:=[.ref n2,.ref n1,.type "object"],ns:=n3,qualname:=s0,hasDict:=true,slotNames:=[],subclasses:=[],abstract:=false,collection:=none,hasDel:=false},.mk [some<|.ref n4,none,some<|.str s0 n5,some<|.str s0<|n5+8,some<|.builtin "object.__new__",some<|.bool true]⟩
noncomputable def oN(s0:Str)(n1:Nat)(n2:Nat)(n3:Nat)(n4:Nat):Obj:=⟨.type "type",none,.cls {name:=s0,bases:=[.type "object"],mro:=[.ref n1,.type "object"],ns:=n2,qualname:=s0,hasDict:=true,slotNames:=[],subclasses:=[.ref n3],abstract:=false,collection:=none,hasDel:=false},.mk [none,none,some<|.str s0 n4,some<|.str s0<|n4+8,some<|.builtin "object.__new__",some<|.bool true]⟩
noncomputable def sV(s0:Str)(n1:Nat)(n2:Int)(n3:Int)(n4:Nat):Obj:=⟨.type "code",none,.fields<|.mk [.str s0 n1,.str s0<|n1+1,.str fS<|n1+2,.int n2 0,.int n3 0,.int 0 0,.int 0 0,.int 3 0,.ref n4,.bool true,.int 181 0,.ref<|n4+1,.none,.none,.none,.ref<|n4+2,.int (n1+3) 0,.int n2 0,.str fS<|n1+4],.mk []⟩
noncomputable def aJ(i:Nat)(s:Str)(a n:Nat)(x y:Int)(z:Nat)(m:Value)(r:LH):LH:=(a,tZ s n s x y (a-5) z)::(a+1,nL (lT i) s a m)::r
noncomputable def fM(i j:Nat)(s q:Str)(a n:Nat)(x y:Int)(z:Nat)(m:Value)(r:LH):LH:=(a,tZ s n q x y (a-5) z)::(a+1,nL (xw i j) q a m)::r
noncomputable def Ox:Value:=.str ⟨#[95,95,109,97,105,110,95,95]⟩ 164
noncomputable def Oy:Value:=.str zs48 194
noncomputable def ek:Value:=.str zs43 275
noncomputable def Oz:Value:=.str ⟨#[102,114,97,109,101,114,117,110,101,46,115,116,111,114,101]⟩ 574
noncomputable def pY:Value:=.str zs51 618
noncomputable def t5:Value:=.str zs42 673
noncomputable def bf:Value:=.str zs5 828
noncomputable def Bz:Value:=.str ⟨#[102,114,97,109,101,114,117,110,101,46,115,111,117,114,99,101,98,111,120]⟩ 1620
noncomputable def eo:Value:=.str zs11 1647
noncomputable def b9:Value:=.str zs10 1956
noncomputable def fJ:Value:=.str zs20 2442
noncomputable def dw:Value:=.str zs21 2650
noncomputable def bx(P:Params):Obj:=Mk P
noncomputable def oO(P:Params):Obj:=⟨.type "dict",none,.dict (.mk [e_ P ⟨#[98,117,105,108,116,105,110,115]⟩ 162<|.ref 4,e_ P ⟨#[95,95,109,97,105,110,95,95]⟩ 163<|.ref 5]) 2,.mk []⟩
noncomputable def Ab:Obj:=⟨.none,none,.dict (.mk []) 0,.mk []⟩
noncomputable def Ac(P:Params):Obj:=dK P ⟨#[95,95,109,97,105,110,95,95]⟩ 164 0
noncomputable def bu:Obj:=⟨.type "module",some 0,.plain,.mk []⟩
noncomputable def sW:Obj:=⟨.type "module",some 3,.plain,.mk []⟩
noncomputable def y8:Obj:=dH 0
noncomputable def bw:Obj:=⟨.type "code",none,.fields<|.mk [.str ⟨#[60,109,111,100,117,108,101,62]⟩ 182,.str ⟨#[60,109,111,100,117,108,101,62]⟩ 183,.str fS 184,.int 1 0,.int 0 0,.int 0 0,.int 0 0,.int 0 0,.ref 11,.bool false,.int 181 0,.ref 12,.none,.none,.none,.none,.int 185 0,.int 1 0,.str fS 186],.mk []⟩
noncomputable def F0(P:Params):LH:=[(0,bx P),(1,oO P),(2,Ab),(3,Ac P),(4,bu),(5,sW),(12,y8),(13,bw)]
noncomputable def ky(P:Params):Obj:=⟨.none,none,.dict (.mk [e_ P zs49 223<|.int 38 0,e_ P zs50 224<|.int 1 0]) 2,.mk []⟩
noncomputable def Ad(P:Params):Obj:=dK P zs43 275 25
noncomputable def y9:Obj:=dH 15
noncomputable def oP(P:Params):LH:=[(13,bw),(12,y8),(3,Ac P),(4,bu),(0,bx P),(2,Ab)]
noncomputable def BC(P:Params):LH:=aJ 0 ⟨#[95,119,97,108,108]⟩ 20 187 1 1 191 Ox<|fM 2 0 zs1 ⟨#[82,117,110,101,69,114,114,111,114,46,95,95,105,110,105,116,95,95]⟩ 34 208 7 3 214 Oy<|List.cons (37,pV P 203 zs48 194 5 216 35 zs2 219 36 zs3 221 39 3)<|List.cons (38,⟨.type "type",none,.cls {name:=zs38,bases:=[.type "Exception"],mro:=[.ref 38,.type "Exception",.type "BaseException",.type "object"],ns:=37,qualname:=zs38,hasDict:=true,slotNames:=[],subclasses:=[.ref 51,.ref 63,.ref 75],abstract:=false,collection:=none,hasDel:=false},.mk [some<|.ref 22,none,some<|.str zs38 196,some<|.str zs38 204,some<|.builtin "Exception.__new__",some<|.bool true]⟩)<|List.cons (50,t2 P 234 10 49)<|List.cons (51,t4 ⟨#[66,97,100,75,105,110,100]⟩ 51 50 42 227)<|List.cons (62,t2 P 250 12 61)<|List.cons (63,t4 ⟨#[82,117,110,66,111,117,110,100]⟩ 63 62 54 243)<|List.cons (74,t2 P 266 14 73)<|List.cons (75,t4 ⟨#[76,101,102,116,79,117,116]⟩ 75 74 66 259)<|[]
noncomputable def oQ(P:Params):LH:=[(0,bx P),(2,ky P),(3,Ad P),(4,bu),(12,y9),(13,bw)]++BC P
theorem OA(w:World):(cZ ZD pW w 1097 (oP w.params) 15 187 (Sem.wrap doneF deadEnd id id<|PySem.execs (stmts 0 27) cD) cE ⟨0,0,0,0⟩ [topFrame q0]).map (dj<|aI<|oQ w.params)=some (bg<|oQ w.params,78,317,cE,⟨36,0,36,7⟩):=by kernel_rfl
noncomputable def Ae(P:Params):Obj:=dK P zs43 275 47
noncomputable def za:Obj:=dH 45
noncomputable def l8(P:Params):LH:=[(3,Ad P),(0,bx P),(13,bw),(12,y9),(4,bu),(2,ky P)]
noncomputable def BD(P:Params):LH:=List.cons (78,⟨.type "dict",none,.dict (.mk [⟨0,.int 0 277,.int 20 335⟩,⟨1,.int 1 279,.int 9 336⟩,⟨2,.int 2 281,.int 10 337⟩,⟨3,.int 3 283,.int 11 338⟩,⟨4,.int 4 285,.int 12 339⟩,⟨5,.int 5 287,.int 13 340⟩,⟨6,.int 6 289,.int 14 341⟩,⟨7,.int 7 291,.int 15 342⟩,⟨8,.int 8 293,.int 16 343⟩,⟨9,.int 9 295,.int 17 344⟩,⟨10,.int 10 297,.int 18 345⟩,⟨11,.int 11 299,.int 19 346⟩,⟨12,.int 12 301,.int 1 347⟩,⟨13,.int 13 303,.int 4 348⟩]) 14,.mk []⟩)<|List.cons (79,⟨.type "dict",none,.dict (.mk [⟨20,.int 20 364,.int 0 277⟩,⟨9,.int 9 365,.int 1 279⟩,⟨10,.int 10 366,.int 2 281⟩,⟨11,.int 11 367,.int 3 283⟩,⟨12,.int 12 368,.int 4 285⟩,⟨13,.int 13 369,.int 5 287⟩,⟨14,.int 14 370,.int 6 289⟩,⟨15,.int 15 371,.int 7 291⟩,⟨16,.int 16 372,.int 8 293⟩,⟨17,.int 17 373,.int 9 295⟩,⟨18,.int 18 374,.int 10 297⟩,⟨19,.int 19 375,.int 11 299⟩,⟨1,.int 1 376,.int 12 301⟩,⟨4,.int 4 377,.int 13 303⟩]) 14,.mk []⟩)<|fM 39 0 zs1 ⟨#[75,105,110,100,84,97,98,108,101,46,95,95,105,110,105,116,95,95]⟩ 92 407 51 1 413 ek<|fM 39 1 zs25 ⟨#[75,105,110,100,84,97,98,108,101,46,114,111,119]⟩ 99 416 65 2 421 ek<|fM 39 2 zs24 ⟨#[75,105,110,100,84,97,98,108,101,46,112,117,116]⟩ 106 424 70 2 436 ek<|List.cons (109,⟨.type "dict",none,.dict (.mk [e_ P zs14 402<|.str zs43 275,e_ P zs15 406<|.int 49 405,e_ P zs1 415<|.ref 93,e_ P zs25 423<|.ref 100,e_ P zs24 438<|.ref 107,e_ P zs2 444<|.ref 108,e_ P zs4 446<|.ref 111,e_ P zs3 448<|.ref 112,e_ P zs13 449 .none]) 4,.mk []⟩)<|List.cons (110,dq ⟨#[75,105,110,100,84,97,98,108,101]⟩ 110 109 395)<|aJ 40 ⟨#[105,110,110,101,114,95,107,105,110,100,115]⟩ 120 452 98 1 457 ek<|aJ 41 ⟨#[114,111,119,95,108,101,118,101,108]⟩ 127 460 107 1 464 ek<|aJ 42 ⟨#[114,111,119,95,108,101,110,103,116,104]⟩ 134 467 111 1 471 ek<|aJ 43 ⟨#[99,104,101,99,107,95,107,105,110,100,95,114,111,119]⟩ 141 474 117 2 481 ek<|aJ 44 ⟨#[99,104,101,99,107,95,110,97,109,101,100]⟩ 148 484 139 2 489 ek<|aJ 45 ⟨#[99,104,101,99,107,95,97,114,103,115]⟩ 155 492 143 2 498 ek<|aJ 46 ⟨#[109,97,121,95,115,116,97,110,100]⟩ 162 501 147 2 507 ek<|aJ 47 ⟨#[99,108,97,115,115,95,107,105,110,100]⟩ 169 510 152 3 516 ek<|aJ 48 ⟨#[112,114,105,109,95,107,105,110,100]⟩ 176 519 156 2 524 ek<|[]
noncomputable def kB(P:Params):LH:=[(0,bx P),(2,ky P),(3,Ae P),(4,bu),(12,za),(13,bw)]++BD P
theorem OB:∀w:World,(cZ ZD pW w 1074 (l8 w.params) 78 317 (Sem.wrap doneF deadEnd id id<|PySem.execs (stmts 27 49) cD) cE ⟨36,0,36,7⟩ [topFrame q0]).map (dj<|aI<|kB w.params)=some (bg<|kB w.params,178,527,cE,⟨156,0,159,24⟩):=byRow2 (P:=λw=>(cZ ZD pW w 1074 (l8 w.params) 78 317 (Sem.wrap doneF deadEnd id id<|PySem.execs (stmts 27 49) cD) cE ⟨36,0,36,7⟩ [topFrame q0]).map (dj<|aI<|kB w.params)=some (bg<|kB w.params,178,527,cE,⟨156,0,159,24⟩)) "special-get-raises" λw=>by kernel_rfl λw=>by kernel_rfl
noncomputable def Af(P:Params):Obj:=dK P zs42 673 80
noncomputable def zb:Obj:=dH 63
noncomputable def oR(P:Params):LH:=[(13,bw),(12,za),(3,Ae P),(4,bu),(0,bx P),(2,ky P)]
noncomputable def BE(P:Params):LH:=aJ 49 ⟨#[116,105,100,95,111,102]⟩ 183 527 160 2 533 ek<|aJ 50 ⟨#[97,114,103,115,95,111,102]⟩ 190 536 169 2 542 ek<|aJ 51 ⟨#[105,115,95,118,97,108,117,101]⟩ 197 545 174 2 550 ek<|aJ 52 ⟨#[105,115,95,118,97,114]⟩ 204 553 178 2 559 ek<|fM 64 0 zs1 ⟨#[83,116,111,114,101,46,95,95,105,110,105,116,95,95]⟩ 218 596 194 1 600 Oz<|List.cons (221,ej P 591 ⟨#[102,114,97,109,101,114,117,110,101,46,115,116,111,114,101]⟩ 574 192 zs1 602 219 zs2 610 220 zs4 612 223 zs3 614 4)<|List.cons (222,dq ⟨#[83,116,111,114,101]⟩ 222 221 584)<|fM 66 0 zs1 ⟨#[68,105,97,103,115,46,95,95,105,110,105,116,95,95]⟩ 239 632 205 1 636 pY<|fM 66 1 zs24 ⟨#[68,105,97,103,115,46,112,117,116]⟩ 246 639 208 4 646 pY<|fM 66 2 ⟨#[99,117,116]⟩ ⟨#[68,105,97,103,115,46,99,117,116]⟩ 253 649 211 2 654 pY<|fM 66 3 ⟨#[110,117,109,98,101,114,115]⟩ ⟨#[68,105,97,103,115,46,110,117,109,98,101,114,115]⟩ 260 657 215 1 661 pY<|List.cons (263,⟨.type "dict",none,.dict (.mk [e_ P zs14 627<|.str zs51 618,e_ P zs15 631<|.int 203 630,e_ P zs1 638<|.ref 240,e_ P zs24 648<|.ref 247,e_ P ⟨#[99,117,116]⟩ 656<|.ref 254,e_ P ⟨#[110,117,109,98,101,114,115]⟩ 663<|.ref 261,e_ P zs2 665<|.ref 262,e_ P zs4 667<|.ref 265,e_ P zs3 669<|.ref 266,e_ P zs13 670 .none]) 4,.mk []⟩)<|List.cons (264,dq ⟨#[68,105,97,103,115]⟩ 264 263 620)<|[]
noncomputable def oS(P:Params):LH:=[(0,bx P),(2,ky P),(3,Af P),(4,bu),(12,zb),(13,bw)]++BE P
theorem OC(w:World):(cZ ZD pW w 939 (oR w.params) 178 527 (Sem.wrap doneF deadEnd id id<|PySem.execs (stmts 49 85) cD) cE ⟨156,0,159,24⟩ [topFrame q0]).map (dj<|aI<|oS w.params)=some (bg<|oS w.params,269,709,cE,⟨234,0,234,6⟩):=by kernel_rfl
noncomputable def Ag(P:Params):Obj:=⟨.none,none,.dict (.mk [e_ P zs49 223<|.int 38 0,e_ P zs50 224<|.int 2 0,e_ P zs52 878<|.int 349 0]) 3,.mk []⟩
noncomputable def Ah(P:Params):Obj:=dK P zs5 828 94
noncomputable def zc:Obj:=dH 75
noncomputable def oU(P:Params):LH:=[(0,bx P),(13,bw),(12,zb),(3,Af P),(4,bu),(2,ky P)]
noncomputable def BF(P:Params):LH:=fM 85 0 zs1 ⟨#[86,97,114,46,95,95,105,110,105,116,95,95]⟩ 281 721 237 6 730 t5<|List.cons (284,ej P 716 zs42 673 235 zs1 732 282 zs2 740 283 zs4 742 286 zs3 744 4)<|List.cons (285,dq ⟨#[86,97,114]⟩ 285 284 709)<|fM 86 0 zs1 ⟨#[70,110,46,95,95,105,110,105,116,95,95]⟩ 302 760 247 5 768 t5<|List.cons (305,ej P 755 zs42 673 245 zs1 770 303 zs2 782 304 zs4 784 307 zs3 786 4)<|List.cons (306,dq ⟨#[70,110]⟩ 306 305 748)<|fM 87 0 zs1 ⟨#[85,110,105,116,46,95,95,105,110,105,116,95,95]⟩ 323 802 261 3 808 t5<|List.cons (326,ej P 797 zs42 673 259 zs1 810 324 zs2 820 325 zs4 822 328 zs3 824 4)<|List.cons (327,dq ⟨#[85,110,105,116]⟩ 327 326 790)<|List.cons (332,⟨.type "tuple",none,.seq (.mk [.int 0 830,.none]) 0,.mk []⟩)<|fM 99 0 zs1 ⟨#[84,104,114,111,119,110,46,95,95,105,110,105,116,95,95]⟩ 345 861 284 4 868 bf<|List.cons (348,pV P 856 zs5 828 282 870 346 zs2 874 347 zs3 876 350 3)<|List.cons (349,⟨.type "type",none,.cls {name:=zs23,bases:=[.type "Exception"],mro:=[.ref 349,.type "Exception",.type "BaseException",.type "object"],ns:=348,qualname:=zs23,hasDict:=true,slotNames:=[],subclasses:=[],abstract:=false,collection:=none,hasDel:=false},.mk [some<|.ref 333,none,some<|.str zs23 849,some<|.str zs23 857,some<|.builtin "Exception.__new__",some<|.bool true]⟩)<|[]
noncomputable def oV(P:Params):LH:=[(0,bx P),(2,Ag P),(3,Ah P),(4,bu),(12,zc),(13,bw)]++BF P
theorem OD(w:World):(cZ ZD pW w 1033 (oU w.params) 269 709 (Sem.wrap doneF deadEnd id id<|PySem.execs (stmts 85 100) cD) cE ⟨234,0,234,6⟩ [topFrame q0]).map (dj<|aI<|oV w.params)=some (bg<|oV w.params,353,882,cE,⟨282,0,287,22⟩):=by kernel_rfl
noncomputable def cn(P:Params):Obj:=⟨.none,none,.dict (.mk [e_ P zs49 223<|.int 38 0,e_ P zs50 224<|.int 3 0,e_ P zs52 878<|.int 349 0,e_ P ⟨#[116,121,112,101,46,95,95,115,117,98,99,108,97,115,115,101,115,95,95,46,69,120,99,101,112,116,105,111,110,46,50]⟩ 907<|.int 369 0]) 4,.mk []⟩
noncomputable def Ai(P:Params):Obj:=dK P zs5 828 98
noncomputable def zd:Obj:=dH 87
noncomputable def nq(P:Params):Obj:=⟨.type "dict",none,.dict (.mk [e_ P zs14 955<|.str zs5 828,e_ P zs15 959<|.int 302 958,e_ P zs1 967<|.ref 407,e_ P zs26 977<|.ref 414,e_ P zs2 979<|.ref 415,e_ P zs4 981<|.ref 418,e_ P zs3 983<|.ref 419,e_ P zs13 984 .none]) 4,.mk []⟩
noncomputable def xy:Obj:=dq ⟨#[83,112,101,99,105,97,108]⟩ 417 416 948
noncomputable def oW(P:Params):LH:=[(0,bx P),(3,Ah P),(13,bw),(12,zc),(4,bu),(2,Ag P)]
noncomputable def BG(P:Params):LH:=fM 100 0 zs1 ⟨#[85,110,104,101,108,100,46,95,95,105,110,105,116,95,95]⟩ 365 894 290 2 899 bf<|List.cons (368,pV P 889 zs5 828 288 901 366 zs2 903 367 zs3 905 370 3)<|List.cons (369,⟨.type "type",none,.cls {name:=zs39,bases:=[.type "Exception"],mro:=[.ref 369,.type "Exception",.type "BaseException",.type "object"],ns:=368,qualname:=zs39,hasDict:=true,slotNames:=[],subclasses:=[],abstract:=false,collection:=none,hasDel:=false},.mk [some<|.ref 353,none,some<|.str zs39 882,some<|.str zs39 890,some<|.builtin "Exception.__new__",some<|.bool true]⟩)<|fM 101 0 zs1 ⟨#[73,116,101,109,46,95,95,105,110,105,116,95,95]⟩ 385 923 294 4 930 bf<|List.cons (388,ej P 918 zs5 828 292 zs1 932 386 zs2 940 387 zs4 942 390 zs3 944 4)<|List.cons (389,dq ⟨#[73,116,101,109]⟩ 389 388 911)<|fM 102 0 zs1 ⟨#[83,112,101,99,105,97,108,46,95,95,105,110,105,116,95,95]⟩ 406 960 304 2 965 bf<|fM 102 1 zs26 ⟨#[83,112,101,99,105,97,108,46,99,97,108,108]⟩ 413 968 307 4 975 bf<|fM 103 0 zs1 ⟨#[65,99,116,46,95,95,105,110,105,116,95,95]⟩ 434 999 311 6 1008 bf<|List.cons (437,ej P 994 zs5 828 309 zs1 1010 435 zs2 1021 436 zs4 1023 439 zs3 1025 4)<|List.cons (438,dq ⟨#[65,99,116]⟩ 438 437 987)<|[]
noncomputable def oX(P:Params):LH:=[(0,bx P),(2,cn P),(3,Ai P),(4,bu),(12,zd),(13,bw),(416,nq P),(417,xy)]++BG P
theorem OE(w:World):(cZ ZD pW w 950 (oW w.params) 353 882 (Sem.wrap doneF deadEnd id id<|PySem.execs (stmts 100 104) cD) cE ⟨282,0,287,22⟩ [topFrame q0]).map (dj<|aI<|oX w.params)=some (bg<|oX w.params,443,1029,cE,⟨309,0,321,24⟩):=by kernel_rfl
noncomputable def Aj(P:Params):Obj:=dK P zs5 828 102
noncomputable def ze:Obj:=dH 99
noncomputable def iK(P:Params):Obj:=ej P 1069 zs5 828 328 zs0 1083 477 zs2 1084 478 zs4 1086 481 zs3 1088 4
noncomputable def xA:Obj:=dq zs12 480 479 1062
noncomputable def nr(P:Params):Obj:=⟨.type "dict",none,.dict (.mk [e_ P zs14 1099<|.str zs5 828,e_ P zs15 1103<|.int 332 1102,e_ P zs17 1113<|.ref 498,e_ P zs27 1124<|.ref 505,e_ P zs28 1136<|.ref 512,e_ P zs2 1137<|.ref 513,e_ P zs4 1139<|.ref 516,e_ P zs3 1141<|.ref 517,e_ P zs13 1142 .none]) 4,.mk []⟩
noncomputable def xB:Obj:=dq ⟨#[69,118,84,97,114,103,101,116]⟩ 515 514 1092
noncomputable def iL(P:Params):Obj:=ej P 1152 zs5 828 342 zs0 1166 533 zs2 1167 534 zs4 1169 537 zs3 1171 4
noncomputable def xD:Obj:=dq zs8 536 535 1145
noncomputable def oY(P:Params):LH:=[(0,bx P),(13,bw),(12,zd),(3,Ai P),(4,bu),(2,cn P)]
noncomputable def BH(P:Params):LH:=fM 104 0 zs1 ⟨#[71,117,97,114,100,46,95,95,105,110,105,116,95,95]⟩ 455 1041 324 4 1048 bf<|List.cons (458,ej P 1036 zs5 828 322 zs1 1050 456 zs2 1054 457 zs4 1056 460 zs3 1058 4)<|List.cons (459,dq ⟨#[71,117,97,114,100]⟩ 459 458 1029)<|fM 105 0 zs0 ⟨#[69,118,69,120,112,114,46,114,117,110]⟩ 476 1074 330 4 1081 bf<|fM 106 0 zs17 ⟨#[69,118,84,97,114,103,101,116,46,114,101,97,100,121]⟩ 497 1104 334 4 1111 bf<|fM 106 1 zs27 ⟨#[69,118,84,97,114,103,101,116,46,114,101,97,100]⟩ 504 1114 337 5 1122 bf<|fM 106 2 zs28 ⟨#[69,118,84,97,114,103,101,116,46,119,114,105,116,101]⟩ 511 1125 340 6 1134 bf<|fM 107 0 zs0 ⟨#[69,118,83,116,109,116,46,114,117,110]⟩ 532 1157 344 4 1164 bf<|[]
noncomputable def oZ(P:Params):LH:=[(0,bx P),(2,cn P),(3,Aj P),(4,bu),(12,ze),(13,bw),(479,iK P),(480,xA),(514,nr P),(515,xB),(535,iL P),(536,xD)]++BH P
theorem OF(w:World):(cZ ZD pW w 967 (oY w.params) 443 1029 (Sem.wrap doneF deadEnd id id<|PySem.execs (stmts 104 108) cD) cE ⟨309,0,321,24⟩ [topFrame q0]).map (dj<|aI<|oZ w.params)=some (bg<|oZ w.params,541,1175,cE,⟨342,0,345,30⟩):=by kernel_rfl
noncomputable def Ak(P:Params):Obj:=dK P zs5 828 106
noncomputable def zf:Obj:=dH 111
noncomputable def nt(P:Params):Obj:=ej P 1182 zs5 828 346 zs29 1196 554 zs2 1197 555 zs4 1199 558 zs3 1201 4
noncomputable def xE:Obj:=dq ⟨#[70,110,83,116,97,114,116]⟩ 557 556 1175
noncomputable def o3(P:Params):LH:=[(0,bx P),(13,bw),(12,ze),(3,Aj P),(4,bu),(2,cn P)]
noncomputable def BI(P:Params):LH:=fM 108 0 zs29 ⟨#[70,110,83,116,97,114,116,46,115,116,97,114,116]⟩ 553 1187 348 4 1194 bf<|fM 109 0 zs17 ⟨#[83,112,108,105,116,115,46,114,101,97,100,121]⟩ 574 1217 352 3 1223 bf<|List.cons (577,ej P 1212 zs5 828 350 zs17 1225 575 zs2 1226 576 zs4 1228 579 zs3 1230 4)<|List.cons (578,dq ⟨#[83,112,108,105,116,115]⟩ 578 577 1205)<|fM 110 0 ⟨#[98,101,103,105,110]⟩ ⟨#[66,101,103,105,110,115,46,98,101,103,105,110]⟩ 595 1246 356 4 1253 bf<|List.cons (598,ej P 1241 zs5 828 354 ⟨#[98,101,103,105,110]⟩ 1255 596 zs2 1256 597 zs4 1258 600 zs3 1260 4)<|List.cons (599,dq ⟨#[66,101,103,105,110,115]⟩ 599 598 1234)<|fM 111 0 zs1 ⟨#[67,97,108,108,115,46,95,95,105,110,105,116,95,95]⟩ 616 1276 360 2 1281 bf<|fM 111 1 zs30 ⟨#[67,97,108,108,115,46,103,111,97,108]⟩ 623 1284 363 4 1291 bf<|List.cons (626,⟨.type "dict",none,.dict (.mk [e_ P zs14 1271<|.str zs5 828,e_ P zs15 1275<|.int 358 1274,e_ P zs1 1283<|.ref 617,e_ P zs30 1293<|.ref 624,e_ P zs2 1295<|.ref 625,e_ P zs4 1297<|.ref 628,e_ P zs3 1299<|.ref 629,e_ P zs13 1300 .none]) 4,.mk []⟩)<|List.cons (627,dq ⟨#[67,97,108,108,115]⟩ 627 626 1264)<|[]
noncomputable def o4(P:Params):LH:=[(0,bx P),(2,cn P),(3,Ak P),(4,bu),(12,zf),(13,bw),(556,nt P),(557,xE)]++BI P
theorem OG(w:World):(cZ ZD pW w 925 (o3 w.params) 541 1175 (Sem.wrap doneF deadEnd id id<|PySem.execs (stmts 108 112) cD) cE ⟨342,0,345,30⟩ [topFrame q0]).map (dj<|aI<|o4 w.params)=some (bg<|o4 w.params,632,1303,cE,⟨358,0,364,48⟩):=by kernel_rfl
noncomputable def Al(P:Params):Obj:=dK P zs5 828 125
noncomputable def zg:Obj:=dH 168
noncomputable def o5(P:Params):LH:=[(0,bx P),(13,bw),(12,zf),(3,Ak P),(4,bu),(2,cn P)]
noncomputable def BJ(P:Params):LH:=fM 112 0 zs1 ⟨#[80,108,111,116,46,95,95,105,110,105,116,95,95]⟩ 644 1315 367 3 1321 bf<|fM 112 1 ⟨#[105,115,95,97]⟩ ⟨#[80,108,111,116,46,105,115,95,97]⟩ 651 1324 393 3 1330 bf<|fM 112 2 ⟨#[99,108,111,115,101,100]⟩ ⟨#[80,108,111,116,46,99,108,111,115,101,100]⟩ 658 1333 396 3 1339 bf<|fM 112 3 zs46 ⟨#[80,108,111,116,46,99,108,111,115,101,100,95,114,101,102]⟩ 665 1342 399 3 1348 bf<|fM 112 4 ⟨#[102,105,114,115,116]⟩ ⟨#[80,108,111,116,46,102,105,114,115,116]⟩ 672 1351 402 2 1356 bf<|fM 112 5 ⟨#[97,115,107,101,100]⟩ ⟨#[80,108,111,116,46,97,115,107,101,100]⟩ 679 1359 405 2 1364 bf<|fM 112 6 ⟨#[101,114,114,111,114]⟩ ⟨#[80,108,111,116,46,101,114,114,111,114]⟩ 686 1367 408 3 1373 bf<|fM 112 7 zs47 ⟨#[80,108,111,116,46,116,121,112,101,95,105,116,101,109]⟩ 693 1376 411 2 1381 bf<|fM 112 8 ⟨#[115,101,101,110,95,97,115]⟩ ⟨#[80,108,111,116,46,115,101,101,110,95,97,115]⟩ 700 1384 414 3 1390 bf<|List.cons (703,⟨.type "dict",none,.dict (.mk [e_ P zs14 1310<|.str zs5 828,e_ P zs15 1314<|.int 365 1313,e_ P zs1 1323<|.ref 645,e_ P ⟨#[105,115,95,97]⟩ 1332<|.ref 652,e_ P ⟨#[99,108,111,115,101,100]⟩ 1341<|.ref 659,e_ P zs46 1350<|.ref 666,e_ P ⟨#[102,105,114,115,116]⟩ 1358<|.ref 673,e_ P ⟨#[97,115,107,101,100]⟩ 1366<|.ref 680,e_ P ⟨#[101,114,114,111,114]⟩ 1375<|.ref 687,e_ P zs47 1383<|.ref 694,e_ P ⟨#[115,101,101,110,95,97,115]⟩ 1392<|.ref 701,e_ P zs2 1417<|.ref 702,e_ P zs4 1419<|.ref 705,e_ P zs3 1421<|.ref 706,e_ P zs13 1422 .none]) 4,.mk []⟩)<|List.cons (704,dq ⟨#[80,108,111,116]⟩ 704 703 1303)<|aJ 113 ⟨#[99,111,117,110,116,95,115,116,101,112]⟩ 714 1425 416 1 1429 bf<|aJ 114 ⟨#[103,111,95,100,101,101,112,101,114]⟩ 721 1432 420 2 1438 bf<|aJ 115 ⟨#[110,101,120,116,95,110,117,109,98,101,114]⟩ 728 1441 426 1 1445 bf<|aJ 116 ⟨#[101,118,97,108,95,101,120,112,114]⟩ 735 1448 429 3 1457 bf<|aJ 117 ⟨#[101,120,101,99,95,115,116,109,116]⟩ 742 1460 438 3 1470 bf<|aJ 118 ⟨#[101,120,101,99,95,114,111,119]⟩ 749 1473 450 3 1482 bf<|aJ 119 ⟨#[107,105,110,100,95,105,110]⟩ 756 1485 459 3 1491 bf<|aJ 120 ⟨#[110,101,119,95,105,116,101,109]⟩ 763 1494 461 3 1501 bf<|aJ 121 ⟨#[98,108,111,99,107,95,110,117,109,98,101,114]⟩ 770 1504 465 1 1508 bf<|aJ 122 ⟨#[98,108,111,99,107,95,108,105,100,115]⟩ 777 1511 469 3 1519 bf<|aJ 123 ⟨#[98,101,103,105,110,95,98,108,111,99,107]⟩ 784 1522 478 3 1528 bf<|aJ 124 ⟨#[108,97,121,95,99,101,108,108,115]⟩ 791 1531 485 3 1538 bf<|aJ 125 ⟨#[99,101,108,108,95,111,102]⟩ 798 1541 488 4 1549 bf<|aJ 126 ⟨#[116,104,114,111,119,95,105,116,101,109]⟩ 805 1552 494 2 1560 bf<|aJ 127 ⟨#[114,111,119,95,116,97,107,105,110,103]⟩ 812 1563 507 3 1574 bf<|aJ 128 ⟨#[119,104,101,110,95,115,97,121,115]⟩ 819 1577 518 5 1588 bf<|aJ 129 ⟨#[112,117,115,104,95,103,117,97,114,100]⟩ 826 1591 530 3 1598 bf<|aJ 130 ⟨#[100,114,111,112,95,103,117,97,114,100,115]⟩ 833 1601 534 2 1606 bf<|[]
noncomputable def o6(P:Params):LH:=[(0,bx P),(2,cn P),(3,Al P),(4,bu),(12,zg),(13,bw)]++BJ P
theorem OH(w:World):(cZ ZD pW w 1088 (o5 w.params) 632 1303 (Sem.wrap doneF deadEnd id id<|PySem.execs (stmts 112 131) cD) cE ⟨358,0,364,48⟩ [topFrame q0]).map (dj<|aI<|o6 w.params)=some (bg<|o6 w.params,835,1609,cE,⟨534,0,535,26⟩):=by kernel_rfl
noncomputable def An(P:Params):Obj:=dK P zs11 1647 133
noncomputable def zh:Obj:=dH 192
noncomputable def xF:Obj:=⟨.type "type",none,.cls {name:=zs8,bases:=[.type "object"],mro:=[.ref 536,.type "object"],ns:=535,qualname:=zs8,hasDict:=true,slotNames:=[],subclasses:=[.ref 872,.ref 891,.ref 910],abstract:=false,collection:=none,hasDel:=false},.mk [none,none,some<|.str zs8 1145,some<|.str zs8 1153,some<|.builtin "object.__new__",some<|.bool true]⟩
noncomputable def o7(P:Params):LH:=[(13,bw),(12,zg),(3,Al P),(4,bu),(0,bx P),(536,xD),(2,cn P),(535,iL P)]
noncomputable def BL(P:Params):LH:=aJ 131 ⟨#[105,116,101,109,95,105,115]⟩ 840 1609 536 3 1617 bf<|aJ 133 ⟨#[118,97,108,117,101,95,97,116]⟩ 847 1622 546 1 1628 Bz<|aJ 134 ⟨#[112,117,116,95,118,97,108,117,101,95,97,116]⟩ 854 1631 551 2 1644 Bz<|fM 136 0 zs0 ⟨#[69,118,69,102,102,101,99,116,46,114,117,110]⟩ 868 1661 567 4 1668 eo<|List.cons (871,dz P 1656 zs11 1647 565 zs0 1670 869)<|List.cons (872,c9 ⟨#[69,118,69,102,102,101,99,116]⟩ 536 872 871 856 1649)<|fM 137 0 zs0 ⟨#[69,118,66,108,111,99,107,46,114,117,110]⟩ 887 1687 572 4 1695 eo<|List.cons (890,dz P 1682 zs11 1647 570 zs0 1697 888)<|List.cons (891,c9 ⟨#[69,118,66,108,111,99,107]⟩ 536 891 890 875 1675)<|fM 138 0 zs0 ⟨#[69,118,73,102,46,114,117,110]⟩ 906 1714 580 4 1721 eo<|List.cons (909,dz P 1709 zs11 1647 578 zs0 1723 907)<|List.cons (910,c9 ⟨#[69,118,73,102]⟩ 536 910 909 894 1702)<|aJ 139 ⟨#[103,111,101,115,95,111,110]⟩ 918 1728 586 1 1732 eo<|aJ 140 ⟨#[108,111,111,112,95,101,110,100]⟩ 925 1735 588 1 1739 eo<|[]
noncomputable def o8(P:Params):LH:=[(0,bx P),(2,cn P),(3,An P),(4,bu),(12,zh),(13,bw),(535,iL P),(536,xF)]++BL P
theorem OI(w:World):(cZ ZD pW w 918 (o7 w.params) 835 1609 (Sem.wrap doneF deadEnd id id<|PySem.execs (stmts 131 141) cD) cE ⟨534,0,535,26⟩ [topFrame q0]).map (dj<|aI<|o8 w.params)=some (bg<|o8 w.params,927,1742,cE,⟨588,0,591,15⟩):=by kernel_rfl
noncomputable def zi(P:Params):Obj:=dK P zs11 1647 138
noncomputable def xG:Obj:=dH 207
noncomputable def xI:Obj:=⟨.type "type",none,.cls {name:=zs8,bases:=[.type "object"],mro:=[.ref 536,.type "object"],ns:=535,qualname:=zs8,hasDict:=true,slotNames:=[],subclasses:=[.ref 872,.ref 891,.ref 910,.ref 943,.ref 969,.ref 988,.ref 1007],abstract:=false,collection:=none,hasDel:=false},.mk [none,none,some<|.str zs8 1145,some<|.str zs8 1153,some<|.builtin "object.__new__",some<|.bool true]⟩
noncomputable def o9(P:Params):LH:=[(0,bx P),(3,An P),(536,xF),(13,bw),(12,zh),(4,bu),(2,cn P),(535,iL P)]
noncomputable def BN(P:Params):LH:=fM 141 0 zs0 ⟨#[69,118,87,104,105,108,101,46,114,117,110]⟩ 939 1754 594 4 1762 eo<|List.cons (942,dz P 1749 zs11 1647 592 zs0 1764 940)<|List.cons (943,c9 ⟨#[69,118,87,104,105,108,101]⟩ 536 943 942 927 1742)<|aJ 142 ⟨#[114,117,110,95,100,111]⟩ 951 1769 600 4 1779 eo<|fM 143 0 zs0 ⟨#[69,118,66,114,101,97,107,46,114,117,110]⟩ 965 1794 614 4 1801 eo<|List.cons (968,dz P 1789 zs11 1647 612 zs0 1803 966)<|List.cons (969,c9 ⟨#[69,118,66,114,101,97,107]⟩ 536 969 968 953 1782)<|fM 144 0 zs0 ⟨#[69,118,67,111,110,116,105,110,117,101,46,114,117,110]⟩ 984 1820 618 4 1827 eo<|List.cons (987,dz P 1815 zs11 1647 616 zs0 1829 985)<|List.cons (988,c9 ⟨#[69,118,67,111,110,116,105,110,117,101]⟩ 536 988 987 972 1808)<|fM 145 0 zs0 ⟨#[69,118,89,105,101,108,100,66,114,101,97,107,46,114,117,110]⟩ 1003 1846 622 4 1853 eo<|List.cons (1006,dz P 1841 zs11 1647 620 zs0 1855 1004)<|List.cons (1007,c9 ⟨#[69,118,89,105,101,108,100,66,114,101,97,107]⟩ 536 1007 1006 991 1834)<|[]
noncomputable def pd(P:Params):LH:=[(0,bx P),(2,cn P),(3,zi P),(4,bu),(12,xG),(13,bw),(535,iL P),(536,xI)]++BN P
theorem OJ(w:World):(cZ ZD pW w 1021 (o9 w.params) 927 1742 (Sem.wrap doneF deadEnd id id<|PySem.execs (stmts 141 146) cD) cE ⟨588,0,591,15⟩ [topFrame q0]).map (dj<|aI<|pd w.params)=some (bg<|pd w.params,1010,1860,cE,⟨620,0,623,32⟩):=by kernel_rfl
noncomputable def zj(P:Params):Obj:=dK P zs10 1956 155
noncomputable def xJ:Obj:=dH 228
noncomputable def nM(P:Params):LH:=[(0,bx P),(3,zi P),(536,xI),(13,bw),(12,xG),(4,bu),(2,cn P),(535,iL P)]
noncomputable def Ao(P:Params):LH:=List.cons (536,⟨.type "type",none,.cls {name:=zs8,bases:=[.type "object"],mro:=[.ref 536,.type "object"],ns:=535,qualname:=zs8,hasDict:=true,slotNames:=[],subclasses:=[.ref 872,.ref 891,.ref 910,.ref 943,.ref 969,.ref 988,.ref 1007,.ref 1026,.ref 1073],abstract:=false,collection:=none,hasDel:=false},.mk [none,none,some<|.str zs8 1145,some<|.str zs8 1153,some<|.builtin "object.__new__",some<|.bool true]⟩)<|fM 146 0 zs0 ⟨#[69,118,84,104,114,111,119,46,114,117,110]⟩ 1022 1872 626 4 1879 eo<|List.cons (1025,dz P 1867 zs11 1647 624 zs0 1881 1023)<|List.cons (1026,c9 ⟨#[69,118,84,104,114,111,119]⟩ 536 1026 1025 1010 1860)<|aJ 147 ⟨#[99,97,117,103,104,116,95,114,111,119]⟩ 1034 1886 630 3 1892 eo<|aJ 148 ⟨#[98,101,103,105,110,95,99,97,116,99,104]⟩ 1041 1895 634 4 1902 eo<|aJ 149 ⟨#[114,117,110,95,99,97,116,99,104,101,115]⟩ 1048 1905 641 3 1916 eo<|aJ 150 ⟨#[97,102,116,101,114,95,102,105,110,97,108,108,121]⟩ 1055 1919 654 2 1924 eo<|fM 151 0 zs0 ⟨#[69,118,84,114,121,46,114,117,110]⟩ 1069 1939 660 4 1947 eo<|List.cons (1072,dz P 1934 zs11 1647 658 zs0 1949 1070)<|List.cons (1073,c9 ⟨#[69,118,84,114,121]⟩ 536 1073 1072 1057 1927)<|fM 163 0 zs1 ⟨#[67,117,116,46,95,95,105,110,105,116,95,95]⟩ 1088 1988 678 2 1993 b9<|List.cons (1091,ej P 1983 zs10 1956 676 zs1 1995 1089 zs2 1999 1090 zs4 2001 1093 zs3 2003 4)<|List.cons (1092,dq ⟨#[67,117,116]⟩ 1092 1091 1976)<|[]
noncomputable def nN(P:Params):LH:=[(0,bx P),(2,cn P),(3,zj P),(4,bu),(12,xJ),(13,bw),(535,iL P)]++Ao P
theorem Mm(w:World):(cZ ZD pW w 946 (nM w.params) 1010 1860 (Sem.wrap doneF deadEnd id id<|PySem.execs (stmts 146 164) cD) cE ⟨620,0,623,32⟩ [topFrame q0]).map (dj<|aI<|nN w.params)=some (bg<|nN w.params,1097,2007,cE,⟨676,0,681,24⟩):=by kernel_rfl
noncomputable def zk(P:Params):Obj:=dK P zs10 1956 162
noncomputable def xK:Obj:=dH 249
noncomputable def mY(P:Params):Obj:=ej P 2045 zs10 1956 688 zs6 2060 1131 zs2 2061 1132 zs4 2063 1135 zs3 2065 4
noncomputable def wL:Obj:=⟨.type "type",none,.cls {name:=zs16,bases:=[.type "object"],mro:=[.ref 1134,.type "object"],ns:=1133,qualname:=zs16,hasDict:=true,slotNames:=[],subclasses:=[.ref 1169,.ref 1195],abstract:=false,collection:=none,hasDel:=false},.mk [none,none,some<|.str zs16 2038,some<|.str zs16 2046,some<|.builtin "object.__new__",some<|.bool true]⟩
noncomputable def nO(P:Params):LH:=[(0,bx P),(13,bw),(12,xJ),(3,zj P),(4,bu),(2,cn P)]
noncomputable def Ap(P:Params):LH:=fM 164 0 zs1 ⟨#[67,117,116,70,114,97,109,101,46,95,95,105,110,105,116,95,95]⟩ 1109 2019 684 2 2024 b9<|List.cons (1112,ej P 2014 zs10 1956 682 zs1 2026 1110 zs2 2030 1111 zs4 2032 1114 zs3 2034 4)<|List.cons (1113,dq ⟨#[67,117,116,70,114,97,109,101]⟩ 1113 1112 2007)<|fM 165 0 zs6 ⟨#[67,117,116,82,117,108,101,46,115,116,101,112]⟩ 1130 2050 690 5 2058 b9<|aJ 166 ⟨#[100,111,110,101]⟩ 1144 2069 692 1 2073 b9<|aJ 167 ⟨#[112,117,115,104]⟩ 1151 2076 694 1 2080 b9<|fM 168 0 zs6 ⟨#[67,117,116,66,108,111,99,107,46,115,116,101,112]⟩ 1165 2095 698 5 2103 b9<|List.cons (1168,dz P 2090 zs10 1956 696 zs6 2105 1166)<|List.cons (1169,c9 ⟨#[67,117,116,66,108,111,99,107]⟩ 1134 1169 1168 1153 2083)<|aJ 169 ⟨#[110,101,120,116,95,111,102]⟩ 1177 2110 702 3 2116 b9<|fM 170 0 zs6 ⟨#[67,117,116,73,102,46,115,116,101,112]⟩ 1191 2131 711 5 2139 b9<|List.cons (1194,dz P 2126 zs10 1956 709 zs6 2141 1192)<|List.cons (1195,c9 ⟨#[67,117,116,73,102]⟩ 1134 1195 1194 1179 2119)<|[]
noncomputable def nP(P:Params):LH:=[(0,bx P),(2,cn P),(3,zk P),(4,bu),(12,xK),(13,bw),(1133,mY P),(1134,wL)]++Ap P
theorem Mn(w:World):(cZ ZD pW w 1032 (nO w.params) 1097 2007 (Sem.wrap doneF deadEnd id id<|PySem.execs (stmts 164 171) cD) cE ⟨676,0,681,24⟩ [topFrame q0]).map (dj<|aI<|nP w.params)=some (bg<|nP w.params,1198,2146,cE,⟨709,0,718,27⟩):=by kernel_rfl
noncomputable def zl(P:Params):Obj:=dK P zs10 1956 172
noncomputable def xM:Obj:=dH 279
noncomputable def nQ(P:Params):LH:=[(0,bx P),(3,zk P),(1134,wL),(13,bw),(12,xK),(4,bu),(2,cn P),(1133,mY P)]
noncomputable def Aq(P:Params):LH:=List.cons (1134,⟨.type "type",none,.cls {name:=zs16,bases:=[.type "object"],mro:=[.ref 1134,.type "object"],ns:=1133,qualname:=zs16,hasDict:=true,slotNames:=[],subclasses:=[.ref 1169,.ref 1195,.ref 1214,.ref 1233,.ref 1252],abstract:=false,collection:=none,hasDel:=false},.mk [none,none,some<|.str zs16 2038,some<|.str zs16 2046,some<|.builtin "object.__new__",some<|.bool true]⟩)<|fM 171 0 zs6 ⟨#[67,117,116,87,104,105,108,101,46,115,116,101,112]⟩ 1210 2158 721 5 2166 b9<|List.cons (1213,dz P 2153 zs10 1956 719 zs6 2168 1211)<|List.cons (1214,c9 ⟨#[67,117,116,87,104,105,108,101]⟩ 1134 1214 1213 1198 2146)<|fM 172 0 zs6 ⟨#[67,117,116,84,114,121,46,115,116,101,112]⟩ 1229 2185 729 5 2196 b9<|List.cons (1232,dz P 2180 zs10 1956 727 zs6 2198 1230)<|List.cons (1233,c9 ⟨#[67,117,116,84,114,121]⟩ 1134 1233 1232 1217 2173)<|fM 173 0 zs6 ⟨#[67,117,116,89,105,101,108,100,46,115,116,101,112]⟩ 1248 2215 755 5 2223 b9<|List.cons (1251,dz P 2210 zs10 1956 753 zs6 2225 1249)<|List.cons (1252,c9 ⟨#[67,117,116,89,105,101,108,100]⟩ 1134 1252 1251 1236 2203)<|aJ 174 ⟨#[115,116,101,112,95,102,114,97,109,101]⟩ 1260 2230 760 4 2241 b9<|aJ 175 ⟨#[98,101,103,105,110,95,111,110,101]⟩ 1267 2244 772 3 2252 b9<|aJ 176 ⟨#[116,117,114,110,95,115,116,97,99,107]⟩ 1274 2255 780 3 2262 b9<|aJ 177 ⟨#[97,100,118,97,110,99,101]⟩ 1281 2265 791 3 2275 b9<|aJ 178 ⟨#[98,111,100,121,95,114,101,97,100,121]⟩ 1288 2278 805 2 2284 b9<|aJ 179 ⟨#[115,116,97,114,116,95,99,117,116]⟩ 1295 2287 811 2 2294 b9<|aJ 180 ⟨#[107,101,112,116,95,116,104,105,115]⟩ 1302 2297 818 2 2302 b9<|[]
noncomputable def nR(P:Params):LH:=[(0,bx P),(2,cn P),(3,zl P),(4,bu),(12,xM),(13,bw),(1133,mY P)]++Aq P
theorem Mo(w:World):(cZ ZD pW w 974 (nQ w.params) 1198 2146 (Sem.wrap doneF deadEnd id id<|PySem.execs (stmts 171 181) cD) cE ⟨709,0,718,27⟩ [topFrame q0]).map (dj<|aI<|nR w.params)=some (bg<|nR w.params,1304,2305,cE,⟨818,0,821,19⟩):=by kernel_rfl
noncomputable def zm(P:Params):Obj:=dK P zs20 2442 181
noncomputable def xN:Obj:=dH 306
noncomputable def xO:Obj:=oN zs12 480 479 1407 1062
noncomputable def nT(P:Params):LH:=[(0,bx P),(3,zl P),(417,xy),(13,bw),(12,xM),(4,bu),(2,cn P),(416,nq P),(557,xE),(556,nt P),(480,xA),(479,iK P)]
noncomputable def As(P:Params):LH:=List.cons (417,oN ⟨#[83,112,101,99,105,97,108]⟩ 417 416 1327 948)<|List.cons (557,oN ⟨#[70,110,83,116,97,114,116]⟩ 557 556 1388 1175)<|fM 181 0 zs1 ⟨#[73,116,101,114,97,116,105,111,110,46,95,95,105,110,105,116,95,95]⟩ 1316 2317 824 6 2326 b9<|fM 181 1 zs26 ⟨#[73,116,101,114,97,116,105,111,110,46,99,97,108,108]⟩ 1323 2329 833 4 2336 b9<|List.cons (1326,pV P 2312 zs10 1956 822 2328 1317 zs26 2338 1324 zs2 2346 1325 2)<|List.cons (1327,c9 ⟨#[73,116,101,114,97,116,105,111,110]⟩ 417 1327 1326 1304 2305)<|aJ 182 ⟨#[99,97,108,108,95,105,116,101,114,97,116,105,111,110]⟩ 1335 2350 835 4 2357 b9<|aJ 183 ⟨#[112,117,116,95,105,116,101,114,97,116,105,111,110]⟩ 1342 2360 849 5 2370 b9<|aJ 184 ⟨#[97,103,97,105,110,95,105,116,101,114,97,116,105,111,110]⟩ 1349 2373 855 2 2378 b9<|aJ 185 ⟨#[98,101,103,105,110,95,105,116,101,114,97,116,105,111,110]⟩ 1356 2381 860 2 2389 b9<|aJ 186 ⟨#[109,111,118,101,95,105,116,101,114,97,116,105,111,110]⟩ 1363 2392 866 2 2399 b9<|aJ 187 ⟨#[101,110,100,95,105,116,101,114,97,116,105,111,110]⟩ 1370 2402 883 2 2409 b9<|fM 188 0 zs29 ⟨#[73,116,101,114,83,116,97,114,116,46,115,116,97,114,116]⟩ 1384 2424 894 4 2435 b9<|List.cons (1387,dz P 2419 zs10 1956 892 zs29 2437 1385)<|List.cons (1388,c9 ⟨#[73,116,101,114,83,116,97,114,116]⟩ 557 1388 1387 1372 2412)<|fM 190 0 zs0 ⟨#[69,118,72,101,108,100,46,114,117,110]⟩ 1403 2456 906 4 2463 fJ<|List.cons (1406,dz P 2451 zs20 2442 904 zs0 2465 1404)<|List.cons (1407,c9 ⟨#[69,118,72,101,108,100]⟩ 480 1407 1406 1391 2444)<|[]
noncomputable def nU(P:Params):LH:=[(0,bx P),(2,cn P),(3,zm P),(4,bu),(12,xN),(13,bw),(416,nq P),(479,iK P),(480,xO),(556,nt P)]++As P
theorem Mp(w:World):(cZ ZD pW w 989 (nT w.params) 1304 2305 (Sem.wrap doneF deadEnd id id<|PySem.execs (stmts 181 191) cD) cE ⟨818,0,821,19⟩ [topFrame q0]).map (dj<|aI<|nU w.params)=some (bg<|nU w.params,1410,2470,cE,⟨904,0,907,19⟩):=by kernel_rfl
noncomputable def zo(P:Params):Obj:=dK P zs20 2442 189
noncomputable def xQ:Obj:=dH 330
noncomputable def xS:Obj:=⟨.type "type",none,.cls {name:=zs12,bases:=[.type "object"],mro:=[.ref 480,.type "object"],ns:=479,qualname:=zs12,hasDict:=true,slotNames:=[],subclasses:=[.ref 1407,.ref 1426,.ref 1466],abstract:=false,collection:=none,hasDel:=false},.mk [none,none,some<|.str zs12 1062,some<|.str zs12 1070,some<|.builtin "object.__new__",some<|.bool true]⟩
noncomputable def nV(P:Params):LH:=[(0,bx P),(3,zm P),(480,xO),(13,bw),(12,xN),(4,bu),(2,cn P),(479,iK P),(515,xB),(514,nr P)]
noncomputable def Au(P:Params):LH:=List.cons (515,oN ⟨#[69,118,84,97,114,103,101,116]⟩ 515 514 1499 1092)<|fM 191 0 zs0 ⟨#[69,118,84,121,112,101,111,102,46,114,117,110]⟩ 1422 2482 910 4 2489 fJ<|List.cons (1425,dz P 2477 zs20 2442 908 zs0 2491 1423)<|List.cons (1426,c9 ⟨#[69,118,84,121,112,101,111,102]⟩ 480 1426 1425 1410 2470)<|aJ 192 ⟨#[114,101,97,100,115,95,116,104,114,111,117,103,104]⟩ 1434 2496 912 2 2501 fJ<|aJ 193 ⟨#[99,101,108,108,95,112,108,97,99,101]⟩ 1441 2504 914 3 2511 fJ<|aJ 194 ⟨#[108,111,99,97,108,95,118,97,108,117,101]⟩ 1448 2514 919 4 2521 fJ<|fM 195 0 zs0 ⟨#[69,118,76,111,99,97,108,46,114,117,110]⟩ 1462 2536 925 4 2543 fJ<|List.cons (1465,dz P 2531 zs20 2442 923 zs0 2545 1463)<|List.cons (1466,c9 ⟨#[69,118,76,111,99,97,108]⟩ 480 1466 1465 1450 2524)<|fM 196 0 zs17 ⟨#[76,111,99,97,108,84,97,114,103,101,116,46,114,101,97,100,121]⟩ 1481 2562 929 4 2569 fJ<|fM 196 1 zs27 ⟨#[76,111,99,97,108,84,97,114,103,101,116,46,114,101,97,100]⟩ 1488 2572 932 5 2580 fJ<|fM 196 2 zs28 ⟨#[76,111,99,97,108,84,97,114,103,101,116,46,119,114,105,116,101]⟩ 1495 2583 935 6 2592 fJ<|List.cons (1498,ej P 2557 zs20 2442 927 zs17 2571 1482 zs27 2582 1489 zs28 2594 1496 zs2 2595 2)<|List.cons (1499,c9 ⟨#[76,111,99,97,108,84,97,114,103,101,116]⟩ 515 1499 1498 1469 2550)<|aJ 197 ⟨#[114,101,97,100,121,95,116,97,114,103,101,116]⟩ 1507 2599 937 3 2607 fJ<|aJ 198 ⟨#[119,114,105,116,101,95,116,97,114,103,101,116]⟩ 1514 2610 942 5 2619 fJ<|[]
noncomputable def nW(P:Params):LH:=[(0,bx P),(2,cn P),(3,zo P),(4,bu),(12,xQ),(13,bw),(479,iK P),(480,xS),(514,nr P)]++Au P
theorem Mq(w:World):(cZ ZD pW w 971 (nV w.params) 1410 2470 (Sem.wrap doneF deadEnd id id<|PySem.execs (stmts 191 199) cD) cE ⟨904,0,907,19⟩ [topFrame q0]).map (dj<|aI<|nW w.params)=some (bg<|nW w.params,1516,2622,cE,⟨942,0,945,22⟩):=by kernel_rfl
noncomputable def zp(P:Params):Obj:=dK P zs21 2650 215
noncomputable def xT:Obj:=dH 399
noncomputable def nX(P:Params):LH:=[(0,bx P),(3,zo P),(480,xS),(13,bw),(12,xQ),(4,bu),(2,cn P),(479,iK P)]
noncomputable def Av(P:Params):LH:=List.cons (480,⟨.type "type",none,.cls {name:=zs12,bases:=[.type "object"],mro:=[.ref 480,.type "object"],ns:=479,qualname:=zs12,hasDict:=true,slotNames:=[],subclasses:=[.ref 1407,.ref 1426,.ref 1466,.ref 1532],abstract:=false,collection:=none,hasDel:=false},.mk [none,none,some<|.str zs12 1062,some<|.str zs12 1070,some<|.builtin "object.__new__",some<|.bool true]⟩)<|fM 199 0 zs0 ⟨#[69,118,65,115,115,105,103,110,46,114,117,110]⟩ 1528 2634 948 4 2643 fJ<|List.cons (1531,dz P 2629 zs20 2442 946 zs0 2645 1529)<|List.cons (1532,c9 ⟨#[69,118,65,115,115,105,103,110]⟩ 480 1532 1531 1516 2622)<|List.cons (1535,⟨.type "tuple",none,.seq (.mk [.int 0 2654,.int 1 2655,.int 4 2656,.int 2 2657,.int 3 2658,.int 2 2659,.int 1 2660,.int 6 2661,.int 7 2662,.int 8 2663,.int 8 2664,.int 5 2665,.int 1 2666,.int 5 2667]) 0,.mk []⟩)<|List.cons (1536,⟨.type "tuple",none,.seq (.mk [.int 1 2669,.int 3 2670,.int 0 2671,.int 3 2672,.int 0 2673,.int 1 2674,.int 1 2675,.int 11 2676,.int 0 2677,.int 0 2678,.int 2 2679,.int 0 2680,.int 0 2681,.int 4 2682,.int 9 2683,.int 1 2684,.int 0 2685,.int 7 2686,.int 1 2687,.int 0 2688,.int 4 2689,.int 1 2690,.int 0 2691,.int 1 2692,.int 1 2693,.int 1 2694,.int 2 2695,.int 0 2696,.int 0 2697,.int 0 2698,.int 8 2699,.int 0 2700,.int 0 2701,.int 1 2702,.int 0 2703,.int 0 2704,.int 2 2705,.int 0 2706,.int 0 2707,.int 4 2708,.int 5 2709,.int 0 2710,.int 0 2711]) 0,.mk []⟩)<|aJ 204 ⟨#[95,108,97,119,95,116,97,107,101]⟩ 1542 2713 957 2 2719 dw<|aJ 205 ⟨#[95,108,97,119,95,118,97,108,117,101]⟩ 1549 2722 965 1 2727 dw<|aJ 206 ⟨#[95,108,97,119,95,115,105,109,112,108,101]⟩ 1556 2730 972 4 2738 dw<|List.cons (1561,sV zs44 2741 985 4 1558)<|List.cons (1562,pU 207 zs44 1561 zs21 2650)<|aJ 208 ⟨#[95,108,97,119,95,98,108,111,99,107]⟩ 1568 2747 987 3 2755 dw<|aJ 209 ⟨#[95,108,97,119,95,99,97,116,99,104]⟩ 1575 2758 994 3 2772 dw<|aJ 210 ⟨#[95,108,97,119,95,100,114,97,119]⟩ 1582 2775 1013 3 2782 dw<|aJ 211 ⟨#[95,108,97,119,95,111,102]⟩ 1589 2785 1032 2 2790 dw<|aJ 212 ⟨#[95,108,97,119,95,119,97,108,107]⟩ 1596 2793 1036 2 2800 dw<|aJ 213 ⟨#[95,108,97,119,95,108,97,115,116]⟩ 1603 2803 1042 3 2810 dw<|aJ 214 ⟨#[95,108,97,119,95,116,104,114,111,119,110]⟩ 1610 2813 1048 2 2826 dw<|aJ 215 ⟨#[95,108,97,119,95,99,97,117,103,104,116]⟩ 1617 2829 1056 2 2840 dw<|aJ 216 ⟨#[95,108,97,119,95,100,111]⟩ 1624 2843 1070 2 2850 dw<|aJ 217 ⟨#[95,108,97,119,95,109,101,97,110,105,110,103]⟩ 1631 2853 1100 3 2861 dw<|aJ 218 ⟨#[95,108,97,119,95,108,105,100]⟩ 1638 2864 1104 1 2868 dw<|aJ 219 ⟨#[95,108,97,119,95,115,101,116]⟩ 1645 2871 1107 2 2876 dw<|aJ 220 ⟨#[95,108,97,119,95,101,120,112,114]⟩ 1652 2879 1109 1 2883 dw<|aJ 221 ⟨#[95,108,97,119,95,109,97,114,107,101,100]⟩ 1659 2886 1115 2 2892 dw<|List.cons (1664,sV zs45 2895 1120 2 1661)<|List.cons (1665,pU 222 zs45 1664 zs21 2650)<|aJ 223 ⟨#[95,108,97,119,95,114,101,97,100,121]⟩ 1671 2901 1123 2 2921 dw<|aJ 224 ⟨#[95,108,97,119,95,112,108,111,116]⟩ 1678 2924 1163 1 2929 dw<|List.cons (1683,sV ⟨#[95,108,97,119,95,97,115,107]⟩ 2932 1170 4 1680)<|List.cons (1684,pU 225 ⟨#[95,108,97,119,95,97,115,107]⟩ 1683 zs21 2650)<|[]
noncomputable def nY(P:Params):LH:=[(0,bx P),(2,cn P),(3,zp P),(4,bu),(12,xT),(13,bw),(479,iK P)]++Av P
theorem Mr(w:World):(cZ ZD pW w 1047 (nX w.params) 1516 2622 (Sem.wrap doneF deadEnd id id<|PySem.execs (stmts 199 226) cD) cE ⟨942,0,945,22⟩ [topFrame q0]).map (dj<|aI<|nY w.params)=some (bg<|nY w.params,1685,2938,cE,⟨1170,0,1180,85⟩):=by kernel_rfl
noncomputable def nZ(P:Params):Obj:=dK P zs21 2650 216
noncomputable def xU:Obj:=dH 402
noncomputable def qS:Obj:=⟨.none,none,.fields<|.mk [],.mk []⟩
noncomputable def mZ:Obj:=tZ ⟨#[108,97,119]⟩ 2938 ⟨#[108,97,119]⟩ 1181 1 1685 2975
noncomputable def lC:Obj:=pU 226 ⟨#[108,97,119]⟩ 1690 zs21 2650
noncomputable def oa(P:Params):LH:=[(13,bw),(12,xT),(3,zp P),(4,bu)]
noncomputable def Aw:LH:=[]
noncomputable def oc(P:Params):LH:=[(3,nZ P),(4,bu),(12,xU),(13,bw),(1686,qS),(1690,mZ),(1691,lC)]++Aw
theorem Mt(w:World):(cZ ZD pW w 63 (oa w.params) 1685 2938 (Sem.wrap doneF deadEnd id id<|PySem.execs (stmts 226 227) cD) cE ⟨1170,0,1180,85⟩ [topFrame q0]).map (dj<|aI<|oc w.params)=some (bg<|oc w.params,1692,2978,cE,⟨1181,0,1253,16⟩):=by kernel_rfl
end
theorem mM:∀{L:LH}{a:Nat}{o:Obj},cm L a=some o->(a,o)∈L
 |[],_,_,h=>by injection h|(b,x)::r,a,o,h=>by
  rw[fW]at h;by_cases q:b=a;·subst q;rw[if_pos rfl]at h;haveI h:=sI h;subst h;exact .head _
  ·rw[if_neg q]at h;exact .tail _<|mM h
theorem CR(A B:LH)(a:Nat):cm (A++B) a=match cm A a with|some o=>some o|none=>cm B a:=by induction A with|nil=>rfl|cons p r e=>
  obtain⟨b,x⟩:=p;rw[List.cons_append,fW,fW];by_cases q:b=a;·subst q;exact Rr (if_pos rfl)<|Rr (if_pos rfl) rfl
  ·refine Rr (if_neg q)<|Rr (if_neg q) ?_;exact e
theorem vm:∀{L:LH}{a:Nat},a∉aI L->cm L a=none|[],_,_=>rfl|(b,x)::r,a,h=>by rw[fW,if_neg λq=>h<|by subst q;exact .head _];exact vm λq=>h<|.tail _ q
theorem rD:∀{L:LH},c8 (aI L) M=bg L->∀p∈L,cm M p.1=some p.2
 |[],_,_,hp=>by cases hp|q::r,h,p,hp=>by
  refine(List.cons.inj h).elim λd c=>?_;rcases P7 hp with rfl|hp;·exact d
  ·exact rD c p hp
theorem C4(T:(cZ ZD pW w N f n k (Sem.wrap doneF deadEnd id id<|PySem.execs (stmts i j) cD) cE p [topFrame q0]).map (dj<|aI d)=some (bg d,n',W,cE,p'))(hh:c8 (aI f) F=bg f)(P:(aI f).all (λa=>(aI d).contains a)=true)(s:Shared)(R:ee F n s.heap)(hk:s.toks=k):∃g,segRun table pW w 11 X 1 N s (piecesOf (stmts i j) cD cE p [topFrame q0])=some (.next,g,cE,p')/\ee (d++F) n' g.heap/\g.toks=W/\g.gens=s.gens/\g.drawn=s.drawn/\g.os=s.os/\g.heap.life=s.heap.life:=by obtain⟨⟨L',D,L,K,A⟩,u,Q⟩:=P6 T;obtain⟨e1,Z⟩:=Prod.mk.inj Q;obtain⟨rfl,V⟩:=Prod.mk.inj Z;obtain⟨rfl,Y⟩:=Prod.mk.inj V;obtain⟨rfl,rfl⟩:=Prod.mk.inj Y;haveI Rh:ee f n s.heap:=⟨R.size,λa o e=>R.at_ a o<|rD hh (a,o)<|mM e⟩;rw[<-Hv]at u;obtain⟨g,C,v,H,E,J,U,B,I⟩:=uX N f n k ⟨_,_,_,_⟩ _ s Rh hk u;refine⟨g,C,⟨v.size,λa o e=>?_⟩,H,E,J,U,B⟩;rw[CR]at e;cases l:cm d a with|some o'=>rw[l]at e;haveI e:=sI e;subst e;exact v.at_ a _<|rD e1 (a,_)<|mM l|none=>
    rw[l]at e;refine I a o (vm λM=>?_)<|R.at_ a o e;haveI m:=List.contains_iff_mem.mp<|List.all_eq_true.mp P a M;obtain⟨⟨b,x⟩,hp,hb⟩:=List.mem_map.mp m;subst hb;haveI:cm d b≠none:=by clear u Q e1 P C v H E J U B I T e M m;induction d with|nil=>cases hp|cons y r ih=>
        obtain⟨c,z⟩:=y;rw[fW]at l⊢;by_cases q:c=b;·rw[if_pos q];simp
        · rw[if_neg q]at l⊢;rcases P7 hp with h|h;·exact absurd (congrArg Prod.fst h).symm q
          ·exact ih h l
    exact this l
def Mu(F:LH)(n:Nat)(s r:Shared):Prop:=ee F n r.heap/\r.gens=s.gens/\r.drawn=s.drawn/\r.os=s.os/\r.heap.life=s.heap.life
def da(w:World)(ann:Option Value)(M:Nat)(i:Nat)(p:Pos)(F:LH)(n k:Nat)(FF:LH)(nn:Nat):Prop:=∀s:Shared,ee F n s.heap->s.toks=k->∃r,topRun table pW w 11 ann M s (restOf (iT.drop i) cD cE p [topFrame q0])=some r/\Mu FF nn s r
theorem dR(g:i<=j)(E:(cZ ZD pW w N b n k (Sem.wrap doneF deadEnd id id<|PySem.execs (stmts i j) cD) cE p [topFrame q0]).map (dj<|aI c)=some (bg c,n',y,cE,K))(x:c8 (aI b) F=bg b)(B:(aI b).all (λa=>(aI c).contains a)=true)(T:da w f M j K (c++F) n' y u nn):da w f (N+M) i p F n k u nn:=by
 intro s R H;obtain⟨J,G,t,I,C,L,z,D⟩:=C4 E x B s R H;obtain⟨r,A,v,m,l,h,d⟩:=T J t I;refine⟨r,?_,v,m.trans C,l.trans L,h.trans z,d.trans D⟩;haveI e:iT.drop i=stmts i j++iT.drop j:=by
  delta stmts;haveI:iT.drop j=(iT.drop i).drop (j-i):=by exact Rr List.drop_drop<|Rr (Nat.add_sub_cancel' g) rfl
  rw[this,List.take_append_drop]
 refine Rr e ?_;exact piece_app G A
theorem Ed(a:iT.drop i=[]):da w b 2 i p F n k F n:=by intro s R c;refine⟨s,?_,R,rfl,rfl,rfl,rfl⟩;refine Rr a ?_;rfl
noncomputable def F1(P:Params):LH:=oQ P++F0 P
theorem OK(P:Params):c8 (aI<|oP P) (F0 P)=bg (oP P):=by kernel_rfl
theorem OL(P:Params):(aI<|oP P).all (λa=>(aI<|oQ P).contains a)=true:=by kernel_rfl
noncomputable def F2(P:Params):LH:=kB P++F1 P
theorem OM(P:Params):c8 (aI<|l8 P) (F1 P)=bg (l8 P):=by kernel_rfl
theorem ON(P:Params):(aI<|l8 P).all (λa=>(aI<|kB P).contains a)=true:=by kernel_rfl
noncomputable def F3(P:Params):LH:=oS P++F2 P
theorem OO(P:Params):c8 (aI<|oR P) (F2 P)=bg (oR P):=by kernel_rfl
theorem OP(P:Params):(aI<|oR P).all (λa=>(aI<|oS P).contains a)=true:=by kernel_rfl
noncomputable def F4(P:Params):LH:=oV P++F3 P
theorem OQ(P:Params):c8 (aI<|oU P) (F3 P)=bg (oU P):=by kernel_rfl
theorem OR(P:Params):(aI<|oU P).all (λa=>(aI<|oV P).contains a)=true:=by kernel_rfl
noncomputable def F5(P:Params):LH:=oX P++F4 P
theorem OS(P:Params):c8 (aI<|oW P) (F4 P)=bg (oW P):=by kernel_rfl
theorem OT(P:Params):(aI<|oW P).all (λa=>(aI<|oX P).contains a)=true:=by kernel_rfl
noncomputable def F6(P:Params):LH:=oZ P++F5 P
theorem OU(P:Params):c8 (aI<|oY P) (F5 P)=bg (oY P):=by kernel_rfl
theorem OV(P:Params):(aI<|oY P).all (λa=>(aI<|oZ P).contains a)=true:=by kernel_rfl
noncomputable def F7(P:Params):LH:=o4 P++F6 P
theorem OW(P:Params):c8 (aI<|o3 P) (F6 P)=bg (o3 P):=by kernel_rfl
theorem OX(P:Params):(aI<|o3 P).all (λa=>(aI<|o4 P).contains a)=true:=by kernel_rfl
noncomputable def F8(P:Params):LH:=o6 P++F7 P
theorem OY(P:Params):c8 (aI<|o5 P) (F7 P)=bg (o5 P):=by kernel_rfl
theorem OZ(P:Params):(aI<|o5 P).all (λa=>(aI<|o6 P).contains a)=true:=by kernel_rfl
noncomputable def F9(P:Params):LH:=o8 P++F8 P
theorem O0(P:Params):c8 (aI<|o7 P) (F8 P)=bg (o7 P):=by kernel_rfl
theorem O1(P:Params):(aI<|o7 P).all (λa=>(aI<|o8 P).contains a)=true:=by kernel_rfl
noncomputable def t6(P:Params):LH:=pd P++F9 P
theorem O2(P:Params):c8 (aI<|o9 P) (F9 P)=bg (o9 P):=by kernel_rfl
theorem O3(P:Params):(aI<|o9 P).all (λa=>(aI<|pd P).contains a)=true:=by kernel_rfl
noncomputable def t7(P:Params):LH:=nN P++t6 P
theorem Mw(P:Params):c8 (aI<|nM P) (t6 P)=bg (nM P):=by kernel_rfl
theorem Mx(P:Params):(aI<|nM P).all (λa=>(aI<|nN P).contains a)=true:=by kernel_rfl
noncomputable def t8(P:Params):LH:=nP P++t7 P
theorem My(P:Params):c8 (aI<|nO P) (t7 P)=bg (nO P):=by kernel_rfl
theorem Mz(P:Params):(aI<|nO P).all (λa=>(aI<|nP P).contains a)=true:=by kernel_rfl
noncomputable def t9(P:Params):LH:=nR P++t8 P
theorem MD(P:Params):c8 (aI<|nQ P) (t8 P)=bg (nQ P):=by kernel_rfl
theorem ME(P:Params):(aI<|nQ P).all (λa=>(aI<|nR P).contains a)=true:=by kernel_rfl
noncomputable def uc(P:Params):LH:=nU P++t9 P
theorem MF(P:Params):c8 (aI<|nT P) (t9 P)=bg (nT P):=by kernel_rfl
theorem MG(P:Params):(aI<|nT P).all (λa=>(aI<|nU P).contains a)=true:=by kernel_rfl
noncomputable def ud(P:Params):LH:=nW P++uc P
theorem MH(P:Params):c8 (aI<|nV P) (uc P)=bg (nV P):=by kernel_rfl
theorem MI(P:Params):(aI<|nV P).all (λa=>(aI<|nW P).contains a)=true:=by kernel_rfl
noncomputable def ue(P:Params):LH:=nY P++ud P
theorem MJ(P:Params):c8 (aI<|nX P) (ud P)=bg (nX P):=by kernel_rfl
theorem ML(P:Params):(aI<|nX P).all (λa=>(aI<|nY P).contains a)=true:=by kernel_rfl
noncomputable def cG(P:Params):LH:=oc P++ue P
theorem MM(P:Params):c8 (aI<|oa P) (ue P)=bg (oa P):=by kernel_rfl
theorem MN(P:Params):(aI<|oa P).all (λa=>(aI<|oc P).contains a)=true:=by kernel_rfl
theorem MP(w:World)(a:Option Value):da w a 2 227 ⟨1181,0,1253,16⟩ (cG w.params) 1692 2978 (cG w.params) 1692:=Ed<|by kernel_rfl
theorem MQ(w:World)(a:Option Value):da w a 65 226 ⟨1170,0,1180,85⟩ (ue w.params) 1685 2938 (cG w.params) 1692:=dR (by decide) (Mt w) (MM w.params) (MN w.params)<|MP w a
theorem MR(w:World)(a:Option Value):da w a 1112 199 ⟨942,0,945,22⟩ (ud w.params) 1516 2622 (cG w.params) 1692:=dR (by decide) (Mr w) (MJ w.params) (ML w.params)<|MQ w a
theorem MS(w:World)(a:Option Value):da w a 2083 191 ⟨904,0,907,19⟩ (uc w.params) 1410 2470 (cG w.params) 1692:=dR (by decide) (Mq w) (MH w.params) (MI w.params)<|MR w a
theorem MT(w:World)(a:Option Value):da w a 3072 181 ⟨818,0,821,19⟩ (t9 w.params) 1304 2305 (cG w.params) 1692:=dR (by decide) (Mp w) (MF w.params) (MG w.params)<|MS w a
theorem MU(w:World)(a:Option Value):da w a 4046 171 ⟨709,0,718,27⟩ (t8 w.params) 1198 2146 (cG w.params) 1692:=dR (by decide) (Mo w) (MD w.params) (ME w.params)<|MT w a
theorem MV(w:World)(a:Option Value):da w a 5078 164 ⟨676,0,681,24⟩ (t7 w.params) 1097 2007 (cG w.params) 1692:=dR (by decide) (Mn w) (My w.params) (Mz w.params)<|MU w a
theorem MW(w:World)(a:Option Value):da w a 6024 146 ⟨620,0,623,32⟩ (t6 w.params) 1010 1860 (cG w.params) 1692:=dR (by decide) (Mm w) (Mw w.params) (Mx w.params)<|MV w a
theorem O4(w:World)(a:Option Value):da w a 7045 141 ⟨588,0,591,15⟩ (F9 w.params) 927 1742 (cG w.params) 1692:=dR (by decide) (OJ w) (O2 w.params) (O3 w.params)<|MW w a
theorem O5(w:World)(a:Option Value):da w a 7963 131 ⟨534,0,535,26⟩ (F8 w.params) 835 1609 (cG w.params) 1692:=dR (by decide) (OI w) (O0 w.params) (O1 w.params)<|O4 w a
theorem O6(w:World)(a:Option Value):da w a 9051 112 ⟨358,0,364,48⟩ (F7 w.params) 632 1303 (cG w.params) 1692:=dR (by decide) (OH w) (OY w.params) (OZ w.params)<|O5 w a
theorem O7(w:World)(a:Option Value):da w a 9976 108 ⟨342,0,345,30⟩ (F6 w.params) 541 1175 (cG w.params) 1692:=dR (by decide) (OG w) (OW w.params) (OX w.params)<|O6 w a
theorem O8(w:World)(a:Option Value):da w a 10943 104 ⟨309,0,321,24⟩ (F5 w.params) 443 1029 (cG w.params) 1692:=dR (by decide) (OF w) (OU w.params) (OV w.params)<|O7 w a
theorem O9(w:World)(a:Option Value):da w a 11893 100 ⟨282,0,287,22⟩ (F4 w.params) 353 882 (cG w.params) 1692:=dR (by decide) (OE w) (OS w.params) (OT w.params)<|O8 w a
theorem Pa(w:World)(a:Option Value):da w a 12926 85 ⟨234,0,234,6⟩ (F3 w.params) 269 709 (cG w.params) 1692:=dR (by decide) (OD w) (OQ w.params) (OR w.params)<|O9 w a
theorem Pb(w:World)(a:Option Value):da w a 13865 49 ⟨156,0,159,24⟩ (F2 w.params) 178 527 (cG w.params) 1692:=dR (by decide) (OC w) (OO w.params) (OP w.params)<|Pa w a
theorem Pc(w:World)(a:Option Value):da w a 14939 27 ⟨36,0,36,7⟩ (F1 w.params) 78 317 (cG w.params) 1692:=dR (by decide) (OB w) (OM w.params) (ON w.params)<|Pb w a
theorem Pd(w:World)(a:Option Value):da w a 16036 0 ⟨0,0,0,0⟩ (F0 w.params) 15 187 (cG w.params) 1692:=dR (by decide) (OA w) (OK w.params) (OL w.params)<|Pc w a
noncomputable def KF(P:Params):Frag:=[(0,bx P),(3,nZ P),(2,cn P),(4,bu),(1,oO P),(5,sW),(12,xU),(13,bw),(416,nq P),(479,iK P),(514,nr P),(535,iL P),(556,nt P),(1133,mY P),(1686,qS),(1690,mZ),(1691,lC)]++(BC P++(BD P++(BE P++(BF P++(BG P++(BH P++(BI P++(BJ P++(BL P++(BN P++(Ao P++(Ap P++(Aq P++(As P++(Au P++(Av P++Aw))))))))))))))))
noncomputable def uf:List Addr:=[0,3,2,4,1,5,12,13,416,479,514,535,556,1133,1686,1690,1691,20,21,34,35,37,38,50,51,62,63,74,75,78,79,92,93,99,100,106,107,109,110,120,121,127,128,134,135,141,142,148,149,155,156,162,163,169,170,176,177,183,184,190,191,197,198,204,205,218,219,221,222,239,240,246,247,253,254,260,261,263,264,281,282,284,285,302,303,305,306,323,324,326,327,332,345,346,348,349,365,366,368,369,385,386,388,389,406,407,413,414,434,435,437,438,455,456,458,459,476,477,497,498,504,505,511,512,532,533,553,554,574,575,577,578,595,596,598,599,616,617,623,624,626,627,644,645,651,652,658,659,665,666,672,673,679,680,686,687,693,694,700,701,703,704,714,715,721,722,728,729,735,736,742,743,749,750,756,757,763,764,770,771,777,778,784,785,791,792,798,799,805,806,812,813,819,820,826,827,833,834,840,841,847,848,854,855,868,869,871,872,887,888,890,891,906,907,909,910,918,919,925,926,939,940,942,943,951,952,965,966,968,969,984,985,987,988,1003,1004,1006,1007,536,1022,1023,1025,1026,1034,1035,1041,1042,1048,1049,1055,1056,1069,1070,1072,1073,1088,1089,1091,1092,1109,1110,1112,1113,1130,1131,1144,1145,1151,1152,1165,1166,1168,1169,1177,1178,1191,1192,1194,1195,1134,1210,1211,1213,1214,1229,1230,1232,1233,1248,1249,1251,1252,1260,1261,1267,1268,1274,1275,1281,1282,1288,1289,1295,1296,1302,1303,417,557,1316,1317,1323,1324,1326,1327,1335,1336,1342,1343,1349,1350,1356,1357,1363,1364,1370,1371,1384,1385,1387,1388,1403,1404,1406,1407,515,1422,1423,1425,1426,1434,1435,1441,1442,1448,1449,1462,1463,1465,1466,1481,1482,1488,1489,1495,1496,1498,1499,1507,1508,1514,1515,480,1528,1529,1531,1532,1535,1536,1542,1543,1549,1550,1556,1557,1561,1562,1568,1569,1575,1576,1582,1583,1589,1590,1596,1597,1603,1604,1610,1611,1617,1618,1624,1625,1631,1632,1638,1639,1645,1646,1652,1653,1659,1660,1664,1665,1671,1672,1678,1679,1683,1684]
theorem xV(P:Params):uf=(KF P).map λa=>a.1:=by kernel_rfl
theorem Ft(P:Params):(KF P).map (λp=>cm (cG P) p.1)=(KF P).map λp=>some p.2:=by kernel_rfl
noncomputable def lU(P:Params):Heap:=((((boot_heap P).push ⟨.type "tuple",none,.seq #[] 0,#[]⟩).push ⟨.none,none,.fields #[],#[]⟩).push bw).push ⟨.type "frame",none,.plain,#[some<|.ref 13,some<|.ref 3,some<|.ref 3,none,some<|.str ⟨#[95,95,109,97,105,110,95,95]⟩ 164,none,some<|.ref 0]⟩
theorem Hx(w:World)(os:OsState):topGo table pW w 11 (some<|.ref 6) 12 ⟨boot_heap w.params,#[],boot_drawn,boot_toks,os⟩ (topStub pW)=some (⟨lU w.params,#[],boot_drawn,187,os⟩,⟨denote table cE,cE,q0,[topFrame q0]⟩):=by kernel_rfl
theorem Ee(w:World)(s:Shared):segRun table pW w 11 (some<|.ref 6) 1 1 s (blockOf (behindTheImports pW) cD cE q0 [topFrame q0])=some (.next,s,cE,q0):=by obtain⟨h,g,d,t,o⟩:=s;kernel_rfl
theorem wM{h:Heap}:∀{L:LH},(aI L).map h.get?=bg L->∀p∈L,h.get? p.1=some p.2
  |[],_,p,hp=>by cases hp|q::r,e,p,hp=>by
    obtain⟨d,c⟩:=List.cons.inj (e:h.get? q.1::(aI r).map h.get?=some q.2::bg r);rcases P7 hp with rfl|hp;·exact d
    ·exact wM c p hp
theorem Dz(P:Params):(aI<|F0 P).map (lU P).get?=bg (F0 P):=by kernel_rfl
theorem MX(P:Params):ee (F0 P) 15<|lU P:=⟨by kernel_rfl,λa o e=>wM (Dz P) (a,o)<|mM e⟩
theorem Ef(w:World)(os:OsState):∃r,topRun table pW w 11 (some<|.ref 6) 16049 ⟨boot_heap w.params,#[],boot_drawn,boot_toks,os⟩ (topStub pW)=some r/\ee (cG w.params) 1692 r.heap/\r.gens=#[]/\r.drawn=boot_drawn/\r.os=os/\r.heap.life=(lU w.params).life:=by obtain⟨r,h,c,f,e,d,b⟩:=Pd w (some<|.ref 6) ⟨lU w.params,#[],boot_drawn,187,os⟩ (MX w.params) rfl;exact⟨r,go_top (Hx w os)<|piece_block (Ee w _) h,c,f,e,d,b⟩
theorem C5(P:Params):((boot_heap P).isNs mainGlobals,(boot_heap P).objs.size,(boot_heap P).nsMap mainGlobals "__annotations__")=(true,11,some<|.ref 6):=by kernel_rfl
end
section
open PyProof.Rows PySem PySem.Calls PySem.W
noncomputable def qW:Program:={pW with main:={pW.main with body:=[lT 226]}}
noncomputable def cJ:List Str:=pW.boundNames
noncomputable def gJ:RowW:=PySem.Challenge.rw_sj0018_01.row.toRowW
noncomputable def kQ(s:Shared):Bool:=xlAt qW [] s&&recOk (RowW.records gJ) s
noncomputable def dP:Params:=⟨λξ=>0,λξ=>0,id,λξ=>0,λξ ξ=>0,λξ=>false,λξ=>0,.refcount,.text,λξ=>0,λξ=>none,λξ=>false,λξ ξ ξ=>true,λξ y a=>a>=y,true,λξ=>false,λξ=>none,λξ=>none,λξ ξ ξ=>0,λξ ξ=>none,λξ=>none,λξ=>(0,false,"UTC"),λξ=>none,λd=>d,λξ=>false⟩
noncomputable def si:List Str:=(xx dP .none++Aa dP).filterMap λe=>match e.key with|.str n _=>some n|_=>none
structure a9(P:Params)(h:Heap):Prop where get:∀p∈KF P,h.get? p.1=some p.2
section
variable{P:Params}{h:Heap}
theorem Eh(R:ee (cG P) 1692 h):a9 P h:=⟨λp hp=>R.at_ _ _<|by
 have e:=Ft P;have:∀{L:Frag},L.map (λp=>cm (cG P) p.1)=L.map (λp=>some p.2)->∀p∈L,cm (cG P) p.1=some p.2:=by intro L;induction L with|nil=>intro _ p hp;cases hp|cons q r c=>
   intro e p hp;obtain⟨d,b⟩:=List.cons.inj e;rcases P7 hp with rfl|hp;·exact d
   ·exact c b p hp
 exact this e p hp⟩
theorem a9.at(B:a9 P h)(i:Nat){a:Nat}(e:(KF P)[i]?=some (a,o)):h.get? a=some o:=B.get _<|List.mem_of_getElem? e
theorem a9.h0(B:a9 P h):h.get? 0=some (bx P):=B.at 0 rfl
theorem a9.h3(B:a9 P h):h.get? 3=some (nZ P):=B.at 1 rfl
theorem a9.h2(B:a9 P h):h.get? 2=some (cn P):=B.at 2 rfl
theorem a9.h4(B:a9 P h):h.get? 4=some bu:=B.at 3 rfl
theorem a9.h1(B:a9 P h):h.get? 1=some (oO P):=B.at 4 rfl
theorem a9.hF(B:a9 P h):h.get? 1691=some lC:=B.at 16 rfl
theorem a9.hC(B:a9 P h):h.get? 1690=some mZ:=B.at 15 rfl
theorem a9.hT(B:a9 P h):h.get? 1686=some qS:=B.at 14 rfl
noncomputable def hZ(P:Params):Heap:=⟨#[bx P,oO P,cn P,nZ P,bu,sW],{}⟩
theorem eY{h b:Heap}(e:h.get? a=b.get? a):h.nsMap a=b.nsMap a:=by funext x;unfold Heap.nsMap;rw[e]
theorem gU{h b:Heap}(e:h.get? a=b.get? a):h.isNs a=b.isNs a:=by unfold Heap.isNs;rw[e]
theorem mK{h b:Heap}(e:h.get? a=b.get? a):h.nsKeys a=b.nsKeys a:=by unfold Heap.nsKeys;rw[e]
theorem CH{h b:Heap}(e:h.get? a=b.get? a):h.nsPairs a=b.nsPairs a:=by unfold Heap.nsPairs;rw[e]
theorem a9.z0(B:a9 P h):h.get? 0=(hZ P).get? 0:=B.h0.trans<|by kernel_rfl
theorem a9.z1(B:a9 P h):h.get? 1=(hZ P).get? 1:=B.h1.trans<|by kernel_rfl
theorem a9.z2(B:a9 P h):h.get? 2=(hZ P).get? 2:=B.h2.trans<|by kernel_rfl
theorem a9.z3(B:a9 P h):h.get? 3=(hZ P).get? 3:=B.h3.trans<|by kernel_rfl
theorem DB:(si.all λk=>startupNames.contains k||pW.boundNames.contains k)=true:=by kernel_rfl
theorem zq(P:Params):(hZ P).nsKeys mainGlobals=si:=by kernel_rfl
theorem lI(P:Params):(hZ P).isNs mainGlobals=true:=by kernel_rfl
theorem Hz(P:Params):(hZ P).isNs builtinsNs=true:=by kernel_rfl
theorem C6(B:a9 P h)(b:List Str):staticsOk b (boot_heap P) h=true:=by unfold staticsOk;rw[gU (h:=h) (a:=cStatics) B.z2,mK (h:=h) (a:=cStatics) B.z2,eY (h:=h) (a:=cStatics) B.z2];kernel_rfl
theorem CS(B:a9 P h):namesBound pW h=true:=by unfold namesBound;rw[gU (h:=h) (a:=mainGlobals) B.z3,mK (h:=h) (a:=mainGlobals) B.z3,lI,zq,DB];rfl
theorem DC(B:a9 P h):laidKept (boot_heap P) h=true:=by unfold laidKept;rw[gU (h:=h) (a:=mainGlobals) B.z3,eY (h:=h) (a:=mainGlobals) B.z3];kernel_rfl
theorem C8(B:a9 P h)(b:List Str):h.accountedOkI b=true:=by unfold Heap.accountedOkI;rw[gU (h:=h) (a:=cStatics) B.z2,mK (h:=h) (a:=cStatics) B.z2,eY (h:=h) (a:=cStatics) B.z2];kernel_rfl
theorem Ei(B:a9 P h):h.bltView=bltViewBooted:=by unfold Heap.bltView;rw[CH (h:=h) (a:=builtinsNs) B.z0];kernel_rfl
theorem DD:(si.all λk=>startupNames.contains k||(looseW qW cJ).contains k||((recsOf qW).map λa=>a.name).contains k||((litsOf qW).map λa=>a.1).contains k||((clssOf qW<|looseW qW cJ).map λa=>a.name).contains k)=true:=by kernel_rfl
theorem Fu(B:a9 P h):h.keysOk (looseW qW cJ) ((recsOf qW).map λb=>b.name) ((litsOf qW).map λb=>b.1) ((clssOf qW<|looseW qW cJ).map λb=>b.name)=true:=by unfold Heap.keysOk;rw[mK (h:=h) (a:=mainGlobals) B.z3,zq];exact DD
end
noncomputable def fK:Str:=⟨#[108,97,119]⟩
section
variable{P:Params}{h:Heap}
theorem Ej(e1:h.nsMap j n=some (.ref a))(f:h.get? a=some o)(k:o.data=.func d)(g:d.code=.ref c)(l:h.get? c=some i):h.shapeAt j n=some ⟨d.name,d.qualname,d.params,d.body,d.scope,d.globals,d.closure,d.defaults,d.kwdefaults,d.annotations,d.closureTuple,d.builtins,match i.data with
   |.fields vs=>match vs[1]?with|some<|Value.str n _=>n==d.qualname|_=>false 
   |_=>false⟩:=by delta Heap.shapeAt Heap.fnAt;refine Rr e1 ?_;dsimp only;refine Rr f ?_;dsimp only;refine Rr k ?_;dsimp only[Option.map_some];delta Heap.codeRecOk;refine Rr g ?_;dsimp only;refine Rr l ?_;rfl
theorem Fv(e1:h.nsMap e n=some (.ref a))(c:h.get? a=some o)(d:o.data=.func f):h.fnAt e n=some (a,o,f):=by delta Heap.fnAt;refine Rr e1 ?_;dsimp only;refine Rr c ?_;dsimp only;exact Rr d rfl
noncomputable def zr(P:Params):FuncData:=match(lC).data with|.func fd=>fd|_=>default
theorem MY(P:Params):(hZ P).nsMap mainGlobals fK=some (.ref 1691):=by kernel_rfl
theorem vO(P:Params):(lC).data=.func (zr P):=by kernel_rfl
theorem vP(P:Params):(zr P).code=.ref 1690:=by kernel_rfl
theorem wN:(recsOf qW).map (λa=>a.name)=[fK]:=by kernel_rfl
theorem Ek(f:Str->Bool):((recsOf qW).all λd=>f d.name)=f fK:=by
 haveI:((recsOf qW).all λd=>f d.name)=((recsOf qW).map λa=>a.name).all f:=by rfl
 refine Rr this<|Rr wN ?_;simp
theorem m4(B:a9 P h):h.nsMap mainGlobals fK=some (.ref 1691):=by refine Rr (eY (a:=mainGlobals) B.z3) ?_;exact MY P
theorem HA(B:a9 P h):[h.shapeAt mainGlobals fK]=(recsOf qW).map λd=>some d.shape:=by refine Rr (Ej (m4 B) B.hF (vO P) (vP P) B.hC) ?_;kernel_rfl
theorem Fw:ownsOf qW=[]:=by kernel_rfl
theorem HC(B:a9 P h):(h.noLimitOk&&h.noDigitsOk)=true:=by delta Heap.noLimitOk Heap.noDigitsOk;refine Rr (gU (a:=cStatics) B.z2)<|Rr (eY (a:=cStatics) B.z2) ?_;kernel_rfl
theorem xW(B:a9 P h):h.isNs mainGlobals=true:=by refine Rr (gU (a:=mainGlobals) B.z3) ?_;exact lI P
theorem xX(B:a9 P h):h.isNs builtinsNs=true:=by refine Rr (gU (a:=builtinsNs) B.z0) ?_;exact Hz P
theorem JX(B:a9 P h)(d:Drawn)(k:Nat)(os:OsState):seen ((recsOf qW).map λa=>a.name) (ownsOf qW) [] ⟨h,#[],d,k,os⟩=expectedOf qW:=by delta seen expectedOf;refine Rr wN<|Rr Fw ?_;refine Rr (show[fK].map (h.shapeAt mainGlobals)=[h.shapeAt mainGlobals fK]from rfl)<|Rr List.all_nil<|Rr List.map_nil ?_;refine Rr (HA B)<|Rr (HC B)<|Rr (xW B)<|Rr (xX B) ?_;rfl
theorem DE(e:h.get? 1690=some mZ):h.tab0At 1690=match h.get? 1686 with|some ⟨.none,none,.fields c,d⟩=>if c.size==0&&d.size==0&&1690!=1686 then some 1686 else none|_=>none:=by delta Heap.tab0At;refine Rr e ?_;kernel_rfl
theorem JY(B:a9 P h):h.tab0Ok fK=true:=by delta Heap.tab0Ok;refine Rr (Fv (m4 B) B.hF<|vO P) ?_;dsimp only;refine Rr (vP P) ?_;dsimp only;refine Rr (DE B.hC)<|Rr B.hT ?_;kernel_rfl
theorem HD(B:a9 P h):h.bmainOk=true:=by delta Heap.bmainOk;refine Rr (eY (a:=mainGlobals) B.z3)<|Rr (show(hZ P).nsMap mainGlobals "__builtins__"=some (.ref 4)from by kernel_rfl) ?_;dsimp only;refine Rr B.h4 ?_;kernel_rfl
theorem JZ(B:a9 P h):h.noSeerOk=true:=by delta Heap.noSeerOk;refine Rr (gU (a:=cStatics) B.z2)<|Rr (eY (a:=cStatics) B.z2)<|Rr (gU (a:=sysModules) B.z1)<|Rr (eY (a:=sysModules) B.z1) ?_;kernel_rfl
theorem CT:valNames qW=[]:=by kernel_rfl
theorem J0(B:a9 P h)(d:Drawn)(k:Nat)(os:OsState):tabsOk qW ⟨h,#[],d,k,os⟩=true:=by
 delta tabsOk;haveI:((recsOf qW).all λd=>h.tab0Ok d.name)=true:=by rw[Ek λn=>h.tab0Ok n];exact JY B
 refine Rr this<|Rr (HD B)<|Rr (JZ B) ?_;delta valsOk;refine Rr CT ?_;kernel_rfl
theorem Fy:tablesOk qW h=true:=by delta tablesOk;rfl
theorem PY:drecsOf qW=[]:=by kernel_rfl
theorem MZ(s:Shared):pinSeenD qW (drecsOf qW) s=pinGoodD (drecsOf qW):=by rfl
theorem PX:plainsOf qW (looseW qW cJ)=[]:=by kernel_rfl
theorem Fz(s:Shared):plainSeenE qW (looseW qW cJ) s=plainGoodE qW (looseW qW cJ):=by delta plainSeenE plainGoodE;rfl
theorem PZ:dclssOf qW cJ=[]:=by kernel_rfl
theorem FA(s:Shared):plainSeenD qW cJ s=plainGoodD qW cJ:=by delta plainSeenD plainGoodD;rfl
theorem El:wdefsOf qW=[]:=by kernel_rfl
theorem Em:wlitsOf qW=[]:=by kernel_rfl
theorem J1(s:Shared):wideSeen qW s=wideGood qW:=by delta wideSeen wideGood;rw[El,Em];rfl
theorem P1:wclssOf qW cJ=[]:=by kernel_rfl
theorem J2(s:Shared):clsSeenW qW cJ s=clsGoodW qW cJ:=by delta clsSeenW clsGoodW;rfl
theorem PU:Flt.mathMods qW=[]:=by kernel_rfl
theorem PT:Flt.mathDrawn qW=[]:=by kernel_rfl
theorem P2:Flt.patsOf qW=[]:=by kernel_rfl
theorem PW:RowW.records gJ=[]:=by kernel_rfl
theorem M0(s:Shared):kQ s=true:=by delta kQ xlAt Flt.mathXt;rfl
theorem J3(B:a9 P h)(a:List Str)(d:Drawn)(k:Nat)(os:OsState):openSeen qW cJ a kQ true ⟨h,#[],d,k,os⟩=openGood qW cJ:=by delta openSeen openGood;haveI e1:=JX B d k os;rw[e1,Ei B,Fu B,C8 B,xW B,xX B,Fy,M0,J0 B,MZ,Fz,FA,J1,J2];rfl
noncomputable def H_:Hook:=kHook (λP=>KF P) uf xV
theorem J4(B:a9 w.params h)(d:Drawn)(k:Nat)(os:OsState):H_.obs ⟨h,#[],d,k,os⟩=H_.val w:=by show uf.map h.get?=(KF w.params).map λp=>some p.2;rw[xV w.params,List.map_map];refine List.map_congr_left λp hp=>?_;exact B.get p hp
theorem Eo:opening pW=plainProg pW.main.scope.names:=by kernel_rfl
theorem HE(s:Shared):fenceModules? pW s=some s:=by kernel_rfl
theorem J5:LeftO pW qW cJ kQ H_.obs H_.val 16049:=λw=>by
 obtain⟨s,n,e⟩:=P6<|boot_open (N:=16049) Eo (by decide) HE w;obtain⟨h,j,d,k,os⟩:=s;obtain⟨rfl,rfl,rfl,rfl⟩:h=boot_heap w.params/\j=#[]/\d=boot_drawn/\k=boot_toks:=by simpa using e
 delta openEnds;rw[n];obtain⟨⟨g,l,d',c,a⟩,e1,R,rfl,rfl,_,_⟩:=Ef w os;rw[table_eq_tree]at e1;haveI B:=Eh R;haveI z:=C5 w.params;simp only[Prod.mk.injEq]at z;haveI m:=z.1;haveI q:=z.2.1;haveI p:=z.2.2;haveI o:topFrom treeTable pW w 16049 ⟨boot_heap w.params,#[],boot_drawn,boot_toks,os⟩=some ⟨g,#[],boot_drawn,c,a⟩:=by delta topFrom;rw[m,q,p];rw[e1];show(match _&&gensDone ⟨g,#[],boot_drawn,c,a⟩&&_ with|true=>_|false=>_)=_;rw[C6 B,CS B,DC B];rfl
 rw[Option.bind_some,o,Option.map_some,J3 B,J4 B]
end
noncomputable def cy:OpenRow:=PySem.Challenge.rw_sj0018_01.row
noncomputable def lawD:DefRec:=match lT 226 with|.FunctionDef name args body _ _ _ scope _ _ pos=>⟨name,args,body,scope,pos⟩|_=>⟨default,default,[],default,default⟩
theorem HF:defOf qW cy.name=some (lawD,[]):=by kernel_rfl
theorem HG:cy.toRowW.prog.theDef cy.name=some (lawD.params,lawD.body,lawD.scope):=by kernel_rfl
theorem J6:kwWritten? lawD.params.kwonlyargs lawD.params.kw_defaults=some []:=by kernel_rfl
theorem J7:(chainsOk qW&&opensWell cy.toRowW.prog&&(frees cy.toRowW&&cy.within.isEmpty))=true:=by kernel_rfl
theorem J8:(!cy.writes||cy.records.isEmpty)=true:=by kernel_rfl
noncomputable def bQ:Module:=cy.toRowW.prog.main
noncomputable def BO:List Str:=TablesWhole.wSs TablesWhole.gather bQ.scope ⟨bQ.scope,[],[],[],none⟩ bQ.scope bQ.body
theorem M1:BO=[]:=by kernel_rfl
noncomputable def BP:TablesWhole.Ctx:=⟨bQ.scope,[],[],[],none⟩
noncomputable def dr(l:List Stmt):Bool:=TablesWhole.wSs TablesWhole.holds bQ.scope BP bQ.scope l
theorem FC:∀a b:List Stmt,dr (a++b)=(dr a&&dr b):=by intro a b;induction a with|nil=>rfl|cons x a ih=>exact(congrArg (λt=>TablesWhole.wS TablesWhole.holds bQ.scope BP bQ.scope x&&t) ih).trans (Bool.and_assoc ..).symm
theorem FD(n:Nat)(l:List Stmt)(h:dr (l.take n)=true)(k:dr (l.drop n)=true):dr l=true:=by have e:=FC (l.take n)<|l.drop n;rw[List.take_append_drop,h,k]at e;exact e
theorem M3:dr ((bQ.body.drop 0).take 25)=true:=by kernel_rfl
theorem M4:dr ((bQ.body.drop 25).take 25)=true:=by kernel_rfl
theorem M5:dr ((bQ.body.drop 50).take 25)=true:=by kernel_rfl
theorem M6:dr ((bQ.body.drop 75).take 25)=true:=by kernel_rfl
theorem M7:dr ((bQ.body.drop 100).take 25)=true:=by kernel_rfl
theorem M8:dr ((bQ.body.drop 125).take 25)=true:=by kernel_rfl
theorem M9:dr ((bQ.body.drop 150).take 25)=true:=by kernel_rfl
theorem Na:dr ((bQ.body.drop 175).take 25)=true:=by kernel_rfl
theorem Nb:dr ((bQ.body.drop 200).take 25)=true:=by kernel_rfl
theorem Nc:dr ((bQ.body.drop 225).take 25)=true:=by kernel_rfl
theorem gO(i:Nat)(h:dr ((bQ.body.drop i).take 25)=true)(k:dr (bQ.body.drop<|i+25)=true):dr (bQ.body.drop i)=true:=FD 25 _ h<|by rw[List.drop_drop];exact k
theorem J9:dr bQ.body=true:=gO 0 M3<|gO 25 M4<|gO 50 M5<|gO 75 M6<|gO 100 M7<|gO 125 M8<|gO 150 M9<|gO 175 Na<|gO 200 Nb<|gO 225 Nc<|by kernel_rfl
theorem Pe:TablesWhole.wSs TablesWhole.holds bQ.scope ⟨bQ.scope,[],BO,[],none⟩ bQ.scope bQ.body=true:=by rw[M1];exact J9
theorem Pf:cy.toRowW.prog.tablesWhole=true:=(congrArg (λx=>TablesWhole.holds.all [TablesWhole.holds.all [TablesWhole.holds.enter bQ.scope,TablesWhole.holds.check "no name twice in a table, but a class's lawful pair" bQ.scope ("(the table)":Str)<|TablesWhole.noTwice bQ.scope,x],TablesWhole.holds.all<|cy.toRowW.prog.modules.map λ(_,_,m)=>TablesWhole.wModule TablesWhole.holds m,TablesWhole.holds.all<|cy.toRowW.prog.parses.map<|TablesWhole.wParse TablesWhole.holds,TablesWhole.holds.all<|cy.toRowW.prog.harvested.map<|TablesWhole.wParse TablesWhole.holds]) Pe).trans<|by kernel_rfl
theorem FE:cy.toRowW.prog.bare:=⟨by kernel_rfl,by kernel_rfl,by kernel_rfl,by kernel_rfl,by kernel_rfl,Pf⟩
theorem Ep:RowW.promised PySem.Challenge.rw_sj0018_01.row.toRowW:=by w_witness2
theorem FG:cy.toRowW.promised:=Ep
theorem FH:cy.toRowW.prog=pW:=by kernel_rfl
theorem HH:cy.records=RowW.records gJ:=by kernel_rfl
theorem Ka:LeftO cy.toRowW.prog qW cJ kQ H_.obs H_.val 16049:=FH▸J5
theorem head_(a:cy.wellSaid=true)(d:WalkO qW cJ (XL qW []) H_.says cy.toRowW lawD [] λf vs=>PySem.call f vs):cy.Holds:=holds_open (r:=cy) (q:=qW) (loose:=cJ) (Xt:=kQ) (XP:=XL qW []) (Yf:=H_.obs) (Ya:=H_.val) (YP:=H_.says) (N:=16049) Ka (Hook.of H_) (Hook.keeps H_) (λs e=>xl_of s (MK e).1) XL.keeps HF HG J6 (λs e=>recFacts_of<|by rw[show cy.toRowW.records=RowW.records gJ from HH];exact(MK e).2) J8 a J7 FE FG d
section
variable{G:cB}{P:Params}{K:Frag}{h:Heap}
theorem Kd(P:Params):(KF P).map (λp=>(KF P).lookup p.1)=(KF P).map λp=>some p.2:=by kernel_rfl
theorem rE{a b:Type}{f g:a->b}{l:List a}(e:l.map f=l.map g):∀x∈l,f x=g x:=List.map_inj_left.mp e
theorem vQ(I:(KF P).In h):a9 P h:=⟨λp hp=>I _ _<|rE (Kd P) p hp⟩
theorem jg{l:List<|Nat×c}(e:d0 l x=some v):(x,v)∈l:=by induction l with|nil=>injection e|cons p r b=>
  haveI e:(if p.1=x then some p.2 else d0 r x)=some v:=e;by_cases q:p.1=x;·rw[if_pos q]at e;haveI e:=sI e;clear b;subst e;subst q;exact .head _
  ·rw[if_neg q]at e;exact .tail _<|b e
theorem qT{l:List<|Str×c}(e:kN l x=some v):(x,v)∈l:=by induction l with|nil=>injection e|cons p r b=>
  haveI e:(if p.1=x then some p.2 else kN r x)=some v:=e;by_cases q:p.1=x;·rw[if_pos q]at e;haveI e:=sI e;clear b;subst e;subst q;exact .head _
  ·rw[if_neg q]at e;exact .tail _<|b e
theorem di{b:Type}{p:b->Bool}{l:List b}(e:l.all p=true){x:b}(h:x∈l):p x=true:=List.all_eq_true.mp e x h
theorem aN(e:(a&&b)=true):a=true/\b=true:=MK e
noncomputable def ug(v:Value):Option String:=if h:v.ctorIdx=8 then Value.type.elim v h some else none
noncomputable def uh(v:Value):Option String:=if h:v.ctorIdx=9 then Value.builtin.elim v h some else none
noncomputable def kS(v:Value):Option Addr:=if h:v.ctorIdx=10 then Value.ref.elim v h some else none
noncomputable def ui(v:Value):Option Str:=if h:v.ctorIdx=6 then Value.str.elim v h λs ξ=>some s else none
noncomputable def uj(v:Value):Option Int:=if h:v.ctorIdx=4 then Value.int.elim v h λs ξ=>some s else none
noncomputable def BQ(v:Data):Option<|List Value:=if h:v.ctorIdx=2 then Data.seq.elim v h λs ξ=>some s.toList else none
noncomputable def BR(v:Data):Option<|List DictEntry:=if h:v.ctorIdx=3 then Data.dict.elim v h λs ξ=>some s.toList else none
noncomputable def BU(v:Data):Option<|List Value:=if h:v.ctorIdx=9 then Data.fields.elim v h λs=>some s.toList else none
noncomputable def BV(v:Data):Option FuncData:=if h:v.ctorIdx=7 then Data.func.elim v h some else none
noncomputable def BW(v:FuncBody):Option<|List Stmt:=if h:v.ctorIdx=0 then FuncBody.stmts.elim v h some else none
theorem xY(e:ug v=some n):v=.type n:=(gk e).elim λh k=>Value.type.elim v h (λb h k=>congrArg _<|sI k) h k
theorem xZ(e:uh v=some n):v=.builtin n:=(gk e).elim λh k=>Value.builtin.elim v h (λb h k=>congrArg _<|sI k) h k
theorem lJ(e:kS v=some n):v=.ref n:=(gk e).elim λh k=>Value.ref.elim v h (λb h k=>congrArg _<|sI k) h k
theorem x4(e:ui v=some n):∃t,v=.str n t:=(gk e).elim λh k=>Value.str.elim v h (λb t h k=>⟨t,congrArg (Value.str · t)<|sI k⟩) h k
theorem x5(e:uj v=some n):∃t,v=.int n t:=(gk e).elim λh k=>Value.int.elim v h (λb t h k=>⟨t,congrArg (Value.int · t)<|sI k⟩) h k
theorem HI(e:BQ v=some l):∃a n,v=.seq a n/\a.toList=l:=(gk e).elim λh k=>Data.seq.elim v h (λb t h k=>⟨b,t,rfl,sI k⟩) h k
theorem HJ(e:BR v=some l):∃a n,v=.dict a n/\a.toList=l:=(gk e).elim λh k=>Data.dict.elim v h (λb t h k=>⟨b,t,rfl,sI k⟩) h k
theorem HK(e:BU v=some l):∃a,v=.fields a/\a.toList=l:=(gk e).elim λh k=>Data.fields.elim v h (λb h k=>⟨b,rfl,sI k⟩) h k
theorem HL(e:BV v=some n):v=.func n:=(gk e).elim λh k=>Data.func.elim v h (λb h k=>congrArg _<|sI k) h k
theorem HM(e:BW v=some n):v=.stmts n:=(gk e).elim λh k=>FuncBody.stmts.elim v h (λb h k=>congrArg _<|sI k) h k
noncomputable def l9(r:Option Value)(n:String):Bool:=(r.bind ug).any λm=>m==n
noncomputable def og(r:Option<|Option Value)(f:Nat):Bool:=((r.bind id).bind kS).any λa=>Nat.beq a f
noncomputable def kj(r:Option<|Option Value)(f:String):Bool:=((r.bind id).bind uh).any λa=>a==f
noncomputable def sX(r:Option Bool):Bool:=r.any id
noncomputable def ma{α:Type}(r:Option<|Option α):Bool:=r.any Option.isNone
theorem bind_id{b:Type}{r:Option<|Option b}{v:b}(e:r.bind id=some v):r=some (some v):=(jr e).elim λx h=>h.1.trans<|congrArg some h.2
theorem m5(e:l9 r n=true):r=some (.type n):=by refine(bY e).elim λm ζ0=>ζ0.elim λi g=>?_;obtain⟨v,f,d⟩:=jr i;exact Rr f<|Rr (xY d)<|Rr (eq_of_beq g) rfl
theorem qA(e:og r f=true):r=some (some<|.ref f):=by refine(bY e).elim λm ζ0=>ζ0.elim λi d=>?_;obtain⟨v,c,g⟩:=jr i;exact Rr (bind_id c)<|Rr (lJ g)<|Rr (Qm d) rfl
theorem lz(e:kj r f=true):r=some (some<|.builtin f):=by refine(bY e).elim λm ζ0=>ζ0.elim λj i=>?_;obtain⟨v,g,d⟩:=jr j;exact Rr (bind_id g)<|Rr (xZ d)<|Rr (eq_of_beq i) rfl
theorem wO(e:sX r=true):r=some true:=(bY e).elim λb h=>h.1.trans<|congrArg some h.2
theorem m6(e:ma r=true):r=some none:=(bY e).elim λb h=>h.1.trans<|congrArg some<|Option.isNone_iff_eq_none.mp h.2
noncomputable def mc(K:Frag)(a:Nat):Bool:=keepIn K (.ref a)&&l9 (typeIn K<|.ref a) "function"
theorem m7(e:mc K a=true):keepIn K (.ref a)=true/\typeIn K (.ref a)=some (.type "function"):=(aN e).imp id m5
theorem HN(P:Params):mz.all (λp=>mc (KF P) p.1)=true:=by kernel_rfl
theorem Er(P:Params):yV.all (λp=>keepIn (KF P) (.ref p.1)&&makesIn (KF P) p.1&&og (findIn (KF P) (.ref p.1) "__init__") p.2.1&&mc (KF P) p.2.1)=true:=by kernel_rfl
theorem Et(P:Params):yU.all (λp=>p.2.all λx=>!TP.exc p.1&&plainGet (KF P) p.1 x.1&&og (findIn (KF P) (.ref p.1) x.1) x.2&&mc (KF P) x.2)=true:=by kernel_rfl
theorem FI(P:Params):(389::iu.map λd=>d.1).all (λc=>keepIn (KF P)<|.ref c)=true:=by kernel_rfl
noncomputable def Nf(K:Frag)(C:Nat):Bool:=kj (findIn K (.ref C) "__getattribute__") "BaseException.__getattribute__"&&ma (findIn K (.ref C) "__getattr__")&&sX (mroIn K C<|.type "BaseException")
noncomputable def rF(K:Frag)(C:Nat)(x:Str):Bool:=(plainGet K C x||Nf K C)&&hasDictIn K C&&(findIn K (.ref C) x).any λa=>noGet K a
noncomputable def jt(K:Frag)(C:Nat)(x:Str):Bool:=TP.exc C||plainOver K C&&ma (takerIn K C x)&&(clsIn K C).any (λξ=>ξ.hasDict)&&kj (findIn K (.ref C) "__setattr__") "object.__setattr__"
theorem Eu(P:Params):nG.all (λp=>p.2.all λx=>rF (KF P) p.1 x&&jt (KF P) p.1 x)=true:=by kernel_rfl
noncomputable def pe:List Nat:=[75,349]
theorem oh(e:TP.exc C=true):C∈pe:=(Bool.or_eq_true_iff.mp e).elim (λq=>Rr (Qm q)<|.head _) λq=>Rr (Qm q)<|.tail _<|.head _
theorem FJ(P:Params):pe.all (λc=>pe.all λd=>(mroIn (KF P) c<|.ref d).any λb=>b==TP.sub c d)=true:=by kernel_rfl
theorem FK(P:Params):pe.all (λc=>sX (mroIn (KF P) c<|.type "BaseException")&&l9 (typeIn (KF P)<|.ref c) "type"&&(clsIn (KF P) c).isSome)=true:=by kernel_rfl
theorem wQ(h:TP.attr C x=true):rF (KF P) C x=true/\jt (KF P) C x=true:=by haveI h:((d0 nG C).getD []).any (λy=>sF y x)=true:=h;cases e:d0 nG C with|none=>rw[e]at h;injection h|some l=>rw[e]at h;obtain⟨y,c,q⟩:=List.any_eq_true.mp h;refine Rl (cI.mp q) ?_;exact aN<|di (di (Eu P)<|jg e) c
theorem HO(e:rF K C x=true):(plainGet K C x=true\/ri K C)/\hasDictIn K C=true/\∃a,findIn K (.ref C) x=some a/\noGet K a=true:=by
 refine(aN e).elim λe g=>?_;haveI d:=(aN e).1;haveI f:=(aN e).2;refine⟨(Bool.or_eq_true_iff.mp d).imp id λq=>?_,f,?_⟩;·refine(aN q).elim λq i=>?_;exact⟨lz (aN q).1,m6 (aN q).2,wO i⟩
 ·exact bY g
theorem x6(e:jt K C x=true)(j:TP.exc C=false):plainOver K C=true/\takerIn K C x=some none/\(clsIn K C).any (λg=>g.hasDict)=true/\findIn K (.ref C) "__setattr__"=some (some<|.builtin "object.__setattr__"):=by delta jt at e;rw[j]at e;refine(aN e).elim λe f=>?_;refine(aN e).elim λe i=>?_;exact⟨(aN e).1,m6 (aN e).2,i,lz f⟩
theorem C9{a:List Str}:∀{vs:List Value},vs.length=a.length->n∈a->((a.zip vs).lookup n).isSome=true:=by induction a with|nil=>exactλd=>by intros;contradiction|cons p a c=>
  intro vs e h;rcases vs with _|⟨v,vs⟩;·injection e
  ·refine Rr List.zip_cons_cons<|Rr List.lookup_cons ?_;cases q:n==p with|true=>rfl|false=>exact c (Nat.succ.inj e)<|(P7 h).resolve_left λz=>by rw[z,beq_self_eq_true]at q;injection q
theorem Ke{a d:Type}{f g:a->Option d}{l:List a}(h:∀x∈l,f x=g x):l.filterMap f=l.filterMap g:=by induction l with|nil=>rfl|cons x r c=>exact Rr List.filterMap_cons<|Rr List.filterMap_cons<|Rr (h x<|.head _)<|Rr (c λy b=>h y<|.tail _ b) rfl
theorem FL{a:List Str}:∀{vs:List Value},vs.length=a.length->a.Nodup->a.filterMap (λn=>((a.zip vs).lookup n).map λb=>(n,b))=a.zip vs:=by induction a with|nil=>exactλb b=>rfl|cons p a f=>
  intro vs e h;rcases vs with _|⟨v,vs⟩;·injection e
  ·obtain⟨g,d⟩:=List.nodup_cons.mp h;haveI k:a.filterMap (λn=>(((p::a).zip<|v::vs).lookup n).map λb=>(n,b))=a.filterMap λn=>((a.zip vs).lookup n).map λb=>(n,b):=by refine Ke λn c=>?_;exact Rr List.zip_cons_cons<|Rr List.lookup_cons<|Rr (beq_eq_false_iff_ne.mpr λq=>g<|by refine Rl q ?_;exact c) rfl
   rw[List.filterMap_cons,k,f (Nat.succ.inj e) d,List.zip_cons_cons,List.lookup_cons,beq_self_eq_true];rfl
theorem Dc(s:e.params.posonlyargs=[])(q:e.params.kwonlyargs=[])(m:e.params.vararg=none)(r:e.params.kwarg=none)(p:e.defaults=.none)(vs:List Value)(hl:vs.length=(e.params.args.map λa=>a.arg).length)(i:(e.params.args.map λa=>a.arg).Nodup):bindArgs e ⟨vs,[]⟩=pure ((e.params.args.map λa=>a.arg).zip vs):=by
 obtain⟨_,_,⟨o,as,va,t,_,u,_⟩,_,_,_,_,d,_,_,_,_,_,_,_⟩:=e;obtain rfl:o=[]:=s;obtain rfl:t=[]:=q;obtain rfl:va=none:=m;obtain rfl:u=none:=r;obtain rfl:d=.none:=p;haveI l:((as.map λa=>a.arg).take<|(as.map λa=>a.arg).length-(List.drop (([]:List Value).length-(as.map λa=>a.arg).length) ([]:List Value)).length).filter (λn=>(((as.map λa=>a.arg).zip vs).lookup n).isNone)=[]:=by rw[List.drop_nil,List.filter_eq_nil_iff];intro n i h;haveI:=C9 hl<|List.mem_of_mem_take i;rw[Option.isNone_iff_eq_none.mp h]at this;injection this
 refine(if_neg<|by refine Rr hl ?_;simp).trans ?_;refine(if_neg (c:=(!(((as.map λa=>a.arg).take<|(as.map λa=>a.arg).length-(List.drop ([].length-(as.map λa=>a.arg).length) []).length).filter λn=>(((as.map λa=>a.arg).zip vs).lookup n).isNone).isEmpty)=true)<|by refine Rr l ?_;exact Bool.false_ne_true).trans ?_;show forIn (List.zip (List.drop ((as.map λa=>a.arg).length-(List.drop ([].length-(as.map λa=>a.arg).length) []).length)<|as.map λa=>a.arg)<|List.drop ([].length-(as.map λa=>a.arg).length) []) _ _>>=_=_;refine Rr List.drop_nil<|Rr List.zip_nil_right ?_;exact congrArg (pure (f:=Sem))<|(congrArg (List.filterMap _)<|Qc _).trans<|FL hl i
end
section
variable{G:cB}{P:Params}{K:Frag}{h:Heap}
noncomputable def Ax(K:Frag)(a:Nat):Option FuncData:=(K.lookup a).bind λo=>BV o.data
noncomputable def HP(fd:FuncData):Option<|List Stmt:=BW fd.body
noncomputable def Ng(fd:FuncData):Option Fn:=(HP fd).map λb=>⟨fd.params.args.map λξ=>ξ.arg,b,fd.scope⟩
theorem Kf(P:Params):mz.map (λp=>(Ax (KF P) p.1).bind Ng)=mz.map λp=>yT p.2:=by kernel_rfl
noncomputable def jn:List Str->Bool|[]=>true|x::r=>!(r.any λy=>sF y x)&&jn r
noncomputable def zt(k:Option NameKind):Bool:=k.any λk=>Nat.ble k.ctorIdx 1
theorem Ew(e:zt k=true):k=some .local\/k=some .cell:=by obtain⟨k,rfl,h⟩:=bY e;cases k with|«local»=>exact .inl rfl|cell=>exact .inr rfl|_=>injection h
noncomputable def zu(K:Frag)(fd:FuncData):Bool:=(kS fd.code).any λc=>(K.lookup c).any λo=>(BU o.data).any λvs=>((aa vs 1).bind ui).any λn=>sF n fd.qualname
noncomputable def sY(v:Value):Bool:=Nat.beq v.ctorIdx 0
theorem wR(e:sY v=true):v=.none:=by haveI h:=Qm e;exact Value.none.elim v h rfl
noncomputable def Pg(K:Frag)(fd:FuncData):Bool:=Nat.beq fd.globals 3&&Nat.beq fd.builtins 0&&fd.closure.isEmpty&&fd.params.posonlyargs.isEmpty&&fd.params.kwonlyargs.isEmpty&&fd.params.vararg.isNone&&fd.params.kwarg.isNone&&sY fd.defaults&&zu K fd&&jn (fd.params.args.map λξ=>ξ.arg)&&(fd.params.args.map λξ=>ξ.arg).all λx=>zt<|bt fd.scope.names x
theorem HQ(P:Params):mz.all (λp=>(Ax (KF P) p.1).any λb=>Pg (KF P) b)=true:=by kernel_rfl
theorem qp(e:jn l=true):l.Nodup:=by induction l with|nil=>exact .nil|cons x r c=>obtain⟨e1,b⟩:=aN e;refine List.nodup_cons.mpr ⟨λh=>?_,c b⟩;haveI q:(r.any λy=>sF y x)=true:=List.any_eq_true.mpr ⟨x,h,jf x⟩;rw[q]at e1;injection e1
theorem Ex(I:K.In h)(e:zu K b=true):h.CodeRec b.code b.qualname:=by refine(bY e).elim λc ζ0=>ζ0.elim λj e=>?_;obtain⟨o,m,e⟩:=bY e;obtain⟨vs,l,e⟩:=bY e;obtain⟨n,g,e⟩:=bY e;obtain⟨a,f,p⟩:=HK l;obtain⟨x,q,i⟩:=jr g;obtain⟨t,k⟩:=x4 i;exact⟨c,o,a,t,lJ j,I _ _ m,f,by rw[<-Array.getElem?_toList,<-gz,p,q,k,cI.mp e]⟩
theorem HS(k:(KF P).In G.h₀)(f:Nat)(e:Fn)(h:TP.fn f=some e):∃o d,G.h₀.get? f=some o/\o.data=.func d/\d.body=.stmts e.body/\d.scope=e.scope/\d.globals=mainGlobals/\d.builtins=builtinsNs/\d.closure=[]/\G.h₀.CodeRec d.code d.qualname/\(∀vs:List Value,vs.length=e.params.length->bindArgs d ⟨vs,[]⟩=pure (e.params.zip vs))/\e.params.Nodup/\∀x∈e.params,bt e.scope.names x=some .local\/bt e.scope.names x=some .cell:=by refine(P5 h).elim λst i=>i.elim λt q=>?_;haveI l:=jg t;haveI e1:=rE (Kf P) _ l;haveI a:=di (HQ P) l;dsimp only at e1 a;rw[q]at e1;obtain⟨d,p,n⟩:=P5 e1;obtain⟨b,v,F⟩:=P6 n;rw[p]at a;obtain⟨a,j⟩:=aN a;refine(aN a).elim λa g=>?_;refine(aN a).elim λa s=>?_;refine(aN a).elim λa D=>?_;refine(aN a).elim λa w=>?_;refine(aN a).elim λa A=>?_;refine(aN a).elim λa H=>?_;refine(aN a).elim λa E=>?_;refine(aN a).elim λa y=>?_;haveI B:=(aN a).1;haveI r:=(aN a).2;clear h q e1 n;subst F;obtain⟨o,u,z⟩:=jr p;exact⟨o,d,k _ _ u,HL z,HM v,rfl,Qm B,Qm r,P8 y,Ex k s,λvs hl=>Dc (P8 E) (P8 H) (Option.isNone_iff_eq_none.mp A) (Option.isNone_iff_eq_none.mp w) (wR D) vs hl<|qp g,qp g,λx C=>Ew<|di j C⟩
noncomputable def pf(v:Value)(a:AV):Bool:=match a with|.int j=>(uj v).any λi=>iF i j|.none=>sY v|_=>false
noncomputable def sj:List Value->List AV->Bool|[],as=>as.isEmpty|v::vs,as=>match as with|a::as=>pf v a&&sj vs as|[]=>false
noncomputable def ph(K:Frag)(v:Value)(a:AV):Bool:=match a with|.con c=>(kS v).any λb=>Nat.beq b c|.str t=>(ui v).any λs=>sF s t|.tup l=>(kS v).any λb=>(K.lookup b).any λo=>l9 (some o.cls) "tuple"&&(BQ o.data).any λvs=>sj vs l|a=>pf v a
theorem qU(e:pf v a=true):RV gf h v a:=by cases a with|int j=>obtain⟨i,c,d⟩:=bY e;obtain⟨t,f⟩:=x5 c;refine Rr f<|Rr (lQ d) ?_;exact .int _ _|none=>refine Rr (wR e) ?_;exact .none|_=>injection e
theorem Ey:∀{as:List AV},sj vs as=true->aU gf h vs as:=by induction vs with|nil=>intro as e;refine Rr (P8 e) ?_;exact .nil|cons v vs c=>
  intro as e;rcases as with _|⟨a,as⟩;·injection e
  ·exact .cons (qU (aN e).1)<|c (aN e).2
theorem FN(I:K.In h){a:AV}(e:ph K v a=true):RV gf h v a:=by cases a with|con c=>obtain⟨b,f,d⟩:=bY e;refine Rr (lJ f)<|Rr (Qm d) ?_;exact .con _|str t=>obtain⟨s,f,d⟩:=bY e;obtain⟨u,g⟩:=x4 f;refine Rr g<|Rr (cI.mp d) ?_;exact .str _ _|tup l=>obtain⟨b,f,e⟩:=bY e;obtain⟨o,d,e⟩:=bY e;refine(aN e).elim λg e=>?_;obtain⟨vs,k,e⟩:=bY e;obtain⟨a,n,j,m⟩:=HI k;refine Rr (lJ f) ?_;exact .tup_ ⟨o,I _ _ d,sI<|m5 g,n,j⟩<|Rl m.symm<|Ey e|_=>exact qU e
noncomputable def kC(K:Frag):List (Str×Value)->List (Str×AV)->Bool|[],m=>m.isEmpty|p::r,m=>match m with|[]=>true|q::t=>bif sF p.1 q.1 then ph K p.2 q.2&&kC K r t else kC K r m
theorem FO:∀{m:List<|Str×AV},kC K l m=true->∀q∈m,∃v,(q.1,v)∈l/\ph K v q.2=true:=by induction l with|nil=>intro m e q i;rw[P8 e]at i;cases i|cons p r g=>
  intro m e z b;rcases m with _|⟨q,t⟩;·cases b
  ·haveI e:(bif sF p.1 q.1 then ph K p.2 q.2&&kC K r t else kC K r<|q::t)=true:=e;cases d:sF p.1 q.1 with
   |true=>
    rw[d]at e;refine(aN e).elim λe1 j=>?_;clear e;clear e;rcases P7 b with rfl|b;·exact⟨p.2,by refine Rl (cI.mp d) ?_;exact .head _,e1⟩
    ·obtain⟨v,f,c⟩:=g j z b;exact⟨v,.tail _ f,c⟩|false=>rw[d]at e;obtain⟨v,f,c⟩:=g e z b;exact⟨v,.tail _ f,c⟩
theorem FP{l:List<|Str×Value}(e:jn (l.map λb=>b.1)=true):∀p∈l,l.lookup p.1=some p.2:=by induction l with|nil=>exactλb=>by intros;contradiction|cons p r d=>
    intro q h;refine(aN e).elim λe1 f=>?_;refine Rr List.lookup_cons ?_;clear e;rcases P7 h with rfl|h;·rw[beq_self_eq_true]
    ·refine Rr (beq_eq_false_iff_ne.mpr λz=>by rw[List.any_eq_true.mpr ⟨q.1,List.mem_map_of_mem h,z▸jf _⟩]at e1;injection e1) ?_;exact d f q h
theorem HT(P:Params):kC (KF P) ((hZ P).nsPairs mainGlobals) tX=true:=by kernel_rfl
theorem Kg(P:Params):jn (((hZ P).nsPairs mainGlobals).map λb=>b.1)=true:=by kernel_rfl
noncomputable def Ay(v:Value)(b:String):Bool:=(ug v).any (λn=>(b=="range"||b=="tuple")&&n==b)||(uh v).any λn=>!(b=="range"||b=="tuple")&&n==b
theorem FQ(e:Ay v b=true):v=hG b:=by
 have k:∀z,(b=="range"||b=="tuple")=z->(b="range"\/b="tuple"↔z=true):=λz i=>by rw[<-i,Bool.or_eq_true,beq_iff_eq,beq_iff_eq]
 rcases Bool.or_eq_true_iff.mp e with e|e;·obtain⟨n,f,h⟩:=bY e;obtain⟨d,g⟩:=aN h;rw[xY f,eq_of_beq g];exact(if_pos<|(k _ rfl).mpr d).symm
 ·obtain⟨n,f,h⟩:=bY e;obtain⟨d,g⟩:=aN h;rw[xZ f,eq_of_beq g];exact(if_neg λq=>by rw[(k _ rfl).mp q]at d;injection d).symm
theorem HU(P:Params):Bt.all (λp=>((hZ P).nsMap mainGlobals p.1).isNone&&((hZ P).nsMap builtinsNs p.1).any λv=>Ay v p.2)=true:=by kernel_rfl
noncomputable def Nh(v:Value)(k:Int):Bool:=(uj v).any λi=>iF i k
noncomputable def sZ:List DictEntry->List (Int×AV)->Bool|[],m=>m.isEmpty|e::r,m=>match m with|p::t=>Nh e.key p.1&&pf e.val p.2&&iF e.hash (hashInt p.1)&&sZ r t&&!t.any λx=>iF x.1 p.1|[]=>false
noncomputable def tc(o:Obj)(l:List<|Int×AV):Bool:=l9 (some o.cls) "dict"&&o.dict.isNone&&o.slots.isEmpty&&(BR o.data).any λes=>sZ es l
theorem x7(P:Params):((KF P).lookup 78).any (λo=>tc o sR)&&((KF P).lookup 79).any (λo=>tc o sS)=true:=by kernel_rfl
end
section
variable{G:cB}{P:Params}{K:Frag}{h:Heap}
theorem FT:∀{l:List<|Int×AV},sZ j l=true->∃a:List<|Int×Value,Pairs (intKind prog w) j a/\ck gf h a l/\(∀e∈j,∃k,(intKind prog w).is k e.key=true/\e.hash=(intKind prog w).hash k)/\a.map (λc=>c.1)=l.map (λc=>c.1)/\(l.map λc=>c.1).Nodup:=by induction j with|nil=>intro l e;refine Rr (P8 e) ?_;exact⟨[],.nil,.nil,λe f=>absurd f Qr,rfl,.nil⟩|cons d r z=>
    intro l e;rcases l with _|⟨p,t⟩;·injection e
    · refine(aN e).elim λe u=>?_;obtain⟨e,D⟩:=aN e;refine(aN e).elim λe A=>?_;haveI e1:=(aN e).1;haveI s:=(aN e).2;obtain⟨a,n,o,g,E,B⟩:=z D;have v:(intKind prog w).is p.1 d.key=true:=by obtain⟨i,n,o⟩:=bY e1;obtain⟨t,g⟩:=x5 n;refine Rr g ?_;exact o
      refine⟨(p.1,d.val)::a,.cons v rfl n,.cons ⟨rfl,qU s⟩ o,λe f=>?_,by exact Rr List.map_cons<|Rr List.map_cons<|Rr E rfl,List.nodup_cons.mpr ⟨λC=>?_,B⟩⟩
      · clear s;rcases P7 f with rfl|f;·exact⟨p.1,v,lQ A⟩
        ·exact g e f
      ·obtain⟨x,y,m⟩:=List.mem_map.mp C;haveI q:(t.any λx=>iF x.1 p.1)=true:=List.any_eq_true.mpr ⟨x,y,by refine Rr m ?_;exact gy _⟩;rw[q]at u;injection u
theorem x8(j:(KF P).In G.h₀)(e:((KF P).lookup a).any (λo=>tc o l)=true):∃g b,AO.idict l=.idict g/\G.h₀.DictOf (intKind G.prog G.w) a b/\ck gf G.h₀ b g:=by cases c:(KF P).lookup a with|none=>rw[c]at e;injection e|some o=>
 haveI e:=by rw[c]at e;exact e
 refine(aN e).elim λe d=>?_;refine(aN e).elim λe q=>?_;haveI e1:=(aN e).1;haveI p:=(aN e).2;obtain⟨v,h,d⟩:=bY d;obtain⟨a,n,s,rfl⟩:=HJ h;obtain⟨b,k,t,m,u,i⟩:=FT d;exact⟨l,b,rfl,⟨o,a,n,j _ _ c,⟨sI<|m5 e1,Option.isNone_iff_eq_none.mp p,Array.isEmpty_iff.mp q⟩,s,λe r=>m e<|Array.mem_toList_iff.mpr r,k,by refine Rr u ?_;exact i⟩,t⟩
theorem x9(d:G.K=KF P):iR G:=by
  haveI u:=d▸G.inK;haveI B:=vQ u;haveI A:=G.glob.eq_nsMap.trans<|eY B.z3;haveI M:=G.bi.eq_nsMap.trans<|eY B.z0;refine⟨λx v h=>?_,λx b O h=>?_,λC x h=>Rr d<|HO (wQ h).1,λC x h H=>d▸x6 (wQ h).2 H,λa o h=>?_,λa N h=>?_,λa i r h=>?_,λC x f h=>?_,λa p h=>?_,λC h=>?_,λC D h k=>?_,HS u⟩;·obtain⟨w,g,m⟩:=FO (HT P) _<|qT h;exact⟨w,by rw[A,Heap.nsMap_eq_lookup<|lI P];exact FP (Kg P) _ g,FN u m⟩
  ·obtain⟨g,m⟩:=aN<|di (HU P)<|qT h;refine⟨by rw[A];exact Option.isNone_iff_eq_none.mp g,?_⟩;refine(bY m).elim λw ζ0=>ζ0.elim λL m=>?_;rw[M,L,FQ m]
  · haveI h:(if a=78 then some<|AO.idict sR else if a=79 then some<|.idict sS else none)=some o:=h;haveI J:=(aN<|x7 P).1;haveI E:=(aN<|x7 P).2;by_cases q:a=78;·rw[if_pos q]at h;injection h with h;subst h;subst q;exact⟨rfl,x8 u J⟩
    · rw[if_neg q]at h;by_cases q:a=79;·rw[if_pos q]at h;injection h with h;subst h;clear h;subst q;exact⟨rfl,x8 u E⟩
      ·rw[if_neg q]at h;injection h
  ·obtain⟨st,g,_⟩:=P5 h;exact Rr d<|m7<|di (HN P)<|jg g
  ·refine(aN<|di (Er P)<|jg h).elim λe n=>?_;refine(aN e).elim λe t=>?_;exact Rr d ⟨(aN e).1,(aN e).2,qA t,(m7 n).2⟩ 
  ·obtain⟨l,g,m⟩:=P5 h;refine(aN<|di (di (Et P)<|jg g)<|qT m).elim λe n=>?_;refine(aN e).elim λe t=>?_;haveI z:=(aN e).1;haveI I:=(aN e).2;haveI n:=m7 n;exact Rr d ⟨by rw[Bool.not_eq_true']at z;exact z,I,qA t,by delta isFn;rw[n.2];rfl,n.1⟩ 
  · rw[d];refine di (FI P) ?_;haveI h:(if a=389 then if rh (aa p 1)=true then some pR else none else d0 iu a).isSome=true:=h;by_cases q:a=389;·rw[q];exact .head _
    ·rw[if_neg q]at h;refine(Option.isSome_iff_exists.mp h).elim λl hl=>?_;exact .tail _<|List.mem_map_of_mem (f:=Prod.fst)<|jg hl
  ·refine(aN<|di (FK P)<|oh h).elim λe t=>?_;exact Rr d ⟨wO (aN e).1,m5 (aN e).2,t⟩ 
  ·haveI e:=di (di (FJ P)<|oh h)<|oh k;rw[d];refine(bY e).elim λb ζ0=>ζ0.elim λF e=>?_;rw[F];exact congrArg some<|eq_of_beq e
end
end
section
open PyProof.Rows PySem PySem.Calls PySem.W Builtin.ObjectAttr
def SD(h:Heap)(e C:Addr)(dat:Data)(z:Bool)(od:Option Addr)(l:List<|Str×Value):Prop:=h.get? e=some ⟨.ref C,od,dat,#[]⟩/\match od with|none=>z=true/\l=[]|some d=>d≠e/\∃es n,h.get? d=some (dictOf es n)/\StrKeys es.toArray/\UniqKeys es.toArray/\es.length=l.length/\∀x,nsFind es.toArray x=l.lookup x
def pj(prog:Program)(w:World)(K:Frag)(e C:Addr)(dat:Data)(z:Bool)(x:Str):Prop:=∀(A:Around)(E:Value->Shared->Prop)(s:Shared)(od:Option Addr)(l:List<|Str×Value)(v:Value)(Q:Unit->Shared->Prop),K.In s.heap->SD s.heap e C dat z od l->x∉l.map (λξ=>ξ.1)->l.length<=1000->(∀h' od' tk,SD h' e C dat z od' (l++[(x,v)])->(∀b o,b≠e->od≠some b->s.heap.get? b=some o->h'.get? b=some o)->(∃d,od'=some d/\(od=some d\/s.heap.get? d=none))->Q () {s with heap:=h',toks:=tk})->wpAny (model prog w) A (setAttr (.ref e) x v) Q E s
theorem qm{l:List<|Str×Value}(b:x∉l.map λf=>f.1):(l++[(x,v)]).lookup y=if y=x then some v else l.lookup y:=by induction l with
 |nil=>
  by_cases h:y=x;·rw[if_pos h,h];exact List.lookup_cons_self
  ·rw[if_neg h];show List.lookup y [(x,v)]=_;exact Rr List.lookup_cons<|Rr (beq_eq_false_iff_ne.mpr h) rfl|cons p r d=>
  refine(not_or.mp λq=>b<|List.mem_cons.mpr q).elim λe c=>?_;refine Rr List.cons_append<|Rr List.lookup_cons<|Rr List.lookup_cons<|Rr (d c) ?_;by_cases h:y=p.1;·refine Rr (beq_iff_eq.mpr h) ?_;exact(if_neg λq=>e<|q.symm.trans h).symm
  ·exact Rr (beq_eq_false_iff_ne.mpr h) rfl
theorem uT{l:List<|Str×Value}(b:x∉l.map λf=>f.1):l.lookup x=none:=by induction l with|nil=>rfl|cons p r d=>refine(not_or.mp λq=>b<|List.mem_cons.mpr q).elim λe c=>?_;refine Rr List.lookup_cons<|Rr (beq_eq_false_iff_ne.mpr e) ?_;exact d c
theorem Dd{K:Frag}(t:plainOver K C=true/\takerIn K C x=some none/\(clsIn K C).any (λu=>u.hasDict)=true/\findIn K (.ref C) "__setattr__"=some (some<|.builtin "object.__setattr__")):pj prog w K e C .plain false x:=by
 intro A E s od l v Q X D z hl T;haveI F:=D.1;haveI D:=D.2;rcases od with _|d;·cases D.1
 ·obtain⟨f,U,n,O,N,M,c,B⟩:=D;refine vJ X t F O N M (by refine Rr c<|Rr sizeLine_eq ?_;exact af (ai _) (.v 0) (.n 1000) (.v 0) (.n 16777216) hl rfl) λJ k n' L j r i P m G=>T J (some d) L ⟨(G.2 _ f.symm).trans F,f,k,n',j,r,i,?_,λy=>by rw[P,qm z,B]⟩ (λb o u I g=>(G.2 b λq=>I<|Rr q rfl).trans g) ⟨d,rfl,.inl rfl⟩;rw[m,B,uT z,c,Qa];rfl
noncomputable def Ni(v:Value):Bool:=(kS v).isSome
noncomputable def fC:List Value->Bool|[]=>false|v::r=>Ni v&&fC r||decide (v::r=[.type "Exception",.type "BaseException",.type "object"])
theorem vn{P:List Value->Prop}(f:P [.type "Exception",.type "BaseException",.type "object"])(i:∀c r,P r->P (.ref c::r))(e:fC l=true):P l:=by induction l with|nil=>injection e|cons v r g=>
  rcases Bool.or_eq_true_iff.mp e with q|q;·refine(aN q).elim λd h=>?_;refine(Option.isSome_iff_exists.mp d).elim λa k=>?_;refine Rr (lJ k) ?_;exact i _ _<|g h
  ·rw[of_decide_eq_true q];exact f
theorem CI(a:Value)(e:fC l=true):refuseLoop a "__setattr__" l=pure ():=vn (P:=λl=>refuseLoop a "__setattr__" l=pure ()) (PySem.F.store_Exception.passes a) (λc r h=>(refuseLoop_ref ..).trans h) e
theorem qn(e:fC l=true):l.contains (.type "object")=true/\l.contains (.type "Exception")=true/\l.contains (.type "AttributeError")=false/\l.contains (.type "NameError")=false:=vn (P:=λl=>l.contains (.type "object")=true/\l.contains (.type "Exception")=true/\l.contains (.type "AttributeError")=false/\l.contains (.type "NameError")=false) (by decide+kernel) (λc r h=>h) e
section
variable{prog:Program}{w:World}{A:Around}{E:Value->Shared->Prop}{s:Shared}{K:Frag}{e C:Addr}{fl:Array Value}{od:Option Addr}{x:Str}{v:Value}
theorem wU{od:Option Obj}{R:Result->Shared->Prop}(X:K.In s.heap)(I:InstAt s.heap e J C od)(u:clsIn K C=some cd)(k:fC cd.mro=true)(B:takerIn K C x=some none)(h:∀b,wpAny (model prog w) A.in1 (storeInOwnDict (.ref e) (.ref C) (.str x n) x v b) (λfin l=>match fin with|.done f=>R (.ok f) l|.again t=>t.quiet=true/\codeAny (model prog w) A t R l) (λe l=>R (.error e) l) s):codeAny (model prog w) A (.call (.builtin "object.__setattr__") ⟨[.ref e,.str x n,v],[]⟩) R s:=by
 haveI i:=PySem.F.store_object;haveI D:cd.mro.isEmpty=false:=by cases q:cd.mro with|nil=>rw[q]at k;injection k|cons _ _=>rfl
 haveI m:mroIn K C (.type "object")=some true:=by delta mroIn;rw[u,Option.bind_some,D,(qn k).1];rfl
 haveI sub:Looks (model prog w) s.heap (isInstance (.ref e)<|.type "object") true:=I.type.andThen<|looks_mroIn X m;refine codeAny_call_builtin i.slot.plain i.entry<|@check_slot (model prog w) _ _ s "object.__setattr__" "object" "__setattr__" (.ref e) [.str x n,v] [] _ i.kind i.split sub (i.args (.ref e) (.str x n) v) ?_;refine(P5 B).elim λg ζ0=>ζ0.elim λy G=>?_;haveI H:Looks (model prog w) s.heap (mroOf<|.ref C) cd.mro:=(looks_clsIn X u).andThen .now;haveI z:Looks (model prog w) s.heap (storeTaker? g) none:=by
  clear y;rcases g with _|a;·exact .now
  ·obtain⟨b,r,q⟩:=P6 G;refine(looks_takesIn X r).andThen ?_;clear r;rcases b with _|_;·exact .now
   ·injection q
 rw[osa_eq,refuse_eq];refine wpAny_bind<|wpAny_bind<|I.type.here<|wpAny_bind<|H.here ?_;refine Rr (CI _ k) ?_;exact wpAny_pure<|wpAny_bind<|I.type.here<|wpAny_bind<|(looks_findIn X y).here<|wpAny_bind<|z.here<|h _
theorem Ez(hs:findIn K (.ref C) "__setattr__"=some (some<|.builtin "object.__setattr__"))(U:clsIn K C=some cd)(hm:fC cd.mro=true)(ht:takerIn K C x=some none)(hd:cd.hasDict=true):pj prog w K e C (.fields fl) true x:=by
 intro A E s od l v Q X D V hl hQ;obtain⟨j,D⟩:=D;haveI m:∀{P:List DictEntry}{n:Nat},P.length<=1001->(dictOf P n).data.pastItsLine=none:=λk=>pastItsLine_dict (by exact af (ai _) (.v 0) (.n 1001) (.v 0) (.n 16777217) k rfl);haveI I0:∀{d:Option Addr}{o:Option Obj},s.heap.get? e=some ⟨.ref C,d,.fields fl,#[]⟩->(match d,o with|some dx,some o=>s.heap.get? dx=some o|none,none=>True|_,_=>False)->InstAt s.heap e ⟨.ref C,d,.fields fl,#[]⟩ C o:=λj k=>⟨j,rfl,rfl,k⟩;rcases od with _|d;·clear hl;obtain⟨_,rfl⟩:=D;haveI L:InstAt s.heap e ⟨.ref C,none,.fields fl,#[]⟩ C none:=I0 j trivial;refine set_plain X L hs<|wU X L U hm ht λb=>?_;refine wpAny_bind<|wpAny_pure<|wpAny_bind<|wpAny_bind<|wpAny_loadPart j<|wpAny_bind<|Looks.here (looks_clsIn X U) ?_;refine Rr hd ?_;haveI F:=Nat.ne_of_lt<|Heap.lt_size j;haveI J:(s.heap.push {cls:=.type "dict",data:=.dict #[]}).get? e=some ⟨.ref C,none,.fields fl,#[]⟩:=Qp _ j;refine wpAny_bind<|wpAny_alloc<|wpAny_bind<|wpAny_update J ?_;refine wpAny_pure<|wpAny_bind<|wpAny_pure<|wpAny_bind ?_;generalize B:(s.heap.push {cls:=.type "dict",data:=.dict #[]}).update e (λo=>{o with dict:=some s.heap.objs.size})=h2;haveI W:=B▸Heap.get?_update_self _ J rfl;haveI i:=B▸(Heap.get?_update_ne _ _ _ _ F.symm).trans (Heap.get?_push_at rfl rfl);haveI k2:∀b o,b≠e->s.heap.get? b=some o->h2.get? b=some o:=λb o M g=>Rl B<|(Heap.get?_update_ne _ _ _ _ M).trans<|Qp _ g;refine rt i (λe he=>by simp at he) List.Pairwise.nil λY G n' N z u Z h f=>?_;haveI O:=h;refine wpAny_bind<|wpAny_lookBehind N (m<|af (ai _) (.v 0) (.n 1) (.v 0) (.n 1001) (Qn O) rfl)<|wpAny_pure<|hQ Y (some s.heap.objs.size) _ ⟨(f.2 _ F).trans W,F.symm,G,n',N,z,u,O,λy=>(Z y).trans (qm V).symm⟩ (λb o M ξ T=>(f.2 b<|Nat.ne_of_lt<|Heap.lt_size T).trans<|k2 b o M T) ⟨_,rfl,.inr<|cC _⟩
 ·refine D.elim λI ζ0=>ζ0.elim λP ζ1=>ζ1.elim λn ζ2=>ζ2.elim λH ζ3=>ζ3.elim λsk ζ4=>ζ4.elim λuk ζ5=>ζ5.elim λr hr=>?_;haveI L:InstAt s.heap e ⟨.ref C,some d,.fields fl,#[]⟩ C<|some<|dictOf P n:=I0 j H;refine set_plain X L hs<|wU X L U hm ht λb=>?_;refine wpAny_bind<|wpAny_pure<|wpAny_bind<|wpAny_bind<|wpAny_loadPart j<|wpAny_bind<|Looks.here (looks_clsIn X U) ?_;refine Rr hd ?_;refine wpAny_pure<|wpAny_bind<|wpAny_pure<|wpAny_bind ?_;refine rt H sk uk λY G n' i z u Z h f=>?_;rw[hr,uT V]at h;refine wpAny_bind<|wpAny_lookBehind i (m<|eh (aH _ _ _) (.v 0) (.p 1 1) (.v 1) (.v 2) (.v 2) (.n 1000) (.v 0) (.n 1001) (Qn h) (Qn r) hl rfl)<|wpAny_pure<|hQ Y (some d) _ ⟨(f.2 _ I.symm).trans j,I,G,n',i,z,u,by refine Rr h<|Rr r<|Rr Qa ?_;rfl,λy=>by rw[Z,qm V,hr]⟩ (λb o ξ M T=>(f.2 b λq=>M<|Rr q rfl).trans T) ⟨d,rfl,.inl rfl⟩
end
end
section
open PyProof.Rows PySem PySem.Calls PySem.W
noncomputable def kU:List Str->Str->Option Nat|[],_=>none|y::r,x=>bif sF y x then some 0 else(kU r x).map λξ=>ξ+1
noncomputable def pn(e:Expr):Option Const:=eS e 19 none λh=>Expr.Constant.elim e h λv ξ ξ=>some v
noncomputable def Az(e:Expr):Option<|UnaryOp×Expr:=eS e 3 none λh=>Expr.UnaryOp.elim e h λo a ξ=>some (o,a)
noncomputable def td(e:Expr):Option Expr:=(Az e).bind λq=>bif Nat.beq q.1.ctorIdx 3 then some q.2 else none
noncomputable def te(s:Stmt):Option<|List Expr×Expr×Pos:=if h:s.ctorIdx=5 then Stmt.Assign.elim s h λts e p=>some (ts,e,p)else none
noncomputable def oi(v:Const):Option Int:=if h:v.ctorIdx=2 then Const.int.elim v h some else none
noncomputable def oj(v:Const):Bool:=Nat.beq v.ctorIdx 0
noncomputable def om(ps:List Str)(e:Expr):Option dm:=match eD e with|some y=>(kU ps y).map .arg|none=>match pn e with|some v=>bif oj v then some<|.val .none else(oi v).map λi=>.val<|.int i|none=>match td e with|some a=>((pn a).bind oi).map λi=>.val<|.int<|-i|none=>(tW e).bind λl=>bif l.1.isEmpty then some<|.val<|.fl []else none
noncomputable def zv(self:Str)(ps:List Str)(st:Stmt):Option<|Str×dm:=(te st).bind λa=>(one a.1).bind λt=>(my t).bind λt=>(eD t.1).bind λs=>bif sF s self then(om ps a.2.1).map λξ=>(t.2.1,ξ)else none
where one(l:List Expr):Option Expr:=match l with|[]=>none|t::r=>bif r.isEmpty then some t else none
noncomputable def j9(self:Str)(ps:List Str):List Stmt->Option (List<|Str×dm)|[]=>some []|st::r=>(zv self ps st).bind λp=>(j9 self ps r).map λξ=>p::ξ
inductive VR(b₀ h:Heap)(vals:List Value):Value->dm->Prop|arg{i:Nat}{v:Value}(e:aa vals i=some v):VR b₀ h vals v<|.arg i|int(i:Int)(t:Tok):VR b₀ h vals (.int i t)<|.val<|.int i|none:VR b₀ h vals .none<|.val .none|list{t n:Nat}(f:b₀.get? t=none)(o:h.get? t=some {cls:=.type "list",data:=.seq #[] n}):VR b₀ h vals (.ref t)<|.val<|.fl []
abbrev FR(b₀ h:Heap)(vals:List Value):List (Str×Value)->List (Str×dm)->Prop:=aL λp q=>p.1=q.1/\VR b₀ h vals p.2 q.2
section
variable{prog:Program}{w:World}{A:Around}{E:Value->Shared->Prop}{K:Frag}{e C:Addr}{dat:Data}{z:Bool}{b₀:Heap}{env:Env}{m:Str->Option Value}{self:Str}{ps:List Str}{vals:List Value}
theorem VR.mv(k:∀a n,h.get? a=some {cls:=.type "list",data:=.seq #[] n}->c.get? a=some {cls:=.type "list",data:=.seq #[] n})(r:VR b₀ h vals v t):VR b₀ c vals v t:=by
 rcases r with e|⟨i,t⟩|_|⟨f,o⟩;·exact .arg e
 ·exact .int i t
 ·exact .none
 ·exact .list f<|k _ _ o
theorem FR.fst{m:List<|Str×dm}(r:FR b₀ h vals l m):l.map (λa=>a.1)=m.map λa=>a.1:=by induction r with|nil=>rfl|cons r _ b=>exact Rr List.map_cons<|Rr List.map_cons<|Rr r.1<|Rr b rfl
theorem lA{c:Type}{o:Option c}{r:c}(e:(bif b then o else none)=some r):b=true/\o=some r:=by cases b with|true=>exact⟨rfl,e⟩|false=>injection e
theorem wV{e:Expr}(H:pn e=some y):∃k p,e=.Constant y k p:=by refine(gv H).elim λh H=>?_;exact Expr.Constant.elim e h (λy k p h H=>by haveI H:=sI H;exact⟨k,p,Rr H rfl⟩) h H
theorem FU{e:Expr}(H:Az e=some y):∃p,e=.UnaryOp y.1 y.2 p:=by refine(gv H).elim λh H=>?_;exact Expr.UnaryOp.elim e h (λo a p h H=>by haveI H:=sI H;exact⟨p,Rl H rfl⟩) h H
theorem FW{e:Expr}(h:td e=some y):∃p,e=.UnaryOp .USub y p:=by
 obtain⟨q,c,h⟩:=P5 h;obtain⟨d,h⟩:=lA h;obtain⟨o,a⟩:=q;haveI:o=.USub:=by clear c h;cases o<;>first|rfl|injection d
 exact this▸Rl (sI h) (FU c)
theorem FX{e:Stmt}(H:te e=some y):e=.Assign y.1 y.2.1 y.2.2:=by
 delta te at H;by_cases h:e.ctorIdx=5;·rw[dif_pos h]at H;exact Stmt.Assign.elim e h (λts e p h H=>by haveI H:=sI H;exact Rl H rfl) h H
 ·rw[dif_neg h]at H;injection H
theorem vR(e:oi v=some i):v=.int i:=(gk e).elim λh k=>Const.int.elim v h (λb h k=>congrArg _<|sI k) h k
theorem EA(h:oj v=true):v=.none:=Const.none.elim v (Qm h) rfl
theorem EB{st:Stmt}(h:zv self ps st=some p):∃d f pos e,st=.Assign [.Attribute (.Name self d) p.1 f] e pos/\om ps e=some p.2:=by
 obtain⟨⟨ts,e,pos⟩,k,h⟩:=P5 h;obtain⟨t,a,h⟩:=P5 h;obtain⟨⟨o,x,f⟩,j,h⟩:=P5 h;obtain⟨s,c,h⟩:=P5 h;haveI g:=(lA h).1;haveI h:=(lA h).2;obtain⟨q,i,rfl⟩:=P6 h;obtain⟨d,c⟩:=f9 c;clear h;clear h;clear h;rcases ts with _|⟨n,r⟩;·injection a
 ·obtain⟨l,a⟩:=lA a;haveI a:=sI a;subst a;clear a h;clear h;obtain rfl:=P8 l;exact⟨d,f,pos,e,by exact Rr (FX k)<|Rr (nH j)<|Rr c<|Rr (cI.mp g) rfl,i⟩
theorem ya(O:env.scope.kind=.function)(D:∀y i,kU ps y=some i->∃v,aa vals i=some v/\m y=some v/\env.kindOf y=some .local/\(y=="__debug__")=false)(h:om ps r=some t)(L:s.heap.Ns env.locals m)(M:∀b o,b₀.get? b=some o->s.heap.get? b=some o)(H:∀v B I,(∀b o,s.heap.get? b=some o->B.get? b=some o)->VR b₀ B vals v t->Q v {s with heap:=B,toks:=I}):jk r=false/\wpAny (model prog w) A (eval r env) Q E s:=by delta om at h;cases f:eD r with|some y=>obtain⟨p,rfl⟩:=f9 f;obtain⟨i,f,rfl⟩:=P6 h;obtain⟨v,v1,v2,G,J⟩:=D y i f;exact⟨rfl,wpAny_Name (wpAny_loadName_local O G L v2<|H v s.heap s.toks (λg g e=>e)<|.arg v1) J⟩|none=>rw[f]at h;cases x:pn r with
 |some v=>clear f;obtain⟨k,p,rfl⟩:=wV x;haveI h:(bif oj v then some<|dm.val .none else(oi v).map λi=>.val<|.int i)=some t:=h;cases d:oj v with|true=>rw[d]at h;injection h with h;subst h;rw[EA d];exact⟨rfl,wpAny_Constant_none<|H _ s.heap s.toks (λg g e=>e) .none⟩|false=>rw[d]at h;obtain⟨i,n,rfl⟩:=P6 h;refine Rr (vR n) ?_;exact⟨rfl,wpAny_Constant_int<|H _ s.heap _ (λg g e=>e)<|.int i _⟩
 |none=>rw[x]at h;cases d:td r with|some a=>clear f x;obtain⟨p,rfl⟩:=FW d;obtain⟨i,n,rfl⟩:=P6 h;obtain⟨v,F,N⟩:=P5 n;clear d n h;obtain⟨k,q,rfl⟩:=wV F;refine Rr (vR N) ?_;exact⟨rfl,wpAny_UnaryOp<|wpAny_Constant_int<|PyProof.Rows.neg_int<|H _ s.heap _ (λg g e=>e)<|.int _ _⟩|none=>rw[d]at h;obtain⟨l,n,h⟩:=P5 h;clear f x d;obtain rfl:=yX n;obtain⟨F,h⟩:=lA h;haveI h:=sI h;subst h;refine Rr (P8 F) ?_;refine⟨rfl,wpAny_List<|wpAny_items_nil ⟨Nat.zero_le _,?_⟩⟩;refine H _ (s.heap.push {cls:=.type "list",data:=.seq #[]}) s.toks (cw _ _)<|.list ?_<|Qq _ rfl;cases q:b₀.get? s.heap.objs.size with|none=>rfl|some o=>haveI:=M _ _ q;rw[cC]at this;injection this
theorem EC(hK:K.In b₀)(hk:env.scope.kind=.function)(Z:∀y i,kU ps y=some i->∃v,aa vals i=some v/\m y=some v/\env.kindOf y=some .local/\(y=="__debug__")=false)(h0:m self=some (.ref e))(h1:env.kindOf self=some .local)(h2:(self=="__debug__")=false)(heb:b₀.get? e=none)(hLe:env.locals≠e)(body:List Stmt):∀(l dl:List<|Str×dm)(done:List<|Str×Value)(od:Option Addr)(s:Shared)(Q:Flow->Shared->Prop),j9 self ps body=some l->((dl++l).map λG=>G.1).Nodup->done.length+l.length<=1000->(∀p∈l,pj prog w K e C dat z p.1)->SD s.heap e C dat z od done->FR b₀ s.heap vals done dl->(∀b o,b₀.get? b=some o->s.heap.get? b=some o)->(∀d,od=some d->b₀.get? d=none/\d≠env.locals)->s.heap.Ns env.locals m->(∀M T tk B,SD M e C dat z T B->FR b₀ M vals B (dl++l)->(∀b o,b₀.get? b=some o->M.get? b=some o)->(∀d,T=some d->b₀.get? d=none)->Q .next {s with heap:=M,toks:=tk})->wpAny (model prog w) A (PySem.execs body env) Q E s:=by induction body with|nil=>intro l dl done od s Q u _ _ _ D F U V L H;haveI u:=sI u;subst u;exact wpAny_execs_nil<|H s.heap od s.toks done D (Rl (Qc dl).symm F) U λd h=>(V d h).1|cons st r ih=>
  intro l dl done od s Q u nd O hS D F U V L H;obtain⟨⟨x,t⟩,hs,u⟩:=P5 u;obtain⟨l',hbr,rfl⟩:=P6 u;obtain⟨p1,p2,pos,rhs,rfl,hr⟩:=EB hs;haveI hc:=(ya (Q:=λG G=>True) (prog:=prog) (w:=w) (A:=A) (E:=E) hk Z hr L U λG G G G G=>trivial).1;haveI hsw:swapsWithSole [.Attribute (.Name self p1) x p2] rhs pos.line env=pure false:=by delta swapsWithSole;exact mP hc
  refine wpAny_execs_cons<|wpAny_Assign_stores (ya hk Z hr L U λv j W f hv=>?_).2 hsw rfl;have Y:∀{M:Heap},(∀o,j.get? env.locals=some o->M.get? env.locals=some o)->M.Ns env.locals m:=λk=>by obtain⟨oL,X,ep,g,g'⟩:=L;exact⟨oL,X,ep,k _<|f _ _ g,g'⟩
  refine wpAny_bind<|wpAny_holding<|wpAny_Name (wpAny_loadName_local hk h1 (Y λG=>id) h0 ?_) h2;have J:SD j e C dat z od done:=by
   haveI ho:=D.1;haveI D:=D.2;refine⟨f _ _ ho,?_⟩;clear V ho;rcases od with _|d;·exact D
   ·refine D.elim λd1 ζ0=>ζ0.elim λX ζ1=>ζ1.elim λn ζ2=>ζ2.elim λd2 d3=>?_;exact⟨d1,X,n,f _ _ d2,d3⟩
  have nx:=λq=>by rw[List.map_append,List.nodup_append]at nd;exact nd.2.2 x (Rl F.fst q) x (.head _) rfl
  refine wpAny_bind<|wpAny_standAt<|wpAny_bind<|wpAny_holding<|hS (x,t) (.head _) A E {s with heap:=j,toks:=W} od done v _ (λa o h=>f _ _<|U a o<|hK a o h) J nx (by exact af (au _ _) (.a (.v 0)<|.p 1 1) (.n 1000) (.v 0) (.n 1000) O rfl) λM T tk D' N hd'=>wpAny_release ?_;obtain⟨d',rfl,qd⟩:=hd';haveI ob:=λb o u=>N b o (λz=>by rw[z,heb]at u;injection u) (λz=>by rw[(V b z).1]at u;injection u)<|f _ _<|U b o u;haveI dL:=qd.elim (V d') λq=>by
   refine⟨?_,λy=>?_⟩;·cases hq:b₀.get? d' with|none=>rfl|some o=>rw[f _ _<|U d' o hq]at q;injection q
   ·refine L.elim λoL ζ0=>ζ0.elim λX ζ1=>ζ1.elim λep ζ2=>ζ2.elim λg ξ=>?_;rw[y,f _ _ g]at q;injection q
  have nl:∀a n,j.get? a=some {cls:=.type "list",data:=.seq #[] n}->M.get? a=some {cls:=.type "list",data:=.seq #[] n}:=λa n g=>N a _ (λq=>by rw[q,J.1]at g;exact nomatch congrArg Obj.cls<|sI g) (λq=>by clear N qd;clear V;subst q;refine J.elim λξ ζ0=>ζ0.elim λξ ζ1=>ζ1.elim λX ζ2=>ζ2.elim λn' ζ3=>ζ3.elim λg' ξ=>?_;rw[g']at g;exact nomatch congrArg Obj.data<|sI g) g;haveI ea:dl++[(x,t)]++l'=dl++(x,t)::l':=Qd ..;refine ih l' (dl++[(x,t)]) (done++[(x,v)]) (some d') {s with heap:=M,toks:=tk} Q hbr (Rl ea.symm nd) (by refine Rr Qa ?_;exact af (au _ _) (.a (.v 0)<|.p 1 1) (.n 1000) (.a (.p 0 1)<|.v 1) (.n 1000) O rfl) (λp hp=>hS p<|.tail _ hp) D' (aL.app (F.mono λG G q=>⟨q.1,q.2.mv λa n g=>nl a n<|f _ _ g⟩)<|.cons ⟨rfl,hv.mv nl⟩ .nil) ob (λd q=>by haveI q:=sI q;subst q;exact dL) (Y λo g=>N _ o hLe (λq=>(V _ q).2 rfl) g)<|Rl ea.symm H
end
end
section
open PySem PySem.Calls PySem.W Builtin.ObjectAttr
structure pZ(fn:Fn)(sf:Str)(ps:List Str)(l:List<|Str×dm):Prop where
 par:fn.params=sf::ps
 sets:j9 sf ps fn.body=some l
 ok:gI fn.scope=true
 loc:fn.params.all (λx=>j7<|bt fn.scope.names x)=true
 nd:jn (l.map λξ=>ξ.1)=true
 len:Nat.ble l.length 100=true
section
variable{G:cB}{A:Around}{E:Value->Shared->Prop}{e C fI:Addr}{dat:Data}{z:Bool}{od:Option Addr}{b₀:Heap}{fn:Fn}{self:Str}{ps:List Str}{l:List<|Str×dm}{vs:List Value}{s:Shared}
theorem FY:∀{vs:List Value}{i:Nat},vs.length=ps.length->kU ps x=some i->∃v,aa vs i=some v/\(x,v)∈ps.zip vs:=by induction ps with|nil=>exactλc=>by intros;contradiction|cons p ps f=>
  intro vs i hl h;rcases vs with _|⟨v,vs⟩;·injection hl
  ·haveI h:(bif sF p x then some 0 else(kU ps x).map λc=>c+1)=some i:=h;cases b:sF p x with|true=>rw[b]at h;haveI h:=sI h;subst h;refine Rr (cI.mp b) ?_;exact⟨v,rfl,.head _⟩|false=>rw[b]at h;obtain⟨j,d,rfl⟩:=P6 h;obtain⟨u,k,g⟩:=f (Nat.succ.inj hl) d;exact⟨u,k,.tail _ g⟩
theorem vS(T:iR G)(hfn:TP.fn fI=some fn)(V:pZ fn self ps l)(hd:A.depth<recursionLimit)(m:G.h₀.StaysIn b₀)(kp:∀b o,b₀.get? b=some o->s.heap.get? b=some o)(hl:vs.length=ps.length)(heb:b₀.get? e=none)(hS:∀p∈l,pj G.prog G.w G.K e C dat z p.1)(D:SD s.heap e C dat z od [])(F:∀d,od=some d->b₀.get? d=none)(H:∀M k tk done,SD M e C dat z k done->FR b₀ M vs done l->(∀b o,b₀.get? b=some o->M.get? b=some o)->(∀d,k=some d->b₀.get? d=none)->Q .none {s with heap:=M,toks:=tk}):codeAny (model G.prog G.w) A (.call (.ref fI) ⟨.ref e::vs,[]⟩) (wants Q E) s:=by
  obtain⟨o,fd,ho,N,J,f,hgl,hbi,O,t,u,hnd,hkd⟩:=T.fn fI fn hfn;have hb:∀b o,G.h₀.get? b=some o->s.heap.get? b=some o:=λb o e=>kp _ _<|m _ _ e;have Y:(Value.ref e::vs).length=fn.params.length:=by refine Rr V.par ?_;exact congrArg (λξ=>ξ+1) hl
  have W:=List.map_fst_zip<|Qn Y.symm;obtain⟨dbg,_,f1,f2,f3⟩:=lB V.ok;have B:∀{x v},(x,v)∈fn.params.zip (.ref e::vs)->fn.scope.names.lookup x=some .local/\(x=="__debug__")=false:=λhx=>by haveI q:=lh<|di V.loc<|Rl W<|List.mem_map_of_mem hx;exact⟨(gE ..).symm.trans q,iC V.ok q⟩
  refine codeAny_call_cells hd (hb _ _ ho) N (G.nolim.keeps hb) ?_ J (u _ Y) O (λx hx=>.inl<|Rr f (B hx).1) (λs₁ x=>?_) (by refine Rr f ?_;exact f3) (by refine Rr f ?_;exact f2) (by refine Rr f ?_;exact f1);·obtain⟨c1,o1,vs1,t1,e1,e2,r⟩:=t;exact⟨c1,o1,vs1,t1,e1,hb _ _ e2,r⟩
  obtain⟨h1,tk,rfl⟩:=x.toInCall.same;have k1:=x.toInCall.keep;generalize hL:s.heap.objs.size=L at*;have P:=hL▸cC s.heap;haveI kof:=λy=>congrArg (λsc:Scope=>sc.names.lookup y) f;have U:∀{y v},(y,v)∈fn.params.zip (.ref e::vs)->PySem.bindL (callEnvC fd L fI).kindOf (fn.params.zip<|.ref e::vs) (λξ=>none) y=some v/\(callEnvC fd L fI).kindOf y=some .local/\(y=="__debug__")=false:=λ{y v}X=>haveI q:=(kof y).trans (B X).1
    ⟨(qQ _ _ (Rl W.symm hnd) X).1 q,q,(B X).2⟩;refine(U<|by refine Rr V.par ?_;exact .head _).elim λb1 ζ0=>ζ0.elim λb2 b3=>?_;haveI hle:L≠e:=λq=>by haveI:=D.1;rw[<-q,P]at this;injection this
  refine EC (dl:=[]) (done:=[]) (od:=od) (λa o h=>m _ _<|G.inK a o h) (by show fd.scope.kind=_;refine Rr f ?_;exact f1) (λy i X=>?_) b1 b2 b3 heb hle fn.body l _ _ V.sets (qp V.nd) (by haveI:=bL V.len;exact af (ai _) (.v 0) (.n 100) (.a (.n 0)<|.v 0) (.n 1000) this rfl) hS ⟨k1 _ _ D.1,?_⟩ .nil (λb o g=>k1 _ _<|kp b o g) (λd q=>⟨F d q,λq'=>?_⟩) x.toInCall.ns λM k tk' done D' F' kp' fd'=>H M k tk' done D' F' kp' fd';·obtain⟨v,v1,v2⟩:=FY hl X;exact⟨v,v1,U<|by refine Rr V.par ?_;exact .tail _ v2⟩
  · haveI Z:=D.2;clear F;rcases od with _|d;·exact Z
    ·refine Z.elim λd1 ζ0=>ζ0.elim λes ζ1=>ζ1.elim λn ζ2=>ζ2.elim λd2 d3=>?_;exact⟨d1,es,n,k1 _ _ d2,d3⟩
  ·haveI Z:=D.2;clear F;subst q;obtain⟨d1,es,n,d2,d3⟩:=Z;rw[show d=L from q',P]at d2;injection d2
end
section
variable{prog:Program}{w:World}{A:Around}{E:Value->Shared->Prop}{h:Heap}{g:Array GenState}{d:Drawn}{t:Nat}{os:OsState}{K:Frag}
variable{nm q:Str}{C N:Addr}{bs bm:List Value}{hdct:Bool}{sn:List Str}{sub:List Value}{ab:Bool}{col:Option Bool}{dd:Option Addr}{k0 k1 k2 k3 k5:Option Value}
theorem qB(e:bm.contains (.type T)=b)(a:v=.ref C):(v::bm).contains (.type T)=b:=by subst a;rw[List.contains_cons,e];rfl
theorem De(f:fC bm=true)(hC:h.get? C=some (excClassObj nm q C N bs bm hdct sn sub ab col dd k0 k1 k2 k3 k5 "Exception.__new__"))(i:Q () ⟨h,g,d,t,os⟩):wpAny M A (checkBuiltinCall "Exception.__new__" ⟨.ref C::b,[]⟩) Q E ⟨h,g,d,t,os⟩:=wpAny_check_new_subU PySem.F.excBase_Exception (qn f).2.1 .base hC i
theorem Nj{R:Result->Shared->Prop}(u:fC bm=true)(hC:h.get? C=some (excClassObj nm q C N bs bm hdct sn sub ab col dd k0 k1 k2 k3 k5 "Exception.__new__"))(l:R (.ok<|.ret<|.ref<|h.objs.size+1) ⟨(h.push {cls:=.type "tuple",data:=.seq a.toArray}).push {cls:=.ref C,data:=.fields #[.ref h.objs.size,.none,.none,.none,.bool false,.none]},g,d,t,os⟩)(f:a.length<=sizeLine):codeAny (model prog w) A (.builtin "Exception.__new__" ⟨.ref C::a,[]⟩) R ⟨h,g,d,t,os⟩:=by
 have F:=PySem.F.excBase_Exception;have c:=F.ends;obtain⟨_,o,m,s⟩:=qn u;have e1:=qB (C:=C) o rfl;have r:=qB (C:=C) m rfl;have n:=qB (C:=C) s rfl;refine codeAny_builtinAt F.entry ?_;refine wpAt_bind ?_;refine wpAt_bind<|wpAt_stack λp b=>wpAt_of_wpAny ?_;wp_walk;refine wpAt_of_wpAny ?_;rw[F.owner];repeat(first|with_reducible refine wpAny_madeHere_exc F.canon hC ?_|with_reducible refine wpAny_loadPart_at hC ?_|(with_reducible refine wpAny_isSubtype_exc hC ?_;first|rw[e1]|rw[r]|rw[n])|wp_step)
 show R _ _;rw[Heap.size_push];exact l
theorem Ph(z:fC bm=true)(H:K.In h)(D:findIn K (.ref C) "__init__"=some (some<|.ref v))(I:typeIn K (.ref v)=some (.type "function"))(hC:h.get? C=some (excClassObj nm q C N bs bm hdct sn sub ab col dd k0 k1 k2 k3 k5 "Exception.__new__"))(B:∀u e,Heap.MadeExcOf h u e (.ref C) c->wpAny (model prog w) A (call (.ref v)<|.ref e::c) (λr y=>r=.none/\Q (.done<|.ret<|.ref e) y) E ⟨u,g,d,t,os⟩)(k:c.length<=sizeLine):wpAny (model prog w) A (Builtin.«type.__call__» ⟨.ref C::c,[]⟩) Q E ⟨h,g,d,t,os⟩:=by
 have F:=PySem.F.excBase_Exception;repeat(first|with_reducible refine wpAny_loadPart_at hC ?_|with_reducible refine wpAny_madeBy_exc hC ?_|wp_step)
 refine codeAny_call_builtin_code (Code.quiet_builtin _ F.quiet)<|De z hC ?_;refine Nj z hC ?_ k;have s:∀b o,h.get? b=some o->((h.push {cls:=.type "tuple",data:=.seq c.toArray}).push {cls:=.ref C,data:=.fields #[.ref h.objs.size,.none,.none,.none,.bool false,.none]}).get? b=some o:=λb o e=>Qp _<|Qp _ e;have l:=s _ _ hC;have X:K.In<|(h.push {cls:=.type "tuple",data:=.seq c.toArray}).push {cls:=.ref C,data:=.fields #[.ref h.objs.size,.none,.none,.none,.bool false,.none]}:=λa o e=>s _ _<|H a o e;have j:((h.push {cls:=.type "tuple",data:=.seq c.toArray}).push {cls:=.ref C,data:=.fields #[.ref h.objs.size,.none,.none,.none,.bool false,.none]}).get? (h.objs.size+1)=some {cls:=.ref C,data:=.fields #[.ref h.objs.size,.none,.none,.none,.bool false,.none]}:=by heap_get
 have n:(Value.ref C::bm).contains (.ref C)=true:=by simp
 repeat(first|with_reducible refine wpAny_loadPart_at j ?_|(with_reducible refine wpAny_isSubtype_exc l ?_;rw[n])|wp_step)
 refine(looks_findIn X D).at ?_;refine wpAny_holding<|wpAny_bind ?_;unfold bindSpecial;refine wpAny_bind<|(looks_typeIn X I).at ?_;rw[if_pos<|by decide];refine wpAny_pure<|wpAny_bind<|wpAny_mono (B _ (h.objs.size+1) ⟨s,Heap.get?_none_of_le<|Qk _,h.objs.size,j,Heap.get?_none_of_le<|Qg _,?_⟩) (λr y J=>?_) λL L x=>x;·exact Qp _<|Heap.get?_push_at rfl rfl
 ·obtain⟨rfl,G⟩:=J;wp_walk;exact G
theorem Kh(u:fC bm=true)(s:K.In h)(l:findIn K (.ref C) "__init__"=some (some<|.ref k))(p:typeIn K (.ref k)=some (.type "function"))(hC:h.get? C=some (excClassObj nm q C N bs bm hdct sn sub ab col dd k0 k1 k2 k3 k5 "Exception.__new__"))(n:∀f e,Heap.MadeExcOf h f e (.ref C) a->wpAny (model prog w) (A.under<|.builtin "type.__call__" ⟨.ref C::a,[]⟩) (call (.ref k)<|.ref e::a) (λr o=>r=.none/\Q (.ref e) o) E ⟨f,g,d,t,os⟩)(c:a.length<=sizeLine):codeAny (model prog w) A (.call (.ref C) ⟨a,[]⟩) (wants Q E) ⟨h,g,d,t,os⟩:=by
 have v:=tc_lookup;have y:=tc_bind<|.ref C;have x:(⟨h,g,d,t,os⟩:Shared).TypeIs (.ref C) "type":=⟨_,hC,rfl⟩;refine codeAny_of_tree ?_;show wpAny _ _ (callAny (.ref C) _) _ _ _;repeat(any_goals(first|assumption|with_reducible refine wpAny_loadPart_at hC ?_|wp_step))
 refine⟨rfl,?_⟩;exact codeAny_call_builtin_at (Code.quiet_builtin _<|by decide+kernel) entry_typeCall<|wpAny_check_type_call_sub hC<|Ph u s l p hC (λf e m=>n f e m) c
end
section
variable{G:cB}{ρ:aB}{σ:AS}{A:Around}{D:Nat}{hd:Bool}{fs:List Env}{E:Value->Shared->Prop}{e a fI:Addr}{dat:Data}{z:Bool}{fn:Fn}{self:Str}{ps:List Str}{l:List<|Str×dm}{args:List AV}{vs:List Value}{s:Shared}{Q:Value->Shared->Prop}
abbrev p3(G:cB)(ρ:aB)(s:Shared)(a:Nat)(args:List AV)(l:List<|Str×dm)(Q:Value->Shared->Prop):Prop:=∀h' tk b d ns,(∀c o,s.heap.get? c=some o->h'.get? c=some o)->s.heap.get? b=none->s.heap.get? d=none->d≠b->zY h' b d a ns->(∀ρ',aY ρ s.heap ρ' h'->(∀c,bA ρ' c->bA ρ c\/bX c (b,d))->∀x,RO ρ' h' (ns.lookup x)<|aP sF (gH args l) x)->ns.length=(gH args l).length->Q (.ref b) {s with heap:=h',toks:=tk}
theorem FR.ro(Z:St G ρ σ s)(J:aU ρ s.heap vs args)(F:FR s.heap y vs I l)(g:aY ρ s.heap h y)(k:∀c,bA h c->bA ρ c\/bX c (b,d))(N:∀t n,y.get? t=some {cls:=.type "list",data:=.seq #[] n}->¬bX t (b,d))(x:Str):RO h y (I.lookup x)<|aP sF (gH args l) x:=by induction F with|nil=>exact⟨rfl,by intros;contradiction⟩|@cons p q I l r _ M=>obtain⟨H,L⟩:=r;refine Rr List.lookup_cons ?_;refine(?_:RO h y _<|bif sF q.1 x then some _ else aP sF (gH args l) x);cases B:sF q.1 x with|false=>refine Rr (beq_eq_false_iff_ne.mpr λz=>by rw[H]at z;rw[z,jf]at B;injection B) ?_;exact M|true=>refine Rr (beq_iff_eq.mpr<|by rw[H];exact(cI.mp B).symm) ?_;clear H;obtain⟨n,u⟩:=p;clear B;obtain⟨m,t⟩:=q;refine⟨rfl,λw c e1 C=>?_⟩;injection e1 with e1;subst e1;injection C with C;subst C;cases L with
   |@arg i v e=>
    haveI O:∃c,aa args i=some c:=by cases q:aa args i with|some c=>exact⟨c,rfl⟩|none=>rw[gz]at q e;haveI:=List.getElem?_eq_none_iff.mp q;haveI:=(List.getElem?_eq_some_iff.mp e).1;rw[J.len]at this;lia
    refine O.elim λc K=>?_;refine(?_:RV h y u<|(aa args i).getD .none);refine Rr K ?_;exact(J.at_ e K).mv g|int i t=>exact .int _ _|none=>exact .none|@list t n f o=>exact .fl_ ⟨n,o⟩ (λq=>(k t q).elim (Z.freshOwn f)<|N t n o) .nil
theorem FR.len(F:FR b d vs c l):c.length=(gH args l).length:=(aL.len F).trans (Qb ..).symm
theorem yb(Z:St G ρ σ s)(B:aU ρ s.heap vs args)(u:l.isEmpty=false\/z=false)(L:s.heap.get? e=none)(I:z=false/\dat=.plain/\TP.exc a=false\/TP.exc a=true/\∃r,dat=.fields #[r,.none,.none,.none,.bool false,.none])(H:p3 G ρ s a args l Q):∀i f m done,SD i e a dat z f done->FR s.heap i vs done l->(∀b o,s.heap.get? b=some o->i.get? b=some o)->(∀d,f=some d->s.heap.get? d=none)->Q (.ref e) {s with heap:=i,toks:=m}:=by
  intro i f m done D F C T;obtain⟨p,D⟩:=D;rcases f with _|d;·
    obtain⟨U,rfl⟩:=D;rcases u with q|q;·cases F;injection q
    ·rw[U]at q;injection q
  · refine D.elim λw ζ0=>ζ0.elim λK ζ1=>ζ1.elim λn ζ2=>ζ2.elim λx ζ3=>ζ3.elim λP ζ4=>ζ4.elim λO ζ5=>ζ5.elim λJ N=>?_;refine H i m e d done C L (T d rfl) w ⟨K,n,x,P,O,J,N,?_⟩ (λM g k=>F.ro Z B g k λt n o q=>?_) F.len
    · rcases I with⟨_,rfl,v⟩|⟨v,r,rfl⟩;·exact .inl ⟨v,p⟩
      ·exact .inr ⟨v,r,p⟩
    · rcases q with q|q;·rw[q,p]at o;exact nomatch congrArg Obj.cls<|sI o
      ·rw[q,x]at o;exact nomatch congrArg Obj.data<|sI o
theorem ED(T:iR G)(k:TP.fn fI=some fn)(V:pZ fn self ps l)(hk:makesIn G.K a=true)(W:findIn G.K (.ref a) "__init__"=some (some<|.ref fI))(hf:typeIn G.K (.ref fI)=some (.type "function"))(F:TP.exc a=false)(P:∀p∈l,jt G.K a p.1=true)(Z:Ar G A (D+1) hd fs ρ σ s)(hv:aU ρ s.heap vs args)(hl:vs.length=ps.length)(H:p3 G ρ s a args l Q):codeAny (model G.prog G.w) A (.call (.ref a) ⟨vs,[]⟩) (wants Q E) s:=by
 haveI X:=G.inK.keeps Z.st.base;haveI Y:=makes_of (M:=model G.prog G.w) X hk;haveI o:∀b y,s.heap.get? b=some y->((s.heap.push emptyDict).push<|instObj a s.heap.objs.size).get? b=some y:=λb y e=>cw _ _ _ _<|cw _ _ _ _ e;haveI i:=Z.room;haveI fe:=yb Z.st hv (.inr rfl) (Heap.get?_none_of_le<|Qk _) (.inl ⟨rfl,rfl,F⟩) H;haveI h:=Z.st.base;obtain⟨C,g,d,t,os⟩:=s;refine make_core Y (looks_findIn X W) (λself=>bind_fn X self hf) (.inl rfl) ?_;refine codeAny_mono (vS (od:=some C.objs.size) (E:=E) (Q:=λv I=>v=.none/\Q (.ref<|C.objs.size+1) I) T k V (show A.depth+1<recursionLimit from af (aH _ _ _) (.a (.a (.a (.v 0)<|.m 2<|.p 1 1)<|.n 1)<|.n 1) (.v 2) (.a (.p 0 1)<|.n 1) (.v 2) i rfl) h o hl (Heap.get?_none_of_le<|Qk _) (λp hp=>Dd<|x6 (P p hp) F) ⟨by heap_get,Nat.ne_of_lt<|Nat.lt_succ_self _,[],0,cw _ _ _ _<|Qq _ rfl,(λe he=>nomatch he),.nil,rfl,λx=>rfl⟩ (λd q=>by haveI q:=sI q;subst q;exact cC _) λU u N done h1 O J L=>⟨rfl,fe U u N done h1 O J L⟩) λr I f=>?_;rcases r with e|fl;·exact f
 ·cases fl with|ret v=>obtain⟨rfl,f⟩:=f;exact⟨rfl,f⟩|_=>exact f.elim
theorem DF(m:makesIn G.K a=true)(p:findIn G.K (.ref a) "__init__"=some (some<|.builtin "object.__init__"))(n:TP.exc a=false)(Z:Ar G A (D+1) hd fs ρ σ s)(H:p3 G ρ s a args [] Q):codeAny (model G.prog G.w) A (.call (.ref a) ⟨[],[]⟩) (wants Q E) s:=by
 haveI X:=G.inK.keeps Z.st.base;haveI Y:=makes_of (M:=model G.prog G.w) X m;haveI fin:=H ((s.heap.push emptyDict).push<|instObj a s.heap.objs.size) s.toks (s.heap.objs.size+1) s.heap.objs.size [] (λb u e=>cw _ _ _ _<|cw _ _ _ _ e) (Heap.get?_none_of_le<|Qk _) (cC _) (Nat.ne_of_lt<|Nat.lt_succ_self _) ⟨[],0,cw _ _ _ _<|Qq _ rfl,(λe r=>nomatch r),.nil,rfl,λi=>rfl,.inl ⟨n,by heap_get⟩⟩ (λi i i x=>⟨rfl,by intros;contradiction⟩) rfl;obtain⟨c,g,d,t,os⟩:=s;refine make_core Y (looks_findIn X p) (λself=>Looks.of_pure<|oi_bind self) (.inr ⟨rfl,rfl⟩) ?_;haveI k:((c.push emptyDict).push<|instObj a c.objs.size).get? (c.objs.size+1)=some (instObj a c.objs.size):=by heap_get
 haveI t1:Looks (model G.prog G.w) ((c.push emptyDict).push<|instObj a c.objs.size) (typeOf<|.ref<|c.objs.size+1)<|.ref a:=(Looks.ld k).andThen .now;haveI q:Looks (model G.prog G.w) ((c.push emptyDict).push<|instObj a c.objs.size) (isInstance (.ref<|c.objs.size+1)<|.type "object") true:=t1.andThen<|Y.top.keeps λb o e=>Qp _<|Qp _ e;refine codeAny_call_builtin oi_plain entry_oi<|@check_slot (model G.prog G.w) _ _ _ "object.__init__" "object" "__init__" (.ref<|c.objs.size+1) [] [] _ oi_kind oi_split q (oi_args<|.ref<|c.objs.size+1) ?_;exact wpAny_pure<|And.intro rfl fin
theorem vT(T:iR G)(x:TP.fn fI=some fn)(V:pZ fn self ps l)(hi:findIn G.K (.ref a) "__init__"=some (some<|.ref fI))(hf:typeIn G.K (.ref fI)=some (.type "function"))(Y:TP.exc a=true)(P:clsIn G.K a=some cd)(u:cd.hasDict=true)(hs:findIn G.K (.ref a) "__setattr__"=some (some<|.builtin "object.__setattr__"))(J:∀p∈l,takerIn G.K a p.1=some none)(k:l.isEmpty=false){sub:List Value}(hb:fC bm=true)(O:fC cd.mro=true)(hC:G.K.lookup a=some (excClassObj nm q a N bs bm F sn sub ab col dd k0 k1 k2 k3 k5 "Exception.__new__"))(Z:Ar G A (D+1) hd fs ρ σ s)(U:aU ρ s.heap vs args)(hl:vs.length=ps.length)(o:vs.length<=1000)(H:p3 G ρ s a args l Q):codeAny (model G.prog G.w) A (.call (.ref a) ⟨vs,[]⟩) (wants Q E) s:=by haveI X:=G.inK.keeps Z.st.base;haveI h:=Z.room;haveI fe:=λe y(C:s.heap.get? e=none)=>yb (z:=true) Z.st U (.inl k) C (.inr ⟨Y,y,rfl⟩) H;haveI i:=Z.st.base;obtain⟨hh,g,d,t,os⟩:=s;refine Kh hb X hi hf (X _ _ hC) (λI e M=>?_) (by exact af (ai _) (.v 0) (.n 1000) (.v 0) (.n 16777216) o rfl);obtain⟨y,C,ht,_⟩:=M.there;exact wpAny_call<|codeAny_mono (vS (od:=none) T x V (show A.depth+1<recursionLimit from af (aH _ _ _) (.a (.a (.a (.v 0)<|.m 2<|.p 1 1)<|.n 1)<|.n 1) (.v 2) (.a (.p 0 1)<|.n 1) (.v 2) h rfl) i M.keeps hl M.new (λp hp=>Ez hs P O (J p hp) u) ⟨C,rfl,rfl⟩ (by intros;contradiction) λI j tk done h1 L h3 W=>⟨rfl,fe e (.ref y) M.new I j tk done h1 L h3 W⟩) λr s' hr=>hr
end
end
section
open PySem PySem.Calls PySem.W
noncomputable def kW:Str:=⟨#[115,101,108,102]⟩
noncomputable def AA:List Value:=[.ref 38,.type "Exception",.type "BaseException",.type "object"]
noncomputable def zw:List Value:=[.type "Exception",.type "BaseException",.type "object"]
noncomputable def p4:Str:=⟨#[76,101,102,116,79,117,116]⟩
noncomputable def pq:Str:=zs23
theorem Ki(P:Params):(KF P).lookup 75=some (excClassObj p4 p4 75 74 [.ref 38] AA true [] [] false none none (some<|.ref 66) none (some<|.str p4 259) (some<|.str p4 267) (some<|.bool true) "Exception.__new__"):=by kernel_rfl
theorem HV(P:Params):(KF P).lookup 349=some (excClassObj pq pq 349 348 [.type "Exception"] zw true [] [] false none none (some<|.ref 333) none (some<|.str pq 849) (some<|.str pq 857) (some<|.bool true) "Exception.__new__"):=by kernel_rfl
noncomputable def p5:List<|Nat×Nat:=[(285,282),(459,456),(389,386),(349,346),(75,35)]
noncomputable def dA(a:Nat):List<|Str×dm:=if a=389 then pR else(d0 iu a).getD []
noncomputable def Pj(l:List Str):Bool:=match l with|x::_=>sF x kW|[]=>false
noncomputable def um(fn:Fn)(l:List<|Str×dm):Bool:=gI fn.scope&&fn.params.all (λx=>j7<|bt fn.scope.names x)&&jn (l.map λξ=>ξ.1)&&Nat.ble l.length 100&&Pj fn.params&&Nat.beq (kL l) fn.params.tail.length
noncomputable def Pk(K:Frag)(p:Nat×Nat):Bool:=og (findIn K (.ref p.1) "__init__") p.2&&mc K p.2&&(TP.fn p.2).any (λfn=>um fn<|dA p.1)&&bif TP.exc p.1 then kj (findIn K (.ref p.1) "__setattr__") "object.__setattr__"&&(dA p.1).all (λx=>ma<|takerIn K p.1 x.1)&&!(dA p.1).isEmpty else makesIn K p.1&&(dA p.1).all λx=>jt K p.1 x.1
theorem HW(P:Params):p5.all (Pk<|KF P)=true:=by kernel_rfl
theorem FZ:p5.map (λp=>(TP.fn p.2).map λb=>j9 kW b.params.tail b.body)=p5.map λp=>some<|some<|dA p.1:=by kernel_rfl
noncomputable def BX:List Nat:=(iu.filter λp=>p.2.isEmpty).map λξ=>ξ.1
theorem HX:(389::iu.map λb=>b.1).all (λc=>p5.any (λp=>Nat.beq p.1 c)||BX.any (Nat.beq c))=true:=by kernel_rfl
theorem Ga(P:Params):BX.all (λc=>makesIn (KF P) c&&kj (findIn (KF P) (.ref c) "__init__") "object.__init__"&&!TP.exc c&&(dA c).isEmpty)=true:=by kernel_rfl
section
variable{G:cB}{P:Params}
theorem HY(h:TP.fz a c=some l):l=dA a/\a∈389::iu.map λg=>g.1:=by
 have h:(if a=389 then if rh (aa c 1)=true then some pR else none else d0 iu a)=some l:=h;unfold dA;by_cases q:a=389;·rw[if_pos q]at h⊢;exact⟨(sI (a6 h).2).symm,Rr q<|.head _⟩
 ·rw[if_neg q]at h⊢;exact⟨by rw[h];rfl,.tail _<|List.mem_map_of_mem (f:=Prod.fst)<|jg h⟩
theorem HZ(w:G.K=KF P):tY G:=by
 intro A D hd fs ρ σ s a O vs l Q E Z B hl I H;have T:=x9 w;obtain⟨rfl,X⟩:=HY hl;rcases Bool.or_eq_true_iff.mp<|di HX X with q|q;·obtain⟨⟨d,N⟩,hp,q⟩:=List.any_eq_true.mp q;clear X hl;obtain rfl:d=a:=Qm q;have t:=rE FZ _ hp;refine(aN<|di (HW P) hp).elim λc o=>?_;refine(aN c).elim λc f=>?_;refine(aN c).elim λc1 c2=>?_;have F:=qA c1;have J:=(m7 c2).2;rw[<-w]at F J;cases g:TP.fn N with|none=>rw[g]at t;injection t|some h=>
  have f:um h (dA d)=true:=by have f:(TP.fn N).any (λh=>um h<|dA d)=true:=f;rw[g]at f;exact f
  have t:j9 kW h.params.tail h.body=some (dA d):=by have t:(TP.fn N).map (λh=>j9 kW h.params.tail h.body)=some (some<|dA d):=t;rw[g]at t;exact sI t
  refine(aN f).elim λf d6=>?_;refine(aN f).elim λf L=>?_;refine(aN f).elim λf U=>?_;refine(aN f).elim λf d3=>?_;refine(aN f).elim λd1 d2=>?_;have V:pZ h kW h.params.tail<|dA d:=⟨by revert L;cases h.params with|nil=>exact nofun|cons x r=>intro L;rw[cI.mp<|show sF x kW=true from L];rfl,t,d1,d2,d3,U⟩;have i:vs.length=h.params.tail.length:=B.len.trans<|I.symm.trans<|Qm d6;have o:(bif TP.exc d then kj (findIn (KF P) (.ref d) "__setattr__") "object.__setattr__"&&(dA d).all (λx=>ma<|takerIn (KF P) d x.1)&&!(dA d).isEmpty else makesIn (KF P) d&&(dA d).all λx=>jt (KF P) d x.1)=true:=o;rw[<-w]at o;cases y:TP.exc d with|false=>rw[y]at o;exact ED T g V (aN o).1 F J y (λp hp=>di (aN o).2 hp) Z B i H|true=>
   rw[y]at o;refine(aN o).elim λo z=>?_;refine(aN o).elim λe1 C=>?_;have z:(dA d).isEmpty=false:=cW z;have W:vs.length<=1000:=by have e:=bL U;have k:kL (dA d)<=(dA d).length:=List.length_filter_le ..;rw[B.len,<-I];exact aO (au _ _) (.v 0) (.v 1) (.v 1) (.n 100) (.v 0) (.n 1000) k e rfl
   have m:=oh y;rcases P7 m with rfl|m;·have hC:=Ki P;exact vT T g V F J y (cd:=_) (by rw[w];unfold clsIn;rw[hC]) rfl (lz e1) (λp hp=>m6<|di C hp) z (bm:=AA) (by decide+kernel) (by decide+kernel) (w▸hC) Z B i W H
   ·obtain rfl:=P9 m;have hC:=HV P;exact vT T g V F J y (cd:=_) (by rw[w];unfold clsIn;rw[hC]) rfl (lz e1) (λp hp=>m6<|di C hp) z (bm:=zw) (by decide+kernel) (by decide+kernel) (w▸hC) Z B i W H
 ·obtain⟨c,Y,q⟩:=List.any_eq_true.mp q;obtain rfl:=Qm q;refine(aN<|di (Ga P) Y).elim λc e4=>?_;obtain⟨c,z⟩:=aN c;obtain⟨e1,C⟩:=aN c;have el:=P8 e4;rw[el]at H I;rw[<-w]at e1 C;cases B with|cons=>injection I|nil=>exact DF e1 (lz C) (cW z) Z H
end
end
section
open PyProof.Rows PySem PySem.Calls PySem.W
def pw:Prop:=∀l:List Int,l.length<=63->∃σ',run TP LL 300 false 1691 [.fl<|l.map .int] [[],[],[],[],[],[],[],[],[],[],[],[],[]]=.ok (.bool true) σ'
theorem DG{R:WRecords}(e:WShape.hasItems R a .int=true):∃l:List Int,a=l.map .int:=by induction a with|nil=>exact⟨[],rfl⟩|cons x r d=>refine(aN e).elim λf c=>?_;clear e;obtain⟨i,rfl⟩:=hasW_int f;obtain⟨l,rfl⟩:=d c;exact⟨i::l,rfl⟩
theorem DH{l:List Int}:∀{vs:List Value},WellAll P h vs (l.map .int)->aU ρ h vs (l.map .int):=by induction l with|nil=>intro vs e;cases e;exact .nil|cons i l c=>intro vs e;cases e with|cons a b=>cases a;exact .cons (.int _ _)<|c b
theorem Gb{R:WRecords}(h:(PySem.Challenge.rw_sj0018_01.pre).holds R {args:=[.list c]}=true):c.length<=63:=by haveI h:=condW_of (X:=!decide (63<(c.length:Int))) (holds_andW h).1 (by kernel_rfl);exact Int.ofNat_le.mp<|Int.not_lt.mp<|of_decide_eq_false<|(Bool.not_eq_true' _).mp h
theorem Ge:gJ.claim.post b (.bool true) b=true:=by
 haveI e1:WShape.has gJ.claim.records (.bool true) .bool=true:=by kernel_rfl
 haveI d:WTm.holds gJ.claim.records (.eq .res<|.lit<|.bool true) {args:=b,res:=some<|.bool true,after:=b}=true:=by kernel_rfl
 exact Bool.and_eq_true_iff.mpr ⟨e1,d⟩
theorem law_walk(LT:pw)(d:DefRec)(O:d.name=fK)(P:List<|Str×Expr):WalkO qW cJ (XL qW []) H_.says gJ d P λf vs=>PySem.call f vs:=by
 intro w V c mg mb D Y a o pm cd doc dV kV ho hdat M hdf C hg W vals as m y J I hlo;haveI hI:=kIn_of Y;have B:=vQ hI;haveI ha:a=1691:=by have e:=D.T.g.eq_nsMap;rw[e,O,m4 B]at C;cases C;rfl
 subst ha;obtain⟨X,hp⟩:=pre_splitW m;clear m y J;obtain⟨dd,r,rfl,s,z⟩:=hasAllW_cons X;clear X;obtain rfl:=hasAllW_nil z;obtain⟨xs,rfl,h3⟩:=hasW_list s;obtain⟨l,rfl⟩:=DG h3;haveI j:=Gb hp;cases I with|cons H hn=>cases hn;cases H with|@list p vs _ N hw=>
 let G:cB:=⟨gJ.prog,w,c.heap,KF w.params,mg,mb,c.os,hI,D.T.nolimit,D.T.g,D.T.b,⟨_,B.h1⟩⟩;haveI Q:=Mj.Internal.ry (G:=G) (x9 rfl) (HZ rfl) 300;refine(LT l<|by rw[Qb]at j;exact j).elim λσ' hr=>?_;haveI x:∀r i o,gt [[],[],[],[],[],[],[],[],[],[],[],[],[]] r i≠some o:=λr i o e=>by
  refine(P5 e).elim λL ζ0=>ζ0.elim λs z=>?_;rw[gz]at s z;haveI s:=List.mem_of_getElem? s;haveI:=by simpa using s
  rw[this]at z;injection z
 haveI Z:St G gf [[],[],[],[],[],[],[],[],[],[],[],[],[]] c:=⟨λp t e=>e.elim,λr i o e=>(x r i o e).elim,λb p t q u e=>e.elim,λp q r i e=>e.elim,λA A e=>e,λb⟨_,_,e,_⟩=>e.elim,hg,rfl⟩;haveI hA:Ar G callerA 300 false [] gf [[],[],[],[],[],[],[],[],[],[],[],[],[]] c:=⟨rfl,bL rfl,bL rfl,λA=>rfl,(λe he=>nomatch he),Z,Qg _⟩;refine wpAny_call<|Q callerA false [] gf _ c 1691 [.fl<|l.map .int] [.ref p] _ _ hA (.cons (.fl_ ⟨_,N⟩ (λ⟨_,_,e,_⟩=>e.elim)<|DH hw) .nil) ?_;refine Rr hr ?_;intro ρ' s' v H F K';obtain rfl:=H.inv;exact⟨.inl ⟨.bool true,.bool true,[],rfl,λA=>rfl,.bool true,Ge,λA=>⟨.nil,λA h=>nomatch h⟩⟩,.of_keep F.base,F.os,.of_eq F.gens⟩
end
section
open PySem
section
structure Fx where(c0 c1 c2 c3 c4 c5 c6 c7 c12 c16 c17 c24 c32 c37 c38 c39:AO)(dn nv:Nat)no:Nat->Int(vs gu:List AV)(ac ca cu sk fr it im hl:List AO)
structure Md where(li ce:List AO)ow:List<|Nat×Int
structure Me where
 g:Int->Int
 sn:Nat
 th:List AV
noncomputable def tf(st ne:Int)(dn sn:Nat):AO:=.inst 704 [(⟨#[117,110,105,116]⟩,.ref 0 9),(⟨#[115,116,111,114,101]⟩,.ref 0 1),(⟨#[107,116]⟩,.ref 0 2),(⟨#[116,104,105,110,103,115]⟩,.ref 0 19),(⟨#[115,116,101,112,115]⟩,.int st),(⟨#[109,111,115,116]⟩,.int 30000),(⟨#[100,101,112,116,104]⟩,.int dn),(⟨#[110,101,115,116,101,100]⟩,.int ne),(zs41,.ref 0 20),(⟨#[115,101,114,105,97,108]⟩,.int sn),(⟨#[116,101,120,116,115]⟩,.ref 0 21),(⟨#[107,105,110]⟩,.ref 0 22),(⟨#[99,97,108,108,115]⟩,.ref 0 24),(⟨#[101,120,112,114,115]⟩,.ref 0 34),(⟨#[112,108,97,99,101,115]⟩,.ref 0 26),(⟨#[116,97,114,103,101,116,115]⟩,.ref 0 35),(⟨#[115,116,109,116,115]⟩,.ref 0 33),(⟨#[99,111,114,101]⟩,.ref 0 29),(⟨#[115,116,97,114,116,115]⟩,.ref 0 30),(⟨#[99,117,116,115]⟩,.ref 0 36),(⟨#[99,117,116,95,98,111,100,105,101,115]⟩,.ref 0 32),(⟨#[115,112,108,105,116,115]⟩,.fi 578 []),(⟨#[98,101,103,105,110,115]⟩,.fi 599 []),(⟨#[98,108,111,99,107,115]⟩,.none)]
noncomputable def ju:AO:=.inst 327 [(⟨#[115,116,111,114,101]⟩,.ref 0 1),(⟨#[97,115,109]⟩,.int 0),(⟨#[102,110,115]⟩,.fl [.none]),(⟨#[118,97,114,115]⟩,.ref 0 10),(⟨#[111,102,95,109,105,100]⟩,.ref 0 11),(⟨#[100,105,97,103,115]⟩,.ref 0 12),(⟨#[105,110,105,116,115]⟩,.ref 0 13),(⟨#[115,105,110,105,116,115]⟩,.ref 0 14),(⟨#[99,111,110,115,116,115]⟩,.ref 0 15)]
noncomputable def rl(n:Nat):AV:=.fi n []
noncomputable def uo:AO:=.idict [(1,rl 872),(3,rl 891),(4,rl 910),(5,rl 943),(10,rl 969),(11,rl 988),(13,rl 1026),(14,rl 1073),(17,rl 1007)]
noncomputable def uq:AO:=.idict [(90,rl 1407),(2,rl 1466),(22,rl 1532),(29,rl 1426),(99,rl 1026)]
noncomputable def ur:AO:=.idict [(2,rl 1499)]
noncomputable def uu:AO:=.idict [(3,rl 1169),(4,rl 1195),(5,rl 1214),(14,rl 1233),(16,rl 1252)]
noncomputable def fO(k c:Int):AO:=.inst 389 [(zs9,.int k),(zs18,.int c),(zs31,.fl [.int 0]),(zs32,.none),(zs7,.fl []),(zs33,.int 0),(zs34,.none)]
noncomputable def uv(F:Fx)(e:Me)(m:Md)(st ne:Int):AS:=[[F.c0,F.c1,F.c2,F.c3,F.c4,F.c5,F.c6,F.c7,.edict,ju,.list F.vs,.edict,F.c12,.edict,.edict,.edict,F.c16,F.c17,tf st ne F.dn e.sn,.list<|.none::.ref 9 0::.ref 9 1::.ref 9 2::e.th,.list F.gu,.edict,.tdict [([.inl 17,.inl 16],.int 1)],.edict,F.c24,.edict,.edict,.edict,.edict,.edict,.edict,.edict,F.c32,uo,uq,ur,uu,F.c37,F.c38,F.c39],F.ac,m.li,F.ca,m.ce,F.cu,F.sk,F.fr,F.it,fO 1 16::fO 2 16::fO 3 17::F.im,[],F.hl,[]]
noncomputable def sg(F:Fx)(e:Me)(m:Md)(f n:Nat):AS:=uv F e m (30000-(f:Int))<|870-(n:Int)
noncomputable abbrev rn(D:Nat):f7:=run TP LL D
noncomputable abbrev E:AV:=.ref 0 18
theorem ak(h:(code TP LL c f a d).ev (rn D)=.go (.ret v) [] b)(p:TP.kd f=0:=by kernel_rfl):rn (D+1) c f a d=.ok v b:=by show(match TP.kd f with|0=>_|1=>_|_=>_)=_;refine Rr p ?_;refine Rr h ?_;rfl
theorem gP(h:(code TP LL c f a d).ev (rn D)=.ex v [] b)(p:TP.kd f=0:=by kernel_rfl):rn (D+1) c f a d=.ex v b:=by show(match TP.kd f with|0=>_|1=>_|_=>_)=_;refine Rr p ?_;refine Rr h ?_;rfl
theorem ae:S.go f l a≠.stuck:=λh=>nomatch h
theorem et:S.ex f l a≠.stuck:=λh=>nomatch h
theorem AB{τ:Int->AS}(e:x=y)(h:(code TP LL d f a g).ev (rn D)=.go (.ret v) [] (τ x))(c:τ y=b:=by kernel_rfl)(p:TP.kd f=0:=by kernel_rfl):rn (D+1) d f a g=.ok v b:=ak (Rr h<|Rr e<|Rr c rfl) p
theorem i8(D f:Nat)(a:List AV)(v:AV)(b:AS)(h:jK TP f a b=.ok v b:=by kernel_rfl)(p:TP.kd f=2:=by kernel_rfl):rn (D+1) false f a b=.ok v b:=by show(match TP.kd f with|0=>_|1=>_|_=>_)=_;refine Rr p ?_;exact h
variable(F:Fx)(e:Me)(m:Md)(f n:Nat){D:Nat}
theorem AD:30000-((f+1:Nat):Int)+1=30000-f:=by lia
theorem cT:rn (D+1) false 715 [E] (sg F e m (f+1) n)=.ok .none (sg F e m f n):=AB (τ:=λx=>uv F e m x<|870-n) (AD f)<|eE 5 (b:=decide<|30000<30000-((f+1:Nat):Int)+1) (a:=false) (by rw[AD];exact decide_eq_false<|by lia)<|az 0 ae
theorem AE(k:Nat):870-((n+k:Nat):Int)+k=870-n:=by lia
theorem bR(k:Nat):rn (D+1) false 722 [E,.int k] (sg F e m f<|n+k)=.ok (.int<|870-(n+k:Nat)) (sg F e m f n):=AB (τ:=λx=>uv F e m (30000-f) x) (AE n k)<|eE 2 (b:=decide<|870<870-((n+k:Nat):Int)+k) (a:=false) (by rw[AE];exact decide_eq_false<|by lia)<|az 2 ae
theorem AF(b v:AV):rn (D+2) false 736 [E,b,.tup [.int 90,.int 7,v]] (sg F e m (f+1)<|n+2)=.ok v (sg F e m f<|n+2):=ak<|ah (.C 0 (cT F e m f<|n+2)<|.C 0 (bR F e m f n 2)<|.C 5 (show rn (D+1) false 1404 [rl 1407,E,b,.tup [.int 90,.int 7,v]] (sg F e m f n)=.ok v (sg F e m f n)from ak<|az 1 ae) .nil) 1 ae
noncomputable def aZ(k:Int)(a:Nat):AO:=.inst 438 [(zs9,.int k),(⟨#[102,110]⟩,.ref 0 17),(zs40,.ref 2 a),(⟨#[116,104,105,115]⟩,.int 0),(⟨#[116,97,114,103,115]⟩,.tup []),(⟨#[109,97,114,103,115]⟩,.tup []),(⟨#[99,97,117,103,104,116]⟩,.ref 3 a),(⟨#[104,111,108,101,115]⟩,.fl []),(⟨#[104,101,108,100]⟩,.ref 11 a),(⟨#[101,110,116,101,114,101,100]⟩,.int 0)]
noncomputable def hJ(l:Int):AV:=.fi 285 [(⟨#[108,105,100]⟩,.int l),(⟨#[110,97,109,101]⟩,.str ⟨#[]⟩),(zs18,.int 7),(⟨#[102,108,97,103,115]⟩,.int 0),(⟨#[111,119,110,101,114]⟩,.int 1),(⟨#[97,114,103]⟩,.int<|-1),(⟨#[98,108,111,99,107]⟩,.int 0)]
structure cM(a:Nat):Prop where
 ac:aa F.ac a=some (aZ (F.no a) a)vs:∀l:Nat,0<l->l<F.nv->bG F.vs l=some (hJ l)
abbrev Lb:=List<|Int×AV
structure i9(a f:Nat)(L:Lb):Prop where
 li:aa m.li a=some (.idict L)sz:L.length+f<=200000
 no:∀l,aP iF L l=none->e.g l=0
 ce:∀l v,aP iF L l=some v->∃i,v=.ref 4 i/\aa m.ce i=some (.list [.int<|e.g l])/\aa m.ow i=some (a,l)
structure En(a f:Nat):Prop where
 L:∃L,i9 e m a f L
 ol:m.ow.length=m.ce.length
 th:e.th.length+f<=200000
variable{F e m f n}
theorem br{k:Nat}(h:l.length+k<=300000):aE l=true:=by refine Rr Nat.blt_eq ?_;exact af (au _ _) (.a (.v 0)<|.v 1) (.n 300000) (.p 0 1) (.n 16000000) h rfl
theorem m8(L:Lb)(l:Int)(v:AV)(x:Int):aP iF (bj iF L l v) x=if l=x then some v else aP iF L x:=by
 by_cases h:l=x;·rw[if_pos h];exact(fA ku L l v).1 h.symm
 ·rw[if_neg h];exact(fA ku L l v).2<|Ne.symm h
theorem EE(b:c->c->Bool)(l:List<|c×AV)(x:c)(v:AV):(bj b l x v).length<=l.length+1:=by induction l with|nil=>exact Qg _|cons p r d=>refine(?_:(bif b p.1 x then(p.1,v)::r else p::bj b r x v).length<=_);cases b p.1 x<;>simp only[List.length_cons]<;>first|exact aK (ai _) (.p 0 1) (.a (.p 0 1)<|.n 1) rfl|exact af (au _ _) (.v 0) (.p 1 1) (.p 0 1) (.a (.p 1 1)<|.n 1) d rfl
structure Kp(a:Nat)(m m':Md):Prop where
 li:∀b,b≠a->aa m'.li b=aa m.li b
 ow:∀i p,aa m.ow i=some p->aa m'.ow i=some p
 ce:∀i p,aa m.ow i=some p->p.1≠a->aa m'.ce i=aa m.ce i
theorem Kp.rfl:Kp a m m:=⟨λb b=>Eq.refl _,λb b h=>h,λb b b b=>Eq.refl _⟩
theorem Kp.trans(h:Kp a m g)(k:Kp a g d):Kp a m d:=⟨λb c=>(k.li b c).trans<|h.li b c,λi p q=>k.ow i p<|h.ow i p q,λi p q hp=>(k.ce i p (h.ow i p q) hp).trans<|h.ce i p q hp⟩
theorem En.dec(h:En e m a<|f+1):En e m a f:=by obtain⟨⟨L,b⟩,c,d⟩:=h;exact⟨⟨L,b.li,Qh (Qk _) b.sz,b.no,b.ce⟩,c,Qh (Qk _) d⟩
noncomputable def Md.cnew(m:Md)(a:Nat)(L:Lb)(l:Int)(v:AV):Md:=⟨aD (λξ=>.idict<|bj iF L l<|.ref 4 m.ce.length) m.li a,m.ce++[.list [v]],m.ow++[(a,l)]⟩
noncomputable def Md.cset(m:Md)(i:Nat)(y:AV):Md:=⟨m.li,aD (λξ=>AO.list [y]) m.ce i,m.ow⟩
noncomputable def eO(g:Int->Int)(l x:Int):Int->Int:=λy=>if l=y then x else g y
noncomputable def Me.s(e:Me)(l x:Int):Me:=⟨eO e.g l x,e.sn,e.th⟩
theorem En.new{L:Lb}(h:En e m a<|f+1)(j:i9 e m a (f+1) L)(l x:Int):En (e.s l x) (m.cnew a L l<|.int x) a f/\Kp a m (m.cnew a L l<|.int x):=by
  refine⟨⟨⟨bj iF L l<|.ref 4 m.ce.length,?_,?_,λy c=>?_,λy v c=>?_⟩,?_,Qh (Qk _) h.th⟩,λb k=>?_,λi p q=>cH _ q,λi p q hp=>?_⟩;·show aa (aD _ _ _) _=_;rw[bT,if_pos rfl,j.li];rfl
  ·haveI:=EE iF L l<|.ref 4 m.ce.length;haveI:=j.sz;lia
  · rw[m8]at c;refine(?_:(if l=y then x else e.g y)=0);by_cases q:l=y;·rw[if_pos q]at c;exact sN c
    ·rw[if_neg q]at c⊢;exact j.no y c
  · rw[m8]at c;refine(?_:∃i,v=.ref 4 i/\aa (m.ce++_) i=some (.list [.int<|if l=y then x else e.g y])/\aa (m.ow++_) i=some (a,y));by_cases q:l=y;·rw[if_pos q]at c⊢;haveI c:=sI c;subst c;subst q;exact⟨_,rfl,bM _ _,Rl h.ol<|bM _ _⟩
    ·rw[if_neg q]at c;refine Rr (if_neg q) ?_;obtain⟨i,r,t,o⟩:=j.ce y v c;exact⟨i,r,cH _ t,cH _ o⟩
  ·refine Rr Qa<|Rr Qa<|Rr h.ol ?_;rfl
  ·refine(?_:aa (aD _ _ _) _=_);rw[bT,if_neg<|Ne.symm k]
  ·exact jl _ _ _<|Rl h.ol<|dD q
theorem En.set{L:Lb}(h:En e m a f)(r:i9 e m a f L)(hl:aP iF L l=some (.ref 4 i))(z:aa m.ow i=some (a,l))(B:aa m.ce i=some o)(x:Int):En (e.s l x) (m.cset i<|.int x) a f/\Kp a m (m.cset i<|.int x):=by
  refine⟨⟨⟨L,r.li,r.sz,λy d=>?_,λy v d=>?_⟩,?_,h.th⟩,λb A=>rfl,λi p q=>q,λj p q hp=>?_⟩
  · refine(?_:(if l=y then x else e.g y)=0);by_cases q:l=y;·rw[<-q,hl]at d;exact sN d
    ·rw[if_neg q];exact r.no y d
  · obtain⟨j,t,u,k⟩:=r.ce y v d;refine⟨j,t,?_,k⟩;show aa (aD _ _ _) j=some (AO.list [.int<|if l=y then x else e.g y]);rw[bT];by_cases q:l=y
    ·clear k;subst q;rw[t]at d;rw[hl]at d;cases d;refine Rr (if_pos rfl)<|Rr (if_pos rfl)<|Rr u ?_;rfl
    ·rw[if_neg q,if_neg,u];intro w;clear t u;subst w;rw[z]at k;cases k;exact q rfl
  ·show m.ow.length=(aD _ _ _).length;rw[gA,h.ol]
  ·refine(?_:aa (aD _ _ _) j=_);rw[bT,if_neg];intro w;subst w;rw[z]at q;haveI q:=sI q;subst q;exact hp rfl
end
section
abbrev Pp(F:Fx)(e:Me)(a b f n:Nat)(m:Md)(Q:AS->Prop):Prop:=∃m',Q (sg F e m' f n)/\En e m' a b/\Kp a m m'
section
variable{F F1 F2:Fx}{e e1 e2:Me}{m:Md}{f n f1 n1 f2 n2 D a b b1 b2:Nat}{Q Q1 Q2:AS->Prop}
theorem En.le(h:En e m a b)(k:g<=b):En e m a g:=by obtain⟨⟨L,c⟩,d,i⟩:=h;exact⟨⟨L,c.li,Qh (Qo k _) c.sz,c.no,c.ce⟩,d,Qh (Qo k _) i⟩
theorem Pp.bind(h:Pp F1 e1 a b1 f1 n1 m Q1)(k:∀c,Q1 (sg F1 e1 c f1 n1)->En e1 c a b1->Pp F e a b f n c Q):Pp F e a b f n m Q:=h.elim λc h=>(k c h.1 h.2.1).elim λd g=>⟨d,g.1,g.2.1,h.2.2.trans g.2.2⟩
theorem Pp.map(h:Pp F1 e a b f1 n1 m Q1)(k:∀c,Q1 (sg F1 e c f1 n1)->Q (sg F e c f n)):Pp F e a b f n m Q:=h.elim λc h=>⟨c,k c h.1,h.2⟩
theorem Pp.ret(h:Q<|sg F e m f n)(c:En e m a b):Pp F e a b f n m Q:=⟨m,h,c,.rfl⟩
end
variable{F:Fx}{e:Me}{m:Md}{f n D a b:Nat}
theorem H4(F:Fx)(e:Me)(m:Md)(f n:Nat)(d k:AV):rn (D+1) false 659 [E,d,k] (sg F e m f n)=.ok k (sg F e m f n):=ak<|az 0 ae
theorem jM(F:Fx)(e:Me)(m:Md)(f n:Nat)(c k:AV):rn (D+2) false 757 [E,c,k] (sg F e m f n)=.ok k (sg F e m f n):=ak<|aG 1 (H4 F e m f n c k)<|az 0 ae
theorem first(F:Fx)(e:Me)(m:Md)(f n:Nat)(k:AV):rn (D+1) false 673 [E,k] (sg F e m f n)=.ok (.int 0) (sg F e m f n):=ak<|az 0 ae
structure Ca(e:Me)(m:Md)(a f:Nat)(l i:Nat):Prop where
 en:En e m a f
 L:∃L,i9 e m a f L/\aP iF L l=some (.ref 4 i)ce:aa m.ce i=some (.list [.int<|e.g l])ow:aa m.ow i=some (a,(l:Int))
theorem H5(l:Int):e.s l (e.g l)=e:=by
 show Me.mk _ e.sn e.th=e;haveI:eO e.g l (e.g l)=e.g:=funext λy=>by
  show(if l=y then e.g l else e.g y)=e.g y;by_cases h:l=y;·exact Rr (if_pos h)<|Rr h rfl
  ·exact Rr (if_neg h) rfl
 exact Rr this rfl
structure Rd(a:Nat)(m m':Md):Prop where
 k:Kp a m m'
 ce:∀i o,aa m.ce i=some o->aa m'.ce i=some o
 L:∀L,aa m.li a=some (.idict L)->∃L',aa m'.li a=some (.idict L')/\∀l v,aP iF L l=some v->aP iF L' l=some v
theorem Rd.rfl:Rd a m m:=⟨.rfl,λc c h=>h,λL h=>⟨L,h,λc c h=>h⟩⟩
theorem Rd.cnew{L:Lb}(h:En e m a<|f+1)(c:i9 e m a (f+1) L)(hl:aP iF L l=none):Rd a m<|m.cnew a L l<|.int x:=by
 refine⟨(h.new c l x).2,λi o q=>cH _ q,λk j=>?_⟩;rw[c.li]at j;cases j;refine⟨bj iF L l<|.ref 4 m.ce.length,?_,λy v d=>?_⟩;·show aa (aD _ _ _) _=_;rw[bT,if_pos<|Eq.refl _,c.li];exact Eq.refl _
 ·rw[m8,if_neg,d];intro q;rw[q,d]at hl;exact sN hl
theorem Ca.rd(h:Ca e m a f l i)(k:Rd a m o)(d:En e o a s):Ca e o a s l i:=by refine h.L.elim λL ζ0=>ζ0.elim λp q=>?_;obtain⟨r,c,z⟩:=k.L L p.li;obtain⟨t,j⟩:=d.L;have g:=j.li;rw[c]at g;cases g;exact⟨d,⟨r,j,z _ _ q⟩,k.ce _ _ h.ce,k.k.ow _ _ h.ow⟩
theorem yc(L:Lb)(l:Int)(h:aP iF L l=o):(dW (.idict L)<|.int l).map (λr=>r.getD .none)=some (o.getD .none):=by refine Rl h ?_;rfl
theorem so(L:Lb)(l:Int)(v:AV)(h:L.length+k<=200000):oA (.idict L) (.int l) v=some (.idict<|bj iF L l v):=by show(if aE L then _ else _)=_;refine Rr (br (k:=k)<|af (au _ _) (.a (.v 0)<|.v 1) (.n 200000) (.a (.v 0)<|.v 1) (.n 300000) h rfl) ?_;rfl
theorem Gf{l:Nat}(h:En e m a<|f+1)(j:i9 e m a (f+1) L):Ca (e.s l x) (m.cnew a L l<|.int x) a f l m.ce.length:=by
 refine(h.new j l x).elim λk r=>?_;obtain⟨g,c⟩:=k.L;have hl:aP iF g l=some (.ref 4 m.ce.length):=by
  have o:aa (m.cnew a L l<|.int x).li a=some (.idict<|bj iF L l<|.ref 4 m.ce.length):=by show aa (aD _ _ _) _=_;rw[bT,if_pos rfl,j.li];rfl
  haveI:=c.li;rw[o]at this;cases this;rw[m8,if_pos rfl]
 obtain⟨i,e1,q,p⟩:=c.ce _ _ hl;cases e1;exact⟨k,⟨g,c,hl⟩,q,p⟩
theorem Gg(D:Nat)(h:cM F a)(d:En e m a<|b+1)(f n l:Nat):∃k i,rn (D+3) false 799 [E,.ref 1 a,.int l,.int 7] (sg F e m f n)=.ok (.ref 4 i) (sg F e k f n)/\Ca e k a b l i/\Rd a m k:=by refine d.L.elim λL c=>?_;cases hl:aP iF L l with|some v=>obtain⟨i,rfl,p,o⟩:=c.ce _ _ hl;exact⟨m,i,ak<|ah (.O 0 h.ac<|.O 0 c.li<|.O 0 c.li<|.V 0 (yc L l hl) .nil) 0 ae,⟨d.dec,⟨L,⟨c.li,Qh (Qk _) c.sz,c.no,c.ce⟩,hl⟩,p,o⟩,.rfl⟩|none=>refine⟨m.cnew a L l<|.int 0,m.ce.length,ak<|ah (.O 0 h.ac<|.O 0 c.li<|.O 0 c.li<|.V 0 (yc L l hl)<|.C 1 (jM F e m f n (.ref 1 a)<|.int 7)<|.C 0 (first F e m f n<|.int 7)<|.O 0 h.ac<|.O 0 c.li<|.O 0 (so L l (.ref 4 m.ce.length) c.sz) .nil) 0 ae,?_,.cnew d c hl⟩;haveI:=Gf (l:=l) (x:=e.g l) d c;rw[H5,c.no _ hl]at this;exact this
noncomputable abbrev xL(l:Int):AV:=.tup [.int 2,.int 7,.int l]
noncomputable abbrev pl(i:Nat):AV:=.tup [.ref 4 i,.int 0,.tup []]
theorem EF(F:Fx)(e:Me)(f n:Nat)(g:aa m.ce i=some (.list [x])):rn (D+1) false 848 [pl i] (sg F e m f n)=.ok x (sg F e m f n):=ak<|kM 2 g<|az 4 ae
theorem vp(e:Me)(m:Md)(f n:Nat)(g:bG F.vs l=some (hJ l)):rn (D+1) false 1435 [E,.int l] (sg F e m f n)=.ok (.bool false) (sg F e m f n):=ak<|gn 3 g<|az 3 ae
theorem Gh(e:Me)(f n:Nat)(d:AV)(h:bG F.vs l=some (hJ l))(j:aa m.ce i=some (.list [x])):rn (D+2) false 1449 [E,d,xL l,pl i] (sg F e m f n)=.ok x (sg F e m f n):=ak<|ah (.C 1 (vp e m f n h)<|.C 1 (EF F e f n j) .nil) 0 ae
theorem Kj(F:Fx)(e:Me)(f n:Nat)(y:AV)(d:aa m.ce i=some (.list [x])):rn (D+1) false 855 [pl i,y] (sg F e m f n)=.ok .none (sg F e (m.cset i y) f n):=ak<|ah (.O 3 d<|.O 8 d .nil) 1 ae
theorem yd(D:Nat)(q:cM F a)(s:En e m a<|b+1)(f n:Nat){l:Nat}(t:0<l)(r:l<F.nv):∃d i,rn (D+4) false 1442 [E,.ref 1 a,xL l] (sg F e m f n)=.ok (pl i) (sg F e d f n)/\Ca e d a b l i/\Rd a m d:=by refine(Gg D q s f n l).elim λd p=>p.elim λi o=>o.elim λh g=>g.elim λc k=>?_;exact⟨d,i,ak<|ah (.C 2 h<|.C 1 (vp e d f n<|q.vs l t r) .nil) 1 ae,c,k⟩
theorem uw(D:Nat)(o:cM F a)(r:En e m a<|b+1)(f n:Nat){l:Nat}(q:0<l)(p:l<F.nv):∃j,rn (D+6) false 736 [E,.ref 1 a,xL l] (sg F e m (f+1)<|n+2)=.ok (.int<|e.g l) (sg F e j f<|n+2)/\En e j a b/\Rd a m j:=by obtain⟨j,i,h,c,k⟩:=yd D o r f n q p;exact⟨j,ak<|ah (.C 0 (cT F e m f<|n+2)<|.C 0 (bR F e m f n 2)<|.C 5 (show rn (D+5) false 1463 [rl 1466,E,.ref 1 a,xL l] (sg F e m f n)=.ok (.int<|e.g l) (sg F e j f n)from ak<|ah (.C 0 h<|.C 0 (Gh e f n (.ref 1 a) (o.vs l q p) c.ce) .nil) 0 ae) .nil) 1 ae,c.en,k⟩
theorem rdy(D:Nat)(t:cM F a)(s:En e m a<|b+1)(f n:Nat){l:Nat}(r:0<l)(q:l<F.nv):∃g i,rn (D+6) false 1508 [E,.ref 1 a,xL l] (sg F e m f<|n+2)=.ok (pl i) (sg F e g f<|n+2)/\Ca e g a b l i/\Rd a m g:=by refine(yd D t s f n r q).elim λg p=>p.elim λi o=>o.elim λh j=>j.elim λc k=>?_;exact⟨g,i,ak<|ah (.C 0 (bR F e m f n 2)<|.C 4 (show rn (D+5) false 1482 [rl 1499,E,.ref 1 a,xL l] (sg F e m f n)=.ok (pl i) (sg F e g f n)from ak<|aG 0 h<|az 0 ae) .nil) 1 ae,c,k⟩
theorem wr(F:Fx)(e:Me)(f n:Nat)(d y:AV)(l:Int)(h:aa m.ce i=some (.list [x])):rn (D+3) false 1515 [E,d,xL l,pl i,y] (sg F e m f<|n+2)=.ok .none (sg F e (m.cset i y) f<|n+2):=ak<|ah (.C 0 (bR F e m f n 2)<|.C 4 (show rn (D+2) false 1496 [rl 1499,E,d,xL l,pl i,y] (sg F e m f n)=.ok .none (sg F e (m.cset i y) f n)from ak<|aG 0 (Kj F e f n y h)<|az 0 ae) .nil) 1 ae
noncomputable abbrev xH(v:AV):AV:=.tup [.int 90,.int 7,v]
inductive Vm where|k(x:Int)|l(n:Nat)
noncomputable def Vm.ctorIdx(v:Vm):Nat:=Vm.casesOn v (λξ=>0) λξ=>1
noncomputable def Vm.av:Vm->AV|k x=>xH<|.int x|l n=>xL n
noncomputable def Vm.val(g:Int->Int):Vm->Int|k x=>x|l n=>g n
noncomputable def Vm.ok(N:Nat):Vm->Prop|k _=>True|l n=>0<n/\n<N
theorem BY(D:Nat)(j:cM F a)(i:En e m a<|b+1)(f n:Nat):∀{v:Vm},v.ok F.nv->∃c,rn (D+6) false 736 [E,.ref 1 a,v.av] (sg F e m (f+1)<|n+2)=.ok (.int<|v.val e.g) (sg F e c f<|n+2)/\En e c a b/\Rd a m c|.k x,_=>⟨m,AF F e m f n (.ref 1 a)<|.int x,i.dec,.rfl⟩|.l l,h=>uw D j i f n h.1 h.2
theorem Ca.set(h:Ca e m a f l i)(x:Int):En (e.s l x) (m.cset i<|.int x) a f/\Kp a m (m.cset i<|.int x):=by refine h.L.elim λL ζ0=>ζ0.elim λc hl=>?_;exact h.en.set c hl h.ow h.ce x
end
section
variable{F:Fx}{e:Me}{m:Md}{f n D a b:Nat}
noncomputable def ew(i g r:Int):AV:=.fi 349 [(⟨#[105,116,101,109]⟩,.int i),(zs30,.int g),(zs25,.int r)]
theorem BZ(H:rn (D+1) false 869 [rl 872,E,A,.tup [.int 1,x]] (sg F e m f n)=.ok v (sg F e' d g n)):rn (D+2) false 743 [E,A,.tup [.int 1,x]] (sg F e m (f+1)<|n+2)=.ok v (sg F e' d g<|n+2):=ak<|ah (.C 0 (cT F e m f<|n+2)<|.C 0 (bR F e m f n 2)<|.C 5 H .nil) 1 ae
theorem Pm(H:rn (D+1) false 869 [rl 872,E,A,.tup [.int 1,x]] (sg F e m f n)=.ex (ew i g q) (sg F e' h d n')):rn (D+2) false 743 [E,A,.tup [.int 1,x]] (sg F e m (f+1)<|n+2)=.ok (.tup [.int 4,ew i g q]) (sg F e' h d<|n+2):=ak<|ah (.C 0 (cT F e m f<|n+2)<|.C 0 (bR F e m f n 2)<|.X 5 H .nil) 1 ae
theorem Pn(H:rn (D+1) false 888 [rl 891,E,A,.tup [.int 3,.tup p,.int 0]] (sg F e m f n)=.ok v (sg F e' d g n)):rn (D+2) false 743 [E,A,.tup [.int 3,.tup p,.int 0]] (sg F e m (f+1)<|n+2)=.ok v (sg F e' d g<|n+2):=ak<|ah (.C 0 (cT F e m f<|n+2)<|.C 0 (bR F e m f n 2)<|.C 5 H .nil) 1 ae
theorem ux(H:rn (D+1) false 907 [rl 910,E,A,.tup [.int 4,c,y,z]] (sg F e m f n)=.ok v (sg F e' h g n)):rn (D+2) false 743 [E,A,.tup [.int 4,c,y,z]] (sg F e m (f+1)<|n+2)=.ok v (sg F e' h g<|n+2):=ak<|ah (.C 0 (cT F e m f<|n+2)<|.C 0 (bR F e m f n 2)<|.C 5 H .nil) 1 ae
theorem Po{b:AV}(H:rn (D+1) false 940 [rl 943,E,A,.tup [.int 5,c,b]] (sg F e m f n)=.ok v (sg F e' h g n)):rn (D+2) false 743 [E,A,.tup [.int 5,c,b]] (sg F e m (f+1)<|n+2)=.ok v (sg F e' h g<|n+2):=ak<|ah (.C 0 (cT F e m f<|n+2)<|.C 0 (bR F e m f n 2)<|.C 5 H .nil) 1 ae
theorem Nl(H:rn (D+1) false 966 [rl 969,E,A,.tup [.int 10]] (sg F e m f n)=.ok v (sg F e' d g n)):rn (D+2) false 743 [E,A,.tup [.int 10]] (sg F e m (f+1)<|n+2)=.ok v (sg F e' d g<|n+2):=ak<|ah (.C 0 (cT F e m f<|n+2)<|.C 0 (bR F e m f n 2)<|.C 5 H .nil) 1 ae
theorem Nm(H:rn (D+1) false 985 [rl 988,E,A,.tup [.int 11]] (sg F e m f n)=.ok v (sg F e' d g n)):rn (D+2) false 743 [E,A,.tup [.int 11]] (sg F e m (f+1)<|n+2)=.ok v (sg F e' d g<|n+2):=ak<|ah (.C 0 (cT F e m f<|n+2)<|.C 0 (bR F e m f n 2)<|.C 5 H .nil) 1 ae
theorem Nn(H:rn (D+1) false 1004 [rl 1007,E,A,.tup [.int 17]] (sg F e m f n)=.ok v (sg F e' d g n)):rn (D+2) false 743 [E,A,.tup [.int 17]] (sg F e m (f+1)<|n+2)=.ok v (sg F e' d g<|n+2):=ak<|ah (.C 0 (cT F e m f<|n+2)<|.C 0 (bR F e m f n 2)<|.C 5 H .nil) 1 ae
theorem AG(H:rn (D+1) false 1023 [rl 1026,E,A,.tup [.int 13,x]] (sg F e m f n)=.ex (ew i g q) (sg F e' h d n')):rn (D+2) false 743 [E,A,.tup [.int 13,x]] (sg F e m (f+1)<|n+2)=.ok (.tup [.int 4,ew i g q]) (sg F e' h d<|n+2):=ak<|ah (.C 0 (cT F e m f<|n+2)<|.C 0 (bR F e m f n 2)<|.X 5 H .nil) 1 ae
theorem AH{b:AV}(H:rn (D+1) false 1070 [rl 1073,E,A,.tup [.int 14,b,r,l]] (sg F e m f n)=.ok v (sg F e' g d n)):rn (D+2) false 743 [E,A,.tup [.int 14,b,r,l]] (sg F e m (f+1)<|n+2)=.ok v (sg F e' g d<|n+2):=ak<|ah (.C 0 (cT F e m f<|n+2)<|.C 0 (bR F e m f n 2)<|.C 5 H .nil) 1 ae
theorem Np(H:rn (D+1) false 1529 [rl 1532,E,A,.tup [.int 22,.int 7,t,v]] (sg F e m f n)=.ok w (sg F e' d g n)):rn (D+2) false 736 [E,A,.tup [.int 22,.int 7,t,v]] (sg F e m (f+1)<|n+2)=.ok w (sg F e' d g<|n+2):=ak<|ah (.C 0 (cT F e m f<|n+2)<|.C 0 (bR F e m f n 2)<|.C 5 H .nil) 1 ae
theorem Nq(H:rn (D+1) false 1529 [rl 1532,E,A,.tup [.int 22,.int 7,t,v]] (sg F e m f n)=.ex w (sg F e' g d n')):rn (D+2) false 736 [E,A,.tup [.int 22,.int 7,t,v]] (sg F e m (f+1)<|n+2)=.ex w (sg F e' g d n'):=gP<|ah (.C 0 (cT F e m f<|n+2)<|.C 0 (bR F e m f n 2)<|.X 5 H .nil) 0 et
theorem Nr(H:rn (D+1) false 1423 [rl 1426,E,A,.tup [.int 29,.int 7,v]] (sg F e m f n)=.ok w (sg F e' d g n)):rn (D+2) false 736 [E,A,.tup [.int 29,.int 7,v]] (sg F e m (f+1)<|n+2)=.ok w (sg F e' d g<|n+2):=ak<|ah (.C 0 (cT F e m f<|n+2)<|.C 0 (bR F e m f n 2)<|.C 5 H .nil) 1 ae
theorem AI(H:rn (D+1) false 1023 [rl 1026,E,A,.tup [.int 99,v]] (sg F e m f n)=.ex w (sg F e' d g n')):rn (D+2) false 736 [E,A,.tup [.int 99,v]] (sg F e m (f+1)<|n+2)=.ex w (sg F e' d g n'):=gP<|ah (.C 0 (cT F e m f<|n+2)<|.C 0 (bR F e m f n 2)<|.X 5 H .nil) 0 et
noncomputable def cN(e:Me):List AV:=.none::.ref 9 0::.ref 9 1::.ref 9 2::e.th
theorem ka(i:Int)(h:aE l=true)(q:(bV i).bind (aa l)=o):bG l i=o:=by show(if aE l=true then _ else _)=o;exact Rr (if_pos h)<|Rr q rfl
theorem kl(h:e.th.length+b<=200000):aE (cN e)=true:=br (k:=0)<|af (au _ _) (.a (.v 0)<|.v 1) (.n 200000) (.a (.p 0 4)<|.n 0) (.n 300000) h rfl
noncomputable def tk(it k:Int):Bool:=iF k (-1)||iF k 16||iF it 3
theorem B0(D f n:Nat)(h:e.th.length+b<=200000)(i:it=2\/it=3)(j:k=16\/k=17):rn (D+2) false 841 [E,.int it,.int k] (sg F e m f n)=.ok (.bool<|tk it k) (sg F e m f n):=by
 haveI g:=kl h;rcases i with rfl|rfl<;>rcases j with rfl|rfl;·exact ak<|ah (.C 1 (show rn (D+1) false 680 [E,.int 16] (sg F e m f n)=.ok (.int 16) (sg F e m f n)from ak<|az 0 ae)<|.V 2 (ka 2 g rfl)<|.C 3 (show rn (D+1) false 652 [E,.int 16,.int 16] (sg F e m f n)=.ok (.bool true) (sg F e m f n)from ak<|az 2 ae) .nil) 0 ae
 ·exact ak<|ah (.C 1 (show rn (D+1) false 680 [E,.int 17] (sg F e m f n)=.ok (.int 17) (sg F e m f n)from ak<|az 0 ae)<|.V 2 (ka 2 g rfl)<|.C 3 (show rn (D+1) false 652 [E,.int 16,.int 17] (sg F e m f n)=.ok (.bool false) (sg F e m f n)from ak<|az 7 ae) .nil) 0 ae
 ·exact ak<|ah (.C 1 (show rn (D+1) false 680 [E,.int 16] (sg F e m f n)=.ok (.int 16) (sg F e m f n)from ak<|az 0 ae)<|.V 2 (ka 3 g rfl)<|.C 3 (show rn (D+1) false 652 [E,.int 17,.int 16] (sg F e m f n)=.ok (.bool true) (sg F e m f n)from ak<|az 7 ae) .nil) 0 ae
 ·exact ak<|ah (.C 1 (show rn (D+1) false 680 [E,.int 17] (sg F e m f n)=.ok (.int 17) (sg F e m f n)from ak<|az 0 ae)<|.V 2 (ka 3 g rfl)<|.C 3 (show rn (D+1) false 652 [E,.int 17,.int 17] (sg F e m f n)=.ok (.bool true) (sg F e m f n)from ak<|az 2 ae) .nil) 0 ae
structure Hw where
 k:Int
 x:Nat
 w:Bool
 ps:List AV
noncomputable def Hw.av(r:Hw):AV:=.tup [.int r.k,.int r.x,bif r.w then xL 2 else .none,.tup [.int 3,.tup r.ps,.int 0]]
noncomputable def cp(g:Int)(r a:AV):AV:=.fi 459 [(zs9,.int g),(zs7,r),(zs19,a)]
noncomputable def Fx.gu_(F:Fx)(gu:List AV):Fx:=⟨F.c0,F.c1,F.c2,F.c3,F.c4,F.c5,F.c6,F.c7,F.c12,F.c16,F.c17,F.c24,F.c32,F.c37,F.c38,F.c39,F.dn,F.nv,F.no,F.vs,gu,F.ac,F.ca,F.cu,F.sk,F.fr,F.it,F.im,F.hl⟩
noncomputable def Me.n_(e:Me):Me:=⟨e.g,e.sn+1,e.th⟩
theorem next(F:Fx)(e:Me)(m:Md)(f n:Nat):rn (D+1) false 729 [E] (sg F e m f n)=.ok (.int<|e.sn+1) (sg F e.n_ m f n):=ak<|az 4 ae
theorem tg{l:List AV}(h:l.length+k<=200000):(if aE l=true then some<|AV.int l.length else none)=some (AV.int l.length):=if_pos<|br (k:=k)<|af (au _ _) (.a (.v 0)<|.v 1) (.n 200000) (.a (.v 0)<|.v 1) (.n 300000) h rfl
theorem md(h:l.length+k<=200000)(v:AV):(if aE l=true then some<|AO.list<|l++[v]else none)=some (AO.list<|l++[v]):=if_pos<|br (k:=k)<|af (au _ _) (.a (.v 0)<|.v 1) (.n 200000) (.a (.v 0)<|.v 1) (.n 300000) h rfl
theorem push(e:Me)(m:Md)(f n:Nat)(r a:AV)(h:F.gu.length+k<=200000):rn (D+2) false 827 [E,r,a] (sg F e m f n)=.ok (.int F.gu.length) (sg (F.gu_<|F.gu++[cp (e.sn+1) r a]) e.n_ m f n):=ak<|ah (.V 2 (tg h)<|.C 2 (next F e m f n)<|.C 0 (i8 D 459 [.int<|e.sn+1,r,a] (cp (e.sn+1) r a)<|sg F e.n_ m f n)<|.O 1 (md h<|cp (e.sn+1) r a) .nil) 0 ae
theorem drop(F:Fx)(e:Me)(m:Md)(f n:Nat)(i:F.gu=l++r)(h:F.gu.length+k<=200000):rn (D+1) false 834 [E,.int l.length] (sg F e m f n)=.ok .none (sg (F.gu_ l) e m f n):=ak<|kM 2 (show sL (.list F.gu) (.int l.length)=some (.list l)by show(if aE F.gu=true then _ else _)=_;refine Rr (if_pos<|br (k:=k)<|af (au _ _) (.a (.v 0)<|.v 1) (.n 200000) (.a (.v 0)<|.v 1) (.n 300000) h rfl)<|Rr i ?_;refine(?_:some (AO.list<|(l++r).take l.length)=_);exact Rr List.take_left rfl)<|az 0 ae
theorem En.n_(h:En e m a b):En e.n_ m a b:=by obtain⟨⟨L,c⟩,d,g⟩:=h;exact⟨⟨L,c.li,c.sz,c.no,c.ce⟩,d,g⟩
theorem cM.gu{gu:List AV}(h:cM F a):cM (F.gu_ gu) a:=⟨h.ac,h.vs⟩
theorem B3(D:Nat)(l:cM F a)(h:En e m a<|b+2)(f n:Nat){x:Nat}(A:0<x)(z:2<F.nv)(it:Int)(o:F.gu.length+(k+1)<=200000):∃c,rn (D+7) false 820 [E,.ref 1 a,.int x,xL 2,.int it] (sg F e m (f+1)<|n+7)=.ok (.bool<|iF (eO e.g x it 2) 1) (sg F (e.s x it).n_ c f<|n+7)/\En (e.s x it).n_ c a b/\Kp a m c:=by
 refine h.L.elim λL d=>?_;haveI w:=(h.new d x it).1;haveI r:=(h.new d x it).2;obtain⟨c,q,y,t⟩:=uw D (l.gu (gu:=F.gu++[cp ((e.s x it).sn+1) .none<|.ref 1 a])) w.n_ f n (bL rfl) z;refine⟨c,ak ?_,y,r.trans t.k⟩;haveI u:(!iF x 0)=true:=by refine Rr (eK<|by lia) ?_;rfl
 exact ah (.B 0 u<|.O 0 l.ac<|.O 0 d.li<|.O 0 (so L x (.ref 4 m.ce.length) d.sz)<|.C 0 (push (e.s x it) (m.cnew a L x<|.int it) (f+1) (n+7) .none (.ref 1 a) o)<|.C 0 (bR (F.gu_<|F.gu++[cp ((e.s x it).sn+1) .none<|.ref 1 a]) (e.s x it).n_ (m.cnew a L x<|.int it) (f+1) (n+2) 5)<|.C 0 q<|.C 1 (drop (F.gu_<|F.gu++[cp ((e.s x it).sn+1) .none<|.ref 1 a]) (e.s x it).n_ c f (n+7) rfl<|by show(F.gu++[_]).length+k<=_;refine Rr Qa ?_;exact af (au _ _) (.a (.v 0)<|.p 1 1) (.n 200000) (.a (.p 0 1)<|.v 1) (.n 200000) o rfl) .nil) 1 ae
end
section
variable{F:Fx}{e:Me}{m:Md}{f n D a b:Nat}
noncomputable def bI(f:Nat):List Stmt:=match TP.fn f with|some fn=>fn.body|none=>[]
noncomputable def eU(f:Nat):Ctx:=match TP.fn f with|some fn=>⟨fn.scope,[],false,LL f,false⟩|none=>⟨⟨.function,[],false,false,[]⟩,[],false,none,false⟩
noncomputable def gQ{β:Type}(s:Option Stmt)(i:Nat)(n:β)(k:(s:Stmt)->s.ctorIdx=i->β):β:=s.elim n λs=>if h:s.ctorIdx=i then k s h else n
noncomputable def d4(f k:Nat)(s:Option Stmt):dc:=gQ s 9 (λξ ξ ξ ξ ξ=>stk) λs h=>Stmt.For.elim (motive_2:=λξ=>dc) s h λt ξ b ξ ξ=>sQ (eU f) t<|execs (cz TP k<|eU f) b
noncomputable def uy(f k:Nat)(s:Option Stmt):aq->AS->(Bool->AS->Cd)->KV->Cd:=gQ s 11 (λξ ξ ξ ξ=>stk) λs h=>Stmt.While.elim (motive_2:=λξ=>aq->AS->(Bool->AS->Cd)->KV->Cd) s h λt ξ ξ ξ=>λloc σ x y=>ts TP k (eU f) loc t σ x y
noncomputable def uA(f k:Nat)(s:Option Stmt):aq->AS->KS->XS->Cd:=gQ s 11 (λξ ξ ξ ξ=>stk) λs h=>Stmt.While.elim (motive_2:=λξ=>aq->AS->KS->XS->Cd) s h λξ b ξ ξ=>λloc σ K X=>execs (cz TP k<|eU f) b loc σ K X
theorem Nt{i k:Nat}(h:i<k):seqIndex? i k=some i:=by show(if(decide (0<=if(i:Int)<0 then(i:Int)+k else i)&&decide ((if(i:Int)<0 then(i:Int)+k else i)<k))=true then some (if(i:Int)<0 then(i:Int)+k else i).toNat else none)=_;rw[if_neg (c:=(i:Int)<0)<|by omega,decide_eq_true<|by omega,decide_eq_true<|by omega];rfl
theorem f5{x:AV}(h:aa l i=some x)(j:l.length+k<=200000):(if aE l=true then(seqIndex? i l.length).bind<|aa l else none)=some x:=by refine Rr (if_pos<|br (k:=k)<|af (au _ _) (.a (.v 0)<|.v 1) (.n 200000) (.a (.v 0)<|.v 1) (.n 300000) j rfl)<|Rr (Nt<|dD h) ?_;exact h
theorem B4{k:Nat}(h:k<=200000):sm k=true:=by delta sm;rw[Bool.and_eq_true];exact⟨decide_eq_true<|by lia,decide_eq_true<|by lia⟩
theorem jN{k:Nat}(h:k<=200000):iter (.rng 0 k 1)=some (.fl<|d9 0 k):=by show(if(!(sm 0&&sm k))=true then none else if 1=1 then some<|AV.fl<|d9 0 ((k:Int)-0).toNat else _)=_;refine Rr (B4 h)<|Rr (show((k:Int)-0).toNat=k by lia) ?_;rfl
theorem jO{k:Nat}(h:k<=200000):(if sm k=true then some<|AV.rng 0 k 1 else none)=some (.rng 0 k 1):=Rr (if_pos<|B4 h) rfl
noncomputable def aM(it:Int):List Hw->Nat->Me->Nat×Me×Option Nat|[],_,e=>(0,e,none)|r::rs,i,e=>bif tk it r.k then bif r.w then bif iF (eO e.g r.x it 2) 1 then(1,(e.s r.x it).n_,some i)else((aM it rs (i+1) (e.s r.x it).n_).1+1,(aM it rs (i+1) (e.s r.x it).n_).2)else(0,e,some i)else aM it rs (i+1) e
noncomputable abbrev AJ:dc:=d4 813 59<|aa (bI 813) 0
noncomputable abbrev q(s:String):Str:=Str.ofString s
noncomputable abbrev p6(gd it:AV):aq:=[(q "ev",E),(q "guard",gd),(q "number",it)]
noncomputable def Hw.ok(N:Nat)(r:Hw):Prop:=(r.k=16\/r.k=17\/r.k=-1)/\0<r.x/\r.x<N
noncomputable def B5(o:Option Nat)(l:aq):aq:=match o with|some i=>[]|none=>l
noncomputable def B6(o:Option Nat):Fl:=match o with|some i=>.ret<|.int i|none=>.next
noncomputable def kX(s:Option Stmt):List Stmt:=gQ s 9 (gQ s 11 (gQ s 12 (gQ s 17 [] λs h=>Stmt.Try.elim (motive_2:=λξ=>List Stmt) s h λb ξ ξ ξ ξ=>b) λs h=>Stmt.If.elim (motive_2:=λξ=>List Stmt) s h λξ b ξ ξ=>b) λs h=>Stmt.While.elim (motive_2:=λξ=>List Stmt) s h λξ b ξ ξ=>b) λs h=>Stmt.For.elim (motive_2:=λξ=>List Stmt) s h λξ ξ b ξ ξ=>b
theorem jC(F:Fx)(e:Me)(m:Md)(f n:Nat)(d:AV):rn (D+1) false 785 [E,d,.int 0] (sg F e m f n)=.ok .none (sg F e m f n):=ak<|az 1 ae
theorem me(F:Fx)(e:Me)(m:Md)(f n:Nat)(d:List AV):rn (D+1) false 771 [.tup [.int 3,.tup d,.int 0]] (sg F e m f n)=.ok (.int 0) (sg F e m f n):=ak<|az 3 ae
noncomputable def AK(F:Fx)(a D n:Nat)(it g:Int)(full:List AV)(rs:List Hw)(i:Nat):Prop:=∀(e:Me)(m:Md)(f b:Nat),En e m a (b+3*(aM it rs i e).1)->∃m',(bk AJ (d9 i rs.length) (p6 (cp g (.tup full)<|.ref 1 a)<|.int it)<|sg F e m (f+(aM it rs i e).1)<|n+7).ev (rn<|D+7)=.go (B6 (aM it rs i e).2.2) (B5 (aM it rs i e).2.2<|p6 (cp g (.tup full)<|.ref 1 a)<|.int it) (sg F (aM it rs i e).2.1 m' f<|n+7)/\En (aM it rs i e).2.1 m' a b/\Kp a m m'
noncomputable def Pq(gd it:AV)(r:Hw)(i:Nat):aq:=[(q "ev",E),(q "guard",gd),(q "number",it),(q "place",.int i),(q "kind",.int r.k),(q "lid",.int r.x),(q "when",bif r.w then xL 2 else .none),(q "body",.tup [.int 3,.tup r.ps,.int 0])]
noncomputable def Pr(gd it:AV)(r:Hw)(i:Nat)(k:Nat)(σ:AS):Cd:=execs (cz TP 59<|eU 813) ((kX<|aa (bI 813) 0).drop 2) (Pq gd it r i) σ (turn (bk AJ<|d9 (i+1:Nat) k)<|p6 gd it) i6
theorem Gi(D n:Nat)(B:cM F a)(I:2<F.nv)(G:F.gu.length+(k+1)<=200000)(v:tk it r.k=true)(H:r.ok F.nv)(K:AK F a D n it g full rs<|i+1)(e:Me)(m:Md)(f b:Nat)(h:En e m a<|b+3*(aM it (r::rs) i e).1):∃d,(Pr (cp g (.tup full)<|.ref 1 a) (.int it) r i rs.length<|sg F e m (f+(aM it (r::rs) i e).1)<|n+7).ev (rn<|D+7)=.go (B6 (aM it (r::rs) i e).2.2) (B5 (aM it (r::rs) i e).2.2<|p6 (cp g (.tup full)<|.ref 1 a)<|.int it) (sg F (aM it (r::rs) i e).2.1 d f<|n+7)/\En (aM it (r::rs) i e).2.1 d a b/\Kp a m d:=by
 obtain⟨j,x,w,t⟩:=r;rcases w with _|_;·
  haveI p:aM it (⟨j,x,false,t⟩::rs) i e=(0,e,some i):=by show(bif tk it j then _ else _)=_;refine Rr v ?_;rfl
  rw[p]at h⊢;exact⟨m,az 0 ae,h,.rfl⟩
 ·cases u:iF (eO e.g x it 2) 1 with|true=>
   haveI p:aM it (⟨j,x,true,t⟩::rs) i e=(1,(e.s x it).n_,some i):=by show(bif tk it j then bif iF (eO e.g x it 2) 1 then _ else _ else _)=_;refine Rr v<|Rr u ?_;rfl
   rw[p]at h⊢;obtain⟨d,l,y,A⟩:=B3 D B h f n H.2.1 I it G;rw[u]at l;exact⟨d,by(exact ah (.C 0 (me F e m (f+1) (n+7) t)<|.C 0 (jC F e m (f+1) (n+7)<|.ref 1 a)<|.C 0 l .nil) 1 ae),y.dec,A⟩|false=>
   haveI p:aM it (⟨j,x,true,t⟩::rs) i e=((aM it rs (i+1) (e.s x it).n_).1+1,(aM it rs (i+1) (e.s x it).n_).2):=by show(bif tk it j then bif iF (eO e.g x it 2) 1 then _ else _ else _)=_;refine Rr v<|Rr u ?_;rfl
   rw[p]at h⊢;obtain⟨d,l,y,A⟩:=B3 D B h (f+(aM it rs (i+1) (e.s x it).n_).1) n H.2.1 I it G;rw[u]at l;obtain⟨L,N,J,M⟩:=K (e.s x it).n_ d f b y.dec;refine⟨L,?_,J,A.trans M⟩;exact bH (.C 0 (me F e m (f+(aM it rs (i+1) (e.s x it).n_).1+1) (n+7) t)<|.C 0 (jC F e m (f+(aM it rs (i+1) (e.s x it).n_).1+1) (n+7)<|.ref 1 a)<|.C 0 l .nil) 1 N
theorem Gj(D n:Nat)(K:cM F a)(M:2<F.nv)(y:it=2\/it=3)(hl:full.length<=200000)(g:Int)(J:F.gu.length+(k+1)<=200000):∀(rs:List Hw)(c:List AV),full=c++rs.map Hw.av->(∀r∈rs,r.ok F.nv)->AK F a D n it g full rs c.length:=by intro rs;induction rs with|nil=>exactλc A w e m f b l=>⟨m,rfl,l,.rfl⟩|cons r rs ih=>
  intro c A w e m f b l;haveI u:=f5 (k:=0) (by refine Rr A ?_;exact eI _ _ _) hl;haveI z:=w r Qj;haveI o:=l.th;haveI G:=ih (c++[r.av]) (by rw[A,Qd];rfl) λr h=>w r<|Ql _ h;rw[show(c++[r.av]).length=c.length+1 from Qa]at G;haveI I:r.k≠-1->decide (0<=r.k)=true:=λh=>by rcases z.1 with h|h|h<;>first|(refine Rr h ?_;rfl)|contradiction
  haveI N:r.k≠-1->r.k=16\/r.k=17:=λh=>by rcases z.1 with h|h|h<;>first|exact .inl h|exact .inr h|contradiction
  cases j:tk it r.k with|false=>
   haveI O:aM it (r::rs) c.length e=aM it rs (c.length+1) e:=by show(bif tk it r.k then _ else _)=_;refine Rr j ?_;rfl
   rw[O]at l⊢;obtain⟨x,t,H⟩:=G e m f b l;refine⟨x,?_,H⟩;haveI i:r.k≠-1:=λh=>by rw[h]at j;exact cX j
   haveI s:=B0 (F:=F) (m:=m) (D+5) (f+(aM it rs (c.length+1) e).1) (n+7) o y<|N i;rw[j]at s;exact bH (.V 0 u<|.B 0 (I i)<|.C 0 (jM F e m (f+(aM it rs (c.length+1) e).1) (n+7) (.ref 1 a)<|.int r.k)<|.C 0 s .nil) 1 t|true=>
   obtain⟨x,t,H⟩:=Gi D n K M J j z G e m f b l;refine⟨x,?_,H⟩;by_cases i:r.k=-1;·exact bH (.V 0 u<|.B 0 (show decide (0<=r.k)=false by refine Rr i ?_;rfl) .nil) 0 t
   ·haveI s:=B0 (F:=F) (m:=m) (D+5) (f+(aM it (r::rs) c.length e).1) (n+7) o y<|N i;rw[j]at s;exact bH (.V 0 u<|.B 0 (I i)<|.C 0 (jM F e m (f+(aM it (r::rs) c.length e).1) (n+7) (.ref 1 a)<|.int r.k)<|.C 0 s .nil) 1 t
noncomputable def Pu(o:Option Nat):Int:=match o with|some i=>i|none=>-1
theorem Kk(D n:Nat)(C:cM F a)(l:2<F.nv)(y:it=2\/it=3)(g:Int)(B:F.gu.length+(k+1)<=200000)(hl:(rs.map Hw.av).length<=200000)(A:∀r∈rs,r.ok F.nv)(e:Me)(m:Md)(f b:Nat)(x:En e m a<|b+3*(aM it rs 0 e).1):∃i,rn (D+8) false 813 [E,cp g (.tup<|rs.map Hw.av)<|.ref 1 a,.int it] (sg F e m (f+(aM it rs 0 e).1)<|n+7)=.ok (.int<|Pu (aM it rs 0 e).2.2) (sg F (aM it rs 0 e).2.1 i f<|n+7)/\En (aM it rs 0 e).2.1 i a b/\Kp a m i:=by obtain⟨i,j,l⟩:=Gj D n C l y hl g B rs [] rfl A e m f b x;refine⟨i,ak ?_,l⟩;haveI w:=jO hl;haveI h:=jN hl;rw[Qb]at w h;revert j;generalize aM it rs 0 e=z;intro j;refine gn 0 (show(if aE (rs.map Hw.av)=true then some<|AV.int (rs.map Hw.av).length else none)=some (AV.int rs.length)by rw[if_pos<|br<|af (ai _) (.v 0) (.n 200000) (.p 0 0) (.n 300000) hl rfl,Qb])<|gn 0 w<|gn 0 h<|eT 0 j<|?_;clear j;obtain⟨c,e',o⟩:=z;cases o<;>exact az 0 ae
end
section
variable{F:Fx}{e:Me}{m:Md}{f n D a b:Nat}
abbrev ba:=List<|Int×List Hw
noncomputable def Gd(a:Nat)(p:Int×List Hw):AV:=cp p.1 (.tup<|p.2.map Hw.av)<|.ref 1 a
noncomputable def Gs(a:Nat)(l:ba):List AV:=(l.map<|Gd a).reverse
noncomputable def aT(gw it:Int):ba->Me->Nat×Me×Int×Int|[],e=>(0,e,gw,-1)|p::r,e=>match(aM it p.2 0 e).2.2 with|some i=>((aM it p.2 0 e).1,(aM it p.2 0 e).2.1,p.1,i)|none=>((aM it p.2 0 e).1+(aT gw it r (aM it p.2 0 e).2.1).1,(aT gw it r (aM it p.2 0 e).2.1).2)
noncomputable def rG(N:Nat)(l:ba):Prop:=∀p∈l,(p.2.map Hw.av).length<=200000/\∀r∈p.2,r.ok N
noncomputable abbrev Nu:=uy 806 59<|aa (bI 806) 2
noncomputable abbrev Nv:=uA 806 59<|aa (bI 806) 2
theorem dZ{z:Int}{i k:Nat}(d:z=i)(h:aa l i=some x)(g:l.length+k<=200000):bG l z=some x:=ka z (br (k:=k)<|af (au _ _) (.a (.v 0)<|.v 1) (.n 200000) (.a (.v 0)<|.v 1) (.n 300000) g rfl)<|by refine Rr d ?_;exact h
theorem Gk(D n:Nat)(U:cM F a)(W:2<F.nv)(X:it=2\/it=3)(K:F.gu.length+(k+1)<=200000){I:List AV}{aw:AV}:∀(c:ba)(t:List AV)(N:Nat)(z:Int)(e:Me)(m:Md)(f b:Nat),F.gu=I++cp d .none aw::Gs a c++t->z=(I.length+c.length:Nat)->c.length<N->rG F.nv c->En e m a (b+3*(aT d it c e).1)->∃j,(i7 Nu Nv N [(q "ev",E),(q "number",.int it),(q "at",.int z)]<|sg F e m (f+(aT d it c e).1)<|n+7).ev (rn<|D+9)=.ex (ew it (aT d it c e).2.2.1 (aT d it c e).2.2.2) [] (sg F (aT d it c e).2.1 j f<|n+7)/\En (aT d it c e).2.1 j a b/\Kp a m j:=by intro c;induction c with
 |nil=>
  intro t N z e m f b P M G Q o;rcases N with _|N;·exact absurd G<|Nat.not_lt_zero _
  haveI H:decide (0<=z)=true:=decide_eq_true (by omega);haveI J:=dZ M (by rw[P,Qd];exact eI _ _ _) K;refine⟨m,?_,o,.rfl⟩;exact ah (.B 0 H<|.V 2 J<|.C 0 (i8 (D+8) 349 [.int it,.int d,.int<|-1] (ew it d<|-1)<|sg F e m f<|n+7) .nil) 0 et|cons p r ih=>
  intro t N z e m f b P M G Q o;rcases N with _|N;·exact absurd G<|Nat.not_lt_zero _
  have H:decide (0<=z)=true:=decide_eq_true (by omega);have A:F.gu=I++cp d .none aw::Gs a r++Gd a p::t:=by refine Rr P<|Rr (show Gs a (p::r)=Gs a r++[Gd a p]from Qf ..) ?_;simp
  have J:bG F.gu z=some (Gd a p):=by refine dZ ?_ (by refine Rr A ?_;exact eI _ _ _) K;refine Rr M<|Rr (show Gs a r=(r.map<|Gd a).reverse from rfl) ?_;simp
  haveI hp:=Q p Qj;haveI Y:=Kk (D:=D+1) n U W X p.1 K hp.1 hp.2 e m;cases L:(aM it p.2 0 e).2.2 with|some i=>
   haveI s:aT d it (p::r) e=((aM it p.2 0 e).1,(aM it p.2 0 e).2.1,p.1,(i:Int)):=by show(match(aM it p.2 0 e).2.2 with|some i=>_|none=>_)=_;exact Rr L rfl
   rw[s]at o⊢;refine(Y f b o).elim λj ζ0=>ζ0.elim λu T=>?_;refine⟨j,?_,T⟩;rw[L]at u;exact ah (.B 0 H<|.V 2 J<|.C 0 u<|.C 1 (i8 (D+8) 349 [.int it,.int p.1,.int i] (ew it p.1 i)<|sg F (aM it p.2 0 e).2.1 j f<|n+7) .nil) 0 et|none=>
   haveI s:aT d it (p::r) e=((aM it p.2 0 e).1+(aT d it r (aM it p.2 0 e).2.1).1,(aT d it r (aM it p.2 0 e).2.1).2):=by show(match(aM it p.2 0 e).2.2 with|some i=>_|none=>_)=_;exact Rr L rfl
   haveI O:f+(aT d it (p::r) e).1=f+(aT d it r (aM it p.2 0 e).2.1).1+(aM it p.2 0 e).1:=by refine Rr s ?_;exact eR (aH _ _ _) (.a (.v 0)<|.a (.v 1)<|.v 2) (.a (.a (.v 0)<|.v 2)<|.v 1) rfl
   refine Rr O<|Rr s ?_;rw[s]at o;obtain⟨j,u,T,r3⟩:=Y (f+(aT d it r (aM it p.2 0 e).2.1).1) (b+3*(aT d it r (aM it p.2 0 e).2.1).1) (by rw[Nat.add_assoc,<-Nat.mul_add,Nat.add_comm (aT _ _ _ _).1];exact o);rw[L]at u;obtain⟨m2,i1,i2,Z⟩:=ih (Gd a p::t) N (z-1) (aM it p.2 0 e).2.1 j f b A (by refine Rr M ?_;show(I.length+(r.length+1):Int)-1=_;lia) (Nat.lt_of_succ_lt_succ G) (λp h=>Q p<|Ql _ h) T;refine⟨m2,?_,i2,r3.trans Z⟩;exact bH (.B 0 H<|.V 2 J<|.C 0 u .nil) 2 i1
theorem zx(D n:Nat)(y:cM F a)(l:2<F.nv)(o:it=2\/it=3)(j:F.gu.length+(k+1)<=99999)(r:F.gu=x++cp g .none aw::Gs a c)(w:rG F.nv c)(e:Me)(m:Md)(f b:Nat)(s:En e m a<|b+3*(aT g it c e).1):∃i,rn (D+10) false 806 [E,.int it] (sg F e m (f+(aT g it c e).1)<|n+7)=.ex (ew it (aT g it c e).2.2.1 (aT g it c e).2.2.2) (sg F (aT g it c e).2.1 i f<|n+7)/\En (aT g it c e).2.1 i a b/\Kp a m i:=by
 haveI hl:F.gu.length=x.length+c.length+1:=by refine Rr r ?_;simp[Gs];exact eR (au _ _) (.a (.v 0)<|.p 1 1) (.a (.a (.v 0)<|.v 1)<|.n 1) rfl
 obtain⟨i,u,l⟩:=Gk D n y l o (af (au _ _) (.a (.v 0)<|.p 1 1) (.n 99999) (.a (.v 0)<|.p 1 1) (.n 200000) j rfl) c [] iP (F.gu.length-1) e m f b (by rw[Qc];exact r) (by refine Rr hl ?_;lia) (aO (b8 _ _ _ _) (.a (.a (.v 0)<|.v 1)<|.n 1) (.v 2) (.a (.v 2)<|.p 3 1) (.n 99999) (.p 1 1) (.n 100000) (i4 hl) j rfl) w s;refine⟨i,gP ?_,l⟩;haveI t:iF it 0=false:=by rcases o with h|h<;>exact Rr h rfl<;>rfl
 exact ah (.B 0 t<|.V 2 (tg (k:=k)<|af (au _ _) (.a (.v 0)<|.p 1 1) (.n 99999) (.a (.v 0)<|.v 1) (.n 200000) j rfl)<|.Y 1 u .nil) 0 et
end
section
inductive MO where|nx|brk|again|fin|stop|bad|thr(it g r:Int)
noncomputable def MO.ctorIdx(v:MO):Nat:=MO.casesOn v 0 1 2 3 4 5 λξ ξ ξ=>6
structure MC where
 gw:Int
 own:ba
 its:List Int
abbrev FS:=MC->Me->Nat×Me×MO
theorem iU{c b:Nat}{e1 e':Me}{o a:MO}(h:(b,e1,a)=(c,e',o)):c=b/\e'=e1/\o=a:=⟨(congrArg (λz=>z.1) h).symm,(congrArg (λz=>z.2.1) h).symm,(congrArg (λz=>z.2.2) h).symm⟩
theorem ti{P:Prop}{c b:Nat}{e e':Me}(h:(b,e,MO.bad)=(c,e',o))(a:o≠.bad):P:=absurd (iU h).2.2 a
theorem iV(d:z=(b,e1,a)){P:Nat->Me->MO->Prop}(k:P b e1 a):∀c e' o,z=(c,e',o)->P c e' o:=by subst d;intro c e' o h;cases h;exact k
noncomputable def jP(k:Int):AV:=.tup [.int k,.none]
noncomputable def aC:MO->AV|.nx=>jP 0|.brk=>jP 1|.again=>jP 2|.fin=>jP 3|.stop=>jP 5|.bad=>jP 0|.thr i g r=>.tup [.int 4,ew i g r]
structure d5(F:Fx)(a:Nat)(cx:MC)(N h:Nat):Prop where
 ok:cM F a
 nv:N<=F.nv
 n2:2<N
 gu:∃b0 aw,F.gu=b0++cp cx.gw .none aw::Gs a cx.own
 rows:rG F.nv cx.own
 ca:aa F.ca a=some (.list<|cx.its.reverse.map .int)its:∀i∈cx.its,i=2\/i=3
 gl:F.gu.length+h<=50000
 cl:cx.its.length+h<=50000
noncomputable def bp(s:AV)(M:FS)(N h:Nat)(q:Bool):Prop:=∀(F:Fx)(a:Nat)(cx:MC),d5 F a cx N h->(q=true->cx.its≠[])->∀(e:Me)(c:Nat)(e':Me)(o:MO),M cx e=(c,e',o)->o≠.bad->∀(m:Md)(f n b D:Nat),En e m a (b+3*c)->Pp F e' a b f (n+h) m λσ=>rn (D+h) false 743 [E,.ref 1 a,s] (sg F e m (f+c)<|n+h)=.ok (aC o) σ
variable{F:Fx}{e:Me}{m:Md}{f n D a b:Nat}
noncomputable def mf(k v:Int):AV:=.fi 389 [(zs9,.int k),(zs18,.int 12),(zs31,.fl [.int v]),(zs32,.none),(zs7,.fl []),(zs33,.int 0),(zs34,.none)]
noncomputable def Me.lg(e:Me)(v:Int):Me:=⟨e.g,e.sn,e.th++[mf (e.th.length+4:Nat) v]⟩
theorem H6(F:Fx)(e:Me)(m:Md)(f n:Nat)(v:Int)(h:e.th.length+b<=200000):rn (D+3) false 694 [E,.int v] (sg F e m f n)=.ok (.int (e.th.length+4:Nat)) (sg F (e.lg v) m f n):=ak<|aG 0 (show rn (D+2) false 764 [E,.int 12,.fl [.int v]] (sg F e m f n)=.ok (.int<|e.th.length+4) (sg F (e.lg v) m f n)from ak<|ah (.V 2 (show(if aE (cN e)=true then some<|AV.int (cN e).length else none)=some (.int<|e.th.length+4)from if_pos<|kl h)<|.C 2 (i8 D 389 [.int<|e.th.length+4,.int 12,.fl [.int v]] (mf (e.th.length+4) v)<|sg F e m f n)<|.O 1 (show(if aE (cN e)=true then some<|AO.list<|cN e++[mf (e.th.length+4) v]else none)=some (.list<|cN e++[mf (e.th.length+4) v])from if_pos<|kl h) .nil) 0 ae)<|az 0 ae
theorem En.lg(h:En e m a<|b+1)(v:Int):En (e.lg v) m a b:=by obtain⟨⟨L,c⟩,d,g⟩:=h;refine⟨⟨L,c.li,Qh (Qk _) c.sz,c.no,c.ce⟩,d,?_⟩;refine Rr Qa ?_;exact af (au _ _) (.a (.v 0)<|.p 1 1) (.n 200000) (.a (.p 0 1)<|.v 1) (.n 200000) g rfl
noncomputable def AL(v:Int):FS:=λξ e=>(2,e.lg v,.nx)
theorem H9(v:Int){q:Bool}:bp (.tup [.int 1,.tup [.int 29,.int 7,.int v]]) (AL v) N 16 q:=by intro F a cx hC _ e;refine iV rfl ?_;intro g m f n b D d;haveI r:rn (D+13) false 1423 [rl 1426,E,.ref 1 a,.tup [.int 29,.int 7,.int v]] (sg F e m f<|n+12)=.ok (.int<|e.th.length+4) (sg F (e.lg v) m f<|n+12):=ak<|ah (.C 2 (jM F e m f (n+12) (.ref 1 a)<|.int v)<|.C 0 (H6 F e m f (n+12) v d.th) .nil) 0 ae;exact⟨m,BZ<|ak<|aG 1 (Nr r)<|az 0 ae,(d.lg v).dec.dec.dec.dec.dec,.rfl⟩
noncomputable abbrev fP(l:Int)(x:AV):AV:=.tup [.int 1,.tup [.int 22,.int 7,xL l,x]]
noncomputable def cS(l:Nat)(v:Vm):FS:=λξ e=>(3,e.s l<|v.val e.g,.nx)
theorem Vm.le(h:N<=c){v:Vm}(k:v.ok N):v.ok c:=by
 rcases v with _|_;·trivial
 ·exact⟨k.1,Nat.lt_of_lt_of_le k.2 h⟩
theorem m9{v:Vm}(r:0<l)(z:l<N)(B:v.ok N){q:Bool}:bp (fP l v.av) (cS l v) N 16 q:=by intro F a cx hC _ e;refine iV rfl ?_;intro J m f n b D G;obtain⟨I,i,x,j,u⟩:=rdy (D+6) hC.ok G (f+1) (n+10) r<|Nat.lt_of_lt_of_le z hC.nv;obtain⟨t,w,o,h⟩:=BY (D+6) hC.ok j.en f (n+10)<|Vm.le hC.nv B;haveI c:=j.rd h o;haveI A:=(c.set<|v.val e.g).1;haveI y:=(c.set<|v.val e.g).2;haveI H:rn (D+14) false 736 [E,.ref 1 a,.tup [.int 22,.int 7,xL l,v.av]] (sg F e m (f+2)<|n+14)=.ok (.int<|v.val e.g) (sg F (e.s l<|v.val e.g) (t.cset i<|.int<|v.val e.g) f<|n+14):=Np<|ak<|ah (.C 1 x<|.C 1 w<|.C 1 (wr F e f (n+10) (.ref 1 a) (.int<|v.val e.g) l c.ce) .nil) 0 ae;exact⟨_,BZ<|ak<|aG 1 H<|az 0 ae,A.le<|aK (ai _) (.v 0) (.p 0 7) rfl,(u.k.trans h.k).trans y⟩
theorem qV(D n:Nat)(hC:d5 F a cx N h)(t:Int)(l:it=2\/it=3)(e:Me)(m:Md)(f b:Nat)(j:En e m a<|b+3*(aT cx.gw it cx.own e).1):∃c,rn (D+11) false 1023 [rl 1026,E,.ref 1 a,.tup [.int t,xH<|.int it]] (sg F e m (f+(aT cx.gw it cx.own e).1+1)<|n+7)=.ex (ew it (aT cx.gw it cx.own e).2.2.1 (aT cx.gw it cx.own e).2.2.2) (sg F (aT cx.gw it cx.own e).2.1 c f<|n+7)/\En (aT cx.gw it cx.own e).2.1 c a b/\Kp a m c:=by refine hC.gu.elim λo g=>g.elim λaw k=>?_;obtain⟨c,r,i⟩:=zx D n hC.ok (Nat.lt_of_lt_of_le hC.n2 hC.nv) l (by haveI:=hC.gl;exact af (au _ _) (.a (.v 0)<|.v 1) (.n 50000) (.a (.v 0)<|.p 1 1) (.n 99999) this rfl) k hC.rows e m f b j;exact⟨c,gP<|ah (.C 2 (AF F e m (f+(aT cx.gw it cx.own e).1) (n+5) (.ref 1 a)<|.int it)<|.X 0 r .nil) 0 et,i⟩
noncomputable def hN(k:Nat)(it:Int):FS:=λcx e=>((aT cx.gw it cx.own e).1+k,(aT cx.gw it cx.own e).2.1,.thr it (aT cx.gw it cx.own e).2.2.1 (aT cx.gw it cx.own e).2.2.2)
theorem Ia(d:it=2\/it=3){q:Bool}:bp (.tup [.int 13,xH<|.int it]) (hN 2 it) N 16 q:=by intro F a cx hC _ e;refine iV rfl ?_;intro j m f n b D c;obtain⟨h,r,g,i⟩:=qV (D+4) (n+7) hC 13 d e m f b<|c.le<|aK (au _ _) (.a (.v 0)<|.m 3<|.v 1) (.a (.v 0)<|.m 3<|.p 1 2) rfl;exact⟨h,AG r,g,i⟩
noncomputable abbrev xR(n:Int):AV:=.tup [.int 99,xH<|.int n]
theorem Gm{l N:Nat}(w:0<l)(d:l<N){it:Int}(u:it=2\/it=3){q:Bool}:bp (fP l<|xR it) (hN 4 it) N 16 q:=by intro F a cx hC _ e;refine iV rfl ?_;intro z m f n b D h;obtain⟨j,i,s,t,p⟩:=rdy (D+6) hC.ok h (f+(aT cx.gw it cx.own e).1+2) (n+10) w<|Nat.lt_of_lt_of_le d hC.nv;obtain⟨g,r,d,x⟩:=qV D (n+3) hC 99 u e j f b<|t.en.le<|aK (au _ _) (.a (.v 0)<|.m 3<|.v 1) (.a (.a (.v 0)<|.m 3<|.v 1)<|.n 11) rfl;haveI o:=AI r;refine⟨g,Pm (n':=n+10)<|gP ?_,d,p.k.trans x⟩;haveI y:rn (D+14) false 736 [E,.ref 1 a,.tup [.int 22,.int 7,xL l,xR it]] (sg F e m (f+(aT cx.gw it cx.own e).1+3)<|n+14)=.ex (ew it (aT cx.gw it cx.own e).2.2.1 (aT cx.gw it cx.own e).2.2.2) (sg F (aT cx.gw it cx.own e).2.1 g f<|n+10):=Nq<|gP<|ah (.C 1 s<|.X 1 o .nil) 0 et;exact pQ 1 y<|az 0 et
theorem EG:bp (.tup [.int 13,.none]) (λcx=>hN 1 (cx.its.headD 0) cx) N 16 true:=by intro F a cx hC l e;refine iV rfl ?_;intro x m f n b D h;obtain⟨y,aw,s⟩:=hC.gu;cases c:cx.its with|nil=>exact absurd c<|l rfl|cons it r=>
  rw[c]at h;haveI g:=hC.its it (by refine Rr c ?_;exact Qj);obtain⟨o,t,u,w⟩:=zx (D+4) (n+7) hC.ok (Nat.lt_of_lt_of_le hC.n2 hC.nv) g (by haveI:=hC.gl;exact af (ai _) (.p 0 16) (.n 50000) (.a (.v 0)<|.n 17) (.n 99999) this rfl) s hC.rows e m f b<|h.le<|aK (au _ _) (.a (.v 0)<|.m 3<|.v 1) (.a (.v 0)<|.m 3<|.p 1 1) rfl;refine⟨o,AG (n':=n+14)<|gP ?_,u,w⟩;haveI d:=hC.ca;haveI hl:=hC.cl;rw[c]at d hl;rw[show(it::r).reverse.map AV.int=r.reverse.map AV.int++[.int it]by simp]at d;haveI e1:(r.reverse.map AV.int++[AV.int it]).length=r.length+1:=by simp
  haveI k:(r.reverse.map AV.int++[AV.int it]).length+0<=200000:=by refine Rr e1 ?_;haveI:=hl;exact af (ai _) (.a (.p 0 1)<|.n 16) (.n 50000) (.a (.p 0 1)<|.n 0) (.n 200000) this rfl
  haveI g:bG (r.reverse.map AV.int++[AV.int it]) ((r.reverse.map AV.int++[AV.int it]).length-1)=some (.int it):=dZ (by refine Rr e1 ?_;simp) (eI _ _ _) k;exact ah (.O 1 hC.ok.ac<|.O 0 hC.ok.ac<|.O 0 d<|.V 0 (tg k)<|.O 1 d<|.V 0 g<|.X 0 t .nil) 0 et
theorem Ib(h:k=10/\o=.brk\/k=11/\o=.again\/k=17/\o=.fin){q:Bool}:bp (.tup [.int k]) (λg e=>(1,e,o)) N 16 q:=by
 intro F a cx hC _ e;refine iV rfl ?_;intro d m f n b D c;clear d;rcases h with⟨rfl,rfl⟩|⟨rfl,rfl⟩|⟨rfl,rfl⟩;·exact⟨m,Nl<|ak<|az 0 ae,c.le<|aK (ai _) (.v 0) (.a (.v 0)<|.m 3<|.n 1) rfl,.rfl⟩
 ·exact⟨m,Nm<|ak<|az 0 ae,c.le<|aK (ai _) (.v 0) (.a (.v 0)<|.m 3<|.n 1) rfl,.rfl⟩
 ·exact⟨m,Nn<|ak<|az 0 ae,c.le<|aK (ai _) (.v 0) (.a (.v 0)<|.m 3<|.n 1) rfl,.rfl⟩
end
section
variable{F F1 F2:Fx}{e e1 e2:Me}{m:Md}{f n f1 n1 f2 n2 D a b b1 b2:Nat}{Q Q1 Q2:AS->Prop}
abbrev Z3:=Nat×Me×MO
noncomputable def jD(z:Z3)(k:Me->Z3):Z3:=match z.2.2 with|.nx=>((k z.2.1).1+z.1,(k z.2.1).2)|_=>z
noncomputable def hU:List FS->FS|[],_,e=>(0,e,.nx)|M::r,cx,e=>jD (M cx e)<|hU r cx
theorem Gn{P:Prop}(h:jD z k=(c,e',o))(j:∀d e1 g,z=(d,e1,.nx)->k e1=(g,e',o)->c=g+d->P)(i:z=(c,e',o)->o≠.nx->P):P:=by obtain⟨d,e1,l⟩:=z;cases l with|nx=>haveI q:=iU h;exact j d e1 (k e1).1 rfl (Rr q.2.1<|Rr q.2.2 rfl) q.1|_=>exact i h λk=>by injection(iU h).2.2.symm.trans k
theorem b3(b d c:Nat):b+3*(c+d)=b+3*c+3*d:=by rw[Nat.mul_add,Nat.add_assoc]
noncomputable abbrev Nw:dc:=d4 750 59<|aa (bI 750) 2
noncomputable abbrev AM(A s w k:AV):aq:=[(q "ev",E),(q "act",A),(q "stmts",s),(q "flow",w),(q "nested",k)]
theorem EH(hC:d5 F a cx N h)(v:K=true->cx.its≠[])(H:aL (λs M=>bp s M N h K) x y):∀(e:Me)(c:Nat)(e':Me)(o:MO),hU y cx e=(c,e',o)->o≠.bad->∀(m:Md)(f n b D:Nat),En e m a (b+3*c)->Pp F e' a b f (n+h) m λB=>(bk Nw x (AM (.ref 1 a) full (jP 0) k)<|sg F e m (f+c)<|n+h).ev (rn<|D+h)=.go .next (AM (.ref 1 a) full (aC o) k) B:=by induction H with|nil=>intro e;refine iV rfl ?_;intro d m f n b D g;exact .ret rfl g|@cons s M x y w _ C=>
    intro e c e' o j d m f n b D g;refine Gn j (λJ e1 z i I G=>?_) λi l=>?_
    ·clear j;subst G;rw[b3]at g;refine Pp.bind (w F a cx hC v e J e1 .nx i (λh=>by injection h) m (f+z) n _ D g) λu r p=>?_;refine(C e1 z e' o I d u f n b D p).map λL A=>?_;rw[<-Nat.add_assoc f];exact aG 0 r<|de 2 A
    · refine Pp.map (w F a cx hC v e c e' o i d m f n b D g) λu r=>?_;revert r l d;clear j i;cases o<;>intro d l r;·exact absurd rfl l
      ·exact aG 0 r<|az 2 ae
      ·exact aG 0 r<|az 2 ae
      ·exact aG 0 r<|az 2 ae
      ·exact aG 0 r<|az 2 ae
      ·exact absurd rfl d
      ·exact aG 0 r<|az 2 ae
theorem Ic(hC:d5 F a cx N<|h+1)(t:u=true->cx.its≠[])(H:aL (λs M=>bp s M N (h+1) u) g w)(l:hU w cx e=(c,e',o))(p:o≠.bad)(m:Md)(f n b D:Nat)(j:En e m a<|b+3*c):Pp F e' a b f (n+(h+2)) m λv=>rn (D+(h+2)) false 750 [E,.ref 1 a,.tup g] (sg F e m (f+c)<|n+(h+2))=.ok (aC o) v:=Pp.map (EH (full:=.tup g) (k:=.int<|870-(n+(h+1)+1:Nat)) hC t H e c e' o l p m f n b D j) λx r=>ak<|ah (.C 0 (bR F e m (f+c) (n+(h+1)) 1)<|.P 1 r .nil) 1 ae
noncomputable def uB(s:AV):Prop:=∃k r,s=.tup (.int k::r)/\iF k 6=false/\r.length<=1000
theorem Gp(hC:d5 F a cx N<|h+1)(I:T=true->cx.its≠[])(H:aL (λs M=>bp s M N (h+1) T) d U)(A:∀s∈d,uB s)(w:d.length<=1000)(K:hU U cx e=(c,e',o))(G:o≠.bad)(m:Md)(f n b D:Nat)(z:En e m a<|b+3*c):Pp F e' a b f (n+(h+2)) m λJ=>rn (D+(h+3)) false 888 [rl 891,E,.ref 1 a,.tup [.int 3,.tup d,.int 0]] (sg F e m (f+c)<|n+(h+2))=.ok (aC o) J:=Pp.map (Ic hC I H K G m f n b D z) λW r=>ak<|by
  haveI hl:(if aE d=true then some<|AV.int d.length else none)=some (AV.int d.length):=if_pos<|br<|af (ai _) (.v 0) (.n 1000) (.p 0 0) (.n 300000) w rfl;clear H;rcases d with _|⟨s,t⟩;·exact ah (.O 0 hC.ok.ac<|.C 3 (jC F e m (f+c) (n+(h+2))<|.ref 1 a)<|.C 4 r .nil) 0 ae
  ·clear w;rcases t with _|⟨X,t⟩;·obtain⟨k,x,rfl,L,P⟩:=A s Qj;exact ah (.O 0 hC.ok.ac<|.C 3 (jC F e m (f+c) (n+(h+2))<|.ref 1 a)<|.V 5 (f5 (l:=.int k::x) (i:=0) (k:=0) rfl<|af (ai _) (.v 0) (.n 1000) (.a (.p 0 1)<|.n 0) (.n 200000) P rfl)<|.B 0 L<|.C 1 r .nil) 0 ae
   ·exact ah (.O 0 hC.ok.ac<|.C 3 (jC F e m (f+c) (n+(h+2))<|.ref 1 a)<|.V 1 hl<|.C 2 r .nil) 0 ae
noncomputable def fh(k:Nat)(z:Z3):Z3:=(z.1+k,z.2)
theorem j4{P:Prop}(h:fh k z=(c,e',o))(H:∀d,z=(d,e',o)->c=d+k->P):P:=by obtain⟨d,e1,g⟩:=z;haveI q:=iU h;exact H d (Rr q.2.1<|Rr q.2.2 rfl) q.1
theorem d5.sub(H:d5 F a cx N h)(k:c<=h):d5 F a cx N c:=⟨H.ok,H.nv,H.n2,H.gu,H.rows,H.ca,H.its,Qh (Qo k _) H.gl,Qh (Qo k _) H.cl⟩
theorem mh(D:Nat)(j:cM F a)(d:En e m a<|b+1)(f n:Nat)(o:0<l)(i:l<F.nv):Pp F e a b f (n+2) m λp=>rn (D+6) false 736 [E,.ref 1 a,xL l] (sg F e m (f+1)<|n+2)=.ok (.int<|e.g l) p:=(uw D j d f n o i).elim λr h=>⟨r,h.1,h.2.1,h.2.2.k⟩
noncomputable def gh(Ms:List FS):FS:=λcx e=>fh 1<|hU Ms cx e
theorem ny(H:aL (λs M=>bp s M N (h+1) p) d v)(t:∀s∈d,uB s)(u:d.length<=1000):bp (.tup [.int 3,.tup d,.int 0]) (gh v) N (h+4) p:=by intro F a cx hC j e c e' o g k m f n b D i;refine j4 g λy w l=>?_;clear g;subst l;exact(Gp (hC.sub<|Qi _ 3) j H t u w k m f n b D<|i.le<|Qi _ 3).map λx r=>Pn r
noncomputable def uC(l:Nat)(A B:FS):FS:=λcx e=>fh 2<|if e.g l=1 then A cx e else B cx e
theorem ye{A B:FS}(I:0<l)(O:l<N)(K:bp y A N (h+6) G)(hB:(z=.none/\B=λP e=>(0,e,.nx))\/(∃s,z=.tup s)/\bp z B N (h+6) G):bp (.tup [.int 4,xL l,y,z]) (uC l A B) N (h+8) G:=by
  intro F a cx hC t e c e' o w u m f n b D M;refine j4 w λr i H=>?_;clear w;subst H;haveI L:=Nat.lt_of_lt_of_le O hC.nv;haveI hC:=hC.sub<|Qi _ 2;refine Pp.bind (mh (D+h) hC.ok M (f+r) (n+(h+4)) I L) λv j d=>?_;haveI d:=d.le<|Qi _ 5;by_cases k:e.g l=1;·rw[if_pos k]at i;refine(K F a cx hC t e r e' o i u v f n b D d).map λJ p=>ux<|ak ?_;rw[k]at j;exact ah (.C 1 j<|.C 2 p .nil) 0 ae
  · rw[if_neg k]at i;haveI x:=eK k;rcases hB with⟨rfl,rfl⟩|⟨⟨s,rfl⟩,hB⟩;·obtain⟨rfl,rfl,rfl⟩:=iU i;exact .ret (ux<|ak<|ah (.C 1 j<|.B 0 x .nil) 1 ae) d
    ·exact(hB F a cx hC t e r e' o i u v f n b D d).map λJ p=>ux<|ak<|ah (.C 1 j<|.B 0 x<|.C 2 p .nil) 0 ae
end
section
variable{F F1 F2:Fx}{e e1 e2:Me}{m:Md}{f n f1 n1 f2 n2 D a b b1 b2:Nat}{Q Q1 Q2:AS->Prop}
noncomputable def bZ:MO->Bool|.nx=>true|.again=>true|_=>false
noncomputable def cK:MO->MO|.brk=>.nx|o=>o
noncomputable def jQ(l:Nat)(B:FS):Nat->FS|0,_,e=>(0,e,.bad)|n+1,cx,e=>if e.g l=1 then bif bZ (B cx e).2.2 then((jQ l B n cx (B cx e).2.1).1+((B cx e).1+1),(jQ l B n cx (B cx e).2.1).2)else((B cx e).1+1,(B cx e).2.1,cK (B cx e).2.2)else(1,e,.nx)
noncomputable abbrev pz:=uy 940 59<|aa (bI 940) 0
noncomputable abbrev pA:=uA 940 59<|aa (bI 940) 0
noncomputable abbrev iW(A s:AV):aq:=[(q "self",rl 943),(q "ev",E),(q "act",A),(q "s",s)]
noncomputable def Pw(o:MO)(l:aq)(s:S)(σ:AS):Prop:=s=.go (.ret<|aC o) [] σ\/o=.nx/\s=.go .next l σ
theorem mA(F:Fx)(e:Me)(m:Md)(f n:Nat)(h:o≠.bad):rn (D+1) false 919 [aC o] (sg F e m f n)=.ok (.bool<|bZ o) (sg F e m f n):=ak<|by
 cases o;·(exact az 3 ae)
 ·(exact az 5 ae)
 ·(exact az 5 ae)
 ·(exact az 5 ae)
 ·(exact az 5 ae)
 ·exact absurd rfl h
 ·(exact az 5 ae)
theorem AN(F:Fx)(e:Me)(m:Md)(f n:Nat)(h:o≠.bad):rn (D+1) false 926 [aC o] (sg F e m f n)=.ok (aC<|cK o) (sg F e m f n):=ak<|by
 cases o;·(exact az 2 ae)
 ·(exact az 2 ae)
 ·(exact az 2 ae)
 ·(exact az 2 ae)
 ·(exact az 2 ae)
 ·exact absurd rfl h
 ·(exact az 2 ae)
theorem Gq(hC:d5 F a cx N<|h+6)(X:qq=true->cx.its≠[])(H:bp body B N (h+6) qq)(U:0<l)(T:l<F.nv):∀(k W:Nat),k<=W->∀(e:Me)(c:Nat)(e':Me)(o:MO),jQ l B k cx e=(c,e',o)->o≠.bad->∀(m:Md)(f n b D:Nat),En e m a (b+3*c)->Pp F e' a b f (n+(h+6)) m λy=>Pw o (iW (.ref 1 a)<|.tup [.int 5,xL l,body]) ((i7 pz pA W (iW (.ref 1 a)<|.tup [.int 5,xL l,body])<|sg F e m (f+c)<|n+(h+6)).ev<|rn<|D+(h+6)) y:=by intro k;induction k with|zero=>intro W O e;exact iV rfl λJ=>absurd rfl J|succ k ih=>intro W O e c e' o i J m f n b D L;cases W with|zero=>exact absurd O<|Nat.not_succ_le_zero _|succ W=>
  haveI i:(if e.g l=1 then bif bZ (B cx e).2.2 then((jQ l B k cx (B cx e).2.1).1+((B cx e).1+1),(jQ l B k cx (B cx e).2.1).2)else((B cx e).1+1,(B cx e).2.1,cK (B cx e).2.2)else(1,e,.nx))=(c,e',o):=i;by_cases I:e.g l=1;·rw[if_pos I]at i;cases hB:B cx e with|mk j z=>obtain⟨G,A⟩:=z;rw[hB]at i;cases d:bZ A with
   |true=>
    haveI i:=by haveI e1:=i;rw[d]at e1;exact e1
    refine j4 i λr k1 hc=>?_;clear i;clear i;subst hc;refine Pp.bind (mh (b:=b+3*r+3*j) (D+h) hC.ok (L.le<|aK (aH _ _ _) (.a (.a (.a (.v 0)<|.m 3<|.v 1)<|.m 3<|.v 2)<|.n 1) (.a (.v 0)<|.m 3<|.a (.v 1)<|.p 2 1) rfl) (f+r+j) (n+(h+4)) U T) λK u s=>?_;refine Pp.bind (H F a cx hC X e j G A hB (λq=>by rw[q]at d;injection d) K (f+r) n (b+3*r) D s) λx P M=>?_;refine(ih W (Nat.le_of_succ_le_succ O) G r e' o k1 J x f n b D M).map λm3 w=>?_;rw[I]at u;refine Rr (show f+(r+(j+1))=f+r+j+1 from eR (aH _ _ _) (.a (.v 0)<|.a (.v 1)<|.p 2 1) (.a (.a (.a (.v 0)<|.v 1)<|.v 2)<|.n 1) rfl) ?_;haveI V:∀{t:S},(i7 pz pA W (iW (.ref 1 a)<|.tup [.int 5,xL l,body])<|sg F G x (f+r)<|n+(h+6)).ev (rn<|D+(h+6))=t->(pz (iW (.ref 1 a)<|.tup [.int 5,xL l,body]) (sg F e m (f+r+j+1)<|n+(h+6)) (λb y=>bif b then pA (iW (.ref 1 a)<|.tup [.int 5,xL l,body]) y (turn (i7 pz pA W)<|iW (.ref 1 a)<|.tup [.int 5,xL l,body]) i6 else lZ .next (iW (.ref 1 a)<|.tup [.int 5,xL l,body]) y) λe y=>zW e (iW (.ref 1 a)<|.tup [.int 5,xL l,body]) y).ev (rn<|D+(h+6))=t:=λw=>by
     haveI g:=mA (D:=D+h+5) F G x (f+r) (n+(h+6)) (o:=A) λq=>by rw[q]at d;exact fT d 
     rw[d]at g;exact bH (.C 1 u<|.C 2 P<|.C 0 g .nil) 1 w
    exact w.imp V λw=>⟨w.1,V w.2⟩|false=>
    haveI i:(j+1,G,cK A)=(c,e',o):=by haveI e1:=i;rw[d]at e1;exact e1
    obtain⟨rfl,rfl,rfl⟩:=iU i;refine Pp.bind (mh (b:=b+3*j) (D+h) hC.ok (L.le<|aK (au _ _) (.a (.a (.v 0)<|.m 3<|.v 1)<|.n 1) (.a (.v 0)<|.m 3<|.p 1 1) rfl) (f+j) (n+(h+4)) U T) λK u s=>?_;refine Pp.map (H F a cx hC X e j e' A hB (λq=>J<|by refine Rr q ?_;rfl) K f n b D s) λx P=>Or.inl ?_;rw[I]at u;haveI Y:A≠.bad:=λq=>J (by refine Rr q ?_;rfl);haveI g:=mA (D:=D+h+5) F e' x f (n+(h+6)) Y;rw[d]at g;exact ah (.C 1 u<|.C 2 P<|.C 0 g<|.C 1 (AN F e' x f (n+(h+6)) Y) .nil) 0 ae
  ·rw[if_neg I]at i;obtain⟨rfl,rfl,rfl⟩:=iU i;refine(mh (D+h) hC.ok (L.le<|aK (ai _) (.p 0 1) (.a (.v 0)<|.m 3<|.n 1) rfl) f (n+(h+4)) U T).map λK u=>.inr ⟨rfl,?_⟩;haveI hx:=eK I;exact ah (.C 1 u<|.B 0 hx .nil) 0 ae
noncomputable def B8(l:Nat)(B:FS)(k:Nat):FS:=λcx e=>fh 1<|jQ l B k cx e
theorem Kl(t:0<l)(z:l<N)(H:bp body B N (h+6) j)(y:k<=100):bp (.tup [.int 5,xL l,body]) (B8 l B k) N (h+8) j:=by
 intro F a cx hC w e c e' o d i m f n b D g;refine j4 d λx u s=>?_;clear d;subst s;refine(Gq (hC.sub<|Qi _ 2) w H t (Nat.lt_of_lt_of_le z hC.nv) k iP (af (ai _) (.v 0) (.n 100) (.v 0) (.n 100000) y rfl) e x e' o u i m f n b D<|g.le<|aK (au _ _) (.a (.v 0)<|.m 3<|.v 1) (.a (.v 0)<|.m 3<|.p 1 1) rfl).map λA r=>Po<|ak ?_;rcases r with r|⟨rfl,r⟩;·exact eT 0 r<|az 0 ae
 ·exact eT 0 r<|az 0 ae
end
section
variable{F F1 F2:Fx}{e e1 e2:Me}{m:Md}{f n f1 n1 f2 n2 D a b b1 b2:Nat}{Q Q1 Q2:AS->Prop}
noncomputable def Fx.ca_(F:Fx)(ca:List AO):Fx:=⟨F.c0,F.c1,F.c2,F.c3,F.c4,F.c5,F.c6,F.c7,F.c12,F.c16,F.c17,F.c24,F.c32,F.c37,F.c38,F.c39,F.dn,F.nv,F.no,F.vs,F.gu,F.ac,ca,F.cu,F.sk,F.fr,F.it,F.im,F.hl⟩
theorem sq(F:Fx)(e:Me)(m:Md)(f n:Nat)(s:AV)(N:Int)(h:o≠.bad)(i:∀it r,o≠.thr it N r):rn (D+1) false 1035 [s,.int N,aC o] (sg F e m f n)=.ok .none (sg F e m f n):=ak<|by cases o with|thr it g r=>have d:iF g N=false:=eK λq=>i it r<|Rr q rfl;exact eE 3 d<|az 0 ae|bad=>exact absurd rfl h|_=>(exact az 2 ae)
theorem Ie{v:AV}(d:bV r=some i)(j:aa rs i=some v)(hl:rs.length<=1000):(if aE rs=true then(seqIndex? r rs.length).bind<|aa rs else none)=some v:=by
 rcases r with k|k;·haveI d:=sI d;subst d;exact f5 j<|af (ai _) (.v 0) (.n 1000) (.p 0 0) (.n 200000) hl rfl
 ·exact nS d
theorem zy(F:Fx)(e:Me)(m:Md)(f n:Nat)(k b l:AV)(N it:Int)(g:bV r=some i)(h:aa rs i=some v)(hl:rs.length<=1000):rn (D+1) false 1035 [.tup [k,b,.tup rs,l],.int N,aC<|.thr it N r] (sg F e m f n)=.ok v (sg F e m f n):=ak<|ah (.B 3 (gy N)<|.V 2 (Ie g h hl) .nil) 0 ae
noncomputable def dB(o o2:MO):MO:=match o2 with|.nx=>o|o2=>o2
theorem AP(F:Fx)(e:Me)(m:Md)(f n:Nat)(h:c≠.bad):rn (D+1) false 1056 [aC o,aC c] (sg F e m f n)=.ok (aC<|dB o c) (sg F e m f n):=ak<|by cases c with|bad=>exact absurd rfl h|_=>(exact az 2 ae)
theorem dM{d:Type}{a:List AV}{τ:d->AS}{x y:d}(e:x=y)(h:(code TP LL i f a j).ev (rn D)=.go (.ret v) [] (τ x))(g:τ y=c:=by kernel_rfl)(p:TP.kd f=0:=by kernel_rfl):rn (D+1) i f a j=.ok v c:=ak (Rr h<|Rr e<|Rr g rfl) p
theorem mR(h:aa l i=some x):aD (λg=>x) l i=l:=by induction l generalizing i with|nil=>rfl|cons y r d=>cases i with|zero=>haveI h:=sI h;clear d;subst h;rfl|succ i=>exact congrArg (λg=>y::g)<|d h
noncomputable abbrev fj(F:Fx)(a:Nat)(l:List AV)(it:Int):Fx:=F.ca_<|aD (λξ=>.list<|l++[.int it]) F.ca a
theorem Km(d:cM F a)(c:aa F.ca a=some (.list l))(hl:l.length<=100000)(e:Me)(m:Md)(f n:Nat){r:Hw}(s:r.w=true)(it g i:Int):rn (D+2) false 1042 [E,.ref 1 a,r.av,aC<|.thr it g i] (sg F e m f n)=.ok .none (sg (fj F a l it) e m f n):=by obtain⟨k,x,w,t⟩:=r;subst s;refine dM (τ:=λac=>sg ⟨F.c0,F.c1,F.c2,F.c3,F.c4,F.c5,F.c6,F.c7,F.c12,F.c16,F.c17,F.c24,F.c32,F.c37,F.c38,F.c39,F.dn,F.nv,F.no,F.vs,F.gu,ac,aD (λu=>.list<|l++[.int it]) F.ca a,F.cu,F.sk,F.fr,F.it,F.im,F.hl⟩ e m f n) (mR d.ac) ?_;exact ah (.O 0 d.ac<|.O 0 c<|.O 1 c<|.O 0 (md (af (ai _) (.v 0) (.n 100000) (.p 0 100000) (.n 200000) hl rfl)<|.int it)<|.C 2 (me (fj F a l it) e m f n t)<|.O 0 d.ac .nil) 0 ae
theorem Ko(h:cM F a)(d:aa F.ca a=some (.list l))(hl:l.length<=100000)(G:En e m a<|b+1)(j:i9 e m a (b+1) L)(f n:Nat){r:Hw}(y:r.w=false)(A:0<r.x)(it g i:Int):rn (D+2) false 1042 [E,.ref 1 a,r.av,aC<|.thr it g i] (sg F e m f n)=.ok .none (sg (fj F a l it) (e.s r.x it) (m.cnew a L r.x<|.int it) f n):=by
 obtain⟨k,x,w,u⟩:=r;subst y;refine dM (τ:=λac=>sg ⟨F.c0,F.c1,F.c2,F.c3,F.c4,F.c5,F.c6,F.c7,F.c12,F.c16,F.c17,F.c24,F.c32,F.c37,F.c38,F.c39,F.dn,F.nv,F.no,F.vs,F.gu,ac,aD (λH=>.list<|l++[.int it]) F.ca a,F.cu,F.sk,F.fr,F.it,F.im,F.hl⟩ (e.s x it) (m.cnew a L x<|.int it) f n) (mR h.ac) ?_;haveI z:(!iF x 0)=true:=by refine Rr (eK<|Int.ne_of_gt<|Int.natCast_pos.mpr A) ?_;rfl
 exact ah (.O 0 h.ac<|.O 0 d<|.O 1 d<|.O 0 (md (af (ai _) (.v 0) (.n 100000) (.p 0 100000) (.n 200000) hl rfl)<|.int it)<|.C 2 (me (fj F a l it) e m f n u)<|.C 0 (jC (fj F a l it) e m f n<|.ref 1 a)<|.B 1 z<|.O 1 h.ac<|.O 1 j.li<|.O 0 (so L x (.ref 4 m.ce.length) j.sz)<|.C 1 (me (fj F a l it) (e.s x it) (m.cnew a L x<|.int it) f n u)<|.O 0 h.ac .nil) 0 ae
noncomputable def cO(r:Hw)(it:Int)(e:Me):Me:=bif r.w then e else e.s r.x it
noncomputable def gq(N:Int)(hs:List<|Hw×FS)(cx:MC)(z:Z3):Z3:=match z.2.2 with|.thr it g r=>if g=N then match(bV r).bind<|aa hs with|some p=>if it=2\/it=3 then fh z.1<|p.2 ⟨cx.gw,cx.own,it::cx.its⟩<|cO p.1 it z.2.1 else(0,z.2.1,.bad)|none=>(0,z.2.1,.bad)else z|_=>z
theorem d5.cat(H:d5 F a cx N<|h+1)(c:it=2\/it=3):d5 (fj F a (cx.its.reverse.map .int) it) a ⟨cx.gw,cx.own,it::cx.its⟩ N h:=by
 refine⟨⟨H.ok.ac,H.ok.vs⟩,H.nv,H.n2,H.gu,H.rows,?_,λi k=>?_,Qh (Qk _) H.gl,?_⟩;·show aa (aD _ F.ca a) a=_;rw[bT,if_pos rfl,H.ca];refine Rr Qf<|Rr List.map_append ?_;rfl
 ·exact(P7 k).elim (λq=>Rr q c)<|H.its i
 ·haveI:=H.cl;exact af (au _ _) (.a (.v 0)<|.p 1 1) (.n 50000) (.a (.p 0 1)<|.v 1) (.n 50000) this rfl
theorem AQ(k:cM F a)(c:aa F.ca a=some (.list l))(hl:l.length<=100000)(d:En e m a<|b+1)(f n D:Nat)(s:0<r.x)(it g i:Int):Pp (fj F a l it) (cO r it e) a b f n m λt=>rn (D+2) false 1042 [E,.ref 1 a,r.av,aC<|.thr it g i] (sg F e m f n)=.ok .none t:=by cases h:r.w with|true=>delta cO;refine Rr h ?_;exact⟨m,Km k c hl e m f n h it g i,d.dec,.rfl⟩|false=>delta cO;refine Rr h ?_;exact d.L.elim λL o=>⟨_,Ko k c hl d o f n h s it g i,d.new o r.x it⟩
theorem EI(g:k->k)(h:aa l i=some x):aD (λc=>x) (aD g l i) i=l:=by induction l generalizing i with|nil=>rfl|cons y r d=>cases i with|zero=>haveI h:=sI h;clear d;subst h;rfl|succ i=>exact congrArg (λc=>y::c)<|d h
end
section
variable{F:Fx}{e:Me}{m:Md}{f n D a b:Nat}
theorem dS(g:j->k):∀{l:List j}{i:Nat}{x:j},aa l i=some x->aa (l.map g) i=some (g x)|_::_,0,_,h=>congrArg (λo=>o.map g) h|_::l,i+1,_,h=>dS g (i:=i) h
theorem d5.push(H:d5 F a cx N<|h+1)(g:Int)(hl:(rs.map Hw.av).length<=200000)(c:∀r∈rs,r.ok N):d5 (F.gu_<|F.gu++[cp g (.tup<|rs.map Hw.av)<|.ref 1 a]) a ⟨cx.gw,(g,rs)::cx.own,cx.its⟩ N h:=by
 refine⟨H.ok.gu,H.nv,H.n2,H.gu.imp λd k=>k.imp λaw k=>?_,λp hp=>(P7 hp).elim (λq=>q▸⟨hl,λr k=>⟨(c r k).1,(c r k).2.1,Nat.lt_of_lt_of_le (c r k).2.2 H.nv⟩⟩)<|H.rows p,H.ca,H.its,?_,Qh (Qk _) H.cl⟩;·rw[k,Qd,List.cons_append,show Gs a ((g,rs)::cx.own)=Gs a cx.own++[Gd a (g,rs)]from Qf ..];rfl
 ·show(F.gu++[_]).length+h<=_;rw[Qa,Nat.add_assoc,Nat.add_comm _ h];exact H.gl
noncomputable abbrev aW(body:AV)(rs:List AV)(last:AV):AV:=.tup [.int 14,body,.tup rs,last]
theorem tj(h:l.length+k<=100000)(x:AV):bG (l++[x]) l.length=some x:=dZ (k:=k) rfl (bM x l)<|by refine Rr Qa ?_;exact af (au _ _) (.a (.v 0)<|.v 1) (.n 100000) (.a (.p 0 1)<|.v 1) (.n 200000) h rfl
noncomputable abbrev kY(e:Me)(a:Nat)(rs:List Hw):AV:=cp ((e.sn:Int)+1) (.tup<|rs.map Hw.av)<|.ref 1 a
noncomputable abbrev Fx.ps(F:Fx)(e:Me)(a:Nat)(rs:List Hw):Fx:=F.gu_<|F.gu++[kY e a rs]
theorem AR(h:l.length+(k+1)<=100000)(x:AV):(l++[x]).length+k<=200000:=by refine Rr Qa ?_;exact af (au _ _) (.a (.v 0)<|.p 1 1) (.n 100000) (.a (.p 0 1)<|.v 1) (.n 200000) h rfl
theorem Px(hl:F.gu.length+(h+3)<=100000)(j:o≠.bad)(k:∀it r,o≠.thr it (e.sn+1) r)(i:rn (D+(h+2)) false 743 [E,.ref 1 a,body] (sg (F.ps e a rs) e.n_ m d<|n+(h+2))=.ok (aC o) (sg (F.ps e a rs) e1 g f<|n+(h+2))):rn (D+(h+3)) false 1049 [E,.ref 1 a,aW body (rs.map Hw.av) last] (sg F e m d<|n+(h+3))=.ok (aC o) (sg F e1 g f<|n+(h+3)):=ak<|ah (.C 1 (push e m d (n+(h+3)) (.tup<|rs.map Hw.av) (.ref 1 a)<|Qh hl<|bL rfl)<|.V 2 (tj hl<|kY e a rs)<|.C 0 (bR (F.ps e a rs) e.n_ m d (n+(h+2)) 1)<|.C 1 i<|.C 0 (drop (F.ps e a rs) e1 g f (n+(h+2)) rfl<|AR hl<|kY e a rs)<|.C 0 (sq F e1 g f (n+(h+2)) (aW body (rs.map Hw.av) last) (e.sn+1) j k) .nil) 1 ae
theorem Py(L:cM F a)(hl:F.gu.length+(h+3)<=100000)(s:(rs.map Hw.av).length<=1000)(Q:bV r=some i)(K:aa rs i=some p)(w:l.length<=100000)(g:aa F.ca a=some (.list l))(I:rn (D+(h+2)) false 743 [E,.ref 1 a,body] (sg (F.ps e a rs) e.n_ m t<|n+(h+2))=.ok (aC<|.thr it (e.sn+1) r) (sg (F.ps e a rs) e1 u j<|n+(h+2)))(P:rn (D+(h+2)) false 1042 [E,.ref 1 a,p.av,aC<|.thr it (e.sn+1) r] (sg F e1 u j<|n+(h+2))=.ok .none (sg (fj F a l it) J N j<|n+(h+2)))(T:rn (D+(h+2)) false 743 [E,.ref 1 a,.tup [.int 3,.tup p.ps,.int 0]] (sg (fj F a l it) J N j<|n+(h+2))=.ok (aC o) (sg (fj F a l it) A G f<|n+(h+2))):rn (D+(h+3)) false 1049 [E,.ref 1 a,aW body (rs.map Hw.av) last] (sg F e m t<|n+(h+3))=.ok (aC o) (sg F A G f<|n+(h+3)):=by
 haveI y:aa (fj F a l it).ca a=some (.list<|l++[.int it]):=by show aa (aD _ F.ca a) a=_;rw[bT,if_pos rfl,g];rfl
 haveI M:(if aE (l++[AV.int it])=true then(l++[AV.int it]).getLast? else none)=some (.int it):=Rr (if_pos<|br (k:=0)<|by refine Rr Qa ?_;exact af (ai _) (.v 0) (.n 100000) (.a (.p 0 1)<|.n 0) (.n 300000) w rfl)<|Rr List.getLast?_concat rfl;refine dM (τ:=λca=>sg (F.ca_ ca) A G f<|n+(h+3)) (x:=aD (λH=>AO.list (l++[AV.int it]).dropLast) (aD (λH=>AO.list<|l++[AV.int it]) F.ca a) a) (by refine Rr List.dropLast_concat ?_;exact EI _ g) ?_;exact ah (.C 1 (push e m t (n+(h+3)) (.tup<|rs.map Hw.av) (.ref 1 a)<|Qh hl<|bL rfl)<|.V 2 (tj hl<|kY e a rs)<|.C 0 (bR (F.ps e a rs) e.n_ m t (n+(h+2)) 1)<|.C 1 I<|.C 0 (drop (F.ps e a rs) e1 u j (n+(h+2)) rfl<|AR hl<|kY e a rs)<|.C 0 (zy F e1 u j (n+(h+2)) (.int 14) body last (e.sn+1) it Q (dS Hw.av K) s)<|.C 0 P<|.C 1 T<|.O 0 L.ac<|.O 0 y<|.O 0 y<|.V 0 M .nil) 1 ae
theorem Ig{P:Prop}(h:gq N s cx z=(c,e',o))(t:o≠.bad)(v:z=(c,e',o)->(∀it r,o≠.thr it N r)->P)(y:∀j e1 it r i p l,z=(j,e1,.thr it N r)->bV r=some i->aa s i=some p->it=2\/it=3->p.2 ⟨cx.gw,cx.own,it::cx.its⟩ (cO p.1 it e1)=(l,e',o)->c=l+j->P):P:=by obtain⟨j,e1,w⟩:=z;haveI x:=congrArg (λz=>z.2.2) h;cases w with
 |thr it g r=>
  haveI h:(if g=N then match(bV r).bind<|aa s with|some p=>if it=2\/it=3 then fh j<|p.2 ⟨cx.gw,cx.own,it::cx.its⟩<|cO p.1 it e1 else(0,e1,.bad)|none=>(0,e1,.bad)else(j,e1,.thr it g r))=(c,e',o):=h;by_cases q:g=N;·rw[if_pos q]at h;cases hp:(bV r).bind<|aa s with|none=>rw[hp]at h;exact ti h t|some p=>
    rw[hp]at h;obtain⟨i,A,hp⟩:=P5 hp;by_cases k:it=2\/it=3;·exact j4 ((if_pos k).symm.trans h) λl B G=>y j e1 it r i p l (Rr q rfl) A hp k B G
    ·exact ti ((if_neg k).symm.trans h) t
  ·haveI h:=(if_neg q).symm.trans h;exact v h λC H k=>by injection(congrArg (λz=>z.2.2) h).trans k with _ k;exact q k|_=>exact v h λit r k=>by injection x.trans k
theorem j5:∀{l:List g}{i:Nat},aa l i=some x->x∈l|_::_,0,h=>by haveI h:=sI h;subst h;exact Qj|_::l,i+1,h=>Ql _<|j5 h
theorem zz{q:Bool}(hC:d5 F a cx N<|h+3)(I:q=true->cx.its≠[])(J:bp body A N (h+2) q)(hl:(g.map λd=>d.1).length<=1000)(L:∀p∈g,p.1.ok N/\bp (.tup [.int 3,.tup p.1.ps,.int 0]) p.2 N (h+2) true)(K:gq (e.sn+1) g cx (A ⟨cx.gw,(e.sn+1,g.map λd=>d.1)::cx.own,cx.its⟩ e.n_)=(c,e',o))(t:o≠.bad)(m:Md)(f n b D:Nat)(H:En e m a<|b+3*c+1):Pp F e' a b f (n+(h+3)) m λX=>rn (D+(h+3)) false 1049 [E,.ref 1 a,aW body ((g.map λd=>d.1).map Hw.av) last] (sg F e m (f+c)<|n+(h+3))=.ok (aC o) X:=by
  have j:((g.map λd=>d.1).map Hw.av).length<=1000:=Rl (Qb ..).symm hl;have hP:=hC.push (e.sn+1) (Qh j<|bL rfl) λr w=>(List.mem_map.mp w).elim λp k=>Rl k.2 (L p k.1).1;have l:F.gu.length+(h+3)<=100000:=Qh hC.gl<|bL rfl;refine Ig K t (λz M=>?_) λV e1 it r i p u z Y hp B W P=>?_;·exact(J _ a _ hP I e.n_ c e' o z t m f n b D<|H.n_.le<|Qk _).map λT y=>Px l t M y
  ·clear K;subst P;have w:=L p<|j5 hp;refine Pp.bind (J _ a _ hP I e.n_ V e1 _ z (λk=>nomatch k) m (f+u) n (b+3*u+1) D<|H.n_.le<|aK (aH _ _ _) (.a (.a (.a (.v 0)<|.m 3<|.v 1)<|.n 1)<|.m 3<|.v 2) (.a (.a (.v 0)<|.m 3<|.a (.v 1)<|.v 2)<|.n 1) rfl) λT y x=>?_;refine Pp.bind (AQ hC.ok hC.ca (by rw[Qb,Qe];haveI:=hC.cl;exact af (au _ _) (.a (.v 0)<|.p 1 3) (.n 50000) (.v 0) (.n 100000) this rfl) x (f+u) (n+(h+2)) (D+h) w.1.2.1 it (e.sn+1) r) λQ O G=>?_;rw[<-Nat.add_assoc f];exact(w.2 _ a _ (hC.cat B) (λd k=>nomatch k) _ u e' o W t Q f n b D G).map λZ U=>Py hC.ok l j Y (dS _ hp) (by rw[Qb,Qe];haveI:=hC.cl;exact af (au _ _) (.a (.v 0)<|.p 1 3) (.n 50000) (.v 0) (.n 100000) this rfl) hC.ca y O U
end
section
variable{F:Fx}{e:Me}{m:Md}{f n D a b:Nat}
noncomputable def aR:MO->Bool|.bad=>true|_=>false
theorem pB(h:o≠.bad):aR o=false:=by cases o<;>first|rfl|exact absurd rfl h
abbrev Ls:=Option<|List AV×FS
noncomputable def Ls.av:Ls->AV|none=>.none|some p=>.tup p.1
noncomputable def ey(L:Ls)(cx:MC)(z:Z3):Z3:=match L with|none=>z|some p=>bif aR z.2.2 then(0,z.2.1,.bad)else((p.2 cx z.2.1).1+z.1,(p.2 cx z.2.1).2.1,bif aR (p.2 cx z.2.1).2.2 then .bad else dB z.2.2 (p.2 cx z.2.1).2.2)
theorem Gr{P:Prop}(h:ey L cx z=(c,e',o))(v:o≠.bad)(s:L=none->z=(c,e',o)->P)(w:∀p i e1 g r l,L=some p->z=(i,e1,g)->g≠.bad->p.2 cx e1=(r,e',l)->l≠.bad->c=r+i->o=dB g l->P):P:=by
 rcases L with _|p;·exact s rfl h
 ·clear s;obtain⟨i,e1,g⟩:=z;haveI h:(bif aR g then(0,e1,.bad)else((p.2 cx e1).1+i,(p.2 cx e1).2.1,bif aR (p.2 cx e1).2.2 then .bad else dB g (p.2 cx e1).2.2))=(c,e',o):=h;cases j:aR g with|true=>rw[j]at h;exact ti h v|false=>rw[j]at h;haveI q:=iU h;cases d:aR (p.2 cx e1).2.2 with|true=>rw[d]at q;exact absurd q.2.2 v|false=>rw[d]at q;exact w p i e1 g (p.2 cx e1).1 (p.2 cx e1).2.2 rfl rfl (λk=>by rw[k]at j;injection j) (Rr q.2.1 rfl) (λk=>by rw[k]at d;injection d) q.1 q.2.2
noncomputable def AU(A:FS)(hs:List<|Hw×FS)(L:Ls):FS:=λcx e=>fh 1<|ey L cx<|gq ((e.sn:Int)+1) hs cx<|A ⟨cx.gw,((e.sn:Int)+1,hs.map λξ=>ξ.1)::cx.own,cx.its⟩ e.n_
theorem wW{q:Bool}{L:Ls}(M:bp body A N (h+2) q)(hl:(t.map λz=>z.1).length<=1000)(K:∀p∈t,p.1.ok N/\bp (.tup [.int 3,.tup p.1.ps,.int 0]) p.2 N (h+2) true)(J:∀p,L=some p->bp (.tup p.1) p.2 N (h+3) q):bp (aW body ((t.map λz=>z.1).map Hw.av) L.av) (AU A t L) N (h+5) q:=by
 intro F a cx hC x e c e' o I l m f n b D O;refine j4 I λZ j u=>?_;clear I;subst u;have hC:=hC.sub<|Qi _ 2;refine Gr j l (λy w=>?_) λp Y e1 P g Q i w s W d u V=>?_;·clear J j;subst y;exact(zz (last:=.none) hC x M hl K w l m f n b D<|O.le<|aK (au _ _) (.a (.a (.v 0)<|.m 3<|.v 1)<|.n 1) (.a (.v 0)<|.m 3<|.p 1 1) rfl).map λH r=>AH<|ak<|aG 0 r<|az 1 ae
 ·clear l j;subst i u V;refine Pp.bind (zz (last:=.tup p.1) hC x M hl K w s m (f+g) n (b+3*g) D<|O.le<|aK (aH _ _ _) (.a (.a (.a (.v 0)<|.m 3<|.v 1)<|.m 3<|.v 2)<|.n 1) (.a (.v 0)<|.m 3<|.a (.a (.v 1)<|.v 2)<|.n 1) rfl) λH T k=>?_;refine Pp.map (J p rfl F a cx hC x e1 g e' Q W d H f n b D k) λU X=>AH (f:=f+(g+Y))<|ak ?_;rw[<-Nat.add_assoc f];exact ah (.C 0 T<|.C 2 X<|.C 0 (AP (o:=P) F e' U f (n+(h+3)) d) .nil) 0 ae
end
section
variable{F Z:Fx}{e:Me}{m:Md}{f n D a b g:Nat}
structure bC where(sk fr:List AO)fo:List Nat
structure Fm where
 i:Nat
 s:AV
 p:Int
 d:AV
noncomputable def Fm.o(t:Fm):AO:=.inst 1113 [(⟨#[115]⟩,t.s),(⟨#[112,104,97,115,101]⟩,.int t.p),(⟨#[100,97,116,97]⟩,t.d)]
noncomputable def gR(fs:List Fm):List AV:=fs.map λt=>.ref 7 t.i
structure eF(g:Nat)(x x':bC):Prop where
 sk:∀b,b≠g->aa x'.sk b=aa x.sk b
 fo:∀i b,aa x.fo i=some b->aa x'.fo i=some b
 fr:∀i b,aa x.fo i=some b->b≠g->aa x'.fr i=aa x.fr i
theorem eF.rfl:eF g x x:=⟨λc c=>Eq.refl _,λc c h=>h,λc c c c=>Eq.refl _⟩
theorem eF.trans(h:eF g x d)(k:eF g d j):eF g x j:=⟨λb c=>(k.sk b c).trans<|h.sk b c,λi p q=>k.fo i p<|h.fo i p q,λi p q hp=>(k.fr i p (h.fo i p q) hp).trans<|h.fr i p q hp⟩
structure Sk(x:bC)(g:Nat)(fs:List Fm)(f:Nat):Prop where
 sk:aa x.sk g=some (.list<|gR fs)fr:∀t∈fs,aa x.fr t.i=some t.o/\aa x.fo t.i=some g
 nd:(fs.map λξ=>ξ.i).Nodup
 ol:x.fo.length=x.fr.length
 sz:fs.length+f<=100000
noncomputable def bC.pop(x:bC)(g:Nat)(l:List AV):bC:=⟨aD (λξ=>.list l) x.sk g,x.fr,x.fo⟩
noncomputable def bC.new(x:bC)(g:Nat)(l:List AV)(s:AV):bC:=⟨aD (λξ=>.list<|l++[.ref 7 x.fr.length]) x.sk g,x.fr++[(⟨0,s,0,.none⟩:Fm).o],x.fo++[g]⟩
noncomputable def bC.set(x:bC)(t:Fm):bC:=⟨x.sk,aD (λξ=>t.o) x.fr t.i,x.fo⟩
theorem Sk.le(h:Sk x g c f)(k:d<=f):Sk x g c d:=⟨h.sk,h.fr,h.nd,h.ol,Qh (Qo k _) h.sz⟩
theorem iH(c:List Fm)(t:Fm):gR (c++[t])=gR c++[.ref 7 t.i]:=List.map_append
theorem Sk.top(h:Sk x g (d++[t]) f):aa x.fr t.i=some t.o:=(h.fr t<|List.mem_append_right _ Qj).1
theorem Sk.pop(h:Sk x g (d++[t])<|f+1):Sk (x.pop g<|gR d) g d f/\eF g x (x.pop g<|gR d):=by
 refine⟨⟨?_,λu i=>h.fr u<|List.mem_append_left _ i,?_,h.ol,?_⟩,⟨λb j=>?_,λc c k=>k,λc c c c=>rfl⟩⟩;·show aa (aD _ _ _) _=_;rw[bT,if_pos rfl,h.sk];rfl
 ·haveI:=h.nd;rw[List.map_append]at this;exact(List.nodup_append.mp this).1
 ·haveI:=h.sz;rw[Qa]at this;exact Qh (aK (aH _ _ _) (.a (.v 0)<|.v 1) (.a (.a (.v 0)<|.v 2)<|.p 1 1) rfl) this
 ·refine(?_:aa (aD _ _ _) _=_);rw[bT,if_neg<|Ne.symm j]
theorem Sk.set(h:Sk x g (j++[t]) f)(d:Fm)(c:d.i=t.i):Sk (x.set d) g (j++[d]) f/\eF g x (x.set d):=by
  haveI p:∀u∈j,u.i≠t.i:=λu k q=>by haveI:=h.nd;rw[List.map_append]at this;exact(List.nodup_append.mp this).2.2 u.i (List.mem_map_of_mem k) t.i Qj q
  refine⟨⟨?_,λu k=>?_,?_,?_,?_⟩,⟨λb l=>rfl,λo o k=>k,λi b k l=>?_⟩⟩;·rw[iH,c,<-iH];exact h.sk
  · refine(?_:aa (aD _ _ _) _=_/\_);rw[bT,c];rcases List.mem_append.mp k with k|k;·refine Rr (if_neg<|Ne.symm<|p u k) ?_;exact h.fr u<|List.mem_append_left _ k
    ·cases P9 k;refine Rr c<|Rr (if_pos rfl)<|Rr h.top ?_;exact⟨rfl,(h.fr t<|List.mem_append_right _ Qj).2⟩
  ·haveI:=h.nd;rw[List.map_append]at this⊢;show(_++[d.i]).Nodup;refine Rr c ?_;exact this
  ·show _=(aD _ _ _).length;rw[gA];exact h.ol
  ·haveI:=h.sz;rw[Qa]at this⊢;exact this
  ·show aa (aD _ _ _) _=_;rw[bT,if_neg];intro q;rw[c]at q;haveI:=(h.fr t<|List.mem_append_right _ Qj).2;rw[q,k]at this;haveI this:=sI this;clear h;subst this;exact l rfl
theorem Sk.new(h:Sk x g c<|f+1)(s:AV):Sk (x.new g (gR c) s) g (c++[⟨x.fr.length,s,0,.none⟩]) f/\eF g x (x.new g (gR c) s):=by
  refine⟨⟨?_,λu k=>?_,?_,?_,?_⟩,⟨λb d=>?_,λj j k=>cH _ k,λi b k d=>?_⟩⟩;·show aa (aD _ _ _) _=_;rw[bT,if_pos rfl,h.sk,iH];rfl
  · rcases List.mem_append.mp k with k|k;·exact⟨cH _ (h.fr u k).1,cH _ (h.fr u k).2⟩
    ·cases P9 k;exact⟨bM _ _,Rl h.ol<|bM _ _⟩
  ·rw[List.map_append];refine List.nodup_append.mpr ⟨h.nd,List.nodup_cons.mpr ⟨Qr,List.nodup_nil⟩,λu o w r q=>?_⟩;cases P9 r;obtain⟨t,l,rfl⟩:=List.mem_map.mp o;exact Nat.lt_irrefl _<|q▸dD (h.fr t l).1
  ·refine Rr Qa<|Rr Qa<|Rr h.ol ?_;rfl
  ·have:=h.sz;refine Rr Qa ?_;exact Qh (aK (au _ _) (.a (.p 0 1)<|.v 1) (.a (.v 0)<|.p 1 1) rfl) this
  ·refine(?_:aa (aD _ _ _) _=_);rw[bT,if_neg<|Ne.symm d]
  ·exact jl _ _ _<|Rl h.ol<|dD k
noncomputable def fx(Z:Fx)(a:Nat)(cx:MC)(x:bC):Fx:=⟨Z.c0,Z.c1,Z.c2,Z.c3,Z.c4,Z.c5,Z.c6,Z.c7,Z.c12,Z.c16,Z.c17,Z.c24,Z.c32,Z.c37,Z.c38,Z.c39,Z.dn,Z.nv,Z.no,Z.vs,Z.gu++Gs a cx.own,Z.ac,aD (λξ=>.list<|cx.its.reverse.map .int) Z.ca a,Z.cu,x.sk,x.fr,Z.it,Z.im,Z.hl⟩
noncomputable def bO(a g:Nat)(l:List AV):AO:=.inst 1092 [(zs19,.ref 1 a),(⟨#[115,116,97,99,107]⟩,.ref 6 g),(zs41,.fl l)]
structure cP(Z:Fx)(a g:Nat)(gw:Int)(N:Nat):Prop where
 ok:cM Z a
 nv:N<=Z.nv
 n2:2<N
 gu:∃b0 aw,Z.gu=b0++[cp gw .none aw]gl:Z.gu.length<=1000
 ca:∃o,aa Z.ca a=some o
 cu:∃l,aa Z.cu g=some (bO a g l)
structure dC(cx:MC)(N:Nat)(q:Bool)(ht:Nat):Prop where
 rows:∀p∈cx.own,(p.2.map Hw.av).length<=200000/\∀r∈p.2,r.ok N
 its:∀i∈cx.its,i=2\/i=3
 q:q=true->cx.its≠[]ol:cx.own.length+ht<=900
 il:cx.its.length+ht<=900
theorem cP.cok{q:Bool}(H:cP Z a g l N)(C:dC cx N q s)(j:cx.gw=l)(x:bC)(d:h<=1000):d5 (fx Z a cx x) a cx N h:=by
  refine⟨⟨H.ok.ac,H.ok.vs⟩,H.nv,H.n2,H.gu.imp λt k=>k.imp λaw k=>?_,λp hp=>⟨(C.rows p hp).1,λr c=>⟨((C.rows p hp).2 r c).1,((C.rows p hp).2 r c).2.1,Nat.lt_of_lt_of_le ((C.rows p hp).2 r c).2.2 H.nv⟩⟩,?_,C.its,?_,Qh (Nat.add_le_add (Qh (Qi _ _) C.il) d)<|bL rfl⟩;·refine(?_:aa (aD _ _ _) _=_);obtain⟨o,i⟩:=H.ca;rw[bT,if_pos rfl,i];rfl
  ·refine Rr Qa<|Rr (show(Gs a cx.own).length=cx.own.length by rw[Gs,Qe,Qb]) ?_;exact Qh (Nat.add_le_add (Nat.add_le_add H.gl<|Qh (Qi _ _) C.ol) d)<|bL rfl
  ·show Z.gu++_=_;rw[k,j,Qd];rfl
end
section
variable{F F1 F2 Z:Fx}{e e1 e2:Me}{m m1 m2:Md}{f f1 f2 n D a b g:Nat}
noncomputable abbrev Kr:=uy 1275 59<|aa (bI 1275) 0
noncomputable abbrev Kt:=uA 1275 59<|aa (bI 1275) 0
noncomputable def TS(g N:Nat)(fl:AV)(σ:AS):Cd:=i7 Kr Kt N [(q "ev",E),(q "going",.ref 5 g),(q "flow",fl)] σ
section
variable{l:List AV}{L:List AV}{t:Fm}{fl fl1 v:AV}{N:Nat}{r:S}
theorem tm(L:List AV)(x:AV):decide (0<((L++[x]).length:Int))=true:=decide_eq_true<|by refine Rr Qa ?_;show 0<(L.length+1:Int);lia
theorem lV(L:List AV)(x:AV)(h:L.length<=100000):bG (L++[x]) ((L++[x]).length-1)=some x:=dZ (k:=0) (by refine Rr Qa ?_;show(L.length+1:Int)-1=_;lia) (bM _ _)<|by refine Rr Qa ?_;exact af (ai _) (.v 0) (.n 100000) (.a (.p 0 1)<|.n 0) (.n 200000) h rfl
theorem iX(L:List AV)(x:AV)(h:L.length<=100000):(if aE (L++[x])=true then some<|AV.int (L++[x]).length else none)=some (.int (L++[x]).length):=if_pos<|br (k:=0)<|by refine Rr Qa ?_;exact af (ai _) (.v 0) (.n 100000) (.a (.p 0 1)<|.n 0) (.n 300000) h rfl
theorem mi(L:List AV)(x:AV)(h:L.length<=100000):(if aE (L++[x])=true then(L++[x]).getLast? else none)=some x:=Rr (if_pos<|br (k:=0)<|by refine Rr Qa ?_;exact af (ai _) (.v 0) (.n 100000) (.a (.p 0 1)<|.n 0) (.n 300000) h rfl)<|Rr List.getLast?_concat rfl
theorem Pz(d:aa F.cu g=some (bO a g l))(j:aa F.sk g=some (.list<|L++[.ref 7 t.i]))(hl:L.length<=100000)(k:rn D false 1261 [E,.ref 5 g,.ref 7 t.i,fl] (sg F e m f n)=.ok (.tup [.int 3,v]) (sg F1 e1 m1 f1 n)):(TS g (N+1) fl<|sg F e m f n).ev (rn D)=.go (.ret<|.tup [.int 3,v]) [] (sg F1 e1 m1 f1 n):=by exact ah (.O 0 d<|.O 0 j<|.V 0 (iX L (.ref 7 t.i) hl)<|.B 0 (tm L<|.ref 7 t.i)<|.O 0 d<|.O 0 d<|.O 0 j<|.V 0 (iX L (.ref 7 t.i) hl)<|.O 1 j<|.V 0 (lV L (.ref 7 t.i) hl)<|.C 0 k .nil) 2 ae
theorem PC(w:aa F.cu g=some (bO a g l))(p:aa F.sk g=some (.list<|L++[.ref 7 t.i]))(hl:L.length<=100000)(s:j.length<=100000)(k:aa F1.cu g=some (bO a g y))(d:aa F1.sk g=some (.list<|j++[u]))(x:rn D false 1261 [E,.ref 5 g,.ref 7 t.i,fl] (sg F e m f n)=.ok (.tup [.int 2,fl1]) (sg F1 e1 m1 f1 n))(h:pt (sg F1 e1 m1 f1 n) 6 g (.list (j++[u]).dropLast)=τ)(H:(TS g N fl1 τ).ev (rn D)=r):(TS g (N+1) fl<|sg F e m f n).ev (rn D)=r:=by subst h;exact bH (.O 0 w<|.O 0 p<|.V 0 (iX L (.ref 7 t.i) hl)<|.B 0 (tm L<|.ref 7 t.i)<|.O 0 w<|.O 0 w<|.O 0 p<|.V 0 (iX L (.ref 7 t.i) hl)<|.O 1 p<|.V 0 (lV L (.ref 7 t.i) hl)<|.C 0 x<|.O 4 k<|.O 0 d<|.O 0 d<|.V 0 (mi j u s) .nil) 1 H
theorem B9(h:aa F.cu g=some (bO a g l))(j:aa F.sk g=some (.list<|L++[.ref 7 t.i]))(hl:L.length<=100000)(o:rn D false 1261 [E,.ref 5 g,.ref 7 t.i,fl] (sg F e m f n)=.ok (.tup [.int 1,v]) (sg F1 e1 m1 f1 n))(k:rn D false 1268 [E,.ref 5 g,v] (sg F1 e1 m1 f1 n)=.ok fl1 (sg F2 e2 m2 f2 n))(H:(TS g N fl1<|sg F2 e2 m2 f2 n).ev (rn D)=r):(TS g (N+1) fl<|sg F e m f n).ev (rn D)=r:=by exact bH (.O 0 h<|.O 0 j<|.V 0 (iX L (.ref 7 t.i) hl)<|.B 0 (tm L<|.ref 7 t.i)<|.O 0 h<|.O 0 h<|.O 0 j<|.V 0 (iX L (.ref 7 t.i) hl)<|.O 1 j<|.V 0 (lV L (.ref 7 t.i) hl)<|.C 0 o<|.C 5 k .nil) 0 H
end
end
section
variable{F F' F1 F2 Z:Fx}{e e' e1 e2:Me}{m m' m1 m2:Md}{f f' f1 f2 n n' D a b g i:Nat}{fl v d:AV}{p:Int}
theorem uD(h:aa F.fr i=some (Fm.o ⟨i,.tup [.int 3,.tup k,.int 0],p,d⟩))(H:rn (D+1) false 1166 [rl 1169,E,.ref 5 g,.ref 7 i,fl] (sg F e m f n)=.ok v (sg F' e' m' f' n)):rn (D+2) false 1261 [E,.ref 5 g,.ref 7 i,fl] (sg F e m (f+1)<|n+3)=.ok v (sg F' e' m' f'<|n+3):=ak<|ah (.C 0 (cT F e m f<|n+3)<|.O 2 h<|.C 3 (bR F e m f n 3)<|.C 0 H .nil) 1 ae
theorem p7(h:aa F.fr i=some (Fm.o ⟨i,.tup [.int 4,x,y,z],p,d⟩))(H:rn (D+1) false 1192 [rl 1195,E,.ref 5 g,.ref 7 i,fl] (sg F e m f n)=.ok v (sg F' e' m' f' n)):rn (D+2) false 1261 [E,.ref 5 g,.ref 7 i,fl] (sg F e m (f+1)<|n+3)=.ok v (sg F' e' m' f'<|n+3):=ak<|ah (.C 0 (cT F e m f<|n+3)<|.O 2 h<|.C 3 (bR F e m f n 3)<|.C 0 H .nil) 1 ae
theorem uE(h:aa F.fr i=some (Fm.o ⟨i,.tup [.int 5,x,y],p,d⟩))(H:rn (D+1) false 1211 [rl 1214,E,.ref 5 g,.ref 7 i,fl] (sg F e m f n)=.ok v (sg F' e' m' f' n)):rn (D+2) false 1261 [E,.ref 5 g,.ref 7 i,fl] (sg F e m (f+1)<|n+3)=.ok v (sg F' e' m' f'<|n+3):=ak<|ah (.C 0 (cT F e m f<|n+3)<|.O 2 h<|.C 3 (bR F e m f n 3)<|.C 0 H .nil) 1 ae
theorem hY(h:aa F.fr i=some (Fm.o ⟨i,.tup [.int 14,x,y,z],p,d⟩))(H:rn (D+1) false 1230 [rl 1233,E,.ref 5 g,.ref 7 i,fl] (sg F e m f n)=.ok v (sg F' e' m' f' n)):rn (D+2) false 1261 [E,.ref 5 g,.ref 7 i,fl] (sg F e m (f+1)<|n+3)=.ok v (sg F' e' m' f'<|n+3):=ak<|ah (.C 0 (cT F e m f<|n+3)<|.O 2 h<|.C 3 (bR F e m f n 3)<|.C 0 H .nil) 1 ae
theorem AW(h:aa F.fr i=some (Fm.o ⟨i,.tup [.int 16,x],p,d⟩))(H:rn (D+1) false 1249 [rl 1252,E,.ref 5 g,.ref 7 i,fl] (sg F e m f n)=.ok v (sg F' e' m' f' n)):rn (D+2) false 1261 [E,.ref 5 g,.ref 7 i,fl] (sg F e m (f+1)<|n+3)=.ok v (sg F' e' m' f'<|n+3):=ak<|ah (.C 0 (cT F e m f<|n+3)<|.O 2 h<|.C 3 (bR F e m f n 3)<|.C 0 H .nil) 1 ae
theorem PD(h:aa F.fr i=some (Fm.o ⟨i,.tup [.int 16,x],p,d⟩))(H:rn (D+1) false 1249 [rl 1252,E,.ref 5 g,.ref 7 i,fl] (sg F e m f n)=.ex (ew it w r) (sg F' e' m' f' n')):rn (D+2) false 1261 [E,.ref 5 g,.ref 7 i,fl] (sg F e m (f+1)<|n+3)=.ok (.tup [.int 2,.tup [.int 4,ew it w r]]) (sg F' e' m' f'<|n+3):=ak<|ah (.C 0 (cT F e m f<|n+3)<|.O 2 h<|.C 3 (bR F e m f n 3)<|.X 0 H .nil) 1 ae
theorem ed(F:Fx)(e:Me)(m:Md)(f n:Nat)(fl:AV):rn (D+1) false 1145 [fl] (sg F e m f n)=.ok (.tup [.int 2,fl]) (sg F e m f n):=ak<|az 0 ae
theorem fF(F:Fx)(e:Me)(m:Md)(f n:Nat)(v:AV):rn (D+1) false 1152 [v] (sg F e m f n)=.ok (.tup [.int 1,v]) (sg F e m f n):=ak<|az 0 ae
theorem Ku(j:o≠.bad)(k:o≠.nx)(x h:AV)(F:Fx)(e:Me)(m:Md)(f n:Nat):rn (D+2) false 1178 [x,h,aC o] (sg F e m f n)=.ok (.tup [.int 2,aC o]) (sg F e m f n):=ak<|by cases o with|bad=>exact absurd rfl j|nx=>exact absurd rfl k|brk=>exact aG 2 (ed F e m f n<|aC .brk)<|az 0 ae|again=>exact aG 2 (ed F e m f n<|aC .again)<|az 0 ae|fin=>exact aG 2 (ed F e m f n<|aC .fin)<|az 0 ae|stop=>exact aG 2 (ed F e m f n<|aC .stop)<|az 0 ae|thr it w r=>exact aG 2 (ed F e m f n<|aC<|.thr it w r)<|az 0 ae
noncomputable def uF(fl:AV):Prop:=fl=.none\/fl=aC .nx
theorem Ih(r:uF fl)(hp:j.length<=1000)(h:aa F.fr i=some (Fm.o ⟨i,s,j.length,d⟩))(e:Me)(m:Md)(f n:Nat):rn (D+2) false 1178 [.ref 7 i,.tup j,fl] (sg F e m f n)=.ok (.tup [.int 2,aC .nx]) (sg F e m f n):=by
 haveI hl:(if aE j=true then some<|AV.int j.length else none)=some (AV.int j.length):=if_pos<|br<|af (ai _) (.v 0) (.n 1000) (.p 0 0) (.n 300000) hp rfl;haveI u:decide (j.length<=(j.length:Int))=true:=decide_eq_true<|Int.le_refl _;rcases r with rfl|rfl;·exact ak<|ah (.O 0 h<|.V 0 hl<|.B 0 u<|.C 0 (ed F e m f n<|aC .nx) .nil) 0 ae
 ·exact ak<|ah (.O 2 h<|.V 0 hl<|.B 0 u<|.C 0 (ed F e m f n<|aC .nx) .nil) 0 ae
noncomputable def Fx.fr_(F:Fx)(fr:List AO):Fx:=⟨F.c0,F.c1,F.c2,F.c3,F.c4,F.c5,F.c6,F.c7,F.c12,F.c16,F.c17,F.c24,F.c32,F.c37,F.c38,F.c39,F.dn,F.nv,F.no,F.vs,F.gu,F.ac,F.ca,F.cu,F.sk,fr,F.it,F.im,F.hl⟩
noncomputable abbrev Fx.st(F:Fx)(t:Fm):Fx:=F.fr_<|aD (λξ=>t.o) F.fr t.i
theorem Gu(t:uF fl)(hp:k.length<=1000)(y:aa k j=some v)(h:aa F.fr i=some (Fm.o ⟨i,s,j,d⟩))(e:Me)(m:Md)(f n:Nat):rn (D+2) false 1178 [.ref 7 i,.tup k,fl] (sg F e m f n)=.ok (.tup [.int 1,v]) (sg (F.st ⟨i,s,j+1,d⟩) e m f n):=by
 haveI hl:(if aE k=true then some<|AV.int k.length else none)=some (AV.int k.length):=if_pos<|br<|af (ai _) (.v 0) (.n 1000) (.p 0 0) (.n 300000) hp rfl;haveI z:=decide_eq_false<|Int.not_le.mpr<|Int.ofNat_lt.mpr<|dD y;haveI w:aa (F.st ⟨i,s,j+1,d⟩).fr i=some (Fm.o ⟨i,s,j+1,d⟩):=by show aa (aD _ _ _) _=_;rw[bT,if_pos rfl,h];rfl
 haveI x:(if aE k=true then(seqIndex? (j+1-1) k.length).bind<|aa k else none)=some v:=by rw[Int.add_sub_cancel];exact f5 y<|af (ai _) (.v 0) (.n 1000) (.p 0 0) (.n 200000) hp rfl
 rcases t with rfl|rfl;·exact ak<|ah (.O 0 h<|.V 0 hl<|.B 0 z<|.O 0 h<|.O 1 h<|.O 0 w<|.V 1 x<|.C 0 (fF (F.st ⟨i,s,j+1,d⟩) e m f n v) .nil) 0 ae
 ·exact ak<|ah (.O 2 h<|.V 0 hl<|.B 0 z<|.O 0 h<|.O 1 h<|.O 0 w<|.V 1 x<|.C 0 (fF (F.st ⟨i,s,j+1,d⟩) e m f n v) .nil) 0 ae
theorem qX(t:aa F.cu g=some (bO a g l))(h:aa F.fr i=some (Fm.o ⟨i,.tup [.int 3,.tup s,.int 0],p,d⟩))(r:rn (D+2) false 1178 [.ref 7 i,.tup s,fl] (sg F e m f n)=.ok v k):rn (D+3) false 1166 [rl 1169,E,.ref 5 g,.ref 7 i,fl] (sg F e m f n)=.ok v k:=by cases hp:iF p 0 with|true=>exact ak<|ah (.O 0 h<|.B 0 hp<|.O 0 t<|.O 0 h<|.C 1 (jC F e m f n<|.ref 1 a)<|.O 0 h<|.C 1 r .nil) 0 ae|false=>exact ak<|ah (.O 0 h<|.B 0 hp<|.O 0 h<|.C 1 r .nil) 0 ae
end
section
variable{F Z:Fx}{e e1:Me}{m:Md}{f n D a b g c NV ht:Nat}{fl v:AV}{cx cx1:MC}{fs:List Fm}{t t1:Fm}{q:Bool}
inductive Ix where|dn(c:Nat)(w:Int)(e:Me)(o:MO)|yl(c:Nat)(w:Int)(e:Me)(v:Int)(k:Bool->Int->Me->Ix)
noncomputable def Ix.ctorIdx(v:Ix):Nat:=Ix.casesOn v (λξ ξ ξ ξ=>0) λξ ξ ξ ξ ξ=>1
noncomputable def Ix.pre(c:Nat):Ix->Ix|dn c' w e o=>dn (c'+c) w e o|yl c' w e v k=>yl (c'+c) w e v k
abbrev eu:=Int->Me->MO->Ix
noncomputable def Ix.bind(κ:eu):Ix->Ix|dn c w e o=>bif aR o then dn c w e o else(κ w e o).pre c|yl c w e v k=>yl c w e v λz w e=>(k z w e).bind κ
noncomputable def gi(z:Bool):MO:=bif z then .nx else .stop
inductive Cb(D a g N:Nat)(fl:AV)(S0:AS)(Z:Fx)(w:Int)(e':Me)(o:MO)(b f:Nat)(m:Md)(x:bC):Prop|mk(m':Md)(x':bC)(h1:(TS g N fl S0).ev (rn<|D+160)=.go .next [(Mj.Internal.q "ev",E),(Mj.Internal.q "going",.ref 5 g),(Mj.Internal.q "flow",aC o)] (sg (fx Z a ⟨w,[],[]⟩ x') e' m' f 865))(h2:En e' m' a b)(h3:Kp a m m')(h4:eF g x x')(h5:Sk x' g [] f):Cb D a g N fl S0 Z w e' o b f m x
inductive Cc(D a g N:Nat)(fl:AV)(S0:AS)(Z:Fx)(e':Me)(v:Int)(b f:Nat)(m:Md)(x:bC)(R:MC->List Fm->Prop):Prop|mk(m':Md)(x':bC)(cx':MC)(fs':List Fm)(h1:(TS g N fl S0).ev (rn<|D+160)=.go (.ret<|.tup [.int 3,.int v]) [] (sg (fx Z a cx' x') e' m' f 865))(h2:En e' m' a b)(h3:Kp a m m')(h4:eF g x x')(h5:Sk x' g fs' f)(h6:R cx' fs'):Cc D a g N fl S0 Z e' v b f m x R
inductive Ce(D a g:Nat)(fl:AV)(S0:AS)(Z:Fx)(cx1:MC)(fl1:AV)(e1:Me)(b f:Nat)(m:Md)(x:bC)(R:List Fm->Prop):Prop|mk(m1:Md)(x1:bC)(fs1:List Fm)(h1:∀N r,(TS g N fl1<|sg (fx Z a cx1 x1) e1 m1 f 865).ev (rn<|D+160)=r->(TS g (N+1) fl S0).ev (rn<|D+160)=r)(h2:En e1 m1 a b)(h3:Kp a m m1)(h4:eF g x x1)(h5:Sk x1 g fs1 f)(h6:R fs1):Ce D a g fl S0 Z cx1 fl1 e1 b f m x R
inductive Cf(D a g i:Nat)(fl:AV)(S0:AS)(Z:Fx)(cx1:MC)(e1:Me)(asked:AV)(b f:Nat)(m:Md)(x:bC)(R:bC->Prop):Prop|mk(m1:Md)(x1:bC)(h1:rn (D+160) false 1261 [E,.ref 5 g,.ref 7 i,fl] S0=.ok asked (sg (fx Z a cx1 x1) e1 m1 f 865))(h2:En e1 m1 a b)(h3:Kp a m m1)(h4:eF g x x1)(h5:R x1):Cf D a g i fl S0 Z cx1 e1 asked b f m x R
noncomputable def a5(D a g NV:Nat):Ix->Fx->MC->List Fm->AV->Me->Prop|.dn c w e' o,Z,cx,fs,fl,e=>o≠.bad->∀(N f b:Nat)(m:Md)(x:bC),c<N->En e m a (b+3*c)->Sk x g fs (f+c)->Cb D a g N fl (sg (fx Z a cx x) e m (f+c) 865) Z w e' o b f m x|.yl c w e' v k,Z,cx,fs,fl,e=>∀(N f b:Nat)(m:Md)(x:bC),c<N->En e m a (b+3*c)->Sk x g fs (f+c)->Cc D a g N fl (sg (fx Z a cx x) e m (f+c) 865) Z e' v b f m x λcx' fs'=>cx'.own.length<=900/\∀z Z' w' e'',cP Z' a g w' NV->e''.g=e'.g->a5 D a g NV (k z w' e'') Z' ⟨w',cx'.own,cx'.its⟩ fs' (aC<|gi z) e''
theorem a5.step(T:1<=c)(H:∀f b m x,En e m a (b+3*c)->Sk x g fs (f+c)->Ce D a g fl (sg (fx Z a cx x) e m (f+c) 865) Z cx1 fl1 e1 b f m x λd=>a5 D a g NV P Z cx1 d fl1 e1):a5 D a g NV (P.pre c) Z cx fs fl e:=by
 rcases P with⟨V,w,e',o⟩|⟨V,w,e',v,k⟩;·
  intro U N f b m x h j i;rw[b3]at j;rw[<-Nat.add_assoc]at i⊢;obtain⟨z,B,d,y,O,J,s,C,L⟩:=H _ _ m x j i;rcases N with _|N;·exact absurd h<|Nat.not_lt_zero _
  ·obtain⟨G,r,A,I,Q,u,K⟩:=L U N f b z B (aO (aH _ _ _) (.a (.a (.v 0)<|.v 1)<|.n 1) (.p 2 1) (.n 1) (.v 1) (.p 0 1) (.v 2) h T rfl) O C;exact⟨G,r,y N _ A,I,J.trans Q,s.trans u,K⟩
 ·intro N f b m x h j i;rw[b3]at j;rw[<-Nat.add_assoc]at i⊢;obtain⟨z,B,d,y,O,J,s,C,L⟩:=H _ _ m x j i;rcases N with _|N;·exact absurd h<|Nat.not_lt_zero _
  ·obtain⟨G,r,l,M,A,I,Q,u,K,W⟩:=L N f b z B (aO (aH _ _ _) (.a (.a (.v 0)<|.v 1)<|.n 1) (.p 2 1) (.n 1) (.v 1) (.p 0 1) (.v 2) h T rfl) O C;exact⟨G,r,l,M,y N _ A,I,J.trans Q,s.trans u,K,W⟩
noncomputable def g9(D a g NV:Nat)(fs:List Fm)(own:ba)(its:List Int)(κ:eu):Prop:=∀(Z:Fx)(w:Int)(e:Me)(o:MO),cP Z a g w NV->o≠.bad->a5 D a g NV (κ w e o) Z ⟨w,own,its⟩ fs (aC o) e
abbrev IS:=MC->Me->Ix
noncomputable def ff(s:AV)(M:IS)(NV:Nat)(q:Bool)(ht:Nat):Prop:=∀(D a g:Nat)(fs:List Fm)(own:ba)(its:List Int)(κ:eu),g9 D a g NV fs own its κ->(∀w,dC ⟨w,own,its⟩ NV q ht)->∀(Z:Fx)(w:Int)(e:Me)(i:Nat),cP Z a g w NV->a5 D a g NV ((M ⟨w,own,its⟩ e).bind κ) Z ⟨w,own,its⟩ (fs++[⟨i,s,0,.none⟩]) .none e
abbrev Sp(D a g:Nat)(Z:Fx)(cx:MC)(fs:List Fm)(t:Fm)(fl:AV)(e:Me)(c:Nat)(cx1:MC)(t1:Fm)(e1:Me)(asked:AV):Prop:=∀(f b:Nat)(m:Md)(x:bC),En e m a (b+3*c)->Sk x g (fs++[t]) (f+c)->Cf D a g t.i fl (sg (fx Z a cx x) e m (f+c) 865) Z cx1 e1 asked b f m x λx1=>Sk x1 g (fs++[t1])<|f+c
noncomputable def aV(A:FS):IS:=λcx e=>.dn (A cx e).1 cx.gw (A cx e).2.1 (A cx e).2.2
noncomputable def mB(s:AV):Prop:=∃k r,s=.tup (.int k::r)/\iF k 93=false/\r.length<=1000
noncomputable def f6(v:AV)(M:IS)(NV:Nat)(q:Bool)(ht:Nat):Prop:=(∃s,v=.tup [.int 93,s]/\ff s M NV q ht)\/∃A,mB v/\bp v A NV 150 q/\M=aV A
theorem fY(P:Ix)(c d:Nat):(P.pre c).pre d=P.pre (c+d):=match P with|.dn h w e o=>congrArg (λk=>Ix.dn k w e o)<|Nat.add_assoc ..|.yl h w e v k=>congrArg (λz=>Ix.yl z w e v k)<|Nat.add_assoc ..
theorem mC(h:Sk x g (L++[t]) f):(gR L).length<=100000:=by haveI:=h.sz;rw[Qa]at this;show(L.map _).length<=_;rw[Qb];exact af (aH _ _ _) (.a (.a (.v 0)<|.v 1)<|.v 2) (.n 100000) (.v 0) (.n 100000) this rfl
theorem a5.done(s:1<=c)(u:cP Z a g w NV)(B:cx1.gw=w)(I:o≠.bad)(G:Sp D a g Z cx fs t fl e c cx1 t1 e1<|.tup [.int 2,aC o])(C:g9 D a g NV fs cx1.own cx1.its κ):a5 D a g NV ((κ w e1 o).pre c) Z cx (fs++[t]) fl e:=by
 refine a5.step (cx1:=cx1) (fl1:=aC o) (e1:=e1) s λf b m x z i=>?_;obtain⟨A,y,r,H,K,J,j⟩:=G f b m x z i;haveI k:=(j.le<|af (au _ _) (.n 1) (.v 0) (.p 1 1) (.a (.v 1)<|.v 0) s rfl).pop;obtain⟨l,d⟩:=u.cu;refine⟨A,y.pop g<|gR fs,fs,λN L h=>?_,H,K,J.trans k.2,k.1,?_⟩;·exact PC (F1:=fx Z a cx1 y) d (Rl (iH fs t) i.sk) (mC i) (mC j) d (Rl (iH fs t1) j.sk) r (by refine Rr List.dropLast_concat ?_;rfl) h
 ·haveI:=C Z w e1 o u I;rw[<-B]at this⊢;exact this
theorem bU{x:j}(h:aa l i=some x)(y:j):aa (aD (λk=>y) l i) i=some y:=by rw[bT,if_pos rfl,h];rfl
theorem lD(x y:i):∀l:List i,aD (λh=>y) (l++[x]) l.length=l++[y]|[]=>rfl|z::l=>congrArg (λh=>z::h)<|lD x y l
noncomputable def p8(C:Nat)(fs:List<|Str×AV)(l:List AO):Nat->List AO|0=>l++[.inst C []]|k+1=>aD (λξ=>.inst C<|fs.take<|k+1) (p8 C fs l k) l.length
theorem lK(C:Nat)(fs:List<|Str×AV)(l:List AO):∀k,p8 C fs l k=l++[.inst C<|fs.take k]|0=>rfl|k+1=>by show aD _ (p8 C fs l k) _=_;rw[lK C fs l k,lD]
theorem lE(C:Nat)(fs:List<|Str×AV)(l:List AO)(k:Nat):aa (p8 C fs l k) l.length=some (.inst C<|fs.take k):=by rw[lK];exact bM _ _
noncomputable def p9(s:AV):List<|Str×AV:=[(⟨#[115]⟩,s),(⟨#[112,104,97,115,101]⟩,.int 0),(⟨#[100,97,116,97]⟩,.none)]
theorem yf(F:Fx)(s:AV)(e:Me)(m:Md)(f n:Nat):rn (D+1) false 1110 [.ref 7 F.fr.length,s] (sg (F.fr_<|F.fr++[.inst 1113 []]) e m f n)=.ok .none (sg (F.fr_<|F.fr++[Fm.o ⟨0,s,0,.none⟩]) e m f n):=by refine dM (τ:=λh=>sg (F.fr_ h) e m f n) (lK 1113 (p9 s) F.fr 3) ?_;exact ah (.O 0 (lE 1113 (p9 s) F.fr 0)<|.O 0 (lE 1113 (p9 s) F.fr 1)<|.O 0 (lE 1113 (p9 s) F.fr 2) .nil) 0 ae
theorem Ii(g:Nat)(w:aa F.cu g=some (bO a g l))(r:aa F.sk g=some (.list L))(hl:L.length<=100000)(s:AV)(e:Me)(m:Md)(f n:Nat)(j:pt (sg (F.fr_<|F.fr++[Fm.o ⟨0,s,0,.none⟩]) e m f n) 6 g (.list<|L++[.ref 7 F.fr.length])=τ):rn (d+2) false 1268 [E,.ref 5 g,.tup [.int 93,s]] (sg F e m f n)=.ok .none τ:=by subst j;haveI x:(if aE L=true then some<|AO.list<|L++[.ref 7 F.fr.length]else none)=some (.list<|L++[.ref 7 F.fr.length]):=if_pos<|br<|af (ai _) (.v 0) (.n 100000) (.p 0 0) (.n 300000) hl rfl;exact ak<|ah (.O 2 w<|.O 0 r<|.C 1 (yf F s e m f n)<|.O 0 r<|.O 0 x .nil) 0 ae
theorem Gv(z:aa F.cu g=some (bO a g l))(s:mB v)(r:rn (d+1) false 743 [E,.ref 1 a,v] (sg F e m f n)=.ok fl (sg F e1 o u n)):rn (d+2) false 1268 [E,.ref 5 g,v] (sg F e m f<|n+1)=.ok fl (sg F e1 o u<|n+1):=by obtain⟨k,y,rfl,w,x⟩:=s;exact ak<|ah (.V 0 (f5 (l:=.int k::y) (i:=0) (k:=0) rfl<|af (ai _) (.v 0) (.n 1000) (.a (.p 0 1)<|.n 0) (.n 200000) x rfl)<|.B 0 w<|.C 0 (bR F e m f n 1)<|.O 0 z<|.C 0 r .nil) 1 ae
theorem a5.push(L:1<=c)(I:cP Z a g w NV)(K:cx1.gw=w)(hC:∀w,dC ⟨w,cx1.own,cx1.its⟩ NV q ht)(U:Sp D a g Z cx fs t fl e c cx1 t1 e1<|.tup [.int 1,v])(P:f6 v M NV q ht)(V:g9 D a g NV (fs++[t1]) cx1.own cx1.its κ):a5 D a g NV (((M cx1 e1).bind κ).pre c) Z cx (fs++[t]) fl e:=by
  refine I.cu.elim λl d=>?_;rcases P with⟨s,rfl,P⟩|⟨A,W,hX,rfl⟩
  · refine a5.step (cx1:=cx1) (fl1:=.none) (e1:=e1) L λf b m x C j=>?_;obtain⟨G,u,r,O,T,Q,y⟩:=U f b m x C j;haveI k:=(y.le<|af (au _ _) (.n 1) (.v 0) (.p 1 1) (.a (.v 1)<|.v 0) L rfl).new s;refine⟨G,u.new g (gR<|fs++[t1]) s,fs++[t1]++[⟨u.fr.length,s,0,.none⟩],λN r' h=>?_,O,T,Q.trans k.2,k.1,?_⟩;·exact B9 d (Rl (iH fs t) j.sk) (mC j) r (Ii (F:=fx Z a cx1 u) g d y.sk (by haveI:=y.sz;show(List.map _ _).length<=_;rw[Qb];exact af (aH _ _ _) (.a (.v 0)<|.a (.v 1)<|.v 2) (.n 100000) (.v 0) (.n 100000) this rfl) s e1 G f 865 rfl) h
    ·haveI:=P D a g (fs++[t1]) cx1.own cx1.its κ V hC Z w e1 u.fr.length I;rw[<-K]at this;exact this
  ·refine(?_:a5 D a g NV ((bif aR (A cx1 e1).2.2 then _ else _:Ix).pre c) _ _ _ _ _);haveI i:=λx=>hX (fx Z a cx1 x) a cx1 (I.cok (hC cx1.gw) K x<|bL rfl) (hC w).q e1;revert i;cases hz:A cx1 e1 with|mk J z=>
      clear hz;obtain⟨B,o⟩:=z;intro i;by_cases H:o=.bad;·clear i;subst H;exactλk=>absurd rfl k
      · refine Rr (pB H) ?_;refine(?_:a5 D a g NV (((κ cx1.gw B o).pre J).pre c) _ _ _ _ _);rw[fY];refine a5.step (cx1:=cx1) (fl1:=aC o) (e1:=B) (Qh L<|Nat.le_add_left _ _) λf b m x C j=>?_;rw[b3]at C;rw[<-Nat.add_assoc]at j⊢;obtain⟨G,u,r,O,T,Q,y⟩:=U (f+J) (b+3*J) m x C j;refine(i u J B o rfl H G f 714 b (D+9) O).elim λm2 ζ0=>ζ0.elim λX ζ1=>ζ1.elim λk1 Y=>?_;refine⟨m2,u,fs++[t1],λN r' h=>?_,k1,T.trans Y,Q,y.le<|aK (aH _ _ _) (.v 0) (.a (.a (.v 0)<|.v 1)<|.v 2) rfl,?_⟩;·exact B9 d (Rl (iH fs t) j.sk) (mC j) r (Gv d W X) h
        ·haveI:=V Z w B o I H;rw[<-K]at this;exact this
end
section
variable{F Z:Fx}{e e1:Me}{m:Md}{f n D a b g c NV ht:Nat}{fl v:AV}{cx cx1:MC}{fs:List Fm}{t t1:Fm}{q:Bool}{own:ba}{its:List Int}{κ:eu}
theorem pre_bind(P:Ix)(c:Nat):(P.pre c).bind κ=(P.bind κ).pre c:=by
 rcases P with⟨d,w,e,o⟩|⟨d,w,e,v,k⟩;·
  refine(?_:(bif aR o then _ else _)=Ix.pre c (bif aR o then _ else _));cases aR o;·exact(fY _ _ _).symm
  ·rfl
 ·rfl
theorem bind_bind(P:Ix)(d:eu):(P.bind d).bind κ=P.bind λw e o=>(d w e o).bind κ:=by induction P with
 |dn i w e o=>
  refine(?_:Ix.bind κ (bif aR o then _ else _)=bif aR o then _ else _);cases h:aR o;·exact pre_bind _ _
  ·show(bif aR o then _ else _)=_;refine Rr h ?_;rfl|yl i w e v k j=>exact congrArg (Ix.yl i w e v)<|funext λz=>funext λw=>funext λe=>j z w e
theorem jh(c:Nat)(w:Int)(e:Me)(h:o≠.bad):(Ix.dn c w e o).bind κ=(κ w e o).pre c:=by show(bif aR o then _ else _)=_;refine Rr (pB h) ?_;rfl
theorem Sp.of{w:Int}(H:∀f m x,aa (fx Z a cx x).fr i=some (Fm.o ⟨i,s,p,d⟩)->rn (D+160) false 1261 [E,.ref 5 g,.ref 7 i,fl] (sg (fx Z a cx x) e m (f+1) 865)=.ok h (sg ((fx Z a cx x).st ⟨i,s,j,d'⟩) e m f 865)):Sp D a g Z cx fs ⟨i,s,p,d⟩ fl e 1 cx ⟨i,s,j,d'⟩ e h:=λf b m x u k=>⟨m,x.set ⟨i,s,j,d'⟩,H f m x k.top,u.le<|Qi _ _,.rfl,(k.set ⟨i,s,j,d'⟩ rfl).2,(k.set ⟨i,s,j,d'⟩ rfl).1⟩
theorem Sp.of0(H:∀f m x,aa (fx Z a cx x).fr t.i=some t.o->rn (D+160) false 1261 [E,.ref 5 g,.ref 7 t.i,fl] (sg (fx Z a cx x) e m (f+1) 865)=.ok d (sg (fx Z a cx x) e m f 865)):Sp D a g Z cx fs t fl e 1 cx t e d:=λf b m x l k=>⟨m,x,H f m x k.top,l.le<|Qi _ _,.rfl,.rfl,k⟩
theorem cP.cux(H:cP Z a g w NV)(cx:MC):∃l,∀x,aa (fx Z a cx x).cu g=some (bO a g l):=H.cu.imp λi h i=>h
noncomputable def gK(o:MO)(A B:Ix):Ix:=match o with|.nx=>A|_=>B
theorem wX(h:o≠.nx)(A B:Ix):gK o A B=B:=by cases o<;>first|rfl|exact absurd rfl h
noncomputable def ic:List IS->IS|[],cx,e=>.dn 1 cx.gw e .nx|M::r,cx,e=>((M cx e).bind λw e o=>gK o (ic r ⟨w,cx.own,cx.its⟩ e)<|.dn 1 w e o).pre 1
theorem EJ(hC:∀w,dC ⟨w,own,its⟩ NV q ht)(C:g9 D a g NV fs own its κ)(hp:A.length<=1000)(i:Nat)(d:AV)(H:aL (λv M=>f6 v M NV q ht) vs B):∀(r:List AV),A=r++vs->∀fl,uF fl->∀(Z:Fx)(w:Int)(e:Me),cP Z a g w NV->a5 D a g NV ((ic B ⟨w,own,its⟩ e).bind κ) Z ⟨w,own,its⟩ (fs++[⟨i,.tup [.int 3,.tup A,.int 0],r.length,d⟩]) fl e:=by induction H with|nil=>intro r j fl u Z w e s;rw[Qc]at j;subst j;obtain⟨l,p⟩:=s.cux ⟨w,own,its⟩;exact a5.done (Qg _) s rfl (λk=>nomatch k) (.of0 λf m x h=>uD h<|qX (p x) h<|Ih u hp h e m f 862) C|@cons v M vs B J _ G=>
    intro r j fl u Z w e s;refine(s.cux ⟨w,own,its⟩).elim λl p=>?_;haveI I:=j▸eI _ _ _;refine(?_:a5 D a g NV (Ix.bind κ<|Ix.pre 1 _) _ _ _ _ _);rw[pre_bind,bind_bind];refine a5.push (Qg _) s rfl hC (.of (w:=0) λf m x h=>uD h<|qX (p x) h<|Gu u hp I h e m f 862) J λZ w e o s y=>?_;by_cases z:o=.nx
    ·clear y;subst z;haveI:=G (r++[v]) (by rw[j,Qd];rfl) (aC .nx) (.inr rfl) Z w e s;rw[Qa]at this;exact this
    ·rw[wX z,jh _ _ _ y];refine(s.cux ⟨w,own,its⟩).elim λl p=>?_;exact a5.done (Qg _) s rfl y (.of0 λf m x h=>uD h<|qX (p x) h<|Ku y z (.ref 7 i) (.tup A) (fx Z a ⟨w,own,its⟩ x) e m f 862) C
theorem qY(H:aL (λv M=>f6 v M NV q ht) d h)(hp:d.length<=1000):ff (.tup [.int 3,.tup d,.int 0]) (ic h) NV q ht:=λD a g fs own its κ k hC Z w e i j=>EJ hC k hp i .none H [] rfl .none (.inl rfl) Z w e j
end
section
variable{F Z:Fx}{e e1:Me}{m m1:Md}{f n D a b g i c NV ht:Nat}{fl v d:AV}{p:Int}{cx cx1:MC}{fs:List Fm}{t t1:Fm}{q:Bool}{own:ba}{its:List Int}{κ:eu}
theorem lL(o:MO):∃k r,aC o=.tup [.int k,r]:=by cases o<;>exact⟨_,_,rfl⟩
theorem Kw{r:List AV}(h:aa F.fr i=some (Fm.o ⟨i,v,p,d⟩))(o:MO)(e:Me)(m:Md)(f n:Nat):rn (D+2) false 1192 [rl 1195,E,.ref 5 g,.ref 7 i,aC o] (sg F e m f n)=.ok (.tup [.int 2,aC o]) (sg F e m f n):=by refine(lL o).elim λk l=>l.elim λr u=>?_;refine Rr u ?_;exact ak<|aG 0 (ed F e m f n<|.tup [.int k,r])<|az 0 ae
theorem Ij(s:aa F.cu g=some (bO a g l))(h:aa F.fr i=some (Fm.o ⟨i,.tup [.int 4,x,y,z],p,d⟩))(r:rn (D+1) false 736 [E,.ref 1 a,x] (sg F e m (f+1) n)=.ok (.int 1) (sg F e m1 f n)):rn (D+2) false 1192 [rl 1195,E,.ref 5 g,.ref 7 i,.none] (sg F e m (f+1) n)=.ok (.tup [.int 1,y]) (sg F e m1 f n):=ak<|ah (.O 0 s<|.O 0 h<|.C 1 r<|.O 1 h<|.C 1 (fF F e m1 f n y) .nil) 0 ae
theorem Ky(u:aa F.cu g=some (bO a g l))(h:aa F.fr i=some (Fm.o ⟨i,.tup [.int 4,x,y,.tup z],p,d⟩))(w:k≠1)(r:rn (D+1) false 736 [E,.ref 1 a,x] (sg F e m (f+1) n)=.ok (.int k) (sg F e m1 f n)):rn (D+2) false 1192 [rl 1195,E,.ref 5 g,.ref 7 i,.none] (sg F e m (f+1) n)=.ok (.tup [.int 1,.tup z]) (sg F e m1 f n):=ak<|ah (.O 0 u<|.O 0 h<|.C 1 r<|.B 0 (eK w)<|.O 0 h<|.O 1 h<|.C 1 (fF F e m1 f n<|.tup z) .nil) 0 ae
theorem Ik(u:aa F.cu g=some (bO a g l))(h:aa F.fr i=some (Fm.o ⟨i,.tup [.int 4,x,y,.none],p,d⟩))(w:k≠1)(r:rn (D+1) false 736 [E,.ref 1 a,x] (sg F e m (f+1) n)=.ok (.int k) (sg F e m1 f n)):rn (D+2) false 1192 [rl 1195,E,.ref 5 g,.ref 7 i,.none] (sg F e m (f+1) n)=.ok (.tup [.int 2,aC .nx]) (sg F e m1 f n):=ak<|ah (.O 0 u<|.O 0 h<|.C 1 r<|.B 0 (eK w)<|.O 0 h<|.C 1 (ed F e m1 f n<|aC .nx) .nil) 0 ae
noncomputable def uG:eu:=λw e o=>.dn 1 w e o
noncomputable def uH(l:Nat)(A:IS)(B:Option IS):IS:=λcx e=>if e.g l=1 then((A cx e).bind uG).pre 2 else match B with|none=>.dn 2 cx.gw e .nx|some B=>((B cx e).bind uG).pre 2
theorem Sp.rd(r:cP Z a g w NV)(z:0<l)(A:l<NV)(H:∀f m m1 x,aa (fx Z a cx x).fr t.i=some t.o->rn (D+158) false 736 [E,.ref 1 a,xL l] (sg (fx Z a cx x) e m (f+1) 862)=.ok (.int<|e.g l) (sg (fx Z a cx x) e m1 f 862)->rn (D+160) false 1261 [E,.ref 5 g,.ref 7 t.i,fl] (sg (fx Z a cx x) e m (f+2) 865)=.ok j (sg (fx Z a cx x) e m1 f 865)):Sp D a g Z cx fs t fl e 2 cx t e j:=λf b m x y u=>(mh (F:=fx Z a cx x) (b:=b) (D+152) ⟨r.ok.ac,r.ok.vs⟩ (y.le<|aK (ai _) (.p 0 1) (.a (.v 0)<|.m 3<|.n 2) rfl) f 860 z<|Nat.lt_of_lt_of_le A r.nv).elim λm1 k=>⟨m1,x,H f m m1 x u.top k.1,k.2.1,k.2.2,.rfl,u⟩
theorem yg(u:g9 D a g NV fs own its κ)(ht:t.s=.tup (.int 4::r))(k:r=[x,y,z]):g9 D a g NV (fs++[t]) own its λw e o=>(uG w e o).bind κ:=by intro Z w e o l j;subst k;obtain⟨i,s,p,d⟩:=t;subst ht;refine(?_:a5 _ _ _ _ ((Ix.dn 1 w e o).bind κ) _ _ _ _ _);refine Rr (jh _ _ _ j) ?_;exact a5.done (Qg _) l rfl j (.of0 λf m x h=>p7 h<|Kw (r:=[]) h o e m f 862) u
theorem yh(I:0<l)(C:l<NV)(L:f6 y A NV q ht)(hB:z=.none/\B=none\/∃s H,z=.tup s/\B=some H/\f6 (.tup s) H NV q ht):ff (.tup [.int 4,xL l,y,z]) (uH l A B) NV q ht:=by
  intro D a g fs own its κ G hC Z w e i o;refine(o.cux ⟨w,own,its⟩).elim λM j=>?_;refine(?_:a5 _ _ _ _ (Ix.bind κ<|if e.g l=1 then _ else _) _ _ _ _ _);by_cases u:e.g l=1;·rw[if_pos u,pre_bind,bind_bind];exact a5.push (bL rfl) o rfl hC (.rd o I C λf m m1 x h r=>p7 h<|Ij (j x) h<|Rl u r) L<|yg G rfl rfl
  · refine Rr (if_neg u) ?_;rcases hB with⟨rfl,rfl⟩|⟨s,H,rfl,rfl,hB⟩;·exact a5.done (bL rfl) o rfl (λk=>nomatch k) (.rd o I C λf m m1 x h r=>p7 h<|Ik (j x) h u r) G
    ·rw[pre_bind,bind_bind];exact a5.push (bL rfl) o rfl hC (.rd o I C λf m m1 x h r=>p7 h<|Ky (j x) h u r) hB<|yg G rfl rfl
end
section
variable{F Z:Fx}{e e1:Me}{m m1:Md}{f n D a b g i c NV ht:Nat}{fl v d:AV}{p:Int}{cx cx1:MC}{fs:List Fm}{t t1:Fm}{q:Bool}{own:ba}{its:List Int}{κ:eu}
theorem Il(s:o≠.bad)(w:bZ o=false)(x y:AV)(e:Me)(m:Md)(f n:Nat):rn (D+3) false 1211 [rl 1214,E,x,y,aC o] (sg F e m f n)=.ok (.tup [.int 2,aC<|cK o]) (sg F e m f n):=by haveI j:=mA (D:=D+1) F e m f n s;rw[w]at j;haveI l:=AN (D:=D+1) F e m f n s;revert j l;obtain⟨k,r,u⟩:=lL o;refine Rr u ?_;intro j l;exact ak<|ah (.C 0 j<|.C 1 l<|.C 0 (ed F e m f n<|aC<|cK o) .nil) 0 ae
noncomputable def uI(fl:AV):Prop:=fl=.none\/∃o,fl=aC o/\o≠.bad/\bZ o=true
theorem Im(w:uI fl)(A:aa F.cu g=some (bO a g l))(h:aa F.fr i=some (Fm.o ⟨i,.tup [.int 5,x,y],p,d⟩))(r:rn (D+2) false 736 [E,.ref 1 a,x] (sg F e m (f+1) n)=.ok (.int 1) (sg F e m1 f n)):rn (D+3) false 1211 [rl 1214,E,.ref 5 g,.ref 7 i,fl] (sg F e m (f+1) n)=.ok (.tup [.int 1,y]) (sg F e m1 f n):=by
 rcases w with rfl|⟨o,rfl,G,B⟩;·exact ak<|ah (.O 0 A<|.O 0 h<|.C 1 r<|.O 1 h<|.C 1 (fF F e m1 f n y) .nil) 0 ae
 ·haveI u:=mA (D:=D+1) F e m (f+1) n G;rw[B]at u;obtain⟨k,z,H⟩:=lL o;rw[H]at u⊢;exact ak<|ah (.C 0 u<|.O 1 A<|.O 0 h<|.C 1 r<|.O 1 h<|.C 1 (fF F e m1 f n y) .nil) 0 ae
theorem Kz(w:uI fl)(G:aa F.cu g=some (bO a g l))(h:aa F.fr i=some (Fm.o ⟨i,.tup [.int 5,x,y],p,d⟩))(A:k≠1)(r:rn (D+2) false 736 [E,.ref 1 a,x] (sg F e m (f+1) n)=.ok (.int k) (sg F e m1 f n)):rn (D+3) false 1211 [rl 1214,E,.ref 5 g,.ref 7 i,fl] (sg F e m (f+1) n)=.ok (.tup [.int 2,aC .nx]) (sg F e m1 f n):=by
 rcases w with rfl|⟨o,rfl,I,H⟩;·exact ak<|ah (.O 0 G<|.O 0 h<|.C 1 r<|.B 0 (eK A)<|.C 0 (ed F e m1 f n<|aC .nx) .nil) 0 ae
 ·haveI u:=mA (D:=D+1) F e m (f+1) n I;rw[H]at u;obtain⟨k,z,J⟩:=lL o;rw[J]at u⊢;exact ak<|ah (.C 0 u<|.O 1 G<|.O 0 h<|.C 1 r<|.B 0 (eK A)<|.C 0 (ed F e m1 f n<|aC .nx) .nil) 0 ae
noncomputable def mD(l:Nat)(B:IS):Nat->IS|0,cx,e=>.dn 0 cx.gw e .bad|k+1,cx,e=>if e.g l=1 then((B cx e).bind λw e o=>bif bZ o then mD l B k ⟨w,cx.own,cx.its⟩ e else .dn 1 w e<|cK o).pre 2 else .dn 2 cx.gw e .nx
theorem Gw(hC:∀w,dC ⟨w,own,its⟩ NV q ht)(I:g9 D a g NV fs own its κ)(G:0<l)(H:l<NV)(hB:f6 y B NV q ht)(i:Nat)(d:AV):∀(k:Nat)(fl:AV),uI fl->∀(Z:Fx)(w:Int)(e:Me),cP Z a g w NV->a5 D a g NV ((mD l B k ⟨w,own,its⟩ e).bind κ) Z ⟨w,own,its⟩ (fs++[⟨i,.tup [.int 5,xL l,y],0,d⟩]) fl e:=by intro k;induction k with|zero=>exactλfl J Z w e J k=>absurd rfl k|succ k K=>
  intro fl z Z w e j;refine(j.cux ⟨w,own,its⟩).elim λL u=>?_;refine(?_:a5 _ _ _ _ (Ix.bind κ<|if e.g l=1 then _ else _) _ _ _ _ _);by_cases A:e.g l=1;·rw[if_pos A,pre_bind,bind_bind];refine a5.push (bL rfl) j rfl hC (.rd j G H λf m m1 x h r=>uE h<|Im z (u x) h<|Rl A r) hB λZ w e o j C=>?_;cases s:bZ o with|true=>exact K (aC o) (.inr ⟨o,rfl,C,s⟩) Z w e j|false=>
    haveI hl:cK o≠.bad:=by clear s;cases o<;>first|exact absurd rfl C|exactλk=>nomatch k
    refine ?_;refine Rr (jh _ _ _ hl) ?_;exact a5.done (Qg _) j rfl hl (.of0 λf m x h=>uE h<|Il C s (.ref 5 g) (.ref 7 i) e m f 862) I
  ·refine Rr (if_neg A)<|Rr (jh (o:=.nx) _ _ _ λk=>nomatch k) ?_;exact a5.done (bL rfl) j rfl (λk=>nomatch k) (.rd j G H λf m m1 x h r=>uE h<|Kz z (u x) h A r) I
theorem Io(o:0<l)(h:l<NV)(hB:f6 y B NV q ht)(k:Nat):ff (.tup [.int 5,xL l,y]) (mD l B k) NV q ht:=λD a g fs own its κ j hC Z w e i r=>Gw hC j o h hB i .none k .none (.inl rfl) Z w e r
theorem Ip{x:AV}(h:aa F.fr i=some (Fm.o ⟨i,v,1,d⟩))(fl:AV)(e:Me)(m:Md)(f n:Nat):rn (D+2) false 1249 [rl 1252,E,.ref 5 g,.ref 7 i,fl] (sg F e m f n)=.ok (.tup [.int 2,fl]) (sg F e m f n):=ak<|ah (.O 0 h<|.C 1 (ed F e m f n fl) .nil) 0 ae
theorem KC(s:aa F.cu g=some (bO a g l))(h:aa F.fr i=some (Fm.o ⟨i,.tup [.int 16,x],0,d⟩))(r:rn (D+1) false 736 [E,.ref 1 a,x] (sg (F.st ⟨i,.tup [.int 16,x],1,d⟩) e m (f+1) n)=.ok y (sg (F.st ⟨i,.tup [.int 16,x],1,d⟩) e m1 f n)):rn (D+2) false 1249 [rl 1252,E,.ref 5 g,.ref 7 i,fl] (sg F e m (f+1) n)=.ok (.tup [.int 3,y]) (sg (F.st ⟨i,.tup [.int 16,x],1,d⟩) e m1 f n):=ak<|ah (.O 0 h<|.O 1 h<|.O 0 s<|.O 0 (bU h<|Fm.o ⟨i,.tup [.int 16,x],1,d⟩)<|.C 1 r .nil) 0 ae
theorem Iq(u:aa F.cu g=some (bO a g l))(h:aa F.fr i=some (Fm.o ⟨i,.tup [.int 16,x],0,d⟩))(r:rn (D+1) false 736 [E,.ref 1 a,x] (sg (F.st ⟨i,.tup [.int 16,x],1,d⟩) e m s n)=.ex y (sg (F.st ⟨i,.tup [.int 16,x],1,d⟩) e1 m1 f w)):rn (D+2) false 1249 [rl 1252,E,.ref 5 g,.ref 7 i,fl] (sg F e m s n)=.ex y (sg (F.st ⟨i,.tup [.int 16,x],1,d⟩) e1 m1 f w):=gP<|ah (.O 0 h<|.O 1 h<|.O 0 u<|.O 0 (bU h<|Fm.o ⟨i,.tup [.int 16,x],1,d⟩)<|.X 1 r .nil) 0 et
end
section
variable{F Z:Fx}{e e1:Me}{m m1:Md}{f n D a b g i c NV ht:Nat}{fl v d:AV}{p:Int}{cx cx1:MC}{fs:List Fm}{t t1:Fm}{q:Bool}{own:ba}{its:List Int}{κ:eu}
theorem a5.yield{v:Int}(O:1<=c)(K:cP Z a g w NV)(I:Sp D a g Z cx fs t fl e c cx1 t1 e1<|.tup [.int 3,.int v])(C:cx1.own.length<=900)(A:∀z u s h,cP u a g s NV->h.g=e1.g->a5 D a g NV (k z s h) u ⟨s,cx1.own,cx1.its⟩ (fs++[t1]) (aC<|gi z) h):a5 D a g NV (.yl c w e1 v k) Z cx (fs++[t]) fl e:=by
 intro N f b m x y M o;obtain⟨m1,B,r,H,L,J,G⟩:=I f b m x M o;refine K.cu.elim λl j=>?_;rcases N with _|N;·exact absurd y<|Nat.not_lt_zero _
 ·exact⟨m1,B,cx1,fs++[t1],Pz j (Rl (iH fs t) o.sk) (mC o) r,H,L,J,G.le<|Qi _ _,C,A⟩
noncomputable def uJ(v:Vm):IS:=λcx e=>.yl 2 cx.gw e (v.val e.g) λz w e=>.dn 1 w e<|gi z
theorem Ir{v:Vm}(B:v.ok NV):ff (.tup [.int 16,v.av]) (uJ v) NV q ht:=by
  intro D a g fs own its κ C hC Z w e i j;refine(j.cux ⟨w,own,its⟩).elim λI u=>?_;refine a5.yield (t1:=⟨i,.tup [.int 16,v.av],1,.none⟩) (bL rfl) j (λf b m x A l=>?_) (Qh (Qi _ _) (hC w).ol) λz K J o s L=>?_;·obtain⟨m1,r,G,H⟩:=BY (F:=fx Z a ⟨w,own,its⟩<|x.set ⟨i,.tup [.int 16,v.av],1,.none⟩) (D+152) ⟨j.ok.ac,j.ok.vs⟩ (A.le<|aK (ai _) (.p 0 1) (.a (.v 0)<|.m 3<|.n 2) rfl) f 860<|Vm.le j.nv B;exact⟨m1,x.set ⟨i,.tup [.int 16,v.av],1,.none⟩,AW l.top<|KC (u x) l.top r,G,H.k,(l.set ⟨i,.tup [.int 16,v.av],1,.none⟩ rfl).2,(l.set ⟨i,.tup [.int 16,v.av],1,.none⟩ rfl).1⟩
  · have y:gi z≠.bad:=by cases z<;>exactλk=>nomatch k
    refine Rr (jh _ _ _ y) ?_;exact a5.done (Qg _) s rfl y (.of0 λf m x h=>AW h<|Ip (x:=.none) h (aC<|gi z) o m f 862) C
theorem Iu(z:it=2\/it=3):ff (.tup [.int 16,xR it]) (aV<|hN 3 it) NV q ht:=by intro D a g fs own its κ A hC Z w e i o;refine(o.cux ⟨w,own,its⟩).elim λC l=>?_;refine(?_:a5 _ _ _ _ ((Ix.dn ((aT w it own e).1+3) w (aT w it own e).2.1<|.thr it (aT w it own e).2.2.1 (aT w it own e).2.2.2).bind κ) _ _ _ _ _);refine a5.done (cx1:=⟨w,own,its⟩) (t1:=⟨i,.tup [.int 16,xR it],1,.none⟩) (aK (ai _) (.n 1) (.p 0 3) rfl) o rfl (λk=>nomatch k) (λf b m x s j=>?_) A;obtain⟨m1,r,y,B⟩:=qV (D:=D+146) 853 (o.cok (h:=16) (hC w) rfl (x.set ⟨i,.tup [.int 16,xR it],1,.none⟩)<|bL rfl) 99 z e m f b<|s.le<|aK (au _ _) (.a (.v 0)<|.m 3<|.v 1) (.a (.v 0)<|.m 3<|.p 1 3) rfl;haveI u:=AI r;exact⟨m1,x.set ⟨i,.tup [.int 16,xR it],1,.none⟩,PD j.top<|Iq (l x) j.top u,y,B,(j.set ⟨i,.tup [.int 16,xR it],1,.none⟩ rfl).2,(j.set ⟨i,.tup [.int 16,xR it],1,.none⟩ rfl).1⟩
end
section
variable{F Z:Fx}{e e1:Me}{m m1:Md}{f n D a b g i c NV:Nat}{fl v d:AV}{p:Int}{fs:List Fm}{t t1:Fm}{q:Bool}{own:ba}{its:List Int}{κ:eu}
theorem ji(y z:k):∀(l:List k)(i:Nat),aD (λj=>y) (aD (λj=>z) l i) i=aD (λj=>y) l i|[],_=>rfl|_::_,0=>rfl|x::l,i+1=>congrArg (λj=>x::j)<|ji y z l i
section
variable{l:List AV}{body last:AV}{rs:List Hw}{L:List AV}
theorem ie(h:l.length<=1000):(if aE l=true then some<|AV.int l.length else none)=some (.int l.length):=if_pos<|br<|af (ai _) (.v 0) (.n 1000) (.p 0 0) (.n 300000) h rfl
theorem Ny(h:aa F.fr i=some (Fm.o ⟨i,aW body [] last,0,d⟩))(x fl:AV)(e:Me)(m:Md)(f n:Nat):rn (D+3) false 1230 [rl 1233,E,x,.ref 7 i,fl] (sg F e m f n)=.ok (.tup [.int 1,body]) (sg (F.st ⟨i,aW body [] last,1,d⟩) e m f n):=ak<|ah (.O 0 h<|.O 0 h<|.O 1 h<|.C 4 (fF (F.st ⟨i,aW body [] last,1,d⟩) e m f n body) .nil) 0 ae
theorem PE(z:aa F.cu g=some (bO a g l))(u:0<(rs.map Hw.av).length)(r:(rs.map Hw.av).length<=1000)(hl:F.gu.length+k<=100000)(h:aa F.fr i=some (Fm.o ⟨i,aW body (rs.map Hw.av) last,0,d⟩))(fl:AV)(e:Me)(m:Md)(f n:Nat):rn (D+3) false 1230 [rl 1233,E,.ref 5 g,.ref 7 i,fl] (sg F e m f n)=.ok (.tup [.int 1,body]) (sg ((F.ps e a rs).st ⟨i,aW body (rs.map Hw.av) last,1,.int<|e.sn+1⟩) e.n_ m f n):=by haveI hp:=decide_eq_true<|Int.ofNat_lt.mpr u;haveI y:=bU h<|Fm.o ⟨i,aW body (rs.map Hw.av) last,1,d⟩;refine dM (τ:=λx=>sg ((F.ps e a rs).fr_ x) e.n_ m f n) (ji (Fm.o ⟨i,aW body (rs.map Hw.av) last,1,.int<|e.sn+1⟩) (Fm.o ⟨i,aW body (rs.map Hw.av) last,1,d⟩) F.fr i) ?_;exact ah (.O 0 h<|.O 0 h<|.O 1 h<|.V 1 (ie r)<|.B 0 hp<|.O 1 z<|.C 0 (push (F:=F.st ⟨i,aW body (rs.map Hw.av) last,1,d⟩) e m f n (.tup<|rs.map Hw.av) (.ref 1 a)<|Qh hl<|bL rfl)<|.V 2 (tj hl<|kY e a rs)<|.O 0 y<|.C 1 (fF ((F.ps e a rs).fr_<|aD (λw=>Fm.o ⟨i,aW body (rs.map Hw.av) last,1,.int<|e.sn+1⟩) (aD (λw=>Fm.o ⟨i,aW body (rs.map Hw.av) last,1,d⟩) F.fr i) i) e.n_ m f n body) .nil) 0 ae
theorem Nz(L:List AV)(x:AV)(h:L.length+k<=100000):(if aE (L++[x])=true then(L++[x]).getLast? else none)=some x:=mi L x<|af (au _ _) (.a (.v 0)<|.v 1) (.n 100000) (.v 0) (.n 100000) h rfl
theorem su(h:F.gu=L++[x]):F.gu.dropLast=L:=Rr h<|Rr List.dropLast_concat rfl
theorem tn(s:F.gu=L++[x])(h:L.length+k<=100000):(if aE F.gu=true then F.gu.getLast? else none)=some x:=Rr s<|Nz L x h
theorem PF(G:o≠.bad)(A:∀it r,o≠.thr it N r)(z:0<(rs.map Hw.av).length)(s:(rs.map Hw.av).length<=1000)(u:F.gu=L++[x])(hl:L.length+k<=100000)(h:aa F.fr i=some (Fm.o ⟨i,aW body (rs.map Hw.av) .none,1,.int N⟩))(y:AV)(e:Me)(m:Md)(f n:Nat):rn (D+3) false 1230 [rl 1233,E,y,.ref 7 i,aC o] (sg F e m f n)=.ok (.tup [.int 2,aC o]) (sg (F.gu_ L) e m f n):=by haveI hp:=decide_eq_true<|Int.ofNat_lt.mpr z;refine dM (τ:=λgu=>sg (F.gu_ gu) e m f n) (su u) ?_;exact ah (.O 0 h<|.O 0 h<|.O 1 h<|.V 2 (ie s)<|.B 0 hp<|.V 3 (tn u hl)<|.O 0 h<|.C 0 (sq (F.gu_ F.gu.dropLast) e m f n (aW body (rs.map Hw.av) .none) N G A)<|.O 0 h<|.O 1 h<|.C 2 (ed (F.gu_ F.gu.dropLast) e m f n<|aC o) .nil) 0 ae
theorem NA(K:o≠.bad)(H:∀it r,o≠.thr it N r)(J:0<(rs.map Hw.av).length)(w:(rs.map Hw.av).length<=1000)(G:F.gu=L++[x])(hl:L.length+k<=100000)(h:aa F.fr i=some (Fm.o ⟨i,aW body (rs.map Hw.av)<|.tup s,1,.int N⟩))(y:AV)(e:Me)(m:Md)(f n:Nat):rn (D+3) false 1230 [rl 1233,E,y,.ref 7 i,aC o] (sg F e m f n)=.ok (.tup [.int 1,.tup s]) (sg ((F.gu_ L).st ⟨i,aW body (rs.map Hw.av)<|.tup s,3,aC o⟩) e m f n):=by haveI hp:=decide_eq_true<|Int.ofNat_lt.mpr J;haveI I:=bU h<|Fm.o ⟨i,aW body (rs.map Hw.av)<|.tup s,3,.int N⟩;refine dM (τ:=λz=>sg ((F.gu_<|Prod.fst z).fr_ z.2) e m f n) (x:=(F.gu.dropLast,aD (λj=>Fm.o ⟨i,aW body (rs.map Hw.av)<|.tup s,3,aC o⟩) (aD (λj=>Fm.o ⟨i,aW body (rs.map Hw.av)<|.tup s,3,.int N⟩) F.fr i) i)) (by rw[su G,ji]) ?_;exact ah (.O 0 h<|.O 0 h<|.O 1 h<|.V 2 (ie w)<|.B 0 hp<|.V 3 (tn G hl)<|.O 0 h<|.C 0 (sq (F.gu_ F.gu.dropLast) e m f n (aW body (rs.map Hw.av)<|.tup s) N K H)<|.O 0 h<|.O 1 h<|.O 2 h<|.O 0 I<|.C 1 (fF ((F.gu_ F.gu.dropLast).fr_<|aD (λj=>Fm.o ⟨i,aW body (rs.map Hw.av)<|.tup s,3,aC o⟩) (aD (λj=>Fm.o ⟨i,aW body (rs.map Hw.av)<|.tup s,3,.int N⟩) F.fr i) i) e m f n<|.tup s) .nil) 0 ae
theorem NB(h:aa F.fr i=some (Fm.o ⟨i,aW body []<|.tup s,1,d⟩))(y fl:AV)(e:Me)(m:Md)(f n:Nat):rn (D+3) false 1230 [rl 1233,E,y,.ref 7 i,fl] (sg F e m f n)=.ok (.tup [.int 1,.tup s]) (sg (F.st ⟨i,aW body []<|.tup s,3,fl⟩) e m f n):=by haveI w:=bU h<|Fm.o ⟨i,aW body []<|.tup s,3,d⟩;refine dM (τ:=λu=>sg (F.fr_ u) e m f n) (ji (Fm.o ⟨i,aW body []<|.tup s,3,fl⟩) (Fm.o ⟨i,aW body []<|.tup s,3,d⟩) F.fr i) ?_;exact ah (.O 0 h<|.O 0 h<|.O 1 h<|.O 4 h<|.O 1 h<|.O 2 h<|.O 0 w<|.C 1 (fF (F.fr_<|aD (λr=>Fm.o ⟨i,aW body []<|.tup s,3,fl⟩) (aD (λr=>Fm.o ⟨i,aW body []<|.tup s,3,d⟩) F.fr i) i) e m f n<|.tup s) .nil) 0 ae
theorem PG(B:s≠.bad)(h:aa F.fr i=some (Fm.o ⟨i,.tup<|.int 14::body::.tup r::[last],3,aC o⟩))(y:AV)(e:Me)(m:Md)(f n:Nat):rn (D+3) false 1230 [rl 1233,E,y,.ref 7 i,aC s] (sg F e m f n)=.ok (.tup [.int 2,aC<|dB o s]) (sg F e m f n):=by haveI x:=AP (D:=D+1) (o:=o) F e m f n B;refine(lL o).elim λk u=>u.elim λz A=>?_;rw[A]at h x;exact ak<|ah (.O 0 h<|.O 0 h<|.O 1 h<|.O 1 h<|.O 1 h<|.O 1 h<|.C 0 x<|.C 0 (ed F e m f n<|aC<|dB o s) .nil) 0 ae
theorem NC(M:aa F.cu g=some (bO a g l))(K:bV r=some j)(I:aa rs j=some w)(y:(rs.map Hw.av).length<=1000)(J:F.gu=L++[x])(hl:L.length+k<=100000)(h:aa F.fr i=some (Fm.o ⟨i,aW body (rs.map Hw.av) last,1,.int N⟩))(e:Me)(m:Md)(f n:Nat)(G:rn (D+2) false 1042 [E,.ref 1 a,w.av,aC<|.thr it N r] (sg ((F.gu_ L).st ⟨i,aW body (rs.map Hw.av) last,2,.int N⟩) e m f n)=.ok .none (sg z A H f n)):rn (D+3) false 1230 [rl 1233,E,.ref 5 g,.ref 7 i,aC<|.thr it N r] (sg F e m f n)=.ok (.tup [.int 1,.tup [.int 3,.tup w.ps,.int 0]]) (sg z A H f n):=ak<|by haveI hp:=decide_eq_true<|Int.ofNat_lt.mpr<|Nat.lt_of_le_of_lt (Nat.zero_le _)<|dD<|dS Hw.av I;rw[<-su J]at G;exact ah (.O 0 h<|.O 0 h<|.O 1 h<|.V 2 (ie y)<|.B 0 hp<|.V 3 (tn J hl)<|.O 0 h<|.C 0 (zy (F.gu_ F.gu.dropLast) e m f n (.int 14) body last N it K (dS Hw.av I) y)<|.O 0 h<|.O 0 M<|.C 0 G<|.C 1 (fF z A H f n<|.tup [.int 3,.tup w.ps,.int 0]) .nil) 0 ae
theorem AX(h:L.length<=100000):(if aE (L++[AV.int it])=true then(L++[AV.int it]).getLast? else none)=some (.int it):=mi L _ h
theorem PH(x:aa F.cu g=some (bO a g l))(w:cM F a)(k:aa F.ca a=some (.list<|L++[.int it]))(hl:L.length<=100000)(h:aa F.fr i=some (Fm.o ⟨i,.tup [.int 14,body,.tup r,.none],2,d⟩))(fl:AV)(e:Me)(m:Md)(f n:Nat):rn (D+3) false 1230 [rl 1233,E,.ref 5 g,.ref 7 i,fl] (sg F e m f n)=.ok (.tup [.int 2,fl]) (sg (F.ca_<|aD (λu=>.list L) F.ca a) e m f n):=by refine dM (τ:=λz=>sg (F.ca_<|aD (λu=>.list z) F.ca a) e m f n) (List.dropLast_concat (l₁:=L) (b:=AV.int it)) ?_;exact ah (.O 0 h<|.O 0 h<|.O 1 h<|.O 1 h<|.O 1 x<|.O 0 w.ac<|.O 0 k<|.O 0 k<|.V 0 (AX (it:=it) hl)<|.O 0 h<|.C 2 (ed (F.ca_<|aD (λu=>AO.list (L++[AV.int it]).dropLast) F.ca a) e m f n fl) .nil) 0 ae
theorem ND(y:aa F.cu g=some (bO a g l))(B:cM F a)(u:aa F.ca a=some (.list<|L++[.int it]))(hl:L.length<=100000)(h:aa F.fr i=some (Fm.o ⟨i,.tup [.int 14,body,.tup r,.tup s],2,d⟩))(fl:AV)(e:Me)(m:Md)(f n:Nat):rn (D+3) false 1230 [rl 1233,E,.ref 5 g,.ref 7 i,fl] (sg F e m f n)=.ok (.tup [.int 1,.tup s]) (sg ((F.ca_<|aD (λk=>.list L) F.ca a).st ⟨i,.tup [.int 14,body,.tup r,.tup s],3,fl⟩) e m f n):=by haveI A:=bU h<|Fm.o ⟨i,.tup [.int 14,body,.tup r,.tup s],3,d⟩;refine dM (τ:=λz=>sg ((F.ca_<|aD (λk=>.list<|Prod.fst z) F.ca a).fr_ z.2) e m f n) (x:=((L++[AV.int it]).dropLast,aD (λk=>Fm.o ⟨i,.tup [.int 14,body,.tup r,.tup s],3,fl⟩) (aD (λk=>Fm.o ⟨i,.tup [.int 14,body,.tup r,.tup s],3,d⟩) F.fr i) i)) (by rw[List.dropLast_concat,ji]) ?_;exact ah (.O 0 h<|.O 0 h<|.O 1 h<|.O 1 h<|.O 1 y<|.O 0 B.ac<|.O 0 u<|.O 0 u<|.V 0 (AX (it:=it) hl)<|.O 0 h<|.O 2 h<|.O 0 A<|.C 1 (fF ((F.ca_<|aD (λk=>AO.list (L++[AV.int it]).dropLast) F.ca a).fr_<|aD (λk=>Fm.o ⟨i,.tup [.int 14,body,.tup r,.tup s],3,fl⟩) (aD (λk=>Fm.o ⟨i,.tup [.int 14,body,.tup r,.tup s],3,d⟩) F.fr i) i) e m f n<|.tup s) .nil) 0 ae
end
end
section
variable{F Z:Fx}{e e1:Me}{m m1:Md}{f n D a b g i c NV ht:Nat}{fl v d:AV}{p:Int}{fs:List Fm}{t t1:Fm}{q:Bool}{cx:MC}{own:ba}{its:List Int}{κ:eu}{w:Int}{body:AV}{rs:List AV}{L:Ls}
noncomputable def iY(L:Ls)(own:ba)(its:List Int):eu:=λw e o=>match L with|none=>.dn 1 w e o|some p=>((aV p.2 ⟨w,own,its⟩ e).bind λw e o2=>.dn 1 w e<|dB o o2).pre 1
noncomputable def tq(L:Ls)(NV:Nat)(q:Bool):Prop:=∀p,L=some p->mB (.tup p.1)/\bp (.tup p.1) p.2 NV 150 q
theorem yi(h:o≠.bad)(k:j≠.bad):dB o j≠.bad:=by cases j<;>first|exact h|exact k
theorem qC(r:tq L NV q)(k:o≠.bad)(l:cP Z a g w NV)(hC:∀w,dC ⟨w,own,its⟩ NV q ht)(A:L=none->Sp D a g Z cx fs t (aC o) e 1 ⟨w,own,its⟩ t e (.tup [.int 2,aC o]))(z:∀p,L=some p->Sp D a g Z cx fs t (aC o) e 1 ⟨w,own,its⟩ ⟨i,aW body rs<|.tup p.1,3,aC o⟩ e (.tup [.int 1,.tup p.1]))(u:g9 D a g NV fs own its κ):a5 D a g NV ((iY L own its w e o).bind κ) Z cx (fs++[t]) (aC o) e:=by
 rcases L with _|p;·refine ?_;refine Rr (jh _ _ _ k) ?_;exact a5.done (Qg _) l rfl k (A rfl) u
 ·refine(?_:a5 _ _ _ _ (Ix.bind κ<|Ix.pre 1 _) _ _ _ _ _);rw[pre_bind,bind_bind];refine a5.push (Qg _) l rfl hC (z p rfl) (.inr ⟨p.2,(r p rfl).1,(r p rfl).2,rfl⟩) λZ w e B l j=>?_;refine Rr (jh _ _ _<|yi k j) ?_;exact a5.done (Qg _) l rfl (yi k j) (.of0 λf m x h=>hY h<|PG j h (.ref 5 g) e m f 862) u
noncomputable def AY(A:IS)(L:Ls):IS:=λcx e=>((A cx e).bind<|iY L cx.own cx.its).pre 1
theorem Gx(r:f6 body A NV q ht)(u:tq (some (s,B)) NV q):ff (aW body []<|.tup s) (AY A<|some (s,B)) NV q ht:=by intro D a g fs own its κ y hC Z w e i l;refine(?_:a5 _ _ _ _ (Ix.bind κ<|Ix.pre 1 _) _ _ _ _ _);rw[pre_bind,bind_bind];refine a5.push (Qg _) l rfl hC (.of (w:=0) λf m x h=>hY h<|Ny h (.ref 5 g) .none e m f 862) r λZ w e o l z=>?_;exact qC u z l hC (λk=>by exact sN k) (λp k=>by haveI k:=sI k;subst k;exact .of (w:=0) λf m x h=>hY h<|NB h (.ref 5 g) (aC o) e m f 862) y
noncomputable def pC(N:Int)(hs:List<|Hw×FS)(L:Ls)(own:ba)(its:List Int):eu:=λw e o=>match o with|.thr it g r=>if g=N then match(bV r).bind<|aa hs with|some p=>if it=2\/it=3 then((aV p.2 ⟨w,own,it::its⟩<|cO p.1 it e).bind<|iY L own its).pre 1 else .dn 0 w e .bad|none=>.dn 0 w e .bad else iY L own its w e o|o=>iY L own its w e o
noncomputable def AZ(A:IS)(hs:List<|Hw×FS)(L:Ls):IS:=λcx e=>((A ⟨cx.gw,((e.sn:Int)+1,hs.map λξ=>ξ.1)::cx.own,cx.its⟩ e.n_).bind<|pC ((e.sn:Int)+1) hs L cx.own cx.its).pre 1
theorem Gy(w:Int)(e:Me)(C:o≠.bad){P:Ix->Prop}(u:P<|.dn 0 w e .bad)(s:(∀it r,o≠.thr it N r)->P (iY L own its w e o))(A:∀it r j p,o=.thr it N r->bV r=some j->aa x j=some p->it=2\/it=3->P (((aV p.2 ⟨w,own,it::its⟩<|cO p.1 it e).bind<|iY L own its).pre 1)):P<|pC N x L own its w e o:=by clear C;cases o with
 |thr it g r=>
  refine(?_:P<|if g=N then _ else _);by_cases k:g=N;·rw[if_pos k];clear s;subst k;cases B:bV r with|none=>exact u|some j=>show P<|match aa x j with|some p=>_|none=>_;cases hp:aa x j with|none=>exact u|some p=>
     show P<|if it=2\/it=3 then _ else _;by_cases l:it=2\/it=3;·rw[if_pos l];exact A it r j p rfl B hp l
     ·rw[if_neg l];exact u
  ·rw[if_neg k];exact s λz G q=>k<|by cases q;rfl|_=>exact s λit r k=>by injection k
theorem Ci(G:List AV)(a:Nat)(N:Int)(rs:List Hw)(own:ba):G++Gs a own++[cp N (.tup<|rs.map Hw.av)<|.ref 1 a]=G++Gs a ((N,rs)::own):=by rw[Qd,show Gs a ((N,rs)::own)=Gs a own++[Gd a (N,rs)]from Qf ..];rfl
theorem Cj(h:cP Z a g w NV)(C:dC cx NV q ht):(Z.gu++Gs a cx.own).length+0<=100000:=by show(Z.gu++Gs a cx.own).length<=_;refine Rr Qa<|Rr (show(Gs a cx.own).length=cx.own.length by rw[Gs,Qe,Qb]) ?_;exact Qh (Nat.add_le_add h.gl<|Qh (Qi _ _) C.ol)<|bL rfl
theorem dC.dn(H:dC cx NV q<|ht+1):dC cx NV q ht:=⟨H.rows,H.its,H.q,Qh (Qk _) H.ol,Qh (Qk _) H.il⟩
theorem dC.push(H:dC ⟨w,own,its⟩ NV q<|ht+1)(N:Int){rs:List Hw}(hl:(rs.map Hw.av).length<=200000)(h:∀r∈rs,r.ok NV):dC ⟨w,(N,rs)::own,its⟩ NV q ht:=⟨λp hp=>(P7 hp).elim (λk=>k▸⟨hl,h⟩)<|H.rows p,H.its,H.q,Qh (Qn<|Nat.add_right_comm own.length 1 ht) H.ol,Qh (Qk _) H.il⟩
theorem dC.item(H:dC ⟨w,own,its⟩ NV q<|ht+1)(l:it=2\/it=3):dC ⟨w,own,it::its⟩ NV true ht:=⟨H.rows,λj o=>(P7 o).elim (λk=>Rr k l)<|H.its j,λr k=>by injection k,Qh (Qk _) H.ol,Qh (Qn<|Nat.add_right_comm its.length 1 ht) H.il⟩
theorem mE(its:List Int)(it:Int):(it::its).reverse.map AV.int=its.reverse.map AV.int++[.int it]:=by refine Rr Qf<|Rr List.map_append ?_;rfl
theorem Iw(Z:Fx)(a:Nat)(w:Int)(own:ba)(its:List Int)(it:Int)(x:bC):fj (fx Z a ⟨w,own,its⟩ x) a (its.reverse.map .int) it=fx Z a ⟨w,own,it::its⟩ x:=by show Fx.ca_ _ (aD _ (aD _ Z.ca a) a)=Fx.ca_ (fx Z a ⟨w,own,its⟩ x) (aD _ Z.ca a);rw[ji,mE]
theorem vU(Z:Fx)(a:Nat)(w:Int)(own:ba)(its:List Int)(it:Int)(x:bC):(fx Z a ⟨w,own,it::its⟩ x).ca_ (aD (λh=>.list<|its.reverse.map .int) (fx Z a ⟨w,own,it::its⟩ x).ca a)=fx Z a ⟨w,own,its⟩ x:=by show Fx.ca_ _ (aD _ (aD _ Z.ca a) a)=Fx.ca_ (fx Z a ⟨w,own,its⟩ x) (aD _ Z.ca a);rw[ji];rfl
theorem sv(k:cP Z a g w NV)(cx:MC)(x:bC):aa (fx Z a cx x).ca a=some (.list<|cx.its.reverse.map .int):=by refine k.ca.elim λo j=>?_;exact bU j _
theorem uK(C:dC cx NV q ht):(cx.its.reverse.map AV.int).length<=100000:=by rw[Qb,Qe];exact Qh (Qh (Qi _ _) C.il)<|bL rfl
theorem Gz(hA:f6 body A NV q ht)(X:0<s.length)(hl:(s.map λl=>l.1).length<=1000)(hR:∀p∈s,p.1.ok NV/\bp (.tup [.int 3,.tup p.1.ps,.int 0]) p.2 NV 150 true)(N:tq L NV q):ff (aW body ((s.map λl=>l.1).map Hw.av) L.av) (AZ A s L) NV q<|ht+1:=by
  intro D a g fs own its κ hM hC Z w e i y;haveI C:((s.map λl=>l.1).map Hw.av).length<=1000:=Rl (Qb ..).symm hl;haveI Q:0<((s.map λl=>l.1).map Hw.av).length:=by rw[Qb,Qb];exact X
  haveI hr:∀r∈s.map λl=>l.1,r.ok NV:=λr h=>(List.mem_map.mp h).elim λp k=>Rl k.2 (hR p k.1).1;haveI hP:∀w,dC ⟨w,(e.sn+1,s.map λl=>l.1)::own,its⟩ NV q ht:=λw=>(hC w).push _ (Qh C<|bL rfl) hr;refine(y.cux ⟨w,own,its⟩).elim λl' z=>?_;refine(?_:a5 _ _ _ _ (Ix.bind κ<|Ix.pre 1 _) _ _ _ _ _);rw[pre_bind,bind_bind];refine a5.push (Qg _) y rfl hP (λf b m x B u=>⟨m,x.set ⟨i,aW body ((s.map λl=>l.1).map Hw.av) L.av,1,.int<|e.sn+1⟩,?_,(B.le<|Qi _ _).n_,.rfl,(u.set ⟨i,aW body ((s.map λl=>l.1).map Hw.av) L.av,1,.int<|e.sn+1⟩ rfl).2,(u.set ⟨i,aW body ((s.map λl=>l.1).map Hw.av) L.av,1,.int<|e.sn+1⟩ rfl).1⟩) hA λZ w e1 o y J=>?_;·haveI r:=PE (D:=D+156) (z x) Q C (Cj y<|hC w) u.top .none e m f 862;haveI r:rn (D+159) false 1230 [rl 1233,E,.ref 5 g,.ref 7 i,.none] (sg (fx Z a ⟨w,own,its⟩ x) e m f 862)=.ok (.tup [.int 1,body]) (sg (((fx Z a ⟨w,own,its⟩ x).gu_<|Z.gu++Gs a own++[cp (e.sn+1) (.tup<|(s.map λl=>l.1).map Hw.av)<|.ref 1 a]).st ⟨i,aW body ((s.map λl=>l.1).map Hw.av) L.av,1,.int<|e.sn+1⟩) e.n_ m f 862):=r;rw[Ci]at r;exact hY u.top r
  · refine(y.cux ⟨w,(e.sn+1,s.map λl=>l.1)::own,its⟩).elim λl' z=>?_;haveI T:=Cj y<|hC w;haveI G:(fx Z a ⟨w,(e.sn+1,s.map λl=>l.1)::own,its⟩ ⟨[],[],[]⟩).gu=Z.gu++Gs a own++[cp (e.sn+1) (.tup<|(s.map λl=>l.1).map Hw.av)<|.ref 1 a]:=(Ci _ _ _ _ _).symm;refine Gy (P:=λP=>a5 D a g NV (P.bind κ) Z ⟨w,(e.sn+1,s.map λl=>l.1)::own,its⟩ (fs++[⟨i,aW body ((s.map λl=>l.1).map Hw.av) L.av,1,.int<|e.sn+1⟩]) (aC o) e1) w e1 J (λk=>absurd rfl k) (λhn=>?_) λit r j p V hj hp W=>?_
    · refine qC (i:=i) (body:=body) (rs:=(s.map λl=>l.1).map Hw.av) N J y (λw=>(hC w).dn) (λH=>?_) (λp I=>?_) hM;·subst H;exactλf b m x B u=>⟨m,x,hY u.top<|PF (F:=fx Z a ⟨w,(e.sn+1,s.map λl=>l.1)::own,its⟩ x) (D:=D+156) J hn Q C G T u.top (.ref 5 g) e1 m f 862,B.le<|Qi _ _,.rfl,.rfl,u⟩
      ·clear N;subst I;exactλf b m x B u=>⟨m,x.set ⟨i,aW body ((s.map λl=>l.1).map Hw.av)<|.tup p.1,3,aC o⟩,hY u.top<|NA (F:=fx Z a ⟨w,(e.sn+1,s.map λl=>l.1)::own,its⟩ x) (D:=D+156) J hn Q C G T u.top (.ref 5 g) e1 m f 862,B.le<|Qi _ _,.rfl,(u.set ⟨i,aW body ((s.map λl=>l.1).map Hw.av)<|.tup p.1,3,aC o⟩ rfl).2,(u.set ⟨i,aW body ((s.map λl=>l.1).map Hw.av)<|.tup p.1,3,aC o⟩ rfl).1⟩
    · clear J;subst V;haveI M:=hR p<|j5 hp;haveI O:aa (s.map λl=>l.1) j=some p.1:=dS _ hp;rw[pre_bind,bind_bind];refine a5.push (t1:=⟨i,aW body ((s.map λl=>l.1).map Hw.av) L.av,2,.int<|e.sn+1⟩) (Qg _) y rfl (λw=>(hC w).item W) (λf b m x B u=>?_) (.inr ⟨p.2,⟨3,_,rfl,rfl,by show 2<=1000;decide⟩,M.2,rfl⟩) λZ w e2 K y U=>?_;·haveI r:=AQ (F:=fx Z a ⟨w,own,its⟩<|x.set ⟨i,aW body ((s.map λl=>l.1).map Hw.av) L.av,2,.int<|e.sn+1⟩) ⟨y.ok.ac,y.ok.vs⟩ (sv y _ _) (uK<|hC w) (B.le<|aK (ai _) (.p 0 1) (.a (.v 0)<|.m 3<|.n 1) rfl) f 862 (D+156) M.1.2.1 it (e.sn+1) r;rw[Iw]at r;exact r.elim λm1 k=>⟨m1,x.set ⟨i,aW body ((s.map λl=>l.1).map Hw.av) L.av,2,.int<|e.sn+1⟩,hY u.top<|NC (z x) hj O C G T u.top e1 m f 862 k.1,k.2.1,k.2.2,(u.set ⟨i,aW body ((s.map λl=>l.1).map Hw.av) L.av,2,.int<|e.sn+1⟩ rfl).2,(u.set ⟨i,aW body ((s.map λl=>l.1).map Hw.av) L.av,2,.int<|e.sn+1⟩ rfl).1⟩
      · refine(y.cux ⟨w,own,it::its⟩).elim λl' z=>?_;refine qC (i:=i) (body:=body) (rs:=(s.map λl=>l.1).map Hw.av) N U y (λw=>(hC w).dn) (λH=>?_) (λp I=>?_) hM
        ·subst H;intro f b m x B u;haveI r:=PH (D:=D+156) (z x) ⟨y.ok.ac,y.ok.vs⟩ ((sv y _ _).trans<|by rw[mE]) (uK<|hC w) u.top (aC K) e2 m f 862;rw[vU]at r;exact⟨m,x,hY u.top r,B.le<|Qi _ _,.rfl,.rfl,u⟩
        ·clear N;subst I;intro f b m x B u;haveI r:=ND (D:=D+156) (z x) ⟨y.ok.ac,y.ok.vs⟩ ((sv y _ _).trans<|by rw[mE]) (uK<|hC w) u.top (aC K) e2 m f 862;rw[vU]at r;exact⟨m,x.set ⟨i,aW body ((s.map λl=>l.1).map Hw.av)<|.tup p.1,3,aC K⟩,hY (D:=D+158) u.top r,B.le<|Qi _ _,.rfl,(u.set ⟨i,aW body ((s.map λl=>l.1).map Hw.av)<|.tup p.1,3,aC K⟩ rfl).2,(u.set ⟨i,aW body ((s.map λl=>l.1).map Hw.av)<|.tup p.1,3,aC K⟩ rfl).1⟩
end
structure Lw where(a b sr:Int)
structure Lr where
 of:Int(wh kp:Bool)bd:List AV
noncomputable def Lr.av(r:Lr):AV:=.tup [.int r.of,.bool r.wh,.bool r.kp,.fl r.bd]
structure LC where
 op:List<|Int×List Lr
 its:List Int
inductive Iy where|dn(lg:List Int)(s:Lw)(o:MO)|yl(lg:List Int)(s:Lw)(v:Int)(k:Bool->Iy)
noncomputable def Iy.ctorIdx(v:Iy):Nat:=Iy.casesOn v (λξ ξ ξ=>0) λξ ξ ξ ξ=>1
abbrev LS:=LC->Lw->Iy
noncomputable def Iy.pre(lg:List Int):Iy->Iy|dn l s o=>dn (lg++l) s o|yl l s v k=>yl (lg++l) s v k
noncomputable def Iy.bind(κ:Lw->MO->Iy):Iy->Iy|dn l s o=>bif aR o then dn l s o else(κ s o).pre l|yl l s v k=>yl l s v λz=>(k z).bind κ
structure Pl where
 ls:List<|List Int
 vs:List Int
 s:Lw
 o:MO
noncomputable def ja:List (List Int)->List Int->List (List Int)|[],_=>[]|l::r,g=>(l++g)::r
noncomputable def play(left:Int):Iy->List (List Int)->List Int->Pl|.dn lg s o,ls,vs=>⟨ja ls lg,vs,s,o⟩|.yl lg s v k,ls,vs=>play left (k !iF (vs.length+1:Nat) left) ([]::ja ls lg)<|vs++[v]
theorem wY(ls:List<|List Int)(a b:List Int):ja (ja ls a) b=ja ls (a++b):=by
 rcases ls with _|⟨l,r⟩;·rfl
 ·exact congrArg (λc=>c::r)<|Qd ..
theorem EK(left:Int)(lg:List Int)(P:Iy)(ls:List<|List Int)(vs:List Int):play left (P.pre lg) ls vs=play left P (ja ls lg) vs:=by
 rcases P with⟨l,s,o⟩|⟨l,s,v,k⟩;·exact congrArg (λx=>Pl.mk x vs s o) (wY ls lg l).symm
 ·exact congrArg (λx=>play left (k _) ([]::x)<|vs++[v]) (wY ls lg l).symm
theorem DI(left:Int)(κ:Lw->MO->Iy)(P:Iy):∀(ls:List<|List Int)(vs:List Int),(play left (P.bind κ) ls vs).o≠.bad->(play left P ls vs).o≠.bad/\play left (P.bind κ) ls vs=play left (κ (play left P ls vs).s (play left P ls vs).o) (play left P ls vs).ls (play left P ls vs).vs:=by induction P with
 |dn l s o=>intro ls vs;refine(?_:(play left (bif aR o then _ else _) _ _).o≠_->o≠_/\play left (bif aR o then _ else _) _ _=_);cases a:aR o with
  |true=>cases o<;>first|exactλh=>absurd rfl h|exact fT a
  |false=>exactλc=>⟨λk=>by rw[k]at a;exact cX a,EK left l (κ s o) ls vs⟩
 |yl l s v k b=>exactλls vs=>b _ _ _
noncomputable def eV:List (List Int)->Nat|[]=>0|l::r=>l.length+1+eV r
theorem wZ(ls:List<|List Int)(g:List Int):eV ls<=eV (ja ls g):=by
 rcases ls with _|⟨l,r⟩;·exact Qg _
 ·exact Nat.add_le_add_right (Nat.add_le_add_right (Qa▸Qi _ _) 1) _
theorem vq(left:Int)(P:Iy):∀(ls:List<|List Int)(vs:List Int),eV ls<=eV (play left P ls vs).ls/\vs.length<=(play left P ls vs).vs.length:=by induction P with|dn l s o=>exactλls vs=>⟨wZ ls l,Qg _⟩|yl l s v k c=>intro ls vs;obtain⟨a,b⟩:=c (!iF (vs.length+1:Nat) left) ([]::ja ls l)<|vs++[v];refine⟨Qh (wZ ls l)<|Qh (Nat.le_add_left _ _) a,Qh (by refine Rr Qa ?_;exact Qi _ _) b⟩
structure Rg where(r0 r1 r2 r3 r4 r5 r6 r7 r8 r9 r11:List AO)
noncomputable def cQ(l:List Int):AO:=.list<|l.map .int
noncomputable def df:Nat->List AV|0=>[]|n+1=>df n++[.ref 12 n]
noncomputable def dt(p:Int×List Lr):AV:=.tup [.int p.1,.fl<|p.2.map Lr.av]
noncomputable def wD(left sr:Int):AO:=.sdict [(⟨#[101,110,118]⟩,.ref 10 0),(⟨#[108,111,103,115]⟩,.ref 10 1),(⟨#[118,97,108,117,101,115]⟩,.ref 10 2),(⟨#[108,101,102,116,95,97,116]⟩,.int left),(⟨#[111,112,101,110]⟩,.ref 10 3),(⟨#[105,116,101,109,115]⟩,.ref 10 4),(⟨#[115,101,114,105,97,108]⟩,.int sr)]
noncomputable def wg(r:Rg)(left:Int)(op:List AV)(its:List AV)(s:Lw)(lr:List AV)(ls:List AO)(vs:List AV):AS:=[r.r0,r.r1,r.r2,r.r3,r.r4,r.r5,r.r6,r.r7,r.r8,r.r9,[.idict [(1,.int s.a),(2,.int s.b)],.list lr,.list vs,.list op,.list its,wD left s.sr],r.r11,ls]
noncomputable def ws(r:Rg)(left:Int)(cx:LC)(s:Lw)(ls:List<|List Int)(vs:List Int):AS:=wg r left (cx.op.reverse.map dt) (cx.its.reverse.map .int) s (df ls.length) (ls.reverse.map cQ)<|vs.map .int
noncomputable abbrev W:AV:=.ref 10 5
noncomputable def bB:MO->AV|.nx=>.tup [.int 0]|.brk=>.tup [.int 1,.str ⟨#[98,114,101,97,107]⟩]|.again=>.tup [.int 1,.str ⟨#[97,103,97,105,110]⟩]|.fin=>.tup [.int 1,.str ⟨#[101,110,100]⟩]|.stop=>.tup [.int 2]|.bad=>.tup [.int 0]|.thr i g r=>.tup [.int 3,.int i,.int g,.int r]
inductive Vl where|k(n:Int)|e1|e2|th(n:Int)
noncomputable def Vl.ctorIdx(v:Vl):Nat:=Vl.casesOn v (λξ=>0) 1 2 λξ=>3
noncomputable def Vl.av:Vl->AV|k n=>.tup [.int 0,.int n]|e1=>.tup [.int 1,.int 0]|e2=>.tup [.int 2,.int 0]|th n=>.tup [.int 3,.int n]
noncomputable def Vl.val(v:Vl)(s:Lw):Int:=match v with|k n=>n|e1=>s.a|e2=>s.b|th n=>n
noncomputable def km(it b:Int)(r:Lr):Bool:=(iF r.of 2||iF r.of 0||iF it 3)&&(!r.wh||iF b 1)
noncomputable def dF(it b:Int):List Lr->Nat->Option Nat|[],_=>none|r::l,i=>bif km it b r then some i else dF it b l<|i+1
noncomputable def gb(it b:Int):List (Int×List Lr)->Int×Int|[]=>(0,0)|p::l=>match dF it b p.2 0 with|some i=>(p.1,i)|none=>gb it b l
noncomputable def fk(it:Int):LS:=λcx s=>.dn [] s<|.thr it (gb it s.b cx.op).1 (gb it s.b cx.op).2
noncomputable def qa:LS:=λcx=>fk (cx.its.headD 0) cx
noncomputable def tu(n:Int):LS:=λξ s=>.dn [n] s .nx
noncomputable def ig(one:Bool)(v:Vl):LS:=λcx s=>match v with|.th n=>fk n cx s|v=>.dn [] (bif one then⟨v.val s,s.b,s.sr⟩else⟨s.a,v.val s,s.sr⟩) .nx
noncomputable def fQ(v:Vl):LS:=λcx s=>match v with|.th n=>fk n cx s|v=>.yl [] s (v.val s) λz=>.dn [] s<|gi z
noncomputable def jE(o:MO):LS:=λξ s=>.dn [] s o
noncomputable def gL:MO->Bool|.nx=>true|_=>false
noncomputable def a8:List LS->LS|[],_,s=>.dn [] s .nx|L::r,cx,s=>(L cx s).bind λs o=>bif gL o then a8 r cx s else .dn [] s o
noncomputable def ix(one:Bool)(A B:LS):LS:=λcx s=>bif iF (bif one then s.a else s.b) 1 then A cx s else B cx s
noncomputable def dG(B:LS):Nat->LS|0,_,s=>.dn [] s .nx|n+1,cx,s=>(B cx s).bind λs o=>bif bZ o then dG B n cx s else .dn [] s<|cK o
noncomputable def iS(L:Option LS)(cx:LC):Lw->MO->Iy:=λs o=>match L with|none=>.dn [] s o|some L=>(L cx s).bind λs o2=>.dn [] s<|dB o o2
noncomputable def iZ(A B:LS):LS:=λcx s=>(A cx s).bind<|iS (some B) cx
noncomputable def kE(N:Int)(hs:List<|Lr×LS)(cx:LC):Lw->MO->Iy:=λs o=>match o with|.thr it g r=>bif iF g N then match(bV r).bind<|aa hs with|some p=>p.2 ⟨cx.op,it::cx.its⟩<|bif p.1.kp then⟨s.a,it,s.sr⟩else s|none=>.dn [] s .bad else .dn [] s o|o=>.dn [] s o
noncomputable def kG(A:LS)(hs:List<|Lr×LS)(L:Option LS):LS:=λcx s=>((A ⟨(s.sr+1,hs.map λξ=>ξ.1)::cx.op,cx.its⟩ ⟨s.a,s.b,s.sr+1⟩).bind<|kE (s.sr+1) hs cx).bind<|iS L cx
section
variable{r:Rg}{left:Int}{cx:LC}{s:Lw}{ls:List<|List Int}{vs:List Int}{D:Nat}
theorem Ck(r:Rg)(left:Int)(cx:LC)(s:Lw)(ls:List<|List Int)(vs:List Int){v:Vl}(b:∀n,v≠.th n):rn (D+1) false 1590 [W,v.av] (ws r left cx s ls vs)=.ok (.int<|v.val s) (ws r left cx s ls vs):=ak<|by
 rcases v with n|_|_|n;·exact az 3 ae
 ·exact az 7 ae
 ·exact az 7 ae
 ·exact absurd rfl<|b n
noncomputable abbrev zA:dc:=d4 1611 59<|aa (bI 1611) 0
noncomputable def PI(f:Nat):Option Stmt:=aa (kX<|aa (bI f) 0) 1
noncomputable abbrev rH:dc:=d4 1611 58<|PI 1611
noncomputable abbrev tL(it p n rows:AV):aq:=[(q "w",W),(q "item",it),(q "place",p),(q "number",n),(q "rows",rows)]
noncomputable def Cm(it n:Int)(o:Option Nat):Fl:=match o with|some i=>.ret<|.tup [.int 3,.int it,.int n,.int i]|none=>.next
noncomputable def A0(o:Option Nat)(l:aq):aq:=match o with|some _=>[]|none=>l
theorem Iz{i:Nat}(h:bG j i=some x.av)(K:List AV)(d:km it s.b x=true->z=.go (.ret<|.tup [.int 3,.int it,.int n,.int i]) [] (ws r left cx s ls vs))(f:km it s.b x=false->(bk rH K (tL (.int it) p (.int n)<|.fl j)<|ws r left cx s ls vs).ev (rn D)=z):(bk rH (.int i::K) (tL (.int it) p (.int n)<|.fl j)<|ws r left cx s ls vs).ev (rn D)=z:=by obtain⟨m,l,v,w⟩:=x;haveI e:km it s.b ⟨m,l,v,w⟩=((iF m 2||iF m 0||iF it 3)&&(!l||iF s.b 1)):=rfl;rw[e]at d f;cases c:iF m 2 with
 |true=>
  rw[c]at d f;clear e;rcases l with _|_;·rw[d rfl];exact ah (.V 0 h<|.B 0 c .nil) 1 ae
  ·cases a:iF s.b 1 with|true=>rw[a]at d;rw[d rfl];exact ah (.V 0 h<|.B 0 c<|.B 5 a .nil) 0 ae|false=>rw[a]at f;exact bH (.V 0 h<|.B 0 c<|.B 5 a .nil) 0<|f rfl
 |false=>cases g:iF m 0 with
  |true=>
   rw[c,g]at d f;clear e;rcases l with _|_;·rw[d rfl];exact ah (.V 0 h<|.B 0 c<|.B 0 g .nil) 1 ae
   ·cases a:iF s.b 1 with|true=>rw[a]at d;rw[d rfl];exact ah (.V 0 h<|.B 0 c<|.B 0 g<|.B 5 a .nil) 0 ae|false=>rw[a]at f;exact bH (.V 0 h<|.B 0 c<|.B 0 g<|.B 5 a .nil) 0<|f rfl
  |false=>cases k:iF it 3 with
   |true=>
    rw[c,g,k]at d f;clear e;rcases l with _|_;·rw[d rfl];exact ah (.V 0 h<|.B 0 c<|.B 0 g<|.B 0 k .nil) 1 ae
    ·cases a:iF s.b 1 with|true=>rw[a]at d;rw[d rfl];exact ah (.V 0 h<|.B 0 c<|.B 0 g<|.B 0 k<|.B 5 a .nil) 0 ae|false=>rw[a]at f;exact bH (.V 0 h<|.B 0 c<|.B 0 g<|.B 0 k<|.B 5 a .nil) 0<|f rfl
   |false=>rw[c,g,k]at f;exact bH (.V 0 h<|.B 0 c<|.B 0 g<|.B 0 k .nil) 0<|f rfl
theorem zB(n it:Int)(p:AV)(hl:full.length<=1000):∀(rs:List Lr)(a:List Lr),full=a++rs->(bk rH (d9 a.length rs.length) (tL (.int it) p (.int n)<|.fl<|full.map Lr.av)<|ws r left cx s ls vs).ev (rn D)=.go (Cm it n<|dF it s.b rs a.length) (A0 (dF it s.b rs a.length)<|tL (.int it) p (.int n)<|.fl<|full.map Lr.av) (ws r left cx s ls vs)|[],a,e=>rfl|x::rs,a,e=>by haveI g:bG (full.map Lr.av) a.length=some x.av:=dZ rfl (dS _<|by refine Rr e ?_;exact eI _ _ _) (by rw[Qb];exact af (ai _) (.v 0) (.n 1000) (.p 0 0) (.n 200000) hl rfl);haveI f:=zB n it p hl rs (a++[x]) (by rw[e,Qd];rfl);rw[Qa]at f;refine(?_:_=S.go (Cm it n<|bif km it s.b x then some a.length else dF it s.b rs<|a.length+1) (A0 (bif km it s.b x then some a.length else dF it s.b rs<|a.length+1) _) _);exact Iz g _ λk=>by refine Rr k ?_;rfl λk=>by refine Rr k ?_;exact f
noncomputable def qb(it:Int)(o:Int×Int):AV:=.tup [.int 3,.int it,.int o.1,.int o.2]
noncomputable def opOk(op:List<|Int×List Lr):Prop:=op.length<=1000/\∀p∈op,p.2.length<=1000
theorem w2{b d:Type}(g:b->d)(p:b)(l:List b):∀a:List b,aa ((a++p::l).reverse.map g) l.length=some (g p):=λa=>by rw[List.reverse_append,Qf,Qd,List.map_append,show l.length=(l.reverse.map g).length by rw[Qb,Qe]];exact eI _ _ _
noncomputable def qc(σ:AS)(it b:Int):List (Int×List Lr)->S|[]=>.go .next [(q "w",W),(q "item",.int it)] σ|p::l=>match dF it b p.2 0 with|some i=>.go (.ret<|.tup [.int 3,.int it,.int p.1,.int i]) [] σ|none=>qc σ it b l
theorem IA(f:opOk cx.op)(it:Int):∀(a d:List<|Int×List Lr),cx.op=d++a->(bk zA (iO (a.length-1) a.length) [(q "w",W),(q "item",.int it)]<|ws r left cx s ls vs).ev (rn D)=qc (ws r left cx s ls vs) it s.b a:=by intro a;induction a with|nil=>exactλd k=>rfl|cons p a ih=>
  intro d k;haveI g:(cx.op.reverse.map dt).length+0<=200000:=by rw[Qb,Qe];exact Qh f.1<|bL rfl
  haveI x:(a.length+1:Int)-1=a.length:=by lia
  have l:=dZ x (by refine Rr k ?_;exact w2 dt p a d) g;have hp:=f.2 p (by refine Rr k ?_;exact List.mem_append_right _ Qj);haveI u:(if aE (p.2.map Lr.av)=true then some<|AV.int (p.2.map Lr.av).length else none)=some (.int p.2.length):=by rw[ie<|by rw[Qb];exact hp,Qb]
  haveI w:=jO<|af (ai _) (.v 0) (.n 1000) (.v 0) (.n 200000) hp rfl;haveI t:=jN<|af (ai _) (.v 0) (.n 1000) (.v 0) (.n 200000) hp rfl;haveI c:=zB (r:=r) (left:=left) (cx:=cx) (s:=s) (ls:=ls) (vs:=vs) (D:=D) p.1 it (.int<|a.length+1-1) hp p.2 [] rfl;haveI o:=ih (d++[p]) (by rw[k,Qd];rfl);refine(?_:(bk zA (.int (a.length+1-1)::iO (a.length+1-1-1) a.length) _ _).ev _=match dF it s.b p.2 0 with|some i=>_|none=>_);rw[<-x]at o;revert c;cases dF it s.b p.2 0 with|some i=>intro c;exact ah (.V 3 l<|.V 0 u<|.V 0 w<|.V 0 t<|.P 0 c .nil) 0 ae|none=>intro c;exact bH (.V 3 l<|.V 0 u<|.V 0 w<|.V 0 t<|.P 0 c .nil) 0 o
theorem A2(d:AS)(it b:Int):∀l:List<|Int×List Lr,qc d it b l=.go (.ret<|qb it<|gb it b l) [] d\/qc d it b l=.go .next [(q "w",W),(q "item",.int it)] d/\gb it b l=(0,0)|[]=>.inr ⟨rfl,rfl⟩|p::l=>by refine(?_:(match dF it b p.2 0 with|some i=>_|none=>_)=S.go (.ret<|qb it<|match dF it b p.2 0 with|some i=>_|none=>_) _ _\/(match dF it b p.2 0 with|some i=>_|none=>_)=_/\(match dF it b p.2 0 with|some i=>_|none=>_)=_);cases dF it b p.2 0 with|some i=>exact .inl rfl|none=>exact A2 d it b l
theorem NF(f:opOk cx.op)(it:Int)(r:Rg)(left:Int)(s:Lw)(ls:List<|List Int)(vs:List Int):rn (D+1) false 1611 [W,.int it] (ws r left cx s ls vs)=.ok (qb it<|gb it s.b cx.op) (ws r left cx s ls vs):=by
 haveI d:=IA (r:=r) (left:=left) (s:=s) (ls:=ls) (vs:=vs) (D:=D) f it cx.op [] rfl;have hl:(if aE (cx.op.reverse.map dt)=true then some<|AV.int (cx.op.reverse.map dt).length else none)=some (.int cx.op.length):=by rw[ie<|by rw[Qb,Qe];exact f.1,Qb,Qe]
 have j:(if(sm (cx.op.length-1)&&sm (-1)&&iF (-1) (-1))=true then some<|AV.rng (cx.op.length-1) (-1)<|-1 else none)=some (.rng (cx.op.length-1) (-1)<|-1):=by
  haveI l:=f.1;haveI:sm (cx.op.length-1)=true:=by delta sm;rw[Bool.and_eq_true];exact⟨decide_eq_true<|by omega,decide_eq_true<|by omega⟩
  refine Rr this ?_;rfl
 have i:iter (.rng (cx.op.length-1) (-1)<|-1)=some (.fl<|iO (cx.op.length-1) cx.op.length):=by
  have l:=f.1;have:sm (cx.op.length-1)=true:=by delta sm;rw[Bool.and_eq_true];exact⟨decide_eq_true<|by omega,decide_eq_true<|by omega⟩
  show(if(!(sm _&&sm (-1)))=true then none else if-1=1 then _ else if-1=-1 then some<|AV.fl<|iO _ ((cx.op.length:Int)-1- -1).toNat else none)=_;refine Rr this<|Rr (show((cx.op.length:Int)-1- -1).toNat=cx.op.length by lia) ?_;rfl
 refine ak ?_;rcases A2 (ws r left cx s ls vs) it s.b cx.op with h|⟨h,k⟩;·rw[h]at d;exact ah (.V 3 hl<|.V 1 j<|.V 0 i<|.P 0 d .nil) 0 ae
 ·rw[h]at d;refine Rr k ?_;exact ah (.V 3 hl<|.V 1 j<|.V 0 i<|.P 0 d .nil) 0 ae
end
section
variable{r:Rg}{left:Int}{cx:LC}{s:Lw}{ls:List<|List Int}{vs:List Int}{D h:Nat}{q:Bool}
structure dN(cx:LC)(h:Nat)(q:Bool):Prop where
 op:cx.op.length+h<=900
 its:cx.its.length+h<=900
 rows:∀p∈cx.op,p.2.length<=1000
 q:q=true->cx.its≠[]
noncomputable def Pl.ok(P:Pl):Prop:=P.o≠.bad/\eV P.ls<=100000/\P.vs.length<=100000
noncomputable def Wr(r:Rg)(left:Int)(cx:LC)(s:Lw)(ls:List<|List Int)(vs:List Int)(D f:Nat)(a:List AV)(P:Pl):Prop:=P.ok->rn D false f a (ws r left cx s ls vs)=.ok (bB P.o) (ws r left cx P.s P.ls P.vs)
noncomputable def Wk(h:Nat)(t:AV)(L:LS)(q:Bool):Prop:=∀(r:Rg)(left:Int)(cx:LC)(s:Lw)(l:List Int)(ls:List<|List Int)(vs:List Int)(D:Nat),dN cx h q->Wr r left cx s (l::ls) vs (D+h) 1625 [W,t] (play left (L cx s) (l::ls) vs)
theorem dN.opOk(H:dN cx h q):opOk cx.op:=⟨by haveI:=H.op;exact af (au _ _) (.a (.v 0)<|.v 1) (.n 900) (.v 0) (.n 1000) this rfl,H.rows⟩
theorem nf:∀n,(df n).length=n|0=>rfl|n+1=>by refine Rr Qa<|Rr (nf n) ?_;rfl
theorem IB(n:Nat)(h:n<=100000):bG (df<|n+1) ((df<|n+1).length-1)=some (.ref 12 n):=by haveI:=lV (df n) (.ref 12 n) (by rw[nf];exact h);exact this
theorem KG(n:Nat)(h:n<=100000):(if aE (df n)=true then some<|AV.int (df n).length else none)=some (.int (df n).length):=if_pos<|br<|by rw[nf];exact af (ai _) (.v 0) (.n 100000) (.p 0 0) (.n 300000) h rfl
theorem ng:∀ls:List<|List Int,ls.length<=eV ls|[]=>Qg _|l::r=>Nat.succ_le_of_lt<|Nat.lt_of_le_of_lt (ng r)<|aK (au _ _) (.p 0 1) (.a (.p 1 1)<|.v 0) rfl
theorem IC(l:List Int)(ls:List<|List Int):aa ((l::ls).reverse.map cQ) ls.length=some (cQ l):=w2 cQ l ls []
theorem ID(l a:List Int)(ls:List<|List Int):aD (λb=>cQ a) ((l::ls).reverse.map cQ) ls.length=(a::ls).reverse.map cQ:=by refine Rr Qf<|Rr Qf<|Rr List.map_append<|Rr List.map_append<|Rr (show ls.length=(ls.reverse.map cQ).length by rw[Qb,Qe]) ?_;exact lD _ _ _
theorem IE(n:Int):Wk 1 (.tup [.str ⟨#[108,111,103]⟩,.int n]) (tu n) q:=by
 intro r left cx s l ls vs D hC hP;haveI c:(l++[n]).length+1+eV ls<=100000:=hP.2.1;haveI d:=ng ls;rw[Qa]at c;haveI i:(if aE (l.map AV.int)=true then some<|AO.list<|l.map AV.int++[.int n]else none)=some (cQ<|l++[n]):=by refine Rr (if_pos<|br<|by rw[Qb];exact af (aH _ _ _) (.a (.a (.a (.v 0)<|.v 1)<|.n 1)<|.v 2) (.n 100000) (.p 0 0) (.n 300000) c rfl) ?_;show some (AO.list<|l.map AV.int++[n].map AV.int)=some (AO.list<|(l++[n]).map AV.int);exact Rr List.map_append rfl
 haveI g:=IC l ls;refine dM (τ:=λx=>wg r left (cx.op.reverse.map dt) (cx.its.reverse.map .int) s (df<|ls.length+1) x<|vs.map .int) (ID l (l++[n]) ls) ?_;exact ah (.V 7 (KG (ls.length+1)<|aO (b8 _ _ _ _) (.v 0) (.v 1) (.a (.a (.a (.v 2)<|.v 3)<|.n 1)<|.v 1) (.n 100000) (.p 0 1) (.n 100000) d c rfl)<|.V 2 (IB ls.length<|aO (b8 _ _ _ _) (.v 0) (.v 1) (.a (.a (.a (.v 2)<|.v 3)<|.n 1)<|.v 1) (.n 100000) (.v 0) (.n 100000) d c rfl)<|.O 0 g<|.O 1 g<|.O 0 i .nil) 0 ae
theorem IF(o:MO)(a:bB o=.tup [.int 1,.str k])(b:o≠.nx):Wk 1 (.tup [.str zs35,.str k]) (jE o) q:=by intro r left cx s l ls vs D hC hP;haveI e:play left (jE o cx s) (l::ls) vs=⟨(l++[])::ls,vs,s,o⟩:=rfl;refine(?_:_=R.ok (bB o) (ws r left cx s ((l++[])::ls) vs));rw[a,Qc];exact ak<|az 15 ae
theorem oo(it:Int)(hC:dN cx h q)(D:Nat)(l:List Int){c:Cd}(e:∀v,rn (D+1) false 1611 [W,.int it] (ws r left cx s (l::ls) vs)=.ok v (ws r left cx s (l::ls) vs)->c.ev (rn<|D+1)=.go (.ret v) [] (ws r left cx s (l::ls) vs)):c.ev (rn<|D+1)=.go (.ret<|bB (play left (fk it cx s) (l::ls) vs).o) [] (ws r left cx (play left (fk it cx s) (l::ls) vs).s (play left (fk it cx s) (l::ls) vs).ls (play left (fk it cx s) (l::ls) vs).vs):=by show _=S.go (.ret<|qb it<|gb it s.b cx.op) [] (ws r left cx s ((l++[])::ls) vs);rw[Qc];exact e _<|NF hC.opOk it r left s (l::ls) vs
theorem IG(d:iF it 0=false):Wk 2 (.tup [.str ⟨#[116,104,114,111,119]⟩,.int it]) (fk it) q:=by
 intro r left cx s l ls vs D hC hP;haveI c:(!iF it 0)=true:=by refine Rr d ?_;rfl
 exact ak<|oo it hC D l λv h=>ah (.B 13 c<|.C 0 h .nil) 0 ae
theorem KH:Wk 2 (.tup [.str ⟨#[116,104,114,111,119]⟩,.int 0]) qa true:=by intro r left cx s l ls vs D hC hP;haveI i:=hC.q rfl;cases c:cx.its with|nil=>exact absurd c i|cons it b=>
  haveI hl:=hC.its;rw[c]at hl;haveI e1:b.reverse.map AV.int++[.int it]=cx.its.reverse.map AV.int:=by rw[c,mE]
  haveI g:=iX (b.reverse.map AV.int) (.int it) (by rw[Qb,Qe];exact af (ai _) (.a (.p 0 1)<|.n 2) (.n 900) (.v 0) (.n 100000) hl rfl);haveI d:=lV (b.reverse.map AV.int) (.int it) (by rw[Qb,Qe];exact af (ai _) (.a (.p 0 1)<|.n 2) (.n 900) (.v 0) (.n 100000) hl rfl);rw[e1]at g d;haveI e:qa cx s=fk it cx s:=by show fk (cx.its.headD 0) cx s=_;refine Rr c ?_;rfl
  refine Rr e ?_;exact ak<|oo it hC D l λv h=>ah (.V 19 g<|.V 2 d<|.C 0 h .nil) 0 ae
theorem IJ(c:Bool)(v:Vl):Wk 2 (.tup [.str zs22,.int<|bif c then 1 else 2,v.av]) (ig c v) q:=by
 intro r left cx s l ls vs D hC hP;haveI e:∀v,(∀n,v≠Vl.th n)->play left (ig c v cx s) (l::ls) vs=⟨(l++[])::ls,vs,bif c then⟨v.val s,s.b,s.sr⟩else⟨s.a,v.val s,s.sr⟩,.nx⟩:=λv f=>by cases v<;>first|rfl|exact absurd rfl<|f _
 haveI k:∀v,(∀n,v≠Vl.th n)->rn (D+2) false 1625 [W,.tup [.str zs22,.int<|bif c then 1 else 2,v.av]] (ws r left cx s (l::ls) vs)=.ok (bB .nx) (ws r left cx (bif c then⟨v.val s,s.b,s.sr⟩else⟨s.a,v.val s,s.sr⟩) (l::ls) vs):=λv f=>by haveI g:=Ck (D:=D) r left cx s (l::ls) vs f;refine ak ?_;cases v with
  |th n=>exact absurd rfl<|f n|k n=>clear hP e;cases c with|true=>exact aG 12 g<|az 5 ae|false=>exact aG 12 g<|az 5 ae
  |e1=>clear hP e;cases c with|true=>exact aG 12 g<|az 5 ae|false=>exact aG 12 g<|az 5 ae
  |e2=>clear hP e;cases c with|true=>exact aG 12 g<|az 5 ae|false=>exact aG 12 g<|az 5 ae
 have m:∀v,(∀n,v≠Vl.th n)->rn (D+2) false 1625 [W,.tup [.str zs22,.int<|bif c then 1 else 2,v.av]] (ws r left cx s (l::ls) vs)=.ok (bB (play left (ig c v cx s) (l::ls) vs).o) (ws r left cx (play left (ig c v cx s) (l::ls) vs).s (play left (ig c v cx s) (l::ls) vs).ls (play left (ig c v cx s) (l::ls) vs).vs):=λv f=>by rw[e v f];rw[Qc];exact k v f
 cases v with|th n=>exact ak<|oo n hC D l λv h=>by clear e k m hP;cases c<;>(exact aG 13 h<|az 0 ae)|k n=>exact m (.k n) λn=>nofun|e1=>exact m .e1 λn=>nofun|e2=>exact m .e2 λn=>nofun
theorem KJ(v:Vl):Wk 2 (.tup [.str zs36,v.av]) (fQ v) q:=by
 intro r left cx s l ls vs D hC hP;haveI m:∀v,(∀n,v≠Vl.th n)->vs.length+1<=100000->ls.length<=100000->∀z,iF (vs.length+1) left=z->rn (D+2) false 1625 [W,.tup [.str zs36,v.av]] (ws r left cx s (l::ls) vs)=.ok (bB<|gi !z) (ws r left cx s ([]::l::ls)<|vs++[v.val s]):=λv w A F z t=>by
  haveI e1:=Ck (D:=D) r left cx s (l::ls) vs w;have u:(if aE (vs.map AV.int)=true then some<|AO.list<|vs.map AV.int++[.int<|v.val s]else none)=some (.list<|vs.map .int++[.int<|v.val s]):=if_pos<|br (by rw[Qb];exact af (ai _) (.p 0 1) (.n 100000) (.p 0 0) (.n 300000) A rfl);have i:(if aE (df<|ls.length+1)=true then some<|AO.list<|df (ls.length+1)++[.ref 12 ((l::ls).reverse.map cQ).length]else none)=some (.list<|df (ls.length+1)++[.ref 12 ((l::ls).reverse.map cQ).length]):=if_pos<|br (k:=0) (by rw[nf];exact af (ai _) (.v 0) (.n 100000) (.a (.p 0 1)<|.n 0) (.n 300000) F rfl);have j:(if aE (vs.map AV.int++[AV.int<|v.val s])=true then some<|AV.int (vs.map AV.int++[AV.int<|v.val s]).length else none)=some (.int<|vs.length+1):=by rw[iX (vs.map AV.int) (.int<|v.val s)<|by rw[Qb];exact af (ai _) (.p 0 1) (.n 100000) (.v 0) (.n 100000) A rfl,Qa,Qb];rfl
  refine dM (τ:=λx=>wg r left (cx.op.reverse.map dt) (cx.its.reverse.map .int) s (Prod.fst x) x.2.1 x.2.2) (x:=(df (ls.length+1)++[.ref 12 ((l::ls).reverse.map cQ).length],(l::ls).reverse.map cQ++[.list []],vs.map .int++[.int<|v.val s])) (y:=(df<|ls.length+2,([]::l::ls).reverse.map cQ,(vs++[v.val s]).map .int)) (by rw[Qf (a:=[]),List.map_append,List.map_append,Qb,Qe];rfl) ?_;cases v with
  |th n=>exact absurd rfl<|w n|k n=>cases z with|true=>exact ah (.C 19 e1<|.O 1 u<|.O 4 i<|.V 3 j<|.B 2 t .nil) 0 ae|false=>exact ah (.C 19 e1<|.O 1 u<|.O 4 i<|.V 3 j<|.B 2 t .nil) 0 ae
  |e1=>cases z with|true=>exact ah (.C 19 e1<|.O 1 u<|.O 4 i<|.V 3 j<|.B 2 t .nil) 0 ae|false=>exact ah (.C 19 e1<|.O 1 u<|.O 4 i<|.V 3 j<|.B 2 t .nil) 0 ae
  |e2=>cases z with|true=>exact ah (.C 19 e1<|.O 1 u<|.O 4 i<|.V 3 j<|.B 2 t .nil) 0 ae|false=>exact ah (.C 19 e1<|.O 1 u<|.O 4 i<|.V 3 j<|.B 2 t .nil) 0 ae
 have g:∀v,(∀n,v≠Vl.th n)->(play left (fQ v cx s) (l::ls) vs).ok->rn (D+2) false 1625 [W,.tup [.str zs36,v.av]] (ws r left cx s (l::ls) vs)=.ok (bB (play left (fQ v cx s) (l::ls) vs).o) (ws r left cx (play left (fQ v cx s) (l::ls) vs).s (play left (fQ v cx s) (l::ls) vs).ls (play left (fQ v cx s) (l::ls) vs).vs):=λv w=>by
  haveI e:play left (fQ v cx s) (l::ls) vs=⟨[]::(l++[])::ls,vs++[v.val s],s,gi !iF (vs.length+1) left⟩:=by cases v<;>first|rfl|exact absurd rfl<|w _
  rw[e,Qc];intro hP;haveI A:=hP.2.2;rw[Qa]at A;haveI F:=Qh (ng _) hP.2.1;exact m v w A (af (ai _) (.a (.p 0 1)<|.n 1) (.n 100000) (.v 0) (.n 100000) F rfl) _ rfl
 cases v with|th n=>exact ak<|oo n hC D l λv h=>aG 15 h<|az 0 ae|k n=>exact g (.k n) (λn=>nofun) hP|e1=>exact g .e1 (λn=>nofun) hP|e2=>exact g .e2 (λn=>nofun) hP
end
section
variable{r:Rg}{left:Int}{cx:LC}{s:Lw}{ls:List<|List Int}{vs:List Int}{D h:Nat}{q:Bool}
theorem j3{C:Prop}(H:(play left (P.bind κ) (l::ls) vs).ok)(k:∀f e b c d,play left P (l::ls) vs=⟨e::b,c,f,d⟩->(⟨e::b,c,f,d⟩:Pl).ok->play left (P.bind κ) (l::ls) vs=play left (κ f d) (e::b) c->(play left (κ f d) (e::b) c).ok->C):C:=by
 refine(DI left κ P (l::ls) vs H.1).elim λg j=>?_;haveI i:=(vq left P (l::ls) vs).1;rw[j]at H k;revert k;revert H;revert g;revert i;generalize play left P (l::ls) vs=z;obtain⟨b,c,f,d⟩:=z;intro i g H k;rcases b with _|⟨e,b⟩;·exact absurd i<|Nat.not_le_of_lt<|aK (au _ _) (.n 1) (.a (.p 0 1)<|.v 1) rfl
 ·haveI m:=vq left (κ f d) (e::b) c;exact k f e b c d rfl ⟨g,Qh m.1 H.2.1,Qh m.2 H.2.2⟩ rfl H
theorem Wr.mono(H:∀D,Wr r left cx s ls vs (D+h) f a P)(k:h<=b):Wr r left cx s ls vs b f a P:=by haveI:=H<|b-h;rw[Nat.sub_add_cancel k]at this;exact this
theorem dN.le(H:dN cx h q)(k:a<=h):dN cx a q:=⟨Qh (Qo k _) H.op,Qh (Qo k _) H.its,H.rows,H.q⟩
theorem Wk.mono(H:Wk h t L q)(k:h<=a):Wk a t L q:=λr left cx s l ls vs D hC=>Wr.mono (λD=>H r left cx s l ls vs D<|hC.le k)<|Qh k<|Nat.le_add_left _ _
theorem NG(a:o≠.bad):∃k r,bB o=.tup (.int k::r)/\(!iF k 0)=!gL o/\r.length<=1000:=by cases o<;>first|exact⟨_,_,rfl,rfl,Nat.le_add_left _ 997⟩|exact⟨_,_,rfl,rfl,Nat.le_add_left _ 999⟩|exact⟨_,_,rfl,rfl,Nat.le_add_left _ 1000⟩|exact absurd rfl a
noncomputable abbrev KL:dc:=d4 1597 59<|aa (bI 1597) 0
noncomputable def qe(loc:aq)(P:Pl)(σ:AS):S:=bif gL P.o then .go .next loc σ else .go (.ret<|bB P.o) [] σ
theorem GA{ts:List AV}{Ls:List LS}(H:aL (λt L=>Wk h t L q) ts Ls)(full:AV):∀(cx:LC)(s:Lw)(l:List Int)(ls:List<|List Int)(vs:List Int),dN cx h q->(play left (a8 Ls cx s) (l::ls) vs).ok->(bk KL ts [(Mj.Internal.q "w",W),(Mj.Internal.q "rows",full)]<|ws r left cx s (l::ls) vs).ev (rn<|D+h)=qe [(Mj.Internal.q "w",W),(Mj.Internal.q "rows",full)] (play left (a8 Ls cx s) (l::ls) vs) (ws r left cx (play left (a8 Ls cx s) (l::ls) vs).s (play left (a8 Ls cx s) (l::ls) vs).ls (play left (a8 Ls cx s) (l::ls) vs).vs):=by induction H with|nil=>intro cx s l ls vs hC hP;refine(?_:_=S.go _ _ (ws r left cx s ((l++[])::ls) vs));rw[Qc];rfl|@cons t L ts Ls A _ I=>intro cx s l ls vs hC hP;refine j3 hP λg o b c z e1 u F e=>?_;haveI d:=A r left cx s l ls vs D hC;rw[e1]at d;haveI d:=d u;refine Rr F ?_;revert e;refine(NG u.1).elim λk ζ0=>ζ0.elim λx ζ1=>ζ1.elim λw ζ2=>ζ2.elim λf G=>?_;rw[w]at d;haveI y:=f5 (l:=.int k::x) (i:=0) (k:=0) rfl<|af (ai _) (.v 0) (.n 1000) (.a (.p 0 1)<|.n 0) (.n 200000) G rfl;cases m:gL z with|true=>rw[m]at f;intro e;haveI:=I cx g o b c hC e;exact bH (.C 0 d<|.V 0 y<|.B 0 f .nil) 0 this|false=>rw[m]at f;intro e;refine(?_:_=qe _ ⟨(o++[])::b,c,g,z⟩ (ws r left cx g ((o++[])::b) c));rw[Qc];delta qe;refine Rr m ?_;refine Rr w ?_;exact ah (.C 0 d<|.V 0 y<|.B 0 f .nil) 0 ae
end
section
variable{r:Rg}{left:Int}{cx:LC}{s:Lw}{ls:List<|List Int}{vs:List Int}{D h:Nat}{q:Bool}
noncomputable def Wq(h:Nat)(rows:AV)(L:LS)(q:Bool):Prop:=∀(r:Rg)(left:Int)(cx:LC)(s:Lw)(l:List Int)(ls:List<|List Int)(vs:List Int)(D:Nat),dN cx h q->Wr r left cx s (l::ls) vs (D+h) 1597 [W,rows] (play left (L cx s) (l::ls) vs)
theorem Wq.mono(H:Wq h t L q)(k:h<=a):Wq a t L q:=λr left cx s l ls vs D hC=>Wr.mono (λD=>H r left cx s l ls vs D<|hC.le k)<|Qh k<|Nat.le_add_left _ _
theorem Co{ts:List AV}{Ls:List LS}(H:aL (λt L=>Wk h t L q) ts Ls):Wq (h+1) (.fl ts) (a8 Ls) q:=by intro r left cx s l ls vs D hC hP;haveI k:=GA (r:=r) (D:=D) H (.fl ts) cx s l ls vs (hC.le<|Qk _) hP;refine ak ?_;revert k;generalize play left (a8 Ls cx s) (l::ls) vs=P;delta qe;cases a:gL P.o with|true=>refine Rr (show P.o=.nx by revert a;cases P.o<;>first|exactλb=>rfl|exactλh=>nomatch h) ?_;intro k;exact eT 1 k<|az 0 ae|false=>intro k;exact eT 1 k<|az 0 ae
theorem pD(h:iF (bif c then s.a else s.b) 1=z):ix c A B cx s=bif z then A cx s else B cx s:=by refine Rl h ?_;rfl
theorem KN(j:Wq h (.fl i) A q)(hB:Wq h (.fl g) B q):Wk (h+1) (.tup [.str ⟨#[105,102]⟩,.int<|bif c then 1 else 2,.fl i,.fl g]) (ix c A B) q:=by intro r left cx s l ls vs D hC;haveI f:=j r left cx s l ls vs D<|hC.le<|Qk _;haveI e:=hB r left cx s l ls vs D<|hC.le<|Qk _;cases d:iF (bif c then s.a else s.b) 1 with
 |true=>
  rw[pD d];intro hP;haveI f:=f hP;rcases c with _|_;·exact ak<|ah (.B 21 d<|.C 1 f .nil) 0 ae
  ·exact ak<|ah (.B 21 d<|.C 1 f .nil) 0 ae|false=>
  rw[pD d];intro hP;haveI e:=e hP;rcases c with _|_;·exact ak<|ah (.B 21 d<|.C 1 e .nil) 0 ae
  ·exact ak<|ah (.B 21 d<|.C 1 e .nil) 0 ae
noncomputable def jF(s:Option Stmt):Option Stmt:=gQ s 12 none λs h=>Stmt.If.elim (motive_2:=λξ=>Option Stmt) s h λξ ξ o ξ=>aa o 0
noncomputable abbrev KO:dc:=d4 1625 51<|aa (kX<|jF<|jF<|jF<|jF<|jF<|jF<|jF<|aa (bI 1625) 0) 0
noncomputable def uL(X:S)(loc:aq)(P:Pl)(σ:AS):Prop:=X=.go .next loc σ/\P.o=.nx\/X=.go (.ret<|bB P.o) [] σ
theorem KP{u:List AV}(hB:Wq h (.fl u) B q)(v:AV):∀(n:Nat)(i:Int)(cx:LC)(s:Lw)(l:List Int)(ls:List<|List Int)(vs:List Int),dN cx h q->(play left (dG B n cx s) (l::ls) vs).ok->uL ((bk KO (d9 i n) [(Mj.Internal.q "w",W),(Mj.Internal.q "t",.tup [.str zs37,v,.fl u])]<|ws r left cx s (l::ls) vs).ev<|rn<|D+h) [(Mj.Internal.q "w",W),(Mj.Internal.q "t",.tup [.str zs37,v,.fl u])] (play left (dG B n cx s) (l::ls) vs) (ws r left cx (play left (dG B n cx s) (l::ls) vs).s (play left (dG B n cx s) (l::ls) vs).ls (play left (dG B n cx s) (l::ls) vs).vs):=by intro n;induction n with|zero=>intro i cx s l ls vs hC hP;refine .inl ⟨?_,rfl⟩;show _=S.go _ _ (ws r left cx s ((l++[])::ls) vs);rw[Qc];rfl|succ n ih=>
  intro i cx s l ls vs hC hP;refine j3 hP λk o d e j e1 x y m=>?_;haveI f:=hB r left cx s l ls vs D hC;rw[e1]at f;haveI f:rn (D+h) false 1597 [W,.fl u] (ws r left cx s (l::ls) vs)=.ok (bB j) (ws r left cx k (o::d) e):=f x;refine Rr y ?_;revert m;haveI c:∀{X:S},bZ j=false->X=.go (.ret<|bB<|cK j) [] (ws r left cx k (o::d) e)->uL X [(Mj.Internal.q "w",W),(Mj.Internal.q "t",.tup [.str zs37,v,.fl u])] (play left (bif bZ j then dG B n cx k else .dn [] k<|cK j) (o::d) e) (ws r left cx (play left (bif bZ j then dG B n cx k else .dn [] k<|cK j) (o::d) e).s (play left (bif bZ j then dG B n cx k else .dn [] k<|cK j) (o::d) e).ls (play left (bif bZ j then dG B n cx k else .dn [] k<|cK j) (o::d) e).vs):=λA h=>by refine Rr A ?_;refine(?_:uL _ _ ⟨(o++[])::d,e,k,cK j⟩<|ws r left cx k ((o++[])::d) e);rw[Qc];exact .inr h
  haveI z:=ih (i+1) cx k o d e hC;revert c f;clear e1 y f;cases j with|bad=>exact absurd rfl x.1|nx=>intro f _ m;exact(z m).imp (λ⟨a,b⟩=>⟨aG 1 f<|de 3 a,b⟩) λa=>aG 1 f<|de 3 a|again=>intro f _ m;exact(z m).imp (λ⟨a,b⟩=>⟨aG 1 f<|de 4 a,b⟩) λa=>aG 1 f<|de 4 a|brk=>exactλf c m=>c rfl<|aG 1 f<|az 1 ae|fin=>exactλf c m=>c rfl<|aG 1 f<|az 4 ae|stop=>exactλf c m=>c rfl<|aG 1 f<|az 4 ae|thr it g r=>exactλf c m=>c rfl<|aG 1 f<|az 4 ae
theorem EL(hB:Wq h (.fl d) B q){n:Nat}(c:n<=200000):Wk (h+1) (.tup [.str zs37,.int n,.fl d]) (dG B n) q:=by
 intro r left cx s l ls vs D hC hP;haveI k:=KP (r:=r) (D:=D) hB (.int n) n 0 cx s l ls vs (hC.le<|Qk _) hP;haveI b:=jO c;haveI a:=jN c;refine ak ?_;revert k;rintro(⟨k,e⟩|k);·refine Rr e ?_;exact ah (.V 19 b<|.V 0 a<|.P 0 k .nil) 0 ae
 ·exact ah (.V 19 b<|.V 0 a<|.P 0 k .nil) 0 ae
end
section
variable{r:Rg}{left:Int}{cx:LC}{s:Lw}{ls:List<|List Int}{vs:List Int}{D h:Nat}{q:Bool}
noncomputable def Wl(h:Nat)(rows:AV)(L:Option LS)(q:Bool):Prop:=L=none/\rows=.none\/∃ts L',L=some L'/\rows=.fl ts/\Wq h (.fl ts) L' q
theorem zC(H:Wl h c L q)(n:o≠.bad)(r:Rg)(left:Int)(cx:LC)(s:Lw)(l:List Int)(ls:List<|List Int)(vs:List Int)(D:Nat)(hC:dN cx h q):Wr r left cx s (l::ls) vs (D+h+1) 1604 [W,bB o,c]<|play left (iS L cx s o) (l::ls) vs:=by
 intro hP;rcases H with⟨rfl,rfl⟩|⟨ts,p,rfl,rfl,H⟩;·refine(?_:_=R.ok (bB o) (ws r left cx s ((l++[])::ls) vs));rw[Qc];exact ak<|az 0 ae
 ·refine j3 hP λi k b a e e1 g j m=>?_;haveI d:=H r left cx s l ls vs D hC;rw[e1]at d;haveI d:rn (D+h) false 1597 [W,.fl ts] (ws r left cx s (l::ls) vs)=.ok (bB e) (ws r left cx i (k::b) a):=d g;refine Rr j ?_;refine(?_:_=R.ok (bB<|dB o e) (ws r left cx i ((k++[])::b) a));rw[Qc];refine ak ?_;clear e1 j m;cases e with|bad=>exact absurd rfl g.1|_=>(exact aG 0 d<|az 2 ae)
theorem IK(j:Wq h (.fl i) A q)(hB:Wq h (.fl d) B q):Wk (h+2) (.tup [.str ⟨#[116,114,121]⟩,.fl i,.fl d]) (iZ A B) q:=by intro r left cx s l ls vs D hC hP;refine j3 hP λm n b c o e1 e k f=>?_;haveI a:=j r left cx s l ls vs (D+1)<|hC.le<|Qi _ _;rw[e1]at a;haveI a:=a e;haveI g:=zC (.inr ⟨d,B,rfl,rfl,hB⟩) e.1 r left cx m n b c D (hC.le<|Qi _ _) f;refine Rr k ?_;rw[Nat.add_right_comm]at a;exact ak<|ah (.C 21 a<|.C 1 g .nil) 0 ae
theorem zD(r:Rg)(left:Int)(p:Int×List Lr)(b:List<|Int×List Lr)(a:List Int)(s:Lw)(ls:List<|List Int)(vs:List Int):ws r left ⟨p::b,a⟩ s ls vs=wg r left (b.reverse.map dt++[dt p]) (a.reverse.map .int) s (df ls.length) (ls.reverse.map cQ) (vs.map .int):=by delta ws;refine Rr Qf<|Rr List.map_append ?_;rfl
theorem zE(r:Rg)(left:Int)(it:Int)(b:List<|Int×List Lr)(a:List Int)(s:Lw)(ls:List<|List Int)(vs:List Int):ws r left ⟨b,it::a⟩ s ls vs=wg r left (b.reverse.map dt) (a.reverse.map .int++[.int it]) s (df ls.length) (ls.reverse.map cQ) (vs.map .int):=by delta ws;rw[mE]
theorem dN.push(H:dN cx (h+1) q)(N:Int)(hl:rs.length<=1000):dN ⟨(N,rs)::cx.op,cx.its⟩ h q:=⟨Qh (Qn<|Nat.add_right_comm cx.op.length 1 h) H.op,Qh (Qk _) H.its,λp hp=>(P7 hp).elim (λk=>Rr k hl)<|H.rows p,H.q⟩
theorem dN.item(H:dN cx (h+1) q)(it:Int):dN ⟨cx.op,it::cx.its⟩ h true:=⟨Qh (Qk _) H.op,Qh (Qn<|Nat.add_right_comm cx.its.length 1 h) H.its,H.rows,λb k=>by injection k⟩
noncomputable abbrev jG(ta:List AV)(rows:List Lr)(last:AV):AV:=.tup [.str ⟨#[99,97,116,99,104]⟩,.fl ta,.fl<|rows.map Lr.av,last]
theorem zF(h:L.length<=1000)(v:AV):(if aE L=true then some<|AO.list<|L++[v]else none)=some (AO.list<|L++[v]):=md (af (ai _) (.v 0) (.n 1000) (.p 0 0) (.n 200000) h rfl) v
noncomputable def jR(p:Lr)(it:Int)(s:Lw):Lw:=bif p.kp then⟨s.a,it,s.sr⟩else s
theorem vV(cx:LC)(s:Lw){o:MO}{P:Iy->Prop}(e:P<|.dn [] s .bad)(b:(∀it r,o≠.thr it N r)->P (.dn [] s o))(l:∀it r j p,o=.thr it N r->bV r=some j->aa c j=some p->P (p.2 ⟨cx.op,it::cx.its⟩<|jR p.1 it s)):P<|kE N c cx s o:=by cases o with
 |thr it g r=>show P<|bif iF g N then _ else _;cases k:iF g N with
  |true=>clear b;cases lQ k;cases i:bV r with|none=>exact e|some j=>refine(?_:P<|match aa c j with|some p=>_|none=>_);cases hp:aa c j with|none=>exact e|some p=>exact l it r j p rfl i hp
  |false=>exact b λf m q=>by cases q;rw[gy]at k;exact cX k
 |_=>exact b λit r k=>by injection k
theorem NH(hA:Wq h (.fl L) A q)(hl:(f.map λc=>c.1).length<=1000)(hR:∀p∈f,Wq h (.fl p.1.bd) p.2 true)(r:Rg)(left:Int)(cx:LC)(s:Lw)(l:List Int)(ls:List<|List Int)(vs:List Int)(D:Nat)(hC:dN cx (h+1) q):Wr r left cx s (l::ls) vs (D+h+1) 1618 [W,jG L (f.map λc=>c.1) last]<|play left ((A ⟨(s.sr+1,f.map λc=>c.1)::cx.op,cx.its⟩ ⟨s.a,s.b,s.sr+1⟩).bind<|kE (s.sr+1) f cx) (l::ls) vs:=by
  intro hP;refine j3 hP λw m d e H e1 K T J=>?_;haveI z:(cx.op.reverse.map dt).length<=1000:=by rw[Qb,Qe];exact hC.opOk.1
  haveI Y:(cx.its.reverse.map AV.int).length<=1000:=by rw[Qb,Qe];haveI:=hC.its;exact af (au _ _) (.a (.v 0)<|.p 1 1) (.n 900) (.v 0) (.n 1000) this rfl
  haveI u:=hA r left ⟨(s.sr+1,f.map λc=>c.1)::cx.op,cx.its⟩ ⟨s.a,s.b,s.sr+1⟩ l ls vs D<|hC.push _ hl;rw[e1]at u;haveI u:rn (D+h) false 1597 [W,.fl L] (ws r left ⟨(s.sr+1,f.map λc=>c.1)::cx.op,cx.its⟩ ⟨s.a,s.b,s.sr+1⟩ (l::ls) vs)=.ok (bB H) (ws r left ⟨(s.sr+1,f.map λc=>c.1)::cx.op,cx.its⟩ w (m::d) e):=u K;rw[zD,zD]at u;haveI F:=zF z<|dt (s.sr+1,f.map λc=>c.1);haveI y:=mi (cx.op.reverse.map dt) (dt (s.sr+1,f.map λc=>c.1))<|af (ai _) (.v 0) (.n 1000) (.v 0) (.n 100000) z rfl;refine Rr T ?_;revert J;refine vV (P:=λI=>(play left I (m::d) e).ok->rn (D+h+1) false 1618 [W,jG L (f.map λc=>c.1) last] (ws r left cx s (l::ls) vs)=.ok (bB (play left I (m::d) e).o) (ws r left cx (play left I (m::d) e).s (play left I (m::d) e).ls (play left I (m::d) e).vs)) cx w (λk=>absurd rfl k.1) (λhn c=>?_) λit G j p z hj hp J=>?_;·refine(?_:_=R.ok (bB H) (ws r left cx w ((m++[])::d) e));rw[Qc];refine dM (τ:=λx=>wg r left x (cx.its.reverse.map .int) w (df<|d.length+1) ((m::d).reverse.map cQ)<|e.map .int) (List.dropLast_concat (l₁:=cx.op.reverse.map dt) (b:=dt (s.sr+1,f.map λc=>c.1))) ?_;cases H with|bad=>exact absurd rfl K.1|thr it g G=>haveI hg:iF g (s.sr+1)=false:=eK λk=>hn it G<|Rl k rfl;exact ah (.O 10 F<|.C 1 u<|.V 4 y<|.B 3 hg .nil) 0 ae|_=>(exact ah (.O 10 F<|.C 1 u<|.V 4 y .nil) 2 ae)
  ·clear e1 K T;subst z;haveI t:=hR p (j5 hp) r left ⟨cx.op,it::cx.its⟩ (jR p.1 it w) m d e D (hC.item it) J;revert t;generalize play left (p.2 ⟨cx.op,it::cx.its⟩<|jR p.1 it w) (m::d) e=P;intro t;rw[zE,zE]at t;haveI N:=ka (l:=(f.map λc=>c.1).map Lr.av) G (br<|by rw[Qb];exact af (ai _) (.v 0) (.n 1000) (.p 0 0) (.n 300000) hl rfl) (by refine Rr hj ?_;exact dS Lr.av<|dS (λc=>c.1) hp);haveI M:=zF Y<|.int it;haveI U:=mi (cx.its.reverse.map .int) (.int it)<|af (ai _) (.v 0) (.n 1000) (.v 0) (.n 100000) Y rfl;haveI X:=gy<|s.sr+1;haveI hd:=List.dropLast_concat (l₁:=cx.op.reverse.map dt) (b:=dt (s.sr+1,f.map λc=>c.1));rw[<-hd]at t;refine dM (τ:=λx=>wg r left (Prod.fst x) x.2 P.s (df P.ls.length) (P.ls.reverse.map cQ)<|P.vs.map .int) (x:=((cx.op.reverse.map dt++[dt (s.sr+1,f.map λc=>c.1)]).dropLast,(cx.its.reverse.map AV.int++[AV.int it]).dropLast)) (Rr List.dropLast_concat<|Rr List.dropLast_concat rfl) ?_;revert t;delta jR;cases Z:p.1.kp with|true=>intro t;exact ah (.O 10 F<|.C 1 u<|.V 4 y<|.B 3 X<|.V 2 N<|.O 5 M<|.B 0 Z<|.C 5 t<|.V 4 U .nil) 0 ae|false=>intro t;exact ah (.O 10 F<|.C 1 u<|.V 4 y<|.B 3 X<|.V 2 N<|.O 5 M<|.B 0 Z<|.C 0 t<|.V 4 U .nil) 0 ae
theorem IL(j:Wq h (.fl n) A q)(hl:(e.map λd=>d.1).length<=1000)(u:∀p∈e,Wq h (.fl p.1.bd) p.2 true)(o:Wl h last L q):Wk (h+2) (jG n (e.map λd=>d.1) last) (kG A e L) q:=by intro r left cx s l ls vs D hC hP;refine j3 hP λm t c b w e1 f i k=>?_;haveI a:=NH j hl u r left cx s l ls vs D (hC.le<|Qk _) (last:=last);rw[e1]at a;haveI a:=a f;haveI v:=zC o f.1 r left cx m t c b D (hC.le<|Qi _ _) k;refine Rr i ?_;exact ak<|ah (.C 20 a<|.C 1 v .nil) 0 ae
end
noncomputable def eG:Nat->List Int->List AV|_,[]=>[]|n,v::l=>mf (n+4:Nat) v::eG (n+1) l
theorem GB(n:Nat)(a b:List Int):eG n (a++b)=eG n a++eG (n+a.length) b:=by induction a generalizing n with|nil=>rfl|cons v a c=>refine(?_:_::eG (n+1) (a++b)=_::(eG (n+1) a++_));rw[c,List.length_cons,Nat.add_assoc,Nat.add_comm 1]
theorem qZ(n:Nat)(a:List Int):(eG n a).length=a.length:=by induction a generalizing n with|nil=>rfl|cons v a c=>exact congrArg (λb=>b+1)<|c<|n+1
noncomputable def Eg(e:Me)(s:Lw):Prop:=e.g 1=s.a/\e.g 2=s.b
noncomputable def Tg(w it g r k at_:Int)(G:Int->Int):ba->List (Int×List Lr)->Prop|p::own,p'::op=>(g=p.1/\k=p'.1/\∃(j:Nat)(x:Hw),r=j/\at_=j/\aa p.2 j=some x/\(x.w=true->G x.x=it))\/Tg w it g r k at_ G own op|_,_=>g=w/\r=-1/\k=0/\at_=0
noncomputable def dk(w:Int)(own:ba)(op:List<|Int×List Lr)(G:Int->Int)(o o':MO):Prop:=(o=o'/\o≠.bad/\∀it g r,o≠.thr it g r)\/∃it g r k at_,o=.thr it g r/\o'=.thr it k at_/\(it=2\/it=3)/\Tg w it g r k at_ G own op
structure Sx where
 own:ba
 op:List<|Int×List Lr
 X:Int->Prop
 g0:Int->Int
 w0:Int
 n0:Nat
 r0:Int
structure Am(S:Sx)(t:List AV)(n:Nat)(w:Int)(e:Me)(lg:List Int)(s:Lw):Prop where
 th:e.th=t++eG t.length lg
 eg:Eg e s
 fr:∀l,¬S.X l->e.g l=S.g0 l
 sn:n<=e.sn
 s0:S.n0<=e.sn
 sr:S.r0<=s.sr
 wq:w=S.w0\/(S.n0:Int)<w
 wl:w<=e.sn
noncomputable def aA(S:Sx):Nat->List AV->Nat->Ix->Iy->Prop|B,t,n,.dn c w e o,.dn lg s o'=>c+lg.length<=B/\Am S t n w e lg s/\dk w S.own S.op e.g o o'|B,t,n,.yl c w e v k,.yl lg s v' k'=>v=v'/\Am S t n w e lg s/\∃B',c+(lg.length+1)+B'<=B/\∀z w'(e':Me),e'.g=e.g->(e.sn:Int)<w'->w'<=e'.sn->aA S B' e'.th e'.sn (k z w' e') (k' z)|_,_,_,_,_=>False
theorem aA.mono{S:Sx}(H:aA S B t n P a)(k:B<=b):aA S b t n P a:=by
 cases P<;>cases a<;>first|exact H.elim|skip
 ·exact⟨Qh H.1 k,H.2⟩
 ·exact⟨H.1,H.2.1,H.2.2.imp λc h=>⟨Qh h.1 k,h.2⟩⟩
theorem aA.pre{S:Sx}(H:aA S B t n P b):aA S (B+c) t n (P.pre c) b:=by
 cases P<;>cases b<;>first|exact H.elim|skip
 ·exact⟨af (b8 _ _ _ _) (.a (.v 0)<|.v 1) (.v 2) (.a (.a (.v 0)<|.v 3)<|.v 1) (.a (.v 2)<|.v 3) H.1 rfl,H.2⟩
 ·exact⟨H.1,H.2.1,H.2.2.imp λd h=>⟨af (ef _ _ _ _ _) (.a (.a (.v 0)<|.p 1 1)<|.v 2) (.v 3) (.a (.a (.a (.v 0)<|.v 4)<|.p 1 1)<|.v 2) (.a (.v 3)<|.v 4) h.1 rfl,h.2⟩⟩
theorem aA.lg{S:Sx}{lg:List Int}{e:Me}(d:e.th=t++eG t.length lg)(f:n<=e.sn)(H:aA S B e.th e.sn P c):aA S (B+lg.length) t n P<|c.pre lg:=by
 have b:∀{w:Int}{e1:Me}{l:List Int}{s:Lw},Am S e.th e.sn w e1 l s->Am S t n w e1 (lg++l) s:=λA=>⟨by rw[A.th,d,GB,Qd,Qa,qZ],A.eg,A.fr,Qh f A.sn,A.s0,A.sr,A.wq,A.wl⟩;cases P<;>cases c<;>first|exact H.elim|skip
 ·exact⟨by refine Rr Qa ?_;exact af (b8 _ _ _ _) (.a (.v 0)<|.v 1) (.v 2) (.a (.v 0)<|.a (.v 3)<|.v 1) (.a (.v 2)<|.v 3) H.1 rfl,b H.2.1,H.2.2⟩
 ·exact⟨H.1,b H.2.1,H.2.2.imp λg h=>⟨by refine Rr Qa ?_;exact af (ef _ _ _ _ _) (.a (.a (.v 0)<|.p 1 1)<|.v 2) (.v 3) (.a (.a (.v 0)<|.a (.a (.v 4)<|.v 1)<|.n 1)<|.v 2) (.a (.v 3)<|.v 4) h.1 rfl,h.2⟩⟩
theorem dk.nb(H:dk w c d G o o'):aR o=false/\aR o'=false:=by
 rcases H with⟨rfl,h,_⟩|⟨it,g,r,k,a,rfl,rfl,_⟩;·exact⟨pB h,pB h⟩
 ·exact⟨rfl,rfl⟩
theorem aA.bind{S S':Sx}(C:∀{t n w e lg s},Am S' t n w e lg s->Am S t n w e lg s)(H:∀t n w e lg s o o',Am S' t n w e lg s->dk w S'.own S'.op e.g o o'->aA S B2 e.th e.sn (κ w e o) (κ' s o')):∀(P:Ix)(b:Iy)(i:Nat)(t:List AV)(n:Nat),aA S' i t n P b->aA S (i+B2) t n (P.bind κ) (b.bind κ'):=by intro P;induction P with
 |dn c w e o=>intro b i t n h;cases b with|yl=>exact h.elim|dn lg s o'=>haveI j:=h.1;haveI f:=h.2.1;haveI d:=h.2.2;haveI F:=d.nb.1;haveI B:=d.nb.2;refine(?_:aA S _ t n (bif aR o then _ else _)<|bif aR o' then _ else _);refine Rr F<|Rr B ?_;exact aA.mono (aA.lg f.th f.sn<|H t n w e lg s o o' f d).pre<|af (b8 _ _ _ _) (.a (.v 0)<|.v 1) (.v 2) (.a (.a (.v 3)<|.v 1)<|.v 0) (.a (.v 2)<|.v 3) j rfl
 |yl c w e v k y=>
  intro b i t n h;rcases b with _|⟨lg,s,G,D⟩;·exact h.elim
  ·obtain⟨j,f,m,d,u⟩:=h;exact⟨j,C f,m+B2,af (ef _ _ _ _ _) (.a (.a (.v 0)<|.p 1 1)<|.v 2) (.v 3) (.a (.a (.v 0)<|.p 1 1)<|.a (.v 2)<|.v 4) (.a (.v 3)<|.v 4) d rfl,λz l e' r x A=>y z l e' (D z) m e'.th e'.sn<|u z l e' r x A⟩
section
variable{own:ba}{op:List<|Int×List Lr}{lo hi B R:Nat}{q:Bool}
noncomputable def Rw(p:Hw)(p':Lr):Prop:=p.w=p'.wh/\(p.k=16/\p'.of=0\/p.k=17/\p'.of=1\/p.k=-1/\p'.of=2)
noncomputable def i0:ba->Nat|[]=>0|p::l=>p.2.length+i0 l
noncomputable def fo:ba->ba|[]=>[]|p::l=>bif p.2.isEmpty then fo l else p::fo l
structure fm(own:ba)(op:List<|Int×List Lr)(lo hi R:Nat):Prop where
 al:aL (λp p'=>aL Rw p.2 p'.2) (fo own) op
 xs:∀p∈own,∀r∈p.2,2<r.x/\¬(lo<=r.x/\r.x<hi)rn:i0 own<=R
structure fq(own:ba)(op:List<|Int×List Lr)(w:Int)(e:Me)(s:Lw):Prop where
 eg:Eg e s
 w:w<=e.sn
 o1:∀p∈own,p.1<=(e.sn:Int)o2:∀p∈op,1<=p.1/\p.1<=s.sr
 sr:0<=s.sr
noncomputable def Xr(lo hi:Nat)(own:ba)(l:Int):Prop:=l=1\/l=2\/(lo:Int)<=l/\l<hi\/∃p∈own,∃r∈p.2,l=(r.x:Int)
noncomputable def cj(own:ba)(op:List<|Int×List Lr)(lo hi:Nat)(w:Int)(e:Me)(s:Lw):Sx:=⟨fo own,op,Xr lo hi own,e.g,w,e.sn,s.sr⟩
noncomputable def aS(M:IS)(L:LS)(lo hi B R:Nat)(q:Bool):Prop:=∀(own:ba)(op:List<|Int×List Lr)(its:List Int),fm own op lo hi R->(∀i∈its,i=2\/i=3)->(q=true->its≠[])->∀(w:Int)(e:Me)(s:Lw),fq own op w e s->aA (cj own op lo hi w e s) B e.th e.sn (M ⟨w,own,its⟩ e) (L ⟨op,its⟩ s)
structure Sc(rs:List Hw)(c:Nat)(e e':Me):Prop where
 c:c<=rs.length
 th:e'.th=e.th
 sn:e.sn<=e'.sn
 g:∀l:Int,(∀r∈rs,l≠r.x)->e'.g l=e.g l
theorem KQ(h:Rw p c):tk it p.k=(iF c.of 2||iF c.of 0||iF it 3):=by rcases h.2 with⟨a,b⟩|⟨a,b⟩|⟨a,b⟩<;>(refine Rr a<|Rr b ?_;rfl)
theorem eJ(h:l≠y):eO g l x y=g y:=if_neg h
theorem DJ(it:Int)(H:aL Rw rs f):(∀r∈rs,2<r.x)->∀(i:Nat)(e:Me),Sc rs (aM it rs i e).1 e (aM it rs i e).2.1/\(aM it rs i e).2.2=dF it (e.g 2) f i/\∀j,(aM it rs i e).2.2=some j->∃k x,j=i+k/\aa rs k=some x/\(x.w=true->(aM it rs i e).2.1.g x.x=it):=by induction H with|nil=>exactλn i e=>⟨⟨Qg _,rfl,Qg _,λn n=>rfl⟩,rfl,λj h=>by injection h⟩|@cons p M rs f hp _ y=>
  intro I i e;haveI K:=I p Qj;haveI y:=y λr D=>I r<|Ql _ D;haveI e1:aM it (p::rs) i e=bif tk it p.k then bif p.w then bif iF (eO e.g p.x it 2) 1 then(1,(e.s p.x it).n_,some i)else((aM it rs (i+1) (e.s p.x it).n_).1+1,(aM it rs (i+1) (e.s p.x it).n_).2)else(0,e,some i)else aM it rs (i+1) e:=rfl;haveI L:dF it (e.g 2) (M::f) i=bif tk it p.k&&(!p.w||iF (e.g 2) 1)then some i else dF it (e.g 2) f<|i+1:=by refine Rr (KQ hp)<|Rr hp.1 ?_;rfl
  refine Rr e1<|Rr L<|Rr (eJ<|by omega) ?_;have F:∀{c:Nat}{z e':Me},Sc rs c z e'->∀{A:Nat},A<=c+1->z.th=e.th->e.sn<=z.sn->(∀l:Int,l≠p.x->z.g l=e.g l)->Sc (p::rs) A e e':=λh A N u o t=>⟨Qh N<|Nat.succ_le_succ h.c,h.th.trans u,Qh o h.sn,λl hl=>(h.g l λr D=>hl r<|Ql _ D).trans<|t l<|hl p Qj⟩;have nx:∀{j:Nat}{G:Int->Int},(∃k x,j=i+1+k/\aa rs k=some x/\(x.w=true->G x.x=it))->∃k x,j=i+k/\aa (p::rs) k=some x/\(x.w=true->G x.x=it):=λh=>h.elim λk h=>h.elim λx h=>⟨k+1,x,Nat.le_antisymm (af (aH _ _ _) (.v 0) (.a (.p 1 1)<|.v 2) (.v 0) (.a (.v 1)<|.p 2 1) (Qn h.1) rfl)<|af (aH _ _ _) (.a (.p 0 1)<|.v 1) (.v 2) (.a (.v 0)<|.p 1 1) (.v 2) (i4 h.1) rfl,h.2⟩;rcases tk it p.k with _|_;·obtain⟨u,o,t⟩:=y (i+1) e;exact⟨F u (Qk _) rfl (Qg _) λn n=>rfl,o,λj d=>nx<|t j d⟩
  ·cases J:p.w with|false=>exact⟨⟨Nat.zero_le _,rfl,Qg _,λn n=>rfl⟩,rfl,λj d=>⟨0,p,by haveI d:=sI d;subst d;rfl,rfl,λk=>by rw[J]at k;injection k⟩⟩|true=>haveI C:∀l:Int,l≠p.x->(e.s p.x it).n_.g l=e.g l:=λl hl=>eJ<|Ne.symm hl;cases O:iF (e.g 2) 1 with|true=>refine⟨⟨Nat.succ_le_succ<|Nat.zero_le _,rfl,Qk _,λl hl=>C l<|hl p Qj⟩,rfl,λj d=>⟨0,p,by haveI d:=sI d;subst d;rfl,rfl,λn=>?_⟩⟩;exact if_pos rfl|false=>obtain⟨u,o,t⟩:=y (i+1) (e.s p.x it).n_;rw[C 2<|by omega]at o;exact⟨F u (Qg _) rfl (Qk _) C,o,λj d=>nx<|t j d⟩
theorem vr(a it:Int):∀{own:ba}{op:List<|Int×List Lr},aL (λp h=>aL Rw p.2 h.2) own op->(∀p∈own,∀r∈p.2,2<r.x)->∀(e:Me),(aT a it own e).1<=i0 own/\(aT a it own e).2.1.th=e.th/\e.sn<=(aT a it own e).2.1.sn/\(∀l:Int,(∀p∈own,∀r∈p.2,l≠r.x)->(aT a it own e).2.1.g l=e.g l)/\Tg a it (aT a it own e).2.2.1 (aT a it own e).2.2.2 (gb it (e.g 2) op).1 (gb it (e.g 2) op).2 (aT a it own e).2.1.g own op
 |_,_,.nil,_,e=>⟨Qg _,rfl,Qg _,λC C=>rfl,rfl,rfl,rfl,rfl⟩|p::own,h::op,.cons hp H,s,e=>by refine(DJ it hp (s p Qj) 0 e).elim λb ζ0=>ζ0.elim λN u=>?_;haveI e1:aT a it (p::own) e=match(aM it p.2 0 e).2.2 with|some i=>((aM it p.2 0 e).1,(aM it p.2 0 e).2.1,p.1,i)|none=>((aM it p.2 0 e).1+(aT a it own (aM it p.2 0 e).2.1).1,(aT a it own (aM it p.2 0 e).2.1).2):=rfl;haveI F:gb it (e.g 2) (h::op)=match dF it (e.g 2) h.2 0 with|some i=>(h.1,i)|none=>gb it (e.g 2) op:=rfl;refine Rr e1<|Rr F<|Rl N ?_;haveI w:=vr a it H (λp hp=>s p<|Ql _ hp) (aM it p.2 0 e).2.1;revert b u w;generalize aM it p.2 0 e=z;obtain⟨c,O,o⟩:=z;intro b u w;cases o with|some i=>obtain⟨k,x,y,L,v⟩:=u i rfl;rw[Nat.zero_add]at y;subst y;exact⟨Qh b.c<|Qi _ _,b.th,b.sn,λl hl=>b.g l<|hl p Qj,.inl ⟨rfl,rfl,i,x,rfl,rfl,L,v⟩⟩|none=>
   refine w.elim λI n=>n.elim λJ m=>m.elim λK t=>t.elim λG A=>?_;haveI M:=b.g 2 λr D=>by haveI:=s p Qj r D;omega
   rw[M]at A;exact⟨Nat.add_le_add b.c I,J.trans b.th,Qh b.sn K,λl hl=>(G l λp hp=>hl p<|Ql _ hp).trans<|b.g l<|hl p Qj,.inr A⟩
theorem gV:∀{own:ba},p∈fo own->p∈own|x::own,h=>by haveI h:p∈bif x.2.isEmpty then fo own else x::fo own:=h;cases k:x.2.isEmpty with|true=>rw[k]at h;exact Ql _<|gV h|false=>rw[k]at h;exact(P7 h).elim (λq=>Rr q Qj) λq=>Ql _<|gV q
theorem q5:∀own:ba,i0 (fo own)=i0 own|[]=>rfl|x::own=>by show i0 (bif x.2.isEmpty then fo own else x::fo own)=x.2.length+i0 own;cases k:x.2.isEmpty with|true=>refine Rr (P8 k) ?_;exact(q5 own).trans (Nat.zero_add _).symm|false=>exact congrArg (λb=>x.2.length+b)<|q5 own
theorem w3(a it:Int):∀(own:ba)(e:Me),aT a it own e=aT a it (fo own) e|[],_=>rfl|x::own,e=>by haveI f:=w3 a it own;refine(?_:(match(aM it x.2 0 e).2.2 with|some i=>_|none=>_)=aT a it (bif x.2.isEmpty then fo own else x::fo own) e);cases k:x.2.isEmpty with|true=>refine Rr (P8 k) ?_;refine(?_:(0+(aT a it own e).1,(aT a it own e).2)=aT a it (fo own) e);rw[Nat.zero_add];exact f e|false=>show _=match(aM it x.2 0 e).2.2 with|some i=>_|none=>_;rw[f]
theorem w4(it:Int)(hi:it=2\/it=3)(k:Nat)(hB:R+k<=B)(d:fm own op lo b R)(f:fq own op w e s):aA (cj own op lo b w e s) B e.th e.sn (aV (hN k it) ⟨w,own,m⟩ e)<|fk it ⟨op,m⟩ s:=by
 refine(vr w it d.al (λp hp r c=>(d.xs p (gV hp) r c).1) e).elim λj ζ0=>ζ0.elim λn ζ1=>ζ1.elim λh ζ2=>ζ2.elim λi o=>?_;rw[<-w3]at j n h i o;rw[q5]at j;haveI g:∀l:Int,¬Xr lo b own l->(aT w it own e).2.1.g l=e.g l:=λl hl=>i l λp hp r c q=>hl<|.inr<|.inr<|.inr ⟨p,gV hp,r,c,q⟩;haveI nx:∀l:Int,l=1\/l=2->(aT w it own e).2.1.g l=e.g l:=λl hl=>i l λp hp r c q=>by haveI:=(d.xs p (gV hp) r c).1;lia
 refine⟨?_,⟨n.trans (Qc _).symm,⟨(nx 1<|.inl rfl).trans f.eg.1,(nx 2<|.inr rfl).trans f.eg.2⟩,g,h,h,Int.le_refl _,.inl rfl,Int.le_trans f.w<|Int.ofNat_le.mpr h⟩,.inr ⟨it,_,_,_,_,rfl,rfl,hi,?_⟩⟩;·show(aT w it own e).1+k<=B;haveI:=d.rn;exact eh (ef _ _ _ _ _) (.v 0) (.v 1) (.a (.v 2)<|.v 3) (.v 4) (.v 1) (.v 2) (.a (.v 0)<|.v 3) (.v 4) j hB this rfl
 ·refine Rl f.eg.2 ?_;exact o
theorem Am.rfl(a:fq own op w e s):Am (cj own op lo hi w e s) e.th e.sn w e [] s:=⟨(Qc _).symm,a.eg,λb b=>Eq.refl _,Qg _,Qg _,Int.le_refl _,.inl<|Eq.refl _,a.w⟩
theorem GC(v:Int):aS (aV<|AL v) (tu v) lo hi 3 R q:=λown op c g d f w e s b=>⟨Qg _,⟨Eq.refl _,b.eg,λa a=>Eq.refl _,Qg _,Qg _,Int.le_refl _,.inl<|Eq.refl _,b.w⟩,.inl ⟨Eq.refl _,λk=>by injection k,λa a a k=>by injection k⟩⟩
theorem GD(h:o=.brk\/o=.again\/o=.fin):aS (aV λa e=>(1,e,o)) (jE o) lo hi 1 R q:=λown op b g d f w e s c=>⟨Qg _,Am.rfl c,.inl ⟨Eq.refl _,by rcases h with h|h|h<;>refine Rr h ?_<;>exactλk=>by injection k,λa a a k=>by rcases h with h|h|h<;>rw[h]at k<;>injection k⟩⟩
theorem q6(a:it=2\/it=3):aS (aV<|hN k it) (fk it) lo hi (R+k) R q:=λown op c f b b w e s d=>w4 it a k (Qg _) f d
theorem IM:aS (aV λcx=>hN 1 (cx.its.headD 0) cx) qa lo hi (R+1) R true:=λown op a d b f w e s g=>by
 rcases a with _|⟨it,a⟩;·exact absurd (Eq.refl _)<|f<|Eq.refl _
 ·exact w4 it (b it Qj) 1 (Qg _) d g
inductive Vv:Vm->Vl->Prop|k(n:Int):Vv (.k n)<|.k n|e1:Vv (.l 1) .e1|e2:Vv (.l 2) .e2
theorem Vv.val(h:Vv v a)(k:Eg e s):v.val e.g=a.val s:=by
 rcases h with n|_|_;·exact Eq.refl _
 ·exact k.1
 ·exact k.2
theorem GF(c:Bool)(j:Vv v d):aS (aV<|cS (bif c then 1 else 2) v) (ig c d) lo hi 3 R q:=λown op h p n o w e s f=>by
 haveI e1:ig c d ⟨op,h⟩ s=.dn [] (bif c then⟨d.val s,s.b,s.sr⟩else⟨s.a,d.val s,s.sr⟩) .nx:=by cases j<;>exact Eq.refl _
 refine Rr e1 ?_;haveI m:=j.val f.eg;refine⟨Qg _,⟨(Qc _).symm,?_,λl hl=>eJ λk=>hl ?_,Qg _,Qg _,?_,.inl<|Eq.refl _,f.w⟩,.inl ⟨Eq.refl _,λk=>by injection k,λi i i k=>by injection k⟩⟩;·clear e1;cases c with|true=>exact⟨show eO e.g 1 (v.val e.g) 1=d.val s from(if_pos<|Eq.refl 1).trans m,show eO e.g 1 (v.val e.g) 2=s.b from(eJ<|bD rfl).trans f.eg.2⟩|false=>exact⟨show eO e.g 2 (v.val e.g) 1=s.a from(eJ<|bD rfl).trans f.eg.1,show eO e.g 2 (v.val e.g) 2=d.val s from(if_pos<|Eq.refl 2).trans m⟩
 ·clear e1;cases c with|true=>exact .inl k.symm|false=>exact .inr<|.inl k.symm
 ·clear e1;cases c<;>exact Int.le_refl _
theorem IP(g:Vv v b):aS (uJ v) (fQ b) lo hi 4 R q:=λown op d o i n w e s a=>by
 haveI e1:fQ b ⟨op,d⟩ s=.yl [] s (b.val s) λz=>.dn [] s<|gi z:=by cases g<;>exact Eq.refl _
 refine Rr e1 ?_;refine⟨g.val a.eg,Am.rfl a,1,Qg _,λz m e' f j h=>⟨Qg _,⟨(Qc _).symm,?_,λl c=>congrFun f l,Qg _,?_,Int.le_refl _,.inr j,h⟩,.inl ⟨Eq.refl _,?_,?_⟩⟩⟩;·exact⟨(congrFun f 1).trans a.eg.1,(congrFun f 2).trans a.eg.2⟩
 ·show e.sn<=e'.sn;lia
 ·cases z<;>exactλk=>by injection k 
 ·cases z<;>exactλc c c k=>by injection k
end
section
variable{own:ba}{op:List<|Int×List Lr}{its:List Int}{lo hi B R c:Nat}{q:Bool}{S:Sx}{t t0:List AV}{n n0:Nat}{w w0:Int}{e e0:Me}{lg:List Int}{s s0:Lw}
theorem Am.z(A:Am S t n w e lg s):Am S e.th e.sn w e [] s:=⟨(Qc _).symm,A.eg,A.fr,Qg _,A.s0,A.sr,A.wq,A.wl⟩
theorem Am.cvt(A:Am S t0 n0 w e lg s)(C:Am (cj a i lo' d w e s) t n g e1 b f)(h:∀l,¬S.X l->¬Xr lo' d a l):Am S t n g e1 b f:=⟨C.th,C.eg,λl hl=>(C.fr l<|h l hl).trans<|A.fr l hl,C.sn,Qh A.s0 C.s0,Int.le_trans A.sr C.sr,C.wq.elim (λk=>Rr k A.wq) λk=>.inr<|Int.lt_of_le_of_lt (Int.ofNat_le.mpr A.s0) k,C.wl⟩
theorem aA.conv(d:∀{t n w e lg s},Am S' t n w e lg s->Am S t n w e lg s)(hO:∀{w G o o'},dk w S'.own S'.op G o o'->dk w S.own S.op G o o'):∀{P:Ix}{a:Iy}{B:Nat}{t:List AV}{n:Nat},aA S' B t n P a->aA S B t n P a:=by intro P;induction P with
 |dn c w e o=>intro a B t n h;cases a with|yl=>exact h.elim|dn lg s o'=>exact⟨h.1,d h.2.1,hO h.2.2⟩
 |yl c w e v k g=>
  intro a B t n h;rcases a with _|⟨lg,s,m,l⟩;·exact h.elim
  ·exact⟨h.1,d h.2.1,h.2.2.imp λp h=>⟨h.1,λz b e' f i j=>g z b e'<|h.2 z b e' f i j⟩⟩
theorem fq.nx(a:fq own op w0 e0 s0)(A:Am (cj own op lo hi w0 e0 s0) t n w e lg s):fq own op w e s:=⟨A.eg,A.wl,λp hp=>Int.le_trans (a.o1 p hp)<|Int.ofNat_le.mpr A.s0,λp hp=>⟨(a.o2 p hp).1,Int.le_trans (a.o2 p hp).2 A.sr⟩,Int.le_trans a.sr A.sr⟩
theorem fm.wid(H:fm own op lo hi R)(d:lo<=lo')(f:a<=hi):fm own op lo' a R:=⟨H.al,λp hp r b=>⟨(H.xs p hp r b).1,λk=>(H.xs p hp r b).2 ⟨Qh d k.1,Nat.lt_of_lt_of_le k.2 f⟩⟩,H.rn⟩
theorem Xr.wid(d:lo<=lo')(b:a<=hi)(h:¬Xr lo hi own l):¬Xr lo' a own l:=λk=>h<|by
 rcases k with k|k|k|k;·exact .inl k
 ·exact .inr<|.inl k
 ·exact .inr<|.inr<|.inl<|by lia
 ·exact .inr<|.inr<|.inr k
theorem aS.wid(H:aS M L lo' a B R q)(d:lo<=lo')(f:a<=hi)(j:B<=k):aS M L lo hi k R q:=λown op its g b m w e s i=>aA.conv (S:=cj own op lo hi w e s) (S':=cj own op lo' a w e s) (λA=>⟨A.th,A.eg,λl hl=>A.fr l<|Xr.wid d f hl,A.sn,A.s0,A.sr,A.wq,A.wl⟩) (λh=>h)<|aA.mono (H own op its (g.wid d f) b m w e s i) j
theorem aS.nx(H:aS M L lo hi B R q)(d:fm own op lo hi R)(a:∀i∈its,i=2\/i=3)(g:q=true->its≠[])(f:fq own op w0 e0 s0)(A:Am (cj own op lo hi w0 e0 s0) t n w e lg s):aA (cj own op lo hi w0 e0 s0) B e.th e.sn (M ⟨w,own,its⟩ e)<|L ⟨op,its⟩ s:=aA.conv (λC=>A.cvt C λl h=>h) (λh=>h)<|H own op its d a g w e s<|f.nx A
theorem dk.nx(H:dk w own op G o o'):o=.nx/\o'=.nx\/o≠.nx/\gL o'=false:=by
 rcases H with⟨rfl,h,d⟩|⟨it,g,r,k,a,rfl,rfl,_⟩;·clear h d;cases o<;>first|exact .inl ⟨rfl,rfl⟩|exact .inr ⟨λk=>by injection k,rfl⟩|exact absurd rfl h
 ·exact .inr ⟨λk=>by injection k,rfl⟩
noncomputable def gM(c:Nat):List IS->IS|[],cx,e=>.dn c cx.gw e .nx|M::r,cx,e=>((M cx e).bind λw e o=>gK o (gM c r ⟨w,cx.own,cx.its⟩ e)<|.dn c w e o).pre c
inductive eA(lo hi R:Nat)(q:Bool)(c:Nat):List IS->List LS->Nat->Prop|nil:eA lo hi R q c [] [] c|cons{M:IS}{L:LS}{Ms:List IS}{Ls:List LS}{B B':Nat}:aS M L lo hi B R q->eA lo hi R q c Ms Ls B'->eA lo hi R q c (M::Ms) (L::Ls) (B+B'+c)
theorem iM(A:Am S t n w e lg s)(h:dk w S.own S.op e.g o o')(a:c<=B):aA S B e.th e.sn (.dn c w e o)<|.dn [] s o':=⟨a,A.z,h⟩
theorem nz:dk w own op G .nx .nx:=.inl ⟨rfl,λk=>by injection k,λa a a k=>by injection k⟩
theorem eA.le{Ls:List LS}(H:eA lo hi R q c a Ls B):c<=B:=by
 rcases H with _|⟨_,_⟩;·exact Qg _
 ·exact Nat.le_add_left _ _
theorem q7{Ls:List LS}(H:eA lo hi R q c g Ls B):aS (gM c g) (a8 Ls) lo hi B R q:=by induction H with|nil=>exactλown op its d a f w e s b=>iM (Am.rfl b) nz<|Qg _|@cons M L g Ls B r j l k=>
  intro own op its d a f w e s b;refine aA.pre<|aA.bind (λA=>A) (λt n u e1 lg p o o' A h=>?_) _ _ B _ _<|j own op its d a f w e s b;rcases h.nx with⟨rfl,rfl⟩|⟨i,m⟩;·exact k.nx d a f b A
  ·rw[wX i,m];exact iM A h l.le
noncomputable def uM(c l:Nat)(A B:IS):IS:=λcx e=>((if e.g l=1 then A cx e else B cx e).bind λw e o=>.dn c w e o).pre 2
theorem Iy.bind_id(P:Iy):P.bind (λs o=>.dn [] s o)=P:=by induction P with|dn l s o=>show(bif aR o then Iy.dn l s o else .dn (l++[]) s o)=_;rw[Qc];cases aR o<;>rfl|yl l s v k a=>exact congrArg (Iy.yl l s v)<|funext a
theorem aA.end(h:aA S B t n P a):aA S (B+c) t n (P.bind λw e o=>.dn c w e o) a:=by haveI:=aA.bind (λA=>A) (λt n f e1 lg d o o' A b=>iM A b<|Qg c) P a B _ _ h;rw[Iy.bind_id]at this;exact this
theorem rI{A B:IS}(o:aS A m lo hi b R q)(hB:aS B p lo hi b R q):aS (uM c (bif d then 1 else 2) A B) (ix d m p) lo hi (b+c+2) R q:=by
 intro own op its l f j w e s h;refine aA.pre<|aA.end ?_;haveI k:iF (bif d then s.a else s.b) 1=decide (e.g (bif d then 1 else 2:Nat)=1):=by cases d with|true=>refine Rl h.eg.1 ?_;rfl|false=>refine Rl h.eg.2 ?_;rfl
 rw[pD k];by_cases g:e.g (bif d then 1 else 2:Nat)=1;·rw[if_pos g,decide_eq_true g];exact o own op its l f j w e s h
 ·rw[if_neg g,decide_eq_false g];exact hB own op its l f j w e s h
end
section
variable{own:ba}{op:List<|Int×List Lr}{its:List Int}{lo hi B R c c1 c2 cb b:Nat}{q:Bool}{S:Sx}{t t0:List AV}{n n0:Nat}{w w0:Int}{e e0:Me}{lg:List Int}{s s0:Lw}{M:IS}{L:LS}
noncomputable def jb(c1 c2 l:Nat)(B:IS):Nat->IS|0,cx,e=>.dn 0 cx.gw e .bad|k+1,cx,e=>if e.g l=1 then((B cx e).bind λw e o=>bif bZ o then jb c1 c2 l B k ⟨w,cx.own,cx.its⟩ e else .dn c2 w e<|cK o).pre c1 else .dn c1 cx.gw e .nx
noncomputable def g2(c n1 n2:Nat)(v1 v2:Vm)(M:IS):IS:=gM c [aV<|cS n1 v1,aV<|cS n2 v2,M]
noncomputable def e2(n1 n2:Nat)(v1 v2:Vm)(e:Me):Me:=(e.s n1<|v1.val e.g).s n2<|v2.val (e.s n1<|v1.val e.g).g
theorem qr(o:MO)(K:MO->Ix):gK o (K .nx) (K o)=K o:=by cases o<;>rfl
theorem zG(c f d:Nat)(v1 v2:Vm)(M:IS)(cx:MC)(e:Me):g2 c f d v1 v2 M cx e=((M cx<|e2 f d v1 v2 e).bind λw e o=>.dn c w e o).pre (c+3+c+3+c):=by show((((((M cx<|e2 f d v1 v2 e).bind λw e o=>gK o (.dn c w e .nx)<|.dn c w e o).pre c).pre 3).pre c).pre 3).pre c=_;rw[fY,fY,fY,fY,funext λw=>funext λe=>funext λo=>qr o<|Ix.dn c w e];exact congrArg (λk=>Ix.pre k _)<|eR (ai _) (.a (.v 0)<|.a (.n 3)<|.a (.v 0)<|.a (.n 3)<|.v 0) (.a (.a (.a (.p 0 3)<|.v 0)<|.n 3)<|.v 0) rfl
theorem dk.go(H:dk w own op G o o'):bZ o=bZ o'/\dk w own op G (cK o) (cK o'):=by
 rcases H with⟨rfl,h,f⟩|⟨it,g,r,k,a,rfl,rfl,h⟩;·refine⟨rfl,?_⟩;cases o<;>first|exact absurd rfl h|exact absurd rfl<|f _ _ _|exact .inl ⟨rfl,(λk=>nomatch k),λd d d k=>nomatch k⟩
 ·exact⟨rfl,.inr ⟨it,g,r,k,a,rfl,rfl,h⟩⟩
noncomputable def lv(r k:Nat):Int:=if k<=r then 1 else 0
theorem Am.set2(A:Am (cj own op lo hi w0 e0 s0) t n w e lg s)(f:2<lo)(h:lo+2<=hi)(v1 v2:Vm):Am (cj own op lo hi w0 e0 s0) t n w (e2 lo (lo+1) v1 v2 e) lg s:=by
 have g:∀l:Int,l≠lo->l≠lo+1->(e2 lo (lo+1) v1 v2 e).g l=e.g l:=λl a d=>(eJ<|Ne.symm d).trans<|eJ<|Ne.symm a;refine⟨A.th,⟨(g 1 (by omega)<|by omega).trans A.eg.1,(g 2 (by omega)<|by omega).trans A.eg.2⟩,λl hl=>(g l ?_ ?_).trans<|A.fr l hl,A.sn,A.s0,A.sr,A.wq,A.wl⟩;·exactλk=>hl<|.inr<|.inr<|.inl<|by omega
 ·exactλk=>hl<|.inr<|.inr<|.inl<|by omega
theorem oq(v1 v2:Vm):(e2 lo (lo+1) v1 v2 e).g lo=v1.val e.g/\(e2 lo (lo+1) v1 v2 e).g (lo+1:Nat)=v2.val (e.s lo<|v1.val e.g).g:=⟨(eJ<|by omega).trans<|if_pos rfl,if_pos rfl⟩
theorem GG(U:aS M L (lo+2) hi b R q)(Q:2<lo)(V:lo+2<=hi)(F:fm own op lo hi R)(y:∀i∈its,i=2\/i=3)(X:q=true->its≠[])(Z:fq own op w0 e0 s0)(D:IS)(hB:∀cx e,D cx e=(g2 c lo (lo+1) (.l<|lo+1) (.k 0) M cx e).pre cb):∀(r:Nat),r<=2->∀(d:Nat),r<d->∀{t:List AV}{n:Nat}{w:Int}{e:Me}{lg:List Int}{s:Lw},Am (cj own op lo hi w0 e0 s0) t n w e lg s->e.g lo=lv r 1->e.g (lo+1:Nat)=lv r 2->aA (cj own op lo hi w0 e0 s0) (r*(b+(4*c+6+cb+c1))+c1+c2) e.th e.sn (jb c1 c2 lo D d ⟨w,own,its⟩ e) (dG L r ⟨op,its⟩ s):=by intro r;induction r with
 |zero=>
  intro _ d f t n w e lg s A j g2;rcases d with _|d;·exact absurd f<|Nat.lt_irrefl _
  ·show aA _ _ _ _ (if e.g lo=1 then _ else _) _;refine Rr (if_neg<|by refine Rr j ?_;decide) ?_;exact iM A nz<|aK (ef _ _ _ _ _) (.v 0) (.a (.a (.m 0<|.a (.v 1)<|.a (.a (.a (.m 4<|.v 2)<|.n 6)<|.v 3)<|.v 0)<|.v 0)<|.v 4) rfl|succ r Y=>
  intro J d f t n w e lg s A j g2;rcases d with _|d;·exact absurd f<|Nat.not_lt_zero _
  ·show aA _ _ _ _ (if e.g lo=1 then _ else _) _;rw[if_pos<|j.trans<|if_pos<|Nat.succ_pos _,hB,zG,fY,pre_bind,fY,bind_bind];haveI h:=(A.set2 Q V (.l<|lo+1)<|.k 0).z;haveI O:∀l:Nat,lo<=l->l<lo+2->¬Xr (lo+2) hi own l:=λl G N k=>by
    rcases k with k|k|k|⟨p,hp,x,T,k⟩;·omega
    ·omega
    ·omega
    ·exact(F.xs p hp x T).2<|by lia
   haveI u:=aA.bind (κ:=λw e o=>(Ix.dn c w e o).bind λw e o=>bif bZ o then jb c1 c2 lo D d ⟨w,own,its⟩ e else .dn c2 w e<|cK o) (κ':=λs o=>bif bZ o then dG L r ⟨op,its⟩ s else .dn [] s<|cK o) (B2:=r*(b+(4*c+6+cb+c1))+c1+c2+c) (λC=>h.cvt C λl hl=>Xr.wid (Qi _ _) (Qg _) hl) (λt n w e1 lg s1 o o' C I=>?_) _ _ _ _ _<|U own op its (F.wid (Qi _ _)<|Qg _) y X w (e2 lo (lo+1) (.l<|lo+1) (.k 0) e) s<|Z.nx h;·exact aA.mono u.pre<|by refine Rr (show(r+1)*(b+(4*c+6+cb+c1))=r*(b+(4*c+6+cb+c1))+(b+(4*c+6+cb+c1))from Nat.succ_mul _ _) ?_;exact aK (kH _ _ _ _ _ _) (.a (.a (.v 0)<|.a (.a (.a (.v 1)<|.v 2)<|.v 3)<|.v 4)<|.a (.a (.a (.a (.a (.p 4 3)<|.v 4)<|.n 3)<|.v 4)<|.v 5)<|.v 2) (.a (.a (.a (.v 1)<|.a (.v 0)<|.a (.a (.a (.m 4<|.v 4)<|.n 6)<|.v 5)<|.v 2)<|.v 2)<|.v 3) rfl
   ·haveI K:=h.cvt C λl hl=>Xr.wid (Qi _ _) (Qg _) hl;refine I.go.elim λG N=>?_;refine(?_:aA _ _ _ _ (bif aR o then _ else Ix.pre c<|bif bZ o then _ else _)<|bif bZ o' then _ else _);refine Rr I.nb.1<|Rl G ?_;cases bZ o with|true=>
     refine aA.pre<|Y (Nat.le_of_succ_le J) d (Nat.lt_of_succ_lt_succ f) K ?_ ?_;·refine Rr (C.fr lo<|O lo (Qg _)<|aK (ai _) (.p 0 1) (.p 0 2) rfl) ?_;refine oq (.l<|lo+1) (.k 0)|>.1.trans<|g2.trans ?_;delta lv;by_cases k:1<=r<;>lia
     ·refine Rr (C.fr (lo+1)<|O (lo+1) (aK (ai _) (.v 0) (.p 0 1) rfl)<|aK (ai _) (.a (.p 0 1)<|.n 1) (.p 0 2) rfl) ?_;refine oq (.l<|lo+1) (.k 0)|>.2.trans ?_;show 0=if 2<=r then 1 else 0;rw[if_neg<|by exactλP=>N9<|aO (ai _) (.n 2) (.v 0) (.p 0 1) (.n 2) (.n 1) (.n 0) P J rfl]|false=>exact aA.pre<|iM K N<|aK (aH _ _ _) (.v 0) (.a (.a (.v 1)<|.v 2)<|.v 0) rfl
theorem vW(u:aS M L (lo+2) hi b R q)(h:2<lo)(i:lo+2<=hi)(f:IS)(hB:∀cx e,f cx e=(g2 c lo (lo+1) (.l<|lo+1) (.k 0) M cx e).pre cb)(x:∀cx e,r cx e=(jb c1 c2 lo f 3 cx e).pre y){k:Nat}(d:k=1\/k=2):aS (g2 c lo (lo+1) (.k 1) (.k<|k-1) r) (dG L k) lo hi (2*(b+(4*c+6+cb+c1))+c1+c2+y+4*c+6) R q:=by
  intro own op its z g o w e s j;rw[zG,x];refine aA.mono (aA.pre<|aA.end<|aA.pre (B:=k*(b+(4*c+6+cb+c1))+c1+c2) ?_) ?_
  · refine GG u h i z g o j f hB k (by omega) 3 (by omega) ((Am.rfl j).set2 h i (.k 1)<|.k<|k-1) ?_ ?_;·refine(oq (.k 1)<|.k<|k-1).1.trans ?_;rcases d with rfl|rfl<;>rfl
    ·refine(oq (.k 1)<|.k<|k-1).2.trans ?_;rcases d with rfl|rfl<;>rfl
  ·rcases d with rfl|rfl<;>first|exact aK (kH _ _ _ _ _ _) (.a (.a (.a (.a (.a (.m 1<|.a (.v 0)<|.a (.a (.a (.m 4<|.v 1)<|.n 6)<|.v 2)<|.v 3)<|.v 3)<|.v 4)<|.v 5)<|.v 1)<|.a (.a (.a (.p 1 3)<|.v 1)<|.n 3)<|.v 1) (.a (.a (.a (.a (.a (.m 2<|.a (.v 0)<|.a (.a (.a (.m 4<|.v 1)<|.n 6)<|.v 2)<|.v 3)<|.v 3)<|.v 4)<|.v 5)<|.m 4<|.v 1)<|.n 6) rfl|exact aK (kH _ _ _ _ _ _) (.a (.a (.a (.a (.a (.m 2<|.a (.v 0)<|.a (.a (.a (.m 4<|.v 1)<|.n 6)<|.v 2)<|.v 3)<|.v 3)<|.v 4)<|.v 5)<|.v 1)<|.a (.a (.a (.p 1 3)<|.v 1)<|.n 3)<|.v 1) (.a (.a (.a (.a (.a (.m 2<|.a (.v 0)<|.a (.a (.a (.m 4<|.v 1)<|.n 6)<|.v 2)<|.v 3)<|.v 3)<|.v 4)<|.v 5)<|.m 4<|.v 1)<|.n 6) rfl
end
section
variable{own:ba}{op:List<|Int×List Lr}{its:List Int}{lo hi B R c b bl:Nat}{q:Bool}{S:Sx}{t t0:List AV}{n n0:Nat}{w w0:Int}{e e0:Me}{lg:List Int}{s s0:Lw}
theorem Iy.pre_nil(P:Iy):P.pre []=P:=by cases P<;>rfl
theorem Iy.pre_bind(l:List Int)(P:Iy)(κ:Lw->MO->Iy):(P.pre l).bind κ=(P.bind κ).pre l:=by
  rcases P with⟨f,s,o⟩|⟨f,s,v,k⟩;·
    refine(?_:(bif aR o then Iy.dn (l++f) s o else(κ s o).pre<|l++f)=Iy.pre l (bif aR o then Iy.dn f s o else(κ s o).pre f));cases aR o
    · rcases κ s o with⟨a,b,c⟩|⟨a,b,c,d⟩;·exact congrArg (λx=>Iy.dn x b c)<|Qd ..
      ·exact congrArg (λx=>Iy.yl x b c d)<|Qd ..
    ·rfl
  ·rfl
theorem Iy.bind_bind(P:Iy)(a κ:Lw->MO->Iy):(P.bind a).bind κ=P.bind λs o=>(a s o).bind κ:=by induction P with
 |dn l s o=>
  refine(?_:Iy.bind κ (bif aR o then _ else _)=bif aR o then _ else _);cases h:aR o;·exact Iy.pre_bind _ _ _
  ·show(bif aR o then _ else _)=_;refine Rr h ?_;rfl|yl l s v k d=>exact congrArg (Iy.yl l s v)<|funext d
theorem aA.sn(k:n'<=n)(H:aA S B t n P a):aA S B t n' P a:=by haveI:=aA.lg (e:=⟨λd=>0,n,t⟩) (lg:=[]) (Qc _).symm k H;rwa[Iy.pre_nil]at this
theorem Tg.num:∀{own:ba}{op:List<|Int×List Lr},Tg w it g r k a G own op->(g=w\/∃p∈own,g=p.1)/\(k=0\/∃p∈op,k=p.1)|[],[],h=>⟨.inl h.1,.inl h.2.2.1⟩|[],_::_,h=>⟨.inl h.1,.inl h.2.2.1⟩|_::_,[],h=>⟨.inl h.1,.inl h.2.2.1⟩|p::own,i::op,h=>h.elim (λh=>⟨.inr ⟨p,Qj,h.1⟩,.inr ⟨i,Qj,h.2.1⟩⟩) λh=>⟨h.num.1.imp id λd=>by obtain⟨x,f,k⟩:=d;exact⟨x,Ql _ f,k⟩,h.num.2.imp id λd=>by obtain⟨x,f,k⟩:=d;exact⟨x,Ql _ f,k⟩⟩
theorem Tg.g{it g r k a:Int}{G f:Int->Int}:∀{own:ba}{op:List<|Int×List Lr},(∀p∈own,∀x∈p.2,f x.x=G x.x)->Tg w it g r k a G own op->Tg w it g r k a f own op|[],[],_,h=>h|[],_::_,_,h=>h|_::_,[],_,h=>h|p::own,y::op,H,h=>h.imp (λo=>by obtain⟨m,v,j,x,u,l,d,i⟩:=o;exact⟨m,v,j,x,u,l,d,λk=>(H p Qj x<|j5 d).trans<|i k⟩) λh=>h.g λp hp=>H p<|Ql _ hp
theorem dk.g(H:∀p∈own,∀x∈p.2,d x.x=G x.x)(h:dk w own op G o o'):dk w own op d o o':=h.imp id λi=>by obtain⟨it,g,r,k,a,m,l,f,j⟩:=i;exact⟨it,g,r,k,a,m,l,f,j.g H⟩
noncomputable def eP(c:Nat)(L:Ls)(own:ba)(its:List Int):eu:=λw e o=>match L with|none=>.dn c w e o|some p=>((aV p.2 ⟨w,own,its⟩ e).bind λw e o2=>.dn c w e<|dB o o2).pre c
noncomputable def Lp(A:FS):Prop:=∀cx e,(A cx e).2.2=.nx->∀l:Int,l≠1->l≠2->(A cx e).2.1.g l=e.g l
noncomputable def jS(L:Ls)(LL:Option LS)(lo hi b R:Nat)(q:Bool):Prop:=L=none/\LL=none\/∃p L',L=some p/\LL=some L'/\Lp p.2/\aS (aV p.2) L' lo hi b R q
theorem nh{LL:Option LS}(M:jS L LL lo hi b R q)(u:fm own op lo hi R)(r:∀i∈its,i=2\/i=3)(O:q=true->its≠[])(Q:fq own op w0 e0 s0)(A:Am (cj own op lo hi w0 e0 s0) t n w e lg s)(F:dk w (fo own) op e.g o o'):aA (cj own op lo hi w0 e0 s0) (b+2*c) e.th e.sn (eP c L own its w e o)<|iS LL ⟨op,its⟩ s o':=by
  rcases M with⟨rfl,rfl⟩|⟨p,H,rfl,rfl,hp,J⟩;·exact iM A F<|aK (au _ _) (.v 0) (.a (.v 1)<|.m 2<|.v 0) rfl
  ·haveI h:=J.nx u r O Q A;haveI hp:=hp ⟨w,own,its⟩ e;refine(?_:aA _ _ _ _ (Ix.pre c<|bif aR (p.2 ⟨w,own,its⟩ e).2.2 then _ else Ix.pre (p.2 ⟨w,own,its⟩ e).1<|.dn c w (p.2 ⟨w,own,its⟩ e).2.1<|dB o (p.2 ⟨w,own,its⟩ e).2.2)<|Iy.bind _<|H ⟨op,its⟩ s);haveI h:aA _ _ _ _ (.dn (p.2 ⟨w,own,its⟩ e).1 w (p.2 ⟨w,own,its⟩ e).2.1 (p.2 ⟨w,own,its⟩ e).2.2) _:=h;revert h hp;generalize p.2 ⟨w,own,its⟩ e=z;obtain⟨I,e2,j⟩:=z;cases H ⟨op,its⟩ s with|yl=>exactλT h=>h.elim|dn l K d=>
      intro hp h;obtain⟨C,G,f⟩:=h;refine(?_:aA _ _ _ _ (Ix.pre c<|bif aR j then _ else .dn (c+I) w e2<|dB o j)<|bif aR d then _ else .dn (l++[]) K<|dB o' d);rw[f.nb.1,f.nb.2,Qc];refine⟨af (b8 _ _ _ _) (.a (.v 0)<|.v 1) (.v 2) (.a (.a (.a (.v 3)<|.v 0)<|.v 3)<|.v 1) (.a (.v 2)<|.m 2<|.v 3) C rfl,G,?_⟩;clear C G;rcases f.nx with⟨rfl,rfl⟩|⟨N,P⟩;·exact F.g λp k x y=>hp rfl x.x (by haveI:=(u.xs p (gV k) x y).1;omega)<|by haveI:=(u.xs p (gV k) x y).1;omega
      ·refine Rr (show dB o j=j by clear hp f;cases j<;>first|rfl|exact absurd rfl N)<|Rr (show dB o' d=d by clear f;cases d<;>first|rfl|exact cX P) ?_;exact f
noncomputable def A3(c:Nat)(A:IS)(L:Ls):IS:=λcx e=>((A cx e).bind<|eP c L cx.own cx.its).pre c
theorem GH{g LL:LS}(j:aS A g lo hi b R q)(k:jS (some p) (some LL) lo hi bl R q):aS (A3 c A<|some p) (iZ g LL) lo hi (b+(bl+2*c)+c) R q:=λown op its i d h w e s f=>aA.pre<|aA.bind (λA=>A) (λt n m e1 lg r o o' A l=>nh k i d h f A l) _ _ b _ _<|j own op its i d h w e s f
end
section
variable{own:ba}{op:List<|Int×List Lr}{its:List Int}{lo hi lo' hi' B R c b bl bh:Nat}{q:Bool}{S:Sx}{t t0:List AV}{n n0:Nat}{w w0:Int}{e e0:Me}{lg:List Int}{s s0:Lw}
noncomputable def fL(c:Nat)(N:Int)(hs:List<|Hw×FS)(L:Ls)(own:ba)(its:List Int):eu:=λw e o=>match o with|.thr it g r=>if g=N then match(bV r).bind<|aa hs with|some p=>if it=2\/it=3 then((aV p.2 ⟨w,own,it::its⟩<|cO p.1 it e).bind<|eP c L own its).pre c else .dn 0 w e .bad|none=>.dn 0 w e .bad else eP c L own its w e o|o=>eP c L own its w e o
noncomputable def mj(c:Nat)(A:IS)(hs:List<|Hw×FS)(L:Ls):IS:=λcx e=>((A ⟨cx.gw,((e.sn:Int)+1,hs.map λξ=>ξ.1)::cx.own,cx.its⟩ e.n_).bind<|fL c ((e.sn:Int)+1) hs L cx.own cx.its).pre c
noncomputable def tv(p:Hw×FS)(p':Lr×LS)(lo hi b R:Nat):Prop:=∀(own:ba)(op:List<|Int×List Lr)(its:List Int),fm own op lo hi R->(∀i∈its,i=2\/i=3)->∀(w:Int)(e:Me)(s:Lw)(it:Int),it=2\/it=3->fq own op w e s->e.g p.1.x=it->aA (cj own op lo hi w e s) b e.th e.sn (aV p.2 ⟨w,own,it::its⟩ e) (p'.2 ⟨op,it::its⟩<|jR p'.1 it s)
theorem IQ(A:Am (cj own op lo hi w0 e0 s0) t n w e lg s)(f:2<p.x)(h:lo<=p.x/\p.x<hi)(d:p.w=true->e.g p.x=it):Am (cj own op lo hi w0 e0 s0) t n w (cO p it e) lg s/\(cO p it e).g p.x=it:=by delta cO;cases k:p.w with|true=>exact⟨A,d k⟩|false=>refine⟨⟨A.th,⟨(eJ<|by omega).trans A.eg.1,(eJ<|by omega).trans A.eg.2⟩,λl hl=>(eJ λq=>hl ?_).trans<|A.fr l hl,A.sn,A.s0,A.sr,A.wq,A.wl⟩,if_pos rfl⟩;exact .inr<|.inr<|.inl<|by lia
theorem GI{LL:Option LS}(v:tv p r lo hi bh R)(z:jS L LL lo hi bl R q)(k:fm own op lo hi R)(hi':∀i∈its,i=2\/i=3)(D:q=true->its≠[])(j:fq own op w0 e0 s0)(A:Am (cj own op lo hi w0 e0 s0) t n w e lg s)(h:it=2\/it=3)(u:2<p.1.x)(F:lo<=p.1.x/\p.1.x<hi)(G:p.1.w=true->e.g p.1.x=it):aA (cj own op lo hi w0 e0 s0) (bh+(bl+2*c)+c) e.th e.sn (((aV p.2 ⟨w,own,it::its⟩<|cO p.1 it e).bind<|eP c L own its).pre c)<|(r.2 ⟨op,it::its⟩<|jR r.1 it s).bind<|iS LL ⟨op,its⟩:=by
 refine(IQ A u F G).elim λf I=>?_;haveI m:(cO p.1 it e).th=e.th/\(cO p.1 it e).sn=e.sn:=by delta cO;cases p.1.w<;>exact⟨rfl,rfl⟩
 haveI d:=aA.bind (B2:=bl+2*c) (λC=>f.cvt C λl hl=>hl) (λt n K e1 H J o o' C y=>nh z k hi' D j (f.cvt C λl hl=>hl) y) _ _ _ _ _<|v own op its k hi' w (cO p.1 it e) s it h (j.nx f) I;rw[m.1,m.2]at d;exact aA.pre d
theorem vt(g:f->j):∀{l:List f}{i:Nat}{y:j},aa (l.map g) i=some y->∃x,aa l i=some x/\g x=y|_::_,0,_,h=>by haveI h:=sI h;subst h;exact⟨_,rfl,rfl⟩|_::l,i+1,_,h=>vt g (i:=i) h
theorem GJ{l:List d}{r:List g}(H:aL P l r):∀{i:Nat}{x:d},aa l i=some x->∃y,aa r i=some y/\P x y:=by induction H with|nil=>exactλh=>by exact nS h|cons h _ f=>
  intro i x k;rcases i with _|i;·haveI k:=sI k;subst k;exact⟨_,rfl,h⟩
  ·exact f k
structure Hr(lo hi lo' hi' bh R:Nat)(p:Hw×FS)(p':Lr×LS):Prop where
 rw:Rw p.1 p'.1
 x2:2<p.1.x
 xi:lo<=p.1.x/\p.1.x<hi
 xo:¬(lo'<=p.1.x/\p.1.x<hi')h:tv p p' lo hi bh R
theorem GK(H:aL (Hr lo hi lo' hi' bh R) f d):aL Rw (f.map λa=>a.1) (d.map λa=>a.1)/\∀r∈f.map λa=>a.1,2<r.x/\(lo<=r.x/\r.x<hi)/\¬(lo'<=r.x/\r.x<hi'):=by induction H with|nil=>exact⟨.nil,λr h=>absurd h Qr⟩|cons h _ g=>exact⟨.cons h.rw g.1,λr k=>(P7 k).elim (λq=>Rr q ⟨h.x2,h.xi,h.xo⟩)<|g.2 r⟩
theorem GL{LL:Option LS}(hA:aS A LA lo' hi' b (k+R) q)(U:lo<=lo')(hhi:hi'<=hi)(hH:aL (Hr lo hi lo' hi' bh R) i f)(hk:(i.map λd=>d.1).length<=k)(hne:(i.map λd=>d.1).isEmpty=false)(hL:jS L LL lo hi bl R q):aS (mj c A i L) (kG LA f LL) lo hi (b+(bh+(bl+2*c)+c)+c) R q:=by
  intro own op its O y hq w e s u;refine(GK hH).elim λY I=>?_;haveI M:fo ((e.sn+1,i.map λd=>d.1)::own)=((e.sn:Int)+1,i.map λd=>d.1)::fo own:=by show(bif(i.map λd=>d.1).isEmpty then _ else _)=_;refine Rr hne ?_;rfl
  haveI R':fm ((e.sn+1,i.map λd=>d.1)::own) ((s.sr+1,f.map λd=>d.1)::op) lo' hi'<|k+R:=by
    refine⟨?_,λp hp r K=>?_,Nat.add_le_add hk O.rn⟩;·refine Rr M ?_;exact .cons Y O.al
    · rcases P7 hp with rfl|hp;·exact⟨(I r K).1,(I r K).2.2⟩
      ·exact(O.wid U hhi).xs p hp r K
  haveI Z:fq ((e.sn+1,i.map λd=>d.1)::own) ((s.sr+1,f.map λd=>d.1)::op) w e.n_ ⟨s.a,s.b,s.sr+1⟩:=by
    refine⟨u.eg,Int.le_trans u.w<|Int.ofNat_le.mpr<|Qk _,λp hp=>?_,λp hp=>?_,?_⟩
    · rcases P7 hp with rfl|hp;·exact Int.le_refl _
      ·exact Int.le_trans (u.o1 p hp)<|Int.ofNat_le.mpr<|Qk _
    · rcases P7 hp with rfl|hp;·exact⟨by show 1<=s.sr+1;haveI:=u.sr;lia,Int.le_refl _⟩
      ·exact⟨(u.o2 p hp).1,Int.le_trans (u.o2 p hp).2<|by show s.sr<=s.sr+1;omega⟩
    ·show 0<=s.sr+1;haveI:=u.sr;lia
  have P:∀{t n z e1 lg D},Am (cj ((e.sn+1,i.map λd=>d.1)::own) ((s.sr+1,f.map λd=>d.1)::op) lo' hi' w e.n_ ⟨s.a,s.b,s.sr+1⟩) t n z e1 lg D->Am (cj own op lo hi w e s) t n z e1 lg D:=λC=>by
    refine⟨C.th,C.eg,λl hl=>C.fr l λhk=>hl ?_,C.sn,Qh (Qk _) C.s0,Int.le_trans (by show s.sr<=s.sr+1;omega) C.sr,C.wq.imp id λk=>Int.lt_of_le_of_lt (Int.ofNat_le.mpr<|Qk _) k,C.wl⟩;rcases hk with k|k|k|⟨p,hp,r,K,k⟩;·exact .inl k
    ·exact .inr<|.inl k
    ·exact .inr<|.inr<|.inl<|by lia
    · rcases P7 hp with rfl|hp;·haveI:=(I r K).2.1;exact .inr<|.inr<|.inl<|by lia
      ·exact .inr<|.inr<|.inr ⟨p,hp,r,K,k⟩
  refine(?_:aA _ _ _ _ (Ix.pre c<|Ix.bind _ _)<|Iy.bind _<|Iy.bind _ _);rw[Iy.bind_bind];refine aA.pre<|aA.sn (Qk _)<|aA.bind P (λt n z e1 lg D o o' C T=>?_) _ _ b _ _<|hA _ _ its R' y hq w e.n_ ⟨s.a,s.b,s.sr+1⟩ Z;haveI X:=P C;have plain:∀{o o':MO},dk z (fo own) op e1.g o o'->fL c (e.sn+1) i L own its z e1 o=eP c L own its z e1 o->kE (s.sr+1) f ⟨op,its⟩ D o'=.dn [] D o'->aA (cj own op lo hi w e s) (bh+(bl+2*c)+c) e1.th e1.sn (fL c (e.sn+1) i L own its z e1 o) ((kE (s.sr+1) f ⟨op,its⟩ D o').bind<|iS LL ⟨op,its⟩):=λ{o o'}T e1 e2=>by refine Rr e1<|Rr e2 ?_;show aA _ _ _ _ _<|bif aR o' then _ else Iy.pre [] _;refine Rr T.nb.2 ?_;rw[Iy.pre_nil];exact aA.mono (nh hL O y hq u X T)<|aK (aH _ _ _) (.a (.v 0)<|.m 2<|.v 1) (.a (.a (.v 2)<|.a (.v 0)<|.m 2<|.v 1)<|.v 1) rfl
  rcases T with⟨rfl,h1,V⟩|⟨it,g,r,Q,a,rfl,rfl,J,G⟩
  · refine plain (.inl ⟨rfl,h1,V⟩) ?_ ?_;·clear h1;cases o<;>first|rfl|exact absurd rfl<|V _ _ _
    ·clear h1;cases o<;>first|rfl|exact absurd rfl<|V _ _ _
  · haveI G:Tg z it g r Q a e1.g (fo<|(e.sn+1,i.map λd=>d.1)::own)<|(s.sr+1,f.map λd=>d.1)::op:=G;rw[M]at G;rcases G with⟨rfl,rfl,j,x,rfl,rfl,hj,hx⟩|G
    · obtain⟨p,hp,rfl⟩:∃p,aa i j=some p/\p.1=x:=vt _ hj;obtain⟨p',hp',H⟩:=GJ hH hp;haveI e3:fL c (e.sn+1) i L own its z e1 (.thr it (e.sn+1) j)=((aV p.2 ⟨z,own,it::its⟩<|cO p.1 it e1).bind<|eP c L own its).pre c:=by show(if e.sn+1=(e.sn:Int)+1 then match aa i j with|some p=>_|none=>_ else _)=_;refine Rr (if_pos rfl)<|Rr hp ?_;exact if_pos J
      haveI e4:kE (s.sr+1) f ⟨op,its⟩ D (.thr it (s.sr+1) j)=p'.2 ⟨op,it::its⟩ (jR p'.1 it D):=by show(bif iF (s.sr+1)<|s.sr+1 then match aa f j with|some p=>_|none=>_ else _)=_;rw[gy,hp'];rfl
      refine Rr e3<|Rr e4 ?_;exact GI H.h hL O y hq u X J H.x2 H.xi hx
    · haveI n1:=G.num;haveI g1:g≠e.sn+1:=by
        clear X plain;rcases n1.1 with rfl|⟨p,hp,rfl⟩
        · rcases C.wq with k|k;·haveI:=u.w;haveI k:g=w:=k;lia
          ·haveI k:e.sn+1<g:=k;lia
        ·haveI:=u.o1 p<|gV hp;lia
      haveI k1:Q≠s.sr+1:=by
        rcases n1.2 with rfl|⟨p,hp,rfl⟩;·haveI:=u.sr;lia
        ·haveI:=(u.o2 p hp).2;lia
      exact plain (.inr ⟨it,g,r,Q,a,rfl,rfl,J,G⟩) (if_neg g1)<|by show(bif iF Q<|s.sr+1 then _ else _)=_;refine Rr (eK k1) ?_;rfl
end
section
variable{lo hi B R c b bl:Nat}{q:Bool}
noncomputable def Ix.bd:Ix->Prop|dn _ _ _ o=>aR o=true|yl _ _ _ _ _=>False
noncomputable def d7(P Q:Ix):Prop:=Q.bd\/P=Q
theorem aS.eqB(k:∀cx e,d7 (M cx e)<|j cx e)(H:aS j L lo hi B R q):aS M L lo hi B R q:=λd i a n f p w e s m=>by
 haveI h:=H d i a n f p w e s m;rcases k ⟨w,d,a⟩ e with k|k;·exfalso;revert h k;cases j ⟨w,d,a⟩ e with|yl=>exactλl k=>k|dn c w e o=>cases L ⟨i,a⟩ s with|yl=>exactλh l=>h|dn lg s o'=>exactλh k=>by haveI k:aR o=true:=k;rw[h.2.2.nb.1]at k;exact fT k
 ·refine Rr k ?_;exact h
theorem d7.pre(h:d7 P Q)(c:Nat):d7 (P.pre c)<|Q.pre c:=h.elim (λh=>.inl<|by cases Q<;>exact h) λh=>.inr<|Rr h rfl
theorem q8(a:List IS):∀cx e,ic a cx e=gM 1 a cx e:=by induction a with|nil=>exactλd d=>rfl|cons M r f=>intro cx e;refine(?_:Ix.pre 1 (Ix.bind _ _)=Ix.pre 1 (Ix.bind _ _));exact Rr (show(λw e o=>gK o (ic r ⟨w,cx.own,cx.its⟩ e)<|.dn 1 w e o)=λw e o=>gK o (gM 1 r ⟨w,cx.own,cx.its⟩ e)<|.dn 1 w e o from funext λw=>funext λe=>funext λo=>by rw[f]) rfl
theorem rJ(a:List FS):∀(cx:MC)(e:Me),aV (hU a) cx e=gM 0 (a.map aV) cx e:=by induction a with|nil=>exactλh h=>rfl|cons M r g=>intro cx e;refine(?_:Ix.dn (jD (M cx e) _).1 cx.gw (jD (M cx e) _).2.1 (jD (M cx e) _).2.2=Ix.pre 0 (bif aR (M cx e).2.2 then _ else Ix.pre (M cx e).1<|gK (M cx e).2.2 (gM 0 (r.map aV) cx (M cx e).2.1)<|.dn 0 cx.gw (M cx e).2.1 (M cx e).2.2));generalize M cx e=z;obtain⟨d,e1,f⟩:=z;cases f with|bad=>rfl|nx=>exact congrArg (λP=>Ix.pre 0<|Ix.pre d P)<|g cx e1|_=>exact congrArg (λk=>Ix.dn k _ _ _) (Nat.zero_add d).symm
theorem rK(a:List FS)(cx:MC)(e:Me):d7 (aV (gh a) cx e)<|(gM 0 (a.map aV) cx e).pre 1:=.inr<|congrArg (Ix.pre 1)<|rJ a cx e
theorem yj(l:Nat)(A B:FS)(cx:MC)(e:Me):d7 (aV (uC l A B) cx e)<|uM 0 l (aV A) (aV B) cx e:=by
 haveI k:∀z:Z3,d7 (Ix.dn (fh 2 z).1 cx.gw (fh 2 z).2.1 (fh 2 z).2.2)<|Ix.pre 2<|bif aR z.2.2 then .dn z.1 cx.gw z.2.1 z.2.2 else Ix.pre z.1<|.dn 0 cx.gw z.2.1 z.2.2:=λz=>by obtain⟨d,e1,a⟩:=z;cases h:aR a with|true=>exact .inr rfl|false=>exact .inr<|congrArg (λk=>Ix.dn (k+2) cx.gw e1 a) (Nat.zero_add d).symm
 show d7 (Ix.dn (fh 2<|if e.g l=1 then _ else _).1 cx.gw _ _)<|Ix.pre 2<|Ix.bind _<|if e.g l=1 then _ else _;delta aV uC;by_cases h:e.g l=1;·refine Rr (if_pos h)<|Rr (if_pos h) ?_;exact k _
 ·refine Rr (if_neg h)<|Rr (if_neg h) ?_;exact k _
theorem IT(l:Nat)(A B:IS)(cx:MC)(e:Me):uH l A (some B) cx e=uM 1 l A B cx e:=by
 show(if e.g l=1 then _ else _)=Ix.pre 2 (Ix.bind _<|if e.g l=1 then _ else _);by_cases h:e.g l=1;·rw[if_pos h,if_pos h];rfl
 ·rw[if_neg h,if_neg h];rfl
theorem EM(p:aS A t lo hi b R q):aS (uH (bif d then 1 else 2) A none) (ix d t<|a8 []) lo hi (b+1+2) R q:=by
 intro i o l r j n w e s h;haveI k:iF (bif d then s.a else s.b) 1=decide (e.g (bif d then 1 else 2:Nat)=1):=by cases d with|true=>refine Rl h.eg.1 ?_;rfl|false=>refine Rl h.eg.2 ?_;rfl
 refine Rr (pD k) ?_;refine(?_:aA _ _ _ _ (if e.g (bif d then 1 else 2:Nat)=1 then _ else .dn 2 w e .nx) _);by_cases g:e.g (bif d then 1 else 2:Nat)=1;·rw[if_pos g,decide_eq_true g];exact aA.pre<|aA.end<|p i o l r j n w e s h
 ·rw[if_neg g,decide_eq_false g];exact iM (Am.rfl h) nz<|Nat.le_add_left _ _
theorem IU(l:Nat)(B:IS)(k:Nat):∀cx e,mD l B k cx e=jb 2 1 l B k cx e:=by induction k with|zero=>exactλa a=>rfl|succ k d=>intro cx e;refine(?_:(if e.g l=1 then Ix.pre 2<|Ix.bind _ _ else _)=if e.g l=1 then Ix.pre 2<|Ix.bind _ _ else _);exact Rr (show(λw e o=>bif bZ o then mD l B k ⟨w,cx.own,cx.its⟩ e else .dn 1 w e<|cK o)=λw e o=>bif bZ o then jb 2 1 l B k ⟨w,cx.own,cx.its⟩ e else .dn 1 w e<|cK o from funext λw=>funext λe=>funext λo=>by rw[d]) rfl
theorem IV(l:Nat)(B:FS)(k:Nat):∀cx e,aV (jQ l B k) cx e=jb 1 0 l (aV B) k cx e:=by induction k with|zero=>exactλi i=>rfl|succ k d=>
  intro cx e;refine(?_:Ix.dn (if e.g l=1 then _ else _:Z3).1 cx.gw (if e.g l=1 then _ else _:Z3).2.1 (if e.g l=1 then _ else _:Z3).2.2=if e.g l=1 then Ix.pre 1<|bif aR (B cx e).2.2 then _ else Ix.pre (B cx e).1<|bif bZ (B cx e).2.2 then jb 1 0 l (aV B) k cx (B cx e).2.1 else .dn 0 cx.gw (B cx e).2.1<|cK (B cx e).2.2 else _);by_cases h:e.g l=1;·refine Rr (if_pos h)<|Rr (if_pos h) ?_;generalize B cx e=z;obtain⟨a,e1,f⟩:=z;cases f with|bad=>rfl|nx=>exact congrArg (λP=>Ix.pre 1<|Ix.pre a P)<|d cx e1|again=>exact congrArg (λP=>Ix.pre 1<|Ix.pre a P)<|d cx e1|_=>exact congrArg (λk=>Ix.dn (k+1) _ _ _) (Nat.zero_add a).symm
  ·exact Rr (if_neg h)<|Rr (if_neg h) rfl
theorem GN(L:Ls)(d:ba)(a:List Int):iY L d a=eP 1 L d a:=by cases L<;>rfl
theorem GO(A:IS)(L:Ls)(cx:MC)(e:Me):AY A L cx e=A3 1 A L cx e:=by rfl
theorem GP(A:IS)(a:List<|Hw×FS)(L:Ls)(cx:MC)(e:Me):AZ A a L cx e=mj 1 A a L cx e:=by exact Rr (show pC (e.sn+1) a L cx.own cx.its=fL 1 (e.sn+1) a L cx.own cx.its from funext λw=>funext λe=>funext λo=>by cases o<;>(delta pC fL;rw[GN])<;>rfl) rfl
theorem yk(L:Ls)(cx:MC)(z:Z3):d7 (Ix.dn (ey L cx z).1 cx.gw (ey L cx z).2.1 (ey L cx z).2.2)<|bif aR z.2.2 then .dn z.1 cx.gw z.2.1 z.2.2 else Ix.pre z.1<|eP 0 L cx.own cx.its cx.gw z.2.1 z.2.2:=by
 obtain⟨e,e1,a⟩:=z;rcases L with _|p;·cases h:aR a<;>first|exact .inr rfl|exact .inr<|congrArg (λk=>Ix.dn k cx.gw e1 a) (Nat.zero_add e).symm
 ·cases h:aR a with|true=>exact .inl h|false=>show d7 (Ix.dn (ey (some p) cx (e,e1,a)).1 cx.gw (ey (some p) cx (e,e1,a)).2.1 (ey (some p) cx (e,e1,a)).2.2)<|Ix.pre e<|Ix.pre 0<|bif aR (p.2 cx e1).2.2 then .dn (p.2 cx e1).1 cx.gw (p.2 cx e1).2.1 (p.2 cx e1).2.2 else Ix.pre (p.2 cx e1).1<|.dn 0 cx.gw (p.2 cx e1).2.1<|dB a (p.2 cx e1).2.2;refine Rr (show ey (some p) cx (e,e1,a)=((p.2 cx e1).1+e,(p.2 cx e1).2.1,bif aR (p.2 cx e1).2.2 then .bad else dB a (p.2 cx e1).2.2)by show(bif aR a then _ else _)=_;refine Rr h ?_;rfl) ?_;generalize p.2 cx e1=z;obtain⟨g,e2,f⟩:=z;cases i:aR f with|true=>exact .inl i|false=>exact .inr<|congrArg (λk=>Ix.dn (k+e) cx.gw e2<|dB a f) (Nat.zero_add g).symm
theorem ym(A:FS)(a:List<|Hw×FS)(L:Ls)(cx:MC)(e:Me):d7 (aV (AU A a L) cx e)<|(mj 0 (aV A) a L cx e).pre 1:=by
  refine d7.pre (c:=1) (P:=Ix.dn (ey L cx<|gq (e.sn+1) a cx<|A ⟨cx.gw,(e.sn+1,a.map λl=>l.1)::cx.own,cx.its⟩ e.n_).1 cx.gw (ey L cx<|gq (e.sn+1) a cx<|A ⟨cx.gw,(e.sn+1,a.map λl=>l.1)::cx.own,cx.its⟩ e.n_).2.1 (ey L cx<|gq (e.sn+1) a cx<|A ⟨cx.gw,(e.sn+1,a.map λl=>l.1)::cx.own,cx.its⟩ e.n_).2.2) ?_;show d7 _<|Ix.pre 0<|bif aR (A ⟨cx.gw,(e.sn+1,a.map λl=>l.1)::cx.own,cx.its⟩ e.n_).2.2 then .dn _ _ _ _ else Ix.pre _<|fL 0 (e.sn+1) a L cx.own cx.its cx.gw _ _;generalize A ⟨cx.gw,(e.sn+1,a.map λl=>l.1)::cx.own,cx.its⟩ e.n_=z;generalize(e.sn:Int)+1=N;obtain⟨h,e1,i⟩:=z;haveI plain:gq N a cx (h,e1,i)=(h,e1,i)->fL 0 N a L cx.own cx.its cx.gw e1 i=eP 0 L cx.own cx.its cx.gw e1 i->d7 (Ix.dn (ey L cx<|gq N a cx (h,e1,i)).1 cx.gw (ey L cx<|gq N a cx (h,e1,i)).2.1 (ey L cx<|gq N a cx (h,e1,i)).2.2) (Ix.pre 0<|bif aR i then .dn h cx.gw e1 i else Ix.pre h<|fL 0 N a L cx.own cx.its cx.gw e1 i):=λv n=>by
    refine Rr v<|Rr n ?_;haveI:=yk L cx (h,e1,i);haveI u:∀P:Ix,P.pre 0=P:=λP=>by cases P<;>rfl
    rw[u];exact this
  cases i with|thr it g r=>
    by_cases k:g=N;·clear plain;subst k;cases m:bV r with|none=>exact .inl<|by show Ix.bd<|Ix.pre 0<|Ix.pre h<|if g=g then match(bV r).bind<|aa a with|some p=>_|none=>.dn 0 cx.gw e1 .bad else _;refine Rr (if_pos rfl)<|Rr m ?_;rfl|some j=>cases hp:aa a j with|none=>exact .inl<|by show Ix.bd<|Ix.pre 0<|Ix.pre h<|if g=g then match(bV r).bind<|aa a with|some p=>_|none=>.dn 0 cx.gw e1 .bad else _;refine Rr (if_pos rfl)<|Rr m ?_;refine(?_:Ix.bd<|Ix.pre 0<|Ix.pre h<|match aa a j with|some p=>_|none=>.dn 0 cx.gw e1 .bad);refine Rr hp ?_;rfl|some p=>
          by_cases hi:it=2\/it=3
          · haveI w:gq g a cx (h,e1,.thr it g r)=fh h (p.2 ⟨cx.gw,cx.own,it::cx.its⟩<|cO p.1 it e1):=by show(if g=g then match(bV r).bind<|aa a with|some p=>_|none=>_ else _)=_;refine Rr (if_pos rfl)<|Rr m ?_;show(match aa a j with|some p=>_|none=>_)=_;refine Rr hp ?_;exact if_pos hi
            haveI t:fL 0 g a L cx.own cx.its cx.gw e1 (.thr it g r)=Ix.pre 0 ((aV p.2 ⟨cx.gw,cx.own,it::cx.its⟩<|cO p.1 it e1).bind<|eP 0 L cx.own cx.its):=by show(if g=g then match(bV r).bind<|aa a with|some p=>_|none=>_ else _)=_;refine Rr (if_pos rfl)<|Rr m ?_;show(match aa a j with|some p=>_|none=>_)=_;refine Rr hp ?_;exact if_pos hi
            refine Rr w ?_;show d7 _<|Ix.pre 0<|Ix.pre h<|fL 0 g a L cx.own cx.its cx.gw e1<|.thr it g r;rw[t,fY,fY];show d7 _<|Ix.pre _<|bif aR (p.2 ⟨cx.gw,cx.own,it::cx.its⟩<|cO p.1 it e1).2.2 then .dn (p.2 ⟨cx.gw,cx.own,it::cx.its⟩<|cO p.1 it e1).1 cx.gw _ _ else _;generalize p.2 ⟨cx.gw,cx.own,it::cx.its⟩ (cO p.1 it e1)=z;obtain⟨s,e2,o⟩:=z;haveI:=yk L cx<|fh h (s,e2,o);revert this;cases n:aR o with|true=>exactλl=>.inl n|false=>refine Rr n ?_;intro this;show d7 _<|Ix.pre (0+(h+0))<|Ix.pre s<|eP 0 L cx.own cx.its cx.gw e2 o;rw[fY,Nat.zero_add];exact this
          ·exact .inl<|by show Ix.bd<|Ix.pre 0<|Ix.pre h<|if g=g then match(bV r).bind<|aa a with|some p=>_|none=>.dn 0 cx.gw e1 .bad else _;refine Rr (if_pos rfl)<|Rr m ?_;show Ix.bd<|Ix.pre 0<|Ix.pre h<|match aa a j with|some p=>_|none=>.dn 0 cx.gw e1 .bad;refine Rr hp ?_;show Ix.bd<|Ix.pre 0<|Ix.pre h<|if it=2\/it=3 then _ else _;refine Rr (if_neg hi) ?_;rfl
    ·exact plain (if_neg k)<|if_neg k|_=>exact plain rfl rfl
end
section
structure Kc where(c0 c1 c2 c3 c4 c5 c6 c7 c12 c17:AO)
noncomputable def vL:Nat->List AV|0=>[.none]|n+1=>vL n++[hJ (n+1:Nat)]
noncomputable def kD:AO:=.sdict [(⟨#[117,110,105,116]⟩,.ref 0 9),(⟨#[107,105,110,100,115]⟩,.tup [.int 16,.int 17,.int<|-1])]
noncomputable def kg(K:Kc)(vs:List AV):AS:=[[K.c0,K.c1,K.c2,K.c3,K.c4,K.c5,K.c6,K.c7,.edict,ju,.list vs,.edict,K.c12,.edict,.edict,.edict,kD,K.c17],[],[],[],[],[],[],[],[],[],[],[],[]]
noncomputable abbrev ks(K:Kc)(n:Nat):AS:=kg K<|vL n
noncomputable abbrev KD:AV:=.ref 0 16
theorem iN:∀n,(vL n).length=n+1|0=>rfl|n+1=>by refine Rr Qa<|Rr (iN n) ?_;rfl
variable{K:Kc}{n D:Nat}
theorem mF(K:Kc)(D:Nat){n:Nat}(h:n<=10000):rn (D+2) false 1639 [KD] (ks K n)=.ok (.int (n+1:Nat)) (ks K<|n+1):=by
 haveI g:(if aE (vL n)=true then some<|AV.int (vL n).length else none)=some (.int (n+1:Nat)):=by rw[if_pos<|br (k:=0)<|by rw[iN];exact af (ai _) (.v 0) (.n 10000) (.a (.p 0 1)<|.n 0) (.n 300000) h rfl,iN]
 haveI f:(if aE (vL n)=true then some<|AO.list<|vL n++[hJ<|n+1]else none)=some (.list<|vL<|n+1):=if_pos<|br (k:=0) (by rw[iN];exact af (ai _) (.v 0) (.n 10000) (.a (.p 0 1)<|.n 0) (.n 300000) h rfl);haveI j:(if aE (vL<|n+1)=true then some<|AV.int (vL<|n+1).length else none)=some (.int (n+1+1:Nat)):=by rw[if_pos<|br (k:=0)<|by rw[iN];exact af (ai _) (.v 0) (.n 10000) (.a (.a (.p 0 1)<|.n 1)<|.n 0) (.n 300000) h rfl,iN]
 haveI i:((n+1+1:Nat):Int)-1=(n+1:Nat):=by lia
 refine ak ?_;refine Rl i ?_;exact ah (.V 8 g<|.C 0 (i8 D 285 [.int<|n+1,.str ⟨#[]⟩,.int 7,.int 0,.int 1] (hJ<|n+1)<|ks K n)<|.O 1 f<|.V 4 j .nil) 1 ae
noncomputable def Vl.x:Vl->AV|k n=>xH<|.int n|e1=>xL 1|e2=>xL 2|th n=>xR n
theorem sy(v:Vl)(b:AS):rn (D+1) false 1653 [v.av] b=.ok v.x b:=ak<|by
 rcases v with n|_|_|n;·exact az 3 ae
 ·exact az 5 ae
 ·exact az 5 ae
 ·exact az 5 ae
theorem jH(l:Int)(x:AV)(b:AS):rn (D+1) false 1646 [.int l,x] b=.ok (fP l x) b:=ak<|az 0 ae
noncomputable def bN(v:AV):Bool:=match v with|.tup l=>(match l with|a::_=>(match a with|.int k=>iF k 93|_=>false)|[]=>false)|_=>false
noncomputable def bJ(s:AV)(ps:List AV):AV:=bif ps.any bN then .tup [.int 93,s]else s
noncomputable def cq(v:AV):Prop:=∃k r,v=.tup (.int k::r)/\iF k 6=false/\r.length<=1000
noncomputable abbrev zH:dc:=d4 1660 59<|aa (bI 1660) 0
theorem w5(s full:AV)(e:AS):∀(b:List AV),(∀p∈b,cq p)->(bk zH b [(q "s",s),(q "parts",full)] e).ev (rn D)=bif b.any bN then .go (.ret<|.tup [.int 93,s]) [] e else .go .next [(q "s",s),(q "parts",full)] e|[],_=>rfl|p::b,h=>by obtain⟨k,r,rfl,m,g⟩:=h p Qj;haveI j:=w5 s full e b λp hp=>h p<|Ql _ hp;haveI f:=f5 (l:=.int k::r) (i:=0) (k:=0) rfl<|af (ai _) (.v 0) (.n 1000) (.a (.p 0 1)<|.n 0) (.n 200000) g rfl;refine(?_:(bk zH (.tup (.int k::r)::b) _ _).ev _=bif iF k 93||b.any bN then _ else _);cases d:iF k 93 with|true=>exact ah (.V 0 f<|.B 0 d .nil) 0 ae|false=>exact bH (.V 0 f<|.B 0 d .nil) 0 j
theorem kb(s:AV)(h:∀p∈a,cq p)(c:AS):rn (D+1) false 1660 [s,.tup a] c=.ok (bJ s a) c:=by
 haveI k:=w5 (D:=D) s (.tup a) c a h;refine ak ?_;delta bJ;revert k;rcases a.any bN with _|_;·intro k;exact eT 1 k<|az 0 ae
 ·intro k;exact eT 1 k<|az 0 ae
end
section
variable{K:Kc}{n D lo hi R:Nat}{q okl:Bool}
noncomputable def pE:MO->Bool|.nx=>true|.thr _ _ _=>true|_=>false
structure Sm(q okl:Bool)(t:AV)(L:LS):Prop where
 w:Wk 2 t L q
 r:∃v A,(∀(K:Kc)(D n:Nat),rn (D+3) false 1672 [KD,t] (ks K n)=.ok v (ks K n))/\cq v/\bN v=false/\(∀N,2<N->bp v A N 16 q)/\(∀lo hi R,aS (aV A) L lo hi (R+4) R q)/\Lp A
 f:∀cx s,∃lg s' o,L cx s=.dn lg s' o/\(okl=true->pE o=true)
theorem eH{r:List AV}(h:iF k 6=false:=by kernel_rfl)(c:Nat.ble r.length 1000=true:=by kernel_rfl):cq<|.tup<|.int k::r:=⟨k,r,rfl,h,bL c⟩
theorem yo(n:Int):Sm q okl (.tup [.str ⟨#[108,111,103]⟩,.int n])<|tu n:=⟨(IE n).mono<|bL rfl,⟨_,_,λK D m=>ak<|az 3 ae,eH,rfl,λN a=>H9 n,λlo hi R=>(GC n).wid (Qg _) (Qg _)<|aK (ai _) (.n 3) (.p 0 4) rfl,λcx e a l a a=>rfl⟩,λcx s=>⟨_,_,_,rfl,λa=>rfl⟩⟩
theorem yp(h:it=2\/it=3):Sm q okl (.tup [.str ⟨#[116,104,114,111,119]⟩,.int it])<|fk it:=by
 have c:iF it 0=false:=by rcases h with h|h<;>exact Rr h rfl<;>rfl
 haveI f:(!iF it 0)=true:=by refine Rr c ?_;rfl
 exact⟨IG c,⟨.tup [.int 13,xH<|.int it],_,λK D m=>ak<|eE 9 f<|az 1 ae,eH,rfl,λN d=>Ia h,λlo hi R=>(q6 h).wid (Qg _) (Qg _)<|aK (ai _) (.p 0 2) (.p 0 4) rfl,λcx e k=>by injection k⟩,λcx s=>⟨_,_,_,rfl,λd=>rfl⟩⟩
theorem KR:Sm true okl (.tup [.str ⟨#[116,104,114,111,119]⟩,.int 0]) qa:=⟨KH,⟨.tup [.int 13,.none],_,λK D m=>ak<|az 10 ae,eH,rfl,λN b=>EG,λlo hi R=>IM.wid (Qg _) (Qg _)<|aK (ai _) (.p 0 1) (.p 0 4) rfl,λcx e k=>by injection k⟩,λcx s=>⟨_,_,_,rfl,λb=>rfl⟩⟩
theorem rL(h:k=10/\o=.brk\/k=11/\o=.again\/k=17/\o=.fin)(d:bB o=.tup [.int 1,.str x])(r:∀(K:Kc)(D n:Nat),rn (D+3) false 1672 [KD,.tup [.str zs35,.str x]] (ks K n)=.ok (.tup [.int k]) (ks K n)):Sm q false (.tup [.str zs35,.str x])<|jE o:=by
 haveI b:iF k 6=false/\iF k 93=false:=by rcases h with h|h|h<;>refine Rr h.1 ?_<;>exact⟨rfl,rfl⟩
 haveI c:o≠.nx:=by rcases h with h|h|h<;>refine Rr h.2 ?_<;>exactλk=>by injection k 
 exact⟨(IF o d c).mono<|bL rfl,⟨_,_,r,eH b.1,b.2,λN f=>Ib h,λlo hi R=>(GD<|by rcases h with h|h|h;exact .inl h.2;exact .inr<|.inl h.2;exact .inr<|.inr h.2).wid (Qg _) (Qg _)<|aK (ai _) (.n 1) (.p 0 4) rfl,λcx e k=>absurd k c⟩,λcx s=>⟨_,_,_,rfl,λk=>by exact fT k⟩⟩
theorem yq:Sm q false (.tup [.str zs35,.str ⟨#[101,110,100]⟩])<|jE .fin:=rL (.inr<|.inr ⟨rfl,rfl⟩) rfl λK D n=>ak<|az 12 ae
theorem yr:Sm q false (.tup [.str zs35,.str ⟨#[98,114,101,97,107]⟩])<|jE .brk:=rL (.inl ⟨rfl,rfl⟩) rfl λK D n=>ak<|az 12 ae
theorem vX:Sm q false (.tup [.str zs35,.str ⟨#[97,103,97,105,110]⟩])<|jE .again:=rL (.inr<|.inl ⟨rfl,rfl⟩) rfl λK D n=>ak<|az 12 ae
noncomputable def Vl.ok:Vl->Prop|th n=>n=2\/n=3|_=>True
theorem vY(h:v.ok){P:Prop}(c:∀it,v=.th it->it=2\/it=3->P)(a:∀x,Vv x v->v.x=x.av->(∀N,2<N->x.ok N)->P):P:=by
 rcases v with n|_|_|n;·exact a (.k n) (.k n) rfl λb b=>trivial
 ·exact a (.l 1) .e1 rfl λN h=>⟨bL rfl,af (ai _) (.n 3) (.v 0) (.n 2) (.v 0) h rfl⟩
 ·exact a (.l 2) .e2 rfl λN h=>⟨bL rfl,h⟩
 ·exact c n rfl h
theorem w6(a:Bool)(v:Vl)(K:Kc)(D n:Nat):rn (D+3) false 1672 [KD,.tup [.str zs22,.int<|bif a then 1 else 2,v.av]] (ks K n)=.ok (fP (bif a then 1 else 2) v.x) (ks K n):=ak<|by cases a with|true=>exact ah (.C 6 (sy v<|ks K n)<|.C 0 (jH 1 v.x<|ks K n) .nil) 0 ae|false=>exact ah (.C 6 (sy v<|ks K n)<|.C 0 (jH 2 v.x<|ks K n) .nil) 0 ae
theorem yt(a:Bool)(o:v.ok):Sm q okl (.tup [.str zs22,.int<|bif a then 1 else 2,v.av])<|ig a v:=by
  haveI e:((bif a then 1 else 2:Nat):Int)=bif a then 1 else 2:=by cases a<;>rfl
  haveI d:∀N,2<N->(bif a then 1 else 2)<N:=λN h=>match a with|false=>h|true=>Nat.lt_of_succ_lt h;haveI f:0<bif a then 1 else 2:=by clear e d;cases a<;>decide
  refine⟨IJ a v,⟨fP (bif a then 1 else 2) v.x,?_⟩,λcx s=>?_⟩
  · refine vY o (λit h c=>?_) λx h m r=>?_
    ·subst h;refine⟨hN 4 it,λK D n=>w6 a _ K D n,eH,rfl,λN b=>?_,λlo hi R=>(q6 c).wid (Qg _) (Qg _)<|Qg _,λcx e k=>by injection k⟩;haveI:=Gm f (d N b) c (q:=q);rw[e]at this;exact this
    · refine⟨cS (bif a then 1 else 2) x,λK D n=>w6 a v K D n,eH,rfl,λN b=>?_,λlo hi R=>(GF a h).wid (Qg _) (Qg _)<|aK (ai _) (.n 3) (.p 0 4) rfl,λcx e j l t b=>eJ λk=>?_⟩;·haveI:=m9 f (d N b) (r N b) (q:=q);rw[e,<-m]at this;exact this
      ·clear d f;cases a with|true=>exact t k.symm|false=>exact b k.symm
  ·cases v with|th n=>exact⟨_,_,_,rfl,λj=>rfl⟩|_=>exact⟨_,_,_,rfl,λj=>rfl⟩
end
section
variable{K:Kc}{n D lo hi R k:Nat}{q okl:Bool}
noncomputable def tx(f k:Nat)(cells:aq)(o:Option Expr):List AV->List AV->AS->Cd:=o.elim (λξ ξ ξ=>stk) λe=>eS e 8 (λξ ξ ξ=>stk) λh=>Expr.ListComp.elim (motive_1:=λξ=>List AV->List AV->AS->Cd) e h λelt gs sc ξ=>match gs with|g::_=>(eD g.target).elim (λξ ξ ξ=>stk) λx=>kf (λloc σ k'=>ev TP k ⟨gY sc (eU f).sc,cells.filter λp=>je<|bt sc.names p.1,(eU f).hd,none,false⟩ loc elt σ k' ir) (mU (λloc e σ k' x=>ts TP k ⟨gY sc (eU f).sc,cells.filter λp=>je<|bt sc.names p.1,(eU f).hd,none,false⟩ loc e σ k' x) g.ifs) x|[]=>λξ ξ ξ=>stk
noncomputable def uN(s:Option Stmt):Option Expr:=gQ s 5 (gQ s 3 none λs h=>Stmt.Return.elim (motive_2:=λξ=>Option Expr) s h λo ξ=>o) λs h=>Stmt.Assign.elim (motive_2:=λξ=>Option Expr) s h λξ e ξ=>some e
noncomputable def oe{α:Type}(o:Option α)(n:Option Expr)(k:α->Option Expr):Option Expr:=o.elim n k
noncomputable def NI(e:Option Expr):Option Expr:=e.bind λe=>oe (pN e) (some e) λq=>aa q.2.1 0
noncomputable abbrev KW:=tx 1665 57 [(Mj.Internal.q "k",KD)]<|NI<|uN<|aa (bI 1665) 0
inductive jT(K:Kc)(d:Nat):List AV->Nat->List AV->Nat->Prop|nil(n:Nat):jT K d [] n [] n|cons{t v:AV}{ts vs:List AV}{n n1 n2:Nat}:(∀D,rn (D+d) false 1672 [KD,t] (ks K n)=.ok v (ks K n1))->jT K d ts n1 vs n2->jT K d (t::ts) n (v::vs) n2
theorem KX{ts vs:List AV}(H:jT K d ts n vs n'):∀(b:List AV),b.length+ts.length<=1000->(KW ts b<|ks K n).ev (rn<|D+d)=.go (.ret<|.fl<|b++vs) [] (ks K n'):=by induction H with|nil n=>intro b _;rw[Qc];rfl|@cons t v ts vs n i g h _ f=>intro b c;haveI:=f (b++[v]) (by refine Rr Qa ?_;exact af (au _ _) (.a (.v 0)<|.p 1 1) (.n 1000) (.a (.p 0 1)<|.v 1) (.n 1000) c rfl);rw[Qd]at this;haveI e:=br<|af (au _ _) (.a (.v 0)<|.p 1 1) (.n 1000) (.p 0 0) (.n 300000) c rfl;exact bH (.C 0 (h D)<|.B 0 e .nil) 0 this
theorem zI{ts vs:List AV}(H:jT K d ts n vs n')(hl:ts.length<=1000)(i:∀v∈vs,cq v)(c:vs.length<=1000):rn (D+d+2) false 1665 [KD,.fl ts] (ks K n)=.ok (bJ (.tup [.int 3,.tup vs,.int 0]) vs) (ks K n'):=by haveI h:=KX (D:=D+1) H [] (by rw[List.length_nil,Nat.zero_add];exact hl);rw[Nat.add_right_comm]at h;haveI g:(if aE vs=true then some<|AV.tup vs else none)=some (.tup vs):=if_pos<|br<|af (ai _) (.v 0) (.n 1000) (.p 0 0) (.n 300000) c rfl;exact ak<|ah (.P 1 h<|.V 0 g<|.C 0 (kb (.tup [.int 3,.tup vs,.int 0]) i<|ks K n') .nil) 0 ae
end
section
variable{K:Kc}{n D lo hi R k NV ht hh B u:Nat}{q okl:Bool}
noncomputable def Pt(v:AV)(M:IS)(NV:Nat)(q:Bool)(ht hh:Nat):Prop:=(∃s,v=.tup [.int 93,s]/\ff s M NV q ht)\/∃A,bN v=false/\bp v A NV hh q/\M=aV A
theorem bp.mono(H:bp s A N h q)(k:h<=l):bp s A N l q:=by obtain⟨j,rfl⟩:=Nat.le.dest k;intro F a cx hC g e c e' o i p m f n b D d;haveI:=H F a cx (hC.sub<|Qi _ _) g e c e' o i p m f (n+j) b (D+j) d;rw[Nat.add_assoc n,Nat.add_assoc D,Nat.add_comm j h]at this;exact this
theorem qs(h:cq v)(c:bN v=false):mB v:=by obtain⟨k,r,rfl,_,b⟩:=h;exact⟨k,r,rfl,c,b⟩
theorem Pt.part(H:Pt v M NV q ht hh)(d:cq v)(k:hh<=150):f6 v M NV q ht:=H.imp id λc=>by obtain⟨A,a,e,b⟩:=c;exact⟨A,qs d a,e.mono k,b⟩
theorem EN(H:aL (λv M=>Pt v M NV q ht hh) vs c)(h:vs.any bN=false):∃b:List FS,c=b.map aV/\aL (λv A=>bp v A NV hh q) vs b:=by induction H with|nil=>exact⟨[],rfl,.nil⟩|@cons v M vs c e _ d=>
  haveI h:(bN v||vs.any bN)=false:=h;rw[Bool.or_eq_false_iff]at h;obtain⟨b,rfl,f⟩:=d h.2;rcases e with⟨s,rfl,_⟩|⟨A,_,g,rfl⟩;·exact cX h.1
  ·exact⟨A::b,rfl,.cons g f⟩
theorem EO(H:aL (λv M=>Pt v M NV q ht hh) vs c)(b:∀v∈vs,cq v)(k:hh<=150):aL (λv M=>f6 v M NV q ht) vs c:=by induction H with|nil=>exact .nil|cons a _ d=>exact .cons (a.part (b _ Qj) k)<|d λv a=>b v<|Ql _ a
theorem jo(h:cq v):uB v:=h.elim λk h=>h.elim λr h=>⟨k,r,h⟩
theorem eA.c0{Ls:List LS}(H:eA lo hi R q c i Ls B)(k:d<=c):∃b,b<=B/\eA lo hi R q d i Ls b:=by induction H with|nil=>exact⟨d,k,.nil⟩|cons h _ g=>obtain⟨b,e,f⟩:=g;exact⟨_,aO (ef _ _ _ _ _) (.v 0) (.v 1) (.v 2) (.v 3) (.a (.a (.v 4)<|.v 0)<|.v 2) (.a (.a (.v 4)<|.v 1)<|.v 3) e k rfl,.cons h f⟩
theorem eA.wid{Ls:List LS}(H:eA lo' a R q c f Ls B)(b:lo<=lo')(d:a<=hi):eA lo hi R q c f Ls B:=by induction H with|nil=>exact .nil|cons h _ e=>exact .cons (h.wid b d<|Qg _) e
inductive kZ(v:AV)(L:LS)(q:Bool)(ht hh lo hi B R NV:Nat):Prop|mk(M:IS)(h1:Pt v M NV q ht hh)(h2:aS M L lo hi B R q):kZ v L q ht hh lo hi B R NV
theorem IW{Ls:List LS}(H:aL (λv M=>Pt v M NV q ht<|hh+1) vs f)(i:∀v∈vs,cq v)(hl:vs.length<=1000)(c:hh<=149)(j:eA lo hi R q 1 f Ls B):kZ (bJ (.tup [.int 3,.tup vs,.int 0]) vs) (a8 Ls) q ht (hh+4) lo hi (B+1) R NV:=by delta bJ;cases h:vs.any bN with|true=>exact⟨ic f,.inl ⟨_,rfl,qY (EO H i<|af (ai _) (.v 0) (.n 149) (.p 0 1) (.n 150) c rfl) hl⟩,(aS.eqB (λcx e=>.inr<|q8 f cx e)<|q7 j).wid (Qg _) (Qg _)<|Qk _⟩|false=>obtain⟨b,rfl,o⟩:=EN H h;obtain⟨A,m,y⟩:=j.c0<|Nat.zero_le 1;refine⟨aV<|gh b,.inr ⟨gh b,rfl,ny o (λv t=>jo<|i v t) hl,rfl⟩,aS.eqB (λcx e=>rK b cx e) ?_⟩;exactλg r d z a l w e s x=>aA.mono (aA.pre<|q7 y g r d z a l w e s x)<|Nat.succ_le_succ m
inductive A4(K:Kc)(n d f:Nat)(t:AV)(L:LS)(q:Bool)(u B R ht hh:Nat):Prop|mk(v:AV)(n':Nat)(h1:∀D,rn (D+d) false f [KD,t] (ks K n)=.ok v (ks K n'))(h2:n<=n')(h3:n'<=n+u)(h4:cq v)(h5:∀NV,n'<NV->kZ v L q ht hh (n+1) (n'+1) B R NV):A4 K n d f t L q u B R ht hh
noncomputable def mG(d:Nat)(f:Nat)(t:AV)(L:LS)(q:Bool)(u B R ht hh:Nat):Prop:=∀(K:Kc)(n:Nat),2<=n->n+u<=10000->A4 K n d f t L q u B R ht hh
structure Tr(k:Nat)(t:AV)(L:LS)(q:Bool)(u B:Nat):Prop where
 w:Wk (10*k+2) t L q
 r:mG (10*k+3) 1672 t L q u B (20-2*k) k<|14*k+16
inductive cU(k:Nat)(q:Bool):List AV->List LS->Nat->Nat->Prop|nil:cU k q [] [] 0 1|cons{t:AV}{L:LS}{ts:List AV}{Ls:List LS}{u u' B B':Nat}:Tr k t L q u B->cU k q ts Ls u' B'->cU k q (t::ts) (L::Ls) (u+u') (B+B'+1)
theorem cU.w{ts:List AV}{Ls:List LS}(H:cU k q ts Ls u B):aL (λt L=>Wk (10*k+2) t L q) ts Ls:=by induction H with|nil=>exact .nil|cons h _ a=>exact .cons h.w a
theorem cU.r{ts:List AV}{Ls:List LS}(H:cU k q ts Ls u B):∀(K:Kc)(n:Nat),2<=n->n+u<=10000->∃vs n',jT K (10*k+3) ts n vs n'/\vs.length=ts.length/\n<=n'/\n'<=n+u/\(∀v∈vs,cq v)/\∀NV,n'<NV->∃b,aL (λv M=>Pt v M NV q k<|14*k+16) vs b/\eA (n+1) (n'+1) (20-2*k) q 1 b Ls B:=by induction H with|nil=>exactλK n f c=>⟨[],n,.nil n,rfl,Qg _,Qi _ _,λv h=>absurd h Qr,λNV l=>⟨[],.nil,.nil⟩⟩|@cons t L ts Ls u T B Q h _ z=>intro K n f c;obtain⟨v,F,y,g,j,I,P⟩:=h.r K n f<|af (aH _ _ _) (.a (.v 0)<|.a (.v 1)<|.v 2) (.n 10000) (.a (.v 0)<|.v 1) (.n 10000) c rfl;obtain⟨vs,o,N,J,d,s,b3,x⟩:=z K F (aO (au _ _) (.n 2) (.v 0) (.v 0) (.v 1) (.n 2) (.v 1) f g rfl)<|aO (b8 _ _ _ _) (.v 0) (.a (.v 1)<|.v 2) (.a (.v 1)<|.a (.v 2)<|.v 3) (.n 10000) (.a (.v 0)<|.v 3) (.n 10000) j c rfl;refine⟨v::vs,o,.cons y N,congrArg (λl=>l+1) J,aO (aH _ _ _) (.v 0) (.v 1) (.v 1) (.v 2) (.v 0) (.v 2) g d rfl,aO (ef _ _ _ _ _) (.v 0) (.a (.v 1)<|.v 2) (.v 1) (.a (.v 3)<|.v 4) (.v 0) (.a (.v 3)<|.a (.v 4)<|.v 2) s j rfl,λw m=>(P7 m).elim (λe=>Rr e I)<|b3 w,λNV i=>?_⟩;obtain⟨M,C,O⟩:=P NV<|aO (aH _ _ _) (.v 0) (.v 1) (.p 1 1) (.v 2) (.p 0 1) (.v 2) d i rfl;obtain⟨b,A,G⟩:=x NV i;exact⟨M::b,.cons C A,.cons (O.wid (Qg _) (af (au _ _) (.v 0) (.v 1) (.p 0 1) (.p 1 1) d rfl)<|Qg _)<|G.wid (af (au _ _) (.v 0) (.v 1) (.p 0 1) (.p 1 1) g rfl)<|Qg _⟩
theorem cU.part{ts:List AV}{Ls:List LS}(H:cU k q ts Ls u B)(hl:ts.length<=1000)(m:k<=5):Wq (10*k+3) (.fl ts) (a8 Ls) q/\mG (10*k+5) 1665 (.fl ts) (a8 Ls) q u (B+1) (20-2*k) k (14*k+19):=by
 refine⟨Co H.w,λK n e h=>?_⟩;obtain⟨vs,n',d,b,l,g,a,j⟩:=H.r K n e h;refine⟨_,n',λD=>zI d hl a<|Rr b hl,l,g,?_,λNV c=>?_⟩;·delta bJ;cases vs.any bN<;>exact eH
 ·obtain⟨o,i,f⟩:=j NV c;exact IW i a (Rr b hl) (by lia) f
end
section
variable{K:Kc}{n D lo hi R k NV ht hh B u:Nat}{q okl:Bool}
theorem aS.rr(H:aS M L lo hi B R q)(k:e<=R):aS M L lo hi B e q:=λb d a c=>H b d a ⟨c.al,c.xs,Qh c.rn k⟩
theorem ff.mono(H:ff s M NV q ht)(k:ht<=c):ff s M NV q c:=λD a g e d b κ f hC=>H D a g e d b κ f λw=>⟨(hC w).rows,(hC w).its,(hC w).q,Qh (Qo k _) (hC w).ol,Qh (Qo k _) (hC w).il⟩
theorem Pt.mono(H:Pt v M NV q ht hh)(g:ht<=b)(f:hh<=e):Pt v M NV q b e:=H.imp (λc=>by obtain⟨s,d,a⟩:=c;exact⟨s,d,a.mono g⟩) λc=>by obtain⟨A,d,a,h⟩:=c;exact⟨A,d,a.mono f,h⟩
theorem mG.mono(H:mG d f t L q u B R ht hh)(y:d<=d')(g:u<=w)(l:B<=s)(i:C<=R)(x:ht<=c)(m:hh<=e):mG d' f t L q w s C c e:=λK n b p=>by obtain⟨v,n',r,A,o,z,F⟩:=H K n b<|aO (aH _ _ _) (.a (.v 0)<|.v 1) (.n 10000) (.v 2) (.v 1) (.a (.v 0)<|.v 2) (.n 10000) p g rfl;refine⟨v,n',λD=>?_,A,aO (b8 _ _ _ _) (.v 0) (.a (.v 1)<|.v 2) (.v 2) (.v 3) (.v 0) (.a (.v 1)<|.v 3) o g rfl,z,λNV h=>(F NV h).casesOn λM j b=>⟨M,j.mono x m,(b.rr i).wid (Qg _) (Qg _) l⟩⟩;haveI:=r<|D+(d'-d);rw[Nat.add_assoc,Nat.sub_add_cancel y]at this;exact this
theorem Tr.mono(H:Tr k t L q u B)(f:k<=c)(b:u<=d)(a:B<=e):Tr c t L q d e:=⟨H.w.mono<|by omega,H.r.mono (by omega) b a (by omega) f<|by lia⟩
theorem Sm.tr(H:Sm q okl t L):Tr 0 t L q 0 24:=by obtain⟨v,A,r,d,f,e,c,_⟩:=H.r;exact⟨H.w,λK n b g=>⟨v,n,λD=>r K D n,Qg _,Qg _,d,λNV a=>⟨aV A,.inr ⟨A,f,e NV<|aO (au _ _) (.n 2) (.v 0) (.p 0 1) (.v 1) (.n 3) (.v 1) b a rfl,rfl⟩,c _ _ 20⟩⟩⟩
theorem KY(c:v.ok):Tr 0 (.tup [.str zs36,v.av]) (fQ v) q 0 24:=by
 refine⟨KJ v,λK n f g=>⟨.tup [.int 93,.tup [.int 16,v.x]],n,λD=>ak<|aG 7 (sy v<|ks K n)<|az 0 ae,Qg _,Qg _,eH,λNV b=>?_⟩⟩;refine vY c (λit h a=>?_) λx h e d=>?_;·subst h;exact⟨aV<|hN 3 it,.inl ⟨_,rfl,Iu a⟩,(q6 a).wid (Qg _) (Qg _)<|bL rfl⟩
 ·exact⟨uJ x,.inl ⟨_,rfl,by refine Rr e ?_;exact Ir<|d NV<|aO (au _ _) (.n 2) (.v 0) (.p 0 1) (.v 1) (.n 3) (.v 1) f b rfl⟩,(IP h).wid (Qg _) (Qg _)<|bL rfl⟩
theorem IX:aS (aV λf e=>(0,e,.nx)) (a8 []) lo hi B R q:=λd g b h a i w e s c=>iM (Am.rfl c) nz<|Nat.zero_le _
theorem dI(b:bN y=z):bJ s [y]=bif z then .tup [.int 93,s]else s:=by delta bJ;refine Rr (show[y].any bN=(bN y||false)from rfl)<|Rr b ?_;clear b;cases z<;>rfl
theorem GQ{l:List AV}(h:l.length<=1000):(if aE l=true then some !l.isEmpty else none)=some !l.isEmpty:=if_pos<|br<|af (ai _) (.v 0) (.n 1000) (.p 0 0) (.n 300000) h rfl
theorem Pt.flat(H:Pt v M NV q ht hh)(h:bN v=false):∃A,bp v A NV hh q/\M=aV A:=by
 rcases H with⟨s,rfl,_⟩|⟨A,_,c,b⟩;·exact cX h
 ·exact⟨A,c,b⟩
theorem tA(r:∀D,rn (D+d) false f a e=.ok v c)(h:d<=d'):rn (D+d') false f a e=.ok v c:=by haveI:=r<|D+(d'-d);rwa[Nat.add_assoc,Nat.sub_add_cancel h]at this
theorem eQ{f D d c k:Nat}(r:∀D,rn (D+d) false f a i=.ok v e)(h:Nat.ble d c=true:=by kernel_rfl):rn (D+(c+k)) false f a i=.ok v e:=tA r<|Qh (bL h)<|Qi _ _
theorem jI{f D d c k:Nat}(r:∀D,rn (D+(k+d)) false f a i=.ok v e)(h:Nat.ble d c=true:=by kernel_rfl):rn (D+(k+c)) false f a i=.ok v e:=tA r<|Qo (bL h) _
theorem j6{k:Int}{r b:List AV}(h:iF k 6=false:=by kernel_rfl)(d:Nat.ble r.length 1000=true:=by kernel_rfl):cq<|bJ (.tup<|.int k::r) b:=by
 delta bJ;cases b.any bN;·exact eH h d
 ·exact eH
theorem IY(l:Pt y s NV q k<|hh+6)(p:cq y)(f:2<NV)(r:hh+6<=150)(h:aS s o lo hi b R q):kZ (bJ (.tup [.int 4,xL<|bif a then 1 else 2,y,.none]) [y]) (ix a o<|a8 []) q k (hh+8) lo hi (b+3) R NV:=by
 have e:((bif a then 1 else 2:Nat):Int)=bif a then 1 else 2:=by cases a<;>rfl
 have j:0<bif a then 1 else 2:=by cases a<;>decide
 have g:(bif a then 1 else 2)<NV:=match a with|false=>f|true=>Nat.lt_of_succ_lt f;cases d:bN y with|true=>refine Rr (dI d) ?_;exact⟨_,.inl ⟨_,rfl,Rl e<|yh j g (l.part p r)<|.inl ⟨rfl,rfl⟩⟩,EM h⟩|false=>refine Rr (dI d) ?_;obtain⟨A,m,rfl⟩:=l.flat d;exact⟨_,.inr ⟨_,rfl,Rl e<|ye j g m<|.inl ⟨rfl,rfl⟩,rfl⟩,(aS.eqB (λcx e=>yj _ _ _ cx e)<|rI h IX).wid (Qg _) (Qg _)<|Qk _⟩
theorem KZ(o:Pt y H NV q k<|hh+6)(I:cq y)(l:Pt z j NV q k<|hh+6)(b3:cq z)(f:2<NV)(v:hh+6<=150)(g:aS H G lo hi b R q)(i:aS j F lo hi b R q):kZ (bJ (.tup [.int 4,xL<|bif a then 1 else 2,y,z]) [y,z]) (ix a G F) q k (hh+8) lo hi (b+3) R NV:=by
 have e:((bif a then 1 else 2:Nat):Int)=bif a then 1 else 2:=by cases a<;>rfl
 have w:0<bif a then 1 else 2:=by cases a<;>decide
 haveI t:(bif a then 1 else 2)<NV:=match a with|false=>f|true=>Nat.lt_of_succ_lt f;have p:∃s,z=.tup s:=b3.elim λk h=>h.elim λr h=>⟨_,h.1⟩;delta bJ;cases d:[y,z].any bN with|true=>exact⟨_,.inl ⟨_,rfl,Rl e<|yh w t (o.part I v)<|.inr<|p.elim λs h=>⟨s,j,h,rfl,Rl h<|l.part b3 v⟩⟩,aS.eqB (λcx e=>.inr<|IT _ _ _ cx e)<|rI g i⟩|false=>haveI d:(bN y||(bN z||false))=false:=d;rw[Bool.or_eq_false_iff,Bool.or_eq_false_iff]at d;obtain⟨A,x,rfl⟩:=o.flat d.1;obtain⟨B,C,rfl⟩:=l.flat d.2.1;exact⟨_,.inr ⟨_,rfl,Rl e<|ye w t x<|.inr ⟨p,C⟩,rfl⟩,(aS.eqB (λcx e=>yj _ _ _ cx e)<|rI g i).wid (Qg _) (Qg _)<|Qk _⟩
theorem K0(hA:cU k q T LA ua Z)(hB:cU k q I X ub BB)(la:T.length<=1000)(H:I.length<=1000)(i:k<=4):Tr (k+1) (.tup [.str ⟨#[105,102]⟩,.int<|bif b then 1 else 2,.fl T,.fl I]) (ix b (a8 LA)<|a8 X) q (ua+ub)<|Z+BB+4:=by refine(hA.part la<|af (ai _) (.v 0) (.n 4) (.v 0) (.n 5) i rfl).elim λwA rA=>?_;refine(hB.part H<|af (ai _) (.v 0) (.n 4) (.v 0) (.n 5) i rfl).elim λx G=>?_;refine⟨(KN wA x).mono<|aK (ai _) (.a (.a (.m 10<|.v 0)<|.n 3)<|.n 1) (.a (.m 10<|.p 0 1)<|.n 2) rfl,λK n r U=>?_⟩;obtain⟨y,n1,l,j,J,t,P⟩:=rA K n r<|af (aH _ _ _) (.a (.v 0)<|.a (.v 1)<|.v 2) (.n 10000) (.a (.v 0)<|.v 1) (.n 10000) U rfl;obtain⟨z,s,g,f,V,b3,Y⟩:=G K n1 (aO (au _ _) (.n 2) (.v 0) (.v 0) (.v 1) (.n 2) (.v 1) r j rfl)<|aO (b8 _ _ _ _) (.v 0) (.a (.v 1)<|.v 2) (.a (.v 1)<|.a (.v 2)<|.v 3) (.n 10000) (.a (.v 0)<|.v 3) (.n 10000) J U rfl;haveI d:=GQ H;cases ht:I.isEmpty with
  |true=>
    haveI O:X=[]:=by haveI:=P8 ht;clear H x G g d;subst this;cases hB;rfl
    clear x G;subst O;haveI d:=d.trans (by refine Rr ht ?_;rfl);refine⟨bJ (.tup [.int 4,xL<|bif b then 1 else 2,y,.none]) [y],s,λD=>?_,aO (aH _ _ _) (.v 0) (.v 1) (.v 1) (.v 2) (.v 0) (.v 2) j f rfl,aO (ef _ _ _ _ _) (.v 0) (.a (.v 1)<|.v 2) (.v 1) (.a (.v 3)<|.v 4) (.v 0) (.a (.v 3)<|.a (.v 4)<|.v 2) V J rfl,j6,λNV o=>?_⟩;·haveI l:=jI (D:=D) (c:=12) l;haveI g:=jI (D:=D) (c:=12) g;haveI F:=kb (D:=D+(10*k+11)) (.tup [.int 4,xL<|bif b then 1 else 2,y,.none]) (λp hp=>Rr (P9 hp) t)<|ks K s;exact ak<|ah (.C 13 l<|.C 1 g<|.Q 1 d<|.Q 2 d<|.C 0 F .nil) 0 ae
    ·obtain⟨MA,A,w⟩:=P NV<|aO (aH _ _ _) (.v 0) (.v 1) (.p 1 1) (.v 2) (.p 0 1) (.v 2) f o rfl;obtain⟨M,N,L⟩:=IY A t (ik (b8 _ _ _ _) (.n 2) (.v 0) (.v 0) (.v 1) (.v 1) (.v 2) (.p 2 1) (.v 3) (.n 3) (.v 3) r j f o rfl) (by omega) w;exact⟨M,N.mono (Qk _)<|aK (ai _) (.a (.a (.m 14<|.v 0)<|.n 13)<|.n 8) (.a (.m 14<|.p 0 1)<|.n 16) rfl,(L.rr<|aO (aH _ _ _) (.a (.v 0)<|.m 2<|.p 1 1) (.n 20) (.n 20) (.a (.v 2)<|.m 2<|.v 1) (.v 0) (.v 2) (bW<|aO (ai _) (.v 0) (.n 4) (.v 0) (.n 4) (.m 2<|.p 0 1) (.n 20) i i rfl) (cF _ _) rfl).wid (Qg _) (af (au _ _) (.v 0) (.v 1) (.p 0 1) (.p 1 1) f rfl)<|aK (au _ _) (.a (.p 0 1)<|.n 3) (.a (.a (.v 0)<|.v 1)<|.n 4) rfl⟩|false=>
    haveI d:=d.trans (by refine Rr ht ?_;rfl);refine⟨bJ (.tup [.int 4,xL<|bif b then 1 else 2,y,z]) [y,z],s,λD=>?_,aO (aH _ _ _) (.v 0) (.v 1) (.v 1) (.v 2) (.v 0) (.v 2) j f rfl,aO (ef _ _ _ _ _) (.v 0) (.a (.v 1)<|.v 2) (.v 1) (.a (.v 3)<|.v 4) (.v 0) (.a (.v 3)<|.a (.v 4)<|.v 2) V J rfl,j6,λNV o=>?_⟩;·haveI l:=jI (D:=D) (c:=12) l;haveI g:=jI (D:=D) (c:=12) g;haveI F:=kb (D:=D+(10*k+11)) (.tup [.int 4,xL<|bif b then 1 else 2,y,z]) (λp hp=>(P7 hp).elim (λe=>Rr e t) λh=>Rr (P9 h) b3)<|ks K s;exact ak<|ah (.C 13 l<|.C 1 g<|.Q 1 d<|.Q 2 d<|.C 0 F .nil) 0 ae
    ·obtain⟨MA,A,w⟩:=P NV<|aO (aH _ _ _) (.v 0) (.v 1) (.p 1 1) (.v 2) (.p 0 1) (.v 2) f o rfl;obtain⟨MB,p2,s2⟩:=Y NV o;obtain⟨M,N,L⟩:=KZ A t p2 b3 (ik (b8 _ _ _ _) (.n 2) (.v 0) (.v 0) (.v 1) (.v 1) (.v 2) (.p 2 1) (.v 3) (.n 3) (.v 3) r j f o rfl) (by omega) (w.wid (Qg _) (af (au _ _) (.v 0) (.v 1) (.p 0 1) (.p 1 1) f rfl)<|aK (au _ _) (.p 0 1) (.a (.a (.v 0)<|.v 1)<|.n 1) rfl)<|s2.wid (af (au _ _) (.v 0) (.v 1) (.p 0 1) (.p 1 1) j rfl) (Qg _)<|aK (au _ _) (.p 0 1) (.a (.a (.v 1)<|.v 0)<|.n 1) rfl;exact⟨M,N.mono (Qk _)<|aK (ai _) (.a (.a (.m 14<|.v 0)<|.n 13)<|.n 8) (.a (.m 14<|.p 0 1)<|.n 16) rfl,(L.rr<|aO (aH _ _ _) (.a (.v 0)<|.m 2<|.p 1 1) (.n 20) (.n 20) (.a (.v 2)<|.m 2<|.v 1) (.v 0) (.v 2) (bW<|aO (ai _) (.v 0) (.n 4) (.v 0) (.n 4) (.m 2<|.p 0 1) (.n 20) i i rfl) (cF _ _) rfl).wid (Qg _) (Qg _)<|aK (au _ _) (.a (.a (.a (.v 0)<|.v 1)<|.n 1)<|.n 3) (.a (.a (.v 0)<|.v 1)<|.n 4) rfl⟩
end
section
variable{K:Kc}{n D lo hi R k NV ht hh B u b:Nat}{q okl:Bool}
theorem A6(P:Ix):P.pre 0=P:=by cases P<;>rfl
noncomputable abbrev ft(l1 l2:Nat)(x1 x2 v:AV):AV:=.tup [.int 3,.tup [fP l1 x1,fP l2 x2,v],.int 0]
theorem lM(l:Int)(x:AV):cq<|fP l x:=eH
theorem rM(i:0<a/\a<NV)(m:0<c/\c<NV)(w:v1.ok NV)(t:v2.ok NV)(o:cq v)(f:15<=hh)(d:hh<=149)(p:Pt v M NV q ht<|hh+1):(bN v=true->Pt (.tup [.int 93,ft a c v1.av v2.av v]) (ic [aV<|cS a v1,aV<|cS c v2,M]) NV q ht (hh+4))/\(bN v=false->∃A,M=aV A/\bp (ft a c v1.av v2.av v) (gh [cS a v1,cS c v2,A]) NV (hh+4) q):=by
  haveI h:bp (fP a v1.av) (cS a v1) NV (hh+1) q:=(m9 i.1 i.2 w).mono<|af (ai _) (.n 15) (.v 0) (.n 16) (.p 0 1) f rfl;haveI j:bp (fP c v2.av) (cS c v2) NV (hh+1) q:=(m9 m.1 m.2 t).mono<|af (ai _) (.n 15) (.v 0) (.n 16) (.p 0 1) f rfl;refine⟨λy=>.inl ⟨_,rfl,qY (.cons (.inr ⟨_,qs (lM _ _) rfl,h.mono<|af (ai _) (.v 0) (.n 149) (.p 0 1) (.n 150) d rfl,rfl⟩)<|.cons (.inr ⟨_,qs (lM _ _) rfl,j.mono<|af (ai _) (.v 0) (.n 149) (.p 0 1) (.n 150) d rfl,rfl⟩)<|.cons (p.part o<|af (ai _) (.v 0) (.n 149) (.p 0 1) (.n 150) d rfl) .nil)<|bL rfl⟩,λx=>?_⟩;obtain⟨A,r,rfl⟩:=p.flat x;refine⟨A,rfl,ny (.cons h<|.cons j<|.cons r .nil) (λs e=>?_)<|bL rfl⟩;rcases P7 e with rfl|e;·exact jo<|lM _ _
  · rcases P7 e with rfl|e;·exact jo<|lM _ _
    ·cases P9 e;exact jo o
noncomputable def mH(m:Nat)(now:Nat)(v:AV):AV:=bJ (ft now (now+1) (xH<|.int 1) (xH<|.int<|(m:Int)-1)<|bJ (.tup [.int 5,xL now,bJ (ft now (now+1) (xL (now+1:Nat)) (xH<|.int 0) v) [v]]) [v]) [v]
theorem GR(G:m=1\/m=2)(N:cq v)(p:Pt v M NV q ht<|hh+1)(h:15<=hh)(c:hh<=130)(j:2<n+1)(J:n+2<NV)(i:n+3<=hi)(s:aS M L (n+3) hi b R q):kZ (mH m (n+1) v) (dG L m) q ht (hh+12) (n+1) hi (2*b+50) R NV:=by haveI f:0<n+1/\n+1<NV:=⟨Nat.succ_pos _,af (au _ _) (.a (.p 0 2)<|.n 1) (.v 1) (.a (.p 0 1)<|.n 1) (.v 1) J rfl⟩;haveI o:0<n+1+1/\n+1+1<NV:=⟨Nat.succ_pos _,af (au _ _) (.a (.p 0 2)<|.n 1) (.v 1) (.a (.a (.p 0 1)<|.n 1)<|.n 1) (.v 1) J rfl⟩;refine(rM (v1:=.l<|n+1+1) (v2:=.k 0) f o o trivial N h (af (ai _) (.v 0) (.n 130) (.v 0) (.n 149) c rfl) p).elim λH I=>?_;delta mH;cases d:bN v with|true=>refine Rr (dI d)<|Rr (dI d)<|Rr (dI d) ?_;haveI w:=Io f.1 f.2 ((H d).part eH<|af (ai _) (.v 0) (.n 130) (.p 0 4) (.n 150) c rfl) 3;haveI F:=(rM (v1:=.k 1) (v2:=.k<|m-1) f o trivial trivial eH (af (ai _) (.n 15) (.v 0) (.n 15) (.p 0 8) h rfl) (af (ai _) (.v 0) (.n 130) (.p 0 8) (.n 149) c rfl)<|.inl ⟨_,rfl,w⟩).1 rfl;refine⟨_,F,aS.eqB (λcx e=>.inr<|q8 _ cx e)<|(vW s j i (ic [aV<|cS (n+1)<|.l<|n+1+1,aV<|cS (n+1+1)<|.k 0,M]) (λcx e=>(q8 _ cx e).trans (A6 _).symm) (λcx e=>(IU _ _ 3 cx e).trans (A6 _).symm) G).wid (Qg _) (Qg _)<|aK (ai _) (.a (.a (.a (.a (.a (.m 2<|.a (.v 0)<|.a (.a (.a (.m 4<|.n 1)<|.n 6)<|.n 0)<|.n 2)<|.n 2)<|.n 1)<|.n 0)<|.m 4<|.n 1)<|.n 6) (.a (.m 2<|.v 0)<|.n 50) rfl⟩|false=>refine Rr (dI d)<|Rr (dI d)<|Rr (dI d) ?_;clear p H;obtain⟨A,rfl,P⟩:=I d;clear I;obtain⟨g,rfl⟩:∃g,hh=g+15:=⟨hh-15,Nat.le_antisymm (af (au _ _) (.v 0) (.p 1 15) (.v 0) (.p 1 15) (cF _ _) rfl)<|af (au _ _) (.p 0 15) (.v 1) (.p 0 15) (.v 1) (bW<|af (ai _) (.n 15) (.v 0) (.n 15) (.v 0) h rfl) rfl⟩;haveI w:=Kl (k:=3) f.1 f.2 P<|bL rfl;refine((rM (v1:=.k 1) (v2:=.k<|m-1) f o trivial trivial eH (aK (ai _) (.n 15) (.a (.p 0 15)<|.n 8) rfl) (af (ai _) (.p 0 15) (.n 130) (.a (.p 0 15)<|.n 8) (.n 149) c rfl) (.inr ⟨_,rfl,w.mono<|aK (ai _) (.a (.p 0 13)<|.n 8) (.a (.a (.p 0 15)<|.n 8)<|.n 1) rfl,rfl⟩:Pt (.tup [.int 5,xL (n+1:Nat),ft (n+1) (n+1+1) (xL (n+1+1:Nat)) (xH<|.int 0) v]) (aV<|B8 (n+1) (gh [cS (n+1)<|.l<|n+1+1,cS (n+1+1)<|.k 0,A]) 3) NV q ht<|g+15+8+1)).2 rfl).elim λO r=>r.elim λy F=>?_;refine⟨_,.inr ⟨_,rfl,F,rfl⟩,aS.eqB (λcx e=>rK _ cx e) ?_⟩;refine(?_:aS (λcx e=>(gM 0 [aV _,aV _,aV O] cx e).pre 1) _ _ _ _ _ _);refine Rl y ?_;haveI z:=vW s j i (aV<|gh [cS (n+1)<|.l<|n+1+1,cS (n+1+1)<|.k 0,A]) (λcx e=>congrArg (Ix.pre 1)<|rJ _ cx e) (λcx e=>congrArg (Ix.pre 1)<|IV _ _ 3 cx e) G;exactλC T x Q t U w e s j=>aA.mono (aA.pre<|z C T x Q t U w e s j)<|aK (ai _) (.a (.a (.a (.a (.a (.a (.m 2<|.a (.v 0)<|.a (.a (.a (.m 4<|.n 0)<|.n 6)<|.n 1)<|.n 1)<|.n 1)<|.n 0)<|.n 1)<|.m 4<|.n 0)<|.n 6)<|.n 1) (.a (.m 2<|.v 0)<|.n 50) rfl
theorem GS{m:Nat}(G:m=1\/m=2)(hB:cU k q o V y J)(A:o.length<=1000)(g:k<=4):Tr (k+1) (.tup [.str zs37,.int m,.fl o]) (dG (a8 V) m) q (y+2)<|2*J+52:=by
  refine(hB.part A<|af (ai _) (.v 0) (.n 4) (.v 0) (.n 5) g rfl).elim λP Z=>?_;refine⟨(EL P<|by lia).mono<|aK (ai _) (.a (.a (.m 10<|.v 0)<|.n 3)<|.n 1) (.a (.m 10<|.p 0 1)<|.n 2) rfl,λK n I i=>?_⟩;obtain⟨v,n',r,l,Y,h,F⟩:=Z K (n+2) (aK (ai _) (.n 2) (.p 0 2) rfl)<|af (au _ _) (.a (.v 0)<|.p 1 2) (.n 10000) (.a (.p 0 2)<|.v 1) (.n 10000) i rfl;refine⟨mH m (n+1) v,n',λD=>?_,af (au _ _) (.p 0 2) (.v 1) (.v 0) (.v 1) l rfl,af (aH _ _ _) (.v 0) (.a (.p 1 2)<|.v 2) (.v 0) (.a (.v 1)<|.p 2 2) Y rfl,j6,λNV t=>?_⟩
  · haveI r:=jI (D:=D) (c:=12) r;haveI X:=mF K (D+(10*k+10))<|af (au _ _) (.a (.v 0)<|.p 1 2) (.n 10000) (.v 0) (.n 10000) i rfl;haveI l2:=mF K (D+(10*k+10))<|af (au _ _) (.a (.v 0)<|.p 1 2) (.n 10000) (.p 0 1) (.n 10000) i rfl;haveI f:∀s p,cq p->rn (D+(10*k+11)+1) false 1660 [s,.tup [p]] (ks K n')=.ok (bJ s [p]) (ks K n'):=λs p hp=>kb s (λx L=>Rr (P9 L) hp)<|ks K n';haveI e1:=jH (D:=D+(10*k+11)) (n+1) (xL<|n+1+1)<|ks K n';haveI e2:=jH (D:=D+(10*k+11)) (n+1+1) (xH<|.int 0)<|ks K n';haveI U:=jH (D:=D+(10*k+11)) (n+1) (xH<|.int 1)<|ks K n';haveI H:=jH (D:=D+(10*k+11)) (n+1+1) (xH<|.int<|m-1)<|ks K n';haveI z:=f (ft (n+1) (n+1+1) (xL<|n+1+1) (xH<|.int 0) v) v h;haveI N:=f (.tup [.int 5,xL<|n+1,bJ (ft (n+1) (n+1+1) (xL<|n+1+1) (xH<|.int 0) v) [v]]) v h;haveI w:=f (ft (n+1) (n+1+1) (xH<|.int 1) (xH<|.int<|m-1)<|bJ (.tup [.int 5,xL<|n+1,bJ (ft (n+1) (n+1+1) (xL<|n+1+1) (xH<|.int 0) v) [v]]) [v]) (bJ (.tup [.int 5,xL<|n+1,bJ (ft (n+1) (n+1+1) (xL<|n+1+1) (xH<|.int 0) v) [v]]) [v]) j6;haveI e:bJ (ft (n+1) (n+1+1) (xH<|.int 1) (xH<|.int<|m-1)<|bJ (.tup [.int 5,xL<|n+1,bJ (ft (n+1) (n+1+1) (xL<|n+1+1) (xH<|.int 0) v) [v]]) [v]) [bJ (.tup [.int 5,xL<|n+1,bJ (ft (n+1) (n+1+1) (xL<|n+1+1) (xH<|.int 0) v) [v]]) [v]]=mH m (n+1) v:=by delta mH;cases d:bN v with|true=>refine Rr (dI d)<|Rr (dI d)<|Rr (dI d) ?_;rfl|false=>refine Rr (dI d)<|Rr (dI d)<|Rr (dI d) ?_;rfl
    rw[e]at w;exact ak<|ah (.C 14 X<|.C 0 l2<|.C 1 r<|.C 0 e1<|.C 0 e2<|.C 0 z<|.C 0 N<|.C 0 U<|.C 2 H<|.C 0 w .nil) 0 ae
  ·obtain⟨M,p,s⟩:=F NV t;obtain⟨O,T,Q⟩:=GR G h p (aK (ai _) (.n 15) (.a (.m 14<|.v 0)<|.n 18) rfl) (by lia) (af (ai _) (.n 2) (.v 0) (.n 3) (.p 0 1) I rfl) (aO (aH _ _ _) (.p 0 2) (.v 1) (.p 1 1) (.v 2) (.a (.p 0 2)<|.n 1) (.v 2) l t rfl) (af (au _ _) (.p 0 2) (.v 1) (.p 0 3) (.p 1 1) l rfl) s;exact⟨O,T.mono (Qk _)<|aK (ai _) (.a (.a (.m 14<|.v 0)<|.n 18)<|.n 12) (.a (.m 14<|.p 0 1)<|.n 16) rfl,(Q.rr<|aO (aH _ _ _) (.a (.v 0)<|.m 2<|.p 1 1) (.n 20) (.n 20) (.a (.v 2)<|.m 2<|.v 1) (.v 0) (.v 2) (bW<|aO (ai _) (.v 0) (.n 4) (.v 0) (.n 4) (.m 2<|.p 0 1) (.n 20) g g rfl) (cF _ _) rfl).wid (Qg _) (Qg _)<|aK (ai _) (.a (.m 2<|.p 0 1)<|.n 50) (.a (.m 2<|.v 0)<|.n 52) rfl⟩
end
section
variable{K:Kc}{n D lo hi R k NV ht hh B u b bl c:Nat}{q okl:Bool}{L:Ls}
theorem EP{I LL:LS}(M:aS A I lo hi b R q)(X:jS (some p) (some LL) lo hi bl R q):aS (mj c A []<|some p) (iZ I LL) lo hi (b+(bl+2*c)+c) R q:=by
  intro d F i z y H w e s h;haveI U:fm ((e.sn+1,[])::d) F lo hi R:=⟨z.al,λp hp r v=>by
    rcases P7 hp with rfl|hp;·cases v
    ·exact z.xs p hp r v,by show 0+i0 d<=R;rw[Nat.zero_add];exact z.rn⟩;haveI Z:fq ((e.sn+1,[])::d) F w e.n_ s:=⟨h.eg,Int.le_trans h.w<|Int.ofNat_le.mpr<|Qk _,λp hp=>by
    rcases P7 hp with rfl|hp;·exact Int.le_refl _
    ·exact Int.le_trans (h.o1 p hp)<|Int.ofNat_le.mpr<|Qk _,h.o2,h.sr⟩;have x:∀{t n m e1 lg G},Am (cj ((e.sn+1,[])::d) F lo hi w e.n_ s) t n m e1 lg G->Am (cj d F lo hi w e s) t n m e1 lg G:=λC=>by
    refine⟨C.th,C.eg,λl hl=>C.fr l λO=>hl ?_,C.sn,Qh (Qk _) C.s0,C.sr,C.wq.imp id λk=>Int.lt_of_le_of_lt (Int.ofNat_le.mpr<|Qk _) k,C.wl⟩;rcases O with k|k|k|⟨p,hp,r,v,k⟩;·exact .inl k
    ·exact .inr<|.inl k
    ·exact .inr<|.inr<|.inl k
    · rcases P7 hp with rfl|hp;·cases v
      ·exact .inr<|.inr<|.inr ⟨p,hp,r,v,k⟩
  refine aA.pre<|aA.sn (Qk _)<|aA.bind x (λt n m e1 lg G o o' C J=>?_) _ _ b _ _<|M _ _ i U y H w e.n_ s Z;haveI V:fL c (e.sn+1) [] (some p) d i m e1 o=eP c (some p) d i m e1 o:=by
    rcases J with⟨rfl,N,Q⟩|⟨it,g,r,Y,a,rfl,rfl,P,T⟩;·clear N;cases o<;>first|rfl|exact absurd rfl<|Q _ _ _
    · refine if_neg λk=>?_;subst k;rcases T.num.1 with k|⟨p,hp,k⟩
      · rcases C.wq with j|j;·haveI:=h.w;haveI j:m=w:=j;lia
        ·haveI j:e.sn+1<m:=j;lia
      ·haveI:=h.o1 p<|gV hp;lia
  refine Rr V ?_;exact nh X z y H h (x C) J
theorem rN{ts:List AV}{Ls:List LS}(H:aL (Sm q okl) ts Ls):Wq 3 (.fl ts) (a8 Ls) q:=Co<|H.mono λa a h=>h.w
theorem IZ(H:∀A∈d,Lp A):Lp<|hU d:=by induction d with|nil=>exactλa a a a a a=>rfl|cons A d f=>intro cx e;haveI i:=H A Qj cx e;haveI f:=f λA o=>H A<|Ql _ o;refine(?_:(jD (A cx e)<|hU d cx).2.2=.nx->∀l:Int,l≠1->l≠2->(jD (A cx e)<|hU d cx).2.1.g l=e.g l);revert i;generalize A cx e=z;obtain⟨s,e1,r⟩:=z;cases r with|nx=>exactλi p l m j=>(f cx e1 p l m j).trans<|i rfl l m j|_=>exactλa h=>by injection h
theorem I1(H:∀A∈a,Lp A):Lp<|gh a:=λcx e h=>IZ H cx e h
theorem rO{ts:List AV}{Ls:List LS}(H:aL (Sm q okl) ts Ls):∀cx s,∃lg g o,a8 Ls cx s=.dn lg g o/\(okl=true->pE o=true):=by induction H with|nil=>exactλcx s=>⟨_,_,_,rfl,λw=>rfl⟩|@cons t L ts Ls h _ l=>intro cx s;obtain⟨lg,e,d,e1,m⟩:=h.f cx s;refine(?_:∃lg g o,Iy.bind _ (L cx s)=_/\_);refine Rr e1 ?_;refine(?_:∃i g o,(bif aR d then Iy.dn lg e d else Iy.pre lg<|bif gL d then a8 Ls cx e else Iy.dn [] e d)=Iy.dn i g o/\(okl=true->pE o=true));obtain⟨p,r,v,e2,j⟩:=l cx e;refine Rr e2 ?_;clear e1;cases d<;>exact⟨_,_,_,rfl,λh=>by first|exact j h|exact m h⟩
structure Cp(ts:List AV)(L:LS)(q:Bool)(vs:List AV)(A:FS):Prop where
 r:∀(K:Kc)(D n:Nat),rn (D+5) false 1665 [KD,.fl ts] (ks K n)=.ok (.tup [.int 3,.tup vs,.int 0]) (ks K n)x:∀N,2<N->bp (.tup [.int 3,.tup vs,.int 0]) A N 19 q
 s:∀lo hi R,aS (aV A) L lo hi (ts.length*(R+4)+1) R q
 l:Lp A
theorem qD{ts:List AV}{Ls:List LS}(H:aL (Sm q okl) ts Ls)(hl:ts.length<=1000):∃vs A,Cp ts (a8 Ls) q vs A:=by
 haveI C:∃(vs:List AV)(d:List FS),(∀K n,jT K 3 ts n vs n)/\vs.length=ts.length/\(∀v∈vs,cq v)/\vs.any bN=false/\(∀N,2<N->aL (λv A=>bp v A N 16 q) vs d)/\(∀lo hi R,∃B,B<=ts.length*(R+4)/\eA lo hi R q 0 (d.map aV) Ls B)/\∀A∈d,Lp A:=by clear hl;induction H with|nil=>exact⟨[],[],λK n=>.nil n,rfl,λv h=>absurd h Qr,rfl,λN M=>.nil,λlo hi R=>⟨0,Nat.zero_le _,.nil⟩,λA h=>absurd h Qr⟩|@cons t L ts Ls h _ T=>
   obtain⟨v,A,Q,r2,Z,O,X,P⟩:=h.r;obtain⟨vs,d,F,j,i,G,m,o,z⟩:=T;refine⟨v::vs,A::d,λK n=>.cons (λD=>Q K D n)<|F K n,congrArg (λM=>M+1) j,λw hw=>(P7 hw).elim (λe=>Rr e r2)<|i w,?_,λN g=>.cons (O N g)<|m N g,λlo hi R=>?_,λB hB=>(P7 hB).elim (λe=>Rr e P)<|z B⟩;·show(bN v||vs.any bN)=false;refine Rr Z<|Rr G ?_;rfl
   ·obtain⟨B,l,x⟩:=o lo hi R;exact⟨_,by rw[List.length_cons,Nat.succ_mul];exact af (aH _ _ _) (.v 0) (.v 1) (.a (.a (.p 2 4)<|.v 0)<|.n 0) (.a (.v 1)<|.p 2 4) l rfl,.cons (X lo hi R) x⟩
 obtain⟨vs,d,F,j,i,G,m,o,z⟩:=C;refine⟨vs,gh d,λK D n=>?_,λN g=>ny (m N g) (λv U=>jo<|i v U)<|Rr j hl,λlo hi R=>?_,I1 z⟩;·haveI:=zI (D:=D) (F K n) hl i<|Rr j hl;unfold bJ at this;rw[G]at this;exact this
 ·obtain⟨B,l,x⟩:=o lo hi R;exact aS.eqB (λcx e=>rK d cx e) λJ V y hR I hq w e s Y=>aA.mono (aA.pre<|q7 x J V y hR I hq w e s Y)<|Nat.succ_le_succ l
theorem yv{H LL:List LS}(hA:cU k q Q H U BA)(F:aL (Sm q okl) T LL)(la:Q.length<=1000)(J:T.length<=2)(g:k<=4):Tr (k+1) (.tup [.str ⟨#[116,114,121]⟩,.fl Q,.fl T]) (iZ (a8 H)<|a8 LL) q U<|BA+55:=by
  refine(hA.part la<|af (ai _) (.v 0) (.n 4) (.v 0) (.n 5) g rfl).elim λwA rA=>?_;obtain⟨vs,A,hp⟩:=qD F<|af (ai _) (.v 0) (.n 2) (.v 0) (.n 1000) J rfl;refine⟨(IK wA<|(rN F).mono<|aK (ai _) (.n 3) (.a (.m 10<|.v 0)<|.n 3) rfl).mono<|aK (ai _) (.a (.a (.m 10<|.v 0)<|.n 3)<|.n 2) (.a (.m 10<|.p 0 1)<|.n 2) rfl,λK n O Z=>?_⟩;obtain⟨y,n',t,G,a2,P,Y⟩:=rA K n O Z;refine⟨bJ (aW y []<|.tup [.int 3,.tup vs,.int 0]) [y],n',λD=>?_,G,a2,j6,λNV I=>?_⟩;·haveI t:=jI (D:=D) (c:=12) t;haveI X:=tA (D:=D) (d':=10*k+12) (λD=>hp.r K D n')<|Qh (bL rfl)<|Nat.le_add_left 12 _;haveI hm:=kb (D:=D+(10*k+11)) (aW y []<|.tup [.int 3,.tup vs,.int 0]) (λp hp=>Rr (P9 hp) P)<|ks K n';exact ak<|ah (.C 15 t<|.C 3 X<|.C 0 hm .nil) 0 ae
  ·obtain⟨M,p,s⟩:=Y NV I;have N:=hp.x NV<|eh (aH _ _ _) (.n 2) (.v 0) (.v 0) (.v 1) (.p 1 1) (.v 2) (.n 3) (.v 2) O G I rfl;have f:jS (some ([.int 3,.tup vs,.int 0],A)) (some<|a8 LL) (n+1) (n'+1) 49 (20-2*k) q:=.inr ⟨_,_,rfl,rfl,hp.l,(hp.s _ _ _).wid (Qg _) (Qg _)<|by haveI:=Nat.mul_le_mul J<|show 20-2*k+4<=24 from af (ai _) (.v 0) (.n 20) (.p 0 4) (.n 24) (Nat.sub_le _ _) rfl;exact af (ai _) (.v 0) (.m 2<|.n 24) (.p 0 1) (.n 49) this rfl⟩;cases o:bN y with|true=>refine Rr (dI o) ?_;refine⟨_,.inl ⟨_,rfl,(Gx (p.part P<|by lia) λp' h=>?_).mono<|Qk _⟩,(aS.eqB (λcx e=>.inr<|GO _ _ cx e)<|(GH s f).rr<|aO (aH _ _ _) (.a (.v 0)<|.m 2<|.p 1 1) (.n 20) (.n 20) (.a (.v 2)<|.m 2<|.v 1) (.v 0) (.v 2) (bW<|aO (ai _) (.v 0) (.n 4) (.v 0) (.n 4) (.m 2<|.p 0 1) (.n 20) g g rfl) (cF _ _) rfl).wid (Qg _) (Qg _)<|aK (ai _) (.a (.a (.p 0 1)<|.a (.n 49)<|.m 2<|.n 1)<|.n 1) (.p 0 55) rfl⟩;haveI h:=sI h;subst h;exact⟨⟨3,_,rfl,rfl,bL rfl⟩,N.mono<|bL rfl⟩|false=>
      refine Rr (dI o) ?_;obtain⟨A',hX,rfl⟩:=p.flat o;refine⟨_,.inr ⟨_,rfl,(wW (L:=some ([.int 3,.tup vs,.int 0],A)) hX (bL rfl) (λp h=>absurd h Qr) λp' h=>?_).mono<|aK (ai _) (.a (.a (.m 14<|.v 0)<|.n 17)<|.n 5) (.a (.m 14<|.p 0 1)<|.n 16) rfl,rfl⟩,aS.eqB (λcx e=>ym _ _ _ cx e) ?_⟩;·haveI h:=sI h;subst h;exact N.mono<|aK (ai _) (.n 19) (.a (.a (.m 14<|.v 0)<|.n 17)<|.n 3) rfl
      ·exactλi op z hR j V w e s' h0=>aA.mono (aA.pre<|(EP s f).rr (aO (aH _ _ _) (.a (.v 0)<|.m 2<|.p 1 1) (.n 20) (.n 20) (.a (.v 2)<|.m 2<|.v 1) (.v 0) (.v 2) (bW<|aO (ai _) (.v 0) (.n 4) (.v 0) (.n 4) (.m 2<|.p 0 1) (.n 20) g g rfl) (cF _ _) rfl) i op z hR j V w e s' h0)<|aK (ai _) (.a (.a (.a (.p 0 1)<|.a (.n 49)<|.m 2<|.n 0)<|.n 0)<|.n 1) (.p 0 55) rfl
end
section
variable{K:Kc}{n D lo hi R k NV ht hh B u b bl c:Nat}{q okl:Bool}{L:Ls}
structure Cr where
 r:Lr
 L:LS
 vs:List AV
 A:FS
structure Cr.ok(d:Cr):Prop where
 of:d.r.of=0\/d.r.of=1\/d.r.of=2
 p:Cp d.r.bd d.L true d.vs d.A
 w:Wq 3 (.fl d.r.bd) d.L true
 l:d.r.bd.length<=2
noncomputable def mI(of:Int):Int:=if of=0 then 16 else if of=1 then 17 else-1
noncomputable def Cr.hw(d:Cr)(x:Nat):Hw:=⟨mI d.r.of,x,d.r.wh,bif d.r.kp then[fP 2<|xL x,.tup [.int 3,.tup d.vs,.int 0]]else d.vs⟩
noncomputable def Cr.fs(d:Cr)(x:Nat):FS:=bif d.r.kp then gh [cS 2<|.l x,d.A]else d.A
noncomputable def eW:List Cr->Nat->List (Hw×FS)|[],_=>[]|d::r,n=>(d.hw<|n+1,d.fs<|n+1)::eW r (n+1)
noncomputable abbrev K9:dc:=d4 1672 59<|aa (bI 1672) 10
noncomputable abbrev lc(t body:AV)(acc:List AV):aq:=[(Mj.Internal.q "k",KD),(Mj.Internal.q "t",t),(Mj.Internal.q "body",body),(Mj.Internal.q "rows",.fl acc)]
theorem GU(h:a=0\/a=1\/a=2):(if aE [AV.int 16,.int 17,.int<|-1]=true then(seqIndex? a [AV.int 16,.int 17,.int<|-1].length).bind<|aa [AV.int 16,.int 17,.int<|-1]else none)=some (.int<|mI a):=by rcases h with rfl|rfl|rfl<;>kernel_rfl
theorem DK(t body:AV):∀(g:List Cr)(f:List AV)(n:Nat),(∀d∈g,d.ok)->n+g.length<=10000->f.length+g.length<=1000->(bk K9 (g.map λd=>d.r.av) (lc t body f)<|ks K n).ev (rn<|D+7)=.go .next (lc t body<|f++((eW g n).map λJ=>J.1).map Hw.av) (ks K<|n+g.length):=by intro g;induction g with|nil=>intro f n _ _ _;refine(?_:_=S.go _ (lc t body<|f++[]) _);rw[Qc];rfl|cons d g ih=>intro f n y x z;rw[List.length_cons]at x z;haveI h:=y d Qj;haveI l:=ih (f++[(d.hw<|n+1).av]) (n+1) (λd h=>y d<|Ql _ h) (af (au _ _) (.a (.v 0)<|.p 1 1) (.n 10000) (.a (.p 0 1)<|.v 1) (.n 10000) x rfl) (by refine Rr Qa ?_;exact af (au _ _) (.a (.v 0)<|.p 1 1) (.n 1000) (.a (.p 0 1)<|.v 1) (.n 1000) z rfl);rw[Qd,show n+1+g.length=n+(g.length+1)from eR (au _ _) (.a (.p 0 1)<|.v 1) (.a (.v 0)<|.p 1 1) rfl]at l;haveI w:=mF K (D+5)<|af (au _ _) (.a (.v 0)<|.p 1 1) (.n 10000) (.v 0) (.n 10000) x rfl;haveI m:=h.p.r K (D+2)<|n+1;haveI s:=GU h.of;haveI o:(if aE f=true then some<|AV.fl<|f++[(d.hw<|n+1).av]else none)=some (.fl<|f++[(d.hw<|n+1).av]):=if_pos<|br<|af (au _ _) (.a (.v 0)<|.p 1 1) (.n 1000) (.p 0 0) (.n 300000) z rfl;haveI e:=jH (D:=D+6) 2 (xL (n+1:Nat))<|ks K<|n+1;obtain⟨⟨M,F,I,N⟩,L,vs,A⟩:=d;clear y h;cases I with
  |true=>cases F with|true=>exact bH (.C 0 w<|.C 0 m<|.C 1 e<|.V 2 s<|.V 1 o .nil) 0 l|false=>exact bH (.C 0 w<|.C 0 m<|.C 1 e<|.V 2 s<|.V 1 o .nil) 0 l
  |false=>cases F with|true=>exact bH (.C 0 w<|.C 0 m<|.V 3 s<|.V 1 o .nil) 0 l|false=>exact bH (.C 0 w<|.C 0 m<|.V 3 s<|.V 1 o .nil) 0 l
theorem yw(h:a=0\/a=1\/a=2):mI a=16/\a=0\/mI a=17/\a=1\/mI a=-1/\a=2:=by
 rcases h with rfl|rfl|rfl;·exact .inl ⟨rfl,rfl⟩
 ·exact .inr<|.inl ⟨rfl,rfl⟩
 ·exact .inr<|.inr ⟨rfl,rfl⟩
theorem I2{d:Cr}(h:d.ok)(R:Nat):d.r.bd.length*(R+4)<=2*(R+4):=Nat.mul_le_mul_right _ h.l
theorem I3{d:Cr}(h:d.ok)(N:2<x):tv (d.hw x,d.fs x) (d.r,d.L) lo hi (2*(R+4)+10) R:=by
 intro f H j G F w e s it C y M;haveI t:=λi k=>(P7 k).elim (λe=>Rr e C)<|F i;haveI I:=h.p.s lo hi R;haveI hl:=I2 h R;refine(?_:aA _ _ _ _ (aV (bif d.r.kp then _ else _) _ _)<|d.L _<|bif d.r.kp then _ else _);rcases d.r.kp with _|_;·exact aA.mono (I f H (it::j) G t (λJ k=>nomatch k) w e s y)<|af (au _ _) (.v 0) (.m 2<|.p 1 4) (.p 0 1) (.a (.m 2<|.p 1 4)<|.n 10) hl rfl
 ·haveI e1:aV (gh [cS 2<|.l x,d.A]) ⟨w,f,it::j⟩ e=(gM 0 [aV<|cS 2<|.l x,aV d.A] ⟨w,f,it::j⟩ e).pre 1:=congrArg (Ix.pre 1)<|rJ [cS 2<|.l x,d.A] ⟨w,f,it::j⟩ e;refine ?_;refine Rr e1 ?_;refine(?_:aA _ _ _ _ (Ix.pre 1<|Ix.pre 0<|Ix.pre 3<|Ix.pre 0<|Ix.bind (λw e o=>gK o (.dn 0 w e .nx)<|.dn 0 w e o)<|aV d.A ⟨w,f,it::j⟩<|e.s 2<|e.g x) _);refine Rr (funext λw=>funext λe=>funext λo=>qr o<|Ix.dn 0 w e)<|Rr M ?_;haveI A:Am (cj f H lo hi w e s) e.th e.sn w (e.s 2 it) [] ⟨s.a,it,s.sr⟩:=⟨(Qc _).symm,⟨(eJ (l:=2) (x:=it)<|bD rfl).trans y.eg.1,show eO e.g 2 it 2=it from if_pos rfl⟩,λl hl=>eJ λk=>hl<|.inr<|.inl k.symm,Qg _,Qg _,Int.le_refl _,.inl rfl,y.w⟩;haveI z:=aA.end (c:=0)<|I.nx G t (λJ k=>nomatch k) y A;exact aA.mono (aA.pre<|aA.pre<|aA.pre<|aA.pre z)<|af (au _ _) (.v 0) (.m 2<|.p 1 4) (.a (.a (.a (.a (.a (.p 0 1)<|.n 0)<|.n 0)<|.n 3)<|.n 0)<|.n 1) (.a (.m 2<|.p 1 4)<|.n 10) hl rfl
theorem yx:∀(f:List Cr)(n:Nat),(∀d∈f,d.ok)->2<=n->lo<=n+1->n+f.length<hi->∀{lo' e:Nat},e<=n+1->aL (Hr lo hi lo' e (2*(R+4)+10) R) (eW f n) (f.map λd=>(d.r,d.L))|[],n,_,_,_,_,_,_,_=>.nil|d::f,n,h,i,o,l,lo',e,j=>by haveI m:=h d Qj;refine .cons ⟨⟨rfl,yw m.of⟩,af (ai _) (.n 2) (.v 0) (.n 3) (.p 0 1) i rfl,⟨o,af (aH _ _ _) (.a (.a (.v 0)<|.p 1 1)<|.n 1) (.v 2) (.a (.p 0 1)<|.n 1) (.v 2) l rfl⟩,λk=>Nat.not_lt_of_le j k.2,I3 m<|af (ai _) (.n 2) (.v 0) (.n 3) (.p 0 1) i rfl⟩<|yx f (n+1) (λd k=>h d<|Ql _ k) (af (ai _) (.n 2) (.v 0) (.n 2) (.p 0 1) i rfl) (af (au _ _) (.v 0) (.p 1 1) (.v 0) (.a (.p 1 1)<|.n 1) o rfl) (af (aH _ _ _) (.a (.a (.v 0)<|.p 1 1)<|.n 1) (.v 2) (.a (.a (.p 0 1)<|.v 1)<|.n 1) (.v 2) l rfl)<|af (au _ _) (.v 0) (.p 1 1) (.v 0) (.a (.p 1 1)<|.n 1) j rfl
theorem NJ:∀(f:List Cr)(n:Nat),(∀d∈f,d.ok)->2<=n->n+f.length<NV->∀p∈eW f n,p.1.ok NV/\bp (.tup [.int 3,.tup p.1.ps,.int 0]) p.2 NV 22 true:=by intro f;induction f with|nil=>exactλn h i g p hp=>absurd hp Qr|cons d f ih=>
    intro n h i g p hp;haveI t:=h d Qj;rcases P7 hp with rfl|hp
    · refine⟨⟨?_,Nat.succ_pos _,af (aH _ _ _) (.a (.a (.v 0)<|.p 1 1)<|.n 1) (.v 2) (.a (.p 0 1)<|.n 1) (.v 2) g rfl⟩,?_⟩
      · rcases yw t.of with k|k|k;·exact .inl k.1
        ·exact .inr<|.inl k.1
        ·exact .inr<|.inr k.1
      · haveI m:=t.p.x NV<|aO (aH _ _ _) (.n 2) (.v 0) (.a (.a (.v 0)<|.p 1 1)<|.n 1) (.v 2) (.n 3) (.v 2) i g rfl;show bp (.tup [.int 3,.tup<|bif d.r.kp then _ else _,.int 0]) (bif d.r.kp then _ else _) NV 22 true;rcases d.r.kp with _|_;·exact m.mono<|bL rfl
        · haveI w:bp (fP 2 (Vm.l<|n+1).av) (cS 2<|.l<|n+1) NV 19 true:=(m9 (v:=.l<|n+1) (bL rfl) (aO (aH _ _ _) (.n 2) (.v 0) (.a (.a (.v 0)<|.p 1 1)<|.n 1) (.v 2) (.n 3) (.v 2) i g rfl) ⟨Nat.succ_pos _,af (aH _ _ _) (.a (.a (.v 0)<|.p 1 1)<|.n 1) (.v 2) (.a (.p 0 1)<|.n 1) (.v 2) g rfl⟩).mono<|bL rfl;refine ny (.cons w<|.cons m .nil) (λs j=>?_)<|bL rfl;rcases P7 j with rfl|j;·exact jo<|lM _ _
          ·cases P9 j;exact jo eH
    ·exact ih (n+1) (λd k=>h d<|Ql _ k) (af (ai _) (.n 2) (.v 0) (.n 2) (.p 0 1) i rfl) (af (aH _ _ _) (.a (.a (.v 0)<|.p 1 1)<|.n 1) (.v 2) (.a (.a (.p 0 1)<|.v 1)<|.n 1) (.v 2) g rfl) p hp
theorem lF:∀(d:List Cr)(n:Nat),(eW d n).length=d.length|[],_=>rfl|_::d,n=>congrArg (λe=>e+1)<|lF d<|n+1
theorem I4{f:List Cr}{LL:Option LS}(hA:cU k q ta LA ua BA)(la:ta.length<=1000)(Q:∀d∈f,d.ok)(Y:0<f.length)(j:f.length<=2)(hL:last=.none/\LL=none\/∃t Ls,last=.fl t/\LL=some (a8 Ls)/\aL (Sm q okl) t Ls/\t.length<=2)(H:k<=4):Tr (k+1) (jG ta (f.map λd=>d.r) last) (kG (a8 LA) (f.map λd=>(d.r,d.L)) LL) q (ua+2)<|BA+150:=by
  refine(hA.part la<|af (ai _) (.v 0) (.n 4) (.v 0) (.n 5) H rfl).elim λwA rA=>?_;haveI e1:(f.map λd=>(d.r,d.L)).map (λg=>g.1)=f.map λd=>d.r:=by refine Rr List.map_map ?_;rfl
  haveI J:∃z:Ls,Wl (10*k+3) last LL q/\(∀(K:Kc)(D n:Nat),last=.none/\z=none\/∃t,last=.fl t/\rn (D+5) false 1665 [KD,.fl t] (ks K n)=.ok z.av (ks K n)/\∃p,z=some p)/\(∀NV,2<NV->∀p,z=some p->mB (.tup p.1)/\bp (.tup p.1) p.2 NV 19 q)/\∀lo hi,jS z LL lo hi 49 (18-2*k) q:=by
    rcases hL with⟨rfl,rfl⟩|⟨t,Ls,rfl,rfl,hS,hl⟩;·exact⟨none,.inl ⟨rfl,rfl⟩,λK D n=>.inl ⟨rfl,rfl⟩,λNV g p h=>by injection h,λlo hi=>.inl ⟨rfl,rfl⟩⟩
    ·obtain⟨vs,A,hp⟩:=qD hS<|af (ai _) (.v 0) (.n 2) (.v 0) (.n 1000) hl rfl;refine⟨some ([.int 3,.tup vs,.int 0],A),.inr ⟨t,_,rfl,rfl,(rN hS).mono<|aK (ai _) (.n 3) (.a (.m 10<|.v 0)<|.n 3) rfl⟩,λK D n=>.inr ⟨t,rfl,hp.r K D n,_,rfl⟩,λNV F p h=>?_,λlo hi=>.inr ⟨_,_,rfl,rfl,hp.l,(hp.s _ _ _).wid (Qg _) (Qg _)<|by haveI:=Nat.mul_le_mul hl<|show 18-2*k+4<=24 from af (ai _) (.v 0) (.n 18) (.p 0 4) (.n 24) (Nat.sub_le _ _) rfl;exact af (ai _) (.v 0) (.m 2<|.n 24) (.p 0 1) (.n 49) this rfl⟩⟩;haveI h:=sI h;subst h;exact⟨⟨3,_,rfl,rfl,bL rfl⟩,hp.x NV F⟩
  obtain⟨z,wl,rl,xl,sl⟩:=J;refine⟨e1▸(IL wA (by rw[Qb,Qb];exact af (ai _) (.v 0) (.n 2) (.v 0) (.n 1000) j rfl) (λp hp=>?_) wl).mono (aK (ai _) (.a (.a (.m 10<|.v 0)<|.n 3)<|.n 2) (.a (.m 10<|.p 0 1)<|.n 2) rfl),λK n O hu=>?_⟩;·obtain⟨d,hd',rfl⟩:=List.mem_map.mp hp;exact(Q d hd').w.mono<|aK (ai _) (.n 3) (.a (.m 10<|.v 0)<|.n 3) rfl
  · obtain⟨y,n',r1,G,a2,a3,a4⟩:=rA K n O<|af (au _ _) (.a (.v 0)<|.p 1 2) (.n 10000) (.a (.v 0)<|.v 1) (.n 10000) hu rfl;haveI Z:(((eW f n').map λg=>g.1).map Hw.av).length=f.length:=by rw[Qb,Qb,lF]
    refine⟨bJ (aW y (((eW f n').map λg=>g.1).map Hw.av) z.av) [y],n'+f.length,λD=>?_,af (aH _ _ _) (.v 0) (.v 1) (.v 0) (.a (.v 1)<|.v 2) G rfl,aO (b8 _ _ _ _) (.v 0) (.a (.v 1)<|.v 2) (.v 3) (.n 2) (.a (.v 0)<|.v 3) (.a (.v 1)<|.p 2 2) a2 j rfl,j6,λNV F=>?_⟩
    · haveI r1:=jI (D:=D) (c:=12) r1;haveI hr:=DK (K:=K) (D:=D+(10*k+5)) (jG ta (f.map λd=>d.r) last) y f [] n' Q (eh (b8 _ _ _ _) (.v 0) (.a (.v 1)<|.v 2) (.v 3) (.n 2) (.a (.v 1)<|.p 2 2) (.n 10000) (.a (.v 0)<|.v 3) (.n 10000) a2 j hu rfl)<|af (ai _) (.v 0) (.n 2) (.a (.n 0)<|.v 0) (.n 1000) j rfl;rw[show f.map (λd=>d.r.av)=(f.map λd=>d.r).map Lr.av by refine Rr List.map_map ?_;rfl,List.nil_append]at hr;have hf:(if aE (((eW f n').map λg=>g.1).map Hw.av)=true then some<|AV.tup<|((eW f n').map λg=>g.1).map Hw.av else none)=some (.tup<|((eW f n').map λg=>g.1).map Hw.av):=if_pos<|br<|aO (au _ _) (.v 0) (.v 1) (.v 1) (.n 2) (.p 0 0) (.n 300000) (Qn Z) j rfl;have hm:=kb (D:=D+(10*k+11)) (aW y (((eW f n').map λg=>g.1).map Hw.av) z.av) (λp hp=>Rr (P9 hp) a3)<|ks K<|n'+f.length;refine ak ?_;clear hL wl xl sl;rcases rl K (D+(10*k+7))<|n'+f.length with⟨rfl,rfl⟩|⟨t,rfl,r2,p,rfl⟩;·exact ah (.C 15 r1<|.P 4 hr<|.V 1 hf<|.C 0 hm .nil) 0 ae
      ·exact ah (.C 15 r1<|.P 4 hr<|.C 2 r2<|.V 0 hf<|.C 0 hm .nil) 0 ae
    · obtain⟨M,p,s⟩:=a4 NV<|af (aH _ _ _) (.a (.a (.v 0)<|.v 1)<|.n 1) (.v 2) (.p 0 1) (.v 2) F rfl;have T:=NJ f n' Q (aO (au _ _) (.n 2) (.v 0) (.v 0) (.v 1) (.n 2) (.v 1) O G rfl) F;have I:((eW f n').map λg=>g.1).length<=1000:=by rw[Qb,lF];exact af (ai _) (.v 0) (.n 2) (.v 0) (.n 1000) j rfl
      haveI U:=yx (R:=18-2*k) f n' Q (aO (au _ _) (.n 2) (.v 0) (.v 0) (.v 1) (.n 2) (.v 1) O G rfl) (af (au _ _) (.v 0) (.v 1) (.p 0 1) (.p 1 1) G rfl) (aK (au _ _) (.a (.a (.v 0)<|.v 1)<|.n 1) (.a (.a (.v 0)<|.v 1)<|.n 1) rfl) (lo':=n+1)<|Qg _;haveI hne:((eW f n').map λg=>g.1).isEmpty=false:=by
        clear Q j e1 Z F T I U;rcases f with _|_;·exact absurd Y<|Nat.lt_irrefl _
        ·rfl
      have X:∀{c:Nat}{A:IS},c<=1->aS A (a8 LA) (n+1) (n'+1) (BA+1) (20-2*k) q->aS (mj c A (eW f n') z) (kG (a8 LA) (f.map λd=>(d.r,d.L)) LL) (n+1) (n'+f.length+1) (BA+148) (18-2*k) q:=λhc s=>(GL (k:=2) (R:=18-2*k) (s.rr<|aO (aH _ _ _) (.a (.v 0)<|.m 2<|.v 1) (.n 18) (.n 20) (.a (.v 2)<|.m 2<|.v 1) (.a (.n 2)<|.v 0) (.v 2) (bW<|aO (ai _) (.v 0) (.n 4) (.v 0) (.n 4) (.m 2<|.v 0) (.n 18) H H rfl) (cF _ _) rfl) (Qg _) (aK (au _ _) (.p 0 1) (.a (.a (.v 0)<|.v 1)<|.n 1) rfl) U (by rw[Qb,lF];exact j) hne<|sl _ _).wid (Qg _) (Qg _) (by lia);cases hc:bN y with|true=>refine Rr (dI hc) ?_;exact⟨_,.inl ⟨_,rfl,Gz (p.part a3<|by lia) (by rw[lF];exact Y) I (λp hp=>⟨(T p hp).1,(T p hp).2.mono<|bL rfl⟩) λp h=>⟨(xl NV (eh (b8 _ _ _ _) (.n 2) (.v 0) (.v 0) (.v 1) (.a (.a (.v 1)<|.v 2)<|.n 1) (.v 3) (.n 3) (.v 3) O G F rfl) p h).1,(xl NV (eh (b8 _ _ _ _) (.n 2) (.v 0) (.v 0) (.v 1) (.a (.a (.v 1)<|.v 2)<|.n 1) (.v 3) (.n 3) (.v 3) O G F rfl) p h).2.mono<|bL rfl⟩⟩,(aS.eqB (λcx e=>.inr<|GP _ _ _ cx e)<|(X (Qg 1) s).rr<|aO (aH _ _ _) (.a (.v 0)<|.m 2<|.p 1 1) (.n 20) (.n 18) (.a (.v 2)<|.m 2<|.v 1) (.v 0) (.v 2) (bW<|aO (ai _) (.v 0) (.n 4) (.v 0) (.n 4) (.m 2<|.p 0 1) (.n 20) H H rfl) (cF _ _) rfl).wid (Qg _) (Qg _)<|aK (ai _) (.p 0 148) (.p 0 150) rfl⟩|false=>refine Rr (dI hc) ?_;obtain⟨A',hX,rfl⟩:=p.flat hc;refine⟨_,.inr ⟨_,rfl,(wW (h:=14*k+20) (hX.mono<|aK (ai _) (.a (.m 14<|.v 0)<|.n 19) (.a (.a (.m 14<|.v 0)<|.n 20)<|.n 2) rfl) I (λp hp=>⟨(T p hp).1,(T p hp).2.mono<|aK (ai _) (.n 22) (.a (.a (.m 14<|.v 0)<|.n 20)<|.n 2) rfl⟩) λp h=>(xl NV (eh (b8 _ _ _ _) (.n 2) (.v 0) (.v 0) (.v 1) (.a (.a (.v 1)<|.v 2)<|.n 1) (.v 3) (.n 3) (.v 3) O G F rfl) p h).2.mono<|aK (ai _) (.n 19) (.a (.a (.m 14<|.v 0)<|.n 20)<|.n 3) rfl).mono<|aK (ai _) (.a (.a (.m 14<|.v 0)<|.n 20)<|.n 5) (.a (.m 14<|.p 0 1)<|.n 16) rfl,rfl⟩,aS.eqB (λcx e=>ym _ _ _ cx e) ?_⟩;exactλown op its hR hi' hq w e s' h0=>aA.mono (aA.pre<|(X (Nat.zero_le 1) s).rr (aO (aH _ _ _) (.a (.v 0)<|.m 2<|.p 1 1) (.n 20) (.n 18) (.a (.v 2)<|.m 2<|.v 1) (.v 0) (.v 2) (bW<|aO (ai _) (.v 0) (.n 4) (.v 0) (.n 4) (.m 2<|.p 0 1) (.n 20) H H rfl) (cF _ _) rfl) own op its hR hi' hq w e s' h0)<|aK (ai _) (.a (.p 0 148)<|.n 1) (.p 0 150) rfl
end
section
variable{q okl:Bool}
noncomputable def pF:MO->Bool|.stop=>true|.thr _ _ _=>true|_=>false
noncomputable def Iy.sp:Iy->Prop|dn _ _ o=>pF o=true|yl _ _ _ _=>False
noncomputable def Iy.qt:Iy->Prop|dn _ _ _=>True|yl _ _ _ k=>(k false).sp/\(k true).qt
noncomputable def Iy.fl:Iy->Prop|dn _ _ _=>True|yl _ _ _ _=>False
theorem Iy.pre_sp(l:List Int)(P:Iy):(P.pre l).sp=P.sp/\(P.pre l).qt=P.qt/\(P.pre l).fl=P.fl:=by cases P<;>exact⟨rfl,rfl,rfl⟩
theorem Iy.sp_bind(H:∀s o,pF o=true->(κ s o).sp){P:Iy}(h:P.sp):(P.bind κ).sp:=by
 rcases P with⟨l,s,o⟩|_;·show Iy.sp<|bif aR o then _ else _;refine Rr (show aR o=false by revert h;cases o<;>first|exactλc=>rfl|exactλh=>by exact fT h) ?_;show Iy.sp<|Iy.pre l<|κ s o;rw[(Iy.pre_sp l _).1];exact H s o h
 ·exact h.elim
theorem Iy.fl_bind(H:∀s o,(κ s o).fl){P:Iy}(h:P.fl):(P.bind κ).fl:=by
 rcases P with⟨l,s,o⟩|_;·
  show Iy.fl<|bif aR o then _ else _;cases aR o;·show Iy.fl<|Iy.pre l<|κ s o;rw[(Iy.pre_sp l _).2.2];exact H s o
  ·trivial
 ·exact h.elim
theorem Iy.qt_bind(H:∀s o,pF o=true->(κ s o).sp)(c:∀s o,(κ s o).qt){P:Iy}(h:P.qt):(P.bind κ).qt:=by induction P with
 |dn l s o=>
  show Iy.qt<|bif aR o then _ else _;cases aR o;·show Iy.qt<|Iy.pre l<|κ s o;rw[(Iy.pre_sp l _).2.1];exact c s o
  ·trivial|yl l s v k b=>exact⟨Iy.sp_bind H h.1,b true h.2⟩
theorem Iy.fl_qt{P:Iy}(h:P.fl):P.qt:=by
 rcases P with _|_;·trivial
 ·exact h.elim
noncomputable def Qt(L:LS):Prop:=∀cx s,(L cx s).qt
noncomputable def fu(L:LS):Prop:=∀cx s,(L cx s).fl
theorem Sm.fl(H:Sm q okl t L):fu L:=λcx s=>by obtain⟨lg,a,o,e,_⟩:=H.f cx s;refine Rr e ?_;trivial
theorem La(v:Vl):Qt<|fQ v:=λcx s=>by cases v<;>trivial
theorem I5{Ls:List LS}(H:∀L∈Ls,Qt L):Qt<|a8 Ls:=by induction Ls with|nil=>exactλb b=>trivial|cons L Ls d=>
    intro cx s;refine Iy.qt_bind (λs o h=>?_) (λs o=>?_)<|H L Qj cx s
    ·refine Rr (show gL o=false by revert h;cases o<;>first|exactλb=>rfl|exactλh=>by exact fT h) ?_;exact h
    · cases gL o;·trivial
      ·exact d (λL c=>H L<|Ql _ c) cx s
theorem I6{Ls:List LS}(H:∀L∈Ls,fu L):fu<|a8 Ls:=by induction Ls with|nil=>exactλa a=>trivial|cons L Ls c=>
  intro cx s;refine Iy.fl_bind (λs o=>?_)<|H L Qj cx s;cases gL o;·trivial
  ·exact c (λL b=>H L<|Ql _ b) cx s
theorem Lc(d:Qt A)(hB:Qt B):Qt<|ix c A B:=λcx s=>by
 show Iy.qt<|bif iF _ 1 then _ else _;cases iF (bif c then s.a else s.b) 1;·exact hB cx s
 ·exact d cx s
theorem w7(hB:Qt B):∀n,Qt<|dG B n
  |0=>λc c=>trivial|n+1=>λcx s=>by
    refine Iy.qt_bind (λs o h=>?_) (λs o=>?_)<|hB cx s
    ·refine Rr (show bZ o=false by revert h;cases o<;>first|exactλc=>rfl|exactλh=>by exact fT h) ?_;revert h;cases o<;>exactλh=>h
    · cases bZ o;·trivial
      ·exact w7 hB n cx s
noncomputable def Lq(L:LS):Prop:=∀cx s,∃lg s' o,L cx s=.dn lg s' o/\pE o=true
theorem ni(h:Lq L)(cx:LC)(s:Lw)(o:MO):(pF o=true->(iS (some L) cx s o).sp)/\(iS (some L) cx s o).fl:=by obtain⟨lg,f,d,e,k⟩:=h cx s;refine(?_:(_->Iy.sp (Iy.bind _<|L cx s))/\Iy.fl (Iy.bind _<|L cx s));refine Rr e ?_;revert k;clear e;cases d<;>first|exactλc=>⟨λh=>h,trivial⟩|exactλc=>⟨λc=>rfl,trivial⟩|exactλk=>by exact fT k
theorem I7(b:Qt A)(a:Lq L):Qt<|iZ A L:=λcx s=>Iy.qt_bind (λs o h=>(ni a cx s o).1 h) (λs o=>Iy.fl_qt (ni a cx s o).2)<|b cx s
theorem I8(a:fu A)(b:Lq L):fu<|iZ A L:=λcx s=>Iy.fl_bind (λs o=>(ni b cx s o).2)<|a cx s
theorem I9(f:fu A)(d:∀p∈g,fu p.2)(h:∀l,L=some l->Lq l):Qt<|kG A g L:=λcx s=>by
  refine Iy.fl_qt<|Iy.fl_bind (λs o=>?_)<|Iy.fl_bind (λc o=>?_)<|f _ _
  · rcases L with _|l;·trivial
    ·exact(ni (h l rfl) cx s o).2
  · by_cases e:o=.bad;·subst e;trivial
    ·exact vV cx c trivial (λb=>trivial) λit r j p b b hp=>d p (j5 hp) _ _
end
section
structure DS where
 p:Nat
 b:Nat
 f:Bool
noncomputable def fI(f:Bool):AV:=.int<|bif f then 1 else 0
noncomputable def dO(sc:List Int)(d:DS):AO:=.list [.fl<|sc.map .int,.int d.p,.int d.b,fI d.f]
noncomputable abbrev dg(sc:List Int)(d:DS)(r:List AO)(rs:AS):AS:=(dO sc d::r)::rs
noncomputable def nA:List Int:=[1,3,0,3,0,1,1,11,0,0,2,0,0,4,9,1,0,7,1,0,4,1,0,1,1,1,2,0,0,0,8,0,0,1,0,0,2,0,0,4,5,0,0]
variable{sc:List Int}{d d' d1 d2:DS}{r:List AO}{rs:AS}{D:Nat}
noncomputable abbrev DA:AV:=.ref 0 0
noncomputable def DS.nx(d:DS):DS:=⟨d.p+1,d.b,d.f⟩
theorem qE(x:Int)(h:0<n):∃k:Nat,k<n/\(if(n:Int)=0 then none else some<|AV.int<|x.fmod n)=some (.int k):=by haveI b:=Int.fmod_nonneg_of_pos x<|Int.ofNat_lt.mpr h;haveI e:=Int.fmod_lt_of_pos x<|Int.ofNat_lt.mpr h;refine⟨(x.fmod n).toNat,(Int.toNat_lt b).mpr e,?_⟩;exact Rr (if_neg λq=>Nat.ne_of_gt h<|Int.ofNat.inj q)<|Rr (Int.toNat_of_nonneg b) rfl
theorem cV(hl:sc.length<=40)(s:0<n)(d:DS)(r:List AO)(rs:AS):∃k:Nat,k<n/\∀D,rn (D+1) false 1543 [DA,.int n] (dg sc d r rs)=.ok (.int k) (dg sc d.nx r rs):=by
  have c:(if aE (sc.map AV.int)=true then some<|AV.int (sc.map AV.int).length else none)=some (.int sc.length):=by rw[ie<|by rw[Qb];exact af (ai _) (.v 0) (.n 40) (.v 0) (.n 1000) hl rfl,Qb]
  by_cases u:d.p<sc.length
  ·haveI i:=decide_eq_true<|Int.ofNat_lt.mpr u;refine(lj u).elim λx m=>?_;have b:bG (sc.map AV.int) d.p=some (.int x):=dZ rfl (dS _ m) (by rw[Qb];exact af (ai _) (.v 0) (.n 40) (.p 0 0) (.n 200000) hl rfl);refine(qE x s).elim λk o=>o.elim λh f=>?_;exact⟨k,h,λD=>ak<|ah (.V 8 c<|.B 0 i<|.V 4 b<|.V 5 f .nil) 0 ae⟩
  · haveI i:=mw u;by_cases w:d.p<43
    ·haveI j:=ip w;refine(lj (l:=nA) w).elim λx m=>?_;haveI b:(if aE (nA.map AV.int)=true then(seqIndex? d.p (nA.map AV.int).length).bind<|aa<|nA.map AV.int else none)=some (.int x):=f5 (k:=0) (dS _ m)<|bL rfl;refine(qE x s).elim λk ζ0=>ζ0.elim λh f=>?_;exact⟨k,h,λD=>ak<|ah (.V 8 c<|.B 0 i<|.B 3 j<|.V 2 b<|.V 5 f .nil) 0 ae⟩
    ·haveI j:=mw w;refine(qE (5*d.p+3) s).elim λk ζ0=>ζ0.elim λh f=>?_;exact⟨k,h,λD=>ak<|ah (.V 8 c<|.B 0 i<|.B 3 j<|.V 5 f .nil) 0 ae⟩
noncomputable def Flt(d d':DS):Prop:=d'.b=d.b/\d'.f=d.f
theorem Flt.trans(h:Flt d d1)(k:Flt d1 d2):Flt d d2:=⟨k.1.trans h.1,k.2.trans h.2⟩
theorem tE(hl:sc.length<=40)(d:DS)(r:List AO)(rs:AS):∃(v:Vl)(d':DS),v.ok/\Flt d d'/\∀D,rn (D+2) false 1550 [DA] (dg sc d r rs)=.ok v.av (dg sc d' r rs):=by
 obtain⟨k,e,b⟩:=cV hl (n:=6) (bL rfl) d r rs;have f:∀k:Nat,k=0\/k=3->(∀D,rn (D+1) false 1543 [DA,.int (6:Nat)] (dg sc d r rs)=.ok (.int k) (dg sc d.nx r rs))->∃(v:Vl)(d':DS),v.ok/\Flt d d'/\∀D,rn (D+2) false 1550 [DA] (dg sc d r rs)=.ok v.av (dg sc d' r rs):=λk e b=>by
  obtain⟨x,_,c⟩:=cV hl (n:=4) (bL rfl) d.nx r rs;refine⟨.k x,d.nx.nx,trivial,⟨rfl,rfl⟩,λD=>ak ?_⟩;rcases e with rfl|rfl;·exact ah (.C 0 (b D)<|.C 2 (c D) .nil) 0 ae
  ·exact ah (.C 0 (b D)<|.C 2 (c D) .nil) 0 ae
 rcases Ob k e with rfl|rfl|rfl|rfl|rfl|rfl;·exact f 0 (.inl rfl) b
 ·exact⟨.e1,d.nx,trivial,⟨rfl,rfl⟩,λD=>ak<|aG 0 (b D)<|az 3 ae⟩
 ·exact⟨.e2,d.nx,trivial,⟨rfl,rfl⟩,λD=>ak<|aG 0 (b D)<|az 3 ae⟩
 ·exact f 3 (.inr rfl) b
 ·exact⟨.e1,d.nx,trivial,⟨rfl,rfl⟩,λD=>ak<|aG 0 (b D)<|az 3 ae⟩
 ·obtain⟨x,g,c⟩:=cV hl (n:=2) (bL rfl) d.nx r rs;refine⟨.th<|2+x,d.nx.nx,?_,⟨rfl,rfl⟩,λD=>ak<|ah (.C 0 (b D)<|.C 3 (c D) .nil) 1 ae⟩;exact(mu x g).imp (congrArg λk:Nat=>(2:Int)+k)<|congrArg λk:Nat=>(2:Int)+k
theorem yy{k:Nat}(h:k<2):∃b:Bool,(1:Int)+k=bif b then 1 else 2:=by
 rcases mu k h with rfl|rfl;·exact⟨true,rfl⟩
 ·exact⟨false,rfl⟩
theorem yz{k:Nat}(h:k<2):(2:Int)+k=2\/(2:Int)+k=3:=(mu k h).imp (congrArg λk:Nat=>(2:Int)+k)<|congrArg λk:Nat=>(2:Int)+k
noncomputable abbrev fG(ml il ca:Bool)(k:Nat)(j:Nat)(σ:AS):Cd:=execs (cz TP 60<|eU 1557) ((bI 1557).drop j) [(q "d",DA),(q "may_leave",.bool ml),(q "in_loop",.bool il),(q "caught",.bool ca),(q "choice",.int k)] σ l0 l5
section
variable{ml il ca:Bool}{k:Nat}{σ:AS}{z:S}
theorem k4(h:(ml&&iF k 5)=false)(H:(fG ml il ca k 2 σ).ev (rn D)=z):(fG ml il ca k 1 σ).ev (rn D)=z:=by
 rcases ml with _|_;·exact bS 3 2 H
 ·exact eE 1 h<|bS 2 2 H
theorem qf(h:(ml&&(il&&iF k 6))=false)(H:(fG ml il ca k 3 σ).ev (rn D)=z):(fG ml il ca k 2 σ).ev (rn D)=z:=by
  rcases ml with _|_;·exact bS 2 1 H
  · rcases il with _|_;·exact bS 3 1 H
    ·exact eE 2 h<|bS 1 1 H
theorem uO(h:iF k 7=false)(H:(fG ml il ca k 4 σ).ev (rn D)=z):(fG ml il ca k 3 σ).ev (rn D)=z:=eE 0 h<|bS 1 1 H
theorem Cq(h:(ca&&iF k 8)=false)(H:(fG ml il ca k 5 σ).ev (rn D)=z):(fG ml il ca k 4 σ).ev (rn D)=z:=by
 rcases ca with _|_;·exact bS 2 1 H
 ·exact eE 1 h<|bS 1 1 H
theorem PJ(h:iF k 3=false)(b:iF k 4=false)(H:(fG ml il ca k 6 σ).ev (rn D)=z):(fG ml il ca k 5 σ).ev (rn D)=z:=bH (.B 0 h<|.B 0 b .nil) 0 H
end
inductive tG(sc:List Int)(ml il ca:Bool)(d:DS)(r:List AO)(rs:AS):Prop|mk(t:_)(L:_)(d':_)(h1:Sm ca (!ml) t L)(h2:Flt d d')(h3:∀D,rn (D+3) false 1557 [DA,.bool ml,.bool il,.bool ca] (dg sc d r rs)=.ok t (dg sc d' r rs)):tG sc ml il ca d r rs
theorem Ja(hl:sc.length<=40)(c f ca:Bool)(d:DS)(r:List AO)(rs:AS):tG sc c f ca d r rs:=by refine(cV hl (n:=9) (bL rfl) d r rs).elim λk ζ0=>ζ0.elim λN I=>?_;obtain⟨x,e,g⟩:=cV hl (n:=2) (bL rfl) d.nx r rs;have start:∀{t:AV}{d':DS}(D:Nat),(fG c f ca k 1<|dg sc d.nx r rs).ev (rn<|D+2)=.go (.ret t) [] (dg sc d' r rs)->rn (D+3) false 1557 [DA,.bool c,.bool f,.bool ca] (dg sc d r rs)=.ok t (dg sc d' r rs):=λD H=>ak<|aG 0 (I<|D+1)<|bS 1 1 H;cases b:c&&iF k 5 with|true=>obtain⟨L,b⟩:=MK b;subst L;exact⟨_,_,d.nx,yq,⟨rfl,rfl⟩,λD=>start D<|eE 1 b<|az 0 ae⟩|false=>cases a:c&&(f&&iF k 6)with
 |true=>
  obtain⟨A,a⟩:=MK a;obtain⟨J,a⟩:=MK a;subst A J;rcases mu x e with rfl|rfl;·exact⟨_,_,d.nx.nx,yr,⟨rfl,rfl⟩,λD=>start D<|k4 b<|ah (.B 2 a<|.C 0 (g<|D+1) .nil) 1 ae⟩
  ·exact⟨_,_,d.nx.nx,vX,⟨rfl,rfl⟩,λD=>start D<|k4 b<|ah (.B 2 a<|.C 0 (g<|D+1) .nil) 1 ae⟩|false=>cases l:iF k 7 with|true=>exact⟨_,_,d.nx.nx,yp<|yz e,⟨rfl,rfl⟩,λD=>start D<|k4 b<|qf a<|ah (.B 0 l<|.C 0 (g<|D+1) .nil) 1 ae⟩|false=>cases i:ca&&iF k 8 with|true=>obtain⟨M,i⟩:=MK i;subst M;exact⟨_,_,d.nx,KR,⟨rfl,rfl⟩,λD=>start D<|k4 b<|qf a<|uO l<|eE 1 i<|az 0 ae⟩|false=>obtain⟨v,z,K,F,w⟩:=tE hl d.nx.nx r rs;obtain⟨s,G⟩:=yy e;have j:(∀D,(fG c f ca k 5<|dg sc d.nx r rs).ev (rn<|D+2)=.go (.ret<|.tup [.str zs22,.int<|1+x,v.av]) [] (dg sc z r rs))->tG sc c f ca d r rs:=λh=>⟨_,_,z,by refine Rr G ?_;exact yt s K,F,λD=>start D<|k4 b<|qf a<|uO l<|Cq i<|h D⟩;cases o:iF k 3 with|true=>exact j λD=>ah (.B 0 o<|.C 0 (g<|D+1)<|.C 1 (w D) .nil) 0 ae|false=>cases y:iF k 4 with|true=>exact j λD=>ah (.B 0 o<|.B 0 y<|.C 0 (g<|D+1)<|.C 1 (w D) .nil) 0 ae|false=>obtain⟨p,_,m⟩:=cV hl (n:=12) (bL rfl) d.nx r rs;exact⟨.tup [.str ⟨#[108,111,103]⟩,.int<|1+p],_,d.nx.nx,yo _,⟨rfl,rfl⟩,λD=>start D<|k4 b<|qf a<|uO l<|Cq i<|PJ o y<|aG 0 (m<|D+1)<|az 1 ae⟩
end
section
variable{sc:List Int}{d d' d1 d2:DS}{r:List AO}{rs:AS}{D:Nat}
noncomputable abbrev Ld(ml il ca:Bool):=tx 1562 58 [(q "d",DA),(q "may_leave",.bool ml),(q "in_loop",.bool il),(q "caught",.bool ca)]<|uN<|aa (bI 1562) 0
inductive A7(sc:List Int)(ml il ca:Bool)(r:List AO)(rs:AS)(xs:List AV)(d:DS):Prop|mk(ts:_)(Ls:_)(d':_)(h1:aL (Sm ca !ml) ts Ls)(h2:ts.length=xs.length)(h3:Flt d d')(h4:∀(acc:List AV)D,acc.length+xs.length<=1000->(Ld ml il ca xs acc<|dg sc d r rs).ev (rn<|D+3)=.go (.ret<|.fl<|acc++ts) [] (dg sc d' r rs)):A7 sc ml il ca r rs xs d
theorem uY(hl:sc.length<=40)(g f ca:Bool)(r:List AO)(rs:AS):∀(e:List AV)(d:DS),e.length<=500->A7 sc g f ca r rs e d|[],d,_=>⟨[],[],d,.nil,rfl,⟨rfl,rfl⟩,λc D i=>by rw[Qc];rfl⟩|x::e,d,y=>by obtain⟨t,L,d1,o,s,k⟩:=Ja hl g f ca d r rs;obtain⟨ts,Ls,d2,w,l,u,j⟩:=uY hl g f ca r rs e d1<|af (ai _) (.p 0 1) (.n 500) (.v 0) (.n 500) y rfl;refine⟨t::ts,L::Ls,d2,.cons o w,congrArg (λi=>i+1) l,s.trans u,λc D h=>?_⟩;haveI:=j (c++[t]) D (by refine Rr Qa ?_;exact af (au _ _) (.a (.v 0)<|.p 1 1) (.n 1000) (.a (.p 0 1)<|.v 1) (.n 1000) h rfl);rw[Qd]at this;haveI m:=br<|af (au _ _) (.a (.v 0)<|.p 1 1) (.n 1000) (.p 0 0) (.n 300000) h rfl;exact bH (.C 0 (k D)<|.B 0 m .nil) 0 this
theorem fX:∀(n:Nat)(a:Int),(d9 a n).length=n|0,_=>rfl|n+1,a=>congrArg (λc=>c+1)<|fX n<|a+1
inductive A8(sc:List Int)(ml il ca:Bool)(d:DS)(r:List AO)(rs:AS):Prop|mk(ts:_)(Ls:_)(d':_)(h1:aL (Sm ca !ml) ts Ls)(h2:ts.length<=2)(h3:Flt d d')(h4:∀D,rn (D+4) false 1562 [DA,.bool ml,.bool il,.bool ca] (dg sc d r rs)=.ok (.fl ts) (dg sc d' r rs)):A8 sc ml il ca d r rs
theorem lG(hl:sc.length<=40)(f h ca:Bool)(d:DS)(r:List AO)(rs:AS):A8 sc f h ca d r rs:=by refine(cV hl (n:=2) (bL rfl) d r rs).elim λx ζ0=>ζ0.elim λb j=>?_;obtain⟨ts,Ls,d2,m,g,l,c⟩:=uY hl f h ca r rs (d9 0<|1+x) d.nx (by rw[fX];exact af (ai _) (.p 0 1) (.n 2) (.a (.n 1)<|.v 0) (.n 500) b rfl);rw[fX]at g;haveI e:1+x=1+x:=rfl;haveI i:=jO<|af (ai _) (.p 0 1) (.n 2) (.a (.n 1)<|.v 0) (.n 200000) b rfl;haveI k:=jN<|af (ai _) (.p 0 1) (.n 2) (.a (.n 1)<|.v 0) (.n 200000) b rfl;refine⟨ts,Ls,d2,m,aO (au _ _) (.v 0) (.a (.n 1)<|.v 1) (.p 1 1) (.n 2) (.v 0) (.n 2) (Qn g) b rfl,l,λD=>?_⟩;haveI c:=c [] D (by rw[fX,List.length_nil];exact af (ai _) (.p 0 1) (.n 2) (.a (.n 0)<|.a (.n 1)<|.v 0) (.n 1000) b rfl);exact ak<|ah (.C 0 (j<|D+2)<|.V 1 i<|.V 0 k<|.P 0 c .nil) 0 ae
structure Nd(k:Nat)(t:AV)(L:LS)(u B:Nat)(z:Bool):Prop where
 t:Tr k t L false u B
 q:z=false->Qt L
inductive jU(k:Nat)(z:Bool):List AV->List LS->Nat->Nat->Prop|nil:jU k z [] [] 0 1|cons{t:AV}{L:LS}{ts:List AV}{Ls:List LS}{u u' B B':Nat}:Nd k t L u B z->jU k z ts Ls u' B'->jU k z (t::ts) (L::Ls) (u+u') (B+B'+1)
theorem jU.trs{ts:List AV}{Ls:List LS}(H:jU k z ts Ls u B):cU k false ts Ls u B/\(z=false->Qt (a8 Ls)):=by
 have:cU k false ts Ls u B/\(z=false->∀L∈Ls,Qt L):=by induction H with|nil=>exact⟨.nil,λg L h=>absurd h Qr⟩|cons h _ c=>exact⟨.cons h.t c.1,λb L f=>(P7 f).elim (λe=>Rr e<|h.q b)<|c.2 b L⟩
 exact⟨this.1,λb=>I5<|this.2 b⟩
structure To(d d':DS)(n:Nat):Prop where
 b:d'.b+n=d.b
 f:d'.f=false->d.f=false
end
section
variable{sc:List Int}{d d' d1 d2:DS}{r:List AO}{rs:AS}{D deep:Nat}{il:Bool}
noncomputable def Gc:Nat->Nat|0=>1042|1=>520|2=>259|_=>258
noncomputable def HB(deep:Nat):Nat:=8+3*(4-deep)
inductive A9(sc:List Int)(deep:Nat)(il:Bool)(d:DS)(r:List AO)(rs:AS):Prop|mk(ts:_)(Ls:_)(d':_)(u:_)(B:_)(h1:jU (5-deep) d'.f ts Ls u B)(h2:ts.length<=3)(h3:d'.b<=d.b)(h4:u<=2*(d.b-d'.b))(h5:B<=(Gc deep+1)*(d.b-d'.b)+1)(h6:d'.f=false->d.f=false)(h7:∀D,rn (D+HB deep) false 1569 [DA,.int deep,.bool il] (dg sc d r rs)=.ok (.fl ts) (dg sc d' r rs)):A9 sc deep il d r rs
noncomputable def jv(sc:List Int)(deep:Nat)(il:Bool):Prop:=∀(d:DS)(r:List AO)(rs:AS),A9 sc deep il d r rs
inductive pG(sc:List Int)(deep:Nat)(il:Bool)(d:DS)(r:List AO)(rs:AS):Prop|mk(t:_)(L:_)(d':_)(u:_)(B:_)(h1:Nd (5-deep) t L u B d'.f)(h2:d'.b<=d.b)(h3:u<=2*(d.b-d'.b+1))(h4:B<=Gc deep*(d.b-d'.b+1))(h5:d'.f=false->d.f=false)(h6:∀D,rn (D+(7+3*(4-deep))) false 1583 [DA,.int deep,.bool il] (dg sc d r rs)=.ok t (dg sc d' r rs)):pG sc deep il d r rs
noncomputable def sA(sc:List Int)(deep:Nat)(il:Bool):Prop:=∀(d:DS)(r:List AO)(rs:AS),pG sc deep il d r rs
noncomputable abbrev Le:dc:=d4 1569 59<|aa (bI 1569) 1
noncomputable abbrev lb(deep:Nat)(il:Bool)(acc:List AV):aq:=[(q "d",DA),(q "deep",.int deep),(q "in_loop",.bool il),(q "out",.fl acc)]
inductive Ba(sc:List Int)(deep:Nat)(il:Bool)(r:List AO)(rs:AS)(xs:List AV)(d:DS):Prop|mk(ts:_)(Ls:_)(d':_)(u:_)(B:_)(h1:jU (5-deep) d'.f ts Ls u B)(h2:ts.length<=xs.length)(h3:d'.b<=d.b)(h4:u<=2*(d.b-d'.b))(h5:B<=(Gc deep+1)*(d.b-d'.b)+1)(h6:d'.f=false->d.f=false)(h7:∀(acc:List AV)D,acc.length+xs.length<=1000->(bk Le xs (lb deep il acc)<|dg sc d r rs).ev (rn<|D+(7+3*(4-deep)))=.go .next (lb deep il<|acc++ts) (dg sc d' r rs)):Ba sc deep il r rs xs d
theorem Jb(H:sA sc deep il)(r:List AO)(rs:AS):∀(l:List AV)(d:DS),l.length<=500->Ba sc deep il r rs l d:=by intro l;induction l with|nil=>intro d _;exact⟨[],[],d,0,1,.nil,Qg _,Qg _,Nat.zero_le _,Nat.le_add_left _ _,λh=>h,λc D ξ=>by rw[Qc];rfl⟩|cons x l ih=>
    intro d O;by_cases A:0<d.b
    · haveI K:=ip A;haveI e1:(d.b:Int)-1=(d.b-1:Nat):=(Int.ofNat_sub A).symm;obtain⟨t,L,d1,u1,B1,U,F,X,T,Y,j⟩:=H ⟨d.p,d.b-1,d.f⟩ r rs;obtain⟨ts,Ls,d2,M,B2,I,J,b3,s,u,w,g⟩:=ih d1<|af (ai _) (.p 0 1) (.n 500) (.v 0) (.n 500) O rfl;haveI F:d1.b<=d.b-1:=F;obtain⟨y,P⟩:∃y,d.b-1-d1.b+1=y:=⟨_,rfl⟩;obtain⟨z,Z⟩:∃z,d1.b-d2.b=z:=⟨_,rfl⟩;haveI i:d.b-d2.b=y+z:=by lia
      rw[P]at X T;rw[Z]at s u;refine⟨t::ts,L::Ls,d2,u1+M,B1+B2+1,.cons ⟨U.t,λh=>U.q<|w h⟩ I,Nat.succ_le_succ J,af (aH _ _ _) (.a (.v 0)<|.v 1) (.v 2) (.v 1) (.v 2) (bW<|eh (b8 _ _ _ _) (.v 0) (.v 1) (.v 1) (.v 2) (.v 2) (.v 3) (.v 0) (.v 3) b3 F (Nat.sub_le _ _) rfl) rfl,ik (ef _ _ _ _ _) (.v 0) (.m 2<|.v 1) (.v 2) (.m 2<|.v 3) (.a (.v 1)<|.v 3) (.v 4) (.a (.v 1)<|.v 3) (.v 4) (.a (.v 0)<|.v 2) (.m 2<|.v 4) X s (i4 i) (i4 i) rfl,?_,λh=>Y<|w h,λc D o=>?_⟩;·rw[i,Nat.mul_add];haveI:Gc deep*y+y=(Gc deep+1)*y:=(Nat.succ_mul _ _).symm;exact ik (Bn _ _ _ _ _ _ _) (.v 0) (.v 1) (.v 2) (.p 3 1) (.a (.v 1)<|.v 4) (.v 5) (.p 6 1) (.v 4) (.a (.a (.v 0)<|.v 2)<|.n 1) (.a (.a (.v 5)<|.v 3)<|.n 1) T u (Qn this) (Qn P) rfl
      ·haveI j:=j D;haveI g:=g (c++[t]) D (by refine Rr Qa ?_;exact af (au _ _) (.a (.v 0)<|.p 1 1) (.n 1000) (.a (.p 0 1)<|.v 1) (.n 1000) o rfl);rw[Qd]at g;haveI j:rn (D+(7+3*(4-deep))) false 1583 [DA,.int deep,.bool il] ((.list [.fl<|sc.map .int,.int d.p,.int (d.b-1:Nat),fI d.f]::r)::rs)=.ok t (dg sc d1 r rs):=j;rw[<-e1]at j;haveI hf:(if aE c=true then some<|AV.fl<|c++[t]else none)=some (.fl<|c++[t]):=if_pos<|br<|af (au _ _) (.a (.v 0)<|.p 1 1) (.n 1000) (.p 0 0) (.n 300000) o rfl;exact bH (.B 2 K<|.C 5 j<|.V 0 hf .nil) 0 g
    ·haveI K:=mw A;obtain⟨ts,Ls,d2,M,B2,I,J,b3,s,u,w,g⟩:=ih d<|af (ai _) (.p 0 1) (.n 500) (.v 0) (.n 500) O rfl;refine⟨ts,Ls,d2,M,B2,I,Nat.le_succ_of_le J,b3,s,u,w,λc D o=>?_⟩;haveI g:=g c D<|af (au _ _) (.a (.v 0)<|.p 1 1) (.n 1000) (.a (.v 0)<|.v 1) (.n 1000) o rfl;exact eE 2 K<|de 0 g
theorem ot(hl:sc.length<=40)(H:sA sc deep il):jv sc deep il:=by intro d r rs;obtain⟨x,b,g⟩:=cV hl (n:=2) (bL rfl) d r rs;obtain⟨ts,Ls,d2,t,B2,o,h,b3,s,j,i,f⟩:=Jb H r rs (d9 0<|2+x) d.nx (by rw[fX];exact af (ai _) (.p 0 1) (.n 2) (.a (.n 2)<|.v 0) (.n 500) b rfl);rw[fX]at h;haveI e:2+x=2+x:=rfl;haveI l:=jO<|af (ai _) (.p 0 1) (.n 2) (.a (.n 2)<|.v 0) (.n 200000) b rfl;haveI u:=jN<|af (ai _) (.p 0 1) (.n 2) (.a (.n 2)<|.v 0) (.n 200000) b rfl;refine⟨ts,Ls,d2,t,B2,o,aO (au _ _) (.v 0) (.a (.n 2)<|.v 1) (.p 1 1) (.n 2) (.v 0) (.n 3) h b rfl,b3,s,j,i,λD=>?_⟩;haveI f:=f [] D (by rw[fX,List.length_nil];exact af (ai _) (.p 0 1) (.n 2) (.a (.n 0)<|.a (.n 2)<|.v 0) (.n 1000) b rfl);haveI g:=eQ (D:=D) (c:=7) (k:=3*(4-deep)) g;refine ?_;refine Rr (show D+(8+3*(4-deep))=D+(7+3*(4-deep))+1 from eR (au _ _) (.a (.v 0)<|.a (.n 8)<|.m 3<|.v 1) (.a (.a (.v 0)<|.a (.n 7)<|.m 3<|.v 1)<|.n 1) rfl) ?_;exact ak<|ah (.C 0 g<|.V 1 l<|.V 0 u<|.P 0 f .nil) 0 ae
end
section
variable{sc:List Int}{d d' d1 d2:DS}{r:List AO}{rs:AS}{D deep:Nat}{il:Bool}
noncomputable abbrev Lf:dc:=d4 1576 59<|aa (bI 1576) 4
noncomputable abbrev lt(deep:Nat)(il:Bool)(sort body:AV)(acc:List AV):aq:=[(q "d",DA),(q "deep",.int deep),(q "in_loop",.bool il),(q "sort",sort),(q "body",body),(q "rows",.fl acc)]
inductive Bb(sc:List Int)(deep:Nat)(il:Bool)(r:List AO)(rs:AS)(xs:List AV)(d:DS):Prop|mk(ds:List Cr)(d':DS)(h1:∀c∈ds,c.ok/\fu c.L)(h2:ds.length=xs.length)(h3:Flt d d')(h4:∀(acc:List AV)(sort body:AV)D,acc.length+xs.length<=1000->(bk Lf xs (lt deep il sort body acc)<|dg sc d r rs).ev (rn<|D+4)=.go .next (lt deep il sort body<|acc++(ds.map λc=>c.r).map Lr.av) (dg sc d' r rs)):Bb sc deep il r rs xs d
theorem ER(hl:sc.length<=40)(deep:Nat)(il:Bool)(r:List AO)(rs:AS):∀(u:List AV)(d:DS),u.length<=500->Bb sc deep il r rs u d:=by intro u;induction u with|nil=>intro d _;exact⟨[],d,λc h=>absurd h Qr,rfl,⟨rfl,rfl⟩,λb f body D y=>by refine(?_:_=S.go _ (lt deep il f body<|b++[]) _);rw[Qc];rfl⟩|cons x u ih=>
  intro d H;obtain⟨j,N,t1⟩:=cV hl (n:=3) (bL rfl) d r rs;obtain⟨l,Z,I⟩:=cV hl (n:=3) (bL rfl) d.nx r rs;obtain⟨k,X,P⟩:=cV hl (n:=2) (bL rfl) d.nx.nx r rs;obtain⟨ts,Ls,d1,w,F,Q,M⟩:=lG hl true il true d.nx.nx.nx r rs;obtain⟨vs,A,hp⟩:=qD w<|af (ai _) (.v 0) (.n 2) (.v 0) (.n 1000) F rfl;obtain⟨L,d2,U,J,O,t⟩:=ih d1<|af (ai _) (.p 0 1) (.n 500) (.v 0) (.n 500) H rfl;haveI fl:fu<|a8 Ls:=λcx s=>by obtain⟨lg,Y,o,e,_⟩:=rO w cx s;refine Rr e ?_;trivial
  refine⟨⟨⟨j,iF l 2,iF k 1,ts⟩,a8 Ls,vs,A⟩::L,d2,λc K=>(P7 K).elim (λe=>Rr e ⟨⟨(pL j N).imp (congrArg Int.ofNat)<|Or.imp (congrArg Int.ofNat)<|congrArg Int.ofNat,hp,rN w,F⟩,fl⟩)<|U c,congrArg (λy=>y+1) J,(Q).trans O,λb f body D G=>?_⟩;haveI t:=t (b++[Lr.av ⟨j,iF l 2,iF k 1,ts⟩]) f body D (by refine Rr Qa ?_;exact af (au _ _) (.a (.v 0)<|.p 1 1) (.n 1000) (.a (.p 0 1)<|.v 1) (.n 1000) G rfl);rw[Qd]at t;haveI T:(if aE b=true then some<|AV.fl<|b++[Lr.av ⟨j,iF l 2,iF k 1,ts⟩]else none)=some (.fl<|b++[Lr.av ⟨j,iF l 2,iF k 1,ts⟩]):=if_pos<|br<|af (au _ _) (.a (.v 0)<|.p 1 1) (.n 1000) (.p 0 0) (.n 300000) G rfl;exact bH (.C 0 (t1<|D+3)<|.C 0 (I<|D+3)<|.B 0 (Eq.refl<|iF l 2)<|.C 0 (P<|D+3)<|.B 0 (Eq.refl<|iF k 1)<|.C 0 (M D)<|.V 0 T .nil) 0 t
noncomputable abbrev Lg(deep:Nat)(il:Bool)(sort body:AV)(σ:AS):Cd:=execs (cz TP 60<|eU 1576) ((bI 1576).drop 3) [(q "d",DA),(q "deep",.int deep),(q "in_loop",.bool il),(q "sort",sort),(q "body",body)] σ l0 l5
inductive Bc(sc:List Int)(deep:Nat)(il:Bool)(d:DS)(r:List AO)(rs:AS):Prop|mk(ds:List Cr)(last:AV)(LL:Option LS)(d':DS)(h1:∀c∈ds,c.ok/\fu c.L)(h2:0<ds.length)(h3:ds.length<=2)(h4:last=.none/\LL=none\/∃tl Ls,last=.fl tl/\LL=some (a8 Ls)/\aL (Sm false true) tl Ls/\tl.length<=2)(h5:Flt d d')(h6:∀(sort:AV)(ta:List AV)D,(Lg deep il sort (.fl ta)<|dg sc d r rs).ev (rn<|D+4)=.go (.ret<|jG ta (ds.map λc=>c.r) last) [] (dg sc d' r rs)):Bc sc deep il d r rs
theorem qF(hl:sc.length<=40)(deep:Nat)(il:Bool)(d:DS)(r:List AO)(rs:AS):Bc sc deep il d r rs:=by obtain⟨x,f,t1⟩:=cV hl (n:=2) (bL rfl) d r rs;obtain⟨o,d1,j,h,m,g⟩:=ER hl deep il r rs (d9 0<|1+x) d.nx (by rw[fX];exact af (ai _) (.p 0 1) (.n 2) (.a (.n 1)<|.v 0) (.n 500) f rfl);rw[fX]at h;obtain⟨y,I,u⟩:=cV hl (n:=2) (bL rfl) d1 r rs;haveI e:1+x=1+x:=rfl;haveI l:=jO<|af (ai _) (.p 0 1) (.n 2) (.a (.n 1)<|.v 0) (.n 200000) f rfl;haveI w:=jN<|af (ai _) (.p 0 1) (.n 2) (.a (.n 1)<|.v 0) (.n 200000) f rfl;cases s:iF y 1 with|false=>refine⟨o,.none,none,d1.nx,j,af (au _ _) (.a (.n 1)<|.v 0) (.v 1) (.n 1) (.v 1) (i4 h) rfl,aO (au _ _) (.v 0) (.a (.n 1)<|.v 1) (.p 1 1) (.n 2) (.v 0) (.n 2) (Qn h) f rfl,.inl ⟨rfl,rfl⟩,m,λb i D=>?_⟩;haveI g:=g [] b (.fl i) D (by rw[fX,List.length_nil];exact af (ai _) (.p 0 1) (.n 2) (.a (.n 0)<|.a (.n 1)<|.v 0) (.n 1000) f rfl);exact ah (.C 0 (t1<|D+3)<|.V 1 l<|.V 0 w<|.P 0 g<|.C 0 (u<|D+3)<|.B 0 s .nil) 0 ae|true=>obtain⟨t,Ls,d2,F,G,H,A⟩:=lG hl false false false d1.nx r rs;refine⟨o,.fl t,some<|a8 Ls,d2,j,af (au _ _) (.a (.n 1)<|.v 0) (.v 1) (.n 1) (.v 1) (i4 h) rfl,aO (au _ _) (.v 0) (.a (.n 1)<|.v 1) (.p 1 1) (.n 2) (.v 0) (.n 2) (Qn h) f rfl,.inr ⟨t,Ls,rfl,rfl,F,G⟩,(m).trans H,λb i D=>?_⟩;haveI g:=g [] b (.fl i) D (by rw[fX,List.length_nil];exact af (ai _) (.p 0 1) (.n 2) (.a (.n 0)<|.a (.n 1)<|.v 0) (.n 1000) f rfl);exact ah (.C 0 (t1<|D+3)<|.V 1 l<|.V 0 w<|.P 0 g<|.C 0 (u<|D+3)<|.B 0 s<|.C 0 (A D) .nil) 0 ae
end
section
variable{sc:List Int}{d d' d1 d2:DS}{r:List AO}{rs:AS}{D deep:Nat}{il q okl:Bool}
theorem GV{ts:List AV}{Ls:List LS}(H:aL (Sm q okl) ts Ls):∃B,B<=25*ts.length+1/\cU 0 q ts Ls 0 B:=by induction H with|nil=>exact⟨1,Qg _,.nil⟩|cons h _ e=>obtain⟨B,b,c⟩:=e;exact⟨_,af (au _ _) (.v 0) (.a (.m 25<|.v 1)<|.n 1) (.a (.a (.n 24)<|.v 0)<|.n 1) (.a (.m 25<|.p 1 1)<|.n 1) b rfl,.cons h.tr c⟩
theorem cU.mono{ts:List AV}{Ls:List LS}(H:cU k q ts Ls u B)(h:k<=c):cU c q ts Ls u B:=by induction H with|nil=>exact .nil|cons a _ b=>exact .cons (a.mono h (Qg _)<|Qg _) b
theorem rP{ts:List AV}{Ls:List LS}(H:aL (Sm q true) ts Ls):Lq<|a8 Ls:=λcx s=>(rO H cx s).imp λlg h=>h.imp λb h=>h.imp λo h=>⟨h.1,h.2 rfl⟩
theorem vZ{ts:List AV}{Ls:List LS}(H:aL (Sm q okl) ts Ls):fu<|a8 Ls:=λcx s=>by obtain⟨lg,a,o,e,_⟩:=rO H cx s;refine Rr e ?_;trivial
inductive Be(sc:List Int)(deep:Nat)(il:Bool)(d:DS)(r:List AO)(rs:AS):Prop|mk(t:_)(L:_)(d':_)(u:_)(B:_)(h1:Nd (5-deep) t L u B d'.f)(h2:d'.b<=d.b)(h3:u<=2*(d.b-d'.b+1))(h4:B<=Gc deep*(d.b-d'.b+1))(h5:d'.f=false->d.f=false)(h6:∀D,rn (D+(6+3*(4-deep))) false 1576 [DA,.int deep,.bool il] (dg sc d r rs)=.ok t (dg sc d' r rs)):Be sc deep il d r rs
noncomputable def Lh(sc:List Int)(deep:Nat)(il:Bool):Prop:=∀(d:DS)(r:List AO)(rs:AS),Be sc deep il d r rs
theorem sC(h:deep<=2):Gc (deep+1)+1<=Gc deep/\258<=Gc deep:=by rcases pL deep<|Nat.lt_succ_of_le h with rfl|rfl|rfl<;>exact⟨bL rfl,bL rfl⟩
theorem yA(deep:Nat):258<=Gc deep:=by
 by_cases h:deep<=2;·exact(sC h).2
 ·obtain⟨j,rfl⟩:∃j,deep=j+3:=⟨deep-3,Nat.le_antisymm (af (au _ _) (.v 0) (.p 1 3) (.v 0) (.p 1 3) (cF _ _) rfl)<|af (au _ _) (.p 0 3) (.v 1) (.p 0 3) (.v 1) (bW<|af (ai _) (.n 3) (.v 0) (.n 3) (.v 0) (Nat.lt_of_not_le h) rfl) rfl⟩;exact Qg _
theorem rQ{b:List Cr}{LL:Option LS}(B:cU k false g m s v)(A:g.length<=1000)(i:∀c∈b,c.ok/\fu c.L)(x:0<b.length)(C:b.length<=2)(f:last=.none/\LL=none\/∃e Ls,last=.fl e/\LL=some (a8 Ls)/\aL (Sm false true) e Ls/\e.length<=2)(w:k<=4)(u:z=false->fu (a8 m)):Nd (k+1) (jG g (b.map λc=>c.r) last) (kG (a8 m) (b.map λc=>(c.r,c.L)) LL) (s+2) (v+150) z:=⟨I4 B A (λc h=>(i c h).1) x C f w,λh=>I9 (u h) (λp hp=>by obtain⟨c,t,rfl⟩:=List.mem_map.mp hp;exact(i c t).2) λl hl=>by
  rcases f with⟨_,rfl⟩|⟨e,Ls,_,rfl,y,_⟩;·exact nS hl
  ·haveI hl:=sI hl;subst hl;exact rP y⟩
theorem Jc(hl:sc.length<=40)(w:deep<=3)(M:deep<3->jv sc (deep+1) il):Lh sc deep il:=by
  intro d r rs;obtain⟨k,hk,t1⟩:=cV hl (n:=3) (bL rfl) d r rs;haveI hg:=yA deep;haveI K:5-deep=4-deep+1:=Nat.le_antisymm (aO (aH _ _ _) (.a (.v 0)<|.v 1) (.n 5) (.n 4) (.a (.v 2)<|.v 1) (.v 0) (.p 2 1) (bW<|af (ai _) (.v 0) (.n 3) (.v 0) (.n 5) w rfl) (cF _ _) rfl)<|aO (aH _ _ _) (.a (.v 0)<|.v 1) (.n 4) (.n 5) (.a (.v 2)<|.v 1) (.p 0 1) (.v 2) (bW<|af (ai _) (.v 0) (.n 3) (.v 0) (.n 4) w rfl) (cF _ _) rfl;by_cases N:k=2/\deep<3
  · obtain⟨rfl,G⟩:=N;obtain⟨ts,Ls,d1,u,B,b1,b2,b3,b4,b5,b6,C⟩:=M G ⟨d.p+1,d.b,true⟩ r rs;obtain⟨O,last,LL,d2,A,s,x,t,o,i⟩:=qF hl deep il d1 r rs;haveI f1:d1.f=true:=by cases h:d1.f with|true=>rfl|false=>exact nomatch show true=false from b6 h 
    haveI Z:=o.2.trans f1;haveI e1:=o.1;refine⟨_,_,d2,_,_,Rr K<|rQ (Rl (show 5-(deep+1)=4-deep from Nat.le_antisymm (aO (aH _ _ _) (.a (.v 0)<|.p 1 1) (.n 5) (.n 4) (.a (.v 2)<|.v 1) (.v 0) (.v 2) (bW<|af (ai _) (.v 0) (.n 3) (.p 0 1) (.n 5) w rfl) (cF _ _) rfl)<|aO (aH _ _ _) (.a (.v 0)<|.v 1) (.n 4) (.n 5) (.a (.v 2)<|.p 1 1) (.v 0) (.v 2) (bW<|af (ai _) (.v 0) (.n 3) (.v 0) (.n 4) w rfl) (cF _ _) rfl) b1.trs.1) (af (ai _) (.v 0) (.n 3) (.v 0) (.n 1000) b2 rfl) A s x t (af (ai _) (.v 0) (.n 4) (.v 0) (.n 4) (Nat.sub_le _ _) rfl) λh=>absurd (Z.symm.trans h)<|by decide,aO (aH _ _ _) (.v 0) (.v 1) (.v 1) (.v 2) (.v 0) (.v 2) (Qn e1) b3 rfl,by refine Rr e1 ?_;exact af (au _ _) (.v 0) (.m 2<|.v 1) (.p 0 2) (.m 2<|.p 1 1) b4 rfl,?_,λh=>absurd (Z.symm.trans h)<|by decide,λD=>?_⟩;·rw[e1,Nat.mul_succ];haveI:=Nat.mul_le_mul_right (d.b-d1.b) (sC<|af (ai _) (.p 0 1) (.n 3) (.v 0) (.n 2) G rfl).1;exact eh (b8 _ _ _ _) (.v 0) (.p 1 1) (.v 1) (.v 2) (.n 258) (.v 3) (.p 0 150) (.a (.v 2)<|.v 3) b5 this hg rfl
    ·haveI C:=C D;haveI t1:=eQ (D:=D) (c:=5) (k:=3*(4-deep)) t1;haveI i:=λg=>i g ts<|D+(1+3*(4-deep));haveI e7:D+HB (deep+1)=D+(5+3*(4-deep)):=Bo D deep G;rw[e7]at C;haveI e8:D+(1+3*(4-deep))+4=D+(5+3*(4-deep)):=eR (au _ _) (.a (.a (.v 0)<|.a (.n 1)<|.m 3<|.v 1)<|.n 4) (.a (.v 0)<|.a (.n 5)<|.m 3<|.v 1) rfl;rw[e8]at i;refine Rr (show D+(6+3*(4-deep))=D+(5+3*(4-deep))+1 from eR (au _ _) (.a (.v 0)<|.a (.n 6)<|.m 3<|.v 1) (.a (.a (.v 0)<|.a (.n 5)<|.m 3<|.v 1)<|.n 1) rfl) ?_;haveI I:=ip G;refine ak ?_;exact aG 0 t1<|eE 1 I<|aG 3 C<|de 1<|i<|.int 2
  · obtain⟨ts,Ls,d1,H,Q,V,l⟩:=lG hl true il false d.nx r rs;obtain⟨B,hB,U⟩:=GV H;by_cases Y:k=1
    · subst Y;obtain⟨X,Ll,d2,P,l2,l3,J⟩:=lG hl false false false d1 r rs;obtain⟨O,last,LL,y,A,s,x,t,o,i⟩:=qF hl deep il d2 r rs;haveI F:Flt d y:=((V).trans l3).trans o;haveI T:cU 1 false [.tup [.str ⟨#[116,114,121]⟩,.fl ts,.fl X]] [iZ (a8 Ls)<|a8 Ll] _ _:=.cons (yv U P (af (ai _) (.v 0) (.n 2) (.v 0) (.n 1000) Q rfl) l2<|bL rfl) .nil;refine⟨_,_,y,_,_,K▸rQ (T.mono<|aO (au _ _) (.n 4) (.a (.v 0)<|.v 1) (.v 1) (.n 3) (.n 1) (.v 0) (cF _ _) w rfl) (bL rfl) A s x t (af (ai _) (.v 0) (.n 4) (.v 0) (.n 4) (Nat.sub_le _ _) rfl) λξ=>I6 λL hL=>?_,Qn F.1,aK (ai _) (.a (.n 0)<|.n 2) (.m 2<|.p 0 1) rfl,by rw[F.1,Nat.sub_self,Nat.zero_add,Nat.mul_one];lia,λh=>F.2▸h,λD=>?_⟩;rotate_left
      ·cases P9 hL;exact I8 (vZ H)<|rP P
      ·haveI t1:=eQ (D:=D) (c:=5) (k:=3*(4-deep)) t1;haveI l:=eQ (D:=D) (c:=5) (k:=3*(4-deep)) l;haveI J:=eQ (D:=D) (c:=5) (k:=3*(4-deep)) J;haveI i:=λg=>i g [.tup [.str ⟨#[116,114,121]⟩,.fl ts,.fl X]]<|D+(1+3*(4-deep));rw[show D+(1+3*(4-deep))+4=D+(5+3*(4-deep))from eR (au _ _) (.a (.a (.v 0)<|.a (.n 1)<|.m 3<|.v 1)<|.n 4) (.a (.v 0)<|.a (.n 5)<|.m 3<|.v 1) rfl]at i;refine Rr (show D+(6+3*(4-deep))=D+(5+3*(4-deep))+1 from eR (au _ _) (.a (.v 0)<|.a (.n 6)<|.m 3<|.v 1) (.a (.a (.v 0)<|.a (.n 5)<|.m 3<|.v 1)<|.n 1) rfl) ?_;refine ak ?_;exact aG 0 t1<|aG 1 l<|aG 1 J<|de 0<|i<|.int 1
    · obtain⟨O,last,LL,y,A,s,x,t,o,i⟩:=qF hl deep il d1 r rs;haveI F:Flt d y:=(V).trans o;refine⟨_,_,y,_,_,Rr K<|rQ (U.mono<|Nat.zero_le _) (af (ai _) (.v 0) (.n 2) (.v 0) (.n 1000) Q rfl) A s x t (af (ai _) (.v 0) (.n 4) (.v 0) (.n 4) (Nat.sub_le _ _) rfl) λξ=>vZ H,Qn F.1,aK (ai _) (.n 2) (.m 2<|.p 0 1) rfl,by rw[F.1,Nat.sub_self,Nat.zero_add,Nat.mul_one];lia,λh=>F.2▸h,λD=>?_⟩;haveI t1:=eQ (D:=D) (c:=5) (k:=3*(4-deep)) t1;haveI l:=eQ (D:=D) (c:=5) (k:=3*(4-deep)) l;haveI i:=λg=>i g ts<|D+(1+3*(4-deep));rw[show D+(1+3*(4-deep))+4=D+(5+3*(4-deep))from eR (au _ _) (.a (.a (.v 0)<|.a (.n 1)<|.m 3<|.v 1)<|.n 4) (.a (.v 0)<|.a (.n 5)<|.m 3<|.v 1) rfl]at i;refine Rr (show D+(6+3*(4-deep))=D+(5+3*(4-deep))+1 from eR (au _ _) (.a (.v 0)<|.a (.n 6)<|.m 3<|.v 1) (.a (.a (.v 0)<|.a (.n 5)<|.m 3<|.v 1)<|.n 1) rfl) ?_;refine ak ?_;rcases((pL k hk).elim .inl λz=>z.elim (λz=>absurd z Y) .inr:k=0\/k=2)with rfl|rfl;·exact aG 0 t1<|aG 1 l<|de 1<|i<|.int 0
      ·haveI I:=mw λz=>N ⟨rfl,z⟩;exact aG 0 t1<|eE 1 I<|aG 0 l<|de 1<|i<|.int 2
end
section
variable{sc:List Int}{d d' d1 d2:DS}{r:List AO}{rs:AS}{D deep:Nat}{il q okl:Bool}
noncomputable def jq:List Int:=[0,1,4,2,3,2,1,6,7,8,8,5,1,5]
theorem Li:∀k,k<14->∃c,c<9/\aa jq k=some (Int.ofNat c):=bD rfl
theorem kn(h:Sm false okl t L):Nd k t L 0 24 z:=⟨h.tr.mono (Nat.zero_le _) (Qg _)<|Qg _,λb cx s=>Iy.fl_qt<|h.fl cx s⟩
set_option maxHeartbeats 4000000 in
theorem pH(hl:sc.length<=40)(hd:deep<=3)(T:deep<3->∀il,jv sc (deep+1) il):sA sc deep il:=by
  intro d r rs;obtain⟨k,hk,t1⟩:=cV hl (n:=14) (by decide) d r rs;obtain⟨c,hc,hp⟩:=Li k hk;have hp:(if aE (jq.map AV.int)=true then(seqIndex? k (jq.map AV.int).length).bind<|aa<|jq.map AV.int else none)=some (.int<|Int.ofNat c):=f5 (k:=0) (dS _ hp) (by decide);have hg:=yA deep;have t1:=λD=>eQ (D:=D) (c:=6) (k:=3*(4-deep)) t1;have Z:∀D,D+(7+3*(4-deep))=D+(6+3*(4-deep))+1:=λD=>eR (au _ _) (.a (.v 0)<|.a (.n 7)<|.m 3<|.v 1) (.a (.a (.v 0)<|.a (.n 6)<|.m 3<|.v 1)<|.n 1) rfl;have j:∀{t:AV}{L:LS}{d':DS},Nd (5-deep) t L 0 24 d'.f->Flt d d'->(∀D,rn (D+(6+3*(4-deep))+1) false 1583 [DA,.int deep,.bool il] (dg sc d r rs)=.ok t (dg sc d' r rs))->pG sc deep il d r rs:=λ{t}{L}{d'}h F H=>⟨t,L,d',0,24,h,Qn F.1,Nat.zero_le _,by rw[F.1,Nat.sub_self,Nat.zero_add,Nat.mul_one];exact af (ai _) (.n 258) (.v 0) (.n 24) (.v 0) hg rfl,λh=>Rl F.2 h,λD=>(congrArg (λe=>rn e _ _ _ _)<|Z D).trans<|H D⟩;obtain⟨v,dv,hv,fv,y⟩:=tE hl d.nx r rs;have y:=λD=>eQ (D:=D) (c:=6) (k:=3*(4-deep)) y;obtain⟨x2,hx2,A⟩:=cV hl (n:=2) (by decide) d.nx r rs;have A:=λD=>eQ (D:=D) (c:=6) (k:=3*(4-deep)) A;have yn:∀z,Nd (5-deep) (.tup [.str zs36,v.av]) (fQ v) 0 24 z:=λz=>⟨(KY hv).mono (Nat.zero_le _) (Qg _)<|Qg _,λξ=>La v⟩;obtain⟨one,ho⟩:=yy hx2;have yl:∀c,c=2\/c=3\/c=4->(if aE (jq.map AV.int)=true then(seqIndex? k (jq.map AV.int).length).bind<|aa<|jq.map AV.int else none)=some (.int<|Int.ofNat c)->decide ((2:Int)<deep)=true->∀D,rn (D+(6+3*(4-deep))+1) false 1583 [DA,.int deep,.bool il] (dg sc d r rs)=.ok (.tup [.str zs36,v.av]) (dg sc dv r rs):=λc h hp g D=>ak (by
    rcases h with rfl|rfl|rfl;·exact ah (.C 0 (t1 D)<|.V 0 hp<|.B 1 g<|.C 2 (y D) .nil) 0 ae
    ·exact ah (.C 0 (t1 D)<|.V 0 hp<|.B 1 g<|.C 2 (y D) .nil) 0 ae
    ·exact ah (.C 0 (t1 D)<|.V 0 hp<|.B 1 g<|.C 2 (y D) .nil) 0 ae);rcases Oc c hc with rfl|rfl|h|rfl|rfl|rfl|rfl
  ·obtain⟨x12,_,M⟩:=cV hl (n:=12) (by decide) d.nx r rs;have M:=λD=>eQ (D:=D) (c:=6) (k:=3*(4-deep)) M;exact j (t:=.tup [.str ⟨#[108,111,103]⟩,.int<|1+x12]) (d':=d.nx.nx) (kn (okl:=false)<|yo _) ⟨rfl,rfl⟩ λD=>ak<|by cases g:decide<|(2:Int)<deep with|true=>exact ah (.C 0 (t1 D)<|.V 0 hp<|.B 1 g<|.C 9 (M D) .nil) 1 ae|false=>exact ah (.C 0 (t1 D)<|.V 0 hp<|.B 1 g<|.C 8 (M D) .nil) 1 ae
  ·exact j (yn _) fv λD=>ak<|by exact ah (.C 0 (t1 D)<|.V 0 hp<|.C 1 (y D) .nil) 0 ae
  ·cases g:decide<|(2:Int)<deep with|true=>exact j (yn _) fv<|yl c h hp g|false=>
      have U:deep<=2:=Nat.le_of_not_lt λk=>of_decide_eq_false g<|Int.ofNat_lt.mpr k;have gg:=sC U;have G:=T<|af (ai _) (.v 0) (.n 2) (.p 0 1) (.n 3) U rfl;have e5:5-deep=5-(deep+1)+1:=Nat.le_antisymm (aO (aH _ _ _) (.a (.v 0)<|.v 1) (.n 5) (.n 5) (.a (.v 2)<|.p 1 1) (.v 0) (.p 2 1) (bW<|af (ai _) (.v 0) (.n 3) (.v 0) (.n 5) hd rfl) (cF _ _) rfl)<|aO (aH _ _ _) (.a (.v 0)<|.p 1 1) (.n 5) (.n 5) (.a (.v 2)<|.v 1) (.p 0 1) (.v 2) (bW<|af (ai _) (.v 0) (.n 3) (.p 0 1) (.n 5) hd rfl) (cF _ _) rfl;have eB:∀D,D+HB (deep+1)=D+(5+3*(4-deep)):=λD=>Bo D deep<|Nat.lt_succ_of_le U;have e6:∀D,D+(6+3*(4-deep))=D+1+(5+3*(4-deep)):=λD=>eR (au _ _) (.a (.v 0)<|.a (.n 6)<|.m 3<|.v 1) (.a (.p 0 1)<|.a (.n 5)<|.m 3<|.v 1) rfl;have J:c=3/\¬deep<2\/c=4->pG sc deep il d r rs:=λh=>by
        obtain⟨ts,Ls,d1,Y,B1,K,P,b3,N,x,O,o⟩:=G il d.nx.nx r rs;obtain⟨ts2,Ls2,d2,u2,B2,c1,c2,c3,c4,c5,c6,c7⟩:=G il d1 r rs;have X:=Nat.mul_le_mul_right (d.b-d1.b) gg.1;have q2:=Nat.mul_le_mul_right (d1.b-d2.b) gg.1;have q3:d.b-d2.b=d.b-d1.b+(d1.b-d2.b):=Nat.le_antisymm (eh (kH _ _ _ _ _ _) (.a (.v 0)<|.v 1) (.v 2) (.v 2) (.a (.v 3)<|.v 4) (.v 4) (.a (.v 5)<|.v 1) (.v 0) (.a (.v 3)<|.v 5) (bW<|aO (aH _ _ _) (.v 0) (.v 1) (.v 1) (.v 2) (.v 0) (.v 2) c3 b3 rfl) (cF _ _) (cF _ _) rfl)<|eh (kH _ _ _ _ _ _) (.a (.v 0)<|.v 1) (.v 2) (.a (.v 3)<|.v 4) (.v 1) (.v 2) (.a (.v 5)<|.v 4) (.a (.v 0)<|.v 3) (.v 5) (bW<|af (au _ _) (.v 0) (.v 1) (.v 0) (.v 1) b3 rfl) (bW<|af (au _ _) (.v 0) (.v 1) (.v 0) (.v 1) c3 rfl) (cF _ _) rfl;refine⟨.tup [.str ⟨#[105,102]⟩,.int<|1+(x2:Int),.fl ts,.fl ts2],ix one (a8 Ls)<|a8 Ls2,d2,Y+u2,B1+B2+4,⟨Rr e5<|by rw[ho];exact K0 K.trs.1 c1.trs.1 (af (ai _) (.v 0) (.n 3) (.v 0) (.n 1000) P rfl) (af (ai _) (.v 0) (.n 3) (.v 0) (.n 1000) c2 rfl)<|af (au _ _) (.a (.v 0)<|.p 1 1) (.n 5) (.v 0) (.n 4) (bW<|af (ai _) (.v 0) (.n 3) (.p 0 1) (.n 5) hd rfl) rfl,λz=>Lc (K.trs.2<|c6 z)<|c1.trs.2 z⟩,af (aH _ _ _) (.a (.v 0)<|.v 1) (.v 2) (.v 1) (.v 2) (bW<|aO (aH _ _ _) (.v 0) (.v 1) (.v 1) (.v 2) (.v 0) (.v 2) c3 b3 rfl) rfl,ik (ef _ _ _ _ _) (.v 0) (.m 2<|.v 1) (.v 2) (.m 2<|.v 3) (.a (.v 1)<|.v 3) (.v 4) (.a (.v 1)<|.v 3) (.v 4) (.a (.v 0)<|.v 2) (.m 2<|.p 4 1) N c4 (i4 q3) (i4 q3) rfl,?_,λz=>O<|c6 z,λD=>?_⟩;·rw[q3,Nat.mul_add,Nat.mul_add,Nat.mul_one];exact N8 (Bn _ _ _ _ _ _ _) (.v 0) (.p 1 1) (.v 2) (.p 3 1) (.v 3) (.v 4) (.v 1) (.v 5) (.n 258) (.v 6) (.a (.a (.v 0)<|.v 2)<|.n 4) (.a (.a (.v 5)<|.v 4)<|.v 6) x c5 q2 X hg rfl
        · rw[Z];have o:=o<|D+1;have c7:=c7<|D+1;rw[eB,<-e6]at o c7;have A:=A D;rcases h with⟨rfl,hn⟩|rfl;·have cd:=mw hn;exact ak<|by exact ah (.C 0 (t1 D)<|.V 0 hp<|.B 1 g<|.B 2 cd<|.C 1 A<|.C 2 o<|.C 1 c7 .nil) 0 ae
          ·exact ak<|by exact ah (.C 0 (t1 D)<|.V 0 hp<|.B 1 g<|.C 4 A<|.C 2 o<|.C 1 c7 .nil) 0 ae
      rcases h with rfl|rfl|rfl
      · obtain⟨ts,Ls,d1,Y,B1,K,P,b3,N,x,O,o⟩:=G il d.nx r rs;obtain⟨tl,Ll,d2,l1,l2,l3,l4⟩:=lG hl false false false d1 r rs;have N:Y<=2*(d.b-d1.b):=N;have X:=Nat.mul_le_mul_right (d.b-d1.b) gg.1;have e1:=l3.1;refine⟨.tup [.str ⟨#[116,114,121]⟩,.fl ts,.fl tl],iZ (a8 Ls)<|a8 Ll,d2,Y,B1+55,⟨Rr e5<|yv K.trs.1 l1 (af (ai _) (.v 0) (.n 3) (.v 0) (.n 1000) P rfl) l2<|af (au _ _) (.a (.v 0)<|.p 1 1) (.n 5) (.v 0) (.n 4) (bW<|af (ai _) (.v 0) (.n 3) (.p 0 1) (.n 5) hd rfl) rfl,λz=>I7 (K.trs.2<|l3.2▸z)<|rP l1⟩,aO (aH _ _ _) (.v 0) (.v 1) (.v 1) (.v 2) (.v 0) (.v 2) (Qn e1) b3 rfl,by omega,?_,λz=>O<|l3.2▸z,λD=>?_⟩;·rw[e1,Nat.mul_add,Nat.mul_one];exact eh (b8 _ _ _ _) (.v 0) (.p 1 1) (.v 1) (.v 2) (.n 258) (.v 3) (.p 0 55) (.a (.v 2)<|.v 3) x X hg rfl
        ·rw[Z];have o:=o<|D+1;rw[eB,<-e6]at o;have l4:=eQ (D:=D) (c:=6) (k:=3*(4-deep)) l4;exact ak<|by exact ah (.C 0 (t1 D)<|.V 0 hp<|.B 1 g<|.C 2 o<|.C 0 l4 .nil) 0 ae
      · by_cases h2:deep<2
        · obtain⟨ts,Ls,d1,Y,B1,K,P,b3,N,x,O,o⟩:=G true d.nx.nx r rs;have x:=x;have g2:2*(Gc (deep+1)+1)<=Gc deep:=by clear T hg t1 Z j y A yn yl gg G e5 eB e6 J K o x;clear x;rcases mu deep h2 with rfl|rfl<;>decide
          have X:=Nat.mul_le_mul_right (d.b-d1.b) g2;rw[Nat.mul_assoc]at X;refine⟨.tup [.str zs37,.int<|1+(x2:Int),.fl ts],dG (a8 Ls)<|1+x2,d1,Y+2,2*B1+52,⟨Rr e5<|(show(1:Int)+x2=(1+x2:Nat)from rfl)▸GS (by omega) K.trs.1 (af (ai _) (.v 0) (.n 3) (.v 0) (.n 1000) P rfl) (af (au _ _) (.a (.v 0)<|.p 1 1) (.n 5) (.v 0) (.n 4) (bW<|af (ai _) (.v 0) (.n 3) (.p 0 1) (.n 5) hd rfl) rfl),λz=>w7 (K.trs.2 z) _⟩,b3,af (au _ _) (.v 0) (.m 2<|.v 1) (.p 0 2) (.m 2<|.p 1 1) N rfl,?_,O,λD=>?_⟩;·exact ik (b8 _ _ _ _) (.v 0) (.p 1 1) (.v 0) (.p 1 1) (.m 2<|.v 1) (.v 2) (.n 258) (.v 3) (.a (.m 2<|.v 0)<|.n 52) (.a (.v 2)<|.v 3) x x X hg rfl
          ·rw[Z];have o:=o<|D+1;rw[eB,<-e6]at o;have cd:=ip h2;exact ak<|by exact ah (.C 0 (t1 D)<|.V 0 hp<|.B 1 g<|.B 2 cd<|.C 0 (A D)<|.C 2 o .nil) 0 ae
        ·exact J<|.inl ⟨rfl,h2⟩
      ·exact J<|.inr rfl
  ·obtain⟨v,dv,hv,fv,y⟩:=tE hl d.nx.nx r rs;have y:=λD=>eQ (D:=D) (c:=6) (k:=3*(4-deep)) y;exact j (t:=.tup [.str zs22,.int<|1+(x2:Int),v.av]) (by rw[ho];exact kn (okl:=false)<|yt one hv) fv λD=>ak<|by cases g:decide<|(2:Int)<deep with|true=>exact ah (.C 0 (t1 D)<|.V 0 hp<|.B 1 g<|.C 7 (A D)<|.C 1 (y D) .nil) 0 ae|false=>exact ah (.C 0 (t1 D)<|.V 0 hp<|.B 1 g<|.C 5 (A D)<|.C 1 (y D) .nil) 0 ae
  ·exact j (d':=d.nx.nx) (kn (okl:=false)<|yp<|yz hx2) ⟨rfl,rfl⟩ λD=>ak<|by cases g:decide<|(2:Int)<deep with|true=>exact ah (.C 0 (t1 D)<|.V 0 hp<|.B 1 g<|.C 8 (A D) .nil) 1 ae|false=>exact ah (.C 0 (t1 D)<|.V 0 hp<|.B 1 g<|.C 6 (A D) .nil) 1 ae
  · obtain⟨x3,Q,w⟩:=cV hl (n:=bif il then 3 else 1) (by clear j yl;cases il<;>decide) d.nx r rs;have w:=λD=>eQ (D:=D) (c:=6) (k:=3*(4-deep)) w;have hx:x3=0\/il=true/\(x3=1\/x3=2):=by clear j yl w;clear w;cases il with|true=>exact(pL x3 Q).imp id λh=>⟨rfl,h⟩|false=>exact .inl<|Nat.le_antisymm (af (ai _) (.p 0 1) (.n 1) (.v 0) (.n 0) Q rfl)<|aK (ai _) (.n 0) (.v 0) rfl
    rcases hx with rfl|⟨rfl,rfl|rfl⟩;·refine j (d':=d.nx.nx) (kn yq) ⟨rfl,rfl⟩ λD=>ak ?_;clear j yl Q;cases il with
      |true=>cases g:decide<|(2:Int)<deep with|true=>exact ah (.C 0 (t1 D)<|.V 0 hp<|.B 1 g<|.C 11 (w D) .nil) 1 ae|false=>exact ah (.C 0 (t1 D)<|.V 0 hp<|.B 1 g<|.C 9 (w D) .nil) 1 ae
      |false=>cases g:decide<|(2:Int)<deep with|true=>exact ah (.C 0 (t1 D)<|.V 0 hp<|.B 1 g<|.C 11 (w D) .nil) 1 ae|false=>exact ah (.C 0 (t1 D)<|.V 0 hp<|.B 1 g<|.C 9 (w D) .nil) 1 ae
    ·exact j (d':=d.nx.nx) (kn vX) ⟨rfl,rfl⟩ λD=>ak<|by cases g:decide<|(2:Int)<deep with|true=>exact ah (.C 0 (t1 D)<|.V 0 hp<|.B 1 g<|.C 11 (w D) .nil) 1 ae|false=>exact ah (.C 0 (t1 D)<|.V 0 hp<|.B 1 g<|.C 9 (w D) .nil) 1 ae
    ·exact j (d':=d.nx.nx) (kn yr) ⟨rfl,rfl⟩ λD=>ak<|by cases g:decide<|(2:Int)<deep with|true=>exact ah (.C 0 (t1 D)<|.V 0 hp<|.B 1 g<|.C 11 (w D) .nil) 1 ae|false=>exact ah (.C 0 (t1 D)<|.V 0 hp<|.B 1 g<|.C 9 (w D) .nil) 1 ae
  ·obtain⟨t,L,d1,u,B,K,P,b3,N,x,O⟩:=Jc hl hd (λh=>T h il) d.nx r rs;refine⟨t,L,d1,u,B,K,P,b3,N,x,λD=>?_⟩;rw[Z];refine ak ?_;cases g:decide<|(2:Int)<deep with|true=>exact ah (.C 0 (t1 D)<|.V 0 hp<|.B 1 g<|.C 10 (O D) .nil) 0 ae|false=>exact ah (.C 0 (t1 D)<|.V 0 hp<|.B 1 g<|.C 8 (O D) .nil) 0 ae
end
section
variable{sc:List Int}
theorem NK(hl:sc.length<=40)(a:Bool):jv sc 3 a:=ot hl<|pH hl (bL rfl) λh=>absurd h<|bD rfl
theorem NL(hl:sc.length<=40)(a:Bool):jv sc 2 a:=ot hl<|pH hl (bL rfl) λb=>NK hl
theorem NM(hl:sc.length<=40)(a:Bool):jv sc 1 a:=ot hl<|pH hl (bL rfl) λb=>NL hl
theorem NN(hl:sc.length<=40):jv sc 0 false:=ot hl<|pH hl (bL rfl) λb=>NM hl
end
section
variable{D h:Nat}
theorem v3(f:AV->Option AV):∀{a b x y:List AV},dX f a=some x->dX f b=some y->dX f (a++b)=some (x++y)|[],b,x,y,d,j=>by haveI d:=sI d;subst d;exact j|c::a,b,x,y,d,j=>by refine(?_:(f c).bind _=_);haveI d:((f c).bind λk=>(dX f a).map λm=>k::m)=some x:=d;cases l:f c with|none=>rw[l]at d;exact nS d|some n=>rw[l]at d;cases i:dX f a with|none=>rw[i]at d;exact nS d|some k=>rw[i]at d;haveI d:=sI d;subst d;refine ?_;refine Rr (v3 f i j) ?_;rfl
theorem qG(n:Nat)(b:AS):∀l:List Int,dX (cA (n+1) b) (l.map .int)=some (l.map .int)|[]=>rfl|i::l=>by refine(?_:(dX (cA (n+1) b)<|l.map .int).map (λd=>AV.int i::d)=_);refine Rr (qG n b l) ?_;rfl
theorem yB:∀(a:List d)(x:d)(b:List d),aa (a++x::b) a.length=some x|[],x,b=>rfl|y::a,x,b=>yB a x b
theorem w8(c:AS):∀(ls:List<|List Int)(a:List AO),aa c 12=some (ls.reverse.map cQ++a)->dX (cA 4 c) (df ls.length)=some (ls.reverse.map λl=>AV.fl<|l.map .int)
 |[],a,_=>rfl|l::ls,a,H=>by
  rw[Qf,List.map_append,Qd]at H;haveI f:=w8 c ls (cQ l::a) H;haveI g:gt c 12 ls.length=some (cQ l):=by show(aa c 12).bind _=_;refine Rr H ?_;haveI:=yB (ls.reverse.map cQ) (cQ l) a;rw[Qb,Qe]at this;exact this
  haveI e:cA 4 c (.ref 12 ls.length)=some (.fl<|l.map .int):=by show(gt c 12 ls.length).bind _=_;refine Rr g ?_;refine(?_:(dX (cA 3 c)<|l.map .int).map AV.fl=_);rw[qG];rfl
  refine Rr Qf<|Rr List.map_append ?_;exact v3 _ f<|by show(cA 4 c<|.ref 12 ls.length).bind _=_;refine Rr e ?_;rfl
noncomputable def Rg.av(r:Rg):AS:=[r.r0,r.r1,r.r2,r.r3,r.r4,r.r5,r.r6,r.r7,r.r8,r.r9,[],r.r11,[]]
noncomputable def jV(P:Pl):AV:=.tup [.fl<|P.ls.reverse.map λl=>AV.fl<|l.map .int,.fl<|P.vs.map .int,bB P.o]
theorem GW(b:AS)(o:MO):cA 5 b (bB o)=some (bB o):=by cases o<;>rfl
theorem GX(r:Rg)(left:Int)(cx:LC)(P:Pl):cA 6 (ws r left cx P.s P.ls P.vs) (.tup [.ref 10 1,.ref 10 2,bB P.o])=some (jV P):=by
 haveI f:cA 5 (ws r left cx P.s P.ls P.vs) (.ref 10 1)=some (.fl<|P.ls.reverse.map λl=>AV.fl<|l.map .int):=by show(dX (cA 4 _)<|df P.ls.length).map AV.fl=_;refine Rr (w8 _ P.ls []<|by rw[Qc];rfl) ?_;rfl
 haveI g:cA 5 (ws r left cx P.s P.ls P.vs) (.ref 10 2)=some (.fl<|P.vs.map .int):=by show(dX (cA 4 _)<|P.vs.map .int).map AV.fl=_;rw[qG];rfl
 show((cA 5 _<|.ref 10 1).bind λa=>((cA 5 _<|.ref 10 2).bind λb=>((cA 5 _<|bB P.o).bind λc=>some [c]).map λe=>b::e).map λe=>a::e).map AV.tup=_;rw[f,g,GW];rfl
open Classical in
theorem PK(h:(code TP LL false f a d).ev (rn D)=.go (.ret v) [] e)(m:gm d 10=true/\gm d 12=true/\∀r,r≠10->r≠12->aa e r=aa d r)(k:cA 6 e v=some l)(p:TP.kd f=1:=by kernel_rfl):rn (D+1) false f a d=.ok l d:=by show(match TP.kd f with|0=>_|1=>kK d<|fin<|(code TP LL false f a d).ev<|rn D|_=>_)=_;refine Rr p<|Rr h ?_;refine(?_:(if gm d 10=true/\gm d 12=true/\∀r,r≠10->r≠12->aa e r=aa d r then match cA 6 e v with|some v=>R.ok v d|none=>.stuck else .stuck)=_);exact Rr (if_pos m)<|Rr k rfl
theorem Jd(r:Rg)(left:Int)(cx:LC)(s:Lw)(ls:List<|List Int)(vs:List Int):∀k,k≠10->k≠12->aa (ws r left cx s ls vs) k=aa r.av k:=λk h g=>by have e:ws r left cx s ls vs=aD (λ_=>(aa (ws r left cx s ls vs) 10).getD []) (aD (λ_=>(aa (ws r left cx s ls vs) 12).getD []) r.av 12) 10:=rfl;rw[e,bT,if_neg<|Ne.symm h,bT,if_neg<|Ne.symm g]
theorem GY{ts:List AV}(H:Wq h (.fl ts) L false)(d:h<=900)(r:Rg)(b left:Int)(D:Nat)(hP:(play left (L ⟨[],[]⟩ ⟨b,0,0⟩) [[]] []).ok):rn (D+h+1) false 1632 [.fl ts,.int b,.int left] r.av=.ok (jV<|play left (L ⟨[],[]⟩ ⟨b,0,0⟩) [[]] []) r.av:=by haveI k:=H r left ⟨[],[]⟩ ⟨b,0,0⟩ [] [] [] D ⟨af (ai _) (.v 0) (.n 900) (.a (.n 0)<|.v 0) (.n 900) d rfl,af (ai _) (.v 0) (.n 900) (.a (.n 0)<|.v 0) (.n 900) d rfl,λp hp=>absurd hp Qr,λh=>by exact fT h⟩ hP;exact PK (aG 0 k<|az 4 ae) ⟨rfl,rfl,Jd r left ⟨[],[]⟩ _ _ _⟩<|GX r left ⟨[],[]⟩ _
end
noncomputable def gX:AO:=.inst 222 [(⟨#[107,116]⟩,.ref 0 2),(⟨#[116,121,112,101,115]⟩,.fl [.none]),(⟨#[102,105,101,108,100,115,95]⟩,.fl [.none]),(⟨#[109,101,116,104,111,100,115]⟩,.fl [.none]),(⟨#[110,97,109,101,115]⟩,.ref 0 8),(⟨#[97,115,109,115]⟩,.fl []),(⟨#[101,110,116,114,121]⟩,.int 0)]
noncomputable def iy:AO:=.inst 110 [(zs7,.ref 0 3),(⟨#[105,110,100,101,120]⟩,.ref 0 4),(⟨#[100,101,112,116,104,115]⟩,.ref 0 5),(⟨#[119,101,105,103,104,116,115]⟩,.ref 0 6),(⟨#[111,112,101,110,115]⟩,.ref 0 7)]
noncomputable def pr(n:Int):AV:=.tup [.int 1,.int n]
noncomputable def lW:List AV:=[pr 0,pr 1,pr 2,pr 3,pr 4,pr 5,pr 6,pr 7,pr 8,pr 9,pr 10,pr 11,pr 12,pr 13,pr 14,pr 15]
noncomputable def pk(n:Int):TK×AV:=([.inl 1,.inl n],.int n)
noncomputable def mm:List<|TK×AV:=[pk 0,pk 1,pk 2,pk 3,pk 4,pk 5,pk 6,pk 7,pk 8,pk 9,pk 10,pk 11,pk 12,pk 13,pk 14,pk 15]
noncomputable def bP:List AV:=[.int 1,.int 1,.int 1,.int 1,.int 1,.int 1,.int 1,.int 1,.int 1,.int 1,.int 1,.int 1,.int 1,.int 1,.int 1,.int 1]
noncomputable def eC:List AV:=[.int 0,.int 0,.int 0,.int 0,.int 0,.int 0,.int 0,.int 0,.int 0,.int 0,.int 0,.int 0,.int 0,.int 0,.int 0,.int 0]
noncomputable abbrev eX:AS:=[[],[],[],[],[],[],[],[],[],[],[],[]]
theorem yC(D:Nat)(o:AO):rn (D+10) false 219 [.ref 0 1] ([o,.inst 222 []]::eX)=.ok .none ([o,gX,iy,.list lW,.tdict mm,.list bP,.list bP,.list eC,.edict]::eX):=by kernel_rfl
noncomputable def iz:AO:=.inst 264 [(zs7,.fl [])]
noncomputable def kh(o:AO)(R:List AV)(I:List<|TK×AV)(d w p:List AV)(tl:List AO):AS:=(o::gX::iy::.list R::.tdict I::.list d::.list w::.list p::.edict::tl)::eX
noncomputable def fR(t:Int)(a:List Int):AV:=.tup [.int 2,.int t,.tup<|a.map .int]
noncomputable def fU(t:Int)(a:List Int)(k:Int):TK×AV:=([.inl 2,.inl t,.inr a],.int k)
noncomputable abbrev R1:=lW++[fR 70 []]
noncomputable abbrev R2:=R1++[fR 71 []]
noncomputable abbrev uP:=mm++[fU 70 [] 16]
noncomputable abbrev iA:=uP++[fU 71 [] 17]
noncomputable def rT(again:Bool):Int:=bif again then 35 else 36
noncomputable abbrev u0:List AO:=[ju,.list [.none],.edict,iz,.edict,.edict,.edict]
theorem zJ(D:Nat)(o:AO):rn (D+10) false 324 [.ref 0 9,.ref 0 1,.int 0] ((o::gX::iy::.list lW::.tdict mm::.list bP::.list bP::.list eC::.edict::[.inst 327 []])::eX)=.ok .none (kh o lW mm bP bP eC u0):=by kernel_rfl
theorem Bf(D:Nat)(o:AO)(b:List AO):rn (D+10) false 170 [.ref 0 2,.int 70,.tup []] (kh o lW mm bP bP eC b)=.ok (.int 16) (kh o R1 uP (bP++[.int 1]) (bP++[.int 1]) (eC++[.int 0]) b):=by kernel_rfl
theorem Bg(D:Nat)(o:AO)(b:List AO):rn (D+10) false 170 [.ref 0 2,.int 71,.tup []] (kh o R1 uP (bP++[.int 1]) (bP++[.int 1]) (eC++[.int 0]) b)=.ok (.int 17) (kh o R2 iA (bP++[.int 1]++[.int 1]) (bP++[.int 1]++[.int 1]) (eC++[.int 0]++[.int 0]) b):=by kernel_rfl
theorem Ct(again:Bool)(D:Nat)(o:AO)(b:List AO):rn (D+10) false 170 [.ref 0 2,.int<|rT again,.tup [.int 7]] (kh o R2 iA (bP++[.int 1]++[.int 1]) (bP++[.int 1]++[.int 1]) (eC++[.int 0]++[.int 0]) b)=.ok (.int 18) (kh o (R2++[fR (rT again) [7]]) (iA++[fU (rT again) [7] 18]) (bP++[.int 1]++[.int 1]++[.int 2]) (bP++[.int 1]++[.int 1]++[.int 2]) (eC++[.int 0]++[.int 0]++[.int 0]) b):=by
 rcases again with _|_;·kernel_rfl
 ·kernel_rfl
noncomputable def jW(ps:List AV)(ret:Int)(body:AV):AO:=.inst 306 [(⟨#[102,110,105,100]⟩,.int 1),(⟨#[109,105,100]⟩,.int 0),(zs40,.fl []),(⟨#[112,97,114,97,109,115]⟩,.fl ps),(⟨#[116,104,105,115,95,107,105,110,100]⟩,.int<|-1),(⟨#[114,101,116]⟩,.int ret),(⟨#[98,111,100,121]⟩,body),(⟨#[117,112]⟩,.int 0),(⟨#[115,111,114,116]⟩,.int 0),(⟨#[101,108,101,109]⟩,.int<|-1),(⟨#[97,116]⟩,.int 0)]
theorem PL(D:Nat)(o:AO)(h:AO)(R:List AV)(I:List<|TK×AV)(d w p:List AV):rn (D+10) false 303 [.ref 0 17,.int 1,.int 0,.int 0,.int 0] (kh o R I d w p<|u0++[h,.inst 306 []])=.ok .none (kh o R I d w p<|u0++[h,jW [] 0 .none]):=by kernel_rfl
section
noncomputable def kA(again:Bool)(o:AO):Kc:=⟨o,gX,iy,.list<|R2++[fR (rT again) [7]],.tdict<|iA++[fU (rT again) [7] 18],.list<|bP++[.int 1]++[.int 1]++[.int 2],.list<|bP++[.int 1]++[.int 1]++[.int 2],.list<|eC++[.int 0]++[.int 0]++[.int 0],iz,jW [.int 1] 18 .none⟩
noncomputable def kF(again:Bool)(o:AO)(body:AV):Kc:=⟨o,gX,iy,.list<|R2++[fR (rT again) [7]],.tdict<|iA++[fU (rT again) [7] 18],.list<|bP++[.int 1]++[.int 1]++[.int 2],.list<|bP++[.int 1]++[.int 1]++[.int 2],.list<|eC++[.int 0]++[.int 0]++[.int 0],iz,jW [.int 1] 18 body⟩
noncomputable def nB:AO:=.inst 627 [(zs7,.ref 0 23)]
noncomputable def pg(K:Kc)(vs:List AV)(th:List AV)(im:List AO)(jM:AO):AS:=[[K.c0,K.c1,K.c2,K.c3,K.c4,K.c5,K.c6,K.c7,.edict,ju,.list vs,.edict,K.c12,.edict,.edict,.edict,kD,K.c17,tf 0 0 0 0,.list th,.list [],.edict,jM,.edict,nB,.edict,.edict,.edict,.edict,.edict,.edict,.edict,.edict,uo,uq,ur,uu],[],[],[],[],[],[],[],[],im,[],[],[]]
variable{again:Bool}{o:AO}{body:AV}{vs:List AV}
theorem Lj(D:Nat):rn (D+10) false 1679 [.ref 0 9] (kg (kF again o body) vs)=.ok (.ref 0 18) (pg (kF again o body) vs [.none] [] .edict):=by kernel_rfl
noncomputable abbrev tH:AO:=.tdict [([.inl 17,.inl 16],.int 1)]
end
section
variable{again:Bool}{o:AO}{body:AV}{vs:List AV}
noncomputable def aX(ks:List Int)(a:Nat)(begun st nu:Int)(cut:AV)(cur:Int):AO:=.inst 1327 [(⟨#[107,105,110,100,115]⟩,.tup<|ks.map .int),(zs19,.ref 1 a),(⟨#[97,114,103,115]⟩,.fl [.int begun]),(⟨#[115,116,97,116,101]⟩,.int st),(zs9,.int nu),(⟨#[99,117,116]⟩,cut),(⟨#[99,117,114,114,101,110,116]⟩,.int cur)]
noncomputable def cR(k c:Int)(i:Nat):AO:=.inst 389 [(zs9,.int k),(zs18,.int c),(zs31,.fl []),(zs32,.none),(zs7,.fl []),(zs33,.int 0),(zs34,.ref 8 i)]
noncomputable def kT(again:Bool)(n:Nat)(o:AO)(body:AV):Kc:=match n with|0=>kF again o body|_=>⟨o,gX,iy,.list<|R2++[fR (rT again) [7]]++bif again then[fR 36 [7],fR 34 []]else[fR 34 []],.tdict<|iA++[fU (rT again) [7] 18]++bif again then[fU 36 [7] 19,fU 34 [] 20]else[fU 34 [] 19],.list<|bP++[.int 1]++[.int 1]++[.int 2]++bif again then[.int 2,.int 1]else[.int 1],.list<|bP++[.int 1]++[.int 1]++[.int 2]++bif again then[.int 2,.int 1]else[.int 1],.list<|eC++[.int 0]++[.int 0]++[.int 0]++bif again then[.int 0,.int 0]else[.int 0],iz,jW [.int 1] 18 body⟩
noncomputable def pa(K:Kc)(vs:List AV)(th:List AV)(ac li ca it im hl:List AO):AS:=[[K.c0,K.c1,K.c2,K.c3,K.c4,K.c5,K.c6,K.c7,.edict,ju,.list vs,.edict,K.c12,.edict,.edict,.edict,kD,K.c17,tf 0 0 0 0,.list th,.list [],.edict,tH,.edict,nB,.edict,.edict,.edict,.edict,.edict,.edict,.edict,.edict,uo,uq,ur,uu],ac,li,ca,[],[],[],[],it,fO 1 16::fO 2 16::fO 3 17::im,[],hl,[]]
noncomputable abbrev iB:List AV:=[.none,.ref 9 0,.ref 9 1,.ref 9 2]
theorem NO(D:Nat):rn (D+10) false 435 [.ref 1 0,.int 0,.ref 0 17,.int 0,.tup [],.tup []] (pa (kF again o body) vs iB [.inst 438 []] [] [] [] [] [])=.ok .none (pa (kF again o body) vs iB [aZ 0 0] [.edict] [.list []] [] [] [.edict]):=by kernel_rfl
theorem NP(D:Nat):rn (D+10) false 435 [.ref 1 1,.int 0,.ref 0 17,.int 0,.tup [],.tup []] (pa (kF again o body) vs iB [aZ 0 0,.inst 438 []] [.edict] [.list []] [] [] [.edict])=.ok .none (pa (kF again o body) vs iB [aZ 0 0,aZ 0 1] [.edict,.edict] [.list [],.list []] [] [] [.edict,.edict]):=by kernel_rfl
noncomputable def bE(again:Bool):List Int:=bif again then[18,19,20]else[18,19]
noncomputable def k6(again:Bool):Int:=bif again then 0 else 1
theorem Je(D:Nat)(a:Int):rn (D+20) false 1385 [.fi 1388 [],.ref 0 18,.ref 1 1,.fl [.int a]] (pa (kF again o body) vs iB [aZ 0 0,aZ 0 1] [.edict,.edict] [.list [],.list []] [] [] [.edict,.edict])=.ok (.int 4) (pa (kT again 1 o body) vs (iB++[.ref 9 3]) [aZ 0 0,aZ 0 1] [.edict,.edict] [.list [],.list []] [aX (bE again) 1 a (k6 again) 4 .none 0] [cR 4 18 0] [.edict,.edict]):=by
 rcases again with _|_;·kernel_rfl
 ·kernel_rfl
end
section
variable{again:Bool}{o:AO}{body:AV}{vs:List AV}{D:Nat}{sc ts:List AV}{b:Int}{lg va en:AV}{z:S}
noncomputable abbrev jw(j:Nat)(loc:aq)(σ:AS):Cd:=execs (cz TP 60<|eU 1691) ((bI 1691).drop j) loc σ l0 l5
noncomputable def ij(sc:List AV)(again:Bool)(b:Int)(ts:List AV)(lg va en:AV)(r:aq):aq:=(q "script",.fl sc)::(q "d",DA)::(q "again",.bool again)::(q "begun",.int b)::(q "tree",.fl ts)::(q "logs",lg)::(q "values",va)::(q "end",en)::r
noncomputable abbrev lu:aq:=[(q "unit",.ref 0 9),(q "kt",.ref 0 2),(q "base",.int 16),(q "heir",.int 17),(q "k",.ref 0 16),(q "fn",.ref 0 17)]
noncomputable abbrev k1(o:AO)(ps:List AV):Kc:=⟨o,gX,iy,.list R2,.tdict iA,.list<|bP++[.int 1]++[.int 1],.list<|bP++[.int 1]++[.int 1],.list<|eC++[.int 0]++[.int 0],iz,jW ps 0 .none⟩
theorem Lk(H:(jw 15 (ij sc again b ts lg va en lu)<|ks (kA again o) 2).ev (rn<|D+30)=z):(jw 6 (ij sc again b ts lg va en [])<|[o]::eX).ev (rn<|D+30)=z:=by haveI d:=mF (k1 o []) (D+28) (n:=0)<|bL rfl;haveI c:=mF (k1 o [.int 1]) (D+28) (n:=1)<|bL rfl;haveI f:=PL (D+20) o kD R2 iA (bP++[.int 1]++[.int 1]) (bP++[.int 1]++[.int 1])<|eC++[.int 0]++[.int 0];cases again with|true=>exact bH (.C 0 (yC (D+20) o)<|.C 0 (zJ (D+20) o)<|.C 2 (Bf (D+20) o u0)<|.C 0 (Bg (D+20) o u0)<|.C 0 f<|.C 0 d<|.C 1 c<|.C 1 (Ct true (D+20) o [ju,.list<|vL 2,.edict,iz,.edict,.edict,.edict,kD,jW [.int 1] 0 .none]) .nil) 1 H|false=>exact bH (.C 0 (yC (D+20) o)<|.C 0 (zJ (D+20) o)<|.C 2 (Bf (D+20) o u0)<|.C 0 (Bg (D+20) o u0)<|.C 0 f<|.C 0 d<|.C 1 c<|.C 1 (Ct false (D+20) o [ju,.list<|vL 2,.edict,iz,.edict,.edict,.edict,kD,jW [.int 1] 0 .none]) .nil) 1 H
end
section
variable{again:Bool}{o:AO}{body:AV}{vs:List AV}{D n:Nat}{sc ts:List AV}{b:Int}{lg va en:AV}{z:S}
noncomputable abbrev lw:aq:=lu++[(q "ev",.ref 0 18),(q "wall",.ref 1 0),(q "first",.int 4)]
noncomputable abbrev pT(again:Bool)(o:AO)(body:AV)(vs:List AV)(b:Int):AS:=pa (kT again 1 o body) vs (iB++[.ref 9 3]) [aZ 0 0,aZ 0 1] [.edict,.edict] [.list [],.list []] [aX (bE again) 1 b (k6 again) 4 .none 0] [cR 4 18 0] [.edict,.edict]
noncomputable abbrev BK:dc:=d4 1691 59<|aa (bI 1691) 18
noncomputable abbrev le:aq:=lu++[(q "ev",.ref 0 18)]
theorem Jf:(bk BK [.int 16,.int 16,.int 17] (ij sc again b ts lg va en le)<|pg (kF again o body) vs [.none] [] tH).ev (rn<|D+30)=.go .next (ij sc again b ts lg va en le) (pg (kF again o body) vs iB [fO 1 16,fO 2 16,fO 3 17] tH):=by kernel_rfl
end
section
variable{again:Bool}{o:AO}{body:AV}{vs:List AV}{D n:Nat}{sc ts:List AV}{b:Int}{lg va en:AV}{z:S}
theorem Lm(h:rn (D+30) false 1665 [KD,.fl ts] (ks (kA again o) 2)=.ok body (ks (kA again o) n))(H:(jw 21 (ij sc again b ts lg va en lw)<|pT again o body (vL n) b).ev (rn<|D+30)=z):(jw 15 (ij sc again b ts lg va en lu)<|ks (kA again o) 2).ev (rn<|D+30)=z:=by haveI e:=Lj (again:=again) (o:=o) (body:=body) (vs:=vL n)<|D+20;haveI g:=Jf (again:=again) (o:=o) (body:=body) (vs:=vL n) (D:=D) (sc:=sc) (ts:=ts) (b:=b) (lg:=lg) (va:=va) (en:=en);haveI c:=NO (again:=again) (o:=o) (body:=body) (vs:=vL n)<|D+20;haveI f:=NP (again:=again) (o:=o) (body:=body) (vs:=vL n)<|D+20;haveI i:=Je (again:=again) (o:=o) (body:=body) (vs:=vL n) (D+10) b;haveI d:=i8 (D+29) 1388 [] (.fi 1388 [])<|pa (kF again o body) (vL n) iB [aZ 0 0] [.edict] [.list []] [] [] [.edict];exact aG 0 h<|aG 1 e<|eT 4 g<|aG 0 c<|aG 0 d<|aG 0 f<|aG 0 i<|de 0 H
end
section
variable{D:Nat}{z:S}
theorem Ln{l:List Int}(h:l.length<=63):(kI (l.map .int) none<|some<|.int 40).map AV.fl=some (.fl<|(l.take 40).map .int):=by haveI d:aE (l.map AV.int)=true:=br (by rw[Qb];exact af (ai _) (.v 0) (.n 63) (.p 0 0) (.n 300000) h rfl);show(if aE (l.map AV.int)=true then some<|(l.map AV.int).take 40 else none).map AV.fl=_;refine Rr (if_pos d)<|Rr List.map_take ?_;rfl
end
section
variable{D:Nat}{z:S}
theorem ES{S:Sx}(left:Int)(b:Iy):∀(P:Ix)(B:Nat)(t:List AV)(n:Nat),aA S B t n P b->∀(l:List Int)(ls:List<|List Int)(vs:List Int),(play left b (l::ls) vs).o≠.bad/\eV (play left b (l::ls) vs).ls<=eV (l::ls)+B/\(play left b (l::ls) vs).vs.length<=vs.length+B:=by induction b with
 |dn lg s o=>intro P B t n h l ls vs;cases P with|yl=>exact h.elim|dn c w e x=>
   refine⟨λk=>?_,?_,Qi _ _⟩;·haveI:=h.2.2.nb.2;rw[show o=.bad from k]at this;exact cX this
   ·show(l++lg).length+1+eV ls<=l.length+1+eV ls+B;refine Rr Qa ?_;exact af (ef _ _ _ _ _) (.a (.v 0)<|.v 1) (.v 2) (.a (.a (.a (.v 3)<|.v 1)<|.n 1)<|.v 4) (.a (.a (.p 3 1)<|.v 4)<|.v 2) h.1 rfl
 |yl lg s v k r=>
  intro P B t n h l ls vs;rcases P with _|⟨c,w,e,v1,k1⟩;·exact h.elim
  ·refine h.elim λξ ζ0=>ζ0.elim λA ζ1=>ζ1.elim λf ζ2=>ζ2.elim λd j=>?_;refine(r (!iF (vs.length+1:Nat) left) _ f _ _ (j (!iF (vs.length+1:Nat) left) (e.sn+1:Nat) ⟨e.g,e.sn+1,e.th⟩ rfl (Int.ofNat_lt.mpr<|Nat.lt_succ_self _)<|Int.le_refl _) [] ((l++lg)::ls)<|vs++[v]).elim λu ζ0=>ζ0.elim λi m=>?_;refine⟨u,Qh i ?_,Qh m ?_⟩;·show 0+1+((l++lg).length+1+eV ls)+f<=l.length+1+eV ls+B;refine Rr Qa ?_;exact af (kH _ _ _ _ _ _) (.a (.a (.v 0)<|.p 1 1)<|.v 2) (.v 3) (.a (.a (.n 1)<|.a (.a (.a (.v 4)<|.v 1)<|.n 1)<|.v 5)<|.v 2) (.a (.a (.p 4 1)<|.v 5)<|.v 3) d rfl
   ·refine Rr Qa ?_;exact af (ef _ _ _ _ _) (.a (.a (.v 0)<|.p 1 1)<|.v 2) (.v 3) (.a (.a (.v 4)<|.n 1)<|.v 2) (.a (.v 4)<|.v 3) d rfl
noncomputable abbrev LS.at(L:LS)(b:Int):Iy:=L ⟨[],[]⟩ ⟨b,0,0⟩
inductive Cu(again:Bool)(b:Int)(sc:List Int)(d:DS):Prop|mk(ts:List AV)(L:LS)(d':DS)(body:AV)(n:Nat)(M:IS)(h1:∀D,rn (D+20) false 1569 [DA,.int (0:Nat),.bool false] (dg sc d [] eX)=.ok (.fl ts) (dg sc d' [] eX))(h2:∀(r:Rg)(left:Int)D,rn (D+54) false 1632 [.fl ts,.int b,.int left] r.av=.ok (jV<|play left (L.at b) [[]] []) r.av)(h3:∀D,rn (D+55) false 1665 [KD,.fl ts] (ks (kA again<|dO sc d') 2)=.ok body (ks (kA again<|dO sc d') n))(h4:d'.f=false->(L.at b).qt)(h5:2<=n/\n<=20)(h6:cq body)(h7:Pt body M (n+1) false 5 89)(h8:aS M L 3 (n+1) 9389 10 false)(h9:∀left,(play left (L.at b) [[]] []).ok):Cu again b sc d
theorem NQ{a b R:Nat}:fm [] [] a b R:=⟨.nil,λp h=>absurd h Qr,Nat.zero_le _⟩
theorem yD{d c B R:Nat}(H:aS M L d c B R false)(b:Int)(k:e.g 1=b)(f:e.g 2=0)(j:w<=e.sn):aA (cj [] [] d c w e ⟨b,0,0⟩) B e.th e.sn (M ⟨w,[],[]⟩ e)<|L.at b:=H [] [] [] NQ (λi h=>absurd h Qr) (λh=>by exact fT h) w e ⟨b,0,0⟩ ⟨⟨k,f⟩,j,λp h=>absurd h Qr,λp h=>absurd h Qr,Int.le_refl _⟩
theorem PM(hl:sc.length<=40)(again:Bool)(b:Int)(d:DS)(w:d.b<=9):Cu again b sc d:=by
 obtain⟨ts,Ls,d',u,B,o,s,N,i,g,O,t⟩:=NN hl d [] eX;refine o.trs.elim λT y=>?_;refine(T.part (af (ai _) (.v 0) (.n 3) (.v 0) (.n 1000) s rfl)<|bL rfl).elim λF C=>?_;haveI c:d.b-d'.b<=9:=Qh (Nat.sub_le _ _) w;obtain⟨body,n,H,J,K,G,I⟩:=C (kA again<|dO sc d') 2 (Qg _)<|eh (au _ _) (.v 0) (.m 2<|.v 1) (.v 1) (.n 9) (.v 1) (.n 9) (.a (.n 2)<|.v 0) (.n 10000) i c c rfl;obtain⟨M,x,A⟩:=I (n+1)<|Nat.lt_succ_self _;haveI j:aS M (a8 Ls) 3 (n+1) 9389 10 false:=A.wid (Qg _) (Qg _) (by haveI g:B<=1043*(d.b-d'.b)+1:=g;lia);have k:∀left,(play left (LS.at (a8 Ls) b) [[]] []).ok:=λleft=>by obtain⟨k1,p,L⟩:=ES left _ _ _ _ _ (yD j b (e:=⟨λl=>if l=1 then b else 0,0,[]⟩) rfl rfl<|Int.le_refl _) [] [] [];exact⟨k1,Qh p<|bL rfl,Qh L<|bL rfl⟩
 exact⟨ts,a8 Ls,d',body,n,M,t,λr left D=>GY F (bL rfl) r b left D<|k left,H,λh=>y h _ _,⟨J,ik (aH _ _ _) (.v 0) (.a (.n 2)<|.v 1) (.v 1) (.m 2<|.v 2) (.v 2) (.n 9) (.v 2) (.n 9) (.v 0) (.n 20) K i c c rfl⟩,G,x,j,k⟩
theorem PN{n:Nat}(h:n<=40):∃b:Nat,b<=9/\(if 9<4+(n:Int).fdiv 6 then 9 else 4+(n:Int).fdiv 6)=b:=by
 haveI e:(n:Int).fdiv 6=(n/6:Nat):=by refine Rr (Int.fdiv_eq_ediv_of_nonneg _<|bD rfl) ?_;rfl
 refine Rr e ?_;by_cases a:(9:Int)<4+(n/6:Nat);·exact⟨9,bL rfl,if_pos a⟩
 ·exact⟨4+n/6,by omega,by refine Rr (if_neg a) ?_;lia⟩
end
section
variable{D:Nat}{z:S}
inductive Cv(D:Nat)(l:List Int):Prop|mk(again:Bool)(b:Int)(ts:List AV)(P0:Iy)(d':DS)(L:LS)(body:AV)(n:Nat)(M:IS)(h0:P0=L.at b)(h2:∀(r:Rg)(left:Int)D,rn (D+54) false 1632 [.fl ts,.int b,.int left] r.av=.ok (jV<|play left P0 [[]] []) r.av)(h3:∀D,rn (D+55) false 1665 [KD,.fl ts] (ks (kA again<|dO (l.take 40) d') 2)=.ok body (ks (kA again<|dO (l.take 40) d') n))(h4:d'.f=false->P0.qt)(h5:2<=n/\n<=20)(h6:cq body)(h7:Pt body M (n+1) false 5 89)(h8:aS M L 3 (n+1) 9389 10 false)(h9:∀left,(play left P0 [[]] []).ok)(h:∀z,(jw 6 (ij ((l.take 40).map .int) again b ts (.fl<|(play 0 P0 [[]] []).ls.reverse.map λl=>AV.fl<|l.map .int) (.fl<|(play 0 P0 [[]] []).vs.map .int) (bB (play 0 P0 [[]] []).o) [])<|[dO (l.take 40) d']::eX).ev (rn<|D+60)=z->(jw 0 [(q "script",.fl<|l.map .int)]<|[]::eX).ev (rn<|D+60)=z):Cv D l
theorem NR(l:List Int)(h:l.length<=63):Cv D l:=by
 haveI v:=Ln h;haveI hl:(l.take 40).length<=40:=by refine Rr List.length_take ?_;exact Nat.min_le_left _ _
 haveI A:(if aE ((l.take 40).map AV.int)=true then some<|AV.int ((l.take 40).map AV.int).length else none)=some (.int (l.take 40).length):=by rw[ie<|by rw[Qb];exact Qh hl<|bL rfl,Qb]
 obtain⟨d,s,e⟩:=PN hl;obtain⟨k,_,t1⟩:=cV hl (n:=2) (bL rfl) ⟨0,d,false⟩ [] eX;obtain⟨b,_,w⟩:=cV hl (n:=4) (bL rfl) (⟨0,d,false⟩:DS).nx [] eX;obtain⟨ts,L,d',body,n,M,j,g,r,t,p,o,m,y,x⟩:=PM hl (iF k 1) b (⟨0,d,false⟩:DS).nx.nx s;haveI u:=g ⟨[dO (l.take 40) d'],[],[],[],[],[],[],[],[],[],[]⟩ 0;haveI t1:=t1<|D+59;rw[show dg (l.take 40) ⟨0,d,false⟩ [] eX=[.list [.fl<|(l.take 40).map .int,.int 0,.int d,.int 0]]::eX from rfl,<-e]at t1;refine⟨iF k 1,b,ts,L.at b,d',L,body,n,M,rfl,g,r,t,p,o,m,y,x,λz H=>?_⟩;exact gn 0 v<|gn 0 A<|aG 2 t1<|aG 1 (w<|D+59)<|aG 0 (j<|D+40)<|aG 0 (u<|D+6)<|de 0 H
end
section
structure Cn where
 again:Bool
 body:AV
 n:Nat
structure Ry where(c0 c32:AO)(T U O:List AV)no:Nat->Int(ac ca cu:List AO)x:bC(it im hl:List AO)ao:List Nat
structure Ws where
 y:Ry
 e:Me
 m:Md
 f:Nat
noncomputable def Cn.K(C:Cn):Kc:=kT C.again 1 .edict C.body
noncomputable def rz(C:Cn)(y:Ry)(dn:Nat)(gu:List AV):Fx:=⟨y.c0,gX,iy,C.K.c3,C.K.c4,C.K.c5,C.K.c6,C.K.c7,iz,kD,C.K.c17,nB,y.c32,.list y.T,.list y.U,.list y.O,dn,C.n+1,y.no,vL C.n,gu,y.ac,y.ca,y.cu,y.x.sk,y.x.fr,y.it,y.im,y.hl⟩
noncomputable def Ry.adv(y:Ry)(a g:Nat)(cx:MC)(x:bC):Ry:=⟨y.c0,y.c32,y.T,y.U,y.O,y.no,y.ac,aD (λξ=>.list<|cx.its.reverse.map .int) y.ca a,aD (λξ=>bO a g<|Gs a cx.own) y.cu g,x,y.it,y.im,y.hl,y.ao⟩
noncomputable abbrev hp(C:Cn)(s:Ws)(gu:List AV):AS:=sg (rz C s.y 0 gu) s.e s.m s.f 870
variable{C:Cn}{y:Ry}{a g D f f':Nat}{e e':Me}{m m':Md}{own:ba}{its:List Int}{cx':MC}{x':bC}{gd fl v asked:AV}{w:Int}
noncomputable abbrev Lo:dc:=d4 1282 59<|aa (bI 1282) 4
noncomputable abbrev la(g:Nat)(fl ne:AV):aq:=[(q "ev",E),(q "going",.ref 5 g),(q "flow",fl),(q "nested",ne),(q "base",.int 1)]
theorem w9(F:Fx)(d:AV)(e:Me)(m:Md)(f n:Nat):∀(b done:List AV),done.length+b.length<=5000->(bk Lo b (la g fl d)<|sg (F.gu_ done) e m f n).ev (rn D)=.go .next (la g fl d) (sg (F.gu_<|done++b) e m f n)|[],done,_=>by rw[Qc];rfl|u::b,done,h=>by haveI i:=w9 F d e m f n b (done++[u]) (by refine Rr Qa ?_;exact af (au _ _) (.a (.v 0)<|.p 1 1) (.n 5000) (.a (.p 0 1)<|.v 1) (.n 5000) h rfl);rw[Qd]at i;exact kM 3 (md (af (au _ _) (.a (.v 0)<|.p 1 1) (.n 5000) (.p 0 0) (.n 200000) h rfl) u)<|de 0 i
theorem Jg(h:(TS g iP fl d).ev (rn D)=.go (.ret v) [] c):rn (D+1) false 1275 [E,.ref 5 g,fl] d=.ok v c:=ak<|eT 0 h<|az 0 ae
theorem Jh(h:(TS g iP fl d).ev (rn D)=.go .next [(q "ev",E),(q "going",.ref 5 g),(q "flow",v)] c):rn (D+1) false 1275 [E,.ref 5 g,fl] d=.ok (.tup [.int 2,v]) c:=ak<|eT 0 h<|az 0 ae
theorem Bh(o:aa y.cu g=some (bO a g<|Gs a own))(i:aa y.ca a=some (.list<|its.reverse.map .int))(u:own.length<=900)(h:cx'.own.length<=900)(j:rn (D+2) false 1275 [E,.ref 5 g,fl] (sg (fx (rz C y 1 [gd]) a ⟨w,own,its⟩ y.x) e m f 865)=.ok asked (sg (fx (rz C y 1 [gd]) a cx' x') e' m' f' 865)):rn (D+3) false 1282 [E,.ref 5 g,fl] (sg (rz C y 0 [gd]) e m f 870)=.ok asked (sg (rz C (y.adv a g cx' x') 0 [gd]) e' m' f' 870):=by
 haveI e1:fx (rz C y 1 [gd]) a ⟨w,own,its⟩ y.x=(rz C y 1 []).gu_ ([gd]++Gs a own):=by show Fx.ca_ ((rz C y 1 []).gu_<|[gd]++Gs a own) (aD _ y.ca a)=_;refine Rr (mR i) ?_;rfl
 rw[e1]at j;haveI l:∀own:ba,(Gs a own).length=own.length:=λown=>by rw[Gs,Qe,Qb]
 haveI A:=bR (D:=D+1) (rz C y 1 [gd]) e m f 865 5;haveI s:=w9 (D:=D+2) (g:=g) (fl:=fl) (rz C y 1 []) (.int<|870-(865+5:Nat)) e m f 865 (Gs a own) [gd] (by rw[l];exact af (ai _) (.v 0) (.n 900) (.a (.n 1)<|.v 0) (.n 5000) u rfl);haveI r:aE ([gd]++Gs a cx'.own)=true:=br (k:=0) (by rw[Qa,l];exact af (ai _) (.v 0) (.n 900) (.a (.a (.n 1)<|.v 0)<|.n 0) (.n 300000) h rfl);haveI z:(kI ([gd]++Gs a cx'.own) (some<|.int 1) none).map AV.fl=some (.fl<|Gs a cx'.own):=by show(if aE ([gd]++Gs a cx'.own)=true then _ else _:Option<|List AV).map AV.fl=_;refine Rr (if_pos r) ?_;rfl
 haveI t:sL (.list<|[gd]++Gs a cx'.own) (.int 1)=some (.list [gd]):=by show(if aE ([gd]++Gs a cx'.own)=true then _ else _)=_;refine Rr (if_pos r) ?_;rfl
 refine ak ?_;exact ah (.C 5 A<|.O 3 o<|.P 1 s<|.C 0 j<|.V 2 z<|.O 0 o<|.O 2 t .nil) 4 ae
end
section
inductive cv(P0:Iy):Nat->Iy->List (List Int)->List Int->Prop|z:cv P0 0 P0 [] []|s{t:Nat}{lg:List Int}{s:Lw}{v:Int}{k:Bool->Iy}{r:List<|List Int}{w:List Int}:cv P0 t (.yl lg s v k) r w->cv P0 (t+1) (k true) (lg::r) (w++[v])
variable{P0 Q:Iy}{t:Nat}{r:List<|List Int}{w:List Int}{lg lg':List Int}{s s':Lw}{v:Int}{k:Bool->Iy}{o o':MO}
theorem cv.len(H:cv P0 t Q r w):r.length=t/\w.length=t:=by induction H with|z=>exact⟨rfl,rfl⟩|s _ a=>exact⟨congrArg (λb=>b+1) a.1,by refine Rr Qa<|Rr a.2 ?_;rfl⟩
theorem cv.play(H:cv P0 t Q r w)(left:Int):(∀u:Nat,u<t->(u+1:Nat)≠left)->play left P0 [[]] []=play left Q ([]::r) w:=by induction H with|z=>exactλc=>rfl|@s t lg s v k r w h b=>intro a;refine Rr (b λu k=>a u<|Nat.lt_succ_of_lt k) ?_;refine(?_:Mj.Internal.play left (k !iF (w.length+1:Nat) left) _ _=_);refine Rr h.len.2<|Rr (eK<|a t<|Nat.lt_succ_self t) ?_;rfl
theorem ET(left:Int)(P:Iy):∀(l:List Int)(ls:List<|List Int)(vs:List Int),∃x y,(Mj.Internal.play left P (l::ls) vs).ls.reverse=ls.reverse++x/\(Mj.Internal.play left P (l::ls) vs).vs=vs++y:=by induction P with|dn lg s o=>exactλl ls vs=>⟨[l++lg],[],Qf ..,(Qc _).symm⟩|yl lg s v k c=>intro l ls vs;obtain⟨x,y,d,b⟩:=c (!iF (vs.length+1:Nat) left) [] ((l++lg)::ls)<|vs++[v];refine⟨(l++lg)::x,v::y,d.trans ?_,b.trans<|Qd ..⟩;rw[Qf,Qd];rfl
theorem cv.play0(H:cv P0 t Q r w):Mj.Internal.play 0 P0 [[]] []=Mj.Internal.play 0 Q ([]::r) w:=H.play 0 λu b k=>by injection k with k;injection k
noncomputable abbrev jX(P0:Iy):List AV:=(Mj.Internal.play 0 P0 [[]] []).ls.reverse.map λl=>AV.fl<|l.map .int
noncomputable abbrev dh(P0:Iy):List AV:=(Mj.Internal.play 0 P0 [[]] []).vs.map .int
theorem nj{P:Pl}(h:P.ok):(P.ls.reverse.map λl=>AV.fl<|l.map .int).length<=100000/\(P.vs.map AV.int).length<=100000:=by rw[Qb,Qe,Qb];exact⟨Qh (ng _) h.2.1,h.2.2⟩
theorem zK(hP:(Mj.Internal.play 0 P0 [[]] []).ok)(H:cv P0 t (.yl lg s v k) r w):decide ((t:Int)<(dh P0).length)=true/\bG (jX P0) t=some (.fl<|lg.map .int)/\bG (dh P0) ((t+1:Nat)-1)=some (.int v):=by
 refine(nj hP).elim λn l=>?_;refine H.len.elim λm i=>?_;obtain⟨x,y,g,f⟩:=ET 0 (k true) [] (lg::r)<|w++[v];haveI e:=H.s.play0;rw[<-e]at g f;haveI j:aa (Mj.Internal.play 0 P0 [[]] []).ls.reverse t=some lg:=by rw[g,Qf,Qd,<-m,<-Qe];exact eI _ _ _
 haveI h:aa (Mj.Internal.play 0 P0 [[]] []).vs t=some v:=by rw[f,Qd,<-i];exact eI _ _ _
 exact⟨decide_eq_true<|Int.ofNat_lt.mpr<|dD<|dS AV.int h,dZ rfl (dS _ j) (k:=0)<|Qh n<|bL rfl,dZ (Int.add_sub_cancel t 1) (dS _ h) (k:=0)<|Qh l<|bL rfl⟩
theorem Lu(hP:(Mj.Internal.play 0 P0 [[]] []).ok)(H:cv P0 t (.dn lg s o) r w):decide ((t:Int)<(dh P0).length)=false/\bG (jX P0) t=some (.fl<|lg.map .int)/\(Mj.Internal.play 0 P0 [[]] []).o=o:=by
 refine(nj hP).elim λh j=>?_;haveI i:=H.len.1;haveI f:=H.len.2;haveI e:Mj.Internal.play 0 P0 [[]] []=⟨lg::r,w,s,o⟩:=H.play0;haveI g:aa (Mj.Internal.play 0 P0 [[]] []).ls.reverse t=some lg:=by refine Rr e ?_;refine Rr Qf<|Rl i<|Rl Qe ?_;exact bM _ _
 refine⟨decide_eq_false ?_,dZ rfl (dS _ g) (k:=0)<|Qh h<|bL rfl,by exact Rr e rfl⟩;rw[Qb,e];exactλq=>Nat.lt_irrefl _<|f▸Int.ofNat_lt.mp q
theorem Lx(hP:(Mj.Internal.play (t+1:Nat) P0 [[]] []).ok)(H:cv P0 t (.yl lg s v k) r w)(f:k false=.dn lg' s' o'):bG ((Mj.Internal.play (t+1:Nat) P0 [[]] []).ls.reverse.map λl=>AV.fl<|l.map .int) (t+1:Nat)=some (.fl<|lg'.map .int)/\(Mj.Internal.play (t+1:Nat) P0 [[]] []).o=o':=by
 refine(nj hP).elim λh m=>?_;refine H.len.elim λj d=>?_;haveI e:Mj.Internal.play (t+1:Nat) P0 [[]] []=⟨lg'::lg::r,w++[v],s',o'⟩:=by rw[H.play (t+1:Nat) λu i q=>Nat.ne_of_lt (Nat.succ_lt_succ i)<|Int.ofNat.inj q];show Mj.Internal.play _ (k !iF (w.length+1:Nat) (t+1:Nat)) _ _=_;rw[d,gy];refine Rr f ?_;rfl
 haveI g:aa (Mj.Internal.play (t+1:Nat) P0 [[]] []).ls.reverse (t+1)=some lg':=by refine Rr e ?_;refine Rr Qf<|Rr (show t+1=(lg::r).reverse.length by exact Rr Qe<|Rr List.length_cons<|Rr j rfl) ?_;exact bM _ _
 exact⟨dZ rfl (dS _ g) (k:=0)<|Qh h<|bL rfl,Rr e rfl⟩
end
section
variable{C:Cn}{s s1 s':Ws}{a a2 g g2 j j2 D B:Nat}{m m':Md}{own:ba}{its:List Int}{fs:List Fm}{G:Int->Int}{fl v:AV}{w:Int}
structure d8(C:Cn)(s:Ws)(a g j:Nat)(own:ba)(its:List Int)(fs:List Fm)(G:Int->Int):Prop where
 ac:aa s.y.ac a=some (aZ (s.y.no a) a)ao:aa s.y.ao a=some j
 ca:aa s.y.ca a=some (.list<|its.reverse.map .int)cu:aa s.y.cu g=some (bO a g<|Gs a own)sk:Sk s.y.x g fs s.f
 L:∃L,i9 ⟨G,0,[]⟩ s.m a (3*s.f+10) L
 ow:own.length<=900
structure Kq(a g j:Nat)(s s':Ws):Prop where
 ac:∀b o,aa s.y.ac b=some o->aa s'.y.ac b=some o/\s'.y.no b=s.y.no b
 ao:∀b o,aa s.y.ao b=some o->aa s'.y.ao b=some o
 ca:∀b o,b≠a->aa s.y.ca b=some o->aa s'.y.ca b=some o
 cu:∀b o,b≠g->aa s.y.cu b=some o->aa s'.y.cu b=some o
 it:∀b o,b≠j->aa s.y.it b=some o->aa s'.y.it b=some o
 kp:Kp a s.m s'.m
 kx:eF g s.y.x s'.y.x
 sn:s.e.sn<=s'.e.sn
 f:s'.f<=s.f
structure Wd(C:Cn)(y:Ry)(m:Md):Prop where
 ca:y.ca.length=y.ac.length
 li:m.li.length=y.ac.length
 hl:y.hl.length=y.ac.length
 ao:y.ao.length=y.ac.length
 sk:y.x.sk.length=y.cu.length
 fo:y.x.fo.length=y.x.fr.length
 ol:m.ow.length=m.ce.length
 cb:y.c32=.edict\/y.c32=.idict [(1,C.body)]
theorem d8.keep(H:d8 C s a2 g2 j2 own its fs G)(k:Kq a g j s s')(e:a2≠a)(h:g2≠g)(W:Wd C s'.y s'.m):d8 C s' a2 g2 j2 own its fs G:=by obtain⟨o,x,p,r,b,⟨L,c⟩,z⟩:=H;refine⟨Rr (k.ac _ _ o).2 (k.ac _ _ o).1,k.ao _ _ x,k.ca _ _ e p,k.cu _ _ h r,⟨(k.kx.sk _ h).trans b.sk,λt d=>⟨(k.kx.fr _ _ (b.fr t d).2 h).trans (b.fr t d).1,k.kx.fo _ _ (b.fr t d).2⟩,b.nd,W.fo,Qh (Qo k.f _) b.sz⟩,⟨L,(k.kp.li _ e).trans c.li,Qh (Qo (Nat.add_le_add_right (Nat.mul_le_mul_left 3 k.f) 10) _) c.sz,c.no,λl v hl=>?_⟩,z⟩;obtain⟨i,A,u,n⟩:=c.ce l v hl;exact⟨i,A,(k.kp.ce i _ n e).trans u,k.kp.ow i _ n⟩
theorem Kq.trans(h:Kq a g j s s1)(k:Kq a g j s1 s'):Kq a g j s s':=⟨λb o q=>⟨(k.ac b o (h.ac b o q).1).1,(k.ac b o (h.ac b o q).1).2.trans (h.ac b o q).2⟩,λb o q=>k.ao b o<|h.ao b o q,λb o n q=>k.ca b o n<|h.ca b o n q,λb o n q=>k.cu b o n<|h.cu b o n q,λb o n q=>k.it b o n<|h.it b o n q,h.kp.trans k.kp,h.kx.trans k.kx,Qh h.sn k.sn,Qh k.f h.f⟩
theorem yE{l c:List e}(h:∀i x,aa l i=some x->∃y,aa c i=some y):l.length<=c.length:=by
 rcases l with _|⟨x,r⟩;·exact Nat.zero_le _
 ·exact(lj<|Nat.lt_succ_self _).elim λz d=>(h _ _ d).elim λf k=>dD k
theorem yF{l d:List p}(h:∀b,b≠a->aa d b=aa l b)(o:aa l a=some x)(f:aa d a=some n):d.length=l.length:=Nat.le_antisymm (yE λi z e=>by by_cases k:i=a;exact⟨x,Rr k o⟩;exact⟨z,(h i k).symm.trans e⟩)<|yE λi z e=>by by_cases k:i=a;exact⟨n,Rr k f⟩;exact⟨z,(h i k).trans e⟩
theorem Ly:∀{n l:Nat},0<l->l<n+1->aa (vL n) l=some (hJ l):=by intro n;induction n with|zero=>exactλc b=>absurd c<|Nat.not_lt.mpr<|Nat.le_of_lt_succ b|succ n e=>
    intro l c b;by_cases h:l<n+1;·exact cH _<|e c h
    ·cases Nat.le_antisymm (Nat.le_of_lt_succ b)<|Nat.le_of_not_lt h;haveI:=bM (hJ (n+1:Nat))<|vL n;rw[iN]at this;exact this
theorem Lz(d:C.n<=20)(c:0<l)(e:l<C.n+1):bG (vL C.n) l=some (hJ l):=dZ rfl (Ly c e) (k:=0)<|by rw[iN];exact af (ai _) (.v 0) (.n 20) (.a (.p 0 1)<|.n 0) (.n 200000) d rfl
theorem d8.zok(H:d8 C s a g j own its fs G)(b:2<=C.n)(c:C.n<=20)(w:Int)(aw:AV):cP (rz C s.y 1 [cp w .none aw]) a g w<|C.n+1:=⟨⟨H.ac,λl e d=>Lz c e d⟩,Qg _,Nat.succ_le_succ b,⟨[],aw,rfl⟩,bL rfl,⟨_,H.ca⟩,⟨_,H.cu⟩⟩
noncomputable def qg(o o':MO):Prop:=o≠.bad/\((o=o'/\∀it g r,o≠.thr it g r)\/∃it g r k at_,o=.thr it g r/\o'=.thr it k at_)
theorem dk.mor(H:dk w own e G o o'):qg o o':=H.elim (λh=>⟨h.2.1,.inl ⟨h.1,h.2.2⟩⟩) λh=>by obtain⟨it,g,r,k,b,c,d,_⟩:=h;exact⟨λk=>by rw[c]at k;injection k,.inr ⟨it,g,r,k,b,c,d⟩⟩
structure uQ(C:Cn)(D a g j:Nat)(fl gd:AV)(s:Ws)(B B':Nat)(lg:List Int)(asked:AV)(s':Ws):Prop where
 run:rn (D+162) false 1282 [E,.ref 5 g,fl] (hp C s [gd])=.ok asked (hp C s' [gd])th:s'.e.th=s.e.th++eG s.e.th.length lg
 f:s.f+B'<=s'.f+B
 l:lg.length+B'<=B
 k:Kq a g j s s'
 w:Wd C s'.y s'.m
 sf:∃cx x,s'.y=s.y.adv a g cx x
inductive Cw(C:Cn)(D a g j:Nat)(S:Sx)(fl gd:AV)(s:Ws)(B:Nat)(Q:Iy):Prop|dn(lg:List Int)(q:Lw)(o o':MO)(s':Ws)(hQ:Q=.dn lg q o')(h:uQ C D a g j fl gd s B 0 lg (.tup [.int 2,aC o]) s')(ho:qg o o')|yl(lg:List Int)(q:Lw)(v:Int)(k':Bool->Iy)(k:Bool->Int->Me->Ix)(cx:MC)(fs:List Fm)(s':Ws)(B':Nat)(hQ:Q=.yl lg q v k')(h:uQ C D a g j fl gd s B B' lg (.tup [.int 3,.int v]) s')(hr:d8 C s' a g j cx.own cx.its fs s'.e.g)(hR:∀z Z' w' e'',cP Z' a g w' (C.n+1)->e''.g=s'.e.g->a5 D a g (C.n+1) (k z w' e'') Z' ⟨w',cx.own,cx.its⟩ fs (aC<|gi z) e'')(hS:∀z w'(e'':Me),e''.g=s'.e.g->(s'.e.sn:Int)<w'->w'<=e''.sn->aA S B' e''.th e''.sn (k z w' e'') (k' z))
theorem yG(c:Wd C s.y s.m)(H:d8 C s a g j own its fs G)(A:En e' m' a Q)(t:Kp a s.m m')(r:eF g s.y.x n)(p:Sk n g K I)(N:s.e.sn<=e'.sn)(O:P<=s.f):Kq a g j s ⟨s.y.adv a g cx n,e',m',P⟩/\Wd C (s.y.adv a g cx n) m':=by
 refine A.L.elim λL M=>?_;refine H.L.elim λT h=>?_;haveI u:∀{l:List AO}{i:Nat}{z:AO},∀b o,b≠i->aa l b=some o->aa (aD (λF=>z) l i) b=some o:=λb o J k=>by rw[bT,if_neg<|Ne.symm J];exact k
 exact⟨⟨λb o k=>⟨k,rfl⟩,λb o k=>k,u,u,λb o F k=>k,t,r,N,O⟩,(gA ..).trans c.ca,(yF t.li h.li M.li).trans c.li,c.hl,c.ao,(yF r.sk H.sk.sk p.sk).trans<|c.sk.trans (gA ..).symm,p.ol,A.ol,c.cb⟩
theorem sD{S:Sx}(I:Wd C s.y s.m)(H:d8 C s a g j own its fs G)(hn:C.n<=20)(Y:a5 D a g (C.n+1) P (rz C s.y 1 [cp w .none aw]) ⟨w0,own,its⟩ fs fl ⟨G,s.e.sn,s.e.th⟩)(r:aA S B s.e.th s.e.sn P A)(hB:B<=s.f)(l:s.f<=30000)(ht:s.e.th.length<=20000):Cw C D a g j S fl (cp w .none aw) s B A:=by
 obtain⟨y,e,m,f⟩:=s;obtain⟨L,t⟩:=H.L;have V:En ⟨G,e.sn,e.th⟩ m a<|3*f+10:=⟨⟨L,t.li,t.sz,t.no,t.ce⟩,I.ol,ik (au _ _) (.v 0) (.n 20000) (.v 1) (.n 30000) (.v 1) (.n 30000) (.v 1) (.n 30000) (.a (.v 0)<|.a (.m 3<|.v 1)<|.n 10) (.n 200000) ht l l l rfl⟩;rcases P with⟨c,U,e1,o⟩|⟨c,U,e1,v,k⟩;·cases A with|yl=>exact r.elim|dn lg q o'=>obtain⟨h,i,hO⟩:=r;obtain⟨b,rfl⟩:∃b,f=b+c:=⟨f-c,Nat.le_antisymm (af (aH _ _ _) (.v 0) (.a (.v 1)<|.v 2) (.v 0) (.a (.v 1)<|.v 2) (cF _ _) rfl)<|af (aH _ _ _) (.a (.v 0)<|.v 1) (.v 2) (.a (.v 0)<|.v 1) (.v 2) (bW<|aO (b8 _ _ _ _) (.a (.v 0)<|.v 1) (.v 2) (.v 2) (.v 3) (.v 0) (.v 3) h hB rfl) rfl⟩;haveI X:=hO.mor;obtain⟨Q,F,J,z,M,O,u⟩:=Y X.1 iP b (3*b+10) m y.x (af (au _ _) (.a (.v 0)<|.v 1) (.n 30000) (.p 1 1) (.n 100000) l rfl) (V.le<|aK (au _ _) (.a (.a (.m 3<|.v 0)<|.n 10)<|.m 3<|.v 1) (.a (.m 3<|.a (.v 0)<|.v 1)<|.n 10) rfl) H.sk;obtain⟨k1,N⟩:=yG I H z M O u i.sn<|Qi b c;exact .dn lg q o o' ⟨y.adv a g ⟨U,[],[]⟩ F,e1,Q,b⟩ rfl ⟨Bh H.cu H.ca H.ow (Nat.zero_le 900)<|Jh J,i.th,af (b8 _ _ _ _) (.a (.v 0)<|.v 1) (.v 2) (.a (.a (.v 3)<|.v 0)<|.n 0) (.a (.v 3)<|.v 2) h rfl,af (aH _ _ _) (.a (.v 0)<|.v 1) (.v 2) (.p 1 0) (.v 2) h rfl,k1,N,_,_,rfl⟩ X
 ·rcases A with _|⟨lg,q,v',Z⟩;·exact r.elim
  ·obtain⟨rfl,i,B',h,hk⟩:=r;obtain⟨b,rfl⟩:∃b,f=b+c:=⟨f-c,Nat.le_antisymm (af (aH _ _ _) (.v 0) (.a (.v 1)<|.v 2) (.v 0) (.a (.v 1)<|.v 2) (cF _ _) rfl)<|af (aH _ _ _) (.a (.v 0)<|.v 1) (.v 2) (.a (.v 0)<|.v 1) (.v 2) (bW<|aO (ef _ _ _ _ _) (.a (.a (.v 0)<|.p 1 1)<|.v 2) (.v 3) (.v 3) (.v 4) (.v 0) (.v 4) h hB rfl) rfl⟩;obtain⟨Q,F,cx1,K,J,z,M,O,u,T⟩:=Y iP b (3*b+10) m y.x (af (au _ _) (.a (.v 0)<|.v 1) (.n 30000) (.p 1 1) (.n 100000) l rfl) (V.le<|aK (au _ _) (.a (.a (.m 3<|.v 0)<|.n 10)<|.m 3<|.v 1) (.a (.m 3<|.a (.v 0)<|.v 1)<|.n 10) rfl) H.sk;obtain⟨k1,N⟩:=yG I H z M O u i.sn<|Qi b c;obtain⟨L1,d⟩:=z.L;exact .yl lg q v Z k cx1 K ⟨y.adv a g cx1 F,e1,Q,b⟩ B' rfl ⟨Bh H.cu H.ca H.ow T.1<|Jg J,i.th,af (ef _ _ _ _ _) (.a (.a (.v 0)<|.p 1 1)<|.v 2) (.v 3) (.a (.a (.v 4)<|.v 0)<|.v 2) (.a (.v 4)<|.v 3) h rfl,af (b8 _ _ _ _) (.a (.a (.v 0)<|.p 1 1)<|.v 2) (.v 3) (.a (.v 1)<|.v 2) (.v 3) h rfl,k1,N,_,_,rfl⟩ ⟨H.ac,H.ao,bU H.ca _,bU H.cu _,u,⟨L1,d.li,d.sz,d.no,d.ce⟩,T.1⟩ T.2 hk
end
section
variable{a g D f n NV:Nat}{e:Me}{m:Md}{Z:Fx}{body:AV}{M:IS}{L:LS}
theorem Ji(N:Nat)(c:aa Z.cu g=some (bO a g l))(d:aa Z.sk g=some (.list []))(fl:AV)(e:Me)(m:Md)(f n:Nat):(TS g (N+1) fl<|sg Z e m f n).ev (rn D)=.go .next [(q "ev",E),(q "going",.ref 5 g),(q "flow",fl)] (sg Z e m f n):=by exact ah (.O 0 c<|.O 0 d .nil) 2 ae
noncomputable abbrev κ0:eu:=λw e o=>.dn 0 w e o
theorem GZ(P:Ix):P.bind κ0=P:=by induction P with|dn c w e o=>show(bif aR o then Ix.dn c w e o else .dn (0+c) w e o)=_;rw[Nat.zero_add];cases aR o<;>rfl|yl c w e v k b=>exact congrArg (Ix.yl c w e v)<|funext λz=>funext λw=>funext λe=>b z w e
theorem Jj:g9 D a g NV [] [] [] κ0:=λZ w e o i k p N f b m x h j d=>by
 refine i.cu.elim λl c=>?_;rcases N with _|N;·exact absurd h<|Nat.not_lt_zero _
 ·exact⟨m,x,Ji (Z:=fx Z a ⟨w,[],[]⟩ x) N c d.sk (aC o) e m f 865,j,.rfl,.rfl,d⟩
theorem NS(w:Int):dC ⟨w,[],[]⟩ NV false 5:=⟨λp h=>absurd h Qr,λp h=>absurd h Qr,λh=>by exact fT h,bL rfl,bL rfl⟩
noncomputable def Bv(body SV:AV):Prop:=body=.tup [.int 93,SV]\/bN body=false/\SV=.tup [.int 3,.tup [body],.int 0]
inductive Cx(n:Nat)(body:AV)(L:LS):Prop|mk(SV:AV)(M:IS)(h1:Bv body SV)(h2:∀(D a g:Nat)(Z:Fx)(w:Int)(e:Me)(i:Nat),cP Z a g w (n+1)->a5 D a g (n+1) (M ⟨w,[],[]⟩ e) Z ⟨w,[],[]⟩ [⟨i,SV,0,.none⟩] .none e)(h3:aS M L 3 (n+1) 9391 10 false):Cx n body L
theorem yH(H:ff SV M (n+1) false 5)(D a g:Nat)(Z:Fx)(w:Int)(e:Me)(i:Nat)(c:cP Z a g w<|n+1):a5 D a g (n+1) (M ⟨w,[],[]⟩ e) Z ⟨w,[],[]⟩ [⟨i,SV,0,.none⟩] .none e:=by haveI:=H D a g [] [] [] κ0 Jj NS Z w e i c;rwa[GZ]at this
theorem LB(t:cq body)(hp:Pt body M (n+1) false 5 89)(j:aS M L 3 (n+1) 9389 10 false):Cx n body L:=by
 haveI i:=hp.part t<|bL rfl;rcases hp with⟨s,rfl,hC⟩|⟨A,r,_,_⟩;·exact⟨s,M,.inl rfl,yH hC,j.wid (Qg _) (Qg _)<|bL rfl⟩
 ·refine⟨_,ic [M],.inr ⟨r,rfl⟩,yH<|qY (.cons i .nil)<|bL rfl,λd l h u p i w e s k=>?_⟩;refine(?_:aA _ _ _ _ (Ix.pre 1<|Ix.bind (λw e o=>gK o (.dn 1 w e .nx)<|.dn 1 w e o)<|M ⟨w,d,h⟩ e) _);refine Rr (funext λw=>funext λe=>funext λo=>qr o λo=>.dn 1 w e o) ?_;exact aA.pre (c:=1)<|aA.end (c:=1)<|j d l h u p i w e s k
end
section
variable{C:Cn}{y:Ry}{a aj g j D f n:Nat}{e:Me}{m:Md}{gu:List AV}{b:Int}
noncomputable def Fx.na(F:Fx)(ac ca hl:List AO):Fx:=⟨F.c0,F.c1,F.c2,F.c3,F.c4,F.c5,F.c6,F.c7,F.c12,F.c16,F.c17,F.c24,F.c32,F.c37,F.c38,F.c39,F.dn,F.nv,F.no,F.vs,F.gu,ac,ca,F.cu,F.sk,F.fr,F.it,F.im,hl⟩
noncomputable def Bi(k:Int)(l c h:Nat):List<|Str×AV:=[(zs9,.int k),(⟨#[102,110]⟩,.ref 0 17),(zs40,.ref 2 l),(⟨#[116,104,105,115]⟩,.int 0),(⟨#[116,97,114,103,115]⟩,.tup []),(⟨#[109,97,114,103,115]⟩,.tup []),(⟨#[99,97,117,103,104,116]⟩,.ref 3 c),(⟨#[104,111,108,101,115]⟩,.fl []),(⟨#[104,101,108,100]⟩,.ref 11 h),(⟨#[101,110,116,101,114,101,100]⟩,.int 0)]
noncomputable def Md.li_(m:Md)(l:List AO):Md:=⟨l,m.ce,m.ow⟩
theorem xa(F:Fx)(e:Me)(m:Md)(f n:Nat)(k:Int)(i:F.ca.length=F.ac.length)(d:m.li.length=F.ac.length)(l:F.hl.length=F.ac.length):rn (D+1) false 435 [.ref 1 F.ac.length,.int k,.ref 0 17,.int 0,.tup [],.tup []] (sg (F.na (F.ac++[.inst 438 []]) F.ca F.hl) e m f n)=.ok .none (sg (F.na (F.ac++[aZ k F.ac.length]) (F.ca++[.list []])<|F.hl++[.edict]) e (m.li_<|m.li++[.edict]) f n):=by refine dM (τ:=λac=>sg (F.na ac (F.ca++[.list []])<|F.hl++[.edict]) e (m.li_<|m.li++[.edict]) f n) ((lK 438 (Bi k m.li.length F.ca.length F.hl.length) F.ac 10).trans<|Rr i<|Rr d<|Rr l rfl) ?_;haveI h:=lE 438 (Bi k m.li.length F.ca.length F.hl.length) F.ac;exact ah (.O 0 (h 0)<|.O 0 (h 1)<|.O 0 (h 2)<|.O 0 (h 3)<|.O 0 (h 4)<|.O 0 (h 5)<|.O 0 (h 6)<|.O 0 (h 7)<|.O 0 (h 8)<|.O 0 (h 9) .nil) 0 ae
noncomputable def Fx.nc(F:Fx)(cu sk fr:List AO):Fx:=⟨F.c0,F.c1,F.c2,F.c3,F.c4,F.c5,F.c6,F.c7,F.c12,F.c16,F.c17,F.c24,F.c32,F.c37,F.c38,F.c39,F.dn,F.nv,F.no,F.vs,F.gu,F.ac,F.ca,cu,sk,fr,F.it,F.im,F.hl⟩
noncomputable def Bj(a s:Nat):List<|Str×AV:=[(zs19,.ref 1 a),(⟨#[115,116,97,99,107]⟩,.ref 6 s),(zs41,.fl [])]
theorem G0(F:Fx)(e:Me)(m:Md)(f n a:Nat)(d:F.sk.length=F.cu.length):rn (D+1) false 1089 [.ref 5 F.cu.length,.ref 1 a] (sg (F.nc (F.cu++[.inst 1092 []]) F.sk F.fr) e m f n)=.ok .none (sg (F.nc (F.cu++[bO a F.cu.length []]) (F.sk++[.list []]) F.fr) e m f n):=by refine dM (τ:=λcu=>sg (F.nc cu (F.sk++[.list []]) F.fr) e m f n) ((lK 1092 (Bj a F.sk.length) F.cu 3).trans<|Rr d rfl) ?_;haveI h:=lE 1092 (Bj a F.sk.length) F.cu;exact ah (.O 0 (h 0)<|.O 0 (h 1)<|.O 0 (h 2) .nil) 0 ae
theorem zL(h:aa y.ac aj=some (aZ 0 aj))(d:Nat)(e:Me)(m:Md)(f n:Nat):rn (D+2) false 1303 [E,.ref 1 aj] (sg (rz C y d gu) e m f n)=.ok (.int 0) (sg (rz C y d gu) e m f n):=ak<|ah (.O 0 h<|.O 2 h .nil) 0 ae
theorem Jk(s e b:AV)(d:AS):rn (D+1) false 575 [s,e,b] d=.ok b d:=ak<|az 0 ae
noncomputable def Ry.cb_(y:Ry)(o:AO):Ry:=⟨y.c0,o,y.T,y.U,y.O,y.no,y.ac,y.ca,y.cu,y.x,y.it,y.im,y.hl,y.ao⟩
theorem Jl(l:C.body=.tup (.int k::r))(h:y.c32=.edict\/y.c32=.idict [(1,C.body)])(d:Nat)(e:Me)(m:Md)(f n:Nat):rn (D+2) false 1289 [E,.ref 0 17] (sg (rz C y d gu) e m f n)=.ok C.body (sg (rz C (y.cb_<|.idict [(1,C.body)]) d gu) e m f n):=by
 obtain⟨o,body,nn⟩:=C;subst l;obtain⟨c0,c32,T,U,O,no,ac,ca,cu,x,it,i,hl,ao⟩:=y;rcases h with h|h;·subst h;exact ak<|aG 7 (Jk (.fi 578 []) E (.tup<|.int k::r)<|sg (rz ⟨o,.tup<|.int k::r,nn⟩ ⟨c0,.edict,T,U,O,no,ac,ca,cu,x,it,i,hl,ao⟩ d gu) e m f n)<|az 4 ae
 ·subst h;exact ak<|az 5 ae
noncomputable def Ry.ct(y:Ry)(body SV:AV)(a:Nat):Ry:=⟨y.c0,.idict [(1,body)],y.T,y.U,y.O,y.no,y.ac,y.ca,y.cu++[bO a y.cu.length []],⟨y.x.sk++[.list [.ref 7 y.x.fr.length]],y.x.fr++[(⟨0,SV,0,.none⟩:Fm).o],y.x.fo++[y.cu.length]⟩,y.it,y.im,y.hl,y.ao⟩
theorem DL(K:C.body=.tup (.int k::r))(P:r.length<=1000)(c:Bv C.body SV)(h:y.c32=.edict\/y.c32=.idict [(1,C.body)]){q:Int}(J:aa y.ac a=some (aZ q a))(w:y.x.sk.length=y.cu.length)(s:Nat)(e:Me)(m:Md)(f n:Nat):rn (D+3) false 1296 [E,.ref 1 a] (sg (rz C y s gu) e m f n)=.ok (.ref 5 y.cu.length) (sg (rz C (y.ct C.body SV a) s gu) e m f n):=by
 haveI u:=Jl (D:=D) (gu:=gu) K h s e m f n;haveI M:=f5 (l:=.int k::r) (i:=0) (k:=0) rfl<|af (ai _) (.v 0) (.n 1000) (.a (.p 0 1)<|.n 0) (.n 200000) P rfl;haveI H:=G0 (D:=D+1) (rz C (y.cb_<|.idict [(1,C.body)]) s gu) e m f n a w;haveI F:=yf (D:=D+1) ((rz C (y.cb_<|.idict [(1,C.body)]) s gu).nc (y.cu++[bO a y.cu.length []]) (y.x.sk++[.list []]) y.x.fr) SV e m f n;haveI I:aa (y.cu++[bO a y.cu.length []]) y.cu.length=some (bO a y.cu.length []):=bM _ _;haveI t:aa (y.x.sk++[AO.list []]) y.cu.length=some (.list []):=Rl w<|bM _ _;haveI N:aD (λQ=>AO.list [.ref 7 y.x.fr.length]) (y.x.sk++[.list []]) y.cu.length=y.x.sk++[.list [.ref 7 y.x.fr.length]]:=Rl w<|lD _ _ _;rw[K]at u H F c⊢;refine dM (τ:=λL=>sg ((rz C (y.ct (.tup<|.int k::r) SV a) s gu).nc (y.cu++[bO a y.cu.length []]) L<|y.x.fr++[(⟨0,SV,0,.none⟩:Fm).o]) e m f n) N ?_;rcases c with c|⟨z,rfl⟩;·injection c with c;injection c with c A;injection c with c;subst c A;exact ah (.O 0 J<|.C 0 u<|.C 2 H<|.O 0 I<|.O 0 t<|.C 1 F<|.O 0 t .nil) 1 ae
 ·haveI z:=z;exact ah (.O 0 J<|.C 0 u<|.V 0 M<|.B 0 z<|.C 0 H<|.O 0 I<|.O 0 t<|.C 1 F<|.O 0 t .nil) 1 ae
end
section
variable{C:Cn}{y:Ry}{a aj g j D f n:Nat}{e:Me}{m:Md}{gu:List AV}{b:Int}
noncomputable def Ry.ac_(y:Ry)(k:Int)(j:Nat):Ry:=⟨y.c0,y.c32,y.T,y.U,y.O,λb=>if b=y.ac.length then k else y.no b,y.ac++[aZ k y.ac.length],y.ca++[.list []],y.cu,y.x,y.it,y.im,y.hl++[.edict],y.ao++[j]⟩
noncomputable def Ry.itS(y:Ry)(j:Nat)(o:AO):Ry:=⟨y.c0,y.c32,y.T,y.U,y.O,y.no,y.ac,y.ca,y.cu,y.x,aD (λξ=>o) y.it j,y.im,y.hl,y.ao⟩
noncomputable abbrev LD:dc:=d4 1357 59<|aa (bI 1357) 2
noncomputable abbrev zM(j aj a:Nat):aq:=[(q "ev",E),(q "it",.ref 8 j),(q "proto",.ref 1 aj),(q "act",.ref 1 a)]
theorem EU{ks:List Int}(d:aa y.it j=some (aX ks aj b s nu ct cu))(h:aa y.ac aj=some (aZ 0 aj))(hl:m.li.length=y.ac.length)(k:Int)(i:Nat)(e:Me)(f n:Nat):(bk LD [.int 0] (zM j aj y.ac.length)<|sg (rz C (y.ac_ k j) i gu) e (m.li_<|m.li++[.edict]) f n).ev (rn D)=.go .next (zM j aj y.ac.length) (sg (rz C (y.ac_ k j) i gu) e ⟨m.li++[.idict [(1,.ref 4 m.ce.length)]],m.ce++[.list [.int b]],m.ow⟩ f n):=by haveI r:aa (y.ac++[aZ k y.ac.length]) y.ac.length=some (aZ k y.ac.length):=bM _ _;haveI p:=cH [aZ k y.ac.length] h;haveI l:aa (m.li++[AO.edict]) y.ac.length=some .edict:=hl▸bM _ _;haveI o:aD (λt=>AO.idict [(1,.ref 4 m.ce.length)]) (m.li++[.edict]) y.ac.length=m.li++[.idict [(1,.ref 4 m.ce.length)]]:=Rl hl<|lD _ _ _;refine Rl o ?_;exact ah (.O 0 d<|.O 1 r<|.O 0 p<|.O 2 l .nil) 1 ae
noncomputable def Md.beg(m:Md)(a:Nat)(b:Int):Md:=⟨m.li++[.idict [(1,.ref 4 m.ce.length)]],m.ce++[.list [.int b]],m.ow++[(a,1)]⟩
theorem Jm{ks:List Int}(h:Wd C y m)(l:cq C.body)(x:Bv C.body SV)(d:aa y.it j=some (aX ks aj b w nu .none cu))(c:aa y.ac aj=some (aZ 0 aj))(e:Me)(f n:Nat):rn (D+4) false 1357 [E,.ref 8 j] (sg (rz C y 0 gu) e m f n)=.ok .none (sg (rz C (((y.ac_ (e.sn+1) j).ct C.body SV y.ac.length).itS j<|aX ks aj b w nu (.ref 5 y.cu.length) cu) 0 gu) e.n_ (m.beg y.ac.length b) f n):=by refine l.elim λk o=>o.elim λr s=>s.elim λl t=>t.elim λB u=>?_;haveI v:=xa (D:=D+2) (rz C y 0 gu) e.n_ m f n (e.sn+1) h.ca h.li h.hl;haveI A:=EU (C:=C) (D:=D+3) (gu:=gu) d c h.li (e.sn+1) 0 e.n_ f n;haveI z:=DL (y:=y.ac_ (e.sn+1) j) (D:=D) (gu:=gu) l u x h.cb (bM _ _) h.sk 0 e.n_ ⟨m.li++[.idict [(1,.ref 4 m.ce.length)]],m.ce++[.list [.int b]],m.ow++[(y.ac.length,1)]⟩ f n;exact ak<|ah (.O 0 d<|.C 0 (next (rz C y 0 gu) e m f n)<|.O 0 c<|.C 0 (zL (C:=C) (gu:=gu) c 0 e.n_ m f n)<|.O 0 c<|.O 0 c<|.C 0 v<|.O 0 d<|.P 3 A<|.C 0 z<|.O 0 d .nil) 0 ae
end
section
variable{C:Cn}{y:Ry}{a aj g j D f n:Nat}{e:Me}{m:Md}{gu:List AV}{b:Int}{SV:AV}
theorem nC(x:d):∀(l:List d)(i:Nat),i≠l.length->aa (l++[x]) i=aa l i|[],0,h=>absurd rfl h|[],i+1,_=>rfl|_::_,0,_=>rfl|_::l,i+1,h=>nC x l i λk=>h<|congrArg (λo=>o+1) k
noncomputable abbrev Ry.beg(y:Ry)(C:Cn)(SV:AV)(e:Me)(j:Nat)(o:AO):Ry:=((y.ac_ ((e.sn:Int)+1) j).ct C.body SV y.ac.length).itS j o
noncomputable def gB(b:Int):Int->Int:=λl=>if l=1 then b else 0
theorem G1(d:Wd C y m)(i:f<=30000)(e e':Me)(j:Nat)(o:AO)(b:Int):d8 C ⟨y.beg C SV e j o,e',m.beg y.ac.length b,f⟩ y.ac.length y.cu.length j [] [] [⟨y.x.fr.length,SV,0,.none⟩]<|gB b:=by
  refine⟨?_,d.ao▸bM _ _,d.ca▸bM _ _,bM _ _,⟨Rl d.sk<|bM _ _,λt r=>?_,List.nodup_cons.mpr ⟨Qr,List.nodup_nil⟩,?_,?_⟩,⟨[(1,.ref 4 m.ce.length)],Rl d.li<|bM _ _,?_,λl hl=>?_,λl v hl=>?_⟩,Nat.zero_le _⟩;·refine(?_:aa (y.ac++[_]) _=some (aZ (if y.ac.length=y.ac.length then _ else _) _));refine Rr (if_pos rfl) ?_;exact bM _ _
  ·cases P9 r;exact⟨bM _ _,Rl d.fo<|bM _ _⟩
  ·refine ?_;refine Rr Qa<|Rr Qa<|Rr d.fo ?_;rfl
  ·exact af (ai _) (.v 0) (.n 30000) (.a (.n 1)<|.v 0) (.n 100000) i rfl
  ·exact eh (ai _) (.v 0) (.n 30000) (.v 0) (.n 30000) (.v 0) (.n 30000) (.a (.n 1)<|.a (.m 3<|.v 0)<|.n 10) (.n 200000) i i i rfl
  ·refine if_neg λk=>?_;rw[k]at hl;injection hl
  ·haveI hl:(bif iF 1 l then some<|AV.ref 4 m.ce.length else none)=some v:=hl;cases h:iF 1 l with|false=>rw[h]at hl;exact nS hl|true=>rw[h]at hl;injection hl with hl;subst hl;clear hl;cases lQ h;exact⟨_,rfl,bM _ _,Rl d.ol<|bM _ _⟩
theorem yI(b:Nat)(o:AO)(d:b≠i)(k:aa l b=some o):aa (aD (λh=>z) l i) b=some o:=by rw[bT,if_neg<|Ne.symm d];exact k
theorem Jn(d:Wd C y m)(e:Me)(j:Nat)(o:AO)(b:Int)(f:Nat):Kq y.ac.length y.cu.length j ⟨y,e,m,f⟩ ⟨y.beg C SV e j o,e.n_,m.beg y.ac.length b,f⟩:=⟨λc o' h=>⟨cH _ h,if_neg<|Nat.ne_of_lt<|dD h⟩,λc o' h=>cH _ h,λc o' k h=>cH _ h,λc o' k h=>cH _ h,yI,⟨λc l=>nC _ _ _<|Rr d.li l,λi p h=>cH _ h,λi p h k=>jl _ _ _<|Rl d.ol<|dD h⟩,⟨λc l=>nC _ _ _<|Rr d.sk l,λi c h=>cH _ h,λi c h k=>jl _ _ _<|Rl d.fo<|dD h⟩,Qk _,Qg _⟩
theorem gc{c d:Type}{l:List c}{r:List d}{x:c}{z:d}(h:l.length=r.length):(l++[x]).length=(r++[z]).length:=by refine Rr Qa<|Rr Qa<|Rr h ?_;rfl
theorem Jo(c:Wd C y m)(e:Me)(j:Nat)(o:AO)(b:Int):Wd C (y.beg C SV e j o)<|m.beg y.ac.length b:=⟨gc c.ca,gc c.li,gc c.hl,gc c.ao,gc c.sk,gc c.fo,gc c.ol,.inr rfl⟩
noncomputable def Ws.itS(s:Ws)(j:Nat)(o:AO):Ws:=⟨s.y.itS j o,s.e,s.m,s.f⟩
section
variable{s s':Ws}
theorem d8.itS(H:d8 C s a g j c d h G)(i:Nat)(o:AO):d8 C (s.itS i o) a g j c d h G:=⟨H.ac,H.ao,H.ca,H.cu,H.sk,H.L,H.ow⟩
theorem Wd.itS(H:Wd C y m)(i:Nat)(o:AO):Wd C (y.itS i o) m:=⟨H.ca,H.li,H.hl,H.ao,H.sk,H.fo,H.ol,H.cb⟩
theorem Kq.itS(H:Kq a g j s s')(o:AO):Kq a g j s<|s'.itS j o:=⟨H.ac,H.ao,H.ca,H.cu,λc o' d h=>yI c o' d<|H.it c o' d h,H.kp,H.kx,H.sn,H.f⟩
theorem Kq.self(a g j:Nat)(s:Ws)(e:Me)(h:s.e.sn<=e.sn):Kq a g j s ⟨s.y,e,s.m,s.f⟩:=⟨λc c h=>⟨h,rfl⟩,λc c h=>h,λc c c h=>h,λc c c h=>h,λc c c h=>h,.rfl,.rfl,h,Qg _⟩
end
end
section
variable{C:Cn}{y y':Ry}{a aj g j D f f' n:Nat}{e e':Me}{m m':Md}{gd fl:AV}{b nu cu v st:Int}{ks:List Int}{SV:AV}
noncomputable def qh(o:MO)(v:AV)(σ:AS):S:=match o with|.thr i g r=>.ex (ew i g r) [] σ|_=>.go (.ret v) [] σ
noncomputable def fw(o:MO)(v:AV)(σ:AS):R AV:=match o with|.thr i g r=>.ex (ew i g r) σ|_=>.ok v σ
theorem mq{v:AV}(h:(code TP LL false f d k).ev (rn D)=qh o v i)(p:TP.kd f=0:=by kernel_rfl):rn (D+1) false f d k=fw o v i:=by cases o<;>first|exact gP h p|exact ak h p
noncomputable abbrev gr(y:Ry)(j:Nat)(ks:List Int)(aj:Nat)(b nu:Int)(g:Nat)(st cu:Int):Ry:=y.itS j<|aX ks aj b st nu (.ref 5 g) cu
theorem rR(l:o≠.bad):(∃i w r,o=.thr i w r)\/∃k,aC o=.tup [.int k,.none]/\iF k 4=false/\∀v d,qh o v d=.go (.ret v) [] d:=by cases o with|bad=>exact absurd rfl l|thr i w r=>exact .inl ⟨i,w,r,rfl⟩|_=>exact .inr ⟨_,rfl,rfl,λh h=>rfl⟩
section
variable(hit':aa y'.it j=some (aX ks aj b 2 nu (.ref 5 g) cu))
include hit'
theorem Jp(c:aa y.it j=some (aX ks aj b 3 nu (.ref 5 g) cu))(run:rn (D+1) false 1282 [E,.ref 5 g,aC .nx] (sg (rz C (gr y j ks aj b nu g 2 cu) 0 [gd]) e m f 870)=.ok (.tup [.int 3,.int v]) (sg (rz C y' 0 [gd]) e' m' f' 870)):rn (D+2) false 1364 [E,.ref 8 j] (sg (rz C y 0 [gd]) e m f 870)=.ok (.int 1) (sg (rz C (gr (gr y' j ks aj b nu g 3 cu) j ks aj b nu g 3 v) 0 [gd]) e' m' f' 870):=by haveI i:=bU c<|aX ks aj b 2 nu (.ref 5 g) cu;haveI h:=bU hit'<|aX ks aj b 3 nu (.ref 5 g) cu;exact ak<|ah (.O 0 c<|.O 1 c<|.O 1 c<|.O 0 i<|.C 0 run<|.O 2 hit'<|.O 1 h .nil) 0 ae
theorem Jq(l:o≠.bad)(c:aa y.it j=some (aX ks aj b 3 nu (.ref 5 g) cu))(run:rn (D+1) false 1282 [E,.ref 5 g,aC .nx] (sg (rz C (gr y j ks aj b nu g 2 cu) 0 [gd]) e m f 870)=.ok (.tup [.int 2,aC o]) (sg (rz C y' 0 [gd]) e' m' f' 870)):rn (D+2) false 1364 [E,.ref 8 j] (sg (rz C y 0 [gd]) e m f 870)=fw o (.int 0) (sg (rz C (gr y' j ks aj b nu g 4 cu) 0 [gd]) e' m' f' 870):=by
 haveI h:=bU c<|aX ks aj b 2 nu (.ref 5 g) cu;refine mq ?_;rcases rR l with⟨i,w,x,rfl⟩|⟨k,s,p,r⟩;·exact ah (.O 0 c<|.O 1 c<|.O 1 c<|.O 0 h<|.C 0 run<|.O 2 hit' .nil) 5 et
 ·rw[s]at run;rw[r];exact ah (.O 0 c<|.O 1 c<|.O 1 c<|.O 0 h<|.C 0 run<|.O 2 hit'<|.B 2 p .nil) 0 ae
variable{y1:Ry}{e1:Me}{m1:Md}{f1:Nat}{cu1:Int}(hit:aa y.it j=some (aX ks aj b 1 nu .none cu))(r:rn (D+1) false 1357 [E,.ref 8 j] (sg (rz C y 0 [gd]) e m f 870)=.ok .none (sg (rz C y1 0 [gd]) e1 m1 f1 870))(hit1:aa y1.it j=some (aX ks aj b 1 nu (.ref 5 g) cu))
include hit r hit1
theorem Jr(run:rn (D+1) false 1282 [E,.ref 5 g,.none] (sg (rz C (gr y1 j ks aj b nu g 2 cu) 0 [gd]) e1 m1 f1 870)=.ok (.tup [.int 3,.int v]) (sg (rz C y' 0 [gd]) e' m' f' 870)):rn (D+2) false 1364 [E,.ref 8 j] (sg (rz C y 0 [gd]) e m f 870)=.ok (.int 1) (sg (rz C (gr (gr y' j ks aj b nu g 3 cu) j ks aj b nu g 3 v) 0 [gd]) e' m' f' 870):=by haveI d:=bU hit1<|aX ks aj b 2 nu (.ref 5 g) cu;haveI c:=bU hit'<|aX ks aj b 3 nu (.ref 5 g) cu;exact ak<|ah (.O 0 hit<|.C 1 r<|.O 0 hit1<|.O 0 d<|.C 0 run<|.O 2 hit'<|.O 1 c .nil) 0 ae
theorem Js(p:o≠.bad)(run:rn (D+1) false 1282 [E,.ref 5 g,.none] (sg (rz C (gr y1 j ks aj b nu g 2 cu) 0 [gd]) e1 m1 f1 870)=.ok (.tup [.int 2,aC o]) (sg (rz C y' 0 [gd]) e' m' f' 870)):rn (D+2) false 1364 [E,.ref 8 j] (sg (rz C y 0 [gd]) e m f 870)=fw o (.int 0) (sg (rz C (gr y' j ks aj b nu g 4 cu) 0 [gd]) e' m' f' 870):=by
 have c:=bU hit1<|aX ks aj b 2 nu (.ref 5 g) cu;refine mq ?_;rcases rR p with⟨i,w,x,rfl⟩|⟨k,d,l,h⟩;·exact ah (.O 0 hit<|.C 1 r<|.O 0 hit1<|.O 0 c<|.C 0 run<|.O 2 hit' .nil) 5 et
 ·rw[d]at run;rw[h];exact ah (.O 0 hit<|.C 1 r<|.O 0 hit1<|.O 0 c<|.C 0 run<|.O 2 hit'<|.B 2 l .nil) 0 ae
end
theorem NU(c:aa y.it j=some (aX ks aj b 4 nu ct cu))(e:Me)(m:Md)(f:Nat):rn (D+1) false 1364 [E,.ref 8 j] (sg (rz C y 0 [gd]) e m f 870)=.ok (.int 0) (sg (rz C y 0 [gd]) e m f 870):=ak<|ah (.O 0 c<|.O 1 c .nil) 1 ae
theorem NW(r:o≠.bad)(c:aa y.it j=some (aX ks aj b 3 nu (.ref 5 g) cu))(run:rn (D+1) false 1282 [E,.ref 5 g,aC .stop] (sg (rz C (gr y j ks aj b nu g 4 cu) 0 [gd]) e m f 870)=.ok (.tup [.int 2,aC o]) (sg (rz C y' 0 [gd]) e' m' f' 870)):rn (D+2) false 1371 [E,.ref 8 j] (sg (rz C y 0 [gd]) e m f 870)=fw o .none (sg (rz C y' 0 [gd]) e' m' f' 870):=by
 haveI l:=bU c<|aX ks aj b 4 nu (.ref 5 g) cu;refine mq ?_;rcases rR r with⟨i,w,x,rfl⟩|⟨k,s,t,p⟩;·exact ah (.O 0 c<|.O 1 c<|.O 1 c<|.O 1 l<|.C 0 run .nil) 5 et
 ·rw[s]at run;rw[p];exact ah (.O 0 c<|.O 1 c<|.O 1 c<|.O 1 l<|.C 0 run<|.B 2 t .nil) 0 ae
theorem NX(c:aa y.it j=some (aX ks aj b st nu ct cu))(i:st=1\/st=4)(e:Me)(m:Md)(f:Nat):rn (D+1) false 1371 [E,.ref 8 j] (sg (rz C y 0 [gd]) e m f 870)=.ok .none (sg (rz C (y.itS j<|aX ks aj b 4 nu ct cu) 0 [gd]) e m f 870):=by
 rcases i with rfl|rfl;·exact ak<|ah (.O 0 c<|.O 1 c<|.O 1 c .nil) 1 ae
 ·exact ak<|ah (.O 0 c<|.O 1 c<|.O 1 c .nil) 1 ae
end
section
structure Kn where
 C:Cn
 D:Nat
 b:Int
 P0:Iy
variable{K:Kn}{s s1 s':Ws}{a g j j2 t r:Nat}{aw:AV}{nu:Int}{ov:Bool}
structure Bd(C:Cn)(b:Int)(P0:Iy)(SV:AV)(M:IS):Prop where
 h2:2<=C.n
 hn:C.n<=20
 hd:cq C.body
 bv:Bv C.body SV
 rl:∀(D a g:Nat)(Z:Fx)(w:Int)(e:Me)(i:Nat),cP Z a g w (C.n+1)->a5 D a g (C.n+1) (M ⟨w,[],[]⟩ e) Z ⟨w,[],[]⟩ [⟨i,SV,0,.none⟩] .none e
 sm:∀(w:Int)(e:Me),e.g=gB b->w<=e.sn->∃S,aA S 9391 e.th e.sn (M ⟨w,[],[]⟩ e) P0
noncomputable abbrev dQ(K:Kn)(aj:Nat)(st nu:Int)(ct:AV)(cu:Int):AO:=aX (bE K.C.again) aj K.b st nu ct cu
structure qi(K:Kn)(s:Ws)(j a g:Nat)(own:ba)(its:List Int)(fs:List Fm)(G:Int->Int)(k:Bool->Iy)(r:Nat)(S:Sx)(Q:Bool->Int->Me->Ix):Prop where
 m:d8 K.C s a g j own its fs G
 R:∀z Z' w' e'',cP Z' a g w' (K.C.n+1)->e''.g=G->a5 K.D a g (K.C.n+1) (Q z w' e'') Z' ⟨w',own,its⟩ fs (aC<|gi z) e''
 S:∀z w'(e'':Me),e''.g=G->(s.e.sn:Int)<w'->w'<=e''.sn->aA S r e''.th e''.sn (Q z w' e'') (k z)
inductive Es(K:Kn)(s:Ws)(j:Nat)(nu:Int)(t:Nat)(ov:Bool)(r:Nat):Prop|rdy(aj:Nat)(h1:aa s.y.it j=some (dQ K aj 1 nu .none 0))(h0:aa s.y.ac aj=some (aZ 0 aj))(ht:t=0)(hv:ov=false)(hr:r=9391)|pau(aj a g t':Nat)(own:ba)(its:List Int)(fs:List Fm)(G:Int->Int)(rr:List<|List Int)(w lg:List Int)(q:Lw)(v:Int)(k:Bool->Iy)(S:Sx)(Q:Bool->Int->Me->Ix)(h1:aa s.y.it j=some (dQ K aj 3 nu (.ref 5 g) v))(h0:aa s.y.ac aj=some (aZ 0 aj))(hp:cv K.P0 t' (.yl lg q v k) rr w)(h:qi K s j a g own its fs G k r S Q)(ht:t=t'+1)(hv:ov=false)|ovr(aj:Nat)(cut:AV)(cur:Int)(h1:aa s.y.it j=some (dQ K aj 4 nu cut cur))(h0:aa s.y.ac aj=some (aZ 0 aj))(hv:ov=true)
noncomputable def Ne(y:Ry)(j2 a g:Nat):Prop:=∀a2 g2 l,aa y.ao a2=some j2->aa y.cu g2=some (bO a2 g2 l)->a2≠a/\g2≠g
theorem Es.keep(H:Es K s j2 nu t ov r)(k:Kq a g j s s')(l:j2≠j)(M:Wd K.C s'.y s'.m)(i:Ne s.y j2 a g):Es K s' j2 nu t ov r:=by cases H with|rdy aj d b o c B=>exact .rdy aj (k.it _ _ l d) (k.ac _ _ b).1 o c B|ovr aj p cur d b c=>exact .ovr aj p cur (k.it _ _ l d) (k.ac _ _ b).1 c|pau aj D g2 t u f L G A w lg q v x S Q d b hp h o c=>haveI n:=i _ _ _ h.m.ao h.m.cu;exact .pau aj D g2 t u f L G A w lg q v x S Q (k.it _ _ l d) (k.ac _ _ b).1 hp ⟨h.m.keep k n.1 n.2 M,h.R,λz J e F I=>h.S z J e F<|Int.lt_of_le_of_lt (Int.ofNat_le.mpr k.sn) I⟩ o c
theorem d8.ne(H:d8 C s a g j e f m G)(h:j2≠j):Ne s.y j2 a g:=λi g2 l c b=>by
 have d:i≠a:=λk=>by rw[k,H.ao]at c;haveI c:=sI c;exact h c.symm
 refine⟨d,λk=>d ?_⟩;rw[k,H.cu]at b;haveI b:=sI b;injection b with _ b;injection b with b;injection b with _ b;injection b with _ b;exact b.symm
theorem Wd.ne(H:Wd C y m)(j2:Nat):Ne y j2 y.ac.length y.cu.length:=λd g2 l b c=>⟨Rl H.ao<|Nat.ne_of_lt<|dD b,Nat.ne_of_lt<|dD c⟩
structure Sf(y y':Ry):Prop where
 c0:y'.c0=y.c0
 T:y'.T=y.T
 U:y'.U=y.U
 O:y'.O=y.O
 im:y'.im=y.im
 il:y'.it.length=y.it.length
structure Nx(K:Kn)(j:Nat)(lg:List Int)(r r':Nat)(s s':Ws):Prop where
 sf:Sf s.y s'.y
 wd:Wd K.C s'.y s'.m
 th:s'.e.th=s.e.th++eG s.e.th.length lg
 fe:s.f+r'<=s'.f+r
 fl:s'.f<=s.f
 lr:lg.length+r'<=r
 kp:∀j2 nu t ov r2,j2≠j->Es K s j2 nu t ov r2->Es K s' j2 nu t ov r2
noncomputable abbrev gW(e:Me)(aw:AV):AV:=cp ((e.sn:Int)+1) .none aw
inductive Mv(K:Kn)(aw:AV)(s:Ws)(j:Nat)(nu:Int)(t r:Nat):Prop|yl(lg:List Int)(q:Lw)(v:Int)(k:Bool->Iy)(rr:List<|List Int)(w:List Int)(s':Ws)(r':Nat)(hp:cv K.P0 t (.yl lg q v k) rr w)(run:rn (K.D+163) false 1364 [E,.ref 8 j] (sg (rz K.C s.y 0 [gW s.e aw]) s.e.n_ s.m s.f 870)=.ok (.int 1) (Mj.Internal.hp K.C s' [gW s.e aw]))(es:Es K s' j nu (t+1) false r')(nx:Nx K j lg r r' s s'):Mv K aw s j nu t r|dn(lg:List Int)(q:Lw)(o o':MO)(rr:List<|List Int)(w:List Int)(s':Ws)(hp:cv K.P0 t (.dn lg q o') rr w)(ho:qg o o')(run:rn (K.D+163) false 1364 [E,.ref 8 j] (sg (rz K.C s.y 0 [gW s.e aw]) s.e.n_ s.m s.f 870)=fw o (.int 0) (Mj.Internal.hp K.C s' [gW s.e aw]))(es:Es K s' j nu t true 0)(nx:Nx K j lg r 0 s s'):Mv K aw s j nu t r
theorem ou(k:Kq a g j s s')(h:Wd K.C s'.y s'.m)(b:∀j2,j2≠j->Ne s.y j2 a g)(i:Sf s.y s'.y)(n:s'.e.th=s.e.th++eG s.e.th.length lg)(l:s.f+d<=s'.f+r)(hl:lg.length+d<=r):Nx K j lg r d s s':=⟨i,h,n,l,k.f,hl,λj2 nu t ov o c H=>H.keep k c h<|b j2 c⟩
end
section
variable{K:Kn}{Q:Iy}{s s0 s':Ws}{a aj g j t r:Nat}{fl aw:AV}{nu cu st:Int}{SV:AV}{M:IS}{S:Sx}{rr:List<|List Int}{w:List Int}
noncomputable abbrev Ws.sE(s:Ws)(K:Kn)(j aj:Nat)(nu:Int)(g:Nat)(st cu:Int):Ws:=s.itS j<|dQ K aj st nu (.ref 5 g) cu
noncomputable def Rn(K:Kn)(s:Ws)(j:Nat)(fl gd:AV)(s0:Ws)(aj:Nat)(nu:Int)(g:Nat)(cu:Int):Prop:=∀s':Ws,aa s'.y.it j=some (dQ K aj 2 nu (.ref 5 g) cu)->(∀v,rn (K.D+162) false 1282 [E,.ref 5 g,fl] (hp K.C (s0.sE K j aj nu g 2 cu) [gd])=.ok (.tup [.int 3,.int v]) (hp K.C s' [gd])->rn (K.D+163) false 1364 [E,.ref 8 j] (sg (rz K.C s.y 0 [gd]) s.e.n_ s.m s.f 870)=.ok (.int 1) (hp K.C ((s'.sE K j aj nu g 3 cu).sE K j aj nu g 3 v) [gd]))/\∀o,o≠.bad->rn (K.D+162) false 1282 [E,.ref 5 g,fl] (hp K.C (s0.sE K j aj nu g 2 cu) [gd])=.ok (.tup [.int 2,aC o]) (hp K.C s' [gd])->rn (K.D+163) false 1364 [E,.ref 8 j] (sg (rz K.C s.y 0 [gd]) s.e.n_ s.m s.f 870)=fw o (.int 0) (hp K.C (s'.sE K j aj nu g 4 cu) [gd])
theorem Sf.itS(h:Sf y y')(j:Nat)(o:AO):Sf y<|y'.itS j o:=⟨h.c0,h.T,h.U,h.O,h.im,(gA ..).trans h.il⟩
theorem yJ(m:Kq a g j s s0)(b:Sf s.y s0.y)(H:s0.e.th=s.e.th)(n:s0.f=s.f)(h:∀Y,Y≠j->Ne s.y Y a g)(i:aa s0.y.it j=some (dQ K aj st nu (.ref 5 g) cu))(L:aa s0.y.ac aj=some (aZ 0 aj))(R:Rn K s j fl (gW s.e aw) s0 aj nu g cu)(G:Cw K.C K.D a g j S fl (gW s.e aw) (s0.sE K j aj nu g 2 cu) r Q)(hp:cv K.P0 t Q rr w):Mv K aw s j nu t r:=by
 haveI u:=bU i<|dQ K aj 2 nu (.ref 5 g) cu;have mk:∀{B lg V d},uQ K.C K.D a g j fl (gW s.e aw) (s0.sE K j aj nu g 2 cu) r B lg V d->aa d.y.it j=some (dQ K aj 2 nu (.ref 5 g) cu)/\aa d.y.ac aj=some (aZ 0 aj)/\Sf s.y d.y/\d.e.th=s.e.th++eG s.e.th.length lg/\s.f+B<=d.f+r:=λz=>by refine z.sf.elim λcx P=>P.elim λx F=>?_;exact⟨by refine Rr F ?_;exact u,by refine Rr F ?_;exact L,by refine Rr F ?_;exact⟨b.c0,b.T,b.U,b.O,b.im,(gA ..).trans b.il⟩,z.th.trans<|by exact Rr H rfl,Rl n z.f⟩
 rcases G with⟨lg,q,o,o',d,A,z,Z⟩|⟨lg,q,v,k',k,cx,fs,d,B,A,z,hr,hR,hS⟩;·obtain⟨p,N,I,X,J⟩:=mk z;exact .dn lg q o o' rr w _ (Rl A hp) Z ((R d p).2 o Z.1 z.run) (.ovr aj _ cu (bU p _) N rfl)<|ou (((m.itS _).trans z.k).itS _) (z.w.itS _ _) h (I.itS _ _) X J z.l
 ·obtain⟨p,N,I,X,J⟩:=mk z;exact .yl lg q v k' rr w _ B (A▸hp) ((R d p).1 v z.run) (.pau aj a g t cx.own cx.its fs d.e.g rr w lg q v k' S k (bU (bU p _) _) N (A▸hp) ⟨(hr.itS _ _).itS _ _,hR,hS⟩ rfl rfl)<|ou ((((m.itS _).trans z.k).itS _).itS _) ((z.w.itS _ _).itS _ _) h ((I.itS _ _).itS _ _) X J z.l
theorem LF(d:Bd K.C K.b K.P0 SV M)(H:Es K s j nu t false r)(l:Wd K.C s.y s.m)(O:r<=s.f)(B:s.f<=30000)(N:s.e.th.length<=20000)(aw:AV):Mv K aw s j nu t r:=by
 haveI Z:(s.e.sn:Int)+1<=s.e.sn+1:=Int.le_refl _;rcases H with⟨aj,i,P,A,_,X⟩|⟨aj,a,g,t',F,p,V,G,rr,w,lg,q,v,k,S,Q,i,h0,hp,h,A,_⟩|⟨_,_,_,_,_,q⟩;·subst A X;haveI I:=G1 (SV:=SV) l B s.e.n_ s.e.n_.n_ j (dQ K aj 1 nu (.ref 5 s.y.cu.length) 0) K.b;haveI Y:=Jo (SV:=SV) l s.e.n_ j (dQ K aj 1 nu (.ref 5 s.y.cu.length) 0) K.b;refine(d.sm (s.e.sn+1) ⟨gB K.b,s.e.sn+2,s.e.th⟩ rfl<|Int.ofNat_le.mpr<|Qk<|s.e.sn+1).elim λS T=>?_;refine yJ ((Kq.self _ _ _ s s.e.n_<|Qk _).trans<|Jn l s.e.n_ j (dQ K aj 1 nu (.ref 5 s.y.cu.length) 0) K.b s.f) ⟨rfl,rfl,rfl,rfl,rfl,gA ..⟩ rfl rfl (λJ ξ=>l.ne J) (bU i _) (cH _ P) (λs' c=>?_) (sD (Y.itS _ _) (I.itS _ _) d.hn (d.rl K.D _ _ _ _ _ _<|(I.itS _ _).zok d.h2 d.hn _ _) T O B N) .z;haveI r:=Jm (D:=K.D+158) (gu:=[gW s.e aw]) l d.hd d.bv i P s.e.n_ s.f 870;exact⟨λv run=>Jr c i r (bU i _) run,λo x run=>Js c i r (bU i _) x run⟩
 ·subst A;refine yJ (Kq.self _ _ _ s s.e.n_<|Qk _) ⟨rfl,rfl,rfl,rfl,rfl,rfl⟩ rfl rfl (λJ U=>h.m.ne U) i h0 (λs' c=>⟨λv run=>Jp c i run,λo x run=>Jq c x i run⟩) (sD (l.itS _ _) (show d8 K.C ⟨s.y.itS j _,s.e.n_,s.m,s.f⟩ a g j F p V G from⟨h.m.ac,h.m.ao,h.m.ca,h.m.cu,h.m.sk,h.m.L,h.m.ow⟩) d.hn (h.R true _ _ ⟨G,s.e.n_.sn,s.e.n_.th⟩ ((h.m.itS _ _).zok d.h2 d.hn _ _) rfl) (h.S true _ ⟨G,s.e.n_.sn,s.e.n_.th⟩ rfl (Int.lt_add_one_of_le<|Int.le_refl _) Z) O B N) hp.s
 ·exact fT q
end
section
variable{C:Cn}{P0:Iy}{y y':Ry}{a aj g i j k D f f' t r:Nat}{e e':Me}{m m':Md}{mid nu:Int}{v:AV}
noncomputable abbrev zN:=tx 1684 57 []<|(uN<|aa (bI 1684) 5).bind λe=>(tU e).bind λl=>aa l 1
theorem xb(F:Fx)(e:Me)(m:Md)(f n:Nat):∀(lg:List Int)(i:Nat)(b:List AV),b.length+lg.length<=100000->(zN (eG i lg) b<|sg F e m f n).ev (rn D)=.go (.ret<|.fl<|b++lg.map .int) [] (sg F e m f n)|[],i,b,_=>by rw[List.map_nil,Qc];rfl|x::lg,i,b,h=>by haveI d:=xb F e m f n lg (i+1) (b++[.int x]) (by refine Rr Qa ?_;exact af (au _ _) (.a (.v 0)<|.p 1 1) (.n 100000) (.a (.p 0 1)<|.v 1) (.n 100000) h rfl);rw[Qd]at d;haveI l:=br<|af (au _ _) (.a (.v 0)<|.p 1 1) (.n 100000) (.p 0 0) (.n 300000) h rfl;exact eE 1 l<|de 0 d
theorem Jt(e:Me)(x:List AV)(h:l=e.th++x)(hl:l.length<=100000):(kI (.none::.ref 9 0::.ref 9 1::.ref 9 2::l) (some<|.int (cN e).length) none).map AV.fl=some (.fl x):=by subst h;refine(?_:(if aE (cN e++x)=true then(some (cN e++x).length).bind λo=>some<|(cN e++x).drop (cN e).length else none).map AV.fl=_);refine Rr (if_pos<|br (k:=0)<|by exact af (ai _) (.v 0) (.n 100000) (.a (.p 0 4)<|.n 0) (.n 300000) hl rfl)<|Rr List.drop_left ?_;rfl
noncomputable def i3(o:MO)(v:AV):AV:=match o with|.thr i _ _=>.tup [.int 3,.int i]|_=>.tup [.int 2,v]
theorem rS(o:MO)(v:AV):(∃i w r,o=.thr i w r)\/(∀b,fw o v b=.ok v b)/\i3 o v=.tup [.int 2,v]:=by cases o with|thr i w r=>exact .inl ⟨i,w,r,rfl⟩|_=>exact .inr ⟨λc=>rfl,rfl⟩
theorem pJ{x R:List AV}(N:aa e.th k=some (.ref 9<|i+3))(I:aa y.im i=some (cR nu 18 j))(hl:e.th.length<=50000)(d:e'.th.length<=100000)(s:rn (D+10) false 1336 [E,.ref 8 j,.int mid,.fl []] (sg (rz C y 0 [gW e<|.ref 1 0]) e.n_ m f 870)=fw o v (sg (rz C y' 0 [gW e<|.ref 1 0]) e' m' f' 870))(M:e'.th=e.th++x)(z:(zN x []<|sg (rz C y' 0 []) e' m' f' 870).ev (rn<|D+10)=.go (.ret<|.fl R) [] (sg (rz C y' 0 []) e' m' f' 870)):rn (D+11) false 1684 [E,.ref 1 0,.int (k+4:Nat),.int mid] (sg (rz C y 0 []) e m f 870)=.ok (.tup [i3 o v,.fl R]) (sg (rz C y' 0 []) e' m' f' 870):=by
 haveI A:(if aE (cN e)=true then some<|AV.int (cN e).length else none)=some (.int (cN e).length):=if_pos<|kl<|af (ai _) (.v 0) (.n 50000) (.p 0 0) (.n 200000) hl rfl;haveI H:=push (D:=D+8) (F:=rz C y 0 []) e m f 870 .none (.ref 1 0) (k:=0)<|bL rfl;haveI u:bG (cN e) (k+4:Nat)=some (.ref 9<|i+3):=dZ rfl N (k:=0)<|af (ai _) (.v 0) (.n 50000) (.a (.p 0 4)<|.n 0) (.n 200000) hl rfl;haveI K:=drop (D:=D+9) (rz C y' 0 [gW e<|.ref 1 0]) e' m' f' 870 (l:=[]) rfl (k:=0)<|bL rfl;haveI B:=Jt e x M d;refine ak ?_;rcases rS o v with⟨it,w,r,rfl⟩|⟨h,L⟩;·exact ah (.V 2 A<|.C 0 H<|.V 2 u<|.O 0 I<|.X 0 s<|.C 9 K<|.V 2 B<|.P 1 z .nil) 0 ae
 ·rw[h]at s;refine Rr L ?_;exact ah (.V 2 A<|.C 0 H<|.V 2 u<|.O 0 I<|.C 0 s<|.C 9 K<|.V 2 B<|.P 1 z .nil) 0 ae
end
section
variable{K:Kn}{P0 Q:Iy}{s s':Ws}{a aj g i j k D t r:Nat}{mid b nu:Int}{v args:AV}{ov:Bool}{SV:AV}{M:IS}
theorem xc(h:rn D false 1364 [E,v] f=fw o (.int 0) c):rn (D+1) false 1336 [E,v,.int 109,args] f=fw o (.int 0) c:=by
 refine mq ?_;rcases rS o<|.int 0 with⟨it,w,r,rfl⟩|⟨e,_⟩;·exact pQ 1 h<|az 0 et
 ·rw[e]at h;refine Rr (show qh o (.int 0) c=.go (.ret<|.int 0) [] c by have:=e c;cases o<;>first|rfl|injection this) ?_;exact aG 1 h<|az 0 ae
theorem Ju(h:rn D false 1364 [E,v] e=.ok (.int 1) d):rn (D+1) false 1336 [E,v,.int 109,args] e=.ok (.int 1) d:=ak<|aG 1 h<|az 0 ae
theorem xd(h:rn D false 1371 [E,v] f=fw o .none c):rn (D+1) false 1336 [E,v,.int 106,args] f=fw o .none c:=by
 refine mq ?_;rcases rS o .none with⟨it,w,r,rfl⟩|⟨e,_⟩;·exact pQ 3 h<|az 0 et
 ·rw[e]at h;refine Rr (show qh o .none c=.go (.ret .none) [] c by have:=e c;cases o<;>first|rfl|injection this) ?_;exact aG 3 h<|az 0 ae
theorem yK(h:qg o o')(v:AV):i3 o v=i3 o' v:=by rcases h.2 with⟨rfl,_⟩|⟨it,g,r,k,a,rfl,rfl⟩<;>rfl
structure It(s:Ws)(j k:Nat):Prop where
 kk:aa s.e.th k=some (.ref 9<|j+3)i:aa s.y.im j=some (cR (k+4:Nat) 18 j)
noncomputable def gS(K:Kn)(k:Nat)(mid:Int)(s:Ws)(V:AV)(lg:List Int)(s':Ws):Prop:=rn (K.D+165) false 1684 [E,.ref 1 0,.int (k+4:Nat),.int mid] (hp K.C s [])=.ok (.tup [V,.fl<|lg.map .int]) (hp K.C s' [])
noncomputable abbrev Ws.n_(s:Ws):Ws:=⟨s.y,s.e.n_,s.m,s.f⟩
inductive uR(K:Kn)(s:Ws)(j k t r:Nat):Prop|yl(lg:List Int)(q:Lw)(v:Int)(kk:Bool->Iy)(rr:List<|List Int)(w:List Int)(s':Ws)(r':Nat)(hp:cv K.P0 t (.yl lg q v kk) rr w)(run:gS K k 109 s (.tup [.int 2,.int 1]) lg s')(es:Es K s' j (k+4:Nat) (t+1) false r')(nx:Nx K j lg r r' s s'):uR K s j k t r|dn(lg:List Int)(q:Lw)(o':MO)(rr:List<|List Int)(w:List Int)(s':Ws)(hp:cv K.P0 t (.dn lg q o') rr w)(run:gS K k 109 s (i3 o'<|.int 0) lg s')(es:Es K s' j (k+4:Nat) t true 0)(nx:Nx K j lg r 0 s s'):uR K s j k t r
theorem sG(l:It s j k)(h:s.e.th.length<=20000)(hl:r<=30000)(p:s'.e.th=s.e.th++eG s.e.th.length lg)(d:lg.length+w<=r)(u:rn (K.D+164) false 1336 [E,.ref 8 j,.int mid,.fl []] (sg (rz K.C s.y 0 [gW s.e<|.ref 1 0]) s.e.n_ s.m s.f 870)=fw o v (hp K.C s' [gW s.e<|.ref 1 0])):gS K k mid s (i3 o v) lg s':=pJ l.kk l.i (Qh h<|bL rfl) (by rw[p,Qa,qZ];exact eh (b8 _ _ _ _) (.v 0) (.n 20000) (.a (.v 1)<|.v 2) (.v 3) (.v 3) (.n 30000) (.a (.v 0)<|.v 1) (.n 100000) h d hl rfl) u p<|xb _ _ _ _ _ lg _ []<|aO (aH _ _ _) (.a (.v 0)<|.v 1) (.v 2) (.v 2) (.n 30000) (.a (.n 0)<|.v 0) (.n 100000) d hl rfl
theorem Jv(F:Bd K.C K.b K.P0 SV M)(H:Es K s j (k+4:Nat) t false r)(u:It s j k)(A:Wd K.C s.y s.m)(c:r<=s.f)(n:s.f<=30000)(l:s.e.th.length<=20000):uR K s j k t r:=by
 rcases LF F H A c n l<|.ref 1 0 with⟨lg,q,v,x,h,w,s',z,hp,run,p,nx⟩|⟨lg,q,o,o',h,w,s',hp,B,run,p,nx⟩;·exact .yl lg q v x h w s' z hp (sG (o:=.nx) u l (Qh c n) nx.th nx.lr<|Ju run) p nx
 ·exact .dn lg q o' h w s' hp (Rl (yK B _)<|sG u l (Qh c n) nx.th nx.lr<|xc run) p nx
theorem sH(h:It s j k)(d:s.e.th.length<=20000)(l:rn (K.D+164) false 1336 [E,.ref 8 j,.int mid,.fl []] (sg (rz K.C s.y 0 [gW s.e<|.ref 1 0]) s.e.n_ s.m s.f 870)=.ok V (sg (rz K.C y' 0 [gW s.e<|.ref 1 0]) s.e.n_ s.m s.f 870)):gS K k mid s (.tup [.int 2,V]) [] ⟨y',s.e.n_,s.m,s.f⟩:=pJ (o:=.nx) h.kk h.i (Qh d<|bL rfl) (Qh d<|bL rfl) l (Qc _).symm rfl
theorem LG(H:Es K s j (k+4:Nat) t true r)(d:It s j k)(h:s.e.th.length<=20000):gS K k 109 s (.tup [.int 2,.int 0]) [] s.n_:=by cases H with|ovr aj n cur l=>exact sH d h<|xc (o:=.nx)<|NU l s.e.n_ s.m s.f|rdy _ _ _ _ q=>exact cX q|pau _ _ _ _ _ _ _ _ _ _ _ _ _ _ _ _ _ _ _ _ _ q=>exact cX q
theorem G2(H:Es K s j (k+4:Nat) (t+1) false r)(l:It s j k)(m:s.e.th.length<=20000):∃lg q v d c w,cv K.P0 t (.yl lg q v d) c w/\gS K k 108 s (.tup [.int 2,.int v]) [] s.n_:=by cases H with|pau aj a g x u n y G c w lg q v d S Q o z hp h p=>cases Nat.succ.inj p;exact⟨lg,q,v,d,c,w,hp,sH l m<|ak<|kM 2 o<|az 0 ae⟩|rdy _ _ _ q=>exact absurd q<|Nat.succ_ne_zero _|ovr _ _ _ _ _ q=>exact fT q
theorem cv.qt(h:P0.qt)(H:cv P0 t Q d w):Q.qt:=by induction H with|z=>exact h|s _ c=>exact c.2
theorem LI{P:Iy}(h:P.sp):∃lg s o,P=.dn lg s o:=by
 rcases P with⟨lg,s,o⟩|_;·exact⟨lg,s,o,rfl⟩
 ·exact h.elim
inductive qj(K:Kn)(s:Ws)(j k t:Nat)(ov:Bool)(r:Nat):Prop|p(t':Nat)(lg0:List Int)(s0:Lw)(v:Int)(kk:Bool->Iy)(rr:List<|List Int)(w lg:List Int)(q:Lw)(o':MO)(s':Ws)(ht:t=t'+1)(hov:ov=false)(hp:cv K.P0 t' (.yl lg0 s0 v kk) rr w)(hk:kk false=.dn lg q o')(run:gS K k 106 s (i3 o' .none) lg s')(es:Es K s' j (k+4:Nat) t true 0)(nx:Nx K j lg r 0 s s'):qj K s j k t ov r|n(s':Ws)(h:t=0\/ov=true)(run:gS K k 106 s (.tup [.int 2,.none]) [] s')(es:Es K s' j (k+4:Nat) t true 0)(nx:Nx K j [] r 0 s s'):qj K s j k t ov r
theorem Jw(T:Bd K.C K.b K.P0 SV M)(hq:K.P0.qt)(H:Es K s j (k+4:Nat) t ov r)(Z:It s j k)(P:Wd K.C s.y s.m)(V:r<=s.f)(hf:s.f<=30000)(O:s.e.th.length<=20000):qj K s j k t ov r:=by haveI d:∀{aj F ct cur},aa s.y.it j=some (dQ K aj F (k+4) ct cur)->aa s.y.ac aj=some (aZ 0 aj)->F=1\/F=4->t=0\/ov=true->qj K s j k t ov r:=λ{aj F ct cur}c u hs hz=>.n (s.n_.itS j<|dQ K aj 4 (k+4) ct cur) hz (sH Z O<|xd (o:=.nx)<|NX c hs s.e.n_ s.m s.f) (.ovr aj ct cur (bU c _) u rfl)<|ou ((Kq.self s.y.ac.length s.y.cu.length j s s.e.n_<|Qk _).itS _) (P.itS _ _) (λU ξ=>P.ne U) (Sf.itS ⟨rfl,rfl,rfl,rfl,rfl,rfl⟩ _ _) (Qc _).symm (Qi _ _)<|Nat.zero_le _;cases H with|rdy aj c u q=>exact d c u (.inl rfl)<|.inl q|ovr aj cut cur c u q=>exact d c u (.inr rfl)<|.inr q|pau aj a g t' own its fs G rr w lg q v kk S Q c u hp h q1 q2=>clear d;subst q1;haveI sp:=(hp.qt hq).1;have G:=sD (s:=s.n_.itS j<|dQ K aj 4 (k+4) (.ref 5 g) v) (aw:=.ref 1 0) (P.itS _ _) ⟨h.m.ac,h.m.ao,h.m.ca,h.m.cu,h.m.sk,h.m.L,h.m.ow⟩ T.hn (h.R false _ _ ⟨G,s.e.n_.sn,s.e.n_.th⟩ ((h.m.itS _ _).zok T.h2 T.hn _ _) rfl) (h.S false _ ⟨G,s.e.n_.sn,s.e.n_.th⟩ rfl (Int.lt_add_one_of_le<|Int.le_refl _)<|Int.le_refl _) V hf O;obtain⟨lg1,q1,o1,e1⟩:=LI sp;cases G with|yl _ _ _ _ _ _ _ _ _ I=>rw[e1]at I;injection I|dn J q' o o' s1 I z Y=>obtain⟨cx,x,N⟩:=z.sf;haveI nx:=ou (((Kq.self a g j s s.e.n_<|Qk _).itS<|dQ K aj 4 (k+4) (.ref 5 g) v).trans z.k) z.w (λU hj=>h.m.ne hj) (by refine Rr N ?_;exact⟨rfl,rfl,rfl,rfl,rfl,gA ..⟩) z.th z.f z.l;exact .p t' lg q v kk rr w J q' o' s1 rfl q2 hp I (Rl (yK Y _)<|sG Z O (Qh V hf) nx.th nx.lr<|xd<|NW Y.1 c z.run) (.ovr aj _ v (by refine Rr N ?_;exact bU c _) (by refine Rr N ?_;exact u) rfl) nx
end
section
variable{C:Cn}{D f n:Nat}{e:Me}{m:Md}{gu:List AV}{b:Int}
variable{c0 c32:AO}{T U O:List AV}{no:Nat->Int}{ac ca cu:List AO}{x:bC}{o i:AO}{hl:List AO}{ao:List Nat}
noncomputable def Me.tp(e:Me)(v:AV):Me:=⟨e.g,e.sn,e.th++[v]⟩
noncomputable def Cy(C:Cn):AV:=.tup<|(bE C.again).map .int
theorem yL(y:Ry)(c:Nat)(e:Me)(m:Md)(f n:Nat):rn (D+10) false 191 [.ref 0 2,.int 18] (sg (rz C y c gu) e m f n)=.ok (.tup [.int 7]) (sg (rz C y c gu) e m f n):=by obtain⟨d,body,nn⟩:=C;cases d<;>kernel_rfl
theorem EV(aj:Nat)(e:Me)(m:Md)(f n:Nat):rn (D+2) false 1317 [.ref 8 1,Cy C,.ref 1 aj,.fl [.int b],.int 1,.int 0] (sg (rz C ⟨c0,c32,T,U,O,no,ac,ca,cu,x,[o,.inst 1327 []],[i],hl,ao⟩ 0 gu) e m f n)=.ok .none (sg (rz C ⟨c0,c32,T,U,O,no,ac,ca,cu,x,[o,aX (bE C.again) aj b 1 0 .none 0],[i],hl,ao⟩ 0 gu) e m f n):=by kernel_rfl
noncomputable def Cz(k:Int):AO:=.inst 389 [(zs9,.int k),(zs18,.int 18),(zs31,.fl []),(zs32,.none),(zs7,.fl []),(zs33,.int 0),(zs34,.none)]
theorem EW(y:List AO)(k:Int)(e:Me)(m:Md)(f n:Nat):rn (D+2) false 386 [.ref 9 4,.int k,.int 18,.fl []] (sg (rz C ⟨c0,c32,T,U,O,no,ac,ca,cu,x,y,[i,.inst 389 []],hl,ao⟩ 0 gu) e m f n)=.ok .none (sg (rz C ⟨c0,c32,T,U,O,no,ac,ca,cu,x,y,[i,Cz k],hl,ao⟩ 0 gu) e m f n):=by kernel_rfl
theorem Jx(y:List AO)(c:e.th.length<=50000)(m:Md)(f n:Nat):rn (D+4) false 764 [E,.int 18,.fl []] (sg (rz C ⟨c0,c32,T,U,O,no,ac,ca,cu,x,y,[i],hl,ao⟩ 0 gu) e m f n)=.ok (.int (e.th.length+4:Nat)) (sg (rz C ⟨c0,c32,T,U,O,no,ac,ca,cu,x,y,[i,Cz (e.th.length+4:Nat)],hl,ao⟩ 0 gu) (e.tp<|.ref 9 4) m f n):=by haveI j:(if aE (cN e)=true then some<|AV.int (cN e).length else none)=some (.int (e.th.length+4:Nat)):=if_pos<|kl<|af (ai _) (.v 0) (.n 50000) (.p 0 0) (.n 200000) c rfl;haveI k:(if aE (cN e)=true then some<|AO.list<|cN e++[.ref 9 4]else none)=some (.list<|cN e++[.ref 9 4]):=if_pos<|kl<|af (ai _) (.v 0) (.n 50000) (.p 0 0) (.n 200000) c rfl;exact ak<|ah (.V 2 j<|.C 2 (EW (C:=C) (c0:=c0) (c32:=c32) (T:=T) (U:=U) (O:=O) (no:=no) (ac:=ac) (ca:=ca) (cu:=cu) (x:=x) (i:=i) (hl:=hl) (ao:=ao) (gu:=gu) y (e.th.length+4:Nat) e m f n)<|.O 1 k .nil) 0 ae
theorem Bk(aj:Nat)(h:e.th.length<=50000):rn (D+20) false 1343 [E,Cy C,.ref 1 aj,.fl [.int b],.int 1] (sg (rz C ⟨c0,c32,T,U,O,no,ac,ca,cu,x,[o],[i],hl,ao⟩ 0 gu) e m f n)=.ok (.int (e.th.length+4:Nat)) (sg (rz C ⟨c0,c32,T,U,O,no,ac,ca,cu,x,[o,aX (bE C.again) aj b 1 (e.th.length+4:Nat) .none 0],[i,cR (e.th.length+4:Nat) 18 1],hl,ao⟩ 0 gu) (e.tp<|.ref 9 4) m f n):=by obtain⟨g,body,nn⟩:=C;haveI k:=λg=>yL (C:=⟨g,body,nn⟩) (D:=D+9) (gu:=gu) ⟨c0,c32,T,U,O,no,ac,ca,cu,x,[o],[i],hl,ao⟩ 0 e m f n;haveI j:=λg=>first (D:=D+18) (rz ⟨g,body,nn⟩ ⟨c0,c32,T,U,O,no,ac,ca,cu,x,[o],[i],hl,ao⟩ 0 gu) e m f n<|.int 7;haveI s:=λg=>EV (C:=⟨g,body,nn⟩) (D:=D+17) (c0:=c0) (c32:=c32) (T:=T) (U:=U) (O:=O) (no:=no) (ac:=ac) (ca:=ca) (cu:=cu) (x:=x) (o:=o) (i:=i) (hl:=hl) (ao:=ao) (gu:=gu) (b:=b) aj e m f n;haveI t:=λg=>Jx (C:=⟨g,body,nn⟩) (D:=D+15) (c0:=c0) (c32:=c32) (T:=T) (U:=U) (O:=O) (no:=no) (ac:=ac) (ca:=ca) (cu:=cu) (x:=x) (i:=i) (hl:=hl) (ao:=ao) (gu:=gu) [o,aX (bE g) aj b 1 0 .none 0] h m f n;haveI r:bG (cN<|e.tp<|.ref 9 4) (e.th.length+4:Nat)=some (.ref 9 4):=dZ rfl (bM _ _) (by show(e.th++[_]).length+4+0<=_;refine Rr Qa ?_;exact af (ai _) (.v 0) (.n 50000) (.a (.a (.p 0 1)<|.n 4)<|.n 0) (.n 200000) h rfl);refine ak ?_;cases g with|true=>exact ah (.C 2 (k true)<|.C 2 (j true)<|.C 0 (s true)<|.C 1 (t true)<|.V 4 r .nil) 2 ae|false=>exact ah (.C 2 (k false)<|.C 2 (j false)<|.C 0 (s false)<|.C 1 (t false)<|.V 4 r .nil) 2 ae
section
variable{body:AV}{nn aj:Nat}{st nu cur:Int}{ct:AV}
theorem G3(ks:List Int)(y:Ry)(h:aa y.it 0=some (aX ks aj b 0 nu ct cur))(c:Nat)(e:Me)(m:Md)(f n:Nat):rn (D+1) false 1350 [E,.ref 8 0] (sg (rz C y c gu) e m f n)=.ok (.int nu) (sg (rz C (y.itS 0<|aX ks aj b 1 nu ct cur) c gu) e m f n):=by haveI g:=bU h<|aX ks aj b 1 nu ct cur;exact ak<|ah (.O 0 h<|.O 1 h<|.O 0 g .nil) 0 ae
theorem G4(d:st≠0)(c:e.th.length<=50000)(m:Md)(f n:Nat):rn (D+21) false 1350 [E,.ref 8 0] (sg (rz C ⟨c0,c32,T,U,O,no,ac,ca,cu,x,[aX (bE C.again) aj b st nu ct cur],[i],hl,ao⟩ 0 gu) e m f n)=.ok (.int (e.th.length+4:Nat)) (sg (rz C ⟨c0,c32,T,U,O,no,ac,ca,cu,x,[aX (bE C.again) aj b st nu ct cur,aX (bE C.again) aj b 1 (e.th.length+4:Nat) .none 0],[i,cR (e.th.length+4:Nat) 18 1],hl,ao⟩ 0 gu) (e.tp<|.ref 9 4) m f n):=by haveI h:=Bk (C:=C) (D:=D) (c0:=c0) (c32:=c32) (T:=T) (U:=U) (O:=O) (no:=no) (ac:=ac) (ca:=ca) (cu:=cu) (x:=x) (o:=aX (bE C.again) aj b st nu ct cur) (i:=i) (hl:=hl) (ao:=ao) (gu:=gu) (b:=b) (m:=m) (f:=f) (n:=n) aj c;exact ak<|ah (.B 1 (eK d)<|.C 3 h .nil) 0 ae
theorem NY(y:Ry)(c:Nat)(e:Me)(m:Md)(f n:Nat):rn (D+10) false 170 [.ref 0 2,.int 36,.tup [.int 7]] (sg (rz ⟨false,body,nn⟩ y c gu) e m f n)=.ok (.int 18) (sg (rz ⟨false,body,nn⟩ y c gu) e m f n):=by kernel_rfl
theorem Bl(y:Ry)(c:Nat)(e:Me)(m:Md)(f n:Nat):rn (D+10) false 170 [.ref 0 2,.int 34,.tup []] (sg (rz ⟨false,body,nn⟩ y c gu) e m f n)=.ok (.int 19) (sg (rz ⟨false,body,nn⟩ y c gu) e m f n):=by kernel_rfl
theorem LJ(y:Ry)(c:Nat)(e:Me)(m:Md)(f n:Nat):rn (D+10) false 184 [.ref 0 2,.int 18] (sg (rz ⟨false,body,nn⟩ y c gu) e m f n)=.ok (.int 36) (sg (rz ⟨false,body,nn⟩ y c gu) e m f n):=by kernel_rfl
theorem G5(h:e.th.length<=50000)(m:Md)(f n:Nat):rn (D+21) false 1385 [.fi 1388 [],E,.ref 1 ac.length,.fl [.int b]] (sg (rz ⟨false,body,nn⟩ ⟨c0,c32,T,U,O,no,ac++[aZ 0 ac.length],ca,cu,x,[o],[i],hl,ao⟩ 0 gu) e m f n)=.ok (.int (e.th.length+4:Nat)) (sg (rz ⟨false,body,nn⟩ ⟨c0,c32,T,U,O,no,ac++[aZ 0 ac.length],ca,cu,x,[o,aX (bE false) ac.length b 1 (e.th.length+4:Nat) .none 0],[i,cR (e.th.length+4:Nat) 18 1],hl,ao⟩ 0 gu) (e.tp<|.ref 9 4) m f n):=by haveI d:aa (ac++[aZ 0 ac.length]) ac.length=some (aZ 0 ac.length):=bM _ _;haveI r:=zL (C:=⟨false,body,nn⟩) (y:=⟨c0,c32,T,U,O,no,ac++[aZ 0 ac.length],ca,cu,x,[o],[i],hl,ao⟩) (gu:=gu) (D:=D+18) d 0 e m f n;haveI v:=mR d;refine dM (τ:=λg=>sg (rz ⟨false,body,nn⟩ ⟨c0,c32,T,U,O,no,g,ca,cu,x,[o,aX (bE false) ac.length b 1 (e.th.length+4:Nat) .none 0],[i,cR (e.th.length+4:Nat) 18 1],hl,ao⟩ 0 gu) (e.tp<|.ref 9 4) m f n) v ?_;haveI w:=bU d<|aZ 0 ac.length;haveI u:=Bk (C:=⟨false,body,nn⟩) (D:=D) (c0:=c0) (c32:=c32) (T:=T) (U:=U) (O:=O) (no:=no) (ac:=aD (λc=>aZ 0 ac.length) (ac++[aZ 0 ac.length]) ac.length) (ca:=ca) (cu:=cu) (x:=x) (o:=o) (i:=i) (hl:=hl) (ao:=ao) (gu:=gu) (b:=b) (m:=m) (f:=f) (n:=n) ac.length h;haveI p:=yL (C:=⟨false,body,nn⟩) (D:=D+10) (gu:=gu) ⟨c0,c32,T,U,O,no,aD (λc=>aZ 0 ac.length) (ac++[aZ 0 ac.length]) ac.length,ca,cu,x,[o],[i],hl,ao⟩ 0 e m f n;haveI l:=NY (body:=body) (nn:=nn) (D:=D+10) (gu:=gu) ⟨c0,c32,T,U,O,no,aD (λc=>aZ 0 ac.length) (ac++[aZ 0 ac.length]) ac.length,ca,cu,x,[o],[i],hl,ao⟩ 0 e m f n;haveI s:=Bl (body:=body) (nn:=nn) (D:=D+10) (gu:=gu) ⟨c0,c32,T,U,O,no,aD (λc=>aZ 0 ac.length) (ac++[aZ 0 ac.length]) ac.length,ca,cu,x,[o],[i],hl,ao⟩ 0 e m f n;haveI k:=LJ (body:=body) (nn:=nn) (D:=D+10) (gu:=gu) ⟨c0,c32,T,U,O,no,aD (λc=>aZ 0 ac.length) (ac++[aZ 0 ac.length]) ac.length,ca,cu,x,[o],[i],hl,ao⟩ 0 e m f n;haveI t:=jM (D:=D+18) (rz ⟨false,body,nn⟩ ⟨c0,c32,T,U,O,no,aD (λc=>aZ 0 ac.length) (ac++[aZ 0 ac.length]) ac.length,ca,cu,x,[o],[i],hl,ao⟩ 0 gu) e m f n (.ref 1 ac.length)<|.int 18;exact ah (.C 0 r<|.O 0 d<|.O 0 w<|.C 1 t<|.C 1 p<|.C 1 l<|.C 1 s<|.C 1 k<|.C 1 u .nil) 0 ae
end
end
section
variable{C:Cn}{D f n:Nat}{e:Me}{m:Md}{y:Ry}{T U O:List AV}{sc:List Int}{d:DS}{z:S}
noncomputable def Ry.lw(y:Ry)(c0:AO)(T U O:List AV):Ry:=⟨c0,y.c32,T,U,O,y.no,y.ac,y.ca,y.cu,y.x,y.it,y.im,y.hl,y.ao⟩
structure Lv where
 sc:List Int
 again:Bool
 b:Int
 ts:List AV
 P0:Iy
 en:AV
noncomputable def Lv.loc(v:Lv)(r:aq):aq:=ij (v.sc.map .int) v.again v.b v.ts (.fl<|jX v.P0) (.fl<|dh v.P0) v.en<|lu++(q "ev",.ref 0 18)::(q "wall",.ref 1 0)::(q "first",.int 4)::(q "things",.ref 0 37)::(q "turns",.ref 0 38)::(q "over",.ref 0 39)::r
noncomputable abbrev jc:dc:=d4 1691 59<|aa (bI 1691) 24
noncomputable abbrev bK(v:Lv)(xs:List AV)(j:Nat)(r:aq)(σ:AS):Cd:=execs (cz TP 59<|eU 1691) ((kX<|aa (bI 1691) 24).drop j) (v.loc r) σ (turn (bk jc xs)<|v.loc []) i6
noncomputable def wi(w:Bool):Int:=bif w then 1 else 0
noncomputable def tw(w:Bool)(x z:AV):List AV:=bif w then[z,x]else[x,z]
theorem Jy(hl:sc.length<=40)(b:0<n)(C:Cn)(y:Ry)(d:DS)(T U O:List AV)(e:Me)(m:Md)(f:Nat):∃k:Nat,k<n/\∀D,rn (D+1) false 1543 [DA,.int n] (sg (rz C (y.lw (dO sc d) T U O) 0 []) e m f 870)=.ok (.int k) (sg (rz C (y.lw (dO sc d.nx) T U O) 0 []) e m f 870):=cV hl b d _ _
noncomputable abbrev r3(one:AV)(op:Int)(w:Bool):aq:=[(q "one",one),(q "op",.int op),(q "which",.int<|wi w)]
theorem PO:∀c,c<7->c=0\/c=1\/c=2\/c=3\/c=4\/c=5\/c=6:=bD rfl
inductive PA(C:Cn)(v:Lv)(D:Nat)(y:Ry)(d:DS)(T U O:List AV)(e:Me)(m:Md)(f:Nat)(one:AV)(xs:List AV):Prop|mk(o:Int)(w:Bool)(hd:iF o 3=false/\iF o 5=false\/d.f=false/\o=bif w then 5 else 3)(h:∀z,(bK v xs 3 (r3 one o w)<|sg (rz C (y.lw (dO v.sc d.nx) T U O) 0 []) e m f 870).ev (rn<|D+1)=z->(jc one (v.loc []) (sg (rz C (y.lw (dO v.sc d) T U O) 0 []) e m f 870) (turn (bk jc xs)<|v.loc []) i6).ev (rn<|D+1)=z):PA C v D y d T U O e m f one xs
theorem PQ(v:Lv)(hl:v.sc.length<=40)(y:Ry)(d:DS)(T U O:List AV)(e:Me)(m:Md)(f:Nat)(c:AV)(i:List AV):PA C v D y d T U O e m f c i:=by
  obtain⟨k,h,t⟩:=Jy hl (n:=7) (bL rfl) C y d T U O e m f;obtain⟨p,j,fl⟩:=d;haveI g:=PO k h;rcases g with rfl|rfl|rfl|rfl|rfl|rfl|rfl;·exact⟨0,false,.inl ⟨rfl,rfl⟩,λz H=>by
    rcases fl with _|_;·exact aG 0 (t D)<|bS 5 1 H
    ·exact aG 0 (t D)<|bS 7 1 H⟩
  ·exact⟨1,false,.inl ⟨rfl,rfl⟩,λz H=>by
    rcases fl with _|_;·exact aG 0 (t D)<|bS 5 1 H
    ·exact aG 0 (t D)<|bS 7 1 H⟩
  ·exact⟨2,false,.inl ⟨rfl,rfl⟩,λz H=>by
    rcases fl with _|_;·exact aG 0 (t D)<|bS 5 1 H
    ·exact aG 0 (t D)<|bS 7 1 H⟩
  · rcases fl with _|_;·exact⟨3,false,.inr ⟨rfl,rfl⟩,λz H=>aG 0 (t D)<|bS 5 1 H⟩
    ·exact⟨2,false,.inl ⟨rfl,rfl⟩,λz H=>aG 0 (t D)<|bS 7 1 H⟩
  ·exact⟨4,true,.inl ⟨rfl,rfl⟩,λz H=>by
    rcases fl with _|_;·exact aG 0 (t D)<|bS 6 1 H
    ·exact aG 0 (t D)<|bS 8 1 H⟩
  · rcases fl with _|_;·exact⟨5,true,.inr ⟨rfl,rfl⟩,λz H=>aG 0 (t D)<|bS 6 1 H⟩
    ·exact⟨4,true,.inl ⟨rfl,rfl⟩,λz H=>aG 0 (t D)<|bS 9 1 H⟩
  ·exact⟨6,false,.inl ⟨rfl,rfl⟩,λz H=>by
    rcases fl with _|_;·exact aG 0 (t D)<|bS 6 1 H
    ·exact aG 0 (t D)<|bS 8 1 H⟩
end
section
variable{C:Cn}{D f f' n k:Nat}{e e':Me}{m m':Md}{y y':Ry}{T U O:List AV}{sc:List Int}{c0:AO}{z:S}{v:Lv}{xs:List AV}{one x u tz:AV}{o b:Int}{w:Bool}{ts:List AV}{P0:Iy}{en:AV}
theorem a7(w:Bool)(x z:AV):bG (tw w x z) (wi w)=some x:=by cases w<;>rfl
theorem pK(w:Bool)(x z:AV):bG (tw w x z) (1-wi w)=some z:=by cases w<;>rfl
theorem fb(w:Bool)(x z v:AV):oA (.list<|tw w x z) (.int<|wi w) v=some (.list<|tw w v z):=by cases w<;>rfl
noncomputable abbrev hS(C:Cn)(y:Ry)(c0:AO)(T U O:List AV)(e:Me)(m:Md)(f:Nat):AS:=sg (rz C (y.lw c0 T U O) 0 []) e m f 870
theorem LK(H:(bK v xs 4 (r3 one o w)<|hS C y c0 (tw w (.int (k+4:Nat)) tz) U O e m f).ev (rn D)=z):(bK v xs 3 (r3 one o w)<|hS C y c0 (tw w (.int (k+4:Nat)) tz) U O e m f).ev (rn D)=z:=gn 1 (a7 w (.int (k+4:Nat)) tz)<|bS 2 1 H
theorem LM(H:(bK ⟨sc,false,b,ts,P0,en⟩ xs 4 (r3 one o w)<|hS C y c0 (tw w (.int 4)<|.int 0) U O e m f).ev (rn D)=z):(bK ⟨sc,false,b,ts,P0,en⟩ xs 3 (r3 one o w)<|hS C y c0 (tw w (.int 0)<|.int 0) U O e m f).ev (rn D)=z:=dJ (.V 1 (a7 w (.int 0)<|.int 0)<|.O 2 (fb w (.int 0) (.int 0)<|.int 4)<|.V 3 (pK w (.int 4)<|.int 0) .nil) 2 1 H
noncomputable abbrev gl(k:Nat):aq:=[(q "got",.tup [.int 2,.int k]),(q "log",.fl [])]
theorem LO(r:rn D false 1684 [E,.ref 1 0,.int 4,.int 107] (hS C y c0 (tw w (.int 4)<|.int 0) U O e m f)=.ok (.tup [.tup [.int 2,.int (4:Nat)],.fl []]) (hS C y' c0 (tw w (.int 4)<|.int 0) U O e' m' f'))(H:(bK ⟨sc,true,b,ts,P0,en⟩ xs 4 (r3 one o w++gl 4)<|hS C y' c0 (tw w (.int 4)<|.int 0) U O e' m' f').ev (rn D)=z):(bK ⟨sc,true,b,ts,P0,en⟩ xs 3 (r3 one o w)<|hS C y c0 (tw w (.int 0)<|.int 0) U O e m f).ev (rn D)=z:=dJ (.V 1 (a7 w (.int 0)<|.int 0)<|.O 2 (fb w (.int 0) (.int 0)<|.int 4)<|.C 1 r<|.V 7 (pK w (.int 4)<|.int 0)<|.O 4 (fb w (.int 4) (.int 0)<|.int 4) .nil) 1 1 H
theorem LP(d:0<k)(r:rn D false 1684 [E,.ref 1 0,.int 4,.int 107] (hS C y c0 (tw w (.int 4)<|.int 4) U O e m f)=.ok (.tup [.tup [.int 2,.int (k+4:Nat)],.fl []]) (hS C y' c0 (tw w (.int 4)<|.int 4) U O e' m' f'))(H:(bK ⟨sc,true,b,ts,P0,en⟩ xs 4 (r3 one o w++gl (k+4))<|hS C y' c0 (tw w (.int (k+4:Nat))<|.int 4) U O e' m' f').ev (rn D)=z):(bK ⟨sc,true,b,ts,P0,en⟩ xs 3 (r3 one o w)<|hS C y c0 (tw w (.int 0)<|.int 4) U O e m f).ev (rn D)=z:=by haveI h:=eK λq=>Nat.ne_of_gt d<|Nat.add_right_cancel (m:=4)<|Int.ofNat.inj q;exact dJ (.V 1 (a7 w (.int 0)<|.int 4)<|.O 2 (fb w (.int 0) (.int 4)<|.int 4)<|.C 1 r<|.B 4 h<|.V 2 (pK w (.int 4)<|.int 4)<|.O 4 (fb w (.int 4) (.int 4)<|.int (k+4:Nat)) .nil) 1 1 H
theorem LQ(d:y.ca.length=y.ac.length)(c:m.li.length=y.ac.length)(h:y.hl.length=y.ac.length)(r:rn (D+1) false 1385 [.fi 1388 [],E,.ref 1 y.ac.length,.fl [.int b]] (sg ((rz C (y.lw c0 (tw w (.int 4)<|.int 4) U O) 0 []).na (y.ac++[aZ 0 y.ac.length]) (y.ca++[.list []])<|y.hl++[.edict]) e (m.li_<|m.li++[.edict]) f 870)=.ok (.int (k+4:Nat)) (hS C y' c0 (tw w (.int 4)<|.int 4) U O e' m' f'))(H:(bK ⟨sc,false,b,ts,P0,en⟩ xs 4 (r3 one o w)<|hS C y' c0 (tw w (.int (k+4:Nat))<|.int 4) U O e' m' f').ev (rn<|D+1)=z):(bK ⟨sc,false,b,ts,P0,en⟩ xs 3 (r3 one o w)<|hS C y c0 (tw w (.int 0)<|.int 4) U O e m f).ev (rn<|D+1)=z:=by haveI g:=xa (D:=D) (rz C (y.lw c0 (tw w (.int 4)<|.int 4) U O) 0 []) e m f 870 0 d c h;exact dJ (.V 1 (a7 w (.int 0)<|.int 4)<|.O 2 (fb w (.int 0) (.int 4)<|.int 4)<|.V 3 (pK w (.int 4)<|.int 4)<|.C 1 (i8 D 1388 [] (.fi 1388 [])<|hS C y c0 (tw w (.int 4)<|.int 4) U O e m f)<|.C 0 g<|.C 0 r<|.O 1 (fb w (.int 4) (.int 4)<|.int (k+4:Nat)) .nil) 1 1 H
end
section
inductive So where|no|on(k t:Nat)(ov:Bool)
noncomputable def So.ctorIdx(v:So):Nat:=So.casesOn v 0 λξ ξ ξ=>1
noncomputable def So.T(a:So):AV:=So.rec (.int 0) (λk ξ ξ=>.int (k+4:Nat)) a
noncomputable def So.U(a:So):AV:=So.rec (.int 0) (λξ t ξ=>.int t) a
noncomputable def So.O(a:So):AV:=So.rec (.bool false) (λξ ξ ov=>.bool ov) a
variable{K:Kn}{s s':Ws}{D n j jx jz k t r rx rz:Nat}{a z:So}{T U O:List AV}{c0:AO}{v:Lv}{xs:List AV}{one args:AV}{o nu:Int}{w ov:Bool}
noncomputable abbrev Ws.lw(s:Ws)(c0:AO)(T U O:List AV):Ws:=⟨s.y.lw c0 T U O,s.e,s.m,s.f⟩
noncomputable abbrev hW(K:Kn)(s:Ws)(c0:AO)(w:Bool)(a z:So):AS:=hS K.C s.y c0 (tw w a.T z.T) (tw w a.U z.U) (tw w a.O z.O) s.e s.m s.f
theorem qi.cg{a g:Nat}{S:Sx}(h:qi K s j a g b c f G x r S Q)(l:d8 K.C s' a g j b c f G)(m:s.e.sn<=s'.e.sn):qi K s' j a g b c f G x r S Q:=⟨l,h.R,λz u d i p=>h.S z u d i<|Int.lt_of_le_of_lt (Int.ofNat_le.mpr m) p⟩
theorem Es.lw(H:Es K s j nu t ov r)(c0:AO)(T U O:List AV):Es K (s.lw c0 T U O) j nu t ov r:=by cases H with|rdy aj b c d f A=>exact .rdy aj b c d f A|ovr aj e cur b c q=>exact .ovr aj e cur b c q|pau aj a g y l i u G x w lg q v p S Q b c hp h d f=>exact .pau aj a g y l i u G x w lg q v p S Q b c hp (h.cg ⟨h.m.ac,h.m.ao,h.m.ca,h.m.cu,h.m.sk,h.m.L,h.m.ow⟩<|Qg _) d f
theorem Es.n_(H:Es K s j nu t ov r):Es K s.n_ j nu t ov r:=by cases H with|rdy aj b c d f A=>exact .rdy aj b c d f A|ovr aj e cur b c q=>exact .ovr aj e cur b c q|pau aj a g y l i u G x w lg q v p S Q b c hp h d f=>exact .pau aj a g y l i u G x w lg q v p S Q b c hp (h.cg ⟨h.m.ac,h.m.ao,h.m.ca,h.m.cu,h.m.sk,h.m.L,h.m.ow⟩<|Qk _) d f
inductive CA(K:Kn)(s:Ws)(j:Nat)(nu:Int):Prop|mk(aj:Nat)(st:Int)(ct:AV)(cur:Int)(h1:aa s.y.it j=some (dQ K aj st nu ct cur))(h2:st≠0)(h0:aa s.y.ac aj=some (aZ 0 aj)):CA K s j nu
theorem Es.it(H:Es K s j nu t ov r):CA K s j nu:=by cases H with|rdy aj b c=>exact⟨_,_,_,_,b,bD rfl,c⟩|ovr aj d cur b c=>exact⟨_,_,_,_,b,bD rfl,c⟩|pau aj a g m e f l G i w lg q v h S Q b c=>exact⟨_,_,_,_,b,bD rfl,c⟩
theorem Wd.lw(H:Wd C y m)(c0:AO)(T U O:List AV):Wd C (y.lw c0 T U O) m:=⟨H.ca,H.li,H.hl,H.ao,H.sk,H.fo,H.ol,H.cb⟩
theorem It.lw(H:It s j k)(c0:AO)(T U O:List AV):It (s.lw c0 T U O) j k:=⟨H.kk,H.i⟩
theorem It.kp(H:It s j k)(b:s'.y.im=s.y.im)(c:s'.e.th=s.e.th++l):It s' j k:=⟨Rr c<|cH _ H.kk,Rr b H.i⟩
structure Sn(K:Kn)(s:Ws)(j k t:Nat)(ov:Bool)(r:Nat):Prop where
 i:It s j k
 kz:j=0->k=0
 e:Es K s j (k+4:Nat) t ov r
noncomputable def Sl(K:Kn)(s:Ws)(j:Nat)(a:So)(r:Nat):Prop:=So.rec (r=9391) (λk t ov=>Sn K s j k t ov r) a
structure k7(K:Kn)(s:Ws)(n:Nat):Prop where
 it:s.y.it=[dQ K 1 (k6 K.C.again) 4 .none 0]im:s.y.im=[cR 4 18 0]th:aa s.e.th 0=some (.ref 9 3)ac:aa s.y.ac 1=some (aZ 0 1)n:n<=18783
structure fV(s:Ws)(n jx jz:Nat):Prop where
 x:jx=0
 z:jz=1
 it:s.y.it.length=1
 im:s.y.im=[cR 4 18 0]n:n<=18783
structure jY(n jx jz:Nat):Prop where
 j:jx=0\/jz=0
 n:n<=18784
noncomputable def Cs(K:Kn)(s:Ws)(n jx jz:Nat)(a z:So):Prop:=So.rec (So.rec (k7 K s n) (λξ ξ ξ=>fV s n jz jx) z) (λξ ξ ξ=>So.rec (fV s n jx jz) (λξ ξ ξ=>jY n jx jz) z) a
structure Iv(K:Kn)(s:Ws)(jx jz:Nat)(a z:So)(rx rz:Nat):Prop where
 sx:Sl K s jx a rx
 sz:Sl K s jz z rz
 hj:jx≠jz
 wd:Wd K.C s.y s.m
 hr:rx+rz<=s.f
 hf:s.f<=30000
 ct:Cs K s (s.e.th.length+(rx+rz)) jx jz a z
theorem Cs.le(H:Cs K s n jx jz a z):n<=18784:=by
 cases a<;>cases z;·exact Nat.le_succ_of_le<|k7.n H
 ·exact Nat.le_succ_of_le<|fV.n H
 ·exact Nat.le_succ_of_le<|fV.n H
 ·exact jY.n H
theorem Iv.sw(H:Iv K s jx jz a z rx rz):Iv K s jz jx z a rz rx:=⟨H.sz,H.sx,Ne.symm H.hj,H.wd,Rr (Nat.add_comm rz rx) H.hr,H.hf,by
  haveI h:=H.ct;refine Rr (Nat.add_comm rz rx) ?_;clear H;cases a<;>cases z;·exact h
  ·exact h
  ·exact h
  ·exact⟨(jY.j h).symm,jY.n h⟩⟩
theorem xe{v x:AV}(h:rn D false 1350 [E,v] d=.ok x c):rn (D+1) false 1336 [E,v,.int 107,args] d=.ok x c:=ak<|aG 4 h<|az 0 ae
theorem Jz(h:l.length=1)(c:aa l 0=some x):l=[x]:=by
  rcases l with _|⟨a,l⟩;·exact nS c
  · rcases l with _|⟨_,_⟩;·exact congrArg (λz=>[z])<|sI c
    ·exact absurd (Nat.succ.inj h)<|Nat.succ_ne_zero _
inductive PB(K:Kn)(v:Lv)(c0:AO)(w:Bool)(s:Ws)(a z:So)(rz:Nat)(one:AV)(o:Int)(xs:List AV):Prop|mk(tl:aq)(jx jz k t:Nat)(ov:Bool)(r:Nat)(s':Ws)(hi:Iv K s' jx jz (.on k t ov) z r rz)(htl:tl=[]\/tl=gl (k+4)/\t=0/\ov=false)(h:∀q,(bK v xs 4 (r3 one o w++tl)<|hW K s' c0 w (.on k t ov) z).ev (rn<|K.D+165)=q->(bK v xs 3 (r3 one o w)<|hW K s c0 w a z).ev (rn<|K.D+165)=q):PB K v c0 w s a z rz one o xs
end
section
variable{K:Kn}{s s':Ws}{D n j jx jz k t r rx rz:Nat}{a z:So}{c0:AO}{v:Lv}{xs:List AV}{one:AV}{o nu b:Int}{w ov:Bool}{P0:Iy}
theorem Sl.keep(H:Sl K s j a r)(h:∀nu t ov c,Es K s j nu t ov c->Es K s' j nu t ov c)(d:∀k,It s j k->It s' j k):Sl K s' j a r:=by
 rcases a with _|⟨k,t,ov⟩;·exact H
 ·exact⟨d k<|Sn.i H,Sn.kz H,h _ _ _ _<|Sn.e H⟩
noncomputable abbrev Y2(ag:Bool)(c0 c32:AO)(T U O:List AV)(no:Nat->Int)(ac ca cu:List AO)(x:bC)(hl:List AO)(ao:List Nat)(o:AO)(aj:Nat)(b:Int)(k:Nat):Ry:=⟨c0,c32,T,U,O,no,ac,ca,cu,x,[o,aX (bE ag) aj b 1 (k+4:Nat) .none 0],[cR 4 18 0,cR (k+4:Nat) 18 1],hl,ao⟩
theorem NZ(p:K.C.again=v.again)(u:K.b=v.b)(l:k7 K s<|s.e.th.length+(9391+rz))(Q:rz=9391)(I:Wd K.C s.y s.m)(J:9391+rz<=s.f)(L:s.f<=30000):PB K v c0 w s .no .no rz one o xs:=by
 obtain⟨⟨B,body,nn⟩,D,b,P0⟩:=K;obtain⟨sc,again,V,ts,T,en⟩:=v;obtain⟨A,F,O,M,x⟩:=l;haveI p:=p;haveI u:=u;clear u;subst p u Q;haveI G:=Qh (Qi _ _) x;haveI l:It s 0 0:=⟨O,by refine Rr F ?_;rfl⟩;haveI g:aa s.y.it 0=some (aX (bE B) 1 b (k6 B) 4 .none 0):=by refine Rr A ?_;rfl
 clear p;rcases B with _|_;·exact .mk [] 0 1 0 0 false 9391 s ⟨⟨l,λN=>rfl,.rdy 1 g M rfl rfl rfl⟩,rfl,by decide,I,J,L,⟨rfl,rfl,by refine Rr A ?_;rfl,F,x⟩⟩ (.inl rfl) λz h=>LM h
 ·haveI U:=G3 (C:=⟨true,body,nn⟩) (D:=D+162) (gu:=[gW s.e<|.ref 1 0]) _ (s.y.lw c0 (tw w (.int 4)<|.int 0) (tw w (.int 0)<|.int 0)<|tw w (.bool false)<|.bool false) g 0 s.e.n_ s.m s.f 870;haveI P:=pJ (o:=.nx) (e':=s.e.n_) (y:=s.y.lw c0 (tw w (.int 4)<|.int 0) (tw w (.int 0)<|.int 0)<|tw w (.bool false)<|.bool false) l.kk l.i (Qh G<|bL rfl) (Qh G<|bL rfl) (xe U) (Qc _).symm rfl;exact .mk (gl 4) 0 1 0 0 false 9391 (s.n_.itS 0<|aX (bE true) 1 b 1 4 .none 0) ⟨⟨⟨l.kk,l.i⟩,λN=>rfl,.rdy 1 (bU g _) M rfl rfl rfl⟩,rfl,by decide,I.itS _ _,J,L,⟨rfl,rfl,(gA ..).trans<|by refine Rr A ?_;rfl,F,x⟩⟩ (.inr ⟨rfl,rfl,rfl⟩) λz h=>LO (y':=s.y.itS 0<|aX (bE true) 1 b 1 4 .none 0) P h
theorem N0(V:K.C.again=v.again)(Y:K.b=v.b)(H:Iv K s jx jz .no (.on k t ov) rx rz):PB K v c0 w s .no (.on k t ov) rz one o xs:=by obtain⟨⟨P,body,nn⟩,D,b,P0⟩:=K;obtain⟨sc,again,b',ts,P0',en⟩:=v;obtain⟨rfl,sz,hj,B,hr,hf,ct⟩:=H;clear hj;obtain⟨rfl,rfl,L,Z,hs⟩:fV s (s.e.th.length+(9391+rz)) jz jx:=ct;obtain⟨X,hk,he⟩:Sn ⟨⟨P,body,nn⟩,D,b,P0⟩ s 0 k t ov rz:=sz;cases hk rfl;haveI V:=V;haveI Y:=Y;clear Y;subst V Y;obtain⟨aj,F,ct,cur,Q,hst,hac⟩:=he.it;obtain⟨⟨A,c32,G,I,J,no,ac,ca,cu,x,it,im,u,ao⟩,e,m,f⟩:=s;haveI L:=Jz L Q;haveI L:=L;haveI Z:=Z;haveI h0:0<e.th.length:=dD X.kk;haveI hl:e.th.length<=50000:=af (au _ _) (.a (.v 0)<|.a (.n 9391)<|.v 1) (.n 18783) (.v 0) (.n 50000) hs rfl;haveI h4:aa (e.th++[AV.ref 9 4]) e.th.length=some (.ref 9 4):=bM _ _;haveI M:(e.th++[AV.ref 9 4]).length=e.th.length+1:=Qa;clear Z;subst L Z;haveI hz:∀{s':Ws},Kq ac.length cu.length 1 ⟨⟨A,c32,G,I,J,no,ac,ca,cu,x,[aX (bE P) aj b F (0+4) ct cur],[cR 4 18 0],u,ao⟩,e,m,f⟩ s'->Wd ⟨P,body,nn⟩ s'.y s'.m->s'.y.im=[cR 4 18 0,cR (e.th.length+4) 18 1]->s'.e.th=e.th++[.ref 9 4]->Sl ⟨⟨P,body,nn⟩,D,b,P0⟩ s' 0 (.on 0 t ov) rz:=λk hw' hi' ht'=>⟨⟨Rr ht'<|cH _ X.kk,by refine Rr hi' ?_;exact X.i⟩,λl=>rfl,he.keep k (by decide) hw'<|B.ne 0⟩;clear V Q L;clear L;cases P with|true=>haveI r1:=G4 (C:=⟨true,body,nn⟩) (D:=D+142) (gu:=[gW e<|.ref 1 0]) (c0:=c0) (c32:=c32) (T:=tw w (.int 4)<|.int 4) (U:=tw w (.int 0)<|.int t) (O:=tw w (.bool false)<|.bool ov) (no:=no) (ac:=ac) (ca:=ca) (cu:=cu) (x:=x) (i:=cR 4 18 0) (hl:=u) (ao:=ao) (e:=e.n_) (ct:=ct) (cur:=cur) (nu:=0+4) (b:=b) (aj:=aj) hst hl m f 870;haveI r2:=pJ (o:=.nx) (R:=[]) X.kk rfl hl (by refine Rr M ?_;exact af (ai _) (.v 0) (.n 50000) (.p 0 1) (.n 100000) hl rfl) (xe r1) rfl<|az 1 ae;haveI kq:Kq ac.length cu.length 1 ⟨⟨A,c32,G,I,J,no,ac,ca,cu,x,[aX (bE true) aj b F (0+4) ct cur],[cR 4 18 0],u,ao⟩,e,m,f⟩ ⟨Y2 true A c32 G I J no ac ca cu x u ao (aX (bE true) aj b F (0+4) ct cur) aj b e.th.length,e.n_.tp<|.ref 9 4,m,f⟩:=⟨λl l h=>⟨h,rfl⟩,λl l h=>h,λl l l h=>h,λl l l h=>h,λl l l h=>cH [_] h,.rfl,.rfl,Qk _,Qg _⟩;haveI N:Wd ⟨true,body,nn⟩ (Y2 true A c32 G I J no ac ca cu x u ao (aX (bE true) aj b F (0+4) ct cur) aj b e.th.length) m:=⟨B.ca,B.li,B.hl,B.ao,B.sk,B.fo,B.ol,B.cb⟩;exact .mk (gl<|e.th.length+4) 1 0 e.th.length 0 false 9391 ⟨Y2 true A c32 G I J no ac ca cu x u ao (aX (bE true) aj b F (0+4) ct cur) aj b e.th.length,e.n_.tp<|.ref 9 4,m,f⟩ ⟨⟨⟨h4,rfl⟩,λh=>absurd h<|by decide,.rdy aj rfl hac rfl rfl rfl⟩,hz kq N rfl rfl,by decide,N,hr,hf,⟨.inr rfl,by refine Rr M ?_;exact af (au _ _) (.a (.v 0)<|.a (.n 9391)<|.v 1) (.n 18783) (.a (.p 0 1)<|.a (.n 9391)<|.v 1) (.n 18784) hs rfl⟩⟩ (.inr ⟨rfl,rfl,rfl⟩) λz h=>LP (y':=Y2 true A c32 G I J no ac ca cu x u ao (aX (bE true) aj b F (0+4) ct cur) aj b e.th.length) h0 r2 h|false=>haveI r1:=G5 (D:=D+144) (body:=body) (nn:=nn) (gu:=[]) (c0:=c0) (c32:=c32) (T:=tw w (.int 4)<|.int 4) (U:=tw w (.int 0)<|.int t) (O:=tw w (.bool false)<|.bool ov) (no:=no) (ac:=ac) (ca:=ca++[AO.list []]) (cu:=cu) (x:=x) (o:=aX (bE false) aj b F (0+4) ct cur) (i:=cR 4 18 0) (hl:=u++[AO.edict]) (ao:=ao++[1]) (b:=b) hl (m.li_<|m.li++[AO.edict]) f 870;haveI kq:Kq ac.length cu.length 1 ⟨⟨A,c32,G,I,J,no,ac,ca,cu,x,[aX (bE false) aj b F (0+4) ct cur],[cR 4 18 0],u,ao⟩,e,m,f⟩ ⟨Y2 false A c32 G I J no (ac++[aZ 0 ac.length]) (ca++[AO.list []]) cu x (u++[AO.edict]) (ao++[1]) (aX (bE false) aj b F (0+4) ct cur) ac.length b e.th.length,e.tp<|.ref 9 4,m.li_<|m.li++[AO.edict],f⟩:=⟨λl l h=>⟨cH _ h,rfl⟩,λl l h=>cH _ h,λl l l h=>cH _ h,λl l l h=>h,λl l l h=>cH [_] h,⟨λc hc=>nC _ _ _<|Rr B.li hc,λl l h=>h,λl l l l=>rfl⟩,.rfl,Qg _,Qg _⟩;haveI N:Wd ⟨false,body,nn⟩ (Y2 false A c32 G I J no (ac++[aZ 0 ac.length]) (ca++[AO.list []]) cu x (u++[AO.edict]) (ao++[1]) (aX (bE false) aj b F (0+4) ct cur) ac.length b e.th.length)<|m.li_<|m.li++[AO.edict]:=⟨gc B.ca,gc B.li,gc B.hl,gc B.ao,B.sk,B.fo,B.ol,B.cb⟩;exact .mk [] 1 0 e.th.length 0 false 9391 ⟨Y2 false A c32 G I J no (ac++[aZ 0 ac.length]) (ca++[AO.list []]) cu x (u++[AO.edict]) (ao++[1]) (aX (bE false) aj b F (0+4) ct cur) ac.length b e.th.length,e.tp<|.ref 9 4,m.li_<|m.li++[AO.edict],f⟩ ⟨⟨⟨h4,rfl⟩,λh=>absurd h<|by decide,.rdy ac.length rfl (bM _ _) rfl rfl rfl⟩,hz kq N rfl rfl,by decide,N,hr,hf,⟨.inr rfl,by refine Rr M ?_;exact af (au _ _) (.a (.v 0)<|.a (.n 9391)<|.v 1) (.n 18783) (.a (.p 0 1)<|.a (.n 9391)<|.v 1) (.n 18784) hs rfl⟩⟩ (.inl rfl) λz h=>LQ (y':=Y2 false A c32 G I J no (ac++[aZ 0 ac.length]) (ca++[AO.list []]) cu x (u++[AO.edict]) (ao++[1]) (aX (bE false) aj b F (0+4) ct cur) ac.length b e.th.length) B.ca B.li B.hl r1 h
theorem pb(d:K.C.again=v.again)(c:K.b=v.b)(H:Iv K s jx jz a z rx rz)(c0:AO)(w:Bool)(one:AV)(o:Int)(xs:List AV):PB K v c0 w s a z rz one o xs:=by cases a with|on k t ov=>exact .mk [] jx jz k t ov rx s H (.inl rfl) λz h=>LK h|no=>
  rcases z with _|⟨k,t,ov⟩;·obtain⟨e,l,_,f,g,i,ct⟩:=H;cases e;exact NZ d c ct l f g i
  ·exact N0 d c H
end
section
variable{C:Cn}{D f f' n k t:Nat}{e e':Me}{m m':Md}{y y':Ry}{T U O:List AV}{sc lg:List Int}{c0:AO}{z:S}{v:Lv}{xs ts:List AV}{one x u tz uz oz:AV}{o b:Int}{w ov:Bool}{P0:Iy}{en:AV}{tl:aq}
theorem v7(n:Nat):∀lg:List Int,fH (dy<|n+1) (lg.map .int) (lg.map .int)=some true|[]=>rfl|x::lg=>by refine(?_:(some<|iF x x).bind (λp=>(fH (dy<|n+1) (lg.map .int)<|lg.map .int).map λg=>p&&g)=_);rw[v7 n lg,gy];rfl
theorem ko(h:dy 19 V V=some true)(lg:List Int):dy 20 (.tup [V,.fl<|lg.map .int]) (.tup [V,.fl<|lg.map .int])=some true:=by show(dy 19 V V).bind (λp=>((if(lg.map AV.int).length=(lg.map AV.int).length then fH (dy 18) (lg.map .int)<|lg.map .int else some false).bind λq=>(some true).map λg=>q&&g).map λg=>p&&g)=_;refine Rr h<|Rr (if_pos rfl)<|Rr (v7 17 lg) ?_;rfl
theorem zO(it:Int):dy 19 (.tup [.int 3,.int it]) (.tup [.int 3,.int it])=some true:=by refine Rr (show dy 19 (.tup [.int 3,.int it]) (.tup [.int 3,.int it])=some (iF 3 3&&(iF it it&&true))from rfl)<|Rr (gy it) ?_;rfl
noncomputable abbrev r5(one:AV)(o:Int)(w:Bool)(tl:aq)(t:Nat)(W:AV):aq:=r3 one o w++tl++[(q "turn",.int t),(q "want",W)]
section
variable(htl:tl=[]\/tl=gl (k+4))(h3:iF o 3=false)(h5:iF o 5=false)
include htl h3 h5
theorem LR(r:(dh v.P0).length<=100000)(i:decide ((t:Int)<(dh v.P0).length)=true)(g:bG (jX v.P0) t=some (.fl<|lg.map .int))(run:rn D false 1684 [E,.ref 1 0,.int (k+4:Nat),.int 109] (hS C y c0 (tw w (.int (k+4:Nat)) tz) (tw w (.int (t+1:Nat)) uz) (tw w (.bool false) oz) e m f)=.ok (.tup [.tup [.int 2,.int 1],.fl<|lg.map .int]) (hS C y' c0 (tw w (.int (k+4:Nat)) tz) (tw w (.int (t+1:Nat)) uz) (tw w (.bool false) oz) e' m' f'))(H:(bK v xs 7 (r5 one o w tl t<|.tup [.tup [.int 2,.int 1],.fl<|lg.map .int])<|hS C y' c0 (tw w (.int (k+4:Nat)) tz) (tw w (.int (t+1:Nat)) uz) (tw w (.bool false) oz) e' m' f').ev (rn D)=z):(bK v xs 4 (r3 one o w++tl)<|hS C y c0 (tw w (.int (k+4:Nat)) tz) (tw w (.int t) uz) (tw w (.bool false) oz) e m f).ev (rn D)=z:=by
 haveI h:(if aE (dh v.P0)=true then some<|AV.int (dh v.P0).length else none)=some (.int (dh v.P0).length):=if_pos<|br<|af (ai _) (.v 0) (.n 100000) (.p 0 0) (.n 300000) r rfl;haveI j:=ko (V:=.tup [.int 2,.int 1]) rfl lg;rcases htl with rfl|rfl;·exact dJ (.V 1 (a7 w (.int t) uz)<|.B 0 h3<|.B 0 h5<|.V 1 (a7 w (.bool false) oz)<|.V 1 h<|.B 0 i<|.V 0 g<|.O 2 (fb w (.int t) uz<|.int<|t+1)<|.V 1 (a7 w (.int<|k+4) tz)<|.C 0 run<|.Q 0 j .nil) 1 1 H
 ·exact dJ (.V 1 (a7 w (.int t) uz)<|.B 0 h3<|.B 0 h5<|.V 1 (a7 w (.bool false) oz)<|.V 1 h<|.B 0 i<|.V 0 g<|.O 2 (fb w (.int t) uz<|.int<|t+1)<|.V 1 (a7 w (.int<|k+4) tz)<|.C 0 run<|.Q 0 j .nil) 1 1 H
theorem JA(A:(dh P0).length<=100000)(j:decide ((t:Int)<(dh P0).length)=false)(h:bG (jX P0) t=some (.fl<|lg.map .int))(run:rn D false 1684 [E,.ref 1 0,.int (k+4:Nat),.int 109] (hS C y c0 (tw w (.int (k+4:Nat)) tz) (tw w (.int t) uz) (tw w (.bool true) oz) e m f)=.ok (.tup [.tup [.int 3,.int it],.fl<|lg.map .int]) (hS C y' c0 (tw w (.int (k+4:Nat)) tz) (tw w (.int t) uz) (tw w (.bool true) oz) e' m' f'))(H:(bK ⟨sc,ov,b,ts,P0,.tup [.int 3,.int it,.int g,.int r]⟩ xs 7 (r5 one o w tl t<|.tup [.tup [.int 3,.int it],.fl<|lg.map .int])<|hS C y' c0 (tw w (.int (k+4:Nat)) tz) (tw w (.int t) uz) (tw w (.bool true) oz) e' m' f').ev (rn D)=z):(bK ⟨sc,ov,b,ts,P0,.tup [.int 3,.int it,.int g,.int r]⟩ xs 4 (r3 one o w++tl)<|hS C y c0 (tw w (.int (k+4:Nat)) tz) (tw w (.int t) uz) (tw w (.bool false) oz) e m f).ev (rn D)=z:=by
 haveI i:(if aE (dh P0)=true then some<|AV.int (dh P0).length else none)=some (.int (dh P0).length):=if_pos<|br<|af (ai _) (.v 0) (.n 100000) (.p 0 0) (.n 300000) A rfl;haveI l:=ko (zO it) lg;rcases htl with rfl|rfl;·exact dJ (.V 1 (a7 w (.int t) uz)<|.B 0 h3<|.B 0 h5<|.V 1 (a7 w (.bool false) oz)<|.V 1 i<|.B 0 j<|.V 1 (a7 w (.bool false) oz)<|.V 4 h<|.O 1 (fb w (.bool false) oz<|.bool true)<|.V 1 (a7 w (.int<|k+4) tz)<|.C 0 run<|.Q 0 l .nil) 1 1 H
 ·exact dJ (.V 1 (a7 w (.int t) uz)<|.B 0 h3<|.B 0 h5<|.V 1 (a7 w (.bool false) oz)<|.V 1 i<|.B 0 j<|.V 1 (a7 w (.bool false) oz)<|.V 4 h<|.O 1 (fb w (.bool false) oz<|.bool true)<|.V 1 (a7 w (.int<|k+4) tz)<|.C 0 run<|.Q 0 l .nil) 1 1 H
theorem JB(G:iF h 3=false)(K:j.length<=1000)(L:(dh P0).length<=100000)(A:decide ((t:Int)<(dh P0).length)=false)(I:bG (jX P0) t=some (.fl<|lg.map .int))(run:rn D false 1684 [E,.ref 1 0,.int (k+4:Nat),.int 109] (hS C y c0 (tw w (.int (k+4:Nat)) tz) (tw w (.int t) uz) (tw w (.bool true) oz) e m f)=.ok (.tup [.tup [.int 2,.int 0],.fl<|lg.map .int]) (hS C y' c0 (tw w (.int (k+4:Nat)) tz) (tw w (.int t) uz) (tw w (.bool true) oz) e' m' f'))(H:(bK ⟨sc,ov,b,ts,P0,.tup<|.int h::j⟩ xs 7 (r5 one o w tl t<|.tup [.tup [.int 2,.int 0],.fl<|lg.map .int])<|hS C y' c0 (tw w (.int (k+4:Nat)) tz) (tw w (.int t) uz) (tw w (.bool true) oz) e' m' f').ev (rn D)=z):(bK ⟨sc,ov,b,ts,P0,.tup<|.int h::j⟩ xs 4 (r3 one o w++tl)<|hS C y c0 (tw w (.int (k+4:Nat)) tz) (tw w (.int t) uz) (tw w (.bool false) oz) e m f).ev (rn D)=z:=by
 haveI F:(if aE (dh P0)=true then some<|AV.int (dh P0).length else none)=some (.int (dh P0).length):=if_pos<|br<|af (ai _) (.v 0) (.n 100000) (.p 0 0) (.n 300000) L rfl;haveI s:=ko (V:=.tup [.int 2,.int 0]) rfl lg;haveI r:=f5 (l:=.int h::j) (i:=0) (k:=0) rfl<|af (ai _) (.v 0) (.n 1000) (.a (.p 0 1)<|.n 0) (.n 200000) K rfl;rcases htl with rfl|rfl;·exact dJ (.V 1 (a7 w (.int t) uz)<|.B 0 h3<|.B 0 h5<|.V 1 (a7 w (.bool false) oz)<|.V 1 F<|.B 0 A<|.V 1 (a7 w (.bool false) oz)<|.V 1 r<|.B 0 G<|.V 0 I<|.O 1 (fb w (.bool false) oz<|.bool true)<|.V 1 (a7 w (.int<|k+4) tz)<|.C 0 run<|.Q 0 s .nil) 1 1 H
 ·exact dJ (.V 1 (a7 w (.int t) uz)<|.B 0 h3<|.B 0 h5<|.V 1 (a7 w (.bool false) oz)<|.V 1 F<|.B 0 A<|.V 1 (a7 w (.bool false) oz)<|.V 1 r<|.B 0 G<|.V 0 I<|.O 1 (fb w (.bool false) oz<|.bool true)<|.V 1 (a7 w (.int<|k+4) tz)<|.C 0 run<|.Q 0 s .nil) 1 1 H
end
theorem LU(g:iF o 3=false)(d:iF o 5=false)(run:rn D false 1684 [E,.ref 1 0,.int (k+4:Nat),.int 109] (hS C y c0 (tw w (.int (k+4:Nat)) tz) (tw w (.int t) uz) (tw w (.bool true) oz) e m f)=.ok (.tup [.tup [.int 2,.int 0],.fl []]) (hS C y' c0 (tw w (.int (k+4:Nat)) tz) (tw w (.int t) uz) (tw w (.bool true) oz) e' m' f'))(H:(bK v xs 7 (r5 one o w [] t<|.tup [.tup [.int 2,.int 0],.fl []])<|hS C y' c0 (tw w (.int (k+4:Nat)) tz) (tw w (.int t) uz) (tw w (.bool true) oz) e' m' f').ev (rn D)=z):(bK v xs 4 (r3 one o w)<|hS C y c0 (tw w (.int (k+4:Nat)) tz) (tw w (.int t) uz) (tw w (.bool true) oz) e m f).ev (rn D)=z:=dJ (.V 1 (a7 w (.int t) uz)<|.B 0 g<|.B 0 d<|.V 1 (a7 w (.bool true) oz)<|.V 2 (a7 w (.bool true) oz)<|.V 2 (a7 w (.int (k+4:Nat)) tz)<|.C 0 run .nil) 2 1 H
end
section
variable{C:Cn}{D f f' n k t:Nat}{e e':Me}{m m':Md}{y y':Ry}{T U O:List AV}{sc lg:List Int}{c0:AO}{z:S}{v:Lv}{xs ts L V:List AV}{one x u tz uz oz:AV}{b:Int}{w ov ag:Bool}{P0:Iy}{en:AV}{tl:aq}
noncomputable abbrev oD(w:Bool):Int:=bif w then 5 else 3
noncomputable abbrev r6(one:AV)(w:Bool)(t:Nat)(W lf:AV):aq:=r3 one (oD w) w++[(q "turn",.int t),(q "want",W),(q "left",lf)]
section
variable(h2:bG L (t+1:Nat)=some (.fl<|lg.map .int))
include h2
theorem JC(h:rn D false 1632 [.fl ts,.int b,.int (t+1:Nat)] (hS C y c0 (tw w (.int (k+4:Nat)) tz) (tw w (.int (t+1:Nat)) uz) (tw w (.bool false) oz) e m f)=.ok (.tup [.fl L,.fl V,.tup [.int 3,.int it,.int g,.int r]]) (hS C y c0 (tw w (.int (k+4:Nat)) tz) (tw w (.int (t+1:Nat)) uz) (tw w (.bool false) oz) e m f))(run:rn D false 1684 [E,.ref 1 0,.int (k+4:Nat),.int 106] (hS C y c0 (tw w (.int (k+4:Nat)) tz) (tw w (.int (t+1:Nat)) uz) (tw w (.bool true) oz) e m f)=.ok (.tup [.tup [.int 3,.int it],.fl<|lg.map .int]) (hS C y' c0 (tw w (.int (k+4:Nat)) tz) (tw w (.int (t+1:Nat)) uz) (tw w (.bool true) oz) e' m' f'))(H:(bK ⟨sc,ag,b,ts,P0,en⟩ xs 7 (r6 one w (t+1) (.tup [.tup [.int 3,.int it],.fl<|lg.map .int])<|.tup [.fl L,.fl V,.tup [.int 3,.int it,.int g,.int r]])<|hS C y' c0 (tw w (.int (k+4:Nat)) tz) (tw w (.int (t+1:Nat)) uz) (tw w (.bool true) oz) e' m' f').ev (rn D)=z):(bK ⟨sc,ag,b,ts,P0,en⟩ xs 4 (r3 one (oD w) w)<|hS C y c0 (tw w (.int (k+4:Nat)) tz) (tw w (.int (t+1:Nat)) uz) (tw w (.bool false) oz) e m f).ev (rn D)=z:=by haveI hp:=ip<|Nat.succ_pos t;haveI d:=ko (zO it) lg;cases w with|true=>exact dJ (.B 4 hp<|.C 3 h<|.V 6 h2<|.C 4 run<|.Q 0 d .nil) 1 1 H|false=>exact dJ (.B 3 hp<|.C 3 h<|.V 6 h2<|.C 4 run<|.Q 0 d .nil) 1 1 H
theorem JD(g:rn D false 1632 [.fl ts,.int b,.int (t+1:Nat)] (hS C y c0 (tw w (.int (k+4:Nat)) tz) (tw w (.int (t+1:Nat)) uz) (tw w (.bool false) oz) e m f)=.ok (.tup [.fl L,.fl V,.tup [.int 2]]) (hS C y c0 (tw w (.int (k+4:Nat)) tz) (tw w (.int (t+1:Nat)) uz) (tw w (.bool false) oz) e m f))(run:rn D false 1684 [E,.ref 1 0,.int (k+4:Nat),.int 106] (hS C y c0 (tw w (.int (k+4:Nat)) tz) (tw w (.int (t+1:Nat)) uz) (tw w (.bool true) oz) e m f)=.ok (.tup [.tup [.int 2,.none],.fl<|lg.map .int]) (hS C y' c0 (tw w (.int (k+4:Nat)) tz) (tw w (.int (t+1:Nat)) uz) (tw w (.bool true) oz) e' m' f'))(H:(bK ⟨sc,ag,b,ts,P0,en⟩ xs 7 (r6 one w (t+1) (.tup [.tup [.int 2,.none],.fl<|lg.map .int])<|.tup [.fl L,.fl V,.tup [.int 2]])<|hS C y' c0 (tw w (.int (k+4:Nat)) tz) (tw w (.int (t+1:Nat)) uz) (tw w (.bool true) oz) e' m' f').ev (rn D)=z):(bK ⟨sc,ag,b,ts,P0,en⟩ xs 4 (r3 one (oD w) w)<|hS C y c0 (tw w (.int (k+4:Nat)) tz) (tw w (.int (t+1:Nat)) uz) (tw w (.bool false) oz) e m f).ev (rn D)=z:=by have hp:=ip<|Nat.succ_pos t;have d:=ko (V:=.tup [.int 2,.none]) rfl lg;cases w with|true=>exact dJ (.B 4 hp<|.C 3 g<|.V 4 h2<|.C 4 run<|.Q 0 d .nil) 1 1 H|false=>exact dJ (.B 3 hp<|.C 3 g<|.V 4 h2<|.C 4 run<|.Q 0 d .nil) 1 1 H
end
section
variable(run:rn D false 1684 [E,.ref 1 0,.int (k+4:Nat),.int 106] (hS C y c0 (tw w (.int (k+4:Nat)) tz) (tw w (.int t) uz) (tw w (.bool true) oz) e m f)=.ok (.tup [.tup [.int 2,.none],.fl []]) (hS C y' c0 (tw w (.int (k+4:Nat)) tz) (tw w (.int t) uz) (tw w (.bool true) oz) e' m' f'))(H:(bK v xs 7 (r5 one (oD w) w tl t<|.tup [.tup [.int 2,.none],.fl []])<|hS C y' c0 (tw w (.int (k+4:Nat)) tz) (tw w (.int t) uz) (tw w (.bool true) oz) e' m' f').ev (rn D)=z)
include run H
theorem yM(a:tl=[]\/tl=gl (k+4))(c:t=0):(bK v xs 4 (r3 one (oD w) w++tl)<|hS C y c0 (tw w (.int (k+4:Nat)) tz) (tw w (.int t) uz) (tw w (.bool ov) oz) e m f).ev (rn D)=z:=by
 subst c;rcases a with rfl|rfl;·cases w with|true=>exact aG 9 run<|bS 2 1 H|false=>exact aG 8 run<|bS 2 1 H
 ·cases w with|true=>exact aG 9 run<|bS 2 1 H|false=>exact aG 8 run<|bS 2 1 H
theorem G6(a:tl=[]):(bK v xs 4 (r3 one (oD w) w++tl)<|hS C y c0 (tw w (.int (k+4:Nat)) tz) (tw w (.int t) uz) (tw w (.bool true) oz) e m f).ev (rn D)=z:=by
 subst a;rcases t with _|t;·exact yM run H (.inl rfl) rfl
 ·have hp:=ip<|Nat.succ_pos t;cases w with|true=>exact dJ (.B 4 hp<|.C 7 run .nil) 2 1 H|false=>exact dJ (.B 3 hp<|.C 7 run .nil) 2 1 H
end
end
section
variable{C:Cn}{D f k t:Nat}{e:Me}{m:Md}{y:Ry}{T U O:List AV}{c0:AO}{z:S}{v:Lv}{xs:List AV}{one x tz uz oz:AV}{o va:Int}{w a ov:Bool}{r:aq}{σ σ':AS}
noncomputable abbrev B7:dc:=d4 1691 58<|aa (kX<|aa (bI 1691) 24) 7
inductive jd(one:AV)(o:Int)(w:Bool):aq->Prop|a(t:Nat)(W:AV):jd one o w<|r5 one o w [] t W|b(k t:Nat)(W:AV):jd one o w<|r5 one o w (gl k) t W|c(t:Nat)(W lf:AV):jd one o w<|r3 one o w++[(q "turn",.int t),(q "want",W),(q "left",lf)]
section
variable(hs:jd one o w r)
include hs
theorem zP(H:(bk B7 xs (v.loc r)<|hS C y c0 T (tw a (.int 0) uz) O e m f).ev (rn D)=z):(bk B7 (.int (wi a)::xs) (v.loc r)<|hS C y c0 T (tw a (.int 0) uz) O e m f).ev (rn D)=z:=by cases hs with|a t W=>exact gn 1 (a7 a (.int 0) uz)<|de 1 H|b k t W=>exact gn 1 (a7 a (.int 0) uz)<|de 1 H|c t W d=>exact gn 1 (a7 a (.int 0) uz)<|de 1 H
theorem LV(H:(bk B7 xs (v.loc r)<|hS C y c0 T (tw a (.int (t+1:Nat)) uz) (tw a (.bool true) oz) e m f).ev (rn D)=z):(bk B7 (.int (wi a)::xs) (v.loc r)<|hS C y c0 T (tw a (.int (t+1:Nat)) uz) (tw a (.bool true) oz) e m f).ev (rn D)=z:=by haveI hp:=ip<|Nat.succ_pos t;cases hs with|a _ W=>exact bH (.V 1 (a7 a (.int (t+1:Nat)) uz)<|.B 0 hp<|.V 1 (a7 a (.bool true) oz) .nil) 1 H|b k _ W=>exact bH (.V 1 (a7 a (.int (t+1:Nat)) uz)<|.B 0 hp<|.V 1 (a7 a (.bool true) oz) .nil) 1 H|c _ W g=>exact bH (.V 1 (a7 a (.int (t+1:Nat)) uz)<|.B 0 hp<|.V 1 (a7 a (.bool true) oz) .nil) 1 H
theorem LW(h:bG (dh v.P0) ((t+1:Nat)-1)=some (.int va))(run:rn D false 1684 [E,.ref 1 0,.int (k+4:Nat),.int 108] (hS C y c0 (tw a (.int (k+4:Nat)) tz) (tw a (.int (t+1:Nat)) uz) (tw a (.bool false) oz) e m f)=.ok (.tup [.tup [.int 2,.int va],.fl []]) (hS C y c0 (tw a (.int (k+4:Nat)) tz) (tw a (.int (t+1:Nat)) uz) (tw a (.bool false) oz) e.n_ m f))(H:(bk B7 xs (v.loc r)<|hS C y c0 (tw a (.int (k+4:Nat)) tz) (tw a (.int (t+1:Nat)) uz) (tw a (.bool false) oz) e.n_ m f).ev (rn D)=z):(bk B7 (.int (wi a)::xs) (v.loc r)<|hS C y c0 (tw a (.int (k+4:Nat)) tz) (tw a (.int (t+1:Nat)) uz) (tw a (.bool false) oz) e m f).ev (rn D)=z:=by haveI hp:=ip<|Nat.succ_pos t;haveI i:=ko (by refine Rr (show dy 19 (.tup [.int 2,.int va]) (.tup [.int 2,.int va])=some (iF 2 2&&(iF va va&&true))from rfl)<|Rr (gy va) ?_;rfl) [];cases hs with|a _ W=>exact bH (.V 1 (a7 a (.int<|t+1) uz)<|.B 0 hp<|.V 1 (a7 a (.bool false) oz)<|.V 2 (a7 a (.int<|k+4) tz)<|.C 0 run<|.V 1 (a7 a (.int<|t+1) uz)<|.V 1 h<|.Q 0 i .nil) 0 H|b _ _ W=>exact bH (.V 1 (a7 a (.int<|t+1) uz)<|.B 0 hp<|.V 1 (a7 a (.bool false) oz)<|.V 2 (a7 a (.int<|k+4) tz)<|.C 0 run<|.V 1 (a7 a (.int<|t+1) uz)<|.V 1 h<|.Q 0 i .nil) 0 H|c _ W l=>exact bH (.V 1 (a7 a (.int<|t+1) uz)<|.B 0 hp<|.V 1 (a7 a (.bool false) oz)<|.V 2 (a7 a (.int<|k+4) tz)<|.C 0 run<|.V 1 (a7 a (.int<|t+1) uz)<|.V 1 h<|.Q 0 i .nil) 0 H
theorem JE(h:(bk B7 [.int<|wi false,.int<|wi true] (v.loc r)<|hS C y c0 T U O e m f).ev (rn D)=.go .next (v.loc r) (hS C y c0 T U O e' m f))(H:(bk jc xs (v.loc [])<|hS C y c0 T U O e' m f).ev (rn D)=z):(bK v xs 7 r<|hS C y c0 T U O e m f).ev (rn D)=z:=by cases hs with|a t W=>exact eT 1 h<|de 0 H|b k t W=>exact eT 1 h<|de 0 H|c t W i=>exact eT 1 h<|de 0 H
end
end
section
variable{K:Kn}{s s':Ws}{n j jx jz k t t' r r' rx rz:Nat}{a z:So}{T U O:List AV}{c0:AO}{v:Lv}{xs:List AV}{one:AV}{o nu:Int}{w ov ov':Bool}{P0 Q:Iy}{lg:List Int}{SV:AV}{M:IS}{y y':Ry}
theorem Sf.lw(h:Sf (y.lw c0 T U O) y'):y'=y'.lw c0 T U O:=by obtain⟨l,d,c,b,_,_⟩:=h;obtain⟨C,x,D,F,B,u,G,A,p,f,m,g,e,i⟩:=y';haveI d:=d;haveI c:=c;haveI b:=b;clear d c b;subst l d c b;rfl
theorem cv.uniq{w:List Int}(H:cv P0 t Q f w):∀{c b d},cv P0 t c b d->Q=c:=by induction H with|z=>intro c b d h;cases h;rfl|s _ e=>intro c b d h;cases h with|s h=>haveI:=e h;injection this with _ _ _ h;exact Rr h rfl
theorem Es.pth(H:Es K s j nu t false r):∃Q c w,cv K.P0 t Q c w:=by
 rcases H with⟨aj,e,i,q⟩|⟨aj,a,g,t',l,f,p,G,c,w,lg,q,v,m,S,Q,e,i,hp,h,d⟩|⟨_,_,_,_,_,q⟩;·subst q;exact⟨_,_,_,.z⟩
 ·subst d;exact⟨_,_,_,hp.s⟩
 ·exact fT q
theorem Cs.keep(H:Cs K s n jx jz (.on k t ov) z)(b:s'.y.it.length=s.y.it.length)(c:s'.y.im=s.y.im)(h:n'<=n):Cs K s' n' jx jz (.on k t' ov') z:=by
 rcases z with _|_;·exact⟨fV.x H,fV.z H,b.trans<|fV.it H,c.trans<|fV.im H,Qh h<|fV.n H⟩
 ·exact⟨jY.j H,Qh h<|jY.n H⟩
theorem Iv.nx(H:Iv K s jx jz (.on k t ov) z r rz)(nx:Nx K jx lg r r' (s.lw c0 T U O) s')(b:Es K s' jx (k+4:Nat) t' ov' r'):Iv K s' jx jz (.on k t' ov') z r' rz:=by
 refine⟨⟨(Sn.i H.sx).kp nx.sf.im nx.th,Sn.kz H.sx,b⟩,H.sz.keep (λnu t ov c h=>nx.kp jz nu t ov c (Ne.symm H.hj)<|h.lw ..) λd h=>h.kp nx.sf.im nx.th,H.hj,nx.wd,?_,Qh nx.fl H.hf,H.ct.keep nx.sf.il nx.sf.im ?_⟩;·haveI:s.f+r'<=s'.f+r:=nx.fe;haveI:=H.hr;lia
 ·haveI e:=nx.th;rw[e,Qa,qZ];haveI:=nx.lr;exact af (ef _ _ _ _ _) (.a (.v 0)<|.v 1) (.v 2) (.a (.a (.v 3)<|.v 0)<|.a (.v 1)<|.v 4) (.a (.v 3)<|.a (.v 2)<|.v 4) this rfl
theorem Iv.n_(H:Iv K s jx jz (.on k t ov) z rx rz):Iv K s.n_ jx jz (.on k t ov) z rx rz:=⟨H.sx.keep (λb b b b h=>h.n_) λb h=>⟨h.kk,h.i⟩,H.sz.keep (λb b b b h=>h.n_) λb h=>⟨h.kk,h.i⟩,H.hj,H.wd,H.hr,H.hf,H.ct.keep rfl rfl<|Qg _⟩
structure Hy(K:Kn)(v:Lv)(SV:AV)(M:IS)(fl:Bool):Prop where
 hv:K.C.again=v.again
 hb:K.b=v.b
 hp:K.P0=v.P0
 bd:Bd K.C K.b K.P0 SV M
 ok:∀left,(play left v.P0 [[]] []).ok
 en:v.en=bB (play 0 v.P0 [[]] []).o
 mn:∀(r:Rg)(left:Int)D,rn (D+54) false 1632 [.fl v.ts,.int v.b,.int left] r.av=.ok (jV<|play left v.P0 [[]] []) r.av
 qt:fl=false->K.P0.qt
 hl:v.sc.length<=40
variable{fl:Bool}{rr:aq}
theorem mJ(h:Hy K v SV M fl)(d:jd one o w rr)(b:Bool)(xs:List AV)(c0:AO)(H:Iv K s jx jz (.on k t ov) z rx rz):∃e',Iv K ⟨s.y,e',s.m,s.f⟩ jx jz (.on k t ov) z rx rz/\∀q,(bk B7 xs (v.loc rr)<|hW K ⟨s.y,e',s.m,s.f⟩ c0 b (.on k t ov) z).ev (rn<|K.D+165)=q->(bk B7 (.int (wi b)::xs) (v.loc rr)<|hW K s c0 b (.on k t ov) z).ev (rn<|K.D+165)=q:=by
 haveI g:=H.ct.le;rcases t with _|t;·exact⟨s.e,H,λq p=>zP d p⟩
 ·cases ov with|true=>exact⟨s.e,H,λq p=>LV d p⟩|false=>obtain⟨lg,q,va,l,x,u,hp,run⟩:=G2 ((Sn.e H.sx).lw c0 (tw b (.int (k+4:Nat)) z.T) (tw b (.int (t+1:Nat)) z.U)<|tw b (.bool false) z.O) ((Sn.i H.sx).lw ..)<|Qh (Qh (Qi _ _) g)<|bL rfl;rw[h.hp]at hp;exact⟨s.e.n_,H.n_,λq p=>LW d (zK (h.ok 0) hp).2.2 run p⟩
end
section
variable{K:Kn}{s s':Ws}{jx jz k t rx rz:Nat}{z:So}{c0:AO}{v:Lv}{xs:List AV}{one:AV}{o:Int}{w ov fl:Bool}{SV:AV}{M:IS}{tl:aq}
inductive qk(K:Kn)(v:Lv)(c0:AO)(w:Bool)(s:Ws)(k t:Nat)(ov:Bool)(z:So)(rz:Nat)(one:AV)(o:Int)(tl:aq)(xs:List AV):Prop|mk(jx jz t':Nat)(ov':Bool)(r':Nat)(s':Ws)(rr:aq)(hs:jd one o w rr)(hi:Iv K s' jx jz (.on k t' ov') z r' rz)(h:∀q,(bK v xs 7 rr<|hW K s' c0 w (.on k t' ov') z).ev (rn<|K.D+165)=q->(bK v xs 4 (r3 one o w++tl)<|hW K s c0 w (.on k t ov) z).ev (rn<|K.D+165)=q):qk K v c0 w s k t ov z rz one o tl xs
theorem mr(c:tl=[]\/tl=gl (k+4))(W:AV):jd one o w<|r5 one o w tl t W:=by
 rcases c with rfl|rfl;·exact .a t W
 ·exact .b (k+4) t W
theorem LX(o:MO):(∃it g r,o=.thr it g r)\/∃c b,bB o=.tup (.int c::b)/\iF c 3=false/\b.length<=1000/\∀V,i3 o V=.tup [.int 2,V]:=by cases o with|thr it g r=>exact .inl ⟨it,g,r,rfl⟩|_=>exact .inr ⟨_,_,rfl,rfl,bL rfl,λd=>rfl⟩
theorem nD(c:Sf (s.y.lw c0 T U O) s'.y)(run:gS K k b (s.lw c0 T U O) V lg s'):rn (K.D+165) false 1684 [E,.ref 1 0,.int (k+4:Nat),.int b] (hS K.C s.y c0 T U O s.e s.m s.f)=.ok (.tup [V,.fl<|lg.map .int]) (hS K.C s'.y c0 T U O s'.e s'.m s'.f):=by haveI h:=c.lw;delta gS at run;rw[hp,hp,h]at run;exact run
theorem LY(h:Hy K v SV M fl)(H:Iv K s jx jz (.on k t ov) z rx rz)(u:tl=[]\/tl=gl (k+4)/\t=0/\ov=false)(A:iF o 3=false)(y:iF o 5=false):qk K v c0 w s k t ov z rz one o tl xs:=by haveI Y:s.e.th.length<=20000:=Qh (Qh (Qi _ _) H.ct.le)<|bL rfl;haveI hr:=Qh (Qi _ _) H.hr;haveI C:=(nj<|h.ok 0).2;obtain⟨N,hk,B⟩:Sn K s jx k t ov rx:=H.sx;have c:=u.imp id λq=>q.1;cases ov with
  |true=>
    rcases u with rfl|⟨_,_,q⟩
    · have run:=by haveI q:=LG (B.lw c0 (tw w (.int (k+4:Nat)) z.T) (tw w (.int t) z.U)<|tw w (.bool true) z.O) (N.lw ..) Y;exact q
      exact .mk jx jz t true rx s.n_ _ (.a t _) H.n_ λq p=>LU A y run p
    ·exact cX q|false=>have J:=λU O=>Jv h.bd (B.lw c0 (tw w (.int (k+4:Nat)) z.T) U O) (N.lw ..) (H.wd.lw ..) hr H.hf Y;obtain⟨Q,rr,w1,hp⟩:=B.pth;cases Q with
    |yl lg q va kk=>haveI j:=hp;rw[h.hp]at j;haveI a:=zK (h.ok 0) j;cases J (tw w (.int (t+1:Nat)) z.U)<|tw w (.bool false) z.O with|dn m D o' n I s' d=>injection hp.uniq d|yl m D G F n I s' P d run x nx=>injection hp.uniq d with e1;clear d;subst e1;exact .mk jx jz (t+1) false P s' _ (mr c _) (H.nx nx x) λq p=>LR c A y C a.1 a.2.1 (nD nx.sf run) p
    |dn lg q o1=>
      haveI j:=hp;rw[h.hp]at j;obtain⟨Z,L,X⟩:=Lu (h.ok 0) j;rcases J (tw w (.int t) z.U)<|tw w (.bool true) z.O with⟨m,D,G,F,n,I,s',P,d⟩|⟨m,D,o',n,I,s',d,run,x,nx⟩;·injection hp.uniq d
      · injection hp.uniq d with e1 _ e3;subst e1 e3;haveI l:=h.en;rw[X]at l;haveI V:=H.nx nx x;haveI run:=nD nx.sf run;clear J h H nx x j hp d B;clear X;obtain⟨sc,ag,b,ts,P0,en⟩:=v;haveI l:=l;subst l;clear l;rcases LX o1 with⟨it,g,r,rfl⟩|⟨kk,rr,q1,q2,q3,q4⟩;·exact .mk jx jz t true 0 s' _ (mr c _) V λq p=>JA c A y C Z L run p
        ·rw[q4]at run;refine Rr q1 ?_;exact .mk jx jz t true 0 s' _ (mr c _) V λq p=>JB c A y q2 q3 C Z L run p
end
section
variable{K:Kn}{s s':Ws}{C:Cn}{jx jz k t rx rz:Nat}{z:So}{c0:AO}{v:Lv}{xs:List AV}{one:AV}{o:Int}{w ov fl:Bool}{SV:AV}{M:IS}{tl:aq}
theorem N1(h:Hy K v SV M fl)(left:Int)(D:Nat)(y:Ry)(c0:AO)(T U O:List AV)(e:Me)(m:Md)(f:Nat):rn (D+54) false 1632 [.fl v.ts,.int v.b,.int left] (hS C y c0 T U O e m f)=.ok (jV<|play left v.P0 [[]] []) (hS C y c0 T U O e m f):=h.mn ⟨(hS C y c0 T U O e m f).headD [],y.ac,m.li,y.ca,m.ce,y.cu,y.x.sk,y.x.fr,y.it,fO 1 16::fO 2 16::fO 3 17::y.im,y.hl⟩ left D
theorem LZ(h:Hy K v SV M fl)(P:fl=false)(H:Iv K s jx jz (.on k t ov) z rx rz)(d:tl=[]\/tl=gl (k+4)/\t=0/\ov=false):qk K v c0 w s k t ov z rz one (oD w) tl xs:=by have X:s.e.th.length<=20000:=Qh (Qh (Qi _ _) H.ct.le)<|bL rfl;have Y:=Qh (Qi _ _) H.hr;obtain⟨G,hk,L⟩:Sn K s jx k t ov rx:=H.sx;have a:=d.imp id λq=>q.1;cases Jw h.bd (h.qt P) (L.lw c0 (tw w (.int (k+4:Nat)) z.T) (tw w (.int t) z.U)<|tw w (.bool true) z.O) (G.lw ..) (H.wd.lw ..) Y H.hf X with
 |n s' u run x nx=>
  have A:=H.nx nx x;haveI run:=nD nx.sf run;clear H L G h x nx;rcases u with u|u;·exact .mk jx jz t true 0 s' _ (mr a _) A λq p=>yM run p a u
  ·subst u;exact .mk jx jz t true 0 s' _ (mr a _) A λq p=>G6 run p<|d.elim id λq=>by exact cX q.2.2|p j V s0 va kk rr Z lg q o' s' I J hp l run x nx=>subst I J;haveI d:=d.elim id λq=>absurd q.2.1<|Nat.succ_ne_zero _;subst d;haveI B:=(hp.qt<|h.qt P).1;rw[l]at B;rw[h.hp]at hp;refine(Lx (h.ok (j+1:Nat)) hp l).elim λQ N=>?_;haveI F:=N1 (C:=K.C) h (j+1:Nat) (K.D+111) s.y c0 (tw w (.int (k+4:Nat)) z.T) (tw w (.int (j+1:Nat)) z.U) (tw w (.bool false) z.O) s.e s.m s.f;haveI A:=H.nx nx x;haveI run:=nD nx.sf run;unfold jV at F;rw[N]at F;clear h H N L G x nx hp l a;cases o' with|stop=>exact .mk jx jz (j+1) true 0 s' _ (.c (j+1) _ _) A λq p=>JD Q F run p|thr it g r=>exact .mk jx jz (j+1) true 0 s' _ (.c (j+1) _ _) A λq p=>JC Q F run p|_=>exact fT B
end
section
variable{K:Kn}{s:Ws}{jx jz k t rx rz:Nat}{a z:So}{c0:AO}{v:Lv}{xs:List AV}{one:AV}{o:Int}{w ov fl:Bool}{SV:AV}{M:IS}{rr:aq}{d:DS}{σ:AS}
theorem sJ(w:Bool)(x z:AV):tw w x z=tw (!w) z x:=by cases w<;>rfl
inductive fy(K:Kn)(v:Lv)(w:Bool)(d:DS)(σ:AS):Prop|mk(s:Ws)(jx jz:Nat)(a z:So)(rx rz:Nat)(hi:Iv K s jx jz a z rx rz)(hs:σ=hW K s (dO v.sc d) w a z):fy K v w d σ
theorem fy.to(H:fy K v w d σ)(b:Bool):fy K v b d σ:=by
 have e:fy K v (!w) d σ:=by obtain⟨s,jx,jz,a,z,rx,rz,f,c⟩:=H;exact⟨s,jz,jx,z,a,rz,rx,f.sw,by rw[c,hW,hW,sJ w,sJ w,sJ w]⟩
 cases w<;>cases b<;>first|exact H|exact e
theorem N2(h:Hy K v SV M fl)(g:jd one o w rr)(c0:AO)(H:Iv K s jx jz (.on k t ov) z rx rz):∃e',Iv K ⟨s.y,e',s.m,s.f⟩ jx jz (.on k t ov) z rx rz/\(bk B7 [.int<|wi false,.int<|wi true] (v.loc rr)<|hW K s c0 w (.on k t ov) z).ev (rn<|K.D+165)=.go .next (v.loc rr) (hW K ⟨s.y,e',s.m,s.f⟩ c0 w (.on k t ov) z):=by
 haveI no:∀{s:Ws}(b:Bool)(xs:List AV){q:S},(bk B7 xs (v.loc rr)<|hW K s c0 b .no<|.on k t ov).ev (rn<|K.D+165)=q->(bk B7 (.int (wi b)::xs) (v.loc rr)<|hW K s c0 b .no<|.on k t ov).ev (rn<|K.D+165)=q:=λb xs=>zP g;rcases w with _|_;·
  obtain⟨p,n,k1⟩:=mJ h g false [.int<|wi true] c0 H;clear H;rcases z with _|_;·exact⟨p,n,k1 _<|no true [] rfl⟩
  ·refine(mJ h g true [] c0 n.sw).elim λl ζ0=>ζ0.elim λi j=>?_;exact⟨l,i.sw,k1 _<|j _ rfl⟩
 ·rcases z with _|_;·obtain⟨l,i,j⟩:=mJ h g true [] c0 H;exact⟨l,i,no false [.int<|wi true]<|j _ rfl⟩
  ·obtain⟨p,n,k1⟩:=mJ h g false [.int<|wi true] c0 H.sw;obtain⟨l,i,j⟩:=mJ h g true [] c0 n.sw;exact⟨l,i,k1 _<|j _ rfl⟩
theorem L0(h:Hy K v SV M fl)(J:d.f=fl)(H:fy K v false d σ)(one:AV)(xs:List AV):∃g,fy K v false d.nx g/\∀q,(bk jc xs (v.loc []) g).ev (rn<|K.D+165)=q->(bk jc (one::xs) (v.loc []) σ).ev (rn<|K.D+165)=q:=by
 obtain⟨s,jx,jz,a,z,rx,rz,x,rfl⟩:=H;obtain⟨o,w,F,c⟩:=PQ v h.hl s.y d (tw false a.T z.T) (tw false a.U z.U) (tw false a.O z.O) s.e s.m s.f one xs;obtain⟨s,jx,jz,a,z,rx,rz,x,n⟩:=fy.to ⟨s,jx,jz,a,z,rx,rz,x,rfl⟩ w;haveI c:∀q,(bK v xs 3 (r3 one o w)<|hW K s (dO v.sc d.nx) w a z).ev (rn<|K.D+165)=q->_:=λq=>by refine Rl n ?_;exact c q
 obtain⟨L,jx,jz,k,t,ov,r,I,j,l,i⟩:=pb h.hv h.hb x (dO v.sc d.nx) w one o xs;haveI Y:qk K v (dO v.sc d.nx) w I k t ov z rz one o L xs:=by
  rcases F with⟨X,P⟩|⟨G,N⟩;·exact LY h j l X P
  ·clear c i;clear c;subst N;exact LZ h (Rl J G) j l
 obtain⟨jx,jz,t',V,Q,s2,rr,n,B,A⟩:=Y;obtain⟨Z,C,u⟩:=N2 h n (dO v.sc d.nx) B;exact⟨_,fy.to ⟨_,jx,jz,_,z,Q,rz,C,rfl⟩ false,λq p=>c q<|i q<|A q<|JE n u p⟩
theorem L2(h:Hy K v SV M fl)(xs:List AV):∀(d:DS)(σ:AS),d.f=fl->fy K v false d σ->∃d' c,fy K v false d' c/\(bk jc xs (v.loc []) σ).ev (rn<|K.D+165)=.go .next (v.loc []) c:=by induction xs with|nil=>exactλd σ r H=>⟨d,σ,H,rfl⟩|cons one xs l=>intro d σ i H;obtain⟨e,m,k⟩:=L0 h i H one xs;obtain⟨n,g,p,j⟩:=l d.nx e i m;exact⟨n,g,p,k _ j⟩
end
section
variable{F:Fx}{D f n aj:Nat}{e:Me}{m:Md}{y:Ry}{body ct en:AV}{b st cur:Int}{sc:List Int}{ts:List AV}{P0:Iy}{dn:Nat}{gu:List AV}
theorem L3(y:Ry)(body:AV)(nn:Nat)(e:Me)(m:Md)(f n:Nat):rn (D+10) false 170 [.ref 0 2,.int 34,.tup []] (sg (rz ⟨true,body,nn⟩ y 0 []) e m f n)=.ok (.int 20) (sg (rz ⟨true,body,nn⟩ y 0 []) e m f n):=by kernel_rfl
theorem L4(y:Ry)(body:AV)(nn:Nat)(e:Me)(m:Md)(f n:Nat):rn (D+10) false 170 [.ref 0 2,.int 35,.tup [.int 7]] (sg (rz ⟨true,body,nn⟩ y 0 []) e m f n)=.ok (.int 18) (sg (rz ⟨true,body,nn⟩ y 0 []) e m f n):=by kernel_rfl
theorem L5(y:Ry)(body:AV)(nn:Nat)(e:Me)(m:Md)(f n:Nat):rn (D+10) false 170 [.ref 0 2,.int 36,.tup [.int 7]] (sg (rz ⟨true,body,nn⟩ y 0 []) e m f n)=.ok (.int 19) (sg (rz ⟨true,body,nn⟩ y 0 []) e m f n):=by kernel_rfl
noncomputable def gT(C:Cn)(y:Ry):Fx:=⟨y.c0,gX,iy,.list<|R2++[fR 36 [7]]++[fR 34 []]++[fR 35 [7]],.tdict<|iA++[fU 36 [7] 18]++[fU 34 [] 19]++[fU 35 [7] 20],.list<|bP++[.int 1]++[.int 1]++[.int 2]++[.int 1]++[.int 2],.list<|bP++[.int 1]++[.int 1]++[.int 2]++[.int 1]++[.int 2],.list<|eC++[.int 0]++[.int 0]++[.int 0]++[.int 0]++[.int 0],iz,kD,C.K.c17,nB,y.c32,.list y.T,.list y.U,.list y.O,0,C.n+1,y.no,vL C.n,[],y.ac,y.ca,y.cu,y.x.sk,y.x.fr,y.it,y.im,y.hl⟩
theorem JF(y:Ry)(body:AV)(nn:Nat)(e:Me)(m:Md)(f n:Nat):rn (D+20) false 170 [.ref 0 2,.int 35,.tup [.int 7]] (sg (rz ⟨false,body,nn⟩ y 0 []) e m f n)=.ok (.int 20) (sg (gT ⟨false,body,nn⟩ y) e m f n):=by kernel_rfl
theorem JG(y:Ry)(body:AV)(nn:Nat)(e:Me)(m:Md)(f n:Nat):rn (D+10) false 170 [.ref 0 2,.int 36,.tup [.int 7]] (sg (gT ⟨false,body,nn⟩ y) e m f n)=.ok (.int 18) (sg (gT ⟨false,body,nn⟩ y) e m f n):=by kernel_rfl
noncomputable abbrev N3:dc:=d4 841 58<|aa (kX<|aa (bI 841) 2) 0
noncomputable abbrev Bm(k:Int):aq:=[(q "ev",E),(q "number",.int 4),(q "k",.int k),(q "item",.ref 9 3)]
section
variable{ks:List Int}(h1:aa e.th 0=some (.ref 9 3))(hl:e.th.length<=50000)(h2:aa F.im 0=some (cR (0+4:Nat) 18 0))(h3:aa F.it 0=some (aX ks aj b st (0+4:Nat) ct cur))
include h1 hl h2 h3
theorem ql(k:Int)(d:Bool)(h:(bk N3 (ks.map .int) (Bm k)<|sg F e m f n).ev (rn<|D+5)=bif d then .go (.ret<|.bool true) []<|sg F e m f n else .go .next (Bm k)<|sg F e m f n):rn (D+6) false 841 [E,.int 4,.int k] (sg F e m f n)=.ok (.bool d) (sg F e m f n):=by
 haveI j:bG (cN e) 4=some (.ref 9 3):=dZ rfl h1 (k:=0)<|af (ai _) (.v 0) (.n 50000) (.a (.p 0 4)<|.n 0) (.n 200000) hl rfl;haveI g:rn (D+5) false 680 [E,.int k] (sg F e m f n)=.ok (.int k) (sg F e m f n):=ak<|az 0 ae;rcases d with _|_;·haveI h:=h;exact ak<|ah (.C 1 g<|.V 2 j<|.O 0 h2<|.O 0 h2<|.O 0 h3<|.P 1 h .nil) 0 ae
 ·haveI h:=h;exact ak<|ah (.C 1 g<|.V 2 j<|.O 0 h2<|.O 0 h2<|.O 0 h3<|.P 1 h .nil) 0 ae
end
noncomputable abbrev CB:dc:=d4 1691 59<|aa (bI 1691) 26
noncomputable def CC:AV:=.fi 75 [(⟨#[99,111,100,101]⟩,.str ⟨#[105,116,101,114,97,116,111,114]⟩),(⟨#[97,116]⟩,.int 99)]
theorem CD(F:Fx)(e:Me)(m:Md)(f n:Nat):rn (D+3) false 1336 [E,.ref 8 0,.int 99,.fl []] (sg F e m f n)=.ex CC (sg F e m f n):=gP<|aG 6 (i8 (D+1) 75 [.str ⟨#[105,116,101,114,97,116,111,114]⟩,.int 99] CC<|sg F e m f n)<|az 0 et
section
variable{ks:List Int}(h3:aa F.it 0=some (aX ks aj b st (0+4:Nat) ct cur))
include h3
theorem c3(x:Int):rn (D+3) true 1336 [E,.ref 8 0,.int 3,.fl [.int x]] (sg F e m f n)=.ok (.int<|bif iF x 4 then 1 else 0) (sg F e m f n):=by refine ak ?_;cases h:iF x 4 with|true=>exact ah (.O 6 h3<|.B 0 h .nil) 0 ae|false=>exact ah (.O 6 h3<|.B 0 h .nil) 0 ae
theorem c4:rn (D+3) true 1336 [E,.ref 8 0,.int 4,.fl []] (sg F e m f n)=.ok (.int 4) (sg F e m f n):=ak<|kM 6 h3<|az 0 ae
end
end
section
variable{D f nn aj:Nat}{e:Me}{m:Md}{y:Ry}{body ct en:AV}{b st cur:Int}{sc:List Int}{ts:List AV}{P0:Iy}
noncomputable abbrev Xe(v:Lv)(j:Nat)(r:aq)(σ:AS):Cd:=execs (cz TP 60<|eU 1691) ((bI 1691).drop j) (v.loc r) σ l0 l5
noncomputable abbrev k8(k:Int)(b:Bool):AV:=.tup [.int k,.bool b]
section
variable(h1:aa e.th 0=some (.ref 9 3))(hl:e.th.length<=50000)(h2:aa y.im 0=some (cR (0+4:Nat) 18 0))
include h1 hl h2
theorem N4(c:aa y.it 0=some (aX (bE true) aj b st (0+4:Nat) ct cur)):(bk CB [k8 34 true,k8 35 true,k8 36 true] ((⟨sc,true,b,ts,P0,en⟩:Lv).loc [(q "special",.ref 8 0)])<|sg (rz ⟨true,body,nn⟩ y 0 []) e m f 870).ev (rn<|D+20)=.go .next ((⟨sc,true,b,ts,P0,en⟩:Lv).loc [(q "special",.ref 8 0)]) (sg (rz ⟨true,body,nn⟩ y 0 []) e m f 870):=by haveI i:=λk h=>ql (D:=D+14) (F:=rz ⟨true,body,nn⟩ y 0 []) (m:=m) (f:=f) (n:=870) h1 hl h2 c k true h;exact ah (.C 1 (L3 y body nn e m f 870)<|.C 0 (i 20<|by kernel_rfl)<|.C 2 (L4 y body nn e m f 870)<|.C 0 (i 18<|by kernel_rfl)<|.C 2 (L5 y body nn e m f 870)<|.C 0 (i 19<|by kernel_rfl) .nil) 1 ae
theorem N5(d:aa y.it 0=some (aX (bE false) aj b st (0+4:Nat) ct cur)):(bk CB [k8 34 true,k8 35 false,k8 36 true] ((⟨sc,false,b,ts,P0,en⟩:Lv).loc [(q "special",.ref 8 0)])<|sg (rz ⟨false,body,nn⟩ y 0 []) e m f 870).ev (rn<|D+20)=.go .next ((⟨sc,false,b,ts,P0,en⟩:Lv).loc [(q "special",.ref 8 0)]) (sg (gT ⟨false,body,nn⟩ y) e m f 870):=by haveI i:=ql (D:=D+14) (F:=rz ⟨false,body,nn⟩ y 0 []) (m:=m) (f:=f) (n:=870) h1 hl h2 d 19 true (by kernel_rfl);haveI h:=ql (D:=D+14) (F:=gT ⟨false,body,nn⟩ y) (m:=m) (f:=f) (n:=870) h1 hl h2 d 20 false (by kernel_rfl);haveI g:=ql (D:=D+14) (F:=gT ⟨false,body,nn⟩ y) (m:=m) (f:=f) (n:=870) h1 hl h2 d 18 true (by kernel_rfl);exact ah (.C 1 (Bl (body:=body) (nn:=nn) (gu:=[]) y 0 e m f 870)<|.C 0 i<|.C 2 (JF y body nn e m f 870)<|.C 0 h<|.C 2 (JG y body nn e m f 870)<|.C 0 g .nil) 1 ae
theorem N6(i:Bool)(h:aa y.it 0=some (aX (bE i) aj b st (0+4:Nat) ct cur)):∃j,(Xe ⟨sc,i,b,ts,P0,en⟩ 25 []<|sg (rz ⟨i,body,nn⟩ y 0 []) e m f 870).ev (rn<|D+20)=.go (.ret<|.bool true) [] j:=by haveI o:bG (cN e) 4=some (.ref 9 3):=dZ rfl h1 (k:=0)<|af (ai _) (.v 0) (.n 50000) (.a (.p 0 4)<|.n 0) (.n 200000) hl rfl;cases i with|true=>haveI l:=N4 (D:=D) (sc:=sc) (ts:=ts) (P0:=P0) (en:=en) (body:=body) (nn:=nn) (m:=m) (f:=f) h1 hl h2 h;haveI c:=λx=>c3 (D:=D+17) (F:=rz ⟨true,body,nn⟩ y 0 []) (e:=e) (m:=m) (f:=f) (n:=870) h x;exact⟨sg (rz ⟨true,body,nn⟩ y 0 []) e m f 870,ah (.V 2 o<|.O 0 h2<|.P 1 l<|.X 0 (CD (rz ⟨true,body,nn⟩ y 0 []) e m f 870)<|.C 0 (c 4)<|.C 0 (c 1)<|.C 2 (c4 (F:=rz ⟨true,body,nn⟩ y 0 []) (e:=e) (m:=m) (f:=f) (n:=870) h) .nil) 1 ae⟩|false=>haveI l:=N5 (D:=D) (sc:=sc) (ts:=ts) (P0:=P0) (en:=en) (body:=body) (nn:=nn) (m:=m) (f:=f) h1 hl h2 h;haveI c:=λx=>c3 (D:=D+17) (F:=gT ⟨false,body,nn⟩ y) (e:=e) (m:=m) (f:=f) (n:=870) h x;exact⟨sg (gT ⟨false,body,nn⟩ y) e m f 870,ah (.V 2 o<|.O 0 h2<|.P 1 l<|.X 0 (CD (gT ⟨false,body,nn⟩ y) e m f 870)<|.C 0 (c 4)<|.C 0 (c 1)<|.C 2 (c4 (F:=gT ⟨false,body,nn⟩ y) (e:=e) (m:=m) (f:=f) (n:=870) h) .nil) 1 ae⟩
end
end
section
variable{C:Cn}{D n:Nat}{v:Lv}{d:DS}{σ σ':AS}{b:Int}{body en:AV}{sc:List Int}{ts xs:List AV}{P0:Iy}{again:Bool}{z:S}{SV:AV}{M:IS}{L:LS}
noncomputable def y0(again:Bool)(b:Int):Ry:=⟨.edict,.edict,[],[],[],λξ=>0,[aZ 0 0,aZ 0 1],[.list [],.list []],[],⟨[],[],[]⟩,[aX (bE again) 1 b (k6 again) 4 .none 0],[cR 4 18 0],[.edict,.edict],[0,0]⟩
noncomputable def e0:Me:=⟨λξ=>0,0,[.ref 9 3]⟩
noncomputable def m0:Md:=⟨[.edict,.edict],[],[]⟩
noncomputable def s0(again:Bool)(b:Int):Ws:=⟨y0 again b,e0,m0,30000⟩
theorem PR:Iv ⟨⟨again,body,n⟩,D,b,P0⟩ (s0 again b) 0 1 .no .no 9391 9391:=⟨rfl,rfl,bD rfl,⟨rfl,rfl,rfl,rfl,rfl,rfl,rfl,.inl rfl⟩,bL rfl,Qg _,⟨rfl,rfl,rfl,rfl,bL rfl⟩⟩
theorem L6(hl:sc.length<=40){nx:Nat}(e1:5+(sc.length:Int).fdiv 10=nx)(j:nx<=1000)(h:(bk jc (d9 0 nx) ((⟨sc,again,b,ts,P0,bB (play 0 P0 [[]] []).o⟩:Lv).loc [])<|hS ⟨again,body,n⟩ (y0 again b) (dO sc d) [.int 0,.int 0] [.int 0,.int 0] [.bool false,.bool false] e0 m0 30000).ev (rn<|D+30)=.go .next ((⟨sc,again,b,ts,P0,bB (play 0 P0 [[]] []).o⟩:Lv).loc []) (hS C y c0 T U O e m f))(H:(Xe ⟨sc,again,b,ts,P0,bB (play 0 P0 [[]] []).o⟩ 25 []<|hS C y c0 T U O e m f).ev (rn<|D+30)=z):(jw 21 (ij (sc.map .int) again b ts (.fl<|jX P0) (.fl<|dh P0) (bB (play 0 P0 [[]] []).o) lw)<|pT again (dO sc d) body (vL n) b).ev (rn<|D+30)=z:=by
 haveI k:(if aE (sc.map AV.int)=true then some<|AV.int (sc.map AV.int).length else none)=some (.int sc.length):=by rw[ie<|by rw[Qb];exact Qh hl<|bL rfl,Qb]
 haveI p:(if sm (5+(sc.length:Int).fdiv 10)=true then some<|AV.rng 0 (5+(sc.length:Int).fdiv 10) 1 else none)=some (.rng 0 nx 1):=by refine Rr e1 ?_;exact jO<|Qh j<|bL rfl
 haveI l:=jN<|Qh j<|bL rfl;exact dJ (.V 0 k<|.V 2 p<|.V 0 l<|.P 0 h .nil) 2 2 H
inductive uS(K:Kn)(σ:AS):Prop|mk(s:Ws)(c0:AO)(T U O:List AV)(aj:Nat)(st:Int)(ct:AV)(cur:Int)(hs:σ=hS K.C s.y c0 T U O s.e s.m s.f)(h1:aa s.e.th 0=some (.ref 9 3))(h2:s.e.th.length<=50000)(h3:aa s.y.im 0=some (cR (0+4:Nat) 18 0))(h4:aa s.y.it 0=some (dQ K aj st (0+4:Nat) ct cur)):uS K σ
theorem Sn.fst(h:Sn K s 0 k t p r)(a:σ=hS K.C s.y c0 T U O s.e s.m s.f)(o:s.e.th.length<=50000):uS K σ:=by obtain⟨i,g,j⟩:=h;cases g rfl;obtain⟨aj,l,ct,cur,c,_⟩:=j.it;exact⟨s,c0,T,U,O,aj,l,ct,cur,a,i.kk,o,i.i,c⟩
theorem fy.fst(H:fy K v w d σ):uS K σ:=by
 obtain⟨s,p,m,a,z,o,rz,g,c⟩:=H;have f:s.e.th.length<=50000:=Qh (Qh (Qi _ _) g.ct.le)<|bL rfl;obtain⟨h,i,_,_,_,_,ct⟩:=g;rcases a with _|⟨k,t,l⟩;·
  rcases z with _|⟨k,t,l⟩;·exact⟨s,_,_,_,_,1,k6 K.C.again,.none,0,c,k7.th ct,f,by refine Rr (k7.im ct) ?_;rfl,by refine Rr (k7.it ct) ?_;rfl⟩
  ·cases fV.x ct;exact Sn.fst i c f
 ·rcases z with _|_;·cases fV.x ct;exact Sn.fst h c f
  ·rcases jY.j ct with rfl|rfl;exact Sn.fst h c f;exact Sn.fst i c f
end
theorem PS{n:Nat}(h:n<=40):∃b:Nat,b<=1000/\5+(n:Int).fdiv 10=b:=by
 haveI e:(n:Int).fdiv 10=(n/10:Nat):=by rw[Int.fdiv_eq_ediv_of_nonneg _<|bD rfl];rfl
 exact⟨5+n/10,by omega,by rw[e];omega⟩
theorem law_t:pw:=λl hl=>by
 haveI a:(l.take 40).length<=40:=by refine Rr List.length_take ?_;exact Nat.min_le_left _ _
 obtain⟨again,b,ts,P0,d',L,body,n,M,p,j,G,D,i,g,t,I,v,c⟩:=NR l hl;obtain⟨SV,F,C,r,r3⟩:=LB g t I;subst p;obtain⟨nx,B,e1⟩:=PS a;haveI k:Hy ⟨⟨again,body,n⟩,134,b,L.at b⟩ ⟨l.take 40,again,b,ts,L.at b,bB (play 0 (L.at b) [[]] []).o⟩ SV F d'.f:=⟨rfl,rfl,rfl,⟨i.1,i.2,g,C,r,λw e h H=>⟨_,yD r3 b (by refine Rr h ?_;rfl) (by refine Rr h ?_;rfl) H⟩⟩,v,rfl,j,D,a⟩;obtain⟨V,z,N,x⟩:=L2 k (d9 0 nx) d' _ rfl ⟨Mj.Internal.s0 again b,0,1,.no,.no,9391,9391,PR,rfl⟩;obtain⟨s,c0,T,U,O,aj,Q,ct,cur,rfl,m,u,K,A⟩:=N.fst;obtain⟨d,J⟩:=N6 (y:=s.y.lw c0 T U O) m u K again A;exact⟨d,ak<|c _<|Lk<|Lm (G 244)<|L6 a e1 B x J⟩
end
section
open PySem PySem.Calls PySem.W
theorem lawD_name:lawD.name=fK:=by kernel_rfl
theorem walk_:WalkO qW cJ (XL qW []) H_.says cy.toRowW lawD [] λf vs=>PySem.call f vs:=law_walk law_t lawD lawD_name []
open PySem
open PySem.W
open PyProof.Rows
end
end
end Mj.Internal
theorem PySem.Challenge.cw_sj0018_01_holds : PySem.Challenge.rw_sj0018_01.Holds :=
 PySem.W.holds_law Mj.Internal.wsaid_ fun x=>Mj.Internal.head_ x Mj.Internal.walk_
