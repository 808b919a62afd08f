import PyProof.Rows.All
import Wide.All
import OpenK.AllK
import Wide.FinOn
import PySem.Challenge.RW_pq0764_01
set_option Elab.async false
set_option linter.all false
set_option maxRecDepth 100000
set_option backward.eqns.nonrecursive false
set_option genSizeOf false
open List (find?_cons any_cons length_take all_cons mem_singleton nodup_nil drop_length getElem?_zip_eq_some of_mem_zip getElem?_take_of_lt mem_append_left getElem?_cons_zero map_nil take_succ_cons take_zero replicate_zero filter_cons tail_cons getLast?_concat dropLast_concat foldl_cons set_cons_succ set_cons_zero getD_cons_succ)
open Nat (add_le_add lt_irrefl sub_le sub_lt not_lt sub_eq_zero_of_le min_eq_left le_succ lt_succ_of_lt lt_trichotomy lt_asymm add_right_comm sub_self add_sub_cancel_left lt_or_ge succ_add add_le_add_right)
noncomputable section
section
open PySem PySem.W PySem.Calls PyProof.Rows PyProof.Rows.LCg
namespace Mine
def YB:=@List.all_eq_true
def ZS:=@Int.lt_of_lt_of_le
def abj:=@List.range'_succ
def abk:=@Int.add_sub_cancel
def Yp:=@List.mem_map
def abv:=@Heap.get?_none_of_le
def aat:=@Option.bind_some
def Zy:=@List.getElem?_append_right
def XJ:=@Nat.le_trans
def YC:=@Nat.lt_trans
def aaf:=@Int.emod_nonneg
def Z0:=@List.eq_nil_of_length_eq_zero
def X9:=@List.nodup_cons
def YZ:=@Nat.add_zero
def Zj:=@List.map_append
def YD:=@Int.natCast_nonneg
def abl:=@Option.isSome_iff_exists
def Y4:=@List.size_toArray
def aag:=@List.contains_iff_mem
def X0:=@Ne.symm
def Zq:=@List.forall_mem_cons
def Yi:=@Int.ofNat_lt
def YN:=@List.getElem?_map
def Z1:=@List.take_sublist
def YJ:=@List.getElem?_set_ne
def aah:=@Nat.not_lt_zero
def ZJ:=@List.getElem_mem
def aai:=@List.getElem?_eq_none
def Z2:=@Int.natCast_pos
def Yw:=@Bool.false_ne_true
def ZK:=@Heap.get?_push_of_some
def X6:=@Eq.trans
def ZL:=@Bool.and_self
def YE:=@List.mem_append
def Ys:=@List.append_nil
def Z3:=@Nat.le_succ_of_le
def Yb:=@Nat.le_of_ble_eq_true
def YO:=@Bool.or_eq_true
def Y5:=@Int.toNat_natCast
def XE:=@List.mem_cons
def Z4:=@Nat.le_of_not_lt
def Y6:=@Nat.lt_of_succ_lt
def YK:=@Int.le_of_lt
def Yk:=@beq_eq_false_iff_ne
def Z5:=@Int.emod_lt_of_pos
def Zr:=@Nat.add_comm
def Zs:=@Int.ne_of_gt
def Z6:=@List.cons.inj
def ZM:=@wpAny_field
def XO:=@Nat.lt_of_lt_of_le
def Y0:=@args_cons
def Yc:=@Nat.lt_of_le_of_lt
def X4:=@Nat.zero_le
def Y7:=@List.mem_map_of_mem
def Yq:=@List.getD_eq_getElem?_getD
def Y8:=@List.lookup_cons
def YL:=@Int.ofNat_le
def aau:=@Nat.ble_eq_true_of_le
def Zc:=@Bool.false_eq_true
def Zt:=@Nat.lt_of_le_of_ne
def Xu:=@if_neg
def ZN:=@Int.add_assoc
def ZO:=@Int.toNat_of_nonneg
def aaj:=@wpAny_Constant_int
def Yx:=@Nat.zero_add
def Z7:=@List.filterMap_cons
def Yy:=@decide_eq_true
def Yt:=@decide_eq_false
def abm:=@List.dropLast_concat_getLast
def Zd:=@Option.some.inj
def YQ:=@List.mem_of_getElem?
def Zu:=@Nat.le_antisymm
def Y1:=@Bool.not_eq_true'
def aak:=@Nat.lt_succ_of_le
def YF:=@beq_iff_eq
def XQ:=@List.getElem?_eq_getElem
def Xw:=@absurd
def aa8:=@Nat.succ_le_succ
def Yg:=@Int.le_trans
def XM:=@List.length_map
def X1:=@List.append_assoc
def aav:=@Int.lt_of_le_of_lt
def ab7:=@decide_eq_false_iff_not
def ZP:=@beq_self_eq_true
def YU:=@List.map_congr_left
def Y9:=@List.map_map
def YA:=@Heap.lt_size
def Yd:=@Nat.ne_of_lt
def Yu:=@List.getElem?_append_left
def Yl:=@List.getElem?_eq_some_iff
def XD:=@wpAny_bind
def Zk:=@Option.some.injEq
def Xr:=@if_pos
def XG:=@And.elim
def XY:=@List.not_mem_nil
def Zn:=@wpAny_execs_cons
def Ze:=@List.length_set
def Xx:=@List.length_append
def Y2:=@Nat.le_of_lt_succ
def Z8:=@List.flatten_cons
def X5:=@decide_eq_true_eq
def Xs:=@congrArg
def Z9:=@wpAny_loadName_local
def aaa:=@wpAny_mono
def aal:=@Heap.get?_update_other
def YR:=@Nat.le_of_lt
def XN:=@Nat.le_add_left
def Xq:=@Exists.elim
def Ym:=@Nat.sub_add_cancel
def YX:=@Nat.lt_succ_self
def aab:=@Int.add_le_add_right
def YY:=@of_decide_eq_true
def aam:=@List.getElem?_of_mem
def Zz:=@List.mem_append_right
def Xv:=@Bool.and_eq_true
def ZA:=@List.mem_range'_1
def Zf:=@List.length_reverse
def XB:=@Nat.ne_of_gt
def XZ:=@wpAny_pure
def aan:=@List.getElem?_set_self
def Xz:=@Nat.le_add_right
def Yv:=@Option.map_eq_some_iff
def Zo:=@Nat.add_le_add_left
def ZC:=@List.take_of_length_le
def aa2:=@List.exists_cons_of_length_eq_add_one
def ZD:=@List.mem_of_mem_take
def YI:=@Int.not_lt
def YS:=@List.nodup_append
def XR:=@Nat.add_assoc
def XC:=@Nat.le_refl
def Y3:=@Nat.le_of_eq
theorem aE{a:b}{l:List b}:(a::l).length=l.length+1:=rfl
theorem br:([]:List a).length=0:=rfl
theorem af{f:b->c}{a l}:(a::l).map f=f a::l.map f:=rfl
theorem bE{a:b}{s t:List b}:a::s++t=a::(s++t):=rfl
theorem dA{s:List a}:[]++s=s:=rfl
end Mine
end
section
namespace Mine.Lq
noncomputable def dg(f:Nat):Nat->List Nat:=Nat.rec (λ_=>[]) (λ_ r n=>n % 32::r (n/32)) f
def vn (a:List Nat):List Nat->List Nat:=List.rec (λb=>b) (λx l r b=>List.rec (x::l) (λy b _=>(x+y)::r b) b) a
def PX (k:Nat)(a:List Nat):List Nat:=List.rec [] (λx _ r=>(k*x)::r) a
def RL (a:List Nat):List Nat->Bool:=List.rec (λ_=>true) (λx _ r b=>List.rec (Nat.beq x 0&&r []) (λy b _=>Nat.ble x y&&r b) b) a
def jd (a:List Nat):(Nat->Nat)->Nat:=List.rec (λ_=>0) (λc _ r y=>c*y 0+r λi=>y<|i+1) a
noncomputable def vr(k:Nat):List Nat:=Nat.rec [1] (λ_ r=>0::r) k
noncomputable def cs(a:Nat)(f:Nat->Nat)(i:Nat):Nat:=Nat.rec a (λn _=>f n) i
def ds (k:Nat):List Nat->Nat×List Nat:=Nat.rec (λt=>(0,t)) (λ_ r t=>List.rec (0,[]) (λy t _=>(y+32*(r t).1,(r t).2)) t) k
def pN (t:List Nat):Nat×List Nat:=List.rec (0,[]) (λk t _=>ds (bif Nat.beq k 13 then 1 else bif Nat.beq k 14 then 2 else 5) t) t
abbrev Lx:=((Nat->Nat)->Nat)×List Nat×List Nat
abbrev LC:=((Nat->Nat)->Prop)×Bool×List Nat×List Nat×List Nat
abbrev eS (a b:Lx):Lx:=(λx=>a.1 x+b.1 x,vn a.2.1 b.2.1,b.2.2)
abbrev eM (n:Nat)(b:Lx):Lx:=(λx=>n*b.1 x,PX n b.2.1,b.2.2)
abbrev eW (n:Nat)(b:Lx):Lx:=(λx=>b.1 x*n,PX n b.2.1,b.2.2)
noncomputable abbrev eK(n:Nat×List Nat):Lx:=(λ_=>n.1,[n.1],n.2)
abbrev eV (k:Nat)(t:List Nat):Lx:=(λx=>x k,vr<|k+1,t)
abbrev Wy (r:List Nat->Lx)(k:Nat)(t:List Nat):Lx:=
 bif Nat.blt k 12 then eV k t else bif Nat.beq k 12 then eS (r t) (r (r t).2.2)else bif Nat.beq k 15 then eM (pN t).1 (r (pN t).2)else bif Nat.beq k 16 then eW (pN t).1 (r (pN t).2)else eK<|pN<|k::t
def pE (f:Nat):List Nat->Lx:=Nat.rec (λ_=>(λ_=>0,[],[])) (λ_ r t=>List.rec (λ_=>0,[],[]) (λk t _=>Wy r k t) t) f
def fk (a b)(y):jd (vn a b) y=jd a y+jd b y:=by
 induction a generalizing b y with
 |nil=>exact(Yx _).symm
 |cons c a i=>cases b with
  |nil=>rfl
  |cons d b=>exact(congr (Xs HAdd.hAdd<|Nat.add_mul c d<|y 0) (i b _)).trans<|Nat.add_add_add_comm ..
def rX (k)(a)(y):jd (PX k a) y=k*jd a y:=by
 induction a generalizing y with
 |nil=>rfl
 |cons c a i=>exact(congr (Xs HAdd.hAdd<|Nat.mul_assoc k c<|y 0) (i _)).trans (Nat.mul_add ..).symm
def FA (a)(y)(h:RL a b=true):jd a y<=jd b y:=by
 induction a generalizing b y with
 |nil=>exact X4 _
 |cons c a i=>cases b with
  |nil=>have h:=(Xv _ _).mp h;exact add_le_add (a:=c*y 0) (b:=0) (c:=jd a _) (d:=0) (Y3<|(Xs (·*y 0)<|Nat.eq_of_beq_eq_true h.1).trans<|Nat.zero_mul _)<|i (b:=[]) _ h.2
  |cons d b=>have h:=(Xv _ _).mp h;exact add_le_add (Nat.mul_le_mul_right _<|Yb h.1)<|i _ h.2
def Oh (k)(y):jd (vr k) y=y k:=by
 induction k generalizing y with
 |zero=>exact Nat.one_mul _
 |succ k i=>exact(congr (Xs HAdd.hAdd<|Nat.zero_mul<|y 0) (i _)).trans<|Yx _
def EO (x:Nat->Nat)(e:Lx):Prop:=jd e.2.1 (cs 1 x)=e.1 x
def xn {a:Sort u}{p:a->Prop}{b:Bool}{s t:a}(h1:p s)(h:p t):p<|bif b then s else t:=match b with |true=>h1|false=>h
def BY (x:Nat->Nat)(f:Nat)(t:List Nat):EO x<|pE f t:=by
 induction f generalizing t with
 |zero=>exact rfl
 |succ f i=>cases t with
  |nil=>exact rfl
  |cons k t=>exact xn (p:=EO x) (Oh (k+1)<|cs 1 x)<|xn (p:=EO x) ((fk ..).trans<|congr (Xs HAdd.hAdd<|i _) (i _))<|xn (p:=EO x) ((rX ..).trans<|Xs _<|i _)<|xn (p:=EO x) ((rX ..).trans<|(Xs _<|i _).trans<|Nat.mul_comm ..)<|Nat.mul_one _
def F8 (h1:x 0=1)(C):jd (vn [1] C) x=jd C x+1:=(fk ..).trans<|(Zr ..).trans<|Xs _<|(YZ _).trans<|(Nat.one_mul _).trans h1
def Le (a b:Nat)(e:Bool):Prop:=a<=b/\(e=true->a=b)
def Le.n {a b:Nat}(h:a<=b):Le a b false:=⟨h,Bool.noConfusion⟩
def Le.e {a b:Nat}(h:a=b):Le a b true:=⟨Y3 h,λ_=>h⟩
def Le.add {a b c d:Nat}{e f:Bool}(h:Le a b e)(k:Le c d f):Le (a+c) (b+d)<|e&&f:=⟨add_le_add h.1 k.1,λz=>congr (Xs HAdd.hAdd<|h.2 ((Xv _ _).mp z).1) (k.2 ((Xv _ _).mp z).2)⟩
def Le.mul {a b:Nat}{e:Bool}(m:Nat)(h:Le a b e):Le (m*a) (m*b) e:=⟨Nat.mul_le_mul_left _ h.1,λz=>Xs _<|h.2 z⟩
abbrev Op:=(Nat->Nat->Prop)×(List Nat->List Nat->List Nat×List Nat×Bool)×(List Nat->List Nat->Bool->List Nat->List Nat->Bool)
abbrev kL (A B:List Nat)(_:Bool)(L R:List Nat):Bool:=RL (vn A R)<|vn B L
abbrev kS (A B:List Nat)(_:Bool)(L R:List Nat):Bool:=RL (vn (vn [1] A) R)<|vn B L
structure OK(o:Op):Prop where
 h:∀{x:Nat->Nat}{A B:List Nat},x 0=1->o.1 (jd A x) (jd B x)->Le (jd (o.2.1 A B).1 x) (jd (o.2.1 A B).2.1 x) (o.2.1 A B).2.2
 g:∀{x:Nat->Nat}{A B L R:List Nat}{e:Bool},x 0=1->Le (jd L x) (jd R x) e->o.2.2 A B e L R=true->o.1 (jd A x) (jd B x)
def mv {a b l r:Nat}(h:l<=r)(k:a+r<=b+l):a<=b:=Nat.le_of_add_le_add_right<|XJ k<|Zo h b
def Ci {x:Nat->Nat}{A B L R:List Nat}{e:Bool}(_:x 0=1)(h:Le (jd L x) (jd R x) e)(k:kL A B e L R=true):jd A x<=jd B x:=mv h.1<|(fk A R _)▸(fk B L _)▸FA _ _ k
def yT {x:Nat->Nat}{A B L R:List Nat}{e:Bool}(h1:x 0=1)(h:Le (jd L x) (jd R x) e)(k:kS A B e L R=true):jd A x<jd B x:=XJ (Y3 (F8 h1 A).symm)<|Ci h1 h k
def Pn {x:Nat->Nat}{A B L R:List Nat}{e:Bool}(_:x 0=1)(h:Le (jd L x) (jd R x) e)(k:(e&&(kL A B e L R&&RL (vn B L) (vn A R)))=true):jd A x=jd B x:=by have h1:=(Xv _ _).mp k;have a:=(Xv _ _).mp h1.2;refine Zu (Ci ‹_› h a.1)<|Nat.le_of_add_le_add_right (b:=jd L x) ?_;have:=FA _ x a.2;rw[fk,fk,<- h.2 h1.1]at this;exact this
def F0 {x:Nat->Nat}{A B L R:List Nat}{e:Bool}{p:Prop}(h1:x 0=1)(h:Le (jd L x) (jd R x) e)(k:kS [] [] e L R=true):p:=Xw (yT (A:=[]) (B:=[]) h1 h k)<|lt_irrefl _
abbrev W8:Op:=(λa b=>a<=b,λA B=>(A,B,false),kL)
abbrev W1:Op:=(λa b=>a<b,λA B=>(vn [1] A,B,false),kS)
abbrev WZ:Op:=(λa b=>a=b,λA B=>(A,B,true),λA B e L R=>e&&(kL A B e L R&&RL (vn B L) (vn A R)))
abbrev Wg:Op:=(λa b=>¬a<=b,λA B=>(vn [1] B,A,false),λA B=>kS B A)
abbrev WR:Op:=(λa b=>¬a<b,λA B=>(B,A,false),λA B=>kL B A)
abbrev Xm:Op:=(λa b=>a≠b,λ_ _=>([],[],true),kS)
abbrev Xl:Op:=(λa b=>a≠b,λ_ _=>([],[],true),λA B=>kS B A)
abbrev VZ:Op:=(λa b=>a=b,λA B=>(B,A,true),λ_ _=>kS [] [])
abbrev W4:Op:=(λ_ _=>False,λ_ _=>([],[],true),λ_ _=>kS [] [])
def qP {b:Bool}{s t:Op}(h1:OK s)(h:OK t):OK<|bif b then s else t:=match b with |true=>h1|false=>h
def op (k:Nat):Op:=bif Nat.beq k 18 then W8 else bif Nat.beq k 19 then W1 else bif Nat.beq k 20 then WZ else bif Nat.beq k 21 then Wg else bif Nat.beq k 22 then WR else bif Nat.beq k 23 then Xm else bif Nat.beq k 25 then Xl else bif Nat.beq k 28 then VZ else W4
def Lu (k:Nat):OK<|op k:=qP ⟨λ_ h=>.n h,Ci⟩<|qP ⟨λh1 h=>.n<|XJ (Y3<|F8 h1 _) h,yT⟩<|qP ⟨λ_ h=>.e h,Pn⟩<|
 qP ⟨λh1 h=>.n<|XJ (Y3<|F8 h1 _)<|Nat.lt_of_not_le h,λh1 h k=>Nat.not_le_of_gt<|yT h1 h k⟩<|qP ⟨λ_ h=>.n<|Z4 h,λh1 h k=>Nat.not_lt_of_ge<|Ci h1 h k⟩<|
 qP ⟨λ_ _=>.e rfl,λh1 h k=>Yd<|yT h1 h k⟩<|qP ⟨λ_ _=>.e rfl,λh1 h k=>XB<|yT h1 h k⟩<|qP ⟨λ_ h=>.e h.symm,λ{_ A B _ _ _} h1 h k=>F0 (A:=A) (B:=B) h1 h k⟩ ⟨λ_ h=>h.elim,λ{_ A B _ _ _} h1 h k=>F0 (A:=A) (B:=B) h1 h k⟩
noncomputable abbrev cA(a b:LC):LC:=(λx=>a.1 x/\b.1 x,a.2.1&&b.2.1,vn a.2.2.1 b.2.2.1,vn a.2.2.2.1 b.2.2.2.1,b.2.2.2.2)
abbrev cR (o:Op)(m:Nat)(a b:Lx):LC:=(λx=>o.1 (a.1 x)<|b.1 x,(o.2.1 a.2.1 b.2.1).2.2,PX m (o.2.1 a.2.1 b.2.1).1,PX m (o.2.1 a.2.1 b.2.1).2.1,b.2.2)
abbrev Ww (g:Nat)(r:List Nat->LC)(k:Nat)(t:List Nat):LC:=
 bif Nat.beq k 24 then cA (r t) (r (r t).2.2.2.2)else List.rec (λ_=>False,true,[],[],[]) (λm t _=>cR (op k) m (pE g t)<|pE g (pE g t).2.2) t
def pC (g f:Nat):List Nat->LC:=Nat.rec (λ_=>(λ_=>False,true,[],[],[])) (λ_ r t=>List.rec (λ_=>False,true,[],[],[]) (λk t _=>Ww g r k t) t) f
def CO (x:Nat->Nat)(c:LC):Prop:=c.1 x->Le (jd c.2.2.1<|cs 1 x) (jd c.2.2.2.1<|cs 1 x) c.2.1
def RP (c:CO x a)(d:CO x b):CO x<|cA a b:=λh=>by unfold cA;rw[fk,fk];exact(c h.1).add<|d h.2
def P7 {x:Nat->Nat}{k m:Nat}{a b:Lx}(c:EO x a)(d:EO x b):CO x<|cR (op k) m a b:=λh=>by unfold cR;rw[rX,rX];exact((Lu k).h rfl (by rw[c,d];exact h)).mul m
def Qu (x)(g f)(t):CO x<|pC g f t:=by
 induction f generalizing t with
 |zero=>exact False.elim
 |succ f i=>cases t with
  |nil=>exact False.elim
  |cons k t=>exact xn (p:=CO x) (RP (i _)<|i _) (by cases t with |nil=>exact False.elim|cons m t=>exact P7 (BY ..)<|BY ..)
noncomputable abbrev gG(o:Op)(a b:Lx)(e:Bool)(L R:List Nat):((Nat->Nat)->Prop)×Bool:=(λx=>o.1 (a.1 x)<|b.1 x,o.2.2 a.2.1 b.2.1 e L R)
def pA (g f:Nat):List Nat->Bool->List Nat->List Nat->((Nat->Nat)->Prop)×Bool:=
 Nat.rec (λ_ _ _ _=>(λ_=>True,true)) (λ_ r t e L R=>List.rec (λ_=>True,true) (λk t _=>
  bif Nat.beq k 27 then(λx=>(pC g g t).1 x->(r (pC g g t).2.2.2.2 (e&&(pC g g t).2.1) (vn L (pC g g t).2.2.1)<|vn R (pC g g t).2.2.2.1).1 x,(r (pC g g t).2.2.2.2 (e&&(pC g g t).2.1) (vn L (pC g g t).2.2.1)<|vn R (pC g g t).2.2.2.1).2)
  else gG (op k) (pE g t) (pE g (pE g t).2.2) e L R) t) f
def RC {x:Nat->Nat}{k:Nat}{a b:Lx}{e:Bool}{L R:List Nat}(c:EO x a)(d:EO x b)(hL:Le (jd L<|cs 1 x) (jd R<|cs 1 x) e)(h:(gG (op k) a b e L R).2=true):(gG (op k) a b e L R).1 x:=by have:=(Lu k).g rfl hL h;rw[c,d]at this;exact this
def acs (x:Nat->Nat)(g f:Nat)(t:List Nat)(e:Bool)(L R:List Nat)(hL:Le (jd L<|cs 1 x) (jd R<|cs 1 x) e)(h:(pA g f t e L R).2=true):(pA g f t e L R).1 x:=by
 induction f generalizing t e L R with
 |zero=>exact trivial
 |succ f i=>cases t with
  |nil=>exact trivial
  |cons k t=>
   revert h;show(cond (Nat.beq k 27) _ _:((Nat->Nat)->Prop)×Bool).2=true->(cond (Nat.beq k 27) _ _:((Nat->Nat)->Prop)×Bool).1 x;cases Nat.beq k 27 with
   |true=>exactλh a=>i (pC g g t).2.2.2.2 (e&&(pC g g t).2.1) _ _ (by rw[fk,fk];exact hL.add<|Qu x g g t a) h
   |false=>exact RC (BY ..) (BY ..) hL
def lA (n:Nat):((Nat->Nat)->Prop)×Bool:=pA 30 12 (dg 90 n) true [] []
end Mine.Lq
namespace Mine
def Pf (n)(h:(Lq.lA n).2=true)(x):(Lq.lA n).1 x:=Lq.acs x 30 12 _ _ _ _ (.e rfl) h
theorem tq:true=true:=rfl
def bC (n)(h:(Lq.lA n).2=true):(Lq.lA n).1 (λ_=>a):=Pf n h _
def aK (n)(h:(Lq.lA n).2=true):(Lq.lA n).1 (Lq.cs a λ_=>b):=Pf n h _
def ba (n)(h:(Lq.lA n).2=true):(Lq.lA n).1<|Lq.cs a<|Lq.cs b λ_=>c:=Pf n h _
def oN (n)(h:(Lq.lA n).2=true):(Lq.lA n).1<|Lq.cs a<|Lq.cs b<|Lq.cs c λ_=>d:=Pf n h _
def Gz (n)(h:(Lq.lA n).2=true):(Lq.lA n).1<|Lq.cs a<|Lq.cs b<|Lq.cs c<|Lq.cs d λ_=>e:=Pf n h _
def Sx (n)(h:(Lq.lA n).2=true):(Lq.lA n).1<|Lq.cs a<|Lq.cs b<|Lq.cs c<|Lq.cs d<|Lq.cs e λ_=>f:=Pf n h _
def OE{a b}:=@aK a b 0x4120b42c0067b tq
def wD{a b}:=@aK a b 0x641006db tq
def QQ{a b}:=@aK a b 0x200000110819200c350442190061a82200cb1b tq
def JO{a b}:=@aK a b 0x8261321c06067b tq
def La{a}:=@bC a 0x3d09022097d0e0065b tq
def yC{a b c}:=@ba a b c 0x104c410f3620067b tq
def G4{a b c d}:=@oN a b c d 0x2098461a6c620d3620067b tq
def KM{a}:=@bC a 0x3662038009804d0cb1b tq
def kh{a b}:=@aK a b 0x82410065b tq
def HX{a b c}:=@ba a b c 0x1050410f3620069b tq
def K6{a b}:=@aK a b 0x7a1204412fa1c10cb610069b tq
def KF{a b c d}:=@oN a b c d 0x104f84705a3609af13033dfd0e0879b0b44c0065b tq
def Lr{a b c}:=@ba a b c 0xe11c1135e16818c9f08e0b42c135e26067b0b44c0065b tq
def KS{a b c d}:=@oN a b c d 0x1320e0a1af1b40c63262641c1685886bc6c6067b2346c0065b tq
def Lh{a b c}:=@ba a b c 0x1321c064c2c838486bc0c6067b tq
def EF{a b}:=@aK a b 0x10b40c605a160194 tq
def KV{a b}:=@aK a b 0x3d09022090061a82210cb610069b tq
def G9{a}:=@bC a 0x26818468199 tq
def HS{a}:=@bC a 0x36818468199 tq
def uJ{a b c}:=@ba a b c 0x41602610067b tq
def i9{a b}:=@aK a b 0x168581681ac032410065b tq
def aC{a b}:=@aK a b 0x5a1602410065b tq
def vh{a b}:=@aK a b 0x2685a1630121342c0065b tq
def oO{a b}:=@aK a b 0x1e685a163012f342c0065b tq
def B7{a b}:=@aK a b 0x41209da06065b tq
def Bp{a}:=@bC a 0x26818368199 tq
def H7{a}:=@bC a 0x46818368197 tq
def qx{a b}:=@aK a b 0x7a1204412de9c10cf610065b tq
def GG{a}:=@bC a 0x384705a16818c9ef4e0067b tq
def zT{a b}:=@aK a b 0x1c23813e11c1685806067b tq
def z0{a b}:=@aK a b 0x413085a06067b tq
def Gy{a b c}:=@ba a b c 0x708e08193e11c1685826067b0b44c0065b tq
def vM{a}:=@bC a 0x36818268197 tq
def vN{a}:=@bC a 0x46818268197 tq
def AZ{a b}:=@aK a b 0x226819709da06065b tq
def tV{a b c}:=@ba a b c 0x83203b44c0cb620867b tq
def tU{a b}:=@aK a b 0x7a1204412e11c10cb610065b tq
def sz{a b}:=@aK a b 0x1685806042d03194 tq
def vH{a}:=@bC a 0x3400067b tq
def ww{a b c}:=@ba a b c 0x708e04f7070833d88206065b tq
def wH{a b c}:=@ba a b c 0x2d130216818c908206065b tq
def GD{a b c d e}:=@Gz a b c d e 0xe11c10327b838836067b20434d8c406065b tq
def GT{a b}:=@aK a b 0x10d0b0036bd0d6492d0b0036bd2d6065b tq
def H9{a b c}:=@ba a b c 0x6d905a06086d7846d7c1ac6065b tq
def m6{a b c}:=@ba a b c 0x41602410065b tq
def zn{a}:=@bC a 0x5a0601a00b58c03594 tq
def AY{a b c}:=@ba a b c 0x104c21689806065b tq
def A0{a b c}:=@ba a b c 0x416858c04c2d1302c0067b tq
def GZ{a b}:=@aK a b 0xb42d0b181681920b42c0065b tq
def wQ{a b}:=@aK a b 0x1c23812e11c10cb610065b tq
def Gb{a b}:=@aK a b 0x7a1204412101c10cf610069b tq
def wo{a b}:=@aK a b 0xd98401e6c226865b tq
def zt{a b}:=@aK a b 0x4d90401e6c226865b tq
def A6{a b}:=@aK a b 0x203813101c10cf610069b tq
def zj{a}:=@bC a 0x3d0902209080e0067b tq
def m5{a}:=@bC a 0x3d0902209708e0065b tq
def qa{a}:=@bC a 0x640e0b40c9640e0067b tq
def Gr{a b}:=@aK a b 0x1f43812c81c10cf610065b tq
def zZ{a b}:=@aK a b 0x2368197095a06065b tq
def qj{a b}:=@aK a b 0x7a1204412c81c10cf610065b tq
def zf{a b}:=@aK a b 0x412095a06067b tq
def nH{a b}:=@aK a b 0x1903813c81c1685806065b tq
def Er{a b}:=@aK a b 0x3d09022090061a82210cb610065b tq
def wM{a b c}:=@ba a b c 0x410b40c64841685806065b tq
def zQ{a b c}:=@ba a b c 0x104c220d3620067b tq
def zm{a b}:=@aK a b 0x16859e6bc120f9af0065b tq
def AQ{a}:=@bC a 0x384705a064b8470012def4e0067b tq
def Ac{a b c}:=@ba a b c 0x1048220cb620065b tq
def IC{a b}:=@aK a b 0x6a4e08193d49c2685806067b tq
def Gj{a}:=@bC a 0x3d0902209320e0065b tq
def Fa{a b}:=@aK a b 0xcd034016b1806b24268452d85a1135ec0065b tq
def vT{a b c d}:=@oN a b c d 0x2098c41a6c610f3620067b tq
def ER{a}:=@bC a 0x3d090220907ee0065b tq
def GF{a b}:=@aK a b 0x7a12044120fdc10cb610067b tq
def tm {P:Prop}{a:Prop}{b:Prop}{c:Prop}{Z:Prop}(h:P/\a/\b/\c)(k:P->a->b->c->Z):Z:=by obtain⟨h1,d,e,f⟩:=h;exact k h1 d e f
def ag {a:Type}{P:a->Prop}{b:a->Prop}{Z:Prop}(h:∃x,P x/\b x)(k:∀x,P x->b x->Z):Z:=by obtain⟨x,h1,c⟩:=h;exact k x h1 c
def mY {a:Type}{P:Prop}{b:a->Prop}{c:a->Prop}{d:a->Prop}{Z:Prop}(h:P/\∃x,b x/\c x/\d x)(k:P->∀x,b x->c x->d x->Z):Z:=by obtain⟨h1,x,e,f,g⟩:=h;exact k h1 x e f g
def am {b c:Type}{P:b->c->Prop}{d:b->c->Prop}{e:b->c->Prop}{Z:Prop}(h:∃x,∃a,P x a/\d x a/\e x a)(k:∀x,∀a,P x a->d x a->e x a->Z):Z:=by obtain⟨x,a,h1,f,g⟩:=h;exact k x a h1 f g
def dJ {b c:Type}{P:b->c->Prop}{d:b->c->Prop}{Z:Prop}(h:∃x,∃a,P x a/\d x a)(k:∀x,∀a,P x a->d x a->Z):Z:=by obtain⟨x,a,h1,e⟩:=h;exact k x a h1 e
def ib {a:Type}{P:Prop}{b:a->Prop}{c:a->Prop}{Z:Prop}(h:P/\∃x,b x/\c x)(k:P->∀x,b x->c x->Z):Z:=by obtain⟨h1,x,d,e⟩:=h;exact k h1 x d e
def bP {b c:Type}{P:Prop}{d:b->c->Prop}{e:b->c->Prop}{Z:Prop}(h:P/\∃x,∃a,d x a/\e x a)(k:P->∀x,∀a,d x a->e x a->Z):Z:=by obtain⟨h1,x,a,f,g⟩:=h;exact k h1 x a f g
def aj {a:Type}{P:a->Prop}{b:a->Prop}{c:a->Prop}{Z:Prop}(h:∃x,P x/\b x/\c x)(k:∀x,P x->b x->c x->Z):Z:=by obtain⟨x,h1,d,e⟩:=h;exact k x h1 d e
def cT {b c:Type}{P:b->c->Prop}{Z:Prop}(h:∃x,∃a,P x a)(k:∀x,∀a,P x a->Z):Z:=by obtain⟨x,a,h1⟩:=h;exact k x a h1
def cD {c d e:Type}{P:c->d->e->Prop}{f:c->d->e->Prop}{g:c->d->e->Prop}{i:c->d->e->Prop}{Z:Prop}(h:∃x,∃a,∃b,P x a b/\f x a b/\g x a b/\i x a b)(k:∀x,∀a,∀b,P x a b->f x a b->g x a b->i x a b->Z):Z:=by obtain⟨x,a,b,h1,j,l,m⟩:=h;exact k x a b h1 j l m
def iv {b c:Type}{P:b->c->Prop}{d:b->c->Prop}{e:b->c->Prop}{f:b->c->Prop}{Z:Prop}(h:∃x,∃a,P x a/\d x a/\e x a/\f x a)(k:∀x,∀a,P x a->d x a->e x a->f x a->Z):Z:=by obtain⟨x,a,h1,g,i,j⟩:=h;exact k x a h1 g i j
def nJ {c d e:Type}{P:c->d->e->Prop}{f:c->d->e->Prop}{Z:Prop}(h:∃x,∃a,∃b,P x a b/\f x a b)(k:∀x,∀a,∀b,P x a b->f x a b->Z):Z:=by obtain⟨x,a,b,h1,g⟩:=h;exact k x a b h1 g
def bU {P:Prop}{a:Prop}{b:Prop}{Z:Prop}(h:P/\a/\b)(k:P->a->b->Z):Z:=by obtain⟨h1,c,d⟩:=h;exact k h1 c d
def bW {P:Prop}{a:Prop}{b:Prop}{c:Prop}{d:Prop}{Z:Prop}(h:P/\a/\b/\c/\d)(k:P->a->b->c->d->Z):Z:=by obtain⟨h1,e,f,g,i⟩:=h;exact k h1 e f g i
def yL {b c:Type}{P:b->c->Prop}{d:b->c->Prop}{e:b->c->Prop}{f:b->c->Prop}{g:b->c->Prop}{Z:Prop}(h:∃x,∃a,P x a/\d x a/\e x a/\f x a/\g x a)(k:∀x,∀a,P x a->d x a->e x a->f x a->g x a->Z):Z:=by obtain⟨x,a,h1,i,j,l,m⟩:=h;exact k x a h1 i j l m
def En {a:Type}{P:a->Prop}{b:a->Prop}{c:a->Prop}{d:a->Prop}{Z:Prop}(h:∃x,P x/\b x/\c x/\d x)(k:∀x,P x->b x->c x->d x->Z):Z:=by obtain⟨x,h1,e,f,g⟩:=h;exact k x h1 e f g
def iu {b c:Type}{P:Prop}{d:b->c->Prop}{e:b->c->Prop}{f:b->c->Prop}{Z:Prop}(h:P/\∃x,∃a,d x a/\e x a/\f x a)(k:P->∀x,∀a,d x a->e x a->f x a->Z):Z:=by obtain⟨h1,x,a,g,i,j⟩:=h;exact k h1 x a g i j
def rx {P:Prop}{a:Prop}{b:Prop}{c:Prop}{d:Prop}{e:Prop}{Z:Prop}(h:P/\a/\b/\c/\d/\e)(k:P->a->b->c->d->e->Z):Z:=by obtain⟨h1,f,g,i,j,l⟩:=h;exact k h1 f g i j l
def mh {c d e:Type}{P:c->d->Prop}{f:c->d->e->Prop}{g:c->d->e->Prop}{Z:Prop}(h:∃x,∃a,P x a/\∃b,f x a b/\g x a b)(k:∀x,∀a,P x a->∀b,f x a b->g x a b->Z):Z:=by obtain⟨x,a,h1,b,i,j⟩:=h;exact k x a h1 b i j
def Dh {b c:Type}{P:b->c->Prop}{d:b->c->Prop}{e:b->c->Prop}{f:b->c->Prop}{g:b->c->Prop}{i:b->c->Prop}{Z:Prop}(h:∃x,∃a,P x a/\d x a/\e x a/\f x a/\g x a/\i x a)(k:∀x,∀a,P x a->d x a->e x a->f x a->g x a->i x a->Z):Z:=by obtain⟨x,a,h1,j,l,m,n,o⟩:=h;exact k x a h1 j l m n o
def qm {c d e i j:Type}{P:c->d->e->Prop}{l:c->d->e->Prop}{m:c->d->e->i->j->Prop}{Z:Prop}(h:∃x,∃a,∃b,P x a b/\l x a b/\∃f,∃g,m x a b f g)(k:∀x,∀a,∀b,P x a b->l x a b->∀f,∀g,m x a b f g->Z):Z:=by obtain⟨x,a,b,h1,n,f,g,o⟩:=h;exact k x a b h1 n f g o
def BQ {a:Type}{P:Prop}{b:a->Prop}{c:a->Prop}{d:a->Prop}{e:a->Prop}{Z:Prop}(h:P/\∃x,b x/\c x/\d x/\e x)(k:P->∀x,b x->c x->d x->e x->Z):Z:=by obtain⟨h1,x,f,g,i,j⟩:=h;exact k h1 x f g i j
def xL {c d e:Type}{P:c->d->Prop}{f:c->d->e->Prop}{g:c->d->e->Prop}{i:c->d->e->Prop}{Z:Prop}(h:∃x,∃a,P x a/\∃b,f x a b/\g x a b/\i x a b)(k:∀x,∀a,P x a->∀b,f x a b->g x a b->i x a b->Z):Z:=by obtain⟨x,a,h1,b,j,l,m⟩:=h;exact k x a h1 b j l m
def Bq {b c e:Type}{P:b->c->Prop}{f:b->c->Prop}{g:b->c->e->Prop}{Z:Prop}(h:∃x,∃a,P x a/\f x a/\∃d,g x a d)(k:∀x,∀a,P x a->f x a->∀d,g x a d->Z):Z:=by obtain⟨x,a,h1,i,d,j⟩:=h;exact k x a h1 i d j
def Bz {c d e:Type}{P:c->d->e->Prop}{f:c->d->e->Prop}{g:c->d->e->Prop}{Z:Prop}(h:∃x,∃a,∃b,P x a b/\f x a b/\g x a b)(k:∀x,∀a,∀b,P x a b->f x a b->g x a b->Z):Z:=by obtain⟨x,a,b,h1,i,j⟩:=h;exact k x a b h1 i j
def KG {g i j l m n o:Type}{P:g->i->j->l->m->n->o->Prop}{p:g->i->j->l->m->n->o->Prop}{q:g->i->j->l->m->n->o->Prop}{Z:Prop}(h:∃x,∃a,∃b,∃c,∃d,∃e,∃f,P x a b c d e f/\p x a b c d e f/\q x a b c d e f)(k:∀x,∀a,∀b,∀c,∀d,∀e,∀f,P x a b c d e f->p x a b c d e f->q x a b c d e f->Z):Z:=by obtain⟨x,a,b,c,d,e,f,h1,r,s⟩:=h;exact k x a b c d e f h1 r s
def wA {g i j l m n o:Type}{P:g->i->j->l->m->n->o->Prop}{p:g->i->j->l->m->n->o->Prop}{q:g->i->j->l->m->n->o->Prop}{r:g->i->j->l->m->n->o->Prop}{Z:Prop}(h:∃x,∃a,∃b,∃c,∃d,∃e,∃f,P x a b c d e f/\p x a b c d e f/\q x a b c d e f/\r x a b c d e f)(k:∀x,∀a,∀b,∀c,∀d,∀e,∀f,P x a b c d e f->p x a b c d e f->q x a b c d e f->r x a b c d e f->Z):Z:=by obtain⟨x,a,b,c,d,e,f,h1,s,t,u⟩:=h;exact k x a b c d e f h1 s t u
def nY {c d e:Type}{P:c->d->e->Prop}{f:c->d->e->Prop}{g:c->d->e->Prop}{i:c->d->e->Prop}{j:c->d->e->Prop}{l:c->d->e->Prop}{m:c->d->e->Prop}{n:c->d->e->Prop}{Z:Prop}(h:∃x,∃a,∃b,P x a b/\f x a b/\g x a b/\i x a b/\j x a b/\l x a b/\m x a b/\n x a b)(k:∀x,∀a,∀b,P x a b->f x a b->g x a b->i x a b->j x a b->l x a b->m x a b->n x a b->Z):Z:=by obtain⟨x,a,b,h1,o,p,q,r,s,t,u⟩:=h;exact k x a b h1 o p q r s t u
def UI (h:a<2):a=0\/a=1:=by revert a;decide
def U5 (h:a<4):a=0\/a=1\/a=2\/a=3:=by revert a;decide
theorem nt:false=false:=rfl
def SK {c:Type}(f:c->Nat){a b:c}{P:Prop}(h:a=b)(e:Nat.beq (f a) (f b)=false):P:=Xw (Xs f h)<|Nat.ne_of_beq_eq_false e
def cE {c:Type}{a b:Option c}{P:Prop}(h:a=b)(e:Nat.beq a.ctorIdx b.ctorIdx=false):P:=SK _ h e
def UC {c:Type}{a b:List c}{P:Prop}(h:a=b)(e:Nat.beq a.ctorIdx b.ctorIdx=false):P:=SK _ h e
def eI {a b:Bool}{P:Prop}(h:a=b)(e:Nat.beq a.ctorIdx b.ctorIdx=false):P:=SK _ h e
@[elab_as_elim]def aa {c:Type u}{a b:c}{motive:c->Prop}(h:a=b)(k:motive b):motive a:=h▸k
@[elab_as_elim]def dG {c:Type u}{a b:c}{motive:c->Prop}(h:a=b)(k:motive a):motive b:=h▸k
@[elab_as_elim]def UE {a:Type}{p:a->Prop}(e:a)(h:∀x,p x):p e:=h e
@[elab_as_elim]def Uu {a:Type}{p:a->Prop}(e:a)(h:∀x,e=x->p x):p e:=h e rfl
def WD {a:Int}(h:0<=a):a-0-1+1=↑a.toNat:=by rw[Int.sub_zero,Int.sub_add_cancel];exact(ZO h).symm
def VP {a:Int}(h:¬0<a):(0:Int)=↑a.toNat:=(Xs Int.ofNat<|Int.toNat_of_nonpos<|YI.mp h).symm
def Vf:a- -1-1+1=a+1:=by rw[Int.sub_add_cancel];rfl
def WM {a:Int}(h:-1<=a):a- -1-1+1=↑(a+1).toNat:=Vf.trans (ZO<|aab h 1).symm
def W7 (h:¬-1<a):(0:Int)=↑(a+1).toNat:=(Xs Int.ofNat<|Int.toNat_of_nonpos<|aab (YI.mp h) 1).symm
def Vy (h:i<n):n-1-i<n:=Yc (sub_le _ _)<|sub_lt (Yc (X4 i) h)<|Nat.succ_pos 0
def WF (a:-K<=-1)(b:-1<K)(h:-1<=n)(h1:n+1<K):((((-K<=n/\n<K)/\-K<=-1/\-1<K)/\-K<=-1/\-1<K)/\-K<=n- -1-1+1/\n- -1-1+1<K)/\(n- -1-1+1=0\/-K<=-1+(-1+1)/\-1+(-1+1)<K):=by rw[Vf];have e:n<=n+1:=YK<|Int.lt_succ n;exact⟨⟨⟨⟨⟨Yg a h,aav e h1⟩,a,b⟩,a,b⟩,Yg a<|Yg h e,h1⟩,.inr ⟨a,b⟩⟩
def Wx (a:-K<=-1)(b:-1<K)(c:0<K)(h:-1<=n)(h1:n+1<K):((((-K<=n/\n<K)/\-K<=-1/\-1<K)/\-K<=-1/\-1<K)/\-K<=0/\0<K)/\((0:Int)=0\/-K<=-1+(-1+1)/\-1+(-1+1)<K):=
 ⟨⟨⟨⟨⟨Yg a h,aav (YK<|Int.lt_succ n) h1⟩,a,b⟩,a,b⟩,Yg a<|by decide,c⟩,.inl rfl⟩
def ew {p C:Prop}[Decidable p]{f:p->Bool}(h:dite p f (λ_=>false)=true)(k:p->C):C:=(Decidable.em p).elim k λx=>(Yw<|(dif_neg x).symm.trans h).elim
def nl (e:Nat.ble a b=true):a<=b:=Yb e
def dn (h:a<=d+1)(e:Nat.ble (b+1) a=true):b<=d:=Nat.le_of_succ_le_succ<|XJ (nl e) h
def LZ (h:a<=d)(e:Nat.ble b a=true):b<=d:=XJ (nl e) h
def pr (h:a<=d)(e:Nat.ble 1 a=true):d=d-1+1:=(Ym<|LZ h e).symm
def SR (k)(h:a<=d)(e:Nat.ble k a=true):d=d-k+k:=(Ym<|LZ h e).symm
def SV (k)(h:a+b<=d)(e:Nat.ble k a=true):d=d-k+k:=(Ym<|XJ (nl e)<|XJ (Xz a b) h).symm
def up (h:a<b)(e:Nat.ble (b+k) c=true):a+k<c:=XO (Nat.add_lt_add_right h k)<|nl e
def yw (h:a<b)(e:Nat.ble b c=true):a<c:=XO h<|nl e
@[elab_as_elim]def lV {P:Nat->Prop}{K d:Nat}(k:Nat)(h:K<=d)(e:Nat.ble k K=true)(f:∀d,K<=d+k->P (d+k)):P d:=by rw[(SR k h e)];exact f _ (by rw[<-(SR k h e)];exact h)
@[elab_as_elim]def K7 {P:Nat->Prop}{a b d:Nat}(k:Nat)(h:a+b<=d)(e:Nat.ble k a=true)(f:∀d,a+b<=d+k->P (d+k)):P d:=by rw[(SV k h e)];exact f _ (by rw[<-(SV k h e)];exact h)
set_option genCtorIdx false
inductive V where
 |n
 |b (b:Bool)
 |i (i:Int)
 |s (s:List Nat)
 |t (l:List V)
 |r (a:Nat)
set_option genCtorIdx true in
set_option genInjectivity false in
inductive AO where
 |l (l:List V)
 |dS (l:List<|List Nat×V)
 |dI (l:List<|Int×V)
 |i (c:Nat) (fs:List<|Nat×V)
 |ro (ns:List Int)
abbrev Hp:=List AO
abbrev Lo:=List<|Option V
set_option genInjectivity false in
inductive Op where|a|s|mul|m|fdiv (u:Unit)
set_option genInjectivity false in
inductive Cp where|e|n|l|le|g|ge|i|Zg (u:Unit)
set_option genInjectivity false in
inductive ME where
 |i (i:Int)
 |s (s:List Nat)
 |b (b:Bool)
 |v (i:Nat)
 |f (e:ME) (f:Nat)
 |c (k:Nat) (as:List ME)
 |w (c:Nat) (as:List ME)
 |m (k:Nat) (o:ME) (as:List ME)
 |o (op:Op) (a b:ME)
 |N (a:ME)
 |a (as:List ME)
 |or (as:List ME)
 |q (op:Cp) (a b:ME)
 |e (c a b:ME)
 |t (a i:ME)
 |S (a lo hi:ME)
 |Y (a hi:ME)
 |X (a lo:ME)
 |l (es:List ME)
 |p (es:List ME)
 |dS (ks:List<|List Nat) (es:List ME)
 |dI
 |n (a:ME)
 |ord (a:ME)
 |x (a b:ME)
 |u (a:ME)
 |k (a:ME)
 |pop (a:ME)
 |j (a:ME)
 |C (elt src:ME) (caps:List Nat)
 |E (elt src cond:ME) (caps:List Nat)
 |D (elt n:ME) (caps:List Nat)
 |F (elt n cond:ME) (caps:List Nat)
set_option genInjectivity false in
inductive MS where
 |x (e:ME)
 |s (i:Nat) (e:ME)
 |f (o:ME) (f:Nat) (e:ME)
 |t (o i e:ME)
 |unp (is:List Nat) (e:ME)
 |v (i:Nat) (op:Op) (e:ME)
 |u (o i:ME) (op:Op) (e:ME)
 |a (o e:ME)
 |rvs (o:ME)
 |c (o:ME)
 |i (c:ME) (t f:List MS)
 |w (c:ME) (b:List MS)
 |g (i:Nat) (src:ME) (b:List MS)
 |ZE (i j:Nat) (src:ME) (b:List MS)
 |h (i:Nat) (n:ME) (b:List MS)
 |Zv (i:Nat) (x:ME) (b:List MS)
 |aao (i:Nat) (src:ME) (b:List MS)
 |r (e:ME)
 |aaw
 |e (a b:ME)
 |told (k:Nat) (as:List ME)
 |k
set_option genCtorIdx true in
inductive Fl where
 |n (l:Lo)
 |r (v:V)
 |e (a b:V)
set_option genCtorIdx true in
inductive Rs where
 |v (v:V)
 |e (a b:V)
abbrev Zx:=(Lo×Hp->Option ((Lo×Hp)⊕(Fl×Hp)))->Lo×Hp->Option (Fl×Hp)
abbrev Cl:=Nat->List V->Hp->Option (Rs×Hp)
section
variable{α β:Type}
noncomputable def bV(r:Option<|α×Hp)(f:α->Hp->Option β):Option β:=match r with |some p=>f p.1 p.2|none=>none
noncomputable def oB(r:Option α)(f:α->Option β):Option β:=match r with |some a=>f a|none=>none
noncomputable def gd(b:Bool)(x:Option β):Option β:=match b with |true=>x|false=>none
noncomputable def nV(v:V)(f:Nat->Option β):Option β:=match v with | .r a=>f a|_=>none
noncomputable def eP(v:V)(f:Int->Option β):Option β:=match v with | .i a=>f a|_=>none
noncomputable def Dr(v:V)(f:List Nat->Option β):Option β:=match v with | .s a=>f a|_=>none
noncomputable def Ed(v:V)(f:List V->Option β):Option β:=match v with | .t a=>f a|_=>none
noncomputable def rU(v:V)(f:Bool->Option β):Option β:=match v with | .b a=>f a|_=>none
noncomputable def Ta(v:V)(x:Option β):Option β:=match v with | .n=>x|_=>none
noncomputable def hL(o:Option AO)(f:List V->Option β):Option β:=match o with |some x=>(match x with | .l k=>f k|_=>none)|none=>none
noncomputable def hI(o:Option AO)(f:Nat->List (Nat×V)->Option β):Option β:=match o with |some x=>(match x with | .i c k=>f c k|_=>none)|none=>none
noncomputable def hO(o:Option AO)(f:List Int->Option β):Option β:=match o with |some x=>(match x with | .ro k=>f k|_=>none)|none=>none
noncomputable def hS(o:Option AO)(f:List (List Nat×V)->Option β):Option β:=match o with |some x=>(match x with | .dS k=>f k|_=>none)|none=>none
noncomputable def hD(o:Option AO)(f:List (Int×V)->Option β):Option β:=match o with |some x=>(match x with | .dI k=>f k|_=>none)|none=>none
variable{C:Prop}
def cO (h:(none:Option β)=some y):C:=by cases h
def aF (h:bV r f=some y)(k:∀a H,r=some (a,H)->f a H=some y->C):C:=by cases r with |none=>exact cO h|some p=>exact k p.1 p.2 rfl h
def iC (h:oB r f=some y)(k:∀a,r=some a->f a=some y->C):C:=by cases r with |none=>exact cO h|some a=>exact k a rfl h
def uu (h:gd b x=some y)(k:b=true->x=some y->C):C:=by cases b with |false=>exact cO h|true=>exact k rfl h
def cx [Decidable c](h:(if c then x else none)=some y)(k:c->x=some y->C):C:=by
 by_cases q:c
 ·rw[Xr q]at h;exact k q h
 ·rw[Xu q]at h;cases h
def fP {v:V}{f:Nat->Option β}(h:nV v f=some y)(k:∀a,v=.r a->f a=some y->C):C:=by cases v with |r a=>exact k a rfl h|_=>exact cO h
def bH {v:V}{f:Int->Option β}(h:eP v f=some y)(k:∀a,v=.i a->f a=some y->C):C:=by cases v with |i a=>exact k a rfl h|_=>exact cO h
def n7 {v:V}{f:List Nat->Option β}(h:Dr v f=some y)(k:∀a,v=.s a->f a=some y->C):C:=by cases v with |s a=>exact k a rfl h|_=>exact cO h
def xD {v:V}{f:List V->Option β}(h:Ed v f=some y)(k:∀a,v=.t a->f a=some y->C):C:=by cases v with |t a=>exact k a rfl h|_=>exact cO h
def qW {v:V}{f:Bool->Option β}(h:rU v f=some y)(k:∀a,v=.b a->f a=some y->C):C:=by cases v with |b a=>exact k a rfl h|_=>exact cO h
def Qm {v:V}{x:Option β}(h:Ta v x=some y)(k:v=.n->x=some y->C):C:=by cases v with |n=>exact k rfl h|_=>exact cO h
def tT {o:Option AO}{f:List V->Option β}(h:hL o f=some y)(k:∀a,o=some (.l a)->f a=some y->C):C:=by cases o with |none=>exact cO h|some o=>cases o with |l a=>exact k a rfl h|_=>exact cO h
def P6 (h:hI o f=some y)(k:∀c a,o=some (.i c a)->f c a=some y->C):C:=by cases o with |none=>exact cO h|some o=>cases o with |i c a=>exact k c a rfl h|_=>exact cO h
def Uy {o:Option AO}{f:List Int->Option β}(h:hO o f=some y)(k:∀a,o=some (.ro a)->f a=some y->C):C:=by cases o with |none=>exact cO h|some o=>cases o with |ro a=>exact k a rfl h|_=>exact cO h
def RX (h:hS o f=some y)(k:∀a,o=some (.dS a)->f a=some y->C):C:=by cases o with |none=>exact cO h|some o=>cases o with |dS a=>exact k a rfl h|_=>exact cO h
def PY (h:hD o f=some y)(k:∀a,o=some (.dI a)->f a=some y->C):C:=by cases o with |none=>exact cO h|some o=>cases o with |dI a=>exact k a rfl h|_=>exact cO h
def aA (h:some x=some z):x=z:=Zd h
def aR (h:some (x,a)=some (z,b))(k:x=z->a=b->C):C:=k (Xs (·.1)<|Zd h)<|Xs (·.2)<|Zd h
def cps {P:Prop}(h:∀C:Prop,(P->C)->C):P:=h P id
end
mutual
def Vs:V->V->Option Bool
 | .i i,w=>(match w with | .i j=>some (decide (i=j))| .s _=>some false|_=>none)
 | .s s,w=>(match w with | .s t=>some (decide (s=t))| .i _=>some false|_=>none)
 | .t l,w=>Ed w λk=>aac l k
 |_,_=>none
def aac:List V->List V->Option Bool
 | [],w=>(match w with | []=>some true|_::_=>some false)
 |a::l,w=>(match w with | []=>some false|b::k=>oB (Vs a b) λx=>oB (aac l k) λy=>some<|x&&y)
end
def a0 {C:Prop}(h:false=true):C:=(Yw h).elim
def QE (x:a=true)(y:b=true):(a&&b)=true:=(Xv a b).mpr ⟨x,y⟩
mutual
noncomputable def TG:V->V->Bool
 | .n,w=>(match w with | .n=>true|_=>false)
 | .b a,w=>(match w with | .b b=>a==b|_=>false)
 | .i i,w=>(match w with | .i j=>decide (i=j)|_=>false)
 | .s s,w=>(match w with | .s t=>decide (s=t)|_=>false)
 | .t l,w=>(match w with | .t k=>abn l k|_=>false)
 | .r a,w=>(match w with | .r b=>a==b|_=>false)
noncomputable def abn:List V->List V->Bool
 | [],w=>(match w with | []=>true|_::_=>false)
 |a::l,w=>(match w with | []=>false|b::k=>TG a b&&abn l k)
end
mutual
theorem HH:∀v,TG v v=true
 | .n=>rfl
 | .b a=>ZP a
 | .i i=>Yy rfl
 | .s s=>Yy rfl
 | .t l=>ZF l
 | .r a=>ZP a
theorem ZF:∀l,abn l l=true
 | []=>rfl
 |v::l=>QE (HH v)<|ZF l
end
mutual
theorem M2:∀{v u},TG v u=true->v=u
 | .n,u,h=>by cases u with |n=>rfl|_=>exact a0 h
 | .b a,u,h=>by cases u with |b b=>exact Xs V.b (eq_of_beq h)|_=>exact a0 h
 | .i i,u,h=>by cases u with |i b=>exact Xs V.i (YY h)|_=>exact a0 h
 | .s s,u,h=>by cases u with |s b=>exact Xs V.s (YY h)|_=>exact a0 h
 | .t l,u,h=>by cases u with |t b=>exact Xs V.t (aap h)|_=>exact a0 h
 | .r a,u,h=>by cases u with |r b=>exact Xs V.r (eq_of_beq h)|_=>exact a0 h
theorem aap:∀{v u},abn v u=true->v=u
 | [],u,h=>by cases u with |nil=>rfl|_=>exact a0 h
 |a::l,u,h=>by cases u with
  |nil=>exact a0 h
  |cons b k=>have h:=(Xv _ _).mp h;exact aa (M2 h.1)<|aa (aap h.2) rfl
end
noncomputable def qI(k:List Nat):List (List Nat×V)->Option V
 | []=>none
 |(a,v)::r=>if a=k then some v else qI k r
theorem we{k}:qI k []=none:=rfl
theorem rq{k a v r}:qI k ((a,v)::r)=if a=k then some v else qI k r:=rfl
noncomputable def v8(k:List Nat)(v:V):List (List Nat×V)->List (List Nat×V)
 | []=>[(k,v)]
 |(a,u)::r=>if a=k then(a,v)::r else(a,u)::v8 k v r
theorem Sk{k v}:v8 k v []=[(k,v)]:=rfl
theorem BV{k v a z r}:v8 k v ((a,z)::r)=if a=k then(a,v)::r else(a,z)::v8 k v r:=rfl
noncomputable def eH(k:Int):List (Int×V)->Option V
 | []=>none
 |(a,v)::r=>if a=k then some v else eH k r
theorem ia{k}:eH k []=none:=rfl
theorem h9{k a v r}:eH k ((a,v)::r)=if a=k then some v else eH k r:=rfl
noncomputable def kX(k:Int)(v:V):List (Int×V)->List (Int×V)
 | []=>[(k,v)]
 |(a,u)::r=>if a=k then(a,v)::r else(a,u)::kX k v r
theorem j2{k v}:kX k v []=[(k,v)]:=rfl
theorem ig{k v a z r}:kX k v ((a,z)::r)=if a=k then(a,v)::r else(a,z)::kX k v r:=rfl
noncomputable def t6(k:Nat):List (Nat×V)->Option V
 | []=>none
 |(a,v)::r=>if a=k then some v else t6 k r
theorem jO{k}:t6 k []=none:=rfl
theorem ir{k a v r}:t6 k ((a,v)::r)=if a=k then some v else t6 k r:=rfl
noncomputable def oY(k:Nat)(v:V):List (Nat×V)->List (Nat×V)
 | []=>[(k,v)]
 |(a,u)::r=>if a=k then(a,v)::r else(a,u)::oY k v r
theorem xc{k v}:oY k v []=[(k,v)]:=rfl
theorem rJ{k v a z r}:oY k v ((a,z)::r)=if a=k then(a,v)::r else(a,z)::oY k v r:=rfl
noncomputable def DD:Nat->Nat->Bool
 |0,f=>f<=2
 |1,f=>2<=f&&f<=4
 |2,f=>5<=f&&f<=11
 |_,_=>false
noncomputable def sm(i:Int):Bool:=Nat.ble i.natAbs 4611686018427387903
noncomputable def sh(s:List Nat):Bool:=Nat.ble s.length 100000
noncomputable def O7(n:Int):Bool:=decide (0<=n)&&Nat.ble n.toNat 1000000
noncomputable def Sl(n:Int):Bool:=decide (-1<=n)&&Nat.ble n.toNat 1000000
def WG:Nat.ble i.natAbs K=true↔-((K+1:Nat):Int)<i/\i<((K+1:Nat):Int):=by
 cases i with
 |ofNat n=>exact⟨λh=>⟨ZS (Int.negSucc_lt_zero K)<|YD n,Yi.mpr<|aak<|Yb h⟩,λh=>aau<|Y2<|Yi.mp h.2⟩
 |negSucc n=>exact⟨λh=>⟨Int.neg_lt_neg<|Yi.mpr<|aak<|Yb h,Int.lt_trans (Int.negSucc_lt_zero n)<|Z2.mpr<|Nat.succ_pos K⟩,λh=>aau<|Y2<|Yi.mp<|Int.lt_of_neg_lt_neg h.1⟩
def gJ:sm i=true↔-4611686018427387904<i/\i<4611686018427387904:=WG (K:=4611686018427387903)
def Bm (h:-4611686018427387904<i)(h1:i<4611686018427387904):sm i=true:=gJ.mpr ⟨h,h1⟩
def e6:sh s=true↔s.length<=100000:=by rw[sh,Nat.ble_eq]
def KE {n:Int}:Nat.ble n.toNat 1000000=true↔n<=1000000:=by refine aa Nat.ble_eq ?_;exact Int.toNat_le
def lU:O7 n=true↔0<=n/\n<=1000000:=by rw[O7,Xv,decide_eq_true_iff,KE]
def B5:Sl n=true↔-1<=n/\n<=1000000:=by rw[Sl,Xv,decide_eq_true_iff,KE]
def fQ (op:Op)(x y:V):Option V:=match op with
 | .a=>(match x with
  | .i a=>eP y λb=>some<|.i<|a+b
  | .s a=>Dr y λb=>if sh a&&sh b then some (.s<|a++b)else none
  | .t a=>Ed y λb=>if a.length+b.length<=1000 then some (.t<|a++b)else none
  |_=>none)
 | .s=>eP x λa=>eP y λb=>some<|.i<|a-b
 | .mul=>eP x λa=>eP y λb=>if sm a&&sm b then some (.i<|a*b)else none
 | .m=>eP x λa=>eP y λb=>if 0<b&&sm b then some (.i<|a % b)else none
 | .fdiv _=>eP x λa=>eP y λb=>if 0<b&&sm b then some (.i<|a/b)else none
def d6 (op:Op)(x y:V):Option V:=match op with
 | .a=>(match x with
  | .i a=>eP y λb=>some<|.i<|a+b
  | .s a=>Dr y λb=>if sh a&&sh b then some (.s<|a++b)else none
  |_=>none)
 | .s=>eP x λa=>eP y λb=>some<|.i<|a-b
 |_=>none
def nW (n:Nat)(i:Int):Option Nat:=
 if sm i then(if 0<=i then(if i.toNat<n then some i.toNat else none)else if 0<=i+n then some (i+n).toNat else none)else none
noncomputable def Du(n:Nat)(i:Int):Nat:=if 0<=i then min i.toNat n else(i+n).toNat
noncomputable def GN(s:List α)(l h:Nat):List α:=(s.take h).drop l
noncomputable def mR:List Nat->List Nat->Bool
 | [],_=>true
 |_::_,[]=>false
 |a::s,b::t=>if a<b then true else if b<a then false else mR s t
theorem pH{z}:mR [] z=true:=rfl
theorem sJ{h t}:mR (h::t) []=false:=rfl
theorem pF{a s b t}:mR (a::s) (b::t)=if a<b then true else if b<a then false else mR s t:=rfl
def j4:List V->Option (List Int)
 | []=>some []
 |v::r=>eP v λi=>(j4 r).map (i::·)
theorem NR:j4 []=some []:=rfl
theorem AH{h t}:j4 (h::t)=eP h λi=>Option.map (λx=>i::x)<|j4 t:=rfl
def j5:List V->Option (List<|List Nat)
 | []=>some []
 |v::r=>Dr v λs=>(j5 r).map (s::·)
theorem Nk:j5 []=some []:=rfl
theorem Aj{h t}:j5 (h::t)=Dr h λs=>Option.map (λx=>s::x)<|j5 t:=rfl
def t7 (s:List Nat):List V->Option Bool
 | []=>some false
 |v::r=>Dr v λt=>(t7 s r).map (decide (s=t)||·)
theorem Jh{s}:t7 s []=some false:=rfl
theorem Bc{s h a}:t7 s (h::a)=Dr h λt=>Option.map (λx=>decide (s=t)||x)<|t7 s a:=rfl
mutual
def bx (n:Nat):V->Bool
 | .i _=>true
 | .s s=>sh s&&s.all (·<128)
 | .t l=>(match n with |0=>false|n+1=>X8 n l)
 |_=>false
def X8 (n:Nat):List V->Bool
 | []=>true
 |v::l=>bx n v&&X8 n l
end
theorem gh{n a}:bx n (V.i a)=true:=rfl
theorem jp{n a}:bx n (V.s a)=(sh a&&a.all λx=>decide (x<128)):=rfl
theorem jl{a}:bx 0 (V.t a)=false:=rfl
theorem jb{a z}:bx z.succ (V.t a)=X8 z a:=rfl
theorem iX{n}:X8 n []=true:=rfl
theorem ju{n h t}:X8 n (h::t)=(bx n h&&X8 n t):=rfl
def wj (l k:List<|Int×V):Option Bool:=match l with
 | []=>some true
 |p::r=>eP p.2 λx=>(match eH p.1 k with
  |some w=>eP w λy=>(wj r k).map (decide (x=y)&&·)
  |none=>some false)
theorem Bt{k}:wj [] k=some true:=rfl
theorem J1{k p r}:wj (p::r) k=
 eP p.2 λx=>
  match eH p.1 k with
  |some w=>eP w λy=>Option.map (λa=>decide (x=y)&&a)<|wj r k
  |none=>some false:=rfl
def Ek (H:Hp)(x y:V):Option Bool:=match x with
 | .r a=>nV y λb=>oB H[a]? λo=>(match o with
  | .l l=>hL H[b]? λk=>if X8 3 l&&X8 3 k then aac l k else none
  | .dI l=>hD H[b]? λk=>if l.length=k.length then wj l k else some false
  |_=>none)
 | .t l=>Ed y λk=>if X8 3 l&&X8 3 k then aac l k else none
 | .i i=>eP y λj=>some<|decide (i=j)
 | .s s=>Dr y λt=>some<|decide (s=t)
 |_=>none
def fX (H:Hp)(x y:V):Option Bool:=match x with
 | .s s=>(match y with
  | .t l=>t7 s l
  | .s t=>(match s with | [c]=>some (t.contains c)|_=>none)
  | .r a=>oB H[a]? λo=>(match o with
   | .l l=>if X8 3 l&&bx 3 (.s s)then t7 s l else none
   | .dS l=>some (qI s l).isSome
   |_=>none)
  |_=>none)
 | .i i=>nV y λa=>hD H[a]? λl=>some (eH i l).isSome
 |_=>none
def aY (H:Hp)(op:Cp)(x y:V):Option Bool:=match op with
 | .e=>Ek H x y
 | .n=>(Ek H x y).map (!·)
 | .l=>eP x λa=>eP y λb=>some<|decide (a<b)
 | .le=>(match x with
  | .i a=>eP y λb=>some<|decide (a<=b)
  | .s s=>Dr y λt=>some<|mR s t
  |_=>none)
 | .g=>eP x λa=>eP y λb=>some<|decide (b<a)
 | .ge=>eP x λa=>eP y λb=>some<|decide (b<=a)
 | .i=>fX H x y
 | .Zg _=>(match y with
  | .s _=>none
  |_=>(fX H x y).map (!·))
def getItem (H:Hp)(x y:V):Option V:=match x with
 | .t l=>eP y λi=>(nW l.length i).bind (l[·]?)
 | .s s=>eP y λi=>((nW s.length i).bind (s[·]?)).map λc=>.s [c]
 | .r a=>(match y with
  | .i i=>oB H[a]? λo=>(match o with
   | .l l=>(nW l.length i).bind (l[·]?)
   | .dI l=>eH i l
   |_=>none)
  | .s s=>hS H[a]? λl=>qI s l
  |_=>none)
 |_=>none
def setItem (H:Hp)(x y v:V):Option Hp:=nV x λa=>(match y with
 | .i i=>oB H[a]? λo=>(match o with
  | .l l=>(nW l.length i).map λk=>H.set a<|.l<|l.set k v
  | .dI l=>if l.length<=1000 then some (H.set a<|.dI<|kX i v l)else none
  |_=>none)
 | .s s=>hS H[a]? λl=>if l.length<=1000 then some (H.set a<|.dS<|v8 s v l)else none
 |_=>none)
noncomputable def d9:Int×Int->Int×Int->Bool
 |(a,b),(c,d)=>decide (a<c)||(decide (a=c)&&decide (b<d))
noncomputable def iK(c:Nat->Nat->Bool):PySem.W.KasT b->b
 | .ret a=>a
 | .ask i j k=>iK c<|k<|c i j
theorem OX{c}:iK c (PySem.W.KasT.ret a)=a:=rfl
theorem DG{c i j}:iK c (PySem.W.KasT.ask i j k)=iK c (k<|c i j):=rfl
def jh (p:List<|Int×Int):List Nat:=(iK (λi j=>d9 (p.getD i (0,0))<|p.getD j (0,0))<|PySem.W.kas_sort p.length).toList
def dO:List V->Option (List<|Int×Int)
 | []=>some []
 |v::r=>Ed v λl=>(match l with
  | [a,b]=>eP a λa=>eP b λb=>(dO r).map ((a,b)::·)
  |_=>none)
theorem KB:dO []=some []:=rfl
theorem Kz{h t}:dO (h::t)=
 Ed h λl=>
  match l with
  | [a,b]=>eP a λa=>eP b λb=>Option.map (λx=>(a,b)::x)<|dO t
  |x=>none:=rfl
def qY (H:Hp)(u:V):Option<|List V×Option Nat:=match u with
 | .t l=>some (l,none)
 | .s s=>some (s.map λc=>.s [c],none)
 | .r a=>hL H[a]? λl=>if l.length<=1000000 then some (l,some a)else none
 |_=>none
def aZ (a:Nat)(l:List V)(H:Hp):Bool:=match hL H[a]? λk=>some (abn k l)with
 |some b=>b
 |none=>false
def jt (g:Option Nat)(l:List V)(H:Hp):Bool:=match g with
 |none=>true
 |some a=>aZ a l H
noncomputable def bS(a:Int):Nat->Int->List V
 |0,_=>[]
 |n+1,s=>.i a::bS (a+s) n s
theorem QN{a z}:bS a 0 z=[]:=rfl
theorem oy{a z2 n}:bS a n.succ z2=V.i a::bS (a+z2) n z2:=rfl
noncomputable def cX(l:Lo)(c:List Nat):Lo:=c.map λi=>(l[i]?).join
def cL (f:V->Hp->Option (Option V×Hp))(o:Hp->Bool):List V->Hp->Option (List V×Hp)
 | [],H=>gd (o H)<|some ([],H)
 |v::b,H=>gd (o H) (bV (f v H) λx a=>match x with
  |some x=>bV (cL f o b a) λd c=>some (x::d,c)
  |none=>cL f o b a)
theorem CQ{f o z}:cL f o [] z=gd (o z) (some ([],z)):=rfl
theorem Dq{f o z v a}:cL f o (v::a) z=
 gd (o z)
  (bV (f v z) λx H=>
   match x with
   |some x=>bV (cL f o a H) λc b=>some (x::c,b)
   |none=>cL f o a H):=rfl
noncomputable def fx(x:Option<|Fl×Hp)(g:Lo->Hp->Option (Fl×Hp)):Option<|Fl×Hp:=match x with
 |some p=>(match p.1 with | .n l=>g l p.2| .r v=>some (.r v,p.2)| .e _ _=>none)
 |none=>none
def aM (f:V->Lo->Hp->Option (Fl×Hp))(o:Hp->Bool):List V->Lo->Hp->Option (Fl×Hp)
 | [],l,H=>gd (o H)<|some (.n l,H)
 |v::c,l,H=>gd (o H)<|fx (f v l H) λb a=>aM f o c b a
theorem HQ{f o a z}:aM f o [] a z=gd (o z) (some (Fl.n a,z)):=rfl
theorem yV{f o b z v a}:aM f o (v::a) b z=gd (o z) (fx (f v b z) λl H=>aM f o a l H):=rfl
noncomputable def nx(x:Option<|Fl×Hp)(f:Lo->Hp->Option (Fl×Hp)):Option<|Fl×Hp:=match x with
 |some p=>(match p.1 with | .n l=>f l p.2|_=>x)
 |none=>none
noncomputable def rr(r:Option V)(H:Hp):Option<|V×Hp:=match r with |some v=>some (v,H)|none=>none
noncomputable def qB(r:Option<|Rs×Hp):Option<|V×Hp:=match r with
 |some p=>(match p.1 with | .v v=>some (v,p.2)|_=>none)
 |none=>none
noncomputable def bR(r:Option Bool)(H:Hp):Option<|V×Hp:=match r with |some b=>some (.b b,H)|none=>none
noncomputable def iR(r:Option Int)(H:Hp):Option<|V×Hp:=match r with |some n=>some (.i n,H)|none=>none
noncomputable def rS(l:Lo)(r:Option Hp):Option<|Fl×Hp:=match r with |some H=>some (.n l,H)|none=>none
noncomputable def JV(r:Option Lo)(H:Hp):Option<|Fl×Hp:=match r with |some l=>some (.n l,H)|none=>none
noncomputable def Oz(l:Lo)(i:Nat)(r:Option V)(H:Hp):Option<|Fl×Hp:=match r with |some z=>some (.n<|l.set i<|some z,H)|none=>none
noncomputable def gv(l:Lo)(i:Nat):Option V:=match l[i]? with |some x=>x|none=>none
def bf (H:Hp)(a f:Nat):Option V:=hI H[a]? λ_ b=>t6 f b
noncomputable def Ye(H:Hp)(a:Nat):Bool:=match H[a]? with
 |some o=>(match o with | .i c _=>c==2|_=>false)
 |none=>false
noncomputable def mB(H:Hp)(a:Nat):Bool:=match H[a]? with
 |some o=>(match o with | .l _=>true|_=>false)
 |none=>false
def bF (H:Hp)(a:Nat)(v:V):Option Hp:=hL H[a]? λk=>if k.length<=1000000 then some (H.set a<|.l<|k++[v])else none
def GV (H:Hp)(a:Nat):Option Hp:=hL H[a]? λk=>if k.length<=1000000 then some (H.set a<|.l [])else none
def AD (H:Hp)(a:Nat):Option Hp:=hL H[a]? λk=>if k.length<=1000000 then some (H.set a<|.l k.reverse)else none
def wv (H:Hp)(a:Nat):Option<|V×Hp:=hL H[a]? λk=>oB k.getLast? λv=>if k.length<=1000000 then some (v,H.set a<|.l k.dropLast)else none
def By (H:Hp)(a f:Nat)(v:V):Option Hp:=hI H[a]? λc b=>if DD c f then some (H.set a<|.i c<|oY f v b)else none
def slc (s i j:V):Option V:=Dr s λs=>eP i λi=>eP j λj=>if sm i&&sm j&&sh s then some (.s<|GN s (Du s.length i)<|Du s.length j)else none
def OU (s i:V):Option V:=Dr s λs=>eP i λi=>if sm i&&sh s then some (.s<|GN s (Du s.length i) s.length)else none
def U4 (H:Hp)(x y:V):Option<|V×Hp:=nV x λr=>eP y λj=>hO H[r]? λk=>if 0<=j&&sm j&&decide (k.length<=1048576)then some (.r H.length,H++[.l<|(k.take j.toNat).map V.i])else none
def eu (H:Hp)(x:V):Option Int:=match x with
 | .s s=>if sh s then some (s.length:Int)else none
 | .r r=>oB H[r]? λo=>(match o with
  | .l k=>if k.length<=1000000 then some (k.length:Int)else none
  | .ro k=>if k.length<=1048576 then some (k.length:Int)else none
  |_=>none)
 |_=>none
def Qr (x:V):Option Int:=Dr x λs=>(match s with | [c]=>some (c:Int)|_=>none)
def LV (H:Hp)(x:V):Option Int:=nV x λr=>hL H[r]? λk=>oB (j4 k) λn=>if k.length<=1000000&&n.all sm then some n.sum else none
def PQ (H:Hp)(x:V):Option<|V×Hp:=nV x λr=>hL H[r]? λk=>oB (dO k) λp=>if 2<=p.length&&p.length<64 then some (.r H.length,H++[.l<|(jh p).map λi=>k.getD i .n])else none
def Mm (H:Hp)(x:V):Option V:=nV x λr=>hL H[r]? λk=>oB (j5 k) λs=>if k.length<=1000000&&sh s.flatten then some (.s s.flatten)else none
noncomputable def Tq(k:List<|List Nat)(v:List V)(H:Hp):Option<|V×Hp:=if v.length=k.length then some (.r H.length,H++[.dS<|k.zip v])else none
noncomputable def QF(x:List V)(H:Hp):Option<|V×Hp:=if x.length<=1000000 then some (.r H.length,H++[.l x])else none
noncomputable def PU(l:Lo)(r:Option<|Rs×Hp):Option<|Fl×Hp:=match r with
 |some p=>(match p.1 with | .v v=>some (.r<|.t [.s [],v],p.2)| .e a b=>some (.r<|.t [a,b],p.2))
 |none=>none
noncomputable def QZ(x:Option<|Fl×Hp):Option<|(Lo×Hp)⊕(Fl×Hp):=match x with
 |some p=>(match p.1 with | .n l=>some (.inl (l,p.2))| .r v=>some (.inr (.r v,p.2))| .e _ _=>none)
 |none=>none
noncomputable def ZG(l:Lo):List Nat->List V->Option Lo
 | [],a=>(match a with | []=>some l|_::_=>none)
 |i::b,a=>(match a with | []=>none|v::a=>ZG (l.set i<|some v) b a)
def Lm (v:V)(f:V->V->Option (Fl×Hp)):Option<|Fl×Hp:=Ed v λl=>(match l with | [x,y]=>f x y|_=>none)
section
variable(cl:Cl)
mutual
def ai (l:Lo):ME->Hp->Option (V×Hp)
 | .i i,H=>some (.i i,H)
 | .s s,H=>some (.s s,H)
 | .b b,H=>some (.b b,H)
 | .v i,H=>rr (gv l i) H
 | .f e f,H=>bV (ai l e H) λv H=>nV v λa=>rr (bf H a f) H
 | .c k A,H=>bV (Zb l A H) λp H=>qB<|cl k p H
 | .w c A,H=>bV (Zb l A H) λp H=>bV (qB<|cl (1000+c) (.r H.length::p)<|H++[.i c []]) λv h=>Ta v<|some (.r H.length,h)
 | .m k o A,H=>bV (ai l o H) λv H=>nV v λa=>gd (Ye H a)<|bV (Zb l A H) λp H=>qB<|cl k (.r a::p) H
 | .o op a b,H=>bV (ai l a H) λx H=>bV (ai l b H) λy H=>rr (fQ op x y) H
 | .N a,H=>bV (ai l a H) λv H=>rU v λb=>some (.b<|!b,H)
 | .a A,H=>Za l A H
 | .or A,H=>ZT l A H
 | .q op a b,H=>bV (ai l a H) λx H=>bV (ai l b H) λy H=>bR (aY H op x y) H
 | .e c a b,H=>bV (ai l c H) λv H=>rU v λt=>if t then ai l a H else ai l b H
 | .t a i,H=>bV (ai l a H) λx H=>bV (ai l i H) λy H=>rr (getItem H x y) H
 | .S a I G,H=>bV (ai l a H) λs H=>bV (ai l I H) λi H=>bV (ai l G H) λj H=>rr (slc s i j) H
 | .Y a G,H=>bV (ai l a H) λx H=>bV (ai l G H) λj H=>U4 H x j
 | .X a I,H=>bV (ai l a H) λs H=>bV (ai l I H) λi H=>rr (OU s i) H
 | .l F,H=>bV (Zb l F H) λp H=>some (.r H.length,H++[.l p])
 | .p F,H=>bV (Zb l F H) λp H=>some (.t p,H)
 | .dS J F,H=>bV (Zb l F H) λp H=>Tq J p H
 | .dI,H=>some (.r H.length,H++[.dI []])
 | .n a,H=>bV (ai l a H) λx H=>iR (eu H x) H
 | .ord a,H=>bV (ai l a H) λx H=>iR (Qr x) H
 | .x a b,H=>bV (ai l a H) λx H=>bV (ai l b H) λy H=>eP x λx=>eP y λy=>some (.i<|if x<y then y else x,H)
 | .u a,H=>bV (ai l a H) λx H=>iR (LV H x) H
 | .k a,H=>bV (ai l a H) λx H=>PQ H x
 | .pop a,H=>bV (ai l a H) λx H=>nV x λr=>wv H r
 | .j a,H=>bV (ai l a H) λx H=>rr (Mm H x) H
 | .C g D d,H=>bV (ai l D H) λu z=>oB (qY z u) λq=>bV (cL (λv H=>bV (ai (some v::cX l d) g H) λx h=>some (some x,h)) (jt q.2 q.1) q.1 z) λE C=>QF E C
 | .E g D m d,H=>bV (ai l D H) λu z=>oB (qY z u) λq=>bV (cL (λv H=>bV (ai (some v::cX l d) m H) λw h=>rU w λb=>
   if b then bV (ai (some v::cX l d) g h) λx B=>some (some x,B)else some (none,h)) (jt q.2 q.1) q.1 z) λE C=>QF E C
 | .D g n d,H=>bV (ai l n H) λw z=>eP w λn=>if O7 n then
   bV (cL (λv H=>bV (ai (some v::cX l d) g H) λx h=>some (some x,h)) (λ_=>true) (bS 0 n.toNat 1) z) λE C=>QF E C else none
 | .F g n m d,H=>bV (ai l n H) λw z=>eP w λn=>if O7 n then
   bV (cL (λv H=>bV (ai (some v::cX l d) m H) λw h=>rU w λb=>
   if b then bV (ai (some v::cX l d) g h) λx B=>some (some x,B)else some (none,h)) (λ_=>true) (bS 0 n.toNat 1) z) λE C=>QF E C else none
def Zb (l:Lo):List ME->Hp->Option (List V×Hp)
 | [],H=>some ([],H)
 |e::a,H=>bV (ai l e H) λv H=>bV (Zb l a H) λb H=>some (v::b,H)
def Za (l:Lo):List ME->Hp->Option (V×Hp)
 | [],_=>none
 |e::a,H=>bV (ai l e H) λv H=>rU v λb=>(match a with
  | []=>some (.b b,H)
  |_::_=>if b then Za l a H else some (.b false,H))
def ZT (l:Lo):List ME->Hp->Option (V×Hp)
 | [],_=>none
 |e::a,H=>bV (ai l e H) λv H=>rU v λb=>(match a with
  | []=>some (.b b,H)
  |_::_=>if b then some (.b true,H)else ZT l a H)
end
variable(lp:Zx)
mutual
def bw (l:Lo)(H:Hp):MS->Option (Fl×Hp)
 | .x e=>bV (ai cl l e H) λ_ H=>some (.n l,H)
 | .s i e=>bV (ai cl l e H) λv H=>some (.n<|l.set i<|some v,H)
 | .f o f e=>bV (ai cl l e H) λv H=>bV (ai cl l o H) λx H=>nV x λa=>rS l<|By H a f v
 | .t o i e=>bV (ai cl l e H) λv H=>bV (ai cl l o H) λx H=>bV (ai cl l i H) λy H=>rS l<|setItem H x y v
 | .unp is e=>bV (ai cl l e H) λv H=>JV (Ed v λvs=>ZG l is vs) H
 | .v i op e=>oB (gv l i) λx=>bV (ai cl l e H) λy H=>Oz l i (d6 op x y) H
 | .u o i op e=>bV (ai cl l o H) λx H=>bV (ai cl l i H) λy H=>oB (getItem H x y) λold=>bV (ai cl l e H) λv H=>oB (d6 op old v) λnew=>rS l<|setItem H x y new
 | .a o e=>bV (ai cl l o H) λx H=>nV x λa=>gd (mB H a)<|bV (ai cl l e H) λv H=>rS l<|bF H a v
 | .rvs o=>bV (ai cl l o H) λx H=>nV x λa=>rS l<|AD H a
 | .c o=>bV (ai cl l o H) λx H=>nV x λa=>rS l<|GV H a
 | .i c t f=>bV (ai cl l c H) λv H=>rU v λb=>if b then XU l H t else XU l H f
 | .w c b=>lp (λs=>bV (ai cl s.1 c s.2) λv H=>rU v λt=>if t then QZ (XU s.1 H b)else some<|.inr (.n s.1,H)) (l,H)
 | .g i src b=>bV (ai cl l src H) λu H1=>oB (qY H1 u) λq=>aM (λv l' H'=>XU (l'.set i<|some v) H' b) (jt q.2 q.1) q.1 l H1
 | .ZE i j src b=>bV (ai cl l src H) λu H1=>nV u λr=>hL H1[r]? λk=>if k.length<=1000000 then aM (λv l' H'=>Lm v λx y=>XU ((l'.set i<|some x).set j<|some y) H' b) (aZ r k) k l H1 else none
 | .h i n b=>bV (ai cl l n H) λw H1=>eP w λn=>if O7 n then aM (λv l' H'=>XU (l'.set i<|some v) H' b) (λ_=>true) (bS 0 n.toNat 1) l H1 else none
 | .Zv i x b=>bV (ai cl l x H) λw H1=>eP w λx=>if Sl x then aM (λv l' H'=>XU (l'.set i<|some v) H' b) (λ_=>true) (bS x (x+1).toNat<|-1) l H1 else none
 | .aao i src b=>bV (ai cl l src H) λu H1=>nV u λr=>hL H1[r]? λk=>if k.length<=1000000 then aM (λv l' H'=>XU (l'.set i<|some v) H' b) (aZ r k) k.reverse l H1 else none
 | .r e=>bV (ai cl l e H) λv H=>some (.r v,H)
 | .aaw=>some (.r .n,H)
 | .e a b=>bV (ai cl l a H) λx H=>bV (ai cl l b H) λy H=>some (.e x y,H)
 | .told k as=>bV (Zb cl l as H) λvs H=>PU l<|cl k vs H
 | .k=>none
termination_by structural x=>x
def XU (l:Lo)(H:Hp):List MS->Option (Fl×Hp)
 | []=>some (.n l,H)
 |s::r=>nx (bw l H s) λl' H'=>XU l' H' r
termination_by structural x=>x
end
end
set_option genInjectivity false in
structure Fn where
 p:Nat
 vars:Nat
 body:List MS
noncomputable def dy(r:Option<|Fl×Hp):Option<|Rs×Hp:=match r with
 |some p=>(match p.1 with | .n _=>some (.v .n,p.2)| .r v=>some (.v v,p.2)| .e a b=>some (.e a b,p.2))
 |none=>none
def FE (l:Zx)(F:Nat->Option Fn):Nat->Cl
 |0,_,_,_=>none
 |d+1,k,v,H=>oB (F k) λf=>if v.length=f.p then dy (XU (FE l F d) l (v.map some++List.replicate (f.vars-f.p) none) H f.body)else none
def fR (a:S->Option (S⊕R)):Nat->S->Option R
 |0,_=>none
 |n+1,s=>oB (a s) λx=>match x with
  | .inl b=>fR a n b
  | .inr r=>some r
theorem yG{z}:fR step 0 z=none:=rfl
theorem n6{s:S->Option (S⊕R)}{z n}:fR s n.succ z=
 oB (s z) λx=>
  match x with
  |Sum.inl a=>fR s n a
  |Sum.inr r=>some r:=rfl
section
variable{C:Prop}
def tL (h:rr r H=some (v,b))(k:r=some v->H=b->C):C:=by cases r with |none=>exact cO h|some a=>exact aR h λe=>k<|Xs some e
def Ql (h:bR r H=some (v,c))(k:∀b,r=some b->.b b=v->H=c->C):C:=by cases r with |none=>exact cO h|some a=>exact aR h<|k a rfl
def MF (h:iR r H=some (v,c))(k:∀b,r=some b->.i b=v->H=c->C):C:=by cases r with |none=>exact cO h|some a=>exact aR h<|k a rfl
def Aa (h:qB r=some (v,c))(k:r=some (.v v,c)->C):C:=by cases r with |none=>exact cO h|some p=>obtain⟨a,b⟩:=p;cases a with |v a=>exact aR h λe d=>k (by clear k;subst e;exact Xs (λH=>some (Rs.v a,H)) d)|_=>exact cO h
def vu (h:rS l r=some (f,H))(k:r=some H->.n l=f->C):C:=by cases r with |none=>exact cO h|some a=>exact aR h λe b=>k (Xs some b) e
def BU (h:QF x H=some (v,a))(k:x.length<=1000000->.r H.length=v->H++[.l x]=a->C):C:=cx h λq h=>aR h<|k q
def Uw (h:nx x f=some (y,c))(k:∀l H,x=some (.n l,H)->f l H=some (y,c)->C)(d:(∀l,y≠.n l)->x=some (y,c)->C):C:=by cases x with |none=>exact cO h|some p=>obtain⟨a,b⟩:=p;cases a with |n l=>exact k l b rfl h|_=>exact aR h λe g=>d (λl q=>by rw[q]at e;cases e) (by clear h k d;subst e;exact Xs (λH=>some (_,H)) g)
def Uz (h:fx x g=some (y,c))(k:∀l H,x=some (.n l,H)->g l H=some (y,c)->C)(f:∀v,y=.r v->x=some (.r v,c)->C):C:=by cases x with |none=>exact cO h|some p=>obtain⟨a,b⟩:=p;cases a with |n l=>exact k l b rfl h|r v=>exact aR h λe d=>f v e.symm (Xs (λH=>some (Fl.r v,H)) d)|_=>exact cO h
end
section
variable{cl:Cl}{lp:Zx}{l:Lo}{H:Hp}
theorem Bu:bw cl lp l H (.x e)=bV (ai cl l e H) λ_ H=>some (.n l,H):=rfl
theorem wS:bw cl lp l H (.s i e)=bV (ai cl l e H) λv H=>some (.n<|l.set i<|some v,H):=rfl
theorem B4:bw cl lp l H (.f o f e)=bV (ai cl l e H) λv H=>bV (ai cl l o H) λx H=>nV x λa=>rS l<|By H a f v:=rfl
theorem Cc:bw cl lp l H (.t o i e)=bV (ai cl l e H) λv H=>bV (ai cl l o H) λx H=>bV (ai cl l i H) λy H=>rS l<|setItem H x y v:=rfl
theorem Aq:bw cl lp l H (.unp i e)=bV (ai cl l e H) λv H=>JV (Ed v λa=>ZG l i a) H:=rfl
theorem Jl:bw cl lp l H (.v i op e)=oB (gv l i) λx=>bV (ai cl l e H) λy H=>Oz l i (d6 op x y) H:=rfl
theorem Bd:bw cl lp l H (.u o i op e)=bV (ai cl l o H) λx H=>bV (ai cl l i H) λy H=>oB (getItem H x y) λa=>bV (ai cl l e H) λv H=>oB (d6 op a v) λn=>rS l<|setItem H x y n:=rfl
theorem zO:bw cl lp l H (.a o e)=bV (ai cl l o H) λx H=>nV x λa=>gd (mB H a) (bV (ai cl l e H) λv H=>rS l<|bF H a v):=rfl
theorem ES:bw cl lp l H (.rvs o)=bV (ai cl l o H) λx H=>nV x λa=>rS l<|AD H a:=rfl
theorem yd:bw cl lp l H (.c o)=bV (ai cl l o H) λx H=>nV x λa=>rS l<|GV H a:=rfl
theorem Ii:bw cl lp l H (.i c t f)=bV (ai cl l c H) λv H=>rU v λb=>if b then XU cl lp l H t else XU cl lp l H f:=rfl
theorem yB:bw cl lp l H (.w c b)=lp (λs=>bV (ai cl s.1 c s.2) λv H=>rU v λt=>if t then QZ (XU cl lp s.1 H b)else some<|.inr (.n s.1,H)) (l,H):=rfl
theorem rQ:bw cl lp l H (.g i src b)=bV (ai cl l src H) λu H1=>oB (qY H1 u) λq=>aM (λv c a=>XU cl lp (c.set i<|some v) a b) (jt q.2 q.1) q.1 l H1:=rfl
theorem Cy:bw cl lp l H (.ZE i j src b)=bV (ai cl l src H) λu a=>nV u λr=>hL a[r]? λk=>if k.length<=1000000 then aM (λv d c=>Lm v λx y=>XU cl lp ((d.set i<|some x).set j<|some y) c b) (aZ r k) k l a else none:=rfl
theorem Cj:bw cl lp l H (.h i n b)=bV (ai cl l n H) λw c=>eP w λn=>if O7 n then aM (λv d a=>XU cl lp (d.set i<|some v) a b) (λ_=>true) (bS 0 n.toNat 1) l c else none:=rfl
theorem yb:bw cl lp l H (.Zv i x b)=bV (ai cl l x H) λw c=>eP w λx=>if Sl x then aM (λv d a=>XU cl lp (d.set i<|some v) a b) (λ_=>true) (bS x (x+1).toNat<|-1) l c else none:=rfl
theorem BR:bw cl lp l H (.aao i src b)=bV (ai cl l src H) λu a=>nV u λr=>hL a[r]? λk=>if k.length<=1000000 then aM (λv d c=>XU cl lp (d.set i<|some v) c b) (aZ r k) k.reverse l a else none:=rfl
theorem Gd:bw cl lp l H (.r e)=bV (ai cl l e H) λv H=>some (.r v,H):=rfl
theorem xo:bw cl lp l H (.e a b)=bV (ai cl l a H) λx H=>bV (ai cl l b H) λy H=>some (.e x y,H):=rfl
end
def Ee {a b:AO}{P:Prop}(h:a=b)(e:Nat.beq a.ctorIdx b.ctorIdx=false):P:=SK _ h e
noncomputable abbrev xR(a:Nat):Option V:=some<|.r a
noncomputable abbrev xI(a:Int):Option V:=some<|.i a
noncomputable abbrev xS(a:List Nat):Option V:=some<|.s a
abbrev kV_:=V->Hp->Prop
def g8 (r:Option<|a×Hp)(k:a->Hp->Prop):Prop:=∀v H,r=some (v,H)->k v H
def Sp (r:Option<|Rs×Hp)(k:kV_):Prop:=∀v H,r=some (.v v,H)->k v H
def rA (r:Option a)(k:a->Prop):Prop:=∀v,r=some v->k v
def Uh (b:Bool)(k:Prop):Prop:=b=true->k
def K8 (v:V)(k:Nat->Prop):Prop:=match v with | .r a=>k a|_=>True
def IR (v:V)(k x:Prop):Prop:=match v with | .b b=>(match b with |true=>k|false=>x)|_=>True
def IJ (k:V->Prop):Lo->Nat->Prop
 | [],_=>True
 |x::l,i=>(match i with |0=>(match x with |some v=>k v|none=>True)|i+1=>IJ k l i)
def LE (v:V):Lo->Nat->(Lo->Prop)->Prop
 | [],_,k=>k []
 |x::l,i,k=>(match i with |0=>k (some v::l)|i+1=>LE v l i λl=>k<|x::l)
section
variable(ks:V->Lo->Nat->(Lo->Prop)->Prop)
def UD:List Nat->List V->Lo->(Lo->Prop)->Prop
 | [],a,l,k=>(match a with | []=>k l|_::_=>True)
 |i::b,a,l,k=>(match a with | []=>True|v::a=>ks v l i λl=>UD b a l k)
end
def Ln (f:Fl)(k:Lo->Prop)(x:Prop):Prop:=match f with | .n l=>k l|_=>x
def Xh (v:V)(k:Prop):Prop:=match v with | .n=>k|_=>True
def Xk (v:V)(k:List V->Prop):Prop:=match v with | .t a=>k a|_=>True
def UU (v:V)(k:Int->Prop):Prop:=match v with | .i a=>k a|_=>True
section
variable(kv:(V->Prop)->Lo->Nat->Prop)(ks:V->Lo->Nat->(Lo->Prop)->Prop)(cl)
mutual
def fu (l:Lo):ME->Hp->kV_->Prop
 | .i i,H=>λk=>k (.i i) H
 | .s s,H=>λk=>k (.s s) H
 | .b b,H=>λk=>k (.b b) H
 | .v i,H=>λk=>kv (λv=>k v H) l i
 | .f e f,H=>λk=>fu l e H λv H=>K8 v λa=>rA (bf H a f) λv=>k v H
 | .c c h,H=>λk=>kwM l h H λg H=>Sp (cl c g H) k
 | .w c h,H=>λk=>kwM l h H λg H=>Sp (cl (1000+c) (.r H.length::g)<|H++[.i c []]) λv u=>Xh v<|k (.r H.length) u
 | .m c o h,H=>λk=>fu l o H λv H=>K8 v λa=>Uh (Ye H a)<|kwM l h H λg H=>Sp (cl c (.r a::g) H) k
 | .o op a b,H=>λk=>fu l a H λx H=>fu l b H λy H=>rA (fQ op x y) λv=>k v H
 | .N a,H=>λk=>fu l a H λv H=>IR v (k (.b false) H)<|k (.b true) H
 | .q op a b,H=>λk=>fu l a H λx H=>fu l b H λy H=>rA (aY H op x y) λt=>k (.b t) H
 | .e c a b,H=>λk=>fu l c H λv H=>IR v (fu l a H k)<|fu l b H k
 | .t a i,H=>λk=>fu l a H λx H=>fu l i H λy H=>rA (getItem H x y) λv=>k v H
 | .l m,H=>λk=>kwM l m H λg H=>k (.r H.length)<|H++[.l g]
 | .p m,H=>λk=>kwM l m H λg H=>k (.t g) H
 | .dS ks m,H=>λk=>kwM l m H λg H=>g8 (Tq ks g H) k
 | .dI,H=>λk=>k (.r H.length)<|H++[.dI []]
 | .n a,H=>λk=>fu l a H λx H=>rA (eu H x) λn=>k (.i n) H
 | .ord a,H=>λk=>fu l a H λx H=>rA (Qr x) λn=>k (.i n) H
 | .j a,H=>λk=>fu l a H λx H=>rA (Mm H x) λv=>k v H
 | .pop a,H=>λk=>fu l a H λx H=>K8 x λr=>g8 (wv H r) k
 | .u a,H=>λk=>fu l a H λx H=>rA (LV H x) λn=>k (.i n) H
 | .k a,H=>λk=>fu l a H λx H=>g8 (PQ H x) k
 | .x a b,H=>λk=>fu l a H λx H=>fu l b H λy H=>UU x λa=>UU y λb=>k (.i<|max a b) H
 | .Y a p,H=>λk=>fu l a H λx H=>fu l p H λj H=>g8 (U4 H x j) k
 | .X a q,H=>λk=>fu l a H λs H=>fu l q H λi H=>rA (OU s i) λv=>k v H
 | .S a q p,H=>λk=>fu l a H λs H=>fu l q H λi H=>fu l p H λj H=>rA (slc s i j) λv=>k v H
 | .a h,H=>λk=>kwA l h H k
 | .or h,H=>λk=>kwO l h H k
 | .C a b c,H=>λk=>g8 (ai cl l (.C a b c) H) k
 | .E a b c d,H=>λk=>g8 (ai cl l (.E a b c d) H) k
 | .D a b c,H=>λk=>g8 (ai cl l (.D a b c) H) k
 | .F a b c d,H=>λk=>g8 (ai cl l (.F a b c d) H) k
def kwM (l:Lo):List ME->Hp->(List V->Hp->Prop)->Prop
 | [],H=>λk=>k [] H
 |e::a,H=>λk=>fu l e H λv H=>kwM l a H λb H=>k (v::b) H
def kwA (l:Lo):List ME->Hp->kV_->Prop
 | [],_=>λ_=>True
 |e::a,H=>λk=>fu l e H λv H=>match a with | []=>IR v (k (.b true) H) (k (.b false) H)|_::_=>IR v (kwA l a H k)<|k (.b false) H
def kwO (l:Lo):List ME->Hp->kV_->Prop
 | [],_=>λ_=>True
 |e::a,H=>λk=>fu l e H λv H=>match a with | []=>IR v (k (.b true) H) (k (.b false) H)|_::_=>IR v (k (.b true) H)<|kwO l a H k
end
variable(lp:Zx)
mutual
def TY (l:Lo)(H:Hp)(Q:Fl->Hp->Prop):MS->(Lo->Hp->Prop)->Prop
 | .x e=>λk=>fu kv cl l e H λ_ H=>k l H
 | .s i e=>λk=>fu kv cl l e H λv H=>ks v l i λl=>k l H
 | .f o f e=>λk=>fu kv cl l e H λv H=>fu kv cl l o H λx H=>K8 x λa=>rA (By H a f v) λH=>k l H
 | .t o i e=>λk=>fu kv cl l e H λv H=>fu kv cl l o H λx H=>fu kv cl l i H λy H=>rA (setItem H x y v) λH=>k l H
 | .unp h e=>λk=>fu kv cl l e H λv H=>Xk v λj=>UD ks h j l λl=>k l H
 | .v i op e=>λk=>kv (λx=>fu kv cl l e H λy H=>rA (d6 op x y) λz=>ks z l i λl=>k l H) l i
 | .u o i op e=>λk=>fu kv cl l o H λx H=>fu kv cl l i H λy H=>rA (getItem H x y) λg=>fu kv cl l e H λv H=>rA (d6 op g v) λn=>rA (setItem H x y n) λH=>k l H
 | .a o e=>λk=>fu kv cl l o H λx H=>K8 x λa=>Uh (mB H a)<|fu kv cl l e H λv H=>rA (bF H a v) λH=>k l H
 | .rvs o=>λk=>fu kv cl l o H λx H=>K8 x λa=>rA (AD H a) λH=>k l H
 | .c o=>λk=>fu kv cl l o H λx H=>K8 x λa=>rA (GV H a) λH=>k l H
 | .i c t f=>λk=>fu kv cl l c H λv H=>IR v (kwB l H Q t k)<|kwB l H Q f k
 | .r e=>λ_=>fu kv cl l e H λv H=>Q (.r v) H
 | .aaw=>λ_=>Q (.r .n) H
 | .e a b=>λ_=>fu kv cl l a H λx H=>fu kv cl l b H λy H=>Q (.e x y) H
 | .w c b=>λk=>g8 (bw cl lp l H<|.w c b) λf H=>Ln f (λl=>k l H)<|Q f H
 | .g a b c=>λk=>g8 (bw cl lp l H<|.g a b c) λf H=>Ln f (λl=>k l H)<|Q f H
 | .ZE a b c d=>λk=>g8 (bw cl lp l H<|.ZE a b c d) λf H=>Ln f (λl=>k l H)<|Q f H
 | .h a b c=>λk=>g8 (bw cl lp l H<|.h a b c) λf H=>Ln f (λl=>k l H)<|Q f H
 | .Zv a b c=>λk=>g8 (bw cl lp l H<|.Zv a b c) λf H=>Ln f (λl=>k l H)<|Q f H
 | .aao a b c=>λk=>g8 (bw cl lp l H<|.aao a b c) λf H=>Ln f (λl=>k l H)<|Q f H
 | .told a b=>λk=>g8 (bw cl lp l H<|.told a b) λf H=>Ln f (λl=>k l H)<|Q f H
 | .k=>λ_=>True
def kwB (l:Lo)(H:Hp)(Q:Fl->Hp->Prop):List MS->(Lo->Hp->Prop)->Prop
 | []=>λk=>k l H
 |s::r=>λk=>TY l H Q s λl H=>kwB l H Q r k
end
end
section
variable{cl:Cl}{l:Lo}
def p1 (h:g8 (bV r F) k)(g:∀v H,g8 (F v H) k->K v H):g8 r K:=λv H q=>g v H λy a p=>h y a (by rw[q];exact p)
def p2 (h:g8 x k)(e:x=bV r F)(g:∀v H,g8 (F v H) k->K v H):g8 r K:=p1 (by rw[e]at h;exact h) g
def tv {F:Nat->Option (b×Hp)}(h:g8 (nV v F) k)(g:∀a,g8 (F a) k->K a):K8 v K:=by cases v<;>first| exact g _ h|trivial
def Li (h:g8 (eP v F) k)(g:∀a,g8 (F a) k->K a):UU v K:=by cases v<;>first| exact g _ h|trivial
def RF {x y:Int}:(if x<y then y else x)=max x y:=by rw[Int.max_def];split<;>split<;>first|rfl| exact Xw (YK ‹_›) ‹_› | exact Int.le_antisymm ‹_›<|YI.mp ‹_›
def sK (h:g8 (rU v F) k)(g:g8 (F true) k->A)(a:g8 (F false) k->B):IR v A B:=by cases v with |b b=>cases b;exact a h;exact g h|_=>trivial
def KL (h:g8 (gd b x) k)(g:g8 x k->K):Uh b K:=λq=>g (by rw[q]at h;exact h)
def G6 (h:g8 (qB r) k):Sp r k:=λv H q=>h v H (by rw[q];rfl)
def Lf (h:g8 (oB r F) k)(g:∀v,g8 (F v) k->K v):rA r K:=λv q=>g v (by rw[q]at h;exact h)
def vj (h:g8 (some (x,H)) k):k x H:=h x H rfl
def vl (h:g8 (rr r H) k):rA r λv=>k v H:=λv q=>h v H (by rw[q];rfl)
def PN (h:g8 (bR r H) k):rA r λv=>k (.b v) H:=λv q=>h _ H (by rw[q];rfl)
def Ig (h:g8 (iR r H) k):rA r λv=>k (.i v) H:=λv q=>h _ H (by rw[q];rfl)
def qU:∀{l:Lo}{i:Nat},(∀v,gv l i=some v->k v)->IJ k l i:=by
 intro l;induction l with
 |nil=>intros;trivial
 |cons x l a=>intro i h;cases i with
  |zero=>cases x with |none=>trivial|some v=>exact h v rfl
  |succ i=>exact a h
def uC:∀{l:Lo}{i:Nat}{k:Lo->Prop},k (l.set i<|some v)->LE v l i k:=by
 intro l;induction l with
 |nil=>intro i k h;exact h
 |cons x l a=>intro i k h;cases i with
  |zero=>exact h
  |succ i=>exact a (k:=λl=>k<|x::l) h
def PE (d:∀{v:V}{l:Lo}{i:Nat}{k:Lo->Prop},k (l.set i<|some v)->f v l i k):∀{b:List Nat}{a:List V}{l:Lo}{k:Lo->Prop},(∀c,ZG l b a=some c->k c)->UD f b a l k:=by
 intro b;induction b with
 |nil=>intro a l k h;cases a;exact h l rfl;trivial
 |cons i b e=>intro a l k h;cases a with |nil=>trivial|cons v a=>exact d<|e h
abbrev kR (Q:Fl->Hp->Prop)(K:Lo->Hp->Prop):Fl->Hp->Prop:=λf H=>Ln f (λl=>K l H)<|Q f H
def FC (h:g8 (some (Fl.n a,H1))<|kR Q K):K a H1:=h _ _ rfl
def uZ (h:g8 (rS l r)<|kR Q K):rA r λH=>K l H:=λv q=>h (.n l) v (by rw[q];rfl)
def VG (a:(V->Prop)->Lo->Nat->Prop)(cl:Cl)(l:Lo)(e:ME):Prop:=∀(H:Hp) (k:kV_),g8 (ai cl l e H) k->fu a cl l e H k
def W9 (a:(V->Prop)->Lo->Nat->Prop)(cl:Cl)(l:Lo)(e:List ME):Prop:=∀(H:Hp) (k:List V->Hp->Prop),g8 (Zb cl l e H) k->kwM a cl l e H k
def Xd (a:(V->Prop)->Lo->Nat->Prop)(cl:Cl)(l:Lo)(e:List ME):Prop:=∀(H:Hp) (k:kV_),g8 (Za cl l e H) k->kwA a cl l e H k
def V8 (a:(V->Prop)->Lo->Nat->Prop)(cl:Cl)(l:Lo)(e:List ME):Prop:=∀(H:Hp) (k:kV_),g8 (ZT cl l e H) k->kwO a cl l e H k
def WW (b:(V->Prop)->Lo->Nat->Prop)(k:V->Lo->Nat->(Lo->Prop)->Prop)(cl:Cl)(a:Zx)(Q:Fl->Hp->Prop)(s:MS):Prop:=∀(l:Lo) (H:Hp) (K:Lo->Hp->Prop),g8 (bw cl a l H s) (kR Q K)->TY b k cl a l H Q s K
def Wm (b:(V->Prop)->Lo->Nat->Prop)(k:V->Lo->Nat->(Lo->Prop)->Prop)(cl:Cl)(a:Zx)(Q:Fl->Hp->Prop)(s:List MS):Prop:=∀(l:Lo) (H:Hp) (K:Lo->Hp->Prop),g8 (XU cl a l H s) (kR Q K)->kwB b k cl a l H Q s K
variable{kv:(V->Prop)->Lo->Nat->Prop}{ks:V->Lo->Nat->(Lo->Prop)->Prop}(hv:∀{k:V->Prop}{l:Lo}{i:Nat},(∀v,gv l i=some v->k v)->kv k l i)(hs:∀{v:V}{l:Lo}{i:Nat}{k:Lo->Prop},k (l.set i<|some v)->ks v l i k)
include hv
mutual
theorem aH(e):VG kv cl l e:=match e with
 | .i i=>λH k h=>vj h
 | .s s=>λH k h=>vj h
 | .b b=>λH k h=>vj h
 | .v i=>λH k h=>hv λv q=>h v H (by show rr (gv l i) H=_;rw[q];rfl)
 | .f e f=>λH k h=>aH e H _<|p1 h λv H h=>tv h λa h=>vl h
 | .c c g=>λH k h=>ZQ g H _<|p1 h λv H h=>G6 h
 | .w c g=>λH k h=>ZQ g H _ (p1 h λn H h=>G6<|p1 h λv H h=>by cases v<;>first| exact h _ _ rfl|trivial)
 | .m c o g=>λH k h=>aH o H _<|p1 h λv H h=>tv h λa h=>KL h λh=>ZQ g H _<|p1 h λn H h=>G6 h
 | .o op a b=>λH k h=>aH a H _<|p1 h λx H h=>aH b H _<|p1 h λy H h=>vl h
 | .N a=>λH k h=>aH a H _<|p1 h λv H h=>sK h vj vj
 | .q op a b=>λH k h=>aH a H _<|p1 h λx H h=>aH b H _<|p1 h λy H h=>PN h
 | .e c a b=>λH k h=>aH c H _<|p1 h λx H h=>sK h (aH a H _)<|aH b H _
 | .t a i=>λH k h=>aH a H _<|p1 h λx H h=>aH i H _<|p1 h λy H h=>vl h
 | .l m=>λH k h=>ZQ m H _<|p1 h λn H h=>vj h
 | .p m=>λH k h=>ZQ m H _<|p1 h λn H h=>vj h
 | .dS ks m=>λH k h=>ZQ m H _<|p1 h λn H h=>h
 | .dI=>λH k h=>vj h
 | .n a=>λH k h=>aH a H _<|p1 h λx H h=>Ig h
 | .ord a=>λH k h=>aH a H _<|p1 h λx H h=>Ig h
 | .j a=>λH k h=>aH a H _<|p1 h λx H h=>vl h
 | .pop a=>λH k h=>aH a H _<|p1 h λx H h=>tv h λa h=>h
 | .u a=>λH k h=>aH a H _<|p1 h λx H h=>Ig h
 | .k a=>λH k h=>aH a H _<|p1 h λx H h=>h
 | .x a b=>λH k h=>aH a H _<|p1 h λx H h=>aH b H _<|p1 h λy H h=>Li h λa h=>Li h λb h=>RF▸vj h
 | .Y a i=>λH k h=>aH a H _<|p1 h λx H h=>aH i H _<|p1 h λy H h=>h
 | .X a i=>λH k h=>aH a H _<|p1 h λx H h=>aH i H _<|p1 h λy H h=>vl h
 | .S a i j=>λH k h=>aH a H _<|p1 h λx H h=>aH i H _<|p1 h λy H h=>aH j H _<|p1 h λy H h=>vl h
 | .a g=>λH k h=>ab8 g H _ h
 | .or g=>λH k h=>ab9 g H _ h
 | .C a b c=>λH k h=>h
 | .E a b c d=>λH k h=>h
 | .D a b c=>λH k h=>h
 | .F a b c d=>λH k h=>h
theorem ZQ(es):W9 kv cl l es:=match es with
 | []=>λH k h=>vj h
 |e::es=>λH k h=>aH e H _<|p1 h λx H h=>ZQ es H _<|p1 h λy H h=>vj h
theorem ab8(es):Xd kv cl l es:=match es with
 | []=>λH k h=>trivial
 |e::es=>λH k h=>aH e H _ (p1 h λx H h=>by cases es with |nil=>exact sK h vj vj|cons=>exact sK h (ab8 _ H _) vj)
theorem ab9(es):V8 kv cl l es:=match es with
 | []=>λH k h=>trivial
 |e::es=>λH k h=>aH e H _ (p1 h λx H h=>by cases es with |nil=>exact sK h vj vj|cons=>exact sK h vj<|ab9 _ H _)
end
include hs
mutual
theorem HW(s):WW kv ks cl p Q s:=match s with
 | .x e=>λl H K h=>aH hv e H _<|p2 h Bu λv H h=>FC h
 | .s i e=>λl H K h=>aH hv e H _<|p2 h wS λv H h=>hs<|FC h
 | .f o f e=>λl H K h=>aH hv e H _<|p2 h B4 λv H h=>aH hv o H _<|p1 h λx H h=>tv h λa h=>uZ h
 | .t o i e=>λl H K h=>aH hv e H _<|p2 h Cc λv H h=>aH hv o H _<|p1 h λx H h=>aH hv i H _<|p1 h λx H h=>uZ h
 | .unp m e=>λl H K h=>aH hv e H _ (p2 h Aq λv H h=>by cases v with |t r=>exact PE hs λg q=>h (.n g) H (by show JV (ZG _ _ _) _=_;rw[q];rfl)|_=>trivial)
 | .v i op e=>λl H K h=>hv λx q=>aH hv e H _ (p1 (r:=ai cl l e H) (F:=λy H=>Oz l i (d6 op x y) H) (by have h:g8 (oB (gv l i) _) _:=h;rw[q]at h;exact h) λy H h=>λz q=>hs<|h (.n<|l.set i<|some z) H<|by rw[q];rfl)
 | .u o i op e=>λl H K h=>aH hv o H _<|p2 h Bd λx H h=>aH hv i H _<|p1 h λy H h=>Lf h λj h=>aH hv e H _<|p1 h λv H h=>Lf h λn h=>uZ h
 | .a o e=>λl H K h=>aH hv o H _<|p2 h zO λx H h=>tv h λa h=>KL h λh=>aH hv e H _<|p1 h λx H h=>uZ h
 | .rvs o=>λl H K h=>aH hv o H _<|p2 h ES λx H h=>tv h λa h=>uZ h
 | .c o=>λl H K h=>aH hv o H _<|p2 h yd λx H h=>tv h λa h=>uZ h
 | .i c t f=>λl H K h=>aH hv c H _<|p2 h Ii λv H h=>sK h (ZR t l H _)<|ZR f l H _
 | .r e=>λl H K h=>aH hv e H _<|p2 h Gd λv H h=>vj (k:=kR Q K) h
 | .aaw=>λl H K h=>vj (k:=kR Q K) h
 | .e a b=>λl H K h=>aH hv a H _<|p2 h xo λx H h=>aH hv b H _<|p1 h λy H h=>vj (k:=kR Q K) h
 | .w c b=>λl H K h=>h
 | .g a b c=>λl H K h=>h
 | .ZE a b c d=>λl H K h=>h
 | .h a b c=>λl H K h=>h
 | .Zv a b c=>λl H K h=>h
 | .aao a b c=>λl H K h=>h
 | .told a b=>λl H K h=>h
 | .k=>λl H K h=>trivial
theorem ZR(b):Wm kv ks cl c Q b:=match b with
 | []=>λl H K h=>FC h
 |s::r=>λl H K h=>HW s l H _ λf a q=>by
   cases f with
   |n d=>exact ZR r d a _ λf H p=>h f H (by show nx (bw cl c l _ s) _=_;rw[q];exact p)
   |_=>exact h _ a (by show nx (bw cl c l _ s) _=_;rw[q];rfl)
end
end
noncomputable def PA(f:Fl)(H:Hp):Option<|Rs×Hp:=match f with | .n _=>some (.v .n,H)| .r v=>some (.v v,H)| .e a b=>some (.e a b,H)
section
variable(cl)(lp:Zx)(l)(H)
def Xe (b:List MS):Prop:=kwB IJ LE cl lp l H (λf a=>dy (XU cl lp l H b)=PA f a) b λ_ a=>dy (XU cl lp l H b)=some (.v .n,a)
def We (n:Nat)(b:List MS):Prop:=kwB IJ LE cl lp l H (λf a=>XU cl lp l H b=some (f,a)) (b.take n) λc a=>XU cl lp l H b=XU cl lp c a (b.drop n)
def ka:(V->Prop)->Lo->Nat->Prop:=λk l i=>∀v,gv l i=some v->k v
def kb:V->Lo->Nat->(Lo->Prop)->Prop:=λv l i k=>k<|l.set i<|some v
variable(kv:(V->Prop)->Lo->Nat->Prop)(ks:V->Lo->Nat->(Lo->Prop)->Prop)
def TQ (b:List MS):Prop:=kwB kv ks cl lp l H (λf a=>XU cl lp l H b=some (f,a)) b λc a=>XU cl lp l H b=some (.n c,a)
def Pp (s:MS):Prop:=TY kv ks cl lp l H (λf a=>bw cl lp l H s=some (f,a)) s λb a=>bw cl lp l H s=some (.n b,a)
def Qd (e:ME):Prop:=fu kv cl l e H λv a=>ai cl l e H=some (v,a)
def Ts (e:List ME):Prop:=kwM kv cl l e H λv a=>Zb cl l e H=some (v,a)
def VH (b:List MS):Prop:=TQ cl lp l H IJ LE b
def WK (s:MS):Prop:=Pp cl lp l H IJ LE s
def Xb (e:ME):Prop:=Qd cl l H IJ e
def Wt (s:MS):Prop:=Pp cl lp l H ka kb s
def VV (e:ME):Prop:=Qd cl l H ka e
def Wu (e:List ME):Prop:=Ts cl l H ka e
end
section
def j6 (h:Xe c a l H b->dy (XU c a l H b)=r):dy (XU c a l H b)=r:=h (ZR qU uC _ _ _ _ λf d q=>by rw[q];cases f with |n e=>exact rfl|_=>exact rfl)
def MX (n)(h:We c a l H n b->XU c a l H b=r):XU c a l H b=r:=h (ZR qU uC _ _ _ _ λf d q=>by
 have e:∀n (b) l H,XU c a l H b=nx (XU c a l H<|b.take n) λl H=>XU c a l H<|b.drop n:=by
  intro n;induction n with
  |zero=>intro b l H;rfl
  |succ n i=>intro b l H;cases b with
   |nil=>rfl
   |cons s b=>
    show nx (bw c a l H s) _=nx (nx (bw c a l H s) _) _;cases bw c a l H s with
    |none=>rfl
    |some p=>obtain⟨f,d⟩:=p;cases f with |n g=>exact i b g d|_=>rfl
 rw[e n];rw[q];cases f with |n g=>exact rfl|_=>exact rfl)
def uh (h:VH c a l H b->XU c a l H b=r):XU c a l H b=r:=h (ZR qU uC _ _ _ _ λf d q=>by cases f with |n e=>exact q|_=>exact q)
def yu (h:WK c a l H s->bw c a l H s=r):bw c a l H s=r:=h (HW qU uC _ _ _ _ λf b q=>by cases f with |n d=>exact q|_=>exact q)
def hG (h:Xb c l H e->ai c l e H=r):ai c l e H=r:=h<|aH qU _ _ _ λ_ _ q=>q
def qE (h:Wt c a l H s->bw c a l H s=r):bw c a l H s=r:=h (HW (λh=>h) (λh=>h) _ _ _ _ λf b q=>by cases f with |n d=>exact q|_=>exact q)
def II (h:VV c l H e->ai c l e H=r):ai c l e H=r:=h<|aH (λh=>h) _ _ _ λ_ _ q=>q
def Uc (h:Wu c l H e->Zb c l e H=r):Zb c l e H=r:=h<|ZQ (λh=>h) _ _ _ λ_ _ q=>q
end
section
variable{_:Decidable P}
def kj (e:r=some (decide P))(h:P):r=some true:=e.trans<|Xs some<|Yy h
def fw (e:r=some (decide P))(h:¬P):r=some false:=e.trans<|Xs some<|Yt h
def Jk (e:r=some (!decide P))(h:¬P):r=some true:=by rw[e,Yt h];rfl
def Sy (e:r=some (!decide P))(h:P):r=some false:=by rw[e,Yy h];rfl
end
end Mine
end
section
open PySem PySem.W PySem.Calls PyProof.Rows
namespace Mine
abbrev Led:=List<|Addr×Obj
abbrev Yn:=List<|Addr×Addr
noncomputable def S2(s:List Nat):Str:=⟨s.toArray⟩
def qD (h:S2 s=S2 t):s=t:=by have:s.toArray=t.toArray:=Xs Str.cps h;simpa using this
noncomputable abbrev jn(v:List Value)(n:Nat):Obj:={cls:=.type "tuple",data:=.seq v.toArray n}
def own (b:Yn)(a:Addr):Prop:=∃c∈b,a=c.1\/a=c.2
mutual
def bY (d:Yn)(N:Led):V->Value->Prop
 | .n,v=>v=.none
 | .b b,v=>v=.bool b
 | .i i,v=>∃t,v=.int i t
 | .s s,v=>∃t,v=.str (S2 s) t
 | .t l,v=>∃a e n,v=.ref a/\(a,jn e n)∈N/\¬own d a/\XH d N l e
 | .r i,v=>∃c,d[i]?=some c/\v=.ref c.1
def XH (b:Yn)(N:Led):List V->List Value->Prop
 | [],a=>a=[]
 |x::l,a=>∃v r,a=v::r/\bY b N x v/\XH b N l r
end
theorem sS{a N z}:bY a N V.n z=(z=Value.none):=rfl
theorem tQ{a N z b}:bY a N (V.b b) z=(z=Value.bool b):=rfl
theorem r7{a N z i}:bY a N (V.i i) z=∃t,z=Value.int i t:=rfl
theorem qF{a N z s}:bY a N (V.s s) z=∃t,z=Value.str (S2 s) t:=rfl
theorem to{b N z l}:bY b N (V.t l) z=∃a vs n,z=Value.ref a/\(a,jn vs n)∈N/\¬own b a/\XH b N l vs:=rfl
theorem tG{a N z i}:bY a N (V.r i) z=∃c,a[i]?=some c/\z=Value.ref c.1:=rfl
theorem nZ{a N z}:XH a N [] z=(z=[]):=rfl
theorem SN{a N z b l}:XH a N (b::l) z=∃v r,z=v::r/\bY a N b v/\XH a N l r:=rfl
structure a5(cs:Addr->Prop)(ρ:Yn)(N:Led)(Zl:Yn)(N':Led):Prop where
 pre:∃t,Zl=ρ++t
 keep:∀p∈N,¬own ρ p.1->¬cs p.1->p∈N'
 apart:∀p∈N,¬own ρ p.1->¬own Zl p.1
abbrev aO:Addr->Prop:=λ_=>False
def a5.refl (cs)(a)(N):a5 cs a N a N:=⟨⟨[],by simp⟩,λ_ h _ _=>h,λ_ _ h=>h⟩
def a5.trans (x:a5 aO j N a c)(y:a5 cs a c b abo):a5 cs j N b abo:=by
 refine Xq x.pre λt e=>Xq y.pre λi f=>⟨⟨t++i,by rw[f,e,X1]⟩,λp d h g=>?_,λp d h=>?_⟩
 ·exact y.keep p (x.keep p d h id) (x.apart p d h) g
 ·exact y.apart p (x.keep p d h id)<|x.apart p d h
def a5.weak (x:a5 aO c N a N'):a5 cs c N a N':=⟨x.pre,λp b h _=>x.keep p b h id,x.apart⟩
def a5.get (x:a5 cs b N a d){i:Nat}(h:b[i]?=some c):a[i]?=some c:=by
 refine Xq x.pre λt e=>?_;clear x;subst e;rw[Yu]
 ·exact h
 ·exact(Yl.mp h).1
mutual
theorem bY.ext(x:a5 cs p N f j)(i:∀a d n,(a,jn d n)∈N->¬cs a):∀{v:V}{u:Value},bY p N v u->bY f j v u
 | .n,_,h=>h
 | .b _,_,h=>h
 | .i _,_,h=>h
 | .s _,_,h=>h
 | .t l,_,h=>by exact cps λC o=>cD h λa d n e b g m=>o<|⟨a,d,n,e,x.keep _ b g<|i _ _ _ b,x.apart _ b g,XH.ext x i m⟩
 | .r _,_,h=>by exact ag h λc k e=>⟨c,x.get k,e⟩
theorem XH.ext(x:a5 cs j N b d)(c:∀a i n,(a,jn i n)∈N->¬cs a):∀{v:List V}{u:List Value},XH j N v u->XH b d v u
 | [],_,h=>h
 |v::l,_,h=>by exact am h λg r e h1 f=>⟨g,r,e,bY.ext x c h1,XH.ext x c f⟩
end
def bY.XW (x:a5 aO c N a b)(h:bY c N v u):bY a b v u:=bY.ext x (λ_ _ _ _ h=>h) h
def XH.XW (x:a5 aO c N a b)(h:XH c N v u):XH a b v u:=XH.ext x (λ_ _ _ _ h=>h) h
theorem XH.length:∀{l:List V}{a:List Value},XH d N l a->a.length=l.length
 | [],_,h=>by subst h;rfl
 |v::l,_,h=>by refine am h λc r e _ b=>?_;clear h;subst e;simp[XH.length b]
def XH.get:∀{a:List Value},XH g N l a->∀{i:Nat}{v:V},l[i]?=some v->∃u,a[i]?=some u/\bY g N v u:=by
 induction l with
 |nil=>intro _ _ i v e;simp at e
 |cons x l d=>
  intro _ h i v e;refine am h λf r b h1 c=>?_;clear h;subst b;cases i with
  |zero=>simp at e;subst e;exact⟨f,rfl,h1⟩
  |succ i=>simpa using d c<|e
def XH.append:∀{k:List V}{v u:List Value},XH b N l v->XH b N k u->XH b N (l++k) (v++u):=by
 induction l with
 |nil=>intro _ _ _ h a;subst h;exact a
 |cons x l i=>intro _ _ _ h a;refine am h λd r e h1 c=>?_;clear h;subst e;exact⟨d,_,rfl,h1,i c a⟩
def XH.one (h:bY a N v u):XH a N [v] [u]:=⟨u,[],rfl,h,rfl⟩
theorem XH.set:∀{c:List Value},XH d N l c->∀{i:Nat}{v:V}{u:Value},bY d N v u->XH d N (l.set i v) (c.set i u):=by
 induction l with
 |nil=>intro _ h i v u _;subst h;simp[nZ]
 |cons x l f=>
  intro _ h i v u b;refine am h λg r e h1 a=>?_;clear h;subst e;cases i with
  |zero=>exact⟨u,r,rfl,b,a⟩
  |succ i=>exact⟨g,_,rfl,h1,f a b⟩
theorem XH.take:∀(n) {l:List V}{v:List Value},XH c N l v->XH c N (l.take n) (v.take n)
 |0,_,_,_=>by simp[nZ]
 |n+1,[],_,h=>by subst h;simp[nZ]
 |n+1,x::l,_,h=>by refine am h λb r e h1 a=>?_;clear h;subst e;exact⟨b,_,rfl,h1,XH.take n a⟩
theorem XH.drop:∀(n) {l:List V}{v:List Value},XH b N l v->XH b N (l.drop n) (v.drop n)
 |0,_,_,h=>h
 |n+1,[],_,h=>by subst h;simp[nZ]
 |n+1,x::l,_,h=>by refine am h λc r e h1 a=>?_;clear h;subst e;simpa using XH.drop n a
theorem XH.reverse:∀{l:List V}{v:List Value},XH b N l v->XH b N l.reverse v.reverse
 | [],_,h=>by subst h;simp[nZ]
 |x::l,_,h=>by refine am h λc r e h1 a=>?_;clear h;subst e;simp;exact XH.append (XH.reverse a)<|XH.one h1
def XH.dropLast (h:XH a N l v):XH a N l.dropLast v.dropLast:=by refine aa List.dropLast_eq_take<|aa List.dropLast_eq_take<|aa (XH.length h) ?_;exact XH.take _ h
def FN (n:Nat->Str)(b:Yn)(N:Led):List (Nat×V)->List DictEntry->Prop
 | [],a=>a=[]
 |(f,v)::l,a=>∃e r,a=e::r/\(∃t,e.key=.str (n f) t)/\bY b N v e.val/\FN n b N l r
theorem VA{n a N z}:FN n a N [] z=(z=[]):=rfl
theorem UZ{n a N z f v l}:FN n a N ((f,v)::l) z=∃e r,z=e::r/\(∃t,e.key=Value.str (n f) t)/\bY a N v e.val/\FN n a N l r:=rfl
def xi (a:Yn)(N:Led):List (List Nat×V)->List (Str×Value)->Prop
 | [],k=>k=[]
 |(s,v)::l,k=>∃u r,k=(S2 s,u)::r/\bY a N v u/\xi a N l r
theorem EE{a N z}:xi a N [] z=(z=[]):=rfl
theorem Fs{a N z s v l}:xi a N ((s,v)::l) z=∃u r,z=(S2 s,u)::r/\bY a N v u/\xi a N l r:=rfl
def uN (a:Yn)(N:Led):List (Int×V)->List (Int×Value)->Prop
 | [],k=>k=[]
 |(s,v)::l,k=>∃u r,k=(s,u)::r/\bY a N v u/\uN a N l r
theorem Ik{a N z}:uN a N [] z=(z=[]):=rfl
theorem Gg{a N z s v l}:uN a N ((s,v)::l) z=∃u r,z=(s,u)::r/\bY a N v u/\uN a N l r:=rfl
set_option genInjectivity false in
structure UM where
 c:Nat->Addr
 f:Nat->Str
 h:Heap
 o:OsState
 g:Array GenState
set_option genInjectivity false in
structure bi where
 p:Program
 w:World
 K:Frag
 b:Str->Option Value
 d:Str->Option Value
 Z:UM
 f:Nat->Addr
 a:Nat->Option Str
 c:Nat->Option Str
 m:Nat->Option Str
section
variable(P:bi)
def yY (b:Yn)(N:Led)(c:Addr×Addr):AO->Prop
 | .l l=>c.2=c.1/\∃v n,(c.1,listOf v.toArray n)∈N/\XH b N l v
 | .dS l=>c.2=c.1/\∃o a,(c.1,o)∈N/\o.IsDictOf (strKind P.p P.w) a/\xi b N l a
 | .dI l=>c.2=c.1/\∃o a,(c.1,o)∈N/\o.IsDictOf (intKind P.p P.w) a/\uN b N l a
 | .i k f=>(c.1,instObj (P.Z.c k) c.2)∈N/\∃e n,(c.2,dictOf e n)∈N/\FN P.Z.f b N f e/\(∀p∈f,DD k p.1=true)/\(f.map (·.1)).Nodup
 | .ro d=>c.2=c.1/\∃v,P.Z.h.IsList c.1 v/\IntsAre v.toList d
def NP (a:Yn)(N:Led)(H:Hp):Prop:=a.length=H.length/\∀(i:Nat) (c:Addr×Addr) (o:AO),a[i]?=some c->H[i]?=some o->yY P a N c o
def Q8 (a:Yn):Prop:=∀(i j:Nat) (c d:Addr×Addr),a[i]?=some c->a[j]?=some d->i≠j->c.1≠d.1/\c.1≠d.2/\c.2≠d.1/\c.2≠d.2
structure St(Xp:Heap)(L:Addr)(m:Str->Option Value)(ρ:Yn)(N:Led)(H:Hp)(s:Shared):Prop where
 F:Fr Xp L s.heap m
 g:News Xp L s.heap N
 j:(N.map (·.1)).Nodup
 rep:NP P ρ N H
 sep:Q8 ρ
 old:∀b o,P.Z.h.get? b=some o->Xp.get? b=some o
 env:s.os=P.Z.o/\s.gens=P.Z.g
end
section
theorem FN.XW(x:a5 aO k N a b):∀{es:List DictEntry},FN names k N l es->FN names a b l es:=by
 induction l with
 |nil=>intro _ h;exact h
 |cons p l j=>intro _ h;obtain⟨f,v⟩:=p;refine iv h λe r c d i g=>?_;clear h;subst c;exact⟨e,r,rfl,d,i.XW x,j g⟩
theorem xi.XW(x:a5 aO j N a b):∀{es:List<|Str×Value},xi j N l es->xi a b l es:=by
 induction l with
 |nil=>intro _ h;exact h
 |cons p l i=>intro _ h;obtain⟨f,v⟩:=p;refine am h λe r c g d=>?_;clear h;subst c;exact⟨e,r,rfl,g.XW x,i d⟩
theorem uN.XW(x:a5 aO j N a b):∀{es:List<|Int×Value},uN j N l es->uN a b l es:=by
 induction l with
 |nil=>intro _ h;exact h
 |cons p l i=>intro _ h;obtain⟨f,v⟩:=p;refine am h λe r c g d=>?_;clear h;subst c;exact⟨e,r,rfl,g.XW x,i d⟩
theorem yY.XW(x:a5 aO d N a b)(k:∀p∈N,p.1=c.1\/p.1=c.2->p∈b){o:AO}(h:yY P d N c o):yY P a b c o:=by
 cases o with
 |l l=>exact⟨h.1,h.2.imp λ_ h=>h.imp λ_ h=>⟨k _ h.1<|.inl rfl,h.2.XW x⟩⟩
 |dS l=>exact⟨h.1,h.2.imp λ_ h=>h.imp λ_ h=>⟨k _ h.1<|.inl rfl,h.2.1,h.2.2.XW x⟩⟩
 |dI l=>exact⟨h.1,h.2.imp λ_ h=>h.imp λ_ h=>⟨k _ h.1<|.inl rfl,h.2.1,h.2.2.XW x⟩⟩
 |i c f=>exact⟨k _ h.1<|.inl rfl,h.2.imp λ_ h=>h.imp λ_ h=>⟨k _ h.1<|.inr rfl,h.2.1.XW x,h.2.2⟩⟩
 |ro n=>exact h
noncomputable def rep1(d:Addr)(o:Obj)(N:Led):Led:=N.map λp=>if p.1=d then(d,o)else p
def uz (d)(o)(N):(rep1 d o N).map (·.1)=N.map (·.1):=by
 refine aa Y9<|YU λp _=>?_;simp only[Function.comp];split
 ·rename_i h;exact h.symm
 ·rfl
def xH {N:Led}:(∀p∈N,p.1≠d)->rep1 d o N=N:=by
 induction N with
 |nil=>exactλ_=>rfl
 |cons p r i=>intro h;show(if p.1=d then(d,o)else p)::rep1 d o r=_;exact aa (Xu<|h p<|.head _)<|aa (i λq a=>h q<|.tail _ a) rfl
def bz (h:(d,o)∈N):(d,o')∈rep1 d o' N:=Yp.mpr ⟨_,h,by simp⟩
def aX (h:p∈N)(a:p.1≠d):p∈rep1 d o N:=Yp.mpr ⟨_,h,by simp[a]⟩
def lK {N:Led}:(N.map (·.1)).Nodup->(d,o)∈N->Upd d o c N (rep1 d c N):=by
 induction N with
 |nil=>exactλ_ h=>Xw h XY
 |cons p r j=>
  intro b h;rw[af,X9]at b;have f:rep1 d c (p::r)=(if p.1=d then(d,c)else p)::rep1 d c r:=rfl;rcases XE.mp h with rfl|h
  ·have a:∀q∈r,q.1≠d:=λq i e=>b.1<|Yp.mpr ⟨q,i,e⟩
   refine aa f<|aa (Xr rfl)<|aa (xH a) ?_;exact .head a
  ·have g:p.1≠d:=λe=>b.1<|Yp.mpr ⟨_,h,e.symm⟩
   exact aa f<|aa (Xu g)<|.tail g<|j b.2 h
def vt {N:Led}:(N.map (·.1)).Nodup->(d,o)∈N->UpdF d o N (λo'=>rep1 d o' N):=by
 induction N with
 |nil=>exactλ_ h=>Xw h XY
 |cons p r i=>
  intro a h;rw[af,X9]at a;have a:=a;rcases XE.mp h with rfl|h
  ·have b:∀q∈r,q.1≠d:=λq f e=>a.1<|Yp.mpr ⟨q,f,e⟩
   have:(λo'=>rep1 d o'<|(d,o)::r)=λo'=>(d,o')::r:=by funext o';show(if d=d then(d,o')else(d,o))::rep1 d o' r=_;exact aa (Xr rfl)<|aa (xH b) rfl
   refine aa this ?_;exact .head b
  ·have c:p.1≠d:=λe=>a.1<|Yp.mpr ⟨_,h,e.symm⟩
   have:(λo'=>rep1 d o'<|p::r)=λo'=>p::(λo'=>rep1 d o' r) o':=by funext o';show(if p.1=d then(d,o')else p)::rep1 d o' r=_;exact aa (Xu c) rfl
   refine aa this ?_;exact .tail c<|i a.2 h
def fa {N:Led}(c:(N.map (·.1)).Nodup){a:Addr}{o o':Obj}(h:(a,o)∈N)(b:(a,o')∈N):o=o':=by
 induction N with
 |nil=>nomatch h
 |cons p r i=>
  rw[af,X9]at c;rcases XE.mp h with e|h
  ·rcases XE.mp b with d|b
   ·exact(Prod.mk.inj<|e.trans d.symm).2
   ·exact Xw (Yp.mpr ⟨_,b,by exact dG e rfl⟩) c.1
  ·rcases XE.mp b with d|b
   ·exact Xw (Yp.mpr ⟨_,h,by exact dG d rfl⟩) c.1
   ·exact i c.2 h b
def de {i:Nat}(h:a[i]?=some c):own a c.1/\own a c.2:=⟨⟨c,YQ h,.inl rfl⟩,⟨c,YQ h,.inr rfl⟩⟩
def f6 (b:own a d):a5 aO a N a<|rep1 d o' N:=
 ⟨⟨[],by simp⟩,λp f c _=>aX f λe=>c<|e▸b,λ_ _ h=>h⟩
def NP.upd (R:NP P k N H)(S:Q8 k)(f:k[i]?=some c)(l:H[i]?=some t)(n:d=c.1\/d=c.2)
  (hO:yY P k (rep1 d r N) c ao'):NP P k (rep1 d r N)<|H.set i ao':=by
 refine⟨by refine aa Ze ?_;exact R.1,λj m o g b=>?_⟩;by_cases e:i=j
 ·subst e
  rw[f]at g;cases g;rw[aan (Yl.mp l).1]at b;have b:=b;cases b;exact hO
 ·rw[YJ e]at b
  have s:=S i j c m f g e;have a:own k d:=by clear S hO l;rcases n with rfl|rfl;exact(de f).1;exact(de f).2
  refine(R.2 j m o g b).XW (f6 a) λp q h=>aX q λe=>?_;clear R S hO f l g b q a;rcases n with rfl|rfl<;> rcases h with h|h<;> rw[h]at e
  ·exact s.1 e.symm
  ·exact s.2.1 e.symm
  ·exact s.2.2.1 e.symm
  ·exact s.2.2.2 e.symm
def St.aa9 (X:St P p L m w N H s){a:Addr}(h:own w a):(∃o,(a,o)∈N)\/∃o,P.Z.h.get? a=some o:=by
 refine cps λC u=>ag h λc t e=>Xq (aam t) λi h1=>?_;have d:c.2=c.1->(∃o,(c.1,o)∈N)\/(∃o,P.Z.h.get? c.1=some o)->(∃o,(a,o)∈N)\/∃o,P.Z.h.get? a=some o:=λq k=>(show a=c.1 from e.elim id λe=>e.trans q)▸k;have O:=X.rep.2 i c _ h1<|XQ<|X.rep.1▸(Yl.mp h1).1;revert O;refine UE (H[i]'(X.rep.1▸(Yl.mp h1).1)) λr O=>?_;refine u ?_;cases r with
 |l l=>refine bP O λq v n b _=>?_;exact d q<|.inl ⟨_,b⟩
 |dS l=>refine bP O λq v n b _=>?_;exact d q<|.inl ⟨_,b⟩
 |dI l=>refine bP O λq v n b _=>?_;exact d q<|.inl ⟨_,b⟩
 |i k l=>refine bP O λb x n f _=>?_;exact .inl<|e.elim (λe=>⟨_,e▸b⟩) λe=>⟨_,e▸f⟩
 |ro l=>refine ib O λq v z _=>?_;refine ag z λo b _=>?_;exact d q<|.inr ⟨o,b⟩
def St.ownAt (X:St P b L m c N H s){a:Addr}(h:own c a):∃o,s.heap.get? a=some o:=
 (X.aa9 h).elim (λz=>Xq z λo h=>⟨o,(X.g _ h).1⟩) λz=>Xq z λo h=>⟨o,X.F.keep _ _<|X.old _ _ h⟩
def rv (h:own (d++[(x,y)]) a):own d a\/a=x\/a=y:=by exact ag h λc b e=>(YE.mp b).elim (λb=>.inl ⟨c,b,e⟩) λb=>.inr (by rw[List.mem_singleton.mp b]at e;exact e)
def Np (h:(l++[x])[k]?=some e):l[k]?=some e\/(k=l.length/\e=x):=by
 by_cases b:k<l.length
 ·rw[Yu b]at h;exact .inl h
 ·have a:=(Yl.mp h).1
  rw[Xx,List.length_singleton]at a;obtain rfl:k=l.length:=Zu (OE a)<|wD b;rw[List.getElem?_concat_length]at h;exact .inr ⟨rfl,(Zd h).symm⟩
def Q8.app (S:Q8 g)(n:¬own g x)(p:¬own g y):Q8<|g++[(x,y)]:=λi j c d a f h=>by
 have q:∀{b},own g b->b≠x/\b≠y:=λk=>⟨λe=>n<|e▸k,λe=>p<|e▸k⟩;rcases Np a with a|⟨l,rfl⟩<;> rcases Np f with f|⟨m,rfl⟩
 ·exact S i j c d a f h
 ·have o:=de a
  exact⟨(q o.1).1,(q o.1).2,(q o.2).1,(q o.2).2⟩
 ·have o:=de f
  exact⟨(q o.1).1.symm,(q o.2).1.symm,(q o.1).2.symm,(q o.2).2.symm⟩
 ·exact Xw (l.trans m.symm) h
def NP.app (R:NP P b N H)(h:∀(i:Nat) (d) (o),b[i]?=some d->yY P b N d o->yY P (b++[c]) f d o)(hO:yY P (b++[c]) f c g):NP P (b++[c]) f<|H++[g]:=
 ⟨by refine aa Xx<|aa Xx<|aa R.1 ?_;rfl,λi d o a e=>by
  rcases Np a with a|⟨j,rfl⟩
  ·rw[Yu<|R.1▸(Yl.mp a).1]at e
   exact h i d o a<|R.2 i d o a e
  ·rw[j,R.1,List.getElem?_concat_length]at e
   exact Zd e▸hO⟩
def a5.app (c:∀p∈N,p∈N')(h:∀p∈N,p.1≠x/\p.1≠y):a5 aO f N (f++[(x,y)]) N':=
 ⟨⟨_,rfl⟩,λp a _ _=>c p a,λp a d b=>(rv b).elim d λe=>e.elim (h p a).1 (h p a).2⟩
def sD {N:Led}(h:a∉N.map (·.1)):∀p∈N,p.1≠a:=λp b e=>h<|e▸Y7 b
def St.YV (X:St P c L m b N H s)(d:s.heap.objs.size<=a):a5 aO b N b ((a,o)::N)/\¬own b a:=
 ⟨⟨⟨[],by simp⟩,λ_ f _ _=>.tail _ f,λ_ _ h=>h⟩,λh=>by obtain⟨o,e⟩:=X.ownAt h;exact Xw (YA e)<|not_lt.mpr d⟩
def St.aa3 (X:St P b L m f N H s)(c:s.heap.objs.size<=a):a∉N.map (·.1):=λh=>by refine ag (Yp.mp h) λp d e=>?_;clear h;subst e;exact Xw (YA (X.g p d).1)<|not_lt.mpr c
def St.push (X:St P h L m p N H s)(b:s.heap.objs.size<=a)(e:Fr h L s'.heap m)(f:News h L s'.heap<|(a,o)::N)(d:s'.os=s.os/\s'.gens=s.gens:=by trivial):
  St P h L m p ((a,o)::N) H s':=
 ⟨e,f,by rw[af,X9];exact⟨X.aa3 b,X.j⟩,⟨X.rep.1,λi c o k l=>(X.rep.2 i c o k l).XW (X.YV b).1 λ_ n _=>.tail _ n⟩,X.sep,X.old,⟨d.1.trans X.env.1,d.2.trans X.env.2⟩⟩
def St.same (X:St P h L m d N H s)(b:Fr h L s'.heap m)(c:News h L s'.heap N)(a:s'.os=s.os/\s'.gens=s.gens:=by trivial):St P h L m d N H s':=⟨b,c,X.j,X.rep,X.sep,X.old,⟨a.1.trans X.env.1,a.2.trans X.env.2⟩⟩
def St.toks (X:St P h L m a N H s)(t):St P h L m a N H {s with toks:=t}:=⟨X.F,X.g,X.j,X.rep,X.sep,X.old,X.env⟩
def St.aba (X:St P b L m d N H s)(f:¬own d a)(h:a∉N.map (·.1))(l:Fr b L s'.heap m)(n:News b L s'.heap<|(a,o)::N)
  (hO:yY P (d++[(a,a)]) ((a,o)::N) (a,a) ao) (k:s'.os=s.os/\s'.gens=s.gens:=by trivial):St P b L m (d++[(a,a)]) ((a,o)::N) (H++[ao]) s'/\a5 aO d N (d++[(a,a)]) ((a,o)::N):=by
 have E:a5 aO d N (d++[(a,a)])<|(a,o)::N:=a5.app (λ_ e=>.tail _ e) λp e=>⟨sD h p e,sD h p e⟩;exact⟨⟨l,n,by rw[af,X9];exact⟨h,X.j⟩,X.rep.app (λi c r _ q=>q.XW E λ_ e _=>.tail _ e) hO,X.sep.app f f,X.old,⟨k.1.trans X.env.1,k.2.trans X.env.2⟩⟩,E⟩
def St.alloc (X:St P h L m b N H s)(c:s.heap.objs.size<=a)(d:Fr h L s'.heap m)(e:News h L s'.heap<|(a,o)::N)
  (hO:yY P (b++[(a,a)]) ((a,o)::N) (a,a) ao) (f:s'.os=s.os/\s'.gens=s.gens:=by trivial):St P h L m (b++[(a,a)]) ((a,o)::N) (H++[ao]) s'/\a5 aO b N (b++[(a,a)]) ((a,o)::N):=
 X.aba (X.YV (o:=o) c).2 (X.aa3 c) d e hO f
def St.at (X:St P d L m a N H s){i:Nat}(h:H[i]?=some ao):∃c,a[i]?=some c/\yY P a N c ao:=by have b:i<a.length:=X.rep.1▸(Yl.mp h).1;exact⟨_,XQ b,X.rep.2 i _ _ (XQ b) h⟩
def St.upd (X:St P h L m a N H s)(b:a[i]?=some c)(n:H[i]?=some q)(l:d=c.1\/d=c.2)
  (f:Fr h L s'.heap p) (k:News h L s'.heap<|rep1 d o N) (hO:yY P a (rep1 d o N) c ao') (e:s'.os=s.os/\s'.gens=s.gens:=by trivial):
  St P h L p a (rep1 d o N) (H.set i ao') s'/\a5 aO a N a (rep1 d o N):=
 ⟨⟨f,k,by rw[uz];exact X.j,X.rep.upd X.sep b n l hO,X.sep,X.old,⟨e.1.trans X.env.1,e.2.trans X.env.2⟩⟩,f6<|by clear f k X hO e n;rcases l with rfl|rfl;exact(de b).1;exact(de b).2⟩
end
end Mine
end
section
open PySem PySem.W PySem.Calls PyProof.Rows PyProof.Rows.LCg
namespace Mine
set_option genInjectivity false in
structure NC where
 vars:List Str
 names:List<|Str×NameKind
structure m7(P:bi)(h:Heap):Prop where
 g:h.Ns mainGlobals P.b
 b:h.Ns builtinsNs P.d
 nolimit:h.NoLimit
 blt:∀x:Str,x≠"__name__"->P.d x=bootBuiltins x
 K:P.K.In h
 sys:∃o,h.get? sysModules=some o
def m7.keeps (B:m7 P h)(k:∀b o,h.get? b=some o->h'.get? b=some o):m7 P h':=
 ⟨B.g.keeps k,B.b.keeps k,B.nolimit.keeps k,B.blt,B.K.keeps k,Xq B.sys λo e=>⟨o,k _ _ e⟩⟩
def ym (e:Env)(L:Addr)(m:Str->Option Value)(b:Yn)(N:Led)(x:Str)(u:Value):Prop:=
 (e.kindOf x=some .local/\e.locals=L/\m x=some u)\/
 (e.kindOf x=some .local/\∃o a,(e.locals,o)∈N/\¬own b e.locals/\NsObj o a/\a x=some u)\/
 ((e.kindOf x=some .cell\/e.kindOf x=some .free)/\∃c o,e.cells.lookup x=some c/\(c,o)∈N/\¬own b c/\o.data=.cell (some u))
noncomputable def a8(x:Str):Bool:=!(x=="__debug__")&&!(x=="__classdict__")
def rj (e:Env)(L:Addr)(m:Str->Option Value)(a:List Str)(b:Yn)(N:Led)(l:Lo):Prop:=
 ∀(i:Nat) (v:V),l[i]?=some (some v)->∃x u,a[i]?=some x/\bY b N v u/\ym e L m b N x u
def ym.ext {a:Env}{L:Addr}{m:Str->Option Value}{g b:Yn}{N d:Led}(e:a5 aO g N b d){x:Str}{u:Value}(h:ym a L m g N x u):ym a L m b d x u:=
 h.imp_right (Or.imp (λh=>⟨h.1,h.2.imp λo h=>h.imp λf h=>⟨e.keep _ h.1 h.2.1 id,e.apart _ h.1 h.2.1,h.2.2⟩⟩) λh=>⟨h.1,h.2.imp λc h=>h.imp λo h=>⟨h.1,e.keep _ h.2.1 h.2.2.1 id,e.apart _ h.2.1 h.2.2.1,h.2.2.2⟩⟩)
def rj.ext {b:Env}{L:Addr}{m:Str->Option Value}{a:List Str}{f c:Yn}{N d:Led}{l:Lo}(e:a5 aO f N c d)(h:rj b L m a f N l):rj b L m a c d l:=λi v k=>by exact am (h i v k) λx u h1 g j=>⟨x,u,h1,g.XW e,j.ext e⟩
def jK (P:bi)(i:Cl)(A:Around)(h:Heap)(L:Addr)(m:Str->Option Value):Prop:=
 ∀⦃k:Nat⦄ ⦃g:List V⦄ ⦃H e:Hp⦄ ⦃v:V⦄ ⦃d:Yn⦄ ⦃N:Led⦄ ⦃s:Shared⦄ ⦃us:List Value⦄,i k g H=some (.v v,e)->St P h L m d N H s->XH d N g us->
  ∀(b:Around) (R:Result->Shared->Prop),(b=A\/∃C r,b=A.under (.builtin "type.__call__" ⟨.ref C::r,[]⟩))->
   (∀u f a c,St P h L m a c e f->a5 aO d N a c->bY a c v u->R (.ok<|.ret u) f)->
   codeAny (model P.p P.w) b (.call (.ref<|P.f k) ⟨us,[]⟩) R s
structure mH(P:bi):Prop where
 dict:∀c,c<3->hasDictIn P.K (P.Z.c c)=true/\plainOver P.K (P.Z.c c)=true/\findIn P.K (.ref<|P.Z.c c) "__setattr__"=some (some<|.builtin "object.__setattr__")
 fld:∀c f,DD c f=true->plainGet P.K (P.Z.c c) (P.Z.f f)=true/\(∃attr,findIn P.K (.ref<|P.Z.c c) (P.Z.f f)=some attr/\noGet P.K attr=true)/\takerIn P.K (P.Z.c c) (P.Z.f f)=some none
 a:∀f g,f<13->g<13->P.Z.f f=P.Z.f g->f=g
 cls:∀c x,P.c c=some x->c<3/\makesIn P.K (P.Z.c c)=true/\keepIn P.K (.ref<|P.Z.c c)=true/\findIn P.K (.ref<|P.Z.c c) "__init__"=some (some<|.ref<|P.f<|1000+c)/\isFn P.K (.ref<|P.f<|1000+c)=true/\P.b x=some (.ref<|P.Z.c c)
 b:∀x:Str,x∈(["len","ord","max","sum","sorted","range","reversed"]:List Str)->P.b x=none
 fn:∀k x,P.a k=some x->keepIn P.K (.ref<|P.f k)=true/\P.b x=some (.ref<|P.f k)
 m:∀k x,P.m k=some x->keepIn P.K (.ref<|P.f k)=true/\plainGet P.K (P.Z.c 2) x=true/\findIn P.K (.ref<|P.Z.c 2) x=some (some<|.ref<|P.f k)/\isFn P.K (.ref<|P.f k)=true/\∀f,DD 2 f=true->P.Z.f f≠x
structure EX(P:bi)(cl:Cl)(A:Around)(env:Env)(Xp:Heap)(L:Addr)(m:Str->Option Value)(Γ:NC):Prop where
 g:env.scope.kind=.function
 b:env.scope.names=Γ.names
 c:env.globals=mainGlobals
 e:env.builtins=builtinsNs
 base:m7 P Xp
 h:A.handled=none
 d:A.units+200<cLine
 calls:jK P cl A Xp L m
 a:mH P
section
variable(P:bi)(cl:Cl)(A:Around)(env:Env)(Xp:Heap)(L:Addr)(m:Str->Option Value)(Γ:NC)
def ar (e:Expr)(g:ME):Prop:=∀⦃c:Yn⦄ ⦃N:Led⦄ ⦃H:Hp⦄ ⦃s:Shared⦄ ⦃l:Lo⦄ ⦃v:V⦄ ⦃d:Hp⦄,St P Xp L m c N H s->rj env L m Γ.vars c N l->ai cl l g H=some (v,d)->
 ∀⦃Q:Value->Shared->Prop⦄ ⦃E:Value->Shared->Prop⦄,(∀u f a b,St P Xp L m a b d f->a5 aO c N a b->bY a b v u->Q u f)->wpAny (model P.p P.w) A (eval e env) Q E s
def iL (e:Expr)(h:ME):Prop:=∀⦃c:Yn⦄ ⦃N:Led⦄ ⦃H:Hp⦄ ⦃s:Shared⦄ ⦃l:Lo⦄ ⦃b:Bool⦄ ⦃d:Hp⦄,St P Xp L m c N H s->rj env L m Γ.vars c N l->ai cl l h H=some (.b b,d)->
 ∀⦃Q:Bool->Shared->Prop⦄ ⦃E:Value->Shared->Prop⦄,(∀g a f,St P Xp L m a f d g->a5 aO c N a f->Q b g)->wpAny (model P.p P.w) A (isTrue e env<|eval e env) Q E s
noncomputable def au(e:Expr):Bool:=Nat.ble e.ctorIdx 21||Nat.ble 23 e.ctorIdx
def ap (h:au e=true)(r:List Expr)(env:Env):starEach (e::r) env=(false,eval e env)::starEach r env:=by cases e<;>first|rfl| exact a0 h
def t8 (g:List Expr)(c:List ME):Prop:=∀⦃d:Yn⦄ ⦃N:Led⦄ ⦃H:Hp⦄ ⦃s:Shared⦄ ⦃l:Lo⦄ ⦃v:List V⦄ ⦃e:Hp⦄,St P Xp L m d N H s->rj env L m Γ.vars d N l->Zb cl l c H=some (v,e)->
 ∀⦃p:Pos⦄ ⦃Q:List Value->Shared->Prop⦄ ⦃E:Value->Shared->Prop⦄,(∀u f a b,St P Xp L m a b e f->a5 aO d N a b->XH a b v u->Q u f)->wpAny (model P.p P.w) A (spliced<|backTo p<|starEach g env) Q E s
end
section
variable{P:bi}{cl:Cl}{A:Around}{env:Env}{Xp:Heap}{L:Addr}{m:Str->Option Value}{Γ:NC}(X:EX P cl A env Xp L m Γ)
include X
theorem t4:t8 P cl A env Xp L m Γ [] []:=λa N H s l v b S Lo h p Q E k=>by cases h;exact args_nil<|k [] s a N S (.refl _ _ _) rfl
theorem gf{e:Expr}{b:List Expr}{g:ME}{a:List ME}(q:au e=true)(p:ar P cl A env Xp L m Γ e g)(c:t8 P cl A env Xp L m Γ b a):t8 P cl A env Xp L m Γ (e::b)<|g::a:=
 λR N H s l O B S Lo h t Q E k=>cps λC r=>aF h λv D h1 h=>aF h λx F o h=>by
 cases h;exact r<|Y0 (p S Lo h1 λu J y G i d j=>c i (Lo.ext d) o λw M z I S2 f n=>k _ _ _ _ S2 (d.trans f) ⟨u,w,rfl,j.XW f,n⟩)<|ap q b env
theorem Fo(i:Int)(k:Nat)(p:Pos):ar P cl A env Xp L m Γ (.Constant (.int i) k p)<|.i i:=λa N H s l v b S Lo h Q E c=>by cases h;exact aaj<|c _ _ a N (S.toks _) (.refl _ _ _) ⟨_,rfl⟩
theorem xV(x:Str)(t:List Nat)(a:x=S2 t)(k:Nat)(p:Pos):ar P cl A env Xp L m Γ (.Constant (.str x) k p)<|.s t:=λb N H s l v d S Lo h Q E c=>by cases h;exact Constant_str<|c _ _ b N (S.toks _) (.refl _ _ _) ⟨_,aa a rfl⟩
theorem CW(b:Bool)(k:Nat)(p:Pos):ar P cl A env Xp L m Γ (.Constant (.bool b) k p)<|.b b:=λa N H s l v d S Lo h Q E c=>by cases h;exact XZ (a:=Value.bool b)<|c _ _ a N S (.refl _ _ _) rfl
theorem Hb(i:Int)(k:Nat)(a p:Pos):ar P cl A env Xp L m Γ (.UnaryOp .USub (.Constant (.int i) k a) p)<|.i<|-i:=λb N H s l v d S Lo h Q E c=>by cases h;exact UnaryOp_<|aaj<|neg_int<|c _ _ b N ((S.toks _).toks _) (.refl _ _ _) ⟨_,rfl⟩
omit X in
theorem Lk(h:gv l i=some v):l[i]?=some (some v):=by
 unfold gv at h;cases e:l[i]? with
 |none=>rw[e]at h;exact cE h nt
 |some x=>rw[e]at h;exact Xs some h
theorem Gf{x:Str}{p:Pos}{u:Value}{i:Yn}{N:Led}{H:Hp}{s:Shared}(S:St P Xp L m i N H s)(b:a8 x=true)(h:ym env L m i N x u){Q:Value->Shared->Prop}{E:Value->Shared->Prop}(z:Q u s):wpAny (model P.p P.w) A (eval (.Name x p) env) Q E s:=by
 simp only[a8,Xv,Y1]at b;have b:=b;refine wpAny_Name (cps λC d=>?_) b.1;rcases h with⟨k,rfl,a⟩|⟨k,o,g,a,e,f,c⟩|⟨k|k,j,o,a,e,f,c⟩
 ·exact d<|Z9 X.g k S.F.ns a z
 ·exact d<|Z9 X.g k (f.ns (S.g _ a).1) c z
 ·exact d<|wpAny_loadName_cell X.g k a ⟨o,(S.g _ e).1,c⟩ z
 ·exact d<|wpAny_loadName_free X.g k a ⟨o,(S.g _ e).1,c⟩ z b.2
theorem xm(x:Str)(p:Pos)(i:Nat)(d:Γ.vars[i]?=some x)(f:a8 x=true):ar P cl A env Xp L m Γ (.Name x p)<|.v i:=λj N H s l v n S Lo h Q E c=>tL h λg e=>by clear h;subst e;refine cps λC k=>am (Lo i _<|Lk g) λo u h1 a b=>k ?_;cases d.symm.trans h1;exact Gf X S f b<|c u s j N S (.refl _ _ _) a
theorem wb{x:Str}{p:Pos}{v:Value}{d:Yn}{N:Led}{H:Hp}{s:Shared}{Q E}(S:St P Xp L m d N H s)(c:Γ.names.lookup x=some .globalImplicit)(a:a8 x=true)(b:P.b x=some v)(h:Q v s):
  wpAny (model P.p P.w) A (eval (.Name x p) env) Q E s:=by
 simp only[a8,Xv,Y1]at a;exact Name_function_global X.g (by show env.scope.names.lookup x=_;refine aa X.b ?_;exact c) (loadGlobal_global (X.c▸X.base.g.keeps S.F.keep) b h) a.1
theorem t9{x:Str}{p:Pos}{v:Value}{f:Yn}{N:Led}{H:Hp}{s:Shared}{Q E}(S:St P Xp L m f N H s)(e:Γ.names.lookup x=some .globalImplicit)(a:a8 x=true)(b:P.b x=none)(d:bootBuiltins x=some v)(c:x≠"__name__")
  (h:Q v s):wpAny (model P.p P.w) A (eval (.Name x p) env) Q E s:=by
 simp only[a8,Xv,Y1]at a;exact Name_function_global X.g (by show env.scope.names.lookup x=_;refine aa X.b ?_;exact e) (loadGlobal_builtin (X.c▸X.base.g.keeps S.F.keep) b (X.e▸X.base.b.keeps S.F.keep) ((X.base.blt x c).trans d) h) a.1
end
def Ax (s t):(S2 s==S2 t)=decide (s=t):=by
 by_cases h:s=t
 ·subst h;simp
 ·exact aa (Yt h)<|Yk.mpr λe=>h<|qD e
def lY (s t):S2 s++S2 t=S2 (s++t):=by show Str.append (S2 s) (S2 t)=_;simp[Str.append,S2]
theorem cG(s):(S2 s).length=s.length:=rfl
def fV (h:n<=1000000):n<=sizeLine:=bC 0x200000110481e848110065b tq h
noncomputable def wF:Op->Operator
 | .a=>.Add| .s=>.Sub| .mul=>.Mult| .m=>.Mod| .fdiv _=>.FloorDiv
noncomputable def Ao:Cp->CmpOp
 | .e=>.Eq| .n=>.NotEq| .l=>.Lt| .le=>.LtE| .g=>.Gt| .ge=>.GtE| .i=>.In| .Zg _=>.NotIn
def jz (c:News b L h N)(d:(a,jn v n)∈N):IsTup h a v.toArray:=⟨_,(c _ d).1,rfl,n,rfl⟩
def fK (c:News b L h N){v:List Value}(d:(a,W.listOf v.toArray n)∈N):h.IsList a v.toArray:=⟨_,(c _ d).1,rfl,n,rfl⟩
def sj (h:nW n i=some k):sm i=true/\seqIndex? i n=some k/\k<n:=by
 refine cx h λc h=>⟨c,?_⟩;unfold seqIndex?;by_cases a:0<=i
 ·rw[Xr a]at h
  refine cx h λb h=>?_;cases h;have h1:¬i<0:=YI.mpr ‹_›;simp only[h1];exact aa (Xr<|by simp only[Xv,X5];exact⟨a,(Int.toNat_lt a).mp b⟩)<|⟨rfl,b⟩
 ·rw[Xu a]at h
  refine cx h λb h=>?_;cases h;have h1:i<0:=Int.not_le.mp a;simp only[h1,if_true];have z:=Int.add_lt_add_right h1 n;rw[Int.zero_add]at z;exact aa (Xr<|by simp only[Xv,X5];exact⟨b,z⟩)<|⟨rfl,(Int.toNat_lt b).mpr z⟩
section
variable{ρ:Yn}{N:Led}
def sR (h1:-4611686018427387904<i)(a:i<4611686018427387904):i.natAbs.log2<62:=by
 by_cases h:i.natAbs=0
 ·rw[h];decide
 ·rw[Nat.log2_lt h];clear h;cases i with |ofNat n=>exact Yi.mp a|negSucc n=>exact Yi.mp<|Int.lt_of_neg_lt_neg h1
def Iu (h:sm b=true):Builtin.divisionGoesByPylong a b=false:=by
 have:=gJ.mp h;unfold Builtin.divisionGoesByPylong;have c:(if b==0 then 0 else b.natAbs.log2/30+1)<=300:=by
  split
  ·exact Yb rfl
  ·have:=sR (i:=b) (this.1)<|this.2
   exact aa8<|XJ (Nat.div_le_self _ _)<|YR<|YC this<|Yb rfl
 have:¬((if b==0 then 0 else b.natAbs.log2/30+1)>300):=not_lt.mpr ‹_›;simp only[Yt this,Bool.false_and]
def Ix (S:St P I L m ρ N H s)(h:fQ op x y=some z)(p:bY ρ N x u)(q:bY ρ N y v)
  (k:∀u U B,St P I L m ρ B H U->a5 aO ρ N ρ B->bY ρ B z u->Q u U):wpAny (model P.p P.w) A (binaryOp (wF op) u v) Q E s:=by
 have r:∀{i:Int},z=.i i->∀t T,Q (.int i t) {s with toks:=T}:=λe t T=>k _ _ N (S.toks _) (.refl _ _ _) (by rw[e];exact⟨_,rfl⟩);cases op with
 |a=>
  cases x with
  |i a=>exact bH h λb e f=>by clear h;subst e;refine Xq p λt c=>?_;subst c;refine Xq q λw c=>?_;subst c;exact add_int<|r (aA f).symm _ _
  |s a=>exact n7 h λb e h=>cx h λd f=>by subst e;refine Xq p λt c=>?_;subst c;refine Xq q λw c=>?_;subst c;cases f;simp only[Xv,e6]at d;refine add_str (λw T=>?_) (by rw[cG,cG,sizeLine_eq];exact QQ d);rw[lY];exact k _ _ N (S.toks _) (.refl _ _ _) ⟨_,rfl⟩
  |t a=>
   exact xD h λb e h=>cx h λd f=>by
    subst e;refine cps λC R=>cD p λX J n1 c o F l=>?_;subst c;refine cD q λY M n2 c D G n=>?_;subst c;refine R ?_;cases f;have g:=l.length;have j:=n.length;refine add_tuples S.F S.g (jz S.g o) (jz S.g D) (λe=>?_) (λ_ e=>?_) (λ_ _ h' W B=>?_)<|fV<|oN 0xf42408840c97d0e1898196c610d3620069b tq g j d
    ·subst e
     clear j h l o F d R r;clear h;obtain rfl:=Z0 g.symm;exact k _ _ N S (.refl _ _ _) ⟨Y,M,n2,rfl,D,G,n⟩
    ·subst e
     clear g h n G d R r;clear h;obtain rfl:=Z0 j.symm;exact k _ _ N S (.refl _ _ _) (by rw[Ys];exact⟨X,J,n1,rfl,o,F,l⟩)
    ·have O:=S.YV (a:=s.heap.objs.size) (o:=jn (J++M) 0)<|XC _
     exact k _ _ _ (S.push (XC _) W B) O.1 ⟨_,_,_,rfl,.head _,O.2,(l.XW O.1).append<|n.XW O.1⟩
  |_=>exact cE h nt
 |s=>exact bH h λa g h=>bH h λb j f=>by clear h;clear h;subst g j;refine Xq p λt c=>?_;subst c;refine Xq q λw c=>?_;subst c;exact sub_int<|r (aA f).symm _ _
 |mul=>
  exact bH h λa g h=>bH h λb j h=>cx h λd f=>by
   subst g j;refine Xq p λt c=>?_;subst c;refine Xq q λw c=>?_;subst c;simp only[Xv,gJ]at d;refine PyProof.Rows.mul_int (r (aA f).symm _ _)<|IntMulOk.of_left ?_;unfold Builtin.Int.intBits;have:=sR d.1.1 d.1.2;split
   ·decide
   ·exact aa8<|YR<|YC this<|Yb rfl
 |m=>exact bH h λa g h=>bH h λb j h=>cx h λd f=>by subst g j;refine Xq p λt c=>?_;subst c;refine Xq q λw c=>?_;subst c;simp only[Xv,X5]at d;refine PyProof.Rows.mod_int' (Zs d.1) ?_;rw[Int.fmod_eq_emod_of_nonneg _<|YK d.1];exact r (aA f).symm _ _
 |fdiv=>exact bH h λa g h=>bH h λb j h=>cx h λd f=>by subst g j;refine Xq p λt c=>?_;subst c;refine Xq q λw c=>?_;subst c;simp only[Xv,X5]at d;refine floordiv_int (Zs d.1) ?_<|.inl<|Iu d.2;rw[Int.fdiv_eq_ediv_of_nonneg _<|YK d.1];exact r (aA f).symm _ _
mutual
def Nq:V->Dat
 | .i i=>.int i
 | .s s=>.str<|S2 s
 | .t l=>.tuple<|aax l
 | .b b=>.bool b
 |_=>.none
def aax:List V->List Dat
 | []=>[]
 |v::l=>Nq v::aax l
end
mutual
theorem zu:∀{v:V}{n:Nat}{u:Value},bx n v=true->bY ρ N v u->DatIn N u (Nq v)
 | .i i,_,_,_,h=>Xq h λt e=>e▸.int i t
 | .s x,_,_,_,h=>Xq h λt e=>e▸.str _ t
 | .t l,n,_,p,h=>by
  cases n with
  |zero=>exact(Yw p).elim
  |succ n=>exact cD h λa d k e c _ b=>e▸.tuple c (ZX (l:=l) (n:=n) p b)
 | .n,_,_,p,_=>(Yw p).elim
 | .b _,_,_,p,_=>(Yw p).elim
 | .r _,_,_,p,_=>(Yw p).elim
theorem ZX:∀{l:List V}{n:Nat}{a:List Value},X8 n l=true->XH ρ N l a->DatAll N a (aax l)
 | [],_,_,_,e=>(show _=[]from e)▸.nil
 |v::l,n,_,p,h=>am h λu r e h1 b=>e▸.cons (zu (v:=v) (n:=n) ((Xv _ _).mp p).1 h1) (ZX (l:=l) (n:=n) ((Xv _ _).mp p).2 b)
end
def HL (h:x.all (·<128)=true):PyData.strOk (S2 x)=true:=by rw[YB]at h;show x.toArray.all (λc=>decide (c<0x110000))=true;rw[<- Array.all_toList,YB];intro a b;have:=h a<|b;simp only[X5]at this⊢;exact bC 0x440002209900e0067b tq this
mutual
theorem zi:∀{v:V}{n:Nat},bx n v=true->kqdOk n (Nq v)=true
 | .i i,n,_=>by cases n<;>rfl
 | .s x,n,p=>by have:=HL ((Xv _ _).mp p).2;cases n<;> exact this
 | .t l,n+1,p=>YB.mpr<|ZY (l:=l) (n:=n) p
 | .t l,0,p=>(Yw p).elim
 | .n,_,p=>(Yw p).elim
 | .b _,_,p=>(Yw p).elim
 | .r _,_,p=>(Yw p).elim
theorem ZY:∀{l:List V}{n:Nat},X8 n l=true->∀d∈aax l,kqdOk n d=true
 | [],_,_,_,h=>nomatch h
 |v::l,n,p,d,h=>(XE.mp h).elim (λe=>e▸zi (v:=v) ((Xv _ _).mp p).1) λh=>ZY (l:=l) ((Xv _ _).mp p).2 d h
end
def w9 (h:¬p):(false=true↔p):=⟨λx=>(Yw x).elim,λx=>(h x).elim⟩
mutual
theorem B8:∀{v u:V}{b:Bool},Vs v u=some b->(b=true↔Nq v=Nq u)
 | .i i,u,b,h=>by cases u<;>first|(obtain rfl:=aA h;exact decide_eq_true_iff.trans ⟨λe=>e▸rfl,Dat.int.inj⟩)|(obtain rfl:=aA h;exact w9 Dat.noConfusion)| exact cE h nt
 | .s x,u,b,h=>by cases u<;>first|(obtain rfl:=aA h;exact decide_eq_true_iff.trans ⟨λe=>e▸rfl,λe=>qD<|Dat.str.inj e⟩)|(obtain rfl:=aA h;exact w9 Dat.noConfusion)| exact cE h nt
 | .t l,u,b,h=>xD h λk e h=>by subst e;exact(aad (v:=l) h).trans ⟨λe=>Xs Dat.tuple e,Dat.tuple.inj⟩
 | .n,u,b,h=>cE h nt
 | .b _,u,b,h=>cE h nt
 | .r _,u,b,h=>cE h nt
theorem aad:∀{v u:List V}{b:Bool},aac v u=some b->(b=true↔aax v=aax u)
 | [],[],b,h=>by obtain rfl:=aA h;exact⟨λ_=>rfl,λ_=>rfl⟩
 | [],_::_,b,h=>by obtain rfl:=aA h;exact w9 λe=>by cases e
 |_::_,[],b,h=>by obtain rfl:=aA h;exact w9 λe=>by cases e
 |v::l,u::k,b,h=>iC h λx h1 h=>iC h λy a h=>by obtain rfl:=aA h;rw[Xv,B8 (v:=v) h1,aad (v:=l) a];exact⟨λe=>by show Nq v::_=Nq u::_;rw[e.1,e.2],Z6⟩
end
def l9 (a:n<=60)(h:kqdOk n d=true):SeqAt.shaped (kqdP d)=true:=by unfold SeqAt.shaped;rw[(kqd_lay n d h).1,Bool.true_and];exact Yy<|XJ (kqd_lay n d h).2<|bC 0x101c09078e0065b tq a
def MN (h1:kqdOk n d=true)(a:kqdOk n e=true)(h:b=true↔d=e):PyData.eqv (kqdP d) (kqdP e)=b:=by
 have q:=kqd_eqv n d e n h1 a;cases b with
 |true=>exact q.mpr<|h.mp rfl
 |false=>exact Bool.eq_false_iff.mpr λx=>eI (h.mpr<|q.mp x) nt
def Ba (c:n<=60)(S:St P g L m ρ N H s)(f:A.units+64<cLine)(h1:kqdOk n d=true)(a:kqdOk n e=true)(j:DatIn N u d)(k:DatIn N v e)(h:b=true↔d=e):
  (Q (.bool b) s->wpAny (model P.p P.w) A (compareOp .Eq u v) Q E s)/\(Q (.bool<|!b) s->wpAny (model P.p P.w) A (compareOp .NotEq u v) Q E s):=by
 refine Xq (kqd_in S.g n j h1) λl r=>Xq (kqd_in S.g n k a) λo i=>?_;have e:=MN h1 a h;exact⟨λq=>eq_dataH r i (l9 c h1) (l9 c a) f<|by refine aa e ?_;exact q,λq=>ne_dataH r i (l9 c h1) (l9 c a) f<|by refine aa e ?_;exact q⟩
def qn (c:m7 P h)(S:St P h L m ρ N H s)(d:(a,o)∈N):(a==sysModules)=false:=by refine Xq c.sys λf b=>Yk.mpr λe=>?_;have:=(S.g _ d).2.2;rw[show((a,o):Addr×Obj).1=sysModules from e,b]at this;exact cE this nt
def uN.get:∀{b:List<|Int×Value},uN ρ N l b->∀{k:Int},(∀v,eH k l=some v->∃u,valueAt b k=some u/\bY ρ N v u)/\(eH k l=none->valueAt b k=none):=by
 induction l with
 |nil=>intro b h k;simp only[Ik,Gg]at h;subst h;exact⟨λv c=>by simp[ia,h9]at c,λ_=>rfl⟩
 |cons p l i=>
  intro b h k;obtain⟨a,v⟩:=p;refine am h λu r f c g=>?_;subst f;have:=i g (k:=k);unfold valueAt at this⊢;by_cases e:a=k
  ·subst e
   simp only[ia,h9,if_true,find?_cons,decide_true,Option.map_some];exact⟨λj d=>by cases d;exact⟨u,rfl,c⟩,λh=>cE h nt⟩
  ·simp only[ia,h9,Xu e,find?_cons,Yt e]
   exact this
def xi.get:∀{b:List<|Str×Value},xi ρ N l b->∀{k:List Nat},(∀v,qI k l=some v->∃u,valueAt b (S2 k)=some u/\bY ρ N v u)/\(qI k l=none->valueAt b (S2 k)=none):=by
 induction l with
 |nil=>intro b h k;simp only[EE,Fs]at h;subst h;exact⟨λv c=>by simp[we,rq]at c,λ_=>rfl⟩
 |cons p l j=>
  intro b h k;obtain⟨a,v⟩:=p;refine am h λu r g c i=>?_;subst g;have:=j i (k:=k);unfold valueAt at this⊢;by_cases e:a=k
  ·subst e
   simp only[we,rq,if_true,find?_cons,decide_true,Option.map_some];exact⟨λm d=>by cases d;exact⟨u,rfl,c⟩,λh=>cE h nt⟩
  ·have f:¬(S2 a=S2 k):=λq=>e<|qD q
   simp only[we,rq,Xu e,find?_cons,Yt f];exact this
def uE (i:uN ρ N k g):∀{d:List<|Int×Value}{b:Bool},uN ρ N l d->wj l k=some b->KeqHits A s g d b:=by
 induction l with
 |nil=>intro d b h e;cases h;cases e;exact .nil
 |cons p r B=>
  intro d b h e;obtain⟨a,v⟩:=p;refine am h λu q f z o=>?_;subst f;refine bH e λx j e=>?_;obtain rfl:v=_:=j;refine Xq z λt f=>?_;subst f;change (match eH a k with |some w=>eP w λy=>(wj r k).map (decide (x=y)&&·)|none=>some false)=some b at e;cases ho:eH a k with
  |none=>rw[ho]at e;cases e;exact .miss<|(i.get (k:=a)).2 ho
  |some w=>rw[ho]at e;refine bH e λy m e=>?_;subst m;obtain⟨D,h1,C,rfl⟩:=(i.get (k:=a)).1 _ ho;refine ag (Yv.mp e) λc n f=>?_;clear e;clear e;clear e;subst f;exact .hit h1 (SeqAt.EqAt.int_int (A:=A) (s:=s) x t y C)<|B o n
theorem uN.length{l:List<|Int×V}:∀{k:List<|Int×Value},uN ρ N l k->k.length=l.length:=by
 induction l with
 |nil=>exactλh=>Xs List.length h
 |cons p l i=>exactλh=>am h λu r e _ a=>aa e<|Xs (·+1)<|i a
theorem xi.length{l:List<|List Nat×V}:∀{k:List<|Str×Value},xi ρ N l k->k.length=l.length:=by
 induction l with
 |nil=>exactλh=>Xs List.length h
 |cons p l i=>exactλh=>am h λu r e _ a=>aa e<|Xs (·+1)<|i a
def Hk (hB:m7 P J)(S:St P J L m ρ N H s)(F:A.units+200<cLine)(h:Ek H x y=some b)(W:bY ρ N x u)(X:bY ρ N y v):
  (Q (.bool b) s->wpAny (model P.p P.w) A (compareOp .Eq u v) Q E s)/\(Q (.bool<|!b) s->wpAny (model P.p P.w) A (compareOp .NotEq u v) Q E s):=by
 refine cps λC G=>?_;cases x with
 |i i=>exact bH h λj e f=>by subst e;obtain rfl:=aA f;refine Xq W λt p=>?_;subst p;refine Xq X λt' p=>?_;subst p;exact G ⟨eq_int,PyProof.Rows.ne_int⟩
 |s i=>exact n7 h λj e f=>by subst e;obtain rfl:=aA f;refine Xq W λt p=>?_;subst p;refine Xq X λt' p=>?_;subst p;exact G ⟨λq=>eq_str<|by rw[Ax];exact q,λq=>PyProof.Rows.ne_str<|by show Q (.bool<|!(S2 i==S2 j)) s;rw[Ax];exact q⟩
 |t l=>exact xD h λk e h=>cx h λg f=>by subst e;have g:=(Xv _ _).mp g;exact G<|Ba (n:=4) (by decide) S (aK 0x880e03261321c06067b tq F) (zi (v:=.t l) g.1) (zi (v:=.t k) g.2) (zu (v:=.t l) (n:=4) g.1 W) (zu (v:=.t k) (n:=4) g.2 X)<|B8 (v:=.t l) (u:=.t k) f
 |r a=>
  exact fP h λc e h=>iC h λo hl f=>by
   subst e;refine ag W λca ha p=>?_;subst p;refine ag X λcc hc p=>?_;subst p;cases o with
   |l l=>exact tT f λk hk h=>cx h λg f=>by refine bP (S.rep.2 _ _ _ ha hl) λ_ vs n U I=>bP (S.rep.2 _ _ _ hc hk) λ_ vs' n' z w=>?_;have g:=(Xv _ _).mp g;exact G<|Ba (n:=4) (by decide) S (aK 0x880e03261321c06067b tq F) (d:=.list<|aax l) (e:=.list<|aax k) (YB.mpr<|ZY g.1) (YB.mpr<|ZY g.2) (.list U<|ZX g.1 I) (.list z<|ZX g.2 w)<|(aad f).trans ⟨λe=>Xs Dat.list e,λe=>Dat.list.inj e⟩
   |dI l=>
    exact PY f λk hk f=>by
     refine iu (S.rep.2 _ _ _ ha hl) λ_ o M U hd I=>iu (S.rep.2 _ _ _ hc hk) λ_ o' B z hd' w=>?_;have O:=Heap.dictOf_iff.mpr ⟨o,(S.g _ U).1,hd⟩;have D:=Heap.dictOf_iff.mpr ⟨o',(S.g _ z).1,hd'⟩;have R:=I.length;have T:=w.length;have Y:=qn hB S U;have z2:=qn hB S z;by_cases d:l.length=k.length
     ·rw[Xr d]at f
      have f:=f;have hq:(M.length==B.length&&b)=b:=by rw[R,T,d,ZP,Bool.true_and]
      exact G ⟨λq=>keq_eq Y z2 O D (JO F) (λ_=>uE w I f)<|by refine aa hq ?_;exact q,λq=>keq_ne Y z2 O D (JO F) (λ_=>uE w I f)<|by refine aa hq ?_;exact q⟩
     ·rw[Xu d]at f
      obtain rfl:=aA f;have hf:(M.length==B.length&&true)=false:=by refine aa R<|aa T<|aa (Yk.mpr d) ?_;rfl
      exact G ⟨λq=>keq_eq (r:=true) Y z2 O D (JO F) (λe=>Xw e<|by refine aa R<|aa T ?_;exact d)<|by refine aa hf ?_;exact q,
       λq=>keq_ne (r:=true) Y z2 O D (JO F) (λe=>Xw e<|by refine aa R<|aa T ?_;exact d)<|by refine aa hf ?_;exact q⟩
   |_=>exact cE f nt
 |_=>exact cE h nt
def Cr:∀{d:List Value}{b:Bool},t7 x l=some b->XH ρ N l d->∃y:List Str,StrsAre d y/\y.any (·==S2 x)=b:=by
 induction l with
 |nil=>intro d b h f;cases f;cases h;exact⟨[],.nil,rfl⟩
 |cons v l k=>intro d b h f;refine am f λu r a h1 g=>?_;subst a;refine n7 h λt e h=>?_;subst e;refine ag (Yv.mp h) λc i a=>?_;clear h;clear h;subst a;refine ag (k i g) λy j e=>Xq h1 λm a=>?_;clear h1;subst a;refine⟨S2 t::y,.cons _ _ j,?_⟩;rw[any_cons,e,Ax];congr 1;exact decide_eq_decide.mpr ⟨λe=>e.symm,λe=>e.symm⟩
def Jj:(!(Builtin.Str.occurrences (S2 t) (S2 [c]) 0 (S2 t).length 1).isEmpty)=t.contains c:=by rw[show S2 [c]=⟨#[c]⟩from rfl,StrLaws.found_one];simp only[S2,List.contains_eq_mem];exact decide_eq_decide.mpr Iff.rfl
def BZ (p:m7 P D)(S:St P D L m ρ N H s){x y:V}{b:Bool}{u v:Value}(h:fX H x y=some b)(T:bY ρ N x u)(J:bY ρ N y v){Q:Value->Shared->Prop}:
  ((∀R,Q (.bool b) {s with toks:=R})->wpAny (model P.p P.w) A (compareOp .In u v) Q E s)/\((∀t,y≠.s t)->(∀R,Q (.bool<|!b) {s with toks:=R})->wpAny (model P.p P.w) A (compareOp .NotIn u v) Q E s):=by
 refine cps λC F=>?_;cases x with
 |s x=>
  refine Xq T λG f=>?_;subst f;cases y with
  |t l=>refine cD J λa W n f d _ B=>?_;subst f;exact ag (Cr (l:=l) h B) λX h1 j=>F ⟨λq=>in_tuple_strs (jz S.g d) (h1)<|by refine aa j ?_;exact q s.toks,λ_ q=>notin_tuple_strs (jz S.g d) (h1)<|by refine aa j ?_;exact q s.toks⟩
  |s t=>cases x with |nil=>exact cO h|cons c x=>cases x with |cons=>exact cO h|nil=>clear S p;obtain rfl:=aA h;refine Xq J λY f=>?_;subst f;exact F ⟨λq=>PyProof.Rows.in_str<|by refine aa Jj ?_;exact q s.toks,λq=>Xw rfl (q t)⟩
  |r a=>
   refine ag J λU I f=>?_;subst f;refine iC h λo B h=>?_;have O:=S.rep.2 _ _ _ I B;cases o with
   |l l=>exact cx h λ_ M=>by exact bP O λ_ W n d g=>ag (Cr M g) λX h1 j=>F ⟨λq=>in_list_strs (fK S.g d) h1<|by refine aa j ?_;exact q s.toks,λ_ q=>notin_list_strs (fK S.g d) h1<|by refine aa j ?_;exact q s.toks⟩
   |dS l=>
    clear I;obtain rfl:=aA h;refine iu O λ_ o k d z g=>?_;have w:(valueAt k<|S2 x).isSome=(qI x l).isSome:=by
     cases e:qI x l with
     |none=>refine aa ((g.get (k:=x)).2 e) ?_;rfl
     |some v=>refine ag ((g.get (k:=x)).1 _ e) λu h1 _=>?_;refine aa h1 ?_;rfl
    exact F ⟨λq=>kda_in S.g d z (qn p S d) (strKind_is P.p P.w (S2 x) G) _ w<|q _,λ_ q=>kdg_notin S.g d z (qn p S d) (strKind_is P.p P.w (S2 x) G) _ w<|q _⟩
   |_=>exact cE h nt
  |_=>exact cE h nt
 |i i=>
  exact fP h λa e h=>PY h λl B M=>by
   subst e;refine Xq T λG f=>?_;subst f;refine ag J λU I f=>?_;subst f;clear h;clear h;obtain rfl:=aA M;refine iu (S.rep.2 _ _ _ I B) λ_ o k d z g=>?_;have w:(valueAt k i).isSome=(eH i l).isSome:=by
    cases e:eH i l with
    |none=>refine aa ((g.get (k:=i)).2 e) ?_;rfl
    |some v=>refine ag ((g.get (k:=i)).1 _ e) λu h1 _=>?_;refine aa h1 ?_;rfl
   exact F ⟨λq=>kda_in S.g d z (qn p S d) (intKind_is P.p P.w i G) _ w<|q _,λ_ q=>kdg_notin S.g d z (qn p S d) (intKind_is P.p P.w i G) _ w<|q _⟩
 |_=>exact cE h nt
theorem xU:∀(x y:List Nat),mR x y=!(decide (y<x))
 | [],y=>by cases y<;> simp[pH,sJ,pF]
 |a::x,[]=>by simp[pH,sJ,pF]
 |a::x,b::y=>by
  simp only[pH,sJ,pF,List.cons_lt_cons_iff];by_cases h1:a<b
  ·have:¬b<a:=aK 0x82c00867b tq h1
   simp[h1,this,(XB ‹_›:¬b=a)]
  ·by_cases h:b<a
   ·simp[h1,h]
   ·have:b=a:=Zu (wD h1)<|wD h
    simp[h1,h,this,xU x y]
def Cn {x y:V}{u v:Value}{f:Int->Int->Bool}{b:Bool}(h:(eP x λa=>eP y λb=>some<|f a b)=some b)(g:bY ρ N x u)(k:bY ρ N y v){Cx:Prop}(l:∀i j t c,u=.int i t->v=.int j c->b=f i j->Cx):Cx:=
 bH h λi e h=>bH h λj d h=>by
 subst e d;obtain⟨t,rfl⟩:=g;obtain⟨c,rfl⟩:=k;exact l i j t c rfl rfl ((aA h).symm)
def s9 (r:m7 P w)(S:St P w L m ρ N H s)(C:A.units+200<cLine){op:Cp}{x y:V}{b:Bool}{u v:Value}(h:aY H op x y=some b)(k:bY ρ N x u)(f:bY ρ N y v){Q:Value->Shared->Prop}
  (q:∀G,Q (.bool b) {s with toks:=G}):wpAny (model P.p P.w) A (compareOp (Ao op) u v) Q E s:=by
 cases op with
 |e=>exact(Hk r S C h k f).1<|q s.toks
 |n=>refine ag (Yv.mp h) λc B d=>?_;subst d;exact(Hk r S C B k f).2<|q s.toks
 |i=>exact(BZ r S h k f).1 q
 |Zg=>
  have D:(∀t,y≠.s t)/\(fX H x y).map (!·)=some b:=by
   clear f;cases y with
   |s t=>exact cE h nt
   |_=>exact⟨λt e=>V.noConfusion e,h⟩
  refine ag (Yv.mp D.2) λc B d=>?_;subst d;exact(BZ r S B k f).2 D.1 q
 |l=>refine Cn (f:=λa b=>decide (a<b)) h k f λi j t z d o p=>?_;subst d;subst o;subst p;exact lt_int<|q s.toks
 |g=>refine Cn (f:=λa b=>decide (b<a)) h k f λi j t z d o p=>?_;subst d;subst o;subst p;exact gt_int<|q s.toks
 |ge=>refine Cn (f:=λa b=>decide (b<=a)) h k f λi j t z d o p=>?_;subst d;subst o;subst p;exact ge_int<|q s.toks
 |le=>
  cases x with
  |i a=>refine Cn (x:=.i a) (f:=λa b=>decide (a<=b)) h k f λi j t z d o p=>?_;subst d;subst o;subst p;exact le_int<|q s.toks
  |s i=>
   exact n7 h λj e F=>by
    subst e;clear S r C;obtain rfl:=aA F;refine Xq k λt d=>?_;clear k;subst d;refine Xq f λz d=>?_;clear f;subst d;refine PySem.P.le_str ?_;have:(!(decide ((S2 j).cps.toList<(S2 i).cps.toList)))=mR i j:=by rw[xU];exact Xs (!·)<|decide_eq_decide.mpr Iff.rfl
    exact aa this<|q s.toks
  |_=>exact cE h nt
end
noncomputable def tR(e:Expr):Bool:=Nat.ble e.ctorIdx 25
def sP (h:tR slice=true)(o i:Value):subscripted slice false o i=operate [o,i] (PySem.getItem o i):=by cases slice<;>first|rfl| exact a0 h
def Ck {l:List V}{i:Int}{v:V}(h:(nW l.length i).bind (l[·]?)=some v){Cx:Prop}(f:∀k,sm i=true->seqIndex? i l.length=some k->k<l.length->l[k]?=some v->Cx):Cx:=by exact ag (Option.bind_eq_some_iff.mp h) λk d e=>bU (sj d) λa b c=>f k a b c e
def uI (h:seqIndex? i n=some k):(0<=i/\i.toNat=k)\/(i<0/\-(n:Int)<=i/\(i+n).toNat=k):=by
 unfold seqIndex? at h;by_cases a:i<0
 ·simp only[a]at h
  refine cx h λb h=>?_;simp only[Xv,X5]at b;exact .inr ⟨a,Int.le_of_sub_nonneg<|by rw[Int.sub_neg];exact b.1,aA h⟩
 ·simp only[a]at h
  exact .inl ⟨YI.mp a,cx h λb h=>aA h⟩
section
variable{P:bi}{A:Around}{Xp:Heap}{L:Addr}{m:Str->Option Value}{ρ:Yn}{N:Led}{H:Hp}{s:Shared}{E:Value->Shared->Prop}
def t5 (S:St P Xp L m ρ N H s){x y z:V}{u v:Value}(h:Mine.getItem H x y=some z)(G:bY ρ N x u)(F:bY ρ N y v):
  (∃T id,s.TypeIs u T/\typeLookup (.type T) "__getitem__"=pure (some<|.builtin id))/\
  ∀{Q:Value->Shared->Prop},(∀r tk,bY ρ N z r->Q r {s with toks:=tk})->wpAny (model P.p P.w) A (PySem.getItem u v) Q E s:=by
 refine cps λC U=>?_;cases x with
 |t l=>exact bH h λi e f=>by subst e;refine Ck f λk h1 M h3 Y=>cD G λa vs n b g _ D=>?_;clear G;subst b;refine Xq F λt b=>?_;subst b;have q:=gJ.mp h1;exact ag (D.get Y) λr B j=>U ⟨⟨"tuple",_,⟨_,(S.g _ g).1,rfl⟩,PySem.F.slot_tuple_getitem.lookup⟩,λw=>(PyProof.Rows.getItem_tuple (jz S.g g) (Yg (by decide)<|YK q.1) (ZS q.2<|by decide) (by refine aa Y4<|aa D.length ?_;exact M) (by simpa using B)<|w r s.toks j)⟩
 |s x=>
  exact bH h λi e f=>by
   subst e;refine ag (Yv.mp f) λc W b=>?_;clear f;subst b;refine ag (Option.bind_eq_some_iff.mp W) λk hk j=>bU (sj hk) λh1 M h3=>?_;refine Xq G λt b=>?_;clear G;subst b;refine Xq F λX b=>?_;clear F;subst b;refine U ⟨⟨"str",_,typeIs_str s _ t,PySem.F.slot_str_getitem.lookup⟩,λw=>PyProof.Rows.getItem_str (c:=c) ?_ ?_<|w _ _ ⟨_,rfl⟩⟩
   ·simp only[Bool.or_eq_false_iff,ab7];exact⟨YI.mpr<|Yg (by decide)<|YK (gJ.mp h1).1,Int.not_le.mpr<|ZS (gJ.mp h1).2<|by decide⟩
   ·rw[cG,M];simpa [S2]using j
 |r a=>
  refine ag G λc W b=>?_;clear G;subst b;cases y with
  |i i=>
   refine Xq F λX b=>?_;clear F;subst b;refine iC h λo D f=>?_;have O:=S.rep.2 _ _ _ W D;clear D;cases o with
   |l l=>
    refine Ck f λk h1 M h3 Y=>?_;refine bP O λ_ vs n g j=>ag (j.get Y) λr B J=>?_;have I:=fK S.g g;refine U ⟨⟨"list",_,I.typeIs,slot_list_getitem.lookup⟩,λw=>?_⟩;rcases uI M with⟨p,d⟩|⟨p,d,p3⟩
    ·exact wpAny_getItem_list I p (ZS (gJ.mp h1).2<|by decide) (by refine aa d ?_;simpa using B)<|w r s.toks J
    ·have e:=j.length
     exact wpAny_getItem_list_neg I p (by simp[e];exact d) (Yg (by decide)<|YK (gJ.mp h1).1) (by simp[e,p3];simpa using B)<|w r s.toks J
   |dI l=>exact iu O λ_ o kvs g R j=>ag ((j.get (k:=i)).1 _ f) λr B J=>U ⟨⟨"dict",_,(Heap.dictOf_iff.mpr ⟨o,(S.g _ g).1,R⟩).typeIs,slot_dict_getitem.lookup⟩,λw=>kdt_getItem S.g g R (intKind_is P.p P.w i X) B<|w r _ J⟩
   |_=>exact cE f nt
  |s x=>refine Xq F λX b=>?_;clear F;subst b;refine RX h λl D f=>iu (S.rep.2 _ _ _ W D) λ_ o kvs g R j=>?_;obtain⟨r,B,J⟩:=(j.get (k:=x)).1 _ f;exact U ⟨⟨"dict",_,(Heap.dictOf_iff.mpr ⟨o,(S.g _ g).1,R⟩).typeIs,slot_dict_getitem.lookup⟩,λw=>kdt_getItem S.g g R (strKind_is P.p P.w (S2 x) X) B<|w r _ J⟩
  |_=>exact cE h nt
 |_=>exact cE h nt
end
section
variable{P:bi}{cl:Cl}{A:Around}{env:Env}{Xp:Heap}{L:Addr}{m:Str->Option Value}{Γ:NC}(X:EX P cl A env Xp L m Γ)
include X
theorem Gp(q:ar P cl A env Xp L m Γ a u)(r:ar P cl A env Xp L m Γ b w):ar P cl A env Xp L m Γ (.BinOp a (wF op) b pos)<|.o op u w:=
 λY N H s l v C S Lo h Q E c=>aF h λx D h1 h=>aF h λy F p h=>tL h λt e=>by
 clear h;clear h;clear h;subst e;exact wpAny_BinOp<|q S Lo h1 λT M z G i d k=>r i (Lo.ext d) p λU O B I S2 f n=>Ix S2 t (k.XW f) n λW R J j g o=>c _ _ _ _ j ((d.trans f).trans g) o
theorem Ha(o:ar P cl A env Xp L m Γ a t)(p:ar P cl A env Xp L m Γ b u)(q:behindInMarks (Ao op) b=false):ar P cl A env Xp L m Γ (.Compare a [Ao op] [b] pos)<|.q op t u:=
 λU N H s l v D S Lo h Q E c=>aF h λx F h1 h=>aF h λy G n h=>Ql h λz r k e=>by
 clear h;clear h;clear h;subst e k;exact wpAny_Compare1 (o S Lo h1 λR M B I g d i=>p g (Lo.ext d) n λT O C J S2 f j=>s9 X.base S2 X.d r (i.XW f) j λw=>c _ _ _ _ (S2.toks w) (d.trans f) rfl) q
theorem GH(o:ar P cl A env Xp L m Γ a t)(p:ar P cl A env Xp L m Γ b u)(q:behindInMarks (Ao op) b=false):iL P cl A env Xp L m Γ (.Compare a [Ao op] [b] pos)<|.q op t u:=
 λU N H s l v D S Lo h Q E c=>aF h λx F h1 h=>aF h λy G n h=>Ql h λz r k e=>by
 clear h;clear h;clear h;subst e;cases k;exact wpAny_isTrue_Compare1 (o S Lo h1 λR M B I g d i=>p g (Lo.ext d) n λT O C J S2 f j=>s9 X.base S2 X.d r (i.XW f) j λw=>wpAny_truthy_bool<|c _ _ _ (S2.toks w)<|d.trans f) q
omit X in
theorem I4(f:ar P cl A env Xp L m Γ e me)(g:∀w,isTrue e env w=(do let v<-w;standAt e.pos;holding [v] (truthy v))):iL P cl A env Xp L m Γ e me:=
 λo N H s l v j S Lo h Q E c=>isTrue_plain (f S Lo h λu n i k b a d=>by obtain rfl:u=_:=d;exact wpAny_truthy_bool<|c _ _ _ b a)<|g _
theorem HA(i:ar P cl A env Xp L m Γ a j):ar P cl A env Xp L m Γ (.UnaryOp .Not a pos)<|.N j:=
 λr N H s l v n S Lo h Q E c=>aF h λx o h1 h=>qW h λb e h=>by
 subst e;cases h;refine UnaryOp_<|i S Lo h1 λu q k p f d g=>?_;obtain rfl:u=_:=g;exact not_of<|wpAny_truthy_bool<|c _ _ _ _ f d rfl
theorem E6(g:iL P cl A env Xp L m Γ a i):iL P cl A env Xp L m Γ (.UnaryOp .Not a pos)<|.N i:=
 λq N H s l v k S Lo h Q E c=>aF h λx n h1 h=>qW h λb e h=>by
 subst e;cases h;exact isTrue_not<|g S Lo h1 λp j o f d=>c _ _ _ f d
theorem Gw{t a b:Expr}{q n o:ME}{p:Pos}(z:iL P cl A env Xp L m Γ t q)(w:ar P cl A env Xp L m Γ a n)(y:ar P cl A env Xp L m Γ b o):ar P cl A env Xp L m Γ (.IfExp t a b p)<|.e q n o:=
 λJ N H s l v D S Lo h Q E c=>aF h λx F h1 h=>qW h λt e k=>by
 subst e;refine IfExp_<|z S Lo h1 λI C G j d=>?_;clear h1;cases t with
 |true=>exact w j (Lo.ext d) k λu B i r S2 f g=>c _ _ _ _ S2 (d.trans f) g
 |false=>exact y j (Lo.ext d) k λu B i r S2 f g=>c _ _ _ _ S2 (d.trans f) g
theorem DB{a i:Expr}{f g:ME}{p:Pos}(u:ar P cl A env Xp L m Γ a f)(w:ar P cl A env Xp L m Γ i g)(B:tR i=true):ar P cl A env Xp L m Γ (.Subscript a i p)<|.t f g:=
 λρ N H s l v O S Lo h Q E c=>aF h λx R h1 h=>aF h λy U q h=>tL h λF e=>by
 clear h;clear h;clear h;subst e;refine Subscript_<|u S Lo h1 λu1 s1 J W j b n=>w j (Lo.ext b) q λu2 s2 M Y S2 d o=>cps λC G=>?_;obtain⟨⟨T,id,t,z⟩,k⟩:=t5 (E:=E) S2 F (n.XW d) o;exact G<|tail_any t z (k λr I D=>c _ _ _ _ (S2.toks I) (b.trans d) D)<|sP B _ _
inductive rm (R:Expr->ME->Prop):List Expr->List ME->Prop
 |nil:rm R [] []
 |cons {e:Expr}{me:ME}{es:List Expr}{mes:List ME}:R e me->rm R es mes->rm R (e::es) (me::mes)
omit X in
theorem Cz{l:Lo}{j:ME}{c:List ME}{H f:Hp}{v:V}{C:Prop}(h:Za cl l (j::c) H=some (v,f))(k:∀b d,ai cl l j H=some (.b b,d)->
  (c=[]/\v=.b b/\d=f)\/(c≠[]/\((b=true/\Za cl l c d=some (v,f))\/(b=false/\v=.b false/\d=f)))->C):C:=
 aF h λx d h1 h=>qW h λb e h=>by
 subst e;refine k b d h1 ?_;clear k;cases c with
 |nil=>exact aR h λg i=>.inl ⟨rfl,g.symm,i⟩
 |cons a r=>clear h1;cases b with
  |true=>exact .inr ⟨(λe=>nomatch e),.inl ⟨rfl,h⟩⟩
  |false=>exact aR h λg i=>.inr ⟨(λe=>nomatch e),.inr ⟨rfl,g.symm,i⟩⟩
omit X in
theorem Hs{l:Lo}{j:ME}{c:List ME}{H f:Hp}{v:V}{C:Prop}(h:ZT cl l (j::c) H=some (v,f))(k:∀b d,ai cl l j H=some (.b b,d)->
  (c=[]/\v=.b b/\d=f)\/(c≠[]/\((b=false/\ZT cl l c d=some (v,f))\/(b=true/\v=.b true/\d=f)))->C):C:=
 aF h λx d h1 h=>qW h λb e h=>by
 subst e;refine k b d h1 ?_;clear k;cases c with
 |nil=>exact aR h λg i=>.inl ⟨rfl,g.symm,i⟩
 |cons a r=>clear h1;cases b with
  |false=>exact .inr ⟨(λe=>nomatch e),.inl ⟨rfl,h⟩⟩
  |true=>exact aR h λg i=>.inr ⟨(λe=>nomatch e),.inr ⟨rfl,g.symm,i⟩⟩
omit X in
theorem rm.nil_of(h:rm R e []):e=[]:=by cases h;rfl
theorem Hm{n:List Expr}{a:List ME}(v:rm (iL P cl A env Xp L m Γ) n a):∀⦃f:Yn⦄ ⦃N:Led⦄ ⦃H:Hp⦄ ⦃s:Shared⦄ ⦃l:Lo⦄ ⦃b:Bool⦄ ⦃i:Hp⦄,St P Xp L m f N H s->rj env L m Γ.vars f N l->Za cl l a H=some (.b b,i)->
  ∀⦃Q:Bool->Shared->Prop⦄ ⦃E:Value->Shared->Prop⦄,(∀r d j,St P Xp L m d j i r->a5 aO f N d j->Q b r)->wpAny (model P.p P.w) A (allTrue .And n env) Q E s:=by
 induction v with
 |nil=>exactλf N H s l b i S Lo h=>cE h nt
 | @cons e C n a w p t=>
  refineλf N H s l b i S Lo h Q E c=>Cz h λB y h1 o=>XD<|w S Lo h1 λr d j k g=>?_
  rcases o with⟨rfl,q,rfl⟩|⟨_,⟨rfl,o⟩|⟨rfl,q,rfl⟩⟩
  ·cases q
   clear Lo t;obtain rfl:=p.nil_of;cases b<;> exact XZ<|c _ _ _ k g
  ·exact t k (Lo.ext g) o λD x z S2 u=>c _ _ _ S2<|g.trans u
  ·cases q
   exact XZ<|c _ _ _ k g
theorem Ko{n:List Expr}{a:List ME}(v:rm (iL P cl A env Xp L m Γ) n a):∀⦃f:Yn⦄ ⦃N:Led⦄ ⦃H:Hp⦄ ⦃s:Shared⦄ ⦃l:Lo⦄ ⦃b:Bool⦄ ⦃i:Hp⦄,St P Xp L m f N H s->rj env L m Γ.vars f N l->ZT cl l a H=some (.b b,i)->
  ∀⦃Q:Bool->Shared->Prop⦄ ⦃E:Value->Shared->Prop⦄,(∀r d j,St P Xp L m d j i r->a5 aO f N d j->Q b r)->wpAny (model P.p P.w) A (allTrue .Or n env) Q E s:=by
 induction v with
 |nil=>exactλf N H s l b i S Lo h=>cE h nt
 | @cons e C n a w p t=>
  refineλf N H s l b i S Lo h Q E c=>Hs h λB y h1 o=>XD<|w S Lo h1 λr d j k g=>?_
  rcases o with⟨rfl,q,rfl⟩|⟨_,⟨rfl,o⟩|⟨rfl,q,rfl⟩⟩
  ·cases q
   clear Lo t;obtain rfl:=p.nil_of;cases b<;> exact XZ<|c _ _ _ k g
  ·exact t k (Lo.ext g) o λD x z S2 u=>c _ _ _ S2<|g.trans u
  ·cases q
   exact XZ<|c _ _ _ k g
end
section
variable{P:bi}{cl:Cl}{A:Around}{env:Env}{Xp:Heap}{L:Addr}{m:Str->Option Value}{Γ:NC}(X:EX P cl A env Xp L m Γ)
include X
theorem CS(t:rm (ar P cl A env Xp L m Γ) i a):ar P cl A env Xp L m Γ (.BoolOp .And i pos)<|.a a:=by
 intro x N H s l v p S Lo h;replace h:Za cl l a H=some (v,p):=h;induction t generalizing x N H s with
 |nil=>exact cE h nt
 | @cons e G i a j f n=>
  refineλQ E c=>Cz h λF B h1 b=>?_
  cases f with
  |nil=>
   clear n;rcases b with⟨_,rfl,rfl⟩|⟨q,_⟩
   ·exact BoolOp_one<|j S Lo h1 c
   ·exact Xw rfl q
  |cons w k=>
   refine BoolOp_and<|j S Lo h1 λu I y C g d r=>?_;obtain rfl:u=_:=r;refine wpAny_truthy_bool ?_;rcases b with⟨q,_⟩|⟨_,⟨rfl,b⟩|⟨rfl,rfl,rfl⟩⟩
   ·exact UC q nt
   ·exact n g (Lo.ext d) b λu J z D S2 o=>c _ _ _ _ S2<|d.trans o
   ·exact c _ _ _ _ g d rfl
theorem ED(t:rm (ar P cl A env Xp L m Γ) i a):ar P cl A env Xp L m Γ (.BoolOp .Or i pos)<|.or a:=by
 intro x N H s l v p S Lo h;replace h:ZT cl l a H=some (v,p):=h;induction t generalizing x N H s with
 |nil=>exact cE h nt
 | @cons e G i a j f n=>
  refineλQ E c=>Hs h λF B h1 b=>?_
  cases f with
  |nil=>
   clear n;rcases b with⟨_,rfl,rfl⟩|⟨q,_⟩
   ·exact BoolOp_one<|j S Lo h1 c
   ·exact Xw rfl q
  |cons w k=>
   refine BoolOp_or<|j S Lo h1 λu I y C g d r=>?_;obtain rfl:u=_:=r;refine wpAny_truthy_bool ?_;rcases b with⟨q,_⟩|⟨_,⟨rfl,b⟩|⟨rfl,rfl,rfl⟩⟩
   ·exact UC q nt
   ·exact n g (Lo.ext d) b λu J z D S2 o=>c _ _ _ _ S2<|d.trans o
   ·exact c _ _ _ _ g d rfl
theorem DP(d:rm (iL P cl A env Xp L m Γ) e a):iL P cl A env Xp L m Γ (.BoolOp .And e pos)<|.a a:=
 λg N H s l b f S Lo h Q E c=>wpAny_isTrue_BoolOp<|Hm X d S Lo h c
theorem EB(d:rm (iL P cl A env Xp L m Γ) e a):iL P cl A env Xp L m Γ (.BoolOp .Or e pos)<|.or a:=
 λg N H s l b f S Lo h Q E c=>wpAny_isTrue_BoolOp<|Ko X d S Lo h c
omit X in
theorem bY.handed(h:bY c N v u):handedIn u=true:=by
 cases v with
 |n=>simp[sS]at h;subst h;rfl
 |b b=>simp[tQ]at h;subst h;rfl
 |i i=>simp[r7]at h;refine Xq h λ_ e=>?_;subst e;rfl
 |s i=>simp[qF]at h;refine Xq h λ_ e=>?_;subst e;rfl
 |t l=>simp only[qF,to,tG]at h;refine nJ h λ_ _ _ e _=>?_;subst e;rfl
 |r a=>simp only[sS,tQ,r7,qF,to,tG]at h;refine ag h λ_ _ e=>?_;clear h;subst e;rfl
omit X in
theorem Fq:t6 f a=some v->∃p∈a,p.1=f:=by
 induction a with
 |nil=>intro h;simp[jO,ir]at h
 |cons b a i=>
  intro h;obtain⟨g,y⟩:=b;by_cases e:g=f
  ·exact⟨_,.head _,e⟩
  ·simp only[jO,ir,Xu e]at h
   exact ag (i h) λp c e=>⟨p,.tail _ c,e⟩
omit X in
theorem FN.get:∀{d:List DictEntry},FN names F N c d->∀{f:Nat}{v:V},t6 f c=some v->(∀p∈c,names p.1=names f->p.1=f)->∃u,getL (names f) d=some (some u)/\bY F N v u:=by
 induction c with
 |nil=>intro _ _ f v e _;simp[jO,ir]at e
 |cons D l C=>
  intro _ h f v e i;obtain⟨g,x⟩:=D;refine iv h λn r k E B z=>?_;clear h;subst k;obtain⟨t,w⟩:=E;have q:n.key.isStr (names f)=decide (g=f):=by
   refine aa w ?_;show(names g==names f)=_;by_cases e:g=f
   ·subst e;simp
   ·exact aa (Yt e)<|Yk.mpr λq=>e<|i _ (.head _) q
  unfold getL;simp only[find?_cons,q];by_cases b:g=f
  ·clear q;subst b
   simp only[jO,ir,if_true,Zk]at e;subst e;simp only[decide_true];exact⟨_,rfl,B⟩
  ·simp only[jO,ir,Xu b]at e
   refine ag (C z e λp y=>i p<|.tail _ y) λu a j=>⟨u,?_,j⟩;simp only[Yt b];unfold getL at a;split at a
   ·rename_i o s
    simp only[Zk]at a;clear j;subst a;exact aa s rfl
   ·split at a<;> cases a
omit X in
theorem FN.miss:∀{a:List DictEntry},FN names s N f a->(∀p∈f,names p.1≠x)->getL x a=some none:=by
 induction f with
 |nil=>intro _ h _;subst h;rfl
 |cons n l k=>
  intro _ h b;obtain⟨g,v⟩:=n;refine iv h λe r d z o j=>?_;clear h;subst d;obtain⟨t,c⟩:=z;have q:e.key.isStr x=false:=by exact aa c<|Yk.mpr<|b _<|.head _
  have:=k j λp i=>b p<|.tail _ i;unfold getL at this⊢;simp only[find?_cons,q,any_cons,(by unfold DictEntry.refKey;rw[c]:e.refKey=false),Bool.false_or];exact this
omit X in
theorem k7(h:DD c f=true):c<3/\f<13:=by
 have q {a b f:Nat} (h:f<=b) (e:Nat.ble (b+1) 13=true):f<13:=Yc h<|Yb e;cases c with
 |zero=>exact⟨by decide,q (a:=0) (YY h) rfl⟩
 |succ c=>cases c with
  |zero=>exact⟨by decide,q (a:=0) (YY ((Xv _ _).mp h).2) rfl⟩
  |succ c=>cases c with
   |zero=>exact⟨by decide,q (a:=0) (YY ((Xv _ _).mp h).2) rfl⟩
   |succ c=>exact eI h nt
noncomputable def sC(e:Expr):Bool:=Nat.beq e.ctorIdx 20||Nat.beq e.ctorIdx 21||Nat.beq e.ctorIdx 23
omit X in
theorem qR(h:sC o=true)(a:Str)(env:Env)(w:Sem Value):attributeBase o a env w=w:=by cases o<;>first|rfl| exact a0 h
theorem St.aa4{b:Yn}{N:Led}{H:Hp}{s:Shared}(S:St P Xp L m b N H s){i c:Nat}{f:List<|Nat×V}{d:Addr×Addr}(q:H[i]?=some (.i c f))(l:b[i]?=some d):
  ∀C:Prop,(∀e n,(d.1,instObj (P.Z.c c) d.2)∈N->(d.2,dictOf e n)∈N->FN P.Z.f b N f e->(∀p∈f,DD c p.1=true)->(f.map (·.1)).Nodup->InstAt s.heap d.1 (instObj (P.Z.c c) d.2) (P.Z.c c) (some<|dictOf e n)->C)->C:=λC t=>by
 obtain⟨k,e,n,h,o,r,a⟩:=S.rep.2 _ _ _ l q;exact t e n k h o r a<|InstAt.of_news S.g k h
theorem Hx{o:Expr}{O:ME}{f:Nat}{x:Str}{g:Pos}(ho:ar P cl A env Xp L m Γ o O)(U:sC o=true)(hx:P.Z.f f=x):ar P cl A env Xp L m Γ (.Attribute o x g)<|.f O f:=
 λρ N H s l v H' S Lo h Q E c=>cps λC z=>aF h λw H1 h1 h=>fP h λa T h=>tL h λi e=>P6 i λk fs hi i=>by
 subst e T;refine z<|Attribute_any_ (ho S Lo h1 λu s1 ρ1 N1 j R D=>?_) ?_
 ·refine ag D λd W t=>?_;clear D;subst t
  refine cps λC z=>St.aa4 X j hi W _ λes n hm hm' Y G _ I=>ag (Fq i) λp hp t=>?_;subst t;have b:=G p hp;have M:=k7 b;refine bU (X.a.fld k _ b) λk1 z7 _=>?_;refine ag z7 λF k2 k3=>ag (Y.get i λq y e=>X.a.a _ _ (k7<|G q y).2 M.2 e) λu hu J=>z ?_;rw[<- hx];exact get_own j.F X.base.K I k1 (X.a.dict k M.1).1 k2 k3 hu J.handed<|c _ _ _ _ (j.toks _) R J
 ·show(do
   let B<-attributeBase o x env (eval o env)
   standAt g.atName
   let r<-holding [B] (getAttr B x true)
   letTemporaryGo o B r
   pure r)=_
  rw[qR U]
end
theorem uK(s:List Nat)(l:Nat):∀c,l+c<=s.length->((List.range c).map (l+·)).filterMap (s[·]?)=(s.drop l).take c
 |0,_=>by simp
 |c+1,h=>by refine aa List.range_succ<|aa Zj<|aa List.filterMap_append<|aa (uK s l c<|Nat.le_of_succ_le ‹_›)<|aa List.take_add_one ?_;simp[(XQ ‹_›:s[l+c]?=some (s[l+c]'‹_›))]
def A1 (s:List Nat){l h:Nat}:GN s l h=(s.drop l).take (h-l):=by unfold GN;exact aa List.drop_take rfl
def uQ (s:List Nat)(lo a:Nat)(h:a<=s.length):sliceRange (lo:Int) (a:Int) 1=(List.range<|a-lo).map (lo+·):=by
 unfold sliceRange;simp only[Int.ediv_one,Int.one_mul];have e:(if(lo:Int)<(a:Int)then(a:Int)-lo+1-1 else 0).toNat=a-lo:=by
  by_cases h:(lo:Int)<a
  ·rw[Xr h,abk];exact Int.toNat_sub a lo
  ·rw[Xu h];exact(sub_eq_zero_of_le<|YL.mp<|YI.mp h).symm
 exact aa e<|YU λk _=>rfl
def Hv (n)(i):Du n i<=n:=by
 unfold Du;split
 ·exact Nat.min_le_right _ _
 ·exact Int.toNat_le.mpr<|Yg (aab (YK<|Int.not_le.mp ‹_›) n)<|Int.le_of_eq<|Int.zero_add _
def Ct (n:Nat)(i:Int):max 0 (min (if i<0 then i+(n:Int)else i) (n:Int))=((Du n i:Nat):Int):=by
 by_cases h:0<=i
 ·refine Xq (Int.eq_ofNat_of_zero_le h) λk e=>?_;subst e
  rw[Xu<|YI.mpr h,Du,Xr h];by_cases a:k<=n
  ·exact aa (min_eq_left a)<|aa (Int.min_eq_left<|YL.mpr a)<|aa (Int.max_eq_right h) rfl
  ·have a:=YR<|Nat.lt_of_not_le a
   exact aa (Nat.min_eq_right a)<|aa (Int.min_eq_right<|YL.mpr a)<|aa (Int.max_eq_right<|YD n) rfl
 ·have h:=Int.not_le.mp h
  have q:=aab (YK h) n;rw[Int.zero_add]at q;rw[Xr h,Du,Xu<|Int.not_le.mpr h,Int.min_eq_left q,Int.ofNat_toNat,Int.max_comm]
def CE {x:List Nat}{t:Tok}{l u:Option<|Int×Tok}{lo hi:Nat}(a:hi<=x.length)(e:slicePicked (S2 x) l u none=(List.range<|hi-lo).map (lo+·)){Q:Value->Shared->Prop}{s:Shared}
  (g:x.length<=16777216) (h:∀j m,Q (.str (S2<|GN x lo hi) j) {s with toks:=m}):(sliceMade (S2 x) t l u none).post Q s:=by
 unfold sliceMade;split;have b:(slicePicked (S2 x) l u none).length=hi-lo:=by rw[e];simp
 ·rename_i q
  rw[b,cG]at q;simp at q;have:GN x lo hi=x:=by
   rw[A1];by_cases c:x.length=0
   ·have:x=[]:=Z0 c
    clear e b h c a g q;subst this;simp
   ·have:lo=0:=Nat.le_zero.mp<|not_lt.mp λi=>lt_irrefl _<|Yc (Y3 q.symm)<|XO (sub_lt (Nat.pos_of_ne_zero λz=>c<|by rw[<- q,z,Nat.zero_sub]) i) a
    clear e b h;subst this;rw[List.drop_zero,q,List.take_length]
  have:=this▸h t s.toks;exact this
 ·have d:(slicePicked (S2 x) l u none).filterMap ((S2 x).cps[·]?)=GN x lo hi:=by
   rw[e,A1];by_cases f:lo<=hi
   ·have:=uK x lo (hi-lo)<|XJ (Y3<|Nat.add_sub_of_le f) a
    rw[<- this];exact aa (by funext k;simp[S2]:(λk:Nat=>(S2 x).cps[k]?)=λk:Nat=>x[k]?) rfl
   ·rw[show hi-lo=0 by exact sub_eq_zero_of_le<|Nat.le_of_not_le f];simp
  refine⟨?_,?_⟩
  ·refine aa d ?_
   show(GN x lo hi).toArray.size<=sizeLine;rw[Y4,A1,length_take,List.length_drop,sizeLine_eq];exact XJ (Nat.min_le_left _ _)<|XJ (sub_le _ _)<|XJ a g
  ·exact aa d<|h _ _
section
variable{P:bi}{cl:Cl}{A:Around}{env:Env}{Xp:Heap}{L:Addr}{m:Str->Option Value}{Γ:NC}
def St.grow (S:St P Xp L m b N H s)(o)(h:o.isFreed=false:=by trivial):St P Xp L m b N H {s with heap:=s.heap.push o}:=
 S.same (S.F.push o) λp a=>(S.g.push S.F o h) p<|.tail _ a
def St.kept (S:St P Xp L m a N H s)(k:∀b o,s.heap.get? b=some o->h.get? b=some o):St P Xp L m a N H {s with heap:=h,toks:=tk}:=
 S.same (S.F.keeps k) (S.g.grown k)
variable(X:EX P cl A env Xp L m Γ)
include X
omit X in
theorem lS(h:ar P cl A env Xp L m Γ e i)(S:St P Xp L m d N H s)(Lo:rj env L m Γ.vars d N l)(g:ai cl l i H=some (v,f))
  (k:∀u c a b,St P Xp L m a b f c->a5 aO d N a b->bY a b v u->Q u c):wpAny (model P.p P.w) A (evalPart (some e) env) Q E s:=evalPart_some_step<|h S Lo g k
theorem zJ{x:Str}{p U n:Pos}{lo hi:Expr}{r b a:ME}(O:ar P cl A env Xp L m Γ (.Name x p) r)(k:ar P cl A env Xp L m Γ lo b)(g:ar P cl A env Xp L m Γ hi a):
  ar P cl A env Xp L m Γ (.Subscript (.Name x p) (.Slice (some lo) (some hi) none U) n) (.S r b a):=
 λρ N H s l v H' S Lo h Q E c=>cps λC T=>aF h λx1 H1 h1 h=>aF h λx2 H2 J h=>aF h λx3 H3 M h=>tL h λh e=>n7 h λt F h=>bH h λi G h=>bH h λj I h=>cx h λq R=>by
 subst e F G I;obtain rfl:=aA R;refine T ?_;simp[e6]at q;refine wpAny_Subscript_str_slice<|O S Lo h1 λu1 s1 ρ1 N1 w d z=>lS k w (Lo.ext d) J λu2 s2 ρ2 N2 f o B=>lS g f (Lo.ext<|d.trans o) M λu3 s3 ρ3 N3 y u D=>?_;obtain⟨W,rfl⟩:=z;obtain⟨Y,rfl⟩:=B;obtain⟨t3,rfl⟩:=D;refine⟨S2 t,W,some (i,Y),some (j,t3),rfl,rfl,rfl,CE (lo:=Du t.length i) (hi:=Du t.length j) (Hv _ _) ?_ (XJ q.2<|by decide) λt' tk=>c _ _ _ _ ((y.grow _).toks tk) ((d.trans o).trans u) ⟨_,rfl⟩⟩;refine dG (uQ t _ _<|Hv _ _) ?_;unfold slicePicked Builtin.Str.strSliceIndices;simp[cG,Ct]
theorem sq{x:Str}{p F f:Pos}{lo:Expr}{k a:ME}(z:ar P cl A env Xp L m Γ (.Name x p) k)(d:ar P cl A env Xp L m Γ lo a):
  ar P cl A env Xp L m Γ (.Subscript (.Name x p) (.Slice (some lo) none none F) f) (.X k a):=
 λρ N H s l v R S Lo h Q E c=>cps λC D=>aF h λx1 T h1 h=>aF h λx2 U y h=>tL h λh e=>n7 h λt u h=>bH h λi w h=>cx h λj B=>by
 subst e u w;obtain rfl:=aA B;refine D ?_;simp only[Xv,gJ,e6]at j;refine wpAny_Subscript_str_slice<|z S Lo h1 λu1 s1 M W o g q=>lS d o (Lo.ext g) y λu2 s2 O Y b n r=>evalPart_none_step ?_;obtain⟨G,rfl⟩:=q;obtain⟨I,rfl⟩:=r;refine⟨S2 t,G,some (i,I),none,rfl,rfl,rfl,CE (lo:=Du t.length i) (hi:=t.length) (XC _) ?_ (XJ j.2<|by decide) λt' J=>c _ _ _ _ ((b.grow _).toks J) (g.trans n) ⟨_,rfl⟩⟩;refine dG (uQ t _ _<|XC _) ?_;unfold slicePicked Builtin.Str.strSliceIndices;simp only[Option.map_some,Option.map_none,Option.getD_none,gt_iff_lt,show(0:Int)<1 by decide,if_true,cG,Ct]
omit X in
theorem tW:∀{H a:Hp}{v:List V},Zb cl l b H=some (v,a)->v.length=b.length:=by
 induction b with
 |nil=>intro H a v h;exact aR h λe _=>e▸rfl
 |cons e b i=>intro H a v h;exact aF h λx d h1 h=>aF h λg f c h=>aR h λe _=>e▸Xs (·+1) (i c)
omit X in
theorem a5.alloc(S:St P Xp L m a N H s)(o):a5 aO a N (a++[(s.heap.objs.size,s.heap.objs.size)])<|(s.heap.objs.size,o)::N:=
 a5.app (λ_ h=>.tail _ h) λp h=>have q:=sD (S.aa3<|XC _) p h;⟨q,q⟩
omit X in
theorem St.last(S:St P Xp L m b N H s)(a):(b++[(a,a)])[H.length]?=some (a,a):=by refine dG S.rep.1 ?_;simp
omit X in
theorem St.newList(S:St P Xp L m d N H s)(h:XH d N v c)(i:v.length<=1000000)
  (k:∀u s' a b,St P Xp L m a b (H++[.l v]) s'->a5 aO d N a b->bY a b (.r H.length) u->Q u s'):wpAny (model P.p P.w) A (PySem.newList c) Q E s:=by
 refine newList_N S.F S.g (λf e b=>?_) (fV<|by refine aa h.length ?_;exact i);have z:=S.alloc (s':={s with heap:=f}) (XC _) e b (ao:=.l v) ⟨rfl,c,0,.head _,h.XW<|a5.alloc S<|W.listOf c.toArray 0⟩;exact k _ _ _ _ z.1 z.2 ⟨_,S.last _,rfl⟩
theorem Dw(o:t8 P cl A env Xp L m Γ n a)(p:a.length<=1000):ar P cl A env Xp L m Γ (.List n pos)<|.l a:=
 λF N H s l v t S Lo h Q E c=>aF h λD w h1 h=>aR h λj k=>by
 clear h;clear h;subst j k;exact List_<|o S Lo h1 λC z q x f d g=>f.newList g (by rw[tW h1];exact La p) λu B r y b e i=>c _ _ _ _ b (d.trans e) i
theorem Ij(o:t8 P cl A env Xp L m Γ n a)(p:a.length<=1000):ar P cl A env Xp L m Γ (.Tuple n k pos)<|.p a:=
 λB N H s l v t S Lo h Q E c=>aF h λz w h1 h=>aR h λi j=>by
 clear h;clear h;subst i j;refine Tuple_ (o S Lo h1 λu q r x b f d=>newTuple_N b.F b.g (λy F g=>?_)<|fV<|by refine aa d.length<|aa (tW h1) ?_;exact La p);have e:=b.YV (a:=q.heap.objs.size) (o:=jn u 0)<|XC _;exact c _ _ _ _ (b.push (XC _) F g) (f.trans e.1) ⟨_,_,_,rfl,.head _,e.2,d.XW e.1⟩
theorem JK:ar P cl A env Xp L m Γ (.Dict [] [] pos) .dI:=
 λi N H s l v g S Lo h Q E c=>aR h λe b=>by
 clear h;subst e b;refine Dict_empty_made2 S.F S.g (modules_low X.base.nolimit) λd o F a _ _ _ f _ _=>?_;have z:=S.alloc (s':={s with heap:=d}) (XC _) F a (ao:=.dI []) ⟨rfl,o,[],.head _,f,rfl⟩;exact c _ _ _ _ z.1 z.2 ⟨_,S.last _,rfl⟩
theorem EI:ar P cl A env Xp L m Γ (.Dict [] [] pos)<|.dS [] []:=
 λi N H s l v a S Lo h Q E c=>aR (show some (V.r H.length,H++[AO.dS []])=some (v,a)from h) λe d=>by
 clear h;subst e d;refine Dict_empty_made2 S.F S.g (modules_low X.base.nolimit) λf o F b _ g _ _ _ _=>?_;have z:=S.alloc (s':={s with heap:=f}) (XC _) F b (ao:=.dS []) ⟨rfl,o,[],.head _,g,rfl⟩;exact c _ _ _ _ z.1 z.2 ⟨_,S.last _,rfl⟩
end
noncomputable def hF(x:Str)(a:NC):Bool:=([("len":Str),"ord","max","sum","sorted","range","reversed"].contains x)&&(a.names.lookup x==some NameKind.globalImplicit)
def lG {x:Str}{a:NC}(h:hF x a=true):x∈([("len":Str),"ord","max","sum","sorted","range","reversed"])/\a.names.lookup x=some NameKind.globalImplicit:=by simp only[hF,Xv,YF]at h;exact⟨aag.mp h.1,h.2⟩
def pt:es.all au=true->(backTo pos<|starEach es env).any (·.1)=false/\(backTo pos<|starEach es env).all (!·.1)=true:=by
 induction es with
 |nil=>intro _;exact⟨rfl,rfl⟩
 |cons e es i=>intro h;simp only[all_cons,Xv]at h;refine XG (λa b=>?_)<|i h.2;rw[ap h.1];exact⟨by show(false||(backTo pos<|starEach es env).any (·.1))=false;rw[a];rfl,by show(true&&(backTo pos<|starEach es env).all (!·.1))=true;rw[b];rfl⟩
noncomputable def dU(e:Expr):Bool:=Nat.beq e.ctorIdx 19||Nat.beq e.ctorIdx 20||Nat.beq e.ctorIdx 21||Nat.beq e.ctorIdx 23
def wG (h:dU o=true)(a:Str)(e:Env)(w:Sem Value):attributeBase o a e w=w:=by cases o<;>first|rfl| exact a0 h
def oV {o:Expr}{n:Str}{c p:Pos}{a:List Expr}{b:Env}(h:dU o=true)(j:a.all au=true)(i:a.length<30)(g:(c.endLine==p.line)=true):
  eval (.Call (.Attribute o n c) a [] p) b=(do
   let d<-eval o b
   standAt c.atName
   let(f,first)<-holding [d] (getMethod d n<|do return (<- importBound o b).getD true)
   callWith p f first (backTo p<|starEach a b) []):=by
 show(do
  let d<-attributeBase o n b (eval o b)
  standAt c.atName
  methodCall o n c p b d (a.length+0) (backTo p<|starEach a b) [])=_
 rw[wG h];unfold methodCall;have e:methodCallForm (a.length+0) (backTo p<|starEach a b) []=true:=by unfold methodCallForm;rw[(pt j).2];exact Yy i
 rw[e];unfold methodCallPos calleeOf;rw[g];rfl
def Ga (s:List<|List Nat):(s.map<|(·.length)∘S2).sum=s.flatten.length:=by
 induction s with
 |nil=>rfl
 |cons a r i=>simp only[af,List.sum_cons,Z8,Xx,i,Function.comp,cG]
def C2 (s:List<|List Nat):Txt.join (S2 []) (s.map S2)=S2 s.flatten:=by
 show Builtin.Str.glued (S2 []) (s.map S2)=_;rw[StrLaws.glued_eq_join];induction s with
 |nil=>rfl
 |cons a r i=>
  cases r with
  |nil=>show S2 a=_;simp
  |cons b r=>show S2 a++S2 []++Str.join (S2 []) (S2 b::r.map S2)=_;have:Str.join (S2 []) (S2 b::r.map S2)=S2 (b::r).flatten:=i;rw[this,lY,lY];simp
section
variable{P:bi}{cl:Cl}{A:Around}{env:Env}{Xp:Heap}{L:Addr}{m:Str->Option Value}{Γ:NC}(X:EX P cl A env Xp L m Γ)
include X
theorem Sf{x:Str}{id:String}{e:Expr}{n:ME}{p g:Pos}(B:hF x Γ=true)(y:a8 x=true)(z:bootBuiltins x=some (.builtin id))(w:x≠"__name__")(j:au e=true)(t:ar P cl A env Xp L m Γ e n)
  {h:Yn}{N:Led}{H i:Hp}{s:Shared}{l:Lo}{v:V} (S:St P Xp L m h N H s) (Lo:rj env L m Γ.vars h N l) (h1:ai cl l n H=some (v,i)) {Q:Value->Shared->Prop}{E:Value->Shared->Prop}
  (k:∀u f c d,St P Xp L m c d i f->a5 aO h N c d->bY c d v u->wpAny (model P.p P.w) A (call (.builtin id) [u]) Q E f):wpAny (model P.p P.w) A (eval (.Call (.Name x p) [e] [] g) env) Q E s:=by
 refine XG (λa b=>Call_ (t9 X S b y (X.a.b x a) z w ?_)<|by rfl)<|lG B;exact PyProof.Rows.callWith_builtin1 (Y0 (t S Lo h1 λu f c d q o r=>args_nil<|k u f c d q o r)<|ap j [] env) (ap j [] env) rfl
theorem G5{e:Expr}{D:ME}{p w:Pos}(Y:hF "len" Γ=true)(W:au e=true)(M:ar P cl A env Xp L m Γ e D):ar P cl A env Xp L m Γ (.Call (.Name "len" p) [e] [] w)<|.n D:=
 λρ N H s l v H' S Lo h Q E c=>cps λC f=>aF h λx H1 h1 h=>MF h λn a G I=>by
 clear h;clear h;subst G I;refine f<|Sf X (id:="len") Y (by decide+kernel) (by decide+kernel) (by decide+kernel) W M S Lo h1 λu s' Zl N' b i g=>cps λC f=>?_;clear h1;cases x with
 |s t=>refine cx a λq a=>Xq g λt' j=>?_;clear g;subst j;have:=e6.mp q;exact f<|PySem.P.len_str (by rw[cG];lia)<|c _ _ _ _ (b.toks _) i ⟨_,by rw[cG,aA a]⟩
 |r r=>
  refine ag g λd J j=>?_;clear g;subst j;refine iC a λo z a=>?_;have O:=b.rep.2 _ _ _ J z;clear z;cases o with
  |l k=>exact cx a λq a=>bP O λ_ F n U B=>f<|call_len_list (fK b.g U) (by refine aa Y4<|aa B.length ?_;lia)<|c _ _ _ _ (b.toks _) i ⟨_,aa Y4<|aa B.length<|aa (aA a) rfl⟩
  |ro k=>
   refine cx a λq a=>ib O λ_ F T R=>?_;have y:F.size=k.length:=by refine dG R.length ?_;simp
   exact f<|call_len_list (T.at λo e=>b.F.keep _ _<|b.old _ _ e) (by refine aa y ?_;lia)<|c _ _ _ _ (b.toks _) i ⟨_,aa y<|aa (aA a) rfl⟩
  |_=>exact cE a nt
 |_=>exact cE a nt
theorem E7{e:Expr}{f:ME}{p b:Pos}(B:hF "ord" Γ=true)(y:au e=true)(r:ar P cl A env Xp L m Γ e f):ar P cl A env Xp L m Γ (.Call (.Name "ord" p) [e] [] b)<|.ord f:=
 λR N H s l v G S Lo h Q E c=>cps λC D=>aF h λx I h1 h=>MF h λn w k o=>n7 w λt j a=>by
 clear h;clear h;subst j k o;cases t with |nil=>exact cO a|cons z t=>cases t with |cons=>exact cO a|nil=>cases a;refine D<|Sf X (id:="ord") B (by decide+kernel) (by decide+kernel) (by decide+kernel) y r S Lo h1 λu M F J i g d=>Xq d λO q=>?_;clear d;subst q;exact PySem.P.ord_of_char<|c _ _ _ _ (i.toks _) g ⟨_,rfl⟩
theorem FS{a b:Expr}{q r:ME}{p g:Pos}(U:hF "max" Γ=true)(o:au a=true)(e:au b=true)(R:ar P cl A env Xp L m Γ a q)(T:ar P cl A env Xp L m Γ b r):
  ar P cl A env Xp L m Γ (.Call (.Name "max" p) [a,b] [] g) (.x q r):=
 λρ N H s l v H' S Lo h Q E c=>cps λC W=>aF h λx H1 h1 h=>aF h λy H2 O h=>bH h λi G h=>bH h λj I h=>aR h λJ M=>by
 subst G I J M;obtain⟨D,F⟩:=lG U;refine W (Call_ (t9 X S F (by decide+kernel) (X.a.b _ D) (v:=.builtin "max") (by decide+kernel) (by decide+kernel) ?_)<|by rfl);refine PyProof.Rows.callWith_builtin1 ?_ (ap o _ env) (pt (es:=[b])<|by simp[e]).1;refine Y0 (R S Lo h1 λu s' Zl N' w n z=>Y0 (T w (Lo.ext n) O λu2 s2 ρ2 N2 f t B=>args_nil ?_)<|ap e _ env)<|ap o _ env;obtain⟨Y,rfl⟩:=z;obtain⟨t2,rfl⟩:=B;refine PySem.max_two_ints X.h λh' tk k=>c _ _ _ _ (f.kept k) (n.trans t) ?_;by_cases d:i<j
 ·exact⟨t2,by simp only[gt_iff_lt,d,if_true]⟩
 ·exact⟨Y,by simp only[gt_iff_lt,d,if_false]⟩
omit X in
theorem XH.ints:∀{b:List Value}{ns:List Int},XH n N l b->j4 l=some ns->IntsAre b ns:=by
 induction l with
 |nil=>intro b ns h e;cases h;cases e;exact .nil
 |cons x l j=>intro b ns h e;refine am h λu r a h1 f=>?_;subst a;refine bH e λi d c=>?_;subst d;refine ag (Yv.mp c) λk g a=>?_;clear c;subst a;refine Xq h1 λt a=>?_;clear h1;subst a;exact .cons _ _<|j f g
omit X in
theorem XH.strs:∀{l:List V}{a:List Value}{n:List<|List Nat},XH o N l a->j5 l=some n->StrsAre a (n.map S2)
 | [],a,n,h,e=>by obtain rfl:a=[]:=h;obtain rfl:=aA e;exact .nil
 |x::l,a,n,h,e=>n7 e λi f c=>am h λu r d h1 g=>by subst d f;refine ag (Yv.mp c) λk j b=>?_;clear c;subst b;refine Xq h1 λt b=>?_;clear h1;subst b;exact .cons _ _<|XH.strs (l:=l) g j
theorem Eu{e:Expr}{q:ME}{p j:Pos}(W:hF "sum" Γ=true)(T:au e=true)(I:ar P cl A env Xp L m Γ e q):ar P cl A env Xp L m Γ (.Call (.Name "sum" p) [e] [] j)<|.u q:=
 λρ N H s l v H' S Lo h Q E c=>cps λC i=>aF h λx H1 h1 h=>MF h λn a y z=>fP a λr w a=>tT a λk M a=>iC a λns g a=>cx a λR J=>by
 subst w y z;clear a R;clear a;clear a;clear a;obtain rfl:=aA J;refine i<|Sf X (id:="sum") W (by decide+kernel) (by decide+kernel) (by decide+kernel) T I S Lo h1 λu Y Zl N' b t o=>cps λC i=>ag o λd G B=>?_;clear o;subst B;exact bP (b.rep.2 _ _ _ G M) λ_ vs n O U=>i<|PyProof.Rows.LSm.sum_ints b.F b.g X.h (fK b.g O) (U.ints g) λD tk t' F f=>c _ _ _ _ (b.same (s':={Y with heap:=D,toks:=tk}) F f) t ⟨_,rfl⟩
omit X in
theorem lq{p:Pos}{id:String}{v:Value}{s:Shared}{Q:Value->Shared->Prop}{E:Value->Shared->Prop}(h:wpAny (model P.p P.w) A (call (.builtin id) [v]) Q E s):
  wpAny (model P.p P.w) A (callWith p (.builtin id) [v] (backTo p<|starEach [] env) []) Q E s:=
 callWith_builtin rfl (PyProof.Rows.evalArgs_nil3 h)
omit X in
theorem lz{p:Pos}{id:String}{v:Value}{e:Expr}{s:Shared}{Q:Value->Shared->Prop}{E:Value->Shared->Prop}(c:au e=true)(h:wpAny (model P.p P.w) A (eval e env) (λu a=>wpAny (model P.p P.w) A (call (.builtin id) [v,u]) Q E a) E s):
  wpAny (model P.p P.w) A (callWith p (.builtin id) [v] (backTo p<|starEach [e] env) []) Q E s:=by
 rw[ap c];exact callWith_builtin rfl (evalArgs_plain<|spliced_cons<|aaa h (λu a b=>args_nil b) λ_ _ x=>x)
theorem Ho{o:Expr}{M:ME}{b p:Pos}(ho:ar P cl A env Xp L m Γ o M)(hb:dU o=true)(hl:(b.endLine==p.line)=true):ar P cl A env Xp L m Γ (.Call (.Attribute o "pop" b) [] [] p)<|.pop M:=
 λρ N H s l v H' S Lo h Q E c=>cps λC F=>aF h λx H1 h1 h=>fP h λr Y h=>tT h λk J h=>iC h λz j h=>cx h λhq h=>aR h λe1 e2=>by
 clear h;clear h;clear h;clear h;clear h;clear h;subst Y e1 e2;refine F<|MethodCall_ (ho S Lo h1 λu s' Zl T f O I=>?_)<|oV hb rfl (by decide) hl;refine cps λC F=>ag I λd y e7=>?_;clear I;subst e7;refine bP (f.rep.2 _ _ _ y J) λU a n g i=>F<|kl_method f.g g PySem.F.slot_list_pop PySem.F.type_list_pop<|lq ?_;have t:=i.length;have hne:a≠[]:=λe=>by clear g i;subst e;rw[Z0 t.symm]at j;exact cE j nt
 have ek:kl_last a.toArray.toList=some (a.dropLast,a.getLast hne):=by have:=kpa_last (a.getLast hne) a.dropLast;rw[abm]at this;exact this
 refine kl_pop f.F f.g ek (lK f.j g) (by refine aa sizeLine_eq ?_;show a.length<=_;exact aK 0x400000220903d0902210cb610069b tq t hq) λh' R q=>?_;have G:=f.upd (s':={s' with heap:=h'}) y J (.inl rfl) R q (ao':=.l k.dropLast) ⟨U,a.dropLast,n+1,bz g,(i.XW<|f6 (N:=T) (o':=W.listOf a.dropLast.toArray<|n+1) (de y).1).dropLast⟩;refine c _ _ _ _ G.1 (O.trans G.2)<|ag (i.get (i:=k.length-1) (v:=z)<|by rw[List.getLast?_eq_getElem?]at j;exact j) λw B D=>?_;have:w=a.getLast hne:=by rw[List.getLast_eq_getElem];rw[<- t]at B;rw[XQ<|by have:=List.length_pos_iff.mpr hne;exact sub_lt this Nat.one_pos]at B;exact(Zd B).symm
 exact this▸D.XW G.2
theorem C9{e:Expr}{t:ME}{k:Nat}{p a b:Pos}(o:au e=true)(D:ar P cl A env Xp L m Γ e t)(I:(a.endLine==b.line)=true):
  ar P cl A env Xp L m Γ (.Call (.Attribute (.Constant (.str<|S2 []) k p) "join" a) [e] [] b) (.j t):=
 λρ N H s l v T S Lo h Q E c=>cps λC O=>aF h λx U h1 h=>tL h λh e=>fP h λr y h=>tT h λq G h=>iC h λss g h=>cx h λj F=>by
 subst y e;clear X h;clear h;clear h;clear h;clear h;clear h;obtain rfl:=aA F;refine O<|MethodCall_ (Constant_str ?_)<|oV rfl (by simp[o]) (by simp) I;with_reducible refine PySem.GM.of (.str _ _) (typeIs_str _ _ _) PySem.F.slot_str_join PySem.F.type_str_join PySem.GM.noRef ?_
 refine lz o<|D (S.toks _) Lo h1 λu s' R W f w i=>ag i λd B z=>?_;clear i;subst z;refine bP (f.rep.2 _ _ _ B G) λY vs n J M=>join_list (fK f.g J) (M.strs g) ?_ λt' tk=>?_
 ·simp only[Xv,e6]at j
  rw[Y9,show(S2 []).length=0 from rfl,Nat.mul_zero,YZ,Ga];exact XJ j.2<|Yb rfl
 ·rw[C2]
  exact c _ _ _ _ (f.toks _) w ⟨_,rfl⟩
end
section
variable{P:bi}{cl:Cl}{A:Around}{env:Env}{Xp:Heap}{L:Addr}{m:Str->Option Value}{Γ:NC}
def St.aae (S:St P Xp L m c N H s)(h1:∀p∈N,p.1≠a)(b:Xp.get? a=none):¬own c a:=λh=>
 (S.aa9 h).elim (λz=>Xq z λ_ h=>h1 _ h rfl) λz=>Xq z λ_ h=>by rw[S.old _ _ h]at b;exact cE b nt
def St.inst (S:St P Xp L m f N H s)(r:Fr Xp L s'.heap m)(l:News Xp L s'.heap<|(x,instObj (P.Z.c c) b)::(b,dictOf [] 0)::N)(h1:∀p∈N,p.1<b)(k:b<x)(n:s'.os=s.os/\s'.gens=s.gens:=by trivial):
  St P Xp L m (f++[(x,b)]) ((x,instObj (P.Z.c c) b)::(b,dictOf [] 0)::N) (H++[.i c []]) s'/\a5 aO f N (f++[(x,b)]) ((x,instObj (P.Z.c c) b)::(b,dictOf [] 0)::N):=by
 have E:a5 aO f N (f++[(x,b)])<|(x,instObj (P.Z.c c) b)::(b,dictOf [] 0)::N:=a5.app (λ_ a=>.tail _<|.tail _ a) λp a=>⟨Yd<|YC (h1 p a) k,Yd<|h1 p a⟩;refine⟨⟨r,l,?_,S.rep.app (λi d o _ q=>q.XW E λ_ a _=>.tail _<|.tail _ a) ⟨.head _,[],0,.tail _<|.head _,rfl,(λ_ h=>Xw h XY),List.Pairwise.nil⟩,S.sep.app (S.aae (λp a=>Yd<|YC (h1 p a) k) (l _<|.head _).2.2:¬own f x) (S.aae (λp a=>Yd<|h1 p a) (l _<|.tail _<|.head _).2.2:¬own f b),S.old,⟨n.1.trans S.env.1,n.2.trans S.env.2⟩⟩,E⟩;simp only[af,X9,XE,Yp,not_or,not_exists,not_and];exact⟨⟨XB k,λp a e=>Yd (YC (h1 p a) k) e⟩,λp a e=>Yd (h1 p a) e,S.j⟩
variable(X:EX P cl A env Xp L m Γ)
include X
theorem gj(r:keepIn P.K f=true)(n:g.all au=true)(q:t8 P cl A env Xp L m Γ g d)(i:g.length=d.length)
  (S:St P Xp L m o N H s) (Lo:rj env L m Γ.vars o N l) (h1:Zb cl l d H=some (vs,H'))
  (k:∀u j c h,St P Xp L m c h H' j->a5 aO o N c h->XH c h vs u->wpAny (model P.p P.w) A (call f<|first++u) Q E j):
  wpAny (model P.p P.w) A (callWith pos f first (backTo pos<|starEach g env) []) Q E s:=by
 cases g with
 |nil=>
  refine callWith_K0 (X.base.K.keeps S.F.keep) r ?_;clear q;cases d with
  |nil=>cases h1;exact k [] s o N S (.refl _ _ _) rfl
  |cons a b=>cases i
 |cons e g=>simp only[all_cons,Xv]at n;refine callWith_K X.base.K r (q S Lo h1 λu j c h p t v=>⟨X.base.K.keeps p.F.keep,k u j c h p t v⟩) (ap n.1 g env) (pt n.2).1
omit X in
theorem Qj{H:Hp}{a:Nat}{C:Prop}(h:Ye H a=true)(k:∀f,H[a]?=some (.i 2 f)->C):C:=by
 unfold Ye at h;cases e:H[a]? with
 |none=>rw[e]at h;exact eI h nt
 |some o=>
  rw[e]at h;cases o with
  |i c f=>obtain rfl:=eq_of_beq (a:=c) h;exact k f e
  |_=>exact eI h nt
theorem CG(r:P.a k=some x)(y:Γ.names.lookup x=some .globalImplicit)(t:a8 x=true)(w:e.all au=true)(a:e.length=b.length)
  (q:t8 P cl A env Xp L m Γ e b):ar P cl A env Xp L m Γ (.Call (.Name x p) e [] pos)<|.c k b:=
 λU N H s l v F S Lo h Q E c=>aF h λT G h1 h=>Aa h λo=>by
 exact XG (λz B=>(Call_ (wb X S y t B<|gj X (first:=[]) z w q a S Lo h1 λR O D J i f n=>wpAny_call<|X.calls o i n A _ (.inl rfl) λu M C I g d j=>c _ _ _ _ g (f.trans d) j)<|by rfl))<|X.a.fn k x r
theorem Dz{o:Expr}{D:ME}{x:Str}{b j:Pos}{k:Nat}{f:List Expr}{e:List ME}(hf:P.m k=some x)(hb:dU o=true)(B:f.all au=true)(hn:f.length<30)(hl:(b.endLine==j.line)=true)(g:f.length=e.length)
  (hO:ar P cl A env Xp L m Γ o D) (he:t8 P cl A env Xp L m Γ f e):ar P cl A env Xp L m Γ (.Call (.Attribute o x b) f [] j)<|.m k D e:=
 λρ N H s l v H' S Lo h Q E c=>cps λC i=>aF h λx1 H1 h1 h=>fP h λa R h=>uu h λhw h=>aF h λvs H2 W h=>Aa h λY=>Qj hw λfs hi=>by
 subst R;refine i<|cps λC i=>bW (X.a.m k x hf) λk1 k2 k3 k4 k5=>i<|MethodCall_ (hO S Lo h1 λu s1 ρ1 N1 q y t=>?_)<|oV hb B hn hl;have M:=t;refine cps λC i=>ag t λd hd T=>?_;clear t;subst T;exact St.aa4 X q hi hd _ λU n hm hm' w hq _ I=>i<|method_inst q.F X.base.K I k2 k3 k4 (w.miss λp hp=>k5 _<|hq p hp)<|gj X (first:=[.ref d.1]) k1 B he g q (Lo.ext y) W λus s2 ρ2 N2 r z O=>wpAny_call<|X.calls Y r (us:=.ref d.1::us) ⟨_,_,rfl,M.XW z,O⟩ A _ (.inl rfl) λu s' Zl N' G F J=>c _ _ _ _ G ((y.trans z).trans F) J
theorem Hh(W:P.c k=some x)(hx:Γ.names.lookup x=some .globalImplicit)(Y:a8 x=true)(hs:e.all au=true)(a:e.length=b.length)
  (U:t8 P cl A env Xp L m Γ e b):ar P cl A env Xp L m Γ (.Call (.Name x p) e [] pos)<|.w k b:=
 λρ N H s l v H' S Lo h Q E c=>cps λC g=>aF h λvs B h1 h=>aF h λw H2 f h=>Aa f λf=>Qm h λM h=>aR h λO R=>by
 subst M O R;refine g (cps λC g=>rx (X.a.cls k x W) λk1 k2 k3 k4 k5 k6=>g<|Call_ (wb X S hx Y k6 ?_)<|by rfl);refine gj X (first:=[]) k3 hs U a S Lo h1 λt s1 i N1 d z J=>call_cls d.F X.base.K d.g k2 k4 k5 λy q T F o l1 l2=>XG (λG n=>?_)<|St.inst (s':={s1 with heap:=T}) d (c:=k) F o l1 l2;have r:(i++[(y,q)])[B.length]?=some (y,q):=by refine dG d.rep.1 ?_;simp
 refine X.calls f G (us:=.ref y::t) ⟨_,_,rfl,⟨_,r,rfl⟩,J.XW n⟩ _ _ (.inr ⟨_,t,rfl⟩) λu s' Zl o D j I=>?_;obtain rfl:u=_:=I;exact⟨rfl,c _ _ _ _ D ((z.trans n).trans j) ⟨_,j.get r,rfl⟩⟩
end
def XH.ofInts (h:IntsAre us a):XH b N (a.map V.i) us:=by induction h with |nil=>exact rfl|cons n t h i=>exact⟨_,_,rfl,⟨t,rfl⟩,i⟩
def XH.pick (h:XH l N k v)(a:List Nat):(∀i∈a,i<k.length)->XH l N (a.map λi=>k.getD i .n) (a.map λi=>v.getD i Value.none):=by
 induction a with
 |nil=>intro _;exact rfl
 |cons i a g=>intro b;have h1:i<k.length:=b i<|.head _;have e:k[i]?=some k[i]:=XQ h1;refine ag (h.get e) λu d f=>⟨_,_,rfl,?_,g λj c=>b j<|.tail _ c⟩;simp[e,d];exact f
def mF (n:Nat)(P:c->Prop):KasT c->Prop
 | .ret a=>P a
 | .ask i j k=>i<n/\j<n/\∀b,mF n P<|k b
theorem mF.mono{d:Type}{n:Nat}{P Q:d->Prop}(c:∀a,P a->Q a):∀{t:KasT d},mF n P t->mF n Q t
 | .ret a,h=>c a h
 | .ask i j k,h=>⟨h.1,h.2.1,λb=>mF.mono c<|h.2.2 b⟩
theorem mF.bind{c e:Type}{n:Nat}{P:c->Prop}{Q:e->Prop}{f:c->KasT e}(d:∀a,P a->mF n Q (f a)):∀{t:KasT c},mF n P t->mF n Q (t.bind f)
 | .ret a,h=>d a h
 | .ask i j k,h=>⟨h.1,h.2.1,λb=>mF.bind d<|h.2.2 b⟩
theorem mF.run{a:Type}{n:Nat}{P:a->Prop}{c:Nat->Nat->Bool}:∀{t:KasT a},mF n P t->P (iK c t)
 | .ret _,h=>h
 | .ask i j k,h=>mF.run (t:=k<|c i j)<|h.2.2<|c i j
theorem mF.wp{g:Type}{n:Nat}{P:g->Prop}{c:Nat->Nat->Bool}{b:Nat->Nat->(Bool->Shared->Prop)->Shared->Prop}{J:Shared->Prop}(l:∀i j C s,i<n->j<n->J s->(∀a,J a->C (c i j) a)->b i j C s){Q:g->Shared->Prop}:
  ∀{t:KasT g},mF n P t->∀{s:Shared},J s->(∀a,J a->Q (iK c t) a)->t.kasWp b Q s
 | .ret _,_,s,e,d=>d s e
 | .ask i j k,h,s,e,d=>l i j _ s h.1 h.2.1 e λa f=>mF.wp l (h.2.2<|c i j) f d
def r5 (n:Nat)(p:Array Nat):Prop:=p.Perm<|List.toArray<|List.range n
def r5.getD (h:r5 n p)(b:0<n)(i:Nat):p.getD i 0<n:=by
 by_cases a:i<p.size
 ·have:p.getD i 0=p[i]:=by simp[Array.getD,a]
  refine aa this ?_;have:=(Array.perm_iff_toList_perm.mp h).mem_iff.mp (by simp:p[i]∈p.toList);simpa using this
 ·have:p.getD i 0=0:=by simp[Array.getD,a]
  exact aK 0x41303401a6c206867b tq b this
def r5.rev (h:r5 n p)(i j:Nat):r5 n<|kas_rev p i j:=(mirror_perm p i j _).trans h
def r5.bub (h:r5 n p)(i j:Nat):r5 n<|bubble p i j:=(bubble_perm p i j).trans h
section
variable{n:Nat}(hn:0<n)
include hn
theorem wn{p:Array Nat}(h:r5 n p):∀(f a:Nat),mF n (λ_=>True)<|kas_asc p f a
 |0,a=>trivial
 |f+1,a=>⟨h.getD hn _,h.getD hn _,λb=>by cases b;exact wn h f _;exact trivial⟩
theorem oq:∀(f:Nat) {p:Array Nat} (h:r5 n p) (a q:Nat),mF n (λr=>r5 n r.1)<|kas_desc f p a q
 |0,p,h,a,q=>h
 |f+1,p,h,a,q=>⟨h.getD hn _,h.getD hn _,λb=>by
   cases b
   ·exact⟨h.getD hn _,h.getD hn _,λb=>by cases b;exact oq f h _ _;exact h⟩
   ·show mF n _<|if true=true then(if q>0 then kas_desc f (kas_rev p (a-(q+1)) a) (a+1) 0 else kas_desc f p (a+1) 0)else _
    refine aa (Xr rfl) ?_;split
    ·exact oq f (h.rev _ _) _ _
    ·exact oq f h _ _⟩
theorem vb(h:r5 n p)(a b:Nat):mF n (λr:Nat×Array Nat=>r5 n r.2)<|kas_tail3 a b p:=by refine mF.bind (P:=λ_=>True) (λm _=>?_)<|wn hn (h.rev 0 a) _ _;exact h.rev 0 a
theorem pe(h:r5 n p)(a b:Nat):mF n (λr=>r5 n r.2)<|kas_descPart a b p:=by
 refine mF.bind (λr c=>?_)<|oq hn _ h _ _;split
 ·exact vb hn (r5.rev c _ _) _ _
 ·exact vb hn c _ _
theorem CI(h:r5 n p)(b:Nat):mF n (λr=>r5 n r.2)<|kas_count b p:=by
 refine mF.bind (λr _=>?_)<|wn hn h _ _;split
 ·exact h
 ·split
  ·refine⟨h.getD hn _,h.getD hn _,λb=>?_⟩
   cases b
   ·exact pe hn (h.rev _ _) _ _
   ·exact h
  ·exact pe hn h _ _
theorem vc(h:r5 n p)(k:Nat):∀(f l r:Nat),mF n (λ_=>True)<|kas_place p k f l r
 |0,l,r=>trivial
 |f+1,l,r=>by
  show mF n _<|if l≥r then KasT.ret l else _;split
  ·exact trivial
  ·refine⟨h.getD hn _,h.getD hn _,λb=>?_⟩
   cases b<;> exact vc h k f _ _
theorem BJ:∀(f:Nat) {p:Array Nat} (h:r5 n p) (k:Nat),mF n (r5 n)<|kas_bin f p k
 |0,p,h,k=>h
 |f+1,p,h,k=>mF.bind (λl _=>BJ f (h.bub _ _) _)<|vc hn h k _ _ _
theorem oH:mF n (r5 n)<|kas_sort n:=by
 refine mF.bind (λr h=>?_)<|CI hn (Array.Perm.refl _) n;split
 ·exact BJ hn _ h _
 ·exact h
end
def i7 (p:List<|Int×Int)(h:0<p.length):(jh p).Perm<|List.range p.length:=by have:=(oH h).run (c:=λi j=>d9 (p.getD i (0,0))<|p.getD j (0,0));exact Array.perm_iff_toList_perm.mp this
def td {C:Prop}{v:V}{r:List V}{p:List<|Int×Int}(h:dO (v::r)=some p)(k:∀a b q,v=.t [.i a,.i b]->dO r=some q->p=(a,b)::q->C):C:=
 xD h λl e c=>by
 subst e;cases l with |nil=>exact cO c|cons x l=>cases l with |nil=>exact cO c|cons y l=>cases l with |cons=>exact cO c|nil=>exact bH c λa d h=>bH h λb f h=>(Yv.mp h).elim λq h=>k a b q (aa d<|aa f rfl) h.1 h.2.symm
def rp {k:List V}:∀{p:List<|Int×Int},dO k=some p->k.length=p.length:=by
 induction k with
 |nil=>intro p h;obtain rfl:=aA h;rfl
 |cons v r i=>intro p h;exact td h λa b q _ c e=>e▸Xs (·+1) (i c)
theorem n5:∀{k:List V}{p:List<|Int×Int},dO k=some p->∀{i:Nat},i<k.length->k[i]?=some (.t [.i (p.getD i (0,0)).1,.i (p.getD i (0,0)).2])
 | [],p,h,i,c=>Xw c<|aah i
 |v::r,p,h,i,c=>td h λa b q d f e=>by
  clear h;subst e d;cases i with
  |zero=>rfl
  |succ i=>exact n5 f (i:=i)<|Nat.lt_of_succ_lt_succ c
section
variable{prog:Program}{w:World}{A:Around}
def IK (l:s.heap.get? x=some o)(i:o.data=.seq #[.int a q,.int b r] n)
  (m:s.heap.get? y=some p) (j:p.data=.seq #[.int c u,.int d v] k) (h:∀t,Q (d9 (a,b) (c,d)) {s with toks:=t}):wpAny (model prog w) A (keyLt' (tuples' true) (.ref x)<|.ref y) Q E s:=by
 refine kat_lt l i m j<|kat_cons<|wpAny_eqBool_int ?_;by_cases e:a=c
 ·subst e
  rw[ZP];refine kat_yes<|kat_cons<|wpAny_eqBool_int ?_;by_cases f:b=d
  ·subst f
   rw[ZP];refine kat_yes<|kat_nil ?_;have:d9 (a,b) (a,b)=false:=by simp[d9]
   have g:=h s.toks;rw[this]at g;exact g
  ·refine aa (show(b==d)=false from Yk.mpr f)<|kat_no<|kat_one _ _<|lt_int ?_
   have:d9 (a,b) (a,d)=decide (b<d):=by simp[d9]
   show Q (decide (b<d)) _;exact dG this<|h s.toks
 ·refine aa (show(a==c)=false from Yk.mpr e)<|kat_no<|oneLt_int ?_
  have:d9 (a,b) (c,d)=decide (a<c):=by simp[d9,e]
  exact dG this<|h s.toks
end
section
variable{P:bi}{cl:Cl}{A:Around}{env:Env}{Xp:Heap}{L:Addr}{m:Str->Option Value}{Γ:NC}(X:EX P cl A env Xp L m Γ)
include X
theorem wK(ha:ar P cl A env Xp L m Γ (.Name x p) ma)(n:ar P cl A env Xp L m Γ hi t):
  ar P cl A env Xp L m Γ (.Subscript (.Name x p) (.Slice none (some hi) none sp) pos) (.Y ma t):=
 λρ N H s l v H' S Lo h Q E c=>cps λC kC=>aF h λx1 H1 h1 h=>aF h λx2 H2 Y h=>fP h λr M h=>bH h λj O h=>Uy h λk hk h=>cx h λb h=>aR h λR T=>by
 clear h;clear h;clear h;clear h;clear h;clear h;clear h;subst M O R T;refine kC ?_;simp only[Xv,gJ,X5]at b;have b:=b;refine Subscript_<|ha S Lo h1 λu1 s1 ρ1 N1 J u y=>wpAny_Slice<|evalPart_none_step<|lS n J (Lo.ext u) Y λu2 D ρ2 N2 a w B=>evalPart_none_step ?_;have f:=y.XW w;refine ag f λd hd i=>?_;clear y f;subst i;refine Xq B λt2 i=>?_;clear B;subst i;refine ib (a.rep.2 _ _ _ hd hk) λ_ F hl g=>?_;have q:D.heap.IsList d.1 F.toList.toArray:=by exact aa Array.toArray_toList<|hl.at λo e=>a.F.keep _ _<|a.old _ _ e
 have U:=g.length;refine slice_list a.F a.g q .none (.int j t2) (λW G I=>?_) (by with_unfolding_all rfl) (by intro _;with_unfolding_all rfl) (by refine aa Y4<|aa U<|aa sizeLine_eq ?_;have:=b.2;exact XJ b.2<|Yb rfl)
 have hw:=slice_ints_uptoW g b.1.1;have z:=a.alloc (s':={D with heap:=W}) (le_succ _) G I (ao:=.l<|(k.take j.toNat).map V.i) ⟨rfl,(slicePick F.toList.toArray none (some j) none).toList,0,by refine aa Array.toArray_toList ?_;exact .head _,XH.ofInts hw⟩;exact c _ _ _ _ z.1 ((u.trans w).trans z.2) ⟨_,a.last _,rfl⟩
theorem Hc(q:x=S2 t)(r:y=S2 a)(b:t≠a):
  ar P cl A env Xp L m Γ (.Dict [some<|.Constant (.str x) B p,some<|.Constant (.str y) C f] [.UnaryOp .USub (.Constant (.int i) D I) J,.UnaryOp .USub (.Constant (.int j) G M) O] pos) (.dS [t,a] [.i<|-i,.i<|-j]):=
 λR N H s l v u S Lo h Q E c=>by
 subst q r;cases h;refine Dict_made_str rfl S.F rfl rfl (List.cons_ne_nil _ _) (by simp) λF0=>pairTrees_cons_walk<|Constant_str<|UnaryOp_<|aaj<|neg_int<|pairTrees_cons_walk<|Constant_str<|UnaryOp_<|aaj<|neg_int<|pairTrees_nil_walk ?_;have d:=s.toks;have w:((strPairs [(Value.str (S2 t) d,Value.int (-i)<|d+1),(Value.str (S2 a) d,Value.int (-j) d)]).map (·.1)).Nodup:=by
  show [S2 t,S2 a].Nodup;simp only[X9,mem_singleton,XY,not_false_eq_true,nodup_nil,and_true]
  exactλe=>b<|qD e
 refine made_str S.F S.g rfl (by
  show [S2 t,S2 a].Nodup;simp only[X9,mem_singleton,XY,not_false_eq_true,nodup_nil,and_true]
  exactλe=>b<|qD e) λk o F g n=>?_
 have z:=S.alloc (s':={s with heap:=k}) (XC _) F g (ao:=.dS [(t,.i<|-i),(a,.i<|-j)]) ⟨rfl,o,_,.head _,n,_,_,rfl,⟨_,rfl⟩,_,_,rfl,⟨_,rfl⟩,rfl⟩;exact c _ _ _ _ (z.1.toks _) z.2 ⟨_,S.last _,rfl⟩
theorem xX{e:Expr}{me:ME}{p pos:Pos}(hx:hF "sorted" Γ=true)(hs:au e=true)(he:ar P cl A env Xp L m Γ e me):ar P cl A env Xp L m Γ (.Call (.Name "sorted" p) [e] [] pos)<|.k me:=
 λρ N H s l v H' S Lo h Q E c=>cps λC B=>aF h λx H1 h1 h=>fP h λr e0 h=>tT h λk hk h=>iC h λg hps h=>cx h λO h=>aR h λe1 e2=>by
 subst e0 e1 e2;refine B ?_;simp only[Xv,X5]at O;have O:=O;refine Sf X (id:="sorted") hx (by decide+kernel) (by decide+kernel) (by decide+kernel) hs he S Lo h1 λu s1 I N1 J E1 V1=>cps λC B=>ag V1 λd hd b=>?_;subst b;refine bP (J.rep.2 _ _ _ hd hk) λ_ vs n hm hv=>?_;have R:=rp hps;have w:=hv.length;have len:vs.length=g.length:=w.trans R;refine B<|kat_sorted J.F J.g (fK J.g hm) (ba 0x4d90441e6c400f362038209844d0cb1b tq O w R) (ba 0x101c098441a6c400d362038219844d04b1b tq O w R) λD e1 h' F' N' hlt=>?_;have y:∀i,i<g.length->∃a G q,vs.getD i Value.none=.ref a/\(a,jn G q)∈N1/\∃t1 t2,G=[.int (g.getD i (0,0)).1 t1,.int (g.getD i (0,0)).2 t2]:=λi F=>by have e1:=n5 hps (i:=i)<|yC F R;refine cps λC B=>ag (hv.get e1) λu hu hz=>?_;obtain⟨a,G,q,rfl,T,_,w1,r1,rfl,⟨t1,rfl⟩,w2,r2,rfl,⟨t2,rfl⟩,rfl⟩:=hz;refine B<|⟨a,_,q,?_,T,t1,t2,rfl⟩;simp only[Yq,hu,Option.getD_some]
 have kt:∀(G:List Value),(∀u∈G,∃i,i<g.length/\u=vs.getD i Value.none)->∃fs,KatTups h' G fs/\fs.length=G.length/\∀f∈fs,∃(i:Int) (t:Tok),f=Value.int i t:=by
  intro G;induction G with
  |nil=>exactλ_=>⟨[],.nil,rfl,λ_ h=>Xw h XY⟩
  |cons u G ih=>
   intro hu;refine cps λC B=>aj (ih λv hv=>hu v<|.tail _ hv) λfs h1 h2 h3=>ag (hu u<|.head _) λi F b=>?_;subst b;refine qm (y i F) λa ws q e2 T t1 t2 b=>?_;subst b;refine B<|aa e2<|⟨_::fs,.cons (N' _<|.tail _ T).1 rfl rfl rfl h1,by simp[h2],λf hf=>?_⟩;rcases XE.mp hf with rfl|hf
   ·exact⟨_,_,rfl⟩
   ·exact h3 f hf
 refine cps λC B=>?_;obtain⟨fs,hk1,hk2,hk3⟩:=kt vs λu hu=>by obtain⟨i,F,e⟩:=List.getElem_of_mem hu;exact⟨i,G4 F w R,by simp[Yq,XQ F,e]⟩
 refine B<|kat_kind (T:=.type "int") hk1 (oN 0x1b308c3cd8c41e6c400f362038209844d0cb1b tq O hk2 w R) (λf hf=>?_) (rfl) ?_
 ·refine cT (hk3 f hf) λi t b=>?_;subst b
  exact Looks.of_pure rfl
 have ne:(Value.type "int" !=Value.type "tuple")=true:=rfl;refine aa ne<|aa len ?_;have S':St P Xp L m I N1 H1 {s1 with heap:=h'}:=J.same F' λp o=>N' p<|.tail _ o;refine mF.wp (n:=g.length) (P:=r5 g.length) (c:=λi j=>d9 (g.getD i (0,0))<|g.getD j (0,0)) (J:=λs'=>∃tk,s'={s1 with heap:=h',toks:=tk}) (λi j C s' F hj Y hC=>?_) (oH<|KM O) ⟨_,rfl⟩ λs' Y=>?_
 ·refine Xq Y λtk b=>?_;subst b
  refine cps λC B=>qm (y i F) λa1 us1 q1 e1 m1 t1 t1' b=>?_;subst b;refine qm (y j hj) λa2 us2 q2 e2 m2 t2 t2' b=>?_;subst b;refine B ?_;unfold kas_ask;exact aa e1<|aa e2<|IK (s:={s1 with heap:=h',toks:=tk}) (N' _<|.tail _ m1).1 rfl (N' _<|.tail _ m2).1 rfl λtk'=>hC _ ⟨tk',rfl⟩
 ·refine Xq Y λtk b=>?_;subst b
  have hD:D∉N1.map (·.1):=λhm=>by exact ag (Yp.mp hm) λp o e=>lt_irrefl _<|e▸hlt p o
  refine KasFin.intro (s:={s1 with heap:=h',toks:=tk}) F' N' (.head λp o e=>hD<|Yp.mpr ⟨p,o,e⟩) λh2 M F2 N2=>?_;have hno:¬own I D:=J.aae (λp o e=>hD<|Yp.mpr ⟨p,o,e⟩) (N2 _<|.head _).2.2;have U:=i7 g<|KM O;have hin:∀i∈jh g,i<k.length:=λi F=>by have:=U.mem_iff.mp F;refine aa R ?_;simpa using this
  have E0:a5 aO I N1 (I++[(D,D)])<|(D,W.listOf (List.toArray<|(jh g).map λi=>vs.getD i Value.none) M)::N1:=a5.app (λ_ o=>.tail _ o) λp o=>⟨sD hD p o,sD hD p o⟩;have z:=J.aba (s':={s1 with heap:=h2,toks:=tk}) hno hD F2 N2 (ao:=.l<|(jh g).map λi=>k.getD i .n) ⟨rfl,_,M,.head _,(hv.pick _ hin).XW E0⟩;exact c _ _ _ _ z.1 (E1.trans z.2) ⟨_,J.last _,rfl⟩
end
structure j7(ρ:Yn)(N:Led)(Zl:Yn)(N':Led):Prop where
 pre:∃t,Zl=ρ++t
 keep:∀a vs n,(a,jn vs n)∈N->¬own ρ a->(a,jn vs n)∈N'/\¬own Zl a
def j7.get {b a:Yn}{N d:Led}(x:j7 b N a d){i:Nat}{c:Addr×Addr}(h:b[i]?=some c):a[i]?=some c:=by
 refine Xq x.pre λt e=>?_;clear x;subst e;rw[Yu]
 ·exact h
 ·exact(Yl.mp h).1
def a5.toT (x:a5 aO d N b N'):j7 d N b N':=⟨x.pre,λa v n h c=>⟨x.keep _ h c id,x.apart _ h c⟩⟩
section
variable{ρ Zl:Yn}{N N':Led}(x:j7 ρ N Zl N')
include x
mutual
theorem bY.Yh:∀{v:V}{u:Value},bY ρ N v u->bY Zl N' v u
 | .n,_,h=>h
 | .b _,_,h=>h
 | .i _,_,h=>h
 | .s _,_,h=>h
 | .t l,_,h=>by exact cps λC k=>cD h λa j n e g i f=>XG (λh1 b=>(k<|⟨a,j,n,e,h1,b,XH.Yh f⟩))<|x.keep _ _ _ g i
 | .r _,_,h=>by exact ag h λc d e=>⟨c,x.get d,e⟩
theorem XH.Yh:∀{v:List V}{u:List Value},XH ρ N v u->XH Zl N' v u
 | [],_,h=>h
 |v::l,_,h=>by exact cps λC k=>am h λb r e h1 a=>k<|⟨b,r,e,bY.Yh h1,XH.Yh a⟩
end
theorem FN.Yh{l:List<|Nat×V}:∀{es:List DictEntry},FN names ρ N l es->FN names Zl N' l es:=by
 induction l with
 |nil=>exact id
 |cons p l i=>exactλh=>iv h λe r a b d c=>⟨e,r,a,b,d.Yh x,i c⟩
theorem xi.Yh{l:List<|List Nat×V}:∀{es:List<|Str×Value},xi ρ N l es->xi Zl N' l es:=by
 induction l with
 |nil=>exact id
 |cons p l i=>exactλh=>am h λe r a c b=>⟨e,r,a,c.Yh x,i b⟩
theorem uN.Yh{l:List<|Int×V}:∀{es:List<|Int×Value},uN ρ N l es->uN Zl N' l es:=by
 induction l with
 |nil=>exact id
 |cons p l i=>exactλh=>am h λe r a c b=>⟨e,r,a,c.Yh x,i b⟩
theorem yY.Yh(k:∀p∈N,p.1=c.1\/p.1=c.2->p∈N')(h:yY P ρ N c o):yY P Zl N' c o:=by
 cases o with
 |l l=>exact⟨h.1,h.2.imp λ_ h=>h.imp λ_ h=>⟨k _ h.1<|.inl rfl,h.2.Yh x⟩⟩
 |dS l=>exact⟨h.1,h.2.imp λ_ h=>h.imp λ_ h=>⟨k _ h.1<|.inl rfl,h.2.1,h.2.2.Yh x⟩⟩
 |dI l=>exact⟨h.1,h.2.imp λ_ h=>h.imp λ_ h=>⟨k _ h.1<|.inl rfl,h.2.1,h.2.2.Yh x⟩⟩
 |i c f=>exact⟨k _ h.1<|.inl rfl,h.2.imp λ_ h=>h.imp λ_ h=>⟨k _ h.1<|.inr rfl,h.2.1.Yh x,h.2.2⟩⟩
 |ro n=>exact h
end
def bB (o:Obj):Prop:=∀v n,o≠jn v n
def bB.fields (h:o.data=.fields f):bB o:=λv n e=>by rw[e]at h;cases h
def bB.cls (h:o.cls≠.type "tuple"):bB o:=λv n e=>h<|aa e rfl
def bB.ns (h:NsObj o m):bB o:=λv n e=>by refine dJ h λc b a _=>?_;rw[e]at a;cases a
def bB.cell (h:o.data=.cell v):bB o:=λa n e=>by rw[e]at h;cases h
noncomputable def but(I:Addr)(N:Led):Led:=N.filter λp=>decide (p.1≠I)
def gb {I:Addr}{N:Led}{p:Addr×Obj}:p∈but I N↔p∈N/\p.1≠I:=by simp[but]
def OA {I:Addr}{N:Led}(h:(N.map (·.1)).Nodup):((but I N).map (·.1)).Nodup:=List.Nodup.sublist (List.Sublist.map _ List.filter_sublist) h
def fc (f:(N.map (·.1)).Nodup)(b:(I,obj)∈N)(d:bB obj):j7 ρ N ρ<|rep1 I obj' N:=
 ⟨⟨[],by simp⟩,λa v n h c=>⟨aX h λe=>d v n<|fa f b (show(I,jn v n)∈N by refine dG (show a=I from e) ?_;exact h),c⟩⟩
def jr {b:Yn}{N:Led}{I:Addr}{o:Obj}(g:(N.map (·.1)).Nodup)(c:(I,o)∈N)(f:bB o):j7 b N b<|but I N:=
 ⟨⟨[],by simp⟩,λa v n h d=>⟨gb.mpr ⟨h,λe=>f v n<|fa g c (show(I,jn v n)∈N by refine dG (show a=I from e) ?_;exact h)⟩,d⟩⟩
section
variable{P:bi}{Xp:Heap}{L:Addr}{m m':Str->Option Value}{ρ:Yn}{N:Led}{H:Hp}{s s':Shared}
def St.acj (X:St P Xp L m ρ N H s)(l:(I,obj)∈N)(n:¬own ρ I)(t:bB obj)(f:Fr Xp L s'.heap m')(k:News Xp L s'.heap<|rep1 I a N)(d:s'.os=s.os/\s'.gens=s.gens:=by trivial):St P Xp L m' ρ (rep1 I a N) H s':=
 ⟨f,k,by rw[uz];exact X.j,⟨X.rep.1,λi c o b h=>(X.rep.2 i c o b h).Yh (fc X.j l t) λp r e=>aX r λq=>n (by
  rcases e with e|e
  ·refine dG q<|aa e ?_;exact(de b).1
  ·refine dG q<|aa e ?_;exact(de b).2)⟩,X.sep,X.old,⟨d.1.trans X.env.1,d.2.trans X.env.2⟩⟩
def St.abz (X:St P Xp L m ρ N H s){I:Addr}{a:Obj}(l:(I,a)∈N)(n:¬own ρ I)(t:bB a)(f:Fr Xp L s'.heap m')(k:News Xp L s'.heap<|but I N)(d:s'.os=s.os/\s'.gens=s.gens:=by trivial):St P Xp L m' ρ (but I N) H s':=
 ⟨f,k,OA X.j,⟨X.rep.1,λi c o b h=>(X.rep.2 i c o b h).Yh (jr X.j l t) λp r e=>gb.mpr ⟨r,λq=>n (by
  rcases e with e|e
  ·refine dG q<|aa e ?_;exact(de b).1
  ·refine dG q<|aa e ?_;exact(de b).2)⟩⟩,X.sep,X.old,⟨d.1.trans X.env.1,d.2.trans X.env.2⟩⟩
def xd (F:Fr Xp L h m)(d:∀b o,b≠I->h.get? b=some o->a.get? b=some o)(hL:I≠L)(hI:Xp.get? I=none):Fr Xp L a m:=
 fr_but F (λb o c e=>d b o (by simpa using c) e) (X0 hL) hI
def qp (c:News Xp L h N)(k:(I,obj)∈N)(j:∀b o,b≠I->h.get? b=some o->f.get? b=some o)(i:f.get? I=some a):News Xp L f<|rep1 I a N:=λp d=>by
 refine ag (Yp.mp d) λq g e=>?_;by_cases hI:q.1=I
 ·simp only[hI,if_true]at e
  clear d;subst e;exact⟨i,(c _ k).2⟩
 ·simp only[hI,if_false]at e
  clear d;subst e;exact⟨j _ _ hI (c _ g).1,(c _ g).2⟩
def IB {h c:Heap}{I:Addr}(a:News Xp L h N)(e:∀b o,b≠I->h.get? b=some o->c.get? b=some o):News Xp L c<|but I N:=λp f=>by exact XG (λh1 d=>(⟨e _ _ d (a _ h1).1,(a _ h1).2⟩))<|gb.mp f
def St.turned (X:St P Xp L m ρ N H s)(h:(I,obj)∈N)(f:¬own ρ I)(i:bB obj)(d:∀b o,b≠I->s.heap.get? b=some o->c.get? b=some o)(e:c.get? I=some a):
  St P Xp L m ρ (rep1 I a N) H {s with heap:=c,toks:=tk}:=
 X.acj (s':={s with heap:=c,toks:=tk}) h f i (xd X.F d (X.g _ h).2.1 (X.g _ h).2.2) (qp X.g h d e)
def St.gone (X:St P Xp L m ρ N H s){I:Addr}{a:Obj}{h:Heap}{tk:Nat}(c:(I,a)∈N)(e:¬own ρ I)(f:bB a)(d:∀b o,b≠I->s.heap.get? b=some o->h.get? b=some o):
  St P Xp L m ρ (but I N) H {s with heap:=h,toks:=tk}:=
 X.abz (s':={s with heap:=h,toks:=tk}) c e f (xd X.F d (X.g _ c).2.1 (X.g _ c).2.2) (IB X.g d)
def St.adopt (X:St P Xp L m ρ N H s)(k:(D,o)∈N)(b:¬own ρ D)(p:bB o)(hO:j7 ρ N (ρ++[(D,D)]) N->yY P (ρ++[(D,D)]) N (D,D) ao):
  St P Xp L m (ρ++[(D,D)]) N (H++[ao]) s/\j7 ρ N (ρ++[(D,D)]) N:=by
 have E:j7 ρ N (ρ++[(D,D)]) N:=⟨⟨_,rfl⟩,λa v n h f=>⟨h,λd=>(rv d).elim f λe=>by clear d hO f b;obtain rfl:a=D:=e.elim id id;exact p v n<|fa X.j k h⟩⟩
 exact⟨⟨X.F,X.g,X.j,X.rep.app (λi c r _ q=>q.Yh E λ_ l _=>l)<|hO E,X.sep.app b b,X.old,X.env⟩,E⟩
end
def a5.rep1 (E:a5 aO e N a b)(h:∀p∈N,p.1≠I):a5 aO e N a<|rep1 I o b:=⟨E.pre,λp c d _=>aX (E.keep p c d id)<|h p c,E.apart⟩
def a5.but {d a:Yn}{N b:Led}(E:a5 aO d N a b){I:Addr}(h:∀p∈N,p.1≠I):a5 aO d N a<|but I b:=⟨E.pre,λp c e _=>gb.mpr ⟨E.keep p c e id,h p c⟩,E.apart⟩
def a5.aea (E:a5 aO f N a aeb)(h:∀p∈N,p.1≠D):a5 aO f N (a++[(D,D)]) aeb:=by exact Xq E.pre λt e=>⟨⟨t++[(D,D)],by rw[e,X1]⟩,E.keep,λp b d c=>(rv c).elim (E.apart p b d) λe=>h p b<|e.elim id id⟩
def nQ (P:bi)(A:Around)(e:Heap)(L:Addr)(c:Yn)(d:Led)(I:Addr)(k:Nat->Obj->Prop)(l:Hp->Bool)(g:List V):Prop:=
 ∀⦃m:Str->Option Value⦄ ⦃j:Yn⦄ ⦃N:Led⦄ ⦃H:Hp⦄ ⦃s:Shared⦄ ⦃i:Nat⦄ ⦃f:Obj⦄,St P e L m j N H s->j7 c d j N->(I,f)∈N->k i f->l H=true->i<=g.length->∀⦃Q:Option Value->Shared->Prop⦄ ⦃E:Value->Shared->Prop⦄,
  (∀v u a h t,g[i]?=some v->bY j N v u->k (i+1) a->(∀b o,b≠I->s.heap.get? b=some o->h.get? b=some o)->h.get? I=some a->Q (some u) {s with heap:=h,toks:=t})->
  (∀h t,i=g.length->(∀b o,b≠I->s.heap.get? b=some o->h.get? b=some o)->Q none {s with heap:=h,toks:=t})->wpAny (model P.p P.w) A (pyNext<|.ref I) Q E s
section
variable{P:bi}{A:Around}{Xp:Heap}{L:Addr}{ρ₀:Yn}{N₀:Led}
def yE (h:aZ a v H=true):H[a]?=some (.l v):=by
 unfold aZ at h;cases e:H[a]? with
 |none=>rw[e]at h;exact eI h nt
 |some o=>
  rw[e]at h;clear e;cases o with
  |l k=>exact aa (aap (v:=k) h) rfl
  |_=>exact eI h nt
def u0 (D:A.handled=none){I:Addr}{a:Nat}{c:Addr×Addr}{vs:List V}(z:ρ₀[a]?=some c)(hI:c.1≠I):nQ P A Xp L ρ₀ N₀ I (λi o=>o.cls=.type "list_iterator"/\o.data=.fields #[.ref c.1,.int i 0]) (aZ a vs) vs:=
 λm X N H s i r S E G J F v Q U R T=>by
 refine bP (S.rep.2 _ _ _ (E.get z)<|yE F) λ_ W n l x=>?_;have w:=fK S.g l;have d:s.heap.IsListIter I c.1 i:=⟨r,(S.g _ G).1,J⟩;have y:=x.length;by_cases h:i<vs.length
 ·have t:vs[i]?=some vs[i]:=XQ h
  exact ag (x.get t) λu M O=>wpAny_pyNext_list_item d w (x:=u) (by simpa using M) λj f q=>ag f λg C p=>R _ u g j s.toks t O p (λb o k e=>q.extBut b o k e) C
 ·exact wpAny_pyNext_list_end D d w (by simp[y];exact aK 0x1048010db600825b tq v h) λj B=>T j s.toks (Zu (kh v)<|wD h) λb o k e=>B b o k e
def FQ (J:A.handled=none){I t:Addr}{vs:List V}{g:List Value}{n:Nat}(T:(t,jn g n)∈N₀)(R:¬own ρ₀ t)(U:XH ρ₀ N₀ vs g)(hI:t≠I):nQ P A Xp L ρ₀ N₀ I (λi o=>o.cls=.type "tuple_iterator"/\o.data=.fields #[.ref t,.int i 0]) (λ_=>true) vs:=
 λm ρ N H s i q S E M l hk B Q E' Y k2=>by
 have C:=jz S.g (E.keep _ _ _ T R).1;have d:=U.Yh E;have y:=d.length;have W:=Walks.tuple (prog:=P.p) (w:=P.w) J I t hI g.toArray;have c:s.heap.IsTupleIter I t i:=⟨q,(S.g _ M).1,l⟩;by_cases h:i<vs.length
 ·have z:vs[i]?=some vs[i]:=XQ h
  refine ag (d.get z) λu D X=>W.item i s _ _ (by simp[y];exact h) ⟨c,C⟩ λv j w F r a=>ag r.1 λf G p=>?_;have:v=u:=by
   have x:g[i]?=some v:=by simpa using F
   rw[D]at x;exact(Zd x).symm
  clear D;subst this;exact Y _ v f j w z X p (λb o k e=>a b o (by simpa using k) e) G
 ·have O:i=g.toArray.size:=by simp[y];exact Zu (kh B)<|wD h
  refine W.done s _ _ (O▸⟨c,C⟩) λj w a=>k2 j w (Zu (kh B)<|wD h) λb o k e=>a b o (by simpa using k) e
end
theorem yx:∀(n:Nat) (a s:Int) (i:Nat),i<n->(bS a n s)[i]?=some (.i<|a+i*s)
 |0,_,_,i,h=>Xw h<|aah _
 |n+1,a,s,0,_=>by simp[oy]
 |n+1,a,s,i+1,h=>by
  have:=yx n (a+s) s i<|Y2 ‹_›;simp[oy,this];rw[ZN];congr 1
  push_cast
  rw[Int.add_mul,Int.one_mul];exact Int.add_comm _ _
theorem k8:∀(n:Nat) (a s:Int),(bS a n s).length=n
 |0,_,_=>rfl
 |n+1,a,s=>by simp[oy,k8 n]
section
variable{P:bi}{A:Around}{Xp:Heap}{L:Addr}{ρ₀:Yn}{N₀:Led}
def qh {I:Addr}{n:Nat}{x:Nat->Value->Prop}{St:Nat->Heap->Prop}{vs:List V}(W:Walks P.p P.w A I [I] [I] n x St)(g:vs.length=n)(J:∀i v u B N,vs[i]?=some v->x i u->bY B N v u)
  (q:Nat->Obj->Prop) (h1:∀i (h:Heap) o,h.get? I=some o->q i o->St i h) (C:∀i h,St i h->∃o,h.get? I=some o/\q i o):nQ P A Xp L ρ₀ N₀ I q (λ_=>true) vs:=
 λm B N H s i r S E G l T z Q R M O=>by
 have d:=h1 i s.heap r (S.g _ G).1 l;by_cases c:i<vs.length
 ·have y:vs[i]?=some vs[i]:=XQ c
  exact W.item i s _ _ (ba 0x2098441a6c4004b620067b tq c z g) d λv j w D t a=>ag (C _ _ t) λf F p=>M _ v f j w y (J _ _ _ _ _ y D) p (λb o k e=>a b o (by simpa using k) e) F
 ·have g:i=n:=(Zu z<|Z4 c).trans g
  refine W.done s _ _ (g▸d) λj w a=>O j w (HX ‹_› ‹_›) λb o k e=>a b o (by simpa using k) e
def HG (P:bi)(A:Around)(I:Addr)(a:Nat->Obj->Prop):Prop:=∀(i:Nat) (o:Obj) (s:Shared) (Q E:Value->Shared->Prop),s.heap.get? I=some o->a i o->Q (.ref I) s->wpAny (model P.p P.w) A (pyIter<|.ref I) Q E s
def jX (P:bi)(A:Around)(Xp:Heap)(L:Addr)(m:Str->Option Value)(c:Yn)(N:Led)(H:Hp)(d:Hp->Bool)(v:List V)(Q:Value->Shared->Prop):Prop:=
 ∀I a s b,St P Xp L m c ((I,a)::N) H s->(∀p∈N,p.1≠I)->¬own c I->b 0 a->nQ P A Xp L c N I b d v->(∀i o,b i o->∃f,o.data=.fields f)->HG P A I b->Q (.ref I) s
variable{m:Str->Option Value}{ρ:Yn}{N:Led}{H:Hp}{s:Shared}{E:Value->Shared->Prop}
def St.Zh (S:St P Xp L m ρ N H s)(o)(h:o.isFreed=false:=by trivial):
  St P Xp L m ρ ((s.heap.objs.size,o)::N) H {s with heap:=s.heap.push o}/\(∀p∈N,p.1≠s.heap.objs.size)/\¬own ρ s.heap.objs.size:=
 ⟨S.push (s':={s with heap:=s.heap.push o}) (XC _) (S.F.push o)<|S.g.push S.F o h,λp a=>Yd<|YA (S.g p a).1,(S.YV (o:=o)<|XC _).2⟩
def Hr (I:A.handled=none)(S:St P Xp L m ρ N H s){v:V}{u:Value}(w:bY ρ N v u){T:List V}{g:Option Nat}(h:qY H v=some (T,g)){Q:Value->Shared->Prop}(k:jX P A Xp L m ρ N H (jt g T) T Q):
  wpAny (model P.p P.w) A (pyIter u) Q E s:=by
 refine cps λC M=>?_;cases v with
 |t l=>cases h;refine cD w λa Y n f p y J=>?_;clear w;subst f;exact bU (S.Zh {cls:=.type "tuple_iterator",data:=.fields #[.ref a,.int 0 0]}) λz d x=>M<|wpAny_pyIter_tuple (jz S.g p)<|k _ _ _ (λi o=>o.cls=.type "tuple_iterator"/\o.data=.fields #[.ref a,.int i 0]) z d x ⟨rfl,rfl⟩ (FQ I p y J<|d _ p) (λi o h=>⟨_,h.2⟩) λi o O Q E j b q=>wpAny_pyIter_tupleiter (i:=i) ⟨o,j,b⟩ q
 |s t=>
  cases h;refine Xq w λF f=>?_;clear w;subst f;refine bU (S.Zh {cls:=.type<|strIterType<|S2 t,data:=.fields #[.str (S2 t) F,.int 0 0]}) λz d x=>?_;have B:(t.map λc=>V.s [c]).length=(S2 t).cps.size:=by simp[S2]
  have D:∀(i:Nat) (v:V) (u:Value) (ρ:Yn) (N:Led),(t.map λc=>V.s [c])[i]?=some v->SignAt (S2 t) i u->bY ρ N v u:=λi v u ρ N e W=>by
   refine dJ W λc q G f=>?_;clear W;subst f;rw[YN]at e;have e:=e;have:t[i]?=some c:=by simpa [S2]using G
   rw[this]at e;have e:=e;cases e;exact⟨q,rfl⟩
  refine M<|wpAny_pyIter_strU ?_;by_cases U:(S2 t).cps.all (·<128)=true
  ·have e:strIterType (S2 t)="str_ascii_iterator":=by unfold strIterType;exact aa (Xr U) rfl
   rw[e]at z⊢;exact k _ _ _ (λi o=>o.cls=.type "str_ascii_iterator"/\o.data=.fields #[.str (S2 t) F,.int i 0]) z d x ⟨rfl,rfl⟩ (qh (Walks.strAscii I _ (S2 t) F) B D _ (λi h o y b=>⟨o,y,b⟩) λi h R=>R) (λi o h=>⟨_,h.2⟩) λi o O Q E j b q=>wpAny_pyIter_striter_ascii (i:=i) ⟨o,j,b⟩ q
  ·have e:strIterType (S2 t)="str_iterator":=by unfold strIterType;exact aa (Xu U) rfl
   rw[e]at z⊢;exact k _ _ _ (λi o=>o.cls=.type "str_iterator"/\o.data=.fields #[.str (S2 t) F,.int i 0]) z d x ⟨rfl,rfl⟩ (qh (Walks.strWide I _ (S2 t) F) B D _ (λi h o y b=>⟨o,y,b⟩) λi h R=>R) (λi o h=>⟨_,h.2⟩) λi o O Q E j b q=>wpAny_pyIter_striter_wide (i:=i) ⟨o,j,b⟩ q
 |r a=>refine tT h λl J h=>cx h λ_ h=>?_;cases h;refine ag w λc G f=>?_;clear w;subst f;exact bP (S.rep.2 _ _ _ G J) λ_ Y n p X=>bU (S.Zh {cls:=.type "list_iterator",data:=.fields #[.ref c.1,.int 0 0]}) λz d x=>M<|wpAny_pyIter_list (fK S.g p)<|k _ _ _ (λi o=>o.cls=.type "list_iterator"/\o.data=.fields #[.ref c.1,.int i 0]) z d x ⟨rfl,rfl⟩ (u0 I G<|d _ p) (λi o h=>⟨_,h.2⟩) λi o O Q E j b q=>wpAny_pyIter_listiter (i:=i) ⟨o,j,b⟩ q
 |_=>exact cE h nt
end
section
variable{P:bi}{A:Around}{Xp:Heap}{L:Addr}{m:Str->Option Value}{ρ:Yn}{N:Led}{H:Hp}{s:Shared}{E:Value->Shared->Prop}
def JD (b:IsRangeIter h I (a+(i:Nat)*c) ((n:Int)-(i:Nat)) c):∃o,h.get? I=some o/\o={cls:=.type "range_iterator",data:=.fields #[rawInt<|a+(i:Int)*c,rawInt<|(n:Int)-(i:Nat),rawInt c]}:=⟨_,b,rfl⟩
def tc (w:A.handled=none)(S:St P Xp L m ρ N H s){r:Addr}{a b c:Int}{t u v:Tok}{n:Nat}(y:IsRange s.heap r a b c t u v)(z:Builtin.Range.small a b c=true)(x:Builtin.Range.rangeSize a b c=(n:Int)){Q:Value->Shared->Prop}
  (k:jX P A Xp L m ρ N H (λ_=>true) (bS a n c) Q):wpAny (model P.p P.w) A (pyIter<|.ref r) Q E s:=by
 refine wpAny_pyIter_range y z<|aa x<|bU (S.Zh {cls:=.type "range_iterator",data:=.fields #[rawInt a,rawInt (n:Int),rawInt c]}) λC D F=>k _ _ _ (λi o=>o={cls:=.type "range_iterator",data:=.fields #[rawInt<|a+(i:Int)*c,rawInt<|(n:Int)-(i:Nat),rawInt c]}) C D F ?_ ?_ (λi o h=>⟨_,Xs Obj.data h⟩) λi o G Q E g d q=>wpAny_pyIter_rangeiter (by rw[d]at g;exact g) q
 ·show _=_
  simp
 refine qh (Walks.range w _ a c n) (k8 _ _ _) (λi v u ρ N e f=>?_) _ (λi h o l d=>?_) λi h B=>JD B
 ·refine Xq f λt p=>?_;clear f;subst p
  by_cases j:i<n
  ·rw[yx n a c i j]at e
   have e:=e;cases e;exact⟨t,rfl⟩
  ·rw[aai<|by rw[k8];exact aK 0x8240086db tq j]at e
   exact cE e nt
 ·rw[d]at l
  exact l
def F6 (U:A.handled=none)(R:g[a]?=some c)(hI:c.1≠I):
  nQ P A Xp L g C I (λi o=>o.cls=.type "list_reverseiterator"/\o.data=.fields #[.ref c.1,rawInt<|(v.length:Int)-1-(i:Int)]) (aZ a v) v.reverse:=
 λm ρ N H s i y S E Y x X q Q E' M k2=>by
 rw[Zf]at q;refine bP (S.rep.2 _ _ _ (E.get R)<|yE X) λ_ j n w J=>?_;have F:=fK S.g w;have el:=J.length;have W:=Walks.listRev (prog:=P.p) (w:=P.w) U I c.1 hI j.toArray;have d:j.toArray.size=v.length:=by trivial
 have k:s.heap.IsRevIter I c.1<|(j.toArray.size:Int)-1-(i:Int):=⟨y,(S.g _ Y).1,x.1,by refine aa d ?_;exact x.2⟩;by_cases h:i<v.length
 ·refine W.item i s _ _ (ba 0x2098821e6c4004b620067b tq h q d) ⟨ba 0x1048410f3620067b tq h d,k,F⟩ λu r B O z f=>ag z.2.1 λp T l=>ag (J.get<|XQ (l:=v) (i:=v.length-1-i)<|Vy h) λu' G hz=>?_
  have:u=u':=by
   have D:j[j.toArray.size-1-i]?=some u:=by simpa using O
   rw[d,G]at D;exact(Zd D).symm
  clear G;subst this;rw[d]at l;exact M _ u p r B (by refine aa (List.getElem?_reverse h) ?_;exact XQ _:v.reverse[i]?=some (v[v.length-1-i]'(Vy h))) hz l (λb o t e=>f b o (by simpa using t) e) T
 ·have hn:i=j.toArray.size:=(Zu q<|Z4 h).trans d.symm
  clear q h x M;subst hn;exact W.done s _ _ ⟨bC 0x12 tq,k,F⟩ λr B f=>k2 r B (by refine aa Zf ?_;exact aK 0x82810069b tq d) λb o t e=>f b o (by simpa using t) e
section
variable{cl:Cl}{env:Env}{Γ:NC}(X:EX P cl A env Xp L m Γ)
include X
theorem nz{e:Expr}{r:ME}{p g:Pos}(I:hF "range" Γ=true)(q:au e=true)(D:ar P cl A env Xp L m Γ e r){l:Lo}{n:Int}{i:Hp}(S:St P Xp L m ρ N H s)(Lo:rj env L m Γ.vars ρ N l)(h:ai cl l r H=some (.i n,i))(o:0<=n)(h1:n<=1000000)
  {Q:Value->Shared->Prop} (k:∀a c,a5 aO ρ N a c->jX P A Xp L m a c i (λ_=>true) (bS 0 n.toNat 1) Q):
  wpAny (model P.p P.w) A (eval (.Call (.Name "range" p) [e] [] g) env) (λO b=>wpAny (model P.p P.w) A (pyIter O) Q E b) E s:=by
 obtain⟨z,B⟩:=lG I;refine Call_ (t9 X S B (by decide+kernel) (X.a.b _ z) (v:=.type "range") (by decide+kernel) (by decide+kernel) ?_) (by rfl);refine callWith_type1 (Y0 (D S Lo h λu J a c f y j=>args_nil ?_)<|ap q [] env) (ap q [] env) rfl;simp only[sS,tQ,r7,qF,to,tG]at j;obtain⟨t,rfl⟩:=j;refine range1_rows f.F f.g λC M v w x G F d R=>tc X.h (f.same (s':={J with heap:=C,toks:=M}) F d) G (small_one (by decide) (by decide) (Yg (by decide) o)<|aav h1<|by decide) ?_<|k _ _ y;unfold Builtin.Range.rangeSize;simp only[gt_iff_lt,show(0:Int)<1 by decide,if_true,Int.ediv_one];split
 ·exact WD o
 ·exact VP ‹_›
theorem AL{e:Expr}{x:ME}{p o b c U W:Pos}{R T:Nat}(O:hF "range" Γ=true)(w:au e=true)(J:ar P cl A env Xp L m Γ e x){l:Lo}{n:Int}{r:Hp}(S:St P Xp L m ρ N H s)(Lo:rj env L m Γ.vars ρ N l)(h:ai cl l x H=some (.i n,r))(j:-1<=n)(h1:n<=1000000)
  {Q:Value->Shared->Prop} (k:∀a f,a5 aO ρ N a f->jX P A Xp L m a f r (λ_=>true) (bS n (n+1).toNat<|-1) Q):
  wpAny (model P.p P.w) A (eval (.Call (.Name "range" p) [e,.UnaryOp .USub (.Constant (.int 1) R b) c,.UnaryOp .USub (.Constant (.int 1) T U) W] [] o) env) (λxv d=>wpAny (model P.p P.w) A (pyIter xv) Q E d) E s:=by
 obtain⟨D,G⟩:=lG O;refine Call_ (t9 X S G (by decide+kernel) (X.a.b _ D) (v:=.type "range") (by decide+kernel) (by decide+kernel) ?_) (by rfl);refine callWith_type1 (Y0 (J S Lo h λu Y a f i C v=>Y0 (UnaryOp_<|aaj<|neg_int<|Y0 (UnaryOp_<|aaj<|neg_int<|args_nil ?_)<|ap rfl _ env)<|ap rfl _ env)<|ap w _ env) (ap w _ env) (pt rfl).1;simp only[sS,tQ,r7,qF,to,tG]at v;obtain⟨t,rfl⟩:=v;refine range3_rows (s:=_) (F:=i.F) (N:=i.g) (by decide) (λI tk y z B M F g hk=>?_) (Or.inl<|PyProof.noPylong_small<|by decide);have S2:=i.same (s':={Y with heap:=I,toks:=tk}) F g;refine tc (n:=(n+1).toNat) X.h S2 M ?_ ?_<|k _ _ C
 ·unfold Builtin.Range.small Builtin.Range.rangeSize
  simp only[Builtin.Range.rangeFitsLong,gt_iff_lt,Xv,YO,X5,YF,show¬(0:Int)< -1 by decide,if_false,Int.neg_neg,Int.ediv_one];have q:=aav (aab h1 1) (by decide:(1000000+1:Int)<2 ^ 63);split
  ·exact WF (by decide) (by decide) j q
  ·exact Wx (by decide) (by decide) (by decide) j q
 ·unfold Builtin.Range.rangeSize
  simp only[gt_iff_lt,show¬(0:Int)< -1 by decide,if_false,Int.neg_neg,Int.ediv_one];split
  ·exact WM j
  ·exact W7 ‹_›
theorem IT{e:Expr}{C:ME}{p w:Pos}(U:hF "reversed" Γ=true)(B:au e=true)(M:ar P cl A env Xp L m Γ e C){l:Lo}{r:Nat}{k:List V}{f:Hp}(S:St P Xp L m ρ N H s)(Lo:rj env L m Γ.vars ρ N l)(h:ai cl l C H=some (.r r,f))(R:f[r]?=some (.l k))
  {Q:Value->Shared->Prop} (W:∀a g,a5 aO ρ N a g->jX P A Xp L m a g f (aZ r k) k.reverse Q):
  wpAny (model P.p P.w) A (eval (.Call (.Name "reversed" p) [e] [] w) env) (λxv d=>wpAny (model P.p P.w) A (pyIter xv) Q E d) E s:=by
 refine XG (λG I=>Call_ (t9 X S I (by decide+kernel) (X.a.b _ G) (v:=.type "reversed") (by decide+kernel) (by decide+kernel) ?_)<|by rfl)<|lG U;refine callWith_type1 (Y0 (M S Lo h λu Y a g j F t=>args_nil ?_)<|ap B [] env) (ap B [] env) rfl;simp only[sS,tQ,r7,qF,to,tG]at t;refine ag t λc y J=>?_;clear t;subst J;refine bP (j.rep.2 _ _ _ y R) λ_ x n z T=>call_reversed_list (fK j.g z)<|bU (j.Zh<|revObj c.1<|(x.toArray.size:Int)-1) λz1 D z3=>?_;have b:(revObj c.1<|(x.toArray.size:Int)-1).cls=.type "list_reverseiterator"/\(revObj c.1<|(x.toArray.size:Int)-1).data=.fields #[.ref c.1,rawInt<|(k.length:Int)-1-((0:Nat):Int)]:=⟨rfl,by simp[revObj,T.length]⟩;refine wpAny_pyIter_revIter (i:=(k.length:Int)-1-((0:Nat):Int)) ⟨_,Heap.get?_push_size _ rfl,b⟩ ?_;exact W _ _ F _ _ _ _ z1 D z3 b (F6 X.h y<|D _ z) (λi o h=>⟨_,h.2⟩) λi o Y Q E O v q=>wpAny_pyIter_revIter (i:=(k.length:Int)-1-(i:Int)) ⟨o,O,v⟩ q
theorem vO{e:Expr}{i:ME}(o:ar P cl A env Xp L m Γ e i){l:Lo}{v:V}{f:List V}{g:Option Nat}{c:Hp}(S:St P Xp L m ρ N H s)(Lo:rj env L m Γ.vars ρ N l)(h:ai cl l i H=some (v,c))(p:qY c v=some (f,g))
  {Q:Value->Shared->Prop} (q:∀a d,a5 aO ρ N a d->jX P A Xp L m a d c (jt g f) f Q):
  wpAny (model P.p P.w) A (eval e env) (λx b=>wpAny (model P.p P.w) A (pyIter x) Q E b) E s:=
 o S Lo h λu r a d k j n=>Hr X.h k n p<|q _ _ j
end
end
section
variable{P:bi}{cl:Cl}{A:Around}{env:Env}{Xp:Heap}{L:Addr}{m:Str->Option Value}{Γ:NC}{ρ:Yn}{N:Led}{H H':Hp}{s:Shared}{E:Value->Shared->Prop}
def sU (P:bi)(A:Around)(Xp:Heap)(L:Addr)(m:Str->Option Value)(a:Env)(x:Str)(l:List Expr)(k:Expr)(g:Yn)(i:Led)(f:V->Hp->Option (Option V×Hp)):Prop:=
 ∀⦃ρ:Yn⦄ ⦃N:Led⦄ ⦃H:Hp⦄ ⦃s:Shared⦄ ⦃v:V⦄ ⦃u:Value⦄ ⦃t:Obj⦄ ⦃d:Str->Option Value⦄ ⦃r:Option V⦄ ⦃H':Hp⦄,St P Xp L m ρ N H s->a5 aO g i ρ N->(a.locals,t)∈N->¬own ρ a.locals->NsObj t d->d x=some u->bY ρ N v u->f v H=some (r,H')->
  ∀(n:Value->Shared->Prop) (p:Shared->Prop) (q:Value->Shared->Prop),(∀j b h,St P Xp L m b h H' j->a5 aO ρ N b h->r=none->p j)->
   (∀y w j b h,St P Xp L m b h H' j->a5 aO ρ N b h->r=some y->bY b h y w->q w j)->
   wpAny (model P.p P.w) A (forIn l true λc r=>if r=true then do let o<-isTrue c a (eval c a);pure (ForInStep.yield o)else pure<|ForInStep.yield r) (λo e=>
    if o=true then wpAny (model P.p P.w) A (eval k a) q n e else p e) n s
def vk (n:(N.map (·.1)).Nodup)(h:(a,o)∈N)(d:(b,f)∈N)(c:o≠f):a≠b:=λe=>by subst e;exact c<|fa n h d
def CX {v:List V}{H:Hp}{r:List V×Hp}(h:cL f o v H=some r):o H=true:=by cases v<;> exact uu h λq _=>q
def CJ (P:bi)(Xp:Heap)(L:Addr)(m:Str->Option Value)(I D C:Addr)(h:Nat->Obj->Prop)(ρ:Yn)(N:Led)(f:V->Hp->Option (Option V×Hp))(j:Hp->Bool)(v p:List V)(H':Hp)(k:Nat)(l:Shared):Prop:=
 ∀G:Prop,(∀a b c i y x e o g d n,k=v.length+1-i->i<=v.length->St P Xp L m a b c l->a5 aO ρ N a b->(I,o)∈b->h i o->¬own a I->(C,g)∈b->NsObj g d->¬own a C->(D,W.listOf (List.toArray y) n)∈b->¬own a D->XH a b x y->
   cL f j (v.drop i) c=some (e,H')->p=x++e->G)->G
def CJ.mk {P:bi}{Xp:Heap}{L:Addr}{m:Str->Option Value}{I D C:Addr}{j:Nat->Obj->Prop}{ρ:Yn}{N:Led}{f:V->Hp->Option (Option V×Hp)}{n:Hp->Bool}{v xs:List V}{H':Hp}{s':Shared}{a:Yn}{b:Led}{c:Hp}{i:Nat}{ys:List Value}{xs0 x:List V}{o l:Obj}{d:Str->Option Value}{y:Nat}
 (r:i<=v.length) (S:St P Xp L m a b c s') (E:a5 aO ρ N a b) (w:(I,o)∈b) (h:j i o) (F:¬own a I) (t:(C,l)∈b) (z:NsObj l d) (g:¬own a C) (u:(D,W.listOf (List.toArray ys) y)∈b) (B:¬own a D) (q:XH a b xs0 ys)
 (p:cL f n (v.drop i) c=some (x,H')) (e:xs=xs0++x):CJ P Xp L m I D C j ρ N f n v xs H' (v.length+1-i) s':=λ_ k=>k _ _ _ _ _ _ _ _ _ _ _ rfl r S E w h F t z g u B q p e
def wB (e:k=n+1-i)(h:i+1<=n):n+1-(i+1)<k:=e▸Nat.sub_lt_sub_left (lt_succ_of_lt h) (YX i)
def wt {a:List V}{i:Nat}{v:V}(h:a[i]?=some v):a.drop i=v::a.drop (i+1):=by exact aa (List.drop_eq_getElem_cons<|(Yl.mp h).1)<|aa ((Yl.mp h).2) rfl
def Tb (h:∀b:e->Shared->Prop,(∀a t,Q a t->b a t)->∀d,wpAny M A c b d s):wpAny M A c Q E s:=h Q (λ_ _ x=>x) E
def tH {elt iter:Expr}{x:Str}{px:Pos}{ifs:List Expr}{scope:Scope}{cls:List<|Str×Addr}{pos:Pos}{I:Addr}{w:Obj}{io:Nat->Obj->Prop}{ok:Hp->Bool}{vs xs:List V}{f:V->Hp->Option (Option V×Hp)}{R:Value->Addr->Result->Shared->Prop}
  (S:St P Xp L m ρ ((I,w)::N) H s) (hIN:∀p∈N,p.1≠I) (hIo:¬own ρ I) (hio:io 0 w) (nx:nQ P A Xp L ρ N I io ok vs) (hif:∀i o,io i o->∃fs,o.data=.fields fs) (aca:HG P A I io)
  (acv:∀y∈scope.names,y.2≠.cell) (X:scope.kind=.function) (hx:scope.names.lookup x=some .local)
  (hcg:cL f ok vs H=some (xs,H')) (hxs:xs.length<=1000000)
  (body:∀C,sU P A Xp L m (compEnvC scope cls C env) x ifs elt ρ N f)
  (hRR:∀D C oC m' s' z N',St P Xp L m z N' (H'++[.l xs]) s'->a5 aO ρ N z N'->bY z N' (.r H'.length) (.ref D)->(C,oC)∈N'->¬own z C->NsObj oC m'->(∀p∈N,p.1≠C)->R (.ref D) C (.ok .next) s'):
  wpAny (model P.p P.w) A (newList []) (λacc acw=>wpAny (model P.p P.w) A (newFunctionEnv scope env.globals cls [] env.qual none .none<|some env) (λacx aee=>
   codeAny (model P.p P.w) A (.compStart (.ListComp elt [⟨.Name x px,iter,ifs,0⟩] scope pos) 0 (.ref I) acc {acx with scope:=relabel scope env}) (R acc acx.locals) aee) E acw) E s:=by
 refine wpAny_newObj_type<|wpAny_newFunctionEnv acv (by intro y hy;simp at hy) (λj J q=>?_) X;have hC:(s.heap.push {cls:=.type "list",dict:=none,data:=.seq ([]:List Value).toArray}).objs.size=s.heap.objs.size+1:=by rw[Heap.size_push]
 generalize hH2:s.heap.push {cls:=.type "list",dict:=none,data:=.seq ([]:List Value).toArray}=H2 at J q hC⊢;have l:∀b,b<s.heap.objs.size->b≠H2.objs.size/\b≠s.heap.objs.size:=λb hb=>⟨by refine aa hC ?_;exact Yd<|lt_succ_of_lt hb,Yd hb⟩;have old:∀b o,s.heap.get? b=some o->j.get? b=some o:=λb o e=>q.extBut b o (l b<|YA e).1<|ZK _<|hH2▸ZK _ e;have T:s.heap.objs.size≠H2.objs.size:=by refine aa hC ?_;exact Yd<|YX _
 have aef:j.get? s.heap.objs.size=some (W.listOf ([]:List Value).toArray 0):=q.extBut _ _ T<|ZK _<|hH2▸Heap.get?_push_size _ rfl;refine ag (ns_obj J) λacb hgC ack=>?_
 -- the adt state
 have acy:Xp.get? s.heap.objs.size=none:=abv<|XJ S.F.above<|YR S.F.ns.lt;have acz:Xp.get? H2.objs.size=none:=abv (by refine aa hC ?_;exact Z3<|XJ S.F.above<|YR S.F.ns.lt);have hDL:s.heap.objs.size≠L:=(XB S.F.ns.lt);have hCL:H2.objs.size≠L:=by refine aa hC ?_;exact XB<|lt_succ_of_lt S.F.ns.lt
 have hDo:¬own ρ s.heap.objs.size:=(S.YV (o:=w)<|XC _).2;have hCo:¬own ρ H2.objs.size:=(S.YV (o:=w)<|by refine aa hC ?_;exact le_succ _).2;have hDN:∀p∈N,p.1≠s.heap.objs.size:=λp t=>Yd<|YA (S.g p<|.tail _ t).1;have hCN:∀p∈N,p.1≠H2.objs.size:=λp t=>(l _<|YA (S.g p<|.tail _ t).1).1;have U:I<s.heap.objs.size:=YA (S.g _<|.head _).1;have S1:St P Xp L m ρ ((s.heap.objs.size,W.listOf ([]:List Value).toArray 0)::(I,w)::N) H {s with heap:=j,toks:=s.toks+([]:List<|Str×Value).length}:=
  S.push (s':={s with heap:=j,toks:=s.toks+([]:List<|Str×Value).length}) (XC _) (S.F.keeps old) λp t=>by
   rcases XE.mp t with rfl|t
   ·exact⟨aef,hDL,acy⟩
   ·exact⟨old _ _ (S.g p t).1,(S.g p t).2⟩
 have S2:St P Xp L m ρ ((H2.objs.size,acb)::(s.heap.objs.size,W.listOf ([]:List Value).toArray 0)::(I,w)::N) H {s with heap:=j,toks:=s.toks+([]:List<|Str×Value).length}:=by
  have key:H2.objs.size∉((s.heap.objs.size,W.listOf ([]:List Value).toArray 0)::(I,w)::N).map (·.1):=λhm=>by
   rcases XE.mp hm with e|hm
   ·exact T e.symm
   ·rcases XE.mp hm with e|hm
    ·exact(l I U).1 e.symm
    ·refine ag (Yp.mp hm) λp t e=>?_;exact hCN p t e
  refine⟨S1.F,λp t=>?_,by rw[af,X9];exact⟨key,S1.j⟩,⟨S1.rep.1,λi c o hi ho=>(S1.rep.2 i c o hi ho).Yh ⟨⟨[],by simp⟩,λa vs n h ho=>⟨.tail _ h,ho⟩⟩ λ_ t _=>.tail _ t⟩,S1.sep,S1.old,S1.env⟩;rcases XE.mp t with rfl|t
  ·exact⟨hgC,hCL,acz⟩
  ·exact S1.g p t
 have loop:codeAny (model P.p P.w) A (.compLoop (.ListComp elt [⟨.Name x px,iter,ifs,0⟩] scope pos) 0 (.ref I) (.ref s.heap.objs.size)<|compEnvC scope cls H2.objs.size env)
    (R (.ref s.heap.objs.size) H2.objs.size) {s with heap:=j,toks:=s.toks+([]:List<|Str×Value).length}:=by
  refine codeAny_compLoop_tests
   (CJ P Xp L m I s.heap.objs.size H2.objs.size io ρ N f ok vs xs H') ?_ (vs.length+1)
   (CJ.mk (i:=0) (xs0:=[]) (X4 _) S2 (⟨⟨[],by simp⟩,λp t _ _=>.tail _<|.tail _<|.tail _ t,λ_ _ h=>h⟩:a5 aO ρ N ρ<|(H2.objs.size,acb)::(s.heap.objs.size,W.listOf ([]:List Value).toArray 0)::(I,w)::N) (.tail _<|.tail _<|.head _) hio hIo (.head _) ack hCo (.tail _<|.head _) hDo rfl hcg rfl)
  refineλk s' q0=>Tb λQ hQ Eh=>q0 _ λz N' H'' i ys xs0 xs1 obj' oC aei n' e hi S' E' mI ac0 oI mC ns F mD oD V B qe=>?_
  have tI:bB obj':=(hif _ _ ac0).elim λ_ h=>.fields h;have tD:bB<|W.listOf (List.toArray ys) n':=.cls (by show Value.type "list"≠Value.type "tuple";decide);have tC:bB oC:=.ns ns;have acm:s.heap.objs.size≠I:=XB U;have acn:H2.objs.size≠I:=X0 (l I U).1;refine nx S' E'.toT mI ac0 (CX B) hi (λv u g h2 tk ev hvu ac2 hk2 hg2=>?_) λh2 tk hin hk2=>?_
  ·have T1:=S'.turned (tk:=tk) mI oI tI hk2 hg2
   have x1:=fc (ρ:=z) (obj':=g) S'.j mI tI;have mC1:(H2.objs.size,oC)∈rep1 I g N':=aX mC acn;refine hQ _ _<|wpAny_assign_Name (wpAny_storeName_local (lookup_relabel_local hx) (ns.ns (T1.g _ mC1).1) (λh3 hn3 hs3=>cps λG kG=>?_)<|by simp[compEnvC,relabel,X]);refine ag (ns_obj hn3) λO hg3 Y=>?_;have T2:=T1.turned (tk:=tk+1) mC1 F tC (λb o hb e=>hs3.extBut b o hb e) hg3;have x2:=fc (ρ:=z) (obj':=O) T1.j mC1 tC;have M:=bz (o':=O) mC1;have mI2:(I,g)∈rep1 H2.objs.size O (rep1 I g N'):=aX (bz mI)<|X0 acn;have mD2:(s.heap.objs.size,W.listOf (List.toArray ys) n')∈rep1 H2.objs.size O (rep1 I g N'):=aX (aX mD acm) T;have hV2:=(V.Yh x1).Yh x2;have ac6:=(hvu.Yh x1).Yh x2;have Ex2:a5 aO ρ N z<|rep1 H2.objs.size O<|rep1 I g N':=(E'.rep1 hIN).rep1 hCN;clear x1 x2;generalize rep1 H2.objs.size O (rep1 I g N')=N2 at T2 M mI2 mD2 hV2 ac6 Ex2;rw[wt ev]at B;have hi1:i+1<=vs.length:=(Yl.mp ev).1;have hlen:ys.length<=1000000:=by refine aa V.length ?_;rw[qe,Xx]at hxs;exact XJ (Xz _ _) hxs
   refine uu B λ_ B=>aF B λr H3 hf B=>kG<|body _ T2 Ex2 M F Y (by simp) ac6 hf _ _ _ (λs4 ρ4 N4 S4 d hr=>?_) λy u4 s4 ρ4 N4 S4 d hr hy=>?_
   ·clear hf;subst hr
    have z9:=d.apart;exact⟨_,wB e hi1,CJ.mk (i:=i+1) hi1 S4 (Ex2.trans d) (d.keep _ mI2 oI id) ac2 (z9 _ mI2 oI) (d.keep _ M F id) Y (z9 _ M F) (d.keep _ mD2 oD id) (z9 _ mD2 oD) (hV2.XW d) B qe⟩
   ·clear hf;subst hr
    refine aF B λxs2 H4 go2 B=>aR B λe1 e2=>?_;have mD4:=d.keep _ mD2 oD id;have oD4:=d.apart _ mD2 oD;refine append_at (hsz:=by exact fV hlen) (S4.g _ mD4).1 λh5 hs5 hD5=>?_;rw[List.push_toArray]at hD5;have T5:=S4.turned (tk:=s4.toks) mD4 oD4 tD (λb o hb e=>hs5.extBut b o hb e) hD5;have x:=fc (ρ:=ρ4) (obj':=W.listOf (List.toArray<|ys++[u4])<|n'+1) S4.j mD4 tD;exact⟨_,wB e hi1,CJ.mk (xs:=xs) (i:=i+1) (ys:=ys++[u4]) (xs0:=xs0++[y]) hi1 T5 ((Ex2.trans d).rep1 hDN) (aX (d.keep _ mI2 oI id)<|X0 acm) ac2 (d.apart _ mI2 oI) (aX (d.keep _ M F id)<|X0 T) Y (d.apart _ M F) (bz mD4) oD4 (((hV2.XW d).Yh x).append<|XH.one<|hy.Yh x) (e2▸go2)<|by rw[qe,<- e1,X1];rfl⟩
  ·refine cps λG kG=>?_
   rw[hin,drop_length]at B;refine uu B λ_ B=>aR B λe1 e2=>?_;clear B hcg q0;clear B;subst e2;have T1:=S'.gone (tk:=tk) mI oI tI hk2;have mD1:(s.heap.objs.size,W.listOf (List.toArray ys) n')∈but I N':=gb.mpr ⟨mD,acm⟩;have hV1:=V.Yh<|jr S'.j mI tI;have T2:=T1.adopt mD1 oD tD (ao:=.l xs) λx=>⟨rfl,ys,n',mD1,by rw[qe,<- e1,Ys];exact hV1.Yh x⟩;exact kG<|hQ _ _<|hRR _ _ oC _ _ _ _ T2.1 ((E'.but hIN).aea hDN) ⟨_,S'.last _,rfl⟩ (gb.mpr ⟨mC,acn⟩) (λh=>(rv h).elim F λe=>T (e.elim id id).symm) ns hCN
 exact codeAny_compStart_list loop<|aca 0 _ _ _ _ (S2.g _<|.tail _<|.tail _<|.head _).1 hio loop
end
structure fB(env:Env)(Γ:NC)(x:Str)(scope:Scope)(cls:List<|Str×Addr)(caps:List Nat)(Γ':NC):Prop where
 c:closureFor scope env=pure cls
 cell:∀y∈scope.names,y.2≠.cell
 kind:scope.kind=.function
 names:∀y∈scope.names,y.2=.local->scope.names.lookup y.1=some .local
 h:scope.names.lookup x=some .local
 nm:(relabel scope env).names=Γ'.names
 v0:Γ'.vars[0]?=some x
 a:∀j i,caps[j]?=some i->∃y,Γ.vars[i]?=some y/\Γ'.vars[j+1]?=some y/\env.kindOf y=some .cell/\(Γ'.names.lookup y=some .cell\/Γ'.names.lookup y=some .free)/\cls.lookup y=env.cells.lookup y
section
variable{P:bi}{cl:Cl}{A:Around}{env:Env}{Xp:Heap}{L:Addr}{m:Str->Option Value}{Γ:NC}{ρ:Yn}{N:Led}{H H':Hp}{s:Shared}{E:Value->Shared->Prop}(X:EX P cl A env Xp L m Γ)
include X
theorem EX.comp(K:fB env Γ x scope cls f Γ')(C):EX P cl A (compEnvC scope cls C env) Xp L m Γ':=
 ⟨K.kind,K.nm,X.c,X.e,X.base,X.h,X.d,X.calls,X.a⟩
omit X in
theorem rj.comp(K:fB env Γ x scope cls a d)(Lo:rj env L m Γ.vars ρ N l)(F:(C,p)∈N)(I:¬own ρ C)(G:NsObj p b)(J:b x=some u)(M:bY ρ N v u):
  rj (compEnvC scope cls C env) L m d.vars ρ N (some v::cX l a):=λi w h=>by
 cases i with
 |zero=>cases h;exact⟨x,u,K.v0,M,.inr<|.inl ⟨lookup_relabel_local K.h,p,b,F,I,G,J⟩⟩
 |succ j=>
  have h:(a.map λi=>(l[i]?).join)[j]?=some (some w):=h;rw[YN]at h;refine cps λC k=>ag (Yv.mp h) λi D e=>?_;obtain⟨y,h1,z,f,n,B⟩:=K.a j i D;refine am (Lo i w<|Option.join_eq_some_iff.mp e) λU T g r t=>?_;cases h1.symm.trans g;refine k<|⟨y,T,z,r,.inr<|.inr ⟨by rw[<- K.nm]at n;exact n,(cps λC k=>?_)⟩⟩;rcases t with⟨q,_⟩|⟨q,_⟩|⟨_,c,o,O,Q,R,S⟩
  ·cases f.symm.trans q
  ·cases f.symm.trans q
  ·exact k<|⟨c,o,B.trans O,Q,R,S⟩
theorem uS(K:fB env Γ x scope cls c d)(Lo:rj env L m Γ.vars ρ N l)(C)(p:ar P cl A (compEnvC scope cls C env) Xp L m d elt I):
  sU P A Xp L m (compEnvC scope cls C env) x [] elt ρ N (λv H=>bV (ai cl (some v::cX l c) I H) λx H'=>some (some x,H')):=
 λO W H s v u Y f r H' S i q w t z B h Q T U F G=>cps λC D=>aF h λy R b h=>aR h λn o=>by
 clear h F;clear h;subst n o;exact D<|wpAny_tests_nil<|p S ((Lo.ext i).comp K q w t z B) b λM J e j a g k=>G y M J e j a g rfl k
theorem qN(K:fB env Γ x scope cls a f)(Lo:rj env L m Γ.vars ρ N l)(C)(Q:ar P cl A (compEnvC scope cls C env) Xp L m f elt me)
  (O:iL P cl A (compEnvC scope cls C env) Xp L m f c mc):
  sU P A Xp L m (compEnvC scope cls C env) x [c] elt ρ N (λv H=>bV (ai cl (some v::cX l a) mc H) λw H'=>rU w λb=>
   if b then bV (ai cl (some v::cX l a) me H') λx i=>some (some x,i)else some (none,H')):=
 λZl N' H s v u oC z r H' S D R U T W Y d E' Kn Ks t ks=>cps λC kC=>aF d λw H1 h1 d=>qW d λb e h=>by
 subst e;have p:=(Lo.ext D).comp K R U T W Y;refine kC<|wpAny_tests_one<|O S p h1 λs1 n F q g=>?_;clear h1;cases b with
 |false=>cases h;exact t s1 n F q g rfl
 |true=>rw[Xr rfl]at h;refine aF h λy H2 k h=>aR h λJ M=>?_;clear h d t;clear h d;subst J M;exact Q q (rj.ext g p) k λu' s' o G j B I=>ks y u' s' o G j (g.trans B) rfl I
theorem nO(K:fB env Γ x scope cls J Γ')
  (j:∀(Q:Value->Shared->Prop),(∀a c,a5 aO ρ N a c->jX P A Xp L m a c R ok vs Q)->wpAny (model P.p P.w) A (eval iter env) (λxv l=>wpAny (model P.p P.w) A (pyIter xv) Q E l) E s)
  (t:cL f ok vs R=some (M,G)) (B:M.length<=1000000) (i:∀a c,a5 aO ρ N a c->∀C,sU P A Xp L m (compEnvC scope cls C env) x ifs elt a c f) (Y:∀x,foldedSetIterable iter env x=pure x)
  (k:∀u n a c,St P Xp L m a c (G++[.l M]) n->a5 aO ρ N a c->bY a c (.r G.length) u->Q u n):
  wpAny (model P.p P.w) A (eval (.ListComp elt [⟨.Name x px,iter,ifs,0⟩] scope pos) env) Q E s:=by
 exact wpAny_comprehension_free (use:=none) rfl Y K.c K.kind K.names (j _ λρ1 N1 F I obj s1 io T q r w nx v g=>tH T q r w nx v g K.cell K.kind K.h t B (i _ _ F) λD C oC m' n a c S O U h y d p=>⟨m',d.ns (S.g _ h).1,λh' z=>k _ _ _ _ (S.gone (tk:=n.toks) h y (bB.ns d) λb o W e=>z.extBut b o W e) (F.trans<|O.but p)<|U.Yh<|jr S.j h<|bB.ns d⟩)
theorem xE(K:fB env Γ x scope cls caps Γ')
  (W:swapsWith (.ListComp elt [⟨.Name x px,iter,ifs,0⟩] scope pos) (some<|.Name y py) v.line env=pure true) (hL:env.locals=L) (hy:env.kindOf y=some .local)
  (t:(env.scope.kind==.class||(env.scope.kind==.module&&env.locals !=env.globals))=false)
  (i:∀(Q:Value->Shared->Prop),(∀a c,a5 aO ρ N a c->jX P A Xp L m a c H1 ok vs Q)->wpAny (model P.p P.w) A (eval iter env) (λxv w=>wpAny (model P.p P.w) A (pyIter xv) Q E w) E s)
  (M:cL f ok vs H1=some (xs,B)) (Y:xs.length<=1000000) (g:∀a c,a5 aO ρ N a c->∀C,sU P A Xp L m (compEnvC scope cls C env) x ifs elt a c f) (hs:∀x,foldedSetIterable iter env x=pure x)
  (k:∀u d a c,St P Xp L (λz=>if z=y then some u else m z) a c (B++[.l xs]) d->a5 aO ρ N a c->bY a c (.r B.length) u->Q .next d):
  wpAny (model P.p P.w) A (exec (.Assign [.Name y py] (.ListComp elt [⟨.Name x px,iter,ifs,0⟩] scope pos) v) env) Q E s:=by
 refine aa (exec_Assign_Name_used _ _ _ _ W)<|XD<|wpAny_standAt<|XD<|XD<|aaa (wpAny_comprehension_free (use:=some<|assign (.Name y py) env) (Q:=λ_ d=>Q .next d) rfl hs K.c K.kind K.names (i _ λρ1 N1 E1 I obj s1 io S1 G J R nx O r=>tH S1 G J R nx O r K.cell K.kind K.h M Y (g _ _ E1) λD C oC m' d a c S E' V' l T n F=>?_)) (λ_ d hq=>XZ<|XZ hq) λ_ _ e=>e;clear S1 X g i nx;subst hL;refine wpAny_assign_Name<|wpAny_storeName_local hy S.F.ns (λj q h=>?_) t;have S2:St P Xp env.locals (λz=>if z=y then some (.ref D)else m z) a c (B++[.l xs]) {d with heap:=j,toks:=d.toks+1}:=⟨(S.F.set q h),(λp t=>⟨h.extBut _ _ (S.g p t).2.1 (S.g p t).1,(S.g p t).2⟩:News Xp env.locals j c),S.j,S.rep,S.sep,S.old,S.env⟩;exact⟨m',n.ns (S2.g _ l).1,λh' U=>k _ _ _ _ (S2.gone (tk:=d.toks+1) l T (bB.ns n) λb o hb e=>U.extBut b o hb e) (E1.trans<|E'.but F)<|V'.Yh<|jr S.j l<|bB.ns n⟩
variable{x:Str}{px pos:Pos}{scope:Scope}{cls:List<|Str×Addr}{caps:List Nat}{Γ':NC}{elt iter:Expr}{me mi:ME}
theorem Di(K:fB env Γ x scope cls caps Γ')(g:ar P cl A env Xp L m Γ iter mi)(d:∀C,ar P cl A (compEnvC scope cls C env) Xp L m Γ' elt me)(j:∀x,foldedSetIterable iter env x=pure x):
  ar P cl A env Xp L m Γ (.ListComp elt [⟨.Name x px,iter,[],0⟩] scope pos) (.C me mi caps):=λρ N H s l v H' S Lo h Q E k=>cps λC n=>aF h λu r h1 h=>iC h λq f h=>aF h λy t c h=>BU h λi e b=>by
 clear h;clear h;clear h;clear h;subst e b;exact n<|nO X K (λQ o=>vO X g S Lo h1 f o) c i (λp w a C=>uS X K (Lo.ext a) C<|d C) j k
theorem yv(K:fB env Γ x scope cls caps Γ')(j:ar P cl A env Xp L m Γ iter mi)(g:∀C,ar P cl A (compEnvC scope cls C env) Xp L m Γ' elt me)(f:∀C,iL P cl A (compEnvC scope cls C env) Xp L m Γ' c t)(o:∀x,foldedSetIterable iter env x=pure x):
  ar P cl A env Xp L m Γ (.ListComp elt [⟨.Name x px,iter,[c],0⟩] scope pos) (.E me mi t caps):=λρ N H s l v H' S Lo h Q E k=>cps λC p=>aF h λu y h1 h=>iC h λq i h=>aF h λD z a h=>BU h λn e d=>by
 clear h;clear h;clear h;clear h;subst e d;exact p<|nO X K (λQ r=>vO X j S Lo h1 i r) a n (λw B b C=>qN X K (Lo.ext b) C (g C)<|f C) o k
theorem zk(r:hF "range" Γ=true)(b:au e=true)(K:fB env Γ x scope cls caps Γ')(q:ar P cl A env Xp L m Γ e y)(j:∀C,ar P cl A (compEnvC scope cls C env) Xp L m Γ' elt me):
  ar P cl A env Xp L m Γ (.ListComp elt [⟨.Name x px,.Call (.Name "range" p) [e] [] G,[],0⟩] scope pos) (.D me y caps):=λρ N H s l v H' S Lo h Q E k=>cps λC t=>aF h λw B h1 h=>bH h λn d h=>cx h λa h=>aF h λI D i h=>BU h λo f g=>by
 clear h;clear h;clear h;clear h;clear h;subst d f g;refine t ?_;rw[lU]at a;exact nO X K (λQ u=>nz X r b q S Lo h1 a.1 a.2 u) i o (λz F c C=>uS X K (Lo.ext c) C<|j C) (by intro _;rfl) k
end
def pL (e:Env):Addr->Prop:=λa=>∃x,e.cells.lookup x=some a
structure c0(env:Env)(L:Addr)(m:Str->Option Value)(vars:List Str)(ρ:Yn)(N:Led)(l:Lo):Prop where
 loc:rj env L m vars ρ N l
 cells:∀a,pL env a->∃o v,(a,o)∈N/\¬own ρ a/\o.data=.cell v
structure g5(env:Env)(L:Addr)(Γ:NC):Prop where
 h:env.locals=L
 g:env.scope.kind=.function
 j:Γ.vars.Nodup
 b:∀x∈Γ.vars,env.kindOf x=some .local\/(env.kindOf x=some .cell/\∃c,env.cells.lookup x=some c)
 inj:∀x y c,env.cells.lookup x=some c->env.cells.lookup y=some c->x=y
def g5.f (K:g5 env L a):(env.scope.kind==.class||(env.scope.kind==.module&&env.locals !=env.globals))=false:=by refine aa K.g ?_;rfl
def a5.Yj (x:a5 cs m N c b)(y:a5 cs c b d abo)(i:∀a,cs a->∃o,(a,o)∈b):a5 cs m N d abo:=by
 refine Xq x.pre λt e=>Xq y.pre λl j=>⟨⟨t++l,by rw[j,e,X1]⟩,λp g f i=>y.keep p (x.keep p g f i) (x.apart p g f) i,λp g f=>?_⟩;by_cases h:cs p.1
 ·exact Xq (i _ h) λo k=>y.apart (p.1,o) k<|x.apart p g f
 ·exact y.apart p (x.keep p g f h)<|x.apart p g f
section
variable{P:bi}{env:Env}{Xp:Heap}{L:Addr}{m:Str->Option Value}{Γ:NC}{ρ Zl:Yn}{N N':Led}{H H':Hp}{s s':Shared}{l:Lo}
def c0.mem (K:c0 env L m Γ.vars ρ N l):∀a,pL env a->∃o,(a,o)∈N:=λa h=>am (K.cells a h) λo _ b _ _=>⟨o,b⟩
def c0.ext (K:c0 env L m Γ.vars ρ N l)(E:a5 aO ρ N Zl N'):c0 env L m Γ.vars Zl N' l:=⟨K.loc.ext E,λa h=>am (K.cells a h) λo v h1 b c=>⟨o,v,E.keep _ h1 b id,E.apart _ h1 b,c⟩⟩
def c0.ac7 (K:c0 env L m Γ.vars ρ N l)(S:St P Xp L m ρ N H s):∀a c n,(a,jn c n)∈N->¬pL env a:=λa c n h d=>by refine am (K.cells a d) λo v h1 _ b=>?_;have:=fa S.j h h1;rw[<- this]at b;have b:=b;cases b
def c0.toT (K:c0 env L m Γ.vars ρ N l)(S:St P Xp L m ρ N H s)(E:a5 (pL env) ρ N Zl N'):j7 ρ N Zl N':=⟨E.pre,λa v n h b=>⟨E.keep _ h b<|K.ac7 S _ _ _ h,E.apart _ h b⟩⟩
def c0.weak (K:c0 env L m Γ.vars ρ N l)(E:a5 aO ρ N Zl N'):a5 (pL env) ρ N Zl N':=E.weak
def St.frame (S:St P Xp L m ρ N H s)(c:a.Ns L d)(b:Heap.SameBut L s.heap a):St P Xp L d ρ N H {s with heap:=a,toks:=t}:=
 ⟨S.F.set c b,λp h=>⟨b.extBut _ _ (S.g p h).2.1 (S.g p h).1,(S.g p h).2⟩,S.j,S.rep,S.sep,S.old,S.env⟩
def qt {v:List Str}(h:v.Nodup){i j:Nat}{x:Str}(c:v[i]?=some x)(d:v[j]?=some x):i=j:=by
 obtain⟨h1,e⟩:=Yl.mp c;obtain⟨b,a⟩:=Yl.mp d;rcases lt_trichotomy i j with q|q|q
 ·exact Xw (e.trans a.symm)<|List.pairwise_iff_getElem.mp h i j h1 b q
 ·exact q
 ·exact Xw (a.trans e.symm)<|List.pairwise_iff_getElem.mp h j i b h1 q
def zp (h:(l.set i<|some v)[j]?=some (some w)):(i=j/\w=v)\/(i≠j/\l[j]?=some (some w)):=by
 by_cases e:i=j
 ·subst e
  have a:=(Yl.mp h).1;rw[Ze]at a;rw[aan a]at h;have h:=h;cases h;exact .inl ⟨rfl,rfl⟩
 ·rw[YJ e]at h;exact .inr ⟨e,h⟩
def oX (K:g5 env L Γ)(S:St P Xp L m ρ N H s)(Lo:c0 env L m Γ.vars ρ N l){i:Nat}{x:Str}(G:Γ.vars[i]?=some x){v:V}{u:Value}(hv:bY ρ N v u){M:Model}{A:Around}{Q:Unit->Shared->Prop}{E:Value->Shared->Prop}
  (k:∀s' m' N',St P Xp L m' ρ N' H s'->a5 (pL env) ρ N ρ N'->c0 env L m' Γ.vars ρ N' (l.set i<|some v)->Q () s'):wpAny M A (storeName env x u) Q E s:=by
 rcases K.b x (YQ G)with B|⟨B,c,g⟩
 ·obtain rfl:=K.h
  refine wpAny_storeName_local B S.F.ns (λh' hn F=>k _ _ N (S.frame hn F) (.refl _ _ _) ⟨λj w f=>?_,Lo.cells⟩) K.f;clear hn F k;rcases zp f with⟨rfl,rfl⟩|⟨e,f⟩
  ·exact⟨x,u,G,hv,.inl ⟨B,rfl,Xr rfl⟩⟩
  ·refine am (Lo.loc j w f) λy u' h1 U W=>⟨y,u',h1,U,(cps λC I=>?_)⟩
   rcases W with⟨a,b,c⟩|⟨a,o,J,b,_⟩|r
   ·exact I<|.inl ⟨a,b,(Xu (λq=>e (qt K.j G<|q▸h1):y≠x)).trans c⟩
   ·exact Xw rfl (S.g _ b).2.1
   ·exact I<|.inr<|.inr r
 ·refine am (Lo.cells c ⟨x,g⟩) λo v0 D Y hd=>wpAny_storeName_cell K.g B g ⟨o,(S.g _ D).1,hd⟩ λh' ⟨O,hg,z⟩ F=>?_
  have ht:=bB.cell hd;have T:=S.turned (tk:=s.toks) D Y ht (λb q hb e=>F.extBut b q hb e) hg;have x1:=fc (ρ:=ρ) (obj':=O) S.j D ht;have d:=bz (o':=O) D;refine k _ _ _ T ⟨⟨[],by simp⟩,λp hp _ X=>aX hp λe=>X ⟨x,by refine aa e ?_;exact g⟩,λ_ _ h=>h⟩ ⟨λj w f=>?_,λa ha=>?_⟩
  ·clear k T
   rcases zp f with⟨rfl,rfl⟩|⟨e,f⟩
   ·exact⟨x,u,G,hv.Yh x1,.inr<|.inr ⟨.inl B,c,O,g,d,Y,z⟩⟩
   ·refine am (Lo.loc j w f) λy u' h1 U W=>⟨y,u',h1,U.Yh x1,(cps λC I=>?_)⟩
    rcases W with r|⟨a,R,J,b,b2,b3⟩|⟨a,n,R,b1,b2,b3,b4⟩
    ·exact I<|.inl r
    ·exact Xw K.h (S.g _ b).2.1
    ·exact I<|.inr<|.inr ⟨a,n,R,b1,aX b2 λq=>(λq=>e (qt K.j G<|q▸h1):y≠x)<|K.inj y x c (by refine aa b1 ?_;exact Xs some q) g,b3,b4⟩
  ·clear k T
   refine am (Lo.cells a ha) λR v2 t g2 g3=>?_;by_cases e:a=c
   ·clear g hg D F x1;subst e;exact⟨O,_,d,Y,z⟩
   ·exact⟨R,v2,aX t e,g2,g3⟩
end
abbrev ZH:=Heap->Addr->Yn->Led->Hp->(Str->Option Value)->V->V->Value->Shared->Prop
def CH (P:bi)(f:Env)(h:Heap)(L:Addr)(i:NC)(X:ZH)(g:Yn)(N:Led)(H:Hp)(Q:Flow->Shared->Prop)(E:Value->Shared->Prop):Fl->Prop
 | .n l=>∀s m c d,St P h L m c d H s->a5 (pL f) g N c d->c0 f L m i.vars c d l->Q .next s
 | .r v=>∀u s m c d,St P h L m c d H s->a5 (pL f) g N c d->bY c d v u->Q (.ret u) s
 | .e a b=>∀e s m c d,a5 (pL f) g N c d->X h L c d H m a b e s->E e s
section
variable(P:bi)(cl:Cl)(lp:Zx)(A:Around)(env:Env)(Xp:Heap)(L:Addr)(Γ:NC)(XA:ZH)
def fG (d:Stmt)(c:MS):Prop:=∀⦃m:Str->Option Value⦄ ⦃a:Yn⦄ ⦃N:Led⦄ ⦃H:Hp⦄ ⦃s:Shared⦄ ⦃l:Lo⦄ ⦃f:Fl⦄ ⦃b:Hp⦄,St P Xp L m a N H s->c0 env L m Γ.vars a N l->bw cl lp l H c=some (f,b)->
 ∀⦃Q:Flow->Shared->Prop⦄ ⦃E:Value->Shared->Prop⦄,CH P env Xp L Γ XA a N b Q E f->wpAny (model P.p P.w) A (exec d env) Q E s
def kH (b:List Stmt)(d:List MS):Prop:=∀⦃m:Str->Option Value⦄ ⦃a:Yn⦄ ⦃N:Led⦄ ⦃H:Hp⦄ ⦃s:Shared⦄ ⦃l:Lo⦄ ⦃f:Fl⦄ ⦃c:Hp⦄,St P Xp L m a N H s->c0 env L m Γ.vars a N l->XU cl lp l H d=some (f,c)->
 ∀⦃Q:Flow->Shared->Prop⦄ ⦃E:Value->Shared->Prop⦄,CH P env Xp L Γ XA a N c Q E f->wpAny (model P.p P.w) A (execs b env) Q E s
end
section
variable{P:bi}{cl:Cl}{lp:Zx}{A:Around}{env:Env}{Xp:Heap}{L:Addr}{Γ:NC}{XA:ZH}
def CH.trans {l f:Yn}{N c:Led}{H:Hp}{Q:Flow->Shared->Prop}{E:Value->Shared->Prop}{fl:Fl}(k:CH P env Xp L Γ XA l N H Q E fl)(x:a5 (pL env) l N f c)(j:∀a,pL env a->∃o,(a,o)∈c):CH P env Xp L Γ XA f c H Q E fl:=by
 cases fl with
 |n t=>exactλs m d i S g p=>k s m d i S (x.Yj g j) p
 |r v=>exactλu s m d i S g q=>k u s m d i S (x.Yj g j) q
 |e a b=>exactλe s m d i g h=>k e s m d i (x.Yj g j) h
def Gc:kH P cl lp A env Xp L Γ XA [] []:=λm b N H s l f c S Lo h Q E k=>aR h λe a=>by clear h;subst e a;exact wpAny_execs_nil<|k s m b N S (.refl _ _ _) Lo
def C4 {e:Stmt}{d:MS}{b:List Stmt}{c:List MS}(h1:fG P cl lp A env Xp L Γ XA e d)(o:kH P cl lp A env Xp L Γ XA b c):kH P cl lp A env Xp L Γ XA (e::b)<|d::c:=λm z N H s l j t S Lo h Q E k=>
 Uw h (λw u i h=>Zn<|h1 S Lo i λy x r v g f a=>o g a h<|k.trans f a.mem) λp h=>Zn (h1 S Lo h<|by clear h;clear h;cases j with |n q=>exact Xw rfl (p q)|_=>exact k)
variable(X:∀m,EX P cl A env Xp L m Γ)(K:g5 env L Γ)
include X K
omit K in
theorem CL{e:Expr}{c:ME}{p:Pos}(j:∀m,ar P cl A env Xp L m Γ e c)(n:interactive env=false)(o:swapsWith e none p.line env=pure false):fG P cl lp A env Xp L Γ XA (.Expr e p)<|.x c:=
 λm y N H s l x r S Lo h Q E k=>aF (Bu.symm.trans h) λv t h1 h=>aR h λg i=>by
 clear h;clear h;subst g i;exact wpAny_Expr_any (j m S Lo.loc h1 λu q a d f b w=>k q m a d f b.weak<|Lo.ext b) n o
theorem EP{e:Expr}{f:ME}{x:Str}{p a:Pos}{i:Nat}(w:∀m,ar P cl A env Xp L m Γ e f)(z:Γ.vars[i]?=some x)(y:swapsWith e (some<|.Name x p) a.line env=pure false):fG P cl lp A env Xp L Γ XA (.Assign [.Name x p] e a)<|.s i f:=
 λm M N H s l I D S Lo h Q E k=>aF (wS.symm.trans h) λv F h1 h=>aR h λr t=>by
 clear h;clear h;subst r t;exact wpAny_Assign_Name (w m S Lo.loc h1 λu J d G o b q=>oX K o (Lo.ext b) z q λC B n c g j=>k C B d n c (b.weak.Yj g (Lo.ext b).mem) j) y
theorem Fg{e:Expr}{b:ME}{p:Pos}(n:∀m,ar P cl A env Xp L m Γ e b):fG P cl lp A env Xp L Γ XA (.Return (some e) p)<|.r b:=
 λm w N H s l t q S Lo h Q E k=>aF (Gd.symm.trans h) λv r h1 h=>aR h λi j=>by
 clear h;clear h;subst i j;exact wpAny_Return_some<|n m S Lo.loc h1 λu o a d f c g=>k u o m a d f c.weak g
omit X K in
theorem Dv{p:Pos}:fG P cl lp A env Xp L Γ XA (.Return none p) .aaw:=
 λm b N H s l f c S Lo h Q E k=>aR h λe a=>by
 clear h;subst e a;exact wpAny_Return_none<|k .none s m b N S (.refl _ _ _) rfl
omit X K in
theorem Ie{c:Expr}{o:ME}{a b:List Stmt}{j n:List MS}{p:Pos}(u:∀m,iL P cl A env Xp L m Γ c o)(q:kH P cl lp A env Xp L Γ XA a j)(r:kH P cl lp A env Xp L Γ XA b n):fG P cl lp A env Xp L Γ XA (.If c a b p)<|.i o j n:=
 λm D N H s l B x S Lo h Q E k=>aF (Ii.symm.trans h) λw y h1 h=>qW h λt e g=>by
 subst e;refine wpAny_If<|u m S Lo.loc h1 λC v z f d=>?_;have i:=k.trans d.weak (Lo.ext d).mem;clear h1;cases t with
 |true=>exact q f (Lo.ext d) g i
 |false=>exact r f (Lo.ext d) g i
end
def CY (n)(l:List Nat):l.length<=(l.erase n).length+1:=by
 by_cases h:n∈l
 ·refine aa (List.length_erase_of_mem h) ?_;exact Nat.sub_le_iff_le_add.mp<|XC _
 ·refine aa (List.erase_of_not_mem h) ?_;exact bC 0x2d03012 tq
theorem qQ:∀(n) (l:List Nat),l.Nodup->(∀x∈l,x<n)->l.length<=n
 |0,l,_,h=>by cases l with |nil=>exact XC _|cons a r=>exact Xw (h a<|.head _)<|aah _
 |n+1,l,b,h=>by
  have:=qQ n (l.erase n) (b.erase _) λx c=>by exact Zt (OE<|h x<|List.mem_of_mem_erase c) (λe=>by clear h;subst e;exact(List.Nodup.not_mem_erase b) c:x≠n)
  have:=CY n l;exact ba 0x5a1602411065b0b44c0065b tq ‹_› ‹_›
def sH:∀{p:Nat×V},p∈oY f v fs->p.1=f\/p∈fs:=by
 induction fs with
 |nil=>intro p h;simp only[xc,mem_singleton]at h;subst h;exact .inl rfl
 |cons b r i=>
  intro p h;obtain⟨a,u⟩:=b;rw[rJ]at h;split at h
  ·rcases XE.mp h with rfl|h
   ·rename_i e;exact .inl e
   ·exact .inr<|.tail _ h
  ·rcases XE.mp h with rfl|h
   ·exact .inr<|.head _
   ·rcases i h with e|e
    ·exact .inl e
    ·exact .inr<|.tail _ e
def sa:(d.map (·.1)).Nodup->((oY f v d).map (·.1)).Nodup:=by
 induction d with
 |nil=>intro _;simp[xc]
 |cons b r j=>
  intro h;obtain⟨a,u⟩:=b;rw[af,X9]at h;have h:=h;rw[rJ];split
  ·rw[af,X9];exact h
  ·rename_i c
   rw[af,X9];refine⟨λg=>ag (Yp.mp g) λp i e=>?_,j h.2⟩;rcases sH i with q|q
   ·exact c<|e.symm.trans q
   ·exact h.1<|Yp.mpr ⟨p,q,e⟩
theorem FN.length:∀{a:List DictEntry},FN names d N f a->a.length=f.length:=by
 induction f with
 |nil=>intro _ h;subst h;rfl
 |cons p l i=>intro _ h;obtain⟨g,v⟩:=p;refine iv h λe r b _ _ c=>?_;clear h;subst b;simp[i c]
def FN.put (k:bY o N v u):∀{d:List DictEntry},FN names o N a d->(∀p∈a,names p.1=names f->p.1=f)->FN names o N (oY f v a) (putL (names f) hsh (.str (names f) t) u d):=by
 induction a with
 |nil=>intro _ h _;subst h;exact⟨_,[],rfl,⟨t,rfl⟩,k,rfl⟩
 |cons z l m=>
  intro _ h i;obtain⟨g,x⟩:=z;refine iv h λc r s A y j=>?_;clear h;subst s;obtain⟨n,b⟩:=A;have q:c.key.isStr (names f)=decide (g=f):=by
   refine aa b ?_;show(names g==names f)=_;by_cases e:g=f
   ·clear m;subst e;simp
   ·exact aa (Yt e)<|Yk.mpr λq=>e<|i _ (.head _) q
  refine aa rJ ?_;unfold putL;by_cases e:g=f
  ·rw[Xr e,q,Yy e,Xr rfl]
   exact⟨_,r,rfl,⟨n,b⟩,k,j⟩
  ·rw[Xu e,q,Yt e,Xu<|by trivial]
   exact⟨c,_,rfl,⟨n,b⟩,y,m j λp w=>i p<|.tail _ w⟩
def la {K:Type}[DecidableEq K]{a:K}{x u:Value}{r:List<|K×Value}(h:∀p∈r,p.1≠a):stored ((a,x)::r) a u=(a,u)::r:=by
 unfold stored;simp only[any_cons,decide_true,Bool.true_or,if_true,af];congr 1
 conv=>rhs;rw[<- List.map_id r]
 refine YU λp b=>aa (Xu<|h p b) ?_;rfl
def lr {K:Type}[DecidableEq K]{a k:K}{r:List<|K×Value}(h:a≠k):stored ((a,x)::r) k u=(a,x)::stored r k u:=by
 unfold stored;simp only[any_cons,Yt h,Bool.false_or];split
 ·simp[h]
 ·rfl
def uN.put (f:bY g N v u):∀{b:List<|Int×Value},uN g N l b->(b.map (·.1)).Nodup->uN g N (kX k v l) (stored b k u):=by
 induction l with
 |nil=>intro _ h _;simp only[Ik,Gg]at h;subst h;exact⟨_,_,rfl,f,rfl⟩
 |cons o l n=>
  intro _ h c;obtain⟨a,x⟩:=o;refine am h λs r i m d=>?_;clear h;subst i;rw[af,X9]at c;refine aa ig ?_;by_cases e:a=k
  ·subst e
   exact aa (Xr rfl)<|aa (la λp j q=>c.1<|Yp.mpr ⟨p,j,q⟩)<|⟨_,_,rfl,f,d⟩
  ·exact aa (Xu e)<|aa (lr e)<|⟨_,_,rfl,m,n d c.2⟩
def xi.put (f:bY g N v u):∀{b:List<|Str×Value},xi g N l b->(b.map (·.1)).Nodup->xi g N (v8 k v l) (stored b (S2 k) u):=by
 induction l with
 |nil=>intro _ h _;simp only[EE,Fs]at h;subst h;exact⟨_,_,rfl,f,rfl⟩
 |cons o l n=>
  intro _ h c;obtain⟨a,x⟩:=o;refine am h λs r i m d=>?_;clear h;subst i;rw[af,X9]at c;refine aa BV ?_;by_cases e:a=k
  ·subst e
   exact aa (Xr rfl)<|aa (la λp j q=>c.1<|Yp.mpr ⟨p,j,q⟩)<|⟨_,_,rfl,f,d⟩
  ·exact aa (Xu e)<|aa (lr λq=>e<|qD q)<|⟨_,_,rfl,m,n d c.2⟩
def lh {K:Type}[DecidableEq K]{a:KeyKind prog w K}{o:Obj}{k:List<|K×Value}(h:o.IsDictOf a k):(k.map (·.1)).Nodup:=by exact yL h λ_ _ _ _ _ _ h=>h
theorem sY:∀{l:List Value}{k:Nat}{v:Value},k<l.length->ki_setL l k v=some (l.set k v)
 | [],_,_,h=>Xw h<|aah _
 |_::r,0,v,_=>rfl
 |x::r,k+1,v,h=>by unfold ki_setL;refine aa (sY<|by simpa using h) ?_;rfl
section
def ue (hB:m7 P e)(S:St P e L m I N H s)(h:Mine.setItem H x y v=some H')(hx:bY I N x u1)(hy:bY I N y u2)(hv:bY I N v U)
  (k:∀s' g,St P e L m I g H' s'->a5 aO I N I g->Q () s'):wpAny (model P.p P.w) A (PySem.setItem u1 u2 U) Q E s:=fP h λa e0 d=>by
 subst e0;refine ag hx λc r B=>?_;subst B;refine cps λC Y=>?_;cases y with
 |i i=>
  refine Xq hy λt' B=>?_;subst B;refine iC d λo G d=>?_;cases o with
  |l l=>
   refine ag (Yv.mp d) λj hj B=>?_;clear d;clear d;subst B;refine bU (sj hj) λh1 h2 h3=>?_;have q:=gJ.mp h1;refine bP (S.rep.2 _ _ _ r G) λJ vs n t b=>?_;have X:=b.length;have R:ki_setL vs.toArray.toList j U=some (vs.set j U):=sY (by simp;exact yC h3 X);have M:∀f,Fr e L f m->News e L f (rep1 c.1 (W.listOf (vs.set j U).toArray n) N)->Q () {s with heap:=f}:=λf F g=>by have u:=f6 (N:=N) (o':=W.listOf (vs.set j U).toArray n) (de r).1;have z:=S.upd (s':={s with heap:=f}) r G (.inl rfl) F g (ao':=.l<|l.set j v) ⟨J,_,n,bz t,(b.XW u).set<|hv.XW u⟩;exact k _ _ z.1 z.2
   rcases uI h2 with⟨p,w⟩|⟨p,w,p3⟩
   ·exact Y<|ki_set S.F S.g p (by lia) (w.symm▸R) (lK S.j t) λf F g=>M f F g
   ·exact Y<|ki_setNeg (j:=j) S.F S.g p (by lia) (by refine aa Y4<|aa X ?_;exact h2) R (lK S.j t) λf F g=>M f F g
  |dI l=>refine cx d λhz d=>?_;clear hB;obtain rfl:=aA d;refine iu (S.rep.2 _ _ _ r G) λJ o kvs t O b=>?_;have X:=b.length;refine Y<|kda_set S.F S.g (vt S.j t) O (intKind_is P.p P.w i t') (fV<|K6 X hz) λf T F g D=>?_;have u:=f6 (N:=N) (o':=T) (de r).1;have z:=S.upd (s':={s with heap:=f,toks:=s.toks+1}) r G (.inl rfl) F g (ao':=.dI<|kX i v l) ⟨J,T,_,bz t,D,(b.Yh u.toT).put (hv.XW u)<|lh O⟩;exact k _ _ z.1 z.2
  |_=>exact cE d nt
 |s i=>refine Xq hy λt' B=>?_;subst B;refine RX d λl G d=>cx d λhz d=>?_;clear hB;obtain rfl:=aA d;refine iu (S.rep.2 _ _ _ r G) λJ o kvs t O b=>Y<|kda_set S.F S.g (vt S.j t) O (strKind_is P.p P.w (S2 i) t') (fV<|K6 b.length hz) λf T F g D=>?_;have u:=f6 (N:=N) (o':=T) (de r).1;have z:=S.upd (s':={s with heap:=f,toks:=s.toks+1}) r G (.inl rfl) F g (ao':=.dS<|v8 i v l) ⟨J,T,_,bz t,D,(b.Yh u.toT).put (hv.XW u)<|lh O⟩;exact k _ _ z.1 z.2
 |_=>exact cE d nt
def vg (S:St P d L m j N H s)(h:d6 op x y=some z)(l:bY j N x u)(n:bY j N y v)
  (k:∀u p,St P d L m j N H p->bY j N z u->Q u p):wpAny (model P.p P.w) A (inplaceOp (wF op) u v) Q E s:=by
 cases op with
 |a=>
  cases x with
  |i a=>refine bH h λb e c=>?_;subst e;obtain rfl:=aA c;obtain⟨t,rfl⟩:=l;obtain⟨o,rfl⟩:=n;exact iadd_int<|k _ _ (S.toks _) ⟨_,rfl⟩
  |s a=>
   refine n7 h λb e c=>cx c λg c=>?_;subst e;obtain rfl:=aA c;simp only[Xv,e6]at g;obtain⟨t,rfl⟩:=l;obtain⟨o,rfl⟩:=n;refine PySem.P.iadd_str ?_;have f:∀t q,Q (.str (S2<|a++b) t) {s with toks:=q}:=λt q=>k _ _ (S.toks _) ⟨_,rfl⟩;clear k;rw[lY,cG,cG];split
   ·rename_i e
    clear S g;obtain rfl:=Z0<|eq_of_beq e;exact f o s.toks
   ·split
    ·rename_i e
     clear S g;obtain rfl:=Z0<|eq_of_beq e;rw[Ys]at f;exact f t s.toks
    ·refine⟨?_,f _ _⟩
     show(S2<|a++b).cps.size<=sizeLine;simp only[S2,Y4,Xx,sizeLine_eq];exact QQ g
  |_=>exact cE h nt
 |s=>refine bH h λa r h=>bH h λb w c=>?_;subst r w;obtain rfl:=aA c;obtain⟨t,rfl⟩:=l;obtain⟨o,rfl⟩:=n;exact PyProof.Rows.isub_int<|k _ _ (S.toks _) ⟨_,rfl⟩
 |_=>exact cE h nt
end
section
variable{XA:ZH}
variable(X:∀m,EX P cl A env Xp L m Γ)(K:g5 env L Γ)
include X
theorem D7(J:∀m,ar P cl A env Xp L m Γ o U)(I:∀m,ar P cl A env Xp L m Γ i T)(G:∀m,ar P cl A env Xp L m Γ e R)(M:swapsWith e (some<|.Subscript o i p) pos.line env=pure false):
  fG P cl lp A env Xp L Γ XA (.Assign [.Subscript o i p] e pos) (.t U T R):=
 λm ρ N H s l fl H' S Lo h Q E k=>cps λC O=>aF (Cc.symm.trans h) λv H1 h1 h=>aF h λx H2 B h=>aF h λy H3 D h=>vu h λF e=>by
 clear h;clear h;clear h;clear h;subst e;refine O<|wpAny_Assign_Subscript (G m S Lo.loc h1 λu1 s1 Y N1 q a u=>J m q (Lo.ext a).loc B λu2 s2 ρ2 N2 d b w=>I m d (Lo.ext<|a.trans b).loc D λu3 s3 f N3 r c z=>ue (X m).base r F (w.XW c) z ((u.XW b).XW c) λW n t j=>?_) M;have g:=((a.trans b).trans c).trans j;exact k W m f n t g.weak<|Lo.ext g
omit X in
theorem DN:∀{f:Nat},t6 f d=none->∀p∈d,p.1≠f:=by
 induction d with
 |nil=>intro _ _ _ h;exact Xw h XY
 |cons a r i=>
  intro f e p c;obtain⟨g,z⟩:=a;rw[ir]at e;by_cases b:g=f
  ·rw[Xr b]at e;exact cE e nt
  ·rw[Xu b]at e
   have e:=e;exact(XE.mp c).elim (λq=>q▸b) λc=>i e p c
omit X in
theorem St.field(S:St P Xp L m r N H s)(K:mH P)(Y:H[a]?=some (.i c l))(I:r[a]?=some d)(J:DD c f=true)
  (M:(d.1,instObj (P.Z.c c) d.2)∈N) (h:(d.2,dictOf b n)∈N) (i:FN P.Z.f r N l b) (C:∀p∈l,DD c p.1=true) (y:(l.map (·.1)).Nodup) (O:bY r N v u) (t):
  (getL (P.Z.f f) b).isSome=true/\(putL (P.Z.f f) (PyData.keyHash P.w.params<|P.Z.f f) (.str (P.Z.f f) t) u b).length<=1000/\
  ∀(w) (D),Fr Xp L w m->News Xp L w (rep1 d.2 (dictOf (putL (P.Z.f f) (PyData.keyHash P.w.params<|P.Z.f f) (.str (P.Z.f f) t) u b)<|putN (P.Z.f f) b n) N)->
   St P Xp L m r (rep1 d.2 (dictOf (putL (P.Z.f f) (PyData.keyHash P.w.params<|P.Z.f f) (.str (P.Z.f f) t) u b)<|putN (P.Z.f f) b n) N) (H.set a<|.i c<|oY f v l) {s with heap:=w,toks:=D}/\
   a5 aO r N r (rep1 d.2 (dictOf (putL (P.Z.f f) (PyData.keyHash P.w.params<|P.Z.f f) (.str (P.Z.f f) t) u b)<|putN (P.Z.f f) b n) N):=by
 have R:=k7 J;have k:∀p∈l,P.Z.f p.1=P.Z.f f->p.1=f:=λp o e=>K.a _ _ (k7<|C p o).2 R.2 e;have B:d.2≠d.1:=λe=>by rw[e]at h;have h:=h;cases Xs Obj.data (fa S.j M h)
 refine⟨?_,?_,λw D T U=>?_⟩
 ·cases e:t6 f l with
  |some z=>refine ag (i.get e k) λu hu _=>?_;refine aa hu ?_;rfl
  |none=>refine aa (i.miss λp o q=>DN e p o<|k p o q) ?_;rfl
 ·refine aa ((FN.put (names:=P.Z.f) (hsh:=PyData.keyHash P.w.params<|P.Z.f f) (t:=t) O i k).length) ?_
  have G:=qQ 13 ((oY f v l).map (·.1)) (sa y) λx Q=>by refine ag (Yp.mp Q) λp o W=>?_;clear Q;subst W;exact(sH o).elim (λq=>q▸R.2) λq=>(k7<|C p q).2
  rw[XM]at G;exact XJ G (by decide)
 ·have E:=f6 (N:=N) (o':=dictOf (putL (P.Z.f f) (PyData.keyHash P.w.params<|P.Z.f f) (.str (P.Z.f f) t) u b)<|putN (P.Z.f f) b n) (de I).2
  exact S.upd (s':={s with heap:=w,toks:=D}) I Y (.inr rfl) T U (ao':=.i c<|oY f v l)
   ⟨aX M<|X0 B,_,_,bz h,FN.put (O.XW E) (i.Yh E.toT) k,λp o=>(sH o).elim (λq=>q▸J) λq=>C p q,sa y⟩
theorem DR(ho:∀m,ar P cl A env Xp L m Γ o mo)(he:∀m,ar P cl A env Xp L m Γ e me)(hx:P.Z.f f=x)(hs:swapsWith e (some<|.Attribute o x p) pos.line env=pure false):
  fG P cl lp A env Xp L Γ XA (.Assign [.Attribute o x p] e pos) (.f mo f me):=
 λm ρ N H s l fl H' S Lo h Q E k=>cps λC u=>aF (B4.symm.trans h) λv H1 h1 h=>aF h λx0 H2 h2 h=>fP h λa U h=>vu h λh e=>P6 h λc fs J h=>cx h λq hh=>by
 subst U e;clear h;clear h;clear h;clear h;clear h;clear h;obtain rfl:=aA hh;refine u<|plainObj_wpAny_Assign_Attribute (he m S Lo.loc h1 λu1 s1 ρ1 N1 R i T=>ho m R (Lo.ext i).loc h2 λu2 s2 D N2 b j F=>cps λC u=>ag F λd G W=>?_) hs;clear F;subst W;exact St.aa4 (X m) b J G _ λes n hm g r hq t I=>bU ((X m).a.dict c (k7 q).1) λw y B=>bU (b.field (X m).a J G q hm g r hq t (T.XW j)<|s2.toks+1) λq1 q2 q3=>u<|dG hx (set_dict b.F (X m).base.K b.g I rfl B y ((X m).a.fld c f q).2.2 w q1 rfl (lK b.j g) q2 λY M O=>
  have z:=q3 Y _ M O
  k _ m D _ z.1 ((i.trans j).trans z.2).weak (Lo.ext<|(i.trans j).trans z.2))
omit X in
theorem QU{C:Prop}(h:mB H a=true)(k:∀l,H[a]?=some (.l l)->C):C:=by
 unfold mB at h;cases e:H[a]? with
 |none=>rw[e]at h;exact eI h nt
 |some o=>
  rw[e]at h;cases o with
  |l l=>exact k l e
  |_=>exact eI h nt
theorem E8(ho:∀m,ar P cl A env Xp L m Γ o mo)(he:∀m,ar P cl A env Xp L m Γ e me)(j:dU o=true)(O:au e=true)(hl:(apos.endLine==f.line)=true)(hi:interactive env=false)
  (hs:swapsWith (.Call (.Attribute o "append" apos) [e] [] f) none pos.line env=pure false):fG P cl lp A env Xp L Γ XA (.Expr (.Call (.Attribute o "append" apos) [e] [] f) pos)<|.a mo me:=
 λm ρ N H s l fl H' S Lo h Q E k=>cps λC D=>aF (zO.symm.trans h) λx0 H1 h1 h=>fP h λa e0 h=>uu h λp h=>aF h λv H2 h2 h=>vu h λh e=>tT h λkk M h=>cx h λhz hh=>QU p λk0 y=>by
 subst e0 e;clear X h p;clear h;clear h;clear h;clear h;clear h;clear h;obtain rfl:=aA hh;refine D<|wpAny_Expr_any (MethodCall_ (ho m S Lo.loc h1 λu s1 ρ1 N1 x t G=>?_)<|oV j (by simp[O]) (by simp) hl) hi hs;refine ag G λd J e7=>?_;clear G;subst e7;refine bP (x.rep.2 _ _ _ J y) λ_ vs0 n0 B _=>kl_method x.g B PySem.F.slot_list_append PySem.F.type_list_append<|lz O<|he m x (Lo.ext t).loc h2 λu2 s2 F T c w U=>cps λC D=>?_;have g:=w.get J;refine bP (c.rep.2 _ _ _ g M) λY vs n q R=>D<|append_at (hsz:=by refine aa Y4<|aa R.length ?_;exact fV hz) (c.g _ q).1 λh5 r i=>?_;rw[List.push_toArray]at i;have I:=f6 (N:=T) (o':=W.listOf (List.toArray<|vs++[u2])<|n+1) (de g).1;have z:=c.upd (s':={s2 with heap:=h5}) g M (.inl rfl) (xd c.F (λb o j e=>r.extBut b o j e) (c.g _ q).2.1 (c.g _ q).2.2) (qp c.g q (λb o j e=>r.extBut b o j e) i) (ao':=.l<|kk++[v]) ⟨Y,_,n+1,bz q,(R.XW I).append<|XH.one<|U.XW I⟩;exact k _ m F _ z.1 ((t.trans w).trans z.2).weak<|Lo.ext<|(t.trans w).trans z.2
theorem Id(R:∀m,ar P cl A env Xp L m Γ o mo)(I:dU o=true)(O:(apos.endLine==c.line)=true)(M:interactive env=false)
  (T:swapsWith (.Call (.Attribute o "reverse" apos) [] [] c) none pos.line env=pure false):fG P cl lp A env Xp L Γ XA (.Expr (.Call (.Attribute o "reverse" apos) [] [] c) pos)<|.rvs mo:=
 λm ρ N H s l fl H' S Lo h Q E k=>cps λC Y=>aF (ES.symm.trans h) λx0 H1 h1 h=>fP h λa y h=>vu h λh e=>tT h λkk q h=>cx h λU J=>by
 subst y e;clear X h;clear h;clear h;clear h;clear h;obtain rfl:=aA J;refine Y<|wpAny_Expr_any (MethodCall_ (R m S Lo.loc h1 λu s1 i w b j p=>?_)<|oV I rfl (by decide) O) M T;refine ag p λd f B=>?_;clear p;subst B;refine bP (b.rep.2 _ _ _ f q) λx v n g r=>kl_method b.g g PySem.F.slot_list_reverse PySem.F.type_list_reverse<|lq<|kl_reverse b.F b.g rfl (lK b.j g) (by show v.length<=_;refine aa r.length ?_;exact fV U) λG F t=>?_;have D:=f6 (N:=w) (o':=W.listOf (List.toArray<|v.toArray.toList.reverse) n) (de f).1;have z:=b.upd (s':={s1 with heap:=G}) f q (.inl rfl) F t (ao':=.l kk.reverse) ⟨x,_,n,bz g,(r.XW D).reverse⟩;exact k _ m i _ z.1 (j.trans z.2).weak<|Lo.ext<|j.trans z.2
include K
theorem C0(hv:∀m,ar P cl A env Xp L m Γ (.Name x p)<|.v i)(I:∀m,ar P cl A env Xp L m Γ e me)(w:Γ.vars[i]?=some x)(G:a8 x=true):
  fG P cl lp A env Xp L Γ XA (.AugAssign (.Name x p) (wF op) e pos) (.v i op me):=
 λm ρ N H s l fl H' S Lo h Q E k=>cps λC c=>iC (Jl.symm.trans h) λx0 J h=>aF h λy H1 h1 h=>by
 refine c ?_;unfold Oz at h;cases hz:d6 op x0 y with
 |none=>rw[hz]at h;exact cE h nt
 |some z=>
  rw[hz]at h;cases h;refine wpAny_AugAssign_Name ?_;simp only[a8,Xv,Y1]at G;refine am (Lo.loc i _<|Lk J) λx' u g F g3=>?_;cases w.symm.trans g;have n:wpAny (model P.p P.w) A (eval e env) (λv d=>wpAny (model P.p P.w) A (inplaceOp (wF op) u v) (λr f=>wpAny (model P.p P.w) A (storeName env x r) (λ_=>Q .next) E f) E d) E s:=
   I m S Lo.loc h1 λu1 s1 D N1 W j V1=>vg W hz (F.XW j) V1 λu2 s2 t V2=>oX K t (Lo.ext j) w V2 λs3 m3 U Y R T=>k s3 m3 D U Y (j.weak.Yj R (Lo.ext j).mem) T
  refine cps λC c=>?_;clear K Lo g F h h1 I J hv w hz k;clear h;rcases g3 with⟨a,rfl,b⟩|⟨a,o,O,b,B,M,q⟩|⟨a|a,cc,o,b,B,M,q⟩
  ·exact c<|Z9 (X m).g a S.F.ns b n
  ·exact c<|Z9 (X m).g a (M.ns (S.g _ b).1) q n
  ·exact c<|wpAny_loadName_cell (X m).g a b ⟨o,(S.g _ B).1,q⟩ n
  ·exact c<|wpAny_loadName_free (X m).g a b ⟨o,(S.g _ B).1,q⟩ n G.2
omit K in
theorem CP(ho:∀m,ar P cl A env Xp L m Γ o mo)(hi:∀m,ar P cl A env Xp L m Γ i mi)(Y:∀m,ar P cl A env Xp L m Γ e me)
  (W:∀j g n,augStore i j g n=(do holding [n,j,g] (PySem.setItem j g n);release [n,j,g] [];pure .next)):
  fG P cl lp A env Xp L Γ XA (.AugAssign (.Subscript o i p) (wF op) e pos) (.u mo mi op me):=
 λm ρ N H s l fl H' S Lo h Q E k=>cps λC kC=>aF (Bd.symm.trans h) λx H1 h1 h=>aF h λy H2 R h=>iC h λold c h=>aF h λv H3 T h=>iC h λn b h=>vu h λU e=>by
 clear h;clear h;clear h;clear h;clear h;clear h;subst e;refine kC<|wpAny_AugAssign_Subscript_any (ho m S Lo.loc h1 λu1 s1 ρ1 N1 F q w=>hi m F (Lo.ext q).loc R λu2 s2 ρ2 N2 a d z=>(t5 (E:=E) a c (w.XW d) z).2 λr tk hr=>Y m (a.toks tk) (Lo.ext<|q.trans d).loc T λu3 s3 t N3 G f M=>vg G b (hr.XW f) M λu4 s4 I O=>ue (X m).base I U ((w.XW d).XW f) (z.XW f) O λs5 D J B=>?_) W;have u:=((q.trans d).trans f).trans B;exact k s5 m t D J u.weak<|Lo.ext u
end
section
variable{P:bi}{cl:Cl}{lp:Zx}{A:Around}{env:Env}{Xp:Heap}{L:Addr}{Γ:NC}{XA:ZH}
inductive J2 (Γ:NC):List Expr->List Nat->Prop
 |nil:J2 Γ [] []
 |cons {x:Str}{p:Pos}{i:Nat}{es:List Expr}{is:List Nat}:Γ.vars[i]?=some x->J2 Γ es is->J2 Γ (.Name x p::es) (i::is)
def J2.len (h:J2 Γ e a)(env):(assignEach e env).length=a.length/\(assignEach e env).findIdx? (·.1)=none:=by
 induction h with
 |nil=>exact⟨rfl,rfl⟩
 | @cons x p i e a c _ b=>refine⟨by show(assignEach e env).length+1=a.length+1;exact aa b.1 rfl,?_⟩;refine aa (List.findIdx?_cons) ?_;simp[b.2]
theorem yf:∀{is:List Nat}{a:List V}{l b:Lo},ZG l is a=some b->is.length=a.length
 | [],a,_,_,h=>by cases a with |nil=>rfl|cons=>exact cE h nt
 |i::is,a,l,b,h=>by cases a with |nil=>exact cE h nt|cons v a=>exact Xs (·+1)<|yf (is:=is) h
def sG (K:g5 env L Γ)(F:J2 Γ n is):∀{m:Str->Option Value}{a:Yn}{N:Led}{H:Hp}{s:Shared}{l l':Lo}{b:List V}{c:List Value},St P Xp L m a N H s->c0 env L m Γ.vars a N l->XH a N b c->ZG l is b=some l'->
  ∀{Q:Unit->Shared->Prop}{E:Value->Shared->Prop},(∀q o d,St P Xp L o a d H q->a5 (pL env) a N a d->c0 env L o Γ.vars a d l'->Q () q)->
  wpAny (model P.p P.w) A (assignInOrder ((assignEach n env).map (·.2)) c) Q E s:=by
 induction F with
 |nil=>
  intro m a N H s l l' b c S Lo f h Q E k;cases b with
  |nil=>cases h;exact XZ<|k s m N S (.refl _ _ _) Lo
  |cons=>exact cE h nt
 | @cons x p i n is G _ I=>
  intro m a N H s l l' b c S Lo f h Q E k;cases b with
  |nil=>exact cE h nt
  |cons v b=>refine cps λC J=>am f λu r B h1 D=>?_;clear f;subst B;refine J ?_;exact XD<|wpAny_holding<|wpAny_assign_Name<|oX K S Lo G h1 λU T R z g j=>I z j (D.Yh<|Lo.toT S g) h λO M y e t w=>k O M y e (g.Yj t j.mem) w
def St.abb (S:St P Xp L m a N H s)(k:Heap.ExtBut s.heap.objs.size s.heap h):St P Xp L m a N H {s with heap:=h}:=
 S.kept (tk:=s.toks) λb o e=>k b o (Yd<|YA e) e
variable(X:∀m,EX P cl A env Xp L m Γ)(K:g5 env L Γ)
include X K
theorem Gm(D:∀m,ar P cl A env Xp L m Γ e R)(g:J2 Γ f q)(G:swapsWithSole [.Tuple f r t] e pos.line env=pure false)(I:swappedStores [.Tuple f r t] e env=pure none):
  fG P cl lp A env Xp L Γ XA (.Assign [.Tuple f r t] e pos) (.unp q R):=λm ρ N H s l fl U S Lo h Q E k=>aF (Aq.symm.trans h) λx W h1 h=>by
 refine cps λC M=>?_;cases b:Ed x λv=>ZG l q v with
 |none=>rw[b]at h;exact cE h nt
 |some l'=>rw[b]at h;cases h;refine xD b λv e b=>?_;subst e;refine M<|Assign_Tuple (D m S Lo.loc h1 λu s1 i Y j c o=>cD o λa us n B F ho p=>?_) G I;clear o;subst B;exact wpAny_assign_Tuple (X m).h (jz j.g F) (aa (g.len env).1<|aa (yf b)<|aa Y4<|aa p.length rfl) (g.len env).2 λh' J=>sG K g (j.abb J) (Lo.ext c) p b λT O z d w y=>k T O i z d (c.weak.Yj w (Lo.ext c).mem) y
omit X K in
theorem QK{x:Option<|Fl×Hp}{y:(Lo×Hp)⊕(Fl×Hp)}{C:Prop}(h:QZ x=some y)(k:∀l H,x=some (.n l,H)->y=.inl (l,H)->C)(b:∀v H,x=some (.r v,H)->y=.inr (.r v,H)->C):C:=by cases x with |none=>exact cO h|some p=>obtain⟨a,H⟩:=p;cases a with |n l=>exact k l H rfl (aA h).symm|r v=>exact b v H rfl (aA h).symm|_=>exact cO h
def Vc (cl:Cl)(lp:Zx)(b:ME)(a:List MS):Lo×Hp->Option ((Lo×Hp)⊕(Fl×Hp)):=λs=>bV (ai cl s.1 b s.2) λv H=>rU v λt=>if t then QZ (XU cl lp s.1 H a)else some<|.inr (.n s.1,H)
def WJ (P:bi)(env:Env)(Xp:Heap)(L:Addr)(Γ:NC)(d:Yn)(N:Led)(f:Lo×Hp->Option ((Lo×Hp)⊕(Fl×Hp)))(r:Fl×Hp)(q:Nat)(s:Shared):Prop:=
 ∀G:Prop,(∀c a b l H,fR f q (l,H)=some r->St P Xp L c a b H s->c0 env L c Γ.vars a b l->a5 (pL env) d N a b->G)->G
theorem y9{c:Expr}{D:ME}{b:List Stmt}{B:List MS}{pos:Pos}(U:∀i s r,lp i s=some r->∃n,fR i n s=some r)(T:∀m,iL P cl A env Xp L m Γ c D)(hb:kH P cl lp A env Xp L Γ XA b B):
  fG P cl lp A env Xp L Γ XA (.While c b [] pos) (.w D B):=λm ρ N H s l fl H' S Lo h Q E k=>by
 obtain⟨n,hn⟩:=U _ _ _<|yB.symm.trans h;refine wpAny_While<|codeAny_whileLoop (WJ P env Xp L Γ ρ N (Vc cl lp D B) (fl,H')) (λq s' q0=>Tb λQ1 R Ea=>q0 _ λz ρ1 N1 l1 H1 a M d F=>cps λC W=>?_) n λ_ k=>k m ρ N l H hn S Lo<|.refl _ _ _;cases q with
 |zero=>exact cE a nt
 |succ q=>
  refine iC (show oB (Vc cl lp D B (l1,H1)) _=_ from a) λst o a=>aF (show bV _ _=_ from o) λw H2 h1 y=>qW y λt e y=>?_;subst e;cases t with
  |false=>cases y;cases a;exact W<|T z M d.loc h1 λs2 p I f g=>R _ _<|wpAny_execs_nil<|k s2 z p I f (F.Yj g.weak d.mem)<|d.ext g
  |true=>
   refine QK y (λl3 H3 j e=>?_) λv H3 j e=>?_
   ·clear y o;subst e
    exact W<|T z M d.loc h1 λs2 p I f g=>R _ _<|hb f (d.ext g) j λs3 Y x J O G L3=>⟨q,YX _,λ_ k=>k Y x J l3 H3 a O L3<|(F.Yj g.weak d.mem).Yj G (d.ext g).mem⟩
   ·clear y o;subst e
    cases a;exact W<|T z M d.loc h1 λs2 p I f g=>R _ _<|hb f (d.ext g) j λu s3 Y x J O G V3=>k u s3 Y x J O ((F.Yj g.weak d.mem).Yj G (d.ext g).mem) V3
omit X K in
theorem a5.abc:a5 cs b N b<|(I,obj)::N:=⟨⟨[],by simp⟩,λ_ a _ _=>.tail _ a,λ_ _ h=>h⟩
omit X K in
theorem a5.acd(E:a5 cs f N a b)(h:∀p∈N,p.1≠I):a5 cs f N a<|Mine.rep1 I o b:=⟨E.pre,λp c e d=>aX (E.keep p c e d)<|h p c,E.apart⟩
omit X K in
theorem a5.ac8(E:a5 cs f N a b)(h:∀p∈N,p.1≠I):a5 cs f N a<|Mine.but I b:=⟨E.pre,λp c e d=>gb.mpr ⟨E.keep p c e d,h p c⟩,E.apart⟩
omit X in
theorem c0.ZZ(S:St P Xp L m f N H s)(Lo:c0 env L m Γ.vars f N l)(w:(I,obj)∈N)(d:∃q,obj.data=.fields q)(t:∀p∈N,p.1≠I->p∈N')(G:j7 f N f N'):c0 env L m Γ.vars f N' l:=by
 refine Xq d λq d=>⟨λi v F=>?_,λa E=>?_⟩
 ·refine am (Lo.loc i v F) λx u h1 k h=>⟨x,u,h1,k.Yh G,(cps λC y=>?_)⟩
  rcases h with r|⟨a,B,z,b,g,n⟩|⟨a,c,B,D,g,n,j⟩
  ·exact y<|.inl r
  ·exact Xw K.h (S.g _ b).2.1
  ·exact y<|.inr<|.inr ⟨a,c,B,D,t _ g (vk S.j g w λe=>by rw[e,d]at j;cases j),n,j⟩
 ·exact am (Lo.cells a E) λo v h1 k h=>⟨o,v,t _ h1 (vk S.j h1 w λe=>by rw[e,d]at h;cases h),k,h⟩
omit X K in
theorem j7.trans(x:j7 j N b d)(y:j7 b d c abo):j7 j N c abo:=by exact Xq x.pre λt e=>Xq y.pre λi f=>⟨⟨t++i,by rw[f,e,X1]⟩,λa v n h g=>have p:=x.keep _ _ _ h g;y.keep _ _ _ p.1 p.2⟩
omit X K in
theorem yU{v:List V}{l:Lo}{H:Hp}{r:Fl×Hp}(h:aM f o v l H=some r):o H=true:=by cases v<;> exact uu h λq _=>q
def FJ (P:bi)(env:Env)(Xp:Heap)(L:Addr)(Γ:NC)(I:Addr)(i:Nat->Obj->Prop)(d:Yn)(N:Led)(f:V->Lo->Hp->Option (Fl×Hp))(e:Hp->Bool)(v:List V)(r:Fl×Hp)(q:Nat)(s:Shared):Prop:=
 ∀G:Prop,(∀c a b l H j o,q=v.length+1-j->j<=v.length->St P Xp L c a b H s->c0 env L c Γ.vars a b l->a5 (pL env) d N a b->j7 d N a b->(I,o)∈b->i j o->¬own a I->¬pL env I->aM f e (v.drop j) l H=some r->G)->G
section
variable{I:Addr}{io:Nat->Obj->Prop}{ρ:Yn}{N:Led}{f:V->Lo->Hp->Option (Fl×Hp)}{ok:Hp->Bool}{vs:List V}{r:Fl×Hp}
omit X K in
theorem FJ.mk{s':Shared}{c:Str->Option Value}{a:Yn}{b:Led}{l:Lo}{H:Hp}{j:Nat}{o:Obj}(e:j<=vs.length)(S:St P Xp L c a b H s')(Lo:c0 env L c Γ.vars a b l)(E:a5 (pL env) ρ N a b)(T:j7 ρ N a b)(i:(I,o)∈b)(h:io j o)(n:¬own a I)(d:¬pL env I)
  (g:aM f ok (vs.drop j) l H=some r):FJ P env Xp L Γ I io ρ N f ok vs r (vs.length+1-j) s':=λ_ k=>k _ _ _ _ _ _ _ rfl e S Lo E T i h n d g
omit X in
theorem yH{b:List Stmt}{W:List MS}(F:kH P cl lp A env Xp L Γ XA b W){p:Yn}{B:Led}{Q:Flow->Shared->Prop}{E':Value->Shared->Prop}(Ex:a5 (pL env) p B ρ N)(hc:∀a,pL env a->∃o,(a,o)∈N)(k:∀v,r.1=.r v->∀u s' m' g w,St P Xp L m' g w r.2 s'->a5 (pL env) p B g w->bY g w v u->Q (.ret u) s')
  {J j:Nat} (e:J=vs.length+1-j) {s2:Shared}{O:Str->Option Value}{c:Yn}{n:Led}{M:Lo}{z:Hp}{d:Obj} (G:j+1<=vs.length) (S2:St P Xp L O c n z s2) (i:c0 env L O Γ.vars c n M) (y:a5 (pL env) ρ N c n) (T2:j7 ρ N c n)
  (U:(I,d)∈n) (x:io (j+1) d) (Y:¬own c I) (D:¬pL env I) (t:fx (XU cl lp M z W) (λl H=>aM f ok (vs.drop<|j+1) l H)=some r) {R:Flow->Shared->Prop}
  (h1:∀s,(∃q',q'<J/\FJ P env Xp L Γ I io ρ N f ok vs r q' s)->R .next s) (h2:∀v s,Q (.ret v) s->R (.ret v) s):wpAny (model P.p P.w) A (execs b env) R E' s2:=by
 obtain⟨fl,H'⟩:=r;refine Uz t (λl3 H3 h t=>?_) λv e h=>?_
 ·exact F S2 i h λs T q C S E L3=>h1 s ⟨_,wB e G,FJ.mk (j:=j+1) G S L3 (y.Yj E i.mem) (T2.trans<|i.toT S2 E) (E.keep _ U Y D) x (E.apart _ U Y) D t⟩
 ·clear t h1;subst e
  exact F S2 i h λu3 s T q C S E V3=>h2 u3 s<|k v rfl u3 s T q C S (Ex.Yj (y.Yj E i.mem) hc) V3
end
theorem ou{x:Str}{px pos:Pos}{c:Expr}{b:List Stmt}{mb:List MS}{i:Nat}(hx:Γ.vars[i]?=some x)(hb:kH P cl lp A env Xp L Γ XA b mb)(hfs:∀x,foldedSetIterable c env x=pure x)
  {m:Str->Option Value}{ρ:Yn}{N:Led}{H1:Hp}{s:Shared}{l:Lo}{ok:Hp->Bool}{G:List V}{fl:Fl}{H:Hp}{E:Value->Shared->Prop} (Lo:c0 env L m Γ.vars ρ N l)
  (D:∀(E:Value->Shared->Prop) (Q:Value->Shared->Prop),(∀f N',a5 aO ρ N f N'->jX P A Xp L m f N' H1 ok G Q)->wpAny (model P.p P.w) A (eval c env) (λxv F=>wpAny (model P.p P.w) A (pyIter xv) Q E F) E s)
  (B:aM (λv R H=>XU cl lp (R.set i<|some v) H mb) ok G l H1=some (fl,H)) {Q:Flow->Shared->Prop} (k:CH P env Xp L Γ XA ρ N H Q E fl):
  wpAny (model P.p P.w) A (exec (.For (.Name x px) c b [] pos) env) Q E s:=by
 refine wpAny_For (D E _ λJ N1 M I obj s1 io S1 t hIo hio nx hif aca=>?_) hfs;have d:=(Lo.ext M).mem;refine codeAny_forLoop (FJ P env Xp L Γ I io J N1 (λv R H=>XU cl lp (R.set i<|some v) H mb) ok G (fl,H)) (λk0 s' q0=>q0 _ λm' f N' R H'' j obj' e hj S z E' T' o q T cI g=>?_) (G.length+1)
  (FJ.mk (j:=0) (X4 _) S1 ((Lo.ext M).ext .abc:c0 env L m Γ.vars J ((I,obj)::N1) l) .abc ⟨⟨[],by simp⟩,λa G n h ho=>⟨.tail _ h,ho⟩⟩ (.head _) hio hIo (λhc=>(d I hc).elim λ_ hm=>t _ hm rfl) B)
 have w:=hif _ _ q;have U:bB obj':=w.elim λ_ h=>.fields h;refine nx S T' o q (yU g) hj (λv u r h2 tk ev hvu C y hg2=>?_) λh2 tk hin y=>?_
 ·have T1:=S.turned (tk:=tk) o T U y hg2
  have x1:=fc (ρ:=f) (obj':=r) S.j o U;have W:=c0.ZZ K S z o w (N':=rep1 I r N') (λp hp he=>aX hp he) x1;rw[wt ev]at g;exact wpAny_assign_Name<|oX K T1 W hx (hvu.Yh x1) λs2 m2 N2 Y O L2=>uu g λ_ g=>yH K hb M.weak d (λv e=>by subst e;exact k) e (Yl.mp ev).1 Y L2 ((E'.acd t).Yj O W.mem) ((T'.trans x1).trans<|W.toT T1 O)
   (O.keep _ (bz o) T cI) C (O.apart _ (bz o) T) cI g (λ_ h=>h) (λ_ _ h=>h)
 ·have g:=g
  rw[hin,drop_length]at g;refine uu g λ_ g=>aR g λe1 e2=>?_;clear g B q0;clear g;subst e1 e2;exact wpAny_execs_nil<|k _ m' f _ (S.gone (tk:=tk) o T U y) (M.weak.Yj (E'.ac8 t) d)<|c0.ZZ K S z o w (N':=but I N') (λp hp he=>gb.mpr ⟨hp,he⟩)<|jr S.j o U
end
section
variable{P:bi}{cl:Cl}{lp:Zx}{A:Around}{env:Env}{Xp:Heap}{L:Addr}{Γ:NC}{XA:ZH}
variable(X:∀m,EX P cl A env Xp L m Γ)(K:g5 env L Γ)
include X K
theorem CN(g:Γ.vars[i]?=some x)(f:∀m,ar P cl A env Xp L m Γ iter o)(c:kH P cl lp A env Xp L Γ XA b n)(a:∀x,foldedSetIterable iter env x=pure x):
  fG P cl lp A env Xp L Γ XA (.For (.Name x v) iter b [] pos) (.g i o n):=λm w N H s l t p S Lo h Q E k=>
 aF (rQ.symm.trans h) λu r h1 h=>iC h λq d e=>ou X K g c a Lo (λE Q j=>vO (X m) (f m) S Lo.loc h1 d j) e k
theorem DO(q:Γ.vars[i]?=some x)(o:hF "range" Γ=true)(c:au d=true)(j:∀m,ar P cl A env Xp L m Γ d v)(f:kH P cl lp A env Xp L Γ XA b u):
  fG P cl lp A env Xp L Γ XA (.For (.Name x F) (.Call (.Name "range" p) [d] [] D) b [] pos) (.h i v u):=λm G N H s l B y S Lo h Q E k=>cps λC r=>aF (Cj.symm.trans h) λw z h1 h=>bH h λn e h=>cx h λa g=>by
 subst e;refine r ?_;rw[lU]at a;exact ou X K q f (by intro _;rfl) Lo (λE Q t=>nz (X m) o c (j m) S Lo.loc h1 a.1 a.2 t) g k
theorem zG(q:Γ.vars[i]?=some x)(o:hF "range" Γ=true)(c:au d=true)(j:∀m,ar P cl A env Xp L m Γ d v)(f:kH P cl lp A env Xp L Γ XA b u):
  fG P cl lp A env Xp L Γ XA (.For (.Name x I) (.Call (.Name "range" p) [d,.UnaryOp .USub (.Constant (.int 1) D J) M,.UnaryOp .USub (.Constant (.int 1) F O) R] [] G) b [] pos) (.Zv i v u):=λm T N H s l B y S Lo h Q E k=>cps λC r=>aF (yb.symm.trans h) λw z h1 h=>bH h λn e h=>cx h λa g=>by
 subst e;refine r ?_;rw[B5]at a;exact ou X K q f (by intro _;rfl) Lo (λE Q t=>AL (X m) o c (j m) S Lo.loc h1 a.1 a.2 t) g k
theorem DF(o:Γ.vars[i]?=some x)(n:hF "reversed" Γ=true)(a:au c=true)(g:∀m,ar P cl A env Xp L m Γ c v)(d:kH P cl lp A env Xp L Γ XA b u):
  fG P cl lp A env Xp L Γ XA (.For (.Name x G) (.Call (.Name "reversed" p) [c] [] F) b [] pos) (.aao i v u):=λm I N H s l B y S Lo h Q E k=>cps λC t=>aF (BR.symm.trans h) λw z h1 h=>fP h λr e h=>tT h λD j h=>cx h λ_ f=>by
 subst e;exact t<|ou X K o d (by intro _;rfl) Lo (λE Q q=>IT (X m) n a (g m) S Lo.loc h1 j q) f k
theorem w8(hr:hF "range" Γ=true)(R:au J=true)(W:fB env Γ x scope cls t F)(hn:∀m,ar P cl A env Xp L m Γ J mn)
  (he:∀m C,ar P cl A (compEnvC scope cls C env) Xp L m F elt me) (hc:∀m C,iL P cl A (compEnvC scope cls C env) Xp L m F c mc) (hy:Γ.vars[i]?=some y) (hk:env.kindOf y=some .local)
  (T:swapsWith (.ListComp elt [⟨.Name x px,.Call (.Name "range" B) [J] [] p3,[c],0⟩] scope pos) (some<|.Name y py) D.line env=pure true):
  fG P cl lp A env Xp L Γ XA (.Assign [.Name y py] (.ListComp elt [⟨.Name x px,.Call (.Name "range" B) [J] [] p3,[c],0⟩] scope pos) D) (.s i<|.F me mn mc t):=λm ρ N H s l fl H' S Lo h Q E k=>cps λC I=>aF (wS.symm.trans h) λv H3 d h=>aF d λw H1 h1 d=>bH d λn e0 d=>cx d λf d=>aF d λxs H2 M d=>BU d λhl e1 e2=>by
 subst e0 e1 e2;cases h;refine I ?_;rw[lU]at f;refine xE (X m) W T K.h hk K.f (λQ kk=>nz (X m) hr R (hn m) S Lo.loc h1 f.1 f.2 kk) M hl (λG Y E1 C=>qN (X m) W (Lo.ext E1).loc C (he m C)<|hc m C) (by intro _;rfl) λu s' G Y S' U V'=>?_;have p:=Lo.ext U;refine k s' _ G Y S' U.weak ⟨λj w O=>?_,p.cells⟩;rcases zp O with⟨rfl,rfl⟩|⟨e,O⟩
 ·exact⟨y,u,hy,V',.inl ⟨hk,K.h,Xr rfl⟩⟩
 ·refine am (p.loc j w O) λz u' g g2 g3=>⟨z,u',g,g2,(cps λC I=>?_)⟩
  rcases g3 with⟨a,b,c⟩|⟨a,o,aei,b,_⟩|r
  ·exact I<|.inl ⟨a,b,(Xu (λq=>e (qt K.j hy<|q▸g):z≠y)).trans c⟩
  ·exact Xw K.h (S'.g _ b).2.1
  ·exact I<|.inr<|.inr r
end
abbrev LI (a:Addr)(i:Nat)(o:Obj):Prop:=o.cls=.type "list_iterator"/\o.data=.fields #[.ref a,.int i 0]
noncomputable abbrev Vp(a:Addr):Obj:={cls:=.type "list_iterator",data:=.fields #[.ref a,.int 0 0]}
abbrev Tz (c:Cl)(a:Zx)(i j:Nat)(m:List MS)(v:V)(l:Lo)(H:Hp):Option<|Fl×Hp:=Lm v λx y=>XU c a ((l.set i<|some x).set j<|some y) H m
def L6 {v:V}{f:V->V->Option (Fl×Hp)}{g:Lo->Hp->Option (Fl×Hp)}{r:Fl×Hp}(h:fx (Lm v f) g=some r){Cx:Prop}(k:∀a b,v=.t [a,b]->fx (f a b) g=some r->Cx):Cx:=by
 cases v with
 |t l=>
  cases l with
  |nil=>exact cE h nt
  |cons a l=>cases l with
   |nil=>exact cE h nt
   |cons b l=>cases l with
    |nil=>exact k a b rfl h
    |cons _ _=>exact cE h nt
 |_=>exact cE h nt
section
variable{prog:Program}{w:World}{A:Around}{E:Value->Shared->Prop}{s:Shared}
def Ht (i:s.heap.get? a=some (W.listOf x n))(g:f x=#[])(d:x.size<=sizeLine)
  (h:∀b c,Heap.SameBut a s.heap b->b.get? a=some (W.listOf #[] c)->Q () {s with heap:=b}):wpAny M A (Builtin.List.listUpdate (.ref a) f) Q E s:=by
 refine listUpdate_at i rfl ?_ d (by refine aa g ?_;exact X4 _);obtain⟨c,e⟩:∃c,(s.heap.update a<|Obj.mapSeq f).get? a=some (seqObj "list" (f x) c):=⟨_,get?_update_seq i f⟩;rw[g]at e;exact h _ c (Heap.SameBut.update ..) e
def JN (j:s.heap.get? l=some (W.listOf e n))(y:s.heap.IsSliceOf q .none .none .none)(o:e.size<=sizeLine)
  (h:∀g c,Heap.SameBut l s.heap g->g.get? l=some (W.listOf #[] c)->Q () {s with heap:=g}):wpAny (model prog w) A (delItem (.ref l)<|.ref q) Q E s:=by
 refine cps λC z=>aj (id y) λp b i d=>?_;refine z<|wpAny_delItem_slot (⟨_,j,rfl⟩) (rfl) PySem.F.slot_list_delitem<|wpAny_call_entry PySem.F.slot_list_delitem (⟨_,j,rfl⟩) PySem.F.entry_list_delitem ?_<|PySem.F.args_list_delitem_2 _ _;show wpAny _ _ (Builtin.List.listSubscript? (.ref q)>>=_) _ _ s;refine XD<|XD<|wpAny_specialOf (⟨p,b,i⟩) slice_no_index<|XZ<|XD<|wpAny_typeOf (⟨p,b,i⟩)<|XD<|XD<|ZM b d (x:=.none) rfl (XD<|wpAny_listPart .none<|XD<|ZM b d (x:=.none) rfl (XD<|wpAny_listPart .none<|XD<|ZM b d (x:=.none) rfl (XD<|wpAny_listPart .none<|XZ<|XD<|listItems_at j rfl (XD<|wpAny_of_eq (sliceIndices_raw none none none e.size<|by trivial)<|XD<|wpAny_rule<|XD<|Ht j ?_ o λg c m u=>?_))))
 ·have:∀(f:Value×Nat->Option Value),(∀a∈e.toList.zipIdx,f a=none)->(e.toList.zipIdx.filterMap f).toArray=#[]:=λf t=>by exact aa (List.filterMap_eq_nil_iff.mpr t) rfl
  refine this _ λa r=>?_;obtain⟨x,k⟩:=a;show(if(if(1:Int)>0 then decide ((0:Int)<=(k:Int))&&decide ((k:Int)<(e.size:Int))&&(((k:Int)-0) % 1==0)else _)=true then none else some x)=none;have v:k<e.size:=by have:=List.mem_zipIdx r;simpa using this.2.1
  simp[v]
 ·exact XD<|wpAny_letGo<|XZ ⟨_,rfl,h g c m u⟩
end
section
variable{P:bi}{cl:Cl}{lp:Zx}{A:Around}{env:Env}{Xp:Heap}{L:Addr}{Γ:NC}{XA:ZH}
variable(X:∀m,EX P cl A env Xp L m Γ)(K:g5 env L Γ)
include X
theorem zo(J:∀m,ar P cl A env Xp L m Γ o R):fG P cl lp A env Xp L Γ XA (.Delete [.Subscript o (.Slice none none none sp) p] pos)<|.c R:=
 λm ρ N H s l fl W S Lo h Q E k=>cps λC i=>aF (yd.symm.trans h) λx0 Y h1 h=>fP h λa B h=>vu h λh e=>tT h λkk t h=>cx h λO I=>by
 subst B e;clear h;clear h;clear h;clear h;obtain rfl:=aA I;refine i<|wpAny_Delete<|wpAny_deleteEach_cons<|wpAny_delete_Subscript<|J m S Lo.loc h1 λu U j N1 w q x=>wpAny_Slice<|evalPart_none_step<|evalPart_none_step<|evalPart_none_step<|cps λC i=>ag x λd r D=>?_;subst D;have T:=w.grow (o:={cls:=.type "slice",data:=.fields #[.none,.none,.none]});refine bP (T.rep.2 _ _ _ r t) λy vs n f M=>i<|JN (T.g _ f).1 (Heap.IsSliceOf.new ..) (by refine aa Y4<|aa M.length ?_;exact fV O) λF c v G=>wpAny_deleteEach_nil ?_;have z:=T.upd (s':={U with heap:=F}) r t (.inl rfl) (xd T.F (λb o g e=>v.extBut b o g e) (T.g _ f).2.1 (T.g _ f).2.2) (qp T.g f (λb o g e=>v.extBut b o g e) G) (ao':=.l []) ⟨y,[],c,bz f,rfl⟩;exact k _ m j _ z.1 (q.trans z.2).weak<|Lo.ext<|q.trans z.2
include K
theorem DS{x y:Str}{px py tp pos:Pos}{kk:Nat}{f:Expr}{mi:ME}{b:List Stmt}{mb:List MS}{i j:Nat}(hx:Γ.vars[i]?=some x)(hy:Γ.vars[j]?=some y)(hi:∀m,ar P cl A env Xp L m Γ f mi)(hb:kH P cl lp A env Xp L Γ XA b mb)
  (hfs:∀x,foldedSetIterable f env x=pure x):fG P cl lp A env Xp L Γ XA (.For (.Tuple [.Name x px,.Name y py] kk tp) f b [] pos)<|.ZE i j mi mb:=λm ρ N H s l fl H' S Lo h Q E k=>cps λC kC=>aF (Cy.symm.trans h) λx0 H1 h1 h=>fP h λr e0 h=>tT h λvs hk h=>cx h λhz hh=>by
 subst e0;refine kC<|wpAny_For (hi m S Lo.loc h1 λu s0 z N1 S0 E1 V1=>ag V1 λc hc T=>?_) hfs;clear V1;subst T;refine bP (S0.rep.2 _ _ _ hc hk) λ_ us n W hvl=>wpAny_pyIter_list (fK S0.g W)<|bU (S0.Zh<|Vp c.1) λS1 d M=>?_;have nx:nQ P A Xp L z N1 s0.heap.objs.size (LI c.1) (aZ r vs) vs:=u0 (P:=P) (Xp:=Xp) (L:=L) (ρ₀:=z) (N₀:=N1) (vs:=vs) (X m).h hc<|d _ W;revert S1 d M nx;refine UE s0.heap.objs.size λI S1 d M nx=>?_;have o:=(Lo.ext E1).mem;refine codeAny_forLoop_any (FJ P env Xp L Γ I (LI c.1) z N1 (Tz cl lp i j mb) (aZ r vs) vs (fl,H')) (λk0 s' q0=>Tb λQ1 U Ea=>q0 _ λm' Y N' l' H'' t obj' e hj J R E' T' w B oI cI g=>?_) (vs.length+1)
  (FJ.mk (j:=0) (X4 _) S1 ((Lo.ext E1).ext .abc:c0 env L m Γ.vars z ((I,(Vp c.1))::N1) l) .abc ⟨⟨[],by simp⟩,λa vs n h ho=>⟨.tail _ h,ho⟩⟩ (.head _) ⟨rfl,rfl⟩ M (λhc=>(o I hc).elim λ_ hm=>d _ hm rfl) hh)
 have z9:=B.2;have tI:bB obj':=.fields z9;refine nx J T' w B (yU g) hj (λv u q h2 tk ev hvu D O hg2=>?_) λh2 tk hin O=>?_
 ·have T1:=J.turned (tk:=tk) w oI tI O hg2
  have x1:=fc (ρ:=Y) (obj':=q) J.j w tI;have L1:=c0.ZZ K J R w ⟨_,z9⟩ (N':=rep1 I q N') (λp hp he=>aX hp he) x1;rw[wt ev]at g;refine uu g λ_ g=>L6 (f:=λx y=>XU cl lp ((l'.set i<|some x).set j<|some y) H'' mb) g λv1 v2 T g=>?_;subst T;have G:=hvu.Yh x1;refine cD G λa ws na T hma hoa F=>?_;clear G;subst T;refine U _ _<|wpAny_letOwnedTupleGo_listiter (i:=t+1) ⟨q,(T1.g _<|bz w).1,D⟩<|wpAny_assign_Tuple (X m).h (jz T1.g hma) (by refine aa Y4<|aa F.length ?_;rfl) rfl λh3 hx3=>?_;exact sG (is:=[i,j]) K (.cons hx<|.cons hy .nil) (T1.abb hx3) L1 F (l':=(l'.set i<|some v1).set j<|some v2) rfl λs2 m2 N2 S2' E2 L2=>yH K hb E1.weak o (λv e=>by subst e;exact k) e (Yl.mp ev).1 S2' L2 ((E'.acd d).Yj E2 L1.mem) ((T'.trans x1).trans<|L1.toT T1 E2)
   (E2.keep _ (bz w) oI cI) D (E2.apart _ (bz w) oI) cI g (λ_ h=>h) (λ_ _ h=>h)
 ·have g:=g
  rw[hin,drop_length]at g;refine uu g λ_ g=>aR g λe1 e2=>?_;clear g h hh q0;clear g h;clear h;clear h;subst e1 e2;exact U _ _<|wpAny_execs_nil<|k _ m' Y _ (J.gone (tk:=tk) w oI tI O) (E1.weak.Yj (E'.ac8 d) o)<|c0.ZZ K J R w ⟨_,z9⟩ (N':=but I N') (λp hp he=>gb.mpr ⟨hp,he⟩)<|jr J.j w tI
end
structure uj(P:bi)(A:Around)(Xp:Heap)(L:Addr)(d:Nat):Prop where
 base:m7 P Xp
 h:A.handled=none
 room:A.depth+2*d<900
 units:A.units+8*d+400<cLine
 below:∀C:Prop,(∀A₀ base outer env,Below A₀ base outer Xp->A.frames=some (env::outer)->env.frame=some L->env.scope.kind=.function->C)->C
def Dp (A a:Around):Prop:=a=A\/∃C r,a=A.under (.builtin "type.__call__" ⟨.ref C::r,[]⟩)
def Dp.facts {A a:Around}(h:Dp A a):a.handled=A.handled/\a.frames=A.frames/\a.depth<=A.depth+1/\a.units<=A.units+4:=by
 rcases h with rfl|⟨C,r,rfl⟩
 ·exact⟨rfl,rfl,le_succ _,Xz _ _⟩
 ·refine⟨rfl,rfl,?_,?_⟩
  ·have:Code.weight (.builtin "type.__call__" ⟨.ref C::r,[]⟩)<=1:=by exact XC _
   exact aK 0x2d030206482d0865b tq this
  ·have:Code.cUnits (.builtin "type.__call__" ⟨.ref C::r,[]⟩)=1:=rfl
   exact aK 0x8d030206482d0869b tq this
def KD (P:bi)(k:Nat)(f:Fn)(l:Cl)(n:Zx)(A:Around)(h:Heap)(L:Addr)(m:Str->Option Value):Prop:=
 ∀⦃c:List V⦄ ⦃H g:Hp⦄ ⦃v:V⦄ ⦃d:Yn⦄ ⦃N:Led⦄ ⦃s:Shared⦄ ⦃j:List Value⦄,c.length=f.p->dy (XU l n (c.map some++List.replicate (f.vars-f.p) none) H f.body)=some (.v v,g)->St P h L m d N H s->XH d N c j->
  ∀(e:Around) (R:Result->Shared->Prop),Dp A e->
   (∀u i a b,St P h L m a b g i->a5 aO d N a b->bY a b v u->R (.ok<|.ret u) i)->
   codeAny (model P.p P.w) e (.call (.ref<|P.f k) ⟨j,[]⟩) R s
structure pn(P:bi)(k:Nat)(vars:List Str)(np:Nat)(scope:Scope)(body:List Stmt)(qual:Str)(Zm:Value):Prop where
 ex:∀C:Prop,(∀name params aaz kV doc pm an ct oc aa5 osl,P.K.lookup (P.f k)=some ⟨oc,aa5,.func<|fnX name qual params body scope [] aaz kV doc pm an Zm ct,osl⟩->
  (∀s us,us.length=np->BindsTo s (fnX name qual params body scope [] aaz kV doc pm an Zm ct) ⟨us,[]⟩ ((vars.take np).zip us))->C)->C
 code:codeIn P.K Zm qual=true
 n:∀x∈scope.names,x.2≠.cell
 loc:∀x∈vars,scope.names.lookup x=some .local
 j:vars.Nodup
 np:np<=vars.length
 c:scope.isCoroutine=false
 gen:scope.isGenerator=false
 kind:scope.kind=.function
def di {c:List Str}{us:List Value}(n:c.Nodup){i:Nat}{x:Str}{u:Value}(m:c[i]?=some x)(j:us[i]?=some u):(c.zip us).reverse.lookup x=some u:=by
 have k:∀(l:List<|Str×Value),(l.map (·.1)).Nodup->(x,u)∈l->l.lookup x=some u:=by
  intro l;induction l with
  |nil=>exactλ_ h=>Xw h XY
  |cons p r g=>
   intro f d;obtain⟨a,b⟩:=p;rw[af,X9]at f;rcases XE.mp d with e|d
   ·cases e;simp
   ·have:x≠a:=λe=>f.1<|Yp.mpr ⟨_,d,e⟩
    simp[Y8,Yk.mpr this];exact g f.2 d
 have d:(x,u)∈c.zip us:=by
  have:(c.zip us)[i]?=some (x,u):=by rw[getElem?_zip_eq_some];exact⟨m,j⟩
  exact YQ this
 refine k _ (aa List.map_reverse<|List.pairwise_reverse.mpr<|List.Pairwise.imp (X0) (?_:((c.zip us).map (·.1)).Nodup))<|List.mem_reverse.mpr d;have z:∀(c:List Str) (us:List Value),(c.zip us).map (·.1)=c.take us.length:=by
  intro c;induction c with
  |nil=>intro us;simp
  |cons a r g=>intro us;cases us with
   |nil=>simp
   |cons b t=>simp[g]
 rw[z];exact n.sublist<|Z1 _ _
section
variable{P:bi}{cl:Cl}{lp:Zx}{XA:ZH}
def lm {vs:List V}{n i:Nat}{v:V}(h:(vs.map some++List.replicate n none)[i]?=some (some v)):vs[i]?=some v:=by
 by_cases a:i<vs.length
 ·rw[Yu<|by simpa using a,YN]at h
  have h:=h;cases e:vs[i]? with
  |none=>rw[e]at h;exact cE h nt
  |some w=>rw[e]at h;simpa using h
 ·rw[Zy<|by simpa using a]at h
  have:=YQ h;have:=List.eq_of_mem_replicate this;exact cE this nt
def w7 {k:Nat}{f:Fn}{j:List Str}{h:Scope}{M:List Stmt}{q:Str}{l:Value}(J:pn P k j f.p h M q l)(hkn:mH P){d:Nat}
  (hcl:∀A D L m,uj P A D L d->jK P cl A D L m)
  (hb:∀A g t,(∀m,EX P cl A (envX q h t (P.f k) l []) g t m ⟨j,h.names⟩)->g5 (envX q h t (P.f k) l []) t ⟨j,h.names⟩->kH P cl lp A (envX q h t (P.f k) l []) g t ⟨j,h.names⟩ XA M f.body):
  ∀A D L m,uj P A D L (d+1)->KD P k f cl lp A D L m:=λA D L m C vs H H' v ρ N s us Q O S hv A' R hA' hR=>by
 obtain⟨n1,n2,n3,n4⟩:=hA'.facts;refine C.below _ λA₀ base X env B hfr hef hek=>J.ex _ λname params aaz kV doc pm an ct oc aa5 osl hK W=>?_;have z9:=J.kind;refine callX_plain (fo:=⟨oc,aa5,_,osl⟩) B S.F S.g C.base.nolimit (n2.trans hfr) hef hek ((C.base.K.keeps S.F.keep) _ _ hK) rfl (codeRec_of (C.base.K.keeps S.F.keep) J.code) (by have:=C.room;have:recursionLimit=1000:=rfl;exact KF ‹_› ‹_› ‹_›) (W s us<|hv.length.trans Q) (λy hy=>?_) (λg t Zp FG F' N' BG st hlt=>?_) J.n J.c J.gen z9
 ·have hm:y.1∈j.take f.p:=(of_mem_zip hy).1
  exact J.loc _<|ZD hm
 ·have Cb:uj P (A'.deeper<|envX q h t (P.f k) l []) g t d:=⟨C.base.keeps st,by refine aa n1 ?_;exact C.h,by have:=C.room;exact Lr n3 this,by have:=C.units;exact KS n4 this,
   λ_ z=>z A' base (env::X) _ BG (by show A'.frames.map _=_;refine aa n2<|aa hfr ?_;rfl) rfl z9⟩
  have Y:∀m',EX P cl (A'.deeper<|envX q h t (P.f k) l []) (envX q h t (P.f k) l []) g t m' ⟨j,h.names⟩:=λm'=>
   ⟨z9,rfl,rfl,rfl,Cb.base,Cb.h,by have:=Cb.units;exact Lh this,hcl _ _ _ _ Cb,hkn⟩
  have EO:g5 (envX q h t (P.f k) l []) t ⟨j,h.names⟩:=⟨rfl,z9,J.j,λx F=>.inl<|J.loc x F,λx y c F=>by simp at F⟩;have Sg:St P g t (λy=>((j.take f.p).zip us).reverse.lookup y) ρ N H {s with heap:=Zp,toks:=s.toks+((j.take f.p).zip us).length}:=⟨F',N',S.j,S.rep,S.sep,λb o e=>st b o<|S.old b o e,S.env⟩;have T:∀a,¬pL (envX q h t (P.f k) l []) a:=λa ⟨x,F⟩=>by simp at F
  have Lg:c0 (envX q h t (P.f k) l []) t (λy=>((j.take f.p).zip us).reverse.lookup y) j ρ N<|vs.map some++List.replicate (f.vars-f.p) none:=⟨λi w hi=>by have hw:=lm hi;have hil:i<f.p:=Q▸(Yl.mp hw).1;obtain⟨u,hu,hz⟩:=hv.get hw;have F:j[i]?=some (j[i]'(XO hil J.np)):=XQ _;refine⟨_,u,F,hz,.inl ⟨J.loc _<|YQ F,rfl,?_⟩⟩;exact di (J.j.sublist<|Z1 _ _) (by refine aa (getElem?_take_of_lt hil) ?_;exact F) hu,λa ha=>Xw ha<|T a⟩
  have wk:∀{I N'},a5 (pL<|envX q h t (P.f k) l []) ρ N I N'->a5 aO ρ N I N':=λE=>⟨E.pre,λp hp ho _=>E.keep p hp ho<|T _,E.apart⟩;refine cps λZ kZ=>?_;cases F:XU cl lp (vs.map some++List.replicate (f.vars-f.p) none) H f.body with
  |none=>rw[F]at O;exact cE O nt
  |some r=>
   obtain⟨fl,H2⟩:=r;rw[F]at O;cases fl with
   |n l'=>simp[dy]at O;obtain⟨rfl,rfl⟩:=O;refine kZ<|hb _ g t Y EO Sg Lg F ?_;intro s' m' I U G E' _;exact leaveK_ G.F G.g λF2 N2=>hR .none s' I U ⟨F2,N2,G.j,G.rep,G.sep,S.old,G.env⟩ (wk E') rfl
   |r w=>simp[dy]at O;obtain⟨rfl,rfl⟩:=O;refine kZ<|hb _ g t Y EO Sg Lg F ?_;intro u s' m' I U G E' V';exact leaveK_ G.F G.g λF2 N2=>hR u s' I U ⟨F2,N2,G.j,G.rep,G.sep,S.old,G.env⟩ (wk E') V'
   |e a b=>simp[dy]at O
end
def lj (c:List<|Str×NameKind):∀(n:Nat) (b:List<|Str×Addr),(∀p∈b,p.2<n)->b.Pairwise (λx y=>x.2≠y.2)->
  (∀p∈cellsFrom n c b,p∈b\/n<=p.2)/\(cellsFrom n c b).Pairwise (λx y=>x.2≠y.2):=by
 induction c with
 |nil=>intro n b _ e;exact⟨λp h=>.inl h,e⟩
 |cons d r i=>
  intro n b f e;obtain⟨a,k⟩:=d;unfold cellsFrom;split
  ·have:=i (n+1) ((a,n)::b) (λp h=>by
    rcases XE.mp h with rfl|h
    ·exact YX _
    ·exact lt_succ_of_lt<|f p h)<|List.pairwise_cons.mpr ⟨λp h=>XB<|f p h,e⟩
   refine⟨λp h=>?_,this.2⟩;rcases this.1 p h with h|h
   ·rcases XE.mp h with rfl|h
    ·exact .inr<|XC _
    ·exact .inl h
   ·exact .inr<|Nat.le_of_succ_le h
  ·exact i n b f e
def C6 {k:Str->Option NameKind}{x:Str}{b:List<|Str×Value}:∀{m:Str->Option Value},x∉b.map (·.1)->bindL k b m x=m x:=by
 induction b with
 |nil=>intro _ _;exact rfl
 |cons p r i=>
  intro m h;obtain⟨n,v⟩:=p;rw[af,XE,not_or]at h;have h:=h;refine aa (i h.2) ?_;split
  ·simp[Xu h.1]
  ·rfl
def uW {k:Str->Option NameKind}{x:Str}{u:Value}(c:k x=some .local){b:List<|Str×Value}:∀{m:Str->Option Value},(b.map (·.1)).Nodup->(x,u)∈b->bindL k b m x=some u:=by
 induction b with
 |nil=>intro _ _ h;exact nomatch h
 |cons p r i=>
  intro m a h;obtain⟨n,v⟩:=p;rw[af,X9]at a;rcases XE.mp h with e|h
  ·cases e
   refine aa (C6 a.1)<|aa (Xr c) ?_;simp
  ·exact i a.2 h
theorem uV{k:Str->Option NameKind}{x:Str}:∀{b:List<|Str×Value}{m:Str->Option Value},x∉b.map (·.1)->bindC k b m x=m x
 | [],_,_=>rfl
 |(n,v)::r,m,h=>by
  rw[af,XE,not_or]at h;have h:=h;refine aa (uV h.2) ?_;split
  ·rfl
  ·simp[Xu h.1]
theorem qu{k:Str->Option NameKind}{x:Str}{u:Value}(c:k x≠some .local):∀{b:List<|Str×Value}{m:Str->Option Value},(b.map (·.1)).Nodup->(x,u)∈b->bindC k b m x=some u
 | [],_,_,h=>nomatch h
 |(n,v)::r,m,a,h=>by
  rw[af,X9]at a;unfold bindC;rcases XE.mp h with e|h
  ·cases e
   refine aa (uV a.1)<|aa (Xu c) ?_;simp
  ·exact qu c a.2 h
def iM (h:CellsAre c cs cells):cells.map (·.1)=cs.map (·.2):=by
 induction h with
 |nil=>rfl
 |cons _ _ i=>simp[i]
def fT (h:CellsAre d cs a):∀{x:Str}{c:Addr},cs.lookup x=some c->∃o,(c,o)∈a/\o.data=.cell (d x):=by
 induction h with
 |nil=>intro x c h;simp at h
 | @cons n c o cs a g _ i=>
  intro x k b;by_cases e:x=n
  ·subst e
   simp at b;subst b;exact⟨o,.head _,g⟩
  ·simp[Y8,Yk.mpr e]at b
   exact ag (i b) λj h1 f=>⟨j,.tail _ h1,f⟩
def cJ {cs:List<|Str×Addr}{x:Str}{c:Addr}(h:cs.lookup x=some c):(x,c)∈cs:=by
 induction cs with
 |nil=>simp at h
 |cons p r i=>
  obtain⟨a,b⟩:=p;by_cases e:x=a
  ·subst e
   simp at h;subst h;exact .head _
  ·simp[Y8,Yk.mpr e]at h
   exact .tail _<|i h
def Cq {cs:List<|Str×Addr}(a:cs.Pairwise λx y=>x.2≠y.2){x y:Str}{c:Addr}(h1:(x,c)∈cs)(h:(y,c)∈cs):x=y:=by
 induction cs with
 |nil=>exact Xw h1 XY
 |cons p r i=>
  rw[List.pairwise_cons]at a;rcases XE.mp h1 with b|h1
  ·rcases XE.mp h with e|h
   ·exact(Prod.mk.inj<|b.trans e.symm).1
   ·exact Xw (dG b rfl)<|a.1 _ h
  ·rcases XE.mp h with e|h
   ·exact Xw (dG e rfl)<|a.1 _ h1
   ·exact i a.2 h1 h
structure nc(P:bi)(k:Nat)(vars:List Str)(np:Nat)(scope:Scope)(body:List Stmt)(qual:Str)(Zm:Value):Prop where
 ex:∀C:Prop,(∀name params aaz kV doc pm an ct oc aa5 osl,P.K.lookup (P.f k)=some ⟨oc,aa5,.func<|fnX name qual params body scope [] aaz kV doc pm an Zm ct,osl⟩->
  (∀s us,us.length=np->BindsTo s (fnX name qual params body scope [] aaz kV doc pm an Zm ct) ⟨us,[]⟩ ((vars.take np).zip us))->C)->C
 code:codeIn P.K Zm qual=true
 b:∀x∈vars,scope.names.lookup x=some .local\/(scope.names.lookup x=some .cell/\∀n,((cellsFrom n scope.names []).lookup x).isSome=true)
 h:((cellsFrom 0 scope.names []).map (·.1)).Nodup
 j:vars.Nodup
 np:np<=vars.length
 c:scope.isCoroutine=false
 gen:scope.isGenerator=false
 kind:scope.kind=.function
theorem wI:∀(x:List Str) (u:List Value),(x.zip u).map (·.1)=x.take u.length
 | [],u=>by simp
 |a::r,[]=>by simp
 |a::r,b::t=>by simp[wI r t]
section
variable{P:bi}{cl:Cl}{lp:Zx}{XA:ZH}
def mX (P:bi)(d:Nat)(cl:Cl)(lp:Zx)(XA:ZH)(k:Nat)(f:Fn)(v:List Str)(s:Scope)(b:List Stmt)(q:Str)(c:Value):Prop:=
 ∀A g L,uj P A g L d->(∀m,EX P cl A (envOfC q s L (P.f k) c) g L m ⟨v,s.names⟩)->g5 (envOfC q s L (P.f k) c) L ⟨v,s.names⟩->kH P cl lp A (envOfC q s L (P.f k) c) g L ⟨v,s.names⟩ XA b f.body
def te {k:Nat}{f:Fn}{t:List Str}{j:Scope}{body:List Stmt}{l:Str}{D:Value}(PF:nc P k t f.p j body l D)(hkn:mH P){d:Nat}
  (hcl:∀A F L m,uj P A F L d->jK P cl A F L m) (hb:mX P d cl lp XA k f t j body l D):
  ∀A F L m,uj P A F L (d+1)->∀A₀ Q M U,Below A₀ Q M F->A.frames=some (U::M)->U.frame=some L->U.scope.kind=.function->∀⦃vs:List V⦄ ⦃H H':Hp⦄ ⦃rs:Rs⦄ ⦃X:Yn⦄ ⦃N:Led⦄ ⦃s:Shared⦄ ⦃us:List Value⦄,vs.length=f.p->dy (XU cl lp (vs.map some++List.replicate (f.vars-f.p) none) H f.body)=some (rs,H')->St P F L m X N H s->XH X N vs us->
  ∀(A':Around) (R:Result->Shared->Prop),Dp A A'->
   (∀v u s' G N',rs=.v v->St P F L m G N' H' s'->a5 aO X N G N'->bY G N' v u->R (.ok<|.ret u) s')->
   (∀x y e s' g I m' G N',rs=.e x y->Below A' Q (U::M) g->Fr F L g m->F.StaysIn g->a5 aO X N G N'->XA g I G N' H' m' x y e s'->
    wpAny (model P.p P.w) (A'.deeper<|envOfC l j I (P.f k) D) (leaving (envOfC l j I (P.f k) D) e) (λ_ s''=>R (.error e) s'') (λe' s''=>R (.error e') s'') s')->
   codeAny (model P.p P.w) A' (.call (.ref<|P.f k) ⟨us,[]⟩) R s:=λA F L m C A₀ Q M U B hfr hef hek vs H H' rs X N s us hlen he S hv A' R hA' hR hX=>by
 obtain⟨n1,n2,n3,n4⟩:=hA'.facts;refine PF.ex _ λname params aaz kV doc pm an ct oc aa5 osl hK ade=>?_;have hnz:(((t.take f.p).zip us).map (·.1)).Nodup:=by rw[wI];exact(PF.j.sublist<|Z1 _ _).sublist<|Z1 _ _
 have z9:=PF.kind;refine callX_cells (fo:=⟨oc,aa5,_,osl⟩) B S.F S.g C.base.nolimit (n2.trans hfr) hef hek ((C.base.K.keeps S.F.keep) _ _ hK) rfl (codeRec_of (C.base.K.keeps S.F.keep) PF.code) (by have:=C.room;have:recursionLimit=1000:=rfl;exact KF ‹_› ‹_› ‹_›) (ade s us<|hv.length.trans hlen) (λn y hy=>?_) PF.h (λg I Zp tk J FG F' N' CA BG st hlt=>?_) PF.c PF.gen z9
 ·have hm:y.1∈t.take f.p:=(of_mem_zip hy).1
  rcases PF.b _ (ZD hm)with h|⟨h1,h2⟩
  ·exact .inl h
  ·exact .inr ⟨h1,h2 n⟩
 ·obtain⟨sp1,sp2⟩:=lj j.names (I+1) [] (λ_ h=>Xw h XY) .nil
  have Cb:uj P (A'.deeper<|envOfC l j I (P.f k) D) g I d:=⟨C.base.keeps st,by refine aa n1 ?_;exact C.h,by have:=C.room;exact Lr n3 this,by have:=C.units;exact KS n4 this,
   λ_ z=>z A' Q (U::M) _ BG (by show A'.frames.map _=_;refine aa n2<|aa hfr ?_;rfl) rfl z9⟩
  have EXs:∀m',EX P cl (A'.deeper<|envOfC l j I (P.f k) D) (envOfC l j I (P.f k) D) g I m' ⟨t,j.names⟩:=λm'=>
   ⟨z9,rfl,rfl,rfl,Cb.base,Cb.h,by have:=Cb.units;exact Lh this,hcl _ _ _ _ Cb,hkn⟩
  have hk':∀x∈t,(envOfC l j I (P.f k) D).kindOf x=some .local\/((envOfC l j I (P.f k) D).kindOf x=some .cell/\∃c,(envOfC l j I (P.f k) D).cells.lookup x=some c):=λx O=>by
   rcases PF.b x O with h|⟨h1,h2⟩
   ·exact .inl h
   ·exact .inr ⟨h1,abl.mp<|h2<|I+1⟩
  have EO:g5 (envOfC l j I (P.f k) D) I ⟨t,j.names⟩:=⟨rfl,z9,PF.j,hk',λx y c O hy=>Cq sp2 (cJ O)<|cJ hy⟩;have ndc:((J++N).map (·.1)).Nodup:=by
   refine aa Zj<|YS.mpr ⟨?_,S.j,λa ha b hb e=>?_⟩
   ·exact aa (iM CA)<|List.pairwise_map.mpr sp2
   ·rw[(iM CA)]at ha
    obtain⟨p,W,rfl⟩:=Yp.mp ha;obtain⟨q,hq,rfl⟩:=Yp.mp hb;rcases sp1 p W with h|h
    ·exact Xw h XY
    ·rw[e]at h
     exact lt_irrefl _<|XO (YC (hlt q hq)<|YX _) h
  have above:∀a,pL (envOfC l j I (P.f k) D) a->I<a:=λa ⟨x,O⟩=>by
   rcases sp1 _ (cJ O)with h|h
   ·exact Xw h XY
   ·exact h
  have adg:∀a,pL (envOfC l j I (P.f k) D) a->¬own X a:=λa ha ho=>by
   obtain⟨c,hc,e⟩:=ho;have:=above a ha;obtain⟨i,hi⟩:=aam hc;exact S.aae (λp W q=>lt_irrefl _ (YC (q▸hlt p W) this):∀p∈N,p.1≠a) (by
    cases q:F.get? a with
    |none=>rfl
    |some o=>exact Xw (XO (YA<|st _ _ q) F'.above)<|lt_asymm this) ⟨c,hc,e⟩
  have x0:a5 aO X N X<|J++N:=⟨⟨[],by simp⟩,λp W _ _=>Zz _ W,λ_ _ h=>h⟩;have Sg:St P g I (bindL (envOfC l j I (P.f k) D).kindOf ((t.take f.p).zip us) λ_=>none) X (J++N) H {s with heap:=Zp,toks:=tk}:=
   ⟨F',N',ndc,⟨S.rep.1,λi c o hi ho=>(S.rep.2 i c o hi ho).Yh x0.toT λp W _=>Zz _ W⟩,S.sep,λb o e=>st b o<|S.old b o e,S.env⟩
  have Lg:c0 (envOfC l j I (P.f k) D) I (bindL (envOfC l j I (P.f k) D).kindOf ((t.take f.p).zip us) λ_=>none) t X (J++N)<|vs.map some++List.replicate (f.vars-f.p) none:=⟨λi w hi=>by
   have hw:=lm hi;have hil:i<f.p:=hlen▸(Yl.mp hw).1;obtain⟨u,hu,hz⟩:=hv.get hw;have z8:=PF.np;have O:t[i]?=some (t[i]'(XO hil z8)):=XQ _;have hm:(t[i]'(XO hil z8),u)∈(t.take f.p).zip us:=by
    have:((t.take f.p).zip us)[i]?=some (t[i]'(XO hil z8),u):=by rw[getElem?_zip_eq_some];exact⟨by rw[getElem?_take_of_lt hil];exact O,hu⟩
    exact YQ this
   refine⟨_,u,O,hz.Yh x0.toT,?_⟩;rcases hk' _ (YQ O)with h|⟨h1,c,hc⟩
   ·exact .inl ⟨h,rfl,uW h hnz hm⟩
   ·obtain⟨o,abq,g2⟩:=fT CA hc
    refine .inr<|.inr ⟨.inl h1,c,o,hc,mem_append_left _ abq,adg c ⟨_,hc⟩,?_⟩;exact aa g2<|aa (qu (by rw[h1];simp) hnz hm) rfl,λa ⟨x,O⟩=>by
   obtain⟨o,abq,g2⟩:=fT CA O;exact⟨o,_,mem_append_left _ abq,adg a ⟨x,O⟩,g2⟩⟩
  have wk:∀{G N'},a5 (pL<|envOfC l j I (P.f k) D) X (J++N) G N'->a5 aO X N G N':=λE=>⟨E.pre,λp W ho _=>E.keep p (Zz _ W) ho λhc=>lt_asymm (above _ hc)<|hlt p W,λp W ho=>E.apart p (Zz _ W) ho⟩;refine cps λZ kC=>?_;cases O:XU cl lp (vs.map some++List.replicate (f.vars-f.p) none) H f.body with
  |none=>rw[O]at he;exact cE he nt
  |some r=>
   obtain⟨fl,H2⟩:=r;rw[O]at he;cases fl with
   |n l'=>simp only[dy,Zk,Prod.mk.injEq]at he;obtain⟨rfl,rfl⟩:=he;refine kC<|hb _ g I Cb EXs EO Sg Lg O ?_;intro s' m' G Y T E' _;exact leaveK_ T.F T.g λF2 N2=>hR _ .none s' G Y rfl ⟨F2,N2,T.j,T.rep,T.sep,S.old,T.env⟩ (wk E') rfl
   |r w=>simp only[dy,Zk,Prod.mk.injEq]at he;obtain⟨rfl,rfl⟩:=he;refine kC<|hb _ g I Cb EXs EO Sg Lg O ?_;intro u s' m' G Y T E' V';exact leaveK_ T.F T.g λF2 N2=>hR _ u s' G Y rfl ⟨F2,N2,T.j,T.rep,T.sep,S.old,T.env⟩ (wk E') V'
   |e a b=>simp only[dy,Zk,Prod.mk.injEq]at he;obtain⟨rfl,rfl⟩:=he;refine kC<|hb _ g I Cb EXs EO Sg Lg O ?_;intro e s' m' G Y E' XX;exact hX a b e s' g I m' G Y rfl BG FG st (wk E') XX
def qX {k:Nat}{f:Fn}{i:List Str}{a:Scope}{b:List Stmt}{c:Str}{n:Value}(Q:nc P k i f.p a b c n)(G:mH P){d:Nat}
  (z:∀A h L m,uj P A h L d->jK P cl A h L m) (X:mX P d cl lp XA k f i a b c n):
  ∀A h L m,uj P A h L (d+1)->KD P k f cl lp A h L m:=λA h L m C vs H H' v ρ N s us p Y S hv M R w W=>by
 refine C.below _ λj l o t B F D E=>te Q G z X A h L m C j l o t B F D E p Y S hv M R w (λv' u J r I e T O U=>?_) λx y e J g L' m' r I q=>by cases q
 cases e;exact W u J r I T O U
end
section
variable{prog:Program}{w:World}{A:Around}{E:Value->Shared->Prop}{h:Heap}{g:Array GenState}{d:Drawn}{t:Nat}{os:OsState}
variable{nm q:Str}{C N:Addr}{bs bm bmB:List Value}{ab2:Bool}{sn:List Str}{sub:List Value}{ab:Bool}{col:Option Bool}{dd:Option Addr}{k0 k1 k2 k3 k5:Option Value}{B newId abr:String}
def D6 (F:ExcBaseFacts B newId abr bmB)(T:OwnTail h bmB bm)
  (i:h.get? C=some (excClassObj nm q C N bs bm ab2 sn sub ab col dd k0 k1 k2 k3 k5 newId)) (y:h.Ns N mN) (v:mN "__init__"=some (.ref l)) (j:h.get? l=some G) (k:G.cls=.type "function")
  (z:∀m e,Heap.MadeExcOf h m e (.ref C) rest->wpAny (model prog w) A (call (.ref l)<|.ref e::rest) (λr s=>r=.none/\Q (.done<|.ret<|.ref e) s) E ⟨m,g,d,t,os⟩) (hrest:rest.length<=sizeLine):
  wpAny (model prog w) A (Builtin.«type.__call__» ⟨.ref C::rest,[]⟩) Q E ⟨h,g,d,t,os⟩:=by
 repeat (first|with_reducible refine wpAny_loadPart_at i ?_|with_reducible refine wpAny_madeBy_exc i ?_|wp_step)
 refine codeAny_call_builtin_code (Code.quiet_builtin _ F.quiet)<|wpAny_check_new_subU F F.hasB T i<|codeAny_exc_new_subU F F.hasB F T i ?_ hrest;have up:∀b o,h.get? b=some o->((h.push {cls:=.type "tuple",data:=.seq rest.toArray}).push {cls:=.ref C,data:=.fields #[.ref h.objs.size,.none,.none,.none,.bool false,.none]}).get? b=some o:=
  λb o e=>ZK _<|ZK _ e
 have f:((h.push {cls:=.type "tuple",data:=.seq rest.toArray}).push {cls:=.ref C,data:=.fields #[.ref h.objs.size,.none,.none,.none,.bool false,.none]}).Ns N mN:=
  nJ y λo p n e r=>⟨o,p,n,up _ _ e,r⟩
 have a:=up _ _ i;have c:((h.push {cls:=.type "tuple",data:=.seq rest.toArray}).push {cls:=.ref C,data:=.fields #[.ref h.objs.size,.none,.none,.none,.bool false,.none]}).get? (h.objs.size+1)=some
   {cls:=.ref C,data:=.fields #[.ref h.objs.size,.none,.none,.none,.bool false,.none]}:=by heap_get
 repeat (first|with_reducible refine wpAny_loadPart_at c ?_|(with_reducible refine wpAny_isSubtype_exc a ?_;rw[(by simp:(Value.ref C::bm).contains (.ref C)=true)])|wp_step)
 refine wpAny_typeLookup_tail a f (T.keeps up) F.mroIs F.init.lookup<|aa v<|wpAny_holding<|XD<|XD<|wpAny_typeOf (T:="function") ⟨_,up _ _ j,k⟩<|XZ<|XD<|aaa (z _ (h.objs.size+1) ⟨up,abv<|le_succ _,h.objs.size,c,abv<|XC _,ZK _<|Heap.get?_push_at rfl rfl⟩) (λr s D=>?_) λ_ _ x=>x;obtain⟨rfl,u⟩:=D
 wp_walk
 exact u
def D1 (F:ExcBaseFacts B newId abr bmB)(T:OwnTail h bmB bm)
  (b:h.get? C=some (excClassObj nm q C N bs bm ab2 sn sub ab col dd k0 k1 k2 k3 k5 newId)) (n:h.Ns N p) (l:p "__init__"=some (.ref k)) (c:h.get? k=some s) (f:s.cls=.type "function")
  (o:∀a e,Heap.MadeExcOf h a e (.ref C) rest->wpAny (model prog w) (A.under<|.builtin "type.__call__" ⟨.ref C::rest,[]⟩) (call (.ref k)<|.ref e::rest) (λr u=>r=.none/\Q (.ref e) u) E ⟨a,g,d,t,os⟩) (hrest:rest.length<=sizeLine):
  wpAny (model prog w) A (call (.ref C) rest) Q E ⟨h,g,d,t,os⟩:=by
 have i:=tc_lookup;have j:=tc_bind<|.ref C;have v:(⟨h,g,d,t,os⟩:Shared).TypeIs (.ref C) "type":=⟨_,b,rfl⟩;refine wpAny_call<|codeAny_of_tree ?_;repeat (any_goals (first|assumption|with_reducible refine wpAny_loadPart_at b ?_|wp_step))
 exact⟨rfl,(codeAny_call_builtin_at (Code.quiet_builtin _<|by decide+kernel) entry_typeCall<|wpAny_check_type_call_sub b<|D6 (hrest:=hrest) F T b n l c f λa e m=>(o a e m))⟩
end
end Mine
end
section
open PySem PySem.W PySem.Calls PyProof.Rows PyProof.Rows.LCg PySem.Builtin PySem.Builtin.ObjectAttr
namespace Mine
structure HR(K:Frag)(C C1:Addr):Prop where
 cd:∃cd,clsIn K C=some cd/\cd.mro=[.ref C,.ref C1,.type "Exception",.type "BaseException",.type "object"]/\cd.hasDict=true
 s:findIn K (.ref C) "__setattr__"=some (some<|.builtin "object.__setattr__")
 ga:findIn K (.ref C) "__getattribute__"=some (some<|.builtin "BaseException.__getattribute__")
 gt:findIn K (.ref C) "__getattr__"=some none
section
variable{prog:Program}{w:World}{A:Around}{E:Value->Shared->Prop}{s:Shared}{K:Frag}{x C C1 L dx:Addr}{Xp:Heap}{m:Str->Option Value}{R:Result->Shared->Prop}
def LG (X:K.In s.heap)(I:InstAt s.heap x y C o)(M:HR K C C1)(u:takerIn K C name=some none)
  (h:∀b,wpAny (model prog w) A.in1 (storeInOwnDict (.ref x) (.ref C) (.str name t) name v b)
   (λi g=>match i with | .done f=>R (.ok f) g| .again j=>j.quiet=true/\codeAny (model prog w) A j R g) (λe g=>R (.error e) g) s):
  codeAny (model prog w) A (.call (.builtin "object.__setattr__") ⟨[.ref x,.str name t,v],[]⟩) R s:=by
 refine aj M.cd λq n d _=>?_;have S:=PySem.F.store_object;refine codeAny_call_builtin S.slot.plain S.entry<|@check_slot (model prog w) _ _ s "object.__setattr__" "object" "__setattr__" (.ref x) [.str name t,v] [] _ S.kind S.split (I.type.andThen (looks_mroIn X<|by unfold mroIn;rw[n,aat,d];simp):Looks (model prog w) s.heap (isInstance (.ref x)<|.type "object") true) (S.args (.ref x) (.str name t) v)<|ag (Option.bind_eq_some_iff.mp u) λc k r=>?_;rw[osa_eq,refuse_eq];refine XD<|XD<|I.type.here<|XD<|((looks_clsIn X n).andThen .now:Looks (model prog w) s.heap (mroOf<|.ref C) q.mro).here ?_;rw[d,refuseLoop_ref,refuseLoop_ref,PySem.F.store_Exception.passes];have p:Looks (model prog w) s.heap (storeTaker? c) none:=by
  clear k;cases c with
  |none=>exact .now
  |some a=>
   refine ag (Yv.mp r) λb l e=>(looks_takesIn X l).andThen ?_;clear l;cases b
   ·exact .now
   ·exact cE e nt
 exact XZ<|XD<|I.type.here<|XD<|(looks_findIn X k).here<|XD<|p.here<|h _
def xG (F:Fr Xp L s.heap m)(N:News Xp L s.heap<|pre++(dx,dictOf es n)::post)(i:(getL name es).isSome=true)(h1:∀p∈pre,p.1≠dx)(g:∀p∈post,p.1≠dx)
  (j:(putL name (PyData.keyHash w.params name) (.str name s.toks) v es).length<=1000)
  (h:∀b,Fr Xp L b m->News Xp L b (pre++(dx,dictOf (putL name (PyData.keyHash w.params name) (.str name s.toks) v es)<|putN name es n)::post)->Q (.done<|.ret .none) {s with heap:=b,toks:=s.toks+1}):
  wpAny (model prog w) A (storeInDict dx (.str name t) name v) Q E s:=by
 refine XG (λe U=>?_)<|news_upd (f:=Obj.putName name (PyData.keyHash w.params name) (.str name s.toks) v) F N h1 g (putName_dict name _ _ v es n) rfl;have D:=(N (dx,dictOf es n)<|by simp).1;refine XD<|XZ<|XD ?_;refine XD<|XD<|wpAny_askSetting<|XZ<|XD<|wpAny_mkText<|XD<|wpAny_loadPart D ?_;dsimp only;have a:(lookIn name<|dictOf es n).isSome=true:=i;unfold lookIn at a;dsimp only at a;have c:(!es.toArray.any (·.key.isStr name)&&es.toArray.any (·.refKey))=false:=by
  refine dG Array.any_toList<|dG Array.any_toList ?_;split at a
  ·rename_i f d
   refine aa (List.any_eq_true.mpr ⟨f,List.mem_of_find?_eq_some d,List.find?_some d⟩) ?_;rfl
  ·split at a
   ·exact eI a nt
   ·rename_i z;rw[Bool.not_eq_true]at z;rw[z,Bool.and_false]
 rw[aRefKeyMayBeTheName_at,c];refine wpAny_updatePart D<|XD<|wpAny_lookBehind ((U (dx,dictOf (putL name (PyData.keyHash w.params name) (.str name s.toks) v es)<|putN name es n)<|by simp).1) (pastItsLine_dict<|by refine aa Y4<|aa sizeLine_eq ?_;exact bC 0x2d800000458097d0e0065b tq j) ?_;exact XZ<|h _ e U
def Da (F:Fr Xp L s.heap m)(e:K.In Xp)(N:News Xp L s.heap<|(x,⟨.ref C,none,.fields d,a⟩)::post)(M:HR K C C1)(u:takerIn K C name=some none)
  (t:∀p∈post,p.1≠x)
  (h:∀g dx,Fr Xp L g m->News Xp L g ((dx,dictOf [⟨PyData.keyHash w.params name,.str name<|s.toks+1,v⟩]<|putN name [] 0)::(x,⟨.ref C,some dx,.fields d,a⟩)::post)->(∀p∈(x,(⟨.ref C,none,.fields d,a⟩:Obj))::post,p.1≠dx)->Q () {s with heap:=g,toks:=s.toks+2}):
  wpAny (model prog w) A (setAttr (.ref x) name v) Q E s:=by
 have X:=e.keeps F.keep;have l:s.heap.get? x=some ⟨.ref C,none,.fields d,a⟩:=(N _<|.head _).1;have I:InstAt s.heap x ⟨.ref C,none,.fields d,a⟩ C none:=⟨l,rfl,rfl,trivial⟩;refine set_plain X I M.s<|LG (s:={s with toks:=s.toks+1}) X I M u λb=>aj M.cd λy i _ j=>XD<|XZ<|XD<|XD<|wpAny_loadPart l<|XD<|Looks.here (s:={s with toks:=s.toks+1}) (looks_clsIn X i)<|aa j<|XD<|wpAny_alloc ?_;have k:=N.push F {cls:=.type "dict",data:=.dict #[]};have f:∀p∈(x,(⟨.ref C,none,.fields d,a⟩:Obj))::post,p.1≠s.heap.objs.size:=λp c=>Yd<|YA (N p c).1;refine XD<|wpAny_update ((k (x,_)<|.tail _<|.head _).1) ?_;obtain⟨U,r⟩:=news_upd (pre:=[(s.heap.objs.size,(⟨.type "dict",none,.dict #[],#[]⟩:Obj))]) (d:=x) (post:=post) (f:=λo=>{o with dict:=some s.heap.objs.size}) (o':=⟨.ref C,some s.heap.objs.size,.fields d,a⟩) (F.push {cls:=.type "dict",data:=.dict #[]}) k
  (λp c=>by rcases List.mem_singleton.mp c with rfl;exact X0<|f _<|.head _) t rfl rfl
 refine XZ (a:=some s.heap.objs.size)<|xG (pre:=[]) (es:=[]) (n:=0) (s:={s with heap:=_,toks:=s.toks+1}) U r rfl (λ_ h=>Xw h XY) (λp c=>?_) (Yb rfl) λg n q=>?_
 ·rcases XE.mp c with rfl|c
  ·have:=f _<|List.Mem.head _;exact this
  ·exact f _<|.tail _ c
 ·exact h g _ n q f
def EZ (F:Fr Xp L s.heap m)(a:K.In Xp)(N:News Xp L s.heap<|pre++(dx,dictOf e n)::post)(M:HR K C C1)(r:takerIn K C name=some none)
  (d:(x,⟨.ref C,some dx,.fields i,o⟩)∈pre++(dx,dictOf e n)::post) (q:(getL name e).isSome=true) (h1:∀p∈pre,p.1≠dx) (l:∀p∈post,p.1≠dx)
  (t:(putL name (PyData.keyHash w.params name) (.str name<|s.toks+1) v e).length<=1000)
  (h:∀c,Fr Xp L c m->News Xp L c (pre++(dx,dictOf (putL name (PyData.keyHash w.params name) (.str name<|s.toks+1) v e)<|putN name e n)::post)->Q () {s with heap:=c,toks:=s.toks+2}):
  wpAny (model prog w) A (setAttr (.ref x) name v) Q E s:=by
 have d:s.heap.get? x=some ⟨.ref C,some dx,.fields i,o⟩:=(N _ d).1;have X:=a.keeps F.keep;have I:InstAt s.heap x ⟨.ref C,some dx,.fields i,o⟩ C<|some<|dictOf e n:=⟨d,rfl,rfl,((N (dx,dictOf e n)<|by simp).1)⟩;exact set_plain X I M.s<|LG (s:={s with toks:=s.toks+1}) X I M r λb=>aj M.cd λu f _ g=>XD<|XZ<|XD<|XD<|wpAny_loadPart d<|XD<|Looks.here (s:={s with toks:=s.toks+1}) (looks_clsIn X f)<|aa g<|XZ (a:=some dx)<|xG (s:={s with toks:=s.toks+1}) F N q h1 l t λc j k=>h c j k
set_option maxHeartbeats 2000000 in
def Ul (X:K.In s.heap)(M:HR K C C1)(q:s.heap.get? x=some o)(hD:s.heap.get? dx=some (dictOf e n))(g:o.dict=some dx)(f:o.cls=.ref C)(i:o.data=.fields t)
  (j:hasDictIn K C=true) (d:findIn K (.ref C) name=some attr) (l:noGet K attr=true) (k:getL name e=some (some v)) (p:handedIn v=true) (h:Q v {s with toks:=s.toks+1}):
  wpAny (model prog w) A (getAttr (.ref x) name expr) Q E s:=by
 have I:InstAt s.heap x o C<|some<|dictOf e n:=⟨q,f,by unfold notCls;exact aa i rfl,by refine aa g ?_;exact hD⟩;refine aj M.cd λr b a _=>?_;have c:=I.type (M:=model prog w);refine XD<|wpAny_mkText<|wpAny_holding<|XD<|c.at<|XD<|(looks_findIn (M:=model prog w) X M.ga).at ?_;show wpAny _ _ (if(onTheHeap (.ref C)&&(Value.builtin "BaseException.__getattribute__"==Value.builtin "object.__getattribute__"))=true then _ else getAttrByItsOwn _ _ _ _ _ _) _ _ _;refine XD<|(looks_findIn (M:=model prog w) X M.gt).at<|XD<|wpAny_attempt<|wpAny_holding ?_;unfold callGetattribute;refine aa (Xu<|by cases expr<;>decide) ?_;unfold boundAndCalled;refine XD<|XZ<|wpAny_call<|codeAny_call_builtin PySem.F.attr_Exception.ga.plain PySem.F.entry_bexc_ga<|@check_slot (model prog w) _ _ {s with toks:=s.toks+1} "BaseException.__getattribute__" "BaseException" "__getattribute__" (.ref x) [.str name s.toks] [] _ (by decide+kernel:builtinKind "BaseException.__getattribute__"=some .slot) (by decide+kernel:splitId "BaseException.__getattribute__"=some ("BaseException","__getattribute__")) (I.type.andThen (looks_mroIn X<|by unfold mroIn;rw[b,aat,a];simp):Looks (model prog w) s.heap (isInstance (.ref x)<|.type "BaseException") true) (PySem.F.args_bexc_ga (.ref x)<|.str name s.toks) ?_;refine XD<|XZ<|XD<|XZ<|XD<|c.at<|XD<|(looks_find (M:=model prog w) X I<|findObj_own j d l (k:lookIn name (dictOf e n)=some (some v))).at<|XZ ?_;show wpAny _ _ (handedOut v) _ _ _;refine aa (handedOut_of p) ?_;exact XZ h
end
end Mine
end
section
open PySem PySem.W PySem.Calls PyProof.Rows PyProof.Rows.LCg
namespace Mine
def WE (B h:Heap)(e:Addr)(f:Value)(v:Array Value):Prop:=
 v[1]?=some .none\/∃T o t,v[1]?=some (.ref T)/\B.get? T=none/\T≠e/\h.get? T=some o/\o.data=.fields t/\t[3]?=some f
structure BK(B:Heap)(l:List Env)(e C d:Addr)(fl:Value)(h:Heap):Prop where
 stays:B.StaysIn h
 frames:h.FunFrames B l
 new:B.get? e=none
 obj:∃vs sl,h.get? e=some ⟨.ref C,some d,.fields vs,sl⟩/\1<vs.size/\WE B h e fl vs
def BK.outer {B h:Heap}{a:Env}{l:List Env}{e C d:Addr}{f:Value}(x:BK B (a::l) e C d f h):BK B l e C d f h:=
 ⟨x.stays,x.frames.2.2,x.new,x.obj⟩
section
variable{M:Model}{A:Around}{E:Value->Shared->Prop}{s:Shared}{B:Heap}{env:Env}{outer l:List Env}{L e C d:Addr}{fl:Value}{Q:Unit->Shared->Prop}
def BB {v:Array Value}{y:Array<|Option Value}{m:Value}{c:Bool}(G:A.frames=some (env::outer))(T:env.frame=some L)(I:B.StaysIn s.heap)(u:s.heap.FunFrames B<|env::outer)(P:B.get? e=none)
  (F:s.heap.get? e=some ⟨.ref C,some d,.fields v,y⟩) (n:1<v.size)
  (k:∀D,BK B (env::outer) e C d (rawInt L) D->s.heap.UpToSlots D->Q () {s with heap:=D}):
  wpAny M A (do let a<-frameOf env;let x<-entryPlaceOf L c;let b<-EntryCells.newEntry m a .none (rawInt L) .none x;setField (.ref e) 1 b) Q E s:=by
 refine XD<|wpAny_frameOf_fun G u T λZp w=>XD<|wpAny_entryPlaceOf λx p=>XD<|wpAny_newObj_type ?_<|p.sizeOk5 _ _ _ _ _;refine Uu (({cls:=.type "traceback",dict:=none,data:=.fields ([m,.ref L,.none,rawInt L,.none]++(if x.isEmpty then List.replicate 6 Value.none else x)).toArray}:Obj)) λr O=>?_;have J:e∉(env::outer).filterMap (·.frame):=λH=>by refine ib (u.mem H) λ_ o R h=>?_;rw[F]at R;cases R;exact h v rfl
 have f:=(w.2.1 e J).trans F;have g:=ZK (h:=Zp) r f;refine wpAny_setField g rfl n ?_;have U:∀b o,s.heap.get? b=some o->(∀v,o.data≠.fields v)->b≠e:=λb o q h z=>by rw[z,F]at q;cases q;exact h v rfl
 have up:∀b o,b≠e->Zp.get? b=some o->((Zp.push r).update e<|Obj.mapFields (·.setIfInBounds 1 (Value.ref Zp.objs.size))).get? b=some o:=λb o j q=>by refine aa (aal _ _<|X0 j) ?_;exact ZK _ q
 have sm:∀b o,s.heap.get? b=some o->(∀v,o.data≠.fields v)->∃y,((Zp.push r).update e<|Obj.mapFields (·.setIfInBounds 1 (Value.ref Zp.objs.size))).get? b=some {o with slots:=y}:=λb o q h=>by exact Xq (w.2.2 b o q) λt N=>⟨t,up b _ (U b o q h) N⟩
 have i:B.StaysIn Zp:=λb o j=>(w.2.1 b λH=>by rw[(u.mem H).1]at j;exact cE j nt).trans<|I b o j;have S:Zp.objs.size≠e:=XB<|YA f;refine k _ ⟨λb o j=>up b o (λz=>by rw[z,P]at j;exact cE j nt)<|i b o j,u.of_keeps λb o q h=>?_,P,_,y,Heap.get?_update_self _ g rfl,by simpa using n,.inr ⟨Zp.objs.size,r,_,by simp[n],i.fresh,S,?_,by subst O;rfl,?_⟩⟩ sm
 ·exact Xq (sm b o q h) λt N=>⟨_,N,rfl⟩
 ·refine aa (aal _ _<|X0 S) ?_
  exact Heap.get?_push_size Zp (by subst O;rfl:r.isFreed=false)
 ·first|(simp;done)|(rcases p with rfl|⟨_,_,_,_,_,_,_,rfl⟩<;> simp)
def Ft (g:A.frames=some (env::outer))(u:env.frame=some L)(x:BK B (env::outer) e C d fl s.heap)(w:(fl==rawInt L)=false)
  (k:∀c,BK B (env::outer) e C d (rawInt L) c->s.heap.UpToSlots c->Q () {s with heap:=c}):wpAny M A (noteFrame (.ref e) env) Q E s:=by
 refine cps λC n=>?_;obtain⟨i,D,F,H,R,m,j,I⟩:=x;refine n ?_;unfold noteFrame;simp only[u];refine cps λC n=>?_;rcases I with h1|⟨T,P,J,h1,v,r,p,t,y⟩
 ·exact n<|XD<|ZM m rfl h1 (aa (Xu<|by decide)<|BB g u i D F m j k)
 ·refine n<|XD<|ZM m rfl h1 (XD<|ZM p t y<|aa (Xu<|by rw[w];decide)<|XD<|wpAny_setField p t (Array.getElem?_eq_some_iff.mp y).1 ?_)
  have a:∀b,b≠T->(s.heap.update T<|Obj.mapFields (·.setIfInBounds 3 Value.none)).get? b=s.heap.get? b:=λb f=>aal _ _<|X0 f;have G:∀b o,s.heap.get? b=some o->(∀H,o.data≠.fields H)->b≠T:=λb o q h z=>by rw[z,p]at q;cases q;exact h J t
  exact BB g u (λb o f=>(a b λz=>by rw[z,v]at f;exact cE f nt).trans<|i b o f) (D.of_keeps λb o q h=>⟨o,(a b<|G b o q h).trans q,rfl⟩) F ((a e<|X0 r).trans m) j λc N O=>k c N λb o q h=>O b o ((a b<|G b o q h).trans q) h
def sy (x:BK B l e C d fl s.heap)(k:∀t,BK B l e C d .none t->s.heap.UpToSlots t->Q () {s with heap:=t}):wpAny M A (setFlight (.ref e) none) Q E s:=by
 refine cps λC r=>?_;obtain⟨j,w,y,v,F,p,m,J⟩:=x;refine r<|cps λC r=>?_;rcases J with h1|⟨T,N,H,h1,i,c,u,n,I⟩
 ·exact r<|XD<|ZM p rfl h1 (aa (Xu<|by decide)<|XZ<|k _ ⟨j,w,y,v,F,p,m,.inl h1⟩<|.refl _)
 ·have a:∀b,b≠T->(s.heap.update T<|Obj.mapFields (·.setIfInBounds 3 ((none:Option Addr).elim Value.none λf=>rawInt f))).get? b=s.heap.get? b:=λb g=>aal _ _<|X0 g
  have D:∀b o,s.heap.get? b=some o->(∀v,o.data≠.fields v)->b≠T:=λb o q h z=>by rw[z,u]at q;cases q;exact h H n
  have G:3<H.size:=(Array.getElem?_eq_some_iff.mp I).1;refine r<|XD<|ZM p rfl h1 (wpAny_setField u n G<|k _ ⟨λb o g=>(a b λz=>by rw[z,i]at g;exact cE g nt).trans<|j b o g,w.of_keeps λb o q h=>⟨o,(a b<|D b o q h).trans q,rfl⟩,y,v,F,(a e<|X0 c).trans p,m,
   .inr ⟨T,_,_,h1,i,c,Heap.get?_update_self _ u<|Obj.isFreed_of_fields<|Obj.data_mapFields n _,Obj.data_mapFields n _,by simp[G]⟩⟩ λb o q h=>⟨o.slots,(a b<|D b o q h).trans q⟩)
def JE (a:A.frames=some (env::outer))(c:env.frame=some L)(x:BK B (env::outer) e C d .none s.heap)
  (k:∀h,BK B outer e C d .none h->s.heap.UpToSlots h->Q () {s with heap:=h}):wpAny M A (leaving env<|.ref e) Q E s:=by
 exact XD<|Ft a c x (rfl) λh1 y z=>(sy y λb f g=>k b f.outer<|z.trans g)
end
noncomputable abbrev ry:List Value:=[.type "Exception",.type "BaseException",.type "object"]
structure XK(P:bi)(C C1 fI:Addr)(x nw na:Str):Prop where
 mro:HR P.K C C1
 cls:∀Z:Prop,(∀nm q N bs sn sub ab col dd k0 k1 k2 k3 k5 mN,P.K.lookup C=some (excClassObj nm q C N bs (.ref C1::ry) true sn sub ab col dd k0 k1 k2 k3 k5 "Exception.__new__")->(∀h,P.K.In h->h.Ns N mN)->mN "__init__"=some (.ref fI)->Z)->Z
 tail:∀h,P.K.In h->OwnTail h ry (.ref C1::ry)
 keep:keepIn P.K (.ref C)=true
 glob:P.b x=some (.ref C)
 fn:isFn P.K (.ref fI)=true
 init:∀Z:Prop,(∀scope qual Zm abd abf aa0 p3 p4 p5 p6 p7 p8,pn P 1003 [abd,nw,na] 3 scope [.Assign [.Attribute (.Name abd abf) nw aa0] (.Name nw p3) p4,.Assign [.Attribute (.Name abd p5) na p6] (.Name na p7) p8] qual Zm->P.f 1003=fI->a8 abd=true->a8 nw=true->a8 na=true->Z)->Z
 l:takerIn P.K C nw=some none/\∃attr,findIn P.K (.ref C) nw=some attr/\noGet P.K attr=true
 f:takerIn P.K C na=some none/\∃attr,findIn P.K (.ref C) na=some attr/\noGet P.K attr=true
 ne:nw≠na
def s7 (x)(t):(Value.str x t).isStr x=true:=by simp[Value.isStr]
def tY (t)(h:x≠y):(Value.str x t).isStr y=false:=by simp[Value.isStr,h]
theorem An(x)(t)(v)(k):(DictEntry.mk k (.str x t) v).refKey=false:=rfl
noncomputable def DA(k a:Int)(b n:Str)(t c:Tok)(u d:Value):List DictEntry:=[⟨k,.str b t,u⟩,⟨a,.str n c,d⟩]
def Bx (h:a≠n):putL n b (.str n c) u2 [⟨k,.str a t,u⟩]=DA k b a n t c u u2:=by simp[putL,tY _ h,DA]
def I0 (h:a≠n):getL n [⟨k,.str a t,u⟩]=some none:=by simp[getL,tY _ h,An]
def Df:getL n (DA k a n b t c u d)=some (some u):=by simp[getL,DA,s7]
def y8 (h:a≠n):getL n (DA k b a n t c d u)=some (some u):=by simp[getL,DA,s7,tY _ h]
section
variable{P:bi}{A:Around}{Xp:Heap}{L C C1 fI:Addr}{x nw na:Str}{m:Str->Option Value}{s:Shared}
def yz (a:env.scope.kind=.function)(d:env.kindOf y=some .local)(e:env.locals=c)(F:Fr g c s.heap m)(f:m y=some u)(b:a8 y=true)(h:Q u s):
  wpAny (model P.p P.w) A (eval (.Name y p) env) Q E s:=by
 simp only[a8,Xv,Y1]at b;subst e;exact wpAny_Name (Z9 a d F.ns f h) b.1
def Nr (X:XK P C C1 fI x nw na)(j:uj P A Xp L d)(J:Dp A A')(F:Fr Xp L s.heap m)(Nw:News Xp L s.heap<|(e,⟨.ref C,none,.fields vs,#[]⟩)::news)(Q:∀p∈news,p.1≠e)
  (k:∀I tk l n H,Fr Xp L I m->News Xp L I ((l,dictOf H n)::(e,⟨.ref C,some l,.fields vs,#[]⟩)::news)->(∀p∈news,p.1≠l)->e≠l->getL nw H=some (some u)->getL na H=some (some o)->R (.ok<|.ret .none) {s with heap:=I,toks:=tk}):
  codeAny (model P.p P.w) A' (.call (.ref fI) ⟨[.ref e,u,o],[]⟩) R s:=by
 refine cps λC kC=>tm J.facts λn1 n2 n3 n4=>j.below _ λU base T env B O M N=>X.init _ λb q f v abf aa0 p3 p4 p5 p6 p7 p8 a e o1 o2 o3=>?_;subst e;refine a.ex _ λname w aaz kV doc pm an ct oc t S hK i=>?_;have z:=a.j;have nd:=z;refine kC<|callX_plain (fo:=⟨oc,t,_,S⟩) B F Nw j.base.nolimit (n2.trans O) M N ((j.base.K.keeps F.keep) _ _ hK) rfl (codeRec_of (j.base.K.keeps F.keep) a.code) (by have:=j.room;have:recursionLimit=1000:=rfl;exact oN 0x209f08e189af13033dfd0e0879b0b44c0065b tq ‹_› ‹_› ‹_›) (i s [.ref e,u,o] rfl) (λy hy=>?_) (λg G Zp FG D N' BG st hlt=>?_) a.n a.c a.gen a.kind
 ·have hm:y.1∈[v,nw,na].take 3:=(of_mem_zip hy).1
  exact a.loc _<|ZD hm
 ·have l1:(envX q b G (P.f 1003) f []).kindOf v=some .local:=a.loc _<|.head _
  have W:=j.base.K.keeps st;have v1:(([v,nw,na].take 3).zip [.ref e,u,o]).reverse.lookup v=some (Value.ref e):=di z (i:=0) rfl rfl;refine Zn<|plainObj_wpAny_Assign_Attribute<|yz a.kind (a.loc _ (.tail _<|.head _):(envX q b G (P.f 1003) f []).kindOf nw=some .local) rfl D (di z (i:=1) rfl rfl:(([v,nw,na].take 3).zip [.ref e,u,o]).reverse.lookup nw=some u) o2 (yz a.kind l1 rfl D v1 o1 (Da D W N' X.mro X.l.1 Q λh2 l E N2 c=>Zn<|plainObj_wpAny_Assign_Attribute<|yz a.kind (a.loc _ (.tail _<|.tail _<|.head _):(envX q b G (P.f 1003) f []).kindOf na=some .local) rfl E (di z (i:=2) rfl rfl:(([v,nw,na].take 3).zip [.ref e,u,o]).reverse.lookup na=some o) o3 (yz a.kind l1 rfl E v1 o1 (EZ (pre:=[]) E W N2 X.mro X.f.1 (.tail _<|.head _) (by refine aa (I0 X.ne) ?_;rfl) (λ_ h=>Xw h XY) (λp r=>?_) ?_ λh3 F3 Y=>?_))))
  ·rcases XE.mp r with rfl|r
   ·have:=c _<|List.Mem.head _;exact this
   ·exact c _<|.tail _ r
  ·refine aa (Bx X.ne) ?_;exact Yb rfl
  rw[dA,Bx X.ne]at Y;exact wpAny_execs_nil<|leaveK_ F3 Y λF4 N4=>k h3 _ l _ _ F4 N4 (λp r=>c _<|.tail _ r) (by have:=c _<|List.Mem.head _;exact this) Df<|y8 X.ne
end
set_option genInjectivity false in
structure ur where
 fn:Nat->Option Str
 c:Nat->Option Str
 m:Nat->Option Str
 fld:Nat->Str
structure wf(T:ur)(P:bi):Prop where
 fn:P.a=T.fn
 c:P.c=T.c
 m:P.m=T.m
 fld:P.Z.f=T.fld
noncomputable def tO(f:c->d->Bool):List c->List d->Bool
 | [],k=>k.isEmpty
 |a::l,k=>(match k with | []=>false|b::k=>f a b&&tO f l k)
def jy {f:Expr->ME->Bool}{R:Expr->ME->Prop}(c:∀a b,f a b=true->R a b){l:List Expr}:∀{k:List ME},tO f l k=true->rm R l k:=by
 induction l with
 |nil=>intro k h;cases k with |nil=>exact .nil|cons=>exact a0 h
 |cons a l i=>intro k h;cases k with |nil=>exact a0 h|cons b k=>exact .cons (c _ _ ((Xv _ _).mp h).1)<|i ((Xv _ _).mp h).2
noncomputable def pc(b:NC)(a:List<|Str×NameKind):List<|Str×NameKind:=a.map λ(n,k)=>if(k==.free&&b.names.lookup n==some .cell)then(n,.cell)else(n,k)
def eB (a:NC)(x:Str)(s:Scope)(c:List Nat):NC:=⟨x::c.map (λi=>a.vars.getD i Str.empty),pc a s.names⟩
def KJ (a:NC)(s:Scope)(i:Nat):Bool:=match a.vars[i]? with
 |some y=>(a.names.lookup y==some .cell)&&(((pc a s.names).lookup y==some .cell)||((pc a s.names).lookup y==some .free))&&s.names.contains (y,.free)
 |none=>false
def ny (a:NC)(x:Str)(s:Scope)(c:List Nat):Bool:=
 (s.kind==.function)&&(s.names.lookup x==some .local)&&
 (s.names.all λy=>!(y.2==.cell)&&(!(y.2==.local)||(s.names.lookup y.1==some .local))&&(!(y.2==.free)||(a.vars.contains y.1&&(a.names.lookup y.1==some .cell))))&&
 c.all (KJ a s)
def ye (e:Env)(a:NC):Prop:=∀x∈a.vars,e.kindOf x=some .local\/(e.kindOf x=some .cell/\∃c,e.cells.lookup x=some c)
noncomputable def mO(e:Env):List (Str×NameKind)->List (Str×Addr)->List (Str×Addr)
 | [],a=>a
 |(n,k)::r,a=>if k==.free then mO e r ((n,(e.cells.lookup n).getD 0)::a)else mO e r a
theorem F1{e z2}:mO e [] z2=z2:=rfl
theorem sN{e z2 n k r}:mO e ((n,k)::r) z2=if(k==NameKind.free)=true then mO e r ((n,(List.lookup n e.cells).getD 0)::z2)else mO e r z2:=rfl
def Ja {b:Env}{a:List<|Str×NameKind}:∀{acc:List<|Str×Addr},(∀y∈a,y.2=.free->∃c,b.cells.lookup y.1=some c)->
  (forIn a acc λ(y:Str×NameKind) (cs:List<|Str×Addr)=>(if y.2==.free then do pure (ForInStep.yield<|(y.1,<- cellOf b y.1)::cs)else pure (ForInStep.yield cs):Sem<|ForInStep<|List<|Str×Addr))=pure (mO b a acc):=by
 induction a with
 |nil=>intro acc _;exact rfl
 |cons p r i=>
  intro acc h;obtain⟨n,k⟩:=p;rw[List.forIn_cons];by_cases e:k=.free
  ·subst e
   refine Xq (h _ (.head _) rfl) λc f=>?_;have:cellOf b n=pure c:=by unfold cellOf;rw[f]
   simp only[this,sN,f];exact i λy d=>h y<|.tail _ d
  ·have g:(k==NameKind.free)=false:=by simpa using e
   simp only[g,sN];exact i λy d=>h y<|.tail _ d
def xl {e:Env}{s:Scope}(h:∀y∈s.names,y.2=.free->∃c,e.cells.lookup y.1=some c):closureFor s e=pure (mO e s.names []):=by have:=Ja (acc:=[]) h;unfold closureFor;refine X6 ?_<|this;simp only[bind_pure]
def Ae {i:Env}{x:Str}{f:List<|Str×NameKind}:∀{g:List<|Str×Addr},(∀y∈f,y.2=.free->∃c,i.cells.lookup y.1=some c)->(∀y∈g,i.cells.lookup y.1=some y.2)->((x,NameKind.free)∈f\/x∈g.map (·.1))->(mO i f g).lookup x=i.cells.lookup x:=by
 induction f with
 |nil=>
  intro g _ l d;rcases d with d|d
  ·exact Xw d XY
  ·refine aa F1 ?_
   induction g with
   |nil=>exact Xw d XY
   |cons p t o=>
    obtain⟨a,b⟩:=p;by_cases e:x=a
    ·subst e
     simp;exact(l _<|.head _).symm
    ·simp[Y8,Yk.mpr e]
     refine o (λy j=>l y<|.tail _ j) ?_;rw[af,XE]at d;exact d.resolve_left e
 |cons m r o=>
  intro g h l d;obtain⟨n,k⟩:=m;refine aa sN ?_;by_cases e:k=.free
  ·subst e
   refine Xq (h _ (.head _) rfl) λc q=>?_;simp only[(q:i.cells.lookup n=some c),Option.getD_some];refine o (λy j=>h y<|.tail _ j) (λy j=>?_) ?_
   ·rcases XE.mp j with rfl|j
    ·exact q
    ·exact l y j
   ·rcases d with d|d
    ·rcases XE.mp d with d|d
     ·cases d;exact .inr (by simp)
     ·exact .inl d
    ·exact .inr<|.tail _ d
  ·have s:(k==NameKind.free)=false:=by simpa using e
   refine aa s<|o (λy j=>h y<|.tail _ j) l ?_;rcases d with d|d
   ·rcases XE.mp d with d|d
    ·cases d;exact Xw rfl e
    ·exact .inl d
   ·exact .inr d
def Cv {P:bi}{B:Cl}{A:Around}{a:Env}{l:Heap}{L:Addr}{m:Str->Option Value}{f:NC}(X:EX P B A a l L m f)(K:ye a f){x:Str}{s:Scope}{b:List Nat}(h:ny f x s b=true):
  ∃o,fB a f x s o b<|eB f x s b:=by
 simp only[ny,Xv,YB,YF,YO,Y1,Yk,ne_eq]at h;refine XG (λz D=>?_) h;obtain⟨⟨h1,C⟩,p⟩:=z;have r:∀y,a.kindOf y=f.names.lookup y:=λy=>by refine dG X.b ?_;rfl
 have v:∀y∈s.names,y.2=.free->∃c,a.cells.lookup y.1=some c:=λy d e=>by
  rcases(p y d).2 with q|⟨t,u⟩
  ·exact Xw e q
  ·rcases K y.1 (aag.mp t)with k|⟨_,k⟩
   ·rw[r,u]at k;cases k
   ·exact k
 refine⟨mO a s.names [],⟨xl v,λy d=>(p y d).1.1,h1,λy d e=>?_,C,?_,rfl,λj i w=>?_⟩⟩
 ·rcases(p y d).1.2 with q|q
  ·exact Xw e q
  ·exact q
 ·unfold relabel eB pc
  refine YU λy _=>?_;obtain⟨n,k⟩:=y;dsimp only;rw[r,X.g];simp
 ·have g:=D i<|YQ w
  unfold KJ at g;split at g
  ·rename_i y d
   simp only[Xv,YF,YO]at g;refine XG (λz E=>?_) g;obtain⟨t,u⟩:=z;refine⟨y,d,?_,by rw[r];exact t,u,Ae v (λ_ h=>Xw h XY)<|.inl<|aag.mp E⟩;simp only[eB,List.getElem?_cons_succ,YN,w,Option.map_some];refine aa (Yq)<|aa d ?_;rfl
  ·exact eI g nt
noncomputable def du(e:Expr)(b:Const->Nat->Pos->Bool):Bool:=if h:e.ctorIdx=19 then Expr.Constant.elim (motive_1:=λ_=>Bool) e h b else false
def bO {Q:Expr->Prop}(k:∀a c d,b a c d=true->Q (.Constant a c d))(h:du e b=true):Q e:=ew h λx=>Expr.Constant.elim (motive_1:=λe=>du e b=true->Q e) e x k h
noncomputable def wP(e:Expr)(b:UnaryOp->Expr->Pos->Bool):Bool:=if h:e.ctorIdx=3 then Expr.UnaryOp.elim (motive_1:=λ_=>Bool) e h b else false
def jC {Q:Expr->Prop}(k:∀a c d,b a c d=true->Q (.UnaryOp a c d))(h:wP e b=true):Q e:=ew h λx=>Expr.UnaryOp.elim (motive_1:=λe=>wP e b=true->Q e) e x k h
noncomputable def bl(e:Expr)(b:Str->Pos->Bool):Bool:=if h:e.ctorIdx=23 then Expr.Name.elim (motive_1:=λ_=>Bool) e h b else false
def az {Q:Expr->Prop}(k:∀a c,b a c=true->Q (.Name a c))(h:bl e b=true):Q e:=ew h λx=>Expr.Name.elim (motive_1:=λe=>bl e b=true->Q e) e x k h
noncomputable def jV(e:Expr)(b:Expr->Str->Pos->Bool):Bool:=if h:e.ctorIdx=20 then Expr.Attribute.elim (motive_1:=λ_=>Bool) e h b else false
def eX {Q:Expr->Prop}(k:∀a c d,b a c d=true->Q (.Attribute a c d))(h:jV e b=true):Q e:=ew h λx=>Expr.Attribute.elim (motive_1:=λe=>jV e b=true->Q e) e x k h
noncomputable def d8(e:Expr)(b:Expr->List Expr->List Keyword->Pos->Bool):Bool:=if h:e.ctorIdx=16 then Expr.Call.elim (motive_1:=λ_=>Bool) e h b else false
def bJ {Q:Expr->Prop}(k:∀a c d f,b a c d f=true->Q (.Call a c d f))(h:d8 e b=true):Q e:=ew h λx=>Expr.Call.elim (motive_1:=λe=>d8 e b=true->Q e) e x k h
noncomputable def Gl(e:Expr)(b:Expr->Operator->Expr->Pos->Bool):Bool:=if h:e.ctorIdx=2 then Expr.BinOp.elim (motive_1:=λ_=>Bool) e h b else false
def Fz {Q:Expr->Prop}(k:∀a c d f,b a c d f=true->Q (.BinOp a c d f))(h:Gl e b=true):Q e:=ew h λx=>Expr.BinOp.elim (motive_1:=λe=>Gl e b=true->Q e) e x k h
noncomputable def uU(e:Expr)(b:BoolOp->List Expr->Pos->Bool):Bool:=if h:e.ctorIdx=0 then Expr.BoolOp.elim (motive_1:=λ_=>Bool) e h b else false
def oW {Q:Expr->Prop}(k:∀a c d,b a c d=true->Q (.BoolOp a c d))(h:uU e b=true):Q e:=ew h λx=>Expr.BoolOp.elim (motive_1:=λe=>uU e b=true->Q e) e x k h
noncomputable def BW(e:Expr)(b:Expr->List CmpOp->List Expr->Pos->Bool):Bool:=if h:e.ctorIdx=15 then Expr.Compare.elim (motive_1:=λ_=>Bool) e h b else false
def yW {Q:Expr->Prop}(k:∀a c d f,b a c d f=true->Q (.Compare a c d f))(h:BW e b=true):Q e:=ew h λx=>Expr.Compare.elim (motive_1:=λe=>BW e b=true->Q e) e x k h
noncomputable def L7(e:Expr)(b:Expr->Expr->Expr->Pos->Bool):Bool:=if h:e.ctorIdx=5 then Expr.IfExp.elim (motive_1:=λ_=>Bool) e h b else false
def JL {Q:Expr->Prop}(k:∀a c d f,b a c d f=true->Q (.IfExp a c d f))(h:L7 e b=true):Q e:=ew h λx=>Expr.IfExp.elim (motive_1:=λe=>L7 e b=true->Q e) e x k h
noncomputable def oM(e:Expr)(b:Expr->Expr->Pos->Bool):Bool:=if h:e.ctorIdx=21 then Expr.Subscript.elim (motive_1:=λ_=>Bool) e h b else false
def gV {Q:Expr->Prop}(k:∀a c d,b a c d=true->Q (.Subscript a c d))(h:oM e b=true):Q e:=ew h λx=>Expr.Subscript.elim (motive_1:=λe=>oM e b=true->Q e) e x k h
noncomputable def lQ(e:Expr)(b:Option Expr->Option Expr->Option Expr->Pos->Bool):Bool:=if h:e.ctorIdx=26 then Expr.Slice.elim (motive_1:=λ_=>Bool) e h b else false
def jB {Q:Expr->Prop}(k:∀a c d f,b a c d f=true->Q (.Slice a c d f))(h:lQ e b=true):Q e:=ew h λx=>Expr.Slice.elim (motive_1:=λe=>lQ e b=true->Q e) e x k h
noncomputable def zq(e:Expr)(b:List Expr->Pos->Bool):Bool:=if h:e.ctorIdx=24 then Expr.List.elim (motive_1:=λ_=>Bool) e h b else false
def DI {Q:Expr->Prop}(k:∀a c,b a c=true->Q (.List a c))(h:zq e b=true):Q e:=ew h λx=>Expr.List.elim (motive_1:=λe=>zq e b=true->Q e) e x k h
noncomputable def yq(e:Expr)(b:List Expr->Nat->Pos->Bool):Bool:=if h:e.ctorIdx=25 then Expr.Tuple.elim (motive_1:=λ_=>Bool) e h b else false
def th {Q:Expr->Prop}(k:∀a c d,b a c d=true->Q (.Tuple a c d))(h:yq e b=true):Q e:=ew h λx=>Expr.Tuple.elim (motive_1:=λe=>yq e b=true->Q e) e x k h
noncomputable def wO(e:Expr)(b:List (Option Expr)->List Expr->Pos->Bool):Bool:=if h:e.ctorIdx=6 then Expr.Dict.elim (motive_1:=λ_=>Bool) e h b else false
def vw {Q:Expr->Prop}(k:∀a c d,b a c d=true->Q (.Dict a c d))(h:wO e b=true):Q e:=ew h λx=>Expr.Dict.elim (motive_1:=λe=>wO e b=true->Q e) e x k h
noncomputable def pW(e:Expr)(b:Expr->List Comprehension->Scope->Pos->Bool):Bool:=if h:e.ctorIdx=8 then Expr.ListComp.elim (motive_1:=λ_=>Bool) e h b else false
def md {Q:Expr->Prop}(k:∀a c d f,b a c d f=true->Q (.ListComp a c d f))(h:pW e b=true):Q e:=ew h λx=>Expr.ListComp.elim (motive_1:=λe=>pW e b=true->Q e) e x k h
noncomputable def rc(e:Const)(b:Int->Bool):Bool:=if h:e.ctorIdx=2 then Const.int.elim (motive:=λ_=>Bool) e h b else false
def iV {b:Int->Bool}{Q:Const->Prop}(k:∀a,b a=true->Q (.int a))(h:rc e b=true):Q e:=ew h λx=>Const.int.elim (motive:=λe=>rc e b=true->Q e) e x k h
noncomputable def uP(e:Const)(b:Str->Bool):Bool:=if h:e.ctorIdx=5 then Const.str.elim (motive:=λ_=>Bool) e h b else false
def ob {b:Str->Bool}{Q:Const->Prop}(k:∀a,b a=true->Q (.str a))(h:uP e b=true):Q e:=ew h λx=>Const.str.elim (motive:=λe=>uP e b=true->Q e) e x k h
noncomputable def zb(e:Const)(b:Bool->Bool):Bool:=if h:e.ctorIdx=1 then Const.bool.elim (motive:=λ_=>Bool) e h b else false
def CM {Q:Const->Prop}(k:∀a,b a=true->Q (.bool a))(h:zb e b=true):Q e:=ew h λx=>Const.bool.elim (motive:=λe=>zb e b=true->Q e) e x k h
noncomputable def o0(e:Stmt)(b:Expr->Pos->Bool):Bool:=if h:e.ctorIdx=24 then Stmt.Expr.elim (motive_2:=λ_=>Bool) e h b else false
def m9 {Q:Stmt->Prop}(k:∀a c,b a c=true->Q (.Expr a c))(h:o0 e b=true):Q e:=ew h λx=>Stmt.Expr.elim (motive_2:=λe=>o0 e b=true->Q e) e x k h
noncomputable def qb(e:Stmt)(b:List Expr->Expr->Pos->Bool):Bool:=if h:e.ctorIdx=5 then Stmt.Assign.elim (motive_2:=λ_=>Bool) e h b else false
def mf {Q:Stmt->Prop}(k:∀a c d,b a c d=true->Q (.Assign a c d))(h:qb e b=true):Q e:=ew h λx=>Stmt.Assign.elim (motive_2:=λe=>qb e b=true->Q e) e x k h
noncomputable def wc(e:Stmt)(b:Expr->Operator->Expr->Pos->Bool):Bool:=if h:e.ctorIdx=7 then Stmt.AugAssign.elim (motive_2:=λ_=>Bool) e h b else false
def uO {Q:Stmt->Prop}(k:∀a c d f,b a c d f=true->Q (.AugAssign a c d f))(h:wc e b=true):Q e:=ew h λx=>Stmt.AugAssign.elim (motive_2:=λe=>wc e b=true->Q e) e x k h
noncomputable def Aw(e:Stmt)(b:List Expr->Pos->Bool):Bool:=if h:e.ctorIdx=4 then Stmt.Delete.elim (motive_2:=λ_=>Bool) e h b else false
def D0 {Q:Stmt->Prop}(k:∀a c,b a c=true->Q (.Delete a c))(h:Aw e b=true):Q e:=ew h λx=>Stmt.Delete.elim (motive_2:=λe=>Aw e b=true->Q e) e x k h
noncomputable def EY(e:Stmt)(b:Expr->List Stmt->List Stmt->Pos->Bool):Bool:=if h:e.ctorIdx=12 then Stmt.If.elim (motive_2:=λ_=>Bool) e h b else false
def FX {Q:Stmt->Prop}(k:∀a c d f,b a c d f=true->Q (.If a c d f))(h:EY e b=true):Q e:=ew h λx=>Stmt.If.elim (motive_2:=λe=>EY e b=true->Q e) e x k h
noncomputable def so(e:Stmt)(b:Expr->List Stmt->List Stmt->Pos->Bool):Bool:=if h:e.ctorIdx=11 then Stmt.While.elim (motive_2:=λ_=>Bool) e h b else false
def yp {Q:Stmt->Prop}(k:∀a c d f,b a c d f=true->Q (.While a c d f))(h:so e b=true):Q e:=ew h λx=>Stmt.While.elim (motive_2:=λe=>so e b=true->Q e) e x k h
noncomputable def nr(e:Stmt)(b:Expr->Expr->List Stmt->List Stmt->Pos->Bool):Bool:=if h:e.ctorIdx=9 then Stmt.For.elim (motive_2:=λ_=>Bool) e h b else false
def jf {Q:Stmt->Prop}(k:∀a c d f g,b a c d f g=true->Q (.For a c d f g))(h:nr e b=true):Q e:=ew h λx=>Stmt.For.elim (motive_2:=λe=>nr e b=true->Q e) e x k h
noncomputable def wy(e:Stmt)(b:Option Expr->Pos->Bool):Bool:=if h:e.ctorIdx=3 then Stmt.Return.elim (motive_2:=λ_=>Bool) e h b else false
def uF {Q:Stmt->Prop}(k:∀a c,b a c=true->Q (.Return a c))(h:wy e b=true):Q e:=ew h λx=>Stmt.Return.elim (motive_2:=λe=>wy e b=true->Q e) e x k h
noncomputable def ud(e:Stmt)(b:Option Expr->Option Expr->Pos->Bool):Bool:=if h:e.ctorIdx=16 then Stmt.Raise.elim (motive_2:=λ_=>Bool) e h b else false
def yR {Q:Stmt->Prop}(k:∀a c d,b a c d=true->Q (.Raise a c d))(h:ud e b=true):Q e:=ew h λx=>Stmt.Raise.elim (motive_2:=λe=>ud e b=true->Q e) e x k h
noncomputable def Jy(e:ME)(b:Int->Bool):Bool:=ME.casesOn (motive_1:=λ_=>Bool) e b (λ_=>false) (λ_=>false) (λ_=>false) (λ_ _=>false) (λ_ _=>false) (λ_ _=>false) (λ_ _ _=>false) (λ_ _ _=>false) (λ_=>false) (λ_=>false) (λ_=>false) (λ_ _ _=>false) (λ_ _ _=>false) (λ_ _=>false) (λ_ _ _=>false) (λ_ _=>false) (λ_ _=>false) (λ_=>false) (λ_=>false) (λ_ _=>false) false (λ_=>false) (λ_=>false) (λ_ _=>false) (λ_=>false) (λ_=>false) (λ_=>false) (λ_=>false) (λ_ _ _=>false) (λ_ _ _ _=>false) (λ_ _ _=>false) λ_ _ _ _=>false
def CD {Q:ME->Prop}(k:∀x,b x=true->Q (.i x))(h:Jy e b=true):Q e:=ME.casesOn (motive_1:=λe=>Jy e b=true->Q e) e k (λ_=>a0) (λ_=>a0) (λ_=>a0) (λ_ _=>a0) (λ_ _=>a0) (λ_ _=>a0) (λ_ _ _=>a0) (λ_ _ _=>a0) (λ_=>a0) (λ_=>a0) (λ_=>a0) (λ_ _ _=>a0) (λ_ _ _=>a0) (λ_ _=>a0) (λ_ _ _=>a0) (λ_ _=>a0) (λ_ _=>a0) (λ_=>a0) (λ_=>a0) (λ_ _=>a0) a0 (λ_=>a0) (λ_=>a0) (λ_ _=>a0) (λ_=>a0) (λ_=>a0) (λ_=>a0) (λ_=>a0) (λ_ _ _=>a0) (λ_ _ _ _=>a0) (λ_ _ _=>a0) (λ_ _ _ _=>a0) h
noncomputable def ul(l:List c)(b:c->Bool):Bool:=match l with | [a]=>b a|_=>false
def cH {b:c->Bool}{Q:List c->Prop}(k:∀a,b a=true->Q [a])(h:ul l b=true):Q l:=by cases l with |nil=>exact a0 h|cons a l=>cases l with |nil=>exact k a h|cons=>exact a0 h
noncomputable def Lp(l:List a)(b:a->a->Bool):Bool:=match l with | [x,y]=>b x y|_=>false
def nU {b:a->a->Bool}{Q:List a->Prop}(k:∀x y,b x y=true->Q [x,y])(h:Lp l b=true):Q l:=by cases l with |nil=>exact a0 h|cons x l=>cases l with |nil=>exact a0 h|cons y l=>cases l with |nil=>exact k x y h|cons=>exact a0 h
noncomputable def mP(l:List a):Bool:=match l with | []=>true|_=>false
@[elab_as_elim]def a3 {Q:List a->Prop}(h:mP l=true)(k:Q []):Q l:=by cases l with |nil=>exact k|cons=>exact a0 h
noncomputable def J8(o:Option c)(b:c->Bool):Bool:=match o with |some a=>b a|none=>false
def k9 {Q:Option c->Prop}(k:∀a,b a=true->Q (some a))(h:J8 o b=true):Q o:=by cases o with |none=>exact a0 h|some a=>exact k a h
noncomputable def FM(o:Option a):Bool:=match o with |none=>true|some _=>false
@[elab_as_elim]def iU {Q:Option a->Prop}(h:FM o=true)(k:Q none):Q o:=by cases o with |none=>exact k|some=>exact a0 h
noncomputable def Q0(g:Comprehension)(b:Expr->Expr->List Expr->Int->Bool):Bool:=b g.target g.iter g.ifs g.is_async
def vJ {Q:Comprehension->Prop}(k:∀t i f z,b t i f z=true->Q ⟨t,i,f,z⟩)(h:Q0 g b=true):Q g:=match g,h with
 |⟨t,i,f,z⟩,h=>k t i f z h
section
variable{C:Prop}
def ql (k:a=true->b=true->C)(h:(a&&b)=true):C:=by cases a<;> cases b<;>first| exact k rfl rfl| exact eI h nt
def BF (k:a=true->b=true->c=true->C):(a&&b&&c)=true->C:=ql λh x=>ql (λh y=>k h y x) h
def D5 (k:a=true->b=true->c=true->d=true->C):(a&&b&&c&&d)=true->C:=ql λh x=>BF (λh y z=>k h y z x) h
def OQ (k:a=true->b=true->c=true->d=true->e=true->C):(a&&b&&c&&d&&e)=true->C:=ql λh x=>D5 (λh y z u=>k h y z u x) h
def O8 (k:a=true->b=true->c=true->d=true->e=true->f=true->C):(a&&b&&c&&d&&e&&f)=true->C:=ql λh x=>OQ (λh y z u v=>k h y z u v x) h
def LL (k:a=true->b=true->c=true->d=true->e=true->f=true->g=true->C):(a&&b&&c&&d&&e&&f&&g)=true->C:=ql λh x=>O8 (λh y z u v w=>k h y z u v w x) h
def Vg (k:a=true->b=true->c=true->d=true->e=true->f=true->g=true->i=true->C):(a&&b&&c&&d&&e&&f&&g&&i)=true->C:=ql λh x=>LL (λh y z u v w t=>k h y z u v w t x) h
def S5 (k:a=true->C)(c:b=true->C)(h:(a||b)=true):C:=by cases a<;> cases b<;>first| exact k rfl| exact c rfl| exact eI h nt
end
@[elab_as_elim]def dq {x a:b}{i:Decidable<|x=a}{Q:b->Prop}(h:@decide (x=a) i=true)(k:Q a):Q x:=YY h▸k
def od [Decidable p](h:decide p=true):p:=YY h
def bq [BEq c][LawfulBEq c]{a b:c}(h:(a==b)=true):a=b:=eq_of_beq h
abbrev Rec:=Bool->Bool->NC->Expr->ME->Bool
def uA (r:Rec)(t:Bool)(a:NC):List Expr->List ME->Bool:=tO λe m=>au e&&r false t a e m
noncomputable def s6(e:Expr):Bool:=Nat.ble (e.ctorIdx+1) 7||Nat.ble 8 e.ctorIdx
noncomputable def Ap(e:Expr):Bool:=Nat.ble 16 e.ctorIdx&&!(Nat.beq e.ctorIdx 17||Nat.beq e.ctorIdx 18||Nat.beq e.ctorIdx 22||Nat.ble 24 e.ctorIdx)
def glob (a:NC)(x:Str):Bool:=(a.names.lookup x==some .globalImplicit)&&a8 x
def OC (r:Rec)(t:Bool)(b:NC)(n:Str)(e:Expr)(a:ME):Bool:=d8 e λd c k _=>bl d λf _=>ul c λx=>mP k&&decide (f=n)&&hF n b&&au x&&r false t b x a
def LD (T:ur)(r:Rec)(m:Bool)(q:NC)(e:Expr)(me:ME):Bool:=match me with
 | .i i=>du e (λc _ _=>rc c λj=>decide (i=j))||wP e λo x _=>decide (o=.USub)&&du x λc _ _=>rc c λj=>decide (i=-j)
 | .s t=>du e λc _ _=>uP c λx=>decide (x=S2 t)
 | .b b=>du e λc _ _=>zb c λd=>decide (b=d)
 | .v i=>bl e λx _=>decide (q.vars[i]?=some x)&&a8 x
 | .f o f=>jV e λO x _=>sC O&&decide (T.fld f=x)&&r false m q O o
 | .c k G=>d8 e λC w B _=>bl C λx _=>mP B&&decide (T.fn k=some x)&&glob q x&&uA r m q w G
 | .w k G=>d8 e λC w B _=>bl C λx _=>mP B&&decide (T.c k=some x)&&glob q x&&uA r m q w G
 | .m k o G=>d8 e λC w B F=>jV C λO x A=>mP B&&decide (T.m k=some x)&&dU O&&decide (w.length<30)&&(A.endLine==F.line)&&r false m q O o&&uA r m q w G
 | .o op a b=>Gl e λx o y _=>decide (o=wF op)&&r false m q x a&&r false m q y b
 | .N a=>wP e λo x _=>decide (o=.Not)&&r false m q x a
 | .a G=>uU e λo w _=>decide (o=.And)&&tO (r false m q) w G
 | .or G=>uU e λo w _=>decide (o=.Or)&&tO (r false m q) w G
 | .q op a b=>BW e λx os ys _=>ul os λo=>ul ys λy=>decide (o=Ao op)&&(behindInMarks o y==false)&&r false m q x a&&r false m q y b
 | .e c a b=>L7 e λt x y _=>r true m q t c&&r false m q x a&&r false m q y b
 | .t a i=>oM e λx y _=>tR y&&r false m q x a&&r false m q y i
 | .S a Y U=>oM e λQ s _=>bl Q λx p=>lQ s λl h P _=>J8 l λl=>J8 h λh=>FM P&&r false m q (.Name x p) a&&r false m q l Y&&r false m q h U
 | .Y a U=>oM e λQ s _=>bl Q λx p=>lQ s λl h P _=>J8 h λh=>FM l&&FM P&&r false m q (.Name x p) a&&r false m q h U
 | .X a Y=>oM e λQ s _=>bl Q λx p=>lQ s λl h P _=>J8 l λl=>FM h&&FM P&&r false m q (.Name x p) a&&r false m q l Y
 | .l w=>zq e λxs _=>decide (w.length<=1000)&&uA r m q xs w
 | .p w=>yq e λxs _ _=>decide (w.length<=1000)&&uA r m q xs w
 | .dS B w=>wO e λR S _=>(mP R&&mP S&&mP B&&mP w)||Lp R λW X=>Lp S λv1 v2=>Lp B λtx ty=>Lp w λa b=>
   J8 W λW=>du W λJ _ _=>uP J λx=>J8 X λX=>du X λL _ _=>uP L λy=>wP v1 λo1 w1 _=>du w1 λd1 _ _=>rc d1 λi=>wP v2 λo2 w2 _=>du w2 λd2 _ _=>rc d2 λj=>
   Jy a λa=>Jy b λb=>decide (o1=.USub/\o2=.USub)&&decide (x=S2 tx)&&decide (y=S2 ty)&&decide (tx≠ty)&&decide (a=-i)&&decide (b=-j)
 | .dI=>wO e λR S _=>mP R&&mP S
 | .n a=>OC r m q "len" e a
 | .ord a=>OC r m q "ord" e a
 | .u a=>OC r m q "sum" e a
 | .k a=>OC r m q "sorted" e a
 | .x a b=>d8 e λC w B _=>bl C λf _=>Lp w λx y=>mP B&&decide (f="max")&&hF "max" q&&au x&&au y&&r false m q x a&&r false m q y b
 | .pop a=>d8 e λC w B F=>jV C λo f A=>mP w&&mP B&&decide (f="pop")&&dU o&&(A.endLine==F.line)&&r false m q o a
 | .j a=>d8 e λC w B F=>jV C λo f A=>du o λc _ _=>uP c λz=>ul w λx=>mP B&&decide (f="join")&&decide (z=S2 [])&&au x&&(A.endLine==F.line)&&r false m q x a
 | .C D I v=>pW e λM N u _=>ul N λg=>Q0 g λt H E z=>bl t λx _=>mP E&&m&&decide (z=0)&&ny q x u v&&s6 H&&r false m q H I&&r false false (eB q x u v) M D
 | .E D I c v=>pW e λM N u _=>ul N λg=>Q0 g λt H E z=>bl t λx _=>ul E λce=>m&&decide (z=0)&&ny q x u v&&s6 H&&r false m q H I&&r false false (eB q x u v) M D&&r true false (eB q x u v) ce c
 | .D D n v=>pW e λM N u _=>ul N λg=>Q0 g λt H E z=>bl t λx _=>d8 H λC w B _=>bl C λf _=>ul w λen=>mP E&&mP B&&(m&&decide (z=0)&&decide (f="range")&&hF "range" q&&au en&&ny q x u v&&r false m q en n&&r false false (eB q x u v) M D)
 | .F _ _ _ _=>false
def stepT (T:ur)(r:Rec)(t:Bool)(c:NC)(e:Expr)(m:ME):Bool:=match m with
 | .a d=>uU e λo f _=>decide (o=.And)&&tO (r true t c) f d
 | .or d=>uU e λo f _=>decide (o=.Or)&&tO (r true t c) f d
 | .N a=>wP e λo x _=>decide (o=.Not)&&r true t c x a
 | .q op a b=>BW e λx g h _=>ul g λo=>ul h λy=>decide (o=Ao op)&&(behindInMarks o y==false)&&r false t c x a&&r false t c y b
 |_=>Ap e&&r false t c e m
def chk (T:ur):Nat->Rec
 |0=>λ_ _ _ _ _=>false
 |n+1=>λt a b e m=>cond t (stepT T (chk T n) a b e m)<|LD T (chk T n) a b e m
section
variable(P)(cl)(A)(Xp)(L)(m)
def KK (r:Rec):Prop:=∀(t:Bool) (b:NC) (e:Expr) (c:ME) (a:Env),EX P cl A a Xp L m b->(t=true->ye a b)->
 (r true t b e c=true->iL P cl A a Xp L m b e c)/\(r false t b e c=true->ar P cl A a Xp L m b e c)
end
section
variable(Zi:wf T P)(G:KK P cl A Xp L m r)
include G
theorem ja{a:Env}(X:EX P cl A a Xp L m b)(K:top=true->ye a b):∀{es:List Expr}{mes:List ME},uA r top b es mes=true->es.all au=true/\es.length=mes.length/\t8 P cl A a Xp L m b es mes
 | [],[],_=>⟨rfl,rfl,t4 X⟩
 | [],_::_,h=>(Yw h).elim
 |_::_,[],h=>(Yw h).elim
 |e::es,d::mes,h=>h|>ql (a:=(au e&&r false top b e d)) λc h=>c|>ql λc f=>
  bU (ja X K (es:=es) (mes:=mes) h) λq g i=>
  ⟨by refine aa all_cons<|aa c<|aa q ?_;rfl,Xs (·+1) g,gf X c ((G top b e d a X K).2 f) i⟩
omit G in
theorem mu(h:s6 e=true)(env):∀x,foldedSetIterable e env x=pure x:=λx=>by cases e<;>first|rfl| exact a0 h
omit G in
theorem Dj(h:Ap e=true)(env)(w:Sem Value):isTrue e env w=(do let v<-w;standAt e.pos;holding [v] (truthy v)):=by cases e<;>first|rfl| exact a0 h
theorem tf{t:Bool}{d:NC}{b:Env}(X:EX P cl A b Xp L m d)(K:t=true->ye b d){x:Str}{s:Scope}{c:List Nat}(i:ny d x s c=true)(j:t=true):
  ∃a,fB b d x s a c (eB d x s c)/\∀C e f,(r false false (eB d x s c) e f=true->ar P cl A (compEnvC s a C b) Xp L m (eB d x s c) e f)/\
   (r true false (eB d x s c) e f=true->iL P cl A (compEnvC s a C b) Xp L m (eB d x s c) e f):=
 Xq (Cv X (K j) i) λa g=>
 ⟨a,g,λC e f=>(G false _ e f _ (X.comp g C) λh=>eI h nt).symm⟩
omit G in
theorem qo{t:Bool}{c:NC}{n:Str}{e:Expr}{a:ME}{Q:Expr->Prop}(k:∀x p b,hF n c=true->au x=true->r false t c x a=true->Q (.Call (.Name n p) [x] [] b)):OC r t c n e a=true->Q e:=by apply bJ;intro l j o b;apply az;intro f p;apply cH;intro x;refine OQ λh h1 d g i=>?_;exact dq h1<|a3 h<|k x p b d g i
include Zi
theorem EQ{W:Bool}{Γ:NC}{e:Expr}{me:ME}{O:Env}(X:EX P cl A O Xp L m Γ)(K:W=true->ye O Γ):LD T r W Γ e me=true->ar P cl A O Xp L m Γ e me:=by
 have g:=λ{e me}=>(G W Γ e me O X K).2;have gt:=λ{e me}=>(G W Γ e me O X K).1;cases me with
 |i i=>
  refine S5 ?_ ?_
  ·apply bO;intro c k p;apply iV;intro j h;exact dq h<|Fo X _ _ _
  ·apply jC;intro o x p;refine ql λh1=>?_;apply bO;intro c k q;apply iV;intro j B;exact dq h1<|dq B<|Hb X _ _ _ _
 |s t=>apply bO;intro c k p;apply ob;intro x h;exact xV X _ _ (od h) _ _
 |b b=>apply bO;intro c k p;apply CM;intro d h;exact dq h<|CW X _ _ _
 |v i=>apply az;intro x p;refine ql λh1 B=>?_;exact xm X _ _ _ (od h1) B
 |f o f=>apply eX;intro oe x p;refine BF λh1 B H=>?_;exact Hx X (g H) h1 (by refine aa Zi.fld ?_;exact od B)
 |c k as=>apply bJ;intro fe Q ks p;apply az;intro x q;refine D5 λJ h1 B H=>?_;exact ql (λI M=>a3 J (let⟨a,b,c⟩:=ja G X K H;CG X (by refine aa Zi.fn ?_;exact od h1) (bq I) M a b c)) B
 |w k as=>apply bJ;intro fe Q ks p;apply az;intro x q;refine D5 λJ h1 B H=>?_;exact ql (λI M=>a3 J (let⟨a,b,c⟩:=ja G X K H;Hh X (by refine aa Zi.c ?_;exact od h1) (bq I) M a b c)) B
 |m k o as=>apply bJ;intro fe Q ks p;apply eX;intro oe x q;refine LL λJ h1 B H I M R=>?_;exact a3 J<|bU (ja G X K R) λa b c=>Dz X (by refine aa Zi.m ?_;exact od h1) B a (od H) I b (g M) c
 |o op a b=>apply Fz;intro x o y p;refine BF λh1 B H=>?_;exact dq h1<|Gp X (g B)<|g H
 |N a=>apply jC;intro o x p;refine ql λh1 h=>?_;exact dq h1<|HA X<|g h
 |a as=>apply oW;intro o Q p;refine ql λh1 h=>?_;exact dq h1<|CS X<|jy (λa b h=>g h) h
 |or as=>apply oW;intro o Q p;refine ql λh1 h=>?_;exact dq h1<|ED X<|jy (λa b h=>g h) h
 |q op a b=>apply yW;intro x os ys p;apply cH;intro o;apply cH;intro y;refine D5 λh1 B H I=>?_;revert B;exact dq h1 λB=>Ha X (g H) (g I)<|bq B
 |e c a b=>apply JL;intro t x y p;refine BF λh1 B H=>?_;exact Gw X (gt h1) (g B)<|g H
 |t a i=>apply gV;intro x y p;refine BF λh1 B H=>?_;exact DB X (g B) (g H) h1
 |S a lo hi=>apply gV;intro xe s p;apply az;intro x q;apply jB;intro l u st w;apply k9;intro l;apply k9;intro u;refine D5 λJ h1 B H=>?_;exact iU J<|zJ X (g h1) (g B)<|g H
 |Y a hi=>apply gV;intro xe s p;apply az;intro x q;apply jB;intro l u st w;apply k9;intro u;refine D5 λJ h1 B H=>?_;exact iU J<|iU h1<|wK X (g B)<|g H
 |X a lo=>apply gV;intro xe s p;apply az;intro x q;apply jB;intro l u st w;apply k9;intro l;refine D5 λJ h1 B H=>?_;exact iU J<|iU h1<|sq X (g B)<|g H
 |l Q=>apply DI;intro xs p;refine ql λh1 B=>?_;exact Dw X (ja G X K B).2.2<|od h1
 |p Q=>apply th;intro xs k p;refine ql λh1 B=>?_;exact Ij X (ja G X K B).2.2<|od h1
 |dS ks Q=>
  apply vw;intro kk vv p;refine S5 ?_ ?_
  ·refine D5 λh1 B H I=>?_;exact a3 h1<|a3 B<|a3 H<|a3 I<|EI X
  ·apply nU;intro k1 k2;apply nU;intro v1 v2;apply nU;intro tx ty;apply nU;intro a b;apply k9;intro k1;apply bO;intro c1ZZ _ _;apply ob;intro x;apply k9;intro k2;apply bO;intro c2ZZ _ _;apply ob;intro y;apply jC;intro o1 w1 _;apply bO;intro d1 _ _;apply iV;intro i;apply jC;intro o2 w2 _;apply bO;intro d2 _ _;apply iV;intro j;apply CD;intro a;apply CD;intro b;refine O8 λh1 B H I M R=>XG (λe7 e8=>?_)<|od h1;subst e7;subst e8
   exact dq M<|dq R<|Hc X (od B) (od H)<|od I
 |dI=>apply vw;intro kk vv p;refine ql λh1 B=>?_;exact a3 h1<|a3 B<|JK X
 |n a=>apply qo;intro x p q h1 B H;exact G5 X h1 B<|g H
 |ord a=>apply qo;intro x p q h1 B H;exact E7 X h1 B<|g H
 |u a=>apply qo;intro x p q h1 B H;exact Eu X h1 B<|g H
 |k a=>apply qo;intro x p q h1 B H;exact xX X h1 B<|g H
 |x a b=>apply bJ;intro fe Q ks p;apply az;intro f q;apply nU;intro x y;refine LL λJ h1 B H I M R=>?_;exact dq h1<|a3 J<|FS X B H I (g M)<|g R
 |pop a=>apply bJ;intro fe Q ks p;apply eX;intro o f q;refine O8 λJ h1 B H I M=>?_;exact dq B<|a3 J<|a3 h1<|Ho X (g M) H I
 |j a=>apply bJ;intro fe Q ks p;apply eX;intro o f q;apply bO;intro c _ _;apply ob;intro z;apply cH;intro x;refine O8 λJ h1 B H I M=>?_;exact dq h1<|dq B<|a3 J<|C9 X H (g M) I
 |C elt src caps=>apply md;intro el gs U p;apply cH;intro c;apply vJ;intro t it ifs z;apply az;intro x q;refine LL λJ h1 B H I M R=>?_;exact dq B<|ag (tf G X K H h1) λcls CK q=>a3 J<|Di X CK (g M) (λC=>(q C _ _).1 R)<|mu I O
 |E elt src c caps=>apply md;intro el gs U p;apply cH;intro c;apply vJ;intro t it ifs z;apply az;intro x q;apply cH;intro ce;refine LL λh1 B H I M R h7=>?_;exact dq B<|ag (tf G X K H h1) λcls CK q=>yv X CK (g M) (λC=>(q C _ _).1 R) (λC=>(q C _ _).2 h7)<|mu I O
 |D elt n caps=>apply md;intro el gs U p;apply cH;intro c;apply vJ;intro t it ifs z;apply az;intro x q;apply bJ;intro fe Q ks _;apply az;intro f _;apply cH;intro en;refine BF λha hb=>?_;refine Vg λh1 B H I M R h7 h8=>?_;exact dq B<|dq H<|ag (tf G X K R h1) λcls CK q=>a3 ha<|a3 hb<|zk X I M CK (g h7) λC=>(q C _ _).1 h8
 |F=>exactλh=>eI h nt
theorem Hg{t:Bool}{d:NC}{e:Expr}{me:ME}{c:Env}(X:EX P cl A c Xp L m d)(K:t=true->ye c d):stepT T r t d e me=true->iL P cl A c Xp L m d e me:=by
 have g:=λ{e me}=>(G t d e me c X K).2;have i:=λ{e me}=>(G t d e me c X K).1;have s:∀{me},(Ap e&&r false t d e me)=true->iL P cl A c Xp L m d e me:=ql λh1 f=>I4 (g f)<|Dj h1 c;cases me with
 |a j=>apply oW;intro o k p;refine ql λh1 h=>?_;exact dq h1<|DP X<|jy (λa b h=>i h) h
 |or j=>apply oW;intro o k p;refine ql λh1 h=>?_;exact dq h1<|EB X<|jy (λa b h=>i h) h
 |N a=>apply jC;intro o x p;refine ql λh1 h=>?_;exact dq h1<|E6 X<|i h
 |q op a b=>apply yW;intro x u v p;apply cH;intro o;apply cH;intro y;refine D5 λh1 f l n=>?_;revert f;exact dq h1 λf=>GH X (g l) (g n)<|bq f
 |_=>exact s
end
theorem mV{P:bi}{d:Cl}{A:Around}{b:Heap}{L:Addr}{m:Str->Option Value}{T:ur}(a:wf T P):∀n,KK P d A b L m<|chk T n
 |0=>λt g e f c X K=>⟨λh=>(Yw h).elim,λh=>(Yw h).elim⟩
 |n+1=>λt g e f c X K=>⟨Hg a (mV a n) X K,EQ a (mV a n) X K⟩
noncomputable def vZ(e:Expr):Bool:=Nat.ble e.ctorIdx 7||Nat.ble 11 e.ctorIdx
noncomputable def xA(e:Expr):Bool:=Nat.ble e.ctorIdx 24||Nat.ble 26 e.ctorIdx
def wi (h:vZ e=true)(t:Option Expr)(l:Nat)(a:Env):swapsWith e t l a=pure false:=by cases e<;>first|rfl| exact a0 h
def zs (line)(env):swapsWith e (some<|.Subscript o i p) line env=pure false:=by cases e<;>rfl
def zc (line)(env):swapsWith e (some<|.Attribute o x p) line env=pure false:=by cases e<;>rfl
def A4 (line)(env):swapsWithSole [.Tuple a k p] e line env=pure false:=by cases e<;>rfl
def CV (h:xA e=true)(a:Env):swappedStores [.Tuple b k p] e a=pure none:=by cases e<;>first|rfl| exact a0 h
def yP (line)(h:env.kindOf x≠some .local):swapsWith e (some<|.Name x p) line env=pure false:=by cases e<;>first|rfl| exact(λa b c=>by rw[(by simpa using h:(env.kindOf x==some NameKind.local)=false),Bool.and_false];rfl:∀a b c:Bool,(pure (a&&(env.kindOf x==some NameKind.local)&&b&&c):Sem Bool)=pure false) _ _ _
def DX (d:env.scope.kind=.function)(h:env.kindOf x=some .local)(a:p.line=v.line)
  (b:(!(scope.names.any λ(n,k)=>n==x&&(k==.local||k==.cell)))=true):swapsWith (.ListComp e g scope v) (some<|.Name x p) line env=pure true:=by
 show(pure (env.blockKind==ScopeKind.function&&env.kindOf x==some NameKind.local&&p.line==v.line&&!(scope.names.any λ(n,k)=>n==x&&(k==.local||k==.cell))):Sem Bool)=pure true;have c:(env.blockKind==ScopeKind.function)=true:=by unfold Env.blockKind;first|(refine aa d ?_;rfl)|(simp)|(split<;> simp_all)
 refine aa c<|aa (by refine aa h ?_;rfl:(env.kindOf x==some NameKind.local)=true)<|aa (a▸ZP _:(p.line==v.line)=true)<|aa b ?_;rfl
noncomputable def Vd(l:List a)(b:a->a->a->Bool):Bool:=match l with | [x,y,z]=>b x y z|_=>false
def LT {a:Type}{l:List a}{b:a->a->a->Bool}{Q:List a->Prop}(k:∀x y z,b x y z=true->Q [x,y,z])(h:Vd l b=true):Q l:=by cases l with |nil=>exact a0 h|cons x l=>cases l with |nil=>exact a0 h|cons y l=>cases l with |nil=>exact a0 h|cons z l=>cases l with |nil=>exact k x y z h|cons=>exact a0 h
def AF (c:NC):List Expr->List Nat->Bool:=λb a=>match b with
 | []=>mP a
 |e::b=>match a with
  | []=>false
  |i::a=>bl e (λx _=>decide (c.vars[i]?=some x))&&AF c b a
theorem ve{c:NC}:∀{a:List Expr}{b:List Nat},AF c a b=true->J2 c a b
 | [],b,h=>a3 h .nil
 |e::a,[],h=>(Yw h).elim
 |e::a,i::b,h=>ql (a:=bl e λx _=>decide (c.vars[i]?=some x)) (λh1 d=>az (Q:=λe=>J2 c (e::a)<|i::b) (λx _ h=>.cons (od h)<|ve d) h1) h
noncomputable def xN(e:Expr):Bool:=Nat.ble e.ctorIdx 25
def DY (h:xN i=true)(o a n:Value):augStore i o a n=(do holding [n,o,a] (PySem.setItem o a n);release [n,o,a] [];pure .next):=by cases i<;>first|rfl| exact a0 h
noncomputable def FH(e:ME)(b:ME->ME->ME->List Nat->Bool)(d:Bool):Bool:=ME.casesOn (motive_1:=λ_=>Bool) e (λ_=>d) (λ_=>d) (λ_=>d) (λ_=>d) (λ_ _=>d) (λ_ _=>d) (λ_ _=>d) (λ_ _ _=>d) (λ_ _ _=>d) (λ_=>d) (λ_=>d) (λ_=>d) (λ_ _ _=>d) (λ_ _ _=>d) (λ_ _=>d) (λ_ _ _=>d) (λ_ _=>d) (λ_ _=>d) (λ_=>d) (λ_=>d) (λ_ _=>d) d (λ_=>d) (λ_=>d) (λ_ _=>d) (λ_=>d) (λ_=>d) (λ_=>d) (λ_=>d) (λ_ _ _=>d) (λ_ _ _ _=>d) (λ_ _ _=>d) b
def Fe {e:ME}{b:ME->ME->ME->List Nat->Bool}{d:Bool}{Q:ME->Prop}(k:∀x n c a,b x n c a=true->Q (.F x n c a))(f:d=true->Q e)(h:FH e b d=true):Q e:=
 ME.casesOn (motive_1:=λe=>(d=true->Q e)->FH e b d=true->Q e) e (λ_=>id) (λ_=>id) (λ_=>id) (λ_=>id) (λ_ _=>id) (λ_ _=>id) (λ_ _=>id) (λ_ _ _=>id) (λ_ _ _=>id) (λ_=>id) (λ_=>id) (λ_=>id) (λ_ _ _=>id) (λ_ _ _=>id) (λ_ _=>id) (λ_ _ _=>id) (λ_ _=>id) (λ_ _=>id) (λ_=>id) (λ_=>id) (λ_ _=>id) id (λ_=>id) (λ_=>id) (λ_ _=>id) (λ_=>id) (λ_=>id) (λ_=>id) (λ_=>id) (λ_ _ _=>id) (λ_ _ _ _=>id) (λ_ _ _=>id) (λx n c l _=>k x n c l) f h
def LA (T:ur)(r:Rec)(b:NC)(i:Nat)(x:Str)(y:Expr)(B:Pos)(m:ME):Bool:=FH m (λe n c a=>pW y λo u s d=>ul u λg=>Q0 g λt w h z=>bl t λv _=>d8 w λq p A _=>bl q λf _=>ul p λj=>ul h λl=>
  mP A&&decide (z=0/\f="range"/\b.vars[i]?=some x)&&hF "range" b&&au j&&ny b v s a&&r false true b j n&&(r false false (eB b v s a) o e&&r true false (eB b v s a) l c)
   &&((b.names.lookup x==some .local)&&(B.line==d.line)&&!(s.names.any λ(n,k)=>n==x&&(k==.local||k==.cell))))
 (decide (b.vars[i]?=some x)&&(vZ y||!(b.names.lookup x==some .local))&&r false true b y m)
abbrev acp:=NC->List Stmt->List MS->Bool
def KN (T:ur)(P:Bool)(r:Rec)(C:acp)(d:NC)(g:Stmt)(J:MS):Bool:=match J with
 | .x e=>o0 g λx _=>vZ x&&r false true d x e
 | .s i e=>qb g λA y _=>ul A λt=>bl t λx O=>LA T r d i x y O e
 | .f o f e=>qb g λA y _=>ul A λt=>jV t λh x _=>decide (T.fld f=x)&&r false true d h o&&r false true d y e
 | .t o i e=>qb g λA y _=>ul A λt=>oM t λh F _=>r false true d h o&&r false true d F i&&r false true d y e
 | .unp I e=>qb g λA y _=>ul A λt=>yq t λB _ _=>AF d B I&&xA y&&r false true d y e
 | .v i op e=>wc g λt o y _=>bl t λx p=>decide (o=wF op)&&decide (d.vars[i]?=some x)&&a8 x&&r false true d (.Name x p) (.v i)&&r false true d y e
 | .u o i op e=>wc g λt N y _=>oM t λh F _=>decide (N=wF op)&&xN F&&r false true d h o&&r false true d F i&&r false true d y e
 | .a o e=>o0 g λx _=>d8 x λD B E m=>jV D λh f k=>ul B λy=>mP E&&decide (f="append")&&dU h&&au y&&(k.endLine==m.line)&&r false true d h o&&r false true d y e
 | .rvs o=>o0 g λx _=>d8 x λD B E m=>jV D λh f k=>mP B&&mP E&&decide (f="reverse")&&dU h&&(k.endLine==m.line)&&r false true d h o
 | .c o=>Aw g λA _=>ul A λt=>oM t λh s _=>lQ s λl u w _=>FM l&&FM u&&FM w&&r false true d h o
 | .i c t f=>EY g λx a b _=>r true true d x c&&C d a t&&C d b f
 | .w c b=>so g λx a e _=>mP e&&r true true d x c&&C d a b
 | .g i q b=>nr g λt y a e _=>bl t λx _=>mP e&&decide (d.vars[i]?=some x)&&s6 y&&r false true d y q&&C d a b
 | .ZE i j q b=>nr g λt y a e _=>yq t λA _ _=>Lp A λQ R=>bl Q λx _=>bl R λz _=>mP e&&decide (d.vars[i]?=some x)&&decide (d.vars[j]?=some z)&&s6 y&&r false true d y q&&C d a b
 | .h i n b=>nr g λt y a e _=>bl t λx _=>mP e&&decide (d.vars[i]?=some x)&&OC (r:=λ_ _ _ y n=>r false true d y n) true d "range" y n&&C d a b
 | .Zv i n b=>nr g λt y a e _=>bl t λx _=>mP e&&decide (d.vars[i]?=some x)&&C d a b&&d8 y λD B E _=>bl D λf _=>Vd B λy u v=>wP u λL S _=>du S λG _ _=>rc G λu=>wP v λM U _=>du U λH _ _=>rc H λv=>
   mP E&&decide (L=.USub/\M=.USub/\u=1/\v=1/\f="range")&&hF "range" d&&au y&&r false true d y n
 | .aao i q b=>nr g λt y a e _=>bl t λx _=>mP e&&decide (d.vars[i]?=some x)&&OC (r:=λ_ _ _ y n=>r false true d y n) true d "reversed" y q&&C d a b
 | .r e=>wy g λx _=>J8 x λx=>r false true d x e
 | .aaw=>wy g λx _=>FM x
 | .e a b=>ud g λx c _=>J8 x λx=>d8 x λD B E _=>bl D λf _=>Lp B λx y=>FM c&&mP E&&(P&&decide (f="FormatError")&&glob d f&&au x&&au y&&r false true d x a&&r false true d y b)
 | .told _ _=>false
 | .k=>true
def zI (f:Stmt->MS->Bool):List Stmt->List MS->Bool:=λb k=>match b with
 | []=>mP k
 |s::b=>match k with
  | []=>false
  |m::k=>f s m&&zI f b k
def JZ (T:ur)(r:Bool):Nat->acp
 |0=>λ_ _ _=>false
 |n+1=>λa b m=>zI (KN T r (chk T 40) (JZ T r n) a) b m
section
variable(P:bi)(cl:Cl)(lp:Zx)(A:Around)(env:Env)(Xp:Heap)(L:Addr)(Γ:NC)(XA:ZH)
def Bh:Prop:=∀(x y:Expr) (b c:ME) (f:Str) (p a d:Pos),f="FormatError"->glob Γ f=true->au x=true->au y=true->(∀m,ar P cl A env Xp L m Γ x b)->(∀m,ar P cl A env Xp L m Γ y c)->
 fG P cl lp A env Xp L Γ XA (.Raise (some<|.Call (.Name f p) [x,y] [] a) none d) (.e b c)
end
section
variable{P:bi}{cl:Cl}{lp:Zx}{A:Around}{env:Env}{Xp:Heap}{L:Addr}{Γ:NC}{XA:ZH}{T:ur}(Zi:wf T P)
 (X:∀m,EX P cl A env Xp L m Γ) (K:g5 env L Γ) (hlp:∀step s r,lp step s=some r->∃n,fR step n s=some r) {ra:Bool} (hra:ra=true->Bh P cl lp A env Xp L Γ XA)
include Zi X K hlp hra
omit hlp hra in
theorem IE{n:Nat}{i:Nat}{x:Str}{y:Expr}{w p:Pos}{e:ME}:LA T (chk T n) Γ i x y w e=true->fG P cl lp A env Xp L Γ XA (.Assign [.Name x w] y p) (.s i e):=by
 have E:ye env Γ:=K.b;have g:∀{e me},chk T n false true Γ e me=true->∀m,ar P cl A env Xp L m Γ e me:=λ{e me} h m=>(mV Zi n true Γ e me env (X m) λ_=>E).2 h;have u:∀y,env.kindOf y=Γ.names.lookup y:=λy=>by refine dG ((X λ_=>none).b) ?_;rfl
 apply Fe
 ·intro H nn c l;apply md;intro el gs k B;apply cH;intro gg;apply vJ;intro t it W z;apply az;intro v _;apply bJ;intro fe es ks _;apply az;intro f _;apply cH;intro en;apply cH;intro Y;refine Vg λI h1 a d J M j N=>ql (λj O=>BF (λQ R S=>bU (od h1) λF G U=>?_) N) j;subst F;subst G
  refine Xq (Cv (X λ_=>none) E J) λD b=>?_;have o:env.kindOf x=some .local:=by rw[u];exact bq Q
  exact a3 I<|w8 X K a d b (g M) (λm C=>(mV Zi n false _ _ _ _ ((X m).comp b C) λh=>eI h nt).2 j) (λm C=>(mV Zi n false _ _ _ _ ((X m).comp b C) λh=>eI h nt).1 O) U o<|DX (X λ_=>none).g o (bq R) S
 ·refine BF λh1 a d=>EP X K (g d) (od h1)<|S5 (λa=>wi a _ _ _) (λa=>yP _ ?_) a
  rw[u];intro q;rw[q]at a;exact eI a nt
theorem HY{n:Nat}{rb:acp}(F:∀b mb,rb Γ b mb=true->kH P cl lp A env Xp L Γ XA b mb){st:Stmt}{ms:MS}:KN T ra (chk T n) rb Γ st ms=true->fG P cl lp A env Xp L Γ XA st ms:=by
 have EK:ye env Γ:=K.b;have g:∀{e me},chk T n false true Γ e me=true->∀m,ar P cl A env Xp L m Γ e me:=λ{e me} h m=>(mV Zi n true Γ e me env (X m) λ_=>EK).2 h;have gt:∀{e me},chk T n true true Γ e me=true->∀m,iL P cl A env Xp L m Γ e me:=λ{e me} h m=>(mV Zi n true Γ e me env (X m) λ_=>EK).1 h;have G:interactive env=false:=by have:=(X λ_=>none).g;unfold interactive;refine aa this ?_;rfl
 cases ms with
 |x e=>apply m9;intro x p;refine ql λh1 d=>?_;exact CL X (g d) G<|wi h1 _ _ _
 |s i e=>apply mf;intro Q y pos;apply cH;intro t;apply az;intro x px h;exact IE Zi X K h
 |f o f e=>apply mf;intro Q y p;apply cH;intro t;apply eX;intro M x q;refine BF λh1 d B=>?_;exact DR X (g d) (g B) (by refine aa Zi.fld ?_;exact od h1)<|zc _ _
 |t o i e=>apply mf;intro Q y p;apply cH;intro t;apply gV;intro M ie q;refine BF λh1 d B=>?_;exact D7 X (g h1) (g d) (g B)<|zs _ _
 |unp is e=>apply mf;intro Q y p;apply cH;intro t;apply th;intro R k q;refine BF λh1 d B=>?_;exact Gm X K (g B) (ve h1) (A4 _ _)<|CV d _
 |v i op e=>apply uO;intro t o y p;apply az;intro x q;refine OQ λh1 d B C E=>?_;exact dq h1<|C0 X K (g C) (g E) (od d) B
 |u o i op e=>apply uO;intro t oo y p;apply gV;intro M ie q;refine OQ λh1 d B C E=>?_;exact dq h1<|CP X (g B) (g C) (g E)<|DY d
 |a o e=>apply m9;intro x p;apply bJ;intro Y R ks c;apply eX;intro M f q;apply cH;intro y;refine LL λD h1 d B C E I=>?_;exact dq h1<|a3 D<|E8 X (g E) (g I) d B C G<|wi rfl _ _ _
 |rvs o=>apply m9;intro x p;apply bJ;intro Y R ks c;apply eX;intro M f q;refine O8 λJ F h1 d B C=>?_;exact dq h1<|a3 J<|a3 F<|Id X (g C) d B G<|wi rfl _ _ _
 |c o=>apply D0;intro Q p;apply cH;intro t;apply gV;intro M s q;apply jB;intro l u w z;refine D5 λh1 d B C=>?_;exact iU h1<|iU d<|iU B<|zo X<|g C
 |i c t f=>apply FX;intro x a b p;refine BF λh1 d B=>?_;exact Ie (gt h1) (F _ _ d)<|F _ _ B
 |w c b=>apply yp;intro x a e p;refine BF λD h1 d=>?_;exact a3 D<|y9 X K hlp (gt h1)<|F _ _ d
 |g i O b=>apply jf;intro t y a e p;apply az;intro x q;refine OQ λD h1 d B C=>?_;exact a3 D<|CN X K (od h1) (g B) (F _ _ C)<|mu d env
 |ZE i j O b=>apply jf;intro t y a e p;apply th;intro Q k w;apply nU;intro t1 t2;apply az;intro x q;apply az;intro z r;refine O8 λD h1 d B C E=>?_;exact a3 D<|DS X K (od h1) (od d) (g C) (F _ _ E)<|mu B env
 |h i n b=>apply jf;intro t y a e p;apply az;intro x q;refine D5 λD h1 d B=>?_;refine a3 D ?_;revert d;apply qo;intro y _ _ C E I;exact DO X K (od h1) C E (g I)<|F _ _ B
 |Zv i n b=>apply jf;intro t y a e p;apply az;intro x q;refine D5 λD h1 B=>a3 D ?_;apply bJ;intro Y R ks c;apply az;intro f q;apply LT;intro y u v;apply jC;intro o1 w1 _;apply bO;intro d1 _ _;apply iV;intro u;apply jC;intro o2 w2 _;apply bO;intro d2 _ _;apply iV;intro v;refine OQ λJ hb' hc hd he=>bW (od hb') λe7 e8 e9 U W=>?_;subst e7;subst e8;subst e9;subst U;subst W;exact a3 J<|zG X K (od h1) hc hd (g he)<|F _ _ B
 |aao i O b=>apply jf;intro t y a e p;apply az;intro x q;refine D5 λD h1 d B=>?_;refine a3 D ?_;revert d;apply qo;intro y _ _ C E I;exact DF X K (od h1) C E (g I)<|F _ _ B
 |r e=>apply uF;intro x p;apply k9;intro x h;exact Fg X K<|g h
 |aaw=>apply uF;intro x p h;exact iU h Dv
 |e a b=>apply yR;intro x c p;apply k9;intro x;apply bJ;intro Y R ks _;apply az;intro f _;apply nU;intro x y;refine BF λJ F=>?_;refine LL λD h1 d B C E I=>?_;exact iU J<|a3 F<|hra D _ _ _ _ _ _ _ _ (od h1) d B C (g E)<|g I
 |told=>exactλh=>eI h nt
 |k=>exactλ_ m ρ N H s l fl H' S Lo h=>cE h nt
omit Zi X K hlp hra in
theorem uM{f:Stmt->MS->Bool}(c:∀e d,f e d=true->fG P cl lp A env Xp L Γ XA e d):∀{b:List Stmt}{a:List MS},zI f b a=true->kH P cl lp A env Xp L Γ XA b a
 | [],a,h=>a3 h Gc
 |s::b,[],h=>(Yw h).elim
 |s::b,k::a,h=>ql (a:=f s k) (λh1 g=>C4 (c _ _ h1)<|uM c g) h
theorem rZ:∀(n:Nat) (b:List Stmt) (a:List MS),JZ T ra n Γ b a=true->kH P cl lp A env Xp L Γ XA b a
 |n,b,a,h=>by
  induction n generalizing b a with
  |zero=>exact(Yw h).elim
  |succ n i=>exact uM (λ_ _=>HY Zi X K hlp hra λb a=>i b a) h
end
section
variable{M:Model}{A:Around}{E:Value->Shared->Prop}{env:Env}{nm q:Str}{C N:Addr}{bs bm:List Value}{ab2:Bool}{sn:List Str}{sub:List Value}{ab:Bool}{col:Option Bool}{dd:Option Addr}{k0 k1 k2 k3 k5:Option Value}{newId:String}
abbrev KU (C:Addr)(o:Obj)(E:Value->Shared->Prop)(v:Value)(s:Shared):Prop:=∃e t d,v=.ref e/\s.heap.get? C=some o/\
   s.heap.get? e=some {cls:=.ref C,dict:=some d,data:=.fields #[.ref t,.none,.none,.none,.bool false,.none]}/\E (.ref e) s
def JA {o:Obj}(l:excClassObj nm q C N bs bm ab2 sn sub ab col dd k0 k1 k2 k3 k5 newId=o){s:Shared}{x:Sem Value}{Q:Flow->Shared->Prop}(b:bm.contains (.type "BaseException")=true)(k:A.handled=none)
  (h:wpAny M A x (KU C o E) E s):
  wpAny M A (raiseStmt env (some x) none) Q E s:=by
 subst l;refine XD<|aaa h (λv f a=>cD a λe t d g c j i=>?_) λ_ _ x=>x;clear a;subst g;repeat (first|with_reducible refine wpAny_loadPart_at j ?_|with_reducible refine wpAny_loadPart_at c ?_|(with_reducible refine wpAny_isSubtype_exc c ?_;rw[(by rw[List.contains_cons,b,Bool.or_true]:(Value.ref C::bm).contains (.type "BaseException")=true)])|wp_step)
 exact wpAny_raiseNew_none k i
end
def KW (P:bi)(C:Addr)(i h:Str):ZH:=λg L f N H m x y e s=>∀Z:Prop,(St P g L m f N H s->∀a d b n c u v,e=.ref a->s.heap.get? a=some ⟨.ref C,some d,.fields c,#[]⟩->1<c.size->c[1]?=some .none->s.heap.get? d=some (dictOf b n)->getL i b=some (some u)->getL h b=some (some v)->bY f N x u->bY f N y v->g.get? a=none->g.get? d=none->a≠L->d≠L->(∀p∈N,p.1≠a/\p.1≠d)->a≠d->Z)->Z
section
variable{P:bi}{cl:Cl}{lp:Zx}{A:Around}{env:Env}{g:Heap}{L C C1 fI:Addr}{Γ:NC}{nw na:Str}
def bI (h:r=some (a,H)):bV r f=f a H:=by refine aa h ?_;rfl
def UP (h1:ai cl l a H=some (x,d))(h:ai cl l b d=some (y,e)):Zb cl l [a,b] H=some ([x,y],e):=
 (bI h1).trans (show bV (bV (ai cl l b d) λv H=>bV (some ([],H)) λc H=>some (v::c,H)) (λc H=>some (x::c,H))=_ by refine aa h ?_;rfl)
def GQ (r:XK P C C1 fI "FormatError" nw na){d:Nat}(M:uj P A g L d)(X:∀m,EX P cl A env g L m Γ):Bh P cl lp A env g L Γ<|KW P C nw na:=by
 intro x y mx my f abf aa0 p3 hf a F G hx hy m ρ N H s l fl H' S Lo h Q E k;refine aF (xo.symm.trans h) λv1 H1 h1 h=>aF h λv2 H2 h2 h=>aR h λe1 e2=>?_;subst e1 e2;simp only[glob,Xv,YF]at a;subst hf;refine r.cls _ λnm q N0 bs sn sub ab T dd k0 k1 k2 k3 k5 mN hK W hi=>XD<|wpAny_standAt ?_;obtain⟨co,u⟩:∃co,excClassObj nm q C N0 bs (.ref C1::ry) true sn sub ab T dd k0 k1 k2 k3 k5 "Exception.__new__"=co:=⟨_,rfl⟩;refine JA u rfl (X m).h (XD<|aaa (wpAny_Call_ofName (Q:=KU C co E)<|wb (X m) S a.1 a.2 r.glob<|gj (X m) (first:=[]) r.keep (by simp[F,G]) (gf (X m) F (hx m) (gf (X m) G (hy m)<|t4<|X m):t8 P cl A env g L m Γ [x,y] [mx,my]) rfl S Lo.loc (vs:=[v1,v2]) (H':=H2) (aa (UP h1 h2) rfl) λus s1 ρ1 O c E1 R=>?_) (λv acw w=>XD<|wpAny_standAt<|XZ w) λ_ _ x=>x);obtain⟨u1,_,rfl,R,u2,_,rfl,V2,rfl⟩:=R;obtain⟨oI,hoI,Y⟩:∃oI,P.K.lookup fI=some oI/\oI.cls=.type "function":=by have:=r.fn;unfold isFn typeIn at this;simp only[YF]at this;exact Yv.mp this
 have I:=M.base.K.keeps c.F.keep;refine D1 PySem.F.excBase_Exception (r.tail _ I) (I _ _ hK) (W _ I) hi (I _ _ hoI) Y (λU e j=>?_)<|Yb rfl;refine aj j.there λt he htn ht=>?_;have eL:e≠L:=λz=>by refine nJ c.F.ns λo _ _ ho _=>?_;have:=j.new;rw[z,ho]at this;exact cE this nt
 have ge:g.get? e=none:=by
  cases z:g.get? e with
  |none=>rfl
  |some o=>have:=c.F.keep _ _ z;rw[j.new]at this;exact cE this nt
 have B:∀p∈O,p.1≠e:=λp i z=>by have:=(c.g p i).1;rw[z,j.new]at this;exact cE this nt
 have N':News g L U<|(e,⟨.ref C,none,.fields #[.ref t,.none,.none,.none,.bool false,.none],#[]⟩)::O:=λp i=>by
  rcases XE.mp i with rfl|i
  ·exact⟨he,eL,ge⟩
  ·exact⟨j.keeps _ _ (c.g p i).1,(c.g p i).2⟩
 refine wpAny_call<|Nr (s:={s1 with heap:=U}) r M (.inr ⟨C,_,rfl⟩) (⟨c.F.ns.keeps j.keeps,λb o z=>j.keeps _ _<|c.F.keep b o z,c.F.above⟩:Fr g L U m) N' B λh2 tk2 dx n es F2 J q1 q2 q3 q4=>⟨rfl,e,t,dx,rfl,(M.base.K.keeps F2.keep) _ _<|u▸hK,(J _<|.tail _<|.head _).1,?_⟩;have D:=J _<|List.Mem.head _;refine k (.ref e) _ m ρ1 O E1.weak λ_ z=>z ⟨F2,λp i=>J p<|.tail _<|.tail _ i,c.j,c.rep,c.sep,c.old,c.env⟩ e dx es n _ u1 u2 rfl (J _<|.tail _<|.head _).1 (by simp) rfl D.1 q3 q4 R V2 ge D.2.2 eL D.2.1 (λp i=>⟨B p i,q1 p i⟩) q2
end
structure XS(B:Heap)(l:List Env)(a C d:Addr)(fl:Value)(Lt L:Addr)(mt m:Str->Option Value)(h:Heap):Prop where
 at_:BK B l a C d fl h
 n:h.Ns Lt mt
 nl:h.Ns L m
def XS.step {B h h':Heap}{l c:List Env}{a C d b L:Addr}{g f:Value}{e m:Str->Option Value}(x:XS B l a C d g b L e m h)(y:BK B c a C d f h')(z:h.UpToSlots h'):XS B c a C d f b L e m h':=
 ⟨y,z.ns x.n,z.ns x.nl⟩
section
variable{P:bi}{A:Around}{env:Env}{Xp B:Heap}{l:List Env}{Lt L C C1 fI a d:Addr}{x nw na nf:Str}{mt m:Str->Option Value}{s:Shared}{N:Led}{es:List DictEntry}{n:Nat}
def NG (X:XK P C C1 fI x nw na)(f:P.K.In Xp)(F:Fr Xp env.locals h M)(hm:M nf=some (.ref a))(R:News Xp env.locals h N)(ho:h.get? a=some ⟨.ref C,some d,.fields vs,sl⟩)(Y:h.get? d=some (dictOf es n))
  (i:getL nw es=some (some I)) (W:getL na es=some (some J)) (z:handedIn I=true) (D:handedIn J=true) (hk:env.scope.kind=.function) (w:env.kindOf nf=some .local) (of:a8 nf=true)
  (k:∀j t,Fr Xp env.locals j M->News Xp env.locals j ((h.objs.size,jn [I,J] 0)::N)->Q (.ret<|.ref h.objs.size) {s with heap:=j,toks:=t}):
  wpAny (model P.p P.w) A (execs [.Return (some<|.Tuple [.Attribute (.Name nf q1) nw q2,.Attribute (.Name nf q3) na q4] kk q5) q6] env) Q E {s with heap:=h}:=by
 refine ib X.l λw1 c w2 w3=>ib X.f λw4 e w5 w6=>?_;have v:hasDictIn P.K C=true:=by refine aj X.mro.cd λcd o _ p=>?_;unfold hasDictIn;refine aa o ?_;exact p
 have g:∀(y:Str) (u:Value) (t:Tok) (b:Option Value) (q H:Pos) (Q:Value->Shared->Prop) (E:Value->Shared->Prop),findIn P.K (.ref C) y=some b->noGet P.K b=true->getL y es=some (some u)->handedIn u=true->Q u {s with heap:=h,toks:=t+1}->
   wpAny (model P.p P.w) A (eval (.Attribute (.Name nf q) y H) env) Q E {s with heap:=h,toks:=t}:=λy u t b q H Q E o p T U hq=>
  Attribute_any_ (yz (P:=P) (s:={s with heap:=h,toks:=t}) hk w rfl F hm of (Ul (s:={s with heap:=h,toks:=t}) (f.keeps F.keep) X.mro ho Y rfl rfl rfl v o p T U hq)) (by
   show(do
    let G<-attributeBase (.Name nf q) y env (eval (.Name nf q) env)
    standAt H.atName
    let r<-holding [G] (getAttr G y true)
    letTemporaryGo (.Name nf q) G r
    pure r)=_
   rw[qR rfl])
 exact Zn<|wpAny_Return_some<|Tuple_<|Y0 (g nw I _ c q1 q2 _ _ w2 w3 i z<|Y0 (g na J _ e q3 q4 _ _ w5 w6 W D<|args_nil<|newTuple_N (s:={s with heap:=h,toks:=_}) F R (λj O S=>k j _ O S)<|Yb rfl)<|ap rfl _ _)<|ap rfl _ _
def EN (S:XK P C C1 fI x nw na)(j:P.K.In Xp)(hg:Xp.Ns mainGlobals P.b)(G:Xp.StaysIn B)(W:∀p∈N,B.get? p.1=some p.2)(u:B.get? d=some (dictOf es n))(hN:∀p∈N,p.1≠env.locals/\Xp.get? p.1=none)(I:Xp.objs.size<=env.locals)
  (H:B.get? env.locals=none) (hat:a≠env.locals) (v:L≠env.locals) (Y:Xp.get? L=none) {u1 u2:Value} (D:getL nw es=some (some u1)) (g2:getL na es=some (some u2)) (hu1:handedIn u1=true) (hu2:handedIn u2=true)
  (hf:env.frame=some env.locals) (heg:env.globals=mainGlobals) (O:env.scope.kind=.function) (hkx:env.kindOf x=some .globalImplicit) (w:env.kindOf nf=some .local) (ox:a8 x=true) (of:a8 nf=true)
  (X:XS B l a C d .none env.locals L mt m s.heap) {np pos q1 q2 q3 q4 q5 q6:Pos}{kk:Nat}{Q:Flow->Shared->Prop}{E:Value->Shared->Prop}
  (k:∀t M tk m',Fr Xp env.locals M m'->News Xp env.locals M ((t,jn [u1,u2] 0)::N)->(∀p∈N,p.1≠t)->M.Ns L m->L≠t->Q (.ret<|.ref t) {s with heap:=M,toks:=tk}):
  wpAny (model P.p P.w) A (handleBy (.ref a) env [.ExceptHandler (some<|.Name x np) (some nf) [.Return (some<|.Tuple [.Attribute (.Name nf q1) nw q2,.Attribute (.Name nf q3) na q4] kk q5) q6] pos]) Q E s:=by
 refine S.cls _ λnm q N0 bs sn sub ab col dd k0 k1 k2 k3 k5 mN hK hNs hi=>?_;have f:∀{fl l h},XS B l a C d fl env.locals L mt m h->Xp.StaysIn h:=λx b o e=>x.at_.stays b o<|G b o e;simp only[a8,Xv,Y1]at ox;refine wpAny_handleBy_cons (codeAny_handlers_test ?_) (by intro q;cases q);refine Name_function_global O hkx (loadGlobal_global (heg▸hg.keeps (f X)) S.glob<|am X.at_.obj λvs sl ho hsz ht=>wpAny_excMatches_sub_self (j.keeps (f X) _ _ hK) ho rfl (rfl) (codeAny_handlers_suite_as<|sy (s:=s) X.at_ λh1 y1 z1=>?_)) ox.1;have y:=X.step y1 z1;refine wpAny_storeName_local w y.n (λF hn2 i=>?_) (by refine aa O ?_;rfl);have nl2:F.Ns L m:=by exact nJ y.nl λo es ep e1 r=>⟨o,es,ep,i.extBut _ _ v e1,r⟩
 have F2:Fr Xp env.locals F (λz=>if z=nf then some (Value.ref a)else mt z):=⟨hn2,λb o e=>i.extBut _ _ (λz=>by rw[z]at e;have:=G _ _ e;rw[H]at this;exact cE this nt)<|f y b o e,I⟩;have N2:News Xp env.locals F N:=λp g=>⟨i.extBut _ _ (hN p g).1<|y.at_.stays _ _<|W p g,hN p g⟩;refine am y.at_.obj λvs1 sl1 ho1 _ _=>?_;have hd2:=i.extBut _ _ (λz=>by rw[z,H]at u;exact cE u nt)<|y.at_.stays _ _ u;refine nJ nl2 λoL U T hL rL=>?_;have NL:News Xp env.locals F<|(L,oL)::N:=λp g=>by
  rcases XE.mp g with rfl|g
  ·exact⟨hL,v,Y⟩
  ·exact N2 p g
 refine NG (s:={s with toks:=_}) S j F2 (by simp) NL (i.extBut _ _ hat ho1) hd2 D g2 hu1 hu2 O w of λh3 tk3 F3 R=>wpAny_nameGoes w F3.ns (by refine aa O ?_;rfl) λh4 m4 hn4 J=>?_;have c:∀b o,b≠env.locals->h3.get? b=some o->h4.get? b=some o:=λb o hb e=>J.extBut _ _ hb e;refine k F.objs.size h4 _ m4 (F3.set hn4 J) (λp g=>?_) (λp g=>Yd<|YA (N2 p g).1) ⟨oL,U,T,c _ _ v (R _<|.tail _<|.head _).1,rL⟩<|Yd<|YA hL;rcases XE.mp g with rfl|g
 ·have z:=R _<|List.Mem.head _
  exact⟨c _ _ z.2.1 z.1,z.2⟩
 ·have z:=R p<|.tail _<|.tail _ g
  exact⟨c _ _ z.2.1 z.1,z.2⟩
end
noncomputable def gX:Rs->V
 | .v r=>.t [.s [],r]
 | .e a b=>.t [a,b]
structure sZ(P:bi)(nw na nf fr fx:Str)(vars:List Str)(scope:Scope)(body:List Stmt)(qual:Str)(Zm:Value):Prop where
 fn:pn P 62 vars 3 scope body qual Zm
 len:vars.length=3
 d:∀x∈vars,a8 x=true
 n:scope.names.lookup nf=some .local
 e:a8 nf=true
 f:P.a 48=some fr
 c:scope.names.lookup fr=some .globalImplicit
 a:a8 fr=true
 b:scope.names.lookup fx=some .globalImplicit
 o:a8 fx=true
 body:∀Z:Prop,(∀kc abf aa0 p3 p4 p5 p6 kk p7 p8 np q1 q2 q3 q4 kk' q5 q6 pos p9,body=[.Try [.Return (some<|.Tuple [.Constant (.str<|S2 []) kc abf,.Call (.Name fr aa0) [.Name (vars.getD 0 Str.empty) p3,.Name (vars.getD 1 Str.empty) p4,.Name (vars.getD 2 Str.empty) p5] [] p6] kk p7) p8]
  [.ExceptHandler (some<|.Name fx np) (some nf) [.Return (some<|.Tuple [.Attribute (.Name nf q1) nw q2,.Attribute (.Name nf q3) na q4] kk' q5) q6] pos] [] [] p9]->Z)->Z
def vR {h:Heap}(x:h.objs.size<=b):h.get? b=none:=by
 cases q:h.get? b with
 |none=>rfl
 |some o=>exact Xw (XO (YA q) x)<|lt_irrefl _
def gp {h:Heap}{o:Obj}(x:h.get? b=none)(y:h.get? c=some o):c≠b:=λe=>by rw[e,x]at y;exact cE y nt
def HK (e:h.get? b=some o)(n1:b≠c)(n:b≠d)(i:b≠f)(j:b≠g):(hideAll h [c,d,f,g]).get? b=some o:=
 hideAll_get _ e λa=>by simp at a;exact a.elim n1 λh=>h.elim n λh=>h.elim i j
section
variable{nw na nf fx:Str}{m mt m2:Str->Option Value}{np pos q1 q2 q3 q4 q5 q6:Pos}
def zU (XF:XK P C C1 fI fx nw na)(W:m7 P d)(S:St P r B m2 j N H s)(z:∀b o,P.Z.h.get? b=some o->d.get? b=some o)(up:∀b o,d.get? b=some o->r.get? b=some o)(uT:d.objs.size<=env.locals)(u:d.objs.size<=L)(nT:env.locals≠L)
  (g:∃o,r.get? env.locals=some o) (w:∃o,r.get? L=some o) (hd:s.heap.get? v=some (dictOf es n)) (e1:getL nw es=some (some T)) (e2:getL na es=some (some U)) (V1:bY j N x T) (V2:bY j N y U) (ga:r.get? a=none) (gd:r.get? v=none) (dL:v≠B) (nN:∀p∈N,p.1≠a/\p.1≠v) (ad:a≠v)
  (hf:env.frame=some env.locals) (J:env.globals=mainGlobals) (hk:env.scope.kind=.function) (O:env.kindOf fx=some .globalImplicit) (M:env.kindOf nf=some .local) (ox:a8 fx=true) (of:a8 nf=true)
  (X:XS (hideAll s.heap [a,B,env.locals,L]) l a C v .none env.locals L mt m h6)
  (k:∀t s' F,St P d L m j F H s'->a5 aO j N j F->bY j F (.t [x,y]) t->Q (.ret t) s'):
  wpAny (model P.p P.w) Ab (handleBy (.ref a) env [.ExceptHandler (some<|.Name fx np) (some nf) [.Return (some<|.Tuple [.Attribute (.Name nf q1) nw q2,.Attribute (.Name nf q3) na q4] kk q5) q6] pos]) Q E {s with heap:=h6}:=by
 refine Xq g λoT g=>Xq w λoL w=>?_;have lL:=vR u;refine EN (N:=N) (m:=m) (mt:=mt) XF W.K W.g (λb o q=>?_) (λp f=>?_) (HK hd (X0 ad) dL (gp gd g).symm (gp gd w).symm) (λp f=>⟨(gp (S.g _ f).2.2 g).symm,?_⟩) uT (hideAll_none _<|by simp) (gp ga g).symm (X0 nT) lL e1 e2 V1.handed V2.handed hf J hk O M ox of X λt I tk m' F7 N7 tN R D=>?_
 ·exact HK (S.F.keep _ _<|up _ _ q) (gp ga<|up _ _ q) (gp (vR S.F.above:r.get? B=none)<|up _ _ q) (gp (vR uT) q)<|gp lL q
 ·have q2:=(S.g p f).2.2
  exact HK (S.g p f).1 (nN p f).1 (S.g p f).2.1 (gp q2 g).symm (gp q2 w).symm
 ·have q2:=(S.g p f).2.2
  cases q:d.get? p.1 with
  |none=>rfl
  |some o=>have:=up _ _ q;rw[q2]at this;exact cE this nt
 ·have Y:Fr d L I m:=⟨R,F7.keep,u⟩
  have A:a5 aO j N j<|(t,jn [T,U] 0)::N:=⟨⟨[],(Ys _).symm⟩,λp f _ _=>.tail _ f,λ_ _ h=>h⟩;have G:News d L I<|(t,jn [T,U] 0)::N:=λp f=>⟨(N7 p f).1,(XE.mp f).elim (λe=>e▸X0 D) λf=>(gp (S.g p f).2.2 w).symm,(N7 p f).2.2⟩;have Sn:St P d L m j N H {s with heap:=I,toks:=tk}:=⟨Y,λp f=>G p<|.tail _ f,S.j,S.rep,S.sep,z,S.env⟩;exact k (.ref t) _ _ ⟨Y,G,X9.mpr ⟨λhm=>(Yp.mp hm).elim λp h=>tN p h.1 h.2,S.j⟩,⟨S.rep.1,λi c o hi ho=>(S.rep.2 i c o hi ho).XW A λp f _=>.tail _ f⟩,S.sep,z,S.env⟩ A ⟨_,_,_,rfl,.head _,Sn.aae tN (G _<|.head _).2.2,⟨_,_,rfl,V1.XW A,XH.one<|V2.XW A⟩⟩
end
section
variable{P:bi}{cl:Cl}{lp:Zx}{C C1 fI:Addr}{nw na nf fr fx:Str}{vars:List Str}{scope:Scope}{body:List Stmt}{qual:Str}{Zm:Value}
def He {d:Type}{l:List d}(h:l.length=3):∃a b c,l=[a,b,c]:=by refine cT (aa2 h) λa t e=>?_;subst e;refine cT (aa2<|Nat.succ.inj h) λb u e=>?_;subst e;refine cT (aa2<|Nat.succ.inj<|Nat.succ.inj h) λc v e=>?_;subst e;exact⟨a,b,c,aa (Z0<|Nat.succ.inj<|Nat.succ.inj<|Nat.succ.inj h) rfl⟩
def Dl (XF:XK P C C1 fI fx nw na)(TF:sZ P nw na nf fr fx vars scope body qual Zm)(hkn:mH P){d:Nat}{f:Fn}{B:List Str}{c:Scope}{w:List Stmt}{k:Str}{r:Value}(hf3:f.p=3)(CF:nc P 48 B f.p c w k r)
  (hcl:∀A h L m,uj P A h L d->jK P cl A h L m) (W:mX P d cl lp (KW P C nw na) 48 f B c w k r)
  {env j:Env}{A' Ab:Around}{h g:Heap}{L:Addr}{m mt:Str->Option Value} (X:EX P (λ_ _ _=>none) Ab env g env.locals mt ⟨vars,scope.names⟩) (Cb:uj P Ab g env.locals<|d+1) (BG:Below A' h [j] g) (Y:Ab.frames=some [env,j]) (hf:env.frame=some env.locals) (hef:j.frame=some L)
  (Bs:m7 P h) (FG:Fr h L g m) (st:h.StaysIn g) (nT:env.locals≠L) (uT:h.objs.size<=env.locals) {ρ:Yn}{N:Led}{H H':Hp}{s:Shared}{v0 v1 v2:V} (S:St P g env.locals mt ρ N H s) (old:∀b o,P.Z.h.get? b=some o->h.get? b=some o) (Lg:rj env env.locals mt vars ρ N [some v0,some v1,some v2])
  {rs:Rs} (F:dy (XU cl lp ([v0,v1,v2].map some++List.replicate (f.vars-f.p) none) H f.body)=some (rs,H')) {Q:Flow->Shared->Prop}{E:Value->Shared->Prop}{R:Result->Shared->Prop}
  (lv:∀v s',LeaveK h L m g R v s'->R (.ok<|.ret v) s') (kQ:∀v s',R (.ok<|.ret v) s'->Q (.ret v) s') (hR:∀u s' Zl N',St P h L m Zl N' H' s'->a5 aO ρ N Zl N'->bY Zl N' (gX rs) u->R (.ok<|.ret u) s')
  (kE:∀x y a D es n w1 w2 t U T G m2 l I,rs=.e x y->St P T G m2 l I H' t->Fr g env.locals T mt->g.StaysIn T->a5 aO ρ N l I->t.heap.get? D=some (dictOf es n)->getL nw es=some (some w1)->getL na es=some (some w2)->bY l I x w1->bY l I y w2->
   T.get? a=none->T.get? D=none->D≠G->(∀p∈I,p.1≠a/\p.1≠D)->a≠D->BK (hideAll t.heap [a,G,env.locals,L]) [env,j] a C D .none U->t.heap.UpToSlots U->E (.ref a) {t with heap:=U})
  {kc:Nat}{M aa0 p3 p4 p5 p6:Pos}{kk:Nat}{p7 p8:Pos}:
  wpAny (model P.p P.w) Ab (execs [.Return (some<|.Tuple [.Constant (.str<|S2 []) kc M,.Call (.Name fr aa0) [.Name (vars.getD 0 Str.empty) p3,.Name (vars.getD 1 Str.empty) p4,.Name (vars.getD 2 Str.empty) p5] [] p6] kk p7) p8] env) Q E s:=by
 have J:∀i,i<3->vars[i]?=some (vars.getD i Str.empty):=λi hi=>by refine aa (Yq)<|aa (XQ<|by rw[TF.len];exact hi) ?_;rfl
 have hn:∀i,i<3->∀p,ar P (λ_ _ _=>none) Ab env g env.locals mt ⟨vars,scope.names⟩ (.Name (vars.getD i Str.empty) p)<|.v i:=λi hi p=>xm X _ _ i (J i hi)<|TF.d _<|YQ<|J i hi;have kf:=hkn.fn 48 fr TF.f;refine Zn<|wpAny_Return_some<|Tuple_<|Y0 (xV X _ [] rfl kc M S Lg rfl λuc s1 ρ1 N1 S1 E1 V1=>Y0 (Call_ (wb X S1 TF.c TF.a kf.2 ?_)<|by rfl)<|ap rfl _ _)<|ap rfl _ _;refine gj X (first:=[]) kf.1 (by rfl) (gf X rfl (hn 0 (by decide) p3) (gf X rfl (hn 1 (by decide) p4) (gf X rfl (hn 2 (by decide) p5) (t4 X)))) rfl S1 (Lg.ext E1) (vs:=[v0,v1,v2]) (H':=H) rfl λus' s2 ρ2 N2 S2 E2 V2=>wpAny_call<|te CF hkn hcl W Ab g env.locals mt Cb A' h [j] env BG Y hf X.g (by refine aa hf3 ?_;rfl) F S2 V2 _ _ (.inl rfl) (λv u t l I er O E3 V3=>?_) λx y e t T G m2 l I er B2 FG2 st2 E3 XX=>?_
 ·subst er
  refine args_nil (newTuple_N O.F O.g (λU F4 N4=>?_)<|by refine aa sizeLine_eq ?_;show 2<=_;exact Yb rfl);have ex:=O.YV (a:=t.heap.objs.size) (o:=jn [uc,u] 0)<|XC _;have z:=O.push (s':={t with heap:=U}) (XC _) F4 N4;exact kQ _ _<|lv _ _<|leaveK_ F4 N4 λF5 N5=>hR _ _ l _ ⟨F5,N5,z.j,z.rep,z.sep,old,z.env⟩ (((E1.trans E2).trans E3).trans ex.1) ⟨_,_,_,rfl,.head _,ex.2,⟨_,_,rfl,V1.XW<|(E2.trans E3).trans ex.1,XH.one<|V3.XW ex.1⟩⟩
 ·clear hR;subst er
  refine XX _ λO a D es n vs' w1 w2 e0 ho hsz h1 hd abq g2' V1' V2' ga gd aL dL nN ad=>?_;clear XX;subst e0;have K3:=pushX B2 O.F (env:=envOfC k c G (P.f 48) r) rfl CF.kind;have X3:BK (hideAll t.heap [a,G,env.locals,L]) [envOfC k c G (P.f 48) r,env,j] a C D .none t.heap:=by
   refine⟨λb o q=>of_hideAll _ q,funFrames_hide K3.frames λenv F b W=>?_,hideAll_none _<|.head _,vs',#[],ho,hsz,.inl h1⟩;rcases XE.mp F with e|F
   ·subst e;cases W;simp
   ·rcases XE.mp F with e|F
    ·clear B2 Cb FG2 K3 Lg S S1 S2 X hn Y kE nT uT;subst e;rw[hf]at W;cases W;simp
    ·rcases XE.mp F with e|F
     ·clear B2 BG K3 Y kE;subst e;rw[hef]at W;cases W;simp
     ·exact Xw F XY
  exact JE K3.stack rfl X3 λU y4 z4=>kE x y a D es n w1 w2 t U T G m2 l I rfl O FG2 st2 ((E1.trans E2).trans E3) hd abq g2' V1' V2' ga gd dL nN ad y4 z4
def C8 (XF:XK P C C1 fI fx nw na)(T:sZ P nw na nf fr fx vars scope body qual Zm)(hkn:mH P){d:Nat}{f:Fn}{r:List Str}{i:Scope}{j:List Stmt}{l:Str}{w:Value}(hf3:f.p=3)(CF:nc P 48 r f.p i j l w)
  (hcl:∀A c L m,uj P A c L d->jK P cl A c L m) (hb:mX P d cl lp (KW P C nw na) 48 f r i j l w)
  {e k:Env}{A' U:Around}{c g:Heap}{L:Addr}{m mt:Str->Option Value} (X:EX P (λ_ _ _=>none) U e g e.locals mt ⟨vars,scope.names⟩) (Cb:uj P U g e.locals<|d+1) (BG:Below A' c [k] g) (I:U.frames=some [e,k]) (hf:e.frame=some e.locals) (hef:k.frame=some L)
  (Bs:m7 P c) (W:Fr c L g m) (st:c.StaysIn g) (nT:e.locals≠L) (uT:c.objs.size<=e.locals) {ρ:Yn}{N:Led}{H H':Hp}{s:Shared}{v0 v1 v2:V} (S:St P g e.locals mt ρ N H s) (J:∀b o,P.Z.h.get? b=some o->c.get? b=some o) (Lg:rj e e.locals mt vars ρ N [some v0,some v1,some v2])
  {rs:Rs} (he:dy (XU cl lp ([v0,v1,v2].map some++List.replicate (f.vars-f.p) none) H f.body)=some (rs,H')) {Q:Flow->Shared->Prop}{E:Value->Shared->Prop}{R:Result->Shared->Prop}
  (lv:∀v p,LeaveK c L m g R v p->R (.ok<|.ret v) p) (kQ:∀v p,R (.ok<|.ret v) p->Q (.ret v) p) (hR:∀u p B D,St P c L m B D H' p->a5 aO ρ N B D->bY B D (gX rs) u->R (.ok<|.ret u) p)
  {kc:Nat}{M O p3 p4 p5 p6:Pos}{kk:Nat}{p7 p8 np q1 q2 q3 q4:Pos}{kk':Nat}{q5 q6 pos p9:Pos}:
  wpAny (model P.p P.w) U (execs [.Try [.Return (some<|.Tuple [.Constant (.str<|S2 []) kc M,.Call (.Name fr O) [.Name (vars.getD 0 Str.empty) p3,.Name (vars.getD 1 Str.empty) p4,.Name (vars.getD 2 Str.empty) p5] [] p6] kk p7) p8]
  [.ExceptHandler (some<|.Name fx np) (some nf) [.Return (some<|.Tuple [.Attribute (.Name nf q1) nw q2,.Attribute (.Name nf q3) na q4] kk' q5) q6] pos] [] [] p9] e) Q E s:=by
 refine Zn<|wpAny_Try_except<|Dl XF T hkn hf3 CF hcl hb X Cb BG I hf hef Bs W st nT uT S J Lg he lv ?_ hR λx y a dd es n w1 w2 s3 h4 g2 L2 m2 ρ3 N3 er Y F z E3 hd G g2' V1' V2' ga gd dL nN ad y4 z4=>?_
 ·exactλv p h=>kQ v p h
 clear he;subst er;refine Ft (B:=hideAll s3.heap [a,L2,e.locals,L]) (s:={s3 with heap:=h4}) I hf y4 (rfl) λh5 y5 z5=>sy y5 λh6 y6 z6=>?_;have sm:=(z4.trans z5).trans z6;exact zU (s:=s3) XF Bs Y J (λb o q=>z _ _<|st _ _ q) uT W.above nT (F.ns.elim λo h=>⟨o,h.elim λ_ h=>h.elim λ_ h=>h.1⟩) (W.ns.elim λo h=>⟨o,h.elim λ_ h=>h.elim λ_ h=>z _ _ h.1⟩) hd G g2' V1' V2' ga gd dL nN ad hf X.c X.g (by show e.scope.names.lookup fx=_;refine aa X.b ?_;exact T.b) (by show e.scope.names.lookup nf=_;refine aa X.b ?_;exact T.n) T.o T.e ⟨y6,sm.ns<|F.ns.keeps Y.F.keep,sm.ns<|(W.ns.keeps z).keeps Y.F.keep⟩ λt p D S' E' V'=>kQ _ _<|hR _ _ ρ3 D S' (E3.trans E') V'
def Db (XF:XK P C C1 fI fx nw na)(TF:sZ P nw na nf fr fx vars scope body qual Zm)(hkn:mH P){d:Nat}{f:Fn}{D:List Str}{j:Scope}{n:List Stmt}{x:Str}{J:Value}(hf3:f.p=3)(CF:nc P 48 D f.p j n x J)
  (hcl:∀A c L m,uj P A c L d->jK P cl A c L m) (hb:mX P d cl lp (KW P C nw na) 48 f D j n x J)
  {A U:Around}{c:Heap}{L:Addr}{m:Str->Option Value}{g:Env} (I:uj P A c L<|d+2) (B:Below U c [] c) (O:A.frames=some [g]) (hef:g.frame=some L) (hek:g.scope.kind=.function)
  {vs:List V}{H H':Hp}{rs:Rs}{ρ:Yn}{N:Led}{s:Shared}{G:List Value} (r:vs.length=3) (he:dy (XU cl lp (vs.map some++List.replicate (f.vars-f.p) none) H f.body)=some (rs,H')) (S:St P c L m ρ N H s) (hv:XH ρ N vs G)
  {l:Around}{R:Result->Shared->Prop} (hA':Dp A l) (hR:∀u s' T N',St P c L m T N' H' s'->a5 aO ρ N T N'->bY T N' (gX rs) u->R (.ok<|.ret u) s'):
  codeAny (model P.p P.w) l (.call (.ref<|P.f 62) ⟨G,[]⟩) R s:=by
 refine cps λC Q=>?_;obtain⟨v0,v1,v2,e3⟩:=He r;subst e3;refine tm hA'.facts λn1 n2 n3 n4=>?_;have E:=TF.fn;refine E.ex _ λname F Y kV doc pm an ct oc od osl hK M=>?_;have KI:=I.base.K.keeps S.F.keep;have el:=hv.length;refine tm (groundX (R:=R) B S.F S.g (n2.trans O) hef hek) λFG BG st lv=>?_;have z9:=E.kind;refine Q<|codeAny_call_def (fd:=fnX name qual F body scope [] Y kV doc pm an Zm ct) (body:=body) (binds:=(vars.take 3).zip G) (by have:=I.room;have:recursionLimit=1000:=rfl;exact oN 0x104f84709a3609af13033dfd0e0879b0b44c0065b tq ‹_› ‹_› ‹_›) (KI _ _ hK) rfl (I.base.nolimit.keeps S.F.keep) (codeRec_of KI E.code) rfl (M s G<|el.trans r) E.n (λy hy=>?_) (λt hns q=>?_) E.c E.gen z9
 ·have hm:y.1∈vars.take 3:=(of_mem_zip hy).1
  exact E.loc _<|ZD hm
 have W:Fr (hideAll s.heap<|N.map (·.1)) s.heap.objs.size t (λy=>((vars.take 3).zip G).reverse.lookup y):=⟨hns,λb o e=>q b o<|of_hideAll _ e,Y3<|hideAll_size _ _⟩;have NT:News (hideAll s.heap<|N.map (·.1)) s.heap.objs.size t N:=λp hp=>⟨q _ _ (S.g p hp).1,Yd<|YA (S.g p hp).1,hideAll_none _<|Y7 hp⟩;show wpAny (model P.p P.w) (l.deeper<|envX qual scope s.heap.objs.size (P.f 62) Zm []) (execs body<|envX qual scope s.heap.objs.size (P.f 62) Zm []) _ _ _;have nL:s.heap.objs.size≠L:=by exact cps λC Q=>nJ S.F.ns λo _ _ ho _=>Q<|XB<|YA ho
 have aep:c.objs.size<=s.heap.objs.size:=by exact cps λC Q=>nJ S.F.ns λo _ _ ho _=>Q<|YR<|Yc S.F.above<|YA ho
 have Cb:uj P (l.deeper<|envX qual scope s.heap.objs.size (P.f 62) Zm []) (hideAll s.heap<|N.map (·.1)) s.heap.objs.size<|d+1:=⟨I.base.keeps st,by show l.handled=_;refine aa n1 ?_;exact I.h,by show l.depth+1+_<_;have:=I.room;exact ba 0x708e0b42c135e16818c9f08e1342c135e26067b0b44c0065b tq n3 this,by show l.units+3+_+_<_;have:=I.units;exact oN 0x990705a1621af1b40c63262641c2685886bc6c6067b2346c0065b tq n4 this,
   λ_ z=>z l c ([g]) _ BG (by show l.frames.map _=_;refine aa n2<|aa O ?_;rfl) rfl z9⟩
 have X:EX P (λ_ _ _=>none) (l.deeper<|envX qual scope s.heap.objs.size (P.f 62) Zm []) (envX qual scope s.heap.objs.size (P.f 62) Zm []) (hideAll s.heap<|N.map (·.1)) s.heap.objs.size (λy=>((vars.take 3).zip G).reverse.lookup y) ⟨vars,scope.names⟩:=
  ⟨z9,rfl,rfl,rfl,Cb.base,Cb.h,by have:=Cb.units;exact ba 0x990e03261641c1689886bc0c6067b tq this,(by intro k vs H H' v ρ N s G h;exact cE h nt),hkn⟩
 have Lg:rj (envX qual scope s.heap.objs.size (P.f 62) Zm []) s.heap.objs.size (λy=>((vars.take 3).zip G).reverse.lookup y) vars ρ N<|[v0,v1,v2].map some:=λi w hi=>by
  have hw:[v0,v1,v2][i]?=some w:=by rw[YN]at hi;refine ag (Yv.mp hi) λa h1 h2=>?_;cases h2;exact h1
  have hi3:i<3:=r▸(Yl.mp hw).1;refine ag (hv.get hw) λu hu hz=>?_;have hx:vars[i]?=some (vars[i]'(by refine aa TF.len ?_;exact hi3)):=XQ _;exact⟨_,u,hx,hz,.inl ⟨E.loc _<|YQ hx,rfl,di (E.j.sublist<|Z1 _ _) (by refine aa (getElem?_take_of_lt hi3) ?_;exact hx) hu⟩⟩
 exact cps λC Q=>TF.body _ λkc abf aa0 p3 p4 p5 p6 kk p7 p8 np q1 q2 q3 q4 kk' q5 q6 pos p9 eb=>Q<|aa eb<|C8 XF TF hkn hf3 CF hcl hb X Cb BG (by show l.frames.map _=_;refine aa n2<|aa O ?_;rfl) rfl hef I.base FG st nL aep (s:={s with heap:=t,toks:=s.toks+((vars.take 3).zip G).length}) ⟨W,NT,S.j,S.rep,S.sep,λb o e=>st b o<|S.old b o e,S.env⟩ S.old Lg he lv (λ_ _ h=>h) hR
end
end Mine
end
section
namespace Mine
noncomputable def gQ:Fn:=⟨3,3,[
 .f (.v 0) 12 (.v 1),
 .f (.v 0) 6 (.v 2)]⟩
noncomputable def sI:Fn:=⟨0,0,[
 .r (.p [.s [65,82,82,65,89],.s [66,69,71,73,78],.s [66,89],.s [67,65,83,69],.s [67,79,78,83,84],.s [68,73,86],.s [68,79],.s [69,76,83,69],.s [69,76,83,73,70],.s [69,78,68],.s [70,79,82],.s [73,70],.s [73,77,80,79,82,84],.s [73,78],.s [73,83],.s [77,79,68],.s [77,79,68,85,76,69],.s [78,73,76],.s [79,70],.s [79,82],.s [80,79,73,78,84,69,82],.s [80,82,79,67,69,68,85,82,69],.s [82,69,67,79,82,68],.s [82,69,80,69,65,84],.s [82,69,84,85,82,78],.s [84,72,69,78],.s [84,79],.s [84,89,80,69],.s [85,78,84,73,76],.s [86,65,82],.s [87,72,73,76,69]])]⟩
noncomputable def kJ:Fn:=⟨1,1,[
 .r (.or [.a [.q .le (.s [97])<|.v 0,.q .le (.v 0)<|.s [122]],.a [.q .le (.s [65])<|.v 0,.q .le (.v 0)<|.s [90]]])]⟩
noncomputable def nD:Fn:=⟨1,1,[
 .r (.a [.q .le (.s [48])<|.v 0,.q .le (.v 0)<|.s [57]])]⟩
noncomputable def gu:Fn:=⟨1,1,[
 .r (.or [.c 2 [.v 0],.a [.q .le (.s [65])<|.v 0,.q .le (.v 0)<|.s [70]]])]⟩
noncomputable def ij:Fn:=⟨4,4,[
 .f (.v 0) 0 (.v 1),
 .f (.v 0) 1 (.v 2),
 .f (.v 0) 2 (.v 3)]⟩
noncomputable def oU:MS:=.w (.a [.q .l (.v 1)<|.n<|.v 0,.q .le (.ord<|.t (.v 0)<|.v 1)<|.i 32]) [.s 1<|.o .a (.v 1)<|.i 1]
noncomputable def uR:Fn:=⟨2,2,[
 oU,
 .r (.v 1)]⟩
noncomputable def kp:MS:=.w (.q .l (.v 1)<|.n<|.v 0) [.s 3<|.S (.v 0) (.v 1)<|.o .a (.v 1)<|.i 2,.i (.q .e (.v 3)<|.s [40,42]) [.s 2<|.o .a (.v 2)<|.i 1,.s 1<|.o .a (.v 1)<|.i 2] [.i (.q .e (.v 3)<|.s [42,41]) [.s 2<|.o .s (.v 2)<|.i 1,.s 1<|.o .a (.v 1)<|.i 2,.i (.q .e (.v 2)<|.i 0) [.r<|.v 1] []] [.s 1<|.o .a (.v 1)<|.i 1]]]
noncomputable def vG:Fn:=⟨2,4,[
 .s 2 (.i 0),
 kp,
 .r (.i<|-1)]⟩
noncomputable def rg:MS:=.w (.a [.q .l (.v 2)<|.n<|.v 0,.q .n (.t (.v 0)<|.v 2)<|.s [10]]) [.i (.q .e (.t (.v 0)<|.v 2)<|.s [34]) [.r<|.o .a (.v 2)<|.i 1] [],.s 2<|.o .a (.v 2)<|.i 1]
noncomputable def wR:Fn:=⟨2,3,[
 .s 2 (.o .a (.v 1)<|.i 1),
 rg,
 .r (.i<|-1)]⟩
noncomputable def mJ:MS:=.w (.or [.c 1 [.S (.v 0) (.v 1)<|.o .a (.v 1)<|.i 1],.c 2 [.S (.v 0) (.v 1)<|.o .a (.v 1)<|.i 1]]) [.s 1<|.o .a (.v 1)<|.i 1]
noncomputable def ua:Fn:=⟨2,2,[
 mJ,
 .r (.v 1)]⟩
noncomputable def kw:MS:=.w (.c 2 [.S (.v 0) (.v 1)<|.o .a (.v 1)<|.i 1]) [.s 1<|.o .a (.v 1)<|.i 1]
noncomputable def wl:Fn:=⟨2,2,[
 kw,
 .r (.v 1)]⟩
noncomputable def kz:MS:=.w (.c 3 [.S (.v 0) (.v 2)<|.o .a (.v 2)<|.i 1]) [.s 2<|.o .a (.v 2)<|.i 1]
noncomputable def vQ:Fn:=⟨2,5,[
 .s 2 (.v 1),
 kz,
 .i (.q .i (.S (.v 0) (.v 2)<|.o .a (.v 2)<|.i 1)<|.p [.s [72],.s [88]]) [.r<|.o .a (.v 2)<|.i 1] [],
 .s 2 (.c 8 [.v 0,.v 1]),
 .i (.or [.q .n (.S (.v 0) (.v 2)<|.o .a (.v 2)<|.i 1)<|.s [46],.q .e (.S (.v 0) (.o .a (.v 2)<|.i 1)<|.o .a (.v 2)<|.i 2)<|.s [46]]) [.r<|.v 2] [],
 .s 2 (.c 8 [.v 0,.o .a (.v 2)<|.i 1]),
 .i (.q .n (.S (.v 0) (.v 2)<|.o .a (.v 2)<|.i 1)<|.s [69]) [.r<|.v 2] [],
 .s 3 (.o .a (.v 2)<|.i 1),
 .i (.q .i (.S (.v 0) (.v 3)<|.o .a (.v 3)<|.i 1)<|.p [.s [43],.s [45]]) [.s 3<|.o .a (.v 3)<|.i 1] [],
 .s 4 (.c 8 [.v 0,.v 3]),
 .r (.e (.q .e (.v 4)<|.v 3) (.v 2)<|.v 4)]⟩
noncomputable def AA:Fn:=⟨2,2,[
 .i (.q .i (.S (.v 0) (.v 1)<|.o .a (.v 1)<|.i 2)<|.p [.s [58,61],.s [60,61],.s [62,61],.s [46,46]]) [.r<|.o .a (.v 1)<|.i 2] [],
 .i (.q .i (.t (.v 0)<|.v 1)<|.s [43,45,42,47,126,38,46,44,59,124,40,91,123,94,61,35,60,62,58,41,93,125]) [.r<|.o .a (.v 1)<|.i 1] [],
 .r (.v 1)]⟩
noncomputable def uv:MS:=.w (.a [.q .l (.v 1)<|.n<|.v 0,.q .n (.t (.v 0)<|.v 1)<|.s [10]]) [.s 1<|.o .a (.v 1)<|.i 1]
noncomputable def zd:Fn:=⟨2,2,[
 uv,
 .r (.v 1)]⟩
noncomputable def Dk:Fn:=⟨3,6,[
 .s 3 (.t (.v 0)<|.v 1),
 .i (.q .le (.ord<|.v 3)<|.i 32) [.r<|.w 0 [.s [103,97,112],.S (.v 0) (.v 1)<|.c 4 [.v 0,.v 1],.v 1]] [],
 .i (.q .e (.S (.v 0) (.v 1)<|.o .a (.v 1)<|.i 2)<|.s [40,42]) [.s 4<|.c 5 [.v 0,.v 1],.i (.q .l (.v 4)<|.i 0) [.r<|.w 0 [.s [115,116,114,97,121],.X (.v 0)<|.v 1,.v 1]] [],.r<|.w 0 [.s [114,101,109,97,114,107],.S (.v 0) (.v 1)<|.v 4,.v 1]] [],
 .i (.c 1 [.v 3]) [.s 5<|.S (.v 0) (.v 1)<|.c 7 [.v 0,.v 1],.r<|.w 0 [.e (.q .i (.v 5)<|.v 2) (.s [119,111,114,100])<|.s [110,97,109,101],.v 5,.v 1]] [],
 .i (.c 2 [.v 3]) [.r<|.w 0 [.s [110,117,109,98,101,114],.S (.v 0) (.v 1)<|.c 9 [.v 0,.v 1],.v 1]] [],
 .i (.q .e (.v 3)<|.s [34]) [.s 4<|.c 6 [.v 0,.v 1],.i (.q .l (.v 4)<|.i 0) [.r<|.w 0 [.s [115,116,114,97,121],.S (.v 0) (.v 1)<|.c 11 [.v 0,.v 1],.v 1]] [],.r<|.w 0 [.s [116,101,120,116],.S (.v 0) (.v 1)<|.v 4,.v 1]] [],
 .s 4 (.c 10 [.v 0,.v 1]),
 .i (.q .g (.v 4)<|.v 1) [.r<|.w 0 [.s [115,105,103,110],.S (.v 0) (.v 1)<|.v 4,.v 1]] [],
 .r (.w 0 [.s [115,116,114,97,121],.v 3,.v 1])]⟩
noncomputable def im:MS:=.w (.q .l (.v 3)<|.n<|.v 0) [.s 4<|.c 12 [.v 0,.v 3,.v 1],.a (.v 2)<|.v 4,.s 3<|.o .a (.v 3)<|.n<|.f (.v 4) 1]
noncomputable def kO:Fn:=⟨1,5,[
 .s 1 (.c 0 []),
 .s 2 (.l []),
 .s 3 (.i 0),
 im,
 .r (.v 2)]⟩
noncomputable def Jx:Fn:=⟨1,1,[
 .r (.E (.v 0) (.v 0) (.q (.Zg ()) (.f (.v 0) 0)<|.p [.s [103,97,112],.s [114,101,109,97,114,107]]) [])]⟩
noncomputable def kr:Fn:=⟨0,0,[
 .r (.p [.s [65,66,83],.s [79,68,68],.s [76,69,78],.s [76,83,76],.s [65,83,82],.s [82,79,82],.s [79,82,68],.s [67,72,82]])]⟩
noncomputable def jo:Fn:=⟨0,0,[
 .r (.p [.s [73,78,67],.s [68,69,67],.s [73,78,67,76],.s [69,88,67,76],.s [78,69,87],.s [65,83,83,69,82,84]])]⟩
noncomputable def iB:Fn:=⟨4,4,[
 .f (.v 0) 2 (.v 1),
 .f (.v 0) 3 (.v 2),
 .f (.v 0) 4 (.v 3)]⟩
noncomputable def iW:MS:=.g 1 (.p [.s [66,79,79,76,69,65,78],.s [67,72,65,82],.s [66,89,84,69],.s [73,78,84,69,71,69,82],.s [83,69,84],.s [84,82,85,69],.s [70,65,76,83,69]]) [.t (.v 0) (.v 1)<|.i<|-1]
noncomputable def eZ:MS:=.g 1 (.o .a (.c 15 [])<|.c 16 []) [.t (.v 0) (.v 1)<|.i<|-1]
def iH:Fn:=⟨0,2,[
 .s 0 (.dS [] []),
 iW,
 eZ,
 .r (.v 0)]⟩
noncomputable def fM:Fn:=⟨2,2,[
 .f (.v 0) 5 (.v 1),
 .f (.v 0) 6 (.i 0),
 .f (.v 0) 7 (.l [.c 17 []]),
 .f (.v 0) 8 (.l []),
 .f (.v 0) 9 (.l []),
 .f (.v 0) 10 (.l []),
 .f (.v 0) 11 (.l [])]⟩
noncomputable def kq:Fn:=⟨1,1,[
 .i (.q .l (.f (.v 0) 6)<|.n<|.f (.v 0) 5) [.r<|.f (.t (.f (.v 0) 5)<|.f (.v 0) 6) 1] [],
 .r (.s [])]⟩
noncomputable def g6:Fn:=⟨1,1,[
 .r (.a [.q .l (.f (.v 0) 6)<|.n<|.f (.v 0) 5,.q .e (.f (.t (.f (.v 0) 5)<|.f (.v 0) 6) 0)<|.s [110,97,109,101]])]⟩
noncomputable def ri:Fn:=⟨1,2,[
 .s 1 (.i<|-1),
 .i (.q .l (.f (.v 0) 6)<|.n<|.f (.v 0) 5) [.s 1<|.f (.t (.f (.v 0) 5)<|.f (.v 0) 6) 2] [],
 .k]⟩
noncomputable def fD:Fn:=⟨2,2,[
 .i (.q .n (.m 18 (.v 0) [])<|.v 1) [.r<|.b false] [],
 .f (.v 0) 6 (.o .a (.f (.v 0) 6)<|.i 1),
 .r (.b true)]⟩
noncomputable def hW:Fn:=⟨2,2,[
 .i (.N<|.m 21 (.v 0) [.v 1]) [.x<|.m 20 (.v 0) []] []]⟩
noncomputable def kl:Fn:=⟨1,1,[
 .i (.N<|.m 19 (.v 0) []) [.x<|.m 20 (.v 0) []] [],
 .f (.v 0) 6 (.o .a (.f (.v 0) 6)<|.i 1),
 .r (.t (.f (.v 0) 5)<|.o .s (.f (.v 0) 6)<|.i 1)]⟩
noncomputable def dh:MS:=.aao 2 (.f (.v 0) 7) [.i (.q .i (.v 1)<|.v 2) [.r<|.t (.v 2)<|.v 1] []]
def ik:Fn:=⟨2,3,[
 dh,
 .r (.i<|-2)]⟩
noncomputable def d5:Fn:=⟨3,4,[
 .s 3 (.n<|.f (.v 0) 8),
 .a (.f (.v 0) 8) (.v 2),
 .i (.q .i (.f (.v 1) 1)<|.t (.f (.v 0) 7)<|.i<|-1) [.a (.f (.v 0) 10)<|.f (.v 1) 2] [.t (.t (.f (.v 0) 7)<|.i<|-1) (.f (.v 1) 1)<|.v 3],
 .a (.f (.v 0) 9) (.w 1 [.f (.v 1) 2,.f (.v 1) 1,.v 3]),
 .r (.v 3)]⟩
noncomputable def lE:Fn:=⟨2,2,[
 .a (.f (.v 0) 9) (.w 1 [.f (.v 1) 2,.f (.v 1) 1,.x (.m 24 (.v 0) [.f (.v 1) 1])<|.i<|-1])]⟩
noncomputable def fp:Fn:=⟨1,1,[
 .x (.m 26 (.v 0) [.m 23 (.v 0) []]),
 .i (.m 21 (.v 0) [.s [46]]) [.x<|.m 23 (.v 0) []] []]⟩
noncomputable def dM:MS:=.w (.or [.q .g (.v 2)<|.i 0,.q (.Zg ()) (.m 18 (.v 0) [])<|.v 1]) [.i (.q .ge (.f (.v 0) 6)<|.n<|.f (.v 0) 5) [.x<|.m 20 (.v 0) []] [],.s 3<|.t (.f (.v 0) 5)<|.f (.v 0) 6,.i (.a [.q .e (.f (.v 3) 0)<|.s [110,97,109,101],.q .n (.f (.t (.f (.v 0) 5)<|.o .s (.f (.v 0) 6)<|.i 1) 1)<|.s [46]]) [.x<|.m 26 (.v 0) [.v 3]] [],.i (.a [.q .i (.f (.v 3) 1)<|.p [.s [40],.s [91],.s [123]],.q .e (.f (.v 3) 0)<|.s [115,105,103,110]]) [.s 2<|.o .a (.v 2)<|.i 1] [.i (.a [.q .i (.f (.v 3) 1)<|.p [.s [41],.s [93],.s [125]],.q .e (.f (.v 3) 0)<|.s [115,105,103,110]]) [.s 2<|.o .s (.v 2)<|.i 1] []],.f (.v 0) 6<|.o .a (.f (.v 0) 6)<|.i 1]
noncomputable def eO:Fn:=⟨2,4,[
 .s 2 (.i 0),
 dM]⟩
noncomputable def dQ:MS:=.w (.or [.q .g (.v 1)<|.i 0,.q .n (.m 18 (.v 0) [])<|.s [69,78,68]]) [.s 2<|.m 18 (.v 0) [],.i (.q .i (.v 2)<|.p [.s [73,70],.s [67,65,83,69],.s [87,72,73,76,69],.s [70,79,82]]) [.s 1<|.o .a (.v 1)<|.i 1] [.i (.q .e (.v 2)<|.s [69,78,68]) [.s 1<|.o .s (.v 1)<|.i 1] []],.x<|.m 30 (.v 0) []]
noncomputable def eQ:Fn:=⟨1,3,[
 .s 1 (.i 0),
 dQ]⟩
noncomputable def cy:Fn:=⟨1,2,[
 .i (.q .ge (.f (.v 0) 6)<|.n<|.f (.v 0) 5) [.x<|.m 20 (.v 0) []] [],
 .s 1 (.t (.f (.v 0) 5)<|.f (.v 0) 6),
 .i (.a [.q .e (.f (.v 1) 0)<|.s [110,97,109,101],.q .n (.f (.t (.f (.v 0) 5)<|.o .s (.f (.v 0) 6)<|.i 1) 1)<|.s [46]]) [.x<|.m 26 (.v 0) [.v 1]] [],
 .f (.v 0) 6 (.o .a (.f (.v 0) 6)<|.i 1)]⟩
noncomputable def fy:MS:=.w (.m 21 (.v 0) [.s [44]]) [.x<|.m 32 (.v 0) []]
def hZ:Fn:=⟨1,1,[
 .x (.m 22 (.v 0) [.s [77,79,68,85,76,69]]),
 .x (.m 23 (.v 0) []),
 .x (.m 22 (.v 0) [.s [59]]),
 .a (.f (.v 0) 7) (.dS [] []),
 .i (.m 21 (.v 0) [.s [73,77,80,79,82,84]]) [.x<|.m 32 (.v 0) [],fy,.x<|.m 22 (.v 0) [.s [59]]] [],
 .x (.m 34 (.v 0) []),
 .x (.m 33 (.v 0) []),
 .x (.m 23 (.v 0) []),
 .x (.m 22 (.v 0) [.s [46]])]⟩
noncomputable def kF:Fn:=⟨1,2,[
 .s 1 (.m 23 (.v 0) []),
 .i (.m 21 (.v 0) [.s [58,61]]) [.x<|.m 23 (.v 0) [],.x<|.m 25 (.v 0) [.v 1,.s [97,108,105,97,115]]] [.x<|.m 25 (.v 0) [.v 1,.s [105,109,112,111,114,116]]]]⟩
noncomputable def rk:Fn:=⟨1,1,[
 .i (.m 21 (.v 0) [.s [66,69,71,73,78]]) [.x<|.m 29 (.v 0) []] [.i (.m 21 (.v 0) [.s [82,69,84,85,82,78]]) [.x<|.m 28 (.v 0) [.p [.s [69,78,68]]]] []],
 .x (.m 22 (.v 0) [.s [69,78,68]])]⟩
noncomputable def gY:MS:=.w (.m 19 (.v 0) []) [.x<|.m 36 (.v 0) []]
noncomputable def g4:MS:=.w (.m 19 (.v 0) []) [.x<|.m 37 (.v 0) []]
noncomputable def gS:MS:=.w (.m 19 (.v 0) []) [.x<|.m 38 (.v 0) []]
def al:MS:=.w (.b true) [.i (.m 21 (.v 0) [.s [67,79,78,83,84]]) [gY] [.i (.m 21 (.v 0) [.s [84,89,80,69]]) [g4,.x<|.m 42 (.v 0) []] [.i (.m 21 (.v 0) [.s [86,65,82]]) [gS,.x<|.m 42 (.v 0) []] [.i (.q .e (.m 18 (.v 0) [])<|.s [80,82,79,67,69,68,85,82,69]) [.x<|.m 44 (.v 0) [],.x<|.m 22 (.v 0) [.s [59]]] [.aaw]]]]]
def iY:Fn:=⟨1,1,[
 al]⟩
noncomputable def eo:Fn:=⟨1,2,[
 .s 1 (.m 23 (.v 0) []),
 .x (.m 21 (.v 0) [.s [42]]),
 .r (.v 1)]⟩
noncomputable def mw:Fn:=⟨1,2,[
 .s 1 (.m 35 (.v 0) []),
 .x (.m 22 (.v 0) [.s [61]]),
 .x (.m 28 (.v 0) [.p [.s [59]]]),
 .x (.m 22 (.v 0) [.s [59]]),
 .x (.m 25 (.v 0) [.v 1,.s [99,111,110,115,116]])]⟩
noncomputable def fU:Fn:=⟨1,2,[
 .s 1 (.m 35 (.v 0) []),
 .x (.m 25 (.v 0) [.v 1,.s [116,121,112,101]]),
 .x (.m 22 (.v 0) [.s [61]]),
 .x (.m 39 (.v 0) []),
 .x (.m 22 (.v 0) [.s [59]])]⟩
noncomputable def i8:MS:=.w (.m 21 (.v 0) [.s [44]]) [.a (.v 1)<|.m 35 (.v 0) []]
noncomputable def je:MS:=.g 2 (.v 1) [.x<|.m 25 (.v 0) [.v 2,.s [118,97,114]]]
def li:Fn:=⟨1,3,[
 .s 1 (.l [.m 35 (.v 0) []]),
 i8,
 .x (.m 22 (.v 0) [.s [58]]),
 .x (.m 39 (.v 0) []),
 .x (.m 22 (.v 0) [.s [59]]),
 je]⟩
noncomputable def ef:Fn:=⟨1,1,[
 .i (.m 21 (.v 0) [.s [65,82,82,65,89]]) [.x<|.m 28 (.v 0) [.p [.s [79,70]]],.x<|.m 22 (.v 0) [.s [79,70]],.x<|.m 39 (.v 0) []] [.i (.m 21 (.v 0) [.s [82,69,67,79,82,68]]) [.x<|.m 40 (.v 0) []] [.i (.m 21 (.v 0) [.s [80,79,73,78,84,69,82]]) [.x<|.m 22 (.v 0) [.s [84,79]],.x<|.m 41 (.v 0) []] [.i (.m 21 (.v 0) [.s [80,82,79,67,69,68,85,82,69]]) [.x<|.m 43 (.v 0) []] [.x<|.m 27 (.v 0) []]]]]]⟩
noncomputable def ll:MS:=.w (.m 21 (.v 0) [.s [44]]) [.x<|.m 35 (.v 0) []]
def lI:MS:=.w (.m 19 (.v 0) []) [.x<|.m 35 (.v 0) [],ll,.x<|.m 22 (.v 0) [.s [58]],.x<|.m 39 (.v 0) [],.x<|.m 21 (.v 0) [.s [59]]]
def oP:Fn:=⟨1,1,[
 .i (.m 21 (.v 0) [.s [40]]) [.x<|.m 27 (.v 0) [],.x<|.m 22 (.v 0) [.s [41]]] [],
 lI,
 .x (.m 22 (.v 0) [.s [69,78,68]])]⟩
noncomputable def gz:Fn:=⟨1,3,[
 .i (.a [.m 19 (.v 0) [],.q .e (.m 24 (.v 0) [.m 18 (.v 0) []])<|.i<|-2]) [.s 1<|.m 23 (.v 0) [],.s 2<|.w 1 [.f (.v 1) 2,.f (.v 1) 1,.i<|-1],.a (.f (.v 0) 9)<|.v 2,.a (.f (.v 0) 11)<|.v 2] [.x<|.m 39 (.v 0) []]]⟩
noncomputable def eR:MS:=.g 1 (.f (.v 0) 11) [.f (.v 1) 4<|.x (.m 24 (.v 0) [.f (.v 1) 3])<|.i<|-1]
def gU:Fn:=⟨1,2,[
 eR,
 .c (.f (.v 0) 11)]⟩
noncomputable def iF:MS:=.w (.m 21 (.v 0) [.s [44]]) [.a (.v 1)<|.m 23 (.v 0) []]
noncomputable def iP:MS:=.w (.m 21 (.v 0) [.s [65,82,82,65,89]]) [.x<|.m 22 (.v 0) [.s [79,70]]]
def iI:MS:=.w (.N<|.m 21 (.v 0) [.s [41]]) [.x<|.m 21 (.v 0) [.s [86,65,82]],.a (.v 1)<|.m 23 (.v 0) [],iF,.x<|.m 22 (.v 0) [.s [58]],iP,.x<|.m 27 (.v 0) [],.x<|.m 21 (.v 0) [.s [59]]]
def kI:Fn:=⟨1,2,[
 .s 1 (.l []),
 .i (.N<|.m 21 (.v 0) [.s [40]]) [.r<|.v 1] [],
 iI,
 .i (.m 21 (.v 0) [.s [58]]) [.x<|.m 27 (.v 0) []] [],
 .r (.v 1)]⟩
noncomputable def ee:MS:=.g 2 (.m 43 (.v 0) []) [.x<|.m 25 (.v 0) [.v 2,.s [112,97,114]]]
def kM:Fn:=⟨1,3,[
 .x (.m 22 (.v 0) [.s [80,82,79,67,69,68,85,82,69]]),
 .s 1 (.m 25 (.v 0) [.m 35 (.v 0) [],.s [112,114,111,99]]),
 .a (.f (.v 0) 7) (.dS [] []),
 ee,
 .x (.m 22 (.v 0) [.s [59]]),
 .x (.m 34 (.v 0) []),
 .x (.m 33 (.v 0) []),
 .s 2 (.m 23 (.v 0) []),
 .a (.f (.v 0) 9) (.w 1 [.f (.v 2) 2,.f (.v 2) 1,.v 1]),
 .x (.pop<|.f (.v 0) 7)]⟩
noncomputable def sf:Fn:=⟨1,2,[
 .s 1 (.w 2 [.c 14 [.v 0]]),
 .x (.m 31 (.v 1) []),
 .r (.v 1)]⟩
noncomputable def e4:MS:=.g 1 (.v 0) [.i (.a [.N<|.c 1 [.v 1],.N<|.c 2 [.v 1]]) [.r<|.b false] []]
def mQ:Fn:=⟨1,2,[
 .i (.or [.q .e (.v 0)<|.s [],.N<|.c 1 [.t (.v 0)<|.i 0],.q .i (.v 0)<|.c 0 []]) [.r<|.b false] [],
 e4,
 .r (.b true)]⟩
noncomputable def jH:Fn:=⟨1,2,[
 .s 1 (.k<|.C (.p [.f (.v 0) 2,.f (.v 0) 4]) (.f (.v 0) 9) []),
 .r (.C (.t (.v 0)<|.i 1) (.v 1) [])]⟩
noncomputable def lb:MS:=.g 6 (.f (.v 4) 9) [.i (.q .e (.f (.v 6) 2)<|.v 1) [.s 5<|.f (.v 6) 4] []]
noncomputable def lF:MS:=.g 6 (.f (.v 4) 9) [.i (.q .e (.f (.v 6) 4)<|.v 5) [.t (.v 7) (.f (.v 6) 2)<|.b true] []]
def bo:Fn:=⟨3,10,[
 .s 3 (.c 13 [.v 0]),
 .s 4 (.c 45 [.v 3]),
 .s 5 (.i<|-2),
 lb,
 .i (.q .e (.v 5)<|.i<|-2) [.e (.s [110,111,116,95,97,95,110,97,109,101])<|.v 1] [],
 .i (.q .e (.v 5)<|.i<|-1) [.e (.s [112,114,101,100,101,99,108,97,114,101,100])<|.v 1] [],
 .i (.q .e (.t (.f (.v 4) 8)<|.v 5)<|.s [105,109,112,111,114,116]) [.e (.s [105,109,112,111,114,116])<|.v 1] [],
 .i (.N<|.c 46 [.v 2]) [.e (.s [98,97,100,95,110,97,109,101])<|.v 1] [],
 .s 7 .dI,
 lF,
 .s 8 (.j<|.C (.e (.q .i (.f (.v 0) 2)<|.v 1) (.v 2)<|.f (.v 0) 1) (.v 3) [7,2]),
 .s 9 (.c 45 [.c 13 [.v 8]]),
 .i (.or [.q .n (.c 47 [.v 4])<|.c 47 [.v 9],.q .g (.n<|.f (.v 9) 10)<|.n<|.f (.v 4) 10]) [.e (.s [119,111,117,108,100,95,99,108,97,115,104])<|.v 1] [],
 .r (.v 8)]⟩
noncomputable def X2:MS:=.w (.a [.q .g (.v 3)<|.i 0,.q .l (.n<|.v 1)<|.i 300]) [.a (.v 1)<|.o .m (.v 3)<|.i 1000,.s 3<|.o (.fdiv ()) (.v 3)<|.i 1000]
def gW:MS:=.g 2 (.Y (.v 0)<|.i 50) [.s 3<|.e (.q .ge (.v 2)<|.i 0) (.v 2)<|.o .s (.i 1)<|.v 2,.a (.v 1)<|.o .m (.v 3)<|.i 1000,.s 3<|.o (.fdiv ()) (.v 3)<|.i 1000,X2]
def fv:Fn:=⟨1,5,[
 .s 1 (.l []),
 gW,
 .s 4 (.i 0),
 .i (.q .g (.n<|.v 0)<|.i 2) [.s 4<|.o .a (.i 1)<|.o .m (.u<|.v 1)<|.i 990] [],
 .rvs (.v 1),
 .r (.l [.v 1,.v 4])]⟩
noncomputable def j9:Fn:=⟨2,2,[
 .i (.q .n (.t (.v 0)<|.i 0)<|.l []) [.r<|.o .m (.pop<|.t (.v 0)<|.i 0)<|.v 1] [],
 .i (.q .g (.t (.v 0)<|.i 1)<|.i 0) [.t (.v 0) (.i 1)<|.x (.o .m (.o .a (.o .mul (.t (.v 0)<|.i 1)<|.i 29)<|.i 7)<|.i 997)<|.i 1] [],
 .r (.o .m (.t (.v 0)<|.i 1)<|.v 1)]⟩
noncomputable def sQ:Fn:=⟨2,2,[
 .a (.t (.v 0)<|.i 0) (.v 1),
 .u (.v 0) (.i 1) .a (.n<|.v 1)]⟩
noncomputable def r4:Fn:=⟨2,2,[
 .a (.t (.v 0)<|.i 2) (.p [.t (.v 0)<|.i 1,.v 1]),
 .x (.c 51 [.v 0,.v 1]),
 .r (.o .s (.n<|.t (.v 0)<|.i 2)<|.i 1)]⟩
noncomputable def uX:Fn:=⟨2,3,[
 .s 2 (.t (.l [.s [97],.s [98],.s [99],.s [100],.s [65,66,83],.s [97],.s [98]])<|.c 50 [.v 0,.i 7]),
 .a (.t (.v 1)<|.i 3) (.p [.s [117,115,101],.c 52 [.v 1,.v 2]])]⟩
noncomputable def gr:MS:=.h 3 (.i 4) [.s 4<|.t (.s [97,98,99,100])<|.o .m (.o .a (.v 2)<|.v 3)<|.i 4,.i (.q (.Zg ()) (.v 4)<|.v 1) [.a (.v 1)<|.v 4,.r<|.v 4] []]
noncomputable def xM:Fn:=⟨2,5,[
 .s 2 (.c 50 [.v 0,.i 4]),
 gr,
 .r (.s [])]⟩
noncomputable def yk:Fn:=⟨2,3,[
 .x (.c 53 [.v 0,.v 1]),
 .s 2 (.c 50 [.v 0,.i 4]),
 .i (.q .e (.v 2)<|.i 1) [.x<|.c 51 [.v 1,.s [32,43,32]],.x<|.c 53 [.v 0,.v 1]] [.i (.q .e (.v 2)<|.i 2) [.x<|.c 51 [.v 1,.s [46,97]]] [.i (.q .e (.v 2)<|.i 3) [.x<|.c 51 [.v 1,.s [40,98,46,99,44,32,49,32,40,42,32,100,32,42,41,41]],.a (.t (.v 1)<|.i 2)<|.p [.o .s (.t (.v 1)<|.i 1)<|.i 15,.s [98]],.a (.t (.v 1)<|.i 3)<|.p [.s [117,115,101],.o .s (.n<|.t (.v 1)<|.i 2)<|.i 1]] []]]]⟩
noncomputable def Ak:Fn:=⟨3,4,[
 .s 3 (.c 50 [.v 0,.e (.q .l (.v 2)<|.i 2) (.i 6)<|.i 2]),
 .i (.q .l (.v 3)<|.i 2) [.x<|.c 53 [.v 0,.v 1]] [.i (.q .e (.v 3)<|.i 2) [.x<|.c 51 [.v 1,.s [82,69,67,79,82,68,32,97,44,32,100,58,32]],.x<|.c 56 [.v 0,.v 1,.o .a (.v 2)<|.i 1],.x<|.c 51 [.v 1,.s [59,32,101,42,58,32,73,78,84,69,71,69,82,32,69,78,68]],.a (.t (.v 1)<|.i 2)<|.p [.o .s (.t (.v 1)<|.i 1)<|.i 11,.s [73,78,84,69,71,69,82]],.a (.t (.v 1)<|.i 3)<|.p [.s [117,115,101],.o .s (.n<|.t (.v 1)<|.i 2)<|.i 1]] [.i (.q .e (.v 3)<|.i 3) [.x<|.c 51 [.v 1,.s [80,79,73,78,84,69,82,32,84,79,32]],.a (.t (.v 1)<|.i 3)<|.p [.s [102,111,114,119,97,114,100],.c 52 [.v 1,.t (.s [97,98,99,100])<|.c 50 [.v 0,.i 4]]]] [.i (.q .e (.v 3)<|.i 4) [.x<|.c 51 [.v 1,.s [65,82,82,65,89,32]],.x<|.c 55 [.v 0,.v 1],.x<|.c 51 [.v 1,.s [32,79,70,32]],.x<|.c 56 [.v 0,.v 1,.o .a (.v 2)<|.i 1]] [.x<|.c 51 [.v 1,.s [80,82,79,67,69,68,85,82,69,32,40,99,58,32]],.x<|.c 53 [.v 0,.v 1],.x<|.c 51 [.v 1,.s [41]]]]]]]⟩
noncomputable def ic:MS:=.h 6 (.v 5) [.s 7<|.c 54 [.v 0,.v 3],.i (.q .n (.v 7)<|.s []) [.s 8<|.c 52 [.v 1,.v 7],.i (.q .e (.v 4)<|.i 1) [.a (.t (.v 1)<|.i 3)<|.p [.s [116,121,112,101],.v 8]] [],.x<|.c 51 [.v 1,.t (.l [.s [32,61,32],.s [42,32,61,32],.s [58,32]])<|.v 4],.i (.q .e (.v 4)<|.i 0) [.x<|.c 55 [.v 0,.v 1],.a (.t (.v 1)<|.i 3)<|.p [.s [99,111,110,115,116],.v 8]] [.x<|.c 56 [.v 0,.v 1,.i 0]],.i (.q .e (.v 4)<|.i 2) [.a (.t (.v 1)<|.i 3)<|.p [.s [118,97,114],.v 8]] [],.x<|.c 51 [.v 1,.s [59,32]]] []]
def cW:MS:=.h 4 (.i 3) [.s 5<|.c 50 [.v 0,.i 2],.i (.q .g (.v 5)<|.i 0) [.x<|.c 51 [.v 1,.t (.l [.s [32,67,79,78,83,84,32],.s [32,84,89,80,69,32],.s [32,86,65,82,32]])<|.v 4]] [],ic,.i (.a [.q .g (.v 5)<|.i 0,.q .g (.v 4)<|.i 0]) [.a (.t (.v 1)<|.i 3)<|.p [.s [114,101,115,111,108,118,101],.i 0]] []]
noncomputable def b5:MS:=.h 6 (.e (.q .g (.t (.v 1)<|.i 4)<|.i 0) (.c 50 [.v 0,.i 3])<|.i 0) [.u (.v 1) (.i 4) .s<|.i 1,.s 7<|.c 54 [.v 0,.v 3],.i (.a [.q .n (.v 7)<|.s [],.q .ge (.t (.v 1)<|.i 4)<|.i 0]) [.x<|.c 58 [.v 0,.v 1,.v 2,.v 7]] []]
def gL:Fn:=⟨4,9,[
 cW,
 b5]⟩
noncomputable def bp:MS:=.g 8 (.v 6) [.a (.t (.v 1)<|.i 3)<|.p [.s [112,97,114],.v 8]]
def ku:Fn:=⟨4,9,[
 .x (.c 51 [.v 1,.s [32,80,82,79,67,69,68,85,82,69,32]]),
 .a (.t (.v 1)<|.i 3) (.p [.s [112,114,111,99],.c 52 [.v 1,.v 3]]),
 .a (.t (.v 1)<|.i 3) (.p [.s [111,112,101,110],.i 0]),
 .s 4 (.o .s (.n<|.t (.v 1)<|.i 3)<|.i 2),
 .s 5 (.l []),
 .s 6 (.l []),
 .i (.q .e (.c 50 [.v 0,.i 2])<|.i 1) [.x<|.c 51 [.v 1,.s [40,86,65,82,32]],.s 7<|.c 54 [.v 0,.v 5],.a (.v 6)<|.c 52 [.v 1,.v 7],.x<|.c 51 [.v 1,.s [44,32]],.a (.v 6)<|.c 52 [.v 1,.c 54 [.v 0,.v 5]],.x<|.c 51 [.v 1,.s [58,32,65,82,82,65,89,32,79,70,32]],.x<|.c 53 [.v 0,.v 1],.x<|.c 51 [.v 1,.s [41]]] [],
 bp,
 .x (.c 51 [.v 1,.s [59]]),
 .x (.c 57 [.v 0,.v 1,.o .a (.v 2)<|.i 1,.v 5]),
 .x (.c 51 [.v 1,.s [32,66,69,71,73,78,32,73,70,32]]),
 .x (.c 55 [.v 0,.v 1]),
 .x (.c 51 [.v 1,.s [32,84,72,69,78,32]]),
 .x (.c 53 [.v 0,.v 1]),
 .x (.c 51 [.v 1,.s [32,58,61,32,49,32,69,78,68,32,82,69,84,85,82,78,32]]),
 .x (.c 55 [.v 0,.v 1]),
 .x (.c 51 [.v 1,.s [32,69,78,68,32]]),
 .s 8 (.c 52 [.v 1,.v 3]),
 .a (.t (.v 1)<|.i 3) (.p [.s [101,110,100],.p [.v 8,.t (.t (.t (.v 1)<|.i 3)<|.v 4)<|.i 1]]),
 .a (.t (.v 1)<|.i 3) (.p [.s [99,108,111,115,101],.i 0]),
 .x (.c 51 [.v 1,.s [59]])]⟩
noncomputable def pu:Fn:=⟨1,4,[
 .s 1 (.l [.l [],.i 0,.l [],.l [],.i 1]),
 .x (.c 51 [.v 1,.s [77,79,68,85,76,69,32,97,59,32]]),
 .s 2 (.l []),
 .s 3 (.c 50 [.v 0,.i 3]),
 .i (.q .g (.v 3)<|.i 0) [.x<|.c 51 [.v 1,.s [73,77,80,79,82,84,32]],.a (.t (.v 1)<|.i 3)<|.p [.t (.l [.s [97,108,105,97,115],.s [105,109,112,111,114,116]])<|.o .s (.v 3)<|.i 1,.c 52 [.v 1,.c 54 [.v 0,.v 2]]],.x<|.c 51 [.v 1,.t (.l [.s [32,58,61,32,98,59,32],.s [59,32]])<|.o .s (.v 3)<|.i 1]] [],
 .x (.c 57 [.v 0,.v 1,.i 0,.v 2]),
 .x (.c 51 [.v 1,.s [32,66,69,71,73,78,32]]),
 .x (.c 53 [.v 0,.v 1]),
 .x (.c 51 [.v 1,.s [59,32,67,65,83,69,32]]),
 .x (.c 55 [.v 0,.v 1]),
 .x (.c 51 [.v 1,.s [32,79,70,32,49,58,32,69,78,68,32,69,78,68,32,97,46]]),
 .r (.p [.j<|.t (.v 1)<|.i 0,.t (.v 1)<|.i 2,.t (.v 1)<|.i 3])]⟩
noncomputable def iN:MS:=.Zv 2 (.o .s (.n<|.v 0)<|.i 1) [.i (.q .i (.v 1)<|.t (.v 0)<|.v 2) [.r<|.t (.t (.v 0)<|.v 2)<|.v 1] []]
def nG:Fn:=⟨2,3,[
 iN,
 .r (.i<|-2)]⟩
noncomputable def dY:MS:=.g 9 (.v 5) [.t (.v 3) (.v 9)<|.x (.c 60 [.v 2,.t (.v 1)<|.v 9])<|.i<|-1]
def fC:MS:=.ZE 7 8 (.v 0) [.i (.q .e (.v 7)<|.s [111,112,101,110]) [.a (.v 2)<|.dS [] []] [.i (.q .e (.v 7)<|.s [99,108,111,115,101]) [.x<|.pop<|.v 2] [.i (.q .e (.v 7)<|.s [101,110,100]) [.t (.v 3) (.t (.v 8)<|.i 0)<|.t (.v 3)<|.t (.v 8)<|.i 1] [.i (.q .e (.v 7)<|.s [114,101,115,111,108,118,101]) [dY,.s 5<|.l []] [.i (.q .i (.v 7)<|.p [.s [117,115,101],.s [102,111,114,119,97,114,100]]) [.s 10<|.c 60 [.v 2,.t (.v 1)<|.v 8],.t (.v 3) (.v 8)<|.x (.v 10)<|.i<|-1,.i (.a [.q .e (.v 7)<|.s [102,111,114,119,97,114,100],.q .e (.v 10)<|.i<|-2]) [.a (.v 5)<|.v 8] []] [.t (.v 3) (.v 8)<|.n<|.v 4,.i (.q .i (.t (.v 1)<|.v 8)<|.t (.v 2)<|.i<|-1) [.v 6 .a<|.i 1] [.t (.t (.v 2)<|.i<|-1) (.t (.v 1)<|.v 8)<|.n<|.v 4],.a (.v 4)<|.v 7]]]]]]
def jx:Fn:=⟨2,11,[
 .s 2 (.l [.dS [[65,66,83],[73,78,84,69,71,69,82]] [.i<|-1,.i<|-1],.dS [] []]),
 .s 3 .dI,
 .s 4 (.l []),
 .s 5 (.l []),
 .s 6 (.i 0),
 fC,
 .r (.p [.v 3,.v 4,.v 6])]⟩
noncomputable def sb:Fn:=⟨3,3,[
 .told 48 [.v 0,.v 1,.v 2]]⟩
noncomputable def eY:MS:=.ZE 6 7 (.v 3) [.v 4 .a<|.o .a (.S (.v 0) (.v 5)<|.v 6)<|.t (.v 2)<|.v 7,.s 5<|.o .a (.v 6)<|.n<|.t (.t (.v 1)<|.v 7)<|.i 1]
noncomputable def dH:Fn:=⟨3,8,[
 .s 3 (.k<|.D (.p [.t (.t (.v 1)<|.v 0)<|.i 0,.v 0]) (.n<|.v 1) [1]),
 .s 4 (.s []),
 .s 5 (.i 0),
 eY,
 .r (.o .a (.v 4)<|.X (.v 0)<|.v 5)]⟩
noncomputable def YG:Fn:=⟨1,20,[
 .s 1 (.c 49 [.v 0]),
 .s 2 (.t (.l [.s [97],.s [98],.s [99],.s [100],.s [102,114,101,115,104],.s [65,66,83],.s [73,70],.s [49,97],.s [],.s [120,95]])<|.c 50 [.v 1,.i 10]),
 .s 3 (.c 50 [.v 1,.i 840]),
 .unp [4,5,6] (.c 59 [.v 1]),
 .s 7 (.C (.t (.v 0)<|.i 1) (.v 5) []),
 .unp [8,9,10] (.c 61 [.v 6,.v 7]),
 .i (.a [.q .e (.o .m (.v 3)<|.i 4)<|.i 0,.q .n (.c 62 [.v 4,.i 0,.s [102,114,101,115,104]])<|.p [.s [110,111,116,95,97,95,110,97,109,101],.i 0]]) [.r<|.b false] [],
 .s 11 (.o .m (.v 3)<|.n<|.v 5),
 .s 12 (.t (.t (.v 5)<|.v 11)<|.i 0),
 .s 13 (.c 62 [.v 4,.v 12,.v 2]),
 .s 14 (.t (.v 8)<|.v 11),
 .i (.q .e (.v 14)<|.i<|-1) [.r<|.q .e (.v 13)<|.p [.s [112,114,101,100,101,99,108,97,114,101,100],.v 12]] [],
 .i (.q .e (.t (.v 9)<|.v 14)<|.s [105,109,112,111,114,116]) [.r<|.q .e (.v 13)<|.p [.s [105,109,112,111,114,116],.v 12]] [],
 .i (.q .i (.v 2)<|.p [.s [73,70],.s [49,97],.s [],.s [120,95]]) [.r<|.q .e (.v 13)<|.p [.s [98,97,100,95,110,97,109,101],.v 12]] [],
 .s 15 (.D (.e (.q .e (.t (.v 1)<|.v 0)<|.v 3) (.v 2)<|.t (.v 4)<|.v 0) (.n<|.v 7) [8,2,14,7]),
 .unp [16,9,10] (.c 61 [.v 6,.v 15]),
 .i (.or [.q .n (.v 16)<|.v 8,.q .g (.v 10)<|.i 0]) [.r<|.q .e (.v 13)<|.p [.s [119,111,117,108,100,95,99,108,97,115,104],.v 12]] [],
 .s 17 (.c 63 [.v 4,.v 5,.v 15]),
 .i (.q .n (.v 13)<|.p [.s [],.v 17]) [.r<|.b false] [],
 .i (.q .e (.o .m (.v 3)<|.i 2)<|.i 1) [.r<|.b true] [],
 .s 18 (.F (.v 0) (.n<|.v 5) (.q .l (.t (.t (.v 1)<|.v 0)<|.i 0)<|.v 2) [5,12]),
 .s 19 (.o .a (.v 12)<|.u<|.C (.o .s (.n<|.t (.v 1)<|.v 0)<|.n<|.t (.v 2)<|.v 0) (.v 18) [15,7]),
 .r (.q .e (.c 62 [.v 17,.v 19,.t (.v 7)<|.v 11])<|.p [.s [],.v 4])]⟩
def R6:List<|Nat×Fn:=[
 (1003,gQ),
 (0,sI),
 (1,kJ),
 (2,nD),
 (3,gu),
 (1000,ij),
 (4,uR),
 (5,vG),
 (6,wR),
 (7,ua),
 (8,wl),
 (9,vQ),
 (10,AA),
 (11,zd),
 (12,Dk),
 (13,kO),
 (14,Jx),
 (15,kr),
 (16,jo),
 (1001,iB),
 (17,iH),
 (1002,fM),
 (18,kq),
 (19,g6),
 (20,ri),
 (21,fD),
 (22,hW),
 (23,kl),
 (24,ik),
 (25,d5),
 (26,lE),
 (27,fp),
 (28,eO),
 (29,eQ),
 (30,cy),
 (31,hZ),
 (32,kF),
 (33,rk),
 (34,iY),
 (35,eo),
 (36,mw),
 (37,fU),
 (38,li),
 (39,ef),
 (40,oP),
 (41,gz),
 (42,gU),
 (43,kI),
 (44,kM),
 (45,sf),
 (46,mQ),
 (47,jH),
 (48,bo),
 (49,fv),
 (50,j9),
 (51,sQ),
 (52,r4),
 (53,uX),
 (54,xM),
 (55,yk),
 (56,Ak),
 (57,gL),
 (58,ku),
 (59,pu),
 (60,nG),
 (61,jx),
 (62,sb),
 (63,dH),
 (64,YG)]
def FT (k:Nat):Option Fn:=R6.lookup k
end Mine
end
section
open PySem PySem.W
namespace Mine
noncomputable def Ch:List<|Nat×Str:=(0,"keywords")::(1,"is_letter")::(2,"is_digit")::(3,"is_hex_digit")::(4,"gap_end")::(5,"remark_end")::(6,"string_end")::[(7,"word_end"),(8,"digits_end"),(9,"number_end"),(10,"sign_end"),(11,"row_stop"),(12,"item_at"),(13,"source_items"),(14,"solid"),(15,"std_functions"),(16,"std_procedures"),(17,"predeclared"),(45,"walked"),(46,"is_new_name"),(47,"targets_of"),(48,"rename"),(49,"_law_stock"),(50,"_law_pick"),(51,"_law_emit"),(52,"_law_mark"),(53,"_law_any"),(54,"_law_fresh"),(55,"_law_value"),(56,"_law_kind"),(57,"_law_declared"),(58,"_law_procedure"),(59,"_law_source"),(60,"_law_seek"),(61,"_law_replay"),(62,"_law_told"),(63,"_law_written"),(64,"law")]
def Pv (k:Nat):=(Ch.lookup k)
noncomputable def FR:List<|Nat×Str:=[(18,"text"),(19,"is_name"),(20,"fail"),(21,"skip"),(22,"expect"),(23,"name"),(24,"target"),(25,"declare"),(26,"use"),(27,"qualident"),(28,"uses_until"),(29,"statements"),(30,"uses_one"),(31,"module"),(32,"import_one"),(33,"body"),(34,"declarations"),(35,"marked"),(36,"constant"),(37,"type_declaration"),(38,"variables"),(39,"kind_of_type"),(40,"record"),(41,"pointed"),(42,"resolve"),(43,"parameters"),(44,"procedure")]
noncomputable def Pq(k:Nat):=(FR.lookup k)
noncomputable def Hy:List<|Nat×Str:=[(0,"SourceItem"),(1,"Occurrence"),(2,"NameWalk")]
def Qq (k:Nat):=(Hy.lookup k)
noncomputable def Ra:List<|Nat×Str:=[(0,"kind"),(1,"text"),(2,"place"),(3,"name"),(4,"target"),(5,"items"),(6,"at"),(7,"scopes"),(8,"kinds"),(9,"found"),(10,"doubled"),(11,"forwards"),(12,"what")]
noncomputable def yc(k:Nat):=(Ra.lookup k).getD Str.empty
noncomputable def Nh:List<|Nat×(Nat×Option Nat):=(0,(4,none))::(1,(5,none))::(2,(6,none))::(3,(7,none))::(4,(10,none))::(5,(11,none))::(6,(12,none))::(7,(13,none))::(8,(14,none))::(9,(15,none))::(10,(16,none))::(11,(17,none))::(12,(18,none))::(13,(19,none))::(14,(20,none))::(15,(22,none))::(16,(23,none))::(17,(26,none))::(18,(27,some 1))::(19,(27,some 2))::(20,(27,some 3))::(21,(27,some 4))::(22,(27,some 5))::(23,(27,some 6))::(24,(27,some 7))::(25,(27,some 8))::(26,(27,some 9))::(27,(27,some 10))::(28,(27,some 11))::(29,(27,some 12))::(30,(27,some 13))::(31,(27,some 14))::(32,(27,some 15))::(33,(27,some 16))::(34,(27,some 17))::(35,(27,some 18))::(36,(27,some 19))::(37,(27,some 20))::[(38,(27,some 21)),(39,(27,some 22)),(40,(27,some 23)),(41,(27,some 24)),(42,(27,some 25)),(43,(27,some 26)),(44,(27,some 27)),(45,(28,none)),(46,(29,none)),(47,(30,none)),(48,(31,none)),(49,(33,none)),(50,(34,none)),(51,(35,none)),(52,(36,none)),(53,(37,none)),(54,(38,none)),(55,(39,none)),(56,(40,none)),(57,(41,none)),(58,(42,none)),(59,(43,none)),(60,(44,none)),(61,(45,none)),(62,(46,none)),(63,(47,none)),(64,(48,none)),(1000,(9,some 0)),(1001,(25,some 0)),(1002,(27,some 0)),(1003,(2,some 0))]
def Q5 (k:Nat):=(Nh.lookup k).getD (0,none)
noncomputable def IN:List<|Nat×List Str:=(0,[])::(1,["char"])::(2,["char"])::(3,["char"])::(4,["source","at"])::(5,["source","at","depth","pair"])::(6,["source","at","end"])::(7,["source","at"])::(8,["source","at"])::(9,["source","at","end","begin","behind"])::(10,["source","at"])::(11,["source","at"])::(12,["source","at","words","char","end","text"])::(13,["source","words","found","at","item"])::(14,["items"])::(15,[])::(16,[])::(17,["found","name"])::(18,["self"])::(19,["self"])::(20,["self","place"])::(21,["self","text"])::(22,["self","text"])::(23,["self"])::(24,["self","name","scope"])::(25,["self","item","kind","number"])::(26,["self","item"])::(27,["self"])::(28,["self","stops","depth","item"])::(29,["self","depth","text"])::(30,["self","item"])::(31,["self"])::(32,["self","item"])::(33,["self"])::(34,["self"])::(35,["self","item"])::(36,["self","item"])::(37,["self","item"])::[(38,["self","row","item"]),(39,["self"]),(40,["self"]),(41,["self","item","known"]),(42,["self","known"]),(43,["self","row"]),(44,["self","number","item"]),(45,["items","walk"]),(46,["name","char"]),(47,["walk","pairs"]),(48,["source","place","name","items","walk","target","one","meant","changed","other"]),(49,["script","waiting","cell","rest","turn"]),(50,["pool","ways"]),(51,["state","text"]),(52,["state","name"]),(53,["pool","state","name"]),(54,["pool","taken","first","step","name"]),(55,["pool","state","way"]),(56,["pool","state","deep","way"]),(57,["pool","state","deep","taken","part_of","count","step","name","spot"]),(58,["pool","state","deep","name","start","inner","pars","first","spot"]),(59,["pool","state","taken","way"]),(60,["scopes","name","level"]),(61,["events","words","scopes","meant","kinds","late","twice","event","spot","one","found"]),(62,["source","place","name"]),(63,["source","marks","words","rows","made","at","place","spot"]),(64,["script","pool","name","choice","source","marks","events","words","meant","kinds","twice","spot","place","told","target","changed","other","made","early","later_place"]),(1000,["self","kind","text","place"]),(1001,["self","place","name","target"]),(1002,["self","items"]),(1003,["self","what","at"])]
noncomputable def aT(k:Nat):=(IN.lookup k).getD []
def TB:ur:=⟨Pv,Qq,Pq,yc⟩
noncomputable def Ia(i:Nat):Stmt:=PySem.Challenge.pw_pq0764_01.main.body.getD i<|.Pass ⟨0,0,0,0⟩
noncomputable def J7(s:Stmt)(j:Nat):Stmt:=if h:s.ctorIdx=2 then Stmt.ClassDef.elim (motive_2:=λ_=>Stmt) s h (λ_ _ _ b _ _ _ _ _ _ _=>b.getD j<|.Pass ⟨0,0,0,0⟩)else .Pass ⟨0,0,0,0⟩
def bL (k:Nat):Stmt:=match Q5 k with
 |(i,none)=>Ia i
 |(i,some j)=>J7 (Ia i) j
noncomputable def eE(s:Stmt):List Stmt:=if h:s.ctorIdx=0 then Stmt.FunctionDef.elim (motive_2:=λ_=>List Stmt) s h (λ_ _ b _ _ _ _ _ _ _=>b)else []
noncomputable def bb(s:Stmt):Scope:=match s with
 | .FunctionDef _ _ _ _ _ _ a _ _ _=>a
 |_=>default
noncomputable def tA(s:Stmt):Arguments:=match s with
 | .FunctionDef _ a _ _ _ _ _ _ _ _=>a
 |_=>default
noncomputable def vy(s:Stmt):Str:=match s with
 | .FunctionDef n _ _ _ _ _ _ _ _ _=>n
 |_=>default
def QY (k:Nat):Bool:=match FT k with
 |some f=>JZ TB (k==48) 30 ⟨aT k,(bb<|bL k).names⟩ (eE<|bL k) f.body
 |none=>false
def fb {c:Type}{l:List<|Nat×c}:∀{k:Nat}{f:c},l.lookup k=some f->(k,f)∈l:=by
 induction l with
 |nil=>intro _ _ h;exact cE h nt
 |cons p r i=>
  intro k f h;obtain⟨a,b⟩:=p;by_cases e:k=a
  ·subst e;simp only[Y8,ZP,Zk]at h;subst h;exact .head _
  ·simp only[Y8,Yk.mpr e]at h;exact .tail _<|i h
def MH:(R6.all λp=>p.1==62||QY p.1)=true:=by decide+kernel
def Bb {k:Nat}{f:Fn}(h:FT k=some f)(a:k≠62):JZ TB (k==48) 30 ⟨aT k,(bb<|bL k).names⟩ (eE<|bL k) f.body=true:=by have z:=YB.mp MH _<|fb h;simp only[YO,YF]at z;have z:=z.resolve_left a;unfold QY at z;rw[h]at z;exact z
end Mine
end
section
open PySem PySem.W PySem.Calls PyProof.Rows PyProof.Rows.LCg
namespace Mine
theorem nF{S R:Type}{a:S->Option (S⊕R)}:∀{n:Nat}{s:S}{r:R},fR a n s=some r->∀k,fR a (n+k) s=some r
 |0,_,_,h,_=>cE h nt
 |n+1,s,r,h,k=>by
  rw[add_right_comm];refine iC (show oB (a s) _=_ from h) λx b h=>?_;show oB (a s) _=_;refine aa b ?_;clear b;cases x with
  |inl c=>exact nF (n:=n) h k
  |inr r=>exact h
def Dn {S R:Type}{a:S->Option (S⊕R)}{n k:Nat}{s:S}{r r':R}(h:fR a n s=some r)(c:fR a k s=some r'):r=r':=by have b:=nF c n;rw[Zr]at b;rw[(nF h k)]at b;exact Zd b
def a4 (a:Lo×Hp->Option ((Lo×Hp)⊕(Fl×Hp)))(s:Lo×Hp):Option<|Fl×Hp:=
 open Classical in if h:∃r n,fR a n s=some r then some h.choose else none
def pw {a:Lo×Hp->Option ((Lo×Hp)⊕(Fl×Hp))}{s:Lo×Hp}{r:Fl×Hp}(h:a4 a s=some r):∃n,fR a n s=some r:=by
 unfold a4 at h;split at h
 ·rename_i q
  cases h;exact q.choose_spec
 ·exact cE h nt
def zv {a:Lo×Hp->Option ((Lo×Hp)⊕(Fl×Hp))}{s:Lo×Hp}{r:Fl×Hp}{n:Nat}(h:fR a n s=some r):a4 a s=some r:=by unfold a4;have q:∃r n,fR a n s=some r:=⟨r,n,h⟩;exact aa (dif_pos q)<|Xq q.choose_spec λk b=>Xs some<|Dn b h
def HM (k:Nat):Option Fn:=if k=62\/k=64 then none else FT k
def ae (d:Nat):Cl:=FE a4 HM d
def u9 (d:Nat):Cl:=λk v H=>if k=62 then(if v.length=3 then(bV (ae d 48 v H) λr a=>some (.v<|gX r,a))else none)else ae d k v H
structure Iq(P:bi)(C C1 fI:Addr):Prop where
 tabs:wf TB P
 a:mH P
 x:XK P C C1 fI "FormatError" "what" "at"
 plain:∀k f,FT k=some f->k≠48->k≠63->k≠64->k≠62->∃qual Zm,pn P k (aT k) f.p (bb<|bL k) (eE<|bL k) qual Zm
 cell:∀k f,FT k=some f->k=48\/k=63\/k=64->∃qual Zm,nc P k (aT k) f.p (bb<|bL k) (eE<|bL k) qual Zm
 told:∃scope body qual Zm vars,sZ P "what" "at" "fault" "rename" "FormatError" vars scope body qual Zm
def rE:∀a s r,a4 a s=some r->∃n,fR a n s=some r:=λ_ _ _ h=>pw h
section
variable{P:bi}{C C1 fI:Addr}(Z:Iq P C C1 fI)
include Z
theorem Ro(h:FT 48=some f)(qual)(Zm):mX P d (ae d) a4 (KW P C "what" "at") 48 f (aT 48) (bb<|bL 48) (eE<|bL 48) qual Zm:=λA g L a X K=>
 rZ Z.tabs X K rE (ra:=true) (λ_=>GQ Z.x a X) 30 _ _ (Bb h<|by decide)
theorem TS(a:FT 63=some f)(qual)(Zm):mX P d (ae d) a4 (KW P C "what" "at") 63 f (aT 63) (bb<|bL 63) (eE<|bL 63) qual Zm:=λA g L b X K=>
 rZ Z.tabs X K rE (ra:=false) (λh=>eI h nt) 30 _ _ (Bb a<|by decide)
theorem yg:∀(d:Nat) A a L m,uj P A a L d->jK P (ae d) A a L m:=by
 intro d;induction d with
 |zero=>intro A a L m n k F H B v I N s E h;exact cE h nt
 |succ d y=>
  intro A a L m n k F H B v I N s E h S x p R j t;refine iC (show oB (HM k) _=_ from h) λf c h=>cx h λw u=>cps λG z=>?_;have o:¬(k=62\/k=64):=λq=>by rw[HM,Xr q]at c;exact cE c nt
  rw[HM,Xu o]at c;have c:=c;by_cases i:k=48
  ·subst i
   exact cT (Z.cell 48 f c<|.inl rfl) λb e r=>z<|qX r Z.a y (Ro Z c b e) A a L m n w u S x p R j t
  ·by_cases l:k=63
   ·subst l
    exact cT (Z.cell 63 f c<|.inr<|.inl rfl) λb e r=>z<|qX r Z.a y (TS Z c b e) A a L m n w u S x p R j t
   ·refine cT (Z.plain k f c i l (λq=>o<|.inr q) λq=>o<|.inl q) λb e D=>?_
    have chk:=Bb c λq=>o<|.inl q;rw[show(k==48)=false from Yk.mpr i]at chk;exact z<|w7 (XA:=KW P C "what" "at") D Z.a y (λA g J X K=>rZ Z.tabs X K rE (ra:=false) (λh=>eI h nt) 30 _ _ chk) A a L m n w u S x p R j t
theorem GU(c:uj P A a L<|d+2)(B:Below A₀ a [] a)(n:A.frames=some [envL])(j:envL.frame=some L)(l:envL.scope.kind=.function):jK P (u9<|d+1) A a L m:=by
 intro k y H O v U N s Q h S w z R g r;unfold u9 at h;by_cases e:k=62
 ·subst e
  rw[Xr rfl]at h;refine cx h λu h=>aF h λM E b h=>iC (show(oB (HM 48) λf=>if y.length=f.p then dy (XU (FE a4 HM d) a4 (y.map some++List.replicate (f.vars-f.p) none) H f.body)else none)=some (M,E)from b) λf t b=>cx b λG b=>?_;cases h;refine cps λC I=>cT (Z.cell 48 f (t:FT 48=some f)<|.inl rfl) λq i D=>?_;obtain⟨o,p,J,F,x,T⟩:=Z.told;exact I<|Db Z.x T Z.a (G.symm.trans u) D (yg Z d) (Ro Z (t:FT 48=some f) q i) c B n j l u b S w g r
 ·rw[Xu e]at h
  refine yg Z (d+1) A a L m ⟨c.base,c.h,?_,?_,c.below⟩ h S w z R g r
  ·have:=c.room;exact aK 0xe11c1685826bc0c9f08e1342c135e06067b tq this
  ·have:=c.units;exact ba 0x1320e0b42c435e063262641c2685886bc0c6067b tq this
end
def wr (d:Nat)(n:List Int):Option<|Fl×Hp:=XU (u9<|d+1) a4 (some (.r 0)::List.replicate 19 none) [.ro n] YG.body
section
variable{P:bi}{C C1 fI:Addr}(Z:Iq P C C1 fI)
include Z
theorem HE(hd:d<=100)(B:m7 P s.heap)(hR:P.Z.h=s.heap)(t:P.Z.o=s.os)(hg:P.Z.g=s.gens)(hl:s.heap.IsList sc vs)(r:IntsAre vs.toList ns)
  (Q:wr d ns=some (.r<|.b true,H')) (k:∀G,(∀b o,s.heap.get? b=some o->G.heap.get? b=some o)->G.os=s.os->G.gens=s.gens->R (.ok<|.ret<|.bool true) G):
  codeAny (model P.p P.w) callerA (.call (.ref<|P.f 64) ⟨[.ref sc],[]⟩) R s:=by
 have hf:FT 64=some YG:=rfl;refine cT (Z.cell 64 _ hf<|.inr<|.inr rfl) λq f l=>?_;generalize S:bb (bL 64)=scope at l;refine l.ex _ λU v M kV doc pm an ct oc od osl hK D=>?_;have KI:=B.K;have z:((((aT 64).take YG.p).zip [Value.ref sc]).map (·.1)).Nodup:=by refine aa (by rw[wI];rfl:(((aT 64).take YG.p).zip [Value.ref sc]).map (·.1)=(aT 64).take 1) ?_;exact l.j.sublist<|Z1 _ _
 refine codeAny_call_function (fd:=fnX U q v (eE<|bL 64) scope [] M kV doc pm an f ct) (by decide) (KI _ _ hK) rfl l.c l.gen rfl (codeRec_of KI l.code) (D s [.ref sc] rfl _ _ _ _ ?_);have X:=l.kind;refine wpAny_newFunctionEnv_cells X (λx g=>?_) λenv' he G x=>?_
 ·have F:x.1∈(aT 64).take YG.p:=(of_mem_zip g).1
  rcases l.b _ (ZD F)with h|⟨h1,I⟩
  ·exact .inl h
  ·exact .inr ⟨h1,I _⟩
 ·subst he
  refine⟨B.nolimit.keeps x.toInCall.keep,codeAny_func<|dJ x.done λT tk e7 _=>?_⟩;subst e7;refine ag (Cl.news (h₀:=s.heap) (XC _) λn c F=>⟨x.cell n c<|lookup_of_mem_nodup (cellsFrom_names scope.names 0 (s.heap.objs.size+1) [] [] rfl▸l.h) F,x.above n c F⟩) λcells NC J=>?_;generalize hL:s.heap.objs.size=L at *;have H:uj P (callerA.deeper<|envOfC q scope L (P.f 64) f) s.heap L<|d+3:=⟨B,rfl,bC 0x1c2386d0304d785a96b98c98c8e00a5b tq hd,by
    have:2000<cLine:=by decide
    exact aK 0xb20e1b40c435e3691ac632632380896c20007d08867b tq this hd,λ_ k=>k callerA s.heap [] _ (below_caller _) rfl rfl X⟩
  refine XG (λsp1 W=>?_)<|lj scope.names (L+1) [] (λ_ h=>Xw h XY) .nil;have J:CellsAre (bindC (envOfC q scope L (P.f 64) f).kindOf (((aT 64).take YG.p).zip [Value.ref sc]) λ_=>none) (cellsFrom (L+1) scope.names []) cells:=J;have A:∀a,L<a->¬own [(sc,sc)] a:=λa ha t=>by
   refine ag t λc N e=>?_;rw[List.mem_singleton.mp N]at e;have:a=sc:=by rcases e with e|e<;> exact e
   rw[this]at ha;exact lt_asymm ha (by refine ag hl λo t _=>?_;exact hL▸YA t:sc<L)
  have m:∀a,pL (envOfC q scope L (P.f 64) f) a->L<a:=λa ⟨x,g⟩=>by
   rcases sp1 _ (cJ g)with h|h
   ·exact Xw h XY
   ·exact h
  have O:∀x∈aT 64,(envOfC q scope L (P.f 64) f).kindOf x=some .local\/((envOfC q scope L (P.f 64) f).kindOf x=some .cell/\∃c,(envOfC q scope L (P.f 64) f).cells.lookup x=some c):=λx g=>by
   rcases l.b x g with h|⟨h1,I⟩
   ·exact .inl h
   ·exact .inr ⟨h1,abl.mp<|I<|L+1⟩
  have Lg:c0 (envOfC q scope L (P.f 64) f) L (bindL (envOfC q scope L (P.f 64) f).kindOf (((aT 64).take YG.p).zip [Value.ref sc]) λ_=>none) (aT 64) [(sc,sc)] cells<|some (.r 0)::List.replicate 19 none:=⟨λi w r=>by
   have hw:=lm (vs:=[V.r 0]) r;have E:i=0:=by have:=(Yl.mp hw).1;simpa using this
   subst E;simp only[getElem?_cons_zero,Zk]at hw;subst hw;have z8:=l.np;have g:(aT 64)[0]?=some ((aT 64)[0]'(XO (by decide) z8)):=XQ _;have F:((aT 64)[0]'(XO (by decide) z8),Value.ref sc)∈((aT 64).take YG.p).zip [Value.ref sc]:=by
    have:(((aT 64).take YG.p).zip [Value.ref sc])[0]?=some ((aT 64)[0]'(XO (by decide) z8),Value.ref sc):=by rw[getElem?_zip_eq_some];exact⟨g,rfl⟩
    exact YQ this
   refine⟨_,.ref sc,g,⟨(sc,sc),rfl,rfl⟩,?_⟩;rcases O _ (YQ g)with h|⟨h1,c,N⟩
   ·exact .inl ⟨h,rfl,uW h z F⟩
   ·refine ag (fT J N) λo p g2=>.inr<|.inr ⟨.inl h1,c,o,N,p,A c<|m c ⟨_,N⟩,?_⟩
    exact aa g2<|aa (qu (by rw[h1];simp) z F) rfl,λa ⟨x,g⟩=>by
   exact ag (fT J g) λo p g2=>⟨o,_,p,A a<|m a ⟨x,g⟩,g2⟩⟩
  have chk:=Bb hf (by decide);rw[S]at chk;have Sg:St P s.heap L (bindL (envOfC q scope L (P.f 64) f).kindOf (((aT 64).take YG.p).zip [Value.ref sc]) λ_=>none) [(sc,sc)] cells [.ro ns] {s with heap:=T,toks:=tk}:=by
   refine⟨(⟨x.toInCall.ns,x.toInCall.keep,Y3 hL⟩),NC,by refine aa (iM J) ?_;exact List.pairwise_map.mpr W,⟨rfl,λi c o r t=>?_⟩,λi j c d r hj hij=>?_,λb o e=>hR▸e,t.symm,hg.symm⟩
   ·have E:i=0:=by have:=(Yl.mp r).1;simpa using this
    subst E;simp only[getElem?_cons_zero,Zk]at r t;subst r t;exact⟨rfl,vs,hR▸hl,r⟩
   ·have h1:=(Yl.mp r).1
    have I:=(Yl.mp hj).1;simp at h1 I;exact Xw (h1.trans I.symm) hij
  have EXs:∀Y,EX P (u9<|d+1) (callerA.deeper<|envOfC q scope L (P.f 64) f) (envOfC q scope L (P.f 64) f) s.heap L Y ⟨aT 64,scope.names⟩:=λY=>
   ⟨X,rfl,rfl,rfl,B,rfl,by have:=H.units;exact ba 0x990e03261641c3689886bc0c6067b tq this,GU Z (A₀:=callerA) (m:=Y) (envL:=envOfC q scope L (P.f 64) f) ⟨H.base,H.h,by have:=H.room;exact aK 0xe11c2685826bc0c9f08e1b42c135e06067b tq this,by have:=H.units;exact ba 0x1320e1342c435e063262641c3685886bc0c6067b tq this,H.below⟩ (below_caller _) rfl rfl X,Z.a⟩
  refine rZ (XA:=KW P C "what" "at") Z.tabs EXs (⟨rfl,X,l.j,O,λx y c g hy=>Cq W (cJ g)<|cJ hy⟩:g5 (envOfC q scope L (P.f 64) f) L ⟨aT 64,scope.names⟩) rE (ra:=false) (λh=>eI h nt) 30 _ _ chk Sg Lg Q ?_;intro u G Y Zl N' S' E' V';subst V';exact k G (λb o e=>S'.F.keep b o e) (S'.env.1.trans t)<|S'.env.2.trans hg
end
end Mine
end
section
open PySem PySem.W
namespace Mine
def WI (k:Nat)(q:Str)(p code:Value):FuncData:={name:=vy<|bL k,qualname:=q,params:=tA<|bL k,body:=.stmts<|eE<|bL k,scope:=bb<|bL k,globals:=3,closure:=[],defaults:=.none,kwdefaults:=.none,doc:=.none,pyModule:=p,annotations:=none,code:=code,closureTuple:=.none,builtins:=0}
noncomputable def JP:List<|Nat×Nat:=[(0,53),(1,60),(2,67),(3,74),(4,102),(5,109),(6,116),(7,123),(8,130),(9,137),(10,144),(11,151),(12,158),(13,165),(14,170),(15,177),(16,184),(17,212),(18,233),(19,240),(20,247),(21,254),(22,261),(23,268),(24,275),(25,282),(26,289),(27,296),(28,303),(29,310),(30,317),(31,324),(32,331),(33,338),(34,345),(35,352),(36,359),(37,366),(38,373),(39,380),(40,387),(41,394),(42,401),(43,408),(44,415),(45,429),(46,436),(47,441),(48,446),(49,453),(50,460),(51,467),(52,474),(53,481),(54,488),(55,495),(56,502),(57,509),(58,516),(59,523),(60,530),(61,537),(62,544),(63,549),(64,554),(1000,88),(1001,198),(1002,226),(1003,41)]
def VD:List<|Nat×Nat:=JP.map λp=>(p.1,p.2-1)
noncomputable def WH:List<|Nat×Str:=([(0,"keywords"),(1,"is_letter"),(2,"is_digit"),(3,"is_hex_digit"),(4,"gap_end"),(5,"remark_end"),(6,"string_end"),(7,"word_end"),(8,"digits_end"),(9,"number_end"),(10,"sign_end"),(11,"row_stop"),(12,"item_at"),(13,"source_items"),(14,"solid"),(15,"std_functions"),(16,"std_procedures"),(17,"predeclared"),(18,"NameWalk.text"),(19,"NameWalk.is_name"),(20,"NameWalk.fail"),(21,"NameWalk.skip"),(22,"NameWalk.expect"),(23,"NameWalk.name"),(24,"NameWalk.target"),(25,"NameWalk.declare"),(26,"NameWalk.use"),(27,"NameWalk.qualident"),(28,"NameWalk.uses_until"),(29,"NameWalk.statements"),(30,"NameWalk.uses_one"),(31,"NameWalk.module"),(32,"NameWalk.import_one"),(33,"NameWalk.body"),(34,"NameWalk.declarations"),(35,"NameWalk.marked"),(36,"NameWalk.constant"),(37,"NameWalk.type_declaration"),(38,"NameWalk.variables"),(39,"NameWalk.kind_of_type"),(40,"NameWalk.record"),(41,"NameWalk.pointed"),(42,"NameWalk.resolve"),(43,"NameWalk.parameters"),(44,"NameWalk.procedure"),(45,"walked"),(46,"is_new_name"),(47,"targets_of"),(48,"rename"),(49,"_law_stock"),(50,"_law_pick"),(51,"_law_emit"),(52,"_law_mark"),(53,"_law_any"),(54,"_law_fresh"),(55,"_law_value"),(56,"_law_kind"),(57,"_law_declared"),(58,"_law_procedure"),(59,"_law_source"),(60,"_law_seek"),(61,"_law_replay"),(62,"_law_told"),(63,"_law_written"),(64,"law"),(1000,"SourceItem.__init__"),(1001,"Occurrence.__init__"),(1002,"NameWalk.__init__"),(1003,"FormatError.__init__")]:List<|Nat×String).map λp=>(p.1,Str.ofString p.2)
noncomputable abbrev ke(P:Params)(x:Str)(n:Nat)(v:Value):DictEntry:=⟨PyData.keyHash P x,.str x n,v⟩
def Kb (P:Params):Frag:=[
 (1,⟨(.type "dict"),none,(.dict #[ke P "builtins" 162<|.ref 4,ke P "__main__" 163<|.ref 5] 2),#[]⟩),
 (3,⟨(.type "dict"),none,(.dict #[ke P "__name__" 165<|.str "law_pq0764_01" 735,ke P "__doc__" 166 .none,ke P "__package__" 167 .none,ke P "__loader__" 168<|.builtin "__main__.__loader__#opaque",ke P "__spec__" 169 .none,ke P "__annotations__" 170<|.ref 6,ke P "__builtins__" 171<|.ref 4,ke P "__file__" 173<|.str "/claim/cut.py" 172,ke P "__cached__" 174 .none,ke P "YardError" 208<|.ref 24,ke P "FormatError" 235<|.ref 44,ke P "keywords" 243<|.ref 53,ke P "is_letter" 250<|.ref 60,ke P "is_digit" 257<|.ref 67,ke P "is_hex_digit" 264<|.ref 74,ke P "SourceItem" 299<|.ref 91,ke P "gap_end" 307<|.ref 102,ke P "remark_end" 317<|.ref 109,ke P "string_end" 326<|.ref 116,ke P "word_end" 334<|.ref 123,ke P "digits_end" 342<|.ref 130,ke P "number_end" 353<|.ref 137,ke P "sign_end" 361<|.ref 144,ke P "row_stop" 369<|.ref 151,ke P "item_at" 381<|.ref 158,ke P "source_items" 392<|.ref 165,ke P "solid" 398<|.ref 170,ke P "std_functions" 406<|.ref 177,ke P "std_procedures" 412<|.ref 184,ke P "Occurrence" 447<|.ref 201,ke P "predeclared" 455<|.ref 212,ke P "NameWalk" 706<|.ref 418,ke P "walked" 714<|.ref 429,ke P "is_new_name" 722<|.ref 436,ke P "targets_of" 728<|.ref 441,ke P "rename" 734<|.ref 446,ke P "_law_stock" 747<|.ref 453,ke P "_law_pick" 755<|.ref 460,ke P "_law_emit" 763<|.ref 467,ke P "_law_mark" 771<|.ref 474,ke P "_law_any" 780<|.ref 481,ke P "_law_fresh" 791<|.ref 488,ke P "_law_value" 800<|.ref 495,ke P "_law_kind" 810<|.ref 502,ke P "_law_declared" 825<|.ref 509,ke P "_law_procedure" 840<|.ref 516,ke P "_law_source" 850<|.ref 523,ke P "_law_seek" 859<|.ref 530,ke P "_law_replay" 876<|.ref 537,ke P "_law_told" 886<|.ref 544,ke P "_law_written" 892<|.ref 549,ke P "law" 898<|.ref 554] 52),#[]⟩),
 (23,⟨(.type "dict"),none,(.dict #[ke P "__module__" 196<|.str "moduleyard.errors" 187,ke P "__firstlineno__" 200<|.int 2 199,ke P "__static_attributes__" 201<|.ref 22,ke P "__weakref__" 203<|.ref 25,ke P "__doc__" 204 .none] 3),#[]⟩),
 (24,⟨(.type "type"),none,(.cls {name:="YardError",bases:=[(.type "Exception")],mro:=[(.ref 24),(.type "Exception"),(.type "BaseException"),(.type "object")],ns:=23,qualname:="YardError",hasDict:=true,slotNames:=[],subclasses:=[(.ref 44)],abstract:=false,collection:=none,hasDel:=false}),#[(some<|.ref 15),none,(some<|.str "YardError" 189),(some<|.str "YardError" 197),(some<|.builtin "Exception.__new__"),(some<|.bool true)]⟩),
 (43,⟨(.type "dict"),none,(.dict #[ke P "__module__" 216<|.str "moduleyard.errors" 187,ke P "__firstlineno__" 220<|.int 4 219,ke P "__init__" 229<|.ref 41,ke P "__static_attributes__" 232<|.ref 42,ke P "__doc__" 233 .none] 2),#[]⟩),
 (44,⟨(.type "type"),none,(.cls {name:="FormatError",bases:=[(.ref 24)],mro:=[(.ref 44),(.ref 24),(.type "Exception"),(.type "BaseException"),(.type "object")],ns:=43,qualname:="FormatError",hasDict:=true,slotNames:=[],subclasses:=[],abstract:=false,collection:=none,hasDel:=false}),#[(some<|.ref 28),none,(some<|.str "FormatError" 209),(some<|.str "FormatError" 217),(some<|.builtin "Exception.__new__"),(some<|.bool true)]⟩),
 (90,⟨(.type "dict"),none,(.dict #[ke P "__module__" 274<|.str "moduleyard.srcitems" 265,ke P "__firstlineno__" 278<|.int 19 277,ke P "__init__" 288<|.ref 88,ke P "__static_attributes__" 292<|.ref 89,ke P "__dict__" 294<|.ref 92,ke P "__weakref__" 296<|.ref 93,ke P "__doc__" 297 .none] 4),#[]⟩),
 (91,⟨(.type "type"),none,(.cls {name:="SourceItem",bases:=[(.type "object")],mro:=[(.ref 91),(.type "object")],ns:=90,qualname:="SourceItem",hasDict:=true,slotNames:=[],subclasses:=[],abstract:=false,collection:=none,hasDel:=false}),#[none,none,(some<|.str "SourceItem" 267),(some<|.str "SourceItem" 275),(some<|.builtin "object.__new__"),(some<|.bool true)]⟩),
 (200,⟨(.type "dict"),none,(.dict #[ke P "__module__" 422<|.str "moduleyard.rename" 413,ke P "__firstlineno__" 426<|.int 126 425,ke P "__init__" 436<|.ref 198,ke P "__static_attributes__" 440<|.ref 199,ke P "__dict__" 442<|.ref 202,ke P "__weakref__" 444<|.ref 203,ke P "__doc__" 445 .none] 4),#[]⟩),
 (201,⟨(.type "type"),none,(.cls {name:="Occurrence",bases:=[(.type "object")],mro:=[(.ref 201),(.type "object")],ns:=200,qualname:="Occurrence",hasDict:=true,slotNames:=[],subclasses:=[],abstract:=false,collection:=none,hasDel:=false}),#[none,none,(some<|.str "Occurrence" 415),(some<|.str "Occurrence" 423),(some<|.builtin "object.__new__"),(some<|.bool true)]⟩),
 (417,⟨(.type "dict"),none,(.dict #[ke P "__module__" 463<|.str "moduleyard.rename" 413,ke P "__firstlineno__" 467<|.int 139 466,ke P "__init__" 475<|.ref 226,ke P "text" 482<|.ref 233,ke P "is_name" 489<|.ref 240,ke P "fail" 497<|.ref 247,ke P "skip" 505<|.ref 254,ke P "expect" 513<|.ref 261,ke P "name" 520<|.ref 268,ke P "target" 529<|.ref 275,ke P "declare" 539<|.ref 282,ke P "use" 547<|.ref 289,ke P "qualident" 554<|.ref 296,ke P "uses_until" 564<|.ref 303,ke P "statements" 573<|.ref 310,ke P "uses_one" 581<|.ref 317,ke P "module" 588<|.ref 324,ke P "import_one" 596<|.ref 331,ke P "body" 603<|.ref 338,ke P "declarations" 610<|.ref 345,ke P "marked" 618<|.ref 352,ke P "constant" 626<|.ref 359,ke P "type_declaration" 634<|.ref 366,ke P "variables" 643<|.ref 373,ke P "kind_of_type" 650<|.ref 380,ke P "record" 657<|.ref 387,ke P "pointed" 666<|.ref 394,ke P "resolve" 674<|.ref 401,ke P "parameters" 682<|.ref 408,ke P "procedure" 691<|.ref 415,ke P "__static_attributes__" 699<|.ref 416,ke P "__dict__" 701<|.ref 419,ke P "__weakref__" 703<|.ref 420,ke P "__doc__" 704 .none] 4),#[]⟩),
 (418,⟨(.type "type"),none,(.cls {name:="NameWalk",bases:=[(.type "object")],mro:=[(.ref 418),(.type "object")],ns:=417,qualname:="NameWalk",hasDict:=true,slotNames:=[],subclasses:=[],abstract:=false,collection:=none,hasDel:=false}),#[none,none,(some<|.str "NameWalk" 456),(some<|.str "NameWalk" 464),(some<|.builtin "object.__new__"),(some<|.bool true)]⟩)]
def fA (k:Nat):Nat:=(JP.lookup k).getD 0
noncomputable def cA(k:Nat):Nat:=(VD.lookup k).getD 0
noncomputable def qA(k:Nat):Str:=(WH.lookup k).getD Str.empty
noncomputable def mA(k:Nat):Value:=bif Nat.ble k 3 then .str "moduleyard.scanner" 236 else bif Nat.ble k 14 then .str "moduleyard.srcitems" 265 else bif Nat.ble k 16 then .str "moduleyard.universe" 399 else bif Nat.ble k 48 then .str "moduleyard.rename" 413 else bif Nat.ble k 64 then .str "law_pq0764_01" 735 else bif Nat.ble k 1000 then .str "moduleyard.srcitems" 265 else bif Nat.ble k 1002 then .str "moduleyard.rename" 413 else .str "moduleyard.errors" 187
def cw (r:Nat×Nat×Nat×Nat×Nat×Bool):Nat×Obj:=match r with
 |(k,t,l,a,z,b)=>(cA k,⟨.type "code",none,.fields #[.str (vy<|bL k) t,.str (qA k)<|t+1,.str "/claim/cut.py"<|t+2,.int l 0,.int a 0,.int 0 0,.int 0 0,.int 3 0,.ref<|cA k-cond b 5 3,.bool true,.int 181 0,.ref<|cA k-cond b 4 2,.none,cond b (.ref<|cA k-3) .none,cond b (.ref<|cA k-2) .none,.ref<|cA k-1,.int z 0,.int l 0,.str "/claim/cut.py"<|z+1],#[]⟩)
def Kc:Frag:=[(0,238,10,0,241,true),(1,244,12,1,248,true),(2,251,14,1,255,true),(3,258,16,1,262,true),(4,300,25,2,305,true),(5,308,29,2,315,true),(6,318,44,2,324,true),(7,327,51,2,332,true),(8,335,55,2,340,true),(9,343,59,2,351,true),(10,354,76,2,359,true),(11,362,82,2,367,true),(12,370,86,3,379,true),(13,382,109,1,390,true),(14,393,118,1,396,false),(15,401,121,0,404,true),(16,407,123,0,410,true),(17,448,132,0,453,true),(18,476,150,1,480,true),(19,483,155,1,487,true),(20,490,158,1,495,true),(21,498,164,2,503,true),(22,506,170,2,511,true),(23,514,174,1,518,true),(24,521,180,2,527,true),(25,530,186,3,537,true),(26,540,196,2,545,true),(27,548,199,1,552,true),(28,555,204,2,562,true),(29,565,218,1,571,true),(30,574,228,1,579,true),(31,582,236,1,586,true),(32,589,251,1,594,true),(33,597,259,1,601,true),(34,604,266,1,608,true),(35,611,285,1,616,true),(36,619,290,1,624,true),(37,627,297,1,632,true),(38,635,304,1,641,true),(39,644,314,1,648,true),(40,651,329,1,655,true),(41,658,342,1,664,true),(42,667,351,1,672,true),(43,675,356,1,680,true),(44,683,374,1,689,true),(45,707,386,1,712,true),(46,715,390,1,720,true),(47,723,397,1,726,false),(48,729,400,3,732,false),(49,737,425,1,745,true),(50,748,439,2,753,true),(51,756,445,2,761,true),(52,764,448,2,769,true),(53,772,452,2,778,true),(54,781,455,2,789,true),(55,792,463,2,798,true),(56,801,475,3,808,true),(57,811,497,4,823,true),(58,826,524,4,838,true),(59,841,555,1,848,true),(60,851,571,2,857,true),(61,860,576,2,874,true),(62,877,606,3,884,true),(63,887,611,3,890,false),(64,893,619,1,896,false),(1000,279,21,4,286,true),(1001,427,128,4,434,true),(1002,468,141,2,473,true),(1003,221,6,3,227,true)].map cw
def BM (k:Nat):Obj:=⟨.type "function",none,.func<|WI k (qA k) (mA k)<|.ref<|cA k,#[]⟩
def K0 (P:Params):Frag:=Kb P++(Kc++JP.map λp=>(p.2,BM p.1))
def Vr:List Nat:=[1,3,23,24,43,44,90,91,200,201,417,418]++(VD.map (·.2)++JP.map (·.2))
end Mine
end
section
open PySem PySem.W PySem.Calls PyProof.Rows
namespace Mine
def Iw {b d:Type}{f g:b->Option d}{l:List b}:(∀n∈l,f n=g n)->l.filterMap f=l.filterMap g:=by
 induction l with
 |nil=>intro _;exact rfl
 |cons a r i=>intro h;exact aa Z7<|aa Z7<|aa (h a<|.head _)<|aa (i λn c=>h n<|.tail _ c) rfl
def zN {b:List Str}:∀{a:List Value},a.length=b.length->∀n∈b,((b.zip a).lookup n).isSome=true:=by
 induction b with
 |nil=>intro a h n c;exact Xw c XY
 |cons x r i=>
  intro a h n c;cases a with
  |nil=>cases h
  |cons u t=>
   simp[Y8];by_cases e:n=x
   ·subst e;simp
   ·simp only[Yk.mpr e]
    exact i (by simpa using h) n<|(XE.mp c).resolve_left e
theorem uy:∀{b:List Str}{us:List Value},b.Nodup->us.length=b.length->b.filterMap (λn=>((b.zip us).lookup n).map (n,·))=b.zip us
 | [],us,_,h=>by simp
 |x::r,us,a,h=>by
  cases us with |nil=>cases h|cons u t=>
  rw[X9]at a;have a:=a;simp only[List.zip_cons_cons,Z7,Y8,ZP,Option.map_some];refine Xs _ (X6 (Iw λn c=>?_)<|uy (us:=t) a.2<|by simpa using h);have:n≠x:=λe=>a.1<|e▸c;simp[Yk.mpr this]
theorem pb(a)(f:b->Sem c):(pure a>>=f)=f a:=rfl
theorem sn:seqItems? Value.none=pure none:=rfl
def fz {c a d:Type}{z:List c}{b:a}{f:c->a->Sem (ForInStep a)}{K:a->Sem d}{r:Sem d}(e:z=[])(h:K b=r):(forIn z b f>>=K)=r:=by subst e;exact h
def yK {f:FuncData}{ps:List Arg}{u:List Value}(d:f.params=⟨[],ps,none,[],[],none,[]⟩)(a:f.defaults=.none)(e:(ps.map (·.arg)).Nodup)(b:u.length=ps.length):
  bindArgs f ⟨u,[]⟩=pure ((ps.map (·.arg)).zip u):=by
 have h1:u.length=(ps.map (·.arg)).length:=b.trans (XM _).symm;cases f;cases d;cases a;dsimp[bindArgs,pb,sn];refine(Xu λh=>XB (YY ((Xv _ _).mp h).1) h1).trans<|(Xu λh=>?_).trans<|fz (by rw[List.drop_nil,List.zip_nil_right])<|X6 (b:=pure<|List.filterMap (λn=>(((ps.map (·.arg)).zip u).lookup n).map (n,·))<|ps.map (·.arg)++[]) (by kernel_rfl)<|Xs pure<|(Xs _<|Ys _).trans<|uy e h1;refine eI ((Xs (λl=>!List.isEmpty l)<|List.filter_eq_nil_iff.mpr λn c q=>?_).symm.trans h) nt;exact eI ((zN h1 n<|ZD c).symm.trans<|Xs Option.isSome<|Option.isNone_iff_eq_none.mp q) nt
end Mine
end
section
namespace Mine
@[simp]theorem pf(a)(f:Nat->Option b):nV (.r a) f=f a:=rfl
@[simp]theorem cz(a)(f:Int->Option b):eP (.i a) f=f a:=rfl
@[simp]theorem oE(a)(f:List Nat->Option b):Dr (.s a) f=f a:=rfl
@[simp]theorem JY(a)(f:List V->Option b):Ed (.t a) f=f a:=rfl
@[simp]theorem RH(a)(f:Bool->Option b):rU (.b a) f=f a:=rfl
@[simp]theorem bh(a)(f:List V->Option b):hL (some<|.l a) f=f a:=rfl
@[simp]theorem rG(c)(a)(f:Nat->List (Nat×V)->Option b):hI (some<|.i c a) f=f c a:=rfl
@[simp]theorem Vh(a)(f:List Int->Option b):hO (some<|.ro a) f=f a:=rfl
@[simp]theorem mS(a)(f:List (List Nat×V)->Option b):hS (some<|.dS a) f=f a:=rfl
@[simp]theorem U0(a)(f:List (Int×V)->Option b):hD (some<|.dI a) f=f a:=rfl
@[simp]theorem Js(a:b)(H)(f:b->Hp->Option c):bV (some (a,H)) f=f a H:=rfl
@[simp]theorem b9(a:b)(f:b->Option c):oB (some a) f=f a:=rfl
@[simp]theorem Sa(f:a->Option b):oB none f=none:=rfl
def Mo:a4 step s=match step s with |some (.inl b)=>a4 step b|some (.inr r)=>some r|none=>none:=by
 cases h:step s with
 |none=>
  cases q:a4 step s with
  |none=>rfl
  |some r=>
   refine Xq (pw q) λn a=>?_;cases n with
   |zero=>simp[yG]at a
   |succ n=>simp[n6,h]at a
 |some x=>cases x with
  |inr r=>exact zv (n:=1) (by simp[n6,h])
  |inl b=>
   show a4 step s=a4 step b;cases q:a4 step b with
   |some r=>exact Xq (pw q) λn a=>zv (n:=n+1) (by simp[n6,h,a])
   |none=>
    cases q':a4 step s with
    |none=>rfl
    |some r=>
     refine Xq (pw q') λn a=>?_;cases n with
     |zero=>simp[yG]at a
     |succ n=>simp[n6,h]at a;rw[zv a]at q;exact cE q nt
def aU (h:HM k=some f)(a:v.length=f.p):ae (d+1) k v H=dy (XU (ae d) a4 (v.map some++List.replicate (f.vars-f.p) none) H f.body):=by show oB (HM k) _=_;exact aa h<|Xr a
section
@[simp]theorem kU(v)(H):rr (some v) H=some (v,H):=rfl
@[simp]theorem Hl(v)(H):qB (some (.v v,H))=some (v,H):=rfl
@[simp]theorem oS(v)(l):gv (some v::l) 0=some v:=rfl
@[simp]theorem CB(x)(l)(i):gv (x::l) (i+1)=gv l i:=rfl
@[simp]theorem JJ(x:Option a):gd true x=x:=rfl
@[simp]theorem Ir(i):ai c l (.i i) H=some (.i i,H):=rfl
@[simp]theorem zX(s):ai c l (.s s) H=some (.s s,H):=rfl
@[simp]theorem SE(b):ai c l (.b b) H=some (.b b,H):=rfl
@[simp]theorem tJ(i):ai c l (.v i) H=rr (gv l i) H:=rfl
def RK (f:Nat)(r:Option<|V×Hp):Option<|V×Hp:=bV r λv H=>nV v λa=>rr (bf H a f) H
@[simp]theorem ON(f a)(H):RK f (some (.r a,H))=rr (bf H a f) H:=rfl
@[simp]theorem US(e)(f):ai c l (.f e f) H=RK f (ai c l e H):=rfl
def QI (c:Cl)(k:Nat)(r:Option<|List V×Hp):Option<|V×Hp:=bV r λv H=>qB<|c k v H
@[simp]theorem DK(k)(v)(H):QI c k (some (v,H))=qB (c k v H):=rfl
@[simp]theorem I1(k)(a):ai c l (.c k a) H=QI c k (Zb c l a H):=rfl
def Iv (n:Nat)(r:Option<|V×Hp):Option<|V×Hp:=bV r λv H=>Ta v<|some (.r n,H)
@[simp]theorem Ou(n)(H):Iv n (some (.n,H))=some (.r n,H):=rfl
def Q3 (a:Cl)(c:Nat)(r:Option<|List V×Hp):Option<|V×Hp:=bV r λv H=>Iv H.length<|qB<|a (1000+c) (.r H.length::v)<|H++[.i c []]
@[simp]theorem OF(c)(v)(H):Q3 a c (some (v,H))=Iv H.length (qB<|a (1000+c) (.r H.length::v)<|H++[.i c []]):=rfl
@[simp]theorem Ut(c)(a):ai b l (.w c a) H=Q3 b c (Zb b l a H):=rfl
def HB (c:Cl)(k:Nat)(v:V)(r:Option<|List V×Hp):Option<|V×Hp:=bV r λa H=>qB<|c k (v::a) H
@[simp]theorem Mk(k)(v)(a)(H):HB c k v (some (a,H))=qB (c k (v::a) H):=rfl
def RG (c:Cl)(l:Lo)(k:Nat)(b:List ME)(r:Option<|V×Hp):Option<|V×Hp:=bV r λv H=>nV v λa=>gd (Ye H a)<|HB c k (.r a)<|Zb c l b H
@[simp]theorem OJ(k a)(b)(H):RG c l k b (some (.r a,H))=gd (Ye H a) (HB c k (.r a)<|Zb c l b H):=rfl
@[simp]theorem Sq(k)(o)(a):ai c l (.m k o a) H=RG c l k a (ai c l o H):=rfl
def GP (op:Op)(x:V)(r:Option<|V×Hp):Option<|V×Hp:=bV r λy H=>rr (fQ op x y) H
@[simp]theorem zK(op)(x y)(H):GP op x (some (y,H))=rr (fQ op x y) H:=rfl
def P8 (c:Cl)(l:Lo)(op:Op)(b:ME)(r:Option<|V×Hp):Option<|V×Hp:=bV r λx H=>GP op x<|ai c l b H
@[simp]theorem CR(op)(b)(x)(H):P8 c l op b (some (x,H))=GP op x (ai c l b H):=rfl
@[simp]theorem N9(op)(a b):ai c l (.o op a b) H=P8 c l op b (ai c l a H):=rfl
def QS (r:Option<|V×Hp):Option<|V×Hp:=bV r λv H=>rU v λb=>some (.b<|!b,H)
@[simp]theorem O3(b)(H):QS (some (.b b,H))=some (.b<|!b,H):=rfl
@[simp]theorem UH(a):ai c l (.N a) H=QS (ai c l a H):=rfl
@[simp]theorem AJ(a):ai c l (.a a) H=Za c l a H:=rfl
@[simp]theorem Hd(a):ai c l (.or a) H=ZT c l a H:=rfl
def T9 (r:Option<|V×Hp):Option<|V×Hp:=bV r λv H=>rU v λb=>some (.b b,H)
@[simp]theorem sL(b)(H):T9 (some (.b b,H))=some (.b b,H):=rfl
@[simp]theorem vW(a):Za c l [a] H=T9 (ai c l a H):=rfl
def Q4 (c:Cl)(l:Lo)(r:List ME)(q:Option<|V×Hp):Option<|V×Hp:=bV q λv H=>rU v λx=>if x then Za c l r H else some (.b false,H)
@[simp]theorem qJ(r)(x)(H):Q4 c l r (some (.b x,H))=if x then Za c l r H else some (.b false,H):=rfl
@[simp]theorem v4(a b)(r):Za c l (a::b::r) H=Q4 c l (b::r) (ai c l a H):=rfl
@[simp]theorem Az(a):ZT c l [a] H=T9 (ai c l a H):=rfl
def Vv (c:Cl)(l:Lo)(r:List ME)(q:Option<|V×Hp):Option<|V×Hp:=bV q λv H=>rU v λx=>if x then some (.b true,H)else ZT c l r H
@[simp]theorem tn(r)(x)(H):Vv c l r (some (.b x,H))=if x then some (.b true,H)else ZT c l r H:=rfl
@[simp]theorem zl(a b)(r):ZT c l (a::b::r) H=Vv c l (b::r) (ai c l a H):=rfl
@[simp]theorem wY(b)(H):bR (some b) H=some (.b b,H):=rfl
def Ib (op:Cp)(x:V)(r:Option<|V×Hp):Option<|V×Hp:=bV r λy H=>bR (aY H op x y) H
@[simp]theorem m0(op)(x y)(H):Ib op x (some (y,H))=bR (aY H op x y) H:=rfl
def P9 (c:Cl)(l:Lo)(op:Cp)(b:ME)(r:Option<|V×Hp):Option<|V×Hp:=bV r λx H=>Ib op x<|ai c l b H
@[simp]theorem qd(op)(b)(x)(H):P9 c l op b (some (x,H))=Ib op x (ai c l b H):=rfl
@[simp]theorem zF(op)(a b):ai c l (.q op a b) H=P9 c l op b (ai c l a H):=rfl
def Qp (c:Cl)(l:Lo)(a b:ME)(r:Option<|V×Hp):Option<|V×Hp:=bV r λv H=>rU v λt=>if t then ai c l a H else ai c l b H
@[simp]theorem OG(a b)(t)(H):Qp c l a b (some (.b t,H))=if t then ai c l a H else ai c l b H:=rfl
@[simp]theorem Um(c a b):ai d l (.e c a b) H=Qp d l a b (ai d l c H):=rfl
def Gv (x:V)(r:Option<|V×Hp):Option<|V×Hp:=bV r λy H=>rr (getItem H x y) H
@[simp]theorem Nl(x y)(H):Gv x (some (y,H))=rr (getItem H x y) H:=rfl
def Qe (c:Cl)(l:Lo)(i:ME)(r:Option<|V×Hp):Option<|V×Hp:=bV r λx H=>Gv x<|ai c l i H
@[simp]theorem OR(i)(x)(H):Qe c l i (some (x,H))=Gv x (ai c l i H):=rfl
@[simp]theorem Sm(a i):ai c l (.t a i) H=Qe c l i (ai c l a H):=rfl
def Gs (s i:V)(r:Option<|V×Hp):Option<|V×Hp:=bV r λj H=>rr (slc s i j) H
@[simp]theorem NS(s i j)(H):Gs s i (some (j,H))=rr (slc s i j) H:=rfl
def Ih (c:Cl)(l:Lo)(h:ME)(s:V)(r:Option<|V×Hp):Option<|V×Hp:=bV r λi H=>Gs s i<|ai c l h H
@[simp]theorem NH(h)(s i)(H):Ih c l h s (some (i,H))=Gs s i (ai c l h H):=rfl
def RI (c:Cl)(l:Lo)(a h:ME)(r:Option<|V×Hp):Option<|V×Hp:=bV r λs H=>Ih c l h s<|ai c l a H
@[simp]theorem OP(lo h)(s)(H):RI c l lo h (some (s,H))=Ih c l h s (ai c l lo H):=rfl
@[simp]theorem RY(a lo h):ai c l (.S a lo h) H=RI c l lo h (ai c l a H):=rfl
def Eo (s:V)(r:Option<|V×Hp):Option<|V×Hp:=bV r λi H=>rr (OU s i) H
@[simp]theorem My(s i)(H):Eo s (some (i,H))=rr (OU s i) H:=rfl
def Qi (c:Cl)(l:Lo)(a:ME)(r:Option<|V×Hp):Option<|V×Hp:=bV r λs H=>Eo s<|ai c l a H
@[simp]theorem OM(lo)(s)(H):Qi c l lo (some (s,H))=Eo s (ai c l lo H):=rfl
@[simp]theorem Jw(a lo):ai c l (.X a lo) H=Qi c l lo (ai c l a H):=rfl
def Px (r:Option<|List V×Hp):Option<|V×Hp:=bV r λv H=>some (.t v,H)
@[simp]theorem OV(v)(H):Px (some (v,H))=some (.t v,H):=rfl
@[simp]theorem S8(e):ai c l (.p e) H=Px (Zb c l e H):=rfl
def RT (r:Option<|List V×Hp):Option<|V×Hp:=bV r λv H=>some (.r H.length,H++[.l v])
@[simp]theorem Dg(v)(H):RT (some (v,H))=some (.r H.length,H++[.l v]):=rfl
@[simp]theorem IZ(e):ai c l (.l e) H=RT (Zb c l e H):=rfl
@[simp]theorem Vk:ai c l .dI H=some (.r H.length,H++[.dI []]):=rfl
def Vx (k:List<|List Nat)(r:Option<|List V×Hp):Option<|V×Hp:=bV r λv H=>Tq k v H
@[simp]theorem Pt(k)(v)(H):Vx k (some (v,H))=if v.length=k.length then some (.r H.length,H++[.dS<|k.zip v])else none:=rfl
@[simp]theorem VC(k)(e):ai c l (.dS k e) H=Vx k (Zb c l e H):=rfl
@[simp]theorem Ca:Zb c l [] H=some ([],H):=rfl
def HZ (v:V)(r:Option<|List V×Hp):Option<|List V×Hp:=bV r λa H=>some (v::a,H)
@[simp]theorem sB(v)(a)(H):HZ v (some (a,H))=some (v::a,H):=rfl
def PR (c:Cl)(l:Lo)(e:List ME)(r:Option<|V×Hp):Option<|List V×Hp:=bV r λv H=>HZ v<|Zb c l e H
@[simp]theorem u6(e)(v)(H):PR c l e (some (v,H))=HZ v (Zb c l e H):=rfl
@[simp]theorem yN(e)(a):Zb c l (e::a) H=PR c l a (ai c l e H):=rfl
@[simp]theorem Si(n)(H):iR (some n) H=some (.i n,H):=rfl
def QR (r:Option<|V×Hp):Option<|V×Hp:=bV r λx H=>iR (eu H x) H
@[simp]theorem OS(x)(H):QR (some (x,H))=iR (eu H x) H:=rfl
@[simp]theorem SX(a):ai c l (.n a) H=QR (ai c l a H):=rfl
def Hu (x:V)(r:Option<|V×Hp):Option<|V×Hp:=bV r λy H=>eP x λx=>eP y λy=>some (.i<|if x<y then y else x,H)
@[simp]theorem NY(x y)(H):Hu (.i x) (some (.i y,H))=some (.i<|if x<y then y else x,H):=rfl
def QM (c:Cl)(l:Lo)(b:ME)(r:Option<|V×Hp):Option<|V×Hp:=bV r λx H=>Hu x<|ai c l b H
@[simp]theorem O0(b)(x)(H):QM c l b (some (x,H))=Hu x (ai c l b H):=rfl
@[simp]theorem Tu(a b):ai c l (.x a b) H=QM c l b (ai c l a H):=rfl
def Ma (c:Cl)(a:Zx)(r:List MS)(x:Option<|Fl×Hp):Option<|Fl×Hp:=nx x λl H=>XU c a l H r
@[simp]theorem sA(l)(H)(r):Ma c a r (some (.n l,H))=XU c a l H r:=rfl
@[simp]theorem oG(v)(H)(r):Ma c l r (some (.r v,H))=some (.r v,H):=rfl
@[simp]theorem A5:XU c a l H []=some (.n l,H):=rfl
@[simp]theorem aW(s)(r):XU c a l H (s::r)=Ma c a r (bw c a l H s):=rfl
def RA (l:Lo)(i:Nat)(r:Option<|V×Hp):Option<|Fl×Hp:=bV r λv H=>some (.n<|l.set i<|some v,H)
@[simp]theorem qC(i)(v)(H):RA l i (some (v,H))=some (.n<|l.set i<|some v,H):=rfl
@[simp]theorem tl(i)(e):bw c a l H (.s i e)=RA l i (ai c l e H):=rfl
def Rr (l:Lo)(r:Option<|V×Hp):Option<|Fl×Hp:=bV r λ_ H=>some (.n l,H)
@[simp]theorem O5(v)(H):Rr l (some (v,H))=some (.n l,H):=rfl
@[simp]theorem Su(e):bw c a l H (.x e)=Rr l (ai c l e H):=rfl
def QC (c:Cl)(a:Zx)(l:Lo)(t f:List MS)(r:Option<|V×Hp):Option<|Fl×Hp:=bV r λv H=>rU v λb=>if b then XU c a l H t else XU c a l H f
@[simp]theorem OY(t f)(b)(H):QC c a l t f (some (.b b,H))=if b then XU c a l H t else XU c a l H f:=rfl
@[simp]theorem lc(c)(t f):bw a b l H (.i c t f)=QC a b l t f (ai a l c H):=rfl
def Qc (r:Option<|V×Hp):Option<|Fl×Hp:=bV r λv H=>some (.r v,H)
@[simp]theorem iZ(v)(H):Qc (some (v,H))=some (.r v,H):=rfl
@[simp]theorem nP(e):bw c a l H (.r e)=Qc (ai c l e H):=rfl
@[simp]theorem xz(H):rS l (some H)=some (.n l,H):=rfl
def Fd (l:Lo)(f:Nat)(v:V)(r:Option<|V×Hp):Option<|Fl×Hp:=bV r λx H=>nV x λa=>rS l<|By H a f v
@[simp]theorem Od(f)(v)(a)(H):Fd l f v (some (.r a,H))=rS l (By H a f v):=rfl
def Rx (c:Cl)(l:Lo)(o:ME)(f:Nat)(r:Option<|V×Hp):Option<|Fl×Hp:=bV r λv H=>Fd l f v<|ai c l o H
@[simp]theorem OI(o)(f)(v)(H):Rx c l o f (some (v,H))=Fd l f v (ai c l o H):=rfl
@[simp]theorem Sh(o)(f)(e):bw c a l H (.f o f e)=Rx c l o f (ai c l e H):=rfl
def OD (l:Lo)(v x:V)(r:Option<|V×Hp):Option<|Fl×Hp:=bV r λy H=>rS l<|setItem H x y v
@[simp]theorem Pg(v x y)(H):OD l v x (some (y,H))=rS l (setItem H x y v):=rfl
def Ms (c:Cl)(l:Lo)(i:ME)(v:V)(r:Option<|V×Hp):Option<|Fl×Hp:=bV r λx H=>OD l v x<|ai c l i H
@[simp]theorem O4(i)(v x)(H):Ms c l i v (some (x,H))=OD l v x (ai c l i H):=rfl
def Vu (c:Cl)(l:Lo)(o i:ME)(r:Option<|V×Hp):Option<|Fl×Hp:=bV r λv H=>Ms c l i v<|ai c l o H
@[simp]theorem P0(o i)(v)(H):Vu c l o i (some (v,H))=Ms c l i v (ai c l o H):=rfl
@[simp]theorem SB(o i e):bw c a l H (.t o i e)=Vu c l o i (ai c l e H):=rfl
def FO (l:Lo)(a:Nat)(r:Option<|V×Hp):Option<|Fl×Hp:=bV r λv H=>rS l<|bF H a v
@[simp]theorem zP(a)(v)(H):FO l a (some (v,H))=rS l (bF H a v):=rfl
def Pj (c:Cl)(l:Lo)(e:ME)(r:Option<|V×Hp):Option<|Fl×Hp:=bV r λx H=>nV x λa=>gd (mB H a)<|FO l a<|ai c l e H
@[simp]theorem C5(e)(a)(H):Pj c l e (some (.r a,H))=gd (mB H a) (FO l a<|ai c l e H):=rfl
@[simp]theorem N8(o e):bw c a l H (.a o e)=Pj c l e (ai c l o H):=rfl
def RU (l:Lo)(r:Option<|V×Hp):Option<|Fl×Hp:=bV r λx H=>nV x λa=>rS l<|AD H a
@[simp]theorem Dd(a)(H):RU l (some (.r a,H))=rS l (AD H a):=rfl
@[simp]theorem LK(o):bw c a l H (.rvs o)=RU l (ai c l o H):=rfl
@[simp]theorem RQ(i)(z)(H):Oz l i (some z) H=some (.n<|l.set i<|some z,H):=rfl
def MB (l:Lo)(i:Nat)(op:Op)(x:V)(r:Option<|V×Hp):Option<|Fl×Hp:=bV r λy H=>Oz l i (d6 op x y) H
@[simp]theorem O9(i)(op)(x y)(H):MB l i op x (some (y,H))=Oz l i (d6 op x y) H:=rfl
def Va (c:Cl)(l:Lo)(i:Nat)(op:Op)(e:ME)(H:Hp)(r:Option V):Option<|Fl×Hp:=oB r λx=>MB l i op x<|ai c l e H
@[simp]theorem Ri(i)(op)(e)(H)(x):Va c l i op e H (some x)=MB l i op x (ai c l e H):=rfl
@[simp]theorem SC(i)(op)(e):bw c a l H (.v i op e)=Va c l i op e H (gv l i):=rfl
def WV (l:Lo)(i:List Nat)(v:V):Option Lo:=Ed v λa=>ZG l i a
end
def u5 (a:Cl)(c:ME)(b:List MS)(r:Option<|Fl×Hp):Option<|Fl×Hp:=fx r λl H=>bw a a4 l H<|.w c b
@[simp]theorem zS(c)(b)(l)(H):u5 a c b (some (.n l,H))=bw a a4 l H (.w c b):=rfl
def Kx (a:Cl)(l:Lo)(c:ME)(b:List MS)(r:Option<|V×Hp):Option<|Fl×Hp:=bV r λv H=>rU v λt=>if t then u5 a c b (XU a a4 l H b)else some (.n l,H)
@[simp]theorem qg(c)(b)(t)(H):Kx a l c b (some (.b t,H))=if t then u5 a c b (XU a a4 l H b)else some (.n l,H):=rfl
def aG:bw a a4 l H (.w c b)=Kx a l c b (ai a l c H):=by
 refine(yB.trans Mo).trans ?_;cases h:ai a l c H with
 |none=>rfl
 |some r=>
  obtain⟨v,d⟩:=r;cases v with
  |b e=>
   cases e with
   |false=>rfl
   |true=>show(match QZ (XU a a4 l d b)with |some (.inl s)=>a4 _ s|some (.inr r)=>some r|none=>none)=u5 a c b (XU a a4 l d b);rcases XU a a4 l d b with _|⟨_|_|_,_⟩<;>rfl
  |_=>rfl
@[simp]theorem Mr(l)(H):dy (some (.n l,H))=some (.v .n,H):=rfl
@[simp]theorem i6(v)(H):dy (some (.r v,H))=some (.v v,H):=rfl
@[simp]theorem Us(H)(a b):aY H .l (.i a) (.i b)=some (decide (a<b)):=rfl
@[simp]theorem Ub(H)(a b):aY H .le (.i a) (.i b)=some (decide (a<=b)):=rfl
@[simp]theorem Uj(H)(a b):aY H .g (.i a) (.i b)=some (decide (b<a)):=rfl
@[simp]theorem T4(H)(a b):aY H .ge (.i a) (.i b)=some (decide (b<=a)):=rfl
@[simp]theorem vz(H)(a b):aY H .le (.s a) (.s b)=some (mR a b):=rfl
@[simp]theorem Sb(H)(a b):aY H .e (.s a) (.s b)=some (decide (a=b)):=rfl
@[simp]theorem Sz(H)(a b):aY H .n (.s a) (.s b)=some (!decide (a=b)):=rfl
@[simp]theorem SQ(H)(a b):aY H .e (.i a) (.i b)=some (decide (a=b)):=rfl
@[simp]theorem R9(H)(a b):aY H .n (.i a) (.i b)=some (!decide (a=b)):=rfl
@[simp]theorem TR(H)(a b):aY H .i a b=fX H a b:=rfl
@[simp]theorem Ud(a b):fQ .a (.i a) (.i b)=xI (a+b):=rfl
@[simp]theorem Th(a b):fQ .s (.i a) (.i b)=xI (a-b):=rfl
def wU (b c)(H:Hp):(if b=true then some (V.b c,H)else some (V.b false,H))=some (V.b<|b&&c,H):=by cases b<;>rfl
def AG (b c)(H:Hp):(if b=true then some (V.b true,H)else some (V.b c,H))=some (V.b<|b||c,H):=by cases b<;>rfl
def Ar (a b):mR [a] [b]=decide (a<=b):=by
 simp only[pH,pF];by_cases h:a<b
 ·simp[h,YR h]
 ·by_cases c:b<a
  ·simp[h,c,Nat.not_le_of_lt c]
  ·have:a=b:=Zu (wD c)<|wD h
   clear h c;subst this;simp
noncomputable def dv(c:Nat):Bool:=(decide (97<=c)&&decide (c<=122))||(decide (65<=c)&&decide (c<=90))
noncomputable def eG(c:Nat):Bool:=decide (48<=c)&&decide (c<=57)
def HO (c:Nat):Bool:=eG c||(decide (65<=c)&&decide (c<=70))
noncomputable def h1(p:Nat->Bool):List Nat->Bool
 | []=>false
 |c::_=>p c
def f1 (d)(H)(r):ae (d+1) 1 [.s<|r.take 1] H=some (.v<|.b<|h1 dv r,H):=by
 refine aa (aU (f:=kJ) rfl rfl) ?_;cases r with
 |nil=>rfl
 |cons c r=>simp only[kJ,dv,aW,nP,Hd,Az,zl,AJ,vW,v4,zF,zX,tJ,oS,kU,qd,m0,vz,Ar,wY,sL,qJ,tn,wU,AG,iZ,oG,i6,h1,af,map_nil,take_succ_cons,take_zero,sub_self,replicate_zero,Ys]
def f2 (d)(H)(r):ae (d+1) 2 [.s<|r.take 1] H=some (.v<|.b<|h1 eG r,H):=by
 refine aa (aU (f:=nD) rfl rfl) ?_;cases r with
 |nil=>rfl
 |cons c r=>simp only[nD,eG,aW,nP,Hd,Az,zl,AJ,vW,v4,zF,zX,tJ,oS,kU,qd,m0,vz,Ar,wY,sL,qJ,tn,wU,AG,iZ,oG,i6,h1,af,map_nil,take_succ_cons,take_zero,sub_self,replicate_zero,Ys]
def f3 (d)(H)(r):ae (d+2) 3 [.s<|r.take 1] H=some (.v<|.b<|h1 HO r,H):=by
 rw[aU (f:=gu) rfl rfl];have q:=f2 d H r;cases r with
 |nil=>simp only[List.take_nil,h1]at q;exact j6 λj=>j _ _ q _ rfl
 |cons c r=>simp only[take_succ_cons,take_zero,h1]at q;simp only[gu,HO,I1,yN,Ca,u6,sB,DK,q,Hl,aW,nP,Hd,Az,zl,AJ,vW,v4,zF,zX,tJ,oS,kU,qd,m0,vz,Ar,wY,sL,qJ,tn,wU,AG,iZ,oG,i6,h1,af,map_nil,take_succ_cons,take_zero,sub_self,replicate_zero,Ys]
def Wq (d:Cl)(l:Lo)(H:Hp)(c:ME)(b:List MS):Prop:=fu IJ d l c H λv a=>IR v (kwB IJ LE d a4 l a (λf a=>match f with | .r v=>bw d a4 l H (.w c b)=some (.r v,a)|_=>True) b λe a=>bw d a4 l H (.w c b)=bw d a4 e a (.w c b))<|bw d a4 l H (.w c b)=some (.n l,a)
def xh (h:Wq a l H c b->bw a a4 l H (.w c b)=r):Kx a l c b (ai a l c H)=r:=by
 rw[<- aG];refine h<|aH qU _ _ _ λv d q=>?_;have e:bw a a4 l H (.w c b)=Kx a l c b (some (v,d)):=by rw[aG,q]
 cases v with
 |b t=>cases t with
  |false=>exact e
  |true=>refine ZR qU uC _ _ _ _ λf d q=>?_;have e:bw a a4 l H (.w c b)=u5 a c b (XU a a4 l _ b):=e;rw[q]at e;cases f with |n g=>exact e|r v=>exact e|e=>trivial
 |_=>trivial
def RW (h:bw c a l H s=some (.n l',H'))(k:XU c a l' H' r=R):XU c a l H (s::r)=R:=by show nx _ _=_;rw[h];exact k
def VN (e:ai a l c H=some (.b true,H1))(h:XU a a4 l H1 b=some (.n f,d))(k:bw a a4 f d (.w c b)=R):bw a a4 l H (.w c b)=R:=by rw[aG,e];show u5 _ _ _ _=_;rw[h];exact k
def Xf (d k:Nat)(v:List V)(H:Hp)(f:Fn):Prop:=kwB IJ LE (ae d) a4 (v.map some++List.replicate (f.vars-f.p) none) H (λr a=>ae (d+1) k v H=PA r a) f.body λ_ a=>ae (d+1) k v H=some (.v .n,a)
def sw (b:HM k=some f)(c:v.length=f.p)(h:Xf d k v H f->ae (d+1) k v H=r):ae (d+1) k v H=r:=h (ZR qU uC _ _ _ _ λa e q=>by rw[aU b c,q];cases a with |n l=>exact rfl|_=>exact rfl)
def kB (h:H[a]?=some (.l l)):mB H a=true:=by unfold mB;rw[h]
section
variable{H:Hp}{a:Nat}{i:Int}{s:List Nat}{v:V}
def Ad (h:H[a]?=some (.l l)):getItem H (.r a) (.i i)=(nW l.length i).bind (l[·]?):=by show oB H[a]? _=_;rw[h];rfl
def Mi (h:H[a]?=some (.dI l)):getItem H (.r a) (.i i)=eH i l:=by show oB H[a]? _=_;rw[h];rfl
def P1 (h:H[a]?=some (.dS l)):getItem H (.r a) (.s s)=qI s l:=by show hS H[a]? _=_;rw[h];rfl
def Nu (h:H[a]?=some (.l l)):setItem H (.r a) (.i i) v=(nW l.length i).map λk=>H.set a<|.l<|l.set k v:=by show oB H[a]? _=_;rw[h];rfl
def PM (h:H[a]?=some (.dI l)):setItem H (.r a) (.i i) v=if l.length<=1000 then some (H.set a<|.dI<|kX i v l)else none:=by show oB H[a]? _=_;rw[h];rfl
def PD (h:H[a]?=some (.dS l)):setItem H (.r a) (.s s) v=if l.length<=1000 then some (H.set a<|.dS<|v8 s v l)else none:=by show hS H[a]? _=_;rw[h];rfl
end
def mZ {n:Nat}(h:n<=1000000):sm (n:Int)=true:=Bm (ZS (by decide)<|YD _)<|Yi.mpr<|Yc h<|nl rfl
def wE (n i:Nat):Du n (i:Int)=min i n:=by unfold Du;simp
def jP (h:sh s=true):s.length<=100000:=e6.mp h
def At (s r:List Nat)(p:Int):Prop:=sh s=true/\∃a,s=a++r/\p=a.length
section
variable{src rest:List Nat}{p:Int}
def At.sh (h:At src rest p):Mine.sh src=true:=h.1
def At.len (h:At src rest p)(H:Hp):eu H (.s src)=some (src.length:Int):=by simp[eu,h.1]
def At.lt {c:Nat}{r:List Nat}(h:At src (c::r) p):p<src.length:=by refine ib h λ_ b e a=>?_;subst e;subst a;refine aa Xx<|aa aE ?_;exact(Yi).mpr<|aK 0xb42c03013 tq
def At.ge (h:At src [] p):¬p<src.length:=by refine ib h λ_ b e a=>?_;subst e;subst a;simp
def At.move {g r:List Nat}(h:At src (g++r) p):At src r<|p+g.length:=by refine ib h λc a e b=>?_;subst e;subst b;exact⟨c,a++g,by simp,by simp⟩
def At.next {c:Nat}{r:List Nat}(h:At src (c::r) p):At src r<|p+1:=At.move (g:=[c]) h
def At.slc (h:At src rest p)(m:Nat)(f:m<=200000):slc (.s src) (.i p) (.i<|p+(m:Int))=xS (rest.take m):=by
 refine ib h λc a e d=>?_;subst e;subst d;have b:=jP c;rw[Xx]at b;simp only[Mine.slc,oE,cz];refine aa (by rfl:((a.length:Int)+(m:Int))=((a.length+m:Nat):Int))<|aa (mZ<|by exact aK 0x7a120441200c35044206065b tq b)<|aa (mZ<|by exact ba 0x7a1204420648061a8110865b00c35044406065b tq b f)<|aa c ?_;simp only[ZL,if_true,wE];unfold GN;refine aa Xx<|aa (min_eq_left<|Xz _ _) ?_;by_cases h:m<=rest.length
 ·refine aa (min_eq_left<|Zo ‹_› _)<|aa List.take_append<|aa List.drop_append ?_
  simp[ZC]
 ·refine aa (Nat.min_eq_right<|by exact ba 0x1018103241106bb tq h)<|aa (ZC<|by rw[Xx];exact XC _)<|aa List.drop_append<|aa (ZC<|by exact aK 0x8240086bb tq h) ?_
  simp
def At.aa7 (h:At src rest p):Mine.slc (.s src) (.i p) (.i<|p+1)=xS (rest.take 1):=h.slc 1<|nl rfl
def At.ZU (h:At src rest p):Mine.slc (.s src) (.i p) (.i<|p+2)=xS (rest.take 2):=h.slc 2<|nl rfl
def At.abg {g r:List Nat}(h:At src (g++r) p):Mine.slc (.s src) (.i p) (.i<|p+(g.length:Int))=xS g:=by
 have b:g.length<=200000:=by refine ib h λc d e a=>?_;subst e;subst a;have:=jP c;simp at this;exact ba 0x61a811048030d411101816065b tq this
 refine aa (h.slc g.length b) ?_;simp
def At.item (h:At src (c::r) p)(H:Hp):getItem H (.s src) (.i p)=xS [c]:=by
 refine ib h λf a e d=>?_;subst e;subst d;have b:=jP f;rw[Xx,aE]at b;have h1:nW (a++c::r).length (a.length:Int)=some a.length:=by unfold nW;refine aa (Xr<|mZ<|by exact aK 0x3d09022090061a8221685806065b tq b)<|aa (Xr<|YD _)<|aa (Xr<|by simp) ?_;simp
 simp only[getItem,h1,aat,Zy<|XC _,sub_self,getElem?_cons_zero,Option.map_some,cz,b9,mS]
end
def HU (g:List Nat):∀(b:List Nat) (p:Int),At src (g++b) p->(∀c∈g,c<=32)->h1 (λc=>decide (c<=32)) b=false->
  bw (ae d) a4 [xS src,xI p] H oU=some (.n [xS src,xI<|p+g.length],H):=by
 induction g with
 |nil=>
  intro b p a f h;refine aa aG ?_;cases b with
  |nil=>exact X6 (xh λj=>j _ (a.len _) _<|fw rfl a.ge) (by simp)
  |cons c r=>
   have e:¬((c:Int)<=32):=by simp only[h1,ab7]at h;exact mt (YL (n:=32)).mp h
   exact X6 (xh λj=>j _ (a.len _) _ (kj rfl a.lt) _ (a.item _) _ rfl _ (fw rfl e)) (by simp)
 |cons c g i=>
  intro b p a f h;have i:=i b (p+1) a.next (λx k=>f x<|.tail _ k) h;have e:(c:Int)<=32:=by have:=f c<|.head _;exact(YL (n:=32)).mpr this
  have a:At src (c::(g++b)) p:=a;exact X6 (aG.trans<|xh λj=>(j _ (a.len _) _ (kj rfl a.lt) _ (a.item _) _ rfl _ (kj rfl e) _ rfl).trans i) (by simp;exact(ZN ..).trans<|Xs _<|Int.add_comm ..)
def f4 {d:Nat}{H:Hp}{s g b:List Nat}{p:Int}(a:At s (g++b) p)(h:∀c∈g,c<=32)(e:h1 (λc=>decide (c<=32)) b=false):
  ae (d+1) 4 [.s s,.i p] H=some (.v<|.i<|p+g.length,H):=by
 exact sw (f:=uR) rfl rfl λj=>j _ _<|HU g b p a h e
def DL (g):∀(b:List Nat) (p:Int),At src (g++b) p->(∀c∈g,(dv c||eG c)=true)->h1 (λc=>dv c||eG c) b=false->
  bw (ae<|d+1) a4 [xS src,xI p] H mJ=some (.n [xS src,xI<|p+g.length],H):=by
 induction g with
 |nil=>
  intro b p a k h;have t:h1 dv b=false:=by cases b with |nil=>rfl|cons c r=>simp[h1,Bool.or_eq_false_iff]at h;exact h.1
  have u:h1 eG b=false:=by cases b with |nil=>rfl|cons c r=>simp only[h1,Bool.or_eq_false_iff]at h;exact h.2
  have f:At src b p:=a;exact X6 (aG.trans<|xh λj=>j _ rfl _ f.aa7 (.b false) _ ((f1 _ _ b).trans<|by rw[t]) _ rfl _ f.aa7 (.b false) _ ((f2 _ _ b).trans<|by rw[u])) (by simp)
 |cons c g i=>
  intro b p a k h;have i:=i b (p+1) a.next (λx s=>k x<|.tail _ s) h;have n:=k c<|.head _;have q:=f1 d H<|c::(g++b);have m:=f2 d H<|c::(g++b);simp only[take_succ_cons,take_zero,h1]at q m;have f:At src (c::(g++b)) p:=a;have l:=f.aa7;have e:some (Fl.n [xS src,xI<|p+1+g.length],H)=some (.n [xS src,xI<|p+(c::g).length],H):=by simp;exact(ZN ..).trans<|Xs _<|Int.add_comm ..
  cases hl:dv c with
  |true=>exact X6 (aG.trans<|xh λj=>(j _ rfl _ l (.b true) _ (q.trans<|by rw[hl]) _ rfl).trans i) e
  |false=>
   have o:eG c=true:=by simpa [hl]using n
   exact X6 (aG.trans<|xh λj=>(j _ rfl _ l (.b false) _ (q.trans<|by rw[hl]) _ rfl _ l (.b true) _ (m.trans<|by rw[o]) _ rfl).trans i) e
def f7 (a:At src (g++post) p)(h:∀c∈g,(dv c||eG c)=true)(b:h1 (λc=>dv c||eG c) post=false):
  ae (d+2) 7 [.s src,.i p] H=some (.v<|.i<|p+g.length,H):=by
 exact sw (f:=ua) rfl rfl λj=>j _ _<|DL g post p a h b
def f8 (a:At src (49::r) p)(b:h1 eG r=false):ae (d+2) 8 [.s src,.i p] H=some (.v<|.i<|p+1,H):=by have c:=a.aa7;have h:=a.next.aa7;have q:=f2 d H<|49::r;have e:=f2 d H r;have w:bw (ae<|d+1) a4 [xS src,xI p] H kw=some (.n [xS src,xI<|p+1],H):=aG.trans<|xh λj=>(j _ rfl _ c _ _ q _ rfl).trans<|aG.trans<|xh λj=>j _ rfl _ h (.b false) _ (e.trans<|by rw[b]);exact j6 λj=>j _ _ w
def f9 (a:At src (49::c::r) p)(b:c=32\/c=58):ae (d+3) 9 [.s src,.i p] H=some (.v<|.i<|p+1,H):=by
 have f:=a.aa7;have h:=a.next.aa7;have q:=f3 d H<|49::c::r;have g:=f3 d H<|c::r;simp only[take_succ_cons,take_zero,h1]at f h q g;have i:HO c=false:=by rcases b with rfl|rfl<;>decide
 have k:h1 eG (c::r)=false:=by rcases b with rfl|rfl<;>(simp only[h1];decide)
 have l:=f8 (d:=d) (H:=H) a k;have n1:c≠72/\c≠88/\c≠46:=by rcases b with rfl|rfl<;>decide
 have w:bw (ae<|d+2) a4 [xS src,xI p,xI p,none,none] H kz=some (.n [xS src,xI p,xI<|p+1,none,none],H):=aG.trans<|xh λj=>(j _ rfl _ f _ _ q _ rfl).trans<|aG.trans<|xh λj=>j _ rfl _ h (.b false) _ (g.trans<|by rw[i]);exact j6 λj=>j _ _ w _ rfl _ h false (by simp[fX,Jh,Bc,n1]) _ _ l _ rfl _ h _ (Jk rfl λe=>n1.2.2 (Z6 e).1)
def da (s:List Nat)(l:List<|List Nat):t7 s (l.map V.s)=some (l.contains s):=by
 induction l with
 |nil=>exact rfl
 |cons t r i=>simp only[af,Bc,i,Option.map_some,List.contains_cons,oE];congr 1;by_cases h:s=t<;> simp[h]
noncomputable def El:List<|List Nat:=[[65,82,82,65,89],[66,69,71,73,78],[66,89],[67,65,83,69],[67,79,78,83,84],[68,73,86],[68,79],[69,76,83,69],[69,76,83,73,70],[69,78,68],[70,79,82],[73,70],[73,77,80,79,82,84],[73,78],[73,83],[77,79,68],[77,79,68,85,76,69],[78,73,76],[79,70],[79,82],[80,79,73,78,84,69,82],[80,82,79,67,69,68,85,82,69],[82,69,67,79,82,68],[82,69,80,69,65,84],[82,69,84,85,82,78],[84,72,69,78],[84,79],[84,89,80,69],[85,78,84,73,76],[86,65,82],[87,72,73,76,69]]
def Pe:V:=.t<|El.map V.s
def f0:ae (d+1) 0 [] H=some (.v Pe,H):=by exact sw (f:=sI) rfl rfl λj=>j
def bg (H:Hp)(o:AO):(H++[o])[H.length]?=some o:=by simp
def xt (H:Hp)(o a:AO):(H++[o]).set H.length a=H++[a]:=by simp
def FL (h:H[a]?=some (.i c b))(o:DD c f=true):By H a f v=some (H.set a<|.i c<|oY f v b):=by unfold By;rw[h];exact Xr o
def jq (h:DD c f=true):By (H++[.i c a]) H.length f v=some (H++[.i c<|oY f v a]):=by simp[By,h]
noncomputable def vF(k t:List Nat)(p:Int):AO:=.i 0 [(0,.s k),(1,.s t),(2,.i p)]
def r6:ae (d+1) 1000 [.r H.length,.s k,.s t,.i p] (H++[.i 0 []])=some (.v .n,H++[vF k t p]):=by exact sw (f:=ij) rfl rfl λj=>j _ (jq (H:=H) (c:=0) (f:=0) rfl) _ (jq (H:=H) (c:=0) (f:=1) rfl) _<|jq (H:=H) (c:=0) (f:=2) rfl
noncomputable def Ah:List<|List Nat:=[[58,61],[60,61],[62,61],[46,46]]
noncomputable def Pc:List Nat:=[43,45,42,47,126,38,46,44,59,124,40,91,123,94,61,35,60,62,58,41,93,125]
def UQ (a:At src (58::61::r) p):ae (d+1) 10 [.s src,.i p] H=some (.v<|.i<|p+2,H):=by have h:=a.ZU;exact j6 λj=>j _ rfl _ h _ rfl _ rfl
def Ti {d:Nat}{H:Hp}{s r:List Nat}{p:Int}{c:Nat}(a:At s (c::r) p)(h:Ah.contains (c::r.take 1)=false)(b:Pc.contains c=true):ae (d+1) 10 [.s s,.i p] H=some (.v<|.i<|p+1,H):=by
 have f:=a.ZU;have e:fX H (.s<|c::r.take 1) (.t [.s [58,61],.s [60,61],.s [62,61],.s [46,46]])=some false:=by have:=da (c::r.take 1) Ah;rw[h]at this;exact this
 exact j6 λj=>j _ rfl _ f _ e _ ((At.item a) _) _ (Xs some b:fX H (.s [c]) (.s [43,45,42,47,126,38,46,44,59,124,40,91,123,94,61,35,60,62,58,41,93,125])=some true) _ rfl
def f5 (a:At src (40::42::32::100::32::42::41::r) p):ae (d+1) 5 [.s src,.i p] H=some (.v<|.i<|p+7,H):=by have b:=a.next.next;rw[(ZN ..)]at b;have c:=b.next;have e:=c.next;have h:=a.len (H:=H);have f:=e.next;exact j6 λj=>j _ _ (aG.trans (xh λj=>(j _ h _ (kj rfl a.lt) _ rfl _ a.ZU _ rfl _ rfl _ rfl).trans<|aG.trans<|xh λj=>(j _ h _ (kj rfl b.lt) _ rfl _ b.ZU _ rfl _ rfl _ rfl).trans<|aG.trans<|xh λj=>(j _ h _ (kj rfl c.lt) _ rfl _ c.ZU _ rfl _ rfl _ rfl).trans<|aG.trans<|xh λj=>(j _ h _ (kj rfl e.lt) _ rfl _ e.ZU _ rfl _ rfl _ rfl).trans<|aG.trans<|xh λj=>(j _ h _ (kj rfl f.lt) _ rfl _ f.ZU _ rfl _ rfl _ rfl _ rfl _ rfl).trans<|by rw[(by simp only[ZN];rfl:p+2+1+1+1+2=p+7)]):bw (ae d) a4 [xS src,xI p,xI 0,none] H kp=some (.r<|.i<|p+7,H))
noncomputable def eJ:List Nat:=[103,97,112]
noncomputable def no:List Nat:=[114,101,109,97,114,107]
noncomputable def ac:List Nat:=[119,111,114,100]
noncomputable def Xy:List Nat:=[110,97,109,101]
noncomputable def oJ:List Nat:=[110,117,109,98,101,114]
noncomputable def ak:List Nat:=[115,105,103,110]
noncomputable def uo:List Nat:=[40,42,32,100,32,42,41]
def xw (c:Nat):Bool:=dv c||eG c
inductive jc:List Nat->List Nat->List Nat->Prop
 |gap {c:Nat}{t post:List Nat}:(∀x∈c::t,x<=32)->h1 (λc=>decide (c<=32)) post=false->jc (c::t) post eJ
 |rem {post:List Nat}:jc uo post no
 |word {c:Nat}{t post:List Nat}:dv c=true->(∀x∈c::t,xw x=true)->h1 xw post=false->jc (c::t) post (if El.contains (c::t)then ac else Xy)
 |num {c:Nat}{post:List Nat}:c=32\/c=58->jc [49] (c::post) oJ
 |abt {post:List Nat}:jc [58,61] post ak
 |aa1 {c:Nat}{post:List Nat}:Pc.contains c=true->Ah.contains (c::post.take 1)=false->(c::post.take 1)≠[40,42]->jc [c] post ak
def Ip:∀c∈Pc,dv c=false/\eG c=false/\¬(c<=32)/\c≠34:=by decide
def AX (h:xw c=true):c<128:=by have q:∀{a b:Nat},(decide (a<=c)&&decide (c<=b))=true->Nat.ble b 127=true->c<128:=λh e=>aak<|XJ (YY ((Xv _ _).mp h).2)<|nl e;exact((YO _ _).mp h).elim (λh=>((YO _ _).mp h).elim (λh=>q h rfl) λh=>q h rfl) λh=>q h rfl
def DV (h:dv c=true):¬(c<=32)/\c≠40/\eG c=false/\c≠34:=
 (by decide+kernel:∀c,c<128->dv c=true->¬(c<=32)/\c≠40/\eG c=false/\c≠34) c (AX<|(YO _ _).mpr<|.inl h) h
def DE (d)(H)(c):ae (d+1) 1 [.s [c]] H=some (.v<|.b<|dv c,H):=f1 d H [c]
def Qz (d)(H)(c):ae (d+1) 2 [.s [c]] H=some (.v<|.b<|eG c,H):=f2 d H [c]
def Xi (a:At src (t++b) p)(O:jc t b k):ae (d+4) 12 [.s src,.i p,Pe] H=some (.v<|.r H.length,H++[vF k t p]):=by
 cases O with
 | @gap c t b D B=>
  have C:=f4 (d:=d+2) (H:=H) a D B;have m:(c:Int)<=32:=by have:=D c<|.head _;exact(YL (n:=32)).mpr this
  have f:=At.abg a;generalize(((c::t).length:Nat):Int)=n at C f;have o:=At.item (c:=c) (r:=t++b) a;exact j6 λj=>j _ (o _) _ rfl _ (kj rfl m) _ _ C _ f _ _ r6
 | @rem b=>
  have v:¬(p+7<0):=by refine ib a λ_ R _ L=>?_;subst L;exact YI.mpr (Int.add_nonneg (YD _)<|by decide)
  exact j6 λj=>j _ ((At.item (c:=40) (r:=[42,32,100,32,42,41]++b) a) _) _ rfl _ rfl _ rfl _ a.ZU _ rfl _ _ (f5 (d:=d+2) (H:=H) a) _ (fw rfl v) _ ((At.abg a):slc (.s src) (.i p) (.i<|p+7)=xS uo) _ _ r6
 | @word c t b z Q B=>
  refine tm (DV z) λn1 w F G=>?_;have o:=At.item (c:=c) (r:=t++b) a;have m:¬((c:Int)<=32):=mt (YL (n:=32)).mp n1;have y:=f7 (d:=d+1) (H:=H) a Q B;have i:=a.ZU;have f:=At.abg a;generalize(((c::t).length:Nat):Int)=n at y f;have g:fX H (.s<|c::t) Pe=some (El.contains<|c::t):=da _ _;by_cases l:El.contains (c::t)=true
  ·rw[l]at g
   have g:=g;exact aa (Xr l)<|j6 λj=>j _ (o _) _ rfl _ (fw rfl m) _ rfl _ i _ (fw rfl λe=>w (Z6 e).1) (.b true) _ ((DE _ _ c).trans<|by rw[z]) _ _ y _ f _ g _ _ r6
  ·have u:El.contains (c::t)=false:=by simpa using l
   rw[u]at g;exact aa (Xu l)<|j6 λj=>j _ (o _) _ rfl _ (fw rfl m) _ rfl _ i _ (fw rfl λe=>w (Z6 e).1) (.b true) _ ((DE _ _ c).trans<|by rw[z]) _ _ y _ f _ g _ _ r6
 | @num c b m=>have M:=f9 (d:=d) (H:=H) a m;have f:=At.abg a;have r:slc (.s src) (.i p) (.i<|p+1)=xS [49]:=f;have I:dv 49=false:=rfl;have J:eG 49=true:=rfl;exact j6 λj=>j _ ((At.item (c:=49) (r:=c::b) a) _) _ rfl _ rfl _ rfl _ a.ZU _ rfl _ _ (DE _ _ _) _ _ (Qz _ _ _) _ _ M _ r _ _ r6
 | @abt b=>have q:=UQ (d:=d+2) (H:=H) a;have f:=At.abg a;have i:=a.ZU;have i:=i;have N:slc (.s src) (.i p) (.i<|p+2)=xS [58,61]:=f;have I:dv 58=false:=rfl;have J:eG 58=false:=rfl;have s:p<p+2:=Int.lt_add_of_pos_right _ (by decide);have o:=At.item (c:=58) (r:=61::b) a;exact j6 λj=>j _ (o _) _ rfl _ rfl _ rfl _ i _ rfl _ _ (DE _ _ _) _ _ (DE _ _ _) _ rfl _ _ q _ (kj rfl s) _ i _ _ r6
 | @aa1 c b E x A=>refine tm (Ip c<|aag.mp E) λn1 w F G=>?_;have o:=At.item (c:=c) (r:=b) a;have i:=a.ZU;have q:=Ti (d:=d+2) (H:=H) a x E;have f:=At.abg a;have r:slc (.s src) (.i p) (.i<|p+1)=xS [c]:=f;have m:¬((c:Int)<=32):=mt (YL (n:=32)).mp F;have s:p<p+1:=Int.le_refl _;have P:¬(c=40/\List.take 1 b=[42]):=λh=>A<|aa h.1<|aa h.2 rfl;exact j6 λj=>j _ (o _) _ rfl _ (fw rfl m) _ rfl _ i _ (fw rfl λe=>P ⟨(Z6 e).1,(Z6 e).2⟩) (.b false) _ ((DE _ _ c).trans<|by rw[n1]) (.b false) _ ((Qz _ _ c).trans<|by rw[w]) _ (fw rfl λe=>G (Z6 e).1) _ _ q _ (kj rfl s) _ r _ _ r6
def A9 (base)(k)(r):mB (base++.l k::r) base.length=true:=by simp[mB]
def yh (h:k.length<=1000000):bF (base++.l k::r) base.length v=some (base++.l (k++[v])::r):=by simp[bF,h]
noncomputable def zY(x:List<|List Nat×List Nat):List Nat:=(x.map (·.2)).flatten
@[simp]theorem SP:zY []=[]:=rfl
@[simp]theorem yi(x:List Nat×List Nat)(xs:List<|List Nat×List Nat):zY (x::xs)=x.2++zY xs:=rfl
inductive ld:List (List Nat×List Nat)->Prop
 |nil:ld []
 |cons {k t:List Nat}{xs:List<|List Nat×List Nat}:jc t (zY xs) k->ld xs->ld ((k,t)::xs)
def ko:List (List Nat×List Nat)->Int->List AO
 | [],_=>[]
 |(k,t)::x,p=>vF k t p::ko x (p+t.length)
theorem si{z}:ko [] z=[]:=rfl
theorem oi{z k t x}:ko ((k,t)::x) z=vF k t z::ko x (z+↑t.length):=rfl
noncomputable def cN(a:Nat):Nat->List V
 |0=>[]
 |m+1=>cN a m++[.r<|a+m]
theorem FW{a}:cN a 0=[]:=rfl
theorem sk{a m}:cN a m.succ=cN a m++[V.r<|a+m]:=rfl
@[simp]theorem uY(a m):(cN a m).length=m:=by induction m<;> simp_all[FW,sk]
def jc.ne (h:jc t post k):t≠[]:=by cases h<;> simp[uo]
def AR (b:List<|List Nat×List Nat):∀(i:List AO) (p:Int) (o:Option V),At src (zY b) p->ld b->i.length+b.length<=900000->
  ∀{Cx:Prop},(∀x y,bw (ae<|d+4) a4 [xS src,some Pe,xR base.length,xI p,o] (base++.l (cN (base.length+1) i.length)::i) im=
   some (.n [xS src,some Pe,xR base.length,x,y],base++.l (cN (base.length+1)<|i.length+b.length)::(i++ko b p))->Cx)->Cx:=by
 induction b with
 |nil=>intro i p o a _ _ Cx s;refine s (xI p) o<|aa aG ?_;have e:=At.ge a;exact X6 (xh λC=>C _ ((At.len a) _) _<|fw rfl e) (by simp[At.len a,e,si,oi])
 |cons u b f=>
  intro i p o a A g Cx s;obtain⟨k,t⟩:=u;cases A with
  |cons h1 z=>
   rw[yi]at a;have a:=a;obtain⟨c,r,l⟩:∃c r,t++zY b=c::r:=by
    cases q:t++zY b with
    |nil=>exact Xw q (by simp[jc.ne h1]:t++zY b≠[])
    |cons c r=>exact⟨c,r,rfl⟩
   have v:Mine.sh t=true:=by refine ib a λB D w _=>?_;subst w;have:=jP B;simp only[Xx]at this;exact e6.mpr<|ba 0x30d411048030d411101816065b tq this
   have q:=Xi (d:=d) (H:=base++.l (cN (base.length+1) i.length)::i) a h1;have j:(i++[vF k t p]).length+b.length<=900000:=by simp only[Xx,aE,br]at g⊢;exact aK 0x36ee82210b40d6018c9036ee8221685806065b tq g
   refine f (i++[vF k t p]) (p+t.length) (xR<|base.length+1+i.length) (At.move a) z j λx y f=>s x y<|aa aG ?_;rw[(by simp;exact EF:(base++.l (cN (base.length+1) i.length)::i).length=base.length+1+i.length)]at q;have h:=yh (base:=base) (k:=cN (base.length+1) i.length) (r:=i++[vF k t p]) (v:=.r<|base.length+1+i.length) (by simp only[uY];exact aK 0x3d0902209036ee8221685806065b tq g);have n:cN (base.length+1) i.length++[V.r<|base.length+1+i.length]=cN (base.length+1) (i.length+1):=rfl;rw[n]at h;simp only[Xx,aE,br]at f;have m:bf (base++.l (cN (base.length+1)<|i.length+1)::(i++[vF k t p])) (base.length+1+i.length) 1=xS t:=by
    unfold bf;have:(base++.l (cN (base.length+1)<|i.length+1)::(i++[vF k t p]))[base.length+1+i.length]?=some (vF k t p):=by refine aa (Zy<|by exact aK 0x85a063012 tq) ?_;refine aa (by rw[XR,add_sub_cancel_left,Zr]:base.length+1+i.length-base.length=i.length+1) ?_;simp
    refine aa this ?_;rfl
   simp[At.len a,(At.lt (c:=c) (r:=r) (l▸a):p<src.length),q,A9,h,m,(λH=>by simp only[eu,v,if_true,b9]:∀H,eu H (.s t)=some (t.length:Int))];refine aa f ?_;simp[si,oi,XR,Zr 1]
def ix (b:o H=true):(∀v∈a,f v H=some (q v,H))->cL f o a H=some (a.filterMap q,H):=by
 induction a with
 |nil=>intro _;refine aa CQ<|aa b ?_;rfl
 |cons v a i=>intro h;simp only[Dq,b,h v<|.head _,Z7];show(match q v with |some x=>bV (cL f o a H) λe c=>some (x::e,c)|none=>cL f o a H)=_;refine aa (i λw d=>h w<|.tail _ d) ?_;cases q v<;>rfl
def fm (h:H[a]?=some (.l v)):jt (some a) v H=true:=by simp[jt,aZ,h,ZF]
def mT (h:H[a]?=some (.l v))(b:v.length<=1000000):qY H (.r a)=some (v,some a):=by simp[qY,h,b]
section
variable{cl:Cl}{l:Lo}{H:Hp}
def lu (h:r=some a):oB r f=f a:=by refine aa h ?_;rfl
def P3 (h:o=some (.l k)):hL o f=f k:=by rw[h];rfl
def KY (h:o=some (.dI k)):hD o f=f k:=by rw[h];rfl
section
variable{H:Hp}{a b:Nat}{s:List Nat}
def l6 {l:List<|List Nat×V}(h:H[a]?=some (.dS l)):fX H (.s s) (.r a)=some (qI s l).isSome:=lu h
def Kw {i:Int}{l:List<|Int×V}(h:H[a]?=some (.dI l)):fX H (.i i) (.r a)=some (eH i l).isSome:=KY h
def Mc {l:List V}(h:H[a]?=some (.l l))(p:(X8 3 l&&bx 3 (.s s))=true):fX H (.s s) (.r a)=t7 s l:=(lu h).trans<|Xr p
def QD {l k:List V}(h:H[a]?=some (.l l))(g:H[b]?=some (.l k))(p:(X8 3 l&&X8 3 k)=true):Ek H (.r a) (.r b)=aac l k:=(lu h).trans<|(P3 g).trans<|Xr p
def QH {l k:List<|Int×V}(h:H[a]?=some (.dI l))(g:H[b]?=some (.dI k))(p:l.length=k.length):Ek H (.r a) (.r b)=wj l k:=(lu h).trans<|(KY g).trans<|Xr p
def KO {l k:List V}(p:(X8 3 l&&X8 3 k)=true):Ek H (.t l) (.t k)=aac l k:=Xr p
end
def DZ (q)(i:ai cl l src H=some (.r a,H))(h:H[a]?=some (.l vs))(f:vs.length<=1000000)
  (g:∀v∈vs,(bV (ai cl (some v::cX l caps) c H) λw e=>rU w λb=>if b then bV (ai cl (some v::cX l caps) elt e) λx d=>some (some x,d)else some (none,e))=some (q v,H)):
  ai cl l (.E elt src c caps) H=some (.r H.length,H++[.l<|vs.filterMap q]):=
 (bI i).trans ((lu<|mT h f).trans<|(bI<|ix (fm h) g).trans<|Xr<|XJ (List.length_filterMap_le _ _) f)
def B6 (a:List V):a.filterMap (λv=>some<|q v)=a.map q:=by simp
def nX (q:V->V)(d:ai cl l src H=some (.r a,H))(h:H[a]?=some (.l vs))(b:vs.length<=1000000)
  (c:∀v∈vs,ai cl (some v::cX l caps) elt H=some (q v,H)):
  ai cl l (.C elt src caps) H=some (.r H.length,H++[.l<|vs.map q]):=
 (bI d).trans ((lu<|mT h b).trans<|(bI<|ix (q:=λv=>some<|q v) (fm h) λv e=>bI<|c v e).trans<|by rw[B6];exact Xr<|by rw[XM];exact b)
def xK (q:V->V)(d:ai cl l n H=some (.i k,H))(a:0<=k)(c:k<=1000000)(b:∀v∈bS 0 k.toNat 1,ai cl (some v::cX l caps) elt H=some (q v,H))(h:(bS 0 k.toNat 1).length<=1000000):
  ai cl l (.D elt n caps) H=some (.r H.length,H++[.l<|(bS 0 k.toNat 1).map q]):=
 (bI d).trans ((Xr<|lU.mpr ⟨a,c⟩).trans<|(bI<|ix (q:=λv=>some<|q v) rfl λv e=>bI<|b v e).trans<|by rw[B6];exact Xr<|by rw[XM];exact h)
def zh (q)(j:ai cl l n H=some (.i k,H))(f:0<=k)(i:k<=1000000)
  (g:∀v∈bS 0 k.toNat 1,(bV (ai cl (some v::cX l a) c H) λw e=>rU w λb=>if b then bV (ai cl (some v::cX l a) elt e) λx d=>some (some x,d)else some (none,e))=some (q v,H)) (h:(bS 0 k.toNat 1).length<=1000000):
  ai cl l (.F elt n c a) H=some (.r H.length,H++[.l<|(bS 0 k.toNat 1).filterMap q]):=
 (bI j).trans ((Xr<|lU.mpr ⟨f,i⟩).trans<|(bI<|ix rfl g).trans<|Xr<|XJ (List.length_filterMap_le _ _) h)
end
theorem lZ:∀(n:Nat) (a s:Int),(bS a n s).length=n
 |0,_,_=>rfl
 |n+1,a,s=>by simp[oy,lZ n]
def W5 (b:sh (zY xs)=true)(a:ld xs)(h:xs.length<=900000):
  ae (d+5) 13 [.s<|zY xs] H=some (.v<|.r H.length,H++.l (cN (H.length+1) xs.length)::ko xs 0):=by
 refine aa (aU (f:=kO) rfl rfl)<|AR (d:=d) (base:=H) (src:=zY xs) xs [] 0 none ⟨b,[],rfl,rfl⟩ a (by simpa using h) λx y q=>?_;simp at q;exact j6 λj=>j _ _ f0 _ _ q
theorem Ls:∀(a:List V),a.filterMap (λv=>if p v then some v else none)=a.filter p
 | []=>rfl
 |v::r=>by simp[Z7,filter_cons];cases p v<;> simp[Ls r]
def lg (H:Hp):V->List Nat
 | .r r=>(match bf H r 0 with |some (.s k)=>k|_=>[])
 |_=>[]
def cq (k:List Nat):Bool:=!([eJ,no].contains k)
def V5 (h:H[a]?=some (.l vs))(f:vs.length<=1000000)(c:∀v∈vs,∃r k,v=.r r/\bf H r 0=xS k):
  ae (d+1) 14 [.r a] H=some (.v<|.r H.length,H++[.l<|vs.filter λv=>cq<|lg H v]):=by
 have e:=Ls (p:=λv=>cq<|lg H v) vs;have q:=DZ (cl:=ae d) (l:=[xR a]) (H:=H) (elt:=.v 0) (src:=.v 0) (c:=.q (.Zg ()) (.f (.v 0) 0)<|.p [(.s [103,97,112]),(.s [114,101,109,97,114,107])]) (caps:=[]) (vs:=vs)
  (λv=>if cq (lg H v)then some v else none) (rfl) h f λv i=>by
   refine dJ (c v i) λr k b g=>?_;subst b;have e:aY H (.Zg ()) (.s k) (.t [.s [103,97,112],.s [114,101,109,97,114,107]])=some (cq k):=by have:=da k [eJ,no];show((t7 k [.s eJ,.s no]).map (!·))=_;refine aa (show [V.s eJ,V.s no]=[eJ,no].map V.s from rfl)<|aa this ?_;rfl
   simp[cX,g,e,lg];cases cq k<;> simp
 rw[e]at q;exact j6 λj=>j _ _ q
section
variable{cl:Cl}{l l':Lo}{H H1 H2 H3 H4:Hp}{a b c e o i:ME}{v u x y z:V}{vs:List V}{es:List ME}{t:Bool}{r:Option<|V×Hp}
def Co (h:gv l k=some v):ai cl l (.v k) H=some (v,H):=Xs (λr=>rr r H) h
def Gk (h1:ai cl l a H=some (x,H1))(h:ai cl l i H1=some (y,H2))(d:getItem H2 x y=some z):ai cl l (.t a i) H=some (z,H2):=(bI h1).trans<|(bI h).trans<|Xs (λr=>rr r H2) d
def Hq (h1:Zb cl l es H=some (vs,H1))(h:cl k vs H1=some (.v v,H2)):ai cl l (.c k es) H=some (v,H2):=(bI h1).trans<|Xs qB h
def Rn (h:g=true):gd g q=q:=by refine aa h ?_;rfl
def Ot (h1:Zb cl l es H=some (vs,H1)):ai cl l (.l es) H=some (.r H1.length,H1++[.l vs]):=bI h1
def Qg (h1:Zb cl l es H=some (vs,H1)):ai cl l (.p es) H=some (.t vs,H1):=bI h1
def lN (h1:ai cl l e H=some (v,H1))(h:Zb cl l es H1=some (vs,H2)):Zb cl l (e::es) H=some (v::vs,H2):=(bI h1).trans<|bI h
variable{lp:Zx}{ss tt ff:List MS}{s:MS}{R:Option<|Fl×Hp}
def M7 (h1:ai cl l o H=some (.r n,H1))(h:mB H1 n=true)(d:ai cl l e H1=some (v,H2))(f:bF H2 n v=some H3):bw cl lp l H (.a o e)=some (.n l,H3):=zO.trans<|(bI h1).trans<|(Rn h).trans<|(bI d).trans<|Xs (rS l) f
end
set_option genInjectivity false in
structure Tok where
 k:List Nat
 t:List Nat
 p:Int
abbrev Sc:=List<|List Nat×Int
abbrev ZV:=Int×List Nat×Int
set_option genInjectivity false in
structure RS where
 rem:List Tok
 p:List Nat
 a:List Sc
 b:List (List Nat)
 f:List ZV
 e:List Int
 d:List Nat
 c:Nat
noncomputable def cv(s:Sc):List<|List Nat×V:=s.map λp=>(p.1,V.i p.2)
noncomputable def eT(o:ZV):AO:=.i 1 [(2,.i o.1),(3,.s o.2.1),(4,.i o.2.2)]
noncomputable def y2(n I a:Nat):AO:=.i 2 [(5,.r I),(6,.i a),(7,.r<|n+2),(8,.r<|n+3),(9,.r<|n+4),(10,.r<|n+5),(11,.r<|n+6)]
structure bD(n I:Nat)(ts:List Tok)(H:Hp)(W:RS)(sr fr:List Nat):Prop where
 y:I<n
 Q:∃vs:List V,H[I]?=some (.l vs)/\vs.length=ts.length/\∀(j:Nat) (t:Tok),ts[j]?=some t->∃r:Nat,r<n/\vs[j]?=xR r/\H[r]?=some (vF t.k t.t t.p)
 P:ts.length<=100000
 O:∃pre:List Tok,ts=pre++W.rem/\H[n]?=some (y2 n I pre.length)/\∀aeq t,pre=aeq++[t]->W.p=t.t
 d:H[n+2]?=some (.l<|sr.reverse.map V.r)
 g:H[n+3]?=some (.l<|W.b.map V.s)
 hf:H[n+4]?=some (.l<|fr.map V.r)
 hd:H[n+5]?=some (.l<|W.e.map V.i)
 hw:H[n+6]?=some (.l<|W.d.map λj=>V.r<|fr.getD j 0)
 J:sr.length=W.a.length
 u:∀(j r:Nat) (s:Sc),sr[j]?=some r->W.a[j]?=some s->H[r]?=some (.dS<|cv s)
 sn:sr.Nodup
 M:∀r∈sr,r=n+1\/n+7<=r
 D:fr.length=W.f.length
 fd:∀(j r:Nat) (o:ZV),fr[j]?=some r->W.f[j]?=some o->H[r]?=some (eT o)
 fn:fr.Nodup
 w:∀r∈fr,n+7<=r
 L:∀j∈W.d,j<W.f.length
 E:W.f.length<=W.c
 F:W.b.length<=W.c
 G:W.e.length<=W.c
 A:W.d.length<=W.c
 B:W.a.length<=W.c+2
 N:∀s∈W.a,s.length<=W.c+30
 R:W.c<=900
 l:n+7<=H.length
def Rp (n I:Nat)(t:List Tok)(H:Hp)(W:RS):Prop:=∃s f,bD n I t H W s f
structure aq(n:Nat)(H H':Hp):Prop where
 ln:H.length<=H'.length
 lo:∀i,i<n->H'[i]?=H[i]?
 ls:∀i k,n+7<=i->H[i]?=some (.l k)->H'[i]?=some (.l k)
def aq.refl (n)(H):aq n H H:=⟨XC _,λ_ _=>rfl,λ_ _ _ h=>h⟩
def aq.trans (a:aq n H c)(b:aq n c H3):aq n H H3:=
 ⟨XJ a.ln b.ln,λi h=>(b.lo i h).trans<|a.lo i h,λi k h e=>b.ls i k h<|a.ls i k h e⟩
def aB {H:Hp}{i k:Nat}{o b:AO}(h:H[i]?=some o)(a:k≠i):(H.set k b)[i]?=some o:=by refine aa (YJ a) ?_;exact h
def fi {H r:Hp}{i:Nat}{o:AO}(h:H[i]?=some o):(H++r)[i]?=some o:=by
 have:i<H.length:=by
  rcases lt_or_ge i H.length with q|q
  ·exact q
  ·rw[aai q]at h;exact cE h nt
 refine aa (Yu this) ?_;exact h
def xg {H:Hp}{i:Nat}{o:AO}(h:H[i]?=some o):i<H.length:=by
 rcases lt_or_ge i H.length with q|q
 ·exact q
 ·rw[aai q]at h;exact cE h nt
def dP {H:Hp}{i:Nat}{o o':AO}(h:H[i]?=some o):(H.set i o')[i]?=some o':=aan<|xg h
def aq.app (n:Nat)(H r:Hp)(a:n<=H.length):aq n H<|H++r:=
 ⟨by simp,λi h=>aa (Yu<|XO ‹_› ‹_›) rfl,λi k _ e=>fi e⟩
def bA (h:H[a]?=some (.l l))(b:l.length<=1000000):eu H (.r a)=some (l.length:Int):=(lu h).trans<|Xr b
def nk {a k:Nat}{P:Prop}(e:Nat.ble 7 k=false)(h:a+7<=a+k):P:=Xw (aau<|Nat.le_of_add_le_add_left h)<|e▸Yw
def aq.set {n:Nat}{H:Hp}{i:Nat}{o:AO}(a:n<=i)(h1:n+7<=i->∀k,H[i]?≠some (.l k)):aq n H<|H.set i o:=
 ⟨by simp,λj h=>YJ<|XB<|XO ‹_› ‹_›,λj k h e=>by
  by_cases q:i=j
  ·subst q;exact Xw e<|h1 h k
  ·exact aB e q⟩
def bD.app (r:bD n I m H W k f)(x:Hp):bD n I m (H++x) W k f where
 y:=r.y
 Q:=by refine aj r.Q λv h1 e i=>?_;exact⟨v,fi h1,e,λj t h=>by refine aj (i j t h) λq a b c=>?_;exact⟨q,a,b,fi c⟩⟩
 P:=r.P
 O:=by refine aj r.O λp a b c=>?_;exact⟨p,a,fi b,c⟩
 d:=fi r.d
 g:=fi r.g
 hf:=fi r.hf
 hd:=fi r.hd
 hw:=fi r.hw
 J:=r.J
 u:=λj q s a b=>fi<|r.u j q s a b
 sn:=r.sn
 M:=r.M
 D:=r.D
 fd:=λj q s a b=>fi<|r.fd j q s a b
 fn:=r.fn
 w:=r.w
 L:=r.L
 E:=r.E
 F:=r.F
 G:=r.G
 A:=r.A
 B:=r.B
 N:=r.N
 R:=r.R
 l:=by have:=r.l;simp;exact ba 0x105876819209da06065b tq this
def bD.sn0 {n I:Nat}{t:List Tok}{H:Hp}{W:RS}{s b:List Nat}(r:bD n I t H W s b){q:Nat}(h:q∈s):n<q/\q≠n+2/\q≠n+3/\q≠n+4/\q≠n+5/\q≠n+6:=by have f:∀k,(!Nat.beq k 1&&Nat.ble k 6)=true->q≠n+k:=λk a z=>(r.M q h).elim (λe=>by rw[Nat.add_left_cancel<|z.symm.trans e]at a;exact Yw a) λe=>Nat.not_le.mpr (Nat.le_of_add_le_add_left<|z▸e)<|Yb ((Xv _ _).mp a).2;exact⟨(r.M q h).elim (λe=>e▸YX _) λe=>XJ (Zo (nl rfl:1<=7) n) e,f 2 rfl,f 3 rfl,f 4 rfl,f 5 rfl,f 6 rfl⟩
def av {b:Type}{l:List b}{j:Nat}{a:b}(h:l[j]?=some a):a∈l:=YQ h
def bD.XT {n I:Nat}{m:List Tok}{H:Hp}{W:RS}{v o:List Nat}(r:bD n I m H W v o){t:Tok}{f:List Tok}(e:W.rem=t::f){a:Nat}(i:a+W.rem.length=m.length):bD n I m (H.set n<|y2 n I<|a+1) {W with rem:=f,p:=t.t} v o where
 y:=r.y
 Q:=by have:=r.y;exact cps λC k=>aj r.Q λT h1 x z=>k<|⟨T,aB h1<|XB ‹_›,x,λj t h=>by refine aj (z j t h) λq a b c=>?_;exact⟨q,a,b,aB c<|XB ‹_›⟩⟩
 P:=r.P
 O:=by
  refine cps λC k=>aj r.O λp h1 b c=>?_;have S:p.length=a:=by rw[h1]at i;simp only[Xx]at i;exact ba 0x8282030416079b tq i
  refine k<|⟨p++[t],by refine aa h1<|aa e ?_;simp,?_,?_⟩
  ·refine aa (dP b) ?_;simp[S]
  ·intro U X h
   have:=List.append_inj_right' h rfl;simp at this;exact aa this rfl
 d:=aB r.d<|bC 0x4d03017 tq
 g:=aB r.g<|bC 0x6d03017 tq
 hf:=aB r.hf<|bC 0x8d03017 tq
 hd:=aB r.hd<|bC 0xad03017 tq
 hw:=aB r.hw<|bC 0xcd03017 tq
 J:=r.J
 u:=λj q s a b=>aB (r.u j q s a b) (by have:=r.sn0<|av a;exact aK 0x82e66818105cad03020be08d03020be06d03020be04d03020be0200cf1b tq this)
 sn:=r.sn
 M:=r.M
 D:=r.D
 fd:=λj q s a b=>aB (r.fd j q s a b) (by have:=r.w q<|av a;exact aK 0x41709da06065b tq this)
 fn:=r.fn
 w:=r.w
 L:=r.L
 E:=r.E
 F:=r.F
 G:=r.G
 A:=r.A
 B:=r.B
 N:=r.N
 R:=r.R
 l:=by have:=r.l;simpa using this
def bD.Ye {n I:Nat}{t:List Tok}{H:Hp}{W:RS}{s f:List Nat}(r:bD n I t H W s f):Ye H n=true:=by refine cps λC k=>aj r.O λp _ b _=>k ?_;simp[Mine.Ye,b,y2]
structure Rd(n I:Nat)(ts:List Tok)(H:Hp)(W:RS)(a:Nat):Prop where
 b:a+W.rem.length=ts.length
 a1:H[n]?=some (y2 n I a)
 a2:∀(j:Nat) (t:Tok),ts[j]?=some t->∃r,r<n/\getItem H (.r I) (.i j)=xR r/\H[r]?=some (vF t.k t.t t.p)
 c:eu H (.r I)=some (ts.length:Int)
 d:∀t rest,W.rem=t::rest->ts[a]?=some t
 e:0<a->∃t,ts[a-1]?=some t/\W.p=t.t
def bD.rd {n I:Nat}{T:List Tok}{H:Hp}{W:RS}{sr X:List Nat}(r:bD n I T H W sr X):∃a,Rd n I T H W a:=by
 refine aj r.O λp h1 b c=>aj r.Q λo m v U=>?_;have f:=r.P;refine⟨p.length,⟨by refine aa h1 ?_;simp,b,?_,?_,?_,?_⟩⟩
 ·intro j t h
  refine aj (U j t h) λq q1 k q3=>⟨q,q1,?_,q3⟩;simp[Ad m];have x:j<o.length:=by
   rcases lt_or_ge j o.length with z|z
   ·exact z
   ·rw[aai z]at k;exact cE k nt
  have Y:nW o.length (j:Int)=some j:=by unfold nW;refine aa (Bm (ZS (by decide)<|YD _) (Yi.mpr<|XO x<|v▸XJ f (nl rfl)):sm (j:Int)=true) ?_;simp[x]
  exact aa Y k
 ·exact(bA m<|KV v f).trans<|aa v rfl
 ·intro t S e
  refine aa h1<|aa e ?_;simp
 ·intro s
  have C:p≠[]:=by intro h;clear b;subst h;simp at s
  clear b s f r m v U;obtain⟨i,t,rfl⟩:∃i t,p=i++[t]:=⟨p.dropLast,p.getLast C,(abm C).symm⟩;refine⟨t,(aa h1 ?_),c i t rfl⟩;simp
def dr (h:H[n]?=some (y2 n I a))(f):bf H n f=t6 f [(5,.r I),(6,.i a),(7,.r<|n+2),(8,.r<|n+3),(9,.r<|n+4),(10,.r<|n+5),(11,.r<|n+6)]:=by simp[bf,h,y2,rG]
def eh (h:H[r]?=some (vF k t p))(f):bf H r f=t6 f [(0,.s k),(1,.s t),(2,.i p)]:=by simp only[bf,h,vF,rG]
noncomputable def RS.text(W:RS):List Nat:=match W.rem with
 |t::_=>t.t
 | []=>[]
def RS.isNm (W:RS):Bool:=match W.rem with
 |t::_=>decide (t.k=Xy)
 | []=>false
def I6 {n I:Nat}{f:List Tok}{H:Hp}{W:RS}{d:Nat}(r:Rp n I f H W)(h:1<=d):ae d 18 [.r n] H=some (.v<|.s W.text,H):=by
 refine lV 1 h rfl λd h=>cps λC k=>cT r λs l r=>Xq r.rd λa q=>k<|aa (aU (f:=kq) rfl rfl) ?_;have b:=q.b;cases e:W.rem with
 |nil=>
  have:¬((a:Int)<f.length):=by rw[e]at b;simp at b;exact mt (Yi).mp<|aK 0x82c10079b tq b
  rw[show W.text=[]by simp only[RS.text,e]];exact j6 λj=>j _ (dr q.a1 6) _ (dr q.a1 5) _ q.c _<|fw rfl this
 |cons t c=>
  have:((a:Int)<f.length):=by rw[e]at b;simp at b;exact(Yi).mpr<|ba 0x204c41685806069b tq b
  refine cps λC k=>aj (q.a2 a t<|q.d t c e) λx m g i=>k ?_;rw[show W.text=t.t by simp only[RS.text,e]];have z:=q.a1;exact j6 λj=>j _ (dr z 6) _ (dr z 5) _ q.c _ (kj rfl this) _ (dr z 5) _ (dr z 6) _ g _<|eh i 1
def ST {n I:Nat}{f:List Tok}{H:Hp}{W:RS}{d:Nat}(r:Rp n I f H W)(g:1<=d):ae d 19 [.r n] H=some (.v<|.b W.isNm,H):=by
 refine lV 1 g rfl λd g=>cps λC k=>cT r λs m r=>Xq r.rd λa q=>k<|aa (aU (f:=g6) rfl rfl) ?_;have b:=q.b;cases e:W.rem with
 |nil=>
  have:¬((a:Int)<f.length):=by rw[e]at b;simp at b;exact mt (Yi).mp<|aK 0x82c10079b tq b
  rw[show W.isNm=false by simp only[RS.isNm,e]];exact j6 λj=>j _ (dr q.a1 6) _ (dr q.a1 5) _ q.c _<|fw rfl this
 |cons t c=>
  have:((a:Int)<f.length):=by rw[e]at b;simp at b;exact(Yi).mpr<|ba 0x204c41685806069b tq b
  refine cps λC k=>aj (q.a2 a t<|q.d t c e) λx o i l=>k ?_;by_cases h:t.k=Xy
  ·rw[show W.isNm=true by simp only[RS.isNm,e,h];simp]
   exact j6 λj=>j _ (dr q.a1 6) _ (dr q.a1 5) _ q.c _ (kj rfl this) _ (dr q.a1 5) _ (dr q.a1 6) _ i _ (eh l 0) _<|kj rfl h
  ·rw[show W.isNm=false by simp only[RS.isNm,e];simp[h]]
   exact j6 λj=>j _ (dr q.a1 6) _ (dr q.a1 5) _ q.c _ (kj rfl this) _ (dr q.a1 5) _ (dr q.a1 6) _ i _ (eh l 0) _<|fw rfl h
noncomputable def RS.XT(W:RS):RS:=match W.rem with
 |t::r=>{W with rem:=r,p:=t.t}
 | []=>W
def mM (n I:Nat)(t:List Tok)(d k:Nat)(c:List V)(W:RS)(v:V)(b:RS):Prop:=∀H,Rp n I t H W->∃a,ae d k c H=some (.v v,a)/\Rp n I t a b/\aq n H a
def gq {n I:Nat}{c:List Tok}{H:Hp}{W:RS}(r:Rp n I c H W){t:Tok}{rest:List Tok}(e:W.rem=t::rest){Cx:Prop}(k:∀a:Int,bf H n 6=xI a->∀b,By H n 6 (.i<|a+1)=some b->Rp n I c b W.XT->aq n H b->Cx):Cx:=by
 refine cT r λs f r=>Xq r.rd λa q=>k a (by rw[dr q.a1];rfl) (H.set n<|y2 n I<|a+1) ?_ ⟨s,f,?_⟩<|aq.set (XC _)<|nk (k:=0) rfl
 ·exact FL q.a1 rfl
 ·have:=r.XT e q.b
  simpa only[RS.XT,e]using this
def Av (r:Rp n I t H W)(a:2<=d)(h:W.text≠s):ae d 21 [.r n,.s s] H=some (.v<|.b false,H):=by refine lV 1 a rfl λd a=>?_;exact sw (f:=fD) rfl rfl λj=>j (by refine cT r λ_ _ r=>?_;exact r.Ye:Ye H n=true) _ _ (I6 (d:=d) r<|dn a rfl) _<|Jk rfl h
def N6 {n I:Nat}{o:List Tok}{W:RS}{d:Nat}{s:List Nat}{t:Tok}{b:List Tok}(e:W.rem=t::b)(c:2<=d)(h:t.t=s):mM n I o d 21 [.r n,.s s] W (.b true) W.XT:=by intro H r;refine lV 1 c rfl λd c=>?_;refine cps λC m=>gq r e λa g f i j k=>m<|⟨f,?_,j,k⟩;have q:=I6 (d:=d) r<|dn c rfl;rw[(by simp[RS.text,e,h]:W.text=s)]at q;exact sw (f:=fD) rfl rfl λl=>l (by refine cT r λ_ _ r=>?_;exact r.Ye:Ye H n=true) _ _ q _ (Sy rfl rfl) _ g _ rfl _ i
def SA (e:W.rem=t::rest)(a:3<=d)(h:t.t=s):mM n I g d 22 [.r n,.s s] W .n W.XT:=by intro H r;refine lV 1 a rfl λd a=>?_;exact aj (N6 (d:=d) e (dn a rfl) h H r) λb q c f=>⟨b,(sw (f:=hW) rfl rfl λj=>j (by refine cT r λ_ _ r=>?_;exact r.Ye:Ye H n=true) _ _ q),c,f⟩
def dB (n:Nat)(H:Hp)(x:Nat)(t:Tok):Prop:=x<n/\H[x]?=some (vF t.k t.t t.p)
def dB.keep {n:Nat}{H H':Hp}{x:Nat}{t:Tok}(h:dB n H x t)(k:aq n H H'):dB n H' x t:=⟨h.1,(k.lo x h.1).trans h.2⟩
def NB {n I:Nat}{B:List Tok}{H:Hp}{W:RS}{d:Nat}{t:Tok}{f:List Tok}(r:Rp n I B H W)(e:W.rem=t::f)(m:2<=d)(h:t.k=Xy){Cx:Prop}(o:∀x c,ae d 23 [.r n] H=some (.v<|.r x,c)->Rp n I B c W.XT->aq n H c->dB n H x t->Cx):Cx:=by
 revert o;refine lV 1 m rfl λd m o=>?_;have q:=ST (d:=d) r<|dn m rfl;rw[(by simp only[RS.isNm,e,h];simp:W.isNm=true)]at q;have w:Ye H n=true:=by refine cT r λ_ _ r=>?_;exact r.Ye
 refine gq r e λa j c s u v=>?_;obtain⟨x,p,i,l,M⟩:∃x,dB n H x t/\bf c n 6=xI (a+1)/\bf c n 5=xR I/\getItem c (.r I) (.i a)=xR x:=by
  refine cT r λO N A=>Xq A.rd λb k=>?_;have E:a=(b:Int):=by rw[dr k.a1]at j;simpa [jO,ir]using j.symm
  subst E;refine aj (k.a2 b t<|k.d t f e) λx p i l=>?_;refine cT u λL D J=>Xq J.rd λC g=>?_;have y:=g.b;have z:=k.b;simp[RS.XT,e]at y z;have:C=b+1:=oN 0x5a1602830b44c0b03cd8c406069b tq y z;subst this;refine⟨x,⟨p,l⟩,by rw[dr g.a1];rfl,by rw[dr g.a1];rfl,?_⟩;simp only[getItem,cz,b9,mS]at i⊢;refine aa (v.lo I A.y) ?_;exact i
 refine o x c (aa (aU (f:=kl) rfl rfl) ?_) u v p;have F:a+1-1=a:=abk ..;exact j6 λG=>G w _ _ q _ j _ rfl _ s _ l _ i _ rfl (V.r x) (by simp[w,q,j,s,i,l,F,M])
noncomputable def gk(n:List Nat):Sc->Option Int
 | []=>none
 |(a,v)::r=>if a=n then some v else gk n r
theorem Cs{n}:gk n []=none:=rfl
theorem rB{n a v r}:gk n ((a,v)::r)=if a=n then some v else gk n r:=rfl
def cr (n:List Nat):List Sc->Int
 | []=>-2
 |s::r=>match gk n s with
  |some v=>v
  |none=>cr n r
theorem ph{n}:cr n []=-2:=rfl
theorem fq{n s r}:cr n (s::r)=
 match gk n s with
 |some v=>v
 |none=>cr n r:=rfl
theorem lC(n):∀s:Sc,qI n (cv s)=(gk n s).map V.i
 | []=>rfl
 |(a,v)::r=>by
  have i:=lC n r;simp[cv,rq,rB]at i⊢;by_cases h:a=n
  ·simp[h]
  ·simp only[h,if_false];exact i
def bu (h:o H=true):aM f o [] l H=some (.n l,H):=by refine aa HQ<|aa h ?_;rfl
def aS (h:o H=true)(e:f v l H=some (.n l',H')):aM f o (v::a) l H=aM f o a l' H':=by refine aa yV<|aa h<|aa e ?_;rfl
def mj (h:o H=true)(e:f v l H=some (.r x,H')):aM f o (v::a) l H=some (.r x,H'):=by refine aa yV<|aa h<|aa e ?_;rfl
def OH (c:Cl):V->Lo->Hp->Option (Fl×Hp):=λv l H=>XU c a4 (l.set 2<|some v) H [.i (.q .i (.v 1)<|.v 2) [.r<|.t (.v 2)<|.v 1] []]
theorem qS(c:k H=true):∀(f:List Nat) (d:List Sc) (o:Option V),f.length=d.length->(∀(j r:Nat) (s:Sc),f[j]?=some r->d[j]?=some s->H[r]?=some (.dS<|cv s))->
  (∃l,aM (OH cl) k (f.map V.r) [xR n,xS nm,o] H=some (.n [xR n,xS nm,l],H)/\cr nm d=-2)\/
  aM (OH cl) k (f.map V.r) [xR n,xS nm,o] H=some (.r<|.i<|cr nm d,H)
 | [],d,o,i,_=>by
  have:d=[]:=by cases d with |nil=>rfl|cons=>cases i
  subst this;exact .inl ⟨o,bu c,rfl⟩
 |r::f,[],o,i,_=>by cases i
 |r::f,s::d,o,i,h=>by
  have g:=lC nm s;cases e:gk nm s with
  |some v=>rw[e]at g;refine .inr<|mj c ?_;simp[OH,l6<|h 0 r s rfl rfl,(h 0 r s rfl rfl),g,P1<|(h 0 r s rfl rfl),ph,fq,e]
  |none=>
   rw[e]at g;have m:OH cl (V.r r) [xR n,xS nm,o] H=some (.n [xR n,xS nm,xR r],H):=by simp[OH,l6<|h 0 r s rfl rfl,g]
   refine aa af<|aa (aS c m) ?_;simp only[ph,fq,e];exact qS (cl:=cl) (n:=n) (nm:=nm) c f d (xR r) (by simpa using i) λj q t a b=>h (j+1) q t (a)<|b
def So (r:Rp n I t H W)(e:1<=d):ae d 24 [.r n,.s nm] H=some (.v<|.i<|cr nm W.a,H):=by
 refine lV 1 e rfl λd e=>cT r λs g r=>Xq r.rd λa q=>aa (aU (f:=ik) rfl rfl) ?_;have c:aZ (n+2) (s.reverse.map V.r) H=true:=fm r.d;have b:(s.reverse.map V.r).length<=1000000:=by have:=r.J;have:=r.B;have:=r.R;simp only[XM,Zf];exact ba 0x7a1204412e11c20cb62689810cb610069b tq ‹_› ‹_› ‹_›
 have l:bw (ae d) a4 [xR n,xS nm,none] H dh=aM (OH<|ae d) (aZ (n+2)<|s.reverse.map V.r) (s.map V.r) [xR n,xS nm,none] H:=by unfold dh;refine BR.trans<|(bI (hG λj=>j _ ((dr q.a1) _):ai (ae d) [xR n,xS nm,none] (.f (.v 0) 7) H=some (.r<|n+2,H))).trans ?_;show hL H[n+2]? _=_;exact aa r.d ((Xr b).trans<|by refine aa (by rw[<- List.map_reverse,List.reverse_reverse]:(s.reverse.map V.r).reverse=s.map V.r) ?_;rfl)
 rcases qS (cl:=ae d) (n:=n) (nm:=nm) c s W.a none r.J r.u with⟨o,h,f⟩|h
 ·rw[h]at l
  rw[f];exact j6 λj=>j _ _ l
 ·rw[h]at l
  exact j6 λj=>j _ _ l
def xu (h:1<=d):ae d 1001 [.r H.length,.i p,.s nm,.i t] (H++[.i 1 []])=some (.v .n,H++[eT (p,nm,t)]):=by exact lV 1 h rfl λd h=>sw (f:=iB) rfl rfl λj=>j _ (jq (H:=H) (c:=1) (f:=2) rfl) _ (jq (H:=H) (c:=1) (f:=3) rfl) _<|jq (H:=H) (c:=1) (f:=4) rfl
noncomputable def RS.put(W:RS)(o:ZV):RS:={W with f:=W.f++[o],c:=W.c+1}
def qT {a:Type}{l:List a}{j:Nat}{q:a}(h:l[j]?=some q):j<l.length:=by
 rcases lt_or_ge j l.length with z|z
 ·exact z
 ·rw[aai z]at h;exact cE h nt
def bD.aer {n I:Nat}{t:List Tok}{H:Hp}{W:RS}{s f:List Nat}(r:bD n I t H W s f){q:Nat}(h:q∈f):q<H.length:=by
 refine Xq (aam h) λj a=>?_;have:j<W.f.length:=by refine dG r.D ?_;exact qT a
 exact xg<|r.fd j q _ a<|XQ this
def bD.put (r:bD n I ts H W sr m)(o:ZV)(hc:W.c<900):bD n I ts ((H++[eT o]).set (n+4)<|.l<|(m++[H.length]).map V.r) (W.put o) sr<|m++[H.length]:=by
 have f:=r.app [eT o];have e:=r.l;exact{
  y:=r.y
  Q:=by have:=r.y;exact aj f.Q λvs h1 T U=>⟨vs,aB h1<|XB<|XO ‹_›<|Xz _ _,T,λj t h=>by refine aj (U j t h) λq a b c=>?_;exact⟨q,a,b,aB c<|XB<|XO ‹_›<|Xz _ _⟩⟩
  P:=r.P
  O:=by refine aj f.O λp a b c=>?_;exact⟨p,a,aB b<|bC 0x468199 tq,c⟩
  d:=aB f.d<|G9
  g:=aB f.g<|HS
  hf:=dP f.hf
  hd:=aB f.hd<|bC 0x56818468197 tq
  hw:=by refine aa (aB f.hw<|by exact bC 0x66818468197 tq) ?_;congr 2;refine YU λj k=>?_;have:=r.L j k;rw[<- r.D]at this;simp[Yu this]
  J:=r.J
  u:=λj q s a b=>aB (f.u j q s a b) (by have:=r.sn0<|av a;exact X0 this.2.2.2.1)
  sn:=r.sn
  M:=r.M
  D:=by simp[RS.put,r.D]
  fd:=λj q x a b=>by
   have v:∀i:Nat,n+7<=i->n+4≠i:=by intro i Y;exact aK 0x246819709da06065b tq Y
   by_cases k:j<m.length
   ·rw[Yu k]at a
    have a:=a;simp[RS.put]at b;rw[Yu<|by refine dG r.D ?_;exact k]at b;exact aB (f.fd j q x a b)<|v q<|r.w q<|av a
   ·rw[Zy<|Z4 ‹_›]at a
    simp[RS.put]at b;rw[Zy<|by rw[<- r.D];exact aK 0x8240086db tq k,<- r.D]at b;have hz:j-m.length=0:=by
     rcases Nat.eq_zero_or_pos (j-m.length)with z|z
     ·exact z
     ·rw[aai ‹_›]at a;exact cE a nt
    rw[hz]at a b;simp at a b;subst a;subst b;exact aB (bg _ _)<|v _ e
  fn:=by rw[YS];refine⟨r.fn,by simp,?_⟩;intro a X b S C;simp at S;have:=r.aer X;exact ba 0xd0441e6c400f3610067b tq this C S
  w:=by
   intro q v;rcases YE.1 v with h|h
   ·exact r.w q h
   ·simp at h;exact ba 0x4ed032420879b11da06065b tq e h
  L:=λj k=>by have:=r.L j k;simp only[RS.put,Xx];exact uJ this
  E:=by have:=r.E;simp only[RS.put,Xx];exact i9 this
  F:=by have:=r.F;exact aC this
  G:=by have:=r.G;exact aC this
  A:=by have:=r.A;exact aC this
  B:=by have:=r.B;exact vh this
  N:=λs hs=>by have:=r.N s hs;exact oO this
  R:=by assumption
  l:=by simp only[Ze,Xx];exact ba 0x105876819209da06065b tq e}
def ol {n I:Nat}{t:List Tok}{H:Hp}{W:RS}(r:Rp n I t H W)(o:ZV)(h:W.c<900){Cx:Prop}(k:bf H n 9=xR (n+4)->mB H (n+4)=true->∀b,bF (H++[eT o]) (n+4) (.r H.length)=some b->Rp n I t b (W.put o)->aq n H b->Cx):Cx:=by
 refine cT r λs f r=>Xq r.rd λa q=>k (by rw[dr q.a1];rfl) (kB r.hf) _ ?_ ⟨s,_,r.put o h⟩ ?_
 ·have h1:=(r.app [eT o]).hf
  have:(f.map V.r).length<=1000000:=by have:=r.D;have:=r.E;have:=r.R;simp only[XM];exact ba 0xf42408825c238419ec410cb610069b tq ‹_› ‹_› ‹_›
  simp only[bF,h1,this,if_true,Zj,af,map_nil,bh]
 ·have:=r.l
  exact(aq.app n H _<|B7 this).trans<|aq.set (Xz _ _)<|nk rfl
def RS.use (W:RS)(t:Tok):RS:=W.put (t.p,t.t,max (cr t.t W.a)<|-1)
def zA (a b:Int):(if a<b then b else a)=max a b:=by
 by_cases h:a<b
 ·exact(Xr h).trans (Int.max_eq_right<|YK h).symm
 ·exact(Xu h).trans (Int.max_eq_left<|YI.mp h).symm
def UR {n I:Nat}{b:List Tok}{H:Hp}{W:RS}{d x:Nat}{t:Tok}(r:Rp n I b H W)(i:dB n H x t)(h:2<=d)(c:W.c<900){Cx:Prop}(k:∀a,ae d 26 [.r n,.r x] H=some (.v .n,a)->Rp n I b a (W.use t)->aq n H a->Cx):Cx:=by
 revert k;refine lV 1 h rfl λd h k=>?_;have w:Ye H n=true:=by refine cT r λ_ _ r=>?_;exact r.Ye
 have q:=So (d:=d) (nm:=t.t) r<|dn h rfl;refine ol r (t.p,t.t,max (cr t.t W.a)<|-1) c λp1 p2 a p e f=>k a ?_ e f;have n1:=xu (d:=d) (H:=H) (nm:=t.t) (p:=t.p) (t:=max (cr t.t W.a)<|-1)<|dn h rfl;exact sw (f:=lE) rfl rfl λj=>j _ p1 p2 _ (eh i.2 2) _ (eh i.2 1) w _ (eh i.2 1) _ _ q _ _ n1 _ p
noncomputable def putN(n:List Nat)(v:Int):Sc->Sc
 | []=>[(n,v)]
 |(a,u)::r=>if a=n then(a,v)::r else(a,u)::putN n v r
theorem vD{n v}:putN n v []=[(n,v)]:=rfl
theorem rH{n v a u r}:putN n v ((a,u)::r)=if a=n then(a,v)::r else(a,u)::putN n v r:=rfl
theorem og(n)(v):∀s:Sc,v8 n (.i v) (cv s)=cv (putN n v s)
 | []=>rfl
 |(a,u)::r=>by
  have i:=og n v r;simp[cv,BV,rH]at i⊢;by_cases h:a=n
  ·simp[h]
  ·simp[h,i]
theorem ow(n)(v):∀s:Sc,(putN n v s).length<=s.length+1
 | []=>by simp[vD]
 |(a,u)::r=>by simp[rH];split<;> simp <;> exact aK 0x2d0b0120b42c0065b tq<|ow n v r
def bD.kind (r:bD n I x H W v f)(k)(S:W.c<900):bD n I x (H.set (n+3)<|.l<|(W.b++[k]).map V.s) {W with b:=W.b++[k],c:=W.c+1} v f where
 y:=r.y
 Q:=by have:=r.y;exact cps λC o=>aj r.Q λz h1 e i=>o<|⟨z,aB h1<|XB<|XO ‹_›<|Xz _ _,e,λj t h=>by refine aj (i j t h) λq a b c=>?_;exact⟨q,a,b,aB c<|XB<|XO ‹_›<|Xz _ _⟩⟩
 P:=r.P
 O:=by refine aj r.O λp a b c=>?_;exact⟨p,a,aB b<|bC 0x368199 tq,c⟩
 d:=aB r.d<|Bp
 g:=dP r.g
 hf:=aB r.hf<|H7
 hd:=aB r.hd<|bC 0x56818368197 tq
 hw:=aB r.hw<|bC 0x66818368197 tq
 J:=r.J
 u:=λj q s a b=>aB (r.u j q s a b) (by have:=r.sn0<|av a;exact X0 this.2.2.1)
 sn:=r.sn
 M:=r.M
 D:=r.D
 fd:=λj q s a b=>aB (r.fd j q s a b) (by have:=r.w q<|av a;exact aK 0x236819709da06065b tq this)
 fn:=r.fn
 w:=r.w
 L:=r.L
 E:=by have:=r.E;exact aC this
 F:=by have:=r.F;simp only[Xx];exact i9 this
 G:=by have:=r.G;exact aC this
 A:=by have:=r.A;exact aC this
 B:=by have:=r.B;exact vh this
 N:=λs m=>by have:=r.N s m;exact oO this
 R:=by assumption
 l:=by have:=r.l;simpa using this
def bD.adk (r:bD n I x H W v f)(p)(S:W.c<900):bD n I x (H.set (n+5)<|.l<|(W.e++[p]).map V.i) {W with e:=W.e++[p],c:=W.c+1} v f where
 y:=r.y
 Q:=by have:=r.y;exact cps λC o=>aj r.Q λz h1 i k=>o<|⟨z,aB h1<|XB<|XO ‹_›<|Xz _ _,i,λj t h=>by refine aj (k j t h) λq a b c=>?_;exact⟨q,a,b,aB c<|XB<|XO ‹_›<|Xz _ _⟩⟩
 P:=r.P
 O:=by refine aj r.O λp a b c=>?_;exact⟨p,a,aB b<|bC 0x568199 tq,c⟩
 d:=aB r.d<|bC 0x26818568199 tq
 g:=aB r.g<|bC 0x36818568199 tq
 hf:=aB r.hf<|bC 0x46818568199 tq
 hd:=dP r.hd
 hw:=aB r.hw<|bC 0x66818568197 tq
 J:=r.J
 u:=λj q s a b=>aB (r.u j q s a b) (by have:=r.sn0<|av a;exact X0 this.2.2.2.2.1)
 sn:=r.sn
 M:=r.M
 D:=r.D
 fd:=λj q s a b=>aB (r.fd j q s a b) (by have:=r.w q<|av a;exact aK 0x256819709da06065b tq this)
 fn:=r.fn
 w:=r.w
 L:=r.L
 E:=by have:=r.E;exact aC this
 F:=by have:=r.F;exact aC this
 G:=by have:=r.G;simp only[Xx];exact i9 this
 A:=by have:=r.A;exact aC this
 B:=by have:=r.B;exact vh this
 N:=λs m=>by have:=r.N s m;exact oO this
 R:=by assumption
 l:=by have:=r.l;simpa using this
def bD.dict (r:bD n I X H W (f::sr) C)(m)(v)(e:W.a=s0::ss)(hc:W.c<900)(o:H[f]?=some (.dS<|cv s0))(i:n<f/\f≠n+2/\f≠n+3/\f≠n+4/\f≠n+5/\f≠n+6):bD n I X (H.set f<|.dS<|cv<|putN m v s0) {W with a:=putN m v s0::ss,c:=W.c+1} (f::sr) C where
 y:=r.y
 Q:=by have:=r.y;exact aj r.Q λY h1 S T=>⟨Y,aB h1<|by lia,S,λj t h=>by refine aj (T j t h) λq a b c=>?_;exact⟨q,a,b,aB c<|ba 0x1064cd13000b95a260017c11a260017c0da260017c09a260017c00419e3620867b tq a i⟩⟩
 P:=r.P
 O:=by refine aj r.O λp a b c=>?_;exact⟨p,a,aB b<|aK 0x83266858005cad0b000be08d0b000be06d0b000be04d0b000be0010cf1b tq i,c⟩
 d:=aB r.d<|i.2.1
 g:=aB r.g<|i.2.2.1
 hf:=aB r.hf<|i.2.2.2.1
 hd:=aB r.hd<|i.2.2.2.2.1
 hw:=aB r.hw<|i.2.2.2.2.2
 J:=by have:=r.J;rw[e]at this;simpa using this
 u:=by
  intro j q s a b;cases j with
  |zero=>simp at a b;subst a;subst b;exact dP o
  |succ j=>
   have U:q∈sr:=av a;have k:f≠q:=by intro z;clear a;subst z;exact(X9.1 r.sn).1 U
   exact aB (r.u (j+1) q s (a)<|by refine aa e ?_;simpa using b) k
 sn:=r.sn
 M:=r.M
 D:=r.D
 fd:=λj q s a b=>aB (r.fd j q s a b) (by intro z;subst z;have:=r.fd j _ s a b;rw[o]at this;have this:=this;cases this)
 fn:=r.fn
 w:=r.w
 L:=r.L
 E:=by have:=r.E;exact aC this
 F:=by have:=r.F;exact aC this
 G:=by have:=r.G;exact aC this
 A:=by have:=r.A;exact aC this
 B:=by have:=r.B;rw[e]at this;exact aK 0x9a16858c0b40c909a1605a06065b tq this
 N:=λs x=>by
  rcases XE.1 x with z|z
  ·clear x;subst z
   have:=r.N s0 (by refine aa e ?_;exact .head _);have:=ow m v s0;exact ba 0x1e685a163012f342c1065b0b44c0065b tq ‹_› ‹_›
  ·have:=r.N s (by refine aa e ?_;exact .tail _ z)
   exact oO this
 R:=by assumption
 l:=by have:=r.l;simpa using this
def RS.decl (W:RS)(t:Tok)(k:List Nat):RS:=match W.a with
 |s::g=>if(gk t.t s).isSome then{W with b:=W.b++[k],e:=W.e++[t.p],f:=W.f++[(t.p,t.t,(W.b.length:Int))],c:=W.c+3}
  else{W with b:=W.b++[k],a:=putN t.t W.b.length s::g,f:=W.f++[(t.p,t.t,(W.b.length:Int))],c:=W.c+3}
 | []=>W
def on (h:H[a]?=some (.l<|l++[v])):getItem H (.r a) (.i<|-1)=some v:=by
 simp only[Ad h];have e:nW (l++[v]).length (-1)=some l.length:=by unfold nW;refine aa (Xr<|by decide)<|aa (Xu<|by decide)<|aa (Xr<|by simp;lia) ?_;simp;lia
 refine aa e ?_;simp
def WP {n I:Nat}{S:List Tok}{H:Hp}{W:RS}{d x:Nat}{t:Tok}{k:List Nat}(r:Rp n I S H W)(i:dB n H x t)(m:W.a≠[])(B:2<=d)(g:W.c<890){Cx:Prop}(C:∀l,ae d 25 [.r n,.r x,.s k] H=some (.v<|.i W.b.length,l)->Rp n I S l (W.decl t k)->aq n H l->Cx):Cx:=by
 revert C;refine lV 1 B rfl λd B C=>?_;obtain⟨s,ss,m⟩:∃s ss,W.a=s::ss:=by
  cases e:W.a with
  |nil=>exact Xw e m
  |cons s ss=>exact⟨s,ss,rfl⟩
 refine cT r λD X r=>?_;obtain⟨r0,D,rfl⟩:∃r0 sr',D=r0::sr':=by
  have:=r.J;rw[m]at this;cases D with
  |nil=>cases this
  |cons r0 sr'=>exact⟨r0,sr',rfl⟩
 refine Xq r.rd λa q=>?_;have y:eu H (.r<|n+3)=some (W.b.length:Int):=by have:=r.F;exact(bA r.g<|by rw[XM];exact qx this g).trans (by rw[XM])
 have f8:bf H n 8=xR (n+3):=by rw[dr q.a1];rfl
 have P:mB H (n+3)=true:=kB r.g;have c:=r.kind k<|yw g rfl;have f:bF H (n+3) (.s k)=some (H.set (n+3)<|.l<|(W.b++[k]).map V.s):=by have:=r.F;simp only[bF,r.g,XM,bh];refine aa (Xr<|by exact qx this g) ?_;simp
 have A:aq n H<|H.set (n+3)<|.l<|(W.b++[k]).map V.s:=aq.set (Xz _ _)<|nk rfl;revert c f A;refine Uu (H.set (n+3)<|.l<|(W.b++[k]).map V.s) λb T c f A=>?_;have u:=i.keep A;refine Xq c.rd λU Q=>?_;have E:bf b n 7=xR (n+2):=by rw[dr Q.a1];rfl
 have F:getItem b (.r<|n+2) (.i<|-1)=xR r0:=on (l:=(D.reverse.map V.r)) (by refine aa c.d ?_;simp);have O:=c.sn0 (q:=r0)<|.head _;have w:b[r0]?=some (.dS<|cv s):=c.u 0 r0 s rfl (by simp[m]);have j:fX b (.s t.t) (.r r0)=some (gk t.t s).isSome:=by rw[l6 w,lC t.t s];cases gk t.t s<;>rfl
 cases e:(gk t.t s).isSome with
 |true=>
  rw[e]at j;have v:bF b (n+5) (.i t.p)=some (b.set (n+5)<|.l<|(W.e++[t.p]).map V.i):=by have:=r.G;simp only[bF,c.hd,XM,bh];refine aa (Xr<|by exact qx this g) ?_;simp
  have p:=c.adk t.p<|up g rfl;have o:aq n b<|b.set (n+5)<|.l<|(W.e++[t.p]).map V.i:=aq.set (Xz _ _)<|nk rfl;simp only at p;generalize G:b.set (n+5) (.l<|(W.e++[t.p]).map V.i)=H2 at p v o;refine ol ⟨_,_,p⟩ (t.p,t.t,(W.b.length:Int)) (by simp only[];exact GG g) λp1 p2 l L M N=>?_;have z:=u.keep o;have n1:=xu (d:=d) (H:=H2) (nm:=t.t) (p:=t.p) (t:=(W.b.length:Int))<|dn B rfl;refine C l ?_ ?_<|(A.trans o).trans N
  ·rw[aU (f:=d5) rfl rfl]
   exact j6 λJ=>J _ f8 _ y _ f8 P _ f _ ((eh u.2) _) _ E _ F _ j _ (by rw[dr Q.a1];rfl:bf b n 10=xR (n+5)) (kB c.hd:mB b (n+5)=true) _ ((eh u.2) _) _ v _ p1 p2 _ ((eh z.2) _) _ ((eh z.2) _) _ _ n1 _ L
  ·simpa only[RS.decl,m,e,if_true,RS.put]using M
 |false=>
  rw[e]at j;have R:setItem b (.r r0) (.s t.t) (.i W.b.length)=some (b.set r0<|.dS<|cv<|putN t.t W.b.length s):=by have:=r.N s (by refine aa m ?_;exact .head _);simp only[PD w,w,pf,b9,mS];rw[Xr<|by simp only[cv,XM];exact aK 0xfa1c096f4e0867bf342c0065b tq this g,og]
  have p:=c.dict t.t W.b.length (s0:=s) (ss:=ss) (by trivial) (up g rfl) w O;have o:aq n b<|b.set r0<|.dS<|cv<|putN t.t W.b.length s:=aq.set (aK 0x82466818105cad03020be08d03020be06d03020be04d03020be0200cf1b tq O) (by intro _ k h;rw[w]at h;cases h);simp only at p;generalize G:b.set r0 (.dS<|cv<|putN t.t W.b.length s)=H2 at p R o;refine ol ⟨_,_,p⟩ (t.p,t.t,(W.b.length:Int)) (by simp only[];exact GG g) λp1 p2 l L M N=>?_;have z:=u.keep o;have n1:=xu (d:=d) (H:=H2) (nm:=t.t) (p:=t.p) (t:=(W.b.length:Int))<|dn B rfl;refine C l ?_ ?_<|(A.trans o).trans N
  ·exact aa (aU (f:=d5) rfl rfl)<|j6 λJ=>J _ f8 _ y _ f8 P _ f _ ((eh u.2) _) _ E _ F _ j _ E _ F _ ((eh u.2) _) _ R _ p1 p2 _ ((eh z.2) _) _ ((eh z.2) _) _ _ n1 _ L
  ·simpa only[RS.decl,m,e,Zc,if_false,RS.put]using M
def Rp.Ye (r:Rp n I t H W):Ye H n=true:=by refine cT r λ_ _ r=>?_;exact r.Ye
@[simp]theorem nb(W:RS):W.XT.a=W.a:=by unfold RS.XT;split<;>rfl
@[simp]theorem h0(W:RS):W.XT.c=W.c:=by unfold RS.XT;split<;>rfl
@[simp]theorem CU(W:RS):W.XT.b=W.b:=by unfold RS.XT;split<;>rfl
def fZ {W:RS}{t:Tok}{r:List Tok}(e:W.rem=t::r):W.XT.rem=r:=by unfold RS.XT;exact aa e rfl
@[simp]theorem BN(W:RS)(t:Tok):(W.use t).rem=W.rem:=rfl
@[simp]theorem QV(W:RS)(t:Tok):(W.use t).p=W.p:=rfl
@[simp]theorem PC(W:RS)(t:Tok):(W.use t).text=W.text:=rfl
@[simp]theorem Re(W:RS)(t:Tok):(W.use t).isNm=W.isNm:=rfl
@[simp]theorem JC(W:RS)(t:Tok):(W.use t).c=W.c+1:=rfl
@[simp]theorem Mg(W:RS)(t:Tok):(W.use t).a=W.a:=rfl
def VB {n I:Nat}{u:List Tok}{W:RS}{d:Nat}{t:Tok}{a:List Tok}(e:W.rem=t::a)(o:t.k=Xy)(p:W.XT.text≠[46])(h:3<=d)(m:W.c<900):
  mM n I u d 27 [.r n] W .n (W.XT.use t):=by
 intro H r;exact lV 1 h rfl λd h=>cps λC s=>NB (d:=d) r e (dn h rfl) o λx v g i c j=>UR (d:=d) i (j.keep c) (dn h rfl) (by rw[h0];exact m) λf k b l=>s<|⟨f,(sw (f:=fp) rfl rfl λq=>q r.Ye r.Ye _ _ g _ _ k b.Ye _ _<|Av (d:=d) (s:=[46]) b (dn h rfl)<|p),b,c.trans l⟩
def QA {n I:Nat}{g:List Tok}{H:Hp}{W:RS}{d:Nat}{t:Tok}{a:List Tok}(r:Rp n I g H W)(e:W.rem=t::a)(m:t.k=Xy)(o:W.XT.text≠[42])(h:3<=d){Cx:Prop}(k:∀x b,ae d 35 [.r n] H=some (.v<|.r x,b)->Rp n I g b W.XT->aq n H b->dB n b x t->Cx):Cx:=by revert k;exact lV 1 h rfl λd h k=>NB (d:=d) r e (dn h rfl) m λx i j c f l=>k x i (sw (f:=eo) rfl rfl λp=>p r.Ye _ _ j c.Ye _ _<|Av (d:=d) (s:=[42]) c (dn h rfl) o) c f<|l.keep f
def QW {n I:Nat}{l:List Tok}{H:Hp}{W:RS}{d:Nat}{t u:Tok}{f:List Tok}(r:Rp n I l H W)(e:W.rem=t::u::f)(s:t.k=Xy)(v:u.t=[42])(h:3<=d){Cx:Prop}(k:∀x g,ae d 35 [.r n] H=some (.v<|.r x,g)->Rp n I l g W.XT.XT->aq n H g->dB n g x t->Cx):Cx:=by revert k;exact lV 1 h rfl λd h k=>NB (d:=d) r e (dn h rfl) s λx m p i j q=>aj (N6 (d:=d) (s:=[42]) (fZ e) (dn h rfl) v m i) λo a b c=>k x o (sw (f:=eo) rfl rfl λw=>w r.Ye _ _ p i.Ye _ _ a) b (j.trans c)<|(q.keep j).keep c
def Rp.here (r:Rp n I c H W)(e:W.rem=t::rest)(h:W.rem.length<c.length):
  ∃(a:Int) (x y:Nat),bf H n 6=xI a/\bf H n 5=xR I/\eu H (.r I)=some (c.length:Int)/\¬((c.length:Int)<=a)/\getItem H (.r I) (.i a)=xR x/\dB n H x t/\getItem H (.r I) (.i<|a-1)=xR y/\bf H y 1=xS W.p:=by
 refine cps λC k=>cT r λs o r=>Xq r.rd λa q=>?_;have b:=q.b;refine aj (q.a2 a t<|q.d t rest e) λx g i j=>ag (q.e (ba 0x1b310433d88206079b tq b h:0<a)) λu d f=>aj (q.a2 (a-1) u d) λy p l m=>k<|⟨a,x,y,by rw[dr q.a1];rfl,by rw[dr q.a1];rfl,q.c,by rw[e]at b;exact mt (YL).mp<|ba 0x15441685806069b tq b,i,⟨g,j⟩,?_,by rw[eh m,f];rfl⟩;have:((a:Int)-1)=((a-1:Nat):Int):=(Int.ofNat_sub (ba 0x1b310433d88206079b tq b h:0<a)).symm;refine aa this ?_;exact l
def RS.one (W:RS)(t:Tok):RS:=if t.k=Xy/\W.p≠[46]then(W.use t).XT else W.XT
def pz {W:RS}{t:Tok}{rest:List Tok}(e:W.rem=t::rest):(W.one t).rem=rest:=by
 unfold RS.one;split
 ·exact fZ e
 ·exact fZ e
def Cg (W:RS)(t:Tok):(W.one t).c<=W.c+1:=by unfold RS.one;split<;> simp
def W6 {n I:Nat}{B:List Tok}{W:RS}{d:Nat}{t:Tok}{rest:List Tok}(e:W.rem=t::rest)(J:W.rem.length<B.length)(s:3<=d)(G:W.c<900):
  mM n I B d 30 [.r n] W .n (W.one t):=by
 intro H r;refine lV 1 s rfl λd s=>nY (r.here e J) λa x y h1 h o p q l z A=>cps λC v=>?_;by_cases j:t.k=Xy
 ·by_cases m:W.p=[46]
  ·refine gq r e λw g b c f i=>?_
   rw[h1]at g;cases g;exact v ⟨b,(sw (f:=cy) rfl rfl λk=>k _ h1 _ h _ o _ (fw rfl p) _ h _ h1 _ q _ ((eh l.2) _) _ (kj rfl j) _ h _ h1 _ rfl _ z _ A _ (Sy rfl m) _ h1 _ rfl _ c),by simpa [RS.one,m]using f,i⟩
  ·exact UR (d:=d) r l (dn s rfl) G λL D E F=>gq (W:=W.use t) (t:=t) (rest:=rest) E e λw g b c f i=>v ⟨b,(sw (f:=cy) rfl rfl λk=>k _ h1 _ h _ o _ (fw rfl p) _ h _ h1 _ q _ ((eh l.2) _) _ (kj rfl j) _ h _ h1 _ rfl _ z _ A _ (Jk rfl m) r.Ye _ _ D _ g _ rfl _ c),by simpa [RS.one,m,j]using f,F.trans i⟩
 ·refine gq r e λw g b c f i=>?_
  rw[h1]at g;cases g;refine v ⟨b,?_,by simpa [RS.one,j]using f,i⟩;have u:¬(t.k=[110,97,109,101]):=j;exact sw (f:=cy) rfl rfl λk=>k _ h1 _ h _ o _ (fw rfl p) _ h _ h1 _ q _ ((eh l.2) _) _ (fw rfl u) _ h1 _ rfl _ c
noncomputable def bT:List Nat:=[69,78,68]
noncomputable def R5:List<|List Nat:=[[73,70],[67,65,83,69],[87,72,73,76,69],[70,79,82]]
def C7 (t:List Nat):Int:=if t∈R5 then 1 else if t=bT then -1 else 0
def zE:Int->List Tok->Prop
 |dep,[]=>dep=0
 |dep,t::r=>(0<dep\/t.t≠bT)/\zE (dep+C7 t.t) r
theorem Ku{z}:zE z []=(z=0):=rfl
theorem Ki{z t r}:zE z (t::r)=((0<z\/t.t≠bT)/\zE (z+C7 t.t) r):=rfl
def RS.ones (W:RS):List Tok->RS
 | []=>W
 |t::r=>(W.one t).ones r
theorem RS.aar{W:RS}:W.ones []=W:=rfl
theorem RS.aas{W:RS}{t r}:W.ones (t::r)=(W.one t).ones r:=rfl
def BI (t):fX H (.s t) (.t [.s [73,70],.s [67,65,83,69],.s [87,72,73,76,69],.s [70,79,82]])=some (decide (t∈R5)):=(da t R5).trans (by simp)
def Dx (G:u.t=bT)(v:3<=d)(b):∀(a:Int) (W:RS) (H:Hp) (o:Option V),W.rem=b++u::rest->zE a b->W.rem.length<D.length->W.c+b.length<900->Rp n I D H W->
  ∃H' A,bw (ae d) a4 [xR n,xI a,o] H dQ=some (.n [xR n,xI 0,A],H')/\Rp n I D H' (W.ones b)/\aq n H H':=by
 induction b with
 |nil=>
  intro a W H o e i k p r;subst i;have q:=I6 (d:=d) r<|LZ v rfl;have:W.text=[69,78,68]:=by simp[RS.text,e];exact G
  rw[this]at q;exact⟨H,o,(aa aG<|X6 (xh λj=>j _ rfl r.Ye _ _ q _ rfl)<|by simp),r,aq.refl n H⟩
 |cons t b J=>
  intro a W H o e i k p r;have q:=I6 (d:=d) r<|LZ v rfl;rw[(by simp[RS.text,e]:W.text=t.t)]at q;have q:=q;have e:=e;refine cps λC L=>aj (W6 (d:=d) e k v (zT p) H r) λB f E F=>am (J (a+C7 t.t) (W.one t) B (xS t.t) (pz e) i.2 (by refine aa (pz e) ?_;rw[e]at k;exact z0 k) (by have:=Cg W t;exact Gy this p) E) λH' A w x y=>?_;refine L<|⟨H',A,(aa aG ?_),x,F.trans y⟩;have s:ai (ae d) [xR n,xI a,o] (.or [(.q .g (.v 1)<|.i 0),(.q .n (.m 18 (.v 0) [])<|.s [69,78,68])]) H=some (.b true,H):=by
   by_cases m:0<a
   ·exact hG λj=>j _<|kj rfl m
   ·have:¬t.t=[69,78,68]:=by rcases(i.1:0<a\/¬t.t=[69,78,68])with z|z;exact Xw z m;exact z
    exact hG λj=>j _ (fw rfl m) r.Ye _ _ q _<|Jk rfl this
  refine aa s ?_;have c:XU (ae d) a4 [xR n,xI a,o] H [.s 2<|.m 18 (.v 0) [],.i (.q .i (.v 2)<|.p [(.s [73,70]),(.s [67,65,83,69]),(.s [87,72,73,76,69]),(.s [70,79,82])]) [.s 1<|.o .a (.v 1)<|.i 1] [.i (.q .e (.v 2)<|.s [69,78,68]) [.s 1<|.o .s (.v 1)<|.i 1] []],.x<|.m 30 (.v 0) []]=some (.n [xR n,xI<|a+C7 t.t,xS t.t],B):=by
   by_cases h1:t.t∈R5
   ·have h:C7 t.t=1:=by simp only[C7,h1,if_true]
    have l:=r.Ye;exact X6 (uh λj=>j l _ _ q true (by simp[l,q,BI,h1,f,h]) _ rfl l _ _ f) (by simp[l,q,BI,h1,f,h])
   ·by_cases g:t.t=[69,78,68]
    ·have h:C7 t.t=-1:=by simp only[C7,h1];simp[g,bT]
     simp only[h,<- Int.sub_eq_add_neg];rw[g]at h1 q;exact X6 (uh λj=>j r.Ye _ _ q _ rfl _ rfl _ rfl r.Ye _ _ f) (by simp[r.Ye,BI,h1,f,g])
    ·have h:C7 t.t=0:=by simp only[C7,h1];simp[g,bT]
     refine aa h ?_;simp[r.Ye,q,BI,h1,f,g]
  simp only[qg,Xr rfl,c,zS];exact w
def V7 (e:W.rem=body++u::rest)(j:u.t=bT)(f:zE 0 body)(i:W.rem.length<ts.length)(g:W.c+body.length<900)(h:4<=d):
  mM n I ts d 29 [.r n] W .n (W.ones body):=by
 intro H r;exact lV 1 h rfl λd h=>am (Dx (d:=d) j (dn h rfl) body 0 W H none e f i g r) λa o h1 b c=>⟨a,(sw (f:=eQ) rfl rfl λk=>k _ _ h1),b,c⟩
noncomputable def Pl:List<|List Nat:=[[40],[91],[123]]
noncomputable def OW:List<|List Nat:=[[41],[93],[125]]
def JT (t:Tok):Int:=if t.t∈Pl/\t.k=ak then 1 else if t.t∈OW/\t.k=ak then -1 else 0
def AS (s:List Nat):Int->List Tok->Prop
 |dep,[]=>dep=0
 |dep,t::r=>(0<dep\/t.t≠s)/\AS s (dep+JT t) r
theorem IX{s z}:AS s z []=(z=0):=rfl
theorem SL{s z t r}:AS s z (t::r)=((0<z\/t.t≠s)/\AS s (z+JT t) r):=rfl
def vm (t):fX H (.s t) (.t [.s [40],.s [91],.s [123]])=some (decide (t∈Pl)):=(da t Pl).trans (by simp)
def yl (t):fX H (.s t) (.t [.s [41],.s [93],.s [125]])=some (decide (t∈OW)):=(da t OW).trans (by simp)
def Rm (t s):aY H (.Zg ()) (.s t) (.t [.s s])=some (!decide (t=s)):=by show((t7 t [.s s]).map (!·))=_;simp only[show [V.s s]=[s].map V.s from rfl,da t [s]];by_cases h:t=s<;> simp
def zB (hu:u.t=s)(hd:2<=d)(h:List Tok):∀(i:Int) (W:RS) (H:Hp) (o:Option V),W.rem=h++u::rest->AS s i h->W.rem.length<T.length->W.c+h.length<900->Rp n I T H W->
  ∀{Cx:Prop},(∀H' S,bw (ae d) a4 [xR n,some<|.t [.s s],xI i,o] H dM=some (.n [xR n,some<|.t [.s s],xI 0,S],H')->Rp n I T H' (W.ones h)->aq n H H'->Cx)->Cx:=by
 induction h with
 |nil=>
  intro i W H o e F G N r Cx R;subst F;have q:=I6 (d:=d) r<|LZ hd rfl;have:W.text=s:=by simp[RS.text,e];exact hu
  rw[this]at q;exact R H o (aa aG<|X6 (xh λj=>j _ rfl r.Ye _ _ q false (by simp[Rm]))<|by simp) r<|aq.refl n H
 |cons t h ih=>
  intro i W H o e F G N r Cx R;have q:=I6 (d:=d) r<|LZ hd rfl;rw[(by simp[RS.text,e]:W.text=t.t)]at q;have e:=e;refine nY (r.here e G) λa x y h1 E h3 h4 h5 M X Y=>?_;obtain⟨f,H2,b,v,D,k1,g,w,A,B⟩:∃(f H2:Hp) (b:Bool),(if t.k=Xy/\W.p≠[46]then(b=true/\ae d 26 [.r n,.r x] H=some (.v .n,f))else(b=false/\f=H))/\Ye f n=true/\aq n H f/\bf f n 6=xI a/\By f n 6 (.i<|a+1)=some H2/\Rp n I T H2 (W.one t)/\aq n f H2:=by
   by_cases l:t.k=Xy/\W.p≠[46]
   ·refine UR (d:=d) r M ‹_› (zT N) λf b1 D b3=>gq (W:=W.use t) D e λU g H' w A B=>?_
    have:U=a:=by refine cT r λsr fr r0=>Xq r0.rd λc rd=>cT D λsr' fr' r1=>Xq r1.rd λc' C=>?_;have:c=c':=oN 0x1050620b03cd8c406069b tq rd.b C.b;subst this;rw[dr rd.a1]at h1;rw[dr C.a1]at g;rw[h1]at g;have g:=g;cases g;rfl
    subst this;exact⟨f,H',true,by refine aa (Xr l) ?_;exact⟨rfl,b1⟩,D.Ye,b3,g,w,by simpa only[RS.one,Xr l]using A,B⟩
   ·refine gq r e λU g H' w A B=>?_
    rw[h1]at g;cases g;exact⟨H,H',false,by refine aa (Xu l) ?_;exact⟨rfl,rfl⟩,r.Ye,aq.refl n H,h1,w,by simpa only[RS.one,Xu l]using A,B⟩
  refine ih (i+JT t) (W.one t) H2 (xR x) (pz e) F.2 (by refine aa (pz e) ?_;rw[e]at G;exact z0 G) (by have:=Cg W t;exact Gy this N) A λH' S O P Q=>?_;refine R H' S (VN (H1:=H) ?_ (RW (yu λj=>j _ h1 _ E _ h3 _<|fw rfl h4)<|RW (yu λj=>j _ E _ h1 _ h5)<|RW (l':=[xR n,some<|.t [.s s],xI i,xR x]) (H':=f) ?_<|RW (l':=[xR n,some<|.t [.s s],xI<|i+JT t,xR x]) (H':=f) ?_<|uh λj=>j _ g _ rfl _ w) O) P<|(k1.trans B).trans Q
  ·by_cases L:0<i
   ·exact hG λj=>j _<|kj rfl L
   ·have:¬t.t=s:=by rcases F.1 with z|z;exact Xw z L;exact z
    exact hG λj=>j _ (fw rfl L) r.Ye _ _ q _<|Jk (Rm (H:=H) _ _) this
  have p:bf H x 0=xS t.k:=eh M.2 0
  ·by_cases l:t.k=Xy
   ·by_cases J:W.p=[46]
    ·rw[Xu<|by intro z;exact z.2 J]at v
     rw[v.2];exact yu λj=>j _ p _ (kj rfl l) _ E _ h1 _ rfl _ X _ Y _ (Sy rfl J)
    ·rw[Xr ⟨l,J⟩]at v
     exact yu λj=>j _ p _ (kj rfl l) _ E _ h1 _ rfl _ X _ Y _ (Jk rfl J) r.Ye _ _ v.2
   ·rw[Xu<|by intro z;exact l z.1]at v
    rw[v.2];exact yu λj=>j _ p _<|fw rfl l
  ·have i1:=(M.keep k1).2
   have p:bf f x 0=xS t.k:=eh i1 0;have m:bf f x 1=xS t.t:=eh i1 1;unfold JT;by_cases o:t.t∈Pl
   ·by_cases k:t.k=ak
    ·rw[Xr ⟨o,k⟩];exact yu λj=>j _ m _ (kj (vm (H:=f) _) o) _ p _ (kj rfl k) _ rfl
    ·rw[Xu λz=>k z.2,Xu λz=>k z.2,Int.add_zero]
     by_cases c:t.t∈OW
     ·exact yu λj=>j _ m _ (kj (vm (H:=f) _) o) _ p _ (fw rfl k) _ m _ (kj (yl (H:=f) _) c) _ p _<|fw rfl k
     ·exact yu λj=>j _ m _ (kj (vm (H:=f) _) o) _ p _ (fw rfl k) _ m _<|fw (yl (H:=f) _) c
   ·rw[Xu λz=>o z.1]
    by_cases c:t.t∈OW
    ·by_cases k:t.k=ak
     ·rw[Xr ⟨c,k⟩];exact yu λj=>j _ m _ (fw (vm (H:=f) _) o) _ m _ (kj (yl (H:=f) _) c) _ p _ (kj rfl k) _ rfl
     ·rw[Xu λz=>k z.2,Int.add_zero];exact yu λj=>j _ m _ (fw (vm (H:=f) _) o) _ m _ (kj (yl (H:=f) _) c) _ p _<|fw rfl k
    ·rw[Xu λz=>c z.1,Int.add_zero];exact yu λj=>j _ m _ (fw (vm (H:=f) _) o) _ m _<|fw (yl (H:=f) _) c
def VU (e:W.rem=body++u::rest)(j:u.t=s)(f:AS s 0 body)(i:W.rem.length<ts.length)(g:W.c+body.length<900)(h:3<=d):
  mM n I ts d 28 [.r n,.t [.s s]] W .n (W.ones body):=by
 intro H r;exact lV 1 h rfl λd h=>zB (d:=d) j (dn h rfl) body 0 W H none e f i g r λa o h1 b c=>⟨a,(sw (f:=eO) rfl rfl λk=>k _ _ h1),b,c⟩
def bD.aes (r:bD n I x H W v f)(e)(m:e<W.f.length)(S:W.c<900):bD n I x (H.set (n+6)<|.l<|(W.d++[e]).map λj=>V.r<|f.getD j 0) {W with d:=W.d++[e],c:=W.c+1} v f where
 y:=r.y
 Q:=by have:=r.y;exact aj r.Q λC h1 i k=>⟨C,aB h1<|XB<|XO ‹_›<|Xz _ _,i,λj t h=>by refine aj (k j t h) λq a b c=>?_;exact⟨q,a,b,aB c<|XB<|XO ‹_›<|Xz _ _⟩⟩
 P:=r.P
 O:=by refine aj r.O λp a b c=>?_;exact⟨p,a,aB b<|bC 0x668199 tq,c⟩
 d:=aB r.d<|bC 0x26818668199 tq
 g:=aB r.g<|bC 0x36818668199 tq
 hf:=aB r.hf<|bC 0x46818668199 tq
 hd:=aB r.hd<|bC 0x56818668199 tq
 hw:=dP r.hw
 J:=r.J
 u:=λj q s a b=>aB (r.u j q s a b) (by have:=r.sn0<|av a;exact X0 this.2.2.2.2.2)
 sn:=r.sn
 M:=r.M
 D:=r.D
 fd:=λj q s a b=>aB (r.fd j q s a b) (by have:=r.w q<|av a;exact aK 0x266819709da06065b tq this)
 fn:=r.fn
 w:=r.w
 L:=λj h=>by
  rcases YE.1 h with z|z
  ·exact r.L j z
  ·simp at z;clear h;subst z;exact m
 E:=by have:=r.E;exact aC this
 F:=by have:=r.F;exact aC this
 G:=by have:=r.G;exact aC this
 A:=by have:=r.A;simp only[Xx];exact i9 this
 B:=by have:=r.B;exact vh this
 N:=λs o=>by have:=r.N s o;exact oO this
 R:=by assumption
 l:=by have:=r.l;simpa using this
def bD.clr (r:bD n I v H W o f)(z:W.c<900):bD n I v (H.set (n+6)<|.l []) {W with d:=[],c:=W.c+1} o f where
 y:=r.y
 Q:=by have:=r.y;exact cps λC m=>aj r.Q λx h1 e i=>m<|⟨x,aB h1<|XB<|XO ‹_›<|Xz _ _,e,λj t h=>by refine aj (i j t h) λq a b c=>?_;exact⟨q,a,b,aB c<|XB<|XO ‹_›<|Xz _ _⟩⟩
 P:=r.P
 O:=by refine aj r.O λp a b c=>?_;exact⟨p,a,aB b<|bC 0x668199 tq,c⟩
 d:=aB r.d<|bC 0x26818668199 tq
 g:=aB r.g<|bC 0x36818668199 tq
 hf:=aB r.hf<|bC 0x46818668199 tq
 hd:=aB r.hd<|bC 0x56818668199 tq
 hw:=dP r.hw
 J:=r.J
 u:=λj q s a b=>aB (r.u j q s a b) (by have:=r.sn0<|av a;exact X0 this.2.2.2.2.2)
 sn:=r.sn
 M:=r.M
 D:=r.D
 fd:=λj q s a b=>aB (r.fd j q s a b) (by have:=r.w q<|av a;exact aK 0x266819709da06065b tq this)
 fn:=r.fn
 w:=r.w
 L:=λj h=>by cases h
 E:=by have:=r.E;exact aC this
 F:=by have:=r.F;exact aC this
 G:=by have:=r.G;exact aC this
 A:=by have:=r.A;exact bC 0x5a0601b2 tq
 B:=by have:=r.B;exact vh this
 N:=λs k=>by have:=r.N s k;exact oO this
 R:=by assumption
 l:=by have:=r.l;simpa using this
def bD.cls (r:bD n I x H W (S::f) i)(e:W.a=T::v)(C:W.c<900):bD n I x (H.set (n+2)<|.l<|f.reverse.map V.r) {W with a:=v,c:=W.c+1} f i where
 y:=r.y
 Q:=by have:=r.y;exact aj r.Q λz h1 k m=>⟨z,aB h1<|XB<|XO ‹_›<|Xz _ _,k,λj t h=>by refine aj (m j t h) λq a b c=>?_;exact⟨q,a,b,aB c<|XB<|XO ‹_›<|Xz _ _⟩⟩
 P:=r.P
 O:=by refine aj r.O λp a b c=>?_;exact⟨p,a,aB b<|bC 0x268199 tq,c⟩
 d:=dP r.d
 g:=aB r.g<|vM
 hf:=aB r.hf<|vN
 hd:=aB r.hd<|bC 0x56818268197 tq
 hw:=aB r.hw<|bC 0x66818268197 tq
 J:=by have:=r.J;rw[e]at this;simpa using this
 u:=λj q s a b=>aB (r.u (j+1) q s (a)<|by refine aa e ?_;simpa using b) (by have:=r.sn0 (q:=q)<|.tail _<|av a;exact X0 this.2.1)
 sn:=(X9.1 r.sn).2
 M:=λq h=>r.M q<|.tail _ h
 D:=r.D
 fd:=λj q s a b=>aB (r.fd j q s a b) (by have:=r.w q<|av a;exact AZ this)
 fn:=r.fn
 w:=r.w
 L:=r.L
 E:=by have:=r.E;exact aC this
 F:=by have:=r.F;exact aC this
 G:=by have:=r.G;exact aC this
 A:=by have:=r.A;exact aC this
 B:=by have:=r.B;rw[e]at this;exact aK 0x1342d0b180909a1605a06065b tq this
 N:=λs o=>by have:=r.N s (by refine aa e ?_;exact .tail _ o);exact oO this
 R:=by assumption
 l:=by have:=r.l;simpa using this
def bD.aet (r:bD n I t H W s f)(h:q∈s):q<H.length:=by
 refine Xq (aam h) λj a=>?_;have:j<W.a.length:=by refine dG r.J ?_;exact qT a
 exact xg<|r.u j q _ a<|XQ this
def bD.aeu (r:bD n I U H W i k)(m)(x:H[m]?=some (.dS []))(e:n+7<=m)(f:m∉i)(Y:W.c<900):bD n I U (H.set (n+2)<|.l<|((m::i).reverse).map V.r) {W with a:=[]::W.a,c:=W.c+1} (m::i) k where
 y:=r.y
 Q:=by have:=r.y;exact cps λC T=>aj r.Q λX h1 o v=>T<|⟨X,aB h1<|XB<|XO ‹_›<|Xz _ _,o,λj t h=>by refine aj (v j t h) λq a b c=>?_;exact⟨q,a,b,aB c<|XB<|XO ‹_›<|Xz _ _⟩⟩
 P:=r.P
 O:=by refine aj r.O λp a b c=>?_;exact⟨p,a,aB b<|bC 0x268199 tq,c⟩
 d:=dP r.d
 g:=aB r.g<|vM
 hf:=aB r.hf<|vN
 hd:=aB r.hd<|bC 0x56818268197 tq
 hw:=aB r.hw<|bC 0x66818268197 tq
 J:=by have:=r.J;simpa using this
 u:=λj q s a b=>by
  cases j with
  |zero=>simp at a b;subst a;subst b;exact aB x<|AZ e
  |succ j=>exact aB (r.u j q s a b) (by have:=r.sn0<|av a;exact X0 this.2.1)
 sn:=X9.2 ⟨f,r.sn⟩
 M:=λq h=>by rcases XE.1 h with z|z;exact .inr<|ba 0x4ed032420879b11da06065b tq e z;exact r.M q z
 D:=r.D
 fd:=λj q s a b=>aB (r.fd j q s a b) (by have:=r.w q<|av a;exact AZ this)
 fn:=r.fn
 w:=r.w
 L:=r.L
 E:=by have:=r.E;exact aC this
 F:=by have:=r.F;exact aC this
 G:=by have:=r.G;exact aC this
 A:=by have:=r.A;exact aC this
 B:=by have:=r.B;exact aK 0x1342d0b181681921342c0065b tq this
 N:=λs S=>by rcases XE.1 S with z|z;(subst z;simp);(have:=r.N s z;exact oO this)
 R:=by assumption
 l:=by have:=r.l;simpa using this
def bD.tgt (r:bD n I X H W U C)(i x)(o)(e:C[i]?=some x)(k:i<W.f.length)(hc:W.c<900):bD n I X (H.set x<|.i 1 [(2,.i o.1),(3,.s o.2.1),(4,.i o.2.2)]) {W with f:=W.f.set i o,c:=W.c+1} U C where
 y:=r.y
 Q:=by have:=r.y;have:=r.w x<|av e;exact aj r.Q λY h1 m S=>⟨Y,aB h1<|tV ‹_› ‹_›,m,λj t h=>by refine aj (S j t h) λq a b c=>?_;exact⟨q,a,b,aB c<|tV ‹_› ‹_›⟩⟩
 P:=r.P
 O:=by have:=r.w x<|av e;refine aj r.O λp a b c=>?_;exact⟨p,a,aB b<|aK 0x41901da16065b tq this,c⟩
 d:=aB r.d (by have:=r.w x<|av e;exact aK 0x4d0b01901da16065b tq this)
 g:=aB r.g (by have:=r.w x<|av e;exact aK 0x6d0b01901da16065b tq this)
 hf:=aB r.hf (by have:=r.w x<|av e;exact aK 0x8d0b01901da16065b tq this)
 hd:=aB r.hd (by have:=r.w x<|av e;exact aK 0xad0b01901da16065b tq this)
 hw:=aB r.hw (by have:=r.w x<|av e;exact aK 0xcd0b01901da16065b tq this)
 J:=r.J
 u:=λj q s a b=>aB (r.u j q s a b) (by intro z;subst z;have m:=r.fd i _ (W.f[i]) e<|XQ k;have h1:=r.u j _ s a b;rw[h1]at m;cases m)
 sn:=r.sn
 M:=r.M
 D:=by simp[r.D]
 fd:=λj q s a b=>by
  by_cases v:i=j
  ·subst v
   rw[e]at a;cases a;simp[aan k]at b;have b:=b;cases b;exact dP<|r.fd i x (W.f[i]) e<|XQ k
  ·simp[YJ v]at b
   refine aB (r.fd j q s a b) ?_;intro z;subst z;exact v<|(List.getElem?_inj (qT e) r.fn).1<|e.trans a.symm
 fn:=r.fn
 w:=r.w
 L:=λj h=>by have:=r.L j h;simpa using this
 E:=by have:=r.E;simp only[Ze];exact aC this
 F:=by have:=r.F;simp only[Xx,aE,br];exact aC this
 G:=by have:=r.G;simp only[Xx,aE,br];exact aC this
 A:=by have:=r.A;simp only[Xx,aE,br];exact aC this
 B:=by have:=r.B;simp only[Xx,aE,br];exact vh this
 N:=λs T=>by have:=r.N s T;simp only[];exact oO this
 R:=by assumption
 l:=by have:=r.l;simpa using this
def RS.YW (W:RS)(t:Tok):RS:=if cr t.t W.a=-2 then{W with f:=W.f++[(t.p,t.t,-1)],d:=W.d++[W.f.length],c:=W.c+2}else W.use t
def Rp.fld (r:Rp n I t H W):bf H n 7=xR (n+2)/\bf H n 8=xR (n+3)/\bf H n 9=xR (n+4)/\bf H n 10=xR (n+5)/\bf H n 11=xR (n+6):=by exact cps λC k=>cT r λs f r=>Xq r.rd λa q=>k<|⟨by rw[dr q.a1];rfl,by rw[dr q.a1];rfl,by rw[dr q.a1];rfl,by rw[dr q.a1];rfl,by rw[dr q.a1];rfl⟩
def Rp.app (r:Rp n I t H W)(x):Rp n I t (H++x) W:=by refine cT r λs f r=>?_;exact⟨s,f,r.app x⟩
def Rp.len (r:Rp n I t H W):n+7<=H.length:=by refine cT r λs f r=>?_;exact r.l
def Is {n I:Nat}{t:List Tok}{H:Hp}{W:RS}(r:Rp n I t H W)(o:ZV)(j:W.c<890){Cx:Prop}(m:∀b g,bF (H++[eT o]) (n+4) (.r H.length)=some b->bf b n 11=xR (n+6)->mB b (n+6)=true->bF b (n+6) (.r H.length)=some g->Rp n I t g {W with f:=W.f++[o],d:=W.d++[W.f.length],c:=W.c+2}->aq n H g->Cx):Cx:=by
 refine cT r λs e r=>?_;have h:=r.l;have a:=r.put o<|yw j rfl;have l:=a.aes W.f.length (by simp[RS.put]) (by simp only[RS.put];exact bC 0x708e0b40c9ef4e0067b tq j);have i:bF (H++[eT o]) (n+4) (.r H.length)=some ((H++[eT o]).set (n+4)<|.l<|(e++[H.length]).map V.r):=by have h1:=(r.app [eT o]).hf;have:=r.D;have:=r.E;have:=r.R;simp only[bF,h1,XM,bh];refine aa (Xr<|by exact ba 0xf42408825bd38419ec410cb610069b tq ‹_› ‹_› ‹_›) ?_;simp
 have k:aq n H<|(H++[eT o]).set (n+4)<|.l<|(e++[H.length]).map V.r:=(aq.app n H _<|B7 h).trans<|aq.set (Xz _ _)<|nk rfl;generalize(H++[eT o]).set (n+4) (.l<|(e++[H.length]).map V.r)=b at a l i k;refine m b _ i ((Rp.fld ⟨_,_,a⟩).2.2.2.2) (kB a.hw) ?_ ⟨_,_,l⟩<|k.trans<|aq.set (Xz _ _)<|nk rfl;have:=a.A;have:=a.R;simp only[bF,a.hw,XM,bh];refine aa (Xr<|by exact tU ‹_› ‹_›) ?_;have:(e++[H.length]).getD W.f.length 0=H.length:=by refine dG r.D ?_;simp[Yq]
 simp only[Zj,af,map_nil,this]
def Ue {n I:Nat}{L:List Tok}{W:RS}{d:Nat}{t:Tok}{a:List Tok}(e:W.rem=t::a)(i:t.k=Xy)(j:cr t.t W.a=-2)(h:4<=d)(D:W.c<890):
  mM n I L d 41 [.r n] W .n (W.XT.YW t):=by
 intro H r;refine lV 1 h rfl λd h=>?_;have q:=ST (d:=d) r<|dn h rfl;have E:W.isNm=true:=by simp only[RS.isNm,e,i];simp
 rw[E]at q;have l:=I6 (d:=d) r<|dn h rfl;rw[(by simp only[RS.text,e]:W.text=t.t)]at l;have m:=So (d:=d) (nm:=t.t) r<|dn h rfl;rw[j]at m;refine cps λC G=>NB (d:=d) r e (dn h rfl) i λx c p b f s=>?_;have k:=s.keep f;refine Is b (t.p,t.t,-1) (by rw[h0];exact D) λM o u v w y z A=>?_;have n1:=xu (d:=d) (H:=c) (nm:=t.t) (p:=t.p) (t:=-1)<|dn h rfl;have g:=(b.app [eT (t.p,t.t,-1)]).fld.2.2.1;have B:mB (c++[eT (t.p,t.t,-1)]) (n+4)=true:=by exact cT b λO N J=>kB (J.app [eT (t.p,t.t,-1)]).hf
 refine G<|⟨o,?_,?_,f.trans A⟩
 ·exact j6 λF=>F r.Ye _ _ q r.Ye r.Ye _ _ l _ _ m _ rfl r.Ye _ _ p _ ((eh k.2) _) _ ((eh k.2) _) _ _ n1 _ g B _ u _ v w _ y
 ·simpa only[RS.YW,nb,j,if_true,h0]using z
def yj (s:List Sc)(o:ZV):ZV:=(o.1,o.2.1,max (cr o.2.1 s)<|-1)
def RS.Yo (W:RS)(j:Nat):RS:={W with f:=W.f.set j<|yj W.a<|W.f.getD j (0,[],0),c:=W.c+1}
def RS.Zw (W:RS):List Nat->RS
 | []=>W
 |j::r=>(W.Yo j).Zw r
theorem RS.ab4{W:RS}:W.Zw []=W:=rfl
theorem RS.ab5{W:RS}{j r}:W.Zw (j::r)=(W.Yo j).Zw r:=rfl
def Ui (c:Cl):V->Lo->Hp->Option (Fl×Hp):=λv l H=>XU c a4 (l.set 1<|some v) H [.f (.v 1) 4<|.x (.m 24 (.v 0) [(.f (.v 1) 3)])<|.i<|-1]
def Fu (C:1<=d)(c:List Nat):∀(W:RS) (H:Hp) (o:Option V),W.d=L->(∀j∈c,j<W.f.length)->W.c+c.length<900->bD n I B H W v f->
  ∃H' u,aM (Ui<|ae d) (aZ (n+6)<|L.map λj=>V.r<|f.getD j 0) (c.map λj=>V.r<|f.getD j 0) [xR n,o] H=some (.n [xR n,u],H')/\bD n I B H' (W.Zw c) v f/\aq n H H':=by
 induction c with
 |nil=>intro W H o hL g e r;exact⟨H,o,aa map_nil<|aa (bu (fm (by refine dG hL ?_;exact r.hw):aZ (n+6) (L.map λj=>V.r<|f.getD j 0) H=true)) rfl,r,aq.refl n H⟩
 |cons j c w=>
  intro W H o hL g e r;have b:=g j<|.head _;have i:f[j]?=some (f.getD j 0):=by simp[XQ (by refine aa r.D ?_;exact b:j<f.length)]
  have a:=r.fd j _ _ i (by simp[XQ b]:W.f[j]?=some (W.f.getD j (0,[],0)));have q:=So (d:=d) (nm:=(W.f.getD j (0,[],0)).2.1) ⟨v,f,r⟩ ‹_›;have l:=r.w _ (av i:f.getD j 0∈f);have y:aq n H<|H.set (f.getD j 0)<|eT<|yj W.a<|W.f.getD j (0,[],0):=aq.set (B7 l) (by intro _ k h;rw[a]at h;cases h);have A:Ui (ae d) (.r<|f.getD j 0) [xR n,o] H=some (.n [xR n,xR<|f.getD j 0],H.set (f.getD j 0)<|eT<|yj W.a<|W.f.getD j (0,[],0)):=by
   generalize f.getD j 0=x at a;generalize W.f.getD j (0,[],0)=oc at a q;have f3:bf H x 3=xS oc.2.1:=by simp only[bf,a,eT,rG];rfl
   have z:By H x 4 (.i<|max (cr oc.2.1 W.a)<|-1)=some (H.set x<|eT<|yj W.a oc):=by exact FL a rfl
   simp[Ui,(r.Ye:Ye H n=true),f3,q,zA,z]
  exact am (w (W.Yo j) (H.set (f.getD j 0)<|eT<|yj W.a<|W.f.getD j (0,[],0)) (xR<|f.getD j 0) hL (λt h=>by have:=g t<|.tail _ h;simpa [RS.Yo]using this:∀t∈c,t<(W.Yo j).f.length) (by exact aK 0x3847042d03193e11c1685806067b tq e)<|r.tgt j (f.getD j 0) (yj W.a<|W.f.getD j (0,[],0)) i b<|zT e) λH' u m p s=>⟨H',u,(aa af<|aa (aS (fm (by refine dG hL ?_;exact r.hw):aZ (n+6) (L.map λj=>V.r<|f.getD j 0) H=true) A) m),p,y.trans s⟩
def RS.resolve (W:RS):RS:={W.Zw W.d with d:=[],c:=(W.Zw W.d).c+1}
def ya (a:List Nat):∀(W:RS),(W.Zw a).c=W.c+a.length:=by
 induction a with
 |nil=>intro W;exact rfl
 |cons j a i=>intro W;simp only[RS.ab4,RS.ab5,i,aE];exact sz
section
variable{cl:Cl}{lp:Zx}{l:Lo}{H H1:Hp}
def e5 (e:ai cl l src H=some (.r a,H1))(h:H1[a]?=some (.l vs))(d:vs.length<=1000000):
  bw cl lp l H (.g i src b)=aM (λv f c=>XU cl lp (f.set i<|some v) c b) (aZ a vs) vs l H1:=
 rQ.trans ((bI e).trans<|lu<|mT h d)
end
def VF {n I:Nat}{ts:List Tok}{W:RS}{d:Nat}(e:2<=d)(f:W.c+W.d.length<890):mM n I ts d 42 [.r n] W .n W.resolve:=by
 intro H r;refine lV 1 e rfl λd e=>?_;have g:=r.fld.2.2.2.2;refine cps λC k=>cT r λs m r=>am (Fu (d:=d) (L:=W.d) (dn e rfl) W.d W H none rfl r.L (yw f rfl) r) λb o h1 h i=>?_;have l:bw (ae d) a4 [xR n,none] H eR=some (.n [xR n,o],b):=by exact aa (e5 (a:=n+6) (by exact hG λj=>j _ g) r.hw<|by have:=r.A;have:=r.R;simp only[XM];exact tU ‹_› ‹_›) h1
 have a:=(Rp.fld ⟨_,_,h⟩).2.2.2.2;have c:GV b (n+6)=some (b.set (n+6)<|.l []):=by have:=h.A;have:=h.R;simp only[GV,h.hw,XM,bh];exact aa (Xr<|by exact tU ‹_› ‹_›) rfl
 refine k<|⟨_,?_,⟨_,_,h.clr<|by rw[ya];exact aK 0xe11c10327bd38206067b tq f⟩,i.trans<|aq.set (Xz _ _)<|nk rfl⟩;exact sw (f:=gU) rfl rfl λj=>j _ _ l _ a _ c
noncomputable def RS.opn(W:RS):RS:={W with a:=[]::W.a,c:=W.c+1}
noncomputable def RS.cls(W:RS):RS:={W with a:=W.a.tail,c:=W.c+1}
def yA {n I:Nat}{t:List Tok}{H:Hp}{W:RS}(r:Rp n I t H W)(d:W.c<900){Cx:Prop}(k:mB H (n+2)=true->∀b,bF (H++[.dS []]) (n+2) (.r H.length)=some b->Rp n I t b W.opn->aq n H b->Cx):Cx:=by refine cT r λs f r=>?_;have a:=r.l;have c:=r.app [.dS []];have e:=c.aeu H.length (bg _ _) a (by intro h;have:=r.aet h;exact vH this) d;refine k (kB r.d) _ ?_ ⟨_,_,e⟩<|(aq.app n H _<|B7 a).trans<|aq.set (Xz _ _)<|nk rfl;have:=r.J;have:=r.B;have:=r.R;simp only[bF,c.d,XM,Zf,bh];rw[Xr<|by exact ba 0x7a1204412e11c20cf62689810cb610069b tq ‹_› ‹_› ‹_›];simp
def Ey {n I:Nat}{t:List Tok}{H:Hp}{W:RS}(r:Rp n I t H W)(h:W.a≠[])(d:W.c<900){Cx:Prop}(k:∀v c,wv H (n+2)=some (v,c)->Rp n I t c W.cls->aq n H c->Cx):Cx:=by
 obtain⟨s,ss,h⟩:∃s ss,W.a=s::ss:=by
  cases e:W.a with
  |nil=>exact Xw e h
  |cons s ss=>exact⟨s,ss,rfl⟩
 refine cT r λb i r=>?_;obtain⟨a,b,rfl⟩:∃a sr',b=a::sr':=by
  have:=r.J;rw[h]at this;cases b with
  |nil=>cases this
  |cons a sr'=>exact⟨a,sr',rfl⟩
 have g:=r.cls h d;refine k (.r a) _ ?_ ⟨_,_,by simpa only[RS.cls,h,tail_cons]using g⟩<|aq.set (Xz _ _)<|nk rfl;have:=r.J;have:=r.B;have:=r.R;have e:((a::b).reverse.map V.r)=b.reverse.map V.r++[V.r a]:=by simp
 simp only[wv,r.d,e,bh,b9];have f:(b.reverse.map V.r++[V.r a]).length<=1000000:=by simp only[Xx,XM,Zf]at *;exact ba 0xf4240885a06b00c9708e1067b1344c0865b085a06069b tq ‹_› ‹_› ‹_›
 simp only[getLast?_concat,dropLast_concat];rw[b9,Xr f]
noncomputable def wq:List Nat:=[97,108,105,97,115]
noncomputable def b8:List Nat:=[105,109,112,111,114,116]
noncomputable def tE:List Nat:=[99,111,110,115,116]
@[simp]theorem AU(W:RS)(t:Tok):(W.one t).a=W.a:=by unfold RS.one;split<;> simp
@[simp]theorem xQ:∀(b:List Tok) (W:RS),(W.ones b).a=W.a
 | [],W=>rfl
 |t::b,W=>by simp only[RS.aar,RS.aas,xQ b,AU]
noncomputable def dc:List Nat:=[65,82,82,65,89]
noncomputable def lT:List Nat:=[82,69,67,79,82,68]
noncomputable def gE:List Nat:=[80,79,73,78,84,69,82]
noncomputable def eg:List Nat:=[80,82,79,67,69,68,85,82,69]
noncomputable def xf:List Nat:=[79,70]
noncomputable def R4:List Nat:=[84,79]
def Lb (t:Tok):Prop:=t.k=Xy/\t.t≠dc/\t.t≠lT/\t.t≠gE/\t.t≠eg
def Tp {n I:Nat}{u:List Tok}{W:RS}{d:Nat}{t:Tok}{b:List Tok}(e:W.rem=t::b)(a:Lb t)(l:W.XT.text≠[46])(h:4<=d)(k:W.c<900):
  mM n I u d 39 [.r n] W .n (W.XT.use t):=by
 intro H r;refine lV 1 h rfl λd h=>?_;have c:W.text=t.t:=by simp only[RS.text,e]
 have q:=Av (d:=d) (s:=dc) r (dn h rfl) (by refine aa c ?_;exact a.2.1);have o:=Av (d:=d) (s:=lT) r (dn h rfl) (by refine aa c ?_;exact a.2.2.1);have p:=Av (d:=d) (s:=gE) r (dn h rfl) (by refine aa c ?_;exact a.2.2.2.1);have s:=Av (d:=d) (s:=eg) r (dn h rfl) (by refine aa c ?_;exact a.2.2.2.2);exact aj (VB (d:=d) e a.1 l (dn h rfl) k H r) λf g i j=>⟨f,(sw (f:=ef) rfl rfl λm=>m r.Ye _ _ q r.Ye _ _ o r.Ye _ _ p r.Ye _ _ s r.Ye _ _ g),i,j⟩
def VM (e:W.rem=t::rest)(a:Lb t)(l:W.XT.text≠[46])(h:5<=d)(c:W.c<890):
  mM n I o d 41 [.r n] W .n (W.XT.YW t):=by
 by_cases b:cr t.t W.a=-2
 ·exact Ue e a.1 b (LZ h rfl) c
 ·intro H r
  refine lV 1 h rfl λd h=>?_;have q:=ST (d:=d) r<|dn h rfl;rw[(by simp only[RS.isNm,e,a.1];simp:W.isNm=true)]at q;have f:=I6 (d:=d) r<|dn h rfl;rw[(by simp only[RS.text,e]:W.text=t.t)]at f;exact aj (Tp (d:=d) e a l (dn h rfl) (yw c rfl) H r) λg i j k=>⟨g,(sw (f:=gz) rfl rfl λm=>m r.Ye _ _ q r.Ye r.Ye _ _ f _ _ (So (d:=d) (nm:=t.t) r<|dn h rfl) _ (fw rfl b) r.Ye _ _ i),by simpa only[RS.YW,nb,b,if_false]using j,k⟩
section
variable{cl:Cl}{lp:Zx}{l:Lo}{H:Hp}
def rO (c:ai cl l n H=some (.i k,H1))(h:0<=k)(h1:k<=1000000):
  bw cl lp l H (.h i n b)=aM (λv d a=>XU cl lp (d.set i<|some v) a b) (λ_=>true) (bS 0 k.toNat 1) l H1:=by
 exact Cj.trans<|(bI c).trans<|Xr<|lU.mpr ⟨h,h1⟩
end
def Z (r:Option<|b×Hp)(Q:b->Hp->Prop):Prop:=∃a H,r=some (a,H)/\Q a H
def QX {a:Type}{Q:a->Hp->Prop}{C:Prop}(h:Z none Q):C:=h.elim λ_ h=>h.elim λ_ h=>cE h.1 nt
def Fb {c:Type}{a:c}{H:Hp}{Q:c->Hp->Prop}(h:Z (some (a,H)) Q):Q a H:=h.elim λb h=>h.elim λK h=>aR h.1 λe d=>(by rw[e,d];exact h.2)
def Tr (c:Cl)(l:Lo)(P:Hp->Prop)(s:List MS)(Q:Fl->Hp->Prop):Prop:=∀H,P H->Z (XU c a4 l H s) Q
def Tn (c:Cl)(l:Lo)(P:Hp->Prop)(s:MS)(R:Lo->Hp->Prop):Prop:=∀H,P H->∃b a,bw c a4 l H s=some (.n b,a)/\R b a
def CT (c:Cl)(k:Nat)(b:List V)(P:Hp->Prop)(R:V->Hp->Prop):Prop:=∀H,P H->∃v a,c k b H=some (.v v,a)/\R v a
def Rt (R:V->Hp->Prop)(f:Fl)(H:Hp):Prop:=match f with | .n _=>R .n H| .r v=>R v H| .e _ _=>False
def Nx (S:Lo->Hp->Prop)(f:Fl)(H:Hp):Prop:=∃l,f=.n l/\S l H
section
variable{cl:Cl}{l:Lo}{P P':Hp->Prop}{ss:List MS}{Q:Fl->Hp->Prop}
def ay (h:∀H,P H->Q (.n l) H):Tr cl l P [] Q:=λH p=>⟨_,_,rfl,h H p⟩
def ed (h:∀H,P H->P' H)(k:Tr cl l P' ss Q):Tr cl l P ss Q:=λH p=>k H<|h H p
def qZ {s:MS}{R:Lo->Hp->Prop}(h:Tn cl l P s R)(k:∀b,Tr cl b (R b) ss Q):Tr cl l P (s::ss) Q:=λH p=>by exact dJ (h H p) λb c e q=>dJ (k b c q) λa d f z=>⟨a,d,by rw[aW,e];exact f,z⟩
def aV {s:MS}{l':Lo}(h:∀H,P H->∃b,bw cl a4 l H s=some (.n l',b)/\P' b)(k:Tr cl l' P' ss Q):Tr cl l P (s::ss) Q:=λH p=>by exact ag (h H p) λc e q=>dJ (k c q) λa d f z=>⟨a,d,by rw[aW,e];exact f,z⟩
def Mf {c:ME}{t f:List MS}{R:Bool->Hp->Prop}{S:Lo->Hp->Prop}(n:∀H,P H->∃b j,ai cl l c H=some (.b b,j)/\R b j)(r:Tr cl l (R true) t<|Nx S)(o:Tr cl l (R false) f<|Nx S):Tn cl l P (.i c t f) S:=λH p=>by
 refine cps λC k=>dJ (n H p) λb m e q=>k ?_;cases b with
 |true=>refine cps λC k=>mh (r m q) λa d g i h z=>?_;subst h;exact k<|⟨i,d,by rw[lc,e];exact g,z⟩
 |false=>refine cps λC k=>mh (o m q) λa d g i h z=>?_;subst h;exact k<|⟨i,d,by rw[lc,e];exact g,z⟩
def dZ {d k:Nat}{f:Fn}{g:List V}{R:V->Hp->Prop}(j:HM k=some f)(m:g.length=f.p)(c:g.map some++List.replicate (f.vars-f.p) none=l)(i:f.body=ss)(h:Tr (ae d) l P ss<|Rt R):CT (ae<|d+1) k g P R:=λH p=>by
 refine dJ (h H p) λa o e q=>?_;have s:=aU (d:=d) (H:=H) j m;rw[c,i,e]at s;clear e;cases a with
 |n t=>exact⟨_,_,s,q⟩
 |r v=>exact⟨_,_,s,q⟩
 |e a b=>exact q.elim
end
section
variable{cl:Cl}{l:Lo}{P P':Hp->Prop}{ss:List MS}{Q:Fl->Hp->Prop}
def ip (ss):∀(t:List MS) (l:Lo) (H:Hp),XU cl b l H (t++ss)=Ma cl b ss (XU cl b l H t):=λt=>by
 induction t with
 |nil=>intro l H;rfl
 |cons s t i=>
  intro l H;show nx (bw cl b l H s) (λl H=>XU cl b l H<|t++ss)=Ma cl b ss (nx (bw cl b l H s) λl H=>XU cl b l H t);cases bw cl b l H s with
  |none=>rfl
  |some x=>obtain⟨a,c⟩:=x;cases a with |n d=>exact i d c|_=>rfl
def Tg (f:V->Lo->Hp->Option (Fl×Hp))(v:List V)(l:Lo)(P:Hp->Prop)(S:Lo->Hp->Prop):Prop:=∀H,P H->∃b a,aM f (λ_=>true) v l H=some (.n b,a)/\S b a
def wT {f:V->Lo->Hp->Option (Fl×Hp)}{S:Lo->Hp->Prop}(h:∀H,P H->S l H):Tg f [] l P S:=λH p=>⟨_,_,bu rfl,h H p⟩
def ml {i:Nat}{v:V}{d:List V}{b:List MS}{R S:Lo->Hp->Prop}(h:Tr cl (l.set i<|some v) P b<|Nx R)(k:∀c,Tg (λv l H=>XU cl a4 (l.set i<|some v) H b) d c (R c) S):Tg (λv l H=>XU cl a4 (l.set i<|some v) H b) (v::d) l P S:=λH p=>by refine cps λC n=>mh (h H p) λa f e c m q=>?_;subst m;exact dJ (k c f q) λo g j s=>n<|⟨o,g,(aS rfl e).trans j,s⟩
def Nf {i:Nat}{n:ME}{m:Nat}{b:List MS}{S:Lo->Hp->Prop}(d:∀H,P H->ai cl l n H=some (.i m,H))(c:Nat.ble m 1000000=true)(h:Tg (λv l H=>XU cl a4 (l.set i<|some v) H b) (bS 0 m 1) l P S):Tn cl l P (.h i n b) S:=λH p=>by exact dJ (h H p) λf a e s=>⟨f,a,(rO (d H p) (YD m)<|by have:=Yb c;exact(YL (n:=1000000)).mpr this).trans e,s⟩
def bG {c:ME}{t f:List MS}(h:∀H,P H->ai cl l c H=some (.b true,H))(k:Tr cl l P (t++ss) Q):Tr cl l P (.i c t f::ss) Q:=λH p=>by have e:=k H p;rw[ip]at e;rw[aW,lc,h H p];exact e
def aN {c:ME}{t f:List MS}(h:∀H,P H->ai cl l c H=some (.b false,H))(k:Tr cl l P (f++ss) Q):Tr cl l P (.i c t f::ss) Q:=λH p=>by have e:=k H p;rw[ip]at e;rw[aW,lc,h H p];exact e
def rN {i:Nat}{n:ME}{b:List MS}(h:∀H,P H->ai cl l n H=some (.i 0,H))(k:Tr cl l P ss Q):Tr cl l P (.h i n b::ss) Q:=λH p=>by have e:=k H p;rw[aW,rO (h H p) (by decide)<|by decide];exact e
def wV {i:Nat}{n:ME}{b:List MS}(h:∀H,P H->ai cl l n H=some (.i 1,H))(d:∀x y H,¬Q (.e x y) H)(k:Tr cl (l.set i<|xI 0) P (b++ss) Q):Tr cl l P (.h i n b::ss) Q:=λH p=>by have e:=k H p;rw[ip]at e;have e:=e;rw[aW,rO (h H p) (by decide)<|by decide];show Z (Ma cl a4 ss<|gd true<|fx (XU cl a4 (l.set i<|xI 0) H b) λf c=>aM _ _ [] f c) Q;generalize XU cl a4 (l.set i<|xI 0) H b=r at e;cases r with |none=>exact QX e|some p=>obtain⟨a,c⟩:=p;cases a with |e x y=>exact(d _ _ _<|Fb e).elim|_=>exact e
def rI {k:Nat}{a:List ME}{vs:List V}{g:Type}{T:g->Hp->Prop}(h:∀H,Zb cl l a H=some (vs,H))(d:CT cl k vs P (λv H=>v=.n/\∃K,T K H))(f:∀K,Tr cl l (T K) ss Q):Tr cl l P (.x (.c k a)::ss) Q:=λH p=>by refine Bq (d H p) λ_ b e c K t=>?_;subst c;exact aV (P:=λX=>X=H) (λX z=>⟨b,by rw[z];simp[h,e],t⟩) (f K) H rfl
end
section
variable{cl:Cl}{l:Lo}{P P':Hp->Prop}{ss:List MS}{Q:Fl->Hp->Prop}
def ux {s:MS}{S:Lo->Hp->Prop}(h:Tr cl l P [s]<|Nx S):Tn cl l P s S:=λH p=>by refine mh (h H p) λa d e f b q=>?_;subst b;rw[aW]at e;generalize bw cl a4 l H s=r at e;cases r with |none=>exact cO e|some p=>obtain⟨a,c⟩:=p;cases a with |n g=>cases e;exact⟨_,_,rfl,q⟩|_=>cases e
def Af (x y:V)(H:Hp):¬Nx S (.e x y) H:=λ⟨_,h,_⟩=>nomatch h
def fL (x y:V)(H:Hp):¬Rt R (.e x y) H:=λh=>h
def dz {c:ME}{t f:List MS}(h:∀H,P H->∃a,ai cl l c H=some (.b true,a)/\P' a)(k:Tr cl l P' (t++ss) Q):Tr cl l P (.i c t f::ss) Q:=λH p=>by refine ag (h H p) λa b d=>?_;have e:=k a d;rw[ip]at e;rw[aW,lc,b];exact e
def a7 (h:∀H,P H->∃a,ai cl l c H=some (.b false,a)/\P' a)(k:Tr cl l P' (f++ss) Q):Tr cl l P (.i c t f::ss) Q:=λH p=>by refine ag (h H p) λa b d=>?_;have e:=k a d;rw[ip]at e;rw[aW,lc,b];exact e
def cV (h:∀H,P H->∃a,ai cl l c H=some (.b false,a)/\P' a)(k:Tr cl l P' ss Q):Tr cl l P (.w c b::ss) Q:=λH p=>by refine ag (h H p) λa e d=>?_;rw[aW,aG,e];exact(k a d)
def cU (g:∀x y H,¬Q (.e x y) H)(h:∀H,P H->∃d,ai cl l c H=some (.b true,d)/\P' d)(k:Tr cl l P' (b++.w c b::ss) Q):Tr cl l P (.w c b::ss) Q:=λH p=>by refine ag (h H p) λd f i=>?_;have e:=k d i;rw[ip]at e;rw[aW,aG,f,qg,Xr rfl];generalize XU cl a4 l d b=r at e;cases r with |none=>exact QX e|some p=>obtain⟨a,d⟩:=p;cases a with |e x y=>exact(g _ _ _<|Fb e).elim|_=>exact e
end
set_option genInjectivity false in
set_option genCtorIdx false
inductive IL where
 |f (k t:List Nat)
 |n (s:List Nat)
set_option genInjectivity false in
inductive PT where
 |f (k t:List Nat)
 |m (i:Nat)
noncomputable def hE:List IL->Nat->List PT
 | [],_=>[]
 | .f k t::r,i=>.f k t::hE r i
 | .n _::r,i=>.m i::hE r (i+1)
theorem jY{z}:hE [] z=[]:=rfl
theorem jZ{z1 k t r}:hE (IL.f k t::r) z1=PT.f k t::hE r z1:=rfl
theorem jN{z s r}:hE (IL.n s::r) z=PT.m z::hE r (z+1):=rfl
noncomputable def nI:List IL->Nat
 | []=>0
 | .f _ _::r=>nI r
 | .n _::r=>nI r+1
theorem bN:nI []=0:=rfl
theorem ck{k t r}:nI (IL.f k t::r)=nI r:=rfl
theorem cj{s r}:nI (IL.n s::r)=nI r+1:=rfl
noncomputable def mm:List IL->List (List Nat)
 | []=>[]
 | .f _ _::r=>mm r
 | .n s::r=>s::mm r
theorem HD:mm []=[]:=rfl
theorem Gq{k t r}:mm (IL.f k t::r)=mm r:=rfl
theorem HF{s r}:mm (IL.n s::r)=s::mm r:=rfl
noncomputable def ji:List IL->List Nat
 | []=>[]
 | .f _ t::r=>t++ji r
 | .n s::r=>s++ji r
theorem fH:ji []=[]:=rfl
theorem iJ{k t r}:ji (IL.f k t::r)=t++ji r:=rfl
theorem gN{s r}:ji (IL.n s::r)=s++ji r:=rfl
noncomputable def jM:List IL->Nat->List (Nat×List Nat)
 | [],_=>[]
 | .f _ t::r,p=>jM r<|p+t.length
 | .n s::r,p=>(p,s)::jM r (p+s.length)
theorem df{z}:jM [] z=[]:=rfl
theorem d0{z k t r}:jM (IL.f k t::r) z=jM r (z+t.length):=rfl
theorem dm{z s r}:jM (IL.n s::r) z=(z,s)::jM r (z+s.length):=rfl
def mz:List PT->List PT
 | []=>[]
 | .f k t::r=>if cq k then .f k t::mz r else mz r
 | .m i::r=>.m i::mz r
theorem oz:mz []=[]:=rfl
theorem oh{k t r}:mz (PT.f k t::r)=if cq k=true then PT.f k t::mz r else mz r:=rfl
theorem oQ{i r}:mz (PT.m i::r)=PT.m i::mz r:=rfl
def b0 (L:List IL)(i:Nat):List PT:=mz<|hE L i
@[simp]theorem bc:∀(A B:List IL) (i:Nat),hE (A++B) i=hE A i++hE B (i+nI A)
 | [],B,i=>by simp[jY,bN]
 | .f k t::r,B,i=>by simp[jZ,ck,bc r]
 | .n s::r,B,i=>by simp[jN,cj,bc r,XR,Zr 1]
@[simp]theorem ah(A B:List IL):nI (A++B)=nI A+nI B:=by
 induction A with
 |nil=>exact(Yx _).symm
 |cons e r i=>cases e with
  |f=>exact i
  |n=>exact(Xs (·+1) i).trans (succ_add ..).symm
@[simp]theorem xa(A B:List IL):mm (A++B)=mm A++mm B:=by
 induction A with
 |nil=>exact rfl
 |cons e r i=>cases e with
  |f=>exact i
  |n=>exact Xs (_::·) i
@[simp]theorem ru(A:List IL):(mm A).length=nI A:=by
 induction A with
 |nil=>exact rfl
 |cons e r i=>cases e with
  |f=>exact i
  |n=>exact Xs (·+1) i
@[simp]theorem Jc(A B:List IL):ji (A++B)=ji A++ji B:=by
 induction A with
 |nil=>exact rfl
 |cons e r i=>cases e with
  |f=>exact(Xs (_++·) i).trans (X1 ..).symm
  |n=>exact(Xs (_++·) i).trans (X1 ..).symm
@[simp]theorem wm:∀(A B:List IL) (p:Nat),jM (A++B) p=jM A p++jM B (p+(ji A).length)
 | [],B,p=>by simp[df,d0,dm,fH,iJ,gN]
 | .f k t::r,B,p=>by simp[df,d0,dm,fH,iJ,gN,wm r,XR]
 | .n s::r,B,p=>by simp[df,d0,dm,fH,iJ,gN,wm r,XR]
@[simp]theorem lP(A:List IL)(p:Nat):(jM A p).length=nI A:=by
 induction A generalizing p with
 |nil=>rfl
 |cons e r i=>cases e with
  |f=>exact i _
  |n=>exact Xs (·+1)<|i _
def F9 (A:List IL)(p:Nat):(jM A p).map (·.2)=mm A:=by
 induction A generalizing p with
 |nil=>rfl
 |cons e r i=>cases e with
  |f=>exact i _
  |n=>exact Xs (_::·)<|i _
@[simp]theorem yD:∀(A B:List PT),mz (A++B)=mz A++mz B
 | [],B=>by simp[oz,oh,oQ]
 | .f k t::r,B=>by simp only[bE,oz,oh,oQ,yD r];split<;> simp
 | .m s::r,B=>by simp[oz,oh,oQ,yD r]
@[simp]theorem bn(A B)(i):b0 (A++B) i=b0 A i++b0 B (i+nI A):=by simp[b0]
abbrev g1:IL:=.f eJ [32]
abbrev wW (t:List Nat):IL:=.f ac t
abbrev sg (c:Nat):IL:=.f ak [c]
abbrev fn (t:List Nat):IL:=.f Xy t
abbrev n1:IL:=.f oJ [49]
noncomputable abbrev Yr:List Nat:=[67,79,78,83,84]
noncomputable abbrev YH:List Nat:=[84,89,80,69]
noncomputable abbrev YT:List Nat:=[86,65,82]
noncomputable abbrev bM:List Nat:=[66,69,71,73,78]
noncomputable abbrev Rw:List Nat:=[73,70]
noncomputable abbrev kK:List Nat:=[84,72,69,78]
noncomputable abbrev fg:List Nat:=[82,69,84,85,82,78]
noncomputable abbrev oK:List Nat:=[77,79,68,85,76,69]
noncomputable abbrev eF:List Nat:=[73,77,80,79,82,84]
noncomputable abbrev xr:List Nat:=[67,65,83,69]
noncomputable abbrev Ow:List Nat:=[73,78,84,69,71,69,82]
noncomputable abbrev Kt:List Nat:=[65,66,83]
noncomputable abbrev wZ:List Nat:=[102,114,101,115,104]
noncomputable def vi:List Nat:=[116,121,112,101]
noncomputable def zM:List Nat:=[118,97,114]
noncomputable def a9:List Nat:=[112,114,111,99]
noncomputable def wh:List Nat:=[112,97,114]
abbrev Nm:=List Nat
inductive Ev where
 |u (i:Nat)
 |w (i:Nat)
 |d (i:Nat) (k:List Nat)
 |r
 |o
 |c
 |f (i j:Nat)
set_option genInjectivity false in
inductive Vl where
 |v0 (x:Nm)
 |v1 (x y:Nm)
 |v2 (x:Nm)
 |v3 (x:Nm)
def dw:Vl->List IL
 | .v0 x=>[.n x]
 | .v1 x y=>[.n x,g1,sg 43,g1,.n y]
 | .v2 x=>[.n x,sg 46,fn [97]]
 | .v3 x=>[.n x,sg 40,.n [98],sg 46,fn [99],sg 44,g1,n1,g1,.f no uo,sg 41]
theorem Mv{z}:dw (Vl.v0 z)=[IL.n z]:=rfl
theorem LU{z y}:dw (Vl.v1 z y)=[IL.n z,g1,sg 43,g1,IL.n y]:=rfl
theorem M8{z}:dw (Vl.v2 z)=[IL.n z,sg 46,fn [97]]:=rfl
theorem L0{z}:dw (Vl.v3 z)=[IL.n z,sg 40,IL.n [98],sg 46,fn [99],sg 44,g1,n1,g1,IL.f no uo,sg 41]:=rfl
noncomputable def kD:Vl->Nat->List Ev
 | .v0 _,i=>[.u i]
 | .v1 _ _,i=>[.u i,.u<|i+1]
 | .v2 _,i=>[.u i]
 | .v3 _,i=>[.u i,.u<|i+1]
theorem Oq{z a}:kD (Vl.v0 a) z=[Ev.u z]:=rfl
theorem Ol{z a y}:kD (Vl.v1 a y) z=[Ev.u z,Ev.u<|z+1]:=rfl
theorem Nd{z a}:kD (Vl.v2 a) z=[Ev.u z]:=rfl
theorem NW{z a}:kD (Vl.v3 a) z=[Ev.u z,Ev.u<|z+1]:=rfl
set_option genInjectivity false in
inductive Kd where
 |n (x:Nm)
 |r (K:Kd)
 |p (x:Nm)
 |a (v:Vl) (K:Kd)
 |c (x:Nm)
def xP:List IL:=[wW lT,g1,fn [97],sg 44,g1,fn [100],sg 58,g1]
def Dt:List IL:=[sg 59,g1,fn [101],sg 42,sg 58,g1,.n Ow,g1,wW bT]
def iE:Kd->List IL
 | .n x=>[.n x]
 | .r K=>xP++iE K++Dt
 | .p x=>[wW gE,g1,wW R4,g1,.n x]
 | .a v K=>[wW dc,g1]++dw v++[g1,wW xf,g1]++iE K
 | .c x=>[wW eg,g1,sg 40,fn [99],sg 58,g1,.n x,sg 41]
theorem qw{z}:iE (Kd.n z)=[IL.n z]:=rfl
theorem jT{K}:iE K.r=xP++iE K++Dt:=rfl
theorem qG{z}:iE (Kd.p z)=[wW gE,g1,wW R4,g1,IL.n z]:=rfl
theorem gH{v K}:iE (Kd.a v K)=[wW dc,g1]++dw v++[g1,wW xf,g1]++iE K:=rfl
theorem nE{z}:iE (Kd.c z)=[wW eg,g1,sg 40,fn [99],sg 58,g1,IL.n z,sg 41]:=rfl
def nv:Kd->Nat->List Ev
 | .n _,i=>[.u i]
 | .r K,i=>nv K i++[.u<|i+nI (iE K)]
 | .p _,i=>[.w i]
 | .a v K,i=>kD v i++nv K (i+nI (dw v))
 | .c _,i=>[.u i]
theorem fF{z a}:nv (Kd.n a) z=[Ev.u z]:=rfl
theorem fJ{z K}:nv K.r z=nv K z++[Ev.u<|z+nI (iE K)]:=rfl
theorem fE{z a}:nv (Kd.p a) z=[Ev.w z]:=rfl
theorem ea{z v K}:nv (Kd.a v K) z=kD v z++nv K (z+nI (dw v)):=rfl
theorem eU{z a}:nv (Kd.c a) z=[Ev.u z]:=rfl
noncomputable def AP:Kd->Nat
 | .r K=>AP K+1
 | .a _ K=>AP K+1
 |_=>0
theorem Mh{K}:AP K.r=AP K+1:=rfl
theorem NF{v K}:AP (Kd.a v K)=AP K+1:=rfl
set_option genInjectivity false in
structure Dc where
 c:Option (Option<|Nm×Vl)
 t:Option (Option<|Nm×Kd)
 v:Option<|Option<|Nm×Kd
def bX (w:List Nat):List IL:=[g1,wW w,g1]
def r8:Option (Option<|Nm×Vl)->List IL
 |none=>[]
 |some none=>bX Yr
 |some (some (x,v))=>bX Yr++([.n x,g1,sg 61,g1]++dw v++[sg 59,g1])
theorem Et:r8 none=[]:=rfl
theorem Fj:r8 (some none)=bX Yr:=rfl
theorem mU{z v}:r8 (some<|some (z,v))=bX Yr++([IL.n z,g1,sg 61,g1]++dw v++[sg 59,g1]):=rfl
def wx:Option (Option<|Nm×Kd)->List IL
 |none=>[]
 |some none=>bX YH
 |some (some (x,K))=>bX YH++([.n x,sg 42,g1,sg 61,g1]++iE K++[sg 59,g1])
theorem zy:wx none=[]:=rfl
theorem AV:wx (some none)=bX YH:=rfl
theorem ng{z K}:wx (some<|some (z,K))=bX YH++([IL.n z,sg 42,g1,sg 61,g1]++iE K++[sg 59,g1]):=rfl
def zx:Option (Option<|Nm×Kd)->List IL
 |none=>[]
 |some none=>bX YT
 |some (some (x,K))=>bX YT++([.n x,sg 58,g1]++iE K++[sg 59,g1])
theorem zg:zx none=[]:=rfl
theorem za:zx (some none)=bX YT:=rfl
theorem nj{z K}:zx (some<|some (z,K))=bX YT++([IL.n z,sg 58,g1]++iE K++[sg 59,g1]):=rfl
def ui:Option (Option<|Nm×Vl)->Nat->List Ev
 |some (some (_,v)),i=>kD v (i+1)++[.d i tE]
 |_,_=>[]
def AE:Option (Option<|Nm×Kd)->Nat->List Ev
 |none,_=>[]
 |some none,_=>[.r]
 |some (some (_,K)),i=>.d i vi::nv K (i+1)++[.r]
theorem m8{z}:AE none z=[]:=rfl
theorem nu{z}:AE (some none) z=[Ev.r]:=rfl
theorem kd{z f K}:AE (some<|some (f,K)) z=Ev.d z vi::nv K (z+1)++[Ev.r]:=rfl
def BC:Option (Option<|Nm×Kd)->Nat->List Ev
 |none,_=>[]
 |some none,_=>[.r]
 |some (some (_,K)),i=>nv K (i+1)++[.d i zM,.r]
theorem mW{z}:BC none z=[]:=rfl
theorem nq{z}:BC (some none) z=[Ev.r]:=rfl
theorem lH{z f K}:BC (some<|some (f,K)) z=nv K (z+1)++[Ev.d z zM,Ev.r]:=rfl
def aQ (d:Dc):List IL:=r8 d.c++wx d.t++zx d.v
def cM (d:Dc)(i:Nat):List Ev:=ui d.c i++AE d.t (i+nI (r8 d.c))++BC d.v (i+nI (r8 d.c)+nI (wx d.t))
set_option genInjectivity false in
structure Pr where
 nm:Nm
 p:Option (Nm×Nm×Nm)
 d:Dc
 v1:Vl
 x:Nm
 v2:Vl
def cu:Option (Nm×Nm×Nm)->List IL
 |none=>[]
 |some (a,b,x)=>[sg 40,wW YT,g1,.n a,sg 44,g1,.n b,sg 58,g1,wW dc,g1,wW xf,g1,.n x,sg 41]
def rn:Option (Nm×Nm×Nm)->Nat->List Ev
 |none,_=>[]
 |some _,i=>[.u<|i+2,.d i wh,.d (i+1) wh]
def r9:List IL:=[g1,wW bM,g1,wW Rw,g1]
def JS (x:Nm):List IL:=[g1,wW kK,g1,.n x,g1,.f ak [58,61],g1,n1,g1,wW bT,g1,wW fg,g1]
def I9 (v:Vl)(x:Nm)(a:Vl):List IL:=r9++dw v++JS x++dw a++[g1,wW bT,g1]
def qH (v a:Vl)(i:Nat):List Ev:=kD v i++.u (i+nI (dw v))::kD a (i+nI (dw v)+1)
def vp (p:Pr):List IL:=[g1,wW eg,g1,.n p.nm]++cu p.p++[sg 59]++aQ p.d++I9 p.v1 p.x p.v2++[.n p.nm,sg 59]
def nB (v a:Vl):Nat:=nI (dw v)+1+nI (dw a)
def jv (p:Pr)(i:Nat):List Ev:=.d i a9::.o::rn p.p (i+1)++cM p.d (i+1+nI (cu p.p))++qH p.v1 p.v2 (i+1+nI (cu p.p)+nI (aQ p.d))
 ++[.f (i+1+nI (cu p.p)+nI (aQ p.d)+nB p.v1 p.v2) i,.c]
set_option genInjectivity false in
structure Md where
 i:Option (Bool×Nm)
 d:Dc
 p:Option Pr
 x:Nm
 v:Vl
def bj:Option (Bool×Nm)->List IL
 |none=>[]
 |some (false,a)=>[wW eF,g1,.n a,g1,.f ak [58,61],g1,fn [98],sg 59,g1]
 |some (true,a)=>[wW eF,g1,.n a,sg 59,g1]
theorem AN:bj none=[]:=rfl
theorem zH{a}:bj (some (false,a))=[wW eF,g1,IL.n a,g1,IL.f ak [58,61],g1,fn [98],sg 59,g1]:=rfl
theorem zC{a}:bj (some (true,a))=[wW eF,g1,IL.n a,sg 59,g1]:=rfl
def g7:Option (Bool×Nm)->Nat->List Ev
 |none,_=>[]
 |some (false,_),i=>[.d i wq]
 |some (true,_),i=>[.d i b8]
theorem qq{z}:g7 none z=[]:=rfl
theorem qf{z s}:g7 (some (false,s)) z=[Ev.d z wq]:=rfl
theorem qi{z s}:g7 (some (true,s)) z=[Ev.d z b8]:=rfl
def fS:Option Pr->List IL
 |none=>[]
 |some p=>vp p
def qV:Option Pr->Nat->List Ev
 |none,_=>[]
 |some p,i=>jv p i
def o7:List IL:=[wW oK,g1,fn [97],sg 59,g1]
def DU (x:Nm):List IL:=[g1,wW bM,g1,.n x,sg 59,g1,wW xr,g1]
def EM:List IL:=[g1,wW xf,g1,n1,sg 58,g1,wW bT,g1,wW bT,g1,fn [97],sg 46]
def aP (m:Md):List IL:=o7++bj m.i++aQ m.d++fS m.p++DU m.x++dw m.v++EM
def ky (m:Md):List Ev:=g7 m.i 0++cM m.d (nI<|bj m.i)++qV m.p (nI (bj m.i)+nI (aQ m.d))++.u (nI (bj m.i)+nI (aQ m.d)+nI (fS m.p))::kD m.v (nI (bj m.i)+nI (aQ m.d)+nI (fS m.p)+1)
set_option genInjectivity false in
structure PS where
 a:List Sc
 b:List (List Nat)
 f:List (Nat×Int)
 l:List Nat
 t:Nat
def YM:Sc:=[(Kt,-1),(Ow,-1)]
def PS.seek (S:PS)(n:Nm):Int:=cr n<|S.a++[YM]
noncomputable def cB(j:Nat):List (Nat×Int)->Int
 | []=>0
 |(a,v)::r=>if a=j then v else cB j r
theorem jS{j}:cB j []=0:=rfl
theorem j0{j}{r}:cB j (x::r)=if x.1=j then x.2 else cB j r:=rfl
noncomputable def PS.add(S:PS)(i:Nat)(v:Int):PS:={S with f:=S.f++[(i,v)]}
section
variable(wd:Nat->Nm)
def PS.Yo (S:PS)(F:List<|Nat×Int)(j:Nat):List<|Nat×Int:=F.set j ((F.getD j (0,0)).1,max (S.seek<|wd (F.getD j (0,0)).1)<|-1)
def PS.step (S:PS):Ev->PS
 | .u i=>S.add i<|max (S.seek<|wd i)<|-1
 | .w i=>if S.seek (wd i)=-2 then{S with f:=S.f++[(i,-1)],l:=S.l++[S.f.length]}else S.add i<|max (S.seek<|wd i)<|-1
 | .d i k=>match S.a with
  |s::c=>if(gk (wd i) s).isSome then{S with b:=S.b++[k],t:=S.t+1,f:=S.f++[(i,(S.b.length:Int))]}
   else{S with b:=S.b++[k],a:=putN (wd i) S.b.length s::c,f:=S.f++[(i,(S.b.length:Int))]}
  | []=>S
 | .r=>{S with f:=S.l.foldl (S.Yo wd) S.f,l:=[]}
 | .o=>{S with a:=[]::S.a}
 | .c=>{S with a:=S.a.tail}
 | .f i j=>S.add i<|cB j S.f
def PS.run (S:PS)(es:List Ev):PS:=es.foldl (PS.step wd) S
@[simp]theorem Sj(S:PS):S.run wd []=S:=rfl
@[simp]theorem ez(S:PS)(e:Ev)(es:List Ev):S.run wd (e::es)=(S.step wd e).run wd es:=rfl
@[simp]theorem ax(S:PS)(a b:List Ev):S.run wd (a++b)=(S.run wd a).run wd b:=by simp[PS.run]
end
noncomputable def Yz:PS:=⟨[[]],[],[],[],0⟩
def cK:List Nm:=[[97],[98],[99],[100],Kt,Ow,wZ]
section
variable{α β:Type}{R R':α->β->Prop}{l:List α}{k:List β}
def A2 (R:α->β->Prop):List α->List β->Prop
 | [],[]=>True
 |a::l,b::k=>R a b/\A2 R l k
 |_,_=>False
def A2.ind {M:List α->List β->Prop}(c:M [] [])(h1:∀{a b l k},R a b->M l k->M (a::l) (b::k)):∀{l:List α}{k:List β},A2 R l k->M l k:=by
 intro l;induction l with
 |nil=>intro k h;cases k with
  |nil=>exact c
  |cons b k=>exact h.elim
 |cons a l i=>intro k h;cases k with
  |nil=>exact h.elim
  |cons b k=>exact h1 h.1<|i h.2
def A2.len (h:A2 R l k):l.length=k.length:=A2.ind (M:=λ(a:List α) (b:List β)=>a.length=b.length) rfl (λ_=>Xs (·+1)) h
def A2.mono (f:∀{a b},R a b->R' a b)(h:A2 R l k):A2 R' l k:=A2.ind (M:=A2 R') trivial (λa i=>⟨f a,i⟩) h
def A2.mem {P:α->Prop}(f:∀{a b},R a b->P a)(h:A2 R l k):∀a∈l,P a:=
 A2.ind (M:=λl _=>∀a∈l,P a) (λ_ h=>Xw h XY) (λa i u c=>(XE.1 c).elim (λz=>z▸f a)<|i u) h
end
noncomputable def Tk:List Nm:=[[66,79,79,76,69,65,78],[67,72,65,82],[66,89,84,69],[73,78,84,69,71,69,82],[83,69,84],[84,82,85,69],[70,65,76,83,69],[65,66,83],[79,68,68],[76,69,78],[76,83,76],[65,83,82],[82,79,82],[79,82,68],[67,72,82],[73,78,67],[68,69,67],[73,78,67,76],[69,88,67,76],[78,69,87],[65,83,83,69,82,84]]
def iS:Sc:=Tk.map λx=>(x,-1)
def Ez:∀n∈cK,gk n iS=gk n YM:=by decide
theorem sW(h:n∈cK):∀a:List Sc,cr n (a++[iS])=cr n (a++[YM])
 | []=>by simp[fq,Ez n h]
 |s::a=>by simp[fq,sW h a]
section
variable(wd:Nat->Nm)(pl:Nat->Int)
structure jw(W:RS)(S:PS):Prop where
 sc:W.a=S.a++[iS]
 g:W.b=S.b
 fd:W.f=S.f.map λx=>(pl x.1,wd x.1,x.2)
 db:W.e.length=S.t
 l:W.d=S.l
def Sv (t:Tok):PT->Prop
 | .f k s=>t.k=k/\t.t=s
 | .m i=>t=⟨Xy,wd i,pl i⟩
def y3:List PT->List Tok->Prop:=A2 λp t=>Sv wd pl t p
noncomputable def nh:PT->Nm
 | .f _ t=>t
 | .m i=>wd i
end
def fY (p:PT)(s:Nm):Bool:=match p with
 | .f _ t=>decide (t≠s)
 | .m _=>decide (s∉cK)
def E5:PT->Bool
 | .f k _=>decide (k=Xy)
 | .m _=>true
section
variable{wd:Nat->Nm}{pl:Nat->Int}
theorem vX:∀{A B:List PT}{T:List Tok},y3 wd pl (A++B) T->∃c d,T=c++d/\y3 wd pl A c/\y3 wd pl B d
 | [],B,T,h=>⟨[],T,rfl,trivial,h⟩
 |p::A,B,[],h=>h.elim
 |p::A,B,t::T,h=>by exact am (vX (A:=A) h.2) λc d e a b=>⟨t::c,d,by refine aa e ?_;rfl,⟨h.1,a⟩,b⟩
def wX {A:List PT}{T:List Tok}(h:y3 wd pl A T):T.length=A.length:=(A2.len h).symm
def aI {p:PT}{R:List PT}{T:List Tok}(h:y3 wd pl (p::R) T){Cx:Prop}(k:∀t r,T=t::r->Sv wd pl t p->y3 wd pl R r->Cx):Cx:=by
 cases T with
 |nil=>exact h.elim
 |cons t r=>exact k t r rfl h.1 h.2
def oA {t:Tok}{p:PT}(h:Sv wd pl t p):t.t=nh wd p:=by
 cases p with
 |f k s=>exact h.2
 |m i=>refine aa (show t=_ from h) ?_;rfl
def nC (a:∀i,wd i∈cK){p:PT}{s:Nm}(h:fY p s=true):nh wd p≠s:=by
 cases p with
 |f k t=>simpa [fY,nh]using h
 |m i=>intro e;simp only[fY,X5]at h;exact h<|e▸a i
def MM {t:Tok}{p:PT}(h:Sv wd pl t p):decide (t.k=Xy)=E5 p:=by
 cases p with
 |f k s=>refine aa h.1 ?_;rfl
 |m i=>refine aa (show t=_ from h) ?_;rfl
theorem jw.XT(h:jw wd pl W S):jw wd pl W.XT S:=by
 unfold RS.XT;cases W.rem with
 |nil=>exact h
 |cons t r=>exact⟨h.sc,h.g,h.fd,h.db,h.l⟩
def jw.put (h:jw wd pl W S)(i)(v):jw wd pl (W.put (pl i,wd i,v))<|S.add i v:=
 ⟨h.sc,h.g,by simp[RS.put,PS.add,h.fd],h.db,h.l⟩
def jw.seek (h:jw wd pl W S)(a:nm∈cK):cr nm W.a=S.seek nm:=by rw[h.sc,sW a];rfl
def jw.use (h:jw wd pl W S)(a:∀i,wd i∈cK)(i):jw wd pl (W.use ⟨Xy,wd i,pl i⟩)<|S.step wd<|.u i:=by have:=h.put i<|max (S.seek<|wd i)<|-1;simpa only[RS.use,PS.step,h.seek<|a i]using this
def jw.YW (h:jw wd pl W S)(a:∀i,wd i∈cK)(i):jw wd pl (W.YW ⟨Xy,wd i,pl i⟩)<|S.step wd<|.w i:=by
 by_cases q:S.seek (wd i)=-2
 ·simp[RS.YW,PS.step,(h.seek<|a i),q]
  exact⟨h.sc,h.g,by simp[h.fd],h.db,by simp[h.l,h.fd,XM]⟩
 ·simp only[RS.YW,PS.step,(h.seek<|a i),q,if_false]
  exact h.use a i
theorem jw.decl(h:jw wd pl W S)(b:S.a≠[])(i)(k):jw wd pl (W.decl ⟨Xy,wd i,pl i⟩ k)<|S.step wd<|.d i k:=by
 cases e:S.a with
 |nil=>exact Xw e b
 |cons s c=>
  have a:W.a=s::(c++[iS]):=by refine aa h.sc<|aa e ?_;rfl
  simp only[RS.decl,PS.step,a,e];cases(gk (wd i) s).isSome with
  |true=>simp only[if_true];exact⟨by simp only[e,bE],by simp only[h.g],by simp only[h.fd,h.g,Zj,af,map_nil],by simp only[Xx,h.db,aE,br],h.l⟩
  |false=>simp only[Zc,if_false];exact⟨by simp only[h.g,bE],by simp only[h.g],by simp only[h.fd,h.g,Zj,af,map_nil],h.db,h.l⟩
def jw.opn (h:jw wd pl W S):jw wd pl W.opn<|S.step wd .o:=
 ⟨by simp only[RS.opn,PS.step,h.sc,bE],h.g,h.fd,h.db,h.l⟩
theorem jw.cls(h:jw wd pl W S)(a:S.a≠[]):jw wd pl W.cls<|S.step wd .c:=by
 refine cps λC k=>?_;cases e:S.a with
 |nil=>exact Xw e a
 |cons s b=>refine k ?_;exact⟨by simp only[RS.cls,PS.step,h.sc,e,bE,tail_cons],h.g,h.fd,h.db,h.l⟩
def JR {S:PS}(a:∀i,wd i∈cK)(F:List<|Nat×Int)(j:Nat)(b:j<F.length)(s:List Sc)(h:s=S.a++[iS]):
  (F.map λx=>(pl x.1,wd x.1,x.2)).set j (yj s<|(F.map λx=>(pl x.1,wd x.1,x.2)).getD j (0,[],0))=(S.Yo wd F j).map λx=>(pl x.1,wd x.1,x.2):=by
 have e:(F.map λx=>(pl x.1,wd x.1,x.2)).getD j (0,[],0)=(pl (F[j]).1,wd (F[j]).1,(F[j]).2):=by simp[Yq,YN,XQ b]
 refine aa e ?_;simp only[PS.Yo,(by simp[Yq,XQ b]:F.getD j (0,0)=F[j]),yj,List.map_set,h,sW<|a _];rfl
def Fc (S:PS)(F:List<|Nat×Int)(j:Nat):(S.Yo wd F j).length=F.length:=Ze
def J4 (m:∀i,wd i∈cK){S:PS}(g:List Nat):∀(W:RS) (F:List<|Nat×Int),W.a=S.a++[iS]->(∀j∈g,j<F.length)->W.f=F.map (λx=>(pl x.1,wd x.1,x.2))->
  (W.Zw g).a=W.a/\(W.Zw g).b=W.b/\(W.Zw g).e=W.e/\(W.Zw g).rem=W.rem/\(W.Zw g).p=W.p/\(W.Zw g).f=(g.foldl (S.Yo wd) F).map (λx=>(pl x.1,wd x.1,x.2)):=by
 induction g with
 |nil=>intro W F l k h;exact⟨rfl,rfl,rfl,rfl,rfl,h⟩
 |cons j g o=>
  intro W F l k h;have h1:(W.Yo j).f=(S.Yo wd F j).map (λx=>(pl x.1,wd x.1,x.2)):=by simp only[RS.Yo,h];exact JR m F j (k j<|.head _) _ l
  exact cps λC p=>rx (o (W.Yo j) (S.Yo wd F j) l (λq n=>by rw[Fc];exact k q<|.tail _ n) h1) λa b c d e f=>p<|⟨a,b,c,d,e,f⟩
def jw.resolve {W:RS}{S:PS}(h:jw wd pl W S)(k:∀i,wd i∈cK)(m:∀j∈W.d,j<W.f.length):jw wd pl W.resolve (S.step wd .r)/\W.resolve.rem=W.rem/\W.resolve.p=W.p:=by exact cps λC n=>rx (J4 k (S:=S) (pl:=pl) W.d W S.f h.sc (λj q=>by have:=m j q;rw[h.fd,XM]at this;exact this) h.fd) λa b c d e f=>n<|⟨⟨a.trans h.sc,b.trans h.g,by rw[h.l]at f;simp only[RS.resolve,PS.step,h.l];exact f,by simp only[RS.resolve,PS.step,c,h.db],rfl⟩,d,e⟩
end
section
variable(n I:Nat)(ts:List Tok)(wd:Nat->Nm)(pl:Nat->Int)
structure Qw(R:List PT)(S:PS)(m:Nat)(W:RS):Prop where
 mt:y3 wd pl R W.rem
 ad:W.rem.length<ts.length
 d:W.p≠[46]
 st:jw wd pl W S
 ne:S.a≠[]
 c:W.c+W.d.length<=m
def Qh (R:List PT)(S:PS)(m:Nat)(H:Hp):Prop:=∃W,Rp n I ts H W/\Qw ts wd pl R S m W
def gc (d k:Nat)(e:List V)(v:V)(R:List PT)(S:PS)(m:Nat)(H:Hp)(b:List PT)(c:PS)(f:Nat):Prop:=
 ∃a,ae d k e H=some (.v v,a)/\Qh n I ts wd pl b c f a/\aq n H a
end
section
variable{n I:Nat}{ts:List Tok}{wd:Nat->Nm}{pl:Nat->Int}(XI:∀i,wd i∈cK)
variable{R:List PT}{S:PS}{m d:Nat}{H:Hp}{p:PT}
def Qh.Ye (q:Qh n I ts wd pl R S m H):Ye H n=true:=by refine ag q λW r _=>?_;exact r.Ye
def Qh.mono (q:Qh n I ts wd pl R S m H)(h:m<=a):Qh n I ts wd pl R S a H:=by refine ag q λW r q=>?_;exact⟨W,r,{q with c:=XJ q.c h}⟩
def M5 (q:Qh n I ts wd pl (p::R) S m H)(h:1<=d):ae d 18 [.r n] H=some (.v<|.s<|nh wd p,H):=by refine cps λC k=>ag q λW r q=>aI q.mt λt c e a b=>?_;have:=I6 (d:=d) r h;refine k ?_;simp[this,RS.text,e,<- oA a]
def QO (q:Qh n I ts wd pl (p::R) S m H)(h:1<=d):ae d 19 [.r n] H=some (.v<|.b<|E5 p,H):=by refine cps λC k=>ag q λW r q=>aI q.mt λt c e a b=>?_;have:=ST (d:=d) r h;refine k ?_;simp[this,RS.isNm,e,<- MM a]
include XI in
theorem Bg(q:Qh n I ts wd pl (p::R) S m H)(h:fY p s=true)(c:2<=d):ae d 21 [.r n,.s s] H=some (.v<|.b false,H):=by exact cps λC k=>ag q λW r q=>aI q.mt λt f e a b=>k<|Av (d:=d) r c<|aa (by simp[RS.text,e]:W.text=t.t)<|aa (oA a)<|nC XI h
theorem Qw.XT(q:Qw ts wd pl (p::R) S m W)(h:nh wd p≠[46]):Qw ts wd pl R S m W.XT:=by
 refine aI q.mt λt r e a b=>?_;have f:=q.ad;refine⟨by refine aa (fZ e) ?_;exact b,by refine aa (fZ e) ?_;rw[e]at f;exact z0 f,?_,q.st.XT,q.ne,?_⟩
 ·have:W.XT.p=t.t:=by unfold RS.XT;exact aa e rfl
  refine aa this<|aa (oA a) ?_;exact h
 ·have:W.XT.d=W.d:=by unfold RS.XT;exact aa e rfl
  rw[this,h0];exact q.c
theorem Bv(q:Qh n I ts wd pl (.f k s::R) S m H)(j:s≠[46])(g:2<=d):gc n I ts wd pl d 21 [.r n,.s s] (.b true) R S m H R S m:=by exact cps λC l=>ag q λW r q=>aI q.mt λt o e a b=>aj (N6 (d:=d) e g a.2 H r) λc h1 h f=>l<|⟨c,h1,⟨_,h,q.XT j⟩,f⟩
theorem RJ(q:Qh n I ts wd pl (.f k s::R) S m H)(j:s≠[46])(g:3<=d):gc n I ts wd pl d 22 [.r n,.s s] .n R S m H R S m:=by exact cps λC l=>ag q λW r q=>aI q.mt λt o e a b=>aj (SA (d:=d) e g a.2 H r) λc h1 h f=>l<|⟨c,h1,⟨_,h,q.XT j⟩,f⟩
theorem pY:∀x∈cK,x≠[46]:=by decide
include XI in
theorem GA{i:Nat}(q:Qh n I ts wd pl (.m i::R) S m H)(j:2<=d){Cx:Prop}(k:∀x c,ae d 23 [.r n] H=some (.v<|.r x,c)->Qh n I ts wd pl R S m c->aq n H c->dB n c x ⟨Xy,wd i,pl i⟩->Cx):Cx:=by exact ag q λW r q=>aI q.mt λt l e a b=>NB (d:=d) r e j (aa (a:t=⟨Xy,wd i,pl i⟩) rfl) λx c h1 f h g=>k x c h1 ⟨_,f,q.XT<|pY _<|XI i⟩ h<|(a:t=⟨Xy,wd i,pl i⟩)▸g.keep h
theorem A8(q:Qh n I ts wd pl (.f Xy s::R) S m H)(g:s≠[46])(f:2<=d):∃x H',ae d 23 [.r n] H=some (.v<|.r x,H')/\Qh n I ts wd pl R S m H'/\aq n H H':=by exact cps λC k=>ag q λW r q=>aI q.mt λt l e a b=>NB (d:=d) r e f a.1 λx H' h1 h c j=>k<|⟨x,H',h1,⟨_,h,q.XT g⟩,c⟩
theorem oj{W:RS}{t u:Tok}{r:List Tok}(e:W.rem=t::u::r):W.XT.text=u.t:=by simp[RS.text,fZ e]
include XI in
theorem zV{i:Nat}(q:Qh n I ts wd pl (.m i::p::R) S m H)(w:fY p [46]=true)(s:3<=d)(v:m<880):gc n I ts wd pl d 27 [.r n] .n (.m i::p::R) S m H (p::R) (S.step wd<|.u i)<|m+1:=by refine cps λC x=>ag q λW r q=>aI q.mt λt y e a b=>aI b λu y k j z=>?_;clear b;subst k;have h:t=⟨Xy,wd i,pl i⟩:=a;have f:=q.c;refine aj (VB (d:=d) e (aa h rfl) (by refine aa (oj e)<|aa (oA j) ?_;exact nC XI w) s (ww f v) H r) λg h1 l o=>?_;refine x<|⟨g,h1,⟨_,l,?_⟩,o⟩;have c:=q.XT<|pY _<|XI i;exact aa h<|⟨c.mt,c.ad,c.d,c.st.use XI i,q.ne,by show W.XT.c+1+W.XT.d.length<=m+1;rw[h0,(by unfold RS.XT;exact aa e rfl:W.XT.d=W.d)];exact wH f⟩
include XI in
theorem w0{i:Nat}(q:Qh n I ts wd pl (.m i::p::R) S m H)(s:fY p [42]=true)(o:3<=d){Cx:Prop}(v:∀x c,ae d 35 [.r n] H=some (.v<|.r x,c)->Qh n I ts wd pl (p::R) S m c->aq n H c->dB n c x ⟨Xy,wd i,pl i⟩->Cx):Cx:=by refine ag q λW r q=>aI q.mt λt w e a b=>aI b λu w g f y=>?_;clear b;subst g;have h:t=⟨Xy,wd i,pl i⟩:=a;refine QA (d:=d) r e (aa h rfl) (by refine aa (oj e)<|aa (oA f) ?_;exact nC XI s) o λx c h1 j k l=>?_;exact v x c h1 ⟨_,j,q.XT<|pY _<|XI i⟩ k<|h▸l
include XI in
theorem JG{i:Nat}(q:Qh n I ts wd pl (.m i::.f ak [42]::R) S m H)(l:3<=d){Cx:Prop}(o:∀x c,ae d 35 [.r n] H=some (.v<|.r x,c)->Qh n I ts wd pl R S m c->aq n H c->dB n c x ⟨Xy,wd i,pl i⟩->Cx):Cx:=by refine ag q λW r q=>aI q.mt λt s e a b=>aI b λu s g f v=>?_;clear b;subst g;exact QW (d:=d) r e (aa (a:t=⟨Xy,wd i,pl i⟩) rfl) f.2 l λx c h1 h j k=>o x c h1 ⟨_,h,(q.XT<|pY _<|XI i).XT<|show [42]≠[46]by decide⟩ j<|(a:t=⟨Xy,wd i,pl i⟩)▸k
include XI in
theorem GJ{s:Nm}(q:Qh n I ts wd pl (.f Xy s::p::R) S m H)(o:s≠[46])(l:fY p [42]=true)(k:3<=d){Cx:Prop}(v:∀x c,ae d 35 [.r n] H=some (.v<|.r x,c)->Qh n I ts wd pl (p::R) S m c->aq n H c->Cx):Cx:=by refine ag q λW r q=>aI q.mt λt w e a b=>aI b λu w g f y=>?_;clear b;subst g;refine QA (d:=d) r e a.1 (by refine aa (oj e)<|aa (oA f) ?_;exact nC XI l) k λx c h1 h j z=>?_;exact v x c h1 ⟨_,h,q.XT o⟩ j
theorem EW{s:Nm}(q:Qh n I ts wd pl (.f Xy s::.f ak [42]::R) S m H)(l:s≠[46])(k:3<=d){Cx:Prop}(o:∀x c,ae d 35 [.r n] H=some (.v<|.r x,c)->Qh n I ts wd pl R S m c->aq n H c->Cx):Cx:=by refine ag q λW r q=>aI q.mt λt v e a b=>aI b λu v g f w=>?_;clear b;subst g;exact QW (d:=d) r e a.1 f.2 k λx c h1 h j y=>o x c h1 ⟨_,h,(q.XT l).XT<|show [42]≠[46]by decide⟩ j
@[simp]theorem yJ(W:RS)(t:Tok)(k:Nm):(W.decl t k).rem=W.rem:=by unfold RS.decl;split;split<;>rfl;rfl
@[simp]theorem Dy(W:RS)(t:Tok)(k:Nm):(W.decl t k).p=W.p:=by unfold RS.decl;split;split<;>rfl;rfl
@[simp]theorem Gu(W:RS)(t:Tok)(k:Nm):(W.decl t k).d=W.d:=by unfold RS.decl;split;split<;>rfl;rfl
theorem E4(W:RS)(t:Tok)(k:Nm):(W.decl t k).c<=W.c+3:=by unfold RS.decl;split;split<;> exact XC _;exact bC 0x6d03012 tq
theorem pv(h:e≠.c)(a:S.a≠[]):(S.step wd e).a≠[]:=by
 cases e with
 |u i=>exact a
 |w i=>simp only[PS.step];split<;> exact a
 |d i k=>
  simp only[PS.step];split
  ·split
   ·exact a
   ·simp
  ·exact a
 |r=>exact a
 |o=>simp[PS.step]
 |c=>exact Xw rfl h
 |f i j=>exact a
theorem Io{i x:Nat}{k:Nm}(q:Qh n I ts wd pl R S m H)(f:dB n H x ⟨Xy,wd i,pl i⟩)(e:2<=d)(g:m<880):gc n I ts wd pl d 25 [.r n,.r x,.s k] (.i S.b.length) R S m H R (S.step wd<|.d i k)<|m+3:=by
 refine cps λC j=>ag q λW r q=>?_;have h:W.a≠[]:=by refine aa q.st.sc ?_;simp
 refine WP (d:=d) (k:=k) r f h e (ba 0x6f4e04f7070833d88206065b tq q.c g) λa h1 b c=>?_;rw[q.st.g]at h1;refine j<|⟨a,h1,⟨_,b,(⟨by rw[yJ];exact q.mt,by rw[yJ];exact q.ad,by rw[Dy];exact q.d,q.st.decl q.ne i k,pv (by simp) q.ne,?_⟩)⟩,c⟩;have:=E4 W ⟨Xy,wd i,pl i⟩ k;rw[Gu];exact oN 0xda26040c908236065b1b46c0065b tq this q.c
theorem Rv:∀x∈cK,x≠dc/\x≠lT/\x≠gE/\x≠eg:=by decide
include XI in
theorem PI{i:Nat}(q:Qh n I ts wd pl (.m i::p::R) S m H)(x:fY p [46]=true)(v:5<=d)(w:m<880):gc n I ts wd pl d 41 [.r n] .n (.m i::p::R) S m H (p::R) (S.step wd<|.w i)<|m+3:=by
 refine cps λC y=>ag q λW r q=>aI q.mt λt z e a b=>aI b λu z l j A=>?_;clear b;subst l;have h:t=⟨Xy,wd i,pl i⟩:=a;have k:=q.c;refine aj (VM (d:=d) e (by refine aa h ?_;exact⟨rfl,Rv _<|XI i⟩) (by refine aa (oj e)<|aa (oA j) ?_;exact nC XI x) v (ba 0x6f4e04f7070833d88206065b tq k w) H r) λg h1 o s=>?_;refine y<|⟨g,h1,⟨_,o,?_⟩,s⟩;have c:=q.XT<|pY _<|XI i;refine aa h ?_;have f:(W.XT.YW ⟨Xy,wd i,pl i⟩).rem=W.XT.rem/\(W.XT.YW ⟨Xy,wd i,pl i⟩).p=W.XT.p/\(W.XT.YW ⟨Xy,wd i,pl i⟩).c+(W.XT.YW ⟨Xy,wd i,pl i⟩).d.length<=W.XT.c+W.XT.d.length+3:=by
  unfold RS.YW;split
  ·refine⟨rfl,rfl,?_⟩
   simp only[Xx,aE,br];exact aK 0xda103181681ac0b04d03192 tq
  ·refine⟨rfl,rfl,?_⟩
   show W.XT.c+1+W.XT.d.length<=_;exact aK 0x36840c6042d03192 tq
 exact⟨by refine aa f.1 ?_;exact c.mt,by refine aa f.1 ?_;exact c.ad,by refine aa f.2.1 ?_;exact c.d,c.st.YW XI i,pv (by simp) q.ne,by have:=c.c;exact Gz 0xda46040c910626065b1b462630206065b tq f.2.2 this⟩
include XI in
theorem Cd(q:Qh n I ts wd pl R S m H)(j:2<=d)(k:m<880):gc n I ts wd pl d 42 [.r n] .n R S m H R (S.step wd .r)<|m+1:=by refine cps λC l=>ag q λW r q=>?_;have e:=q.c;refine aj (VF (d:=d) (W:=W) (n:=n) (I:=I) (ts:=ts) j (ba 0x1bd382064f7070833d88206065b tq e k) H r) λf h1 h g=>bU (q.st.resolve XI<|by refine cT r λs o r=>?_;exact r.L) λa b c=>?_;exact l<|⟨f,h1,⟨_,h,(⟨by refine aa b ?_;exact q.mt,by refine aa b ?_;exact q.ad,by refine aa c ?_;exact q.d,a,pv (by simp) q.ne,by simp only[RS.resolve,ya,br];exact ba 0x168980685a10318c908206065b tq e⟩)⟩,g⟩
end
structure QG(n I:Nat)(ts:List Tok)(wd:Nat->Nm)(pl:Nat->Int)(R:List PT)(S:PS)(m:Nat)(F:Hp->Prop)(H:Hp):Prop where
 q:Qh n I ts wd pl R S m H
 f:F H
def Fw (n:Nat)(F:Hp->Prop):Prop:=∀H a,aq n H a->F H->F a
section
variable{n I:Nat}{ts:List Tok}{wd:Nat->Nm}{pl:Nat->Int}{R R':List PT}{S S':PS}{m m' d:Nat}{p:PT}{F:Hp->Prop}{l:Lo}{ss t f:List MS}{Q:Fl->Hp->Prop}
def bk {a:Hp}:Fw n<|aq n a:=λH b g p=>p.trans g
def o8 {i:List PT}{j:PS}{w k:Nat}{e:List ME}{g:List V}{v:V}(q:Fw n F)(o:gv l 0=xR n)(r:∀H,Zb (ae d) l e H=some (g,H))(s:∀H,Qh n I ts wd pl R S m H->gc n I ts wd pl d k (.r n::g) v i j w H R' S' m')
  (u:Tr (ae d) l (QG n I ts wd pl R' S' m' F) ss Q):Tr (ae d) l (QG n I ts wd pl R S m F) (.x (.m k (.v 0) e)::ss) Q:=
 aV (λH p=>by exact aj (s H p.q) λh a b c=>⟨h,by simp[o,r,p.q.Ye,a],b,q _ _ c p.f⟩) u
def ut (g:s≠[46])(e:Fw n F)(h:gv l 0=xR n)(H:Hp)(p:QG n I ts wd pl (.f k s::R) S m F H):∃H',ai (ae<|d+2) l (.m 21 (.v 0) [.s s]) H=some (.b true,H')/\QG n I ts wd pl R S m F H':=by exact aj (Bv (d:=d+2) p.q g<|nl rfl) λH' a b c=>⟨H',II λj=>j _ h p.q.Ye _ _ a,b,e _ _ c p.f⟩
def jG (h:∀i,wd i∈cK)(b:fY p s=true)(a:gv l 0=xR n)(H)(g:QG n I ts wd pl (p::R) S m F H):∃H',ai (ae<|d+2) l (.m 21 (.v 0) [.s s]) H=some (.b false,H')/\QG n I ts wd pl (p::R) S m F H':=
 ⟨H,II λj=>j _ a g.q.Ye _ _<|Bg h (d:=d+2) g.q b<|nl rfl,g⟩
def uw {k s:Nm}(b:s≠[46])(a:Fw n F)(h:gv l 0=xR n)(c:Tr (ae<|d+3) l (QG n I ts wd pl R S m F) ss Q):Tr (ae<|d+3) l (QG n I ts wd pl (.f k s::R) S m F) (.x (.m 22 (.v 0) [.s s])::ss) Q:=
 o8 a h (λ_=>rfl) (λH q=>RJ (d:=d+3) q b<|nl rfl) c
def Vz {k s:Nm}(b:s≠[46])(a:Fw n F)(h:gv l 0=xR n)(c:Tr (ae<|d+2) l (QG n I ts wd pl R S m F) ss Q):Tr (ae<|d+2) l (QG n I ts wd pl (.f k s::R) S m F) (.x (.m 21 (.v 0) [.s s])::ss) Q:=
 o8 a h (λ_=>rfl) (λH q=>Bv (d:=d+2) q b<|nl rfl) c
structure IF(n x:Nat)(t:Tok)(F:Hp->Prop)(H:Hp):Prop where
 i:dB n H x t
 f:F H
def tb {x:Nat}{t:Tok}(h:Fw n F):Fw n<|IF n x t F:=λH a g p=>⟨p.i.keep g,h _ _ g p.f⟩
def Oy (h:∀i,wd i∈cK){i j:Nat}(o:Fw n F)(k:gv l 0=xR n)(s:∀x,Tr (ae<|d+2) (l.set i<|xR x) (QG n I ts wd pl R S m<|IF n x ⟨Xy,wd j,pl j⟩ F) ss Q):
  Tr (ae<|d+2) l (QG n I ts wd pl (.m j::R) S m F) (.s i (.m 23 (.v 0) [])::ss) Q:=λH p=>by
 exact cps λC r=>GA h (d:=d+2) p.q (nl rfl) λx g a b c e=>r<|aV (P:=λX=>X=H) (λX z=>⟨g,by refine aa z ?_;exact qE λq=>q _ k p.q.Ye _ _ a,b,e,o _ _ c p.f⟩) (s x) H rfl
def Py {s:Nm}(i:s≠[46])(g:Fw n F)(h:gv l 0=xR n)(o:Tr (ae<|d+2) l (QG n I ts wd pl R S m F) ss Q):Tr (ae<|d+2) l (QG n I ts wd pl (.f Xy s::R) S m F) (.x (.m 23 (.v 0) [])::ss) Q:=
 aV (λH p=>by refine cps λC k=>?_;obtain⟨x,e,a,b,c⟩:=A8 (d:=d+2) p.q i<|nl rfl;exact k<|⟨e,qE λj=>j _ h p.q.Ye _ _ a,b,g _ _ c p.f⟩) o
def Jo {i j x:Nat}{k:Nm}(q:m<880)(g:Fw n F)(r:∀H,F H->dB n H x ⟨Xy,wd j,pl j⟩)(h:gv l 0=xR n)(o:gv l i=xR x)(u:Tr (ae<|d+2) l (QG n I ts wd pl R (S.step wd<|.d j k) (m+3) F) ss Q):
  Tr (ae<|d+2) l (QG n I ts wd pl R S m F) (.x (.m 25 (.v 0) [.v i,.s k])::ss) Q:=
 aV (λH p=>by obtain⟨e,a,b,c⟩:=Io (d:=d+2) p.q (r _ p.f) (XN _ _) q;exact⟨e,qE λs=>s _ h p.q.Ye _ o _ _ a,b,g _ _ c p.f⟩) u
def Jd (e:∀i,wd i∈cK){i j x:Nat}{k:Nm}(c:m<880)(a:Fw n F)(h:gv l 0=xR n)(b:gv l i=xR x)(g:Tr (ae<|d+2) l (QG n I ts wd pl R (S.step wd<|.d j k) (m+3)<|IF n x ⟨Xy,wd j,pl j⟩ F) ss Q):
  Tr (ae<|d+2) l (QG n I ts wd pl R S m<|IF n x ⟨Xy,wd j,pl j⟩ F) (.x (.m 25 (.v 0) [.v i,.s k])::ss) Q:=Jo c (tb a) (λ_ p=>p.i) h b g
def QG.mono (h:m<=m')(p:QG n I ts wd pl R S m F H):QG n I ts wd pl R S m' F H:=⟨p.q.mono h,p.f⟩
def QG.cast (e:S=S')(p:QG n I ts wd pl R S m F H):QG n I ts wd pl R S' m F H:=e▸p
def rl (a:E5 p=b)(h:gv l 0=xR n)(H)(g:QG n I ts wd pl (p::R) S m F H):∃H',ai (ae<|d+1) l (.m 19 (.v 0) []) H=some (.b b,H')/\QG n I ts wd pl (p::R) S m F H':=
 ⟨H,X6 (II λj=>j _ h g.q.Ye _ _<|QO (d:=d+1) g.q<|XN _ _)<|by simp[a],g⟩
def SO (h:∀i,wd i∈cK)(b:fY p s=true)(a:gv l 0=xR n)(k:Tr (ae<|d+2) l (QG n I ts wd pl (p::R) S m F) ss Q):Tr (ae<|d+2) l (QG n I ts wd pl (p::R) S m F) (.x (.m 21 (.v 0) [.s s])::ss) Q:=
 aV (λH g=>⟨H,qE λj=>j _ a g.q.Ye _ _<|Bg h (d:=d+2) g.q b<|XN _ _,g⟩) k
def Rb {s:Nm}(h:∀i,wd i∈cK)(q:s≠[46])(o:fY p [42]=true)(k:Fw n F)(j:gv l 0=xR n)(u:Tr (ae<|d+3) l (QG n I ts wd pl (p::R) S m F) ss Q):Tr (ae<|d+3) l (QG n I ts wd pl (.f Xy s::p::R) S m F) (.x (.m 35 (.v 0) [])::ss) Q:=
 aV (λH g=>by exact GJ h (d:=d+3) g.q q o (XN _ _) λx e a b c=>⟨e,qE λr=>r _ j g.q.Ye _ _ a,b,k _ _ c g.f⟩) u
def UB {s:Nm}(j:s≠[46])(i:Fw n F)(h:gv l 0=xR n)(q:Tr (ae<|d+3) l (QG n I ts wd pl R S m F) ss Q):Tr (ae<|d+3) l (QG n I ts wd pl (.f Xy s::.f ak [42]::R) S m F) (.x (.m 35 (.v 0) [])::ss) Q:=
 aV (λH g=>by exact cps λC o=>EW (d:=d+3) g.q j (XN _ _) λx e a b c=>o<|⟨e,qE λk=>k _ h g.q.Ye _ _ a,b,i _ _ c g.f⟩) q
def UV (h:∀i,wd i∈cK){i j:Nat}(r:fY p [42]=true)(q:Fw n F)(o:gv l 0=xR n)(v:∀x,Tr (ae<|d+3) (l.set i<|xR x) (QG n I ts wd pl (p::R) S m<|IF n x ⟨Xy,wd j,pl j⟩ F) ss Q):
  Tr (ae<|d+3) l (QG n I ts wd pl (.m j::p::R) S m F) (.s i (.m 35 (.v 0) [])::ss) Q:=λH g=>by
 exact cps λC u=>w0 h (d:=d+3) g.q r (XN _ _) λx k a b c e=>u<|aV (P:=λX=>X=H) (λX z=>⟨k,by refine aa z ?_;exact qE λs=>s _ o g.q.Ye _ _ a,b,e,q _ _ c g.f⟩) (v x) H rfl
def Ux (h:∀i,wd i∈cK){i j:Nat}(q:Fw n F)(o:gv l 0=xR n)(s:∀x,Tr (ae<|d+3) (l.set i<|xR x) (QG n I ts wd pl R S m<|IF n x ⟨Xy,wd j,pl j⟩ F) ss Q):
  Tr (ae<|d+3) l (QG n I ts wd pl (.m j::.f ak [42]::R) S m F) (.s i (.m 35 (.v 0) [])::ss) Q:=λH g=>by
 exact JG h (d:=d+3) g.q (XN _ _) λx k a b c e=>aV (P:=λX=>X=H) (λX z=>⟨k,by refine aa z ?_;exact qE λr=>r _ o g.q.Ye _ _ a,b,e,q _ _ c g.f⟩) (s x) H rfl
def T3 (h:∀i,wd i∈cK){i j:Nat}{k:Nm}(u:fY p [42]=true)(s:m<880)(r:Fw n F)(o:gv l 0=xR n)(y:Tr (ae<|d+3) (l.set i<|xI S.b.length) (QG n I ts wd pl (p::R) (S.step wd<|.d j k) (m+3) F) ss Q):
  Tr (ae<|d+3) l (QG n I ts wd pl (.m j::p::R) S m F) (.s i (.m 25 (.v 0) [.m 35 (.v 0) [],.s k])::ss) Q:=
 aV (λH g=>by exact cps λC w=>w0 h (d:=d+3) g.q u (XN _ _) λx z a b c e=>aj (Io (d:=d+3) (k:=k) b e (XN _ _) s) λq f1 f2 f3=>w<|⟨q,qE λv=>v _ o g.q.Ye _ o g.q.Ye _ _ a _ _ f1,f2,r _ _ (c.trans f3) g.f⟩) y
def G7 (h:∀H,P H->ai (ae d) l e H=some (v,H))(k:∀H,P H->Q (.r v) H):Tr (ae d) l P (.r e::ss) Q:=λH p=>⟨.r v,H,by simp[h H p],k H p⟩
def Rg (a:decide (s=c)=b)(h:gv l 0=xR n)(H)(g:QG n I ts wd pl (.f k s::R) S m F H):∃H',ai (ae<|d+1) l (.q .e (.m 18 (.v 0) [])<|.s c) H=some (.b b,H')/\QG n I ts wd pl (.f k s::R) S m F H':=
 ⟨H,by simp[h,g.q.Ye,M5 (d:=d+1) g.q<|XN _ _,nh,a],g⟩
def Pu (k:∀H,P H->Q (.r .n) H):Tr (ae d) l P (.aaw::ss) Q:=λH p=>⟨.r .n,H,rfl,k H p⟩
def se {a:Cl}{c:ME}{b:Bool}{H:Hp}{P:Hp->Prop}(h:∃H',ai a l c H=some (.b b,H')/\P H'):∃H',ai a l (.N c) H=some (.b<|!b,H')/\P H':=by exact ag h λH' e p=>⟨H',by simp[e],p⟩
def UT {i:List PT}{j:PS}{x k:Nat}{e:List ME}{g:List V}(q:Fw n F)(o:gv l 0=xR n)(r:∀H,Zb (ae d) l e H=some (g,H))(s:∀H,Qh n I ts wd pl R S m H->∃v,gc n I ts wd pl d k (.r n::g) v i j x H R' S' m')
  (w:Tr (ae d) l (QG n I ts wd pl R' S' m' F) ss Q):Tr (ae d) l (QG n I ts wd pl R S m F) (.x (.m k (.v 0) e)::ss) Q:=
 aV (λH p=>by exact cps λC u=>am (s H p.q) λv h a b c=>u<|⟨h,by simp[o,r,p.q.Ye,a],b,q _ _ c p.f⟩) w
def TL (g:Cl)(i:Nat)(b:List MS)(a:Nat)(k h:List V)(l:Lo)(P:Hp->Prop)(S:Lo->Hp->Prop):Prop:=∀H,P H->∃e c,aM (λv e c=>XU g a4 (e.set i<|some v) c b) (aZ a k) h l H=some (.n e,c)/\S e c
def AT {c:Cl}{i a:Nat}{b:List MS}{k:List V}{P:Hp->Prop}(h:∀H,P H->H[a]?=some (.l k)):TL c i b a k [] l P (λe H=>e=l/\P H):=λH p=>⟨l,H,bu<|show aZ a k H=true from fm<|h H p,rfl,p⟩
def wN {c:Cl}{i a:Nat}{b:List MS}{k q:List V}{v:V}{o:Lo}{P j:Hp->Prop}{T:Lo->Hp->Prop}(y:∀H,P H->H[a]?=some (.l k))(h:Tr c (l.set i<|some v) P b<|Nx λl' H=>l'=o/\j H)(r:TL c i b a k q o j T):TL c i b a k (v::q) l P T:=λH p=>by refine cps λC z=>xL (h H p) λf g e A w x p2=>?_;subst w;clear h;subst x;exact dJ (r g p2) λl' s u t=>z<|⟨l',s,(aS (show aZ a k H=true from fm<|y H p) (l':=A) (H':=g) e).trans u,t⟩
def NU {j:Cl}{i a:Nat}{s:ME}{b:List MS}{k:List V}{P g:Hp->Prop}{T:Lo->Hp->Prop}(v:∀H,P H->∃c,ai j l s H=some (.r a,c)/\g c)(r:∀H,g H->H[a]?=some (.l k))(u:k.length<=1000000)(h:TL j i b a k k l g T):Tn j l P (.g i s b) T:=λH p=>by exact cps λC w=>ag (v H p) λc e p1=>dJ (h c p1) λx o q t=>w<|⟨x,o,(e5 e (r c p1) u).trans q,t⟩
def bt {k:Nat}{f:Fn}{c:List V}{v:V}{H:Hp}(h:Qh n I ts wd pl R S m H)(o:HM k=some f)(q:c.length=f.p)(b:c.map some++List.replicate (f.vars-f.p) none=l)(j:f.body=ss)
  (g:Tr (ae d) l (QG n I ts wd pl R S m<|aq n H) ss<|Rt λs a=>s=v/\QG n I ts wd pl R' S' m' (aq n H) a):gc n I ts wd pl (d+1) k c v R S m H R' S' m':=by
 refine cps λC r=>am (dZ o q b j g H ⟨h,aq.refl n H⟩) λ_ a e i p=>?_;clear g;subst i;exact r<|⟨a,e,p.q,p.f⟩
end
noncomputable def eN:Bool->List PT->List Ev
 |_,[]=>[]
 |_,.f k t::r=>eN (decide (t=[46])) r
 |d,.m i::r=>if d then eN false r else .u i::eN false r
theorem yI{z}:eN z []=[]:=rfl
theorem xO{z k t r}:eN z (PT.f k t::r)=eN (decide (t=[46])) r:=rfl
theorem xZ{z i r}:eN z (PT.m i::r)=if z=true then eN false r else Ev.u i::eN false r:=rfl
def iw:Bool->List PT->Bool
 |d,[]=>!d
 |d,.f k t::r=>(decide (k≠Xy)||d)&&iw (decide (t=[46])) r
 |d,.m i::r=>!d&&iw false r
theorem E9{z1}:iw z1 []=!z1:=rfl
theorem xj{z k t r}:iw z (PT.f k t::r)=((decide (k≠Xy)||z)&&iw (decide (t=[46])) r):=rfl
theorem G8{z i r}:iw z (PT.m i::r)=(!z&&iw false r):=rfl
def R8:PT->Int
 | .f k t=>if t∈Pl/\k=ak then 1 else if t∈OW/\k=ak then -1 else 0
 | .m _=>0
def qK (s:Nm):Int->List PT->Bool
 |dep,[]=>decide (dep=0)
 |dep,p::r=>(decide (0<dep)||fY p s)&&qK s (dep+R8 p) r
theorem FV{s z}:qK s z []=decide (z=0):=rfl
theorem Ep{s z p r}:qK s z (p::r)=((decide (0<z)||fY p s)&&qK s (z+R8 p) r):=rfl
def Se:PT->Int
 | .f k t=>C7 t
 | .m _=>0
def pg:Int->List PT->Bool
 |dep,[]=>decide (dep=0)
 |dep,p::r=>(decide (0<dep)||fY p bT)&&pg (dep+Se p) r
theorem EJ{z}:pg z []=decide (z=0):=rfl
theorem xq{z p r}:pg z (p::r)=((decide (0<z)||fY p bT)&&pg (z+Se p) r):=rfl
def Nb:∀x∈cK,C7 x=0:=by decide
section
variable{n I:Nat}{ts:List Tok}{wd:Nat->Nm}{pl:Nat->Int}(XI:∀i,wd i∈cK)
variable{R:List PT}{S:PS}{m d:Nat}{H:Hp}{p:PT}
def Mp:JT ⟨Xy,wd i,pl i⟩=0:=by simp[JT];exact aa (Xu (λh=>by have:=h.2;revert this;decide))<|aa (Xu (λh=>by have:=h.2;revert this;decide)) rfl
include XI in
theorem I3:∀{T:List Tok}{a:Int},y3 wd pl A T->qK s a A=true->AS s a T:=by
 induction A with
 |nil=>intro T a h b;cases T with |nil=>simpa [FV,IX]using b|cons=>exact h.elim
 |cons p A c=>
  intro T a h b;cases T with |nil=>exact h.elim|cons t T=>?_
  simp[Ep]at b;have e:JT t=R8 p:=by
   clear b;cases p with
   |f k s=>simp[JT,R8,h.1.1,h.1.2]
   |m i=>refine aa (show t=_ from h.1) ?_;exact Mp
  refine⟨?_,?_⟩
  ·rcases b.1 with z|z
   ·exact .inl z
   ·exact .inr (by refine aa (oA h.1) ?_;exact nC XI z)
  ·refine aa e ?_;exact c h.2 b.2
include XI in
theorem B9:∀{A:List PT}{T:List Tok}{a:Int},y3 wd pl A T->pg a A=true->zE a T
 | [],[],a,_,h=>by simpa [EJ,xq,Ku,Ki]using h
 | [],t::T,a,h,_=>h.elim
 |p::A,[],a,h,_=>h.elim
 |p::A,t::T,a,h,b=>by
  simp[xq]at b;have e:C7 t.t=Se p:=by
   clear b;cases p with
   |f k s=>simp[Se,h.1.2]
   |m i=>refine aa (show t=_ from h.1) ?_;exact Nb _<|XI i
  refine⟨?_,?_⟩
  ·rcases b.1 with z|z
   ·exact .inl z
   ·exact .inr (by refine aa (oA h.1) ?_;exact nC XI z)
  ·refine aa e ?_;exact B9 h.2 b.2
include XI in
theorem Cm:∀{T rest:List Tok}{W:RS}{S:PS}{dt:Bool},y3 wd pl A T->W.rem=T++rest->(W.p=[46]↔dt=true)->iw dt A=true->jw wd pl W S->S.a≠[]->
  jw wd pl (W.ones T) (S.run wd<|eN dt A)/\(W.ones T).p≠[46]/\(W.ones T).rem=rest/\(W.ones T).c+(W.ones T).d.length<=W.c+W.d.length+A.length/\(S.run wd<|eN dt A).a≠[]:=by
 induction A with
 |nil=>intro T rest W S dt h e q j u r;cases T with |cons=>exact h.elim|nil=>exact⟨u,(λz=>by rw[q.1 z]at j;exact eI j nt),e,XC _,r⟩
 |cons p A E=>
  intro T rest W S dt h e q j u r;cases T with |nil=>exact h.elim|cons t T=>?_
  rw[bE]at e;have e:=e;have D:=pz e;cases p with
  |f k s=>
   simp only[xj,Xv,YO,X5]at j;have j:=j;have F:¬(t.k=Xy/\W.p≠[46]):=by
    intro z;rcases j.1 with y|y
    ·exact y<|h.1.1▸z.1
    ·exact z.2<|q.2 y
   have l:W.XT.d=W.d:=by unfold RS.XT;exact aa e rfl
   refine cps λC B=>?_;have o:W.one t=W.XT:=by simp only[RS.one,Xu F]
   refine bW (E (T:=T) (rest:=rest) (W:=W.XT) (S:=S) (dt:=decide (s=[46])) h.2 (by refine dG o ?_;exact D) (by refine aa (by unfold RS.XT;exact aa e rfl:W.XT.p=t.t)<|aa h.1.2 ?_;simp) j.2 u.XT r) λa b c f g=>?_;refine B ?_;simp only[RS.aar,RS.aas,o,yI,xO,xZ];refine⟨a,b,c,?_,g⟩;rw[h0,l]at f;exact Gz 0x5a460c4c6040c91062630206065b tq f
  |m i=>
   simp only[E9,xj,G8,Xv]at j;have v:dt=false:=by cases dt;rfl;exact eI j.1 nt
   subst v;have x:t=⟨Xy,wd i,pl i⟩:=h.1;have o:W.one t=(W.use t).XT:=by simp only[RS.one];exact aa (Xr ⟨by rw[x],(by intro z;have:=q.1 z;exact eI this nt)⟩) rfl
   have w:(W.use t).XT.p=t.t:=by unfold RS.XT;rw[BN,e]
   have l:(W.use t).XT.d=W.d:=by unfold RS.XT;rw[BN,e];rfl
   refine cps λC B=>?_;obtain⟨a,b,c,f,g⟩:=E (T:=T) (rest:=rest) (W:=(W.use t).XT) (S:=S.step wd<|.u i) (dt:=false) h.2 (by refine dG o ?_;exact D) (by
    refine aa w<|aa x ?_;constructor
    ·intro z;exact Xw z<|pY _<|XI i
    ·intro z;exact eI z nt) j.2 (by refine aa x ?_;exact(u.use XI i).XT)<|pv (by simp) r
   refine B ?_;simp only[RS.aar,RS.aas,o,yI,xO,xZ,Zc,if_false,ez];refine⟨a,b,c,?_,g⟩;rw[h0,JC,l]at f;exact Gz 0x2d2306263020648830b44c630206065b tq f
include XI in
theorem B3(q:Qh n I ts wd pl (A++.f k s::R) S m H)(t:qK s 0 A=true)(v:iw false A=true)(w:3<=d)(y:m+A.length<880):
  gc n I ts wd pl d 28 [.r n,.t [.s s]] .n (A++.f k s::R) S m H (.f k s::R) (S.run wd<|eN false A) (m+A.length):=by
 refine cps λC B=>ag q λW r q=>am (vX q.mt) λT J e a b=>aI b λu M j h L=>?_;subst j;have f:=q.c;have c:=q.ad;refine aj (VU (d:=d) (n:=n) (I:=I) (ts:=ts) e h.2 (I3 XI a t) c (GD f (wX a) y) w H r) λg h1 l o=>?_;obtain⟨D,E,x,F,G⟩:=Cm XI (S:=S) (dt:=false) a e (by
  constructor
  ·intro z;exact Xw z q.d
  ·intro z;exact eI z nt) v q.st q.ne
 exact B<|⟨g,h1,⟨_,l,(⟨by refine aa x ?_;exact b,by refine aa x ?_;rw[e,Xx]at c;exact oN 0x41318814d84026067b tq c<|wX a,E,D,G,Sx 0x3130206484523032d8ca4630206065b tq F f⟩)⟩,o⟩
include XI in
theorem Mq(q:Qh n I ts wd pl (A++.f k bT::R) S m H)(s:pg 0 A=true)(t:iw false A=true)(v:4<=d)(w:m+A.length<880):
  gc n I ts wd pl d 29 [.r n] .n (A++.f k bT::R) S m H (.f k bT::R) (S.run wd<|eN false A) (m+A.length):=by
 refine cps λC y=>ag q λW r q=>am (vX q.mt) λT G e a b=>aI b λu L j g J=>?_;subst j;have h:=wX a;have c:=q.ad;refine aj (V7 (d:=d) (n:=n) (I:=I) (ts:=ts) e g.2 (B9 XI a s) c (GD q.c h w) v H r) λf h1 l o=>?_;obtain⟨B,D,x,E,F⟩:=Cm XI (S:=S) (dt:=false) a e (by
  constructor
  ·intro z;exact Xw z q.d
  ·intro z;exact eI z nt) t q.st q.ne
 exact y<|⟨f,h1,⟨_,l,(⟨by refine aa x ?_;exact b,by refine aa x ?_;rw[e,Xx]at c;exact oN 0x41318814d84026067b tq c h,D,B,F,Sx 0x3130206484523032d8ca4630206065b tq E q.c⟩)⟩,o⟩
theorem K9(q:Qh n I ts wd pl R S m H):bf H n 7=xR (n+2)/\bf H n 8=xR (n+3)/\bf H n 9=xR (n+4)/\bf H n 10=xR (n+5)/\bf H n 11=xR (n+6):=by refine ag q λW r q=>?_;exact r.fld
theorem Hw(q:Qh n I ts wd pl R S m H):n+7<=H.length:=by refine ag q λW r q=>?_;exact r.len
theorem PJ(q:Qh n I ts wd pl R S m H)(x):Qh n I ts wd pl R S m<|H++x:=by refine ag q λW r q=>?_;exact⟨W,r.app x,q⟩
theorem PO(q:Qh n I ts wd pl R S m H)(h:m<880){Cx:Prop}(k:mB H (n+2)=true->∀f,bF (H++[.dS []]) (n+2) (.r H.length)=some f->Qh n I ts wd pl R (S.step wd .o) (m+1) f->aq n H f->Cx):Cx:=by refine ag q λW r q=>?_;have g:=q.c;exact yA r (ww g h) λa f b c e=>k a f b ⟨_,c,q.mt,q.ad,q.d,q.st.opn,pv (by simp) q.ne,by show W.c+1+W.d.length<=m+1;exact wH g⟩ e
theorem QL(q:Qh n I ts wd pl R S m H)(f:(S.step wd .c).a≠[])(h:m<880){Cx:Prop}(k:∀v a,wv H (n+2)=some (v,a)->Qh n I ts wd pl R (S.step wd .c) (m+1) a->aq n H a->Cx):Cx:=by refine ag q λW r q=>Ey r (by refine aa q.st.sc ?_;simp) (ww q.c h) λv a b c e=>?_;exact k v a b ⟨_,c,q.mt,q.ad,q.d,q.st.cls q.ne,f,by exact wH q.c⟩ e
theorem Rc(q:Qh n I ts wd pl R S m H)(i:Nat)(v:Int)(h:m<880){Cx:Prop}(k:bf H n 9=xR (n+4)->mB H (n+4)=true->∀g,bF (H++[eT (pl i,wd i,v)]) (n+4) (.r H.length)=some g->Qh n I ts wd pl R (S.add i v) (m+1) g->aq n H g->Cx):Cx:=by exact ag q λW r q=>ol r (pl i,wd i,v) (ww q.c h) λa b g c e f=>k a b g c ⟨_,e,q.mt,q.ad,q.d,q.st.put i v,q.ne,by exact wH q.c⟩ f
end
def vU (v)(i):eN false (b0 (dw v) i)=kD v i:=by cases v<;>rfl
def VQ (v)(i):qK [59] 0 (b0 (dw v) i)=true:=by cases v<;>rfl
def WC (v)(i):qK xf 0 (b0 (dw v) i)=true:=by cases v<;>rfl
def vC (v)(i):iw false (b0 (dw v) i)=true:=by cases v<;>rfl
def vL (v)(i):(b0 (dw v) i).length<=8:=by cases v<;> exact nl rfl
abbrev bQ:PT:=.f ak [59]
section
variable{n I:Nat}{ts:List Tok}{wd:Nat->Nm}{pl:Nat->Int}(XI:∀i,wd i∈cK)
variable{R:List PT}{S:PS}{m d:Nat}{H:Hp}{p:PT}
include XI in
theorem Lc(q:Qh n I ts wd pl (.m i::p::R) S m H)(b:fY p [46]=true)(h:4<=d)(a:m<880):gc n I ts wd pl d 39 [.r n] .n (.m i::p::R) S m H (p::R) (S.step wd<|.u i)<|m+1:=by exact lV 4 h rfl λd h=>bt q rfl rfl (l:=[xR n]) rfl rfl (a7 (jG XI rfl rfl)<|a7 (jG XI rfl rfl)<|a7 (jG XI rfl rfl)<|a7 (jG XI rfl rfl)<|o8 bk rfl (λ_=>rfl) (λH q=>zV XI q b (XN _ _) a) (ay λH p=>⟨rfl,p⟩))
variable(n I ts wd pl)in
def Ll (d:Nat)(A:List PT)(e:List Ev)(c:Nat):Prop:=∀(R:List PT) (S:PS) (m:Nat) (H:Hp),Qh n I ts wd pl (A++bQ::R) S m H->m+c<880->gc n I ts wd pl d 39 [.r n] .n (A++bQ::R) S m H (bQ::R) (S.run wd e) (m+c)
theorem GC(XI:∀i,wd i∈cK)(f:5<=d)(b:Ll n I ts wd pl d A e c)
  (q:Qh n I ts wd pl (.f Xy [97]::.f ak [44]::.f Xy [100]::.f ak [58]::(A++bQ::.f Xy [101]::.f ak [42]::.f ak [58]::.m j::.f ac bT::R)) S m H) (h:m+c+1<880):
  gc n I ts wd pl (d+1) 40 [.r n] .n (.f Xy [97]::.f ak [44]::.f Xy [100]::.f ak [58]::(A++bQ::.f Xy [101]::.f ak [42]::.f ak [58]::.m j::.f ac bT::R)) S m H R (S.run wd<|e++[.u j]) (m+c+1):=by
 obtain⟨d,rfl⟩:∃a,d=a+5:=⟨d-5,SR 5 f rfl⟩;exact bt q rfl rfl (l:=[xR n]) rfl rfl (a7 (jG XI rfl rfl)<|cU fL (rl rfl rfl)<|Rb XI (by decide) rfl bk rfl (cU fL (ut (by decide) bk rfl)<|Rb XI (by decide) rfl bk rfl (cV (jG XI rfl rfl)<|uw (by decide) bk rfl (o8 bk rfl (λ_=>rfl) (λH q=>b _ _ _ _ q<|Y6 h) (Vz (by decide) bk rfl (cU fL (rl rfl rfl)<|UB (by decide) bk rfl (cV (jG XI rfl rfl)<|uw (by decide) bk rfl (o8 bk rfl (λ_=>rfl) (λH q=>Lc XI q rfl (XN _ _) (Y6 h)) (SO XI rfl rfl (cV (rl rfl rfl)<|uw (by decide) bk rfl (ay λH p=>⟨rfl,p.cast<|by rw[ax];rfl⟩)))))))))))
end
def bD.ZG (r:bD n I C H W x i)(e:n+7<=a)(f:H[a]?=some (.l k))(v):bD n I C (H.set a<|.l v) W x i where
 y:=r.y
 Q:=by have:=r.y;exact aj r.Q λS h1 m o=>⟨S,aB h1<|tV this e,m,λj t h=>by refine aj (o j t h) λq a b c=>?_;exact⟨q,a,b,aB c<|tV a e⟩⟩
 P:=r.P
 O:=by refine aj r.O λp a b c=>?_;exact⟨p,a,aB b<|aK 0x41901da16065b tq e,c⟩
 d:=aB r.d<|aK 0x4d0b01901da16065b tq e
 g:=aB r.g<|aK 0x6d0b01901da16065b tq e
 hf:=aB r.hf<|aK 0x8d0b01901da16065b tq e
 hd:=aB r.hd<|aK 0xad0b01901da16065b tq e
 hw:=aB r.hw<|XB ‹_›
 J:=r.J
 u:=λj q s a b=>aB (r.u j q s a b) (by intro z;subst z;have:=r.u j _ s a b;rw[f]at this;cases this)
 sn:=r.sn
 M:=r.M
 D:=r.D
 fd:=λj q s a b=>aB (r.fd j q s a b) (by intro z;subst z;have:=r.fd j _ s a b;rw[f]at this;cases this)
 fn:=r.fn
 w:=r.w
 L:=r.L
 E:=r.E
 F:=r.F
 G:=r.G
 A:=r.A
 B:=r.B
 N:=r.N
 R:=r.R
 l:=by have:=r.l;simpa using this
structure KX(n a:Nat)(H H':Hp):Prop where
 ln:H.length<=H'.length
 lo:∀i,i<n->H'[i]?=H[i]?
 ls:∀i k,i≠a->n+7<=i->H[i]?=some (.l k)->H'[i]?=some (.l k)
def aq.kx (k:aq n H H')(a):KX n a H H':=⟨k.ln,k.lo,λi l _=>k.ls i l⟩
def KX.trans (x:KX n a H b)(y:KX n a b H3):KX n a H H3:=
 ⟨XJ x.ln y.ln,λi h=>(y.lo i h).trans<|x.lo i h,λi k q h e=>y.ls i k q h<|x.ls i k q h e⟩
def KX.set (o)(b:n+7<=a):KX n a H<|H.set a o:=
 ⟨by simp,λi h=>YJ<|by exact tV h b,λi k q _ e=>aB e<|X0 q⟩
def KX.fin (a:n<=H.length)(x:KX n H.length (H++[o]) H'):aq n H H':=
 ⟨by have:=x.ln;simp at this;exact aK 0x209042d035806065b tq this,λi h=>aa (x.lo i h)<|aa (Yu<|XO ‹_› ‹_›) rfl,λi k h e=>x.ls i k (by have:=xg e;exact aK 0x82e10067b tq this) h<|fi e⟩
section
variable{n I:Nat}{ts:List Tok}{wd:Nat->Nm}{pl:Nat->Int}(XI:∀i,wd i∈cK)
variable{R:List PT}{S:PS}{m d:Nat}{H:Hp}{p:PT}
def NX (q:Qh n I ts wd pl R S m H)(h:n+7<=a)(c:H[a]?=some (.l k))(b):Qh n I ts wd pl R S m<|H.set a<|.l b:=by refine cps λC e=>ag q λW z q=>?_;exact cT z λs f r=>e<|⟨W,⟨s,f,r.ZG h c b⟩,q⟩
def KA (q:Qh n I ts wd pl R S m H)(k):Qh n I ts wd pl R S m (H++[.l k])/\(H++[AO.l k])[H.length]?=some (.l k)/\KX n H.length (H++[AO.l k]) (H++[AO.l k]):=
 ⟨PJ q _,by simp,⟨XC _,λ_ _=>rfl,λ_ _ _ _ h=>h⟩⟩
def wz (q:Qh n I ts wd pl R S m H)(b:n+7<=a)(h:H[a]?=some (.l k))(c:k.length<=1000)(v):
  mB H a=true/\∃H',bF H a v=some H'/\Qh n I ts wd pl R S m H'/\H'[a]?=some (.l<|k++[v])/\KX n a H H':=
 ⟨kB h,H.set a<|.l<|k++[v],by simp only[bF,h,bh];exact aa (Xr<|XJ ‹_›<|nl rfl) rfl,NX q b h _,dP h,KX.set _ b⟩
end
structure OL(n a:Nat)(k:List V)(F:Hp->Prop)(H:Hp):Prop where
 l:H[a]?=some (.l k)
 f:F H
def Fk (n a:Nat)(F:Hp->Prop):Prop:=∀H b,KX n a H b->F H->F b
section
variable{n I:Nat}{ts:List Tok}{wd:Nat->Nm}{pl:Nat->Int}{R:List PT}{S:PS}{m d a:Nat}{F:Hp->Prop}{l:Lo}{ss:List MS}{Q:Fl->Hp->Prop}{k:List V}
def yO {H:Hp}:Fk n a<|KX n a H:=λ_ _ g p=>p.trans g
def FU {x:Nat}{t:Tok}(h:Fk n a F):Fk n a<|IF n x t F:=λH b g p=>⟨⟨p.i.1,(g.lo _ p.i.1).trans p.i.2⟩,h _ _ g p.f⟩
def HN (h:n+7<=a)(b:Fk n a F):Fw n<|OL n a k F:=λH c g p=>⟨g.ls _ _ h p.l,b _ _ (g.kx a) p.f⟩
def TV (h:n+7<=a)(b:Fw n F):Fw n<|OL n a k F:=λH c g p=>⟨g.ls _ _ h p.l,b _ _ g p.f⟩
def Nz (e:∀H,F H->n+7<=H.length->Tr (ae d) (l.set i<|xR H.length) (QG n I ts wd pl R S m<|OL n H.length []<|KX n H.length<|H++[.l []]) ss Q):Tr (ae d) l (QG n I ts wd pl R S m F) (.s i (.l [])::ss) Q:=λH g=>by exact bU (KA g.q []) λa b c=>aV (P:=λX=>X=H) (λX z=>⟨H++[.l []],by refine aa z ?_;simp,a,b,c⟩) (e H g.f<|Hw g.q) H rfl
def KH (q:∀i,wd i∈cK){i j:Nat}(p:n+7<=a)(s:k.length<=1000)(w:Fk n a F)(v:gv l 0=xR n)(y:gv l j=xR a)(D:∀x,Tr (ae<|d+2) l (QG n I ts wd pl R S m<|OL n a (k++[.r x])<|IF n x ⟨Xy,wd i,pl i⟩ F) ss Q):
  Tr (ae<|d+2) l (QG n I ts wd pl (.m i::R) S m<|OL n a k F) (.a (.v j) (.m 23 (.v 0) [])::ss) Q:=λH g=>by
 exact cps λC B=>GA q (d:=d+2) g.q (XN _ _) λx E u b c r=>BQ (wz b p (c.ls _ _ p g.f.l) s<|.r x) λ_ t f h o e=>B<|aV (P:=λX=>X=H) (λX z=>⟨t,by refine aa z ?_;exact qE λA=>A _ y ((wz g.q p g.f.l s<|.r 0).1) _ v g.q.Ye _ _ u _ f,h,o,⟨r.1,(e.lo _ r.1).trans r.2⟩,w _ _ ((c.kx a).trans e) g.f.f⟩) (D x) H rfl
def RZ {s:Nm}{j:Nat}(y:s≠[46])(p:n+7<=a)(q:k.length<=1000)(v:Fk n a F)(u:gv l 0=xR n)(w:gv l j=xR a)(D:∀x,Tr (ae<|d+2) l (QG n I ts wd pl R S m<|OL n a (k++[.r x]) F) ss Q):
  Tr (ae<|d+2) l (QG n I ts wd pl (.f Xy s::R) S m<|OL n a k F) (.a (.v j) (.m 23 (.v 0) [])::ss) Q:=λH g=>by
 refine cps λC B=>am (A8 (d:=d+2) g.q y<|XN _ _) λx E t b c=>BQ (wz b p (c.ls _ _ p g.f.l) q<|.r x) λ_ r f h i o=>?_;have e:=(wz g.q p g.f.l q<|.r 0).1;exact B<|aV (P:=λX=>X=H) (λX z=>⟨r,by refine aa z ?_;exact qE λA=>A _ w e _ u g.q.Ye _ _ t _ f,h,i,v _ _ ((c.kx a).trans o) g.f.f⟩) (D x) H rfl
def T7 (h:∀i,wd i∈cK)(r:fY p [42]=true)(q:Fw n F)(o:gv l 0=xR n)(y:∀H x,F H->n+7<=H.length->Tr (ae<|d+3) (l.set i<|xR H.length) (QG n I ts wd pl (p::R) S m<|OL n H.length [.r x]<|IF n x ⟨Xy,wd j,pl j⟩<|KX n H.length<|H++[.l [.r x]]) ss Q):
  Tr (ae<|d+3) l (QG n I ts wd pl (.m j::p::R) S m F) (.s i (.l [.m 35 (.v 0) []])::ss) Q:=λH g=>by
 exact cps λC t=>w0 h (d:=d+3) g.q r (XN _ _) λx f a b c e=>bU (KA b [.r x]) λu v w=>t<|aV (P:=λX=>X=H) (λX z=>⟨f++[.l [.r x]],by refine aa z ?_;exact qE λs=>s _ o g.q.Ye _ _ a,u,v,e.keep<|aq.app n f _<|XJ (Xz _ _)<|Hw b,w⟩) (y f x (q _ _ c g.f)<|Hw b) H rfl
def OL.fin (h:n+7<=H.length)(g:KX n H.length (H++[o]) H'):aq n H H':=KX.fin (XJ (Xz _ _) h) g
def Pz {i:Nat}{H:Hp}(h:∀i,wd i∈cK)(j:5<=d)(q:Qh n I ts wd pl (.f ak [40]::.f Xy [99]::.f ak [58]::.m i::.f ak [41]::bQ::R) S m H)(r:m+1<880):
  ∃a,gc n I ts wd pl (d+1) 43 [.r n] (.r a) (.f ak [40]::.f Xy [99]::.f ak [58]::.m i::.f ak [41]::bQ::R) S m H (bQ::R) (S.step wd<|.u i)<|m+1:=by
 refine lV 5 j rfl λd j=>?_
 suffices t:CT (ae<|d+6) 43 [.r n] (QG n I ts wd pl (.f ak [40]::.f Xy [99]::.f ak [58]::.m i::.f ak [41]::bQ::R) S m<|aq n H) (λv b=>∃a,v=.r a/\QG n I ts wd pl (bQ::R) (S.step wd<|.u i) (m+1) (aq n H) b)by refine cps λC s=>mh (t H ⟨q,aq.refl n H⟩) λv b e a o p=>?_;subst o;exact s<|⟨a,b,e,p.q,p.f⟩
 refine dZ (l:=[xR n,none]) rfl rfl rfl rfl (Nz λc f0 g=>?_);have f:∀{k},Fw n<|OL n c.length k<|KX n c.length<|c++[.l []]:=HN g yO;exact a7 (λH p=>se<|ut (by decide) f rfl H p)<|cU fL (λH p=>se<|jG h rfl rfl H p)<|SO h rfl rfl (RZ (by decide) g (X4 _) yO rfl rfl λx=>cV (jG h rfl rfl)<|uw (by decide) f rfl (cV (jG h rfl rfl)<|o8 f rfl (λ_=>rfl) (λH q=>zV h q rfl (XN _ _) (Y6 r)) (SO h rfl rfl (cV (λH p=>se<|ut (by decide) f rfl H p)<|a7 (jG h rfl rfl)<|G7 (λ_ _=>rfl) λH p=>⟨_,rfl,p.q,f0.trans<|OL.fin g p.f.f⟩))))
end
noncomputable def uf:Kd->Nat
 | .n _=>1
 | .r K=>uf K+1
 | .p _=>3
 | .a _ K=>8+uf K
 | .c _=>1
theorem FB{z}:uf (Kd.n z)=1:=rfl
theorem MT{K}:uf K.r=uf K+1:=rfl
theorem Fi{z}:uf (Kd.p z)=3:=rfl
theorem MJ{v K}:uf (Kd.a v K)=8+uf K:=rfl
theorem Mw{z}:uf (Kd.c z)=1:=rfl
theorem TC(x)(i)(R):b0 (iE<|.p x) i++R=.f ac gE::.f ac R4::.m i::R:=rfl
theorem Tm(x)(i)(R):b0 (iE<|.c x) i++R=.f ac eg::.f ak [40]::.f Xy [99]::.f ak [58]::.m i::.f ak [41]::R:=rfl
def NQ (K)(i)(R):b0 (iE<|.r K) i++R=.f ac lT::.f Xy [97]::.f ak [44]::.f Xy [100]::.f ak [58]::(b0 (iE K) i++bQ::.f Xy [101]::.f ak [42]::.f ak [58]::.m (i+nI (iE K))::.f ac bT::R):=by have a:∀j,b0 Dt j=[bQ,.f Xy [101],.f ak [42],.f ak [58],.m j,.f ac bT]:=λj=>rfl;have n1:nI xP=0:=rfl;have e:b0 xP i=[.f ac lT,.f Xy [97],.f ak [44],.f Xy [100],.f ak [58]]:=rfl;simp[qw,jT,qG,gH,nE,bn,e,a,ah,n1,YZ,X1,bE,dA,Yx]
def Ob (v)(K)(i)(R):b0 (iE<|.a v K) i++R=.f ac dc::(b0 (dw v) i++.f ac xf::(b0 (iE K) (i+nI (dw v))++R)):=by have e:b0 [wW dc,g1] i=[.f ac dc]:=rfl;have a:∀j,b0 [g1,wW xf,g1] j=[.f ac xf]:=λj=>rfl;have n1:nI [wW dc,g1]=0:=rfl;have n:nI [g1,wW xf,g1]=0:=rfl;simp only[gH,bn,e,a,ah,n1,n];simp only[YZ,X1,bE,dA,Yx]
def Ws (h:8+3*(a+1)<=d+8):8+3*a<=d+6:=aK 0x6685801b5e86b24868581681836bd0d6065b tq h
def WL (h:8+3*(a+1)<=d+8):8+3*a<=d+7:=aK 0x7685801b5e86b24868581681836bd0d6065b tq h
section
variable{n I:Nat}{ts:List Tok}{wd:Nat->Nm}{pl:Nat->Int}(XI:∀i,wd i∈cK)
variable{R:List PT}{S:PS}{m d:Nat}{H:Hp}{p:PT}
include XI in
theorem vB:∀(K:Kd) (i d:Nat),8+3*AP K<=d->Ll n I ts wd pl d (b0 (iE K) i) (nv K i) (uf K)
 | .n x,i,d,b=>λR S m H q c=>Lc XI (d:=d) q rfl (XJ (XN 4 _) b) (Y6 c)
 | .p x,i,d,b=>λR S m H q c=>by exact K7 8 b rfl λd b=>bt q rfl rfl (l:=[xR n]) rfl rfl (a7 (jG XI rfl rfl)<|a7 (jG XI rfl rfl)<|dz (ut (by decide) bk rfl)<|uw (by decide) bk rfl (o8 bk rfl (λ_=>rfl) (λH q=>PI XI q rfl (XN _ _) (Yc (Xz _ _) c)) (ay λH p=>⟨rfl,p⟩)))
 | .c x,i,d,b=>λR S m H q c=>by exact K7 8 b rfl λd b=>bt q rfl rfl (l:=[xR n]) rfl rfl (a7 (jG XI rfl rfl)<|a7 (jG XI rfl rfl)<|a7 (jG XI rfl rfl)<|dz (ut (by decide) bk rfl)<|UT bk rfl (λ_=>rfl) (λH q=>(Pz (d:=d+6) XI (XN _ _) q c).elim λa h=>⟨.r a,h⟩) (ay λH p=>⟨rfl,p⟩))
 | .r K,i,d,b=>λR S m H q c=>by refine K7 8 b rfl λd b=>?_;rw[NQ]at q⊢;exact bt q rfl rfl (l:=[xR n]) rfl rfl (a7 (jG XI rfl rfl)<|dz (ut (by decide) bk rfl)<|o8 bk rfl (λ_=>rfl) (λH q=>GC XI (XN _ _) (vB K i (d+6)<|Ws b) q c) (ay λH p=>⟨rfl,p⟩))
 | .a v K,i,d,b=>λR S m H q c=>by
  refine K7 8 b rfl λd b=>?_;rw[Ob]at q⊢;have h1:m+(b0 (dw v) i).length+uf K<=m+uf (.a v K):=by have:=vL v i;exact ba 0x486b00c1040c6490d0865b tq this
  have e:=Yc h1 c;exact bt q rfl rfl (l:=[xR n]) rfl rfl (dz (ut (by decide) bk rfl)<|o8 bk rfl (λ_=>rfl) (λH q=>B3 XI q (WC v i) (vC v i) (XN _ _)<|Yc (Xz _ _) e) (uw (by decide) bk rfl (o8 bk rfl (λ_=>rfl) (λH q=>vB K (i+nI (dw v)) (d+7) (WL b) _ _ _ _ q e) (ay λH p=>⟨rfl,(p.mono h1).cast<|by rw[vU,ea,ax]⟩))))
theorem NI(XI:∀i,wd i∈cK)(q:Qh n I ts wd pl (.m i::.f ak [42]::.f ak [61]::(b0 (iE K) (i+1)++bQ::R)) S m H)(h:9+3*AP K<=d)(a:m+3+uf K<880):
  gc n I ts wd pl d 37 [.r n] .n (.m i::.f ak [42]::.f ak [61]::(b0 (iE K) (i+1)++bQ::R)) S m H R (S.run wd<|.d i vi::nv K (i+1)) (m+3+uf K):=by
 exact K7 9 h rfl λd h=>bt q rfl rfl (l:=[xR n,none]) rfl rfl (Ux XI bk rfl λx=>Jd XI (Yc (Xz m<|3+uf K)<|XR m 3 _▸a) bk rfl rfl (uw (by decide) (tb bk) rfl (o8 (tb bk) rfl (λ_=>rfl) (λH q=>vB XI K (i+1) (d+8) (GT h) _ _ _ _ q a) (uw (by decide) (tb bk) rfl (ay λH p=>⟨rfl,p.q,p.f.f⟩)))))
theorem J5(XI:∀i,wd i∈cK)(q:Qh n I ts wd pl (.m i::.f ak [61]::(b0 (dw v) (i+1)++bQ::R)) S m H)(a:6<=d)(b:m+11<880):
  gc n I ts wd pl d 36 [.r n] .n (.m i::.f ak [61]::(b0 (dw v) (i+1)++bQ::R)) S m H R (S.run wd<|kD v (i+1)++[.d i tE]) (m+11):=by
 refine lV 6 a rfl λd a=>?_;have h1:m+(b0 (dw v)<|i+1).length+3<=m+11:=by have:=vL v<|i+1;exact aK 0xb681836840c6490d0865b tq this
 have h:=Yc (XJ (Xz _ 3) h1) b;exact bt q rfl rfl (l:=[xR n,none]) rfl rfl (UV XI rfl bk rfl λx=>uw (by decide) (tb bk) rfl (o8 (tb bk) rfl (λ_=>rfl) (λH q=>B3 XI q (VQ v _) (vC v _) (XN _ _) h) (uw (by decide) (tb bk) rfl (Jd XI h bk rfl rfl (ay λH p=>⟨rfl,((p.mono h1).cast<|by rw[vU,ax];rfl).q,p.f.f⟩)))))
theorem Qf(XI:∀i,wd i∈cK)(q:Qh n I ts wd pl (.m i::.f ak [58]::(b0 (iE K) (i+1)++bQ::R)) S m H)(h:9+3*AP K<=d)(e:m+3+uf K<880):
  gc n I ts wd pl d 38 [.r n] .n (.m i::.f ak [58]::(b0 (iE K) (i+1)++bQ::R)) S m H R (S.run wd<|nv K (i+1)++[.d i zM]) (m+3+uf K):=by
 refine K7 9 h rfl λd h=>bt q rfl rfl (l:=[xR n,none,none]) rfl rfl (T7 XI rfl bk rfl λa x f0 c=>?_);have f:Fw n<|OL n a.length [.r x]<|IF n x ⟨Xy,wd i,pl i⟩<|KX n a.length<|a++[.l [.r x]]:=HN c<|FU yO;have h1:m+uf K+3<=m+3+uf K:=aK 0x11b40c60da103192 tq;have b:=Yc (XJ (Xz _ 3) h1) e;exact cV (jG XI rfl rfl)<|uw (by decide) f rfl (o8 f rfl (λ_=>rfl) (λH q=>vB XI K (i+1) (d+8) (GT h) _ _ _ _ q b) (uw (by decide) f rfl (qZ (NU (λH p=>⟨H,rfl,p⟩) (λH p=>p.f.l) (nl rfl)<|wN (λH p=>p.f.l) (Jo b f (λ_ p=>p.f.i) rfl rfl (ay λH p=>⟨_,rfl,rfl,p⟩))<|AT λH p=>p.f.l) λl=>ay λH p=>⟨rfl,((p.2.mono h1).cast<|by rw[ax];rfl).q,f0.trans<|OL.fin c p.2.f.f.f⟩)))
end
def Eb:Option (Option<|Nm×Kd)->Nat
 |none=>0
 |some none=>1
 |some (some (_,K))=>4+uf K
theorem zR:Eb none=0:=rfl
theorem Am:Eb (some none)=1:=rfl
theorem As{f K}:Eb (some<|some (f,K))=4+uf K:=rfl
def yX:Option (Option<|Nm×Kd)->Nat
 |some (some (_,K))=>AP K
 |_=>0
def Ec (d:Dc):Nat:=11+Eb d.t+Eb d.v
def D4 (d:Dc):Nat:=yX d.t+yX d.v
def K5 (x)(v)(i)(R):b0 (r8<|some<|some (x,v)) i++R=.f ac Yr::.m i::.f ak [61]::(b0 (dw v) (i+1)++bQ::R):=by have e:∀i,b0 (bX Yr) i=[.f ac Yr]:=λi=>rfl;have a:∀i,b0 [.n x,g1,sg 61,g1] i=[.m i,.f ak [61]]:=λi=>rfl;have b:∀i,b0 [sg 59,g1] i=[bQ]:=λi=>rfl;have n1:nI (bX Yr)=0:=rfl;have n:nI [.n x,g1,sg 61,g1]=1:=rfl;simp only[mU,bn,e,a,b,n1,n];simp
def Ew (x)(K)(i)(R):b0 (wx<|some<|some (x,K)) i++R=.f ac YH::.m i::.f ak [42]::.f ak [61]::(b0 (iE K) (i+1)++bQ::R):=by have e:∀i,b0 (bX YH) i=[.f ac YH]:=λi=>rfl;have a:∀i,b0 [.n x,sg 42,g1,sg 61,g1] i=[.m i,.f ak [42],.f ak [61]]:=λi=>rfl;have b:∀i,b0 [sg 59,g1] i=[bQ]:=λi=>rfl;have n1:nI (bX YH)=0:=rfl;have n:nI [.n x,sg 42,g1,sg 61,g1]=1:=rfl;simp only[ng,bn,e,a,b,n1,n];simp
def Gn (x)(K)(i)(R):b0 (zx<|some<|some (x,K)) i++R=.f ac YT::.m i::.f ak [58]::(b0 (iE K) (i+1)++bQ::R):=by have e:∀i,b0 (bX YT) i=[.f ac YT]:=λi=>rfl;have a:∀i,b0 [.n x,sg 58,g1] i=[.m i,.f ak [58]]:=λi=>rfl;have b:∀i,b0 [sg 59,g1] i=[bQ]:=λi=>rfl;have n1:nI (bX YT)=0:=rfl;have n:nI [.n x,sg 58,g1]=1:=rfl;simp only[nj,bn,bn,bn,e,a,b,n1,n];simp only[YZ,X1,bE,dA,Yx]
def TE (t:Option<|Option<|Nm×Kd)(i:Nat)(w:Nm)(R:List PT){Cx:Prop}(k:∀b a,b0 (wx t) i++.f ac w::R=.f ac b::a->Cx):Cx:=by
 cases t with
 |none=>exact k _ _ rfl
 |some c=>cases c with
  |none=>exact k _ _ rfl
  |some p=>exact k _ _<|Ew p.1 p.2 i _
def Ur (t:Option<|Option<|Nm×Kd)(i:Nat)(w:Nm)(R:List PT){Cx:Prop}(k:∀b a,b0 (zx t) i++.f ac w::R=.f ac b::a->Cx):Cx:=by
 cases t with
 |none=>exact k _ _ rfl
 |some c=>cases c with
  |none=>exact k _ _ rfl
  |some p=>exact k _ _<|Gn p.1 p.2 i _
section
variable{n I:Nat}{ts:List Tok}{wd:Nat->Nm}{pl:Nat->Int}(XI:∀i,wd i∈cK)
variable{R:List PT}{S:PS}{m d:Nat}{H:Hp}{p:PT}{w:Nm}{F:Hp->Prop}{ss:List MS}{Q:Fl->Hp->Prop}
def SI (h:m+(4+k)<880):m+3+k<880:=aK 0x3707046d03193dc1c1235806067b tq h
def U2:m+3+k+1<=m+(4+k):=aK 0x91ac0302d08da063192 tq
include XI in
theorem IQ(e:7<=d)(f:m+11<880)(h:Fw n F)(a:∀x y H,¬Q (.e x y) H)(k:Tr (ae d) [xR n] (QG n I ts wd pl (.f ac w::R) (S.run wd<|ui c i) (m+11) F) (al::ss) Q):
  Tr (ae d) [xR n] (QG n I ts wd pl (b0 (r8 c) i++.f ac w::R) S m F) (al::ss) Q:=by
 obtain⟨d,rfl⟩:∃b,d=b+7:=⟨d-7,SR 7 e rfl⟩;cases c with
 |none=>exact ed (λH p=>p.mono<|Xz _ _) k
 |some c=>
  cases c with
  |none=>exact cU a (λH p=>⟨H,rfl,p⟩)<|dz (ut (k:=ac) (by decide) h rfl)<|cV (rl rfl rfl)<|ed (λH p=>p.mono<|Xz _ _) k
  |some c=>obtain⟨x,v⟩:=c;rw[K5];exact cU a (λH p=>⟨H,rfl,p⟩)<|dz (ut (by decide) h rfl)<|cU a (rl rfl rfl)<|o8 h rfl (λ_=>rfl) (λH q=>J5 XI q (XN _ _) f) (cV (rl rfl rfl) k)
include XI in
theorem Ni(e:9+3*yX c<=d)(a:m+Eb c<880)(h:Fw n F)(b:∀x y H,¬Q (.e x y) H)(k:Tr (ae d) [xR n] (QG n I ts wd pl (.f ac w::R) (S.run wd<|AE c i) (m+Eb c) F) (al::ss) Q):
  Tr (ae d) [xR n] (QG n I ts wd pl (b0 (wx c) i++.f ac w::R) S m F) (al::ss) Q:=by
 obtain⟨d,rfl⟩:∃f,d=f+9:=⟨d-9,SV 9 e rfl⟩;cases c with
 |none=>exact k
 |some c=>
  cases c with
  |none=>exact cU b (λH p=>⟨H,rfl,p⟩)<|a7 (jG (p:=.f ac YH) XI rfl rfl)<|dz (ut (k:=ac) (by decide) h rfl)<|cV (rl rfl rfl)<|o8 h rfl (λ_=>rfl) (λH q=>Cd XI q (XN _ _)<|Y6 a) k
  |some c=>obtain⟨x,K⟩:=c;rw[Ew];exact cU b (λH p=>⟨H,rfl,p⟩)<|a7 (jG XI rfl rfl)<|dz (ut (by decide) h rfl)<|cU b (rl rfl rfl)<|o8 h rfl (λ_=>rfl) (λH q=>NI XI q e<|SI a) (cV (rl rfl rfl)<|o8 h rfl (λ_=>rfl) (λH q=>Cd XI q (XN _ _)<|SI a) (ed (λH p=>(p.mono U2).cast<|by rw[kd,ax];rfl) k))
include XI in
theorem RE(e:9+3*yX c<=d)(a:m+Eb c<880)(h:Fw n F)(b:∀x y H,¬Q (.e x y) H)(k:Tr (ae d) [xR n] (QG n I ts wd pl (.f ac w::R) (S.run wd<|BC c i) (m+Eb c) F) (al::ss) Q):
  Tr (ae d) [xR n] (QG n I ts wd pl (b0 (zx c) i++.f ac w::R) S m F) (al::ss) Q:=by
 obtain⟨d,rfl⟩:∃f,d=f+9:=⟨d-9,SV 9 e rfl⟩;cases c with
 |none=>exact k
 |some c=>
  cases c with
  |none=>exact cU b (λH p=>⟨H,rfl,p⟩)<|a7 (jG (p:=.f ac YT) XI rfl rfl)<|a7 (jG XI rfl rfl)<|dz (ut (k:=ac) (by decide) h rfl)<|cV (rl rfl rfl)<|o8 h rfl (λ_=>rfl) (λH q=>Cd XI q (XN _ _)<|Y6 a) k
  |some c=>obtain⟨x,K⟩:=c;rw[Gn];exact cU b (λH p=>⟨H,rfl,p⟩)<|a7 (jG XI rfl rfl)<|a7 (jG XI rfl rfl)<|dz (ut (by decide) h rfl)<|cU b (rl rfl rfl)<|o8 h rfl (λ_=>rfl) (λH q=>Qf XI q e<|SI a) (cV (rl rfl rfl)<|o8 h rfl (λ_=>rfl) (λH q=>Cd XI q (XN _ _)<|SI a) (ed (λH p=>(p.mono U2).cast<|(ax _ S (nv K (i+1)++[.d i zM]) [.r]).symm.trans<|Xs (S.run wd)<|X1 _ _ _) k))
include XI in
theorem KZ{D:Dc}{i:Nat}(g:9+3*D4 D<=d)(l:m+Ec D<880)(h:Fw n F)(a:∀x y H,¬Q (.e x y) H)(q:Tr (ae d) [xR n] (QG n I ts wd pl (.f ac w::R) (S.run wd<|cM D i) (m+Ec D) F) (al::ss) Q):
  Tr (ae d) [xR n] (QG n I ts wd pl (b0 (aQ D) i++.f ac w::R) S m F) (al::ss) Q:=by
 refine cps λC o=>Ur D.v (i+nI (r8 D.c)+nI (wx D.t)) w R λr j e=>TE D.t (i+nI (r8 D.c)) r j λt s b=>?_;have f:m+11+Eb D.t+Eb D.v<880:=by rw[XR,XR];exact(XR 11 _ _)▸l
 have c:=Yc (Xz _ _) f;have k:9+3*(yX D.t+yX D.v)<=d:=g;rw[Nat.mul_add,<- XR]at k;refine o ?_;simp only[aQ,bn,bn,ah,X1,X1,<- XR,e,b];exact IQ XI (XJ (nl rfl:7<=9)<|XJ (Xz 9 _) g) (Yc (Xz _ _) c) h a<|dG b<|Ni XI (XJ (Xz _ _) k) c h a<|dG e<|RE XI (XJ (by rw[XR,Zr<|3*yX D.t,<- XR];exact Xz _ _) k) f h a<|ed (λH p=>(p.mono<|by rw[XR,XR,<- XR 11];exact XC _).cast<|by rw[cM,ax,ax]) q
include XI in
theorem LF(h:2<=d)(k:∀H,QG n I ts wd pl (.f ac bM::R) S m F H->Q (.r .n) H)(a:∀x y H,¬Q (.e x y) H):Tr (ae d) [xR n] (QG n I ts wd pl (.f ac bM::R) S m F) (al::ss) Q:=by exact lV 2 h rfl λd h=>cU a (λH p=>⟨H,rfl,p⟩)<|a7 (jG XI rfl rfl)<|a7 (jG XI rfl rfl)<|a7 (jG XI rfl rfl)<|a7 (Rg rfl rfl)<|Pu k
include XI in
theorem Bl{D:Dc}{i:Nat}(q:Qh n I ts wd pl (b0 (aQ D) i++.f ac bM::R) S m H)(h:10+3*D4 D<=d)(a:m+Ec D<880):gc n I ts wd pl d 34 [.r n] .n (b0 (aQ D) i++.f ac bM::R) S m H (.f ac bM::R) (S.run wd<|cM D i)<|m+Ec D:=by exact K7 10 h rfl λd h=>bt q rfl rfl (l:=[xR n]) rfl rfl (KZ XI (aK 0x12d0b0036bd2d6494d0b0036bd4d6065b tq h) a bk fL<|LF XI (XN _ _) (λH p=>⟨rfl,p⟩) fL)
include XI in
theorem EA(q:Qh n I ts wd pl (.f ac bM::(A++.f ac bT::R)) S m H)(a:pg 0 A=true)(b:iw false A=true)(h:5<=d)(c:m+A.length<880):
  gc n I ts wd pl d 33 [.r n] .n (.f ac bM::(A++.f ac bT::R)) S m H R (S.run wd<|eN false A) (m+A.length):=by
 exact lV 5 h rfl λd h=>bt q rfl rfl (l:=[xR n]) rfl rfl (dz (ut (by decide) bk rfl)<|o8 bk rfl (λ_=>rfl) (λH q=>Mq XI q a b (XN _ _) c) (uw (by decide) bk rfl (ay λH p=>⟨rfl,p⟩)))
end
def cS (h:H[a]?=some (.l v)):aZ a v H=true:=fm h
section
variable{n I:Nat}{ts:List Tok}{wd:Nat->Nm}{pl:Nat->Int}(XI:∀i,wd i∈cK)
variable{R:List PT}{S:PS}{m d:Nat}{H:Hp}{p:PT}{w:Nm}{F:Hp->Prop}{l:Lo}{ss:List MS}{Q:Fl->Hp->Prop}
def UG (i:Nat):List PT:=[.f ak [40],.f ac YT,.m i,.f ak [44],.m<|i+1,.f ak [58],.f ac dc,.f ac xf,.m<|i+2,.f ak [41]]
include XI in
theorem MI(b:Fw n F):CT (ae<|d+3) 43 [.r n] (QG n I ts wd pl (bQ::R) S m F) (λv H=>∃a,v=.r a/\n+7<=a/\QG n I ts wd pl (bQ::R) S m (OL n a [] F) H):=by exact dZ (l:=[xR n,none]) rfl rfl rfl rfl (Nz λc f0 h=>dz (λH p=>se<|jG XI rfl rfl H p)<|G7 (λ_ _=>rfl) λH p=>⟨_,rfl,h,p.q,p.f.l,b _ _ (OL.fin h p.f.f) f0⟩)
include XI in
theorem M3(g:m+1<880)(e:Fw n F):CT (ae<|d+5) 43 [.r n] (QG n I ts wd pl (UG i++bQ::R) S m F) (λv H=>∃a x y,v=.r a/\n+7<=a/\QG n I ts wd pl (bQ::R) (S.step wd<|.u<|i+2) (m+1) (OL n a [.r x,.r y]<|IF n y ⟨Xy,wd<|i+1,pl<|i+1⟩<|IF n x ⟨Xy,wd i,pl i⟩ F) H):=by refine dZ (l:=[xR n,none]) rfl rfl rfl rfl (Nz λb f0 h=>?_);have c:∀{k},Fw n<|OL n b.length k<|KX n b.length<|b++[.l []]:=HN h yO;refine a7 (λH p=>se<|ut (by decide) c rfl H p)<|cU fL (λH p=>se<|jG XI rfl rfl H p)<|Vz (by decide) c rfl (KH XI h (X4 _) yO rfl rfl λx=>cU fL (ut (by decide) (HN h<|FU yO) rfl)<|KH XI h (nl rfl) (FU yO) rfl rfl λy=>?_);have f:Fw n<|OL n b.length [.r x,.r y]<|IF n y ⟨Xy,wd<|i+1,pl<|i+1⟩<|IF n x ⟨Xy,wd i,pl i⟩<|KX n b.length<|b++[.l []]:=HN h<|FU<|FU yO;exact cV (jG XI rfl rfl)<|uw (by decide) f rfl (cU fL (ut (by decide) f rfl)<|uw (by decide) f rfl (cV (jG XI rfl rfl)<|o8 f rfl (λ_=>rfl) (λH q=>zV XI q rfl (XN _ _) (Y6 g)) (SO XI rfl rfl (cV (λH p=>se<|ut (by decide) f rfl H p)<|a7 (jG XI rfl rfl)<|G7 (λ_ _=>rfl) λH p=>⟨_,x,y,rfl,h,p.q,p.f.l,p.f.f.i,p.f.f.f.i,e _ _ (OL.fin h p.f.f.f.f) f0⟩))))
include XI in
theorem Na(r:m+7<880)(h:Fw n F)(t:∀o,Tr (ae<|d+5) [xR n,some v,o] (QG n I ts wd pl (bQ::R) (S.run wd<|rn u i) (m+7) F) ss Q):
  Tr (ae<|d+5) [xR n,some v,none] (QG n I ts wd pl (b0 (cu u) i++bQ::R) S m F) (ee::ss) Q:=λH p=>by
 cases u with
 |none=>refine cps λC k=>xL (MI XI (d:=d+2) h H p) λ_ b e a A q g=>?_;subst A;exact k<|qZ (P:=λX=>X=H) (NU (λX z=>⟨b,by refine aa z ?_;exact hG λj=>j p.q.Ye _ _ e,g⟩) (λ_ p=>p.f.l) (X4 _)<|AT λ_ p=>p.f.l) (λB H p=>by obtain⟨rfl,p⟩:=p;exact t _ H ⟨p.q.mono<|Xz _ _,p.f.f⟩) H rfl
 |some s=>refine cps λC k=>?_;obtain⟨_,b,e,a,x,y,rfl,q,g⟩:=M3 XI (d:=d) (Yc (Zo (nl rfl) m) r) h H p;have c:m+1+3<880:=Yc (Zo (nl rfl:4<=7) m) r;have f:=TV (k:=[V.r x,.r y]) q<|tb (x:=y) (t:=⟨Xy,wd<|i+1,pl<|i+1⟩)<|tb (x:=x) (t:=⟨Xy,wd i,pl i⟩) h;refine k<|qZ (P:=λX=>X=H) (NU (λX z=>⟨b,by refine aa z ?_;exact hG λj=>j p.q.Ye _ _ e,g⟩) (λ_ p=>p.f.l) (nl rfl)<|wN (λ_ p=>p.f.l) (Jo (Yc (Xz _ _) c) f (λ_ p=>p.f.f.i) rfl rfl (ay λH p=>⟨_,rfl,rfl,p⟩))<|wN (λ_ p=>p.f.l) (Jo c f (λ_ p=>p.f.i) rfl rfl (ay λH p=>⟨_,rfl,rfl,p⟩))<|AT λ_ p=>p.f.l) (λB H p=>?_) H rfl;obtain⟨rfl,p⟩:=p;exact t _ H ⟨p.q,p.f.f.f.f⟩
theorem Td(j:m<880)(f:Fw n F)(h:gv l 0=xR n)(q:Tr (ae d) l (QG n I ts wd pl R (S.step wd .o) (m+1) F) ss Q):Tr (ae d) l (QG n I ts wd pl R S m F) (.a (.f (.v 0) 7) (.dS [] [])::ss) Q:=
 aV (λH g=>by exact PO g.q j λk e a b c=>⟨e,qE λo=>o _ h _ (K9 g.q).1 k _ _ rfl _ a,b,f _ _ c g.f⟩) q
theorem Tf(k:(S.step wd .c).a≠[])(j:m<880)(f:Fw n F)(h:gv l 0=xR n)(r:Tr (ae d) l (QG n I ts wd pl R (S.step wd .c) (m+1) F) ss Q):Tr (ae d) l (QG n I ts wd pl R S m F) (.x (.pop<|.f (.v 0) 7)::ss) Q:=
 aV (λH g=>by exact cps λC q=>QL g.q k j λv e a b c=>q<|⟨e,qE λo=>o _ h _ (K9 g.q).1 _ _ a,b,f _ _ c g.f⟩) r
theorem Uv(q:m<880)(k:Fw n F)(f:gv l 0=xR n)(h:gv l j=xR x)(o:gv l i=xI v)(u:Tr (ae<|d+1) l (QG n I ts wd pl R (S.add r v) (m+1) F) ss Q):
  Tr (ae<|d+1) l (QG n I ts wd pl R S m<|IF n x ⟨Xy,wd r,pl r⟩ F) (.a (.f (.v 0) 9) (.w 1 [.f (.v j) 2,.f (.v j) 1,.v i])::ss) Q:=
 aV (λH g=>by refine cps λC t=>Rc g.q r v q λy z e a b c=>?_;exact t<|⟨e,qE λs=>s _ f _ y z _ h _ ((eh g.f.i.2) _) _ h _ ((eh g.f.i.2) _) _ o _ _ (xu (d:=d+1) (H:=H) (nm:=wd r) (p:=pl r) (t:=v)<|XN _ _) _ a,b,k _ _ c g.f.f⟩) u
theorem Up(a:Option<|Nm×Nm×Nm)(i:Nat)(X:List PT){Cx:Prop}(k:∀p R,b0 (cu a) i++bQ::X=p::R->fY p [42]=true->Cx):Cx:=by
 cases a with
 |none=>exact k _ _ rfl rfl
 |some s=>exact k _ _ rfl rfl
include XI in
theorem UF{i j r:Nat}{k:Nm}{a:Option<|Nm×Nm×Nm}{X:List PT}(g:m<880)(f:Fw n F)(c:gv l 0=xR n)(b:Tr (ae<|d+3) (l.set i<|xI S.b.length) (QG n I ts wd pl (b0 (cu a) r++bQ::X) (S.step wd<|.d j k) (m+3) F) ss Q):
  Tr (ae<|d+3) l (QG n I ts wd pl (.m j::(b0 (cu a) r++bQ::X)) S m F) (.s i (.m 25 (.v 0) [.m 35 (.v 0) [],.s k])::ss) Q:=by
 refine cps λC o=>Up a r X λp Y e h=>o ?_;rw[e]at b⊢;exact T3 XI h g f c b
def FK (p:Pr)(i:Nat)(R:List PT):List PT:=
 .f ac eg::.m i::(b0 (cu p.p) (i+1)++bQ::(b0 (aQ p.d) (i+1+nI (cu p.p))++.f ac bM::((.f ac Rw::(b0 (dw p.v1) (i+1+nI (cu p.p)+nI (aQ p.d))++.f ac kK::.m (i+1+nI (cu p.p)+nI (aQ p.d)+nI (dw p.v1))::.f ak [58,61]::.f oJ [49]::.f ac bT::.f ac fg::b0 (dw p.v2) (i+1+nI (cu p.p)+nI (aQ p.d)+nI (dw p.v1)+1)))++.f ac bT::.m (i+1+nI (cu p.p)+nI (aQ p.d)+nB p.v1 p.v2)::bQ::R)))
theorem MP(v)(x)(v2):nI (I9 v x v2)=nB v v2:=by rw[I9,ah,ah,ah,ah,(rfl:nI r9=0),(rfl:nI (JS x)=1),(rfl:nI [g1,wW bT,g1]=0),nB];exact aK 0x42d031806842d001ac63194 tq
theorem UW(v)(x)(a)(i)(R):b0 (I9 v x a) i++R=.f ac bM::((.f ac Rw::(b0 (dw v) i++.f ac kK::.m (i+nI (dw v))::.f ak [58,61]::.f oJ [49]::.f ac bT::.f ac fg::b0 (dw a) (i+nI (dw v)+1)))++.f ac bT::R):=by have e:∀i,b0 r9 i=[.f ac bM,.f ac Rw]:=λi=>rfl;have b:∀i,b0 (JS x) i=[.f ac kK,.m i,.f ak [58,61],.f oJ [49],.f ac bT,.f ac fg]:=λi=>rfl;have c:∀i,b0 [g1,wW bT,g1] i=[.f ac bT]:=λi=>rfl;have n1:nI r9=0:=rfl;have f:nI (JS x)=1:=rfl;simp only[I9,bn,e,b,c,ah,ah,n1,f];simp only[YZ,X1,bE,dA,Yx,XR]
theorem Rk(p:Pr)(i:Nat)(R:List PT):b0 (vp p) i++R=FK p i R:=by have e:∀i,b0 [g1,wW eg,g1,.n p.nm] i=[.f ac eg,.m i]:=λi=>rfl;have a:∀i,b0 [sg 59] i=[bQ]:=λi=>rfl;have b:∀i,b0 [.n p.nm,sg 59] i=[.m i,bQ]:=λi=>rfl;have n1:nI [g1,wW eg,g1,.n p.nm]=1:=rfl;have c:nI [sg 59]=0:=rfl;simp only[vp,bn,bn,bn,bn,bn,e,a,b];simp only[ah,n1,c,MP,YZ];simp only[X1,UW,bE,dA];simp only[FK,XR,X1,bE]
def KP (v a:Vl)(i:Nat):List PT:=.f ac Rw::(b0 (dw v) i++.f ac kK::.m (i+nI (dw v))::.f ak [58,61]::.f oJ [49]::.f ac bT::.f ac fg::b0 (dw a) (i+nI (dw v)+1))
theorem LY(v a)(i):pg 0 (KP v a i)=true:=by cases v<;> cases a<;>rfl
theorem GW(v a)(i):iw false (KP v a i)=true:=by cases v<;> cases a<;>rfl
theorem IY(v a)(i):eN false (KP v a i)=qH v a i:=by cases v<;> cases a<;>rfl
theorem Mz(v a)(i):(KP v a i).length<=23:=by have:=vL v i;have:=vL a<|i+nI (dw v)+1;simp only[KP,aE,Xx];exact aK 0x5da1685a1685a1685a16858c6318c031924342196d0d0065b tq ‹_› ‹_›
def Pd (p:Pr):Nat:=36+Ec p.d
def rt (p:Pr)(i:Nat):List Ev:=.d i a9::.o::rn p.p (i+1)++cM p.d (i+1+nI (cu p.p))++qH p.v1 p.v2 (i+1+nI (cu p.p)+nI (aQ p.d))
theorem L4{pr:Pr}{i:Nat}(XI:∀i,wd i∈cK)(q:Qh n I ts wd pl (FK pr i R) S m H)(c:12+3*D4 pr.d<=d)(r:m+Pd pr<880)
  (s:cB i (S.run wd<|rt pr i).f=(S.b.length:Int)) (t:((S.run wd<|jv pr i).a≠[])):
  gc n I ts wd pl d 44 [.r n] .n (FK pr i R) S m H (bQ::R) (S.run wd<|jv pr i) (m+Pd pr):=by
 refine K7 12 c rfl λd c=>?_;have b:=Mz pr.v1 pr.v2<|i+1+nI (cu pr.p)+nI (aQ pr.d);have h:m+3+1+7+Ec pr.d+(KP pr.v1 pr.v2<|i+1+nI (cu pr.p)+nI (aQ pr.d)).length+1+1<=m+Pd pr:=by rw[Pd];exact ba 0x2123980605a168827685a36818c6318c64aed1065b tq b
 have k:=Y6<|Yc h r;have a:=Y6 k;have j:=Yc (Xz _ _) a;have g:=Yc (Xz _ _) j;have f:=Yc (Xz _ 8) g;refine bt q rfl rfl (l:=[xR n,none,none]) rfl rfl (uw (by decide) bk rfl (UF XI (Yc (Xz _ _) f) bk rfl (Td f bk rfl (Na XI g bk λo=>uw (by decide) bk rfl (o8 bk rfl (λ_=>rfl) (λH q=>Bl XI q (aK 0x36a1a1630036bd4d6498d0b0036bd8d6065b tq c) j) (o8 bk rfl (λ_=>rfl) (λH q=>EA XI (A:=KP pr.v1 pr.v2<|i+1+nI (cu pr.p)+nI (aQ pr.d)) q (LY _ _ _) (GW _ _ _) (XN _ _) a) ?_))))));have eS:PS.run wd (PS.run wd (PS.run wd (PS.step wd (PS.step wd S<|Ev.d i a9) Ev.o)<|rn pr.p<|i+1)<|cM pr.d<|i+1+nI (cu pr.p)) (eN false<|KP pr.v1 pr.v2<|i+1+nI (cu pr.p)+nI (aQ pr.d))=S.run wd (rt pr i):=by rw[IY,rt,ax,ax];rfl
 have e:((S.run wd<|rt pr i).add (i+1+nI (cu pr.p)+nI (aQ pr.d)+nB pr.v1 pr.v2) (S.b.length:Int)).step wd .c=S.run wd (jv pr i):=by rw[show jv pr i=rt pr i++[.f (i+1+nI (cu pr.p)+nI (aQ pr.d)+nB pr.v1 pr.v2) i,.c]from rfl,ax,<- s];rfl
 refine ed (λH p=>p.cast eS)<|Oy XI bk rfl λx=>Uv a bk rfl rfl rfl (Tf (e▸t) k bk rfl (ay λH p=>⟨rfl,(p.mono h).cast e⟩))
end
section
variable{n I:Nat}{ts:List Tok}{wd:Nat->Nm}{pl:Nat->Int}(XI:∀i,wd i∈cK)
variable{R:List PT}{S:PS}{m d:Nat}{H:Hp}{p:PT}{w:Nm}
def lX {W:RS}:W.XT.d=W.d:=by unfold RS.XT;split<;>rfl
include XI in
theorem Mj(q:Qh n I ts wd pl (.m i::.f ak [58,61]::.f Xy [98]::R) S m H)(h:4<=d)(b:m<880):gc n I ts wd pl d 32 [.r n] .n (.m i::.f ak [58,61]::.f Xy [98]::R) S m H R (S.step wd<|.d i wq)<|m+3:=by obtain⟨d,rfl⟩:∃a,d=a+2+1:=⟨d-3,(Ym<|bC 0x36c8046865b tq h).symm⟩;exact bt q rfl rfl (l:=[xR n,none]) rfl rfl (Oy XI bk rfl λx=>dz (ut (by decide) (tb bk) rfl)<|Py (by decide) (tb bk) rfl (Jd XI b bk rfl rfl (ay λH p=>⟨rfl,p.q,p.f.f⟩)))
include XI in
theorem Nv(q:Qh n I ts wd pl (.m i::p::R) S m H)(c:fY p [58,61]=true)(h:4<=d)(b:m<880):gc n I ts wd pl d 32 [.r n] .n (.m i::p::R) S m H (p::R) (S.step wd<|.d i b8)<|m+3:=by obtain⟨d,rfl⟩:∃a,d=a+2+1:=⟨d-3,(Ym<|bC 0x36c8046865b tq h).symm⟩;exact bt q rfl rfl (l:=[xR n,none]) rfl rfl (Oy XI bk rfl λx=>a7 (jG XI c rfl)<|Jd XI b bk rfl rfl (ay λH p=>⟨rfl,p.q,p.f.f⟩))
def Pa:Option Pr->Nat
 |none=>0
 |some p=>Pd p
def Og:Option Pr->Nat
 |none=>0
 |some p=>D4 p.d
theorem Un(o:Option Pr)(i:Nat)(R:List PT){Cx:Prop}(k:∀w a,b0 (fS o) i++.f ac bM::R=.f ac w::a->w≠eF->Cx):Cx:=by
 cases o with
 |none=>exact k _ _ rfl (by decide)
 |some p=>exact k _ _ (Rk p i _) (by decide)
theorem UN(D:Dc)(i:Nat){w:Nm}(h:w≠eF)(R:List PT){Cx:Prop}(k:∀a b,b0 (aQ D) i++.f ac w::R=.f ac a::b->a≠eF->Cx):Cx:=by
 obtain⟨c,t,v⟩:=D;simp only[aQ,bn,X1]at k;cases c with
 |some c=>cases c with
  |none=>exact k _ _ rfl (by decide)
  |some p=>exact k _ _ (K5 p.1 p.2 i _) (by decide)
 |none=>cases t with
  |some c=>cases c with
   |none=>exact k _ _ rfl (by decide)
   |some p=>exact k _ _ (Ew p.1 p.2 _ _) (by decide)
  |none=>cases v with
   |some c=>cases c with
    |none=>exact k _ _ rfl (by decide)
    |some p=>exact k _ _ (Gn p.1 p.2 _ _) (by decide)
   |none=>exact k _ _ rfl h
include XI in
theorem FD(q:Qh n I ts wd pl (b0 (aQ D) i++(b0 (fS o) j++.f ac bM::R)) S m H)(h:14+3*D4 D+3*Og o<=d)(a:m+Ec D+Pa o<880)
  (b:∀p,o=some p->cB j ((S.run wd<|cM D i).run wd<|rt p j).f=((S.run wd<|cM D i).b.length:Int)/\((S.run wd<|cM D i).run wd<|jv p j).a≠[]):
  gc n I ts wd pl d 34 [.r n] .n (b0 (aQ D) i++(b0 (fS o) j++.f ac bM::R)) S m H (.f ac bM::R) ((S.run wd<|cM D i).run wd<|qV o j) (m+Ec D+Pa o):=by
 cases o with
 |none=>exact Bl XI q (XJ (add_le_add_right (nl rfl) _) h) a
 |some p=>obtain⟨d,rfl⟩:∃c,d=c+14:=⟨d-14,(Ym<|by exact ba 0x139b21046d7806d7b9ac6065b tq h).symm⟩;have e:b0 (fS<|some p) j++.f ac bM::R=FK p j (.f ac bM::R):=Rk p j _;rw[e]at q⊢;exact bt q rfl rfl (l:=[xR n]) rfl rfl (KZ XI (ba 0x35a16006d7a5ac939a16086d7806d7b9ac6065b tq h:9+3*D4 D<=d+13) (Yc (Xz _ _) a) bk fL<|cU fL (λH p=>⟨H,rfl,p⟩)<|a7 (jG XI rfl rfl)<|a7 (jG XI rfl rfl)<|a7 (jG XI rfl rfl)<|dz (Rg rfl rfl)<|o8 bk rfl (λ_=>rfl) (λH q=>L4 (pr:=p) (i:=j) XI q (ba 0x35a16006d7b1ac939a16006d7886d7b9ac6065b tq h:12+3*D4 p.d<=d+13) a (b p rfl).1 (b p rfl).2) (uw (by decide) bk rfl (LF XI (XN _ _) (λH p=>⟨rfl,p⟩) fL)))
def Ld (v:Vl)(i:Nat):List PT:=.m i::bQ::.f ac xr::(b0 (dw v) (i+1)++[.f ac xf,.f oJ [49],.f ak [58],.f ac bT])
theorem NV(v)(i):pg 0 (Ld v i)=true:=by cases v<;>rfl
theorem GI(v)(i):iw false (Ld v i)=true:=by cases v<;>rfl
theorem IU(v)(i):eN false (Ld v i)=.u i::kD v (i+1):=by cases v<;>rfl
theorem L8(v)(i):(Ld v i).length<=15:=by have:=vL v<|i+1;simp only[Ld,aE,Xx];exact bC 0x1ed0b42d0b42d0b42d0b40d6318c0318c6490d0065b tq this
def JW (M:Md):List PT:=b0 (bj M.i) 0++(b0 (aQ M.d) (nI<|bj M.i)++(b0 (fS M.p) (nI (bj M.i)+nI (aQ M.d))++.f ac bM::(Ld M.v (nI (bj M.i)+nI (aQ M.d)+nI (fS M.p))++.f ac bT::.f Xy [97]::.f ak [46]::[])))
def AM (M:Md):List PT:=.f ac oK::.f Xy [97]::bQ::JW M
theorem Ty(M:Md):b0 (aP M) 0=AM M:=by have e:b0 o7 0=[.f ac oK,.f Xy [97],bQ]:=rfl;have a:∀i,b0 (DU M.x) i=[.f ac bM,.m i,bQ,.f ac xr]:=λi=>rfl;have b:∀i,b0 EM i=[.f ac xf,.f oJ [49],.f ak [58],.f ac bT,.f ac bT,.f Xy [97],.f ak [46]]:=λi=>rfl;have n1:nI o7=0:=rfl;have c:nI (DU M.x)=1:=rfl;simp only[aP,bn,bn,bn,bn,bn,bn,e,a,b];simp only[ah,n1,c,Yx,YZ];simp only[AM,JW,Ld,X1,bE,dA,XR]
theorem Oa(D:Dc)(p:Option Pr)(i:Nat)(Z:List PT):∃w R,(b0 (aQ D) i++(b0 (fS p) (i+nI (aQ D))++.f ac bM::Z))=.f ac w::R/\fY (.f ac w) eF=true:=by exact cps λC k=>Un p (i+nI (aQ D)) Z λg a x e=>UN D i e a λc b y f=>k<|⟨c,b,aa x<|aa y rfl,by simpa [fY]using f⟩
theorem NE(XI:∀i,wd i∈cK)(b)(c:∃w R,X=.f ac w::R/\fY (.f ac w) eF=true)(h:Fw n F):
  Tn (ae<|d+4) [xR n] (QG n I ts wd pl (b0 (bj b) 0++X) Yz 1 F) (.i (.m 21 (.v 0) [(.s [73,77,80,79,82,84])]) [.x<|.m 32 (.v 0) [],fy,.x<|.m 22 (.v 0) [(.s [59])]] [])
   (λl H=>l=[xR n]/\QG n I ts wd pl X (Yz.run wd<|g7 b 0) 4 F H):=by
 match b with
 |none=>obtain⟨w,R,rfl,e⟩:=c;exact ux<|a7 (jG XI e rfl)<|ay λH p=>⟨_,rfl,rfl,p.q.mono<|nl rfl,p.f⟩
 |some (false,a)=>exact ux<|dz (ut (k:=ac) (R:=.m 0::.f ak [58,61]::.f Xy [98]::bQ::X) (by decide) h rfl)<|o8 h rfl (λ_=>rfl) (λH q=>Mj XI (d:=d+4) q (nl rfl)<|nl rfl) (cV (jG XI rfl rfl)<|uw (by decide) h rfl (ay λH p=>⟨_,rfl,rfl,p.q.mono<|nl rfl,p.f⟩))
 |some (true,a)=>exact ux<|dz (ut (k:=ac) (R:=.m 0::bQ::X) (by decide) h rfl)<|o8 h rfl (λ_=>rfl) (λH q=>Nv XI (d:=d+4) q rfl (nl rfl) (nl rfl)) (cV (jG XI rfl rfl)<|uw (by decide) h rfl (ay λH p=>⟨_,rfl,rfl,p.q.mono<|nl rfl,p.f⟩))
def Oo (M:Md):Nat:=30+Ec M.d+Pa M.p
include XI in
theorem L5{M:Md}{F:Hp->Prop}(h:Fw n F)(b:16+3*D4 M.d+3*Og M.p<=d+1)(f:Oo M<880)(s:∀p,M.p=some p->cB (nI (bj M.i)+nI (aQ M.d)) (((Yz.run wd<|g7 M.i 0).run wd<|cM M.d<|nI<|bj M.i).run wd<|rt p<|nI (bj M.i)+nI (aQ M.d)).f=(((Yz.run wd<|g7 M.i 0).run wd<|cM M.d<|nI<|bj M.i).b.length:Int)/\
   (((Yz.run wd<|g7 M.i 0).run wd<|cM M.d<|nI<|bj M.i).run wd<|jv p<|nI (bj M.i)+nI (aQ M.d)).a≠[]):
  Tr (ae d) [xR n] (QG n I ts wd pl (JW M) Yz 1 F) (hZ.body.drop 4) (Rt λv c=>v=.n/\∃W,Rp n I ts c W/\jw wd pl W (Yz.run wd<|ky M)/\F c):=by
 obtain⟨d,rfl⟩:∃l,d=l+4:=⟨d-4,(Ym<|by exact ba 0x88d905a26046d7806d7c1ac6065b tq b).symm⟩;have a:=L8 M.v<|nI (bj M.i)+nI (aQ M.d)+nI (fS M.p);have e:4+Ec M.d+Pa M.p+(Ld M.v<|nI (bj M.i)+nI (aQ M.d)+nI (fS M.p)).length<880:=by simp only[Oo]at f;exact ba 0x370708202358c64ded1065bdc1c1079ac6067b tq f a
 refine qZ (NE XI M.i (Oa M.d M.p (nI<|bj M.i) _) h) λD=>λH p=>?_;obtain⟨rfl,p⟩:=p;refine o8 h rfl (λ_=>rfl) (λH q=>FD XI q (by exact ba 0x11a26046d7806d7b9ac6482d2344c6046d7806d7c1ac6065b tq b) (Yc (Xz _ _) e) s) ?_ H p;exact o8 h rfl (λ_=>rfl) (λH q=>EA XI q (NV _ _) (GI _ _) (ba 0x4681856c82d2340c6086d7846d7c1ac6065b tq b) e) (Py (by decide) h rfl (aV (l':=[xR n]) (P':=λH=>∃W,Rp n I ts H W/\jw wd pl W (Yz.run wd<|ky M)/\F H) (λH p=>cps λC u=>ag p.q λA r g=>aI g.mt λG E o k B=>aj (SA (d:=d+4) (s:=[46]) o (nl rfl) k.2 H r) λj x y z=>u<|⟨j,yu λt=>t r.Ye _ _ x,_,y,by rw[ky,ax,ax,ax,<- IU];exact g.st.XT,h _ _ z p.f⟩)<|ay λH p=>⟨rfl,p⟩))
include XI in
theorem EG{M:Md}{a:RS}(r:Rp n I ts H a)(h:a=⟨ts,[],[iS],[],[],[],[],0⟩)(L:y3 wd pl (AM M) ts)(o:16+3*D4 M.d+3*Og M.p<=d)(hm:Oo M<880)(hP:∀p,M.p=some p->cB (nI (bj M.i)+nI (aQ M.d)) (((Yz.run wd<|g7 M.i 0).run wd<|cM M.d<|nI<|bj M.i).run wd<|rt p<|nI (bj M.i)+nI (aQ M.d)).f=(((Yz.run wd<|g7 M.i 0).run wd<|cM M.d<|nI<|bj M.i).b.length:Int)/\
   (((Yz.run wd<|g7 M.i 0).run wd<|cM M.d<|nI<|bj M.i).run wd<|jv p<|nI (bj M.i)+nI (aQ M.d)).a≠[]):
  ∃H' b,ae d 31 [.r n] H=some (.v .n,H')/\Rp n I ts H' b/\jw wd pl b (Yz.run wd<|ky M)/\aq n H H':=by
 obtain⟨d,rfl⟩:∃d',d=d'+1:=⟨d-1,(Ym<|by exact ba 0x105b21046d7806d7c1ac6065b tq o).symm⟩;have q:a.rem=ts:=aa h rfl;unfold AM at L;refine cps λC y=>aI L λt1 r1 F P T=>aI T λt2 r2 G Q U=>aI U λt3 r3 J D Y=>?_;have N:=q.trans F;refine aj (SA (d:=d) (s:=oK) N (H9 o) P.2 H r) λA g c k=>?_;have s:=fZ N;rw[G]at s;have s:=s;refine NB (d:=d) c s (ba 0x4d905a06086d7846d7c1ac6065b tq o) Q.1 λx u d1 E d3 d4=>?_;have f:=fZ s;rw[J]at f;have f:=f;refine aj (SA (d:=d) (s:=[59]) f (H9 o) D.2 u E) λB f1 f2 f3=>?_;have O:=fZ f;have l:a.XT.XT.XT.c=0:=by simp only[h0,h]
 have fl:=f2.fld;refine yA f2 (bC 0x708e04c0d0069b tq l) λil H4 g1 g2 g3=>?_;have q4:Qh n I ts wd pl (JW M) Yz 1 H4:=by
  refine⟨_,g2,?_,?_,?_,?_,by decide,?_⟩
  ·show y3 wd pl _ a.XT.XT.XT.rem
   refine aa O ?_;exact Y
  ·show a.XT.XT.XT.rem.length<ts.length
   refine aa O<|aa F<|aa G<|aa J ?_;simp only[aE];exact bC 0xb42d0b40c63013 tq
  ·show a.XT.XT.XT.p≠[46]
   have:a.XT.XT.XT.p=t3.t:=by generalize a.XT.XT=W2 at f;unfold RS.XT;exact aa f rfl
   refine aa this<|aa D.2 ?_;decide
  ·refine⟨?_,?_,?_,?_,?_⟩
   ·show []::a.XT.XT.XT.a=_
    simp only[nb,h];rfl
   ·show a.XT.XT.XT.b=_
    simp only[CU,h];rfl
   ·have:∀W:RS,W.XT.f=W.f:=λW=>by unfold RS.XT;split<;>rfl
    show a.XT.XT.XT.f=_;rw[this,this,this,h];rfl
   ·have:∀W:RS,W.XT.e=W.e:=λW=>by unfold RS.XT;split<;>rfl
    show a.XT.XT.XT.e.length=_;rw[this,this,this,h];rfl
   ·show a.XT.XT.XT.d=_
    refine aa lX<|aa lX<|aa lX<|aa h ?_;rfl
  ·show a.XT.XT.XT.c+1+a.XT.XT.XT.d.length<=1
   refine aa l<|aa lX<|aa lX<|aa lX<|aa h ?_;simp
 refine y ?_
 suffices t:CT (ae<|d+1) 31 [.r n] (λX=>X=H) (λv H'=>v=.n/\∃b,Rp n I ts H' b/\jw wd pl b (Yz.run wd<|ky M)/\aq n H H')by refine cps λC y=>Bq (t H rfl) λ_ H' e e7 b p=>?_;subst e7;exact y<|⟨H',b,e,p⟩
 refine dZ (l:=[xR n]) rfl rfl rfl rfl (aV (l':=[xR n]) (P':=λX=>X=A) (λX z=>⟨A,by refine aa z ?_;exact yu λj=>j r.Ye _ _ g,rfl⟩)<|aV (l':=[xR n]) (P':=λX=>X=u) (λX z=>⟨u,by refine aa z ?_;exact yu λj=>j c.Ye _ _ d1,rfl⟩)<|aV (l':=[xR n]) (P':=λX=>X=B) (λX z=>⟨B,by refine aa z ?_;exact yu λj=>j E.Ye _ _ f1,rfl⟩) ?_);exact aV (l':=[xR n]) (λX z=>⟨H4,by refine aa z ?_;exact yu λj=>j _ fl.1 il _ _ rfl _ g1,q4,((k.trans d3).trans f3).trans g3⟩)<|L5 XI bk o hm hP
end
noncomputable def aw:List Ev->List Nat
 | []=>[]
 | .u i::r=>i::aw r
 | .w i::r=>i::aw r
 | .d i _::r=>i::aw r
 | .f i _::r=>i::aw r
 | .r::r=>aw r
 | .o::r=>aw r
 | .c::r=>aw r
theorem cb:aw []=[]:=rfl
theorem cg{i r}:aw (Ev.u i::r)=i::aw r:=rfl
theorem b6{i r}:aw (Ev.w i::r)=i::aw r:=rfl
theorem cf{i k r}:aw (Ev.d i k::r)=i::aw r:=rfl
theorem cm{i j r}:aw (Ev.f i j::r)=i::aw r:=rfl
theorem cp{r}:aw (Ev.r::r)=aw r:=rfl
theorem b7{r}:aw (Ev.o::r)=aw r:=rfl
theorem cn{r}:aw (Ev.c::r)=aw r:=rfl
noncomputable def cP:List Ev->Bool
 | []=>true
 | .o::_=>false
 | .c::_=>false
 |_::r=>cP r
theorem ey:cP []=true:=rfl
theorem et{t}:cP (Ev.o::t)=false:=rfl
theorem eC{t}:cP (Ev.c::t)=false:=rfl
theorem dW{i r}:cP (.u i::r)=cP r:=rfl
theorem eD{i r}:cP (.w i::r)=cP r:=rfl
theorem eA{i k r}:cP (.d i k::r)=cP r:=rfl
theorem eq{r}:cP (.r::r)=cP r:=rfl
theorem ei{i j r}:cP (.f i j::r)=cP r:=rfl
@[simp]theorem cQ(a b):aw (a++b)=aw a++aw b:=by
 induction a with
 |nil=>exact rfl
 |cons e r i=>cases e<;>first| exact i| exact Xs (_::·) i
@[simp]theorem cC(a b):cP (a++b)=(cP a&&cP b):=by
 induction a with
 |nil=>exact rfl
 |cons e r i=>cases e<;>first| exact i| exact rfl
def Nn (v)(i):cP (kD v i)=true:=by cases v<;>rfl
theorem Sw:∀(K) (i),cP (nv K i)=true
 | .n x,i=>rfl
 | .r K,i=>by simp only[fF,fJ,fE,ea,eU,cC,Sw K,ey,et,eC,dW,eD,eA,eq,ei];rfl
 | .p x,i=>rfl
 | .a v K,i=>by simp only[ea,eU,cC,Sw K,Nn];rfl
 | .c x,i=>rfl
def VJ (c:Option<|Option<|Nm×Vl)(i):cP (ui c i)=true:=by
 match c with
 |none=>rfl
 |some none=>rfl
 |some (some (x,v))=>simp only[ui,cC,Nn];rfl
def WU (c:Option<|Option<|Nm×Kd)(i):cP (AE c i)=true:=by
 match c with
 |none=>rfl
 |some none=>rfl
 |some (some (x,v))=>simp only[m8,nu,kd,cC,Sw,ey,et,eC,dW,eD,eA,eq,ei];rfl
def W0 (c:Option<|Option<|Nm×Kd)(i):cP (BC c i)=true:=by
 match c with
 |none=>rfl
 |some none=>rfl
 |some (some (x,v))=>simp only[mW,nq,lH,cC,Sw,ey,et,eC,dW,eD,eA,eq,ei];rfl
def M0 (D)(i):cP (cM D i)=true:=by simp only[cM,cC,VJ,WU,W0];rfl
def R7 (s)(i):cP (rn s i)=true:=by cases s<;>rfl
def R2 (v a)(i):cP (qH v a i)=true:=by simp only[qH,cC,Nn,ey,et,eC,dW,eD,eA,eq,ei];rfl
def UX (s)(i):cP (g7 s i)=true:=by
 match s with
 |none=>rfl
 |some (true,_)=>rfl
 |some (false,_)=>rfl
section
variable{wd:Nat->Nm}
def tB {S:PS}(h1:e≠.o)(h:e≠.c):(S.step wd e).a.length=S.a.length:=by
 cases e with
 |u i=>rfl
 |w i=>simp only[PS.step];split<;>rfl
 |d i k=>
  simp only[PS.step];split
  ·rename_i s a e
   split
   ·rfl
   ·simp[e]
  ·rfl
 |r=>rfl
 |o=>exact Xw rfl h1
 |c=>exact Xw rfl h
 |f i j=>rfl
theorem BD:∀{a:List Ev}{S:PS},cP a=true->(S.run wd a).a.length=S.a.length
 | [],S,_=>rfl
 |e::r,S,h=>by simp only[ez,BD (by cases e<;> simp_all[ey,et,eC,dW,eD,eA,eq,ei]:cP r=true),tB (by intro z;subst z;exact eI h nt:e≠.o) (by intro z;subst z;exact eI h nt:e≠.c)]
def vY {S:PS}:S.a≠[]↔1<=S.a.length:=by
 cases S.a with
 |nil=>simp
 |cons a b=>simp
def p0 {S:PS}(a:List Nat):∀(F),(∀j∈a,j<F.length)->(a.foldl (S.Yo wd) F).map (·.1)=F.map (·.1):=by
 induction a with
 |nil=>intro F _;exact rfl
 |cons j a i=>
  intro F h;refine aa foldl_cons<|aa (i _ (λq c=>by simp only[PS.Yo,Ze];exact h q<|.tail _ c)) ?_;have b:=h j<|.head _;have e:F.getD j (0,0)=F[j]:=by simp[Yq,XQ b]
  simp only[PS.Yo,List.map_set,e];have:F[j].fst=(F.map (·.1))[j]'(by simpa using b):=by simp
  rw[this,List.set_getElem_self]
structure PW(S:PS):Prop where
 ne:S.a≠[]
 lt:∀j∈S.l,j<S.f.length
def jE (h:PW S)(h1:e≠.o)(b:e≠.c):PW (S.step wd e)/\(S.step wd e).f.map (·.1)=S.f.map (·.1)++aw [e]:=by
 refine⟨⟨(by rw[vY,tB h1 b,<- vY];exact h.ne:(S.step wd e).a≠[]),?_⟩,?_⟩
 ·cases e with
  |u i=>exactλj a=>by have:=h.lt j a;simp only[PS.step,PS.add,Xx];exact uJ this
  |w i=>
   simp only[PS.step];split
   ·intro j a
    simp only[Xx,aE,br]at a⊢;rcases YE.1 a with z|z
    ·have:=h.lt j z;exact aK 0x2d03581602610067b tq this
    ·simp at z;exact aK 0x2d03581602610069b tq z
   ·exactλj a=>by have:=h.lt j a;simp only[PS.add,Xx];exact uJ this
  |d i k=>
   simp only[PS.step];split
   ·split
    ·exactλj a=>by have:=h.lt j a;simp only[Xx];exact uJ this
    ·exactλj a=>by have:=h.lt j a;simp only[Xx];exact uJ this
   ·exact h.lt
  |r=>exactλj a=>by cases a
  |o=>exact Xw rfl h1
  |c=>exact Xw rfl b
  |f i k=>exactλj a=>by have:=h.lt j a;simp only[PS.step,PS.add,Xx];exact uJ this
 ·cases e with
  |u i=>simp[PS.step,PS.add,cb,cg,b6,cf,cm,cp,b7,cn]
  |w i=>simp only[PS.step];split<;> simp[PS.add,cb,cg,b6,cf,cm,cp,b7,cn]
  |d i k=>
   obtain⟨s,ss,g⟩:∃s ss,S.a=s::ss:=by
    cases q:S.a with
    |nil=>exact Xw q h.ne
    |cons s ss=>exact⟨s,ss,rfl⟩
   simp only[PS.step,g];split<;> simp[cb,cg,b6,cf,cm,cp,b7,cn]
  |r=>simp only[PS.step,cb,cg,b6,cf,cm,cp,b7,cn,Ys];exact p0 _ _ h.lt
  |o=>exact Xw rfl h1
  |c=>exact Xw rfl b
  |f i j=>simp[PS.step,PS.add,cb,cg,b6,cf,cm,cp,b7,cn]
theorem lM:∀{es:List Ev}{S:PS},PW S->cP es=true->PW (S.run wd es)/\(S.run wd es).f.map (·.1)=S.f.map (·.1)++aw es
 | [],S,h,_=>⟨h,by simp[cb,cg,b6,cf,cm,cp,b7,cn]⟩
 |e::r,S,h,d=>by
  have g:cP r=true:=by cases e<;> simp_all[ey,et,eC,dW,eD,eA,eq,ei]
  refine XG (λa b=>?_)<|jE (wd:=wd) h (by intro z;subst z;exact eI d nt:e≠.o) (by intro z;subst z;exact eI d nt:e≠.c);refine XG (λc f=>?_)<|lM a g;refine⟨c,?_⟩;simp only[ez,f,b,X1];congr 1;rw[<- cQ];rfl
def DM {S:PS}{P:Nat}(c:List Nat):∀(F),(∀j∈c,P<=j)->(c.foldl (S.Yo wd) F).take P=F.take P/\(c.foldl (S.Yo wd) F).length=F.length:=by
 induction c with
 |nil=>intro F _;exact⟨rfl,rfl⟩
 |cons j c i=>intro F h;refine XG (λa b=>aa foldl_cons<|⟨a.trans ?_,b.trans<|by simp[PS.Yo]⟩)<|i (S.Yo wd F j) λq d=>h q<|.tail _ d;simp only[PS.Yo];exact aa (List.take_set_of_le<|h j<|.head _) rfl
def DT {S:PS}(e)(g:∀j∈S.l,P<=j)(h:P<=S.f.length):
  (S.step wd e).f.take P=S.f.take P/\(∀j∈(S.step wd e).l,P<=j)/\P<=(S.step wd e).f.length:=by
 have l:∀x:Nat×Int,(S.f++[x]).take P=S.f.take P:=λx=>aa (List.take_append_of_le_length h) rfl;cases e with
 |u i=>exact⟨l _,g,by simp only[PS.step,PS.add,Xx];exact m6 h⟩
 |w i=>
  simp only[PS.step];split
  ·refine⟨l _,?_,by simp only[Xx];exact m6 h⟩
   intro j m;rcases YE.1 m with z|z
   ·exact g j z
   ·simp at z;exact ba 0x1048410f3620065b tq h z
  ·exact⟨l _,g,by simp only[PS.add,Xx];exact m6 h⟩
 |d i k=>
  simp only[PS.step];split
  ·split
   ·exact⟨l _,g,by simp only[Xx];exact m6 h⟩
   ·exact⟨l _,g,by simp only[Xx];exact m6 h⟩
  ·exact⟨rfl,g,h⟩
 |r=>exact XG (λa b=>(⟨a,λj m=>by(cases m),by simp only[PS.step,b];exact h⟩))<|DM (wd:=wd) (S:=S) S.l S.f g
 |o=>exact⟨rfl,g,h⟩
 |c=>exact⟨rfl,g,h⟩
 |f i j=>exact⟨l _,g,by simp only[PS.step,PS.add,Xx];exact m6 h⟩
def Fy (d):∀{S:PS},(∀j∈S.l,P<=j)->P<=S.f.length->
  (S.run wd d).f.take P=S.f.take P/\(∀j∈(S.run wd d).l,P<=j)/\P<=(S.run wd d).f.length:=by
 induction d with
 |nil=>intro S h f;exact⟨rfl,h,f⟩
 |cons e r i=>intro S h f;exact cps λC k=>bU (DT (wd:=wd) e h f) λa b c=>bU (i b c) λx y z=>k<|⟨by rw[ez,x,a],y,z⟩
def Go:∀(G),i∈F.map (·.1)->cB i (F++G)=cB i F:=by
 induction F with
 |nil=>intro G h;cases h
 |cons p F b=>
  intro G h;obtain⟨a,v⟩:=p;simp only[bE,jS,j0];by_cases e:a=i
  ·simp[e]
  ·simp only[e,if_false]
   refine b G ?_;simp only[af,XE]at h;rcases h with h|h
   ·exact Xw h.symm e
   ·exact h
def EU:i∉F.map (·.1)->cB i (F++[(i,v)])=v:=by
 induction F with
 |nil=>intro _;simp[jS,j0]
 |cons p F b=>intro h;obtain⟨a,u⟩:=p;simp only[af,XE,not_or]at h;have h:=h;simp only[bE,jS,j0];exact aa (Xu λe=>h.1 e.symm)<|b h.2
def C3 (e:F.take P=G)(h:i∈G.map (·.1)):cB i F=cB i G:=by
 have:F=G++F.drop P:=by rw[<- e,List.take_append_drop]
 exact aa this<|aa (Go _ h) rfl
end
def pV (v)(i):(aw<|kD v i).Perm<|List.range' i<|nI<|dw v:=by cases v<;> exact .refl _
def fN (i m n):List.range' i m++List.range' (i+m) n=List.range' i (m+n):=aa List.range'_append_1 rfl
def BO (i n):List.range' i n++[i+n]=List.range' i (n+1):=by rw[<- fN];rfl
def lW (i n):i::List.range' (i+1) n=List.range' i (n+1):=by rw[Zr n 1,<- fN];rfl
theorem pK:∀(K) (i),(aw<|nv K i).Perm<|List.range' i<|nI<|iE K
 | .n x,i=>.refl _
 | .r K,i=>by have n1:nI xP=0:=rfl;have n:nI Dt=1:=rfl;simp only[fF,fJ,fE,ea,eU,cQ,qw,jT,qG,gH,nE,ah,n1,n,Yx];rw[<- BO];exact(pK K i).append_right _
 | .p x,i=>.refl _
 | .a v K,i=>by have n1:nI [wW dc,g1]=0:=rfl;have n:nI [g1,wW xf,g1]=0:=rfl;simp only[ea,cQ,gH,ah,ah,ah,n1,n,Yx,YZ,<- fN];exact(pV v i).append<|pK K _
 | .c x,i=>.refl _
def pC (c:Option<|Option<|Nm×Vl)(i):(aw<|ui c i).Perm<|List.range' i<|nI<|r8 c:=by
 match c with
 |none=>exact .refl _
 |some none=>exact .refl _
 |some (some (x,v))=>simp only[(by rw[mU,ah,ah,ah,(rfl:nI (bX Yr)=0),(rfl:nI [.n x,g1,sg 61,g1]=1),(rfl:nI [sg 59,g1]=0)];exact zn:nI (r8<|some<|some (x,v))=nI (dw v)+1),ui,cQ,<- lW];exact List.perm_append_comm.trans<|List.Perm.cons _<|pV v _
def pT (c:Option<|Option<|Nm×Kd)(i):(aw<|AE c i).Perm<|List.range' i<|nI<|wx c:=by
 match c with
 |none=>exact .refl _
 |some none=>exact .refl _
 |some (some (x,K))=>
  have n1:nI (bX YH)=0:=rfl;have n:nI [.n x,sg 42,g1,sg 61,g1]=1:=rfl;have a:nI [sg 59,g1]=0:=rfl;have e:aw (AE (some<|some (x,K)) i)=i::aw (nv K<|i+1):=by simp[m8,nu,kd,cb,cg,b6,cf,cm,cp,b7,cn]
  have h:nI (wx<|some<|some (x,K))=nI (iE K)+1:=by rw[ng,ah,ah,ah,n1,n,a];exact zn
  simp only[h,e,<- lW];exact List.Perm.cons _<|pK K _
def pR (c:Option<|Option<|Nm×Kd)(i):(aw<|BC c i).Perm<|List.range' i<|nI<|zx c:=by
 match c with
 |none=>exact .refl _
 |some none=>exact .refl _
 |some (some (x,K))=>
  have n1:nI (bX YT)=0:=rfl;have n:nI [.n x,sg 58,g1]=1:=rfl;have a:nI [sg 59,g1]=0:=rfl;have e:aw (BC (some<|some (x,K)) i)=aw (nv K<|i+1)++[i]:=by simp[mW,nq,lH,cb,cg,b6,cf,cm,cp,b7,cn]
  have h:nI (zx<|some<|some (x,K))=nI (iE K)+1:=by rw[nj,ah,ah,ah,n1,n,a];exact zn
  simp only[h,e,<- lW];exact List.perm_append_comm.trans<|List.Perm.cons _<|pK K _
def pD (D)(i):(aw<|cM D i).Perm<|List.range' i<|nI<|aQ D:=by simp only[cM,cQ,cQ,aQ,ah,ah,<- fN,<- fN,<- XR];exact((pC _ _).append<|pT _ _).append<|pR _ _
def pS (s)(i):(aw<|rn s i).Perm<|List.range' i<|nI<|cu s:=by
 match s with
 |none=>exact .refl _
 |some (a,b,x)=>show [i+2,i,i+1].Perm [i,i+1,i+1+1];exact(List.Perm.swap _ _ _).trans<|List.Perm.cons _<|List.Perm.swap _ _ _
def pB (v a)(i):(aw<|qH v a i).Perm<|List.range' i<|nB v a:=by
 have e:aw (qH v a i)=aw (kD v i)++(i+nI (dw v))::aw (kD a<|i+nI (dw v)+1):=by simp[qH,cb,cg,b6,cf,cm,cp,b7,cn]
 have h:nB v a=nI (dw v)+(nI (dw a)+1):=by rw[nB];exact sz
 simp only[h,e,<- fN,<- lW];exact(pV _ _).append<|List.Perm.cons _<|pV _ _
def PG (p):nI (vp p)=1+nI (cu p.p)+nI (aQ p.d)+nB p.v1 p.v2+1:=by have n1:nI [g1,wW eg,g1,.n p.nm]=1:=rfl;have n:nI [sg 59]=0:=rfl;have a:nI [.n p.nm,sg 59]=1:=rfl;rw[vp,ah,ah,ah,ah,ah,n1,n,a,MP];exact ba 0x2d104016b18c605a2081a00b58c63194 tq
def pP (p)(i):(aw<|jv p i).Perm<|List.range' i<|nI<|vp p:=by
 have e:aw (jv p i)=i::((aw (rn p.p<|i+1)++aw (cM p.d<|i+1+nI (cu p.p)))++aw (qH p.v1 p.v2<|i+1+nI (cu p.p)+nI (aQ p.d))++[i+1+nI (cu p.p)+nI (aQ p.d)+nB p.v1 p.v2]):=by simp[jv,cb,cg,b6,cf,cm,cp,b7,cn]
 have h:nI (vp p)=(nI (cu p.p)+nI (aQ p.d)+nB p.v1 p.v2+1)+1:=by rw[PG];exact ba 0x5a1688206318c0b441005ac63194 tq
 have a:i+1+nI (cu p.p)+nI (aQ p.d)=i+1+(nI (cu p.p)+nI (aQ p.d)):=ba 0x20b02d03182085a063194 tq;have b:i+1+nI (cu p.p)+nI (aQ p.d)+nB p.v1 p.v2=i+1+(nI (cu p.p)+nI (aQ p.d)+nB p.v1 p.v2):=oN 0x31058c0b40c60c410b40c63194 tq;rw[e,h,<- lW,<- BO,b,a,<- fN,<- fN];exact List.Perm.cons _<|(((pS _ _).append<|pD _ _).append<|pB _ _ _).append_right _
def pI (s)(i):(aw<|g7 s i).Perm<|List.range' i<|nI<|bj s:=by
 match s with
 |none=>exact .refl _
 |some (true,_)=>exact .refl _
 |some (false,_)=>exact .refl _
def pO (o)(i):(aw<|qV o i).Perm<|List.range' i<|nI<|fS o:=by
 match o with
 |none=>exact .refl _
 |some p=>exact pP p i
def Ng (M):nI (aP M)=nI (bj M.i)+nI (aQ M.d)+nI (fS M.p)+1+nI (dw M.v):=by have n1:nI o7=0:=rfl;have n:nI (DU M.x)=1:=rfl;have a:nI EM=0:=rfl;rw[aP,ah,ah,ah,ah,ah,ah,n1,n,a];exact oN 0xc2d1040c6318068c2d104006b18c63194 tq
def pM (M):(aw<|ky M).Perm<|List.range' 0<|nI<|aP M:=by
 have e:aw (ky M)=aw (g7 M.i 0)++aw (cM M.d<|nI<|bj M.i)++aw (qV M.p<|nI (bj M.i)+nI (aQ M.d))++(nI (bj M.i)+nI (aQ M.d)+nI (fS M.p))::aw (kD M.v<|nI (bj M.i)+nI (aQ M.d)+nI (fS M.p)+1):=by simp[ky,cb,cg,b6,cf,cm,cp,b7,cn]
 have h:nI (aP M)=nI (bj M.i)+nI (aQ M.d)+nI (fS M.p)+(nI (dw M.v)+1):=by rw[Ng];exact oN 0x168d820818c60c2d1040c63194 tq
 simp only[e,h,<- fN,<- fN,<- fN,<- lW,Yx,Yx,Yx];exact(((pI _ _).append<|pD _ _).append<|pO _ _).append<|List.Perm.cons _<|pV _ _
section
def Bo:∀{S:PS},(∀e∈a,∀i,e≠.w i)->S.l=[]->(S.run m a).l=[]:=by
 induction a with
 |nil=>intro S _ h;exact h
 |cons e r l=>
  intro S b h;rw[ez];refine l (λq g=>b q<|.tail _ g) ?_;cases e with
  |w i=>exact Xw rfl (b _ (.head _) i)
  |u i=>exact h
  |d i k=>
   simp only[PS.step];split
   ·split<;> exact h
   ·exact h
  |r=>rfl
  |o=>exact h
  |c=>exact h
  |f i j=>exact h
def MD {S:PS}(h:S.l=[]):(S.run w<|cM D i).l=[]:=by
 have b:(S.run w<|ui D.c i).l=[]:=by
  refine Bo ?_ h
  match D.c with
  |none=>intro e a;cases a
  |some none=>intro e a;cases a
  |some (some (x,v))=>intro e a j z;subst z;cases v<;> simp[ui,Oq,Ol,Nd,NW]at a
 have c:((S.run w<|ui D.c i).run w<|AE D.t<|i+nI (r8 D.c)).l=[]:=by
  match D.t with
  |none=>exact b
  |some none=>rfl
  |some (some (x,K))=>rw[kd,ax];rfl
 simp only[cM,ax,ax]
 match D.v with
 |none=>exact c
 |some none=>rfl
 |some (some (x,K))=>rw[lH,ax];rfl
def Vq:PW Yz:=⟨by decide,λj h=>by cases h⟩
def lD (M:Md):PW ((Yz.run wd<|g7 M.i 0).run wd<|cM M.d<|nI<|bj M.i)/\((Yz.run wd<|g7 M.i 0).run wd<|cM M.d<|nI<|bj M.i).f.map (·.1)=aw (g7 M.i 0)++aw (cM M.d<|nI<|bj M.i)/\((Yz.run wd<|g7 M.i 0).run wd<|cM M.d<|nI<|bj M.i).l=[]:=by
 refine XG (λa b=>XG (λc f=>⟨c,by refine aa f<|aa b ?_;rfl,MD<|Bo ?_ rfl⟩)<|lM (wd:=wd) a<|M0 M.d<|nI<|bj M.i) (lM (wd:=wd) Vq<|UX M.i 0)
 match M.i with
 |none=>intro e h;cases h
 |some (true,_)=>intro e h;simp[qq,qf,qi]at h;subst h;intro i z;cases z
 |some (false,_)=>intro e h;simp[qq,qf,qi]at h;subst h;intro i z;cases z
def lR {l:List Nat}(h:l.Perm<|List.range' i n):∀x∈l,i<=x/\x<i+n:=λx a=>by have:=h.mem_iff.1 a;rw[ZA]at this;exact this
def ni {S:PS}{p:Pr}{i:Nat}(h:PW S)(w:∀x∈S.f.map (·.1),x<i)(y:S.l=[]):
  cB i (S.run wd<|rt p i).f=(S.b.length:Int)/\PW (S.run wd<|jv p i)/\(S.run wd<|jv p i).f.map (·.1)=S.f.map (·.1)++aw (jv p i):=by
 refine cps λC A=>?_;obtain⟨s,ss,l⟩:∃s ss,S.a=s::ss:=by
  cases q:S.a with
  |nil=>exact Xw q h.ne
  |cons s ss=>exact⟨s,ss,rfl⟩
 have m:(S.step wd<|.d i a9).f=S.f++[(i,(S.b.length:Int))]:=by simp only[PS.step,l];split<;>rfl
 have f:(S.step wd<|.d i a9).l=S.l:=by simp only[PS.step,l];split<;>rfl
 refine XG (λn o=>?_) (jE (wd:=wd) (e:=.d i a9) h (by simp)<|by simp);have r:PW<|(S.step wd<|.d i a9).step wd .o:=⟨by simp[PS.step],n.lt⟩;have d:cP (rn p.p (i+1)++cM p.d (i+1+nI (cu p.p))++qH p.v1 p.v2 (i+1+nI (cu p.p)+nI (aQ p.d)))=true:=by simp only[cC,R7,M0,R2];rfl
 refine XG (λc a=>?_)<|lM (wd:=wd) r d;have b:=BD (wd:=wd) (S:=(S.step wd<|.d i a9).step wd .o) d;have k:S.run wd (rt p i)=((S.step wd<|.d i a9).step wd .o).run wd (rn p.p (i+1)++cM p.d (i+1+nI (cu p.p))++qH p.v1 p.v2 (i+1+nI (cu p.p)+nI (aQ p.d))):=rfl;rw[<- k]at c a b;refine XG (λf1 f2=>?_) (jE (wd:=wd) (e:=.f (i+1+nI (cu p.p)+nI (aQ p.d)+nB p.v1 p.v2) i) c (by simp)<|by simp);have e:S.run wd (jv p i)=((S.run wd<|rt p i).step wd<|.f (i+1+nI (cu p.p)+nI (aQ p.d)+nB p.v1 p.v2) i).step wd .c:=by have:jv p i=rt p i++[.f (i+1+nI (cu p.p)+nI (aQ p.d)+nB p.v1 p.v2) i,.c]:=rfl;rw[this,ax];rfl
 have g:(S.run wd<|jv p i).a.length=S.a.length:=by
  refine aa e ?_;have h1:(S.run wd<|rt p i).a.length=S.a.length+1:=by refine aa b ?_;show(([]:Sc)::(S.step wd<|.d i a9).a).length=_;exact aa aE<|aa (tB (by simp)<|by simp) rfl
  show(S.run wd<|rt p i).a.tail.length=_;refine aa List.length_tail<|aa h1 ?_;rfl
 refine A<|⟨?_,⟨?_,?_⟩,?_⟩
 ·obtain⟨t,B,D⟩:=Fy (wd:=wd) (P:=S.f.length+1) (rn p.p (i+1)++cM p.d (i+1+nI (cu p.p))++qH p.v1 p.v2 (i+1+nI (cu p.p)+nI (aQ p.d))) (S:=(S.step wd<|.d i a9).step wd .o)
   (by intro j v;have:j∈(S.step wd<|.d i a9).l:=v;rw[f,y]at this;cases this)
   (by show _<=(S.step wd<|.d i a9).f.length;refine aa m ?_;simp)
  rw[<- k]at t;have u:((S.step wd<|.d i a9).step wd .o).f.take (S.f.length+1)=S.f++[(i,(S.b.length:Int))]:=by show(S.step wd<|.d i a9).f.take _=_;exact aa m<|aa (ZC<|by simp) rfl
  rw[u]at t;refine aa (C3 t<|by simp)<|EU ?_;intro z;have:=w i z;exact vH this
 ·rw[vY,g,<- vY];exact h.ne
 ·refine aa e ?_;exact f1.lt
 ·refine aa e ?_
  show((S.run wd<|rt p i).step wd<|.f (i+1+nI (cu p.p)+nI (aQ p.d)+nB p.v1 p.v2) i).f.map (·.1)=_;refine aa f2<|aa a ?_;show(S.step wd<|.d i a9).f.map (·.1)++_++_=_;refine aa o ?_;simp only[jv,cb,cg,b6,cf,cm,cp,b7,cn,cQ,X1,bE,dA,Ys]
def Cf (M:Md):∀x∈((Yz.run wd<|g7 M.i 0).run wd<|cM M.d<|nI<|bj M.i).f.map (·.1),x<nI (bj M.i)+nI (aQ M.d):=by
 intro x h;rw[(lD (wd:=wd) M).2.1]at h;rcases YE.1 h with z|z
 ·have:=(lR<|pI _ _) x z;exact ba 0x82c04c206b0019800d04b1b tq this
 ·have:=(lR<|pD _ _) x z;exact ba 0x20b013105800cc0104b1b tq this
def Ky (M):PW (Yz.run wd<|ky M)/\(Yz.run wd<|ky M).f.map (·.1)=aw (ky M):=by
 refine cps λC k=>bU (lD (wd:=wd) M) λa b c=>?_;have l:=Cf (wd:=wd) M;have h:PW (((Yz.run wd<|g7 M.i 0).run wd<|cM M.d<|nI<|bj M.i).run wd<|qV M.p<|nI (bj M.i)+nI (aQ M.d))/\
   (((Yz.run wd<|g7 M.i 0).run wd<|cM M.d<|nI<|bj M.i).run wd<|qV M.p<|nI (bj M.i)+nI (aQ M.d)).f.map (·.1)=(aw (g7 M.i 0)++aw (cM M.d<|nI<|bj M.i))++aw (qV M.p<|nI (bj M.i)+nI (aQ M.d)):=by
  match M.p with
  |none=>exact⟨a,by simp[qV,cb,cg,b6,cf,cm,cp,b7,cn,b]⟩
  |some p=>exact bU (ni (wd:=wd) (p:=p) a l c) λx y z=>⟨y,by rw[qV,z,b]⟩
 refine XG (λx y=>?_) (lM (wd:=wd) (es:=.u (nI (bj M.i)+nI (aQ M.d)+nI (fS M.p))::kD M.v (nI (bj M.i)+nI (aQ M.d)+nI (fS M.p)+1)) h.1<|by simp only[ey,et,eC,dW,eD,eA,eq,ei,Nn]);have e:Yz.run wd (ky M)=(((Yz.run wd<|g7 M.i 0).run wd<|cM M.d<|nI<|bj M.i).run wd<|qV M.p<|nI (bj M.i)+nI (aQ M.d)).run wd (.u (nI (bj M.i)+nI (aQ M.d)+nI (fS M.p))::kD M.v (nI (bj M.i)+nI (aQ M.d)+nI (fS M.p)+1)):=by simp only[ky,ax,ax,ax]
 exact k<|aa e<|⟨x,by rw[y,h.2,ky,cQ,cQ,cQ]⟩
def VK (M:Md):∀p,M.p=some p->cB (nI (bj M.i)+nI (aQ M.d)) (((Yz.run wd<|g7 M.i 0).run wd<|cM M.d<|nI<|bj M.i).run wd<|rt p<|nI (bj M.i)+nI (aQ M.d)).f=(((Yz.run wd<|g7 M.i 0).run wd<|cM M.d<|nI<|bj M.i).b.length:Int)/\
   (((Yz.run wd<|g7 M.i 0).run wd<|cM M.d<|nI<|bj M.i).run wd<|jv p<|nI (bj M.i)+nI (aQ M.d)).a≠[]:=λp _=>by
 exact bU (lD (wd:=wd) M) λa b c=>bU (ni (wd:=wd) (p:=p) a (Cf (wd:=wd) M) c) λx y z=>⟨x,y.ne⟩
end
noncomputable def Ay:List Nm:=[[66,79,79,76,69,65,78],[67,72,65,82],[66,89,84,69],[73,78,84,69,71,69,82],[83,69,84],[84,82,85,69],[70,65,76,83,69]]
noncomputable def Kl:List Nm:=[[65,66,83],[79,68,68],[76,69,78],[76,83,76],[65,83,82],[82,79,82],[79,82,68],[67,72,82],[73,78,67],[68,69,67],[73,78,67,76],[69,88,67,76],[78,69,87],[65,83,83,69,82,84]]
def nA (L:List Nm)(s:Sc):Sc:=L.foldl (λs x=>putN x (-1) s) s
def Vb (c:Cl):V->Lo->Hp->Option (Fl×Hp):=λv l H=>XU c a4 (l.set 1<|some v) H [.t (.v 0) (.v 1)<|.i<|-1]
def Ce (a:∀H,ok H=true)(L:List Nm):∀(s:Sc) (o:Option V),s.length+L.length<=900->
  ∃b,aM (Vb cl) ok (L.map V.s) [xR base.length,o] (base++[.dS<|cv s])=some (.n [xR base.length,b],base++[.dS<|cv<|nA L s]):=by
 induction L with
 |nil=>intro s o h;exact⟨o,bu<|a _⟩
 |cons x L i=>
  intro s o h;have c:setItem (base++[.dS<|cv s]) (.r base.length) (.s x) (.i<|-1)=some (base++[.dS<|cv<|putN x (-1) s]):=by simp only[setItem,bg,pf,mS];rw[Xr<|by simp[cv];exact aK 0x1f43812e11c1685806065b tq h,og,xt]
  have:=ow x (-1) s;obtain⟨b,i⟩:=i (putN x (-1) s) (xS x)<|ba 0x708e08192e11c1685826065b0b44c0065b tq this h;exact⟨b,(aa af<|aa (aS (a _) (l':=[xR base.length,xS x]) (H':=base++[.dS<|cv<|putN x (-1) s])<|by simp[Vb,c]) i)⟩
def Il (h:ai c l src H=some (.t vs,H1)):
  bw c e l H (.g i src b)=aM (λv d a=>XU c e (d.set i<|some v) a b) (jt none vs) vs l H1:=by
 exact rQ.trans<|bI h
def WA:ae (d+1) 15 [] H=some (.v<|.t<|[[65,66,83],[79,68,68],[76,69,78],[76,83,76],[65,83,82],[82,79,82],[79,82,68],[67,72,82]].map V.s,H):=by exact sw (f:=kr) rfl rfl λj=>j
def Wj:ae (d+1) 16 [] H=some (.v<|.t<|[[73,78,67],[68,69,67],[73,78,67,76],[69,88,67,76],[78,69,87],[65,83,83,69,82,84]].map V.s,H):=by exact sw (f:=jo) rfl rfl λj=>j
theorem SD:nA Kl (nA Ay [])=iS:=rfl
def VY {d:Nat}{H:Hp}:ae (d+2) 17 [] H=some (.v<|.r H.length,H++[.dS<|cv iS]):=by
 refine Xq (Ce (cl:=ae<|d+1) (base:=H) (ok:=jt none<|Ay.map V.s) (λ_=>rfl) Ay [] none<|nl rfl) λo h1=>Xq (Ce (cl:=ae<|d+1) (base:=H) (ok:=jt none<|Kl.map V.s) (λ_=>rfl) Kl (nA Ay []) o<|nl rfl) λb h=>?_;have l:bw (ae<|d+1) a4 [xR H.length,none] (H++[.dS []]) iW=some (.n [xR H.length,o],H++[.dS<|cv<|nA Ay []]):=by exact h1
 refine aa (aU (f:=iH) rfl rfl) ?_;have a:bw (ae<|d+1) a4 [xR H.length,o] (H++[.dS<|cv<|nA Ay []]) eZ=some (.n [xR H.length,b],H++[.dS<|cv iS]):=by unfold eZ;refine aa (Il (vs:=Kl.map V.s) (H1:=H++[.dS<|cv<|nA Ay []])<|by exact hG λj=>j _ _ WA _ _ Wj _ rfl) ?_;exact h
 simp[iH,l,a]
def nK (h:DD c f=true):By (H++.i c fs::X) H.length f v=some (H++.i c (oY f v fs)::X):=by simp[By,h]
def Pi:ae (d+3) 1002 [.r H.length,.r I] (H++[.i 2 []])=some (.v .n,H++[y2 H.length I 0,.dS<|cv iS,.l [.r<|H.length+1],.l [],.l [],.l [],.l []]):=by refine aa (aU (f:=fM) rfl rfl) ?_;simp[fM,(λX=>VY:∀X:Hp,ae (d+2) 17 [] (H++X)=some (.v<|.r (H++X).length,(H++X)++[.dS<|cv iS])),(λX f v=>nK (H:=H) (X:=X) (c:=2) (f:=5) (fs:=f) (v:=v) rfl),(λX f v=>nK (H:=H) (X:=X) (c:=2) (f:=6) (fs:=f) (v:=v) rfl),(λX f v=>nK (H:=H) (X:=X) (c:=2) (f:=7) (fs:=f) (v:=v) rfl),(λX f v=>nK (H:=H) (X:=X) (c:=2) (f:=8) (fs:=f) (v:=v) rfl),(λX f v=>nK (H:=H) (X:=X) (c:=2) (f:=9) (fs:=f) (v:=v) rfl),(λX f v=>nK (H:=H) (X:=X) (c:=2) (f:=10) (fs:=f) (v:=v) rfl),(λX f v=>nK (H:=H) (X:=X) (c:=2) (f:=11) (fs:=f) (v:=v) rfl),xc,rJ,y2]
def Al (n:Nat)(H:Hp):List V->List Tok->Prop:=A2 λv t=>∃r,v=.r r/\r<n/\H[r]?=some (vF t.k t.t t.p)
def Al.len {n:Nat}{H:Hp}{v:List V}{t:List Tok}:Al n H v t->v.length=t.length:=A2.len
def Al.get {n:Nat}{H:Hp}{b:List V}:∀{a:List Tok},Al n H b a->∀(j:Nat) (t:Tok),a[j]?=some t->∃r:Nat,r<n/\b[j]?=xR r/\H[r]?=some (vF t.k t.t t.p):=by
 induction b with
 |nil=>intro a h j t e;cases a with |nil=>exact cE e nt|cons=>exact h.elim
 |cons v b i=>
  intro a h j t e;cases a with |nil=>exact h.elim|cons u a=>cases j with
   |zero=>refine aj h.1 λr c h1 d=>?_;subst c;cases e;exact⟨r,h1,rfl,d⟩
   |succ j=>exact i h.2 j t e
def Al.mono {n b:Nat}{H a:Hp}(f:n<=b)(d:∀i,i<n->a[i]?=H[i]?){v:List V}{ts:List Tok}:Al n H v ts->Al b a v ts:=
 A2.mono λh=>aj h λr e h1 c=>⟨r,e,ba 0x104c220cb620067b tq h1 f,(d r h1).trans c⟩
def Al.b {n:Nat}{H:Hp}{a:List V}{t:List Tok}:Al n H a t->∀v∈a,∃r k,v=.r r/\bf H r 0=xS k:=
 A2.mem λh=>aj h λr e _ b=>⟨r,_,e,eh b 0⟩
def Al.solid {n:Nat}{H:Hp}{b:List V}{a:List Tok}(h:Al n H b a):Al n H (b.filter λv=>cq<|lg H v) (a.filter λt=>cq t.k):=
 A2.ind (M:=λb a=>Al n H (b.filter λv=>cq<|lg H v)<|a.filter λt=>cq t.k) trivial (λ{_ t _ _} h i=>aj h λr e h1 c=>by
  subst e;simp only[filter_cons,(show lg H (.r r)=t.k from Xs (λo:Option V=>match o with |some (.s k)=>k|_=>[]) (eh c 0:_=xS t.k))];cases cq t.k with
  |true=>exact⟨⟨r,rfl,h1,c⟩,i⟩
  |false=>exact i) h
def D3 {x:Nat->Nm}{pl:Nat->Int}(I:∀i,x i∈cK){M:Md}{d A:Nat}{H:Hp}{U:List V}{T:List Tok}(hA:H[A]?=some (.l U))(z:Al H.length H U T)(hT:T.length<=100000)
  (hM:y3 x pl (AM M)<|T.filter λt=>cq t.k) (hd:18+3*D4 M.d+3*Og M.p<=d) (hm:Oo M<880) {Cx:Prop} (kC:∀n k W,ae d 45 [.r A] H=some (.v<|.r n,k)->(Rp n (H.length) (T.filter λt=>cq t.k) k W)->jw x pl W (Yz.run x<|ky M)->H.length<n->(∀i,i<H.length->k[i]?=H[i]?)->Cx):Cx:=by
 obtain⟨d,rfl⟩:∃d',d=d'+1:=⟨d-1,(Ym<|by exact ba 0x105b21046d7806d7c9ac6065b tq hd).symm⟩;have hl:=z.len;have S:=V5 (d:=d-1) hA (KV hl hT) z.b;rw[(Ym (ba 0x82d905a26046d7806d7c9ac6065b tq hd):d-1+1=d)]at S;have c:=z.solid;have f:=c.len;generalize hvs:U.filter (λv=>cq<|lg H v)=ws at S c f;generalize C:T.filter (λt=>cq t.k)=ts at c f hM kC;have p:=Pi (d:=d-3) (I:=H.length) (H:=H++[.l ws]);rw[(Ym (ba 0x86d905a26046d7806d7c9ac6065b tq hd):d-3+3=d)]at p;have e:Al (H.length+1) ((H++[AO.l ws])++[y2 (H++[AO.l ws]).length H.length 0,.dS<|cv iS,.l [.r<|(H++[AO.l ws]).length+1],.l [],.l [],.l [],.l []]) ws ts:=
  c.mono (Xz _ _) (λi m=>by rw[X1,Yu m])
 have q:(H++[AO.l ws]).length=H.length+1:=Xx;rw[q]at p e;have g:∀j,(H++[AO.l ws]++[y2 (H.length+1) H.length 0,.dS<|cv iS,.l [.r<|H.length+1+1],.l [],.l [],.l [],.l []])[H.length+1+j]?=[y2 (H.length+1) H.length 0,.dS<|cv iS,.l [.r<|H.length+1+1],.l [],.l [],.l [],.l []][j]?:=λj=>by refine aa (Zy<|by rw[q];exact aK 0x42d0318168192 tq)<|aa q ?_;congr 1;exact add_sub_cancel_left ..
 have adm:(H++[AO.l ws]++[y2 (H.length+1) H.length 0,.dS<|cv iS,.l [.r<|H.length+1+1],.l [],.l [],.l [],.l []])[H.length]?=some (.l ws):=by rw[Yu<|by refine aa q ?_;exact bC 0x2d03013 tq];simp
 have Y:H.length+1+7<=(H++[AO.l ws]++[y2 (H.length+1) H.length 0,.dS<|cv iS,.l [.r<|H.length+1+1],.l [],.l [],.l [],.l []]).length:=by simp
 have gl:∀i,i<H.length->(H++[AO.l ws]++[y2 (H.length+1) H.length 0,.dS<|cv iS,.l [.r<|H.length+1+1],.l [],.l [],.l [],.l []])[i]?=H[i]?:=λi m=>by rw[X1,Yu m]
 generalize(H++[AO.l ws]++[y2 (H.length+1) H.length 0,.dS<|cv iS,.l [.r<|H.length+1+1],.l [],.l [],.l [],.l []])=H2 at p e g adm gl Y;have X:bD (H.length+1) H.length ts H2 ⟨ts,[],[iS],[],[],[],[],0⟩ [H.length+1+1] []:={
  y:=XC _
  Q:=⟨ws,adm,f,e.get⟩
  P:=(C▸XJ (List.length_filter_le _ _) hT:ts.length<=100000)
  O:=⟨[],rfl,g 0,λp' t h=>by cases p'<;> exact UC h nt⟩
  d:=g 2
  g:=g 3
  hf:=g 4
  hd:=g 5
  hw:=g 6
  J:=rfl
  u:=λj r s a b=>by
   cases j with
   |zero=>simp at a b;subst a;subst b;exact g 1
   |succ j=>simp at a
  sn:=by simp
  M:=λr h=>by simp at h;exact .inl h
  D:=rfl
  fd:=λj r o a b=>by simp at a
  fn:=by trivial
  w:=λr h=>by cases h
  L:=λr h=>by cases h
  E:=X4 _
  F:=X4 _
  G:=X4 _
  A:=X4 _
  B:=nl rfl
  N:=λs h=>by simp at h;subst h;show iS.length<=30;decide
  R:=nl rfl
  l:=Y}
 refine iv (EG I (d:=d) (M:=M) ⟨_,_,X⟩ rfl hM (ba 0x208daf00daf8358c905a26046d7806d7c9ac6065b tq hd) hm (VK M)) λk W m1 m2 m3 m4=>kC (H.length+1) k W (aa (aU (f:=sf) rfl rfl) ?_) m2 m3 (bC 0x2d03013 tq) λi m=>(m4.lo i<|lt_succ_of_lt ‹_›).trans<|gl i m;simp at p;simp[sf,S,p,(X.Ye:Ye H2 (H.length+1)=true),m1]
def D8:PT->Bool
 | .m _=>true
 | .f k t=>if k=eJ then decide (t≠[])&&t.all (λc=>decide (c<=32))
  else if k=no then decide (t=uo)
  else if k=oJ then decide (t=[49])
  else if k=ak then decide (t=[58,61])||(match t with | [c]=>Pc.contains c|_=>false)
  else match t with
   |c::r=>dv c&&(c::r).all xw&&(if El.contains (c::r)then decide (k=ac)else decide (k=Xy))
   | []=>false
def P4:Option PT->Bool
 |none=>true
 |some (.m _)=>false
 |some (.f _ t)=>!h1 xw t
theorem EC:P4 none=true:=rfl
theorem Iz{i}:P4 (some<|PT.m i)=false:=rfl
theorem GY{k t}:P4 (some<|PT.f k t)=!h1 xw t:=rfl
def SF:Option PT->Bool
 |none=>false
 |some (.m _)=>false
 |some (.f _ t)=>h1 (λc=>decide (c=32\/c=58)) t
theorem Nc:SF none=false:=rfl
theorem NZ{i}:SF (some<|PT.m i)=false:=rfl
theorem Ox{k t}:SF (some<|PT.f k t)=h1 (λc=>decide (c=32\/c=58)) t:=rfl
def Wk (t:List Nat):Option PT->Bool
 |none=>true
 |some (.m _)=>true
 |some (.f _ u)=>!Ah.contains (t++u.take 1)&&decide (t++u.take 1≠[40,42])
def O2:PT->Option PT->Bool
 | .m _,nx=>P4 nx
 | .f k t,nx=>if k=eJ\/k=no then true else if k=oJ then SF nx else if k=ak then(decide (t=[58,61])||Wk t nx)else P4 nx
def rh:List PT->Option PT->Bool
 | [],_=>true
 |x::r,nx=>D8 x&&O2 x (r.head?<|>nx)&&rh r nx
theorem iQ{z}:rh [] z=true:=rfl
theorem iD{z a r}:rh (a::r) z=(D8 a&&O2 a (r.head?<|>z)&&rh r z):=rfl
def Jn (A:List PT):∀(B:List PT) (nx:Option PT),rh (A++B) nx=(rh A (B.head?<|>nx)&&rh B nx):=by
 induction A with
 |nil=>intro B nx;simp[iQ]
 |cons x A i=>intro B nx;simp only[bE,iD,i];simp only[(by clear i;cases A<;>rfl:((A++B).head?<|>nx)=(A.head?<|>(B.head?<|>nx))),Bool.and_assoc]
section
variable(wd:Nat->Nm)
def pk:PT->List Nat×List Nat
 | .f k t=>(k,t)
 | .m i=>(Xy,wd i)
noncomputable def um:List PT->List Nat
 | []=>[]
 |x::r=>nh wd x++um r
theorem ej{wd}:um wd []=[]:=rfl
theorem ec{wd z r}:um wd (z::r)=nh wd z++um wd r:=rfl
end
def IH:PT->Bool
 | .f k _=>decide (k=eJ)
 | .m _=>false
def y7:List PT->List PT
 | []=>[]
 | .m i::r=>.m i::y7 r
 | .f k t::r=>if k=eJ then(match y7 r with
   | .f b c::a=>if b=eJ then .f eJ (t++c)::a else .f k t::.f b c::a
   |a=>.f k t::a)else .f k t::y7 r
theorem lJ:y7 []=[]:=rfl
theorem jF{i r}:y7 (PT.m i::r)=PT.m i::y7 r:=rfl
theorem lk{k t r}:y7 (PT.f k t::r)=
 if k=eJ then
  match y7 r with
  |PT.f b c::a=>if b=eJ then PT.f eJ (t++c)::a else PT.f k t::PT.f b c::a
  |a=>PT.f k t::a
 else PT.f k t::y7 r:=rfl
section
variable{wd:Nat->Nm}
@[simp]theorem W3(x:PT):(pk wd x).2=nh wd x:=by cases x<;>rfl
theorem mq:∀L:List PT,zY ((y7 L).map<|pk wd)=um wd L
 | []=>rfl
 | .m i::r=>by simp[jF,ec,mq r]
 | .f k t::r=>by
  have a:=mq r;simp only[lJ,jF,lk,ej,ec,<- a];split
  ·split
   ·rename_i h
    split
    ·rename_i b;rw[h];simp[pk,nh]
    ·rw[h];simp[pk,nh]
   ·simp[pk,nh]
  ·simp[pk,nh]
def Gh (x:PT)(r:List PT):∃y a,y7 (x::r)=y::a/\IH y=IH x:=by
 cases x with
 |m i=>exact⟨_,_,rfl,rfl⟩
 |f k t=>
  simp only[lJ,jF,lk];split
  ·rename_i h
   split
   ·split
    ·exact⟨_,_,rfl,by simp[IH,h]⟩
    ·exact⟨_,_,rfl,rfl⟩
   ·exact⟨_,_,rfl,rfl⟩
  ·exact⟨_,_,rfl,rfl⟩
def Jq {t p k:List Nat}(h:jc t p k):k=eJ->∃c d,t=c::d/\(∀x∈c::d,x<=32)/\h1 (λc=>decide (c<=32)) p=false:=by
 cases h with
 |gap a b=>exactλ_=>⟨_,_,rfl,a,b⟩
 |rem=>intro e;exact Xw e (by decide)
 |word a b c=>intro e;exfalso;revert e;split<;>decide
 |num _=>intro e;exact Xw e (by decide)
 |abt=>intro e;exact Xw e (by decide)
 |aa1 _ _ _=>intro e;exact Xw e (by decide)
def u7:∀x∈cK,∃c t,x=c::t/\dv c=true/\(∀y∈c::t,xw y=true)/\El.contains (c::t)=false:=by intro x h;simp only[cK,XE,XY,or_false]at h;rcases h with rfl|rfl|rfl|rfl|rfl|rfl|rfl<;> exact⟨_,_,rfl,by decide,by decide,by decide⟩
def A3 {c:Nat}(h:xw c=true):¬c<=32/\c≠61/\c≠46/\c≠42:=
 (by decide+kernel:∀c,c<128->xw c=true->¬c<=32/\c≠61/\c≠46/\c≠42) c (AX h) h
def vK {c:Nat}(h:dv c=true):xw c=true:=by simp[xw,h]
def RD:∀c∈Pc,¬c<=32:=by decide
def xT (b:∀i,wd i∈cK){x:PT}(h:D8 x=true)(a:IH x=false):h1 (λc=>decide (c<=32)) (nh wd x)=false/\nh wd x≠[]:=by
 cases x with
 |m i=>refine cps λC g=>iv (u7 _<|b i) λc t e h1 j l=>g ?_;simp only[nh,e,Mine.h1];refine⟨?_,by simp⟩;have:=(A3<|vK h1).1;simpa using this
 |f k t=>
  have d:k≠eJ:=by simpa [IH]using a
  simp only[D8,Xu d]at h;simp only[nh];split at h
  ·have:t=uo:=by simpa using h
   clear h a;subst this;exact⟨by decide,by decide⟩
  ·split at h
   ·have:t=[49]:=by simpa using h
    clear h a;subst this;exact⟨by decide,by decide⟩
   ·split at h
    ·rw[YO]at h
     rcases h with h|h
     ·have:t=[58,61]:=by simpa using h
      clear h a;subst this;exact⟨by decide,by decide⟩
     ·split at h
      ·rename_i c
       have:=RD c<|aag.mp h;exact⟨by simpa [Mine.h1]using this,by simp⟩
      ·exact eI h nt
    ·split at h
     ·rename_i c r
      simp only[Xv]at h;have:=(A3<|vK h.1.1).1;exact⟨by simpa [Mine.h1]using this,by simp⟩
     ·exact eI h nt
def v9 (a:∀i,wd i∈cK){x:PT}(h:D8 x=true):nh wd x≠[]:=by
 refine cps λC b=>?_;cases hg:IH x with
 |false=>refine b ?_;exact(xT a h hg).2
 |true=>
  cases x with
  |m i=>exact eI hg nt
  |f k t=>
   have c:k=eJ:=by simpa [IH]using hg
   simp only[D8,Xr c,Xv,X5]at h;exact b h.1
def AW {q:Nat->Bool}{a b:List Nat}(h:a≠[]):h1 q (a++b)=h1 q a:=by
 cases a with
 |nil=>exact Xw rfl h
 |cons c r=>rfl
def lO {a b:List Nat}(h:a≠[]):(a++b).take 1=a.take 1:=by
 cases a with
 |nil=>exact Xw rfl h
 |cons c r=>rfl
def SZ (a:∀i,wd i∈cK){L:List PT}:rh L none=true->ld ((y7 L).map<|pk wd):=by
 induction L with
 |nil=>intro _;exact .nil
 |cons pr r b=>cases pr with
  |m i=>
   intro h;simp only[iQ,iD,Xv]at h;have b:=b h.2;obtain⟨c,t,e,J,S,T⟩:=u7 _<|a i;refine .cons ?_ b;rw[mq];refine aa e ?_;have:Xy=if El.contains (c::t)then ac else Xy:=by rw[T];rfl
   rw[this];refine .word J S ?_;cases r with
   |nil=>rfl
   |cons y r=>
    have v:D8 y=true:=by have:=h.2;simp only[iQ,iD,Xv]at this;exact this.1.1
    simp only[ej,ec];refine aa (AW<|v9 a v) ?_;have Q:=h.1.2;clear h;cases y with
    |m j=>exact eI Q nt
    |f k s=>simpa [O2,EC,Iz,GY,nh]using Q
  |f k t=>
   intro h;simp only[iQ,iD,Xv]at h;have b:=b h.2;obtain⟨⟨o,l⟩,G⟩:=h;by_cases A:k=eJ
   ·subst A
    simp only[D8,if_true,Xv,X5,YB]at o;obtain⟨c,t,rfl⟩:∃c t',t=c::t':=by
     cases t with
     |nil=>exact Xw rfl o.1
     |cons c t'=>exact⟨c,t',rfl⟩
    simp only[lJ,jF,lk,if_true];cases r with
    |nil=>exact .cons (.gap (o.2) rfl) .nil
    |cons y r=>
     have v:D8 y=true:=by have:=G;simp only[iQ,iD,Xv]at this;exact this.1.1
     have P:=mq (wd:=wd)<|y::r;obtain⟨z,O,e,d⟩:=Gh y r;rw[e]at b P⊢;cases hgy:IH y with
     |true=>
      rw[hgy]at d;have d:=d;cases z with
      |m j=>exact eI d nt
      |f g t'=>
       have E:g=eJ:=by simpa [IH]using d
       subst E;simp only[if_true,af,pk]at b⊢;have b:=b;refine cps λC M=>?_;cases b with
       |cons h1 u=>
        clear hgy a;obtain⟨n,t2,rfl,U,W⟩:=Jq h1 rfl;refine M<|.cons (.gap ?_ W) u;intro x Y;have I:x∈(c::t)++(n::t2):=Y;rcases YE.1 I with q|q
        ·exact o.2 x q
        ·exact U x q
     |false=>
      rw[hgy]at d;have R:h1 (λc=>decide (c<=32)) (zY<|(z::O).map<|pk wd)=false:=by rw[P];obtain⟨u1,u2⟩:=xT a v hgy;simp only[ej,ec];rw[AW u2];exact u1
      cases z with
      |m j=>exact .cons (.gap o.2 R) b
      |f g t'=>
       have E:g≠eJ:=by simpa [IH]using d
       simp only[Xu E];exact .cons (.gap o.2 R) b
   ·simp only[lJ,jF,lk,Xu A]
    refine .cons ?_ b;rw[mq];show jc t _ k;simp only[D8,Xu A]at o;by_cases u:k=no
    ·subst u
     have:t=uo:=by simpa using o
     clear o;subst this;exact .rem
    simp only[Xu u]at o;by_cases B:k=oJ
    ·subst B
     have:t=[49]:=by simpa using o
     clear o;subst this;have p:¬(oJ=eJ\/oJ=no):=by decide
     simp[O2,Xu p,if_true]at l;refine cps λC M=>?_;cases r with
     |nil=>exact eI l nt
     |cons y r=>
      cases y with
      |m j=>exact eI l nt
      |f g t'=>
       cases t' with
       |nil=>exact eI l nt
       |cons c O=>refine M ?_;exact .num (by simpa [Nc,NZ,Ox,h1]using l)
    simp only[Xu B]at o;by_cases D:k=ak
    ·subst D
     simp only[if_true,YO]at o;by_cases H:t=[58,61]
     ·subst H;exact .abt
     rcases o with o|o
     ·exact Xw (by simpa using o) H
     ·split at o
      ·rename_i c
       have p:¬(ak=eJ\/ak=no):=by decide
       have X:¬(ak=oJ):=by decide
       simp only[O2,Xu p,Xu X,if_true,Yt H,Bool.false_or]at l;cases r with
       |nil=>exact .aa1 o (by simp[ej,ec,Ah]) (by simp[ej,ec])
       |cons y r=>
        have w:=v9 a (by have:=G;simp only[iQ,iD,Xv]at this;exact this.1.1);simp only[ej,ec];cases y with
        |m j=>
         obtain⟨n,t',e,J,S,T⟩:=u7 _<|a j;have:=A3<|vK J;refine .aa1 o ?_ ?_
         ·refine aa (lO w) ?_
          simp only[nh,e,take_succ_cons,take_zero];simp[Ah,this]
         ·refine aa (lO w) ?_
          simp only[nh,e,take_succ_cons,take_zero];simp[this]
        |f g t'=>
         cases t' with
         |nil=>exact Xw rfl w
         |cons n O=>
          have N:(!Ah.contains [c,n]&&decide ([c,n]≠[40,42]))=true:=l;simp only[Xv,Y1,X5]at N;refine .aa1 o ?_ ?_
          ·refine aa (lO w) ?_;simpa [nh]using N.1
          ·refine aa (lO w) ?_;simpa [nh]using N.2
      ·exact eI o nt
    simp only[Xu D]at o;split at o
    ·rename_i c t'
     simp only[Xv,YB]at o;have o:=o;have F:k=if El.contains (c::t')then ac else Xy:=by
      have:=o.2;split at this
      ·rename_i q;refine aa (Xr q) ?_;simpa using this
      ·rename_i q;rw[Xu q];simpa using this
     rw[F];refine .word o.1.1 o.1.2 ?_;have p:¬(k=eJ\/k=no):=by intro z;rcases z with z|z;exact A z;exact u z
     simp only[O2,Xu p,Xu B,Xu D]at l;cases r with
     |nil=>rfl
     |cons y r=>
      have v:D8 y=true:=by have:=G;simp only[iQ,iD,Xv]at this;exact this.1.1
      simp only[ej,ec];refine aa (AW<|v9 a v) ?_;cases y with
      |m j=>exact eI l nt
      |f g s=>simpa [EC,Iz,GY,nh]using l
    ·exact eI o nt
end
abbrev pG:PT:=.f eJ [32]
def nM {A B:List PT}{nx:Option PT}(h1:rh A (B.head?<|>nx)=true)(h:rh B nx=true):rh (A++B) nx=true:=by rw[Jn,h1,h];rfl
def Wa (v)(i):rh (hE (dw v) i) (some bQ)=true:=by cases v<;>rfl
def Sd (v)(i):rh (hE (dw v) i) (some pG)=true:=by cases v<;>rfl
theorem gK:∀(K:Kd) (i:Nat),rh (hE (iE K) i) (some bQ)=true
 | .n x,i=>rfl
 | .p x,i=>rfl
 | .c x,i=>rfl
 | .r K,i=>by simp only[jT,bc];exact nM (nM rfl (gK K _)) rfl
 | .a v K,i=>by simp only[gH,bc];exact nM (nM (nM rfl (Sd v _)) rfl)<|gK K _
def gC (c:Option<|Option<|Nm×Vl)(i:Nat)(nx:Option PT):rh (hE (r8 c) i) nx=true:=by
 match c with
 |none=>rfl
 |some none=>rfl
 |some (some (x,v))=>simp only[mU,bc];exact nM rfl (nM (nM rfl (Wa v _)) rfl)
def gT (c:Option<|Option<|Nm×Kd)(i:Nat)(nx:Option PT):rh (hE (wx c) i) nx=true:=by
 match c with
 |none=>rfl
 |some none=>rfl
 |some (some (x,K))=>simp only[ng,bc];exact nM rfl (nM (nM rfl (gK K _)) rfl)
def gR (c:Option<|Option<|Nm×Kd)(i:Nat)(nx:Option PT):rh (hE (zx c) i) nx=true:=by
 match c with
 |none=>rfl
 |some none=>rfl
 |some (some (x,K))=>simp only[nj,bc];exact nM rfl (nM (nM rfl (gK K _)) rfl)
def gD (D:Dc)(i:Nat)(nx:Option PT):rh (hE (aQ D) i) nx=true:=by simp only[aQ,bc];exact nM (nM (gC _ _ _)<|gT _ _ _)<|gR _ _ _
def UO (D)(i)(X)(h:X.head?=some pG):(hE (aQ D) i++X).head?=some pG:=by
 obtain⟨c,t,v⟩:=D
 match c with
 |some none=>rfl
 |some (some (x,K))=>rfl
 |none=>
  match t with
  |some none=>rfl
  |some (some (x,K))=>rfl
  |none=>
   match v with
   |some none=>rfl
   |some (some (x,K))=>rfl
   |none=>exact h
def gB (v:Vl)(x:Nm)(a:Vl)(i:Nat)(nx:Option PT):rh (hE (I9 v x a) i) nx=true:=by simp only[I9,bc,bc,bc,bc];exact nM (nM (nM (nM rfl (Sd _ _)) rfl)<|Sd _ _) rfl
def gP (p:Pr)(i:Nat):rh (hE (vp p) i) (some pG)=true:=by
 have e:vp p=[g1,wW eg,g1,.n p.nm]++(cu p.p++([sg 59]++(aQ p.d++(I9 p.v1 p.x p.v2++[.n p.nm,sg 59])))):=by simp[vp]
 simp only[e,bc,bc,bc,bc,bc];refine nM ?_<|nM ?_<|nM ?_<|nM (gD _ _ _)<|nM (gB _ _ _ _ _) rfl
 ·match p.p with
  |none=>rfl
  |some (a,b,x)=>rfl
 ·match p.p with
  |none=>rfl
  |some (a,b,x)=>rfl
 ·refine aa (UO _ _ _<|rfl) ?_
  rfl
def gO (o)(i):rh (hE (fS o) i) (some pG)=true:=by
 match o with
 |none=>rfl
 |some p=>exact gP p i
def gI (s)(i)(nx):rh (hE (bj s) i) nx=true:=by
 match s with
 |none=>rfl
 |some (true,_)=>rfl
 |some (false,_)=>rfl
def gM (M:Md):rh (hE (aP M) 0) none=true:=by simp only[(by simp[aP]:aP M=o7++(bj M.i++(aQ M.d++(fS M.p++(DU M.x++(dw M.v++EM)))))),bc,bc,bc,bc,bc,bc];exact nM rfl (nM (gI _ _ _)<|nM (gD _ _ _)<|nM (gO _ _)<|nM rfl (nM (Sd _ _) rfl))
noncomputable def gy:List (List Nat×List Nat)->Int->List Tok
 | [],_=>[]
 |(k,t)::x,p=>⟨k,t,p⟩::gy x (p+t.length)
theorem i5{z}:gy [] z=[]:=rfl
theorem ft{z k t x}:gy ((k,t)::x) z={k:=k,t:=t,p:=z}::gy x (z+↑t.length):=rfl
theorem sx(a):∀m,cN a (m+1)=.r a::cN (a+1) m
 |0=>rfl
 |m+1=>by simp only[sk (m:=m+1),sx a m,sk (m:=m)];simp only[bE];congr 4;exact EF
def No (x):∀(a:Hp) (p:Int),a.length+x.length<=n->Al n (a++ko x p) (cN a.length x.length) (gy x p):=by
 induction x with
 |nil=>intro a p _;exact trivial
 |cons b x i=>intro a p h;obtain⟨k,t⟩:=b;simp only[aE,sx,ft,oi];refine⟨⟨a.length,rfl,AY h,by simp⟩,?_⟩;have:=i (a++[vF k t p]) (p+t.length) (by simp only[Xx,aE,br];exact ba 0x2085a06b00c64841685806065b tq h);refine(?_:Al _ _ _ _);simpa using this
theorem vf:∀(x:List<|List Nat×List Nat) (p:Int),(ko x p).length=x.length
 | [],p=>rfl
 |(k,t)::x,p=>by simp[si,oi,vf x]
section
variable{wd:Nat->Nm}{pl:Nat->Int}
def ot (wd:Nat->Nm)(pl:Nat->Int):List PT->Int->Prop
 | [],_=>True
 | .f _ t::r,p=>ot wd pl r<|p+t.length
 | .m i::r,p=>pl i=p/\ot wd pl r (p+(wd i).length)
theorem Jm{wd pl z}:ot wd pl [] z=True:=rfl
theorem JU{wd pl z k t r}:ot wd pl (PT.f k t::r) z=ot wd pl r (z+↑t.length):=rfl
theorem Ka{wd pl z i r}:ot wd pl (PT.m i::r) z=(pl i=z/\ot wd pl r (z+↑(List.length<|wd i))):=rfl
def Qt (T:List Tok):List Tok:=T.filter λt=>cq t.k
def MU {L:List PT}:∀{p:Int},ot wd pl L p->y3 wd pl (mz L) (Qt<|gy ((y7 L).map<|pk wd) p):=by
 induction L with
 |nil=>intro p _;exact trivial
 |cons pr r a=>cases pr with
  |m i=>intro p h;show y3 wd pl (.m i::mz r)<|Qt<|⟨Xy,wd i,p⟩::gy ((y7 r).map<|pk wd) (p+(wd i).length);have e:cq Xy=true:=rfl;simp only[Qt,filter_cons];exact⟨by refine dG h.1 ?_;rfl,(a h.2)⟩
  |f k t=>
   intro p h;have a:=a (p:=p+t.length) h;by_cases b:k=eJ
   ·clear h;subst b
    have e:cq eJ=false:=rfl;simp only[oz,oh,oQ,e,Zc,if_false,lJ,jF,lk,if_true];split
    ·rename_i g l j c
     rw[c]at a;split
     ·rename_i d
      clear c;subst d;simp only[af,pk,i5,ft,Qt,filter_cons,e,Zc,if_false]at a⊢;simp only[Xx,Int.natCast_add,<- ZN];exact a
     ·exact a
    ·exact a
   ·simp only[oz,oh,oQ,lJ,jF,lk,Xu b,af,pk,i5,ft,Qt,filter_cons]at a⊢
    cases cq k with
    |true=>exact⟨⟨rfl,rfl⟩,a⟩
    |false=>exact a
noncomputable def Ej(wd:Nat->Nm):List IL->Nat->Nat->List Nat
 | [],_,_=>[]
 | .f _ t::r,i,p=>Ej wd r i<|p+t.length
 | .n _::r,i,p=>p::Ej wd r (i+1) (p+(wd i).length)
theorem Gx{wd z a}:Ej wd [] z a=[]:=rfl
theorem vS{wd z a k t r}:Ej wd (IL.f k t::r) z a=Ej wd r z (a+t.length):=rfl
theorem pU{wd z a s r}:Ej wd (IL.n s::r) z a=a::Ej wd r (z+1) (a+List.length (wd z)):=rfl
def Km (A:List IL):∀(i p:Nat),(∀j,j<nI A->pl (i+j)=((Ej wd A i p).getD j 0:Nat))->ot wd pl (hE A i) p:=by
 induction A with
 |nil=>intro i p _;exact trivial
 |cons pr r a=>cases pr with
  |f _ t=>intro i p h;have:=a i (p+t.length) h;simpa [Jm,JU,Ka,jY,jZ,jN]using this
  |n _=>
   intro i p h;refine⟨by simpa [Gx,vS,pU]using h 0<|nl rfl,?_⟩;have:=a (i+1) (p+(wd i).length) (λj b=>by have:=h (j+1)<|aak ‹_›;simpa [Gx,vS,pU,XR,Zr 1]using this)
   simpa using this
def rY (A:List IL):∀(i:Nat) (p:Int),ot wd pl (hE A i) p->∀j,i<=j->j<i+nI A->p<=pl j:=by
 induction A with
 |nil=>intro i p _ j h1 a;exact False.elim<|aK 0x3400865b0342c0067b tq a h1
 |cons pr r b=>cases pr with
  |f _ t=>intro i p h j h1 a;have:=b i (p+t.length) h j h1 a;exact Yg (Int.le_add_of_nonneg_right<|YD _) this
  |n _=>
   intro i p h j h1 a;by_cases e:j=i
   ·subst e;refine aa h.1 ?_;exact Int.le_refl _
   ·have:=b (i+1) (p+(wd i).length) h.2 j (Zt (kh h1)<|X0 e)<|A0 a
    exact Yg (Int.le_add_of_nonneg_right<|YD _) this
def JH (d:∀i,wd i∈cK)(A:List IL):∀(i:Nat) (p:Int),ot wd pl (hE A i) p->∀j k,i<=j->j<k->k<i+nI A->pl j<pl k:=by
 induction A with
 |nil=>intro i p _ j k h1 b a;exact False.elim<|ba 0x68020cf620865b0342c0067b tq a h1 b
 |cons pr r g=>cases pr with
  |f _ t=>intro i p h j k h1 b a;exact g i (p+t.length) h j k h1 b a
  |n _=>
   intro i p h j k h1 b a;by_cases e:j=i
   ·subst e
    have l:=rY r (j+1) (p+(wd j).length) h.2 k ‹_›<|A0 a;refine dJ (u7 _<|d j) λc t e _=>?_;have:0<(wd j).length:=by refine aa e ?_;simp
    refine aa h.1 ?_;exact ZS (Int.lt_add_of_pos_right _<|Z2.mpr this) l
   ·exact g (i+1) _ h.2 j k (Zt (kh h1)<|X0 e) b<|A0 a
end
section
variable{wd:Nat->Nm}{pl:Nat->Int}{inM:Int->Bool}{Z:Nat->Bool}{name:Nm}
noncomputable def Eg(inM:Int->Bool)(name:Nm)(t:Tok):Nm:=if inM t.p then name else t.t
noncomputable def J9(wd:Nat->Nm)(Z:Nat->Bool)(name:Nm)(i:Nat):Nm:=if Z i then name else wd i
def Jp (wd:Nat->Nm)(inM:Int->Bool)(Z:Nat->Bool):List PT->Int->Prop
 | [],_=>True
 | .f _ t::r,p=>inM p=false/\Jp wd inM Z r (p+t.length)
 | .m i::r,p=>inM p=Z i/\Jp wd inM Z r (p+(wd i).length)
def Ju {L:List PT}:∀{p:Int},Jp wd inM Z L p->((gy ((y7 L).map<|pk wd) p).map<|Eg inM name).flatten=um (J9 wd Z name) L:=by
 induction L with
 |nil=>intro p _;exact rfl
 |cons pr r a=>cases pr with
  |m i=>intro p h;simp[lJ,jF,lk,af,pk,i5,ft,Z8,ej,ec,Eg,h.1,nh,J9,(a h.2)]
  |f k t=>
   intro p h;have a:=a h.2;simp[lk];split
   ·rename_i d
    split
    ·rename_i g o n b
     rw[b]at a;split
     ·rename_i e
      have c:inM (p+t.length)=false:=by
       cases r with
       |nil=>simp[lJ]at b
       |cons y r=>
        cases y with
        |m j=>simp[jF]at b
        |f l q=>exact h.2.1
      simp[pk,ft,Eg,c,h.1]at a⊢;simp[Xx,Int.natCast_add,<- ZN,X1];exact aa a rfl
     ·simp only[af,pk,i5,ft,Z8,Eg,h.1,Zc,if_false]at a⊢
      exact aa a rfl
    ·simp only[af,pk,i5,ft,Z8,Eg,h.1,Zc,if_false]at a⊢
     exact aa a rfl
   ·simp only[af,pk,i5,ft,Z8,Eg,h.1,Zc,if_false]at a⊢
    exact aa a rfl
def Jz (o:∀i,wd i∈cK)(u:∀q,inM q=true↔∃i,i<m/\Z i=true/\pl i=q)(A:List IL):∀(i:Nat) (p:Int) (nx:Option PT),m=i+nI A->rh (hE A i) nx=true->ot wd pl (hE A i) p->(∀j,j<i->pl j<p)->Jp wd inM Z (hE A i) p:=by
 induction A with
 |nil=>intro i p nx _ _ _ _;exact trivial
 |cons pr r y=>cases pr with
  |f k t=>
   intro i p nx b h d g;simp only[jY,jZ,jN,iQ,iD,Xv]at h;have l:0<t.length:=by cases t with |nil=>exact Xw rfl (v9 (wd:=wd) o h.1.1)|cons c t=>simp
   refine⟨?_,y i (p+t.length) nx b h.2 d (λj a=>by have:=g j a;exact Int.lt_trans this<|Int.lt_add_of_pos_right _<|Z2.mpr l)⟩;cases e:inM p with
   |false=>rfl
   |true=>
    refine aj ((u p).1 e) λj v w x=>?_;by_cases a:j<i
    ·have:=g j a;exact Xw x<|Int.ne_of_lt this
    ·have:=rY r i (p+t.length) d j (Z4 ‹_›) (by exact oN 0x20b013105830d3630067b tq v b)
     lia
  |n s=>
   intro i p nx b h d g;simp only[jY,jZ,jN,iQ,iD,Xv]at h;refine dJ (u7 _<|o i) λc t e _=>?_;have l:0<(wd i).length:=by refine aa e ?_;simp
   refine⟨?_,y (i+1) (p+(wd i).length) nx (ba 0x416858c0502d1302c0069b tq b) h.2 d.2 (λj a=>by
    by_cases q:j=i
    ·clear e h b;subst q;refine aa d.1 ?_;exact Int.lt_add_of_pos_right _<|Z2.mpr l
    ·have:=g j<|Zt (OE a) q;exact Int.lt_trans this<|Int.lt_add_of_pos_right _<|Z2.mpr l)⟩
   cases hz:Z i with
   |true=>exact(u p).2 ⟨i,ba 0x104c2d1300c0879b tq b,hz,d.1⟩
   |false=>
    cases e:inM p with
    |false=>rfl
    |true=>
     refine aj ((u p).1 e) λj v w x=>?_;by_cases a:j<i
     ·have:=g j a;exact Xw x<|Int.ne_of_lt this
     ·by_cases q:j=i
      ·clear h g l;subst q;rw[hz]at w;exact eI w nt
      ·have:=rY r (i+1) (p+(wd i).length) d.2 j (Zt (wD a)<|X0 q)<|oN 0x82d0b180985a2605830d3630067b tq v b
       lia
end
noncomputable def lB(F:List ZV)(p:Int):Int:=F.foldl (λt o=>if o.1=p then o.2.2 else t)<|-2
def Ei (t:Int)(F:List ZV)(D:List<|Int×V):List<|Int×V:=F.foldl (λD o=>if o.2.2=t then kX o.1 (.b true) D else D) D
def G3 (D):(eH q<|kX a v D).isSome=(decide (a=q)||(eH q D).isSome):=by
 induction D with
 |nil=>by_cases h:a=q<;> simp[j2,ig,ia,h9,h]
 |cons pD D i=>
  obtain⟨b,u⟩:=pD;simp only[j2,ig];by_cases h:b=a
  ·subst h
   simp only[if_true,ia,h9];by_cases c:b=q<;> simp[c]
  ·simp only[Xu h,ia,h9]
   by_cases c:b=q
   ·simp[c]
   ·simp only[Xu c,i]
theorem yy:∀(D:List<|Int×V),(kX a v D).length<=D.length+1
 | []=>by simp[j2,ig]
 |(b,u)::D=>by
  simp only[j2,ig];split
  ·simp
  ·have:=yy (a:=a) (v:=v) D
   exact GZ this
theorem vV{tg q:Int}:∀(F:List ZV) (D:List<|Int×V),(eH q<|Ei tg F D).isSome=true↔(eH q D).isSome=true\/∃o∈F,o.2.2=tg/\o.1=q
 | [],D=>by simp[Ei]
 |o::F,D=>by
  simp only[Ei,foldl_cons];split
  ·rename_i h
   have:=vV (tg:=tg) (q:=q) F<|kX o.1 (.b true) D;simp only[Ei]at this;rw[this,G3];simp only[YO,X5,XE,exists_eq_or_imp];constructor
   ·rintro((a|a)|a)
    ·exact .inr<|.inl ⟨h,a⟩
    ·exact .inl a
    ·exact .inr<|.inr a
   ·rintro(a|(a|a))
    ·exact .inl<|.inr a
    ·exact .inl<|.inl a.2
    ·exact .inr a
  ·rename_i h
   have:=vV (tg:=tg) (q:=q) F D;simp only[Ei]at this;rw[this];simp only[XE,exists_eq_or_imp];constructor
   ·rintro(a|a)
    ·exact .inl a
    ·exact .inr<|.inr a
   ·rintro(a|(a|a))
    ·exact .inl a
    ·exact Xw a.1 h
    ·exact .inr a
theorem rz:∀{F:List<|Nat×Int},(F.map (·.1)).Nodup->(i,v)∈F->cB i F=v
 |(a,u)::F,b,h=>by
  simp only[af,X9]at b;simp only[jS,j0];rcases XE.1 h with e|h
  ·cases e;simp
  ·rw[Xu ?_]
   ·exact rz b.2 h
   ·intro z;subst z
    exact b.1<|Y7 (f:=(·.1)) h
theorem jk:∀{F:List<|Nat×Int},i∈F.map (·.1)->(i,cB i F)∈F
 |(a,u)::F,h=>by
  simp only[jS,j0];by_cases e:a=i
  ·simp[e]
  ·refine aa (Xu e) ?_
   simp only[af,XE]at h;rcases h with h|h
   ·exact Xw h.symm e
   ·exact .tail _<|jk h
section
variable{wd:Nat->Nm}{pl:Nat->Int}
noncomputable abbrev dl(wd:Nat->Nm)(pl:Nat->Int)(F:List<|Nat×Int):List ZV:=F.map λx=>(pl x.1,wd x.1,x.2)
def ET (F:List<|Nat×Int):∀(t:Int),(∀x∈F,pl x.1≠place)->(dl wd pl F).foldl (λt o=>if o.1=place then o.2.2 else t) t=t:=by
 induction F with
 |nil=>intro t _;exact rfl
 |cons x F i=>intro t h;simp only[af,foldl_cons];exact aa (Xu<|h x<|.head _)<|i t λy a=>h y<|.tail _ a
def HC {p:Int}{F:List<|Nat×Int}(h:∀x∈F,pl x.1≠p):lB (dl wd pl F) p=-2:=ET F (-2) h
def Fv (d:pl s=place)(F:List<|Nat×Int):∀(t:Int),(F.map (·.1)).Nodup->s∈F.map (·.1)->(∀x∈F,pl x.1=place->x.1=s)->(dl wd pl F).foldl (λt o=>if o.1=place then o.2.2 else t) t=cB s F:=by
 induction F with
 |nil=>intro t _ h _;cases h
 |cons x F i=>
  intro t b h c;simp only[af,X9]at b;simp only[af,foldl_cons,jS,j0];by_cases e:x.1=s
  ·refine aa (Xr<|by rw[e];exact d)<|aa (Xr e)<|ET F x.2 λy a f=>?_
   have:=c y (.tail _ a) f;rw[<- e]at this;exact b.1<|this▸Y7 (f:=(·.1)) a
  ·refine aa (Xu λq=>e<|c x (.head _) q)<|aa (Xu e)<|i t b.2 ?_ λy a=>c y<|.tail _ a
   simp only[af,XE]at h;rcases h with h|h
   ·exact Xw h.symm e
   ·exact h
end
theorem qr(h:∀i j,i<n->j<n->c i j=b i j):∀{t:PySem.W.KasT d},mF n P t->iK c t=iK b t
 | .ret a,_=>rfl
 | .ask i j k,q=>by simp[DG,h i j q.1 q.2.1];exact qr h<|q.2.2 _
def zw (b:p.length=qs.length)(a:0<p.length)(h:∀i j,i<p.length->j<p.length->d9 (p.getD i (0,0)) (p.getD j (0,0))=d9 (qs.getD i (0,0)) (qs.getD j (0,0))):jh p=jh qs:=by unfold jh;exact dG b<|aa (qr h<|oH a) rfl
def Kg:∀n∈List.range 64,2<=n->(iK (λi j=>decide (i<j))<|PySem.W.kas_sort n).toList=List.range n:=by decide+kernel
def JM (b:2<=p.length)(a:p.length<64)(h:∀i j,i<p.length->j<p.length->d9 (p.getD i (0,0)) (p.getD j (0,0))=decide (i<j)):jh p=List.range p.length:=by unfold jh;exact aa (qr h<|oH<|Y6 ‹_›)<|Kg p.length (by simpa using a) b
def D9 (H:Hp):List V->List ZV->Prop:=A2 λv o=>∃r,v=.r r/\H[r]?=some (eT o)
def Ml {H:Hp}{f:List Nat}:∀{F:List ZV},f.length=F.length->(∀(j r:Nat) (o:ZV),f[j]?=some r->F[j]?=some o->H[r]?=some (eT o))->D9 H (f.map V.r) F:=by
 induction f with
 |nil=>intro F h _;cases F with |nil=>trivial|cons=>cases h
 |cons r f i=>intro F h g;cases F with |nil=>cases h|cons o F=>exact⟨⟨r,rfl,g 0 r o rfl rfl⟩,i (Nat.succ.inj h) λj q p a b=>g (j+1) q p a b⟩
def D9.app (x:Hp){v:List V}{F:List ZV}:D9 H v F->D9 (H++x) v F:=A2.mono λa=>ag a λr e g=>⟨r,e,fi g⟩
def D9.len {H:Hp}{v:List V}{F:List ZV}:D9 H v F->v.length=F.length:=A2.len
structure Wd(n:Nat)(H:Hp)(W:RS):Prop where
 f:bf H n 8=xR (n+3)
 c:bf H n 9=xR (n+4)
 k:bf H n 10=xR (n+5)
 g:H[n+3]?=some (.l<|W.b.map V.s)
 hf:∃vs,H[n+4]?=some (.l vs)/\D9 H vs W.f
 hd:H[n+5]?=some (.l<|W.e.map V.i)
 e:W.b.length<=900
 d:W.f.length<=900
 bd:W.e.length<=900
def Rp.w {n I:Nat}{t:List Tok}{H:Hp}{W:RS}(r:Rp n I t H W):Wd n H W:=by have f:=r.fld;refine cT r λs a r=>?_;have:=r.E;have:=r.F;have:=r.G;have:=r.R;exact⟨f.2.1,f.2.2.1,f.2.2.2.1,r.g,⟨_,r.hf,Ml r.D r.fd⟩,r.hd,wQ ‹_› ‹_›,wQ ‹_› ‹_›,wQ ‹_› ‹_›⟩
def wu (x)(h:bf H a f=some v):bf (H++x) a f=some v:=by
 unfold bf at h⊢;cases e:H[a]? with
 |none=>rw[e]at h;exact cE h nt
 |some o=>refine aa (fi e) ?_;rw[e]at h;exact h
def Wd.app (w:Wd n H W)(x:Hp):Wd n (H++x) W:=by exact ag w.hf λv a b=>⟨wu x w.f,wu x w.c,wu x w.k,fi w.g,⟨v,fi a,b.app x⟩,fi w.hd,w.e,w.d,w.bd⟩
def Cw {H a:Hp}(h:∀i,i<H.length->a[i]?=H[i]?):∃x,a=H++x:=by
 refine⟨a.drop H.length,(List.ext_getElem? λi=>?_)⟩;by_cases b:i<H.length
 ·exact aa (h i b)<|aa (Yu b) rfl
 ·rw[Zy<|Z4 ‹_›,List.getElem?_drop]
  congr 1;exact(Nat.add_sub_of_le<|Z4 b).symm
def rW (h:H[r]?=some (eT o)):bf H r 2=xI o.1/\bf H r 4=xI o.2.2:=by simp only[bf,h,eT,rG];exact⟨rfl,rfl⟩
def TH (c:Cl):V->Lo->Hp->Option (Fl×Hp):=λv l H=>XU c a4 (l.set 6<|some v) H [.i (.q .e (.f (.v 6) 2)<|.v 1) [.s 5<|.f (.v 6) 4] []]
def Of {cl:Cl}{H:Hp}{ok:Hp->Bool}(a:ok H=true){s nm it wk:V}{pl:Int}{x7 x8 x9:Option V}:∀(b:List V) (F:List ZV) (t:Int) (o:Option V),D9 H b F->
  ∃c,aM (TH cl) ok b [some s,xI pl,some nm,some it,some wk,xI t,o,x7,x8,x9] H=some (.n [some s,xI pl,some nm,some it,some wk,xI<|F.foldl (λt o=>if o.1=pl then o.2.2 else t) t,c,x7,x8,x9],H):=by
 intro b;induction b with
 |nil=>intro F t o h;cases F with
  |nil=>exact⟨o,bu a⟩
  |cons q F=>exact h.elim
 |cons v b i=>intro F t o h;cases F with
  |nil=>exact h.elim
  |cons q F=>
   refine XG (λh1 f=>ag h1 λr d g=>XG (λf2 f4=>Xq (i F (if q.1=pl then q.2.2 else t) (xR r) f) λc i=>⟨c,?_⟩)<|rW g) h;subst d;refine(aS a ?_).trans i;by_cases e:q.1=pl
   ·simp[TH,f2,f4,e]
   ·simp[TH,f2,f4,e]
def Tv (c:Cl):V->Lo->Hp->Option (Fl×Hp):=λv l H=>XU c a4 (l.set 6<|some v) H [.i (.q .e (.f (.v 6) 4)<|.v 5) [.t (.v 7) (.f (.v 6) 2)<|.b true] []]
def Nt {cl:Cl}{H:Hp}{ok:Hp->Bool}(a:∀x,ok (H++x)=true){s p nm it wk:V}{tg:Int}{x8 x9:Option V}:∀(b:List V) (F:List ZV) (D:List<|Int×V) (o:Option V),D9 H b F->D.length+F.length<=1000->
  ∃d,aM (Tv cl) ok b [some s,some p,some nm,some it,some wk,xI tg,o,xR H.length,x8,x9] (H++[.dI D])=some (.n [some s,some p,some nm,some it,some wk,xI tg,d,xR H.length,x8,x9],H++[.dI<|Ei tg F D]):=by
 intro b;induction b with
 |nil=>intro F D o h _;cases F with
  |nil=>exact⟨o,bu<|a _⟩
  |cons q F=>exact h.elim
 |cons v b i=>intro F D o h c;cases F with
 |nil=>exact h.elim
 |cons q F=>
  refine XG (λh1 j=>ag h1 λr f g=>XG (λf2 f4=>?_)<|rW (fi g:(H++[AO.dI D])[r]?=some (eT q))) h;subst f;simp only[aE]at c;have k:=yy (a:=q.1) (v:=.b true) D;obtain⟨d,i⟩:=i F (if q.2.2=tg then kX q.1 (.b true) D else D) (xR r) j (by split;exact ba 0x7d0e08192fa1c1685826065b0b44c0065b tq k c;exact aK 0x7d0e08192fa1c1685806065b tq c);refine⟨d,?_⟩;rw[aS (a _) (l':=[some s,some p,some nm,some it,some wk,xI tg,xR r,xR H.length,x8,x9]) (H':=H++[.dI<|if q.2.2=tg then kX q.1 (.b true) D else D]) ?_]
  ·exact i
  ·by_cases e:q.2.2=tg
   ·have l:setItem (H++[AO.dI D]) (.r H.length) (.i q.1) (.b true)=some (H++[.dI<|kX q.1 (.b true) D]):=by simp only[setItem,bg,pf,b9,mS];rw[Xr<|by exact aK 0x1f43812fa1c1685806065b tq c,xt]
    simp[Tv,f2,f4,e,l]
   ·simp[Tv,f2,f4,e]
noncomputable def mG(F:List ZV):List<|Int×Int:=F.map λo=>(o.1,o.2.2)
def un (F:List ZV):List Int:=(jh<|mG F).map λi=>((mG F).getD i (0,0)).2
def R1 (H:Hp):V->V
 | .r r=>.t [(bf H r 2).getD .n,(bf H r 4).getD .n]
 |_=>.n
theorem BS{H:Hp}:∀{a:List V}{F:List ZV},D9 H a F->a.map (R1 H)=(mG F).map λp=>V.t [.i p.1,.i p.2]
 | [],[],_=>rfl
 | [],o::F,h=>h.elim
 |v::a,[],h=>h.elim
 |v::a,o::F,h=>by obtain⟨⟨r,rfl,g⟩,b⟩:=h;obtain⟨f2,f4⟩:=rW g;have i:=BS b;simp only[mG,af]at i⊢;refine aa i ?_;simp only[R1,f2,f4,Option.getD_some]
def D9.mem {H:Hp}{b:List V}{F:List ZV}:D9 H b F->∀v∈b,∃r o,v=.r r/\H[r]?=some (eT o):=A2.mem λa=>ag a λr e g=>⟨r,_,e,g⟩
theorem pq:∀a:List<|Int×Int,dO (a.map λp=>V.t [.i p.1,.i p.2])=some a
 | []=>rfl
 |p::a=>(Xs (Option.map _) (pq a):Option.map (λl=>(p.1,p.2)::l) _=_)
def uD (e:ai c l a H=some (.r r,b))(g:b[r]?=some (.l<|ps.map λp=>V.t [.i p.1,.i p.2]))(d:2<=ps.length)(h:ps.length<64):
  ai c l (.k a) H=some (.r b.length,b++[.l<|(jh ps).map λi=>V.t [.i (ps.getD i (0,0)).1,.i (ps.getD i (0,0)).2]]):=by
 refine(bI e).trans ?_;show hL b[r]? _=_;refine aa g<|(lu<|pq _).trans<|(Xr<|by simp[d,h]).trans ?_;congr 4;refine Xs AO.l<|YU λi f=>?_;have:i<ps.length:=by have:=(i7 ps<|Y6 ‹_›).mem_iff.1 f;simpa using this
 simp[Yq,YN,XQ this]
noncomputable def Ss(v:V):V:=match v with | .t l=>l.getD 1 .n|_=>.n
@[simp]theorem Vt{a b:V}:Ss (.t [a,b])=b:=rfl
def VE {n d:Nat}{H:Hp}{W:RS}(w:Wd n H W)(t:2<=W.f.length)(b:W.f.length<64){Cx:Prop}(B:∀a x,ae (d+1) 47 [.r n] H=some (.v<|.r a,H++x)->(H++x)[a]?=some (.l<|(un W.f).map V.i)->Cx):Cx:=by
 refine ag w.hf λu z k=>?_;have s:u.length=W.f.length:=k.len;have C:=w.d;have c:=nX (cl:=ae d) (l:=[xR n,none]) (H:=H) (elt:=.p [(.f (.v 0) 2),(.f (.v 0) 4)]) (src:=.f (.v 0) 9) (caps:=[]) (vs:=u) (R1 H) (hG λj=>j _ w.c) z (Gb s b) (λv q=>by refine dJ (k.mem v q) λr o l g=>?_;subst l;exact XG (λf2 f4=>X6 (hG λj=>j _ f2 _ f4)<|by simp[cX,f2,f4,R1])<|rW g)
 rw[BS k]at c;have h:(mG W.f).length=W.f.length:=by simp[mG]
 have A:=i7 (mG W.f)<|wo t h;have e:=uD (ps:=mG W.f) c (bg _ _) (zt t h)<|A6 h b;refine B (H.length+2) ([AO.l<|(mG W.f).map λp=>V.t [.i p.1,.i p.2],.l<|(jh<|mG W.f).map λi=>V.t [.i ((mG W.f).getD i (0,0)).1,.i ((mG W.f).getD i (0,0)).2],.l<|(un W.f).map V.i]) ?_ ?_
 ·have m:(jh<|mG W.f).length=W.f.length:=aa A.length_eq<|aa List.length_range<|aa h rfl
  have f:=nX (cl:=ae d) (l:=[xR n,xR (H++[AO.l<|(mG W.f).map λp=>V.t [.i p.1,.i p.2]]).length]) (H:=H++[AO.l<|(mG W.f).map λp=>V.t [.i p.1,.i p.2]]++[.l<|(jh<|mG W.f).map λi=>V.t [.i ((mG W.f).getD i (0,0)).1,.i ((mG W.f).getD i (0,0)).2]])
   (elt:=.t (.v 0)<|.i 1) (src:=.v 1) (caps:=[]) (a:=H.length+1) (vs:=(jh<|mG W.f).map λi=>V.t [.i ((mG W.f).getD i (0,0)).1,.i ((mG W.f).getD i (0,0)).2])
   Ss (X6 (hG λj=>j)<|by simp[]) (by rw[Zy<|by simp];simp) (by rw[XM,m];exact zj b) (λv q=>by refine ag (Yp.1 q) λi D l=>?_;subst l;have:nW 2 1=some 1:=rfl;exact hG λj=>j _ rfl)
  refine aa (aU (f:=jH) rfl rfl) ?_;simp only[jH,aW,A5,tl,nP];have y:List.map some [V.r n]++List.replicate (2-1) none=[xR n,none]:=rfl;refine aa y<|aa e ?_;simp only[qC,sA,aW,A5,nP,set_cons_succ,set_cons_zero];refine aa f ?_;simp only[iZ,oG,i6,Y9,un];simp only[X1,bE,dA,Xx,aE,br];rfl
 ·simp
def fO:Nm->Bool
 | []=>false
 |c::r=>dv c&&!El.contains (c::r)&&(c::r).all xw
def M4 (c:Cl):V->Lo->Hp->Option (Fl×Hp):=λv l H=>XU c a4 (l.set 1<|some v) H [.i (.a [(.N<|.c 1 [(.v 1)]),(.N<|.c 2 [(.v 1)])]) [.r<|.b false] []]
def LH (e:ok H=true)(cs:List Nat):∀(o:Option V),
  (cs.all xw=true/\∃f,aM (M4<|ae<|d+1) ok (cs.map λc=>V.s [c]) [some s,o] H=some (.n [some s,f],H))\/(cs.all xw=false/\aM (M4<|ae<|d+1) ok (cs.map λc=>V.s [c]) [some s,o] H=some (.r<|.b false,H)):=by
 induction cs with
 |nil=>intro o;exact .inl ⟨rfl,o,bu e⟩
 |cons c cs j=>
  intro o;cases h:xw c with
  |false=>refine .inr ⟨by simp[h],mj e ?_⟩;simp only[xw,Bool.or_eq_false_iff]at h;simp[M4,DE,Qz,h.1,h.2]
  |true=>
   have g:M4 (ae<|d+1) (.s [c]) [some s,o] H=some (.n [some s,xS [c]],H):=by
    simp only[xw,YO]at h;have h:=h;cases h1:dv c with
    |true=>simp[M4,DE,Qz,h1]
    |false=>
     have i:eG c=true:=by rcases h with z|z;rw[h1]at z;exact eI z nt;exact z
     simp[M4,DE,Qz,h1,i]
   rcases j (xS [c])with⟨a,f,b⟩|⟨a,b⟩
   ·exact .inl ⟨by simp[h,a],f,by refine aa af<|aa (aS e g) ?_;exact b⟩
   ·exact .inr ⟨by simp[h,a],by refine aa af<|aa (aS e g) ?_;exact b⟩
def Wi {d:Nat}{H:Hp}{s:Nm}:ae (d+2) 46 [.s s] H=some (.v<|.b<|fO s,H):=by
 refine aa (aU (f:=mQ) rfl rfl) ?_;cases s with
 |nil=>exact j6 λj=>j _ rfl
 |cons c r=>
  have g:nW (r.length+1) 0=some 0:=by rfl
  have f:getItem H (.s<|c::r) (.i 0)=xS [c]:=rfl;have h:fX H (.s<|c::r) Pe=some (El.contains<|c::r):=da _ _;have l:bw (ae<|d+1) a4 [xS<|c::r,none] H e4=aM (M4<|ae<|d+1) (jt none<|(c::r).map λc=>V.s [c]) ((c::r).map λc=>V.s [c]) [xS<|c::r,none] H:=by unfold e4;exact rQ.trans rfl
  cases h1:dv c with
  |false=>rw[show fO (c::r)=false by simp only[fO,h1];rfl];exact j6 λj=>j _ rfl _ f (.b false) _ ((DE _ _ c).trans<|by rw[h1])
  |true=>
   cases h2:El.contains (c::r)with
   |true=>
    rw[h2]at h;have e:fO (c::r)=false:=by simp only[fO,h1,h2];rfl
    exact aa e<|j6 λj=>j _ rfl _ f (.b true) _ ((DE _ _ c).trans<|by rw[h1]) _ _ f0 _ h
   |false=>
    rw[h2]at h;rcases LH (d:=d) (H:=H) (ok:=jt none<|(c::r).map λc=>V.s [c]) rfl (s:=.s<|c::r) (c::r) none with⟨a,o,b⟩|⟨a,b⟩
    ·rw[b]at l
     simp only[fO,h1,h2,a];exact j6 λj=>j _ rfl _ f (.b true) _ ((DE _ _ c).trans<|by rw[h1]) _ _ f0 _ h _ _ l
    ·rw[b]at l
     simp only[fO,h1,h2,a];exact j6 λj=>j _ rfl _ f (.b true) _ ((DE _ _ c).trans<|by rw[h1]) _ _ f0 _ h _ _ l
theorem kY:∀(n:Nat) (X:List Int),X8 n (X.map V.i)=true
 |n,[]=>by simp[iX]
 |n,x::X=>by simp[ju,gh,kY n X]
theorem uG:∀(X Y:List Int),aac (X.map V.i) (Y.map V.i)=some (decide (X=Y))
 | [],[]=>rfl
 | [],y::Y=>rfl
 |x::X,[]=>rfl
 |x::X,y::Y=>by show(oB (aac (X.map V.i)<|Y.map V.i) λz=>some<|decide (x=y)&&z)=_;rw[uG X Y];refine Xs some ?_;by_cases h:x=y<;> simp
def A7 {H:Hp}{a b:Nat}{X Y:List Int}(h:H[a]?=some (.l<|X.map V.i))(c:H[b]?=some (.l<|Y.map V.i)):aY H .n (.r a) (.r b)=some (!decide (X=Y)):=by show(Ek H (.r a)<|.r b).map (!·)=_;rw[QD h c<|by rw[kY,kY];rfl,uG];rfl
theorem qL:∀a:List Nm,j5 (a.map V.s)=some a
 | []=>rfl
 |s::a=>by simp[Aj,qL a]
def BE {cl:Cl}{l:Lo}{H H1:Hp}{a:ME}{r:Nat}{ss:List Nm}(h:ai cl l a H=some (.r r,H1))(c:H1[r]?=some (.l<|ss.map V.s))(b:ss.length<=1000000)(d:sh ss.flatten=true):ai cl l (.j a) H=some (.s ss.flatten,H1):=by
 refine(bI h).trans ?_;have e:Mm H1 (.r r)=xS ss.flatten:=by show hL H1[r]? _=_;exact aa c ((lu<|qL _).trans<|Xr<|by simp[b,d])
 refine aa e ?_;rfl
section
variable(M:Md)(wd:Nat->Nm)
def LM:List PT:=hE (aP M) 0
def ci:Nm:=um wd<|LM M
def bK (i:Nat):Int:=((Ej wd (aP M) 0 0).getD i 0:Nat)
def SM:PS:=Yz.run wd<|ky M
def EV:List<|List Nat×List Nat:=(y7<|LM M).map<|pk wd
end
structure tM(M:Md)(wd:Nat->Nm):Prop where
 nm:∀i,wd i∈cK
 short:sh (ci M wd)=true
structure Lj(M:Md)(d:Nat):Prop where
 s:Oo M<880
 b:26+3*D4 M.d+3*Og M.p<=d
 a:2<=nI (aP M)
 m:nI (aP M)<64
def Ai:ld x->x.length<=(zY x).length:=by
 induction x with
 |nil=>intro _;exact X4 _
 |cons p x i=>
  intro h;obtain⟨k,t⟩:=p;cases h with
  |cons h1 a=>
   have:=i a;have:0<t.length:=by cases t with |nil=>exact Xw rfl h1.ne|cons c t=>simp
   simp only[yi,aE,Xx];exact ba 0x44c0b40c9080d0cf610065b tq (i a) this
section
variable{M:Md}{wd:Nat->Nm}{d:Nat}
def HI:zY (EV M wd)=ci M wd:=mq _
def Iy (f:tM M wd):ld<|EV M wd:=SZ f.nm<|gM M
def MW (f:tM M wd):(EV M wd).length<=100000:=by have:=Ai<|Iy f;rw[HI]at this;have:=jP f.short;exact aK 0x61a822090061a82210cb610065b tq ‹_› ‹_›
def Be (M)(wd):ot wd (bK M wd) (LM M) 0:=Km (aP M) 0 0 (λj _=>by simp[bK])
def qO (f:tM M wd)(h1:j<k)(h:k<nI (aP M)):bK M wd j<bK M wd k:=JH f.nm (aP M) 0 0 (Be M wd) j k (X4 _) h1<|aK 0x40d602610067b tq h
def LO (f:tM M wd)(h1:j<nI (aP M))(h:k<nI (aP M))(e:bK M wd j=bK M wd k):j=k:=by
 rcases lt_trichotomy j k with q|q|q
 ·have:=qO f q h;exact Xw e<|Int.ne_of_lt this
 ·exact q
 ·have:=qO f q h1;exact Xw e.symm<|Int.ne_of_lt this
def d7 (M)(wd):(SM M wd).f.map (·.1)=aw (ky M):=(Ky M).2
def pi (M)(wd):((SM M wd).f.map (·.1)).Nodup:=by rw[d7];exact(pM M).nodup_iff.2<|List.nodup_range' (step:=1)<|nl rfl
def cF (M)(wd)(i):i∈(SM M wd).f.map (·.1)↔i<nI (aP M):=by rw[d7,(pM M).mem_iff,ZA];lia
def qy (M)(wd):(SM M wd).f.length=nI (aP M):=by simpa using(by rw[d7,(pM M).length_eq,List.length_range']:((SM M wd).f.map (·.1)).length=nI (aP M))
def Do (f:tM M wd)(i:5<=d)(H:Hp){Cx:Prop}(k:∀(a y:Hp) (v:List V),ae d 13 [.s<|ci M wd] H=some (.v<|.r H.length,a)->a=H++y->a[H.length]?=some (.l v)->Al a.length a v (gy (EV M wd) 0)->v.length<=100000->Cx):Cx:=by have c:=HI (M:=M) (wd:=wd);have e:=Iy f;have g:=f.short;have h:=MW f;generalize EV M wd=xs at h c e k;rw[<- c]at g k;have q:=W5 (d:=d-5) (H:=H) (xs:=xs) g e<|bC 0x1b77411048030d4110065b tq h;rw[(Ym (bC 0x56c8056865b tq i):d-5+5=d)]at q;refine k _ (AO.l (cN (H.length+1) xs.length)::ko xs 0) (cN (H.length+1) xs.length) q rfl (by simp) ?_ (by rw[uY];exact bC 0x30d411048030d4110065b tq h);have b:=No (n:=(H++.l (cN (H.length+1) xs.length)::ko xs 0).length) xs (H++[.l<|cN (H.length+1) xs.length]) 0 (by simp[vf];exact aK 0x1685806042d03192 tq);rw[(by simp:H++[AO.l<|cN (H.length+1) xs.length]++ko xs 0=H++.l (cN (H.length+1) xs.length)::ko xs 0),(by simp:(H++[AO.l<|cN (H.length+1) xs.length]).length=H.length+1)]at b;exact b
def Jg (M)(wd):y3 wd (bK M wd) (AM M) ((gy (EV M wd) 0).filter λt=>cq t.k):=by have m:=MU (L:=LM M)<|Be M wd;rw[(by exact Ty M:mz (LM M)=AM M)]at m;exact m
def xY (f:tM M wd)(z:Lj M d)(H:Hp){C:Prop}(k:∀(y x:Hp) (n:Nat) (W:RS) (v:List V),
  ae d 13 [.s<|ci M wd] H=some (.v<|.r H.length,H++y)->(H++y)[H.length]?=some (.l v)->Al (H++y).length (H++y) v (gy (EV M wd) 0)->v.length<=100000->
  ae d 45 [.r H.length] (H++y)=some (.v<|.r n,H++y++x)->Wd n (H++y++x) W->jw wd (bK M wd) W (SM M wd)->C):C:=by
 refine Do (d:=d) f (ba 0x15b20086d7846d7e9ac6065b tq z.b) H λm y v q e g a b=>D3 f.nm (M:=M) (d:=d) g a (a.len▸b:(gy (EV M wd) 0).length<=100000) (Jg M wd) (ba 0x411b5e01b5f26b1921046d7806d7e9ac6065b tq z.b) z.s λn o W c i j l w=>Xq (Cw w) λx h=>?_;clear l w;subst h e;exact k y x n W v q g a b c i.w j
end
noncomputable def Pb:Nm:=[110,111,116,95,97,95,110,97,109,101]
noncomputable def Hn:Nm:=[112,114,101,100,101,99,108,97,114,101,100]
noncomputable def G1:Nm:=[98,97,100,95,110,97,109,101]
noncomputable def kT:Nm:=[119,111,117,108,100,95,99,108,97,115,104]
def g9 (M:Md)(w:Nat->Nm)(t:Int)(n:Nm):Nat->Nm:=J9 w (λi=>decide (i<nI (aP M))&&decide (cB i (SM M w).f=t)) n
def sE (M:Md)(w:Nat->Nm)(p:Int)(n:Nm):Rs:=
 let t:=lB (dl w (bK M w) (SM M w).f) p
 if t=-2 then .e (.s Pb) (.i p)else
 if t=-1 then .e (.s Hn) (.i p)else
 if(SM M w).b.getD t.toNat []=b8 then .e (.s b8) (.i p)else
 if fO n=false then .e (.s G1) (.i p)else
 let a:=g9 M w t n
 if un (dl w (bK M w) (SM M w).f)≠un (dl a (bK M a) (SM M a).f)\/(SM M a).t>(SM M w).t then .e (.s kT) (.i p)else
 .v (.s<|ci M a)
def QJ (H:Hp)(D:List<|Int×V)(n:Nm):V->V
 | .r r=>.s (match bf H r 2 with |some (.i q)=>if(eH q D).isSome then n else(match bf H r 1 with |some (.s s)=>s|_=>[])|_=>[])
 |_=>.n
theorem BL:∀{a:List V}{T:List Tok},Al n H a T->a.map (QJ H D name)=(T.map<|Eg (λq=>(eH q D).isSome) name).map V.s
 | [],[],_=>rfl
 | [],t::T,h=>h.elim
 |v::a,[],h=>h.elim
 |v::a,t::T,h=>by obtain⟨⟨r,rfl,h1,b⟩,c⟩:=h;simp only[af,(BL (D:=D) (name:=name) c)];congr 1;simp[QJ,eh b,jO,ir,Eg]
def Al.mem {a:List V}{T:List Tok}:Al n H a T->∀v∈a,∃(r:Nat) (t:Tok),v=.r r/\H[r]?=some (vF t.k t.t t.p):=A2.mem λh=>aj h λr e _ g=>⟨r,_,e,g⟩
def Al.app (x){v:List V}{T:List Tok}:Al n H v T->Al n (H++x) v T:=A2.mono λh=>aj h λr e a b=>⟨r,e,a,fi b⟩
def Mt (f:tM M w)(t)(name):
  ((gy (EV M w) 0).map<|Eg (λq=>(eH q<|Ei t (dl w (bK M w) (SM M w).f) []).isSome) name).flatten=ci M (g9 M w t name):=by
 refine Ju<|Jz (pl:=bK M w) f.nm (m:=nI<|aP M) ?_ (aP M) 0 0 none (bC 0x6b014 tq) (gM M) (Be M w) λj g=>Xw g<|aah _;intro q;simp only[vV,ia,h9,Option.isSome_none,Zc,false_or,Xv,X5];constructor
 ·rintro⟨o,b,e,a⟩
  refine ag (Yp.1 b) λx c d=>?_;clear b;subst d;have h:=(cF M w x.1).1 (Y7 (f:=(·.1)) c:x.1∈(SM M w).f.map (·.1));refine⟨x.1,h,⟨h,(aa (rz (pi M w) (v:=x.2) c) ?_)⟩,a⟩;exact e
 ·rintro⟨i,h,⟨_,e⟩,a⟩
  have:=jk<|(cF M w i).2 h;exact⟨_,Y7 (f:=λx:Nat×Int=>(bK M w x.1,w x.1,x.2)) this,e,a⟩
def xx (F:List ZV)(p:Int):∀t0:Int,F.foldl (λt o=>if o.1=p then o.2.2 else t) t0=t0\/∃o∈F,o.2.2=F.foldl (λt o=>if o.1=p then o.2.2 else t) t0:=by
 induction F with
 |nil=>exactλt0=>.inl rfl
 |cons o F i=>
  intro t0;rw[foldl_cons];rcases i (if o.1=p then o.2.2 else t0)with e|⟨q,a,e⟩
  ·rw[e]
   by_cases h:o.1=p
   ·rw[Xr h];exact .inr ⟨o,.head _,rfl⟩
   ·rw[Xu h];exact .inl rfl
  ·exact .inr ⟨q,.tail _ a,e⟩
def uB {H:Hp}{a:Nat}{k:List Nm}{t:Int}(h:H[a]?=some (.l<|k.map V.s))(b:0<=t)(h1:t<k.length)(d:k.length<=900):getItem H (.r a) (.i t)=xS (k.getD t.toNat []):=by
 have c:t.toNat<k.length:=(Int.toNat_lt b).mpr h1;have e:nW (k.map V.s).length t=some t.toNat:=by unfold nW;rw[Xr (Bm (ZS (by decide) b) (Int.lt_trans h1<|Yi.mpr<|Yc d<|nl rfl):sm t=true),Xr b,Xr<|by simpa using c]
 simp only[Ad h,e,aat];simp[XQ c]
def Ke (T:List Tok):(T.map<|Eg i name).length=T.length:=by simp
section
variable{cl:Cl}{v0 v1 v2 it n v5 v:V}{v6:Option V}{H:Hp}
noncomputable abbrev y0(v0 v1 v2 it n v5:V)(v6:Option V):Lo:=[some v0,some v1,some v2,some it,some n,some v5,v6,none,none,none]
def VX (c:cl 13 [v0] H=some (.v it,b))(d:cl 45 [it] b=some (.v n,a))(q:bw cl a4 (y0 v0 v1 v2 it n (.i<|-2) none) a lb=some (.n<|y0 v0 v1 v2 it n t o,a)):
  XU cl a4 [some v0,some v1,some v2,none,none,none,none,none,none,none] H bo.body=XU cl a4 (y0 v0 v1 v2 it n t o) a (bo.body.drop 4):=MX 4 λj=>j _ _ c _ _ d _ _ q
def V4:XU cl a4 (y0 v0 v1 v2 it n (.i t) v6) H (bo.body.drop 4)=if t=-2 then some (.e (.s Pb) v1,H)else XU cl a4 (y0 v0 v1 v2 it n (.i t) v6) H<|bo.body.drop 5:=by
 by_cases h:t=-2
 ·rw[Xr h];exact uh λj=>j _<|kj rfl h
 ·rw[Xu h];exact MX 1 λj=>j _<|fw rfl h
def TW:XU cl a4 (y0 v0 v1 v2 it n (.i t) v6) H (bo.body.drop 5)=if t=-1 then some (.e (.s Hn) v1,H)else XU cl a4 (y0 v0 v1 v2 it n (.i t) v6) H<|bo.body.drop 6:=by
 by_cases h:t=-1
 ·rw[Xr h];exact uh λj=>j _<|kj rfl h
 ·rw[Xu h];exact MX 1 λj=>j _<|fw rfl h
def UL (a:bf H r 8=some c)(b:getItem H c v5=xS k):XU cl a4 (y0 v0 v1 v2 it (.r r) v5 v6) H (bo.body.drop 6)=if k=b8 then some (.e (.s b8) v1,H)else XU cl a4 (y0 v0 v1 v2 it (.r r) v5 v6) H<|bo.body.drop 7:=by
 by_cases h:k=b8
 ·rw[Xr h];exact uh λj=>j _ a _ b _<|kj rfl h
 ·rw[Xu h];exact MX 1 λj=>j _ a _ b _<|fw rfl h
def TD (a:cl 46 [v2] H=some (.v<|.b b,H)):XU cl a4 (y0 v0 v1 v2 it n v5 v6) H (bo.body.drop 7)=if b=false then some (.e (.s G1) v1,H)else XU cl a4 (y0 v0 v1 v2 it n v5 v6) H<|bo.body.drop 8:=by
 cases b
 ·exact uh λj=>j _ _ a
 ·exact MX 1 λj=>j _ _ a
noncomputable abbrev Es(v0 v1 v2 it n v5:V)(v6:Option V)(m:V)(a b:Option V):Lo:=[some v0,some v1,some v2,some it,some n,some v5,v6,some m,a,b]
noncomputable abbrev UJ:ME:=.j<|.C (.e (.q .i (.f (.v 0) 2)<|.v 1) (.v 2)<|.f (.v 0) 1) (.v 3) [7,2]
def Wh (q:bw cl a4 (Es v0 v1 v2 it n v5 v6 (.r H.length) none none) (H++[.dI []]) lF=some (.n<|Es v0 v1 v2 it n v5 o (.r H.length) none none,d))
  (j:ai cl (Es v0 v1 v2 it n v5 o (.r H.length) none none) UJ d=some (c,b)) (h:cl 13 [c] b=some (.v i,e)) (k:cl 45 [i] e=some (.v g,f)):
  XU cl a4 (y0 v0 v1 v2 it n v5 v6) H (bo.body.drop 8)=XU cl a4 (Es v0 v1 v2 it n v5 o (.r H.length) (some c)<|some g) f (bo.body.drop 12):=
 X6 (MX 2 λa=>a _ _ q) (RW (l':=Es v0 v1 v2 it n v5 o (.r H.length) (some c) none) (H':=b) (show bw cl a4 _ _ (.s 8 UJ)=_ by rw[wS,j];rfl)<|MX 1 λa=>a _ _ h _ _ k)
def Wf (t:cl 47 [.r r] H=some (.v p,o))(d:cl 47 [.r m] o=some (.v q,a))(e:aY a .n p q=some b)(g1:bf a r 10=some s)(g:bf a m 10=some u)
  (l:eu a s=some k) (i:eu a u=some f):XU cl a4 (Es v0 v1 v2 it (.r r) v5 v6 w (some c)<|xR m) H (bo.body.drop 12)=if b=true\/k<f then some (.e (.s kT) v1,a)else some (.r c,a):=by
 cases b
 ·by_cases h:k<f
  ·rw[Xr<|.inr h];exact uh λj=>j _ _ t _ _ d _ e _ g _ i _ g1 _ l _<|kj rfl h
  ·rw[Xu<|by simp[h]];exact uh λj=>j _ _ t _ _ d _ e _ g _ i _ g1 _ l _<|fw rfl h
 ·rw[Xr<|.inl rfl];exact uh λj=>j _ _ t _ _ d _ e
def Ug {n:Nat}{W:RS}{pl:Int}(w:Wd n H W):∃o,bw cl a4 (y0 v0 (.i pl) v2 it (.r n) (.i<|-2) none) H lb=some (.n<|y0 v0 (.i pl) v2 it (.r n) (.i<|lB W.f pl) o,H):=by refine ag w.hf λf h a=>Xq (Of (cl:=cl) (H:=H) (ok:=aZ (n+4) f) (cS h) (s:=v0) (nm:=v2) (it:=it) (wk:=.r n) (pl:=pl) (x7:=none) (x8:=none) (x9:=none) f W.f (-2) none a) λo l=>⟨o,?_⟩;have:=w.d;have:=a.len;exact(e5 (a:=n+4) (vs:=f) (by exact hG λj=>j _ w.c) h<|by lia).trans l
def TO {n:Nat}{W:RS}{t:Int}(w:Wd n H W):∃o,bw cl a4 (Es v0 v1 v2 it (.r n) (.i t) v6 (.r H.length) none none) (H++[.dI []]) lF=some (.n<|Es v0 v1 v2 it (.r n) (.i t) o (.r H.length) none none,H++[.dI<|Ei t W.f []]):=by refine ag w.hf λf h a=>?_;have b:=w.d;refine Xq (Nt (cl:=cl) (H:=H) (ok:=aZ (n+4) f) (λx=>cS<|fi h) (s:=v0) (p:=v1) (nm:=v2) (it:=it) (wk:=.r n) (tg:=t) (x8:=none) (x9:=none) f W.f [] v6 a<|bC 0x7d0e001ac9708e0065b tq b) λo l=>⟨o,?_⟩;have:=a.len;exact(e5 (H1:=H++[AO.dI []]) (a:=n+4) (vs:=f) (by exact hG λj=>j _ (w.app [AO.dI []]).c) (fi h)<|aK 0x7a1204412e11c10cb610069b tq this b).trans l
def UY {a i p:Nat}{name:Nm}{D:List<|Int×V}{T:List Tok}{vs:List V}(f:Al p H vs T)(m:H[a]?=some (.l vs))(gD:H[i]?=some (.dI D))(d:vs.length<=100000)(o:sh (T.map<|Eg (λq=>(eH q D).isSome) name).flatten=true):
  ∃x,ai cl (Es v0 v1 (.s name) (.r a) n v5 v6 (.r i) none none) UJ H=some (.s (T.map<|Eg (λq=>(eH q D).isSome) name).flatten,H++x):=by
 have c:=nX (cl:=cl) (l:=Es v0 v1 (.s name) (.r a) n v5 v6 (.r i) none none) (H:=H)
  (elt:=.e (.q .i (.f (.v 0) 2)<|.v 1) (.v 2)<|.f (.v 0) 1) (src:=.v 3) (caps:=[7,2]) (a:=a) (vs:=vs) (QJ H D name) (rfl) m (XJ d<|nl rfl) (λv d=>by
   refine dJ (f.mem v d) λr t l g=>?_;subst l;have b:bf H r 2=xI t.p:=by rw[eh g];rfl
   have j:bf H r 1=xS t.t:=by rw[eh g];rfl
   have e:fX H (.i t.p) (.r i)=some (eH t.p D).isSome:=Kw gD;cases h:(eH t.p D).isSome<;> rw[h]at e<;>(first| exact X6 (hG λk=>k _ b _ e _ j) (by simp[cX,b,j,e,QJ,h])| exact X6 (hG λk=>k _ b _ e)<|by simp[cX,b,j,e,QJ,h]))
 rw[BL f]at c;exact⟨_,BE c (bg _ _) (by have:=f.len;rw[Ke];exact aK 0x3d09022190061a82200cb610079b tq this d) o⟩
end
def WN (w:Wd n H W)(o:Wd q H b)(m:2<=W.f.length/\W.f.length<64)(j:2<=b.f.length/\b.f.length<64):
  ∃x,XU (ae<|d+1) a4 (Es v0 v1 v2 it (.r n) v5 v6 v7 (some c)<|xR q) H (bo.body.drop 12)=some (if un W.f≠un b.f\/b.e.length>W.e.length then .e (.s kT) v1 else .r c,H++x):=by
 refine cps λC p=>VE (d:=d) w m.1 m.2 λv e t r=>VE (d:=d) (o.app e) j.1 j.2 λy g s u=>?_;have f:=(w.app e).app g;have a:=(o.app e).app g;have l:=bA f.hd (by have:=f.bd;rw[XM];exact m5 this);have i:=bA a.hd (by have:=a.bd;rw[XM];exact m5 this);rw[XM]at l i;refine p ⟨e++g,(Wf t s (A7 (fi r) u) f.k a.k l i).trans ?_⟩;rw[<- X1];by_cases h:un W.f≠un b.f\/b.e.length>W.e.length
 ·rw[Xr h,Xr<|h.imp (λh=>by simpa using h) Yi.mpr]
 ·rw[Xu h,Xu λk=>h<|k.imp (λh=>by simpa using h) Yi.mp]
def jw.o (s:jw w (bK M w) W<|SM M w):W.f=dl w (bK M w) (SM M w).f:=s.fd
abbrev MK (M:Md)(a w:Nat->Nm):Prop:=un (dl a (bK M a) (SM M a).f)≠un (dl w (bK M w) (SM M w).f)\/(SM M w).t>(SM M a).t
section
variable{M:Md}{wd:Nat->Nm}{d n a n0:Nat}{place t:Int}{name:Nm}{o:Option V}{H:Hp}{W:RS}{vs:List V}
def WB (f:tM M wd)(z:Lj M<|d+2)(w:Wd n H W)(g:jw wd (bK M wd) W<|SM M wd)(q:Al n0 H vs<|gy (EV M wd) 0)(v:H[a]?=some (.l vs))(y:vs.length<=100000)
  (j:name∈cK) (h:∀t,sh (ci M<|g9 M wd t name)=true):
  ∃x,XU (ae<|d+2) a4 (y0 (.s<|ci M wd) (.i place) (.s name) (.r a) (.r n) (.i t) o) H (bo.body.drop 8)=
   some (if MK M wd (g9 M wd t name)then .e (.s kT) (.i place)else .r<|.s<|ci M<|g9 M wd t name,H++x):=by
 refine cps λC A=>?_;have cs:=Mt f t name;rw[<- g.o]at cs;have cs:=cs;refine Xq (TO (cl:=ae<|d+2) (v0:=.s<|ci M wd) (v1:=.i place) (v2:=.s name) (it:=.r a) (t:=t) (v6:=o) w) λm l=>Xq (UY (cl:=ae<|d+2) (H:=H++[AO.dI<|Ei t W.f []]) (v0:=.s<|ci M wd) (v1:=.i place) (n:=.r n) (v5:=.i t) (v6:=m) (i:=H.length) (name:=name) (D:=Ei t W.f []) (q.app _) (fi v) (bg _ _) y<|by rw[cs];exact h t) λp k=>?_;rw[cs]at k;refine xY (d:=d+2) (wd:=g9 M wd t name) ⟨λi=>by unfold g9 J9;split;exact j;exact f.nm i,h t⟩ z (H++[AO.dI<|Ei t W.f []]++p) λI G N J E B O P Q D F b=>?_;have L:∀{c:Nat->Nm}{W:RS},jw c (bK M c) W (SM M c)->2<=W.f.length/\W.f.length<64:=λs=>by rw[s.o,XM,qy];exact⟨z.a,z.m⟩
 refine Xq (WN (d:=d+1) (v0:=.s<|ci M wd) (v1:=.i place) (v2:=.s name) (it:=.r a) (v5:=.i t) (c:=.s<|ci M<|g9 M wd t name) (v6:=m) (v7:=.r H.length) ((((w.app _).app _).app _).app _) F (L g)<|L b) λu e=>?_;have r:=(Wh l k B D).trans e;rw[g.o,b.o,g.db,b.db]at r;exact A ⟨[AO.dI<|Ei t (dl wd (bK M wd) (SM M wd).f) []]++p++I++G++u,r.trans<|by simp only[X1];try rfl⟩
abbrev Kk (M:Md)(wd:Nat->Nm)(place:Int)(name:Nm)(t:Int):Rs:=if MK M wd (g9 M wd t name)then .e (.s kT) (.i place)else .v<|.s<|ci M<|g9 M wd t name
def Kr (M:Md)(wd:Nat->Nm)(place:Int)(name:Nm)(t:Int):Rs:=
 if t=-2 then .e (.s Pb) (.i place)else
 if t=-1 then .e (.s Hn) (.i place)else
 if(SM M wd).b.getD t.toNat []=b8 then .e (.s b8) (.i place)else
 if fO name=false then .e (.s G1) (.i place)else Kk M wd place name t
def VI (f:tM M wd)(z:Lj M<|d+2)(w:Wd n H W)(s:jw wd (bK M wd) W<|SM M wd)(j:Al n0 H vs<|gy (EV M wd) 0)(k:H[a]?=some (.l vs))(q:vs.length<=100000)
  (m:fO name=true->name∈cK/\∀t,sh (ci M<|g9 M wd t name)=true) (y:-2<=t) (h1:t<(SM M wd).b.length):
  ∃x,dy (XU (ae<|d+2) a4 (y0 (.s<|ci M wd) (.i place) (.s name) (.r a) (.r n) (.i t) o) H<|bo.body.drop 4)=some (Kr M wd place name t,H++x):=by
 refine cps λC u=>?_;have E:∀{v:Rs},Kr M wd place name t=v->some (v,H)=some (Kr M wd place name t,H++[]):=λe=>by rw[e,Ys]
 refine u ?_;rw[V4];by_cases c:t=-2
 ·exact⟨[],by rw[Xr c];exact E<|Xr c⟩
 rw[Xu c,TW];by_cases b:t=-1
 ·exact⟨[],by rw[Xr b];exact E<|(Xu c).trans<|Xr b⟩
 rw[Xu b,UL w.f<|uB (by rw[w.g,s.g]) (by lia) h1<|s.g▸w.e];by_cases g:(SM M wd).b.getD t.toNat []=b8
 ·exact⟨[],by rw[Xr g];exact E<|(Xu c).trans<|(Xu b).trans<|Xr g⟩
 rw[Xu g,TD Wi];by_cases h:fO name=false
 ·exact⟨[],by rw[Xr h];exact E<|(Xu c).trans<|(Xu b).trans<|(Xu g).trans<|Xr h⟩
 rw[Xu h];refine XG (λl p=>Xq (WB (place:=place) (t:=t) (o:=o) f z w s j k q l p) λx e=>⟨x,?_⟩)<|m<|Bool.of_not_eq_false h;rw[e];refine X6 ?_<|Xs (λr=>some (r,H++x)) ((Xu c).trans ((Xu b).trans<|(Xu g).trans<|Xu h):Kr M wd place name t=Kk M wd place name t).symm;by_cases i:MK M wd<|g9 M wd t name
 ·rw[Xr i,Kk,Xr i];rfl
 ·rw[Xu i,Kk,Xu i];rfl
def VS (f:tM M wd)(z:Lj M d)(i:∀x∈(SM M wd).f,-1<=x.2/\x.2<(SM M wd).b.length)
  (c:fO name=true->name∈cK/\∀t,sh (ci M<|g9 M wd t name)=true) (H:Hp):
  ∃x,ae (d+1) 48 [.s<|ci M wd,.i place,.s name] H=some (sE M wd place name,H++x):=by
 refine cps λC k=>xY f z H λy x n W vs q j m r v w s=>?_;obtain⟨d,rfl⟩:∃e,d=e+2:=⟨d-2,by have:=z.b;exact(Ym<|by exact ba 0x109b21046d7806d7e9ac6065b tq this).symm⟩;refine Xq (Ug (cl:=ae<|d+2) (v0:=.s<|ci M wd) (pl:=place) (v2:=.s name) (it:=.r H.length) w) λo l=>?_;rw[s.o]at l;have R:-2<=lB (dl wd (bK M wd) (SM M wd).f) place/\lB (dl wd (bK M wd) (SM M wd).f) place<(SM M wd).b.length:=by
  rcases xx (dl wd (bK M wd) (SM M wd).f) place (-2)with e|⟨o,h,e⟩
  ·unfold lB;rw[e];exact⟨Int.le_refl _,ZS (by decide)<|YD _⟩
  ·refine ag (Yp.1 h) λp g b=>?_;clear h;subst b
   have:=i p g;unfold lB;rw[<- e];exact⟨Yg (by decide) this.1,this.2⟩
 refine Xq (VI (place:=place) (o:=o) f z w s (m.app x) (fi j) r c R.1 R.2) λu e=>k ⟨y++x++u,?_⟩;rw[aU (f:=bo) rfl rfl];refine(Xs dy<|VX q v l).trans<|e.trans ?_;simp only[X1];try rfl
end
structure IV(wd:Nat->Nm)(S:PS)(N:List Nm):Prop where
 len:N.length=S.b.length
 sc:∀s∈S.a,∀p∈s,0<=p.2/\N[p.2.toNat]?=some p.1
 fd:∀x∈S.f,x.2=-1\/(0<=x.2/\N[x.2.toNat]?=some (wd x.1))
theorem xW:∀{s:Sc},gk n s=some v->(n,v)∈s
 |(a,u)::s,h=>by
  simp[rB]at h;by_cases e:a=n
  ·rw[Xr e]at h;cases h;subst e;exact .head _
  ·rw[Xu e]at h;exact .tail _<|xW h
theorem yn:∀{s:Sc},p∈putN n v s->p=(n,v)\/p∈s
 | [],h=>by simp[vD]at h;exact .inl h
 |(a,u)::s,h=>by
  simp[rH]at h;by_cases e:a=n
  ·rw[Xr e]at h
   rcases XE.1 h with z|z
   ·subst e;exact .inl z
   ·exact .inr<|.tail _ z
  ·rw[Xu e]at h
   rcases XE.1 h with z|z
   ·exact .inr<|z▸.head _
   ·rcases yn z with y|y
    ·exact .inl y
    ·exact .inr<|.tail _ y
theorem sF:∀(a),(cr nm (a++[YM])=-2\/cr nm (a++[YM])=-1)\/∃s∈a,(nm,cr nm<|a++[YM])∈s
 | []=>by
  refine .inl ?_;simp[ph,fq,YM,Cs,rB];split
  ·rename_i v h
   split at h
   ·cases h;exact .inr rfl
   ·split at h
    ·cases h;exact .inr rfl
    ·exact cE h nt
  ·exact .inl rfl
 |s::a=>by
  simp only[bE,fq];cases e:gk nm s with
  |some v=>exact .inr ⟨s,.head _,xW e⟩
  |none=>
   rcases sF a with z|⟨q,b,z⟩
   ·exact .inl z
   ·exact .inr ⟨q,.tail _ b,z⟩
section
def IV.seek (h:IV w S N)(i):max (S.seek<|w i) (-1)=-1\/(0<=max (S.seek<|w i) (-1)/\N[(max (S.seek<|w i)<|-1).toNat]?=some (w i)):=by
 rcases sF (nm:=w i) S.a with(e|e)|⟨s,f,e⟩
 ·have c:S.seek (w i)=-2:=e
  refine aa c ?_;exact .inl rfl
 ·have c:S.seek (w i)=-1:=e
  refine aa c ?_;exact .inl rfl
 ·refine XG (λa b=>?_)<|h.sc s f _ e
  have d:0<=S.seek (w i):=a;refine aa (Int.max_eq_left (Yg (by decide) d):max (S.seek<|w i) (-1)=S.seek (w i)) ?_;exact .inr ⟨a,b⟩
def IV.add (h:IV w S N)(b:v=-1\/(0<=v/\N[v.toNat]?=some (w i))):IV w (S.add i v) N:=
 ⟨h.len,h.sc,λx a=>by
  rcases YE.1 a with z|z
  ·exact h.fd x z
  ·simp at z;clear a;subst z;exact b⟩
def IV.res (h:IV w S N)(b:List Nat):∀(F),(∀x∈F,x.2=-1\/(0<=x.2/\N[x.2.toNat]?=some (w x.1)))->∀x∈b.foldl (S.Yo w) F,x.2=-1\/(0<=x.2/\N[x.2.toNat]?=some (w x.1)):=by
 induction b with
 |nil=>intro F a;exact a
 |cons j b i=>
  intro F a;refine aa foldl_cons<|i _ λx c=>?_;rcases List.mem_or_eq_of_mem_set c with z|z
  ·exact a x z
  ·clear c;subst z;exact h.seek _
def IV.snoc (h:IV w S N)(x):(∀s∈S.a,∀p∈s,0<=p.2/\(N++[x])[p.2.toNat]?=some p.1)/\(∀y∈S.f,y.2=-1\/(0<=y.2/\(N++[x])[y.2.toNat]?=some (w y.1))):=by
 have a:∀(k) (z),N[k]?=some z->(N++[x])[k]?=some z:=λk z e=>by have:k<N.length:=qT e;refine aa (Yu this) ?_;exact e
 refine⟨λs c p b=>?_,λy d=>?_⟩
 ·have:=h.sc s c p b;exact⟨this.1,a _ _ this.2⟩
 ·rcases h.fd y d with z|z
  ·exact .inl z
  ·exact .inr ⟨z.1,a _ _ z.2⟩
theorem IV.step(h:IV g S N)(C:∀i j,e≠.f i j):∃N',IV g (S.step g e) N':=by
 cases e with
 |u i=>exact⟨N,h.add<|h.seek i⟩
 |w i=>
  simp only[PS.step];split
  ·refine⟨N,h.len,h.sc,λx n=>?_⟩
   rcases YE.1 n with z|z
   ·exact h.fd x z
   ·simp at z;clear n;subst z;exact .inl rfl
  ·exact⟨N,h.add<|h.seek i⟩
 |d i k=>
  simp only[PS.step];split
  ·rename_i s D v
   refine XG (λa b=>?_)<|h.snoc<|g i;have A:(N++[g i])[((S.b.length:Int)).toNat]?=some (g i):=by rw[Y5,<- h.len];simp
   have m:∀x∈S.f++[(i,(S.b.length:Int))],x.2=-1\/(0<=x.2/\(N++[g i])[x.2.toNat]?=some (g x.1)):=λx n=>by
    rcases YE.1 n with z|z
    ·exact b x z
    ·simp at z;clear n;subst z;exact .inr ⟨by simp,A⟩
   split
   ·exact⟨N++[g i],by simp[h.len],a,m⟩
   ·refine⟨N++[g i],by simp[h.len],λt B p l=>?_,m⟩
    rcases XE.1 B with z|z
    ·clear B;subst z
     rcases yn l with y|y
     ·clear l;subst y;exact⟨by simp,A⟩
     ·exact a s (by refine aa v ?_;exact .head _) p y
    ·exact a t (v▸.tail _ z) p l
  ·exact⟨N,h⟩
 |r=>exact⟨N,h.len,h.sc,h.res S.l S.f h.fd⟩
 |o=>exact⟨N,h.len,λs q p l=>by
   rcases XE.1 q with z|z
   ·clear q;subst z;cases l
   ·exact h.sc s z p l,h.fd⟩
 |c=>exact⟨N,h.len,λs q p l=>h.sc s (List.mem_of_mem_tail q) p l,h.fd⟩
 |f i j=>exact Xw rfl (C i j)
end
noncomputable def mE:List Ev->Bool
 | []=>true
 | .f _ _::_=>false
 |_::r=>mE r
theorem j8:mE []=true:=rfl
theorem j3{i j t}:mE (Ev.f i j::t)=false:=rfl
theorem jQ{i r}:mE (.u i::r)=mE r:=rfl
theorem jD{i r}:mE (.w i::r)=mE r:=rfl
theorem jI{i k r}:mE (.d i k::r)=mE r:=rfl
theorem jA{r}:mE (.r::r)=mE r:=rfl
theorem jJ{r}:mE (.o::r)=mE r:=rfl
theorem jW{r}:mE (.c::r)=mE r:=rfl
@[simp]theorem fj(a b):mE (a++b)=(mE a&&mE b):=by
 induction a with
 |nil=>exact rfl
 |cons e r i=>cases e<;>first| exact i| exact rfl| exact(Xs (_&&·) i).trans (Bool.and_assoc ..).symm
def Q9 (v)(i):mE (kD v i)=true:=by cases v<;>rfl
theorem SH:∀(K) (i),mE (nv K i)=true
 | .n x,i=>rfl
 | .r K,i=>by simp only[fF,fJ,fE,ea,eU,fj,SH K,j8,j3,jQ,jD,jI,jA,jJ,jW];rfl
 | .p x,i=>rfl
 | .a v K,i=>by simp only[fF,fJ,fE,ea,eU,fj,SH K,Q9];rfl
 | .c x,i=>rfl
def VR (c:Option<|Option<|Nm×Vl)(i):mE (ui c i)=true:=by
 match c with
 |none=>rfl
 |some none=>rfl
 |some (some (x,v))=>simp only[ui,fj,Q9];rfl
def WX (c:Option<|Option<|Nm×Kd)(i):mE (AE c i)=true:=by
 match c with
 |none=>rfl
 |some none=>rfl
 |some (some (x,v))=>simp only[m8,nu,kd,fj,SH,j8,j3,jQ,jD,jI,jA,jJ,jW];rfl
def VL (c:Option<|Option<|Nm×Kd)(i):mE (BC c i)=true:=by
 match c with
 |none=>rfl
 |some none=>rfl
 |some (some (x,v))=>simp only[mW,nq,lH,fj,SH,j8,j3,jQ,jD,jI,jA,jJ,jW];rfl
def SW (D)(i):mE (cM D i)=true:=by simp only[cM,fj,VR,WX,VL];rfl
def U6 (s)(i):mE (rn s i)=true:=by cases s<;>rfl
def U8 (v a)(i):mE (qH v a i)=true:=by simp only[qH,fj,Q9,j8,j3,jQ,jD,jI,jA,jJ,jW];rfl
def U3 (s)(i):mE (g7 s i)=true:=by
 match s with
 |none=>rfl
 |some (true,_)=>rfl
 |some (false,_)=>rfl
def Wc (p)(i):mE (rt p i)=true:=by simp only[rt,fj,bE,j8,j3,jQ,jD,jI,jA,jJ,jW,U6,SW,U8];rfl
section
theorem IV.run:∀{S:PS}{N:List Nm},IV wd S N->mE es=true->∃N',IV wd (S.run wd es) N':=by
 induction es with
 |nil=>intro S N h _;exact⟨N,h⟩
 |cons e r d=>
  intro S N h c;have b:mE r=true:=by cases e<;> simp_all[j8,j3,jQ,jD,jI,jA,jJ,jW]
  obtain⟨f,a⟩:=h.step (by intro i j z;subst z;exact eI c nt:∀i j,e≠.f i j);rw[ez];exact d a b
def Ag (w:Nat->Nm)(A:List IL)(i:Nat):Prop:=∀(j:Nat) (s:Nm),(mm A)[j]?=some s->w (i+j)=s
def Ag.l (h:Ag w (A++B) i):Ag w A i:=λj s e=>h j s (by rw[xa,Yu<|qT e];exact e)
def Ag.r (h:Ag w (A++B) i):Ag w B<|i+nI A:=λj s e=>by have:=h (nI A+j) s (by rw[xa,Zy<|by rw[ru];exact aK 0x103012 tq,ru];simpa using e);refine dG this ?_;congr 1;exact ba 0x82c0304103194 tq
def Kq (h:IV wd S N)(k:PW S)(l:∀x∈S.f.map (·.1),x<i)(m:S.l=[])(j:wd (i+1+nI (cu p.p)+nI (aQ p.d)+nB p.v1 p.v2)=wd i):∃N',IV wd (S.run wd<|jv p i) N':=by
 refine Xq (h.run<|Wc p i) λb h1=>?_;have g:i∈(S.run wd<|rt p i).f.map (·.1):=by refine XG (λd e=>?_) (jE (wd:=wd) (e:=.d i a9) k (by simp)<|by simp);refine XG (λa c=>?_)<|lM (wd:=wd) (⟨by simp[PS.step],d.lt⟩:PW<|(S.step wd<|.d i a9).step wd .o) (by simp only[cC,R7,M0,R2];rfl:cP (rn p.p (i+1)++cM p.d (i+1+nI (cu p.p))++qH p.v1 p.v2 (i+1+nI (cu p.p)+nI (aQ p.d)))=true);refine aa (rfl:S.run wd (rt p i)=((S.step wd<|.d i a9).step wd .o).run wd (rn p.p (i+1)++cM p.d (i+1+nI (cu p.p))++qH p.v1 p.v2 (i+1+nI (cu p.p)+nI (aQ p.d))))<|aa c ?_;have:((S.step wd<|.d i a9).step wd .o).f.map (·.1)=S.f.map (·.1)++aw [.d i a9]:=e;refine aa this ?_;simp[cb,cg,b6,cf,cm,cp,b7,cn]
 have f:S.run wd (jv p i)=((S.run wd<|rt p i).step wd<|.f (i+1+nI (cu p.p)+nI (aQ p.d)+nB p.v1 p.v2) i).step wd .c:=by have:jv p i=rt p i++[.f (i+1+nI (cu p.p)+nI (aQ p.d)+nB p.v1 p.v2) i,.c]:=rfl;rw[this,ax];rfl
 exact aa f ((h1.add (by refine aa j ?_;exact(h1.fd _<|jk g)):IV wd ((S.run wd<|rt p i).step wd<|.f (i+1+nI (cu p.p)+nI (aQ p.d)+nB p.v1 p.v2) i) b).step<|by simp)
def FI (h:Ag w (vp p) i):w i=p.nm/\w (i+1+nI (cu p.p)+nI (aQ p.d)+nB p.v1 p.v2)=p.nm:=by
 refine⟨?_,?_⟩
 ·have:=h.l.l.l.l.l 0 p.nm rfl
  simpa using this
 ·have:=h.r 0 p.nm rfl
  rw[ah,ah,ah,ah,(rfl:nI [g1,wW eg,g1,.n p.nm]=1),(rfl:nI [sg 59]=0),MP]at this;refine dG this ?_;congr 1;exact oN 0x1a3101a10b58c6300c60c410b40c63194 tq
def WT:IV w Yz []:=⟨rfl,λs h p a=>by(simp[Yz]at h;subst h;cases a),λx b=>by cases b⟩
def yQ (h:Ag w (aP M) 0):Ag w (bj M.i) 0/\Ag w (aQ M.d) (nI<|bj M.i)/\Ag w (fS M.p) (nI (bj M.i)+nI (aQ M.d)):=by
 have n1:nI o7=0:=rfl;refine⟨?_,?_,?_⟩
 ·simpa [n1]using h.l.l.l.l.l.r
 ·simpa [n1]using h.l.l.l.l.r
 ·simpa [n1]using h.l.l.l.r
def EL (h:Ag wd (aP M) 0):∃N,IV wd (SM M wd) N:=by
 refine bU (yQ h) λr gd g=>bU (lD (wd:=wd) M) λa b c=>Xq (WT.run (wd:=wd)<|U3 M.i 0) λo m=>Xq (m.run<|SW M.d<|nI<|bj M.i) λf d=>?_;have i:∃N,IV wd (((Yz.run wd<|g7 M.i 0).run wd<|cM M.d<|nI<|bj M.i).run wd<|qV M.p<|nI (bj M.i)+nI (aQ M.d)) N:=by
  match hp:M.p with
  |none=>exact⟨f,d⟩
  |some p=>rw[hp]at g;exact XG (λk l=>(Kq d a (Cf (wd:=wd) M) c<|l.trans k.symm))<|FI g
 refine Xq i λq i=>Xq (i.run (es:=.u (nI (bj M.i)+nI (aQ M.d)+nI (fS M.p))::kD M.v (nI (bj M.i)+nI (aQ M.d)+nI (fS M.p)+1))<|by simp only[j8,j3,jQ,jD,jI,jA,jJ,jW,Q9]) λj n=>⟨j,?_⟩;have e:SM M wd=(((Yz.run wd<|g7 M.i 0).run wd<|cM M.d<|nI<|bj M.i).run wd<|qV M.p<|nI (bj M.i)+nI (aQ M.d)).run wd (.u (nI (bj M.i)+nI (aQ M.d)+nI (fS M.p))::kD M.v (nI (bj M.i)+nI (aQ M.d)+nI (fS M.p)+1)):=by simp only[SM,ky,ax,ax,ax]
 refine aa e ?_;exact n
def n8 (h:IV w S N):∀x∈S.f,-1<=x.2/\x.2<S.b.length:=λx b=>by
 rcases h.fd x b with z|⟨a,c⟩
 ·refine aa z ?_;exact⟨Int.le_refl _,ZS (by decide)<|YD _⟩
 ·have:=qT c
  rw[h.len]at this;exact⟨Yg (by decide) a,(Int.toNat_lt a).mp this⟩
def Jv (h:IV w S N)(d:x∈S.f)(f:y∈S.f)(e:x.2=y.2)(a:0<=x.2):w x.1=w y.1:=by
 rcases h.fd x d with z|⟨i,c⟩
 ·exact Xw (z▸a:(0)<=-1) (by decide)
 ·rcases h.fd y f with u|⟨g,b⟩
  ·exact Xw (u▸e▸a:(0)<=-1) (by decide)
  ·rw[e]at c
   rw[c]at b;exact Zd b
noncomputable def dN(w:Nat->Nm):List Ev->List Nm
 | []=>[]
 | .d i _::r=>w i::dN w r
 |_::r=>dN w r
theorem po{w}:dN w []=[]:=rfl
theorem om{w i k r}:dN w (Ev.d i k::r)=w i::dN w r:=rfl
theorem n9{w i r}:dN w (.u i::r)=dN w r:=rfl
theorem oF{w i r}:dN w (.w i::r)=dN w r:=rfl
theorem pd{w r}:dN w (.r::r)=dN w r:=rfl
theorem o5{w r}:dN w (.o::r)=dN w r:=rfl
theorem o6{w r}:dN w (.c::r)=dN w r:=rfl
theorem ov{w i j r}:dN w (.f i j::r)=dN w r:=rfl
@[simp]theorem iT(a b):dN w (a++b)=dN w a++dN w b:=by
 induction a with
 |nil=>exact rfl
 |cons e r i=>cases e<;>first| exact i| exact Xs (_::·) i
theorem pX:∀{s:Sc},n∉s.map (·.1)->gk n s=none
 | [],_=>rfl
 |(a,u)::s,h=>by simp only[af,XE,not_or]at h;have h:=h;simp only[Cs,rB];rw[Xu λe=>h.1 e.symm];exact pX h.2
theorem tF:∀{s:Sc},nm∉s.map (·.1)->(putN nm v s).map (·.1)=s.map (·.1)++[nm]
 | [],_=>rfl
 |(a,u)::s,h=>by simp only[af,XE,not_or]at h;have h:=h;simp only[vD,rH];rw[Xu λe=>h.1 e.symm];simp[tF h.2]
def zL {es:List Ev}:∀{S:PS}{s:Sc}{ss:List Sc},cP es=true->S.a=s::ss->(s.map (·.1)++dN wd es).Nodup->∃g,(S.run wd es).a=g::ss/\g.map (·.1)=s.map (·.1)++dN wd es/\(S.run wd es).t=S.t:=by
 induction es with
 |nil=>intro S s ss _ e _;exact⟨s,e,by simp[po,om,n9,oF,pd,o5,o6,ov],rfl⟩
 |cons q r m=>
  intro S s ss t e n;have h:cP r=true:=by cases q<;> simp_all[ey,et,eC,dW,eD,eA,eq,ei]
  rw[ez];cases q with
  |u i=>exact m (S:=S.step wd<|.u i) h e n
  |w i=>
   have p:(S.step wd<|.w i).a=s::ss/\(S.step wd<|.w i).t=S.t:=by
    simp only[PS.step];split
    ·exact⟨e,rfl⟩
    ·exact⟨e,rfl⟩
   exact aj (m h p.1 n) λg a b c=>⟨g,a,b,c.trans p.2⟩
  |d i k=>
   have x:dN wd (.d i k::r)=wd i::dN wd r:=rfl;rw[x]at n⊢;have l:wd i∉s.map (·.1):=by intro z;rw[YS]at n;exact n.2.2 _ z _ (.head _) rfl
   have p:S.step wd (.d i k)={S with b:=S.b++[k],a:=putN (wd i) S.b.length s::ss,f:=S.f++[(i,(S.b.length:Int))]}:=by simp only[PS.step,e,pX l];rfl
   refine aa p ?_;have v:=tF (nm:=wd i) (v:=(S.b.length:Int)) l;exact aj (m (S:={S with b:=S.b++[k],a:=putN (wd i) S.b.length s::ss,f:=S.f++[(i,(S.b.length:Int))]}) (s:=putN (wd i) S.b.length s) (ss:=ss) h rfl (by rw[v];simpa using n)) λg a b c=>⟨g,a,by rw[b,v];simp,c⟩
  |r=>exact m (S:=S.step wd .r) h e n
  |o=>exact eI t nt
  |c=>exact eI t nt
  |f i j=>exact m (S:=S.step wd<|.f i j) h e n
noncomputable def Ly:Option (Option<|Nm×Vl)->List Nm
 |some (some (x,_))=>[x]
 |_=>[]
noncomputable def Bi:Option (Option<|Nm×Kd)->List Nm
 |some (some (x,_))=>[x]
 |_=>[]
def ze (D:Dc):List Nm:=Ly D.c++Bi D.t++Bi D.v
noncomputable def Oc:Option (Nm×Nm×Nm)->List Nm
 |none=>[]
 |some (a,b,_)=>[a,b]
noncomputable def MA:Option (Bool×Nm)->List Nm
 |none=>[]
 |some (_,a)=>[a]
noncomputable def M1:Option Pr->List Nm
 |none=>[]
 |some p=>[p.nm]
structure ND(M:Md):Prop where
 out:(MA M.i++ze M.d++M1 M.p).Nodup
 i:∀p,M.p=some p->(Oc p.p++ze p.d).Nodup
def dV (v)(i):dN w (kD v i)=[]:=by cases v<;>rfl
theorem dK:∀(K) (i),dN w (nv K i)=[]
 | .n x,i=>rfl
 | .r K,i=>by simp only[fF,fJ,fE,ea,eU,iT,dK K,po,om,n9,oF,pd,o5,o6,ov];rfl
 | .p x,i=>rfl
 | .a v K,i=>by simp only[fF,fJ,fE,ea,eU,iT,dK K,dV];rfl
 | .c x,i=>rfl
def dC (h:Ag w (r8 c) i):dN w (ui c i)=Ly c:=by
 match c with
 |none=>rfl
 |some none=>rfl
 |some (some (x,v))=>have:=h.r.l.l 0 x rfl;simp only[ui,iT,dV,Ly,dA];refine dG this ?_;rfl
def dT (h:Ag w (wx c) i):dN w (AE c i)=Bi c:=by
 match c with
 |none=>rfl
 |some none=>rfl
 |some (some (x,v))=>have:=h.r.l.l 0 x rfl;simp only[m8,nu,kd,iT,po,om,n9,oF,pd,o5,o6,ov,dK,Bi,Ys];refine dG this ?_;rfl
def dR (h:Ag w (zx c) i):dN w (BC c i)=Bi c:=by
 match c with
 |none=>rfl
 |some none=>rfl
 |some (some (x,v))=>have:=h.r.l.l 0 x rfl;simp only[mW,nq,lH,iT,po,om,n9,oF,pd,o5,o6,ov,dK,Bi,dA];refine dG this ?_;rfl
def dD (h:Ag w (aQ D) i):dN w (cM D i)=ze D:=by have a:=h.r;rw[ah,<- XR]at a;simp only[cM,iT,ze,dC h.l.l,dT h.l.r,dR a]
def Wp (h:Ag w (cu s) i):dN w (rn s i)=Oc s:=by
 match s with
 |none=>rfl
 |some (a,b,x)=>simp only[rn,po,om,n9,oF,pd,o5,o6,ov,Oc];refine dG (h 0 a rfl)<|dG (h 1 b rfl) ?_;rfl
def Vm (h:Ag w (bj s) 0):dN w (g7 s 0)=MA s:=by
 match s with
 |none=>rfl
 |some (true,a)=>simp only[qq,qf,qi,po,om,n9,oF,pd,o5,o6,ov,MA];exact dG (h 0 a rfl) rfl
 |some (false,a)=>simp only[qq,qf,qi,po,om,n9,oF,pd,o5,o6,ov,MA];exact dG (h 0 a rfl) rfl
def JI {S:PS}{p:Pr}{i:Nat}{s:Sc}{ss:List Sc}(h:Ag wd (vp p) i)(e:S.a=s::ss)(d:p.nm∉s.map (·.1))(n:(Oc p.p++ze p.d).Nodup):
  ∃g,(S.run wd<|jv p i).a=g::ss/\g.map (·.1)=s.map (·.1)++[p.nm]/\(S.run wd<|jv p i).t=S.t:=by
 have n1:nI [g1,wW eg,g1,.n p.nm]=1:=rfl;refine XG (λk o=>?_)<|FI h;have m:cP (rn p.p (i+1)++cM p.d (i+1+nI (cu p.p))++qH p.v1 p.v2 (i+1+nI (cu p.p)+nI (aQ p.d)))=true:=by simp only[cC,R7,M0,R2];rfl
 rw[<- k]at d⊢;have j:S.step wd (.d i a9)={S with b:=S.b++[a9],a:=putN (wd i) S.b.length s::ss,f:=S.f++[(i,(S.b.length:Int))]}:=by simp only[PS.step,e,pX d];rfl
 have gd:Ag wd (aQ p.d)<|i+1+nI (cu p.p):=by have:=h.l.l.r;rw[ah,ah,n1,(rfl:nI [sg 59]=0)]at this;refine aa (show i+1+nI (cu p.p)=i+(1+nI (cu p.p)+0)by exact aK 0x34216b1806042d03194 tq) ?_;exact this
 refine aj (zL (wd:=wd) (S:=(S.step wd<|.d i a9).step wd .o) (s:=[]) (ss:=putN (wd i) S.b.length s::ss) m (by refine aa j ?_;rfl)<|by simpa only[iT,Wp (by simpa [n1]using h.l.l.l.l.r:Ag wd (cu p.p)<|i+1),dD gd,(by simp only[qH,iT,po,om,n9,oF,pd,o5,o6,ov,dV,Ys]:dN wd (qH p.v1 p.v2<|i+1+nI (cu p.p)+nI (aQ p.d))=[]),map_nil,dA,Ys]using n) λq a b c=>?_;have l:S.run wd (jv p i)=((((S.step wd<|.d i a9).step wd .o).run wd<|rn p.p (i+1)++cM p.d (i+1+nI (cu p.p))++qH p.v1 p.v2 (i+1+nI (cu p.p)+nI (aQ p.d))).step wd<|.f (i+1+nI (cu p.p)+nI (aQ p.d)+nB p.v1 p.v2) i).step wd .c:=by have:jv p i=rt p i++[.f (i+1+nI (cu p.p)+nI (aQ p.d)+nB p.v1 p.v2) i,.c]:=rfl;rw[this,ax];rfl
 refine aa l ?_;generalize((S.step wd<|.d i a9).step wd .o).run wd (rn p.p (i+1)++cM p.d (i+1+nI (cu p.p))++qH p.v1 p.v2 (i+1+nI (cu p.p)+nI (aQ p.d)))=T at a c;refine⟨putN (wd i) S.b.length s,?_,(tF (nm:=wd i) (v:=(S.b.length:Int)) d),?_⟩
 ·show T.a.tail=_
  refine aa a ?_;rfl
 ·show T.t=_
  refine aa c<|aa j ?_;rfl
def Qb (h:Ag wd (aP M) 0)(n:ND M):(SM M wd).t=0:=by
 refine bU (yQ h) λj gd k=>?_;have o:=n.out;rw[YS]at o;refine aj (zL (wd:=wd) (S:=Yz) (s:=[]) (ss:=[]) (es:=g7 M.i 0++cM M.d (nI<|bj M.i)) (by simp only[cC,UX,M0];rfl) rfl (by simpa only[iT,Vm j,dD gd,map_nil,dA]using o.1)) λm f b c=>?_;simp only[iT,Vm j,dD gd,map_nil,dA]at b;have b:=b;have e:SM M wd=(((Yz.run wd<|g7 M.i 0++cM M.d (nI<|bj M.i))).run wd<|qV M.p<|nI (bj M.i)+nI (aQ M.d)).run wd (.u (nI (bj M.i)+nI (aQ M.d)+nI (fS M.p))::kD M.v (nI (bj M.i)+nI (aQ M.d)+nI (fS M.p)+1)):=by simp only[SM,ky,ax,ax,ax]
 refine aa e ?_;generalize t:Yz.run wd (g7 M.i 0++cM M.d (nI<|bj M.i))=T at f c;have l:∃s,(T.run wd<|qV M.p<|nI (bj M.i)+nI (aQ M.d)).a=s::[]/\(T.run wd<|qV M.p<|nI (bj M.i)+nI (aQ M.d)).t=0/\s.map (·.1)=MA M.i++ze M.d++M1 M.p:=by
  match hp:M.p with
  |none=>exact⟨m,f,c,by refine aa b ?_;simp[M1]⟩
  |some p=>
   rw[hp]at k;obtain⟨s,g,i,a⟩:=JI (S:=T) k f (by refine aa b ?_;intro z;exact o.2.2 _ z p.nm (hp▸.head _) rfl)<|n.i p hp
   exact⟨s,g,a.trans c,by refine aa i<|aa b ?_;rfl⟩
 refine aj l λs g a i=>aj (zL (wd:=wd) (es:=.u (nI (bj M.i)+nI (aQ M.d)+nI (fS M.p))::kD M.v (nI (bj M.i)+nI (aQ M.d)+nI (fS M.p)+1)) (by simp only[ey,et,eC,dW,eD,eA,eq,ei,Nn]) g<|by refine aa i ?_;simpa only[po,om,n9,oF,pd,o5,o6,ov,dV,Ys]using n.out) λu q r d=>?_;simp only[d,a]
end
noncomputable def cZ(F:List<|Nat×Int):List<|Int×V:=F.map λx=>((x.1:Int),V.i x.2)
noncomputable def zz:Nm:=[117,115,101]
noncomputable def Dm:Nm:=[102,111,114,119,97,114,100]
noncomputable def DQ:Nm:=[114,101,115,111,108,118,101]
noncomputable def KQ:Nm:=[111,112,101,110]
noncomputable def Ge:Nm:=[99,108,111,115,101]
noncomputable def QB:Nm:=[101,110,100]
def QP:List Nm:=[wq,b8,tE,vi,zM,a9,wh]
def kW:Ev->V
 | .u i=>.t [.s zz,.i i]
 | .w i=>.t [.s Dm,.i i]
 | .d i k=>.t [.s k,.i i]
 | .r=>.t [.s DQ,.i 0]
 | .o=>.t [.s KQ,.i 0]
 | .c=>.t [.s Ge,.i 0]
 | .f i j=>.t [.s QB,.t [.i i,.i j]]
noncomputable def dj(S:PS):List V:=S.l.map λj=>V.i ((S.f.getD j (0,0)).1:Nat)
def qc (n:Nat)(H:Hp):List Nat->List Sc->Prop:=A2 λr s=>n<=r/\H[r]?=some (.dS<|cv s)/\s.length<=900
def qc.len {n:Nat}{H:Hp}{s:List Nat}{a:List Sc}:qc n H s a->s.length=a.length:=A2.len
def qc.app (x:Hp){n:Nat}{H:Hp}{s:List Nat}{ss:List Sc}:qc n H s ss->qc n (H++x) s ss:=A2.mono λa=>⟨a.1,fi a.2.1,a.2.2⟩
def qc.set {n a:Nat}{H:Hp}{o e:AO}(d:H[a]?=some o)(h:∀s,o≠.dS s){c:List Nat}{ss:List Sc}:qc n H c ss->qc n (H.set a e) c ss:=
 A2.mono λb=>⟨b.1,aB b.2.1<|by intro z;subst z;have:=b.2.1;rw[d]at this;cases this;exact h _ rfl,b.2.2⟩
def qc.aev {n a:Nat}{H:Hp}{o:AO}{s:List Nat}{ss:List Sc}(c:a∉s)(h:qc n H s ss):qc n (H.set a o) s ss:=
 A2.ind (M:=λs ss=>a∉s->qc n (H.set a o) s ss) (λ_=>trivial) (λb i c=>XG (λh1 d=>⟨⟨b.1,aB b.2.1 h1,b.2.2⟩,i d⟩)<|not_or.mp<|mt XE.mpr c) h c
def qc.lt {n:Nat}{H:Hp}{s:List Nat}{a:List Sc}:qc n H s a->∀r∈s,r<H.length:=A2.mem λb=>xg b.2.1
noncomputable def Pm:List MS:=[.i (.q .i (.v 1)<|.t (.v 0)<|.v 2) [.r<|.t (.t (.v 0)<|.v 2)<|.v 1] []]
def vA (h:i<n)(a:n<=1000000):nW n (i:Int)=some i:=by unfold nW;refine aa (Xr<|mZ<|by exact aK 0x3d090220903d0902210cb610067b tq h a)<|aa (Xr<|YD _)<|aa (Xr<|h) ?_;simp
theorem BH{cl:Cl}{n b:Nat}{H:Hp}{nm:Nm}{L:List V}(hL:H[b]?=some (.l L))(p:L.length<=900):∀(a:List Nat) (c:List Sc) (o:Option V) (T:List V),qc n H a c->L=a.reverse.map V.r++T->
  (∃u,aM (λv l d=>XU cl a4 (l.set 2<|some v) d Pm) (λ_=>true) (bS ((a.length:Int)-1) a.length<|-1) [xR b,xS nm,o] H=some (.n [xR b,xS nm,u],H)/\cr nm c=-2)\/
  aM (λv l d=>XU cl a4 (l.set 2<|some v) d Pm) (λ_=>true) (bS ((a.length:Int)-1) a.length<|-1) [xR b,xS nm,o] H=some (.r<|.i<|cr nm c,H)
 | [],[],o,T,_,_=>.inl ⟨o,bu rfl,rfl⟩
 | [],s::c,o,T,h,_=>h.elim
 |r::a,[],o,T,h,_=>h.elim
 |r::a,s::c,o,T,h,e=>by
  have f:L=a.reverse.map V.r++(V.r r::T):=by refine aa e ?_;simp
  have j:getItem H (.r b) (.i (a.length:Int))=xR r:=by simp[Ad hL];refine aa (vA (by refine aa f ?_;simp:a.length<L.length)<|XJ ‹_›<|nl rfl) ?_;simp;refine aa f<|aa (Zy<|by simp) ?_;simp
  have g:=lC nm s;have i:=h.1.2.1;refine aa (by simp:((r::a).length:Int)-1=(a.length:Int)) ?_;cases q:gk nm s with
  |some v=>
   rw[q]at g;refine .inr<|mj rfl ?_;have m:fX H (.s nm) (.r r)=some true:=by simp[l6 i,g]
   have k:getItem H (.r r) (.s nm)=xI v:=by simp[P1 i,g]
   exact X6 (uh λt=>t _ j _ m _ j _ k) (by simp[fq,q])
  |none=>
   rw[q]at g;have w:(λ(v:V) (l:Lo) (d:Hp)=>XU cl a4 (l.set 2<|some v) d Pm) (.i (a.length:Int)) [xR b,xS nm,o] H=some (.n [xR b,xS nm,xI (a.length:Int)],H):=by simp[Pm,j,(by simp[l6 i,g]:fX H (.s nm) (.r r)=some false)]
   refine aa (aS rfl w) ?_;simp only[ph,fq,q];exact dG Int.sub_eq_add_neg<|BH hL p a c _ _ h.2 f
def S3 {n a d:Nat}{H:Hp}{nm:Nm}{s:List Nat}{f:List Sc}(hL:H[a]?=some (.l<|s.reverse.map V.r))(c:s.length<=900)(h:qc n H s f):ae (d+1) 60 [.r a,.s nm] H=some (.v<|.i<|cr nm f,H):=by
 have b:eu H (.r a)=some (s.length:Int):=by have:=bA hL (by simp only[XM,Zf];exact m5 c);simpa using this
 have l:bw (ae d) a4 [xR a,xS nm,none] H iN=aM (λv k i=>XU (ae d) a4 (k.set 2<|some v) i Pm) (λ_=>true) (bS ((s.length:Int)-1) s.length<|-1) [xR a,xS nm,none] H:=by
  unfold iN;refine yb.trans<|(bI (hG λj=>j _ b _ rfl:ai (ae d) [xR a,xS nm,none] (.o .s (.n<|.v 0)<|.i 1) H=some (.i<|(s.length:Int)-1,H))).trans<|(Xr<|B5.mpr ⟨Int.sub_le_sub_right (YD _) 1,Yg (Int.sub_le_self _<|by decide)<|YL.mpr<|XJ c<|nl rfl⟩).trans ?_;have:((s.length:Int)-1+1).toNat=s.length:=by rw[Int.sub_add_cancel];rfl
  refine aa this ?_;rfl
 refine aa (aU (f:=nG) rfl rfl) ?_;rcases BH (cl:=ae d) (nm:=nm) hL (by simpa using c) s f none [] h ((Ys _).symm)with⟨o,g,e⟩|g
 ·rw[g]at l
  simp[nG,l,e]
 ·rw[g]at l
  exact j6 λj=>j _ _ l
structure RR(n:Nat)(H:Hp)(S:PS)(lL c:Nat)(sr:List Nat):Prop where
 d:H[n+2]?=some (.l<|sr.reverse.map V.r)
 u:qc n H sr (S.a++[YM])
 hm:H[n+3]?=some (.dI<|cZ S.f)
 g:H[n+4]?=some (.l<|S.b.map V.s)
 l:H[lL]?=some (.l<|dj S)
 a:n+5<=lL
 sn:sr.Nodup
 E:S.f.length<=c
 F:S.b.length<=c
 G:S.l.length<=c
 A:S.a.length<=c+1
 B:∀s∈S.a,s.length<=c
 m:c<=800
def RR.len {n:Nat}{H:Hp}{S:PS}{b c:Nat}{s:List Nat}(r:RR n H S b c s):n+5<H.length:=by have:=xg r.l;have:=r.a;exact ba 0x4ad032611067b115a06065b tq ‹_› ‹_›
def RR.srl {n:Nat}{H:Hp}{S:PS}{b c:Nat}{s:List Nat}(r:RR n H S b c s):s.length<=900:=by have:=r.u.len;have:=r.A;have:=r.m;simp only[Xx,aE,br]at *;exact ba 0x708e04b2070832d85a260432d85a06b02c0069b tq ‹_› ‹_› ‹_›
structure Kp(n:Nat)(H H':Hp):Prop where
 lo:∀i,i<n->H'[i]?=H[i]?
def Kp.refl (n)(H):Kp n H H:=⟨λ_ _=>rfl⟩
def Kp.trans (a:Kp n H c)(b:Kp n c H3):Kp n H H3:=⟨λi h=>(b.lo i h).trans<|a.lo i h⟩
def Kp.set (o)(h:n<=a):Kp n H<|H.set a o:=⟨λi b=>YJ<|XB<|XO ‹_› ‹_›⟩
def Kp.app (x)(h:n<=H.length):Kp n H<|H++x:=⟨λi a=>aa (Yu<|XO ‹_› ‹_›) rfl⟩
def jg (x:Nat×Int)(h:∀j∈S.l,j<S.f.length):(S.l.map λj=>V.i (((S.f++[x]).getD j (0,0)).1:Nat))=dj S:=by unfold dj;refine YU λj a=>?_;simp[Yq,Yu<|h j a]
theorem xJ{i:Nat}{v:Int}:∀{F:List<|Nat×Int},i∉F.map (·.1)->kX (i:Int) (.i v) (cZ F)=cZ (F++[(i,v)])
 | [],_=>rfl
 |(a,u)::F,h=>by simp only[af,XE,not_or]at h;have h:=h;simp only[cZ,af,bE,j2,ig];refine aa (Xu<|by have:=h.1;exact mt (Int.ofNat_inj).mp<|X0 h.1) ?_;have:=xJ (v:=v) h.2;simp only[cZ]at this;exact aa this rfl
theorem lw{j:Nat}:∀{F:List<|Nat×Int},j∈F.map (·.1)->eH (j:Int) (cZ F)=xI (cB j F)
 |(a,u)::F,h=>by
  simp only[af,XE]at h;simp only[cZ,af,ia,h9,jS,j0];by_cases e:a=j
  ·subst e;simp
  ·refine aa (Xu<|mt (Int.ofNat_inj).mp e)<|aa (Xu e) ?_
   rcases h with h|h
   ·exact Xw h.symm e
   ·exact lw h
theorem yr{v:Int}:∀{F:List<|Nat×Int} (j:Nat),(F.map (·.1)).Nodup->j<F.length->kX ((F.getD j (0,0)).1:Nat) (.i v) (cZ F)=cZ (F.set j ((F.getD j (0,0)).1,v))
 | [],j,_,h=>by simp at h
 |(a,u)::F,0,b,h=>by simp[cZ,j2,ig]
 |(a,u)::F,j+1,b,h=>by
  simp only[af,X9]at b;have c:j<F.length:=by simpa using h
  have n:a≠(F.getD j (0,0)).1:=by intro z;refine b.1<|aa z<|aa (Yq)<|aa (XQ c) ?_;exact Y7 (f:=(·.1))<|ZJ c
  have i:=yr (v:=v) (F:=F) j b.2 c;have e:((a,u)::F).getD (j+1) (0,0)=F.getD j (0,0):=rfl;refine aa e ?_;simp only[cZ,af,j2,ig,set_cons_succ]at i⊢;exact aa (Xu<|by lia)<|aa i rfl
def rpB:List MS:=[.i (.q .e (.v 7)<|.s [111,112,101,110]) [.a (.v 2)<|.dS [] []] [.i (.q .e (.v 7)<|.s [99,108,111,115,101]) [.x<|.pop<|.v 2] [.i (.q .e (.v 7)<|.s [101,110,100]) [.t (.v 3) (.t (.v 8)<|.i 0)<|.t (.v 3)<|.t (.v 8)<|.i 1] [.i (.q .e (.v 7)<|.s [114,101,115,111,108,118,101]) [dY,.s 5<|.l []] [.i (.q .i (.v 7)<|.p [(.s [117,115,101]),(.s [102,111,114,119,97,114,100])]) [.s 10<|.c 60 [(.v 2),(.t (.v 1)<|.v 8)],.t (.v 3) (.v 8)<|.x (.v 10)<|.i<|-1,.i (.a [(.q .e (.v 7)<|.s [102,111,114,119,97,114,100]),(.q .e (.v 10)<|.i<|-2)]) [.a (.v 5)<|.v 8] []] [.t (.v 3) (.v 8)<|.n<|.v 4,.i (.q .i (.t (.v 1)<|.v 8)<|.t (.v 2)<|.i<|-1) [.v 6 .a<|.i 1] [.t (.t (.v 2)<|.i<|-1) (.t (.v 1)<|.v 8)<|.n<|.v 4],.a (.v 4)<|.v 7]]]]]]
theorem Au:fC=.ZE 7 8 (.v 0) rpB:=rfl
section
variable{wd:Nat->Nm}{n lL c d eL wL:Nat}{H:Hp}{S:PS}{sr:List Nat}
structure qk(n m:Nat)(wd:Nat->Nm)(wL:Nat)(H:Hp):Prop where
 lt:wL<n
 g:∃ws:List Nm,H[wL]?=some (.l<|ws.map V.s)/\ws.length=m/\m<=900/\∀i,i<m->ws.getD i []=wd i
def qk.keep (w:qk n m wd wL H)(k:Kp n H H'):qk n m wd wL H':=by exact ag w.g λe a b=>⟨w.lt,e,(k.lo _ w.lt).trans a,b⟩
def qk.item (w:qk n m wd wL H)(h:i<m):getItem H (.r wL) (.i (i:Int))=xS (wd i):=by refine cps λC k=>En w.g λj a b c e=>k ?_;simp only[Ad a,a,(vA (n:=(j.map V.s).length) (i:=i) (by simpa [b]using h)<|by simp[b];exact m5 c),aat,cz,b9,mS];have:i<j.length:=yC h b;have f:=e i h;simp[XQ this]at f;simp[XQ this,f]
def oR (F):(cZ F).length=F.length:=by simp[cZ]
def RR.ab6 (r:RR n H S lL c sr)(w:∀j∈S.l,j<S.f.length)(i:Nat)(v:Int)(q:i∉S.f.map (·.1))(e:c<800):
  setItem H (.r<|n+3) (.i (i:Int)) (.i v)=some (H.set (n+3)<|.dI<|cZ<|S.f++[(i,v)])/\RR n (H.set (n+3)<|.dI<|cZ<|S.f++[(i,v)]) (S.add i v) lL (c+1) sr:=by
 have b:=r.E;have k:=r.F;have o:=r.G;have p:=r.A;have f:=r.a;have z:=r.hm;refine⟨?_,aB r.d<|Bp,r.u.set z λs h=>Ee h nt,dP z,aB r.g<|H7,?_,f,r.sn,?_,?_,?_,?_,λs t=>by have:=r.B s t;exact aC this,qa e⟩
 ·simp only[PM z]
  exact aa (Xr<|by rw[oR];exact Gr b e)<|aa (xJ q) rfl
 ·have:dj (S.add i v)=dj S:=jg _ w
  refine aa this ?_;exact aB r.l<|zZ f
 ·simp only[PS.add,Xx,br];exact i9 b
 ·show S.b.length<=_;exact aC k
 ·show S.l.length<=_;exact aC o
 ·show S.a.length<=_;exact aK 0x1685a1630120b42c0065b tq p
variable(wd n eL wL lL c sr)in
def xy (d:Nat)(H:Hp)(S:PS)(e:Ev)(b o:Option V):Prop:=∃a l s f p x y,kW e=.t [x,y]/\
 XU (ae d) a4 [xR eL,xR wL,xR<|n+2,xR<|n+3,xR<|n+4,xR lL,xI S.t,some x,some y,b,o] H rpB=
  some (.n [xR eL,xR wL,xR<|n+2,xR<|n+3,xR<|n+4,xR l,xI (S.step wd e).t,some x,some y,f,p],a)/\
 RR n a (S.step wd e) l (c+1) s/\Kp n H a
def B0 (t):fX H (.s t) (.t [.s [117,115,101],.s [102,111,114,119,97,114,100]])=some (decide (t=zz\/t=Dm)):=(da t [zz,Dm]).trans (by simp)
def Je {m i:Nat}{o ZI:Option V}(r:RR n H S lL c sr)(w:qk n m wd wL H)(f:PW S)(a:1<=d)(e:i∉S.f.map (·.1))(h:i<m)(b:c<800):xy wd n lL c eL wL d H S (.u i) o ZI:=by refine lV 1 a rfl λd a=>?_;have g:=w.item h;have q:=S3 (d:=d) (nm:=wd i) r.d r.srl r.u;have k:cr (wd i) (S.a++[YM])=S.seek (wd i):=rfl;rw[k]at q;refine XG (λs l=>?_)<|r.ab6 f.lt i (max (S.seek<|wd i)<|-1) e b;exact⟨_,lL,sr,o,xI<|S.seek<|wd i,_,_,rfl,(uh λj=>j _ rfl _ rfl _ rfl _ rfl _ rfl _ g _ _ q _ s _ rfl),l,Kp.set _<|Xz _ _⟩
def IM {m i:Nat}{x ZI:Option V}(r:RR n H S lL c sr)(w:qk n m wd wL H)(u:PW S)(z:1<=d)(F:i∉S.f.map (·.1))(t:i<m)(y:c<800):xy wd n lL c eL wL d H S (.w i) x ZI:=by
 refine lV 1 z rfl λd z=>?_;have g:=w.item t;have q:=S3 (d:=d) (nm:=wd i) r.d r.srl r.u;have G:cr (wd i) (S.a++[YM])=S.seek (wd i):=rfl;rw[G]at q;refine XG (λb a=>?_)<|r.ab6 u.lt i (max (S.seek<|wd i)<|-1) F y;by_cases f:S.seek (wd i)=-2
 ·rw[f]at b a q
  have a:=a;have D:max (-2:Int) (-1)=-1:=rfl;rw[D]at b a;have b:=b;have a:=a;obtain⟨e,j⟩:∃e,e=H.set (n+3) (.dI<|cZ<|S.f++[(i,-1)]):=⟨_,rfl⟩;rw[<- j]at b a;have b:=b;have a:=a;have k:bF e lL (.i (i:Int))=some (e.set lL<|.l<|dj S++[.i i]):=by have E:dj (S.add i<|-1)=dj S:=jg _ u.lt;have:=a.l;rw[E]at this;have p:=r.G;have I:=r.m;simp only[bF,this,bh];exact aa (Xr<|by simp only[dj,XM];exact qj p y) rfl
  have l:mB e lL=true:=kB a.l;have o:=r.a;refine⟨e.set lL<|.l<|dj S++[.i i],lL,sr,x,xI<|-2,_,_,rfl,?_,?_,(by refine aa j ?_;exact Kp.set _ (Xz _ _):Kp n H e).trans<|Kp.set _<|aK 0x412095a06065b tq o⟩
  ·exact X6 (uh λv=>v _ rfl _ rfl _ rfl _ rfl _ rfl _ g _ _ q _ b _ rfl _ rfl l _ k) (by simp[rpB,B0,zz,Dm,g,q,b,PS.step,PS.add,f,l,k])
  have A:=a.E;have B:=a.F;have p:=r.G;have C:=a.A
  ·simp only[PS.step,f,if_true]
   refine⟨aB a.d<|aK 0x4d0b019015a16065b tq o,a.u.set a.l λs h=>Ee h nt,aB a.hm<|aK 0x6d0b019015a16065b tq o,aB a.g<|XB ‹_›,?_,o,a.sn,A,B,?_,C,a.B,a.m⟩
   ·refine aa (dP a.l) ?_
    congr 2;unfold dj;simp only[Zj,af,map_nil];congr 1
    ·exact(jg (S:=S) (i,-1) u.lt).symm
    ·simp[Yq]
   ·simp only[Xx,aE,br];exact i9 p
 ·refine⟨H.set (n+3)<|.dI<|cZ<|S.f++[(i,max (S.seek<|wd i)<|-1)],lL,sr,x,xI<|S.seek<|wd i,_,_,rfl,?_,?_,Kp.set _<|Xz _ _⟩
  ·exact X6 (uh λv=>v _ rfl _ rfl _ rfl _ rfl _ rfl _ g _ _ q _ b _ rfl _ (fw rfl f)) (by simp[rpB,B0,zz,Dm,g,q,zA,b,PS.step,PS.add,f])
  ·simp only[PS.step,f,if_false];exact a
def IW {i j:Nat}{o ZI:Option V}(r:RR n H S lL c sr)(e:PW S)(a:i∉S.f.map (·.1))(b:j∈S.f.map (·.1))(h:c<800):xy wd n lL c eL wL d H S (.f i j) o ZI:=by obtain⟨s,g⟩:=r.ab6 e.lt i (cB j S.f) a h;have k:nW 2 0=some 0:=rfl;have l:nW 2 1=some 1:=rfl;exact⟨_,lL,sr,o,ZI,_,_,rfl,(uh λf=>f _ rfl _ rfl _ rfl _ (rfl:getItem H (.t [.i (i:Int),.i (j:Int)]) (.i 1)=xI (j:Int)) _ (by simp only[Mi r.hm,r.hm,cz,b9,mS];exact lw b) _ (rfl:getItem H (.t [.i (i:Int),.i (j:Int)]) (.i 0)=xI (i:Int)) _ s),g,Kp.set _<|Xz _ _⟩
def IP {o ZI:Option V}(r:RR n H S lL c sr)(p:c<800):xy wd n lL c eL wL d H S .o o ZI:=by
 have l:=r.a;have f:=r.len;have i:=r.E;have j:=r.F;have k:=r.G;have m:=r.A;have g:=r.srl;have a:=r.d;have e:mB H (n+2)=true:=kB a;refine⟨(H++[AO.dS []]).set (n+2)<|.l<|(H.length::sr).reverse.map V.r,lL,H.length::sr,o,ZI,_,_,rfl,?_,?_,(Kp.app _<|by exact zf f).trans<|Kp.set _<|Xz _ _⟩;have b:bF (H++[.dS []]) (n+2) (.r H.length)=some ((H++[AO.dS []]).set (n+2)<|.l<|(H.length::sr).reverse.map V.r):=by have:(H++[AO.dS []])[n+2]?=some (.l<|sr.reverse.map V.r):=fi a;simp only[bF,this,bh];refine aa (Xr<|by simp only[XM,Zf];exact m5 g) ?_;simp
 ·have u:([]:List<|List Nat).zip ([]:List V)=[]:=rfl
  exact uh λt=>t _ rfl e _ _ rfl _ b
 ·refine⟨dP<|fi a,?_,aB (fi r.hm)<|vM,aB (fi r.g)<|vN,aB (fi r.l)<|aK 0x2268197095a06065b tq l,l,?_,by show S.f.length<=_;exact aC i,by show S.b.length<=_;exact aC j,by show S.l.length<=_;exact aC k,?_,?_,qa p⟩
  ·exact⟨⟨zf f,aB (bg _ _)<|aK 0x2268197095a06067b tq f,by simp⟩,(r.u.app _).set (fi a) λs h=>Ee h nt⟩
  ·refine X9.2 ⟨λh=>?_,r.sn⟩
   have:=r.u.lt _ h;exact vH this
  ·simp only[PS.step,aE];exact GZ m
  ·intro s q
   rcases XE.1 q with z|z
   ·subst z;simp
   ·have:=r.B s z;exact aC this
def J6 {o ZI:Option V}(r:RR n H S lL c sr)(u:S.a≠[])(p:c<800):xy wd n lL c eL wL d H S .c o ZI:=by
 have l:=r.a;have g:=r.E;have i:=r.F;have j:=r.G;have k:=r.A;obtain⟨s,ss,f⟩:∃s ss,S.a=s::ss:=by
  cases q:S.a with
  |nil=>exact Xw q u
  |cons s ss=>exact⟨s,ss,rfl⟩
 have e:=r.u;rw[f]at e;cases sr with
 |nil=>exact e.elim
 |cons b sr=>
  refine⟨H.set (n+2)<|.l<|sr.reverse.map V.r,lL,sr,o,ZI,_,_,rfl,?_,?_,Kp.set _<|Xz _ _⟩;have a:wv H (n+2)=some (.r b,H.set (n+2)<|.l<|sr.reverse.map V.r):=by simp only[wv,r.d,(by simp:((b::sr).reverse.map V.r)=sr.reverse.map V.r++[V.r b]),getLast?_concat,dropLast_concat,bh,b9];exact aa (Xr<|by simp only[Xx,XM,Zf,aE,br]at *;exact bC 0x7a120442d0358064b84705a06065b tq r.srl) rfl
  ·exact uh λw=>w _ rfl _ rfl _ _ a
  ·refine⟨dP r.d,?_,aB r.hm<|vM,aB r.g<|vN,aB r.l<|aK 0x2268197095a06065b tq l,l,(X9.1 r.sn).2,by show S.f.length<=_;exact aC g,by show S.b.length<=_;exact aC i,by show S.l.length<=_;exact aC j,?_,?_,qa p⟩
   ·have m:(S.step wd .c).a=ss:=by simp only[PS.step,f,tail_cons]
    exact aa m<|qc.set r.d (λs h=>Ee h nt) e.2
   ·simp only[PS.step,List.length_tail];exact XJ (sub_le _ _)<|Z3 k
   ·intro t v
    have:=r.B t<|List.mem_of_mem_tail v;exact aC this
end
section
variable{wd:Nat->Nm}{n lL c d eL wL:Nat}{H:Hp}{S:PS}{sr:List Nat}
def FZ:∀k∈QP,k≠KQ/\k≠Ge/\k≠QB/\k≠DQ/\k≠zz/\k≠Dm:=by decide
def qc.upd (h:qc n H (r::sr)<|s::e)(b:r∉sr)(a:s'.length<=900):qc n (H.set r<|.dS<|cv s') (r::sr)<|s'::e:=
 ⟨⟨h.1.1,dP h.1.2.1,a⟩,qc.aev b h.2⟩
def GO (r:RR n H S lL c sr)(w:qk n m wd wL H)(Q:PW S)(hi:i∉S.f.map (·.1))(N:i<m)(hk:k∈QP)(x:c<800):xy wd n lL c eL wL d H S (.d i k) o9 ZI:=by
 refine cps λC kC=>rx (FZ k hk) λk1 k2 k3 k4 k5 k6=>?_;have l5:=r.a;have b1:=r.E;have I:=r.F;have b3:=r.G;have b4:=r.A;obtain⟨s,ss,v⟩:∃s ss,S.a=s::ss:=by
  cases q:S.a with
  |nil=>exact Xw q Q.ne
  |cons s ss=>exact⟨s,ss,rfl⟩
 have sd:=r.u;rw[v]at sd;refine kC ?_;cases sr with
 |nil=>exact sd.elim
 |cons r0 sr=>
 have sn:=r.sn;have A:eu H (.r<|n+4)=some (S.b.length:Int):=by have:=bA r.g (by simp;exact qj I x);simpa using this
 refine XG (λR b=>?_)<|r.ab6 Q.lt i (S.b.length:Int) hi x;obtain⟨H1,B⟩:∃H1,H1=H.set (n+3) (.dI<|cZ<|S.f++[(i,(S.b.length:Int))]):=⟨_,rfl⟩;rw[<- B]at R b;have R:=R;have G:Kp n H H1:=by refine aa B ?_;exact Kp.set _<|Xz _ _
 have g1:=(w.keep G).item N;have b:=b;have l:=b.u;have L:(S.add i (S.b.length:Int)).a=s::ss:=v;rw[L]at l;have l:=l;have T:=l.1.2.1;have F:=r.B s (by refine aa v ?_;exact .head _);have g:getItem H1 (.r<|n+2) (.i<|-1)=xR r0:=by refine on (l:=sr.reverse.map V.r)<|aa b.d ?_;simp
 have gs:=lC (wd i) s;have p:fX H1 (.s<|wd i) (.r r0)=some (gk (wd i) s).isSome:=by rw[l6 T,gs];cases gk (wd i) s<;>rfl
 have E:eu H1 (.r<|n+4)=some (S.b.length:Int):=by have:=bA b.g (by simp;exact qj I x);simpa [PS.add]using this
 have J:=b.g;have M:mB H1 (n+4)=true:=kB J;cases e:(gk (wd i) s).isSome with
 |true=>
  rw[e]at p;have p:=p;have D:bF H1 (n+4) (.s k)=some (H1.set (n+4)<|.l<|(S.b++[k]).map V.s):=by have:H1[n+4]?=some (.l<|S.b.map V.s):=J;simp only[bF,this,bh];refine aa (Xr<|by simp;exact qj I x) ?_;simp
  refine⟨H1.set (n+4)<|.l<|(S.b++[k]).map V.s,lL,r0::sr,o9,ZI,_,_,rfl,?_,?_,G.trans<|Kp.set _<|Xz _ _⟩
  ·exact X6 (uh λjj=>jj _ (fw rfl k1) _ (fw rfl k2) _ (fw rfl k3) _ (fw rfl k4) _ (fw (B0 (H:=H) _) λz=>z.elim k5 k6) _ A _ R _ g1 _ g _ p _ rfl M _ D) (by simp[PS.step,v,e])
  ·simp only[PS.step,v,e,if_true]
   refine⟨aB b.d<|G9,?_,aB b.hm<|HS,dP J,?_,l5,sn,?_,?_,by show S.l.length<=_;exact aC b3,by have X:(s::ss).length<=c+1:=(v▸r.A);show(s::ss).length<=_;exact Z3 X,λt U=>by have:=r.B t<|v▸U;exact aC this,qa x⟩
   ·exact l.set J λs h=>Ee h nt
   ·have e2:dj (S.add i (S.b.length:Int))=dj S:=jg _ Q.lt
    have:=b.l;rw[e2]at this;unfold dj;rw[(jg _ Q.lt:(S.l.map λj=>V.i (((S.f++[(i,(S.b.length:Int))]).getD j (0,0)).1:Nat))=dj S)];exact aB this<|Yd ‹_›
   ·simp only[Xx,aE,br];exact i9 b1
   ·simp only[Xx,aE,br];exact i9 I
 |false=>
  rw[e]at p;clear L gs B M N Q w;obtain⟨u,f⟩:∃u,u=H1.set r0 (.dS<|cv<|putN (wd i) S.b.length s):=⟨_,rfl⟩;have W:∀a o,H1[a]?=some o->(∀s,o≠.dS s)->r0≠a:=λa o ha Y z=>by subst z;rw[T]at ha;cases ha;exact Y _ rfl
  have y:u[n+4]?=some (.l<|S.b.map V.s):=by refine aa f ?_;exact aB J<|W _ _ J λs h=>Ee h nt
  have D:bF u (n+4) (.s k)=some (u.set (n+4)<|.l<|(S.b++[k]).map V.s):=by simp only[bF,y,bh];refine aa (Xr<|by simp only[XM];exact qj I x) ?_;simp
  have O:=ow (wd i) (S.b.length:Int) s;have P:setItem H1 (.r r0) (.s<|wd i) (.i (S.b.length:Int))=some (H1.set r0<|.dS<|cv<|putN (wd i) S.b.length s):=by simp only[PD T,T,pf,b9,mS];rw[Xr<|by simp only[cv,XM];exact Gr F x,og]
  rw[<- f]at P;refine⟨u.set (n+4)<|.l<|(S.b++[k]).map V.s,lL,r0::sr,o9,ZI,_,_,rfl,?_,?_,(G.trans (by refine aa f ?_;exact Kp.set _ (l.1.1:n<=r0):Kp n H1 u)).trans<|Kp.set _<|Xz _ _⟩
  ·exact X6 (uh λjj=>jj _ (fw rfl k1) _ (fw rfl k2) _ (fw rfl k3) _ (fw rfl k4) _ (fw (B0 (H:=H) _) λz=>z.elim k5 k6) _ A _ R _ g1 _ g _ p _ E _ g _ g1 _ P (kB y:mB u (n+4)=true) _ D) (by simp[PS.step,v,e])
  ·simp only[PS.step,v,e,Zc,if_false]
   refine⟨aB (by refine aa f ?_;exact aB b.d (W _ _ b.d λs h=>Ee h nt):u[n+2]?=some (.l<|(r0::sr).reverse.map V.r))<|G9,?_,aB (by refine aa f ?_;exact aB b.hm (W _ _ b.hm λs h=>Ee h nt):u[n+3]?=some (.dI<|cZ<|S.f++[(i,(S.b.length:Int))]))<|HS,dP y,?_,l5,sn,?_,?_,by show S.l.length<=_;exact aC b3,?_,λt U=>?_,qa x⟩
   ·exact qc.set y (λs h=>Ee h nt) (by refine aa f ?_;exact qc.upd l ((X9.1 sn).1:r0∉sr) (ba 0x1c23812c81c20cf620865b0b42c0065b tq O F x):qc n u (r0::sr)<|putN (wd i) S.b.length s::(ss++[YM]))
   ·have e3:(S.l.map λj=>V.i (((S.f++[(i,(S.b.length:Int))]).getD j (0,0)).1:Nat))=dj (S.add i (S.b.length:Int)):=rfl
    unfold dj;exact aa e3<|aB (by refine aa f ?_;exact aB b.l (W _ _ b.l λs h=>Ee h nt):u[lL]?=some (.l<|dj<|S.add i (S.b.length:Int)))<|Yd ‹_›
   ·simp only[Xx,aE,br];exact i9 b1
   ·simp only[Xx,aE,br];exact i9 I
   ·rw[v,aE]at b4;simp only[aE];exact aK 0x5a16858c0b40c905a1605a06065b tq b4
   ·rcases XE.1 U with z|z
    ·clear U;subst z;exact ba 0x5a1602411065b0b44c0065b tq O F
    ·have:=r.B t (by refine aa v ?_;exact .tail _ z);exact aC this
def Vo (b:Cl):V->Lo->Hp->Option (Fl×Hp):=λv l a=>XU b a4 (l.set 9<|some v) a [.t (.v 3) (.v 9)<|.x (.c 60 [(.v 2),(.t (.v 1)<|.v 9)])<|.i<|-1]
def J3 (O:1<=d)(l:RR n H S lL c sr)(hL:L=dj S)(u:List Nat):∀(F:List<|Nat×Int) (b:Hp) (o:Option V),qk n m wd wL b->(F.map (·.1)).Nodup->(∀j∈u,j<F.length)->(∀x∈F.map (·.1),x<m)->F.length<=800->(b=H.set (n+3) (.dI<|cZ F))->
  ∃E,aM (Vo<|ae d) (aZ lL L) (u.map λj=>V.i ((F.getD j (0,0)).1:Nat)) [x0,xR wL,xR<|n+2,xR<|n+3,xR<|n+4,x5,x6,x7,x8,o,x10] b=
   some (.n [x0,xR wL,xR<|n+2,xR<|n+3,xR<|n+4,x5,x6,x7,x8,E,x10],H.set (n+3)<|.dI<|cZ<|u.foldl (S.Yo wd) F):=by
 induction u with
 |nil=>intro F b o w D y C B e;refine⟨o,?_⟩;have P:=l.a;refine aa map_nil<|aa (bu<|cS<|by rw[e,hL];exact aB l.l<|zZ P)<|aa e ?_;rfl
 |cons j u A=>
  intro F b o w D y C B e;have f:=y j<|.head _;have k:(F.getD j (0,0)).1∈F.map (·.1):=by refine aa (Yq)<|aa (XQ f) ?_;exact Y7 (f:=(·.1))<|ZJ f
  have g:=w.item<|C _ k;have t:b[n+2]?=some (.l<|sr.reverse.map V.r):=by refine aa e ?_;exact aB l.d<|Bp
  have v:qc n b sr<|S.a++[YM]:=by refine aa e ?_;exact l.u.set l.hm λs h=>Ee h nt
  have q:=S3 (d:=d-1) (nm:=wd (F.getD j (0,0)).1) t l.srl v;have M:d-1+1=d:=Ym ‹_›;have I:cr (wd (F.getD j (0,0)).1) (S.a++[YM])=S.seek (wd (F.getD j (0,0)).1):=rfl;rw[M,I]at q;have N:Kp n b<|H.set (n+3)<|.dI<|cZ<|S.Yo wd F j:=by exact aa e<|⟨λi Q=>by rw[YJ<|XB<|XO ‹_›<|Xz _ _,YJ<|XB<|XO ‹_›<|Xz _ _]⟩
  have J:setItem b (.r<|n+3) (.i ((F.getD j (0,0)).1:Nat)) (.i<|max (S.seek<|wd (F.getD j (0,0)).1)<|-1)=some (H.set (n+3)<|.dI<|cZ<|S.Yo wd F j):=by simp only[PM<|(by refine aa e ?_;exact dP l.hm:b[n+3]?=some (.dI<|cZ F)),(by refine aa e ?_;exact dP l.hm:b[n+3]?=some (.dI<|cZ F)),pf,b9,mS];rw[Xr<|by rw[oR];exact bC 0xfa1c09640e0065b tq B,yr j D f,e,List.set_set];rfl
  have a:(S.Yo wd F j).map (·.1)=F.map (·.1):=by have:=p0 (wd:=wd) (S:=S) [j] F (λq z=>by simp at z;clear g y k N I J;subst z;exact f);simpa using this
  have p:(S.Yo wd F j).length=F.length:=Ze;have r:∀q,((S.Yo wd F j).getD q (0,0)).1=(F.getD q (0,0)).1:=λq=>by
   have h1:∀G:List<|Nat×Int,(G.getD q (0,0)).1=(G.map (·.1)).getD q 0:=λG=>by simp only[Yq,YN];cases G[q]?<;>rfl
   rw[h1,h1,a]
  clear M O f k t I v;obtain⟨E,A⟩:=A (S.Yo wd F j) _ (xI ((F.getD j (0,0)).1:Nat)) (w.keep N) (by refine aa a ?_;exact D) (λq z=>by refine aa p ?_;exact y q<|.tail _ z) (by refine aa a ?_;exact C) (by refine aa p ?_;exact B) rfl;refine⟨E,?_⟩;simp only[r]at A;rw[af,aS (cS<|by refine aa e<|aa hL ?_;exact aB l.l<|zZ l.a) (l':=[x0,xR wL,xR<|n+2,xR<|n+3,xR<|n+4,x5,x6,x7,x8,xI ((F.getD j (0,0)).1:Nat),x10]) (H':=H.set (n+3)<|.dI<|cZ<|S.Yo wd F j) ?_]
  ·rw[A];rfl
  ·generalize(F.getD j (0,0)).1=q0 at g q J⊢
   simp only[Vo,set_cons_succ,set_cons_zero];simp[g,q,zA,J]
def JF {m:Nat}{o ZI:Option V}(r:RR n H S lL c sr)(w:qk n m wd wL H)(k:PW S)(f:(S.f.map (·.1)).Nodup)(A:∀x∈S.f.map (·.1),x<m)(z:1<=d)(e:c<800):xy wd n lL c eL wL d H S .r o ZI:=by
 have j:=r.E;have q:=r.F;have u:=r.G;have v:=r.A;have y:H=H.set (n+3) (.dI<|cZ S.f):=by
  refine List.ext_getElem? λi=>?_;by_cases h:n+3=i
  ·subst h;refine aa (dP r.hm) ?_;exact r.hm
  ·exact aa (YJ h) rfl
 refine Xq (J3 (L:=dj S) (x0:=xR eL) (x5:=xR lL) (x6:=xI S.t) (x7:=xS DQ) (x8:=xI 0) (x10:=ZI) z r rfl S.l S.f H o w f k.lt A (aK 0x1903812c81c10cf610065b tq j e) y) λp g=>?_;obtain⟨b,a⟩:∃b,b=H.set (n+3) (.dI<|cZ<|S.l.foldl (S.Yo wd) S.f):=⟨_,rfl⟩;rw[<- a]at g;have l:bw (ae d) a4 [xR eL,xR wL,xR<|n+2,xR<|n+3,xR<|n+4,xR lL,xI S.t,xS DQ,xI 0,o,ZI] H dY=
   some (.n [xR eL,xR wL,xR<|n+2,xR<|n+3,xR<|n+4,xR lL,xI S.t,xS DQ,xI 0,p,ZI],b):=by
  unfold dY;exact aa (e5 (a:=lL) (vs:=dj S) (rfl) r.l<|by simp only[dj,XM];exact qj u e) g
 refine⟨b++[.l []],b.length,sr,p,ZI,_,_,rfl,?_,?_,?_⟩
 ·unfold DQ at l
  exact uh λC=>C _ rfl _ rfl _ rfl _ rfl _ _ l
 ·have D:(S.l.foldl (S.Yo wd) S.f).length=S.f.length:=by have:=p0 (wd:=wd) (S:=S) S.l S.f k.lt;have:=Xs List.length this;simpa using this
  refine⟨?_,?_,?_,?_,?_,ba 0x4ad032420879b115a06067b tq r.len (by refine aa a ?_;simp:b.length=H.length),r.sn,?_,by show S.b.length<=_;exact aC q,by simp[PS.step],by show S.a.length<=_;exact aK 0x1685a1630120b42c0065b tq v,λt B=>by have:=r.B t B;exact aC this,qa e⟩
  ·refine aa a ?_;exact fi<|aB r.d<|Bp
  ·refine aa a ?_;exact qc.app _<|r.u.set r.hm λs h=>Ee h nt
  ·refine aa a ?_;exact fi<|dP r.hm
  ·refine aa a ?_;exact fi<|aB r.g<|H7
  ·simp[dj,PS.step]
  ·simp only[PS.step,D];exact aC j
 ·exact aa a ((Kp.set _<|Xz _ _).trans<|Kp.app _<|by simp;exact zf r.len)
end
def V9 (m:Nat)(S:PS):Ev->Prop
 | .u i=>i∉S.f.map (·.1)/\i<m
 | .w i=>i∉S.f.map (·.1)/\i<m
 | .d i k=>i∉S.f.map (·.1)/\i<m/\k∈QP
 | .f i j=>i∉S.f.map (·.1)/\i<m/\j∈S.f.map (·.1)
 |_=>True
structure GS(m:Nat)(S:PS):Prop where
 p:PW S
 j:(S.f.map (·.1)).Nodup
 lt:∀x∈S.f.map (·.1),x<m
def lx (w:Nat->Nm)(m:Nat):PS->List Ev->Prop
 |_,[]=>True
 |S,e::r=>GS m S/\V9 m S e/\lx w m (S.step w e) r
section
def pZ:∀{b:List Ev}{S:PS},lx w m S a->lx w m (S.run w a) b->lx w m S (a++b):=by
 induction a with
 |nil=>intro b S _ h;exact h
 |cons e a i=>intro b S h c;exact⟨h.1,h.2.1,i h.2.2 c⟩
def Q6 {n s C d c:Nat}(J:1<=d)(W:s<n)(a):∀(S) (H) (z c) (I) (E F B ZI),RR n H S z c I->qk n m A C H->H[s]?=some (.l L)->lx A m S a->c+a.length<=800->
  ∀{Cx:Prop},(∀H' l t p7 p8 G p,aM (λv l' H'=>Lm v λx y=>XU (ae d) a4 ((l'.set 7<|some x).set 8<|some y) H' rpB) (aZ s L) (a.map kW) [xR s,xR C,xR<|n+2,xR<|n+3,xR<|n+4,xR z,xI S.t,E,F,B,ZI] H=
   some (.n [xR s,xR C,xR<|n+2,xR<|n+3,xR<|n+4,xR l,xI (S.run A a).t,p7,p8,G,p],H')->RR n H' (S.run A a) l (c+a.length) t->Kp n H H'->Cx)->Cx:=by
 induction a with
 |nil=>intro S H z c I E F B ZI r w hL g h Cx D;exact D H z I E F B ZI (bu<|cS hL) r<|Kp.refl n H
 |cons e a M=>
  intro S H z c I E F B ZI r w hL g h Cx D;simp at h;refine bU g λq b R=>?_;have st:xy A n z c s C d H S e B ZI:=by
   clear g R D;cases e with
   |u i=>exact Je r w q.p J b.1 b.2<|nH h
   |w i=>exact IM r w q.p J b.1 b.2<|nH h
   |d i k=>exact GO r w q.p b.1 b.2.1 b.2.2<|nH h
   |r=>exact JF r w q.p q.j q.lt J<|nH h
   |o=>exact IP r<|nH h
   |c=>exact J6 r q.p.ne<|nH h
   |f i j=>exact IW r q.p b.1 b.2.2<|nH h
  exact wA st λQ T P G p x y U X r1 N=>M (S.step A e) Q T (c+1) P (some x) (some y) G p r1 (w.keep N) ((N.lo _ W).trans hL) R (aK 0x3207042d03192c81c1685806065b tq h) λH' l t q7 q8 q9 O M r' Y=>D H' l t q7 q8 q9 O (aa af<|aa U<|aa (aS (cS hL) (l':=[xR s,xR C,xR<|n+2,xR<|n+3,xR<|n+4,xR T,xI (S.step A e).t,some x,some y,G,p]) (H':=Q) X) M) (by rw[ez,aE];rw[show c+(a.length+1)=c+1+a.length by exact EF];exact r')<|N.trans Y
@[simp]theorem Sr:Lm (.t [x,y]) f=f x y:=rfl
def u8 (f:ai c l src H=some (.r a,H))(h:H[a]?=some (.l vs))(e:vs.length<=1000000):
  bw c k l H (.ZE i j src b)=aM (λv g d=>Lm v λx y=>XU c k ((g.set i<|some x).set j<|some y) d b) (aZ a vs) vs l H:=by
 refine Cy.trans<|(bI f).trans ?_;show hL H[a]? _=_;exact aa h<|Xr e
def Vn {d c f:Nat}{H:Hp}{e:List Ev}(v:1<=d)(i:H[c]?=some (.l<|e.map kW))(w:qk H.length m wd f H)(g:lx wd m Yz e)(o:e.length<=800){Cx:Prop}(z:∀x,ae (d+1) 61 [.r c,.r f] H=some (.v<|.t [.r<|H.length+3,.r<|H.length+4,.i (Yz.run wd e).t],H++x)->(H++x)[H.length+3]?=some (.dI<|cZ (Yz.run wd e).f)->(H++x)[H.length+4]?=some (.l<|(Yz.run wd e).b.map V.s)->Cx):Cx:=by
 have h:=xg i;obtain⟨H1,a⟩:∃H1,H1=H++[.dS<|cv YM,.dS [],.l [.r H.length,.r<|H.length+1],.dI [],.l [],.l []]:=⟨_,rfl⟩;have b:∀j,H1[H.length+j]?=[AO.dS<|cv YM,.dS [],.l [.r H.length,.r<|H.length+1],.dI [],.l [],.l []][j]?:=λj=>by refine aa a<|aa (Zy<|by exact aK 0x103012 tq) ?_;congr 1;exact add_sub_cancel_left ..
 have r0:RR H.length H1 Yz (H.length+5) 0 [H.length+1,H.length]:=by refine⟨b 2,⟨⟨bC 0x2d03012 tq,b 1,by simp⟩,⟨XC _,?_,by decide⟩,trivial⟩,b 3,b 4,b 5,XC _,by simp,XC _,XC _,XC _,by simp[Yz],λs r=>by simp[Yz]at r;subst r;simp,nl rfl⟩;have:=b 0;simpa using this
 have k:Kp H.length H H1:=by refine aa a ?_;exact Kp.app _<|XC _
 refine Q6 (L:=e.map kW) (c:=0) v h e Yz H1 (H.length+5) 0 [H.length+1,H.length] none none none none r0 (w.keep k) ((k.lo _ h).trans i) g (bC 0x640e001ac9640e0065b tq o) λu n E B C D p q t y=>Xq (Cw (k.trans y).lo) λx l=>z x ?_ (by refine dG l ?_;exact t.hm) (by refine dG l ?_;exact t.g);refine dG l ?_;have A:bw (ae d) a4 [xR c,xR f,xR<|H.length+2,xR<|H.length+3,xR<|H.length+4,xR<|H.length+5,xI 0,none,none,none,none] H1 fC=
   some (.n [xR c,xR f,xR<|H.length+2,xR<|H.length+3,xR<|H.length+4,xR n,xI (Yz.run wd e).t,B,C,D,p],u):=by
  exact aa Au<|aa (u8 (a:=c) (vs:=e.map kW) (by simp) ((k.lo _ h).trans i)<|by rw[XM];exact bC 0x3d0902209640e0065b tq o) q
 refine aa (aU (f:=jx) rfl rfl) ?_;rw[(rfl:cv YM=[([65,66,83],V.i<|-1),([73,78,84,69,71,69,82],V.i<|-1)])]at a;simp[jx,X1,XR];refine dG a<|aa A ?_;simp
end
def mK:List Ev->Bool
 | []=>true
 | .d _ k::r=>decide (k∈QP)&&mK r
 |_::r=>mK r
theorem gw:mK []=true:=rfl
theorem gZ{i k r}:mK (Ev.d i k::r)=(decide (k∈QP)&&mK r):=rfl
theorem gA{i r}:mK (.u i::r)=mK r:=rfl
theorem gF{i r}:mK (.w i::r)=mK r:=rfl
theorem gm{r}:mK (.r::r)=mK r:=rfl
theorem go{r}:mK (.o::r)=mK r:=rfl
theorem gn{r}:mK (.c::r)=mK r:=rfl
theorem gi{i j r}:mK (.f i j::r)=mK r:=rfl
@[simp]theorem fW(a b:List Ev):mK (a++b)=(mK a&&mK b):=by
 induction a with
 |nil=>exact rfl
 |cons e r i=>cases e<;>first| exact i| exact(Xs (_&&·) i).trans (Bool.and_assoc ..).symm
def SS (v)(i):mK (kD v i)=true:=by cases v<;>rfl
theorem R3:∀(K:Kd) (i:Nat),mK (nv K i)=true
 | .n x,i=>rfl
 | .r K,i=>by simp only[fF,fJ,fE,ea,eU,fW,R3 K,gw,gZ,gA,gF,gm,go,gn,gi];rfl
 | .p x,i=>rfl
 | .a v K,i=>by simp only[fF,fJ,fE,ea,eU,fW,R3 K,SS];rfl
 | .c x,i=>rfl
def Xa (c:Option<|Option<|Nm×Vl)(i):mK (ui c i)=true:=by
 match c with
 |none=>rfl
 |some none=>rfl
 |some (some (x,v))=>simp only[ui,fW,SS,gw,gZ,gA,gF,gm,go,gn,gi];decide
def Wb (c:Option<|Option<|Nm×Kd)(i):mK (AE c i)=true:=by
 match c with
 |none=>rfl
 |some none=>rfl
 |some (some (x,v))=>simp only[m8,nu,kd,fW,R3,gw,gZ,gA,gF,gm,go,gn,gi];decide
def WO (c:Option<|Option<|Nm×Kd)(i):mK (BC c i)=true:=by
 match c with
 |none=>rfl
 |some none=>rfl
 |some (some (x,v))=>simp only[mW,nq,lH,fW,R3,gw,gZ,gA,gF,gm,go,gn,gi];decide
def U7 (D)(i):mK (cM D i)=true:=by simp only[cM,fW,Xa,Wb,WO];rfl
def V0 (s)(i):mK (rn s i)=true:=by
 match s with
 |none=>rfl
 |some _=>simp only[rn,gw,gZ,gA,gF,gm,go,gn,gi];decide
def Wr (v a)(i):mK (qH v a i)=true:=by simp only[qH,fW,SS,gw,gZ,gA,gF,gm,go,gn,gi];rfl
def Wl (s)(i):mK (g7 s i)=true:=by
 match s with
 |none=>rfl
 |some (true,_)=>simp only[qq,qf,qi,gw,gZ,gA,gF,gm,go,gn,gi];decide
 |some (false,_)=>simp only[qq,qf,qi,gw,gZ,gA,gF,gm,go,gn,gi];decide
section
variable{wd:Nat->Nm}{m:Nat}
def xb (h:GS m S)(h1:e≠.o)(d:e≠.c)(g:(S.f.map (·.1)++aw [e]).Nodup)(f:∀x∈aw [e],x<m):GS m<|S.step wd e:=by
 refine XG (λa b=>⟨a,by rw[b];exact g,λx c=>?_⟩)<|jE (wd:=wd) h.p h1 d;rw[b]at c;rcases YE.1 c with z|z
 ·exact h.lt x z
 ·exact f x z
def vE {es:List Ev}:∀{S:PS},GS m S->(S.f.map (·.1)++aw es).Nodup->(∀x∈aw es,x<m)->cP es=true->mE es=true->mK es=true->lx wd m S es/\GS m (S.run wd es):=by
 induction es with
 |nil=>intro S h _ _ _ _ _;exact⟨trivial,h⟩
 |cons e r C=>
  intro S h p n h1 A y;have D:cP r=true:=by cases e<;> simp_all[ey,et,eC,dW,eD,eA,eq,ei]
  have E:mE r=true:=by cases e<;> simp_all[j8,j3,jQ,jD,jI,jA,jJ,jW]
  have F:mK r=true:=by cases e<;> simp_all[gw,gZ,gA,gF,gm,go,gn,gi]
  have t:aw (e::r)=aw [e]++aw r:=by rw[<- cQ];rfl
  rw[t]at p n;have q:e≠.o:=by intro z;subst z;exact eI h1 nt
  have s:e≠.c:=by intro z;subst z;exact eI h1 nt
  have g:(S.f.map (·.1)++aw [e]).Nodup:=by rw[<- X1]at p;exact(YS.1 p).1
  refine XG (λa b=>?_)<|C (xb (wd:=wd) h q s g λx v=>n x<|mem_append_left _ v) (by rw[((jE (wd:=wd) h.p q s).2:(S.step wd e).f.map (·.1)=S.f.map (·.1)++aw [e]),X1];exact p) (λx v=>n x<|Zz _ v) D E F;refine⟨⟨h,?_,a⟩,b⟩;have l:∀i,aw [e]=[i]->i∉S.f.map (·.1)/\i<m:=λi B=>by rw[B]at g n;exact⟨λz=>((YS.1 g).2.2 i z i (.head _) rfl),n i<|by simp⟩
  cases e with
  |u i=>exact l i rfl
  |w i=>exact l i rfl
  |d i k=>have:=l i rfl;exact⟨this.1,this.2,by simp only[gw,gZ,gA,gF,gm,go,gn,gi,Xv,X5]at y;exact y.1⟩
  |r=>trivial
  |o=>exact Xw rfl q
  |c=>exact Xw rfl s
  |f i j=>exact eI A nt
def NK {S:PS}{p:Pr}{i:Nat}(h:GS m S)(u:∀x∈S.f.map (·.1),x<i)(E:S.l=[])(F:i+nI (vp p)<=m):lx wd m S (jv p i)/\GS m (S.run wd<|jv p i):=by
 have A:=pP p i;have c:(S.f.map (·.1)++aw (jv p i)).Nodup:=by rw[YS];refine⟨h.j,A.nodup_iff.2<|List.nodup_range' (step:=1)<|nl rfl,λx f y G z=>?_⟩;have:=u x f;have:=(lR A y G).1;exact ba 0xd082196c400f3610067b tq ‹_› ‹_› ‹_›
 have d:∀x∈aw (jv p i),x<m:=λx f=>by have:=(lR A x f).2;exact oN 0x104c2313032d8c4c0067b tq this F
 refine bU (ni (wd:=wd) (p:=p) h.p u E) λL w q=>?_;have t:GS m<|S.run wd<|jv p i:=⟨w,by refine aa q ?_;exact c,λx f=>by
  rw[q]at f;rcases YE.1 f with z|z
  ·exact h.lt x z
  ·exact d x z⟩
 refine⟨?_,t⟩;obtain⟨B,l⟩:∃B,B=rn p.p (i+1)++cM p.d (i+1+nI (cu p.p))++qH p.v1 p.v2 (i+1+nI (cu p.p)+nI (aQ p.d)):=⟨_,rfl⟩;obtain⟨k,j⟩:∃k,k=i+1+nI (cu p.p)+nI (aQ p.d)+nB p.v1 p.v2:=⟨_,rfl⟩;have r:jv p i=.d i a9::.o::(B++[.f k i,.c]):=by refine aa l<|aa j ?_;simp[jv]
 have n1:cP B=true:=by refine aa l ?_;simp only[cC,R7,M0,R2];rfl
 have I:mE B=true:=by refine aa l ?_;simp only[fj,U6,SW,U8];rfl
 have J:mK B=true:=by refine aa l ?_;simp only[fW,V0,U7,Wr];rfl
 rw[r]at c d⊢;have s:aw (Ev.d i a9::.o::(B++[.f k i,.c]))=i::(aw B++[k]):=by simp[cb,cg,b6,cf,cm,cp,b7,cn]
 rw[s]at c d;have c:=c;have d:=d;have g:(S.f.map (·.1)++[i]).Nodup:=by
  have e:S.f.map (·.1)++i::(aw B++[k])=(S.f.map (·.1)++[i])++(aw B++[k]):=by simp
  rw[e]at c;exact(YS.1 c).1
 have o:((S.f.map (·.1)++[i])++aw B).Nodup:=by
  have e:S.f.map (·.1)++i::(aw B++[k])=((S.f.map (·.1)++[i])++aw B)++[k]:=by simp
  rw[e]at c;exact(YS.1 c).1
 have n:k∉(S.f.map (·.1)++[i])++aw B:=by
  have e:S.f.map (·.1)++i::(aw B++[k])=((S.f.map (·.1)++[i])++aw B)++[k]:=by simp
  rw[e]at c;intro z;exact(YS.1 c).2.2 k z k (.head _) rfl
 have g1:=xb (wd:=wd) (e:=.d i a9) h (by simp) (by simp) g (λx f=>d x<|by simp[cb,cg,b6,cf,cm,cp,b7,cn]at f;clear r s l j g;subst f;simp);have H:(S.step wd<|.d i a9).f.map (·.1)=S.f.map (·.1)++[i]:=(jE (wd:=wd) h.p (by simp)<|by simp).2;have C:GS m<|(S.step wd<|.d i a9).step wd .o:=⟨⟨by simp[PS.step],g1.p.lt⟩,g1.j,g1.lt⟩;have D:((S.step wd<|.d i a9).step wd .o).f.map (·.1)=S.f.map (·.1)++[i]:=H;refine XG (λa b=>?_)<|vE (wd:=wd) (es:=B) C (by refine aa D ?_;exact o) (λx f=>d x<|by simp[f]) n1 I J;have v:(((S.step wd<|.d i a9).step wd .o).run wd B).f.map (·.1)=(S.f.map (·.1)++[i])++aw B:=aa ((lM (wd:=wd) C.p n1).2)<|aa D rfl;refine⟨h,⟨?_,d i<|by simp,by decide⟩,g1,trivial,pZ a ⟨b,⟨by rw[v];exact n,d k<|by simp,by rw[v];simp⟩,?_,trivial,trivial⟩⟩
 ·intro z;have:=u i z;exact vH this
 ·exact xb b (by simp) (by simp) (by
   rw[v];have e:S.f.map (·.1)++i::(aw B++[k])=((S.f.map (·.1)++[i])++aw B)++[k]:=by simp
   rw[e]at c;exact c) (λx f=>d x<|by simp[cb,cg,b6,cf,cm,cp,b7,cn]at f;clear r s j n d c;subst f;simp)
def sv (M):lx wd (nI<|aP M) Yz<|ky M:=by
 refine cps λC n=>bU (lD (wd:=wd) M) λa b c=>?_;have o:=Cf (wd:=wd) M;have d:=Ng M;have l:GS (nI<|aP M) Yz:=⟨Vq,by simp[Yz],λx i=>by simp[Yz]at i⟩;have f:(aw<|g7 M.i 0++cM M.d (nI<|bj M.i)).Perm<|List.range' 0<|nI (bj M.i)+nI (aQ M.d):=by rw[cQ,<- fN,Yx];exact(pI _ _).append<|pD _ _
 obtain⟨q,y⟩:=vE (wd:=wd) (es:=g7 M.i 0++cM M.d (nI<|bj M.i)) l (by show(aw _).Nodup;exact f.nodup_iff.2<|List.nodup_range' (step:=1)<|nl rfl) (λx i=>by have:=(lR f x i).2;exact Sx 0x413285a41898c63021e6c62601ac0067b tq this d) (by simp only[cC,UX,M0];rfl) (by simp only[fj,U3,SW];rfl) (by simp only[fW,Wl,U7];rfl)
 rw[ax]at y;have j:lx wd (nI<|aP M) ((Yz.run wd<|g7 M.i 0).run wd<|cM M.d<|nI<|bj M.i) (qV M.p<|nI (bj M.i)+nI (aQ M.d))/\GS (nI<|aP M) (((Yz.run wd<|g7 M.i 0).run wd<|cM M.d<|nI<|bj M.i).run wd<|qV M.p<|nI (bj M.i)+nI (aQ M.d)):=by
  match hp:M.p with
  |none=>exact⟨trivial,y⟩
  |some p=>rw[hp]at d;exact NK y o c (by simp only[fS]at d;exact Gz 0x31040c64881688206318c1879b tq d)
 have h:(((Yz.run wd<|g7 M.i 0).run wd<|cM M.d<|nI<|bj M.i).run wd<|qV M.p<|nI (bj M.i)+nI (aQ M.d)).f.map (·.1)++aw (.u (nI (bj M.i)+nI (aQ M.d)+nI (fS M.p))::kD M.v (nI (bj M.i)+nI (aQ M.d)+nI (fS M.p)+1))=aw (ky M):=by
  have k:=(Ky (wd:=wd) M).2;have e:Yz.run wd (ky M)=(((Yz.run wd<|g7 M.i 0).run wd<|cM M.d<|nI<|bj M.i).run wd<|qV M.p<|nI (bj M.i)+nI (aQ M.d)).run wd (.u (nI (bj M.i)+nI (aQ M.d)+nI (fS M.p))::kD M.v (nI (bj M.i)+nI (aQ M.d)+nI (fS M.p)+1)):=by rw[ky,ax,ax,ax]
  rw[e]at k;exact dG k<|aa ((lM (wd:=wd) j.2.p<|by simp only[dW,Nn]).2) rfl
 have g:=(pM M).nodup_iff.2<|List.nodup_range' (step:=1)<|nl rfl;obtain⟨r,s⟩:=vE (wd:=wd) (es:=.u (nI (bj M.i)+nI (aQ M.d)+nI (fS M.p))::kD M.v (nI (bj M.i)+nI (aQ M.d)+nI (fS M.p)+1)) j.2 (by refine aa h ?_;exact g) (λx i=>by
  have:x∈aw (ky M):=by refine dG h ?_;exact Zz _ i
  have:=(lR (pM M) x this).2;exact Sx 0x104ca1690626318c0829b081ac0067b tq this d) (by simp only[ey,et,eC,dW,eD,eA,eq,ei,Nn]) (by simp only[j8,j3,jQ,jD,jI,jA,jJ,jW,Q9]) (by simp only[gw,gZ,gA,gF,gm,go,gn,gi,SS])
 have e:ky M=(g7 M.i 0++cM M.d (nI<|bj M.i))++(qV M.p (nI (bj M.i)+nI (aQ M.d))++.u (nI (bj M.i)+nI (aQ M.d)+nI (fS M.p))::kD M.v (nI (bj M.i)+nI (aQ M.d)+nI (fS M.p)+1)):=by simp[ky]
 refine n<|aa e<|pZ q<|pZ ?_ ?_
 ·rw[ax];exact j.1
 ·rw[ax];exact r
noncomputable def nR:List Ev->Nat
 | []=>0
 | .r::r=>nR r+1
 | .o::r=>nR r+1
 | .c::r=>nR r+1
 |_::r=>nR r
theorem tZ:nR []=0:=rfl
theorem tX{r}:nR (Ev.r::r)=nR r+1:=rfl
theorem tK{r}:nR (Ev.o::r)=nR r+1:=rfl
theorem tu{r}:nR (Ev.c::r)=nR r+1:=rfl
theorem tP{i r}:nR (.u i::r)=nR r:=rfl
theorem sV{i r}:nR (.w i::r)=nR r:=rfl
theorem s8{i k r}:nR (.d i k::r)=nR r:=rfl
theorem sM{i j r}:nR (.f i j::r)=nR r:=rfl
@[simp]theorem jU(a b:List Ev):nR (a++b)=nR a+nR b:=by
 induction a with
 |nil=>exact(Yx _).symm
 |cons e r i=>cases e<;>first| exact i| exact(Xs (·+1) i).trans (succ_add ..).symm
def Uk (a:List Ev):a.length=(aw a).length+nR a:=by
 induction a with
 |nil=>exact rfl
 |cons e r i=>cases e<;>first| exact Xs (·+1) i| exact(Xs (·+1) i).trans (succ_add ..).symm
def rV (v)(i):nR (kD v i)=0:=by cases v<;>rfl
theorem rK:∀(K:Kd) (i:Nat),nR (nv K i)=0
 | .n x,i=>rfl
 | .r K,i=>by simp only[fF,fJ,fE,ea,eU,jU,rK K,tZ,tX,tK,tu,tP,sV,s8,sM]
 | .p x,i=>rfl
 | .a v K,i=>by simp only[fF,fJ,fE,ea,eU,jU,rK K,rV]
 | .c x,i=>rfl
def rC (c:Option<|Option<|Nm×Vl)(i):nR (ui c i)=0:=by
 match c with
 |none=>rfl
 |some none=>rfl
 |some (some (x,v))=>simp only[ui,jU,rV,tZ,tX,tK,tu,tP,sV,s8,sM]
def rT (c:Option<|Option<|Nm×Kd)(i):nR (AE c i)<=1:=by
 match c with
 |none=>exact X4 _
 |some none=>exact XC _
 |some (some (x,v))=>simp[m8,nu,kd,jU,rK,tZ,tX,tK,tu,tP,sV,s8,sM]
def rR (c:Option<|Option<|Nm×Kd)(i):nR (BC c i)<=1:=by
 match c with
 |none=>exact X4 _
 |some none=>exact XC _
 |some (some (x,v))=>simp[mW,nq,lH,jU,rK,tZ,tX,tK,tu,tP,sV,s8,sM]
def rD (D)(i):nR (cM D i)<=2:=by have:=rT D.t<|i+nI (r8 D.c);have:=rR D.v<|i+nI (r8 D.c)+nI (wx D.t);simp only[cM,jU,rC];exact aK 0x2684006b1920b42196c2d0065b tq ‹_› ‹_›
def rP (p)(i):nR (jv p i)<=4:=by
 have h1:∀j,nR (rn p.p j)=0:=λj=>by
  match p.p with
  |none=>rfl
  |some _=>rfl
 have h:∀j,nR (qH p.v1 p.v2 j)=0:=λj=>by simp only[qH,jU,rV,tZ,tX,tK,tu,tP,sV,s8,sM]
 have:=rD p.d<|i+1+nI (cu p.p);simp only[jv,bE,jU,tZ,tX,tK,tu,tP,sV,s8,sM,h1,h];exact bC 0x4685a1681ac034006b18c6484d0065b tq this
def GL (M):(ky M).length<=nI (aP M)+6:=by
 simp only[Uk,(pM M).length_eq,List.length_range'];have h1:nR (g7 M.i 0)=0:=by
  match M.i with
  |none=>rfl
  |some (true,_)=>rfl
  |some (false,_)=>rfl
 have h:=rD M.d<|nI<|bj M.i;have a:nR (qV M.p<|nI (bj M.i)+nI (aQ M.d))<=4:=by
  match M.p with
  |none=>exact X4 _
  |some p=>exact rP p _
 simp only[ky,jU,tZ,tX,tK,tu,tP,sV,s8,sM,rV,h1];exact ba 0x3340c034410358c601922344196c4d0865b tq h a
end
theorem dk:∀(n:Nat) (a:Nat),bS (a:Int) n 1=(List.range' a n).map λ(i:Nat)=>V.i i
 |0,a=>rfl
 |n+1,a=>by simp[abj];have:=dk n<|a+1;refine dG this ?_;rfl
def B1 (h:sh a=true)(c:sh b=true):fQ .a (.s a) (.s b)=xS (a++b):=by simp[fQ,h,c]
def FP (h:sh a=true)(c:sh b=true):d6 .a (.s a) (.s b)=xS (a++b):=by simp[d6,h,c]
def sX (h:sh b=true)(c:a.length<=b.length):sh a=true:=by have:=jP h;exact e6.mpr<|XJ ‹_› ‹_›
structure Bj(n:Nat)(ZW:List<|Nat×Nm)(mL:Nat)(H:Hp):Prop where
 lt:mL<n
 g:H[mL]?=some (.l<|ZW.map λp=>V.t [.i p.1,.s p.2])
 b:ZW.length<=900
def Bj.item {n a i:Nat}{m:List<|Nat×Nm}{H:Hp}(k:Bj n m a H){p:Nat×Nm}(h:m[i]?=some p):getItem H (.r a) (.i (i:Int))=some (.t [.i p.1,.s p.2]):=by simp only[Ad k.g,k.g,(vA (n:=(m.map λp=>V.t [.i p.1,.s p.2]).length) (i:=i) (by simpa using(qT h:i<m.length))<|by have:=k.b;simp;exact m5 this),aat,YN,h,Option.map_some,cz,b9,mS]
def Bj.len (k:Bj n m a H):eu H (.r a)=some (m.length:Int):=by have:=bA k.g (by have:=k.b;simp;exact m5 this);simpa using this
def Bj.app (k:Bj n m a H)(x):Bj n m a<|H++x:=⟨k.lt,fi k.g,k.b⟩
noncomputable def wrB:List MS:=[.v 4 .a<|.o .a (.S (.v 0) (.v 5)<|.v 6)<|.t (.v 2)<|.v 7,.s 5<|.o .a (.v 6)<|.n<|.t (.t (.v 1)<|.v 7)<|.i 1]
theorem AC:eY=.ZE 6 7 (.v 3) wrB:=rfl
noncomputable def dE:List IL->Nat->Nat->List V
 | [],_,_=>[]
 | .f _ t::r,i,p=>dE r i<|p+t.length
 | .n s::r,i,p=>.t [.i (p:Int),.i (i:Int)]::dE r (i+1) (p+s.length)
theorem uH{z a}:dE [] z a=[]:=rfl
theorem vx{z a k t r}:dE (IL.f k t::r) z a=dE r z (a+t.length):=rfl
theorem qz{z a s r}:dE (IL.n s::r) z a=V.t [V.i ↑a,V.i ↑z]::dE r (z+1) (a+s.length):=rfl
def Kj (c:sh src=true)(e:src=pre++rest)(b:pre.length=p)(d:a<=p):slc (.s src) (.i (a:Int)) (.i (p:Int))=xS (pre.drop a):=by
 have h:p<=src.length:=by refine aa e<|aa Xx ?_;exact ba 0x41602400879b tq b
 simp only[slc,mZ (n:=a)<|ba 0x7a120441200c350444196c410cb610065b tq d h<|jP c,mZ (n:=p)<|Er h<|jP c,c,wE,oE,cz];unfold GN;exact aa (min_eq_left h)<|aa (min_eq_left<|XJ ‹_› ‹_›)<|aa e<|aa (List.take_append_of_le_length<|by exact aK 0x82400879b tq b)<|aa (ZC<|by exact aK 0x82410069b tq b) rfl
section
variable{wd wd':Nat->Nm}{n m mL wL:Nat}{H:Hp}{ZW:List<|Nat×Nm}{src fin:Nm}
def Rj {cl:Cl}{ok:Hp->Bool}{x3:Option V}(E:ok H=true)(km:Bj n ZW mL H)(w:qk n m wd' wL H)(W:sh src=true)(J:sh fin=true):∀(A:List IL) (i p:Nat) (c:Nat) (a b:Nm) (G I:Option V),
  src=b++um wd (hE A i)->b.length=p->c<=p->fin=a++b.drop c++um wd' (hE A i)->(∀j,(jM A p)[j]?=ZW[i+j]?\/nI A<=j)->i+nI A<=m->(∀(j:Nat) (s:Nm),(mm A)[j]?=some s->wd (i+j)=s)->
  ∀{Cx:Prop},(∀d l q u,aM (λv l' H'=>Lm v λx y=>XU cl a4 ((l'.set 6<|some x).set 7<|some y) H' wrB) ok (dE A i p) [xS src,xR mL,xR wL,x3,xS a,xI (c:Int),G,I] H=
   some (.n [xS src,xR mL,xR wL,x3,xS d,xI (l:Nat),q,u],H)->fin=d++src.drop l->l<=src.length->Cx)->Cx:=by
 intro A;induction A with
 |nil=>
  intro i p c a b G I e o B h M D L Cx N;refine N a c G I (bu E) ?_ ?_
  ·have:um wd (hE [] i)=[]:=rfl
   rw[this,Ys]at e;have:um wd' (hE [] i)=[]:=rfl;rw[this,Ys]at h;refine aa e ?_;exact h
  ·refine aa e ?_;simp;exact oN 0x82c048610f3630065b tq B o
 |cons x r U=>
 intro i p c a b G I e o B h M D L Cx N;cases x with
 |f k t=>have O:∀w:Nat->Nm,um w (hE (.f k t::r) i)=t++um w (hE r i):=λw=>rfl;rw[O]at e h;have hd:(b++t).drop c=b.drop c++t:=aa (List.drop_append_of_le_length<|by exact ba 0x1048410f3620065b tq B o) rfl;exact U i (p+t.length) c a (b++t) G I (by refine aa e ?_;simp) (by simp[o]) (m6 B) (by refine aa h<|aa hd ?_;simp) M D L N
 |n s=>
  have O:∀w:Nat->Nm,um w (hE (.n s::r) i)=w i++um w (hE r<|i+1):=λw=>rfl;rw[O]at e h;have e:=e;have h:=h;simp only[bN,ck,cj]at D;have F:wd i=s:=by have:=L 0 s rfl;simpa using this
  have R:ZW[i]?=some (p,s):=by
   rcases M 0 with z|z
   ·simpa [df,d0,dm]using z.symm
   ·simp[bN,ck,cj]at z
  have s1:=Kj W e o B;have g1:=w.item (i:=i)<|AY D;have g2:=km.item R;have i1:nW 2 1=some 1:=rfl;have g3:getItem H (.t [.i (p:Int),.s s]) (.i 1)=xS s:=rfl;have g:=Xs List.length h;simp only[Xx]at g;have g:=g;have h1:sh (b.drop c)=true:=sX J<|Gz 0x209106c0098c0879b tq g;have h2:sh (wd' i)=true:=sX J<|Gz 0x209100c1898c0879b tq g;have h3:sh a=true:=sX J<|Gz 0x209106c1018c0879b tq g;have h4:sh (b.drop c++wd' i)=true:=sX J (by simp only[Xx];exact Gz 0x1040c9102c00d8c1079b tq g);have h5:sh s=true:=by have C:=Xs List.length e;simp only[Xx,F]at C;exact sX W<|Gz 0x104882053630304c0879b tq C o
  have X:=B1 h1 h2;have Y:=FP h3 h4;have Q:eu H (.s s)=some (s.length:Int):=by simp only[eu,h5,if_true,b9]
  have P:(b++s).drop (p+s.length)=[]:=List.drop_eq_nil_of_le (by refine aa Xx<|aa o ?_;exact XC _);refine U (i+1) (p+s.length) (p+s.length) (a++(b.drop c++wd' i)) (b++s) (xI (p:Int)) (xI (i:Int)) (by refine aa e<|aa F ?_;simp) (by simp[o]) (XC _) (by
   refine aa h<|aa P ?_;simp) (λj=>by
    rcases M (j+1)with z|z
    ·refine .inl<|aa (show i+1+j=i+(j+1)by exact sz)<|dG z ?_;simp[df,d0,dm]
    ·refine .inr ?_
     simp only[bN,ck,cj]at z;exact aK 0x20905a1605a06065b tq z) (wM D) (λj s' hj=>by
    have e3:i+1+j=i+(j+1):=add_right_comm _ _ _;exact aa e3<|L (j+1) s'<|hj) λd l q u ih S T=>N d l q u ?_ S T
  rw[qz,aS E (l':=[xS src,xR mL,xR wL,x3,xS<|a++(b.drop c++wd' i),xI ((p+s.length:Nat):Int),xI (p:Int),xI (i:Int)]) (H':=H) ?_]
  ·exact ih
  ·simp[wrB,s1,g1,g2,g3,X,Y,Q]
theorem l8:∀(A:List IL) (i p:Nat),dE A i p=(List.range<|nI A).map λj=>V.t [.i (((jM A p).getD j (0,[])).1:Nat),.i ((i+j:Nat):Int)]
 | [],i,p=>rfl
 | .f k t::r,i,p=>by simp only[uH,vx,qz,l8 r,bN,ck,cj,df,d0,dm]
 | .n s::r,i,p=>by simp only[uH,vx,qz,l8 r,bN,ck,cj,List.range_succ_eq_map,af,Y9,df,d0,dm];refine List.cons_eq_cons.2 ⟨by simp,YU λj _=>?_⟩;simp only[Function.comp_apply];congr 3;congr 1;lia
def HV (A):∀(p:Nat),(∀s∈mm A,s≠[])->∀i j,i<j->j<nI A->((jM A p).getD i (0,[])).1<((jM A p).getD j (0,[])).1/\p<=((jM A p).getD i (0,[])).1:=by
 induction A with
 |nil=>intro p _ i j _ h;simp[bN,ck,cj]at h
 |cons pr r d=>cases pr with
  |f k t=>intro p e i j a h;have:=d (p+t.length) e i j a h;simp only[df,d0,dm];exact⟨this.1,oN 0x41208c0c0c84104f1b tq this⟩
  |n s=>
   intro p e i j a h;have b:0<s.length:=by have:=e s (by simp[HD,Gq,HF]);cases s with |nil=>exact Xw rfl this|cons c t=>simp
   have g:∀x∈mm r,x≠[]:=λx o=>e x (by simp[HD,Gq,HF,o]);simp only[bN,ck,cj]at h;obtain⟨j,rfl⟩:∃q,j=q+1:=⟨j-1,(Ym<|Yc (X4 _) a).symm⟩;simp only[df,d0,dm,getD_cons_succ];cases i with
   |zero=>
    refine⟨?_,by simp⟩;simp only[List.getD_cons_zero];have l:∀(A:List IL) (p j:Nat),j<nI A->p<=((jM A p).getD j (0,[])).1:=by
     intro A;induction A with
     |nil=>intro p j h;simp[bN,ck,cj]at h
     |cons x A d=>
      intro p j h;cases x with
      |f k t=>have:=d (p+t.length) j h;simp only[df,d0,dm];exact ba 0x20904406065b tq this
      |n s=>
       cases j with
       |zero=>simp[df,d0,dm]
       |succ j=>simp only[bN,ck,cj]at h;have:=d (p+s.length) j<|Y2 ‹_›;simp only[df,d0,dm,getD_cons_succ];exact ba 0x20904406065b tq this
    have:=l r (p+s.length) j<|Y2 ‹_›;exact ba 0x82611018196c406867b tq b this
   |succ i=>have:=d (p+s.length) g i j (Y2 ‹_›)<|Y2 ‹_›;simp only[getD_cons_succ];exact⟨this.1,oN 0x1048220303218413c6c406827b tq b this⟩
def VW {A:List IL}{d:Nat}(Q:Bj H.length ZW mL H)(w:qk H.length m wd' wL H)(k:ZW=jM A 0)(D:m=nI A)(O:2<=m)(f:m<64)(L:src=um wd (hE A 0))(U:sh src=true)(R:sh (um wd'<|hE A 0)=true)
  (hg:∀(j:Nat) (s:Nm),(mm A)[j]?=some s->wd j=s) (F:∀s∈mm A,s≠[]):
  ∃x,ae (d+1) 63 [.s src,.r mL,.r wL] H=some (.v<|.s<|um wd'<|hE A 0,H++x):=by
 have E:ZW.length=m:=by rw[k,lP,D]
 have i0:nW 2 0=some 0:=rfl;have r:=xK (cl:=ae d) (l:=[xS src,xR mL,xR wL,none,none,none,none,none]) (H:=H) (elt:=.p [(.t (.t (.v 1)<|.v 0)<|.i 0),(.v 0)]) (n:=.n<|.v 1) (caps:=[1]) (k:=(m:Int))
  (λv=>match v with | .i i=>.t [.i ((ZW.getD i.toNat (0,[])).1:Nat),.i i]|_=>.n) (X6 (hG λY=>Y _ Q.len)<|by simp[Q.len,E]) (YD _) ((YL (n:=1000000)).mpr<|zj f) (λv hv=>by
   rw[Y5,show(0:Int)=((0:Nat):Int)from rfl,dk]at hv;refine ag (Yp.1 hv) λi o e7=>?_;subst e7;rw[ZA]at o;have S:ZW[i]?=some (ZW.getD i (0,[])):=by refine aa (Yq)<|aa (XQ<|by exact ba 0x2098821e6c406b0019800d04b1b tq o E) ?_;rfl
   have g:=Q.item S;have g0:getItem H (.t [.i ((ZW.getD i (0,[])).1:Nat),.s (ZW.getD i (0,[])).2]) (.i 0)=xI ((ZW.getD i (0,[])).1:Nat):=rfl;exact hG λY=>Y _ g _ getElem?_cons_zero) (by rw[lZ];exact XJ (YR f)<|nl rfl)
 refine cps λC kC=>?_;obtain⟨b,B⟩:∃b:List<|Int×Int,b=(List.range m).map λi=>((((ZW.getD i (0,[])).1:Nat):Int),(i:Int)):=⟨_,rfl⟩;have a:b.length=m:=by refine aa B ?_;simp
 have e1:(bS 0 ((m:Int)).toNat 1).map (λv=>match v with | .i i=>V.t [.i ((ZW.getD i.toNat (0,[])).1:Nat),.i i]|_=>.n)=b.map λp=>V.t [.i p.1,.i p.2]:=by rw[Y5,show(0:Int)=((0:Nat):Int)from rfl,dk,B,Y9,Y9,List.range_eq_range'];exact YU λi _=>rfl
 rw[e1]at r;have c:=uD (ps:=b) r (bg _ _) (zt O a)<|A6 a f;have z:∀i,i<m->b.getD i (0,0)=((((ZW.getD i (0,[])).1:Nat):Int),(i:Int)):=λi o=>by refine aa B<|aa (Yq)<|aa (YN)<|aa (List.getElem?_range o) ?_;rfl
 have T:jh b=List.range m:=by
  refine dG a<|JM (zt O a) (A6 a f) λi j o P=>aa (z i<|zQ o a)<|aa (z j<|zQ P a) ?_;simp only[d9];rcases lt_trichotomy i j with q|q|q
  ·have:=(HV A 0 F i j q<|G4 P a D).1
   rw[<- k]at this;have h1:(((ZW.getD i (0,[])).1:Nat):Int)<((ZW.getD j (0,[])).1:Nat):=Yi.mpr ‹_›;simp only[Yy h1,Yy q,Bool.true_or]
  ·subst q
   simp
  ·have:=(HV A 0 F j i q<|G4 o a D).1
   rw[<- k]at this;have h1:¬(((ZW.getD i (0,[])).1:Nat):Int)<((ZW.getD j (0,[])).1:Nat):=λh=>lt_asymm this<|Yi.mp h;have O:¬(((ZW.getD i (0,[])).1:Nat):Int)=((ZW.getD j (0,[])).1:Nat):=λh=>XB this<|Int.ofNat_inj.mp h;have h3:¬i<j:=aK 0x82c00867b tq q;simp only[Yt h1,Yt O,Yt h3];rfl
 rw[T]at c;have e2:((List.range m).map λi=>V.t [.i (b.getD i (0,0)).1,.i (b.getD i (0,0)).2])=dE A 0 0:=by rw[l8,<- D,<- k];refine YU λi o=>aa (z i<|by simpa using o) ?_;simp
 rw[e2]at c;obtain⟨H2,u⟩:∃H2,H2=H++[AO.l<|b.map λp=>V.t [.i p.1,.i p.2]]++[.l<|dE A 0 0]:=⟨_,rfl⟩;obtain⟨t,I⟩:∃t,t=(H++[AO.l<|b.map λp=>V.t [.i p.1,.i p.2]]).length:=⟨_,rfl⟩;rw[<- u,<- I]at c;have G:H2[t]?=some (.l<|dE A 0 0):=by refine aa u<|aa I ?_;simp
 have X:H2=H++[AO.l<|b.map λp=>V.t [.i p.1,.i p.2],.l<|dE A 0 0]:=by refine aa u ?_;simp
 have km2:Bj H.length ZW mL H2:=by refine aa X ?_;exact Q.app _
 have w2:qk H.length m wd' wL H2:=w.keep (by rw[X];exact Kp.app _<|XC _);refine Rj (cl:=ae d) (ok:=aZ t<|dE A 0 0) (x3:=xR t) (wd:=wd) (cS G) km2 w2 U R A 0 0 0 [] [] none none (L) rfl (XC _) (rfl) (λj=>by rw[k,Yx];exact .inl rfl) (aK 0x4006b2400879b tq D) (λj s P=>by rw[Yx];exact hg j s P) λl e x6' x7' lp M N=>?_
 have lpe:bw (ae d) a4 [xS src,xR mL,xR wL,xR t,xS [],xI 0,none,none] H2 eY=some (.n [xS src,xR mL,xR wL,xR t,xS l,xI (e:Nat),x6',x7'],H2):=by exact aa AC<|aa (u8 (a:=t) (vs:=dE A 0 0) (rfl) G<|by rw[l8,XM,List.length_range];exact aK 0x7a12044120043cd880e0867b tq f D) lp
 have W:=jP U;have J:OU (.s src) (.i (e:Nat))=xS (src.drop e):=by simp only[OU,mZ (n:=e)<|Er N W,U,ZL,if_true,wE,oE,cz];unfold GN;exact aa (min_eq_left N)<|aa (ZC<|XC _) rfl
 have y:=Xs List.length M;simp only[Xx]at y;have a1:=B1 (a:=l) (b:=src.drop e) (sX R<|ba 0x209080c0879b tq y)<|sX R<|ba 0x209004c0879b tq y;rw[<- M]at a1;refine kC<|⟨[AO.l<|b.map λp=>V.t [.i p.1,.i p.2],.l<|dE A 0 0],?_⟩
 ·refine dG X<|aa (aU (f:=dH) rfl rfl) ?_
  have e0:List.map some [V.s src,V.r mL,V.r wL]++List.replicate (dH.vars-dH.p) none=[xS src,xR mL,xR wL,none,none,none,none,none]:=rfl;refine aa e0 ?_;simp[dH,c,lpe,J,a1]
end
set_option genInjectivity false in
structure pj where
 w:Nat
 p:Nat
 e:Nat
 m:Nat
 v:Nat
 s:Nat
set_option genInjectivity false in
structure bZ where
 d:Nm
 m:List (Nat×Nm)
 a:List Ev
 b:Int
 c:Nat
structure GR(A:pj)(H:Hp)(G:bZ):Prop where
 v:A.w<A.p
 u:A.p<A.e
 s:A.e<A.m
 n:A.m<A.v
 j:A.v<A.s
 f:∃(t:Int) (l:List Int),H[A.p]?=some (.l [.r A.w,.i t])/\H[A.w]?=some (.l<|l.map V.i)/\(∀x∈l,0<=x/\x<1000)/\l.length<=900/\0<=t/\t<1000
 he:∃ss:List Nm,H[A.e]?=some (.l<|ss.map V.s)/\ss.flatten=G.d/\ss.length<=G.c
 hm:H[A.m]?=some (.l<|G.m.map λp=>V.t [.i p.1,.s p.2])
 g:H[A.v]?=some (.l<|G.a.map kW)
 d:H[A.s]?=some (.l [.r A.e,.i G.d.length,.r A.m,.r A.v,.i G.b])
 bm:G.m.length<=G.c
 bv:G.a.length<=G.c
 w:G.d.length<=30*G.c
 m:G.c<=900
structure GK(A:pj)(H H':Hp):Prop where
 ln:H.length<=H'.length
 lo:∀i,i≠A.w->i≠A.p->i≠A.e->i≠A.m->i≠A.v->i≠A.s->i<H.length->H'[i]?=H[i]?
section
variable{d:Nat}
def GK.refl (A)(H):GK A H H:=⟨XC _,λ_ _ _ _ _ _ _ _=>rfl⟩
def GK.trans (a:GK A H k)(b:GK A k H3):GK A H H3:=
 ⟨XJ a.ln b.ln,λi h1 h c e f g j=>(b.lo i h1 h c e f g<|XO j a.ln).trans<|a.lo i h1 h c e f g j⟩
def GK.app (A)(H x):GK A H<|H++x:=⟨by simp,λi _ _ _ _ _ _ h=>aa (Yu h) rfl⟩
def GK.set (o)(h:a=A.w\/a=A.p\/a=A.e\/a=A.m\/a=A.v\/a=A.s):GK A H<|H.set a o:=
 ⟨by simp,λi h1 b c f g j _=>YJ (λe=>by subst e;exact h.elim h1 (·.elim b (·.elim c (·.elim f (·.elim g j)))))⟩
def GR.lwp (r:GR A H G):A.w<A.p:=r.v
def GR.lwe (r:GR A H G):A.w<A.e:=YC r.lwp r.u
def GR.lwm (r:GR A H G):A.w<A.m:=YC r.lwe r.s
def GR.lwv (r:GR A H G):A.w<A.v:=YC r.lwm r.n
def GR.lws (r:GR A H G):A.w<A.s:=YC r.lwv r.j
def GR.lpe (r:GR A H G):A.p<A.e:=r.u
def GR.lpm (r:GR A H G):A.p<A.m:=YC r.lpe r.s
def GR.lpv (r:GR A H G):A.p<A.v:=YC r.lpm r.n
def GR.lps (r:GR A H G):A.p<A.s:=YC r.lpv r.j
def GR.lem (r:GR A H G):A.e<A.m:=r.s
def GR.lev (r:GR A H G):A.e<A.v:=YC r.lem r.n
def GR.les (r:GR A H G):A.e<A.s:=YC r.lev r.j
def GR.lmv (r:GR A H G):A.m<A.v:=r.n
def GR.lms (r:GR A H G):A.m<A.s:=YC r.lmv r.j
def GR.lvs (r:GR A H G):A.v<A.s:=r.j
def GR.new (r:GR A H G):A.e≠A.w:=XB r.lwe
def GR.nep (r:GR A H G):A.e≠A.p:=XB r.lpe
def GR.nev (r:GR A H G):A.e≠A.v:=Yd r.lev
def GR.nes (r:GR A H G):A.e≠A.s:=Yd r.les
def GR.nmw (r:GR A H G):A.m≠A.w:=XB r.lwm
def GR.nmp (r:GR A H G):A.m≠A.p:=XB r.lpm
def GR.nms (r:GR A H G):A.m≠A.s:=Yd r.lms
def GR.nvw (r:GR A H G):A.v≠A.w:=XB r.lwv
def GR.nvp (r:GR A H G):A.v≠A.p:=XB r.lpv
def GR.nve (r:GR A H G):A.v≠A.e:=XB r.lev
def GR.nsw (r:GR A H G):A.s≠A.w:=XB r.lws
def GR.nsp (r:GR A H G):A.s≠A.p:=XB r.lps
def GR.nse (r:GR A H G):A.s≠A.e:=XB r.les
def GR.nsm (r:GR A H G):A.s≠A.m:=XB r.lms
def GR.nsv (r:GR A H G):A.s≠A.v:=XB r.lvs
def GR.app (r:GR A H G)(x):GR A (H++x) G:=by exact cps λC k=>am r.f λt l a b c=>ag r.he λi e h=>k<|{r with f:=⟨t,l,fi a,fi b,c⟩,he:=⟨i,fi e,h⟩,hm:=fi r.hm,g:=fi r.g,d:=fi r.d}
def GR.adp (r:GR A H G)(o)(h:a≠A.w/\a≠A.p/\a≠A.e/\a≠A.m/\a≠A.v/\a≠A.s):GR A (H.set a o) G:=by exact cps λC k=>am r.f λt l x b c=>ag r.he λp e i=>k<|{r with f:=⟨t,l,aB x<|h.2.1,aB b<|h.1,c⟩,he:=⟨p,aB e<|h.2.2.1,i⟩,hm:=aB r.hm<|h.2.2.2.1,g:=aB r.g<|h.2.2.2.2.1,d:=aB r.d<|h.2.2.2.2.2}
def getL {a i:Nat}(h:H[a]?=some (.l l))(c:l.length<=900)(b:l[i]?=some v):getItem H (.r a) (.i<|i)=some v:=by have:=vA (qT b)<|XJ ‹_›<|nl rfl;simp[Ad h,this,b]
def GR.items (r:GR A H G):getItem H (.r A.s) (.i 0)=xR A.e/\getItem H (.r A.s) (.i 1)=xI G.d.length/\getItem H (.r A.s) (.i 2)=xR A.m/\getItem H (.r A.s) (.i 3)=xR A.v/\getItem H (.r A.s) (.i 4)=xI G.b:=
 ⟨getL (i:=0) r.d (nl rfl) rfl,getL (i:=1) r.d (nl rfl) rfl,getL (i:=2) r.d (nl rfl) rfl,getL (i:=3) r.d (nl rfl) rfl,getL (i:=4) r.d (nl rfl) rfl⟩
def js (h:-1000000<=x)(h1:x<=1000000):sm x=true:=Bm (ZS (by decide) h) (aav h1<|by decide)
def jR (h:0<b)(h1:b<=1000000):fQ .m (.i a) (.i b)=xI (a % b):=by simp only[fQ,Yy h,js (x:=b) (Yg (by decide)<|YK h) h1,ZL,if_true,cz]
def Mx (h:0<=a)(h1:a<=1000000)(c:0<=b)(e:b<=1000000):fQ .mul (.i a) (.i b)=xI (a*b):=by simp only[fQ,js (x:=a) (Yg (by decide) h) h1,js (x:=b) (Yg (by decide) c) e,ZL,if_true,cz,oE,JY]
structure PL(wa pa:Nat)(H:Hp):Prop where
 o:wa<pa
 f:∃(t:Int) (l:List Int),H[pa]?=some (.l [.r wa,.i t])/\H[wa]?=some (.l<|l.map V.i)/\(∀x∈l,0<=x/\x<1000)/\l.length<=900/\0<=t/\t<1000
def PL.app (p:PL w e H)(x):PL w e<|H++x:=by exact am p.f λt l a b c=>⟨p.o,t,l,fi a,fi b,c⟩
structure PK(wa pa:Nat)(H H':Hp):Prop where
 ln:H.length<=H'.length
 lo:∀i,i≠wa->i≠pa->i<H.length->H'[i]?=H[i]?
def NA (r:PL wa pa H)(f:0<w)(h1:w<=1000)(J:1<=d){Cx:Prop}(p:∀x B,ae d 50 [.r pa,.i w] H=some (.v<|.i x,B)->0<=x->x<w->PL wa pa B->PK wa pa H B->Cx):Cx:=by
 revert p;refine lV 1 J rfl λd J p=>Dh r.f λt l p1 p2 F v G I=>?_;have o:=r.o;have C:getItem H (.r pa) (.i 0)=xR wa:=getL (i:=0) p1 (nl rfl) rfl;have k:PK wa pa H<|H++[.l []]:=⟨by simp,λi _ _ h=>aa (Yu h) rfl⟩;have q:(H++[AO.l []])[pa]?=some (.l [.r wa,.i t]):=fi p1;have j:(H++[AO.l []])[wa]?=some (.l<|l.map V.i):=fi p2;have M:(H++[AO.l []])[H.length]?=some (.l<|([]:List Int).map V.i):=bg _ _;have c:=A7 j M;obtain⟨a,b⟩:∃a,a=H++[AO.l []]:=⟨_,rfl⟩;rw[<- b]at k q j M c;have q:=q;have D:getItem a (.r pa) (.i 0)=xR wa:=getL (i:=0) q (nl rfl) rfl;have g:getItem a (.r pa) (.i 1)=xI t:=getL (i:=1) q (nl rfl) rfl;by_cases A:l=[]
 ·rw[Yy A]at c
  by_cases L:0<t
  ·have S:=Mx (a:=t) (b:=29) G (Yg (YK I)<|by decide) (by decide) (by decide)
   have T:=jR (a:=t*29+7) (b:=997) (by decide) (by decide);obtain⟨t2,e⟩:∃t2,t2=max ((t*29+7) % 997) 1:=⟨_,rfl⟩;have O:0<=t2/\t2<1000:=⟨Yg (by decide)<|e▸Int.le_max_right _ _,e▸Int.max_lt.mpr ⟨Int.lt_trans (Z5 _<|by decide)<|by decide,by decide⟩⟩;have R:nW 2 1=some 1:=rfl;have U:setItem a (.r pa) (.i 1) (.i t2)=some (a.set pa<|.l [.r wa,.i t2]):=by simp[Nu q,q,R]
   have N:(a.set pa<|.l [.r wa,.i t2])[pa]?=some (.l [.r wa,.i t2]):=dP q;have P:getItem (a.set pa<|.l [.r wa,.i t2]) (.r pa) (.i 1)=xI t2:=getL (i:=1) N (nl rfl) rfl;have u:=jR (a:=t2) (b:=w) f (Yg h1<|by decide);refine p (t2 % w) (a.set pa<|.l [.r wa,.i t2]) ?_ (aaf _<|Zs ‹_›) (Z5 _ f) ⟨o,t2,l,N,aB j<|XB ‹_›,F,v,O⟩ ⟨by have:=k.ln;simp;exact kh this,λi h1 z E=>by refine aa (YJ<|X0 z) ?_;exact k.lo i h1 z E⟩;refine aa (aU (f:=j9) rfl rfl) ?_;subst b e;exact j6 λn=>n _ C _ c _ g _ (kj rfl L) _ g _ S _ rfl _ T _ U _ P _ u
  ·have u:=jR (a:=t) (b:=w) f (Yg h1<|by decide)
   refine p (t % w) a (aa (aU (f:=j9) rfl rfl) ?_) (aaf _<|Zs ‹_›) (Z5 _ f) ⟨o,t,l,q,j,F,v,G,I⟩ k;subst b;exact j6 λn=>n _ C _ c _ g _ (fw rfl L) _ g _ u
 ·rw[Yt A]at c
  obtain⟨s,x,rfl⟩:∃s x,l=s++[x]:=⟨l.dropLast,l.getLast A,(abm A).symm⟩;have m:wv a wa=some (.i x,a.set wa<|.l<|s.map V.i):=by simp only[wv,j,Zj,af,map_nil,getLast?_concat,dropLast_concat,bh,b9];exact aa (Xr<|by simp only[Xx,XM,aE,br]at *;exact bC 0x3d090221681ac0325c2382d035806065b tq v) rfl
  have u:=jR (a:=x) (b:=w) f (Yg h1<|by decide);refine p (x % w) (a.set wa<|.l<|s.map V.i) ?_ (aaf _<|Zs ‹_›) (Z5 _ f) ⟨o,t,s,aB q<|Yd ‹_›,dP j,λy Q=>F y<|mem_append_left _ Q,by simp only[Xx,aE,br]at v;exact bC 0x3847025c2382d035806065b tq v,G,I⟩ ⟨by have:=k.ln;simp;exact kh this,λi h1 z E=>by refine aa (YJ<|X0 h1) ?_;exact k.lo i h1 z E⟩;refine aa (aU (f:=j9) rfl rfl) ?_;subst b;exact j6 λn=>n _ C _ c _ D _ _ m _ u
def O1 (r:GR A H G)(m:0<w)(h1:w<=1000)(q:1<=d){Cx:Prop}(s:∀x b,ae d 50 [.r A.p,.i w] H=some (.v<|.i x,b)->0<=x->x<w->GR A b G->GK A H b->Cx):Cx:=by refine NA (wa:=A.w) (pa:=A.p) ⟨r.v,r.f⟩ m h1 q λx b e v y p k=>?_;have c:∀{a o},a≠A.w->a≠A.p->H[a]?=some o->b[a]?=some o:=λn1 t h=>(k.lo _ n1 t<|xg h).trans h;exact ag r.he λu j l=>s x b e v y ({r with f:=p.f,he:=⟨u,c r.new r.nep j,l⟩,hm:=c r.nmw r.nmp r.hm,g:=c r.nvw r.nvp r.g,d:=c r.nsw r.nsp r.d}) ⟨k.ln,λi h1 n _ _ _ _ h=>k.lo i h1 n h⟩
noncomputable def bZ.emit(G:bZ)(t:Nm):bZ:={G with d:=G.d++t,c:=G.c+1}
def S7 {t:Nm}(r:GR A H G)(v:t.length<=30)(j:G.c<900)(m:1<=d){Cx:Prop}(k:∀b,ae d 51 [.r A.s,.s t] H=some (.v .n,b)->GR A b (G.emit t)->GK A H b->Cx):Cx:=by
 revert k;refine lV 1 m rfl λd m k=>?_;have B:=r.v;have C:=r.u;have D:=r.s;have E:=r.n;have F:=r.j;refine aj r.he λg e q i=>XG (λw _=>?_) r.items;have c:mB H A.e=true:=kB e;have a:bF H A.e (.s t)=some (H.set A.e<|.l<|(g++[t]).map V.s):=by simp only[bF,e,XM,bh];refine aa (Xr<|XJ i<|YR<|YC j<|nl rfl) ?_;simp
 obtain⟨H1,h⟩:∃H1,H1=H.set A.e (.l<|(g++[t]).map V.s):=⟨_,rfl⟩;have s:H1[A.s]?=some (.l [.r A.e,.i G.d.length,.r A.m,.r A.v,.i G.b]):=by refine aa h ?_;exact aB r.d<|r.nes
 have z:GK A H H1:=by refine aa h ?_;exact GK.set _<|.inr<|.inr<|.inl rfl
 have g1:getItem H1 (.r A.s) (.i 1)=xI G.d.length:=getL (i:=1) s (nl rfl) rfl;have f:eu H1 (.s t)=some (t.length:Int):=by have:sh t=true:=e6.mpr<|XJ ‹_›<|nl rfl;simp only[eu,this,if_true,b9]
 have x:nW 5 1=some 1:=rfl;have J:setItem H1 (.r A.s) (.i 1) (.i (G.d.length+t.length:Int))=some (H1.set A.s<|.l [.r A.e,.i (G.d.length+t.length:Int),.r A.m,.r A.v,.i G.b]):=by simp[Nu s,s,x]
 have u:d6 .a (.i (G.d.length:Int)) (.i (t.length:Int))=xI (G.d.length+t.length:Int):=rfl;refine k (H1.set A.s<|.l [.r A.e,.i (G.d.length+t.length:Int),.r A.m,.r A.v,.i G.b]) ?_ ?_<|z.trans<|GK.set _<|.inr<|.inr<|.inr<|.inr<|.inr rfl
 ·refine aa (aU (f:=sQ) rfl rfl) ?_
  rw[<- h]at a;exact j6 λy=>y _ w c _ a _ g1 _ f _ u _ J
 ·refine am r.f λL l p1 p2 I=>?_
  have n:=r.bm;have p:=r.bv;have o:=r.w;refine aa h ?_;rw[h]at s;refine⟨B,C,D,E,F,⟨L,l,aB (aB p1<|XB ‹_›)<|r.nsp,aB (aB p2<|r.new)<|r.nsw,I⟩,⟨g++[t],aB (dP e)<|r.nse,by simp[bZ.emit,q],by simp[bZ.emit];exact kh i⟩,aB (aB r.hm<|Yd ‹_›)<|r.nsm,aB (aB r.g<|r.nev)<|XB ‹_›,?_,by simp only[bZ.emit];exact aC n,by simp only[bZ.emit];exact aC p,by simp only[bZ.emit,Xx];exact ba 0x16899e6bc2064bcd0865b179af0065b tq o v,by simp only[bZ.emit];exact bC 0x708e0b40c9708e0067b tq j⟩;refine aa (dP s) ?_;simp[bZ.emit]
noncomputable def bZ.mark(G:bZ)(s:Nm):bZ:={G with d:=G.d++s,m:=G.m++[(G.d.length,s)],c:=G.c+2}
def Ve {s:Nm}(r:GR A H G)(z:s.length<=30)(e:G.c<890)(i:2<=d){Cx:Prop}(k:∀f,ae d 52 [.r A.s,.s s] H=some (.v<|.i G.m.length,f)->GR A f (G.mark s)->GK A H f->Cx):Cx:=by
 revert k;refine lV 1 i rfl λd i k=>?_;have I:=r.v;have J:=r.u;have L:=r.s;have M:=r.n;have N:=r.j;have g:=r.bm;have t:=r.bv;have o:=r.w;have u:=r.m;refine bW r.items λU B C W X=>?_;have j:mB H A.m=true:=kB r.hm;have a:bF H A.m (.t [.i G.d.length,.s s])=some (H.set A.m<|.l<|(G.m++[(G.d.length,s)]).map λp=>V.t [.i p.1,.s p.2]):=by simp only[bF,r.hm,XM,bh];refine aa (Xr<|by exact qx g e) ?_;simp
 obtain⟨H1,h⟩:∃H1,H1=H.set A.m (.l<|(G.m++[(G.d.length,s)]).map λp=>V.t [.i p.1,.s p.2]):=⟨_,rfl⟩;have F:GK A H H1:=by refine aa h ?_;exact GK.set _<|.inr<|.inr<|.inr<|.inl rfl
 refine aj r.he λS v w x=>am r.f λT l p1 p2 O=>?_;rw[<- h]at a;have R:GR A H1 {G with m:=G.m++[(G.d.length,s)],c:=G.c+1}:=by refine aa h<|⟨I,J,L,M,N,⟨T,l,aB p1<|r.nmp,aB p2<|r.nmw,O⟩,⟨S,aB v<|XB ‹_›,w,by simp only[];exact aC x⟩,dP r.hm,aB r.g<|Yd ‹_›,aB r.d<|r.nms,by simp only[Xx,aE,br];exact i9 g,by simp only[];exact aC t,by simp only[];exact zm o,by simp only[];exact AQ e u⟩
 refine S7 (d:=d) R z (up e rfl) (dn i rfl) λn P q Q=>?_;have b:eu n (.r A.m)=some ((G.m.length:Int)+1):=by have:=bA q.hm (by simp[bZ.emit];exact aK 0x7a11fc412de9c10cf610065b tq g e);simpa [bZ.emit]using this
 refine tm q.items λY j1 D _=>k n (aa (aU (f:=r4) rfl rfl) ?_) q<|F.trans Q;have y:(G.m.length:Int)+1-1=G.m.length:=abk ..;exact j6 λE=>E _ C j _ B _ a _ _ P _ D _ b (.i G.m.length) (by show xI _=_;rw[y])
noncomputable def bZ.ev(G:bZ)(e:Ev):bZ:={G with a:=G.a++[e],c:=G.c+1}
def wJ {e:Ev}(r:GR A H G)(h:G.c<890):mB H A.v=true/\∃H',bF H A.v (kW e)=some H'/\GR A H' (G.ev e)/\GK A H H':=by
 have o:=r.v;have m:=r.u;have n:=r.s;have p:=r.n;have q:=r.j;have a:=r.bm;have b:=r.bv;have c:=r.w;have f:=r.m;refine cps λC k=>aj r.he λt g i j=>am r.f λu l p1 p2 s=>?_;have z:=r.g;refine k<|⟨by exact kB z,H.set A.v<|.l<|(G.a++[e]).map kW,?_,?_,GK.set _<|.inr<|.inr<|.inr<|.inr<|.inl rfl⟩
 ·simp only[bF,z,XM,bh]
  refine aa (Xr<|by exact qx b h) ?_;simp
 ·refine⟨o,m,n,p,q,⟨u,l,aB p1<|r.nvp,aB p2<|r.nvw,s⟩,⟨t,aB g<|r.nve,i,by simp only[bZ.ev];exact aC j⟩,aB r.hm<|XB ‹_›,dP z,aB r.d<|Yd ‹_›,by simp only[bZ.ev];exact aC a,by simp only[bZ.ev,Xx,aE,br];exact i9 b,by simp only[bZ.ev];exact zm c,by simp only[bZ.ev];exact AQ h f⟩
noncomputable def bZ.mkA(G:bZ)(p:Nat)(s:Nm):bZ:={G with m:=G.m++[(p,s)],c:=G.c+1}
def JB {p:Nat}{s:Nm}(r:GR A H G)(h:G.c<890){Cx:Prop}(k:mB H A.m=true->∀a,bF H A.m (.t [.i p,.s s])=some a->GR A a (G.mkA p s)->GK A H a->Cx):Cx:=by
 have o:=r.v;have m:=r.u;have n:=r.s;have q:=r.n;have t:=r.j;have b:=r.bm;have e:=r.bv;have c:=r.w;have f:=r.m;refine aj r.he λv g i j=>am r.f λw l p1 p2 u=>k (kB r.hm) (H.set A.m<|.l<|(G.m++[(p,s)]).map λp=>V.t [.i p.1,.s p.2]) ?_ ?_<|GK.set _<|.inr<|.inr<|.inr<|.inl rfl
 ·simp only[bF,r.hm,XM,bh]
  refine aa (Xr<|by exact qx b h) ?_;simp
 ·refine⟨o,m,n,q,t,⟨w,l,aB p1<|r.nmp,aB p2<|r.nmw,u⟩,⟨v,aB g<|XB ‹_›,i,by simp only[bZ.mkA];exact aC j⟩,dP r.hm,aB r.g<|Yd ‹_›,aB r.d<|r.nms,by simp only[bZ.mkA,Xx,aE,br];exact i9 b,by simp only[bZ.mkA];exact aC e,by simp only[bZ.mkA];exact zm c,by simp only[bZ.mkA];exact AQ h f⟩
noncomputable def bZ.out(G:bZ)(L:List IL)(e:List Ev)(k:Nat):bZ:={G with d:=G.d++ji L,m:=G.m++jM L G.d.length,a:=G.a++e,c:=G.c+k}
def dX (G:bZ)(L a:List IL)(b e:List Ev)(k c:Nat):(G.out L b k).out a e c=G.out (L++a) (b++e) (k+c):=by simp[bZ.out,XR]
def GR.cast (r:GR A H G)(e:G=G'):GR A H G':=e▸r
def uL:List Nm:=[[97],[98],[99],[100],Kt,[97],[98]]
def Lw:∀x∈uL,x∈cK/\x.length<=30:=by decide
def Xn (r:GR A H G)(i:G.c<880)(e:3<=d){Cx:Prop}(l:∀x f,ae d 53 [.r A.p,.r A.s] H=some (.v .n,f)->x∈uL->GR A f (G.out [.n x] [.u G.m.length] 3)->GK A H f->Cx):Cx:=by
 revert l;refine lV 1 e rfl λd e l=>?_;obtain⟨L,c⟩:∃L,L=uL.map V.s:=⟨_,rfl⟩;have Q:=r.app [.l L];have E:=GK.app A H [.l L];have z:(H++[AO.l L])[H.length]?=some (.l L):=bg _ _;have F:H.length<(H++[AO.l L]).length:=by simp
 refine O1 (d:=d) (w:=7) Q (by decide) (by decide) (dn e rfl) λx m p1 p2 Y p t=>?_;obtain⟨n,B⟩:∃n:Nat,x=(n:Int):=⟨x.toNat,(ZO p2).symm⟩;subst B;have k:n<7:=Yi.mp ‹_›;have v:=xg r.d;have g:∀{a},a<A.s->H.length≠a:=λh=>XB<|YC h v;have j:m[H.length]?=some (.l L):=by refine aa (t.lo _ (g r.lws) (g r.lps) (g r.les) (g r.lms) (g r.lvs) (XB v) F) ?_;exact z
 have b:n<uL.length:=k;have o:getItem m (.r H.length) (.i (n:Int))=xS (uL[n]'b):=getL j (by refine aa c ?_;decide) (by refine aa c ?_;simp);refine XG (λI s=>?_)<|Lw _<|ZJ b;have q:=ZJ b;generalize uL[n]'b=nm at o I s q;refine bW p.items λT U W C X=>XG (λR _=>Ve (d:=d) p s (yw i rfl) (dn e rfl) λS J M N=>mY (wJ (e:=.u G.m.length) M<|up i rfl) λv2 w u O P=>l nm w ?_ q (O.cast<|by simp[bZ.mark,bZ.ev,bZ.out,fH,iJ,gN,df,d0,dm])<|((E.trans t).trans N).trans P)<|wJ (e:=.o) p<|yw i rfl;have y:L=[.s [97],.s [98],.s [99],.s [100],.s [65,66,83],.s [97],.s [98]]:=by refine aa c ?_;rfl
 rw[y]at p1;unfold kW zz at u;exact sw (f:=uX) rfl rfl λD=>D _ _ p1 _ o _ C R _ _ J _ u
end
noncomputable def pQ:List Nm:=[[97],[98],[99],[100]]
structure TK(A:pj)(H:Hp)(ta:Nat)(tk:List Nm):Prop where
 g:H[ta]?=some (.l<|tk.map V.s)
 ne:ta≠A.w/\ta≠A.p/\ta≠A.e/\ta≠A.m/\ta≠A.v/\ta≠A.s
 a:∀x∈tk,x∈pQ
 j:tk.Nodup
structure GX(A:pj)(ta:Nat)(H H':Hp):Prop where
 ln:H.length<=H'.length
 lo:∀i,i≠ta->i≠A.w->i≠A.p->i≠A.e->i≠A.m->i≠A.v->i≠A.s->i<H.length->H'[i]?=H[i]?
section
variable{A:pj}{H H' H1 H2 H3:Hp}{G:bZ}{d ta:Nat}{tk:List Nm}
def GK.gx (k:GK A H H')(ta):GX A ta H H':=⟨k.ln,λi _=>k.lo i⟩
def GX.trans (a:GX A ta H1 H2)(b:GX A ta H2 H3):GX A ta H1 H3:=
 ⟨XJ a.ln b.ln,λi h h1 c e f g j k=>(b.lo i h h1 c e f g j<|XO k a.ln).trans<|a.lo i h h1 c e f g j k⟩
def TK.keep (t:TK A H ta tk)(k:GK A H H'):TK A H' ta tk:=
 ⟨(k.lo _ t.ne.1 t.ne.2.1 t.ne.2.2.1 t.ne.2.2.2.1 t.ne.2.2.2.2.1 t.ne.2.2.2.2.2<|xg t.g).trans t.g,t.ne,t.a,t.j⟩
def DC {l m:List Nm}(h:l.Nodup)(a:∀x∈l,x∈m):l.length<=m.length:=h.length_le_of_subset a
def TK.len (t:TK A H ta tk):tk.length<=4:=DC t.j t.a
def yo:(∀x∈tk,x∈pQ)->X8 3 (tk.map V.s)=true:=by
 induction tk with
 |nil=>intro _;simp[iX]
 |cons x tk i=>
  intro h;have b:bx 3 (.s x)=true:=by
   have:∀y∈pQ,bx 3 (.s y)=true:=by intro y a;simp only[pQ,XE,XY,or_false]at a;rcases a with rfl|rfl|rfl|rfl<;>rfl
   exact this x<|h x<|.head _
  simp[ju,b,i λy a=>h y<|.tail _ a]
def TK.isin (t:TK A H ta tk)(c:x∈pQ):aY H (.Zg ()) (.s x) (.r ta)=some (!tk.contains x):=by
 show(fX H (.s x)<|.r ta).map (!·)=_;have b:bx 3 (.s x)=true:=by have:=yo (tk:=[x]) (λy h=>by simp at h;subst h;exact c);simpa [iX,ju]using this
 rw[Mc t.g<|by rw[yo t.a,b];rfl,da];rfl
def Bn {k:Nat}(h:k<4):getItem H (.s [97,98,99,100]) (.i (k:Int))=xS (pQ.getD k [])/\pQ.getD k []∈pQ:=by have:k=0\/k=1\/k=2\/k=3:=U5 h;clear h;rcases this with rfl|rfl|rfl|rfl<;> exact⟨rfl,by decide⟩
def OZ (c:Cl):V->Lo->Hp->Option (Fl×Hp):=λv l H'=>XU c a4 (l.set 3<|some v) H' [.s 4<|.t (.s [97,98,99,100])<|.o .m (.o .a (.v 2)<|.v 3)<|.i 4,.i (.q (.Zg ()) (.v 4)<|.v 1) [.a (.v 1)<|.v 4,.r<|.v 4] []]
abbrev WS (c:Cl)(p:V)(ta:Nat)(tk:List Nm)(f:Nat)(H:Hp)(b:List Nat)(e g:Option V):Prop:=
  (∃o a,aM (OZ c) (λ_=>true) (b.map λ(i:Nat)=>V.i i) [some p,xR ta,xI (f:Int),e,g] H=some (.n [some p,xR ta,xI (f:Int),o,a],H)/\∀s∈b,pQ.getD ((f+s) % 4) []∈tk)\/
  ∃x,x∈pQ/\x∉tk/\aM (OZ c) (λ_=>true) (b.map λ(i:Nat)=>V.i i) [some p,xR ta,xI (f:Int),e,g] H=some (.r<|.s x,H.set ta<|.l<|(tk++[x]).map V.s)
def RO (t:TK A H ta tk)(w:List Nat):∀(o o4:Option V),WS cl p ta tk f H w o o4:=by
 induction w with
 |nil=>intro o o4;exact .inl ⟨o,o4,bu rfl,λs D=>by cases D⟩
 |cons s w E=>
  intro o o4;refine XG (λg m=>?_)<|Bn (H:=H) (Nat.mod_lt _ (nl rfl):(f+s) % 4<4);obtain⟨k,j⟩:∃k,k=(f+s) % 4:=⟨_,rfl⟩;have r:fQ .m (.i<|(f:Int)+(s:Int)) (.i 4)=xI (((f+s) % 4:Nat):Int):=by congr 2
  have i:=t.isin m;rw[<- j]at r g m i;obtain⟨x,l⟩:∃x,x=pQ.getD k []:=⟨_,rfl⟩;rw[<- l]at g m i;have L:=t.len;by_cases n:x∈tk
  ·have v:tk.contains x=true:=by simpa using n
   rw[v]at i;have i:=i;have B:OZ cl (.i (s:Int)) [some p,xR ta,xI (f:Int),o,o4] H=some (.n [some p,xR ta,xI (f:Int),xI (s:Int),xS x],H):=by simp[OZ,r,g,i]
   rcases E (xI (s:Int)) (xS x)with⟨a,b,c,e⟩|⟨y,F,I,J⟩
   ·refine .inl ⟨a,b,by rw[af,aS rfl B];exact c,λq C=>?_⟩
    rcases XE.1 C with z|z
    ·clear c C r B;subst z
     exact(λy e h=>by rw[<- j,<- e];exact h) x l n
    ·exact e q z
   ·exact .inr ⟨y,F,I,by rw[af,aS rfl B];exact J⟩
  ·have v:tk.contains x=false:=by simpa using n
   rw[v]at i;have u:bF H ta (.s x)=some (H.set ta<|.l<|(tk++[x]).map V.s):=by simp only[bF,t.g,XM,bh];rw[Xr<|XJ ‹_›<|nl rfl];simp
   refine .inr ⟨x,m,n,?_⟩;rw[af,mj rfl (x:=.s x) (H':=H.set ta<|.l<|(tk++[x]).map V.s) ?_];simp[OZ,r,g,i,(kB t.g:mB H ta=true),u]
def T6 (r:GR A H G)(t:TK A H ta tk)(j:2<=d){Cx:Prop}(k:∀x H',ae d 54 [.r A.p,.r ta] H=some (.v<|.s x,H')->GR A H' G->GX A ta H H'->(((x∈pQ/\x∉tk/\TK A H' ta (tk++[x]))\/(x=[]/\TK A H' ta tk/\∀c∈pQ,c∈tk)))->Cx):Cx:=by
 revert k;refine lV 1 j rfl λd j k=>O1 (d:=d) (w:=4) r (by decide) (by decide) (dn j rfl) λv H1 p1 p2 L D p=>?_;obtain⟨f,rfl⟩:∃f:Nat,v=(f:Int):=⟨v.toNat,(ZO p2).symm⟩;have n:=t.keep p;have l:bw (ae d) a4 [xR A.p,xR ta,xI (f:Int),none,none] H1 gr=aM (OZ<|ae d) (λ_=>true) ((List.range' 0 4).map λ(i:Nat)=>V.i i) [xR A.p,xR ta,xI (f:Int),none,none] H1:=by unfold gr;rfl
 rcases RO (cl:=ae d) (p:=.r A.p) (f:=f) n (List.range' 0 4) none none with⟨a,b,c,e⟩|⟨y,E,F,M⟩
 ·rw[c]at l
  refine k ([]) H1 ?_ D (p.gx ta)<|.inr ⟨rfl,n,?_⟩
  ·exact j6 λm=>m _ _ p1 _ _ l
  ·have o:=e 0 (by decide)
   have s:=e 1 (by decide);have u:=e 2 (by decide);have w:=e 3 (by decide);have:f=0\/f=1\/f=2\/f=3:=(by decide:∀f,f<4->f=0\/f=1\/f=2\/f=3) f<|Yi.mp L;intro q h;simp only[pQ,XE,XY,or_false]at h;rcases this with rfl|rfl|rfl|rfl<;>(simp only[pQ]at o s u w;rcases h with rfl|rfl|rfl|rfl<;>first| exact o| exact s| exact u| exact w)
 ·rw[M]at l
  refine k y (H1.set ta<|.l<|(tk++[y]).map V.s) ?_ (D.adp _ t.ne) ((p.gx ta).trans ⟨by simp,λi I _ _ _ _ _ _ _=>YJ<|X0 I⟩)<|.inl ⟨E,F,dP n.g,t.ne,?_,?_⟩
  ·exact j6 λm=>m _ _ p1 _ _ l
  ·intro q h
   refine cps λC k=>?_;rcases YE.1 h with z|z
   ·exact k<|t.a q z
   ·refine k ?_
    simp at z;subst z;exact E
  ·rw[YS]
   refine⟨t.j,by simp,λa J b B g=>?_⟩;simp at B;subst B;subst g;exact F J
def ug (L:List IL):Prop:=∀s∈mm L,s∈cK
def TU (h:x∈uL):x∈cK:=(Lw x h).1
end
section
variable{G:bZ}{L M:List IL}{es:List Ev}{k:Nat}
def GR.up (q:GR A H G)(h1:G.c<=k)(h:k<=900):GR A H {G with c:=k}:=by refine cps λC b=>aj q.he λi e a l=>?_;have:=q.bm;have:=q.bv;have:=q.w;exact b<|{q with he:=⟨i,e,a,Ac ‹_› ‹_›⟩,bm:=Ac ‹_› ‹_›,bv:=Ac ‹_› ‹_›,w:=ba 0x7cd7824117a5b179af0065b tq ‹_› ‹_›,m:=h}
def aJ (h:ug L)(c:ug b):ug<|L++b:=λs a=>by
 rw[xa]at a;rcases YE.1 a with z|z
 ·exact h s z
 ·exact c s z
def a6 (h:mm L=[]):ug L:=λs a=>by rw[h]at a;cases a
def cY (h:mm L=[x])(b:x∈cK):ug L:=λs a=>by rw[h]at a;simp at a;clear h;subst a;exact b
def Po (r:GR A H G)(h:G.c<860)(j:3<=d){Cx:Prop}(i:∀x a,ae d 53 [.r A.p,.r A.s] H=some (.v .n,a)->x∈cK->GR A a (G.out [.n x] [.u G.m.length] 3)->GK A H a->Cx):Cx:=by exact Xn (d:=d) r (yw h rfl) ‹_› λx b c e f g=>i x b c (TU e) f g
def Jt (h:nI L=0):jM L p=[]:=List.length_eq_zero_iff.1 (by rw[lP,h])
def Gi (h:ji M=t)(a:nI M=0):G.emit t=G.out M [] 1:=by simp[bZ.emit,bZ.out,h,Jt a]
def Ic:G.mark s=G.out [.n s] [] 2:=by simp[bZ.mark,bZ.out,fH,gN,df,dm]
def NN:G.ev e=G.out [] [e] 1:=by simp[bZ.ev,bZ.out,fH,iJ,gN,df,d0,dm]
def fh:(G.out L es k).m.length=G.m.length+nI L:=by simp[bZ.out]
def AK:G.out [] [] 0=G:=by simp[bZ.out,fH,iJ,gN,df,d0,dm]
def Vw (r:GR A H<|G.out L es k)(M)(h:ji M=t)(i:nI M=0)(j:t.length<=30)(f:G.c+k<850)(g:1<=d){Cx:Prop}(l:∀e,ae d 51 [.r A.s,.s t] H=some (.v .n,e)->GR A e (G.out (L++M) es<|k+1)->GK A H e->Cx):Cx:=by exact S7 (d:=d) r j (yw f rfl) g λe a b c=>l e a (b.cast<|by rw[Gi h i,dX,Ys]) c
def OO (r:GR A H<|G.out L es k)(g:s.length<=30)(h:G.c+k<850)(f:2<=d){Cx:Prop}(i:∀e,ae d 52 [.r A.s,.s s] H=some (.v<|.i (G.m.length+nI L:Nat),e)->GR A e (G.out (L++[.n s]) es<|k+2)->GK A H e->Cx):Cx:=by refine Ve (d:=d) r g (yw h rfl) f λe a b c=>?_;rw[fh]at a;exact i e a (b.cast<|by rw[Ic,dX,Ys]) c
def K4 (e)(r:GR A H<|G.out L es k)(h:G.c+k<850):mB H A.v=true/\∃H',bF H A.v (kW e)=some H'/\GR A H' (G.out L (es++[e])<|k+1)/\GK A H H':=by exact cps λC d=>mY (wJ (e:=e) r<|yw h rfl) λx H' a b c=>d<|⟨x,H',a,b.cast<|by rw[NN,dX,Ys],c⟩
def Xo (r:GR A H<|G.out L es k)(h:G.c+k<850)(g:3<=d){Cx:Prop}(i:∀x f,ae d 53 [.r A.p,.r A.s] H=some (.v .n,f)->x∈cK->GR A f (G.out (L++[.n x]) (es++[.u<|G.m.length+nI L])<|k+3)->GK A H f->Cx):Cx:=by refine Po (d:=d) r (yw h rfl) g λx f a b c e=>?_;rw[fh]at c;exact i x f a b (c.cast<|by rw[dX]) e
end
structure SG(A:pj)(G:bZ)(F:Hp->Prop)(H:Hp):Prop where
 g:GR A H G
 f:F H
def Fr (A:pj)(F:Hp->Prop):Prop:=∀H a,GK A H a->F H->F a
def Fx (A:pj)(t:Nat)(F:Hp->Prop):Prop:=∀H a,GX A t H a->F H->F a
structure TP(A:pj)(ta:Nat)(tk:List Nm)(F:Hp->Prop)(H:Hp):Prop where
 t:TK A H ta tk
 f:F H
def R0 (A:pj)(a:Nat):Prop:=a≠A.w/\a≠A.p/\a≠A.e/\a≠A.m/\a≠A.v/\a≠A.s
structure LP(a:Nat)(W:List V)(F:Hp->Prop)(H:Hp):Prop where
 g:H[a]?=some (.l W)
 f:F H
section
variable{G:bZ}{L M:List IL}{es:List Ev}{k:Nat}
def Fx.fr (h:Fx A t F):Fr A F:=λH a g=>h H a<|g.gx t
def be (h:Fx A t F):Fr A<|TP A t b F:=λH a g p=>⟨p.t.keep g,h _ _ (g.gx t) p.f⟩
def PZ (n:R0 A a)(e:a≠t)(h:Fx A t F):Fx A t<|LP a W F:=λH b g p=>
 ⟨(g.lo a e n.1 n.2.1 n.2.2.1 n.2.2.2.1 n.2.2.2.2.1 n.2.2.2.2.2<|xg p.g).trans p.g,h _ _ g p.f⟩
def Pk (h:j.length<=t):Fx A t<|GK A j:=λH l g p=>
 ⟨XJ p.ln g.ln,λi h1 b c d e f a=>(g.lo i (Yd<|XO a h) h1 b c d e f<|XO a p.ln).trans<|p.lo i h1 b c d e f a⟩
def IG:Fr A<|GK A b:=λH a g p=>p.trans g
def Ef (h:G.c<B)(a:Nat.ble (k+B) 850=true):G.c+k<850:=by have:=Yb a;exact ba 0x1a9382064f527082c0cb620067b tq h this
def pJ (M)(g:Fr A F)(f:G.c<B)(j:Nat.ble (k+B) 850=true)(i:ji M=t)(h:nI M=0)(m:Nat.ble t.length 30=true)(h1:gv l 1=xR A.s)
  (o:Tr (ae<|d+1) l (SG A (G.out (L++M) es<|k+1) F) s Q):Tr (ae<|d+1) l (SG A (G.out L es k) F) (.x (.c 51 [.v 1,.s t])::s) Q:=
 aV (λH p=>by exact Vw (d:=d+1) p.g M i h (Yb m) (Ef f j) (nl rfl) λe a b c=>⟨e,qE λn=>n _ h1 _ _ a,b,g _ _ c p.f⟩) o
def SJ {i j:Nat}(f:Fr A F)(h:G.c<B)(m:Nat.ble (k+B) 850=true)(n:s.length<=30)(h1:gv l 1=xR A.s)(g:gv l j=xS s)
  (q:Tr (ae<|d+2) (l.set i<|xI (G.m.length+nI L:Nat)) (SG A (G.out (L++[.n s]) es<|k+2) F) r Q):Tr (ae<|d+2) l (SG A (G.out L es k) F) (.s i (.c 52 [.v 1,.v j])::r) Q:=
 aV (λH p=>by exact OO (d:=d+2) p.g n (Ef h m) (nl rfl) λe a b c=>⟨e,qE λo=>o _ h1 _ g _ _ a,b,f _ _ c p.f⟩) q
def Em (e){x:ME}{s:Nm}{v:V}(g:Fr A F)(h:G.c<B)(j:Nat.ble (k+B) 850=true)(i:kW e=.t [.s s,v])(h1:gv l 1=xR A.s)(m:∀H,GR A H (G.out L es k)->ai (ae d) l x H=some (v,H))
  (q:Tr (ae d) l (SG A (G.out L (es++[e])<|k+1) F) r Q):Tr (ae d) l (SG A (G.out L es k) F) (.a (.t (.v 1)<|.i 3) (.p [.s s,x])::r) Q:=
 aV (λH p=>by refine cps λC o=>bW p.g.items λu w y n z=>mY (K4 e p.g<|Ef h j) λt f a b c=>?_;rw[i]at a;exact o<|⟨f,by simp[h1,m H p.g,n,t,a],b,g _ _ c p.f⟩) q
def UK (e)(h:Fr A F)(r:G.c<B)(v:Nat.ble (k+2+B) 850=true)(t:kW e=.t [.s s,.i (G.m.length+nI L:Nat)])(h1:gv l 1=xR A.s)(u:gv l j=xS i)(w:i.length<=30)
  (D:Tr (ae<|d+2) l (SG A (G.out (L++[.n i]) (es++[e])<|k+3) F) E Q):Tr (ae<|d+2) l (SG A (G.out L es k) F) (.a (.t (.v 1)<|.i 3) (.p [.s s,.c 52 [.v 1,.v j]])::E) Q:=
 aV (λH p=>by have g:=Ef r v;refine cps λC z=>bW p.g.items λN O P x R=>XG (λI _=>OO (d:=d+2) p.g w (IC g) (nl rfl) λJ a b c=>mY (K4 e b ‹_›) λS m f o q=>?_)<|K4 .o p.g<|IC g;rw[t]at f;generalize G.m.length+nI L=n at a f;exact z<|⟨m,qE λy=>y _ h1 _ x I _ h1 _ u _ _ a _ f,o,h _ _ q<|h _ _ c p.f⟩) D
def Lz (i:Fr A F)(g:G.c<B)(j:Nat.ble (k+B) 850=true)(h:gv l 0=xR A.p)(h1:gv l 1=xR A.s)
  (n:∀x,x∈cK->Tr (ae<|d+3) l (SG A (G.out (L++[.n x]) (es++[.u<|G.m.length+nI L])<|k+3) F) s Q):Tr (ae<|d+3) l (SG A (G.out L es k) F) (.x (.c 53 [.v 0,.v 1])::s) Q:=λH p=>by
 exact cps λC m=>Xo (d:=d+3) p.g (Ef g j) (nl rfl) λx f a o b c=>m<|aV (P:=λX=>X=H) (λX e=>⟨f,by rw[e];simp[h,h1,a],b,i _ _ c p.f⟩) (n x o) H rfl
def Ph {i j:Nat}(n:Fx A t F)(o:gv l 0=xR A.p)(q:gv l j=xR t)
  (v:∀x,x∈pQ->x∉f->Tr (ae<|d+2) (l.set i<|xS x) (SG A G<|TP A t (f++[x]) F) s Q)
  (w:(∀c∈pQ,c∈f)->Tr (ae<|d+2) (l.set i<|xS []) (SG A G<|TP A t f F) s Q):Tr (ae<|d+2) l (SG A G<|TP A t f F) (.s i (.c 54 [.v 0,.v j])::s) Q:=λH p=>by
 refine T6 (d:=d+2) p.g p.f.t (nl rfl) λx g a b c u=>?_;have e:bw (ae<|d+2) a4 l H (.s i<|.c 54 [.v 0,.v j])=some (.n<|l.set i<|xS x,g):=qE λr=>r _ o _ q _ _ a;rcases u with⟨y,h,m⟩|⟨rfl,h,m⟩
 ·exact aV (P:=λX=>X=H) (λX z=>⟨g,z▸e,b,m,n _ _ c p.f.f⟩) (v x y h) H rfl
 ·exact aV (P:=λX=>X=H) (λX z=>⟨g,z▸e,b,h,n _ _ c p.f.f⟩) (w m) H rfl
def MG {i n:Nat}(c:Fr A F)(g:Nat.ble 1 n=true)(h:Nat.ble n 1000=true)(b:gv l 0=xR A.p)(f:∀H,ai (ae<|d+1) l e H=some (.i n,H))(o:∀w:Nat,w<n->Tr (ae<|d+1) (l.set i<|xI<|w) (SG A G F) u Q):Tr (ae<|d+1) l (SG A G F) (.s i (.c 50 [.v 0,e])::u) Q:=λH p=>by refine cps λC j=>O1 (d:=d+1) (w:=n) p.g (by have:=Yb g;exact Z2.mpr this) (by have:=Yb h;exact(YL (n:=1000)).mpr this) (nl rfl) λw a q r v s t=>?_;obtain⟨m,rfl⟩:∃m:Nat,w=(m:Int):=⟨w.toNat,(ZO r).symm⟩;exact j<|aV (P:=λX=>X=H) (λX z=>⟨a,by refine aa z ?_;simp[b,f,q],s,c _ _ t p.f⟩) (o m<|Yi.mp ‹_›) H rfl
def PV (M)(i:Fr A F)(m:G.c+k<840)(w:ji M=t)(x:∀p,jM M p=[(p+o,g)])(C:(o)+c=t.length)(y:Nat.ble t.length 30=true)(h1:gv l 1=xR A.s)
  (z:Tr (ae<|d+1) l (SG A (G.out (L++M) es<|k+2) F) B Q):Tr (ae<|d+1) l (SG A (G.out L es k) F) (.x (.c 51 [.v 1,.s t])::.a (.t (.v 1)<|.i 2) (.p [.o .s (.t (.v 1)<|.i 1)<|.i c,.s g])::B) Q:=by
 refine aV (l':=l) (P':=λH=>GR A H ((G.out L es k).emit t)/\F H) (λH p=>?_)<|aV (λH p=>?_) z
 ·exact S7 (d:=d+1) p.g (Yb y) (yw m rfl) (nl rfl) λf a b c=>⟨f,qE λj=>j _ h1 _ _ a,b,i _ _ c p.f⟩
 ·refine bW p.1.items λD q r E I=>JB (p:=G.d.length+(ji L).length+o) (s:=g) p.1 (up m rfl) λv f g1 h u=>?_
  have e:((((G.out L es k).emit t).d.length:Int)-c)=((G.d.length+(ji L).length+o:Nat):Int):=by simp[bZ.emit,bZ.out];lia
  have s:((G.out L es k).emit t).mkA (G.d.length+(ji L).length+o) g=G.out (L++M) es (k+2):=by simp[bZ.out,bZ.emit,bZ.mkA,Jc,wm,w,x,XR]
  rw[s]at h;generalize G.d.length+(ji L).length+o=n at e g1;refine⟨f,qE λj=>j _ h1 _ r v _ h1 _ q _ rfl (f) (by simp[h1,r,v,q,e,g1]),h,i _ _ u p.2⟩
def Im (a:nI M=1)(h1:gv l 1=xR A.s)(H)(r:GR A H<|G.out (L++M) es k):ai d l (.o .s (.n<|.t (.v 1)<|.i 2)<|.i 1) H=some (.i (G.m.length+nI L:Nat),H):=by
 refine cps λC c=>bW r.items λf g j i m=>?_;have h:eu H (.r A.m)=some ((G.m.length+nI L:Nat)+1:Int):=by have:=bA r.hm (by have:=r.bm;have:=r.m;simp only[XM];exact tU ‹_› ‹_›);simpa [bZ.out,a,ZN,ah]using this
 refine c ?_;generalize G.m.length+nI L=n at h⊢;have e:(n:Int)+1-1=n:=abk ..;exact X6 (II λb=>b _ h1 _ j _ h _ rfl) (by simp[h1,j,h,e])
def MV {q:Nat}(M)(c:Fr A F)(b:G.c<B)(f:Nat.ble (k+B) 850=true)(e:ji M=t)(h:nI M=0)(n:Nat.ble t.length 30=true)(m:vs[q]?=xS t)(j:Nat.ble vs.length 900=true)(h1:gv l 1=xR A.s)(i:∀H,Zb (ae<|d+1) l s H=some (vs,H))(o:∀H,ai (ae<|d+1) l x H=some (.i q,H))
  (r:Tr (ae<|d+1) l (SG A (G.out (L++M) es<|k+1) F) y Q):Tr (ae<|d+1) l (SG A (G.out L es k) F) (.x (.c 51 [.v 1,.t (.l s) x])::y) Q:=
 aV (λH p=>by refine Vw (d:=d+1) (p.g.app [.l vs]) M e h (Yb n) (Ef b f) (nl rfl) λa u v w=>?_;have g:getItem (H++[AO.l vs]) (.r H.length) (.i<|q)=xS t:=getL (l:=vs) (bg _ _) (Yb j) m;exact⟨a,by simp[h1,i,o,g,u],v,c _ _ ((GK.app A H _).trans w) p.f⟩) r
def DJ {q:Nat}(M)(g:Fr A F)(f:G.c<B)(j:Nat.ble (k+B) 850=true)(i:ji M=t)(h:nI M=0)(n:Nat.ble t.length 30=true)(m:[V.s a,.s b,.s c][q]?=xS t)(h1:gv l 1=xR A.s)(e:gv l 4=xI q)
  (p:Tr (ae<|d+1) l (SG A (G.out (L++M) es<|k+1) F) s Q):Tr (ae<|d+1) l (SG A (G.out L es k) F) (.x (.c 51 [.v 1,.t (.l [.s a,.s b,.s c])<|.v 4])::s) Q:=
 MV M g f j i h n m rfl h1 (λ_=>rfl) (λH=>II λo=>o _ e) p
def yZ (a:G.c<B)(h:k<=k')(b:Nat.ble (k'+B) 850=true)(c:Tr (ae d) l (SG A (G.out L es k') F) s Q):Tr (ae d) l (SG A (G.out L es k) F) s Q:=
 ed (λH p=>⟨(p.g.up (k:=G.c+k') (Zo ‹_› _)<|by have:=Ef a b;exact aK 0xe11c10325a938206067b tq this),p.f⟩) c
def xk (h:mm L=l)(a:∀s∈l,s∈cK):ug L:=λs b=>a s<|h▸b
def Uf (h:G.c+n<850):G.c<G.c+1/\∀j,Nat.ble j n=true->Nat.ble (j+(G.c+1)) 850=true:=⟨YX _,λj e=>aau<|by exact ba 0xd49c168182648220cb7a938206067b tq h<|Yb e⟩
def VT (A:pj)(G:bZ)(F:Hp->Prop)(L:List IL)(es:List Ev)(j:Nat)(v:Vl)(H:Hp):Prop:=ug (dw v)/\SG A (G.out (L++dw v) (es++kD v (G.m.length+nI L))<|j+7) F H
def Wv (g:G.c+15<850)(c:Fr A F):CT (ae<|d+3+1) 55 [.r A.p,.r A.s] (SG A (G.out [] [] 0) F) (λv H=>v=.n/\∃x,VT A G F [] [] 0 x H):=by
 refine XG (λa b=>dZ rfl rfl (l:=[xR A.p,xR A.s,none]) rfl rfl (Lz c a (b _ rfl) rfl rfl λx e=>MG (n:=4) c rfl rfl rfl (λ_=>rfl) λw f=>?_))<|Uf g;have f:w=0\/w=1\/w=2\/w=3:=U5 f;rcases f with rfl|rfl|rfl|rfl
 ·exact aN (λ_ _=>rfl)<|aN (λ_ _=>rfl)<|aN (λ_ _=>rfl)<|yZ (k':=7) a (nl rfl) (b _ rfl)<|ay λH p=>⟨rfl,.v0 x,xk (l:=[x]) rfl (Zq.2 ⟨e,λ_ h=>nomatch h⟩),p⟩
 ·exact bG (λ_ _=>rfl)<|pJ [g1,sg 43,g1] c a (b _ rfl) rfl rfl rfl rfl (Lz c a (b _ rfl) rfl rfl λy i=>yZ (k':=7) a (nl rfl) (b _ rfl)<|ay λH p=>⟨rfl,.v1 x y,xk (l:=[x,y]) rfl (Zq.2 ⟨e,Zq.2 ⟨i,λ_ h=>nomatch h⟩⟩),p⟩)
 ·exact aN (λ_ _=>rfl)<|bG (λ_ _=>rfl)<|pJ [sg 46,fn [97]] c a (b _ rfl) rfl rfl rfl rfl (yZ (k':=7) a (nl rfl) (b _ rfl)<|ay λH p=>⟨rfl,.v2 x,xk (l:=[x]) rfl (Zq.2 ⟨e,λ_ h=>nomatch h⟩),p⟩)
 ·exact aN (λ_ _=>rfl)<|aN (λ_ _=>rfl)<|bG (λ_ _=>rfl)<|PV (o:=1) [sg 40,.n [98],sg 46,fn [99],sg 44,g1,Mine.n1,g1,.f no uo,sg 41] c (bC 0x1a4386d0358064f5273da06067b tq g) rfl (λ_=>rfl) rfl rfl rfl (Em (.u _) c a (b _ rfl) rfl rfl (Im rfl rfl) (yZ (k':=7) a (nl rfl) (b _ rfl)<|ay λH p=>⟨rfl,.v3 x,xk (l:=[x,[98]]) rfl (Zq.2 ⟨e,Zq.2 ⟨by decide,λ_ h=>nomatch h⟩⟩),p⟩))
def Q7 (b:Fr A F)(a:G.c<B)(c:Nat.ble (k+16+B) 850=true)(h:gv l 0=xR A.p)(h1:gv l 1=xR A.s)
  (e:∀v,ug (dw v)->Tr (ae<|d+4) l (SG A (G.out (L++dw v) (es++kD v (G.m.length+nI L))<|k+7) F) s Q):Tr (ae<|d+4) l (SG A (G.out L es k) F) (.x (.c 55 [.v 0,.v 1])::s) Q:=by
 refine ed (λH p=>⟨p.g.cast AK.symm,p.f⟩)<|rI (vs:=[.r A.p,.r A.s]) (λH=>Uc λj=>j _ h _ h1) (Wv (G:=G.out L es k) (by have:=Ef a c;simp only[bZ.out];exact aK 0x35273da103193d49d0685806067b tq this) b) λv H p=>XG (λo p=>?_) p;rw[dX,fh]at p;exact e v o H ⟨p.g.cast<|rfl,p.f⟩
end
section
variable{A:pj}{H H':Hp}{G:bZ}{d:Nat}{L:List IL}{es:List Ev}{k:Nat}{l:Lo}{ss:List MS}{Q:Fl->Hp->Prop}{F:Hp->Prop}
def Uq (h:Fr A F)(c:G.c+k<840)(w:gv l 0=xR A.p)(h1:gv l 1=xR A.s)
  (I:∀x,x∈cK->Tr (ae<|d+2) l (SG A (G.out (L++[.n x]) (es++[.w<|G.m.length+nI L])<|k+3) F) ss Q):
  Tr (ae<|d+2) l (SG A (G.out L es k) F) (.a (.t (.v 1)<|.i 3) (.p [.s [102,111,114,119,97,114,100],.c 52 [.v 1,.t (.s [97,98,99,100])<|.c 50 [.v 0,.i 4]]])::ss) Q:=λH p=>by
 refine cps λC E=>?_;refine bW p.g.items λR S T B U=>?_;refine XG (λJ _=>?_)<|K4 .o p.g<|yw c rfl;refine O1 (d:=d+2) (w:=4) p.g (by decide) (by decide) (nl rfl) λq f i j P o r=>?_;obtain⟨n,rfl⟩:∃n:Nat,q=(n:Int):=⟨q.toNat,(ZO j).symm⟩;refine XG (λa b=>?_)<|Bn (H:=f) (k:=n)<|Yi.mp ‹_›;generalize pQ.getD n []=x at a b;obtain⟨M,N⟩:x∈cK/\x.length<=30:=(show∀y∈pQ,y∈cK/\y.length<=30 by decide) x b;refine OO (d:=d+2) o N (yw c rfl) (nl rfl) λO e s t=>?_;refine mY (K4 (.w<|G.m.length+nI L) s<|aK 0x6a4e1342c0327a438206067b tq c) λW g g1 u v=>?_;refine E<|aV (P:=λX=>X=H) (λX z=>⟨g,?_,u,h _ _ v<|h _ _ t<|h _ _ r p.f⟩) (I x M) H rfl;generalize G.m.length+nI L=m at e g1;refine aa z ?_;exact qE λD=>D _ h1 _ B J _ h1 _ w _ _ i _ a _ _ e _ g1
def KT (A:pj)(G:bZ)(F:Hp->Prop)(L:List IL)(es:List Ev)(j k:Nat)(K:Kd)(H:Hp):Prop:=ug (iE K)/\AP K<=k/\SG A (G.out (L++iE K) (es++nv K (G.m.length+nI L))<|j+20*(k+1)) F H
def DH {f:Lo}{K:Kd}{j:Nat}(e:G.out L es j=G.out (iE K) (nv K G.m.length) j)(o:ug<|iE K)(h:AP K<=k)(a:G.c+20*(k+1)<850)(b:j<=20*(k+1)){c:Cl}:Tr c f (SG A (G.out L es j) F) [] (Rt λv H=>v=.n/\∃K,KT A G F [] [] 0 k K H):=
 ay λH p=>⟨rfl,K,o,h,(((e▸p.g:GR A H<|G.out (iE K) (nv K G.m.length) j)).up (k:=G.c+20*(k+1)) (ba 0xb44ca35e06040c905a2651af0865b tq b)<|aK 0xe11c1685946bc0c96a4e0b42ca35e06067b tq a).cast<|by simp[bZ.out,bN],p.f⟩
def Wz:∀(k:Nat) {dp d:Nat}{G:bZ},k+dp=2->G.c+20*(k+1)<850->Fr A F->6+2*k<=d->
  CT (ae d) 56 [.r A.p,.r A.s,.i (dp:Int)] (SG A (G.out [] [] 0) F) (λv H=>v=.n/\∃K,KT A G F [] [] 0 k K H):=by
 intro k;induction k with
 |zero=>intro dp d G n a h f;obtain⟨d,rfl⟩:∃i,d=i+6:=⟨d-6,(Ym<|by exact bC 0x19b2001a26bccd6065b tq f).symm⟩;have m:dp=2:=bC 0x2682826800d6069b tq n;subst m;refine XG (λb c=>?_)<|Uf (n:=20) a;refine dZ (d:=d+5) rfl rfl (l:=[xR A.p,xR A.s,xI (2:Nat),none]) rfl rfl ?_;refine MG (n:=2) h rfl rfl rfl (λ_=>rfl) λw g=>?_;exact bG (λH _=>by simp;lia)<|Lz h b (c _ rfl) rfl rfl λx e=>DH (K:=.n x) rfl (cY rfl e) (XC _) a (nl rfl)
 |succ k B=>
  intro dp d G n a h f;obtain⟨d,rfl⟩:∃i,d=i+6:=⟨d-6,(Ym<|by exact aK 0x266c821681826bccd6065b tq f).symm⟩;refine XG (λb c=>?_)<|Uf (n:=20) (G:=G)<|aK 0x352751a064f52705a16858ca35e06067b tq a;have r:∀{L es j}{l:Lo},gv l 0=xR A.p->gv l 1=xR A.s->gv l 2=xI (dp:Int)->j<=9->∀{ss Q},(∀K,Tr (ae<|d+5) l (KT A G F L es j k K) ss Q)->Tr (ae<|d+5) l (SG A (G.out L es j) F) (.x (.c 56 [.v 0,.v 1,.o .a (.v 2)<|.i 1])::ss) Q:=λ{L es j l} s h1 t u {ss Q} D=>by refine ed (λH p=>⟨p.g.cast AK.symm,p.f⟩)<|rI (vs:=[.r A.p,.r A.s,.i ((dp+1:Nat):Int)]) (λH=>Uc λC=>C _ s _ h1 _ t _ rfl) (B (dp:=dp+1) (d:=d+5) (G:=G.out L es j) (aK 0x1342d0b00ca09a10b40c6069b tq n) (ba 0x6a4e0b44ca35e1031934b42196f52705a16898ca35e06067b tq a u) h<|aK 0x568580135e66b24668581681826bccd6065b tq f) λK=>ed (λH p=>?_)<|D K;refine bU p λo q p=>?_;rw[dX,fh]at p;exact⟨o,q,p.g.cast<|by simp[bN],p.f⟩
  refine dZ (d:=d+5) rfl rfl (l:=[xR A.p,xR A.s,xI (dp:Nat),none]) rfl rfl ?_;refine MG (n:=6) h rfl rfl rfl (λH=>by simp;lia) λw g=>?_;have g:w<2\/w=2\/w=3\/w=4\/w=5:=by revert w;decide
  rcases g with g|rfl|rfl|rfl|rfl
  ·exact bG (λH _=>by simp;lia)<|Lz h b (c _ rfl) rfl rfl λx e=>DH (K:=.n x) rfl (cY rfl e) (X4 _) a (nl rfl)
  ·-- ae4
   refine aN (λ_ _=>rfl)<|bG (λ_ _=>rfl) ?_;refine pJ xP h b (c _ rfl) rfl rfl rfl rfl ?_;refine r rfl rfl rfl (nl rfl) λK=>?_
   refineλH p=>?_
   refine bU p λo q p=>?_;refine PV (o:=6) Dt h (by exact aK 0x1a4382d0b28d785a06b18064f52705a16858ca35e06067b tq a) rfl (λ_=>rfl) rfl rfl rfl ?_ H p;refine Em (.u _) h b (aau<|aK 0x6a4e0b42c1342d0328d785a06b18c64b52705a16818ca35e16067b tq a) rfl rfl (Im rfl rfl) ?_;refine DH (K:=.r K) ?_ (aJ (aJ (a6 rfl) o)<|cY rfl (by decide)) (aak ‹_›) a (by lia);have z:nI xP=0:=rfl;simp[jT,gH,nE,fF,fJ,fE,ea,eU,ah,z]
  ·-- ad4
   exact aN (λ_ _=>rfl)<|aN (λ_ _=>rfl)<|bG (λ_ _=>rfl)<|pJ [wW gE,g1,wW R4,g1] h b (c _ rfl) rfl rfl rfl rfl (Uq h (aK 0x1a4382d0358064f52705a16858ca35e06067b tq a) rfl rfl λx e=>DH (K:=.p x) rfl (cY rfl e) (X4 _) a (nl rfl))
  ·-- ARRAY
   refine aN (λ_ _=>rfl)<|aN (λ_ _=>rfl)<|aN (λ_ _=>rfl)<|bG (λ_ _=>rfl)<|pJ [wW dc,g1] h b (c _ rfl) rfl rfl rfl rfl (Q7 h b (c _ rfl) rfl rfl λv y=>pJ [g1,wW xf,g1] h b (c _ rfl) rfl rfl rfl rfl (r rfl rfl rfl (nl rfl) λK=>λH p=>bU p λo q p=>DH (K:=.a v K) ?_ (aJ (aJ (aJ (a6 rfl) y)<|a6 rfl) o) (aak ‹_›) a (by lia) H p));have z:nI [wW dc,g1]=0:=rfl;have E:nI [g1,wW xf,g1]=0:=rfl;simp only[dA,ah,z,E,Yx,YZ];simp[qw,jT,qG,gH,nE,fF,fJ,fE,ea,eU,XR]
  ·-- acr
   exact aN (λ_ _=>rfl)<|aN (λ_ _=>rfl)<|aN (λ_ _=>rfl)<|aN (λ_ _=>rfl)<|pJ [wW eg,g1,sg 40,fn [99],sg 58,g1] h b (c _ rfl) rfl rfl rfl rfl (Lz h b (c _ rfl) rfl rfl λx e=>pJ [sg 41] h b (c _ rfl) rfl rfl rfl rfl (DH (K:=.c x) rfl (cY rfl e) (X4 _) a (nl rfl)))
end
def TX:List MS:=[.s 5<|.c 50 [(.v 0),(.i 2)],.i (.q .g (.v 5)<|.i 0) [.x<|.c 51 [(.v 1),(.t (.l [(.s [32,67,79,78,83,84,32]),(.s [32,84,89,80,69,32]),(.s [32,86,65,82,32])])<|.v 4)]] [],ic,.i (.a [(.q .g (.v 5)<|.i 0),(.q .g (.v 4)<|.i 0)]) [.a (.t (.v 1)<|.i 3)<|.p [(.s [114,101,115,111,108,118,101]),(.i 0)]] []]
section
variable{A:pj}{H H' H1 H2 H3:Hp}{G:bZ}{d ta B:Nat}{tk:List Nm}{L:List IL}{es:List Ev}{k:Nat}{l:Lo}{ss:List MS}{Q:Fl->Hp->Prop}{F:Hp->Prop}
def GX.refl (A)(ta)(H):GX A ta H H:=(GK.refl A H).gx ta
def TK.kx (t:TK A H ta tk)(k:GK A H H'):TK A H' ta tk:=t.keep k
def ly (h:x∈pQ):x∈cK/\x.length<=30/\x≠[]:=by
 have:∀y∈pQ,y∈cK/\y.length<=30/\y≠[]:=by decide
 exact this x h
def U1 (b:Fr A F)(a:G.c<B)(c:Nat.ble (k+B) 780=true)(h:gv l 0=xR A.p)(h1:gv l 1=xR A.s)
  (e:∀K,ug (iE K)->AP K<=2->Tr (ae<|d+10) l (SG A (G.out (L++iE K) (es++nv K (G.m.length+nI L))<|k+60) F) ss Q):Tr (ae<|d+10) l (SG A (G.out L es k) F) (.x (.c 56 [.v 0,.v 1,.i 0])::ss) Q:=by
 refine ed (λH p=>⟨p.g.cast AK.symm,p.f⟩)<|rI (vs:=[.r A.p,.r A.s,.i ((0:Nat):Int)]) (λH=>Uc λj=>j _ h _ h1) (Wz 2 (dp:=0) (G:=G.out L es k) rfl (by have:=Yb c;exact ba 0x352705a26b28d7840c64f0c7082c0cb620067b tq a this) b (nl rfl)) λK H p=>bU p λo f p=>?_;rw[dX,fh]at p;exact e K o f H ⟨p.g.cast<|rfl,p.f⟩
def M6 (A:pj)(ta:Nat)(f:V)(q:Nat)(S:Option V->Option V->Option V->Option V->Hp->Prop)(e:Lo)(H:Hp):Prop:=∃p a b c,e=[xR A.p,xR A.s,some f,xR ta,xI q,p,a,b,c]/\S p a b c H
def MO (h:k=k'):G.out (bX Yr++[.n x]++[g1,sg 61,g1]++dw v++[sg 59,g1]) (kD v (G.m.length+nI (bX Yr++[.n x]++[g1,sg 61,g1]))++[.d (G.m.length+nI (bX Yr)) tE]) k=G.out (r8<|some<|some (x,v)) (ui (some<|some (x,v)) G.m.length) k':=by subst h;have z:nI (bX Yr++[.n x]++[g1,sg 61,g1])=1:=rfl;have a:nI (bX Yr)=0:=rfl;simp only[z,a];simp[mU,ui]
def Om {e:V}{o m q r:Option V}(h:G.c<700)(a:Fx A ta F):Tr (ae<|d+10) [xR A.p,xR A.s,some e,xR ta,xI (0:Nat),o,m,q,r] (SG A (G.out [] [] 0)<|TP A ta tk F) TX
  (Nx (M6 A ta e 0 λ_ _ _ _ H=>∃c,ug (r8 c)/\SG A (G.out (r8 c) (ui c G.m.length) 80) (TP A ta (tk++Ly c) F) H)):=by
 refine MG (n:=2) (be a) rfl rfl rfl (λ_=>rfl) λw b=>?_;have b:w=0\/w=1:=UI b;rcases b with rfl|rfl
 ·exact aN (λ_ _=>rfl)<|rN (λ_ _=>rfl)<|aN (λ_ _=>rfl)<|yZ (k':=80) h (nl rfl) rfl (ay λH p=>⟨_,rfl,_,_,_,_,rfl,none,a6 rfl,p.g,by simpa [Ly]using p.f.t,p.f.f⟩)
 ·refine bG (λ_ _=>rfl)<|DJ (q:=0) (bX Yr) (be a) h rfl rfl rfl rfl rfl rfl rfl (wV (λ_ _=>rfl) Af<|Ph a rfl rfl (λx g _=>?_) λ_=>?_)
  ·exact bU (ly g) λn1 n i=>bG (λH _=>hG λj=>j _<|Jk rfl i)<|SJ (be a) h rfl n rfl rfl (aN (λ_ _=>rfl)<|DJ (q:=0) [g1,sg 61,g1] (be a) h rfl rfl rfl rfl rfl rfl rfl (bG (λ_ _=>rfl)<|Q7 (be a) h rfl rfl rfl λv f=>Em (.d _ tE) (be a) h rfl rfl rfl (λ_ _=>rfl) (aN (λ_ _=>rfl)<|pJ [sg 59,g1] (be a) h rfl rfl rfl rfl rfl (aN (λ_ _=>rfl)<|yZ (k':=80) h (nl rfl) rfl (ay λH p=>⟨_,rfl,_,_,_,_,rfl,some<|some (x,v),aJ (a6 rfl)<|aJ (aJ (cY rfl n1) f)<|a6 rfl,p.g.cast<|MO rfl,p.f.t,p.f.f⟩)))))
  ·exact aN (λ_ _=>rfl)<|aN (λ_ _=>rfl)<|yZ (k':=80) h (nl rfl) rfl (ay λH p=>⟨_,rfl,_,_,_,_,rfl,some none,a6 rfl,p.g,by simpa [Ly]using p.f.t,p.f.f⟩)
def MR (h:k=k'):G.out (bX YH++[.n x]++[sg 42,g1,sg 61,g1]++iE K++[sg 59,g1]) ([.d (G.m.length+nI (bX YH)) vi]++nv K (G.m.length+nI (bX YH++[.n x]++[sg 42,g1,sg 61,g1]))++[.r]) k=G.out (wx<|some<|some (x,K)) (AE (some<|some (x,K)) G.m.length) k':=by subst h;have z:nI (bX YH++[.n x]++[sg 42,g1,sg 61,g1])=1:=rfl;have a:nI (bX YH)=0:=rfl;refine aa z<|aa a ?_;simp[zy,AV,ng,m8,nu,kd]
def Ok {e:V}{m q r s:Option V}(h:G.c<700)(a:Fx A ta F):Tr (ae<|d+10) [xR A.p,xR A.s,some e,xR ta,xI (1:Nat),m,q,r,s] (SG A (G.out [] [] 0)<|TP A ta tk F) TX
  (Nx (M6 A ta e 1 λ_ _ _ _ H=>∃c,ug (wx c)/\yX c<=2/\SG A (G.out (wx c) (AE c G.m.length) 80) (TP A ta (tk++Bi c) F) H)):=by
 refine MG (n:=2) (be a) rfl rfl rfl (λ_=>rfl) λw b=>?_;have b:w=0\/w=1:=UI b;rcases b with rfl|rfl
 ·exact aN (λ_ _=>rfl)<|rN (λ_ _=>rfl)<|aN (λ_ _=>rfl)<|yZ (k':=80) h (nl rfl) rfl (ay λH p=>⟨_,rfl,_,_,_,_,rfl,none,a6 rfl,X4 _,p.g,by simpa [Bi]using p.f.t,p.f.f⟩)
 ·refine bG (λ_ _=>rfl)<|DJ (q:=1) (bX YH) (be a) h rfl rfl rfl rfl rfl rfl rfl (wV (λ_ _=>rfl) Af<|Ph a rfl rfl (λx f _=>?_) λ_=>?_)
  ·exact bU (ly f) λn1 n g=>bG (λH _=>hG λj=>j _<|Jk rfl g)<|SJ (be a) h rfl n rfl rfl (bG (λ_ _=>rfl)<|Em (.d _ vi) (be a) h rfl rfl rfl (λ_ _=>rfl) (DJ (q:=1) [sg 42,g1,sg 61,g1] (be a) h rfl rfl rfl rfl rfl rfl rfl (aN (λ_ _=>rfl)<|U1 (be a) h rfl rfl rfl λK o i=>aN (λ_ _=>rfl)<|pJ [sg 59,g1] (be a) h rfl rfl rfl rfl rfl (bG (λ_ _=>rfl)<|Em .r (be a) h rfl rfl rfl (λ_ _=>rfl) (yZ (k':=80) h (nl rfl) rfl (ay λH p=>⟨_,rfl,_,_,_,_,rfl,some<|some (x,K),aJ (a6 rfl)<|aJ (aJ (cY rfl n1) o)<|a6 rfl,i,p.g.cast<|MR rfl,p.f.t,p.f.f⟩))))))
  ·exact aN (λ_ _=>rfl)<|bG (λ_ _=>rfl)<|Em .r (be a) h rfl rfl rfl (λ_ _=>rfl) (yZ (k':=80) h (nl rfl) rfl (ay λH p=>⟨_,rfl,_,_,_,_,rfl,some none,a6 rfl,X4 _,p.g,by simpa [Bi]using p.f.t,p.f.f⟩))
def LW (h:k=k'):G.out (bX YT++[.n x]++[sg 58,g1]++iE K++[sg 59,g1]) (nv K (G.m.length+nI (bX YT++[.n x]++[sg 58,g1]))++[.d (G.m.length+nI (bX YT)) zM]++[.r]) k=G.out (zx<|some<|some (x,K)) (BC (some<|some (x,K)) G.m.length) k':=by subst h;have z:nI (bX YT++[.n x]++[sg 58,g1])=1:=rfl;have a:nI (bX YT)=0:=rfl;refine aa z<|aa a ?_;simp[zg,za,nj,mW,nq,lH]
def LR {e:V}{m q r s:Option V}(h:G.c<700)(a:Fx A ta F):Tr (ae<|d+10) [xR A.p,xR A.s,some e,xR ta,xI (2:Nat),m,q,r,s] (SG A (G.out [] [] 0)<|TP A ta tk F) TX
  (Nx (M6 A ta e 2 λ_ _ _ _ H=>∃c,ug (zx c)/\yX c<=2/\SG A (G.out (zx c) (BC c G.m.length) 80) (TP A ta (tk++Bi c) F) H)):=by
 refine MG (n:=2) (be a) rfl rfl rfl (λ_=>rfl) λw b=>?_;have b:w=0\/w=1:=UI b;rcases b with rfl|rfl
 ·exact aN (λ_ _=>rfl)<|rN (λ_ _=>rfl)<|aN (λ_ _=>rfl)<|yZ (k':=80) h (nl rfl) rfl (ay λH p=>⟨_,rfl,_,_,_,_,rfl,none,a6 rfl,X4 _,p.g,by simpa [Bi]using p.f.t,p.f.f⟩)
 ·refine bG (λ_ _=>rfl)<|DJ (q:=2) (bX YT) (be a) h rfl rfl rfl rfl rfl rfl rfl (wV (λ_ _=>rfl) Af<|Ph a rfl rfl (λx f _=>?_) λ_=>?_)
  ·exact bU (ly f) λn1 n g=>bG (λH _=>hG λj=>j _<|Jk rfl g)<|SJ (be a) h rfl n rfl rfl (aN (λ_ _=>rfl)<|DJ (q:=2) [sg 58,g1] (be a) h rfl rfl rfl rfl rfl rfl rfl (aN (λ_ _=>rfl)<|U1 (be a) h rfl rfl rfl λK o i=>bG (λ_ _=>rfl)<|Em (.d _ zM) (be a) h rfl rfl rfl (λ_ _=>rfl) (pJ [sg 59,g1] (be a) h rfl rfl rfl rfl rfl (bG (λ_ _=>rfl)<|Em .r (be a) h rfl rfl rfl (λ_ _=>rfl) (yZ (k':=80) h (nl rfl) rfl (ay λH p=>⟨_,rfl,_,_,_,_,rfl,some<|some (x,K),aJ (a6 rfl)<|aJ (aJ (cY rfl n1) o)<|a6 rfl,i,p.g.cast<|LW rfl,p.f.t,p.f.f⟩))))))
  ·exact aN (λ_ _=>rfl)<|bG (λ_ _=>rfl)<|Em .r (be a) h rfl rfl rfl (λ_ _=>rfl) (yZ (k':=80) h (nl rfl) rfl (ay λH p=>⟨_,rfl,_,_,_,_,rfl,some none,a6 rfl,X4 _,p.g,by simpa [Bi]using p.f.t,p.f.f⟩))
end
section
variable{A:pj}{H H' H1 H2 H3:Hp}{G:bZ}{d ta:Nat}{tk:List Nm}{L M:List IL}{es:List Ev}{k B:Nat}{l:Lo}{ss:List MS}{Q:Fl->Hp->Prop}{F:Hp->Prop}
structure M9(D:Dc):Prop where
 nm:ug (aQ D)
 t:yX D.t<=2
 v:yX D.v<=2
abbrev UA (A:pj)(ta:Nat)(F:Hp->Prop)(G:bZ)(tk:List Nm)(a:V)(b:Lo)(H:Hp):Prop:=
 ∃D p c e f g,b=[xR A.p,xR A.s,some a,xR ta,p,c,e,f,g]/\M9 D/\SG A (G.out (aQ D) (cM D G.m.length) 240) (TP A ta (tk++ze D) F) H
def PP {j:V}(b:G.c<500)(h:Fx A ta F):
  Tn (ae<|d+10) [xR A.p,xR A.s,some j,xR ta,none,none,none,none,none] (SG A G<|TP A ta tk F) cW (UA A ta F G tk j):=by
 refine Nf (m:=3) (λ_ _=>rfl) rfl (ml (ed (λH p=>⟨p.g.cast AK.symm,p.f⟩)<|Om (yw b rfl) h) λI=>λH p=>cps λC a=>?_);obtain⟨s,u,w,x,rfl,c,o,p⟩:=p;refine a<|ml (P:=SG A (G.out (r8 c) (ui c G.m.length) 80)<|TP A ta (tk++Ly c) F) (ed (λH p=>⟨p.g.cast AK.symm,p.f⟩)<|Ok (up b rfl) h) (λJ=>λH p=>cps λC a=>?_) H p;obtain⟨y,z,D,E,rfl,t,m,n,p⟩:=p;rw[dX]at p;refine a<|ml (P:=SG A (G.out (r8 c++wx t) _ 160)<|TP A ta _ F) (ed (λH p=>⟨p.g.cast AK.symm,p.f⟩)<|LR (up b rfl) h) (λN=>wT λH p=>cps λC a=>?_) H p;obtain⟨e,f,g,i,rfl,v,q,r,p⟩:=p;refine a<|⟨⟨c,t,v⟩,_,_,_,_,_,rfl,⟨aJ (aJ o m) q,n,r⟩,p.g.cast ?_,by rw[show ze ⟨c,t,v⟩=Ly c++Bi t++Bi v from rfl,<- X1,<- X1];exact p.f⟩;rw[dX];simp[aQ,cM,fh,XR]
def Xj {e:ME}{v:V}{j:Nat}(f:Fx A ta F)(t:G.b<=0)(b:G.c<B)(m:Nat.ble (k+B) 500=true)(h:gv l 0=xR A.p)(h1:gv l 1=xR A.s)(i:gv l j=xR ta)(g:∀H,ai (ae<|d+11) l e H=some (v,H))
  (r:∀D,M9 D->Tr (ae<|d+11) l (SG A (G.out (L++aQ D) (es++cM D (G.m.length+nI L))<|k+240)<|TP A ta (tk++ze D) F) ss Q):Tr (ae<|d+11) l (SG A (G.out L es k)<|TP A ta tk F) (.x (.c 57 [.v 0,.v 1,e,.v j])::ss) Q:=λH p=>by
 refine cps λC a=>?_;have c:CT (ae<|d+10+1) 57 [.r A.p,.r A.s,v,.r ta] (SG A (G.out L es k)<|TP A ta tk F) (λv H=>v=.n/\∃D,M9 D/\SG A (G.out (L++aQ D) (es++cM D (G.m.length+nI L))<|k+240) (TP A ta (tk++ze D) F) H):=by refine dZ rfl rfl (l:=[xR A.p,xR A.s,some v,xR ta,none,none,none,none,none]) rfl (show gL.body=[cW,b5]from rfl) (qZ (PP (by have:=Yb m;exact ba 0xfa382064df47082c0cb620067b tq b this) f) λE X p=>cps λC a=>?_);obtain⟨D,I,J,N,O,P,rfl,o,p⟩:=p;rw[dX,fh]at p;have p:=p;refine a<|rN (P:=λY=>Y=X) (λY e=>cps λC a=>bW p.g.items λu w x y n=>a<|aa e ?_) (ay λY e=>⟨rfl,D,o,e▸p⟩) X rfl;exact hG λq=>q _ n _<|fw rfl (YI.mpr ‹_›:¬(0:Int)<(G.out (L++aQ D) (es++cM D (G.m.length+nI L))<|k+240).b)
 obtain⟨_,H',e,rfl,D,o,s⟩:=c H p;exact a<|aV (P:=λX=>X=H) (λX z=>⟨H',by refine aa z ?_;simp[h,h1,i,g,e],s⟩) (r D o) H rfl
structure O6(p:Pr):Prop where
 nm:ug (vp p)
 d:M9 p.d
 j:(Oc p.p++ze p.d).Nodup
def J0 (e:List Nat):∀(es:List Ev) (k:Nat) (H:Hp) (g:Option V) (W:List V),GR A H (G.out L es k)->G.c+k+e.length<850->(jL≠A.w/\jL≠A.p/\jL≠A.e/\jL≠A.m/\jL≠A.v/\jL≠A.s)->H[jL]?=some (.l W)->
  ∃H' o,aM (λv l' H'=>XU cl a4 (l'.set 8<|some v) H' [.a (.t (.v 1)<|.i 3)<|.p [(.s [112,97,114]),(.v 8)]]) (aZ jL W) (e.map λ(i:Nat)=>V.i i) [l0,xR A.s,l2,l3,l4,l5,xR jL,l7,g] H=
   some (.n [l0,xR A.s,l2,l3,l4,l5,xR jL,l7,o],H')/\GR A H' (G.out L (es++e.map λi=>Ev.d i wh)<|k+e.length)/\GK A H H':=by
 induction e with
 |nil=>intro es k H g W r m h f;exact⟨H,g,bu<|cS f,by simpa using r,GK.refl A H⟩
 |cons j e n=>intro es k H g W r m h f;exact cps λC u=>bW r.items λw x y s z=>mY (K4 (.d j wh) r<|ba 0x1a9382064f52705a26040c6067b tq m) λv H1 a b c=>am (n (es++[.d j wh]) (k+1) H1 (xI (j:Int)) W b (ba 0x3527082d0b00c64f52705a26040c6067b tq m) h ((c.lo _ h.1 h.2.1 h.2.2.1 h.2.2.2.1 h.2.2.2.2.1 h.2.2.2.2.2<|xg f).trans f:H1[jL]?=some (.l W))) λH' o n p q=>u<|⟨H',o,(aa af<|aa (aS (cS f) (l':=[l0,xR A.s,l2,l3,l4,l5,xR jL,l7,xI (j:Int)]) (H':=H1)<|by exact uh λt=>t _ s v _ a) n),p.cast<|by simp[XR,Zr 1],c.trans q⟩
end
section
variable{A:pj}{H H' H0 H1:Hp}{G:bZ}{L M:List IL}{es:List Ev}
noncomputable def Qa:MS:=.i (.q .e (.c 50 [(.v 0),(.i 2)])<|.i 1) [.x<|.c 51 [(.v 1),(.s [40,86,65,82,32])],.s 7<|.c 54 [(.v 0),(.v 5)],.a (.v 6)<|.c 52 [(.v 1),(.v 7)],.x<|.c 51 [(.v 1),(.s [44,32])],.a (.v 6)<|.c 52 [(.v 1),(.c 54 [(.v 0),(.v 5)])],.x<|.c 51 [(.v 1),(.s [58,32,65,82,82,65,89,32,79,70,32])],.x<|.c 53 [(.v 0),(.v 1)],.x<|.c 51 [(.v 1),(.s [41])]] []
theorem Jr:ku.body=[.x<|.c 51 [(.v 1),(.s [32,80,82,79,67,69,68,85,82,69,32])],
 .a (.t (.v 1)<|.i 3) (.p [(.s [112,114,111,99]),(.c 52 [(.v 1),(.v 3)])]),
 .a (.t (.v 1)<|.i 3) (.p [(.s [111,112,101,110]),(.i 0)]),
 .s 4 (.o .s (.n<|.t (.v 1)<|.i 3)<|.i 2),
 .s 5 (.l []),
 .s 6 (.l []),
 Qa,
 bp,
 .x (.c 51 [(.v 1),(.s [59])]),
 .x (.c 57 [(.v 0),(.v 1),(.o .a (.v 2)<|.i 1),(.v 5)]),
 .x (.c 51 [(.v 1),(.s [32,66,69,71,73,78,32,73,70,32])]),
 .x (.c 55 [(.v 0),(.v 1)]),
 .x (.c 51 [(.v 1),(.s [32,84,72,69,78,32])]),
 .x (.c 53 [(.v 0),(.v 1)]),
 .x (.c 51 [(.v 1),(.s [32,58,61,32,49,32,69,78,68,32,82,69,84,85,82,78,32])]),
 .x (.c 55 [(.v 0),(.v 1)]),
 .x (.c 51 [(.v 1),(.s [32,69,78,68,32])]),
 .s 8 (.c 52 [(.v 1),(.v 3)]),
 .a (.t (.v 1)<|.i 3) (.p [(.s [101,110,100]),(.p [(.v 8),(.t (.t (.t (.v 1)<|.i 3)<|.v 4)<|.i 1)])]),
 .a (.t (.v 1)<|.i 3) (.p [(.s [99,108,111,115,101]),(.i 0)]),
 .x (.c 51 [(.v 1),(.s [59])])]:=rfl
structure BA(A:pj)(H0:Hp)(ta a:Nat):Prop where
 n:R0 A a
 e:a≠ta
 h:H0.length<=ta
 b:H0.length<=a
def BP (A:pj)(H0:Hp)(t:Nat)(b:List Nm)(a:Nat)(W:List V):Hp->Prop:=TP A t b<|LP a W<|GK A H0
def CC (b:BA A H0 t a):Fx A t<|LP a W<|GK A H0:=PZ b.n b.e<|Pk b.h
def dF (b:BA A H0 t a):Fr A<|BP A H0 t c a W:=be<|CC b
def HT (b:BA A H0 t a)(c)(p:SG A d (BP A H0 t l a W) H):SG A d (BP A H0 t l a c)<|H.set a<|.l c:=
 ⟨p.g.adp _ b.n,⟨(YJ b.e).trans p.f.t.g,p.f.t.ne,p.f.t.a,p.f.t.j⟩,dP p.f.f.g,
  by refine aa Ze ?_;exact p.f.f.f.ln,λi h1 e f g j k h=>(YJ<|X0<|Yd<|XO h b.b).trans<|p.f.f.f.lo i h1 e f g j k h⟩
def rF (r:GR A H G)(x):R0 A<|H.length+x:=by have g:∀{a},a<A.s->H.length+x≠a:=λh=>XB<|XO (YC h<|xg r.d)<|Xz _ _;have d:=r.j;have c:=YC r.n d;have b:=YC r.s c;exact⟨g<|YC r.v<|YC r.u b,g<|YC r.u b,g b,g c,g d,XB<|XO (xg r.d)<|Xz _ _⟩
def Tc (k:∀t a,BA A H0 t a->Tr (ae d) ((l.set i<|xR t).set j<|xR a) (SG A G<|BP A H0 t [] a []) s Q):
  Tr (ae d) l (SG A G<|GK A H0) (.s i (.l [])::.s j (.l [])::s) Q:=λH p=>by
 have e:(H++[AO.l []]).length=H.length+1:=Xx;have q:=k H.length (H++[AO.l []]).length ⟨by refine aa e ?_;exact(rF p.g 1),aK 0x4190b42c0079b tq e,p.f.ln,by have:=p.f.ln;exact ba 0x8241689810f3620065b tq this e⟩ (H++[AO.l []]++[AO.l []])
  ⟨(p.g.app _).app _,⟨fi<|bg _ _,(rF p.g 0),λx h=>by(cases h),nodup_nil⟩,by simp,(p.f.trans<|GK.app A H _).trans<|GK.app A _ _⟩
 exact q
def Tx (b:BA A H0 t a)(e:Nat.ble W.length 9=true)(h:G.c<B)(m:Nat.ble (k+B) 850=true)(o:s.length<=30)(h1:gv l 1=xR A.s)(f:gv l i=xR a)(g:gv l j=xS s)
  (r:Tr (ae<|d+2) l (SG A (G.out (L++[.n s]) es<|k+2)<|BP A H0 t c a<|W++[.i (G.m.length+nI L:Nat)]) x Q):Tr (ae<|d+2) l (SG A (G.out L es k)<|BP A H0 t c a W) (.a (.v i) (.c 52 [.v 1,.v j])::x) Q:=
 aV (λH p=>by refine OO (d:=d+2) p.g o (Ef h m) (nl rfl) λH1 u v w=>?_;have p1:SG A _ (BP A H0 t c a W) H1:=⟨v,dF b _ _ w p.f⟩;generalize G.m.length+nI L=n at u;exact⟨_,qE λq=>q _ f (kB p.f.f.g:mB H a=true) _ h1 _ g _ _ u _<|(λv=>by simp only[bF,p1.f.f.g,bh];exact Xr (by have:=Yb e;exact bC 0x1e848110492d0065b tq this):∀v,bF H1 a v=some (H1.set a<|.l<|W++[v])) _,HT b _ p1⟩) r
def T8 (b:BA A H0 t a)(y:Nat.ble W.length 9=true)(s:G.c<B)(F:Nat.ble (k+B) 850=true)(r:gv l 0=xR A.p)(h1:gv l 1=xR A.s)(D:gv l i=xR a)(E:gv l j=xR t)(h:¬∀c∈pQ,c∈f)
  (N:∀x,x∈pQ->x∉f->Tr (ae<|d+2) l (SG A (G.out (L++[.n x]) es<|k+2)<|BP A H0 t (f++[x]) a<|W++[.i (G.m.length+nI L:Nat)]) R Q):Tr (ae<|d+2) l (SG A (G.out L es k)<|BP A H0 t f a W) (.a (.v i) (.c 52 [.v 1,.c 54 [.v 0,.v j]])::R) Q:=λH p=>by
 refine cps λC m=>T6 (d:=d+2) p.g p.f.t (nl rfl) λx H2 S T U z=>m ?_;rcases z with⟨o,Y,z3⟩|⟨_,_,g⟩
 ·have p2:SG A _ (BP A H0 t (f++[x]) a W) H2:=⟨T,z3,CC b _ _ U p.f.f⟩
  refine cps λC m=>bU (ly o) λm1 P m3=>OO (d:=d+2) p2.g P (Ef s F) (nl rfl) λH1 u v w=>?_;have p1:SG A _ (BP A H0 t (f++[x]) a W) H1:=⟨v,dF b _ _ w p2.f⟩;have I:mB H a=true:=kB p.f.f.g;have q:∀v,bF H1 a v=some (H1.set a<|.l<|W++[v]):=λv=>by simp only[bF,p1.f.f.g,bh];exact Xr (by have:=Yb y;exact bC 0x1e848110492d0065b tq this)
  have O:=N x o Y;refine m<|aV (P:=λX=>X=H) (λX e=>⟨_,?_,HT b _ p1⟩) O H rfl;generalize G.m.length+nI L=n at u;rw[e];exact qE λJ=>J _ D I _ h1 _ r _ E _ _ S _ _ u _<|q _
 ·exact Xw g h
def Q2 (b:Fr A F)(h:gv l 0=xR A.p)(i:Tr (ae<|d+1) l (SG A G F) t<|Nx S)(k:Tr (ae<|d+1) l (SG A G F) f<|Nx S):Tn (ae<|d+1) l (SG A G F) (.i (.q .e (.c 50 [.v 0,.i 2])<|.i 1) t f) S:=
 Mf (R:=λ_=>SG A G F) (λH p=>by
  refine cps λC m=>O1 (d:=d+1) (w:=2) p.g (by decide) (by decide) (nl rfl) λw a q n o c e=>?_;have g:w=0\/w=1:=by lia
  refine m ?_;rcases g with rfl|rfl
  ·exact⟨false,a,II λj=>j _ h _ _ q _ rfl,c,b _ _ e p.f⟩
  ·exact⟨true,a,II λj=>j _ h _ _ q _ rfl,c,b _ _ e p.f⟩) i k
def Tl (h1:gv l 1=xR A.s)(b:es.length=2)(f:Tr (ae d) (l.set i<|xI (G.a.length:Int)) (SG A (G.out L es k) F) s Q):Tr (ae d) l (SG A (G.out L es k) F) (.s i (.o .s (.n<|.t (.v 1)<|.i 3)<|.i 2)::s) Q:=
 aV (λH p=>by
  refine cps λC c=>bW p.g.items λg m n a o=>?_;have h:eu H (.r A.v)=some ((G.a.length:Int)+2):=by have:=bA p.g.g (by have:=p.g.bv;have:=p.g.m;simp only[XM];exact tU ‹_› ‹_›);simpa [bZ.out,b]using this
  have e:(G.a.length:Int)+2-2=(G.a.length:Int):=abk ..;exact c<|⟨H,X6 (qE λj=>j _ h1 _ a _ h _ rfl)<|by simp[h1,a,h,e],p⟩) f
def TN {j:List Nat}(b:BA A H0 t a)(q:G.c<B)(r:Nat.ble (k+2+B) 850=true)(h:j.length<=2)
  (s:∀o,Tr (ae d) [l0,xR A.s,l2,l3,l4,l5,xR a,l7,o] (SG A (G.out L (es++j.map λi=>Ev.d i wh)<|k+2)<|BP A H0 t v a<|j.map λ(i:Nat)=>V.i i) u Q):
  Tr (ae d) [l0,xR A.s,l2,l3,l4,l5,xR a,l7,f] (SG A (G.out L es k)<|BP A H0 t v a<|j.map λ(i:Nat)=>V.i i) (bp::u) Q:=λH p=>by
 have n:=Ef q r;refine am (J0 (cl:=ae d) (A:=A) (G:=G) (jL:=a) (l0:=l0) (l2:=l2) (l3:=l3) (l4:=l4) (l5:=l5) (l7:=l7) j _ _ H f _ p.g (ba 0x6a4e1040c64c4d1065bd49c2685806067b tq n h) b.n p.f.f.g) λc o R g m=>?_;have l:bw (ae d) a4 [l0,xR A.s,l2,l3,l4,l5,xR a,l7,f] H bp=some (.n [l0,xR A.s,l2,l3,l4,l5,xR a,l7,o],c):=by unfold bp;exact aa (e5 (a:=a) (vs:=j.map λ(i:Nat)=>V.i i) (rfl) p.f.f.g<|by rw[XM];exact bC 0x1e848110484d0065b tq h) R
 exact aV (P:=λX=>X=H) (λX e=>⟨c,by refine aa e ?_;exact l,g.up (k:=G.c+(k+2)) (by simp only[bZ.out];exact ba 0x4d0b00c105806484d1065b tq h)<|XJ (YR ‹_›)<|nl rfl,dF b _ _ m p.f⟩) (s o) H rfl
noncomputable def Ds(p:Option<|Nm×Nm×Nm)(i:Nat):List Ev:=match p with |none=>[]|some _=>[.u i]
def TM (A:pj)(H0:Hp)(G:bZ)(t a:Nat)(L:List IL)(es:List Ev)(n k:Nat)(l:Option V->Lo)(b:Lo)(H:Hp):Prop:=
 ∃(p:Option<|Nm×Nm×Nm) (j:List Nat) (o:Option V),b=l o/\(rn p n=Ds p (n+2)++j.map (λi=>Ev.d i wh)/\j.length<=2)/\ug (cu p)/\
  SG A (G.out (L++cu p) (es++Ds p (n+2)) k) (BP A H0 t (Oc p) a<|j.map λ(i:Nat)=>V.i i) H
def Nj {l g i:Option V}(b:BA A H0 t a)(c:G.c<450){n:Nat}(f:G.m.length+nI L=n)(q:k=5):
  Tn (ae<|d+4) [xR A.p,xR A.s,l,g,i,xR t,xR a,none,none] (SG A (G.out L es k)<|BP A H0 t [] a []) Qa
   (TM A H0 G t a L es n 25 λC=>[xR A.p,xR A.s,l,g,i,xR t,xR a,C,none]):=by
 subst q;refine Q2 (dF b) rfl ?_ ?_
 ·refine pJ [sg 40,wW YT,g1] (dF b) c rfl rfl rfl rfl rfl (Ph (CC b) rfl rfl (λx s _=>bU (ly s) λw z D=>Tx b rfl c rfl z rfl rfl rfl (pJ [sg 44,g1] (dF b) c rfl rfl rfl rfl rfl (T8 b rfl c rfl rfl rfl rfl rfl (λh=>?_) λy v _=>?_))) λh=>nomatch h [97]<|.head _)
  ·have h1:=h [97]<|.head _
   have e:=h [98]<|.tail _<|.head _;simp at h1 e;have h1:=h1;have e:=e;rw[<- h1]at e;cases e
  refine bU (ly v) λB E F=>pJ [sg 58,g1,wW dc,g1,wW xf,g1] (dF b) c rfl rfl rfl rfl rfl (Lz (dF b) c rfl rfl rfl λu r=>pJ [sg 41] (dF b) c rfl rfl rfl rfl rfl (yZ (k':=25) c (nl rfl) rfl (ay λH p=>⟨_,rfl,some (x,y,u),[n,n+1],_,rfl,⟨rfl,XC _⟩,?_,?_⟩)))
  ·exact xk (l:=[x,y,u]) rfl (Zq.2 ⟨w,Zq.2 ⟨B,Zq.2 ⟨r,λ_ h=>Xw h XY⟩⟩⟩)
  ·have j:G.m.length+nI (L++[sg 40,wW YT,g1])=n:=by rw[ah];exact f
   have m:G.m.length+nI (L++[sg 40,wW YT,g1]++[.n x]++[sg 44,g1])=n+1:=by simp only[ah];exact Xs (·+1) f
   have o:G.m.length+nI (L++[sg 40,wW YT,g1]++[.n x]++[sg 44,g1]++[.n y]++[sg 58,g1,wW dc,g1,wW xf,g1])=n+2:=by simp only[ah];exact Xs (·+2) f
   rw[j,m,o]at p;exact⟨p.g.cast<|by simp[cu,Ds],p.f⟩
 ·exact yZ (k':=25) c (by decide) rfl (ay λH p=>⟨_,rfl,none,[],_,rfl,⟨rfl,X4 _⟩,a6 rfl,p.g.cast<|by simp[cu,Ds],p.f⟩)
def LJ (f:∃e,es=.d i a9::e)(h1:gv l 1=xR A.s)(b:gv l 4=xI (G.a.length:Int))(c:gv l 8=xI P)(H)(r:GR A H<|G.out L es k):
  ai m l (.p [.v 8,.t (.t (.t (.v 1)<|.i 3)<|.v 4)<|.i 1]) H=some (.t [.i P,.i i],H):=by
 refine Xq f λe a=>?_;subst a;refine cps λC g=>bW r.items λn o p y q=>?_;have h:getItem H (.r A.v) (.i (G.a.length:Int))=some (.t [.s a9,.i i]):=by refine getL r.g (by have:=r.bv;have:=r.m;simp only[XM];exact wQ ‹_› ‹_›) ?_;simp only[bZ.out,Zj,Zy<|show(List.map kW G.a).length<=G.a.length by simp,XM,sub_self];rfl
 have d:getItem H (.t [.s a9,.i i]) (.i 1)=xI i:=rfl;exact g<|II λj=>j _ c _ h1 _ y _ b _ h _ d
def Vi (A:pj)(H0:Hp)(G:bZ)(n:Nm)(v:V)(H':Hp):Prop:=v=.n/\∃p:Pr,p.nm=n/\O6 p/\GR A H' (G.out (vp p) (jv p G.m.length) 300)/\GK A H0 H'
def Qv (hL:a=[g1,wW eg,g1,.n n])(h:E=[.d G.m.length a9,.o]):
  G.out (a++cu p++[sg 59]++aQ D++r9++dw v++[g1,wW kK,g1]++[.n x]++[g1,.f ak [58,61],g1,Mine.n1,g1,wW bT,g1,wW fg,g1]++dw b++[g1,wW bT,g1]++[.n n]++[sg 59])
   (E++rn p (G.m.length+1)++cM D (G.m.length+nI (a++cu p++[sg 59]))++kD v (G.m.length+nI (a++cu p++[sg 59]++aQ D++r9))
    ++[.u<|G.m.length+nI (a++cu p++[sg 59]++aQ D++r9++dw v++[g1,wW kK,g1])]++kD b (G.m.length+nI (a++cu p++[sg 59]++aQ D++r9++dw v++[g1,wW kK,g1]++[.n x]++[g1,.f ak [58,61],g1,Mine.n1,g1,wW bT,g1,wW fg,g1]))
    ++[.f (G.m.length+nI (a++cu p++[sg 59]++aQ D++r9++dw v++[g1,wW kK,g1]++[.n x]++[g1,.f ak [58,61],g1,Mine.n1,g1,wW bT,g1,wW fg,g1]++dw b++[g1,wW bT,g1])) G.m.length]++[.c]) 300
   =G.out (vp ⟨n,p,D,v,x,b⟩) (jv ⟨n,p,D,v,x,b⟩ G.m.length) 300:=by
 subst hL;subst h;generalize G.m.length=m;have z:nI [g1,wW eg,g1,.n n]=1:=rfl;have c:nI [sg 59]=0:=rfl;have d:nI r9=0:=rfl;have e:nI [g1,wW kK,g1]=0:=rfl;have f:nI [IL.n x]=1:=rfl;have g:nI [g1,.f ak [58,61],g1,Mine.n1,g1,wW bT,g1,wW fg,g1]=0:=rfl;have i:nI [g1,wW bT,g1]=0:=rfl;congr 1
 ·simp only[vp,I9,X1];rfl
 ·simp only[ah,z,c,d,e,f,g,i,jv,qH,nB,YZ,<- XR,X1];rfl
def Kf {k:Int}{n:Nm}{c:Option<|Nm×Nm×Nm}{j:List Nat}{u:Option V}(b:BA A H0 t a)(h:G.c<450)(m:G.b<=0)(n1:n∈cK)(r:n.length<=30)
  (h1:rn c (G.m.length+1)=Ds c (G.m.length+1+2)++j.map (λi=>Ev.d i wh)) (o:j.length<=2) (s:ug<|cu c) {E:List Ev} (l:E=[.d G.m.length a9,.o]) {g:List IL} (hL:g=[g1,wW eg,g1,.n n]):
  Tr (ae<|d+13) [xR A.p,xR A.s,xI k,xS n,xI (G.a.length:Int),xR t,xR a,u,none] (SG A (G.out (g++cu c) (E++Ds c (G.m.length+1+2)) 25)<|BP A H0 t (Oc c) a<|j.map λ(i:Nat)=>V.i i)
   [bp,
 .x (.c 51 [(.v 1),(.s [59])]),
 .x (.c 57 [(.v 0),(.v 1),(.o .a (.v 2)<|.i 1),(.v 5)]),
 .x (.c 51 [(.v 1),(.s [32,66,69,71,73,78,32,73,70,32])]),
 .x (.c 55 [(.v 0),(.v 1)]),
 .x (.c 51 [(.v 1),(.s [32,84,72,69,78,32])]),
 .x (.c 53 [(.v 0),(.v 1)]),
 .x (.c 51 [(.v 1),(.s [32,58,61,32,49,32,69,78,68,32,82,69,84,85,82,78,32])]),
 .x (.c 55 [(.v 0),(.v 1)]),
 .x (.c 51 [(.v 1),(.s [32,69,78,68,32])]),
 .s 8 (.c 52 [(.v 1),(.v 3)]),
 .a (.t (.v 1)<|.i 3) (.p [(.s [101,110,100]),(.p [(.v 8),(.t (.t (.t (.v 1)<|.i 3)<|.v 4)<|.i 1)])]),
 .a (.t (.v 1)<|.i 3) (.p [(.s [99,108,111,115,101]),(.i 0)]),
 .x (.c 51 [(.v 1),(.s [59])])] (Rt<|Vi A H0 G n):=by
 refine TN b h rfl o λy=>?_;simp only[X1,<- h1];refine pJ [sg 59] (dF b) h rfl rfl rfl rfl rfl (Xj (v:=.i<|k+1) (CC b) m h rfl rfl rfl rfl (λH=>by simp) λD hD=>pJ r9 (dF b) h rfl rfl rfl rfl rfl (Q7 (dF b) h rfl rfl rfl λv e=>pJ [g1,wW kK,g1] (dF b) h rfl rfl rfl rfl rfl (Lz (dF b) h rfl rfl rfl λx q=>pJ [g1,.f ak [58,61],g1,Mine.n1,g1,wW bT,g1,wW fg,g1] (dF b) h rfl rfl rfl rfl rfl (Q7 (dF b) h rfl rfl rfl λw f=>pJ [g1,wW bT,g1] (dF b) h rfl rfl rfl rfl rfl (SJ (dF b) h rfl r rfl rfl (Em (.f _ G.m.length) (dF b) h rfl rfl rfl (LJ (by refine aa l ?_;exact⟨_,rfl⟩) rfl rfl rfl) ?_))))));refine Em .c (dF b) h rfl rfl rfl (λ_ _=>rfl) (pJ [sg 59] (dF b) h rfl rfl rfl rfl rfl (yZ (k':=300) h (nl rfl) rfl (ay λH p=>⟨rfl,⟨n,c,D,v,x,w⟩,rfl,⟨?_,hD,p.f.t.j⟩,p.g.cast ?_,p.f.f.f⟩)))
 ·exact aJ (aJ (aJ (aJ (aJ (cY rfl n1) s)<|a6 rfl) hD.nm)<|aJ (aJ (aJ (aJ (a6 rfl) e)<|cY rfl q) f)<|a6 rfl)<|cY rfl n1
 ·exact aa (Qv hL l) rfl
def WQ {dp:Int}{n:Nm}(r:GR A H G)(s:G.b<=0)(j:n∈pQ)(i:G.c<450)(l:16<=d){Cx:Prop}(k:∀p H',ae d 58 [.r A.p,.r A.s,.i dp,.s n] H=some (.v .n,H')->p.nm=n->O6 p->GR A H' (G.out (vp p) (jv p G.m.length) 300)->GK A H H'->Cx):Cx:=by
 revert k;refine lV 14 l rfl λd l k=>bU (ly j) λn1 m x=>?_;have o:CT (ae<|d+13+1) 58 [.r A.p,.r A.s,.i dp,.s n] (SG A (G.out [] [] 0)<|GK A H)<|Vi A H G n:=by refine dZ rfl rfl (l:=[xR A.p,xR A.s,xI dp,xS n,none,none,none,none,none]) rfl Jr (pJ [g1,wW eg,g1] IG i rfl rfl rfl rfl rfl (UK (.d G.m.length a9) IG i rfl rfl rfl rfl m (Em .o IG i rfl rfl rfl (λ_ _=>rfl) (Tl rfl rfl (Tc λB a b=>qZ (Nj (n:=G.m.length+1) b i rfl rfl) λw X p=>?_)))));obtain⟨z,u,y,rfl,⟨h1,q⟩,t,p⟩:=p;exact Kf b i s n1 m h1 q t rfl rfl X p
 obtain⟨v,H',e,rfl,p,c,f,g,h⟩:=o H ⟨r.cast AK.symm,GK.refl A H⟩;exact k p H' e c f g h
end
section
variable{A:pj}{H H' H1 H2 H3:Hp}{G:bZ}{d ta:Nat}{tk:List Nm}{L M:List IL}{es:List Ev}{k B:Nat}{l:Lo}{ss:List MS}{Q:Fl->Hp->Prop}{F:Hp->Prop}
def Ff (r:GR A H G)(b:Int){Cx:Prop}(a:∀H',setItem H (.r A.s) (.i 4) (.i b)=some H'->GR A H' {G with b:=b}->GK A H H'->Cx):Cx:=by have i:nW 5 4=some 4:=rfl;refine a (H.set A.s<|.l [.r A.e,.i G.d.length,.r A.m,.r A.v,.i b]) (by simp[Nu r.d,i]) ?_<|GK.set _<|.inr<|.inr<|.inr<|.inr<|.inr rfl;exact cps λC a=>aj r.he λss e c h=>am r.f λt l p1 p2 p=>a<|{r with f:=⟨t,l,aB p1<|r.nsp,aB p2<|r.nsw,p⟩,he:=⟨ss,aB e<|r.nse,c,h⟩,hm:=aB r.hm<|r.nsm,g:=aB r.g<|r.nsv,d:=dP r.d}
theorem BX:{G.out L es k with b:=b}=({G with b:=b}:bZ).out L es k:=rfl
noncomputable def d2B:List MS:=[.u (.v 1) (.i 4) .s<|.i 1,.s 7<|.c 54 [(.v 0),(.v 3)],.i (.a [(.q .n (.v 7)<|.s []),(.q .ge (.t (.v 1)<|.i 4)<|.i 0)]) [.x<|.c 58 [(.v 0),(.v 1),(.v 2),(.v 7)]] []]
theorem Rq:b5=.h 6 (.e (.q .g (.t (.v 1)<|.i 4)<|.i 0) (.c 50 [(.v 0),(.i 3)])<|.i 0) d2B:=rfl
def PH {b b':Int}(f:Fr A F)(g:G.b=b)(h:d6 .s (.i b) (.i 1)=xI b')(h1:gv l 1=xR A.s)(n:Tr (ae d) l (SG A {G with b:=b'} F) ss Q):Tr (ae d) l (SG A G F) (.u (.v 1) (.i 4) .s (.i 1)::ss) Q:=
 aV (λH p=>by refine cps λC m=>bW p.g.items λo q r s i=>Ff p.g b' λH1 a c e=>?_;rw[g]at i;exact m<|⟨H1,qE λj=>j _ h1 _ i _ h _ a,c,f _ _ e p.f⟩) n
def V6 (m:Fr A F)(r:G.b<=0)(h:f∈pQ)(s:G.c<450)(g:gv l 0=xR A.p)(h1:gv l 1=xR A.s)(i:gv l 2=xI dp)(j:gv l 7=xS f)
  (v:∀p:Pr,p.nm=f->O6 p->Tr (ae<|d+16) l (SG A (G.out (vp p) (jv p G.m.length) 300) F) ss Q):Tr (ae<|d+16) l (SG A G F) (.x (.c 58 [.v 0,.v 1,.v 2,.v 7])::ss) Q:=λH p=>by
 exact cps λC u=>WQ (d:=d+16) (dp:=dp) p.g r h s (nl rfl) λq H' a n o b c=>u<|aV (P:=λX=>X=H) (λX e=>⟨H',by refine aa e ?_;exact qE λt=>t _ g _ h1 _ i _ j _ _ a,b,m _ _ c p.f⟩) (v q n o) H rfl
def Cu (c:G.b=b)(h1:gv l 1=xR A.s)(a:gv l 7=xS x)(t)(e:(!decide (x=[])&&decide (0<=b))=t)(H)(p:SG A G F H):ai (ae d) l (.a [(.q .n (.v 7)<|.s []),(.q .ge (.t (.v 1)<|.i 4)<|.i 0)]) H=some (.b t,H):=by
 refine bW p.g.items λf g m n i=>?_;rw[c]at i;subst e;by_cases h:x=[]
 ·exact X6 (II λj=>j _ a _<|Sy rfl h) (by simp[h])
 ·simp[h1,a,i,h]
def D2 (A:pj)(ta:Nat)(a:V)(p c e:Option V)(S:Hp->Prop)(b:Lo)(H:Hp):Prop:=∃i x:V,b=[xR A.p,xR A.s,some a,xR ta,p,c,some i,some x,e]/\S H
def KC {c:Int}{g j v m:Option V}{i:V}(h:Fx A ta F)(n:G.b=1)(e:G.c<430):
  Tr (ae<|d+16) [xR A.p,xR A.s,xI c,xR ta,g,j,some i,v,m] (SG A G<|TP A ta tk F) d2B
   (Nx (D2 A ta (.i c) g j m λH=>∃(o:Option Pr) (t:List Nm),(∀p,o=some p->O6 p)/\ug (fS o)/\(tk++M1 o).Nodup/\SG A (({G with b:=0}:bZ).out (fS o) (qV o G.m.length) 300) (TP A ta t F) H)):=by
 refine PH (b':=0) (be h) n rfl rfl (Ph h rfl rfl (λx f _=>?_) λ_=>?_)
 ·exact bU (ly f) λn1 w u=>bG (Cu (b:=0) rfl rfl rfl _ (by simp[u]))<|V6 (be h) (Int.le_refl _) f (yw e rfl) rfl rfl rfl rfl λp r o=>ay λH s=>⟨_,rfl,_,_,rfl,some p,_,λq a=>by cases a;exact o,o.nm,by show(tk++[p.nm]).Nodup;refine aa r ?_;exact s.f.t.j,s⟩
 ·exact aN (Cu (b:=0) rfl rfl rfl _ (rfl))<|ay λH s=>⟨_,rfl,_,_,rfl,none,_,λq a=>(cE a nt),a6 rfl,by simpa [M1]using s.f.t.j,(s.g.up (k:=G.c+300) (bC 0x258e03012 tq)<|bC 0xe11c96380c935ce0067b tq e).cast<|by simp[bZ.out,fS,qV,fH,df],s.f⟩
def P5 {a:Int}{p c g e:Option V}{i:V}(h:Fx A ta F)(f:G.b=0):
  Tr (ae<|d+16) [xR A.p,xR A.s,xI a,xR ta,p,c,some i,g,e] (SG A G<|TP A ta tk F) d2B
   (Nx (D2 A ta (.i a) p c e λH=>∃t,SG A {G with b:=-1} (TP A ta t F) H)):=by
 refine PH (b':=-1) (be h) f rfl rfl (Ph h rfl rfl (λx j _=>?_) λ_=>?_)
 ·exact aN (Cu (b:=-1) rfl rfl rfl _ (by simp))<|ay λH s=>⟨_,rfl,_,_,rfl,_,s⟩
 ·exact aN (Cu (b:=-1) rfl rfl rfl _ (rfl))<|ay λH s=>⟨_,rfl,_,_,rfl,_,s⟩
def OT (A:pj)(G:bZ)(F:Hp->Prop)(ta:Nat)(tk:List Nm)(x:Dc×Option Pr×Int×List Nm)(H:Hp):Prop:=
 M9 x.1/\(∀p,x.2.1=some p->O6 p)/\ug (fS x.2.1)/\(tk++ze x.1++M1 x.2.1).Nodup/\
  SG A (({G with b:=x.2.2.1}:bZ).out (aQ x.1++fS x.2.1) (cM x.1 G.m.length++qV x.2.1 (G.m.length+nI (aQ x.1))) 540) (TP A ta x.2.2.2 F) H
def Wo {c:Int}(f:Fx A ta F)(P:G.b=1)(i:G.c<180):CT (ae<|d+17) 57 [.r A.p,.r A.s,.i c,.r ta] (SG A G<|TP A ta tk F) (λv H=>v=.n/\∃x,OT A G F ta tk x H):=by
 refine dZ (d:=d+16) rfl rfl (l:=[xR A.p,xR A.s,xI c,xR ta,none,none,none,none,none]) rfl (show gL.body=[cW,b5]from rfl) (qZ (PP (d:=d+6) (yw i rfl) f) λg X p=>cps λC b=>?_);obtain⟨D,z,E,I,J,N,rfl,y,p⟩:=p;refine O1 (d:=d+16) (w:=3) p.g (by decide) (by decide) (nl rfl) λw H2 R b2 b3 T U=>bW p.g.items λi0 i1 i2 i3 i4=>?_;have Y:∀{m:Nat},w=m->ai (ae<|d+16) [xR A.p,xR A.s,xI c,xR ta,z,E,I,J,N] (.e (.q .g (.t (.v 1)<|.i 4)<|.i 0) (.c 50 [(.v 0),(.i 3)])<|.i 0) X=some (.i m,H2):=λe=>by subst e;exact hG λjj=>jj _ i4 _ (kj rfl (by simp only[bZ.out];lia:(0:Int)<(G.out (aQ D) (cM D G.m.length) 240).b)) _ _ R
 have q:SG A (G.out (aQ D) (cM D G.m.length) 240) (TP A ta (tk++ze D) F) H2:=⟨T,be f _ _ U p.f⟩;have j:∀{m:Nat}{S:Lo->Hp->Prop},w=m->m<=2->Tg (λv l H=>XU (ae<|d+16) a4 (l.set 6<|some v) H d2B) (bS 0 m 1) [xR A.p,xR A.s,xI c,xR ta,z,E,I,J,N] (SG A (G.out (aQ D) (cM D G.m.length) 240)<|TP A ta (tk++ze D) F) S->(∀l H,S l H->∃x,OT A G F ta tk x H)->Z (XU (ae<|d+16) a4 [xR A.p,xR A.s,xI c,xR ta,z,E,I,J,N] X [b5]) (Rt λv H=>v=.n/\∃x,OT A G F ta tk x H):=λ{m S} e hm h k=>by refine dJ (h H2 q) λg H' W s=>⟨.n g,H',?_,rfl,k _ _ s⟩;simp only[Rq,aW,rO (Y e) (YD m)<|by lia];exact Xs (Ma _ _ _) W
 have a:w=0\/w=1\/w=2:=by lia
 refine b ?_;rcases a with a|a|a
 ·exact j (m:=0) a (nl rfl) (wT (S:=λ_ H=>∃x,OT A G F ta tk x H) λH s=>⟨⟨D,none,G.b,tk++ze D⟩,y,λq hq=>(cE hq nt),a6 rfl,by simpa [M1]using p.f.t.j,((s.g.up (k:=G.c+540) (by simp only[bZ.out];exact bC 0x438e030f070192 tq)<|bC 0xe11d0e380c9168e0067b tq i).cast<|by simp[bZ.out,fS,qV]),s.f⟩) λ_ _ s=>s
 ·refine j (m:=1) a (nl rfl) (ml (KC f P<|up i rfl) λg=>wT (S:=λ_ H=>∃x,OT A G F ta tk x H) λH s=>cps λC b=>?_) λ_ _ s=>s
  obtain⟨_,_,_,o,t,n,r,u,s⟩:=s;refine b<|⟨⟨D,o,0,t⟩,y,n,r,u,s.g.cast ?_,s.f⟩;simp only[fh,BX,dX]
 ·refine j (m:=2) a (nl rfl) (ml (KC f P<|up i rfl) λg H s=>cps λC b=>?_) λ_ _ s=>s
  obtain⟨_,_,rfl,o,t,n,r,u,s⟩:=s;refine b<|ml (P:=SG A _ _) (P5 f rfl) (λg=>wT (S:=λ_ H=>∃x,OT A G F ta tk x H) λH s=>cps λC b=>?_) H s;obtain⟨_,_,_,O,s⟩:=s;refine b<|⟨⟨D,o,-1,O⟩,y,n,r,u,s.g.cast<|aa fh ?_,s.f⟩;simp[bZ.out,XR]
end
section
variable{cl:Cl}{lp:Zx}{l:Lo}{H:Hp}
theorem rf:∀X:List Int,j4 (X.map V.i)=some X
 | []=>rfl
 |x::X=>by simp[AH,rf X]
def Hz {a:ME}{r:Nat}{X:List Int}{H1:Hp}(h:ai cl l a H=some (.r r,H1))(c:H1[r]?=some (.l<|X.map V.i))(b:X.length<=1000000)(d:∀x∈X,sm x=true):ai cl l (.u a) H=some (.i X.sum,H1):=by
 refine(bI h).trans ?_;have e:LV H1 (.r r)=some X.sum:=by show hL H1[r]? _=_;exact aa c ((lu<|rf _).trans<|Xr<|by simp[b];exact d)
 refine aa e ?_;rfl
def zr {a hi:ME}{r:Nat}{ns:List Int}{j:Int}{H1 H2:Hp}(b:ai cl l a H=some (.r r,H1))(c:ai cl l hi H1=some (.i j,H2))(f:H2[r]?=some (.ro ns))(h:0<=j)(d:sm j=true)(e:ns.length<=1048576):
  ai cl l (.Y a hi) H=some (.r H2.length,H2++[.l<|(ns.take j.toNat).map V.i]):=by
 refine(bI b).trans<|(bI c).trans ?_;show hO H2[r]? _=_;exact aa f (Xr<|by simp[h,d,e])
end
def Ov {a b:Int}(h:0<b)(h1:b<=1000000):fQ (.fdiv ()) (.i a) (.i b)=xI (a/b):=by simp only[fQ,Yy h,js (x:=b) (Yg (by decide)<|YK h) h1,ZL,if_true,cz]
def It {c:Cl}{v x:Option V}{l:List Int}{b r:Hp}{s:V}{q:Int}(d:l.length<=400)(h:0<q->¬(l.length:Int)<300):
  bw c a4 [some s,xR b.length,v,xI q,x] (b++.l (l.map V.i)::r) X2=some (.n [some s,xR b.length,v,xI q,x],b++.l (l.map V.i)::r):=by
 unfold X2;rw[aG];by_cases h1:0<q
 ·have a:=bA (H:=b++.l (l.map V.i)::r) (a:=b.length) (l:=l.map V.i) (by simp) (by simp;exact Gj d)
  rw[XM]at a;simp[h1,a,h h1]
 ·simp[h1]
def G2 {c:Cl}{v x:Option V}{l:List Int}{base r:Hp}{s:V}{q:Int}{ss:List MS}(h:l.length<=400):
  XU c a4 [some s,xR base.length,v,xI q,x] (base++.l (l.map V.i)::r) (.a (.v 1) (.o .m (.v 3)<|.i 1000)::.s 3 (.o (.fdiv ()) (.v 3)<|.i 1000)::ss)=XU c a4 [some s,xR base.length,v,xI<|q/1000,x] (base++.l ((l++[q % 1000]).map V.i)::r) ss:=by
 simp only[Zj,af,map_nil];simp only[aW,N8,tl,tJ,N9,Ir,CB,oS,kU,CR,zK,C5,zP,xz,qC,(A9 base (l.map V.i) r),JJ,if_true,(jR (a:=q) (b:=1000) (by decide)<|by decide),(yh (base:=base) (k:=l.map V.i) (r:=r) (v:=.i<|q % 1000)<|by simp;exact Gj h),(Ov (a:=q) (b:=1000) (by decide)<|by decide),sA,set_cons_succ,set_cons_zero]
def Qk {a:Cl}{v x:Option V}{l:List Int}{b r:Hp}{s:V}{q:Int}(h1:0<q)(d:(l.length:Int)<300)(e:l.length<=400):
  bw a a4 [some s,xR b.length,v,xI q,x] (b++.l (l.map V.i)::r) X2=bw a a4 [some s,xR b.length,v,xI<|q/1000,x] (b++.l ((l++[q % 1000]).map V.i)::r) X2:=by
 have h:=bA (H:=b++.l (l.map V.i)::r) (a:=b.length) (l:=l.map V.i) (by simp) (by simp;lia);rw[XM]at h;have c:ai a [some s,xR b.length,v,xI q,x] (.a [(.q .g (.v 3)<|.i 0),(.q .l (.n<|.v 1)<|.i 300)]) (b++.l (l.map V.i)::r)=some (.b true,b++.l (l.map V.i)::r):=by simp[h1,h,d]
 conv=>lhs;unfold X2
 rw[aG,c,qg,Xr rfl,G2 e];rfl
def OB {cl:Cl}{v2:Option V}{x4:Option V}{base rest:Hp}{s:V}{m:Nat}(r:300<=m)(a:m<=400)(k:Nat):∀(l:List Int) (q:Int),300-l.length<=k->(∀x∈l,0<=x/\x<1000)->l.length<=m->
  ∃(d:List Int) (o:Int),bw cl a4 [some s,xR base.length,v2,xI q,x4] (base++.l (l.map V.i)::rest) X2=some (.n [some s,xR base.length,v2,xI o,x4],base++.l (d.map V.i)::rest)/\(∀x∈d,0<=x/\x<1000)/\d.length<=m:=by
 induction k with
 |zero=>intro l q g c b;exact⟨l,q,It (XJ b a) λ_ h=>not_lt.mpr (Nat.le_of_sub_eq_zero<|Nat.le_zero.mp g)<|Yi.mp h,c,b⟩
 |succ k i=>
  intro l q g c b;by_cases h1:0<q
  ·by_cases f:(l.length:Int)<300
   ·have e:(l++[q % 1000]).length=l.length+1:=Xx
    refine cps λC t=>?_;obtain⟨d,o,i,j,n⟩:=i (l++[q % 1000]) (q/1000) (by refine aa e ?_;exact Nat.pred_le_pred g) (λx p=>by
     rcases YE.1 p with z|z
     ·exact c x z
     ·simp at z;clear p;subst z;exact⟨aaf _<|by decide,Z5 _<|by decide⟩) (by refine aa e ?_;exact XJ (Yi.mp f) r)
    exact t<|⟨d,o,(Qk h1 f<|XJ b a).trans i,j,n⟩
   ·exact⟨l,q,It (XJ b a) λ_=>f,c,b⟩
  ·exact⟨l,q,It (XJ b a) λh=>Xw h h1,c,b⟩
def stB:List MS:=[.s 3<|.e (.q .ge (.v 2)<|.i 0) (.v 2)<|.o .s (.i 1)<|.v 2,.a (.v 1)<|.o .m (.v 3)<|.i 1000,.s 3<|.o (.fdiv ()) (.v 3)<|.i 1000,X2]
theorem PB:gW=.g 2 (.Y (.v 0)<|.i 50) stB:=rfl
def LN {cl:Cl}{ok:Hp->Bool}{s:V}{x4:Option V}{base rest:Hp}(d:∀l:List V,ok (base++.l l::rest)=true)(cs:List Int):∀(m:Nat) (l:List Int) (v2 b:Option V),(∀x∈l,0<=x/\x<1000)->l.length<=m->300<=m->m+cs.length<=380->
  ∃(l':List Int) (p2 p:Option V),aM (λv l' H'=>XU cl a4 (l'.set 2<|some v) H' stB) ok (cs.map V.i) [some s,xR base.length,v2,b,x4] (base++.l (l.map V.i)::rest)=some (.n [some s,xR base.length,p2,p,x4],base++.l (l'.map V.i)::rest)/\(∀x∈l',0<=x/\x<1000)/\l'.length<=380:=by
 induction cs with
 |nil=>intro m l v2 b g e f a;exact⟨l,v2,b,bu<|d _,g,XJ e a⟩
 |cons c cs k=>
  intro m l v2 b g e f a;rw[aE,<- XR,add_right_comm]at a;have a:=a;refine cps λC B=>?_;obtain⟨q,t⟩:∃q:Int,q=if 0<=c then c else 1-c:=⟨_,rfl⟩;have r:m+1<=380:=XJ (Xz _ _) a;have i:∀x∈l++[q % 1000],0<=x/\x<1000:=λx A=>by
   rcases YE.1 A with z|z
   ·exact g x z
   ·simp at z;subst z;exact⟨aaf _<|by decide,Z5 _<|by decide⟩
  refine am (OB (cl:=cl) (v2:=xI c) (x4:=x4) (base:=base) (rest:=rest) (s:=s) (Z3 f) (XJ r<|nl rfl) 300 (l++[q % 1000]) (q/1000) (sub_le _ _) i (by refine aa Xx ?_;exact aa8 e:(l++[q % 1000]).length<=m+1)) λu w D E F=>?_;refine Bz (k (m+1) u (xI c) (xI w) E F (Z3 f) a) λl' p2 p k n o=>B<|⟨l',p2,p,(aS (d _) (l':=[some s,xR base.length,xI c,xI w,x4]) (H':=base++.l (u.map V.i)::rest) ?_).trans k,n,o⟩;have y:ai cl [some s,xR base.length,xI c,b,x4] (.e (.q .ge (.v 2)<|.i 0) (.v 2)<|.o .s (.i 1)<|.v 2) (base++.l (l.map V.i)::rest)=some (.i q,base++.l (l.map V.i)::rest):=by
   by_cases h:0<=c
   ·exact X6 (hG λj=>j _<|kj rfl h) (by simp[t,Xr h])
   ·exact X6 (hG λj=>j _ (fw rfl h) _ rfl) (by simp[t,Xu h])
  show XU cl a4 [some s,xR base.length,xI c,b,x4] _ stB=_;simp only[stB,aW,tl,y];exact(G2<|XJ e<|XJ (le_succ m)<|XJ r<|nl rfl).trans<|uh λj=>j _ _ D
def WY {d:Nat}{ns:List Int}(z:ns.length<=63){Cx:Prop}(v:∀(H:Hp) (y m:Nat),ae (d+1) 49 [.r 0] [.ro ns]=some (.v<|.r m,H)->PL y m H->Cx):Cx:=by
 obtain⟨cs,c⟩:∃cs,cs=ns.take 50:=⟨_,rfl⟩;have n:=zr (cl:=ae d) (l:=[xR 0,xR 1,none,none,none]) (H:=[AO.ro ns,.l []]) (a:=.v 0) (hi:=.i 50) (r:=0) (ns:=ns) (j:=50) (H1:=[AO.ro ns,.l []]) (H2:=[AO.ro ns,.l []]) (rfl) (rfl) (rfl:([AO.ro ns,.l []]:Hp)[0]?=some (.ro ns)) (by decide) (rfl)<|XJ ‹_›<|nl rfl;have f:(50:Int).toNat=50:=rfl;rw[f,<- c]at n;have b:cs.length<=50:=by refine aa c<|aa length_take ?_;exact Nat.min_le_left ..
 refine Bz (LN (cl:=ae d) (ok:=aZ 2<|cs.map V.i) (s:=.r 0) (x4:=none) (base:=[AO.ro ns]) (rest:=[.l<|cs.map V.i]) (λl=>cS rfl) cs 300 [] none none (λx e=>by cases e) (X4 _) (XC _)<|bC 0x5f1c04b1cc9064e0065b tq b) λl p2 p g1 k q=>?_;have w:bw (ae d) a4 [xR 0,xR 1,none,none,none] [AO.ro ns,.l []] gW=some (.n [xR 0,xR 1,p2,p,none],[AO.ro ns,.l<|l.map V.i,.l<|cs.map V.i]):=by simp only[PB,e5 (H1:=[AO.ro ns,.l []]++[.l<|cs.map V.i]) (a:=2) (vs:=cs.map V.i) n rfl (by rw[XM];exact bC 0x3d0902209064e0065b tq b)];exact g1
 have a:∀X:Hp,eu (AO.ro ns::X) (.r 0)=some (ns.length:Int):=λX=>by exact Xr (c:=ns.length<=1048576)<|XJ ‹_›<|nl rfl
 obtain⟨t,r,i,j⟩:∃t:Int,bw (ae d) a4 [xR 0,xR 1,p2,p,xI 0] [AO.ro ns,.l<|l.map V.i,.l<|cs.map V.i] (.i (.q .g (.n<|.v 0)<|.i 2) [.s 4<|.o .a (.i 1)<|.o .m (.u<|.v 1)<|.i 990] [])=some (.n [xR 0,xR 1,p2,p,xI t],[AO.ro ns,.l<|l.map V.i,.l<|cs.map V.i])/\0<=t/\t<1000:=by
  by_cases h:(2:Int)<ns.length
  ·have s:=Hz (cl:=ae d) (l:=[xR 0,xR 1,p2,p,xI 0]) (H:=[AO.ro ns,.l<|l.map V.i,.l<|cs.map V.i]) (a:=.v 1) (r:=1) (X:=l) (H1:=[AO.ro ns,.l<|l.map V.i,.l<|cs.map V.i]) (rfl) rfl (XJ ‹_›<|nl rfl) (λx e=>by have:=k x e;exact js (Yg (by decide) this.1)<|Yg (YK this.2)<|by decide)
   refine⟨1+l.sum % 990,?_,by lia,by lia⟩;simp[a,h,s,(jR (a:=l.sum) (b:=990) (by decide)<|by decide)]
  ·exact⟨0,(yu λu=>u _ (a _) _<|fw rfl h),by decide,by decide⟩
 refine v ([AO.ro ns,.l<|(l.reverse).map V.i,.l<|cs.map V.i,.l [.r 1,.i t]]) 1 3 ?_ ⟨by decide,t,l.reverse,rfl,rfl,λx e=>k x<|List.mem_reverse.1 e,by simp;exact bC 0xe11c092f8e0065b tq q,i,j⟩;refine aa (aU (f:=fv) rfl rfl) ?_;have o:List.map some [V.r 0]++List.replicate (fv.vars-fv.p) none=[xR 0,none,none,none,none]:=rfl;refine aa o ?_;have g:AD [AO.ro ns,.l<|l.map V.i,.l<|cs.map V.i] 1=some [AO.ro ns,.l<|(l.reverse).map V.i,.l<|cs.map V.i]:=by simp only[AD,List.getElem?_cons_succ,getElem?_cons_zero,XM,bh];refine aa (Xr<|XJ ‹_›<|nl rfl) ?_;simp
 simp only[fv,aW,A5,tl,IZ,Ca,Dg,qC,Dd,xz,iZ,u6,sB,kU,sA,set_cons_succ,set_cons_zero,bE,dA,aE,br,w,Ir,r,LK,tJ,CB,oS,g,nP,yN,oG,i6]
structure Br(M:Md):Prop where
 nm:ug (aP M)
 j:ND M
 d:M9 M.d
 pp:∀p,M.p=some p->O6 p
noncomputable def TJ:MS:=.i (.q .g (.v 3)<|.i 0) [.x<|.c 51 [(.v 1),(.s [73,77,80,79,82,84,32])],.a (.t (.v 1)<|.i 3)<|.p [(.t (.l [(.s [97,108,105,97,115]),(.s [105,109,112,111,114,116])])<|.o .s (.v 3)<|.i 1),(.c 52 [(.v 1),(.c 54 [(.v 0),(.v 2)])])],.x<|.c 51 [(.v 1),(.t (.l [(.s [32,58,61,32,98,59,32]),(.s [59,32])])<|.o .s (.v 3)<|.i 1)]] []
theorem ID:pu.body=[
 .s 1 (.l [(.l []),(.i 0),(.l []),(.l []),(.i 1)]),
 .x (.c 51 [(.v 1),(.s [77,79,68,85,76,69,32,97,59,32])]),
 .s 2 (.l []),
 .s 3 (.c 50 [(.v 0),(.i 3)]),
 TJ,
 .x (.c 57 [(.v 0),(.v 1),(.i 0),(.v 2)]),
 .x (.c 51 [(.v 1),(.s [32,66,69,71,73,78,32])]),
 .x (.c 53 [(.v 0),(.v 1)]),
 .x (.c 51 [(.v 1),(.s [59,32,67,65,83,69,32])]),
 .x (.c 55 [(.v 0),(.v 1)]),
 .x (.c 51 [(.v 1),(.s [32,79,70,32,49,58,32,69,78,68,32,69,78,68,32,97,46])]),
 .r (.p [(.j<|.t (.v 1)<|.i 0),(.t (.v 1)<|.i 2),(.t (.v 1)<|.i 3)])]:=rfl
noncomputable def G0:bZ:=⟨[],[],[],1,0⟩
section
variable{A:pj}{H:Hp}{d ta:Nat}
def TT (H:Hp):Prop:=True
def hV:Fx A ta TT:=λ_ _ _ _=>trivial
def Vj {a b i:Nm}{q B k:Nat}{G:bZ}{L:List IL}{w:List Ev}{t:List Nm}{F:Hp->Prop}{l:Lo}{y:List MS}{Q:Fl->Hp->Prop}(j:Fx A ta F)(S:G.c<B)(T:Nat.ble (k+3+B) 850=true)(W:[V.s a,.s b][q]?=xS i)(O:gv l 0=xR A.p)(h1:gv l 1=xR A.s)(P:gv l 2=xR ta)
  (R:∀H,ai (ae<|d+2) l (.o .s (.v 3)<|.i 1) H=some (.i q,H)) (U:∃c∈pQ,c∉t) (kk:∀x,x∈pQ->Tr (ae<|d+2) l (SG A (G.out (L++[.n x]) (w++[.d (G.m.length+nI L) i])<|k+3)<|TP A ta (t++[x]) F) y Q):
  Tr (ae<|d+2) l (SG A (G.out L w k)<|TP A ta t F) (.a (.t (.v 1)<|.i 3) (.p [.t (.l [.s a,.s b])<|.o .s (.v 3)<|.i 1,.c 52 [.v 1,.c 54 [.v 0,.v 2]]])::y) Q:=λH p=>by
 refine cps λC kC=>bW p.g.items λi0 i1 i2 Y i4=>?_;have o:=Ef S T;refine XG (λv1 _=>T6 (d:=d+2) (p.g.app [.l [.s a,.s b]]) (p.f.t.keep<|GK.app A H _) (XN _ _) λx H2 I J M u=>?_)<|K4 .o p.g<|Yc (Xz _ 3) o;rcases u with⟨D,u2,u3⟩|⟨_,_,m⟩
 ·refine bU (ly D) λn1 n2 n3=>OO (d:=d+2) J n2 (Yc (Xz _ 3) o) (XN _ _) λE e g f=>mY (K4 (.d (G.m.length+nI L) i) g<|Y6 o) λv2 s r N v=>?_
  change bF E A.v (.t [.s i,.i ((G.m.length+nI L:Nat):Int)])=some s at r;generalize G.m.length+nI L=n at e r;exact kC<|aV (P:=λX=>X=H) (λX z=>⟨s,by refine aa z ?_;exact M7 (Gk (Co h1) rfl Y) v1 (Qg<|lN (Gk (Ot<|lN rfl (lN rfl rfl)) (R _) (getL (bg _ _) (nl rfl) W:getItem (H++[AO.l [.s a,.s b]]) (.r H.length) (.i (q:Int))=xS i))<|lN (Hq (lN (Co h1)<|lN (Hq (lN (Co O)<|lN (Co P) rfl) I) rfl) e) rfl) r,N,(u3.keep f).keep v,j _ _ (v.gx ta)<|j _ _ (f.gx ta)<|j _ _ M<|j _ _ ((GK.app A H _).gx ta) p.f.f⟩) (kk x D) H rfl
 ·exact U.elim λc h=>Xw (m c h.1) h.2
def Ji {w:Nat}(f:w<3):Tn (ae<|d+21) [xR A.p,xR A.s,xR ta,xI (w:Int)] (SG A (G0.out o7 [] 1)<|TP A ta [] TT) TJ
  (λl H=>l=[xR A.p,xR A.s,xR ta,xI (w:Int)]/\∃i,ug (bj i)/\SG A (G0.out (o7++bj i) (g7 i 0) 8) (TP A ta (MA i) TT) H):=by
 have h:G0.c<250:=nl rfl;have e:∃c∈pQ,c∉([]:List Nm):=⟨[97],by decide,by decide⟩;have b:Fr A<|TP A ta [] TT:=be hV;rcases(by revert w;decide:w=0\/w=1\/w=2)with rfl|rfl|rfl
 ·exact ux<|aN (λ_ _=>rfl)<|ay λH p=>⟨_,rfl,rfl,none,a6 rfl,(p.g.up (k:=G0.c+8) (nl rfl)<|nl rfl).cast rfl,p.f⟩
 ·exact ux<|bG (λ_ _=>rfl)<|pJ [wW eF,g1] b h rfl rfl rfl rfl rfl (Vj (q:=0) hV h rfl rfl rfl rfl rfl (λ_=>rfl) e λx a=>MV (q:=0) (vs:=[.s [32,58,61,32,98,59,32],.s [59,32]]) [g1,.f ak [58,61],g1,fn [98],sg 59,g1] (be hV) h rfl rfl rfl rfl rfl rfl rfl (λ_=>rfl) (λ_=>rfl) (ay λH p=>(⟨_,rfl,rfl,some (false,x),cY rfl (ly a).1,(p.g.up (k:=G0.c+8) (nl rfl)<|nl rfl).cast rfl,p.f⟩)))
 ·exact ux<|bG (λ_ _=>rfl)<|pJ [wW eF,g1] b h rfl rfl rfl rfl rfl (Vj (q:=1) hV h rfl rfl rfl rfl rfl (λ_=>rfl) e λx a=>MV (q:=1) (vs:=[.s [32,58,61,32,98,59,32],.s [59,32]]) [sg 59,g1] (be hV) h rfl rfl rfl rfl rfl rfl rfl (λ_=>rfl) (λ_=>rfl) (ay λH p=>(⟨_,rfl,rfl,some (true,x),cY rfl (ly a).1,(p.g.up (k:=G0.c+8) (nl rfl)<|nl rfl).cast rfl,p.f⟩)))
end
section
variable{A:pj}{G:bZ}{d ta:Nat}{L:List IL}{es:List Ev}{k:Nat}{l:Lo}{ss:List MS}{Q:Fl->Hp->Prop}{F:Hp->Prop}
def Ps (h:Fr A F)(b:∀ta,R0 A ta->Tr (ae d) (l.set i<|xR ta) (SG A G<|TP A ta [] F) ss Q):Tr (ae d) l (SG A G F) (.s i (.l [])::ss) Q:=λH p=>by exact b H.length (rF p.g 0) (H++[AO.l []]) ⟨p.g.app _,⟨by simp,(rF p.g 0),λx a=>by(cases a),nodup_nil⟩,h _ _ (GK.app A H _) p.f⟩
def MQ (A:pj)(v:V)(H:Hp):Prop:=∃M:Md,v=.t [.s<|ji<|aP M,.r A.m,.r A.v]/\H[A.m]?=some (.l<|(jM (aP M) 0).map λp=>V.t [.i p.1,.s p.2])/\H[A.v]?=some (.l<|(ky M).map kW)/\Br M/\(ji<|aP M).length<=30000
def I7 {a:bZ}(r:a.d=[]/\a.m=[]/\a.a=[]/\a.c=0){M:Md}{F:Hp->Prop}(h1:gv l 1=xR A.s)(o:Br M):Tr (ae d) l (SG A (a.out (aP M) (ky M) 561) F) [.r<|.p [(.j<|.t (.v 1)<|.i 0),(.t (.v 1)<|.i 2),(.t (.v 1)<|.i 3)]]<|Rt<|MQ A:=λH p=>by obtain⟨D,w,q,f,c⟩:=a;refine tm r λi m n e=>?_;subst i;subst m;subst n;subst e;refine bW p.g.items λs B t u C=>aj p.g.he λss x y z=>?_;have h:(ji<|aP M).length<=30*561:=p.g.w;have b:ss.flatten=ji (aP M):=y;have g:ss.length<=561:=z;have j:=BE (cl:=ae d) (l:=l) (H:=H) (H1:=H) (a:=.t (.v 1)<|.i 0) (ss:=ss) (II λv=>v _ h1 _ s) x (bC 0x3d0902209462e0065b tq g) (by refine aa b ?_;exact e6.mpr<|bC 0x30d41104a31779af0065b tq h);rw[b]at j;exact⟨.r<|.t [.s<|ji<|aP M,.r A.m,.r A.v],H,by simp[h1,j,t,u],M,rfl,p.g.hm,p.g.g,o,bC 0xea61104a31779af0065b tq h⟩
def GB:Tr (ae<|d+21) [xR A.p,xR A.s,none,none] (SG A (G0.out [] [] 0) TT) [
 .x (.c 51 [(.v 1),(.s [77,79,68,85,76,69,32,97,59,32])]),
 .s 2 (.l []),
 .s 3 (.c 50 [(.v 0),(.i 3)]),
 TJ,
 .x (.c 57 [(.v 0),(.v 1),(.i 0),(.v 2)]),
 .x (.c 51 [(.v 1),(.s [32,66,69,71,73,78,32])]),
 .x (.c 53 [(.v 0),(.v 1)]),
 .x (.c 51 [(.v 1),(.s [59,32,67,65,83,69,32])]),
 .x (.c 55 [(.v 0),(.v 1)]),
 .x (.c 51 [(.v 1),(.s [32,79,70,32,49,58,32,69,78,68,32,69,78,68,32,97,46])]),
 .r (.p [(.j<|.t (.v 1)<|.i 0),(.t (.v 1)<|.i 2),(.t (.v 1)<|.i 3)])]<|Rt<|MQ A:=by
 have f:G0.c<250:=nl rfl;refine pJ o7 (hV (ta:=0)).fr f rfl rfl rfl rfl rfl (Ps (hV (ta:=0)).fr λta n=>MG (n:=3) (be hV) rfl rfl rfl (λ_=>rfl) λw s=>qZ (Ji s) λM H p=>?_);obtain⟨rfl,i,B,p⟩:=p;refine rI (P:=SG A (G0.out (o7++bj i) (g7 i 0) 8)<|TP A ta (MA i) TT) (vs:=[.r A.p,.r A.s,.i 0,.r ta]) (λ_=>rfl) (Wo (d:=d+4) hV rfl (show 8<180 by decide)) (λx H p=>?_) H p;obtain⟨D,o,b,t⟩:=x;refine bW p λg j z y p=>?_;have q:=p.g;rw[(by rw[fh,ah];simp[G0,bN,ck,cj,o7]:(G0.out (o7++bj i) (g7 i 0) 8).m.length=nI (bj i)),BX,dX]at q;have h:({G0 with b:=b}:bZ).c<250:=f;obtain⟨a,c⟩:∃a:bZ,a={G0 with b:=b}:=⟨_,rfl⟩;rw[<- c]at h;have h:=h;change GR A H (({G0 with b:=b}:bZ).out _ _ 548)at q;rw[<- c]at q;refine(?_:Tr (ae<|d+21) _ (SG A (a.out (o7++bj i++(aQ D++fS o)) (g7 i 0++(cM D (nI<|bj i)++qV o (nI (bj i)+nI (aQ D)))) 548)<|TP A ta t TT) _ _) H ⟨q,p.f⟩;refine pJ [g1,wW bM,g1] (be hV) h rfl rfl rfl rfl rfl (Lz (be hV) h rfl rfl rfl λx u=>pJ [sg 59,g1,wW xr,g1] (be hV) h rfl rfl rfl rfl rfl (Q7 (be hV) h rfl rfl rfl λv r=>pJ EM (be hV) h rfl rfl rfl rfl rfl ?_));have e:a.d=[]/\a.m=[]/\a.a=[]/\a.c=0:=by refine aa c ?_;exact⟨rfl,rfl,rfl,rfl⟩
 refine ed (λH p=>⟨p.g.cast ?_,p.f⟩)<|I7 e (M:=⟨i,D,o,x,v⟩) rfl ⟨aJ (aJ (aJ (aJ (aJ (aJ (a6 rfl) B) g.nm) z)<|cY rfl u) r)<|a6 rfl,⟨y,λp m=>(j p m).j⟩,g,j⟩;have C:nI o7=0:=rfl;have E:nI [g1,wW bM,g1]=0:=rfl;have I:nI [IL.n x]=1:=rfl;have J:nI [sg 59,g1,wW xr,g1]=0:=rfl;simp only[ah,C,E,I,J,(by refine aa e.2.1 ?_;rfl:a.m.length=0)];simp[aP,DU,ky,XR]
end
def VO {w a d:Nat}{H:Hp}(p:PL w a H)(f:24<=d):∃(M:Md) (b:Hp) (m i:Nat),ae d 59 [.r a] H=some (.v<|.t [.s<|ji<|aP M,.r m,.r i],b)/\
  b[m]?=some (.l<|(jM (aP M) 0).map λp=>V.t [.i p.1,.s p.2])/\b[i]?=some (.l<|(ky M).map kW)/\Br M/\(ji<|aP M).length<=30000:=by
 refine lV 22 f rfl λd f=>yL p.f λt l p1 p2 o q r=>?_;obtain⟨A,c⟩:∃A:pj,A=⟨w,a,H.length,H.length+1,H.length+2,H.length+3⟩:=⟨_,rfl⟩;have g:∀j,(H++[AO.l [],.l [],.l [],.l [.r H.length,.i 0,.r<|H.length+1,.r<|H.length+2,.i 1]])[H.length+j]?=[AO.l [],.l [],.l [],.l [.r H.length,.i 0,.r<|H.length+1,.r<|H.length+2,.i 1]][j]?:=λj=>by refine aa (Zy<|Xz _ _) ?_;congr 1;exact add_sub_cancel_left ..
 have r0:GR A (H++[AO.l [],.l [],.l [],.l [.r H.length,.i 0,.r<|H.length+1,.r<|H.length+2,.i 1]])<|G0.out [] [] 0:=by subst c;exact⟨p.o,(xg p1),YX _,YX _,YX _,⟨t,l,fi p1,fi p2,o,q,r⟩,⟨[],g 0,rfl,X4 _⟩,g 1,g 2,g 3,X4 _,X4 _,X4 _,X4 _⟩
 have k:CT (ae<|d+21+1) 59 [.r a] (λX=>X=H)<|MQ A:=by
  refine dZ rfl rfl (l:=[xR a,none,none,none]) rfl ID (λX e=>?_);have s:bw (ae<|d+21) a4 [xR a,none,none,none] H (.s 1<|.l [(.l []),(.i 0),(.l []),(.l []),(.i 1)])=some (.n [xR A.p,xR A.s,none,none],H++[AO.l [],.l [],.l [],.l [.r H.length,.i 0,.r<|H.length+1,.r<|H.length+2,.i 1]]):=by refine aa c ?_;simp
  simp only[e,aW,s];exact GB _ ⟨r0,trivial⟩
 refine mh (k H rfl) λv b e M n h=>?_;subst n;exact⟨M,b,A.m,A.v,e,h⟩
theorem AB:∀K:Kd,uf K<=8*AP K+3
 | .n _=>by simp[FB]
 | .r K=>by have:=AB K;exact aK 0x6d0b42c435ec0b40c90da1435ec0065b tq this
 | .p _=>by simp[Fi]
 | .a _ K=>by have:=AB K;exact aK 0x6d0b42c435ec021ac90da1435ec0065b tq this
 | .c _=>by simp[FB,MT,Fi,MJ,Mw]
def xp (v):1<=nI (dw v)/\nI (dw v)<=2:=by cases v<;> simp[Mv,LU,M8,L0,bN,ck,cj]
theorem Bf:∀K:Kd,nI (iE K)<=2*AP K+1
 | .n _=>by simp[qw,jT,qG,gH,nE,bN,ck,cj]
 | .r K=>by have:=Bf K;have n1:nI xP=0:=rfl;have n:nI Dt=1:=rfl;rw[jT,ah,ah,n1,n,Mh];exact aK 0x1685a1609af605a00358c905a1135ec0065b tq this
 | .p _=>by simp[qw,jT,qG,gH,nE,bN,ck,cj]
 | .a v K=>by have:=Bf K;have:=xp v;have n1:nI [wW dc,g1]=0:=rfl;have n:nI [g1,wW xf,g1]=0:=rfl;rw[gH,ah,ah,ah,n1,n,NF];exact ba 0x5a1689826bd81034006b18c905a2135ec0865b134019002d04b1b tq ‹_› ‹_›
 | .c _=>by simp[qw,jT,qG,gH,nE,bN,ck,cj]
def wg (c:Option<|Option<|Nm×Kd)(h:yX c<=2):Eb c<=23:=by
 match c with
 |none=>simp[zR,Am,As]
 |some none=>simp[zR,Am,As]
 |some (some (x,K))=>have:=AB K;simp only[yX]at h;simp only[zR,Am,As];exact aK 0xbb4046b24268512d8da1435ec0065b tq this h
def QT (c:Option<|Option<|Nm×Vl):nI (r8 c)<=3:=by
 match c with
 |none=>simp[Et,Fj,mU,bN,ck,cj]
 |some none=>simp[Et,Fj,mU,bX,bN,ck,cj]
 |some (some (x,v))=>have:=xp v;have n1:nI (bX Yr)=0:=rfl;have n:nI [.n x,g1,sg 61,g1]=1:=rfl;have a:nI [sg 59,g1]=0:=rfl;rw[mU,ah,ah,ah,n1,n,a];exact bC 0x3681a00b58c03592134019002d04b1b tq this
def RB (c:Option<|Option<|Nm×Kd)(h:yX c<=2):nI (wx c)<=6:=by
 match c with
 |none=>simp[zy,AV,ng,bN,ck,cj]
 |some none=>simp[zy,AV,ng,bX,bN,ck,cj]
 |some (some (x,K))=>have:=Bf K;simp only[yX]at h;have n1:nI (bX YH)=0:=rfl;have n:nI [.n x,sg 42,g1,sg 61,g1]=1:=rfl;have a:nI [sg 59,g1]=0:=rfl;rw[ng,ah,ah,ah,n1,n,a];exact Fa this h
def Qo (c:Option<|Option<|Nm×Kd)(h:yX c<=2):nI (zx c)<=6:=by
 match c with
 |none=>simp[zg,za,nj,bN,ck,cj]
 |some none=>simp[zg,za,nj,bX,bN,ck,cj]
 |some (some (x,K))=>have:=Bf K;simp only[yX]at h;have n1:nI (bX YT)=0:=rfl;have n:nI [.n x,sg 58,g1]=1:=rfl;have a:nI [sg 59,g1]=0:=rfl;rw[nj,ah,ah,ah,n1,n,a];exact Fa this h
def Lv (D)(h:M9 D):nI (aQ D)<=15:=by have:=QT D.c;have:=RB D.t h.t;have:=Qo D.v h.v;rw[aQ,ah,ah];exact ba 0x1ed1040c648cd1065b3342196c6d0065b tq ‹_› ‹_› ‹_›
def kN (h:Br M):Lj M 60:=by
 have d:=wg M.d.t h.d.t;have c:=wg M.d.v h.d.v;have t:=h.d.t;have g:=h.d.v;have n1:=Lv M.d h.d;have n:=xp M.v;have a:=Ng M;have f:nI (bj M.i)<=1:=by
  match M.i with
  |none=>simp[AN,zH,zC,bN,ck,cj]
  |some (true,_)=>simp[AN,zH,zC,bN,ck,cj]
  |some (false,_)=>simp[AN,zH,zC,bN,ck,cj]
 match hp:M.p with
 |none=>have e:nI (fS none)=0:=rfl;rw[hp,e]at a;exact⟨by simp only[Oo,Ec,Pa,hp];exact aK 0xdc1c06840b6b19e6b193bb42196eed0065b tq d c,by simp only[D4,Og,hp];exact aK 0x78e0346d7840c1b5fa6b1921342396c4d00e5b tq t g,oN 0x4d9042d034626318c0079b134209042d0cb1b tq n a,oN 0x101c09bda30cb6168832d842d034626318c0069b134219042d04b1b tq n a f n1⟩
 |some p=>
  have o:=h.pp p hp;have i:=wg p.d.t o.d.t;have j:=wg p.d.v o.d.v;have s:=o.d.t;have m:=o.d.v;have k:=Lv p.d o.d;have v:=xp p.v1;have q:=xp p.v2;have l:nI (cu p.p)<=3:=by
   match p.p with
   |none=>simp[cu,bN,ck,cj]
   |some _=>simp[cu,bN,ck,cj]
  have b:=PG p;have e:nI (fS<|some p)=nI (vp p):=rfl;rw[hp,e,b]at a;simp only[nB]at a;exact⟨by simp only[Oo,Ec,Pa,Pd,hp];exact oN 0xdc1c312dac6048e6040b6b19e6b193bb46196eed1065bbb42196eed0065b tq d c i j,by simp only[D4,Og,hp];exact oN 0xf1c31306d7840c1b5fa6b1921346396c4d10e5b1342396c4d00e5b tq t g s m,a▸add_le_add (XN 1 _) n.1,a▸Yc (add_le_add (add_le_add_right (add_le_add (add_le_add f n1)<|add_le_add_right (add_le_add (add_le_add (Zo l 1) k)<|add_le_add (add_le_add_right v.2 1) q.2) 1) 1) n.2) (nl rfl)⟩
def aD (M:Md)(i:Nat):Nm:=(mm<|aP M).getD i [97]
def iG (h:Br M)(i):aD M i∈cK:=by
 unfold aD;refine aa (Yq) ?_;cases e:(mm<|aP M)[i]? with
 |none=>decide
 |some s=>exact h.nm s<|YQ e
def iO (M):Ag (aD M) (aP M) 0:=λj s e=>by unfold aD;rw[Yx,Yq,e];rfl
def Pw (A):∀(i:Nat),Ag w A i->um w (hE A i)=ji A:=by
 induction A with
 |nil=>intro i _;exact rfl
 |cons pr r b=>cases pr with
  |f k t=>intro i h;have:=b i h;simp only[jY,jZ,jN,ej,ec,fH,iJ,gN,nh,this]
  |n s=>
   intro i h;have a:=h 0 s rfl;have:=b (i+1) (λj s e=>by have:=h (j+1) s<|e;refine dG this ?_;congr 1;exact sz)
   rw[YZ]at a;simp only[jY,jZ,jN,ej,ec,fH,iJ,gN,nh,this,a]
def Tj (M):ci M (aD M)=ji (aP M):=Pw _ _<|iO M
def SU:∀x∈cK,x.length<=8:=by decide
theorem zW(h:∀i,w i∈cK):∀(A:List IL) (i:Nat),(um w<|hE A i).length<=(ji A).length+8*nI A
 | [],i=>by simp[jY,jZ,jN,ej,ec]
 | .f k t::r,i=>by have:=zW h r i;simp only[jY,jZ,jN,ej,ec,fH,iJ,gN,nh,bN,ck,cj,Xx];exact oN 0x686bc4063020648686bc4c0865b tq this
 | .n s::r,i=>by have:=zW h r<|i+1;have:=SU _<|h i;simp only[jY,jZ,jN,ej,ec,fH,iJ,gN,nh,bN,ck,cj,Xx];exact Gz 0x5a4621af1898c08192221af1b02196d0d0065b tq ‹_› ‹_›
def kg (h:Br M)(c:(ji<|aP M).length<=30000)(a:∀i,wd i∈cK):tM M wd:=by
 refine⟨a,?_⟩;have:=zW a (aP M) 0;have:=(kN h).m;have b:(ci M wd).length<=100000:=by unfold ci LM;exact ba 0x61a82209080e1227b003a98442196c486bc2c0065b tq ‹_› ‹_› ‹_›
 exact e6.mpr b
def FY (h:∀i,w i∈cK)(a:name∈cK)(t):∀i,g9 M w t name i∈cK:=λi=>by unfold g9 J9;split;exact a;exact h i
def Ry:∀c∈Pc,c<128:=by decide
def Rh:∀x∈cK,∀c∈x,c<128:=by decide
def NJ (b:∀i,w i∈cK)(h:D8 x=true):∀c∈nh w x,c<128:=by
 cases x with
 |m i=>exact Rh _<|b i
 |f k t=>
  simp only[D8]at h;simp only[nh];split at h
  ·simp only[Xv,YB,X5]at h
   intro c a;have:=h.2 c a;exact bC 0x201c09840e0065b tq this
  ·split at h
   ·have:t=uo:=by simpa using h
    clear h;subst this;decide
   ·split at h
    ·have:t=[49]:=by simpa using h
     clear h;subst this;decide
    ·split at h
     ·rw[YO]at h
      rcases h with h|h
      ·have:t=[58,61]:=by simpa using h
       clear h;subst this;decide
      ·split at h
       ·rename_i c
        intro q d;simp at d;subst d;exact Ry _<|aag.mp h
       ·exact eI h nt
     ·split at h
      ·simp only[Xv,YB]at h
       intro c a;exact AX<|h.1.2 c a
      ·exact eI h nt
def Rz (a:∀i,w i∈cK):∀{nx:Option PT},rh L nx=true->∀c∈um w L,c<128:=by
 induction L with
 |nil=>intro nx _ c h;cases h
 |cons x r d=>
  intro nx h c b;simp only[iQ,iD,Xv]at h;simp only[ej,ec]at b;rcases YE.1 b with z|z
  ·exact NJ a h.1.1 c z
  ·exact d h.2 c z
def vq (f:tM M w)(n):bx n (.s<|ci M w)=true:=by
 have h:=Rz f.nm<|gM M;have:(ci M w).all (λc=>decide (c<128))=true:=by rw[YB];intro c a;simpa using h c a
 cases n<;> simp only[gh,jp,jl,jb,f.short,this,ZL]
section
variable{M:Md}{wd wd':Nat->Nm}
def hU (F)(wd)(p)(i)(h:i<F.length):(mG<|dl wd p F).getD i (0,0)=(p (F[i]).1,(F[i]).2):=by simp[mG,dl,Yq,YN,XQ h]
def Fm (f:tM M wd)(A:tM M wd')(x:2<=nI (aP M)):un (dl wd (bK M wd) (SM M wd).f)=un (dl wd' (bK M wd') (SM M wd').f)↔(SM M wd').f=(SM M wd).f:=by
 have w:=d7 M wd;have r:=d7 M wd';have k:=qy M wd;have l:=qy M wd';revert w k;refine Uu ((SM M wd).f) λF C w k=>?_;generalize G:(SM M wd').f=F' at r l;have u:∀(i:Nat) (h:i<F.length) (B:i<F'.length),(F[i]).1=(F'[i]).1:=λi h B=>by have e:(F.map (·.1))[i]?=(F'.map (·.1))[i]?:=aa w<|aa r rfl;simp only[YN,XQ h,XQ B,Option.map_some,Zk]at e;exact e
 have p:∀(i:Nat) (h:i<F.length),(F[i]).1<nI (aP M):=λi h=>by have:=(cF M wd (F[i]).1).1 (by refine aa C ?_;exact Y7 (f:=(·.1))<|ZJ h);exact this
 have v:(F.map (·.1)).Nodup:=by refine dG C ?_;exact pi M wd
 have m:(mG<|dl wd (bK M wd) F).length=nI (aP M):=by simp[mG,k]
 have b:(mG<|dl wd' (bK M wd') F').length=nI (aP M):=by simp[mG,l]
 have E:jh (mG<|dl wd (bK M wd) F)=jh (mG<|dl wd' (bK M wd') F'):=by
  refine zw (aa m<|aa b rfl) (wo x m) λi j g D=>?_;have a:i<F.length:=vT g k m;have c:j<F.length:=vT D k m;have n:i<F'.length:=vT g l m;have o:j<F'.length:=vT D l m;simp only[hU F wd _ i a,hU F wd _ j c,hU F' wd' _ i n,hU F' wd' _ j o,<- u i a n,<- u j c o];simp only[d9];have y:=p i a;have z:=p j c;rcases lt_trichotomy (F[i]).1 (F[j]).1 with q|q|q
  ·have h1:=qO f q z
   have s:=qO A q z;simp only[Yy h1,Yy s,Bool.true_or]
  ·have t:i=j:=by have:=(List.getElem?_inj (l:=F.map (·.1)) (i:=i) (j:=j) (by simpa using a) v).1 (by simp[XQ a,XQ c,q]);exact this
   subst t;simp
  ·have h1:=qO f q y
   have s:=qO A q y;have n1:¬bK M wd (F[i]).1<bK M wd (F[j]).1:=by lia
   have H:¬bK M wd (F[i]).1=bK M wd (F[j]).1:=by lia
   have I:¬bK M wd' (F[i]).1<bK M wd' (F[j]).1:=by lia
   have J:¬bK M wd' (F[i]).1=bK M wd' (F[j]).1:=by lia
   simp only[Yt n1,Yt H,Yt I,Yt J,Bool.false_and]
 constructor
 ·intro h
  simp only[un,E]at h;have d:=i7 (mG<|dl wd' (bK M wd') F')<|wo x b;rw[b]at d;have d:=d;refine(List.ext_getElem (HX l k) λi h1 s=>?_);have g:i∈jh (mG<|dl wd' (bK M wd') F'):=d.mem_iff.2 (by simp;exact zQ h1 l);have:=List.map_inj_left.1 h i g;rw[hU F wd _ i ‹_›,hU F' wd' _ i ‹_›]at this;exact Prod.ext (u i ‹_› ‹_›).symm this.symm
 ·intro h
  subst h;simp only[un,E];refine YU λi g=>?_;have d:=i7 (mG<|dl wd' (bK M wd') F')<|wo x b;rw[b]at d;have:i<nI (aP M):=by simpa using d.mem_iff.1 g
  simp only[hU F' wd _ i<|yC this l,hU F' wd' _ i<|yC this l]
noncomputable def jm:List Ev->List Nm
 | []=>[]
 | .d _ k::r=>k::jm r
 |_::r=>jm r
theorem ii:jm []=[]:=rfl
theorem iA{i k r}:jm (Ev.d i k::r)=k::jm r:=rfl
theorem iq{i r}:jm (.u i::r)=jm r:=rfl
theorem iz{i r}:jm (.w i::r)=jm r:=rfl
theorem hY{r}:jm (.r::r)=jm r:=rfl
theorem hJ{r}:jm (.o::r)=jm r:=rfl
theorem hH{r}:jm (.c::r)=jm r:=rfl
theorem iy{i j r}:jm (.f i j::r)=jm r:=rfl
def kP:∀{S:PS},lx wd m S es->(S.run wd es).b=S.b++jm es:=by
 induction es with
 |nil=>intro S _;simp[ii,iA,iq,iz,hY,hJ,hH,iy]
 |cons e r a=>
  intro S h;simp only[ez,a h.2.2];cases e with
  |d i k=>
   obtain⟨s,ss,es⟩:∃s ss,S.a=s::ss:=by
    cases q:S.a with
    |nil=>exact Xw q h.1.p.ne
    |cons s ss=>exact⟨s,ss,rfl⟩
   simp only[PS.step,es];split<;> simp[ii,iA,iq,iz,hY,hJ,hH,iy]
  |w i=>simp only[PS.step];split<;> simp[ii,iA,iq,iz,hY,hJ,hH,iy,PS.add]
  |u i=>simp[PS.step,PS.add,ii,iA,iq,iz,hY,hJ,hH,iy]
  |r=>simp[PS.step,ii,iA,iq,iz,hY,hJ,hH,iy]
  |o=>simp[PS.step,ii,iA,iq,iz,hY,hJ,hH,iy]
  |c=>simp[PS.step,ii,iA,iq,iz,hY,hJ,hH,iy]
  |f i j=>simp[PS.step,PS.add,ii,iA,iq,iz,hY,hJ,hH,iy]
def xC (M)(wd wd'):(SM M wd).b=(SM M wd').b:=by simp only[SM,SM,kP<|sv (wd:=wd) M,kP<|sv (wd:=wd') M]
end
def Lj.mono (z:Lj M d)(h:d<=d'):Lj M d':=⟨z.s,XJ z.b h,z.a,z.m⟩
def Qs (A):∀(i p:Nat),Ag w A i->Ej w A i p=(jM A p).map (·.1):=by
 induction A with
 |nil=>intro i p _;exact rfl
 |cons pr r b=>cases pr with
  |f k t=>intro i p h;exact b i (p+t.length) h
  |n s=>
   intro i p h;have a:=h 0 s rfl;rw[YZ]at a;have:=b (i+1) (p+s.length) (λj x e=>by have:=h (j+1) x<|e;refine dG this ?_;congr 1;exact sz)
   simp[pU,dm,a,this]
noncomputable def AI(w a:Nat->Nm)(i j:Nat):Int:=((List.range' i j).map λk=>((w k).length:Int)-(a k).length).sum
def FF (A:List IL):∀(i p a j:Nat),j<nI A->(((Ej w' A i a).getD j 0:Nat):Int)=((Ej wd A i p).getD j 0:Nat)+((a:Int)-p)+AI w' wd i j:=by
 induction A with
 |nil=>intro i p a j h;exact Xw h<|aah _
 |cons x r b=>cases x with
  |f k t=>intro i p a j h;refine aa (vS (wd:=w'))<|aa (vS (wd:=wd))<|aa (b i (p+t.length) (a+t.length) j h) ?_;lia
  |n s=>intro i p a j h;cases j with
   |zero=>simp[pU,AI];lia
   |succ j=>simp only[pU (wd:=w'),pU (wd:=wd),getD_cons_succ,b (i+1) (p+(wd i).length) (a+(w' i).length) j<|Nat.lt_of_succ_lt_succ h];simp only[AI,abj,af,List.sum_cons];lia
def yt (M:Md)(w' wd:Nat->Nm)(h:j<nI (aP M)):bK M w' j=bK M wd j+AI w' wd 0 j:=by have:=FF (w':=w') (wd:=wd) (aP M) 0 0 0 j h;simp only[bK];lia
def Mu (M)(w)(h:j<nI (aP M)):0<bK M w j:=by obtain⟨r,a⟩:∃r,aP M=wW oK::r:=⟨_,rfl⟩;have o:=Be M w;unfold LM at o;rw[a]at o h;have:=rY r 0 6 (o:ot w (bK M w) (hE r 0) 6) j (X4 _) (by simpa [bN,ck,cj]using h);exact ZS (by decide) this
section
variable{M:Md}{wd:Nat->Nm}
def Bk (f:tM M wd)(h:s<nI (aP M)):lB (dl wd (bK M wd) (SM M wd).f) (bK M wd s)=cB s (SM M wd).f:=
 Fv rfl _ _ (pi M wd) ((cF M wd s).2 h) λx a e=>LO f ((cF M wd x.1).1<|Y7 (f:=(·.1)) a) h e
def Oj (f:tM M wd):lB (dl wd (bK M wd) (SM M wd).f) 0=-2:=
 HC λx h=>by have:=Mu M wd<|(cF M wd x.1).1<|Y7 (f:=(·.1)) h;exact Zs this
end
def L9:(∀x∈G,x.1∈F'.map (·.1))->wj (cZ G) (cZ F')=some (decide (∀x∈G,cB x.1 F'=x.2)):=by
 induction G with
 |nil=>intro _;simp[cZ,Bt]
 |cons x G i=>
  intro h;have i:=i λy b=>h y<|.tail _ b;have g:=lw<|h x<|.head _;simp[cZ,af]at i g⊢;simp only[Bt,J1,g,i,Option.map_some,cz];congr 1;by_cases e:x.2=cB x.1 F'
  ·simp[e]
  ·have a:¬cB x.1 F'=x.2:=λz=>e z.symm
   simp[e,a]
def Jf (c:F.map (·.1)=F'.map (·.1))(f:(F.map (·.1)).Nodup):(∀x∈F,cB x.1 F'=x.2)↔F'=F:=by
 constructor
 ·intro h
  refine List.ext_getElem (by have:=Xs List.length c;simpa using this.symm:F'.length=F.length) λi h1 d=>?_;have a:=h _<|ZJ d;have b:(F[i]).1=(F'[i]).1:=by have e:(F.map (·.1))[i]?=(F'.map (·.1))[i]?:=aa c rfl;simp only[YN,XQ d,XQ h1,Option.map_some,Zk]at e;exact e
  rw[b,(rz (i:=(F'[i]).1) (v:=(F'[i]).2) (by rw[<- c];exact f)<|ZJ h1)]at a;exact Prod.ext b.symm a
 ·rintro rfl x g
  exact rz f g
def Kh (c:H[a]?=some (.dI<|cZ F'))(d:H[b]?=some (.dI<|cZ F))(h:F.map (·.1)=F'.map (·.1))(e:(F.map (·.1)).Nodup):aY H .n (.r a) (.r b)=some (!decide (F'=F)):=by show(Ek H (.r a)<|.r b).map (!·)=_;rw[QH c d<|by rw[oR,oR];have:=Xs List.length h;simpa using this.symm];simp only[(L9 (F':=F) (G:=F') (λx f=>by refine aa h ?_;exact Y7 (f:=(·.1)) f)),Option.map_some];congr 2;refine decide_eq_decide.2 ?_;rw[Jf (F:=F') (F':=F) h.symm<|by refine dG h ?_;exact e];exact⟨Eq.symm,Eq.symm⟩
@[simp]theorem S6(h:k≠62):u9 d k v H=ae d k v H:=by simp only[u9,Xu h]
def Mb (h:ae d 48 [a,b,c] H=some (r,e)):u9 d 62 [a,b,c] H=some (.v<|gX r,e):=by simp only[u9,if_true,aE,br,h,Js]
def sO (d:bx 2 (.s a)=true)(f:bx 2 (.s b)=true):aY H .e (.t [.s a,.i p]) (.t [.s b,.i p])=some (decide (a=b))/\aY H .n (.t [.s a,.i p]) (.t [.s b,.i p])=some (!decide (a=b)):=by
 have h:∀x:Nm,bx 2 (.s x)=true->X8 3 [V.s x,.i p]=true:=λx c=>by simp only[gh,jp,jl,jb]at c;simp only[iX,ju,gh,jp,jl,jb,c,ZL]
 have e:Ek H (.t [.s a,.i p]) (.t [.s b,.i p])=some (decide (a=b)):=by refine(KO<|by rw[h a d,h b f];rfl).trans ?_;simp[show aac [V.s a,.i p] [V.s b,.i p]=some (decide (a=b)&&(decide (p=p)&&true))from rfl]
 exact⟨e,by show(Ek H _ _).map _=_;refine aa e ?_;rfl⟩
def Fp (f:bx 2 (.s a)=true)(g:bx 2 (.s b)=true):aY H .e (.t [.s [],.s a]) (.t [.s [],.s b])=some (decide (a=b))/\aY H .n (.t [.s [],.s a]) (.t [.s [],.s b])=some (!decide (a=b)):=by
 have h:∀x:Nm,bx 2 (.s x)=true->X8 3 [V.s [],.s x]=true:=λx c=>by simp only[gh,jp,jl,jb]at c;have d:bx 3 (.s [])=true:=rfl;simp only[iX,ju,d,gh,jp,jl,jb,c,ZL]
 have e:Ek H (.t [.s [],.s a]) (.t [.s [],.s b])=some (decide (a=b)):=by refine(KO<|by rw[h a f,h b g];rfl).trans ?_;simp[show aac [V.s [],.s a] [V.s [],.s b]=some (true&&(decide (a=b)&&true))from rfl]
 exact⟨e,by show(Ek H _ _).map _=_;refine aa e ?_;rfl⟩
def kA:List Nm:=[[97],[98],[99],[100],wZ,Kt,[73,70],[49,97],[],[120,95]]
noncomputable def DW:List Nm:=[[73,70],[49,97],[],[120,95]]
def vo:∀x∈kA,(x∈DW/\fO x=false)\/(x∉DW/\fO x=true/\x∈cK):=by decide
def Os:∀x∈cK,fO x=true:=by decide
def rM:bx 2 (.s Pb)=true/\bx 2 (.s Hn)=true/\bx 2 (.s b8)=true/\bx 2 (.s G1)=true/\bx 2 (.s kT)=true:=by decide
def ub (w:qk n m b a H)(x)(h:n<=H.length):qk n m b a<|H++x:=w.keep<|Kp.app x h
def Fh (w:qk n m c b H)(h:n<=a):qk a m c b H:=⟨XO w.lt h,w.g⟩
def Ru (w:Bj n m a H)(h:n<=b):Bj b m a H:=⟨XO w.lt h,w.g,w.b⟩
structure LS(M:Md)(H:Hp)(ma va wL a k:Nat):Prop where
 m:Bj H.length (jM (aP M) 0) ma H
 ev:H[va]?=some (.l<|(ky M).map kW)
 w:qk H.length (nI<|aP M) (aD M) wL H
 a:H[a]?=some (.dI<|cZ (SM M<|aD M).f)
 k:H[k]?=some (.l<|(SM M<|aD M).b.map V.s)
def LS.app {M:Md}{H:Hp}{b v d c ki:Nat}(s:LS M H b v d c ki)(x:Hp):LS M (H++x) b v d c ki:=
 ⟨Ru (s.m.app x)<|by simp,fi s.ev,Fh (ub s.w x<|XC _)<|by simp,fi s.a,fi s.k⟩
section
variable{M:Md}{d:Nat}
def vP (h:Br M)(g:(ji<|aP M).length<=30000)(c:60<=d)(f:tM M w)(i:∀x∈(SM M w).f,-1<=x.2/\x.2<(SM M w).b.length)(b:fO name=true->name∈cK)(H):
  ∃x,u9 (d+1) 62 [.s<|ci M w,.i place,.s name] H=some (.v<|gX<|sE M w place name,H++x):=by
 exact Xq (VS (d:=d) f ((kN h).mono c) i (place:=place) (name:=name) (λa=>⟨b a,λt=>(kg h g<|FY f.nm (b a) t).short⟩) H) λx e=>⟨x,Mb e⟩
def yM (M:Md){i:Nat}(a:i<nI (aP M)){Cx:Prop}(k:∀s,(jM (aP M) 0)[i]?=some ((jM (aP M) 0).getD i (0,[])|>.1,s)->(((jM (aP M) 0).getD i (0,[])).1:Int)=bK M (aD M) i->s=aD M i->Cx):Cx:=by
 have h:i<(jM (aP M) 0).length:=by rw[lP];exact a
 refine k (((jM (aP M) 0)[i]).2) (by simp[XQ h]) ?_ ?_
 ·unfold bK
  refine aa (Qs (aP M) 0 0<|iO M) ?_;simp[XQ h]
 ·have e:=F9 (aP M) 0
  have:(mm<|aP M)[i]?=some ((jM (aP M) 0)[i]).2:=by refine dG e<|aa (YN)<|aa (XQ h) ?_;rfl
  unfold aD;refine aa (Yq)<|aa this ?_;rfl
noncomputable def vI(f:Int->V)(v:V):V:=match v with | .i i=>f i|_=>.n
@[simp]theorem Oe(i)(f:Int->V):vI f (.i i)=f i:=rfl
def HJ (M)(o:s<nI (aP M))(f:tM M<|aD M):((List.range' 0<|nI<|aP M).map λ(i:Nat)=>V.i i).filterMap (λv=>eP v λi=>if bK M (aD M) i.toNat<bK M (aD M) s then xI i else none)=(List.range' 0 s).map λ(i:Nat)=>V.i i:=by
 have p:∀(n a:Nat),a+n<=nI (aP M)->a<=s->s<=a+n->((List.range' a n).map λ(i:Nat)=>V.i i).filterMap (λv=>eP v λi=>if bK M (aD M) i.toNat<bK M (aD M) s then xI i else none)=(List.range' a<|s-a).map λ(i:Nat)=>V.i i:=by
  intro n;induction n with
  |zero=>intro a h1 h j;have:s-a=0:=sub_eq_zero_of_le j;refine aa this ?_;rfl
  |succ n t=>
   intro a h1 h j;simp only[abj,af,Z7];by_cases e:a=s
   ·subst e
    have r:a-a=0:=sub_self _;have m:∀(k b:Nat),a<=b->b+k<=nI (aP M)->((List.range' b k).map λ(i:Nat)=>V.i i).filterMap (λv=>eP v λi=>if bK M (aD M) i.toNat<bK M (aD M) a then xI i else none)=[]:=by
     intro k;induction k with
     |zero=>intro b _ _;rfl
     |succ k g=>
      intro b u c;simp only[abj,af,Z7];have w:¬bK M (aD M) b<bK M (aD M) a:=by
       by_cases q:b=a
       ·clear h1 h j o r t g;subst q;exact Int.lt_irrefl _
       ·have:=qO f (j:=a) (k:=b) (Zt (kh u)<|X0 q)<|AY c;exact YI.mpr<|YK this
      simp only[cz,Y5,w,if_false];exact g (b+1) (Z3 ‹_›)<|wM c
    simp only[cz,Y5,(Int.lt_irrefl _:¬bK M (aD M) a<bK M (aD M) a),if_false,r];exact m n (a+1) (Xz _ _)<|wM h1
   ·have l:=qO f (j:=a) (k:=s) (Zt (kh h) e) o
    simp only[cz,Y5,l,if_true];simp only[t (a+1) (wM h1) (Zt (kh h) e)<|ba 0x416858c0482d1302c0065b tq j,show s-a=(s-(a+1))+1 from(Nat.succ_pred_eq_of_pos<|Nat.sub_pos_of_lt<|Zt (kh h) e).symm,abj,af]
 have:=p (nI<|aP M) 0 (bC 0x3592 tq) (bC 0x1b2 tq)<|aK 0x40d602410067b tq o;simpa using this
def IS (h:Br M)(k:(ji<|aP M).length<=30000)(l:s<nI (aP M))(m:t=cB s (SM M<|aD M).f)(n:0<=t)(p:(SM M<|aD M).b.getD t.toNat []≠b8)(q:name∈cK)
  (c:(SM M<|g9 M (aD M) t name).f=(SM M<|aD M).f) (g:(SM M<|g9 M (aD M) t name).t=0):
  sE M (g9 M (aD M) t name) (bK M (g9 M (aD M) t name) s) (aD M s)=.v (.s<|ci M<|aD M):=by
 refine Xq (EL<|iO M) λN r=>?_;have a:g9 M (g9 M (aD M) t name) t (aD M s)=aD M:=by
  funext i;unfold g9 J9;simp only[Xv,X5];by_cases b:i<nI (aP M)/\cB i (SM M<|aD M).f=t
  ·have o:i<nI (aP M)/\cB i (SM M<|g9 M (aD M) t name).f=t:=by refine aa c ?_;exact b
   have e:(SM M λi=>if i<nI (aP M)/\cB i (SM M<|aD M).f=t then name else aD M i).f=(SM M<|aD M).f:=by
    have:(λi=>if i<nI (aP M)/\cB i (SM M<|aD M).f=t then name else aD M i)=g9 M (aD M) t name:=by funext j;unfold g9 J9;simp only[Xv,X5]
    refine aa this ?_;exact c
   exact aa e<|aa (Xr b)<|(Jv r (jk<|(cF M (aD M) i).2 b.1) (jk<|(cF M (aD M) s).2 l) (aa b.2<|dG m rfl)<|by refine aa b.2 ?_;exact n).symm
  ·have e:(SM M λi=>if i<nI (aP M)/\cB i (SM M<|aD M).f=t then name else aD M i).f=(SM M<|aD M).f:=by
    have:(λi=>if i<nI (aP M)/\cB i (SM M<|aD M).f=t then name else aD M i)=g9 M (aD M) t name:=by funext j;unfold g9 J9;simp only[Xv,X5]
    refine aa this ?_;exact c
   exact aa e<|aa (Xu b)<|aa (Xu b) rfl
 have f1:=kg h k<|FY (M:=M) (iG h) q t;have f:lB (dl (g9 M (aD M) t name) (bK M<|g9 M (aD M) t name) (SM M<|g9 M (aD M) t name).f) (bK M (g9 M (aD M) t name) s)=t:=by refine aa (Bk f1 l)<|aa c ?_;exact m.symm
 unfold sE;simp only[f];rw[Xu<|by lia,Xu<|Zs ‹_›,xC M (g9 M (aD M) t name)<|aD M,Xu p,Os _<|iG h s,a];exact aa (Xu<|by trivial)<|aa (Xu<|by rw[((Fm f1 (kg h k<|iG h) (kN h).a).2 c.symm:un (dl (g9 M (aD M) t name) (bK M<|g9 M (aD M) t name) (SM M<|g9 M (aD M) t name).f)=un (dl (aD M) (bK M<|aD M) (SM M<|aD M).f)),g,(Qb (iO M) h.j)];simp) rfl
end
def Wn (c:Cl)(l:Lo)(H:Hp)(s:List MS):Prop:=∃a,XU c a4 l H s=some (.r<|.b true,a)
section
variable{cl:Cl}{l:Lo}{ss t f:List MS}
def kn (h:ai cl l e H=some (v,H1))(k:Wn cl (l.set i<|some v) H1 ss):Wn cl l H<|.s i e::ss:=by exact Xq k λa k=>⟨a,by rw[aW,tl,h];exact k⟩
def IA (h:ai cl l e H=some (.t vs,H1))(c:ZG l i vs=some a)(k:Wn cl a H1 ss):Wn cl l H<|.unp i e::ss:=by exact Xq k λb k=>⟨b,by rw[aW,show bw cl a4 l H (.unp i e)=some (.n a,H1)from Aq.trans<|(bI h).trans<|by show JV (ZG l i vs) H1=_;refine aa c ?_;rfl];exact k⟩
def yS (h:ai cl l c H=some (.b true,H1))(k:Wn cl l H1<|t++ss):Wn cl l H<|.i c t f::ss:=by refine Xq k λa k=>?_;rw[ip]at k;exact⟨a,by rw[aW,lc,h];exact k⟩
def re (h:ai cl l c H=some (.b false,H1))(k:Wn cl l H1<|f++ss):Wn cl l H<|.i c t f::ss:=by refine Xq k λa k=>?_;rw[ip]at k;exact⟨a,by rw[aW,lc,h];exact k⟩
def vd (h:ai cl l e H=some (.b true,H1)):Wn cl l H<|.r e::ss:=⟨H1,by rw[aW,nP,h];rfl⟩
end
section
variable{X7:Nat}
def S9 (s:LS M H r u w m p)(a:nI (aP M)<=63)(k:cX l [8,2,14,7]=[xR m,xS name,xI t,xR w])(j:gv l 7=xR w):
  ai (u9 61) l (.D (.e (.q .e (.t (.v 1)<|.v 0)<|.v 3) (.v 2)<|.t (.v 4)<|.v 0) (.n<|.v 7) [8,2,14,7]) H=some (.r H.length,H++[.l<|((List.range<|nI<|aP M).map<|g9 M (aD M) t name).map V.s]):=by
 have b:eu H (.r w)=some ((nI (aP M):Nat):Int):=by refine En s.w.g λy g1 g n o=>?_;have:=bA g1 (by simp;lia);simpa [g]using this
 refine(xK (k:=((nI (aP M):Nat):Int)) (vI λi=>.s<|g9 M (aD M) t name i.toNat) (by simp[j,b]) (YD _) ((YL (n:=1000000)).mpr<|ER a) (λv c=>?_)<|by rw[lZ];exact XJ a<|nl rfl).trans ?_
 ·rw[Y5,show(0:Int)=((0:Nat):Int)from rfl,dk]at c
  refine ag (Yp.1 c) λi d f=>?_;clear c;subst f;rw[ZA]at d;have h:i<nI (aP M):=aK 0x104c206b0019800d04b1b tq d;have g1:getItem H (.r m) (.i<|i)=xI (cB i (SM M<|aD M).f):=by simp[Mi s.a];exact lw<|(cF M (aD M) i).2 h
  have g:=s.w.item h;have e:g9 M (aD M) t name i=if cB i (SM M<|aD M).f=t then name else aD M i:=by unfold g9 J9;simp only[Yy h,Bool.true_and,X5]
  refine aa k ?_;simp only[Oe,Y5,e];by_cases q:cB i (SM M<|aD M).f=t
  ·refine aa (Xr q) ?_
   rw[q]at g1;simp[g1]
  ·refine aa (Xu q) ?_
   simp[g1,q,g]
 ·simp only[Y5,show(0:Int)=((0:Nat):Int)from rfl,dk,Y9,Y9,List.range_eq_range']
  refine Xs (λx=>some (V.r H.length,H++[AO.l x]))<|YU λi _=>?_;simp
def TZ (s:LS M H m y z u t)(f:tM M<|aD M)(k:X7<nI (aP M))(h:nI (aP M)<=63)(j:cX l [5,12]=[xR m,xI<|bK M (aD M) X7])(d:gv l 5=xR m):
  ai (u9 61) l (.F (.v 0) (.n<|.v 5) (.q .l (.t (.t (.v 1)<|.v 0)<|.i 0)<|.v 2) [5,12]) H=some (.r H.length,H++[.l<|(List.range' 0 X7).map λ(i:Nat)=>V.i i]):=by
 have r:nW 2 0=some 0:=rfl;refine(zh (k:=((nI (aP M):Nat):Int)) (λv=>eP v λi=>if bK M (aD M) i.toNat<bK M (aD M) X7 then xI i else none) (by have:=s.m.len;rw[lP]at this;simp[d,this]) (YD _) ((YL (n:=1000000)).mpr<|ER h) (λv a=>?_)<|by rw[lZ];exact XJ h<|nl rfl).trans ?_
 ·rw[Y5,show(0:Int)=((0:Nat):Int)from rfl,dk]at a
  refine cps λC n=>ag (Yp.1 a) λi c e=>?_;clear a;subst e;rw[ZA]at c;refine yM M (by exact aK 0x104c206b0019800d04b1b tq c:i<nI (aP M)) λp o b w=>?_;have g1:=s.m.item o;generalize((jM (aP M) 0).getD i (0,[])).1=pp at g1 b;have g:getItem H (.t [.i (pp:Int),.s p]) (.i 0)=xI (pp:Int):=rfl;refine n<|aa j ?_;simp only[cz,Y5];by_cases q:bK M (aD M) i<bK M (aD M) X7
  ·refine aa (Xr q) ?_
   rw[<- b]at q;simp[g1,g,q]
  ·refine aa (Xu q) ?_
   rw[<- b]at q;simp[g1,g,q]
 ·simp only[Y5,show(0:Int)=((0:Nat):Int)from rfl,dk]
  exact Xs (λx=>some (V.r H.length,H++[AO.l x]))<|HJ M k f
def Tt (s:LS M H E G B F D)(w:qk H.length (nI<|aP M) c C H)(g:H[n]?=some (.l<|(List.range' 0 X7).map λ(i:Nat)=>V.i i))(f0:tM M<|aD M)(f1:tM M c)(j:X7<nI (aP M))(a:nI (aP M)<=63)(u:cX l [15,7]=[xR C,xR B])(t:gv l 18=xR n):
  ∃x,ai (u9 61) l (.u<|.C (.o .s (.n<|.t (.v 1)<|.v 0)<|.n<|.t (.v 2)<|.v 0) (.v 18) [15,7]) H=some (.i<|AI c (aD M) 0 X7,H++x):=by
 have b:∀{x:Nm},x∈cK->eu H (.s x)=some (x.length:Int):=λ{x} y=>by
  have:sh x=true:=by have:=SU x y;exact e6.mpr<|XJ ‹_›<|nl rfl
  simp only[eu,this,if_true,b9]
 have m:=nX (cl:=u9 61) (l:=l) (H:=H) (elt:=.o .s (.n<|.t (.v 1)<|.v 0)<|.n<|.t (.v 2)<|.v 0) (src:=.v 18) (caps:=[15,7]) (a:=n) (vs:=(List.range' 0 X7).map λ(i:Nat)=>V.i i)
  (vI λi=>.i<|((c i.toNat).length:Int)-(aD M i.toNat).length) (by simp[t]) g (by simp;exact GF j a) (λv p=>by refine ag (Yp.1 p) λi f e=>?_;clear p;subst e;rw[ZA]at f;have h:i<nI (aP M):=ba 0x20984419ec406b0019800d04b1b tq f j;have g1:=w.item h;have r:=s.w.item h;have z:=b<|f1.nm i;have A:=b<|f0.nm i;refine aa u ?_;simp[g1,r,z,A])
 have d:((List.range' 0 X7).map λ(i:Nat)=>V.i i).map (vI λi=>V.i<|((c i.toNat).length:Int)-(aD M i.toNat).length)=((List.range' 0 X7).map λk=>((c k).length:Int)-(aD M k).length).map V.i:=by simp only[Y9,Y9];refine YU λi _=>?_;simp
 rw[d]at m;exact⟨_,Hz m (bg _ _) (by simp;exact GF j a) (λq o=>by refine ag (Yp.1 o) λi f e=>?_;clear o;subst e;have:=SU _<|f1.nm i;have:=SU _<|f0.nm i;exact js (by lia)<|by lia)⟩
def T0 (h:Br M)(E:(ji<|aP M).length<=30000)(s:LS M H v I N G Y)(f1:tM M wd)(w:qk H.length (nI<|aP M) wd m H)(d:X7<nI (aP M))(R:∀x∈(SM M wd).f,-1<=x.2/\x.2<(SM M wd).b.length)
  (P:sE M wd (bK M wd X7) (aD M X7)=.v (.s<|ci M<|aD M)):
  Wn (u9 61) [W,X,xS name,xI r,xS<|ci M<|aD M,xR v,xR I,xR N,xR G,xR T,xI 0,xI (X7:Int),xI<|bK M (aD M) X7,some<|.t [.s [],.s<|ci M wd],xI t,xR m,xR S,none,none,none] H (YG.body.drop 17):=by
 have f0:=kg h E<|iG h;have z:=kN h;have k:nI (aP M)<=63:=Y2 z.m;obtain⟨g,C⟩:=VW (A:=aP M) (d:=60) (wd:=aD M) (src:=ci M<|aD M) s.m w rfl rfl z.a z.m rfl f0.short f1.short (λj s Q=>by have:=iO M j s Q;rw[Yx]at this;exact this) (λs d=>by refine dJ (u7 s<|h.nm s d) λc t e _=>aa e ?_;exact List.cons_ne_nil _ _)
 have C:ae (60+1) 63 [V.s<|ci M<|aD M,V.r v,V.r m] H=some (.v<|.s<|ci M wd,H++g):=C;refine kn (v:=.s<|ci M wd) (H1:=H++g) (hG λf=>f _ _ C) ?_;have y:=s.app g;have J:qk (H++g).length (nI<|aP M) wd m<|H++g:=Fh (ub w g<|XC _) (by simp);generalize H++g=a at y J;have l:=vq f1 2;have cs:=(Fp (H:=a) l l).2;rw[Yy rfl]at cs;have F:=jR (a:=r) (b:=2) (by decide) (by decide);refine re (H1:=a) (hG λf=>f _ cs) ?_;by_cases b:r % 2=1
 ·exact yS (H1:=a) (hG λf=>f _ F _<|kj rfl b)<|vd rfl
 refine re (H1:=a) (hG λf=>f _ F _<|fw rfl b)<|kn (TZ y f0 d k rfl rfl) ?_;have A:=y.app [AO.l<|(List.range' 0 X7).map λ(i:Nat)=>V.i i];have L:qk (a++[AO.l<|(List.range' 0 X7).map λ(i:Nat)=>V.i i]).length (nI<|aP M) wd m<|a++[AO.l<|(List.range' 0 X7).map λ(i:Nat)=>V.i i]:=Fh (ub J _<|XC _) (by simp);have D:(a++[AO.l<|(List.range' 0 X7).map λ(i:Nat)=>V.i i])[a.length]?=some (.l<|(List.range' 0 X7).map λ(i:Nat)=>V.i i):=bg _ _;generalize a++[AO.l<|(List.range' 0 X7).map λ(i:Nat)=>V.i i]=o at A L D;refine Xq (Tt (l:=[W,X,xS name,xI r,xS<|ci M<|aD M,xR v,xR I,xR N,xR G,xR T,xI 0,xI (X7:Int),xI<|bK M (aD M) X7,some<|.t [.s [],.s<|ci M wd],xI t,xR m,xR S,xS<|ci M wd,xR a.length,none]) A L D f0 f1 d k rfl rfl) λn U=>kn (v:=.i<|bK M (aD M) X7+AI wd (aD M) 0 X7) (H1:=o++n) (by simp[U])<|Xq (vP (d:=60) h E (nl rfl) f1 R (place:=bK M (aD M) X7+AI wd (aD M) 0 X7) (name:=aD M X7) (λ_=>iG h X7)<|o++n) λO B=>?_;rw[<- yt M wd (aD M) d,P]at B;have u:=(A.app n).w.item d;have p:=vq f0 2;have q:=(Fp (H:=o++n++O) p p).1;rw[Yy rfl]at q;refine dG (yt M wd (aD M) d) ?_;generalize o++n++O=H6 at B q;exact vd (H1:=H6) (by simp[u,B,gX,q])
def Uo (h:Br M)(p:(ji<|aP M).length<=30000)(s:LS M H S X Y T R)(B:name∈cK)(E:X7<nI (aP M))(O:t=cB X7 (SM M<|aD M).f)(u:0<=t)(n:(SM M<|aD M).b.getD t.toNat []≠b8)
  (a:W=(if un (dl (aD M) (bK M<|aD M) (SM M<|aD M).f)≠un (dl (g9 M (aD M) t name) (bK M<|g9 M (aD M) t name) (SM M<|g9 M (aD M) t name).f)\/(SM M<|g9 M (aD M) t name).t>(SM M<|aD M).t then .e (.s kT) (.i<|bK M (aD M) X7)else .v<|.s<|ci M<|g9 M (aD M) t name)):
  Wn (u9 61) [v0,v1,xS name,xI ch,xS<|ci M<|aD M,xR S,xR X,xR Y,xR T,xR R,xI tw,xI (X7:Int),xI<|bK M (aD M) X7,some<|gX W,xI t,none,none,none,none,none] H (YG.body.drop 14):=by
 have f0:=kg h p<|iG h;have z:=kN h;have l:nI (aP M)<=63:=Y2 z.m;have f1:tM M<|g9 M (aD M) t name:=kg h p<|FY (M:=M) (iG h) B t;have D:=IS h p E O u n B;refine kn (S9 s l rfl rfl) ?_;generalize g9 M (aD M) t name=w' at a f1 D;have r:=s.app [AO.l<|((List.range<|nI<|aP M).map w').map V.s];have w:qk (H++[AO.l<|((List.range<|nI<|aP M).map w').map V.s]).length (nI<|aP M) w' H.length<|H++[AO.l<|((List.range<|nI<|aP M).map w').map V.s]:=by refine⟨by simp,(List.range<|nI<|aP M).map w',bg _ _,by simp,bC 0xe11c0907ee0065b tq l,λi L=>?_⟩;simp[Yq,YN,List.getElem?_range L]
 revert r w;refine UE (H++[AO.l<|((List.range<|nI<|aP M).map w').map V.s]) λj r w=>cps λC y=>Vn (d:=60) (wd:=w') (m:=nI<|aP M) (nl rfl) r.ev w (sv M) (by have:=GL M;exact aK 0xc81c0907ee0865b3342c0065b tq this l) λm I G U=>?_;rw[show Yz.run w' (ky M)=SM M w' from rfl]at I G U;have A:=r.app m;have J:qk (j++m).length (nI<|aP M) w' H.length<|j++m:=Fh (ub w m<|XC _) (by simp);have g:=Fm (M:=M) f0 f1 z.a;rw[Qb (iO M) h.j]at a;have a:=a;have f:=Kh G A.a ((d7 M<|aD M).trans (d7 M w').symm)<|pi M<|aD M;refine y<|IA (vs:=[.r<|j.length+3,.r<|j.length+4,.i (SM M w').t]) (H1:=j++m) (hG λQ=>Q _ _ I) rfl ?_;generalize j++m=H2 at A J f;generalize j.length+3=oa at f;by_cases c:(SM M w').f=(SM M<|aD M).f/\(SM M w').t=0
 ·refine XG (λb k=>?_) c
  rw[Xu<|by refine aa (g.2 b)<|aa k ?_;simp]at a;rw[Yy b]at f;exact aa a<|aa k<|re (H1:=H2) (by simp[f])<|Xq (EL<|iO M) λN P=>T0 h p A f1 J E (λx F=>by refine aa (xC M w'<|aD M) ?_;rw[b]at F;exact n8 P x F)<|D b k
 ·have d:un (dl (aD M) (bK M<|aD M) (SM M<|aD M).f)≠un (dl w' (bK M w') (SM M w').f)\/(SM M w').t>0:=by
   by_cases q:(SM M w').f=(SM M<|aD M).f
   ·exact .inr<|Nat.pos_of_ne_zero λz=>c ⟨q,z⟩
   ·exact .inl λz=>q<|g.1 z
  rw[Xr d]at a;have a:=a;refine cps λC y=>bW rM λxp1 xp2 xp3 xp4 o=>?_;have e:=(sO (H:=H2) (p:=bK M (aD M) X7) o o).1;rw[Yy rfl]at e;unfold kT at e a;refine y (aa a<|yS (H1:=H2) ?_<|vd (H1:=H2)<|by simp[gX,e]);by_cases q:(SM M w').f=(SM M<|aD M).f
  ·rw[Yy q]at f
   have v:0<(SM M w').t:=Nat.pos_of_ne_zero λz=>c ⟨q,z⟩;simp[f,v]
  ·rw[Yt q]at f
   simp[f]
def RN:∀a:List Ev,(jm a).length<=a.length:=by
 intro a;induction a with
 |nil=>exact XC _
 |cons e r b=>cases e with |d i k=>exact aa8 b|_=>exact Z3 b
def Ua (h:Br M)(w:(ji<|aP M).length<=30000)(s:LS M H E G I F D)(g:name∈kA)(r:X7<nI (aP M))(u:t=cB X7 (SM M<|aD M).f):
  Wn (u9 61) [Q,R,xS name,xI O,xS<|ci M<|aD M,xR E,xR G,xR I,xR F,xR D,xI P,xI (X7:Int),xI<|bK M (aD M) X7,some<|gX<|sE M (aD M) (bK M (aD M) X7) name,xI t,none,none,none,none,none] H (YG.body.drop 11):=by
 have f0:=kg h w<|iG h;have z:=kN h;refine Xq (EL<|iO M) λN C=>bW rM λJ x m n L=>?_;have f:=n8 C _<|jk<|(cF M (aD M) X7).2 r;rw[<- u]at f;obtain⟨q,f⟩:-1<=t/\t<(SM M<|aD M).b.length:=f;have v:lB (dl (aD M) (bK M<|aD M) (SM M<|aD M).f) (bK M (aD M) X7)=t:=by refine aa (Bk f0 r) ?_;exact u.symm
 obtain⟨y,a⟩:∃y,y=sE M (aD M) (bK M (aD M) X7) name:=⟨_,rfl⟩;refine dG a ?_;unfold sE at a;simp only[v]at a;have a:=a;rw[Xu<|Zs ‹_›]at a;have a:=a;by_cases c:t=-1
 ·rw[Xr c]at a
  have a:=a;have e:=(sO (H:=H) (p:=bK M (aD M) X7) x x).1;unfold Hn at e a;have e:=e;have a:=a;exact yS (H1:=H) (hG λj=>j _<|kj rfl c) (vd (H1:=H)<|by simp[a,gX,e])
 refine re (H1:=H) (hG λj=>j _<|fw rfl c) ?_;rw[Xu c]at a;have a:=a;have l:0<=t:=Int.lt_iff_le_and_ne.mpr ⟨q,X0 c⟩;have k:=uB s.k l f (by
  have B:(SM M<|aD M).b=jm (ky M):=by rw[SM,kP (wd:=aD M)<|sv (wd:=aD M) M];rfl
  have:=RN<|ky M;have:=GL M;have:=z.m;refine aa B ?_;exact XJ ‹_›<|XJ ‹_›<|bC 0x708e3340c9080e0067b tq this)
 by_cases b:(SM M<|aD M).b.getD t.toNat []=b8
 ·rw[Xr b]at a
  rw[b]at k;have e:=(sO (H:=H) (p:=bK M (aD M) X7) m m).1;unfold b8 at e a k;exact yS (H1:=H) (by simp[k]) (vd (H1:=H)<|by simp[a,gX,e])
 rw[Xu b]at a;have i:¬(SM M<|aD M).b.getD t.toNat []=[105,109,112,111,114,116]:=b;refine re (H1:=H) (by generalize(SM M<|aD M).b.getD t.toNat []=kk at k i;simp[k,i]) ?_;have d:fX H (.s name) (.t [.s [73,70],.s [49,97],.s [],.s [120,95]])=some (DW.contains name):=da name DW;rcases vo name g with⟨o,p⟩|⟨o,p,A⟩
 ·rw[Xr p]at a
  have a:=a;rw[show DW.contains name=true by simpa using o]at d;have e:=(sO (H:=H) (p:=bK M (aD M) X7) n n).1;unfold G1 at e a;exact yS (H1:=H) (hG λj=>j _ d) (vd (H1:=H)<|by simp[a,gX,e])
 ·rw[show DW.contains name=false by simpa using o]at d
  rw[Xu<|by refine aa p ?_;simp]at a;exact re (H1:=H) (hG λj=>j _ d)<|Uo h w s A r u l b a
end
section
variable{M:Md}{name:Nm}{pa ma va wL me ki:Nat}{ch tw:Int}{H:Hp}
def Qy (h:Br M)(f:(ji<|aP M).length<=30000)(e:name∈kA)(s:LS M H ma va wL me ki):
  Wn (u9 61) [xR 0,xR pa,xS name,xI ch,xS<|ci M<|aD M,xR ma,xR va,xR wL,xR me,xR ki,xI tw,none,none,none,none,none,none,none,none,none] H (YG.body.drop 7):=by
 have z:=kN h;have p:=z.a;have d:(0:Int)<((nI (aP M):Nat):Int):=Z2.mpr<|XO (nl rfl) p;have m:=jR (a:=ch) (b:=((nI (aP M):Nat):Int)) d<|(YL (n:=1000000)).mpr<|zj z.m;obtain⟨a,b⟩:∃a:Nat,(a:Int)=ch %((nI (aP M):Nat):Int):=⟨(ch %((nI (aP M):Nat):Int)).toNat,ZO<|aaf ch<|Zs d⟩;rw[<- b]at m;refine kn (v:=.i (a:Int)) (H1:=H) (hG λj=>j _ (by have:=s.m.len;rw[lP]at this;exact this) _ m)<|cps λC o=>?_;have g:a<nI (aP M):=Yi.mp<|b▸Z5 ch d;refine yM M g λt r q v=>?_;have g1:=s.m.item r;generalize((jM (aP M) 0).getD a (0,[])).1=pp at g1 q;refine o<|kn (v:=.i<|bK M (aD M) a) (H1:=H) (hG λj=>j _ g1 _ (by refine dG q ?_;simp[getItem,(by decide:nW 2 0=some 0)]:getItem H (.t [.i (pp:Int),.s t]) (.i 0)=xI (bK M (aD M) a))) ?_;refine Xq (EL<|iO M) λN n=>?_;obtain⟨x,k⟩:=vP (d:=60) h f (by decide) (kg h f<|iG h) (n8 n) (place:=bK M (aD M) a) (name:=name) (λc=>by
  rcases vo name e with⟨_,u⟩|⟨_,_,u⟩
  ·rw[u]at c;exact eI c nt
  ·exact u) H
 refine kn (v:=gX<|sE M (aD M) (bK M (aD M) a) name) (H1:=H++x) (hG λj=>j _ _ k) ?_;have i:=s.app x;generalize H++x=H8 at i;have l:getItem H8 (.r me) (.i (a:Int))=xI (cB a (SM M<|aD M).f):=by simp[Mi i.a];exact lw<|(cF M (aD M) a).2 g
 exact kn (v:=.i<|cB a (SM M<|aD M).f) (H1:=H8) (hG λj=>j _ l)<|Ua h f i e g rfl
def TI (h:Br M)(b:(ji<|aP M).length<=30000)(a:name∈kA)(s:LS M H ma va wL me ki):
  Wn (u9 61) [xR 0,xR pa,xS name,xI ch,xS<|ci M<|aD M,xR ma,xR va,xR wL,xR me,xR ki,xI tw,none,none,none,none,none,none,none,none,none] H (YG.body.drop 6):=by
 have m:=jR (a:=ch) (b:=4) (by decide) (by decide);by_cases c:ch % 4=0
 ·have f0:=kg h b<|iG h
  refine Xq (EL<|iO M) λN i=>Xq (vP (d:=60) h b (by decide) f0 (n8 i) (place:=0) (name:=wZ) (λ_=>by decide) H) λx e=>?_;have f:sE M (aD M) 0 wZ=.e (.s Pb) (.i 0):=by unfold sE;simp[Oj f0]
  rw[f]at e;have d:=(sO (H:=H++x) (p:=0) rM.1 rM.1).2;unfold Pb at d e;exact re (H1:=H++x) (by simp[m,c,e,gX,d])<|Qy h b a<|s.app x
 ·exact re (H1:=H) (by simp[m,c])<|Qy h b a s
def SY (h:Br M)(q:(ji<|aP M).length<=30000)(c:name∈kA)(d:H[ma]?=some (.l<|(jM (aP M) 0).map λp=>V.t [.i p.1,.s p.2]))(l:H[va]?=some (.l<|(ky M).map kW)):
  Wn (u9 61) [xR 0,xR pa,xS name,xI ch,xS<|ci M<|aD M,xR ma,xR va,none,none,none,none,none,none,none,none,none,none,none,none,none] H (YG.body.drop 4):=by
 have m:=(kN h).m;have b:(jM (aP M) 0).length=nI (aP M):=lP _ _;have f:=nX (cl:=u9 61) (l:=[xR 0,xR pa,xS name,xI ch,xS<|ci M<|aD M,xR ma,xR va,none,none,none,none,none,none,none,none,none,none,none,none,none]) (H:=H)
  (elt:=.t (.v 0)<|.i 1) (src:=.v 5) (caps:=[]) (a:=ma) (vs:=(jM (aP M) 0).map λp=>V.t [.i p.1,.s p.2]) Ss (by simp) d (by rw[XM];exact Gb b m) (λv g=>by refine ag (Yp.1 g) λp t n=>?_;clear g;subst n;simp[cX,getItem,(by decide:nW 2 1=some 1)])
 have eW:((jM (aP M) 0).map λp=>V.t [.i p.1,.s p.2]).map Ss=(mm<|aP M).map V.s:=by simp only[<- F9 (aP M) 0,Y9,Y9];refine YU λi _=>?_;simp
 rw[eW]at f;refine kn f ?_;have a:Bj (H++[AO.l<|(mm<|aP M).map V.s]).length (jM (aP M) 0) ma<|H++[AO.l<|(mm<|aP M).map V.s]:=⟨by simp;have:=xg d;exact aK 0x5a1602610067b tq this,fi d,b▸YR (YC m<|nl rfl)⟩;have e:=fi (r:=[AO.l<|(mm<|aP M).map V.s]) l;have w:qk (H++[AO.l<|(mm<|aP M).map V.s]).length (nI<|aP M) (aD M) H.length<|H++[AO.l<|(mm<|aP M).map V.s]:=⟨by simp,mm<|aP M,bg _ _,ru _,bC 0xe11c09080e0067b tq m,λi o=>by
  unfold aD;have:i<(mm<|aP M).length:=by rw[ru];exact o
  simp[Yq,XQ this]⟩
 generalize H++[AO.l<|(mm<|aP M).map V.s]=H5 at a e w;refine Vn (d:=60) (wd:=aD M) (m:=nI<|aP M) (by decide) e w (sv M) (by have:=GL M;exact aK 0xc81c09080e0867b3342c0065b tq this m) λx r j k=>?_;rw[show Yz.run (aD M) (ky M)=SM M (aD M)from rfl]at r j k;exact IA (vs:=[.r<|H5.length+3,.r<|H5.length+4,.i (SM M<|aD M).t]) (H1:=H5++x) (hG λs=>s _ _ r) rfl (TI h q c ⟨Ru (a.app _)<|by simp,fi e,Fh (ub w _<|XC _)<|by simp,j,k⟩)
end
def Kv (v)(k:v.length<=63):∃w,wr 60 v=some (.r<|.b true,w):=by
 refine cps λC O=>WY (d:=60) k λH R p A i=>?_;have u:(H++[AO.l<|kA.map V.s])[H.length]?=some (.l<|kA.map V.s):=bg _ _;have b:p<H.length:=by refine dJ i.f λt l q _=>?_;exact xg q
 refine NA (d:=61) (w:=10) (i.app [.l<|kA.map V.s]) (by decide) (by decide) (by decide) λx f B D E F G=>?_;obtain⟨n,rfl⟩:∃n:Nat,x=(n:Int):=⟨x.toNat,(ZO D).symm⟩;have a:n<kA.length:=Yi.mp E;have g:getItem f (.r H.length) (.i (n:Int))=xS (kA[n]'a):=getL ((G.lo _ (XB<|YC i.o b) (XB b)<|xg u).trans u:f[H.length]?=some (.l<|kA.map V.s)) (by decide) (by simp);have e:=ZJ a;generalize kA[n]'a=name at g e;refine NA (d:=61) (w:=840) F (by decide) (by decide) (by decide) λI y c m o d r=>?_;obtain⟨M,z,P,Q,s,J,L,h,N⟩:=VO (d:=61) d (by decide);rw[<- Tj M]at s;exact O<|kn (v:=.r p) (H1:=H) (hG λj=>j _ _ A)<|kn (v:=.s name) (H1:=f) (hG λj=>j _ _ (B:ae 61 50 [.r p,.i 10] (H++[AO.l [.s [97],.s [98],.s [99],.s [100],.s [102,114,101,115,104],.s [65,66,83],.s [73,70],.s [49,97],.s [],.s [120,95]]])=some (.v<|.i (n:Int),f)) _ g)<|kn (v:=.i I) (H1:=y) (hG λj=>j _ _ c)<|IA (vs:=[.s<|ci M<|aD M,.r P,.r Q]) (H1:=z) (hG λj=>j _ _ s) rfl (SY h N e J L)
def law_ok:∀n:List Int,n.length<=63->∃d H,d<=100/\wr d n=some (.r<|.b true,H):=λn h=>by exact Xq (Kv n h) λH e=>⟨60,H,by decide,e⟩
end Mine
end
section
open PySem PySem.W PySem.Calls PyProof.Rows
namespace Mine
noncomputable def mr(o:Thread->Bool)(a:SharedT->Thread->Option (SharedT×Thread)):Nat->SharedT->Thread->Option SharedT
 |0,_,_=>none
 |n+1,s,t=>match through t with
  |true=>some s
  |false=>match o t with
   |false=>none
   |true=>match a s t with
    |some (b,c)=>mr o a n b c
    |none=>none
theorem zD{o s z a}:mr o s 0 z a=none:=rfl
theorem tS{o s a z n}:mr o s n.succ a z=
 match PySem.W.through z with
 |true=>some a
 |false=>
  match o z with
  |false=>none
  |true=>
   match s a z with
   |some (b,t)=>mr o s n b t
   |none=>none:=rfl
def Qn (P:Params):BT:=[boot_o_0 P,boot_o_1 P,boot_o_2 P,boot_o_3 P,boot_o_4 P,boot_o_5 P,boot_o_6 P,boot_o_7 P,boot_o_8 P,boot_o_9 P,boot_o_10 P].zipIdx.foldl (λt x=>t.ins x.2 x.1) BT.nil
def sT (w:World)(o:OsState):SharedT:=⟨Qn w.params,11,(boot_heap w.params).life,#[],boot_drawn,boot_toks,o⟩
def LX (N:Nat)(w:World)(o:OsState):Option SharedT:=mr (PySem.W.Fast.tw6613529449190102663 11<|some<|.ref 6) (PySem.W.Fast.tw10156331382660048174 (PySem.W.Fast.tw11892475500146522536 PySem.W.Fast.tw14364793385576792824) PySem.Challenge.pw_pq0764_01 w) N (sT w o)<|topStub PySem.Challenge.pw_pq0764_01
def tr:List Str:=[Str.ofString "YardError","FormatError","SourceItem",Str.ofString "Occurrence",Str.ofString "NameWalk"]++(Ch.filter λp=>p.1 !=64).map (·.2)
noncomputable def qv:Program:=view PySem.Challenge.pw_pq0764_01 [48]
noncomputable def Hj:List Str:=importedModules PySem.Challenge.pw_pq0764_01.main.body
def KR (P:Params)(s:Shared):Bool:=staticsOk Hj (boot_heap P) s.heap&&namesBound PySem.Challenge.pw_pq0764_01 s.heap&&gensDone s&&laidKept (boot_heap P) s.heap
def RM (s):=openSeen qv tr Hj (λs=>recOk [] s) true s
def xF (s:Shared):List<|Option Obj:=Vr.map s.heap.get?
def Hi (w:World)(o:OsState):(LX 3400 w o).map (λt=>(KR w.params t.abs,RM t.abs,xF t.abs))=some (true,openGood qv tr,(K0 w.params).map λp=>some p.2):=by kernel_rfl
theorem oZ:∀(n:Nat) (s d:SharedT) (t:Thread),mr (stepOk a ann) (PySem.W.stepT (denote e) p w) n s t=some d->topRun e p w a ann n s.abs t=some d.abs
 |0,_,_,_,h=>by simp[zD,tS]at h
 |n+1,s,d,t,h=>by
  rw[tS]at h;unfold topRun;cases ht:through t with
  |true=>rw[ht]at h;cases h;rfl
  |false=>
   rw[ht]at h;have h:=h;cases hk:stepOk a ann t with
   |false=>rw[hk]at h;exact cE h nt
   |true=>
    rw[hk]at h;have h:=h;cases hs:PySem.W.stepT (denote e) p w s t with
    |none=>rw[hs]at h;exact cE h nt
    |some r=>obtain⟨b,c⟩:=r;rw[hs]at h;rw[stepT_spec hs];exact oZ n b d c h
def HP {N:Nat}{w:World}{o:OsState}{t:SharedT}(h:LX N w o=some t):topRun treeTable PySem.Challenge.pw_pq0764_01 w 11 (some<|.ref 6) N (sT w o).abs (topStub PySem.Challenge.pw_pq0764_01)=some t.abs:=by unfold LX at h;rw[<- PySem.W.Fast.te6613529449190102663,<- PySem.W.Fast.te10156331382660048174,<- PySem.W.Fast.te11892475500146522536,<- PySem.W.Fast.te14364793385576792824]at h;exact oZ _ _ _ _ h
def MY (w)(o:OsState):(sT w o).abs=⟨boot_heap w.params,#[],boot_drawn,boot_toks,o⟩:=by kernel_rfl
def De (w:World):((boot_heap w.params).isNs mainGlobals&&(#[]:Array GenState).size==0,(boot_heap w.params).objs.size,(boot_heap w.params).nsMap mainGlobals "__annotations__")=(true,11,some<|.ref 6):=by kernel_rfl
def P2:opening PySem.Challenge.pw_pq0764_01=plainProg PySem.Challenge.pw_pq0764_01.main.scope.names:=by kernel_rfl
def Oi (s):fenceModules? PySem.Challenge.pw_pq0764_01 s=some s:=by kernel_rfl
def To:LeftO PySem.Challenge.pw_pq0764_01 qv tr (λs=>recOk [] s) xF (λw=>(K0 w.params).map λp=>some p.2) 3400:=λw=>by
 refine cps λC c=>ag (Yv.mp<|boot_open (N:=3400) P2 rfl Oi w) λn e b=>?_;obtain⟨h,g,d,k,o⟩:=n;obtain⟨rfl,rfl,rfl,rfl⟩:h=boot_heap w.params/\g=#[]/\d=boot_drawn/\k=boot_toks:=by simpa using b
 obtain⟨z,j,m⟩:_/\_/\_:=by simpa only[Prod.mk.injEq]using De w
 refine ag (Yv.mp<|Hi w o) λt r l=>?_;obtain⟨a,f,i⟩:_/\_/\_:=by simpa only[Prod.mk.injEq]using l
 have R:=HP r;rw[MY]at R;have T:topFrom treeTable PySem.Challenge.pw_pq0764_01 w 3400 ⟨boot_heap w.params,#[],boot_drawn,boot_toks,o⟩=some t.abs:=by unfold topFrom;rw[z];dsimp only;rw[j,m,R,aat];unfold KR at a;unfold Hj at a;rw[a]
 refine c ?_;unfold openEnds;rw[e,aat,T,Option.map_some];exact Xs some<|Prod.ext f i
noncomputable def CZ(c:Nat):Nat:=match c with
 |0=>91
 |1=>201
 |_=>418
noncomputable def EH(d:Data)(f:Array DictEntry->Nat->β)(z:β):β:=if h:d.ctorIdx=3 then Data.dict.elim (motive:=λ_=>β) d h f else z
def IO {d:Data}{f:Array DictEntry->Nat->Bool}{Q:Data->Prop}(h:EH d f false=true)(k:∀e n,f e n=true->Q (.dict e n)):Q d:=ew h λx=>Data.dict.elim (motive:=λd=>EH d f false=true->Q d) d x k h
noncomputable def Hf(v:Value)(f:Str->PySem.Tok->Bool):Bool:=if h:v.ctorIdx=6 then Value.str.elim (motive:=λ_=>Bool) v h f else false
def JX {v:Value}{f:Str->PySem.Tok->Bool}{Q:Value->Prop}(h:Hf v f=true)(k:∀s t,Q<|.str s t):Q v:=ew h λx=>Value.str.elim (motive:=λv=>Hf v f=true->Q v) v x (λs t _=>k s t) h
def su (K:Frag)(a:Addr):Bool:=match K.lookup a with
 |some o=>EH o.data (λb _=>b.toList.all λe=>Hf e.key λ_ _=>true) false
 |none=>false
def uk (K:Frag)(a:Addr)(x:Str):Option Value:=match K.lookup a with
 |some o=>EH o.data (λe _=>nsFind e x) none
 |none=>none
def GE {K:Frag}{a:Addr}(h:su K a=true){g:Heap}(X:K.In g):g.Ns a<|uk K a:=by
 unfold su at h;cases ho:K.lookup a with
 |none=>rw[ho]at h;exact eI h nt
 |some o=>rw[ho]at h;obtain⟨b,n,c,i⟩:∃b n,o.data=.dict b n/\(b.toList.all λe=>Hf e.key λ_ _=>true)=true:=IO (Q:=λd=>∃b n,d=.dict b n/\(b.toList.all λe=>Hf e.key λ_ _=>true)=true) h λb n q=>⟨b,n,rfl,q⟩;exact⟨o,b,n,X _ _ ho,c,λe f=>(JX (Q:=λv=>∃x t,v=.str x t) (YB.mp i e<|Array.mem_toList_iff.mpr f) λs t=>⟨s,t,rfl⟩),λx=>by unfold uk;rw[ho];show _=EH o.data _ _;rw[c];rfl⟩
def Ny {g:Heap}{a:Addr}{m d:Str->Option Value}(h:g.Ns a m)(l:g.Ns a d)(x:Str):m x=d x:=by refine cps λC p=>cD h λo q n f i _ j=>cD l λs k r e b _ c=>p ?_;rw[f]at e;cases e;rw[i]at b;cases b;rw[<- j,<- c]
def LQ (K:Frag):Bool:=[0,1,2].all λc=>hasDictIn K (CZ c)&&plainOver K (CZ c)&&(findIn K (.ref<|CZ c) "__setattr__"==some (some<|.builtin "object.__setattr__"))
noncomputable def xB(K:Frag)(C:Addr)(x:Str):Bool:=match findIn K (.ref C) x with |some a=>noGet K a|none=>false
def MC (K:Frag):Bool:=[0,1,2].all λc=>(List.range 13).all λf=>!(DD c f)||(plainGet K (CZ c) (yc f)&&xB K (CZ c) (yc f)&&(takerIn K (CZ c) (yc f)==some none))
noncomputable def Mn:Bool:=(List.range 13).all λf=>(List.range 13).all λg=>f==g||!(yc f==yc g)
def NO (K:Frag):Bool:=Hy.all λp=>decide (p.1<3)&&makesIn K (CZ p.1)&&keepIn K (.ref<|CZ p.1)&&(findIn K (.ref<|CZ p.1) "__init__"==some (some<|.ref<|fA<|1000+p.1))&&isFn K (.ref<|fA<|1000+p.1)&&(uk K 3 p.2==some (.ref<|CZ p.1))
def Rf (K:Frag):Bool:=(["len","ord","max","sum","sorted","range","reversed"]:List Str).all λx=>uk K 3 x==none
def Qx (K:Frag):Bool:=Ch.all λp=>keepIn K (.ref<|fA p.1)&&(uk K 3 p.2==some (.ref<|fA p.1))
def Jb (K:Frag):Bool:=FR.all λp=>keepIn K (.ref<|fA p.1)&&plainGet K (CZ 2) p.2&&(findIn K (.ref<|CZ 2) p.2==some (some<|.ref<|fA p.1))&&isFn K (.ref<|fA p.1)&&(List.range 13).all λf=>!(DD 2 f)||!(yc f==p.2)
noncomputable def nS(a:Arguments):Option<|List Str:=if a.posonlyargs.isEmpty&&a.vararg.isNone&&a.kwonlyargs.isEmpty&&a.kw_defaults.isEmpty&&a.kwarg.isNone&&a.defaults.isEmpty then some (a.args.map (·.arg))else none
def wC (K:Frag)(k:Nat)(f:Fn):Bool:=
 (JP.lookup k).isSome&&codeIn K (.ref<|cA k) (qA k)&&(nS (tA<|bL k)==some ((aT k).take f.p))&&decide ((aT k).Nodup)&&decide (f.p<=(aT k).length)&&
 !(bb<|bL k).isCoroutine&&!(bb<|bL k).isGenerator&&((bb<|bL k).kind==.function)&&
 (if k==48||k==63||k==64 then(aT k).all (λx=>(bb<|bL k).names.lookup x==some .local||(bb<|bL k).names.lookup x==some .cell)&&decide (((cellsFrom 0 (bb<|bL k).names []).map (·.1)).Nodup)
 else(bb<|bL k).names.all (λx=>!(x.2==.cell))&&(aT k).all (λx=>(bb<|bL k).names.lookup x==some .local))
def Me (K:Frag):Bool:=R6.all λp=>wC K p.1 p.2
def MZ (K:Frag):Bool:=(findIn K (.ref 44) "__setattr__"==some (some<|.builtin "object.__setattr__"))&&(findIn K (.ref 44) "__getattribute__"==some (some<|.builtin "BaseException.__getattribute__"))&&(findIn K (.ref 44) "__getattr__"==some none)&&
 su K 43&&su K 23&&su K 3&&(uk K 43 "__init__"==some (.ref<|fA 1003))&&(uk K 23 "__init__"==none)&&keepIn K (.ref 44)&&(uk K 3 "FormatError"==some (.ref 44))&&isFn K (.ref<|fA 1003)&&
 (takerIn K 44 "what"==some none)&&xB K 44 "what"&&(takerIn K 44 "at"==some none)&&xB K 44 "at"
def I8:Bool:=decide ((JP.map (·.2)).Nodup)
def c1 (P):LQ (K0 P)=true:=by kernel_rfl
def c2 (P):MC (K0 P)=true:=by kernel_rfl
def c3:Mn=true:=by kernel_rfl
def c4 (P:Params):NO (K0 P)=true:=by kernel_rfl
def c5 (P:Params):Rf (K0 P)=true:=by kernel_rfl
def c6 (P:Params):Qx (K0 P)=true:=by kernel_rfl
def c7 (P):Jb (K0 P)=true:=by kernel_rfl
def c8 (P:Params):Me (K0 P)=true:=by kernel_rfl
def c9 (P:Params):MZ (K0 P)=true:=by kernel_rfl
def Xc:I8=true:=by kernel_rfl
def uq (w:World)(a m:Str->Option Value)(s:Shared):bi:=⟨PySem.Challenge.pw_pq0764_01,w,K0 w.params,a,m,⟨CZ,yc,s.heap,s.os,s.gens⟩,fA,Pv,Qq,Pq⟩
def K1 (h:c<3):c∈[0,1,2]:=by exact(List.mem_range.mpr h:c∈List.range 3)
def tz {K:Frag}{C:Addr}{x:Str}(h:xB K C x=true):∃a,findIn K (.ref C) x=some a/\noGet K a=true:=by
 unfold xB at h;split at h
 ·rename_i a e;exact⟨a,e,h⟩
 ·exact eI h nt
def ti:∀{k:List<|Nat×c},l.lookup a=none->(l++k).lookup a=k.lookup a:=by
 induction l with
 |nil=>intro k _;exact rfl
 |cons p r i=>
  intro k h;obtain⟨b,x⟩:=p;by_cases e:a=b
  ·subst e;simp at h
  ·simp only[Y8,Yk.mpr e]at h
   simp[Y8,Yk.mpr e];exact i h
def yF {l:List<|Nat×Nat}:∀{k a:Nat},(l.map (·.2)).Nodup->(k,a)∈l->(l.map λp=>(p.2,BM p.1)).lookup a=some (BM k):=by
 induction l with
 |nil=>intro _ _ _ h;exact Xw h XY
 |cons c r i=>
  intro k a n h;obtain⟨j,b⟩:=c;rw[af,X9]at n;rcases XE.mp h with e|h
  ·cases e;simp
  ·have:a≠b:=λe=>n.1 (by refine dG e ?_;exact Yp.mpr ⟨(k,a),h,rfl⟩)
   simp[Y8,Yk.mpr this];exact i n.2 h
def On (P:Params):Bool:=JP.all λp=>(Kb P).all (λq=>!(p.2==q.1))&&Kc.all (λq=>!(p.2==q.1))
def Xg (P):On P=true:=by kernel_rfl
def qM {c:Type}{a:Nat}{l:List<|Nat×c}:l.all (λq=>!(a==q.1))=true->l.lookup a=none:=by
 induction l with
 |nil=>intro _;exact rfl
 |cons p r i=>intro h;obtain⟨b,x⟩:=p;simp only[all_cons,Xv,Y1]at h;simp only[Y8,h.1];exact i h.2
def NM (P:Params)(h:(JP.lookup k).isSome=true):(K0 P).lookup (fA k)=some (BM k):=by refine Xq (abl.mp h) λa b=>?_;refine aa (by unfold fA;refine aa b ?_;rfl:fA k=a) ?_;have z:=Xg P;have c:=fb b;have z:=YB.mp z (k,a) c;simp only[Xv]at z;exact aa (ti<|qM z.1)<|aa (ti<|qM z.2)<|yF (YY Xc) c
def I2 {a:Arguments}{x:List Str}(h:nS a=some x){Cx:Prop}(k:∀p:List Arg,a=⟨[],p,none,[],[],none,[]⟩->p.map (·.arg)=x->Cx):Cx:=by refine cx h λq h=>?_;obtain⟨j,b,l,m,n,o,r⟩:=a;simp at q;refine XG (λz i=>?_) q;obtain⟨⟨⟨⟨c,d⟩,e⟩,f⟩,g⟩:=z;exact k b (by rw[c,d,e,f,g,i])<|aA h
section
variable{w:World}{mg mb:Str->Option Value}{s:Shared}
def LB (h:FT k=some f):wC (K0 w.params) k f=true:=by exact YB.mp (c8 w.params) (k,f)<|fb (l:=R6) h
def K2 {k:Nat}{f:Fn}(h1:(JP.lookup k).isSome=true)(m:nS (tA<|bL k)=some ((aT k).take f.p))(q:(aT k).Nodup)(r:f.p<=(aT k).length):
  ∀C:Prop,(∀n p d g a h b c v od o,(uq w mg mb s).K.lookup ((uq w mg mb s).f k)=some ⟨v,od,.func<|fnX n (qA k) p (eE<|bL k) (bb<|bL k) [] d g a h b (.ref<|cA k) c,o⟩->
  (∀j u,u.length=f.p->BindsTo j (fnX n (qA k) p (eE<|bL k) (bb<|bL k) [] d g a h b (.ref<|cA k) c) ⟨u,[]⟩ (((aT k).take f.p).zip u))->C)->C:=λC k=>by
 refine I2 m λi l e=>k (vy<|bL _) (tA<|bL _) .none .none .none (mA _) none .none (.type "function") none #[] (NM w.params h1) λj u t=>BindsTo.of_eq<|dG e<|yK (ps:=i) l rfl ?_ ?_
 ·refine aa e ?_;exact q.sublist<|Z1 _ _
 ·have:(i.map (·.arg)).length=f.p:=by refine aa e<|aa length_take ?_;exact min_eq_left r
  rw[XM]at this;exact HX t this
def tj {k:Nat}{f:Fn}(n:FT k=some f)(n1:k≠48)(p:k≠63)(q:k≠64):pn (uq w mg mb s) k (aT k) f.p (bb<|bL k) (eE<|bL k) (qA k)<|.ref<|cA k:=by
 have h:=LB (w:=w) n;have e:(k==48||k==63||k==64)=false:=by simp[n1,p,q]
 simp only[wC,e,Xv,Zc,if_false,YB,YF,X5,Y1,Yk]at h;have h:=h;refine cps λC o=>bU h λz m a=>?_;refine XG (λz l=>?_) z;obtain⟨⟨⟨⟨⟨⟨h1,d⟩,g⟩,b⟩,c⟩,i⟩,j⟩:=z;exact o<|⟨K2 h1 g b c,d,m,a,b,c,i,j,l⟩
def JQ {k:Nat}{f:Fn}(o:FT k=some f)(n:k=48\/k=63\/k=64):nc (uq w mg mb s) k (aT k) f.p (bb<|bL k) (eE<|bL k) (qA k)<|.ref<|cA k:=by
 have h:=LB (w:=w) o;have e:(k==48||k==63||k==64)=true:=by simpa [or_assoc]using n
 simp only[wC,e,Xv,if_true,YB,YF,X5,Y1,YO]at h;refine cps λC r=>bU h λz m a=>?_;obtain⟨⟨⟨⟨⟨⟨⟨h1,d⟩,g⟩,b⟩,c⟩,i⟩,j⟩,l⟩:=z;refine r<|⟨K2 h1 g b c,d,λx p=>?_,a,b,c,i,j,l⟩;rcases m x p with q|q
 ·exact .inl q
 ·exact .inr ⟨q,λn=>cellsFrom_some _ n []<|.inl q⟩
def Bw (a:s.heap.Ns mainGlobals mg)(X:(K0 w.params).In s.heap)(x):mg x=uk (K0 w.params) 3 x:=by have h:=c9 w.params;simp only[MZ,Xv]at h;exact Ny a (GE h.1.1.1.1.1.1.1.1.1.2 X) x
def RV (d:s.heap.Ns mainGlobals mg)(X:(K0 w.params).In s.heap):mH (uq w mg mb s) where
 dict c hc:=by have h:=c1 w.params;have h:=YB.mp h c<|K1 hc;simp only[Xv,YF]at h;exact⟨h.1.1,h.1.2,h.2⟩
 fld c f hf:=by have l:=k7 hf;have h:=c2 w.params;have h:=YB.mp (YB.mp h c<|K1 l.1) f<|List.mem_range.mpr l.2;simp only[hf,Bool.not_true,Bool.false_or,Xv,YF]at h;exact⟨h.1.1,tz h.1.2,h.2⟩
 a f g hf d e:=by have h:=c3;have h:=YB.mp (YB.mp h f<|List.mem_range.mpr hf) g<|List.mem_range.mpr d;simp only[YO,YF,Y1,Yk]at h;exact h.resolve_right λq=>q e
 cls c x hx:=by have h:=c4 w.params;have h:=YB.mp h (c,x)<|fb (l:=Hy) hx;simp only[Xv,YF,X5]at h;refine cps λC p=>XG (λz r=>?_) h;refine XG (λz o=>?_) z;obtain⟨⟨⟨h1,i⟩,j⟩,n⟩:=z;exact p<|⟨h1,i,j,n,o,(Bw d X x).trans r⟩
 b x hx:=by have h:=c5 w.params;have h:=YB.mp h x hx;simp only[YF]at h;exact(Bw d X x).trans h
 fn k x hx:=by have h:=c6 w.params;have h:=YB.mp h (k,x)<|fb (l:=Ch) hx;simp only[Xv,YF]at h;exact⟨h.1,(Bw d X x).trans h.2⟩
 m k x hx:=by have h:=c7 w.params;have h:=YB.mp h (k,x)<|fb (l:=FR) hx;simp only[Xv,YF]at h;refine cps λC p=>XG (λz o=>?_) h;refine XG (λz n=>?_) z;obtain⟨⟨h1,i⟩,j⟩:=z;refine p<|⟨h1,i,j,n,λf hf e=>?_⟩;have:=YB.mp o f<|List.mem_range.mpr (k7 hf).2;simp only[hf,Bool.not_true,Bool.false_or,Y1,Yk]at this;exact this e
end
section
variable{w:World}{mg mb:Str->Option Value}{s:Shared}
def Rl (q:s.heap.Ns mainGlobals mg)(X:(K0 w.params).In s.heap):XK (uq w mg mb s) 44 24 (fA 1003) "FormatError" "what" "at":=by have h:=c9 w.params;simp only[MZ,Xv,YF]at h;refine cps λC r=>?_;obtain⟨⟨⟨⟨⟨⟨⟨⟨⟨⟨⟨⟨⟨⟨h1,i⟩,j⟩,l⟩,m⟩,t⟩,n⟩,o⟩,p⟩,a⟩,b⟩,c⟩,d⟩,e⟩,f⟩:=h;exact r<|⟨⟨⟨_,rfl,rfl,rfl⟩,h1,i,j⟩,λ_ k=>k _ _ _ _ _ _ _ _ _ _ _ _ _ _ (uk (K0 w.params) 43) rfl (λg X=>GE l X) n,λg X=>.own (X 24 _ rfl) (GE m X) o .base,p,(Bw q X _).trans a,b,(λ_ k=>k (bb<|bL 1003) (qA 1003) (.ref<|cA 1003) "self" _ _ _ _ _ _ _ _ (tj (f:=gQ) rfl (by decide) (by decide) (by decide)) rfl (by decide) (by decide) (by decide)),⟨c,tz d⟩,⟨e,tz f⟩,by decide⟩
def I5:sZ (uq w mg mb s) "what" "at" "fault" "rename" "FormatError" (aT 62) (bb<|bL 62) (eE<|bL 62) (qA 62) (.ref<|cA 62) where
 fn:=tj (f:=sb) rfl (by decide) (by decide) (by decide)
 len:=rfl
 d:=by decide
 n:=rfl
 e:=rfl
 f:=rfl
 c:=rfl
 a:=rfl
 b:=rfl
 o:=rfl
 body:=λ_ k=>k _ _ _ _ _ _ _ _ _ _ _ _ _ _ _ _ _ _ _ _ rfl
def TA (b:s.heap.Ns mainGlobals mg)(X:(K0 w.params).In s.heap):Iq (uq w mg mb s) 44 24 (fA 1003) where
 tabs:=⟨rfl,rfl,rfl,rfl⟩
 a:=RV b X
 x:=Rl b X
 plain k f hf h1 h2 h3 _:=⟨_,_,tj hf h1 h2 h3⟩
 cell k f hf h:=⟨_,_,JQ hf h⟩
 told:=⟨_,_,_,_,_,I5⟩
end
def Tw:PySem.Challenge.rw_pq0764_01.wellSaid=true:=by refine aa PySem.W.Fast.te9446332074065402090 ?_;kernel_rfl
def ML:DefRec:=⟨vy<|bL 64,tA<|bL 64,eE<|bL 64,bb<|bL 64,match bL 64 with | .FunctionDef _ _ _ _ _ _ _ _ _ p=>p|_=>⟨0,0,0,0⟩⟩
def claim (H:∀n:List Int,n.length<=63->∃d D,d<=100/\wr d n=some (.r<|.b true,D)):PySem.Challenge.rw_pq0764_01.Holds:=by
 refine holds_law Tw λsd=>?_;have lf:LeftO PySem.Challenge.rw_pq0764_01.row.prog qv tr (λs=>recOk [] s) xF (λw=>(K0 w.params).map λp=>some p.2) 3400:=To;have R:∀(w:World) (s:Shared),xF s=(K0 w.params).map (λp=>some p.2)->(K0 w.params).In s.heap:=λw s e=>Frag.in_of (K:=K0 w.params) (as:=Vr) rfl e;refine PySem.W.holds_open (r:=PySem.Challenge.rw_pq0764_01.row) (q:=qv) (loose:=tr) (Xt:=λs=>recOk [] s) (XP:=λ_ _=>True) (Yf:=xF) (Ya:=λw=>(K0 w.params).map λp=>some p.2) (YP:=λw h=>(K0 w.params).In h) (d:=ML) (kwd:=[]) (N:=3400)
  lf R (λw h h' x k=>Frag.In.keeps x k) (λ_ _=>trivial) (λ_ _ _ _ _=>trivial) ?_ ?_ ?_ (λs e=>recFacts_of e) rfl sd ?_ ⟨rfl,rfl,rfl,rfl,rfl,by decide+kernel⟩ ?_ ?_
 ·kernel_rfl
 ·kernel_rfl
 ·kernel_rfl
 ·kernel_rfl
 ·exact⟨[.list []],by decide+kernel,by decide+kernel⟩
 ·intro w I b m C G Y a o pm cd P F kV ho hd W hD g X E J as i c z A v
  wrow_args i c z A v
  rename_i n hs u Q hr1 hl2 L M sc us N hL ra w1 r0 hI hr T U;have f:n.length<=63:=by lia
  refine dJ (H n f) λdd D r j=>?_;have Z:=TA (w:=w) (mb:=C) (s:=b) G.T.g Y;have S:a=fA 64:=by have q:=(Z.a.fn 64 "law" rfl).2;have q':m "law"=some (.ref a):=g;have l:m "law"=some (.ref<|fA 64):=q;rw[q']at l;exact Value.ref.inj<|Zd l
  clear g ho;subst S;have B:m7 (uq w m C b) b.heap:=⟨G.T.g,G.T.b,G.T.nolimit,G.T.builtins,Y,⟨_,Y 1 _ rfl⟩⟩;refine enter_call ?_;refine HE (P:=uq w m C b) Z r B rfl rfl rfl hL hI j λs' hk y t=>?_;refine GoodW.toG ⟨.inl ⟨.bool true,.bool true,[],rfl,λO=>?_,?_,?_,?_⟩,hk,y,t.trans X⟩
  ·rfl
  ·exact .bool _
  ·refine postW_of (by wrow_shape) (by wtm_val) ?_
   rfl
  ·exactλ_=>⟨.nil,λ_ h=>nomatch h⟩
end Mine
end
end
theorem PySem.Challenge.cw_pq0764_01_holds : PySem.Challenge.rw_pq0764_01.Holds :=
  Mine.claim Mine.law_ok
